import PyProof.Rows.All
import Wide.All
import OpenK.AllK
import Wide.FinOn
import HandS.ForMost
import HandS.Wide
import HandS.IsInst
import HandS.Evl
import HandS.Walk
import HandS.Strs
import HandS.Conv
import HandS.ClsMeth
import HandS.DictComp
import KE.KSuper
import KE.KExcSuper
import KE.KExcIs
import KE.RegKSuper
import KE.RegKIsAll
import KE.RegKTryMore
import HandS.ForExc
import HandS.ExcInit
import HandS.ExcIs
import HandS.ExcField
import HandS.Star
import HandS.Property
import HandS.HotCalls
import HandS.Codes
import HandS.Defaults
import HandS.MakeKw
import HandS.More
import HandS.FStr
import HandS.Finally
import HandS.Style
import PyProof.P3Eq
import HandS.Star
import HandS.WordsExc
import HandS.RaiseMore
import HandS.TryOnly
import HandS.Property
import PyProof.InstNe
import HandS.ExcInitHot
import KE.GoesMore
import PyProof.EnumMake
import KE.KStar
import PyProof.ReprRoads
import PyProof.ReprBulk
import HandS.IterNext
import HandS.IterVal
import HandS.Lambda
import HandS.TupAny
import KE.OsRunLaw
import HandS.Ends
import HandS.Iter
import HandS.OwnIter
import PyProof.FitsInt
import PyProof.Rows.ReprOcc
import PyProof.Rows.StrJoinMade
import PyProof.StrLawsRepr
import HandS.EndTab
import HandS.EndBits
import HandS.ExcOwn
import HandS.CallSlots
import KE.KDictList
import PyProof.LongRange
import HandS.Head0
import HandS.Head1
import HandS.Head2
import HandS.HeadEnd
import HandS.HeadHook1
import HandS.HeadHook2
import HandS.ExcInit
import HandS.Defaults
import KE.KSuper
import PySem.Challenge.RW_codestitch_k07_image_bytes
import HandS.EndOwn
import KE.KNestM
import KE.KOpsOwn
import HandS.Base
import HandS.Call
set_option Elab.async false
set_option linter.all false
set_option maxRecDepth 100000
set_option maxHeartbeats 4000000
open PySem PySem.Spec PyProof.Rows L2
/-! Vc: edges between abstract heaps, and readings answered step by step (my own layer over HandS). -/
namespace Vc
open PySem PySem.Spec PyProof.Rows L2

/-! ### edges: H' comes from H; at most the objects of S were changed -/
structure Ed (S : List Addr) (H H' : Hp) : Prop where
  keep : ∀ a o, a ∉ S → H a = some o → H' a = some o
  tup : ∀ a xs, H a = some (.tup xs) → H' a = some (.tup xs)
  frz : ∀ a o u, H a = some (.frz o u) → H' a = some (.frz o u)
  dom : ∀ a, H' a = none → H a = none
theorem Ed.refl {S : List Addr} {H : Hp} : Ed S H H := ⟨fun _ _ _ h => h, fun _ _ h => h, fun _ _ _ h => h, fun _ h => h⟩
theorem Ed.new {S : List Addr} {H : Hp} {p : Addr} {o : HO} (h : H p = none) : Ed S H (upd H p o) where
  keep := fun a u _ e => by rw [upd_ne (ne_of_none e h)]; exact e
  tup := fun a u e => by rw [upd_ne (ne_of_none e h)]; exact e
  frz := fun a _ u e => by rw [upd_ne (ne_of_none e h)]; exact e
  dom := fun a e => by
    by_cases q : a = p
    · rw [q]; exact h
    · rw [upd_ne q] at e; exact e
theorem Ed.mut {H : Hp} {p : Addr} {o u : HO} (h : H p = some u) (m : Mut (some u)) : Ed [p] H (upd H p o) where
  keep := fun a v ha e => by
    have : a ≠ p := fun q => ha (by rw [q]; exact List.mem_singleton.mpr rfl)
    rw [upd_ne this]; exact e
  tup := fun a xs e => by
    have : a ≠ p := fun q => by rw [q, h] at e; cases e; exact m
    rw [upd_ne this]; exact e
  frz := fun a _ xs e => by
    have : a ≠ p := fun q => by rw [q, h] at e; cases e; exact m
    rw [upd_ne this]; exact e
  dom := fun a e => by
    by_cases q : a = p
    · subst q; rw [upd_same] at e; cases e
    · rw [upd_ne q] at e; exact e
theorem Ed.trans {S T : List Addr} {H H1 H2 : Hp} (a : Ed S H H1) (b : Ed T H1 H2) (hs : ∀ x ∈ T, x ∈ S ∨ H x = none) : Ed S H H2 where
  keep := fun x o hx e => by
    have e1 := a.keep x o hx e
    refine b.keep x o (fun z => ?_) e1
    rcases hs x z with q | q
    · exact hx q
    · rw [e] at q; cases q
  tup := fun x o e => b.tup x o (a.tup x o e)
  frz := fun x o u e => b.frz x o u (a.frz x o u e)
  dom := fun x e => a.dom x (b.dom x e)
theorem Ed.mono {S T : List Addr} {H H1 : Hp} (a : Ed S H H1) (hs : ∀ x ∈ S, x ∈ T) : Ed T H H1 :=
  ⟨fun x o hx e => a.keep x o (fun z => hx (hs x z)) e, a.tup, a.frz, a.dom⟩
theorem Ed.ex {S : List Addr} {H H1 H2 : Hp} (a : Ed S H H1) (b : Ed [] H1 H2) : Ed S H H2 := a.trans b fun _ z => nomatch z
theorem Ed.one {S : List Addr} {H H1 H2 : Hp} {p : Addr} (a : Ed S H H1) (b : Ed [p] H1 H2) (h : p ∈ S ∨ H p = none) : Ed S H H2 :=
  a.trans b fun x z => by rw [List.mem_singleton.mp z]; exact h
theorem Ed.same {H H' : Hp} (e : Ed [] H H') : Same H H' := fun a o h => e.keep a o (fun z => nomatch z) h
theorem Ed.at0 {H H' : Hp} {a : Addr} {o : HO} (e : Ed [] H H') (h : H a = some o) : H' a = some o := e.keep a o (fun z => nomatch z) h
theorem Ed.at1 {H H' : Hp} {a p : Addr} {o : HO} (e : Ed [p] H H') (n : a ≠ p) (h : H a = some o) : H' a = some o := e.keep a o (fun z => n (List.mem_singleton.mp z)) h
theorem Ed.at2 {H H' : Hp} {a p q : Addr} {o : HO} (e : Ed [p, q] H H') (n : a ≠ p) (m : a ≠ q) (h : H a = some o) : H' a = some o := e.keep a o (fun z => by
  rcases List.mem_cons.mp z with z | z
  · exact n z
  · exact m (List.mem_singleton.mp z)) h
theorem Ed.rdt {S : List Addr} {H H' : Hp} {a : Addr} {xs : List V} (e : Ed S H H') (h : Rd H a (.tup xs)) : Rd H' a (.tup xs) := by
  rcases h with h | ⟨o, h⟩
  · exact .inl (e.tup _ _ h)
  · exact .inr ⟨o, e.frz _ _ _ h⟩
theorem Ed.sqt {K : PySem.W.Frag} {S : List Addr} {H H' : Hp} {a : Addr} {xs : List V} (e : Ed S H H') (h : SqT K H a xs) : SqT K H' a xs := by
  rcases h with h | h
  · exact .inl (e.rdt h)
  · exact .inr h
theorem Ed.sql {K : PySem.W.Frag} {S : List Addr} {H H' : Hp} {a : Addr} {xs : List V} (e : Ed S H H') (n : a ∉ S) (h : SqL K H a xs) : SqL K H' a xs := by
  rcases h with (h | ⟨o, h⟩) | h
  · exact .inl (.inl (e.keep _ _ n h))
  · exact .inl (.inr ⟨o, e.frz _ _ _ h⟩)
  · exact .inr h
theorem Ed.sql0 {K : PySem.W.Frag} {H H' : Hp} {a : Addr} {xs : List V} (e : Ed [] H H') (h : SqL K H a xs) : SqL K H' a xs := e.sql (fun z => nomatch z) h
theorem Ed.sql1 {K : PySem.W.Frag} {H H' : Hp} {a p : Addr} {xs : List V} (e : Ed [p] H H') (n : a ≠ p) (h : SqL K H a xs) : SqL K H' a xs := e.sql (fun z => n (List.mem_singleton.mp z)) h
/-- a list that is read; p holds no list -/
theorem Ed.sqlk {K : PySem.W.Frag} {H H' : Hp} {a p : Addr} {o : HO} {xs : List V} (e : Ed [p] H H') (hp : H p = some o) (n : ∀ ys, o ≠ .lst ys) (h : SqL K H a xs) : SqL K H' a xs := by
  rcases h with (h | ⟨ob, h⟩) | h
  · exact .inl (.inl (e.keep _ _ (fun z => by rw [List.mem_singleton.mp z, hp] at h; cases h; exact n xs rfl) h))
  · exact .inl (.inr ⟨ob, e.frz _ _ _ h⟩)
  · exact .inr h

/-! ### data stay -/
mutual
theorem Dp.ed {K : PySem.W.Frag} {S : List Addr} {H H' : Hp} (e : Ed S H H') (hS : ∀ a ∈ S, ∀ xs, H a ≠ some (.lst xs)) : ∀ (d : PyData) (v : V), Dp K H v d → Dp K H' v d
  | .none, _, h => by cases h; exact .non
  | .bool b, _, h => by cases h; exact .bl b
  | .int i, _, h => by cases h; exact .int i
  | .str x, _, h => by cases h; exact .str x
  | .list ds, _, h => by
    cases h with
    | lst ha hd =>
      refine .lst ?_ (Dp.edAll e hS ds _ hd)
      rcases ha with (ha | ⟨ob, ha⟩) | ha
      · exact .inl (.inl (e.keep _ _ (fun z => hS _ z _ ha) ha))
      · exact .inl (.inr ⟨ob, e.frz _ _ _ ha⟩)
      · exact .inr ha
  | .tuple ds, _, h => by
    cases h with
    | tup ha hd => exact .tup (e.sqt ha) (Dp.edAll e hS ds _ hd)
theorem Dp.edAll {K : PySem.W.Frag} {S : List Addr} {H H' : Hp} (e : Ed S H H') (hS : ∀ a ∈ S, ∀ xs, H a ≠ some (.lst xs)) : ∀ (ds : List PyData) (vs : List V), DpAll K H vs ds → DpAll K H' vs ds
  | [], _, h => by cases h; exact .nil
  | d :: ds, _, h => by
    cases h with
    | cons h1 h2 => exact .cons (Dp.ed e hS d _ h1) (Dp.edAll e hS ds _ h2)
end
theorem Dp.ed0 {K : PySem.W.Frag} {H H' : Hp} {d : PyData} {v : V} (e : Ed [] H H') (h : Dp K H v d) : Dp K H' v d := Dp.ed e (fun _ z => nomatch z) d v h

/-! ### readings, step by step: what is left is stated without its binders -/
section
variable {K : PySem.W.Frag} {σ : L2.St} {H : Hp} {D : Ends} {Q : VK} {QB : Bool → Hp → Prop} {QA : List V → Hp → Prop} {te ta tb : TE} {tt tu : TT} {t u : TS} {g : TG} {v x y : V} {i j : Int}
-- statements
theorem go_seq (h : t { D with nx := u D } σ H) : tSeq t u D σ H := h
theorem go_asg (h : te σ H fun x H1 => g x σ H1 D.nx) : tAsg te g D σ H := h
theorem go_drop (h : te σ H fun _ H1 => D.nx σ H1) : tDrop te D σ H := h
theorem go_ret (h : te σ H D.rt) : tRet te D σ H := h
theorem go_retN (h : D.rt .non H) : tRetN D σ H := h
theorem go_next (h : D.nx σ H) : tNext D σ H := h
theorem go_break (h : D.bk σ H) : tBreak D σ H := h
theorem go_cont (h : D.ct σ H) : tCont D σ H := h
theorem go_ifS (h : tt σ H fun b H1 => if b = true then t D σ H1 else u D σ H1) : tIfS tt t u D σ H := h
theorem go_name {n : Nat} {R : L2.St → Hp → Prop} (h : R (σ.set n (some v)) H) : gName n v σ H R := h
-- tests
theorem go_test (h : te σ H fun x H' => ∃ k, x = .bl k ∧ QB k H') : tTest te σ H QB := h
theorem go_B (h : te σ H fun x H' => ∃ k, x = .bl k ∧ QB k H') : tB te σ H QB := h
theorem go_bl {b : Bool} {R : Bool → Prop} (h : R b) : ∃ k, V.bl b = .bl k ∧ R k := ⟨b, rfl, h⟩
theorem go_notT (h : tt σ H fun c H1 => QB (!c) H1) : tNot tt σ H QB := h
theorem go_andT (h : tt σ H fun c H1 => if c = true then tu σ H1 QB else QB false H1) : tAnd tt tu σ H QB := h
theorem go_orT (h : tt σ H fun c H1 => if c = true then QB true H1 else tu σ H1 QB) : tOr tt tu σ H QB := h
theorem go_yes (h : QB true H) : tYes σ H QB := h
-- values
theorem go_var {n : Nat} (e : σ[n]? = some (some v)) (h : Q v H) : tVar n σ H Q := ⟨v, e, h⟩
theorem go_c (h : Q v H) : tC v σ H Q := h
theorem go_op {r : R2} (h : ta σ H fun x H1 => tb σ H1 fun y H2 => r x y H2 Q) : tOp r ta tb σ H Q := h
theorem go_un {r : V → Hp → VK → Prop} (h : ta σ H fun x H1 => r x H1 Q) : tUn r ta σ H Q := h
theorem go_andV (h : ta σ H fun x H1 => ∃ c, x = .bl c ∧ if c = true then tb σ H1 Q else Q (.bl false) H1) : tAndV ta tb σ H Q := h
theorem go_orV (h : ta σ H fun x H1 => ∃ c, x = .bl c ∧ if c = true then Q (.bl true) H1 else tb σ H1 Q) : tOrV ta tb σ H Q := h
theorem go_notV (h : ta σ H fun x H1 => ∃ c, x = .bl c ∧ Q (.bl (!c)) H1) : tNotV ta σ H Q := h
theorem go_blP {b : Bool} {P : Bool → Prop} (h : P b) : ∃ c, V.bl b = .bl c ∧ P c := ⟨b, rfl, h⟩
theorem go_if (h : tt σ H fun c H1 => if c = true then ta σ H1 Q else tb σ H1 Q) : tIf tt ta tb σ H Q := h
theorem go_I0 {f : Int → Int → V} (h : Q (f i j) H) : rI0 f (.int i) (.int j) H Q := ⟨i, j, rfl, rfl, h⟩
theorem go_I {C : Int → Int → Prop} {f : Int → Int → V} (hc : C i j) (h : Q (f i j) H) : rI C f (.int i) (.int j) H Q := ⟨i, j, rfl, rfl, hc, h⟩
theorem go_U {f : Int → V} (h : Q (f i) H) : rU f (.int i) H Q := ⟨i, rfl, h⟩
theorem go_eqI (h : Q (.bl (decide (i = j))) H) : rEq (.int i) (.int j) H Q := ⟨rfl, by
  have : decide (V.int i = V.int j) = decide (i = j) := by rw [Bool.eq_iff_iff]; simp
  rw [this]; exact h⟩
theorem go_neI (h : Q (.bl (!decide (i = j))) H) : rNe (.int i) (.int j) H Q := ⟨rfl, by
  have : decide (V.int i = V.int j) = decide (i = j) := by rw [Bool.eq_iff_iff]; simp
  rw [this]; exact h⟩
theorem go_eqS {a b : Str} (h : Q (.bl (decide (a = b))) H) : rEq (.str a) (.str b) H Q := ⟨rfl, by
  have : decide (V.str a = V.str b) = decide (a = b) := by rw [Bool.eq_iff_iff]; simp
  rw [this]; exact h⟩
theorem go_neS {a b : Str} (h : Q (.bl (!decide (a = b))) H) : rNe (.str a) (.str b) H Q := ⟨rfl, by
  have : decide (V.str a = V.str b) = decide (a = b) := by rw [Bool.eq_iff_iff]; simp
  rw [this]; exact h⟩
theorem go_eqB {a b : Bool} (h : Q (.bl (decide (a = b))) H) : rEq (.bl a) (.bl b) H Q := ⟨rfl, by
  have : decide (V.bl a = V.bl b) = decide (a = b) := by rw [Bool.eq_iff_iff]; simp
  rw [this]; exact h⟩
theorem go_neB {a b : Bool} (h : Q (.bl (!decide (a = b))) H) : rNe (.bl a) (.bl b) H Q := ⟨rfl, by
  have : decide (V.bl a = V.bl b) = decide (a = b) := by rw [Bool.eq_iff_iff]; simp
  rw [this]; exact h⟩
theorem go_eqg (hs : scal x y = true) (h : Q (.bl (decide (x = y))) H) : rEq x y H Q := ⟨hs, h⟩
theorem go_neg (hs : scal x y = true) (h : Q (.bl (!decide (x = y))) H) : rNe x y H Q := ⟨hs, h⟩
theorem go_cb {r : List V → Hp → VK → Prop} {ts : TA} (h : ts σ H fun vs H1 => r vs H1 Q) : tCB r ts σ H Q := h
theorem go_nil (h : QA [] H) : tNil σ H QA := h
theorem go_cons {tr : TA} (h : ta σ H fun x H1 => tr σ H1 fun xs H2 => QA (x :: xs) H2) : tCons ta tr σ H QA := h
theorem go_call {sp : Sp} {E : XK} {ts : TA} (h : ts σ H fun vs H1 => sp vs H1 Q E) : tCall sp [] E ts σ H Q := by
  unfold tCall
  simpa only [List.append_nil] using h
theorem go_tup {ts : TA} (h : ts σ H fun xs H1 => xs.length ≤ sizeLine ∧ ∀ p, H1 p = none → Q (.ref p) (upd H1 p (.tup xs))) : tTup ts σ H Q := h
theorem go_lst {ts : TA} (h : ts σ H fun xs H1 => xs.length ≤ sizeLine ∧ ∀ p, H1 p = none → Q (.ref p) (upd H1 p (.lst xs))) : tLst ts σ H Q := h
theorem go_len {xs : List V} {P : Prop} (hl : xs.length ≤ 1000) (h : P) : xs.length ≤ sizeLine ∧ P := ⟨Nat.le_of_lt (small1000 hl), h⟩
theorem go_dnew (h : ∀ p, H p = none → Q (.ref p) (upd H p (.dK []))) : tDNewK σ H Q := h
theorem go_dget (h : ta σ H fun x H1 => tb σ H1 fun y H2 => ∃ a v, x = .ref a ∧ DGet H2 a y (some v) ∧ Q v H2) : tDGet ta tb σ H Q := h
theorem go_dgetS {a : Addr} {k : Str} {kvs : List (Key × V)} {v : V} {R : V → Prop} (e : H a = some (.dK kvs)) (ev : valV kvs (.inr k) = some v) (h : R v) : ∃ a' v', V.ref a = .ref a' ∧ DGet H a' (.str k) (some v') ∧ R v' :=
  ⟨a, v, rfl, by rw [← ev]; exact DGet.k (k := .inr k) e, h⟩
theorem go_dgetI {a : Addr} {k : Int} {kvs : List (Key × V)} {v : V} {R : V → Prop} (e : H a = some (.dK kvs)) (ev : valV kvs (.inl k) = some v) (h : R v) : ∃ a' v', V.ref a = .ref a' ∧ DGet H a' (.int k) (some v') ∧ R v' :=
  ⟨a, v, rfl, by rw [← ev]; exact DGet.k (k := .inl k) e, h⟩
theorem go_din (h : ta σ H fun y H1 => tb σ H1 fun x H2 => ∃ a o, x = .ref a ∧ DGet H2 a y o ∧ Q (.bl o.isSome) H2) : tDIn ta tb σ H Q := h
theorem go_dnotin (h : ta σ H fun y H1 => tb σ H1 fun x H2 => ∃ a o, x = .ref a ∧ DGet H2 a y o ∧ Q (.bl (!o.isSome)) H2) : tDNotIn ta tb σ H Q := h
theorem go_dinI {a : Addr} {k : Int} {kvs : List (Key × V)} {P : Option V → Prop} (e : H a = some (.dK kvs)) (h : P (valV kvs (.inl k))) : ∃ a' o, V.ref a = .ref a' ∧ DGet H a' (.int k) o ∧ P o :=
  ⟨a, _, rfl, DGet.k (k := .inl k) e, h⟩
theorem go_dput {tv : TE} (h : tv σ H fun v H1 => ta σ H1 fun x H2 => tb σ H2 fun y H3 => ∃ a H4, x = .ref a ∧ DPut H3 a y v H4 ∧ D.nx σ H4) : sDPut ta tb tv D σ H := h
theorem go_dputS {a : Addr} {k : Str} {kvs : List (Key × V)} {v : V} {P : Hp → Prop} (e : H a = some (.dK kvs)) (hl : kvs.length ≤ 1000) (h : P (upd H a (.dK (putK kvs (.inr k) v)))) : ∃ a' H4, V.ref a = .ref a' ∧ DPut H a' (.str k) v H4 ∧ P H4 :=
  ⟨a, _, rfl, DPut.k (k := .inr k) e (small1000 hl), h⟩
theorem go_dputI {a : Addr} {k : Int} {kvs : List (Key × V)} {v : V} {P : Hp → Prop} (e : H a = some (.dK kvs)) (hl : kvs.length ≤ 1000) (h : P (upd H a (.dK (putK kvs (.inl k) v)))) : ∃ a' H4, V.ref a = .ref a' ∧ DPut H a' (.int k) v H4 ∧ P H4 :=
  ⟨a, _, rfl, DPut.k (k := .inl k) e (small1000 hl), h⟩
theorem go_ixL {p : Addr} {xs : List V} (hs : SqL K H p xs) (ha : atI xs i = some v) (h : Q v H) : rIxL K (.ref p) (.int i) H Q := ⟨p, xs, i, v, rfl, rfl, hs, ha, h⟩
theorem go_ixT {p : Addr} {xs : List V} (hs : SqT K H p xs) (ha : atI xs i = some v) (h : Q v H) : rIxT K (.ref p) (.int i) H Q := ⟨p, xs, i, v, rfl, rfl, hs, ha, h⟩
theorem go_ixS {z : Str} {c : Nat} (hz : z.length ≤ 1000) (ha : atI z.cps.toList i = some c) (h : Q (.str ⟨#[c]⟩) H) : rIxS (.str z) (.int i) H Q := ⟨z, i, c, rfl, rfl, Nat.le_of_lt (small1000 hz), ha, h⟩
theorem go_sl {r : V → Option Int → Option Int → Hp → VK → Prop} {tl th : TO} (h : te σ H fun x H1 => tl σ H1 fun l H2 => th σ H2 fun u H3 => r x l u H3 Q) : tSl r te tl th σ H Q := h
theorem go_nopart {QO : Option Int → Hp → Prop} (h : QO none H) : tNoPart σ H QO := h
theorem go_part {QO : Option Int → Hp → Prop} (h : te σ H fun x H1 => ∃ i, x = .int i ∧ QO (some i) H1) : tPart te σ H QO := h
theorem go_partI {P : Int → Prop} (h : P i) : ∃ j, V.int i = .int j ∧ P j := ⟨i, rfl, h⟩
theorem go_slL {p : Addr} {xs : List V} {lo hi : Option Int} (hs : SqL K H p xs) (h : ∀ q, H q = none → Q (.ref q) (upd H q (.lst (cutV xs lo hi)))) : rSlL K (.ref p) lo hi H Q := ⟨p, xs, rfl, hs, h⟩
theorem go_slS {z : Str} {lo hi : Option Int} (hz : z.length ≤ 1000) (h : Q (.str (cutS z lo hi)) H) : rSlS (.str z) lo hi H Q := ⟨z, rfl, Nat.le_of_lt (small1000 hz), h⟩
theorem go_abs {R : Int → Prop} (h : R i) : ∃ j, [V.int i] = [.int j] ∧ R j := ⟨i, rfl, h⟩
theorem go_int1 {R : Int → Prop} {R' : Bool → Prop} (h : R i) : (∃ j, [V.int i] = [.int j] ∧ R j) ∨ ∃ k, [V.int i] = [.bl k] ∧ R' k := .inl ⟨i, rfl, h⟩
theorem go_int1b {k : Bool} {R : Int → Prop} {R' : Bool → Prop} (h : R' k) : (∃ j, [V.bl k] = [.int j] ∧ R j) ∨ ∃ k', [V.bl k] = [.bl k'] ∧ R' k' := .inr ⟨k, rfl, h⟩
theorem go_bm {T : String} {r : V → List V → Hp → VK → Prop} {to : TE} {ts : TA} (h : to σ H fun x H1 => tyV K T x H1 ∧ ts σ H1 fun xs H2 => r x xs H2 Q) : tBM K T r to ts σ H Q := h
theorem go_bm0 {T : String} {r : V → List V → Hp → VK → Prop} {to : TE} (h : to σ H fun x H1 => tyV K T x H1 ∧ r x [] H1 Q) : tBM0 K T r to σ H Q := h
theorem go_tyL {p : Addr} {xs : List V} {P : Prop} (e : SqL K H p xs) (h : P) : tyV K "list" (.ref p) H ∧ P := ⟨.inl ⟨rfl, xs, e⟩, h⟩
theorem go_append {p : Addr} {xs : List V} (e : H p = some (.lst xs)) (hl : xs.length ≤ 1000) (h : Q .non (upd H p (.lst (xs ++ [v])))) : rAppend (.ref p) [v] H Q := ⟨p, xs, v, rfl, rfl, e, small1000 hl, h⟩
theorem go_lenL {p : Addr} {xs : List V} {R : List V → Prop} (e : SqL K H p xs) (h : R xs) : ∃ q ys, [V.ref p] = [.ref q] ∧ (SqL K H q ys ∨ SqT K H q ys) ∧ R ys := ⟨p, xs, rfl, .inl e, h⟩
theorem go_lenT {p : Addr} {xs : List V} {R : List V → Prop} (e : SqT K H p xs) (h : R xs) : ∃ q ys, [V.ref p] = [.ref q] ∧ (SqL K H q ys ∨ SqT K H q ys) ∧ R ys := ⟨p, xs, rfl, .inr e, h⟩
theorem go_for {wi : TI} (h : wi σ H fun J H1 => ∃ W : Nat → Nat → L2.St → Hp → Prop, (∃ m, W 0 m σ H1) ∧ ∀ i m σ H, W i m σ H →
  (J.stop i H ∧ D.nx σ H) ∨ (J.go i H ∧ ∃ N : L2.St → Hp → Prop, (∀ σ' H', N σ' H' → ∃ m', m' < m ∧ W (i + 1) m' σ' H') ∧ ∀ x H', J.yld i H x H' → g x σ H' fun σ2 H2 => t { D with nx := N, ct := N, bk := D.nx } σ2 H2)) : tFor wi g t D σ H := h
theorem go_iList {tl : TE} {R : It → Hp → Prop} (h : tl σ H fun x H1 => ∃ a, x = .ref a ∧ (∃ xs, SqL K H1 a xs) ∧ R (Itl K a) H1) : iList K tl σ H R := h
theorem go_iTup {tl : TE} {R : It → Hp → Prop} (h : tl σ H fun x H1 => ∃ a, x = .ref a ∧ (∃ xs, SqT K H1 a xs) ∧ R (Itt K a) H1) : iTup K tl σ H R := h
theorem go_iRng1 {ts : TA} {R : It → Hp → Prop} (h : ts σ H fun vs H1 => ∃ j : Int, vs = [.int j] ∧ -(2 ^ 62) ≤ j ∧ j < 2 ^ 62 ∧ R (Itr 0 j.toNat) H1) : iRng1 ts σ H R := h
theorem go_iRng2 {ts : TA} {R : It → Hp → Prop} (h : ts σ H fun vs H1 => ∃ i j : Int, vs = [.int i, .int j] ∧ (-(2 ^ 62) ≤ i ∧ i < 2 ^ 62 ∧ -(2 ^ 62) ≤ j ∧ j < 2 ^ 62) ∧ R (Itr i (j - i).toNat) H1) : iRng2 ts σ H R := h
theorem go_iStr {tl : TE} {R : It → Hp → Prop} (h : tl σ H fun v H1 => ∃ x, v = .str x ∧ R (Its x) H1) : iStr tl σ H R := h
theorem go_lc {wi : TI} {vs : List Nat} (h : wi σ H fun J H1 => ∀ D, H1 D = none → ∃ W : Nat → Nat → Hp → Prop, (∃ m, W 0 m (upd H1 D (.lst []))) ∧ ∀ i m H, W i m H →
  (J.stop i H ∧ Q (.ref D) H) ∨ (J.go i H ∧ ∃ Nx : Hp → Prop, (∀ H', Nx H' → ∃ m', m' < m ∧ W (i + 1) m' H') ∧ ∀ x H', J.yld i H x H' → g x (wipe σ vs) H' fun σ2 H2 => wipe σ2 vs = wipe σ vs ∧ tt σ2 H2 fun b H3 =>
    if b = true then te σ2 H3 fun y H4 => ∃ acc, H4 D = some (.lst acc) ∧ acc.length < sizeLine ∧ Nx (upd H4 D (.lst (acc ++ [y]))) else Nx H3)) : tLc wi g tt te vs σ H Q := h
/-- a comprehension over n turns that give items one by one: the new list's items so far are told by Pv -/
theorem lc_by {J : It} {n : Nat} {G : Hp → Prop} {Y : Nat → Hp → V → Hp → Prop} {vs : List Nat} {R : Addr → Hp → Prop} (w : Walk J n G Y) (Pv : Addr → Nat → Hp → Prop) (h0 : ∀ D H2, H D = none → Ed [] H H2 → H2 D = some (.lst []) → Pv D 0 H2) (hG : ∀ D i H', H D = none → i ≤ n → Pv D i H' → G H')
    (hs : ∀ D i x H1 H', H D = none → i < n → Pv D i H1 → Y i H1 x H' → g x (wipe σ vs) H' fun σ2 H2 => wipe σ2 vs = wipe σ vs ∧ tt σ2 H2 fun b H3 =>
      if b = true then te σ2 H3 fun y H4 => ∃ acc, H4 D = some (.lst acc) ∧ acc.length < sizeLine ∧ Pv D (i + 1) (upd H4 D (.lst (acc ++ [y]))) else Pv D (i + 1) H3) (hd : ∀ D H', H D = none → Pv D n H' → R D H') :
    ∀ D, H D = none → ∃ W : Nat → Nat → Hp → Prop, (∃ m, W 0 m (upd H D (.lst []))) ∧ ∀ i m H, W i m H →
      (J.stop i H ∧ R D H) ∨ (J.go i H ∧ ∃ Nx : Hp → Prop, (∀ H', Nx H' → ∃ m', m' < m ∧ W (i + 1) m' H') ∧ ∀ x H', J.yld i H x H' → g x (wipe σ vs) H' fun σ2 H2 => wipe σ2 vs = wipe σ vs ∧ tt σ2 H2 fun b H3 =>
        if b = true then te σ2 H3 fun y H4 => ∃ acc, H4 D = some (.lst acc) ∧ acc.length < sizeLine ∧ Nx (upd H4 D (.lst (acc ++ [y]))) else Nx H3) := fun D nD =>
  lc_it w (Pv D) (h0 D _ nD (Ed.new nD) upd_same) (fun i H' hi p => hG D i H' nD hi p) (fun i x H1 H' hi p y => hs D i x H1 H' nD hi p y) (fun H' p => hd D H' nD p)
/-- list(xs) -/
theorem go_listL {p : Addr} {xs : List V} {R : List V → Prop} (e : SqL K H p xs) (h : R xs) : ∃ q ys, [V.ref p] = [.ref q] ∧ (SqL K H q ys ∨ SqT K H q ys) ∧ R ys := ⟨p, xs, rfl, .inl e, h⟩
theorem go_disp {trs : List (TE × TE)} (h : ∀ p, H p = none → tPairs trs σ (upd H p (.dK [])) fun ps H2 => H2 p = some (.dK []) ∧ ∃ kvs : List (Key × V), ps = kvs.map (fun kv => (kV kv.1, kv.2)) ∧ kvs.length ≤ 15 ∧ Q (.ref p) (upd H2 p (.dK (mergeK [] kvs)))) : tDisp trs σ H Q := h
theorem go_pairs {tk tv : TE} {trs : List (TE × TE)} {R : List (V × V) → Hp → Prop} (h : tk σ H fun k H1 => tv σ H1 fun v H2 => tPairs trs σ H2 fun ps H3 => R ((k, v) :: ps) H3) : tPairs ((tk, tv) :: trs) σ H R := h
theorem go_pairs0 {R : List (V × V) → Hp → Prop} (h : R [] H) : tPairs [] σ H R := h
/-- a new object, by name -/
theorem alloc {p : Addr} {o : HO} {H2 : Hp} (hu : upd H p o = H2) (h : H p = none) : Ed [] H H2 ∧ H2 p = some o := by subst hu; exact ⟨Ed.new h, upd_same⟩
/-- an object changed, by name -/
theorem chg {p : Addr} {o u : HO} {H2 : Hp} (hu : upd H p o = H2) (h : H p = some u) (m : Mut (some u) := by trivial) : Ed [p] H H2 ∧ H2 p = some o := by subst hu; exact ⟨Ed.mut h m, upd_same⟩
-- ifs
theorem go_ite {c : Prop} [Decidable c] {A B : Prop} (h1 : c → A) (h2 : ¬ c → B) : if decide c = true then A else B := by
  by_cases h : c
  · rw [if_pos (decide_eq_true h)]; exact h1 h
  · rw [if_neg (fun z => h (of_decide_eq_true z))]; exact h2 h
theorem go_iten {c : Prop} [Decidable c] {A B : Prop} (h1 : ¬ c → A) (h2 : c → B) : if (!decide c) = true then A else B := by
  by_cases h : c
  · rw [decide_eq_true h]; exact iteF (h2 h)
  · rw [decide_eq_false h]; exact iteT (h1 h)
theorem go_iteb {b : Bool} {A B : Prop} (h1 : b = true → A) (h2 : b = false → B) : if b = true then A else B := by
  cases b with
  | true => exact iteT (h1 rfl)
  | false => exact iteF (h2 rfl)
theorem go_itebn {b : Bool} {A B : Prop} (h1 : b = false → A) (h2 : b = true → B) : if (!b) = true then A else B := by
  cases b with
  | true => exact iteF (h2 rfl)
  | false => exact iteT (h1 rfl)
end

/-! ### distinct places -/
theorem ne1 {H : Hp} {a b : Addr} {o : HO} (h' : H b = none) (h : H a = some o) : a ≠ b := ne_of_none h h'
theorem ne2 {H : Hp} {a b : Addr} {o : HO} (h' : H a = none) (h : H b = some o) : a ≠ b := (ne_of_none h h').symm
theorem nek {H : Hp} {a b : Addr} {o u : HO} (h : H a = some o) (h' : H b = some u) (d : o ≠ u) : a ≠ b := ne_of h h' d
theorem Ed.ex' {S : List Addr} {H H1 H2 : Hp} (b : Ed [] H1 H2) (a : Ed S H H1) : Ed S H H2 := a.ex b
theorem Ed.one' {S : List Addr} {H H1 H2 : Hp} {p : Addr} (b : Ed [p] H1 H2) (a : Ed S H H1) (h : p ∈ S ∨ H p = none) : Ed S H H2 := a.one b h
theorem Ed.two' {S : List Addr} {H H1 H2 : Hp} {p q : Addr} (b : Ed [p, q] H1 H2) (a : Ed S H H1) (h : p ∈ S ∨ H p = none) (h' : q ∈ S ∨ H q = none) : Ed S H H2 :=
  a.trans b fun x z => by
    rcases List.mem_cons.mp z with z | z
    · rw [z]; exact h
    · rw [List.mem_singleton.mp z]; exact h'
theorem Ed.back {S : List Addr} {H H' : Hp} {a : Addr} (e : Ed S H H') (h : H' a = none) : H a = none := e.dom a h
theorem sqt_of {K : PySem.W.Frag} {H : Hp} {a : Addr} {xs : List V} (h : H a = some (.tup xs)) : SqT K H a xs := .inl (.inl h)
theorem go_neL {α : Type} [DecidableEq α] {a : α} {A B : Prop} (h : B) : if (!decide (a = a)) = true then A else B := by rw [decide_eq_true rfl]; exact iteF h
theorem go_eqL {α : Type} [DecidableEq α] {a : α} {A B : Prop} (h : A) : if decide (a = a) = true then A else B := by rw [decide_eq_true rfl]; exact iteT h
theorem go_nT {A B : Prop} (h : B) : if (!true) = true then A else B := iteF h
theorem go_nF {A B : Prop} (h : A) : if (!false) = true then A else B := iteT h
theorem go_iteT' {c : Prop} [Decidable c] {A B : Prop} (hc : c) (h : A) : if decide c = true then A else B := by rw [decide_eq_true hc]; exact iteT h
theorem go_iteF' {c : Prop} [Decidable c] {A B : Prop} (hc : ¬ c) (h : B) : if decide c = true then A else B := by rw [decide_eq_false hc]; exact iteF h
theorem go_itenT' {c : Prop} [Decidable c] {A B : Prop} (hc : ¬ c) (h : A) : if (!decide c) = true then A else B := by rw [decide_eq_false hc]; exact iteT h
theorem go_itenF' {c : Prop} [Decidable c] {A B : Prop} (hc : c) (h : B) : if (!decide c) = true then A else B := by rw [decide_eq_true hc]; exact iteF h
theorem go_strE {z : Str} {R : Str → Prop} (h : R z) : ∃ x, V.str z = .str x ∧ R x := ⟨z, rfl, h⟩
theorem go_sign {c : Nat} {z : Str} {R : Nat → Str → Prop} (h : R c z) : ∃ c' z', V.str ⟨#[c]⟩ = .str ⟨#[c']⟩ ∧ V.str z = .str z' ∧ R c' z' := ⟨c, z, rfl, rfl, h⟩
theorem go_lenS {z : Str} {R : Str → Prop} (l : z.length ≤ 1000) (h : R z) : ∃ x, [V.str z] = [.str x] ∧ x.length ≤ sizeLine ∧ R x := ⟨z, rfl, Nat.le_of_lt (small1000 l), h⟩
/-! ### is None -/
theorem go_isN {R : Prop} (h : R) : V.non = V.non ∧ R := ⟨rfl, h⟩
theorem go_iteN {x : V} {A B : Prop} (hx : x ≠ .non) (h : B) : if decide (x = V.non) = true then A else B := by rw [decide_eq_false hx]; exact iteF h
theorem go_iteNT {A B : Prop} (h : A) : if decide (V.non = V.non) = true then A else B := iteT h
/-! ### isinstance -/
theorem kit_int_int : kitB "int" "int" = some true := by decide +kernel
theorem kit_int_bool : kitB "int" "bool" = some false := by decide +kernel
theorem kit_int_str : kitB "int" "str" = some false := by decide +kernel
theorem kit_int_tuple : kitB "int" "tuple" = some false := by decide +kernel
theorem kit_int_list : kitB "int" "list" = some false := by decide +kernel
theorem kit_int_dict : kitB "int" "dict" = some false := by decide +kernel
theorem kit_bool_int : kitB "bool" "int" = some true := by decide +kernel
theorem kit_bool_bool : kitB "bool" "bool" = some true := by decide +kernel
theorem kit_bool_str : kitB "bool" "str" = some false := by decide +kernel
theorem kit_bool_tuple : kitB "bool" "tuple" = some false := by decide +kernel
theorem kit_bool_list : kitB "bool" "list" = some false := by decide +kernel
theorem kit_bool_dict : kitB "bool" "dict" = some false := by decide +kernel
theorem kit_str_int : kitB "str" "int" = some false := by decide +kernel
theorem kit_str_bool : kitB "str" "bool" = some false := by decide +kernel
theorem kit_str_str : kitB "str" "str" = some true := by decide +kernel
theorem kit_str_tuple : kitB "str" "tuple" = some false := by decide +kernel
theorem kit_str_list : kitB "str" "list" = some false := by decide +kernel
theorem kit_str_dict : kitB "str" "dict" = some false := by decide +kernel
theorem kit_NoneType_int : kitB "NoneType" "int" = some false := by decide +kernel
theorem kit_NoneType_bool : kitB "NoneType" "bool" = some false := by decide +kernel
theorem kit_NoneType_str : kitB "NoneType" "str" = some false := by decide +kernel
theorem kit_NoneType_tuple : kitB "NoneType" "tuple" = some false := by decide +kernel
theorem kit_NoneType_list : kitB "NoneType" "list" = some false := by decide +kernel
theorem kit_NoneType_dict : kitB "NoneType" "dict" = some false := by decide +kernel
theorem kit_list_int : kitB "list" "int" = some false := by decide +kernel
theorem kit_list_bool : kitB "list" "bool" = some false := by decide +kernel
theorem kit_list_str : kitB "list" "str" = some false := by decide +kernel
theorem kit_list_tuple : kitB "list" "tuple" = some false := by decide +kernel
theorem kit_list_list : kitB "list" "list" = some true := by decide +kernel
theorem kit_list_dict : kitB "list" "dict" = some false := by decide +kernel
theorem kit_tuple_int : kitB "tuple" "int" = some false := by decide +kernel
theorem kit_tuple_bool : kitB "tuple" "bool" = some false := by decide +kernel
theorem kit_tuple_str : kitB "tuple" "str" = some false := by decide +kernel
theorem kit_tuple_tuple : kitB "tuple" "tuple" = some true := by decide +kernel
theorem kit_tuple_list : kitB "tuple" "list" = some false := by decide +kernel
theorem kit_tuple_dict : kitB "tuple" "dict" = some false := by decide +kernel
theorem kit_dict_int : kitB "dict" "int" = some false := by decide +kernel
theorem kit_dict_bool : kitB "dict" "bool" = some false := by decide +kernel
theorem kit_dict_str : kitB "dict" "str" = some false := by decide +kernel
theorem kit_dict_tuple : kitB "dict" "tuple" = some false := by decide +kernel
theorem kit_dict_list : kitB "dict" "list" = some false := by decide +kernel
theorem kit_dict_dict : kitB "dict" "dict" = some true := by decide +kernel
section
variable {K : PySem.W.Frag} {H : Hp} {Q : VK} {x : V}
theorem tyL {a : Addr} {xs : List V} (h : SqL K H a xs) : TyX K H (.ref a) (.type "list") := by
  rcases h with (h | ⟨o, h⟩) | ⟨o, _, _, h, c, _⟩
  · exact .base (.lst h)
  · exact .base (.frz h)
  · exact .kList h c
theorem tyT {a : Addr} {xs : List V} (h : SqT K H a xs) : TyX K H (.ref a) (.type "tuple") := by
  rcases h with (h | ⟨o, h⟩) | ⟨o, _, _, h, c, _⟩
  · exact .base (.tup h)
  · exact .fTuple h
  · exact .kTuple h c
theorem go_isi {n m : String} {b : Bool} (ht : TyX K H x (.type n)) (hk : kitB n m = some b) (h : Q (.bl b) H) : rIsi K [x, .ty m] H Q := ⟨x, .ty m, .type n, .type m, b, rfl, .ty m, ht, kit_ty hk, h⟩
theorem or_t {b : Bool} : (true || b) = true := rfl
theorem or_f {b : Bool} : (false || b) = b := rfl
theorem go_isiT2 {tp : Addr} {n m m' : String} {b b' c : Bool} (ht : TyX K H x (.type n)) (e : H tp = some (.tup [.ty m, .ty m'])) (hk : kitB n m = some b) (hk' : kitB n m' = some b') (hc : (b || b') = c) (h : Q (.bl c) H) : rIsiT K [x, .ref tp] H Q :=
  ⟨x, tp, _, .type n, [.type m, .type m'], b || b', rfl, e, .cons (.ty m) (.cons (.ty m') .nil), ht,
    kitAny_cons (kit_ty hk) (fun z => by subst z; exact kitAny_cons (kit_ty hk') (fun z => by subst z; exact kitAny_nil) fun z => by subst z; rfl) fun z => by subst z; rfl, by rw [hc]; exact h⟩
end
/-! ### slices -/
theorem cut_take (xs : List V) (k : Nat) : cutV xs none (some (k : Int)) = xs.take k := by
  unfold cutV
  rw [HT.sIx_nat, HT.sIx_none, List.drop_zero, Nat.sub_zero]
  rcases Nat.le_total k xs.length with h | h
  · rw [Nat.min_eq_left h]
  · rw [Nat.min_eq_right h, List.take_length, List.take_of_length_le h]
theorem cut_drop (xs : List V) (k : Nat) : cutV xs (some (k : Int)) none = xs.drop k := by
  unfold cutV
  rw [HT.sIx_nat, HT.sIx_none]
  rcases Nat.le_total k xs.length with h | h
  · rw [Nat.min_eq_left h, List.take_of_length_le (by rw [List.length_drop]; omega)]
  · rw [Nat.min_eq_right h, List.drop_of_length_le h, List.drop_length, List.take_nil]
theorem cut_mid (xs : List V) (j k : Nat) : cutV xs (some (j : Int)) (some (k : Int)) = (xs.drop j).take (k - j) := by
  unfold cutV
  rw [HT.sIx_nat, HT.sIx_nat]
  rcases Nat.le_total j xs.length with h | h
  · rw [Nat.min_eq_left h]
    rcases Nat.le_total k xs.length with h' | h'
    · rw [Nat.min_eq_left h']
    · rw [Nat.min_eq_right h', List.take_of_length_le (by rw [List.length_drop]; omega), List.take_of_length_le (by rw [List.length_drop]; omega)]
  · rw [Nat.min_eq_right h, List.drop_of_length_le h, List.drop_length, List.take_nil, List.take_nil]
/-! ### sizes -/
theorem mulw {i j : Int} (hi : i.natAbs < 2 ^ 200) (hj : j.natAbs < 2 ^ 200) : CMulW i j := wide_mul (a := 200) (b := 200) hi hj (by decide) (by decide) (by decide)
theorem divw {i j : Int} (h : 0 < j) (hj : j.natAbs < 2 ^ 200) : CDivW i j := wide_div (b := 200) h hj (by decide) (by decide)
end Vc

/-! Setn: len(set(xs)) of a list of pairwise different texts (my own; the way is HandS.Strs', which has at most one text). -/
namespace Setn
open PySem PySem.Spec PyProof.Rows L2
theorem getD_take {xs : List Str} {i : Nat} (h : i < xs.length) : xs.take (i + 1) = xs.take i ++ [xs.getD i Str.empty] := by
  rw [List.take_add_one, List.getElem?_eq_getElem h, List.getD_eq_getElem?_getD, List.getElem?_eq_getElem h]; rfl
theorem any_beq (l : List Str) (k : Str) : l.any (· == k) = decide (k ∈ l) := by
  rw [Bool.eq_iff_iff, List.any_eq_true, decide_eq_true_eq]
  constructor
  · rintro ⟨x, hx, e⟩
    have := eq_of_beq e
    subst this
    exact hx
  · exact fun h => ⟨k, h, beq_self_eq_true k⟩
/-- how many different texts stand ahead of place i -/
def cn (xs : List Str) : Nat → Nat
  | 0 => 0
  | i + 1 => if (xs.take i).any (· == xs.getD i Str.empty) = true then cn xs i else cn xs i + 1
theorem cn_le (xs : List Str) : ∀ i, cn xs i ≤ i
  | 0 => Nat.le_refl 0
  | i + 1 => by
    have := cn_le xs i
    unfold cn
    split <;> omega
theorem cn_eq {xs : List Str} : ∀ {i : Nat}, i ≤ xs.length → (cn xs i = i ↔ (xs.take i).Nodup)
  | 0, _ => by simp [cn]
  | i + 1, h => by
    have ih := cn_eq (xs := xs) (i := i) (by omega)
    have le := cn_le xs i
    rw [getD_take (by omega)]
    unfold cn
    rw [any_beq, List.nodup_append]
    by_cases hm : xs.getD i Str.empty ∈ xs.take i
    · rw [if_pos (by simpa using hm)]
      constructor
      · intro e; omega
      · rintro ⟨_, _, d⟩
        exact absurd rfl (d _ hm _ (by simp))
    · rw [if_neg (by simpa using hm)]
      constructor
      · intro e
        refine ⟨ih.mp (by omega), by simp, fun a ha b hb e => ?_⟩
        rw [List.mem_singleton] at hb
        rw [e, hb] at ha
        exact hm ha
      · rintro ⟨d, _⟩
        rw [ih.mpr d]
theorem cn_nd {xs : List Str} (h : xs.Nodup) : cn xs xs.length = xs.length := (cn_eq (Nat.le_refl _)).mpr (by rw [List.take_length]; exact h)
theorem cn_lt {xs : List Str} : cn xs xs.length < xs.length ↔ ¬ xs.Nodup := by
  have a := cn_eq (xs := xs) (Nat.le_refl _)
  rw [List.take_length] at a
  have b := cn_le xs xs.length
  constructor
  · intro h d
    have := a.mpr d
    omega
  · intro h
    have : cn xs xs.length ≠ xs.length := fun e => h (a.mp e)
    omega
section
variable {prog : Program} {w : World} {A : Around} {R : Result → Shared → Prop} {I : Addr} {fp wr : List Addr} {G : Array GenState → Array GenState → Prop} {n : Nat} {P : Nat → Value → Prop} {St : Nat → Shared → Prop}
/-- the set's own loop over different texts -/
theorem loopD (W : WalksS prog w A.in1 I fp wr G n P St) (S : Addr) (hSf : S ∉ fp) (xs : List Str) (hsz : xs.length = n) (hn : n + 1 < scanBound)
    (hval : ∀ i v, P i v → ∃ t, v = .str (xs.getD i Str.empty) t) : ∀ (k i : Nat) (s : Shared), n - i = k → i ≤ n → St i s → s.heap.SetOf (PySem.strKind prog w) S (fun k' => (xs.take i).any (· == k')) (cn xs i) →
      (∀ s', Moved (S :: wr) G s s' → s'.heap.SetOf (PySem.strKind prog w) S (fun k' => (xs.take n).any (· == k')) (cn xs n) → R (.ok (.ret .none)) s') → codeAny (model prog w) A (.builtin "set.update.loop" ⟨[.ref S, .ref I], []⟩) R s := by
  have nw : S ∉ wr := fun h => hSf (W.sub _ h)
  have sw : ∀ b ∈ wr, b ∈ S :: wr := fun b hb => List.mem_cons_of_mem _ hb
  intro k
  induction k with
  | zero =>
    intro i s hk hi st hS hR
    obtain rfl : i = n := by omega
    refine codeAny_builtin F.entry_set_update_loop ?_
    rw [Around.under_plainId F.plain_set_update_loop _]; show wpAny _ A.in1 (pyNext (.ref I) >>= _) _ _ s
    refine wpAny_bind (W.done s _ _ st fun s' hm => ?_); show wpAny _ A.in1 (ret Value.none) _ _ s'
    refine wpAny_pure (hR s' (hm.mono sw) ?_)
    obtain ⟨o, es, ep, t, ho, rest⟩ := hS; exact ⟨o, es, ep, t, hm.heap S _ nw ho, rest⟩
  | succ k ih =>
    intro i s hk hi st hS hR
    have lt : i < n := by omega
    refine codeAny_builtin F.entry_set_update_loop ?_
    rw [Around.under_plainId F.plain_set_update_loop _]; show wpAny _ A.in1 (pyNext (.ref I) >>= _) _ _ s
    refine wpAny_bind (W.item i s _ _ lt st fun v s' hP st' hm => ?_); obtain ⟨t, rfl⟩ := hval i v hP
    have hS' : s'.heap.SetOf (PySem.strKind prog w) S (fun k' => (xs.take i).any (· == k')) (cn xs i) := by
      obtain ⟨o, es, ep, tb, ho, rest⟩ := hS; exact ⟨o, es, ep, tb, hm.heap S _ nw ho, rest⟩
    show wpAny _ A.in1 (holding [Value.str (xs.getD i Str.empty) t] (setAdd S (.str (xs.getD i Str.empty) t)) >>= _) _ _ s'
    refine wpAny_bind (wpAny_holding ?_); unfold setAdd; refine wpAny_holding ?_
    refine wpAny_bind ((PySem.strKind prog w).pyHash (k := xs.getD i Str.empty) (strKind_is _ _ _ _) ?_)
    refine wpAny_setAddHashed_of (knd := PySem.strKind prog w) (s := { s' with toks := s'.toks + 1 }) (strKind_is _ _ _ _) rfl hS' (by have := cn_le xs i; omega) fun h' sb hS2 => ?_
    have hS3 : h'.SetOf (PySem.strKind prog w) S (fun k' => (xs.take (i + 1)).any (· == k')) (cn xs (i + 1)) := SetOf_congr hS2 (fun k' => by
      rw [getD_take (by omega), List.any_append]
      congr 1
      rw [any_beq, Bool.eq_iff_iff]; simp) rfl
    refine wpAny_pure ⟨plainId_quiet F.plain_set_update_loop _, ih (i + 1) _ (by omega) lt (W.frame _ s' _ _ st' (Nat.le_succ _) fun b hb o e => ?_) hS3 fun s'' hm'' hS'' => ?_⟩
    · rw [sb.2 b (fun h : b = S => hSf (h ▸ hb))]; exact e
    · refine hR s'' (Moved.trans W.gtrans ((hm.mono sw).then_heap (Nat.le_succ _) fun b o hb e => ?_) hm'') hS''
      rw [sb.2 b (fun h : b = S => hb (h ▸ List.mem_cons_self))]; exact e
end
abbrev setO (led : Bool) : Obj := { cls := .type "set", dict := none, data := .set #[] 0 (.fresh 0 0 led) }
section
variable {prog : Program} {w : World} {A : Around} {E : Value → Shared → Prop} {s : Shared}
theorem call_setD {l : Addr} {items : Array Value} {xs : List Str} {Q : Value → Shared → Prop} (hh : A.handled = none) (hl : s.heap.IsList l items) (hi : StrsAre items.toList xs) (hn1 : xs.length + 1 < scanBound)
    (h : ∀ (h' : Heap) (tk : Nat), h'.SetOf (PySem.strKind prog w) s.heap.objs.size (fun k' => (xs.take items.size).any (· == k')) (cn xs items.size) → (∀ b o, b < s.heap.objs.size → s.heap.get? b = some o → h'.get? b = some o) → Q (.ref s.heap.objs.size) { s with heap := h', toks := tk }) :
    wpAny (model prog w) A (call (.type "set") [.ref l]) Q E s := by
  obtain ⟨c, tl, hmro⟩ := PySem.F.called_set.mro
  have hmade := PySem.F.called_set.made; have hsub := PySem.F.called_set.sub
  refine wpAny_call (codeAny_of_tree ?_); show wpAny _ _ (callAny (.type "set") _) _ _ _
  refine wpAny_pure ⟨Code.quiet_builtin _ (by decide +kernel), codeAny_builtin PySem.F.entry_type_call ?_⟩; rw [Around.under_plain (weight_type_call_type "set" [.ref l] []) rfl]
  have h1 := PySem.F.called_set.notType; have h2 := PySem.F.called_set.canCreate; have hct := PySem.F.typeCall_set_1 (.ref l)
  repeat (any_goals (first | assumption | wp_step))
  refine codeAny_mono (code_set_new_1 (.ref l) (E := E) (Q₁ := fun obj s₁ => ∃ led : Bool, obj = .ref s.heap.objs.size ∧ s₁ = { s with heap := s.heap.push (setO led) }) fun led => ⟨led, rfl, rfl⟩) fun r s₁ hr => ?_
  cases r with
  | error e => exact hr
  | ok fl =>
    cases fl with
    | ret obj =>
      obtain ⟨led, rfl, rfl⟩ := hr
      have hS : (s.heap.push (setO led)).get? s.heap.objs.size = some (setO led) := Heap.get?_push_size _ rfl
      have hT : Shared.TypeIs { s with heap := s.heap.push (setO led) } (.ref s.heap.objs.size) "set" := ⟨_, hS, rfl⟩
      have hli := PySem.F.called_set.init.lookup; have hbi := PySem.F.called_set.init.bind (.ref s.heap.objs.size)
      repeat (any_goals (first | assumption | wp_step))
      refine codeAny_mono (codeAny_call_builtin (R := wants (fun r s₂ => r = .none ∧ ∃ h' tk, s₂ = { s with heap := h', toks := tk } ∧ h'.SetOf (PySem.strKind prog w) s.heap.objs.size (fun k' => (xs.take items.size).any (· == k')) (cn xs items.size) ∧
          (∀ b o, b < s.heap.objs.size → s.heap.get? b = some o → h'.get? b = some o)) E) PySem.F.called_set.init.plain PySem.F.entry_set_init (check_set_init_1 hT ?_)) fun r₂ s₂ hr₂ => ?_
      · obtain ⟨ol, hol, hcl, nl, hdl⟩ := hl
        obtain ⟨ocls, odict, odata, oslots⟩ := ol
        simp only at hcl hdl; subst hcl; subst hdl
        have hol' : (s.heap.push (setO led)).get? l = some { cls := .type "list", dict := odict, data := .seq items nl, slots := oslots } := Heap.get?_push_of_some _ hol
        have hsls := PySem.F.sub_list_set; have hslf := PySem.F.sub_list_frozenset
        have hne : (Value.type "list" == Value.type "dict") = false := by decide
        have hl1 : (s.heap.push (setO led)).IsList l items := ⟨_, hol', rfl, nl, rfl⟩
        unfold Builtin.«set.__init__» noKeywords Builtin.Frozenset.updateFrom
        generalize hPI : pyIter = PI
        wp_walk
        subst hPI
        refine wpAny_pyIter_list hl1 ?_; refine wpAny_bind (wpAny_runValue ?_)
        have ll : l < s.heap.objs.size := Heap.lt_size hol
        have h3 : A.in1.in1.in1.handled = none := by simp [hh]
        have nI : l ≠ (s.heap.push (setO led)).objs.size := by rw [Heap.size_push]; exact Nat.ne_of_lt (Nat.lt_succ_of_lt ll)
        have hSf : s.heap.objs.size ∉ [(s.heap.push (setO led)).objs.size, l] := by
          rw [Heap.size_push]; simp only [List.mem_cons, List.not_mem_nil, or_false, not_or]; exact ⟨Nat.ne_of_lt (Nat.lt_succ_self _), Nat.ne_of_gt ll⟩
        have hsz : xs.length = items.size := by rw [← StrsAre.len_eq hi, Array.length_toList]
        have hval : ∀ (i : Nat) (v : Value), items[i]? = some v → ∃ t, v = .str (xs.getD i Str.empty) t := fun i v hv => SS.strs_at hi i v (by rw [Array.getElem?_toList]; exact hv)
        refine loopD ((Walks.list h3 _ l nI items).toS) s.heap.objs.size hSf xs hsz (by rw [← hsz]; exact hn1) hval (items.size - 0) 0 _ (by omega) (Nat.zero_le _) ⟨⟨_, Heap.get?_push_size _ rfl, rfl, rfl⟩, (hl1.push _)⟩ ?hS0 ?hR
        case hS0 =>
          have hget : ((s.heap.push (setO led)).push { cls := .type "list_iterator", data := .fields #[.ref l, .int 0 0] }).get? s.heap.objs.size = some (setO led) := Heap.get?_push_of_some _ hS
          exact SetOf_congr ((setObjOf_fresh (knd := PySem.strKind prog w) led).setOf hget (by unfold scanBound; omega)) (fun _ => rfl) rfl
        case hR =>
          intro s' hm hS'
          obtain ⟨h', g', d', tk', os'⟩ := s'
          obtain rfl : g' = s.gens := hm.gens
          obtain rfl : d' = s.drawn := hm.drawn
          obtain rfl : os' = s.os := hm.os
          show wpAny _ _ _ _ _ _; refine wpAny_pure ?_; show wpAny _ _ (ret Value.none) _ _ _
          refine wpAny_pure ⟨rfl, h', tk', rfl, hS', fun b o hb e => ?_⟩
          have b1 : b ≠ s.heap.objs.size := Nat.ne_of_lt hb
          have b2 : b ≠ (s.heap.push (setO led)).objs.size := by rw [Heap.size_push]; exact Nat.ne_of_lt (Nat.lt_succ_of_lt hb)
          exact hm.heap b o (by simp only [List.mem_cons, List.not_mem_nil, or_false, not_or]; exact ⟨b1, b2⟩) (Heap.get?_push_of_some _ (Heap.get?_push_of_some _ e))
      · cases r₂ with
        | error e => exact hr₂
        | ok fl₂ =>
          cases fl₂ with
          | ret r =>
            obtain ⟨rfl, h', tk, rfl, hS', hk'⟩ := hr₂
            repeat (any_goals (first | assumption | wp_step))
            exact h _ _ hS' hk'
          | _ => exact hr₂.elim
    | _ => exact hr.elim
end
/-- len(set(xs)) of different texts -/
def tLenSetN (K : PySem.W.Frag) (ta : TE) : TE := fun σ H Q => ta σ H fun x H1 => ∃ l, ∃ xs : List Str, x = .ref l ∧ SqL K H1 l (xs.map V.str) ∧ xs.length ≤ 1000 ∧ Q (.int (cn xs xs.length)) H1
section
variable {X : Cx}
theorem pe_lenSetN {a : Expr} {ta : TE} {p p2 q pos : Pos} (hc : X.calm = true) (hg : Gl X "len") (hm : X.mg "len" = none) (hg2 : Gl X "set") (hm2 : X.mg "set" = none) (ha : PE X a ta) (na : starEach [a] X.env = (false, eval a X.env) :: starEach [] X.env := by rfl) :
    PE X (.Call (.Name "len" p) [.Call (.Name "set" p2) [a] [] q] [] pos) (tLenSetN X.K ta) := by
  refine ⟨fun pins s σ H Q I h => ?_⟩
  refine Call_ (ld_blt I hg hm boot_len ?_); refine PyProof.Rows.callWith_builtin1 (PyProof.Rows.args_cons ?_ rfl) rfl rfl
  refine Call_ (ld_blt I hg2 hm2 boot_set ?_)
  refine PyProof.Rows.callWith_type1 (PyProof.Rows.args_cons (thn (ha.run pins s σ H _ I h) fun v s1 ⟨x, H1, I1, r1, q1⟩ => PyProof.Rows.args_nil ?_) na) na rfl
  obtain ⟨l, xs, rfl, hq, hz, q1⟩ := q1
  cases r1
  obtain ⟨its, r, pl, _⟩ := I1.list hq
  have hl : its.toArray.size = xs.length := by rw [List.size_toArray, ← r.length, List.length_map]
  refine call_setD (I1.ok.hd hc) pl.isList (by simpa using strsAre_of r) (by unfold scanBound; omega) fun h' tk hS hk => ?_
  refine PyProof.Rows.args_nil ?_
  rw [hl] at hS
  obtain ⟨o, es, ep, t, ho, hex, hd, _, _, _, hf, hn⟩ := hS
  have I2 : Inv X pins σ H1 { s1 with heap := h', toks := tk } := I1.kept fun b o e => hk b o (Heap.lt_size e) e
  exact call_len_set ho hex hd hf (by rw [hn]; have := cn_le xs xs.length; omega) ⟨.int (cn xs xs.length), H1, I2.tok _, ⟨_, by rw [hn]⟩, q1⟩
end
end Setn

namespace Vc
open PySem PySem.Spec PyProof.Rows L2
section
variable {K : PySem.W.Frag} {σ : L2.St} {H : Hp} {Q : VK} {ta : TE}
theorem go_lenSet (h : ta σ H fun x H1 => ∃ l, ∃ xs : List Str, x = .ref l ∧ SqL K H1 l (xs.map V.str) ∧ xs.length ≤ 1000 ∧ Q (.int (Setn.cn xs xs.length)) H1) : Setn.tLenSetN K ta σ H Q := h
theorem go_lenSetC {a : Addr} {xs : List Str} {R : List Str → Prop} (e : SqL K H a (xs.map V.str)) (l : xs.length ≤ 1000) (h : R xs) : ∃ l', ∃ ys : List Str, V.ref a = .ref l' ∧ SqL K H l' (ys.map V.str) ∧ ys.length ≤ 1000 ∧ R ys := ⟨a, xs, rfl, e, l, h⟩
end
end Vc

/-! Vk: further readings by name: chains, classes' constants, fields, new instances, locked dicts, sorted. -/
namespace Vc
open PySem PySem.Spec PyProof.Rows L2
/-- a reading within a comprehension, told without the comprehension's own frame -/
theorem blkE {Y : Cx} {e : Expr} {t' t : TE} (h : PE Y e t') (q : t' = t) : PE Y e t := q ▸ h
theorem blkT {Y : Cx} {e : List Expr} {t' t : TT} (h : PTs Y e t') (q : t' = t) : PTs Y e t := q ▸ h
section
variable {K : PySem.W.Frag} {σ : L2.St} {H : Hp} {D : Ends} {Q : VK} {te ta tb tc tv : TE} {f : Str} {v x y : V} {i j : Int} {ts : TA} {g : TG} {t : TS} {tt : TT}
theorem go_chain {r r' : R2} (h : ta σ H fun x H1 => tb σ H1 fun y H2 => r x y H2 fun z H3 => ∃ k, z = .bl k ∧ (if k = true then tc σ H3 fun w' H4 => r' y w' H4 Q else Q (.bl false) H3)) : tChain r r' ta tb tc σ H Q := h
theorem go_cvalR (h : ta σ H fun x H1 => ∃ C mc v u, x = .ref C ∧ ClX.CRead K C mc ∧ ClX.CVal K C mc f v u ∧ Q v H1) : ClX.tCVal K ta f σ H Q := h
theorem go_cval {C : Addr} {mc u : Value} {R : V → Prop} (hr : ClX.CRead K C mc) (hv : ClX.CVal K C mc f v u) (h : R v) : ∃ C' mc' v' u', V.ref C = .ref C' ∧ ClX.CRead K C' mc' ∧ ClX.CVal K C' mc' f v' u' ∧ R v' := ⟨C, mc, v, u, rfl, hr, hv, h⟩
theorem go_fld (h : ta σ H fun x H1 => ∃ a C dx fs v, x = .ref a ∧ H1 a = some (.ins C dx fs) ∧ Cls K C ∧ NoAttr K C f ∧ fs.lookup f = some v ∧ Q v H1) : tFld K ta f σ H Q := h
theorem go_fldV {a C dx : Addr} {fs : List (Str × V)} {R : V → Prop} (e : H a = some (.ins C dx fs)) (hl : fs.lookup f = some v) (c : Cls K C) (n : NoAttr K C f) (h : R v) :
    ∃ a' C' dx' fs' v', V.ref a = .ref a' ∧ H a' = some (.ins C' dx' fs') ∧ Cls K C' ∧ NoAttr K C' f ∧ fs'.lookup f = some v' ∧ R v' := ⟨a, C, dx, fs, v, rfl, e, c, n, hl, h⟩
theorem go_sfld (h : tv σ H fun y H1 => ta σ H1 fun x H2 => ∃ a C dx fs, x = .ref a ∧ H2 a = some (.ins C dx fs) ∧ Cls K C ∧ NoAttr K C f ∧ fs.length < 1000 ∧ D.nx σ (upd H2 a (.ins C dx (putF f y fs)))) : sFld K ta tv f D σ H := h
theorem go_sfldV {a C dx : Addr} {fs : List (Str × V)} {R : Hp → Prop} (e : H a = some (.ins C dx fs)) (l : fs.length < 1000) (c : Cls K C) (n : NoAttr K C f) (h : R (upd H a (.ins C dx (putF f v fs)))) :
    ∃ a' C' dx' fs', V.ref a = .ref a' ∧ H a' = some (.ins C' dx' fs') ∧ Cls K C' ∧ NoAttr K C' f ∧ fs'.length < 1000 ∧ R (upd H a' (.ins C' dx' (putF f v fs'))) := ⟨a, C, dx, fs, rfl, e, c, n, l, h⟩
theorem go_make {C : Addr} {sp : Sp} {E : XK} (h : ts σ H fun vs H1 => ∀ x dx, H1 x = none → H1 dx = none → dx ≠ x → sp (.ref x :: vs) (upd (upd H1 dx (.own x)) x (.ins C dx [])) (fun v H2 => v = .non ∧ Q (.ref x) H2) E) : tMake C sp [] E ts σ H Q := by
  unfold tMake
  simpa only [List.append_nil] using h
theorem go_meth {C : Addr} {m : Str} {sp : Sp} {E : XK} (h : ta σ H fun x H1 => ∃ a dx fs, x = .ref a ∧ H1 a = some (.ins C dx fs) ∧ fs.lookup m = none ∧ ts σ H1 fun vs H2 => sp (x :: vs) H2 Q E) : tMeth C m sp [] E ta ts σ H Q := by
  unfold tMeth
  simpa only [List.append_nil] using h
theorem go_methV {a C dx : Addr} {fs : List (Str × V)} {m : Str} {R : Prop} (e : H a = some (.ins C dx fs)) (l : fs.lookup m = none) (h : R) : ∃ a' dx' fs', V.ref a = .ref a' ∧ H a' = some (.ins C dx' fs') ∧ fs'.lookup m = none ∧ R := ⟨a, dx, fs, rfl, e, l, h⟩
/-- a new instance, by name -/
theorem allocI {C p dx : Addr} {H2 : Hp} (hu : upd (upd H dx (.own p)) p (.ins C dx []) = H2) (np : H p = none) (nd : H dx = none) (ne : dx ≠ p) : Ed [] H H2 ∧ H2 p = some (.ins C dx []) ∧ H2 dx = some (.own p) := by
  subst hu
  have n1 : (upd H dx (.own p)) p = none := by rw [upd_ne ne.symm]; exact np
  exact ⟨(Ed.new nd).ex (Ed.new n1), upd_same, by rw [upd_ne ne]; exact upd_same⟩
theorem go_dgetIF {a : Addr} {k : Int} {o : Obj} {kvs : List (Key × V)} {R : V → Prop} (e : H a = some (.frz o (.dK kvs))) (ev : valV kvs (.inl k) = some v) (h : R v) : ∃ a' v', V.ref a = .ref a' ∧ DGet H a' (.int k) (some v') ∧ R v' :=
  ⟨a, v, rfl, .inl ⟨kvs, .inl k, .inr ⟨o, e⟩, rfl, ev.symm⟩, h⟩
theorem go_sorted {a : Addr} {ns : List Int} (e : SqL K H a (ns.map V.int)) (l : ns.length < 64) (h : ∀ (ns' : List Int) (p : Addr), ns'.Perm ns → ns'.Pairwise (· ≤ ·) → H p = none → Q (.ref p) (upd H p (.lst (ns'.map V.int)))) : rSorted K [.ref a] H Q := ⟨a, ns, rfl, e, l, h⟩
theorem go_listD {a : Addr} {kvs : List (Key × V)} (e : H a = some (.dK kvs)) (h : ∀ q, H q = none → Q (.ref q) (upd H q (.lst (kvs.map fun kv => kV kv.1)))) : rListD [.ref a] H Q := ⟨a, kvs, rfl, e, h⟩
theorem go_lenD {a : Addr} {kvs : List (Key × V)} {R : List (Key × V) → Prop} (e : H a = some (.dK kvs)) (h : R kvs) : ∃ b ls, [V.ref a] = [V.ref b] ∧ H b = some (.dK ls) ∧ R ls := ⟨a, kvs, rfl, e, h⟩
theorem go_in {a : Addr} {neg : Bool} {xs : List V} (e : SqL K H a xs ∨ SqT K H a xs) (hx : flatV x = true) (hf : xs.all flatV = true) (h : Q (.bl (if neg then !inV x xs else inV x xs)) H) : rIn K neg x (.ref a) H Q := ⟨a, xs, rfl, e, hx, hf, h⟩
theorem go_inL {a : Addr} {xs : List V} (e : SqL K H a xs) (hx : flatV x = true) (hf : xs.all flatV = true) (h : Q (.bl (inV x xs)) H) : rIn K false x (.ref a) H Q := go_in (neg := false) (.inl e) hx hf h
theorem go_inT {a : Addr} {xs : List V} (e : SqT K H a xs) (hx : flatV x = true) (hf : xs.all flatV = true) (h : Q (.bl (inV x xs)) H) : rIn K false x (.ref a) H Q := go_in (neg := false) (.inr e) hx hf h
theorem go_niL {a : Addr} {xs : List V} (e : SqL K H a xs) (hx : flatV x = true) (hf : xs.all flatV = true) (h : Q (.bl (!inV x xs)) H) : rIn K true x (.ref a) H Q := go_in (neg := true) (.inl e) hx hf h
theorem go_niT {a : Addr} {xs : List V} (e : SqT K H a xs) (hx : flatV x = true) (hf : xs.all flatV = true) (h : Q (.bl (!inV x xs)) H) : rIn K true x (.ref a) H Q := go_in (neg := true) (.inr e) hx hf h
theorem go_dc {wi : TI} {tk : TE} {vs : List Nat} (h : wi σ H fun J H1 => ∀ D, H1 D = none → ∃ W : Nat → Nat → Hp → Prop, (∃ m, W 0 m (upd H1 D (.dK []))) ∧ ∀ i m H, W i m H →
  (J.stop i H ∧ Q (.ref D) H) ∨ (J.go i H ∧ ∃ Nx : Hp → Prop, (∀ H', Nx H' → ∃ m', m' < m ∧ W (i + 1) m' H') ∧ ∀ x H', J.yld i H x H' → g x (wipe σ vs) H' fun σ2 H2 => wipe σ2 vs = wipe σ vs ∧ tt σ2 H2 fun b H3 =>
    if b = true then tk σ2 H3 fun y H4 => tv σ2 H4 fun z H5 => ∃ kvs k, y = kV k ∧ H5 D = some (.dK kvs) ∧ kvs.length < sizeLine ∧ Nx (upd H5 D (.dK (putK kvs k z))) else Nx H3)) : tDc wi g tt tk tv vs σ H Q := h
theorem go_aug {n : Nat} {ti : TIp} {x : V} (e : σ[n]? = some (some x)) (h : te σ H fun y H1 => ti x y H1 fun z H2 => D.nx (σ.set n (some z)) H2) : tAug n te ti D σ H := ⟨x, e, h⟩
theorem go_ipI {f : Int → Int → Int} (h : Q (.int (f i j)) H) : ipI f (.int i) (.int j) H Q := ⟨i, j, rfl, rfl, h⟩
theorem go_addS {a b : Str} {R : Str → Str → Prop} (l : a.length + b.length ≤ 1000) (h : R a b) : ∃ i j, V.str a = .str i ∧ V.str b = .str j ∧ i.length + j.length ≤ sizeLine ∧ R i j := ⟨a, b, rfl, rfl, Nat.le_of_lt (small1000 l), h⟩
theorem go_M1 {r : V → List V → Hp → VK → Prop} (h : ta σ H fun x H1 => (∃ a, x = .str a) ∧ tb σ H1 fun y H2 => r x [y] H2 Q) : tM1 r ta tb σ H Q := h
theorem go_M0 {r : V → List V → Hp → VK → Prop} (h : ta σ H fun x H1 => (∃ a, x = .str a) ∧ r x [] H1 Q) : tM0 r ta σ H Q := h
theorem go_isS {z : Str} {R : Prop} (h : R) : (∃ a, V.str z = .str a) ∧ R := ⟨⟨z, rfl⟩, h⟩
theorem go_join {a : Str} {p : Addr} {ys : List Str} {R : Str → List Str → Prop} (e : SqL K H p (ys.map V.str)) (l : (ys.map (·.length)).sum + ys.length * a.length ≤ 16777216) (h : R a ys) :
    ∃ a' p', ∃ zs : List Str, V.str a = .str a' ∧ [V.ref p] = [.ref p'] ∧ (SqL K H p' (zs.map V.str) ∨ SqT K H p' (zs.map V.str)) ∧ (zs.map (·.length)).sum + zs.length * a'.length ≤ 16777216 ∧ R a' zs := ⟨a, p, ys, rfl, rfl, .inl e, l, h⟩
theorem go_sub {to ti : TE} {ts : TSet} {R : L2.St → Hp → Prop} (h : to σ H fun o H1 => ti σ H1 fun i H2 => ts o i v H2 fun H3 => R σ H3) : gSub to ti ts v σ H R := h
theorem go_setL {p : Addr} {xs : List V} {k : Int} {j : Nat} {R : Hp → Prop} (e : H p = some (.lst xs)) (hj : ixN xs.length k = some j) (h : R (upd H p (.lst (xs.set j v)))) : rSetL (.ref p) (.int k) v H R := ⟨p, xs, k, j, rfl, rfl, e, hj, h⟩
theorem go_tupL {p : Addr} {xs : List V} {R : Addr → Hp → Prop} (e : SqL K H p xs) (h : ∀ l, H l = none → R l (upd H l (.tup xs))) : ∃ p' ys, [V.ref p] = [.ref p'] ∧ ((SqL K H p' ys ∧ ∀ l, H l = none → R l (upd H l (.tup ys))) ∨ (SqT K H p' ys ∧ R p' H)) := ⟨p, xs, rfl, .inl ⟨e, h⟩⟩
theorem at_m1 {xs : List V} (h : xs[xs.length - 1]? = some v) : atI xs (-1) = some v := by
  have h0 : 0 < xs.length := by
    rcases Nat.eq_zero_or_pos xs.length with e | e
    · rw [List.eq_nil_of_length_eq_zero e] at h; cases h
    · exact e
  unfold atI ixN
  rw [if_neg (by omega), if_pos (by omega)]
  have : (-1 + (xs.length : Int)).toNat = xs.length - 1 := by omega
  show xs[(-1 + (xs.length : Int)).toNat]? = some v
  rw [this]; exact h
/-- a dict comprehension over n turns that give items one by one -/
theorem dc_by {J : It} {n : Nat} {G : Hp → Prop} {Y : Nat → Hp → V → Hp → Prop} {tk : TE} {vs : List Nat} {R : Addr → Hp → Prop} (w : Walk J n G Y) (Pv : Addr → Nat → Hp → Prop) (h0 : ∀ D H2, H D = none → Ed [] H H2 → H2 D = some (.dK []) → Pv D 0 H2) (hG : ∀ D i H', H D = none → i ≤ n → Pv D i H' → G H')
    (hs : ∀ D i x H1 H', H D = none → i < n → Pv D i H1 → Y i H1 x H' → g x (wipe σ vs) H' fun σ2 H2 => wipe σ2 vs = wipe σ vs ∧ tt σ2 H2 fun b H3 =>
      if b = true then tk σ2 H3 fun y H4 => tv σ2 H4 fun z H5 => ∃ kvs k, y = kV k ∧ H5 D = some (.dK kvs) ∧ kvs.length < sizeLine ∧ Pv D (i + 1) (upd H5 D (.dK (putK kvs k z))) else Pv D (i + 1) H3) (hd : ∀ D H', H D = none → Pv D n H' → R D H') :
    ∀ D, H D = none → ∃ W : Nat → Nat → Hp → Prop, (∃ m, W 0 m (upd H D (.dK []))) ∧ ∀ i m H, W i m H →
      (J.stop i H ∧ R D H) ∨ (J.go i H ∧ ∃ Nx : Hp → Prop, (∀ H', Nx H' → ∃ m', m' < m ∧ W (i + 1) m' H') ∧ ∀ x H', J.yld i H x H' → g x (wipe σ vs) H' fun σ2 H2 => wipe σ2 vs = wipe σ vs ∧ tt σ2 H2 fun b H3 =>
        if b = true then tk σ2 H3 fun y H4 => tv σ2 H4 fun z H5 => ∃ kvs k, y = kV k ∧ H5 D = some (.dK kvs) ∧ kvs.length < sizeLine ∧ Nx (upd H5 D (.dK (putK kvs k z))) else Nx H3) := fun D nD => by
  refine ⟨fun i m H' => m = n - i ∧ i ≤ n ∧ Pv D i H', ⟨n, by simp, Nat.zero_le _, h0 D _ nD (Ed.new nD) upd_same⟩, ?_⟩
  rintro i m H1 ⟨rfl, hi, p⟩
  have q := hG D i H1 nD hi p
  by_cases hlt : i < n
  · exact .inr ⟨w.goes i H1 hlt q, Pv D (i + 1), fun H' p' => ⟨n - (i + 1), by omega, rfl, hlt, p'⟩, fun x H' y => hs D i x H1 H' nD hlt p (w.yields i H1 x H' hlt q y)⟩
  · have : i = n := by omega
    subst this
    exact .inl ⟨w.stops H1 q, hd D H1 nD p⟩
theorem putK_le {κ : Type} [DecidableEq κ] (c : List (κ × V)) (k : κ) (x : V) : (putK c k x).length ≤ c.length + 1 := by
  unfold putK
  split
  · rw [List.length_map]; omega
  · rw [List.length_append]; simp
theorem all_sqt {a : Addr} {xs : List V} (h : ∀ H, SqT K H a xs) (H : Hp) : SqT K H a xs := h H
/-! ### a dict that is locked while it is walked -/
theorem frz' {S : List Addr} {H' : Hp} {a : Addr} {o : Obj} {u : HO} (e : Ed S H H') (h : H a = some (.frz o u)) : H' a = some (.frz o u) := e.frz _ _ _ h
/-- unlocked again: d is what it was, all else as it is -/
theorem unlock {S : List Addr} {d : Addr} {u : HO} {od : Obj} {H1 H' H2 : Hp} (h : H d = some u) (m : Mut (some u)) (e1 : upd H d (.frz od u) = H1) (e2 : Ed S H1 H') (e3 : upd H' d u = H2) :
    Ed S H H2 ∧ H2 d = some u ∧ ∀ a o, a ≠ d → H' a = some o → H2 a = some o := by
  subst e1 e3
  have nf : ∀ ob w, u ≠ .frz ob w := fun ob w z => by rw [z] at m; exact m
  have nt : ∀ xs, u ≠ .tup xs := fun xs z => by rw [z] at m; exact m
  refine ⟨⟨fun a o ha e => ?_, fun a xs e => ?_, fun a ob w e => ?_, fun a e => ?_⟩, upd_same, fun a o n e => by rw [upd_ne n]; exact e⟩
  · by_cases q : a = d
    · subst q; rw [h] at e; cases e; exact upd_same
    · rw [upd_ne q]; exact e2.keep a o ha (by rw [upd_ne q]; exact e)
  · by_cases q : a = d
    · subst q; rw [h] at e; cases e; exact (nt _ rfl).elim
    · rw [upd_ne q]; exact e2.tup a xs (by rw [upd_ne q]; exact e)
  · by_cases q : a = d
    · subst q; rw [h] at e; cases e; exact (nf _ _ rfl).elim
    · rw [upd_ne q]; exact e2.frz a ob w (by rw [upd_ne q]; exact e)
  · by_cases q : a = d
    · subst q; rw [upd_same] at e; cases e
    · rw [upd_ne q] at e
      have := e2.dom a e
      rw [upd_ne q] at this; exact this
/-- for k in d -/
theorem lock_keys {n : Nat} {d : Addr} {kvs : List (Key × V)} (hv : σ[n]? = some (some (.ref d))) (hd : H d = some (.dK kvs)) (S : List Addr) (Pv : Hp → Nat → L2.St → Hp → Prop) (hE : ∀ H1 i σ' H', Pv H1 i σ' H' → Ed S H1 H')
    (h0 : ∀ H1 od, Ed [d] H H1 → H1 d = some (.frz od (.dK kvs)) → Pv H1 0 σ H1)
    (turn : ∀ H1 od i k w σ' H', Ed [d] H H1 → H1 d = some (.frz od (.dK kvs)) → H' d = some (.frz od (.dK kvs)) → kvs[i]? = some (k, w) → Pv H1 i σ' H' →
      g (kV k) σ' H' fun σ2 H2 => t { nx := Pv H1 (i + 1), ct := Pv H1 (i + 1), rt := fun v H3 => H3 d = some (.frz od (.dK kvs)) ∧ D.rt v (upd H3 d (.dK kvs)), bk := fun σ3 H3 => H3 d = some (.frz od (.dK kvs)) ∧ D.nx σ3 (upd H3 d (.dK kvs)) } σ2 H2)
    (done : ∀ H1 σ' H' H2, Ed [d] H H1 → Pv H1 kvs.length σ' H' → Ed S H H2 → H2 d = some (.dK kvs) → (∀ a o, a ≠ d → H' a = some o → H2 a = some o) → D.nx σ' H2) : tLock (tFor (iKeys (tVar n)) g t) D σ H := by
  refine ⟨d, .dK kvs, hd, trivial, fun od => ?_⟩
  generalize hu : upd H d (.frz od (.dK kvs)) = H1
  obtain ⟨e1, h1⟩ := chg hu hd
  refine ⟨_, hv, d, od, rfl, .inl ⟨kvs, h1, for_it walk_keys (Pv H1) (h0 H1 od e1 h1) (fun i σ' H' _ p => (hE _ _ _ _ p).frz _ _ _ h1) (fun i x σ' H' H2 hi p y => ?_) fun σ' H' p => ?_⟩⟩
  · obtain ⟨rfl, k, w, hk, rfl⟩ := y
    exact turn H1 od i k w σ' H2 e1 h1 ((hE _ _ _ _ p).frz _ _ _ h1) hk p
  · obtain ⟨e2, h2, k2⟩ := unlock hd trivial hu (hE _ _ _ _ p) rfl
    exact ⟨(hE _ _ _ _ p).frz _ _ _ h1, done H1 σ' H' _ e1 p e2 h2 k2⟩
/-- [e for k in d] -/
theorem lockE_keys {n : Nat} {d : Addr} {kvs : List (Key × V)} {vs : List Nat} (hv : σ[n]? = some (some (.ref d))) (hd : H d = some (.dK kvs)) (S : List Addr) (Pv : Hp → Addr → Nat → Hp → Prop) (hE : ∀ H1 L i H', Pv H1 L i H' → Ed S H1 H')
    (h0 : ∀ H1 od L H2, Ed [d] H H1 → H1 d = some (.frz od (.dK kvs)) → H1 L = none → Ed [] H1 H2 → H2 L = some (.lst []) → Pv H1 L 0 H2)
    (turn : ∀ H1 od L i k w H', Ed [d] H H1 → H1 L = none → H' d = some (.frz od (.dK kvs)) → kvs[i]? = some (k, w) → Pv H1 L i H' →
      g (kV k) (wipe σ vs) H' fun σ2 H2 => wipe σ2 vs = wipe σ vs ∧ tt σ2 H2 fun b H3 => if b = true then te σ2 H3 fun y H4 => ∃ acc, H4 L = some (.lst acc) ∧ acc.length < sizeLine ∧ Pv H1 L (i + 1) (upd H4 L (.lst (acc ++ [y]))) else Pv H1 L (i + 1) H3)
    (done : ∀ H1 L H' H2, H L = none → Pv H1 L kvs.length H' → Ed S H H2 → H2 d = some (.dK kvs) → (∀ a o, a ≠ d → H' a = some o → H2 a = some o) → Q (.ref L) H2) : tLockE (tLc (iKeys (tVar n)) g tt te vs) σ H Q := by
  refine ⟨d, .dK kvs, hd, trivial, fun od => ?_⟩
  generalize hu : upd H d (.frz od (.dK kvs)) = H1
  obtain ⟨e1, h1⟩ := chg hu hd
  refine ⟨_, hv, d, od, rfl, .inl ⟨kvs, h1, fun L nL => lc_it walk_keys (Pv H1 L) (h0 H1 od L _ e1 h1 nL (Ed.new nL) upd_same) (fun i H' _ p => (hE _ _ _ _ p).frz _ _ _ h1) (fun i x H' H2 hi p y => ?_) fun H' p => ?_⟩⟩
  · obtain ⟨rfl, k, w, hk, rfl⟩ := y
    exact turn H1 od L i k w H2 e1 nL ((hE _ _ _ _ p).frz _ _ _ h1) hk p
  · obtain ⟨e2, h2, k2⟩ := unlock hd trivial hu (hE _ _ _ _ p) rfl
    exact ⟨(hE _ _ _ _ p).frz _ _ _ h1, done H1 L H' _ (e1.dom _ nL) p e2 h2 k2⟩
/-- y = [e for k in d] -/
theorem lockA_keys {n m : Nat} {d : Addr} {kvs : List (Key × V)} {vs : List Nat} (hv : σ[n]? = some (some (.ref d))) (hd : H d = some (.dK kvs)) (S : List Addr) (Pv : Hp → Addr → Nat → Hp → Prop) (hE : ∀ H1 L i H', Pv H1 L i H' → Ed S H1 H')
    (h0 : ∀ H1 od L H2, Ed [d] H H1 → H1 d = some (.frz od (.dK kvs)) → H1 L = none → Ed [] H1 H2 → H2 L = some (.lst []) → Pv H1 L 0 H2)
    (turn : ∀ H1 od L i k w H', Ed [d] H H1 → H1 L = none → H' d = some (.frz od (.dK kvs)) → kvs[i]? = some (k, w) → Pv H1 L i H' →
      g (kV k) (wipe σ vs) H' fun σ2 H2 => wipe σ2 vs = wipe σ vs ∧ tt σ2 H2 fun b H3 => if b = true then te σ2 H3 fun y H4 => ∃ acc, H4 L = some (.lst acc) ∧ acc.length < sizeLine ∧ Pv H1 L (i + 1) (upd H4 L (.lst (acc ++ [y]))) else Pv H1 L (i + 1) H3)
    (done : ∀ H1 L H' H2, H L = none → Pv H1 L kvs.length H' → Ed S H H2 → H2 d = some (.dK kvs) → (∀ a o, a ≠ d → H' a = some o → H2 a = some o) → D.nx (σ.set m (some (.ref L))) H2) : tLock (tAsg (tLc (iKeys (tVar n)) g tt te vs) (gName m)) D σ H := by
  refine ⟨d, .dK kvs, hd, trivial, fun od => ?_⟩
  generalize hu : upd H d (.frz od (.dK kvs)) = H1
  obtain ⟨e1, h1⟩ := chg hu hd
  refine ⟨_, hv, d, od, rfl, .inl ⟨kvs, h1, fun L nL => lc_it walk_keys (Pv H1 L) (h0 H1 od L _ e1 h1 nL (Ed.new nL) upd_same) (fun i H' _ p => (hE _ _ _ _ p).frz _ _ _ h1) (fun i x H' H2 hi p y => ?_) fun H' p => ?_⟩⟩
  · obtain ⟨rfl, k, w, hk, rfl⟩ := y
    exact turn H1 od L i k w H2 e1 nL ((hE _ _ _ _ p).frz _ _ _ h1) hk p
  · obtain ⟨e2, h2, k2⟩ := unlock hd trivial hu (hE _ _ _ _ p) rfl
    exact ⟨(hE _ _ _ _ p).frz _ _ _ h1, done H1 L H' _ (e1.dom _ nL) p e2 h2 k2⟩
end
end Vc

/-! Kw: method calls with keywords (my own; the way is pe_meth's and pe_callK's). -/
namespace Vc
open PySem PySem.Spec PyProof.Rows L2
section
variable {X : Cx} {CX : CXT} {k : Nat} {f C : Addr} {fd : FuncData} {ps ks : List Str} {sp : Sp} {E : XK} {x m : Str} {p pos apos : Pos} {e o : Expr} {es : List Expr} {kws : List Keyword} {ta : TE} {t tk : TA} {g : List Value → List Value → List Value} {gV : List V → List V → List V}
theorem kbinds {K : PySem.W.Frag} {x qual : Str} {st : Stmt} (F : Fun K x qual st f fd)
    (h : ∀ (kV doc pm : Value) (an : Option Addr) (cdv ct : Value) (us ws : List Value), (g us ws).length = ps.length → bindArgs (PySem.W.fnOf x qual (defArgs st) (defBody st) (defScope st) .none kV doc pm an cdv ct) ⟨us, ks.zip ws⟩ = pure (ps.zip (g us ws)))
    (rel : ∀ {vs : List V} {us : List Value} {zs : List V} {ws : List Value}, Vals vs us → Vals zs ws → Vals (gV vs zs) (g us ws)) : KBinds K fd ps ks g gV := by
  obtain ⟨oc, od, kV, doc, pm, an, cdv, ct, osl, rfl, lk, hcd⟩ := F.ex
  exact ⟨fun s us ws _ hl => .of_eq (h kV doc pm an cdv ct us ws hl), rel⟩
def tMethK (C : Addr) (m : Str) (sp : Sp) (gV : List V → List V → List V) (E : XK) (ta : TE) (t tk : TA) : TE := fun σ H Q => ta σ H fun x H1 => ∃ a dx fs, x = .ref a ∧ H1 a = some (.ins C dx fs) ∧ fs.lookup m = none ∧ t σ H1 fun vs H2 => tk σ H2 fun zs H3 => sp (gV (x :: vs) zs) H3 Q E
/-- o.m(k = v, ..) -/
theorem pe_methK0 {pl : Sem Bool} (he : PE X o ta) (c : Cls X.K C) (hm : Meth X.K C m f) (F : FnOk X.prog X.w X.K X.mg X.base CX k f fd ps sp) (hr : Room k X.A) (hb : KBinds X.K fd ps ks g gV) (hx : Passes CX X E) (hkw : PK X kws tk)
    (hall : (backToKw pos (keywordEach kws X.env)).all (·.1.isSome) = true := by rfl) (hks : (backToKw pos (keywordEach kws X.env)).filterMap (·.1) = ks := by rfl)
    (hpl : ((backTo pos (starEach [] X.env)).any (·.1) || (backToKw pos (keywordEach kws X.env)).any (·.1.isNone)) = false := by rfl)
    (ht : eval (.Call (.Attribute o m apos) [] kws pos) X.env = (do
      let ov ← eval o X.env
      standAt apos.atName
      let (f, first) ← holding [ov] (getMethod ov m pl)
      callWith pos f first (backTo pos (starEach [] X.env)) (backToKw pos (keywordEach kws X.env))) := by rfl) :
    PE X (.Call (.Attribute o m apos) [] kws pos) (tMethK C m sp gV E ta tNil tk) := by
  refine ⟨fun pins s σ H Q I h => ?_⟩
  refine PySem.W.methodCall_KW (pl := pl) (thn (he.run pins s σ H _ I h) fun u s1 ⟨x, H1, I1, rx, a, dx, fs, ex, ea, l, q⟩ => ?_) ht
  subst ex
  obtain rfl : u = Value.ref a := rx
  refine getmeth_ok I1 ea c hm l ?_
  refine PySem.W.callWith_KW0 (first := [.ref a]) (h₀ := X.base) I.ok.mod.kin hm.kp hall (thn (hkw.run pos pins s1 σ H1 _ I1 q) fun ws s2 ⟨zs, H2, I2, rz, q2⟩ => ⟨I2.kIn, ?_⟩) hpl
  rw [hks]
  exact run_fnk (us := [.ref a]) (vs := [.ref a]) F hr hb hx I2 (.cons rfl .nil) rz q2
/-- o.m(e, .., k = v, ..) -/
theorem pe_methK {pl : Sem Bool} (he : PE X o ta) (c : Cls X.K C) (hm : Meth X.K C m f) (F : FnOk X.prog X.w X.K X.mg X.base CX k f fd ps sp) (hr : Room k X.A) (hb : KBinds X.K fd ps ks g gV) (hx : Passes CX X E) (ha : PA X (e :: es) t) (hkw : PK X kws tk)
    (hall : (backToKw pos (keywordEach kws X.env)).all (·.1.isSome) = true := by rfl) (hks : (backToKw pos (keywordEach kws X.env)).filterMap (·.1) = ks := by rfl)
    (hst : starEach (e :: es) X.env = (false, eval e X.env) :: starEach es X.env := by rfl)
    (hpl : ((backTo pos (starEach (e :: es) X.env)).any (·.1) || (backToKw pos (keywordEach kws X.env)).any (·.1.isNone)) = false := by rfl)
    (ht : eval (.Call (.Attribute o m apos) (e :: es) kws pos) X.env = (do
      let ov ← eval o X.env
      standAt apos.atName
      let (f, first) ← holding [ov] (getMethod ov m pl)
      callWith pos f first (backTo pos (starEach (e :: es) X.env)) (backToKw pos (keywordEach kws X.env))) := by rfl) :
    PE X (.Call (.Attribute o m apos) (e :: es) kws pos) (tMethK C m sp gV E ta t tk) := by
  refine ⟨fun pins s σ H Q I h => ?_⟩
  refine PySem.W.methodCall_KW (pl := pl) (thn (he.run pins s σ H _ I h) fun u s1 ⟨x, H1, I1, rx, a, dx, fs, ex, ea, l, q⟩ => ?_) ht
  subst ex
  obtain rfl : u = Value.ref a := rx
  refine getmeth_ok I1 ea c hm l ?_
  refine PySem.W.callWith_KW (first := [.ref a]) (h₀ := X.base) I.ok.mod.kin hm.kp hall (thn (ha.run pos pins s1 σ H1 _ I1 q) fun us s2 ⟨vs, H2, I2, r, q2⟩ => ?_) hpl hst
  refine thn (hkw.run pos pins s2 σ H2 _ I2 q2) fun ws s3 ⟨zs, H3, I3, rz, q3⟩ => ⟨I3.kIn, ?_⟩
  rw [hks]
  exact run_fnk (us := .ref a :: us) (vs := .ref a :: vs) F hr hb hx I3 (.cons rfl r) rz q3
/-- f(k = v, ..) -/
theorem pe_callK0 (F : FnOk X.prog X.w X.K X.mg X.base CX k f fd ps sp) (hr : Room k X.A) (hg : Gl X x) (hm : X.mg x = some (.ref f)) (hk : PySem.W.keepIn X.K (.ref f) = true) (hb : KBinds X.K fd ps ks g gV) (hx : Passes CX X E) (hkw : PK X kws tk)
    (hall : (backToKw pos (keywordEach kws X.env)).all (·.1.isSome) = true := by rfl) (hks : (backToKw pos (keywordEach kws X.env)).filterMap (·.1) = ks := by rfl)
    (hdb : (x == ("__debug__" : Str)) = false := by decide)
    (hpl : ((backTo pos (starEach [] X.env)).any (·.1) || (backToKw pos (keywordEach kws X.env)).any (·.1.isNone)) = false := by rfl) :
    PE X (.Call (.Name x p) [] kws pos) (tCallK sp gV E tNil tk) := by
  refine ⟨fun pins s σ H Q I h => ?_⟩
  refine wpAny_Call_Name_kw (ld_glob I hg hm ?_ hdb)
  refine PySem.W.callWith_KW0 (first := []) (h₀ := X.base) I.ok.mod.kin hk hall (thn (hkw.run pos pins s σ H _ I h) fun ws s2 ⟨zs, H2, I2, rz, q2⟩ => ⟨I2.kIn, ?_⟩) hpl
  rw [hks]
  exact run_fnk (us := []) (vs := []) F hr hb hx I2 .nil rz q2
end
section
variable {σ : L2.St} {H : Hp} {Q : VK} {ta : TE} {ts tk : TA} {C : Addr} {m : Str} {sp : Sp} {E : XK} {gV : List V → List V → List V}
theorem go_methK (h : ta σ H fun x H1 => ∃ a dx fs, x = .ref a ∧ H1 a = some (.ins C dx fs) ∧ fs.lookup m = none ∧ ts σ H1 fun vs H2 => tk σ H2 fun zs H3 => sp (gV (x :: vs) zs) H3 Q E) : tMethK C m sp gV E ta ts tk σ H Q := h
theorem go_callK (h : ts σ H fun vs H1 => tk σ H1 fun zs H2 => sp (gV vs zs) H2 Q E) : tCallK sp gV E ts tk σ H Q := h
end
end Vc

/-! Sup: an own exception over own classes over ValueError, whose __init__ begins super().__init__('text') (my own; ways of HandS.Call's fn_of, HandS.ExcInit and KE.KExcSuper). -/
namespace Vc
open PySem PySem.Spec PyProof.Rows L2 PySem.W
/-- a def with the free cell __class__ -/
structure SupScope (N P : List Str) (sc : Scope) : Prop where
  kind : sc.kind = .function
  co : sc.isCoroutine = false
  gen : sc.isGenerator = false
  nd : N.Nodup
  pre : N.take P.length = P
  par : ∀ x ∈ P, sc.names.lookup x = some .local
  nocell : ∀ y ∈ sc.names, y.2 ≠ .cell
  free1 : ∀ y ∈ sc.names, y.2 = .free → y.1 = "__class__"
  cls : sc.names.lookup ("__class__" : Str) = some .free
  sup : sc.names.lookup ("super" : Str) = some .globalImplicit
/-- the context of such a def's body -/
def cxS (cm : Bool) (CX : CXT) (P : Program) (w : World) (K : PySem.W.Frag) (mg : Str → Option Value) (base : Heap) (N : List Str) (qual : Str) (scope : Scope) (f : Addr) (cd : Value) (cc : Addr) (A : Around) (outer : List Env) (s : Shared) (H : Hp) (E : XK) : Cx where
  prog := P
  w := w
  K := K
  mg := mg
  base := base
  A := A.deeper (ksEnv qual scope s.heap.objs.size f cd cc)
  N := N
  s_0 := s
  H_0 := H
  env := ksEnv qual scope s.heap.objs.size f cd cc
  outer := outer
  stack := ksEnv qual scope s.heap.objs.size f cd cc :: outer
  ex := []
  calm := cm
  fn := fun y => !(y == ("__class__" : Str))
  pn := []
  xe := fun e s' => wpAny (model P w) (A.deeper (ksEnv qual scope s.heap.objs.size f cd cc)) (leaving (ksEnv qual scope s.heap.objs.size f cd cc) e) (fun _ s'' => CX outer H s E e s'') (fun e' s'' => CX outer H s E e' s'') s'
theorem cell1 {x : Str} {c cc : Addr} (h : List.lookup x [(("__class__" : Str), cc)] = some c) : x = "__class__" ∧ c = cc := by
  by_cases e : (x == ("__class__" : Str)) = true
  · rw [List.lookup_cons, e] at h
    exact ⟨eq_of_beq e, (Option.some.inj h).symm⟩
  · rw [List.lookup_cons, Bool.eq_false_iff.mpr e] at h
    cases h
theorem lookup_rev : ∀ {ps : List Str} {us : List Value} {i : Nat} {y : Str} {u : Value}, ps.Nodup → ps[i]? = some y → us[i]? = some u → (ps.zip us).reverse.lookup y = some u := by
  have key : ∀ {l : List (Str × Value)} {y : Str} {u : Value}, (l.map (·.1)).Nodup → (y, u) ∈ l → l.lookup y = some u := by
    intro l
    induction l with
    | nil => intro y u _ h; cases h
    | cons p r ih =>
      intro y u nd h
      rw [List.map_cons, List.nodup_cons] at nd
      rcases List.mem_cons.mp h with e | h
      · subst e; simp [List.lookup]
      · have ne : (y == p.1) = false := by
          rw [beq_eq_false_iff_ne]
          intro e
          exact nd.1 (e ▸ List.mem_map.mpr ⟨(y, u), h, rfl⟩)
        rw [List.lookup_cons, ne]
        exact ih nd.2 h
  intro ps us i y u nd h1 h2
  refine key ?_ ?_
  · rw [List.map_reverse]
    refine List.pairwise_reverse.mpr ?_
    have h3 : ((ps.zip us).map (·.1)).Nodup := nd.sublist (by
      have : (ps.zip us).map (·.1) = ps.take us.length := by
        clear key h1 h2 nd
        induction ps generalizing us with
        | nil => simp
        | cons p r ih =>
          cases us with
          | nil => simp
          | cons u t => simp [ih]
      rw [this]
      exact List.take_sublist _ _)
    exact h3.imp fun h => h.symm
  · rw [List.mem_reverse]
    refine List.mem_iff_getElem?.mpr ⟨i, ?_⟩
    rw [List.getElem?_zip_eq_some]
    exact ⟨h1, h2⟩
theorem inv_sup {cm : Bool} {CX : CXT} {P : Program} {w : World} {K : PySem.W.Frag} {mg : Str → Option Value} {base : Heap} {N ps : List Str} {qual : Str} {scope : Scope} {f cc : Addr} {cd : Value} {A : Around} {outer : List Env} {s : Shared} {H : Hp} {E : XK} {us : List Value} {vs : List V} {h1 : Heap} {tk : Nat} {oc cv : Value} {od : Option Addr} {sl : Array (Option Value)}
    (S : SupScope N ps scope) (hd : cm = true → A.handled = none) (e0 : Env0 P w K mg base A outer s H) (hl : vs.length = ps.length) (r : Vals vs us) (hcell : K.lookup cc = some ⟨oc, od, .cell (some cv), sl⟩)
    (ns : h1.Ns s.heap.objs.size (fun x => (ps.zip us).reverse.lookup x)) (hk : ∀ b o, s.heap.get? b = some o → h1.get? b = some o) :
    Inv (cxS cm CX P w K mg base N qual scope f cd cc A outer s H E) [] (start N vs) H { s with heap := h1, toks := tk } := by
  have hpl : ps.length ≤ N.length := by have := congrArg List.length S.pre; rw [List.length_take] at this; omega
  have hK : base.get? cc = some ⟨oc, od, .cell (some cv), sl⟩ := e0.mod.kin _ _ hcell
  have hs := e0.bs _ _ hK
  refine ⟨⟨e0.mod, S.kind, rfl, rfl, Nat.le_refl _, fun y z c h1 h2 => ?_, fun y hy => ?_, fun y c hf h => ?_, hd, Around.frames_deeper e0.frames, .inr ⟨rfl, rfl⟩, fun b z => absurd (show b ∈ ([] : List Addr) from z) (by simp), e0.bs, e0.bsz, fun b _ _ z => absurd (show b ∈ ([] : List Addr) from z) (by simp), fun b z => absurd (show b ∈ ([] : List Addr) from z) (by simp), e0.funs, e0.frf⟩,
    rfl, e0.bare, Un.kept hk, ⟨_, ns, fun i y v h1 h2 h3 => ?_⟩, fun y c h => ?_, e0.hok.fresh (Nat.le_refl _), fun y c h => ?_, fun p hp => absurd (show p ∈ ([] : List (Addr × Obj)) from hp) (by simp), e0.hok.kept hk, ?_⟩
  · exact (cell1 h1).1.trans (cell1 h2).1.symm
  · have hy : scope.names.lookup y = some .cell ∨ scope.names.lookup y = some .free := hy
    rcases hy with hy | hy
    · exact absurd rfl (S.nocell _ (PySem.mem_of_lookup hy))
    · have := S.free1 _ (PySem.mem_of_lookup hy) rfl
      have : y = "__class__" := this
      subst this
      exact ⟨cc, by show List.lookup _ [_] = _; simp [List.lookup]⟩
  · have := (cell1 h).1
    subst this
    cases (show (!((("__class__" : Str)) == ("__class__" : Str))) = true from hf)
  · have hi : i < vs.length := by
      unfold L2.start at h2
      by_cases hi : i < vs.length
      · exact hi
      · rw [List.getElem?_append_right (by simpa using hi)] at h2
        rw [List.getElem?_replicate] at h2
        split at h2 <;> cases h2
    have ha : vs[i]? = some v := by
      unfold L2.start at h2
      rw [List.getElem?_append_left (by simpa using hi), List.getElem?_map] at h2
      cases e : vs[i]? with
      | none => rw [e] at h2; cases h2
      | some a => rw [e] at h2; cases h2; rfl
    obtain ⟨u, hu, rv⟩ := r.get ha
    have hp : ps[i]? = some y := by
      rw [← S.pre, List.getElem?_take_of_lt (by omega)]; exact h1
    have ndP : ps.Nodup := by rw [← S.pre]; exact S.nd.sublist (List.take_sublist _ _)
    exact ⟨u, rv, .inl ⟨S.par y (List.mem_of_getElem? hp), lookup_rev ndP hp hu⟩⟩
  · rw [(cell1 h).2]
    exact ⟨_, _, hk _ _ hs.1, rfl⟩
  · rw [(cell1 h).2]
    exact hs.2
  · unfold L2.start
    show _ = N.length
    rw [List.length_append, List.length_map, List.length_replicate]
    omega
section
variable {prog : Program} {w : World} {A : Around} {E : Value → Shared → Prop} {h : Heap} {g : Array GenState} {d : Drawn} {t : Nat} {os : OsState}
variable {nm q : Str} {C N : Addr} {bs bm : List Value} {hdct : Bool} {sn : List Str} {sub : List Value} {ab : Bool} {col : Option Bool} {dd : Option Addr} {k0 k1 k2 k3 k5 : Option Value}
/-- the bound ValueError.__init__ called -/
theorem call_bv {u e t0 : Addr} {rest : List Value} {Q : Value → Shared → Prop}
    (hC : h.get? C = some (excClassObj nm q C N bs bm hdct sn sub ab col dd k0 k1 k2 k3 k5 "ValueError.__new__")) (he : h.get? e = some (HandSPX.excO C t0)) (hu : h.get? u = some (kxs_mw "ValueError.__init__" e)) (hrest : rest.length ≤ sizeLine)
    (hq : ∀ h' t1, (∀ b o, b ≠ e → h.get? b = some o → h'.get? b = some o) → h'.get? e = some (HandSPX.excO C t1) → Q .none ⟨h', g, d, t, os⟩) :
    wpAny (model prog w) A (call (.ref u) rest) Q E ⟨h, g, d, t, os⟩ := by
  refine wpAny_call (codeAny_of_tree ?_)
  show wpAny _ A.in1 (callAny (.ref u) ⟨rest, []⟩) _ _ _
  simp only [callAny]
  refine wpAny_bind (wpAny_load hu ?_)
  simp only [kxs_mw, show (Value.type "method-wrapper" == Value.type "method" || Value.type "method-wrapper" == Value.type "builtin_function_or_method" || Value.type "method-wrapper" == Value.type "method-wrapper") = true by decide, if_true]
  refine W.KFB.if_so (by decide) ?_
  refine wpAny_bind (check_bound_init F.excBase_ValueError.toExcCallFacts hC he rfl ?_)
  refine wpAny_bind (wpAny_pure (wpAny_pure ?_))
  refine ⟨Code.quiet_builtin _ (by decide +kernel), codeAny_builtin F.excBase_ValueError.initEntry ?_⟩
  rw [Around.under_plainId F.excBase_ValueError.init.plain _]
  wp_walk
  refine hq _ h.objs.size (fun b o hb ho => ?_) ?_
  · rw [Heap.get?_update_other _ _ (Ne.symm hb)]
    exact Heap.get?_push_of_some _ ho
  · rw [Heap.get?_update_self _ (Heap.get?_push_of_some _ he) rfl]
    rfl
end
/-- what super() asks for in the __init__ of the class at C -/
structure SupF (P : Program) (K : PySem.W.Frag) (mg : Str → Option Value) (f cda cc C : Addr) (fd : FuncData) (sv : Str) : Prop where
  lk : ∃ oc od sl, K.lookup f = some ⟨oc, od, .func fd, sl⟩
  par : ∃ ar : Arg, (fd.params.posonlyargs ++ fd.params.args).head? = some ar ∧ ar.arg = sv
  code : ∃ ccl cdd vs ccs file tf, K.lookup cda = some ⟨ccl, cdd, .fields vs, ccs⟩ ∧ vs[2]? = some (.str file tf) ∧ ((P.main.file : Str) == file) = true
  cell : ∃ cl cld csl, K.lookup cc = some ⟨cl, cld, .cell (some (.ref C)), csl⟩
  sub : mroIn K C (.ref C) = some true
  init : ks_superIn K C C "__init__" = some (some (.builtin "ValueError.__init__"))
  subV : subIn K (.ref C) (.type "ValueError") = some true
  nosup : mg "super" = none
  noop : nsIn K cStatics "thirdparty.any" = some none
  top : (P.main.scope.names.lookup ("super" : Str)).isSome = false
section
variable {cm : Bool} {CX : CXT} {P : Program} {w : World} {K : PySem.W.Frag} {mg : Str → Option Value} {base : Heap} {N ps : List Str} {qual : Str} {scope : Scope} {f cc cda C a : Addr} {A : Around} {outer : List Env} {s0 s : Shared} {H0 H : Hp} {E0' : XK} {pins : List (Addr × Obj)} {σ : L2.St} {fd : FuncData} {sv : Str} {body : List Stmt} {p0 p1 ap cp pos spos : Pos} {x : Str} {nk : Nat} {pl : Sem Bool}
theorem sup_stmt {e : Expr} {Q : Flow → Shared → Prop} (S : SupScope N ps scope) (SF : SupF P K mg f cda cc C fd sv) (T : OexC K C) (I : Inv (cxS cm CX P w K mg base N qual scope f (.ref cda) cc A outer s0 H0 E0') pins σ H s) (hN : N[0]? = some sv) (hself : scope.names.lookup sv = some .local) (hσ : σ[0]? = some (some (.ref a))) (ea : H a = some (exo a C none))
    (he : PE (cxS cm CX P w K mg base N qual scope f (.ref cda) cc A outer s0 H0 E0') e (tC (.str x))) (h : ∀ s', Inv (cxS cm CX P w K mg base N qual scope f (.ref cda) cc A outer s0 H0 E0') pins σ H s' → Q .next s')
    (hi : interactive (ksEnv qual scope s0.heap.objs.size f (.ref cda) cc) = false)
    (hs : swapsWith (.Call (.Attribute (.Call (.Name "super" p0) [] [] p1) "__init__" ap) [e] [] pos) none spos.line (ksEnv qual scope s0.heap.objs.size f (.ref cda) cc) = pure false)
    (hst : starEach [e] (ksEnv qual scope s0.heap.objs.size f (.ref cda) cc) = (false, eval e (ksEnv qual scope s0.heap.objs.size f (.ref cda) cc)) :: starEach [] (ksEnv qual scope s0.heap.objs.size f (.ref cda) cc))
    (ht : eval (.Call (.Attribute (.Call (.Name "super" p0) [] [] p1) "__init__" ap) [e] [] pos) (ksEnv qual scope s0.heap.objs.size f (.ref cda) cc) = (do
      let ov ← attributeBase (.Call (.Name "super" p0) [] [] p1) "__init__" (ksEnv qual scope s0.heap.objs.size f (.ref cda) cc) (eval (.Call (.Name "super" p0) [] [] p1) (ksEnv qual scope s0.heap.objs.size f (.ref cda) cc))
      standAt ap.atName
      let (fm, first) ← holding [ov] (getMethod ov "__init__" pl)
      callWith pos fm first (backTo pos (starEach [e] (ksEnv qual scope s0.heap.objs.size f (.ref cda) cc))) (backToKw pos (keywordEach [] (ksEnv qual scope s0.heap.objs.size f (.ref cda) cc))))) :
    _root_.PySem.wpAt (model P w) (cxS cm CX P w K mg base N qual scope f (.ref cda) cc A outer s0 H0 E0').A (.func body (ksEnv qual scope s0.heap.objs.size f (.ref cda) cc)) (exec (.Expr (.Call (.Attribute (.Call (.Name "super" p0) [] [] p1) "__init__" ap) [e] [] pos) spos) (ksEnv qual scope s0.heap.objs.size f (.ref cda) cc)) Q (cxS cm CX P w K mg base N qual scope f (.ref cda) cc A outer s0 H0 E0').xe s := by
  obtain ⟨_, _, _, lkf⟩ := SF.lk
  obtain ⟨ar, hp, rfl⟩ := SF.par
  obtain ⟨_, _, vs, _, file, tf, lkc, hvs, hfile⟩ := SF.code
  obtain ⟨_, _, _, lkl⟩ := SF.cell
  have KX : K.In s.heap := I.kIn
  refine ks_wpAt_Expr_any ?_ hi hs
  refine ks_wpAt_MethodCall (pl := pl) ?_ ht
  refine ks_wpAt_super_base (env := ksEnv qual scope s0.heap.objs.size f (.ref cda) cc) S.sup S.cls (by decide) rfl (KX _ _ lkf) rfl hp rfl (KX _ _ lkc) rfl hvs hfile SF.top ?_
  obtain ⟨mb, hb1, hb2⟩ := I.mod.blt
  have hboot : bootBuiltins "super" = some (.type "super") := by decide +kernel
  refine ks_loadName_global S.kind S.sup (Calls.loadGlobal_builtin (I.mod.glob.keeps I.bk) SF.nosup (hb1.keeps I.bk) ((hb2 "super" (by decide)).trans hboot) ⟨rfl, ?_⟩)
  refine wpAny_loadName_free S.kind S.cls (c := cc) (by simp [List.lookup]) ⟨_, KX _ _ lkl, rfl⟩ ?_
  obtain ⟨m, ns, hm⟩ := id I.loc
  obtain ⟨u, ru, lu⟩ := hm 0 _ _ hN hσ (.inl hself)
  obtain rfl : u = Value.ref a := ru
  have hma : m ar.arg = some (.ref a) := by
    rcases lu with ⟨_, e⟩ | ⟨k | k, _⟩
    · exact e
    · have k : scope.names.lookup ar.arg = some .cell := k
      rw [hself] at k; cases k
    · have k : scope.names.lookup ar.arg = some .free := k
      rw [hself] at k; cases k
  refine wpAny_loadName_local S.kind hself ns hma ?_
  obtain ⟨nm, q, Nn, bs, bm, sn, sub, ab, col, dd, k0, k1, k2, k3, k5, hC, hbm⟩ := T.cls
  obtain ⟨t1, ho⟩ := exo_at I.hok ea
  have hCh := KX _ _ hC
  obtain ⟨hh, g, d, t, os⟩ := s
  refine ks_wpAny_isType_cls hCh rfl ⟨rfl, ?_⟩
  refine ks_wpAny_call_super hCh rfl ho rfl (fun c z => by cases z) (looks_mroIn KX SF.sub) fun h' hso hk => ?_
  have KX' : K.In h' := KX.keeps hk
  have hcl : clsIn K C = some { name := nm, bases := bs, mro := .ref C :: bm, ns := Nn, qualname := q, hasDict := true, slotNames := sn, subclasses := sub, abstract := ab, collection := col, hasDel := false } := by unfold clsIn; rw [hC] <;> rfl
  have IA : InstAt h' a { cls := .ref C, dict := none, data := .fields #[.ref t1, .none, .none, .none, .bool false, .none] } C none := ⟨hk _ _ ho, rfl, rfl, trivial⟩
  have hsi := SF.init
  unfold ks_superIn at hsi
  rw [hcl, Option.bind_some] at hsi
  refine kxs_getMethod kxs_ValueError hso (looks_opaque KX' SF.noop) (l₀ := .ref C :: bm) ?_ rfl KX' hsi (IA.type.andThen (looks_subIn KX' SF.subV)) (ks_ne KX' IA hcl) (by decide) ?_
  · exact fun A Q E s k q => wpAny_bind ((looks_clsIn KX' hcl) A _ E s k (wpAny_pure q))
  have hk2 : ∀ b o, hh.get? b = some o → (h'.push (kxs_mw "ValueError.__init__" a)).get? b = some o := fun b o z => Heap.get?_push_of_some _ (hk b o z)
  have I2 : Inv (cxS cm CX P w K mg base N qual scope f (.ref cda) cc A outer s0 H0 E0') pins σ H ⟨h'.push (kxs_mw "ValueError.__init__" a), g, d, t + 1, os⟩ := I.kept (t' := t + 1) hk2
  have hu : (h'.push (kxs_mw "ValueError.__init__" a)).get? h'.objs.size = some (kxs_mw "ValueError.__init__" a) := Heap.get?_push_at rfl rfl
  have hsz : hh.objs.size ≤ h'.objs.size := Nat.le_of_lt (Nat.lt_of_le_of_lt (Nat.le_refl _) (Heap.lt_size hso))
  have I3 := I2.pins_of (pins' := (h'.objs.size, kxs_mw "ValueError.__init__" a) :: pins) fun p hp => by
    rcases List.mem_cons.mp hp with e | hp
    · subst e
      exact ⟨hu, I.hok.fresh hsz, fun z => absurd (Nat.lt_of_lt_of_le I.lt hsz) (by have z : h'.objs.size = _ := z; rw [z]; exact Nat.lt_irrefl _), I.nofs hsz, fun v z => by cases z⟩
    · exact I2.pin p (List.mem_append_right _ hp)
  have hev := (pa_cons he pa_nil (hs := hst)).run pos _ _ σ H (fun vs H1 => vs = [.str x] ∧ H1 = H) I3 ⟨rfl, rfl⟩
  have hst2 : starEach [e] (cxS cm CX P w K mg base N qual scope f (.ref cda) cc A outer s0 H0 E0').env = (false, eval e (cxS cm CX P w K mg base N qual scope f (.ref cda) cc A outer s0 H0 E0').env) :: starEach [] (cxS cm CX P w K mg base N qual scope f (.ref cda) cc A outer s0 H0 E0').env := hst
  rw [hst2] at hev
  show wpAny _ _ (callWith pos (.ref h'.objs.size) [] (backTo pos (starEach [e] (ksEnv qual scope s0.heap.objs.size f (.ref cda) cc))) []) _ _ _
  rw [hst]
  refine kxs_callWith (i := "ValueError.__init__") (x := a) (by rfl) ?_
  refine PySem.Calls.evalArgs_plain (thn hev fun us s1 ⟨vs, H1, I4, r1, ev, eH⟩ => ?_)
  subst ev eH
  have hu4 := (I4.pin (h'.objs.size, kxs_mw "ValueError.__init__" a) (List.mem_append_right _ (List.mem_cons_self ..))).1
  refine ⟨hu4, ?_⟩
  have I5 : Inv (cxS cm CX P w K mg base N qual scope f (.ref cda) cc A outer s0 H0 E0') pins σ H1 s1 := I4.pins_of fun p hp => I4.pin p (List.mem_append_right _ (List.mem_cons_of_mem _ hp))
  have hC5 := I5.kIn _ _ hC
  obtain ⟨t5, ho5⟩ := exo_at I5.hok ea
  obtain ⟨hh5, g5, d5, tk5, os5⟩ := s1
  have hlen : us.length = 1 := by rw [← Paired.length r1]; rfl
  refine call_bv (rest := [] ++ us) hC5 ho5 hu4 (by rw [List.nil_append, hlen, sizeLine_eq]; omega) fun h6 t6 k6 hx6 => ?_
  have J := I5.write (t' := tk5) (x := a) (e := a) (o := exo a C none) (by rw [ea]; exact True.intro) (.inl rfl) k6 ⟨_, hx6⟩ (exo_ok hx6)
  have eu : upd H1 a (exo a C none) = H1 := by
    funext b
    by_cases hb : b = a
    · rw [hb, upd_same, ea]
    · rw [upd_ne hb]
  rw [eu] at J
  exact h _ J
/-- as Fun, for a def with the free cell __class__ at cc -/
structure FunS (P : Program) (K : PySem.W.Frag) (mg : Str → Option Value) (x qual : Str) (st : Stmt) (f : Addr) (fd : FuncData) (C : Addr) (sv : Str) : Prop where
  ex : ∃ (oc : Value) (od : Option Addr) (kV doc pm : Value) (an : Option Addr) (cda cc : Addr) (ct : Value) (osl : Array (Option Value)),
    fd = ksFn x qual (defArgs st) (defBody st) (defScope st) .none kV doc pm an (.ref cda) ct cc ∧ K.lookup f = some ⟨oc, od, .func fd, osl⟩ ∧ PySem.W.codeIn K (.ref cda) qual = true ∧ SupF P K mg f cda cc C fd sv
  kp : PySem.W.keepIn K (.ref f) = true
theorem FunS.code (cm : Bool) {P : Program} {w : World} {K : PySem.W.Frag} {mg : Str → Option Value} {base : Heap} {CX : CXT} {x qual : Str} {st : Stmt} {rest : List Stmt} {f C : Addr} {fd : FuncData} {sv : Str} {N ps : List Str} {sp : Sp} {e : Expr} {z : Str} {p0 p1 ap pos spos : Pos} {pl : Sem Bool}
    (F : FunS P K mg x qual st f fd C sv) (S : SupScope N ps (defScope st)) (T : OexC K C) (hb : defBody st = .Expr (.Call (.Attribute (.Call (.Name "super" p0) [] [] p1) "__init__" ap) [e] [] pos) spos :: rest) (hN : N[0]? = some sv) (hself : (defScope st).names.lookup sv = some .local)
    (len : ∀ vs H Q E, sp vs H Q E → vs.length = ps.length)
    (hE : ∀ (X : Cx), PE X e (tC (.str z)))
    (hi : ∀ L cd cc, interactive (ksEnv qual (defScope st) L f cd cc) = false)
    (hs : ∀ L cd cc, swapsWith (.Call (.Attribute (.Call (.Name "super" p0) [] [] p1) "__init__" ap) [e] [] pos) none spos.line (ksEnv qual (defScope st) L f cd cc) = pure false)
    (hst : ∀ L cd cc, starEach [e] (ksEnv qual (defScope st) L f cd cc) = (false, eval e (ksEnv qual (defScope st) L f cd cc)) :: starEach [] (ksEnv qual (defScope st) L f cd cc))
    (ht : ∀ L cd cc, eval (.Call (.Attribute (.Call (.Name "super" p0) [] [] p1) "__init__" ap) [e] [] pos) (ksEnv qual (defScope st) L f cd cc) = (do
      let ov ← attributeBase (.Call (.Name "super" p0) [] [] p1) "__init__" (ksEnv qual (defScope st) L f cd cc) (eval (.Call (.Name "super" p0) [] [] p1) (ksEnv qual (defScope st) L f cd cc))
      standAt ap.atName
      let (fm, first) ← holding [ov] (getMethod ov "__init__" pl)
      callWith pos fm first (backTo pos (starEach [e] (ksEnv qual (defScope st) L f cd cc))) (backToKw pos (keywordEach [] (ksEnv qual (defScope st) L f cd cc)))))
    (hbody : ∀ (cda cc : Addr) (A : Around) (outer : List Env) (s : Shared) (H : Hp) (vs : List V) (Q : VK) (E : XK), sp vs H Q E →
      ∃ a, vs[0]? = some (.ref a) ∧ H a = some (exo a C none) ∧ ∃ t, PSs (cxS cm CX P w K mg base N qual (defScope st) f (.ref cda) cc A outer s H E) rest t ∧ t { nx := fun _ H' => Q .non H', rt := Q } (start N vs) H) :
    ∀ (A : Around) (outer : List Env) (s : Shared) (H : Hp) (args : Args) (us : List Value) (vs : List V) (Q : VK) (E : XK), A.depth < recursionLimit → (cm = true → A.handled = none) → Env0 P w K mg base A outer s H → BindsTo s fd args (ps.zip us) → Vals vs us → sp vs H Q E → codeAny (model P w) A (.call (.ref f) args) (CR CX outer P w H s Q E) s := by
  obtain ⟨oc, od, kV, doc, pm, an, cda, cc, ct, osl, rfl, lk, hcd, SF⟩ := F.ex
  intro A outer s H args us vs Q E hdp hcm e0 hbd r hsp
  have hl := len _ _ _ _ hsp
  have KX : K.In s.heap := e0.mod.kin.keeps fun b o e => (e0.bs b o e).1
  have lim : s.heap.NoLimit := e0.mod.nolimit.keeps fun b o e => (e0.bs b o e).1
  obtain ⟨_, _, _, lkl⟩ := SF.cell
  obtain ⟨a, ha, ea, t, ht2, hq⟩ := hbody cda cc A outer s H vs Q E hsp
  refine ks_codeAny_call_defAt hdp (KX _ _ lk) rfl lim (PySem.W.codeRec_of KX hcd) rfl hbd S.nocell (fun y hy => S.par y.1 (List.of_mem_zip (show (y.1, y.2) ∈ _ from hy)).1) (fun h₀ hns hk => ?_) S.co S.gen S.kind
  have I : Inv (cxS cm CX P w K mg base N qual (defScope st) f (.ref cda) cc A outer s H E) [] (start N vs) H { s with heap := h₀, toks := s.toks + (ps.zip us).length } := inv_sup S hcm e0 hl r lkl hns hk
  have fin : ∀ {σ' : L2.St} {H' : Hp} {v : V} {u : Value} {s' : Shared}, Inv (cxS cm CX P w K mg base N qual (defScope st) f (.ref cda) cc A outer s H E) [] σ' H' s' → RelV v u → Q v H' → CE outer P w H s Q u s' :=
    fun {σ' H' v u s'} J rv q => ⟨v, H', J.os, J.bare, J.base, J.hok, rv, q⟩
  have hσ : (start N vs)[0]? = some (some (.ref a)) := by
    have h0 : 0 < vs.length := by
      rcases Nat.eq_zero_or_pos vs.length with z | z
      · rw [List.eq_nil_of_length_eq_zero z] at ha; cases ha
      · exact z
    unfold L2.start
    rw [List.getElem?_append_left (by simpa using h0), List.getElem?_map, ha]; rfl
  rw [hb]
  refine ks_wpAt_execs_cons (sup_stmt S SF T I hN hself hσ ea (hE _) (fun s' I' => ?_) (hi _ _ _) (hs _ _ _) (hst _ _ _) (ht _ _ _))
  refine wpAt_of_wpAny (wpAny_mono (ht2.run [] s' (start N vs) H _ I' hq) (fun fl s2 hs2 => ?_) fun e s' hs => hs)
  cases fl with
  | ret u =>
    obtain ⟨v, σ', H', J, rv, q⟩ := hs2
    exact fin J rv q
  | next =>
    obtain ⟨σ', H', J, q⟩ := hs2
    exact fin (v := V.non) (u := Value.none) J rfl q
  | brk =>
    obtain ⟨_, _, _, q⟩ := hs2
    exact False.elim q
  | cont =>
    obtain ⟨_, _, _, q⟩ := hs2
    exact False.elim q
theorem FunS.ok {P : Program} {w : World} {K : PySem.W.Frag} {mg : Str → Option Value} {base : Heap} {CX : CXT} {x qual : Str} {st : Stmt} {rest : List Stmt} {f C : Addr} {fd : FuncData} {sv : Str} {N ps : List Str} {k : Nat} {sp : Sp} {e : Expr} {z : Str} {p0 p1 ap pos spos : Pos} {pl : Sem Bool}
    (F : FunS P K mg x qual st f fd C sv) (S : SupScope N ps (defScope st)) (T : OexC K C) (hb : defBody st = .Expr (.Call (.Attribute (.Call (.Name "super" p0) [] [] p1) "__init__" ap) [e] [] pos) spos :: rest) (hN : N[0]? = some sv) (hself : (defScope st).names.lookup sv = some .local)
    (len : ∀ vs H Q E, sp vs H Q E → vs.length = ps.length)
    (hE : ∀ (X : Cx), PE X e (tC (.str z)))
    (hi : ∀ L cd cc, interactive (ksEnv qual (defScope st) L f cd cc) = false)
    (hs : ∀ L cd cc, swapsWith (.Call (.Attribute (.Call (.Name "super" p0) [] [] p1) "__init__" ap) [e] [] pos) none spos.line (ksEnv qual (defScope st) L f cd cc) = pure false)
    (hst : ∀ L cd cc, starEach [e] (ksEnv qual (defScope st) L f cd cc) = (false, eval e (ksEnv qual (defScope st) L f cd cc)) :: starEach [] (ksEnv qual (defScope st) L f cd cc))
    (ht : ∀ L cd cc, eval (.Call (.Attribute (.Call (.Name "super" p0) [] [] p1) "__init__" ap) [e] [] pos) (ksEnv qual (defScope st) L f cd cc) = (do
      let ov ← attributeBase (.Call (.Name "super" p0) [] [] p1) "__init__" (ksEnv qual (defScope st) L f cd cc) (eval (.Call (.Name "super" p0) [] [] p1) (ksEnv qual (defScope st) L f cd cc))
      standAt ap.atName
      let (fm, first) ← holding [ov] (getMethod ov "__init__" pl)
      callWith pos fm first (backTo pos (starEach [e] (ksEnv qual (defScope st) L f cd cc))) (backToKw pos (keywordEach [] (ksEnv qual (defScope st) L f cd cc)))))
    (hbody : ∀ (cda cc : Addr) (A : Around) (outer : List Env) (s : Shared) (H : Hp) (vs : List V) (Q : VK) (E : XK), sp vs H Q E →
      ∃ a, vs[0]? = some (.ref a) ∧ H a = some (exo a C none) ∧ ∃ t, PSs (cxS true CX P w K mg base N qual (defScope st) f (.ref cda) cc A outer s H E) rest t ∧ t { nx := fun _ H' => Q .non H', rt := Q } (start N vs) H) :
    FnOk P w K mg base CX (k + 1) f fd ps sp :=
  ⟨len, fun A outer s H args us vs Q E hr e0 hbd r hsp => FunS.code true F S T hb hN hself len hE hi hs hst ht hbody A outer s H args us vs Q E hr.depth (fun _ => hr.hd) e0 hbd r hsp⟩
/-- how its arguments bind (no defaults) -/
theorem FunS.binds {P : Program} {K : PySem.W.Frag} {mg : Str → Option Value} {x qual : Str} {st : Stmt} {f C : Addr} {fd : FuncData} {sv : Str} {ps : List Str} (F : FunS P K mg x qual st f fd C sv)
    (h : ∀ (kV doc pm : Value) (an : Option Addr) (cda cc : Addr) (ct : Value) (us : List Value), us.length = ps.length → bindArgs (ksFn x qual (defArgs st) (defBody st) (defScope st) .none kV doc pm an (.ref cda) ct cc) ⟨us, []⟩ = pure (ps.zip us)) : Binds K fd ps [] := by
  obtain ⟨oc, od, kV, doc, pm, an, cda, cc, ct, osl, rfl, lk, hcd, SF⟩ := F.ex
  exact .all (h kV doc pm an cda cc ct)
end
end Vc

/-! Exc: own errors raised with their fields, asked and read in a suite; calls of instances that may raise (my own, over HandS' rules for exceptions). -/
namespace Vc
open PySem PySem.Spec PyProof.Rows L2
/-! ### __init__ of an error with one field, with two -/
def spErr1 (C : Addr) (f : Str) : Sp := fun vs H Q _ => ∃ (a : Addr) (v : V), vs = [.ref a, v] ∧ H a = some (exo a C none) ∧ ∀ d, H d = none → d ≠ a → Q .non (upd (upd H d (exd d [(f, v)])) a (exo a C (some d)))
def spErr2 (C : Addr) (f g : Str) : Sp := fun vs H Q _ => ∃ (a : Addr) (v u : V), vs = [.ref a, v, u] ∧ H a = some (exo a C none) ∧ ∀ d, H d = none → d ≠ a → Q .non (upd (upd (upd H d (exd d [(f, v)])) a (exo a C (some d))) d (exd d [(g, u), (f, v)]))
/-- what X(v) leaves, in one word -/
theorem mk_err {C : Addr} {fs : List (Str × V)} {H1 H2 : Hp} {Q : XK} {a d : Addr} (na : H1 a = none) (nd : H1 d = none) (ne : d ≠ a) (hx : ∀ b, b ≠ a → b ≠ d → H2 b = H1 b)
    (q : ∀ d H', H1 d = none → Ed [] H1 H' → H' d = some (.xd fs) → Q (.ref C) (some d) H') : Q (.ref C) (some d) (upd (del H2 a) d (.xd fs)) := by
  have keep : ∀ b o, H1 b = some o → (upd (del H2 a) d (.xd fs)) b = some o := fun b o e => by
    have ha : b ≠ a := ne_of_none e na
    have hd : b ≠ d := ne_of_none e nd
    rw [upd_ne hd, del_ne ha, hx b ha hd]; exact e
  refine q d _ nd ⟨fun b o _ e => keep b o e, fun b xs e => keep b _ e, fun b o u e => keep b _ e, fun b e => ?_⟩ upd_same
  by_cases hd : b = d
  · rw [hd, upd_same] at e; cases e
  · rw [upd_ne hd] at e
    by_cases ha : b = a
    · rw [ha]; exact na
    · rw [del_ne ha, hx b ha hd] at e; exact e
theorem go_err1 {C : Addr} {f : Str} {v : V} {H1 : Hp} {Q : XK} (q : ∀ d H', H1 d = none → Ed [] H1 H' → H' d = some (.xd [(f, v)]) → Q (.ref C) (some d) H') :
    [v].length ≤ 1000 ∧ ∀ a, H1 a = none → spErr1 C f (.ref a :: ([v] ++ [])) (upd H1 a (exo a C none)) (fun v' H2 => v' = .non ∧ ∃ (d : Addr) (fs : List (Str × V)), H2 a = some (exo a C (some d)) ∧ H2 d = some (exd d fs) ∧ H1 d = none ∧ Q (.ref C) (some d) (upd (del H2 a) d (.xd fs))) (fun _ _ _ => False) := by
  refine ⟨by show 1 ≤ 1000; decide, fun a na => ⟨a, v, rfl, upd_same, fun d nd ne => ⟨rfl, d, [(f, v)], upd_same, ?_, ?_, ?_⟩⟩⟩
  · rw [upd_ne ne]; exact upd_same
  · rw [upd_ne ne] at nd; exact nd
  · refine mk_err na (by rw [upd_ne ne] at nd; exact nd) ne (fun b h1 h2 => ?_) q
    rw [upd_ne h1, upd_ne h2, upd_ne h1]
theorem go_err2 {C : Addr} {f g : Str} {v u : V} {H1 : Hp} {Q : XK} (q : ∀ d H', H1 d = none → Ed [] H1 H' → H' d = some (.xd [(g, u), (f, v)]) → Q (.ref C) (some d) H') :
    [v, u].length ≤ 1000 ∧ ∀ a, H1 a = none → spErr2 C f g (.ref a :: ([v, u] ++ [])) (upd H1 a (exo a C none)) (fun v' H2 => v' = .non ∧ ∃ (d : Addr) (fs : List (Str × V)), H2 a = some (exo a C (some d)) ∧ H2 d = some (exd d fs) ∧ H1 d = none ∧ Q (.ref C) (some d) (upd (del H2 a) d (.xd fs))) (fun _ _ _ => False) := by
  refine ⟨by show 2 ≤ 1000; decide, fun a na => ⟨a, v, u, rfl, upd_same, fun d nd ne => ⟨rfl, d, [(g, u), (f, v)], ?_, upd_same, ?_, ?_⟩⟩⟩
  · rw [upd_ne ne.symm]; exact upd_same
  · rw [upd_ne ne] at nd; exact nd
  · refine mk_err na (by rw [upd_ne ne] at nd; exact nd) ne (fun b h1 h2 => ?_) q
    rw [upd_ne h2, upd_ne h1, upd_ne h2, upd_ne h1]
theorem go_mkO {C : Addr} {sp : Sp} {ta : TA} {σ : L2.St} {H : Hp} {Q : XK} (h : ta σ H fun vs H1 => vs.length ≤ 1000 ∧ ∀ a, H1 a = none → sp (.ref a :: (vs ++ [])) (upd H1 a (exo a C none))
  (fun v H2 => v = .non ∧ ∃ (d : Addr) (fs : List (Str × V)), H2 a = some (exo a C (some d)) ∧ H2 d = some (exd d fs) ∧ H1 d = none ∧ Q (.ref C) (some d) (upd (del H2 a) d (.xd fs))) (fun _ _ _ => False)) : tMkO C sp [] ta σ H Q := h
/-- raise X(..) -/
theorem go_raise {t : L2.St → Hp → XK → Prop} {W : WX} {D : Ends} {σ : L2.St} {H : Hp} (h : t σ H fun cls d H' => W cls d σ H') : (fun (_ : Ends) σ H => t σ H fun cls d H' => W cls d σ H') D σ H := h
/-- self.f = e, the first; a further one -/
theorem go_ost {K : PySem.W.Frag} {f : Str} {to te : TE} {D : Ends} {σ : L2.St} {H : Hp} (h : te σ H fun y H1 => to σ H1 fun x H2 => ∃ a C : Addr, x = .ref a ∧ OexC K C ∧ PySem.W.findIn K (.ref C) f = some none ∧
  ((H2 a = some (exo a C none) ∧ ∀ dx, H2 dx = none → dx ≠ a → D.nx σ (upd (upd H2 dx (exd dx [(f, y)])) a (exo a C (some dx)))) ∨
    ∃ (dx : Addr) (fs : List (Str × V)), H2 a = some (exo a C (some dx)) ∧ H2 dx = some (exd dx fs) ∧ fs.length ≤ 900 ∧ D.nx σ (upd H2 dx (exd dx ((f, y) :: fs))))) : tOst K f to te D σ H := h
theorem err_ends1 {K : PySem.W.Frag} {C : Addr} {f : Str} {vs : List V} {H : Hp} {Q : VK} {E : XK} {N : List Str} (T : OexC K C) (no : PySem.W.findIn K (.ref C) f = some none) (h : spErr1 C f vs H Q E) :
    ∃ a, vs[0]? = some (.ref a) ∧ H a = some (exo a C none) ∧ tOst K f (tVar 0) (tVar 1) { nx := fun _ H' => Q .non H', rt := Q } (start N vs) H := by
  obtain ⟨a, v, rfl, ea, q⟩ := h
  exact ⟨a, rfl, ea, v, rfl, .ref a, rfl, a, C, rfl, T, no, .inl ⟨ea, q⟩⟩
theorem err_ends2 {K : PySem.W.Frag} {C : Addr} {f g : Str} {vs : List V} {H : Hp} {Q : VK} {E : XK} {N : List Str} (T : OexC K C) (no : PySem.W.findIn K (.ref C) f = some none) (no2 : PySem.W.findIn K (.ref C) g = some none) (h : spErr2 C f g vs H Q E) :
    ∃ a, vs[0]? = some (.ref a) ∧ H a = some (exo a C none) ∧ tSeq (tOst K f (tVar 0) (tVar 1)) (tOst K g (tVar 0) (tVar 2)) { nx := fun _ H' => Q .non H', rt := Q } (start N vs) H := by
  obtain ⟨a, v, u, rfl, ea, q⟩ := h
  refine ⟨a, rfl, ea, v, rfl, .ref a, rfl, a, C, rfl, T, no, .inl ⟨ea, fun d nd ne => ?_⟩⟩
  exact ⟨u, rfl, .ref a, rfl, a, C, rfl, T, no2, .inr ⟨d, _, upd_same, by rw [upd_ne ne]; exact upd_same, by show 1 ≤ 900; decide, q d nd ne⟩⟩
/-! ### in a suite: isinstance of the error, its fields -/
/-- at d stands the dict of the error -/
def XdAt (H : Hp) (d : Option Addr) : Prop := d = none ∨ ∃ dd fs, d = some dd ∧ H dd = some (.xd fs)
def rIsX (K : PySem.W.Frag) (a : Addr) (cls : Value) (d : Option Addr) : List V → Hp → VK → Prop := fun xs H Q => ∃ (D : Addr) (c : V) (cv : Value) (b : Bool), cls = .ref D ∧ ExcC K D ∧ XdAt H d ∧ xs = [.ref a, c] ∧ (∀ u, RelV c u → u = cv) ∧ PySem.W.kitOne K (.ref D) cv = some b ∧ Q (.bl b) H
theorem call_isX {X : Cx} {a : Addr} {cls : Value} {d : Option Addr} {oe : Obj} {pn : List (Addr × Obj)} (hz : Zc cls d oe) (hf : ∃ vs, oe.data = .fields vs) : CallR (X.suite a ((a, oe) :: pn)) (.builtin "isinstance") (rIsX X.K a cls d) := by
  intro pins s σ H xs us Q I r h
  obtain ⟨D, c, cv, b, rfl, C, hd, rfl, hcv, e, q⟩ := h
  cases r with
  | cons rx rr =>
    cases rr with
    | cons rt rr =>
      cases rr
      cases rx
      have ec := hcv _ rt
      subst ec
      obtain ⟨hget, _⟩ := I.pin (a, oe) (List.mem_append.mpr (.inl List.mem_cons_self))
      obtain ⟨vs, hv⟩ := hf
      obtain ⟨oc, od, oda, osl⟩ := oe
      obtain ⟨h1, h2⟩ := hz
      dsimp only at h1 h2 hv
      subst h1 h2 hv
      have hsome : (PySem.W.clsIn X.K D).isSome = true := by obtain ⟨cd, hc, _⟩ := PySem.W.any_some C.hd; rw [hc]; rfl
      rcases hd with hd | ⟨dd, fs, hd, hxd⟩
      · subst hd
        have J : PySem.W.InstAt s.heap a { cls := .ref D, dict := none, data := .fields vs, slots := osl } D none := ⟨hget, rfl, rfl, trivial⟩
        exact PySem.W.kia_one (PySem.W.handS_kitx_exc C.hg C.hk C.hs C.hd C.ha C.hn C.ht C.hm) I.kIn J e (fun z => nomatch z) fun tk => ⟨.bl b, H, I.kept (t' := tk) fun _ _ z => z, rfl, q⟩
      · subst hd
        have hx : ObjOk X.prog X.w H s.heap dd (.xd fs) := I.hok dd _ hxd
        obtain ⟨mA, hns, hr⟩ := hx
        obtain ⟨odo, ho, hl⟩ := lookIn_ns hns
        have J : PySem.W.InstAt s.heap a { cls := .ref D, dict := some dd, data := .fields vs, slots := osl } D (some odo) := ⟨hget, rfl, rfl, ho⟩
        exact PySem.W.kia_one (PySem.W.kitx_exc hsome C.hg C.hk C.hs C.ha C.hn C.ht C.hm) I.kIn J e (fun z => nomatch z) fun tk => ⟨.bl b, H, I.kept (t' := tk) fun _ _ z => z, rfl, q⟩
section
variable {K : PySem.W.Frag} {a D : Addr} {d : Option Addr} {H : Hp} {Q : VK} {b : Bool}
theorem go_isXC {c : Addr} (C : ExcC K D) (hd : XdAt H d) (hk : PySem.W.kitOne K (.ref D) (.ref c) = some b) (q : Q (.bl b) H) : rIsX K a (.ref D) d [.ref a, .ref c] H Q :=
  ⟨D, .ref c, .ref c, b, rfl, C, hd, rfl, fun _ r => r, hk, q⟩
theorem go_isXT {t : String} (C : ExcC K D) (hd : XdAt H d) (hk : PySem.W.kitOne K (.ref D) (.type t) = some b) (q : Q (.bl b) H) : rIsX K a (.ref D) d [.ref a, .ty t] H Q :=
  ⟨D, .ty t, .type t, b, rfl, C, hd, rfl, fun _ r => r, hk, q⟩
theorem go_xf {C : Addr} {f : Str} {te : TE} {σ : L2.St} {cls : Value} (h : te σ H fun x H1 => x = .ref a ∧ cls = .ref C ∧ ∃ (dd : Addr) (fs : List (Str × V)) (v : V), d = some dd ∧ H1 dd = some (.xd fs) ∧ fs.lookup f = some v ∧ Q v H1) : tXf a cls d C f te σ H Q := h
theorem go_xfV {f : Str} {dd : Addr} {fs : List (Str × V)} {v : V} {R : V → Prop} (e : H dd = some (.xd fs)) (l : fs.lookup f = some v) (h : R v) :
    V.ref a = .ref a ∧ (Value.ref D) = .ref D ∧ ∃ (d' : Addr) (fs : List (Str × V)) (v : V), some dd = some d' ∧ H d' = some (.xd fs) ∧ fs.lookup f = some v ∧ R v := ⟨rfl, rfl, dd, fs, v, rfl, e, l, h⟩
theorem xdAt {dd : Addr} {fs : List (Str × V)} (e : H dd = some (.xd fs)) : XdAt H (some dd) := .inr ⟨dd, fs, rfl, e⟩
end
/-! ### an instance called; what is raised is wished for at the caller's slots -/
section
variable {X : Cx} {CX : CXT} {k : Nat} {C g : Addr} {fd : FuncData} {ps ks : List Str} {sp : Sp} {E : L2.St → XK} {pos : Pos} {fe e : Expr} {es : List Expr} {tf : TE} {t tk : TA} {kws : List Keyword} {gk : List Value → List Value → List Value} {gV : List V → List V → List V}
def InsD (H : Hp) (a C : Addr) : Prop := ∃ dx fs, H a = some (.ins C dx fs)
theorem insD_at {pins : List (Addr × Obj)} {σ : L2.St} {H : Hp} {s : Shared} {a : Addr} (I : Inv X pins σ H s) (h : InsD H a C) : ∃ ox od, PySem.W.InstAt s.heap a ox C od ∧ ox.data = .plain := by
  obtain ⟨dx, fs, h⟩ := h
  obtain ⟨mA, O, _⟩ := ins_get I.hok h
  obtain ⟨od, J, _⟩ := O.look
  exact ⟨_, _, J, rfl⟩
def tCallI (C : Addr) (sp : Sp) (E : L2.St → XK) (tf : TE) (t : TA) : TE := fun σ H Q => tf σ H fun y H1 => ∃ a, y = V.ref a ∧ t σ H1 fun vs H2 => InsD H2 a C ∧ sp (V.ref a :: vs) H2 Q (E σ)
theorem run_callI {pins : List (Addr × Obj)} {σ : L2.St} {H : Hp} {s : Shared} {Q : VK} {a : Addr} {us : List Value} {vs : List V} (c : StX.CallO X.K C g) (F : FnOk X.prog X.w X.K X.mg X.base CX k g fd ps sp) (hr : Room k X.A) (hb : Binds X.K fd ps []) (hx : ∀ σ, PassesAt CX X σ (E σ)) (I : Inv X pins σ H s) (hi : InsD H a C) (r : Vals vs us)
    (h : sp (V.ref a :: vs) H Q (E σ)) : wpAny (model X.prog X.w) X.A (call (.ref a) us) (EP X pins σ Q) X.xe s := by
  obtain ⟨ox, od, J, hd⟩ := insD_at I hi
  have h2 : sp ((V.ref a :: vs) ++ []) H Q (E σ) := by rw [List.append_nil]; exact h
  have hl : (Value.ref a :: us).length = ps.length := by
    have r2 : Vals (V.ref a :: vs) (Value.ref a :: us) := .cons rfl r
    rw [← r2.length]; exact F.len _ _ _ _ h
  have hb' := hb s (.ref a :: us) I.kIn (by rw [List.append_nil]; exact hl)
  rw [List.append_nil] at hb'
  refine wpAny_call (PySem.W.kco_code I.kIn J hd c.at_ c.fn c.fi (codeAny_mono (F.run X.A X.stack s H ⟨.ref a :: us, []⟩ (.ref a :: us) (.ref a :: vs) Q (E σ) hr I.env0 hb' (.cons rfl r) h) fun r s' hq => ?_))
  cases r with
  | error e => exact hx σ pins H s e s' I hq
  | ok fl =>
    cases fl with
    | ret u => exact I.after hq
    | next => exact False.elim hq
    | brk => exact False.elim hq
    | cont => exact False.elim hq
theorem pe_callI (hf : PE X fe tf) (c : StX.CallO X.K C g) (F : FnOk X.prog X.w X.K X.mg X.base CX k g fd ps sp) (hr : Room k X.A) (hb : Binds X.K fd ps []) (hx : ∀ σ, PassesAt CX X σ (E σ)) (ha : PA X (e :: es) t)
    (ht : eval (.Call fe (e :: es) [] pos) X.env = (do callWith pos (← eval fe X.env) [] (backTo pos (starEach (e :: es) X.env)) (backToKw pos (keywordEach [] X.env))) := by rfl)
    (he : starEach (e :: es) X.env = (false, eval e X.env) :: starEach es X.env := by rfl) (hpl : (backTo pos (starEach es X.env)).any (·.1) = false := by rfl) : PE X (.Call fe (e :: es) [] pos) (tCallI C sp E tf t) := by
  refine ⟨fun pins s σ H Q I h => ?_⟩
  refine Call_ (thn (hf.run pins s σ H _ I h) fun u s1 ⟨y, H1, I1, ry, a, ey, q⟩ => ?_) ht
  subst ey
  obtain rfl : u = Value.ref a := ry
  refine StX.callO_with (thn (ha.run pos pins s1 σ H1 _ I1 q) fun us s2 ⟨vs, H2, I2, r, hi, q2⟩ => ?_) he hpl
  obtain ⟨ox, od, J, hd⟩ := insD_at I2 hi
  exact ⟨⟨C, ox, od, J, hd⟩, run_callI c F hr hb hx I2 hi r q2⟩
end
section
variable {σ : L2.St} {H : Hp} {Q : VK} {tf : TE} {ts : TA} {C : Addr} {sp : Sp} {E : L2.St → XK}
theorem go_callI (h : tf σ H fun y H1 => ∃ a, y = V.ref a ∧ ts σ H1 fun vs H2 => InsD H2 a C ∧ sp (V.ref a :: vs) H2 Q (E σ)) : tCallI C sp E tf ts σ H Q := h
theorem go_insD {a dx : Addr} {fs : List (Str × V)} {P : Prop} (e : H a = some (.ins C dx fs)) (h : P) : InsD H a C ∧ P := ⟨⟨dx, fs, e⟩, h⟩
theorem go_refE {a : Addr} {P : Addr → Prop} (h : P a) : ∃ a', V.ref a = .ref a' ∧ P a' := ⟨a, rfl, h⟩
end
/-! ### what is raised is wished for at the caller's slots: methods, instances made, keywords -/
theorem passS0 {X : Cx} {E : L2.St → XK} : ∀ σ, PassesAt CX0 X σ (E σ) := fun _ _ _ _ _ _ _ h => h.elim
theorem passSL {X : Cx} : ∀ σ, PassesAt (L2.CX X.prog X.w) X σ ((fun (_ : L2.St) => E0) σ) := fun σ pins H s e s' I h => passL pins σ H s e s' I h
section
variable {X : Cx} {CX : CXT} {k : Nat} {C f g : Addr} {fd : FuncData} {ps ks : List Str} {sp : Sp} {E : L2.St → XK} {x m : Str} {p pos apos : Pos} {fe e o : Expr} {es : List Expr} {tf ta : TE} {t tk : TA} {kws : List Keyword} {gk : List Value → List Value → List Value} {gV : List V → List V → List V}
def tMethS (C : Addr) (m : Str) (sp : Sp) (E : L2.St → XK) (ta : TE) (t : TA) : TE := fun σ H Q => ta σ H fun x H1 => ∃ a dx fs, x = .ref a ∧ H1 a = some (.ins C dx fs) ∧ fs.lookup m = none ∧ t σ H1 fun vs H2 => sp (x :: vs) H2 Q (E σ)
theorem pe_methS {pl : Sem Bool} (he : PE X o ta) (c : Cls X.K C) (hm : Meth X.K C m f) (F : FnOk X.prog X.w X.K X.mg X.base CX k f fd ps sp) (hr : Room k X.A) (hb : Binds X.K fd ps []) (hx : ∀ σ, PassesAt CX X σ (E σ)) (ha : PA X (e :: es) t)
    (hst : starEach (e :: es) X.env = (false, eval e X.env) :: starEach es X.env := by rfl) (hpl : (backTo pos (starEach es X.env)).any (·.1) = false := by rfl)
    (ht : eval (.Call (.Attribute o m apos) (e :: es) [] pos) X.env = (do
      let ov ← eval o X.env
      standAt apos.atName
      let (f, first) ← holding [ov] (getMethod ov m pl)
      callWith pos f first (backTo pos (starEach (e :: es) X.env)) (backToKw pos (keywordEach [] X.env))) := by rfl) :
    PE X (.Call (.Attribute o m apos) (e :: es) [] pos) (tMethS C m sp E ta t) := by
  refine ⟨fun pins s σ H Q I h => ?_⟩
  refine PySem.W.methodCall_KW (pl := pl) (thn (he.run pins s σ H _ I h) fun u s1 ⟨x, H1, I1, rx, a, dx, fs, ex, ea, l, q⟩ => ?_) ht
  subst ex
  obtain rfl : u = Value.ref a := rx
  refine getmeth_ok I1 ea c hm l ?_
  refine PySem.W.callWith_K (first := [.ref a]) (h₀ := X.base) I.ok.mod.kin hm.kp (thn (ha.run pos pins s1 σ H1 _ I1 q) fun us s2 ⟨vs, H2, I2, r, q2⟩ => ⟨I2.kIn, ?_⟩) hst hpl
  exact run_fnS (us := .ref a :: us) (vs := .ref a :: vs) F hr hb (hx σ) I2 (.cons rfl r) q2
theorem pe_methS0 {pl : Sem Bool} (he : PE X o ta) (c : Cls X.K C) (hm : Meth X.K C m f) (F : FnOk X.prog X.w X.K X.mg X.base CX k f fd ps sp) (hr : Room k X.A) (hb : Binds X.K fd ps []) (hx : ∀ σ, PassesAt CX X σ (E σ))
    (ht : eval (.Call (.Attribute o m apos) [] [] pos) X.env = (do
      let ov ← eval o X.env
      standAt apos.atName
      let (f, first) ← holding [ov] (getMethod ov m pl)
      callWith pos f first (backTo pos (starEach [] X.env)) (backToKw pos (keywordEach [] X.env))) := by rfl) :
    PE X (.Call (.Attribute o m apos) [] [] pos) (tMethS C m sp E ta tNil) := by
  refine ⟨fun pins s σ H Q I h => ?_⟩
  refine PySem.W.methodCall_KW (pl := pl) (thn (he.run pins s σ H _ I h) fun u s1 ⟨x, H1, I1, rx, a, dx, fs, ex, ea, l, q⟩ => ?_) ht
  subst ex
  obtain rfl : u = Value.ref a := rx
  refine getmeth_ok I1 ea c hm l ?_
  exact PySem.W.callWith_K0 (first := [.ref a]) I1.kIn hm.kp (run_fnS (us := [.ref a]) (vs := [.ref a]) F hr hb (hx σ) I1 (.cons rfl .nil) q)
def tMakeS (C : Addr) (sp : Sp) (E : L2.St → XK) (t : TA) : TE := fun σ H Q => t σ H fun vs H1 => ∀ x dx, H1 x = none → H1 dx = none → dx ≠ x → sp (.ref x :: vs) (upd (upd H1 dx (.own x)) x (.ins C dx [])) (fun v H2 => v = .non ∧ Q (.ref x) H2) (E σ)
theorem run_makeS {pins : List (Addr × Obj)} {σ : L2.St} {H : Hp} {s : Shared} {Q : VK} {us : List Value} {vs : List V} (M : Mk X.K C f) (F : FnOk X.prog X.w X.K X.mg X.base CX k f fd ps sp) (hr : Room (k + 1) X.A) (hb : Binds X.K fd ps [])
    (hx : PassesAt CX X σ (E σ)) (I : Inv X pins σ H s) (r : Vals vs us)
    (h : ∀ x dx, H x = none → H dx = none → dx ≠ x → sp (.ref x :: vs) (upd (upd H dx (.own x)) x (.ins C dx [])) (fun v H2 => v = .non ∧ Q (.ref x) H2) (E σ)) :
    wpAny (model X.prog X.w) X.A (call (.ref C) us) (EP X pins σ Q) X.xe s := by
  have hq := h (s.heap.objs.size + 1) s.heap.objs.size (I.hok.fresh (Nat.le_succ _)) (I.hok.fresh (Nat.le_refl _)) (Nat.ne_of_lt (Nat.lt_succ_self _))
  have I2 := Inv.made (C := C) I
  have r2 : Vals (V.ref (s.heap.objs.size + 1) :: vs) (Value.ref (s.heap.objs.size + 1) :: us) := .cons rfl r
  have hl : (Value.ref (s.heap.objs.size + 1) :: us).length = ps.length := by
    have e := r2.length
    rw [F.len _ _ _ _ hq] at e
    exact e.symm
  have hb' := hb _ (Value.ref (s.heap.objs.size + 1) :: us) I2.kIn (by rw [List.append_nil]; exact hl)
  rw [List.append_nil] at hb'
  refine wpAny_call (make_map (f := f) I.kIn M.makes M.init (beq_iff_eq.mp M.fn) (codeAny_mono (F.run _ X.stack _ _ ⟨Value.ref (s.heap.objs.size + 1) :: us, []⟩ (Value.ref (s.heap.objs.size + 1) :: us) _ _ (E σ) (hr.make C us [])
    (I2.env0.make C us []) hb' r2 hq) fun r s' hq' => ?_))
  cases r with
  | error e => exact hx pins _ _ e s' I2 hq'
  | ok fl =>
    cases fl with
    | ret u =>
      obtain ⟨v, H', I3, rv, ev, q3⟩ := I2.after hq'
      subst ev
      exact ⟨rv, ⟨V.ref (s.heap.objs.size + 1), H', I3, rfl, q3⟩⟩
    | next => exact False.elim hq'
    | brk => exact False.elim hq'
    | cont => exact False.elim hq'
theorem pe_makeS (M : Mk X.K C f) (F : FnOk X.prog X.w X.K X.mg X.base CX k f fd ps sp) (hr : Room (k + 1) X.A) (hg : Gl X x) (hm : X.mg x = some (.ref C)) (hb : Binds X.K fd ps []) (hx : ∀ σ, PassesAt CX X σ (E σ))
    (ha : PA X (e :: es) t) (hdb : (x == ("__debug__" : Str)) = false := by decide) (he : starEach (e :: es) X.env = (false, eval e X.env) :: starEach es X.env := by rfl) (hpl : (backTo pos (starEach es X.env)).any (·.1) = false := by rfl) :
    PE X (.Call (.Name x p) (e :: es) [] pos) (tMakeS C sp E t) := by
  refine ⟨fun pins s σ H Q I h => ?_⟩
  refine wpAny_Call_Name_kw (ld_glob I hg hm ?_ hdb)
  refine PySem.W.callWith_K (h₀ := X.base) I.ok.mod.kin M.kp (thn (ha.run pos pins s σ H _ I h) fun us s1 ⟨vs, H1, I1, r, q⟩ => ⟨I1.kIn, ?_⟩) he hpl
  exact run_makeS M F hr hb (hx σ) I1 r q
/-- f(k = v, ..), f an instance -/
def tCallIK (C : Addr) (sp : Sp) (gV : List V → List V → List V) (E : L2.St → XK) (tf : TE) (tk : TA) : TE := fun σ H Q => tf σ H fun y H1 => ∃ a, y = V.ref a ∧ tk σ H1 fun zs H2 => InsD H2 a C ∧ sp (gV [V.ref a] zs) H2 Q (E σ)
theorem callK_of {M : Model} {A : Around} {E : Value → Shared → Prop} {s : Shared} {a : Addr} {pos : Pos} {Q : Value → Shared → Prop} {args : List (Bool × Sem Value)} {kw : List (Option Str × Sem Value)} (hplain : (args.any (·.1) || kw.any (·.1.isNone)) = false)
    (h : wpAny M A (evalArgs (.ref a) true args kw) (fun z s₁ => (∃ C ox od, PySem.W.InstAt s₁.heap a ox C od ∧ ox.data = .plain) ∧ wpAny M A (call (.ref a) ([] ++ z.pos) z.kw) Q E s₁) E s) : wpAny M A (callWith pos (.ref a) [] args kw) Q E s := by
  unfold callWith
  refine wpAny_bind (wpAny_holding (wpAny_mono h (fun z s₁ h₁ => wpAny_bind (wpAny_standAt ?_)) fun _ _ y => y))
  obtain ⟨⟨C, ox, od, J, hd⟩, h₁⟩ := h₁
  have L := PySem.W.kco_keeper (M := M) J hd
  simp only [hplain]
  refine wpAny_bind (L.here ?_)
  have tail : ∀ {t : Sem Value}, wpAny M A t Q E s₁ → wpAny M A (t >>= fun r => holding [r] point >>= fun _ => pure r) Q E s₁ :=
    fun ht => wpAny_bind (wpAny_mono ht (fun r s₂ hr => wpAny_bind (wpAny_holding (wpAny_point (wpAny_pure hr)))) fun _ _ y => y)
  exact tail (wpAny_operateT h₁)
theorem pe_callIK (hf : PE X fe tf) (c : StX.CallO X.K C g) (F : FnOk X.prog X.w X.K X.mg X.base CX k g fd ps sp) (hr : Room k X.A) (hb : KBinds X.K fd ps ks gk gV) (hx : ∀ σ, PassesAt CX X σ (E σ)) (hkw : PK X kws tk)
    (hall : (backToKw pos (keywordEach kws X.env)).all (·.1.isSome) = true := by rfl) (hks : (backToKw pos (keywordEach kws X.env)).filterMap (·.1) = ks := by rfl)
    (hpl : ((backTo pos (starEach [] X.env)).any (·.1) || (backToKw pos (keywordEach kws X.env)).any (·.1.isNone)) = false := by rfl)
    (ht : eval (.Call fe [] kws pos) X.env = (do callWith pos (← eval fe X.env) [] (backTo pos (starEach [] X.env)) (backToKw pos (keywordEach kws X.env))) := by rfl) : PE X (.Call fe [] kws pos) (tCallIK C sp gV E tf tk) := by
  refine ⟨fun pins s σ H Q I h => ?_⟩
  rw [ht]
  refine wpAny_bind (thn (hf.run pins s σ H _ I h) fun u s1 ⟨y, H1, I1, ry, a, ey, q⟩ => ?_)
  subst ey
  obtain rfl : u = Value.ref a := ry
  refine callK_of hpl (PyProof.Rows.evalArgs_kw2_nil hall (thn (hkw.run pos pins s1 σ H1 _ I1 q) fun ws s2 ⟨zs, H2, I2, r, hi, q2⟩ => ?_))
  rw [hks]
  obtain ⟨ox, od, J, hd⟩ := insD_at I2 hi
  have r2 := hb.rel (us := [Value.ref a]) (vs := [V.ref a]) (.cons rfl .nil) r
  have hl : (gk [Value.ref a] ws).length = ps.length := by rw [← r2.length]; exact F.len _ _ _ _ q2
  refine ⟨⟨C, ox, od, J, hd⟩, wpAny_call (PySem.W.kco_code I2.kIn J hd c.at_ c.fn c.fi (codeAny_mono (F.run X.A X.stack s2 H2 ⟨[.ref a], ks.zip ws⟩ (gk [.ref a] ws) (gV [.ref a] zs) Q (E σ) hr I2.env0 (hb.to s2 [.ref a] ws I2.kIn hl) r2 q2) fun r s' hq => ?_))⟩
  cases r with
  | error e => exact hx σ pins H2 s2 e s' I2 hq
  | ok fl =>
    cases fl with
    | ret u => exact I2.after hq
    | next => exact False.elim hq
    | brk => exact False.elim hq
    | cont => exact False.elim hq
end
section
variable {σ : L2.St} {H : Hp} {Q : VK} {tf ta : TE} {ts tk : TA} {C : Addr} {m : Str} {sp : Sp} {E : L2.St → XK} {gV : List V → List V → List V}
theorem go_methS (h : ta σ H fun x H1 => ∃ a dx fs, x = .ref a ∧ H1 a = some (.ins C dx fs) ∧ fs.lookup m = none ∧ ts σ H1 fun vs H2 => sp (x :: vs) H2 Q (E σ)) : tMethS C m sp E ta ts σ H Q := h
theorem go_makeS (h : ts σ H fun vs H1 => ∀ x dx, H1 x = none → H1 dx = none → dx ≠ x → sp (.ref x :: vs) (upd (upd H1 dx (.own x)) x (.ins C dx [])) (fun v H2 => v = .non ∧ Q (.ref x) H2) (E σ)) : tMakeS C sp E ts σ H Q := h
theorem go_callIK (h : tf σ H fun y H1 => ∃ a, y = V.ref a ∧ tk σ H1 fun zs H2 => InsD H2 a C ∧ sp (gV [V.ref a] zs) H2 Q (E σ)) : tCallIK C sp gV E tf tk σ H Q := h
theorem go_callS (h : ts σ H fun vs H1 => sp vs H1 Q (E σ)) : tCallS sp E ts σ H Q := h
end
/-- the error's field, whatever its class -/
def tXfX (K : PySem.W.Frag) (a : Addr) (cls : Value) (d : Option Addr) (f : Str) (te : TE) : TE := fun σ H Q => te σ H fun x H1 => x = .ref a ∧ ∃ C, cls = .ref C ∧ XfC K C ∧ PySem.W.findIn K (.ref C) f = some none ∧ ∃ (dd : Addr) (fs : List (Str × V)) (v : V), d = some dd ∧ H1 dd = some (.xd fs) ∧ fs.lookup f = some v ∧ Q v H1
theorem pe_xfX {X : Cx} {a : Addr} {oe : Obj} {cls : Value} {d : Option Addr} {pn : List (Addr × Obj)} {e : Expr} {te : TE} {pos : Pos} {n : Str} (hz : Zc cls d oe) (hf : ∃ vs, oe.data = .fields vs) (he : PE (X.suite a ((a, oe) :: pn)) e te) (hb : attributeBase e n X.env (eval e X.env) = eval e X.env := by rfl) :
    PE (X.suite a ((a, oe) :: pn)) (.Attribute e n pos) (tXfX X.K a cls d n te) := by
  refine ⟨fun pins s σ H Q I h => ?_⟩
  refine attr_of hb (thn (he.run pins s σ H _ I h) fun u s1 hh => ?_)
  obtain ⟨x, H1, I1, rx, ex, C, ec, T, hno, dd, fs, v, ed, ea, l, q⟩ := hh
  subst ex
  obtain rfl : u = Value.ref a := rx
  subst ec
  subst ed
  obtain ⟨ha, _⟩ := I1.pin (a, oe) (List.mem_append_left _ List.mem_cons_self)
  obtain ⟨vs, hd⟩ := hf
  have hx : ObjOk X.prog X.w H1 s1.heap dd (.xd fs) := I1.hok dd _ ea
  obtain ⟨mA, hns, hr⟩ := hx
  obtain ⟨od, ho, hl⟩ := lookIn_ns hns
  obtain ⟨u, hu, ru⟩ := RelO.some_of (v := v) (o := mA n) (by rw [← l]; exact hr n)
  have J : PySem.W.InstAt s1.heap a oe C (some od) := ⟨ha, hz.1, by unfold PySem.W.notCls; rw [hd] <;> rfl, by rw [hz.2]; exact ho⟩
  exact HandSPX.exc_get I1.kIn J T.ga T.gg T.exC (PySem.W.findObj_own T.hdC hno rfl (by rw [hl, hu])) (handed_of ru) ⟨v, H1, I1.tok _, ru, q⟩
theorem go_xfX {K : PySem.W.Frag} {a : Addr} {cls : Value} {d : Option Addr} {f : Str} {te : TE} {σ : L2.St} {H : Hp} {Q : VK} (h : te σ H fun x H1 => x = .ref a ∧ ∃ C, cls = .ref C ∧ XfC K C ∧ PySem.W.findIn K (.ref C) f = some none ∧ ∃ (dd : Addr) (fs : List (Str × V)) (v : V), d = some dd ∧ H1 dd = some (.xd fs) ∧ fs.lookup f = some v ∧ Q v H1) : tXfX K a cls d f te σ H Q := h
theorem go_xfXV {K : PySem.W.Frag} {a D dd : Addr} {f : Str} {H : Hp} {fs : List (Str × V)} {v : V} {R : V → Prop} (T : XfC K D) (no : PySem.W.findIn K (.ref D) f = some none) (e : H dd = some (.xd fs)) (l : fs.lookup f = some v) (h : R v) :
    V.ref a = .ref a ∧ ∃ C, (Value.ref D) = .ref C ∧ XfC K C ∧ PySem.W.findIn K (.ref C) f = some none ∧ ∃ (d' : Addr) (fs : List (Str × V)) (v : V), some dd = some d' ∧ H d' = some (.xd fs) ∧ fs.lookup f = some v ∧ R v := ⟨rfl, D, rfl, T, no, dd, fs, v, rfl, e, l, h⟩
/-! ### raise and try, by name -/
def tRaise (W : WX) (t : L2.St → Hp → XK → Prop) : TS := fun _ σ H => t σ H fun cls d H' => W cls d σ H'
theorem ps_raiseT {X : Cx} {W : WX} {e : Expr} {t : L2.St → Hp → XK → Prop} {pos : Pos} (hc : X.calm = true) (tk : Takes X W) (he : PMk X e t) : PS X (.Raise (some e) none pos) (tRaise W t) := ps_raise hc tk he
theorem go_raiseT {t : L2.St → Hp → XK → Prop} {W : WX} {D : Ends} {σ : L2.St} {H : Hp} (h : t σ H fun cls d H' => W cls d σ H') : tRaise W t D σ H := h
def tTryAs (K : PySem.W.Frag) (c : Value) (i : Nat) (ts : Addr → Value → Option Addr → TS) (Wout : WX) (tb : WX → TS) : TS := fun D σ H => tb (wAs K c i ts Wout D) D σ H
def tTryOnly (K : PySem.W.Frag) (c : Value) (ts : Addr → Value → Option Addr → TS) (Wout : WX) (tb : WX → TS) : TS := fun D σ H => tb (wOnly K c ts Wout D) D σ H
section
variable {X : Cx} {x n : Str} {c : Value} {i : Nat} {body suite : List Stmt} {b₀ : Stmt} {np pos pos' : Pos} {tb : WX → TS} {ts : Addr → Value → Option Addr → TS} {Wout : WX}
theorem ps_tryAs (hs : X.stack = X.env :: X.outer) (hf : X.env.frame = some X.env.locals) (hN : X.N.Nodup) (hi : X.N[i]? = some n) (hln : X.env.kindOf n = some .local) (hc : Names X x c) (tk : Takes X Wout)
    (hb : ∀ (W : WX) (pn : List (Addr × Obj)) (xe : Value → Shared → Prop), Takes (X.tr pn xe) W → PassesOwn (model X.prog X.w) X.A X.env xe → PSs (X.tr pn xe) body (tb W))
    (hsu : ∀ (a : Addr) (oe : Obj) (cls : Value) (d : Option Addr) (pn : List (Addr × Obj)), Zc cls d oe → (∃ vs, oe.data = .fields vs) → PSs (X.suite a ((a, oe) :: pn)) (b₀ :: suite) (ts a cls d)) :
    PS X (.Try body [.ExceptHandler (some (.Name x np)) (some n) (b₀ :: suite) pos'] [] [] pos) (tTryAs X.K c i ts Wout tb) := ps_try_as hs hf hN hi hln hc tk hb hsu
theorem ps_tryOnly (hs : X.stack = X.env :: X.outer) (hf : X.env.frame = some X.env.locals) (hc : Names X x c) (tk : Takes X Wout)
    (hb : ∀ (W : WX) (pn : List (Addr × Obj)) (xe : Value → Shared → Prop), Takes (X.tr pn xe) W → PassesOwn (model X.prog X.w) X.A X.env xe → PSs (X.tr pn xe) body (tb W))
    (hsu : ∀ (a : Addr) (oe : Obj) (cls : Value) (d : Option Addr) (pn : List (Addr × Obj)), Zc cls d oe → (∃ vs, oe.data = .fields vs) → PSs (X.suite a ((a, oe) :: pn)) (b₀ :: suite) (ts a cls d)) :
    PS X (.Try body [.ExceptHandler (some (.Name x np)) none (b₀ :: suite) pos'] [] [] pos) (tTryOnly X.K c ts Wout tb) := ps_try_only hs hf hc tk hb hsu
end
section
variable {K : PySem.W.Frag} {c : Value} {i : Nat} {tb : WX → TS} {ts : Addr → Value → Option Addr → TS} {Wout : WX} {D : Ends} {σ : L2.St} {H : Hp} {cls : Value} {d : Option Addr}
theorem go_tryAs (h : tb (wAs K c i ts Wout D) D σ H) : tTryAs K c i ts Wout tb D σ H := h
theorem go_tryOnly (h : tb (wOnly K c ts Wout D) D σ H) : tTryOnly K c ts Wout tb D σ H := h
theorem go_wAs (e : PySem.W.exmOne K cls c = some true) (h : ∀ a, H a = none → ts a cls d { nx := fun σ' H' => D.nx (σ'.set i none) H', rt := D.rt, bk := fun σ' H' => D.bk (σ'.set i none) H', ct := fun σ' H' => D.ct (σ'.set i none) H' } (σ.set i (some (.ref a))) H) : wAs K c i ts Wout D cls d σ H :=
  ⟨true, e, fun _ => h, fun q => nomatch q⟩
theorem go_wOnly (e : PySem.W.exmOne K cls c = some true) (h : ∀ a, H a = none → ts a cls d D σ H) : wOnly K c ts Wout D cls d σ H :=
  ⟨true, e, fun _ => h, fun q => nomatch q⟩
end
theorem go_nNone {A B : Prop} (h : A) : if (!(none : Option V).isSome) = true then A else B := iteT h
theorem go_nSome {v : V} {A B : Prop} (h : B) : if (!(some v).isSome) = true then A else B := iteF h
theorem go_None {A B : Prop} (h : B) : if (none : Option V).isSome = true then A else B := iteF h
theorem go_Some {v : V} {A B : Prop} (h : A) : if (some v).isSome = true then A else B := iteT h
/-! ### tuple(x), list(x): readings with a name -/
def rTupOf (K : PySem.W.Frag) : List V → Hp → VK → Prop := fun vs H Q => ∃ p xs, vs = [.ref p] ∧ ((SqL K H p xs ∧ ∀ l, H l = none → Q (.ref l) (upd H l (.tup xs))) ∨ (SqT K H p xs ∧ Q (.ref p) H))
theorem call_tupD {X : Cx} : CallR X (.type "tuple") (rTupOf X.K) := call_tuple_of
def rLstOf (K : PySem.W.Frag) : List V → Hp → VK → Prop := fun vs H Q => ∃ p xs, vs = [.ref p] ∧ (SqL K H p xs ∨ SqT K H p xs) ∧ ∀ l, H l = none → Q (.ref l) (upd H l (.lst xs))
theorem call_lstD {X : Cx} : CallR X (.type "list") (rLstOf X.K) := call_list_of
section
variable {K : PySem.W.Frag} {H : Hp} {Q : VK} {p : Addr} {xs : List V}
theorem go_tupD (e : SqL K H p xs) (h : ∀ l, H l = none → Q (.ref l) (upd H l (.tup xs))) : rTupOf K [.ref p] H Q := ⟨p, xs, rfl, .inl ⟨e, h⟩⟩
theorem go_tupDT (e : SqT K H p xs) (h : Q (.ref p) H) : rTupOf K [.ref p] H Q := ⟨p, xs, rfl, .inr ⟨e, h⟩⟩
theorem go_lstD (e : SqL K H p xs) (h : ∀ l, H l = none → Q (.ref l) (upd H l (.lst xs))) : rLstOf K [.ref p] H Q := ⟨p, xs, rfl, .inl e, h⟩
theorem go_lstDT (e : SqT K H p xs) (h : ∀ l, H l = none → Q (.ref l) (upd H l (.lst xs))) : rLstOf K [.ref p] H Q := ⟨p, xs, rfl, .inr e, h⟩
theorem go_lstDO (e : SqL K H p xs ∨ SqT K H p xs) (h : ∀ l, H l = none → Q (.ref l) (upd H l (.lst xs))) : rLstOf K [.ref p] H Q := ⟨p, xs, rfl, e, h⟩
end
theorem go_cat {H : Hp} {Q : VK} {p q : Addr} {xs ys : List V} (h1 : H p = some (.lst xs)) (h2 : H q = some (.lst ys)) (l : xs.length + ys.length ≤ 1000) (h : ∀ r, H r = none → Q (.ref r) (upd H r (.lst (xs ++ ys)))) : rCat (.ref p) (.ref q) H Q :=
  ⟨p, q, xs, ys, rfl, rfl, h1, h2, Nat.le_of_lt (small1000 l), h⟩
theorem go_prop {C : Addr} {sp : Sp} {E : XK} {ta : TE} {σ : L2.St} {H : Hp} {Q : VK} {dvs : List V} (h : ta σ H fun x H1 => ∃ a dx fs, x = .ref a ∧ H1 a = some (.ins C dx fs) ∧ sp (.ref a :: dvs) H1 Q E) : tProp C sp dvs E ta σ H Q := h
end Vc

/-! Xt: a caught error as a tracked object: held by a name, handed to defs, also where it is still being handled (my own; the way of HandS.Exc's ps_try_as and HandS.HotCalls). -/
namespace Vc
open PySem PySem.Spec PyProof.Rows L2
/-- a caught error: its class, its dict -/
def xco (a : Addr) (cls : Value) (d : Option Addr) : HO := .ext fun h => ∃ (oe : Obj) (vs : Array Value), h.get? a = some oe ∧ Zc cls d oe ∧ oe.data = .fields vs
theorem xco_own {a x : Addr} {cls : Value} {d : Option Addr} : xco a cls d ≠ .own x := fun z => by
  have z' : HO.ext _ = HO.own x := z
  cases z'
theorem xco_ok {P : Program} {w : World} {H : Hp} {h : Heap} {a : Addr} {cls : Value} {d : Option Addr} {oe : Obj} {vs : Array Value} (he : h.get? a = some oe) (hz : Zc cls d oe) (hd : oe.data = .fields vs) : ObjOk P w H h a (xco a cls d) :=
  ⟨⟨oe, vs, he, hz, hd⟩, ⟨_, he⟩, fun h1 h2 z k => by
    obtain ⟨o, v, q1, q2, q3⟩ := z
    exact ⟨o, v, k _ q1, q2, q3⟩⟩
theorem xco_at {P : Program} {w : World} {H : Hp} {h : Heap} {a : Addr} {cls : Value} {d : Option Addr} (hok : HOk P w H h) (he : H a = some (xco a cls d)) : ∃ (oe : Obj) (vs : Array Value), h.get? a = some oe ∧ Zc cls d oe ∧ oe.data = .fields vs := by
  have x : ObjOk P w H h a (.ext fun h => ∃ (oe : Obj) (vs : Array Value), h.get? a = some oe ∧ Zc cls d oe ∧ oe.data = .fields vs) := hok a _ he
  exact x.1
section
variable {X : Cx} {pins : List (Addr × Obj)} {σ : L2.St} {H : Hp} {s sI : Shared} {a : Addr} {o : HO}
/-- what was not there ahead becomes tracked -/
theorem track (J : Inv X pins σ H sI) (I : Inv X pins σ H s) (n : sI.heap.get? a = none) (na : H a = none) (ob : ObjOk X.prog X.w (upd H a o) s.heap a o) : Inv X pins σ (upd H a o) s := by
  have nb : ∀ {b : Addr} {o' : Obj}, sI.heap.get? b = some o' → b ≠ a := fun {b o'} e z => by rw [z, n] at e; cases e
  have nH : ∀ {b : Addr} {o' : HO}, H b = some o' → b ≠ a := fun {b o'} e z => by rw [z, na] at e; cases e
  refine ⟨I.ok, I.os, I.bare, ⟨I.base.keep, I.base.slot, fun b o' e n' hx => ?_, I.base.there, fun b xs e => ?_, fun b o' u e => ?_, fun b ps e => ?_⟩, I.loc, I.cell, ?_, fun y c e => ?_, fun p hp => ?_, fun b o' e => ?_, I.len⟩
  · obtain ⟨o2, e2⟩ := J.base.there b o' e hx
    rw [upd_ne (nb e2)]
    exact I.base.free b o' e n' hx
  · have q := I.base.tups b xs e
    rw [upd_ne (nH q)]; exact q
  · have q := I.base.frzs b o' u e
    rw [upd_ne (nH q)]; exact q
  · obtain ⟨more, q⟩ := I.base.tbls b ps e
    exact ⟨more, by rw [upd_ne (nH q)]; exact q⟩
  · obtain ⟨m, ⟨oL, _, _, hoL, _⟩, _⟩ := id J.loc
    rw [upd_ne (nb hoL)]; exact I.free
  · obtain ⟨v, hv⟩ := J.cell y c e
    obtain ⟨oc, hoc, _⟩ := hv
    rw [upd_ne (nb hoc)]; exact I.freeC y c e
  · obtain ⟨q1, q2, q3⟩ := I.pin p hp
    obtain ⟨z1, _⟩ := J.pin p hp
    exact ⟨q1, by rw [upd_ne (nb z1)]; exact q2, q3⟩
  · by_cases hb : b = a
    · subst hb
      rw [upd_same] at e
      cases e
      exact ob
    · rw [upd_ne hb] at e
      exact (I.hok b o' e).stay (fun _ _ _ q => q) (fun c hc => by rw [upd_ne (nH hc)]; exact hc) (fun c xs hc => by rw [upd_ne (nH hc)]; exact hc)
theorem suiteT (I : Inv X pins σ H s) (a : Addr) : Inv (X.suite a (X.pn ++ pins)) [] σ H s :=
  ⟨I.ok.suite _ _, I.os, I.bare, I.base, I.loc, I.cell, I.free, I.freeC, fun p hp => I.pin p (by rw [List.append_nil] at hp; exact hp), I.hok, I.len⟩
theorem unsuiteT {pn' : List (Addr × Obj)} (I : Inv (X.suite a (X.pn ++ pins)) pn' σ H s) (ok : X.Ok) : Inv X pins σ H s :=
  ⟨ok, I.os, I.bare, I.base, I.loc, I.cell, I.free, I.freeC, fun p hp => I.pin p (List.mem_append_left _ hp), I.hok, I.len⟩
end
/-- what the clause 'except x as n' wishes of an exception of the body: the error is tracked from there on -/
def wX (K : PySem.W.Frag) (c : Value) (i : Nat) (ts : TS) (Wout : WX) (D : Ends) : WX := fun cls d σ H =>
  ∃ b, PySem.W.exmOne K cls c = some b ∧ (b = true → ∀ a, H a = none → ts { nx := fun σ' H' => D.nx (σ'.set i none) H', rt := D.rt, bk := fun σ' H' => D.bk (σ'.set i none) H', ct := fun σ' H' => D.ct (σ'.set i none) H' } (σ.set i (some (.ref a))) (upd H a (xco a cls d))) ∧
    (b = false → Wout cls d σ H)
def tTryX (K : PySem.W.Frag) (c : Value) (i : Nat) (ts : TS) (Wout : WX) (tb : WX → TS) : TS := fun D σ H => tb (wX K c i ts Wout D) D σ H
section
variable {X : Cx} {x n : Str} {c : Value} {i : Nat} {body suite : List Stmt} {b₀ : Stmt} {np pos pos' : Pos} {tb : WX → TS} {ts : TS} {Wout : WX}
theorem ps_tryX (hs : X.stack = X.env :: X.outer) (hf : X.env.frame = some X.env.locals) (hN : X.N.Nodup) (hi : X.N[i]? = some n) (hln : X.env.kindOf n = some .local) (hc : Names X x c) (tk : Takes X Wout)
    (hb : ∀ (W : WX) (pn : List (Addr × Obj)) (xe : Value → Shared → Prop), Takes (X.tr pn xe) W → PassesOwn (model X.prog X.w) X.A X.env xe → PSs (X.tr pn xe) body (tb W))
    (hsu : ∀ (a : Addr) (pn : List (Addr × Obj)), PSs (X.suite a pn) (b₀ :: suite) ts) :
    PS X (.Try body [.ExceptHandler (some (.Name x np)) (some n) (b₀ :: suite) pos'] [] [] pos) (tTryX X.K c i ts Wout tb) := by
  refine ⟨fun pins s σ H D I h => ?_⟩
  have ok := I.ok
  have hfr : X.A.frames = some (X.env :: X.outer) := by rw [ok.frames, hs]
  have hloc : Loc X.env.scope n := .inl hln
  refine wpAny_Try_except ?_
  refine wpAny_mono ((hb (wX X.K c i ts Wout D) (X.pn ++ pins) (fun e s₁ => wpAny (model X.prog X.w) X.A (noteFrame e X.env) (fun _ s₂ => wpAny (model X.prog X.w) X.A (setFlight e none) (fun _ s₃ =>
    wpAny (model X.prog X.w) X.A (handleBy e X.env [.ExceptHandler (some (.Name x np)) (some n) (b₀ :: suite) pos']) (SP X pins D) X.xe s₃) X.xe s₂) X.xe s₁) (fun u s' xx => ?_) PassesOwn.looking).run [] s σ H D (I.toTry _) h) (fun f s1 hsp => ?_) (fun e s1 he => he)
  · -- the catch
    obtain ⟨a, B, sI, pins', σ', H', cls, d, rfl, J', nb, up, sky, na, os, ag, b, hb1, hyes, hno⟩ := xx
    have J : Inv X pins σ' H' sI := J'.ofTry ok
    have sky' : Sky B (X.env :: X.outer) a (Zc cls d) X.env.locals s'.heap := by rw [← hs]; exact sky
    show wpAny (model X.prog X.w) X.A (noteFrame (.ref a) X.env) _ _ _
    refine Sky.land Zc.steady hfr hf sky' fun h3 fl3 up3 => ?_
    have J3 : Inv X pins σ' H' { s' with heap := h3 } := J.landed nb fl3.1 (up.trans up3) os ag
    obtain ⟨oe3, vs3, he3, hz3, hd3⟩ := fl3.there
    have notFr : ∀ {h : Heap} {o : Obj} {vs : Array Value}, h.FunFrames B (X.env :: X.outer) → h.get? a = some o → o.data = .fields vs → a ∉ frs (X.env :: X.outer) := fun {h o vs} ff e dd hm => by
      obtain ⟨_, o', e', hnf⟩ := ff.mem hm
      rw [e] at e'; cases e'
      exact hnf _ dd
    have nfr := notFr fl3.2.2.1 he3 hd3
    have nL : a ≠ X.env.locals := fun z => nfr (List.mem_filterMap.mpr ⟨X.env, List.mem_cons_self, by rw [hf, z]⟩)
    have nF : a ∉ X.fs := fun hm => by
      obtain ⟨e, he, q⟩ := List.mem_filterMap.mp hm
      exact nfr (List.mem_filterMap.mpr ⟨e, List.mem_cons_of_mem _ he, q⟩)
    have nI : sI.heap.get? a = none := by
      cases e : sI.heap.get? a with
      | none => rfl
      | some o =>
        have q := nb a o e (by rw [hs]; exact nfr)
        rw [fl3.2.1] at q; cases q
    have S3 := J3.suite he3 hd3 na nL nF
    refine wpAny_handleBy_cons (codeAny_handlers_test ?_) (by intro q; cases q)
    have LT : PySem.W.Looks (model X.prog X.w) h3 (typeOf (.ref a)) cls := fun A Q E s k q => wpAny_typeOf_ref (k _ _ he3) (by rw [hz3.1]; exact q)
    have LM := PySem.W.exm_one (M := model X.prog X.w) (J3.kIn) LT hb1
    have test : ∀ {Q : Value → Shared → Prop} {E : Value → Shared → Prop}, Q c { s' with heap := h3 } → wpAny (model X.prog X.w) (X.A.mark (some (.ref a))) (eval (.Name x np) X.env) Q E { s' with heap := h3 } := fun {Q E} q => by
      obtain ⟨hg, hdbg, hm | ⟨hm, hv, hnn⟩⟩ := hc
      · exact ld_glob (X := X.suite a ((a, oe3) :: (X.pn ++ pins))) S3 hg hm q hdbg
      · exact ld_blt (X := X.suite a ((a, oe3) :: (X.pn ++ pins))) S3 hg hm hv q hnn hdbg
    refine test (LM.here ?_)
    cases b with
    | true =>
      refine codeAny_handlers_suite_as ?_
      refine HandSPX.lands_againZ fl3 fun h4 fl4 up4 => ?_
      have J4 : Inv X pins σ' H' { s' with heap := h4 } := J.landed nb fl4.1 ((up.trans up3).trans up4) os ag
      obtain ⟨oe4, vs4, he4, hz4, hd4⟩ := fl4.there
      have S4 : Inv (X.suite a (X.pn ++ pins)) [] σ' (upd H' a (xco a cls d)) { s' with heap := h4 } := suiteT (track J J4 nI na (xco_ok he4 hz4 hd4)) a
      refine store_ok (X := X.suite a (X.pn ++ pins)) (v := .ref a) S4 hN hi hloc rfl (fun s5 S5 => ?_) (.inr hln)
      refine wpAny_mono ((hsu a (X.pn ++ pins)).run [] s5 _ _ _ S5 (hyes rfl a na)) (fun f s6 hsp => ?_) (fun _ _ z => False.elim z)
      have end_ : ∀ {σ6 : L2.St} {H6 : Hp} {Q : Shared → Prop}, Inv (X.suite a (X.pn ++ pins)) [] σ6 H6 s6 → (∀ s7, Inv X pins (σ6.set i none) H6 s7 → Q s7) →
          wpAny (model X.prog X.w) X.A (do bindName X.env n .none; unbindBehindTheSuite X.env n pos') (fun _ s7 => Q s7) X.xe s6 := fun {σ6 H6 Q} S6 hq => gone_ok (unsuiteT S6 ok) hN hi hln hq
      cases f with
      | next =>
        obtain ⟨σ6, H6, S6, q6⟩ := hsp
        exact end_ S6 fun s7 J7 => ⟨_, _, J7, q6⟩
      | brk =>
        obtain ⟨σ6, H6, S6, q6⟩ := hsp
        exact end_ S6 fun s7 J7 => ⟨_, _, J7, q6⟩
      | cont =>
        obtain ⟨σ6, H6, S6, q6⟩ := hsp
        exact end_ S6 fun s7 J7 => ⟨_, _, J7, q6⟩
      | ret u =>
        obtain ⟨v6, σ6, H6, S6, r6, q6⟩ := hsp
        exact end_ S6 fun s7 J7 => ⟨_, _, _, J7, r6, q6⟩
    | false =>
      show wpAny _ X.A (handleBy (.ref a) X.env []) _ _ _
      refine wpAny_handleBy_nil ?_
      obtain ⟨k1, k2, k3, oe, vs, T, oT, ts', he, hz, hd, h1, hr⟩ := id fl3
      unfold PySem.passOn
      refine wpAny_bind (wpAny_field he hd h1 ?_)
      rw [if_neg (show ¬ ((Value.ref T == Value.none) = true) from by simp)]
      have fin : wpAny (model X.prog X.w) X.A (setFlight (.ref a) X.env.frame) (fun _ s4 => wpAny (model X.prog X.w) X.A (throw (.ref a) : Sem Flow) (SP X pins D) X.xe s4) X.xe { s' with heap := h3 } := by
        rw [hf]
        refine HandSPX.setFlight_upZ fl3 fun h4 hh4 up4 => wpAny_throw (tk _ _ ?_)
        exact ⟨a, B, sI, pins, σ', H', cls, d, rfl, J, nb, (up.trans up3).trans up4, .inr (.inr (by rw [hs]; exact hh4)), na, os, ag, hno rfl⟩
      first
        | exact wpAny_bind (wpAny_pure (wpAny_bind fin))
        | exact wpAny_bind fin
  · cases f with
    | next =>
      obtain ⟨σ', H', J', q⟩ := hsp
      exact wpAny_execs_nil ⟨σ', H', J'.ofTry ok, q⟩
    | brk =>
      obtain ⟨σ', H', J', q⟩ := hsp
      exact ⟨σ', H', J'.ofTry ok, q⟩
    | cont =>
      obtain ⟨σ', H', J', q⟩ := hsp
      exact ⟨σ', H', J'.ofTry ok, q⟩
    | ret u =>
      obtain ⟨v, σ', H', J', r, q⟩ := hsp
      exact ⟨v, σ', H', J'.ofTry ok, r, q⟩
end
section
variable {K : PySem.W.Frag} {c : Value} {i : Nat} {tb : WX → TS} {ts : TS} {Wout : WX} {D : Ends} {σ : L2.St} {H : Hp} {cls : Value} {d : Option Addr}
theorem go_tryX (h : tb (wX K c i ts Wout D) D σ H) : tTryX K c i ts Wout tb D σ H := h
/-- it is caught -/
theorem go_wX (e : PySem.W.exmOne K cls c = some true) (h : ∀ a H2, H a = none → Ed [] H H2 → H2 a = some (xco a cls d) → ts { nx := fun σ' H' => D.nx (σ'.set i none) H', rt := D.rt, bk := fun σ' H' => D.bk (σ'.set i none) H', ct := fun σ' H' => D.ct (σ'.set i none) H' } (σ.set i (some (.ref a))) H2) : wX K c i ts Wout D cls d σ H :=
  ⟨true, e, fun _ a na => h a _ na (Ed.new na) upd_same, fun q => nomatch q⟩
end
/-! ### isinstance of a tracked error, its fields -/
/-- what the heap tells of the error at a: its class at C, its dict with the fields fs -/
structure ErrAt (H : Hp) (a C : Addr) (fs : List (Str × V)) : Prop where
  ex : ∃ dd, H a = some (xco a (.ref C) (some dd)) ∧ H dd = some (.xd fs)
theorem ErrAt.ed {H H' : Hp} {a C : Addr} {fs : List (Str × V)} {S : List Addr} (e : Ed S H H') (hS : ∀ b ∈ S, ∃ o, H b = some o ∧ (∀ cls d, o ≠ xco a cls d) ∧ ∀ fs, o ≠ .xd fs) (h : ErrAt H a C fs) : ErrAt H' a C fs := by
  obtain ⟨dd, h1, h2⟩ := h
  refine ⟨dd, e.keep _ _ (fun z => ?_) h1, e.keep _ _ (fun z => ?_) h2⟩
  · obtain ⟨o, q, n, _⟩ := hS _ z
    rw [h1] at q; cases q; exact n _ _ rfl
  · obtain ⟨o, q, _, n⟩ := hS _ z
    rw [h2] at q; cases q; exact n _ rfl
theorem ErrAt.ed0 {H H' : Hp} {a C : Addr} {fs : List (Str × V)} (e : Ed [] H H') (h : ErrAt H a C fs) : ErrAt H' a C fs := h.ed e fun _ z => nomatch z
theorem ErrAt.of {H0 H : Hp} {a C dd : Addr} {fs : List (Str × V)} (h1 : H a = some (xco a (.ref C) (some dd))) (e : Ed [] H0 H) (h2 : H0 dd = some (.xd fs)) : ErrAt H a C fs := ⟨dd, h1, e.at0 h2⟩
theorem err_inst {X : Cx} {pins : List (Addr × Obj)} {σ : L2.St} {H : Hp} {s : Shared} {a C : Addr} {fs : List (Str × V)} (I : Inv X pins σ H s) (h : ErrAt H a C fs) : ∃ ox od, PySem.W.InstAt s.heap a ox C (some od) ∧ ∀ f, ∃ mf, PySem.W.lookIn f od = some mf ∧ RelO (fs.lookup f) mf := by
  obtain ⟨dd, h1, h2⟩ := h
  obtain ⟨oe, vs, ho, hz, hd⟩ := xco_at I.hok h1
  have hx : ObjOk X.prog X.w H s.heap dd (.xd fs) := I.hok dd _ h2
  obtain ⟨mA, hns, hr⟩ := hx
  obtain ⟨od, hod, hl⟩ := lookIn_ns hns
  exact ⟨oe, od, ⟨ho, hz.1, by unfold PySem.W.notCls; rw [hd] <;> rfl, by rw [hz.2]; exact hod⟩, fun f => ⟨mA f, hl f, hr f⟩⟩
/-- isinstance(e, C), e a tracked error -/
def rIsT (K : PySem.W.Frag) : List V → Hp → VK → Prop := fun xs H Q => ∃ (a D : Addr) (fs : List (Str × V)) (c : V) (cv : Value) (b : Bool), ErrAt H a D fs ∧ ExcC K D ∧ xs = [.ref a, c] ∧ (∀ u, RelV c u → u = cv) ∧ PySem.W.kitOne K (.ref D) cv = some b ∧ Q (.bl b) H
theorem err_clsIn {K : PySem.W.Frag} {D : Addr} (C : ExcC K D) : (PySem.W.clsIn K D).isSome = true := by obtain ⟨cd, hc, _⟩ := PySem.W.any_some C.hd; rw [hc]; rfl
theorem call_isT {X : Cx} : CallR X (.builtin "isinstance") (rIsT X.K) := by
  intro pins s σ H xs us Q I r h
  obtain ⟨a, D, fs, c, cv, b, hE, C, rfl, hcv, e, q⟩ := h
  cases r with
  | cons rx rr =>
    cases rr with
    | cons rt rr =>
      cases rr
      cases rx
      have ec := hcv _ rt
      subst ec
      obtain ⟨ox, od, J, _⟩ := err_inst I hE
      exact PySem.W.kia_one (PySem.W.kitx_exc (err_clsIn C) C.hg C.hk C.hs C.ha C.hn C.ht C.hm) I.kIn J e (fun z => nomatch z) fun tk => ⟨.bl b, H, I.tok tk, rfl, q⟩
/-- isinstance(e, (C1, C2, ..)) -/
def rIsTT (K : PySem.W.Frag) : List V → Hp → VK → Prop := fun xs H Q => ∃ (a D tp : Addr) (fs : List (Str × V)) (cs : List V) (ws : List Value) (b : Bool), ErrAt H a D fs ∧ ExcC K D ∧ xs = [.ref a, .ref tp] ∧ H tp = some (.tup cs) ∧ (∀ us, Vals cs us → us = ws) ∧ PySem.W.kitAny K (.ref D) ws = some b ∧ Q (.bl b) H
theorem call_isTT {X : Cx} : CallR X (.builtin "isinstance") (rIsTT X.K) := by
  intro pins s σ H xs us Q I r h
  obtain ⟨a, D, tp, fs, cs, ws, b, hE, C, rfl, hT, hcv, e, q⟩ := h
  cases r with
  | cons rx rr =>
    cases rr with
    | cons rt rr =>
      cases rr
      cases rx
      cases rt
      obtain ⟨ox, od, J, _⟩ := err_inst I hE
      obtain ⟨_, its, rv, o, h1, h2, n, h3⟩ := (show ObjOk X.prog X.w H s.heap tp (.tup cs) from I.hok tp _ hT)
      have e3 := hcv _ rv
      subst e3
      obtain ⟨oc, od', dt, sl⟩ := o
      simp only at h2 h3
      subst h2 h3
      exact PySem.W.kia_tup (PySem.W.kitx_exc (err_clsIn C) C.hg C.hk C.hs C.ha C.hn C.ht C.hm) I.kIn J h1 e (fun z => nomatch z) fun tk => ⟨.bl b, H, I.tok tk, rfl, q⟩
/-- e.f -/
def tXfT (K : PySem.W.Frag) (f : Str) (te : TE) : TE := fun σ H Q => te σ H fun x H1 => ∃ (a C : Addr) (fs : List (Str × V)) (v : V), x = .ref a ∧ ErrAt H1 a C fs ∧ XfC K C ∧ PySem.W.findIn K (.ref C) f = some none ∧ fs.lookup f = some v ∧ Q v H1
theorem pe_xfT {X : Cx} {e : Expr} {te : TE} {pos : Pos} {n : Str} (he : PE X e te) (hb : attributeBase e n X.env (eval e X.env) = eval e X.env := by rfl) : PE X (.Attribute e n pos) (tXfT X.K n te) := by
  refine ⟨fun pins s σ H Q I h => ?_⟩
  refine attr_of hb (thn (he.run pins s σ H _ I h) fun u s1 hh => ?_)
  obtain ⟨x, H1, I1, rx, a, C, fs, v, ex, hE, T, hno, l, q⟩ := hh
  subst ex
  obtain rfl : u = Value.ref a := rx
  obtain ⟨ox, od, J, hl⟩ := err_inst I1 hE
  obtain ⟨mf, hm, hr⟩ := hl n
  obtain ⟨u, hu, ru⟩ := RelO.some_of (v := v) (o := mf) (by rw [← l]; exact hr)
  exact HandSPX.exc_get I1.kIn J T.ga T.gg T.exC (PySem.W.findObj_own T.hdC hno rfl (by rw [hm, hu])) (handed_of ru) ⟨v, H1, I1.tok _, ru, q⟩
section
variable {K : PySem.W.Frag} {a D : Addr} {fs : List (Str × V)} {H : Hp} {Q : VK} {b : Bool}
theorem go_isTC {c : Addr} (hE : ErrAt H a D fs) (C : ExcC K D) (hk : PySem.W.kitOne K (.ref D) (.ref c) = some b) (q : Q (.bl b) H) : rIsT K [.ref a, .ref c] H Q :=
  ⟨a, D, fs, .ref c, .ref c, b, hE, C, rfl, fun _ r => r, hk, q⟩
theorem go_isTT {t : String} (hE : ErrAt H a D fs) (C : ExcC K D) (hk : PySem.W.kitOne K (.ref D) (.type t) = some b) (q : Q (.bl b) H) : rIsT K [.ref a, .ty t] H Q :=
  ⟨a, D, fs, .ty t, .type t, b, hE, C, rfl, fun _ r => r, hk, q⟩
theorem go_xfT {f : Str} {te : TE} {σ : L2.St} (h : te σ H fun x H1 => ∃ (a C : Addr) (fs : List (Str × V)) (v : V), x = .ref a ∧ ErrAt H1 a C fs ∧ XfC K C ∧ PySem.W.findIn K (.ref C) f = some none ∧ fs.lookup f = some v ∧ Q v H1) : tXfT K f te σ H Q := h
theorem go_xfTV {f : Str} {v : V} {R : V → Prop} (hE : ErrAt H a D fs) (T : XfC K D) (no : PySem.W.findIn K (.ref D) f = some none) (l : fs.lookup f = some v) (h : R v) :
    ∃ (a' C : Addr) (fs : List (Str × V)) (v : V), V.ref a = .ref a' ∧ ErrAt H a' C fs ∧ XfC K C ∧ PySem.W.findIn K (.ref C) f = some none ∧ fs.lookup f = some v ∧ R v := ⟨a, D, fs, v, rfl, hE, T, no, l, h⟩
end
/-! ### defs that are also called while an error is being handled (they raise nothing) -/
structure FnHt (P : Program) (w : World) (K : PySem.W.Frag) (mg : Str → Option Value) (base : Heap) (k : Nat) (f : Addr) (fd : FuncData) (ps : List Str) (sp : Sp) : Prop where
  len : ∀ vs H Q E, sp vs H Q E → vs.length = ps.length
  run : ∀ (A : Around) (outer : List Env) (s : Shared) (H : Hp) (args : Args) (us : List Value) (vs : List V) (Q : VK) (E : XK), L2H.RoomH k A → Env0 P w K mg base A outer s H → BindsTo s fd args (ps.zip us) → Vals vs us → sp vs H Q E →
    codeAny (model P w) A (.call (.ref f) args) (CR CX0 outer P w H s Q E) s
theorem FnHt.ok {P : Program} {w : World} {K : PySem.W.Frag} {mg : Str → Option Value} {base : Heap} {k : Nat} {f : Addr} {fd : FuncData} {ps : List Str} {sp : Sp} (F : FnHt P w K mg base k f fd ps sp) : FnOk P w K mg base CX0 k f fd ps sp :=
  ⟨F.len, fun A outer s H args us vs Q E hr => F.run A outer s H args us vs Q E (L2H.roomH_of hr)⟩
/-- the context of such a def's body -/
def cxT (P : Program) (w : World) (K : PySem.W.Frag) (mg : Str → Option Value) (base : Heap) (N : List Str) (qual : Str) (scope : Scope) (f : Addr) (cd : Value) (A : Around) (outer : List Env) (s : Shared) (H : Hp) (E : XK) : Cx :=
  { cxOf CX0 P w K mg base N qual scope f cd A outer s H E with calm := false }
theorem inv_startT {P : Program} {w : World} {K : PySem.W.Frag} {mg : Str → Option Value} {base : Heap} {N ps : List Str} {qual : Str} {scope : Scope} {f : Addr} {cd : Value} {A : Around} {outer : List Env} {s s1 : Shared} {H : Hp} {E : XK} {us : List Value} {vs : List V}
    (S : FnScope N ps scope) (e0 : Env0 P w K mg base A outer s H) (hl : vs.length = ps.length) (r : Vals vs us)
    (x : InCallC s s.heap.objs.size (bindL (envOfC qual scope s.heap.objs.size f cd).kindOf (ps.zip us) fun _ => none) (cellsFrom (s.heap.objs.size + 1) scope.names []) (bindC (envOfC qual scope s.heap.objs.size f cd).kindOf (ps.zip us) fun _ => none) s1) :
    Inv (cxT P w K mg base N qual scope f cd A outer s H E) [] (L2.start N vs) H s1 := by
  have hpl : ps.length ≤ N.length := by have := congrArg List.length S.pre; rw [List.length_take] at this; omega
  obtain ⟨h1, tk, rfl, hk⟩ := x.done
  have noA : ∀ b : Addr, b ∉ (cxT P w K mg base N qual scope f cd A outer s H E).ex := fun b z => absurd (show b ∈ ([] : List Addr) from z) (by simp)
  refine ⟨⟨e0.mod, S.kind, rfl, rfl, Nat.le_refl _, fun y z c h1 h2 => ?_, fun y hy => ?_, fun y c _ h => ?_, (fun z => Bool.noConfusion (show false = true from z)), Around.frames_deeper e0.frames, .inr ⟨rfl, rfl⟩, fun b z => absurd z (noA b), e0.bs, e0.bsz, fun b _ _ => noA b, fun b z => absurd z (noA b), e0.funs, e0.frf⟩,
    rfl, e0.bare, Un.kept hk, ⟨_, x.toInCall.ns, fun i y v h1 h2 h3 => ?_⟩, fun y c h => ⟨_, x.cell y c h⟩, e0.hok.fresh (Nat.le_refl _), fun y c h => ?_, fun q hq => ?_, e0.hok.kept hk, ?_⟩
  · exact name_of_addr x.apart (PySem.mem_of_lookup h1) (PySem.mem_of_lookup h2)
  · have hy : scope.names.lookup y = some .cell ∨ scope.names.lookup y = some .free := hy
    rcases hy with hy | hy
    · exact cell_has hy
    · exact absurd rfl (S.nofree _ (PySem.mem_of_lookup hy))
  · exact Nat.le_of_lt (x.above y c (PySem.mem_of_lookup h))
  · have hi : i < vs.length := by
      unfold L2.start at h2
      by_cases hi : i < vs.length
      · exact hi
      · rw [List.getElem?_append_right (by simpa using hi)] at h2
        rw [List.getElem?_replicate] at h2
        split at h2 <;> cases h2
    have ha : vs[i]? = some v := by
      unfold L2.start at h2
      rw [List.getElem?_append_left (by simpa using hi), List.getElem?_map] at h2
      cases e : vs[i]? with
      | none => rw [e] at h2; cases h2
      | some a => rw [e] at h2; cases h2; rfl
    obtain ⟨u, hu, rv⟩ := r.get ha
    have hp : ps[i]? = some y := by
      rw [← S.pre, List.getElem?_take_of_lt (by omega)]; exact h1
    have ndP : ps.Nodup := by rw [← S.pre]; exact S.nd.sublist (List.take_sublist _ _)
    refine ⟨u, rv, ?_⟩
    rcases S.par y (List.mem_of_getElem? hp) with k | k
    · exact .inl ⟨k, bindL_get ndP hp hu k⟩
    · obtain ⟨c, e⟩ := cell_has (n := s.heap.objs.size + 1) k
      refine .inr ⟨.inl k, c, e, ?_⟩
      have q := x.cell y c e
      rw [bindC_get ndP hp hu (by show scope.names.lookup y ≠ _; rw [k]; decide)] at q
      exact q
  · exact e0.hok.fresh (Nat.le_of_lt (x.above y c (PySem.mem_of_lookup h)))
  · exact absurd (show q ∈ ([] : List (Addr × Obj)) from hq) (by simp)
  · unfold L2.start
    show _ = N.length
    rw [List.length_append, List.length_map, List.length_replicate]
    omega
theorem Fun.okH {P : Program} {w : World} {K : PySem.W.Frag} {mg : Str → Option Value} {base : Heap} {x qual : Str} {st : Stmt} {f : Addr} {fd : FuncData} {N ps : List Str} {k : Nat} {sp : Sp} (F : Fun K x qual st f fd) (S : FnScope N ps (defScope st)) (len : ∀ vs H Q E, sp vs H Q E → vs.length = ps.length)
    (hbody : ∀ (cdv : Value) (A : Around) (outer : List Env) (s : Shared) (H : Hp) (vs : List V) (Q : VK) (E : XK), L2H.RoomH k (A.deeper (envOfC qual (defScope st) s.heap.objs.size f cdv)) → sp vs H Q E →
      ∃ t, PSs (cxT P w K mg base N qual (defScope st) f cdv A outer s H E).nox (defBody st) t ∧ t { nx := fun _ H' => Q .non H', rt := Q } (L2.start N vs) H) : FnHt P w K mg base (k + 1) f fd ps sp := by
  obtain ⟨oc, od, kV, doc, pm, an, cdv, ct, osl, rfl, lk, hcd⟩ := F.ex
  refine ⟨len, fun A outer s H args us vs Q E hr e0 hb r hsp => ?_⟩
  have hl := len _ _ _ _ hsp
  have KX : K.In s.heap := e0.mod.kin.keeps fun b o e => (e0.bs b o e).1
  have lim : s.heap.NoLimit := e0.mod.nolimit.keeps fun b o e => (e0.bs b o e).1
  have hkind : ∀ y ∈ ps.zip us, (defScope st).names.lookup y.1 = some .local ∨ ((defScope st).names.lookup y.1 = some .cell ∧ ((cellsFrom (s.heap.objs.size + 1) (defScope st).names []).lookup y.1).isSome = true) := fun ⟨n, v⟩ hy => by
    rcases S.par n (List.of_mem_zip hy).1 with q | q
    · exact .inl q
    · exact .inr ⟨q, PySem.W.cellsFrom_some _ _ _ (.inl q)⟩
  refine codeAny_call_function hr.depth (KX _ _ lk) rfl S.co S.gen rfl (PySem.W.codeRec_of KX hcd) (hb _ _ _ _ ?_)
  refine wpAny_newFunctionEnv_cells S.kind hkind fun env he s1 x => ?_
  subst he
  refine ⟨lim.keeps x.toInCall.keep, codeAny_func ?_⟩
  obtain ⟨t, ht0, hq⟩ := hbody cdv A outer s H vs Q E (hr.deeper _) hsp
  have ht := ht0.nox
  have I : Inv (cxT P w K mg base N qual (defScope st) f cdv A outer s H E) [] (L2.start N vs) H s1 := inv_startT S e0 hl r x
  refine wpAny_mono (ht.run [] s1 (L2.start N vs) H _ I hq) (fun fl s' hs => ?_) fun e s' hs => hs
  have fin : ∀ {σ' : L2.St} {H' : Hp} {v : V} {u : Value}, Inv (cxT P w K mg base N qual (defScope st) f cdv A outer s H E) [] σ' H' s' → RelV v u → Q v H' → CE outer P w H s Q u s' :=
    fun {σ' H' v u} J rv q => ⟨v, H', J.os, J.bare, J.base, J.hok, rv, q⟩
  cases fl with
  | ret u =>
    obtain ⟨v, σ', H', J, rv, q⟩ := hs
    exact fin J rv q
  | next =>
    obtain ⟨σ', H', J, q⟩ := hs
    exact fin (v := V.non) (u := Value.none) J rfl q
  | brk =>
    obtain ⟨_, _, _, q⟩ := hs
    exact False.elim q
  | cont =>
    obtain ⟨_, _, _, q⟩ := hs
    exact False.elim q
section
variable {X : Cx} {k : Nat} {f : Addr} {fd : FuncData} {ps : List Str} {sp : Sp} {x : Str} {q pos : Pos} {e : Expr} {es : List Expr} {t : TA}
/-- f(e, ..), also while an error is being handled -/
theorem pe_callT (F : FnHt X.prog X.w X.K X.mg X.base k f fd ps sp) (hr : L2H.RoomH k X.A) (hg : Gl X x) (hm : X.mg x = some (.ref f)) (hk : PySem.W.keepIn X.K (.ref f) = true) (hb : Binds X.K fd ps [])
    (ha : PA X (e :: es) t) (hdb : (x == ("__debug__" : Str)) = false := by decide) (he : starEach (e :: es) X.env = (false, eval e X.env) :: starEach es X.env := by rfl) (hpl : (backTo pos (starEach es X.env)).any (·.1) = false := by rfl) :
    PE X (.Call (.Name x q) (e :: es) [] pos) (tCall sp [] E0 t) := by
  refine ⟨fun pins s σ H Q I h => ?_⟩
  refine wpAny_Call_Name_kw (ld_glob I hg hm ?_ hdb)
  refine PySem.W.callWith_K (h₀ := X.base) I.ok.mod.kin hk (thn (ha.run pos pins s σ H _ I h) fun us s1 ⟨vs, H1, I1, r, q⟩ => ⟨I1.kIn, ?_⟩) he hpl
  have q : sp (vs ++ []) H1 Q E0 := q
  rw [List.append_nil] at q
  have hl : us.length = ps.length := by rw [← r.length]; exact F.len _ _ _ _ q
  have b := hb s1 us I1.kIn (by rw [List.append_nil]; exact hl)
  rw [List.append_nil] at b
  refine wpAny_call (codeAny_mono (F.run X.A X.stack s1 H1 ⟨us, []⟩ us vs Q E0 hr I1.env0 b r q) fun r s' hq => ?_)
  cases r with
  | error e => exact hq.elim
  | ok fl =>
    cases fl with
    | ret u => exact I1.after hq
    | next => exact False.elim hq
    | brk => exact False.elim hq
    | cont => exact False.elim hq
end
theorem roomH_mark {k : Nat} {A : Around} {v : Option Value} (r : L2H.RoomH k A) : L2H.RoomH k (A.mark v) := ⟨r.dp, r.un⟩
/-- the same, the written part named (in an except suite the reading may not name the suite's own place) -/
theorem call_isTK {X : Cx} {K : PySem.W.Frag} (h : X.K = K) : CallR X (.builtin "isinstance") (rIsT K) := h ▸ call_isT
theorem pe_xfTK {X : Cx} {K : PySem.W.Frag} {e : Expr} {te : TE} {pos : Pos} {n : Str} (h : X.K = K) (he : PE X e te) (hb : attributeBase e n X.env (eval e X.env) = eval e X.env := by rfl) : PE X (.Attribute e n pos) (tXfT K n te) := h ▸ pe_xfT he hb
end Vc

/-! Xo: operators of own classes: ==, a property stored (my own; ways of HandS.OwnEq and HandS.Property). -/
namespace Vc
open PySem PySem.Spec PyProof.Rows L2
/-! ### a == b by a's own __eq__ -/
structure EqM (K : PySem.W.Frag) (C g : Addr) : Prop where
  at_ : PySem.W.findIn K (.ref C) "__eq__" = some (some (.ref g))
  fn : PySem.W.isFn K (.ref g) = true
def rEqO (K : PySem.W.Frag) (C : Addr) (sp : Sp) : R2 := fun x y H Q => ∃ (a dx : Addr) (fs : List (Str × V)) (t : Value), x = .ref a ∧ H a = some (.ins C dx fs) ∧ TyX K H y t ∧ PySem.W.notFirst K C t = true ∧ sp [x, y] H (fun v H' => ∃ b, v = .bl b ∧ Q (.bl b) H') E0
theorem op_eqO {X : Cx} {C g : Addr} {fd : FuncData} {ps : List Str} {sp : Sp} {n : Nat} (F : FnOk X.prog X.w X.K X.mg X.base CX0 n g fd ps sp) (hr : Room n X.A) (m : EqM X.K C g) (hb : Binds X.K fd ps []) : OpR X (compareOp .Eq) (rEqO X.K C sp) := by
  intro pins s σ H x y v u Q I rx ry hq
  obtain ⟨a, dx, fs, t, rfl, ha, ty, nf, q⟩ := hq
  cases rx
  show wpAny (model X.prog X.w) X.A (richCompare .Eq (.ref a) u) (EP X pins σ Q) X.xe s
  obtain ⟨mA, J, _⟩ := ins_get I.hok ha
  obtain ⟨od, J, _⟩ := J.look
  obtain ⟨_, Z, p, _⟩ := kit_of I ry ty
  obtain ⟨mm, hF⟩ := I.fr
  refine PySem.W.cmp_K (op := .Eq) (tb := t) hr.units0 hF I.ok.mod.kin J (Z.ty _ _ I.kIn p) nf m.at_ m.fn ?_
  have hl := F.len _ _ _ _ q
  have r2 : Vals [V.ref a, y] [Value.ref a, u] := .cons rfl (.cons ry .nil)
  have hb' := hb s [.ref a, u] I.kIn (by simpa using hl)
  rw [List.append_nil] at hb'
  refine wpAny_call (codeAny_mono (F.run X.A X.stack s H ⟨[.ref a, u], []⟩ [.ref a, u] [.ref a, y] _ E0 hr I.env0 hb' r2 q) fun r s' hq => ?_)
  cases r with
  | error e => exact hq.elim
  | ok fl =>
    cases fl with
    | ret w =>
      obtain ⟨z, H', I', rz, b, ez, qz⟩ := I.after hq
      subst ez
      cases rz
      exact ⟨.bl b, H', I', rfl, qz⟩
    | next => exact False.elim hq
    | brk => exact False.elim hq
    | cont => exact False.elim hq
/-! ### o.f = e, f a property with a setter -/
structure PropSet (K : PySem.W.Frag) (C : Addr) (f : Str) (p g : Addr) : Prop where
  tk : PySem.W.takerIn K C f = some (some (.ref p))
  ty : PySem.W.typeIn K (.ref p) = some (.type "property")
  rec_ : ∃ a rest, PySem.W.recIn K p "property" = some (a :: .ref g :: rest)
def tSetP (C : Addr) (sp : Sp) (E : L2.St → XK) (to te : TE) : TS := fun D σ H => te σ H fun y H1 => to σ H1 fun x H2 => ∃ (a dx : Addr) (fs : List (Str × V)), x = .ref a ∧ H2 a = some (.ins C dx fs) ∧ sp [.ref a, y] H2 (fun _ H3 => D.nx σ H3) (E σ)
theorem ps_fldP {X : Cx} {CX : CXT} {C p g : Addr} {f : Str} {fd : FuncData} {ps : List Str} {sp : Sp} {n : Nat} {E : L2.St → XK} {o e : Expr} {to te : TE} {p' pos : Pos} (c : Cls X.K C) (m : PropSet X.K C f p g) (F : FnOk X.prog X.w X.K X.mg X.base CX n g fd ps sp) (hr : Room (n + 2) X.A) (hb : Binds X.K fd ps []) (hx : ∀ σ, PassesAt CX X σ (E σ))
    (ho : PE X o to) (he : PE X e te) (hs : swapsWith e (some (.Attribute o f p')) pos.line X.env = pure false := by rfl) : PS X (.Assign [.Attribute o f p'] e pos) (tSetP C sp E to te) := by
  refine ⟨fun pins s σ H D I h => ?_⟩
  refine plainObj_wpAny_Assign_Attribute (thn (he.run pins s σ H _ I h) fun v s1 ⟨y, H1, I1, r1, q1⟩ => thn (ho.run pins s1 σ H1 _ I1 q1) fun u s2 ⟨x, H2, I2, r2, a, dx, fs, ex, ea, q⟩ => ?_) hs
  subst ex
  obtain rfl : u = Value.ref a := r2
  obtain ⟨mA, J, _⟩ := ins_get I2.hok ea
  obtain ⟨od, J, _⟩ := J.look
  obtain ⟨mm, hF⟩ := I2.fr
  obtain ⟨b, rest, hrec⟩ := m.rec_
  have I3 := I2.tok (s2.toks + 1)
  have hl := F.len _ _ _ _ q
  have hb' := hb { s2 with toks := s2.toks + 1 } [.ref a, v] I3.kIn (by simpa using hl)
  rw [List.append_nil] at hb'
  refine PySem.W.set_prop hF I.ok.mod.kin J c.sa c.po m.tk m.ty hrec ?_
  refine codeAny_mono (F.run X.A.in1.in1 X.stack { s2 with toks := s2.toks + 1 } H2 ⟨[.ref a, v], []⟩ [.ref a, v] [.ref a, y] _ (E σ) hr.in1.in1 I3.env0.in1.in1 hb' (.cons rfl (.cons r1 .nil)) q) fun r s' hq => ?_
  cases r with
  | error er => exact hx σ pins H2 { s2 with toks := s2.toks + 1 } er s' I3 hq
  | ok fl =>
    cases fl with
    | ret w =>
      obtain ⟨z, H', I', rz, qz⟩ := I3.after hq
      exact ⟨σ, H', I', qz⟩
    | next => exact False.elim hq
    | brk => exact False.elim hq
    | cont => exact False.elim hq
section
variable {K : PySem.W.Frag} {H : Hp} {Q : VK} {a C dx : Addr} {fs : List (Str × V)} {y : V} {t : Value} {sp : Sp}
theorem go_eqO (ha : H a = some (.ins C dx fs)) (ty : TyX K H y t) (nf : PySem.W.notFirst K C t = true) (h : sp [.ref a, y] H (fun v H' => ∃ b, v = .bl b ∧ Q (.bl b) H') E0) : rEqO K C sp (.ref a) y H Q := ⟨a, dx, fs, t, rfl, ha, ty, nf, h⟩
theorem go_setP {E : L2.St → XK} {to te : TE} {D : Ends} {σ : L2.St} (h : te σ H fun y H1 => to σ H1 fun x H2 => ∃ (a dx : Addr) (fs : List (Str × V)), x = .ref a ∧ H2 a = some (.ins C dx fs) ∧ sp [.ref a, y] H2 (fun _ H3 => D.nx σ H3) (E σ)) : tSetP C sp E to te D σ H := h
theorem go_setPV {R : Addr → Prop} (ha : H a = some (.ins C dx fs)) (h : R a) : ∃ (a' dx : Addr) (fs : List (Str × V)), V.ref a = .ref a' ∧ H a' = some (.ins C dx fs) ∧ R a' := ⟨a, dx, fs, rfl, ha, h⟩
theorem ty_ins (ha : H a = some (.ins C dx fs)) (c : C8.InsC K C) : TyX K H (.ref a) (.ref C) := .base (.ins ha c.cl c.ha c.hn c.htk c.hm)
theorem go_isiC {x : V} {c : Addr} {b : Bool} (ht : TyX K H x t) (hk : PySem.W.kitOne K t (.ref c) = some b) (h : Q (.bl b) H) : rIsi K [x, .ref c] H Q := ⟨x, .ref c, t, .ref c, b, rfl, .own c, ht, hk, h⟩
end
/-! ### defaults -/
section
variable {K : PySem.W.Frag} {x qual : Str} {params : Arguments} {body : List Stmt} {scope : Scope} {dvs : List V} {kws : List (Str × V)} {f : Addr} {fd : FuncData} {ps ks : List Str}
theorem bindsAll (F : FunD K x qual params body scope dvs kws f fd) (hd : dvs ≠ [])
    (h : ∀ (T : Addr) (kV doc pm : Value) (an : Option Addr) (cdv ct : Value) (us its : List Value), us.length = ps.length → its.length = dvs.length →
      ∃ k, bindArgs (PySem.W.fnOf x qual params body scope (.ref T) kV doc pm an cdv ct) ⟨us, []⟩ = seqItems? (.ref T) >>= k ∧ k (some its.toArray) = pure (ps.zip us)) : Binds K fd ps [] := by
  obtain ⟨ds, r, b⟩ := F.binds1 (ps := ps) ps.length dvs.length hd (by rw [Nat.sub_self, Nat.add_zero]) (fun T kV doc pm an cdv ct us its l1 l2 => by
    obtain ⟨k, e1, e2⟩ := h T kV doc pm an cdv ct us its l1 l2
    exact ⟨k, e1, by rw [List.drop_of_length_le (Nat.le_of_eq l2), List.append_nil]; exact e2⟩)
  rw [List.drop_of_length_le (Nat.le_refl _)] at r
  cases r
  exact b
theorem kbindsD (F : FunD K x qual params body scope dvs kws f fd) (hd : dvs ≠ []) (g : {α : Type} → List α → List α → List α → List α)
    (hrel : ∀ {vs ds zs : List V} {us its ws : List Value}, Vals ds its → Vals vs us → Vals zs ws → Vals (g ds vs zs) (g its us ws))
    (h : ∀ (T : Addr) (kV doc pm : Value) (an : Option Addr) (cdv ct : Value) (us its ws : List Value), its.length = dvs.length → (g its us ws).length = ps.length →
      ∃ k, bindArgs (PySem.W.fnOf x qual params body scope (.ref T) kV doc pm an cdv ct) ⟨us, ks.zip ws⟩ = seqItems? (.ref T) >>= k ∧ k (some its.toArray) = pure (ps.zip (g its us ws))) :
    ∃ its : List Value, KBinds K fd ps ks (g its) (g dvs) := by
  obtain ⟨oc, od, dV, kV, doc, pm, an, cdv, ct, osl, rfl, lk, hcd, hD, hK⟩ := F.ex
  rcases hD with ⟨e, _⟩ | ⟨_, T, o, its, m, rfl, lT, oT, rT⟩
  · exact absurd e hd
  · refine ⟨its, ⟨fun s us ws X hl => ?_, fun r1 r2 => hrel rT r1 r2⟩⟩
    obtain ⟨k, e1, e2⟩ := h T kV doc pm an cdv ct us its ws rT.length.symm hl
    refine BindsTo.of_looks fun M => ?_
    rw [e1]
    exact looks_items X lT oT (.of_pure e2)
end
/-! ### C(k = v, ..) -/
def tMakeK (C : Addr) (sp : Sp) (gV : List V → List V → List V) (E : XK) (tk : TA) : TE := fun σ H Q => tk σ H fun zs H2 => ∀ x dx, H2 x = none → H2 dx = none → dx ≠ x → sp (gV [.ref x] zs) (upd (upd H2 dx (.own x)) x (.ins C dx [])) (fun v H3 => v = .non ∧ Q (.ref x) H3) E
section
variable {X : Cx} {CX : CXT} {k : Nat} {f C : Addr} {fd : FuncData} {ps ks : List Str} {sp : Sp} {E : XK} {x : Str} {p pos : Pos} {kws : List Keyword} {tk : TA} {g : List Value → List Value → List Value} {gV : List V → List V → List V}
theorem pe_makeK0 (M : Mk X.K C f) (F : FnOk X.prog X.w X.K X.mg X.base CX k f fd ps sp) (hr : Room (k + 1) X.A) (hg : Gl X x) (hm : X.mg x = some (.ref C)) (hb : KBinds X.K fd ps ks g gV) (hx : Passes CX X E)
    (hkw : PK X kws tk) (hall : (backToKw pos (keywordEach kws X.env)).all (·.1.isSome) = true := by rfl) (hks : (backToKw pos (keywordEach kws X.env)).filterMap (·.1) = ks := by rfl)
    (hdb : (x == ("__debug__" : Str)) = false := by decide)
    (hpl : ((backTo pos (starEach [] X.env)).any (·.1) || (backToKw pos (keywordEach kws X.env)).any (·.1.isNone)) = false := by rfl) :
    PE X (.Call (.Name x p) [] kws pos) (tMakeK C sp gV E tk) := by
  refine ⟨fun pins s σ H Q I h => ?_⟩
  refine wpAny_Call_Name_kw (ld_glob I hg hm ?_ hdb)
  refine PySem.W.callWith_KW0 (h₀ := X.base) I.ok.mod.kin M.kp hall (thn (hkw.run pos pins s σ H _ I h) fun ws s2 ⟨zs, H2, I2, rz, q2⟩ => ⟨I2.kIn, ?_⟩) hpl
  rw [hks]
  show wpAny _ _ (call (.ref C) [] (ks.zip ws)) _ _ _
  have hq := q2 (s2.heap.objs.size + 1) s2.heap.objs.size (I2.hok.fresh (Nat.le_succ _)) (I2.hok.fresh (Nat.le_refl _)) (Nat.ne_of_lt (Nat.lt_succ_self _))
  have I3 := Inv.made (C := C) I2
  have r1 : Vals [V.ref (s2.heap.objs.size + 1)] [Value.ref (s2.heap.objs.size + 1)] := .cons rfl .nil
  have r2 := hb.rel r1 rz
  have hl : (g [Value.ref (s2.heap.objs.size + 1)] ws).length = ps.length := by rw [← r2.length]; exact F.len _ _ _ _ hq
  refine wpAny_call (make_map (f := f) I2.kIn M.makes M.init (beq_iff_eq.mp M.fn) (codeAny_mono (F.run _ X.stack _ _ ⟨[Value.ref (s2.heap.objs.size + 1)], ks.zip ws⟩ (g [Value.ref (s2.heap.objs.size + 1)] ws) _ _ E (hr.make C [] (ks.zip ws))
    (I3.env0.make C [] (ks.zip ws)) (hb.to _ [Value.ref (s2.heap.objs.size + 1)] ws I3.kIn hl) r2 hq) fun r s' hq' => ?_))
  cases r with
  | error e => exact hx pins σ _ _ e s' I3 hq'
  | ok fl =>
    cases fl with
    | ret u =>
      obtain ⟨v, H', I4, rv, ev, q3⟩ := I3.after hq'
      subst ev
      exact ⟨rv, ⟨V.ref (s2.heap.objs.size + 1), H', I4, rfl, q3⟩⟩
    | next => exact False.elim hq'
    | brk => exact False.elim hq'
    | cont => exact False.elim hq'
end
theorem go_makeK {C : Addr} {sp : Sp} {gV : List V → List V → List V} {E : XK} {tk : TA} {σ : L2.St} {H : Hp} {Q : VK} (h : tk σ H fun zs H2 => ∀ x dx, H2 x = none → H2 dx = none → dx ≠ x → sp (gV [.ref x] zs) (upd (upd H2 dx (.own x)) x (.ins C dx [])) (fun v H3 => v = .non ∧ Q (.ref x) H3) E) : tMakeK C sp gV E tk σ H Q := h
theorem go_make0 {C : Addr} {sp : Sp} {dvs : List V} {E : XK} {σ : L2.St} {H : Hp} {Q : VK} (h : ∀ x dx, H x = none → H dx = none → dx ≠ x → sp (.ref x :: dvs) (upd (upd H dx (.own x)) x (.ins C dx [])) (fun v H2 => v = .non ∧ Q (.ref x) H2) E) : tMake C sp dvs E tNil σ H Q := h
end Vc

/-! Xq: own classes asked by built-in ways: len(x), y in x (my own; over the library's len_K, in_K). -/
namespace Vc
open PySem PySem.Spec PyProof.Rows L2
section
variable {X : Cx} {C g : Addr} {fd : FuncData} {ps : List Str} {sp : Sp} {n : Nat}
/-- an own special method that promises no error, run -/
theorem runO {A : Around} {pins : List (Addr × Obj)} {σ : L2.St} {s : Shared} {H : Hp} {us : List Value} {vs : List V} {Q : VK} {EE : Value → Shared → Prop} (F : FnOk X.prog X.w X.K X.mg X.base CX0 n g fd ps sp) (hr : Room n A) (hb : Binds X.K fd ps [])
    (I : Inv X pins σ H s) (env0 : Env0 X.prog X.w X.K X.mg X.base A X.stack s H) (r2 : Vals vs us) (q : sp vs H Q E0) :
    wpAny (model X.prog X.w) A (call (.ref g) us) (fun u s' => ∃ z H', Inv X pins σ H' s' ∧ RelV z u ∧ Q z H') EE s := by
  have hl := F.len _ _ _ _ q
  have hb' := hb s us I.kIn (by rw [List.append_nil, ← r2.length]; exact hl)
  rw [List.append_nil] at hb'
  refine wpAny_call (codeAny_mono (F.run A X.stack s H ⟨us, []⟩ us vs _ E0 hr env0 hb' r2 q) fun r s' hq => ?_)
  cases r with
  | error e => exact hq.elim
  | ok fl =>
    cases fl with
    | ret w =>
      obtain ⟨z, H', I', rz, qz⟩ := I.after hq
      exact ⟨z, H', I', rz, qz⟩
    | next => exact False.elim hq
    | brk => exact False.elim hq
    | cont => exact False.elim hq
/-- a class's own special method -/
structure SpM (K : PySem.W.Frag) (C g : Addr) (x : Str) : Prop where
  at_ : PySem.W.findIn K (.ref C) x = some (some (.ref g))
  fn : PySem.W.isFn K (.ref g) = true
/-- len(x) by x's own __len__ -/
def rLenO (C : Addr) (sp : Sp) : List V → Hp → VK → Prop := fun xs H Q => ∃ (a dx : Addr) (fs : List (Str × V)), xs = [.ref a] ∧ H a = some (.ins C dx fs) ∧ sp [.ref a] H (fun v H' => ∃ k : Int, v = .int k ∧ 0 ≤ k ∧ k < 2 ^ 63 ∧ Q (.int k) H') E0
theorem call_lenO (F : FnOk X.prog X.w X.K X.mg X.base CX0 n g fd ps sp) (hr : Room (n + 1) X.A) (m : SpM X.K C g "__len__") (hb : Binds X.K fd ps []) : CallR X (.builtin "len") (rLenO C sp) := by
  intro pins s σ H xs us Q I r h
  obtain ⟨a, dx, fs, rfl, ha, q⟩ := h
  rw [Vals.ref1 r]
  obtain ⟨mA, J, _⟩ := ins_get I.hok ha
  obtain ⟨od, J, _⟩ := J.look
  obtain ⟨mm, hF⟩ := I.fr
  refine PySem.W.len_K hF I.ok.mod.kin J m.at_ m.fn ?_
  refine wpAny_mono (runO (vs := [.ref a]) F hr.in1 hb I I.env0.in1 (.cons rfl .nil) q) (fun u s' hq => ?_) (fun _ _ e => e)
  obtain ⟨z, H', I', rz, k, rfl, k0, k1, qz⟩ := hq
  obtain ⟨t, rfl⟩ := rz
  exact ⟨⟨k0, k1⟩, .int k, H', I'.tok _, ⟨_, rfl⟩, qz⟩
/-- y in x by x's own __contains__ -/
def rInO (C : Addr) (sp : Sp) (b0 : Bool) : R2 := fun y x H Q => ∃ (a dx : Addr) (fs : List (Str × V)), x = .ref a ∧ H a = some (.ins C dx fs) ∧ sp [.ref a, y] H (fun v H' => ∃ b, v = .bl b ∧ Q (.bl (xor b0 b)) H') E0
theorem op_inO (F : FnOk X.prog X.w X.K X.mg X.base CX0 n g fd ps sp) (hr : Room n X.A) (m : SpM X.K C g "__contains__") (hb : Binds X.K fd ps []) : OpR X (compareOp .In) (rInO C sp false) := by
  intro pins s σ H y x v u Q I ry rx h
  obtain ⟨a, dx, fs, rfl, ha, q⟩ := h
  cases rx
  obtain ⟨mA, J, _⟩ := ins_get I.hok ha
  obtain ⟨od, J, _⟩ := J.look
  obtain ⟨mm, hF⟩ := I.fr
  refine PySem.W.in_K hF I.ok.mod.kin J m.at_ m.fn ?_
  refine wpAny_mono (runO (vs := [.ref a, y]) F hr hb I I.env0 (.cons rfl (.cons ry .nil)) q) (fun w' s' hq => ?_) (fun _ _ e => e)
  obtain ⟨z, H', I', rz, b, rfl, qz⟩ := hq
  cases rz
  rw [Bool.false_xor] at qz
  exact wpAny_truthy_bool ⟨.bl b, H', I', rfl, qz⟩
theorem op_notinO (F : FnOk X.prog X.w X.K X.mg X.base CX0 n g fd ps sp) (hr : Room n X.A) (m : SpM X.K C g "__contains__") (hb : Binds X.K fd ps []) : OpR X (compareOp .NotIn) (rInO C sp true) := by
  intro pins s σ H y x v u Q I ry rx h
  obtain ⟨a, dx, fs, rfl, ha, q⟩ := h
  cases rx
  obtain ⟨mA, J, _⟩ := ins_get I.hok ha
  obtain ⟨od, J, _⟩ := J.look
  obtain ⟨mm, hF⟩ := I.fr
  refine PySem.W.notIn_K hF I.ok.mod.kin J m.at_ m.fn ?_
  refine wpAny_mono (runO (vs := [.ref a, y]) F hr hb I I.env0 (.cons rfl (.cons ry .nil)) q) (fun w' s' hq => ?_) (fun _ _ e => e)
  obtain ⟨z, H', I', rz, b, rfl, qz⟩ := hq
  cases rz
  rw [Bool.true_xor] at qz
  exact wpAny_truthy_bool ⟨.bl (!b), H', I', rfl, qz⟩
/-- an own special method whose error is wished for at the caller's slots, run -/
theorem runOS {CX : CXT} {E : XK} {A : Around} {pins : List (Addr × Obj)} {σ : L2.St} {s : Shared} {H : Hp} {us : List Value} {vs : List V} {Q : VK} (F : FnOk X.prog X.w X.K X.mg X.base CX n g fd ps sp) (hr : Room n A) (hb : Binds X.K fd ps [])
    (hx : PassesAt CX X σ E) (I : Inv X pins σ H s) (env0 : Env0 X.prog X.w X.K X.mg X.base A X.stack s H) (r2 : Vals vs us) (q : sp vs H Q E) :
    wpAny (model X.prog X.w) A (call (.ref g) us) (EP X pins σ Q) X.xe s := by
  have hl := F.len _ _ _ _ q
  have hb' := hb s us I.kIn (by rw [List.append_nil, ← r2.length]; exact hl)
  rw [List.append_nil] at hb'
  refine wpAny_call (codeAny_mono (F.run A X.stack s H ⟨us, []⟩ us vs _ E hr env0 hb' r2 q) fun r s' hq => ?_)
  cases r with
  | error e => exact hx pins _ _ e s' I hq
  | ok fl =>
    cases fl with
    | ret w => exact I.after hq
    | next => exact False.elim hq
    | brk => exact False.elim hq
    | cont => exact False.elim hq
/-- x[y] by x's own __getitem__ -/
def tIxO (C : Addr) (sp : Sp) (E : L2.St → XK) (ta tb : TE) : TE := fun σ H Q => ta σ H fun x H1 => tb σ H1 fun y H2 => ∃ (a dx : Addr) (fs : List (Str × V)), x = .ref a ∧ H2 a = some (.ins C dx fs) ∧ sp [.ref a, y] H2 Q (E σ)
theorem pe_ixO {CX : CXT} {E : L2.St → XK} {a b : Expr} {ta tb : TE} {pos : Pos} (ha : PE X a ta) (hb0 : PE X b tb) (m : SpM X.K C g "__getitem__") (mf : PySem.W.fnIn X.K g = true) (F : FnOk X.prog X.w X.K X.mg X.base CX n g fd ps sp) (hr : Room (n + 1) X.A)
    (hb : Binds X.K fd ps []) (hx : ∀ σ, PassesAt CX X σ (E σ)) (hsl : ∀ o i, subscripted b true o i = runValue (.builtin "lifetime.subscript" ⟨[o, i], []⟩) := by intro _ _; with_unfolding_all rfl) : PE X (.Subscript a b pos) (tIxO C sp E ta tb) := by
  refine ⟨fun pins s σ H Q I h => ?_⟩
  refine Subscript_ (binT (R := fun x y H2 => ∃ (a dx : Addr) (fs : List (Str × V)), x = .ref a ∧ H2 a = some (.ins C dx fs) ∧ sp [.ref a, y] H2 Q (E σ)) ha hb0 I h fun v u s2 x y H2 I2 rx ry q => ?_)
  obtain ⟨p, dx, fs, rfl, hp, q⟩ := q
  cases rx
  obtain ⟨mA, J, _⟩ := ins_get I2.hok hp
  obtain ⟨od, J, _⟩ := J.look
  obtain ⟨mm, hF⟩ := I2.fr
  exact PySem.W.sub_K hF I2.ok.mod.kin J m.at_ mf m.fn (runOS (vs := [.ref p, y]) F hr.in1 hb (hx σ) I2 I2.env0.in1 (.cons rfl (.cons ry .nil)) q) (hsl _ _)
section
variable {ta tb : TE} {σ : L2.St} {H : Hp} {Q : VK} {E : L2.St → XK}
theorem go_ixO (h : ta σ H fun x H1 => tb σ H1 fun y H2 => ∃ (a dx : Addr) (fs : List (Str × V)), x = .ref a ∧ H2 a = some (.ins C dx fs) ∧ sp [.ref a, y] H2 Q (E σ)) : tIxO C sp E ta tb σ H Q := h
theorem go_insF {a dx : Addr} {fs : List (Str × V)} {R : Addr → Prop} (ha : H a = some (.ins C dx fs)) (h : R a) : ∃ (a' dx : Addr) (fs : List (Str × V)), V.ref a = .ref a' ∧ H a' = some (.ins C dx fs) ∧ R a' := ⟨a, dx, fs, rfl, ha, h⟩
theorem go_lenO {a dx : Addr} {fs : List (Str × V)} (ha : H a = some (.ins C dx fs)) (h : sp [.ref a] H (fun v H' => ∃ k : Int, v = .int k ∧ 0 ≤ k ∧ k < 2 ^ 63 ∧ Q (.int k) H') E0) : rLenO C sp [.ref a] H Q := ⟨a, dx, fs, rfl, ha, h⟩
theorem go_inO {a dx : Addr} {fs : List (Str × V)} {y : V} {b0 : Bool} (ha : H a = some (.ins C dx fs)) (h : sp [.ref a, y] H (fun v H' => ∃ b, v = .bl b ∧ Q (.bl (xor b0 b)) H') E0) : rInO C sp b0 y (.ref a) H Q := ⟨a, dx, fs, rfl, ha, h⟩
end
end
end Vc

/-! Xz: str(x) by x's own __str__; staticmethods called on their class (my own). -/
namespace Vc
open PySem PySem.Spec PyProof.Rows L2
section
open PySem.W PySem.Calls Builtin Builtin.Str
variable {prog : Program} {w : World} {A : Around} {E : Value → Shared → Prop} {s : Shared} {K : Frag} {x C L f : Addr} {h₀ : Heap} {m : Str → Option Value} {ox : Obj} {od : Option Obj}
theorem strOf_own {Q : Value → Shared → Prop} (hu : A.units < cLine) (X : K.In s.heap) (I : InstAt s.heap x ox C od) (hs : findIn K (.ref C) "__str__" = some (some (.ref f))) (hf : isFn K (.ref f) = true)
    (h : wpAny (model prog w) A (call (.ref f) [.ref x]) (StrBack Q) E s) : wpAny (model prog w) A (Builtin.Str.strOf (.ref x)) Q E s := by
  unfold Builtin.Str.strOf
  rw [if_neg (show ¬ isExactStr (Value.ref x) = true from by intro z; cases z)]
  refine wpAny_bind (wpAny_cRoomFor hu ?_)
  refine wpAny_bind (m := callSpecial? (.ref x) (Str.ofString "__str__")) (special_fn X I hs (beq_iff_eq.mp hf) (wpAny_mono h (fun r s' hr => ?_) fun _ _ y => y))
  cases r <;> first | exact hr.elim | skip
  repeat (first | wp_step)
  exact hr
theorem str_own {Q : Value → Shared → Prop} (hu : A.units + 2 < cLine) (X : K.In s.heap) (I : InstAt s.heap x ox C od) (hs : findIn K (.ref C) "__str__" = some (some (.ref f))) (hf : isFn K (.ref f) = true)
    (h : wpAny (model prog w) A.in1.in1 (call (.ref f) [.ref x]) (StrBack Q) E s) : wpAny (model prog w) A (call (.type "str") [.ref x]) Q E s :=
  callType_newIn F.called_str (by decide) (F.typeCall_str_1 _) (F.newCall_str_1 _) (fun obj => F.args_object_init_2 obj _) F.entry_str_new
    (S := fun A' R s' => A'.units + 1 < cLine ∧ K.In s'.heap ∧ InstAt s'.heap x ox C od ∧ wpAny (model prog w) A'.in1 (call (.ref f) [.ref x]) (StrBack fun r s1 => R (.ok (.ret r)) s1) (fun e s1 => R (.error e) s1) s')
    (.of_wp fun A' R s' hq => by
      rw [str_new_tree (.ref x)]
      refine wpAny_bind (wpAny_pure ?_)
      refine wpAny_bind (wpAny_of_eq isSubtype_str_str ?_)
      exact wpAny_bind (wpAny_mono (strOf_own (A := A'.in1) (Q := fun r s1 => R (.ok (.ret r)) s1) hq.1 hq.2.1 hq.2.2.1 hs hf hq.2.2.2) (fun r s1 h1 => wpAny_pure ⟨_, rfl, h1⟩) fun _ _ e => e))
    ⟨hu, X, I, wpAny_mono h (fun r s1 h1 => by
      cases r <;> first | exact h1.elim | skip
      exact ⟨typeIs_str _ _ _, h1⟩) fun _ _ e => e⟩
end
section
variable {X : Cx} {C g : Addr} {fd : FuncData} {ps : List Str} {sp : Sp} {n : Nat}
/-- str(x) by x's own __str__ -/
def rStrO (C : Addr) (sp : Sp) : List V → Hp → VK → Prop := fun xs H Q => ∃ (a dx : Addr) (fs : List (Str × V)), xs = [.ref a] ∧ H a = some (.ins C dx fs) ∧ sp [.ref a] H (fun v H' => ∃ z, v = .str z ∧ Q (.str z) H') E0
theorem call_strO (F : FnOk X.prog X.w X.K X.mg X.base CX0 n g fd ps sp) (hr : Room (n + 2) X.A) (m : SpM X.K C g "__str__") (hb : Binds X.K fd ps []) : CallR X (.type "str") (rStrO C sp) := by
  intro pins s σ H xs us Q I r h
  obtain ⟨a, dx, fs, rfl, ha, q⟩ := h
  rw [Vals.ref1 r]
  obtain ⟨mA, J, _⟩ := ins_get I.hok ha
  obtain ⟨od, J, _⟩ := J.look
  refine str_own (by have := hr.un; omega) I.kIn J m.at_ m.fn ?_
  refine wpAny_mono (runO (vs := [.ref a]) F hr.in1.in1 hb I I.env0.in1.in1 (.cons rfl .nil) q) (fun u s' hq => ?_) (fun _ _ e => e)
  obtain ⟨z, H', I', rz, k, rfl, qz⟩ := hq
  obtain ⟨t, rfl⟩ := rz
  exact ⟨.str k, H', I', ⟨_, rfl⟩, qz⟩
/-! ### C.m(..), m a staticmethod -/
structure SMet (K : PySem.W.Frag) (C : Addr) (mc : Value) (m : Str) (p g : Addr) : Prop where
  at_ : PySem.W.findCls K (.ref C) mc m = some (.get (.builtin "staticmethod.__get__") (.ref p) .none (.ref C))
  rc : ∃ rest, PySem.W.recIn K p "staticmethod" = some (.ref g :: rest)
  kp : PySem.W.keepIn K (.ref g) = true
theorem getsm_ok {pins : List (Addr × Obj)} {σ : L2.St} {H : Hp} {s : Shared} {A : Around} {E : Value → Shared → Prop} {mc : Value} {m : Str} {p : Addr} {pl : Sem Bool} {Q : Value × List Value → Shared → Prop} (I : Inv X pins σ H s) (r : ClX.CRead X.K C mc) (k : SMet X.K C mc m p g)
    (h : ∀ s', Inv X pins σ H s' → Q (.ref g, []) s') : wpAny (model X.prog X.w) A (getMethod (.ref C) m pl) Q E s := by
  obtain ⟨rest, hp⟩ := k.rc
  refine PySem.W.method_cls I.kIn r.ga ?_
  refine PySem.W.cls_bind I.kIn r.rd k.at_ ?_
  exact wpAny_call (PySem.W.sm_get (s := { s with toks := s.toks + 1 }) I.kIn hp (PySem.W.handed_on rfl (h _ (I.tok _))))
def tSMeth (C : Addr) (sp : Sp) (E : XK) (ta : TE) (t : TA) : TE := fun σ H Q => ta σ H fun x H1 => x = .ref C ∧ t σ H1 fun vs H2 => sp vs H2 Q E
theorem pe_smeth {CX : CXT} {E : XK} {o e : Expr} {es : List Expr} {m : Str} {pos apos : Pos} {ta : TE} {t : TA} {pl : Sem Bool} {mc : Value} {p : Addr} (he : PE X o ta) (r : ClX.CRead X.K C mc) (c : SMet X.K C mc m p g) (F : FnOk X.prog X.w X.K X.mg X.base CX n g fd ps sp) (hr : Room n X.A) (hb : Binds X.K fd ps []) (hx : Passes CX X E) (ha : PA X (e :: es) t)
    (hst : starEach (e :: es) X.env = (false, eval e X.env) :: starEach es X.env := by rfl) (hpl : (backTo pos (starEach es X.env)).any (·.1) = false := by rfl)
    (ht : eval (.Call (.Attribute o m apos) (e :: es) [] pos) X.env = (do
      let ov ← eval o X.env
      standAt apos.atName
      let (f, first) ← holding [ov] (getMethod ov m pl)
      callWith pos f first (backTo pos (starEach (e :: es) X.env)) (backToKw pos (keywordEach [] X.env))) := by rfl) :
    PE X (.Call (.Attribute o m apos) (e :: es) [] pos) (tSMeth C sp E ta t) := by
  refine ⟨fun pins s σ H Q I h => ?_⟩
  refine PySem.W.methodCall_KW (pl := pl) (thn (he.run pins s σ H _ I h) fun u s1 ⟨x, H1, I1, rx, ex, q⟩ => ?_) ht
  subst ex
  obtain rfl : u = Value.ref C := rx
  refine getsm_ok I1 r c fun s2 I2 => ?_
  refine PySem.W.callWith_K (first := []) (h₀ := X.base) I.ok.mod.kin c.kp (thn (ha.run pos pins s2 σ H1 _ I2 q) fun us s3 ⟨vs, H2, I3, r3, q2⟩ => ⟨I3.kIn, ?_⟩) hst hpl
  exact run_fn F hr hb .nil hx I3 r3 (by rw [List.append_nil]; exact q2)
theorem pe_smeth0 {CX : CXT} {E : XK} {o : Expr} {m : Str} {pos apos : Pos} {ta : TE} {pl : Sem Bool} {mc : Value} {p : Addr} (he : PE X o ta) (r : ClX.CRead X.K C mc) (c : SMet X.K C mc m p g) (F : FnOk X.prog X.w X.K X.mg X.base CX n g fd ps sp) (hr : Room n X.A) (hb : Binds X.K fd ps []) (hx : Passes CX X E)
    (ht : eval (.Call (.Attribute o m apos) [] [] pos) X.env = (do
      let ov ← eval o X.env
      standAt apos.atName
      let (f, first) ← holding [ov] (getMethod ov m pl)
      callWith pos f first (backTo pos (starEach [] X.env)) (backToKw pos (keywordEach [] X.env))) := by rfl) :
    PE X (.Call (.Attribute o m apos) [] [] pos) (tSMeth C sp E ta tNil) := by
  refine ⟨fun pins s σ H Q I h => ?_⟩
  refine PySem.W.methodCall_KW (pl := pl) (thn (he.run pins s σ H _ I h) fun u s1 ⟨x, H1, I1, rx, ex, q⟩ => ?_) ht
  subst ex
  obtain rfl : u = Value.ref C := rx
  refine getsm_ok I1 r c fun s2 I2 => ?_
  exact PySem.W.callWith_K0 I2.kIn c.kp (run_fn (us := []) F hr hb .nil hx I2 .nil (by rw [List.append_nil]; exact q))
section
variable {K : PySem.W.Frag} {σ : L2.St} {H : Hp} {Q : VK} {ta : TE} {t : TA} {E : XK}
theorem go_strO {a dx : Addr} {fs : List (Str × V)} (ha : H a = some (.ins C dx fs)) (h : sp [.ref a] H (fun v H' => ∃ z, v = .str z ∧ Q (.str z) H') E0) : rStrO C sp [.ref a] H Q := ⟨a, dx, fs, rfl, ha, h⟩
theorem go_smeth (h : ta σ H fun x H1 => x = .ref C ∧ t σ H1 fun vs H2 => sp vs H2 Q E) : tSMeth C sp E ta t σ H Q := h
theorem go_refC {P : Prop} (h : P) : V.ref C = V.ref C ∧ P := ⟨rfl, h⟩
end
end
/-! ### dicts whose values are data, compared: equal ones -/
theorem hits_dp {X : Cx} {pins : List (Addr × Obj)} {σ : L2.St} {H : Hp} {s : Shared} (I : Inv X pins σ H s) {A : Around} (hu : A.in1.units + 64 < cLine) {ls : List (Key × V)} {vb : List (Key × Value)} (rb : KV ls vb) {ks : List (Key × V)} {va : List (Key × Value)}
    (ra : KV ks va) : (∀ p ∈ ks, ∃ u d, valV ls p.1 = some u ∧ Dp X.K H p.2 d ∧ Dp X.K H u d ∧ SeqAt.shaped d = true) → PySem.W.KeqHits A.in1 s vb va true := by
  unfold KV at ra
  induction ra with
  | nil => intro _; exact .nil
  | @cons p q ps qs h t k =>
    intro hp
    obtain ⟨h1, h2⟩ := h
    obtain ⟨u, d, e, d1, d2, sd⟩ := hp p List.mem_cons_self
    have rr : RelO (some u) (valueAt vb p.1) := by rw [← e]; exact rb.val p.1
    obtain ⟨y, hy, ry⟩ := rr.some_of
    obtain ⟨key, v⟩ := q
    have h1' : p.1 = key := h1
    rw [h1'] at hy
    obtain ⟨as, r1⟩ := Dp.reads I d _ _ d1 h2
    obtain ⟨bs, r2⟩ := Dp.reads I d _ _ d2 ry
    have eq := PySem.W.keq_at (A := A) r1 r2 sd sd hu
    rw [SeqAt.eqv_refl d (SeqAt.canLay_of_shaped sd)] at eq
    show PySem.W.KeqHits A.in1 s vb ((key, v) :: qs) (true && true)
    exact .hit hy eq (k fun p' hm => hp p' (List.mem_cons_of_mem _ hm))
def rDD (K : PySem.W.Frag) (b : Bool) : R2 := fun x y H Q => ∃ a c ks ls, x = .ref a ∧ y = .ref c ∧ H a = some (.dK ks) ∧ H c = some (.dK ls) ∧ ks.length = ls.length ∧ (∀ p ∈ ks, ∃ u d, valV ls p.1 = some u ∧ Dp K H p.2 d ∧ Dp K H u d ∧ SeqAt.shaped d = true) ∧ Q (.bl b) H
theorem op_eqDD {X : Cx} (hu : X.A.units + 66 < cLine) : OpR X (compareOp .Eq) (rDD X.K true) := by
  intro pins s σ H x y v u Q I rx ry h
  obtain ⟨a, b, ks, ls, rfl, rfl, ea, eb, hlen, hp, q⟩ := h
  obtain rfl : v = Value.ref a := rx
  obtain rfl : u = Value.ref b := ry
  obtain ⟨_, ya, va, ra, da⟩ := (show ObjOk X.prog X.w H s.heap a (.dK ks) from I.hok a _ ea)
  obtain ⟨_, yb, vb, rb, db⟩ := (show ObjOk X.prog X.w H s.heap b (.dK ls) from I.hok b _ eb)
  have hl : va.length = vb.length := by rw [← ra.length, ← rb.length]; exact hlen
  exact PySem.W.keq_eq (knd := mixKind X.prog X.w) (r := true) ya yb da db (by omega) (fun _ => hits_dp I (by show X.A.units + 1 + 64 < cLine; omega) rb ra hp) (fin_bl I q (by simp [hl]))
theorem op_neDD {X : Cx} (hu : X.A.units + 66 < cLine) : OpR X (compareOp .NotEq) (rDD X.K false) := by
  intro pins s σ H x y v u Q I rx ry h
  obtain ⟨a, b, ks, ls, rfl, rfl, ea, eb, hlen, hp, q⟩ := h
  obtain rfl : v = Value.ref a := rx
  obtain rfl : u = Value.ref b := ry
  obtain ⟨_, ya, va, ra, da⟩ := (show ObjOk X.prog X.w H s.heap a (.dK ks) from I.hok a _ ea)
  obtain ⟨_, yb, vb, rb, db⟩ := (show ObjOk X.prog X.w H s.heap b (.dK ls) from I.hok b _ eb)
  have hl : va.length = vb.length := by rw [← ra.length, ← rb.length]; exact hlen
  exact PySem.W.keq_ne (knd := mixKind X.prog X.w) (r := true) ya yb da db (by omega) (fun _ => hits_dp I (by show X.A.units + 1 + 64 < cLine; omega) rb ra hp) (fin_bl I q (by simp [hl]))
theorem room66 {k : Nat} {A : Around} (r : Room k A) : A.units + 66 < cLine := by have := r.un; omega
/-! ### d.pop(k), there -/
def rDPop : V → List V → Hp → VK → Prop := fun x xs H Q => ∃ (a : Addr) (kvs : List (Key × V)) (k : Key) (v : V), x = .ref a ∧ xs = [kV k] ∧ H a = some (.dK kvs) ∧ valV kvs k = some v ∧ Q v (upd H a (.dK (dropK kvs k)))
theorem mt_dpop {X : Cx} : MtR X "dict.pop" rDPop := by
  intro pins s σ H x xs v us Q I rx rxs h
  obtain ⟨a, kvs, k, v', rfl, rfl, e, l, q⟩ := h
  cases rx
  obtain ⟨u, rfl, ru⟩ := rxs.one
  exact d_pop I e ru l (.inl rfl) fun w' s' I' r' => ⟨v', _, I', r', q⟩
section
variable {K : PySem.W.Frag} {H : Hp} {Q : VK} {σ : L2.St} {te : TE} {ts : List TE} {acc : Str}
theorem go_dpopI {a : Addr} {kvs : List (Key × V)} {k : Int} {v : V} (e : H a = some (.dK kvs)) (l : valV kvs (.inl k) = some v) (h : Q v (upd H a (.dK (dropK kvs (.inl k))))) : rDPop (.ref a) [.int k] H Q := ⟨a, kvs, .inl k, v, rfl, rfl, e, l, h⟩
theorem go_tyD {a : Addr} {kvs : List (Key × V)} {P : Prop} (e : H a = some (.dK kvs)) (h : P) : tyV K "dict" (.ref a) H ∧ P := ⟨.inr (.inr (.inl ⟨rfl, .inl ⟨kvs, e⟩⟩)), h⟩
theorem go_dclear {a : Addr} {kvs : List (Key × V)} (e : H a = some (.dK kvs)) (h : Q .non (upd H a (.dK []))) : rDClear (.ref a) [] H Q := ⟨a, kvs, rfl, rfl, e, h⟩
theorem go_lclear {a : Addr} {xs : List V} (e : H a = some (.lst xs)) (h : Q .non (upd H a (.lst []))) : rClear (.ref a) [] H Q := ⟨a, xs, rfl, rfl, e, h⟩
theorem go_revL (h : te σ H fun x H1 => ∃ a xs, x = .ref a ∧ SqL K H1 a xs ∧ ∀ p, H1 p = none → Q (.ref p) (upd H1 p (.lst xs.reverse))) : tRevL K te σ H Q := h
theorem go_revLV {a : Addr} {xs : List V} {R : List V → Prop} (e : SqL K H a xs) (h : R xs) : ∃ a' ys, V.ref a = .ref a' ∧ SqL K H a' ys ∧ R ys := ⟨a, xs, rfl, e, h⟩
theorem go_js0 {R : Str → Hp → Prop} (h : R acc H) : tJs [] acc σ H R := h
theorem go_jsS {y : Str} {R : Str → Hp → Prop} (l : (acc ++ y).length ≤ 1000) (h : tJs ts (acc ++ y) σ H R) : tJs (tC (.str y) :: ts) acc σ H R := ⟨y, rfl, Nat.le_of_lt (small1000 l), h⟩
theorem go_js {R : Str → Hp → Prop} (h : te σ H fun x H1 => ∃ y : Str, x = .str y ∧ (acc ++ y).length ≤ sizeLine ∧ tJs ts (acc ++ y) σ H1 R) : tJs (te :: ts) acc σ H R := h
theorem go_jsV {y : Str} {P : Str → Prop} (l : (acc ++ y).length ≤ 1000) (h : P y) : ∃ z : Str, V.str y = .str z ∧ (acc ++ z).length ≤ sizeLine ∧ P z := ⟨y, rfl, Nat.le_of_lt (small1000 l), h⟩
theorem go_szS {y : Str} {P : Prop} (l : y.length ≤ 1000) (h : P) : y.length ≤ sizeLine ∧ P := ⟨Nat.le_of_lt (small1000 l), h⟩
theorem go_fmt (h : te σ H fun x H1 => (∃ y : Str, x = .str y ∧ y.length ≤ sizeLine ∧ Q (.str y) H1) ∨ ∃ i : Int, x = .int i ∧ i.natAbs.log2 < 1920 ∧ Q (.str (toString i)) H1) : tFmt te σ H Q := h
theorem go_fmtS {y : Str} {P : Str → Prop} {P' : Int → Prop} (l : y.length ≤ 1000) (h : P y) : (∃ z : Str, V.str y = .str z ∧ z.length ≤ sizeLine ∧ P z) ∨ ∃ i : Int, V.str y = .int i ∧ i.natAbs.log2 < 1920 ∧ P' i := .inl ⟨y, rfl, Nat.le_of_lt (small1000 l), h⟩
theorem go_fmtI {i : Int} {P : Str → Prop} {P' : Int → Prop} (l : i.natAbs.log2 < 1920) (h : P' i) : (∃ z : Str, V.int i = .str z ∧ z.length ≤ sizeLine ∧ P z) ∨ ∃ j : Int, V.int i = .int j ∧ j.natAbs.log2 < 1920 ∧ P' j := .inr ⟨i, rfl, l, h⟩
theorem go_strI {i : Int} {P : Int → Prop} (l : i.natAbs.log2 < 1920) (h : P i) : ∃ j, [V.int i] = [.int j] ∧ j.natAbs.log2 < 1920 ∧ P j := ⟨i, rfl, l, h⟩
end
end Vc

/-! Xi: list(x), x of an own class whose __iter__ gives a list's iterator (and that has its own __len__). -/
namespace Vc
open PySem PySem.Spec PyProof.Rows L2
section
variable {prog : Program} {w : World} {A : Around} {E : Value → Shared → Prop} {s : Shared} {it l : Addr} {i : Nat} {items : Array Value}
theorem py_item {x : Value} {Q : Option Value → Shared → Prop} (ho : s.heap.get? it = some (GNX.itObj l i)) (hl : s.heap.IsList l items) (hx : items[i]? = some x)
    (hQ : ∀ h', h'.get? it = some (GNX.itObj l (i + 1)) → Heap.SameBut it s.heap h' → Q (some x) { s with heap := h' }) : wpAny (model prog w) A (pyNext (.ref it)) Q E s := by
  have hit : s.heap.IsListIter it l i := ⟨_, ho, rfl, rfl⟩
  unfold pyNext
  refine wpAny_bind (wpAny_attempt (wpAny_callSpecial?_slot (name := Str.ofString "__next__") hit.typeIs slot_listiter_next
    (wpAny_call_entry slot_listiter_next hit.typeIs entry_listiter_next ?_ (args_listiter_next _))))
  exact GNX.next_item ho hl hx fun h' e' sb => wpAny_pure (hQ h' e' sb)
theorem py_end {Q : Option Value → Shared → Prop} (hh : A.handled = none) (ho : s.heap.get? it = some (GNX.itObj l i)) (hl : s.heap.IsList l items) (hx : items[i]? = none)
    (hQ : ∀ h1 h' e vs, h1.get? it = some (GNX.itEnd i) → Heap.SameBut it s.heap h1 → (∀ b o, h1.get? b = some o → h'.get? b = some o) → h1.get? e = none →
      h'.get? e = some { cls := .type "StopIteration", data := .fields vs } → vs[1]? = some .none → Q none { s with heap := h' }) : wpAny (model prog w) A (pyNext (.ref it)) Q E s := by
  have hit : s.heap.IsListIter it l i := ⟨_, ho, rfl, rfl⟩
  unfold pyNext
  refine wpAny_bind (wpAny_attempt (wpAny_callSpecial?_slot (name := Str.ofString "__next__") hit.typeIs slot_listiter_next
    (wpAny_call_entry slot_listiter_next hit.typeIs entry_listiter_next ?_ (args_listiter_next _))))
  refine GNX.next_end hh ho hl hx fun h1 h' e vs e1 sb k ne he hv => ?_
  refine wpAny_bind (wpAny_isInstance (T := "StopIteration") (b := true) ⟨_, he, rfl⟩ isSubtype_stop ?_)
  exact wpAny_pure (hQ h1 h' e vs e1 sb k ne he hv)
end
section
variable {X : Cx} {pins : List (Addr × Obj)} {σ : L2.St}
theorem li_loop {q it l : Addr} {zs : List V} {H0 : Hp} {A1 : Around} {Rs : Result → Shared → Prop} (hh : A1.in1.handled = none) (hlq : l ≠ q) (hli : l ≠ it) (hiq : it ≠ q) (zl : zs.length ≤ 1000)
    (hdone : ∀ H s, Inv X pins σ H s → H q = some (.lst zs) → Ed [q, it] H0 H → Rs (.ok (.ret .none)) s) :
    ∀ (n i : Nat) (H : Hp) (s : Shared), n + i = zs.length → Inv X pins σ H s → H it = some (ItO l it i) → SqL X.K H l zs → H q = some (.lst (zs.take i)) → Ed [q, it] H0 H →
      codeAny (model X.prog X.w) A1 (.builtin "list.extend.loop" ⟨[.ref q, .ref it, .none], []⟩) Rs s := by
  intro n
  induction n with
  | zero =>
    intro i H s hn I hit hl hq e
    refine codeAny_builtin PySem.F.entry_extend_loop ?_
    rw [Around.under_plainId PySem.F.plain_extend_loop _]
    show wpAny _ A1.in1 (pyNext (.ref it) >>= _) _ _ s
    obtain ⟨its, rv, pl, hz⟩ := I.list hl
    have mu : Mut (H it) := by rw [hit]; exact True.intro
    refine wpAny_bind (py_end hh (itO_get I hit) pl.isList (by rw [List.getElem?_toArray]; exact rv.none_of (by rw [List.getElem?_eq_none]; omega)) fun h1 h' e' vs e1 sb k ne he hv => ?_)
    have I2 : Inv X pins σ (upd H it (ItE it i)) { s with heap := h1 } := I.write (x := it) (e := it) (t' := s.toks) mu (.inl rfl) (fun b o nb z => (sb.2 b nb).trans z) ⟨_, e1⟩ (itE_ok e1)
    generalize hu : upd H it (ItE it i) = H2 at I2
    obtain ⟨e2, h2⟩ := chg hu hit
    have I3 : Inv X pins σ H2 { s with heap := h' } := L2.Inv.turnedL (s := { s with heap := h1 }) I2 (t' := s.toks) (ch := []) (h' := h') (fun b o _ e => k b o e) (fun b hb => by cases hb)
    refine wpAny_pure (hdone H2 _ I3 ?_ (e.one e2 (.inl (by simp))))
    rw [e2.at1 hiq.symm hq, List.take_of_length_le (by omega)]
  | succ n ih =>
    intro i H s hn I hit hl hq e
    refine codeAny_builtin PySem.F.entry_extend_loop ?_
    rw [Around.under_plainId PySem.F.plain_extend_loop _]
    show wpAny _ A1.in1 (pyNext (.ref it) >>= _) _ _ s
    obtain ⟨its, rv, pl, hz⟩ := I.list hl
    have mu : Mut (H it) := by rw [hit]; exact True.intro
    obtain ⟨v, hv⟩ : ∃ v, zs[i]? = some v := ⟨_, List.getElem?_eq_getElem (by omega)⟩
    obtain ⟨u, hu, ru⟩ := rv.get hv
    refine wpAny_bind (py_item (itO_get I hit) pl.isList (x := u) (by rw [List.getElem?_toArray]; exact hu) fun h' e' sb => ?_)
    have I2 : Inv X pins σ (upd H it (ItO l it (i + 1))) { s with heap := h' } := I.write (x := it) (e := it) (t' := s.toks) mu (.inl rfl) (fun b o nb z => (sb.2 b nb).trans z) ⟨_, e'⟩ (itO_ok e')
    generalize hg : upd H it (ItO l it (i + 1)) = H2 at I2
    obtain ⟨e2, h2⟩ := chg hg hit
    have hq2 := e2.at1 hiq.symm hq
    show wpAny _ A1.in1 (updateSeq q (·.push u) >>= _) _ _ _
    obtain ⟨z, its2, k, r2, hl2, e3⟩ := I2.lstM hq2
    refine wpAny_bind (wpAny_updateSeq e3 rfl (wpAny_pure ⟨plainId_quiet PySem.F.plain_extend_loop _, ?_⟩) (by rw [List.size_toArray]; omega) (by show (its2.toArray.push u).size ≤ sizeLine + 1; rw [Array.size_push, List.size_toArray]; omega))
    have I3 := I2.lset (f := (·.push u)) (its' := its2 ++ [u]) (t' := s.toks) hq2 e3 (by simp) (r2.append (.cons ru .nil)) (by have := small1000 zl; rw [List.length_append, List.length_take]; show _ + 1 ≤ _; omega)
    generalize hw : upd H2 q _ = H3 at I3
    obtain ⟨e4, h4⟩ := chg hw hq2
    refine ih (i + 1) H3 _ (by omega) I3 (e4.at1 hiq h2) ?_ ?_ ?_
    · exact e4.sql1 hlq (e2.sql1 hli hl)
    · rw [h4, List.take_add_one, hv]; rfl
    · exact (e.one e2 (.inl (by simp))).one e4 (.inl (by simp))
/-- x's own __len__, asked for a hint -/
theorem li_hint {H : Hp} {s : Shared} {C g a : Addr} {dx : Addr} {fs : List (Str × V)} {fd : FuncData} {ps : List Str} {sp : Sp} {n : Nat} {A1 : Around} {EE : Value → Shared → Prop} {Q : Bool → Shared → Prop}
    (F : FnOk X.prog X.w X.K X.mg X.base CX0 n g fd ps sp) (hr : Room n A1.in1) (m : SpM X.K C g "__len__") (hb : Binds X.K fd ps []) (I : Inv X pins σ H s) (env0 : Env0 X.prog X.w X.K X.mg X.base A1.in1 X.stack s H) (ha : H a = some (.ins C dx fs))
    {G : VK} (q : sp [.ref a] H G E0) (kk : ∀ v H', G v H' → ∃ k : Int, v = .int k ∧ 0 ≤ k ∧ k ≤ 1000 ∧ ∀ s', Inv X pins σ H' s' → ∀ b, Q b s') : wpAny (model X.prog X.w) A1 (Builtin.List.listLengthHint (.ref a)) Q EE s := by
  obtain ⟨mA, J, _⟩ := ins_get I.hok ha
  obtain ⟨od, J, _⟩ := J.look
  obtain ⟨mm, hF⟩ := I.fr
  unfold Builtin.List.listLengthHint
  refine wpAny_bind (wpAny_bind (J.type.here ((PySem.W.looks_findIn I.kIn m.at_).here ?_)))
  refine PySem.W.KFB.if_not rfl ?_
  refine wpAny_bind (m := rule "list.length-hint.len") (wpAny_rule ?_)
  refine wpAny_bind (wpAny_attempt ?_)
  refine PySem.W.len_K hF I.ok.mod.kin J m.at_ m.fn ?_
  refine wpAny_mono (runO (vs := [.ref a]) (EE := fun _ _ => False) F hr hb I env0 (.cons rfl .nil) q) (fun u s' hq => ?_) (fun _ _ e => e.elim)
  obtain ⟨z, H', I', rz, hg⟩ := hq
  obtain ⟨k, rfl, k0, k1, qz⟩ := kk _ _ hg
  obtain ⟨t, rfl⟩ := rz
  refine ⟨⟨k0, by omega⟩, ?_⟩
  have tl : Builtin.List.listTooLong k.toNat = false := notLongL (Nat.le_of_lt (small1000 (by omega)))
  refine wpAny_bind (m := asInt? (.int k _)) (wpAny_of_eq (a := some k) rfl ?_)
  show wpAny _ _ (if Builtin.List.listTooLong k.toNat = true then _ else _) _ _ _
  rw [tl, if_neg (by decide)]
  exact wpAny_pure (qz _ (I'.tok _) _)
/-- what x's own __iter__ and __len__ do: a list's iterator, a number -/
def LiRun (K : PySem.W.Frag) (spI spL : Sp) (a q : Addr) (zs : List V) (H : Hp) (R : Hp → Prop) : Prop :=
  spI [.ref a] H (fun v H1 => ∃ l it, v = .ref it ∧ Ed [] H H1 ∧ H it = none ∧ H1 it = some (ItO l it 0) ∧ SqL K H1 l zs ∧ l ≠ q ∧ l ≠ it ∧
    spL [.ref a] H1 (fun w H2 => ∃ k : Int, w = .int k ∧ 0 ≤ k ∧ k ≤ 1000 ∧ Ed [] H1 H2 ∧ R H2) E0) E0
theorem li_extend {H : Hp} {s : Shared} {C gi gl a q dx : Addr} {fs : List (Str × V)} {fdI fdL : FuncData} {psI psL : List Str} {spI spL : Sp} {n : Nat} {A1 : Around} {zs : List V} {Rs : Result → Shared → Prop}
    (FI : FnOk X.prog X.w X.K X.mg X.base CX0 n gi fdI psI spI) (mI : SpM X.K C gi "__iter__") (bI : Binds X.K fdI psI []) (FL : FnOk X.prog X.w X.K X.mg X.base CX0 n gl fdL psL spL) (mL : SpM X.K C gl "__len__") (bL : Binds X.K fdL psL [])
    (sb : Sub X n A1.in1.in1) (sb1 : Sub X n A1.in1) (hh : A1.in1.handled = none) (I : Inv X pins σ H s) (ha : H a = some (.ins C dx fs)) (hq : H q = some (.lst [])) (zl : zs.length ≤ 1000)
    (hrun : LiRun X.K spI spL a q zs H fun _ => True) (hdone : ∀ H' s', Inv X pins σ H' s' → Ed [q] H H' → H' q = some (.lst zs) → Rs (.ok (.ret .none)) s') :
    wpAny (model X.prog X.w) A1.in1 (Builtin.List.listExtendWith (.ref q) (.ref a) .none)
      (fun fin s' => match fin with | .done f => Rs (.ok f) s' | .again c' => c'.quiet = true ∧ codeAny (model X.prog X.w) A1 c' Rs s') (fun e s' => Rs (.error e) s') s := by
  have hne : q ≠ a := ne_of hq ha (fun z => nomatch z)
  obtain ⟨mA, J, _⟩ := ins_get I.hok ha
  obtain ⟨od, J, _⟩ := J.look
  obtain ⟨m0, hF⟩ := I.fr
  unfold Builtin.List.listExtendWith
  refine wpAny_bind (J.type.here ?_)
  have h1 : Builtin.List.listSameRef (.ref q) (.ref a) = false := by simp [Builtin.List.listSameRef, hne]
  have h2 : (Value.ref C == Value.type "list") = false := rfl
  have h3 : (Value.ref C == Value.type "tuple") = false := rfl
  simp only [h1, h2, h3, Bool.or_false, Bool.false_eq_true, if_false]
  refine wpAny_bind (PySem.W.owit_iter hF I.ok.mod.kin J mI.at_ mI.fn ?_)
  have env : ∀ {A' : Around} {s' : Shared} {H' : Hp}, Sub X n A' → Inv X pins σ H' s' → Env0 X.prog X.w X.K X.mg X.base A' X.stack s' H' := fun sb I => by
    have e := I.env0
    exact ⟨by rw [sb.fr]; exact e.frames, e.mod, e.bs, e.bsz, e.funs, e.frf, e.hok, e.bare⟩
  refine wpAny_mono (runO (vs := [.ref a]) (EE := fun _ _ => False) FI sb1.room bI I (env sb1 I) (.cons rfl .nil) hrun) (fun u s' hq' => ?_) (fun _ _ e => e.elim)
  obtain ⟨z, H1, I1, rz, l, it, rfl, e1, nit, hit, hl, hlq, hli, hL⟩ := hq'
  cases rz
  have hT : s'.TypeIs (.ref it) "list_iterator" := ⟨_, itO_get I1 hit, rfl⟩
  unfold PySem.W.OwitIt
  refine wpAny_specialOf (name := Str.ofString "__next__") hT slot_listiter_next.lookup ?_
  have ha1 := e1.at0 ha
  have hq1 := e1.at0 hq
  have hiq : it ≠ q := fun z => by rw [z, hq] at nit; cases nit
  refine wpAny_bind (wpAny_holding (li_hint FL sb.room mL bL I1 (env sb I1) ha1 hL fun v H2 hg => ?_))
  obtain ⟨k, ek, k0, k1, e2, _⟩ := hg
  refine ⟨k, ek, k0, k1, fun s2 I2 b => ?_⟩
  have hq2 := e2.at0 hq1
  have hit2 : H2 it = some (ItO l it 0) := e2.keep _ _ (fun z => nomatch z) hit
  have hl2 := e2.sql0 hl
  have e12 : Ed [] H H2 := e1.ex e2
  have loop : ∀ s3, Inv X pins σ H2 s3 → codeAny (model X.prog X.w) A1 (.builtin "list.extend.loop" ⟨[.ref q, .ref it, .none], []⟩) Rs s3 := fun s3 I3 =>
    li_loop hh hlq hli hiq zl (H0 := H2) (fun H' s' I' hq' e' => hdone H' s' I' (Ed.two' e' (Ed.refl.ex e12) (.inl (by simp)) (.inr nit)) hq') zs.length 0 H2 s3 (by omega) I3 hit2 hl2 (by rw [hq2]; rfl) .refl
  obtain ⟨z, its, kk, r3, hl3, e3⟩ := I2.lstM hq2
  cases r3
  refine wpAny_ite_split (fun _ => ?_) (fun _ => wpAny_pure ⟨plainId_quiet PySem.F.plain_extend_loop _, loop _ I2⟩)
  refine wpAny_bind (wpAny_rule ?_)
  refine wpAny_bind ?_
  show wpAny _ _ (updateSeq q (·.push .none) >>= fun _ => updateSeq q (·.pop)) _ _ _
  refine wpAny_bind (wpAny_updateSeq e3 rfl ?_)
  have I3 := I2.lset (f := (·.push Value.none)) (its' := [Value.none]) (ys := [.non]) (t' := s2.toks) hq2 e3 (by simp) (.cons rfl .nil) (by rw [List.length_singleton, sizeLine_eq]; decide)
  obtain ⟨z4, its4, k4, r4, hl4, e4⟩ := I3.lstM upd_same
  obtain ⟨u4, rfl, ru4⟩ := r4.one
  refine wpAny_updateSeq e4 rfl ?_ (by show 1 ≤ sizeLine; rw [sizeLine_eq]; decide) (by show 0 ≤ sizeLine + 1; exact Nat.zero_le _)
  refine wpAny_pure ⟨plainId_quiet PySem.F.plain_extend_loop _, loop _ ?_⟩
  have I4 := I3.lset (f := (·.pop)) (its := [u4]) (its' := []) (ys := []) (t' := s2.toks) upd_same e4 (by rfl) .nil (Nat.zero_le _)
  rw [upd_upd] at I4
  have hH : upd H2 q (.lst []) = H2 := by
    funext b
    by_cases hb : b = q
    · rw [hb, upd_same, hq2]
    · rw [upd_ne hb]
  rw [hH] at I4
  exact I4
/-- list(x) -/
def rListLi (K : PySem.W.Frag) (C : Addr) (spI spL : Sp) : List V → Hp → VK → Prop := fun xs H Q => ∃ a dx fs zs, xs = [.ref a] ∧ H a = some (.ins C dx fs) ∧ zs.length ≤ 1000 ∧
  (∀ q H1, H q = none → Ed [] H H1 → LiRun K spI spL a q zs H1 fun _ => True) ∧ ∀ q H', H q = none → Ed [] H H' → H' q = some (.lst zs) → Q (.ref q) H'
theorem call_listLi {C gi gl : Addr} {fdI fdL : FuncData} {psI psL : List Str} {spI spL : Sp} {n : Nat} (hc : X.calm = true)
    (FI : FnOk X.prog X.w X.K X.mg X.base CX0 n gi fdI psI spI) (mI : SpM X.K C gi "__iter__") (bI : Binds X.K fdI psI []) (FL : FnOk X.prog X.w X.K X.mg X.base CX0 n gl fdL psL spL) (mL : SpM X.K C gl "__len__") (bL : Binds X.K fdL psL [])
    (hr : Room (n + 3) X.A) : CallR X (.type "list") (rListLi X.K C spI spL) := by
  intro pins s σ H xs us Q I rv h
  obtain ⟨a, dx, fs, zs, rfl, ha, zl, hrun, hq⟩ := h
  obtain ⟨u, rfl, ru⟩ := rv.one
  cases ru
  have sb3 : Sub X (n + 1) X.A.in1.in1 := (Sub.in1 (Sub.in1 (⟨hr, rfl⟩ : Sub X (n + 3) X.A)))
  refine callType_codes (Q₁ := fun obj s₁ => obj = .ref s.heap.objs.size ∧ s₁ = { s with heap := s.heap.push { cls := .type "list", data := .seq #[] } }) PySem.F.called_list (PySem.F.typeCall_list_1 _) PySem.F.entry_list_init
    (code_list_new _ ⟨rfl, rfl⟩) fun obj s₁ h₁ => ?_
  obtain ⟨rfl, rfl⟩ := h₁
  have hS : (s.heap.push { cls := .type "list", data := .seq #[] }).get? s.heap.objs.size = some { cls := .type "list", data := .seq #[] } := Heap.get?_push_size _ rfl
  refine ⟨⟨_, hS, rfl⟩, PySem.F.args_list_init_2 _ _, ?_⟩
  have fr : H s.heap.objs.size = none := I.hok.fresh (Nat.le_refl _)
  have I1 : Inv X pins σ (upd H s.heap.objs.size (.lst [])) { s with heap := s.heap.push { cls := .type "list", data := .seq #[] } } := I.lnew (its := []) (t' := s.toks) .nil (Nat.zero_le _)
  show wpAny _ _ (do let old ← Builtin.List.listItems (.ref s.heap.objs.size); Builtin.List.listUpdate (.ref s.heap.objs.size) (fun _ => #[]); letGo old.toList.reverse; Builtin.List.listExtendWith (.ref s.heap.objs.size) (.ref a) .none) _ _ _
  refine wpAny_bind ?_
  unfold Builtin.List.listItems
  refine wpAny_bind (wpAny_seqItems hS rfl (wpAny_pure ?_))
  show wpAny _ _ (updateSeq s.heap.objs.size (fun _ => #[]) >>= fun _ => letGo (#[] : Array Value).toList.reverse >>= fun _ => Builtin.List.listExtendWith (.ref s.heap.objs.size) (.ref a) .none) _ _ _
  refine wpAny_bind (wpAny_updateSeq hS rfl ?_)
  have I2 := I1.lset (f := fun _ => #[]) (its := []) (its' := []) (ys := []) (t' := s.toks) upd_same hS rfl .nil (Nat.zero_le _)
  rw [upd_upd] at I2
  refine wpAny_bind (wpAny_letGo ?_)
  have ha2 : upd H s.heap.objs.size (.lst []) a = some (.ins C dx fs) := by rw [upd_ne (ne_of_none ha fr)]; exact ha
  have e0 : Ed [] H (upd H s.heap.objs.size (.lst [])) := Ed.new fr
  exact li_extend (A1 := X.A.in1) (Rs := wants (fun r s₂ => r = .none ∧ EP X pins σ Q (.ref s.heap.objs.size) s₂) X.xe) FI mI bI FL mL bL (sb3.in1) (sb3.mono (Nat.le_succ _)) (I.ok.hd hc) I2 ha2 upd_same zl (hrun _ _ fr e0)
    (fun H' s' I' e' hz => ⟨rfl, .ref s.heap.objs.size, H', I', rfl, hq _ H' fr (e0.one e' (.inr fr)) hz⟩)
/-- either way of a call -/
theorem call_or {g : Value} {r r' : List V → Hp → VK → Prop} (a : CallR X g r) (b : CallR X g r') : CallR X g (fun xs H Q => r xs H Q ∨ r' xs H Q) := by
  intro pins s σ H xs us Q I rv h
  rcases h with h | h
  · exact a pins s σ H xs us Q I rv h
  · exact b pins s σ H xs us Q I rv h
end
end Vc

/-! Xv: defs with a star parameter: the promise, the instance made. -/
namespace Vc
open PySem PySem.Spec PyProof.Rows L2
/-- a def with a star parameter behind its others: what binding does -/
structure BindV (fd : FuncData) (ps : List Str) (pv : Str) : Prop where
  b : ∀ us rest : List Value, us.length = ps.length → bindArgs fd ⟨us ++ rest, []⟩ = (newTuple rest >>= fun t => pure (ps.zip us ++ [(pv, t)]))
theorem bind_star3 {B : List Value → Sem (List (Str × Value))} {p1 p2 p3 pv : Str} (h0 : ∀ a b c, B [a, b, c] = (newTuple [] >>= fun t => pure [(p1, a), (p2, b), (p3, c), (pv, t)])) (h1 : ∀ a b c r rs, B (a :: b :: c :: r :: rs) = (newTuple (r :: rs) >>= fun t => pure [(p1, a), (p2, b), (p3, c), (pv, t)])) :
    ∀ us rest : List Value, us.length = [p1, p2, p3].length → B (us ++ rest) = (newTuple rest >>= fun t => pure ([p1, p2, p3].zip us ++ [(pv, t)]))
  | [a, b, c], [], _ => h0 a b c
  | [a, b, c], r :: rs, _ => h1 a b c r rs
/-- a call's promise by the def's own: what is left over is a new tuple -/
def spV (n : Nat) (sp : Sp) : Sp := fun vs H Q E => ∃ ws rest, vs = ws ++ rest ∧ ws.length = n ∧ rest.length ≤ sizeLine ∧ ∀ p, H p = none → sp (ws ++ [V.ref p]) (upd H p (.tup rest)) Q E
section
variable {w : World} {P : Program} {K : PySem.W.Frag} {mg : Str → Option Value} {base : Heap}
theorem Fun.bindsV {x qual pv : Str} {st : Stmt} {f : Addr} {fd : FuncData} {ps : List Str} (F : Fun K x qual st f fd)
    (h : ∀ (kV doc pm : Value) (an : Option Addr) (cdv ct : Value) (us rest : List Value), us.length = ps.length → bindArgs (PySem.W.fnOf x qual (defArgs st) (defBody st) (defScope st) .none kV doc pm an cdv ct) ⟨us ++ rest, []⟩ = (newTuple rest >>= fun t => pure (ps.zip us ++ [(pv, t)]))) : BindV fd ps pv := by
  obtain ⟨oc, od, kV, doc, pm, an, cdv, ct, osl, rfl, lk, hcd⟩ := F.ex
  exact ⟨h kV doc pm an cdv ct⟩
theorem Fun.okV {x qual pv : Str} {st : Stmt} {f : Addr} {fd : FuncData} {N ps : List Str} {k : Nat} {sp : Sp} (F : Fun K x qual st f fd) (B : BindV fd ps pv) (S : FnScope N (ps ++ [pv]) (defScope st))
    (hbody : ∀ (cdv : Value) (A : Around) (outer : List Env) (s : Shared) (H : Hp) (vs : List V) (Q : VK) (E : XK), Room k (A.deeper (envOfC qual (defScope st) s.heap.objs.size f cdv)) → sp vs H Q E →
      ∃ t, PSs (cxOf (L2.CX P w) P w K mg base N qual (defScope st) f cdv A outer s H E) (defBody st) t ∧ t { nx := fun _ H' => Q .non H', rt := Q } (start N vs) H) : FnR P w K mg base (L2.CX P w) (k + 1) f (spV ps.length sp) := by
  obtain ⟨oc, od, kV, doc, pm, an, cdv, ct, osl, rfl, lk, hcd⟩ := F.ex
  exact StX.fn_star lk hcd S StX.cxUp B.b fun A outer s H vs Q E hr hsp => hbody cdv A outer s H vs Q E hr hsp
end
section
variable {X : Cx} {CX : CXT} {k : Nat} {f C : Addr} {sp : Sp} {E : L2.St → XK} {x : Str} {e : Expr} {es : List Expr} {t : TA} {p pos : Pos}
theorem run_makeV {pins : List (Addr × Obj)} {σ : L2.St} {H : Hp} {s : Shared} {Q : VK} {us : List Value} {vs : List V} (M : Mk X.K C f) (F : FnR X.prog X.w X.K X.mg X.base CX k f sp) (hr : Room (k + 1) X.A)
    (hx : PassesAt CX X σ (E σ)) (I : Inv X pins σ H s) (r : Vals vs us)
    (h : ∀ x dx, H x = none → H dx = none → dx ≠ x → sp (.ref x :: vs) (upd (upd H dx (.own x)) x (.ins C dx [])) (fun v H2 => v = .non ∧ Q (.ref x) H2) (E σ)) :
    wpAny (model X.prog X.w) X.A (call (.ref C) us) (EP X pins σ Q) X.xe s := by
  have hq := h (s.heap.objs.size + 1) s.heap.objs.size (I.hok.fresh (Nat.le_succ _)) (I.hok.fresh (Nat.le_refl _)) (Nat.ne_of_lt (Nat.lt_succ_self _))
  have I2 := Inv.made (C := C) I
  have r2 : Vals (V.ref (s.heap.objs.size + 1) :: vs) (Value.ref (s.heap.objs.size + 1) :: us) := .cons rfl r
  refine wpAny_call (make_map (f := f) I.kIn M.makes M.init (beq_iff_eq.mp M.fn) (codeAny_mono (F _ X.stack _ _ (Value.ref (s.heap.objs.size + 1) :: us) _ _ (E σ) (hr.make C us []) (I2.env0.make C us []) r2 hq) fun r s' hq' => ?_))
  cases r with
  | error e => exact hx pins _ _ e s' I2 hq'
  | ok fl =>
    cases fl with
    | ret u =>
      obtain ⟨v, H', I3, rv, ev, q3⟩ := I2.after hq'
      subst ev
      exact ⟨rv, ⟨V.ref (s.heap.objs.size + 1), H', I3, rfl, q3⟩⟩
    | next => exact False.elim hq'
    | brk => exact False.elim hq'
    | cont => exact False.elim hq'
/-- C(a, .., b), the class's __init__ with a star parameter -/
theorem pe_makeV (M : Mk X.K C f) (F : FnR X.prog X.w X.K X.mg X.base CX k f sp) (hr : Room (k + 1) X.A) (hg : Gl X x) (hm : X.mg x = some (.ref C)) (hx : ∀ σ, PassesAt CX X σ (E σ))
    (ha : PA X (e :: es) t) (hdb : (x == ("__debug__" : Str)) = false := by decide) (he : starEach (e :: es) X.env = (false, eval e X.env) :: starEach es X.env := by rfl) (hpl : (backTo pos (starEach es X.env)).any (·.1) = false := by rfl) :
    PE X (.Call (.Name x p) (e :: es) [] pos) (tMakeS C sp E t) := by
  refine ⟨fun pins s σ H Q I h => ?_⟩
  refine wpAny_Call_Name_kw (ld_glob I hg hm ?_ hdb)
  refine PySem.W.callWith_K (h₀ := X.base) I.ok.mod.kin M.kp (thn (ha.run pos pins s σ H _ I h) fun us s1 ⟨vs, H1, I1, r, q⟩ => ⟨I1.kIn, ?_⟩) he hpl
  exact run_makeV M F hr (hx σ) I1 r q
end
end Vc

/-! Xr: ranges of any size: walked, made into lists (my own; over the library's LongRange and KdlSrc). -/
namespace Vc
open PySem PySem.Spec PyProof.Rows L2
theorem turn_long {P : Program} {w : World} {K : PySem.W.Frag} {tg : Expr} (it : Addr) (lo : Int) (n : Nat) : Turn P w K tg (Itr lo n) [it] it (fun i h => IsLongIter h it (lo + (i : Nat) * 1) ((n : Int) - (i : Nat)) 1) where
  mem := List.mem_singleton.mpr rfl
  obj := fun i h st b hb => by
    cases List.mem_singleton.mp hb
    refine ⟨_, st, fun v z => ?_⟩
    have q : Data.fields #[rawInt (lo + (i : Nat) * 1), rawInt ((n : Int) - (i : Nat)), rawInt 1] = Data.cell v := z
    cases q
  keep := fun i h h' st k => k it (List.mem_singleton.mpr rfl) _ st
  item := by
    intro X hP hw hK hc i pins s σ H E I hf st hg
    subst hP hw hK
    obtain ⟨f0, f1, f2, f3, f4, f5⟩ := hf it (List.mem_singleton.mpr rfl)
    refine (Walks.longrange (prog := X.prog) (w := X.w) (I.ok.hd hc) it lo 1 n).item i s _ _ hg st fun v h' tk hv st' kk => ?_
    obtain ⟨t, rfl⟩ := hv
    have J : Inv X pins σ H { s with heap := h', toks := tk } := I.turned (fun b o hb e => kk b o (fun z => hb (List.mem_singleton.mp z)) e) f0 f1 f3 f4 f5
    refine ⟨_, rfl, go_of (s := { s with heap := h', toks := tk }) (n := "longrange_iterator") st' rfl rfl (by decide) ⟨.int (lo + i), H, J, ⟨t, by rw [Int.mul_one]⟩, ⟨rfl, rfl⟩, st', fun b hb => (hf b hb).1⟩⟩
  done := by
    intro X hP hw hK hc i pins s σ H E I hf st hg
    subst hP hw hK
    obtain ⟨f0, f1, f2, f3, f4, f5⟩ := hf it (List.mem_singleton.mpr rfl)
    have hz : (n : Int) - (i : Nat) ≤ 0 := by have : n ≤ i := hg; omega
    exact wpAny_pyNext_long_end (I.ok.hd hc) st hz fun h' eb => ⟨rfl, I.turned (t' := s.toks) (fun b o hb e => eb b o hb e) f0 f1 f3 f4 f5⟩
  self := fun _ _ _ _ _ st h => wpAny_pyIter_longiter st h
theorem size_one (a b : Int) : Builtin.Range.rangeSize a b 1 = (((b - a).toNat : Nat) : Int) := rangeSize_nat a b
/-- a range object that stands, walked; of any size -/
theorem range_itL {tg : Expr} {X : Cx} {pins : List (Addr × Obj)} {σ : L2.St} {H : Hp} {s : Shared} {R : It → Hp → Prop} {E : Value → Shared → Prop} {lo hi : Int} {t u v : Tok} {tk : Nat} (I : Inv X pins σ H s)
    (q : R (Itr lo (hi - lo).toNat) H) : wpAny (model X.prog X.w) X.A (pyIter (.ref s.heap.objs.size)) (PIE X pins σ tg R) E { s with heap := s.heap.push { cls := .type "range", data := .fields #[.int lo t, .int hi u, .int 1 v] }, toks := tk } := by
  have J : Inv X pins σ H { s with heap := s.heap.push { cls := .type "range", data := .fields #[.int lo t, .int hi u, .int 1 v] }, toks := tk } := I.kept fun b o e => Heap.get?_push_of_some _ e
  have z1 : lo + ((0 : Nat) : Int) * 1 = lo := by simp
  have z2 : (((hi - lo).toNat : Nat) : Int) - ((0 : Nat) : Int) = Builtin.Range.rangeSize lo hi 1 := by rw [size_one]; simp
  by_cases hs : Builtin.Range.small lo hi 1 = true
  · refine wpAny_pyIter_range (IsRange.new ..) hs ?_
    refine ⟨_, [_], _, _, H, rfl, J.kept (t' := tk) fun b o e => Heap.get?_push_of_some _ e, turn_range _ lo (hi - lo).toNat, ?_, fun b hb => ?_, q⟩
    · show IsRangeIter _ _ (lo + ((0 : Nat) : Int) * 1) ((((hi - lo).toNat : Nat) : Int) - ((0 : Nat) : Int)) 1
      rw [z1, z2]
      exact Heap.get?_push_size _ rfl
    · cases List.mem_singleton.mp hb
      exact J.fpOk (Nat.le_refl _) (J.hok.fresh (Nat.le_refl _))
  · refine wpAny_pyIter_longrange (IsRange.new ..) (Bool.eq_false_iff.mpr hs) ?_
    refine ⟨_, [_], _, _, H, rfl, J.kept (t' := tk) fun b o e => Heap.get?_push_of_some _ e, turn_long _ lo (hi - lo).toNat, ?_, fun b hb => ?_, q⟩
    · show IsLongIter _ _ (lo + ((0 : Nat) : Int) * 1) ((((hi - lo).toNat : Nat) : Int) - ((0 : Nat) : Int)) 1
      rw [z1, z2]
      exact Heap.get?_push_size _ rfl
    · cases List.mem_singleton.mp hb
      exact J.fpOk (Nat.le_refl _) (J.hok.fresh (Nat.le_refl _))
/-- for x in range(a, b), a and b of any size -/
def iRngL (ta : TA) : TI := fun σ H R => ta σ H fun vs H1 => ∃ i j : Int, vs = [.int i, .int j] ∧ R (Itr i (j - i).toNat) H1
theorem pi_rangeL {tg : Expr} {X : Cx} {a b : Expr} {ta : TA} {p pos : Pos} (hg : Gl X "range") (hm : X.mg "range" = none) (ha : PA X [a, b] ta) (hs : starEach [a, b] X.env = [(false, eval a X.env), (false, eval b X.env)] := by rfl) (hs2 : starEach [b] X.env = [(false, eval b X.env)] := by rfl) :
    PI X tg (.Call (.Name "range" p) [a, b] [] pos) (iRngL ta) := by
  refine ⟨fun pins s σ H R I h => ?_⟩
  refine Call_ (ld_blt I hg hm boot_range (PyProof.Rows.callWith_type1 (thn (ha.run pos pins s σ H _ I h) fun us s1 ⟨vs, H1, I1, r1, i, j, e, q⟩ => ?_) (by rw [hs, hs2]) (by rw [hs2]; rfl)))
  subst e
  rcases r1 with _ | ⟨⟨t, rfl⟩, _ | ⟨⟨t', rfl⟩, _ | _⟩⟩
  exact call_range_2 (range_itL I1 q)
theorem go_iRngL {ta : TA} {σ : L2.St} {H : Hp} {R : It → Hp → Prop} (h : ta σ H fun vs H1 => ∃ i j : Int, vs = [.int i, .int j] ∧ R (Itr i (j - i).toNat) H1) : iRngL ta σ H R := h
theorem go_iRngLV {i j : Int} {P : Int → Int → Prop} (h : P i j) : ∃ i' j' : Int, [V.int i, V.int j] = [.int i', .int j'] ∧ P i' j' := ⟨i, j, rfl, h⟩
/-! ### list(range(a, b)), a and b of any size -/
section
variable {prog : Program} {w : World} {A : Around} {E : Value → Shared → Prop} {s : Shared}
/-- the list's own loop, from where its iterator stands -/
theorem long_loop {R : Result → Shared → Prop} {r it : Addr} {a c : Int} {n : Nat} (hh : A.handled = none) (hlen : n ≤ sizeLine) (S : Addr) (hSI : S ≠ it) (res : Value) (c₁ : Nat) (h0 : Heap) (base : Heap) (tk : Nat)
    (st : IsLongIter h0 it (a + ((0 : Nat) : Int) * c) ((n : Int) - ((0 : Nat) : Int)) c) (kb : ∀ b o, b ≠ S → base.get? b = some o → h0.get? b = some o) (nI : base.get? it = none) (hS : h0.get? S = some { cls := .type "list", data := .seq #[] c₁ })
    (hR : ∀ h' tk acc' c', (∀ b o, b ≠ S → base.get? b = some o → h'.get? b = some o) → h'.get? S = some { cls := .type "list", dict := none, data := .seq acc' c', slots := #[] } → ItemsOf (fun i v => ∃ t, v = .int (a + i * c) t) acc' n → R (.ok (.ret res)) { s with heap := h', toks := tk }) :
    codeAny (model prog w) A (.builtin "list.extend.loop" ⟨[.ref S, .ref it, res], []⟩) R { s with heap := h0, toks := tk } := by
  refine codeAny_extend_loopS (Walks.longrange (prog := prog) (w := w) (A := A.in1) hh it a c n).toS hlen S (fun z => hSI (List.mem_singleton.mp z)) res n 0 { s with heap := h0, toks := tk } #[] c₁ rfl (Nat.zero_le _) st hS (ItemsOf.nil _) fun s' acc' c' hm hS' hacc => ?_
  rw [Moved.eq_with hm]
  refine hR s'.heap s'.toks acc' c' (fun b o hb e => hm.heap b o (fun z => ?_) (kb b o hb e)) hS' hacc
  rcases List.mem_cons.mp z with z | z
  · exact hb z
  · rw [List.mem_singleton.mp z, nI] at e; cases e
theorem long_extend {R : Result → Shared → Prop} {r : Addr} {a b c : Int} {t u v : Tok} {n : Nat} (hh : A.handled = none) (hr : IsRange s.heap r a b c t u v) (hbig : Builtin.Range.small a b c = false) (hn : Builtin.Range.rangeSize a b c = n) (hlen : n ≤ 2 ^ 24)
    (S : Addr) (res : Value) (c₀ : Nat) (hS : s.heap.get? S = some { cls := .type "list", data := .seq #[] c₀ })
    (hR : ∀ h' tk acc' c', (∀ b o, b ≠ S → s.heap.get? b = some o → h'.get? b = some o) → h'.get? S = some { cls := .type "list", dict := none, data := .seq acc' c', slots := #[] } → ItemsOf (fun i v => ∃ t, v = .int (a + i * c) t) acc' n → R (.ok (.ret res)) { s with heap := h', toks := tk }) :
    wpAny (model prog w) A.in1 (Builtin.List.listExtendWith (.ref S) (.ref r) res)
      (fun fin s' => match fin with | .done f => R (.ok f) s' | .again c' => c'.quiet = true ∧ codeAny (model prog w) A c' R s') (fun e s' => R (.error e) s') s := by
  have nSr : S ≠ r := fun e => by rw [e, hr] at hS; simp at hS
  have nSI : S ≠ s.heap.objs.size := Nat.ne_of_lt (Heap.lt_size hS)
  have nI : s.heap.get? s.heap.objs.size = none := by
    cases q : s.heap.get? s.heap.objs.size with
    | none => rfl
    | some o => exact absurd (Heap.lt_size q) (Nat.lt_irrefl _)
  generalize hO : ({ cls := .type "longrange_iterator", data := .fields #[rawInt a, rawInt (Builtin.Range.rangeSize a b c), rawInt c] } : Obj) = oI
  have st0 : ∀ h : Heap, h.get? s.heap.objs.size = some oI → IsLongIter h s.heap.objs.size (a + ((0 : Nat) : Int) * c) ((n : Int) - ((0 : Nat) : Int)) c := fun h e => by
    show h.get? _ = some _
    rw [e, ← hO, hn]; simp
  have hl : n ≤ sizeLine := by rw [sizeLine_eq]; omega
  unfold Builtin.List.listExtendWith
  refine wpAny_bind (wpAny_typeOf (T := "range") ⟨_, hr, rfl⟩ ?_)
  have q1 : Builtin.List.listSameRef (.ref S) (.ref r) = false := by simp [Builtin.List.listSameRef, nSr]
  have q2 : ((Value.type "range" == Value.type "list") || (Value.type "range" == Value.type "tuple")) = false := by decide
  simp only [q1, q2, Bool.or_false, Bool.false_or, Bool.false_eq_true, if_false]
  refine wpAny_bind (wpAny_pyIter_longrange hr hbig ?_)
  rw [hO]
  refine wpAny_bind (wpAny_holding (wpAny_hint_range (n := n) (Heap.get?_push_of_some _ hr) hn hlen ?_))
  have p1 : (s.heap.push oI).get? s.heap.objs.size = some oI := by subst hO; exact Heap.get?_push_size _ rfl
  have p2 := Heap.get?_push_of_some oI hS
  refine wpAny_ite_split (fun _ => ?_) (fun _ => wpAny_pure ⟨plainId_quiet F.plain_extend_loop _, long_loop (prog := prog) (w := w) (s := s) (r := r) hh hl S nSI res c₀ _ s.heap _ (st0 _ p1) (fun b o _ e => Heap.get?_push_of_some _ e) nI p2 hR⟩)
  refine wpAny_bind (wpAny_rule (wpAny_bind ?_))
  show wpAny _ _ (updateSeq S (·.push .none) >>= fun _ => updateSeq S (·.pop)) _ _ _
  refine wpAny_bind (wpAny_updateSeq p2 rfl ?_)
  have p3 := Heap.get?_update_self (Obj.mapSeq (·.push Value.none)) p2 rfl
  refine wpAny_updateSeq (hz := by seq_fits) p3 rfl ?_
  have p4 := Heap.get?_update_self (Obj.mapSeq (·.pop)) p3 rfl
  refine wpAny_pure ⟨plainId_quiet F.plain_extend_loop _, long_loop (prog := prog) (w := w) (s := s) (r := r) hh hl S nSI res _ _ s.heap _ (st0 _ ?_) (fun b o hb e => ?_) nI p4 hR⟩
  · rw [Heap.get?_update_other _ _ nSI, Heap.get?_update_other _ _ nSI]; exact p1
  · rw [Heap.get?_update_other _ _ (Ne.symm hb), Heap.get?_update_other _ _ (Ne.symm hb)]; exact Heap.get?_push_of_some _ e
theorem long_init {R : Result → Shared → Prop} {r : Addr} {a b c : Int} {t u v : Tok} {n : Nat} (hh : A.handled = none) (hr : IsRange s.heap r a b c t u v) (hbig : Builtin.Range.small a b c = false) (hn : Builtin.Range.rangeSize a b c = n) (hlen : n ≤ 2 ^ 24)
    (S : Addr) (hS : s.heap.get? S = some { cls := .type "list", data := .seq #[] })
    (hR : ∀ h' tk acc' c', (∀ b o, b ≠ S → s.heap.get? b = some o → h'.get? b = some o) → h'.get? S = some { cls := .type "list", dict := none, data := .seq acc' c', slots := #[] } → ItemsOf (fun i v => ∃ t, v = .int (a + i * c) t) acc' n → R (.ok (.ret .none)) { s with heap := h', toks := tk }) :
    wpAny (model prog w) A.in1 (Builtin.«list.__init__» ⟨[.ref S, .ref r], []⟩)
      (fun fin s' => match fin with | .done f => R (.ok f) s' | .again c' => c'.quiet = true ∧ codeAny (model prog w) A c' R s') (fun e s' => R (.error e) s') s := by
  have nSr : S ≠ r := fun e => by rw [e, hr] at hS; simp at hS
  show wpAny _ _ (do let old ← Builtin.List.listItems (.ref S); Builtin.List.listUpdate (.ref S) (fun _ => #[]); letGo old.toList.reverse; Builtin.List.listExtendWith (.ref S) (.ref r) .none) _ _ s
  unfold Builtin.List.listItems
  refine wpAny_bind (wpAny_bind (wpAny_seqItems hS rfl (wpAny_pure ?_)))
  show wpAny _ _ (updateSeq S (fun _ => #[]) >>= fun _ => letGo (#[] : Array Value).toList.reverse >>= fun _ => Builtin.List.listExtendWith (.ref S) (.ref r) .none) _ _ s
  refine wpAny_bind (wpAny_updateSeq hS rfl (wpAny_bind (wpAny_letGo ?_)))
  have oth : ∀ {b : Addr} {o : Obj}, b ≠ S → s.heap.get? b = some o → (s.heap.update S (Obj.mapSeq (fun _ => (#[] : Array Value)))).get? b = some o :=
    fun hb e => by rw [Heap.get?_update_other _ _ (Ne.symm hb)]; exact e
  refine long_extend hh (oth (Ne.symm nSr) hr) hbig hn hlen S .none _ (Heap.get?_update_self _ hS rfl) fun h' tk acc' c' hk hS' hacc => ?_
  exact hR h' tk acc' c' (fun b o hb e => hk b o hb (oth hb e)) hS' hacc
theorem call_list_rangeL {Q : Value → Shared → Prop} {r : Addr} {a b c : Int} {t u v : Tok} {n : Nat} (hh : A.handled = none) (hr : IsRange s.heap r a b c t u v) (hn : Builtin.Range.rangeSize a b c = n) (hlen : n ≤ 2 ^ 24)
    (hQ : ∀ h' tk acc' c', (∀ b o, s.heap.get? b = some o → h'.get? b = some o) → h'.get? s.heap.objs.size = some { cls := .type "list", dict := none, data := .seq acc' c', slots := #[] } → ItemsOf (fun i v => ∃ t, v = .int (a + i * c) t) acc' n → Q (.ref s.heap.objs.size) { s with heap := h', toks := tk }) :
    wpAny (model prog w) A (call (.type "list") [.ref r]) Q E s := by
  by_cases hs : Builtin.Range.small a b c = true
  · exact call_list_range hh hr hs hn hlen hQ
  · refine callType_codes (Q₁ := fun obj s₁ => obj = .ref s.heap.objs.size ∧ s₁ = { s with heap := s.heap.push { cls := .type "list", data := .seq #[] } }) F.called_list (F.typeCall_list_1 _) F.entry_list_init (code_list_new _ ⟨rfl, rfl⟩) fun obj s₁ h₁ => ?_
    obtain ⟨rfl, rfl⟩ := h₁
    have hS : (s.heap.push { cls := .type "list", data := .seq #[] }).get? s.heap.objs.size = some { cls := .type "list", data := .seq #[] } := Heap.get?_push_size _ rfl
    exact ⟨⟨_, hS, rfl⟩, F.args_list_init_2 _ _, long_init (A := A.in1) hh (Heap.get?_push_of_some _ hr) (Bool.eq_false_iff.mpr hs) hn hlen _ hS fun h' tk acc' c' hk hS' hacc =>
      ⟨rfl, hQ h' tk acc' c' (fun b o e => hk b o (Nat.ne_of_lt (Heap.lt_size e)) (Heap.get?_push_of_some _ e)) hS' hacc⟩⟩
end
/-- the ints a .. b - 1 -/
def rgI (a b : Int) : List Int := (List.range (b - a).toNat).map fun i => a + (i : Nat)
theorem rgI_len (a b : Int) : (rgI a b).length = (b - a).toNat := by unfold rgI; rw [List.length_map, List.length_range]
theorem rgI_V (a b : Int) : (rgI a b).map V.int = rgV a b := by unfold rgI rgV; rw [List.map_map]; rfl
def tLstRgL (te : L2.St → Hp → (Int → Int → Hp → Prop) → Prop) : TE := fun σ H Q => te σ H fun a b H1 => (b - a).toNat ≤ 2 ^ 24 ∧ ∀ q, H1 q = none → Q (.ref q) (upd H1 q (.lst ((rgI a b).map V.int)))
/-- list(range(..)) -/
theorem pe_listRgL {X : Cx} {e : Expr} {te : L2.St → Hp → (Int → Int → Hp → Prop) → Prop} {p pos : Pos} (hc : X.calm = true) (hg : Gl X "list") (hm : X.mg "list" = none) (he : PRg X e te) (na : starEach [e] X.env = (false, eval e X.env) :: starEach [] X.env := by rfl) : PE X (.Call (.Name "list" p) [e] [] pos) (tLstRgL te) := by
  refine ⟨fun pins s σ H Q I h => ?_⟩
  refine Call_ (ld_blt I hg hm boot_list (PyProof.Rows.callWith_type1 (args_cons (thn (he pins s σ H _ I h) fun x s1 ⟨r, a, b, t, u, v, H1, ex, hr, I1, ok, q⟩ => args_nil ?_) na) na))
  subst ex
  refine call_list_rangeL (n := (b - a).toNat) (I1.ok.hd hc) hr (rangeSize_nat a b) ok fun h' tk acc c' hk e' hi => ?_
  have hz : ((rgI a b).map V.int).length ≤ sizeLine := by rw [List.length_map, rgI_len, sizeLine_eq]; omega
  refine ⟨.ref s1.heap.objs.size, _, I1.laid hk (Nat.le_refl _) (show ObjOk X.prog X.w _ _ _ (.lst ((rgI a b).map V.int)) from ⟨hz, acc.toList, c', by rw [rgI_V]; exact vals_rg hi, by rw [Array.toArray_toList]; exact e'⟩), rfl, q _ (I1.hok.fresh (Nat.le_refl _))⟩
section
variable {ta tb : TE} {σ : L2.St} {H : Hp} {Q : VK} {K : PySem.W.Frag}
theorem go_lstRg (h : ta σ H fun x H1 => tb σ H1 fun y H2 => ∃ i j, x = .int i ∧ y = .int j ∧ (j - i).toNat ≤ 2 ^ 24 ∧ ∀ q, H2 q = none → Q (.ref q) (upd H2 q (.lst ((rgI i j).map V.int)))) : tLstRgL (tRg2 ta tb) σ H Q := h
theorem go_lstRgV {i j : Int} {P : Int → Int → Prop} (h : P i j) : ∃ i' j' : Int, V.int i = .int i' ∧ V.int j = .int j' ∧ P i' j' := ⟨i, j, rfl, rfl, h⟩
theorem go_minL {p : Addr} {ns : List Int} (e : SqL K H p (ns.map V.int)) (l : 0 < ns.length) (h : ∀ m, m ∈ ns → (∀ y, y ∈ ns → m ≤ y) → Q (.int m) H) : rMin K [.ref p] H Q := ⟨p, ns, rfl, e, l, h⟩
end
/-! ### the plain law of such lists -/
theorem rgI_nil {a b : Int} (h : b ≤ a) : rgI a b = [] := by
  unfold rgI
  have : (b - a).toNat = 0 := by omega
  rw [this]; rfl
theorem rgI_snoc {a b : Int} (h : a ≤ b) : rgI a (b + 1) = rgI a b ++ [b] := by
  unfold rgI
  have e : (b + 1 - a).toNat = (b - a).toNat + 1 := by omega
  rw [e, List.range_succ, List.map_append]
  have : a + (((b - a).toNat : Nat) : Int) = b := by omega
  rw [List.map_cons, List.map_nil, this]
theorem rgI_app {a b : Int} (h : a ≤ b) : ∀ n : Nat, rgI a b ++ rgI b (b + n) = rgI a (b + n)
  | 0 => by rw [show b + ((0 : Nat) : Int) = b by omega, rgI_nil (Int.le_refl b), List.append_nil]
  | n + 1 => by
    have e : b + ((n + 1 : Nat) : Int) = (b + n) + 1 := by omega
    rw [e, rgI_snoc (a := b) (by omega), rgI_snoc (a := a) (by omega), ← List.append_assoc, rgI_app h n]
theorem rgI_cat {a b c : Int} (h : a ≤ b) (k : b ≤ c) : rgI a b ++ rgI b c = rgI a c := by
  have := rgI_app h (c - b).toNat
  rwa [show b + (((c - b).toNat : Nat) : Int) = c by omega] at this
theorem rgI_last {a b : Int} (h : a ≤ b) : (rgI a (b + 1))[(b - a).toNat]? = some b := by
  rw [rgI_snoc h, List.getElem?_append_right (by rw [rgI_len]; exact Nat.le_refl _), rgI_len]
  simp
theorem rgI_get {a b : Int} {i : Nat} {x : Int} (h : (rgI a b)[i]? = some x) : x = a + i ∧ a + i < b := by
  unfold rgI at h
  rw [List.getElem?_map] at h
  cases e : (List.range (b - a).toNat)[i]? with
  | none => rw [e] at h; cases h
  | some k =>
    rw [e] at h
    obtain ⟨hk, rfl⟩ := List.getElem?_eq_some_iff.mp e
    rw [List.getElem_range] at h
    rw [List.length_range] at hk
    cases h
    exact ⟨rfl, by omega⟩
end Vc

/-! Xl: a loop over a locked thing that may raise: the error leaves the lock (my own; over HandS.Iter's lock). -/
namespace Vc
open PySem PySem.Spec PyProof.Rows L2
def lockW (W : WX) (d : Addr) (od : Obj) (u : HO) : WX := fun cls dd σ H => H d = some (.frz od u) ∧ W cls dd σ (upd H d u)
def unD (D : Ends) (d : Addr) (od : Obj) (u : HO) : Ends := ⟨fun σ' H' => H' d = some (.frz od u) ∧ D.nx σ' (upd H' d u), fun v H' => H' d = some (.frz od u) ∧ D.rt v (upd H' d u), fun σ' H' => H' d = some (.frz od u) ∧ D.bk σ' (upd H' d u), fun σ' H' => H' d = some (.frz od u) ∧ D.ct σ' (upd H' d u)⟩
def tLockX (W : WX) (tb : WX → TS) : TS := fun D σ H => ∃ d u, H d = some u ∧ Mut (some u) ∧ ∀ od, tb (lockW W d od u) (unD D d od u) σ (upd H d (.frz od u))
theorem ps_lockX {X : Cx} {st : Stmt} {W : WX} {tb : WX → TS} (po : PassesOwn (model X.prog X.w) X.A X.env X.xe) (tk : Takes X W)
    (hb : ∀ (W : WX) (pn : List (Addr × Obj)) (xe : Value → Shared → Prop), Takes (X.tr pn xe) W → PassesOwn (model X.prog X.w) X.A X.env xe → PS (X.tr pn xe) st (tb W)) : PS X st (tLockX W tb) := by
  refine ⟨fun pins s σ H D I hw => ?_⟩
  obtain ⟨d, u, hd, mu, hw⟩ := hw
  obtain ⟨od, I1⟩ := I.lock hd mu
  have nf := I.nofrz hd mu
  have ok := I.ok
  have T : Takes (X.tr (X.pn ++ pins) X.xe) (lockW W d od u) := fun u' s' ⟨a, B, sI, pins', σ', H', cls, dd, e, I', nb, up, sky, na, os, ag, hf, w⟩ =>
    tk u' s' ⟨a, B, sI, pins, σ', upd H' d u, cls, dd, e, (I'.ofTry ok).unlock hf nf, nb, up, sky, by
      have : a ≠ d := fun z => by rw [z, hf] at na; cases na
      rw [upd_ne this]; exact na, os, ag, w⟩
  refine thn ((hb (lockW W d od u) (X.pn ++ pins) X.xe T po).run [] s σ (upd H d (.frz od u)) (unD D d od u) (I1.toTry _) (hw od)) fun f s1 q => ?_
  cases f with
  | next => obtain ⟨σ', H', I2, e, q⟩ := q; exact ⟨σ', _, (I2.ofTry ok).unlock e nf, q⟩
  | brk => obtain ⟨σ', H', I2, e, q⟩ := q; exact ⟨σ', _, (I2.ofTry ok).unlock e nf, q⟩
  | cont => obtain ⟨σ', H', I2, e, q⟩ := q; exact ⟨σ', _, (I2.ofTry ok).unlock e nf, q⟩
  | ret v => obtain ⟨x, σ', H', I2, r, e, q⟩ := q; exact ⟨x, σ', _, (I2.ofTry ok).unlock e nf, r, q⟩
section
variable {σ : L2.St} {H : Hp} {D : Ends} {g : TG} {t : WX → TS} {W : WX}
/-- for k in d, where a turn may raise -/
theorem lockX_keys {n : Nat} {d : Addr} {kvs : List (Key × V)} (hv : σ[n]? = some (some (.ref d))) (hd : H d = some (.dK kvs)) (S : List Addr) (Pv : Hp → Nat → L2.St → Hp → Prop) (hE : ∀ H1 i σ' H', Pv H1 i σ' H' → Ed S H1 H')
    (h0 : ∀ H1 od, Ed [d] H H1 → H1 d = some (.frz od (.dK kvs)) → Pv H1 0 σ H1)
    (turn : ∀ H1 od i k w σ' H' (W' : WX), (∀ cls dd σ3 H3, Ed S H1 H3 → (∀ H4, Ed S H H4 → H4 d = some (.dK kvs) → (∀ a o, a ≠ d → H3 a = some o → H4 a = some o) → W cls dd σ3 H4) → W' cls dd σ3 H3) →
      Ed [d] H H1 → H1 d = some (.frz od (.dK kvs)) → H' d = some (.frz od (.dK kvs)) → kvs[i]? = some (k, w) → Pv H1 i σ' H' →
      g (kV k) σ' H' fun σ2 H2 => t W' { nx := Pv H1 (i + 1), ct := Pv H1 (i + 1), rt := fun v H3 => H3 d = some (.frz od (.dK kvs)) ∧ D.rt v (upd H3 d (.dK kvs)), bk := fun σ3 H3 => H3 d = some (.frz od (.dK kvs)) ∧ D.nx σ3 (upd H3 d (.dK kvs)) } σ2 H2)
    (done : ∀ H1 σ' H' H2, Ed [d] H H1 → Pv H1 kvs.length σ' H' → Ed S H H2 → H2 d = some (.dK kvs) → (∀ a o, a ≠ d → H' a = some o → H2 a = some o) → D.nx σ' H2) : tLockX W (fun W' => tFor (iKeys (tVar n)) g (t W')) D σ H := by
  refine ⟨d, .dK kvs, hd, trivial, fun od => ?_⟩
  generalize hu : upd H d (.frz od (.dK kvs)) = H1
  obtain ⟨e1, h1⟩ := chg hu hd
  refine ⟨_, hv, d, od, rfl, .inl ⟨kvs, h1, for_it walk_keys (Pv H1) (h0 H1 od e1 h1) (fun i σ' H' _ p => (hE _ _ _ _ p).frz _ _ _ h1) (fun i x σ' H' H2 hi p y => ?_) fun σ' H' p => ?_⟩⟩
  · obtain ⟨rfl, k, w, hk, rfl⟩ := y
    refine turn H1 od i k w σ' H2 _ (fun cls dd σ3 H3 e3 hw => ?_) e1 h1 ((hE _ _ _ _ p).frz _ _ _ h1) hk p
    obtain ⟨e2, h2, k2⟩ := unlock hd trivial hu e3 rfl
    exact ⟨e3.frz _ _ _ h1, hw _ e2 h2 k2⟩
  · obtain ⟨e2, h2, k2⟩ := unlock hd trivial hu (hE _ _ _ _ p) rfl
    exact ⟨(hE _ _ _ _ p).frz _ _ _ h1, done H1 σ' H' _ e1 p e2 h2 k2⟩
end
end Vc

/-! Xj: an except suite (as n) that raises another error from the caught one; star calls that make an instance (my own; ways of HandS.SuiteRaise, HandS.RaiseFrom, HandS.ExcInitHot). -/
namespace Vc
open PySem PySem.Spec PyProof.Rows L2 HotX L2H
/-! ### errors whose context is None leave a def -/
theorem cxUpN {P : Program} {w : World} : StX.CXUp (L2N.CX P w) := by
  rintro outer s H s2 H2 E e s' un kp ho ⟨a, B, H', cls, d, ea, fl, hok, ub, na, os, ag, he⟩
  refine ⟨a, B, H', cls, d, ea, fl, hok, ⟨fun b o q n hb => ub.keep b o (kp b o q) (un.free b o q n (by simp)) hb, fun b o q hb => ub.slot b o (kp b o q) hb, fun b o q n => ub.free b o (kp b o q) (un.free b o q n (by simp)),
    fun b o q hb => ub.there b o (kp b o q) hb, fun b xs q => ub.tups b xs (un.tups b xs q), fun b o xs q => ub.frzs b o xs (un.frzs b o xs q), fun b ps q => ?_⟩, na, os.trans ho, ag, he⟩
  obtain ⟨m1, e1⟩ := un.tbls b ps q
  obtain ⟨m2, e2⟩ := ub.tbls b _ e1
  exact ⟨m1 ++ m2, by rw [e2, Array.append_assoc]⟩
theorem cx_weak {P : Program} {w : World} {outer : List Env} {H : Hp} {s : Shared} {E : XK} {u : Value} {s' : Shared} (h : L2N.CX P w outer H s E u s') : L2.CX P w outer H s E u s' := by
  obtain ⟨a, B, H', cls, d, ea, fl, r⟩ := h
  exact ⟨a, B, H', cls, d, ea, flyingZ_imp (fun o z => z.zc) fl, r⟩
theorem fnr_weak {P : Program} {w : World} {K : PySem.W.Frag} {mg : Str → Option Value} {base : Heap} {k : Nat} {f : Addr} {sp : Sp} (F : FnR P w K mg base (L2N.CX P w) k f sp) : FnR P w K mg base (L2.CX P w) k f sp :=
  fun A outer s H us vs Q E hr e0 r h => codeAny_mono (F A outer s H us vs Q E hr e0 r h) fun r s' hq => by
    cases r with
    | error e => exact cx_weak hq
    | ok fl => cases fl <;> exact hq
section
variable {w : World} {P : Program} {K : PySem.W.Frag} {mg : Str → Option Value} {base : Heap}
theorem Fun.okVN {x qual pv : Str} {st : Stmt} {f : Addr} {fd : FuncData} {N ps : List Str} {k : Nat} {sp : Sp} (F : Fun K x qual st f fd) (B : BindV fd ps pv) (S : FnScope N (ps ++ [pv]) (defScope st))
    (hbody : ∀ (cdv : Value) (A : Around) (outer : List Env) (s : Shared) (H : Hp) (vs : List V) (Q : VK) (E : XK), Room k (A.deeper (envOfC qual (defScope st) s.heap.objs.size f cdv)) → sp vs H Q E →
      ∃ t, PSs (cxOf (L2N.CX P w) P w K mg base N qual (defScope st) f cdv A outer s H E) (defBody st) t ∧ t { nx := fun _ H' => Q .non H', rt := Q } (start N vs) H) : FnR P w K mg base (L2N.CX P w) (k + 1) f (spV ps.length sp) := by
  obtain ⟨oc, od, kV, doc, pm, an, cdv, ct, osl, rfl, lk, hcd⟩ := F.ex
  exact StX.fn_star lk hcd S cxUpN B.b fun A outer s H vs Q E hr hsp => hbody cdv A outer s H vs Q E hr hsp
end
/-- X(..), X's own __init__ walked; where nothing is handled -/
theorem pmk_oexN {X : Cx} {CX : CXT} {x : Str} {e : Expr} {es : List Expr} {ta : TA} {p pos : Pos} {C fI : Addr} {k : Nat} {fd : FuncData} {ps : List Str} {sp : Sp} (T : OexC X.K C) (iC : PySem.W.findIn X.K (.ref C) "__init__" = some (some (.ref fI))) (tI : PySem.W.typeIn X.K (.ref fI) = some (.type "function"))
    (F1 : FnOk X.prog X.w X.K X.mg X.base CX k fI fd ps sp) (hr : Room (k + 1) X.A) (hb : Binds X.K fd ps []) (hx : Passes CX X (fun _ _ _ => False)) (hg : Gl X x) (hm : X.mg x = some (.ref C)) (ha : PA X (e :: es) ta)
    (hdb : (x == ("__debug__" : Str)) = false := by decide) (he : starEach (e :: es) X.env = (false, eval e X.env) :: starEach es X.env := by rfl) (hpl : (backTo pos (starEach es X.env)).any (·.1) = false := by rfl) :
    L2N.PMk X (.Call (.Name x p) (e :: es) [] pos) (tMkO C sp [] ta) := by
  intro pins s σ H Q I h
  obtain ⟨nm, q, N, bs, bm, sn, sub, ab, col, dd, k0, k1, k2, k3, k5, hC, hbm⟩ := T.cls
  refine wpAny_Call_Name_kw (ld_glob I hg hm ?_ hdb)
  refine PySem.W.callWith_K (h₀ := X.base) I.ok.mod.kin T.kC (thn (ha.run pos pins s σ H _ I h) fun us s1 ⟨vs, H1, I1, r1, hz, q1⟩ => ⟨I1.kIn, ?_⟩) he hpl
  show wpAny _ _ (call (.ref C) us) _ _ _
  obtain ⟨hp, g, dr, tk, os⟩ := s1
  have hsz : hp.objs.size ≤ hp.objs.size + 1 := Nat.le_succ _
  have hn : H1 (hp.objs.size + 1) = none := I1.hok.fresh hsz
  have hq := q1 (hp.objs.size + 1) hn
  rw [List.append_nil] at hq
  have kk : ∀ b o, hp.get? b = some o → ((hp.push (PySem.W.kdv_tup us)).push (PySem.HandSPX.excO C hp.objs.size)).get? b = some o := fun b o e => Heap.get?_push_of_some _ (Heap.get?_push_of_some _ e)
  have hget : ((hp.push (PySem.W.kdv_tup us)).push (PySem.HandSPX.excO C hp.objs.size)).get? (hp.objs.size + 1) = some (PySem.HandSPX.excO C hp.objs.size) := by heap_get
  have I2 : Inv X pins σ (upd H1 (hp.objs.size + 1) (exo (hp.objs.size + 1) C none)) ⟨(hp.push (PySem.W.kdv_tup us)).push (PySem.HandSPX.excO C hp.objs.size), g, dr, tk, os⟩ :=
    I1.laid (t' := tk) (a := hp.objs.size + 1) (o := exo (hp.objs.size + 1) C none) (h' := (hp.push (PySem.W.kdv_tup us)).push (PySem.HandSPX.excO C hp.objs.size)) kk hsz (exo_ok hget)
  have r2 : Vals (V.ref (hp.objs.size + 1) :: vs) (Value.ref (hp.objs.size + 1) :: us) := .cons rfl r1
  have hl : (Value.ref (hp.objs.size + 1) :: us ++ []).length = ps.length := by
    have e := r2.length
    rw [F1.len _ _ _ _ hq] at e
    rw [List.append_nil]
    exact e.symm
  have hus : us.length ≤ sizeLine := by
    rw [← Paired.length r1, sizeLine_eq]
    omega
  have b2 := hb _ (Value.ref (hp.objs.size + 1) :: us) I2.kIn hl
  rw [List.append_nil] at b2
  refine wpAny_call (PySem.HandSPX.call_own F.excBase_ValueError (fun Y => PySem.HandSPX.refsVE_contains Y bm hbm) (I1.kIn _ _ hC) (PySem.W.looks_findIn I1.kIn iC) (fun self => PySem.W.bind_fn I1.kIn self tI) hus
    (codeAny_mono (F1.run _ X.stack _ _ ⟨Value.ref (hp.objs.size + 1) :: us, []⟩ (Value.ref (hp.objs.size + 1) :: us) _ _ (fun _ _ _ => False) (hr.make C us []) (I2.env0.make C us []) b2 r2 hq) fun r s' hq' => ?_))
  cases r with
  | error er => exact hx pins σ _ _ er s' I2 hq'
  | ok fl =>
    cases fl with
    | ret u =>
      obtain ⟨v, H2, os2, bare2, un2, hok2, rv, ev, d, fs, ea, ed, hd1, q2⟩ := hq'
      subst ev
      obtain ⟨h2, g2, d2, t2, os'⟩ := s'
      obtain ⟨t0, G, J, kG, ge, hoe, na⟩ := mk_end0 (d2 := d2) (t2 := t2) I1 hsz kk un2 hok2 os2 bare2 ea ed hd1
      refine ⟨rv, ⟨hp.objs.size + 1, _, _, ⟨G, g2, d2, t2, os'⟩, _, .ref C, some d, rfl, J, kG, ge, hoe, ⟨rfl, rfl, fun vs hv => ?_⟩, rfl, rfl, na, rfl, bare2, raises_own T.exC T.tyC, q2⟩⟩
      cases hv
      rfl
    | next => exact False.elim hq'
    | brk => exact False.elim hq'
    | cont => exact False.elim hq'
theorem ps_raiseN {X : Cx} {W : WX} {e : Expr} {t : L2.St → Hp → XK → Prop} {pos : Pos} (hc : X.calm = true) (tk : L2N.Takes X W) (he : L2N.PMk X e t) : PS X (.Raise (some e) none pos) (tRaise W t) := L2N.ps_raise hc tk he
/-! ### an error's __init__ also where one is handled -/
theorem FnHt.toH {P : Program} {w : World} {K : PySem.W.Frag} {mg : Str → Option Value} {base : Heap} {k : Nat} {f : Addr} {fd : FuncData} {ps : List Str} {sp : Sp} (F : FnHt P w K mg base k f fd ps sp) : FnH P w K mg base CX0 k f fd ps sp :=
  ⟨F.len, fun A outer s H args us vs Q E p hr _ _ e0 b r h => F.run A outer s H args us vs Q E hr e0 b r h⟩
theorem FunS.okT {P : Program} {w : World} {K : PySem.W.Frag} {mg : Str → Option Value} {base : Heap} {x qual : Str} {st : Stmt} {rest : List Stmt} {f C : Addr} {fd : FuncData} {sv : Str} {N ps : List Str} {k : Nat} {sp : Sp} {e : Expr} {z : Str} {p0 p1 ap pos spos : Pos} {pl : Sem Bool}
    (F : FunS P K mg x qual st f fd C sv) (S : SupScope N ps (defScope st)) (T : OexC K C) (hb : defBody st = .Expr (.Call (.Attribute (.Call (.Name "super" p0) [] [] p1) "__init__" ap) [e] [] pos) spos :: rest) (hN : N[0]? = some sv) (hself : (defScope st).names.lookup sv = some .local)
    (len : ∀ vs H Q E, sp vs H Q E → vs.length = ps.length)
    (hE : ∀ (X : Cx), PE X e (tC (.str z)))
    (hi : ∀ L cd cc, interactive (PySem.W.ksEnv qual (defScope st) L f cd cc) = false)
    (hs : ∀ L cd cc, swapsWith (.Call (.Attribute (.Call (.Name "super" p0) [] [] p1) "__init__" ap) [e] [] pos) none spos.line (PySem.W.ksEnv qual (defScope st) L f cd cc) = pure false)
    (hst : ∀ L cd cc, starEach [e] (PySem.W.ksEnv qual (defScope st) L f cd cc) = (false, eval e (PySem.W.ksEnv qual (defScope st) L f cd cc)) :: starEach [] (PySem.W.ksEnv qual (defScope st) L f cd cc))
    (ht : ∀ L cd cc, eval (.Call (.Attribute (.Call (.Name "super" p0) [] [] p1) "__init__" ap) [e] [] pos) (PySem.W.ksEnv qual (defScope st) L f cd cc) = (do
      let ov ← attributeBase (.Call (.Name "super" p0) [] [] p1) "__init__" (PySem.W.ksEnv qual (defScope st) L f cd cc) (eval (.Call (.Name "super" p0) [] [] p1) (PySem.W.ksEnv qual (defScope st) L f cd cc))
      standAt ap.atName
      let (fm, first) ← holding [ov] (getMethod ov "__init__" pl)
      callWith pos fm first (backTo pos (starEach [e] (PySem.W.ksEnv qual (defScope st) L f cd cc))) (backToKw pos (keywordEach [] (PySem.W.ksEnv qual (defScope st) L f cd cc)))))
    (hbody : ∀ (cda cc : Addr) (A : Around) (outer : List Env) (s : Shared) (H : Hp) (vs : List V) (Q : VK) (E : XK), sp vs H Q E →
      ∃ a, vs[0]? = some (.ref a) ∧ H a = some (exo a C none) ∧ ∃ t, PSs (cxS false CX0 P w K mg base N qual (defScope st) f (.ref cda) cc A outer s H E) rest t ∧ t { nx := fun _ H' => Q .non H', rt := Q } (start N vs) H) :
    FnHt P w K mg base (k + 1) f fd ps sp :=
  ⟨len, fun A outer s H args us vs Q E hr e0 hbd r hsp => FunS.code false F S T hb hN hself len hE hi hs hst ht hbody A outer s H args us vs Q E hr.depth (fun z => nomatch z) e0 hbd r hsp⟩
/-! ### raise X(..) from n, in an except suite -/
def refFrom (b : Addr) (h : Heap) (a : Addr) : Heap := (h.update a (Obj.mapFields (·.setIfInBounds 3 (.ref b)))).update a (Obj.mapFields (·.setIfInBounds 4 (.bool true)))
theorem refFrom_at {b : Addr} {h : Heap} {a : Addr} {oe : Obj} {vs : Array Value} (ha : h.get? a = some oe) (hd : oe.data = .fields vs) :
    (refFrom b h a).get? a = some ((oe.mapFields (·.setIfInBounds 3 (.ref b))).mapFields (·.setIfInBounds 4 (.bool true))) ∧ ((oe.mapFields (·.setIfInBounds 3 (.ref b))).mapFields (·.setIfInBounds 4 (.bool true))).data = .fields ((vs.setIfInBounds 3 (.ref b)).setIfInBounds 4 (.bool true)) := by
  have hd3 := Obj.data_mapFields hd (·.setIfInBounds 3 (.ref b))
  have ha3 := Heap.get?_update_self (Obj.mapFields (·.setIfInBounds 3 (.ref b))) ha (Obj.isFreed_of_fields hd3)
  have hd4 := Obj.data_mapFields hd3 (·.setIfInBounds 4 (.bool true))
  exact ⟨Heap.get?_update_self (Obj.mapFields (·.setIfInBounds 4 (.bool true))) ha3 (Obj.isFreed_of_fields hd4), hd4⟩
theorem refFrom_other {c : Addr} {h : Heap} {a b : Addr} (hne : a ≠ b) : (refFrom c h a).get? b = h.get? b := by
  unfold refFrom
  rw [Heap.get?_update_other _ _ hne, Heap.get?_update_other _ _ hne]
theorem raise_made_hotF {prog : Program} {w : World} {A : Around} {E : Value → Shared → Prop} {env : Env} {s : Shared} {x c : Sem Value} {Q : Flow → Shared → Prop} {x1 b : Addr}
    (h : wpAny (model prog w) A x (fun v s₁ => ∃ a oe vs cls ob vb, v = .ref a ∧ s₁.heap.get? a = some oe ∧ oe.cls = cls ∧ oe.data = .fields vs ∧ vs[1]? = some .none ∧ 4 < vs.size ∧ x1 ≠ a ∧ HotAt A x1 s₁.heap ∧
      (∀ Q' : Value → Shared → Prop, Q' (.ref b) s₁ → wpAny (model prog w) A c Q' E s₁) ∧ s₁.heap.get? b = some ob ∧ ob.data = .fields vb ∧ PySem.W.Looks (model prog w) s₁.heap (isSubtype ob.cls (.type "BaseException")) true ∧
      PySem.W.Looks (model prog w) s₁.heap (isSubtype cls (.type "BaseException")) true ∧ PySem.W.Looks (model prog w) (refFrom b s₁.heap a) (typeOf cls) (.type "type") ∧
      E (.ref a) { s₁ with heap := (refFrom b s₁.heap a).update a (Obj.mapFields (·.setIfInBounds 2 (.ref x1))) }) E s) :
    wpAny (model prog w) A (raiseStmt env (some x) (some c)) Q E s := by
  unfold raiseStmt
  dsimp only
  refine wpAny_bind (wpAny_mono h (fun v s₁ h₁ => ?_) fun _ _ x => x)
  obtain ⟨a, oe, vs, cls, ob, vb, rfl, ha, hcls, hd, h1, hi, hne, hot, hcs, hbo, hbd, LB, L1, L3, hE⟩ := h₁
  have LT : PySem.W.Looks (model prog w) s₁.heap (typeOf (.ref a)) cls := fun A Q E s k q => wpAny_typeOf_ref (k _ _ ha) (by rw [hcls]; exact q)
  have LI : PySem.W.Looks (model prog w) s₁.heap (isInstance (.ref a) (.type "BaseException")) true := LT.andThen L1
  have LTb : PySem.W.Looks (model prog w) s₁.heap (typeOf (.ref b)) ob.cls := fun A Q E s k q => wpAny_typeOf_ref (k _ _ hbo) q
  have LIb : PySem.W.Looks (model prog w) s₁.heap (isInstance (.ref b) (.type "BaseException")) true := LTb.andThen LB
  have hnt : ∀ {Q' : Bool → Shared → Prop}, Q' false s₁ → wpAny (model prog w) A (isType (.ref a)) Q' E s₁ := by
    intro Q' hq
    simp only [isType, loadHead]
    refine wpAny_bind (wpAny_loadPart ha ?_)
    rw [hd]; exact wpAny_pure hq
  have hntb : ∀ {Q' : Bool → Shared → Prop}, Q' false s₁ → wpAny (model prog w) A (isType (.ref b)) Q' E s₁ := by
    intro Q' hq
    simp only [isType, loadHead]
    refine wpAny_bind (wpAny_loadPart hbo ?_)
    rw [hbd]; exact wpAny_pure hq
  have hd3 := Obj.data_mapFields hd (·.setIfInBounds 3 (.ref b))
  have ha3 := Heap.get?_update_self (Obj.mapFields (·.setIfInBounds 3 (.ref b))) ha (Obj.isFreed_of_fields hd3)
  obtain ⟨ha4, hd4⟩ := refFrom_at (b := b) ha hd
  have s3 : 3 < vs.size := by omega
  have s4 : 4 < (vs.setIfInBounds 3 (Value.ref b)).size := by rw [set_size]; exact hi
  have s2 : 2 < ((vs.setIfInBounds 3 (Value.ref b)).setIfInBounds 4 (Value.bool true)).size := by rw [set_size, set_size]; omega
  have h14 : ((vs.setIfInBounds 3 (Value.ref b)).setIfInBounds 4 (Value.bool true))[1]? = some Value.none := set_other (by decide) (set_other (by decide) h1)
  have hcls4 : ((oe.mapFields (·.setIfInBounds 3 (.ref b))).mapFields (·.setIfInBounds 4 (.bool true))).cls = cls := by rw [Obj.cls_mapFields, Obj.cls_mapFields]; exact hcls
  have LT4 : PySem.W.Looks (model prog w) (refFrom b s₁.heap a) (typeOf (.ref a)) cls := fun A Q E s k q => wpAny_typeOf_ref (k _ _ ha4) (by rw [hcls4]; exact q)
  have hnt4 : ∀ {Q' : Bool → Shared → Prop}, Q' false { s₁ with heap := refFrom b s₁.heap a } → wpAny (model prog w) A (isType (.ref a)) Q' E { s₁ with heap := refFrom b s₁.heap a } := by
    intro Q' hq
    simp only [isType, loadHead]
    refine wpAny_bind (wpAny_loadPart ha4 ?_)
    rw [hd4]; exact wpAny_pure hq
  have hot4 : HotAt A x1 (refFrom b s₁.heap a) := by
    obtain ⟨q1, o, vs', q2, q3, q4⟩ := hot
    exact ⟨q1, o, vs', by rw [refFrom_other (Ne.symm hne)]; exact q2, q3, q4⟩
  have rest : wpAny (model prog w) A (do
      let b ← isType (.ref a)
      if b = true then do
        let e ← holding [.ref a] (raisedFor (.ref a) (.ref a))
        setFlight e none
        raiseNew e
      else do
        let e ← raisedInstance (.ref a)
        setFlight e none
        raiseNew e : Sem Flow) Q E { s₁ with heap := refFrom b s₁.heap a } := by
    refine wpAny_bind (hnt4 ?_)
    simp only [Bool.false_eq_true, if_false]
    unfold raisedInstance
    refine wpAny_bind (wpAny_bind (LT4.here (wpAny_bind (L3.here ?_))))
    rw [if_pos (beq_self_eq_true _)]
    refine wpAny_pure ?_
    unfold setFlight
    refine wpAny_bind (wpAny_bind (wpAny_field ha4 hd4 h14 ?_))
    rw [if_neg (by decide)]
    refine wpAny_pure ?_
    exact raiseNew_hot hot4 hne ha4 hd4 s2 hE
  refine wpAny_bind (wpAny_holding (hcs _ (wpAny_bind (wpAny_pure ?_))))
  dsimp only
  refine wpAny_bind (wpAny_holding ?_)
  unfold excFromValue isExcClass
  refine wpAny_bind (wpAny_bind (hnt ?_))
  simp only [Bool.false_eq_true, if_false]
  refine wpAny_pure ?_
  simp only [Bool.false_eq_true, if_false]
  refine wpAny_bind (LI.here ?_)
  simp only [if_true]
  refine wpAny_pure ?_
  rw [if_neg (show ¬ ((Value.ref b == Value.none) = true) from by simp)]
  refine wpAny_bind (wpAny_holding ?_)
  refine wpAny_bind (wpAny_bind (hntb ?_))
  simp only [Bool.false_eq_true, if_false]
  refine wpAny_pure ?_
  simp only [Bool.false_eq_true, if_false]
  refine wpAny_bind (LIb.here ?_)
  simp only [if_true]
  refine wpAny_pure ?_
  refine wpAny_bind (wpAny_setField ha hd s3 (wpAny_bind (wpAny_setField ha3 hd3 s4 ?_)))
  exact rest
/-- raise X(..) from n, n the caught error -/
def tRaiseF (K : PySem.W.Frag) (b : Addr) (cls : Value) (i : Nat) (W : WX) (t : L2.St → Hp → XK → Prop) : TS := fun _ σ H => σ[i]? = some (some (.ref b)) ∧ (∃ C, cls = .ref C ∧ PySem.W.subIn K (.ref C) (.type "BaseException") = some true) ∧ t σ H fun cls d H' => W cls d σ H'
theorem ps_raiseHF {X : Cx} {W : WX} {e : Expr} {t : L2.St → Hp → XK → Prop} {i : Nat} {n : Str} {b : Addr} {ob : Obj} {cls : Value} {d : Option Addr} {np pos : Pos} (hp : (b, ob) ∈ X.pn) (hz : Zc cls d ob) (hf : ∃ vs, ob.data = .fields vs) (hc : HotC X) (tk : L2.Takes X W) (he : PMk5 X e t)
    (hi : X.N[i]? = some n) (hl : X.env.kindOf n = some .local) (hdb : (n == ("__debug__" : Str)) = false := by decide) :
    PS X (.Raise (some e) (some (.Name n np)) pos) (tRaiseF X.K b cls i W t) := by
  refine ⟨fun pins s σ H D I h => ?_⟩
  obtain ⟨hσ, ⟨C, rfl, hsub⟩, h⟩ := h
  obtain ⟨p, ⟨hh, v1, e1, c1⟩, hpn⟩ := hc
  obtain ⟨vb, hvb⟩ := hf
  show wpAny _ _ (do standAt pos; raiseStmt X.env (some (do let v ← eval e X.env; standAt pos; pure v)) (some (do let v ← eval (.Name n np) X.env; standAt pos; pure v))) _ _ _
  refine wpAny_bind (wpAny_standAt (raise_made_hotF (x1 := p.1) (b := b) (wpAny_bind (wpAny_mono (he pins s σ H _ I h) (fun u s1 hu => wpAny_bind (wpAny_standAt (wpAny_pure ?_))) fun _ _ x => x))))
  obtain ⟨⟨a, oe, vs, sI, H', cls, d', rfl, J, k, hne, ha, hz', hd, h1, na, os, ag, r, q⟩, h5⟩ := hu
  have hi5 : 4 < vs.size := h5 a oe vs rfl ha hd
  have k4 : ∀ c u, sI.heap.get? c = some u → (refFrom b s1.heap a).get? c = some u := fun c u z => by
    have nab : a ≠ c := fun y => by
      rw [← y, hne] at z
      cases z
    rw [refFrom_other nab]
    exact k c u z
  obtain ⟨r1, _⟩ := r (model X.prog X.w) s1.heap (J.kIn.keeps k)
  obtain ⟨_, r2⟩ := r (model X.prog X.w) (refFrom b s1.heap a) (J.kIn.keeps k4)
  have P1 := (J.pin p (List.mem_append_left _ hpn)).1
  have P2 := k _ _ (J.pin (b, ob) (List.mem_append_left _ hp)).1
  have nap : p.1 ≠ a := fun z => by
    rw [z, hne] at P1
    cases P1
  obtain ⟨ha4, hd4⟩ := refFrom_at (b := b) ha hd
  have h12 : (((vs.setIfInBounds 3 (Value.ref b)).setIfInBounds 4 (Value.bool true)).setIfInBounds 2 (Value.ref p.1))[1]? = some Value.none := set_other (by decide) (set_other (by decide) (set_other (by decide) h1))
  have cause : ∀ Q' : Value → Shared → Prop, Q' (.ref b) s1 → wpAny (model X.prog X.w) X.A (do let v ← eval (.Name n np) X.env; standAt pos; pure v) Q' X.xe s1 := fun Q' q' => by
    obtain ⟨m, hn, hlk⟩ := id J.loc
    obtain ⟨u, ru, lu⟩ := hlk i n _ hi hσ (.inl hl)
    obtain rfl : u = Value.ref b := ru
    have hm : m n = some (.ref b) := by
      rcases lu with ⟨_, e⟩ | ⟨z, _⟩
      · exact e
      · rcases z with z | z
        · have z : X.env.scope.names.lookup n = some .cell := z
          rw [show X.env.scope.names.lookup n = some .local from hl] at z; cases z
        · have z : X.env.scope.names.lookup n = some .free := z
          rw [show X.env.scope.names.lookup n = some .local from hl] at z; cases z
    exact wpAny_bind (wpAny_Name (wpAny_loadName_local J.ok.kind hl (hn.keeps k) hm (wpAny_bind (wpAny_standAt (wpAny_pure q')))) hdb)
  refine ⟨a, oe, vs, cls, ob, vb, rfl, ha, hz'.1, hd, h1, hi5, nap, ⟨hh, p.2, v1, k _ _ P1, e1, c1⟩, cause, P2, hvb, by rw [hz.1]; exact PySem.W.looks_subIn (J.kIn.keeps k) hsub, r1, r2, tk _ _ (XE.new J (fun c u z => ?_) hne (Heap.get?_update_self _ ha4 (Obj.isFreed_of_fields (Obj.data_mapFields hd4 _)))
    ⟨by rw [Obj.cls_mapFields, Obj.cls_mapFields, Obj.cls_mapFields]; exact hz'.1, by rw [HandSPX.dict_mapFields, HandSPX.dict_mapFields, HandSPX.dict_mapFields]; exact hz'.2.1⟩ (Obj.data_mapFields hd4 _) h12 na os ag q)⟩
  have nac : a ≠ c := fun y => by
    rw [← y, hne] at z
    cases z
  show ((refFrom b s1.heap a).update a (Obj.mapFields (·.setIfInBounds 2 (.ref p.1)))).get? c = some u
  rw [Heap.get?_update_other _ _ nac]
  exact k4 c u z
/-- the caught error's field, where it is pinned -/
theorem pe_xfP {X : Cx} {a : Addr} {oe : Obj} {cls : Value} {d : Option Addr} {e : Expr} {te : TE} {pos : Pos} {n : Str} (hp : (a, oe) ∈ X.pn) (hz : Zc cls d oe) (hf : ∃ vs, oe.data = .fields vs) (he : PE X e te) (hb : attributeBase e n X.env (eval e X.env) = eval e X.env := by rfl) :
    PE X (.Attribute e n pos) (tXfX X.K a cls d n te) := by
  refine ⟨fun pins s σ H Q I h => ?_⟩
  refine attr_of hb (thn (he.run pins s σ H _ I h) fun u s1 hh => ?_)
  obtain ⟨x, H1, I1, rx, ex, C, ec, T, hno, dd, fs, v, ed, ea, l, q⟩ := hh
  subst ex
  obtain rfl : u = Value.ref a := rx
  subst ec
  subst ed
  obtain ⟨ha, _⟩ := I1.pin (a, oe) (List.mem_append_left _ hp)
  obtain ⟨vs, hd⟩ := hf
  have hx : ObjOk X.prog X.w H1 s1.heap dd (.xd fs) := I1.hok dd _ ea
  obtain ⟨mA, hns, hr⟩ := hx
  obtain ⟨od, ho, hl⟩ := lookIn_ns hns
  obtain ⟨u, hu, ru⟩ := RelO.some_of (v := v) (o := mA n) (by rw [← l]; exact hr n)
  have J : PySem.W.InstAt s1.heap a oe C (some od) := ⟨ha, hz.1, by unfold PySem.W.notCls; rw [hd] <;> rfl, by rw [hz.2]; exact ho⟩
  exact HandSPX.exc_get I1.kIn J T.ga T.gg T.exC (PySem.W.findObj_own T.hdC hno rfl (by rw [hl, hu])) (handed_of ru) ⟨v, H1, I1.tok _, ru, q⟩
/-! ### try: .. except x as n: a suite that raises -/
/-- the context of such a suite -/
abbrev suiteY (X : Cx) (a : Addr) (pn : List (Addr × Obj)) (xe : Value → Shared → Prop) : Cx := (suiteX X a pn).wish xe
section
variable {X : Cx} {pins : List (Addr × Obj)} {σ : L2.St} {H : Hp} {s : Shared} {i : Nat} {n : Str}
/-- the name n is gone: the state, where all else stays -/
theorem inv_gone {G : Heap} {v0 : Option Value} {m : Str → Option Value} (I : Inv X pins σ H s) (hN : X.N.Nodup) (hi : X.N[i]? = some n) (hlk : ∀ (j : Nat) (y : Str) (v : V), X.N[j]? = some y → σ[j]? = some (some v) → Vis X.env.scope y → ∃ u, RelV v u ∧ Look X.env s.heap m y u)
    (hn' : G.Ns X.env.locals (fun x => if x = n then v0 else m x)) (hs : Heap.SameBut X.env.locals s.heap G) : Inv X pins (σ.set i none) H { s with heap := G } := by
  have neL : ∀ b o, X.s_0.heap.get? b = some o → b ≠ X.env.locals := fun b o e => Nat.ne_of_lt (Nat.lt_of_lt_of_le (Heap.lt_size e) I.ok.above)
  refine ⟨I.ok, I.os, I.bare, ⟨fun b o e n hb hx => ?_, fun b o e n hb hx => ?_, I.base.free, fun b o e hx => ?_, I.base.tups, I.base.frzs, I.base.tbls⟩, ⟨_, hn', fun j y v' e1 e2 e3 => ?_⟩, fun y c e => ?_, I.free, I.freeC, fun p hp => ?_, fun b ob e => ?_, by simpa using I.len⟩
  · exact (hs.2 b (neL b o e)).trans (I.base.keep b o e n hb hx)
  · obtain ⟨sl, e1⟩ := I.base.slot b o e n hb hx
    exact ⟨sl, (hs.2 b (neL b o e)).trans e1⟩
  · obtain ⟨o', e1⟩ := I.base.there b o e hx
    exact ⟨o', (hs.2 b (neL b o e)).trans e1⟩
  · by_cases hj : j = i
    · subst hj
      by_cases hlt : j < σ.length
      · rw [List.getElem?_set_self hlt] at e2; cases e2
      · rw [List.getElem?_eq_none (by simpa using hlt)] at e2; cases e2
    · rw [List.getElem?_set_ne (Ne.symm hj)] at e2
      obtain ⟨u', r', q⟩ := hlk j y v' e1 e2 e3
      refine ⟨u', r', ?_⟩
      rcases q with ⟨k, e⟩ | ⟨k, c, e, z⟩
      · have ny : y ≠ n := fun e => hj (nodup_ix hN e1 (e ▸ hi))
        exact .inl ⟨k, (if_neg ny).trans e⟩
      · exact .inr ⟨k, c, e, z.sameBut hs (I.cne y c e)⟩
  · obtain ⟨w', z⟩ := I.cell y c e
    exact ⟨w', z.sameBut hs (I.cne y c e)⟩
  · obtain ⟨e, n, ne, nf, d⟩ := I.pin p hp
    exact ⟨(hs.2 p.1 ne).trans e, n, ne, nf, d⟩
  · refine (I.hok b ob e).stay (fun c w' hc q => (hs.2 c ?_).trans q) (fun _ q => q) fun _ _ q => q
    intro z
    subst z
    rcases hc with hc | hc
    · rw [← hc, I.free] at e; cases e
    · rw [I.free] at hc; cases hc
end
theorem funFrames_sameBut {h1 h2 B : Heap} {L : Addr} {o2 : Obj} (hs : Heap.SameBut L h1 h2) (e2 : h2.get? L = some o2) (hd : ∀ vs, o2.data ≠ .fields vs) : ∀ {l : List Env}, h1.FunFrames B l → h2.FunFrames B l
  | [], _ => trivial
  | env :: rest, hl => by
    obtain ⟨k, ⟨L', o, f1, f2, f3, f4⟩, r⟩ := hl
    refine ⟨k, ⟨L', ?_⟩, funFrames_sameBut hs e2 hd r⟩
    by_cases z : L' = L
    · subst z
      exact ⟨o2, f1, f2, e2, hd⟩
    · exact ⟨o, f1, f2, (hs.2 L' z).trans f3, f4⟩
theorem gone_raise {X : Cx} {W : WX} {i : Nat} {n : Str} {A : Around} {Ex Ey Ez : Value → Shared → Prop} {pos : Pos} {what : String} {u : Value} {s : Shared}
    (hs : X.stack = X.env :: X.outer) (hf : X.env.frame = some X.env.locals) (hN : X.N.Nodup) (hi : X.N[i]? = some n) (hl : X.env.kindOf n = some .local) (hA : A.frames = some (X.env :: X.outer)) (x : L2.XE X W u s)
    (K : ∀ s', L2.XE X (fun cls d σ H => ∃ σ0 : L2.St, σ = σ0.set i none ∧ W cls d σ0 H) u s' → Ex u s') :
    wpAny (model X.prog X.w) A (noteFrame u X.env) (fun _ s1 => wpAny (model X.prog X.w) A (do bindName X.env n .none; unbindBehindTheSuite X.env n pos) (fun _ s2 => wpAny (model X.prog X.w) A (passOn what u X.env : Sem Flow) (fun _ _ => False) Ex s2) Ey s1) Ez s := by
  obtain ⟨a, B, sI, pins, σ, H, cls, d, rfl, I, nb, up, sky, na, os, ag, w⟩ := x
  rw [hs] at sky
  have fin : ∀ h1, HandSPX.HeldZ B (X.env :: X.outer) a (Zc cls d) X.env.locals h1 → s.heap.UpToSlots h1 → wpAny (model X.prog X.w) A (do bindName X.env n .none; unbindBehindTheSuite X.env n pos) (fun _ s2 => wpAny (model X.prog X.w) A (passOn what (.ref a) X.env : Sem Flow) (fun _ _ => False) Ex s2) Ey { s with heap := h1 } := by
    intro h1 hh up1
    obtain ⟨m, hn, hlk⟩ := id I.loc
    obtain ⟨oL, es, ep, hoL, hdL, hkL, hmL⟩ := id hn
    have nfL : ∀ vs, oL.data ≠ .fields vs := fun vs z => by rw [hdL] at z; cases z
    obtain ⟨sl, e1⟩ := (up.trans up1) _ _ hoL nfL
    have hn1 : h1.Ns X.env.locals m := ⟨_, es, ep, e1, hdL, hkL, hmL⟩
    have hcls : (X.env.scope.kind == .class || (X.env.scope.kind == .module && X.env.locals != X.env.globals)) = false := by rw [I.ok.kind]; rfl
    refine wpAny_nameGoes_keeps (s := { s with heap := h1 }) hl hn1 hcls fun h2 v hn2 hs2 => ?_
    obtain ⟨o2, es2, ep2, ho2, hd2, r2⟩ := id hn2
    have nf2 : ∀ vs, o2.data ≠ .fields vs := fun vs z => by rw [hd2] at z; cases z
    have gs : Heap.SameBut X.env.locals sI.heap (sI.heap.update X.env.locals fun _ => o2) := Heap.SameBut.update ..
    have gL : (sI.heap.update X.env.locals fun _ => o2).get? X.env.locals = some o2 := Heap.get?_update_self (fun _ => o2) hoL (Obj.isFreed_of_dict hd2)
    have I2 := inv_gone I hN hi hlk (G := sI.heap.update X.env.locals fun _ => o2) (v0 := v) ⟨o2, es2, ep2, gL, hd2, r2⟩ gs
    obtain ⟨k1, k2, k3, oe, vs, T, oT, ts, he, hz, hd, hv1, hnT, hTe, hT, hdT, h3⟩ := hh
    have naL : a ≠ X.env.locals := fun z => by rw [z, e1] at he; injection he with he; rw [← he] at hd; exact nfL vs hd
    have nTL : T ≠ X.env.locals := fun z => by rw [z, e1] at hT; injection hT with hT; rw [← hT] at hdT; exact nfL ts hdT
    have BL : B.get? X.env.locals = none := by
      obtain ⟨_, ⟨L', o, f1, f2, _, _⟩, _⟩ := id k3
      rw [hf] at f1; injection f1 with f1; rw [f1]; exact f2
    have b1 : B.StaysIn h2 := fun b o e => (hs2.2 b fun z => by rw [z, BL] at e; cases e).trans (k1 b o e)
    have b3 := funFrames_sameBut hs2 ho2 nf2 k3
    have b4 : HandSPX.TracedZ h2 B a (Zc cls d) (rawInt X.env.locals) := ⟨oe, vs, T, oT, ts, (hs2.2 a naL).trans he, hz, hd, hv1, hnT, hTe, (hs2.2 T nTL).trans hT, hdT, h3⟩
    unfold PySem.passOn
    refine wpAny_bind (wpAny_field ((hs2.2 a naL).trans he) hd hv1 ?_)
    rw [if_neg (show ¬ ((Value.ref T == Value.none) = true) from by simp)]
    have nbG : ∀ b o, (sI.heap.update X.env.locals fun _ => o2).get? b = some o → b ∉ frs X.stack → B.get? b = some o := fun b o e hb => by
      refine nb b o ?_ hb
      rw [← gs.2 b fun z => hb (by rw [z, hs]; exact List.mem_filterMap.mpr ⟨X.env, List.mem_cons_self, hf⟩)]
      exact e
    have upG : ∀ h4, h2.UpToSlots h4 → (sI.heap.update X.env.locals fun _ => o2).UpToSlots h4 := fun h4 u4 b o e nfo => by
      by_cases z : b = X.env.locals
      · rw [z, gL] at e
        injection e with e
        subst e
        rw [z]
        exact u4 _ _ ho2 nf2
      · rw [gs.2 b z] at e
        obtain ⟨sl5, e5⟩ := (up.trans up1) b o e nfo
        obtain ⟨sl6, e6⟩ := u4 b _ ((hs2.2 b z).trans e5) nfo
        exact ⟨sl6, e6⟩
    have fin2 : wpAny (model X.prog X.w) A (setFlight (.ref a) X.env.frame) (fun _ s4 => wpAny (model X.prog X.w) A (throw (.ref a) : Sem Flow) (fun _ _ => False) Ex s4) Ex { s with heap := h2, toks := s.toks + 1 } := by
      rw [hf]
      refine HandSPX.setFlight_anyZ (s := { s with heap := h2, toks := s.toks + 1 }) b1 b3 b4 fun h4 c1 c2 c3 c4 => wpAny_throw (K _ ?_)
      exact ⟨a, B, { sI with heap := sI.heap.update X.env.locals fun _ => o2 }, pins, σ.set i none, H, cls, d, rfl, I2, nbG, upG h4 c4, .inr (.inr (by rw [hs]; exact ⟨c1, k2, c2, c3⟩)), na, os, ag, σ, rfl, w⟩
    first
      | exact wpAny_bind (wpAny_pure (wpAny_bind fin2))
      | exact wpAny_bind fin2
  rcases sky with ⟨hB, hn, hl', oe, vs, he, hz, hd, h1⟩ | fl | hh
  · exact HandSPX.look_newZ Zc.steady hA hl' hf he hB hn hd h1 hz fin
  · exact HandSPX.looks_onZ Zc.steady hA hf fl fin
  · exact HandSPX.againZ hf hh.2.2.2 (fin s.heap hh (Heap.UpToSlots.refl _))
def tTryR (K : PySem.W.Frag) (c : Value) (i : Nat) (ts : Addr → Value → Option Addr → TS) (Wout : WX) (tb : WX → TS) : TS := fun D σ H => tb (wAs K c i ts Wout D) D σ H
section
variable {X : Cx} {x n : Str} {c : Value} {i : Nat} {body suite : List Stmt} {b₀ : Stmt} {np pos pos' : Pos} {tb : WX → TS} {ts : Addr → Value → Option Addr → TS} {Wout : WX}
theorem ps_tryR (hs : X.stack = X.env :: X.outer) (hf : X.env.frame = some X.env.locals) (hN : X.N.Nodup) (hi : X.N[i]? = some n) (hln : X.env.kindOf n = some .local) (hc : Names X x c) (hpa : ∀ hd : Option Value, PassesOwnAt (model X.prog X.w) (X.A.mark hd) X.A X.env X.xe) (tk : L2.Takes X Wout)
    (hb : ∀ (W : WX) (pn : List (Addr × Obj)) (xe : Value → Shared → Prop), L2N.Takes (X.tr pn xe) W → PassesOwn (model X.prog X.w) X.A X.env xe → PSs (X.tr pn xe) body (tb W))
    (hsu : ∀ (a : Addr) (oe : Obj) (cls : Value) (d : Option Addr) (pn : List (Addr × Obj)) (xe : Value → Shared → Prop), L2N.Zn cls d oe → (∃ vs, oe.data = .fields vs) → L2.Takes (suiteY X a ((a, oe) :: pn) xe) (fun cls d σ H => Wout cls d (σ.set i none) H) → HotC (suiteY X a ((a, oe) :: pn) xe) →
      PSs (suiteY X a ((a, oe) :: pn) xe) (b₀ :: suite) (ts a cls d)) :
    PS X (.Try body [.ExceptHandler (some (.Name x np)) (some n) (b₀ :: suite) pos'] [] [] pos) (tTryR X.K c i ts Wout tb) := by
  refine ⟨fun pins s σ H D I h => ?_⟩
  have ok := I.ok
  have hfr : X.A.frames = some (X.env :: X.outer) := by rw [ok.frames, hs]
  have hloc : Loc X.env.scope n := .inl hln
  refine wpAny_Try_except ?_
  refine wpAny_mono ((hb (wAs X.K c i ts Wout D) (X.pn ++ pins) (fun e s₁ => wpAny (model X.prog X.w) X.A (noteFrame e X.env) (fun _ s₂ => wpAny (model X.prog X.w) X.A (setFlight e none) (fun _ s₃ =>
    wpAny (model X.prog X.w) X.A (handleBy e X.env [.ExceptHandler (some (.Name x np)) (some n) (b₀ :: suite) pos']) (SP X pins D) X.xe s₃) X.xe s₂) X.xe s₁) (fun u s' xx => ?_) PassesOwn.looking).run [] s σ H D (I.toTry _) h) (fun f s1 hsp => ?_) (fun e s1 he => he)
  · obtain ⟨a, B, sI, pins', σ', H', cls, d, rfl, J', nb, up, sky, na, os, ag, b, hb1, hyes, hno⟩ := xx
    have J : Inv X pins σ' H' sI := J'.ofTry ok
    have sky' : Sky B (X.env :: X.outer) a (L2N.Zn cls d) X.env.locals s'.heap := by rw [← hs]; exact sky
    show wpAny (model X.prog X.w) X.A (noteFrame (.ref a) X.env) _ _ _
    refine L2N.Sky.land L2N.Zn.steady hfr hf sky' fun h3 fl3 up3 => ?_
    have J3 : Inv X pins σ' H' { s' with heap := h3 } := J.landed nb fl3.1 (up.trans up3) os ag
    obtain ⟨oe3, vs3, he3, hz3, hd3⟩ := fl3.there
    have notFr : ∀ {h : Heap} {o : Obj} {vs : Array Value}, h.FunFrames B (X.env :: X.outer) → h.get? a = some o → o.data = .fields vs → a ∉ frs (X.env :: X.outer) := fun {h o vs} ff e dd hm => by
      obtain ⟨_, o', e', hnf⟩ := ff.mem hm
      rw [e] at e'; cases e'
      exact hnf _ dd
    have nfr := notFr fl3.2.2.1 he3 hd3
    have nL : a ≠ X.env.locals := fun z => nfr (List.mem_filterMap.mpr ⟨X.env, List.mem_cons_self, by rw [hf, z]⟩)
    have nF : a ∉ X.fs := fun hm => by
      obtain ⟨e, he, q⟩ := List.mem_filterMap.mp hm
      exact nfr (List.mem_filterMap.mpr ⟨e, List.mem_cons_of_mem _ he, q⟩)
    have S3 := J3.suite he3 hd3 na nL nF
    refine wpAny_handleBy_cons (codeAny_handlers_test ?_) (by intro q; cases q)
    have LT : PySem.W.Looks (model X.prog X.w) h3 (typeOf (.ref a)) cls := fun A Q E s k q => wpAny_typeOf_ref (k _ _ he3) (by rw [hz3.1]; exact q)
    have LM := PySem.W.exm_one (M := model X.prog X.w) (J3.kIn) LT hb1
    have test : ∀ {Q : Value → Shared → Prop} {E : Value → Shared → Prop}, Q c { s' with heap := h3 } → wpAny (model X.prog X.w) (X.A.mark (some (.ref a))) (eval (.Name x np) X.env) Q E { s' with heap := h3 } := fun {Q E} q => by
      obtain ⟨hg, hdbg, hm | ⟨hm, hv, hnn⟩⟩ := hc
      · exact ld_glob (X := X.suite a ((a, oe3) :: (X.pn ++ pins))) S3 hg hm q hdbg
      · exact ld_blt (X := X.suite a ((a, oe3) :: (X.pn ++ pins))) S3 hg hm hv q hnn hdbg
    refine test (LM.here ?_)
    cases b with
    | true =>
      refine codeAny_handlers_suite_as ?_
      refine HandSPX.lands_againZ fl3 fun h4 fl4 up4 => ?_
      have J4 : Inv X pins σ' H' { s' with heap := h4 } := J.landed nb fl4.1 ((up.trans up3).trans up4) os ag
      obtain ⟨oe4, vs4, he4, hz4, hd4⟩ := fl4.there
      have S4 := J4.suite he4 hd4 na nL nF
      refine store_ok (X := X.suite a ((a, oe4) :: (X.pn ++ pins))) (v := .ref a) S4 hN hi hloc rfl (fun s5 S5 => ?_) (.inr hln)
      have run : ∀ E' : Value → Shared → Prop, (∀ u s3, L2.XE (suiteY X a ((a, oe4) :: (X.pn ++ pins)) E') (fun cls d σ H => Wout cls d (σ.set i none) H) u s3 → E' u s3) → wpAny (model X.prog X.w) (X.A.mark (some (.ref a))) (execs (b₀ :: suite) X.env) (fun f s6 => ∃ xe, SP (suiteY X a ((a, oe4) :: (X.pn ++ pins)) xe) [] _ f s6) E' s5 := fun E' tkE =>
        wpAny_mono ((hsu a oe4 cls d (X.pn ++ pins) E' hz4 ⟨_, hd4⟩ tkE ⟨(a, oe4), ⟨rfl, vs4, hd4, hz4.2.2 vs4 hd4⟩, List.mem_cons_self⟩).run [] s5 _ H' _ ((suiteX_of S5).wish _) (hyes rfl a na)) (fun f s6 hsp => ⟨E', hsp⟩) (fun _ _ z => z)
      refine wpAny_mono (run _ fun u2 s2 x2 => ?tk) (fun f s6 hsp => ?_) (fun _ _ z => z)
      case tk =>
        refine gone_raise (X := suiteY X a ((a, oe4) :: (X.pn ++ pins)) _) hs hf hN hi hln hfr x2 fun s3 x3 => ?_
        obtain ⟨a2, B2, sI2, pn2, σ2, H2, cls2, d2, e2, I2, nb2, up2, sky2, na2, os2, ag2, σ0, rfl, w2⟩ := x3
        exact hpa (some (.ref a)) _ _ (tk _ _ ⟨a2, B2, sI2, pins, σ0.set i none, H2, cls2, d2, e2, unsuiteX (Inv.unwish I2) ok, nb2, up2, sky2, na2, os2, ag2, w2⟩)
      obtain ⟨xe, hsp⟩ := hsp
      have end_ : ∀ {xe : Value → Shared → Prop} {σ6 : L2.St} {H6 : Hp} {E6 : Value → Shared → Prop} {Q : Shared → Prop}, Inv (suiteY X a ((a, oe4) :: (X.pn ++ pins)) xe) [] σ6 H6 s6 → (∀ s7, Inv X pins (σ6.set i none) H6 s7 → Q s7) →
          wpAny (model X.prog X.w) X.A (do bindName X.env n .none; unbindBehindTheSuite X.env n pos') (fun _ s7 => Q s7) E6 s6 := fun {xe σ6 H6 E6 Q} S6 hq => gone_ok (unsuiteX (Inv.unwish S6) ok) hN hi hln hq
      cases f with
      | next =>
        obtain ⟨σ6, H6, S6, q6⟩ := hsp
        exact end_ S6 fun s7 J7 => ⟨_, _, J7, q6⟩
      | brk =>
        obtain ⟨σ6, H6, S6, q6⟩ := hsp
        exact end_ S6 fun s7 J7 => ⟨_, _, J7, q6⟩
      | cont =>
        obtain ⟨σ6, H6, S6, q6⟩ := hsp
        exact end_ S6 fun s7 J7 => ⟨_, _, J7, q6⟩
      | ret u =>
        obtain ⟨v6, σ6, H6, S6, r6, q6⟩ := hsp
        exact end_ S6 fun s7 J7 => ⟨_, _, _, J7, r6, q6⟩
    | false =>
      show wpAny _ X.A (handleBy (.ref a) X.env []) _ _ _
      refine wpAny_handleBy_nil ?_
      have fl3' := flyingZ_imp (fun o z => L2N.Zn.zc z) fl3
      obtain ⟨k1, k2, k3, oe, vs, T, oT, ts', he, hz, hd, h1, hr⟩ := id fl3'
      unfold PySem.passOn
      refine wpAny_bind (wpAny_field he hd h1 ?_)
      rw [if_neg (show ¬ ((Value.ref T == Value.none) = true) from by simp)]
      have fin : wpAny (model X.prog X.w) X.A (setFlight (.ref a) X.env.frame) (fun _ s4 => wpAny (model X.prog X.w) X.A (throw (.ref a) : Sem Flow) (SP X pins D) X.xe s4) X.xe { s' with heap := h3 } := by
        rw [hf]
        refine HandSPX.setFlight_upZ fl3' fun h4 hh4 up4 => wpAny_throw (tk _ _ ?_)
        exact ⟨a, B, sI, pins, σ', H', cls, d, rfl, J, nb, (up.trans up3).trans up4, .inr (.inr (by rw [hs]; exact hh4)), na, os, ag, hno rfl⟩
      first
        | exact wpAny_bind (wpAny_pure (wpAny_bind fin))
        | exact wpAny_bind fin
  · cases f with
    | next =>
      obtain ⟨σ', H', J', q⟩ := hsp
      exact wpAny_execs_nil ⟨σ', H', J'.ofTry ok, q⟩
    | brk =>
      obtain ⟨σ', H', J', q⟩ := hsp
      exact ⟨σ', H', J'.ofTry ok, q⟩
    | cont =>
      obtain ⟨σ', H', J', q⟩ := hsp
      exact ⟨σ', H', J'.ofTry ok, q⟩
    | ret u =>
      obtain ⟨v, σ', H', J', r, q⟩ := hsp
      exact ⟨v, σ', H', J'.ofTry ok, r, q⟩
end
/-! ### C(a, .., *y) -/
section
variable {X : Cx} {CX : CXT} {k : Nat} {f C : Addr} {sp : Sp} {E : L2.St → XK} {x : Str} {e : Expr} {es : List Expr} {t : TA} {p pos : Pos}
theorem pe_makeVS (M : Mk X.K C f) (F : FnR X.prog X.w X.K X.mg X.base CX k f sp) (hr : Room (k + 1) X.A) (hg : Gl X x) (hm : X.mg x = some (.ref C)) (hx : ∀ σ, PassesAt CX X σ (E σ))
    (ha : PA X (e :: es) t) (hdb : (x == ("__debug__" : Str)) = false := by decide) (he : starEach (e :: es) X.env = (false, eval e X.env) :: starEach es X.env := by rfl) (hst : (backTo pos (starEach es X.env)).any (·.1) = true := by rfl) :
    PE X (.Call (.Name x p) (e :: es) [] pos) (tMakeS C sp E t) := by
  refine ⟨fun pins s σ H Q I h => ?_⟩
  refine wpAny_Call_Name_kw (ld_glob I hg hm ?_ hdb)
  refine PySem.W.callWith_S2 (h₀ := X.base) I.ok.mod.kin M.kp (thn (ha.run pos pins s σ H _ I h) fun us s1 ⟨vs, H1, I1, r, q⟩ => ⟨I1.kIn, ?_⟩) he hst
  exact run_makeV M F hr (hx σ) I1 r q
end
theorem go_star {K : PySem.W.Frag} {te : TE} {t : TA} {σ : L2.St} {H : Hp} {Q : List V → Hp → Prop} (h : te σ H fun x H1 => ∃ p xs, x = V.ref p ∧ (SqT K H1 p xs ∨ SqL K H1 p xs) ∧ t σ H1 fun ys H2 => Q (xs ++ ys) H2) : StX.tStar K te t σ H Q := h
theorem go_tryR {K : PySem.W.Frag} {c : Value} {i : Nat} {tb : WX → TS} {ts : Addr → Value → Option Addr → TS} {Wout : WX} {D : Ends} {σ : L2.St} {H : Hp} (h : tb (wAs K c i ts Wout D) D σ H) : tTryR K c i ts Wout tb D σ H := h
theorem go_raiseF {K : PySem.W.Frag} {b C : Addr} {i : Nat} {W : WX} {t : L2.St → Hp → XK → Prop} {D : Ends} {σ : L2.St} {H : Hp} (hσ : σ[i]? = some (some (.ref b))) (hC : PySem.W.subIn K (.ref C) (.type "BaseException") = some true) (h : t σ H fun cls d H' => W cls d σ H') : tRaiseF K b (.ref C) i W t D σ H := ⟨hσ, ⟨C, rfl, hC⟩, h⟩
/-! ### where a try's body or suite must not be named -/
theorem pa_starK {X : Cx} {K : PySem.W.Frag} {e : Expr} {es : List Expr} {te : TE} {t : TA} {p : Pos} (h : X.K = K) (he : PE X e te) (hr : PA X es t) (hs : starEach (.Starred e p :: es) X.env = (true, eval e X.env) :: starEach es X.env) : PA X (.Starred e p :: es) (StX.tStar K te t) := h ▸ StX.pa_star he hr hs
theorem pe_xfPK {X : Cx} {K : PySem.W.Frag} {a : Addr} {oe : Obj} {cls : Value} {d : Option Addr} {e : Expr} {te : TE} {pos : Pos} {n : Str} (h : X.K = K) (hp : (a, oe) ∈ X.pn) (hz : Zc cls d oe) (hf : ∃ vs, oe.data = .fields vs) (he : PE X e te) (hb : attributeBase e n X.env (eval e X.env) = eval e X.env := by rfl) :
    PE X (.Attribute e n pos) (tXfX K a cls d n te) := h ▸ pe_xfP hp hz hf he hb
theorem ps_raiseHFK {X : Cx} {K : PySem.W.Frag} {W : WX} {e : Expr} {t : L2.St → Hp → XK → Prop} {i : Nat} {n : Str} {b : Addr} {ob : Obj} {cls : Value} {d : Option Addr} {np pos : Pos} (h : X.K = K) (hp : (b, ob) ∈ X.pn) (hz : Zc cls d ob) (hf : ∃ vs, ob.data = .fields vs) (hc : HotC X) (tk : L2.Takes X W) (he : PMk5 X e t)
    (hi : X.N[i]? = some n) (hl : X.env.kindOf n = some .local) (hdb : (n == ("__debug__" : Str)) = false := by decide) :
    PS X (.Raise (some e) (some (.Name n np)) pos) (tRaiseF K b cls i W t) := h ▸ ps_raiseHF hp hz hf hc tk he hi hl hdb
end Vc

/-! Xe: enumerate over a tuple; a test a op b op c op d (my own; ways of HandS.Iter's enumerate, PyProof.EnumMake, HandS.Call's chains). -/
namespace Vc
open PySem PySem.Spec PyProof.Rows L2
theorem meets_enumerate_newT (l : Addr) (items : Array Value) (n : Nat) (dct : Option Addr) (sl : Array (Option Value)) :
    Meets (Builtin.«enumerate.__new__» ⟨[.type "enumerate", .ref l], []⟩) (fun _ R s => s.heap.get? l = some { cls := .type "tuple", dict := dct, data := .seq items n, slots := sl } ∧
      R (.ok (.ret (.ref (s.heap.push { cls := .type "tuple_iterator", data := .fields #[.ref l, .int 0 0] }).objs.size)))
        { s with heap := (s.heap.push { cls := .type "tuple_iterator", data := .fields #[.ref l, .int 0 0] }).push { cls := .type "enumerate", data := .fields #[.none, .bool false, .ref s.heap.objs.size, rawInt 0, .none, .none] } }) :=
  .of_wp fun prog w A R s h => by
    obtain ⟨hp, g, d, tk, os⟩ := s; obtain ⟨hl, h⟩ := h
    have hsub := sub_enumerate
    have hL : Heap.IsTuple (Shared.heap ⟨hp, g, d, tk, os⟩) l items := ⟨_, hl, rfl, n, rfl⟩
    wp_walk using PySem.AutoSeq1.wpAny_loadPart' hl
    refine wpAny_stack_any fun st => wpAny_pure ?_
    split
    · rename_i c _ _ _ _ _
      cases (c == Value.type "enumerate")
      · wp_walk using PySem.AutoSeq1.wpAny_loadPart' hl, wpAny_pyIter_tuple hL
        exact ⟨_, rfl, h⟩
      · wp_walk using PySem.AutoSeq1.wpAny_loadPart' hl, wpAny_pyIter_tuple hL
        exact ⟨_, rfl, h⟩
    · wp_walk using PySem.AutoSeq1.wpAny_loadPart' hl, wpAny_pyIter_tuple hL
      exact ⟨_, rfl, h⟩
theorem call_enumerate_tuple {prog : Program} {w : World} {A : Around} {E : Value → Shared → Prop} {s : Shared} {l : Addr} {items : Array Value} {Q : Value → Shared → Prop} (hL : s.heap.IsTuple l items)
    (h : ∀ h', IsEnum h' (s.heap.objs.size + 1) s.heap.objs.size 0 .none → h'.IsTupleIter s.heap.objs.size l 0 → h'.objs.size = s.heap.objs.size + 2 →
      (∀ b o, s.heap.get? b = some o → h'.get? b = some o) → Q (.ref (s.heap.objs.size + 1)) { s with heap := h' }) :
    wpAny (model prog w) A (call (.type "enumerate") [.ref l]) Q E s := by
  obtain ⟨⟨c, dct, dt, sl⟩, hl, hc, n, hd⟩ := hL
  replace hc : c = .type "tuple" := hc
  replace hd : dt = .seq items n := hd
  subst hc hd
  refine callType_new F.called_enumerate (by decide) (F.typeCall_enumerate_1 _) (F.newCall_enumerate_1 _) (fun obj => F.args_object_init_2 obj _) F.entry_enumerate_new
    (meets_enumerate_newT l items n dct sl) ⟨hl, ?_⟩
  have hz : (s.heap.push { cls := .type "tuple_iterator", data := .fields #[.ref l, .int 0 0] }).objs.size = s.heap.objs.size + 1 := Heap.size_push ..
  show _ ∧ _
  rw [hz]
  have he : IsEnum ((s.heap.push { cls := .type "tuple_iterator", data := .fields #[.ref l, .int 0 0] }).push
      { cls := .type "enumerate", data := .fields #[.none, .bool false, .ref s.heap.objs.size, rawInt 0, .none, .none] }) (s.heap.objs.size + 1) s.heap.objs.size 0 .none := by
    have := Heap.get?_push_size (s.heap.push { cls := .type "tuple_iterator", data := .fields #[.ref l, .int 0 0] })
      (o := { cls := .type "enumerate", data := .fields #[.none, .bool false, .ref s.heap.objs.size, rawInt 0, .none, .none] }) rfl
    rw [hz] at this; exact this
  refine ⟨⟨_, he, rfl⟩, h _ he ⟨_, Heap.get?_push_of_some _ (Heap.get?_push_size _ rfl), rfl, rfl⟩ (by rw [Heap.size_push, hz]) fun b o x => Heap.get?_push_of_some _ (Heap.get?_push_of_some _ x)⟩
/-- the tuple at a, each item in a new pair -/
def IteT (K : PySem.W.Frag) (a : Addr) : It :=
  ⟨fun i H => ∃ (xs : List V) (x : V), SqT K H a xs ∧ xs[i]? = some x, fun i H v H' => ∃ T x, v = .ref T ∧ H T = none ∧ H' = upd H T (.tup [.int (i : Nat), x]) ∧ ∀ xs, SqT K H a xs → xs[i]? = some x, fun i H => ∃ xs : List V, SqT K H a xs ∧ xs.length ≤ i⟩
theorem turn_enumT {P : Program} {w : World} {K : PySem.W.Frag} {elts : List Expr} {kk : Nat} {tpos : Pos} (a e it : Addr) :
    Turn P w K (.Tuple elts kk tpos) (IteT K a) [e, it] e (fun i h => (∃ old, IsEnum h e it ((i : Nat) : Int) old) ∧ h.IsTupleIter it a i ∧ e ≠ it ∧ a ≠ it ∧ a ≠ e) where
  mem := by simp
  obj := fun i h st b hb => by
    obtain ⟨⟨old, he⟩, ⟨o, ho, hc, hd⟩, _⟩ := st
    have e' : b = e ∨ b = it := by simpa using hb
    rcases e' with z | z
    · rw [z]; exact ⟨_, he, fun v q => nomatch q⟩
    · rw [z]; exact ⟨o, ho, fun v q => by rw [hd] at q; cases q⟩
  keep := fun i h h' st k => let ⟨⟨old, he⟩, hi, hne⟩ := st; ⟨⟨old, k e (by simp) _ he⟩, hi.at fun o q => k it (by simp) o q, hne⟩
  item := by
    intro X hP hw hK hc i pins s σ H E I hf st hg
    subst hP hw hK
    obtain ⟨⟨old, he⟩, hit, hne, hai, hae⟩ := st
    obtain ⟨xs, x, hq, hx⟩ := hg
    obtain ⟨its, rv, p, hz⟩ := I.tuple hq
    obtain ⟨u, hu, ru⟩ := rv.get hx
    have hel : e < s.heap.objs.size := Heap.lt_size he
    have hil : it < s.heap.objs.size := by obtain ⟨_, q, _⟩ := hit; exact Heap.lt_size q
    have hlt : i < its.toArray.size := by
      have := (List.getElem?_eq_some_iff.mp hu).1
      simpa using this
    refine wpAny_pyNext_enum_itemD (Draws.tuple (A := X.A.in1) (show X.A.in1.handled = none from I.ok.hd hc) it a hai its.toArray) he ⟨hit, p⟩ hlt hne (by simp [hne, Ne.symm hae]) fun x' h' tk hP ho hst' hT hsz hk => ?_
    have hux : x' = u := by
      have h1 : its[i]? = some x' := by simpa using hP
      rw [hu] at h1
      exact (Option.some.inj h1).symm
    subst hux
    refine ⟨_, rfl, wpAny_letOwnedTupleGo_enum (s := { s with heap := h', toks := tk + 1 }) ho fun h'' he' sb => ?_⟩
    have hT2 : h''.get? s.heap.objs.size = some { cls := .type "tuple", data := .seq #[.int i tk, x'] } := (sb.2 _ (Nat.ne_of_gt hel)).trans hT
    have new : ObjOk X.prog X.w (upd H s.heap.objs.size (.tup [.int (i : Nat), x])) h'' s.heap.objs.size (.tup [.int (i : Nat), x]) :=
      ⟨by show 2 ≤ sizeLine; decide, [.int i tk, x'], .cons ⟨_, rfl⟩ (.cons ru .nil), ⟨_, hT2, rfl, _, rfl⟩⟩
    have I1 : Inv X pins σ (upd H s.heap.objs.size (.tup [.int (i : Nat), x])) { s with heap := h'', toks := tk + 1 } :=
      I.turnedNew (ch := [e, it]) (fun b ob hb q => (sb.2 b (fun z => hb (by simp [z]))).trans (hk b ob (fun z => hb (by simp [z])) (fun z => hb (by simp [z])) q)) hf (Nat.le_refl _) new
    refine ⟨.ref s.heap.objs.size, _, I1, rfl, ⟨_, x, rfl, I.hok.fresh (Nat.le_refl _), rfl, fun ys hy => by rw [I.tuple_inj hy hq]; exact hx⟩, ⟨⟨x', ?_⟩, hst'.1.at fun o q => (sb.2 it (Ne.symm hne)).trans q, hne, hai, hae⟩, fun b hb => ?_⟩
    · have e1 : ((i + 1 : Nat) : Int) = (i : Int) + 1 := by omega
      rw [e1]; exact he'
    · have hb' : b < s.heap.objs.size := by
        have e' : b = e ∨ b = it := by simpa using hb
        rcases e' with z | z
        · rw [z]; exact hel
        · rw [z]; exact hil
      rw [upd_ne (Nat.ne_of_lt hb')]
      exact (hf b hb).1
  done := by
    intro X hP hw hK hc i pins s σ H E I hf st hg
    subst hP hw hK
    obtain ⟨⟨old, he⟩, hit, hne, hai, hae⟩ := st
    obtain ⟨xs, hq, hx⟩ := hg
    obtain ⟨its, rv, p, hz⟩ := I.tuple hq
    obtain ⟨f0, f1, f2, f3, f4, f5⟩ := hf it (by simp)
    have hl := rv.length
    have D : Draws X.prog X.w X.A.in1 it [it, a] i (fun _ _ => False) (fun j h => j = i ∧ h.IsTupleIter it a i ∧ h.IsTuple a its.toArray) := ⟨fun _ _ st => let ⟨o, ho, _⟩ := st.2.1; ⟨o, ho⟩, fun _ _ _ st hk => ⟨st.1, st.2.1.at fun o e => hk it (by simp) o e, st.2.2.at fun o e => hk a (by simp) o e⟩,
      fun j s Q E hj st hQ => absurd (st.1 ▸ hj) (Nat.lt_irrefl _), fun s Q E st hE => wpAny_nextOf_tuple_end (show X.A.in1.handled = none from I.ok.hd hc) st.2.1 st.2.2 (by simp; omega) hE⟩
    exact wpAny_pyNext_enum_endD D he ⟨rfl, hit, p⟩ fun h' eb => ⟨rfl, I.turned (t' := s.toks) (fun b o hb q => eb b o hb q) f0 f1 f3 f4 f5⟩
  self := fun A i s Q E st h => let ⟨⟨_, he⟩, _⟩ := st; wpAny_pyIter_enum he h
def iEnumT (K : PySem.W.Frag) (ta : TA) : TI := fun σ H R => ta σ H fun vs H1 => ∃ a xs, vs = [.ref a] ∧ SqT K H1 a xs ∧ R (IteT K a) H1
theorem pi_enumT {X : Cx} {e : Expr} {ta : TA} {p pos tpos : Pos} {elts : List Expr} {kk : Nat} (hg : Gl X "enumerate") (hm : X.mg "enumerate" = none) (ha : PA X [e] ta) (hs : starEach [e] X.env = [(false, eval e X.env)] := by rfl) :
    PI X (.Tuple elts kk tpos) (.Call (.Name "enumerate" p) [e] [] pos) (iEnumT X.K ta) := by
  refine ⟨fun pins s σ H R I h => ?_⟩
  refine Call_ (ld_blt I hg hm boot_enumerate (PyProof.Rows.callWith_type1 (thn (ha.run pos pins s σ H _ I h) fun us s1 ⟨vs, H1, I1, r1, q1⟩ => ?_) hs rfl))
  obtain ⟨a, xs, ex, hq, q⟩ := q1
  subst ex
  cases r1 with
  | cons r rr =>
    cases rr
    cases r
    obtain ⟨its, rv, p', hz⟩ := I1.tuple hq
    have hal : a < s1.heap.objs.size := by obtain ⟨o, e1, _⟩ := id p'; exact Heap.lt_size e1
    refine call_enumerate_tuple p' fun h' he hit hsz hk => wpAny_pyIter_enum he ?_
    have I2 : Inv X pins σ H1 { s1 with heap := h' } := I1.kept (t' := s1.toks) hk
    refine ⟨s1.heap.objs.size + 1, [s1.heap.objs.size + 1, s1.heap.objs.size], _, _, H1, rfl, I2, turn_enumT a (s1.heap.objs.size + 1) s1.heap.objs.size, ⟨⟨.none, he⟩, hit, Nat.succ_ne_self _, Nat.ne_of_lt hal, Nat.ne_of_lt (Nat.lt_succ_of_lt hal)⟩, fun b hb => ?_, q⟩
    have e' : b = s1.heap.objs.size + 1 ∨ b = s1.heap.objs.size := by simpa using hb
    have hle : s1.heap.objs.size ≤ b := by
      rcases e' with z | z
      · rw [z]; exact Nat.le_add_right _ _
      · rw [z]; exact Nat.le_refl _
    exact I1.fpOk hle (I1.hok.fresh hle)
theorem go_iEnumT {K : PySem.W.Frag} {ta : TA} {σ : L2.St} {H : Hp} {R : It → Hp → Prop} (h : ta σ H fun vs H1 => ∃ a xs, vs = [.ref a] ∧ SqT K H1 a xs ∧ R (IteT K a) H1) : iEnumT K ta σ H R := h
/-- if a op b op c op d -/
def tChain3 (r r' r'' : R2) (ta tb tc td : TE) : TT := fun σ H Q => ta σ H fun x H1 => tb σ H1 fun y H2 => r x y H2 fun z H3 => ∃ k, z = .bl k ∧
  (if k = true then tc σ H3 fun w H4 => r' y w H4 fun z H5 => ∃ k, z = .bl k ∧ (if k = true then td σ H5 fun u H6 => r'' w u H6 fun z H7 => ∃ k, z = .bl k ∧ Q k H7 else Q false H5) else Q false H3)
theorem pt_chain3 {X : Cx} {a b c d : Expr} {ta tb tc td : TE} {pos : Pos} {op op' op'' : CmpOp} {r r' r'' : R2} (ho : OpR X (compareOp op) r) (ho' : OpR X (compareOp op') r') (ho'' : OpR X (compareOp op'') r'') (ha : PE X a ta) (hb : PE X b tb) (hc : PE X c tc) (hd : PE X d td)
    (hm : lastMarks [op, op', op''] [b, c, d] = false := by with_unfolding_all rfl) : PT X (.Compare a [op, op', op''] [b, c, d] pos) (tChain3 r r' r'' ta tb tc td) := by
  refine ⟨fun pins s σ H Q I h => ?_⟩
  refine isTrue_chain (thn (ha.run pins s σ H _ I h) fun v s1 ⟨x, H1, I1, r1, q1⟩ => test_link (thn (hb.run pins s1 σ H1 _ I1 q1) fun u s2 ⟨y, H2, I2, r2, q2⟩ =>
    thn (ho pins s2 σ H2 x y v u _ I2 r1 r2 q2) fun d s3 ⟨z, H3, I3, r3, k, e, q3⟩ => ?_)) hm
  subst e
  cases r3
  refine wpAny_truthy_bool ?_
  cases k with
  | false => exact ite_ff ⟨H3, I3, q3⟩
  | true =>
    refine ite_tt (test_link (thn (hc.run pins s3 σ H3 _ I3 q3) fun w' s4 ⟨z', H4, I4, r4, q4⟩ => thn (ho' pins s4 σ H4 y z' u w' _ I4 r2 r4 q4) fun d' s5 ⟨z2, H5, I5, r5, k2, e2, q5⟩ => ?_))
    subst e2
    cases r5
    refine wpAny_truthy_bool ?_
    cases k2 with
    | false => exact ite_ff ⟨H5, I5, q5⟩
    | true =>
      refine ite_tt (test_last (thn (hd.run pins s5 σ H5 _ I5 q5) fun w'' s6 ⟨z'', H6, I6, r6, q6⟩ => thn (ho'' pins s6 σ H6 z' z'' w' w'' _ I6 r4 r6 q6) fun d'' s7 ⟨z3, H7, I7, r7, k3, e3, q7⟩ => ?_))
      subst e3
      cases r7
      exact wpAny_truthy_bool ⟨H7, I7, q7⟩
theorem go_chain3 {r r' r'' : R2} {ta tb tc td : TE} {σ : L2.St} {H : Hp} {Q : Bool → Hp → Prop} (h : ta σ H fun x H1 => tb σ H1 fun y H2 => r x y H2 fun z H3 => ∃ k, z = .bl k ∧
  (if k = true then tc σ H3 fun w H4 => r' y w H4 fun z H5 => ∃ k, z = .bl k ∧ (if k = true then td σ H5 fun u H6 => r'' w u H6 fun z H7 => ∃ k, z = .bl k ∧ Q k H7 else Q false H5) else Q false H3)) : tChain3 r r' r'' ta tb tc td σ H Q := h
theorem go_par {i j : Nat} {ta : TA} {D : Ends} {σ : L2.St} {H : Hp} (h : ta σ H fun vs H1 => ∃ v w, vs = [v, w] ∧ D.nx ((σ.set i (some v)).set j (some w)) H1) : tPar i j ta D σ H := h
end Vc

/-! Xf: for x in o, [.. for x in o], o of an own class whose __iter__ says iter(self.f), f a list (my own; ways of HandS.Call's fn_of, HandS.IterVal). -/
namespace Vc
open PySem PySem.Spec PyProof.Rows L2
/-- a def's promise that may speak of the state it is called in -/
structure FnS (P : Program) (w : World) (K : PySem.W.Frag) (mg : Str → Option Value) (base : Heap) (k : Nat) (f : Addr) (fd : FuncData) (ps : List Str) (sp : Shared → Sp) : Prop where
  len : ∀ s vs H Q E, sp s vs H Q E → vs.length = ps.length
  run : ∀ (A : Around) (outer : List Env) (s : Shared) (H : Hp) (args : Args) (us : List Value) (vs : List V) (Q : VK) (E : XK), Room k A → Env0 P w K mg base A outer s H → BindsTo s fd args (ps.zip us) → Vals vs us → sp s vs H Q E →
    codeAny (model P w) A (.call (.ref f) args) (CR CX0 outer P w H s Q E) s
theorem Fun.okS {P : Program} {w : World} {K : PySem.W.Frag} {mg : Str → Option Value} {base : Heap} {x qual : Str} {st : Stmt} {f : Addr} {fd : FuncData} {N ps : List Str} {k : Nat} {sp : Shared → Sp} (F : Fun K x qual st f fd) (S : FnScope N ps (defScope st)) (len : ∀ s vs H Q E, sp s vs H Q E → vs.length = ps.length)
    (hbody : ∀ (cdv : Value) (A : Around) (outer : List Env) (s : Shared) (H : Hp) (vs : List V) (Q : VK) (E : XK), Room k (A.deeper (envOfC qual (defScope st) s.heap.objs.size f cdv)) → sp s vs H Q E →
      ∃ t, PSs (cxOf CX0 P w K mg base N qual (defScope st) f cdv A outer s H E).nox (defBody st) t ∧ t { nx := fun _ H' => Q .non H', rt := Q } (start N vs) H) : FnS P w K mg base (k + 1) f fd ps sp := by
  obtain ⟨oc, od, kV, doc, pm, an, cdv, ct, osl, rfl, lk, hcd⟩ := F.ex
  refine ⟨len, fun A outer s H args us vs Q E hr e0 hb r hsp => ?_⟩
  have hl := len _ _ _ _ _ hsp
  have KX : K.In s.heap := e0.mod.kin.keeps fun b o e => (e0.bs b o e).1
  have lim : s.heap.NoLimit := e0.mod.nolimit.keeps fun b o e => (e0.bs b o e).1
  have hkind : ∀ y ∈ ps.zip us, (defScope st).names.lookup y.1 = some .local ∨ ((defScope st).names.lookup y.1 = some .cell ∧ ((cellsFrom (s.heap.objs.size + 1) (defScope st).names []).lookup y.1).isSome = true) := fun ⟨n, v⟩ hy => by
    rcases S.par n (List.of_mem_zip hy).1 with q | q
    · exact .inl q
    · exact .inr ⟨q, PySem.W.cellsFrom_some _ _ _ (.inl q)⟩
  refine codeAny_call_function hr.depth (KX _ _ lk) rfl S.co S.gen rfl (PySem.W.codeRec_of KX hcd) (hb _ _ _ _ ?_)
  refine wpAny_newFunctionEnv_cells S.kind hkind fun env he s1 x => ?_
  subst he
  refine ⟨lim.keeps x.toInCall.keep, codeAny_func ?_⟩
  obtain ⟨t, ht0, hq⟩ := hbody cdv A outer s H vs Q E (hr.deeper _) hsp
  have ht := ht0.nox
  have I : Inv (cxOf CX0 P w K mg base N qual (defScope st) f cdv A outer s H E) [] (start N vs) H s1 := inv_start S hr.hd e0 hl r x
  refine wpAny_mono (ht.run [] s1 (start N vs) H _ I hq) (fun fl s' hs => ?_) fun e s' hs => hs
  have fin : ∀ {σ' : L2.St} {H' : Hp} {v : V} {u : Value}, Inv (cxOf CX0 P w K mg base N qual (defScope st) f cdv A outer s H E) [] σ' H' s' → RelV v u → Q v H' → CE outer P w H s Q u s' :=
    fun {σ' H' v u} J rv q => ⟨v, H', J.os, J.bare, J.base, J.hok, rv, q⟩
  cases fl with
  | ret u =>
    obtain ⟨v, σ', H', J, rv, q⟩ := hs
    exact fin J rv q
  | next =>
    obtain ⟨σ', H', J, q⟩ := hs
    exact fin (v := V.non) (u := Value.none) J rfl q
  | brk =>
    obtain ⟨_, _, _, q⟩ := hs
    exact False.elim q
  | cont =>
    obtain ⟨_, _, _, q⟩ := hs
    exact False.elim q
/-- __iter__ says iter(self.f), f a list -/
def spIter (K : PySem.W.Frag) (C : Addr) (F : Str) : Shared → Sp := fun s vs H Q _ => ∃ (a dx l : Addr) (fs : List (Str × V)) (zs : List V), vs = [.ref a] ∧ H a = some (.ins C dx fs) ∧ fs.lookup F = some (.ref l) ∧ SqL K H l zs ∧ ∀ it, H it = none → s.heap.objs.size ≤ it → Q (.ref it) (upd H it (ItO l it 0))
section
variable {X : Cx} {C g : Addr} {fd : FuncData} {ps : List Str} {n : Nat}
theorem runS {A : Around} {pins : List (Addr × Obj)} {σ : L2.St} {s : Shared} {H : Hp} {us : List Value} {vs : List V} {Q : VK} {EE : Value → Shared → Prop} {sp : Shared → Sp} (F : FnS X.prog X.w X.K X.mg X.base n g fd ps sp) (hr : Room n A) (hb : Binds X.K fd ps [])
    (I : Inv X pins σ H s) (env0 : Env0 X.prog X.w X.K X.mg X.base A X.stack s H) (r2 : Vals vs us) (q : sp s vs H Q E0) :
    wpAny (model X.prog X.w) A (call (.ref g) us) (fun u s' => ∃ z H', Inv X pins σ H' s' ∧ RelV z u ∧ Q z H') EE s := by
  have hl := F.len _ _ _ _ _ q
  have hb' := hb s us I.kIn (by rw [List.append_nil, ← r2.length]; exact hl)
  rw [List.append_nil] at hb'
  refine wpAny_call (codeAny_mono (F.run A X.stack s H ⟨us, []⟩ us vs _ E0 hr env0 hb' r2 q) fun r s' hq => ?_)
  cases r with
  | error e => exact hq.elim
  | ok fl =>
    cases fl with
    | ret w =>
      obtain ⟨z, H', I', rz, qz⟩ := I.after hq
      exact ⟨z, H', I', rz, qz⟩
    | next => exact False.elim hq
    | brk => exact False.elim hq
    | cont => exact False.elim hq
def iOwn (K : PySem.W.Frag) (C : Addr) (F : Str) (te : TE) : TI := fun σ H R => te σ H fun x H1 => ∃ (a dx l : Addr) (fs : List (Str × V)) (zs : List V), x = .ref a ∧ H1 a = some (.ins C dx fs) ∧ fs.lookup F = some (.ref l) ∧ SqL K H1 l zs ∧ R (Itl K l) H1
theorem pi_own {tg e : Expr} {te : TE} {F : Str} (he : PE X e te) (G : FnS X.prog X.w X.K X.mg X.base n g fd ps (spIter X.K C F)) (hr : Room n X.A) (m : SpM X.K C g "__iter__") (hb : Binds X.K fd ps []) : PI X tg e (iOwn X.K C F te) := by
  refine ⟨fun pins s σ H R I h => ?_⟩
  refine thn (he.run pins s σ H _ I h) fun u s1 ⟨y, H1, I1, ry, a, dx, l, fs, zs, ey, ha, hl, hq, q⟩ => ?_
  subst ey
  obtain rfl : u = Value.ref a := ry
  obtain ⟨mA, J, _⟩ := ins_get I1.hok ha
  obtain ⟨od, J, _⟩ := J.look
  obtain ⟨m0, hF⟩ := I1.fr
  refine PySem.W.owit_iter hF I1.ok.mod.kin J m.at_ m.fn ?_
  refine wpAny_mono (runS (vs := [.ref a]) (EE := fun _ _ => False) (Q := fun v H' => ∃ it, v = .ref it ∧ H1 it = none ∧ s1.heap.objs.size ≤ it ∧ H' = upd H1 it (ItO l it 0)) G hr hb I1 I1.env0 (.cons rfl .nil) ⟨a, dx, l, fs, zs, rfl, ha, hl, hq, fun it n1 n2 => ⟨it, rfl, n1, n2, rfl⟩⟩) (fun u s' hq' => ?_) (fun _ _ e => e.elim)
  obtain ⟨z, H', I', rz, it, rfl, n1, n2, rfl⟩ := hq'
  cases rz
  have hi : (upd H1 it (ItO l it 0)) it = some (ItO l it 0) := upd_same
  have eo := itO_get I' hi
  have hT : s'.TypeIs (.ref it) "list_iterator" := ⟨_, eo, rfl⟩
  unfold PySem.W.OwitIt
  refine wpAny_specialOf (name := Str.ofString "__next__") hT slot_listiter_next.lookup ?_
  have hi' := hi
  unfold ItO at hi'
  have dr : ItX.dropH (upd H1 it (ItO l it 0)) it = H1 := ItX.dropH_upd n1
  have I2 := ItX.inv_drop I' hi'
  have fp := ItX.inv_fp I' hi (Nat.le_trans I1.sz n2)
  have st : s'.heap.IsListIter it l 0 := ⟨_, eo, rfl, rfl⟩
  rw [show ItX.dropH (upd H1 it (ItO l it 0)) it = H1 from dr] at fp
  have I3 : Inv X pins σ H1 s' := dr ▸ I2
  exact ⟨it, [it], _, _, H1, rfl, I3, turn_list l it, st, fun b hb => by
    have e : b = it := by simpa using hb
    rw [e]; exact fp, q⟩
end
section
variable {X : Cx} {tg e : Expr} {wi wj : TI}
/-- two readings of what is walked -/
theorem pi_or (h1 : PI X tg e wi) (h2 : PI X tg e wj) : PI X tg e (fun σ H R => wi σ H R ∨ wj σ H R) :=
  ⟨fun pins s σ H R I h => h.elim (h1.run pins s σ H R I) (h2.run pins s σ H R I)⟩
end
theorem go_iOwn {K : PySem.W.Frag} {C : Addr} {F : Str} {te : TE} {σ : L2.St} {H : Hp} {R : It → Hp → Prop} (h : te σ H fun x H1 => ∃ (a dx l : Addr) (fs : List (Str × V)) (zs : List V), x = .ref a ∧ H1 a = some (.ins C dx fs) ∧ fs.lookup F = some (.ref l) ∧ SqL K H1 l zs ∧ R (Itl K l) H1) : iOwn K C F te σ H R := h
end Vc

/-! Xn: x != y by an own __eq__ (object's __ne__ asks it); xs.count(True) (my own). -/
namespace Vc
open PySem PySem.Spec PyProof.Rows L2
section
open PySem.W PySem.Calls
variable {prog : Program} {w : World} {A A₀ : Around} {E : Value → Shared → Prop} {s : Shared} {K : Frag} {x C L f : Addr} {h₀ : Heap} {m : Str → Option Value} {ox : Obj} {od : Option Obj} {name : Str} {b tb : Value}
theorem ifBoundB_K {M : Model} {id : String} {args : List Value} {Q : Option Value → Shared → Prop} (X : K.In s.heap) (I : InstAt s.heap x ox C od) (hs : findIn K (.ref C) name = some (some (.builtin id))) (hb : ∀ self, bindSpecial (.builtin id) self = pure (.builtin id, [self]))
    (h : wpAny M A (call (.builtin id) (.ref x :: args)) (fun v => Q (some v)) E s) : wpAny M A (callSpecialIfBound? (.ref x) name args) Q E s := by
  simp only [callSpecialIfBound?, bindSpecialIfBound?]
  refine wpAny_holding (wpAny_bind (wpAny_bind (wpAny_bind (I.type.here ((looks_findIn X hs).here ?_)))))
  simp only [hb]
  refine wpAny_bind (wpAny_askSetting (wpAny_ite ?_))
  have fin : wpAny M A (call (.builtin id) ([.ref x] ++ args) >>= fun v => pure (some v)) Q E s := wpAny_bind (wpAny_mono h (fun v s' h' => wpAny_pure h') fun _ _ h' => h')
  split
  · exact wpAny_bind (wpAny_pure (wpAny_pure fin))
  · exact wpAny_tryCatch (wpAny_bind (wpAny_pure (wpAny_pure fin)))
theorem neEntry {Q : Fin → Shared → Prop} (hu : A.units < cLine) (X : K.In s.heap) (I : InstAt s.heap x ox C od) (hs : findIn K (.ref C) "__eq__" = some (some (.ref f))) (hf : isFn K (.ref f) = true)
    (hcall : wpAny (model prog w) A (call (.ref f) [.ref x, b]) (fun v s' => ∃ c, v = .bool c ∧ Q (.done (.ret (.bool (!c)))) s') E s) :
    wpAny (model prog w) A (Builtin.«object.__ne__» ⟨[.ref x, b], []⟩) Q E s := by
  unfold Builtin.«object.__ne__»
  repeat (first
    | with_reducible refine wpAny_cRoomFor hu ?_
    | (refine wpAny_bind (m := callSpecialIfBound? (.ref x) (Str.ofString "__eq__") [b])
        (ifBound_K X I hs hf (wpAny_mono hcall (fun v s' hr => by
          obtain ⟨c, rfl, hq⟩ := hr
          repeat (first | exact hq | exact wpAny_pure hq | exact wpAny_truthy_bool hq | (refine wpAny_bind (m := truthy (.bool _)) (wpAny_truthy_bool ?_)) | wp_step)) fun _ _ e => e)))
    | wp_step)
theorem tryNe {Q : Option Value → Shared → Prop} (hu : A.units + 1 < cLine) (X : K.In s.heap) (I : InstAt s.heap x ox C od) (hn : findIn K (.ref C) "__ne__" = some (some (.builtin "object.__ne__"))) (ht : mroIn K C (.type "object") = some true)
    (hs : findIn K (.ref C) "__eq__" = some (some (.ref f))) (hf : isFn K (.ref f) = true)
    (hcall : wpAny (model prog w) A.in1 (call (.ref f) [.ref x, b]) (fun v s' => ∃ c, v = .bool c ∧ Q (some (.bool (!c))) s') E s) :
    wpAny (model prog w) A (tryCompare (.ref x) "__ne__" b) Q E s := by
  simp only [tryCompare]
  have hi : Looks (model prog w) s.heap (isInstance (.ref x) (.type "object")) true := I.type.andThen (looks_mroIn X ht)
  refine wpAny_bind (ifBoundB_K X I hn (fun self => PySem.F.cmp_object.ne.bind self) (wpAny_call (codeAny_call_builtin PySem.F.cmp_object.ne.plain PySem.F.cmpEntry_ne
    (check_slot PySem.F.cmpKind_ne PySem.F.cmpSplit_ne hi (PySem.F.cmpArgs_ne _ _) (neEntry (A := A.in1) hu X I hs hf (wpAny_mono hcall (fun v s' hv => ?_) fun _ _ e => e))))))
  obtain ⟨c, rfl, hq⟩ := hv
  first | exact ⟨c, rfl, wpAny_pure hq⟩ | exact ⟨c, rfl, wpAny_pure (wpAny_pure hq)⟩ | exact ⟨c, rfl, hq⟩
theorem ne_K {Q : Value → Shared → Prop} (hu : A.units + 1 < cLine) (F : Fr h₀ L s.heap m) (X₀ : K.In h₀) (I : InstAt s.heap x ox C od) (hb : Looks (model prog w) s.heap (typeOf b) tb) (hn : notFirst K C tb = true)
    (hne : findIn K (.ref C) "__ne__" = some (some (.builtin "object.__ne__"))) (ht : mroIn K C (.type "object") = some true) (hs : findIn K (.ref C) "__eq__" = some (some (.ref f))) (hf : isFn K (.ref f) = true)
    (h : wpAny (model prog w) A.in1 (call (.ref f) [.ref x, b]) (fun v s' => ∃ c, v = .bool c ∧ Q (.bool (!c)) s') E s) : wpAny (model prog w) A (richCompare .NotEq (.ref x) b) Q E s := by
  have X := X₀.keeps F.keep
  have one : wpAny (model prog w) A (tryCompare (.ref x) "__ne__" b) (fun r s' => ∃ v, r = some v ∧ Q v s') E s := by
    refine tryNe hu X I hne ht hs hf (wpAny_mono h (fun v s' hv => ?_) fun _ _ e => e)
    obtain ⟨c, rfl, hq⟩ := hv
    exact ⟨c, rfl, _, rfl, hq⟩
  unfold richCompare
  simp only [oneThing_ref]
  refine wpAny_holding (wpAny_bind (wpAny_cRoomFor (Nat.lt_of_succ_lt hu) ?_))
  rw [cmpInfo_NotEq]
  dsimp only
  refine wpAny_bind (I.type.here (wpAny_bind (hb.here ?_)))
  split
  · rename_i q
    have e : subIn K tb (.ref C) = some false := by
      rcases Bool.or_eq_true_iff.mp hn with e | e
      · rw [beq_iff_eq.mp e] at q; simp at q
      · exact beq_iff_eq.mp e
    refine wpAny_bind ((looks_subIn X e).here ?_)
    simp only [Bool.false_eq_true, if_false]
    refine wpAny_bind (wpAny_mono one (fun r s' z => ?_) fun _ _ e => e)
    obtain ⟨v, rfl, hq⟩ := z
    exact wpAny_pure hq
  · refine wpAny_bind (wpAny_pure ?_)
    simp only [Bool.false_eq_true, if_false]
    refine wpAny_bind (wpAny_mono one (fun r s' z => ?_) fun _ _ e => e)
    obtain ⟨v, rfl, hq⟩ := z
    exact wpAny_pure hq
end
structure NeM (K : PySem.W.Frag) (C g : Addr) : Prop where
  eq : EqM K C g
  ne : PySem.W.findIn K (.ref C) "__ne__" = some (some (.builtin "object.__ne__"))
  top : PySem.W.mroIn K C (.type "object") = some true
def rNeO (K : PySem.W.Frag) (C : Addr) (sp : Sp) : R2 := fun x y H Q => ∃ (a dx : Addr) (fs : List (Str × V)) (t : Value), x = .ref a ∧ H a = some (.ins C dx fs) ∧ TyX K H y t ∧ PySem.W.notFirst K C t = true ∧ sp [x, y] H (fun v H' => ∃ b, v = .bl b ∧ Q (.bl (!b)) H') E0
theorem op_neO {X : Cx} {C g : Addr} {fd : FuncData} {ps : List Str} {sp : Sp} {n : Nat} (F : FnOk X.prog X.w X.K X.mg X.base CX0 n g fd ps sp) (hr : Room (n + 1) X.A) (m : NeM X.K C g) (hb : Binds X.K fd ps []) : OpR X (compareOp .NotEq) (rNeO X.K C sp) := by
  intro pins s σ H x y v u Q I rx ry hq
  obtain ⟨a, dx, fs, t, rfl, ha, ty, nf, q⟩ := hq
  cases rx
  show wpAny (model X.prog X.w) X.A (richCompare .NotEq (.ref a) u) (EP X pins σ Q) X.xe s
  obtain ⟨mA, J, _⟩ := ins_get I.hok ha
  obtain ⟨od, J, _⟩ := J.look
  obtain ⟨_, Z, p, _⟩ := kit_of I ry ty
  obtain ⟨mm, hF⟩ := I.fr
  refine ne_K (tb := t) (by have := hr.un; omega) hF I.ok.mod.kin J (Z.ty _ _ I.kIn p) nf m.ne m.top m.eq.at_ m.eq.fn ?_
  have hl := F.len _ _ _ _ q
  have r2 : Vals [V.ref a, y] [Value.ref a, u] := .cons rfl (.cons ry .nil)
  have hb' := hb s [.ref a, u] I.kIn (by simpa using hl)
  rw [List.append_nil] at hb'
  refine wpAny_call (codeAny_mono (F.run X.A.in1 X.stack s H ⟨[.ref a, u], []⟩ [.ref a, u] [.ref a, y] _ E0 hr.in1 I.env0.in1 hb' r2 q) fun r s' hq => ?_)
  cases r with
  | error e => exact hq.elim
  | ok fl =>
    cases fl with
    | ret w =>
      obtain ⟨z, H', I', rz, b, ez, qz⟩ := I.after hq
      subst ez
      cases rz
      exact ⟨b, rfl, .bl (!b), H', I', rfl, qz⟩
    | next => exact False.elim hq
    | brk => exact False.elim hq
    | cont => exact False.elim hq
theorem go_neO {K : PySem.W.Frag} {C : Addr} {sp : Sp} {x : V} {y : V} {H : Hp} {Q : VK} {a dx : Addr} {fs : List (Str × V)} {t : Value} (e : x = .ref a) (ha : H a = some (.ins C dx fs)) (ty : TyX K H y t) (nf : PySem.W.notFirst K C t = true)
    (q : sp [x, y] H (fun v H' => ∃ b, v = .bl b ∧ Q (.bl (!b)) H') E0) : rNeO K C sp x y H Q := ⟨a, dx, fs, t, e, ha, ty, nf, q⟩
end Vc

/-! Xg: defs that are run where no repr is under way (so that repr of data is known), their calls, the end of a law over them (my own). -/
namespace Vc
open PySem PySem.Spec PyProof.Rows L2
structure FnG (P : Program) (w : World) (K : PySem.W.Frag) (mg : Str → Option Value) (base : Heap) (CX : CXT) (k : Nat) (f : Addr) (fd : FuncData) (ps : List Str) (sp : Sp) : Prop where
  len : ∀ vs H Q E, sp vs H Q E → vs.length = ps.length
  run : ∀ (A : Around) (outer : List Env) (s : Shared) (H : Hp) (args : Args) (us : List Value) (vs : List V) (Q : VK) (E : XK), A.guards = some [] → Room k A → Env0 P w K mg base A outer s H → BindsTo s fd args (ps.zip us) → Vals vs us → sp vs H Q E →
    codeAny (model P w) A (.call (.ref f) args) (CR CX outer P w H s Q E) s
theorem FnG.of {P : Program} {w : World} {K : PySem.W.Frag} {mg : Str → Option Value} {base : Heap} {CX : CXT} {k : Nat} {f : Addr} {fd : FuncData} {ps : List Str} {sp : Sp} (F : FnOk P w K mg base CX k f fd ps sp) : FnG P w K mg base CX k f fd ps sp :=
  ⟨F.len, fun A outer s H args us vs Q E _ hr => F.run A outer s H args us vs Q E hr⟩
/-- the rule for such a def -/
theorem Fun.okG {P : Program} {w : World} {K : PySem.W.Frag} {mg : Str → Option Value} {base : Heap} {x qual : Str} {st : Stmt} {f : Addr} {fd : FuncData} {N ps : List Str} {k : Nat} {sp : Sp} (F : Fun K x qual st f fd) (S : FnScope N ps (defScope st)) (len : ∀ vs H Q E, sp vs H Q E → vs.length = ps.length)
    (hbody : ∀ (cdv : Value) (A : Around) (outer : List Env) (s : Shared) (H : Hp) (vs : List V) (Q : VK) (E : XK), (A.deeper (envOfC qual (defScope st) s.heap.objs.size f cdv)).guards = some [] → Room k (A.deeper (envOfC qual (defScope st) s.heap.objs.size f cdv)) → sp vs H Q E →
      ∃ t, PSs (cxOf CX0 P w K mg base N qual (defScope st) f cdv A outer s H E).nox (defBody st) t ∧ t { nx := fun _ H' => Q .non H', rt := Q } (L2.start N vs) H) : FnG P w K mg base CX0 (k + 1) f fd ps sp := by
  obtain ⟨oc, od, kV, doc, pm, an, cdv, ct, osl, rfl, lk, hcd⟩ := F.ex
  refine ⟨len, fun A outer s H args us vs Q E hg hr e0 hb r hsp => ?_⟩
  refine LamX.run_ofS lk hcd S hr e0 hb r (len _ _ _ _ hsp) fun hr' => ?_
  obtain ⟨t, h, q⟩ := hbody cdv A outer s H vs Q E hg hr' hsp
  exact ⟨t, h.nox, q⟩
section
variable {X : Cx} {k : Nat} {f : Addr} {fd : FuncData} {ps : List Str} {sp : Sp} {x : Str} {q pos : Pos} {e : Expr} {es : List Expr} {t : TA}
theorem runG {pins : List (Addr × Obj)} {σ : L2.St} {H : Hp} {s : Shared} {us : List Value} {vs : List V} {Q : VK} (F : FnG X.prog X.w X.K X.mg X.base CX0 k f fd ps sp) (hgd : X.A.guards = some []) (hr : Room k X.A) (hb : Binds X.K fd ps []) (I : Inv X pins σ H s) (r : Vals vs us) (q : sp vs H Q E0) :
    wpAny (model X.prog X.w) X.A (call (.ref f) us) (EP X pins σ Q) X.xe s := by
  have hl : us.length = ps.length := by rw [← r.length]; exact F.len _ _ _ _ q
  have b := hb s us I.kIn (by rw [List.append_nil]; exact hl)
  rw [List.append_nil] at b
  refine wpAny_call (codeAny_mono (F.run X.A X.stack s H ⟨us, []⟩ us vs Q E0 hgd hr I.env0 b r q) fun r s' hq => ?_)
  rcases r with e | fl
  · exact hq.elim
  · cases fl with
    | ret u => exact I.after hq
    | next => exact False.elim hq
    | brk => exact False.elim hq
    | cont => exact False.elim hq
/-- f(e, ..) -/
theorem pe_callG (F : FnG X.prog X.w X.K X.mg X.base CX0 k f fd ps sp) (hgd : X.A.guards = some []) (hr : Room k X.A) (hg : Gl X x) (hm : X.mg x = some (.ref f)) (hk : PySem.W.keepIn X.K (.ref f) = true) (hb : Binds X.K fd ps [])
    (ha : PA X (e :: es) t) (hdb : (x == ("__debug__" : Str)) = false := by decide) (he : starEach (e :: es) X.env = (false, eval e X.env) :: starEach es X.env := by rfl) (hpl : (backTo pos (starEach es X.env)).any (·.1) = false := by rfl) :
    PE X (.Call (.Name x q) (e :: es) [] pos) (tCall sp [] E0 t) := by
  refine ⟨fun pins s σ H Q I h => ?_⟩
  refine wpAny_Call_Name_kw (ld_glob I hg hm ?_ hdb)
  refine PySem.W.callWith_K (h₀ := X.base) I.ok.mod.kin hk (thn (ha.run pos pins s σ H _ I h) fun us s1 ⟨vs, H1, I1, r, q⟩ => ⟨I1.kIn, ?_⟩) he hpl
  exact runG F hgd hr hb I1 r (by have q : sp (vs ++ []) H1 Q E0 := q; rwa [List.append_nil] at q)
theorem pe_callG0 (F : FnG X.prog X.w X.K X.mg X.base CX0 k f fd ps sp) (hgd : X.A.guards = some []) (hr : Room k X.A) (hg : Gl X x) (hm : X.mg x = some (.ref f)) (hk : PySem.W.keepIn X.K (.ref f) = true) (hb : Binds X.K fd ps [])
    (hdb : (x == ("__debug__" : Str)) = false := by decide) : PE X (.Call (.Name x q) [] [] pos) (tCall sp [] E0 tNil) := by
  refine ⟨fun pins s σ H Q I h => ?_⟩
  refine wpAny_Call_Name_kw (ld_glob I hg hm ?_ hdb)
  exact PySem.W.callWith_K0 I.kIn hk (runG (us := []) F hgd hr hb I .nil h)
/-! ### repr of data -/
/-- small data: what it shows fits -/
structure Fits (d : PyData) : Prop where
  sh : d.showable = true
  nd : d.hasDict = false
  dp : d.depth ≤ 60
  sz : d.shown.length ≤ sizeLine
def rRepr (K : PySem.W.Frag) : List V → Hp → VK → Prop := fun xs H Q => ∃ v d, xs = [v] ∧ Dp K H v d ∧ Fits d ∧ Q (.str d.shown) H
theorem call_reprD (hgd : X.A.guards = some []) (hu : X.A.units + 64 < cLine) : CallR X (.builtin "repr") (rRepr X.K) := by
  intro pins s σ H xs us Q I r h
  obtain ⟨v, d, rfl, hd, ⟨sh, nd, dp, sz⟩, q⟩ := h
  obtain ⟨u, rfl, ru⟩ := vals1 r
  have fin : ∀ h' u tk, (∀ b o, s.heap.get? b = some o → h'.get? b = some o) → EP X pins σ Q (.str d.shown u) { s with heap := h', toks := tk } := fun h' u tk k => ⟨.str d.shown, H, I.kept k, ⟨u, rfl⟩, q⟩
  cases hd with
  | non =>
    cases ru
    rw [PyData.shown_none] at fin
    exact PySem.P.repr_of_none (fin s.heap _ _ fun _ _ e => e)
  | bl b =>
    cases ru
    rw [PyData.shown_bool] at fin
    exact PySem.P.repr_of_bool (fin s.heap _ _ fun _ _ e => e)
  | int i =>
    obtain ⟨t, rfl⟩ := ru
    rw [PyData.shown_int] at fin
    refine PySem.P.repr_of_int ?_ (fin s.heap _ _ fun _ _ e => e)
    simpa [PyData.showable] using sh
  | str z =>
    obtain ⟨t, rfl⟩ := ru
    rw [PyData.shown_str] at fin sz
    exact PySem.P.repr_of_str (fin s.heap _ _ fun _ _ e => e) sz
  | @lst a xs ds ha hds =>
    cases ru
    obtain ⟨as, rd⟩ := Dp.reads I (.list ds) (.ref a) (.ref a) (.lst ha hds) rfl
    exact repr_of_reads' rd sh (fun z => by rw [nd] at z; cases z) hgd (by omega) (fun _ _ e => e) fin sz
  | @tup a xs ds ha hds =>
    cases ru
    obtain ⟨as, rd⟩ := Dp.reads I (.tuple ds) (.ref a) (.ref a) (.tup ha hds) rfl
    exact repr_of_reads' rd sh (fun z => by rw [nd] at z; cases z) hgd (by omega) (fun _ _ e => e) fin sz
theorem room64 {k : Nat} {A : Around} (r : Room k A) : A.units + 64 < cLine := by have := r.un; omega
end
section
variable {K : PySem.W.Frag} {H : Hp} {Q : VK}
theorem go_repr {v : V} {d : PyData} (hd : Dp K H v d) (f : Fits d) (h : Q (.str d.shown) H) : rRepr K [v] H Q := ⟨v, d, rfl, hd, f, h⟩
end
/-! ### the end of a law whose def is an FnG -/
section
variable {P : Program} {w : World} {K : PySem.W.Frag} {mg mb : Str → Option Value} {k : Nat} {fa a : Addr} {fd : FuncData} {x : Str} {sp : Sp} {s₁ : Shared} {vs : List Value} {ns : List Int}
/-- at most the script's object is known, and it is locked -/
def Lone (H : Hp) (a : Addr) : Prop := ∀ b u, H b = some u → b = a ∧ ∃ o ys, u = .frz o (.lst ys)
theorem lone_call {H : Hp} (KX : K.In s₁.heap) (hns : s₁.heap.Ns mainGlobals mg) (hb : s₁.heap.Ns builtinsNs mb) (hbb : ∀ y : Str, y ≠ "__name__" → mb y = bootBuiltins y) (hlim : s₁.heap.NoLimit) (hg : s₁.gens = #[])
    (ha : s₁.heap.get? a = some { cls := .type "list", data := .seq vs.toArray }) (hr : Room k callerA) (F : ∀ base : Heap, K.In base → base.Ns mainGlobals mg → FnG P w K mg base CX0 k fa fd [x] sp) (hbind : ∀ (s : Shared) (u : Value), BindsTo s fd ⟨[u], []⟩ [(x, u)])
    (L : Lone H a) (hok : HOk P w H s₁.heap) (nk : H a ≠ none → K.lookup a = none) (hsp : sp [.ref a] H (fun v _ => v = .bl true) E0) :
    codeAny (model P w) callerA (.call (.ref fa) ⟨[.ref a], []⟩) (fun r s' => r = .ok (.ret (.bool true)) ∧ OldK s₁.heap s'.heap ∧ s'.os = s₁.os ∧ AllBare s'.gens) s₁ := by
  -- what is not the script's object is not tracked
  have un : ∀ {b : Addr}, b ≠ a → H b = none := fun {b} n => by
    cases e : H b with
    | none => rfl
    | some u => exact (n (L b u e).1).elim
  have dict_un : ∀ {b : Addr} {o : Obj} {es : Array DictEntry} {ep : Nat}, s₁.heap.get? b = some o → o.data = .dict es ep → H b = none := fun {b o es ep} e d => by
    refine un fun z => ?_
    rw [z, ha] at e
    injection e with e
    rw [← e] at d
    cases d
  have ns_keep : ∀ {b : Addr} {m : Str → Option Value}, s₁.heap.Ns b m → (hidT s₁.heap H).Ns b m := fun {b m} h => by
    obtain ⟨o, es, ep, e, d, r⟩ := h
    exact ⟨o, es, ep, hidT_get e (dict_un e d), d, r⟩
  have k_in : K.In (hidT s₁.heap H) := fun b o e => hidT_get (KX b o e) <| by
    by_cases z : b = a
    · cases q : H b with
      | none => rfl
      | some u =>
        have := nk (by rw [← z, q]; exact Option.some_ne_none u)
        rw [← z, e] at this
        cases this
    · exact un z
  have env : Env0 P w K mg (hidT s₁.heap H) callerA [] s₁ H := by
    obtain ⟨mc, c1, c2⟩ := hlim
    exact { frames := rfl, mod := ⟨k_in, ns_keep hns, ⟨mb, ns_keep hb, hbb⟩, mc, ns_keep c1, c2⟩, bs := fun _ _ e => of_hidT e, bsz := Nat.le_of_eq (hidT_size _ _), funs := trivial, frf := fun _ z => (nomatch (show _ ∈ ([] : List Addr) from z)), hok := hok, bare := .of_eq hg }
  have go := (F _ k_in (ns_keep hns)).run callerA [] s₁ H ⟨[.ref a], []⟩ [.ref a] [.ref a] (fun v _ => v = .bl true) E0 rfl hr env (hbind s₁ (.ref a)) (.cons rfl .nil) hsp
  refine codeAny_mono go fun r s' hq => ?_
  rcases r with e | fl
  · exact False.elim hq
  cases fl with
  | next => exact False.elim hq
  | brk => exact False.elim hq
  | cont => exact False.elim hq
  | ret u =>
    obtain ⟨v, H', os, bare, u2, hok', rv, ev⟩ := hq
    have ev : v = .bl true := ev
    rw [ev] at rv
    cases rv
    refine ⟨rfl, OldK.of_keep fun b o e => ?_, os, bare⟩
    cases q : H b with
    | none => exact u2.keep b o e q (fun z => nomatch (show b ∈ ([] : List Addr) from z)) (fun z => nomatch (show b ∈ ([] : List Addr) from z))
    | some v2 =>
      obtain ⟨_, ob, ys, ez⟩ := L b v2 q
      rw [ez] at q
      have o1 := (hok b _ q).1
      have o2 := (hok' b _ (u2.frzs b ob _ q)).1
      rw [e] at o1
      injection o1 with o1
      rw [o1]; exact o2
theorem law_callG (KX : K.In s₁.heap) (hns : s₁.heap.Ns mainGlobals mg) (hb : s₁.heap.Ns builtinsNs mb) (hbb : ∀ y : Str, y ≠ "__name__" → mb y = bootBuiltins y) (hlim : s₁.heap.NoLimit) (hg : s₁.gens = #[])
    (ha : s₁.heap.get? a = some { cls := .type "list", data := .seq vs.toArray }) (hi : IntsAre vs ns) (hl : ns.length ≤ sizeLine) (hr : Room k callerA) (F : ∀ base : Heap, K.In base → base.Ns mainGlobals mg → FnG P w K mg base CX0 k fa fd [x] sp) (hbind : ∀ (s : Shared) (u : Value), BindsTo s fd ⟨[u], []⟩ [(x, u)])
    (hsp : ∀ H : Hp, SqL K H a (ns.map V.int) → sp [.ref a] H (fun v _ => v = .bl true) E0) :
    codeAny (model P w) callerA (.call (.ref fa) ⟨[.ref a], []⟩) (fun r s' => r = .ok (.ret (.bool true)) ∧ OldK s₁.heap s'.heap ∧ s'.os = s₁.os ∧ AllBare s'.gens) s₁ := by
  have rv := vals_ints hi
  have len : vs.length = ns.length := hi.length
  cases hk : K.lookup a with
  | some o =>
    have e := KX a o hk
    rw [ha] at e
    injection e with e
    subst e
    exact lone_call (H := fun _ => none) KX hns hb hbb hlim hg ha hr F hbind (fun b u z => nomatch z) (fun b u z => nomatch z) (fun z => (z rfl).elim) (hsp _ (.inr ⟨_, vs.toArray, _, hk, rfl, rfl, rfl, by rw [List.size_toArray, len]; exact hl, by simpa using rv⟩))
  | none =>
    generalize ho : ({ cls := .type "list", data := .seq vs.toArray } : Obj) = ob at ha
    generalize hH : (fun b => if b = a then some (HO.frz ob (.lst (ns.map V.int))) else none : Hp) = H
    have at_a : H a = some (.frz ob (.lst (ns.map V.int))) := by rw [← hH]; exact if_pos rfl
    have only : ∀ b u, H b = some u → b = a ∧ u = .frz ob (.lst (ns.map V.int)) := fun b u e => by
      rw [← hH] at e
      by_cases z : b = a
      · have e : (if b = a then some (HO.frz ob (.lst (ns.map V.int))) else none) = some u := e
        rw [if_pos z] at e
        exact ⟨z, (Option.some.inj e).symm⟩
      · have e : (if b = a then some (HO.frz ob (.lst (ns.map V.int))) else none) = some u := e
        rw [if_neg z] at e
        cases e
    refine lone_call (H := H) KX hns hb hbb hlim hg (by rw [ha, ho]) hr F hbind (fun b u e => ⟨(only b u e).1, ob, _, (only b u e).2⟩) (fun b u e => ?_) (fun _ => hk) (hsp H (.inl (.inr ⟨ob, at_a⟩)))
    obtain ⟨z, eu⟩ := only b u e
    rw [z, eu]
    exact ⟨ha, by rw [List.length_map]; exact hl, vs, 0, rv, by rw [ha, ← ho]⟩
end
theorem walk_ofG {l : PySem.W.OpenLaw} {n k : Nat} {q : Program} {loose : List Str} {XP : (Str → Option Value) → Heap → Prop} {YP : World → Heap → Prop} {d : DefRec} {K : Params → PySem.W.Frag} {sp : World → Sp} {x : Str}
    (hn : l.most = some n) (hn2 : n ≤ sizeLine) (hdf : d.params.defaults = []) (hr : Room k callerA) (hY : ∀ (w : World) (h : Heap), YP w h → (K w.params).In h)
    (F : ∀ (w : World) (mg : Str → Option Value) (fa : Addr) (h : Heap), (K w.params).In h → h.Ns mainGlobals mg → mg d.name = some (.ref fa) →
      ∃ fd : FuncData, (∀ (s : Shared) (u : Value), BindsTo s fd ⟨[u], []⟩ [(x, u)]) ∧ ∀ base : Heap, (K w.params).In base → base.Ns mainGlobals mg → FnG l.prog w (K w.params) mg base CX0 k fa fd [x] (sp w))
    (hsp : ∀ (w : World) (H : Hp) (a : Addr) (ns : List Int), ns.length ≤ n → SqL (K w.params) H a (ns.map V.int) → sp w [.ref a] H (fun v _ => v = .bl true) E0) :
    PySem.W.WalkO q loose XP YP l.row.toRowW d [] (fun f vs => PySem.call f vs) := by
  refine Att.attach_call hn hdf fun w s₀ s₁ mg mb fa o pm cd doc a vs ns G Y ho hd hcd hmg hobj hints hlen hg => ?_
  obtain ⟨fd, hb, hF⟩ := F w mg fa _ (hY w _ Y) G.T.g hmg
  exact law_callG (hY w _ Y) G.T.g G.T.b G.T.builtins G.T.nolimit hg hobj hints (Nat.le_trans hlen hn2) hr hF hb fun H hS => hsp w H a ns hlen hS
end Vc

/-! Xrp: how long the repr of data is (my own). -/
namespace Vc
open PySem PySem.Spec PyProof.Rows L2
/-- a text of at most n plain signs -/
structure SOk (z : Str) (n : Nat) : Prop where
  len : z.length ≤ n
  sg : ∀ c ∈ z.cps.toList, c < 16 ^ 8
theorem SOk.mono {z : Str} {n m : Nat} (h : SOk z n) (l : n ≤ m) : SOk z m := ⟨Nat.le_trans h.len l, h.sg⟩
theorem sapp_len (a b : Str) : (a ++ b).length = a.length + b.length := strLen_append a b
theorem SOk.app {a b : Str} {n m : Nat} (h : SOk a n) (k : SOk b m) : SOk (a ++ b) (n + m) := by
  refine ⟨by rw [sapp_len]; exact Nat.add_le_add h.len k.len, fun c hc => ?_⟩
  have hc : c ∈ (a.cps ++ b.cps).toList := hc
  rw [Array.toList_append] at hc
  rcases List.mem_append.mp hc with hc | hc
  · exact h.sg c hc
  · exact k.sg c hc
theorem int_sg (i : Int) : ∀ c ∈ (Str.ofString (toString i)).cps.toList, c < 16 ^ 8 := fun c hc => by
  by_cases h : c < 16 ^ 8
  · exact h
  · have n := PyProof.Rows.shown_int_free' (k := c) ⟨by omega, by omega⟩ i
    rw [PyData.shown_int] at n
    exact absurd hc n
theorem int_sok {i : Int} {k : Nat} (hk : 0 < k) (h : i.natAbs < 10 ^ k) : SOk (Str.ofString (toString i)) (k + 1) := by
  refine ⟨?_, int_sg i⟩
  rw [PySem.ofString_length]
  exact int_text_length_le10 hk h
/-- data whose repr has at most w signs -/
structure Fw (d : PyData) (w k : Nat) : Prop where
  sh : d.showable = true
  nd : d.hasDict = false
  dp : d.depth ≤ k
  sz : d.shown.length ≤ w
theorem Fw.mono {d : PyData} {w k w' k' : Nat} (h : Fw d w k) (l : w ≤ w') (m : k ≤ k') : Fw d w' k' := ⟨h.sh, h.nd, Nat.le_trans h.dp m, Nat.le_trans h.sz l⟩
theorem Fw.fits {d : PyData} {w k : Nat} (h : Fw d w k) (l : w ≤ 1000000 := by decide) (m : k ≤ 60 := by decide) : Fits d := ⟨h.sh, h.nd, Nat.le_trans h.dp m, Nat.le_trans h.sz (by rw [sizeLine_eq]; omega)⟩
theorem fw_non {w k : Nat} (l : 4 ≤ w := by decide) : Fw .none w k := ⟨rfl, rfl, Nat.zero_le _, by rw [PyData.shown_none]; exact Nat.le_trans (by decide) l⟩
theorem fw_bl {w k : Nat} (b : Bool) (l : 5 ≤ w := by decide) : Fw (.bool b) w k := ⟨rfl, rfl, Nat.zero_le _, by rw [PyData.shown_bool]; exact Nat.le_trans (by cases b <;> decide) l⟩
theorem log10 {n k : Nat} (h : n < 10 ^ k) (l : k ≤ 480) : n.log2 < 1920 := by
  have : n < 2 ^ 1920 := Nat.lt_of_lt_of_le h (Nat.le_trans (Nat.pow_le_pow_right (by decide) l) (by decide +kernel))
  by_cases z : n = 0
  · rw [z]; decide
  · exact (Nat.log2_lt z).mpr this
theorem fw_int {i : Int} {w k : Nat} (j : Nat) (h : i.natAbs < 10 ^ j) (j0 : 0 < j := by decide) (j1 : j ≤ 480 := by decide) (l : j + 1 ≤ w := by decide) : Fw (.int i) w k :=
  ⟨by simp only [PyData.showable]; exact decide_eq_true (log10 h j1), rfl, Nat.zero_le _, by rw [PyData.shown_int]; exact Nat.le_trans (int_sok j0 h).len l⟩
theorem fw_str {z : Str} {n w k : Nat} (h : SOk z n) (l : 10 * n + 2 ≤ w := by decide) : Fw (.str z) w k :=
  ⟨rfl, rfl, Nat.zero_le _, by rw [PyData.shown_str]; have := PySem.StrLaws.reprText_len z h.sg; have := h.len; omega⟩
theorem fw_all {w k : Nat} : ∀ {ds : List PyData}, (∀ x ∈ ds, Fw x w k) → PyData.showableAll ds = true ∧ PyData.hasDictAll ds = false ∧ PyData.depthAll ds ≤ k ∧ piled (PyData.shownAll ds) ≤ ds.length * (w + 2)
  | [], _ => ⟨rfl, rfl, Nat.zero_le _, by show piled [] ≤ _; rw [piled_nil]; exact Nat.zero_le _⟩
  | d :: r, h => by
    obtain ⟨a, b, c, e⟩ := fw_all (fun x hx => h x (List.mem_cons_of_mem _ hx))
    have hd := h d List.mem_cons_self
    refine ⟨by simp only [PyData.showableAll, hd.sh, a, Bool.and_self], by simp only [PyData.hasDictAll, hd.nd, b, Bool.or_self], by simp only [PyData.depthAll]; exact Nat.max_le.mpr ⟨hd.dp, c⟩, ?_⟩
    show piled (d.shown :: PyData.shownAll r) ≤ (r.length + 1) * (w + 2)
    rw [piled_cons, Nat.add_mul]
    have := hd.sz
    omega
theorem listText_le (ts : List Str) : (listText ts).length ≤ piled ts + 4 := by
  cases ts with
  | nil => decide
  | cons t r =>
    show ((textFrom 1 ("[" ++ "" ++ t) r) ++ "]" : Str).length ≤ _
    rw [sapp_len, textFrom_length_pos r 1 _ (by decide), piled_cons, sapp_len, sapp_len]
    show 1 + 0 + t.length + piled r + 1 ≤ _
    omega
theorem tupleText_le (ts : List Str) : (tupleText ts).length ≤ piled ts + 4 := by
  unfold tupleText
  rw [sapp_len, sapp_len]
  have l1 : (Str.ofString (if (ts.length == 1) = true then ",)" else ")")).length ≤ 2 := by split <;> decide
  have l2 : (Str.ofString "(").length = 1 := rfl
  cases ts with
  | nil => decide
  | cons t r =>
    have := join_length_add (t :: r) (by simp)
    omega
theorem fw_lst {ds : List PyData} {w k W : Nat} (h : ∀ x ∈ ds, Fw x w k) (l : ds.length * (w + 2) + 4 ≤ W) : Fw (.list ds) W (k + 1) := by
  obtain ⟨a, b, c, e⟩ := fw_all h
  exact ⟨by simp only [PyData.showable]; exact a, by simp only [PyData.hasDict]; exact b, by simp only [PyData.depth]; omega, by simp only [PyData.shown]; have := listText_le (PyData.shownAll ds); omega⟩
theorem fw_tup {ds : List PyData} {w k W : Nat} (h : ∀ x ∈ ds, Fw x w k) (l : ds.length * (w + 2) + 4 ≤ W) : Fw (.tuple ds) W (k + 1) := by
  obtain ⟨a, b, c, e⟩ := fw_all h
  exact ⟨by simp only [PyData.showable]; exact a, by simp only [PyData.hasDict]; exact b, by simp only [PyData.depth]; omega, by simp only [PyData.shown]; have := tupleText_le (PyData.shownAll ds); omega⟩
theorem fw_nil {w k : Nat} : ∀ x ∈ ([] : List PyData), Fw x w k := fun _ h => nomatch h
theorem fw_cons {w k : Nat} {d : PyData} {r : List PyData} (h : Fw d w k) (t : ∀ x ∈ r, Fw x w k) : ∀ x ∈ d :: r, Fw x w k := fun x hx => by
  rcases List.mem_cons.mp hx with rfl | hx
  · exact h
  · exact t x hx
end Vc

/-! Xla: lambdas handed to a def that calls them where errors are caught (the way of HandS.Lambda; what may be raised is told at the caller's slots), edges that let the tables of code objects grow, the end of a law whose defs make lambdas (my own). -/
namespace Vc
open PySem PySem.Spec PyProof.Rows L2
/-! ### edges that let tables grow -/
structure EdX (S : List Addr) (H H' : Hp) : Prop where
  keep : ∀ a o, a ∉ S → (∀ ps, o ≠ .tbl ps) → H a = some o → H' a = some o
  tup : ∀ a xs, H a = some (.tup xs) → H' a = some (.tup xs)
  frz : ∀ a o u, H a = some (.frz o u) → H' a = some (.frz o u)
/-- nothing is known there, or a table -/
def Nw (H : Hp) (a : Addr) : Prop := H a = none ∨ ∃ ps, H a = some (.tbl ps)
section
variable {S T : List Addr} {H H1 H2 : Hp} {a p : Addr} {o : HO}
theorem Nw.none (h : H a = none) : Nw H a := .inl h
theorem Nw.ne (h : Nw H p) (e : H a = some o) (n : ∀ ps, o ≠ .tbl ps := by intro _ z; cases z) : a ≠ p := fun z => by
  rw [z] at e
  rcases h with h | ⟨ps, h⟩
  · rw [h] at e; cases e
  · rw [h] at e; exact n ps (Option.some.inj e).symm
theorem EdX.of (e : Ed S H H1) : EdX S H H1 := ⟨fun a o n _ h => e.keep a o n h, e.tup, e.frz⟩
theorem EdX.refl : EdX S H H := ⟨fun _ _ _ _ h => h, fun _ _ h => h, fun _ _ _ h => h⟩
theorem EdX.lam (e : LamX.ExtN H H1) : EdX [] H H1 := ⟨fun a o _ n h => e a o h n, fun a xs h => e a _ h (fun _ z => nomatch z), fun a o u h => e a _ h (fun _ z => nomatch z)⟩
theorem EdX.new (e : EdX S H H1) (h : Nw H1 p) : p ∈ S ∨ Nw H p := by
  cases q : H p with
  | none => exact .inr (.inl q)
  | some o =>
    by_cases t : ∃ ps, o = .tbl ps
    · obtain ⟨ps, rfl⟩ := t
      exact .inr (.inr ⟨ps, q⟩)
    · by_cases m : p ∈ S
      · exact .inl m
      · exact (h.ne (e.keep p o m (fun ps z => t ⟨ps, z⟩) q) (fun ps z => t ⟨ps, z⟩) rfl).elim
theorem EdX.new0 (e : EdX [] H H1) (h : Nw H1 p) : Nw H p := (e.new h).elim (fun z => nomatch z) id
theorem EdX.trans (x : EdX S H H1) (y : EdX T H1 H2) (hs : ∀ x ∈ T, x ∈ S ∨ Nw H x) : EdX S H H2 :=
  ⟨fun b u n t h => y.keep b u (fun z => (hs b z).elim n fun w => w.ne h t rfl) t (x.keep b u n t h), fun b xs h => y.tup b xs (x.tup b xs h), fun b v u h => y.frz b v u (x.frz b v u h)⟩
theorem EdX.ex (x : EdX S H H1) (y : EdX [] H1 H2) : EdX S H H2 := x.trans y fun _ z => nomatch z
theorem EdX.one (x : EdX S H H1) (y : EdX [p] H1 H2) (h : p ∈ S ∨ Nw H p) : EdX S H H2 := x.trans y fun b z => by rw [List.mem_singleton.mp z]; exact h
theorem EdX.mono (x : EdX S H H1) (hs : ∀ b ∈ S, b ∈ T) : EdX T H H1 := ⟨fun b u n => x.keep b u fun z => n (hs b z), x.tup, x.frz⟩
theorem EdX.at0 (e : EdX [] H H1) (h : H a = some o) (n : ∀ ps, o ≠ .tbl ps := by intro _ z; cases z) : H1 a = some o := e.keep a o (fun z => nomatch z) n h
theorem EdX.at1 (e : EdX [p] H H1) (m : a ≠ p) (h : H a = some o) (n : ∀ ps, o ≠ .tbl ps := by intro _ z; cases z) : H1 a = some o := e.keep a o (fun z => m (List.mem_singleton.mp z)) n h
theorem EdX.rdt {xs : List V} (e : EdX S H H1) (h : Rd H a (.tup xs)) : Rd H1 a (.tup xs) := h.elim (fun h => .inl (e.tup _ _ h)) fun ⟨o, h⟩ => .inr ⟨o, e.frz _ _ _ h⟩
theorem EdX.sqt {K : PySem.W.Frag} {xs : List V} (e : EdX S H H1) (h : SqT K H a xs) : SqT K H1 a xs := h.elim (fun h => .inl (e.rdt h)) .inr
theorem EdX.sql {K : PySem.W.Frag} {xs : List V} (e : EdX S H H1) (n : a ∉ S) (h : SqL K H a xs) : SqL K H1 a xs := by
  rcases h with (h | ⟨o, h⟩) | h
  · exact .inl (.inl (e.keep _ _ n (fun _ z => nomatch z) h))
  · exact .inl (.inr ⟨o, e.frz _ _ _ h⟩)
  · exact .inr h
end
mutual
theorem Dp.edx {K : PySem.W.Frag} {S : List Addr} {H H' : Hp} (e : EdX S H H') (hS : ∀ a ∈ S, ∀ xs, H a ≠ some (.lst xs)) : ∀ (d : PyData) (v : V), Dp K H v d → Dp K H' v d
  | .none, _, h => by cases h; exact .non
  | .bool b, _, h => by cases h; exact .bl b
  | .int i, _, h => by cases h; exact .int i
  | .str x, _, h => by cases h; exact .str x
  | .list ds, _, h => by
    cases h with
    | lst ha hd =>
      refine .lst ?_ (Dp.edxAll e hS ds _ hd)
      rcases ha with (q | ⟨ob, q⟩) | q
      · exact .inl (.inl (e.keep _ _ (fun z => hS _ z _ q) (fun _ z => nomatch z) q))
      · exact .inl (.inr ⟨ob, e.frz _ _ _ q⟩)
      · exact .inr q
  | .tuple ds, _, h => by
    cases h with
    | tup ha hd => exact .tup (e.sqt ha) (Dp.edxAll e hS ds _ hd)
theorem Dp.edxAll {K : PySem.W.Frag} {S : List Addr} {H H' : Hp} (e : EdX S H H') (hS : ∀ a ∈ S, ∀ xs, H a ≠ some (.lst xs)) : ∀ (ds : List PyData) (vs : List V), DpAll K H vs ds → DpAll K H' vs ds
  | [], _, h => by cases h; exact .nil
  | d :: ds, _, h => by
    cases h with
    | cons h1 h2 => exact .cons (Dp.edx e hS d _ h1) (Dp.edxAll e hS ds _ h2)
end
theorem Dp.edx0 {K : PySem.W.Frag} {H H' : Hp} {d : PyData} {v : V} (e : EdX [] H H') (h : Dp K H v d) : Dp K H' v d := Dp.edx e (fun _ z => nomatch z) d v h
/-- the tables stand where neither they nor code objects are changed -/
theorem tabs_ed {T : List (Addr × Str)} {S : List Addr} {H H' : Hp} (t : LamX.Tabs T H) (e : Ed S H H') (hS : ∀ b ∈ S, Nw H b ∧ (∀ ps, H b ≠ some (.tbl ps)) ∨ ∃ o, H b = some o ∧ (∀ ps, o ≠ .tbl ps) ∧ ∀ c q, o ≠ LamX.CodeO c q) : LamX.Tabs T H' := fun p hp => by
  obtain ⟨ps, h1, h2, h3⟩ := t p hp
  have keep : ∀ {b : Addr} {o : HO}, H b = some o → ((∃ qs, o = .tbl qs) ∨ ∃ c q, o = LamX.CodeO c q) → H' b = some o := fun {b o} h k => by
    refine e.keep b o (fun z => ?_) h
    rcases hS b z with ⟨w, n⟩ | ⟨u, q, n1, n2⟩
    · rcases w with w | ⟨qs, w⟩
      · rw [w] at h; cases h
      · exact n qs w
    · rw [h] at q
      obtain rfl := Option.some.inj q
      rcases k with ⟨qs, k⟩ | ⟨c, r, k⟩
      · exact n1 qs k
      · exact n2 c r k
  refine ⟨ps, keep h1 (.inl ⟨ps, rfl⟩), h2, fun pos cv hc => ?_⟩
  obtain ⟨c, e1, e2⟩ := h3 pos cv hc
  exact ⟨c, e1, keep e2 (.inr ⟨c, _, rfl⟩)⟩
theorem tabs_ed0 {T : List (Addr × Str)} {H H' : Hp} (t : LamX.Tabs T H) (e : Ed [] H H') : LamX.Tabs T H' := tabs_ed t e fun _ z => nomatch z
theorem code_kind {c : Addr} {q : Str} : LamX.CodeO c q = HO.ext fun h => ∃ (oc : Obj) (vs : Array Value) (t : Tok), h.get? c = some oc ∧ oc.data = .fields vs ∧ vs[1]? = some (.str q t) := rfl
theorem tabs_lst {T : List (Addr × Str)} {H H' : Hp} {b : Addr} {xs : List V} (t : LamX.Tabs T H) (e : Ed [b] H H') (hb : H b = some (.lst xs)) : LamX.Tabs T H' := tabs_ed t e fun a z => by
  rw [List.mem_singleton.mp z]
  exact .inr ⟨_, hb, (fun _ z => nomatch z), (fun c q z => by rw [code_kind] at z; cases z)⟩
/-! ### a lambda that is called in a try -/
section
variable {X : Cx} {pins : List (Addr × Obj)} {σ : L2.St} {H : Hp} {s : Shared}
/-- the context of the def at g that got the lambda -/
abbrev gcx (X : Cx) (Ng : List Str) (x : Str) (sg : Scope) (g : Addr) (cdg : Value) (s : Shared) (H : Hp) : Cx := cxOf C8.CX0 X.prog X.w X.K X.mg X.base Ng x sg g cdg X.A X.stack s H C8.E0
theorem pe_actS {Ng : List Str} {qg : Str} {sg : Scope} {g f c' : Addr} {cdg pm ctv : Value} {params : Arguments} {body : Expr} {scope : Scope} {k i : Nat} {a : Str} {pn : List (Addr × Obj)} {xe : Value → Shared → Prop} {W : WX} {t : XK → TE} {p1 p2 : Pos}
    (I : Inv X pins σ H s) (L : LamX.LamS X.env.scope scope)
    (hf : s.heap.get? f = some (PySem.W.kla_obj "<lambda>" (X.env.qual ++ "<lambda>") params body scope (cloFrom X.env.cells scope.names []) pm c' ctv)) (hfn : H f = none) (hfr : f ∉ frs X.stack)
    (bi : bindArgs (PySem.W.kla_fn "<lambda>" (X.env.qual ++ "<lambda>") params body scope (cloFrom X.env.cells scope.names []) pm (.ref c') ctv) ⟨[], []⟩ = pure [])
    (tk : Takes ((gcx X Ng qg sg g cdg s H).tr pn xe) W) (hr : Room (k + 1) (X.A.deeper (envOfC qg sg s.heap.objs.size g cdg)))
    (hbody : ∀ (A : Around) (outer : List Env) (s : Shared) (H : Hp) (E : XK), Room k (A.deeper (LamX.lamEnv X scope s.heap.objs.size f c')) → PE (LamX.lamCx X A outer s H E scope f c') body (t E))
    (hN : Ng[i]? = some a) (hv : Vis sg a) (hd : (a == ("__debug__" : Str)) = false := by decide) (hcd : (a == ("__classdict__" : Str)) = false := by decide) :
    PE ((gcx X Ng qg sg g cdg s H).tr pn xe) (.Call (.Name a p1) [] [] p2) (fun σZ HZ Q => σZ[i]? = some (some (.ref f)) ∧ HZ c' = some (LamX.CodeO c' (X.env.qual ++ "<lambda>")) ∧ t (WE W σZ) σ HZ Q) := by
  refine ⟨fun pz sz σz Hz Q Iz h => ?_⟩
  obtain ⟨hs, hc, ht⟩ := h
  refine wpAny_Call_Name_kw (thn ((pe_var (pos := p1) (i := i) hN hv hd hcd).run pz sz σz Hz (fun v H1 => v = .ref f ∧ H1 = Hz) Iz ⟨.ref f, hs, rfl, rfl⟩) fun u s1 ⟨v, H1, I1, r1, ev, eH⟩ => ?_)
  subst ev
  rw [eH] at I1
  obtain rfl : u = Value.ref f := r1
  have of1 := I1.base.keep f _ hf hfn hfr (fun z => nomatch (show f ∈ ([] : List Addr) from z))
  refine PySem.W.callWith_F0 ⟨_, _, _, _, of1⟩ ?_
  have un : Un (frs X.stack) [] H Hz s.heap s1.heap := I1.base
  obtain ⟨⟨oc, vs, tt, hoc, hdc, hvc⟩, _, _⟩ := I1.hok c' _ hc
  have rc : codeAny (model X.prog X.w) (X.A.deeper (envOfC qg sg s.heap.objs.size g cdg)) (.call (.ref f) ⟨[], []⟩) (CR (L2.CX X.prog X.w) (envOfC qg sg s.heap.objs.size g cdg :: X.stack) X.prog X.w Hz s1 Q (WE W σz)) s1 := by
    refine PySem.W.kla_callFunE hr.depth of1 rfl L.co L.gen rfl ⟨c', oc, vs, tt, rfl, hoc, hdc, hvc⟩ ?_
    rw [bi]
    refine wpAny_pure (wpAny_newFunctionEnv (fun y hy => (L.own y hy).2) (fun y hy => absurd hy (by simp)) (fun h₁ hns hsb => ⟨I1.nolimit.fresh _ hsb, ?_⟩) L.kind)
    have kp : ∀ b o, s1.heap.get? b = some o → h₁.get? b = some o := fun b o e => hsb.extBut b o (Nat.ne_of_lt (Heap.lt_size e)) (Heap.get?_push_of_some _ e)
    have J := LamX.lam_start2 (A := X.A.deeper (envOfC qg sg s.heap.objs.size g cdg)) (outer := envOfC qg sg s.heap.objs.size g cdg :: X.stack) (E := WE W σz) (f := f) (c' := c') (tk := s1.toks + ([] : List (Str × Value)).length) I L I1.env0 hr.hd un hns kp
    refine PySem.W.kla_codeExpr (wpAny_mono ((hbody _ _ s1 Hz _ (hr.deeper _)).run [] _ _ Hz Q J ht) (fun v s' ⟨w', H', J', rv, q⟩ => ?_) fun e s' hq => hq)
    exact ⟨w', H', J'.os, J'.bare, J'.base, J'.hok, rv, q⟩
  refine wpAny_call (codeAny_mono rc fun r s' hq => ?_)
  rcases r with e | fl
  · exact passAt tk σz pz Hz s1 e s' I1 hq
  · cases fl with
    | ret u => exact I1.after hq
    | next => exact False.elim hq
    | brk => exact False.elim hq
    | cont => exact False.elim hq
end
/-- the def that calls what it got, where errors are caught; TT: what it makes of the lambda's reading -/
def GivesS (j : Nat) (X : Cx) (Ng : List Str) (x : Str) (sg : Scope) (g : Addr) (cdg : Value) (bg : List Stmt) (a : Str) (q : Str) (TT : (XK → Hp → VK → Prop) → Hp → VK → Prop) : Prop :=
  ∀ (f c' : Addr) (s : Shared) (H : Hp) (Q : VK) (tl : XK → Hp → VK → Prop), Room j (X.A.deeper (envOfC x sg s.heap.objs.size g cdg)) →
    (∀ (W : WX) (pn : List (Addr × Obj)) (xe : Value → Shared → Prop) (p1 p2 : Pos), Takes ((gcx X Ng x sg g cdg s H).tr pn xe) W →
      PE ((gcx X Ng x sg g cdg s H).tr pn xe) (.Call (.Name a p1) [] [] p2) (fun σZ HZ Q => σZ[0]? = some (some (.ref f)) ∧ HZ c' = some (LamX.CodeO c' q) ∧ tl (WE W σZ) HZ Q)) →
    H c' = some (LamX.CodeO c' q) → TT tl H Q → ∃ t, PSs (gcx X Ng x sg g cdg s H).nox bg t ∧ t { nx := fun _ H' => Q .non H', rt := Q } (L2.start Ng [.ref f]) H
section
variable {X : Cx}
/-- x(lambda: body) -/
theorem pe_lamS {T : List (Addr × Str)} {TT : (XK → Hp → VK → Prop) → Hp → VK → Prop} {x a : Str} {g c P : Addr} {k j : Nat} {st : Stmt} {fd : FuncData} {Ng : List Str} {params : Arguments} {body : Expr} {scope : Scope} {t : XK → TE} {p lpos pos : Pos}
    (F : Fun X.K x x st g fd) (hg : Gl X x) (hm : X.mg x = some (.ref g)) (hb : Binds X.K fd [a] []) (Sg : FnScope Ng [a] (defScope st)) (hNg : Ng[0]? = some a) (hva : Vis (defScope st) a)
    (hG : ∀ cdg, GivesS j X Ng x (defScope st) g cdg (defBody st) a (X.env.qual ++ "<lambda>") TT)
    (TB : LamX.TabB X.base X.mg c P) (hcode : X.env.code = .ref c) (hmT : (P, X.env.qual ++ "<lambda>") ∈ T) (hu : ∀ p ∈ T, p.1 = P → p.2 = X.env.qual ++ "<lambda>") (hr : Room (j + 1) X.A) (hk : k + 1 ≤ j) (L : LamX.LamS X.env.scope scope) (hdef : defaultsOf params X.env = ([], []))
    (bi : ∀ (q : Str) (cl : List (Str × Addr)) (pm cv ctv : Value), bindArgs (PySem.W.kla_fn "<lambda>" q params body scope cl pm cv ctv) ⟨[], []⟩ = pure [])
    (hbody : ∀ (A : Around) (outer : List Env) (s : Shared) (H : Hp) (E : XK) (f c' : Addr), Room k (A.deeper (LamX.lamEnv X scope s.heap.objs.size f c')) → PE (LamX.lamCx X A outer s H E scope f c') body (t E))
    (hdb : (x == ("__debug__" : Str)) = false := by decide) (hd : (a == ("__debug__" : Str)) = false := by decide) (hcd : (a == ("__classdict__" : Str)) = false := by decide) :
    PE X (.Call (.Name x p) [.Lambda params body scope lpos] [] pos) (LamX.tLam T TT t) := by
  refine ⟨fun pins s σ H Q I h => ?_⟩
  obtain ⟨hT, h⟩ := h
  obtain ⟨oc, od, kV, doc, pm0, an, cdv, ct, osl, rfl, lk, hcg⟩ := F.ex
  refine wpAny_Call_Name_kw (ld_glob I hg hm ?_ hdb)
  refine PySem.W.callWith_K (h₀ := X.base) I.ok.mod.kin F.kp ?_ (by rfl) (by rfl)
  show wpAny _ _ (spliced ((false, eval (.Lambda params body scope lpos) X.env) :: backTo pos (starEach [] X.env))) _ _ s
  refine Calls.spliced_cons (LamX.lam_make2 I TB hcode hmT hu hT hdef (L.has I.ok) fun f c' pm' ctv H1 s' I1 eN T1 hf hfn hfr hco => ?_)
  refine Calls.spliced_nil ⟨I1.kIn, ?_⟩
  have rc : codeAny (model X.prog X.w) X.A (.call (.ref g) ⟨[.ref f], []⟩) (CR C8.CX0 X.stack X.prog X.w H1 s' Q C8.E0) s' := by
    refine LamX.run_ofS (N := Ng) (ps := [a]) (us := [.ref f]) (vs := [.ref f]) lk hcg Sg hr I1.env0 (hb s' [.ref f] I1.kIn rfl) (.cons rfl .nil) rfl fun hr' => ?_
    obtain ⟨t', ht', hq'⟩ := hG cdv f c' s' H1 Q (fun E H' Q' => t E σ H' Q') hr' (fun W pn xe p1 p2 tk => pe_actS (k := k) (i := 0) I1 L hf hfn hfr (bi _ _ _ _ _) tk (hr'.mono hk) (fun A outer s H E hr2 => hbody A outer s H E f c' hr2) hNg hva hd hcd) hco (h H1 eN T1)
    exact ⟨t', ht'.nox, hq'⟩
  refine wpAny_call (codeAny_mono rc fun r s2 hq => ?_)
  rcases r with e | fl
  · exact (show False from hq).elim
  · cases fl with
    | ret u => exact I1.after hq
    | next => exact False.elim hq
    | brk => exact False.elim hq
    | cont => exact False.elim hq
end
theorem go_lam {T : List (Addr × Str)} {TT : (XK → Hp → VK → Prop) → Hp → VK → Prop} {t : XK → TE} {σ : L2.St} {H : Hp} {Q : VK} (h : LamX.Tabs T H) (k : ∀ H1, EdX [] H H1 → LamX.Tabs T H1 → TT (fun E H' Q' => t E σ H' Q') H1 Q) : LamX.tLam T TT t σ H Q :=
  ⟨h, fun H1 e t => k H1 (EdX.lam e) t⟩
theorem vals_refs : ∀ {as : List Addr} {us : List Value}, Vals (as.map V.ref) us → us = as.map Value.ref
  | [], _, h => by cases h; rfl
  | a :: r, _, h => by
    cases h with
    | cons h t =>
      have h : _ = Value.ref a := h
      rw [h, vals_refs t]; rfl
theorem kit_none {K : PySem.W.Frag} {D : Addr} : ∀ {as : List Addr}, (∀ c ∈ as, PySem.W.kitOne K (.ref D) (.ref c) = some false) → PySem.W.kitAny K (.ref D) (as.map Value.ref) = some false
  | [], _ => rfl
  | a :: r, h => by
    show PySem.W.kitAny K (.ref D) (Value.ref a :: r.map Value.ref) = some false
    unfold PySem.W.kitAny
    rw [h a List.mem_cons_self]
    exact kit_none fun c hc => h c (List.mem_cons_of_mem _ hc)
/-- isinstance(e, (C1, C2, ..)): of none of them -/
theorem go_isNo {K : PySem.W.Frag} {a D p : Addr} {fs : List (Str × V)} {as : List Addr} {H : Hp} {Q : VK} (hE : ErrAt H a D fs) (C : ExcC K D) (hp : H p = some (.tup (as.map V.ref))) (hk : ∀ c ∈ as, PySem.W.kitOne K (.ref D) (.ref c) = some false) (q : Q (.bl false) H) : rIsTT K [.ref a, .ref p] H Q :=
  ⟨a, D, p, fs, _, _, false, hE, C, rfl, hp, fun _ r => vals_refs r, kit_none hk, q⟩
/-- e.f, the written part named (in a suite that may raise the reading may not name the suite's own place) -/
theorem pe_fldK {X : Cx} {K : PySem.W.Frag} (h : X.K = K) {e : Expr} {f : Str} {pos : Pos} {ta : TE} (he : PE X e ta) (hb : attributeBase e f X.env (eval e X.env) = eval e X.env) : PE X (.Attribute e f pos) (tFld K ta f) := h ▸ pe_fld he hb
theorem go_DGet2 {td ty tx : TE} {σ : L2.St} {H : Hp} {Q : VK} (h : td σ H fun x H1 => ∃ a, x = .ref a ∧ IsD H1 a ∧ ty σ H1 fun y H2 => tx σ H2 fun z H3 => ∃ o, DGet H3 a y o ∧ Q (o.getD z) H3) : tDGet2 td ty tx σ H Q := h
/-- d.get(k, x) -/
theorem go_dget2 {d : Addr} {kvs : List (Key × V)} {k : Key} {z : V} {H : Hp} {Q : VK} (h : H d = some (.dK kvs)) (q : Q ((valV kvs k).getD z) H) : ∃ o, DGet H d (kV k) o ∧ Q (o.getD z) H := ⟨_, .k h, q⟩
/-! ### a def that makes lambdas -/
/-- the code object of the def at f is at c -/
def CodeOf (K : PySem.W.Frag) (f c : Addr) : Prop := ∀ (o : Obj) (fd : FuncData), K.lookup f = some o → o.data = .func fd → fd.code = .ref c
/-- the def at f makes lambdas of the name q, told in a table of T -/
structure LamAt (K : PySem.W.Frag) (mg : Str → Option Value) (base : Heap) (T : List (Addr × Str)) (f : Addr) (q : Str) (c P : Addr) : Prop where
  co : CodeOf K f c
  tb : LamX.TabB base mg c P
  me : (P, q) ∈ T
  un : ∀ p ∈ T, p.1 = P → p.2 = q
section
variable {P : Program} {w : World} {K : PySem.W.Frag} {mg : Str → Option Value} {base : Heap} {x qual : Str} {st : Stmt} {f c : Addr} {fd : FuncData} {N ps : List Str} {k : Nat} {sp : Sp}
theorem Fun.okGL (F : Fun K x qual st f fd) (hc : CodeOf K f c) (S : FnScope N ps (defScope st)) (len : ∀ vs H Q E, sp vs H Q E → vs.length = ps.length)
    (hbody : ∀ (A : Around) (outer : List Env) (s : Shared) (H : Hp) (vs : List V) (Q : VK) (E : XK), (A.deeper (envOfC qual (defScope st) s.heap.objs.size f (.ref c))).guards = some [] → Room k (A.deeper (envOfC qual (defScope st) s.heap.objs.size f (.ref c))) → sp vs H Q E →
      ∃ t, PSs (cxOf CX0 P w K mg base N qual (defScope st) f (.ref c) A outer s H E).nox (defBody st) t ∧ t { nx := fun _ H' => Q .non H', rt := Q } (L2.start N vs) H) : FnG P w K mg base CX0 (k + 1) f fd ps sp := by
  obtain ⟨oc, od, kV, doc, pm, an, cdv, ct, osl, rfl, lk, hcd⟩ := F.ex
  obtain rfl : cdv = .ref c := hc _ _ lk rfl
  refine ⟨len, fun A outer s H args us vs Q E hg hr e0 hb r hsp => ?_⟩
  refine LamX.run_ofS lk hcd S hr e0 hb r (len _ _ _ _ hsp) fun hr' => ?_
  obtain ⟨t, h, q⟩ := hbody A outer s H vs Q E hg hr' hsp
  exact ⟨t, h.nox, q⟩
theorem Fun.okL (F : Fun K x qual st f fd) (hc : CodeOf K f c) (S : FnScope N ps (defScope st)) (len : ∀ vs H Q E, sp vs H Q E → vs.length = ps.length)
    (hbody : ∀ (A : Around) (outer : List Env) (s : Shared) (H : Hp) (vs : List V) (Q : VK) (E : XK), Room k (A.deeper (envOfC qual (defScope st) s.heap.objs.size f (.ref c))) → sp vs H Q E →
      ∃ t, PSs (cxOf CX0 P w K mg base N qual (defScope st) f (.ref c) A outer s H E).nox (defBody st) t ∧ t { nx := fun _ H' => Q .non H', rt := Q } (L2.start N vs) H) : FnOk P w K mg base CX0 (k + 1) f fd ps sp := by
  obtain ⟨oc, od, kV, doc, pm, an, cdv, ct, osl, rfl, lk, hcd⟩ := F.ex
  obtain rfl : cdv = .ref c := hc _ _ lk rfl
  refine ⟨len, fun A outer s H args us vs Q E hr e0 hb r hsp => ?_⟩
  refine LamX.run_ofS lk hcd S hr e0 hb r (len _ _ _ _ hsp) fun hr' => ?_
  obtain ⟨t, h, q⟩ := hbody A outer s H vs Q E hr' hsp
  exact ⟨t, h.nox, q⟩
end
end Vc

/-! Xte: the end of a law whose def is an FnG and whose defs make lambdas: the tables of their code objects are known from the start (my own). -/
namespace Vc
open PySem PySem.Spec PyProof.Rows L2
/-- the def at f has its code at c, whose table is at P -/
def lamB (K : PySem.W.Frag) (f c P : Addr) : Bool :=
  (match K.lookup f with | some o => (match o.data with | .func fd => (match fd.code with | .ref c' => c' == c | _ => false) | _ => false) | none => false) && (PySem.W.codeHdIn K c P && (K.lookup P).isNone)
theorem lamB_ok {K : PySem.W.Frag} {f c P : Addr} (h : lamB K f c P = true) : (∃ (o : Obj) (fd : FuncData), K.lookup f = some o ∧ o.data = .func fd ∧ fd.code = .ref c) ∧ PySem.W.codeHdIn K c P = true ∧ K.lookup P = none := by
  unfold lamB at h
  rw [Bool.and_eq_true, Bool.and_eq_true] at h
  obtain ⟨h1, h2, h3⟩ := h
  refine ⟨?_, h2, Option.isNone_iff_eq_none.mp h3⟩
  cases e : K.lookup f with
  | none => rw [e] at h1; cases h1
  | some o =>
    rw [e] at h1
    cases d : o.data with
    | func fd =>
      simp only [d] at h1
      cases q : fd.code with
      | ref c' =>
        simp only [q] at h1
        exact ⟨o, fd, rfl, d, by rw [q, beq_iff_eq.mp h1]⟩
      | _ => simp only [q] at h1; cases h1
    | _ => simp only [d] at h1; cases h1
theorem lamB_co {K : PySem.W.Frag} {f c P : Addr} (h : lamB K f c P = true) : CodeOf K f c := fun o fd l d => by
  obtain ⟨o', fd', l', d', e⟩ := (lamB_ok h).1
  rw [l] at l'
  obtain rfl := Option.some.inj l'
  rw [d] at d'
  obtain rfl := Data.func.inj d'
  exact e
/-- an empty table -/
def Tab0 (h : Heap) (P : Addr) : Prop := h.get? P = some { cls := .none, data := .fields #[] }
/-- a maker's table is empty behind the start -/
theorem tab0_of {q : Program} {loose : List Str} {mean : ExcName → Option Value} {mg mb : Str → Option Value} {h : Heap} {K : PySem.W.Frag} {n : Str} {f c P : Addr} (T : Top q loose mean mg mb h) (X : K.In h) (hr : ((recsOf q).any fun e => e.name == n) = true) (hm : mg n = some (.ref f)) (hl : lamB K f c P = true) : Tab0 h P ∧ PySem.W.CodeHd h c P ∧ K.lookup P = none := by
  obtain ⟨⟨o, fd, l, d, e⟩, hc, nP⟩ := lamB_ok hl
  have C := PySem.W.codeHd_of_K X hc
  refine ⟨?_, C, nP⟩
  obtain ⟨r, hr1, hr2⟩ := List.any_eq_true.mp hr
  obtain ⟨a, o1, fd1, c1, P1, t1, t2, t3, t4, _, ⟨u, vs, u1, _, u3, u4⟩, t6⟩ := T.tab r hr1
  rw [beq_iff_eq.mp hr2, hm] at t1
  injection t1 with t1
  injection t1 with t1
  subst t1
  rw [X _ _ l] at t2
  obtain rfl := Option.some.inj t2
  rw [d] at t3
  obtain rfl := Data.func.inj t3
  rw [e] at t4
  injection t4 with t4
  subst t4
  obtain ⟨v, ws, _, _, _, _, _, _, _, v1, _, v3, v4, _⟩ := C
  rw [u1] at v1
  obtain rfl := Option.some.inj v1
  rw [u3] at v3
  obtain rfl := Data.fields.inj v3
  rw [u4] at v4
  injection v4 with v4
  injection v4 with v4
  rw [← v4]; exact t6
section
variable {P : Program} {w : World} {K : PySem.W.Frag} {mg mb : Str → Option Value} {k : Nat} {fa a : Addr} {fd : FuncData} {x : Str} {sp : Sp} {s₁ : Shared} {vs : List Value} {ns : List Int} {cs : List (Addr × Addr)}
/-- the script's object, locked, or an empty table -/
def Few (H : Hp) (a : Addr) (cs : List (Addr × Addr)) : Prop := ∀ b u, H b = some u → (b = a ∧ ∃ o ys, u = .frz o (.lst ys)) ∨ ((∃ p ∈ cs, p.2 = b) ∧ u = .tbl #[])
theorem few_call {H : Hp} (KX : K.In s₁.heap) (hns : s₁.heap.Ns mainGlobals mg) (hb : s₁.heap.Ns builtinsNs mb) (hbb : ∀ y : Str, y ≠ "__name__" → mb y = bootBuiltins y) (hlim : s₁.heap.NoLimit) (hg : s₁.gens = #[])
    (hbm : ∃ (bm : Addr) (ob : Obj), mg "__builtins__" = some (.ref bm) ∧ bm ≠ builtinsNs ∧ s₁.heap.get? bm = some ob ∧ ob.cls = .type "module" ∧ ob.dict = some builtinsNs ∧ ob.data = .plain)
    (hT : ∀ p ∈ cs, Tab0 s₁.heap p.2) (nT : ∀ p ∈ cs, K.lookup p.2 = none) (hC : ∀ p ∈ cs, PySem.W.CodeHd s₁.heap p.1 p.2)
    (ha : s₁.heap.get? a = some { cls := .type "list", data := .seq vs.toArray }) (hr : Room k callerA) (F : ∀ base : Heap, K.In base → base.Ns mainGlobals mg → (∀ p ∈ cs, LamX.TabB base mg p.1 p.2) → FnG P w K mg base CX0 k fa fd [x] sp) (hbind : ∀ (s : Shared) (u : Value), BindsTo s fd ⟨[u], []⟩ [(x, u)])
    (L : Few H a cs) (hok : HOk P w H s₁.heap) (nk : H a ≠ none → K.lookup a = none) (hsp : sp [.ref a] H (fun v _ => v = .bl true) E0) :
    codeAny (model P w) callerA (.call (.ref fa) ⟨[.ref a], []⟩) (fun r s' => r = .ok (.ret (.bool true)) ∧ OldK s₁.heap s'.heap ∧ s'.os = s₁.os ∧ AllBare s'.gens) s₁ := by
  -- an object that is neither the script's nor a table is not tracked
  have un : ∀ {b : Addr} {o : Obj}, s₁.heap.get? b = some o → (b = a → False) → o.data ≠ .fields #[] → H b = none := fun {b o} e n1 n2 => by
    cases q : H b with
    | none => rfl
    | some u =>
      rcases L b u q with ⟨z, _⟩ | ⟨⟨p, hp, z⟩, _⟩
      · exact (n1 z).elim
      · have := hT p hp
        rw [z] at this
        rw [show s₁.heap.get? b = some _ from this] at e
        rw [← Option.some.inj e] at n2
        exact (n2 rfl).elim
  have notA : ∀ {b : Addr} {o : Obj}, s₁.heap.get? b = some o → (∀ xs n, o.data ≠ .seq xs n) → b = a → False := fun {b o} e n z => by
    rw [z, ha] at e
    rw [← Option.some.inj e] at n
    exact n _ _ rfl
  have keep : ∀ {b : Addr} {o : Obj}, s₁.heap.get? b = some o → (∀ xs n, o.data ≠ .seq xs n) → o.data ≠ .fields #[] → (hidT s₁.heap H).get? b = some o := fun e n1 n2 => hidT_get e (un e (notA e n1) n2)
  have ns_keep : ∀ {b : Addr} {m : Str → Option Value}, s₁.heap.Ns b m → (hidT s₁.heap H).Ns b m := fun {b m} h => by
    obtain ⟨o, es, ep, e, d, r⟩ := h
    exact ⟨o, es, ep, keep e (fun _ _ z => by rw [d] at z; cases z) (fun z => by rw [d] at z; cases z), d, r⟩
  have k_in : K.In (hidT s₁.heap H) := fun b o e => hidT_get (KX b o e) <| by
    cases q : H b with
    | none => rfl
    | some u =>
      rcases L b u q with ⟨z, _⟩ | ⟨⟨p, hp, z⟩, _⟩
      · have := nk (by rw [← z, q]; exact Option.some_ne_none u)
        rw [← z, e] at this
        cases this
      · have := nT p hp
        rw [z, e] at this
        cases this
  have env : Env0 P w K mg (hidT s₁.heap H) callerA [] s₁ H := by
    obtain ⟨mc, c1, c2⟩ := hlim
    exact { frames := rfl, mod := ⟨k_in, ns_keep hns, ⟨mb, ns_keep hb, hbb⟩, mc, ns_keep c1, c2⟩, bs := fun _ _ e => of_hidT e, bsz := Nat.le_of_eq (hidT_size _ _), funs := trivial, frf := fun _ z => (nomatch (show _ ∈ ([] : List Addr) from z)), hok := hok, bare := .of_eq hg }
  have TB : ∀ p ∈ cs, LamX.TabB (hidT s₁.heap H) mg p.1 p.2 := fun p hp => by
    have t0 := hT p hp
    refine ⟨?_, ?_, ?_⟩
    · obtain ⟨o, us, c1, c2, c3, c4, c5, c6, c7, e1, r1, r2, r3, r⟩ := hC p hp
      refine ⟨o, us, c1, c2, c3, c4, c5, c6, c7, keep e1 (fun _ _ z => by rw [r2] at z; cases z) (fun z => ?_), r1, r2, r3, r⟩
      rw [r2] at z
      rw [Data.fields.inj z] at r3
      cases r3
    · obtain ⟨bm, ob, b1, b2, b3, b4, b5, b6⟩ := hbm
      refine ⟨bm, ob, b1, b2, fun z => ?_, fun z => ?_, keep b3 (fun _ _ z => by rw [b6] at z; cases z) (fun z => by rw [b6] at z; cases z), b4, b5, b6⟩
      · obtain ⟨o, es, ep, e, d, _⟩ := hns
        rw [← z, b3] at e
        rw [← Option.some.inj e, b6] at d
        cases d
      · rw [z, show s₁.heap.get? p.2 = some _ from t0] at b3
        rw [← Option.some.inj b3] at b6
        cases b6
    · intro z
      obtain ⟨o, es, ep, e, d, _⟩ := hns
      rw [z, show s₁.heap.get? p.2 = some _ from t0] at e
      rw [← Option.some.inj e] at d
      cases d
  have go := (F _ k_in (ns_keep hns) TB).run callerA [] s₁ H ⟨[.ref a], []⟩ [.ref a] [.ref a] (fun v _ => v = .bl true) E0 rfl hr env (hbind s₁ (.ref a)) (.cons rfl .nil) hsp
  refine codeAny_mono go fun r s' hq => ?_
  rcases r with e | fl
  · exact False.elim hq
  cases fl with
  | next => exact False.elim hq
  | brk => exact False.elim hq
  | cont => exact False.elim hq
  | ret u =>
    obtain ⟨v, H', os, bare, u2, hok', rv, ev⟩ := hq
    have ev : v = .bl true := ev
    rw [ev] at rv
    cases rv
    have old : ∀ b o, s₁.heap.get? b = some o → asItWas s₁.heap s'.heap b o ∧ ∃ o', s'.heap.get? b = some o' := fun b o e => by
      cases q : H b with
      | none =>
        have := u2.keep b o e q (fun z => nomatch (show b ∈ ([] : List Addr) from z)) (fun z => nomatch (show b ∈ ([] : List Addr) from z))
        exact ⟨.inl this, _, this⟩
      | some v2 =>
        rcases L b v2 q with ⟨_, ob, ys, ez⟩ | ⟨⟨p, hp, ez⟩, et⟩
        · rw [ez] at q
          have o1 := (hok b _ q).1
          have o2 := (hok' b _ (u2.frzs b ob _ q)).1
          rw [e] at o1
          rw [← Option.some.inj o1] at o2
          exact ⟨.inl o2, _, o2⟩
        · rw [et] at q
          obtain ⟨more, hm⟩ := u2.tbls b #[] q
          have g := hok' b _ hm
          have g : s'.heap.get? b = some { cls := .none, data := .fields (#[] ++ more) } := g
          have t0 := hT p hp
          have tc := ((hC p hp).tab t0).isCodeTable
          rw [ez] at t0 tc
          rw [show s₁.heap.get? b = some _ from t0] at e
          rw [← Option.some.inj e]
          exact ⟨.inr (.inl ⟨tc, rfl, #[], more, rfl, g⟩), _, g⟩
    exact ⟨rfl, ⟨fun b o e => (old b o e).1, fun b o e => (old b o e).2⟩, os, bare⟩
theorem law_callGT (KX : K.In s₁.heap) (hns : s₁.heap.Ns mainGlobals mg) (hb : s₁.heap.Ns builtinsNs mb) (hbb : ∀ y : Str, y ≠ "__name__" → mb y = bootBuiltins y) (hlim : s₁.heap.NoLimit) (hg : s₁.gens = #[])
    (hbm : ∃ (bm : Addr) (ob : Obj), mg "__builtins__" = some (.ref bm) ∧ bm ≠ builtinsNs ∧ s₁.heap.get? bm = some ob ∧ ob.cls = .type "module" ∧ ob.dict = some builtinsNs ∧ ob.data = .plain)
    (hT : ∀ p ∈ cs, Tab0 s₁.heap p.2) (nT : ∀ p ∈ cs, K.lookup p.2 = none) (hC : ∀ p ∈ cs, PySem.W.CodeHd s₁.heap p.1 p.2)
    (ha : s₁.heap.get? a = some { cls := .type "list", data := .seq vs.toArray }) (hi : IntsAre vs ns) (hl : ns.length ≤ sizeLine) (hr : Room k callerA) (F : ∀ base : Heap, K.In base → base.Ns mainGlobals mg → (∀ p ∈ cs, LamX.TabB base mg p.1 p.2) → FnG P w K mg base CX0 k fa fd [x] sp) (hbind : ∀ (s : Shared) (u : Value), BindsTo s fd ⟨[u], []⟩ [(x, u)])
    (hsp : ∀ H : Hp, (∀ p ∈ cs, H p.2 = some (.tbl #[])) → SqL K H a (ns.map V.int) → sp [.ref a] H (fun v _ => v = .bl true) E0) :
    codeAny (model P w) callerA (.call (.ref fa) ⟨[.ref a], []⟩) (fun r s' => r = .ok (.ret (.bool true)) ∧ OldK s₁.heap s'.heap ∧ s'.os = s₁.os ∧ AllBare s'.gens) s₁ := by
  have rv := vals_ints hi
  have len : vs.length = ns.length := hi.length
  have aT : ∀ p ∈ cs, p.2 ≠ a := fun p hp z => by
    have := hT p hp
    rw [z] at this
    rw [show s₁.heap.get? a = some _ from this] at ha
    cases ha
  -- the heap of the tables alone
  generalize hH0 : (fun b => if ∃ p ∈ cs, p.2 = b then some (.tbl #[]) else none : Hp) = H0
  have t0 : ∀ p ∈ cs, H0 p.2 = some (.tbl #[]) := fun p hp => by rw [← hH0]; exact if_pos ⟨p, hp, rfl⟩
  have only0 : ∀ b u, H0 b = some u → (∃ p ∈ cs, p.2 = b) ∧ u = .tbl #[] := fun b u e => by
    rw [← hH0] at e
    by_cases z : ∃ p ∈ cs, p.2 = b
    · have e : (if ∃ p ∈ cs, p.2 = b then some (HO.tbl #[]) else none) = some u := e
      rw [if_pos z] at e
      exact ⟨z, (Option.some.inj e).symm⟩
    · have e : (if ∃ p ∈ cs, p.2 = b then some (HO.tbl #[]) else none) = some u := e
      rw [if_neg z] at e
      cases e
  have a0 : H0 a = none := by
    cases q : H0 a with
    | none => rfl
    | some u =>
      obtain ⟨⟨p, hp, z⟩, _⟩ := only0 a u q
      exact (aT p hp z).elim
  have okT : ∀ b u, H0 b = some u → ObjOk P w H0 s₁.heap b u := fun b u e => by
    obtain ⟨⟨p, hp, z⟩, eu⟩ := only0 b u e
    rw [eu, ← z]
    exact hT p hp
  cases hk : K.lookup a with
  | some o =>
    have e := KX a o hk
    rw [ha] at e
    injection e with e
    subst e
    exact few_call (H := H0) KX hns hb hbb hlim hg hbm hT nT hC ha hr F hbind (fun b u e => .inr (only0 b u e)) okT (fun z => (z a0).elim) (hsp H0 t0 (.inr ⟨_, vs.toArray, _, hk, rfl, rfl, rfl, by rw [List.size_toArray, len]; exact hl, by simpa using rv⟩))
  | none =>
    generalize ho : ({ cls := .type "list", data := .seq vs.toArray } : Obj) = ob at ha
    generalize hH : upd H0 a (.frz ob (.lst (ns.map V.int))) = H
    have at_a : H a = some (.frz ob (.lst (ns.map V.int))) := by rw [← hH]; exact upd_same
    have off : ∀ b, b ≠ a → H b = H0 b := fun b n => by rw [← hH]; exact upd_ne n
    refine few_call (H := H) KX hns hb hbb hlim hg hbm hT nT hC (by rw [ha, ho]) hr F hbind (fun b u e => ?_) (fun b u e => ?_) (fun _ => hk) (hsp H (fun p hp => by rw [off _ (aT p hp)]; exact t0 p hp) (.inl (.inr ⟨ob, at_a⟩)))
    · by_cases z : b = a
      · rw [z, at_a] at e
        exact .inl ⟨z, ob, _, (Option.some.inj e).symm⟩
      · rw [off b z] at e
        exact .inr (only0 b u e)
    · by_cases z : b = a
      · rw [z, at_a] at e
        rw [z, ← Option.some.inj e]
        exact ⟨ha, by rw [List.length_map]; exact hl, vs, 0, rv, by rw [ha, ← ho]⟩
      · rw [off b z] at e
        obtain ⟨⟨p, hp, zp⟩, eu⟩ := only0 b u e
        rw [eu, ← zp]
        exact hT p hp
end
theorem walk_ofGT {l : PySem.W.OpenLaw} {n k : Nat} {q : Program} {loose : List Str} {XP : (Str → Option Value) → Heap → Prop} {YP : World → Heap → Prop} {d : DefRec} {K : Params → PySem.W.Frag} {sp : World → Sp} {x : Str} {cs : List (Addr × Addr)}
    (hn : l.most = some n) (hn2 : n ≤ sizeLine) (hdf : d.params.defaults = []) (hr : Room k callerA) (hY : ∀ (w : World) (h : Heap), YP w h → (K w.params).In h)
    (F : ∀ (w : World) (mg : Str → Option Value) (fa : Addr) (h : Heap), (K w.params).In h → h.Ns mainGlobals mg → mg d.name = some (.ref fa) →
      (∀ p ∈ cs, ∃ (y : Str) (f : Addr), ((recsOf q).any fun e => e.name == y) = true ∧ mg y = some (.ref f) ∧ lamB (K w.params) f p.1 p.2 = true) ∧
      ∃ fd : FuncData, (∀ (s : Shared) (u : Value), BindsTo s fd ⟨[u], []⟩ [(x, u)]) ∧ ∀ base : Heap, (K w.params).In base → base.Ns mainGlobals mg → (∀ p ∈ cs, LamX.TabB base mg p.1 p.2) → FnG l.prog w (K w.params) mg base CX0 k fa fd [x] (sp w))
    (hsp : ∀ (w : World) (H : Hp) (a : Addr) (ns : List Int), ns.length ≤ n → (∀ p ∈ cs, H p.2 = some (.tbl #[])) → SqL (K w.params) H a (ns.map V.int) → sp w [.ref a] H (fun v _ => v = .bl true) E0) :
    PySem.W.WalkO q loose XP YP l.row.toRowW d [] (fun f vs => PySem.call f vs) := by
  refine Att.attach_call hn hdf fun w s₀ s₁ mg mb fa o pm cd doc a vs ns G Y ho hd hcd hmg hobj hints hlen hg => ?_
  obtain ⟨hcs, fd, hb, hF⟩ := F w mg fa _ (hY w _ Y) G.T.g hmg
  have tb : ∀ p ∈ cs, Tab0 s₁.heap p.2 ∧ PySem.W.CodeHd s₁.heap p.1 p.2 ∧ (K w.params).lookup p.2 = none := fun p hp => by
    obtain ⟨y, f, h1, h2, h3⟩ := hcs p hp
    exact tab0_of G.T (hY w _ Y) h1 h2 h3
  exact law_callGT (hY w _ Y) G.T.g G.T.b G.T.builtins G.T.nolimit hg G.T.bmain (fun p hp => (tb p hp).1) (fun p hp => (tb p hp).2.2) (fun p hp => (tb p hp).2.1) hobj hints (Nat.le_trans hlen hn2) hr hF hb fun H hT hS => hsp w H a ns hlen hT hS
/-- the tables of the start -/
theorem tabs0 {cs : List (Addr × Addr)} {T : List (Addr × Str)} {H : Hp} (h : ∀ p ∈ cs, H p.2 = some (.tbl #[])) (hT : ∀ t ∈ T, ∃ p ∈ cs, p.2 = t.1) : LamX.Tabs T H := fun t ht => by
  obtain ⟨p, hp, e⟩ := hT t ht
  exact ⟨#[], by rw [← e]; exact h p hp, trivial, fun pos cv hc => (nomatch hc)⟩
/-- two makers' tables -/
theorem un2 {P1 P2 : Addr} {q1 q2 : Str} (ne : P1 ≠ P2) : (∀ p ∈ [(P1, q1), (P2, q2)], p.1 = P1 → p.2 = q1) ∧ ∀ p ∈ [(P1, q1), (P2, q2)], p.1 = P2 → p.2 = q2 := by
  refine ⟨fun p hp z => ?_, fun p hp z => ?_⟩
  · rcases List.mem_cons.mp hp with h | h
    · rw [h]
    · rw [List.mem_singleton.mp h] at z
      exact (ne z.symm).elim
  · rcases List.mem_cons.mp hp with h | h
    · rw [h] at z
      exact (ne z).elim
    · rw [List.mem_singleton.mp h]
/-- three makers' tables -/
theorem un3 {P1 P2 P3 : Addr} {q1 q2 q3 : Str} (n1 : P1 ≠ P2) (n2 : P1 ≠ P3) (n3 : P2 ≠ P3) : (∀ p ∈ [(P1, q1), (P2, q2), (P3, q3)], p.1 = P1 → p.2 = q1) ∧ (∀ p ∈ [(P1, q1), (P2, q2), (P3, q3)], p.1 = P2 → p.2 = q2) ∧ ∀ p ∈ [(P1, q1), (P2, q2), (P3, q3)], p.1 = P3 → p.2 = q3 := by
  refine ⟨fun p hp z => ?_, fun p hp z => ?_, fun p hp z => ?_⟩ <;> simp only [List.mem_cons, List.not_mem_nil, or_false] at hp <;> rcases hp with h | h | h <;> rw [h] at z ⊢
  · exact (n1 z.symm).elim
  · exact (n2 z.symm).elim
  · exact (n1 z).elim
  · exact (n3 z.symm).elim
  · exact (n2 z).elim
  · exact (n3 z).elim
end Vc

/-! Xa: x + y by an own __add__; p[::-1] of a pair (my own). -/
namespace Vc
open PySem PySem.Spec PyProof.Rows L2
section
variable {X : Cx} {C g : Addr} {fd : FuncData} {ps : List Str} {sp : Sp} {n : Nat}
/-- x + y by x's own __add__, y of the same class -/
def rAddO (K : PySem.W.Frag) (C : Addr) (sp : Sp) : R2 := fun x y H Q => ∃ (a dx : Addr) (fs : List (Str × V)), x = .ref a ∧ H a = some (.ins C dx fs) ∧ TyX K H y (.ref C) ∧ sp [x, y] H (fun v H' => ∃ b, v = .ref b ∧ Q (.ref b) H') E0
theorem op_addO (F : FnOk X.prog X.w X.K X.mg X.base CX0 n g fd ps sp) (hr : Room n X.A) (m : SpM X.K C g "__add__") (sf : PySem.W.selfFirst X.K C = true) (hb : Binds X.K fd ps []) : OpR X (binaryOp .Add) (rAddO X.K C sp) := by
  intro pins s σ H x y v u Q I rx ry h
  obtain ⟨a, dx, fs, rfl, ha, ty, q⟩ := h
  cases rx
  obtain ⟨mA, J, _⟩ := ins_get I.hok ha
  obtain ⟨od, J, _⟩ := J.look
  obtain ⟨_, Z, p, _⟩ := kit_of I ry ty
  obtain ⟨mm, hF⟩ := I.fr
  refine PySem.W.binop_K (op := .Add) hF I.ok.mod.kin J (Z.ty _ _ I.kIn p) sf m.at_ m.fn ?_
  refine wpAny_mono (runO (vs := [.ref a, y]) F hr hb I I.env0 (.cons rfl (.cons ry .nil)) q) (fun w' s' hq => ?_) (fun _ _ e => e)
  obtain ⟨z, H', I', rz, b, rfl, qz⟩ := hq
  cases rz
  exact ⟨.ref b, H', I', rfl, qz⟩
theorem go_addO {K : PySem.W.Frag} {H : Hp} {Q : VK} {a dx : Addr} {fs : List (Str × V)} {y : V} (ha : H a = some (.ins C dx fs)) (ty : TyX K H y (.ref C)) (q : sp [.ref a, y] H (fun v H' => ∃ b, v = .ref b ∧ Q (.ref b) H') E0) : rAddO K C sp (.ref a) y H Q := ⟨a, dx, fs, rfl, ha, ty, q⟩
end
section
variable {prog : Program} {w : World} {A : Around} {E : Value → Shared → Prop} {s : Shared}
theorem sliceApplied_rev {sl : Addr} {vl vu vs : Value} {Q : Int × Int × Nat → Shared → Prop} (hs : s.heap.IsSliceOf sl vl vu vs) (pl : IsPart vl none) (pu : IsPart vu none) (p : IsPart vs (some (-1)))
    (h : Q (1, -1, 2) s) : wpAny (model prog w) A (Builtin.Slice.sliceApplied (.ref sl) (pure (2 : Int))) Q E s := by
  obtain ⟨os, hos, hcs, hds⟩ := id hs
  unfold Builtin.Slice.sliceApplied Builtin.Slice.sliceFields
  refine wpAny_bind (wpAny_bind (wpAny_field hos hds (x := vl) rfl (wpAny_bind (wpAny_field hos hds (x := vu) rfl (wpAny_bind (wpAny_field hos hds (x := vs) rfl (wpAny_pure ?_)))))))
  refine wpAny_bind (HT.slicePart_ p ?_)
  show wpAny _ _ (if ((-1 : Int) == 0) = true then _ else _) _ _ s
  rw [if_neg (by decide)]
  refine wpAny_bind (HT.slicePart_ pl (wpAny_bind (HT.slicePart_ pu (wpAny_bind (wpAny_pure ?_)))))
  exact wpAny_pure h
theorem getItem_pair_rev {t sl : Addr} {a b : Value} {vl vu vs : Value} {Q : Value → Shared → Prop} (ht : IsTup s.heap t #[a, b]) (hs : s.heap.IsSliceOf sl vl vu vs) (pl : IsPart vl none) (pu : IsPart vu none) (p : IsPart vs (some (-1)))
    (h : Q (.ref s.heap.objs.size) { s with heap := s.heap.push { cls := .type "tuple", data := .seq #[b, a] } }) : wpAny (model prog w) A (getItem (.ref t) (.ref sl)) Q E s := by
  have htake : sizeOk (.seq #[b, a]) := by
    show 2 ≤ sizeLine
    decide
  obtain ⟨os, hos, hcs, hds⟩ := id hs
  have hTs : s.TypeIs (.ref sl) "slice" := ⟨os, hos, hcs⟩
  unfold getItem
  try with_reducible refine wpAny_holding ?_
  first | refine wpAny_bind (wpAny_pure ?_) | skip
  refine wpAny_bind (wpAny_sequenceKey ht.typeIs (by decide) ?_)
  refine wpAny_bind (wpAny_callSpecial?_slot (name := Str.ofString "__getitem__") ht.typeIs PyProof.Rows.slot_tuple_getitem
    (wpAny_call_entry PyProof.Rows.slot_tuple_getitem ht.typeIs PyProof.Rows.entry_tuple_getitem ?_ (PyProof.Rows.args_tuple_getitem _ _)))
  show wpAny _ _ (Builtin.Tuple.tupleItemsOf (.ref t) >>= _) _ _ s
  refine wpAny_bind (PyProof.Rows.tupleItemsOf_ ht ?_)
  refine wpAny_bind (wpAny_typeOf hTs ?_)
  rw [if_pos (by decide)]
  refine wpAny_bind (sliceApplied_rev hs pl pu p ?_)
  show wpAny _ _ (if ((1 : Int) == 0 && (-1 : Int) == 1 && 2 == (#[a, b] : Array Value).size) = true then _ else _) _ _ s
  rw [if_neg (by show ¬ ((1 : Int) == 0 && (-1 : Int) == 1 && 2 == 2) = true; decide)]
  have pick : ((List.range 2).filterMap fun (m : Nat) => (#[a, b] : Array Value)[((1 : Int) + (m : Int) * (-1)).toNat]?).toArray = #[b, a] := rfl
  rw [pick]
  first
    | exact wpAny_bind (m := Builtin.Tuple.tupleExact _) (wpAny_newObj_type (wpAny_pure ⟨_, rfl, wpAny_pure h⟩) htake)
    | exact wpAny_bind (m := Builtin.Tuple.tupleExact _) (wpAny_newObj_type (wpAny_bind (wpAny_pure (wpAny_pure ⟨_, rfl, wpAny_pure h⟩))) htake)
    | exact wpAny_bind (wpAny_bind (m := Builtin.Tuple.tupleExact _) (wpAny_newObj_type (wpAny_pure (wpAny_pure ⟨_, rfl, wpAny_pure h⟩)) htake))
    | exact wpAny_bind (wpAny_bind (m := Builtin.Tuple.tupleExact _) (wpAny_newObj_type (wpAny_pure ⟨_, rfl, wpAny_pure h⟩) htake))
end
/-- p[::-1], p a pair -/
def tRev2 (K : PySem.W.Frag) (te : TE) : TE := fun σ H Q => te σ H fun x H1 => ∃ a u v, x = .ref a ∧ SqT K H1 a [u, v] ∧ ∀ p, H1 p = none → Q (.ref p) (upd H1 p (.tup [v, u]))
theorem pe_rev2 {X : Cx} {e : Expr} {te : TE} {k : Nat} {p1 p2 p3 pos : Pos} (he : PE X e te) : PE X (.Subscript e (.Slice none none (some (.UnaryOp .USub (.Constant (.int 1) k p1) p2)) p3) pos) (tRev2 X.K te) := by
  refine ⟨fun pins s σ H Q I h => ?_⟩
  refine Subscript_ (thn (he.run pins s σ H _ I h) fun v s1 ⟨x, H1, I1, r1, q1⟩ => ?_)
  obtain ⟨a, y, z, ex, hx, q⟩ := q1
  subst ex
  cases r1
  have hst : PO X (some (.UnaryOp .USub (.Constant (.int 1) k p1) p2)) (tPart (tUn (rU fun i => .int (-i)) (tC (.int 1)))) := po_some (pe_un un_neg pe_int)
  refine wpAny_Slice (thn (po_none.run pins s1 σ H1 (fun o H2 => o = none ∧ H2 = H1) I1 ⟨rfl, rfl⟩) fun vl s2 ⟨l, H2, I2, pl, el, e2⟩ => ?_)
  subst el e2
  refine thn (po_none.run pins s2 σ H2 (fun o H3 => o = none ∧ H3 = H2) I2 ⟨rfl, rfl⟩) fun vu s3 ⟨u, H3, I3, pu, eu, e3⟩ => ?_
  subst eu e3
  refine thn (hst.run pins s3 σ H3 (fun o H4 => o = some (-1) ∧ H4 = H3) I3 ⟨1, rfl, -1, rfl, rfl, rfl⟩) fun vs s4 ⟨o, H4, I4, ps, eo, e4⟩ => ?_
  subst eo e4
  have I5 : Inv X pins σ H4 { s4 with heap := s4.heap.push { cls := .type "slice", data := .fields #[vl, vu, vs] } } := I4.kept (t' := s4.toks) fun b ob q => Heap.get?_push_of_some _ q
  obtain ⟨its, r, ht, hz⟩ := I5.tuple hx
  cases r with
  | cons ry r =>
    cases r with
    | cons rz r =>
      cases r
      show wpAny (model X.prog X.w) X.A (subscriptTail e (.Slice none none (some (.UnaryOp .USub (.Constant (.int 1) k p1) p2)) p3) (.ref a) (.ref s4.heap.objs.size)) (EP X pins σ Q) X.xe { s4 with heap := s4.heap.push { cls := .type "slice", data := .fields #[vl, vu, vs] } }
      refine tail_any (ops := [.ref a, .ref s4.heap.objs.size]) ht.typeIs (PyProof.Rows.slot_tuple_getitem.lookup) ?_ (by with_unfolding_all rfl)
      refine getItem_pair_rev ht (Heap.IsSliceOf.new _ vl vu vs) pl pu ps ?_
      refine ⟨.ref _, _, I5.laid (t' := s4.toks) (o := .tup [z, y]) (fun b ob q => Heap.get?_push_of_some _ q) (Nat.le_refl _) ?_, rfl, q _ (I5.hok.fresh (Nat.le_refl _))⟩
      exact ⟨by show 2 ≤ sizeLine; decide, _, .cons rz (.cons ry .nil), IsTup.new _ _⟩
theorem go_rev2 {K : PySem.W.Frag} {te : TE} {σ : L2.St} {H : Hp} {Q : VK} (h : te σ H fun x H1 => ∃ a u v, x = .ref a ∧ SqT K H1 a [u, v] ∧ ∀ p, H1 p = none → Q (.ref p) (upd H1 p (.tup [v, u]))) : tRev2 K te σ H Q := h
end Vc

/-! Xad: x + y of two own classes, of a built-in and an own one by __radd__; what is raised passes (my own). -/
namespace Vc
open PySem PySem.Spec PyProof.Rows L2
open PySem.W in
/-- x + y, x of C, y of D: x's own method is asked first, for D is no subclass of C -/
theorem binop_two {prog : Program} {w : World} {A : Around} {E : Value → Shared → Prop} {s : Shared} {K : Frag} {x C D L f : Addr} {h₀ : Heap} {m : Str → Option Value} {ox : Obj} {od : Option Obj} {op : Operator} {b : Value} {rc rd : Option Value} {Q : Value → Shared → Prop}
    (F : Fr h₀ L s.heap m) (X₀ : K.In h₀) (I : InstAt s.heap x ox C od) (hb : Looks (model prog w) s.heap (typeOf b) (.ref D)) (hc : selfFirst K C = true)
    (hs : findIn K (.ref C) (PySem.dunder op.info.2) = some (some (.ref f))) (hf : isFn K (.ref f) = true) (hr : findIn K (.ref C) (dunderR op.info.2) = some rc) (hp : rc = none ∨ ∃ g : Addr, rc = some (.ref g))
    (hcd : selfFirst K D = true) (hds : ∃ g : Addr, findIn K (.ref D) (PySem.dunder op.info.2) = some (some (.ref g))) (hdr : findIn K (.ref D) (dunderR op.info.2) = some rd) (hdp : rd = none ∨ ∃ g : Addr, rd = some (.ref g)) (ne : C ≠ D) (hsub : subIn K (.ref D) (.ref C) = some false)
    (h : wpAny (model prog w) A (call (.ref f) [.ref x, b]) (PySem.W.CmpBack Q) E s) : wpAny (model prog w) A (binaryOp op (.ref x) b) Q E s := by
  have X := X₀.keeps F.keep
  obtain ⟨g, hds⟩ := hds
  obtain ⟨cd, rest, hcd1, hm⟩ := ksp_first hc
  obtain ⟨cd2, rest2, hcd2, hm2⟩ := ksp_first hcd
  rcases hi : op.info with ⟨sym, nm'⟩
  rw [hi] at hs hr hds hdr
  dsimp only at hs hr hds hdr
  have one := ksp_try X I hs hf h
  obtain ⟨hh, gg, dd, tt, os⟩ := s
  have L1 : Looks (model prog w) hh (typeOf (.ref x)) (.ref C) := I.type
  have L2 : Looks (model prog w) hh (typeOf b) (.ref D) := hb
  have L3 : Looks (model prog w) hh (fillsNumberSlot (.ref C) nm') true := fills_K X hcd1 hm hs
  have L4 : Looks (model prog w) hh (fillsNumberSlot (.ref D) nm') true := fills_K X hcd2 hm2 hds
  have L5 : Looks (model prog w) hh (isSubtype (.ref D) (.ref C)) false := looks_subIn X hsub
  have L6 : Looks (model prog w) hh (numberSlotInPython (.ref C) nm') true := ksp_inPy X hs hr hp
  have L7 : Looks (model prog w) hh (numberSlotInPython (.ref D) nm') true := ksp_inPy X hds hdr hdp
  have hne : (Value.ref C == Value.ref D) = false := Bool.eq_false_iff.mpr fun q => ne (by have := beq_iff_eq.mp q; cases this; rfl)
  simp only [binaryOp, hi]
  refine wpAny_holding (wpAny_bind ?_)
  unfold binaryOp1
  refine wpAny_bind (L1.at (wpAny_bind (L2.at (wpAny_bind (L3.at ?_)))))
  simp only [hne, Bool.false_eq_true, if_false]
  ksp_lk
  refine wpAny_mono one (fun r s' hr' => ?_) fun _ _ e => e
  obtain ⟨v, rfl, hq⟩ := hr'
  ksp_lk
  exact hq
open PySem.W in
/-- x + y, x of a built-in type without a number slot, y of D: y's reflected method -/
theorem binop_refl {prog : Program} {w : World} {A : Around} {E : Value → Shared → Prop} {s : Shared} {K : Frag} {y D L f : Addr} {T : String} {h₀ : Heap} {m : Str → Option Value} {oy : Obj} {od : Option Obj} {op : Operator} {a : Value} {fo ro : Option Value} {Q : Value → Shared → Prop}
    (F : Fr h₀ L s.heap m) (X₀ : K.In h₀) (I : InstAt s.heap y oy D od) (ha : Looks (model prog w) s.heap (typeOf a) (.type T))
    (h1 : findIn K (.type T) (PySem.dunder op.info.2) = some fo) (h2 : findIn K (.type T) (dunderR op.info.2) = some ro) (no : ((fo.isSome && !isSeqSlot fo) || (ro.isSome && !isSeqSlot ro)) = false)
    (hcd : selfFirst K D = true) (hds : ∃ g : Addr, findIn K (.ref D) (PySem.dunder op.info.2) = some (some (.ref g))) (hs : findIn K (.ref D) (dunderR op.info.2) = some (some (.ref f))) (hf : isFn K (.ref f) = true)
    (h : wpAny (model prog w) A (call (.ref f) [.ref y, a]) (PySem.W.CmpBack Q) E s) : wpAny (model prog w) A (binaryOp op a (.ref y)) Q E s := by
  have X := X₀.keeps F.keep
  obtain ⟨g, hds⟩ := hds
  obtain ⟨cd2, rest2, hcd2, hm2⟩ := ksp_first hcd
  rcases hi : op.info with ⟨sym, nm'⟩
  rw [hi] at hs hds h1 h2
  dsimp only at hs hds h1 h2
  have one := ksp_try X I hs hf h
  obtain ⟨hh, gg, dd, tt, os⟩ := s
  have L1 : Looks (model prog w) hh (typeOf a) (.type T) := ha
  have L2 : Looks (model prog w) hh (typeOf (.ref y)) (.ref D) := I.type
  have L3 : Looks (model prog w) hh (fillsNumberSlot (.type T) nm') false := no ▸ ksp_fillsT X h1 h2
  have L4 : Looks (model prog w) hh (fillsNumberSlot (.ref D) nm') true := fills_K X hcd2 hm2 hds
  have hne : (Value.type T == Value.ref D) = false := Bool.eq_false_iff.mpr fun q => by cases beq_iff_eq.mp q
  simp only [binaryOp, hi]
  refine wpAny_holding (wpAny_bind ?_)
  unfold binaryOp1
  refine wpAny_bind (L1.at (wpAny_bind (L2.at (wpAny_bind (L3.at ?_)))))
  simp only [hne, Bool.false_eq_true, if_false]
  ksp_lk
  refine wpAny_mono one (fun r s' hr' => ?_) fun _ _ e => e
  obtain ⟨v, rfl, hq⟩ := hr'
  ksp_lk
  exact hq
/-- none or a def -/
def fnN (v : Option (Option Value)) : Bool := match v with | some none => true | some (some (.ref _)) => true | _ => false
theorem fnN_ok {v : Option (Option Value)} (h : fnN v = true) : ∃ r : Option Value, v = some r ∧ (r = none ∨ ∃ g : Addr, r = some (.ref g)) := by
  match v, h with
  | some none, _ => exact ⟨_, rfl, .inl rfl⟩
  | some (some (.ref g)), _ => exact ⟨_, rfl, .inr ⟨g, rfl⟩⟩
def fnR (v : Option (Option Value)) : Bool := match v with | some (some (.ref _)) => true | _ => false
theorem fnR_ok {v : Option (Option Value)} (h : fnR v = true) : ∃ g : Addr, v = some (some (.ref g)) := by
  match v, h with
  | some (some (.ref g)), _ => exact ⟨g, rfl⟩
/-- C + D goes to C's own method -/
def twoB (K : PySem.W.Frag) (C D : Addr) : Bool := PySem.W.selfFirst K C && (fnN (PySem.W.findIn K (.ref C) "__radd__") && (PySem.W.selfFirst K D && (fnR (PySem.W.findIn K (.ref D) "__add__") && (fnN (PySem.W.findIn K (.ref D) "__radd__") && (C != D && PySem.W.subIn K (.ref D) (.ref C) == some false)))))
/-- list + D goes to D's reflected method -/
def reflB (K : PySem.W.Frag) (D : Addr) : Bool := (match PySem.W.findIn K (.type "list") "__add__", PySem.W.findIn K (.type "list") "__radd__" with | some fo, some ro => !((fo.isSome && !isSeqSlot fo) || (ro.isSome && !isSeqSlot ro)) | _, _ => false) && (PySem.W.selfFirst K D && fnR (PySem.W.findIn K (.ref D) "__add__"))
section
variable {X : Cx} {C D g : Addr} {fd : FuncData} {ps : List Str} {sp : Sp} {n : Nat} {CX : CXT} {E : L2.St → XK} {a b : Expr} {ta tb : TE} {pos : Pos}
def tAddS (K : PySem.W.Frag) (C D : Addr) (sp : Sp) (E : L2.St → XK) (ta tb : TE) : TE := fun σ H Q => ta σ H fun x H1 => tb σ H1 fun y H2 => ∃ (a dx : Addr) (fs : List (Str × V)), x = .ref a ∧ H2 a = some (.ins C dx fs) ∧ TyX K H2 y (.ref D) ∧ sp [.ref a, y] H2 (fun v H' => ∃ b, v = .ref b ∧ Q (.ref b) H') (E σ)
theorem ep_ref {pins : List (Addr × Obj)} {σ : L2.St} {Q : VK} {v : Value} {s : Shared} (h : EP X pins σ (fun v H' => ∃ b, v = .ref b ∧ Q (.ref b) H') v s) : PySem.W.CmpBack (EP X pins σ Q) v s := by
  obtain ⟨z, H', I', rz, b, rfl, q⟩ := h
  cases rz
  exact ⟨.ref b, H', I', rfl, q⟩
/-- x + y by x's own __add__, y of another own class -/
theorem pe_addS (B : twoB X.K C D = true) (m : SpM X.K C g "__add__") (F : FnOk X.prog X.w X.K X.mg X.base CX n g fd ps sp) (hr : Room n X.A) (hb : Binds X.K fd ps []) (hx : ∀ σ, PassesAt CX X σ (E σ)) (ha : PE X a ta) (hb0 : PE X b tb) :
    PE X (.BinOp a .Add b pos) (tAddS X.K C D sp E ta tb) := by
  unfold twoB at B
  simp only [Bool.and_eq_true] at B
  obtain ⟨b1, b2, b3, b4, b5, b6, b7⟩ := B
  obtain ⟨rc, e2, p2⟩ := fnN_ok b2
  obtain ⟨g4, e4⟩ := fnR_ok b4
  obtain ⟨rd, e5, p5⟩ := fnN_ok b5
  refine ⟨fun pins s σ H Q I h => ?_⟩
  refine wpAny_BinOp (binT (R := fun x y H2 => ∃ (a dx : Addr) (fs : List (Str × V)), x = .ref a ∧ H2 a = some (.ins C dx fs) ∧ TyX X.K H2 y (.ref D) ∧ sp [.ref a, y] H2 (fun v H' => ∃ b, v = .ref b ∧ Q (.ref b) H') (E σ)) ha hb0 I h fun v u s2 x y H2 I2 rx ry q => ?_)
  obtain ⟨p, dx, fs, rfl, hp, ty, q⟩ := q
  cases rx
  obtain ⟨mA, J, _⟩ := ins_get I2.hok hp
  obtain ⟨od, J, _⟩ := J.look
  obtain ⟨_, Z, pp, _⟩ := kit_of I2 ry ty
  obtain ⟨mm, hF⟩ := I2.fr
  exact binop_two (op := .Add) hF I2.ok.mod.kin J (Z.ty _ _ I2.kIn pp) b1 m.at_ m.fn e2 p2 b3 ⟨g4, e4⟩ e5 p5 (by simpa using b6) (beq_iff_eq.mp b7) (wpAny_mono (runOS (vs := [.ref p, y]) F hr hb (hx σ) I2 I2.env0 (.cons rfl (.cons ry .nil)) q) (fun w' s' hq => ep_ref hq) (fun _ _ e => e))
/-- x + y, x a list, by y's own __radd__ -/
def tRaddS (K : PySem.W.Frag) (D : Addr) (sp : Sp) (E : L2.St → XK) (ta tb : TE) : TE := fun σ H Q => ta σ H fun x H1 => tb σ H1 fun y H2 => ∃ (a dx : Addr) (fs : List (Str × V)), y = .ref a ∧ H2 a = some (.ins D dx fs) ∧ TyX K H2 x (.type "list") ∧ sp [.ref a, x] H2 (fun v H' => ∃ b, v = .ref b ∧ Q (.ref b) H') (E σ)
theorem pe_raddS (B : reflB X.K D = true) (m : SpM X.K D g "__radd__") (F : FnOk X.prog X.w X.K X.mg X.base CX n g fd ps sp) (hr : Room n X.A) (hb : Binds X.K fd ps []) (hx : ∀ σ, PassesAt CX X σ (E σ)) (ha : PE X a ta) (hb0 : PE X b tb) :
    PE X (.BinOp a .Add b pos) (tRaddS X.K D sp E ta tb) := by
  unfold reflB at B
  rw [Bool.and_eq_true, Bool.and_eq_true] at B
  obtain ⟨b1, b2, b3⟩ := B
  obtain ⟨g4, e4⟩ := fnR_ok b3
  obtain ⟨fo, ro, e1, e2, no⟩ : ∃ fo ro, PySem.W.findIn X.K (.type "list") "__add__" = some fo ∧ PySem.W.findIn X.K (.type "list") "__radd__" = some ro ∧ ((fo.isSome && !isSeqSlot fo) || (ro.isSome && !isSeqSlot ro)) = false := by
    cases h1 : PySem.W.findIn X.K (.type "list") "__add__" with
    | none => rw [h1] at b1; cases b1
    | some fo =>
      cases h2 : PySem.W.findIn X.K (.type "list") "__radd__" with
      | none => rw [h1, h2] at b1; cases b1
      | some ro =>
        rw [h1, h2] at b1
        exact ⟨fo, ro, rfl, rfl, by
          have b1 : (!((fo.isSome && !isSeqSlot fo) || (ro.isSome && !isSeqSlot ro))) = true := b1
          revert b1
          generalize ((fo.isSome && !isSeqSlot fo) || (ro.isSome && !isSeqSlot ro)) = z
          cases z <;> simp⟩
  refine ⟨fun pins s σ H Q I h => ?_⟩
  refine wpAny_BinOp (binT (R := fun x y H2 => ∃ (a dx : Addr) (fs : List (Str × V)), y = .ref a ∧ H2 a = some (.ins D dx fs) ∧ TyX X.K H2 x (.type "list") ∧ sp [.ref a, x] H2 (fun v H' => ∃ b, v = .ref b ∧ Q (.ref b) H') (E σ)) ha hb0 I h fun v u s2 x y H2 I2 rx ry q => ?_)
  obtain ⟨p, dx, fs, rfl, hp, ty, q⟩ := q
  cases ry
  obtain ⟨mA, J, _⟩ := ins_get I2.hok hp
  obtain ⟨od, J, _⟩ := J.look
  obtain ⟨_, Z, pp, _⟩ := kit_of I2 rx ty
  obtain ⟨mm, hF⟩ := I2.fr
  exact binop_refl (op := .Add) hF I2.ok.mod.kin J (Z.ty _ _ I2.kIn pp) e1 e2 no b2 ⟨g4, e4⟩ m.at_ m.fn (wpAny_mono (runOS (vs := [.ref p, x]) F hr hb (hx σ) I2 I2.env0 (.cons rfl (.cons rx .nil)) q) (fun w' s' hq => ep_ref hq) (fun _ _ e => e))
end
open PySem.W in
theorem fillsI_none {M : Model} {K : Frag} {C : Addr} {h : Heap} {cd : ClassData} (X : K.In h) (hc : clsIn K C = some cd) (hm : cd.mro = [.ref C, .type "object"]) (hs : findIn K (.ref C) "__iadd__" = some none) (ho : findIn K (.type "object") "__iadd__" = some none) : Looks M h (fillsInplaceSlot (.ref C) "add" true) false := by
  intro A Q E s k q
  have Lm : Looks M h (mroOf (.ref C)) cd.mro := (looks_clsIn X hc).andThen (f := fun cd => pure cd.mro) .now
  have Lm' := Lm.keeps k
  obtain ⟨hh, g, d, tt, os⟩ := s
  have X' : K.In hh := X.keeps k
  have L1 : Looks M hh (typeLookup (.ref C) "__iadd__") none := looks_findIn X' hs
  have L2 : Looks M hh (typeLookup (.type "object") "__iadd__") none := looks_findIn X' ho
  have L1' : Looks M hh (typeLookup (.ref C) (dunderI "add")) none := L1
  have L2' : Looks M hh (typeLookup (.type "object") (dunderI "add")) none := L2
  unfold fillsInplaceSlot
  refine wpAny_bind (Lm'.at ?_)
  rw [hm, List.anyM_cons]
  refine wpAny_bind ?_
  repeat lk
  exact q
open PySem.W in
/-- x += y where x's class has no __iadd__: x + y, y of the same class -/
theorem inplace_fall {prog : Program} {w : World} {A : Around} {E : Value → Shared → Prop} {s : Shared} {K : Frag} {x C L f : Addr} {h₀ : Heap} {m : Str → Option Value} {ox : Obj} {od : Option Obj} {b : Value} {cd : ClassData} {Q : Value → Shared → Prop}
    (F : Fr h₀ L s.heap m) (X₀ : K.In h₀) (I : InstAt s.heap x ox C od) (hb : Looks (model prog w) s.heap (typeOf b) (.ref C)) (hcd : clsIn K C = some cd) (hm : cd.mro = [.ref C, .type "object"])
    (hi : findIn K (.ref C) "__iadd__" = some none) (ho : findIn K (.type "object") "__iadd__" = some none) (hs : findIn K (.ref C) "__add__" = some (some (.ref f))) (hf : isFn K (.ref f) = true)
    (h : wpAny (model prog w) A (call (.ref f) [.ref x, b]) (PySem.W.CmpBack Q) E s) : wpAny (model prog w) A (inplaceOp .Add (.ref x) b) Q E s := by
  have X := X₀.keeps F.keep
  have one := ksp_try X I hs hf h
  obtain ⟨hh, gg, dd, tt, os⟩ := s
  have L1 : Looks (model prog w) hh (typeOf (.ref x)) (.ref C) := I.type
  have L2 : Looks (model prog w) hh (typeOf b) (.ref C) := hb
  have L3 : Looks (model prog w) hh (fillsInplaceSlot (.ref C) "add" true) false := fillsI_none X hcd hm hi ho
  have L4 : Looks (model prog w) hh (fillsNumberSlot (.ref C) "add") true := fills_K X hcd hm hs
  have one : wpAny (model prog w) A (tryMethod (.ref x) (PySem.dunder "add") b) (fun r s' => ∃ v, r = some v ∧ Q v s') E ⟨hh, gg, dd, tt, os⟩ := one
  unfold inplaceOp
  refine wpAny_holding ?_
  refine wpAny_bind (L1.at ?_)
  refine wpAny_bind (L3.at ?_)
  simp only [Bool.false_eq_true, if_false]
  refine wpAny_bind (m := binaryOp1 "add" (.ref x) b) ?_
  unfold binaryOp1
  refine wpAny_bind (L1.at (wpAny_bind (L2.at (wpAny_bind (L4.at ?_)))))
  simp only [beq_self_eq_true, if_true]
  ksp_lk
  refine wpAny_mono one (fun r s' hr' => ?_) fun _ _ e => e
  obtain ⟨v, rfl, hq⟩ := hr'
  ksp_lk
  exact hq
/-- x += y stays x + y: the class has no __iadd__ -/
def fallB (K : PySem.W.Frag) (C : Addr) : Bool := (match PySem.W.clsIn K C with | some cd => cd.mro == [.ref C, .type "object"] | none => false) && (PySem.W.findIn K (.ref C) "__iadd__" == some none && PySem.W.findIn K (.type "object") "__iadd__" == some none)
section
variable {X : Cx} {C g : Addr} {fd : FuncData} {ps : List Str} {sp : Sp} {n : Nat} {CX : CXT} {E : XK}
/-- x += y by x's own __iadd__ -/
def rIaddO (C : Addr) (sp : Sp) (E : XK) : TIp := fun x y H Q => ∃ (a dx : Addr) (fs : List (Str × V)), x = .ref a ∧ H a = some (.ins C dx fs) ∧ sp [.ref a, y] H (fun v H' => ∃ b, v = .ref b ∧ Q (.ref b) H') E
theorem pip_iaddO (sf : PySem.W.selfFirst X.K C = true) (m : SpM X.K C g "__iadd__") (F : FnOk X.prog X.w X.K X.mg X.base CX n g fd ps sp) (hr : Room n X.A) (hb : Binds X.K fd ps []) (hx : ∀ σ, PassesAt CX X σ E) : PIp X .Add (rIaddO C sp E) := by
  intro pins s σ H x y v u Q I rx ry h
  obtain ⟨p, dx, fs, rfl, hp, q⟩ := h
  cases rx
  obtain ⟨mA, J, _⟩ := ins_get I.hok hp
  obtain ⟨od, J, _⟩ := J.look
  obtain ⟨mm, hF⟩ := I.fr
  exact PySem.W.ksp_inplace (op := .Add) hF I.ok.mod.kin J sf m.at_ m.fn (wpAny_mono (runOS (vs := [.ref p, y]) F hr hb (hx σ) I I.env0 (.cons rfl (.cons ry .nil)) q) (fun w' s' hq => ep_ref hq) (fun _ _ e => e))
/-- x += y by x's own __add__ -/
def rIaddF (K : PySem.W.Frag) (C : Addr) (sp : Sp) (E : XK) : TIp := fun x y H Q => ∃ (a dx : Addr) (fs : List (Str × V)), x = .ref a ∧ H a = some (.ins C dx fs) ∧ TyX K H y (.ref C) ∧ sp [.ref a, y] H (fun v H' => ∃ b, v = .ref b ∧ Q (.ref b) H') E
theorem pip_iaddF (B : fallB X.K C = true) (m : SpM X.K C g "__add__") (F : FnOk X.prog X.w X.K X.mg X.base CX n g fd ps sp) (hr : Room n X.A) (hb : Binds X.K fd ps []) (hx : ∀ σ, PassesAt CX X σ E) : PIp X .Add (rIaddF X.K C sp E) := by
  unfold fallB at B
  simp only [Bool.and_eq_true] at B
  obtain ⟨b1, b2, b3⟩ := B
  obtain ⟨cd, hcd, hm⟩ : ∃ cd, PySem.W.clsIn X.K C = some cd ∧ cd.mro = [.ref C, .type "object"] := by
    cases h1 : PySem.W.clsIn X.K C with
    | none => rw [h1] at b1; cases b1
    | some cd => rw [h1] at b1; exact ⟨cd, rfl, beq_iff_eq.mp b1⟩
  intro pins s σ H x y v u Q I rx ry h
  obtain ⟨p, dx, fs, rfl, hp, ty, q⟩ := h
  cases rx
  obtain ⟨mA, J, _⟩ := ins_get I.hok hp
  obtain ⟨od, J, _⟩ := J.look
  obtain ⟨_, Z, pp, _⟩ := kit_of I ry ty
  obtain ⟨mm, hF⟩ := I.fr
  exact inplace_fall hF I.ok.mod.kin J (Z.ty _ _ I.kIn pp) hcd hm (beq_iff_eq.mp b2) (beq_iff_eq.mp b3) m.at_ m.fn (wpAny_mono (runOS (vs := [.ref p, y]) F hr hb (hx σ) I I.env0 (.cons rfl (.cons ry .nil)) q) (fun w' s' hq => ep_ref hq) (fun _ _ e => e))
/-- x[i] = v by x's own __setitem__ -/
def rSetO (C : Addr) (sp : Sp) (E : XK) : TSet := fun o i v H Q => ∃ (a dx : Addr) (fs : List (Str × V)), o = .ref a ∧ H a = some (.ins C dx fs) ∧ sp [.ref a, i, v] H (fun _ H' => Q H') E
theorem set_own (nq : PySem.W.noSeq X.K C = true) (m : SpM X.K C g "__setitem__") (F : FnOk X.prog X.w X.K X.mg X.base CX n g fd ps sp) (hr : Room n X.A) (hb : Binds X.K fd ps []) (hx : ∀ σ, PassesAt CX X σ E) : PSet X (rSetO C sp E) := by
  intro pins s σ H o i v ov iv u Q I ro ri rv h
  obtain ⟨p, dx, fs, rfl, hp, q⟩ := h
  cases ro
  obtain ⟨mA, J, _⟩ := ins_get I.hok hp
  obtain ⟨od, J, _⟩ := J.look
  obtain ⟨mm, hF⟩ := I.fr
  refine PySem.W.ksp_setItem hF I.ok.mod.kin J nq m.at_ m.fn (wpAny_mono (runOS (vs := [.ref p, i, v]) F hr hb (hx σ) I I.env0 (.cons rfl (.cons ri (.cons rv .nil))) q) (fun w' s' hq => ?_) (fun _ _ e => e))
  obtain ⟨z, H', I', _, qz⟩ := hq
  exact ⟨H', I', qz⟩
end
theorem passC0 {X : Cx} : ∀ σ, PassesAt CX0 X σ E0 := fun _ _ _ _ _ _ _ h => h.elim
theorem passCL {X : Cx} : ∀ σ, PassesAt (L2.CX X.prog X.w) X σ E0 := passSL
end Vc

/-! Xcm: x(..) where x is a local that holds a class; a classmethod called that may raise. -/
namespace Vc
open PySem PySem.Spec PyProof.Rows L2
section
variable {X : Cx} {CX : CXT} {k : Nat} {f g C p : Addr} {mc : Value} {fd : FuncData} {ps : List Str} {sp : Sp} {E : L2.St → XK} {x m : Str} {o e : Expr} {es : List Expr} {tf ta : TE} {t : TA} {np apos pos : Pos} {pl : Sem Bool} {pins : List (Addr × Obj)} {σ : L2.St} {H : Hp} {s : Shared}
/-- x(..), x holds the class at C -/
def tMakeC (C : Addr) (sp : Sp) (E : L2.St → XK) (tf : TE) (t : TA) : TE := fun σ H Q => tf σ H fun x H1 => x = .ref C ∧ tMakeS C sp E t σ H1 Q
theorem pe_makeC (M : Mk X.K C f) (F : FnOk X.prog X.w X.K X.mg X.base CX k f fd ps sp) (hr : Room (k + 1) X.A) (hb : Binds X.K fd ps []) (hx : ∀ σ, PassesAt CX X σ (E σ)) (hf : PE X (.Name x np) tf)
    (ha : PA X (e :: es) t) (he : starEach (e :: es) X.env = (false, eval e X.env) :: starEach es X.env := by rfl) (hpl : (backTo pos (starEach es X.env)).any (·.1) = false := by rfl) :
    PE X (.Call (.Name x np) (e :: es) [] pos) (tMakeC C sp E tf t) := by
  refine ⟨fun pins s σ H Q I h => ?_⟩
  refine wpAny_Call_Name_kw (thn (hf.run pins s σ H _ I h) fun u s1 ⟨y, H1, I1, ry, ey, q⟩ => ?_)
  subst ey
  obtain rfl : u = Value.ref C := ry
  refine PySem.W.callWith_K (h₀ := X.base) I1.ok.mod.kin M.kp (thn (ha.run pos pins s1 σ H1 _ I1 q) fun us s2 ⟨vs, H2, I2, r, q2⟩ => ⟨I2.kIn, ?_⟩) he hpl
  exact run_makeS M F hr hb (hx σ) I2 r q2
theorem run_fnRS {Q : VK} {E : XK} {us : List Value} {vs : List V} (F : FnR X.prog X.w X.K X.mg X.base CX k g sp) (hr : Room k X.A) (hx : PassesAt CX X σ E) (I : Inv X pins σ H s) (r : Vals vs us) (h : sp vs H Q E) :
    codeAny (model X.prog X.w) X.A (.call (.ref g) ⟨us, []⟩) (fun r s' => match r with | .ok (.ret v) => EP X pins σ Q v s' | .ok _ => False | .error e => X.xe e s') s := by
  refine codeAny_mono (F X.A X.stack s H us vs Q E hr I.env0 r h) fun r s' hq => ?_
  cases r with
  | error e => exact hx pins H s e s' I hq
  | ok fl =>
    cases fl with
    | ret u => exact I.after hq
    | next => exact False.elim hq
    | brk => exact False.elim hq
    | cont => exact False.elim hq
/-- the call of a class's bound method; what it raises passes at these slots -/
theorem run_cmS {q : Addr} {E : XK} {Q : VK} {us : List Value} {vs : List V} (F : FnR X.prog X.w X.K X.mg X.base CX k g sp) (hr : Room k X.A) (hx : PassesAt CX X σ E) (I : Inv X ((q, PySem.W.methodObj (.ref g) (.ref C)) :: pins) σ H s)
    (r : Vals vs us) (h : sp (.ref C :: vs) H Q E) : wpAny (model X.prog X.w) X.A (call (.ref q) us) (EP X pins σ Q) X.xe s := by
  have z : wpAny (model X.prog X.w) X.A (call (.ref q) us) (EP X ((q, PySem.W.methodObj (.ref g) (.ref C)) :: pins) σ Q) X.xe s :=
    wpAny_call (PySem.W.method_call (ClX.pin_at I) (run_fnRS (us := .ref C :: us) (vs := .ref C :: vs) F hr hx I (.cons rfl r) h))
  exact thn z fun _ _ y => ClX.unpinE y
/-- e.m(..), e the class at C, m a classmethod; what it raises is wished at the caller's slots -/
def tCMethS (C : Addr) (sp : Sp) (E : L2.St → XK) (ta : TE) (t : TA) : TE := fun σ H Q => ta σ H fun x H1 => x = .ref C ∧ t σ H1 fun vs H2 => sp (.ref C :: vs) H2 Q (E σ)
theorem pe_cmethS (he : PE X o ta) (r : ClX.CRead X.K C mc) (c : ClX.CMet X.K C mc m p g) (F : FnR X.prog X.w X.K X.mg X.base CX k g sp) (hr : Room k X.A) (hx : ∀ σ, PassesAt CX X σ (E σ)) (ha : PA X (e :: es) t)
    (hst : starEach (e :: es) X.env = (false, eval e X.env) :: starEach es X.env := by rfl) (hpl : (backTo pos (starEach es X.env)).any (·.1) = false := by rfl)
    (ht : eval (.Call (.Attribute o m apos) (e :: es) [] pos) X.env = (do
      let ov ← eval o X.env
      standAt apos.atName
      let (f, first) ← holding [ov] (getMethod ov m pl)
      callWith pos f first (backTo pos (starEach (e :: es) X.env)) (backToKw pos (keywordEach [] X.env))) := by rfl) :
    PE X (.Call (.Attribute o m apos) (e :: es) [] pos) (tCMethS C sp E ta t) := by
  refine ⟨fun pins s σ H Q I h => ?_⟩
  refine PySem.W.methodCall_KW (pl := pl) (thn (he.run pins s σ H _ I h) fun u s1 ⟨x, H1, I1, rx, ex, q⟩ => ?_) ht
  subst ex
  obtain rfl : u = Value.ref C := rx
  refine ClX.getmethcm_ok I1 r c fun s2 I2 => ?_
  refine ClX.callwith_cm I2 (ClX.base_none I1 (Nat.le_refl _)) c.fi (thn (ha.run pos _ s2 σ H1 _ I2 q) fun us s3 ⟨vs, H2, I3, rv, q2⟩ => ⟨⟨ClX.pin_at I3, I3.kIn⟩, ?_⟩) hst hpl
  exact run_cmS F hr (hx σ) I3 rv q2
end
/-- C.m(..), m a staticmethod; what it raises is wished at the caller's slots -/
def tSMethS (C : Addr) (sp : Sp) (E : L2.St → XK) (ta : TE) (t : TA) : TE := fun σ H Q => ta σ H fun x H1 => x = .ref C ∧ t σ H1 fun vs H2 => sp vs H2 Q (E σ)
section
variable {X : Cx} {CX : CXT} {k : Nat} {g C p : Addr} {mc : Value} {fd : FuncData} {ps : List Str} {sp : Sp} {E : L2.St → XK} {m : Str} {o e : Expr} {es : List Expr} {ta : TE} {t : TA} {apos pos : Pos} {pl : Sem Bool}
theorem pe_smethS (he : PE X o ta) (r : ClX.CRead X.K C mc) (c : SMet X.K C mc m p g) (F : FnOk X.prog X.w X.K X.mg X.base CX k g fd ps sp) (hr : Room k X.A) (hb : Binds X.K fd ps []) (hx : ∀ σ, PassesAt CX X σ (E σ)) (ha : PA X (e :: es) t)
    (hst : starEach (e :: es) X.env = (false, eval e X.env) :: starEach es X.env := by rfl) (hpl : (backTo pos (starEach es X.env)).any (·.1) = false := by rfl)
    (ht : eval (.Call (.Attribute o m apos) (e :: es) [] pos) X.env = (do
      let ov ← eval o X.env
      standAt apos.atName
      let (f, first) ← holding [ov] (getMethod ov m pl)
      callWith pos f first (backTo pos (starEach (e :: es) X.env)) (backToKw pos (keywordEach [] X.env))) := by rfl) :
    PE X (.Call (.Attribute o m apos) (e :: es) [] pos) (tSMethS C sp E ta t) := by
  refine ⟨fun pins s σ H Q I h => ?_⟩
  refine PySem.W.methodCall_KW (pl := pl) (thn (he.run pins s σ H _ I h) fun u s1 ⟨x, H1, I1, rx, ex, q⟩ => ?_) ht
  subst ex
  obtain rfl : u = Value.ref C := rx
  refine getsm_ok I1 r c fun s2 I2 => ?_
  refine PySem.W.callWith_K (first := []) (h₀ := X.base) I.ok.mod.kin c.kp (thn (ha.run pos pins s2 σ H1 _ I2 q) fun us s3 ⟨vs, H2, I3, r3, q2⟩ => ⟨I3.kIn, ?_⟩) hst hpl
  exact run_fnS F hr hb (hx σ) I3 r3 q2
end
section
variable {σ : L2.St} {H : Hp} {Q : VK} {tf ta : TE} {ts : TA} {C : Addr} {sp : Sp} {E : L2.St → XK}
theorem go_smethS (h : ta σ H fun x H1 => x = .ref C ∧ ts σ H1 fun vs H2 => sp vs H2 Q (E σ)) : tSMethS C sp E ta ts σ H Q := h
theorem go_makeC (h : tf σ H fun x H1 => x = .ref C ∧ tMakeS C sp E ts σ H1 Q) : tMakeC C sp E tf ts σ H Q := h
theorem go_cmethS (h : ta σ H fun x H1 => x = .ref C ∧ ts σ H1 fun vs H2 => sp (.ref C :: vs) H2 Q (E σ)) : tCMethS C sp E ta ts σ H Q := h
end
/-! ### dicts of ints compared: either answer -/
/-- a dict's items, ints to ints -/
def kvI (l : List (Int × Int)) : List (Key × V) := l.map fun q => (.inl q.1, .int q.2)
/-- as == tells of two dicts -/
def eqI (k l : List (Int × Int)) : Bool := k.length == l.length && k.all fun q => decide (valV (kvI l) (.inl q.1) = some (V.int q.2))
theorem kvI_int {l : List (Int × Int)} {k : Key} {u : V} (h : valV (kvI l) k = some u) : ∃ j, u = .int j := by
  unfold valV at h
  obtain ⟨p, hp, rfl⟩ := Option.map_eq_some_iff.mp h
  obtain ⟨q, _, rfl⟩ := List.mem_map.mp (List.mem_of_find?_eq_some hp)
  exact ⟨_, rfl⟩
theorem hits_int {X : Cx} {pins : List (Addr × Obj)} {σ : L2.St} {H : Hp} {s : Shared} (I : Inv X pins σ H s) {A : Around} (hu : A.in1.units + 64 < cLine) {l : List (Int × Int)} {vb : List (Key × Value)} (rb : KV (kvI l) vb) :
    ∀ {k : List (Int × Int)} {va : List (Key × Value)}, KV (kvI k) va → PySem.W.KeqHits A.in1 s vb va (k.all fun q => decide (valV (kvI l) (.inl q.1) = some (V.int q.2)))
  | [], va, h => by
    cases h
    exact .nil
  | q :: k, va, h => by
    unfold KV kvI at h
    rw [List.map_cons] at h
    cases h with
    | @cons _ z _ va h1 h2 =>
      obtain ⟨ek, rv⟩ := h1
      obtain ⟨key, v⟩ := z
      have ek : (Sum.inl q.1 : Key) = key := ek
      subst ek
      have rest := hits_int I (A := A) hu rb (k := k) (va := va) h2
      have rr := rb.val (Sum.inl q.1)
      rw [List.all_cons]
      cases e : valV (kvI l) (.inl q.1) with
      | none =>
        rw [e] at rr
        rw [show decide ((none : Option V) = some (V.int q.2)) = false from rfl, Bool.false_and]
        exact .miss rr.none_of
      | some u =>
        obtain ⟨j, rfl⟩ := kvI_int e
        rw [e] at rr
        obtain ⟨y, hy, ry⟩ := rr.some_of
        obtain ⟨as, r1⟩ := Dp.reads I (.int q.2) _ _ (.int q.2) rv
        obtain ⟨bs, r2⟩ := Dp.reads I (.int j) _ _ (.int j) ry
        have eq := PySem.W.keq_at (A := A) r1 r2 rfl rfl hu
        have ee : decide ((some (V.int j) : Option V) = some (V.int q.2)) = PyData.eqv (.int q.2) (.int j) := by
          show _ = (q.2 == j)
          by_cases z : j = q.2
          · subst z
            simp
          · have : ¬ (q.2 = j) := fun y => z y.symm
            simp [z, this]
        rw [ee]
        exact .hit hy eq rest
def rDI (neg : Bool) : R2 := fun x y H Q => ∃ a c ks ls, x = .ref a ∧ y = .ref c ∧ H a = some (.dK (kvI ks)) ∧ H c = some (.dK (kvI ls)) ∧ Q (.bl (if neg then !eqI ks ls else eqI ks ls)) H
theorem op_eqDI {X : Cx} (hu : X.A.units + 66 < cLine) : OpR X (compareOp .Eq) (rDI false) := by
  intro pins s σ H x y v u Q I rx ry h
  obtain ⟨a, b, ks, ls, rfl, rfl, ea, eb, q⟩ := h
  obtain rfl : v = Value.ref a := rx
  obtain rfl : u = Value.ref b := ry
  obtain ⟨_, ya, va, ra, da⟩ := (show ObjOk X.prog X.w H s.heap a (.dK (kvI ks)) from I.hok a _ ea)
  obtain ⟨_, yb, vb, rb, db⟩ := (show ObjOk X.prog X.w H s.heap b (.dK (kvI ls)) from I.hok b _ eb)
  have la : va.length = ks.length := by rw [← ra.length]; exact List.length_map _
  have lb : vb.length = ls.length := by rw [← rb.length]; exact List.length_map _
  exact PySem.W.keq_eq (knd := mixKind X.prog X.w) ya yb da db (by omega) (fun _ => hits_int I (by show X.A.units + 1 + 64 < cLine; omega) rb ra) (fin_bl I q (by rw [la, lb]; rfl))
theorem op_neDI {X : Cx} (hu : X.A.units + 66 < cLine) : OpR X (compareOp .NotEq) (rDI true) := by
  intro pins s σ H x y v u Q I rx ry h
  obtain ⟨a, b, ks, ls, rfl, rfl, ea, eb, q⟩ := h
  obtain rfl : v = Value.ref a := rx
  obtain rfl : u = Value.ref b := ry
  obtain ⟨_, ya, va, ra, da⟩ := (show ObjOk X.prog X.w H s.heap a (.dK (kvI ks)) from I.hok a _ ea)
  obtain ⟨_, yb, vb, rb, db⟩ := (show ObjOk X.prog X.w H s.heap b (.dK (kvI ls)) from I.hok b _ eb)
  have la : va.length = ks.length := by rw [← ra.length]; exact List.length_map _
  have lb : vb.length = ls.length := by rw [← rb.length]; exact List.length_map _
  exact PySem.W.keq_ne (knd := mixKind X.prog X.w) ya yb da db (by omega) (fun _ => hits_int I (by show X.A.units + 1 + 64 < cLine; omega) rb ra) (fin_bl I q (by rw [la, lb]; rfl))
/-! what eqI says -/
theorem kvI_mem {l : List (Int × Int)} {q : Int × Int} (nd : (l.map (·.1)).Nodup) (hq : q ∈ l) : valV (kvI l) (.inl q.1) = some (.int q.2) := by
  induction l with
  | nil => cases hq
  | cons x r ih =>
    rw [List.map_cons, List.nodup_cons] at nd
    unfold valV kvI
    rw [List.map_cons, List.find?_cons]
    by_cases e : x.1 = q.1
    · have : x = q := by
        rcases List.mem_cons.mp hq with h | h
        · exact h.symm
        · exact (nd.1 (e ▸ List.mem_map.mpr ⟨q, h, rfl⟩)).elim
      subst this
      simp
    · have h2 : q ∈ r := (List.mem_cons.mp hq).resolve_left fun z => e (by rw [z])
      have n : ¬ (decide ((Sum.inl x.1 : Key) = Sum.inl q.1) = true) := fun z => e (Sum.inl.inj (of_decide_eq_true z))
      rw [show decide ((Sum.inl x.1 : Key) = Sum.inl q.1) = false from Bool.eq_false_iff.mpr n]
      exact ih nd.2 h2
theorem eqI_refl {l : List (Int × Int)} (nd : (l.map (·.1)).Nodup) : eqI l l = true := by
  unfold eqI
  rw [beq_self_eq_true, Bool.true_and, List.all_eq_true]
  exact fun q hq => decide_eq_true (kvI_mem nd hq)

theorem eqI_sub {k l : List (Int × Int)} (h : eqI k l = true) : k.length = l.length ∧ ∀ q ∈ k, q ∈ l := by
  unfold eqI at h
  rw [Bool.and_eq_true, List.all_eq_true] at h
  refine ⟨of_decide_eq_true h.1, fun q hq => ?_⟩
  have z := of_decide_eq_true (h.2 q hq)
  unfold valV at z
  obtain ⟨p, hp, e⟩ := Option.map_eq_some_iff.mp z
  obtain ⟨y, hy, rfl⟩ := List.mem_map.mp (List.mem_of_find?_eq_some hp)
  have e1 := List.find?_some hp
  have e1 : y.1 = q.1 := Sum.inl.inj (of_decide_eq_true e1)
  have e2 : y.2 = q.2 := V.int.inj e
  rw [← show y = q from Prod.ext e1 e2]
  exact hy
end Vc

/-! Xsl: o[lo:hi] = ys, lists both. -/
namespace Vc
open PySem PySem.Spec PyProof.Rows L2
def rSlc (o v : V) (l u : Option Int) (H : Hp) (Q : Hp → Prop) : Prop := ∃ (a b : Addr) (xs ys : List V) (lo hi : Int), o = .ref a ∧ v = .ref b ∧ l = some lo ∧ u = some hi ∧ a ≠ b ∧ H a = some (.lst xs) ∧ H b = some (.lst ys) ∧ 0 ≤ lo ∧ lo ≤ hi ∧ hi ≤ xs.length ∧ xs.length + ys.length ≤ sizeLine ∧
  Q (upd H a (.lst (xs.take lo.toNat ++ ys ++ xs.drop hi.toNat)))
def gSlc (to : TE) (tl th : TO) : TG := fun v σ H Q => to σ H fun o H1 => tl σ H1 fun l H2 => th σ H2 fun u H3 => rSlc o v l u H3 fun H4 => Q σ H4
theorem pg_slice {X : Cx} {o : Expr} {lo hi : Option Expr} {to : TE} {tl th : TO} {pos p2 : Pos} (ho : PE X o to) (hl : PO X lo tl) (hu : PO X hi th)
    (ha : ∀ v, assign (.Subscript o (.Slice lo hi none p2) pos) X.env v = (do
      let ov ← holding [v] (eval o X.env)
      let iv ← holding [v, ov] (eval (.Slice lo hi none p2) X.env)
      standAt pos
      holding [v, ov, iv] (setItem ov iv v)
      release [iv, v, ov] []) := by intro _; rfl) : PG X (.Subscript o (.Slice lo hi none p2) pos) (gSlc to tl th) := by
  refine ⟨fun pins s σ H v u Q I r h => ?_⟩
  rw [ha]
  refine wpAny_bind (wpAny_holding (thn (ho.run pins s σ H _ I h) fun ov s1 ⟨x, H1, I1, r1, q1⟩ => ?_))
  refine wpAny_bind (wpAny_holding (wpAny_Slice (thn (hl.run pins s1 σ H1 _ I1 q1) fun vl s2 ⟨l, H2, I2, pl, q2⟩ => thn (hu.run pins s2 σ H2 _ I2 q2) fun vu s3 ⟨w, H3, I3, pu, q3⟩ => ?_)))
  rw [evalPart_none]
  refine wpAny_pure ?_
  have I4 : Inv X pins σ H3 { s3 with heap := s3.heap.push { cls := .type "slice", data := .fields #[vl, vu, .none] } } := I3.kept (t' := s3.toks) fun b ob q => Heap.get?_push_of_some _ q
  obtain ⟨a, b, xs, ys, i, j, rfl, rfl, rfl, rfl, ne, hxs, hys, h0, h1, h2, hz, q⟩ := q3
  obtain rfl : ov = Value.ref a := r1
  obtain rfl : u = Value.ref b := r
  have ra : RelV (.int i) vl := by cases pl; exact ⟨_, rfl⟩
  have rc : RelV (.int j) vu := by cases pu; exact ⟨_, rfl⟩
  refine wpAny_bind (wpAny_standAt (wpAny_bind (wpAny_holding (set_slice I4 hxs hys ne (Heap.IsSliceOf.new ..) ra rc h0 h1 h2 hz fun s' I5 => ?_))))
  exact wpAny_release ⟨σ, _, I5, q⟩
theorem go_gSlc {to : TE} {tl th : TO} {v : V} {σ : L2.St} {H : Hp} {Q : L2.St → Hp → Prop} (h : to σ H fun o H1 => tl σ H1 fun l H2 => th σ H2 fun u H3 => rSlc o v l u H3 fun H4 => Q σ H4) : gSlc to tl th v σ H Q := h
theorem go_slc {o v : Addr} {xs ys : List V} {lo hi : Int} {H : Hp} {Q : Hp → Prop} (ne : o ≠ v) (h1 : H o = some (.lst xs)) (h2 : H v = some (.lst ys)) (h3 : 0 ≤ lo) (h4 : lo ≤ hi) (h5 : hi ≤ xs.length) (h6 : xs.length + ys.length ≤ 1000) (q : Q (upd H o (.lst (xs.take lo.toNat ++ ys ++ xs.drop hi.toNat)))) :
    rSlc (.ref o) (.ref v) (some lo) (some hi) H Q := ⟨o, v, xs, ys, lo, hi, rfl, rfl, rfl, rfl, ne, h1, h2, h3, h4, h5, Nat.le_of_lt (small1000 h6), q⟩
end Vc

/-! Xh: the end of a law over a head by one kernel run: what stands behind the top is told by Bools over a part of the heap and by the parts of each def (my own). -/
namespace Hx
open PySem PySem.Spec PyProof.Rows L2
/-! ### Bools over the part -/
def chk (l : List (PySem.W.Frag → Bool)) (K : PySem.W.Frag) : Bool := l.all fun f => f K
theorem fact {l : List (PySem.W.Frag → Bool)} {K : PySem.W.Frag} (h : chk l K = true) (i : Nat) {f : PySem.W.Frag → Bool} (e : l[i]? = some f) : f K = true := List.all_eq_true.mp h f (List.mem_of_getElem? e)
theorem chk_app {a b : List (PySem.W.Frag → Bool)} {K : PySem.W.Frag} (h : chk (a ++ b) K = true) : chk a K = true ∧ chk b K = true := by
  have h1 : (a ++ b).all (fun f => f K) = true := h
  rw [List.all_append] at h1
  exact Bool.and_eq_true_iff.mp h1
theorem app_chk {a b : List (PySem.W.Frag → Bool)} {K : PySem.W.Frag} (h1 : chk a K = true) (h2 : chk b K = true) : chk (a ++ b) K = true := by
  show (a ++ b).all (fun f => f K) = true
  rw [List.all_append]
  exact Bool.and_eq_true_iff.mpr ⟨h1, h2⟩
/-! ### defs -/
structure Dq where
  a : Addr
  name : Str
  qual : Str
  params : Arguments
  body : List Stmt
  scope : Scope
  clo : List (Str × Addr)
abbrev FnQ : Type := Option (Str × Str × Arguments × FuncBody × Scope × Addr × List (Str × Addr) × Addr)
def fnQ (K : PySem.W.Frag) (d : Dq) : FnQ := match K.lookup d.a with
  | some ⟨_, _, .func fd, _⟩ => some (fd.name, fd.qualname, fd.params, fd.body, fd.scope, fd.globals, fd.closure, fd.builtins)
  | _ => none
def Dq.val (d : Dq) : FnQ := some (d.name, d.qual, d.params, .stmts d.body, d.scope, mainGlobals, d.clo, builtinsNs)
def fdB (K : PySem.W.Frag) (a : Addr) (p : FuncData → Bool) : Bool := match K.lookup a with
  | some ⟨_, _, .func fd, _⟩ => p fd
  | _ => false
def nonV : Value → Bool
  | .none => true
  | _ => false
def refB (n : Addr) : Value → Bool
  | .ref a => a == n
  | _ => false
theorem nonV_ok {v : Value} (h : nonV v = true) : v = .none := by cases v <;> first | rfl | cases h
theorem refB_ok {n : Addr} {v : Value} (h : refB n v = true) : v = .ref n := by
  cases v with
  | ref a => rw [beq_iff_eq.mp (show (a == n) = true from h)]
  | _ => cases h
theorem ba {a b : Bool} (h : (a && b) = true) : a = true ∧ b = true := Bool.and_eq_true_iff.mp h
theorem at_map {fn : List Dq} {K : PySem.W.Frag} (e : fn.map (fnQ K) = fn.map Dq.val) (i : Nat) {d : Dq} (h : fn[i]? = some d) : fnQ K d = d.val := by
  have e2 : (fn.map (fnQ K))[i]? = (fn.map Dq.val)[i]? := by rw [e]
  rw [List.getElem?_map, List.getElem?_map, h] at e2
  exact Option.some.inj e2
theorem fq {K : PySem.W.Frag} {d : Dq} {p : FuncData → Bool} (e : fnQ K d = d.val) (c : fdB K d.a p = true) :
    ∃ fd oc od sl, K.lookup d.a = some ⟨oc, od, .func fd, sl⟩ ∧ p fd = true ∧ fd.name = d.name ∧ fd.qualname = d.qual ∧ fd.params = d.params ∧ fd.body = .stmts d.body ∧ fd.scope = d.scope ∧ fd.globals = mainGlobals ∧ fd.closure = d.clo ∧ fd.builtins = builtinsNs := by
  unfold fdB at c
  unfold fnQ at e
  cases q : K.lookup d.a with
  | none =>
    rw [q] at c
    cases c
  | some o =>
    obtain ⟨oc, od, dt, osl⟩ := o
    rw [q] at c e
    cases dt with
    | func fd =>
      have e2 : (some (fd.name, fd.qualname, fd.params, fd.body, fd.scope, fd.globals, fd.closure, fd.builtins) : FnQ) = some (d.name, d.qual, d.params, .stmts d.body, d.scope, mainGlobals, d.clo, builtinsNs) := e
      simp only [Option.some.injEq, Prod.mk.injEq] at e2
      obtain ⟨h1, h2, h3, h4, h5, h6, h7, h8⟩ := e2
      exact ⟨fd, oc, od, osl, rfl, c, h1, h2, h3, h4, h5, h6, h7, h8⟩
    | _ => cases c
def pPlain (K : PySem.W.Frag) (q : Str) (fd : FuncData) : Bool := nonV fd.defaults && PySem.W.codeIn K fd.code q
def pDfl (K : PySem.W.Frag) (q : Str) (t : Addr) (fd : FuncData) : Bool := refB t fd.defaults && PySem.W.codeIn K fd.code q
def pKwd (K : PySem.W.Frag) (q : Str) (t : Addr) (fd : FuncData) : Bool := nonV fd.defaults && (refB t fd.kwdefaults && PySem.W.codeIn K fd.code q)
def pSup (K : PySem.W.Frag) (q : Str) (c : Addr) (fd : FuncData) : Bool := nonV fd.defaults && (refB c fd.code && PySem.W.codeIn K (.ref c) q)
section
variable {K : PySem.W.Frag} {a : Addr} {x q : Str} {ps : Arguments} {bd : List Stmt} {sc : Scope}
theorem plain_ok (e : fnQ K ⟨a, x, q, ps, bd, sc, []⟩ = (Dq.mk a x q ps bd sc []).val) (c : fdB K a (pPlain K q) = true) :
    ∃ (oc kV dc pm cd ct : Value) (od an : Option Addr) (sl : Array (Option Value)), K.lookup a = some ⟨oc, od, .func (PySem.W.fnOf x q ps bd sc .none kV dc pm an cd ct), sl⟩ ∧ PySem.W.codeIn K cd q = true := by
  obtain ⟨fd, oc, od, sl, lk, h, e1, e2, e3, e4, e5, e6, e7, e8⟩ := fq (d := ⟨a, x, q, ps, bd, sc, []⟩) e c
  obtain ⟨n1, n2, n3, n4, n5, n6, n7, n8, n9, n10, n11, n12, n13, n14, n15⟩ := fd
  dsimp only at e1 e2 e3 e4 e5 e6 e7 e8
  subst e1 e2 e3 e4 e5 e6 e7 e8
  obtain ⟨h1, h2⟩ := ba h
  obtain rfl : n8 = .none := nonV_ok h1
  exact ⟨oc, n9, n10, n11, n13, n14, od, n12, sl, lk, h2⟩
theorem dfl_ok {t : Addr} (e : fnQ K ⟨a, x, q, ps, bd, sc, []⟩ = (Dq.mk a x q ps bd sc []).val) (c : fdB K a (pDfl K q t) = true) :
    ∃ (oc kV dc pm cd ct : Value) (od an : Option Addr) (sl : Array (Option Value)), K.lookup a = some ⟨oc, od, .func (PySem.W.fnOf x q ps bd sc (.ref t) kV dc pm an cd ct), sl⟩ ∧ PySem.W.codeIn K cd q = true := by
  obtain ⟨fd, oc, od, sl, lk, h, e1, e2, e3, e4, e5, e6, e7, e8⟩ := fq (d := ⟨a, x, q, ps, bd, sc, []⟩) e c
  obtain ⟨n1, n2, n3, n4, n5, n6, n7, n8, n9, n10, n11, n12, n13, n14, n15⟩ := fd
  dsimp only at e1 e2 e3 e4 e5 e6 e7 e8
  subst e1 e2 e3 e4 e5 e6 e7 e8
  obtain ⟨h1, h2⟩ := ba h
  obtain rfl : n8 = .ref t := refB_ok h1
  exact ⟨oc, n9, n10, n11, n13, n14, od, n12, sl, lk, h2⟩
theorem kwd_ok {t : Addr} (e : fnQ K ⟨a, x, q, ps, bd, sc, []⟩ = (Dq.mk a x q ps bd sc []).val) (c : fdB K a (pKwd K q t) = true) :
    ∃ (oc dc pm cd ct : Value) (od an : Option Addr) (sl : Array (Option Value)), K.lookup a = some ⟨oc, od, .func (PySem.W.fnOf x q ps bd sc .none (.ref t) dc pm an cd ct), sl⟩ ∧ PySem.W.codeIn K cd q = true := by
  obtain ⟨fd, oc, od, sl, lk, h, e1, e2, e3, e4, e5, e6, e7, e8⟩ := fq (d := ⟨a, x, q, ps, bd, sc, []⟩) e c
  obtain ⟨n1, n2, n3, n4, n5, n6, n7, n8, n9, n10, n11, n12, n13, n14, n15⟩ := fd
  dsimp only at e1 e2 e3 e4 e5 e6 e7 e8
  subst e1 e2 e3 e4 e5 e6 e7 e8
  obtain ⟨h1, h2⟩ := ba h
  obtain ⟨h2, h3⟩ := ba h2
  obtain rfl : n8 = .none := nonV_ok h1
  obtain rfl : n9 = .ref t := refB_ok h2
  exact ⟨oc, n10, n11, n13, n14, od, n12, sl, lk, h3⟩
theorem sup_ok {cda cc : Addr} (e : fnQ K ⟨a, x, q, ps, bd, sc, [("__class__", cc)]⟩ = (Dq.mk a x q ps bd sc [("__class__", cc)]).val) (c : fdB K a (pSup K q cda) = true) :
    ∃ (oc kV dc pm ct : Value) (od an : Option Addr) (sl : Array (Option Value)), K.lookup a = some ⟨oc, od, .func (PySem.W.ksFn x q ps bd sc .none kV dc pm an (.ref cda) ct cc), sl⟩ ∧ PySem.W.codeIn K (.ref cda) q = true := by
  obtain ⟨fd, oc, od, sl, lk, h, e1, e2, e3, e4, e5, e6, e7, e8⟩ := fq (d := ⟨a, x, q, ps, bd, sc, [("__class__", cc)]⟩) e c
  obtain ⟨n1, n2, n3, n4, n5, n6, n7, n8, n9, n10, n11, n12, n13, n14, n15⟩ := fd
  dsimp only at e1 e2 e3 e4 e5 e6 e7 e8
  subst e1 e2 e3 e4 e5 e6 e7 e8
  obtain ⟨h1, h2⟩ := ba h
  obtain ⟨h2, h3⟩ := ba h2
  obtain rfl : n8 = .none := nonV_ok h1
  obtain rfl : n13 = .ref cda := refB_ok h2
  exact ⟨oc, n9, n10, n11, n14, od, n12, sl, lk, h3⟩
end
/-! ### other facts -/
section
variable {K : PySem.W.Frag}
def recB1 (K : PySem.W.Frag) (p : Addr) (T : String) (f : Addr) : Bool := match PySem.W.recIn K p T with
  | some (v :: _) => refB f v
  | _ => false
theorem rec1_ok {p f : Addr} {T : String} (h : recB1 K p T f = true) : ∃ r, PySem.W.recIn K p T = some (.ref f :: r) := by
  unfold recB1 at h
  split at h
  · rename_i v r e
    rw [refB_ok h] at e
    exact ⟨r, e⟩
  · cases h
def recB2 (K : PySem.W.Frag) (p : Addr) (T : String) (f : Addr) : Bool := match PySem.W.recIn K p T with
  | some (_ :: v :: _) => refB f v
  | _ => false
theorem rec2_ok {p f : Addr} {T : String} (h : recB2 K p T f = true) : ∃ g r, PySem.W.recIn K p T = some (g :: .ref f :: r) := by
  unfold recB2 at h
  split at h
  · rename_i u v r e
    rw [refB_ok h] at e
    exact ⟨u, r, e⟩
  · cases h
def strB (K : PySem.W.Frag) (d : Addr) (x z : Str) : Bool := match PySem.W.nsIn K d x with
  | some (some (.str y _)) => decide (y = z)
  | _ => false
theorem str_ok {d : Addr} {x z : Str} (h : strB K d x z = true) : ∃ t, PySem.W.nsIn K d x = some (some (.str z t)) := by
  unfold strB at h
  split at h
  · rename_i y t e
    rw [of_decide_eq_true h] at e
    exact ⟨t, e⟩
  · cases h
def intB (K : PySem.W.Frag) (d : Addr) (x : Str) (i : Int) : Bool := match PySem.W.nsIn K d x with
  | some (some (.int j _)) => decide (j = i)
  | _ => false
theorem int_ok {d : Addr} {x : Str} {i : Int} (h : intB K d x i = true) : ∃ t, PySem.W.nsIn K d x = some (some (.int i t)) := by
  unfold intB at h
  split at h
  · rename_i y t e
    rw [of_decide_eq_true h] at e
    exact ⟨t, e⟩
  · cases h
def fcR (K : PySem.W.Frag) (C : Addr) (x : Str) (a : Addr) : Bool := match PySem.W.findCls K (.ref C) (.type "type") x with
  | some (.val v) => refB a v
  | _ => false
theorem fcR_ok {C a : Addr} {x : Str} (h : fcR K C x a = true) : PySem.W.findCls K (.ref C) (.type "type") x = some (.val (.ref a)) := by
  unfold fcR at h
  split at h
  · rename_i v e
    rw [refB_ok h] at e
    exact e
  · cases h
def fcI (K : PySem.W.Frag) (C : Addr) (x : Str) (i : Int) : Bool := match PySem.W.findCls K (.ref C) (.type "type") x with
  | some (.val (.int j _)) => decide (j = i)
  | _ => false
theorem fcI_ok {C : Addr} {x : Str} {i : Int} (h : fcI K C x i = true) : ∃ t, PySem.W.findCls K (.ref C) (.type "type") x = some (.val (.int i t)) := by
  unfold fcI at h
  split at h
  · rename_i v t e
    rw [of_decide_eq_true h] at e
    exact ⟨t, e⟩
  · cases h
def fcS (K : PySem.W.Frag) (C : Addr) (x : Str) (s : Addr) : Bool := match PySem.W.findCls K (.ref C) (.type "type") x with
  | some (.get g v u z) => decide (g = .builtin "staticmethod.__get__") && (refB s v && (nonV u && refB C z))
  | _ => false
theorem fcS_ok {C s : Addr} {x : Str} (h : fcS K C x s = true) : PySem.W.findCls K (.ref C) (.type "type") x = some (.get (.builtin "staticmethod.__get__") (.ref s) .none (.ref C)) := by
  unfold fcS at h
  split at h
  · rename_i g v u z e
    obtain ⟨h1, h⟩ := ba h
    obtain ⟨h2, h⟩ := ba h
    obtain ⟨h3, h4⟩ := ba h
    rw [of_decide_eq_true h1, refB_ok h2, nonV_ok h3, refB_ok h4] at e
    exact e
  · cases h
def fcC (K : PySem.W.Frag) (C : Addr) (x : Str) (s : Addr) : Bool := match PySem.W.findCls K (.ref C) (.type "type") x with
  | some (.get g v u z) => decide (g = .builtin "classmethod.__get__") && (refB s v && (nonV u && refB C z))
  | _ => false
theorem fcC_ok {C s : Addr} {x : Str} (h : fcC K C x s = true) : PySem.W.findCls K (.ref C) (.type "type") x = some (.get (.builtin "classmethod.__get__") (.ref s) .none (.ref C)) := by
  unfold fcC at h
  split at h
  · rename_i g v u z e
    obtain ⟨h1, h⟩ := ba h
    obtain ⟨h2, h⟩ := ba h
    obtain ⟨h3, h4⟩ := ba h
    rw [of_decide_eq_true h1, refB_ok h2, nonV_ok h3, refB_ok h4] at e
    exact e
  · cases h
def seqB (K : PySem.W.Frag) (a : Addr) (vs : List V) : Bool := match K.lookup a with
  | some ⟨.type ty, _, .seq its _, _⟩ => decide (ty = "tuple") && He.relAll vs its.toList
  | _ => false
theorem seq_ok {a : Addr} {vs : List V} (h : seqB K a vs = true) : ∃ (od : Option Addr) (l : List Value) (n : Nat) (sl : Array (Option Value)), K.lookup a = some ⟨.type "tuple", od, .seq ⟨l⟩ n, sl⟩ ∧ Vals vs l := by
  unfold seqB at h
  split at h
  · rename_i ty od its n sl e
    obtain ⟨h1, h2⟩ := ba h
    rw [of_decide_eq_true h1] at e
    obtain ⟨l⟩ := its
    exact ⟨od, l, n, sl, e, He.relAll_ok h2⟩
  · cases h
def excB (K : PySem.W.Frag) (C : Addr) : Bool := match K.lookup C with
  | some ⟨.type ty, _, .cls cd, sl⟩ => decide (ty = "type") && (cd.hasDict && (!cd.hasDel && ((match cd.mro with
    | v :: bm => refB C v && PySem.HandSPX.refsVE bm
    | _ => false) && (match sl.toList with
    | [_, _, _, _, some (.builtin z), _] => decide (z = "ValueError.__new__")
    | _ => false))))
  | _ => false
theorem exc_ok {C : Addr} (h : excB K C = true) : ∃ (nm q : Str) (N : Addr) (bs bm : List Value) (sn : List Str) (sub : List Value) (ab : Bool) (col : Option Bool) (dd : Option Addr) (k0 k1 k2 k3 k5 : Option Value),
    K.lookup C = some (excClassObj nm q C N bs bm true sn sub ab col dd k0 k1 k2 k3 k5 "ValueError.__new__") ∧ PySem.HandSPX.refsVE bm = true := by
  unfold excB at h
  split at h
  · rename_i ty dd cd sl e
    obtain ⟨h1, h⟩ := ba h
    obtain ⟨h2, h⟩ := ba h
    obtain ⟨h3, h⟩ := ba h
    obtain ⟨h4, h5⟩ := ba h
    obtain ⟨l⟩ := sl
    obtain ⟨c1, c2, c3, c4, c5, c6, c7, c8, c9, c10, c11⟩ := cd
    dsimp only at h2 h3 h4 h5
    subst h2
    obtain rfl : c11 = false := by cases c11 <;> first | rfl | cases h3
    rw [of_decide_eq_true h1] at e
    clear h1 h3
    cases c3 with
    | nil => cases h4
    | cons v bm =>
      obtain ⟨g1, g2⟩ := ba h4
      rw [refB_ok g1] at e
      match l, h5, e with
      | [k0, k1, k2, k3, some (.builtin z), k5], h5, e =>
        rw [of_decide_eq_true (show decide (z = "ValueError.__new__") = true from h5)] at e
        exact ⟨_, _, _, _, bm, _, _, _, _, _, _, _, _, _, _, e, g2⟩
  · cases h
def filB (K : PySem.W.Frag) (c : Addr) (mf : Str) : Bool := match K.lookup c with
  | some ⟨_, _, .fields vs, _⟩ => (match (vs[2]? : Option Value) with
    | some (.str f _) => mf == f
    | _ => false)
  | _ => false
theorem fil_ok {c : Addr} {mf : Str} (h : filB K c mf = true) : ∃ (cc : Value) (cd : Option Addr) (vs : Array Value) (cs : Array (Option Value)) (f : Str) (t : Tok), K.lookup c = some ⟨cc, cd, .fields vs, cs⟩ ∧ vs[2]? = some (.str f t) ∧ (mf == f) = true := by
  unfold filB at h
  split at h
  · rename_i cc cd vs cs e
    split at h
    · rename_i f t e2
      exact ⟨cc, cd, vs, cs, f, t, e, e2, h⟩
    · cases h
  · cases h
def celB (K : PySem.W.Frag) (c C : Addr) : Bool := match K.lookup c with
  | some ⟨_, _, .cell (some v), _⟩ => refB C v
  | _ => false
theorem cel_ok {c C : Addr} (h : celB K c C = true) : ∃ (oc : Value) (od : Option Addr) (sl : Array (Option Value)), K.lookup c = some ⟨oc, od, .cell (some (.ref C)), sl⟩ := by
  unfold celB at h
  split at h
  · rename_i oc od v sl e
    rw [refB_ok h] at e
    exact ⟨oc, od, sl, e⟩
  · cases h
end
/-! ### the Hook -/
abbrev Al : Type := Bool × List FnQ
def obsG (as : List Addr) (fa : List (PySem.W.Frag → Bool)) (fn : List Dq) (g : Addr → Option Obj) : Al := (chk fa (He.frG g as), fn.map (fnQ (He.frG g as)))
def hook (as : List Addr) (fa : List (PySem.W.Frag → Bool)) (fn : List Dq) : PySem.W.Hook where
  α := Al
  obs := fun s => obsG as fa fn s.heap.get?
  val := fun _ => (true, fn.map Dq.val)
  says := fun _ h => ∃ K : PySem.W.Frag, K.In h ∧ chk fa K = true ∧ fn.map (fnQ K) = fn.map Dq.val
  of := fun _ _ e => ⟨_, He.frG_in, congrArg (fun z : Al => z.1) e, congrArg (fun z : Al => z.2) e⟩
  keeps := fun _ _ _ ⟨K, hK, c⟩ k => ⟨K, PySem.W.Frag.In.keeps hK k, c⟩
def obT (as : List Addr) (fa : List (PySem.W.Frag → Bool)) (fn : List Dq) (s : PySem.W.SharedT) : Al := obsG as fa fn (HandSHeadRun.getT s)
theorem obT_eq (as : List Addr) (fa : List (PySem.W.Frag → Bool)) (fn : List Dq) (s : PySem.W.SharedT) : obT as fa fn s = (hook as fa fn).obs s.abs := by
  have e : HandSHeadRun.getT s = s.abs.heap.get? := funext (HandSHeadRun.getT_eq s)
  unfold obT
  rw [e] <;> rfl
/-- parts of the run, put together -/
theorem join {α : Type} {x : Option PySem.W.SharedT} {f : PySem.W.SharedT → Bool} {g : PySem.W.SharedT → α} {b : α} {as : List Addr} {fa : List (PySem.W.Frag → Bool)} {fn : List Dq}
    (h1 : x.map f = some true) (h2 : x.map g = some b) (h3 : ∀ s, x = some s → chk fa (He.frG (HandSHeadRun.getT s) as) = true) (h4 : x.map (fun s => fn.map (fnQ (He.frG (HandSHeadRun.getT s) as))) = some (fn.map Dq.val)) :
    x.map (fun s => (f s, g s, obT as fa fn s)) = some (true, b, (true, fn.map Dq.val)) := by
  obtain ⟨s, rfl, e1⟩ := Option.map_eq_some_iff.mp h1
  have e2 : g s = b := Option.some.inj h2
  have e3 := h3 s rfl
  have e4 : fn.map (fnQ (He.frG (HandSHeadRun.getT s) as)) = fn.map Dq.val := Option.some.inj h4
  show some (f s, g s, (chk fa (He.frG (HandSHeadRun.getT s) as), fn.map (fnQ (He.frG (HandSHeadRun.getT s) as)))) = _
  rw [e1, e2, e3, e4]
theorem part {x : Option PySem.W.SharedT} {as : List Addr} {fa : List (PySem.W.Frag → Bool)} (h : x.map (fun s => chk fa (He.frG (HandSHeadRun.getT s) as)) = some true) : ∀ s, x = some s → chk fa (He.frG (HandSHeadRun.getT s) as) = true := fun s e => by
  rw [e] at h
  exact Option.some.inj h
end Hx

/-! how a walk goes on: each way by itself -/
local macro_rules | `(tactic| walk_at "goo1") => `(tactic| first | ((with_reducible refine' Vc.go_iteF' ?h ?_); (case h => decide)) | fail)
local macro_rules | `(tactic| walk_at "goo1") => `(tactic| first | ((with_reducible refine' Vc.go_iteT' ?h ?_); (case h => decide)) | fail)
local macro_rules | `(tactic| walk_at "goo1") => `(tactic| first | ((with_reducible refine' Vc.go_itenF' ?h ?_); (case h => omega)) | fail)
local macro_rules | `(tactic| walk_at "goo1") => `(tactic| first | ((with_reducible refine' Vc.go_itenT' ?h ?_); (case h => omega)) | fail)
local macro_rules | `(tactic| walk_at "goo1") => `(tactic| first | ((with_reducible refine' Vc.go_iteF' ?h ?_); (case h => omega)) | fail)
local macro_rules | `(tactic| walk_at "goo1") => `(tactic| first | ((with_reducible refine' Vc.go_iteT' ?h ?_); (case h => omega)) | fail)
local macro_rules | `(tactic| walk_at "goo1") => `(tactic| walk_at "go1")
local macro_rules | `(tactic| walk_at "go1") => `(tactic| first | ((with_reducible refine' Vc.go_ixS ?he ?hv ?_); (case he => walk_at "ln"); (case hv => walk_at "ix")) | fail)
local macro_rules | `(tactic| walk_at "go1") => `(tactic| first | ((with_reducible refine' Vc.go_ixT ?he ?hv ?_); (case he => walk_at "hs"); (case hv => walk_at "ix")) | fail)
local macro_rules | `(tactic| walk_at "go1") => `(tactic| first | ((with_reducible refine' Vc.go_ixL ?he ?hv ?_); (case he => walk_at "hs"); (case hv => walk_at "ix")) | fail)
local macro_rules | `(tactic| walk_at "go1") => `(tactic| first | ((with_reducible refine' Vc.go_append ?he ?hl ?_); (case he => walk_at "hs"); (case hl => walk_at "ln")) | fail)
local macro_rules | `(tactic| walk_at "go1") => `(tactic| first | ((with_reducible refine' Vc.go_len ?hl ?_); (case hl => walk_at "ln")) | fail)
local macro_rules | `(tactic| walk_at "go1") => `(tactic| first | ((with_reducible refine' Vc.go_tyL ?he ?_); (case he => walk_at "hs")) | fail)
local macro_rules | `(tactic| walk_at "go1") => `(tactic| first | ((with_reducible refine' Vc.go_slL ?he ?_); (case he => walk_at "hs")) | fail)
local macro_rules | `(tactic| walk_at "go1") => `(tactic| first | ((with_reducible refine' Vc.go_slS ?hz ?_); (case hz => walk_at "ln")) | fail)
local macro_rules | `(tactic| walk_at "go1") => `(tactic| first | ((with_reducible refine' Vc.go_lenT ?he ?_); (case he => walk_at "hs")) | fail)
local macro_rules | `(tactic| walk_at "go1") => `(tactic| first | ((with_reducible refine' Vc.go_lenL ?he ?_); (case he => walk_at "hs")) | fail)
local macro_rules | `(tactic| walk_at "go1") => `(tactic| with_reducible refine Vc.go_callK ?_)
local macro_rules | `(tactic| walk_at "go1") => `(tactic| with_reducible refine Vc.go_methK ?_)
local macro_rules | `(tactic| walk_at "go1") => `(tactic| first | ((with_reducible refine' Vc.go_dinI ?he ?_); (case he => walk_at "hs")) | fail)
local macro_rules | `(tactic| walk_at "go1") => `(tactic| first | ((with_reducible refine' Vc.go_dputI ?he ?hl ?_); (case he => walk_at "hs"); (case hl => walk_at "ln")) | fail)
local macro_rules | `(tactic| walk_at "go1") => `(tactic| first | ((with_reducible refine' Vc.go_dputS ?he ?hl ?_); (case he => walk_at "hs"); (case hl => walk_at "ln")) | fail)
local macro_rules | `(tactic| walk_at "go1") => `(tactic| first | ((with_reducible refine' Vc.go_dgetI ?he ?hv ?_); (case he => walk_at "hs"); (case hv => walk_at "dv")) | fail)
local macro_rules | `(tactic| walk_at "go1") => `(tactic| first | ((with_reducible refine' Vc.go_dgetS ?he ?hv ?_); (case he => walk_at "hs"); (case hv => walk_at "dv")) | fail)
local macro_rules | `(tactic| walk_at "go1") => `(tactic| with_reducible refine Vc.go_int1b ?_)
local macro_rules | `(tactic| walk_at "go1") => `(tactic| with_reducible refine Vc.go_int1 ?_)
local macro_rules | `(tactic| walk_at "go1") => `(tactic| with_reducible refine Vc.go_abs ?_)
local macro_rules | `(tactic| walk_at "go1") => `(tactic| with_reducible refine Vc.go_bm0 ?_)
local macro_rules | `(tactic| walk_at "go1") => `(tactic| with_reducible refine Vc.go_bm ?_)
local macro_rules | `(tactic| walk_at "go1") => `(tactic| with_reducible refine Vc.go_partI ?_)
local macro_rules | `(tactic| walk_at "go1") => `(tactic| with_reducible refine Vc.go_part ?_)
local macro_rules | `(tactic| walk_at "go1") => `(tactic| with_reducible refine Vc.go_nopart ?_)
local macro_rules | `(tactic| walk_at "go1") => `(tactic| with_reducible refine Vc.go_sl ?_)
local macro_rules | `(tactic| walk_at "go1") => `(tactic| with_reducible refine Vc.go_dput ?_)
local macro_rules | `(tactic| walk_at "go1") => `(tactic| with_reducible refine Vc.go_dnotin ?_)
local macro_rules | `(tactic| walk_at "go1") => `(tactic| with_reducible refine Vc.go_din ?_)
local macro_rules | `(tactic| walk_at "go1") => `(tactic| with_reducible refine Vc.go_dnew ?_)
local macro_rules | `(tactic| walk_at "go1") => `(tactic| with_reducible refine Vc.go_lst ?_)
local macro_rules | `(tactic| walk_at "go1") => `(tactic| with_reducible refine Vc.go_tup ?_)
local macro_rules | `(tactic| walk_at "go1") => `(tactic| with_reducible refine Vc.go_tryOnly ?_)
local macro_rules | `(tactic| walk_at "go1") => `(tactic| with_reducible refine Vc.go_tryAs ?_)
local macro_rules | `(tactic| walk_at "go1") => `(tactic| first | ((with_reducible refine' Vc.go_isTT ?E ?C ?k ?_); (case E => walk_at "bd"); (case C => assumption); (case k => assumption)) | fail)
local macro_rules | `(tactic| walk_at "go1") => `(tactic| first | ((with_reducible refine' Vc.go_isTC ?E ?C ?k ?_); (case E => walk_at "bd"); (case C => assumption); (case k => assumption)) | fail)
local macro_rules | `(tactic| walk_at "go1") => `(tactic| first | ((with_reducible refine' Vc.go_xfTV ?E ?T ?n ?l ?_); (case E => walk_at "bd"); (case T => assumption); (case n => assumption); (case l => walk_at "fl")) | fail)
local macro_rules | `(tactic| walk_at "go1") => `(tactic| with_reducible refine Vc.go_xfT ?_)
local macro_rules | `(tactic| walk_at "go1") => `(tactic| with_reducible refine Vc.go_make0 ?_)
local macro_rules | `(tactic| walk_at "go1") => `(tactic| with_reducible refine Vc.go_makeK ?_)
local macro_rules | `(tactic| walk_at "go1") => `(tactic| with_reducible refine Vc.go_prop ?_)
local macro_rules | `(tactic| walk_at "go1") => `(tactic| first | ((with_reducible refine' Vc.go_setPV ?e ?_); (case e => walk_at "hs")) | fail)
local macro_rules | `(tactic| walk_at "go1") => `(tactic| with_reducible refine Vc.go_setP ?_)
local macro_rules | `(tactic| walk_at "go1") => `(tactic| with_reducible refine Vc.go_tryX ?_)
local macro_rules | `(tactic| walk_at "go1") => `(tactic| with_reducible refine Vc.go_lstRgV ?_)
local macro_rules | `(tactic| walk_at "go1") => `(tactic| with_reducible refine Vc.go_lstRg ?_)
local macro_rules | `(tactic| walk_at "go1") => `(tactic| with_reducible refine Vc.go_iRngLV ?_)
local macro_rules | `(tactic| walk_at "go1") => `(tactic| with_reducible refine Vc.go_iRngL ?_)
local macro_rules | `(tactic| walk_at "go1") => `(tactic| first | ((with_reducible refine' Vc.go_inO ?e ?_); (case e => walk_at "hs")) | fail)
local macro_rules | `(tactic| walk_at "go1") => `(tactic| first | ((with_reducible refine' Vc.go_strI ?l ?_); (case l => assumption)) | fail)
local macro_rules | `(tactic| walk_at "go1") => `(tactic| first | ((with_reducible refine' Vc.go_fmtI ?l ?_); (case l => assumption)) | fail)
local macro_rules | `(tactic| walk_at "go1") => `(tactic| first | ((with_reducible refine' Vc.go_fmtS ?l ?_); (case l => walk_at "ln")) | fail)
local macro_rules | `(tactic| walk_at "go1") => `(tactic| with_reducible refine Vc.go_fmt ?_)
local macro_rules | `(tactic| walk_at "go1") => `(tactic| first | ((with_reducible refine' Vc.go_szS ?l ?_); (case l => walk_at "ln")) | fail)
local macro_rules | `(tactic| walk_at "go1") => `(tactic| first | ((with_reducible refine' Vc.go_jsV ?l ?_); (case l => walk_at "ln")) | fail)
local macro_rules | `(tactic| walk_at "go1") => `(tactic| with_reducible refine Vc.go_js ?_)
local macro_rules | `(tactic| walk_at "go1") => `(tactic| with_reducible refine Vc.go_js0 ?_)
local macro_rules | `(tactic| walk_at "go1") => `(tactic| first | ((with_reducible refine' Vc.go_revLV ?e ?_); (case e => walk_at "hs")) | fail)
local macro_rules | `(tactic| walk_at "go1") => `(tactic| with_reducible refine Vc.go_revL ?_)
local macro_rules | `(tactic| walk_at "go1") => `(tactic| first | ((with_reducible refine' Vc.go_dpopI ?e ?v ?_); (case e => walk_at "hs"); (case v => walk_at "dv")) | fail)
local macro_rules | `(tactic| walk_at "go1") => `(tactic| first | ((with_reducible refine' Vc.go_lclear ?e ?_); (case e => walk_at "hs")) | fail)
local macro_rules | `(tactic| walk_at "go1") => `(tactic| first | ((with_reducible refine' Vc.go_dclear ?e ?_); (case e => walk_at "hs")) | fail)
local macro_rules | `(tactic| walk_at "go1") => `(tactic| first | ((with_reducible refine' Vc.go_tyD ?e ?_); (case e => walk_at "hs")) | fail)
local macro_rules | `(tactic| walk_at "go1") => `(tactic| with_reducible refine Vc.go_refC ?_)
local macro_rules | `(tactic| walk_at "go1") => `(tactic| with_reducible refine Vc.go_smeth ?_)
local macro_rules | `(tactic| walk_at "go1") => `(tactic| first | ((with_reducible refine' Vc.go_strO ?e ?_); (case e => walk_at "hs")) | fail)
local macro_rules | `(tactic| walk_at "go1") => `(tactic| first | ((with_reducible refine' Vc.go_lenO ?e ?_); (case e => walk_at "hs")) | fail)
local macro_rules | `(tactic| walk_at "go1") => `(tactic| first | ((with_reducible refine' Vc.go_insF ?e ?_); (case e => walk_at "hs")) | fail)
local macro_rules | `(tactic| walk_at "go1") => `(tactic| first | ((with_reducible refine' Vc.go_cntS ?e ?_); (case e => walk_at "hs")) | fail)
local macro_rules | `(tactic| walk_at "go1") => `(tactic| with_reducible refine Vc.go_ixO ?_)
local macro_rules | `(tactic| walk_at "go1") => `(tactic| first | ((with_reducible refine' Vc.go_isXT ?C ?d ?k ?_); (case C => assumption); (case d => ((with_reducible refine' Vc.xdAt ?e); (case e => walk_at "hs"))); (case k => assumption)) | fail)
local macro_rules | `(tactic| walk_at "go1") => `(tactic| first | ((with_reducible refine' Vc.go_isXC ?C ?d ?k ?_); (case C => assumption); (case d => ((with_reducible refine' Vc.xdAt ?e); (case e => walk_at "hs"))); (case k => assumption)) | fail)
local macro_rules | `(tactic| walk_at "go1") => `(tactic| first | ((with_reducible refine' Vc.go_xfXV ?T ?n ?e ?l ?_); (case T => assumption); (case n => assumption); (case e => walk_at "hs"); (case l => walk_at "fl")) | fail)
local macro_rules | `(tactic| walk_at "go1") => `(tactic| with_reducible refine Vc.go_xfX ?_)
local macro_rules | `(tactic| walk_at "go1") => `(tactic| first | ((with_reducible refine' Vc.go_insD ?e ?_); (case e => walk_at "hs")) | fail)
local macro_rules | `(tactic| walk_at "go1") => `(tactic| with_reducible refine Vc.go_refE ?_)
local macro_rules | `(tactic| walk_at "go1") => `(tactic| with_reducible refine Vc.go_callIK ?_)
local macro_rules | `(tactic| walk_at "go1") => `(tactic| with_reducible refine Vc.go_smethS ?_)
local macro_rules | `(tactic| walk_at "go1") => `(tactic| with_reducible refine Vc.go_cmethS ?_)
local macro_rules | `(tactic| walk_at "go1") => `(tactic| with_reducible refine Vc.go_makeC ?_)
local macro_rules | `(tactic| walk_at "go1") => `(tactic| with_reducible refine Vc.go_makeS ?_)
local macro_rules | `(tactic| walk_at "go1") => `(tactic| with_reducible refine Vc.go_methS ?_)
local macro_rules | `(tactic| walk_at "go1") => `(tactic| with_reducible refine Vc.go_callI ?_)
local macro_rules | `(tactic| walk_at "go1") => `(tactic| with_reducible refine Vc.go_callS ?_)
local macro_rules | `(tactic| walk_at "go1") => `(tactic| with_reducible refine Vc.go_err2 ?_)
local macro_rules | `(tactic| walk_at "go1") => `(tactic| with_reducible refine Vc.go_err1 ?_)
local macro_rules | `(tactic| walk_at "go1") => `(tactic| with_reducible refine Vc.go_mkO ?_)
local macro_rules | `(tactic| walk_at "go1") => `(tactic| with_reducible refine Vc.go_raiseT ?_)
local macro_rules | `(tactic| walk_at "go1") => `(tactic| with_reducible refine Vc.go_call ?_)
local macro_rules | `(tactic| walk_at "go1") => `(tactic| first | ((with_reducible refine' Vc.go_niT ?e ?hx ?hf ?_); (case e => walk_at "hs"); (case hx => rfl); (case hf => walk_at "flat")) | fail)
local macro_rules | `(tactic| walk_at "go1") => `(tactic| first | ((with_reducible refine' Vc.go_niL ?e ?hx ?hf ?_); (case e => walk_at "hs"); (case hx => rfl); (case hf => walk_at "flat")) | fail)
local macro_rules | `(tactic| walk_at "go1") => `(tactic| first | ((with_reducible refine' Vc.go_inT ?e ?hx ?hf ?_); (case e => walk_at "hs"); (case hx => rfl); (case hf => walk_at "flat")) | fail)
local macro_rules | `(tactic| walk_at "go1") => `(tactic| first | ((with_reducible refine' Vc.go_inL ?e ?hx ?hf ?_); (case e => walk_at "hs"); (case hx => rfl); (case hf => walk_at "flat")) | fail)
local macro_rules | `(tactic| walk_at "go1") => `(tactic| first | ((with_reducible refine' Vc.go_dgetIF ?he ?hv ?_); (case he => walk_at "fz"); (case hv => walk_at "dv")) | fail)
local macro_rules | `(tactic| walk_at "go1") => `(tactic| first | ((with_reducible refine' Vc.go_lenS ?l ?_); (case l => walk_at "ln")) | fail)
local macro_rules | `(tactic| walk_at "go1") => `(tactic| first | ((with_reducible refine' Vc.go_listD ?e ?_); (case e => walk_at "hs")) | fail)
local macro_rules | `(tactic| walk_at "go1") => `(tactic| first | ((with_reducible refine' Vc.go_lenD ?e ?_); (case e => walk_at "hs")) | fail)
local macro_rules | `(tactic| walk_at "go1") => `(tactic| first | ((with_reducible refine' Vc.go_methV ?e ?l ?_); (case e => walk_at "hs"); (case l => walk_at "fl")) | fail)
local macro_rules | `(tactic| walk_at "go1") => `(tactic| first | ((with_reducible refine' Vc.go_sfldV ?e ?l ?c ?n ?_); (case e => walk_at "hs"); (case l => walk_at "fn"); (case c => assumption); (case n => assumption)) | fail)
local macro_rules | `(tactic| walk_at "go1") => `(tactic| first | ((with_reducible refine' Vc.go_fldV ?e ?hl ?c ?n ?_); (case e => walk_at "hs"); (case hl => walk_at "fl"); (case c => assumption); (case n => assumption)) | fail)
local macro_rules | `(tactic| walk_at "go1") => `(tactic| first | ((with_reducible refine' Vc.go_cval ?hr ?hv ?_); (case hr => assumption); (case hv => assumption)) | fail)
local macro_rules | `(tactic| walk_at "go1") => `(tactic| first | ((with_reducible refine' Vc.go_iteN ?h ?_); (case h => (intro z; cases z))) | fail)
local macro_rules | `(tactic| walk_at "go1") => `(tactic| with_reducible refine' Vc.go_iteNT ?_)
local macro_rules | `(tactic| walk_at "go1") => `(tactic| with_reducible refine Vc.go_isN ?_)
local macro_rules | `(tactic| walk_at "go1") => `(tactic| first | ((with_reducible refine' Vc.go_isiT2 ?ht ?e ?hk ?hk2 ?hc ?_); (case ht => walk_at "ty"); (case e => walk_at "hs"); (case hk => walk_at "kit"); (case hk2 => walk_at "kit"); (case hc => first | exact Vc.or_t | exact Vc.or_f)) | fail)
local macro_rules | `(tactic| walk_at "go1") => `(tactic| first | ((with_reducible refine' Vc.go_isi ?ht ?hk ?_); (case ht => walk_at "ty"); (case hk => walk_at "kit")) | fail)
local macro_rules | `(tactic| walk_at "go1") => `(tactic| with_reducible refine Vc.go_neB ?_)
local macro_rules | `(tactic| walk_at "go1") => `(tactic| with_reducible refine Vc.go_eqB ?_)
local macro_rules | `(tactic| walk_at "go1") => `(tactic| with_reducible refine Vc.go_neS ?_)
local macro_rules | `(tactic| walk_at "go1") => `(tactic| with_reducible refine Vc.go_eqS ?_)
local macro_rules | `(tactic| walk_at "go1") => `(tactic| with_reducible refine Vc.go_neI ?_)
local macro_rules | `(tactic| walk_at "go1") => `(tactic| with_reducible refine Vc.go_eqI ?_)
local macro_rules | `(tactic| walk_at "go1") => `(tactic| first | ((with_reducible refine' Vc.go_I ?hc ?_); (case hc => walk_at "side")) | fail)
local macro_rules | `(tactic| walk_at "go1") => `(tactic| with_reducible refine Vc.go_U ?_)
local macro_rules | `(tactic| walk_at "go1") => `(tactic| with_reducible refine Vc.go_I0 ?_)
local macro_rules | `(tactic| walk_at "go1") => `(tactic| with_reducible refine Vc.go_if ?_)
local macro_rules | `(tactic| walk_at "go1") => `(tactic| with_reducible refine Vc.go_notV ?_)
local macro_rules | `(tactic| walk_at "go1") => `(tactic| with_reducible refine Vc.go_orV ?_)
local macro_rules | `(tactic| walk_at "go1") => `(tactic| with_reducible refine Vc.go_andV ?_)
local macro_rules | `(tactic| walk_at "go1") => `(tactic| with_reducible refine Vc.go_yes ?_)
local macro_rules | `(tactic| walk_at "go1") => `(tactic| with_reducible refine Vc.go_orT ?_)
local macro_rules | `(tactic| walk_at "go1") => `(tactic| with_reducible refine Vc.go_andT ?_)
local macro_rules | `(tactic| walk_at "go1") => `(tactic| with_reducible refine Vc.go_notT ?_)
local macro_rules | `(tactic| walk_at "go1") => `(tactic| with_reducible refine Vc.go_blP ?_)
local macro_rules | `(tactic| walk_at "go1") => `(tactic| with_reducible refine Vc.go_bl ?_)
local macro_rules | `(tactic| walk_at "go1") => `(tactic| with_reducible refine Vc.go_B ?_)
local macro_rules | `(tactic| walk_at "go1") => `(tactic| with_reducible refine Vc.go_test ?_)
local macro_rules | `(tactic| walk_at "go1") => `(tactic| with_reducible refine Vc.go_ifS ?_)
local macro_rules | `(tactic| walk_at "go1") => `(tactic| with_reducible refine Vc.go_next ?_)
local macro_rules | `(tactic| walk_at "go1") => `(tactic| with_reducible refine Vc.go_retN ?_)
local macro_rules | `(tactic| walk_at "go1") => `(tactic| with_reducible refine Vc.go_ret ?_)
local macro_rules | `(tactic| walk_at "go1") => `(tactic| with_reducible refine' Vc.go_nF ?_)
local macro_rules | `(tactic| walk_at "go1") => `(tactic| with_reducible refine' Vc.go_nT ?_)
local macro_rules | `(tactic| walk_at "go1") => `(tactic| with_reducible refine' Vc.go_eqL ?_)
local macro_rules | `(tactic| walk_at "go1") => `(tactic| with_reducible refine' Vc.go_Some ?_)
local macro_rules | `(tactic| walk_at "go1") => `(tactic| with_reducible refine' Vc.go_None ?_)
local macro_rules | `(tactic| walk_at "go1") => `(tactic| with_reducible refine' Vc.go_nSome ?_)
local macro_rules | `(tactic| walk_at "go1") => `(tactic| with_reducible refine' Vc.go_nNone ?_)
local macro_rules | `(tactic| walk_at "go1") => `(tactic| with_reducible refine' Vc.go_neL ?_)
local macro_rules | `(tactic| walk_at "go1") => `(tactic| with_reducible refine' L2.iteF ?_)
local macro_rules | `(tactic| walk_at "go1") => `(tactic| with_reducible refine' L2.iteT ?_)
local macro_rules | `(tactic| walk_at "go1") => `(tactic| with_reducible refine Vc.go_pairs0 ?_)
local macro_rules | `(tactic| walk_at "go1") => `(tactic| with_reducible refine Vc.go_pairs ?_)
local macro_rules | `(tactic| walk_at "go1") => `(tactic| with_reducible refine Vc.go_disp ?_)
local macro_rules | `(tactic| walk_at "go1") => `(tactic| with_reducible refine Vc.go_lc ?_)
local macro_rules | `(tactic| walk_at "go1") => `(tactic| with_reducible refine Vc.go_iStr ?_)
local macro_rules | `(tactic| walk_at "go1") => `(tactic| with_reducible refine Vc.go_iRng2 ?_)
local macro_rules | `(tactic| walk_at "go1") => `(tactic| with_reducible refine Vc.go_iRng1 ?_)
local macro_rules | `(tactic| walk_at "go1") => `(tactic| with_reducible refine Vc.go_iTup ?_)
local macro_rules | `(tactic| walk_at "go1") => `(tactic| with_reducible refine Vc.go_iList ?_)
local macro_rules | `(tactic| walk_at "go1") => `(tactic| with_reducible refine Vc.go_for ?_)
local macro_rules | `(tactic| walk_at "go1") => `(tactic| with_reducible refine Vc.go_sign ?_)
local macro_rules | `(tactic| walk_at "go1") => `(tactic| with_reducible refine Vc.go_strE ?_)
local macro_rules | `(tactic| walk_at "go1") => `(tactic| first | ((with_reducible refine' Vc.go_lstDT ?e ?_); (case e => walk_at "hs")) | fail)
local macro_rules | `(tactic| walk_at "go1") => `(tactic| first | ((with_reducible refine' Vc.go_lstD ?e ?_); (case e => walk_at "hs")) | fail)
local macro_rules | `(tactic| walk_at "go1") => `(tactic| first | ((with_reducible refine' Vc.go_lstDO ?e ?_); (case e => assumption)) | fail)
local macro_rules | `(tactic| walk_at "go1") => `(tactic| first | ((with_reducible refine' Vc.go_tupDT ?e ?_); (case e => walk_at "hs")) | fail)
local macro_rules | `(tactic| walk_at "go1") => `(tactic| first | ((with_reducible refine' Vc.go_tupD ?e ?_); (case e => walk_at "hs")) | fail)
local macro_rules | `(tactic| walk_at "go1") => `(tactic| with_reducible refine Vc.go_sub ?_)
local macro_rules | `(tactic| walk_at "go1") => `(tactic| with_reducible refine Vc.go_isS ?_)
local macro_rules | `(tactic| walk_at "go1") => `(tactic| with_reducible refine Vc.go_M0 ?_)
local macro_rules | `(tactic| walk_at "go1") => `(tactic| with_reducible refine Vc.go_M1 ?_)
local macro_rules | `(tactic| walk_at "go1") => `(tactic| first | ((with_reducible refine' Vc.go_addS ?l ?_); (case l => walk_at "ln")) | fail)
local macro_rules | `(tactic| walk_at "go1") => `(tactic| with_reducible refine Vc.go_ipI ?_)
local macro_rules | `(tactic| walk_at "go1") => `(tactic| first | ((with_reducible refine' Vc.go_aug ?hv ?_); (case hv => rfl)) | fail)
local macro_rules | `(tactic| walk_at "go1") => `(tactic| with_reducible refine Vc.go_lenSet ?_)
local macro_rules | `(tactic| walk_at "go1") => `(tactic| with_reducible refine Vc.go_dc ?_)
local macro_rules | `(tactic| walk_at "go1") => `(tactic| with_reducible refine Vc.go_meth ?_)
local macro_rules | `(tactic| walk_at "go1") => `(tactic| with_reducible refine Vc.go_make ?_)
local macro_rules | `(tactic| walk_at "go1") => `(tactic| with_reducible refine Vc.go_sfld ?_)
local macro_rules | `(tactic| walk_at "go1") => `(tactic| with_reducible refine Vc.go_fld ?_)
local macro_rules | `(tactic| walk_at "go1") => `(tactic| with_reducible refine Vc.go_cvalR ?_)
local macro_rules | `(tactic| walk_at "go1") => `(tactic| with_reducible refine Vc.go_chain ?_)
local macro_rules | `(tactic| walk_at "go1") => `(tactic| with_reducible refine Vc.go_drop ?_)
local macro_rules | `(tactic| walk_at "go1") => `(tactic| with_reducible refine Vc.go_dget ?_)
local macro_rules | `(tactic| walk_at "go1") => `(tactic| with_reducible refine Vc.go_nil ?_)
local macro_rules | `(tactic| walk_at "go1") => `(tactic| with_reducible refine Vc.go_cons ?_)
local macro_rules | `(tactic| walk_at "go1") => `(tactic| with_reducible refine Vc.go_cb ?_)
local macro_rules | `(tactic| walk_at "go1") => `(tactic| with_reducible refine Vc.go_un ?_)
local macro_rules | `(tactic| walk_at "go1") => `(tactic| with_reducible refine Vc.go_op ?_)
local macro_rules | `(tactic| walk_at "go1") => `(tactic| with_reducible refine Vc.go_c ?_)
local macro_rules | `(tactic| walk_at "go1") => `(tactic| first | ((with_reducible refine' Vc.go_var ?hv ?_); (case hv => rfl)) | fail)
local macro_rules | `(tactic| walk_at "go1") => `(tactic| with_reducible refine Vc.go_name ?_)
local macro_rules | `(tactic| walk_at "go1") => `(tactic| with_reducible refine Vc.go_asg ?_)
local macro_rules | `(tactic| walk_at "go1") => `(tactic| with_reducible refine Vc.go_seq ?_)
local macro_rules | `(tactic| walk_at "kit") => `(tactic| with_reducible exact Vc.kit_dict_dict)
local macro_rules | `(tactic| walk_at "kit") => `(tactic| with_reducible exact Vc.kit_dict_list)
local macro_rules | `(tactic| walk_at "kit") => `(tactic| with_reducible exact Vc.kit_dict_tuple)
local macro_rules | `(tactic| walk_at "kit") => `(tactic| with_reducible exact Vc.kit_dict_str)
local macro_rules | `(tactic| walk_at "kit") => `(tactic| with_reducible exact Vc.kit_dict_bool)
local macro_rules | `(tactic| walk_at "kit") => `(tactic| with_reducible exact Vc.kit_dict_int)
local macro_rules | `(tactic| walk_at "kit") => `(tactic| with_reducible exact Vc.kit_tuple_dict)
local macro_rules | `(tactic| walk_at "kit") => `(tactic| with_reducible exact Vc.kit_tuple_list)
local macro_rules | `(tactic| walk_at "kit") => `(tactic| with_reducible exact Vc.kit_tuple_tuple)
local macro_rules | `(tactic| walk_at "kit") => `(tactic| with_reducible exact Vc.kit_tuple_str)
local macro_rules | `(tactic| walk_at "kit") => `(tactic| with_reducible exact Vc.kit_tuple_bool)
local macro_rules | `(tactic| walk_at "kit") => `(tactic| with_reducible exact Vc.kit_tuple_int)
local macro_rules | `(tactic| walk_at "kit") => `(tactic| with_reducible exact Vc.kit_list_dict)
local macro_rules | `(tactic| walk_at "kit") => `(tactic| with_reducible exact Vc.kit_list_list)
local macro_rules | `(tactic| walk_at "kit") => `(tactic| with_reducible exact Vc.kit_list_tuple)
local macro_rules | `(tactic| walk_at "kit") => `(tactic| with_reducible exact Vc.kit_list_str)
local macro_rules | `(tactic| walk_at "kit") => `(tactic| with_reducible exact Vc.kit_list_bool)
local macro_rules | `(tactic| walk_at "kit") => `(tactic| with_reducible exact Vc.kit_list_int)
local macro_rules | `(tactic| walk_at "kit") => `(tactic| with_reducible exact Vc.kit_NoneType_dict)
local macro_rules | `(tactic| walk_at "kit") => `(tactic| with_reducible exact Vc.kit_NoneType_list)
local macro_rules | `(tactic| walk_at "kit") => `(tactic| with_reducible exact Vc.kit_NoneType_tuple)
local macro_rules | `(tactic| walk_at "kit") => `(tactic| with_reducible exact Vc.kit_NoneType_str)
local macro_rules | `(tactic| walk_at "kit") => `(tactic| with_reducible exact Vc.kit_NoneType_bool)
local macro_rules | `(tactic| walk_at "kit") => `(tactic| with_reducible exact Vc.kit_NoneType_int)
local macro_rules | `(tactic| walk_at "kit") => `(tactic| with_reducible exact Vc.kit_str_dict)
local macro_rules | `(tactic| walk_at "kit") => `(tactic| with_reducible exact Vc.kit_str_list)
local macro_rules | `(tactic| walk_at "kit") => `(tactic| with_reducible exact Vc.kit_str_tuple)
local macro_rules | `(tactic| walk_at "kit") => `(tactic| with_reducible exact Vc.kit_str_str)
local macro_rules | `(tactic| walk_at "kit") => `(tactic| with_reducible exact Vc.kit_str_bool)
local macro_rules | `(tactic| walk_at "kit") => `(tactic| with_reducible exact Vc.kit_str_int)
local macro_rules | `(tactic| walk_at "kit") => `(tactic| with_reducible exact Vc.kit_bool_dict)
local macro_rules | `(tactic| walk_at "kit") => `(tactic| with_reducible exact Vc.kit_bool_list)
local macro_rules | `(tactic| walk_at "kit") => `(tactic| with_reducible exact Vc.kit_bool_tuple)
local macro_rules | `(tactic| walk_at "kit") => `(tactic| with_reducible exact Vc.kit_bool_str)
local macro_rules | `(tactic| walk_at "kit") => `(tactic| with_reducible exact Vc.kit_bool_bool)
local macro_rules | `(tactic| walk_at "kit") => `(tactic| with_reducible exact Vc.kit_bool_int)
local macro_rules | `(tactic| walk_at "kit") => `(tactic| with_reducible exact Vc.kit_int_dict)
local macro_rules | `(tactic| walk_at "kit") => `(tactic| with_reducible exact Vc.kit_int_list)
local macro_rules | `(tactic| walk_at "kit") => `(tactic| with_reducible exact Vc.kit_int_tuple)
local macro_rules | `(tactic| walk_at "kit") => `(tactic| with_reducible exact Vc.kit_int_str)
local macro_rules | `(tactic| walk_at "kit") => `(tactic| with_reducible exact Vc.kit_int_bool)
local macro_rules | `(tactic| walk_at "kit") => `(tactic| with_reducible exact Vc.kit_int_int)
local macro_rules | `(tactic| walk_at "ty") => `(tactic| first | ((with_reducible refine' Vc.tyT ?h); (case h => walk_at "hs")) | fail)
local macro_rules | `(tactic| walk_at "ty") => `(tactic| first | ((with_reducible refine' Vc.tyL ?h); (case h => walk_at "hs")) | fail)
local macro_rules | `(tactic| walk_at "ty") => `(tactic| with_reducible exact .base .non)
local macro_rules | `(tactic| walk_at "ty") => `(tactic| with_reducible exact .base (.str _))
local macro_rules | `(tactic| walk_at "ty") => `(tactic| with_reducible exact .base (.bl _))
local macro_rules | `(tactic| walk_at "ty") => `(tactic| with_reducible exact .base (.int _))
local macro_rules | `(tactic| walk_at "bd") => `(tactic| first | ((with_reducible refine' Vc.ErrAt.ed0 ?e ?h); (case e => assumption); (case h => walk_at "bd")) | fail)
local macro_rules | `(tactic| walk_at "bd") => `(tactic| assumption)
local macro_rules | `(tactic| walk_at "fz") => `(tactic| first | ((with_reducible refine' Vc.frz' ?e ?h); (case e => assumption); (case h => walk_at "fz")) | fail)
local macro_rules | `(tactic| walk_at "fz") => `(tactic| assumption)
local macro_rules | `(tactic| walk_at "free") => `(tactic| first | ((with_reducible refine' Vc.Ed.back ?e ?h); (case e => assumption); (case h => walk_at "free")) | fail)
local macro_rules | `(tactic| walk_at "free") => `(tactic| assumption)
local macro_rules | `(tactic| walk_at "in") => `(tactic| first | ((with_reducible refine' Or.inr ?h); (case h => walk_at "free")) | fail)
local macro_rules | `(tactic| walk_at "in") => `(tactic| first | ((with_reducible refine' Or.inl ?h); (case h => (simp only [List.mem_cons, List.not_mem_nil, or_false, true_or, or_true]; done))) | fail)
local macro_rules | `(tactic| walk_at "ed") => `(tactic| first | ((with_reducible refine' Vc.Ed.two' ?b ?a ?h ?g); (case b => assumption); (case a => walk_at "ed"); (case h => walk_at "in"); (case g => walk_at "in")) | fail)
local macro_rules | `(tactic| walk_at "ed") => `(tactic| first | ((with_reducible refine' Vc.Ed.one' ?b ?a ?h); (case b => assumption); (case a => walk_at "ed"); (case h => walk_at "in")) | fail)
local macro_rules | `(tactic| walk_at "ed") => `(tactic| first | ((with_reducible refine' Vc.Ed.ex' ?b ?a); (case b => assumption); (case a => walk_at "ed")) | fail)
local macro_rules | `(tactic| walk_at "ed") => `(tactic| with_reducible exact Vc.Ed.refl)
local macro_rules | `(tactic| walk_at "ed") => `(tactic| assumption)
local macro_rules | `(tactic| walk_at "ne") => `(tactic| first | ((with_reducible refine' Vc.nek ?e ?h ?d); (case e => assumption); (case h => assumption); (case d => intro z; cases z)) | fail)
local macro_rules | `(tactic| walk_at "ne") => `(tactic| first | ((with_reducible refine' Vc.ne2 ?e ?h); (case e => assumption); (case h => walk_at "hs")) | fail)
local macro_rules | `(tactic| walk_at "ne") => `(tactic| first | ((with_reducible refine' Vc.ne1 ?e ?h); (case e => assumption); (case h => walk_at "hs")) | fail)
local macro_rules | `(tactic| walk_at "ne") => `(tactic| first | ((with_reducible refine' Ne.symm ?h); (case h => assumption)) | fail)
local macro_rules | `(tactic| walk_at "ne") => `(tactic| assumption)
local macro_rules | `(tactic| walk_at "hs") => `(tactic| first | ((with_reducible refine' Vc.Ed.sql1 ?e ?n ?h); (case e => assumption); (case n => walk_at "ne"); (case h => walk_at "hs")) | fail)
local macro_rules | `(tactic| walk_at "hs") => `(tactic| first | ((with_reducible refine' Vc.Ed.sql0 ?e ?h); (case e => assumption); (case h => walk_at "hs")) | fail)
local macro_rules | `(tactic| walk_at "hs") => `(tactic| first | ((with_reducible refine' Vc.Ed.sqt ?e ?h); (case e => assumption); (case h => walk_at "hs")) | fail)
local macro_rules | `(tactic| walk_at "hs") => `(tactic| first | ((with_reducible refine' Vc.sqt_of ?h); (case h => walk_at "hs")) | fail)
local macro_rules | `(tactic| walk_at "hs") => `(tactic| first | ((with_reducible refine' Vc.all_sqt ?h _); (case h => assumption)) | fail)
local macro_rules | `(tactic| walk_at "hs") => `(tactic| first | ((with_reducible refine' L2.SqL.of ?h); (case h => walk_at "hs")) | fail)
local macro_rules | `(tactic| walk_at "hs") => `(tactic| first | ((with_reducible refine' Vc.frz' ?e ?h); (case e => assumption); (case h => walk_at "hs")) | fail)
local macro_rules | `(tactic| walk_at "hs") => `(tactic| first | ((with_reducible refine' Vc.Ed.at2 ?e ?n ?m ?h); (case e => assumption); (case n => walk_at "ne"); (case m => walk_at "ne"); (case h => walk_at "hs")) | fail)
local macro_rules | `(tactic| walk_at "hs") => `(tactic| first | ((with_reducible refine' Vc.Ed.at1 ?e ?n ?h); (case e => assumption); (case n => walk_at "ne"); (case h => walk_at "hs")) | fail)
local macro_rules | `(tactic| walk_at "hs") => `(tactic| first | ((with_reducible refine' Vc.Ed.at0 ?e ?h); (case e => assumption); (case h => walk_at "hs")) | fail)
local macro_rules | `(tactic| walk_at "hs") => `(tactic| assumption)
local macro_rules | `(tactic| walk_at "fl") => `(tactic| first | assumption | rfl)
local macro_rules | `(tactic| walk_at "fn") => `(tactic| first | assumption | exact (show 0 < 1000 by decide) | exact (show 1 < 1000 by decide) | exact (show 2 < 1000 by decide) | exact (show 3 < 1000 by decide) | exact (show 4 < 1000 by decide) | exact (show 5 < 1000 by decide) | exact (show 6 < 1000 by decide))
local macro_rules | `(tactic| walk_at "flat") => `(tactic| first | assumption | rfl)
local macro_rules | `(tactic| walk_at "ix") => `(tactic| first | assumption | rfl)
local macro_rules | `(tactic| walk_at "dv") => `(tactic| first | assumption | rfl)
local macro_rules | `(tactic| walk_at "ln") => `(tactic| first | assumption | (simp only [List.length_cons, List.length_nil, List.length_append, List.length_map]; omega) | decide)
local macro_rules | `(tactic| walk_at "go") => `(tactic| repeat walk_at "go1")
local macro_rules | `(tactic| walk_at "side") => `(tactic| first
  | omega
  | (dsimp only; omega)
  | exact ⟨by omega, by omega, by omega⟩
  | exact Vc.mulw (by omega) (by omega)
  | exact Vc.divw (by omega) (by omega))
local macro_rules | `(tactic| walk_at "goo") => `(tactic| repeat walk_at "goo1")

namespace My
open PySem PySem.Spec PyProof.Rows L2
abbrev PG : Program := PySem.Challenge.pw_codestitch_k07_image_bytes
def topS (i : Nat) : Stmt := PySem.Challenge.pw_codestitch_k07_image_bytes.main.body.getD i (.Pass ⟨0, 0, 0, 0⟩)
abbrev s_is_byte : Stmt := topS 17
theorem sc_is_byte : FnScope ["value"] ["value"] (defScope s_is_byte) := ⟨rfl, rfl, rfl, by decide +kernel, rfl, by decide +kernel, by decide +kernel⟩
abbrev s_is_name : Stmt := topS 18
theorem sc_is_name : FnScope ["value", "sign"] ["value"] (defScope s_is_name) := ⟨rfl, rfl, rfl, by decide +kernel, rfl, by decide +kernel, by decide +kernel⟩
abbrev s_Formu_initu : Stmt := inClass (topS 19) 1
theorem sc_Formu_initu : FnScope ["self", "name", "length", "flow", "least"] ["self", "name", "length", "flow"] (defScope s_Formu_initu) := ⟨rfl, rfl, rfl, by decide +kernel, rfl, by decide +kernel, by decide +kernel⟩
abbrev s_check_forms : Stmt := topS 20
theorem sc_check_forms : FnScope ["stop", "forms", "names", "byte"] ["stop", "forms"] (defScope s_check_forms) := ⟨rfl, rfl, rfl, by decide +kernel, rfl, by decide +kernel, by decide +kernel⟩
abbrev s_CodeSetu_initu : Stmt := inClass (topS 21) 2
theorem sc_CodeSetu_initu : FnScope ["self", "stop", "forms", "byte"] ["self", "stop", "forms"] (defScope s_CodeSetu_initu) := ⟨rfl, rfl, rfl, by decide +kernel, rfl, by decide +kernel, by decide +kernel⟩
abbrev s_CodeSet_sample : Stmt := inClass (topS 21) 3
theorem sc_CodeSet_sample : FnScope [] [] (defScope s_CodeSet_sample) := ⟨rfl, rfl, rfl, by decide +kernel, rfl, by decide +kernel, by decide +kernel⟩
abbrev s_CodeSetu_callu : Stmt := inClass (topS 21) 10
theorem sc_CodeSetu_callu : FnScope ["self", "values", "at", "data", "high"] ["self", "values", "at"] (defScope s_CodeSetu_callu) := ⟨rfl, rfl, rfl, by decide +kernel, rfl, by decide +kernel, by decide +kernel⟩
abbrev s_check_bytes : Stmt := topS 23
theorem sc_check_bytes : FnScope ["values", "at", "value"] ["values"] (defScope s_check_bytes) := ⟨rfl, rfl, rfl, by decide +kernel, rfl, by decide +kernel, by decide +kernel⟩
abbrev s_span_of : Stmt := topS 24
theorem sc_span_of : FnScope ["at", "size", "low", "high"] ["at", "size"] (defScope s_span_of) := ⟨rfl, rfl, rfl, by decide +kernel, rfl, by decide +kernel, by decide +kernel⟩
abbrev s_Imageu_initu : Stmt := inClass (topS 26) 0
theorem sc_Imageu_initu : FnScope ["self", "values", "cells"] ["self", "values"] (defScope s_Imageu_initu) := ⟨rfl, rfl, rfl, by decide +kernel, rfl, by decide +kernel, by decide +kernel⟩
abbrev s_Imageu_lenu : Stmt := inClass (topS 26) 1
theorem sc_Imageu_lenu : FnScope ["self"] ["self"] (defScope s_Imageu_lenu) := ⟨rfl, rfl, rfl, by decide +kernel, rfl, by decide +kernel, by decide +kernel⟩
abbrev s_Imageu_iteru : Stmt := inClass (topS 26) 2
theorem sc_Imageu_iteru : FnScope ["self"] ["self"] (defScope s_Imageu_iteru) := ⟨rfl, rfl, rfl, by decide +kernel, rfl, by decide +kernel, by decide +kernel⟩
abbrev s_Imageu_equ : Stmt := inClass (topS 26) 3
theorem sc_Imageu_equ : FnScope ["self", "other"] ["self", "other"] (defScope s_Imageu_equ) := ⟨rfl, rfl, rfl, by decide +kernel, rfl, by decide +kernel, by decide +kernel⟩
abbrev s_Imageu_getitemu : Stmt := inClass (topS 26) 4
theorem sc_Imageu_getitemu : FnScope ["self", "at", "low", "high"] ["self", "at"] (defScope s_Imageu_getitemu) := ⟨rfl, rfl, rfl, by decide +kernel, rfl, by decide +kernel, by decide +kernel⟩
abbrev s_Imageu_setitemu : Stmt := inClass (topS 26) 5
theorem sc_Imageu_setitemu : FnScope ["self", "at", "worth", "low", "high", "given"] ["self", "at", "worth"] (defScope s_Imageu_setitemu) := ⟨rfl, rfl, rfl, by decide +kernel, rfl, by decide +kernel, by decide +kernel⟩
abbrev s__law_pen : Stmt := topS 28
theorem sc__law_pen : FnScope ["_law_script"] ["_law_script"] (defScope s__law_pen) := ⟨rfl, rfl, rfl, by decide +kernel, rfl, by decide +kernel, by decide +kernel⟩
abbrev s__law_draw : Stmt := topS 29
theorem sc__law_draw : FnScope ["_law_pen_here", "_law_many", "_law_digit", "_law_at", "_law_cell", "_law_mixed"] ["_law_pen_here", "_law_many"] (defScope s__law_draw) := ⟨rfl, rfl, rfl, by decide +kernel, rfl, by decide +kernel, by decide +kernel⟩
abbrev s__law_pick : Stmt := topS 30
theorem sc__law_pick : FnScope ["_law_pen_here", "_law_some"] ["_law_pen_here", "_law_some"] (defScope s__law_pick) := ⟨rfl, rfl, rfl, by decide +kernel, rfl, by decide +kernel, by decide +kernel⟩
abbrev s__law_word : Stmt := topS 31
theorem sc__law_word : FnScope ["_law_error", "_law_found"] ["_law_error"] (defScope s__law_word) := ⟨rfl, rfl, rfl, by decide +kernel, rfl, by decide +kernel, by decide +kernel⟩
abbrev s__law_heard : Stmt := topS 32
theorem sc__law_heard : FnScope ["_law_asked", "_law_caught", "_law_found", "_law_error"] ["_law_asked"] (defScope s__law_heard) := ⟨rfl, rfl, rfl, by decide +kernel, rfl, by decide +kernel, by decide +kernel⟩
abbrev s__law_cells : Stmt := topS 33
theorem sc__law_cells : FnScope ["_law_row"] ["_law_row"] (defScope s__law_cells) := ⟨rfl, rfl, rfl, by decide +kernel, rfl, by decide +kernel, by decide +kernel⟩
abbrev s__law_bytes : Stmt := topS 34
theorem sc__law_bytes : FnScope ["_law_pen_here", "_law_many", "_law_k"] ["_law_pen_here", "_law_many"] (defScope s__law_bytes) := ⟨rfl, rfl, rfl, by decide +kernel, rfl, by decide +kernel, by decide +kernel⟩
abbrev s__law_odd : Stmt := topS 35
theorem sc__law_odd : FnScope ["_law_pen_here"] ["_law_pen_here"] (defScope s__law_odd) := ⟨rfl, rfl, rfl, by decide +kernel, rfl, by decide +kernel, by decide +kernel⟩
abbrev s__law_spoilt : Stmt := topS 36
theorem sc__law_spoilt : FnScope ["_law_pen_here", "_law_values", "_law_found", "_law_k"] ["_law_pen_here", "_law_values"] (defScope s__law_spoilt) := ⟨rfl, rfl, rfl, by decide +kernel, rfl, by decide +kernel, by decide +kernel⟩
abbrev s__law_edge : Stmt := topS 37
theorem sc__law_edge : FnScope ["_law_pen_here", "_law_size", "_law_some"] ["_law_pen_here", "_law_size"] (defScope s__law_edge) := ⟨rfl, rfl, rfl, by decide +kernel, rfl, by decide +kernel, by decide +kernel⟩
abbrev s__law_deed : Stmt := topS 38
theorem sc__law_deed : FnScope ["_law_pen_here", "_law_size", "_law_value", "_law_ends", "_law_pair", "_law_many"] ["_law_pen_here", "_law_size"] (defScope s__law_deed) := ⟨rfl, rfl, rfl, by decide +kernel, rfl, by decide +kernel, by decide +kernel⟩
abbrev s__law_bad : Stmt := topS 39
theorem sc__law_bad : FnScope ["_law_values", "_law_at"] ["_law_values"] (defScope s__law_bad) := ⟨rfl, rfl, rfl, by decide +kernel, rfl, by decide +kernel, by decide +kernel⟩
abbrev s__law_due : Stmt := topS 40
theorem sc__law_due : FnScope ["_law_cells_here", "_law_at", "_law_values", "_law_size", "_law_k"] ["_law_cells_here", "_law_at", "_law_values"] (defScope s__law_due) := ⟨rfl, rfl, rfl, by decide +kernel, rfl, by decide +kernel, by decide +kernel⟩
abbrev s__law_dressed : Stmt := topS 41
theorem sc__law_dressed : FnScope ["_law_pen_here", "_law_values", "_law_way"] ["_law_pen_here", "_law_values"] (defScope s__law_dressed) := ⟨rfl, rfl, rfl, by decide +kernel, rfl, by decide +kernel, by decide +kernel⟩
abbrev s__law_put : Stmt := topS 42
theorem sc__law_put : FnScope ["_law_image", "_law_at", "_law_values"] ["_law_image", "_law_at", "_law_values"] (defScope s__law_put) := ⟨rfl, rfl, rfl, by decide +kernel, rfl, by decide +kernel, by decide +kernel⟩
abbrev s__law_done : Stmt := topS 43
theorem sc__law_done : FnScope ["_law_pen_here", "_law_image", "_law_at", "_law_values", "_law_found", "_law_shown", "_law_handed"] ["_law_pen_here", "_law_image", "_law_at", "_law_values"] (defScope s__law_done) := ⟨rfl, rfl, rfl, by decide +kernel, rfl, by decide +kernel, by decide +kernel⟩
abbrev s__law_made_right : Stmt := topS 44
theorem sc__law_made_right : FnScope ["_law_pen_here", "_law_cells_here", "_law_bent", "_law_due_here", "_law_row", "_law_found"] ["_law_pen_here", "_law_cells_here"] (defScope s__law_made_right) := ⟨rfl, rfl, rfl, by decide +kernel, rfl, by decide +kernel, by decide +kernel⟩
abbrev s__law_read : Stmt := topS 45
theorem sc__law_read : FnScope ["_law_book", "_law_row", "_law_at", "_law_caught", "_law_error"] ["_law_book", "_law_row", "_law_at"] (defScope s__law_read) := ⟨rfl, rfl, rfl, by decide +kernel, rfl, by decide +kernel, by decide +kernel⟩
abbrev s__law_read_right : Stmt := topS 46
theorem sc__law_read_right : FnScope ["_law_cells_here", "_law_image", "_law_book", "_law_sizes", "_law_at", "_law_size", "_law_due_here", "_law_row"] ["_law_cells_here", "_law_image"] (defScope s__law_read_right) := ⟨rfl, rfl, rfl, by decide +kernel, rfl, by decide +kernel, by decide +kernel⟩
abbrev s__law_unlike_right : Stmt := topS 47
theorem sc__law_unlike_right : FnScope ["_law_cells_here", "_law_image", "_law_others", "_law_other", "_law_things", "_law_thing"] ["_law_cells_here", "_law_image"] (defScope s__law_unlike_right) := ⟨rfl, rfl, rfl, by decide +kernel, rfl, by decide +kernel, by decide +kernel⟩
abbrev s_law : Stmt := topS 48
theorem sc_law : FnScope ["_law_script", "_law_pen_here", "_law_cells_here", "_law_handed", "_law_image", "_law_kept", "_law_other", "_law_turn", "_law_at", "_law_values", "_law_due_here"] ["_law_script"] (defScope s_law) := ⟨rfl, rfl, rfl, by decide +kernel, rfl, by decide +kernel, by decide +kernel⟩
abbrev s_BadAddressu_initu : Stmt := inClass (topS 9) 0
theorem sc_BadAddressu_initu : Vc.SupScope ["self", "at"] ["self", "at"] (defScope s_BadAddressu_initu) := ⟨rfl, rfl, rfl, by decide +kernel, rfl, by decide +kernel, by decide +kernel, by decide +kernel, rfl, rfl⟩
abbrev s_BadByteu_initu : Stmt := inClass (topS 8) 0
theorem sc_BadByteu_initu : Vc.SupScope ["self", "at"] ["self", "at"] (defScope s_BadByteu_initu) := ⟨rfl, rfl, rfl, by decide +kernel, rfl, by decide +kernel, by decide +kernel, by decide +kernel, rfl, rfl⟩
abbrev s_UnlikeLengthsu_initu : Stmt := inClass (topS 10) 0
theorem sc_UnlikeLengthsu_initu : Vc.SupScope ["self", "one", "other"] ["self", "one", "other"] (defScope s_UnlikeLengthsu_initu) := ⟨rfl, rfl, rfl, by decide +kernel, rfl, by decide +kernel, by decide +kernel, by decide +kernel, rfl, rfl⟩
abbrev s_NotWholeu_initu : Stmt := inClass (topS 14) 0
theorem sc_NotWholeu_initu : Vc.SupScope ["self", "place"] ["self", "place"] (defScope s_NotWholeu_initu) := ⟨rfl, rfl, rfl, by decide +kernel, rfl, by decide +kernel, by decide +kernel, by decide +kernel, rfl, rfl⟩
structure Ad where
  C_Form : Addr
  C_CodeSet : Addr
  C_Image : Addr
  f_is_byte : Addr
  d_is_byte : FuncData
  f_is_name : Addr
  d_is_name : FuncData
  f_Formu_initu : Addr
  d_Formu_initu : FuncData
  f_check_forms : Addr
  d_check_forms : FuncData
  f_CodeSetu_initu : Addr
  d_CodeSetu_initu : FuncData
  f_CodeSet_sample : Addr
  d_CodeSet_sample : FuncData
  sm_CodeSet_sample : Addr
  f_CodeSetu_callu : Addr
  d_CodeSetu_callu : FuncData
  f_check_bytes : Addr
  d_check_bytes : FuncData
  f_span_of : Addr
  d_span_of : FuncData
  f_Imageu_initu : Addr
  d_Imageu_initu : FuncData
  f_Imageu_lenu : Addr
  d_Imageu_lenu : FuncData
  f_Imageu_iteru : Addr
  d_Imageu_iteru : FuncData
  f_Imageu_equ : Addr
  d_Imageu_equ : FuncData
  f_Imageu_getitemu : Addr
  d_Imageu_getitemu : FuncData
  f_Imageu_setitemu : Addr
  d_Imageu_setitemu : FuncData
  f__law_pen : Addr
  d__law_pen : FuncData
  f__law_draw : Addr
  d__law_draw : FuncData
  f__law_pick : Addr
  d__law_pick : FuncData
  f__law_word : Addr
  d__law_word : FuncData
  f__law_heard : Addr
  d__law_heard : FuncData
  f__law_cells : Addr
  d__law_cells : FuncData
  f__law_bytes : Addr
  d__law_bytes : FuncData
  f__law_odd : Addr
  d__law_odd : FuncData
  f__law_spoilt : Addr
  d__law_spoilt : FuncData
  f__law_edge : Addr
  d__law_edge : FuncData
  f__law_deed : Addr
  d__law_deed : FuncData
  f__law_bad : Addr
  d__law_bad : FuncData
  f__law_due : Addr
  d__law_due : FuncData
  f__law_dressed : Addr
  d__law_dressed : FuncData
  f__law_put : Addr
  d__law_put : FuncData
  f__law_done : Addr
  d__law_done : FuncData
  f__law_made_right : Addr
  d__law_made_right : FuncData
  f__law_read : Addr
  d__law_read : FuncData
  f__law_read_right : Addr
  d__law_read_right : FuncData
  f__law_unlike_right : Addr
  d__law_unlike_right : FuncData
  f_law : Addr
  d_law : FuncData
  C_CodeError : Addr
  C_BadCodes : Addr
  C_BadLayout : Addr
  C_BadRewrite : Addr
  C_BadStep : Addr
  C_BadText : Addr
  C_NotRight : Addr
  C_NoWay : Addr
  C_BadInput : Addr
  C_BadAddress : Addr
  f_BadAddressu_initu : Addr
  d_BadAddressu_initu : FuncData
  C_BadByte : Addr
  f_BadByteu_initu : Addr
  d_BadByteu_initu : FuncData
  C_UnlikeLengths : Addr
  f_UnlikeLengthsu_initu : Addr
  d_UnlikeLengthsu_initu : FuncData
  C_NotWhole : Addr
  f_NotWholeu_initu : Addr
  d_NotWholeu_initu : FuncData
  a_FLOWS : Addr
structure Txt (K : PySem.W.Frag) (mg : Str → Option Value) (A : Ad) : Prop where
  g_Form : mg "Form" = some (.ref A.C_Form)
  g_CodeSet : mg "CodeSet" = some (.ref A.C_CodeSet)
  g_Image : mg "Image" = some (.ref A.C_Image)
  g_is_byte : mg "is_byte" = some (.ref A.f_is_byte)
  F_is_byte : Fun K "is_byte" "is_byte" s_is_byte A.f_is_byte A.d_is_byte
  b_is_byte : Binds K A.d_is_byte ["value"] []
  g_is_name : mg "is_name" = some (.ref A.f_is_name)
  F_is_name : Fun K "is_name" "is_name" s_is_name A.f_is_name A.d_is_name
  b_is_name : Binds K A.d_is_name ["value"] []
  F_Formu_initu : Fun K "__init__" "Form.__init__" s_Formu_initu A.f_Formu_initu A.d_Formu_initu
  b_Formu_initu : Binds K A.d_Formu_initu ["self", "name", "length", "flow"] []
  g_check_forms : mg "check_forms" = some (.ref A.f_check_forms)
  F_check_forms : Fun K "check_forms" "check_forms" s_check_forms A.f_check_forms A.d_check_forms
  b_check_forms : Binds K A.d_check_forms ["stop", "forms"] []
  F_CodeSetu_initu : Fun K "__init__" "CodeSet.__init__" s_CodeSetu_initu A.f_CodeSetu_initu A.d_CodeSetu_initu
  b_CodeSetu_initu : Binds K A.d_CodeSetu_initu ["self", "stop", "forms"] []
  sm_CodeSet_sample : Vc.SMet K A.C_CodeSet (.type "type") "sample" A.sm_CodeSet_sample A.f_CodeSet_sample
  F_CodeSet_sample : Fun K "sample" "CodeSet.sample" s_CodeSet_sample A.f_CodeSet_sample A.d_CodeSet_sample
  b_CodeSet_sample : Binds K A.d_CodeSet_sample [] []
  F_CodeSetu_callu : Fun K "__call__" "CodeSet.__call__" s_CodeSetu_callu A.f_CodeSetu_callu A.d_CodeSetu_callu
  b_CodeSetu_callu : Binds K A.d_CodeSetu_callu ["self", "values", "at"] []
  g_check_bytes : mg "check_bytes" = some (.ref A.f_check_bytes)
  F_check_bytes : Fun K "check_bytes" "check_bytes" s_check_bytes A.f_check_bytes A.d_check_bytes
  b_check_bytes : Binds K A.d_check_bytes ["values"] []
  g_span_of : mg "span_of" = some (.ref A.f_span_of)
  F_span_of : Fun K "span_of" "span_of" s_span_of A.f_span_of A.d_span_of
  b_span_of : Binds K A.d_span_of ["at", "size"] []
  F_Imageu_initu : Fun K "__init__" "Image.__init__" s_Imageu_initu A.f_Imageu_initu A.d_Imageu_initu
  b_Imageu_initu : Binds K A.d_Imageu_initu ["self", "values"] []
  F_Imageu_lenu : Fun K "__len__" "Image.__len__" s_Imageu_lenu A.f_Imageu_lenu A.d_Imageu_lenu
  b_Imageu_lenu : Binds K A.d_Imageu_lenu ["self"] []
  F_Imageu_iteru : Fun K "__iter__" "Image.__iter__" s_Imageu_iteru A.f_Imageu_iteru A.d_Imageu_iteru
  b_Imageu_iteru : Binds K A.d_Imageu_iteru ["self"] []
  F_Imageu_equ : Fun K "__eq__" "Image.__eq__" s_Imageu_equ A.f_Imageu_equ A.d_Imageu_equ
  b_Imageu_equ : Binds K A.d_Imageu_equ ["self", "other"] []
  F_Imageu_getitemu : Fun K "__getitem__" "Image.__getitem__" s_Imageu_getitemu A.f_Imageu_getitemu A.d_Imageu_getitemu
  b_Imageu_getitemu : Binds K A.d_Imageu_getitemu ["self", "at"] []
  F_Imageu_setitemu : Fun K "__setitem__" "Image.__setitem__" s_Imageu_setitemu A.f_Imageu_setitemu A.d_Imageu_setitemu
  b_Imageu_setitemu : Binds K A.d_Imageu_setitemu ["self", "at", "worth"] []
  g__law_pen : mg "_law_pen" = some (.ref A.f__law_pen)
  F__law_pen : Fun K "_law_pen" "_law_pen" s__law_pen A.f__law_pen A.d__law_pen
  b__law_pen : Binds K A.d__law_pen ["_law_script"] []
  g__law_draw : mg "_law_draw" = some (.ref A.f__law_draw)
  F__law_draw : Fun K "_law_draw" "_law_draw" s__law_draw A.f__law_draw A.d__law_draw
  b__law_draw : Binds K A.d__law_draw ["_law_pen_here", "_law_many"] []
  g__law_pick : mg "_law_pick" = some (.ref A.f__law_pick)
  F__law_pick : Fun K "_law_pick" "_law_pick" s__law_pick A.f__law_pick A.d__law_pick
  b__law_pick : Binds K A.d__law_pick ["_law_pen_here", "_law_some"] []
  g__law_word : mg "_law_word" = some (.ref A.f__law_word)
  F__law_word : Fun K "_law_word" "_law_word" s__law_word A.f__law_word A.d__law_word
  b__law_word : Binds K A.d__law_word ["_law_error"] []
  g__law_heard : mg "_law_heard" = some (.ref A.f__law_heard)
  F__law_heard : Fun K "_law_heard" "_law_heard" s__law_heard A.f__law_heard A.d__law_heard
  b__law_heard : Binds K A.d__law_heard ["_law_asked"] []
  g__law_cells : mg "_law_cells" = some (.ref A.f__law_cells)
  F__law_cells : Fun K "_law_cells" "_law_cells" s__law_cells A.f__law_cells A.d__law_cells
  b__law_cells : Binds K A.d__law_cells ["_law_row"] []
  g__law_bytes : mg "_law_bytes" = some (.ref A.f__law_bytes)
  F__law_bytes : Fun K "_law_bytes" "_law_bytes" s__law_bytes A.f__law_bytes A.d__law_bytes
  b__law_bytes : Binds K A.d__law_bytes ["_law_pen_here", "_law_many"] []
  g__law_odd : mg "_law_odd" = some (.ref A.f__law_odd)
  F__law_odd : Fun K "_law_odd" "_law_odd" s__law_odd A.f__law_odd A.d__law_odd
  b__law_odd : Binds K A.d__law_odd ["_law_pen_here"] []
  g__law_spoilt : mg "_law_spoilt" = some (.ref A.f__law_spoilt)
  F__law_spoilt : Fun K "_law_spoilt" "_law_spoilt" s__law_spoilt A.f__law_spoilt A.d__law_spoilt
  b__law_spoilt : Binds K A.d__law_spoilt ["_law_pen_here", "_law_values"] []
  g__law_edge : mg "_law_edge" = some (.ref A.f__law_edge)
  F__law_edge : Fun K "_law_edge" "_law_edge" s__law_edge A.f__law_edge A.d__law_edge
  b__law_edge : Binds K A.d__law_edge ["_law_pen_here", "_law_size"] []
  g__law_deed : mg "_law_deed" = some (.ref A.f__law_deed)
  F__law_deed : Fun K "_law_deed" "_law_deed" s__law_deed A.f__law_deed A.d__law_deed
  b__law_deed : Binds K A.d__law_deed ["_law_pen_here", "_law_size"] []
  g__law_bad : mg "_law_bad" = some (.ref A.f__law_bad)
  F__law_bad : Fun K "_law_bad" "_law_bad" s__law_bad A.f__law_bad A.d__law_bad
  b__law_bad : Binds K A.d__law_bad ["_law_values"] []
  g__law_due : mg "_law_due" = some (.ref A.f__law_due)
  F__law_due : Fun K "_law_due" "_law_due" s__law_due A.f__law_due A.d__law_due
  b__law_due : Binds K A.d__law_due ["_law_cells_here", "_law_at", "_law_values"] []
  g__law_dressed : mg "_law_dressed" = some (.ref A.f__law_dressed)
  F__law_dressed : Fun K "_law_dressed" "_law_dressed" s__law_dressed A.f__law_dressed A.d__law_dressed
  b__law_dressed : Binds K A.d__law_dressed ["_law_pen_here", "_law_values"] []
  g__law_put : mg "_law_put" = some (.ref A.f__law_put)
  F__law_put : Fun K "_law_put" "_law_put" s__law_put A.f__law_put A.d__law_put
  b__law_put : Binds K A.d__law_put ["_law_image", "_law_at", "_law_values"] []
  g__law_done : mg "_law_done" = some (.ref A.f__law_done)
  F__law_done : Fun K "_law_done" "_law_done" s__law_done A.f__law_done A.d__law_done
  b__law_done : Binds K A.d__law_done ["_law_pen_here", "_law_image", "_law_at", "_law_values"] []
  g__law_made_right : mg "_law_made_right" = some (.ref A.f__law_made_right)
  F__law_made_right : Fun K "_law_made_right" "_law_made_right" s__law_made_right A.f__law_made_right A.d__law_made_right
  b__law_made_right : Binds K A.d__law_made_right ["_law_pen_here", "_law_cells_here"] []
  g__law_read : mg "_law_read" = some (.ref A.f__law_read)
  F__law_read : Fun K "_law_read" "_law_read" s__law_read A.f__law_read A.d__law_read
  b__law_read : Binds K A.d__law_read ["_law_book", "_law_row", "_law_at"] []
  g__law_read_right : mg "_law_read_right" = some (.ref A.f__law_read_right)
  F__law_read_right : Fun K "_law_read_right" "_law_read_right" s__law_read_right A.f__law_read_right A.d__law_read_right
  b__law_read_right : Binds K A.d__law_read_right ["_law_cells_here", "_law_image"] []
  g__law_unlike_right : mg "_law_unlike_right" = some (.ref A.f__law_unlike_right)
  F__law_unlike_right : Fun K "_law_unlike_right" "_law_unlike_right" s__law_unlike_right A.f__law_unlike_right A.d__law_unlike_right
  b__law_unlike_right : Binds K A.d__law_unlike_right ["_law_cells_here", "_law_image"] []
  g_law : mg "law" = some (.ref A.f_law)
  F_law : Fun K "law" "law" s_law A.f_law A.d_law
  b_law : Binds K A.d_law ["_law_script"] []
  cl_Form : Cls K A.C_Form
  mk_Form : Mk K A.C_Form A.f_Formu_initu
  no_Form_name : NoAttr K A.C_Form "name"
  no_Form_length : NoAttr K A.C_Form "length"
  no_Form_flow : NoAttr K A.C_Form "flow"
  cl_CodeSet : Cls K A.C_CodeSet
  mk_CodeSet : Mk K A.C_CodeSet A.f_CodeSetu_initu
  no_CodeSet_stop : NoAttr K A.C_CodeSet "stop"
  no_CodeSet_order : NoAttr K A.C_CodeSet "order"
  no_CodeSet_table : NoAttr K A.C_CodeSet "table"
  cl_Image : Cls K A.C_Image
  mk_Image : Mk K A.C_Image A.f_Imageu_initu
  no_Image_cells : NoAttr K A.C_Image "cells"
  n_len : mg "len" = none
  n_abs : mg "abs" = none
  n_int : mg "int" = none
  n_list : mg "list" = none
  n_range : mg "range" = none
  n_isinstance : mg "isinstance" = none
  n_bool : mg "bool" = none
  n_str : mg "str" = none
  n_tuple : mg "tuple" = none
  n_all : mg "all" = none
  n_set : mg "set" = none
  n_sorted : mg "sorted" = none
  n_ValueError : mg "ValueError" = none
  n_repr : mg "repr" = none
  n_max : mg "max" = none
  n_min : mg "min" = none
  n_iter : mg "iter" = none
  n_enumerate : mg "enumerate" = none
  g_LETTERS : ∃ t, mg "LETTERS" = some (.str "abcdefghijklmnopqrstuvwxyz" t)
  g_CodeError : mg "CodeError" = some (.ref A.C_CodeError)
  g_BadCodes : mg "BadCodes" = some (.ref A.C_BadCodes)
  g_BadLayout : mg "BadLayout" = some (.ref A.C_BadLayout)
  g_BadRewrite : mg "BadRewrite" = some (.ref A.C_BadRewrite)
  g_BadStep : mg "BadStep" = some (.ref A.C_BadStep)
  g_BadText : mg "BadText" = some (.ref A.C_BadText)
  g_NotRight : mg "NotRight" = some (.ref A.C_NotRight)
  g_NoWay : mg "NoWay" = some (.ref A.C_NoWay)
  g_BadInput : mg "BadInput" = some (.ref A.C_BadInput)
  g_BadAddress : mg "BadAddress" = some (.ref A.C_BadAddress)
  ox_BadAddress : OexC K A.C_BadAddress
  i_BadAddress : PySem.W.findIn K (.ref A.C_BadAddress) "__init__" = some (some (.ref A.f_BadAddressu_initu))
  ti_BadAddress : PySem.W.typeIn K (.ref A.f_BadAddressu_initu) = some (.type "function")
  no_BadAddress_at : PySem.W.findIn K (.ref A.C_BadAddress) "at" = some none
  xf_BadAddress : XfC K A.C_BadAddress
  ec_BadAddress : ExcC K A.C_BadAddress
  F_BadAddressu_initu : Vc.FunS PySem.Challenge.pw_codestitch_k07_image_bytes K mg "__init__" "BadAddress.__init__" s_BadAddressu_initu A.f_BadAddressu_initu A.d_BadAddressu_initu A.C_BadAddress "self"
  b_BadAddressu_initu : Binds K A.d_BadAddressu_initu ["self", "at"] []
  g_BadByte : mg "BadByte" = some (.ref A.C_BadByte)
  ox_BadByte : OexC K A.C_BadByte
  i_BadByte : PySem.W.findIn K (.ref A.C_BadByte) "__init__" = some (some (.ref A.f_BadByteu_initu))
  ti_BadByte : PySem.W.typeIn K (.ref A.f_BadByteu_initu) = some (.type "function")
  no_BadByte_at : PySem.W.findIn K (.ref A.C_BadByte) "at" = some none
  xf_BadByte : XfC K A.C_BadByte
  ec_BadByte : ExcC K A.C_BadByte
  F_BadByteu_initu : Vc.FunS PySem.Challenge.pw_codestitch_k07_image_bytes K mg "__init__" "BadByte.__init__" s_BadByteu_initu A.f_BadByteu_initu A.d_BadByteu_initu A.C_BadByte "self"
  b_BadByteu_initu : Binds K A.d_BadByteu_initu ["self", "at"] []
  g_UnlikeLengths : mg "UnlikeLengths" = some (.ref A.C_UnlikeLengths)
  ox_UnlikeLengths : OexC K A.C_UnlikeLengths
  i_UnlikeLengths : PySem.W.findIn K (.ref A.C_UnlikeLengths) "__init__" = some (some (.ref A.f_UnlikeLengthsu_initu))
  ti_UnlikeLengths : PySem.W.typeIn K (.ref A.f_UnlikeLengthsu_initu) = some (.type "function")
  no_UnlikeLengths_one : PySem.W.findIn K (.ref A.C_UnlikeLengths) "one" = some none
  no_UnlikeLengths_other : PySem.W.findIn K (.ref A.C_UnlikeLengths) "other" = some none
  xf_UnlikeLengths : XfC K A.C_UnlikeLengths
  ec_UnlikeLengths : ExcC K A.C_UnlikeLengths
  F_UnlikeLengthsu_initu : Vc.FunS PySem.Challenge.pw_codestitch_k07_image_bytes K mg "__init__" "UnlikeLengths.__init__" s_UnlikeLengthsu_initu A.f_UnlikeLengthsu_initu A.d_UnlikeLengthsu_initu A.C_UnlikeLengths "self"
  b_UnlikeLengthsu_initu : Binds K A.d_UnlikeLengthsu_initu ["self", "one", "other"] []
  g_NotWhole : mg "NotWhole" = some (.ref A.C_NotWhole)
  ox_NotWhole : OexC K A.C_NotWhole
  i_NotWhole : PySem.W.findIn K (.ref A.C_NotWhole) "__init__" = some (some (.ref A.f_NotWholeu_initu))
  ti_NotWhole : PySem.W.typeIn K (.ref A.f_NotWholeu_initu) = some (.type "function")
  no_NotWhole_place : PySem.W.findIn K (.ref A.C_NotWhole) "place" = some none
  xf_NotWhole : XfC K A.C_NotWhole
  ec_NotWhole : ExcC K A.C_NotWhole
  F_NotWholeu_initu : Vc.FunS PySem.Challenge.pw_codestitch_k07_image_bytes K mg "__init__" "NotWhole.__init__" s_NotWholeu_initu A.f_NotWholeu_initu A.d_NotWholeu_initu A.C_NotWhole "self"
  b_NotWholeu_initu : Binds K A.d_NotWholeu_initu ["self", "place"] []
  kit_BadAddress_BadAddress : PySem.W.kitOne K (.ref A.C_BadAddress) (.ref A.C_BadAddress) = some true
  kit_BadAddress_BadByte : PySem.W.kitOne K (.ref A.C_BadAddress) (.ref A.C_BadByte) = some false
  kit_BadAddress_UnlikeLengths : PySem.W.kitOne K (.ref A.C_BadAddress) (.ref A.C_UnlikeLengths) = some false
  kit_BadAddress_BadCodes : PySem.W.kitOne K (.ref A.C_BadAddress) (.ref A.C_BadCodes) = some false
  kit_BadAddress_BadLayout : PySem.W.kitOne K (.ref A.C_BadAddress) (.ref A.C_BadLayout) = some false
  kit_BadAddress_BadRewrite : PySem.W.kitOne K (.ref A.C_BadAddress) (.ref A.C_BadRewrite) = some false
  kit_BadAddress_BadStep : PySem.W.kitOne K (.ref A.C_BadAddress) (.ref A.C_BadStep) = some false
  kit_BadAddress_BadText : PySem.W.kitOne K (.ref A.C_BadAddress) (.ref A.C_BadText) = some false
  kit_BadAddress_NotRight : PySem.W.kitOne K (.ref A.C_BadAddress) (.ref A.C_NotRight) = some false
  kit_BadAddress_NoWay : PySem.W.kitOne K (.ref A.C_BadAddress) (.ref A.C_NoWay) = some false
  kit_BadAddress_BadInput : PySem.W.kitOne K (.ref A.C_BadAddress) (.ref A.C_BadInput) = some true
  kit_BadAddress_ValueError : PySem.W.kitOne K (.ref A.C_BadAddress) (.type "ValueError") = some true
  kit_BadByte_BadAddress : PySem.W.kitOne K (.ref A.C_BadByte) (.ref A.C_BadAddress) = some false
  kit_BadByte_BadByte : PySem.W.kitOne K (.ref A.C_BadByte) (.ref A.C_BadByte) = some true
  kit_BadByte_UnlikeLengths : PySem.W.kitOne K (.ref A.C_BadByte) (.ref A.C_UnlikeLengths) = some false
  kit_BadByte_BadCodes : PySem.W.kitOne K (.ref A.C_BadByte) (.ref A.C_BadCodes) = some false
  kit_BadByte_BadLayout : PySem.W.kitOne K (.ref A.C_BadByte) (.ref A.C_BadLayout) = some false
  kit_BadByte_BadRewrite : PySem.W.kitOne K (.ref A.C_BadByte) (.ref A.C_BadRewrite) = some false
  kit_BadByte_BadStep : PySem.W.kitOne K (.ref A.C_BadByte) (.ref A.C_BadStep) = some false
  kit_BadByte_BadText : PySem.W.kitOne K (.ref A.C_BadByte) (.ref A.C_BadText) = some false
  kit_BadByte_NotRight : PySem.W.kitOne K (.ref A.C_BadByte) (.ref A.C_NotRight) = some false
  kit_BadByte_NoWay : PySem.W.kitOne K (.ref A.C_BadByte) (.ref A.C_NoWay) = some false
  kit_BadByte_BadInput : PySem.W.kitOne K (.ref A.C_BadByte) (.ref A.C_BadInput) = some true
  kit_BadByte_ValueError : PySem.W.kitOne K (.ref A.C_BadByte) (.type "ValueError") = some true
  kit_UnlikeLengths_BadAddress : PySem.W.kitOne K (.ref A.C_UnlikeLengths) (.ref A.C_BadAddress) = some false
  kit_UnlikeLengths_BadByte : PySem.W.kitOne K (.ref A.C_UnlikeLengths) (.ref A.C_BadByte) = some false
  kit_UnlikeLengths_UnlikeLengths : PySem.W.kitOne K (.ref A.C_UnlikeLengths) (.ref A.C_UnlikeLengths) = some true
  kit_UnlikeLengths_BadCodes : PySem.W.kitOne K (.ref A.C_UnlikeLengths) (.ref A.C_BadCodes) = some false
  kit_UnlikeLengths_BadLayout : PySem.W.kitOne K (.ref A.C_UnlikeLengths) (.ref A.C_BadLayout) = some false
  kit_UnlikeLengths_BadRewrite : PySem.W.kitOne K (.ref A.C_UnlikeLengths) (.ref A.C_BadRewrite) = some false
  kit_UnlikeLengths_BadStep : PySem.W.kitOne K (.ref A.C_UnlikeLengths) (.ref A.C_BadStep) = some false
  kit_UnlikeLengths_BadText : PySem.W.kitOne K (.ref A.C_UnlikeLengths) (.ref A.C_BadText) = some false
  kit_UnlikeLengths_NotRight : PySem.W.kitOne K (.ref A.C_UnlikeLengths) (.ref A.C_NotRight) = some false
  kit_UnlikeLengths_NoWay : PySem.W.kitOne K (.ref A.C_UnlikeLengths) (.ref A.C_NoWay) = some false
  kit_UnlikeLengths_BadInput : PySem.W.kitOne K (.ref A.C_UnlikeLengths) (.ref A.C_BadInput) = some true
  kit_UnlikeLengths_ValueError : PySem.W.kitOne K (.ref A.C_UnlikeLengths) (.type "ValueError") = some true
  kit_Image_list : PySem.W.kitOne K (.ref A.C_Image) (.type "list") = some false
  exm_BadAddress_CodeError : PySem.W.exmOne K (.ref A.C_BadAddress) (.ref A.C_CodeError) = some true
  exm_BadByte_CodeError : PySem.W.exmOne K (.ref A.C_BadByte) (.ref A.C_CodeError) = some true
  exm_UnlikeLengths_CodeError : PySem.W.exmOne K (.ref A.C_UnlikeLengths) (.ref A.C_CodeError) = some true
  exm_NotWhole_NotWhole : PySem.W.exmOne K (.ref A.C_NotWhole) (.ref A.C_NotWhole) = some true
  ic_Image : C8.InsC K A.C_Image
  eq_Image : Vc.EqM K A.C_Image A.f_Imageu_equ
  ne_Image : Vc.NeM K A.C_Image A.f_Imageu_equ
  kt_NoneType_Image : PySem.W.kitOne K (.type "NoneType") (.ref A.C_Image) = some false
  kt_bool_Image : PySem.W.kitOne K (.type "bool") (.ref A.C_Image) = some false
  kt_int_Image : PySem.W.kitOne K (.type "int") (.ref A.C_Image) = some false
  kt_str_Image : PySem.W.kitOne K (.type "str") (.ref A.C_Image) = some false
  kt_list_Image : PySem.W.kitOne K (.type "list") (.ref A.C_Image) = some false
  kt_tuple_Image : PySem.W.kitOne K (.type "tuple") (.ref A.C_Image) = some false
  nf_Image_Image : PySem.W.notFirst K A.C_Image (.ref A.C_Image) = true
  nf_NoneType_Image : PySem.W.notFirst K A.C_Image (.type "NoneType") = true
  nf_bool_Image : PySem.W.notFirst K A.C_Image (.type "bool") = true
  nf_int_Image : PySem.W.notFirst K A.C_Image (.type "int") = true
  nf_str_Image : PySem.W.notFirst K A.C_Image (.type "str") = true
  nf_list_Image : PySem.W.notFirst K A.C_Image (.type "list") = true
  nf_tuple_Image : PySem.W.notFirst K A.C_Image (.type "tuple") = true
  nsq_Image : PySem.W.noSeq K A.C_Image = true
  sp_Image_Imageu_iteru : Vc.SpM K A.C_Image A.f_Imageu_iteru "__iter__"
  sp_Image_Imageu_lenu : Vc.SpM K A.C_Image A.f_Imageu_lenu "__len__"
  sp_Image_Imageu_getitemu : Vc.SpM K A.C_Image A.f_Imageu_getitemu "__getitem__"
  spf_Imageu_getitemu : PySem.W.fnIn K A.f_Imageu_getitemu = true
  sp_Image_Imageu_setitemu : Vc.SpM K A.C_Image A.f_Imageu_setitemu "__setitem__"
  co_CodeSet : StX.CallO K A.C_CodeSet A.f_CodeSetu_callu
  cr_Form : ClX.CRead K A.C_Form (.type "type")
  cr_CodeSet : ClX.CRead K A.C_CodeSet (.type "type")
  cv_FLOWS : ClX.CVal K A.C_Form (.type "type") "FLOWS" (.ref A.a_FLOWS) (.ref A.a_FLOWS)
  q_FLOWS : ∀ H, SqT K H A.a_FLOWS [.str "next", .str "jump", .str "test", .str "end"]
  cv_MOST : ∃ u, ClX.CVal K A.C_CodeSet (.type "type") "MOST_FORMS" (.int 16) u
end My
namespace My
section
open PySem PySem.Spec PyProof.Rows L2
/-! ### what stands behind the top -/
def fa0 : List (PySem.W.Frag → Bool) := [
  fun K => decide (PySem.W.nsIn K mainGlobals "Form" = some (some (.ref 303))),
  fun K => decide (PySem.W.nsIn K mainGlobals "CodeSet" = some (some (.ref 391))),
  fun K => decide (PySem.W.nsIn K mainGlobals "Image" = some (some (.ref 499))),
  fun K => decide (PySem.W.nsIn K mainGlobals "is_byte" = some (some (.ref 266))),
  fun K => Hx.fdB K 266 (Hx.pPlain K "is_byte"),
  fun K => PySem.W.keepIn K (.ref 266),
  fun K => decide (PySem.W.nsIn K mainGlobals "is_name" = some (some (.ref 271))),
  fun K => Hx.fdB K 271 (Hx.pPlain K "is_name"),
  fun K => PySem.W.keepIn K (.ref 271),
  fun K => decide (PySem.W.findIn K (.ref 303) "__init__" = some (some (.ref 286))),
  fun K => PySem.W.isFn K (.ref 286),
  fun K => Hx.fdB K 286 (Hx.pPlain K "Form.__init__"),
  fun K => PySem.W.keepIn K (.ref 286),
  fun K => decide (PySem.W.nsIn K mainGlobals "check_forms" = some (some (.ref 312))),
  fun K => Hx.fdB K 312 (Hx.pPlain K "check_forms"),
  fun K => PySem.W.keepIn K (.ref 312),
  fun K => decide (PySem.W.findIn K (.ref 391) "__init__" = some (some (.ref 324))),
  fun K => PySem.W.isFn K (.ref 324),
  fun K => Hx.fdB K 324 (Hx.pPlain K "CodeSet.__init__"),
  fun K => PySem.W.keepIn K (.ref 324),
  fun K => Hx.fcS K 391 "sample" 333,
  fun K => Hx.recB1 K 333 "staticmethod" 331,
  fun K => Hx.fdB K 331 (Hx.pPlain K "CodeSet.sample"),
  fun K => PySem.W.keepIn K (.ref 331),
  fun K => decide (PySem.W.findIn K (.ref 391) "__call__" = some (some (.ref 381))),
  fun K => PySem.W.isFn K (.ref 381),
  fun K => Hx.fdB K 381 (Hx.pPlain K "CodeSet.__call__"),
  fun K => PySem.W.keepIn K (.ref 381),
  fun K => decide (PySem.W.nsIn K mainGlobals "check_bytes" = some (some (.ref 402))),
  fun K => Hx.fdB K 402 (Hx.pPlain K "check_bytes"),
  fun K => PySem.W.keepIn K (.ref 402),
  fun K => decide (PySem.W.nsIn K mainGlobals "span_of" = some (some (.ref 409))),
  fun K => Hx.fdB K 409 (Hx.pPlain K "span_of"),
  fun K => PySem.W.keepIn K (.ref 409),
  fun K => decide (PySem.W.findIn K (.ref 499) "__init__" = some (some (.ref 428))),
  fun K => PySem.W.isFn K (.ref 428),
  fun K => Hx.fdB K 428 (Hx.pPlain K "Image.__init__"),
  fun K => PySem.W.keepIn K (.ref 428),
  fun K => decide (PySem.W.findIn K (.ref 499) "__len__" = some (some (.ref 435))),
  fun K => PySem.W.isFn K (.ref 435)]
def fa1 : List (PySem.W.Frag → Bool) := [
  fun K => Hx.fdB K 435 (Hx.pPlain K "Image.__len__"),
  fun K => PySem.W.keepIn K (.ref 435),
  fun K => decide (PySem.W.findIn K (.ref 499) "__iter__" = some (some (.ref 442))),
  fun K => PySem.W.isFn K (.ref 442),
  fun K => Hx.fdB K 442 (Hx.pPlain K "Image.__iter__"),
  fun K => PySem.W.keepIn K (.ref 442),
  fun K => decide (PySem.W.findIn K (.ref 499) "__eq__" = some (some (.ref 449))),
  fun K => PySem.W.isFn K (.ref 449),
  fun K => Hx.fdB K 449 (Hx.pPlain K "Image.__eq__"),
  fun K => PySem.W.keepIn K (.ref 449),
  fun K => decide (PySem.W.findIn K (.ref 499) "__getitem__" = some (some (.ref 456))),
  fun K => PySem.W.isFn K (.ref 456),
  fun K => Hx.fdB K 456 (Hx.pPlain K "Image.__getitem__"),
  fun K => PySem.W.keepIn K (.ref 456),
  fun K => decide (PySem.W.findIn K (.ref 499) "__setitem__" = some (some (.ref 463))),
  fun K => PySem.W.isFn K (.ref 463),
  fun K => Hx.fdB K 463 (Hx.pPlain K "Image.__setitem__"),
  fun K => PySem.W.keepIn K (.ref 463),
  fun K => decide (PySem.W.nsIn K mainGlobals "_law_pen" = some (some (.ref 510))),
  fun K => Hx.fdB K 510 (Hx.pPlain K "_law_pen"),
  fun K => PySem.W.keepIn K (.ref 510),
  fun K => decide (PySem.W.nsIn K mainGlobals "_law_draw" = some (some (.ref 517))),
  fun K => Hx.fdB K 517 (Hx.pPlain K "_law_draw"),
  fun K => PySem.W.keepIn K (.ref 517),
  fun K => decide (PySem.W.nsIn K mainGlobals "_law_pick" = some (some (.ref 524))),
  fun K => Hx.fdB K 524 (Hx.pPlain K "_law_pick"),
  fun K => PySem.W.keepIn K (.ref 524),
  fun K => decide (PySem.W.nsIn K mainGlobals "_law_word" = some (some (.ref 531))),
  fun K => Hx.fdB K 531 (Hx.pPlain K "_law_word"),
  fun K => PySem.W.keepIn K (.ref 531),
  fun K => decide (PySem.W.nsIn K mainGlobals "_law_heard" = some (some (.ref 538))),
  fun K => Hx.fdB K 538 (Hx.pPlain K "_law_heard"),
  fun K => PySem.W.keepIn K (.ref 538),
  fun K => decide (PySem.W.nsIn K mainGlobals "_law_cells" = some (some (.ref 545))),
  fun K => Hx.fdB K 545 (Hx.pPlain K "_law_cells"),
  fun K => PySem.W.keepIn K (.ref 545),
  fun K => decide (PySem.W.nsIn K mainGlobals "_law_bytes" = some (some (.ref 550))),
  fun K => Hx.fdB K 550 (Hx.pPlain K "_law_bytes"),
  fun K => PySem.W.keepIn K (.ref 550),
  fun K => decide (PySem.W.nsIn K mainGlobals "_law_odd" = some (some (.ref 557)))]
def fa2 : List (PySem.W.Frag → Bool) := [
  fun K => Hx.fdB K 557 (Hx.pPlain K "_law_odd"),
  fun K => PySem.W.keepIn K (.ref 557),
  fun K => decide (PySem.W.nsIn K mainGlobals "_law_spoilt" = some (some (.ref 564))),
  fun K => Hx.fdB K 564 (Hx.pPlain K "_law_spoilt"),
  fun K => PySem.W.keepIn K (.ref 564),
  fun K => decide (PySem.W.nsIn K mainGlobals "_law_edge" = some (some (.ref 571))),
  fun K => Hx.fdB K 571 (Hx.pPlain K "_law_edge"),
  fun K => PySem.W.keepIn K (.ref 571),
  fun K => decide (PySem.W.nsIn K mainGlobals "_law_deed" = some (some (.ref 578))),
  fun K => Hx.fdB K 578 (Hx.pPlain K "_law_deed"),
  fun K => PySem.W.keepIn K (.ref 578),
  fun K => decide (PySem.W.nsIn K mainGlobals "_law_bad" = some (some (.ref 585))),
  fun K => Hx.fdB K 585 (Hx.pPlain K "_law_bad"),
  fun K => PySem.W.keepIn K (.ref 585),
  fun K => decide (PySem.W.nsIn K mainGlobals "_law_due" = some (some (.ref 592))),
  fun K => Hx.fdB K 592 (Hx.pPlain K "_law_due"),
  fun K => PySem.W.keepIn K (.ref 592),
  fun K => decide (PySem.W.nsIn K mainGlobals "_law_dressed" = some (some (.ref 599))),
  fun K => Hx.fdB K 599 (Hx.pPlain K "_law_dressed"),
  fun K => PySem.W.keepIn K (.ref 599),
  fun K => decide (PySem.W.nsIn K mainGlobals "_law_put" = some (some (.ref 606))),
  fun K => Hx.fdB K 606 (Hx.pPlain K "_law_put"),
  fun K => PySem.W.keepIn K (.ref 606),
  fun K => decide (PySem.W.nsIn K mainGlobals "_law_done" = some (some (.ref 613))),
  fun K => Hx.fdB K 613 (Hx.pPlain K "_law_done"),
  fun K => PySem.W.keepIn K (.ref 613),
  fun K => decide (PySem.W.nsIn K mainGlobals "_law_made_right" = some (some (.ref 620))),
  fun K => Hx.fdB K 620 (Hx.pPlain K "_law_made_right"),
  fun K => PySem.W.keepIn K (.ref 620),
  fun K => decide (PySem.W.nsIn K mainGlobals "_law_read" = some (some (.ref 627))),
  fun K => Hx.fdB K 627 (Hx.pPlain K "_law_read"),
  fun K => PySem.W.keepIn K (.ref 627),
  fun K => decide (PySem.W.nsIn K mainGlobals "_law_read_right" = some (some (.ref 634))),
  fun K => Hx.fdB K 634 (Hx.pPlain K "_law_read_right"),
  fun K => PySem.W.keepIn K (.ref 634),
  fun K => decide (PySem.W.nsIn K mainGlobals "_law_unlike_right" = some (some (.ref 641))),
  fun K => Hx.fdB K 641 (Hx.pPlain K "_law_unlike_right"),
  fun K => PySem.W.keepIn K (.ref 641),
  fun K => decide (PySem.W.nsIn K mainGlobals "law" = some (some (.ref 648))),
  fun K => Hx.fdB K 648 (Hx.pPlain K "law")]
def fa3 : List (PySem.W.Frag → Bool) := [
  fun K => PySem.W.keepIn K (.ref 648),
  fun K => PySem.W.plainGet K 303 Str.empty,
  fun K => PySem.W.hasDictIn K 303,
  fun K => PySem.W.plainOver K 303,
  fun K => decide (PySem.W.findIn K (.ref 303) "__setattr__" = some (some (.builtin "object.__setattr__"))),
  fun K => PySem.W.makesIn K 303,
  fun K => PySem.W.keepIn K (.ref 303),
  fun K => decide (PySem.W.findIn K (.ref 303) "name" = some none),
  fun K => decide (PySem.W.findIn K (.ref 303) "length" = some none),
  fun K => decide (PySem.W.findIn K (.ref 303) "flow" = some none),
  fun K => PySem.W.plainGet K 391 Str.empty,
  fun K => PySem.W.hasDictIn K 391,
  fun K => PySem.W.plainOver K 391,
  fun K => decide (PySem.W.findIn K (.ref 391) "__setattr__" = some (some (.builtin "object.__setattr__"))),
  fun K => PySem.W.makesIn K 391,
  fun K => PySem.W.keepIn K (.ref 391),
  fun K => decide (PySem.W.findIn K (.ref 391) "stop" = some none),
  fun K => decide (PySem.W.findIn K (.ref 391) "order" = some none),
  fun K => decide (PySem.W.findIn K (.ref 391) "table" = some none),
  fun K => PySem.W.plainGet K 499 Str.empty,
  fun K => PySem.W.hasDictIn K 499,
  fun K => PySem.W.plainOver K 499,
  fun K => decide (PySem.W.findIn K (.ref 499) "__setattr__" = some (some (.builtin "object.__setattr__"))),
  fun K => PySem.W.makesIn K 499,
  fun K => PySem.W.keepIn K (.ref 499),
  fun K => decide (PySem.W.findIn K (.ref 499) "cells" = some none),
  fun K => decide (PySem.W.nsIn K mainGlobals "len" = some none),
  fun K => decide (PySem.W.nsIn K mainGlobals "abs" = some none),
  fun K => decide (PySem.W.nsIn K mainGlobals "int" = some none),
  fun K => decide (PySem.W.nsIn K mainGlobals "list" = some none),
  fun K => decide (PySem.W.nsIn K mainGlobals "range" = some none),
  fun K => decide (PySem.W.nsIn K mainGlobals "isinstance" = some none),
  fun K => decide (PySem.W.nsIn K mainGlobals "bool" = some none),
  fun K => decide (PySem.W.nsIn K mainGlobals "str" = some none),
  fun K => decide (PySem.W.nsIn K mainGlobals "tuple" = some none),
  fun K => decide (PySem.W.nsIn K mainGlobals "all" = some none),
  fun K => decide (PySem.W.nsIn K mainGlobals "set" = some none),
  fun K => decide (PySem.W.nsIn K mainGlobals "sorted" = some none),
  fun K => decide (PySem.W.nsIn K mainGlobals "ValueError" = some none),
  fun K => decide (PySem.W.nsIn K mainGlobals "repr" = some none)]
def fa4 : List (PySem.W.Frag → Bool) := [
  fun K => decide (PySem.W.nsIn K mainGlobals "max" = some none),
  fun K => decide (PySem.W.nsIn K mainGlobals "min" = some none),
  fun K => decide (PySem.W.nsIn K mainGlobals "iter" = some none),
  fun K => decide (PySem.W.nsIn K mainGlobals "enumerate" = some none),
  fun K => Hx.strB K mainGlobals "LETTERS" "abcdefghijklmnopqrstuvwxyz",
  fun K => decide (PySem.W.nsIn K mainGlobals "CodeError" = some (some (.ref 31))),
  fun K => decide (PySem.W.nsIn K mainGlobals "BadCodes" = some (some (.ref 89))),
  fun K => decide (PySem.W.nsIn K mainGlobals "BadLayout" = some (some (.ref 110))),
  fun K => decide (PySem.W.nsIn K mainGlobals "BadRewrite" = some (some (.ref 194))),
  fun K => decide (PySem.W.nsIn K mainGlobals "BadStep" = some (some (.ref 215))),
  fun K => decide (PySem.W.nsIn K mainGlobals "BadText" = some (some (.ref 236))),
  fun K => decide (PySem.W.nsIn K mainGlobals "NotRight" = some (some (.ref 56))),
  fun K => decide (PySem.W.nsIn K mainGlobals "NoWay" = some (some (.ref 68))),
  fun K => decide (PySem.W.nsIn K mainGlobals "BadInput" = some (some (.ref 44))),
  fun K => decide (PySem.W.nsIn K mainGlobals "super" = some none),
  fun K => decide (PySem.W.nsIn K cStatics "thirdparty.any" = some none),
  fun K => decide (PySem.W.specialIn K (.builtin "object.__class__") "__get__" = some (some (.builtin "getset_descriptor.__get__"))),
  fun K => decide (PySem.W.takesIn K (.builtin "object.__class__") = some true),
  fun K => decide (PySem.W.nsIn K mainGlobals "BadAddress" = some (some (.ref 152))),
  fun K => Hx.excB K 152,
  fun K => decide (PySem.W.findIn K (.ref 152) "__setattr__" = some (some (.builtin "object.__setattr__"))),
  fun K => decide (PySem.W.subIn K (.ref 152) (.type "BaseException") = some true),
  fun K => decide (PySem.W.typeIn K (.ref 152) = some (.type "type")),
  fun K => PySem.W.keepIn K (.ref 152),
  fun K => decide (PySem.W.findIn K (.ref 152) "__init__" = some (some (.ref 149))),
  fun K => decide (PySem.W.typeIn K (.ref 149) = some (.type "function")),
  fun K => decide (PySem.W.findIn K (.ref 152) "at" = some none),
  fun K => decide (PySem.W.findIn K (.ref 152) "__getattribute__" = some (some (.builtin "BaseException.__getattribute__"))),
  fun K => decide (PySem.W.findIn K (.ref 152) "__getattr__" = some none),
  fun K => PySem.W.hasDictIn K 152,
  fun K => decide (PySem.W.findIn K (.ref 152) "__class__" = some (some (.builtin "object.__class__"))),
  fun K => decide (PySem.W.mroIn K 152 (.type "object") = some true),
  fun K => Hx.fdB K 149 (Hx.pSup K "BadAddress.__init__" 148),
  fun K => PySem.W.keepIn K (.ref 149),
  fun K => Hx.filB K 148 PySem.Challenge.pw_codestitch_k07_image_bytes.main.file,
  fun K => Hx.celB K 137 152,
  fun K => decide (PySem.W.mroIn K 152 (.ref 152) = some true),
  fun K => decide (PySem.W.ks_superIn K 152 152 "__init__" = some (some (.builtin "ValueError.__init__"))),
  fun K => decide (PySem.W.subIn K (.ref 152) (.type "ValueError") = some true),
  fun K => decide (PySem.W.nsIn K mainGlobals "BadByte" = some (some (.ref 131)))]
def fa5 : List (PySem.W.Frag → Bool) := [
  fun K => Hx.excB K 131,
  fun K => decide (PySem.W.findIn K (.ref 131) "__setattr__" = some (some (.builtin "object.__setattr__"))),
  fun K => decide (PySem.W.subIn K (.ref 131) (.type "BaseException") = some true),
  fun K => decide (PySem.W.typeIn K (.ref 131) = some (.type "type")),
  fun K => PySem.W.keepIn K (.ref 131),
  fun K => decide (PySem.W.findIn K (.ref 131) "__init__" = some (some (.ref 128))),
  fun K => decide (PySem.W.typeIn K (.ref 128) = some (.type "function")),
  fun K => decide (PySem.W.findIn K (.ref 131) "at" = some none),
  fun K => decide (PySem.W.findIn K (.ref 131) "__getattribute__" = some (some (.builtin "BaseException.__getattribute__"))),
  fun K => decide (PySem.W.findIn K (.ref 131) "__getattr__" = some none),
  fun K => PySem.W.hasDictIn K 131,
  fun K => decide (PySem.W.findIn K (.ref 131) "__class__" = some (some (.builtin "object.__class__"))),
  fun K => decide (PySem.W.mroIn K 131 (.type "object") = some true),
  fun K => Hx.fdB K 128 (Hx.pSup K "BadByte.__init__" 127),
  fun K => PySem.W.keepIn K (.ref 128),
  fun K => Hx.filB K 127 PySem.Challenge.pw_codestitch_k07_image_bytes.main.file,
  fun K => Hx.celB K 116 131,
  fun K => decide (PySem.W.mroIn K 131 (.ref 131) = some true),
  fun K => decide (PySem.W.ks_superIn K 131 131 "__init__" = some (some (.builtin "ValueError.__init__"))),
  fun K => decide (PySem.W.subIn K (.ref 131) (.type "ValueError") = some true),
  fun K => decide (PySem.W.nsIn K mainGlobals "UnlikeLengths" = some (some (.ref 173))),
  fun K => Hx.excB K 173,
  fun K => decide (PySem.W.findIn K (.ref 173) "__setattr__" = some (some (.builtin "object.__setattr__"))),
  fun K => decide (PySem.W.subIn K (.ref 173) (.type "BaseException") = some true),
  fun K => decide (PySem.W.typeIn K (.ref 173) = some (.type "type")),
  fun K => PySem.W.keepIn K (.ref 173),
  fun K => decide (PySem.W.findIn K (.ref 173) "__init__" = some (some (.ref 170))),
  fun K => decide (PySem.W.typeIn K (.ref 170) = some (.type "function")),
  fun K => decide (PySem.W.findIn K (.ref 173) "one" = some none),
  fun K => decide (PySem.W.findIn K (.ref 173) "other" = some none),
  fun K => decide (PySem.W.findIn K (.ref 173) "__getattribute__" = some (some (.builtin "BaseException.__getattribute__"))),
  fun K => decide (PySem.W.findIn K (.ref 173) "__getattr__" = some none),
  fun K => PySem.W.hasDictIn K 173,
  fun K => decide (PySem.W.findIn K (.ref 173) "__class__" = some (some (.builtin "object.__class__"))),
  fun K => decide (PySem.W.mroIn K 173 (.type "object") = some true),
  fun K => Hx.fdB K 170 (Hx.pSup K "UnlikeLengths.__init__" 169),
  fun K => PySem.W.keepIn K (.ref 170),
  fun K => Hx.filB K 169 PySem.Challenge.pw_codestitch_k07_image_bytes.main.file,
  fun K => Hx.celB K 158 173,
  fun K => decide (PySem.W.mroIn K 173 (.ref 173) = some true)]
def fa6 : List (PySem.W.Frag → Bool) := [
  fun K => decide (PySem.W.ks_superIn K 173 173 "__init__" = some (some (.builtin "ValueError.__init__"))),
  fun K => decide (PySem.W.subIn K (.ref 173) (.type "ValueError") = some true),
  fun K => decide (PySem.W.nsIn K mainGlobals "NotWhole" = some (some (.ref 257))),
  fun K => Hx.excB K 257,
  fun K => decide (PySem.W.findIn K (.ref 257) "__setattr__" = some (some (.builtin "object.__setattr__"))),
  fun K => decide (PySem.W.subIn K (.ref 257) (.type "BaseException") = some true),
  fun K => decide (PySem.W.typeIn K (.ref 257) = some (.type "type")),
  fun K => PySem.W.keepIn K (.ref 257),
  fun K => decide (PySem.W.findIn K (.ref 257) "__init__" = some (some (.ref 254))),
  fun K => decide (PySem.W.typeIn K (.ref 254) = some (.type "function")),
  fun K => decide (PySem.W.findIn K (.ref 257) "place" = some none),
  fun K => decide (PySem.W.findIn K (.ref 257) "__getattribute__" = some (some (.builtin "BaseException.__getattribute__"))),
  fun K => decide (PySem.W.findIn K (.ref 257) "__getattr__" = some none),
  fun K => PySem.W.hasDictIn K 257,
  fun K => decide (PySem.W.findIn K (.ref 257) "__class__" = some (some (.builtin "object.__class__"))),
  fun K => decide (PySem.W.mroIn K 257 (.type "object") = some true),
  fun K => Hx.fdB K 254 (Hx.pSup K "NotWhole.__init__" 253),
  fun K => PySem.W.keepIn K (.ref 254),
  fun K => Hx.filB K 253 PySem.Challenge.pw_codestitch_k07_image_bytes.main.file,
  fun K => Hx.celB K 242 257,
  fun K => decide (PySem.W.mroIn K 257 (.ref 257) = some true),
  fun K => decide (PySem.W.ks_superIn K 257 257 "__init__" = some (some (.builtin "ValueError.__init__"))),
  fun K => decide (PySem.W.subIn K (.ref 257) (.type "ValueError") = some true),
  fun K => decide (PySem.W.kitOne K (.ref 152) (.ref 152) = some true),
  fun K => decide (PySem.W.kitOne K (.ref 152) (.ref 131) = some false),
  fun K => decide (PySem.W.kitOne K (.ref 152) (.ref 173) = some false),
  fun K => decide (PySem.W.kitOne K (.ref 152) (.ref 89) = some false),
  fun K => decide (PySem.W.kitOne K (.ref 152) (.ref 110) = some false),
  fun K => decide (PySem.W.kitOne K (.ref 152) (.ref 194) = some false),
  fun K => decide (PySem.W.kitOne K (.ref 152) (.ref 215) = some false),
  fun K => decide (PySem.W.kitOne K (.ref 152) (.ref 236) = some false),
  fun K => decide (PySem.W.kitOne K (.ref 152) (.ref 56) = some false),
  fun K => decide (PySem.W.kitOne K (.ref 152) (.ref 68) = some false),
  fun K => decide (PySem.W.kitOne K (.ref 152) (.ref 44) = some true),
  fun K => decide (PySem.W.kitOne K (.ref 152) (.type "ValueError") = some true),
  fun K => decide (PySem.W.kitOne K (.ref 131) (.ref 152) = some false),
  fun K => decide (PySem.W.kitOne K (.ref 131) (.ref 131) = some true),
  fun K => decide (PySem.W.kitOne K (.ref 131) (.ref 173) = some false),
  fun K => decide (PySem.W.kitOne K (.ref 131) (.ref 89) = some false),
  fun K => decide (PySem.W.kitOne K (.ref 131) (.ref 110) = some false)]
def fa7 : List (PySem.W.Frag → Bool) := [
  fun K => decide (PySem.W.kitOne K (.ref 131) (.ref 194) = some false),
  fun K => decide (PySem.W.kitOne K (.ref 131) (.ref 215) = some false),
  fun K => decide (PySem.W.kitOne K (.ref 131) (.ref 236) = some false),
  fun K => decide (PySem.W.kitOne K (.ref 131) (.ref 56) = some false),
  fun K => decide (PySem.W.kitOne K (.ref 131) (.ref 68) = some false),
  fun K => decide (PySem.W.kitOne K (.ref 131) (.ref 44) = some true),
  fun K => decide (PySem.W.kitOne K (.ref 131) (.type "ValueError") = some true),
  fun K => decide (PySem.W.kitOne K (.ref 173) (.ref 152) = some false),
  fun K => decide (PySem.W.kitOne K (.ref 173) (.ref 131) = some false),
  fun K => decide (PySem.W.kitOne K (.ref 173) (.ref 173) = some true),
  fun K => decide (PySem.W.kitOne K (.ref 173) (.ref 89) = some false),
  fun K => decide (PySem.W.kitOne K (.ref 173) (.ref 110) = some false),
  fun K => decide (PySem.W.kitOne K (.ref 173) (.ref 194) = some false),
  fun K => decide (PySem.W.kitOne K (.ref 173) (.ref 215) = some false),
  fun K => decide (PySem.W.kitOne K (.ref 173) (.ref 236) = some false),
  fun K => decide (PySem.W.kitOne K (.ref 173) (.ref 56) = some false),
  fun K => decide (PySem.W.kitOne K (.ref 173) (.ref 68) = some false),
  fun K => decide (PySem.W.kitOne K (.ref 173) (.ref 44) = some true),
  fun K => decide (PySem.W.kitOne K (.ref 173) (.type "ValueError") = some true),
  fun K => decide (PySem.W.kitOne K (.ref 499) (.type "list") = some false),
  fun K => decide (PySem.W.exmOne K (.ref 152) (.ref 31) = some true),
  fun K => decide (PySem.W.exmOne K (.ref 131) (.ref 31) = some true),
  fun K => decide (PySem.W.exmOne K (.ref 173) (.ref 31) = some true),
  fun K => decide (PySem.W.exmOne K (.ref 257) (.ref 257) = some true),
  fun K => decide (PySem.W.findIn K (.ref 499) "__class__" = some (some (.builtin "object.__class__"))),
  fun K => decide (PySem.W.mroIn K 499 (.type "object") = some true),
  fun K => decide (PySem.W.kitOne K (.ref 499) (.ref 499) = some true),
  fun K => decide (PySem.W.findIn K (.ref 499) "__ne__" = some (some (.builtin "object.__ne__"))),
  fun K => decide (PySem.W.kitOne K (.type "NoneType") (.ref 499) = some false),
  fun K => decide (PySem.W.kitOne K (.type "bool") (.ref 499) = some false),
  fun K => decide (PySem.W.kitOne K (.type "int") (.ref 499) = some false),
  fun K => decide (PySem.W.kitOne K (.type "str") (.ref 499) = some false),
  fun K => decide (PySem.W.kitOne K (.type "list") (.ref 499) = some false),
  fun K => decide (PySem.W.kitOne K (.type "tuple") (.ref 499) = some false),
  fun K => PySem.W.notFirst K 499 (.ref 499),
  fun K => PySem.W.notFirst K 499 (.type "NoneType"),
  fun K => PySem.W.notFirst K 499 (.type "bool"),
  fun K => PySem.W.notFirst K 499 (.type "int"),
  fun K => PySem.W.notFirst K 499 (.type "str"),
  fun K => PySem.W.notFirst K 499 (.type "list")]
def fa8 : List (PySem.W.Frag → Bool) := [
  fun K => PySem.W.notFirst K 499 (.type "tuple"),
  fun K => PySem.W.noSeq K 499,
  fun K => PySem.W.fnIn K 456,
  fun K => PySem.W.fnIn K 381,
  fun K => PySem.W.readsIn K 303 (.type "type"),
  fun K => decide (PySem.W.specialIn K (.ref 303) "__getattribute__" = some (some (.builtin "type.__getattribute__"))),
  fun K => PySem.W.readsIn K 391 (.type "type"),
  fun K => decide (PySem.W.specialIn K (.ref 391) "__getattribute__" = some (some (.builtin "type.__getattribute__"))),
  fun K => Hx.fcR K 303 "FLOWS" 279,
  fun K => Hx.seqB K 279 [.str "next", .str "jump", .str "test", .str "end"],
  fun K => Hx.fcI K 391 "MOST_FORMS" 16,
  fun K => Vc.lamB K 613 612 608,
  fun K => Vc.lamB K 620 619 615]
def faN : List (PySem.W.Frag → Bool) := fa0 ++ (fa1 ++ (fa2 ++ (fa3 ++ (fa4 ++ (fa5 ++ (fa6 ++ (fa7 ++ (fa8))))))))
def fn0 : List Hx.Dq := [
  ⟨266, "is_byte", "is_byte", defArgs s_is_byte, defBody s_is_byte, defScope s_is_byte, []⟩,
  ⟨271, "is_name", "is_name", defArgs s_is_name, defBody s_is_name, defScope s_is_name, []⟩,
  ⟨286, "__init__", "Form.__init__", defArgs s_Formu_initu, defBody s_Formu_initu, defScope s_Formu_initu, []⟩,
  ⟨312, "check_forms", "check_forms", defArgs s_check_forms, defBody s_check_forms, defScope s_check_forms, []⟩,
  ⟨324, "__init__", "CodeSet.__init__", defArgs s_CodeSetu_initu, defBody s_CodeSetu_initu, defScope s_CodeSetu_initu, []⟩,
  ⟨331, "sample", "CodeSet.sample", defArgs s_CodeSet_sample, defBody s_CodeSet_sample, defScope s_CodeSet_sample, []⟩,
  ⟨381, "__call__", "CodeSet.__call__", defArgs s_CodeSetu_callu, defBody s_CodeSetu_callu, defScope s_CodeSetu_callu, []⟩,
  ⟨402, "check_bytes", "check_bytes", defArgs s_check_bytes, defBody s_check_bytes, defScope s_check_bytes, []⟩,
  ⟨409, "span_of", "span_of", defArgs s_span_of, defBody s_span_of, defScope s_span_of, []⟩,
  ⟨428, "__init__", "Image.__init__", defArgs s_Imageu_initu, defBody s_Imageu_initu, defScope s_Imageu_initu, []⟩,
  ⟨435, "__len__", "Image.__len__", defArgs s_Imageu_lenu, defBody s_Imageu_lenu, defScope s_Imageu_lenu, []⟩,
  ⟨442, "__iter__", "Image.__iter__", defArgs s_Imageu_iteru, defBody s_Imageu_iteru, defScope s_Imageu_iteru, []⟩,
  ⟨449, "__eq__", "Image.__eq__", defArgs s_Imageu_equ, defBody s_Imageu_equ, defScope s_Imageu_equ, []⟩,
  ⟨456, "__getitem__", "Image.__getitem__", defArgs s_Imageu_getitemu, defBody s_Imageu_getitemu, defScope s_Imageu_getitemu, []⟩,
  ⟨463, "__setitem__", "Image.__setitem__", defArgs s_Imageu_setitemu, defBody s_Imageu_setitemu, defScope s_Imageu_setitemu, []⟩,
  ⟨510, "_law_pen", "_law_pen", defArgs s__law_pen, defBody s__law_pen, defScope s__law_pen, []⟩,
  ⟨517, "_law_draw", "_law_draw", defArgs s__law_draw, defBody s__law_draw, defScope s__law_draw, []⟩,
  ⟨524, "_law_pick", "_law_pick", defArgs s__law_pick, defBody s__law_pick, defScope s__law_pick, []⟩,
  ⟨531, "_law_word", "_law_word", defArgs s__law_word, defBody s__law_word, defScope s__law_word, []⟩,
  ⟨538, "_law_heard", "_law_heard", defArgs s__law_heard, defBody s__law_heard, defScope s__law_heard, []⟩,
  ⟨545, "_law_cells", "_law_cells", defArgs s__law_cells, defBody s__law_cells, defScope s__law_cells, []⟩,
  ⟨550, "_law_bytes", "_law_bytes", defArgs s__law_bytes, defBody s__law_bytes, defScope s__law_bytes, []⟩,
  ⟨557, "_law_odd", "_law_odd", defArgs s__law_odd, defBody s__law_odd, defScope s__law_odd, []⟩,
  ⟨564, "_law_spoilt", "_law_spoilt", defArgs s__law_spoilt, defBody s__law_spoilt, defScope s__law_spoilt, []⟩,
  ⟨571, "_law_edge", "_law_edge", defArgs s__law_edge, defBody s__law_edge, defScope s__law_edge, []⟩,
  ⟨578, "_law_deed", "_law_deed", defArgs s__law_deed, defBody s__law_deed, defScope s__law_deed, []⟩,
  ⟨585, "_law_bad", "_law_bad", defArgs s__law_bad, defBody s__law_bad, defScope s__law_bad, []⟩,
  ⟨592, "_law_due", "_law_due", defArgs s__law_due, defBody s__law_due, defScope s__law_due, []⟩,
  ⟨599, "_law_dressed", "_law_dressed", defArgs s__law_dressed, defBody s__law_dressed, defScope s__law_dressed, []⟩,
  ⟨606, "_law_put", "_law_put", defArgs s__law_put, defBody s__law_put, defScope s__law_put, []⟩,
  ⟨613, "_law_done", "_law_done", defArgs s__law_done, defBody s__law_done, defScope s__law_done, []⟩,
  ⟨620, "_law_made_right", "_law_made_right", defArgs s__law_made_right, defBody s__law_made_right, defScope s__law_made_right, []⟩,
  ⟨627, "_law_read", "_law_read", defArgs s__law_read, defBody s__law_read, defScope s__law_read, []⟩,
  ⟨634, "_law_read_right", "_law_read_right", defArgs s__law_read_right, defBody s__law_read_right, defScope s__law_read_right, []⟩,
  ⟨641, "_law_unlike_right", "_law_unlike_right", defArgs s__law_unlike_right, defBody s__law_unlike_right, defScope s__law_unlike_right, []⟩,
  ⟨648, "law", "law", defArgs s_law, defBody s_law, defScope s_law, []⟩,
  ⟨149, "__init__", "BadAddress.__init__", defArgs s_BadAddressu_initu, defBody s_BadAddressu_initu, defScope s_BadAddressu_initu, [("__class__", 137)]⟩,
  ⟨128, "__init__", "BadByte.__init__", defArgs s_BadByteu_initu, defBody s_BadByteu_initu, defScope s_BadByteu_initu, [("__class__", 116)]⟩,
  ⟨170, "__init__", "UnlikeLengths.__init__", defArgs s_UnlikeLengthsu_initu, defBody s_UnlikeLengthsu_initu, defScope s_UnlikeLengthsu_initu, [("__class__", 158)]⟩,
  ⟨254, "__init__", "NotWhole.__init__", defArgs s_NotWholeu_initu, defBody s_NotWholeu_initu, defScope s_NotWholeu_initu, [("__class__", 242)]⟩]
def fnN : List Hx.Dq := fn0
theorem walk_ofGE {l : PySem.W.OpenLaw} {n k : Nat} {q : Program} {loose : List Str} {XP : (Str → Option Value) → Heap → Prop} {YP : World → Heap → Prop} {d : DefRec} {x : Str} {cs : List (Addr × Addr)} (h1 : l.most = some n) (h2 : n ≤ sizeLine) (h3 : d.params.defaults = []) (room : Room k callerA)
    (F : ∀ (w : World) (mg : Str → Option Value) (fa : Addr) (h : Heap), YP w h → h.Ns mainGlobals mg → mg d.name = some (.ref fa) → ∃ (K : PySem.W.Frag) (fd : FuncData) (sp : Sp), K.In h ∧ (∀ p ∈ cs, ∃ (y : Str) (f : Addr), ((recsOf q).any fun e => e.name == y) = true ∧ mg y = some (.ref f) ∧ Vc.lamB K f p.1 p.2 = true) ∧ (∀ (s : Shared) (u : Value), BindsTo s fd ⟨[u], []⟩ [(x, u)]) ∧ (∀ (H : Hp) (a : Addr) (ns : List Int), ns.length ≤ n → (∀ p ∈ cs, H p.2 = some (.tbl #[])) → SqL K H a (ns.map V.int) → sp [.ref a] H (fun v _ => v = .bl true) E0) ∧
      ∀ base : Heap, K.In base → base.Ns mainGlobals mg → (∀ p ∈ cs, LamX.TabB base mg p.1 p.2) → Vc.FnG l.prog w K mg base CX0 k fa fd [x] sp) : PySem.W.WalkO q loose XP YP l.row.toRowW d [] (fun f vs => PySem.call f vs) := by
  refine Att.attach_call h1 h3 fun w s0 s1 mg mb fa o pm cd doc a vs ns G Y ho hd hcd hmg hobj hints many hg => ?_
  obtain ⟨K, fd, sp, KX, hcs, bi, pr, run⟩ := F w mg fa _ Y G.T.g hmg
  have tb : ∀ p ∈ cs, Vc.Tab0 s1.heap p.2 ∧ PySem.W.CodeHd s1.heap p.1 p.2 ∧ K.lookup p.2 = none := fun p hp => by
    obtain ⟨y, f, h1, h2, h3⟩ := hcs p hp
    exact Vc.tab0_of G.T KX h1 h2 h3
  exact Vc.law_callGT KX G.T.g G.T.b G.T.builtins G.T.nolimit hg G.T.bmain (fun p hp => (tb p hp).1) (fun p hp => (tb p hp).2.2) (fun p hp => (tb p hp).2.1) hobj hints (Nat.le_trans many h2) room run bi fun H hT hS => pr H a ns many hT hS
end
section
open PySem PySem.W PySem.Calls PyProof.Rows
def ad0 : List Addr := [3, 2, 31, 44, 56, 68, 89, 110, 131, 152, 173, 194, 215, 236, 257, 303, 391, 499, 30, 43, 55, 67, 88, 109, 130, 151, 172, 193, 214, 235, 256, 302, 332, 334, 390, 498, 32, 304, 305, 333]
def ad1 : List Addr := [392, 393, 500, 501, 21, 86, 107, 128, 149, 170, 191, 212, 233, 254, 266, 271, 286, 293, 300, 312, 324, 331, 341, 348, 355, 362, 369, 374, 381, 388, 402, 409, 414, 428, 435, 442, 449, 456, 463, 468]
def ad2 : List Addr := [475, 482, 489, 496, 510, 517, 524, 531, 538, 545, 550, 557, 564, 571, 578, 585, 592, 599, 606, 613, 620, 627, 634, 641, 648, 20, 74, 85, 95, 106, 116, 127, 137, 148, 158, 169, 179, 190, 200, 211]
def ad3 : List Addr := [221, 232, 242, 253, 265, 270, 279, 285, 292, 299, 311, 323, 330, 340, 347, 354, 361, 368, 373, 380, 387, 401, 408, 413, 427, 434, 441, 448, 455, 462, 467, 474, 481, 488, 495, 509, 516, 523, 530, 537]
def ad4 : List Addr := [544, 549, 556, 563, 570, 577, 584, 591, 598, 605, 612, 619, 626, 633, 640, 647]
def adN : List Addr := ad0 ++ (ad1 ++ (ad2 ++ (ad3 ++ (ad4))))
def ls0 : List PySem.Str := ["_wall", "__name__", "CodeError", "BadInput", "NotRight", "NoWay", "BadCodes", "BadLayout", "BadByte", "BadAddress", "UnlikeLengths", "BadRewrite", "BadStep", "BadText", "NotWhole", "LETTERS", "is_byte", "is_name", "Form", "check_forms", "CodeSet", "check_bytes", "span_of", "patched", "Image", "_law_pen", "_law_draw", "_law_pick", "_law_word", "_law_heard"]
def ls1 : List PySem.Str := ["_law_cells", "_law_bytes", "_law_odd", "_law_spoilt", "_law_edge", "_law_deed", "_law_bad", "_law_due", "_law_dressed", "_law_put", "_law_read", "_law_read_right", "_law_unlike_right"]
def lsN : List PySem.Str := ls0 ++ (ls1)
def csN : List (Addr × Addr) := [(612, 608), (619, 615)]
abbrev RR : OpenRow := OpenLaw.row PySem.Challenge.rw_codestitch_k07_image_bytes
abbrev qv : Program := view RR.prog [43, 44, 48]
set_option maxRecDepth 100000 in
set_option maxHeartbeats 0 in
theorem runA (w : World) (os : OsState) : (HandSHeadRun.endF (HandSHeadRun.stepQ (HandSHeadRun.denQ HandSHeadRun.tabQ) RR.prog w) 20000 RR.prog w os).map (fun s => HandSHeadRun.looksF RR.prog (boot_heap w.params) s.abs) = some true := by kernel_rfl
set_option maxRecDepth 100000 in
set_option maxHeartbeats 0 in
theorem runB (w : World) (os : OsState) : (HandSHeadRun.endF (HandSHeadRun.stepQ (HandSHeadRun.denQ HandSHeadRun.tabQ) RR.prog w) 20000 RR.prog w os).map (fun s => HandSHeadRun.seenQ qv lsN (importedModules RR.prog.main.body) (fun s => xlAt qv [] s && recOk RR.toRowW.records s) s.abs) = some (openGood qv lsN) := by kernel_rfl
set_option maxRecDepth 100000 in
set_option maxHeartbeats 0 in
theorem runF (w : World) (os : OsState) : (HandSHeadRun.endF (HandSHeadRun.stepQ (HandSHeadRun.denQ HandSHeadRun.tabQ) RR.prog w) 20000 RR.prog w os).map (fun s => fnN.map (Hx.fnQ (He.frG (HandSHeadRun.getT s) adN))) = some (fnN.map Hx.Dq.val) := by kernel_rfl
def fr0 : List (PySem.W.Frag → Bool) := fa0 ++ (fa1 ++ (fa2))
set_option maxRecDepth 100000 in
set_option maxHeartbeats 0 in
theorem runC0 (w : World) (os : OsState) : (HandSHeadRun.endF (HandSHeadRun.stepQ (HandSHeadRun.denQ HandSHeadRun.tabQ) RR.prog w) 20000 RR.prog w os).map (fun s => Hx.chk fr0 (He.frG (HandSHeadRun.getT s) adN)) = some true := by kernel_rfl
def fr1 : List (PySem.W.Frag → Bool) := fa3 ++ (fa4 ++ (fa5))
set_option maxRecDepth 100000 in
set_option maxHeartbeats 0 in
theorem runC1 (w : World) (os : OsState) : (HandSHeadRun.endF (HandSHeadRun.stepQ (HandSHeadRun.denQ HandSHeadRun.tabQ) RR.prog w) 20000 RR.prog w os).map (fun s => Hx.chk fr1 (He.frG (HandSHeadRun.getT s) adN)) = some true := by kernel_rfl
def fr2 : List (PySem.W.Frag → Bool) := fa6 ++ (fa7 ++ (fa8))
set_option maxRecDepth 100000 in
set_option maxHeartbeats 0 in
theorem runC2 (w : World) (os : OsState) : (HandSHeadRun.endF (HandSHeadRun.stepQ (HandSHeadRun.denQ HandSHeadRun.tabQ) RR.prog w) 20000 RR.prog w os).map (fun s => Hx.chk fr2 (He.frG (HandSHeadRun.getT s) adN)) = some true := by kernel_rfl
theorem hd_run (w : World) : HandSHeadRun.RunEq RR qv (Hx.hook adN faN fnN) (Hx.obT adN faN fnN) 20000 lsN w := fun os => Hx.join (runA w os) (runB w os) (fun s e => by
    have c := Hx.part (runC0 w os) s e
    obtain ⟨b0, c⟩ := Hx.chk_app c
    obtain ⟨b1, c⟩ := Hx.chk_app c
    have b2 : Hx.chk fa2 _ = true := c
    clear c
    have c := Hx.part (runC1 w os) s e
    obtain ⟨b3, c⟩ := Hx.chk_app c
    obtain ⟨b4, c⟩ := Hx.chk_app c
    have b5 : Hx.chk fa5 _ = true := c
    clear c
    have c := Hx.part (runC2 w os) s e
    obtain ⟨b6, c⟩ := Hx.chk_app c
    obtain ⟨b7, c⟩ := Hx.chk_app c
    have b8 : Hx.chk fa8 _ = true := c
    clear c
    exact (Hx.app_chk b0 (Hx.app_chk b1 (Hx.app_chk b2 (Hx.app_chk b3 (Hx.app_chk b4 (Hx.app_chk b5 (Hx.app_chk b6 (Hx.app_chk b7 b8))))))))) (runF w os)
set_option maxRecDepth 100000 in
set_option maxHeartbeats 0 in
theorem top_of {sp : PySem.W.Frag → L2.Sp} (hall : ∀ {w : World} {K : PySem.W.Frag} {h : Heap} {mg : Str → Option Value} {fa : Addr}, K.In h → h.Ns mainGlobals mg → mg "law" = some (.ref fa) → Hx.chk faN K = true → fnN.map (Hx.fnQ K) = fnN.map Hx.Dq.val →
    (∀ p ∈ csN, ∃ (y : Str) (f : Addr), ((recsOf qv).any fun e => e.name == y) = true ∧ mg y = some (.ref f) ∧ Vc.lamB K f p.1 p.2 = true) ∧ ∃ fd : FuncData, (∀ (s : Shared) (v : Value), BindsTo s fd ⟨[v], []⟩ [("_law_script", v)]) ∧ ∀ base : Heap, K.In base → base.Ns mainGlobals mg → (∀ p ∈ csN, LamX.TabB base mg p.1 p.2) → Vc.FnG PySem.Challenge.pw_codestitch_k07_image_bytes w K mg base L2.CX0 16 fa fd ["_law_script"] (sp K))
    (hsp : ∀ (K : PySem.W.Frag) (H : L2.Hp) (a : Addr) (ns : List Int) (Q : L2.VK) (E : L2.XK), (∀ p ∈ csN, H p.2 = some (.tbl #[])) → L2.SqL K H a (ns.map L2.V.int) → ns.length ≤ 63 → (∀ H', Q (.bl true) H') → sp K [.ref a] H Q E) : PySem.Challenge.rw_codestitch_k07_image_bytes.Holds := by
  w_on; o_law
  refine HandSHeadRun.head_any (r := OpenLaw.row PySem.Challenge.rw_codestitch_k07_image_bytes) (q := qv) (H := Hx.hook adN faN fnN) (ob := Hx.obT adN faN fnN) (M := 20000) (loose := lsN) (d := HandSHeadRun.topDef (OpenLaw.row PySem.Challenge.rw_codestitch_k07_image_bytes).prog 48) (kwd := []) (Hx.obT_eq adN faN fnN)
    (by kernel_rfl) (fun s => by kernel_rfl) hd_run (by kernel_rfl) (by kernel_rfl) (by kernel_rfl) (by rfl) (by first | assumption | decide +kernel) (by decide +kernel) ⟨rfl, rfl, rfl, rfl, rfl, by decide +kernel⟩ ?hw ?hc
  case hw => w_witness2
  case hc =>
    refine walk_ofGE (cs := csN) (l := PySem.Challenge.rw_codestitch_k07_image_bytes) (n := 63) (k := 16) (x := "_law_script") rfl (by decide) (by kernel_rfl) ⟨rfl, by decide, by decide⟩ ?F
    intro w mg fa h Y G hmg0
    obtain ⟨K, KX, c, E⟩ := Y
    have hmg : mg ("law" : PySem.Str) = some (.ref fa) := by
      have e : (HandSHeadRun.topDef (OpenLaw.row PySem.Challenge.rw_codestitch_k07_image_bytes).prog 48).name = ("law" : PySem.Str) := by kernel_rfl
      rw [← e]
      exact hmg0
    obtain ⟨hcs, fd, hb, hF⟩ := hall (w := w) KX G hmg c E
    exact ⟨K, fd, sp K, KX, hcs, hb, fun H a ns hl hT hS => hsp K H a ns _ _ hT hS hl (fun _ => rfl), hF⟩
end

end My
namespace My
open PySem PySem.Spec PyProof.Rows L2
theorem ok_BadAddressu_initu {w : World} {K : PySem.W.Frag} {mg : Str → Option Value} {base : Heap} {A : Ad} (T : Txt K mg A) : FnOk PySem.Challenge.pw_codestitch_k07_image_bytes w K mg base CX0 1 A.f_BadAddressu_initu A.d_BadAddressu_initu ["self", "at"] (Vc.spErr1 A.C_BadAddress "at") := by
  refine T.F_BadAddressu_initu.ok sc_BadAddressu_initu T.ox_BadAddress rfl rfl rfl (fun vs H Q E h => ?_) (fun X => pe_str) (fun _ _ _ => rfl) (fun _ _ _ => rfl) (fun _ _ _ => rfl) (fun _ _ _ => rfl) (fun cda cc Ar outer s H vs Q E h => ?_)
  · obtain ⟨_, _, rfl, _⟩ := h
    rfl
  · obtain ⟨a, h1, h2, h3⟩ := Vc.err_ends1 T.ox_BadAddress T.no_BadAddress_at h
    exact ⟨a, h1, h2, _, pss_one (ps_ost (pv 0) (pv 1)), h3⟩
theorem ok_BadByteu_initu {w : World} {K : PySem.W.Frag} {mg : Str → Option Value} {base : Heap} {A : Ad} (T : Txt K mg A) : FnOk PySem.Challenge.pw_codestitch_k07_image_bytes w K mg base CX0 1 A.f_BadByteu_initu A.d_BadByteu_initu ["self", "at"] (Vc.spErr1 A.C_BadByte "at") := by
  refine T.F_BadByteu_initu.ok sc_BadByteu_initu T.ox_BadByte rfl rfl rfl (fun vs H Q E h => ?_) (fun X => pe_str) (fun _ _ _ => rfl) (fun _ _ _ => rfl) (fun _ _ _ => rfl) (fun _ _ _ => rfl) (fun cda cc Ar outer s H vs Q E h => ?_)
  · obtain ⟨_, _, rfl, _⟩ := h
    rfl
  · obtain ⟨a, h1, h2, h3⟩ := Vc.err_ends1 T.ox_BadByte T.no_BadByte_at h
    exact ⟨a, h1, h2, _, pss_one (ps_ost (pv 0) (pv 1)), h3⟩
theorem ok_UnlikeLengthsu_initu {w : World} {K : PySem.W.Frag} {mg : Str → Option Value} {base : Heap} {A : Ad} (T : Txt K mg A) : FnOk PySem.Challenge.pw_codestitch_k07_image_bytes w K mg base CX0 1 A.f_UnlikeLengthsu_initu A.d_UnlikeLengthsu_initu ["self", "one", "other"] (Vc.spErr2 A.C_UnlikeLengths "one" "other") := by
  refine T.F_UnlikeLengthsu_initu.ok sc_UnlikeLengthsu_initu T.ox_UnlikeLengths rfl rfl rfl (fun vs H Q E h => ?_) (fun X => pe_str) (fun _ _ _ => rfl) (fun _ _ _ => rfl) (fun _ _ _ => rfl) (fun _ _ _ => rfl) (fun cda cc Ar outer s H vs Q E h => ?_)
  · obtain ⟨_, _, _, rfl, _⟩ := h
    rfl
  · obtain ⟨a, h1, h2, h3⟩ := Vc.err_ends2 T.ox_UnlikeLengths T.no_UnlikeLengths_one T.no_UnlikeLengths_other h
    exact ⟨a, h1, h2, _, pss_cons (ps_ost (pv 0) (pv 1)) (pss_one (ps_ost (pv 0) (pv 2))), h3⟩
theorem ok_NotWholeu_initu {w : World} {K : PySem.W.Frag} {mg : Str → Option Value} {base : Heap} {A : Ad} (T : Txt K mg A) : FnOk PySem.Challenge.pw_codestitch_k07_image_bytes w K mg base CX0 1 A.f_NotWholeu_initu A.d_NotWholeu_initu ["self", "place"] (Vc.spErr1 A.C_NotWhole "place") := by
  refine T.F_NotWholeu_initu.ok sc_NotWholeu_initu T.ox_NotWhole rfl rfl rfl (fun vs H Q E h => ?_) (fun X => pe_str) (fun _ _ _ => rfl) (fun _ _ _ => rfl) (fun _ _ _ => rfl) (fun _ _ _ => rfl) (fun cda cc Ar outer s H vs Q E h => ?_)
  · obtain ⟨_, _, rfl, _⟩ := h
    rfl
  · obtain ⟨a, h1, h2, h3⟩ := Vc.err_ends1 T.ox_NotWhole T.no_NotWhole_place h
    exact ⟨a, h1, h2, _, pss_one (ps_ost (pv 0) (pv 1)), h3⟩
end My
namespace My
open PySem PySem.Spec PyProof.Rows L2
/-! ### data of ints: laid out, equal -/
theorem lay_ints : ∀ ns : List Int, PyData.canLayAll0 (ns.map PyData.int) = true
  | [] => rfl
  | n :: r => by
    rw [List.map_cons, PyData.canLayAll0, lay_ints r]; rfl
theorem dep_ints : ∀ ns : List Int, PyData.depthAll (ns.map PyData.int) = 0
  | [] => rfl
  | n :: r => by
    rw [List.map_cons, PyData.depthAll, dep_ints r]; rfl
theorem shp_list (ns : List Int) : SeqAt.shaped (.list (ns.map PyData.int)) = true := by
  unfold SeqAt.shaped
  rw [PyData.canLay0, lay_ints, PyData.depth, dep_ints]; rfl
theorem shp_tup (ns : List Int) : SeqAt.shaped (.tuple (ns.map PyData.int)) = true := by
  unfold SeqAt.shaped
  rw [PyData.canLay0, lay_ints, PyData.depth, dep_ints]; rfl
theorem eqv_ints : ∀ ns ms : List Int, PyData.eqvAll (ns.map PyData.int) (ms.map PyData.int) = decide (ns = ms)
  | [], [] => rfl
  | [], _ :: _ => rfl
  | _ :: _, [] => rfl
  | n :: r, m :: q => by
    rw [List.map_cons, List.map_cons, PyData.eqvAll, eqv_ints r q, Bool.eq_iff_iff]
    show ((n == m) && decide (r = q)) = true ↔ _
    simp
theorem eqv_lists (ns ms : List Int) : PyData.eqv (.list (ns.map PyData.int)) (.list (ms.map PyData.int)) = decide (ns = ms) := by rw [PyData.eqv]; exact eqv_ints ns ms
theorem eqv_tups (ns ms : List Int) : PyData.eqv (.tuple (ns.map PyData.int)) (.tuple (ms.map PyData.int)) = decide (ns = ms) := by rw [PyData.eqv]; exact eqv_ints ns ms
theorem dp_ints {K : PySem.W.Frag} {H : Hp} : ∀ (ns : List Int), DpAll K H (ns.map V.int) (ns.map PyData.int)
  | [] => .nil
  | n :: r => .cons (.int n) (dp_ints r)
section
variable {K : PySem.W.Frag} {H : Hp} {Q : VK} {p q : Addr} {ns ms : List Int}
/-- two lists of ints compared -/
theorem go_neLs (e1 : SqL K H p (ns.map V.int)) (e2 : SqL K H q (ms.map V.int)) (h : Q (.bl (!decide (ns = ms))) H) : rNeD K (.ref p) (.ref q) H Q :=
  ⟨_, _, .lst e1 (dp_ints ns), .lst e2 (dp_ints ms), shp_list _, shp_list _, by rw [eqv_lists]; exact h⟩
theorem go_eqLs (e1 : SqL K H p (ns.map V.int)) (e2 : SqL K H q (ms.map V.int)) (h : Q (.bl (decide (ns = ms))) H) : rEqD K (.ref p) (.ref q) H Q :=
  ⟨_, _, .lst e1 (dp_ints ns), .lst e2 (dp_ints ms), shp_list _, shp_list _, by rw [eqv_lists]; exact h⟩
end

/-! ### flat values as data -/
def vD : V → PyData
  | .bl b => .bool b
  | .int i => .int i
  | .str z => .str z
  | _ => .none
def isAt : V → Bool
  | .non => true
  | .bl _ => true
  | .int _ => true
  | .str _ => true
  | _ => false
theorem dp_at {K : PySem.W.Frag} {H : Hp} : ∀ {x : V}, isAt x = true → Dp K H x (vD x)
  | .non, _ => .non
  | .bl b, _ => .bl b
  | .int i, _ => .int i
  | .str z, _ => .str z
theorem dp_ats {K : PySem.W.Frag} {H : Hp} : ∀ {xs : List V}, xs.all isAt = true → DpAll K H xs (xs.map vD)
  | [], _ => .nil
  | x :: r, h => by
    rw [List.all_cons, Bool.and_eq_true] at h
    exact .cons (dp_at h.1) (dp_ats h.2)

end My
namespace My
open PySem PySem.Spec PyProof.Rows L2
/-! ### data without truths, compared -/
def PAtom (d : PyData) : Prop := d = .none ∨ (∃ i, d = .int i) ∨ ∃ z, PyData.canLay0 (.str z) = true ∧ d = .str z
def Pl : Nat → PyData → Prop
  | 0, d => PAtom d
  | n + 1, d => PAtom d ∨ ∃ ds, (d = .list ds ∨ d = .tuple ds) ∧ ∀ x ∈ ds, Pl n x
theorem Pl.atom {n : Nat} {d : PyData} (h : PAtom d) : Pl n d := by
  cases n with
  | zero => exact h
  | succ n => exact .inl h
theorem pl_int {n : Nat} (i : Int) : Pl n (.int i) := .atom (.inr (.inl ⟨i, rfl⟩))
theorem pl_non {n : Nat} : Pl n .none := .atom (.inl rfl)
theorem pl_str {n : Nat} {z : Str} (h : PyData.canLay0 (.str z) = true) : Pl n (.str z) := .atom (.inr (.inr ⟨z, h, rfl⟩))
theorem pl_lst {n : Nat} {ds : List PyData} (h : ∀ x ∈ ds, Pl n x) : Pl (n + 1) (.list ds) := .inr ⟨ds, .inl rfl, h⟩
theorem pl_tup {n : Nat} {ds : List PyData} (h : ∀ x ∈ ds, Pl n x) : Pl (n + 1) (.tuple ds) := .inr ⟨ds, .inr rfl, h⟩
theorem pl_ints {n : Nat} (ns : List Int) : ∀ x ∈ ns.map PyData.int, Pl n x := fun x hx => by
  obtain ⟨i, _, rfl⟩ := List.mem_map.mp hx
  exact pl_int i
theorem lay_all : ∀ ds : List PyData, (∀ x ∈ ds, PyData.canLay0 x = true) → PyData.canLayAll0 ds = true
  | [], _ => rfl
  | d :: r, h => by rw [PyData.canLayAll0, h d List.mem_cons_self, lay_all r fun x hx => h x (List.mem_cons_of_mem _ hx)]; rfl
theorem dep_all {n : Nat} : ∀ ds : List PyData, (∀ x ∈ ds, PyData.depth x ≤ n) → PyData.depthAll ds ≤ n
  | [], _ => Nat.zero_le _
  | d :: r, h => by
    rw [PyData.depthAll]
    have := h d List.mem_cons_self
    have := dep_all r fun x hx => h x (List.mem_cons_of_mem _ hx)
    omega
theorem atom_lay {d : PyData} (h : PAtom d) : PyData.canLay0 d = true ∧ PyData.depth d = 0 := by
  rcases h with rfl | ⟨i, rfl⟩ | ⟨z, hz, rfl⟩
  · exact ⟨rfl, rfl⟩
  · exact ⟨rfl, rfl⟩
  · exact ⟨hz, rfl⟩
theorem pl_lay : ∀ (n : Nat) (d : PyData), Pl n d → PyData.canLay0 d = true ∧ PyData.depth d ≤ n
  | 0, d, h => by
    obtain ⟨a, b⟩ := atom_lay h
    exact ⟨a, by omega⟩
  | n + 1, d, h => by
    rcases h with h | ⟨ds, h, hx⟩
    · obtain ⟨a, b⟩ := atom_lay h
      exact ⟨a, by omega⟩
    · have a := lay_all ds fun x hm => (pl_lay n x (hx x hm)).1
      have b := dep_all ds fun x hm => (pl_lay n x (hx x hm)).2
      rcases h with rfl | rfl
      · refine ⟨by rw [PyData.canLay0]; exact a, ?_⟩
        rw [PyData.depth]; omega
      · refine ⟨by rw [PyData.canLay0]; exact a, ?_⟩
        rw [PyData.depth]; omega
theorem pl_shp {n : Nat} {d : PyData} (h : Pl n d) (l : n ≤ 64) : SeqAt.shaped d = true := by
  obtain ⟨a, b⟩ := pl_lay n d h
  unfold SeqAt.shaped
  rw [a, decide_eq_true (by omega)]; rfl
theorem eqv_all : ∀ xs ys : List PyData, (∀ x ∈ xs, ∀ y ∈ ys, (PyData.eqv x y = true ↔ x = y)) → (PyData.eqvAll xs ys = true ↔ xs = ys)
  | [], [], _ => by rw [PyData.eqvAll]; simp
  | [], _ :: _, _ => by rw [PyData.eqvAll]; simp
  | _ :: _, [], _ => by rw [PyData.eqvAll]; simp
  | x :: xs, y :: ys, h => by
    rw [PyData.eqvAll, Bool.and_eq_true, h x List.mem_cons_self y List.mem_cons_self, eqv_all xs ys fun a ha b hb => h a (List.mem_cons_of_mem _ ha) b (List.mem_cons_of_mem _ hb), List.cons.injEq]
theorem atom_eqv {d e : PyData} (h : PAtom d) (k : PAtom e) : PyData.eqv d e = true ↔ d = e := by
  rcases h with rfl | ⟨i, rfl⟩ | ⟨z, _, rfl⟩ <;> rcases k with rfl | ⟨j, rfl⟩ | ⟨y, _, rfl⟩ <;> simp [PyData.eqv]
theorem pl_eqv : ∀ (n : Nat) (d e : PyData), Pl n d → Pl n e → (PyData.eqv d e = true ↔ d = e)
  | 0, d, e, h, k => atom_eqv h k
  | n + 1, d, e, h, k => by
    rcases h with h | ⟨ds, h, hx⟩
    · rcases k with k | ⟨es, k, hy⟩
      · exact atom_eqv h k
      · rcases h with rfl | ⟨i, rfl⟩ | ⟨z, _, rfl⟩ <;> rcases k with rfl | rfl <;> simp [PyData.eqv]
    · rcases k with k | ⟨es, k, hy⟩
      · rcases k with rfl | ⟨i, rfl⟩ | ⟨z, _, rfl⟩ <;> rcases h with rfl | rfl <;> simp [PyData.eqv]
      · have := eqv_all ds es fun x hm y hn => pl_eqv n x y (hx x hm) (hy y hn)
        rcases h with rfl | rfl <;> rcases k with rfl | rfl <;> simp [PyData.eqv, this]
theorem pl_dec {n : Nat} {d e : PyData} {p : Prop} [Decidable p] (h : Pl n d) (k : Pl n e) (i : d = e ↔ p) : PyData.eqv d e = decide p := by
  rw [Bool.eq_iff_iff, pl_eqv n d e h k, i, decide_eq_true_eq]
/-- data compared -/
theorem go_nePl {K : PySem.W.Frag} {H : Hp} {Q : VK} {x y : V} {d e : PyData} {n : Nat} {p : Prop} [Decidable p] (hx : Dp K H x d) (hy : Dp K H y e) (h : Pl n d) (k : Pl n e) (l : n ≤ 64) (i : d = e ↔ p) (q : Q (.bl (!decide p)) H) : rNeD K x y H Q :=
  ⟨d, e, hx, hy, pl_shp h l, pl_shp k l, by rw [pl_dec h k i]; exact q⟩
theorem go_eqPl {K : PySem.W.Frag} {H : Hp} {Q : VK} {x y : V} {d e : PyData} {n : Nat} {p : Prop} [Decidable p] (hx : Dp K H x d) (hy : Dp K H y e) (h : Pl n d) (k : Pl n e) (l : n ≤ 64) (i : d = e ↔ p) (q : Q (.bl (decide p)) H) : rEqD K x y H Q :=
  ⟨d, e, hx, hy, pl_shp h l, pl_shp k l, by rw [pl_dec h k i]; exact q⟩
theorem ints_inj {a b : List Int} : a.map PyData.int = b.map PyData.int ↔ a = b := ⟨fun h => (List.map_inj_right fun x y z => by injection z).mp h, fun h => by rw [h]⟩

end My
namespace My
open PySem PySem.Spec PyProof.Rows L2
/-! ### the pen: what a script's draws come from -/
structure PenS (H : Hp) (b c : Addr) (ns : List Int) (a r : Int) : Prop where
  ob : H b = some (.lst [.ref c, .int a, .int r])
  cl : H c = some (.lst (ns.map V.int))
  len : ns.length ≤ 63
  a0 : 0 ≤ a
  r0 : 0 ≤ r
/-- at most n cells were drawn -/
def Pen (H : Hp) (b c : Addr) (n : Nat) : Prop := ∃ ns a r, PenS H b c ns a r ∧ a ≤ n
theorem Pen.ed {H H' : Hp} {b c : Addr} {n : Nat} {S : List Addr} (h : Pen H b c n) (e : Vc.Ed S H H') (hb : b ∉ S) (hc : c ∉ S) : Pen H' b c n := by
  obtain ⟨ns, a, r, B, l⟩ := h
  exact ⟨ns, a, r, ⟨e.keep _ _ hb B.ob, e.keep _ _ hc B.cl, B.len, B.a0, B.r0⟩, l⟩
theorem Pen.ed0 {H H' : Hp} {b c : Addr} {n : Nat} (e : Vc.Ed [] H H') (h : Pen H b c n) : Pen H' b c n := h.ed e (fun z => nomatch z) (fun z => nomatch z)
theorem Pen.ed1 {H H' : Hp} {b c p : Addr} {n : Nat} (e : Vc.Ed [p] H H') (hb : b ≠ p) (hc : c ≠ p) (h : Pen H b c n) : Pen H' b c n :=
  h.ed e (fun z => hb (List.mem_singleton.mp z)) (fun z => hc (List.mem_singleton.mp z))
theorem Pen.up {H : Hp} {b c : Addr} {n m : Nat} (h : Pen H b c n) (l : n ≤ m) : Pen H b c m := by
  obtain ⟨ns, a, r, B, l'⟩ := h
  exact ⟨ns, a, r, B, by omega⟩
theorem Pen.fb {H : Hp} {b c p : Addr} {n : Nat} (h : Pen H b c n) (q : H p = none) : b ≠ p ∧ c ≠ p := by
  obtain ⟨ns, a, r, B, _⟩ := h
  exact ⟨ne_of_none B.ob q, ne_of_none B.cl q⟩
theorem Pen.lst {H : Hp} {b c : Addr} {n : Nat} (h : Pen H b c n) : ∃ x a r, H b = some (.lst [.ref x, .int a, .int r]) := by
  obtain ⟨ns, a, r, B, _⟩ := h
  exact ⟨_, _, _, B.ob⟩
def LIM : Nat := 1000000
def spDraw : Sp := fun vs H Q _ => ∃ (b c : Addr) (n : Nat) (m : Int), vs = [.ref b, .int m] ∧ Pen H b c n ∧ n ≤ LIM ∧ 1 ≤ m ∧ m < 2 ^ 190 ∧
  ∀ i H', 0 ≤ i → i < m → Vc.Ed [b] H H' → Pen H' b c (n + 1) → Q (.int i) H'
theorem pen_ns {ns : List Int} {a : Int} (h : ns ≠ []) (h0 : 0 ≤ a) : ∃ x, atI (ns.map V.int) (a % (ns.length : Int)) = some (.int x) := by
  have l : 0 < ns.length := List.length_pos_iff.mpr h
  have e0 := Int.emod_nonneg a (show (ns.length : Int) ≠ 0 by omega)
  have e1 := Int.emod_lt_of_pos a (show (0 : Int) < ns.length by omega)
  refine ⟨ns[(a % (ns.length : Int)).toNat]'(by omega), at_of (j := (a % (ns.length : Int)).toNat) (by omega) ?_⟩
  rw [List.getElem?_map, List.getElem?_eq_getElem (by omega)]; rfl
theorem sq_lt {y : Int} (h : y.natAbs < 2 ^ 64) : (y ^ (2 : Int).toNat).natAbs < 2 ^ 200 := by
  rw [Int.natAbs_pow]
  exact Nat.lt_of_lt_of_le (Nat.pow_lt_pow_left h (by decide)) (by decide)
section
variable {P : Program} {w : World} {K : PySem.W.Frag} {mg : Str → Option Value} {base : Heap} {A : Ad}
theorem ok__law_draw (T : Txt K mg A) : FnOk P w K mg base CX0 1 A.f__law_draw A.d__law_draw ["_law_pen_here", "_law_many"] spDraw := by
  refine T.F__law_draw.ok sc__law_draw (fun vs H Q E h => ?_) (fun cdv Ar outer s H vs Q E hr h => ?_)
  · obtain ⟨b, c, n, m, rfl, _⟩ := h
    rfl
  · obtain ⟨b, c, n, m, rfl, hB, nl, m1, m2, k⟩ := h
    have nl : n ≤ 1000000 := nl
    refine ⟨_, (pss_cons (ps_if (pt_cmpR op_gt (pe_ix ix_list (pv 0) pe_int (fun _ _ => rfl)) pe_int (nomark _)) (pss_cons (ps_set (i := 2) sc__law_draw.nd rfl (Or.inl rfl) (pe_op op_mod (pe_callTy call_int1 (by rfl) T.n_int (by decide +kernel) (pa_cons (pe_ix ix_list (pv 0) pe_int (fun _ _ => rfl)) pa_nil)) (pv 1))) (pss_cons (ps_asg (pe_op op_fdivW (pe_ix ix_list (pv 0) pe_int (fun _ _ => rfl)) (pv 1)) (pg_sub (pv 0) pe_int set_list)) (pss_one (ps_ret (pv 2))))) pss_nil) (pss_cons (ps_set (i := 3) sc__law_draw.nd rfl (Or.inl rfl) (pe_ix ix_list (pv 0) pe_int (fun _ _ => rfl))) (pss_cons (ps_asg (pe_op op_add (pv 3) pe_int) (pg_sub (pv 0) pe_int set_list)) (pss_cons (ps_set (i := 4) sc__law_draw.nd rfl (Or.inl rfl) (pe_op op_add (pe_op op_mulW pe_int (pv 3)) pe_int)) (Evl.pss_cut (ps_if (pt_cmpR op_gt (pe_callB call_len_seq (by rfl) T.n_len (by decide +kernel) (pa_cons (pe_ix ix_list (pv 0) pe_int (fun _ _ => rfl)) pa_nil)) pe_int (nomark _)) (pss_one (ps_set (i := 4) sc__law_draw.nd rfl (Or.inl rfl) (pe_ix ix_list (pe_ix ix_list (pv 0) pe_int (fun _ _ => rfl)) (pe_op op_mod (pe_callTy call_int1 (by rfl) T.n_int (by decide +kernel) (pa_cons (pv 3) pa_nil)) (pe_callB call_len_seq (by rfl) T.n_len (by decide +kernel) (pa_cons (pe_ix ix_list (pv 0) pe_int (fun _ _ => rfl)) pa_nil))) (fun _ _ => rfl)))) pss_nil) (Evl.pss_cut (ps_if (PW.pt (pw_and (pt_cmpR op_lt (pv 3) (pe_callB call_len_seq (by rfl) T.n_len (by decide +kernel) (pa_cons (pe_ix ix_list (pv 0) pe_int (fun _ _ => rfl)) pa_nil)) (nomark _)) (pw_and1 (pt_cmpR op_ge (pe_callB call_abs (by rfl) T.n_abs (by decide +kernel) (pa_cons (pv 4) pa_nil)) (pe_op op_pow pe_int pe_int) (nomark _))))) (pss_cons (ps_asg (pe_op op_fdivW (pe_callB call_abs (by rfl) T.n_abs (by decide +kernel) (pa_cons (pv 4) pa_nil)) (pv 1)) (pg_sub (pv 0) pe_int set_list)) (pss_one (ps_ret (pe_op op_mod (pe_callB call_abs (by rfl) T.n_abs (by decide +kernel) (pa_cons (pv 4) pa_nil)) (pv 1))))) pss_nil) (Evl.pss_cut (ps_set (i := 5) sc__law_draw.nd rfl (Or.inl rfl) (pe_op op_mod (pe_op op_pow (pe_op op_add (pe_op op_add (pe_op op_add (pe_op op_mod (pe_callTy call_int1 (by rfl) T.n_int (by decide +kernel) (pa_cons (pv 4) pa_nil)) pe_int) (pe_op op_mulW (pe_op op_mulW pe_int (pv 3)) (pv 3))) (pe_op op_mulW pe_int (pv 3))) pe_int) pe_int) pe_int)) (Evl.pss_cut (ps_set (i := 5) sc__law_draw.nd rfl (Or.inl rfl) (pe_op op_mod (pe_callTy call_int1 (by rfl) T.n_int (by decide +kernel) (pa_cons (pe_op op_mulW (pe_op op_pow (pe_op op_add (pe_op op_add (pv 5) (pe_op op_mulW pe_int (pv 3))) pe_int) pe_int) (pe_op op_add (pe_op op_mod (pe_callTy call_int1 (by rfl) T.n_int (by decide +kernel) (pa_cons (pv 5) pa_nil)) pe_int) pe_int)) pa_nil)) pe_int)) (pss_one (ps_ret (pe_op op_mod (pe_op op_fdivW (pv 5) pe_int) (pv 1)))))))))))), ?_⟩
    obtain ⟨ns, a, r, B, al⟩ := hB
    obtain ⟨hb, hc, hl, ha, hr0⟩ := id B
    have nbc : b ≠ c := fun z => by rw [z, hc] at hb; cases ns with
      | nil => cases hb
      | cons x l => cases hb
    have i0 : atI [V.ref c, .int a, .int r] 0 = some (.ref c) := rfl
    have i1 : atI [V.ref c, .int a, .int r] 1 = some (.int a) := rfl
    have i2 : atI [V.ref c, .int a, .int r] 2 = some (.int r) := rfl
    walk_at "go"
    refine Vc.go_ite (fun h1 => ?_) (fun h1 => ?_)
    · walk_at "go"
      refine Vc.go_setL hb rfl ?_
      generalize hu : upd _ b _ = H1
      obtain ⟨e1, hb1⟩ := Vc.chg hu hb
      walk_at "go"
      exact k _ _ (Int.emod_nonneg _ (by omega)) (Int.emod_lt_of_pos _ (by omega)) e1 ⟨ns, a, _, ⟨hb1, e1.at1 nbc.symm hc, hl, ha, Int.ediv_nonneg hr0 (by omega)⟩, by omega⟩
    walk_at "go"
    refine Vc.go_setL hb rfl ?_
    generalize hu : upd _ b _ = H1
    obtain ⟨e1, hb1⟩ := Vc.chg hu hb
    have hb1 : H1 b = some (.lst [.ref c, .int (a + 1), .int r]) := hb1
    have hc1 := e1.at1 nbc.symm hc
    have j0 : atI [V.ref c, .int (a + 1), .int r] 0 = some (.ref c) := rfl
    have j1 : atI [V.ref c, .int (a + 1), .int r] 1 = some (.int (a + 1)) := rfl
    have fin : ∀ (i : Int) H', 0 ≤ i → i < m → Vc.Ed [] H1 H' → Q (.int i) H' := fun i H' i0 i1 e => k i H' i0 i1 (e1.ex e) ⟨ns, a + 1, r, ⟨e.at0 hb1, e.at0 hc1, hl, by omega, hr0⟩, by omega⟩
    walk_at "go"
    refine Evl.q_cut (M := fun σ H' => ∃ cell : Int, σ = [some (.ref b), some (.int m), none, some (.int a), some (.int cell), none] ∧ H' = H1) ?_ ?_
    · walk_at "go"
      rw [List.length_map]
      refine Vc.go_ite (fun h2 => ?_) (fun h2 => ?_)
      · obtain ⟨x, hx⟩ := pen_ns (ns := ns) (a := a) (fun z => by rw [z] at h2; exact absurd h2 (by decide)) ha
        walk_at "go"
        rw [List.length_map]
        walk_at "go"
        exact ⟨_, rfl, rfl⟩
      · walk_at "go"
        exact ⟨_, rfl, rfl⟩
    · rintro σ H2 ⟨cell, rfl, rfl⟩
      walk_at "go"
      refine Evl.q_cut (M := fun σ H' => σ = [some (.ref b), some (.int m), none, some (.int a), some (.int cell), none] ∧ H' = H2) ?_ ?_
      · walk_at "go"
        rw [List.length_map]
        refine Vc.go_ite (fun h3 => ?_) (fun h3 => ?_)
        · walk_at "go"
          refine Vc.go_ite (fun h4 => ?_) (fun h4 => ?_)
          · walk_at "go"
            generalize hce : (if cell < 0 then -cell else cell) = cl
            have hc0 : 0 ≤ cl := by rw [← hce]; split <;> omega
            walk_at "go"
            refine Vc.go_setL hb1 rfl ?_
            generalize hu3 : upd _ b _ = H3
            obtain ⟨e3, hb3⟩ := Vc.chg hu3 hb1
            have hb3 : H3 b = some (.lst [.ref c, .int (a + 1), .int (cl / m)]) := hb3
            walk_at "go"
            rw [hce]
            exact k _ _ (Int.emod_nonneg _ (by omega)) (Int.emod_lt_of_pos _ (by omega)) (e1.one e3 (.inl (by simp))) ⟨ns, a + 1, _, ⟨hb3, e3.at1 nbc.symm hc1, hl, by omega, Int.ediv_nonneg (by omega) (by omega)⟩, by omega⟩
          · walk_at "go"
            exact ⟨rfl, rfl⟩
        · walk_at "go"
          exact ⟨rfl, rfl⟩
      · rintro σ H3 ⟨rfl, rfl⟩
        have sq0 : 0 ≤ 40023 * a * a := Int.mul_nonneg (Int.mul_nonneg (by decide) ha) ha
        have sq1 : 40023 * a * a ≤ 40023 * 1000000 * 1000000 := Int.mul_le_mul (by omega) (by omega) ha (by omega)
        walk_at "go"
        refine Evl.q_cut (M := fun σ H' => ∃ x : Int, σ = [some (.ref b), some (.int m), none, some (.int a), some (.int cell), some (.int x)] ∧ 0 ≤ x ∧ x < 2147483648 ∧ H' = H3) ?_ ?_
        · walk_at "go"
          exact ⟨_, rfl, Int.emod_nonneg _ (by decide), Int.lt_of_lt_of_le (Int.emod_lt_of_pos _ (by decide)) (by decide), rfl⟩
        · rintro σ H4 ⟨x, rfl, x0, x1, rfl⟩
          walk_at "go"
          refine Evl.q_cut (M := fun σ H' => ∃ x : Int, σ = [some (.ref b), some (.int m), none, some (.int a), some (.int cell), some (.int x)] ∧ 0 ≤ x ∧ x < 2147483648 ∧ H' = H4) ?_ ?_
          · walk_at "go"
            refine Vc.go_I (Vc.mulw (sq_lt (by omega)) (by omega)) ?_
            walk_at "go"
            exact ⟨_, rfl, Int.emod_nonneg _ (by decide), Int.lt_of_lt_of_le (Int.emod_lt_of_pos _ (by decide)) (by decide), rfl⟩
          · rintro σ H5 ⟨y, rfl, y0, y1, rfl⟩
            walk_at "go"
            exact fin _ _ (Int.emod_nonneg _ (by omega)) (Int.emod_lt_of_pos _ (by omega)) .refl
end
section
variable {P : Program} {w : World} {K : PySem.W.Frag} {mg : Str → Option Value} {base : Heap} {A : Ad}
def spPen (K : PySem.W.Frag) : Sp := fun vs H Q _ => ∃ (p : Addr) (ns : List Int), vs = [.ref p] ∧ SqL K H p (ns.map V.int) ∧ ns.length ≤ 63 ∧
  ∀ b c H', Vc.Ed [] H H' → Pen H' b c 0 → H b = none → H c = none → Q (.ref b) H'
theorem cut_ns {ns : List Int} (h : ns.length ≤ 63) : cutV (ns.map V.int) none (some 63) = ns.map V.int := by
  have e := Vc.cut_take (ns.map V.int) 63
  rw [List.take_of_length_le (by rw [List.length_map]; exact h)] at e
  exact e
theorem ok__law_pen (T : Txt K mg A) : FnOk P w K mg base CX0 1 A.f__law_pen A.d__law_pen ["_law_script"] (spPen K) := by
  refine T.F__law_pen.ok sc__law_pen (fun vs H Q E h => ?_) (fun cdv Ar outer s H vs Q E hr h => ?_)
  · obtain ⟨p, ns, rfl, _⟩ := h
    rfl
  · obtain ⟨p, ns, rfl, hS, hl, k⟩ := h
    refine ⟨_, (pss_one (ps_ret (pe_lst (pa_cons (pe_callTy Vc.call_lstD (by rfl) T.n_list (by decide +kernel) (pa_cons (pe_slice sl_list (pv 0) po_none (po_some pe_int)) pa_nil)) (pa_cons pe_int (pa_cons pe_int pa_nil)))))), ?_⟩
    walk_at "go"
    intro q nq
    generalize hu1 : upd _ q _ = H1
    obtain ⟨e1, hq⟩ := Vc.alloc hu1 nq
    walk_at "go"
    intro c nc
    generalize hu2 : upd _ c _ = H2
    obtain ⟨e2, hc⟩ := Vc.alloc hu2 nc
    rw [cut_ns hl] at hc
    walk_at "go"
    intro b nb
    generalize hu3 : upd _ b _ = H3
    obtain ⟨e3, hb⟩ := Vc.alloc hu3 nb
    exact k b c H3 (by walk_at "ed") ⟨ns, 0, 0, ⟨hb, e3.at0 hc, hl, by omega, by omega⟩, by omega⟩ (by walk_at "free") (by walk_at "free")
end

end My
namespace My
open PySem PySem.Spec PyProof.Rows L2
/-! ### a thing of a list, drawn -/
def spPick : Sp := fun vs H Q _ => ∃ (b c a : Addr) (n : Nat) (xs : List V), vs = [.ref b, .ref a] ∧ Pen H b c n ∧ n ≤ LIM ∧ H a = some (.lst xs) ∧ a ≠ b ∧ 1 ≤ xs.length ∧ xs.length ≤ 1000 ∧
  ∀ (i : Nat) (v : V) H', xs[i]? = some v → Vc.Ed [b] H H' → Pen H' b c (n + 1) → Q v H'
section
variable {P : Program} {w : World} {K : PySem.W.Frag} {mg : Str → Option Value} {base : Heap} {A : Ad}
theorem ok__law_pick (T : Txt K mg A) : FnOk P w K mg base CX0 2 A.f__law_pick A.d__law_pick ["_law_pen_here", "_law_some"] spPick := by
  have G__law_draw := ok__law_draw (P := P) (w := w) (base := base) T
  refine T.F__law_pick.ok sc__law_pick (fun vs H Q E h => ?_) (fun cdv Ar outer s H vs Q E hr h => ?_)
  · obtain ⟨b, c, a, n, xs, rfl, _⟩ := h
    rfl
  · obtain ⟨b, c, a, n, xs, rfl, hB, nl, ha, nab, l1, l2, k⟩ := h
    refine ⟨_, (pss_one (ps_ret (pe_ix ix_list (pv 1) (pe_call G__law_draw (by exact hr.mono (by decide)) (by rfl) T.g__law_draw T.F__law_draw.kp T.b__law_draw .nil pass0 (pa_cons (pv 0) (pa_cons (pe_callB call_len_seq (by rfl) T.n_len (by decide +kernel) (pa_cons (pv 1) pa_nil)) pa_nil))) (fun _ _ => rfl)))), ?_⟩
    walk_at "go"
    refine ⟨b, c, n, _, rfl, hB, nl, by omega, Int.lt_of_le_of_lt (show (xs.length : Int) ≤ 1000 by omega) (by decide), fun i H1 i0 i1 e1 hB1 => ?_⟩
    have ha1 := e1.at1 nab ha
    have hx : xs[i.toNat]? = some (xs[i.toNat]'(by omega)) := List.getElem?_eq_getElem (by omega)
    have hi : atI xs i = some (xs[i.toNat]'(by omega)) := at_of (z := i) (j := i.toNat) (by omega) hx
    walk_at "go"
    exact k i.toNat _ H1 hx e1 hB1
end

end My
namespace My
open PySem PySem.Spec PyProof.Rows L2
/-! ### what is raised, in words -/
inductive WErr where
  | addr (a : Int)
  | byte (a : Int)
  | len (a b : Int)
def WErr.cls (A : Ad) : WErr → Addr
  | .addr _ => A.C_BadAddress
  | .byte _ => A.C_BadByte
  | .len _ _ => A.C_UnlikeLengths
def WErr.fld : WErr → List (Str × V)
  | .addr a => [("at", .int a)]
  | .byte a => [("at", .int a)]
  | .len a b => [("other", .int b), ("one", .int a)]
def WErr.tup : WErr → List V
  | .addr a => [.str "address", .int a]
  | .byte a => [.str "byte", .int a]
  | .len a b => [.str "lengths", .int a, .int b]
def WErr.d : WErr → PyData
  | .addr a => .tuple [.str "address", .int a]
  | .byte a => .tuple [.str "byte", .int a]
  | .len a b => .tuple [.str "lengths", .int a, .int b]
def spWord (A : Ad) : Sp := fun vs H Q _ => ∃ (a : Addr) (e : WErr), vs = [.ref a] ∧ Vc.ErrAt H a (e.cls A) e.fld ∧ ∀ p H', Vc.Ed [] H H' → H' p = some (.tup e.tup) → Q (.ref p) H'
section
variable {P : Program} {w : World} {K : PySem.W.Frag} {mg : Str → Option Value} {base : Heap} {A : Ad}
theorem ok__law_word (T : Txt K mg A) : FnOk P w K mg base CX0 1 A.f__law_word A.d__law_word ["_law_error"] (spWord A) := by
  refine T.F__law_word.ok sc__law_word (fun vs H Q E h => ?_) (fun cdv Ar outer s H vs Q E hr h => ?_)
  · obtain ⟨a, e, rfl, _⟩ := h
    rfl
  · obtain ⟨a, e, rfl, hE, k⟩ := h
    refine ⟨_, (pss_cons (ps_set (i := 1) sc__law_word.nd rfl (Or.inl rfl) (pe_lst pa_nil)) (pss_cons (ps_if (pt_val (pe_callB Vc.call_isT (by rfl) T.n_isinstance (by decide +kernel) (pa_cons (pv 0) (pa_cons (pe_glob (v := .ref A.C_BadAddress) (by rfl) T.g_BadAddress rfl) pa_nil)))) (pss_one (ps_expr (pe_bm PySem.F.plainAttrs_list PySem.F.slot_list_append PySem.F.type_list_append mt_append (pv 1) (pa_cons (pe_tup (pa_cons pe_str (pa_cons (Vc.pe_xfT (pv 0)) pa_nil))) pa_nil)))) pss_nil) (pss_cons (ps_if (pt_val (pe_callB Vc.call_isT (by rfl) T.n_isinstance (by decide +kernel) (pa_cons (pv 0) (pa_cons (pe_glob (v := .ref A.C_BadByte) (by rfl) T.g_BadByte rfl) pa_nil)))) (pss_one (ps_expr (pe_bm PySem.F.plainAttrs_list PySem.F.slot_list_append PySem.F.type_list_append mt_append (pv 1) (pa_cons (pe_tup (pa_cons pe_str (pa_cons (Vc.pe_xfT (pv 0)) pa_nil))) pa_nil)))) pss_nil) (pss_cons (ps_if (pt_val (pe_callB Vc.call_isT (by rfl) T.n_isinstance (by decide +kernel) (pa_cons (pv 0) (pa_cons (pe_glob (v := .ref A.C_UnlikeLengths) (by rfl) T.g_UnlikeLengths rfl) pa_nil)))) (pss_one (ps_expr (pe_bm PySem.F.plainAttrs_list PySem.F.slot_list_append PySem.F.type_list_append mt_append (pv 1) (pa_cons (pe_tup (pa_cons pe_str (pa_cons (Vc.pe_xfT (pv 0)) (pa_cons (Vc.pe_xfT (pv 0)) pa_nil)))) pa_nil)))) pss_nil) (pss_cons (ps_if (pt_val (pe_callB Vc.call_isTT (by rfl) T.n_isinstance (by decide +kernel) (pa_cons (pv 0) (pa_cons (pe_tup (pa_cons (pe_glob (v := .ref A.C_BadCodes) (by rfl) T.g_BadCodes rfl) (pa_cons (pe_glob (v := .ref A.C_BadLayout) (by rfl) T.g_BadLayout rfl) (pa_cons (pe_glob (v := .ref A.C_BadRewrite) (by rfl) T.g_BadRewrite rfl) (pa_cons (pe_glob (v := .ref A.C_BadStep) (by rfl) T.g_BadStep rfl) (pa_cons (pe_glob (v := .ref A.C_BadText) (by rfl) T.g_BadText rfl) (pa_cons (pe_glob (v := .ref A.C_NotRight) (by rfl) T.g_NotRight rfl) (pa_cons (pe_glob (v := .ref A.C_NoWay) (by rfl) T.g_NoWay rfl) pa_nil)))))))) pa_nil)))) (pss_one (ps_ret (pe_tup (pa_cons pe_str pa_nil)))) pss_nil) (pss_cons (ps_if (PW.pt (pw_or (pt_cmpR op_ne (pe_callB call_len_seq (by rfl) T.n_len (by decide +kernel) (pa_cons (pv 1) pa_nil)) pe_int (nomark _)) (pw_or (pt_not (pt_val (pe_callB Vc.call_isT (by rfl) T.n_isinstance (by decide +kernel) (pa_cons (pv 0) (pa_cons (pe_glob (v := .ref A.C_BadInput) (by rfl) T.g_BadInput rfl) pa_nil))))) (pw_or1 (pt_not (pt_val (pe_callB Vc.call_isT (by rfl) T.n_isinstance (by decide +kernel) (pa_cons (pv 0) (pa_cons (pe_bltn (v := .ty "ValueError") (by rfl) T.n_ValueError (by decide +kernel) rfl) pa_nil))))))))) (pss_one (ps_ret (pe_tup (pa_cons pe_str pa_nil)))) pss_nil) (pss_one (ps_ret (pe_ix ix_list (pv 1) pe_int (fun _ _ => rfl)))))))))), ?_⟩
    cases e with
    | addr z =>
      have hE : Vc.ErrAt H a A.C_BadAddress [("at", .int z)] := hE
      have ec := T.ec_BadAddress
      have xf := T.xf_BadAddress
      have kt0 := T.kit_BadAddress_BadAddress
      have kt1 := T.kit_BadAddress_BadByte
      have kt2 := T.kit_BadAddress_UnlikeLengths
      have kt3 := T.kit_BadAddress_BadCodes
      have kt4 := T.kit_BadAddress_BadLayout
      have kt5 := T.kit_BadAddress_BadRewrite
      have kt6 := T.kit_BadAddress_BadStep
      have kt7 := T.kit_BadAddress_BadText
      have kt8 := T.kit_BadAddress_NotRight
      have kt9 := T.kit_BadAddress_NoWay
      have kta := T.kit_BadAddress_BadInput
      have ktb := T.kit_BadAddress_ValueError
      have no0 := T.no_BadAddress_at
      walk_at "go"
      intro f nf
      generalize hu1 : upd _ f _ = H1
      obtain ⟨e1, hf⟩ := Vc.alloc hu1 nf
      have hE1 := Vc.ErrAt.ed0 e1 hE
      walk_at "go"
      intro t nt
      generalize hu2 : upd _ t _ = H2
      obtain ⟨e2, ht⟩ := Vc.alloc hu2 nt
      have hf2 := e2.at0 hf
      walk_at "go"
      generalize hu3 : upd _ f _ = H3
      obtain ⟨e3, hf3⟩ := Vc.chg hu3 hf2
      have hf3 : H3 f = some (.lst [.ref t]) := hf3
      have e03 : Vc.Ed [] H H3 := (e1.ex e2).one e3 (.inr nf)
      have hE3 := Vc.ErrAt.ed0 e03 hE
      have ht3 := e3.tup _ _ ht
      clear hE1 hf hf2 e1 e2 e3 hu1 hu2 hu3
      walk_at "go"
      intro p np
      generalize hu4 : upd _ p _ = H4
      obtain ⟨e4, hp⟩ := Vc.alloc hu4 np
      have hE4 := Vc.ErrAt.ed0 e4 hE3
      have hp : H4 p = some (.tup (([A.C_BadCodes, A.C_BadLayout, A.C_BadRewrite, A.C_BadStep, A.C_BadText, A.C_NotRight, A.C_NoWay] : List Addr).map V.ref)) := hp
      have hf4 := e4.at0 hf3
      have ht4 := e4.at0 ht3
      walk_at "go"
      refine Vc.go_isNo hE4 ec hp (fun c hc => ?_) ?_
      · simp only [List.mem_cons, List.not_mem_nil, or_false] at hc
        rcases hc with rfl | rfl | rfl | rfl | rfl | rfl | rfl <;> assumption
      walk_at "go"
      refine Vc.go_itenF' (by rfl) ?_
      walk_at "goo"
      exact k t H4 (e03.ex e4) ht4
    | byte z =>
      have hE : Vc.ErrAt H a A.C_BadByte [("at", .int z)] := hE
      have ec := T.ec_BadByte
      have xf := T.xf_BadByte
      have kt0 := T.kit_BadByte_BadByte
      have kt1 := T.kit_BadByte_BadAddress
      have kt2 := T.kit_BadByte_UnlikeLengths
      have kt3 := T.kit_BadByte_BadCodes
      have kt4 := T.kit_BadByte_BadLayout
      have kt5 := T.kit_BadByte_BadRewrite
      have kt6 := T.kit_BadByte_BadStep
      have kt7 := T.kit_BadByte_BadText
      have kt8 := T.kit_BadByte_NotRight
      have kt9 := T.kit_BadByte_NoWay
      have kta := T.kit_BadByte_BadInput
      have ktb := T.kit_BadByte_ValueError
      have no0 := T.no_BadByte_at
      walk_at "go"
      intro f nf
      generalize hu1 : upd _ f _ = H1
      obtain ⟨e1, hf⟩ := Vc.alloc hu1 nf
      have hE1 := Vc.ErrAt.ed0 e1 hE
      walk_at "go"
      intro t nt
      generalize hu2 : upd _ t _ = H2
      obtain ⟨e2, ht⟩ := Vc.alloc hu2 nt
      have hf2 := e2.at0 hf
      walk_at "go"
      generalize hu3 : upd _ f _ = H3
      obtain ⟨e3, hf3⟩ := Vc.chg hu3 hf2
      have hf3 : H3 f = some (.lst [.ref t]) := hf3
      have e03 : Vc.Ed [] H H3 := (e1.ex e2).one e3 (.inr nf)
      have hE3 := Vc.ErrAt.ed0 e03 hE
      have ht3 := e3.tup _ _ ht
      clear hE1 hf hf2 e1 e2 e3 hu1 hu2 hu3
      walk_at "go"
      intro p np
      generalize hu4 : upd _ p _ = H4
      obtain ⟨e4, hp⟩ := Vc.alloc hu4 np
      have hE4 := Vc.ErrAt.ed0 e4 hE3
      have hp : H4 p = some (.tup (([A.C_BadCodes, A.C_BadLayout, A.C_BadRewrite, A.C_BadStep, A.C_BadText, A.C_NotRight, A.C_NoWay] : List Addr).map V.ref)) := hp
      have hf4 := e4.at0 hf3
      have ht4 := e4.at0 ht3
      walk_at "go"
      refine Vc.go_isNo hE4 ec hp (fun c hc => ?_) ?_
      · simp only [List.mem_cons, List.not_mem_nil, or_false] at hc
        rcases hc with rfl | rfl | rfl | rfl | rfl | rfl | rfl <;> assumption
      walk_at "go"
      refine Vc.go_itenF' (by rfl) ?_
      walk_at "goo"
      exact k t H4 (e03.ex e4) ht4
    | len z z2 =>
      have hE : Vc.ErrAt H a A.C_UnlikeLengths [("other", .int z2), ("one", .int z)] := hE
      have ec := T.ec_UnlikeLengths
      have xf := T.xf_UnlikeLengths
      have kt0 := T.kit_UnlikeLengths_UnlikeLengths
      have kt1 := T.kit_UnlikeLengths_BadAddress
      have kt2 := T.kit_UnlikeLengths_BadByte
      have kt3 := T.kit_UnlikeLengths_BadCodes
      have kt4 := T.kit_UnlikeLengths_BadLayout
      have kt5 := T.kit_UnlikeLengths_BadRewrite
      have kt6 := T.kit_UnlikeLengths_BadStep
      have kt7 := T.kit_UnlikeLengths_BadText
      have kt8 := T.kit_UnlikeLengths_NotRight
      have kt9 := T.kit_UnlikeLengths_NoWay
      have kta := T.kit_UnlikeLengths_BadInput
      have ktb := T.kit_UnlikeLengths_ValueError
      have no0 := T.no_UnlikeLengths_one
      have no1 := T.no_UnlikeLengths_other
      walk_at "go"
      intro f nf
      generalize hu1 : upd _ f _ = H1
      obtain ⟨e1, hf⟩ := Vc.alloc hu1 nf
      have hE1 := Vc.ErrAt.ed0 e1 hE
      walk_at "go"
      intro t nt
      generalize hu2 : upd _ t _ = H2
      obtain ⟨e2, ht⟩ := Vc.alloc hu2 nt
      have hf2 := e2.at0 hf
      walk_at "go"
      generalize hu3 : upd _ f _ = H3
      obtain ⟨e3, hf3⟩ := Vc.chg hu3 hf2
      have hf3 : H3 f = some (.lst [.ref t]) := hf3
      have e03 : Vc.Ed [] H H3 := (e1.ex e2).one e3 (.inr nf)
      have hE3 := Vc.ErrAt.ed0 e03 hE
      have ht3 := e3.tup _ _ ht
      clear hE1 hf hf2 e1 e2 e3 hu1 hu2 hu3
      walk_at "go"
      intro p np
      generalize hu4 : upd _ p _ = H4
      obtain ⟨e4, hp⟩ := Vc.alloc hu4 np
      have hE4 := Vc.ErrAt.ed0 e4 hE3
      have hp : H4 p = some (.tup (([A.C_BadCodes, A.C_BadLayout, A.C_BadRewrite, A.C_BadStep, A.C_BadText, A.C_NotRight, A.C_NoWay] : List Addr).map V.ref)) := hp
      have hf4 := e4.at0 hf3
      have ht4 := e4.at0 ht3
      walk_at "go"
      refine Vc.go_isNo hE4 ec hp (fun c hc => ?_) ?_
      · simp only [List.mem_cons, List.not_mem_nil, or_false] at hc
        rcases hc with rfl | rfl | rfl | rfl | rfl | rfl | rfl <;> assumption
      walk_at "go"
      refine Vc.go_itenF' (by rfl) ?_
      walk_at "goo"
      exact k t H4 (e03.ex e4) ht4
end
/-- what an error that comes out of the lambda asks -/
def HeardE (A : Ad) (Q : VK) : XK := fun cls d H' => ∃ (e : WErr) (dd : Addr), cls = .ref (e.cls A) ∧ d = some dd ∧ H' dd = some (.xd e.fld) ∧ ∀ p H'', Vc.Ed [] H' H'' → H'' p = some (.tup e.tup) → Q (.ref p) H''
def HeardR (Q : VK) : VK := fun v H' => ∀ p H'', Vc.Ed [] H' H'' → H'' p = some (.lst [v]) → Q (.ref p) H''
def THeard (A : Ad) (tl : XK → Hp → VK → Prop) (H : Hp) (Q : VK) : Prop := ∀ (E : XK) (R : VK), (∀ cls d H', HeardE A Q cls d H' → E cls d H') → (∀ v H', HeardR Q v H' → R v H') → tl E H R
theorem gives__law_heard {X : Cx} {A : Ad} {q : Str} (T : Txt X.K X.mg A) (cdg : Value) : Vc.GivesS 9 X ["_law_asked", "_law_caught", "_law_found", "_law_error"] "_law_heard" (defScope s__law_heard) A.f__law_heard cdg (defBody s__law_heard) "_law_asked" q (THeard A) := by
  have G__law_word := ok__law_word (P := X.prog) (w := X.w) (base := X.base) T
  intro f c' s H Q tl hr act hc h
  refine ⟨_, (pss_cons (ps_set (i := 1) sc__law_heard.nd rfl (Or.inl rfl) pe_non) (pss_cons (ps_set (i := 2) sc__law_heard.nd rfl (Or.inl rfl) pe_non) (pss_cons (Vc.ps_tryX (i := 3) rfl rfl sc__law_heard.nd rfl rfl ⟨rfl, by decide, .inl T.g_CodeError⟩ takes0 (fun W pn xe tk po => (pss_one (ps_set (i := 2) sc__law_heard.nd rfl (Or.inl rfl) (act W pn xe _ _ tk)))) (fun a pn => (pss_one (ps_set (i := 1) sc__law_heard.nd rfl (Or.inl rfl) (pv 3))))) (pss_cons (ps_if (pt_cmpR op_isN (pv 1) pe_non (nomark _)) (pss_one (ps_ret (pe_lst (pa_cons (pv 2) pa_nil)))) pss_nil) (pss_one (ps_ret (pe_call G__law_word (by exact hr.mono (by decide)) (by rfl) T.g__law_word T.F__law_word.kp T.b__law_word .nil pass0 (pa_cons (pv 1) pa_nil)))))))), ?_⟩
  walk_at "go"
  refine ⟨rfl, hc, h _ _ (fun cls d H' he => ?_) fun v H' hv => ?_⟩
  · obtain ⟨e, dd, rfl, rfl, hd, k⟩ := he
    have ex : PySem.W.exmOne X.K (.ref (e.cls A)) (.ref A.C_CodeError) = some true := by
      cases e
      · exact T.exm_BadAddress_CodeError
      · exact T.exm_BadByte_CodeError
      · exact T.exm_UnlikeLengths_CodeError
    refine Vc.go_wX ex fun a H3 na e3 ha => ?_
    have hE := Vc.ErrAt.of ha e3 hd
    walk_at "go"
    exact ⟨a, e, rfl, hE, fun p H4 e4 hp => k p H4 (e3.ex e4) hp⟩
  · walk_at "go"
    intro p np
    generalize hu1 : upd _ p _ = H1
    obtain ⟨e1, hp⟩ := Vc.alloc hu1 np
    exact hv p H1 e1 hp

end My
namespace My
open PySem PySem.Spec PyProof.Rows L2
/-! ### bytes, names, forms, code sets -/
def LET : List Nat := [97, 98, 99, 100, 101, 102, 103, 104, 105, 106, 107, 108, 109, 110, 111, 112, 113, 114, 115, 116, 117, 118, 119, 120, 121, 122]
theorem letters_eq : ("abcdefghijklmnopqrstuvwxyz" : Str).cps.toList = LET := by decide +kernel
def spIsByte : Sp := fun vs H Q _ => ∃ n : Int, vs = [.int n] ∧ ∀ H', Vc.Ed [] H H' → Q (.bl (decide (0 ≤ n ∧ n ≤ 255))) H'
def spIsName : Sp := fun vs H Q _ => ∃ z : Str, vs = [.str z] ∧ 1 ≤ z.length ∧ z.length ≤ 8 ∧ (∀ c ∈ z.cps.toList, c ∈ LET) ∧ ∀ H', Vc.Ed [] H H' → Q (.bl true) H'
section
variable {P : Program} {w : World} {K : PySem.W.Frag} {mg : Str → Option Value} {base : Heap} {A : Ad}
theorem ok_is_byte (T : Txt K mg A) : FnOk P w K mg base CX0 1 A.f_is_byte A.d_is_byte ["value"] spIsByte := by
  refine T.F_is_byte.ok sc_is_byte (fun vs H Q E h => ?_) (fun cdv Ar outer s H vs Q E hr h => ?_)
  · obtain ⟨n, rfl, _⟩ := h
    rfl
  · obtain ⟨n, rfl, k⟩ := h
    refine ⟨_, (pss_one (ps_ret (pe_and (pe_callB call_isi (by rfl) T.n_isinstance (by decide +kernel) (pa_cons (pv 0) (pa_cons (pe_bltn (v := .ty "int") (by rfl) T.n_int (by decide +kernel) rfl) pa_nil))) (pe_and (pe_not (pe_callB call_isi (by rfl) T.n_isinstance (by decide +kernel) (pa_cons (pv 0) (pa_cons (pe_bltn (v := .ty "bool") (by rfl) T.n_bool (by decide +kernel) rfl) pa_nil)))) (pe_one (pe_chain op_le op_le pe_int (pv 0) pe_int)))))), ?_⟩
    walk_at "go"
    refine Vc.go_ite (fun h1 => ?_) (fun h1 => ?_)
    · walk_at "go"
      have e : decide (0 ≤ n ∧ n ≤ 255) = decide (n ≤ 255) := by rw [Bool.eq_iff_iff]; simp [h1]
      have := k H Vc.Ed.refl
      rw [e] at this
      exact this
    · have e : decide (0 ≤ n ∧ n ≤ 255) = false := decide_eq_false (by omega)
      have := k H Vc.Ed.refl
      rw [e] at this
      exact this
theorem ok_is_name (T : Txt K mg A) : FnOk P w K mg base CX0 1 A.f_is_name A.d_is_name ["value"] spIsName := by
  refine T.F_is_name.ok sc_is_name (fun vs H Q E h => ?_) (fun cdv Ar outer s H vs Q E hr h => ?_)
  · obtain ⟨n, rfl, _⟩ := h
    rfl
  · obtain ⟨z, rfl, z1, z2, zl, k⟩ := h
    obtain ⟨_, gc_LETTERS⟩ := T.g_LETTERS
    have lz : z.length ≤ 1000 := by omega
    refine ⟨_, (pss_one (ps_ret (pe_and (pe_callB call_isi (by rfl) T.n_isinstance (by decide +kernel) (pa_cons (pv 0) (pa_cons (pe_bltn (v := .ty "str") (by rfl) T.n_str (by decide +kernel) rfl) pa_nil))) (pe_and (pe_chain op_le op_le pe_int (pe_callB call_len_str (by rfl) T.n_len (by decide +kernel) (pa_cons (pv 0) pa_nil)) pe_int) (pe_one (pe_callB (cr_all rfl) (by rfl) T.n_all (by decide +kernel) (pa_cons (pe_lc (own := [("sign", 1)]) (g := gName 1) rfl sc_is_name.nd (pi_str (pv 0)) (blkOk_by (own := [("sign", 1)]) (N := ["value", "sign"]) (sc := defScope s_is_name) (by decide +kernel)) (fun _ _ _ _ _ => by exact (pg_name (i := 1) sc_is_name.nd rfl (Or.inl rfl))) (fun _ _ _ _ _ => by exact pts_nil) (fun _ _ _ _ _ => by (refine' Vc.blkE ?h ?q; (case h => exact (pe_cmpR op_in_sign (pv 1) (pe_glob (v := .str "abcdefghijklmnopqrstuvwxyz") (by rfl) gc_LETTERS ⟨_, rfl⟩) rfl)); (case q => first | exact rfl | (dsimp only; done) | (dsimp only; exact rfl))))) pa_nil))))))), ?_⟩
    walk_at "goo"
    refine Vc.lc_by walk_str (fun L i H' => Vc.Ed [] H H' ∧ H' L = some (.lst (List.replicate i (.bl true)))) (fun L H2 nL e hL => ⟨e, hL⟩) (fun _ _ _ _ _ _ => trivial) ?_ ?_
    · rintro L i x H1 H' nL hi ⟨e1, hL⟩ ⟨rfl, c, hc, rfl⟩
      have hcl : c ∈ z.cps.toList := by
        rw [Array.mem_toList_iff]
        exact Array.mem_of_getElem? hc
      walk_at "go"
      refine ⟨rfl, ?_⟩
      walk_at "go"
      refine ⟨_, hL, by rw [List.length_replicate]; exact small1000 (by have : z.cps.size = z.length := rfl; omega), ?_⟩
      rw [letters_eq, decide_eq_true (zl c hcl)]
      generalize hu : upd _ L _ = H2
      obtain ⟨e2, hL2⟩ := Vc.chg hu hL
      refine ⟨by walk_at "ed", ?_⟩
      rw [hL2, List.replicate_succ']
    · rintro L H' nL ⟨e1, hL⟩
      walk_at "go"
      refine ⟨L, List.replicate z.cps.size true, rfl, ?_, ?_⟩
      · rw [List.map_replicate]
        exact SqL.of hL
      · have : (List.replicate z.cps.size true).all id = true := by simp
        rw [this]
        exact k _ e1
end
theorem nodup_inl {l : List Int} (h : l.Nodup) : (l.map (fun b => (Sum.inl b : Key))).Nodup := by
  induction l with
  | nil => exact List.nodup_nil
  | cons a r ih =>
    rw [List.nodup_cons] at h
    rw [List.map_cons, List.nodup_cons]
    refine ⟨fun z => ?_, ih h.2⟩
    obtain ⟨b, hb, e⟩ := List.mem_map.mp z
    cases e
    exact h.1 hb
/-! ### a form -/
structure FD where
  byte : Int
  name : Str
  len : Int
  flow : Str
def Flow (x : Str) : Prop := x = "next" ∨ x = "jump" ∨ x = "test" ∨ x = "end"
structure FD.Ok (f : FD) : Prop where
  n1 : 1 ≤ f.name.length
  n8 : f.name.length ≤ 8
  nl : ∀ c ∈ f.name.cps.toList, c ∈ LET
  l1 : 1 ≤ f.len
  l4 : f.len ≤ 4
  fl : Flow f.flow
  two : f.flow = "jump" ∨ f.flow = "test" → 2 ≤ f.len
def formF (n : Str) (l : Int) (f : Str) : List (Str × V) := [("name", .str n), ("length", .int l), ("flow", .str f)]
def FormAt (A : Ad) (H : Hp) (p : Addr) (f : FD) : Prop := ∃ dx, H p = some (.ins A.C_Form dx (formF f.name f.len f.flow))
theorem form_name {n l f} : (formF n l f).lookup ("name" : Str) = some (.str n) := rfl
theorem form_length {n l f} : (formF n l f).lookup ("length" : Str) = some (.int l) := rfl
theorem form_flow {n l f} : (formF n l f).lookup ("flow" : Str) = some (.str f) := rfl
theorem form_put {n l f} : putF "flow" (.str f) (putF "length" (.int l) (putF "name" (.str n) [])) = formF n l f := rfl
theorem inV2 (x a b : Str) : inV (.str x) [.str a, .str b] = decide (x = a ∨ x = b) := by
  rw [Bool.eq_iff_iff, decide_eq_true_eq]
  show (List.any [V.str a, V.str b] fun y => eqV y (V.str x)) = true ↔ _
  simp only [List.any_cons, List.any_nil, Bool.or_false, Bool.or_eq_true, eqV, beq_iff_eq]
  constructor
  · rintro (e | e)
    · exact .inl e.symm
    · exact .inr e.symm
  · rintro (e | e)
    · exact .inl e.symm
    · exact .inr e.symm
def spForm (A : Ad) : Sp := fun vs H Q _ => ∃ (p dx : Addr) (f : FD), vs = [.ref p, .str f.name, .int f.len, .str f.flow] ∧ f.Ok ∧ H p = some (.ins A.C_Form dx []) ∧
  ∀ H', Vc.Ed [p] H H' → FormAt A H' p f → Q .non H'
section
variable {P : Program} {w : World} {K : PySem.W.Frag} {mg : Str → Option Value} {base : Heap} {A : Ad}
theorem ok_Formu_initu (T : Txt K mg A) : FnOk P w K mg base CX0 2 A.f_Formu_initu A.d_Formu_initu ["self", "name", "length", "flow"] (spForm A) := by
  have G_is_name := ok_is_name (P := P) (w := w) (base := base) T
  refine T.F_Formu_initu.ok sc_Formu_initu (fun vs H Q E h => ?_) (fun cdv Ar outer s H vs Q E hr h => ?_)
  · obtain ⟨p, dx, f, rfl, _⟩ := h
    rfl
  · obtain ⟨p, dx, f, rfl, ok, hp, k⟩ := h
    have cr := T.cr_Form
    have cv := T.cv_FLOWS
    have cl := T.cl_Form
    have no1 := T.no_Form_name
    have no2 := T.no_Form_length
    have no3 := T.no_Form_flow
    refine ⟨_, (pss_cons (ps_if (pt_not (pt_val (pe_call G_is_name (by exact hr.mono (by decide)) (by rfl) T.g_is_name T.F_is_name.kp T.b_is_name .nil pass0 (pa_cons (pv 1) pa_nil)))) (pss_one ps_never) pss_nil) (pss_cons (ps_set (i := 4) sc_Formu_initu.nd rfl (Or.inl rfl) (pe_op op_add pe_int (pe_callTy call_int1 (by rfl) T.n_int (by decide +kernel) (pa_cons (pe_cmpR op_in_seq (pv 3) (pe_tup (pa_cons pe_str (pa_cons pe_str pa_nil))) (by rfl)) pa_nil)))) (pss_cons (ps_if (PW.pt (pw_or (pt_not (pt_val (pe_callB call_isi (by rfl) T.n_isinstance (by decide +kernel) (pa_cons (pv 2) (pa_cons (pe_bltn (v := .ty "int") (by rfl) T.n_int (by decide +kernel) rfl) pa_nil))))) (pw_or (pt_val (pe_callB call_isi (by rfl) T.n_isinstance (by decide +kernel) (pa_cons (pv 2) (pa_cons (pe_bltn (v := .ty "bool") (by rfl) T.n_bool (by decide +kernel) rfl) pa_nil)))) (pw_or (pt_cmpR op_lt (pv 2) (pv 4) (nomark _)) (pw_or1 (pt_cmpR op_gt (pv 2) pe_int (nomark _))))))) (pss_one ps_never) pss_nil) (pss_cons (ps_if (pt_cmpR op_notIn_seq (pv 3) (ClX.pe_cval (pe_glob (v := .ref A.C_Form) (by rfl) T.g_Form rfl)) (by rfl)) (pss_one ps_never) pss_nil) (pss_cons (ps_fld (pv 0) (pv 1) rfl) (pss_cons (ps_fld (pv 0) (pv 2) rfl) (pss_one (ps_fld (pv 0) (pv 3) rfl)))))))), ?_⟩
    have qF := T.q_FLOWS
    walk_at "go"
    refine ⟨f.name, rfl, ok.n1, ok.n8, ok.nl, fun H1 e1 => ?_⟩
    walk_at "go"
    intro t nt
    generalize hu : upd _ t _ = H2
    obtain ⟨e2, ht⟩ := Vc.alloc hu nt
    walk_at "go"
    have hb : inV (.str f.flow) [.str "jump", .str "test"] = decide (f.flow = "jump" ∨ f.flow = "test") := inV2 _ _ _
    rw [hb]
    have lb : 1 + (if decide (f.flow = "jump" ∨ f.flow = "test") = true then (1 : Int) else 0) ≤ f.len := by
      split
      · next h => have := ok.two (of_decide_eq_true h); omega
      · have := ok.l1; omega
    generalize 1 + (if decide (f.flow = "jump" ∨ f.flow = "test") = true then (1 : Int) else 0) = m at lb
    have l4 := ok.l4
    walk_at "goo"
    have hf : inV (.str f.flow) [.str "next", .str "jump", .str "test", .str "end"] = true := by
      rcases ok.fl with e | e | e | e <;> rw [e] <;> decide
    rw [hf]
    walk_at "go"
    generalize hu3 : upd _ p _ = H3
    obtain ⟨e3, h3⟩ := Vc.chg hu3 (show H2 p = some (.ins A.C_Form dx []) by walk_at "hs")
    walk_at "go"
    generalize hu4 : upd _ p _ = H4
    obtain ⟨e4, h4⟩ := Vc.chg hu4 h3
    walk_at "go"
    generalize hu5 : upd _ p _ = H5
    obtain ⟨e5, h5⟩ := Vc.chg hu5 h4
    rw [form_put] at h5
    exact k H5 (by walk_at "ed") ⟨dx, h5⟩
end
/-! ### a code set -/
structure Valid (stop : Int) (fs : List FD) : Prop where
  n1 : 1 ≤ fs.length
  n16 : fs.length ≤ 16
  ok : ∀ f ∈ fs, f.Ok
  byt : ∀ f ∈ fs, 0 ≤ f.byte ∧ f.byte ≤ 255 ∧ f.byte ≠ stop
  ndb : (fs.map (·.byte)).Nodup
  ndn : (fs.map (·.name)).Nodup
  s0 : 0 ≤ stop
  s1 : stop ≤ 255
def kvsOf (items : List (FD × Addr)) : List (Key × V) := items.map fun p => (.inl p.1.byte, .ref p.2)
theorem kvsOf_len (items : List (FD × Addr)) : (kvsOf items).length = items.length := List.length_map _
theorem kvsOf_get {items : List (FD × Addr)} {i : Nat} {k : Key} {v : V} (h : (kvsOf items)[i]? = some (k, v)) : ∃ p, items[i]? = some p ∧ k = .inl p.1.byte ∧ v = .ref p.2 := by
  unfold kvsOf at h
  rw [List.getElem?_map] at h
  cases e : items[i]? with
  | none => rw [e] at h; cases h
  | some p => rw [e] at h; cases h; exact ⟨p, rfl, rfl, rfl⟩
/-- what a dict of different first bytes holds at one of them -/
theorem valV_mem {κ : Type} [DecidableEq κ] : ∀ {kvs : List (κ × V)} {k : κ} {v : V}, (kvs.map (·.1)).Nodup → (k, v) ∈ kvs → valV kvs k = some v
  | [], _, _, _, h => by cases h
  | (k', v') :: r, k, v, nd, h => by
    rw [List.map_cons, List.nodup_cons] at nd
    unfold valV
    rw [List.find?_cons]
    rcases List.mem_cons.mp h with e | h
    · cases e
      simp
    · have ne : k' ≠ k := fun e => nd.1 (by rw [e]; exact List.mem_map.mpr ⟨(k, v), h, rfl⟩)
      rw [decide_eq_false ne]
      exact valV_mem nd.2 h
theorem kvsOf_nd {items : List (FD × Addr)} (h : ((items.map (·.1)).map (·.byte)).Nodup) : ((kvsOf items).map (·.1)).Nodup := by
  have e : (kvsOf items).map (·.1) = ((items.map (·.1)).map (·.byte)).map (fun b => (Sum.inl b : Key)) := by
    unfold kvsOf
    simp [List.map_map, Function.comp_def]
  rw [e]
  exact nodup_inl h
theorem kvsOf_val {items : List (FD × Addr)} {p : FD × Addr} (h : ((items.map (·.1)).map (·.byte)).Nodup) (hp : p ∈ items) : valV (kvsOf items) (.inl p.1.byte) = some (.ref p.2) :=
  valV_mem (kvsOf_nd h) (List.mem_map.mpr ⟨p, hp, rfl⟩)
structure MadeAt (A : Ad) (H : Hp) (d : Addr) (items : List (FD × Addr)) : Prop where
  ob : H d = some (.dK (kvsOf items))
  fm : ∀ p ∈ items, FormAt A H p.2 p.1
theorem FormAt.ed {A : Ad} {H H' : Hp} {p : Addr} {f : FD} {S : List Addr} (h : FormAt A H p f) (e : Vc.Ed S H H') (n : p ∉ S) : FormAt A H' p f := by
  obtain ⟨dx, h⟩ := h
  exact ⟨dx, e.keep _ _ n h⟩
theorem FormAt.ed1 {A : Ad} {H H' : Hp} {p q : Addr} {f : FD} (h : FormAt A H p f) (e : Vc.Ed [q] H H') {o : HO} (hq : H q = some o) (k : ∀ C dx fs, o ≠ .ins C dx fs) : FormAt A H' p f := by
  obtain ⟨dx, h⟩ := h
  exact ⟨dx, e.at1 (ne_of h hq fun z => k _ _ _ z.symm) h⟩
theorem FormAt.ed0 {A : Ad} {H H' : Hp} {p : Addr} {f : FD} (e : Vc.Ed [] H H') (h : FormAt A H p f) : FormAt A H' p f := h.ed e (fun z => nomatch z)
def spCheck (A : Ad) : Sp := fun vs H Q _ => ∃ (d : Addr) (stop : Int) (items : List (FD × Addr)), vs = [.int stop, .ref d] ∧ MadeAt A H d items ∧ Valid stop (items.map (·.1)) ∧ ∀ H', Vc.Ed [] H H' → Q .non H'
section
variable {P : Program} {w : World} {K : PySem.W.Frag} {mg : Str → Option Value} {base : Heap} {A : Ad}
theorem ok_check_forms (T : Txt K mg A) : FnOk P w K mg base CX0 2 A.f_check_forms A.d_check_forms ["stop", "forms"] (spCheck A) := by
  have G_is_byte := ok_is_byte (P := P) (w := w) (base := base) T
  refine T.F_check_forms.ok sc_check_forms (fun vs H Q E h => ?_) (fun cdv Ar outer s H vs Q E hr h => ?_)
  · obtain ⟨d, stop, items, rfl, _⟩ := h
    rfl
  · obtain ⟨d, stop, items, rfl, M, Va, k⟩ := h
    have hu := hu_of hr
    have cr := T.cr_CodeSet
    obtain ⟨uM, cv⟩ := T.cv_MOST
    have cl := T.cl_Form
    have no1 := T.no_Form_name
    have hd := M.ob
    have v1 := Va.n1
    have v16 := Va.n16
    rw [List.length_map] at v1 v16
    have kl := kvsOf_len items
    refine ⟨_, (pss_cons (ps_if (PW.pt (pw_or (pt_cmpR op_lt (pe_callB call_lenD (by rfl) T.n_len (by decide +kernel) (pa_cons (pv 1) pa_nil)) pe_int (nomark _)) (pw_or1 (pt_cmpR op_gt (pe_callB call_lenD (by rfl) T.n_len (by decide +kernel) (pa_cons (pv 1) pa_nil)) (ClX.pe_cval (pe_glob (v := .ref A.C_CodeSet) (by rfl) T.g_CodeSet rfl)) (nomark _))))) (pss_one ps_never) pss_nil) (pss_cons (ps_lock (ps_setLc (i := 2) (own := [("byte", 3)]) (g := gName 3) rfl sc_check_forms.nd rfl rfl (sw_true rfl rfl rfl (by decide +kernel)) (pi_keys (pv 1)) (blkOk_by (own := [("byte", 3)]) (N := ["stop", "forms", "names", "byte"]) (sc := defScope s_check_forms) (by decide +kernel)) (fun _ _ _ _ _ => by exact (pg_name (i := 3) sc_check_forms.nd rfl (Or.inl rfl))) (fun _ _ _ _ _ => by exact pts_nil) (fun _ _ _ _ _ => by (refine' Vc.blkE ?h ?q; (case h => exact (pe_fld (pe_dget (by exact hu) (pv 1) (pv 3) (fun _ _ => rfl)) rfl)); (case q => first | exact rfl | (dsimp only; done) | (dsimp only; exact rfl)))))) (pss_cons (ps_if (pt_cmpR op_lt (Setn.pe_lenSetN rfl (by rfl) T.n_len (by rfl) T.n_set (pv 2)) (pe_callB call_len_seq (by rfl) T.n_len (by decide +kernel) (pa_cons (pv 2) pa_nil)) (nomark _)) (pss_one ps_never) pss_nil) (pss_one (ps_lock (ps_for PassesOwn.never rfl (pi_keys (pv 1)) (pg_name (i := 3) sc_check_forms.nd rfl (Or.inl rfl)) (pss_one (ps_if (PW.pt (pw_or (pt_not (pt_val (pe_call G_is_byte (by exact hr.mono (by decide)) (by rfl) T.g_is_byte T.F_is_byte.kp T.b_is_byte .nil pass0 (pa_cons (pv 3) pa_nil)))) (pw_or1 (pt_cmpR op_eq (pv 3) (pv 0) (nomark _))))) (pss_one ps_never) pss_nil)))))))), ?_⟩
    walk_at "goo"
    refine Vc.lockA_keys rfl hd [] (fun H1 L i H' => Vc.Ed [] H1 H' ∧ H' L = some (.lst ((items.take i).map fun p => .str p.1.name))) (fun _ _ _ _ h => h.1) (fun H1 od L H2 e1 h1 nL e2 hL => ⟨e2, hL⟩) ?_ ?_
    · rintro H1 od L i k' v H' e1 nL h1 hk ⟨e2, hL⟩
      obtain ⟨p, hp, rfl, rfl⟩ := kvsOf_get hk
      have hm := List.mem_of_getElem? hp
      have hi : i < items.length := (List.getElem?_eq_some_iff.mp hp).1
      have hv := kvsOf_val Va.ndb hm
      have hF := ((M.fm p hm).ed1 e1 hd (fun _ _ _ => by intro z; cases z)).ed e2 (fun z => nomatch z)
      obtain ⟨dx, hF⟩ := hF
      change gName 3 (V.int p.1.byte) _ _ _
      walk_at "go"
      refine ⟨rfl, ?_⟩
      walk_at "go"
      refine ⟨_, hL, by rw [List.length_map, List.length_take]; exact small1000 (by omega), ?_⟩
      generalize hu2 : upd _ L _ = H3
      obtain ⟨e3, hL3⟩ := Vc.chg hu2 hL
      refine ⟨e2.one e3 (.inr nL), ?_⟩
      rw [List.take_add_one, hp, List.map_append]
      exact hL3
    · rintro H1 L H' H2 nL ⟨e2, hL⟩ e hd2 k2
      have hLd : L ≠ d := fun z => by rw [z, hd] at nL; cases nL
      have hL2 := k2 L _ hLd hL
      have eq : List.map (fun p : FD × Addr => V.str p.1.name) (List.take (kvsOf items).length items) = ((items.map (·.1)).map (·.name)).map V.str := by
        rw [kvsOf_len, List.take_of_length_le (Nat.le_refl _)]
        simp [List.map_map, Function.comp_def]
      rw [eq] at hL2
      have hSq : SqL K H2 L (((items.map (·.1)).map (·.name)).map V.str) := .of hL2
      walk_at "go"
      refine Vc.go_lenSetC hSq (by rw [List.length_map, List.length_map]; omega) ?_
      rw [Setn.cn_nd Va.ndn]
      walk_at "go"
      simp only [List.length_map]
      walk_at "goo"
      refine Vc.lock_keys rfl hd2 [] (fun H1 i σ H' => ∃ y, σ = [some (.int stop), some (.ref d), some (.ref L), y] ∧ Vc.Ed [] H1 H') (fun _ _ _ _ h => h.choose_spec.2) (fun H1 od _ _ => ⟨none, rfl, .refl⟩) ?_ ?_
      · rintro H1 od i k' v σ' H' _ _ h1 hk ⟨y, rfl, e2⟩
        obtain ⟨p, hp, rfl, rfl⟩ := kvsOf_get hk
        have hm := List.mem_of_getElem? hp
        obtain ⟨b0, b1, b2⟩ := Va.byt p.1 (List.mem_map.mpr ⟨p, hm, rfl⟩)
        change gName 3 (V.int p.1.byte) _ _ _
        walk_at "go"
        refine ⟨p.1.byte, rfl, fun H4 e4 => ?_⟩
        rw [decide_eq_true ⟨b0, b1⟩]
        walk_at "goo"
        exact ⟨_, rfl, by walk_at "ed"⟩
      · rintro H1 σ' H' H3 _ ⟨y, rfl, e2⟩ e3 _ _
        exact k _ (by walk_at "ed")
end

end My
namespace My
open PySem PySem.Spec PyProof.Rows L2
/-! ### a code set as it stands: its stop, its order, its table; the forms ascending by their bytes -/
theorem kvs_some {its : List (FD × Addr)} {x : Int} (h : (valV (kvsOf its) (.inl x)).isSome = true) : ∃ p ∈ its, p.1.byte = x := by
  unfold valV at h
  rw [Option.isSome_map] at h
  obtain ⟨kv, e⟩ := Option.isSome_iff_exists.mp h
  have h1 := List.mem_of_find?_eq_some e
  have h2 := List.find?_some e
  have h2 : kv.1 = Sum.inl x := of_decide_eq_true h2
  obtain ⟨p, hp, rfl⟩ := List.mem_map.mp h1
  exact ⟨p, hp, Sum.inl.inj h2⟩
theorem kvsOf_put {its : List (FD × Addr)} {f : FD} {a : Addr} (h : valV (kvsOf its) (.inl f.byte) = none) : putK (kvsOf its) (.inl f.byte) (.ref a) = kvsOf (its ++ [(f, a)]) := by
  rw [putK_new _ h]
  unfold kvsOf
  rw [List.map_append]; rfl
theorem lift_perm {α β : Type} {f : α → β} : ∀ {l : List β} {items : List α}, l.Perm (items.map f) → ∃ sel : List α, sel.Perm items ∧ sel.map f = l
  | [], items, h => by
    have := h.length_eq
    rw [List.length_nil, List.length_map] at this
    exact ⟨[], by rw [List.eq_nil_of_length_eq_zero this.symm], rfl⟩
  | b :: l, items, h => by
    obtain ⟨a, ha, rfl⟩ := List.mem_map.mp ((h.mem_iff).mp List.mem_cons_self)
    obtain ⟨s, t, rfl⟩ := List.append_of_mem ha
    have h1 : (f a :: l).Perm (f a :: (s ++ t).map f) := h.trans ((List.perm_middle (a := a) (l₁ := s) (l₂ := t)).map f)
    obtain ⟨sel, p, e⟩ := lift_perm (h1.cons_inv)
    exact ⟨a :: sel, (p.cons a).trans List.perm_middle.symm, by rw [List.map_cons, e]⟩
def codesF (stop : Int) (o t : Addr) : List (Str × V) := [("stop", .int stop), ("order", .ref o), ("table", .ref t)]
theorem codes_put {s o t} : putF "table" (.ref t) (putF "order" (.ref o) (putF "stop" (.int s) [])) = codesF s o t := rfl
theorem codes_table {s o t} : (codesF s o t).lookup ("table" : Str) = some (.ref t) := rfl
theorem codes_order {s o t} : (codesF s o t).lookup ("order" : Str) = some (.ref o) := rfl
theorem codes_stop {s o t} : (codesF s o t).lookup ("stop" : Str) = some (.int s) := rfl
structure CodeO where
  c : Addr
  dx : Addr
  o : Addr
  t : Addr
  stop : Int
  items : List (FD × Addr)
def CodeO.fs (x : CodeO) : List FD := x.items.map (·.1)
structure CodeO.At (A : Ad) (H : Hp) (x : CodeO) : Prop where
  ob : H x.c = some (.ins A.C_CodeSet x.dx (codesF x.stop x.o x.t))
  od : H x.o = some (.lst ((x.items.map fun p => p.1.byte).map V.int))
  tb : H x.t = some (.dK (kvsOf x.items))
  fm : ∀ p ∈ x.items, FormAt A H p.2 p.1
theorem kvOOf_put {items : List (FD × Addr)} {p : FD × Addr} (h : valV (kvsOf items) (.inl p.1.byte) = none) : putK (kvsOf items) (.inl p.1.byte) (.ref p.2) = kvsOf (items ++ [p]) := kvsOf_put (f := p.1) (a := p.2) h
theorem kvO_some {its : List (FD × Addr)} {x : Int} (h : (valV (kvsOf its) (.inl x)).isSome = true) : ∃ p ∈ its, p.1.byte = x := kvs_some h
theorem kvO_none {its : List (FD × Addr)} {x : Int} (h : ∀ p ∈ its, p.1.byte ≠ x) : valV (kvsOf its) (.inl x) = none := by
  cases e : valV (kvsOf its) (.inl x) with
  | none => rfl
  | some v =>
    obtain ⟨p, hp, hx⟩ := kvO_some (its := its) (x := x) (by rw [e]; rfl)
    exact (h p hp hx).elim
theorem nd_take {its : List (FD × Addr)} {i : Nat} {p : FD × Addr} (nd : ((its.map (·.1)).map (·.byte)).Nodup) (hp : its[i]? = some p) : ∀ q ∈ its.take i, q.1.byte ≠ p.1.byte := by
  intro q hq e
  have h1 : (((its.take (i + 1)).map (·.1)).map (·.byte)).Nodup := nd.sublist (((List.take_sublist (i + 1) its).map _).map _)
  rw [List.take_add_one, hp, List.map_append, List.map_append, List.nodup_append] at h1
  exact h1.2.2 q.1.byte (List.mem_map.mpr ⟨q.1, List.mem_map.mpr ⟨q, hq, rfl⟩, rfl⟩) p.1.byte (by simp) e
theorem Valid.perm {s : Int} {fs gs : List FD} (h : Valid s fs) (p : gs.Perm fs) : Valid s gs :=
  ⟨by rw [p.length_eq]; exact h.n1, by rw [p.length_eq]; exact h.n16, fun f hf => h.ok f (p.mem_iff.mp hf), fun f hf => h.byt f (p.mem_iff.mp hf), (p.map _).nodup_iff.mpr h.ndb, (p.map _).nodup_iff.mpr h.ndn, h.s0, h.s1⟩
theorem CodeO.At.ed {A : Ad} {H H' : Hp} {x : CodeO} {S : List Addr} (h : x.At A H) (e : Vc.Ed S H H') (n1 : x.c ∉ S) (n2 : x.o ∉ S) (n3 : x.t ∉ S) (n4 : ∀ p ∈ x.items, p.2 ∉ S) : x.At A H' :=
  ⟨e.keep _ _ n1 h.ob, e.keep _ _ n2 h.od, e.keep _ _ n3 h.tb, fun p hp => (h.fm p hp).ed e (n4 p hp)⟩
theorem CodeO.At.ed0 {A : Ad} {H H' : Hp} {x : CodeO} (e : Vc.Ed [] H H') (h : x.At A H) : x.At A H' := h.ed e (fun z => nomatch z) (fun z => nomatch z) (fun z => nomatch z) (fun _ _ z => nomatch z)
/-- a change of what was not there -/
theorem CodeO.At.new {A : Ad} {H0 H H' : Hp} {x : CodeO} {q : Addr} (e : Vc.Ed [q] H H') (n : H0 q = none) (h0 : x.At A H0) (h : x.At A H) : x.At A H' := by
  refine h.ed e (fun z => ?_) (fun z => ?_) (fun z => ?_) fun p hp z => ?_
  · have := h0.ob; rw [List.mem_singleton.mp z, n] at this; cases this
  · have := h0.od; rw [List.mem_singleton.mp z, n] at this; cases this
  · have := h0.tb; rw [List.mem_singleton.mp z, n] at this; cases this
  · obtain ⟨d, h⟩ := h0.fm p hp; rw [List.mem_singleton.mp z, n] at h; cases h
def CodeO.Ok (x : CodeO) : Prop := Valid x.stop x.fs ∧ (x.fs.map (·.byte)).Pairwise (· ≤ ·)
def spCodes (A : Ad) : Sp := fun vs H Q _ => ∃ (p dx d : Addr) (stop : Int) (items : List (FD × Addr)), vs = [.ref p, .int stop, .ref d] ∧ MadeAt A H d items ∧ Valid stop (items.map (·.1)) ∧ H p = some (.ins A.C_CodeSet dx []) ∧
  ∀ (x : CodeO) (H' : Hp), x.c = p → x.stop = stop → x.items.Perm items → x.Ok → Vc.Ed [p] H H' → H x.t = none → H x.o = none → x.At A H' → Q .non H'
section
variable {P : Program} {w : World} {K : PySem.W.Frag} {mg : Str → Option Value} {base : Heap} {A : Ad}
theorem ok_CodeSetu_initu (T : Txt K mg A) : FnOk P w K mg base CX0 3 A.f_CodeSetu_initu A.d_CodeSetu_initu ["self", "stop", "forms"] (spCodes A) := by
  have G_is_byte := ok_is_byte (P := P) (w := w) (base := base) T
  have G_check_forms := ok_check_forms (P := P) (w := w) (base := base) T
  refine T.F_CodeSetu_initu.ok sc_CodeSetu_initu (fun vs H Q E h => ?_) (fun cdv Ar outer s H vs Q E hr h => ?_)
  · obtain ⟨p, dx, d, stop, items, rfl, _⟩ := h
    rfl
  · obtain ⟨p, dx, d, stop, items, rfl, M, Va, hp, k⟩ := h
    have hu := hu_of hr
    have cl := T.cl_CodeSet
    have no1 := T.no_CodeSet_stop
    have no2 := T.no_CodeSet_order
    have no3 := T.no_CodeSet_table
    have v16 := Va.n16
    rw [List.length_map] at v16
    refine ⟨_, (pss_cons (ps_if (pt_not (pt_val (pe_call G_is_byte (by exact hr.mono (by decide)) (by rfl) T.g_is_byte T.F_is_byte.kp T.b_is_byte .nil pass0 (pa_cons (pv 1) pa_nil)))) (pss_one ps_never) pss_nil) (pss_cons (ps_expr (pe_call G_check_forms (by exact hr.mono (by decide)) (by rfl) T.g_check_forms T.F_check_forms.kp T.b_check_forms .nil pass0 (pa_cons (pv 1) (pa_cons (pv 2) pa_nil)))) (pss_cons (ps_fld (pv 0) (pv 1) rfl) (pss_cons (ps_fld (pv 0) (pe_callB cr_sorted (by rfl) T.n_sorted (by decide +kernel) (pa_cons (pe_callTy (call_list_dK rfl) (by rfl) T.n_list (by decide +kernel) (pa_cons (pv 2) pa_nil)) pa_nil)) rfl) (pss_one (ps_fld (pv 0) (pe_dc (own := [("byte", 3)]) (g := gName 3) rfl sc_CodeSetu_initu.nd (pi_list (pe_fld (pv 0) rfl)) (blkOk_by (own := [("byte", 3)]) (N := ["self", "stop", "forms", "byte"]) (sc := defScope s_CodeSetu_initu) (by decide +kernel)) (fun _ _ _ _ _ => by exact (pg_name (i := 3) sc_CodeSetu_initu.nd rfl (Or.inl rfl))) (fun _ _ _ _ _ => by exact pts_nil) (fun _ _ _ _ _ => by (refine' Vc.blkE ?h ?q; (case h => exact (pv 3)); (case q => first | exact rfl | (dsimp only; done) | (dsimp only; exact rfl)))) (fun _ _ _ _ _ => by (refine' Vc.blkE ?h ?q; (case h => exact (pe_dget (by exact hu) (pv 2) (pv 3) (fun _ _ => rfl))); (case q => first | exact rfl | (dsimp only; done) | (dsimp only; exact rfl))))) rfl)))))), ?_⟩
    walk_at "go"
    refine ⟨stop, rfl, fun H1 e1 => ?_⟩
    rw [decide_eq_true ⟨Va.s0, Va.s1⟩]
    walk_at "go"
    refine ⟨d, stop, items, rfl, ⟨e1.at0 M.ob, fun q hq => (M.fm q hq).ed0 e1⟩, Va, fun H2 e2 => ?_⟩
    have hp2 : H2 p = some (.ins A.C_CodeSet dx []) := by walk_at "hs"
    walk_at "go"
    generalize hu3 : upd _ p _ = H3
    obtain ⟨e3, h3⟩ := Vc.chg hu3 hp2
    have hd3 : H3 d = some (.dK (kvsOf items)) := e3.at1 (ne_of M.ob hp (by intro z; cases z)) (by have := M.ob; walk_at "hs")
    walk_at "go"
    intro L nL
    generalize hu4 : upd _ L _ = H4
    obtain ⟨e4, hL⟩ := Vc.alloc hu4 nL
    have eq : (kvsOf items).map (fun kv => kV kv.1) = ((items.map (·.1)).map (·.byte)).map V.int := by
      unfold kvsOf
      simp only [List.map_map, Function.comp_def, kV]
    rw [eq] at hL
    walk_at "go"
    refine Vc.go_sorted (.of hL) (by rw [List.length_map, List.length_map]; omega) fun ns o perm srt no => ?_
    generalize hu5 : upd _ o _ = H5
    obtain ⟨e5, ho⟩ := Vc.alloc hu5 no
    have h3' : H5 p = some (.ins A.C_CodeSet dx (putF "stop" (.int stop) [])) := by walk_at "hs"
    walk_at "go"
    generalize hu6 : upd _ p _ = H6
    obtain ⟨e6, h6⟩ := Vc.chg hu6 h3'
    walk_at "go"
    have ho6 : H6 o = some (.lst (ns.map V.int)) := by walk_at "hs"
    have hd6 : H6 d = some (.dK (kvsOf items)) := by walk_at "hs"
    obtain ⟨sel, sp, se⟩ : ∃ sel : List (FD × Addr), sel.Perm items ∧ sel.map (fun p => p.1.byte) = ns := lift_perm (by rw [List.map_map] at perm; exact perm)
    have nl : ns.length = sel.length := by rw [← se, List.length_map]
    have sl : sel.length = items.length := sp.length_eq
    have Vs : Valid stop (sel.map (·.1)) := Va.perm (sp.map _)
    refine ⟨⟨_, .of ho6⟩, Vc.dc_by (walk_list (xs := ns.map V.int)) (fun t i H' => Vc.Ed [] H6 H' ∧ H' t = some (.dK (kvsOf (sel.take i)))) ?_ ?_ ?_ ?_⟩
    · intro t H7 nt e7 ht
      exact ⟨e7, ht⟩
    · rintro t i H' _ _ ⟨e7, _⟩
      exact .of (e7.at0 ho6)
    · rintro t i x H7 H8 nt hi ⟨e7, ht⟩ ⟨rfl, hx⟩
      rw [List.length_map, nl] at hi
      have hsel : sel[i]? = some sel[i] := List.getElem?_eq_getElem hi
      generalize sel[i] = q0 at hsel
      rw [← se, List.getElem?_map, List.getElem?_map, hsel] at hx
      cases hx
      have hq0 : q0 ∈ items := sp.mem_iff.mp (List.mem_of_getElem? hsel)
      have hv0 := kvsOf_val Va.ndb hq0
      walk_at "go"
      refine ⟨rfl, ?_⟩
      walk_at "go"
      refine ⟨_, .inl q0.1.byte, rfl, ht, small1000 (by rw [kvsOf_len, List.length_take]; omega), ?_⟩
      generalize hu8 : upd _ t _ = H9
      obtain ⟨e9, h9⟩ := Vc.chg hu8 ht
      refine ⟨e7.one e9 (.inr nt), ?_⟩
      rw [h9, kvOOf_put (kvO_none (nd_take Vs.ndb hsel)), List.take_add_one, hsel]; rfl
    · rintro t H7 nt ⟨e7, ht⟩
      rw [List.length_map, nl, List.take_of_length_le (Nat.le_refl _)] at ht
      have h7 : H7 p = _ := e7.at0 h6
      have nt0 : H t = none := by walk_at "free"
      have no0 : H o = none := by walk_at "free"
      walk_at "go"
      generalize hu8 : upd _ p _ = H8
      obtain ⟨e8, h8⟩ := Vc.chg hu8 h7
      rw [codes_put] at h8
      have ee : Vc.Ed [p] H H8 := by walk_at "ed"
      have ntp : t ≠ p := fun z => by rw [z, h6] at nt; cases nt
      have nop : o ≠ p := fun z => by have h4 : H4 p = _ := e4.at0 h3; rw [z, h4] at no; cases no
      have ho8 : H8 o = some (.lst (ns.map V.int)) := e8.at1 nop (e7.at0 ho6)
      rw [← se] at ho8
      refine k ⟨p, dx, o, t, stop, sel⟩ H8 rfl rfl sp ⟨Vs, ?_⟩ ee nt0 no0 ⟨h8, ho8, e8.at1 ntp ht, fun q hq => ?_⟩
      · show List.Pairwise _ (List.map _ (List.map _ sel))
        rw [List.map_map]
        rw [← se] at srt
        exact srt
      · obtain ⟨dq, hF⟩ := M.fm q (sp.mem_iff.mp hq)
        exact ⟨dq, ee.at1 (ne_of hF hp (by intro z; injection z with _ _ z; cases z)) hF⟩
end

end My
namespace My
open PySem PySem.Spec PyProof.Rows L2
/-! ### images: made of bytes, walked by a list's iterator, asked for their length -/
def imgF (l : Addr) : List (Str × V) := [("cells", .ref l)]
theorem img_cells {l : Addr} : (imgF l).lookup ("cells" : Str) = some (.ref l) := rfl
structure ImgAt (A : Ad) (H : Hp) (p l : Addr) (vals : List Int) : Prop where
  ob : ∃ dx, H p = some (.ins A.C_Image dx (imgF l))
  ls : H l = some (.lst (vals.map V.int))
theorem ImgAt.ed {A : Ad} {H H' : Hp} {p l : Addr} {vals : List Int} {S : List Addr} (h : ImgAt A H p l vals) (e : Vc.Ed S H H') (n1 : p ∉ S) (n2 : l ∉ S) : ImgAt A H' p l vals := by
  obtain ⟨⟨dx, h1⟩, h2⟩ := h
  exact ⟨⟨dx, e.keep _ _ n1 h1⟩, e.keep _ _ n2 h2⟩
theorem ImgAt.ed0 {A : Ad} {H H' : Hp} {p l : Addr} {vals : List Int} (e : Vc.Ed [] H H') (h : ImgAt A H p l vals) : ImgAt A H' p l vals := h.ed e (fun z => nomatch z) (fun z => nomatch z)
def spImgLen (A : Ad) : Sp := fun vs H Q _ => ∃ (p l : Addr) (vals : List Int), vs = [.ref p] ∧ ImgAt A H p l vals ∧ Q (.int vals.length) H
def spImgIter (A : Ad) : Sp := fun vs H Q _ => ∃ (p l : Addr) (vals : List Int), vs = [.ref p] ∧ ImgAt A H p l vals ∧ ∀ it, H it = none → Q (.ref it) (upd H it (ItO l it 0))
section
variable {P : Program} {w : World} {K : PySem.W.Frag} {mg : Str → Option Value} {base : Heap} {A : Ad}
theorem ok_Imageu_lenu (T : Txt K mg A) : FnOk P w K mg base CX0 1 A.f_Imageu_lenu A.d_Imageu_lenu ["self"] (spImgLen A) := by
  refine T.F_Imageu_lenu.ok sc_Imageu_lenu (fun vs H Q E h => ?_) (fun cdv Ar outer s H vs Q E hr h => ?_)
  · obtain ⟨p, l, vals, rfl, _⟩ := h
    rfl
  · obtain ⟨p, l, vals, rfl, X, k⟩ := h
    have cl := T.cl_Image
    have no1 := T.no_Image_cells
    obtain ⟨⟨dx, hx⟩, ho⟩ := X
    have l1 := img_cells (l := l)
    refine ⟨_, (pss_one (ps_ret (pe_callB call_len_seq (by rfl) T.n_len (by decide +kernel) (pa_cons (pe_fld (pv 0) rfl) pa_nil)))), ?_⟩
    walk_at "go"
    rw [List.length_map]
    exact k
theorem ok_Imageu_iteru (T : Txt K mg A) : FnOk P w K mg base CX0 1 A.f_Imageu_iteru A.d_Imageu_iteru ["self"] (spImgIter A) := by
  refine T.F_Imageu_iteru.ok sc_Imageu_iteru (fun vs H Q E h => ?_) (fun cdv Ar outer s H vs Q E hr h => ?_)
  · obtain ⟨p, l, vals, rfl, _⟩ := h
    rfl
  · obtain ⟨p, l, vals, rfl, X, k⟩ := h
    have cl := T.cl_Image
    have no1 := T.no_Image_cells
    obtain ⟨⟨dx, hx⟩, ho⟩ := X
    have l1 := img_cells (l := l)
    refine ⟨_, (pss_one (ps_ret (pe_callB call_iterL (by rfl) T.n_iter (by decide +kernel) (pa_cons (pe_fld (pv 0) rfl) pa_nil)))), ?_⟩
    walk_at "go"
    exact ⟨l, _, rfl, .of ho, fun it nit => k it nit⟩
/-- an image read by list(..) -/
theorem img_run {H : Hp} {p l q : Addr} {vals : List Int} (X : ImgAt A H p l vals) (l1000 : vals.length ≤ 1000) (hq : l ≠ q) : Vc.LiRun K (spImgIter A) (spImgLen A) p q (vals.map V.int) H fun _ => True := by
  refine ⟨p, l, vals, rfl, X, fun it nit => ⟨l, it, rfl, .new nit, nit, upd_same, .of ?_, hq, ne_of_none X.ls nit, ?_⟩⟩
  · rw [upd_ne (ne_of_none X.ls nit)]; exact X.ls
  · exact ⟨p, l, vals, rfl, X.ed0 (.new nit), _, rfl, by omega, by omega, .refl, trivial⟩
end

end My
namespace My
open PySem PySem.Spec PyProof.Rows L2
/-! ### what is handed as values of a rewrite: a list, a tuple, an image -/
def Given (A : Ad) (K : PySem.W.Frag) (H : Hp) (h : Addr) (vals : List Int) : Prop := SqL K H h (vals.map V.int) ∨ SqT K H h (vals.map V.int) ∨ ∃ l, ImgAt A H h l vals
theorem Given.ed0 {A : Ad} {K : PySem.W.Frag} {H H' : Hp} {h : Addr} {vals : List Int} (e : Vc.Ed [] H H') (X : Given A K H h vals) : Given A K H' h vals := by
  rcases X with X | X | ⟨l, X⟩
  · exact .inl (e.sql0 X)
  · exact .inr (.inl (e.sqt X))
  · exact .inr (.inr ⟨l, X.ed0 e⟩)
/-- the new instance gets its fields -/
theorem Given.ins {A : Ad} {K : PySem.W.Frag} {H H' : Hp} {h p C dx : Addr} {vals : List Int} (hp : H p = some (.ins C dx [])) (e : Vc.Ed [p] H H') (X : Given A K H h vals) : Given A K H' h vals := by
  rcases X with X | X | ⟨l, X⟩
  · exact .inl (e.sqlk hp (fun ys z => by cases z) X)
  · exact .inr (.inl (e.sqt X))
  · refine .inr (.inr ⟨l, X.ed e (fun z => ?_) (fun z => ?_)⟩)
    · obtain ⟨dy, h1⟩ := X.ob
      rw [List.mem_singleton.mp z, hp] at h1; cases h1
    · have := X.ls
      rw [List.mem_singleton.mp z, hp] at this; cases this
theorem given_any {A : Ad} {K : PySem.W.Frag} {H : Hp} {Q : VK} {h : Addr} {vals : List Int} (X : Given A K H h vals) (l1 : vals.length ≤ 1000) (k : ∀ L H', H L = none → Vc.Ed [] H H' → H' L = some (.lst (vals.map V.int)) → Q (.ref L) H') :
    Vc.rLstOf K [.ref h] H Q ∨ Vc.rListLi K A.C_Image (spImgIter A) (spImgLen A) [.ref h] H Q := by
  rcases X with X | X | ⟨l, X⟩
  · exact .inl (Vc.go_lstD X fun L nL => k L _ nL (.new nL) upd_same)
  · exact .inl (Vc.go_lstDT X fun L nL => k L _ nL (.new nL) upd_same)
  · obtain ⟨dy, h1⟩ := X.ob
    exact .inr ⟨h, dy, imgF l, _, rfl, h1, by rw [List.length_map]; exact l1, fun q H1 nq e => img_run (X.ed0 e) l1 (ne_of_none X.ls nq), k⟩

end My
namespace My
open PySem PySem.Spec PyProof.Rows L2
/-! ### an address or a pair of an image, read; a byte put; a patch in an image -/
/-- what an index is: an address, or a pair of ends -/
inductive SpanArg (H : Hp) : V → Bool → Int → Int → Prop where
  | one (a : Int) : SpanArg H (.int a) true a (a + 1)
  | two (t : Addr) (lo hi : Int) (h : H t = some (.tup [.int lo, .int hi])) : SpanArg H (.ref t) false lo hi
theorem SpanArg.ed {S : List Addr} {H H' : Hp} {v : V} {o : Bool} {lo hi : Int} (e : Vc.Ed S H H') (h : SpanArg H v o lo hi) : SpanArg H' v o lo hi := by
  cases h with
  | one a => exact .one lo
  | two t lo hi h => exact .two t lo hi (e.tup _ _ h)
/-- the address that is none -/
def spanErr (o : Bool) (lo hi size : Int) : Option Int := if o = true then (if lo < 0 ∨ lo ≥ size then some lo else none) else if lo < 0 ∨ lo > size then some lo else if hi < lo ∨ hi > size then some hi else none
theorem spanErr_ok {o : Bool} {lo hi size : Int} {H : Hp} {v : V} (a : SpanArg H v o lo hi) (h : spanErr o lo hi size = none) : 0 ≤ lo ∧ lo ≤ hi ∧ hi ≤ size ∧ (o = true → lo < size) := by
  unfold spanErr at h
  cases a with
  | one a =>
    rw [if_pos rfl] at h
    split at h
    · cases h
    · exact ⟨by omega, by omega, by omega, fun _ => by omega⟩
  | two t lo hi ht =>
    rw [if_neg (by decide)] at h
    split at h
    · cases h
    · split at h
      · cases h
      · exact ⟨by omega, by omega, by omega, fun z => (nomatch z)⟩
def spSpan {A_BA : Addr} : Sp := fun vs H Q E => ∃ (v : V) (o : Bool) (lo hi size : Int), vs = [v, .int size] ∧ SpanArg H v o lo hi ∧
  (∀ a dd H', spanErr o lo hi size = some a → Vc.Ed [] H H' → H' dd = some (.xd [("at", .int a)]) → E (.ref A_BA) (some dd) H') ∧ (spanErr o lo hi size = none → ∀ t H', Vc.Ed [] H H' → H' t = some (.tup [.int lo, .int hi]) → Q (.ref t) H')
def spImgGet (A : Ad) : Sp := fun vs H Q E => ∃ (p l : Addr) (vals : List Int) (v : V) (o : Bool) (lo hi : Int), vs = [.ref p, v] ∧ ImgAt A H p l vals ∧ vals.length ≤ 1000 ∧ SpanArg H v o lo hi ∧
  (∀ a dd H', spanErr o lo hi vals.length = some a → Vc.Ed [] H H' → H' dd = some (.xd [("at", .int a)]) → E (.ref A.C_BadAddress) (some dd) H') ∧
  (spanErr o lo hi vals.length = none → (o = true → ∀ H', Vc.Ed [] H H' → Q (.int (vals.getD lo.toNat 0)) H') ∧ (o = false → ∀ L H', Vc.Ed [] H H' → H L = none → H' L = some (.lst (((vals.drop lo.toNat).take (hi.toNat - lo.toNat)).map V.int)) → Q (.ref L) H'))
theorem findIdx_at {α : Type} {f : α → Bool} : ∀ {xs : List α} {i : Nat} {x : α}, xs[i]? = some x → (∀ y ∈ xs.take i, f y = false) → f x = true → xs.findIdx? f = some i
  | [], _, _, h, _, _ => nomatch h
  | a :: xs, 0, x, h, _, hx => by
    have : a = x := Option.some.inj h
    subst this
    rw [List.findIdx?_cons, hx]; rfl
  | a :: xs, i + 1, x, h, hall, hx => by
    have ha : f a = false := hall a List.mem_cons_self
    rw [List.findIdx?_cons, ha, findIdx_at (xs := xs) (i := i) (by simpa using h) (fun y hy => hall y (by rw [List.take_succ_cons]; exact List.mem_cons_of_mem _ hy)) hx]; rfl
theorem findIdx_none {α : Type} {f : α → Bool} {xs : List α} (h : ∀ y ∈ xs, f y = false) : xs.findIdx? f = none :=
  List.findIdx?_eq_none_iff.mpr h
/-- the first place whose value is no byte -/
def badAt (vals : List Int) : Option Nat := vals.findIdx? fun x => !decide (0 ≤ x ∧ x ≤ 255)
theorem badAt_none {vals : List Int} (h : badAt vals = none) : ∀ x ∈ vals, 0 ≤ x ∧ x ≤ 255 := fun x hx => by
  have := List.findIdx?_eq_none_iff.mp h x hx
  exact of_decide_eq_true (by simpa using this)
theorem badAt_of {vals : List Int} (h : ∀ x ∈ vals, 0 ≤ x ∧ x ≤ 255) : badAt vals = none := List.findIdx?_eq_none_iff.mpr fun x hx => by rw [decide_eq_true (h x hx)]; rfl
def spCheckB (A : Ad) (K : PySem.W.Frag) : Sp := fun vs H Q E => ∃ (l : Addr) (vals : List Int), vs = [.ref l] ∧ SqL K H l (vals.map V.int) ∧
  (∀ i dd H', badAt vals = some i → Vc.Ed [] H H' → H' dd = some (.xd [("at", .int (i : Nat))]) → E (.ref A.C_BadByte) (some dd) H') ∧ (badAt vals = none → ∀ H', Vc.Ed [] H H' → Q .non H')
def spImgInit (A : Ad) (K : PySem.W.Frag) : Sp := fun vs H Q E => ∃ (p dx h : Addr) (vals : List Int), vs = [.ref p, .ref h] ∧ H p = some (.ins A.C_Image dx []) ∧ Given A K H h vals ∧ vals.length ≤ 1000 ∧
  (∀ i dd H', badAt vals = some i → Vc.Ed [] H H' → H' dd = some (.xd [("at", .int (i : Nat))]) → E (.ref A.C_BadByte) (some dd) H') ∧ (badAt vals = none → ∀ l H', Vc.Ed [p] H H' → H l = none → ImgAt A H' p l vals → Q .non H')
def spImgEq (A : Ad) (K : PySem.W.Frag) : Sp := fun vs H Q _ => ∃ (p l : Addr) (vals : List Int) (v : V), vs = [.ref p, v] ∧ ImgAt A H p l vals ∧
  ((∃ q m ws, v = .ref q ∧ ImgAt A H q m ws ∧ Q (.bl (decide (vals = ws))) H) ∨ (∃ t, TyX K H v t ∧ PySem.W.kitOne K t (.ref A.C_Image) = some false ∧ Q (.bl false) H))
/-- what is raised where a byte, or a row of them, is put -/
def putErr1 (size at_ b : Int) : Option WErr := if at_ < 0 ∨ at_ ≥ size then some (.addr at_) else if 0 ≤ b ∧ b ≤ 255 then none else some (.byte at_)
def putErr2 (size lo hi : Int) (ws : List Int) : Option WErr := match spanErr false lo hi size with
  | some a => some (.addr a)
  | none => if (ws.length : Int) ≠ hi - lo then some (.len (hi - lo) ws.length) else match badAt ws with
    | some i => some (.byte (i : Nat))
    | none => none
inductive Put (A : Ad) (K : PySem.W.Frag) (H : Hp) (vals : List Int) : V → V → Option WErr → List Int → Prop where
  | one (a b : Int) : Put A K H vals (.int a) (.int b) (putErr1 vals.length a b) (vals.set a.toNat b)
  | two (t h : Addr) (lo hi : Int) (ws : List Int) (ht : H t = some (.tup [.int lo, .int hi])) (G : Given A K H h ws) (wl : ws.length ≤ 100) : Put A K H vals (.ref t) (.ref h) (putErr2 vals.length lo hi ws) (vals.take lo.toNat ++ ws ++ vals.drop hi.toNat)
def spImgSet (A : Ad) (K : PySem.W.Frag) : Sp := fun vs H Q E => ∃ (p l : Addr) (vals : List Int) (v x : V) (err : Option WErr) (new : List Int), vs = [.ref p, v, x] ∧ ImgAt A H p l vals ∧ vals.length ≤ 100 ∧ Put A K H vals v x err new ∧
  (∀ e dd H', err = some e → Vc.Ed [] H H' → H' dd = some (.xd e.fld) → E (.ref (e.cls A)) (some dd) H') ∧ (err = none → ∀ H', Vc.Ed [l] H H' → ImgAt A H' p l new → Q .non H')
theorem cut_int (xs : List Int) (lo hi : Int) (h0 : 0 ≤ lo) (h1 : 0 ≤ hi) : cutV (xs.map V.int) (some lo) (some hi) = ((xs.drop lo.toNat).take (hi.toNat - lo.toNat)).map V.int := by
  obtain ⟨j, rfl⟩ : ∃ j : Nat, lo = (j : Int) := ⟨lo.toNat, by omega⟩
  obtain ⟨k, rfl⟩ : ∃ k : Nat, hi = (k : Int) := ⟨hi.toNat, by omega⟩
  rw [Vc.cut_mid, List.map_take, List.map_drop, Int.toNat_natCast, Int.toNat_natCast]
section
variable {P : Program} {w : World} {K : PySem.W.Frag} {mg : Str → Option Value} {base : Heap} {A : Ad}
theorem ok_span_of (T : Txt K mg A) : FnOk PG w K mg base (CX PG w) 3 A.f_span_of A.d_span_of ["at", "size"] (spSpan (A_BA := A.C_BadAddress)) := by
  have G_BadAddressu_initu := ok_BadAddressu_initu (w := w) (base := base) T
  refine T.F_span_of.okX sc_span_of (fun vs H Q E h => ?_) (fun cdv Ar outer s H vs Q E hr h => ?_)
  · obtain ⟨v, o, lo, hi, z, rfl, _⟩ := h
    rfl
  · obtain ⟨v, o, lo, hi, size, rfl, sa, kE, kQ⟩ := h
    refine ⟨_, (pss_cons (ps_if (pt_not (pt_val (pe_callB call_isi (by rfl) T.n_isinstance (by decide +kernel) (pa_cons (pv 0) (pa_cons (pe_bltn (v := .ty "tuple") (by rfl) T.n_tuple (by decide +kernel) rfl) pa_nil))))) (pss_cons (ps_if (PW.pt (pw_or (pt_cmpR op_lt (pv 0) pe_int (nomark _)) (pw_or1 (pt_cmpR op_ge (pv 0) (pv 1) (nomark _))))) (pss_one (Vc.ps_raiseT rfl (takes_of rfl rfl rfl rfl) (pmk_oex T.ox_BadAddress T.i_BadAddress T.ti_BadAddress G_BadAddressu_initu (by exact hr.mono (by decide)) T.b_BadAddressu_initu .nil pass0 (by rfl) T.g_BadAddress (pa_cons (pv 0) pa_nil)))) pss_nil) (pss_one (ps_ret (pe_tup (pa_cons (pv 0) (pa_cons (pe_op op_add (pv 0) pe_int) pa_nil)))))) pss_nil) (pss_cons (ps_asg (pv 0) (pg_tup rfl (pgs_cons (pg_name (i := 2) sc_span_of.nd rfl (Or.inl rfl)) (pgs_cons (pg_name (i := 3) sc_span_of.nd rfl (Or.inl rfl)) pgs_nil)))) (pss_cons (ps_if (PW.pt (pw_or (pt_cmpR op_lt (pv 2) pe_int (nomark _)) (pw_or1 (pt_cmpR op_gt (pv 2) (pv 1) (nomark _))))) (pss_one (Vc.ps_raiseT rfl (takes_of rfl rfl rfl rfl) (pmk_oex T.ox_BadAddress T.i_BadAddress T.ti_BadAddress G_BadAddressu_initu (by exact hr.mono (by decide)) T.b_BadAddressu_initu .nil pass0 (by rfl) T.g_BadAddress (pa_cons (pv 2) pa_nil)))) pss_nil) (pss_cons (ps_if (PW.pt (pw_or (pt_cmpR op_lt (pv 3) (pv 2) (nomark _)) (pw_or1 (pt_cmpR op_gt (pv 3) (pv 1) (nomark _))))) (pss_one (Vc.ps_raiseT rfl (takes_of rfl rfl rfl rfl) (pmk_oex T.ox_BadAddress T.i_BadAddress T.ti_BadAddress G_BadAddressu_initu (by exact hr.mono (by decide)) T.b_BadAddressu_initu .nil pass0 (by rfl) T.g_BadAddress (pa_cons (pv 3) pa_nil)))) pss_nil) (pss_one (ps_ret (pe_tup (pa_cons (pv 2) (pa_cons (pv 3) pa_nil))))))))), ?_⟩
    unfold spanErr at kE kQ
    cases sa with
    | one a =>
      rw [if_pos rfl] at kE kQ
      have bad : (lo < 0 ∨ lo ≥ size) → ∀ dd H', Vc.Ed [] H H' → H' dd = some (.xd [("at", .int lo)]) → E (.ref A.C_BadAddress) (some dd) H' := fun c dd H' e h => kE lo dd H' (if_pos c) e h
      have ok : ¬ (lo < 0 ∨ lo ≥ size) → ∀ t H', Vc.Ed [] H H' → H' t = some (.tup [.int lo, .int (lo + 1)]) → Q (.ref t) H' := fun c => kQ (if_neg c)
      walk_at "go"
      refine Vc.go_ite (fun g1 => ?_) (fun g1 => ?_)
      · walk_at "go"
        intro dd H1 _ e1 hdd
        exact bad (.inl g1) dd H1 e1 hdd
      · walk_at "go"
        refine Vc.go_ite (fun g2 => ?_) (fun g2 => ?_)
        · walk_at "go"
          intro dd H1 _ e1 hdd
          exact bad (.inr g2) dd H1 e1 hdd
        · walk_at "go"
          intro t nt
          generalize hu : upd _ t _ = H1
          obtain ⟨e1, ht⟩ := Vc.alloc hu nt
          walk_at "go"
          exact ok (fun z => z.elim g1 g2) t H1 e1 ht
    | two t lo hi ht =>
      rw [if_neg (by decide)] at kE kQ
      walk_at "go"
      refine ⟨t, _, rfl, .of ht, rfl, _, _, rfl, ?_⟩
      walk_at "go"
      refine ⟨_, _, rfl, ?_⟩
      walk_at "go"
      refine ⟨rfl, ?_⟩
      walk_at "go"
      have bad1 : (lo < 0 ∨ lo > size) → ∀ dd H', Vc.Ed [] H H' → H' dd = some (.xd [("at", .int lo)]) → E (.ref A.C_BadAddress) (some dd) H' := fun c dd H' e h => kE lo dd H' (if_pos c) e h
      have bad2 : ¬ (lo < 0 ∨ lo > size) → (hi < lo ∨ hi > size) → ∀ dd H', Vc.Ed [] H H' → H' dd = some (.xd [("at", .int hi)]) → E (.ref A.C_BadAddress) (some dd) H' := fun c1 c dd H' e h => kE hi dd H' (by rw [if_neg c1, if_pos c]) e h
      have ok : ¬ (lo < 0 ∨ lo > size) → ¬ (hi < lo ∨ hi > size) → ∀ t H', Vc.Ed [] H H' → H' t = some (.tup [.int lo, .int hi]) → Q (.ref t) H' := fun c1 c2 => kQ (by rw [if_neg c1, if_neg c2])
      clear kE kQ
      have second : ¬ (lo < 0 ∨ lo > size) → (hi < lo ∨ hi > size) ∨ ¬ (hi < lo ∨ hi > size) := fun _ => Decidable.em _
      refine Vc.go_ite (fun g1 => ?_) (fun g1 => ?_)
      · walk_at "go"
        intro dd H1 _ e1 hdd
        exact bad1 (.inl g1) dd H1 e1 hdd
      · walk_at "go"
        refine Vc.go_ite (fun g2 => ?_) (fun g2 => ?_)
        · walk_at "go"
          intro dd H1 _ e1 hdd
          exact bad1 (.inr g2) dd H1 e1 hdd
        · have n1 : ¬ (lo < 0 ∨ lo > size) := fun z => z.elim g1 g2
          walk_at "go"
          refine Vc.go_ite (fun g3 => ?_) (fun g3 => ?_)
          · walk_at "go"
            intro dd H1 _ e1 hdd
            exact bad2 n1 (.inl g3) dd H1 e1 hdd
          · walk_at "go"
            refine Vc.go_ite (fun g4 => ?_) (fun g4 => ?_)
            · walk_at "go"
              intro dd H1 _ e1 hdd
              exact bad2 n1 (.inr g4) dd H1 e1 hdd
            · walk_at "go"
              intro t2 nt
              generalize hu : upd _ t2 _ = H1
              obtain ⟨e1, ht⟩ := Vc.alloc hu nt
              walk_at "go"
              exact ok n1 (fun z => z.elim g3 g4) t2 H1 e1 ht
theorem ok_Imageu_getitemu (T : Txt K mg A) : FnOk PG w K mg base (CX PG w) 4 A.f_Imageu_getitemu A.d_Imageu_getitemu ["self", "at"] (spImgGet A) := by
  have G_span_of := ok_span_of (w := w) (base := base) T
  refine T.F_Imageu_getitemu.okX sc_Imageu_getitemu (fun vs H Q E h => ?_) (fun cdv Ar outer s H vs Q E hr h => ?_)
  · obtain ⟨p, l, vals, v, o, lo, hi, rfl, _⟩ := h
    rfl
  · obtain ⟨p, l, vals, v, o, lo, hi, rfl, X, vl, sa, kE, kQ⟩ := h
    have cl := T.cl_Image
    have no1 := T.no_Image_cells
    obtain ⟨⟨dx, hx⟩, ho⟩ := X
    have l1 := img_cells (l := l)
    refine ⟨_, (pss_cons (ps_asg (pe_callS G_span_of (by exact hr.mono (by decide)) (by rfl) T.g_span_of T.F_span_of.kp T.b_span_of (fun σ => passAt (takes_of rfl rfl rfl rfl) σ) (pa_cons (pv 1) (pa_cons (pe_callB call_len_seq (by rfl) T.n_len (by decide +kernel) (pa_cons (pe_fld (pv 0) rfl) pa_nil)) pa_nil))) (pg_tup rfl (pgs_cons (pg_name (i := 2) sc_Imageu_getitemu.nd rfl (Or.inl rfl)) (pgs_cons (pg_name (i := 3) sc_Imageu_getitemu.nd rfl (Or.inl rfl)) pgs_nil)))) (pss_cons (ps_if (pt_val (pe_callB call_isi (by rfl) T.n_isinstance (by decide +kernel) (pa_cons (pv 1) (pa_cons (pe_bltn (v := .ty "tuple") (by rfl) T.n_tuple (by decide +kernel) rfl) pa_nil)))) (pss_one (ps_ret (pe_slice sl_list (pe_fld (pv 0) rfl) (po_some (pv 2)) (po_some (pv 3))))) pss_nil) (pss_one (ps_ret (pe_ix ix_list (pe_fld (pv 0) rfl) (pv 2) (fun _ _ => rfl)))))), ?_⟩
    walk_at "go"
    rw [List.length_map]
    refine ⟨v, o, lo, hi, _, rfl, sa, kE, fun no t H1 e1 ht => ?_⟩
    obtain ⟨k1, k2⟩ := kQ no
    obtain ⟨b1, b2, b3, b4⟩ := spanErr_ok sa no
    have hx1 := e1.at0 hx
    have ho1 := e1.at0 ho
    have sa1 := sa.ed e1
    walk_at "go"
    refine ⟨t, _, rfl, .of ht, rfl, _, _, rfl, ?_⟩
    walk_at "go"
    refine ⟨_, _, rfl, ?_⟩
    walk_at "go"
    refine ⟨rfl, ?_⟩
    cases sa1 with
    | one a =>
      have al := b4 rfl
      have g : atI (vals.map V.int) lo = some (.int (vals.getD lo.toNat 0)) := at_of (z := lo) (j := lo.toNat) (by omega) (by rw [List.getElem?_map, List.getElem?_eq_getElem (by omega), List.getD_eq_getElem?_getD, List.getElem?_eq_getElem (by omega)]; rfl)
      walk_at "go"
      exact k1 rfl H1 e1
    | two t2 lo hi ht2 =>
      walk_at "go"
      intro q nq
      generalize hu : upd _ q _ = H2
      obtain ⟨e2, hq⟩ := Vc.alloc hu nq
      rw [cut_int vals lo hi b1 (by omega)] at hq
      walk_at "go"
      exact k2 rfl q H2 (e1.ex e2) (e1.dom _ nq) hq
theorem ok_check_bytes (T : Txt K mg A) : FnOk PG w K mg base (CX PG w) 3 A.f_check_bytes A.d_check_bytes ["values"] (spCheckB A K) := by
  have G_is_byte := ok_is_byte (P := PG) (w := w) (base := base) T
  have G_BadByteu_initu := ok_BadByteu_initu (w := w) (base := base) T
  refine T.F_check_bytes.okX sc_check_bytes (fun vs H Q E h => ?_) (fun cdv Ar outer s H vs Q E hr h => ?_)
  · obtain ⟨l, vals, rfl, _⟩ := h
    rfl
  · obtain ⟨l, vals, rfl, hl, kE, kQ⟩ := h
    refine ⟨_, (pss_one (ps_for (passes_of rfl) rfl (pi_enum (by rfl) T.n_enumerate (pa_cons (pv 0) pa_nil)) (pg_tup rfl (pgs_cons (pg_name (i := 1) sc_check_bytes.nd rfl (Or.inl rfl)) (pgs_cons (pg_name (i := 2) sc_check_bytes.nd rfl (Or.inl rfl)) pgs_nil))) (pss_one (ps_if (pt_not (pt_val (pe_call G_is_byte (by exact hr.mono (by decide)) (by rfl) T.g_is_byte T.F_is_byte.kp T.b_is_byte .nil pass0 (pa_cons (pv 2) pa_nil)))) (pss_one (Vc.ps_raiseT rfl (takes_of rfl rfl rfl rfl) (pmk_oex T.ox_BadByte T.i_BadByte T.ti_BadByte G_BadByteu_initu (by exact hr.mono (by decide)) T.b_BadByteu_initu .nil pass0 (by rfl) T.g_BadByte (pa_cons (pv 1) pa_nil)))) pss_nil)))), ?_⟩
    walk_at "go"
    show tCons (tVar 0) tNil _ H _
    walk_at "go"
    refine ⟨l, _, rfl, hl, for_it walk_enum (fun i σ H' => (∃ y z : Option V, σ = [some (.ref l), y, z]) ∧ Vc.Ed [] H H' ∧ ∀ x ∈ vals.take i, (!decide (0 ≤ x ∧ x ≤ 255)) = false) ⟨⟨none, none, rfl⟩, .refl, fun _ z => nomatch z⟩ (fun i σ' H' _ h => Vc.Ed.sql0 h.2.1 hl) (fun i v σ' H' H2 hi hp hy => ?_) fun σ' H' hp => ?_⟩
    · obtain ⟨⟨y, z, rfl⟩, e, byt⟩ := hp
      obtain ⟨t, a, b, rfl, nt, rfl, ha, hbx⟩ := hy
      cases ha
      have hbx : (vals.map V.int)[i]? = some b := hbx
      rw [List.getElem?_map] at hbx
      obtain ⟨n, hn, rfl⟩ := Option.map_eq_some_iff.mp hbx
      generalize hu : upd _ t _ = H3
      obtain ⟨e3, ht⟩ := Vc.alloc hu nt
      refine ⟨t, _, rfl, .of ht, rfl, _, _, rfl, ?_⟩
      walk_at "go"
      refine ⟨_, _, rfl, ?_⟩
      walk_at "go"
      refine ⟨rfl, ?_⟩
      walk_at "go"
      refine ⟨n, rfl, fun H4 e4 => ?_⟩
      by_cases c : 0 ≤ n ∧ n ≤ 255
      · rw [decide_eq_true c]
        walk_at "go"
        refine ⟨⟨_, _, rfl⟩, (e.ex e3).ex e4, fun x hx => ?_⟩
        rw [List.take_add_one, hn] at hx
        rcases List.mem_append.mp hx with hx | hx
        · exact byt x hx
        · rw [List.mem_singleton.mp hx, decide_eq_true c]; rfl
      · rw [decide_eq_false c]
        walk_at "go"
        intro dd H5 _ e5 hdd
        refine kE i dd H5 (findIdx_at hn byt (by rw [decide_eq_false c]; rfl)) (((e.ex e3).ex e4).ex e5) hdd
    · obtain ⟨⟨y, z, rfl⟩, e, byt⟩ := hp
      walk_at "go"
      rw [List.length_map, List.take_length] at byt
      exact kQ (List.findIdx?_eq_none_iff.mpr byt) H' e
theorem ok_Imageu_initu (T : Txt K mg A) : FnOk PG w K mg base (CX PG w) 5 A.f_Imageu_initu A.d_Imageu_initu ["self", "values"] (spImgInit A K) := by
  have G_check_bytes := ok_check_bytes (w := w) (base := base) T
  have G_Imageu_iteru := ok_Imageu_iteru (P := PG) (w := w) (base := base) T
  have G_Imageu_lenu := ok_Imageu_lenu (P := PG) (w := w) (base := base) T
  refine T.F_Imageu_initu.okX sc_Imageu_initu (fun vs H Q E h => ?_) (fun cdv Ar outer s H vs Q E hr h => ?_)
  · obtain ⟨p, dx, h, vals, rfl, _⟩ := h
    rfl
  · obtain ⟨p, dx, h, vals, rfl, hp, hh, vl, kE, kQ⟩ := h
    have cl := T.cl_Image
    have no1 := T.no_Image_cells
    refine ⟨_, (pss_cons (ps_set (i := 2) sc_Imageu_initu.nd rfl (Or.inl rfl) (pe_callTy (Vc.call_or Vc.call_lstD (Vc.call_listLi (by rfl) G_Imageu_iteru T.sp_Image_Imageu_iteru T.b_Imageu_iteru G_Imageu_lenu T.sp_Image_Imageu_lenu T.b_Imageu_lenu (by exact hr.mono (by decide)))) (by rfl) T.n_list (by decide +kernel) (pa_cons (pv 1) pa_nil))) (pss_cons (ps_expr (pe_callS G_check_bytes (by exact hr.mono (by decide)) (by rfl) T.g_check_bytes T.F_check_bytes.kp T.b_check_bytes (fun σ => passAt (takes_of rfl rfl rfl rfl) σ) (pa_cons (pv 2) pa_nil))) (pss_one (ps_fld (pv 0) (pv 2) rfl)))), ?_⟩
    walk_at "go"
    refine given_any hh vl fun L H1 nL e1 hL => ?_
    walk_at "go"
    refine ⟨L, vals, rfl, .of hL, fun i dd H2 bad e2 hdd => kE i dd H2 bad (e1.ex e2) hdd, fun okb H2 e2 => ?_⟩
    have hp2 := e2.at0 (e1.at0 hp)
    have nLp : L ≠ p := fun z => by rw [z, hp] at nL; cases nL
    have hL2 := e2.at0 hL
    walk_at "go"
    generalize hu3 : upd _ p _ = H3
    obtain ⟨e3, hp3⟩ := Vc.chg hu3 hp2
    walk_at "go"
    exact kQ okb L H3 (by walk_at "ed") nL ⟨⟨dx, hp3⟩, e3.at1 nLp hL2⟩
theorem ok_Imageu_equ (T : Txt K mg A) : FnOk P w K mg base CX0 1 A.f_Imageu_equ A.d_Imageu_equ ["self", "other"] (spImgEq A K) := by
  refine T.F_Imageu_equ.ok sc_Imageu_equ (fun vs H Q E h => ?_) (fun cdv Ar outer s H vs Q E hr h => ?_)
  · obtain ⟨p, l, vals, v, rfl, _⟩ := h
    rfl
  · obtain ⟨p, l, vals, v, rfl, ⟨⟨dx, hp⟩, hl⟩, k⟩ := h
    have hu := hu_of hr
    have cl := T.cl_Image
    have no1 := T.no_Image_cells
    have l1 := img_cells (l := l)
    refine ⟨_, (pss_cons (ps_if (pt_not (pt_val (pe_callB call_isi (by rfl) T.n_isinstance (by decide +kernel) (pa_cons (pv 1) (pa_cons (pe_glob (v := .ref A.C_Image) (by rfl) T.g_Image rfl) pa_nil))))) (pss_one (ps_ret pe_bl)) pss_nil) (pss_one (ps_ret (pe_cmpR (op_eqD (by exact hr.units)) (pe_fld (pv 0) rfl) (pe_fld (pv 1) rfl) (nomark _))))), ?_⟩
    rcases k with ⟨q, m, ws, rfl, ⟨⟨dy, hq⟩, hm⟩, k⟩ | ⟨t, ty, kn, k⟩
    · have l2 := img_cells (l := m)
      walk_at "go"
      refine Vc.go_isiC (Vc.ty_ins hq T.ic_Image) T.ic_Image.me ?_
      walk_at "go"
      refine go_eqLs (.inl (.of hl)) (.inl (.of hm)) ?_
      exact k
    · walk_at "go"
      refine Vc.go_isiC ty kn ?_
      walk_at "go"
      exact k
theorem ok_Imageu_setitemu (T : Txt K mg A) : FnOk PG w K mg base (CX PG w) 5 A.f_Imageu_setitemu A.d_Imageu_setitemu ["self", "at", "worth"] (spImgSet A K) := by
  have G_span_of := ok_span_of (w := w) (base := base) T
  have G_check_bytes := ok_check_bytes (w := w) (base := base) T
  have G_is_byte := ok_is_byte (P := PG) (w := w) (base := base) T
  have G_Imageu_iteru := ok_Imageu_iteru (P := PG) (w := w) (base := base) T
  have G_Imageu_lenu := ok_Imageu_lenu (P := PG) (w := w) (base := base) T
  have G_BadByteu_initu := ok_BadByteu_initu (w := w) (base := base) T
  have G_UnlikeLengthsu_initu := ok_UnlikeLengthsu_initu (w := w) (base := base) T
  refine T.F_Imageu_setitemu.okX sc_Imageu_setitemu (fun vs H Q E h => ?_) (fun cdv Ar outer s H vs Q E hr h => ?_)
  · obtain ⟨p, l, vals, v, x, er, nw, rfl, _⟩ := h
    rfl
  · obtain ⟨p, l, vals, v, x, er, nw, rfl, X, vl, pt, kE, kQ⟩ := h
    have cl := T.cl_Image
    have no1 := T.no_Image_cells
    obtain ⟨⟨dx, hx⟩, ho⟩ := X
    have l1 := img_cells (l := l)
    refine ⟨_, (pss_cons (ps_asg (pe_callS G_span_of (by exact hr.mono (by decide)) (by rfl) T.g_span_of T.F_span_of.kp T.b_span_of (fun σ => passAt (takes_of rfl rfl rfl rfl) σ) (pa_cons (pv 1) (pa_cons (pe_callB call_len_seq (by rfl) T.n_len (by decide +kernel) (pa_cons (pe_fld (pv 0) rfl) pa_nil)) pa_nil))) (pg_tup rfl (pgs_cons (pg_name (i := 3) sc_Imageu_setitemu.nd rfl (Or.inl rfl)) (pgs_cons (pg_name (i := 4) sc_Imageu_setitemu.nd rfl (Or.inl rfl)) pgs_nil)))) (pss_one (ps_if (pt_val (pe_callB call_isi (by rfl) T.n_isinstance (by decide +kernel) (pa_cons (pv 1) (pa_cons (pe_bltn (v := .ty "tuple") (by rfl) T.n_tuple (by decide +kernel) rfl) pa_nil)))) (pss_cons (ps_set (i := 5) sc_Imageu_setitemu.nd rfl (Or.inl rfl) (pe_callTy (Vc.call_or Vc.call_lstD (Vc.call_listLi (by rfl) G_Imageu_iteru T.sp_Image_Imageu_iteru T.b_Imageu_iteru G_Imageu_lenu T.sp_Image_Imageu_lenu T.b_Imageu_lenu (by exact hr.mono (by decide)))) (by rfl) T.n_list (by decide +kernel) (pa_cons (pv 2) pa_nil))) (pss_cons (ps_if (pt_cmpR op_ne (pe_callB call_len_seq (by rfl) T.n_len (by decide +kernel) (pa_cons (pv 5) pa_nil)) (pe_op op_sub (pv 4) (pv 3)) (nomark _)) (pss_one (Vc.ps_raiseT rfl (takes_of rfl rfl rfl rfl) (pmk_oex T.ox_UnlikeLengths T.i_UnlikeLengths T.ti_UnlikeLengths G_UnlikeLengthsu_initu (by exact hr.mono (by decide)) T.b_UnlikeLengthsu_initu .nil pass0 (by rfl) T.g_UnlikeLengths (pa_cons (pe_op op_sub (pv 4) (pv 3)) (pa_cons (pe_callB call_len_seq (by rfl) T.n_len (by decide +kernel) (pa_cons (pv 5) pa_nil)) pa_nil))))) pss_nil) (pss_cons (ps_expr (pe_callS G_check_bytes (by exact hr.mono (by decide)) (by rfl) T.g_check_bytes T.F_check_bytes.kp T.b_check_bytes (fun σ => passAt (takes_of rfl rfl rfl rfl) σ) (pa_cons (pv 5) pa_nil))) (pss_one (ps_asg (pv 5) (Vc.pg_slice (pe_fld (pv 0) rfl) (po_some (pv 3)) (po_some (pv 4)))))))) (pss_one (ps_if (pt_val (pe_call G_is_byte (by exact hr.mono (by decide)) (by rfl) T.g_is_byte T.F_is_byte.kp T.b_is_byte .nil pass0 (pa_cons (pv 2) pa_nil))) (pss_one (ps_asg (pv 2) (pg_sub (pe_fld (pv 0) rfl) (pv 3) set_list))) (pss_one (Vc.ps_raiseT rfl (takes_of rfl rfl rfl rfl) (pmk_oex T.ox_BadByte T.i_BadByte T.ti_BadByte G_BadByteu_initu (by exact hr.mono (by decide)) T.b_BadByteu_initu .nil pass0 (by rfl) T.g_BadByte (pa_cons (pv 1) pa_nil))))))))), ?_⟩
    walk_at "go"
    rw [List.length_map]
    cases pt with
    | one a b =>
      refine ⟨_, _, _, _, _, rfl, .one a, fun x dd H' h e1 hd => ?_, fun no t H1 e1 ht => ?_⟩
      · unfold spanErr at h
        rw [if_pos rfl] at h
        by_cases c : a < 0 ∨ a ≥ (vals.length : Int)
        · rw [if_pos c] at h
          obtain rfl := Option.some.inj h
          exact kE (.addr a) dd H' (by unfold putErr1; rw [if_pos c]) e1 hd
        · rw [if_neg c] at h; cases h
      have c : ¬ (a < 0 ∨ a ≥ (vals.length : Int)) := fun z => by
        unfold spanErr at no
        rw [if_pos rfl, if_pos z] at no; cases no
      unfold putErr1 at kE kQ
      rw [if_neg c] at kE kQ
      have hx1 := e1.at0 hx
      have ho1 := e1.at0 ho
      walk_at "go"
      refine ⟨t, _, rfl, .of ht, rfl, _, _, rfl, ?_⟩
      walk_at "go"
      refine ⟨_, _, rfl, ?_⟩
      walk_at "go"
      refine ⟨rfl, ?_⟩
      walk_at "go"
      refine ⟨b, rfl, fun H2 e2 => ?_⟩
      have hx2 := e2.at0 hx1
      have ho2 := e2.at0 ho1
      by_cases cb : 0 ≤ b ∧ b ≤ 255
      · rw [if_pos cb] at kQ
        rw [decide_eq_true cb]
        walk_at "go"
        refine Vc.go_setL ho2 (j := a.toNat) ?_ ?_
        · unfold ixN
          rw [List.length_map, if_pos (by omega), if_pos (by omega)]
        generalize hu3 : upd _ l _ = H3
        obtain ⟨e3, hl3⟩ := Vc.chg hu3 ho2
        rw [← show (vals.set a.toNat b).map V.int = (vals.map V.int).set a.toNat (.int b) from List.map_set ..] at hl3
        walk_at "go"
        refine kQ rfl H3 (((e1.ex e2).mono fun _ z => nomatch z).one e3 (.inl (by simp))) ⟨⟨dx, e3.at1 (fun z => ?_) hx2⟩, hl3⟩
        rw [z, ho2] at hx2
        cases hx2
      · rw [if_neg cb] at kE
        rw [decide_eq_false cb]
        walk_at "go"
        intro dd H3 _ e3 hdd
        exact kE (.byte a) dd H3 rfl ((e1.ex e2).ex e3) hdd
    | two t h lo hi ws ht G wl =>
      refine ⟨_, _, lo, hi, _, rfl, .two t lo hi ht, fun x dd H' h e1 hd => kE (.addr x) dd H' (by unfold putErr2; rw [h]) e1 hd, fun no t2 H1 e1 ht2 => ?_⟩
      obtain ⟨b1, b2, b3, _⟩ := spanErr_ok (.two t lo hi ht) no
      unfold putErr2 at kE kQ
      rw [no] at kE kQ
      have hx1 := e1.at0 hx
      have ho1 := e1.at0 ho
      have ht1 := e1.tup _ _ ht
      have G1 := G.ed0 e1
      walk_at "go"
      refine ⟨t2, _, rfl, .of ht2, rfl, _, _, rfl, ?_⟩
      walk_at "go"
      refine ⟨_, _, rfl, ?_⟩
      walk_at "go"
      refine ⟨rfl, ?_⟩
      walk_at "go"
      refine given_any G1 (by omega) fun g H2 ng e2 hg => ?_
      have hx2 := e2.at0 hx1
      have ho2 := e2.at0 ho1
      walk_at "go"
      rw [List.length_map]
      by_cases c : (ws.length : Int) ≠ hi - lo
      · rw [if_pos c] at kE
        refine Vc.go_itenT' c ?_
        walk_at "go"
        rw [List.length_map]
        intro dd H3 _ e3 hdd
        exact kE (.len (hi - lo) ws.length) dd H3 rfl ((e1.ex e2).ex e3) hdd
      · have ce : (ws.length : Int) = hi - lo := by omega
        rw [if_neg c] at kE kQ
        refine Vc.go_itenF' ce ?_
        walk_at "go"
        refine ⟨g, ws, rfl, .of hg, fun i dd H3 bad e3 hdd => kE (.byte (i : Nat)) dd H3 (by rw [bad]) ((e1.ex e2).ex e3) hdd, fun okb H3 e3 => ?_⟩
        rw [okb] at kQ
        have hx3 := e3.at0 hx2
        have ho3 := e3.at0 ho2
        have hg3 := e3.at0 hg
        have nlg : l ≠ g := fun z => by rw [← z, ho1] at ng; cases ng
        walk_at "go"
        refine Vc.go_gSlc ?_
        walk_at "go"
        refine Vc.go_slc nlg ho3 hg3 b1 b2 (by rw [List.length_map]; exact b3) (by rw [List.length_map, List.length_map]; omega) ?_
        rw [← List.map_take, ← List.map_drop, ← List.map_append, ← List.map_append]
        generalize hu4 : upd _ l _ = H4
        obtain ⟨e4, hl4⟩ := Vc.chg hu4 ho3
        walk_at "go"
        refine kQ rfl H4 ((((e1.ex e2).ex e3).mono fun _ z => nomatch z).one e4 (.inl (by simp))) ⟨⟨dx, e4.at1 (fun z => ?_) hx3⟩, hl4⟩
        rw [z, ho3] at hx3
        cases hx3
end

end My
namespace My
open PySem PySem.Spec PyProof.Rows L2
/-! ### a code set called: the instruction at a place, or NotWhole -/
def instrAt (fs : List FD) (bs : List Int) (at_ : Int) : Option (List Int) :=
  if at_ < 0 ∨ at_ ≥ bs.length then none else
  match fs.find? (fun f => decide (f.byte = bs.getD at_.toNat 0)) with
  | none => none
  | some f => if at_ + f.len > bs.length then none else some ((bs.drop at_.toNat).take f.len.toNat)
def spCall (A : Ad) (K : PySem.W.Frag) : Sp := fun vs H Q E => ∃ (x : CodeO) (g : Addr) (at_ : Int) (bs : List Int), vs = [.ref x.c, .ref g, .int at_] ∧ x.At A H ∧ x.Ok ∧ Given A K H g bs ∧ bs.length ≤ 500 ∧
  (instrAt x.fs bs at_ = none → ∀ d H', Vc.Ed [] H H' → H' d = some (.xd [("place", .int at_)]) → E (.ref A.C_NotWhole) (some d) H') ∧
  ∀ ins, instrAt x.fs bs at_ = some ins → ∀ q H', Vc.Ed [] H H' → H' q = some (.tup (ins.map V.int)) → Q (.ref q) H'
theorem inV_ints (n : Int) (ns : List Int) : inV (.int n) (ns.map V.int) = decide (n ∈ ns) := by
  rw [Bool.eq_iff_iff, decide_eq_true_eq]
  show (List.any (ns.map V.int) fun y => eqV y (.int n)) = true ↔ _
  rw [List.any_eq_true]
  constructor
  · rintro ⟨y, hy, e⟩
    obtain ⟨m, hm, rfl⟩ := List.mem_map.mp hy
    have : m = n := by simpa [eqV] using e
    rw [← this]; exact hm
  · exact fun h => ⟨_, List.mem_map.mpr ⟨n, h, rfl⟩, by simp [eqV]⟩
theorem flat_ints (ns : List Int) : (ns.map V.int).all flatV = true := by
  rw [List.all_eq_true]
  intro x hx
  obtain ⟨n, _, rfl⟩ := List.mem_map.mp hx
  rfl
theorem find_byte {items : List (FD × Addr)} {b : Int} (nd : ((items.map (·.1)).map (·.byte)).Nodup) :
    (b ∉ items.map (fun p => p.1.byte) ∧ (items.map (·.1)).find? (fun f => decide (f.byte = b)) = none) ∨ ∃ p ∈ items, p.1.byte = b ∧ (items.map (·.1)).find? (fun f => decide (f.byte = b)) = some p.1 := by
  cases e : (items.map (·.1)).find? (fun f => decide (f.byte = b)) with
  | none =>
    refine .inl ⟨fun h => ?_, rfl⟩
    obtain ⟨p, hp, rfl⟩ := List.mem_map.mp h
    have := List.find?_eq_none.mp e p.1 (List.mem_map.mpr ⟨p, hp, rfl⟩)
    simp at this
  | some f =>
    obtain ⟨p, hp, rfl⟩ := List.mem_map.mp (List.mem_of_find?_eq_some e)
    exact .inr ⟨p, hp, of_decide_eq_true (List.find?_some (p := fun f : FD => decide (f.byte = b)) e), rfl⟩
section
variable {fs : List FD} {bs : List Int} {at_ : Int}
theorem instr_out (h : at_ < 0 ∨ at_ ≥ bs.length) : instrAt fs bs at_ = none := by unfold instrAt; rw [if_pos h]
theorem instr_nf (h : ¬ (at_ < 0 ∨ at_ ≥ bs.length)) (hf : fs.find? (fun f => decide (f.byte = bs.getD at_.toNat 0)) = none) : instrAt fs bs at_ = none := by unfold instrAt; rw [if_neg h, hf]
theorem instr_long {f : FD} (h : ¬ (at_ < 0 ∨ at_ ≥ bs.length)) (hf : fs.find? (fun f => decide (f.byte = bs.getD at_.toNat 0)) = some f) (hl : at_ + f.len > bs.length) : instrAt fs bs at_ = none := by
  unfold instrAt; rw [if_neg h, hf]; exact if_pos hl
theorem instr_ok {f : FD} (h : ¬ (at_ < 0 ∨ at_ ≥ bs.length)) (hf : fs.find? (fun f => decide (f.byte = bs.getD at_.toNat 0)) = some f) (hl : ¬ at_ + f.len > bs.length) : instrAt fs bs at_ = some ((bs.drop at_.toNat).take f.len.toNat) := by
  unfold instrAt; rw [if_neg h, hf]; exact if_neg hl
theorem at_getD (h0 : 0 ≤ at_) (h1 : at_ < bs.length) : atI (bs.map V.int) at_ = some (.int (bs.getD at_.toNat 0)) := by
  refine at_of (j := at_.toNat) (by omega) ?_
  rw [List.getElem?_map, List.getElem?_eq_getElem (by omega), List.getD_eq_getElem?_getD, List.getElem?_eq_getElem (by omega)]; rfl
theorem cut_ints {l : Int} (h0 : 0 ≤ at_) (hl : 0 ≤ l) : cutV (bs.map V.int) (some at_) (some (at_ + l)) = ((bs.drop at_.toNat).take l.toNat).map V.int := by
  have e := Vc.cut_mid (bs.map V.int) at_.toNat (at_ + l).toNat
  rw [Int.toNat_of_nonneg h0, Int.toNat_of_nonneg (by omega)] at e
  rw [e, ← List.map_drop, ← List.map_take]
  congr 2
  omega
end
section
variable {w : World} {K : PySem.W.Frag} {mg : Str → Option Value} {base : Heap} {A : Ad}
theorem ok_CodeSetu_callu (T : Txt K mg A) : FnOk PG w K mg base (CX PG w) 5 A.f_CodeSetu_callu A.d_CodeSetu_callu ["self", "values", "at"] (spCall A K) := by
  have G_NotWholeu_initu := ok_NotWholeu_initu (w := w) (base := base) T
  have G_Imageu_iteru := ok_Imageu_iteru (P := PG) (w := w) (base := base) T
  have G_Imageu_lenu := ok_Imageu_lenu (P := PG) (w := w) (base := base) T
  refine T.F_CodeSetu_callu.okX sc_CodeSetu_callu (fun vs H Q E h => ?_) (fun cdv Ar outer s H vs Q E hr h => ?_)
  · obtain ⟨x, g, at_, bs, rfl, _⟩ := h
    rfl
  · obtain ⟨x, g, at_, bs, rfl, hX, hO, hg, bl, kE, kQ⟩ := h
    have hu := hu_of hr
    have cl := T.cl_CodeSet
    have no2 := T.no_CodeSet_order
    have no3 := T.no_CodeSet_table
    have clf := T.cl_Form
    have no4 := T.no_Form_length
    have ct := codes_table (s := x.stop) (o := x.o) (t := x.t)
    have co := codes_order (s := x.stop) (o := x.o) (t := x.t)
    obtain ⟨hc, ho, ht, hF⟩ := hX
    refine ⟨_, (pss_cons (ps_set (i := 3) sc_CodeSetu_callu.nd rfl (Or.inl rfl) (pe_callTy (Vc.call_or Vc.call_lstD (Vc.call_listLi (by rfl) G_Imageu_iteru T.sp_Image_Imageu_iteru T.b_Imageu_iteru G_Imageu_lenu T.sp_Image_Imageu_lenu T.b_Imageu_lenu (by exact hr.mono (by decide)))) (by rfl) T.n_list (by decide +kernel) (pa_cons (pv 1) pa_nil))) (pss_cons (ps_if (PW.pt (pw_or (pt_cmpR op_lt (pv 2) pe_int (nomark _)) (pw_or (pt_cmpR op_ge (pv 2) (pe_callB call_len_seq (by rfl) T.n_len (by decide +kernel) (pa_cons (pv 3) pa_nil)) (nomark _)) (pw_or1 (pt_cmpR op_notIn_seq (pe_ix ix_list (pv 3) (pv 2) (fun _ _ => rfl)) (pe_fld (pv 0) rfl) (by rfl)))))) (pss_one (Vc.ps_raiseT rfl (takes_of rfl rfl rfl rfl) (pmk_oex T.ox_NotWhole T.i_NotWhole T.ti_NotWhole G_NotWholeu_initu (by exact hr.mono (by decide)) T.b_NotWholeu_initu .nil pass0 (by rfl) T.g_NotWhole (pa_cons (pv 2) pa_nil)))) pss_nil) (pss_cons (ps_set (i := 4) sc_CodeSetu_callu.nd rfl (Or.inl rfl) (pe_op op_add (pv 2) (pe_fld (pe_dget (by exact hu) (pe_fld (pv 0) rfl) (pe_ix ix_list (pv 3) (pv 2) (fun _ _ => rfl)) (fun _ _ => rfl)) rfl))) (pss_cons (ps_if (pt_cmpR op_gt (pv 4) (pe_callB call_len_seq (by rfl) T.n_len (by decide +kernel) (pa_cons (pv 3) pa_nil)) (nomark _)) (pss_one (Vc.ps_raiseT rfl (takes_of rfl rfl rfl rfl) (pmk_oex T.ox_NotWhole T.i_NotWhole T.ti_NotWhole G_NotWholeu_initu (by exact hr.mono (by decide)) T.b_NotWholeu_initu .nil pass0 (by rfl) T.g_NotWhole (pa_cons (pv 2) pa_nil)))) pss_nil) (pss_one (ps_ret (pe_callTy Vc.call_tupD (by rfl) T.n_tuple (by decide +kernel) (pa_cons (pe_slice sl_list (pv 3) (po_some (pv 2)) (po_some (pv 4))) pa_nil)))))))), ?_⟩
    have bad : instrAt x.fs bs at_ = none → ∀ H1, Vc.Ed [] H H1 → ∀ d H', H1 d = none → Vc.Ed [] H1 H' → H' d = some (.xd [("place", .int at_)]) → E (.ref A.C_NotWhole) (some d) H' := fun e H1 e1 d H' _ e2 h => kE e d H' (e1.ex e2) h
    walk_at "go"
    refine given_any hg (by omega) fun L H1 nL e1 hL => ?_
    have ll : (List.map V.int bs).length ≤ 1000 := by rw [List.length_map]; omega
    walk_at "go"
    refine Vc.go_ite (fun h1 => ?_) (fun h1 => ?_)
    · walk_at "go"
      exact bad (instr_out (.inl h1)) _ e1
    walk_at "go"
    rw [List.length_map]
    refine Vc.go_ite (fun h2 => ?_) (fun h2 => ?_)
    · walk_at "go"
      exact bad (instr_out (.inr h2)) _ e1
    have hin : ¬ (at_ < 0 ∨ at_ ≥ bs.length) := by omega
    have hx := at_getD (bs := bs) (at_ := at_) (by omega) (by omega)
    generalize hn : bs.getD at_.toNat 0 = n at hx
    have fl := flat_ints (x.items.map fun p => p.1.byte)
    walk_at "go"
    rw [inV_ints]
    refine Vc.go_iten (fun h3 => ?_) (fun h3 => ?_)
    · walk_at "go"
      rcases find_byte (b := n) hO.1.ndb with ⟨_, hf⟩ | ⟨p, hp, hb, _⟩
      · exact bad (instr_nf hin (by rw [hn]; exact hf)) _ e1
      · exact (h3 (List.mem_map.mpr ⟨p, hp, hb⟩)).elim
    rcases find_byte (b := n) hO.1.ndb with ⟨hf, _⟩ | ⟨p, hp, hb, hf⟩
    · exact (hf h3).elim
    have hv := kvsOf_val hO.1.ndb hp
    rw [hb] at hv
    obtain ⟨df, hfm⟩ := hF p hp
    have ok := hO.1.ok p.1 (List.mem_map.mpr ⟨p, hp, rfl⟩)
    have fl2 := form_length (n := p.1.name) (l := p.1.len) (f := p.1.flow)
    walk_at "go"
    rw [List.length_map]
    refine Vc.go_ite (fun h4 => ?_) (fun h4 => ?_)
    · walk_at "go"
      exact bad (instr_long hin (by rw [hn]; exact hf) h4) _ e1
    walk_at "go"
    intro q nq
    rw [cut_ints (by omega) (by have := ok.l1; omega)]
    generalize hu2 : upd _ q _ = H2
    obtain ⟨e2, hq⟩ := Vc.alloc hu2 nq
    walk_at "go"
    intro r nr
    generalize hu3 : upd _ r _ = H3
    obtain ⟨e3, hr3⟩ := Vc.alloc hu3 nr
    walk_at "go"
    exact kQ _ (instr_ok hin (by rw [hn]; exact hf) h4) r H3 (by walk_at "ed") hr3
end

end My
namespace My
open PySem PySem.Spec PyProof.Rows L2
/-! ### the sample code set -/
def SAMPLE : List FD := [⟨1, "step", 1, "next"⟩, ⟨2, "load", 2, "next"⟩, ⟨3, "jump", 2, "jump"⟩, ⟨4, "test", 2, "test"⟩, ⟨5, "wide", 3, "next"⟩, ⟨6, "store", 2, "next"⟩, ⟨9, "leave", 1, "end"⟩]
theorem sample_ok : ∀ f ∈ SAMPLE, f.Ok := by
  intro f hf
  unfold SAMPLE at hf
  simp only [List.mem_cons, List.not_mem_nil, or_false] at hf
  rcases hf with rfl | rfl | rfl | rfl | rfl | rfl | rfl <;> exact ⟨by decide, by decide, by decide +kernel, by decide, by decide, by first | exact .inl rfl | exact .inr (.inl rfl) | exact .inr (.inr (.inl rfl)) | exact .inr (.inr (.inr rfl)), fun z => by first | decide | (rcases z with z | z <;> exact absurd z (by decide))⟩
theorem mk_form {A : Ad} {H : Hp} {R : Addr → Hp → Prop} {E : XK} (f : FD) (ok : f.Ok) (k : ∀ p H', Vc.Ed [] H H' → H p = none → FormAt A H' p f → R p H') :
    ∀ x dx, H x = none → H dx = none → dx ≠ x → spForm A (.ref x :: [.str f.name, .int f.len, .str f.flow]) (upd (upd H dx (.own x)) x (.ins A.C_Form dx [])) (fun v H2 => v = .non ∧ R x H2) E := by
  intro x dx nx ndx ne
  generalize hu : upd (upd H dx (.own x)) x (.ins A.C_Form dx []) = H1
  obtain ⟨e1, h1, _⟩ := Vc.allocI hu nx ndx ne
  exact ⟨x, dx, f, rfl, ok, h1, fun H2 e2 F => ⟨rfl, k x H2 (e1.trans e2 fun a ha => .inr (by rw [List.mem_singleton.mp ha]; exact nx)) nx F⟩⟩
theorem sample_valid : Valid 0 SAMPLE := ⟨by decide, by decide, sample_ok, fun f hf => by
  unfold SAMPLE at hf
  simp only [List.mem_cons, List.not_mem_nil, or_false] at hf
  rcases hf with rfl | rfl | rfl | rfl | rfl | rfl | rfl <;> decide, by decide +kernel, by decide +kernel, by decide, by decide⟩
theorem nd_inj {α : Type} {f : α → Int} : ∀ {l : List α}, (l.map f).Nodup → ∀ a ∈ l, ∀ b ∈ l, f a = f b → a = b
  | [], _, a, ha, _, _, _ => nomatch ha
  | x :: r, nd, a, ha, b, hb, e => by
    rw [List.map_cons, List.nodup_cons] at nd
    rcases List.mem_cons.mp ha with h1 | h1
    · rcases List.mem_cons.mp hb with h2 | h2
      · rw [h1, h2]
      · exact (nd.1 (by rw [← h1, e]; exact List.mem_map.mpr ⟨b, h2, rfl⟩)).elim
    · rcases List.mem_cons.mp hb with h2 | h2
      · exact (nd.1 (by rw [← h2, ← e]; exact List.mem_map.mpr ⟨a, h1, rfl⟩)).elim
      · exact nd_inj nd.2 a h1 b h2 e
def spSample (A : Ad) : Sp := fun vs H Q _ => vs = [] ∧ ∀ (x : CodeO) H', Vc.Ed [] H H' → H x.c = none → x.At A H' → x.Ok → x.stop = 0 → x.fs = SAMPLE → Q (.ref x.c) H'
section
variable {P : Program} {w : World} {K : PySem.W.Frag} {mg : Str → Option Value} {base : Heap} {A : Ad}
theorem ok_CodeSet_sample (T : Txt K mg A) : FnOk P w K mg base CX0 6 A.f_CodeSet_sample A.d_CodeSet_sample [] (spSample A) := by
  have G_Formu_initu := ok_Formu_initu (P := P) (w := w) (base := base) T
  have G_CodeSetu_initu := ok_CodeSetu_initu (P := P) (w := w) (base := base) T
  refine T.F_CodeSet_sample.ok sc_CodeSet_sample (fun vs H Q E h => ?_) (fun cdv Ar outer s H vs Q E hr h => ?_)
  · obtain ⟨rfl, _⟩ := h
    rfl
  · obtain ⟨rfl, k⟩ := h
    have hu := hu_of hr
    refine ⟨_, (pss_one (ps_ret (pe_make T.mk_CodeSet G_CodeSetu_initu (by exact hr.mono (by decide)) (by rfl) T.g_CodeSet T.b_CodeSetu_initu .nil pass0 (pa_cons pe_int (pa_cons (pe_disp (pps_cons pe_int (pe_make T.mk_Form G_Formu_initu (by exact hr.mono (by decide)) (by rfl) T.g_Form T.b_Formu_initu .nil pass0 (pa_cons pe_str (pa_cons pe_int (pa_cons pe_str pa_nil)))) (pps_cons pe_int (pe_make T.mk_Form G_Formu_initu (by exact hr.mono (by decide)) (by rfl) T.g_Form T.b_Formu_initu .nil pass0 (pa_cons pe_str (pa_cons pe_int (pa_cons pe_str pa_nil)))) (pps_cons pe_int (pe_make T.mk_Form G_Formu_initu (by exact hr.mono (by decide)) (by rfl) T.g_Form T.b_Formu_initu .nil pass0 (pa_cons pe_str (pa_cons pe_int (pa_cons pe_str pa_nil)))) (pps_cons pe_int (pe_make T.mk_Form G_Formu_initu (by exact hr.mono (by decide)) (by rfl) T.g_Form T.b_Formu_initu .nil pass0 (pa_cons pe_str (pa_cons pe_int (pa_cons pe_str pa_nil)))) (pps_cons pe_int (pe_make T.mk_Form G_Formu_initu (by exact hr.mono (by decide)) (by rfl) T.g_Form T.b_Formu_initu .nil pass0 (pa_cons pe_str (pa_cons pe_int (pa_cons pe_str pa_nil)))) (pps_cons pe_int (pe_make T.mk_Form G_Formu_initu (by exact hr.mono (by decide)) (by rfl) T.g_Form T.b_Formu_initu .nil pass0 (pa_cons pe_str (pa_cons pe_int (pa_cons pe_str pa_nil)))) (pps_cons pe_int (pe_make T.mk_Form G_Formu_initu (by exact hr.mono (by decide)) (by rfl) T.g_Form T.b_Formu_initu .nil pass0 (pa_cons pe_str (pa_cons pe_int (pa_cons pe_str pa_nil)))) pps_nil))))))) (by rfl) (by rfl) (fun z => by cases z) (by decide)) pa_nil))))), ?_⟩
    walk_at "go"
    intro d nd
    generalize hu1 : upd _ d _ = H1
    obtain ⟨e1, hd⟩ := Vc.alloc hu1 nd
    walk_at "go"
    refine mk_form ⟨1, "step", 1, "next"⟩ (sample_ok _ (by simp [SAMPLE])) fun p1 H2 e2 n1 F1 => ?_
    walk_at "go"
    refine mk_form ⟨2, "load", 2, "next"⟩ (sample_ok _ (by simp [SAMPLE])) fun p2 H3 e3 n2 F2 => ?_
    walk_at "go"
    refine mk_form ⟨3, "jump", 2, "jump"⟩ (sample_ok _ (by simp [SAMPLE])) fun p3 H4 e4 n3 F3 => ?_
    walk_at "go"
    refine mk_form ⟨4, "test", 2, "test"⟩ (sample_ok _ (by simp [SAMPLE])) fun p4 H5 e5 n4 F4 => ?_
    walk_at "go"
    refine mk_form ⟨5, "wide", 3, "next"⟩ (sample_ok _ (by simp [SAMPLE])) fun p5 H6 e6 n5 F5 => ?_
    walk_at "go"
    refine mk_form ⟨6, "store", 2, "next"⟩ (sample_ok _ (by simp [SAMPLE])) fun p6 H7 e7 n6 F6 => ?_
    walk_at "go"
    refine mk_form ⟨9, "leave", 1, "end"⟩ (sample_ok _ (by simp [SAMPLE])) fun p7 H8 e8 n7 F7 => ?_
    walk_at "go"
    have hd8 := e8.at0 (e7.at0 (e6.at0 (e5.at0 (e4.at0 (e3.at0 (e2.at0 hd))))))
    have G7 := F7
    have G6 := F6.ed e8 (fun z => nomatch z)
    have G5 := (F5.ed e7 (fun z => nomatch z)).ed e8 (fun z => nomatch z)
    have G4 := ((F4.ed e6 (fun z => nomatch z)).ed e7 (fun z => nomatch z)).ed e8 (fun z => nomatch z)
    have G3 := (((F3.ed e5 (fun z => nomatch z)).ed e6 (fun z => nomatch z)).ed e7 (fun z => nomatch z)).ed e8 (fun z => nomatch z)
    have G2 := ((((F2.ed e4 (fun z => nomatch z)).ed e5 (fun z => nomatch z)).ed e6 (fun z => nomatch z)).ed e7 (fun z => nomatch z)).ed e8 (fun z => nomatch z)
    have G1 := (((((F1.ed e3 (fun z => nomatch z)).ed e4 (fun z => nomatch z)).ed e5 (fun z => nomatch z)).ed e6 (fun z => nomatch z)).ed e7 (fun z => nomatch z)).ed e8 (fun z => nomatch z)
    have e18 : Vc.Ed [] H1 H8 := (((e2.ex e3).ex (e4.ex e5)).ex (e6.ex e7)).ex e8
    clear F1 F2 F3 F4 F5 F6 F7 e2 e3 e4 e5 e6 e7 e8
    refine ⟨hd8, kvsOf (SAMPLE.zip [p1, p2, p3, p4, p5, p6, p7]), rfl, by show 7 ≤ 15; omega, ?_⟩
    generalize hu9 : upd _ d _ = H9
    obtain ⟨e9, hd9⟩ := Vc.chg hu9 hd8
    have hd9 : H9 d = some (.dK (kvsOf (SAMPLE.zip [p1, p2, p3, p4, p5, p6, p7]))) := hd9
    have e09 : Vc.Ed [] H H9 := (e1.ex e18).one e9 (.inr nd)
    have fm : ∀ q ∈ SAMPLE.zip [p1, p2, p3, p4, p5, p6, p7], FormAt A H9 q.2 q.1 := fun q hq => by
      have up : ∀ {p : Addr} {f : FD}, FormAt A H8 p f → FormAt A H9 p f := fun {p f} F => F.ed1 e9 hd8 (fun _ _ _ z => nomatch z)
      simp only [SAMPLE, List.zip_cons_cons, List.zip_nil_right, List.mem_cons, List.not_mem_nil, or_false] at hq
      rcases hq with rfl | rfl | rfl | rfl | rfl | rfl | rfl
      · exact up G1
      · exact up G2
      · exact up G3
      · exact up G4
      · exact up G5
      · exact up G6
      · exact up G7
    walk_at "go"
    intro x dx nx ndx ne
    generalize hu10 : upd _ x _ = H10
    obtain ⟨e10, hx, _⟩ := Vc.allocI hu10 nx ndx ne
    refine ⟨x, dx, d, 0, SAMPLE.zip [p1, p2, p3, p4, p5, p6, p7], rfl, ⟨e10.at0 hd9, fun q hq => (fm q hq).ed e10 (fun z => nomatch z)⟩, sample_valid, hx, fun X H11 ec es perm ok e11 _ _ XA => ⟨rfl, ?_⟩⟩
    subst ec
    refine k X H11 ((e09.ex e10).trans e11 fun a ha => .inr (by rw [List.mem_singleton.mp ha]; exact e09.dom _ nx)) (e09.dom _ nx) XA ok es ?_
    have pm : X.fs.Perm SAMPLE := perm.map (fun q : FD × Addr => q.1)
    refine pm.eq_of_pairwise (le := fun a b : FD => a.byte ≤ b.byte) (fun a b ha hb h1 h2 => ?_) (List.pairwise_map.mp ok.2) (List.pairwise_map.mp (by decide))
    exact nd_inj sample_valid.ndb a (pm.mem_iff.mp ha) b hb (by omega)
end

end My
namespace My
open PySem PySem.Spec PyProof.Rows L2
/-! ### rows shown, bytes drawn -/
def spCells (A : Ad) (K : PySem.W.Frag) : Sp := fun vs H Q _ => ∃ (h : Addr) (vals : List Int), vs = [.ref h] ∧ Given A K H h vals ∧ vals.length ≤ 100 ∧ ∀ L H', Vc.Ed [] H H' → H L = none → H' L = some (.lst (vals.map V.int)) → Q (.ref L) H'
section
variable {w : World} {K : PySem.W.Frag} {mg : Str → Option Value} {base : Heap} {A : Ad}
theorem ok__law_cells (T : Txt K mg A) : FnOk PG w K mg base CX0 6 A.f__law_cells A.d__law_cells ["_law_row"] (spCells A K) := by
  have G_Imageu_getitemu := ok_Imageu_getitemu (w := w) (base := base) T
  have G_Imageu_lenu := ok_Imageu_lenu (P := PG) (w := w) (base := base) T
  refine T.F__law_cells.ok sc__law_cells (fun vs H Q E h => ?_) (fun cdv Ar outer s H vs Q E hr h => ?_)
  · obtain ⟨h, vals, rfl, _⟩ := h
    rfl
  · obtain ⟨h, vals, rfl, G, v24, k⟩ := h
    refine ⟨_, (pss_cons (ps_if (pt_val (pe_callB call_isi (by rfl) T.n_isinstance (by decide +kernel) (pa_cons (pv 0) (pa_cons (pe_glob (v := .ref A.C_Image) (by rfl) T.g_Image rfl) pa_nil)))) (pss_one (ps_ret (Vc.pe_ixO (pv 0) (pe_tup (pa_cons pe_int (pa_cons (pe_callB (Vc.call_lenO G_Imageu_lenu (by exact hr.mono (by decide)) T.sp_Image_Imageu_lenu T.b_Imageu_lenu) (by rfl) T.n_len (by decide +kernel) (pa_cons (pv 0) pa_nil)) pa_nil))) T.sp_Image_Imageu_getitemu T.spf_Imageu_getitemu G_Imageu_getitemu (by exact hr.mono (by decide)) T.b_Imageu_getitemu Vc.passSL))) pss_nil) (pss_one (ps_ret (pe_callTy Vc.call_lstD (by rfl) T.n_list (by decide +kernel) (pa_cons (pv 0) pa_nil))))), ?_⟩
    rcases G with G | G | ⟨l, G⟩
    · walk_at "go"
      refine Vc.go_isiC (Vc.tyL G) T.kt_list_Image ?_
      walk_at "go"
      intro L nL
      generalize hu : upd _ L _ = H1
      obtain ⟨e1, hL⟩ := Vc.alloc hu nL
      exact k L H1 e1 nL hL
    · walk_at "go"
      refine Vc.go_isiC (Vc.tyT G) T.kt_tuple_Image ?_
      walk_at "go"
      intro L nL
      generalize hu : upd _ L _ = H1
      obtain ⟨e1, hL⟩ := Vc.alloc hu nL
      exact k L H1 e1 nL hL
    · obtain ⟨⟨dx, hx⟩, hl⟩ := id G
      walk_at "go"
      refine Vc.go_isiC (Vc.ty_ins hx T.ic_Image) T.ic_Image.me ?_
      walk_at "go"
      refine ⟨h, l, vals, rfl, G, ⟨_, rfl, by omega, Int.lt_of_le_of_lt (b := 100) (by omega) (by decide), ?_⟩⟩
      walk_at "go"
      intro t nt
      generalize hu : upd _ t _ = H1
      obtain ⟨e1, ht⟩ := Vc.alloc hu nt
      have hx1 := e1.at0 hx
      walk_at "go"
      refine ⟨h, l, vals, _, _, _, _, rfl, G.ed0 e1, by omega, .two t 0 vals.length ht, fun a dd H' z _ _ => ?_, fun _ => ⟨fun z => (nomatch z), fun _ L H2 e2 nL hL => ?_⟩⟩
      · unfold spanErr at z
        rw [if_neg (by decide), if_neg (by omega), if_neg (by omega)] at z
        cases z
      · rw [show (0 : Int).toNat = 0 from rfl, List.drop_zero, Int.toNat_natCast, Nat.sub_zero, List.take_length] at hL
        walk_at "go"
        exact k L H2 (e1.ex e2) (e1.dom _ nL) hL
end

end My
namespace My
open PySem PySem.Spec PyProof.Rows L2
/-! ### bytes drawn, and spoilt -/
def spBytes : Sp := fun vs H Q _ => ∃ (b c : Addr) (n : Nat) (m : Int), vs = [.ref b, .int m] ∧ Pen H b c n ∧ n + 80 ≤ LIM ∧ 0 ≤ m ∧ m ≤ 24 ∧ ∀ L (vals : List Int) H', Vc.Ed [b] H H' → Pen H' b c (n + 80) → H L = none → H' L = some (.lst (vals.map V.int)) → vals.length = m.toNat → (∀ v ∈ vals, 0 ≤ v ∧ v ≤ 255) → Q (.ref L) H'
def SmallI (x : Int) : Prop := -1000000000000000000000000000000 ≤ x ∧ x ≤ 1000000000000000000000000000000
def spOdd : Sp := fun vs H Q _ => ∃ (b c : Addr) (n : Nat), vs = [.ref b] ∧ Pen H b c n ∧ n + 10 ≤ LIM ∧ ∀ x H', Vc.Ed [b] H H' → Pen H' b c (n + 10) → SmallI x → ¬ (0 ≤ x ∧ x ≤ 255) → Q (.int x) H'
def spSpoilt : Sp := fun vs H Q _ => ∃ (b c h : Addr) (n : Nat) (vals : List Int), vs = [.ref b, .ref h] ∧ Pen H b c n ∧ n + 40 ≤ LIM ∧ H h = some (.lst (vals.map V.int)) ∧ vals.length ≤ 24 ∧ (∀ v ∈ vals, SmallI v) ∧
  ∀ L (ws : List Int) H', Vc.Ed [b] H H' → Pen H' b c (n + 40) → H L = none → H' L = some (.lst (ws.map V.int)) → ws.length = vals.length → (∀ v ∈ ws, SmallI v) → Q (.ref L) H'
section
variable {P : Program} {w : World} {K : PySem.W.Frag} {mg : Str → Option Value} {base : Heap} {A : Ad}
theorem ok__law_bytes (T : Txt K mg A) : FnOk P w K mg base CX0 3 A.f__law_bytes A.d__law_bytes ["_law_pen_here", "_law_many"] spBytes := by
  have G__law_draw := ok__law_draw (P := P) (w := w) (base := base) T
  have G__law_pick := ok__law_pick (P := P) (w := w) (base := base) T
  refine T.F__law_bytes.ok sc__law_bytes (fun vs H Q E h => ?_) (fun cdv Ar outer s H vs Q E hr h => ?_)
  · obtain ⟨b, c, n, m, rfl, _⟩ := h
    rfl
  · obtain ⟨b, c, n, m, rfl, hB, nl, m1, m24, k⟩ := h
    have lim : LIM = 1000000 := rfl
    refine ⟨_, (pss_one (ps_ret (pe_lc (own := [("_law_k", 2)]) (g := gName 2) rfl sc__law_bytes.nd (pi_range1 (by rfl) T.n_range (pa_cons (pv 1) pa_nil)) (blkOk_by (own := [("_law_k", 2)]) (N := ["_law_pen_here", "_law_many", "_law_k"]) (sc := defScope s__law_bytes) (by decide +kernel)) (fun _ _ _ _ _ => by exact (pg_name (i := 2) sc__law_bytes.nd rfl (Or.inl rfl))) (fun _ _ _ _ _ => by exact pts_nil) (fun _ _ _ _ _ => by (refine' Vc.blkE ?h ?q; (case h => exact (pe_call G__law_pick (by exact hr.mono (by decide)) (by rfl) T.g__law_pick T.F__law_pick.kp T.b__law_pick .nil pass0 (pa_cons (pv 0) (pa_cons (pe_lst (pa_cons (pe_call G__law_draw (by exact hr.mono (by decide)) (by rfl) T.g__law_draw T.F__law_draw.kp T.b__law_draw .nil pass0 (pa_cons (pv 0) (pa_cons pe_int pa_nil))) (pa_cons pe_int (pa_cons pe_int (pa_cons (pe_call G__law_draw (by exact hr.mono (by decide)) (by rfl) T.g__law_draw T.F__law_draw.kp T.b__law_draw .nil pass0 (pa_cons (pv 0) (pa_cons pe_int pa_nil))) pa_nil))))) pa_nil)))); (case q => first | exact rfl | (dsimp only; done) | (dsimp only; exact rfl))))))), ?_⟩
    walk_at "go"
    refine ⟨by omega, by omega, Vc.lc_by walk_range (fun D i H' => Vc.Ed [b] H H' ∧ Pen H' b c (n + 3 * i) ∧ ∃ vs : List Int, vs.length = i ∧ (∀ v ∈ vs, 0 ≤ v ∧ v ≤ 255) ∧ H' D = some (.lst (vs.map V.int))) (fun D H8 nD e8 hD => ⟨e8.mono (fun _ z => nomatch z), hB.ed0 e8, [], rfl, (fun _ z => nomatch z), hD⟩) (fun _ _ _ _ _ _ => trivial) ?_ ?_⟩
    · rintro D i y H8 H9 nD hi ⟨e8, hB8, vs, vl, vb, hD⟩ ⟨rfl, rfl⟩
      have hi : i < m.toNat := hi
      have nDb := (hB.fb nD).1.symm
      walk_at "go"
      refine ⟨rfl, ?_⟩
      walk_at "go"
      refine ⟨b, c, _, _, rfl, hB8, by omega, by decide, by decide, fun r H10 r0 r1 e10 hB10 => ?_⟩
      walk_at "go"
      refine ⟨b, c, _, _, rfl, hB10, by omega, by decide, by decide, fun r2 H11 r20 r21 e11 hB11 => ?_⟩
      walk_at "go"
      intro q nq
      generalize hu12 : upd _ q _ = H12
      obtain ⟨e12, hq⟩ := Vc.alloc hu12 nq
      have hq : H12 q = some (.lst (([r, 0, 255, r2] : List Int).map V.int)) := hq
      walk_at "go"
      refine ⟨b, c, q, _, _, rfl, hB11.ed0 e12, by omega, hq, (hB11.fb nq).1.symm, (by show 1 ≤ 4; omega), (by show 4 ≤ 1000; omega), fun j v H13 hv e13 hB13 => ?_⟩
      rw [List.getElem?_map] at hv
      obtain ⟨z, hz, rfl⟩ := Option.map_eq_some_iff.mp hv
      have zb : 0 ≤ z ∧ z ≤ 255 := by
        have := List.mem_of_getElem? hz
        simp only [List.mem_cons, List.not_mem_nil, or_false] at this
        omega
      have e813 := ((e10.trans e11 fun a z => .inl z).ex e12).trans e13 fun a z => .inl z
      have hD13 := e813.at1 nDb hD
      refine ⟨_, hD13, by rw [List.length_map, vl]; exact small1000 (by omega), ?_⟩
      generalize hu14 : upd _ D _ = H14
      obtain ⟨e14, hD14⟩ := Vc.chg hu14 hD13
      refine ⟨(e8.trans e813 fun a z => .inl z).one e14 (.inr nD), (hB13.ed1 e14 nDb.symm (hB.fb nD).2).up (by omega), vs ++ [z], by rw [List.length_append, vl]; rfl, fun v hv => ?_, by rw [hD14, List.map_append]; rfl⟩
      rcases List.mem_append.mp hv with h | h
      · exact vb v h
      · rw [List.mem_singleton.mp h]; exact zb
    rintro D H8 nD ⟨e8, hB8, vs, vl, vb, hD⟩
    have vl : vs.length = m.toNat := vl
    walk_at "go"
    exact k D vs H8 e8 (hB8.up (by omega)) nD hD vl vb
theorem ok__law_odd (T : Txt K mg A) : FnOk P w K mg base CX0 3 A.f__law_odd A.d__law_odd ["_law_pen_here"] spOdd := by
  have G__law_draw := ok__law_draw (P := P) (w := w) (base := base) T
  have G__law_pick := ok__law_pick (P := P) (w := w) (base := base) T
  refine T.F__law_odd.ok sc__law_odd (fun vs H Q E h => ?_) (fun cdv Ar outer s H vs Q E hr h => ?_)
  · obtain ⟨b, c, n, rfl, _⟩ := h
    rfl
  · obtain ⟨b, c, n, rfl, hB, nl, k⟩ := h
    have lim : LIM = 1000000 := rfl
    refine ⟨_, (pss_one (ps_ret (pe_call G__law_pick (by exact hr.mono (by decide)) (by rfl) T.g__law_pick T.F__law_pick.kp T.b__law_pick .nil pass0 (pa_cons (pv 0) (pa_cons (pe_lst (pa_cons (pe_un un_neg pe_int) (pa_cons pe_int (pa_cons (pe_op op_sub pe_int (pe_op op_pow pe_int pe_int)) (pa_cons (pe_op op_pow pe_int pe_int) (pa_cons (pe_op op_add pe_int (pe_call G__law_draw (by exact hr.mono (by decide)) (by rfl) T.g__law_draw T.F__law_draw.kp T.b__law_draw .nil pass0 (pa_cons (pv 0) (pa_cons pe_int pa_nil)))) (pa_cons (pe_op op_sub (pe_un un_neg pe_int) (pe_call G__law_draw (by exact hr.mono (by decide)) (by rfl) T.g__law_draw T.F__law_draw.kp T.b__law_draw .nil pass0 (pa_cons (pv 0) (pa_cons pe_int pa_nil)))) pa_nil))))))) pa_nil))))), ?_⟩
    walk_at "go"
    refine ⟨b, c, n, _, rfl, hB, by omega, by decide, by decide, fun r1 H1 r10 r11 e1 hB1 => ?_⟩
    walk_at "go"
    refine ⟨b, c, _, _, rfl, hB1, by omega, by decide, by decide, fun r2 H2 r20 r21 e2 hB2 => ?_⟩
    walk_at "go"
    intro q nq
    generalize hu3 : upd _ q _ = H3
    obtain ⟨e3, hq⟩ := Vc.alloc hu3 nq
    have hq : H3 q = some (.lst (([-1, 256, -100000000000000000000000000000, 100000000000000000000000000000, 257 + r1, -1 - r2] : List Int).map V.int)) := hq
    walk_at "go"
    refine ⟨b, c, q, _, _, rfl, hB2.ed0 e3, by omega, hq, (hB2.fb nq).1.symm, (by show 1 ≤ 6; omega), (by show 6 ≤ 1000; omega), fun j v H4 hv e4 hB4 => ?_⟩
    rw [List.getElem?_map] at hv
    obtain ⟨z, hz, rfl⟩ := Option.map_eq_some_iff.mp hv
    have zb : SmallI z ∧ ¬ (0 ≤ z ∧ z ≤ 255) := by
      have := List.mem_of_getElem? hz
      simp only [List.mem_cons, List.not_mem_nil, or_false] at this
      unfold SmallI
      omega
    exact k z H4 (((e1.trans e2 fun a z => .inl z).ex e3).trans e4 fun a z => .inl z) (hB4.up (by omega)) zb.1 zb.2
theorem ok__law_spoilt (T : Txt K mg A) : FnOk P w K mg base CX0 4 A.f__law_spoilt A.d__law_spoilt ["_law_pen_here", "_law_values"] spSpoilt := by
  have G__law_draw := ok__law_draw (P := P) (w := w) (base := base) T
  have G__law_pick := ok__law_pick (P := P) (w := w) (base := base) T
  have G__law_odd := ok__law_odd (P := P) (w := w) (base := base) T
  refine T.F__law_spoilt.ok sc__law_spoilt (fun vs H Q E h => ?_) (fun cdv Ar outer s H vs Q E hr h => ?_)
  · obtain ⟨b, c, h, n, vals, rfl, _⟩ := h
    rfl
  · obtain ⟨b, c, h, n, vals, rfl, hB, nl, hh, v24, vs_, k⟩ := h
    have lim : LIM = 1000000 := rfl
    refine ⟨_, (pss_cons (ps_set (i := 2) sc__law_spoilt.nd rfl (Or.inl rfl) (pe_callTy Vc.call_lstD (by rfl) T.n_list (by decide +kernel) (pa_cons (pv 1) pa_nil))) (pss_cons (ps_for PassesOwn.never rfl (pi_range1 (by rfl) T.n_range (pa_cons (pe_call G__law_pick (by exact hr.mono (by decide)) (by rfl) T.g__law_pick T.F__law_pick.kp T.b__law_pick .nil pass0 (pa_cons (pv 0) (pa_cons (pe_lst (pa_cons pe_int (pa_cons pe_int (pa_cons pe_int (pa_cons pe_int pa_nil))))) pa_nil))) pa_nil)) (pg_name (i := 3) sc__law_spoilt.nd rfl (Or.inl rfl)) (pss_one (ps_if (pt_cmpR op_gt (pe_callB call_len_seq (by rfl) T.n_len (by decide +kernel) (pa_cons (pv 2) pa_nil)) pe_int (nomark _)) (pss_one (ps_asg (pe_call G__law_odd (by exact hr.mono (by decide)) (by rfl) T.g__law_odd T.F__law_odd.kp T.b__law_odd .nil pass0 (pa_cons (pv 0) pa_nil)) (pg_sub (pv 2) (pe_call G__law_draw (by exact hr.mono (by decide)) (by rfl) T.g__law_draw T.F__law_draw.kp T.b__law_draw .nil pass0 (pa_cons (pv 0) (pa_cons (pe_callB call_len_seq (by rfl) T.n_len (by decide +kernel) (pa_cons (pv 2) pa_nil)) pa_nil))) set_list))) pss_nil))) (pss_one (ps_ret (pv 2))))), ?_⟩
    walk_at "go"
    intro L nL
    generalize hu1 : upd _ L _ = H1
    obtain ⟨e1, hL⟩ := Vc.alloc hu1 nL
    have hB1 := hB.ed0 e1
    have nbL := (hB.fb nL).1
    have ncL := (hB.fb nL).2
    walk_at "go"
    intro q nq
    generalize hu2 : upd _ q _ = H2
    obtain ⟨e2, hq⟩ := Vc.alloc hu2 nq
    have hq : H2 q = some (.lst (([0, 0, 1, 2] : List Int).map V.int)) := hq
    walk_at "go"
    refine ⟨b, c, q, _, _, rfl, hB1.ed0 e2, by omega, hq, (hB1.fb nq).1.symm, (by show 1 ≤ 4; omega), (by show 4 ≤ 1000; omega), fun j v H3 hv e3 hB3 => ?_⟩
    rw [List.getElem?_map] at hv
    obtain ⟨z, hz, rfl⟩ := Option.map_eq_some_iff.mp hv
    have zb : 0 ≤ z ∧ z ≤ 2 := by
      have := List.mem_of_getElem? hz
      simp only [List.mem_cons, List.not_mem_nil, or_false] at this
      omega
    have hL3 := e3.at1 nbL.symm (e2.at0 hL)
    have e03 : Vc.Ed [b] H H3 := ((e1.ex e2).mono fun _ z => nomatch z).trans e3 fun a z => .inl z
    walk_at "go"
    refine ⟨by omega, by omega, for_it walk_range (fun j σ H' => (∃ y : Option V, σ = [some (.ref b), some (.ref h), some (.ref L), y]) ∧ Vc.Ed [b] H H' ∧ Pen H' b c (n + 1 + 12 * j) ∧ ∃ ws : List Int, H' L = some (.lst (ws.map V.int)) ∧ ws.length = vals.length ∧ ∀ v ∈ ws, SmallI v) ⟨⟨none, rfl⟩, e03, hB3, vals, hL3, rfl, vs_⟩ (fun _ _ _ _ _ => trivial) ?_ ?_⟩
    · rintro j x σ H4 H5 hj ⟨⟨y, rfl⟩, e4, hB4, ws, hL4, wl, wb⟩ ⟨rfl, rfl⟩
      have hj : j < z.toNat := by simpa using hj
      have jm : j < 2 := by omega
      walk_at "go"
      rw [List.length_map]
      refine Vc.go_ite (fun g => ?_) (fun g => ?_)
      · walk_at "go"
        refine ⟨b, c, _, rfl, hB4, by omega, fun x H6 e6 hB6 sx _ => ?_⟩
        have hL6 := e6.at1 nbL.symm hL4
        walk_at "go"
        rw [List.length_map]
        refine ⟨b, c, _, _, rfl, hB6, by omega, by omega, Int.lt_of_le_of_lt (show (ws.length : Int) ≤ 24 by omega) (by decide), fun i H7 i0 i1 e7 hB7 => ?_⟩
        have hL7 := e7.at1 nbL.symm hL6
        refine Vc.go_setL hL7 (j := i.toNat) ?_ ?_
        · unfold ixN
          rw [List.length_map, if_pos i0, if_pos i1]
        generalize hu8 : upd _ L _ = H8
        obtain ⟨e8, hL8⟩ := Vc.chg hu8 hL7
        refine ⟨⟨_, rfl⟩, ((e4.trans e6 fun a z => .inl z).trans e7 fun a z => .inl z).one e8 (.inr nL), (hB7.ed1 e8 nbL ncL).up (by omega), ws.set i.toNat x, by rw [hL8, List.map_set], by rw [List.length_set]; exact wl, fun v hv => ?_⟩
        rcases List.mem_or_eq_of_mem_set hv with h | h
        · exact wb v h
        · rw [h]; exact sx
      · walk_at "go"
        exact ⟨⟨_, rfl⟩, e4, hB4.up (by omega), ws, hL4, wl, wb⟩
    · rintro σ H4 ⟨⟨y, rfl⟩, e4, hB4, ws, hL4, wl, wb⟩
      walk_at "go"
      exact k L ws H4 e4 (hB4.up (by omega)) nL hL4 wl wb
end

end My
namespace My
open PySem PySem.Spec PyProof.Rows L2
/-! ### the first value that is no byte -/
def badV (vals : List Int) : V := match badAt vals with
  | some i => .int (i : Nat)
  | none => .non
def spBad : Sp := fun vs H Q _ => ∃ (h : Addr) (vals : List Int), vs = [.ref h] ∧ H h = some (.lst (vals.map V.int)) ∧ vals.length ≤ 100 ∧ Q (badV vals) H
section
variable {P : Program} {w : World} {K : PySem.W.Frag} {mg : Str → Option Value} {base : Heap} {A : Ad}
theorem ok__law_bad (T : Txt K mg A) : FnOk P w K mg base CX0 1 A.f__law_bad A.d__law_bad ["_law_values"] spBad := by
  refine T.F__law_bad.ok sc__law_bad (fun vs H Q E h => ?_) (fun cdv Ar outer s H vs Q E hr h => ?_)
  · obtain ⟨h, vals, rfl, _⟩ := h
    rfl
  · obtain ⟨h, vals, rfl, hh, vl, k⟩ := h
    refine ⟨_, (pss_cons (ps_for PassesOwn.never rfl (pi_range1 (by rfl) T.n_range (pa_cons (pe_callB call_len_seq (by rfl) T.n_len (by decide +kernel) (pa_cons (pv 0) pa_nil)) pa_nil)) (pg_name (i := 1) sc__law_bad.nd rfl (Or.inl rfl)) (pss_one (ps_if (pt_not (pt_chain op_le op_le pe_int (pe_ix ix_list (pv 0) (pv 1) (fun _ _ => rfl)) pe_int)) (pss_one (ps_ret (pv 1))) pss_nil))) (pss_one (ps_ret pe_non))), ?_⟩
    walk_at "go"
    rw [List.length_map]
    refine ⟨by omega, by omega, for_it walk_range (fun j σ H' => (∃ y : Option V, σ = [some (.ref h), y]) ∧ H' = H ∧ ∀ x ∈ vals.take j, (!decide (0 ≤ x ∧ x ≤ 255)) = false) ⟨⟨none, rfl⟩, rfl, fun _ z => nomatch z⟩ (fun _ _ _ _ _ => trivial) ?_ ?_⟩
    · rintro j x σ H4 H5 hj ⟨⟨y, rfl⟩, rfl, byt⟩ ⟨rfl, rfl⟩
      have hj : j < vals.length := by
        have : j < ((vals.length : Int)).toNat := by simpa using hj
        omega
      have hn : vals[j]? = some (vals.getD j 0) := by rw [List.getD_eq_getElem?_getD, List.getElem?_eq_getElem hj]; rfl
      have g1 : atI (vals.map V.int) (0 + (j : Int)) = some (.int (vals.getD j 0)) := at_of (z := 0 + (j : Int)) (j := j) (by omega) (by rw [List.getElem?_map, hn]; rfl)
      generalize vals.getD j 0 = n at hn g1
      have yes : (0 ≤ n ∧ n ≤ 255) → ∀ x ∈ vals.take (j + 1), (!decide (0 ≤ x ∧ x ≤ 255)) = false := fun c x hx => by
        rw [List.take_add_one, hn] at hx
        rcases List.mem_append.mp hx with hx | hx
        · exact byt x hx
        · rw [List.mem_singleton.mp hx, decide_eq_true c]; rfl
      have no : ¬ (0 ≤ n ∧ n ≤ 255) → Q (.int (0 + (j : Int))) H5 := fun c => by
        have e : badAt vals = some j := findIdx_at hn byt (by rw [decide_eq_false c]; rfl)
        unfold badV at k
        rw [e] at k
        rw [Int.zero_add]; exact k
      walk_at "go"
      refine Vc.go_ite (c := 0 ≤ n) (fun g => ?_) (fun g => ?_)
      · walk_at "go"
        refine Vc.go_iten (c := n ≤ 255) (fun g2 => ?_) (fun g2 => ?_)
        · walk_at "go"
          exact no fun z => g2 z.2
        · walk_at "go"
          exact ⟨⟨_, rfl⟩, rfl, yes ⟨g, g2⟩⟩
      · walk_at "go"
        exact no fun z => g z.1
    · rintro σ H4 ⟨⟨y, rfl⟩, rfl, byt⟩
      walk_at "go"
      have e : badAt vals = none := List.findIdx?_eq_none_iff.mpr fun x hx => byt x (by rw [show ((vals.length : Int)).toNat = vals.length by omega, List.take_length]; exact hx)
      unfold badV at k
      rw [e] at k
      exact k
end

end My
namespace My
open PySem PySem.Spec PyProof.Rows L2
/-! ### an address drawn, near the ends -/
def spEdge : Sp := fun vs H Q _ => ∃ (b c : Addr) (n : Nat) (size : Int), vs = [.ref b, .int size] ∧ Pen H b c n ∧ n + 10 ≤ LIM ∧ 1 ≤ size ∧ size ≤ 24 ∧ ∀ x H', Vc.Ed [b] H H' → Pen H' b c (n + 10) → SmallI x → Q (.int x) H'
section
variable {P : Program} {w : World} {K : PySem.W.Frag} {mg : Str → Option Value} {base : Heap} {A : Ad}
theorem ok__law_edge (T : Txt K mg A) : FnOk P w K mg base CX0 3 A.f__law_edge A.d__law_edge ["_law_pen_here", "_law_size"] spEdge := by
  have G__law_draw := ok__law_draw (P := P) (w := w) (base := base) T
  have G__law_pick := ok__law_pick (P := P) (w := w) (base := base) T
  refine T.F__law_edge.ok sc__law_edge (fun vs H Q E h => ?_) (fun cdv Ar outer s H vs Q E hr h => ?_)
  · obtain ⟨b, c, n, size, rfl, _⟩ := h
    rfl
  · obtain ⟨b, c, n, size, rfl, hB, nl, s1, s24, k⟩ := h
    have lim : LIM = 1000000 := rfl
    have lt : size < 2 ^ 190 := Int.lt_of_le_of_lt s24 (by decide)
    refine ⟨_, (pss_cons (ps_set (i := 2) sc__law_edge.nd rfl (Or.inl rfl) (pe_lst (pa_cons (pe_call G__law_draw (by exact hr.mono (by decide)) (by rfl) T.g__law_draw T.F__law_draw.kp T.b__law_draw .nil pass0 (pa_cons (pv 0) (pa_cons (pv 1) pa_nil))) (pa_cons (pe_call G__law_draw (by exact hr.mono (by decide)) (by rfl) T.g__law_draw T.F__law_draw.kp T.b__law_draw .nil pass0 (pa_cons (pv 0) (pa_cons (pv 1) pa_nil))) (pa_cons pe_int (pa_cons (pe_op op_sub (pv 1) pe_int) (pa_cons (pv 1) (pa_cons (pe_op op_add (pv 1) pe_int) (pa_cons (pe_un un_neg pe_int) (pa_cons (pe_op op_sub pe_int (pv 1)) pa_nil)))))))))) (pss_one (ps_ret (pe_call G__law_pick (by exact hr.mono (by decide)) (by rfl) T.g__law_pick T.F__law_pick.kp T.b__law_pick .nil pass0 (pa_cons (pv 0) (pa_cons (pe_op op_cat (pv 2) (pe_lst (pa_cons (pe_op op_pow pe_int pe_int) (pa_cons (pe_op op_sub pe_int (pe_op op_pow pe_int pe_int)) pa_nil)))) pa_nil)))))), ?_⟩
    walk_at "go"
    refine ⟨b, c, n, _, rfl, hB, by omega, by omega, lt, fun r1 H1 r10 r11 e1 hB1 => ?_⟩
    walk_at "go"
    refine ⟨b, c, _, _, rfl, hB1, by omega, by omega, lt, fun r2 H2 r20 r21 e2 hB2 => ?_⟩
    walk_at "go"
    intro q nq
    generalize hu3 : upd _ q _ = H3
    obtain ⟨e3, hq⟩ := Vc.alloc hu3 nq
    have hB3 := hB2.ed0 e3
    walk_at "go"
    intro q2 nq2
    generalize hu4 : upd _ q2 _ = H4
    obtain ⟨e4, hq2⟩ := Vc.alloc hu4 nq2
    have hq4 := e4.at0 hq
    have hB4 := hB3.ed0 e4
    refine Vc.go_cat hq4 hq2 (by show 8 + 2 ≤ 1000; omega) fun Z nZ => ?_
    generalize hu5 : upd _ Z _ = H5
    obtain ⟨e5, hZ⟩ := Vc.alloc hu5 nZ
    have hZ : H5 Z = some (.lst (([r1, r2, 0, size - 1, size, size + 1, -1, 0 - size, 100000000000000000000000000000, 0 - 100000000000000000000000000000] : List Int).map V.int)) := hZ
    walk_at "go"
    refine ⟨b, c, Z, _, _, rfl, hB4.ed0 e5, by omega, hZ, (hB4.fb nZ).1.symm, (by show 1 ≤ 10; omega), (by show 10 ≤ 1000; omega), fun j v H6 hv e6 hB6 => ?_⟩
    rw [List.getElem?_map] at hv
    obtain ⟨z, hz, rfl⟩ := Option.map_eq_some_iff.mp hv
    have zb : SmallI z := by
      have := List.mem_of_getElem? hz
      simp only [List.mem_cons, List.not_mem_nil, or_false] at this
      unfold SmallI
      omega
    exact k z H6 ((((e1.trans e2 fun a z => .inl z).ex e3).ex (e4.ex e5)).trans e6 fun a z => .inl z) (hB6.up (by omega)) zb
end

end My
namespace My
open PySem PySem.Spec PyProof.Rows L2
/-! ### a deed drawn: a byte or a row, read or put -/
inductive Deed where
  | get1 (a : Int)
  | put1 (a b : Int)
  | get2 (p : Addr) (lo hi : Int)
  | put2 (p : Addr) (lo hi : Int) (L : Addr) (ws : List Int)
def Deed.at_ : Deed → V
  | .get1 a => .int a
  | .put1 a _ => .int a
  | .get2 p _ _ => .ref p
  | .put2 p _ _ _ _ => .ref p
def Deed.val : Deed → V
  | .get1 _ => .non
  | .put1 _ b => .int b
  | .get2 _ _ _ => .non
  | .put2 _ _ _ L _ => .ref L
def Deed.In (H : Hp) : Deed → Prop
  | .get1 a => SmallI a
  | .put1 a b => SmallI a ∧ SmallI b
  | .get2 p lo hi => H p = some (.tup [.int lo, .int hi]) ∧ SmallI lo ∧ SmallI hi
  | .put2 p lo hi L ws => H p = some (.tup [.int lo, .int hi]) ∧ SmallI lo ∧ SmallI hi ∧ H L = some (.lst (ws.map V.int)) ∧ ws.length ≤ 24 ∧ ∀ v ∈ ws, SmallI v
def spDeed : Sp := fun vs H Q _ => ∃ (b c : Addr) (n : Nat) (size : Int), vs = [.ref b, .int size] ∧ Pen H b c n ∧ n + 300 ≤ LIM ∧ 1 ≤ size ∧ size ≤ 24 ∧ ∀ t (d : Deed) H', Vc.Ed [b] H H' → Pen H' b c (n + 300) → H' t = some (.tup [d.at_, d.val]) → d.In H' → (∀ p lo hi L ws, d = .put2 p lo hi L ws → H L = none) → Q (.ref t) H'
section
variable {P : Program} {w : World} {K : PySem.W.Frag} {mg : Str → Option Value} {base : Heap} {A : Ad}
theorem ok__law_deed (T : Txt K mg A) : FnOk P w K mg base CX0 6 A.f__law_deed A.d__law_deed ["_law_pen_here", "_law_size"] spDeed := by
  have G__law_draw := ok__law_draw (P := P) (w := w) (base := base) T
  have G__law_pick := ok__law_pick (P := P) (w := w) (base := base) T
  have G__law_odd := ok__law_odd (P := P) (w := w) (base := base) T
  have G__law_edge := ok__law_edge (P := P) (w := w) (base := base) T
  have G__law_bytes := ok__law_bytes (P := P) (w := w) (base := base) T
  have G__law_spoilt := ok__law_spoilt (P := P) (w := w) (base := base) T
  refine T.F__law_deed.ok sc__law_deed (fun vs H Q E h => ?_) (fun cdv Ar outer s H vs Q E hr h => ?_)
  · obtain ⟨b, c, n, size, rfl, _⟩ := h
    rfl
  · obtain ⟨b, c, n, size, rfl, hB, nl, s1, s24, k⟩ := h
    have lim : LIM = 1000000 := rfl
    refine ⟨_, (pss_cons (ps_if (pt_cmpR op_eq (pe_call G__law_draw (by exact hr.mono (by decide)) (by rfl) T.g__law_draw T.F__law_draw.kp T.b__law_draw .nil pass0 (pa_cons (pv 0) (pa_cons pe_int pa_nil))) pe_int (nomark _)) (pss_cons (ps_set (i := 2) sc__law_deed.nd rfl (Or.inl rfl) (pe_call G__law_pick (by exact hr.mono (by decide)) (by rfl) T.g__law_pick T.F__law_pick.kp T.b__law_pick .nil pass0 (pa_cons (pv 0) (pa_cons (pe_lst (pa_cons pe_non (pa_cons (pe_call G__law_draw (by exact hr.mono (by decide)) (by rfl) T.g__law_draw T.F__law_draw.kp T.b__law_draw .nil pass0 (pa_cons (pv 0) (pa_cons pe_int pa_nil))) (pa_cons (pe_call G__law_draw (by exact hr.mono (by decide)) (by rfl) T.g__law_draw T.F__law_draw.kp T.b__law_draw .nil pass0 (pa_cons (pv 0) (pa_cons pe_int pa_nil))) (pa_cons (pe_call G__law_odd (by exact hr.mono (by decide)) (by rfl) T.g__law_odd T.F__law_odd.kp T.b__law_odd .nil pass0 (pa_cons (pv 0) pa_nil)) pa_nil))))) pa_nil)))) (pss_one (ps_ret (pe_tup (pa_cons (pe_call G__law_edge (by exact hr.mono (by decide)) (by rfl) T.g__law_edge T.F__law_edge.kp T.b__law_edge .nil pass0 (pa_cons (pv 0) (pa_cons (pv 1) pa_nil))) (pa_cons (pv 2) pa_nil)))))) pss_nil) (pss_cons (ps_set (i := 3) sc__law_deed.nd rfl (Or.inl rfl) (pe_callB cr_sorted (by rfl) T.n_sorted (by decide +kernel) (pa_cons (pe_lst (pa_cons (pe_call G__law_draw (by exact hr.mono (by decide)) (by rfl) T.g__law_draw T.F__law_draw.kp T.b__law_draw .nil pass0 (pa_cons (pv 0) (pa_cons (pe_op op_add (pv 1) pe_int) pa_nil))) (pa_cons (pe_call G__law_draw (by exact hr.mono (by decide)) (by rfl) T.g__law_draw T.F__law_draw.kp T.b__law_draw .nil pass0 (pa_cons (pv 0) (pa_cons (pe_op op_add (pv 1) pe_int) pa_nil))) pa_nil))) pa_nil))) (pss_cons (ps_set (i := 4) sc__law_deed.nd rfl (Or.inl rfl) (pe_tup (pa_cons (pe_ix ix_list (pv 3) pe_int (fun _ _ => rfl)) (pa_cons (pe_ix ix_list (pv 3) pe_int (fun _ _ => rfl)) pa_nil)))) (Evl.pss_cut (ps_if (pt_cmpR op_eq (pe_call G__law_draw (by exact hr.mono (by decide)) (by rfl) T.g__law_draw T.F__law_draw.kp T.b__law_draw .nil pass0 (pa_cons (pv 0) (pa_cons pe_int pa_nil))) pe_int (nomark _)) (pss_one (ps_set (i := 4) sc__law_deed.nd rfl (Or.inl rfl) (pe_tup (pa_cons (pe_call G__law_edge (by exact hr.mono (by decide)) (by rfl) T.g__law_edge T.F__law_edge.kp T.b__law_edge .nil pass0 (pa_cons (pv 0) (pa_cons (pv 1) pa_nil))) (pa_cons (pe_call G__law_edge (by exact hr.mono (by decide)) (by rfl) T.g__law_edge T.F__law_edge.kp T.b__law_edge .nil pass0 (pa_cons (pv 0) (pa_cons (pv 1) pa_nil))) pa_nil))))) pss_nil) (pss_cons (ps_if (pt_cmpR op_eq (pe_call G__law_draw (by exact hr.mono (by decide)) (by rfl) T.g__law_draw T.F__law_draw.kp T.b__law_draw .nil pass0 (pa_cons (pv 0) (pa_cons pe_int pa_nil))) pe_int (nomark _)) (pss_one (ps_ret (pe_tup (pa_cons (pv 4) (pa_cons pe_non pa_nil))))) pss_nil) (pss_cons (ps_set (i := 5) sc__law_deed.nd rfl (Or.inl rfl) (pe_callB (call_max2 rfl) (by rfl) T.n_max (by decide +kernel) (pa_cons pe_int (pa_cons (pe_callB (call_min2 rfl) (by rfl) T.n_min (by decide +kernel) (pa_cons pe_int (pa_cons (pe_op op_add (pe_op op_sub (pe_ix ix_tup (pv 4) pe_int (fun _ _ => rfl)) (pe_ix ix_tup (pv 4) pe_int (fun _ _ => rfl))) (pe_call G__law_pick (by exact hr.mono (by decide)) (by rfl) T.g__law_pick T.F__law_pick.kp T.b__law_pick .nil pass0 (pa_cons (pv 0) (pa_cons (pe_lst (pa_cons pe_int (pa_cons pe_int (pa_cons pe_int (pa_cons pe_int (pa_cons pe_int (pa_cons (pe_un un_neg pe_int) pa_nil))))))) pa_nil)))) pa_nil))) pa_nil)))) (pss_one (ps_ret (pe_tup (pa_cons (pv 4) (pa_cons (pe_call G__law_spoilt (by exact hr.mono (by decide)) (by rfl) T.g__law_spoilt T.F__law_spoilt.kp T.b__law_spoilt .nil pass0 (pa_cons (pv 0) (pa_cons (pe_call G__law_bytes (by exact hr.mono (by decide)) (by rfl) T.g__law_bytes T.F__law_bytes.kp T.b__law_bytes .nil pass0 (pa_cons (pv 0) (pa_cons (pv 5) pa_nil))) pa_nil))) pa_nil))))))))))), ?_⟩
    walk_at "go"
    refine ⟨b, c, n, _, rfl, hB, by omega, by decide, by decide, fun z H1 z0 z1 e1 hB1 => ?_⟩
    walk_at "go"
    refine Vc.go_ite (fun g => ?_) (fun g => ?_)
    · walk_at "go"
      refine ⟨b, c, _, _, rfl, hB1, by omega, by decide, by decide, fun r1 H2 r10 r11 e2 hB2 => ?_⟩
      walk_at "go"
      refine ⟨b, c, _, _, rfl, hB2, by omega, by decide, by decide, fun r2 H3 r20 r21 e3 hB3 => ?_⟩
      walk_at "go"
      refine ⟨b, c, _, rfl, hB3, by omega, fun x H4 e4 hB4 sx _ => ?_⟩
      walk_at "go"
      intro q nq
      generalize hu5 : upd _ q _ = H5
      obtain ⟨e5, hq⟩ := Vc.alloc hu5 nq
      walk_at "go"
      refine ⟨b, c, q, _, _, rfl, hB4.ed0 e5, by omega, hq, (hB4.fb nq).1.symm, (by show 1 ≤ 4; omega), (by show 4 ≤ 1000; omega), fun i v H6 hv e6 hB6 => ?_⟩
      have vk : v = .non ∨ ∃ y, v = .int y ∧ SmallI y := by
        have := List.mem_of_getElem? hv
        simp only [List.mem_cons, List.not_mem_nil, or_false] at this
        rcases this with h | h | h | h
        · exact .inl h
        · exact .inr ⟨r1, h, by unfold SmallI; omega⟩
        · exact .inr ⟨r2, h, by unfold SmallI; omega⟩
        · exact .inr ⟨x, h, sx⟩
      have e06 : Vc.Ed [b] H H6 := ((((e1.trans e2 fun a z => .inl z).trans e3 fun a z => .inl z).trans e4 fun a z => .inl z).ex e5).trans e6 fun a z => .inl z
      walk_at "go"
      refine ⟨b, c, _, size, rfl, hB6, by omega, s1, s24, fun a H7 e7 hB7 sa => ?_⟩
      walk_at "go"
      intro t nt
      generalize hu8 : upd _ t _ = H8
      obtain ⟨e8, ht⟩ := Vc.alloc hu8 nt
      have e08 := (e06.trans e7 fun a z => .inl z).ex e8
      walk_at "go"
      rcases vk with rfl | ⟨y, rfl, sy⟩
      · exact k t (.get1 a) H8 e08 ((hB7.ed0 e8).up (by omega)) ht sa (fun _ _ _ _ _ z => nomatch z)
      · exact k t (.put1 a y) H8 e08 ((hB7.ed0 e8).up (by omega)) ht ⟨sa, sy⟩ (fun _ _ _ _ _ z => nomatch z)
    · have lt : size + 1 < 2 ^ 190 := Int.lt_of_le_of_lt (show size + 1 ≤ 25 by omega) (by decide)
      walk_at "go"
      refine ⟨b, c, _, _, rfl, hB1, by omega, by omega, lt, fun r1 H2 r10 r11 e2 hB2 => ?_⟩
      walk_at "go"
      refine ⟨b, c, _, _, rfl, hB2, by omega, by omega, lt, fun r2 H3 r20 r21 e3 hB3 => ?_⟩
      walk_at "go"
      intro q nq
      generalize hu4 : upd _ q _ = H4
      obtain ⟨e4, hq⟩ := Vc.alloc hu4 nq
      have hq : H4 q = some (.lst (([r1, r2] : List Int).map V.int)) := hq
      walk_at "go"
      refine Vc.go_sorted (.of hq) (by show 2 < 64; omega) fun ms o perm srt no => ?_
      generalize hu5 : upd _ o _ = H5
      obtain ⟨e5, ho⟩ := Vc.alloc hu5 no
      have ml : ms.length = 2 := by rw [perm.length_eq]; rfl
      obtain ⟨m1, m2, rfl⟩ : ∃ m1 m2, ms = [m1, m2] := by
        match ms, ml with
        | [m1, m2], _ => exact ⟨m1, m2, rfl⟩
      have mb : ∀ x ∈ [m1, m2], 0 ≤ x ∧ x ≤ size := fun x hx => by
        have := perm.mem_iff.mp hx
        simp only [List.mem_cons, List.not_mem_nil, or_false] at this
        omega
      have mb1 := mb m1 (by simp)
      have mb2 := mb m2 (by simp)
      have hB5 := (hB3.ed0 e4).ed0 e5
      have e05 : Vc.Ed [b] H H5 := (((e1.trans e2 fun a z => .inl z).trans e3 fun a z => .inl z).ex e4).ex e5
      have ho : H5 o = some (.lst [.int m1, .int m2]) := ho
      walk_at "go"
      intro p np
      generalize hu6 : upd _ p _ = H6
      obtain ⟨e6, hp⟩ := Vc.alloc hu6 np
      have hB6 := hB5.ed0 e6
      have e06 := e05.ex e6
      have sm : ∀ x : Int, 0 ≤ x ∧ x ≤ size → SmallI x := fun x h => by unfold SmallI; omega
      walk_at "go"
      refine Evl.q_cut (M := fun σ H' => ∃ (p : Addr) (lo hi : Int), σ = [some (.ref b), some (.int size), none, some (.ref o), some (.ref p), none] ∧ Vc.Ed [b] H H' ∧ Pen H' b c (n + 40) ∧ H' p = some (.tup [.int lo, .int hi]) ∧ SmallI lo ∧ SmallI hi) ?_ ?_
      · walk_at "go"
        refine ⟨b, c, _, _, rfl, hB6, by omega, by decide, by decide, fun z H7 z0 z1 e7 hB7 => ?_⟩
        have hp7 := e7.tup _ _ hp
        have e07 := e06.trans e7 fun a z => .inl z
        walk_at "go"
        refine Vc.go_ite (fun g => ?_) (fun g => ?_)
        · walk_at "go"
          refine ⟨b, c, _, size, rfl, hB7, by omega, s1, s24, fun lo H8 e8 hB8 sl => ?_⟩
          walk_at "go"
          refine ⟨b, c, _, size, rfl, hB8, by omega, s1, s24, fun hi H9 e9 hB9 sh => ?_⟩
          walk_at "go"
          intro p2 np2
          generalize hu10 : upd _ p2 _ = H10
          obtain ⟨e10, hp2⟩ := Vc.alloc hu10 np2
          walk_at "go"
          exact ⟨p2, lo, hi, rfl, ((e07.trans e8 fun a z => .inl z).trans e9 fun a z => .inl z).ex e10, (hB9.ed0 e10).up (by omega), hp2, sl, sh⟩
        · walk_at "go"
          exact ⟨p, m1, m2, rfl, e07, hB7.up (by omega), hp7, sm _ mb1, sm _ mb2⟩
      clear hp hB6 e06 hB5 e05 ho
      rintro σ H7 ⟨p, lo, hi, rfl, e07, hB7, hp7, sl, sh⟩
      walk_at "go"
      refine ⟨b, c, _, _, rfl, hB7, by omega, by decide, by decide, fun z H8 z0 z1 e8 hB8 => ?_⟩
      have hp8 := e8.tup _ _ hp7
      have e08 := e07.trans e8 fun a z => .inl z
      walk_at "go"
      refine Vc.go_ite (fun g => ?_) (fun g => ?_)
      · walk_at "go"
        intro t nt
        generalize hu9 : upd _ t _ = H9
        obtain ⟨e9, ht⟩ := Vc.alloc hu9 nt
        walk_at "go"
        exact k t (.get2 p lo hi) H9 (e08.ex e9) ((hB8.ed0 e9).up (by omega)) ht ⟨e9.tup _ _ hp8, sl, sh⟩ (fun _ _ _ _ _ z => nomatch z)
      · walk_at "go"
        intro q2 nq2
        generalize hu9 : upd _ q2 _ = H9
        obtain ⟨e9, hq2⟩ := Vc.alloc hu9 nq2
        have hq2 : H9 q2 = some (.lst (([0, 0, 0, 0, 1, -1] : List Int).map V.int)) := hq2
        walk_at "go"
        refine ⟨b, c, q2, _, _, rfl, hB8.ed0 e9, by omega, hq2, (hB8.fb nq2).1.symm, (by show 1 ≤ 6; omega), (by show 6 ≤ 1000; omega), fun i v H10 hv e10 hB10 => ?_⟩
        rw [List.getElem?_map] at hv
        obtain ⟨pl, hpl, rfl⟩ := Option.map_eq_some_iff.mp hv
        have hp10 := e10.tup _ _ (e9.tup _ _ hp8)
        have e010 := (e08.ex e9).trans e10 fun a z => .inl z
        walk_at "go"
        generalize hm : (if (if hi - lo + pl < 24 then hi - lo + pl else 24) > 0 then (if hi - lo + pl < 24 then hi - lo + pl else 24) else 0 : Int) = m
        have mb : 0 ≤ m ∧ m ≤ 24 := by
          rw [← hm]
          split
          · split <;> omega
          · omega
        refine ⟨b, c, _, m, rfl, hB10, by omega, mb.1, mb.2, fun L vs2 H11 e11 hB11 nL hL vl vb => ?_⟩
        walk_at "go"
        refine ⟨b, c, L, _, vs2, rfl, hB11, by omega, hL, by omega, fun v hv => by have := vb v hv; unfold SmallI; omega, fun L2 ws H12 e12 hB12 nL2 hL2 wl wb => ?_⟩
        walk_at "go"
        intro t nt
        generalize hu13 : upd _ t _ = H13
        obtain ⟨e13, ht⟩ := Vc.alloc hu13 nt
        have e012 := (e010.trans e11 fun a z => .inl z).trans e12 fun a z => .inl z
        walk_at "go"
        refine k t (.put2 p lo hi L2 ws) H13 (e012.ex e13) ((hB12.ed0 e13).up (by omega)) ht ⟨e13.tup _ _ (e12.tup _ _ (e11.tup _ _ hp10)), sl, sh, e13.at0 hL2, by omega, wb⟩ (fun p' lo' hi' L' ws' z => ?_)
        injection z with _ _ _ z _
        rw [← z]
        exact (e010.trans e11 fun a z => .inl z).dom _ nL2
end

end My
namespace My
open PySem PySem.Spec PyProof.Rows L2
/-! ### what is shown fits -/
theorem SmallI.ab {x : Int} (h : SmallI x) : x.natAbs < 10 ^ 31 := by
  obtain ⟨h1, h2⟩ := h
  have : (10 : Nat) ^ 31 = 10000000000000000000000000000000 := by decide
  omega
def WErr.Sm : WErr → Prop
  | .addr a => SmallI a
  | .byte a => SmallI a
  | .len a b => SmallI a ∧ SmallI b
theorem werr_fits (e : WErr) (h : e.Sm) : Vc.Fits e.d := by
  cases e with
  | addr a => exact Vc.Fw.fits (Vc.fw_tup (w := 100) (k := 0) (Vc.fw_cons (Vc.fw_str (z := ("address" : Str)) (n := 7) ⟨by decide, by decide⟩) (Vc.fw_cons (Vc.fw_int 31 (show SmallI a from h).ab) Vc.fw_nil)) (by decide : 2 * (100 + 2) + 4 ≤ 300))
  | byte a => exact Vc.Fw.fits (Vc.fw_tup (w := 100) (k := 0) (Vc.fw_cons (Vc.fw_str (z := ("byte" : Str)) (n := 4) ⟨by decide, by decide⟩) (Vc.fw_cons (Vc.fw_int 31 (show SmallI a from h).ab) Vc.fw_nil)) (by decide : 2 * (100 + 2) + 4 ≤ 300))
  | len a b => exact Vc.Fw.fits (Vc.fw_tup (w := 100) (k := 0) (Vc.fw_cons (Vc.fw_str (z := ("lengths" : Str)) (n := 7) ⟨by decide, by decide⟩) (Vc.fw_cons (Vc.fw_int 31 (show SmallI a ∧ SmallI b from h).1.ab) (Vc.fw_cons (Vc.fw_int 31 (show SmallI a ∧ SmallI b from h).2.ab) Vc.fw_nil))) (by decide : 3 * (100 + 2) + 4 ≤ 400))
theorem one_fits {a : Int} (h : SmallI a) : Vc.Fits (.list [.int a]) := Vc.Fw.fits (w := 100) (k := 1) (Vc.fw_lst (w := 40) (k := 0) (Vc.fw_cons (Vc.fw_int 31 h.ab) Vc.fw_nil) (by decide : 1 * (40 + 2) + 4 ≤ 100) |>.mono (by decide) (by decide))
theorem WErr.dp {K : PySem.W.Frag} {H : Hp} {t : Addr} (e : WErr) (h : H t = some (.tup e.tup)) : Dp K H (.ref t) e.d := by
  cases e with
  | addr a => exact .tup (.inl (.of h)) (.cons (.str _) (.cons (.int _) .nil))
  | byte a => exact .tup (.inl (.of h)) (.cons (.str _) (.cons (.int _) .nil))
  | len a b => exact .tup (.inl (.of h)) (.cons (.str _) (.cons (.int _) (.cons (.int _) .nil)))
theorem Pen.edx {H H' : Hp} {b c : Addr} {n : Nat} (e : Vc.EdX [] H H') (h : Pen H b c n) : Pen H' b c n := by
  obtain ⟨ns, a, r, B, l⟩ := h
  exact ⟨ns, a, r, ⟨e.at0 B.ob, e.at0 B.cl, B.len, B.a0, B.r0⟩, l⟩
theorem Given.edx {A : Ad} {K : PySem.W.Frag} {H H' : Hp} {h : Addr} {vals : List Int} (e : Vc.EdX [] H H') (X : Given A K H h vals) : Given A K H' h vals := by
  rcases X with X | X | ⟨l, ⟨dx, X⟩, Y⟩
  · exact .inl (e.sql (fun z => nomatch z) X)
  · exact .inr (.inl (e.sqt X))
  · exact .inr (.inr ⟨l, ⟨dx, e.at0 X⟩, e.at0 Y⟩)
theorem theard_split {A : Ad} {tl : XK → Hp → VK → Prop} {H : Hp} {Q : VK} (F : V → Hp → Prop) (main : THeard A tl H F) (tail : ∀ v H', F v H' → Q v H') : THeard A tl H Q := fun E R hE hR =>
  main E R (fun cls d H' ⟨e, dd, h1, h2, h3, h4⟩ => hE cls d H' ⟨e, dd, h1, h2, h3, fun p H'' e' hp => tail _ _ (h4 p H'' e' hp)⟩) (fun v H' h => hR v H' fun p H'' e' hp => tail _ _ (h p H'' e' hp))
theorem bytes_fits {ns : List Int} (h : ∀ x ∈ ns, 0 ≤ x ∧ x ≤ 255) (l : ns.length ≤ 24) : Vc.Fits (.list (ns.map PyData.int)) := by
  refine Vc.Fw.fits (w := 1000) (k := 2) ((Vc.fw_lst (w := 4) (k := 1) (W := 1000) (fun x hx => ?_) ?_).mono (by decide) (by decide))
  · obtain ⟨q, hq, rfl⟩ := List.mem_map.mp hx
    have := h q hq
    exact Vc.fw_int 3 (by omega)
  · rw [List.length_map]
    exact Nat.le_trans (Nat.add_le_add_right (Nat.mul_le_mul_right _ l) _) (by decide)
theorem dp_lst {K : PySem.W.Frag} {H : Hp} {p : Addr} {ns : List Int} (h : H p = some (.lst (ns.map V.int))) : Dp K H (.ref p) (.list (ns.map PyData.int)) := .lst (.of h) (dp_ints ns)
theorem ints_fits {ns : List Int} (h : ∀ x ∈ ns, SmallI x) (ln : ns.length ≤ 40) : Vc.Fits (.list (ns.map .int)) := by
  refine Vc.Fw.fits (w := 4000) (k := 1) (Vc.fw_lst (w := 32) (k := 0) (fun x hx => ?_) ?_)
  · obtain ⟨q, hq, rfl⟩ := List.mem_map.mp hx
    exact Vc.fw_int 31 (h q hq).ab
  · rw [List.length_map]
    exact Nat.le_trans (Nat.add_le_add_right (Nat.mul_le_mul_right _ ln) _) (by decide)

end My
namespace My
open PySem PySem.Spec PyProof.Rows L2
/-! ### what a deed is due -/
inductive Out where
  | err (e : WErr)
  | int (x : Int)
  | lst (ws : List Int)
  | non
def Out.d : Out → PyData
  | .err e => e.d
  | .int x => .list [.int x]
  | .lst ws => .list [.list (ws.map PyData.int)]
  | .non => .list [.none]
def Out.Has (H0 H : Hp) (t : Addr) : Out → Prop
  | .err e => H t = some (.tup e.tup)
  | .int x => H t = some (.lst [.int x])
  | .lst ws => ∃ L, Vc.Nw H0 L ∧ H t = some (.lst [.ref L]) ∧ H L = some (.lst (ws.map V.int))
  | .non => H t = some (.lst [.non])
theorem Out.Has.edx {H0 H H' : Hp} {t : Addr} {o : Out} {S : List Addr} (h : Out.Has H0 H t o) (e : Vc.EdX S H H') (m : t ∉ S) (n : ∀ a ∈ S, ¬ Vc.Nw H0 a) : Out.Has H0 H' t o := by
  cases o with
  | err x => exact e.keep _ _ m (fun _ z => nomatch z) h
  | int x => exact e.keep _ _ m (fun _ z => nomatch z) h
  | lst ws =>
    obtain ⟨L, h2, h3, h4⟩ := h
    exact ⟨L, h2, e.keep _ _ m (fun _ z => nomatch z) h3, e.keep _ _ (fun z => n _ z h2) (fun _ z => nomatch z) h4⟩
  | non => exact e.keep _ _ m (fun _ z => nomatch z) h
theorem Out.Has.dp {K : PySem.W.Frag} {H0 H : Hp} {t : Addr} {o : Out} (h : Out.Has H0 H t o) : Dp K H (.ref t) o.d := by
  cases o with
  | err e => exact WErr.dp e h
  | int x => exact .lst (.of h) (.cons (.int _) .nil)
  | lst ws =>
    obtain ⟨L, h2, h3, h4⟩ := h
    exact .lst (.of h3) (.cons (dp_lst h4) .nil)
  | non => exact .lst (.of h) (.cons .non .nil)
def Deed.err (n : Int) : Deed → Option WErr
  | .get1 a => (spanErr true a (a + 1) n).map .addr
  | .put1 a b => putErr1 n a b
  | .get2 _ lo hi => (spanErr false lo hi n).map .addr
  | .put2 _ lo hi _ ws => putErr2 n lo hi ws
def Deed.res (vals : List Int) : Deed → Out
  | .get1 a => .int (vals.getD a.toNat 0)
  | .put1 _ _ => .non
  | .get2 _ lo hi => .lst ((vals.drop lo.toNat).take (hi.toNat - lo.toNat))
  | .put2 _ _ _ _ _ => .non
def Deed.new (vals : List Int) : Deed → List Int
  | .get1 _ => vals
  | .put1 a b => vals.set a.toNat b
  | .get2 _ _ _ => vals
  | .put2 _ lo hi _ ws => vals.take lo.toNat ++ ws ++ vals.drop hi.toNat
def Deed.out (vals : List Int) (d : Deed) : Out := match d.err vals.length with
  | some e => .err e
  | none => d.res vals
def Deed.cells (vals : List Int) (d : Deed) : List Int := match d.err vals.length with
  | some _ => vals
  | none => d.new vals
theorem Deed.bad {vals : List Int} {d : Deed} {e : WErr} (h : d.err vals.length = some e) : d.out vals = .err e ∧ d.cells vals = vals := by
  unfold Deed.out Deed.cells
  rw [h]; exact ⟨rfl, rfl⟩
theorem Deed.good {vals : List Int} {d : Deed} (h : d.err vals.length = none) : d.out vals = d.res vals ∧ d.cells vals = d.new vals := by
  unfold Deed.out Deed.cells
  rw [h]; exact ⟨rfl, rfl⟩
theorem span_none {o : Bool} {lo hi n : Int} (h : spanErr o lo hi n = none) (hh : o = true → hi = lo + 1) : 0 ≤ lo ∧ lo ≤ hi ∧ hi ≤ n := by
  unfold spanErr at h
  cases o with
  | true =>
    have := hh rfl
    rw [if_pos rfl] at h
    split at h
    · cases h
    · omega
  | false =>
    rw [if_neg (by decide)] at h
    split at h
    · cases h
    · split at h
      · cases h
      · omega
theorem span_some {o : Bool} {lo hi n a : Int} (h : spanErr o lo hi n = some a) : a = lo ∨ a = hi := by
  unfold spanErr at h
  cases o with
  | true =>
    rw [if_pos rfl] at h
    split at h
    · injection h with h; exact .inl h.symm
    · cases h
  | false =>
    rw [if_neg (by decide)] at h
    split at h
    · injection h with h; exact .inl h.symm
    · split at h
      · injection h with h; exact .inr h.symm
      · cases h
theorem badAt_lt {ws : List Int} {i : Nat} (h : badAt ws = some i) : i < ws.length := by
  unfold badAt at h
  exact (List.findIdx?_eq_some_iff_findIdx_eq.mp h).1
theorem put2_none {n lo hi : Int} {ws : List Int} (h : putErr2 n lo hi ws = none) : 0 ≤ lo ∧ lo ≤ hi ∧ hi ≤ n ∧ (ws.length : Int) = hi - lo ∧ ∀ v ∈ ws, 0 ≤ v ∧ v ≤ 255 := by
  unfold putErr2 at h
  cases hs : spanErr false lo hi n with
  | some a => rw [hs] at h; cases h
  | none =>
    rw [hs] at h
    obtain ⟨a, b, c⟩ := span_none hs (fun z => nomatch z)
    by_cases cl : (ws.length : Int) ≠ hi - lo
    · have h : (if (ws.length : Int) ≠ hi - lo then some (WErr.len (hi - lo) ws.length) else match badAt ws with
        | some i => some (.byte (i : Nat))
        | none => none) = none := h
      rw [if_pos cl] at h; cases h
    · have h : (if (ws.length : Int) ≠ hi - lo then some (WErr.len (hi - lo) ws.length) else match badAt ws with
        | some i => some (.byte (i : Nat))
        | none => none) = none := h
      rw [if_neg cl] at h
      refine ⟨a, b, c, by omega, badAt_none ?_⟩
      cases hb : badAt ws with
      | none => rfl
      | some i => rw [hb] at h; cases h
theorem put1_none {n a b : Int} (h : putErr1 n a b = none) : (0 ≤ a ∧ a < n) ∧ 0 ≤ b ∧ b ≤ 255 := by
  unfold putErr1 at h
  split at h
  · cases h
  · split at h
    · exact ⟨by omega, by assumption⟩
    · cases h
theorem Deed.len {vals : List Int} {d : Deed} : (d.cells vals).length = vals.length := by
  cases he : d.err vals.length with
  | some e => rw [(Deed.bad he).2]
  | none =>
    rw [(Deed.good he).2]
    cases d with
    | get1 a => rfl
    | put1 a b => exact List.length_set
    | get2 p lo hi => rfl
    | put2 p lo hi L ws =>
      obtain ⟨a, b, c, d, _⟩ := put2_none he
      show (vals.take lo.toNat ++ ws ++ vals.drop hi.toNat).length = _
      rw [List.length_append, List.length_append, List.length_take, List.length_drop]
      omega
theorem Deed.by_ {vals : List Int} {d : Deed} (h : ∀ v ∈ vals, 0 ≤ v ∧ v ≤ 255) : ∀ v ∈ d.cells vals, 0 ≤ v ∧ v ≤ 255 := by
  cases he : d.err vals.length with
  | some e => rw [(Deed.bad he).2]; exact h
  | none =>
    rw [(Deed.good he).2]
    cases d with
    | get1 a => exact h
    | put1 a b => exact fun v hv => (List.mem_or_eq_of_mem_set hv).elim (h v) fun e => by rw [e]; exact (put1_none he).2
    | get2 p lo hi => exact h
    | put2 p lo hi L ws =>
      obtain ⟨a, b, c, d, w⟩ := put2_none he
      intro v hv
      rcases List.mem_append.mp hv with hv | hv
      · rcases List.mem_append.mp hv with hv | hv
        · exact h v (List.mem_of_mem_take hv)
        · exact w v hv
      · exact h v (List.mem_of_mem_drop hv)
theorem small_of {x : Int} (h : -100 ≤ x ∧ x ≤ 1000) : SmallI x := by unfold SmallI; omega
theorem nest_fits {ns : List Int} (h : ∀ x ∈ ns, SmallI x) (l : ns.length ≤ 40) : Vc.Fits (.list [.list (ns.map PyData.int)]) := by
  refine Vc.Fw.fits (w := 4000) (k := 2) ((Vc.fw_lst (w := 3500) (k := 1) (W := 4000) (Vc.fw_cons (Vc.fw_lst (w := 32) (k := 0) (fun x hx => ?_) ?_) Vc.fw_nil) (by show 1 * (3500 + 2) + 4 ≤ 4000; decide)).mono (by decide) (by decide))
  · obtain ⟨q, hq, rfl⟩ := List.mem_map.mp hx
    exact Vc.fw_int 31 (h q hq).ab
  · rw [List.length_map]
    exact Nat.le_trans (Nat.add_le_add_right (Nat.mul_le_mul_right _ l) _) (by decide)
theorem non_fits : Vc.Fits (.list [.none]) := Vc.Fw.fits (w := 100) (k := 1) ((Vc.fw_lst (w := 40) (k := 0) (W := 100) (Vc.fw_cons Vc.fw_non Vc.fw_nil) (by decide)).mono (by decide) (by decide))
theorem Deed.fits {H : Hp} {vals : List Int} {d : Deed} (I : d.In H) (h : ∀ v ∈ vals, 0 ≤ v ∧ v ≤ 255) (v24 : vals.length ≤ 24) : Vc.Fits (d.out vals).d := by
  cases he : d.err vals.length with
  | some e =>
    rw [(Deed.bad he).1]
    refine werr_fits e ?_
    cases d with
    | get1 a =>
      obtain ⟨x, hx, rfl⟩ := Option.map_eq_some_iff.mp (show (spanErr true a (a + 1) vals.length).map WErr.addr = some e from he)
      have : SmallI a := I
      unfold spanErr at hx
      rw [if_pos rfl] at hx
      split at hx
      · injection hx with hx; rw [← hx]; exact this
      · cases hx
    | put1 a b =>
      have he : putErr1 vals.length a b = some e := he
      have : SmallI a := I.1
      unfold putErr1 at he
      split at he
      · injection he with he; rw [← he]; exact this
      · split at he
        · cases he
        · injection he with he; rw [← he]; exact this
    | get2 p lo hi =>
      obtain ⟨x, hx, rfl⟩ := Option.map_eq_some_iff.mp (show (spanErr false lo hi vals.length).map WErr.addr = some e from he)
      rcases span_some hx with rfl | rfl
      · exact I.2.1
      · exact I.2.2
    | put2 p lo hi L ws =>
      obtain ⟨_, sl, sh, _, wl, wb⟩ := I
      have he : putErr2 vals.length lo hi ws = some e := he
      unfold putErr2 at he
      cases hs : spanErr false lo hi vals.length with
      | some a =>
        rw [hs] at he
        injection he with he
        rw [← he]
        rcases span_some hs with rfl | rfl
        · exact sl
        · exact sh
      | none =>
        obtain ⟨a, b, c⟩ := span_none hs (fun z => nomatch z)
        rw [hs] at he
        have he : (if (ws.length : Int) ≠ hi - lo then some (WErr.len (hi - lo) ws.length) else match badAt ws with
          | some i => some (.byte (i : Nat))
          | none => none) = some e := he
        by_cases cl : (ws.length : Int) ≠ hi - lo
        · rw [if_pos cl] at he
          injection he with he
          rw [← he]
          exact ⟨small_of (by omega), small_of (by omega)⟩
        · rw [if_neg cl] at he
          cases hb : badAt ws with
          | none => rw [hb] at he; cases he
          | some i =>
            rw [hb] at he
            injection he with he
            rw [← he]
            have := badAt_lt hb
            exact small_of (by omega)
  | none =>
    rw [(Deed.good he).1]
    cases d with
    | get1 a =>
      refine one_fits (small_of ?_)
      by_cases c : a.toNat < vals.length
      · rw [List.getD_eq_getElem?_getD, List.getElem?_eq_getElem c]
        have := h _ (List.getElem_mem c)
        show -100 ≤ vals[a.toNat] ∧ vals[a.toNat] ≤ 1000
        omega
      · rw [List.getD_eq_getElem?_getD, List.getElem?_eq_none (by omega)]
        decide
    | put1 a b => exact non_fits
    | get2 p lo hi =>
      refine nest_fits (fun x hx => ?_) ?_
      · have := h x (List.mem_of_mem_drop (List.mem_of_mem_take hx))
        exact small_of (by omega)
      · rw [List.length_take, List.length_drop]; omega
    | put2 p lo hi L ws => exact non_fits
theorem put_step {vals ws : List Int} {lo k : Nat} (h1 : lo + k < vals.length) (h2 : k < ws.length) : (vals.take lo ++ ws.take k ++ vals.drop (lo + k)).set (lo + k) (ws.getD k 0) = vals.take lo ++ ws.take (k + 1) ++ vals.drop (lo + (k + 1)) := by
  have e : vals.drop (lo + k) = vals[lo + k] :: vals.drop (lo + k + 1) := List.drop_eq_getElem_cons h1
  have l : (vals.take lo ++ ws.take k).length = lo + k := by rw [List.length_append, List.length_take, List.length_take]; omega
  have g : ws.getD k 0 = ws[k] := by rw [List.getD_eq_getElem?_getD, List.getElem?_eq_getElem h2]; rfl
  have t : ws.take (k + 1) = ws.take k ++ [ws[k]] := (List.take_append_getElem h2).symm
  rw [e, List.set_append_right _ _ (by omega), l, Nat.sub_self, List.set_cons_zero, g, t]
  simp only [List.append_assoc, List.cons_append, List.nil_append, Nat.add_assoc]
theorem span2_1 {lo hi n : Int} (h : ¬ (0 ≤ lo ∧ lo ≤ n)) : spanErr false lo hi n = some lo := by
  unfold spanErr; rw [if_neg (by decide), if_pos (by omega)]
theorem span2_2 {lo hi n : Int} (h : 0 ≤ lo ∧ lo ≤ n) (h2 : ¬ (lo ≤ hi ∧ hi ≤ n)) : spanErr false lo hi n = some hi := by
  unfold spanErr; rw [if_neg (by decide), if_neg (by omega), if_pos (by omega)]
theorem span2_ok {lo hi n : Int} (h : 0 ≤ lo ∧ lo ≤ n) (h2 : lo ≤ hi ∧ hi ≤ n) : spanErr false lo hi n = none := by
  unfold spanErr; rw [if_neg (by decide), if_neg (by omega), if_neg (by omega)]
def spDue : Sp := fun vs H Q _ => ∃ (c : Addr) (d : Deed) (vals : List Int), vs = [.ref c, d.at_, d.val] ∧ H c = some (.lst (vals.map V.int)) ∧ vals.length ≤ 24 ∧ d.In H ∧ (∀ p lo hi L ws, d = .put2 p lo hi L ws → c ≠ L) ∧
  ∀ t H', Vc.Ed [c] H H' → H' c = some (.lst ((d.cells vals).map V.int)) → H t = none → (d.out vals).Has H H' t → Q (.ref t) H'
section
variable {P : Program} {w : World} {K : PySem.W.Frag} {mg : Str → Option Value} {base : Heap} {A : Ad}
theorem ok__law_due (T : Txt K mg A) : FnOk P w K mg base CX0 2 A.f__law_due A.d__law_due ["_law_cells_here", "_law_at", "_law_values"] spDue := by
  have G__law_bad := ok__law_bad (P := P) (w := w) (base := base) T
  refine T.F__law_due.ok sc__law_due (fun vs H Q E h => ?_) (fun cdv Ar outer s H vs Q E hr h => ?_)
  · obtain ⟨c, d, vals, rfl, _⟩ := h
    rfl
  · obtain ⟨c, d, vals, rfl, hc, v24, dI, dL, k⟩ := h
    refine ⟨_, (pss_cons (ps_set (i := 3) sc__law_due.nd rfl (Or.inl rfl) (pe_callB call_len_seq (by rfl) T.n_len (by decide +kernel) (pa_cons (pv 0) pa_nil))) (pss_cons (ps_if (pt_not (pt_val (pe_callB call_isi (by rfl) T.n_isinstance (by decide +kernel) (pa_cons (pv 1) (pa_cons (pe_bltn (v := .ty "tuple") (by rfl) T.n_tuple (by decide +kernel) rfl) pa_nil))))) (pss_cons (ps_if (pt_not (pt_chain op_le op_lt pe_int (pv 1) (pv 3))) (pss_one (ps_ret (pe_tup (pa_cons pe_str (pa_cons (pv 1) pa_nil))))) pss_nil) (pss_cons (ps_if (pt_cmpR op_isN (pv 2) pe_non (nomark _)) (pss_one (ps_ret (pe_lst (pa_cons (pe_ix ix_list (pv 0) (pv 1) (fun _ _ => rfl)) pa_nil)))) pss_nil) (pss_cons (ps_if (pt_not (pt_chain op_le op_le pe_int (pv 2) pe_int)) (pss_one (ps_ret (pe_tup (pa_cons pe_str (pa_cons (pv 1) pa_nil))))) pss_nil) (pss_cons (ps_asg (pv 2) (pg_sub (pv 0) (pv 1) set_list)) (pss_one (ps_ret (pe_lst (pa_cons pe_non pa_nil)))))))) pss_nil) (pss_cons (ps_if (pt_not (pt_chain op_le op_le pe_int (pe_ix ix_tup (pv 1) pe_int (fun _ _ => rfl)) (pv 3))) (pss_one (ps_ret (pe_tup (pa_cons pe_str (pa_cons (pe_ix ix_tup (pv 1) pe_int (fun _ _ => rfl)) pa_nil))))) pss_nil) (pss_cons (ps_if (pt_not (pt_chain op_le op_le (pe_ix ix_tup (pv 1) pe_int (fun _ _ => rfl)) (pe_ix ix_tup (pv 1) pe_int (fun _ _ => rfl)) (pv 3))) (pss_one (ps_ret (pe_tup (pa_cons pe_str (pa_cons (pe_ix ix_tup (pv 1) pe_int (fun _ _ => rfl)) pa_nil))))) pss_nil) (pss_cons (ps_if (pt_cmpR op_isN (pv 2) pe_non (nomark _)) (pss_one (ps_ret (pe_lst (pa_cons (pe_slice sl_list (pv 0) (po_some (pe_ix ix_tup (pv 1) pe_int (fun _ _ => rfl))) (po_some (pe_ix ix_tup (pv 1) pe_int (fun _ _ => rfl)))) pa_nil)))) pss_nil) (pss_cons (ps_if (pt_cmpR op_ne (pe_callB call_len_seq (by rfl) T.n_len (by decide +kernel) (pa_cons (pv 2) pa_nil)) (pe_op op_sub (pe_ix ix_tup (pv 1) pe_int (fun _ _ => rfl)) (pe_ix ix_tup (pv 1) pe_int (fun _ _ => rfl))) (nomark _)) (pss_one (ps_ret (pe_tup (pa_cons pe_str (pa_cons (pe_op op_sub (pe_ix ix_tup (pv 1) pe_int (fun _ _ => rfl)) (pe_ix ix_tup (pv 1) pe_int (fun _ _ => rfl))) (pa_cons (pe_callB call_len_seq (by rfl) T.n_len (by decide +kernel) (pa_cons (pv 2) pa_nil)) pa_nil)))))) pss_nil) (pss_cons (ps_if (pt_cmpR op_notN (pe_call G__law_bad (by exact hr.mono (by decide)) (by rfl) T.g__law_bad T.F__law_bad.kp T.b__law_bad .nil pass0 (pa_cons (pv 2) pa_nil)) pe_non (nomark _)) (pss_one (ps_ret (pe_tup (pa_cons pe_str (pa_cons (pe_call G__law_bad (by exact hr.mono (by decide)) (by rfl) T.g__law_bad T.F__law_bad.kp T.b__law_bad .nil pass0 (pa_cons (pv 2) pa_nil)) pa_nil))))) pss_nil) (pss_cons (ps_for PassesOwn.never rfl (pi_range1 (by rfl) T.n_range (pa_cons (pe_callB call_len_seq (by rfl) T.n_len (by decide +kernel) (pa_cons (pv 2) pa_nil)) pa_nil)) (pg_name (i := 4) sc__law_due.nd rfl (Or.inl rfl)) (pss_one (ps_asg (pe_ix ix_list (pv 2) (pv 4) (fun _ _ => rfl)) (pg_sub (pv 0) (pe_op op_add (pe_ix ix_tup (pv 1) pe_int (fun _ _ => rfl)) (pv 4)) set_list)))) (pss_one (ps_ret (pe_lst (pa_cons pe_non pa_nil)))))))))))), ?_⟩
    have fail : ∀ e, d.err vals.length = some e → ∀ t H', Vc.Ed [] H H' → H t = none → H' t = some (.tup e.tup) → Q (.ref t) H' := fun e he t H' e1 nt ht => by
      obtain ⟨o1, o2⟩ := Deed.bad he
      refine k t H' (e1.mono fun _ z => nomatch z) (by rw [o2]; exact e1.at0 hc) nt ?_
      rw [o1]; exact ht
    have fine : d.err vals.length = none → ∀ t H', Vc.Ed [c] H H' → H' c = some (.lst ((d.new vals).map V.int)) → H t = none → (d.res vals).Has H H' t → Q (.ref t) H' := fun he t H' e1 hc' nt o => by
      obtain ⟨o1, o2⟩ := Deed.good he
      refine k t H' e1 (by rw [o2]; exact hc') nt ?_
      rw [o1]; exact o
    clear k
    cases d with
    | get1 a =>
      rw [show (Deed.get1 a).at_ = V.int a from rfl, show (Deed.get1 a).val = V.non from rfl]
      walk_at "go"
      rw [List.length_map]
      have no : ¬ (0 ≤ a ∧ a < (vals.length : Int)) → (Deed.get1 a).err vals.length = some (.addr a) := fun z => by
        show (spanErr true a (a + 1) vals.length).map WErr.addr = _
        unfold spanErr; rw [if_pos rfl, if_pos (by omega)]; rfl
      refine Vc.go_ite (c := 0 ≤ a) (fun g => ?_) (fun g => ?_)
      · walk_at "go"
        refine Vc.go_iten (c := a < (vals.length : Int)) (fun g2 => ?_) (fun g2 => ?_)
        · walk_at "go"
          intro t nt
          generalize hu : upd _ t _ = H1
          obtain ⟨e1, ht⟩ := Vc.alloc hu nt
          exact fail _ (no fun z => g2 z.2) t H1 e1 nt ht
        · have he : (Deed.get1 a).err vals.length = none := by
            show (spanErr true a (a + 1) vals.length).map WErr.addr = _
            unfold spanErr; rw [if_pos rfl, if_neg (by omega)]; rfl
          have g1 : atI (vals.map V.int) a = some (.int (vals.getD a.toNat 0)) := at_of (z := a) (j := a.toNat) (by omega) (by rw [List.getElem?_map, List.getElem?_eq_getElem (by omega), List.getD_eq_getElem?_getD, List.getElem?_eq_getElem (by omega)]; rfl)
          walk_at "go"
          intro t nt
          generalize hu : upd _ t _ = H1
          obtain ⟨e1, ht⟩ := Vc.alloc hu nt
          exact fine he t H1 (e1.mono fun _ z => nomatch z) (e1.at0 hc) nt ht
      · walk_at "go"
        intro t nt
        generalize hu : upd _ t _ = H1
        obtain ⟨e1, ht⟩ := Vc.alloc hu nt
        exact fail _ (no fun z => g z.1) t H1 e1 nt ht
    | put1 a b =>
      rw [show (Deed.put1 a b).at_ = V.int a from rfl, show (Deed.put1 a b).val = V.int b from rfl]
      walk_at "go"
      rw [List.length_map]
      have no : ¬ (0 ≤ a ∧ a < (vals.length : Int)) → (Deed.put1 a b).err vals.length = some (.addr a) := fun z => by
        show putErr1 vals.length a b = _
        unfold putErr1; rw [if_pos (by omega)]
      have no2 : 0 ≤ a → a < (vals.length : Int) → ¬ (0 ≤ b ∧ b ≤ 255) → (Deed.put1 a b).err vals.length = some (.byte a) := fun z z1 z2 => by
        show putErr1 vals.length a b = _
        unfold putErr1; rw [if_neg (by omega), if_neg z2]
      refine Vc.go_ite (c := 0 ≤ a) (fun g => ?_) (fun g => ?_)
      · walk_at "go"
        refine Vc.go_iten (c := a < (vals.length : Int)) (fun g2 => ?_) (fun g2 => ?_)
        · walk_at "go"
          intro t nt
          generalize hu : upd _ t _ = H1
          obtain ⟨e1, ht⟩ := Vc.alloc hu nt
          exact fail _ (no fun z => g2 z.2) t H1 e1 nt ht
        · walk_at "go"
          refine Vc.go_ite (c := 0 ≤ b) (fun g3 => ?_) (fun g3 => ?_)
          · walk_at "go"
            refine Vc.go_iten (c := b ≤ 255) (fun g4 => ?_) (fun g4 => ?_)
            · walk_at "go"
              intro t nt
              generalize hu : upd _ t _ = H1
              obtain ⟨e1, ht⟩ := Vc.alloc hu nt
              exact fail _ (no2 g g2 fun z => g4 z.2) t H1 e1 nt ht
            · have he : (Deed.put1 a b).err vals.length = none := by
                show putErr1 vals.length a b = _
                unfold putErr1; rw [if_neg (by omega), if_pos ⟨g3, g4⟩]
              walk_at "go"
              refine Vc.go_setL hc (j := a.toNat) ?_ ?_
              · unfold ixN
                rw [List.length_map, if_pos (by omega), if_pos (by omega)]
              generalize hu3 : upd _ c _ = H3
              obtain ⟨e3, hc3⟩ := Vc.chg hu3 hc
              rw [← show (vals.set a.toNat b).map V.int = (vals.map V.int).set a.toNat (.int b) from List.map_set ..] at hc3
              walk_at "go"
              intro t nt
              generalize hu : upd _ t _ = H4
              obtain ⟨e4, ht⟩ := Vc.alloc hu nt
              exact fine he t H4 (e3.ex e4) (e4.at0 hc3) (e3.dom _ nt) ht
          · walk_at "go"
            intro t nt
            generalize hu : upd _ t _ = H1
            obtain ⟨e1, ht⟩ := Vc.alloc hu nt
            exact fail _ (no2 g g2 fun z => g3 z.1) t H1 e1 nt ht
      · walk_at "go"
        intro t nt
        generalize hu : upd _ t _ = H1
        obtain ⟨e1, ht⟩ := Vc.alloc hu nt
        exact fail _ (no fun z => g z.1) t H1 e1 nt ht
    | get2 p lo hi =>
      rw [show (Deed.get2 p lo hi).at_ = V.ref p from rfl, show (Deed.get2 p lo hi).val = V.non from rfl]
      obtain ⟨hp, sl, sh⟩ := dI
      have no1 : ¬ (0 ≤ lo ∧ lo ≤ (vals.length : Int)) → (Deed.get2 p lo hi).err vals.length = some (.addr lo) := fun z => by
        show (spanErr false lo hi vals.length).map WErr.addr = _
        rw [span2_1 z]; rfl
      have no2 : (0 ≤ lo ∧ lo ≤ (vals.length : Int)) → ¬ (lo ≤ hi ∧ hi ≤ (vals.length : Int)) → (Deed.get2 p lo hi).err vals.length = some (.addr hi) := fun z z2 => by
        show (spanErr false lo hi vals.length).map WErr.addr = _
        rw [span2_2 z z2]; rfl
      walk_at "go"
      rw [List.length_map]
      refine Vc.go_ite (c := 0 ≤ lo) (fun g1 => ?_) (fun g1 => ?_)
      · walk_at "go"
        refine Vc.go_iten (c := lo ≤ (vals.length : Int)) (fun g2 => ?_) (fun g2 => ?_)
        · walk_at "go"
          intro t nt
          generalize hu : upd _ t _ = H1
          obtain ⟨e1, ht⟩ := Vc.alloc hu nt
          exact fail _ (no1 fun z => g2 z.2) t H1 e1 nt ht
        · walk_at "go"
          refine Vc.go_ite (c := lo ≤ hi) (fun g3 => ?_) (fun g3 => ?_)
          · walk_at "go"
            refine Vc.go_iten (c := hi ≤ (vals.length : Int)) (fun g4 => ?_) (fun g4 => ?_)
            · walk_at "go"
              intro t nt
              generalize hu : upd _ t _ = H1
              obtain ⟨e1, ht⟩ := Vc.alloc hu nt
              exact fail _ (no2 ⟨g1, g2⟩ fun z => g4 z.2) t H1 e1 nt ht
            · have so := span2_ok ⟨g1, g2⟩ ⟨g3, g4⟩
              have he : (Deed.get2 p lo hi).err vals.length = none := by
                show (spanErr false lo hi vals.length).map WErr.addr = _
                rw [so]; rfl
              walk_at "go"
              intro L nL
              generalize hu1 : upd _ L _ = H1
              obtain ⟨e1, hL⟩ := Vc.alloc hu1 nL
              rw [cut_int vals lo hi (by omega) (by omega)] at hL
              walk_at "go"
              intro t nt
              generalize hu : upd _ t _ = H2
              obtain ⟨e2, ht⟩ := Vc.alloc hu nt
              exact fine he t H2 ((e1.ex e2).mono fun _ z => nomatch z) ((e1.ex e2).at0 hc) (e1.dom _ nt) ⟨L, .inl nL, ht, e2.at0 hL⟩
          · walk_at "go"
            intro t nt
            generalize hu : upd _ t _ = H1
            obtain ⟨e1, ht⟩ := Vc.alloc hu nt
            exact fail _ (no2 ⟨g1, g2⟩ fun z => g3 z.1) t H1 e1 nt ht
      · walk_at "go"
        intro t nt
        generalize hu : upd _ t _ = H1
        obtain ⟨e1, ht⟩ := Vc.alloc hu nt
        exact fail _ (no1 fun z => g1 z.1) t H1 e1 nt ht
    | put2 p lo hi L ws =>
      rw [show (Deed.put2 p lo hi L ws).at_ = V.ref p from rfl, show (Deed.put2 p lo hi L ws).val = V.ref L from rfl]
      obtain ⟨hp, sl, sh, hL, wl, wb⟩ := dI
      have nL := dL _ _ _ _ _ rfl
      have no1 : ¬ (0 ≤ lo ∧ lo ≤ (vals.length : Int)) → (Deed.put2 p lo hi L ws).err vals.length = some (.addr lo) := fun z => by
        show putErr2 vals.length lo hi ws = _
        unfold putErr2; rw [span2_1 z]
      have no2 : (0 ≤ lo ∧ lo ≤ (vals.length : Int)) → ¬ (lo ≤ hi ∧ hi ≤ (vals.length : Int)) → (Deed.put2 p lo hi L ws).err vals.length = some (.addr hi) := fun z z2 => by
        show putErr2 vals.length lo hi ws = _
        unfold putErr2; rw [span2_2 z z2]
      walk_at "go"
      rw [List.length_map]
      refine Vc.go_ite (c := 0 ≤ lo) (fun g1 => ?_) (fun g1 => ?_)
      · walk_at "go"
        refine Vc.go_iten (c := lo ≤ (vals.length : Int)) (fun g2 => ?_) (fun g2 => ?_)
        · walk_at "go"
          intro t nt
          generalize hu : upd _ t _ = H1
          obtain ⟨e1, ht⟩ := Vc.alloc hu nt
          exact fail _ (no1 fun z => g2 z.2) t H1 e1 nt ht
        · walk_at "go"
          refine Vc.go_ite (c := lo ≤ hi) (fun g3 => ?_) (fun g3 => ?_)
          · walk_at "go"
            refine Vc.go_iten (c := hi ≤ (vals.length : Int)) (fun g4 => ?_) (fun g4 => ?_)
            · walk_at "go"
              intro t nt
              generalize hu : upd _ t _ = H1
              obtain ⟨e1, ht⟩ := Vc.alloc hu nt
              exact fail _ (no2 ⟨g1, g2⟩ fun z => g4 z.2) t H1 e1 nt ht
            · have so := span2_ok ⟨g1, g2⟩ ⟨g3, g4⟩
              walk_at "go"
              rw [List.length_map]
              have ho : (Deed.put2 p lo hi L ws).err vals.length = if (ws.length : Int) ≠ hi - lo then some (.len (hi - lo) ws.length) else match badAt ws with
                  | some i => some (.byte (i : Nat))
                  | none => none := by
                show putErr2 vals.length lo hi ws = _
                unfold putErr2; rw [so]; try rfl
              by_cases cl : (ws.length : Int) ≠ hi - lo
              · rw [if_pos cl] at ho
                refine Vc.go_itenT' cl ?_
                walk_at "go"
                rw [List.length_map]
                intro t nt
                generalize hu : upd _ t _ = H1
                obtain ⟨e1, ht⟩ := Vc.alloc hu nt
                exact fail _ ho t H1 e1 nt ht
              have ce : (ws.length : Int) = hi - lo := by omega
              rw [if_neg cl] at ho
              refine Vc.go_itenF' ce ?_
              walk_at "go"
              refine ⟨L, ws, rfl, hL, by omega, ?_⟩
              cases hb : badAt ws with
              | some i =>
                rw [hb] at ho
                have hbv : badV ws = .int (i : Nat) := by unfold badV; rw [hb]
                rw [hbv]
                walk_at "go"
                rw [if_pos (by rw [decide_eq_false (fun z => by cases z)]; rfl)]
                walk_at "go"
                refine ⟨L, ws, rfl, hL, by omega, ?_⟩
                rw [hbv]
                walk_at "go"
                intro t nt
                generalize hu : upd _ t _ = H1
                obtain ⟨e1, ht⟩ := Vc.alloc hu nt
                exact fail _ ho t H1 e1 nt ht
              | none =>
                rw [hb] at ho
                have hbv : badV ws = .non := by unfold badV; rw [hb]
                rw [hbv]
                walk_at "go"
                rw [List.length_map]
                obtain ⟨lN, rfl⟩ : ∃ lN : Nat, lo = (lN : Int) := ⟨lo.toNat, by omega⟩
                refine ⟨by omega, by omega, for_it walk_range (fun j σ H' => (∃ y : Option V, σ = [some (.ref c), some (.ref p), some (.ref L), some (.int vals.length), y]) ∧ Vc.Ed [c] H H' ∧ H' c = some (.lst ((vals.take lN ++ ws.take j ++ vals.drop (lN + j)).map V.int))) ⟨⟨none, rfl⟩, .refl, ?_⟩ (fun _ _ _ _ _ => trivial) ?_ ?_⟩
                · rw [List.take_zero, List.append_nil, Nat.add_zero, List.take_append_drop]; exact hc
                · rintro j x σ H4 H5 hj ⟨⟨y, rfl⟩, e4, hc4⟩ ⟨rfl, rfl⟩
                  have hj : j < ws.length := by
                    have : j < ((ws.length : Int)).toNat := by simpa using hj
                    omega
                  have hL4 := e4.at1 nL.symm hL
                  have hp4 := e4.tup _ _ hp
                  have g1 : atI (ws.map V.int) (0 + (j : Int)) = some (.int (ws.getD j 0)) := at_of (z := 0 + (j : Int)) (j := j) (by omega) (by rw [List.getElem?_map, List.getElem?_eq_getElem hj, List.getD_eq_getElem?_getD, List.getElem?_eq_getElem hj]; rfl)
                  walk_at "go"
                  refine Vc.go_setL hc4 (j := lN + j) ?_ ?_
                  · unfold ixN
                    rw [List.length_map, List.length_append, List.length_append, List.length_take, List.length_take, List.length_drop, if_pos (by omega), if_pos (by omega)]
                    congr 1
                    omega
                  generalize hu5 : upd _ c _ = H6
                  obtain ⟨e6, hc6⟩ := Vc.chg hu5 hc4
                  rw [← show ((vals.take lN ++ ws.take j ++ vals.drop (lN + j)).set (lN + j) (ws.getD j 0)).map V.int = ((vals.take lN ++ ws.take j ++ vals.drop (lN + j)).map V.int).set (lN + j) (.int (ws.getD j 0)) from List.map_set .., put_step (by omega) hj] at hc6
                  exact ⟨⟨_, rfl⟩, e4.trans e6 fun a z => .inl z, hc6⟩
                · rintro σ H4 ⟨⟨y, rfl⟩, e4, hc4⟩
                  rw [show ((ws.length : Int)).toNat = ws.length by omega, List.take_length] at hc4
                  walk_at "go"
                  intro t nt
                  generalize hu : upd _ t _ = H5
                  obtain ⟨e5, ht⟩ := Vc.alloc hu nt
                  refine fine ho t H5 (e4.ex e5) ?_ (e4.dom _ nt) ht
                  have : hi.toNat = lN + ws.length := by omega
                  show H5 c = some (.lst ((vals.take (lN : Int).toNat ++ ws ++ vals.drop hi.toNat).map V.int))
                  rw [this]
                  exact e5.at0 hc4
          · walk_at "go"
            intro t nt
            generalize hu : upd _ t _ = H1
            obtain ⟨e1, ht⟩ := Vc.alloc hu nt
            exact fail _ (no2 ⟨g1, g2⟩ fun z => g3 z.1) t H1 e1 nt ht
      · walk_at "go"
        intro t nt
        generalize hu : upd _ t _ = H1
        obtain ⟨e1, ht⟩ := Vc.alloc hu nt
        exact fail _ (no1 fun z => g1 z.1) t H1 e1 nt ht
end

end My
namespace My
open PySem PySem.Spec PyProof.Rows L2
/-! ### a row dressed as a list, a tuple or an image; put -/
/-- how a row is handed -/
inductive Dress (A : Ad) (H0 H : Hp) (h : Addr) (ws : List Int) : Prop where
  | lst (g : H h = some (.lst (ws.map V.int))) : Dress A H0 H h ws
  | tup (g : H h = some (.tup (ws.map V.int))) : Dress A H0 H h ws
  | img (l : Addr) (n : H0 l = none) (g : ImgAt A H h l ws) : Dress A H0 H h ws
theorem Dress.given {A : Ad} {K : PySem.W.Frag} {H0 H : Hp} {h : Addr} {ws : List Int} (X : Dress A H0 H h ws) : Given A K H h ws := by
  cases X with
  | lst g => exact .inl (.of g)
  | tup g => exact .inr (.inl (.of g))
  | img l n g => exact .inr (.inr ⟨l, g⟩)
def spDressed (A : Ad) : Sp := fun vs H Q _ => ∃ (b c L : Addr) (n : Nat) (ws : List Int), vs = [.ref b, .ref L] ∧ Pen H b c n ∧ n ≤ LIM ∧ H L = some (.lst (ws.map V.int)) ∧ L ≠ b ∧ ws.length ≤ 24 ∧
  ∀ h H', Vc.Ed [b] H H' → Pen H' b c (n + 1) → H h = none → Dress A H H' h ws → Q (.ref h) H'
def spPut (A : Ad) (K : PySem.W.Frag) : Sp := spImgSet A K
section
variable {w : World} {K : PySem.W.Frag} {mg : Str → Option Value} {base : Heap} {A : Ad}
theorem ok__law_dressed (T : Txt K mg A) : FnOk PG w K mg base CX0 7 A.f__law_dressed A.d__law_dressed ["_law_pen_here", "_law_values"] (spDressed A) := by
  have G__law_draw := ok__law_draw (P := PG) (w := w) (base := base) T
  have G__law_bad := ok__law_bad (P := PG) (w := w) (base := base) T
  have G_Imageu_initu := ok_Imageu_initu (w := w) (base := base) T
  refine T.F__law_dressed.ok sc__law_dressed (fun vs H Q E h => ?_) (fun cdv Ar outer s H vs Q E hr h => ?_)
  · obtain ⟨b, c, L, n, ws, rfl, _⟩ := h
    rfl
  · obtain ⟨b, c, L, n, ws, rfl, hB, nl, hL, nLb, wl, k⟩ := h
    refine ⟨_, (pss_cons (ps_set (i := 2) sc__law_dressed.nd rfl (Or.inl rfl) (pe_call G__law_draw (by exact hr.mono (by decide)) (by rfl) T.g__law_draw T.F__law_draw.kp T.b__law_draw .nil pass0 (pa_cons (pv 0) (pa_cons pe_int pa_nil)))) (Evl.pss_cut (ps_if (PW.pt (pw_and (pt_cmpR op_eq (pv 2) pe_int (nomark _)) (pw_and (pt_cmpR op_gt (pe_callB call_len_seq (by rfl) T.n_len (by decide +kernel) (pa_cons (pv 1) pa_nil)) pe_int (nomark _)) (pw_and1 (pt_cmpR op_isN (pe_call G__law_bad (by exact hr.mono (by decide)) (by rfl) T.g__law_bad T.F__law_bad.kp T.b__law_bad .nil pass0 (pa_cons (pv 1) pa_nil)) pe_non (nomark _)))))) (pss_one (ps_ret (pe_make T.mk_Image G_Imageu_initu (by exact hr.mono (by decide)) (by rfl) T.g_Image T.b_Imageu_initu .nil passL (pa_cons (pv 1) pa_nil)))) pss_nil) (pss_one (ps_ret (pe_ix ix_list (pe_lst (pa_cons (pe_callTy Vc.call_tupD (by rfl) T.n_tuple (by decide +kernel) (pa_cons (pv 1) pa_nil)) (pa_cons (pe_callTy Vc.call_lstD (by rfl) T.n_list (by decide +kernel) (pa_cons (pv 1) pa_nil)) pa_nil))) (pe_callTy call_int1 (by rfl) T.n_int (by decide +kernel) (pa_cons (pe_cmpR op_eq (pv 2) pe_int (nomark _)) pa_nil)) (fun _ _ => rfl)))))), ?_⟩
    walk_at "go"
    refine ⟨b, c, n, _, rfl, hB, by omega, by decide, by decide, fun z H1 z0 z1 e1 hB1 => ?_⟩
    have hL1 := e1.at1 nLb hL
    walk_at "go"
    refine Evl.q_cut (M := fun σ H' => σ = [some (.ref b), some (.ref L), some (.int z)] ∧ H' = H1) ?_ ?_
    · walk_at "go"
      refine Vc.go_ite (fun g => ?_) (fun g => ?_)
      · walk_at "go"
        rw [List.length_map]
        refine Vc.go_ite (fun g2 => ?_) (fun g2 => ?_)
        · walk_at "go"
          refine ⟨L, ws, rfl, hL1, by omega, ?_⟩
          unfold badV
          cases hb : badAt ws with
          | some i =>
            walk_at "go"
            exact ⟨rfl, rfl⟩
          | none =>
            walk_at "go"
            intro x dx nx ndx ne
            generalize hu2 : upd _ x _ = H2
            obtain ⟨e2, hx, _⟩ := Vc.allocI hu2 nx ndx ne
            refine ⟨x, dx, L, ws, rfl, hx, .inl (.of (e2.at0 hL1)), by omega, fun i dd H3 bad _ _ => (by rw [hb] at bad; cases bad), fun _ l H3 e3 nl3 I3 => ⟨rfl, ?_⟩⟩
            have nxb := (hB1.fb nx).1
            have nxc := (hB1.fb nx).2
            exact k x H3 ((e1.ex e2).one e3 (.inr (e1.dom _ nx))) ((hB1.ed0 e2).ed1 e3 nxb nxc) (e1.dom _ nx) (.img l (e1.dom _ (e2.dom _ nl3)) I3)
        · walk_at "go"
          exact ⟨rfl, rfl⟩
      · walk_at "go"
        exact ⟨rfl, rfl⟩
    · rintro σ H2 ⟨rfl, rfl⟩
      walk_at "go"
      intro q1 nq1
      generalize hu3 : upd _ q1 _ = H3
      obtain ⟨e3, hq1⟩ := Vc.alloc hu3 nq1
      have hL3 := e3.at0 hL1
      walk_at "go"
      intro q2 nq2
      generalize hu4 : upd _ q2 _ = H4
      obtain ⟨e4, hq2⟩ := Vc.alloc hu4 nq2
      have hq1' := e4.tup _ _ hq1
      walk_at "go"
      intro o no
      generalize hu5 : upd _ o _ = H5
      obtain ⟨e5, ho⟩ := Vc.alloc hu5 no
      have k1 := k q1 H5 (((e1.ex e3).ex e4).ex e5) (((hB1.ed0 e3).ed0 e4).ed0 e5)
      have k2 := k q2 H5 (((e1.ex e3).ex e4).ex e5) (((hB1.ed0 e3).ed0 e4).ed0 e5)
      walk_at "go"
      by_cases c1 : z = 1
      · rw [if_pos (decide_eq_true c1)]
        exact Vc.go_ixL (.of ho) rfl (k2 (e1.dom _ (e3.dom _ nq2)) (.lst (e5.at0 hq2)))
      · rw [if_neg (by rw [decide_eq_false c1]; decide)]
        exact Vc.go_ixL (.of ho) rfl (k1 (e1.dom _ nq1) (.tup (e5.at0 hq1')))
theorem ok__law_put (T : Txt K mg A) : FnOk PG w K mg base (CX PG w) 6 A.f__law_put A.d__law_put ["_law_image", "_law_at", "_law_values"] (spPut A K) := by
  have G_Imageu_setitemu := ok_Imageu_setitemu (w := w) (base := base) T
  refine T.F__law_put.okX sc__law_put (fun vs H Q E h => ?_) (fun cdv Ar outer s H vs Q E hr h => ?_)
  · obtain ⟨p, l, vals, v, x, er, nw, rfl, _⟩ := h
    rfl
  · obtain ⟨p, l, vals, v, x, er, nw, rfl, X, vl, pt, kE, kQ⟩ := h
    obtain ⟨dx, hx⟩ := id X.ob
    refine ⟨_, (pss_one (ps_asg (pv 2) (pg_sub (pv 0) (pv 1) (Vc.set_own T.nsq_Image T.sp_Image_Imageu_setitemu G_Imageu_setitemu (by exact hr.mono (by decide)) T.b_Imageu_setitemu (fun σ => passAt (takes_of rfl rfl rfl rfl) σ))))), ?_⟩
    walk_at "go"
    refine ⟨p, dx, _, rfl, hx, ⟨p, l, vals, v, x, er, nw, rfl, X, vl, pt, kE, fun ok H1 e1 I1 => ?_⟩⟩
    walk_at "go"
    exact kQ ok H1 e1 I1
end

end My
namespace My
open PySem PySem.Spec PyProof.Rows L2
/-! ### a deed done -/
abbrev lamD : Str := ((("_law_done" : Str) ++ (".<locals>." : Str)) ++ ("<lambda>" : Str))
def spDone (A : Ad) (Tb : List (Addr × Str)) : Sp := fun vs H Q _ => ∃ (b c g il : Addr) (n : Nat) (d : Deed) (vals : List Int), vs = [.ref b, .ref g, d.at_, d.val] ∧ Pen H b c n ∧ n ≤ LIM ∧ ImgAt A H g il vals ∧ 1 ≤ vals.length ∧ vals.length ≤ 24 ∧ (∀ v ∈ vals, 0 ≤ v ∧ v ≤ 255) ∧ d.In H ∧ (∀ p lo hi L ws, d = .put2 p lo hi L ws → L ≠ b ∧ L ≠ il) ∧ il ≠ b ∧ il ≠ c ∧ LamX.Tabs Tb H ∧
  ∀ H', Vc.EdX [b, il] H H' → LamX.Tabs Tb H' → Pen H' b c (n + 1) → ImgAt A H' g il (d.cells vals) → Q (.str (d.out vals).d.shown) H'
theorem ImgAt.edx0 {A : Ad} {H H' : Hp} {g il : Addr} {vals : List Int} (I : ImgAt A H g il vals) (e : Vc.EdX [] H H') : ImgAt A H' g il vals := ⟨I.ob.imp fun _ h => e.at0 h, e.at0 I.ls⟩
theorem Deed.In.edx {H H' : Hp} {d : Deed} {S : List Addr} (h : d.In H) (e : Vc.EdX S H H') (n : ∀ p lo hi L ws, d = .put2 p lo hi L ws → L ∉ S) : d.In H' := by
  cases d with
  | get1 a => exact h
  | put1 a b => exact h
  | get2 p lo hi => exact ⟨e.tup _ _ h.1, h.2.1, h.2.2⟩
  | put2 p lo hi L ws => exact ⟨e.tup _ _ h.1, h.2.1, h.2.2.1, e.keep _ _ (n _ _ _ _ _ rfl) (fun _ z => nomatch z) h.2.2.2.1, h.2.2.2.2.1, h.2.2.2.2.2⟩
theorem Pen.edx1 {H H' : Hp} {b c p : Addr} {n : Nat} (h : Pen H b c n) (e : Vc.EdX [p] H H') (hb : b ≠ p) (hc : c ≠ p) : Pen H' b c n := by
  obtain ⟨ns, a, r, B, l⟩ := h
  exact ⟨ns, a, r, ⟨e.at1 hb B.ob, e.at1 hc B.cl, B.len, B.a0, B.r0⟩, l⟩
theorem Dress.edx {A : Ad} {H0 H H' : Hp} {h : Addr} {ws : List Int} {S : List Addr} (D : Dress A H0 H h ws) (e : Vc.EdX S H H') (n : h ∉ S) (m : ∀ l, H0 l = none → l ∉ S) : Dress A H0 H' h ws := by
  cases D with
  | lst g => exact .lst (e.keep _ _ n (fun _ z => nomatch z) g)
  | tup g => exact .tup (e.tup _ _ g)
  | img l n0 g => exact .img l n0 ⟨g.ob.imp fun _ h => e.keep _ _ n (fun _ z => nomatch z) h, e.keep _ _ (m l n0) (fun _ z => nomatch z) g.ls⟩
theorem ref_ints {L : Addr} {ys : List Int} (h : [V.ref L] = ys.map V.int) : False := by
  cases ys with
  | nil => cases h
  | cons y r => injection h with h _; cases h
section
variable {w : World} {K : PySem.W.Frag} {mg : Str → Option Value} {base : Heap} {A : Ad} {Tb : List (Addr × Str)} {cL PL_ : Addr}
theorem ok__law_done (T : Txt K mg A) (LM : Vc.LamAt K mg base Tb A.f__law_done lamD cL PL_) : Vc.FnG PG w K mg base CX0 12 A.f__law_done A.d__law_done ["_law_pen_here", "_law_image", "_law_at", "_law_values"] (spDone A Tb) := by
  have G__law_cells := ok__law_cells (w := w) (base := base) T
  have G__law_dressed := ok__law_dressed (w := w) (base := base) T
  have G__law_put := ok__law_put (w := w) (base := base) T
  have G_Imageu_getitemu := ok_Imageu_getitemu (w := w) (base := base) T
  refine Vc.Fun.okGL T.F__law_done LM.co sc__law_done (fun vs H Q E h => ?_) (fun Ar outer s H vs Q E hgd hr h => ?_)
  · obtain ⟨b, c, g, il, n, d, vals, rfl, _⟩ := h
    rfl
  · obtain ⟨b, c, g, il, n, d, vals, rfl, hB, nl, I, v1, v24, vby, dI, dL, ib, ic, tabs, k⟩ := h
    have hu := hu_of hr
    have fit := Deed.fits dI vby v24
    have lim : LIM = 1000000 := rfl
    refine ⟨_, (pss_cons (ps_if (pt_cmpR op_isN (pv 3) pe_non (nomark _)) (pss_cons (ps_set (i := 4) sc__law_done.nd rfl (Or.inl rfl) (Vc.pe_lamS (t := fun E => Vc.tIxO A.C_Image (spImgGet A) (fun _ => E) (tVar 1) (tVar 2)) (T := Tb) (j := 9) (k := 8) T.F__law_heard (by rfl) T.g__law_heard T.b__law_heard sc__law_heard (by rfl) (.inl rfl) (fun cdg => gives__law_heard T cdg) LM.tb rfl LM.me LM.un (by exact hr.mono (by decide)) (by decide) (LamX.lamS_by (sc := defScope s__law_done) (by decide +kernel)) rfl (fun _ _ _ _ _ => rfl) (fun A9 outer9 s9 H9 E9 f9 c9 hrl => (Vc.pe_ixO (pv 1) (pv 2) T.sp_Image_Imageu_getitemu T.spf_Imageu_getitemu G_Imageu_getitemu (by exact hrl.mono (by decide)) T.b_Imageu_getitemu (fun σ => passAt (takes_of rfl rfl rfl rfl) σ))))) (pss_cons (ps_set (i := 5) sc__law_done.nd rfl (Or.inl rfl) (pe_callB (Vc.call_reprD hgd (Vc.room64 hr)) (by rfl) T.n_repr (by decide +kernel) (pa_cons (pv 4) pa_nil))) (pss_cons (ps_if (PW.pt (pw_and (pt_val (pe_callB call_isi (by rfl) T.n_isinstance (by decide +kernel) (pa_cons (pv 4) (pa_cons (pe_bltn (v := .ty "list") (by rfl) T.n_list (by decide +kernel) rfl) pa_nil)))) (pw_and1 (pt_val (pe_callB call_isi (by rfl) T.n_isinstance (by decide +kernel) (pa_cons (pe_ix ix_list (pv 4) pe_int (fun _ _ => rfl)) (pa_cons (pe_bltn (v := .ty "list") (by rfl) T.n_list (by decide +kernel) rfl) pa_nil))))))) (pss_cons (ps_expr (pe_bm PySem.F.plainAttrs_list PySem.F.slot_list_append PySem.F.type_list_append mt_append (pe_ix ix_list (pv 4) pe_int (fun _ _ => rfl)) (pa_cons pe_int pa_nil))) (pss_one (ps_expr (pe_bm0 PySem.F.plainAttrs_list PySem.F.slot_list_reverse PySem.F.type_list_reverse mt_reverse (pe_ix ix_list (pv 4) pe_int (fun _ _ => rfl)))))) pss_nil) (pss_one (ps_ret (pv 5)))))) pss_nil) (pss_cons (ps_if (pt_not (pt_val (pe_callB call_isi (by rfl) T.n_isinstance (by decide +kernel) (pa_cons (pv 2) (pa_cons (pe_bltn (v := .ty "tuple") (by rfl) T.n_tuple (by decide +kernel) rfl) pa_nil))))) (pss_one (ps_ret (pe_callB (Vc.call_reprD hgd (Vc.room64 hr)) (by rfl) T.n_repr (by decide +kernel) (pa_cons (Vc.pe_lamS (t := fun E => tCallS (spPut A K) (fun _ => E) (tCons (tVar 1) (tCons (tVar 2) (tCons (tVar 3) tNil)))) (T := Tb) (j := 9) (k := 8) T.F__law_heard (by rfl) T.g__law_heard T.b__law_heard sc__law_heard (by rfl) (.inl rfl) (fun cdg => gives__law_heard T cdg) LM.tb rfl LM.me LM.un (by exact hr.mono (by decide)) (by decide) (LamX.lamS_by (sc := defScope s__law_done) (by decide +kernel)) rfl (fun _ _ _ _ _ => rfl) (fun A9 outer9 s9 H9 E9 f9 c9 hrl => (pe_callS G__law_put (by exact hrl.mono (by decide)) (by rfl) T.g__law_put T.F__law_put.kp T.b__law_put (fun σ => passAt (takes_of rfl rfl rfl rfl) σ) (pa_cons (pv 1) (pa_cons (pv 2) (pa_cons (pv 3) pa_nil)))))) pa_nil)))) pss_nil) (pss_cons (ps_set (i := 6) sc__law_done.nd rfl (Or.inr rfl) (pe_call G__law_dressed (by exact hr.mono (by decide)) (by rfl) T.g__law_dressed T.F__law_dressed.kp T.b__law_dressed .nil pass0 (pa_cons (pv 0) (pa_cons (pv 3) pa_nil)))) (pss_cons (ps_set (i := 4) sc__law_done.nd rfl (Or.inl rfl) (pe_callB (Vc.call_reprD hgd (Vc.room64 hr)) (by rfl) T.n_repr (by decide +kernel) (pa_cons (Vc.pe_lamS (t := fun E => tCallS (spPut A K) (fun _ => E) (tCons (tVar 1) (tCons (tVar 2) (tCons (tVar 6) tNil)))) (T := Tb) (j := 9) (k := 8) T.F__law_heard (by rfl) T.g__law_heard T.b__law_heard sc__law_heard (by rfl) (.inl rfl) (fun cdg => gives__law_heard T cdg) LM.tb rfl LM.me LM.un (by exact hr.mono (by decide)) (by decide) (LamX.lamS_by (sc := defScope s__law_done) (by decide +kernel)) rfl (fun _ _ _ _ _ => rfl) (fun A9 outer9 s9 H9 E9 f9 c9 hrl => (pe_callS G__law_put (by exact hrl.mono (by decide)) (by rfl) T.g__law_put T.F__law_put.kp T.b__law_put (fun σ => passAt (takes_of rfl rfl rfl rfl) σ) (pa_cons (pv 1) (pa_cons (pv 2) (pa_cons (pv 6) pa_nil)))))) pa_nil))) (pss_cons (ps_if (pt_cmpR (op_neD (by exact hr.units)) (pe_call G__law_cells (by exact hr.mono (by decide)) (by rfl) T.g__law_cells T.F__law_cells.kp T.b__law_cells .nil pass0 (pa_cons (pv 6) pa_nil)) (pv 3) (nomark _)) (pss_one (ps_ret pe_str)) pss_nil) (pss_cons (ps_if (pt_val (pe_callB call_isi (by rfl) T.n_isinstance (by decide +kernel) (pa_cons (pv 6) (pa_cons (pe_bltn (v := .ty "list") (by rfl) T.n_list (by decide +kernel) rfl) pa_nil)))) (pss_cons (ps_expr (pe_bm PySem.F.plainAttrs_list PySem.F.slot_list_append PySem.F.type_list_append mt_append (pv 6) (pa_cons pe_int pa_nil))) (pss_one (ps_asg pe_int (pg_sub (pv 6) pe_int set_list)))) pss_nil) (pss_one (ps_ret (pv 4))))))))), ?_⟩
    cases d with
    | get1 a =>
      rw [show (Deed.get1 a).at_ = V.int a from rfl, show (Deed.get1 a).val = V.non from rfl]
      have kc : (Deed.get1 a).cells vals = vals := by
        cases he : (Deed.get1 a).err vals.length with
        | some e => exact (Deed.bad he).2
        | none => exact (Deed.good he).2
      rw [kc] at k
      walk_at "go"
      refine Vc.go_lam tabs fun H1 e1 tabs1 => ?_
      have I1 := I.edx0 e1
      obtain ⟨dg1, hg1⟩ := id I1.ob
      refine theard_split (fun v H' => ∃ t, v = .ref t ∧ Vc.EdX [] H H' ∧ LamX.Tabs Tb H' ∧ Out.Has H H' t ((Deed.get1 a).out vals)) ?_ ?_
      · intro E9 R9 hE hR
        walk_at "go"
        refine ⟨g, il, vals, .int a, true, a, a + 1, rfl, I1, by omega, .one a, fun x dd H2 bad e2 hdd => hE _ _ _ ⟨.addr x, dd, rfl, rfl, hdd, fun t H3 e3 ht => ⟨t, rfl, (e1.ex (.of e2)).ex (.of e3), Vc.tabs_ed0 (Vc.tabs_ed0 tabs1 e2) e3, ?_⟩⟩, fun ok => ⟨fun _ H2 e2 => hR _ _ fun t H3 e3 ht => ⟨t, rfl, (e1.ex (.of e2)).ex (.of e3), Vc.tabs_ed0 (Vc.tabs_ed0 tabs1 e2) e3, ?_⟩, fun z => nomatch z⟩⟩
        · have he : (Deed.get1 a).err vals.length = some (.addr x) := by show (spanErr true a (a + 1) vals.length).map WErr.addr = _; rw [bad]; rfl
          rw [(Deed.bad he).1]; exact ht
        · have he : (Deed.get1 a).err vals.length = none := by show (spanErr true a (a + 1) vals.length).map WErr.addr = _; rw [ok]; rfl
          rw [(Deed.good he).1]; exact ht
      clear hg1 I1 tabs1 e1
      rintro v H1 ⟨t, rfl, e1, tabs1, ho⟩
      have fin : Q (.str ((Deed.get1 a).out vals).d.shown) H1 := k H1 (e1.mono fun _ z => nomatch z) tabs1 ((hB.edx e1).up (by omega)) (I.edx0 e1)
      clear k
      walk_at "go"
      refine ⟨_, _, rfl, ho.dp, fit, ?_⟩
      cases he : (Deed.get1 a).err vals.length with
      | some e =>
        rw [(Deed.bad he).1] at ho fin ⊢
        have ho : H1 t = some (.tup e.tup) := ho
        walk_at "go"
        exact fin
      | none =>
        rw [(Deed.good he).1] at ho fin ⊢
        have ho : H1 t = some (.lst [.int (vals.getD a.toNat 0)]) := ho
        walk_at "go"
        exact fin
    | get2 p lo hi =>
      rw [show (Deed.get2 p lo hi).at_ = V.ref p from rfl, show (Deed.get2 p lo hi).val = V.non from rfl]
      obtain ⟨hp, sl, sh⟩ := dI
      have kc : (Deed.get2 p lo hi).cells vals = vals := by
        cases he : (Deed.get2 p lo hi).err vals.length with
        | some e => exact (Deed.bad he).2
        | none => exact (Deed.good he).2
      rw [kc] at k
      walk_at "go"
      refine Vc.go_lam tabs fun H1 e1 tabs1 => ?_
      have I1 := I.edx0 e1
      have hp1 := e1.tup _ _ hp
      obtain ⟨dg1, hg1⟩ := id I1.ob
      refine theard_split (fun v H' => ∃ t, v = .ref t ∧ Vc.EdX [] H H' ∧ LamX.Tabs Tb H' ∧ Out.Has H H' t ((Deed.get2 p lo hi).out vals)) ?_ ?_
      · intro E9 R9 hE hR
        walk_at "go"
        refine ⟨g, il, vals, .ref p, false, lo, hi, rfl, I1, by omega, .two p lo hi hp1, fun x dd H2 bad e2 hdd => hE _ _ _ ⟨.addr x, dd, rfl, rfl, hdd, fun t H3 e3 ht => ⟨t, rfl, (e1.ex (.of e2)).ex (.of e3), Vc.tabs_ed0 (Vc.tabs_ed0 tabs1 e2) e3, ?_⟩⟩, fun ok => ⟨fun z => (nomatch z), fun _ L H2 e2 nL hL => hR _ _ fun t H3 e3 ht => ⟨t, rfl, (e1.ex (.of e2)).ex (.of e3), Vc.tabs_ed0 (Vc.tabs_ed0 tabs1 e2) e3, ?_⟩⟩⟩
        · have he : (Deed.get2 p lo hi).err vals.length = some (.addr x) := by show (spanErr false lo hi vals.length).map WErr.addr = _; rw [bad]; rfl
          rw [(Deed.bad he).1]; exact ht
        · have he : (Deed.get2 p lo hi).err vals.length = none := by show (spanErr false lo hi vals.length).map WErr.addr = _; rw [ok]; rfl
          rw [(Deed.good he).1]; exact ⟨L, e1.new0 (.inl nL), ht, e3.at0 hL⟩
      clear hg1 I1 tabs1 e1
      rintro v H1 ⟨t, rfl, e1, tabs1, ho⟩
      have fin : ∀ H2, Vc.EdX [] H H2 → LamX.Tabs Tb H2 → Q (.str ((Deed.get2 p lo hi).out vals).d.shown) H2 := fun H2 e2 tabs2 => k H2 (e2.mono fun _ z => nomatch z) tabs2 ((hB.edx e2).up (by omega)) (I.edx0 e2)
      clear k
      walk_at "go"
      refine ⟨_, _, rfl, ho.dp, fit, ?_⟩
      cases he : (Deed.get2 p lo hi).err vals.length with
      | some e =>
        rw [(Deed.bad he).1] at ho fin ⊢
        have ho : H1 t = some (.tup e.tup) := ho
        walk_at "go"
        exact fin H1 e1 tabs1
      | none =>
        rw [(Deed.good he).1] at ho fin ⊢
        obtain ⟨L, nL, ht, hL⟩ := ho
        have yl : ((vals.drop lo.toNat).take (hi.toNat - lo.toNat)).length ≤ 24 := by rw [List.length_take, List.length_drop]; omega
        generalize (vals.drop lo.toNat).take (hi.toNat - lo.toNat) = ys at hL yl
        walk_at "go"
        generalize hu2 : upd _ L _ = H2
        obtain ⟨e2, hL2⟩ := Vc.chg hu2 hL
        have ht2 := e2.at1 (fun z => by rw [z, hL] at ht; injection ht with ht; injection ht with ht; exact ref_ints ht.symm) ht
        walk_at "go"
        refine ⟨L, _, rfl, rfl, hL2, ?_⟩
        generalize hu3 : upd _ L _ = H3
        obtain ⟨e3, hL3⟩ := Vc.chg hu3 hL2
        walk_at "go"
        have e23 : Vc.Ed [L] H1 H3 := e2.trans e3 fun a z => .inl z
        exact fin H3 (e1.one (.of e23) (.inr nL)) (Vc.tabs_lst tabs1 e23 hL)
    | put1 a x =>
      rw [show (Deed.put1 a x).at_ = V.int a from rfl, show (Deed.put1 a x).val = V.int x from rfl]
      walk_at "go"
      refine Vc.go_lam tabs fun H1 e1 tabs1 => ?_
      have I1 := I.edx0 e1
      obtain ⟨dg1, hg1⟩ := id I1.ob
      refine theard_split (fun v H' => ∃ t, v = .ref t ∧ Vc.EdX [il] H H' ∧ LamX.Tabs Tb H' ∧ ImgAt A H' g il ((Deed.put1 a x).cells vals) ∧ Out.Has H H' t ((Deed.put1 a x).out vals)) ?_ ?_
      · intro E9 R9 hE hR
        walk_at "go"
        refine ⟨g, il, vals, .int a, .int x, _, _, rfl, I1, by omega, .one a x, fun e dd H2 he e2 hdd => hE _ _ _ ⟨e, dd, rfl, rfl, hdd, fun t H3 e3 ht => ⟨t, rfl, ((e1.ex (.of e2)).ex (.of e3)).mono (fun _ z => nomatch z), Vc.tabs_ed0 (Vc.tabs_ed0 tabs1 e2) e3, ?_, ?_⟩⟩, fun ok H2 e2 I2 => hR _ _ fun t H3 e3 ht => ⟨t, rfl, ((e1.mono fun _ z => nomatch z).trans (.of e2) fun a z => .inl z).ex (.of e3), Vc.tabs_ed0 (Vc.tabs_lst tabs1 e2 I1.ls) e3, ?_, ?_⟩⟩
        · rw [(Deed.bad (d := .put1 a x) he).2]; exact (I1.ed0 e2).ed0 e3
        · rw [(Deed.bad (d := .put1 a x) he).1]; exact ht
        · rw [(Deed.good (d := .put1 a x) ok).2]; exact I2.ed0 e3
        · rw [(Deed.good (d := .put1 a x) ok).1]; exact ht
      clear hg1 I1 tabs1 e1
      rintro v H1 ⟨t, rfl, e1, tabs1, I1, ho⟩
      obtain ⟨xx, aa, rr, hb⟩ := hB.lst
      walk_at "go"
      refine ⟨_, _, rfl, ho.dp, fit, ?_⟩
      exact k H1 (e1.mono fun a z => List.mem_cons_of_mem _ z) tabs1 ((hB.edx1 e1 ib.symm ic.symm).up (by omega)) I1
    | put2 p lo hi L ws =>
      rw [show (Deed.put2 p lo hi L ws).at_ = V.ref p from rfl, show (Deed.put2 p lo hi L ws).val = V.ref L from rfl]
      obtain ⟨hp, sl, sh, hL, wl, wb⟩ := dI
      obtain ⟨nLb, nLi⟩ := dL _ _ _ _ _ rfl
      obtain ⟨xx, aa, rr, hb⟩ := hB.lst
      walk_at "go"
      refine ⟨b, c, L, n, ws, rfl, hB, nl, hL, nLb, wl, fun h H1 e1 hB1 nh D => ?_⟩
      obtain ⟨dg, hg⟩ := id I.ob
      have I1 : ImgAt A H1 g il vals := ⟨⟨dg, e1.at1 (fun z => by rw [z, hb] at hg; cases hg) hg⟩, e1.at1 ib I.ls⟩
      have tabs1 := Vc.tabs_lst tabs e1 hb
      have hp1 := e1.tup _ _ hp
      have hL1 := e1.at1 nLb hL
      have nhi : h ≠ il := fun z => by rw [z, I.ls] at nh; cases nh
      have nhb : h ≠ b := fun z => by rw [z, hb] at nh; cases nh
      walk_at "go"
      refine Vc.go_lam tabs1 fun H2 e2 tabs2 => ?_
      have I2 := I1.edx0 e2
      have hp2 := e2.tup _ _ hp1
      have D2 : Dress A H H2 h ws := D.edx e2 (fun z => nomatch z) (fun _ _ z => nomatch z)
      have e02 : Vc.EdX [b, il] H H2 := ((Vc.EdX.of e1).mono fun a z => by rw [List.mem_singleton.mp z]; exact List.mem_cons_self).ex e2
      refine theard_split (fun v H' => ∃ t, v = .ref t ∧ Vc.EdX [il] H1 H' ∧ LamX.Tabs Tb H' ∧ ImgAt A H' g il ((Deed.put2 p lo hi L ws).cells vals) ∧ Out.Has H H' t ((Deed.put2 p lo hi L ws).out vals)) ?_ ?_
      · intro E9 R9 hE hR
        walk_at "go"
        refine ⟨g, il, vals, .ref p, .ref h, _, _, rfl, I2, by omega, .two p h lo hi ws hp2 D2.given (by omega), fun e dd H3 he e3 hdd => hE _ _ _ ⟨e, dd, rfl, rfl, hdd, fun t H4 e4 ht => ⟨t, rfl, ((e2.ex (.of e3)).ex (.of e4)).mono (fun _ z => nomatch z), Vc.tabs_ed0 (Vc.tabs_ed0 tabs2 e3) e4, ?_, ?_⟩⟩, fun ok H3 e3 I3 => hR _ _ fun t H4 e4 ht => ⟨t, rfl, ((e2.mono fun _ z => nomatch z).trans (.of e3) fun a z => .inl z).ex (.of e4), Vc.tabs_ed0 (Vc.tabs_lst tabs2 e3 I2.ls) e4, ?_, ?_⟩⟩
        · rw [(Deed.bad (d := .put2 p lo hi L ws) he).2]; exact (I2.ed0 e3).ed0 e4
        · rw [(Deed.bad (d := .put2 p lo hi L ws) he).1]; exact ht
        · rw [(Deed.good (d := .put2 p lo hi L ws) ok).2]; exact I3.ed0 e4
        · rw [(Deed.good (d := .put2 p lo hi L ws) ok).1]; exact ht
      clear I2 tabs2 D2 hp2 e02 e2
      rintro v H2 ⟨t, rfl, e2, tabs2, I2, ho⟩
      have D2 : Dress A H H2 h ws := D.edx e2 (fun z => nhi (List.mem_singleton.mp z)) (fun l nl z => by rw [List.mem_singleton.mp z, I.ls] at nl; cases nl)
      have hL2 := e2.at1 nLi hL1
      have hB2 := hB1.edx1 e2 ib.symm ic.symm
      have e02 : Vc.EdX [b, il] H H2 := ((Vc.EdX.of e1).mono fun a z => by rw [List.mem_singleton.mp z]; exact List.mem_cons_self).trans e2 fun a z => .inl (List.mem_cons_of_mem _ z)
      walk_at "go"
      refine ⟨_, _, rfl, ho.dp, fit, ?_⟩
      walk_at "go"
      refine ⟨h, ws, rfl, D2.given, by omega, fun S H3 e3 nS hS => ?_⟩
      have hL3 := e3.at0 hL2
      have D3 : Dress A H H3 h ws := D2.edx (.of e3) (fun z => nomatch z) (fun _ _ z => nomatch z)
      have tabs3 := Vc.tabs_ed0 tabs2 e3
      have hB3 := hB2.ed0 e3
      have I3 := I2.ed0 e3
      have e03 := e02.ex (.of e3)
      walk_at "go"
      refine go_neLs (.inl (.of hS)) (.inl (.of hL3)) ?_
      walk_at "go"
      have fin := fun H4 e4 tabs4 hB4 I4 => k H4 e4 tabs4 hB4 I4
      clear k
      cases D3 with
      | tup gh =>
        walk_at "go"
        exact fin H3 e03 tabs3 hB3 I3
      | img l nl0 gh =>
        obtain ⟨dz, hz⟩ := id gh.ob
        refine ⟨_, .ty "list", _, .type "list", false, rfl, .ty "list", Vc.ty_ins hz T.ic_Image, T.kit_Image_list, ?_⟩
        walk_at "go"
        exact fin H3 e03 tabs3 hB3 I3
      | lst gh =>
        walk_at "go"
        generalize hu4 : upd _ h _ = H4
        obtain ⟨e4, gh4⟩ := Vc.chg hu4 gh
        refine Vc.go_setL gh4 (j := 0) ?_ ?_
        · unfold ixN
          rw [List.length_append, if_pos (by omega), if_pos (by show (0 : Int) < ((_ + 1 : Nat) : Int); omega)]; rfl
        generalize hu5 : upd _ h _ = H5
        obtain ⟨e5, gh5⟩ := Vc.chg hu5 gh4
        have e35 : Vc.Ed [h] H3 H5 := e4.trans e5 fun a z => .inl z
        have mem : ∀ a ∈ [h], a ∈ [b, il] ∨ Vc.Nw H a := fun a z => .inr (.inl (by rw [List.mem_singleton.mp z]; exact nh))
        have hgh : g ≠ h := fun z => by obtain ⟨dz, hz⟩ := I3.ob; rw [z, gh] at hz; cases hz
        have hch : c ≠ h := fun z => by
          have := hB.fb nh
          exact this.2 z
        walk_at "go"
        exact fin H5 (e03.trans (.of e35) mem) (Vc.tabs_lst tabs3 e35 gh) (hB3.ed1 e35 nhb.symm hch) (I3.ed e35 (fun z => hgh (List.mem_singleton.mp z)) (fun z => nhi (List.mem_singleton.mp z).symm))
end

end My
namespace My
open PySem PySem.Spec PyProof.Rows L2
/-! ### whether an image is made of bytes alone -/
abbrev lamR : Str := ((("_law_made_right" : Str) ++ (".<locals>." : Str)) ++ ("<lambda>" : Str))
def spMadeR (A : Ad) (Tb : List (Addr × Str)) : Sp := fun vs H Q _ => ∃ (b c L : Addr) (n : Nat) (vals : List Int), vs = [.ref b, .ref L] ∧ Pen H b c n ∧ n + 40 ≤ LIM ∧ H L = some (.lst (vals.map V.int)) ∧ vals.length ≤ 24 ∧ (∀ v ∈ vals, SmallI v) ∧ LamX.Tabs Tb H ∧
  ∀ H', Vc.EdX [b] H H' → LamX.Tabs Tb H' → Q (.bl true) H'
section
variable {w : World} {K : PySem.W.Frag} {mg : Str → Option Value} {base : Heap} {A : Ad} {Tb : List (Addr × Str)} {cL PL_ : Addr}
theorem ok__law_made_right (T : Txt K mg A) (LM : Vc.LamAt K mg base Tb A.f__law_made_right lamR cL PL_) : Vc.FnG PG w K mg base CX0 12 A.f__law_made_right A.d__law_made_right ["_law_pen_here", "_law_cells_here"] (spMadeR A Tb) := by
  have G__law_cells := ok__law_cells (w := w) (base := base) T
  have G__law_bad := ok__law_bad (P := PG) (w := w) (base := base) T
  have G__law_spoilt := ok__law_spoilt (P := PG) (w := w) (base := base) T
  have G_Imageu_initu := ok_Imageu_initu (w := w) (base := base) T
  refine Vc.Fun.okGL T.F__law_made_right LM.co sc__law_made_right (fun vs H Q E h => ?_) (fun Ar outer s H vs Q E hgd hr h => ?_)
  · obtain ⟨b, c, L, n, vals, rfl, _⟩ := h
    rfl
  · obtain ⟨b, c, L, n, vals, rfl, hB, nl, hL, v24, vs_, tabs, k⟩ := h
    have lim : LIM = 1000000 := rfl
    obtain ⟨xx, aa, rr, hb⟩ := hB.lst
    refine ⟨_, (pss_cons (ps_set (i := 2) sc__law_made_right.nd rfl (Or.inl rfl) (pe_call G__law_spoilt (by exact hr.mono (by decide)) (by rfl) T.g__law_spoilt T.F__law_spoilt.kp T.b__law_spoilt .nil pass0 (pa_cons (pv 0) (pa_cons (pv 1) pa_nil)))) (pss_cons (ps_set (i := 3) sc__law_made_right.nd rfl (Or.inl rfl) (pe_tup (pa_cons pe_str (pa_cons (pe_call G__law_bad (by exact hr.mono (by decide)) (by rfl) T.g__law_bad T.F__law_bad.kp T.b__law_bad .nil pass0 (pa_cons (pv 2) pa_nil)) pa_nil)))) (pss_cons (ps_for PassesOwn.never rfl (pi_tup (pe_tup (pa_cons (pv 2) (pa_cons (pe_callTy Vc.call_tupD (by rfl) T.n_tuple (by decide +kernel) (pa_cons (pv 2) pa_nil)) pa_nil)))) (pg_name (i := 4) sc__law_made_right.nd rfl (Or.inr rfl)) (pss_cons (ps_set (i := 5) sc__law_made_right.nd rfl (Or.inl rfl) (Vc.pe_lamS (t := fun E => tCall (spCells A K) [] E0 (tCons (Vc.tMakeS A.C_Image (spImgInit A K) (fun _ => E) (tCons (tVar 4) tNil)) tNil)) (T := Tb) (j := 9) (k := 8) T.F__law_heard (by rfl) T.g__law_heard T.b__law_heard sc__law_heard (by rfl) (.inl rfl) (fun cdg => gives__law_heard T cdg) LM.tb rfl LM.me LM.un (by exact hr.mono (by decide)) (by decide) (LamX.lamS_by (sc := defScope s__law_made_right) (by decide +kernel)) rfl (fun _ _ _ _ _ => rfl) (fun A9 outer9 s9 H9 E9 f9 c9 hrl => (pe_call G__law_cells (by exact hrl.mono (by decide)) (by rfl) T.g__law_cells T.F__law_cells.kp T.b__law_cells .nil pass0 (pa_cons (Vc.pe_makeS T.mk_Image G_Imageu_initu (by exact hrl.mono (by decide)) (by rfl) T.g_Image T.b_Imageu_initu (fun σ => passAt (takes_of rfl rfl rfl rfl) σ) (pa_cons (pv 4) pa_nil)) pa_nil))))) (pss_one (ps_if (pt_cmpR op_isN (pe_ix ix_tup (pv 3) pe_int (fun _ _ => rfl)) pe_non (nomark _)) (pss_one (ps_if (pt_cmpR op_ne (pe_callB (Vc.call_reprD hgd (Vc.room64 hr)) (by rfl) T.n_repr (by decide +kernel) (pa_cons (pv 5) pa_nil)) (pe_callB (Vc.call_reprD hgd (Vc.room64 hr)) (by rfl) T.n_repr (by decide +kernel) (pa_cons (pe_lst (pa_cons (pv 2) pa_nil)) pa_nil)) (nomark _)) (pss_one (ps_ret pe_bl)) pss_nil)) (pss_one (ps_if (pt_cmpR op_ne (pe_callB (Vc.call_reprD hgd (Vc.room64 hr)) (by rfl) T.n_repr (by decide +kernel) (pa_cons (pv 5) pa_nil)) (pe_callB (Vc.call_reprD hgd (Vc.room64 hr)) (by rfl) T.n_repr (by decide +kernel) (pa_cons (pv 3) pa_nil)) (nomark _)) (pss_one (ps_ret pe_bl)) pss_nil)))))) (pss_one (ps_ret pe_bl))))), ?_⟩
    walk_at "go"
    refine ⟨b, c, L, n, vals, rfl, hB, by omega, hL, v24, vs_, fun B ws H1 e1 hB1 nB hB_ wl wsm => ?_⟩
    have tabs1 := Vc.tabs_lst tabs e1 hb
    walk_at "go"
    refine ⟨B, ws, rfl, hB_, by omega, ?_⟩
    walk_at "go"
    intro d nd
    generalize hu2 : upd _ d _ = H2
    obtain ⟨e2, hd⟩ := Vc.alloc hu2 nd
    have hB2 := e2.at0 hB_
    walk_at "go"
    intro u nu
    generalize hu3 : upd _ u _ = H3
    obtain ⟨e3, hu_⟩ := Vc.alloc hu3 nu
    have hB3 := e3.at0 hB2
    have hd3 := e3.tup _ _ hd
    walk_at "go"
    intro o no
    generalize hu4 : upd _ o _ = H4
    obtain ⟨e4, ho⟩ := Vc.alloc hu4 no
    have hB4 := e4.at0 hB3
    have hd4 := e4.tup _ _ hd3
    have hu4_ := e4.tup _ _ hu_
    have e14 := (e2.ex e3).ex e4
    have tabs4 := Vc.tabs_ed0 tabs1 e14
    have k4 : ∀ H', Vc.EdX [] H4 H' → LamX.Tabs Tb H' → Q (.bl true) H' := fun H' e => k H' (((Vc.EdX.of e1).ex (.of e14)).ex e)
    clear k
    refine ⟨o, rfl, ⟨_, .inl (.inl ho)⟩, for_tup (xs := [V.ref B, V.ref u]) (fun j σ H' => (∃ y4 y5 : Option V, σ = [some (.ref b), some (.ref L), some (.ref B), some (.ref d), y4, y5]) ∧ Vc.EdX [] H4 H' ∧ LamX.Tabs Tb H') ⟨⟨none, none, rfl⟩, .refl, tabs4⟩ (fun j σ H' _ q => .inl (.inl (q.2.1.tup _ _ ho))) ?_ ?_⟩
    · rintro j v σ H5 hj ⟨⟨y4, y5, rfl⟩, e5, tabs5⟩
      obtain ⟨x, rfl, G⟩ : ∃ x, v = .ref x ∧ Given A K H5 x ws := by
        match j, hj with
        | 0, hj => obtain rfl := Option.some.inj hj; exact ⟨B, rfl, .inl (.of (e5.at0 hB4))⟩
        | 1, hj => obtain rfl := Option.some.inj hj; exact ⟨u, rfl, .inr (.inl (.of (e5.tup _ _ hu4_)))⟩
      have hB5 := e5.at0 hB4
      have hd5 := e5.tup _ _ hd4
      walk_at "go"
      refine Vc.go_lam tabs5 fun H6 e6 tabs6 => ?_
      have G6 := G.edx e6
      refine theard_split (fun v H' => ∃ t, v = .ref t ∧ Vc.EdX [] H5 H' ∧ LamX.Tabs Tb H' ∧ ((∃ i : Nat, badAt ws = some i ∧ H' t = some (.tup (WErr.byte (i : Nat)).tup)) ∨ (badAt ws = none ∧ ∃ S, H' t = some (.lst [.ref S]) ∧ H' S = some (.lst (ws.map V.int))))) ?_ ?_
      · intro E9 R9 hE hR
        walk_at "go"
        intro p dx np ndp ne
        generalize hu7 : upd _ p _ = H7
        obtain ⟨e7, hp, _⟩ := Vc.allocI hu7 np ndp ne
        have t7 := Vc.tabs_ed0 tabs6 e7
        have e57 := e6.ex (.of e7)
        refine ⟨p, dx, x, ws, rfl, hp, G6.ed0 e7, by omega, fun i dd H8 bad e8 hdd => hE _ _ _ ⟨.byte (i : Nat), dd, rfl, rfl, hdd, fun t H9 e9 ht => ⟨t, rfl, (e57.ex (.of e8)).ex (.of e9), Vc.tabs_ed0 (Vc.tabs_ed0 t7 e8) e9, .inl ⟨i, bad, ht⟩⟩⟩, fun ok l H8 e8 nl8 I8 => ⟨rfl, ?_⟩⟩
        have e68 : Vc.Ed [] H6 H8 := e7.one e8 (.inr np)
        have t8 := Vc.tabs_ed0 tabs6 e68
        refine ⟨p, ws, rfl, .inr (.inr ⟨l, I8⟩), by omega, fun S H9 e9 nS hS => hR _ _ fun t H10 e10 ht => ⟨t, rfl, (e6.ex (.of e68)).ex (.of (e9.ex e10)), Vc.tabs_ed0 (Vc.tabs_ed0 t8 e9) e10, .inr ⟨ok, S, ht, e10.at0 hS⟩⟩⟩
      clear G6 tabs6 e6
      rintro v H6 ⟨t, rfl, e6, tabs6, hq⟩
      have hB6 := e6.at0 hB5
      have hd6 := e6.tup _ _ hd5
      have e46 := e5.ex e6
      rcases hq with ⟨i, bad, ht⟩ | ⟨ok, S, ht, hS⟩
      · have hbv : badV ws = .int (i : Nat) := by unfold badV; rw [bad]
        rw [hbv] at hd6
        have fit : Vc.Fits (WErr.byte (i : Nat)).d := werr_fits _ (small_of (by have := badAt_lt bad; omega))
        walk_at "go"
        refine ⟨_, _, rfl, WErr.dp (.byte (i : Nat)) ht, fit, ?_⟩
        walk_at "go"
        refine ⟨_, _, rfl, WErr.dp (.byte (i : Nat)) hd6, fit, ?_⟩
        walk_at "go"
        exact ⟨⟨_, _, rfl⟩, e46, tabs6⟩
      · have hbv : badV ws = .non := by unfold badV; rw [ok]
        rw [hbv] at hd6
        have fit := nest_fits wsm (by omega)
        walk_at "go"
        refine ⟨_, _, rfl, .lst (.of ht) (.cons (dp_lst hS) .nil), fit, ?_⟩
        walk_at "go"
        intro z nz
        generalize hu7 : upd _ z _ = H7
        obtain ⟨e7, hz⟩ := Vc.alloc hu7 nz
        walk_at "go"
        refine ⟨_, _, rfl, .lst (.of hz) (.cons (dp_lst (e7.at0 hB6)) .nil), fit, ?_⟩
        walk_at "go"
        exact ⟨⟨_, _, rfl⟩, e46.ex (.of e7), Vc.tabs_ed0 tabs6 e7⟩
    · rintro σ H5 ⟨⟨y4, y5, rfl⟩, e5, tabs5⟩
      walk_at "go"
      exact k4 H5 e5 tabs5
end

end My
namespace My
open PySem PySem.Spec PyProof.Rows L2
/-! ### instructions read of an image as of a list and a tuple -/
def readD (fs : List FD) (bs : List Int) (at_ : Int) : PyData := match instrAt fs bs at_ with
  | none => .tuple [.str "whole", .int at_]
  | some ins => .list [.tuple (ins.map PyData.int)]
def spRead (A : Ad) (K : PySem.W.Frag) : Sp := fun vs H Q _ => ∃ (x : CodeO) (g : Addr) (at_ : Int) (bs : List Int), vs = [.ref x.c, .ref g, .int at_] ∧ x.At A H ∧ x.Ok ∧ Given A K H g bs ∧ bs.length ≤ 500 ∧ ∀ t H', Vc.Ed [] H H' → Dp K H' (.ref t) (readD x.fs bs at_) → Q (.ref t) H'
def sizeOf_ (b : Int) : Int := match SAMPLE.find? (fun f => decide (f.byte = b)) with
  | some f => f.len
  | none => 99
def spReadR (A : Ad) : Sp := fun vs H Q _ => ∃ (c g il : Addr) (vals : List Int), vs = [.ref c, .ref g] ∧ H c = some (.lst (vals.map V.int)) ∧ ImgAt A H g il vals ∧ vals.length ≤ 24 ∧ (∀ v ∈ vals, 0 ≤ v ∧ v ≤ 255) ∧ ∀ H', Vc.Ed [] H H' → Q (.bl true) H'
def szK : List (Key × V) := [(.inl 1, .int 1), (.inl 2, .int 2), (.inl 3, .int 2), (.inl 4, .int 2), (.inl 5, .int 3), (.inl 6, .int 2), (.inl 9, .int 1)]
theorem size_get (b : Int) : (valV szK (.inl b)).getD (.int 99) = .int (sizeOf_ b) := by
  by_cases h1 : b = 1
  · subst h1; rfl
  by_cases h2 : b = 2
  · subst h2; rfl
  by_cases h3 : b = 3
  · subst h3; rfl
  by_cases h4 : b = 4
  · subst h4; rfl
  by_cases h5 : b = 5
  · subst h5; rfl
  by_cases h6 : b = 6
  · subst h6; rfl
  by_cases h9 : b = 9
  · subst h9; rfl
  have e : SAMPLE.find? (fun f => decide (f.byte = b)) = none := List.find?_eq_none.mpr fun f hf => by
    unfold SAMPLE at hf
    simp only [List.mem_cons, List.not_mem_nil, or_false] at hf
    rcases hf with rfl | rfl | rfl | rfl | rfl | rfl | rfl <;> (intro z; have z := of_decide_eq_true z; first | exact h1 z.symm | exact h2 z.symm | exact h3 z.symm | exact h4 z.symm | exact h5 z.symm | exact h6 z.symm | exact h9 z.symm)
  have e2 : valV szK (.inl b) = none := by
    unfold valV szK
    rw [Option.map_eq_none_iff, List.find?_eq_none]
    intro x hx z
    have z := of_decide_eq_true z
    simp only [List.mem_cons, List.not_mem_nil, or_false] at hx
    rcases hx with rfl | rfl | rfl | rfl | rfl | rfl | rfl <;> (have z := Sum.inl.inj z; first | exact h1 z.symm | exact h2 z.symm | exact h3 z.symm | exact h4 z.symm | exact h5 z.symm | exact h6 z.symm | exact h9 z.symm)
  rw [e2]
  unfold sizeOf_
  rw [e]; rfl
def szAt (vals : List Int) (a : Int) : Int := if 0 ≤ a ∧ a < (vals.length : Int) then sizeOf_ (vals.getD a.toNat 0) else 99
theorem size_cases (b : Int) : (SAMPLE.find? (fun f => decide (f.byte = b)) = none ∧ sizeOf_ b = 99) ∨ ∃ f, SAMPLE.find? (fun f => decide (f.byte = b)) = some f ∧ sizeOf_ b = f.len ∧ 1 ≤ f.len := by
  unfold sizeOf_
  cases e : SAMPLE.find? (fun f => decide (f.byte = b)) with
  | none => exact .inl ⟨rfl, rfl⟩
  | some f => exact .inr ⟨f, rfl, rfl, (sample_ok f (List.mem_of_find?_eq_some e)).l1⟩
theorem read_yes {vals : List Int} {a : Int} (h : 0 ≤ a) (h2 : a + szAt vals a ≤ vals.length) (v24 : vals.length ≤ 24) : instrAt SAMPLE vals a = some ((vals.drop a.toNat).take (szAt vals a).toNat) := by
  by_cases c : 0 ≤ a ∧ a < (vals.length : Int)
  · have e : szAt vals a = sizeOf_ (vals.getD a.toNat 0) := if_pos c
    rw [e] at h2 ⊢
    rcases size_cases (vals.getD a.toNat 0) with ⟨_, s⟩ | ⟨f, hf, s, l1⟩
    · rw [s] at h2; omega
    · rw [s] at h2 ⊢
      exact instr_ok (by omega) hf (by omega)
  · have e : szAt vals a = 99 := if_neg c
    rw [e] at h2; omega
theorem read_no {vals : List Int} {a : Int} (h : ¬ (0 ≤ a ∧ a + szAt vals a ≤ vals.length)) : instrAt SAMPLE vals a = none := by
  by_cases c : 0 ≤ a ∧ a < (vals.length : Int)
  · have e : szAt vals a = sizeOf_ (vals.getD a.toNat 0) := if_pos c
    rw [e] at h
    rcases size_cases (vals.getD a.toNat 0) with ⟨hf, s⟩ | ⟨f, hf, s, l1⟩
    · exact instr_nf (by omega) hf
    · rw [s] at h
      exact instr_long (by omega) hf (by omega)
  · exact instr_out (by omega)
theorem read_fits {vals : List Int} {a : Int} (h : ∀ v ∈ vals, 0 ≤ v ∧ v ≤ 255) (v24 : vals.length ≤ 24) (a0 : -2 ≤ a) (a1 : a ≤ 30) (fs : List FD) : Vc.Fits (readD fs vals a) := by
  unfold readD
  cases e : instrAt fs vals a with
  | none => exact Vc.Fw.fits (Vc.fw_tup (w := 100) (k := 0) (Vc.fw_cons (Vc.fw_str (z := ("whole" : Str)) (n := 5) ⟨by decide, by decide⟩) (Vc.fw_cons (Vc.fw_int 31 (small_of (by omega)).ab) Vc.fw_nil)) (by decide : 2 * (100 + 2) + 4 ≤ 300))
  | some ins =>
    have hi : ∀ v ∈ ins, 0 ≤ v ∧ v ≤ 255 := by
      unfold instrAt at e
      split at e
      · cases e
      · split at e
        · cases e
        · split at e
          · cases e
          · obtain rfl := Option.some.inj e
            exact fun v hv => h v (List.mem_of_mem_drop (List.mem_of_mem_take hv))
    have hl : ins.length ≤ 24 := by
      unfold instrAt at e
      split at e
      · cases e
      · split at e
        · cases e
        · split at e
          · cases e
          · obtain rfl := Option.some.inj e
            rw [List.length_take, List.length_drop]; omega
    refine Vc.Fw.fits (w := 4000) (k := 2) ((Vc.fw_lst (w := 3500) (k := 1) (W := 4000) (Vc.fw_cons (Vc.fw_tup (w := 32) (k := 0) (fun x hx => ?_) ?_) Vc.fw_nil) (by show 1 * (3500 + 2) + 4 ≤ 4000; decide)).mono (by decide) (by decide))
    · obtain ⟨q, hq, rfl⟩ := List.mem_map.mp hx
      have := hi q hq
      exact Vc.fw_int 31 (small_of (by omega)).ab
    · rw [List.length_map]
      exact Nat.le_trans (Nat.add_le_add_right (Nat.mul_le_mul_right _ hl) _) (by decide)
section
variable {w : World} {K : PySem.W.Frag} {mg : Str → Option Value} {base : Heap} {A : Ad}
theorem ok__law_read (T : Txt K mg A) : FnOk PG w K mg base CX0 6 A.f__law_read A.d__law_read ["_law_book", "_law_row", "_law_at"] (spRead A K) := by
  have G_CodeSetu_callu := ok_CodeSetu_callu (w := w) (base := base) T
  refine T.F__law_read.ok sc__law_read (fun vs H Q E h => ?_) (fun cdv Ar outer s H vs Q E hr h => ?_)
  · obtain ⟨x, g, at_, bs, rfl, _⟩ := h
    rfl
  · obtain ⟨x, g, at_, bs, rfl, hX, hO, G, bl, k⟩ := h
    refine ⟨_, (pss_cons (ps_set (i := 3) sc__law_read.nd rfl (Or.inl rfl) pe_non) (pss_cons (Vc.ps_tryX (i := 4) rfl rfl sc__law_read.nd rfl rfl ⟨rfl, by decide, .inl T.g_NotWhole⟩ takes0 (fun W pn xe tk po => (pss_one (ps_ret (pe_lst (pa_cons (Vc.pe_callI (pv 0) T.co_CodeSet G_CodeSetu_callu (by exact hr.mono (by decide)) T.b_CodeSetu_callu (fun σ => passAt tk σ) (pa_cons (pv 1) (pa_cons (pv 2) pa_nil))) pa_nil))))) (fun a pn => (pss_one (ps_set (i := 3) sc__law_read.nd rfl (Or.inl rfl) (pv 4))))) (pss_one (ps_ret (pe_tup (pa_cons pe_str (pa_cons (Vc.pe_xfT (pv 3)) pa_nil))))))), ?_⟩
    have ec := T.ec_NotWhole
    have xf := T.xf_NotWhole
    have no := T.no_NotWhole_place
    walk_at "go"
    refine ⟨⟨_, _, hX.1⟩, ⟨x, g, at_, bs, rfl, hX, hO, G, bl, fun bad d H1 e1 hd => ?_, fun ins ok q H1 e1 hq => ?_⟩⟩
    · refine Vc.go_wX T.exm_NotWhole_NotWhole fun a H2 na e2 ha => ?_
      have hE := Vc.ErrAt.of ha e2 hd
      walk_at "go"
      intro t nt
      generalize hu3 : upd _ t _ = H3
      obtain ⟨e3, ht⟩ := Vc.alloc hu3 nt
      refine k t H3 ((e1.ex e2).ex e3) ?_
      unfold readD
      rw [bad]
      exact .tup (.inl (.of ht)) (.cons (.str _) (.cons (.int _) .nil))
    · walk_at "go"
      intro t nt
      generalize hu3 : upd _ t _ = H3
      obtain ⟨e3, ht⟩ := Vc.alloc hu3 nt
      refine k t H3 (e1.ex e3) ?_
      unfold readD
      rw [ok]
      exact .lst (.of ht) (.cons (.tup (.inl (.of (e3.tup _ _ hq))) (dp_ints ins)) .nil)
theorem ok__law_read_right (T : Txt K mg A) : Vc.FnG PG w K mg base CX0 10 A.f__law_read_right A.d__law_read_right ["_law_cells_here", "_law_image"] (spReadR A) := by
  have G__law_cells := ok__law_cells (w := w) (base := base) T
  have G__law_read := ok__law_read (w := w) (base := base) T
  have G_CodeSet_sample := ok_CodeSet_sample (P := PG) (w := w) (base := base) T
  refine Vc.Fun.okG T.F__law_read_right sc__law_read_right (fun vs H Q E h => ?_) (fun cdv Ar outer s H vs Q E hgd hr h => ?_)
  · obtain ⟨c, g, il, vals, rfl, _⟩ := h
    rfl
  · obtain ⟨c, g, il, vals, rfl, hc, I, v24, vby, k⟩ := h
    have hu := hu_of hr
    refine ⟨_, (pss_cons (ps_par (i := 2) (j := 3) (by rfl) sc__law_read_right.nd rfl rfl (by decide) rfl rfl (pa_cons (Vc.pe_smeth0 (pe_glob (v := .ref A.C_CodeSet) (by rfl) T.g_CodeSet rfl) T.cr_CodeSet T.sm_CodeSet_sample G_CodeSet_sample (by exact hr.mono (by decide)) T.b_CodeSet_sample pass0) (pa_cons (pe_disp (pps_cons pe_int pe_int (pps_cons pe_int pe_int (pps_cons pe_int pe_int (pps_cons pe_int pe_int (pps_cons pe_int pe_int (pps_cons pe_int pe_int (pps_cons pe_int pe_int pps_nil))))))) (by rfl) (by rfl) (fun z => by cases z) (by decide)) pa_nil)) (by rfl)) (pss_cons (ps_for PassesOwn.never rfl (Vc.pi_rangeL (by rfl) T.n_range (pa_cons (pe_un un_neg pe_int) (pa_cons (pe_op op_add (pe_callB call_len_seq (by rfl) T.n_len (by decide +kernel) (pa_cons (pv 0) pa_nil)) pe_int) pa_nil))) (pg_name (i := 4) sc__law_read_right.nd rfl (Or.inl rfl)) (Evl.pss_cut (ps_set (i := 5) sc__law_read_right.nd rfl (Or.inl rfl) (pe_ifExp (pt_chain op_le op_lt pe_int (pv 4) (pe_callB call_len_seq (by rfl) T.n_len (by decide +kernel) (pa_cons (pv 0) pa_nil))) (pe_dget2 (by exact hu) (pv 3) (pe_ix ix_list (pv 0) (pv 4) (fun _ _ => rfl)) pe_int ⟨rfl, rfl, rfl, rfl⟩) pe_int)) (Evl.pss_cut (ps_set (i := 6) sc__law_read_right.nd rfl (Or.inl rfl) (pe_ifExp (PW.pt (pw_and (pt_cmpR op_le pe_int (pv 4) (nomark _)) (pw_and1 (pt_cmpR op_le (pe_op op_add (pv 4) (pv 5)) (pe_callB call_len_seq (by rfl) T.n_len (by decide +kernel) (pa_cons (pv 0) pa_nil)) (nomark _))))) (pe_lst (pa_cons (pe_callTy Vc.call_tupD (by rfl) T.n_tuple (by decide +kernel) (pa_cons (pe_slice sl_list (pv 0) (po_some (pv 4)) (po_some (pe_op op_add (pv 4) (pv 5)))) pa_nil)) pa_nil)) (pe_tup (pa_cons pe_str (pa_cons (pv 4) pa_nil))))) (pss_one (ps_for PassesOwn.never rfl (pi_tup (pe_tup (pa_cons (pv 1) (pa_cons (pv 0) (pa_cons (pe_callTy Vc.call_tupD (by rfl) T.n_tuple (by decide +kernel) (pa_cons (pv 0) pa_nil)) pa_nil))))) (pg_name (i := 7) sc__law_read_right.nd rfl (Or.inl rfl)) (pss_one (ps_if (pt_cmpR op_ne (pe_callB (Vc.call_reprD hgd (Vc.room64 hr)) (by rfl) T.n_repr (by decide +kernel) (pa_cons (pe_call G__law_read (by exact hr.mono (by decide)) (by rfl) T.g__law_read T.F__law_read.kp T.b__law_read .nil pass0 (pa_cons (pv 2) (pa_cons (pv 7) (pa_cons (pv 4) pa_nil)))) pa_nil)) (pe_callB (Vc.call_reprD hgd (Vc.room64 hr)) (by rfl) T.n_repr (by decide +kernel) (pa_cons (pv 6) pa_nil)) (nomark _)) (pss_one (ps_ret pe_bl)) pss_nil))))))) (pss_one (ps_ret (pe_cmpR op_eq (pe_callB (Vc.call_reprD hgd (Vc.room64 hr)) (by rfl) T.n_repr (by decide +kernel) (pa_cons (pe_call G__law_cells (by exact hr.mono (by decide)) (by rfl) T.g__law_cells T.F__law_cells.kp T.b__law_cells .nil pass0 (pa_cons (pv 1) pa_nil)) pa_nil)) (pe_callB (Vc.call_reprD hgd (Vc.room64 hr)) (by rfl) T.n_repr (by decide +kernel) (pa_cons (pv 0) pa_nil)) (nomark _)))))), ?_⟩
    walk_at "go"
    refine Vc.go_par ?_
    walk_at "go"
    refine ⟨rfl, fun x H1 e1 nx X1 ok es fe => ?_⟩
    intro z nz
    generalize hu2 : upd _ z _ = H2
    obtain ⟨e2, hz0⟩ := Vc.alloc hu2 nz
    walk_at "go"
    refine ⟨hz0, szK, rfl, by decide, ?_⟩
    generalize hu2' : upd _ z _ = H2'
    obtain ⟨e2', hz⟩ := Vc.chg hu2' hz0
    have hz : H2' z = some (.dK szK) := hz
    have e12 : Vc.Ed [] H1 H2' := e2.one e2' (.inr nz)
    have e02 := e1.ex e12
    have X2 := X1.ed0 e12
    have hc2 := e02.at0 hc
    have I2 := I.ed0 e02
    have k2 : ∀ H', Vc.Ed [] H2' H' → Q (.bl true) H' := fun H' e => k H' (e02.ex e)
    clear k e2 e2' e12 e1 X1 hz0 hu2 hu2' nz nx e02 hc I
    walk_at "go"
    refine ⟨_, _, rfl, ?_⟩
    walk_at "go"
    rw [List.length_map]
    have k3 := k2
    refine for_it walk_range (fun j σ H' => (∃ y4 y5 y6 y7 : Option V, σ = [some (.ref c), some (.ref g), some (.ref x.c), some (.ref z), y4, y5, y6, y7]) ∧ Vc.Ed [] H2' H') ⟨⟨none, none, none, none, rfl⟩, .refl⟩ (fun _ _ _ _ _ => trivial) ?_ ?_
    · rintro j v σ H3 H4 hj ⟨⟨y4, y5, y6, y7, rfl⟩, e3⟩ ⟨rfl, hv⟩
      have hj : j < ((vals.length : Int) + 2 - -2).toNat := by simpa using hj
      have hat : ∃ a : Int, -2 + (j : Int) = a ∧ -2 ≤ a ∧ a ≤ 30 := ⟨_, rfl, by omega, by omega⟩
      obtain ⟨a, ha, a0, a1⟩ := hat
      obtain rfl : v = .int a := hv.trans (by show V.int (-2 + (j : Int)) = _; rw [ha])
      clear k2 k3 hj
      have hc3 := e3.at0 hc2
      have hz3 := e3.at0 hz
      have I3 := I2.ed0 e3
      have X3 := X2.ed0 e3
      walk_at "go"
      refine Evl.q_cut (M := fun σ H' => σ = [some (.ref c), some (.ref g), some (.ref x.c), some (.ref z), some (.int a), some (.int (szAt vals a)), y6, y7] ∧ H' = H4) ?_ ?_
      · walk_at "go"
        refine Vc.go_ite (fun gA => ?_) (fun gA => ?_)
        · walk_at "go"
          rw [List.length_map]
          by_cases g2 : a < (vals.length : Int)
          · have sz : szAt vals a = sizeOf_ (vals.getD a.toNat 0) := if_pos ⟨gA, g2⟩
            have g1 := at_getD (bs := vals) gA g2
            rw [decide_eq_true g2]
            walk_at "go"
            refine Vc.go_DGet2 ?_
            walk_at "go"
            refine ⟨.inl ⟨_, .inl hz3⟩, ?_⟩
            walk_at "go"
            refine ⟨_, DGet.k (k := .inl (vals.getD a.toNat 0)) hz3, ?_⟩
            rw [size_get, ← sz]
            walk_at "go"
            exact ⟨rfl, rfl⟩
          · have sz : szAt vals a = 99 := if_neg fun z => g2 z.2
            rw [decide_eq_false g2, sz]
            walk_at "go"
            exact ⟨rfl, rfl⟩
        · have sz : szAt vals a = 99 := if_neg fun z => gA z.1
          rw [sz]
          walk_at "go"
          exact ⟨rfl, rfl⟩
      rintro σ H5 ⟨rfl, rfl⟩
      have sz0 : 0 ≤ szAt vals a := by
        unfold szAt
        split
        · rcases size_cases (vals.getD a.toNat 0) with ⟨_, s⟩ | ⟨f, _, s, l1⟩ <;> omega
        · decide
      refine Evl.q_cut (M := fun σ H' => ∃ t, σ = [some (.ref c), some (.ref g), some (.ref x.c), some (.ref z), some (.int a), some (.int (szAt vals a)), some (.ref t), y7] ∧ Vc.Ed [] H5 H' ∧ Dp K H' (.ref t) (readD SAMPLE vals a)) ?_ ?_
      · have bad : ¬ (0 ≤ a ∧ a + szAt vals a ≤ vals.length) → ∀ t H', Vc.Ed [] H5 H' → H' t = some (.tup [.str "whole", .int a]) → Dp K H' (.ref t) (readD SAMPLE vals a) := fun c t H' e h => by
          unfold readD
          rw [read_no c]
          exact .tup (.inl (.of h)) (.cons (.str _) (.cons (.int _) .nil))
        walk_at "go"
        refine Vc.go_ite (fun gA => ?_) (fun gA => ?_)
        · walk_at "go"
          rw [List.length_map]
          refine Vc.go_ite (fun g2 => ?_) (fun g2 => ?_)
          · walk_at "go"
            intro q nq
            rw [cut_ints gA sz0]
            generalize hu6 : upd _ q _ = H6
            obtain ⟨e6, hq⟩ := Vc.alloc hu6 nq
            walk_at "go"
            intro r nr
            generalize hu7 : upd _ r _ = H7
            obtain ⟨e7, hr_⟩ := Vc.alloc hu7 nr
            walk_at "go"
            intro o no
            generalize hu8 : upd _ o _ = H8
            obtain ⟨e8, ho⟩ := Vc.alloc hu8 no
            walk_at "go"
            refine ⟨o, rfl, (e6.ex e7).ex e8, ?_⟩
            unfold readD
            rw [read_yes gA g2 v24]
            exact .lst (.of ho) (.cons (.tup (.inl (.of (e8.tup _ _ hr_))) (dp_ints _)) .nil)
          · walk_at "go"
            intro o no
            generalize hu8 : upd _ o _ = H8
            obtain ⟨e8, ho⟩ := Vc.alloc hu8 no
            walk_at "go"
            exact ⟨o, rfl, e8, bad (fun z => g2 z.2) o H8 e8 ho⟩
        · walk_at "go"
          intro o no
          generalize hu8 : upd _ o _ = H8
          obtain ⟨e8, ho⟩ := Vc.alloc hu8 no
          walk_at "go"
          exact ⟨o, rfl, e8, bad (fun z => gA z.1) o H8 e8 ho⟩
      rintro σ H6 ⟨t, rfl, e6, ht⟩
      have hc6 := e6.at0 hc3
      have I6 := I3.ed0 e6
      have X6 := X3.ed0 e6
      clear hc3 I3 X3 hz3
      walk_at "go"
      intro u nu
      generalize hu7 : upd _ u _ = H7
      obtain ⟨e7, hu_⟩ := Vc.alloc hu7 nu
      have hc7 := e7.at0 hc6
      walk_at "go"
      intro o no
      generalize hu8 : upd _ o _ = H8
      obtain ⟨e8, ho⟩ := Vc.alloc hu8 no
      have hc8 := e8.at0 hc7
      have e68 := e7.ex e8
      have I8 := I6.ed0 e68
      have X8 := X6.ed0 e68
      have ht8 := Vc.Dp.ed0 e68 ht
      have hu8_ := e8.tup _ _ hu_
      have e28 := (e3.ex e6).ex e68
      have fit := read_fits vby v24 a0 a1 SAMPLE
      refine ⟨o, rfl, ⟨_, .inl (.inl ho)⟩, for_tup (xs := [V.ref g, V.ref c, V.ref u]) (fun j σ H' => (∃ y7 : Option V, σ = [some (.ref c), some (.ref g), some (.ref x.c), some (.ref z), some (.int a), some (.int (szAt vals a)), some (.ref t), y7]) ∧ Vc.Ed [] H8 H') ⟨⟨y7, rfl⟩, .refl⟩ (fun j σ H' _ q => .inl (.inl (q.2.tup _ _ ho))) ?_ ?_⟩
      · rintro j2 v σ H9 hj2 ⟨⟨y7, rfl⟩, e9⟩
        obtain ⟨r, rfl, G⟩ : ∃ r, v = .ref r ∧ Given A K H9 r vals := by
          match j2, hj2 with
          | 0, hj => obtain rfl := Option.some.inj hj; exact ⟨g, rfl, .inr (.inr ⟨il, I8.ed0 e9⟩)⟩
          | 1, hj => obtain rfl := Option.some.inj hj; exact ⟨c, rfl, .inl (.of (e9.at0 hc8))⟩
          | 2, hj => obtain rfl := Option.some.inj hj; exact ⟨u, rfl, .inr (.inl (.of (e9.tup _ _ hu8_)))⟩
        walk_at "go"
        refine ⟨x, r, a, vals, rfl, X8.ed0 e9, ok, G, by omega, fun t2 H10 e10 h2 => ?_⟩
        rw [fe] at h2
        walk_at "go"
        refine ⟨_, _, rfl, h2, fit, ?_⟩
        walk_at "go"
        refine ⟨_, _, rfl, Vc.Dp.ed0 e10 (Vc.Dp.ed0 e9 ht8), fit, ?_⟩
        walk_at "go"
        exact ⟨⟨_, rfl⟩, e9.ex e10⟩
      · rintro σ H9 ⟨⟨y7, rfl⟩, e9⟩
        walk_at "go"
        exact ⟨⟨_, _, _, _, rfl⟩, e28.ex e9⟩
    · rintro σ H3 ⟨⟨y4, y5, y6, y7, rfl⟩, e3⟩
      walk_at "go"
      refine ⟨g, vals, rfl, .inr (.inr ⟨il, I2.ed0 e3⟩), by omega, fun S H4 e4 nS hS => ?_⟩
      have hc4 := e4.at0 (e3.at0 hc2)
      have fit := bytes_fits vby v24
      walk_at "go"
      refine ⟨_, _, rfl, dp_lst hS, fit, ?_⟩
      walk_at "go"
      refine ⟨_, _, rfl, dp_lst hc4, fit, ?_⟩
      walk_at "go"
      rw [decide_eq_true rfl]
      exact k2 H4 (e3.ex e4)
end

end My
namespace My
open PySem PySem.Spec PyProof.Rows L2
/-! ### an image equals no row of another length, and nothing of another kind -/
def spUnlike (A : Ad) : Sp := fun vs H Q _ => ∃ (c g il : Addr) (vals : List Int), vs = [.ref c, .ref g] ∧ H c = some (.lst (vals.map V.int)) ∧ ImgAt A H g il vals ∧ 1 ≤ vals.length ∧ vals.length ≤ 24 ∧ (∀ v ∈ vals, 0 ≤ v ∧ v ≤ 255) ∧ ∀ H', Vc.Ed [] H H' → Q (.bl true) H'
/-- images whose bytes are others -/
def Others (A : Ad) (H : Hp) (o : Addr) (vals : List Int) (xs : List V) : Prop := ∀ x ∈ xs, ∃ q m ws, x = .ref q ∧ ImgAt A H q m ws ∧ ws ≠ vals ∧ m ≠ o
theorem Others.ed {A : Ad} {H H' : Hp} {o : Addr} {vals : List Int} {xs : List V} (h : Others A H o vals xs) (e : Vc.Ed [] H H') : Others A H' o vals xs := fun x hx => by
  obtain ⟨q, m, ws, a, b, c⟩ := h x hx
  exact ⟨q, m, ws, a, b.ed0 e, c⟩
theorem cut_m1 (xs : List V) : cutV xs none (some (-1)) = xs.dropLast := by
  unfold cutV
  rw [HT.sIx_none, List.drop_zero, Nat.sub_zero, List.dropLast_eq_take]
  congr 1
  show (if (-1 : Int) < 0 then ((-1 : Int) + (xs.length : Int)).toNat else min (-1 : Int).toNat xs.length) = _
  rw [if_pos (by decide)]
  omega
theorem mk_img {A : Ad} {K : PySem.W.Frag} {H : Hp} {R : Addr → Hp → Prop} {E : XK} {h : Addr} {vals : List Int} (G : Given A K H h vals) (vl : vals.length ≤ 1000) (ok : badAt vals = none) (k : ∀ g il H', Vc.Ed [] H H' → H g = none → H il = none → ImgAt A H' g il vals → R g H') :
    ∀ x dx, H x = none → H dx = none → dx ≠ x → spImgInit A K (.ref x :: [.ref h]) (upd (upd H dx (.own x)) x (.ins A.C_Image dx [])) (fun v H2 => v = .non ∧ R x H2) E := by
  intro x dx nx ndx ne
  generalize hu : upd (upd H dx (.own x)) x (.ins A.C_Image dx []) = H1
  obtain ⟨e1, h1, _⟩ := Vc.allocI hu nx ndx ne
  exact ⟨x, dx, h, vals, rfl, h1, G.ed0 e1, vl, fun i dd H2 bad _ _ => (by rw [ok] at bad; cases bad), fun _ il H2 e2 nil I => ⟨rfl, k x il H2 (e1.one e2 (.inr nx)) nx (e1.dom _ nil) I⟩⟩
section
variable {K : PySem.W.Frag} {mg : Str → Option Value} {A : Ad} {H : Hp} {Q : VK} {p q l m : Addr} {vals ws : List Int}
theorem eq_img (T : Txt K mg A) (X : ImgAt A H p l vals) (Y : ImgAt A H q m ws) (k : Q (.bl (decide (vals = ws))) H) : Vc.rEqO K A.C_Image (spImgEq A K) (.ref p) (.ref q) H Q := by
  obtain ⟨⟨dx, hp⟩, _⟩ := id X
  obtain ⟨⟨dy, hq⟩, _⟩ := id Y
  exact Vc.go_eqO hp (Vc.ty_ins hq T.ic_Image) T.nf_Image_Image ⟨p, l, vals, .ref q, rfl, X, .inl ⟨q, m, ws, rfl, Y, _, rfl, k⟩⟩
theorem ne_img (T : Txt K mg A) (X : ImgAt A H p l vals) (Y : ImgAt A H q m ws) (k : Q (.bl (!decide (vals = ws))) H) : Vc.rNeO K A.C_Image (spImgEq A K) (.ref p) (.ref q) H Q := by
  obtain ⟨⟨dx, hp⟩, _⟩ := id X
  obtain ⟨⟨dy, hq⟩, _⟩ := id Y
  exact Vc.go_neO rfl hp (Vc.ty_ins hq T.ic_Image) T.nf_Image_Image ⟨p, l, vals, .ref q, rfl, X, .inl ⟨q, m, ws, rfl, Y, _, rfl, k⟩⟩
theorem eq_oth {y : V} {t : Value} (X : ImgAt A H p l vals) (ty : TyX K H y t) (nf : PySem.W.notFirst K A.C_Image t = true) (kt : PySem.W.kitOne K t (.ref A.C_Image) = some false) (k : Q (.bl false) H) : Vc.rEqO K A.C_Image (spImgEq A K) (.ref p) y H Q := by
  obtain ⟨⟨dx, hp⟩, _⟩ := id X
  exact Vc.go_eqO hp ty nf ⟨p, l, vals, y, rfl, X, .inr ⟨t, ty, kt, _, rfl, k⟩⟩
theorem ne_oth {y : V} {t : Value} (X : ImgAt A H p l vals) (ty : TyX K H y t) (nf : PySem.W.notFirst K A.C_Image t = true) (kt : PySem.W.kitOne K t (.ref A.C_Image) = some false) (k : Q (.bl true) H) : Vc.rNeO K A.C_Image (spImgEq A K) (.ref p) y H Q := by
  obtain ⟨⟨dx, hp⟩, _⟩ := id X
  exact Vc.go_neO rfl hp ty nf ⟨p, l, vals, y, rfl, X, .inr ⟨t, ty, kt, _, rfl, k⟩⟩
end
section
variable {w : World} {K : PySem.W.Frag} {mg : Str → Option Value} {base : Heap} {A : Ad}
theorem ok__law_unlike_right (T : Txt K mg A) : FnOk PG w K mg base CX0 7 A.f__law_unlike_right A.d__law_unlike_right ["_law_cells_here", "_law_image"] (spUnlike A) := by
  have G_Imageu_initu := ok_Imageu_initu (w := w) (base := base) T
  have G_Imageu_equ := ok_Imageu_equ (P := PG) (w := w) (base := base) T
  refine T.F__law_unlike_right.ok sc__law_unlike_right (fun vs H Q E h => ?_) (fun cdv Ar outer s H vs Q E hr h => ?_)
  · obtain ⟨c, g, il, vals, rfl, _⟩ := h
    rfl
  · obtain ⟨c, g, il, vals, rfl, hc, I, v1, v24, vby, k⟩ := h
    have hu := hu_of hr
    refine ⟨_, (pss_cons (ps_set (i := 2) sc__law_unlike_right.nd rfl (Or.inl rfl) (pe_lst pa_nil)) (Evl.pss_cut (ps_if (pt_cmpR op_lt (pe_callB call_len_seq (by rfl) T.n_len (by decide +kernel) (pa_cons (pv 0) pa_nil)) pe_int (nomark _)) (pss_one (ps_expr (pe_bm PySem.F.plainAttrs_list PySem.F.slot_list_append PySem.F.type_list_append mt_append (pv 2) (pa_cons (pe_make T.mk_Image G_Imageu_initu (by exact hr.mono (by decide)) (by rfl) T.g_Image T.b_Imageu_initu .nil passL (pa_cons (pe_op op_cat (pv 0) (pe_lst (pa_cons pe_int pa_nil))) pa_nil)) pa_nil)))) pss_nil) (Evl.pss_cut (ps_if (pt_cmpR op_gt (pe_callB call_len_seq (by rfl) T.n_len (by decide +kernel) (pa_cons (pv 0) pa_nil)) pe_int (nomark _)) (pss_one (ps_expr (pe_bm PySem.F.plainAttrs_list PySem.F.slot_list_append PySem.F.type_list_append mt_append (pv 2) (pa_cons (pe_make T.mk_Image G_Imageu_initu (by exact hr.mono (by decide)) (by rfl) T.g_Image T.b_Imageu_initu .nil passL (pa_cons (pe_slice sl_list (pv 0) po_none (po_some (pe_un un_neg pe_int))) pa_nil)) pa_nil)))) pss_nil) (pss_cons (ps_for PassesOwn.never rfl (pi_list (pv 2)) (pg_name (i := 3) sc__law_unlike_right.nd rfl (Or.inl rfl)) (pss_one (ps_if (PW.pt (pw_or (pt_cmpR (Vc.op_eqO G_Imageu_equ (by exact hr.mono (by decide)) T.eq_Image T.b_Imageu_equ) (pv 1) (pv 3) (nomark _)) (pw_or (pt_cmpR (Vc.op_eqO G_Imageu_equ (by exact hr.mono (by decide)) T.eq_Image T.b_Imageu_equ) (pv 3) (pv 1) (nomark _)) (pw_or1 (pt_not (pt_cmpR (Vc.op_neO G_Imageu_equ (by exact hr.mono (by decide)) T.ne_Image T.b_Imageu_equ) (pv 1) (pv 3) (nomark _))))))) (pss_one (ps_ret pe_bl)) pss_nil))) (pss_cons (ps_set (i := 4) sc__law_unlike_right.nd rfl (Or.inl rfl) (pe_lst (pa_cons (pe_callTy Vc.call_lstD (by rfl) T.n_list (by decide +kernel) (pa_cons (pv 0) pa_nil)) (pa_cons (pe_callTy Vc.call_tupD (by rfl) T.n_tuple (by decide +kernel) (pa_cons (pv 0) pa_nil)) (pa_cons (pe_lst (pa_cons (pv 0) pa_nil)) (pa_cons (pe_ix ix_list (pv 0) pe_int (fun _ _ => rfl)) (pa_cons pe_non (pa_cons pe_bl (pa_cons pe_int (pa_cons pe_str pa_nil)))))))))) (pss_cons (ps_for PassesOwn.never rfl (pi_list (pv 4)) (pg_name (i := 5) sc__law_unlike_right.nd rfl (Or.inl rfl)) (pss_one (ps_if (PW.pt (pw_or (pt_cmpR (Vc.op_eqO G_Imageu_equ (by exact hr.mono (by decide)) T.eq_Image T.b_Imageu_equ) (pv 1) (pv 5) (nomark _)) (pw_or1 (pt_not (pt_cmpR (Vc.op_neO G_Imageu_equ (by exact hr.mono (by decide)) T.ne_Image T.b_Imageu_equ) (pv 1) (pv 5) (nomark _)))))) (pss_one (ps_ret pe_bl)) pss_nil))) (pss_one (ps_ret pe_bl)))))))), ?_⟩
    walk_at "go"
    intro o no
    generalize hu1 : upd _ o _ = H1
    obtain ⟨e1, ho⟩ := Vc.alloc hu1 no
    walk_at "go"
    refine Evl.q_cut (M := fun σ H' => σ = [some (.ref c), some (.ref g), some (.ref o), none, none, none] ∧ Vc.Ed [] H H' ∧ ∃ xs, H' o = some (.lst xs) ∧ xs.length ≤ 1 ∧ Others A H' o vals xs) ?_ ?_
    · walk_at "go"
      rw [List.length_map]
      refine Vc.go_ite (fun g1 => ?_) (fun g1 => ?_)
      · walk_at "go"
        intro z nz
        generalize hu2 : upd _ z _ = H2
        obtain ⟨e2, hz⟩ := Vc.alloc hu2 nz
        have hz : H2 z = some (.lst (([0] : List Int).map V.int)) := hz
        have hc2 := e2.at0 (e1.at0 hc)
        refine Vc.go_cat hc2 hz (by rw [List.length_map, List.length_map]; show _ + 1 ≤ 1000; omega) fun q nq => ?_
        rw [← List.map_append]
        generalize hu3 : upd _ q _ = H3
        obtain ⟨e3, hq⟩ := Vc.alloc hu3 nq
        have ho3 := e3.at0 (e2.at0 ho)
        walk_at "go"
        refine mk_img (.inl (.of hq)) (by rw [List.length_append]; show _ + 1 ≤ 1000; omega) (badAt_of fun v hv => ?_) fun p l H4 e4 np nl I4 => ?_
        · rcases List.mem_append.mp hv with h | h
          · exact vby v h
          · rw [List.mem_singleton.mp h]; decide
        have ho4 := e4.at0 ho3
        walk_at "go"
        generalize hu5 : upd _ o _ = H5
        obtain ⟨e5, ho5⟩ := Vc.chg hu5 ho4
        have ne : vals ++ [0] ≠ vals := fun z => by
          have := congrArg List.length z
          rw [List.length_append] at this
          have : vals.length + 1 = vals.length := this
          omega
        have nlo : l ≠ o := fun z => by rw [z, ho3] at nl; cases nl
        have npo : p ≠ o := fun z => by rw [z, ho3] at np; cases np
        exact ⟨rfl, (((e1.ex e2).ex e3).ex e4).one e5 (.inr no), _, ho5, Nat.le_refl 1, fun x hx => ⟨p, l, _, List.mem_singleton.mp hx, I4.ed e5 (fun z => npo (List.mem_singleton.mp z)) (fun z => nlo (List.mem_singleton.mp z)), ne, nlo⟩⟩
      · walk_at "go"
        exact ⟨rfl, e1, [], ho, by decide, fun _ z => nomatch z⟩
    rintro σ H2 ⟨rfl, e2, xs, ho2, xl, ot⟩
    refine Evl.q_cut (M := fun σ H' => σ = [some (.ref c), some (.ref g), some (.ref o), none, none, none] ∧ Vc.Ed [] H H' ∧ ∃ xs, H' o = some (.lst xs) ∧ xs.length ≤ 2 ∧ Others A H' o vals xs) ?_ ?_
    · have hc2 := e2.at0 hc
      walk_at "go"
      rw [List.length_map]
      refine Vc.go_ite (fun g1 => ?_) (fun g1 => ?_)
      · walk_at "go"
        intro q nq
        rw [cut_m1, ← List.map_dropLast]
        generalize hu3 : upd _ q _ = H3
        obtain ⟨e3, hq⟩ := Vc.alloc hu3 nq
        have ho3 := e3.at0 ho2
        walk_at "go"
        refine mk_img (.inl (.of hq)) (by rw [List.length_dropLast]; omega) (badAt_of fun v hv => vby v (List.dropLast_subset _ hv)) fun p l H4 e4 np nl I4 => ?_
        have ho4 := e4.at0 ho3
        have ot4 := (ot.ed e3).ed e4
        have xl' : xs.length ≤ 1000 := by omega
        walk_at "go"
        generalize hu5 : upd _ o _ = H5
        obtain ⟨e5, ho5⟩ := Vc.chg hu5 ho4
        have ne : vals.dropLast ≠ vals := fun z => by
          have := congrArg List.length z
          rw [List.length_dropLast] at this
          omega
        have nlo : l ≠ o := fun z => by rw [z, ho3] at nl; cases nl
        have npo : p ≠ o := fun z => by rw [z, ho3] at np; cases np
        have xl2 : (xs ++ [V.ref p]).length ≤ 2 := by rw [List.length_append, List.length_singleton]; omega
        refine ⟨rfl, ((e2.ex e3).ex e4).one e5 (.inr no), _, ho5, xl2, fun x hx => ?_⟩
        rcases List.mem_append.mp hx with hx | hx
        · obtain ⟨q', m', ws, rfl, I', n', mo⟩ := ot4 x hx
          obtain ⟨dz, hz⟩ := id I'.ob
          refine ⟨q', m', ws, rfl, I'.ed e5 (fun z => ?_) (fun z => ?_), n', mo⟩
          · rw [List.mem_singleton.mp z, ho4] at hz; cases hz
          · exact mo (List.mem_singleton.mp z)
        · exact ⟨p, l, _, List.mem_singleton.mp hx, I4.ed e5 (fun z => npo (List.mem_singleton.mp z)) (fun z => nlo (List.mem_singleton.mp z)), ne, nlo⟩
      · walk_at "go"
        exact ⟨rfl, e2, xs, ho2, by omega, ot⟩
    clear xl ot ho2 e2 xs
    rintro σ H3 ⟨rfl, e3, xs, ho3, xl, ot⟩
    have I3 := I.ed0 e3
    have hc3 := e3.at0 hc
    obtain ⟨dg, hg3⟩ := id I3.ob
    walk_at "go"
    refine ⟨⟨_, .of ho3⟩, for_list (xs := xs) (fun j σ H' => (∃ y : Option V, σ = [some (.ref c), some (.ref g), some (.ref o), y, none, none]) ∧ H' = H3) ⟨⟨none, rfl⟩, rfl⟩ (fun j σ H' _ q => by rw [q.2]; exact .of ho3) ?_ ?_⟩
    · rintro j v σ H4 hj ⟨⟨y, rfl⟩, rfl⟩
      obtain ⟨q, m, ws, rfl, J, ne, mo⟩ := ot v (List.mem_of_getElem? hj)
      walk_at "go"
      refine eq_img T I3 J ?_
      rw [decide_eq_false fun z => ne z.symm]
      walk_at "go"
      refine eq_img T J I3 ?_
      rw [decide_eq_false ne]
      walk_at "go"
      refine ne_img T I3 J ?_
      rw [decide_eq_false fun z => ne z.symm]
      walk_at "go"
      exact ⟨⟨_, rfl⟩, rfl⟩
    rintro σ H4 ⟨⟨y, rfl⟩, rfl⟩
    have at0_ : atI (vals.map V.int) 0 = some (.int (vals.getD 0 0)) := at_of (z := 0) (j := 0) (by omega) (by rw [List.getElem?_map, List.getElem?_eq_getElem (by omega), List.getD_eq_getElem?_getD, List.getElem?_eq_getElem (by omega)]; rfl)
    walk_at "go"
    intro L1 nL1
    generalize hu5 : upd _ L1 _ = H5
    obtain ⟨e5, hL1⟩ := Vc.alloc hu5 nL1
    have hc5 := e5.at0 hc3
    walk_at "go"
    intro t2 nt2
    generalize hu6 : upd _ t2 _ = H6
    obtain ⟨e6, ht2⟩ := Vc.alloc hu6 nt2
    have hc6 := e6.at0 hc5
    walk_at "go"
    intro L3 nL3
    generalize hu7 : upd _ L3 _ = H7
    obtain ⟨e7, hL3⟩ := Vc.alloc hu7 nL3
    have hc7 := e7.at0 hc6
    walk_at "go"
    intro th nth
    generalize hu8 : upd _ th _ = H8
    obtain ⟨e8, hth⟩ := Vc.alloc hu8 nth
    have e38 := ((e5.ex e6).ex e7).ex e8
    have I8 := I3.ed0 e38
    have h1 := e8.at0 (e7.at0 (e6.at0 hL1))
    have h2 := e8.tup _ _ (e7.tup _ _ ht2)
    have h3 := e8.at0 hL3
    have e08 := e3.ex e38
    obtain ⟨dg8, hg8⟩ := id I8.ob
    clear hL1 ht2 hL3 e5 e6 e7 e8 hc5 hc6 hc7 hu5 hu6 hu7 hu8 e38 nL1 nt2 nL3 nth ot ho3 xl hg3 I3 hc3 I hc e1 ho hu1
    walk_at "go"
    refine ⟨⟨_, .of hth⟩, for_list (xs := [.ref L1, .ref t2, .ref L3, .int (vals.getD 0 0), .non, .bl true, .int 0, .str ""]) (fun j σ H' => (∃ y5 : Option V, σ = [some (.ref c), some (.ref g), some (.ref o), y, some (.ref th), y5]) ∧ H' = H8) ⟨⟨none, rfl⟩, rfl⟩ (fun j σ H' _ q => by rw [q.2]; exact .of hth) ?_ ?_⟩
    · rintro j v σ H9 hj ⟨⟨y5, rfl⟩, rfl⟩
      obtain ⟨ty, h4, h5, h6⟩ : ∃ ty, TyX K H9 v ty ∧ PySem.W.notFirst K A.C_Image ty = true ∧ PySem.W.kitOne K ty (.ref A.C_Image) = some false := by
        match j, hj with
        | 0, hy => exact ⟨_, by rw [← Option.some.inj hy]; exact .base (.lst h1), T.nf_list_Image, T.kt_list_Image⟩
        | 1, hy => exact ⟨_, by rw [← Option.some.inj hy]; exact .base (.tup h2), T.nf_tuple_Image, T.kt_tuple_Image⟩
        | 2, hy => exact ⟨_, by rw [← Option.some.inj hy]; exact .base (.lst h3), T.nf_list_Image, T.kt_list_Image⟩
        | 3, hy => exact ⟨_, by rw [← Option.some.inj hy]; exact .base (.int _), T.nf_int_Image, T.kt_int_Image⟩
        | 4, hy => exact ⟨_, by rw [← Option.some.inj hy]; exact .base .non, T.nf_NoneType_Image, T.kt_NoneType_Image⟩
        | 5, hy => exact ⟨_, by rw [← Option.some.inj hy]; exact .base (.bl _), T.nf_bool_Image, T.kt_bool_Image⟩
        | 6, hy => exact ⟨_, by rw [← Option.some.inj hy]; exact .base (.int _), T.nf_int_Image, T.kt_int_Image⟩
        | 7, hy => exact ⟨_, by rw [← Option.some.inj hy]; exact .base (.str _), T.nf_str_Image, T.kt_str_Image⟩
      walk_at "go"
      refine eq_oth I8 h4 h5 h6 ?_
      walk_at "go"
      refine ne_oth I8 h4 h5 h6 ?_
      walk_at "go"
      exact ⟨⟨_, rfl⟩, rfl⟩
    rintro σ H9 ⟨⟨y5, rfl⟩, rfl⟩
    walk_at "go"
    exact k H9 e08
end

end My
namespace My
open PySem PySem.Spec PyProof.Rows L2
/-! ### the law -/
def spLaw (K : PySem.W.Frag) (Tb : List (Addr × Str)) : Sp := fun vs H Q _ => ∃ (a : Addr) (ns : List Int), vs = [.ref a] ∧ SqL K H a (ns.map V.int) ∧ ns.length ≤ 63 ∧ LamX.Tabs Tb H ∧ ∀ H', Q (.bl true) H'
/-- lists that are none of one another -/
structure Ds7 (b c h kp il jl : Addr) : Prop where
  hb : h ≠ b
  kb : kp ≠ b
  ib : il ≠ b
  jb : jl ≠ b
  hc : h ≠ c
  ic : il ≠ c
  kh : kp ≠ h
  hi : h ≠ il
  hj : h ≠ jl
  ki : kp ≠ il
  ji : jl ≠ il
/-- what stands between the turns -/
structure W7 (A : Ad) (H : Hp) (b c g il g2 jl h kp : Addr) (n : Nat) (vals vals0 : List Int) : Prop where
  pen : Pen H b c n
  I : ImgAt A H g il vals
  J : ImgAt A H g2 jl vals0
  hh : H h = some (.lst (vals.map V.int))
  hk : H kp = some (.lst (vals0.map V.int))
  dd : Ds7 b c h kp il jl
  l1 : 1 ≤ vals.length
  l24 : vals.length ≤ 24
  by_ : ∀ v ∈ vals, 0 ≤ v ∧ v ≤ 255
  k24 : vals0.length ≤ 24
  kby : ∀ v ∈ vals0, 0 ≤ v ∧ v ≤ 255
section
variable {A : Ad} {H H' : Hp} {b c g il g2 jl h kp : Addr} {n : Nat} {vals vals0 : List Int}
theorem W7.ex0 (W : W7 A H b c g il g2 jl h kp n vals vals0) (e : Vc.EdX [] H H') : W7 A H' b c g il g2 jl h kp n vals vals0 :=
  ⟨W.pen.edx e, W.I.edx0 e, W.J.edx0 e, e.at0 W.hh, e.at0 W.hk, W.dd, W.l1, W.l24, W.by_, W.k24, W.kby⟩
theorem W7.ed0 (W : W7 A H b c g il g2 jl h kp n vals vals0) (e : Vc.Ed [] H H') : W7 A H' b c g il g2 jl h kp n vals vals0 := W.ex0 (.of e)
theorem ImgAt.exs {S : List Addr} {p l : Addr} {vs : List Int} (X : ImgAt A H p l vs) (e : Vc.EdX S H H') (hS : ∀ a ∈ S, ∃ xs, H a = some (.lst xs)) (n : l ∉ S) : ImgAt A H' p l vs :=
  ⟨X.ob.imp fun dx h => e.keep _ _ (fun z => by obtain ⟨xs, q⟩ := hS _ z; rw [h] at q; cases q) (fun _ z => nomatch z) h, e.keep _ _ n (fun _ z => nomatch z) X.ls⟩
theorem W7.edb {m : Nat} (W : W7 A H b c g il g2 jl h kp n vals vals0) (e : Vc.Ed [b] H H') (P : Pen H' b c m) : W7 A H' b c g il g2 jl h kp m vals vals0 := by
  obtain ⟨x, y, z, hb⟩ := W.pen.lst
  have hS : ∀ a ∈ [b], ∃ xs, H a = some (.lst xs) := fun a z => by rw [List.mem_singleton.mp z]; exact ⟨_, hb⟩
  have m1 : ∀ {a : Addr}, a ≠ b → a ∉ [b] := fun n z => n (List.mem_singleton.mp z)
  exact ⟨P, W.I.exs (.of e) hS (m1 W.dd.ib), W.J.exs (.of e) hS (m1 W.dd.jb), e.at1 W.dd.hb W.hh, e.at1 W.dd.kb W.hk, W.dd, W.l1, W.l24, W.by_, W.k24, W.kby⟩
theorem W7.up {m : Nat} (W : W7 A H b c g il g2 jl h kp n vals vals0) (l : n ≤ m) : W7 A H b c g il g2 jl h kp m vals vals0 := { W with pen := W.pen.up l }
/-- a turn done: the image is changed, and the list alongside -/
theorem W7.turn {H1 H2 : Hp} {m : Nat} {new : List Int} (W : W7 A H b c g il g2 jl h kp n vals vals0) (e : Vc.Ed [h] H H1) (hh : H1 h = some (.lst (new.map V.int))) (e2 : Vc.EdX [b, il] H1 H2) (P : Pen H2 b c m) (I : ImgAt A H2 g il new) (nl : new.length = vals.length) (nb : ∀ v ∈ new, 0 ≤ v ∧ v ≤ 255) : W7 A H2 b c g il g2 jl h kp m new vals0 := by
  have d := W.dd
  have hb : ∃ xs, H1 b = some (.lst xs) := by
    obtain ⟨x, y, z, q⟩ := W.pen.lst
    exact ⟨_, e.at1 d.hb.symm q⟩
  have m2 : ∀ {a : Addr}, a ≠ b → a ≠ il → a ∉ [b, il] := fun n1 n2 z => (List.mem_cons.mp z).elim n1 fun z => n2 (List.mem_singleton.mp z)
  have J1 : ImgAt A H1 g2 jl vals0 := W.J.exs (.of e) (fun a z => by rw [List.mem_singleton.mp z]; exact ⟨_, W.hh⟩) (fun z => d.hj (List.mem_singleton.mp z).symm)
  have il1 := e.at1 d.hi.symm W.I.ls
  have J2 := J1.exs e2 (fun a z => (List.mem_cons.mp z).elim (fun z => by rw [z]; exact hb) fun z => by rw [List.mem_singleton.mp z]; exact ⟨_, il1⟩) (m2 d.jb d.ji)
  exact ⟨P, I, J2, e2.keep _ _ (m2 d.hb d.hi) (fun _ z => nomatch z) hh, e2.keep _ _ (m2 d.kb d.ki) (fun _ z => nomatch z) (e.at1 d.kh W.hk), d, by rw [nl]; exact W.l1, by rw [nl]; exact W.l24, nb, W.k24, W.kby⟩
end
section
variable {w : World} {K : PySem.W.Frag} {mg : Str → Option Value} {base : Heap} {A : Ad} {Tb : List (Addr × Str)} {c1 P1 c2 P2 : Addr}
theorem ok_law (T : Txt K mg A) (LMa : Vc.LamAt K mg base Tb A.f__law_done lamD c1 P1) (LMb : Vc.LamAt K mg base Tb A.f__law_made_right lamR c2 P2) : Vc.FnG PG w K mg base CX0 16 A.f_law A.d_law ["_law_script"] (spLaw K Tb) := by
  have G__law_pen := ok__law_pen (P := PG) (w := w) (base := base) T
  have G__law_draw := ok__law_draw (P := PG) (w := w) (base := base) T
  have G__law_bytes := ok__law_bytes (P := PG) (w := w) (base := base) T
  have G__law_deed := ok__law_deed (P := PG) (w := w) (base := base) T
  have G__law_due := ok__law_due (P := PG) (w := w) (base := base) T
  have G__law_cells := ok__law_cells (w := w) (base := base) T
  have G__law_done := ok__law_done (w := w) (base := base) T LMa
  have G__law_made_right := ok__law_made_right (w := w) (base := base) T LMb
  have G__law_read_right := ok__law_read_right (w := w) (base := base) T
  have G__law_unlike_right := ok__law_unlike_right (w := w) (base := base) T
  have G_Imageu_initu := ok_Imageu_initu (w := w) (base := base) T
  have G_Imageu_equ := ok_Imageu_equ (P := PG) (w := w) (base := base) T
  have G_Imageu_lenu := ok_Imageu_lenu (P := PG) (w := w) (base := base) T
  refine Vc.Fun.okG T.F_law sc_law (fun vs H Q E h => ?_) (fun cdv Ar outer s H vs Q E hgd hr h => ?_)
  · obtain ⟨a, ns, rfl, _⟩ := h
    rfl
  · obtain ⟨a, ns, rfl, hS, hl, tabs, k⟩ := h
    have hu := hu_of hr
    refine ⟨_, (pss_cons (ps_set (i := 1) sc_law.nd rfl (Or.inl rfl) (pe_call G__law_pen (by exact hr.mono (by decide)) (by rfl) T.g__law_pen T.F__law_pen.kp T.b__law_pen .nil pass0 (pa_cons (pv 0) pa_nil))) (pss_cons (ps_set (i := 2) sc_law.nd rfl (Or.inl rfl) (pe_call G__law_bytes (by exact hr.mono (by decide)) (by rfl) T.g__law_bytes T.F__law_bytes.kp T.b__law_bytes .nil pass0 (pa_cons (pv 1) (pa_cons (pe_ix ix_list (pe_lst (pa_cons (pe_op op_add pe_int (pe_call G__law_draw (by exact hr.mono (by decide)) (by rfl) T.g__law_draw T.F__law_draw.kp T.b__law_draw .nil pass0 (pa_cons (pv 1) (pa_cons pe_int pa_nil)))) (pa_cons (pe_op op_add pe_int (pe_call G__law_draw (by exact hr.mono (by decide)) (by rfl) T.g__law_draw T.F__law_draw.kp T.b__law_draw .nil pass0 (pa_cons (pv 1) (pa_cons pe_int pa_nil)))) (pa_cons pe_int pa_nil)))) (pe_call G__law_draw (by exact hr.mono (by decide)) (by rfl) T.g__law_draw T.F__law_draw.kp T.b__law_draw .nil pass0 (pa_cons (pv 1) (pa_cons pe_int pa_nil))) (fun _ _ => rfl)) pa_nil)))) (pss_cons (ps_set (i := 3) sc_law.nd rfl (Or.inl rfl) (pe_callTy Vc.call_lstD (by rfl) T.n_list (by decide +kernel) (pa_cons (pv 2) pa_nil))) (Evl.pss_cut (ps_set (i := 4) sc_law.nd rfl (Or.inl rfl) (pe_ix ix_list (pe_lst (pa_cons (pe_make T.mk_Image G_Imageu_initu (by exact hr.mono (by decide)) (by rfl) T.g_Image T.b_Imageu_initu .nil passL (pa_cons (pv 3) pa_nil)) (pa_cons (pe_make T.mk_Image G_Imageu_initu (by exact hr.mono (by decide)) (by rfl) T.g_Image T.b_Imageu_initu .nil passL (pa_cons (pe_callTy Vc.call_tupD (by rfl) T.n_tuple (by decide +kernel) (pa_cons (pv 3) pa_nil)) pa_nil)) (pa_cons (pe_make T.mk_Image G_Imageu_initu (by exact hr.mono (by decide)) (by rfl) T.g_Image T.b_Imageu_initu .nil passL (pa_cons (pe_make T.mk_Image G_Imageu_initu (by exact hr.mono (by decide)) (by rfl) T.g_Image T.b_Imageu_initu .nil passL (pa_cons (pv 3) pa_nil)) pa_nil)) pa_nil)))) (pe_call G__law_draw (by exact hr.mono (by decide)) (by rfl) T.g__law_draw T.F__law_draw.kp T.b__law_draw .nil pass0 (pa_cons (pv 1) (pa_cons pe_int pa_nil))) (fun _ _ => rfl))) (pss_cons (ps_expr (pe_bm PySem.F.plainAttrs_list PySem.F.slot_list_append PySem.F.type_list_append mt_append (pv 3) (pa_cons pe_int pa_nil))) (pss_cons (ps_asg (pe_op op_sub pe_int (pe_ix ix_list (pv 3) pe_int (fun _ _ => rfl))) (pg_sub (pv 3) pe_int set_list)) (pss_cons (ps_set (i := 5) sc_law.nd rfl (Or.inl rfl) (pe_callTy Vc.call_lstD (by rfl) T.n_list (by decide +kernel) (pa_cons (pv 2) pa_nil))) (pss_cons (ps_set (i := 6) sc_law.nd rfl (Or.inl rfl) (pe_make T.mk_Image G_Imageu_initu (by exact hr.mono (by decide)) (by rfl) T.g_Image T.b_Imageu_initu .nil passL (pa_cons (pv 4) pa_nil))) (pss_cons (ps_for PassesOwn.never rfl (pi_range1 (by rfl) T.n_range (pa_cons pe_int pa_nil)) (pg_name (i := 7) sc_law.nd rfl (Or.inl rfl)) (pss_cons (ps_asg (pe_call G__law_deed (by exact hr.mono (by decide)) (by rfl) T.g__law_deed T.F__law_deed.kp T.b__law_deed .nil pass0 (pa_cons (pv 1) (pa_cons (pe_callB call_len_seq (by rfl) T.n_len (by decide +kernel) (pa_cons (pv 2) pa_nil)) pa_nil))) (pg_tup rfl (pgs_cons (pg_name (i := 8) sc_law.nd rfl (Or.inl rfl)) (pgs_cons (pg_name (i := 9) sc_law.nd rfl (Or.inl rfl)) pgs_nil)))) (pss_cons (ps_set (i := 10) sc_law.nd rfl (Or.inl rfl) (pe_call G__law_due (by exact hr.mono (by decide)) (by rfl) T.g__law_due T.F__law_due.kp T.b__law_due .nil pass0 (pa_cons (pv 2) (pa_cons (pv 8) (pa_cons (pv 9) pa_nil))))) (pss_cons (ps_if (pt_cmpR op_ne (Vc.pe_callG G__law_done hgd (by exact hr.mono (by decide)) (by rfl) T.g__law_done T.F__law_done.kp T.b__law_done (pa_cons (pv 1) (pa_cons (pv 4) (pa_cons (pv 8) (pa_cons (pv 9) pa_nil))))) (pe_callB (Vc.call_reprD hgd (Vc.room64 hr)) (by rfl) T.n_repr (by decide +kernel) (pa_cons (pv 10) pa_nil)) (nomark _)) (pss_one (ps_ret pe_bl)) pss_nil) (Evl.pss_cut (ps_if (PW.pt (pw_or (pt_cmpR op_ne (pe_callB (Vc.call_reprD hgd (Vc.room64 hr)) (by rfl) T.n_repr (by decide +kernel) (pa_cons (pe_call G__law_cells (by exact hr.mono (by decide)) (by rfl) T.g__law_cells T.F__law_cells.kp T.b__law_cells .nil pass0 (pa_cons (pv 4) pa_nil)) pa_nil)) (pe_callB (Vc.call_reprD hgd (Vc.room64 hr)) (by rfl) T.n_repr (by decide +kernel) (pa_cons (pv 2) pa_nil)) (nomark _)) (pw_or (pt_cmpR op_ne (pe_callB (Vc.call_lenO G_Imageu_lenu (by exact hr.mono (by decide)) T.sp_Image_Imageu_lenu T.b_Imageu_lenu) (by rfl) T.n_len (by decide +kernel) (pa_cons (pv 4) pa_nil)) (pe_callB call_len_seq (by rfl) T.n_len (by decide +kernel) (pa_cons (pv 2) pa_nil)) (nomark _)) (pw_or1 (pt_cmpR op_ne (pe_callB (Vc.call_reprD hgd (Vc.room64 hr)) (by rfl) T.n_repr (by decide +kernel) (pa_cons (pe_call G__law_cells (by exact hr.mono (by decide)) (by rfl) T.g__law_cells T.F__law_cells.kp T.b__law_cells .nil pass0 (pa_cons (pv 6) pa_nil)) pa_nil)) (pe_callB (Vc.call_reprD hgd (Vc.room64 hr)) (by rfl) T.n_repr (by decide +kernel) (pa_cons (pv 5) pa_nil)) (nomark _)))))) (pss_one (ps_ret pe_bl)) pss_nil) (pss_one (ps_if (PW.pt (pw_or (pt_cmpR op_ne (pe_cmpR (Vc.op_eqO G_Imageu_equ (by exact hr.mono (by decide)) T.eq_Image T.b_Imageu_equ) (pv 4) (pv 6) (nomark _)) (pe_cmpR (op_eqD (by exact hr.units)) (pv 2) (pv 5) (nomark _)) (nomark _)) (pw_or1 (pt_cmpR op_ne (pe_cmpR (Vc.op_eqO G_Imageu_equ (by exact hr.mono (by decide)) T.eq_Image T.b_Imageu_equ) (pv 6) (pv 4) (nomark _)) (pe_cmpR (op_eqD (by exact hr.units)) (pv 2) (pv 5) (nomark _)) (nomark _))))) (pss_one (ps_ret pe_bl)) pss_nil))))))) (pss_cons (ps_if (pt_not (pt_val (pe_call G__law_unlike_right (by exact hr.mono (by decide)) (by rfl) T.g__law_unlike_right T.F__law_unlike_right.kp T.b__law_unlike_right .nil pass0 (pa_cons (pv 2) (pa_cons (pv 4) pa_nil))))) (pss_one (ps_ret pe_bl)) pss_nil) (pss_one (ps_ret (pe_and (Vc.pe_callG G__law_made_right hgd (by exact hr.mono (by decide)) (by rfl) T.g__law_made_right T.F__law_made_right.kp T.b__law_made_right (pa_cons (pv 1) (pa_cons (pv 2) pa_nil))) (pe_and (pe_cmpR op_isBl (pe_cmpR (Vc.op_eqO G_Imageu_equ (by exact hr.mono (by decide)) T.eq_Image T.b_Imageu_equ) (pe_make T.mk_Image G_Imageu_initu (by exact hr.mono (by decide)) (by rfl) T.g_Image T.b_Imageu_initu .nil passL (pa_cons (pv 2) pa_nil)) (pv 4) (nomark _)) pe_bl (nomark _)) (pe_one (Vc.pe_callG G__law_read_right hgd (by exact hr.mono (by decide)) (by rfl) T.g__law_read_right T.F__law_read_right.kp T.b__law_read_right (pa_cons (pv 2) (pa_cons (pv 4) pa_nil)))))))))))))))))), ?_⟩
    walk_at "go"
    refine ⟨a, ns, rfl, hS, hl, fun b c H1 e1 hB1 nb nc => ?_⟩
    have tabs1 := Vc.tabs_ed0 tabs e1
    have lim : LIM = 1000000 := rfl
    clear hS tabs e1
    walk_at "go"
    refine ⟨b, c, _, _, rfl, hB1, by omega, by decide, by decide, fun r1 H2 r10 r11 e2 hB2 => ?_⟩
    walk_at "go"
    refine ⟨b, c, _, _, rfl, hB2, by omega, by decide, by decide, fun r2 H3 r20 r21 e3 hB3 => ?_⟩
    walk_at "go"
    intro q nq
    generalize hu4 : upd _ q _ = H4
    obtain ⟨e4, hq⟩ := Vc.alloc hu4 nq
    have hB4 := hB3.ed0 e4
    obtain ⟨x4, y4, z4, b4⟩ := hB4.lst
    have hq : H4 q = some (.lst (([1 + r1, 1 + r2, 24] : List Int).map V.int)) := hq
    walk_at "go"
    refine ⟨b, c, _, _, rfl, hB4, by omega, by decide, by decide, fun r3 H5 r30 r31 e5 hB5 => ?_⟩
    have hq5 := e5.at1 (hB3.fb nq).1.symm hq
    obtain ⟨m, hm, m1, m24⟩ : ∃ m : Int, atI (([1 + r1, 1 + r2, 24] : List Int).map V.int) r3 = some (.int m) ∧ 1 ≤ m ∧ m ≤ 24 := by
      have : r3 = 0 ∨ r3 = 1 ∨ r3 = 2 := by omega
      rcases this with rfl | rfl | rfl
      · exact ⟨1 + r1, rfl, by omega, by omega⟩
      · exact ⟨1 + r2, rfl, by omega, by omega⟩
      · exact ⟨24, rfl, by omega, by omega⟩
    refine Vc.go_ixL (.of hq5) hm ?_
    walk_at "go"
    refine ⟨b, c, _, m, rfl, hB5, by omega, by omega, m24, fun C vals H6 e6 hB6 nC hC vl vby => ?_⟩
    have tabs6 : LamX.Tabs Tb H6 := by
      obtain ⟨_, _, _, b1⟩ := hB1.lst
      obtain ⟨_, _, _, b2⟩ := hB2.lst
      obtain ⟨_, _, _, b5⟩ := hB5.lst
      exact Vc.tabs_lst (Vc.tabs_lst (Vc.tabs_ed0 (Vc.tabs_lst (Vc.tabs_lst tabs1 e2 b1) e3 b2) e4) e5 b4) e6 b5
    have l1 : 1 ≤ vals.length := by omega
    have l24 : vals.length ≤ 24 := by omega
    have nCb := (hB5.fb nC).1.symm
    have nCc := (hB5.fb nC).2.symm
    have hB6 : Pen H6 b c 100 := hB6.up (by omega)
    clear hB1 hB2 hB3 hB4 hB5 tabs1 e2 e3 e4 e5 e6 hq hq5 hm vl m1 m24 b4 hu4 nq nC nb nc r10 r11 r20 r21 r30 r31
    walk_at "go"
    intro B nB
    generalize hu7 : upd _ B _ = H7
    obtain ⟨e7, hB_⟩ := Vc.alloc hu7 nB
    have hC7 := e7.at0 hC
    have nBC : B ≠ C := fun z => by rw [z, hC] at nB; cases nB
    have nBb := (hB6.fb nB).1.symm
    have nBc := (hB6.fb nB).2.symm
    have hB7 := hB6.ed0 e7
    have tabs7 := Vc.tabs_ed0 tabs6 e7
    clear tabs6 hB6 hC
    walk_at "go"
    refine Evl.q_cut (M := fun σ H' => ∃ g il, σ = [some (.ref a), some (.ref b), some (.ref C), some (.ref B), some (.ref g), none, none, none, none, none, none] ∧ Vc.Ed [b] H7 H' ∧ Pen H' b c 101 ∧ ImgAt A H' g il vals ∧ H7 il = none ∧ H7 g = none) ?_ ?_
    · walk_at "go"
      have okb := badAt_of vby
      refine mk_img (.inl (.of hB_)) (by omega) okb fun g1 l1 H8 e8 ng1 nl1 I1 => ?_
      have hB8 := e8.at0 hB_
      walk_at "go"
      intro t nt
      generalize hu9 : upd _ t _ = H9
      obtain ⟨e9, ht⟩ := Vc.alloc hu9 nt
      have hB9 := e9.at0 hB8
      have I1 := I1.ed0 e9
      walk_at "go"
      refine mk_img (.inr (.inl (.of ht))) (by omega) okb fun g2 l2 H10 e10 ng2 nl2 I2 => ?_
      have hB10 := e10.at0 hB9
      have I1 := I1.ed0 e10
      walk_at "go"
      refine mk_img (.inl (.of hB10)) (by omega) okb fun g3 l3 H11 e11 ng3 nl3 I3 => ?_
      walk_at "go"
      have I1 := I1.ed0 e11
      have I2 := I2.ed0 e11
      refine mk_img (.inr (.inr ⟨l3, I3⟩)) (by omega) okb fun g4 l4 H12 e12 ng4 nl4 I4 => ?_
      have I1 := I1.ed0 e12
      have I2 := I2.ed0 e12
      walk_at "go"
      intro o no
      generalize hu13 : upd _ o _ = H13
      obtain ⟨e13, ho⟩ := Vc.alloc hu13 no
      have I1 := I1.ed0 e13
      have I2 := I2.ed0 e13
      have I4 := I4.ed0 e13
      have e7b := (((((e8.ex e9).ex e10).ex e11).ex e12).ex e13)
      have hB13 := hB7.ed0 e7b
      walk_at "go"
      refine ⟨b, c, _, _, rfl, hB13, by omega, by decide, by decide, fun r H14 r0 r1 e14 hB14 => ?_⟩
      have ho14 := e14.at1 ((hB7.ed0 ((((e8.ex e9).ex e10).ex e11).ex e12)).fb no).1.symm ho
      have up : ∀ {g l}, ImgAt A H13 g l vals → H7 l = none → ImgAt A H14 g l vals := fun {g l} I n => by
        obtain ⟨x, y, z, q⟩ := hB7.lst
        obtain ⟨x2, y2, z2, q2⟩ := hB13.lst
        obtain ⟨dz, hz⟩ := id I.ob
        exact I.ed e14 (fun h => by rw [List.mem_singleton.mp h, q2] at hz; cases hz) (fun h => by rw [List.mem_singleton.mp h, q] at n; cases n)
      have e714 : Vc.Ed [b] H7 H14 := (e7b.mono fun _ z => nomatch z).trans e14 fun a z => .inl z
      have n1 := nl1
      have n2 := e8.dom _ (e9.dom _ nl2)
      have n4 := e8.dom _ (e9.dom _ (e10.dom _ (e11.dom _ nl4)))
      have m2 := e8.dom _ (e9.dom _ ng2)
      have m4 := e8.dom _ (e9.dom _ (e10.dom _ (e11.dom _ ng4)))
      have : r = 0 ∨ r = 1 ∨ r = 2 := by omega
      rcases this with rfl | rfl | rfl
      · refine Vc.go_ixL (v := .ref g1) (.of ho14) rfl ?_
        walk_at "go"
        exact ⟨g1, l1, rfl, e714, hB14, up I1 n1, n1, ng1⟩
      · refine Vc.go_ixL (v := .ref g2) (.of ho14) rfl ?_
        walk_at "go"
        exact ⟨g2, l2, rfl, e714, hB14, up I2 n2, n2, m2⟩
      · refine Vc.go_ixL (v := .ref g4) (.of ho14) rfl ?_
        walk_at "go"
        exact ⟨g4, l4, rfl, e714, hB14, up I4 n4, n4, m4⟩
    rintro σ H8 ⟨g, il, rfl, e8, hB8, I8, nil, ng⟩
    have tabs8 : LamX.Tabs Tb H8 := by
      obtain ⟨_, _, _, b7⟩ := hB7.lst
      exact Vc.tabs_lst tabs7 e8 b7
    have hC8 := e8.at1 nCb hC7
    have hB8_ := e8.at1 nBb hB_
    have nib := (hB7.fb nil).1.symm
    have nic := (hB7.fb nil).2.symm
    have nCi : C ≠ il := fun z => by rw [← z, hC7] at nil; cases nil
    have nBi : B ≠ il := fun z => by rw [← z, hB_] at nil; cases nil
    have nBg : g ≠ B := fun z => by rw [z, hB_] at ng; cases ng
    clear hB7 tabs7 e8 hC7 hB_ hu7 e7
    walk_at "go"
    generalize hu9 : upd _ B _ = H9
    obtain ⟨e9, hB9⟩ := Vc.chg hu9 hB8_
    obtain ⟨v0, g0⟩ : ∃ v0, atI (vals.map V.int ++ [V.int 9]) 0 = some (.int v0) := by
      match vals, l1 with
      | x :: r, _ => exact ⟨x, at_of (z := 0) (j := 0) rfl rfl⟩
    refine Vc.go_ixL (.of hB9) g0 ?_
    walk_at "go"
    refine Vc.go_setL hB9 (j := 0) ?_ ?_
    · unfold ixN
      rw [List.length_append, if_pos (by omega), if_pos (by show (0 : Int) < ((_ + 1 : Nat) : Int); omega)]; rfl
    generalize hu10 : upd _ B _ = H10
    obtain ⟨e10, hB10⟩ := Vc.chg hu10 hB9
    have e810 : Vc.Ed [B] H8 H10 := e9.trans e10 fun a z => .inl z
    have m1 : ∀ {x : Addr}, x ≠ B → x ∉ [B] := fun n z => n (List.mem_singleton.mp z)
    have hC10 := e810.at1 nBC.symm hC8
    have I10 := I8.ed e810 (m1 nBg) (m1 nBi.symm)
    have P10 := hB8.ed1 e810 nBb.symm nBc.symm
    have tabs10 := Vc.tabs_lst tabs8 e810 hB8_
    clear e9 e10 hB9 hB10 hu9 hu10 e810 tabs8 hB8 I8 hC8 hB8_ g0
    walk_at "go"
    intro kp nkp
    generalize hu11 : upd _ kp _ = H11
    obtain ⟨e11, hk⟩ := Vc.alloc hu11 nkp
    have I11 := I10.ed0 e11
    walk_at "go"
    refine mk_img (.inr (.inr ⟨il, I11⟩)) (by omega) (badAt_of vby) fun og ol H12 e12 nog nol J => ?_
    have P12 := (P10.ed0 e11).ed0 e12
    have hC11 := e11.at0 hC10
    have W : W7 A H12 b c g il og ol C kp (100 + 1 + 400 * 0) vals vals := by
      refine ⟨P12, I11.ed0 e12, J, e12.at0 hC11, e12.at0 hk, ⟨nCb, (P10.fb nkp).1.symm, nib, ((P10.ed0 e11).fb nol).1.symm, nCc, nic, fun z => ?_, nCi, fun z => ?_, fun z => ?_, fun z => ?_⟩, l1, l24, vby, l24, vby⟩
      · rw [z, hC10] at nkp; cases nkp
      · rw [← z, hC11] at nol; cases nol
      · rw [z, I10.ls] at nkp; cases nkp
      · rw [z, I11.ls] at nol; cases nol
    have tabs12 := Vc.tabs_ed0 (Vc.tabs_ed0 tabs10 e11) e12
    clear P12 hC11 J I11 e12 e11 hk hC10 I10 P10 tabs10 nog nol nkp hu11 nBC nBb nBc nib nic nCi nBi nBg nil ng nCb nCc l1 l24 nB m1
    walk_at "go"
    refine ⟨by omega, by omega, for_it walk_range (fun j σ H' => (∃ y7 y8 y9 y10 : Option V, σ = [some (.ref a), some (.ref b), some (.ref C), some (.ref B), some (.ref g), some (.ref kp), some (.ref og), y7, y8, y9, y10]) ∧ LamX.Tabs Tb H' ∧ ∃ ws, W7 A H' b c g il og ol C kp (100 + 1 + 400 * j) ws vals) ⟨⟨none, none, none, none, rfl⟩, tabs12, vals, W⟩ (fun _ _ _ _ _ => trivial) ?_ ?_⟩
    · clear W tabs12
      rintro j x σ H2 H3 hj ⟨⟨y7, y8, y9, y10, rfl⟩, tabs, ws, W⟩ ⟨rfl, rfl⟩
      have hj : j < 18 := by simpa using hj
      obtain ⟨xb, yb, zb, hb3⟩ := W.pen.lst
      have WC := W.hh
      have Wl := W.l24
      have Wl1 := W.l1
      walk_at "go"
      rw [List.length_map]
      refine ⟨b, c, _, (ws.length : Int), rfl, W.pen, by omega, by omega, by omega, fun t d H4 e4 P4 ht dI dn => ?_⟩
      have W4 := W.edb e4 P4
      have tabs4 := Vc.tabs_lst tabs e4 hb3
      have LC : ∀ p lo hi L vs, d = .put2 p lo hi L vs → L ≠ C := fun p lo hi L vs z y => by
        have := dn p lo hi L vs z
        rw [y, W.hh] at this; cases this
      have LI : ∀ p lo hi L vs, d = .put2 p lo hi L vs → L ≠ b ∧ L ≠ il := fun p lo hi L vs z => by
        have n := dn p lo hi L vs z
        exact ⟨fun y => (by rw [y, hb3] at n; cases n), fun y => (by rw [y, W.I.ls] at n; cases n)⟩
      walk_at "go"
      refine ⟨t, _, rfl, .of ht, rfl, _, _, rfl, ?_⟩
      walk_at "go"
      refine ⟨_, _, rfl, ?_⟩
      walk_at "go"
      refine ⟨rfl, ?_⟩
      walk_at "go"
      refine ⟨C, d, ws, rfl, W4.hh, W4.l24, dI, fun p lo hi L vs z => (LC p lo hi L vs z).symm, fun u H5 e5 hC5 nu O5 => ?_⟩
      have tabs5 := Vc.tabs_lst tabs4 e5 W4.hh
      have d7 := W4.dd
      have P5 := W4.pen.ed1 e5 d7.hb.symm d7.hc.symm
      have I5 : ImgAt A H5 g il ws := W4.I.exs (.of e5) (fun a z => by rw [List.mem_singleton.mp z]; exact ⟨_, W4.hh⟩) (fun z => d7.hi (List.mem_singleton.mp z).symm)
      have dI5 : d.In H5 := Deed.In.edx dI (.of e5) fun p lo hi L vs z y => LC p lo hi L vs z (List.mem_singleton.mp y)
      have fit := Deed.fits dI W4.by_ W4.l24
      obtain ⟨xb4, yb4, zb4, hb4⟩ := W4.pen.lst
      walk_at "go"
      refine ⟨b, c, g, il, _, d, ws, rfl, P5, by omega, I5, W4.l1, W4.l24, W4.by_, dI5, LI, d7.ib, d7.ic, tabs5, fun H6 e6 tabs6 P6 I6 => ?_⟩
      have nub : u ≠ b := fun z => by rw [z, hb4] at nu; cases nu
      have nui : u ≠ il := fun z => by rw [z, W4.I.ls] at nu; cases nu
      have O6 := O5.edx e6 (fun z => (List.mem_cons.mp z).elim nub fun z => nui (List.mem_singleton.mp z)) (fun a z n => by
        have : ∃ xs, H4 a = some (.lst xs) := (List.mem_cons.mp z).elim (fun z => (by rw [z]; exact ⟨_, hb4⟩)) fun z => (by rw [List.mem_singleton.mp z]; exact ⟨_, W4.I.ls⟩)
        obtain ⟨xs, h⟩ := this
        rcases n with n | ⟨ps, n⟩
        · rw [h] at n; cases n
        · rw [h] at n; cases n)
      have W6 := W4.turn e5 hC5 e6 P6 I6 Deed.len (Deed.by_ W4.by_)
      generalize hnew : d.cells ws = new at W6
      walk_at "go"
      refine ⟨_, _, rfl, O6.dp, fit, ?_⟩
      clear O5 O6 e5 hC5 I5 dI5 P5 tabs5 W4 P4 e4 tabs4 I6 P6 W dI ht WC hb3 hb4 nu nub nui LI LC dn e6 d7 tabs fit
      walk_at "go"
      have fit := bytes_fits W6.by_ W6.l24
      have fit0 := bytes_fits W6.kby W6.k24
      refine Evl.q_cut (M := fun σ H' => (∃ y7 y8 y9 y10 : Option V, σ = [some (.ref a), some (.ref b), some (.ref C), some (.ref B), some (.ref g), some (.ref kp), some (.ref og), y7, y8, y9, y10]) ∧ LamX.Tabs Tb H' ∧ W7 A H' b c g il og ol C kp (100 + 1 + 400 * (j + 1)) new vals) ?_ ?_
      · walk_at "go"
        refine ⟨g, new, rfl, .inr (.inr ⟨il, W6.I⟩), by have := W6.l24; omega, fun S H7 e7 nS hS => ?_⟩
        have W7_ := W6.ed0 e7
        have tabs7 := Vc.tabs_ed0 tabs6 e7
        have hC7 := W7_.hh
        have J7 := W7_.J
        have I7 := W7_.I
        obtain ⟨dg, hg⟩ := id I7.ob
        walk_at "go"
        refine ⟨_, _, rfl, dp_lst hS, fit, ?_⟩
        walk_at "go"
        refine ⟨_, _, rfl, dp_lst W7_.hh, fit, ?_⟩
        walk_at "go"
        have W7l := W7_.l24
        have v24 := W7_.k24
        refine ⟨g, il, new, rfl, I7, ⟨_, rfl, by omega, Int.lt_of_le_of_lt (b := 100) (by omega) (by decide), ?_⟩⟩
        walk_at "go"
        rw [List.length_map]
        walk_at "go"
        refine ⟨og, vals, rfl, .inr (.inr ⟨ol, J7⟩), by omega, fun S2 H8 e8 nS2 hS2 => ?_⟩
        have W8 := W7_.ed0 e8
        have tabs8 := Vc.tabs_ed0 tabs7 e8
        walk_at "go"
        refine ⟨_, _, rfl, dp_lst hS2, fit0, ?_⟩
        walk_at "go"
        refine ⟨_, _, rfl, dp_lst W8.hk, fit0, ?_⟩
        walk_at "go"
        exact ⟨⟨_, _, _, _, rfl⟩, tabs8, W8.up (by omega)⟩
      rintro σ H7 ⟨⟨y7, y8, y9, y10, rfl⟩, tabs7, W7_⟩
      have W7w := W7_.hh
      have W7k := W7_.hk
      walk_at "go"
      refine eq_img T W7_.I W7_.J ?_
      walk_at "go"
      refine go_eqLs (.inl (.of W7w)) (.inl (.of W7k)) ?_
      walk_at "go"
      refine eq_img T W7_.J W7_.I ?_
      rw [show decide (vals = new) = decide (new = vals) from decide_eq_decide.mpr eq_comm]
      walk_at "go"
      refine go_eqLs (.inl (.of W7w)) (.inl (.of W7k)) ?_
      walk_at "go"
      exact ⟨⟨_, _, _, _, rfl⟩, tabs7, new, W7_⟩
    · clear W tabs12
      rintro σ H2 ⟨⟨y7, y8, y9, y10, rfl⟩, tabs, ws, W⟩
      walk_at "go"
      refine ⟨C, g, il, ws, rfl, W.hh, W.I, W.l1, W.l24, W.by_, fun H3 e3 => ?_⟩
      have W3 := W.ed0 e3
      have tabs3 := Vc.tabs_ed0 tabs e3
      obtain ⟨xb, yb, zb, hb3⟩ := W3.pen.lst
      walk_at "go"
      refine ⟨b, c, C, _, ws, rfl, W3.pen, by omega, W3.hh, W3.l24, fun v hv => small_of (by have := W3.by_ v hv; omega), tabs3, fun H4 e4 tabs4 => ?_⟩
      have m1 : ∀ {a : Addr}, a ≠ b → a ∉ [b] := fun n z => n (List.mem_singleton.mp z)
      have hC4 := e4.keep _ _ (m1 W3.dd.hb) (by intro _ z; cases z) W3.hh
      have I4 := W3.I.exs e4 (fun a z => by rw [List.mem_singleton.mp z]; exact ⟨_, hb3⟩) (m1 W3.dd.ib)
      have Wl := W.l24
      walk_at "go"
      refine mk_img (.inl (.of hC4)) (by omega) (badAt_of W.by_) fun p l H5 e5 np nl I5 => ?_
      have hC5 := e5.at0 hC4
      have J5 := I4.ed0 e5
      walk_at "go"
      refine eq_img T I5 J5 ?_
      rw [decide_eq_true rfl]
      walk_at "go"
      refine ⟨_, _, rfl, rfl, ?_⟩
      walk_at "go"
      refine ⟨C, g, il, ws, rfl, hC5, J5, W.l24, W.by_, fun H6 e6 => ?_⟩
      exact k H6
end

end My
namespace My
open PySem PySem.Spec PyProof.Rows L2
theorem all_mk {w : World} {K : PySem.W.Frag} {h : Heap} {mg : Str → Option Value} {fa : Addr} (X : K.In h) (G : h.Ns mainGlobals mg) (hfa : mg "law" = some (.ref fa))
    {C_Form : Addr}
    {C_CodeSet : Addr}
    {C_Image : Addr}
    {f_is_byte : Addr} {oc1 kV1 dc1 pm1 cd1 ct1 : Value} {od1 an1 : Option Addr} {sl1 : Array (Option Value)}
    {f_is_name : Addr} {oc2 kV2 dc2 pm2 cd2 ct2 : Value} {od2 an2 : Option Addr} {sl2 : Array (Option Value)}
    {f_Formu_initu : Addr} {oc3 kV3 dc3 pm3 cd3 ct3 : Value} {od3 an3 : Option Addr} {sl3 : Array (Option Value)}
    {f_check_forms : Addr} {oc4 kV4 dc4 pm4 cd4 ct4 : Value} {od4 an4 : Option Addr} {sl4 : Array (Option Value)}
    {f_CodeSetu_initu : Addr} {oc5 kV5 dc5 pm5 cd5 ct5 : Value} {od5 an5 : Option Addr} {sl5 : Array (Option Value)}
    {f_CodeSet_sample : Addr} {oc6 kV6 dc6 pm6 cd6 ct6 : Value} {od6 an6 : Option Addr} {sl6 : Array (Option Value)}
    {sm6 : Addr} {rst6 : List Value}
    {f_CodeSetu_callu : Addr} {oc7 kV7 dc7 pm7 cd7 ct7 : Value} {od7 an7 : Option Addr} {sl7 : Array (Option Value)}
    {f_check_bytes : Addr} {oc8 kV8 dc8 pm8 cd8 ct8 : Value} {od8 an8 : Option Addr} {sl8 : Array (Option Value)}
    {f_span_of : Addr} {oc9 kV9 dc9 pm9 cd9 ct9 : Value} {od9 an9 : Option Addr} {sl9 : Array (Option Value)}
    {f_Imageu_initu : Addr} {oc10 kV10 dc10 pm10 cd10 ct10 : Value} {od10 an10 : Option Addr} {sl10 : Array (Option Value)}
    {f_Imageu_lenu : Addr} {oc11 kV11 dc11 pm11 cd11 ct11 : Value} {od11 an11 : Option Addr} {sl11 : Array (Option Value)}
    {f_Imageu_iteru : Addr} {oc12 kV12 dc12 pm12 cd12 ct12 : Value} {od12 an12 : Option Addr} {sl12 : Array (Option Value)}
    {f_Imageu_equ : Addr} {oc13 kV13 dc13 pm13 cd13 ct13 : Value} {od13 an13 : Option Addr} {sl13 : Array (Option Value)}
    {f_Imageu_getitemu : Addr} {oc14 kV14 dc14 pm14 cd14 ct14 : Value} {od14 an14 : Option Addr} {sl14 : Array (Option Value)}
    {f_Imageu_setitemu : Addr} {oc15 kV15 dc15 pm15 cd15 ct15 : Value} {od15 an15 : Option Addr} {sl15 : Array (Option Value)}
    {f__law_pen : Addr} {oc16 kV16 dc16 pm16 cd16 ct16 : Value} {od16 an16 : Option Addr} {sl16 : Array (Option Value)}
    {f__law_draw : Addr} {oc17 kV17 dc17 pm17 cd17 ct17 : Value} {od17 an17 : Option Addr} {sl17 : Array (Option Value)}
    {f__law_pick : Addr} {oc18 kV18 dc18 pm18 cd18 ct18 : Value} {od18 an18 : Option Addr} {sl18 : Array (Option Value)}
    {f__law_word : Addr} {oc19 kV19 dc19 pm19 cd19 ct19 : Value} {od19 an19 : Option Addr} {sl19 : Array (Option Value)}
    {f__law_heard : Addr} {oc20 kV20 dc20 pm20 cd20 ct20 : Value} {od20 an20 : Option Addr} {sl20 : Array (Option Value)}
    {f__law_cells : Addr} {oc21 kV21 dc21 pm21 cd21 ct21 : Value} {od21 an21 : Option Addr} {sl21 : Array (Option Value)}
    {f__law_bytes : Addr} {oc22 kV22 dc22 pm22 cd22 ct22 : Value} {od22 an22 : Option Addr} {sl22 : Array (Option Value)}
    {f__law_odd : Addr} {oc23 kV23 dc23 pm23 cd23 ct23 : Value} {od23 an23 : Option Addr} {sl23 : Array (Option Value)}
    {f__law_spoilt : Addr} {oc24 kV24 dc24 pm24 cd24 ct24 : Value} {od24 an24 : Option Addr} {sl24 : Array (Option Value)}
    {f__law_edge : Addr} {oc25 kV25 dc25 pm25 cd25 ct25 : Value} {od25 an25 : Option Addr} {sl25 : Array (Option Value)}
    {f__law_deed : Addr} {oc26 kV26 dc26 pm26 cd26 ct26 : Value} {od26 an26 : Option Addr} {sl26 : Array (Option Value)}
    {f__law_bad : Addr} {oc27 kV27 dc27 pm27 cd27 ct27 : Value} {od27 an27 : Option Addr} {sl27 : Array (Option Value)}
    {f__law_due : Addr} {oc28 kV28 dc28 pm28 cd28 ct28 : Value} {od28 an28 : Option Addr} {sl28 : Array (Option Value)}
    {f__law_dressed : Addr} {oc29 kV29 dc29 pm29 cd29 ct29 : Value} {od29 an29 : Option Addr} {sl29 : Array (Option Value)}
    {f__law_put : Addr} {oc30 kV30 dc30 pm30 cd30 ct30 : Value} {od30 an30 : Option Addr} {sl30 : Array (Option Value)}
    {f__law_done : Addr} {oc31 kV31 dc31 pm31 cd31 ct31 : Value} {od31 an31 : Option Addr} {sl31 : Array (Option Value)}
    {f__law_made_right : Addr} {oc32 kV32 dc32 pm32 cd32 ct32 : Value} {od32 an32 : Option Addr} {sl32 : Array (Option Value)}
    {f__law_read : Addr} {oc33 kV33 dc33 pm33 cd33 ct33 : Value} {od33 an33 : Option Addr} {sl33 : Array (Option Value)}
    {f__law_read_right : Addr} {oc34 kV34 dc34 pm34 cd34 ct34 : Value} {od34 an34 : Option Addr} {sl34 : Array (Option Value)}
    {f__law_unlike_right : Addr} {oc35 kV35 dc35 pm35 cd35 ct35 : Value} {od35 an35 : Option Addr} {sl35 : Array (Option Value)}
    {f_law : Addr} {oc36 kV36 dc36 pm36 cd36 ct36 : Value} {od36 an36 : Option Addr} {sl36 : Array (Option Value)}
    {t_LETTERS : Tok}
    {C_CodeError : Addr}
    {C_BadCodes : Addr}
    {C_BadLayout : Addr}
    {C_BadRewrite : Addr}
    {C_BadStep : Addr}
    {C_BadText : Addr}
    {C_NotRight : Addr}
    {C_NoWay : Addr}
    {C_BadInput : Addr}
    {C_BadAddress f_BadAddressu_initu cda37 cc37 : Addr} {oc37 kV37 dc37 pm37 ct37 : Value} {od37 an37 : Option Addr} {sl37 : Array (Option Value)}
    {nm37 q37 : Str} {N37 : Addr} {bs37 bm37 sub37 : List Value} {sn37 : List Str} {ab37 : Bool} {col37 : Option Bool} {dd37 : Option Addr} {ka37 kb37 kc37 kd37 ke37 : Option Value}
    {ccl37 ocl37 : Value} {ccd37 ocd37 : Option Addr} {vs37 : Array Value} {ccs37 ocs37 : Array (Option Value)} {file37 : Str} {tf37 : Tok}
    {C_BadByte f_BadByteu_initu cda38 cc38 : Addr} {oc38 kV38 dc38 pm38 ct38 : Value} {od38 an38 : Option Addr} {sl38 : Array (Option Value)}
    {nm38 q38 : Str} {N38 : Addr} {bs38 bm38 sub38 : List Value} {sn38 : List Str} {ab38 : Bool} {col38 : Option Bool} {dd38 : Option Addr} {ka38 kb38 kc38 kd38 ke38 : Option Value}
    {ccl38 ocl38 : Value} {ccd38 ocd38 : Option Addr} {vs38 : Array Value} {ccs38 ocs38 : Array (Option Value)} {file38 : Str} {tf38 : Tok}
    {C_UnlikeLengths f_UnlikeLengthsu_initu cda39 cc39 : Addr} {oc39 kV39 dc39 pm39 ct39 : Value} {od39 an39 : Option Addr} {sl39 : Array (Option Value)}
    {nm39 q39 : Str} {N39 : Addr} {bs39 bm39 sub39 : List Value} {sn39 : List Str} {ab39 : Bool} {col39 : Option Bool} {dd39 : Option Addr} {ka39 kb39 kc39 kd39 ke39 : Option Value}
    {ccl39 ocl39 : Value} {ccd39 ocd39 : Option Addr} {vs39 : Array Value} {ccs39 ocs39 : Array (Option Value)} {file39 : Str} {tf39 : Tok}
    {C_NotWhole f_NotWholeu_initu cda40 cc40 : Addr} {oc40 kV40 dc40 pm40 ct40 : Value} {od40 an40 : Option Addr} {sl40 : Array (Option Value)}
    {nm40 q40 : Str} {N40 : Addr} {bs40 bm40 sub40 : List Value} {sn40 : List Str} {ab40 : Bool} {col40 : Option Bool} {dd40 : Option Addr} {ka40 kb40 kc40 kd40 ke40 : Option Value}
    {ccl40 ocl40 : Value} {ccd40 ocd40 : Option Addr} {vs40 : Array Value} {ccs40 ocs40 : Array (Option Value)} {file40 : Str} {tf40 : Tok}
    {a_FLOWS : Addr} {odF : Option Addr} {tF1 tF2 tF3 tF4 : Tok} {nF : Nat} {slF : Array (Option Value)}
    {tM : Tok}
    {cl__law_done Pl__law_done : Addr}
    {cl__law_made_right Pl__law_made_right : Addr}
    (aC_Form : PySem.W.nsIn K mainGlobals "Form" = some (some (.ref C_Form)))
    (aC_CodeSet : PySem.W.nsIn K mainGlobals "CodeSet" = some (some (.ref C_CodeSet)))
    (aC_Image : PySem.W.nsIn K mainGlobals "Image" = some (some (.ref C_Image)))
    (a_is_byte : PySem.W.nsIn K mainGlobals "is_byte" = some (some (.ref f_is_byte)))
    (l_is_byte : K.lookup f_is_byte = some ⟨oc1, od1, .func (PySem.W.fnOf "is_byte" "is_byte" (defArgs s_is_byte) (defBody s_is_byte) (defScope s_is_byte) .none kV1 dc1 pm1 an1 cd1 ct1), sl1⟩)
    (c_is_byte : PySem.W.codeIn K cd1 "is_byte" = true)
    (k_is_byte : PySem.W.keepIn K (.ref f_is_byte) = true)
    (a_is_name : PySem.W.nsIn K mainGlobals "is_name" = some (some (.ref f_is_name)))
    (l_is_name : K.lookup f_is_name = some ⟨oc2, od2, .func (PySem.W.fnOf "is_name" "is_name" (defArgs s_is_name) (defBody s_is_name) (defScope s_is_name) .none kV2 dc2 pm2 an2 cd2 ct2), sl2⟩)
    (c_is_name : PySem.W.codeIn K cd2 "is_name" = true)
    (k_is_name : PySem.W.keepIn K (.ref f_is_name) = true)
    (a_Formu_initu : PySem.W.findIn K (.ref C_Form) "__init__" = some (some (.ref f_Formu_initu)))
    (i_Formu_initu : PySem.W.isFn K (.ref f_Formu_initu) = true)
    (l_Formu_initu : K.lookup f_Formu_initu = some ⟨oc3, od3, .func (PySem.W.fnOf "__init__" "Form.__init__" (defArgs s_Formu_initu) (defBody s_Formu_initu) (defScope s_Formu_initu) .none kV3 dc3 pm3 an3 cd3 ct3), sl3⟩)
    (c_Formu_initu : PySem.W.codeIn K cd3 "Form.__init__" = true)
    (k_Formu_initu : PySem.W.keepIn K (.ref f_Formu_initu) = true)
    (a_check_forms : PySem.W.nsIn K mainGlobals "check_forms" = some (some (.ref f_check_forms)))
    (l_check_forms : K.lookup f_check_forms = some ⟨oc4, od4, .func (PySem.W.fnOf "check_forms" "check_forms" (defArgs s_check_forms) (defBody s_check_forms) (defScope s_check_forms) .none kV4 dc4 pm4 an4 cd4 ct4), sl4⟩)
    (c_check_forms : PySem.W.codeIn K cd4 "check_forms" = true)
    (k_check_forms : PySem.W.keepIn K (.ref f_check_forms) = true)
    (a_CodeSetu_initu : PySem.W.findIn K (.ref C_CodeSet) "__init__" = some (some (.ref f_CodeSetu_initu)))
    (i_CodeSetu_initu : PySem.W.isFn K (.ref f_CodeSetu_initu) = true)
    (l_CodeSetu_initu : K.lookup f_CodeSetu_initu = some ⟨oc5, od5, .func (PySem.W.fnOf "__init__" "CodeSet.__init__" (defArgs s_CodeSetu_initu) (defBody s_CodeSetu_initu) (defScope s_CodeSetu_initu) .none kV5 dc5 pm5 an5 cd5 ct5), sl5⟩)
    (c_CodeSetu_initu : PySem.W.codeIn K cd5 "CodeSet.__init__" = true)
    (k_CodeSetu_initu : PySem.W.keepIn K (.ref f_CodeSetu_initu) = true)
    (sma_CodeSet_sample : PySem.W.findCls K (.ref C_CodeSet) (.type "type") "sample" = some (.get (.builtin "staticmethod.__get__") (.ref sm6) .none (.ref C_CodeSet)))
    (smr_CodeSet_sample : PySem.W.recIn K sm6 "staticmethod" = some (.ref f_CodeSet_sample :: rst6))
    (l_CodeSet_sample : K.lookup f_CodeSet_sample = some ⟨oc6, od6, .func (PySem.W.fnOf "sample" "CodeSet.sample" (defArgs s_CodeSet_sample) (defBody s_CodeSet_sample) (defScope s_CodeSet_sample) .none kV6 dc6 pm6 an6 cd6 ct6), sl6⟩)
    (c_CodeSet_sample : PySem.W.codeIn K cd6 "CodeSet.sample" = true)
    (k_CodeSet_sample : PySem.W.keepIn K (.ref f_CodeSet_sample) = true)
    (a_CodeSetu_callu : PySem.W.findIn K (.ref C_CodeSet) "__call__" = some (some (.ref f_CodeSetu_callu)))
    (i_CodeSetu_callu : PySem.W.isFn K (.ref f_CodeSetu_callu) = true)
    (l_CodeSetu_callu : K.lookup f_CodeSetu_callu = some ⟨oc7, od7, .func (PySem.W.fnOf "__call__" "CodeSet.__call__" (defArgs s_CodeSetu_callu) (defBody s_CodeSetu_callu) (defScope s_CodeSetu_callu) .none kV7 dc7 pm7 an7 cd7 ct7), sl7⟩)
    (c_CodeSetu_callu : PySem.W.codeIn K cd7 "CodeSet.__call__" = true)
    (k_CodeSetu_callu : PySem.W.keepIn K (.ref f_CodeSetu_callu) = true)
    (a_check_bytes : PySem.W.nsIn K mainGlobals "check_bytes" = some (some (.ref f_check_bytes)))
    (l_check_bytes : K.lookup f_check_bytes = some ⟨oc8, od8, .func (PySem.W.fnOf "check_bytes" "check_bytes" (defArgs s_check_bytes) (defBody s_check_bytes) (defScope s_check_bytes) .none kV8 dc8 pm8 an8 cd8 ct8), sl8⟩)
    (c_check_bytes : PySem.W.codeIn K cd8 "check_bytes" = true)
    (k_check_bytes : PySem.W.keepIn K (.ref f_check_bytes) = true)
    (a_span_of : PySem.W.nsIn K mainGlobals "span_of" = some (some (.ref f_span_of)))
    (l_span_of : K.lookup f_span_of = some ⟨oc9, od9, .func (PySem.W.fnOf "span_of" "span_of" (defArgs s_span_of) (defBody s_span_of) (defScope s_span_of) .none kV9 dc9 pm9 an9 cd9 ct9), sl9⟩)
    (c_span_of : PySem.W.codeIn K cd9 "span_of" = true)
    (k_span_of : PySem.W.keepIn K (.ref f_span_of) = true)
    (a_Imageu_initu : PySem.W.findIn K (.ref C_Image) "__init__" = some (some (.ref f_Imageu_initu)))
    (i_Imageu_initu : PySem.W.isFn K (.ref f_Imageu_initu) = true)
    (l_Imageu_initu : K.lookup f_Imageu_initu = some ⟨oc10, od10, .func (PySem.W.fnOf "__init__" "Image.__init__" (defArgs s_Imageu_initu) (defBody s_Imageu_initu) (defScope s_Imageu_initu) .none kV10 dc10 pm10 an10 cd10 ct10), sl10⟩)
    (c_Imageu_initu : PySem.W.codeIn K cd10 "Image.__init__" = true)
    (k_Imageu_initu : PySem.W.keepIn K (.ref f_Imageu_initu) = true)
    (a_Imageu_lenu : PySem.W.findIn K (.ref C_Image) "__len__" = some (some (.ref f_Imageu_lenu)))
    (i_Imageu_lenu : PySem.W.isFn K (.ref f_Imageu_lenu) = true)
    (l_Imageu_lenu : K.lookup f_Imageu_lenu = some ⟨oc11, od11, .func (PySem.W.fnOf "__len__" "Image.__len__" (defArgs s_Imageu_lenu) (defBody s_Imageu_lenu) (defScope s_Imageu_lenu) .none kV11 dc11 pm11 an11 cd11 ct11), sl11⟩)
    (c_Imageu_lenu : PySem.W.codeIn K cd11 "Image.__len__" = true)
    (k_Imageu_lenu : PySem.W.keepIn K (.ref f_Imageu_lenu) = true)
    (a_Imageu_iteru : PySem.W.findIn K (.ref C_Image) "__iter__" = some (some (.ref f_Imageu_iteru)))
    (i_Imageu_iteru : PySem.W.isFn K (.ref f_Imageu_iteru) = true)
    (l_Imageu_iteru : K.lookup f_Imageu_iteru = some ⟨oc12, od12, .func (PySem.W.fnOf "__iter__" "Image.__iter__" (defArgs s_Imageu_iteru) (defBody s_Imageu_iteru) (defScope s_Imageu_iteru) .none kV12 dc12 pm12 an12 cd12 ct12), sl12⟩)
    (c_Imageu_iteru : PySem.W.codeIn K cd12 "Image.__iter__" = true)
    (k_Imageu_iteru : PySem.W.keepIn K (.ref f_Imageu_iteru) = true)
    (a_Imageu_equ : PySem.W.findIn K (.ref C_Image) "__eq__" = some (some (.ref f_Imageu_equ)))
    (i_Imageu_equ : PySem.W.isFn K (.ref f_Imageu_equ) = true)
    (l_Imageu_equ : K.lookup f_Imageu_equ = some ⟨oc13, od13, .func (PySem.W.fnOf "__eq__" "Image.__eq__" (defArgs s_Imageu_equ) (defBody s_Imageu_equ) (defScope s_Imageu_equ) .none kV13 dc13 pm13 an13 cd13 ct13), sl13⟩)
    (c_Imageu_equ : PySem.W.codeIn K cd13 "Image.__eq__" = true)
    (k_Imageu_equ : PySem.W.keepIn K (.ref f_Imageu_equ) = true)
    (a_Imageu_getitemu : PySem.W.findIn K (.ref C_Image) "__getitem__" = some (some (.ref f_Imageu_getitemu)))
    (i_Imageu_getitemu : PySem.W.isFn K (.ref f_Imageu_getitemu) = true)
    (l_Imageu_getitemu : K.lookup f_Imageu_getitemu = some ⟨oc14, od14, .func (PySem.W.fnOf "__getitem__" "Image.__getitem__" (defArgs s_Imageu_getitemu) (defBody s_Imageu_getitemu) (defScope s_Imageu_getitemu) .none kV14 dc14 pm14 an14 cd14 ct14), sl14⟩)
    (c_Imageu_getitemu : PySem.W.codeIn K cd14 "Image.__getitem__" = true)
    (k_Imageu_getitemu : PySem.W.keepIn K (.ref f_Imageu_getitemu) = true)
    (a_Imageu_setitemu : PySem.W.findIn K (.ref C_Image) "__setitem__" = some (some (.ref f_Imageu_setitemu)))
    (i_Imageu_setitemu : PySem.W.isFn K (.ref f_Imageu_setitemu) = true)
    (l_Imageu_setitemu : K.lookup f_Imageu_setitemu = some ⟨oc15, od15, .func (PySem.W.fnOf "__setitem__" "Image.__setitem__" (defArgs s_Imageu_setitemu) (defBody s_Imageu_setitemu) (defScope s_Imageu_setitemu) .none kV15 dc15 pm15 an15 cd15 ct15), sl15⟩)
    (c_Imageu_setitemu : PySem.W.codeIn K cd15 "Image.__setitem__" = true)
    (k_Imageu_setitemu : PySem.W.keepIn K (.ref f_Imageu_setitemu) = true)
    (a__law_pen : PySem.W.nsIn K mainGlobals "_law_pen" = some (some (.ref f__law_pen)))
    (l__law_pen : K.lookup f__law_pen = some ⟨oc16, od16, .func (PySem.W.fnOf "_law_pen" "_law_pen" (defArgs s__law_pen) (defBody s__law_pen) (defScope s__law_pen) .none kV16 dc16 pm16 an16 cd16 ct16), sl16⟩)
    (c__law_pen : PySem.W.codeIn K cd16 "_law_pen" = true)
    (k__law_pen : PySem.W.keepIn K (.ref f__law_pen) = true)
    (a__law_draw : PySem.W.nsIn K mainGlobals "_law_draw" = some (some (.ref f__law_draw)))
    (l__law_draw : K.lookup f__law_draw = some ⟨oc17, od17, .func (PySem.W.fnOf "_law_draw" "_law_draw" (defArgs s__law_draw) (defBody s__law_draw) (defScope s__law_draw) .none kV17 dc17 pm17 an17 cd17 ct17), sl17⟩)
    (c__law_draw : PySem.W.codeIn K cd17 "_law_draw" = true)
    (k__law_draw : PySem.W.keepIn K (.ref f__law_draw) = true)
    (a__law_pick : PySem.W.nsIn K mainGlobals "_law_pick" = some (some (.ref f__law_pick)))
    (l__law_pick : K.lookup f__law_pick = some ⟨oc18, od18, .func (PySem.W.fnOf "_law_pick" "_law_pick" (defArgs s__law_pick) (defBody s__law_pick) (defScope s__law_pick) .none kV18 dc18 pm18 an18 cd18 ct18), sl18⟩)
    (c__law_pick : PySem.W.codeIn K cd18 "_law_pick" = true)
    (k__law_pick : PySem.W.keepIn K (.ref f__law_pick) = true)
    (a__law_word : PySem.W.nsIn K mainGlobals "_law_word" = some (some (.ref f__law_word)))
    (l__law_word : K.lookup f__law_word = some ⟨oc19, od19, .func (PySem.W.fnOf "_law_word" "_law_word" (defArgs s__law_word) (defBody s__law_word) (defScope s__law_word) .none kV19 dc19 pm19 an19 cd19 ct19), sl19⟩)
    (c__law_word : PySem.W.codeIn K cd19 "_law_word" = true)
    (k__law_word : PySem.W.keepIn K (.ref f__law_word) = true)
    (a__law_heard : PySem.W.nsIn K mainGlobals "_law_heard" = some (some (.ref f__law_heard)))
    (l__law_heard : K.lookup f__law_heard = some ⟨oc20, od20, .func (PySem.W.fnOf "_law_heard" "_law_heard" (defArgs s__law_heard) (defBody s__law_heard) (defScope s__law_heard) .none kV20 dc20 pm20 an20 cd20 ct20), sl20⟩)
    (c__law_heard : PySem.W.codeIn K cd20 "_law_heard" = true)
    (k__law_heard : PySem.W.keepIn K (.ref f__law_heard) = true)
    (a__law_cells : PySem.W.nsIn K mainGlobals "_law_cells" = some (some (.ref f__law_cells)))
    (l__law_cells : K.lookup f__law_cells = some ⟨oc21, od21, .func (PySem.W.fnOf "_law_cells" "_law_cells" (defArgs s__law_cells) (defBody s__law_cells) (defScope s__law_cells) .none kV21 dc21 pm21 an21 cd21 ct21), sl21⟩)
    (c__law_cells : PySem.W.codeIn K cd21 "_law_cells" = true)
    (k__law_cells : PySem.W.keepIn K (.ref f__law_cells) = true)
    (a__law_bytes : PySem.W.nsIn K mainGlobals "_law_bytes" = some (some (.ref f__law_bytes)))
    (l__law_bytes : K.lookup f__law_bytes = some ⟨oc22, od22, .func (PySem.W.fnOf "_law_bytes" "_law_bytes" (defArgs s__law_bytes) (defBody s__law_bytes) (defScope s__law_bytes) .none kV22 dc22 pm22 an22 cd22 ct22), sl22⟩)
    (c__law_bytes : PySem.W.codeIn K cd22 "_law_bytes" = true)
    (k__law_bytes : PySem.W.keepIn K (.ref f__law_bytes) = true)
    (a__law_odd : PySem.W.nsIn K mainGlobals "_law_odd" = some (some (.ref f__law_odd)))
    (l__law_odd : K.lookup f__law_odd = some ⟨oc23, od23, .func (PySem.W.fnOf "_law_odd" "_law_odd" (defArgs s__law_odd) (defBody s__law_odd) (defScope s__law_odd) .none kV23 dc23 pm23 an23 cd23 ct23), sl23⟩)
    (c__law_odd : PySem.W.codeIn K cd23 "_law_odd" = true)
    (k__law_odd : PySem.W.keepIn K (.ref f__law_odd) = true)
    (a__law_spoilt : PySem.W.nsIn K mainGlobals "_law_spoilt" = some (some (.ref f__law_spoilt)))
    (l__law_spoilt : K.lookup f__law_spoilt = some ⟨oc24, od24, .func (PySem.W.fnOf "_law_spoilt" "_law_spoilt" (defArgs s__law_spoilt) (defBody s__law_spoilt) (defScope s__law_spoilt) .none kV24 dc24 pm24 an24 cd24 ct24), sl24⟩)
    (c__law_spoilt : PySem.W.codeIn K cd24 "_law_spoilt" = true)
    (k__law_spoilt : PySem.W.keepIn K (.ref f__law_spoilt) = true)
    (a__law_edge : PySem.W.nsIn K mainGlobals "_law_edge" = some (some (.ref f__law_edge)))
    (l__law_edge : K.lookup f__law_edge = some ⟨oc25, od25, .func (PySem.W.fnOf "_law_edge" "_law_edge" (defArgs s__law_edge) (defBody s__law_edge) (defScope s__law_edge) .none kV25 dc25 pm25 an25 cd25 ct25), sl25⟩)
    (c__law_edge : PySem.W.codeIn K cd25 "_law_edge" = true)
    (k__law_edge : PySem.W.keepIn K (.ref f__law_edge) = true)
    (a__law_deed : PySem.W.nsIn K mainGlobals "_law_deed" = some (some (.ref f__law_deed)))
    (l__law_deed : K.lookup f__law_deed = some ⟨oc26, od26, .func (PySem.W.fnOf "_law_deed" "_law_deed" (defArgs s__law_deed) (defBody s__law_deed) (defScope s__law_deed) .none kV26 dc26 pm26 an26 cd26 ct26), sl26⟩)
    (c__law_deed : PySem.W.codeIn K cd26 "_law_deed" = true)
    (k__law_deed : PySem.W.keepIn K (.ref f__law_deed) = true)
    (a__law_bad : PySem.W.nsIn K mainGlobals "_law_bad" = some (some (.ref f__law_bad)))
    (l__law_bad : K.lookup f__law_bad = some ⟨oc27, od27, .func (PySem.W.fnOf "_law_bad" "_law_bad" (defArgs s__law_bad) (defBody s__law_bad) (defScope s__law_bad) .none kV27 dc27 pm27 an27 cd27 ct27), sl27⟩)
    (c__law_bad : PySem.W.codeIn K cd27 "_law_bad" = true)
    (k__law_bad : PySem.W.keepIn K (.ref f__law_bad) = true)
    (a__law_due : PySem.W.nsIn K mainGlobals "_law_due" = some (some (.ref f__law_due)))
    (l__law_due : K.lookup f__law_due = some ⟨oc28, od28, .func (PySem.W.fnOf "_law_due" "_law_due" (defArgs s__law_due) (defBody s__law_due) (defScope s__law_due) .none kV28 dc28 pm28 an28 cd28 ct28), sl28⟩)
    (c__law_due : PySem.W.codeIn K cd28 "_law_due" = true)
    (k__law_due : PySem.W.keepIn K (.ref f__law_due) = true)
    (a__law_dressed : PySem.W.nsIn K mainGlobals "_law_dressed" = some (some (.ref f__law_dressed)))
    (l__law_dressed : K.lookup f__law_dressed = some ⟨oc29, od29, .func (PySem.W.fnOf "_law_dressed" "_law_dressed" (defArgs s__law_dressed) (defBody s__law_dressed) (defScope s__law_dressed) .none kV29 dc29 pm29 an29 cd29 ct29), sl29⟩)
    (c__law_dressed : PySem.W.codeIn K cd29 "_law_dressed" = true)
    (k__law_dressed : PySem.W.keepIn K (.ref f__law_dressed) = true)
    (a__law_put : PySem.W.nsIn K mainGlobals "_law_put" = some (some (.ref f__law_put)))
    (l__law_put : K.lookup f__law_put = some ⟨oc30, od30, .func (PySem.W.fnOf "_law_put" "_law_put" (defArgs s__law_put) (defBody s__law_put) (defScope s__law_put) .none kV30 dc30 pm30 an30 cd30 ct30), sl30⟩)
    (c__law_put : PySem.W.codeIn K cd30 "_law_put" = true)
    (k__law_put : PySem.W.keepIn K (.ref f__law_put) = true)
    (a__law_done : PySem.W.nsIn K mainGlobals "_law_done" = some (some (.ref f__law_done)))
    (l__law_done : K.lookup f__law_done = some ⟨oc31, od31, .func (PySem.W.fnOf "_law_done" "_law_done" (defArgs s__law_done) (defBody s__law_done) (defScope s__law_done) .none kV31 dc31 pm31 an31 cd31 ct31), sl31⟩)
    (c__law_done : PySem.W.codeIn K cd31 "_law_done" = true)
    (k__law_done : PySem.W.keepIn K (.ref f__law_done) = true)
    (a__law_made_right : PySem.W.nsIn K mainGlobals "_law_made_right" = some (some (.ref f__law_made_right)))
    (l__law_made_right : K.lookup f__law_made_right = some ⟨oc32, od32, .func (PySem.W.fnOf "_law_made_right" "_law_made_right" (defArgs s__law_made_right) (defBody s__law_made_right) (defScope s__law_made_right) .none kV32 dc32 pm32 an32 cd32 ct32), sl32⟩)
    (c__law_made_right : PySem.W.codeIn K cd32 "_law_made_right" = true)
    (k__law_made_right : PySem.W.keepIn K (.ref f__law_made_right) = true)
    (a__law_read : PySem.W.nsIn K mainGlobals "_law_read" = some (some (.ref f__law_read)))
    (l__law_read : K.lookup f__law_read = some ⟨oc33, od33, .func (PySem.W.fnOf "_law_read" "_law_read" (defArgs s__law_read) (defBody s__law_read) (defScope s__law_read) .none kV33 dc33 pm33 an33 cd33 ct33), sl33⟩)
    (c__law_read : PySem.W.codeIn K cd33 "_law_read" = true)
    (k__law_read : PySem.W.keepIn K (.ref f__law_read) = true)
    (a__law_read_right : PySem.W.nsIn K mainGlobals "_law_read_right" = some (some (.ref f__law_read_right)))
    (l__law_read_right : K.lookup f__law_read_right = some ⟨oc34, od34, .func (PySem.W.fnOf "_law_read_right" "_law_read_right" (defArgs s__law_read_right) (defBody s__law_read_right) (defScope s__law_read_right) .none kV34 dc34 pm34 an34 cd34 ct34), sl34⟩)
    (c__law_read_right : PySem.W.codeIn K cd34 "_law_read_right" = true)
    (k__law_read_right : PySem.W.keepIn K (.ref f__law_read_right) = true)
    (a__law_unlike_right : PySem.W.nsIn K mainGlobals "_law_unlike_right" = some (some (.ref f__law_unlike_right)))
    (l__law_unlike_right : K.lookup f__law_unlike_right = some ⟨oc35, od35, .func (PySem.W.fnOf "_law_unlike_right" "_law_unlike_right" (defArgs s__law_unlike_right) (defBody s__law_unlike_right) (defScope s__law_unlike_right) .none kV35 dc35 pm35 an35 cd35 ct35), sl35⟩)
    (c__law_unlike_right : PySem.W.codeIn K cd35 "_law_unlike_right" = true)
    (k__law_unlike_right : PySem.W.keepIn K (.ref f__law_unlike_right) = true)
    (a_law : PySem.W.nsIn K mainGlobals "law" = some (some (.ref f_law)))
    (l_law : K.lookup f_law = some ⟨oc36, od36, .func (PySem.W.fnOf "law" "law" (defArgs s_law) (defBody s_law) (defScope s_law) .none kV36 dc36 pm36 an36 cd36 ct36), sl36⟩)
    (c_law : PySem.W.codeIn K cd36 "law" = true)
    (k_law : PySem.W.keepIn K (.ref f_law) = true)
    (pg_Form : PySem.W.plainGet K C_Form Str.empty = true)
    (hd_Form : PySem.W.hasDictIn K C_Form = true)
    (po_Form : PySem.W.plainOver K C_Form = true)
    (sa_Form : PySem.W.findIn K (.ref C_Form) "__setattr__" = some (some (.builtin "object.__setattr__")))
    (mk_Form : PySem.W.makesIn K C_Form = true)
    (kc_Form : PySem.W.keepIn K (.ref C_Form) = true)
    (no_Form_name : PySem.W.findIn K (.ref C_Form) "name" = some none)
    (no_Form_length : PySem.W.findIn K (.ref C_Form) "length" = some none)
    (no_Form_flow : PySem.W.findIn K (.ref C_Form) "flow" = some none)
    (pg_CodeSet : PySem.W.plainGet K C_CodeSet Str.empty = true)
    (hd_CodeSet : PySem.W.hasDictIn K C_CodeSet = true)
    (po_CodeSet : PySem.W.plainOver K C_CodeSet = true)
    (sa_CodeSet : PySem.W.findIn K (.ref C_CodeSet) "__setattr__" = some (some (.builtin "object.__setattr__")))
    (mk_CodeSet : PySem.W.makesIn K C_CodeSet = true)
    (kc_CodeSet : PySem.W.keepIn K (.ref C_CodeSet) = true)
    (no_CodeSet_stop : PySem.W.findIn K (.ref C_CodeSet) "stop" = some none)
    (no_CodeSet_order : PySem.W.findIn K (.ref C_CodeSet) "order" = some none)
    (no_CodeSet_table : PySem.W.findIn K (.ref C_CodeSet) "table" = some none)
    (pg_Image : PySem.W.plainGet K C_Image Str.empty = true)
    (hd_Image : PySem.W.hasDictIn K C_Image = true)
    (po_Image : PySem.W.plainOver K C_Image = true)
    (sa_Image : PySem.W.findIn K (.ref C_Image) "__setattr__" = some (some (.builtin "object.__setattr__")))
    (mk_Image : PySem.W.makesIn K C_Image = true)
    (kc_Image : PySem.W.keepIn K (.ref C_Image) = true)
    (no_Image_cells : PySem.W.findIn K (.ref C_Image) "cells" = some none)
    (z_len : PySem.W.nsIn K mainGlobals "len" = some none)
    (z_abs : PySem.W.nsIn K mainGlobals "abs" = some none)
    (z_int : PySem.W.nsIn K mainGlobals "int" = some none)
    (z_list : PySem.W.nsIn K mainGlobals "list" = some none)
    (z_range : PySem.W.nsIn K mainGlobals "range" = some none)
    (z_isinstance : PySem.W.nsIn K mainGlobals "isinstance" = some none)
    (z_bool : PySem.W.nsIn K mainGlobals "bool" = some none)
    (z_str : PySem.W.nsIn K mainGlobals "str" = some none)
    (z_tuple : PySem.W.nsIn K mainGlobals "tuple" = some none)
    (z_all : PySem.W.nsIn K mainGlobals "all" = some none)
    (z_set : PySem.W.nsIn K mainGlobals "set" = some none)
    (z_sorted : PySem.W.nsIn K mainGlobals "sorted" = some none)
    (z_ValueError : PySem.W.nsIn K mainGlobals "ValueError" = some none)
    (z_repr : PySem.W.nsIn K mainGlobals "repr" = some none)
    (z_max : PySem.W.nsIn K mainGlobals "max" = some none)
    (z_min : PySem.W.nsIn K mainGlobals "min" = some none)
    (z_iter : PySem.W.nsIn K mainGlobals "iter" = some none)
    (z_enumerate : PySem.W.nsIn K mainGlobals "enumerate" = some none)
    (v_LETTERS : PySem.W.nsIn K mainGlobals "LETTERS" = some (some (.str "abcdefghijklmnopqrstuvwxyz" t_LETTERS)))
    (aC_CodeError : PySem.W.nsIn K mainGlobals "CodeError" = some (some (.ref C_CodeError)))
    (aC_BadCodes : PySem.W.nsIn K mainGlobals "BadCodes" = some (some (.ref C_BadCodes)))
    (aC_BadLayout : PySem.W.nsIn K mainGlobals "BadLayout" = some (some (.ref C_BadLayout)))
    (aC_BadRewrite : PySem.W.nsIn K mainGlobals "BadRewrite" = some (some (.ref C_BadRewrite)))
    (aC_BadStep : PySem.W.nsIn K mainGlobals "BadStep" = some (some (.ref C_BadStep)))
    (aC_BadText : PySem.W.nsIn K mainGlobals "BadText" = some (some (.ref C_BadText)))
    (aC_NotRight : PySem.W.nsIn K mainGlobals "NotRight" = some (some (.ref C_NotRight)))
    (aC_NoWay : PySem.W.nsIn K mainGlobals "NoWay" = some (some (.ref C_NoWay)))
    (aC_BadInput : PySem.W.nsIn K mainGlobals "BadInput" = some (some (.ref C_BadInput)))
    (zsuper : PySem.W.nsIn K mainGlobals "super" = some none)
    (znoop : PySem.W.nsIn K cStatics "thirdparty.any" = some none)
    (zgcn : PySem.W.specialIn K (.builtin "object.__class__") "__get__" = some (some (.builtin "getset_descriptor.__get__")))
    (zgct : PySem.W.takesIn K (.builtin "object.__class__") = some true)
    (ztop : ((PySem.Challenge.pw_codestitch_k07_image_bytes).main.scope.names.lookup ("super" : Str)).isSome = false)
    (aC_BadAddress : PySem.W.nsIn K mainGlobals "BadAddress" = some (some (.ref C_BadAddress)))
    (lkC_BadAddress : K.lookup C_BadAddress = some (excClassObj nm37 q37 C_BadAddress N37 bs37 bm37 true sn37 sub37 ab37 col37 dd37 ka37 kb37 kc37 kd37 ke37 "ValueError.__new__"))
    (bmC_BadAddress : PySem.HandSPX.refsVE bm37 = true)
    (saC_BadAddress : PySem.W.findIn K (.ref C_BadAddress) "__setattr__" = some (some (.builtin "object.__setattr__")))
    (exC_BadAddress : PySem.W.subIn K (.ref C_BadAddress) (.type "BaseException") = some true)
    (tyC_BadAddress : PySem.W.typeIn K (.ref C_BadAddress) = some (.type "type"))
    (kpC_BadAddress : PySem.W.keepIn K (.ref C_BadAddress) = true)
    (inC_BadAddress : PySem.W.findIn K (.ref C_BadAddress) "__init__" = some (some (.ref f_BadAddressu_initu)))
    (tiC_BadAddress : PySem.W.typeIn K (.ref f_BadAddressu_initu) = some (.type "function"))
    (noC_BadAddress_at : PySem.W.findIn K (.ref C_BadAddress) "at" = some none)
    (gaC_BadAddress : PySem.W.findIn K (.ref C_BadAddress) "__getattribute__" = some (some (.builtin "BaseException.__getattribute__")))
    (ggC_BadAddress : PySem.W.findIn K (.ref C_BadAddress) "__getattr__" = some none)
    (hdC_BadAddress : PySem.W.hasDictIn K C_BadAddress = true)
    (gcC_BadAddress : PySem.W.findIn K (.ref C_BadAddress) "__class__" = some (some (.builtin "object.__class__")))
    (moC_BadAddress : PySem.W.mroIn K C_BadAddress (.type "object") = some true)
    (l_BadAddressu_initu : K.lookup f_BadAddressu_initu = some ⟨oc37, od37, .func (PySem.W.ksFn "__init__" "BadAddress.__init__" (defArgs s_BadAddressu_initu) (defBody s_BadAddressu_initu) (defScope s_BadAddressu_initu) .none kV37 dc37 pm37 an37 (.ref cda37) ct37 cc37), sl37⟩)
    (c_BadAddressu_initu : PySem.W.codeIn K (.ref cda37) "BadAddress.__init__" = true)
    (k_BadAddressu_initu : PySem.W.keepIn K (.ref f_BadAddressu_initu) = true)
    (cl_BadAddressu_initu : K.lookup cda37 = some ⟨ccl37, ccd37, .fields vs37, ccs37⟩)
    (cf_BadAddressu_initu : vs37[2]? = some (.str file37 tf37))
    (fe_BadAddressu_initu : (((PySem.Challenge.pw_codestitch_k07_image_bytes).main.file : Str) == file37) = true)
    (ce_BadAddressu_initu : K.lookup cc37 = some ⟨ocl37, ocd37, .cell (some (.ref C_BadAddress)), ocs37⟩)
    (mrC_BadAddress : PySem.W.mroIn K C_BadAddress (.ref C_BadAddress) = some true)
    (suC_BadAddress : PySem.W.ks_superIn K C_BadAddress C_BadAddress "__init__" = some (some (.builtin "ValueError.__init__")))
    (svC_BadAddress : PySem.W.subIn K (.ref C_BadAddress) (.type "ValueError") = some true)
    (aC_BadByte : PySem.W.nsIn K mainGlobals "BadByte" = some (some (.ref C_BadByte)))
    (lkC_BadByte : K.lookup C_BadByte = some (excClassObj nm38 q38 C_BadByte N38 bs38 bm38 true sn38 sub38 ab38 col38 dd38 ka38 kb38 kc38 kd38 ke38 "ValueError.__new__"))
    (bmC_BadByte : PySem.HandSPX.refsVE bm38 = true)
    (saC_BadByte : PySem.W.findIn K (.ref C_BadByte) "__setattr__" = some (some (.builtin "object.__setattr__")))
    (exC_BadByte : PySem.W.subIn K (.ref C_BadByte) (.type "BaseException") = some true)
    (tyC_BadByte : PySem.W.typeIn K (.ref C_BadByte) = some (.type "type"))
    (kpC_BadByte : PySem.W.keepIn K (.ref C_BadByte) = true)
    (inC_BadByte : PySem.W.findIn K (.ref C_BadByte) "__init__" = some (some (.ref f_BadByteu_initu)))
    (tiC_BadByte : PySem.W.typeIn K (.ref f_BadByteu_initu) = some (.type "function"))
    (noC_BadByte_at : PySem.W.findIn K (.ref C_BadByte) "at" = some none)
    (gaC_BadByte : PySem.W.findIn K (.ref C_BadByte) "__getattribute__" = some (some (.builtin "BaseException.__getattribute__")))
    (ggC_BadByte : PySem.W.findIn K (.ref C_BadByte) "__getattr__" = some none)
    (hdC_BadByte : PySem.W.hasDictIn K C_BadByte = true)
    (gcC_BadByte : PySem.W.findIn K (.ref C_BadByte) "__class__" = some (some (.builtin "object.__class__")))
    (moC_BadByte : PySem.W.mroIn K C_BadByte (.type "object") = some true)
    (l_BadByteu_initu : K.lookup f_BadByteu_initu = some ⟨oc38, od38, .func (PySem.W.ksFn "__init__" "BadByte.__init__" (defArgs s_BadByteu_initu) (defBody s_BadByteu_initu) (defScope s_BadByteu_initu) .none kV38 dc38 pm38 an38 (.ref cda38) ct38 cc38), sl38⟩)
    (c_BadByteu_initu : PySem.W.codeIn K (.ref cda38) "BadByte.__init__" = true)
    (k_BadByteu_initu : PySem.W.keepIn K (.ref f_BadByteu_initu) = true)
    (cl_BadByteu_initu : K.lookup cda38 = some ⟨ccl38, ccd38, .fields vs38, ccs38⟩)
    (cf_BadByteu_initu : vs38[2]? = some (.str file38 tf38))
    (fe_BadByteu_initu : (((PySem.Challenge.pw_codestitch_k07_image_bytes).main.file : Str) == file38) = true)
    (ce_BadByteu_initu : K.lookup cc38 = some ⟨ocl38, ocd38, .cell (some (.ref C_BadByte)), ocs38⟩)
    (mrC_BadByte : PySem.W.mroIn K C_BadByte (.ref C_BadByte) = some true)
    (suC_BadByte : PySem.W.ks_superIn K C_BadByte C_BadByte "__init__" = some (some (.builtin "ValueError.__init__")))
    (svC_BadByte : PySem.W.subIn K (.ref C_BadByte) (.type "ValueError") = some true)
    (aC_UnlikeLengths : PySem.W.nsIn K mainGlobals "UnlikeLengths" = some (some (.ref C_UnlikeLengths)))
    (lkC_UnlikeLengths : K.lookup C_UnlikeLengths = some (excClassObj nm39 q39 C_UnlikeLengths N39 bs39 bm39 true sn39 sub39 ab39 col39 dd39 ka39 kb39 kc39 kd39 ke39 "ValueError.__new__"))
    (bmC_UnlikeLengths : PySem.HandSPX.refsVE bm39 = true)
    (saC_UnlikeLengths : PySem.W.findIn K (.ref C_UnlikeLengths) "__setattr__" = some (some (.builtin "object.__setattr__")))
    (exC_UnlikeLengths : PySem.W.subIn K (.ref C_UnlikeLengths) (.type "BaseException") = some true)
    (tyC_UnlikeLengths : PySem.W.typeIn K (.ref C_UnlikeLengths) = some (.type "type"))
    (kpC_UnlikeLengths : PySem.W.keepIn K (.ref C_UnlikeLengths) = true)
    (inC_UnlikeLengths : PySem.W.findIn K (.ref C_UnlikeLengths) "__init__" = some (some (.ref f_UnlikeLengthsu_initu)))
    (tiC_UnlikeLengths : PySem.W.typeIn K (.ref f_UnlikeLengthsu_initu) = some (.type "function"))
    (noC_UnlikeLengths_one : PySem.W.findIn K (.ref C_UnlikeLengths) "one" = some none)
    (noC_UnlikeLengths_other : PySem.W.findIn K (.ref C_UnlikeLengths) "other" = some none)
    (gaC_UnlikeLengths : PySem.W.findIn K (.ref C_UnlikeLengths) "__getattribute__" = some (some (.builtin "BaseException.__getattribute__")))
    (ggC_UnlikeLengths : PySem.W.findIn K (.ref C_UnlikeLengths) "__getattr__" = some none)
    (hdC_UnlikeLengths : PySem.W.hasDictIn K C_UnlikeLengths = true)
    (gcC_UnlikeLengths : PySem.W.findIn K (.ref C_UnlikeLengths) "__class__" = some (some (.builtin "object.__class__")))
    (moC_UnlikeLengths : PySem.W.mroIn K C_UnlikeLengths (.type "object") = some true)
    (l_UnlikeLengthsu_initu : K.lookup f_UnlikeLengthsu_initu = some ⟨oc39, od39, .func (PySem.W.ksFn "__init__" "UnlikeLengths.__init__" (defArgs s_UnlikeLengthsu_initu) (defBody s_UnlikeLengthsu_initu) (defScope s_UnlikeLengthsu_initu) .none kV39 dc39 pm39 an39 (.ref cda39) ct39 cc39), sl39⟩)
    (c_UnlikeLengthsu_initu : PySem.W.codeIn K (.ref cda39) "UnlikeLengths.__init__" = true)
    (k_UnlikeLengthsu_initu : PySem.W.keepIn K (.ref f_UnlikeLengthsu_initu) = true)
    (cl_UnlikeLengthsu_initu : K.lookup cda39 = some ⟨ccl39, ccd39, .fields vs39, ccs39⟩)
    (cf_UnlikeLengthsu_initu : vs39[2]? = some (.str file39 tf39))
    (fe_UnlikeLengthsu_initu : (((PySem.Challenge.pw_codestitch_k07_image_bytes).main.file : Str) == file39) = true)
    (ce_UnlikeLengthsu_initu : K.lookup cc39 = some ⟨ocl39, ocd39, .cell (some (.ref C_UnlikeLengths)), ocs39⟩)
    (mrC_UnlikeLengths : PySem.W.mroIn K C_UnlikeLengths (.ref C_UnlikeLengths) = some true)
    (suC_UnlikeLengths : PySem.W.ks_superIn K C_UnlikeLengths C_UnlikeLengths "__init__" = some (some (.builtin "ValueError.__init__")))
    (svC_UnlikeLengths : PySem.W.subIn K (.ref C_UnlikeLengths) (.type "ValueError") = some true)
    (aC_NotWhole : PySem.W.nsIn K mainGlobals "NotWhole" = some (some (.ref C_NotWhole)))
    (lkC_NotWhole : K.lookup C_NotWhole = some (excClassObj nm40 q40 C_NotWhole N40 bs40 bm40 true sn40 sub40 ab40 col40 dd40 ka40 kb40 kc40 kd40 ke40 "ValueError.__new__"))
    (bmC_NotWhole : PySem.HandSPX.refsVE bm40 = true)
    (saC_NotWhole : PySem.W.findIn K (.ref C_NotWhole) "__setattr__" = some (some (.builtin "object.__setattr__")))
    (exC_NotWhole : PySem.W.subIn K (.ref C_NotWhole) (.type "BaseException") = some true)
    (tyC_NotWhole : PySem.W.typeIn K (.ref C_NotWhole) = some (.type "type"))
    (kpC_NotWhole : PySem.W.keepIn K (.ref C_NotWhole) = true)
    (inC_NotWhole : PySem.W.findIn K (.ref C_NotWhole) "__init__" = some (some (.ref f_NotWholeu_initu)))
    (tiC_NotWhole : PySem.W.typeIn K (.ref f_NotWholeu_initu) = some (.type "function"))
    (noC_NotWhole_place : PySem.W.findIn K (.ref C_NotWhole) "place" = some none)
    (gaC_NotWhole : PySem.W.findIn K (.ref C_NotWhole) "__getattribute__" = some (some (.builtin "BaseException.__getattribute__")))
    (ggC_NotWhole : PySem.W.findIn K (.ref C_NotWhole) "__getattr__" = some none)
    (hdC_NotWhole : PySem.W.hasDictIn K C_NotWhole = true)
    (gcC_NotWhole : PySem.W.findIn K (.ref C_NotWhole) "__class__" = some (some (.builtin "object.__class__")))
    (moC_NotWhole : PySem.W.mroIn K C_NotWhole (.type "object") = some true)
    (l_NotWholeu_initu : K.lookup f_NotWholeu_initu = some ⟨oc40, od40, .func (PySem.W.ksFn "__init__" "NotWhole.__init__" (defArgs s_NotWholeu_initu) (defBody s_NotWholeu_initu) (defScope s_NotWholeu_initu) .none kV40 dc40 pm40 an40 (.ref cda40) ct40 cc40), sl40⟩)
    (c_NotWholeu_initu : PySem.W.codeIn K (.ref cda40) "NotWhole.__init__" = true)
    (k_NotWholeu_initu : PySem.W.keepIn K (.ref f_NotWholeu_initu) = true)
    (cl_NotWholeu_initu : K.lookup cda40 = some ⟨ccl40, ccd40, .fields vs40, ccs40⟩)
    (cf_NotWholeu_initu : vs40[2]? = some (.str file40 tf40))
    (fe_NotWholeu_initu : (((PySem.Challenge.pw_codestitch_k07_image_bytes).main.file : Str) == file40) = true)
    (ce_NotWholeu_initu : K.lookup cc40 = some ⟨ocl40, ocd40, .cell (some (.ref C_NotWhole)), ocs40⟩)
    (mrC_NotWhole : PySem.W.mroIn K C_NotWhole (.ref C_NotWhole) = some true)
    (suC_NotWhole : PySem.W.ks_superIn K C_NotWhole C_NotWhole "__init__" = some (some (.builtin "ValueError.__init__")))
    (svC_NotWhole : PySem.W.subIn K (.ref C_NotWhole) (.type "ValueError") = some true)
    (kit_BadAddress_BadAddress : PySem.W.kitOne K (.ref C_BadAddress) (.ref C_BadAddress) = some true)
    (kit_BadAddress_BadByte : PySem.W.kitOne K (.ref C_BadAddress) (.ref C_BadByte) = some false)
    (kit_BadAddress_UnlikeLengths : PySem.W.kitOne K (.ref C_BadAddress) (.ref C_UnlikeLengths) = some false)
    (kit_BadAddress_BadCodes : PySem.W.kitOne K (.ref C_BadAddress) (.ref C_BadCodes) = some false)
    (kit_BadAddress_BadLayout : PySem.W.kitOne K (.ref C_BadAddress) (.ref C_BadLayout) = some false)
    (kit_BadAddress_BadRewrite : PySem.W.kitOne K (.ref C_BadAddress) (.ref C_BadRewrite) = some false)
    (kit_BadAddress_BadStep : PySem.W.kitOne K (.ref C_BadAddress) (.ref C_BadStep) = some false)
    (kit_BadAddress_BadText : PySem.W.kitOne K (.ref C_BadAddress) (.ref C_BadText) = some false)
    (kit_BadAddress_NotRight : PySem.W.kitOne K (.ref C_BadAddress) (.ref C_NotRight) = some false)
    (kit_BadAddress_NoWay : PySem.W.kitOne K (.ref C_BadAddress) (.ref C_NoWay) = some false)
    (kit_BadAddress_BadInput : PySem.W.kitOne K (.ref C_BadAddress) (.ref C_BadInput) = some true)
    (kit_BadAddress_ValueError : PySem.W.kitOne K (.ref C_BadAddress) (.type "ValueError") = some true)
    (kit_BadByte_BadAddress : PySem.W.kitOne K (.ref C_BadByte) (.ref C_BadAddress) = some false)
    (kit_BadByte_BadByte : PySem.W.kitOne K (.ref C_BadByte) (.ref C_BadByte) = some true)
    (kit_BadByte_UnlikeLengths : PySem.W.kitOne K (.ref C_BadByte) (.ref C_UnlikeLengths) = some false)
    (kit_BadByte_BadCodes : PySem.W.kitOne K (.ref C_BadByte) (.ref C_BadCodes) = some false)
    (kit_BadByte_BadLayout : PySem.W.kitOne K (.ref C_BadByte) (.ref C_BadLayout) = some false)
    (kit_BadByte_BadRewrite : PySem.W.kitOne K (.ref C_BadByte) (.ref C_BadRewrite) = some false)
    (kit_BadByte_BadStep : PySem.W.kitOne K (.ref C_BadByte) (.ref C_BadStep) = some false)
    (kit_BadByte_BadText : PySem.W.kitOne K (.ref C_BadByte) (.ref C_BadText) = some false)
    (kit_BadByte_NotRight : PySem.W.kitOne K (.ref C_BadByte) (.ref C_NotRight) = some false)
    (kit_BadByte_NoWay : PySem.W.kitOne K (.ref C_BadByte) (.ref C_NoWay) = some false)
    (kit_BadByte_BadInput : PySem.W.kitOne K (.ref C_BadByte) (.ref C_BadInput) = some true)
    (kit_BadByte_ValueError : PySem.W.kitOne K (.ref C_BadByte) (.type "ValueError") = some true)
    (kit_UnlikeLengths_BadAddress : PySem.W.kitOne K (.ref C_UnlikeLengths) (.ref C_BadAddress) = some false)
    (kit_UnlikeLengths_BadByte : PySem.W.kitOne K (.ref C_UnlikeLengths) (.ref C_BadByte) = some false)
    (kit_UnlikeLengths_UnlikeLengths : PySem.W.kitOne K (.ref C_UnlikeLengths) (.ref C_UnlikeLengths) = some true)
    (kit_UnlikeLengths_BadCodes : PySem.W.kitOne K (.ref C_UnlikeLengths) (.ref C_BadCodes) = some false)
    (kit_UnlikeLengths_BadLayout : PySem.W.kitOne K (.ref C_UnlikeLengths) (.ref C_BadLayout) = some false)
    (kit_UnlikeLengths_BadRewrite : PySem.W.kitOne K (.ref C_UnlikeLengths) (.ref C_BadRewrite) = some false)
    (kit_UnlikeLengths_BadStep : PySem.W.kitOne K (.ref C_UnlikeLengths) (.ref C_BadStep) = some false)
    (kit_UnlikeLengths_BadText : PySem.W.kitOne K (.ref C_UnlikeLengths) (.ref C_BadText) = some false)
    (kit_UnlikeLengths_NotRight : PySem.W.kitOne K (.ref C_UnlikeLengths) (.ref C_NotRight) = some false)
    (kit_UnlikeLengths_NoWay : PySem.W.kitOne K (.ref C_UnlikeLengths) (.ref C_NoWay) = some false)
    (kit_UnlikeLengths_BadInput : PySem.W.kitOne K (.ref C_UnlikeLengths) (.ref C_BadInput) = some true)
    (kit_UnlikeLengths_ValueError : PySem.W.kitOne K (.ref C_UnlikeLengths) (.type "ValueError") = some true)
    (kit_Image_list : PySem.W.kitOne K (.ref C_Image) (.type "list") = some false)
    (exm_BadAddress_CodeError : PySem.W.exmOne K (.ref C_BadAddress) (.ref C_CodeError) = some true)
    (exm_BadByte_CodeError : PySem.W.exmOne K (.ref C_BadByte) (.ref C_CodeError) = some true)
    (exm_UnlikeLengths_CodeError : PySem.W.exmOne K (.ref C_UnlikeLengths) (.ref C_CodeError) = some true)
    (exm_NotWhole_NotWhole : PySem.W.exmOne K (.ref C_NotWhole) (.ref C_NotWhole) = some true)
    (icc_Image : PySem.W.findIn K (.ref C_Image) "__class__" = some (some (.builtin "object.__class__")))
    (icm_Image : PySem.W.mroIn K C_Image (.type "object") = some true)
    (kit_Image_Image : PySem.W.kitOne K (.ref C_Image) (.ref C_Image) = some true)
    (nee_Image : PySem.W.findIn K (.ref C_Image) "__ne__" = some (some (.builtin "object.__ne__")))
    (kit_NoneType_Image : PySem.W.kitOne K (.type "NoneType") (.ref C_Image) = some false)
    (kit_bool_Image : PySem.W.kitOne K (.type "bool") (.ref C_Image) = some false)
    (kit_int_Image : PySem.W.kitOne K (.type "int") (.ref C_Image) = some false)
    (kit_str_Image : PySem.W.kitOne K (.type "str") (.ref C_Image) = some false)
    (kit_list_Image : PySem.W.kitOne K (.type "list") (.ref C_Image) = some false)
    (kit_tuple_Image : PySem.W.kitOne K (.type "tuple") (.ref C_Image) = some false)
    (nf_Image_Image : PySem.W.notFirst K C_Image (.ref C_Image) = true)
    (nf_NoneType_Image : PySem.W.notFirst K C_Image (.type "NoneType") = true)
    (nf_bool_Image : PySem.W.notFirst K C_Image (.type "bool") = true)
    (nf_int_Image : PySem.W.notFirst K C_Image (.type "int") = true)
    (nf_str_Image : PySem.W.notFirst K C_Image (.type "str") = true)
    (nf_list_Image : PySem.W.notFirst K C_Image (.type "list") = true)
    (nf_tuple_Image : PySem.W.notFirst K C_Image (.type "tuple") = true)
    (nsq_Image : PySem.W.noSeq K C_Image = true)
    (spi_Imageu_getitemu : PySem.W.fnIn K f_Imageu_getitemu = true)
    (coi_CodeSet : PySem.W.fnIn K f_CodeSetu_callu = true)
    (rd_Form : PySem.W.readsIn K C_Form (.type "type") = true)
    (gat_Form : PySem.W.specialIn K (.ref C_Form) "__getattribute__" = some (some (.builtin "type.__getattribute__")))
    (rd_CodeSet : PySem.W.readsIn K C_CodeSet (.type "type") = true)
    (gat_CodeSet : PySem.W.specialIn K (.ref C_CodeSet) "__getattribute__" = some (some (.builtin "type.__getattribute__")))
    (cvF : PySem.W.findCls K (.ref C_Form) (.type "type") "FLOWS" = some (.val (.ref a_FLOWS)))
    (lkF : K.lookup a_FLOWS = some ⟨.type "tuple", odF, .seq #[.str "next" tF1, .str "jump" tF2, .str "test" tF3, .str "end" tF4] nF, slF⟩)
    (cvM : PySem.W.findCls K (.ref C_CodeSet) (.type "type") "MOST_FORMS" = some (.val (.int 16 tM)))
    (lam__law_done : Vc.lamB K f__law_done cl__law_done Pl__law_done = true)
    (lam__law_made_right : Vc.lamB K f__law_made_right cl__law_made_right Pl__law_made_right = true)
    (lne__law_done__law_made_right : (Pl__law_done : Addr) ≠ Pl__law_made_right) :
    ∃ fd : FuncData, (∀ (s : Shared) (v : Value), BindsTo s fd ⟨[v], []⟩ [("_law_script", v)]) ∧ ∀ base : Heap, K.In base → base.Ns mainGlobals mg → (∀ p ∈ [(cl__law_done, Pl__law_done), (cl__law_made_right, Pl__law_made_right)], LamX.TabB base mg p.1 p.2) → Vc.FnG PySem.Challenge.pw_codestitch_k07_image_bytes w K mg base CX0 16 fa fd ["_law_script"] (spLaw K [(Pl__law_done, ((("_law_done" : Str) ++ (".<locals>." : Str)) ++ ("<lambda>" : Str))), (Pl__law_made_right, ((("_law_made_right" : Str) ++ (".<locals>." : Str)) ++ ("<lambda>" : Str)))]) := by
  have e := hfa.symm.trans (PySem.W.mg_of X G a_law)
  cases e
  have F_is_byte := fun_mk (st := s_is_byte) l_is_byte c_is_byte k_is_byte
  have F_is_name := fun_mk (st := s_is_name) l_is_name c_is_name k_is_name
  have F_Formu_initu := fun_mk (st := s_Formu_initu) l_Formu_initu c_Formu_initu k_Formu_initu
  have F_check_forms := fun_mk (st := s_check_forms) l_check_forms c_check_forms k_check_forms
  have F_CodeSetu_initu := fun_mk (st := s_CodeSetu_initu) l_CodeSetu_initu c_CodeSetu_initu k_CodeSetu_initu
  have F_CodeSet_sample := fun_mk (st := s_CodeSet_sample) l_CodeSet_sample c_CodeSet_sample k_CodeSet_sample
  have F_CodeSetu_callu := fun_mk (st := s_CodeSetu_callu) l_CodeSetu_callu c_CodeSetu_callu k_CodeSetu_callu
  have F_check_bytes := fun_mk (st := s_check_bytes) l_check_bytes c_check_bytes k_check_bytes
  have F_span_of := fun_mk (st := s_span_of) l_span_of c_span_of k_span_of
  have F_Imageu_initu := fun_mk (st := s_Imageu_initu) l_Imageu_initu c_Imageu_initu k_Imageu_initu
  have F_Imageu_lenu := fun_mk (st := s_Imageu_lenu) l_Imageu_lenu c_Imageu_lenu k_Imageu_lenu
  have F_Imageu_iteru := fun_mk (st := s_Imageu_iteru) l_Imageu_iteru c_Imageu_iteru k_Imageu_iteru
  have F_Imageu_equ := fun_mk (st := s_Imageu_equ) l_Imageu_equ c_Imageu_equ k_Imageu_equ
  have F_Imageu_getitemu := fun_mk (st := s_Imageu_getitemu) l_Imageu_getitemu c_Imageu_getitemu k_Imageu_getitemu
  have F_Imageu_setitemu := fun_mk (st := s_Imageu_setitemu) l_Imageu_setitemu c_Imageu_setitemu k_Imageu_setitemu
  have F__law_pen := fun_mk (st := s__law_pen) l__law_pen c__law_pen k__law_pen
  have F__law_draw := fun_mk (st := s__law_draw) l__law_draw c__law_draw k__law_draw
  have F__law_pick := fun_mk (st := s__law_pick) l__law_pick c__law_pick k__law_pick
  have F__law_word := fun_mk (st := s__law_word) l__law_word c__law_word k__law_word
  have F__law_heard := fun_mk (st := s__law_heard) l__law_heard c__law_heard k__law_heard
  have F__law_cells := fun_mk (st := s__law_cells) l__law_cells c__law_cells k__law_cells
  have F__law_bytes := fun_mk (st := s__law_bytes) l__law_bytes c__law_bytes k__law_bytes
  have F__law_odd := fun_mk (st := s__law_odd) l__law_odd c__law_odd k__law_odd
  have F__law_spoilt := fun_mk (st := s__law_spoilt) l__law_spoilt c__law_spoilt k__law_spoilt
  have F__law_edge := fun_mk (st := s__law_edge) l__law_edge c__law_edge k__law_edge
  have F__law_deed := fun_mk (st := s__law_deed) l__law_deed c__law_deed k__law_deed
  have F__law_bad := fun_mk (st := s__law_bad) l__law_bad c__law_bad k__law_bad
  have F__law_due := fun_mk (st := s__law_due) l__law_due c__law_due k__law_due
  have F__law_dressed := fun_mk (st := s__law_dressed) l__law_dressed c__law_dressed k__law_dressed
  have F__law_put := fun_mk (st := s__law_put) l__law_put c__law_put k__law_put
  have F__law_done := fun_mk (st := s__law_done) l__law_done c__law_done k__law_done
  have F__law_made_right := fun_mk (st := s__law_made_right) l__law_made_right c__law_made_right k__law_made_right
  have F__law_read := fun_mk (st := s__law_read) l__law_read c__law_read k__law_read
  have F__law_read_right := fun_mk (st := s__law_read_right) l__law_read_right c__law_read_right k__law_read_right
  have F__law_unlike_right := fun_mk (st := s__law_unlike_right) l__law_unlike_right c__law_unlike_right k__law_unlike_right
  have F_law := fun_mk (st := s_law) l_law c_law k_law
  have F_BadAddressu_initu : Vc.FunS PySem.Challenge.pw_codestitch_k07_image_bytes K mg "__init__" "BadAddress.__init__" s_BadAddressu_initu f_BadAddressu_initu (PySem.W.ksFn "__init__" "BadAddress.__init__" (defArgs s_BadAddressu_initu) (defBody s_BadAddressu_initu) (defScope s_BadAddressu_initu) .none kV37 dc37 pm37 an37 (.ref cda37) ct37 cc37) C_BadAddress "self" := ⟨⟨_, _, _, _, _, _, _, _, _, _, rfl, l_BadAddressu_initu, c_BadAddressu_initu, ⟨⟨_, _, _, l_BadAddressu_initu⟩, ⟨_, rfl, rfl⟩, ⟨_, _, _, _, _, _, cl_BadAddressu_initu, cf_BadAddressu_initu, fe_BadAddressu_initu⟩, ⟨_, _, _, ce_BadAddressu_initu⟩, mrC_BadAddress, suC_BadAddress, svC_BadAddress, PySem.W.mg_none_of X G zsuper, znoop, ztop⟩⟩, k_BadAddressu_initu⟩
  have F_BadByteu_initu : Vc.FunS PySem.Challenge.pw_codestitch_k07_image_bytes K mg "__init__" "BadByte.__init__" s_BadByteu_initu f_BadByteu_initu (PySem.W.ksFn "__init__" "BadByte.__init__" (defArgs s_BadByteu_initu) (defBody s_BadByteu_initu) (defScope s_BadByteu_initu) .none kV38 dc38 pm38 an38 (.ref cda38) ct38 cc38) C_BadByte "self" := ⟨⟨_, _, _, _, _, _, _, _, _, _, rfl, l_BadByteu_initu, c_BadByteu_initu, ⟨⟨_, _, _, l_BadByteu_initu⟩, ⟨_, rfl, rfl⟩, ⟨_, _, _, _, _, _, cl_BadByteu_initu, cf_BadByteu_initu, fe_BadByteu_initu⟩, ⟨_, _, _, ce_BadByteu_initu⟩, mrC_BadByte, suC_BadByte, svC_BadByte, PySem.W.mg_none_of X G zsuper, znoop, ztop⟩⟩, k_BadByteu_initu⟩
  have F_UnlikeLengthsu_initu : Vc.FunS PySem.Challenge.pw_codestitch_k07_image_bytes K mg "__init__" "UnlikeLengths.__init__" s_UnlikeLengthsu_initu f_UnlikeLengthsu_initu (PySem.W.ksFn "__init__" "UnlikeLengths.__init__" (defArgs s_UnlikeLengthsu_initu) (defBody s_UnlikeLengthsu_initu) (defScope s_UnlikeLengthsu_initu) .none kV39 dc39 pm39 an39 (.ref cda39) ct39 cc39) C_UnlikeLengths "self" := ⟨⟨_, _, _, _, _, _, _, _, _, _, rfl, l_UnlikeLengthsu_initu, c_UnlikeLengthsu_initu, ⟨⟨_, _, _, l_UnlikeLengthsu_initu⟩, ⟨_, rfl, rfl⟩, ⟨_, _, _, _, _, _, cl_UnlikeLengthsu_initu, cf_UnlikeLengthsu_initu, fe_UnlikeLengthsu_initu⟩, ⟨_, _, _, ce_UnlikeLengthsu_initu⟩, mrC_UnlikeLengths, suC_UnlikeLengths, svC_UnlikeLengths, PySem.W.mg_none_of X G zsuper, znoop, ztop⟩⟩, k_UnlikeLengthsu_initu⟩
  have F_NotWholeu_initu : Vc.FunS PySem.Challenge.pw_codestitch_k07_image_bytes K mg "__init__" "NotWhole.__init__" s_NotWholeu_initu f_NotWholeu_initu (PySem.W.ksFn "__init__" "NotWhole.__init__" (defArgs s_NotWholeu_initu) (defBody s_NotWholeu_initu) (defScope s_NotWholeu_initu) .none kV40 dc40 pm40 an40 (.ref cda40) ct40 cc40) C_NotWhole "self" := ⟨⟨_, _, _, _, _, _, _, _, _, _, rfl, l_NotWholeu_initu, c_NotWholeu_initu, ⟨⟨_, _, _, l_NotWholeu_initu⟩, ⟨_, rfl, rfl⟩, ⟨_, _, _, _, _, _, cl_NotWholeu_initu, cf_NotWholeu_initu, fe_NotWholeu_initu⟩, ⟨_, _, _, ce_NotWholeu_initu⟩, mrC_NotWhole, suC_NotWhole, svC_NotWhole, PySem.W.mg_none_of X G zsuper, znoop, ztop⟩⟩, k_NotWholeu_initu⟩
  have T : Txt K mg { C_Form := C_Form, C_CodeSet := C_CodeSet, C_Image := C_Image, f_is_byte := f_is_byte, d_is_byte := PySem.W.fnOf "is_byte" "is_byte" (defArgs s_is_byte) (defBody s_is_byte) (defScope s_is_byte) .none kV1 dc1 pm1 an1 cd1 ct1, f_is_name := f_is_name, d_is_name := PySem.W.fnOf "is_name" "is_name" (defArgs s_is_name) (defBody s_is_name) (defScope s_is_name) .none kV2 dc2 pm2 an2 cd2 ct2, f_Formu_initu := f_Formu_initu, d_Formu_initu := PySem.W.fnOf "__init__" "Form.__init__" (defArgs s_Formu_initu) (defBody s_Formu_initu) (defScope s_Formu_initu) .none kV3 dc3 pm3 an3 cd3 ct3, f_check_forms := f_check_forms, d_check_forms := PySem.W.fnOf "check_forms" "check_forms" (defArgs s_check_forms) (defBody s_check_forms) (defScope s_check_forms) .none kV4 dc4 pm4 an4 cd4 ct4, f_CodeSetu_initu := f_CodeSetu_initu, d_CodeSetu_initu := PySem.W.fnOf "__init__" "CodeSet.__init__" (defArgs s_CodeSetu_initu) (defBody s_CodeSetu_initu) (defScope s_CodeSetu_initu) .none kV5 dc5 pm5 an5 cd5 ct5, f_CodeSet_sample := f_CodeSet_sample, d_CodeSet_sample := PySem.W.fnOf "sample" "CodeSet.sample" (defArgs s_CodeSet_sample) (defBody s_CodeSet_sample) (defScope s_CodeSet_sample) .none kV6 dc6 pm6 an6 cd6 ct6, sm_CodeSet_sample := sm6, f_CodeSetu_callu := f_CodeSetu_callu, d_CodeSetu_callu := PySem.W.fnOf "__call__" "CodeSet.__call__" (defArgs s_CodeSetu_callu) (defBody s_CodeSetu_callu) (defScope s_CodeSetu_callu) .none kV7 dc7 pm7 an7 cd7 ct7, f_check_bytes := f_check_bytes, d_check_bytes := PySem.W.fnOf "check_bytes" "check_bytes" (defArgs s_check_bytes) (defBody s_check_bytes) (defScope s_check_bytes) .none kV8 dc8 pm8 an8 cd8 ct8, f_span_of := f_span_of, d_span_of := PySem.W.fnOf "span_of" "span_of" (defArgs s_span_of) (defBody s_span_of) (defScope s_span_of) .none kV9 dc9 pm9 an9 cd9 ct9, f_Imageu_initu := f_Imageu_initu, d_Imageu_initu := PySem.W.fnOf "__init__" "Image.__init__" (defArgs s_Imageu_initu) (defBody s_Imageu_initu) (defScope s_Imageu_initu) .none kV10 dc10 pm10 an10 cd10 ct10, f_Imageu_lenu := f_Imageu_lenu, d_Imageu_lenu := PySem.W.fnOf "__len__" "Image.__len__" (defArgs s_Imageu_lenu) (defBody s_Imageu_lenu) (defScope s_Imageu_lenu) .none kV11 dc11 pm11 an11 cd11 ct11, f_Imageu_iteru := f_Imageu_iteru, d_Imageu_iteru := PySem.W.fnOf "__iter__" "Image.__iter__" (defArgs s_Imageu_iteru) (defBody s_Imageu_iteru) (defScope s_Imageu_iteru) .none kV12 dc12 pm12 an12 cd12 ct12, f_Imageu_equ := f_Imageu_equ, d_Imageu_equ := PySem.W.fnOf "__eq__" "Image.__eq__" (defArgs s_Imageu_equ) (defBody s_Imageu_equ) (defScope s_Imageu_equ) .none kV13 dc13 pm13 an13 cd13 ct13, f_Imageu_getitemu := f_Imageu_getitemu, d_Imageu_getitemu := PySem.W.fnOf "__getitem__" "Image.__getitem__" (defArgs s_Imageu_getitemu) (defBody s_Imageu_getitemu) (defScope s_Imageu_getitemu) .none kV14 dc14 pm14 an14 cd14 ct14, f_Imageu_setitemu := f_Imageu_setitemu, d_Imageu_setitemu := PySem.W.fnOf "__setitem__" "Image.__setitem__" (defArgs s_Imageu_setitemu) (defBody s_Imageu_setitemu) (defScope s_Imageu_setitemu) .none kV15 dc15 pm15 an15 cd15 ct15, f__law_pen := f__law_pen, d__law_pen := PySem.W.fnOf "_law_pen" "_law_pen" (defArgs s__law_pen) (defBody s__law_pen) (defScope s__law_pen) .none kV16 dc16 pm16 an16 cd16 ct16, f__law_draw := f__law_draw, d__law_draw := PySem.W.fnOf "_law_draw" "_law_draw" (defArgs s__law_draw) (defBody s__law_draw) (defScope s__law_draw) .none kV17 dc17 pm17 an17 cd17 ct17, f__law_pick := f__law_pick, d__law_pick := PySem.W.fnOf "_law_pick" "_law_pick" (defArgs s__law_pick) (defBody s__law_pick) (defScope s__law_pick) .none kV18 dc18 pm18 an18 cd18 ct18, f__law_word := f__law_word, d__law_word := PySem.W.fnOf "_law_word" "_law_word" (defArgs s__law_word) (defBody s__law_word) (defScope s__law_word) .none kV19 dc19 pm19 an19 cd19 ct19, f__law_heard := f__law_heard, d__law_heard := PySem.W.fnOf "_law_heard" "_law_heard" (defArgs s__law_heard) (defBody s__law_heard) (defScope s__law_heard) .none kV20 dc20 pm20 an20 cd20 ct20, f__law_cells := f__law_cells, d__law_cells := PySem.W.fnOf "_law_cells" "_law_cells" (defArgs s__law_cells) (defBody s__law_cells) (defScope s__law_cells) .none kV21 dc21 pm21 an21 cd21 ct21, f__law_bytes := f__law_bytes, d__law_bytes := PySem.W.fnOf "_law_bytes" "_law_bytes" (defArgs s__law_bytes) (defBody s__law_bytes) (defScope s__law_bytes) .none kV22 dc22 pm22 an22 cd22 ct22, f__law_odd := f__law_odd, d__law_odd := PySem.W.fnOf "_law_odd" "_law_odd" (defArgs s__law_odd) (defBody s__law_odd) (defScope s__law_odd) .none kV23 dc23 pm23 an23 cd23 ct23, f__law_spoilt := f__law_spoilt, d__law_spoilt := PySem.W.fnOf "_law_spoilt" "_law_spoilt" (defArgs s__law_spoilt) (defBody s__law_spoilt) (defScope s__law_spoilt) .none kV24 dc24 pm24 an24 cd24 ct24, f__law_edge := f__law_edge, d__law_edge := PySem.W.fnOf "_law_edge" "_law_edge" (defArgs s__law_edge) (defBody s__law_edge) (defScope s__law_edge) .none kV25 dc25 pm25 an25 cd25 ct25, f__law_deed := f__law_deed, d__law_deed := PySem.W.fnOf "_law_deed" "_law_deed" (defArgs s__law_deed) (defBody s__law_deed) (defScope s__law_deed) .none kV26 dc26 pm26 an26 cd26 ct26, f__law_bad := f__law_bad, d__law_bad := PySem.W.fnOf "_law_bad" "_law_bad" (defArgs s__law_bad) (defBody s__law_bad) (defScope s__law_bad) .none kV27 dc27 pm27 an27 cd27 ct27, f__law_due := f__law_due, d__law_due := PySem.W.fnOf "_law_due" "_law_due" (defArgs s__law_due) (defBody s__law_due) (defScope s__law_due) .none kV28 dc28 pm28 an28 cd28 ct28, f__law_dressed := f__law_dressed, d__law_dressed := PySem.W.fnOf "_law_dressed" "_law_dressed" (defArgs s__law_dressed) (defBody s__law_dressed) (defScope s__law_dressed) .none kV29 dc29 pm29 an29 cd29 ct29, f__law_put := f__law_put, d__law_put := PySem.W.fnOf "_law_put" "_law_put" (defArgs s__law_put) (defBody s__law_put) (defScope s__law_put) .none kV30 dc30 pm30 an30 cd30 ct30, f__law_done := f__law_done, d__law_done := PySem.W.fnOf "_law_done" "_law_done" (defArgs s__law_done) (defBody s__law_done) (defScope s__law_done) .none kV31 dc31 pm31 an31 cd31 ct31, f__law_made_right := f__law_made_right, d__law_made_right := PySem.W.fnOf "_law_made_right" "_law_made_right" (defArgs s__law_made_right) (defBody s__law_made_right) (defScope s__law_made_right) .none kV32 dc32 pm32 an32 cd32 ct32, f__law_read := f__law_read, d__law_read := PySem.W.fnOf "_law_read" "_law_read" (defArgs s__law_read) (defBody s__law_read) (defScope s__law_read) .none kV33 dc33 pm33 an33 cd33 ct33, f__law_read_right := f__law_read_right, d__law_read_right := PySem.W.fnOf "_law_read_right" "_law_read_right" (defArgs s__law_read_right) (defBody s__law_read_right) (defScope s__law_read_right) .none kV34 dc34 pm34 an34 cd34 ct34, f__law_unlike_right := f__law_unlike_right, d__law_unlike_right := PySem.W.fnOf "_law_unlike_right" "_law_unlike_right" (defArgs s__law_unlike_right) (defBody s__law_unlike_right) (defScope s__law_unlike_right) .none kV35 dc35 pm35 an35 cd35 ct35, f_law := fa, d_law := PySem.W.fnOf "law" "law" (defArgs s_law) (defBody s_law) (defScope s_law) .none kV36 dc36 pm36 an36 cd36 ct36, C_CodeError := C_CodeError, C_BadCodes := C_BadCodes, C_BadLayout := C_BadLayout, C_BadRewrite := C_BadRewrite, C_BadStep := C_BadStep, C_BadText := C_BadText, C_NotRight := C_NotRight, C_NoWay := C_NoWay, C_BadInput := C_BadInput, C_BadAddress := C_BadAddress, f_BadAddressu_initu := f_BadAddressu_initu, d_BadAddressu_initu := PySem.W.ksFn "__init__" "BadAddress.__init__" (defArgs s_BadAddressu_initu) (defBody s_BadAddressu_initu) (defScope s_BadAddressu_initu) .none kV37 dc37 pm37 an37 (.ref cda37) ct37 cc37, C_BadByte := C_BadByte, f_BadByteu_initu := f_BadByteu_initu, d_BadByteu_initu := PySem.W.ksFn "__init__" "BadByte.__init__" (defArgs s_BadByteu_initu) (defBody s_BadByteu_initu) (defScope s_BadByteu_initu) .none kV38 dc38 pm38 an38 (.ref cda38) ct38 cc38, C_UnlikeLengths := C_UnlikeLengths, f_UnlikeLengthsu_initu := f_UnlikeLengthsu_initu, d_UnlikeLengthsu_initu := PySem.W.ksFn "__init__" "UnlikeLengths.__init__" (defArgs s_UnlikeLengthsu_initu) (defBody s_UnlikeLengthsu_initu) (defScope s_UnlikeLengthsu_initu) .none kV39 dc39 pm39 an39 (.ref cda39) ct39 cc39, C_NotWhole := C_NotWhole, f_NotWholeu_initu := f_NotWholeu_initu, d_NotWholeu_initu := PySem.W.ksFn "__init__" "NotWhole.__init__" (defArgs s_NotWholeu_initu) (defBody s_NotWholeu_initu) (defScope s_NotWholeu_initu) .none kV40 dc40 pm40 an40 (.ref cda40) ct40 cc40, a_FLOWS := a_FLOWS } := {
    g_Form := (PySem.W.mg_of X G aC_Form),
    g_CodeSet := (PySem.W.mg_of X G aC_CodeSet),
    g_Image := (PySem.W.mg_of X G aC_Image),
    g_is_byte := (PySem.W.mg_of X G a_is_byte),
    F_is_byte := (F_is_byte),
    b_is_byte := (F_is_byte.binds (ps := ["value"]) fun _ _ _ _ _ _ us hl => match us, hl with | [_], _ => rfl),
    g_is_name := (PySem.W.mg_of X G a_is_name),
    F_is_name := (F_is_name),
    b_is_name := (F_is_name.binds (ps := ["value"]) fun _ _ _ _ _ _ us hl => match us, hl with | [_], _ => rfl),
    F_Formu_initu := (F_Formu_initu),
    b_Formu_initu := (F_Formu_initu.binds (ps := ["self", "name", "length", "flow"]) fun _ _ _ _ _ _ us hl => match us, hl with | [_, _, _, _], _ => rfl),
    g_check_forms := (PySem.W.mg_of X G a_check_forms),
    F_check_forms := (F_check_forms),
    b_check_forms := (F_check_forms.binds (ps := ["stop", "forms"]) fun _ _ _ _ _ _ us hl => match us, hl with | [_, _], _ => rfl),
    F_CodeSetu_initu := (F_CodeSetu_initu),
    b_CodeSetu_initu := (F_CodeSetu_initu.binds (ps := ["self", "stop", "forms"]) fun _ _ _ _ _ _ us hl => match us, hl with | [_, _, _], _ => rfl),
    sm_CodeSet_sample := (⟨sma_CodeSet_sample, ⟨_, smr_CodeSet_sample⟩, k_CodeSet_sample⟩),
    F_CodeSet_sample := (F_CodeSet_sample),
    b_CodeSet_sample := (F_CodeSet_sample.binds (ps := []) fun _ _ _ _ _ _ us hl => match us, hl with | [], _ => rfl),
    F_CodeSetu_callu := (F_CodeSetu_callu),
    b_CodeSetu_callu := (F_CodeSetu_callu.binds (ps := ["self", "values", "at"]) fun _ _ _ _ _ _ us hl => match us, hl with | [_, _, _], _ => rfl),
    g_check_bytes := (PySem.W.mg_of X G a_check_bytes),
    F_check_bytes := (F_check_bytes),
    b_check_bytes := (F_check_bytes.binds (ps := ["values"]) fun _ _ _ _ _ _ us hl => match us, hl with | [_], _ => rfl),
    g_span_of := (PySem.W.mg_of X G a_span_of),
    F_span_of := (F_span_of),
    b_span_of := (F_span_of.binds (ps := ["at", "size"]) fun _ _ _ _ _ _ us hl => match us, hl with | [_, _], _ => rfl),
    F_Imageu_initu := (F_Imageu_initu),
    b_Imageu_initu := (F_Imageu_initu.binds (ps := ["self", "values"]) fun _ _ _ _ _ _ us hl => match us, hl with | [_, _], _ => rfl),
    F_Imageu_lenu := (F_Imageu_lenu),
    b_Imageu_lenu := (F_Imageu_lenu.binds (ps := ["self"]) fun _ _ _ _ _ _ us hl => match us, hl with | [_], _ => rfl),
    F_Imageu_iteru := (F_Imageu_iteru),
    b_Imageu_iteru := (F_Imageu_iteru.binds (ps := ["self"]) fun _ _ _ _ _ _ us hl => match us, hl with | [_], _ => rfl),
    F_Imageu_equ := (F_Imageu_equ),
    b_Imageu_equ := (F_Imageu_equ.binds (ps := ["self", "other"]) fun _ _ _ _ _ _ us hl => match us, hl with | [_, _], _ => rfl),
    F_Imageu_getitemu := (F_Imageu_getitemu),
    b_Imageu_getitemu := (F_Imageu_getitemu.binds (ps := ["self", "at"]) fun _ _ _ _ _ _ us hl => match us, hl with | [_, _], _ => rfl),
    F_Imageu_setitemu := (F_Imageu_setitemu),
    b_Imageu_setitemu := (F_Imageu_setitemu.binds (ps := ["self", "at", "worth"]) fun _ _ _ _ _ _ us hl => match us, hl with | [_, _, _], _ => rfl),
    g__law_pen := (PySem.W.mg_of X G a__law_pen),
    F__law_pen := (F__law_pen),
    b__law_pen := (F__law_pen.binds (ps := ["_law_script"]) fun _ _ _ _ _ _ us hl => match us, hl with | [_], _ => rfl),
    g__law_draw := (PySem.W.mg_of X G a__law_draw),
    F__law_draw := (F__law_draw),
    b__law_draw := (F__law_draw.binds (ps := ["_law_pen_here", "_law_many"]) fun _ _ _ _ _ _ us hl => match us, hl with | [_, _], _ => rfl),
    g__law_pick := (PySem.W.mg_of X G a__law_pick),
    F__law_pick := (F__law_pick),
    b__law_pick := (F__law_pick.binds (ps := ["_law_pen_here", "_law_some"]) fun _ _ _ _ _ _ us hl => match us, hl with | [_, _], _ => rfl),
    g__law_word := (PySem.W.mg_of X G a__law_word),
    F__law_word := (F__law_word),
    b__law_word := (F__law_word.binds (ps := ["_law_error"]) fun _ _ _ _ _ _ us hl => match us, hl with | [_], _ => rfl),
    g__law_heard := (PySem.W.mg_of X G a__law_heard),
    F__law_heard := (F__law_heard),
    b__law_heard := (F__law_heard.binds (ps := ["_law_asked"]) fun _ _ _ _ _ _ us hl => match us, hl with | [_], _ => rfl),
    g__law_cells := (PySem.W.mg_of X G a__law_cells),
    F__law_cells := (F__law_cells),
    b__law_cells := (F__law_cells.binds (ps := ["_law_row"]) fun _ _ _ _ _ _ us hl => match us, hl with | [_], _ => rfl),
    g__law_bytes := (PySem.W.mg_of X G a__law_bytes),
    F__law_bytes := (F__law_bytes),
    b__law_bytes := (F__law_bytes.binds (ps := ["_law_pen_here", "_law_many"]) fun _ _ _ _ _ _ us hl => match us, hl with | [_, _], _ => rfl),
    g__law_odd := (PySem.W.mg_of X G a__law_odd),
    F__law_odd := (F__law_odd),
    b__law_odd := (F__law_odd.binds (ps := ["_law_pen_here"]) fun _ _ _ _ _ _ us hl => match us, hl with | [_], _ => rfl),
    g__law_spoilt := (PySem.W.mg_of X G a__law_spoilt),
    F__law_spoilt := (F__law_spoilt),
    b__law_spoilt := (F__law_spoilt.binds (ps := ["_law_pen_here", "_law_values"]) fun _ _ _ _ _ _ us hl => match us, hl with | [_, _], _ => rfl),
    g__law_edge := (PySem.W.mg_of X G a__law_edge),
    F__law_edge := (F__law_edge),
    b__law_edge := (F__law_edge.binds (ps := ["_law_pen_here", "_law_size"]) fun _ _ _ _ _ _ us hl => match us, hl with | [_, _], _ => rfl),
    g__law_deed := (PySem.W.mg_of X G a__law_deed),
    F__law_deed := (F__law_deed),
    b__law_deed := (F__law_deed.binds (ps := ["_law_pen_here", "_law_size"]) fun _ _ _ _ _ _ us hl => match us, hl with | [_, _], _ => rfl),
    g__law_bad := (PySem.W.mg_of X G a__law_bad),
    F__law_bad := (F__law_bad),
    b__law_bad := (F__law_bad.binds (ps := ["_law_values"]) fun _ _ _ _ _ _ us hl => match us, hl with | [_], _ => rfl),
    g__law_due := (PySem.W.mg_of X G a__law_due),
    F__law_due := (F__law_due),
    b__law_due := (F__law_due.binds (ps := ["_law_cells_here", "_law_at", "_law_values"]) fun _ _ _ _ _ _ us hl => match us, hl with | [_, _, _], _ => rfl),
    g__law_dressed := (PySem.W.mg_of X G a__law_dressed),
    F__law_dressed := (F__law_dressed),
    b__law_dressed := (F__law_dressed.binds (ps := ["_law_pen_here", "_law_values"]) fun _ _ _ _ _ _ us hl => match us, hl with | [_, _], _ => rfl),
    g__law_put := (PySem.W.mg_of X G a__law_put),
    F__law_put := (F__law_put),
    b__law_put := (F__law_put.binds (ps := ["_law_image", "_law_at", "_law_values"]) fun _ _ _ _ _ _ us hl => match us, hl with | [_, _, _], _ => rfl),
    g__law_done := (PySem.W.mg_of X G a__law_done),
    F__law_done := (F__law_done),
    b__law_done := (F__law_done.binds (ps := ["_law_pen_here", "_law_image", "_law_at", "_law_values"]) fun _ _ _ _ _ _ us hl => match us, hl with | [_, _, _, _], _ => rfl),
    g__law_made_right := (PySem.W.mg_of X G a__law_made_right),
    F__law_made_right := (F__law_made_right),
    b__law_made_right := (F__law_made_right.binds (ps := ["_law_pen_here", "_law_cells_here"]) fun _ _ _ _ _ _ us hl => match us, hl with | [_, _], _ => rfl),
    g__law_read := (PySem.W.mg_of X G a__law_read),
    F__law_read := (F__law_read),
    b__law_read := (F__law_read.binds (ps := ["_law_book", "_law_row", "_law_at"]) fun _ _ _ _ _ _ us hl => match us, hl with | [_, _, _], _ => rfl),
    g__law_read_right := (PySem.W.mg_of X G a__law_read_right),
    F__law_read_right := (F__law_read_right),
    b__law_read_right := (F__law_read_right.binds (ps := ["_law_cells_here", "_law_image"]) fun _ _ _ _ _ _ us hl => match us, hl with | [_, _], _ => rfl),
    g__law_unlike_right := (PySem.W.mg_of X G a__law_unlike_right),
    F__law_unlike_right := (F__law_unlike_right),
    b__law_unlike_right := (F__law_unlike_right.binds (ps := ["_law_cells_here", "_law_image"]) fun _ _ _ _ _ _ us hl => match us, hl with | [_, _], _ => rfl),
    g_law := (PySem.W.mg_of X G a_law),
    F_law := (F_law),
    b_law := (F_law.binds (ps := ["_law_script"]) fun _ _ _ _ _ _ us hl => match us, hl with | [_], _ => rfl),
    cl_Form := (⟨pg_Form, hd_Form, po_Form, sa_Form⟩),
    mk_Form := (⟨mk_Form, a_Formu_initu, i_Formu_initu, kc_Form⟩),
    no_Form_name := (no_Form_name),
    no_Form_length := (no_Form_length),
    no_Form_flow := (no_Form_flow),
    cl_CodeSet := (⟨pg_CodeSet, hd_CodeSet, po_CodeSet, sa_CodeSet⟩),
    mk_CodeSet := (⟨mk_CodeSet, a_CodeSetu_initu, i_CodeSetu_initu, kc_CodeSet⟩),
    no_CodeSet_stop := (no_CodeSet_stop),
    no_CodeSet_order := (no_CodeSet_order),
    no_CodeSet_table := (no_CodeSet_table),
    cl_Image := (⟨pg_Image, hd_Image, po_Image, sa_Image⟩),
    mk_Image := (⟨mk_Image, a_Imageu_initu, i_Imageu_initu, kc_Image⟩),
    no_Image_cells := (no_Image_cells),
    n_len := (PySem.W.mg_none_of X G z_len),
    n_abs := (PySem.W.mg_none_of X G z_abs),
    n_int := (PySem.W.mg_none_of X G z_int),
    n_list := (PySem.W.mg_none_of X G z_list),
    n_range := (PySem.W.mg_none_of X G z_range),
    n_isinstance := (PySem.W.mg_none_of X G z_isinstance),
    n_bool := (PySem.W.mg_none_of X G z_bool),
    n_str := (PySem.W.mg_none_of X G z_str),
    n_tuple := (PySem.W.mg_none_of X G z_tuple),
    n_all := (PySem.W.mg_none_of X G z_all),
    n_set := (PySem.W.mg_none_of X G z_set),
    n_sorted := (PySem.W.mg_none_of X G z_sorted),
    n_ValueError := (PySem.W.mg_none_of X G z_ValueError),
    n_repr := (PySem.W.mg_none_of X G z_repr),
    n_max := (PySem.W.mg_none_of X G z_max),
    n_min := (PySem.W.mg_none_of X G z_min),
    n_iter := (PySem.W.mg_none_of X G z_iter),
    n_enumerate := (PySem.W.mg_none_of X G z_enumerate),
    g_LETTERS := (⟨_, PySem.W.mg_of X G v_LETTERS⟩),
    g_CodeError := (PySem.W.mg_of X G aC_CodeError),
    g_BadCodes := (PySem.W.mg_of X G aC_BadCodes),
    g_BadLayout := (PySem.W.mg_of X G aC_BadLayout),
    g_BadRewrite := (PySem.W.mg_of X G aC_BadRewrite),
    g_BadStep := (PySem.W.mg_of X G aC_BadStep),
    g_BadText := (PySem.W.mg_of X G aC_BadText),
    g_NotRight := (PySem.W.mg_of X G aC_NotRight),
    g_NoWay := (PySem.W.mg_of X G aC_NoWay),
    g_BadInput := (PySem.W.mg_of X G aC_BadInput),
    g_BadAddress := (PySem.W.mg_of X G aC_BadAddress),
    ox_BadAddress := (⟨⟨_, _, _, _, _, _, _, _, _, _, _, _, _, _, _, lkC_BadAddress, bmC_BadAddress⟩, saC_BadAddress, exC_BadAddress, tyC_BadAddress, kpC_BadAddress⟩),
    i_BadAddress := (inC_BadAddress),
    ti_BadAddress := (tiC_BadAddress),
    no_BadAddress_at := (noC_BadAddress_at),
    xf_BadAddress := (⟨gaC_BadAddress, ggC_BadAddress, exC_BadAddress, hdC_BadAddress⟩),
    ec_BadAddress := (⟨gaC_BadAddress, ggC_BadAddress, exC_BadAddress, hdC_BadAddress, gcC_BadAddress, zgcn, zgct, moC_BadAddress⟩),
    F_BadAddressu_initu := (F_BadAddressu_initu),
    b_BadAddressu_initu := (F_BadAddressu_initu.binds (ps := ["self", "at"]) fun _ _ _ _ _ _ _ us hl => match us, hl with | [_, _], _ => rfl),
    g_BadByte := (PySem.W.mg_of X G aC_BadByte),
    ox_BadByte := (⟨⟨_, _, _, _, _, _, _, _, _, _, _, _, _, _, _, lkC_BadByte, bmC_BadByte⟩, saC_BadByte, exC_BadByte, tyC_BadByte, kpC_BadByte⟩),
    i_BadByte := (inC_BadByte),
    ti_BadByte := (tiC_BadByte),
    no_BadByte_at := (noC_BadByte_at),
    xf_BadByte := (⟨gaC_BadByte, ggC_BadByte, exC_BadByte, hdC_BadByte⟩),
    ec_BadByte := (⟨gaC_BadByte, ggC_BadByte, exC_BadByte, hdC_BadByte, gcC_BadByte, zgcn, zgct, moC_BadByte⟩),
    F_BadByteu_initu := (F_BadByteu_initu),
    b_BadByteu_initu := (F_BadByteu_initu.binds (ps := ["self", "at"]) fun _ _ _ _ _ _ _ us hl => match us, hl with | [_, _], _ => rfl),
    g_UnlikeLengths := (PySem.W.mg_of X G aC_UnlikeLengths),
    ox_UnlikeLengths := (⟨⟨_, _, _, _, _, _, _, _, _, _, _, _, _, _, _, lkC_UnlikeLengths, bmC_UnlikeLengths⟩, saC_UnlikeLengths, exC_UnlikeLengths, tyC_UnlikeLengths, kpC_UnlikeLengths⟩),
    i_UnlikeLengths := (inC_UnlikeLengths),
    ti_UnlikeLengths := (tiC_UnlikeLengths),
    no_UnlikeLengths_one := (noC_UnlikeLengths_one),
    no_UnlikeLengths_other := (noC_UnlikeLengths_other),
    xf_UnlikeLengths := (⟨gaC_UnlikeLengths, ggC_UnlikeLengths, exC_UnlikeLengths, hdC_UnlikeLengths⟩),
    ec_UnlikeLengths := (⟨gaC_UnlikeLengths, ggC_UnlikeLengths, exC_UnlikeLengths, hdC_UnlikeLengths, gcC_UnlikeLengths, zgcn, zgct, moC_UnlikeLengths⟩),
    F_UnlikeLengthsu_initu := (F_UnlikeLengthsu_initu),
    b_UnlikeLengthsu_initu := (F_UnlikeLengthsu_initu.binds (ps := ["self", "one", "other"]) fun _ _ _ _ _ _ _ us hl => match us, hl with | [_, _, _], _ => rfl),
    g_NotWhole := (PySem.W.mg_of X G aC_NotWhole),
    ox_NotWhole := (⟨⟨_, _, _, _, _, _, _, _, _, _, _, _, _, _, _, lkC_NotWhole, bmC_NotWhole⟩, saC_NotWhole, exC_NotWhole, tyC_NotWhole, kpC_NotWhole⟩),
    i_NotWhole := (inC_NotWhole),
    ti_NotWhole := (tiC_NotWhole),
    no_NotWhole_place := (noC_NotWhole_place),
    xf_NotWhole := (⟨gaC_NotWhole, ggC_NotWhole, exC_NotWhole, hdC_NotWhole⟩),
    ec_NotWhole := (⟨gaC_NotWhole, ggC_NotWhole, exC_NotWhole, hdC_NotWhole, gcC_NotWhole, zgcn, zgct, moC_NotWhole⟩),
    F_NotWholeu_initu := (F_NotWholeu_initu),
    b_NotWholeu_initu := (F_NotWholeu_initu.binds (ps := ["self", "place"]) fun _ _ _ _ _ _ _ us hl => match us, hl with | [_, _], _ => rfl),
    kit_BadAddress_BadAddress := (kit_BadAddress_BadAddress),
    kit_BadAddress_BadByte := (kit_BadAddress_BadByte),
    kit_BadAddress_UnlikeLengths := (kit_BadAddress_UnlikeLengths),
    kit_BadAddress_BadCodes := (kit_BadAddress_BadCodes),
    kit_BadAddress_BadLayout := (kit_BadAddress_BadLayout),
    kit_BadAddress_BadRewrite := (kit_BadAddress_BadRewrite),
    kit_BadAddress_BadStep := (kit_BadAddress_BadStep),
    kit_BadAddress_BadText := (kit_BadAddress_BadText),
    kit_BadAddress_NotRight := (kit_BadAddress_NotRight),
    kit_BadAddress_NoWay := (kit_BadAddress_NoWay),
    kit_BadAddress_BadInput := (kit_BadAddress_BadInput),
    kit_BadAddress_ValueError := (kit_BadAddress_ValueError),
    kit_BadByte_BadAddress := (kit_BadByte_BadAddress),
    kit_BadByte_BadByte := (kit_BadByte_BadByte),
    kit_BadByte_UnlikeLengths := (kit_BadByte_UnlikeLengths),
    kit_BadByte_BadCodes := (kit_BadByte_BadCodes),
    kit_BadByte_BadLayout := (kit_BadByte_BadLayout),
    kit_BadByte_BadRewrite := (kit_BadByte_BadRewrite),
    kit_BadByte_BadStep := (kit_BadByte_BadStep),
    kit_BadByte_BadText := (kit_BadByte_BadText),
    kit_BadByte_NotRight := (kit_BadByte_NotRight),
    kit_BadByte_NoWay := (kit_BadByte_NoWay),
    kit_BadByte_BadInput := (kit_BadByte_BadInput),
    kit_BadByte_ValueError := (kit_BadByte_ValueError),
    kit_UnlikeLengths_BadAddress := (kit_UnlikeLengths_BadAddress),
    kit_UnlikeLengths_BadByte := (kit_UnlikeLengths_BadByte),
    kit_UnlikeLengths_UnlikeLengths := (kit_UnlikeLengths_UnlikeLengths),
    kit_UnlikeLengths_BadCodes := (kit_UnlikeLengths_BadCodes),
    kit_UnlikeLengths_BadLayout := (kit_UnlikeLengths_BadLayout),
    kit_UnlikeLengths_BadRewrite := (kit_UnlikeLengths_BadRewrite),
    kit_UnlikeLengths_BadStep := (kit_UnlikeLengths_BadStep),
    kit_UnlikeLengths_BadText := (kit_UnlikeLengths_BadText),
    kit_UnlikeLengths_NotRight := (kit_UnlikeLengths_NotRight),
    kit_UnlikeLengths_NoWay := (kit_UnlikeLengths_NoWay),
    kit_UnlikeLengths_BadInput := (kit_UnlikeLengths_BadInput),
    kit_UnlikeLengths_ValueError := (kit_UnlikeLengths_ValueError),
    kit_Image_list := (kit_Image_list),
    exm_BadAddress_CodeError := (exm_BadAddress_CodeError),
    exm_BadByte_CodeError := (exm_BadByte_CodeError),
    exm_UnlikeLengths_CodeError := (exm_UnlikeLengths_CodeError),
    exm_NotWhole_NotWhole := (exm_NotWhole_NotWhole),
    ic_Image := (⟨⟨pg_Image, hd_Image, po_Image, sa_Image⟩, icc_Image, zgcn, zgct, icm_Image, kit_Image_Image⟩),
    eq_Image := (⟨a_Imageu_equ, i_Imageu_equ⟩),
    ne_Image := (⟨⟨a_Imageu_equ, i_Imageu_equ⟩, nee_Image, icm_Image⟩),
    kt_NoneType_Image := (kit_NoneType_Image),
    kt_bool_Image := (kit_bool_Image),
    kt_int_Image := (kit_int_Image),
    kt_str_Image := (kit_str_Image),
    kt_list_Image := (kit_list_Image),
    kt_tuple_Image := (kit_tuple_Image),
    nf_Image_Image := (nf_Image_Image),
    nf_NoneType_Image := (nf_NoneType_Image),
    nf_bool_Image := (nf_bool_Image),
    nf_int_Image := (nf_int_Image),
    nf_str_Image := (nf_str_Image),
    nf_list_Image := (nf_list_Image),
    nf_tuple_Image := (nf_tuple_Image),
    nsq_Image := (nsq_Image),
    sp_Image_Imageu_iteru := (⟨a_Imageu_iteru, i_Imageu_iteru⟩),
    sp_Image_Imageu_lenu := (⟨a_Imageu_lenu, i_Imageu_lenu⟩),
    sp_Image_Imageu_getitemu := (⟨a_Imageu_getitemu, i_Imageu_getitemu⟩),
    spf_Imageu_getitemu := (spi_Imageu_getitemu),
    sp_Image_Imageu_setitemu := (⟨a_Imageu_setitemu, i_Imageu_setitemu⟩),
    co_CodeSet := (⟨a_CodeSetu_callu, i_CodeSetu_callu, coi_CodeSet⟩),
    cr_Form := (⟨rd_Form, gat_Form⟩),
    cr_CodeSet := (⟨rd_CodeSet, gat_CodeSet⟩),
    cv_FLOWS := (⟨cvF, rfl⟩),
    q_FLOWS := (fun H => .inr ⟨_, _, _, lkF, rfl, rfl, by show 4 ≤ sizeLine; decide, .cons ⟨_, rfl⟩ (.cons ⟨_, rfl⟩ (.cons ⟨_, rfl⟩ (.cons ⟨_, rfl⟩ .nil)))⟩),
    cv_MOST := (⟨_, cvM, _, rfl⟩) }
  exact ⟨PySem.W.fnOf "law" "law" (defArgs s_law) (defBody s_law) (defScope s_law) .none kV36 dc36 pm36 an36 cd36 ct36, fun s v => .of_eq rfl, fun base _ _ hTB => ok_law T ⟨Vc.lamB_co lam__law_done, hTB (cl__law_done, Pl__law_done) (by simp), by simp, (Vc.un2 lne__law_done__law_made_right).1⟩ ⟨Vc.lamB_co lam__law_made_right, hTB (cl__law_made_right, Pl__law_made_right) (by simp), by simp, (Vc.un2 lne__law_done__law_made_right).2⟩⟩
def TbN : List (Addr × Str) := [(608, ((("_law_done" : Str) ++ (".<locals>." : Str)) ++ ("<lambda>" : Str))), (615, ((("_law_made_right" : Str) ++ (".<locals>." : Str)) ++ ("<lambda>" : Str)))]
theorem all_mk2 {w : World} {K : PySem.W.Frag} {h : Heap} {mg : Str → Option Value} {fa : Addr} (X : K.In h) (G : h.Ns mainGlobals mg) (hfa : mg "law" = some (.ref fa)) (c : Hx.chk faN K = true) (E : fnN.map (Hx.fnQ K) = fnN.map Hx.Dq.val) :
    (∀ p ∈ csN, ∃ (y : Str) (f : Addr), ((recsOf qv).any fun e => e.name == y) = true ∧ mg y = some (.ref f) ∧ Vc.lamB K f p.1 p.2 = true) ∧ ∃ fd : FuncData, (∀ (s : Shared) (v : Value), BindsTo s fd ⟨[v], []⟩ [("_law_script", v)]) ∧ ∀ base : Heap, K.In base → base.Ns mainGlobals mg → (∀ p ∈ csN, LamX.TabB base mg p.1 p.2) → Vc.FnG PySem.Challenge.pw_codestitch_k07_image_bytes w K mg base CX0 16 fa fd ["_law_script"] (spLaw K TbN) := by
  obtain ⟨B0, c⟩ := Hx.chk_app c
  obtain ⟨B1, c⟩ := Hx.chk_app c
  obtain ⟨B2, c⟩ := Hx.chk_app c
  obtain ⟨B3, c⟩ := Hx.chk_app c
  obtain ⟨B4, c⟩ := Hx.chk_app c
  obtain ⟨B5, c⟩ := Hx.chk_app c
  obtain ⟨B6, c⟩ := Hx.chk_app c
  obtain ⟨B7, c⟩ := Hx.chk_app c
  have B8 : Hx.chk fa8 K = true := c
  have aC_Form : PySem.W.nsIn K mainGlobals "Form" = some (some (.ref 303)) := of_decide_eq_true (Hx.fact B0 0 rfl)
  have aC_CodeSet : PySem.W.nsIn K mainGlobals "CodeSet" = some (some (.ref 391)) := of_decide_eq_true (Hx.fact B0 1 rfl)
  have aC_Image : PySem.W.nsIn K mainGlobals "Image" = some (some (.ref 499)) := of_decide_eq_true (Hx.fact B0 2 rfl)
  have a_is_byte : PySem.W.nsIn K mainGlobals "is_byte" = some (some (.ref 266)) := of_decide_eq_true (Hx.fact B0 3 rfl)
  obtain ⟨oc1, kV1, dc1, pm1, cd1, ct1, od1, an1, sl1, l_is_byte, c_is_byte⟩ := Hx.plain_ok (Hx.at_map E 0 rfl) (Hx.fact B0 4 rfl)
  have k_is_byte : PySem.W.keepIn K (.ref 266) = true := (Hx.fact B0 5 rfl)
  have a_is_name : PySem.W.nsIn K mainGlobals "is_name" = some (some (.ref 271)) := of_decide_eq_true (Hx.fact B0 6 rfl)
  obtain ⟨oc2, kV2, dc2, pm2, cd2, ct2, od2, an2, sl2, l_is_name, c_is_name⟩ := Hx.plain_ok (Hx.at_map E 1 rfl) (Hx.fact B0 7 rfl)
  have k_is_name : PySem.W.keepIn K (.ref 271) = true := (Hx.fact B0 8 rfl)
  have a_Formu_initu : PySem.W.findIn K (.ref 303) "__init__" = some (some (.ref 286)) := of_decide_eq_true (Hx.fact B0 9 rfl)
  have i_Formu_initu : PySem.W.isFn K (.ref 286) = true := (Hx.fact B0 10 rfl)
  obtain ⟨oc3, kV3, dc3, pm3, cd3, ct3, od3, an3, sl3, l_Formu_initu, c_Formu_initu⟩ := Hx.plain_ok (Hx.at_map E 2 rfl) (Hx.fact B0 11 rfl)
  have k_Formu_initu : PySem.W.keepIn K (.ref 286) = true := (Hx.fact B0 12 rfl)
  have a_check_forms : PySem.W.nsIn K mainGlobals "check_forms" = some (some (.ref 312)) := of_decide_eq_true (Hx.fact B0 13 rfl)
  obtain ⟨oc4, kV4, dc4, pm4, cd4, ct4, od4, an4, sl4, l_check_forms, c_check_forms⟩ := Hx.plain_ok (Hx.at_map E 3 rfl) (Hx.fact B0 14 rfl)
  have k_check_forms : PySem.W.keepIn K (.ref 312) = true := (Hx.fact B0 15 rfl)
  have a_CodeSetu_initu : PySem.W.findIn K (.ref 391) "__init__" = some (some (.ref 324)) := of_decide_eq_true (Hx.fact B0 16 rfl)
  have i_CodeSetu_initu : PySem.W.isFn K (.ref 324) = true := (Hx.fact B0 17 rfl)
  obtain ⟨oc5, kV5, dc5, pm5, cd5, ct5, od5, an5, sl5, l_CodeSetu_initu, c_CodeSetu_initu⟩ := Hx.plain_ok (Hx.at_map E 4 rfl) (Hx.fact B0 18 rfl)
  have k_CodeSetu_initu : PySem.W.keepIn K (.ref 324) = true := (Hx.fact B0 19 rfl)
  have sma_CodeSet_sample : PySem.W.findCls K (.ref 391) (.type "type") "sample" = some (.get (.builtin "staticmethod.__get__") (.ref 333) .none (.ref 391)) := Hx.fcS_ok (Hx.fact B0 20 rfl)
  obtain ⟨rst6, smr_CodeSet_sample⟩ := Hx.rec1_ok (Hx.fact B0 21 rfl)
  obtain ⟨oc6, kV6, dc6, pm6, cd6, ct6, od6, an6, sl6, l_CodeSet_sample, c_CodeSet_sample⟩ := Hx.plain_ok (Hx.at_map E 5 rfl) (Hx.fact B0 22 rfl)
  have k_CodeSet_sample : PySem.W.keepIn K (.ref 331) = true := (Hx.fact B0 23 rfl)
  have a_CodeSetu_callu : PySem.W.findIn K (.ref 391) "__call__" = some (some (.ref 381)) := of_decide_eq_true (Hx.fact B0 24 rfl)
  have i_CodeSetu_callu : PySem.W.isFn K (.ref 381) = true := (Hx.fact B0 25 rfl)
  obtain ⟨oc7, kV7, dc7, pm7, cd7, ct7, od7, an7, sl7, l_CodeSetu_callu, c_CodeSetu_callu⟩ := Hx.plain_ok (Hx.at_map E 6 rfl) (Hx.fact B0 26 rfl)
  have k_CodeSetu_callu : PySem.W.keepIn K (.ref 381) = true := (Hx.fact B0 27 rfl)
  have a_check_bytes : PySem.W.nsIn K mainGlobals "check_bytes" = some (some (.ref 402)) := of_decide_eq_true (Hx.fact B0 28 rfl)
  obtain ⟨oc8, kV8, dc8, pm8, cd8, ct8, od8, an8, sl8, l_check_bytes, c_check_bytes⟩ := Hx.plain_ok (Hx.at_map E 7 rfl) (Hx.fact B0 29 rfl)
  have k_check_bytes : PySem.W.keepIn K (.ref 402) = true := (Hx.fact B0 30 rfl)
  have a_span_of : PySem.W.nsIn K mainGlobals "span_of" = some (some (.ref 409)) := of_decide_eq_true (Hx.fact B0 31 rfl)
  obtain ⟨oc9, kV9, dc9, pm9, cd9, ct9, od9, an9, sl9, l_span_of, c_span_of⟩ := Hx.plain_ok (Hx.at_map E 8 rfl) (Hx.fact B0 32 rfl)
  have k_span_of : PySem.W.keepIn K (.ref 409) = true := (Hx.fact B0 33 rfl)
  have a_Imageu_initu : PySem.W.findIn K (.ref 499) "__init__" = some (some (.ref 428)) := of_decide_eq_true (Hx.fact B0 34 rfl)
  have i_Imageu_initu : PySem.W.isFn K (.ref 428) = true := (Hx.fact B0 35 rfl)
  obtain ⟨oc10, kV10, dc10, pm10, cd10, ct10, od10, an10, sl10, l_Imageu_initu, c_Imageu_initu⟩ := Hx.plain_ok (Hx.at_map E 9 rfl) (Hx.fact B0 36 rfl)
  have k_Imageu_initu : PySem.W.keepIn K (.ref 428) = true := (Hx.fact B0 37 rfl)
  have a_Imageu_lenu : PySem.W.findIn K (.ref 499) "__len__" = some (some (.ref 435)) := of_decide_eq_true (Hx.fact B0 38 rfl)
  have i_Imageu_lenu : PySem.W.isFn K (.ref 435) = true := (Hx.fact B0 39 rfl)
  obtain ⟨oc11, kV11, dc11, pm11, cd11, ct11, od11, an11, sl11, l_Imageu_lenu, c_Imageu_lenu⟩ := Hx.plain_ok (Hx.at_map E 10 rfl) (Hx.fact B1 0 rfl)
  have k_Imageu_lenu : PySem.W.keepIn K (.ref 435) = true := (Hx.fact B1 1 rfl)
  have a_Imageu_iteru : PySem.W.findIn K (.ref 499) "__iter__" = some (some (.ref 442)) := of_decide_eq_true (Hx.fact B1 2 rfl)
  have i_Imageu_iteru : PySem.W.isFn K (.ref 442) = true := (Hx.fact B1 3 rfl)
  obtain ⟨oc12, kV12, dc12, pm12, cd12, ct12, od12, an12, sl12, l_Imageu_iteru, c_Imageu_iteru⟩ := Hx.plain_ok (Hx.at_map E 11 rfl) (Hx.fact B1 4 rfl)
  have k_Imageu_iteru : PySem.W.keepIn K (.ref 442) = true := (Hx.fact B1 5 rfl)
  have a_Imageu_equ : PySem.W.findIn K (.ref 499) "__eq__" = some (some (.ref 449)) := of_decide_eq_true (Hx.fact B1 6 rfl)
  have i_Imageu_equ : PySem.W.isFn K (.ref 449) = true := (Hx.fact B1 7 rfl)
  obtain ⟨oc13, kV13, dc13, pm13, cd13, ct13, od13, an13, sl13, l_Imageu_equ, c_Imageu_equ⟩ := Hx.plain_ok (Hx.at_map E 12 rfl) (Hx.fact B1 8 rfl)
  have k_Imageu_equ : PySem.W.keepIn K (.ref 449) = true := (Hx.fact B1 9 rfl)
  have a_Imageu_getitemu : PySem.W.findIn K (.ref 499) "__getitem__" = some (some (.ref 456)) := of_decide_eq_true (Hx.fact B1 10 rfl)
  have i_Imageu_getitemu : PySem.W.isFn K (.ref 456) = true := (Hx.fact B1 11 rfl)
  obtain ⟨oc14, kV14, dc14, pm14, cd14, ct14, od14, an14, sl14, l_Imageu_getitemu, c_Imageu_getitemu⟩ := Hx.plain_ok (Hx.at_map E 13 rfl) (Hx.fact B1 12 rfl)
  have k_Imageu_getitemu : PySem.W.keepIn K (.ref 456) = true := (Hx.fact B1 13 rfl)
  have a_Imageu_setitemu : PySem.W.findIn K (.ref 499) "__setitem__" = some (some (.ref 463)) := of_decide_eq_true (Hx.fact B1 14 rfl)
  have i_Imageu_setitemu : PySem.W.isFn K (.ref 463) = true := (Hx.fact B1 15 rfl)
  obtain ⟨oc15, kV15, dc15, pm15, cd15, ct15, od15, an15, sl15, l_Imageu_setitemu, c_Imageu_setitemu⟩ := Hx.plain_ok (Hx.at_map E 14 rfl) (Hx.fact B1 16 rfl)
  have k_Imageu_setitemu : PySem.W.keepIn K (.ref 463) = true := (Hx.fact B1 17 rfl)
  have a__law_pen : PySem.W.nsIn K mainGlobals "_law_pen" = some (some (.ref 510)) := of_decide_eq_true (Hx.fact B1 18 rfl)
  obtain ⟨oc16, kV16, dc16, pm16, cd16, ct16, od16, an16, sl16, l__law_pen, c__law_pen⟩ := Hx.plain_ok (Hx.at_map E 15 rfl) (Hx.fact B1 19 rfl)
  have k__law_pen : PySem.W.keepIn K (.ref 510) = true := (Hx.fact B1 20 rfl)
  have a__law_draw : PySem.W.nsIn K mainGlobals "_law_draw" = some (some (.ref 517)) := of_decide_eq_true (Hx.fact B1 21 rfl)
  obtain ⟨oc17, kV17, dc17, pm17, cd17, ct17, od17, an17, sl17, l__law_draw, c__law_draw⟩ := Hx.plain_ok (Hx.at_map E 16 rfl) (Hx.fact B1 22 rfl)
  have k__law_draw : PySem.W.keepIn K (.ref 517) = true := (Hx.fact B1 23 rfl)
  have a__law_pick : PySem.W.nsIn K mainGlobals "_law_pick" = some (some (.ref 524)) := of_decide_eq_true (Hx.fact B1 24 rfl)
  obtain ⟨oc18, kV18, dc18, pm18, cd18, ct18, od18, an18, sl18, l__law_pick, c__law_pick⟩ := Hx.plain_ok (Hx.at_map E 17 rfl) (Hx.fact B1 25 rfl)
  have k__law_pick : PySem.W.keepIn K (.ref 524) = true := (Hx.fact B1 26 rfl)
  have a__law_word : PySem.W.nsIn K mainGlobals "_law_word" = some (some (.ref 531)) := of_decide_eq_true (Hx.fact B1 27 rfl)
  obtain ⟨oc19, kV19, dc19, pm19, cd19, ct19, od19, an19, sl19, l__law_word, c__law_word⟩ := Hx.plain_ok (Hx.at_map E 18 rfl) (Hx.fact B1 28 rfl)
  have k__law_word : PySem.W.keepIn K (.ref 531) = true := (Hx.fact B1 29 rfl)
  have a__law_heard : PySem.W.nsIn K mainGlobals "_law_heard" = some (some (.ref 538)) := of_decide_eq_true (Hx.fact B1 30 rfl)
  obtain ⟨oc20, kV20, dc20, pm20, cd20, ct20, od20, an20, sl20, l__law_heard, c__law_heard⟩ := Hx.plain_ok (Hx.at_map E 19 rfl) (Hx.fact B1 31 rfl)
  have k__law_heard : PySem.W.keepIn K (.ref 538) = true := (Hx.fact B1 32 rfl)
  have a__law_cells : PySem.W.nsIn K mainGlobals "_law_cells" = some (some (.ref 545)) := of_decide_eq_true (Hx.fact B1 33 rfl)
  obtain ⟨oc21, kV21, dc21, pm21, cd21, ct21, od21, an21, sl21, l__law_cells, c__law_cells⟩ := Hx.plain_ok (Hx.at_map E 20 rfl) (Hx.fact B1 34 rfl)
  have k__law_cells : PySem.W.keepIn K (.ref 545) = true := (Hx.fact B1 35 rfl)
  have a__law_bytes : PySem.W.nsIn K mainGlobals "_law_bytes" = some (some (.ref 550)) := of_decide_eq_true (Hx.fact B1 36 rfl)
  obtain ⟨oc22, kV22, dc22, pm22, cd22, ct22, od22, an22, sl22, l__law_bytes, c__law_bytes⟩ := Hx.plain_ok (Hx.at_map E 21 rfl) (Hx.fact B1 37 rfl)
  have k__law_bytes : PySem.W.keepIn K (.ref 550) = true := (Hx.fact B1 38 rfl)
  have a__law_odd : PySem.W.nsIn K mainGlobals "_law_odd" = some (some (.ref 557)) := of_decide_eq_true (Hx.fact B1 39 rfl)
  obtain ⟨oc23, kV23, dc23, pm23, cd23, ct23, od23, an23, sl23, l__law_odd, c__law_odd⟩ := Hx.plain_ok (Hx.at_map E 22 rfl) (Hx.fact B2 0 rfl)
  have k__law_odd : PySem.W.keepIn K (.ref 557) = true := (Hx.fact B2 1 rfl)
  have a__law_spoilt : PySem.W.nsIn K mainGlobals "_law_spoilt" = some (some (.ref 564)) := of_decide_eq_true (Hx.fact B2 2 rfl)
  obtain ⟨oc24, kV24, dc24, pm24, cd24, ct24, od24, an24, sl24, l__law_spoilt, c__law_spoilt⟩ := Hx.plain_ok (Hx.at_map E 23 rfl) (Hx.fact B2 3 rfl)
  have k__law_spoilt : PySem.W.keepIn K (.ref 564) = true := (Hx.fact B2 4 rfl)
  have a__law_edge : PySem.W.nsIn K mainGlobals "_law_edge" = some (some (.ref 571)) := of_decide_eq_true (Hx.fact B2 5 rfl)
  obtain ⟨oc25, kV25, dc25, pm25, cd25, ct25, od25, an25, sl25, l__law_edge, c__law_edge⟩ := Hx.plain_ok (Hx.at_map E 24 rfl) (Hx.fact B2 6 rfl)
  have k__law_edge : PySem.W.keepIn K (.ref 571) = true := (Hx.fact B2 7 rfl)
  have a__law_deed : PySem.W.nsIn K mainGlobals "_law_deed" = some (some (.ref 578)) := of_decide_eq_true (Hx.fact B2 8 rfl)
  obtain ⟨oc26, kV26, dc26, pm26, cd26, ct26, od26, an26, sl26, l__law_deed, c__law_deed⟩ := Hx.plain_ok (Hx.at_map E 25 rfl) (Hx.fact B2 9 rfl)
  have k__law_deed : PySem.W.keepIn K (.ref 578) = true := (Hx.fact B2 10 rfl)
  have a__law_bad : PySem.W.nsIn K mainGlobals "_law_bad" = some (some (.ref 585)) := of_decide_eq_true (Hx.fact B2 11 rfl)
  obtain ⟨oc27, kV27, dc27, pm27, cd27, ct27, od27, an27, sl27, l__law_bad, c__law_bad⟩ := Hx.plain_ok (Hx.at_map E 26 rfl) (Hx.fact B2 12 rfl)
  have k__law_bad : PySem.W.keepIn K (.ref 585) = true := (Hx.fact B2 13 rfl)
  have a__law_due : PySem.W.nsIn K mainGlobals "_law_due" = some (some (.ref 592)) := of_decide_eq_true (Hx.fact B2 14 rfl)
  obtain ⟨oc28, kV28, dc28, pm28, cd28, ct28, od28, an28, sl28, l__law_due, c__law_due⟩ := Hx.plain_ok (Hx.at_map E 27 rfl) (Hx.fact B2 15 rfl)
  have k__law_due : PySem.W.keepIn K (.ref 592) = true := (Hx.fact B2 16 rfl)
  have a__law_dressed : PySem.W.nsIn K mainGlobals "_law_dressed" = some (some (.ref 599)) := of_decide_eq_true (Hx.fact B2 17 rfl)
  obtain ⟨oc29, kV29, dc29, pm29, cd29, ct29, od29, an29, sl29, l__law_dressed, c__law_dressed⟩ := Hx.plain_ok (Hx.at_map E 28 rfl) (Hx.fact B2 18 rfl)
  have k__law_dressed : PySem.W.keepIn K (.ref 599) = true := (Hx.fact B2 19 rfl)
  have a__law_put : PySem.W.nsIn K mainGlobals "_law_put" = some (some (.ref 606)) := of_decide_eq_true (Hx.fact B2 20 rfl)
  obtain ⟨oc30, kV30, dc30, pm30, cd30, ct30, od30, an30, sl30, l__law_put, c__law_put⟩ := Hx.plain_ok (Hx.at_map E 29 rfl) (Hx.fact B2 21 rfl)
  have k__law_put : PySem.W.keepIn K (.ref 606) = true := (Hx.fact B2 22 rfl)
  have a__law_done : PySem.W.nsIn K mainGlobals "_law_done" = some (some (.ref 613)) := of_decide_eq_true (Hx.fact B2 23 rfl)
  obtain ⟨oc31, kV31, dc31, pm31, cd31, ct31, od31, an31, sl31, l__law_done, c__law_done⟩ := Hx.plain_ok (Hx.at_map E 30 rfl) (Hx.fact B2 24 rfl)
  have k__law_done : PySem.W.keepIn K (.ref 613) = true := (Hx.fact B2 25 rfl)
  have a__law_made_right : PySem.W.nsIn K mainGlobals "_law_made_right" = some (some (.ref 620)) := of_decide_eq_true (Hx.fact B2 26 rfl)
  obtain ⟨oc32, kV32, dc32, pm32, cd32, ct32, od32, an32, sl32, l__law_made_right, c__law_made_right⟩ := Hx.plain_ok (Hx.at_map E 31 rfl) (Hx.fact B2 27 rfl)
  have k__law_made_right : PySem.W.keepIn K (.ref 620) = true := (Hx.fact B2 28 rfl)
  have a__law_read : PySem.W.nsIn K mainGlobals "_law_read" = some (some (.ref 627)) := of_decide_eq_true (Hx.fact B2 29 rfl)
  obtain ⟨oc33, kV33, dc33, pm33, cd33, ct33, od33, an33, sl33, l__law_read, c__law_read⟩ := Hx.plain_ok (Hx.at_map E 32 rfl) (Hx.fact B2 30 rfl)
  have k__law_read : PySem.W.keepIn K (.ref 627) = true := (Hx.fact B2 31 rfl)
  have a__law_read_right : PySem.W.nsIn K mainGlobals "_law_read_right" = some (some (.ref 634)) := of_decide_eq_true (Hx.fact B2 32 rfl)
  obtain ⟨oc34, kV34, dc34, pm34, cd34, ct34, od34, an34, sl34, l__law_read_right, c__law_read_right⟩ := Hx.plain_ok (Hx.at_map E 33 rfl) (Hx.fact B2 33 rfl)
  have k__law_read_right : PySem.W.keepIn K (.ref 634) = true := (Hx.fact B2 34 rfl)
  have a__law_unlike_right : PySem.W.nsIn K mainGlobals "_law_unlike_right" = some (some (.ref 641)) := of_decide_eq_true (Hx.fact B2 35 rfl)
  obtain ⟨oc35, kV35, dc35, pm35, cd35, ct35, od35, an35, sl35, l__law_unlike_right, c__law_unlike_right⟩ := Hx.plain_ok (Hx.at_map E 34 rfl) (Hx.fact B2 36 rfl)
  have k__law_unlike_right : PySem.W.keepIn K (.ref 641) = true := (Hx.fact B2 37 rfl)
  have a_law : PySem.W.nsIn K mainGlobals "law" = some (some (.ref 648)) := of_decide_eq_true (Hx.fact B2 38 rfl)
  obtain ⟨oc36, kV36, dc36, pm36, cd36, ct36, od36, an36, sl36, l_law, c_law⟩ := Hx.plain_ok (Hx.at_map E 35 rfl) (Hx.fact B2 39 rfl)
  have k_law : PySem.W.keepIn K (.ref 648) = true := (Hx.fact B3 0 rfl)
  have pg_Form : PySem.W.plainGet K 303 Str.empty = true := (Hx.fact B3 1 rfl)
  have hd_Form : PySem.W.hasDictIn K 303 = true := (Hx.fact B3 2 rfl)
  have po_Form : PySem.W.plainOver K 303 = true := (Hx.fact B3 3 rfl)
  have sa_Form : PySem.W.findIn K (.ref 303) "__setattr__" = some (some (.builtin "object.__setattr__")) := of_decide_eq_true (Hx.fact B3 4 rfl)
  have mk_Form : PySem.W.makesIn K 303 = true := (Hx.fact B3 5 rfl)
  have kc_Form : PySem.W.keepIn K (.ref 303) = true := (Hx.fact B3 6 rfl)
  have no_Form_name : PySem.W.findIn K (.ref 303) "name" = some none := of_decide_eq_true (Hx.fact B3 7 rfl)
  have no_Form_length : PySem.W.findIn K (.ref 303) "length" = some none := of_decide_eq_true (Hx.fact B3 8 rfl)
  have no_Form_flow : PySem.W.findIn K (.ref 303) "flow" = some none := of_decide_eq_true (Hx.fact B3 9 rfl)
  have pg_CodeSet : PySem.W.plainGet K 391 Str.empty = true := (Hx.fact B3 10 rfl)
  have hd_CodeSet : PySem.W.hasDictIn K 391 = true := (Hx.fact B3 11 rfl)
  have po_CodeSet : PySem.W.plainOver K 391 = true := (Hx.fact B3 12 rfl)
  have sa_CodeSet : PySem.W.findIn K (.ref 391) "__setattr__" = some (some (.builtin "object.__setattr__")) := of_decide_eq_true (Hx.fact B3 13 rfl)
  have mk_CodeSet : PySem.W.makesIn K 391 = true := (Hx.fact B3 14 rfl)
  have kc_CodeSet : PySem.W.keepIn K (.ref 391) = true := (Hx.fact B3 15 rfl)
  have no_CodeSet_stop : PySem.W.findIn K (.ref 391) "stop" = some none := of_decide_eq_true (Hx.fact B3 16 rfl)
  have no_CodeSet_order : PySem.W.findIn K (.ref 391) "order" = some none := of_decide_eq_true (Hx.fact B3 17 rfl)
  have no_CodeSet_table : PySem.W.findIn K (.ref 391) "table" = some none := of_decide_eq_true (Hx.fact B3 18 rfl)
  have pg_Image : PySem.W.plainGet K 499 Str.empty = true := (Hx.fact B3 19 rfl)
  have hd_Image : PySem.W.hasDictIn K 499 = true := (Hx.fact B3 20 rfl)
  have po_Image : PySem.W.plainOver K 499 = true := (Hx.fact B3 21 rfl)
  have sa_Image : PySem.W.findIn K (.ref 499) "__setattr__" = some (some (.builtin "object.__setattr__")) := of_decide_eq_true (Hx.fact B3 22 rfl)
  have mk_Image : PySem.W.makesIn K 499 = true := (Hx.fact B3 23 rfl)
  have kc_Image : PySem.W.keepIn K (.ref 499) = true := (Hx.fact B3 24 rfl)
  have no_Image_cells : PySem.W.findIn K (.ref 499) "cells" = some none := of_decide_eq_true (Hx.fact B3 25 rfl)
  have z_len : PySem.W.nsIn K mainGlobals "len" = some none := of_decide_eq_true (Hx.fact B3 26 rfl)
  have z_abs : PySem.W.nsIn K mainGlobals "abs" = some none := of_decide_eq_true (Hx.fact B3 27 rfl)
  have z_int : PySem.W.nsIn K mainGlobals "int" = some none := of_decide_eq_true (Hx.fact B3 28 rfl)
  have z_list : PySem.W.nsIn K mainGlobals "list" = some none := of_decide_eq_true (Hx.fact B3 29 rfl)
  have z_range : PySem.W.nsIn K mainGlobals "range" = some none := of_decide_eq_true (Hx.fact B3 30 rfl)
  have z_isinstance : PySem.W.nsIn K mainGlobals "isinstance" = some none := of_decide_eq_true (Hx.fact B3 31 rfl)
  have z_bool : PySem.W.nsIn K mainGlobals "bool" = some none := of_decide_eq_true (Hx.fact B3 32 rfl)
  have z_str : PySem.W.nsIn K mainGlobals "str" = some none := of_decide_eq_true (Hx.fact B3 33 rfl)
  have z_tuple : PySem.W.nsIn K mainGlobals "tuple" = some none := of_decide_eq_true (Hx.fact B3 34 rfl)
  have z_all : PySem.W.nsIn K mainGlobals "all" = some none := of_decide_eq_true (Hx.fact B3 35 rfl)
  have z_set : PySem.W.nsIn K mainGlobals "set" = some none := of_decide_eq_true (Hx.fact B3 36 rfl)
  have z_sorted : PySem.W.nsIn K mainGlobals "sorted" = some none := of_decide_eq_true (Hx.fact B3 37 rfl)
  have z_ValueError : PySem.W.nsIn K mainGlobals "ValueError" = some none := of_decide_eq_true (Hx.fact B3 38 rfl)
  have z_repr : PySem.W.nsIn K mainGlobals "repr" = some none := of_decide_eq_true (Hx.fact B3 39 rfl)
  have z_max : PySem.W.nsIn K mainGlobals "max" = some none := of_decide_eq_true (Hx.fact B4 0 rfl)
  have z_min : PySem.W.nsIn K mainGlobals "min" = some none := of_decide_eq_true (Hx.fact B4 1 rfl)
  have z_iter : PySem.W.nsIn K mainGlobals "iter" = some none := of_decide_eq_true (Hx.fact B4 2 rfl)
  have z_enumerate : PySem.W.nsIn K mainGlobals "enumerate" = some none := of_decide_eq_true (Hx.fact B4 3 rfl)
  obtain ⟨t_LETTERS, v_LETTERS⟩ := Hx.str_ok (Hx.fact B4 4 rfl)
  have aC_CodeError : PySem.W.nsIn K mainGlobals "CodeError" = some (some (.ref 31)) := of_decide_eq_true (Hx.fact B4 5 rfl)
  have aC_BadCodes : PySem.W.nsIn K mainGlobals "BadCodes" = some (some (.ref 89)) := of_decide_eq_true (Hx.fact B4 6 rfl)
  have aC_BadLayout : PySem.W.nsIn K mainGlobals "BadLayout" = some (some (.ref 110)) := of_decide_eq_true (Hx.fact B4 7 rfl)
  have aC_BadRewrite : PySem.W.nsIn K mainGlobals "BadRewrite" = some (some (.ref 194)) := of_decide_eq_true (Hx.fact B4 8 rfl)
  have aC_BadStep : PySem.W.nsIn K mainGlobals "BadStep" = some (some (.ref 215)) := of_decide_eq_true (Hx.fact B4 9 rfl)
  have aC_BadText : PySem.W.nsIn K mainGlobals "BadText" = some (some (.ref 236)) := of_decide_eq_true (Hx.fact B4 10 rfl)
  have aC_NotRight : PySem.W.nsIn K mainGlobals "NotRight" = some (some (.ref 56)) := of_decide_eq_true (Hx.fact B4 11 rfl)
  have aC_NoWay : PySem.W.nsIn K mainGlobals "NoWay" = some (some (.ref 68)) := of_decide_eq_true (Hx.fact B4 12 rfl)
  have aC_BadInput : PySem.W.nsIn K mainGlobals "BadInput" = some (some (.ref 44)) := of_decide_eq_true (Hx.fact B4 13 rfl)
  have zsuper : PySem.W.nsIn K mainGlobals "super" = some none := of_decide_eq_true (Hx.fact B4 14 rfl)
  have znoop : PySem.W.nsIn K cStatics "thirdparty.any" = some none := of_decide_eq_true (Hx.fact B4 15 rfl)
  have zgcn : PySem.W.specialIn K (.builtin "object.__class__") "__get__" = some (some (.builtin "getset_descriptor.__get__")) := of_decide_eq_true (Hx.fact B4 16 rfl)
  have zgct : PySem.W.takesIn K (.builtin "object.__class__") = some true := of_decide_eq_true (Hx.fact B4 17 rfl)
  have ztop : ((PySem.Challenge.pw_codestitch_k07_image_bytes).main.scope.names.lookup ("super" : Str)).isSome = false := by decide +kernel
  have aC_BadAddress : PySem.W.nsIn K mainGlobals "BadAddress" = some (some (.ref 152)) := of_decide_eq_true (Hx.fact B4 18 rfl)
  obtain ⟨nm37, q37, N37, bs37, bm37, sn37, sub37, ab37, col37, dd37, ka37, kb37, kc37, kd37, ke37, lkC_BadAddress, bmC_BadAddress⟩ := Hx.exc_ok (Hx.fact B4 19 rfl)
  have saC_BadAddress : PySem.W.findIn K (.ref 152) "__setattr__" = some (some (.builtin "object.__setattr__")) := of_decide_eq_true (Hx.fact B4 20 rfl)
  have exC_BadAddress : PySem.W.subIn K (.ref 152) (.type "BaseException") = some true := of_decide_eq_true (Hx.fact B4 21 rfl)
  have tyC_BadAddress : PySem.W.typeIn K (.ref 152) = some (.type "type") := of_decide_eq_true (Hx.fact B4 22 rfl)
  have kpC_BadAddress : PySem.W.keepIn K (.ref 152) = true := (Hx.fact B4 23 rfl)
  have inC_BadAddress : PySem.W.findIn K (.ref 152) "__init__" = some (some (.ref 149)) := of_decide_eq_true (Hx.fact B4 24 rfl)
  have tiC_BadAddress : PySem.W.typeIn K (.ref 149) = some (.type "function") := of_decide_eq_true (Hx.fact B4 25 rfl)
  have noC_BadAddress_at : PySem.W.findIn K (.ref 152) "at" = some none := of_decide_eq_true (Hx.fact B4 26 rfl)
  have gaC_BadAddress : PySem.W.findIn K (.ref 152) "__getattribute__" = some (some (.builtin "BaseException.__getattribute__")) := of_decide_eq_true (Hx.fact B4 27 rfl)
  have ggC_BadAddress : PySem.W.findIn K (.ref 152) "__getattr__" = some none := of_decide_eq_true (Hx.fact B4 28 rfl)
  have hdC_BadAddress : PySem.W.hasDictIn K 152 = true := (Hx.fact B4 29 rfl)
  have gcC_BadAddress : PySem.W.findIn K (.ref 152) "__class__" = some (some (.builtin "object.__class__")) := of_decide_eq_true (Hx.fact B4 30 rfl)
  have moC_BadAddress : PySem.W.mroIn K 152 (.type "object") = some true := of_decide_eq_true (Hx.fact B4 31 rfl)
  obtain ⟨oc37, kV37, dc37, pm37, ct37, od37, an37, sl37, l_BadAddressu_initu, c_BadAddressu_initu⟩ := Hx.sup_ok (Hx.at_map E 36 rfl) (Hx.fact B4 32 rfl)
  have k_BadAddressu_initu : PySem.W.keepIn K (.ref 149) = true := (Hx.fact B4 33 rfl)
  obtain ⟨ccl37, ccd37, vs37, ccs37, file37, tf37, cl_BadAddressu_initu, cf_BadAddressu_initu, fe_BadAddressu_initu⟩ := Hx.fil_ok (Hx.fact B4 34 rfl)
  obtain ⟨ocl37, ocd37, ocs37, ce_BadAddressu_initu⟩ := Hx.cel_ok (Hx.fact B4 35 rfl)
  have mrC_BadAddress : PySem.W.mroIn K 152 (.ref 152) = some true := of_decide_eq_true (Hx.fact B4 36 rfl)
  have suC_BadAddress : PySem.W.ks_superIn K 152 152 "__init__" = some (some (.builtin "ValueError.__init__")) := of_decide_eq_true (Hx.fact B4 37 rfl)
  have svC_BadAddress : PySem.W.subIn K (.ref 152) (.type "ValueError") = some true := of_decide_eq_true (Hx.fact B4 38 rfl)
  have aC_BadByte : PySem.W.nsIn K mainGlobals "BadByte" = some (some (.ref 131)) := of_decide_eq_true (Hx.fact B4 39 rfl)
  obtain ⟨nm38, q38, N38, bs38, bm38, sn38, sub38, ab38, col38, dd38, ka38, kb38, kc38, kd38, ke38, lkC_BadByte, bmC_BadByte⟩ := Hx.exc_ok (Hx.fact B5 0 rfl)
  have saC_BadByte : PySem.W.findIn K (.ref 131) "__setattr__" = some (some (.builtin "object.__setattr__")) := of_decide_eq_true (Hx.fact B5 1 rfl)
  have exC_BadByte : PySem.W.subIn K (.ref 131) (.type "BaseException") = some true := of_decide_eq_true (Hx.fact B5 2 rfl)
  have tyC_BadByte : PySem.W.typeIn K (.ref 131) = some (.type "type") := of_decide_eq_true (Hx.fact B5 3 rfl)
  have kpC_BadByte : PySem.W.keepIn K (.ref 131) = true := (Hx.fact B5 4 rfl)
  have inC_BadByte : PySem.W.findIn K (.ref 131) "__init__" = some (some (.ref 128)) := of_decide_eq_true (Hx.fact B5 5 rfl)
  have tiC_BadByte : PySem.W.typeIn K (.ref 128) = some (.type "function") := of_decide_eq_true (Hx.fact B5 6 rfl)
  have noC_BadByte_at : PySem.W.findIn K (.ref 131) "at" = some none := of_decide_eq_true (Hx.fact B5 7 rfl)
  have gaC_BadByte : PySem.W.findIn K (.ref 131) "__getattribute__" = some (some (.builtin "BaseException.__getattribute__")) := of_decide_eq_true (Hx.fact B5 8 rfl)
  have ggC_BadByte : PySem.W.findIn K (.ref 131) "__getattr__" = some none := of_decide_eq_true (Hx.fact B5 9 rfl)
  have hdC_BadByte : PySem.W.hasDictIn K 131 = true := (Hx.fact B5 10 rfl)
  have gcC_BadByte : PySem.W.findIn K (.ref 131) "__class__" = some (some (.builtin "object.__class__")) := of_decide_eq_true (Hx.fact B5 11 rfl)
  have moC_BadByte : PySem.W.mroIn K 131 (.type "object") = some true := of_decide_eq_true (Hx.fact B5 12 rfl)
  obtain ⟨oc38, kV38, dc38, pm38, ct38, od38, an38, sl38, l_BadByteu_initu, c_BadByteu_initu⟩ := Hx.sup_ok (Hx.at_map E 37 rfl) (Hx.fact B5 13 rfl)
  have k_BadByteu_initu : PySem.W.keepIn K (.ref 128) = true := (Hx.fact B5 14 rfl)
  obtain ⟨ccl38, ccd38, vs38, ccs38, file38, tf38, cl_BadByteu_initu, cf_BadByteu_initu, fe_BadByteu_initu⟩ := Hx.fil_ok (Hx.fact B5 15 rfl)
  obtain ⟨ocl38, ocd38, ocs38, ce_BadByteu_initu⟩ := Hx.cel_ok (Hx.fact B5 16 rfl)
  have mrC_BadByte : PySem.W.mroIn K 131 (.ref 131) = some true := of_decide_eq_true (Hx.fact B5 17 rfl)
  have suC_BadByte : PySem.W.ks_superIn K 131 131 "__init__" = some (some (.builtin "ValueError.__init__")) := of_decide_eq_true (Hx.fact B5 18 rfl)
  have svC_BadByte : PySem.W.subIn K (.ref 131) (.type "ValueError") = some true := of_decide_eq_true (Hx.fact B5 19 rfl)
  have aC_UnlikeLengths : PySem.W.nsIn K mainGlobals "UnlikeLengths" = some (some (.ref 173)) := of_decide_eq_true (Hx.fact B5 20 rfl)
  obtain ⟨nm39, q39, N39, bs39, bm39, sn39, sub39, ab39, col39, dd39, ka39, kb39, kc39, kd39, ke39, lkC_UnlikeLengths, bmC_UnlikeLengths⟩ := Hx.exc_ok (Hx.fact B5 21 rfl)
  have saC_UnlikeLengths : PySem.W.findIn K (.ref 173) "__setattr__" = some (some (.builtin "object.__setattr__")) := of_decide_eq_true (Hx.fact B5 22 rfl)
  have exC_UnlikeLengths : PySem.W.subIn K (.ref 173) (.type "BaseException") = some true := of_decide_eq_true (Hx.fact B5 23 rfl)
  have tyC_UnlikeLengths : PySem.W.typeIn K (.ref 173) = some (.type "type") := of_decide_eq_true (Hx.fact B5 24 rfl)
  have kpC_UnlikeLengths : PySem.W.keepIn K (.ref 173) = true := (Hx.fact B5 25 rfl)
  have inC_UnlikeLengths : PySem.W.findIn K (.ref 173) "__init__" = some (some (.ref 170)) := of_decide_eq_true (Hx.fact B5 26 rfl)
  have tiC_UnlikeLengths : PySem.W.typeIn K (.ref 170) = some (.type "function") := of_decide_eq_true (Hx.fact B5 27 rfl)
  have noC_UnlikeLengths_one : PySem.W.findIn K (.ref 173) "one" = some none := of_decide_eq_true (Hx.fact B5 28 rfl)
  have noC_UnlikeLengths_other : PySem.W.findIn K (.ref 173) "other" = some none := of_decide_eq_true (Hx.fact B5 29 rfl)
  have gaC_UnlikeLengths : PySem.W.findIn K (.ref 173) "__getattribute__" = some (some (.builtin "BaseException.__getattribute__")) := of_decide_eq_true (Hx.fact B5 30 rfl)
  have ggC_UnlikeLengths : PySem.W.findIn K (.ref 173) "__getattr__" = some none := of_decide_eq_true (Hx.fact B5 31 rfl)
  have hdC_UnlikeLengths : PySem.W.hasDictIn K 173 = true := (Hx.fact B5 32 rfl)
  have gcC_UnlikeLengths : PySem.W.findIn K (.ref 173) "__class__" = some (some (.builtin "object.__class__")) := of_decide_eq_true (Hx.fact B5 33 rfl)
  have moC_UnlikeLengths : PySem.W.mroIn K 173 (.type "object") = some true := of_decide_eq_true (Hx.fact B5 34 rfl)
  obtain ⟨oc39, kV39, dc39, pm39, ct39, od39, an39, sl39, l_UnlikeLengthsu_initu, c_UnlikeLengthsu_initu⟩ := Hx.sup_ok (Hx.at_map E 38 rfl) (Hx.fact B5 35 rfl)
  have k_UnlikeLengthsu_initu : PySem.W.keepIn K (.ref 170) = true := (Hx.fact B5 36 rfl)
  obtain ⟨ccl39, ccd39, vs39, ccs39, file39, tf39, cl_UnlikeLengthsu_initu, cf_UnlikeLengthsu_initu, fe_UnlikeLengthsu_initu⟩ := Hx.fil_ok (Hx.fact B5 37 rfl)
  obtain ⟨ocl39, ocd39, ocs39, ce_UnlikeLengthsu_initu⟩ := Hx.cel_ok (Hx.fact B5 38 rfl)
  have mrC_UnlikeLengths : PySem.W.mroIn K 173 (.ref 173) = some true := of_decide_eq_true (Hx.fact B5 39 rfl)
  have suC_UnlikeLengths : PySem.W.ks_superIn K 173 173 "__init__" = some (some (.builtin "ValueError.__init__")) := of_decide_eq_true (Hx.fact B6 0 rfl)
  have svC_UnlikeLengths : PySem.W.subIn K (.ref 173) (.type "ValueError") = some true := of_decide_eq_true (Hx.fact B6 1 rfl)
  have aC_NotWhole : PySem.W.nsIn K mainGlobals "NotWhole" = some (some (.ref 257)) := of_decide_eq_true (Hx.fact B6 2 rfl)
  obtain ⟨nm40, q40, N40, bs40, bm40, sn40, sub40, ab40, col40, dd40, ka40, kb40, kc40, kd40, ke40, lkC_NotWhole, bmC_NotWhole⟩ := Hx.exc_ok (Hx.fact B6 3 rfl)
  have saC_NotWhole : PySem.W.findIn K (.ref 257) "__setattr__" = some (some (.builtin "object.__setattr__")) := of_decide_eq_true (Hx.fact B6 4 rfl)
  have exC_NotWhole : PySem.W.subIn K (.ref 257) (.type "BaseException") = some true := of_decide_eq_true (Hx.fact B6 5 rfl)
  have tyC_NotWhole : PySem.W.typeIn K (.ref 257) = some (.type "type") := of_decide_eq_true (Hx.fact B6 6 rfl)
  have kpC_NotWhole : PySem.W.keepIn K (.ref 257) = true := (Hx.fact B6 7 rfl)
  have inC_NotWhole : PySem.W.findIn K (.ref 257) "__init__" = some (some (.ref 254)) := of_decide_eq_true (Hx.fact B6 8 rfl)
  have tiC_NotWhole : PySem.W.typeIn K (.ref 254) = some (.type "function") := of_decide_eq_true (Hx.fact B6 9 rfl)
  have noC_NotWhole_place : PySem.W.findIn K (.ref 257) "place" = some none := of_decide_eq_true (Hx.fact B6 10 rfl)
  have gaC_NotWhole : PySem.W.findIn K (.ref 257) "__getattribute__" = some (some (.builtin "BaseException.__getattribute__")) := of_decide_eq_true (Hx.fact B6 11 rfl)
  have ggC_NotWhole : PySem.W.findIn K (.ref 257) "__getattr__" = some none := of_decide_eq_true (Hx.fact B6 12 rfl)
  have hdC_NotWhole : PySem.W.hasDictIn K 257 = true := (Hx.fact B6 13 rfl)
  have gcC_NotWhole : PySem.W.findIn K (.ref 257) "__class__" = some (some (.builtin "object.__class__")) := of_decide_eq_true (Hx.fact B6 14 rfl)
  have moC_NotWhole : PySem.W.mroIn K 257 (.type "object") = some true := of_decide_eq_true (Hx.fact B6 15 rfl)
  obtain ⟨oc40, kV40, dc40, pm40, ct40, od40, an40, sl40, l_NotWholeu_initu, c_NotWholeu_initu⟩ := Hx.sup_ok (Hx.at_map E 39 rfl) (Hx.fact B6 16 rfl)
  have k_NotWholeu_initu : PySem.W.keepIn K (.ref 254) = true := (Hx.fact B6 17 rfl)
  obtain ⟨ccl40, ccd40, vs40, ccs40, file40, tf40, cl_NotWholeu_initu, cf_NotWholeu_initu, fe_NotWholeu_initu⟩ := Hx.fil_ok (Hx.fact B6 18 rfl)
  obtain ⟨ocl40, ocd40, ocs40, ce_NotWholeu_initu⟩ := Hx.cel_ok (Hx.fact B6 19 rfl)
  have mrC_NotWhole : PySem.W.mroIn K 257 (.ref 257) = some true := of_decide_eq_true (Hx.fact B6 20 rfl)
  have suC_NotWhole : PySem.W.ks_superIn K 257 257 "__init__" = some (some (.builtin "ValueError.__init__")) := of_decide_eq_true (Hx.fact B6 21 rfl)
  have svC_NotWhole : PySem.W.subIn K (.ref 257) (.type "ValueError") = some true := of_decide_eq_true (Hx.fact B6 22 rfl)
  have kit_BadAddress_BadAddress : PySem.W.kitOne K (.ref 152) (.ref 152) = some true := of_decide_eq_true (Hx.fact B6 23 rfl)
  have kit_BadAddress_BadByte : PySem.W.kitOne K (.ref 152) (.ref 131) = some false := of_decide_eq_true (Hx.fact B6 24 rfl)
  have kit_BadAddress_UnlikeLengths : PySem.W.kitOne K (.ref 152) (.ref 173) = some false := of_decide_eq_true (Hx.fact B6 25 rfl)
  have kit_BadAddress_BadCodes : PySem.W.kitOne K (.ref 152) (.ref 89) = some false := of_decide_eq_true (Hx.fact B6 26 rfl)
  have kit_BadAddress_BadLayout : PySem.W.kitOne K (.ref 152) (.ref 110) = some false := of_decide_eq_true (Hx.fact B6 27 rfl)
  have kit_BadAddress_BadRewrite : PySem.W.kitOne K (.ref 152) (.ref 194) = some false := of_decide_eq_true (Hx.fact B6 28 rfl)
  have kit_BadAddress_BadStep : PySem.W.kitOne K (.ref 152) (.ref 215) = some false := of_decide_eq_true (Hx.fact B6 29 rfl)
  have kit_BadAddress_BadText : PySem.W.kitOne K (.ref 152) (.ref 236) = some false := of_decide_eq_true (Hx.fact B6 30 rfl)
  have kit_BadAddress_NotRight : PySem.W.kitOne K (.ref 152) (.ref 56) = some false := of_decide_eq_true (Hx.fact B6 31 rfl)
  have kit_BadAddress_NoWay : PySem.W.kitOne K (.ref 152) (.ref 68) = some false := of_decide_eq_true (Hx.fact B6 32 rfl)
  have kit_BadAddress_BadInput : PySem.W.kitOne K (.ref 152) (.ref 44) = some true := of_decide_eq_true (Hx.fact B6 33 rfl)
  have kit_BadAddress_ValueError : PySem.W.kitOne K (.ref 152) (.type "ValueError") = some true := of_decide_eq_true (Hx.fact B6 34 rfl)
  have kit_BadByte_BadAddress : PySem.W.kitOne K (.ref 131) (.ref 152) = some false := of_decide_eq_true (Hx.fact B6 35 rfl)
  have kit_BadByte_BadByte : PySem.W.kitOne K (.ref 131) (.ref 131) = some true := of_decide_eq_true (Hx.fact B6 36 rfl)
  have kit_BadByte_UnlikeLengths : PySem.W.kitOne K (.ref 131) (.ref 173) = some false := of_decide_eq_true (Hx.fact B6 37 rfl)
  have kit_BadByte_BadCodes : PySem.W.kitOne K (.ref 131) (.ref 89) = some false := of_decide_eq_true (Hx.fact B6 38 rfl)
  have kit_BadByte_BadLayout : PySem.W.kitOne K (.ref 131) (.ref 110) = some false := of_decide_eq_true (Hx.fact B6 39 rfl)
  have kit_BadByte_BadRewrite : PySem.W.kitOne K (.ref 131) (.ref 194) = some false := of_decide_eq_true (Hx.fact B7 0 rfl)
  have kit_BadByte_BadStep : PySem.W.kitOne K (.ref 131) (.ref 215) = some false := of_decide_eq_true (Hx.fact B7 1 rfl)
  have kit_BadByte_BadText : PySem.W.kitOne K (.ref 131) (.ref 236) = some false := of_decide_eq_true (Hx.fact B7 2 rfl)
  have kit_BadByte_NotRight : PySem.W.kitOne K (.ref 131) (.ref 56) = some false := of_decide_eq_true (Hx.fact B7 3 rfl)
  have kit_BadByte_NoWay : PySem.W.kitOne K (.ref 131) (.ref 68) = some false := of_decide_eq_true (Hx.fact B7 4 rfl)
  have kit_BadByte_BadInput : PySem.W.kitOne K (.ref 131) (.ref 44) = some true := of_decide_eq_true (Hx.fact B7 5 rfl)
  have kit_BadByte_ValueError : PySem.W.kitOne K (.ref 131) (.type "ValueError") = some true := of_decide_eq_true (Hx.fact B7 6 rfl)
  have kit_UnlikeLengths_BadAddress : PySem.W.kitOne K (.ref 173) (.ref 152) = some false := of_decide_eq_true (Hx.fact B7 7 rfl)
  have kit_UnlikeLengths_BadByte : PySem.W.kitOne K (.ref 173) (.ref 131) = some false := of_decide_eq_true (Hx.fact B7 8 rfl)
  have kit_UnlikeLengths_UnlikeLengths : PySem.W.kitOne K (.ref 173) (.ref 173) = some true := of_decide_eq_true (Hx.fact B7 9 rfl)
  have kit_UnlikeLengths_BadCodes : PySem.W.kitOne K (.ref 173) (.ref 89) = some false := of_decide_eq_true (Hx.fact B7 10 rfl)
  have kit_UnlikeLengths_BadLayout : PySem.W.kitOne K (.ref 173) (.ref 110) = some false := of_decide_eq_true (Hx.fact B7 11 rfl)
  have kit_UnlikeLengths_BadRewrite : PySem.W.kitOne K (.ref 173) (.ref 194) = some false := of_decide_eq_true (Hx.fact B7 12 rfl)
  have kit_UnlikeLengths_BadStep : PySem.W.kitOne K (.ref 173) (.ref 215) = some false := of_decide_eq_true (Hx.fact B7 13 rfl)
  have kit_UnlikeLengths_BadText : PySem.W.kitOne K (.ref 173) (.ref 236) = some false := of_decide_eq_true (Hx.fact B7 14 rfl)
  have kit_UnlikeLengths_NotRight : PySem.W.kitOne K (.ref 173) (.ref 56) = some false := of_decide_eq_true (Hx.fact B7 15 rfl)
  have kit_UnlikeLengths_NoWay : PySem.W.kitOne K (.ref 173) (.ref 68) = some false := of_decide_eq_true (Hx.fact B7 16 rfl)
  have kit_UnlikeLengths_BadInput : PySem.W.kitOne K (.ref 173) (.ref 44) = some true := of_decide_eq_true (Hx.fact B7 17 rfl)
  have kit_UnlikeLengths_ValueError : PySem.W.kitOne K (.ref 173) (.type "ValueError") = some true := of_decide_eq_true (Hx.fact B7 18 rfl)
  have kit_Image_list : PySem.W.kitOne K (.ref 499) (.type "list") = some false := of_decide_eq_true (Hx.fact B7 19 rfl)
  have exm_BadAddress_CodeError : PySem.W.exmOne K (.ref 152) (.ref 31) = some true := of_decide_eq_true (Hx.fact B7 20 rfl)
  have exm_BadByte_CodeError : PySem.W.exmOne K (.ref 131) (.ref 31) = some true := of_decide_eq_true (Hx.fact B7 21 rfl)
  have exm_UnlikeLengths_CodeError : PySem.W.exmOne K (.ref 173) (.ref 31) = some true := of_decide_eq_true (Hx.fact B7 22 rfl)
  have exm_NotWhole_NotWhole : PySem.W.exmOne K (.ref 257) (.ref 257) = some true := of_decide_eq_true (Hx.fact B7 23 rfl)
  have icc_Image : PySem.W.findIn K (.ref 499) "__class__" = some (some (.builtin "object.__class__")) := of_decide_eq_true (Hx.fact B7 24 rfl)
  have icm_Image : PySem.W.mroIn K 499 (.type "object") = some true := of_decide_eq_true (Hx.fact B7 25 rfl)
  have kit_Image_Image : PySem.W.kitOne K (.ref 499) (.ref 499) = some true := of_decide_eq_true (Hx.fact B7 26 rfl)
  have nee_Image : PySem.W.findIn K (.ref 499) "__ne__" = some (some (.builtin "object.__ne__")) := of_decide_eq_true (Hx.fact B7 27 rfl)
  have kit_NoneType_Image : PySem.W.kitOne K (.type "NoneType") (.ref 499) = some false := of_decide_eq_true (Hx.fact B7 28 rfl)
  have kit_bool_Image : PySem.W.kitOne K (.type "bool") (.ref 499) = some false := of_decide_eq_true (Hx.fact B7 29 rfl)
  have kit_int_Image : PySem.W.kitOne K (.type "int") (.ref 499) = some false := of_decide_eq_true (Hx.fact B7 30 rfl)
  have kit_str_Image : PySem.W.kitOne K (.type "str") (.ref 499) = some false := of_decide_eq_true (Hx.fact B7 31 rfl)
  have kit_list_Image : PySem.W.kitOne K (.type "list") (.ref 499) = some false := of_decide_eq_true (Hx.fact B7 32 rfl)
  have kit_tuple_Image : PySem.W.kitOne K (.type "tuple") (.ref 499) = some false := of_decide_eq_true (Hx.fact B7 33 rfl)
  have nf_Image_Image : PySem.W.notFirst K 499 (.ref 499) = true := (Hx.fact B7 34 rfl)
  have nf_NoneType_Image : PySem.W.notFirst K 499 (.type "NoneType") = true := (Hx.fact B7 35 rfl)
  have nf_bool_Image : PySem.W.notFirst K 499 (.type "bool") = true := (Hx.fact B7 36 rfl)
  have nf_int_Image : PySem.W.notFirst K 499 (.type "int") = true := (Hx.fact B7 37 rfl)
  have nf_str_Image : PySem.W.notFirst K 499 (.type "str") = true := (Hx.fact B7 38 rfl)
  have nf_list_Image : PySem.W.notFirst K 499 (.type "list") = true := (Hx.fact B7 39 rfl)
  have nf_tuple_Image : PySem.W.notFirst K 499 (.type "tuple") = true := (Hx.fact B8 0 rfl)
  have nsq_Image : PySem.W.noSeq K 499 = true := (Hx.fact B8 1 rfl)
  have spi_Imageu_getitemu : PySem.W.fnIn K 456 = true := (Hx.fact B8 2 rfl)
  have coi_CodeSet : PySem.W.fnIn K 381 = true := (Hx.fact B8 3 rfl)
  have rd_Form : PySem.W.readsIn K 303 (.type "type") = true := (Hx.fact B8 4 rfl)
  have gat_Form : PySem.W.specialIn K (.ref 303) "__getattribute__" = some (some (.builtin "type.__getattribute__")) := of_decide_eq_true (Hx.fact B8 5 rfl)
  have rd_CodeSet : PySem.W.readsIn K 391 (.type "type") = true := (Hx.fact B8 6 rfl)
  have gat_CodeSet : PySem.W.specialIn K (.ref 391) "__getattribute__" = some (some (.builtin "type.__getattribute__")) := of_decide_eq_true (Hx.fact B8 7 rfl)
  have cvF : PySem.W.findCls K (.ref 303) (.type "type") "FLOWS" = some (.val (.ref 279)) := Hx.fcR_ok (Hx.fact B8 8 rfl)
  obtain ⟨odF, l_, nF, slF, lkF, v_⟩ := Hx.seq_ok (Hx.fact B8 9 rfl)
  rcases v_ with _ | ⟨⟨tF1, rfl⟩, v_⟩
  rcases v_ with _ | ⟨⟨tF2, rfl⟩, v_⟩
  rcases v_ with _ | ⟨⟨tF3, rfl⟩, v_⟩
  rcases v_ with _ | ⟨⟨tF4, rfl⟩, v_⟩
  cases v_
  obtain ⟨tM, cvM⟩ := Hx.fcI_ok (Hx.fact B8 10 rfl)
  have lam__law_done : Vc.lamB K 613 612 608 = true := (Hx.fact B8 11 rfl)
  have lam__law_made_right : Vc.lamB K 620 619 615 = true := (Hx.fact B8 12 rfl)
  have lne__law_done__law_made_right : (608 : Addr) ≠ 615 := by decide +kernel
  have rec__law_done : ((recsOf qv).any fun e => e.name == ("_law_done" : Str)) = true := by kernel_rfl
  have rec__law_made_right : ((recsOf qv).any fun e => e.name == ("_law_made_right" : Str)) = true := by kernel_rfl
  refine ⟨fun p hp => ?_, ?_⟩
  · have hp : p = (612, 608) ∨ p = (619, 615) := by simpa [csN] using hp
    rcases hp with rfl | rfl
    · exact ⟨_, _, rec__law_done, PySem.W.mg_of X G a__law_done, lam__law_done⟩
    · exact ⟨_, _, rec__law_made_right, PySem.W.mg_of X G a__law_made_right, lam__law_made_right⟩
  exact all_mk X G hfa aC_Form aC_CodeSet aC_Image a_is_byte l_is_byte c_is_byte k_is_byte a_is_name l_is_name c_is_name k_is_name a_Formu_initu i_Formu_initu l_Formu_initu c_Formu_initu k_Formu_initu a_check_forms l_check_forms c_check_forms k_check_forms a_CodeSetu_initu i_CodeSetu_initu l_CodeSetu_initu c_CodeSetu_initu k_CodeSetu_initu sma_CodeSet_sample smr_CodeSet_sample l_CodeSet_sample c_CodeSet_sample k_CodeSet_sample a_CodeSetu_callu i_CodeSetu_callu l_CodeSetu_callu c_CodeSetu_callu k_CodeSetu_callu a_check_bytes l_check_bytes c_check_bytes k_check_bytes a_span_of l_span_of c_span_of k_span_of a_Imageu_initu i_Imageu_initu l_Imageu_initu c_Imageu_initu k_Imageu_initu a_Imageu_lenu i_Imageu_lenu l_Imageu_lenu c_Imageu_lenu k_Imageu_lenu a_Imageu_iteru i_Imageu_iteru l_Imageu_iteru c_Imageu_iteru k_Imageu_iteru a_Imageu_equ i_Imageu_equ l_Imageu_equ c_Imageu_equ k_Imageu_equ a_Imageu_getitemu i_Imageu_getitemu l_Imageu_getitemu c_Imageu_getitemu k_Imageu_getitemu a_Imageu_setitemu i_Imageu_setitemu l_Imageu_setitemu c_Imageu_setitemu k_Imageu_setitemu a__law_pen l__law_pen c__law_pen k__law_pen a__law_draw l__law_draw c__law_draw k__law_draw a__law_pick l__law_pick c__law_pick k__law_pick a__law_word l__law_word c__law_word k__law_word a__law_heard l__law_heard c__law_heard k__law_heard a__law_cells l__law_cells c__law_cells k__law_cells a__law_bytes l__law_bytes c__law_bytes k__law_bytes a__law_odd l__law_odd c__law_odd k__law_odd a__law_spoilt l__law_spoilt c__law_spoilt k__law_spoilt a__law_edge l__law_edge c__law_edge k__law_edge a__law_deed l__law_deed c__law_deed k__law_deed a__law_bad l__law_bad c__law_bad k__law_bad a__law_due l__law_due c__law_due k__law_due a__law_dressed l__law_dressed c__law_dressed k__law_dressed a__law_put l__law_put c__law_put k__law_put a__law_done l__law_done c__law_done k__law_done a__law_made_right l__law_made_right c__law_made_right k__law_made_right a__law_read l__law_read c__law_read k__law_read a__law_read_right l__law_read_right c__law_read_right k__law_read_right a__law_unlike_right l__law_unlike_right c__law_unlike_right k__law_unlike_right a_law l_law c_law k_law pg_Form hd_Form po_Form sa_Form mk_Form kc_Form no_Form_name no_Form_length no_Form_flow pg_CodeSet hd_CodeSet po_CodeSet sa_CodeSet mk_CodeSet kc_CodeSet no_CodeSet_stop no_CodeSet_order no_CodeSet_table pg_Image hd_Image po_Image sa_Image mk_Image kc_Image no_Image_cells z_len z_abs z_int z_list z_range z_isinstance z_bool z_str z_tuple z_all z_set z_sorted z_ValueError z_repr z_max z_min z_iter z_enumerate v_LETTERS aC_CodeError aC_BadCodes aC_BadLayout aC_BadRewrite aC_BadStep aC_BadText aC_NotRight aC_NoWay aC_BadInput zsuper znoop zgcn zgct ztop aC_BadAddress lkC_BadAddress bmC_BadAddress saC_BadAddress exC_BadAddress tyC_BadAddress kpC_BadAddress inC_BadAddress tiC_BadAddress noC_BadAddress_at gaC_BadAddress ggC_BadAddress hdC_BadAddress gcC_BadAddress moC_BadAddress l_BadAddressu_initu c_BadAddressu_initu k_BadAddressu_initu cl_BadAddressu_initu cf_BadAddressu_initu fe_BadAddressu_initu ce_BadAddressu_initu mrC_BadAddress suC_BadAddress svC_BadAddress aC_BadByte lkC_BadByte bmC_BadByte saC_BadByte exC_BadByte tyC_BadByte kpC_BadByte inC_BadByte tiC_BadByte noC_BadByte_at gaC_BadByte ggC_BadByte hdC_BadByte gcC_BadByte moC_BadByte l_BadByteu_initu c_BadByteu_initu k_BadByteu_initu cl_BadByteu_initu cf_BadByteu_initu fe_BadByteu_initu ce_BadByteu_initu mrC_BadByte suC_BadByte svC_BadByte aC_UnlikeLengths lkC_UnlikeLengths bmC_UnlikeLengths saC_UnlikeLengths exC_UnlikeLengths tyC_UnlikeLengths kpC_UnlikeLengths inC_UnlikeLengths tiC_UnlikeLengths noC_UnlikeLengths_one noC_UnlikeLengths_other gaC_UnlikeLengths ggC_UnlikeLengths hdC_UnlikeLengths gcC_UnlikeLengths moC_UnlikeLengths l_UnlikeLengthsu_initu c_UnlikeLengthsu_initu k_UnlikeLengthsu_initu cl_UnlikeLengthsu_initu cf_UnlikeLengthsu_initu fe_UnlikeLengthsu_initu ce_UnlikeLengthsu_initu mrC_UnlikeLengths suC_UnlikeLengths svC_UnlikeLengths aC_NotWhole lkC_NotWhole bmC_NotWhole saC_NotWhole exC_NotWhole tyC_NotWhole kpC_NotWhole inC_NotWhole tiC_NotWhole noC_NotWhole_place gaC_NotWhole ggC_NotWhole hdC_NotWhole gcC_NotWhole moC_NotWhole l_NotWholeu_initu c_NotWholeu_initu k_NotWholeu_initu cl_NotWholeu_initu cf_NotWholeu_initu fe_NotWholeu_initu ce_NotWholeu_initu mrC_NotWhole suC_NotWhole svC_NotWhole kit_BadAddress_BadAddress kit_BadAddress_BadByte kit_BadAddress_UnlikeLengths kit_BadAddress_BadCodes kit_BadAddress_BadLayout kit_BadAddress_BadRewrite kit_BadAddress_BadStep kit_BadAddress_BadText kit_BadAddress_NotRight kit_BadAddress_NoWay kit_BadAddress_BadInput kit_BadAddress_ValueError kit_BadByte_BadAddress kit_BadByte_BadByte kit_BadByte_UnlikeLengths kit_BadByte_BadCodes kit_BadByte_BadLayout kit_BadByte_BadRewrite kit_BadByte_BadStep kit_BadByte_BadText kit_BadByte_NotRight kit_BadByte_NoWay kit_BadByte_BadInput kit_BadByte_ValueError kit_UnlikeLengths_BadAddress kit_UnlikeLengths_BadByte kit_UnlikeLengths_UnlikeLengths kit_UnlikeLengths_BadCodes kit_UnlikeLengths_BadLayout kit_UnlikeLengths_BadRewrite kit_UnlikeLengths_BadStep kit_UnlikeLengths_BadText kit_UnlikeLengths_NotRight kit_UnlikeLengths_NoWay kit_UnlikeLengths_BadInput kit_UnlikeLengths_ValueError kit_Image_list exm_BadAddress_CodeError exm_BadByte_CodeError exm_UnlikeLengths_CodeError exm_NotWhole_NotWhole icc_Image icm_Image kit_Image_Image nee_Image kit_NoneType_Image kit_bool_Image kit_int_Image kit_str_Image kit_list_Image kit_tuple_Image nf_Image_Image nf_NoneType_Image nf_bool_Image nf_int_Image nf_str_Image nf_list_Image nf_tuple_Image nsq_Image spi_Imageu_getitemu coi_CodeSet rd_Form gat_Form rd_CodeSet gat_CodeSet cvF lkF cvM lam__law_done lam__law_made_right lne__law_done__law_made_right

end My
theorem PySem.Challenge.cw_codestitch_k07_image_bytes_holds : PySem.Challenge.rw_codestitch_k07_image_bytes.Holds := by
  exact My.top_of (sp := fun K => My.spLaw K My.TbN) My.all_mk2 (fun _ _ a ns _ _ hT hS hl q => ⟨a, ns, rfl, hS, hl, Vc.tabs0 hT (by simp [My.TbN, My.csN]), q⟩)
