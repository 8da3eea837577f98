import PyProof.Rows.All
import Wide.All
import OpenK.AllK
import Wide.FinOn
import HandS.ForMost
import HandS.Wide
import HandS.IsInst
import HandS.Evl
import HandS.Walk
import HandS.Strs
import HandS.Conv
import HandS.ClsMeth
import HandS.DictComp
import KE.KSuper
import KE.KExcSuper
import KE.KExcIs
import KE.RegKSuper
import KE.RegKIsAll
import KE.RegKTryMore
import HandS.ForExc
import HandS.ExcInit
import HandS.ExcIs
import HandS.ExcField
import HandS.Star
import HandS.Property
import HandS.HotCalls
import HandS.Codes
import HandS.Defaults
import HandS.MakeKw
import HandS.More
import HandS.FStr
import HandS.Finally
import HandS.Style
import PyProof.P3Eq
import HandS.OwnIter
import HandS.IterNext
import HandS.IterVal
import HandS.Iter
import HandS.Star
import HandS.WordsExc
import HandS.SetFor
import HandS.Strs
import KE.KDictList
import PyProof.LongRange
import HandS.TryOnly
import HandS.ExcInitHot
import KE.GoesMore
import PyProof.EnumMake
import HandS.MakeKwOnly
import HandS.Defaults
import KE.KOpsOwn
import HandS.RaiseMore
import PyProof.InstNe
import KE.KStar
import PyProof.ReprRoads
import PyProof.ReprBulk
import HandS.Lambda
import HandS.TupAny
import KE.OsRunLaw
import HandS.Ends
import PyProof.FitsInt
import PyProof.Rows.ReprOcc
import PyProof.Rows.StrJoinMade
import PyProof.StrLawsRepr
import HandS.EndTab
import HandS.EndBits
import HandS.ExcOwn
import HandS.CallSlots
import HandS.Deep
import HandS.Head0
import HandS.Head1
import HandS.Head2
import HandS.HeadEnd
import HandS.HeadHook1
import HandS.HeadHook2
import HandS.ExcInit
import HandS.Defaults
import KE.KSuper
import PySem.Challenge.RW_codestitch_k33_whole_more_writes_show_mo
import HandS.Comp
import HandS.EndOwn
import KE.KNestM
import HandS.Small
import HandS.OwnEq
import PyProof.MaxThree
import PyProof.GenQ
import PyProof.GenRules
import HandS.GenList
import HandS.GenYield
import HandS.GenCall
import HandS.TupSets
import HandS.SortOrd
import HandS.Dict
import KE.KDictPairs
import HandS.Words
import HandS.Base
import HandS.Call
set_option Elab.async false
set_option linter.all false
set_option maxRecDepth 100000
set_option maxHeartbeats 4000000
open PySem PySem.Spec PyProof.Rows L2
namespace Vc
open PySem PySem.Spec PyProof.Rows L2
structure Ed (S : List Addr) (H H' : Hp) : Prop where
 keep : ∀ a o, a ∉ S → H a = some o → H' a = some o
 tup : ∀ a xs, H a = some (.tup xs) → H' a = some (.tup xs)
 frz : ∀ a o u, H a = some (.frz o u) → H' a = some (.frz o u)
 dom : ∀ a, H' a = none → H a = none
theorem Ed.refl {S : List Addr} {H : Hp} : Ed S H H := ⟨fun _ _ _ h => h, fun _ _ h => h, fun _ _ _ h => h, fun _ h => h⟩
theorem Ed.new {S : List Addr} {H : Hp} {p : Addr} {o : HO} (h : H p = none) : Ed S H (upd H p o) where
 keep := fun a u _ e => by rw [upd_ne (ne_of_none e h)]; exact e
 tup := fun a u e => by rw [upd_ne (ne_of_none e h)]; exact e
 frz := fun a _ u e => by rw [upd_ne (ne_of_none e h)]; exact e
 dom := fun a e => by
  by_cases q : a = p
  ·rw [q]; exact h
  ·rw [upd_ne q] at e; exact e
theorem Ed.mut {H : Hp} {p : Addr} {o u : HO} (h : H p = some u) (m : Mut (some u)) : Ed [p] H (upd H p o) where
 keep := fun a v ha e => by
  have : a ≠ p := fun q => ha (by rw [q]; exact List.mem_singleton.mpr rfl)
  rw [upd_ne this]; exact e
 tup := fun a xs e => by
  have : a ≠ p := fun q => by rw [q, h] at e; cases e; exact m
  rw [upd_ne this]; exact e
 frz := fun a _ xs e => by
  have : a ≠ p := fun q => by rw [q, h] at e; cases e; exact m
  rw [upd_ne this]; exact e
 dom := fun a e => by
  by_cases q : a = p
  ·subst q; rw [upd_same] at e; cases e
  ·rw [upd_ne q] at e; exact e
theorem Ed.trans {S T : List Addr} {H H1 H2 : Hp} (a : Ed S H H1) (b : Ed T H1 H2) (hs : ∀ x ∈ T, x ∈ S ∨ H x = none) : Ed S H H2 where
 keep := fun x o hx e => by
  have e1 := a.keep x o hx e
  refine b.keep x o (fun z => ?_) e1
  rcases hs x z with q | q
  ·exact hx q
  ·rw [e] at q; cases q
 tup := fun x o e => b.tup x o (a.tup x o e)
 frz := fun x o u e => b.frz x o u (a.frz x o u e)
 dom := fun x e => a.dom x (b.dom x e)
theorem Ed.mono {S T : List Addr} {H H1 : Hp} (a : Ed S H H1) (hs : ∀ x ∈ S, x ∈ T) : Ed T H H1 :=
 ⟨fun x o hx e => a.keep x o (fun z => hx (hs x z)) e, a.tup, a.frz, a.dom⟩
theorem Ed.ex {S : List Addr} {H H1 H2 : Hp} (a : Ed S H H1) (b : Ed [] H1 H2) : Ed S H H2 := a.trans b fun _ z => nomatch z
theorem Ed.one {S : List Addr} {H H1 H2 : Hp} {p : Addr} (a : Ed S H H1) (b : Ed [p] H1 H2) (h : p ∈ S ∨ H p = none) : Ed S H H2 :=
 a.trans b fun x z => by rw [List.mem_singleton.mp z]; exact h
theorem Ed.same {H H' : Hp} (e : Ed [] H H') : Same H H' := fun a o h => e.keep a o (fun z => nomatch z) h
theorem Ed.at0 {H H' : Hp} {a : Addr} {o : HO} (e : Ed [] H H') (h : H a = some o) : H' a = some o := e.keep a o (fun z => nomatch z) h
theorem Ed.at1 {H H' : Hp} {a p : Addr} {o : HO} (e : Ed [p] H H') (n : a ≠ p) (h : H a = some o) : H' a = some o := e.keep a o (fun z => n (List.mem_singleton.mp z)) h
theorem Ed.at2 {H H' : Hp} {a p q : Addr} {o : HO} (e : Ed [p, q] H H') (n : a ≠ p) (m : a ≠ q) (h : H a = some o) : H' a = some o := e.keep a o (fun z => by
 rcases List.mem_cons.mp z with z | z
 ·exact n z
 ·exact m (List.mem_singleton.mp z)) h
theorem Ed.rdt {S : List Addr} {H H' : Hp} {a : Addr} {xs : List V} (e : Ed S H H') (h : Rd H a (.tup xs)) : Rd H' a (.tup xs) := by
 rcases h with h | ⟨o, h⟩
 ·exact .inl (e.tup _ _ h)
 ·exact .inr ⟨o, e.frz _ _ _ h⟩
theorem Ed.sqt {K : PySem.W.Frag} {S : List Addr} {H H' : Hp} {a : Addr} {xs : List V} (e : Ed S H H') (h : SqT K H a xs) : SqT K H' a xs := by
 rcases h with h | h
 ·exact .inl (e.rdt h)
 ·exact .inr h
theorem Ed.sql {K : PySem.W.Frag} {S : List Addr} {H H' : Hp} {a : Addr} {xs : List V} (e : Ed S H H') (n : a ∉ S) (h : SqL K H a xs) : SqL K H' a xs := by
 rcases h with (h | ⟨o, h⟩) | h
 ·exact .inl (.inl (e.keep _ _ n h))
 ·exact .inl (.inr ⟨o, e.frz _ _ _ h⟩)
 ·exact .inr h
theorem Ed.sql0 {K : PySem.W.Frag} {H H' : Hp} {a : Addr} {xs : List V} (e : Ed [] H H') (h : SqL K H a xs) : SqL K H' a xs := e.sql (fun z => nomatch z) h
theorem Ed.sql1 {K : PySem.W.Frag} {H H' : Hp} {a p : Addr} {xs : List V} (e : Ed [p] H H') (n : a ≠ p) (h : SqL K H a xs) : SqL K H' a xs := e.sql (fun z => n (List.mem_singleton.mp z)) h
theorem Ed.sqlk {K : PySem.W.Frag} {H H' : Hp} {a p : Addr} {o : HO} {xs : List V} (e : Ed [p] H H') (hp : H p = some o) (n : ∀ ys, o ≠ .lst ys) (h : SqL K H a xs) : SqL K H' a xs := by
 rcases h with (h | ⟨ob, h⟩) | h
 ·exact .inl (.inl (e.keep _ _ (fun z => by rw [List.mem_singleton.mp z, hp] at h; cases h; exact n xs rfl) h))
 ·exact .inl (.inr ⟨ob, e.frz _ _ _ h⟩)
 ·exact .inr h
mutual
theorem Dp.ed {K : PySem.W.Frag} {S : List Addr} {H H' : Hp} (e : Ed S H H') (hS : ∀ a ∈ S, ∀ xs, H a ≠ some (.lst xs)) : ∀ (d : PyData) (v : V), Dp K H v d → Dp K H' v d
 | .none, _, h => by cases h; exact .non
 | .bool b, _, h => by cases h; exact .bl b
 | .int i, _, h => by cases h; exact .int i
 | .str x, _, h => by cases h; exact .str x
 | .list ds, _, h => by
  cases h with
  | lst ha hd =>
   refine .lst ?_ (Dp.edAll e hS ds _ hd)
   rcases ha with (ha | ⟨ob, ha⟩) | ha
   ·exact .inl (.inl (e.keep _ _ (fun z => hS _ z _ ha) ha))
   ·exact .inl (.inr ⟨ob, e.frz _ _ _ ha⟩)
   ·exact .inr ha
 | .tuple ds, _, h => by
  cases h with
  | tup ha hd => exact .tup (e.sqt ha) (Dp.edAll e hS ds _ hd)
theorem Dp.edAll {K : PySem.W.Frag} {S : List Addr} {H H' : Hp} (e : Ed S H H') (hS : ∀ a ∈ S, ∀ xs, H a ≠ some (.lst xs)) : ∀ (ds : List PyData) (vs : List V), DpAll K H vs ds → DpAll K H' vs ds
 | [], _, h => by cases h; exact .nil
 | d :: ds, _, h => by
  cases h with
  | cons h1 h2 => exact .cons (Dp.ed e hS d _ h1) (Dp.edAll e hS ds _ h2)
end
theorem Dp.ed0 {K : PySem.W.Frag} {H H' : Hp} {d : PyData} {v : V} (e : Ed [] H H') (h : Dp K H v d) : Dp K H' v d := Dp.ed e (fun _ z => nomatch z) d v h
section
variable {K : PySem.W.Frag} {σ : L2.St} {H : Hp} {D : Ends} {Q : VK} {QB : Bool → Hp → Prop} {QA : List V → Hp → Prop} {te ta tb : TE} {tt tu : TT} {t u : TS} {g : TG} {v x y : V} {i j : Int}
theorem go_seq (h : t { D with nx := u D } σ H) : tSeq t u D σ H := h
theorem go_asg (h : te σ H fun x H1 => g x σ H1 D.nx) : tAsg te g D σ H := h
theorem go_drop (h : te σ H fun _ H1 => D.nx σ H1) : tDrop te D σ H := h
theorem go_ret (h : te σ H D.rt) : tRet te D σ H := h
theorem go_retN (h : D.rt .non H) : tRetN D σ H := h
theorem go_next (h : D.nx σ H) : tNext D σ H := h
theorem go_ifS (h : tt σ H fun b H1 => if b = true then t D σ H1 else u D σ H1) : tIfS tt t u D σ H := h
theorem go_name {n : Nat} {R : L2.St → Hp → Prop} (h : R (σ.set n (some v)) H) : gName n v σ H R := h
theorem go_test (h : te σ H fun x H' => ∃ k, x = .bl k ∧ QB k H') : tTest te σ H QB := h
theorem go_B (h : te σ H fun x H' => ∃ k, x = .bl k ∧ QB k H') : tB te σ H QB := h
theorem go_bl {b : Bool} {R : Bool → Prop} (h : R b) : ∃ k, V.bl b = .bl k ∧ R k := ⟨b, rfl, h⟩
theorem go_notT (h : tt σ H fun c H1 => QB (!c) H1) : tNot tt σ H QB := h
theorem go_andT (h : tt σ H fun c H1 => if c = true then tu σ H1 QB else QB false H1) : tAnd tt tu σ H QB := h
theorem go_orT (h : tt σ H fun c H1 => if c = true then QB true H1 else tu σ H1 QB) : tOr tt tu σ H QB := h
theorem go_yes (h : QB true H) : tYes σ H QB := h
theorem go_var {n : Nat} (e : σ[n]? = some (some v)) (h : Q v H) : tVar n σ H Q := ⟨v, e, h⟩
theorem go_c (h : Q v H) : tC v σ H Q := h
theorem go_op {r : R2} (h : ta σ H fun x H1 => tb σ H1 fun y H2 => r x y H2 Q) : tOp r ta tb σ H Q := h
theorem go_un {r : V → Hp → VK → Prop} (h : ta σ H fun x H1 => r x H1 Q) : tUn r ta σ H Q := h
theorem go_andV (h : ta σ H fun x H1 => ∃ c, x = .bl c ∧ if c = true then tb σ H1 Q else Q (.bl false) H1) : tAndV ta tb σ H Q := h
theorem go_orV (h : ta σ H fun x H1 => ∃ c, x = .bl c ∧ if c = true then Q (.bl true) H1 else tb σ H1 Q) : tOrV ta tb σ H Q := h
theorem go_notV (h : ta σ H fun x H1 => ∃ c, x = .bl c ∧ Q (.bl (!c)) H1) : tNotV ta σ H Q := h
theorem go_blP {b : Bool} {P : Bool → Prop} (h : P b) : ∃ c, V.bl b = .bl c ∧ P c := ⟨b, rfl, h⟩
theorem go_if (h : tt σ H fun c H1 => if c = true then ta σ H1 Q else tb σ H1 Q) : tIf tt ta tb σ H Q := h
theorem go_I0 {f : Int → Int → V} (h : Q (f i j) H) : rI0 f (.int i) (.int j) H Q := ⟨i, j, rfl, rfl, h⟩
theorem go_I {C : Int → Int → Prop} {f : Int → Int → V} (hc : C i j) (h : Q (f i j) H) : rI C f (.int i) (.int j) H Q := ⟨i, j, rfl, rfl, hc, h⟩
theorem go_U {f : Int → V} (h : Q (f i) H) : rU f (.int i) H Q := ⟨i, rfl, h⟩
theorem go_eqI (h : Q (.bl (decide (i = j))) H) : rEq (.int i) (.int j) H Q := ⟨rfl, by
 have : decide (V.int i = V.int j) = decide (i = j) := by rw [Bool.eq_iff_iff]; simp
 rw [this]; exact h⟩
theorem go_neI (h : Q (.bl (!decide (i = j))) H) : rNe (.int i) (.int j) H Q := ⟨rfl, by
 have : decide (V.int i = V.int j) = decide (i = j) := by rw [Bool.eq_iff_iff]; simp
 rw [this]; exact h⟩
theorem go_eqS {a b : Str} (h : Q (.bl (decide (a = b))) H) : rEq (.str a) (.str b) H Q := ⟨rfl, by
 have : decide (V.str a = V.str b) = decide (a = b) := by rw [Bool.eq_iff_iff]; simp
 rw [this]; exact h⟩
theorem go_neS {a b : Str} (h : Q (.bl (!decide (a = b))) H) : rNe (.str a) (.str b) H Q := ⟨rfl, by
 have : decide (V.str a = V.str b) = decide (a = b) := by rw [Bool.eq_iff_iff]; simp
 rw [this]; exact h⟩
theorem go_eqB {a b : Bool} (h : Q (.bl (decide (a = b))) H) : rEq (.bl a) (.bl b) H Q := ⟨rfl, by
 have : decide (V.bl a = V.bl b) = decide (a = b) := by rw [Bool.eq_iff_iff]; simp
 rw [this]; exact h⟩
theorem go_neB {a b : Bool} (h : Q (.bl (!decide (a = b))) H) : rNe (.bl a) (.bl b) H Q := ⟨rfl, by
 have : decide (V.bl a = V.bl b) = decide (a = b) := by rw [Bool.eq_iff_iff]; simp
 rw [this]; exact h⟩
theorem go_cb {r : List V → Hp → VK → Prop} {ts : TA} (h : ts σ H fun vs H1 => r vs H1 Q) : tCB r ts σ H Q := h
theorem go_nil (h : QA [] H) : tNil σ H QA := h
theorem go_cons {tr : TA} (h : ta σ H fun x H1 => tr σ H1 fun xs H2 => QA (x :: xs) H2) : tCons ta tr σ H QA := h
theorem go_call {sp : Sp} {E : XK} {ts : TA} (h : ts σ H fun vs H1 => sp vs H1 Q E) : tCall sp [] E ts σ H Q := by
 unfold tCall
 simpa only [List.append_nil] using h
theorem go_tup {ts : TA} (h : ts σ H fun xs H1 => xs.length ≤ sizeLine ∧ ∀ p, H1 p = none → Q (.ref p) (upd H1 p (.tup xs))) : tTup ts σ H Q := h
theorem go_lst {ts : TA} (h : ts σ H fun xs H1 => xs.length ≤ sizeLine ∧ ∀ p, H1 p = none → Q (.ref p) (upd H1 p (.lst xs))) : tLst ts σ H Q := h
theorem go_len {xs : List V} {P : Prop} (hl : xs.length ≤ 1000) (h : P) : xs.length ≤ sizeLine ∧ P := ⟨Nat.le_of_lt (small1000 hl), h⟩
theorem go_dnew (h : ∀ p, H p = none → Q (.ref p) (upd H p (.dK []))) : tDNewK σ H Q := h
theorem go_dget (h : ta σ H fun x H1 => tb σ H1 fun y H2 => ∃ a v, x = .ref a ∧ DGet H2 a y (some v) ∧ Q v H2) : tDGet ta tb σ H Q := h
theorem go_dgetS {a : Addr} {k : Str} {kvs : List (Key × V)} {v : V} {R : V → Prop} (e : H a = some (.dK kvs)) (ev : valV kvs (.inr k) = some v) (h : R v) : ∃ a' v', V.ref a = .ref a' ∧ DGet H a' (.str k) (some v') ∧ R v' :=
 ⟨a, v, rfl, by rw [← ev]; exact DGet.k (k := .inr k) e, h⟩
theorem go_dgetI {a : Addr} {k : Int} {kvs : List (Key × V)} {v : V} {R : V → Prop} (e : H a = some (.dK kvs)) (ev : valV kvs (.inl k) = some v) (h : R v) : ∃ a' v', V.ref a = .ref a' ∧ DGet H a' (.int k) (some v') ∧ R v' :=
 ⟨a, v, rfl, by rw [← ev]; exact DGet.k (k := .inl k) e, h⟩
theorem go_din (h : ta σ H fun y H1 => tb σ H1 fun x H2 => ∃ a o, x = .ref a ∧ DGet H2 a y o ∧ Q (.bl o.isSome) H2) : tDIn ta tb σ H Q := h
theorem go_dnotin (h : ta σ H fun y H1 => tb σ H1 fun x H2 => ∃ a o, x = .ref a ∧ DGet H2 a y o ∧ Q (.bl (!o.isSome)) H2) : tDNotIn ta tb σ H Q := h
theorem go_dinI {a : Addr} {k : Int} {kvs : List (Key × V)} {P : Option V → Prop} (e : H a = some (.dK kvs)) (h : P (valV kvs (.inl k))) : ∃ a' o, V.ref a = .ref a' ∧ DGet H a' (.int k) o ∧ P o :=
 ⟨a, _, rfl, DGet.k (k := .inl k) e, h⟩
theorem go_dput {tv : TE} (h : tv σ H fun v H1 => ta σ H1 fun x H2 => tb σ H2 fun y H3 => ∃ a H4, x = .ref a ∧ DPut H3 a y v H4 ∧ D.nx σ H4) : sDPut ta tb tv D σ H := h
theorem go_dputS {a : Addr} {k : Str} {kvs : List (Key × V)} {v : V} {P : Hp → Prop} (e : H a = some (.dK kvs)) (hl : kvs.length ≤ 1000) (h : P (upd H a (.dK (putK kvs (.inr k) v)))) : ∃ a' H4, V.ref a = .ref a' ∧ DPut H a' (.str k) v H4 ∧ P H4 :=
 ⟨a, _, rfl, DPut.k (k := .inr k) e (small1000 hl), h⟩
theorem go_dputI {a : Addr} {k : Int} {kvs : List (Key × V)} {v : V} {P : Hp → Prop} (e : H a = some (.dK kvs)) (hl : kvs.length ≤ 1000) (h : P (upd H a (.dK (putK kvs (.inl k) v)))) : ∃ a' H4, V.ref a = .ref a' ∧ DPut H a' (.int k) v H4 ∧ P H4 :=
 ⟨a, _, rfl, DPut.k (k := .inl k) e (small1000 hl), h⟩
theorem go_ixL {p : Addr} {xs : List V} (hs : SqL K H p xs) (ha : atI xs i = some v) (h : Q v H) : rIxL K (.ref p) (.int i) H Q := ⟨p, xs, i, v, rfl, rfl, hs, ha, h⟩
theorem go_ixT {p : Addr} {xs : List V} (hs : SqT K H p xs) (ha : atI xs i = some v) (h : Q v H) : rIxT K (.ref p) (.int i) H Q := ⟨p, xs, i, v, rfl, rfl, hs, ha, h⟩
theorem go_ixS {z : Str} {c : Nat} (hz : z.length ≤ 1000) (ha : atI z.cps.toList i = some c) (h : Q (.str ⟨#[c]⟩) H) : rIxS (.str z) (.int i) H Q := ⟨z, i, c, rfl, rfl, Nat.le_of_lt (small1000 hz), ha, h⟩
theorem go_sl {r : V → Option Int → Option Int → Hp → VK → Prop} {tl th : TO} (h : te σ H fun x H1 => tl σ H1 fun l H2 => th σ H2 fun u H3 => r x l u H3 Q) : tSl r te tl th σ H Q := h
theorem go_nopart {QO : Option Int → Hp → Prop} (h : QO none H) : tNoPart σ H QO := h
theorem go_part {QO : Option Int → Hp → Prop} (h : te σ H fun x H1 => ∃ i, x = .int i ∧ QO (some i) H1) : tPart te σ H QO := h
theorem go_partI {P : Int → Prop} (h : P i) : ∃ j, V.int i = .int j ∧ P j := ⟨i, rfl, h⟩
theorem go_slL {p : Addr} {xs : List V} {lo hi : Option Int} (hs : SqL K H p xs) (h : ∀ q, H q = none → Q (.ref q) (upd H q (.lst (cutV xs lo hi)))) : rSlL K (.ref p) lo hi H Q := ⟨p, xs, rfl, hs, h⟩
theorem go_slS {z : Str} {lo hi : Option Int} (hz : z.length ≤ 1000) (h : Q (.str (cutS z lo hi)) H) : rSlS (.str z) lo hi H Q := ⟨z, rfl, Nat.le_of_lt (small1000 hz), h⟩
theorem go_abs {R : Int → Prop} (h : R i) : ∃ j, [V.int i] = [.int j] ∧ R j := ⟨i, rfl, h⟩
theorem go_int1 {R : Int → Prop} {R' : Bool → Prop} (h : R i) : (∃ j, [V.int i] = [.int j] ∧ R j) ∨ ∃ k, [V.int i] = [.bl k] ∧ R' k := .inl ⟨i, rfl, h⟩
theorem go_int1b {k : Bool} {R : Int → Prop} {R' : Bool → Prop} (h : R' k) : (∃ j, [V.bl k] = [.int j] ∧ R j) ∨ ∃ k', [V.bl k] = [.bl k'] ∧ R' k' := .inr ⟨k, rfl, h⟩
theorem go_bm {T : String} {r : V → List V → Hp → VK → Prop} {to : TE} {ts : TA} (h : to σ H fun x H1 => tyV K T x H1 ∧ ts σ H1 fun xs H2 => r x xs H2 Q) : tBM K T r to ts σ H Q := h
theorem go_bm0 {T : String} {r : V → List V → Hp → VK → Prop} {to : TE} (h : to σ H fun x H1 => tyV K T x H1 ∧ r x [] H1 Q) : tBM0 K T r to σ H Q := h
theorem go_tyL {p : Addr} {xs : List V} {P : Prop} (e : SqL K H p xs) (h : P) : tyV K "list" (.ref p) H ∧ P := ⟨.inl ⟨rfl, xs, e⟩, h⟩
theorem go_append {p : Addr} {xs : List V} (e : H p = some (.lst xs)) (hl : xs.length ≤ 1000) (h : Q .non (upd H p (.lst (xs ++ [v])))) : rAppend (.ref p) [v] H Q := ⟨p, xs, v, rfl, rfl, e, small1000 hl, h⟩
theorem go_lenL {p : Addr} {xs : List V} {R : List V → Prop} (e : SqL K H p xs) (h : R xs) : ∃ q ys, [V.ref p] = [.ref q] ∧ (SqL K H q ys ∨ SqT K H q ys) ∧ R ys := ⟨p, xs, rfl, .inl e, h⟩
theorem go_lenT {p : Addr} {xs : List V} {R : List V → Prop} (e : SqT K H p xs) (h : R xs) : ∃ q ys, [V.ref p] = [.ref q] ∧ (SqL K H q ys ∨ SqT K H q ys) ∧ R ys := ⟨p, xs, rfl, .inr e, h⟩
theorem go_for {wi : TI} (h : wi σ H fun J H1 => ∃ W : Nat → Nat → L2.St → Hp → Prop, (∃ m, W 0 m σ H1) ∧ ∀ i m σ H, W i m σ H →
 (J.stop i H ∧ D.nx σ H) ∨ (J.go i H ∧ ∃ N : L2.St → Hp → Prop, (∀ σ' H', N σ' H' → ∃ m', m' < m ∧ W (i + 1) m' σ' H') ∧ ∀ x H', J.yld i H x H' → g x σ H' fun σ2 H2 => t { D with nx := N, ct := N, bk := D.nx } σ2 H2)) : tFor wi g t D σ H := h
theorem go_iList {tl : TE} {R : It → Hp → Prop} (h : tl σ H fun x H1 => ∃ a, x = .ref a ∧ (∃ xs, SqL K H1 a xs) ∧ R (Itl K a) H1) : iList K tl σ H R := h
theorem go_iTup {tl : TE} {R : It → Hp → Prop} (h : tl σ H fun x H1 => ∃ a, x = .ref a ∧ (∃ xs, SqT K H1 a xs) ∧ R (Itt K a) H1) : iTup K tl σ H R := h
theorem go_iRng1 {ts : TA} {R : It → Hp → Prop} (h : ts σ H fun vs H1 => ∃ j : Int, vs = [.int j] ∧ -(2 ^ 62) ≤ j ∧ j < 2 ^ 62 ∧ R (Itr 0 j.toNat) H1) : iRng1 ts σ H R := h
theorem go_iRng2 {ts : TA} {R : It → Hp → Prop} (h : ts σ H fun vs H1 => ∃ i j : Int, vs = [.int i, .int j] ∧ (-(2 ^ 62) ≤ i ∧ i < 2 ^ 62 ∧ -(2 ^ 62) ≤ j ∧ j < 2 ^ 62) ∧ R (Itr i (j - i).toNat) H1) : iRng2 ts σ H R := h
theorem go_iStr {tl : TE} {R : It → Hp → Prop} (h : tl σ H fun v H1 => ∃ x, v = .str x ∧ R (Its x) H1) : iStr tl σ H R := h
theorem go_lc {wi : TI} {vs : List Nat} (h : wi σ H fun J H1 => ∀ D, H1 D = none → ∃ W : Nat → Nat → Hp → Prop, (∃ m, W 0 m (upd H1 D (.lst []))) ∧ ∀ i m H, W i m H →
 (J.stop i H ∧ Q (.ref D) H) ∨ (J.go i H ∧ ∃ Nx : Hp → Prop, (∀ H', Nx H' → ∃ m', m' < m ∧ W (i + 1) m' H') ∧ ∀ x H', J.yld i H x H' → g x (wipe σ vs) H' fun σ2 H2 => wipe σ2 vs = wipe σ vs ∧ tt σ2 H2 fun b H3 =>
  if b = true then te σ2 H3 fun y H4 => ∃ acc, H4 D = some (.lst acc) ∧ acc.length < sizeLine ∧ Nx (upd H4 D (.lst (acc ++ [y]))) else Nx H3)) : tLc wi g tt te vs σ H Q := h
theorem lc_by {J : It} {n : Nat} {G : Hp → Prop} {Y : Nat → Hp → V → Hp → Prop} {vs : List Nat} {R : Addr → Hp → Prop} (w : Walk J n G Y) (Pv : Addr → Nat → Hp → Prop) (h0 : ∀ D H2, H D = none → Ed [] H H2 → H2 D = some (.lst []) → Pv D 0 H2) (hG : ∀ D i H', H D = none → i ≤ n → Pv D i H' → G H')
  (hs : ∀ D i x H1 H', H D = none → i < n → Pv D i H1 → Y i H1 x H' → g x (wipe σ vs) H' fun σ2 H2 => wipe σ2 vs = wipe σ vs ∧ tt σ2 H2 fun b H3 =>
   if b = true then te σ2 H3 fun y H4 => ∃ acc, H4 D = some (.lst acc) ∧ acc.length < sizeLine ∧ Pv D (i + 1) (upd H4 D (.lst (acc ++ [y]))) else Pv D (i + 1) H3) (hd : ∀ D H', H D = none → Pv D n H' → R D H') :
  ∀ D, H D = none → ∃ W : Nat → Nat → Hp → Prop, (∃ m, W 0 m (upd H D (.lst []))) ∧ ∀ i m H, W i m H →
   (J.stop i H ∧ R D H) ∨ (J.go i H ∧ ∃ Nx : Hp → Prop, (∀ H', Nx H' → ∃ m', m' < m ∧ W (i + 1) m' H') ∧ ∀ x H', J.yld i H x H' → g x (wipe σ vs) H' fun σ2 H2 => wipe σ2 vs = wipe σ vs ∧ tt σ2 H2 fun b H3 =>
    if b = true then te σ2 H3 fun y H4 => ∃ acc, H4 D = some (.lst acc) ∧ acc.length < sizeLine ∧ Nx (upd H4 D (.lst (acc ++ [y]))) else Nx H3) := fun D nD =>
 lc_it w (Pv D) (h0 D _ nD (Ed.new nD) upd_same) (fun i H' hi p => hG D i H' nD hi p) (fun i x H1 H' hi p y => hs D i x H1 H' nD hi p y) (fun H' p => hd D H' nD p)
theorem go_disp {trs : List (TE × TE)} (h : ∀ p, H p = none → tPairs trs σ (upd H p (.dK [])) fun ps H2 => H2 p = some (.dK []) ∧ ∃ kvs : List (Key × V), ps = kvs.map (fun kv => (kV kv.1, kv.2)) ∧ kvs.length ≤ 15 ∧ Q (.ref p) (upd H2 p (.dK (mergeK [] kvs)))) : tDisp trs σ H Q := h
theorem go_pairs {tk tv : TE} {trs : List (TE × TE)} {R : List (V × V) → Hp → Prop} (h : tk σ H fun k H1 => tv σ H1 fun v H2 => tPairs trs σ H2 fun ps H3 => R ((k, v) :: ps) H3) : tPairs ((tk, tv) :: trs) σ H R := h
theorem go_pairs0 {R : List (V × V) → Hp → Prop} (h : R [] H) : tPairs [] σ H R := h
theorem alloc {p : Addr} {o : HO} {H2 : Hp} (hu : upd H p o = H2) (h : H p = none) : Ed [] H H2 ∧ H2 p = some o := by subst hu; exact ⟨Ed.new h, upd_same⟩
theorem chg {p : Addr} {o u : HO} {H2 : Hp} (hu : upd H p o = H2) (h : H p = some u) (m : Mut (some u) := by trivial) : Ed [p] H H2 ∧ H2 p = some o := by subst hu; exact ⟨Ed.mut h m, upd_same⟩
theorem go_ite {c : Prop} [Decidable c] {A B : Prop} (h1 : c → A) (h2 : ¬ c → B) : if decide c = true then A else B := by
 by_cases h : c
 ·rw [if_pos (decide_eq_true h)]; exact h1 h
 ·rw [if_neg (fun z => h (of_decide_eq_true z))]; exact h2 h
theorem go_iten {c : Prop} [Decidable c] {A B : Prop} (h1 : ¬ c → A) (h2 : c → B) : if (!decide c) = true then A else B := by
 by_cases h : c
 ·rw [decide_eq_true h]; exact iteF (h2 h)
 ·rw [decide_eq_false h]; exact iteT (h1 h)
end
theorem ne1 {H : Hp} {a b : Addr} {o : HO} (h' : H b = none) (h : H a = some o) : a ≠ b := ne_of_none h h'
theorem ne2 {H : Hp} {a b : Addr} {o : HO} (h' : H a = none) (h : H b = some o) : a ≠ b := (ne_of_none h h').symm
theorem nek {H : Hp} {a b : Addr} {o u : HO} (h : H a = some o) (h' : H b = some u) (d : o ≠ u) : a ≠ b := ne_of h h' d
theorem Ed.ex' {S : List Addr} {H H1 H2 : Hp} (b : Ed [] H1 H2) (a : Ed S H H1) : Ed S H H2 := a.ex b
theorem Ed.one' {S : List Addr} {H H1 H2 : Hp} {p : Addr} (b : Ed [p] H1 H2) (a : Ed S H H1) (h : p ∈ S ∨ H p = none) : Ed S H H2 := a.one b h
theorem Ed.two' {S : List Addr} {H H1 H2 : Hp} {p q : Addr} (b : Ed [p, q] H1 H2) (a : Ed S H H1) (h : p ∈ S ∨ H p = none) (h' : q ∈ S ∨ H q = none) : Ed S H H2 :=
 a.trans b fun x z => by
  rcases List.mem_cons.mp z with z | z
  ·rw [z]; exact h
  ·rw [List.mem_singleton.mp z]; exact h'
theorem Ed.back {S : List Addr} {H H' : Hp} {a : Addr} (e : Ed S H H') (h : H' a = none) : H a = none := e.dom a h
theorem sqt_of {K : PySem.W.Frag} {H : Hp} {a : Addr} {xs : List V} (h : H a = some (.tup xs)) : SqT K H a xs := .inl (.inl h)
theorem go_neL {α : Type} [DecidableEq α] {a : α} {A B : Prop} (h : B) : if (!decide (a = a)) = true then A else B := by rw [decide_eq_true rfl]; exact iteF h
theorem go_eqL {α : Type} [DecidableEq α] {a : α} {A B : Prop} (h : A) : if decide (a = a) = true then A else B := by rw [decide_eq_true rfl]; exact iteT h
theorem go_nT {A B : Prop} (h : B) : if (!true) = true then A else B := iteF h
theorem go_nF {A B : Prop} (h : A) : if (!false) = true then A else B := iteT h
theorem go_iteT' {c : Prop} [Decidable c] {A B : Prop} (hc : c) (h : A) : if decide c = true then A else B := by rw [decide_eq_true hc]; exact iteT h
theorem go_iteF' {c : Prop} [Decidable c] {A B : Prop} (hc : ¬ c) (h : B) : if decide c = true then A else B := by rw [decide_eq_false hc]; exact iteF h
theorem go_itenT' {c : Prop} [Decidable c] {A B : Prop} (hc : ¬ c) (h : A) : if (!decide c) = true then A else B := by rw [decide_eq_false hc]; exact iteT h
theorem go_itenF' {c : Prop} [Decidable c] {A B : Prop} (hc : c) (h : B) : if (!decide c) = true then A else B := by rw [decide_eq_true hc]; exact iteF h
theorem go_strE {z : Str} {R : Str → Prop} (h : R z) : ∃ x, V.str z = .str x ∧ R x := ⟨z, rfl, h⟩
theorem go_sign {c : Nat} {z : Str} {R : Nat → Str → Prop} (h : R c z) : ∃ c' z', V.str ⟨#[c]⟩ = .str ⟨#[c']⟩ ∧ V.str z = .str z' ∧ R c' z' := ⟨c, z, rfl, rfl, h⟩
theorem go_lenS {z : Str} {R : Str → Prop} (l : z.length ≤ 1000) (h : R z) : ∃ x, [V.str z] = [.str x] ∧ x.length ≤ sizeLine ∧ R x := ⟨z, rfl, Nat.le_of_lt (small1000 l), h⟩
theorem go_isN {R : Prop} (h : R) : V.non = V.non ∧ R := ⟨rfl, h⟩
theorem go_iteN {x : V} {A B : Prop} (hx : x ≠ .non) (h : B) : if decide (x = V.non) = true then A else B := by rw [decide_eq_false hx]; exact iteF h
theorem go_iteNT {A B : Prop} (h : A) : if decide (V.non = V.non) = true then A else B := iteT h
theorem kit_int_int : kitB "int" "int" = some true := by decide +kernel
theorem kit_int_bool : kitB "int" "bool" = some false := by decide +kernel
theorem kit_int_str : kitB "int" "str" = some false := by decide +kernel
theorem kit_int_tuple : kitB "int" "tuple" = some false := by decide +kernel
theorem kit_int_list : kitB "int" "list" = some false := by decide +kernel
theorem kit_int_dict : kitB "int" "dict" = some false := by decide +kernel
theorem kit_bool_int : kitB "bool" "int" = some true := by decide +kernel
theorem kit_bool_bool : kitB "bool" "bool" = some true := by decide +kernel
theorem kit_bool_str : kitB "bool" "str" = some false := by decide +kernel
theorem kit_bool_tuple : kitB "bool" "tuple" = some false := by decide +kernel
theorem kit_bool_list : kitB "bool" "list" = some false := by decide +kernel
theorem kit_bool_dict : kitB "bool" "dict" = some false := by decide +kernel
theorem kit_str_int : kitB "str" "int" = some false := by decide +kernel
theorem kit_str_bool : kitB "str" "bool" = some false := by decide +kernel
theorem kit_str_str : kitB "str" "str" = some true := by decide +kernel
theorem kit_str_tuple : kitB "str" "tuple" = some false := by decide +kernel
theorem kit_str_list : kitB "str" "list" = some false := by decide +kernel
theorem kit_str_dict : kitB "str" "dict" = some false := by decide +kernel
theorem kit_NoneType_int : kitB "NoneType" "int" = some false := by decide +kernel
theorem kit_NoneType_bool : kitB "NoneType" "bool" = some false := by decide +kernel
theorem kit_NoneType_str : kitB "NoneType" "str" = some false := by decide +kernel
theorem kit_NoneType_tuple : kitB "NoneType" "tuple" = some false := by decide +kernel
theorem kit_NoneType_list : kitB "NoneType" "list" = some false := by decide +kernel
theorem kit_NoneType_dict : kitB "NoneType" "dict" = some false := by decide +kernel
theorem kit_list_int : kitB "list" "int" = some false := by decide +kernel
theorem kit_list_bool : kitB "list" "bool" = some false := by decide +kernel
theorem kit_list_str : kitB "list" "str" = some false := by decide +kernel
theorem kit_list_tuple : kitB "list" "tuple" = some false := by decide +kernel
theorem kit_list_list : kitB "list" "list" = some true := by decide +kernel
theorem kit_list_dict : kitB "list" "dict" = some false := by decide +kernel
theorem kit_tuple_int : kitB "tuple" "int" = some false := by decide +kernel
theorem kit_tuple_bool : kitB "tuple" "bool" = some false := by decide +kernel
theorem kit_tuple_str : kitB "tuple" "str" = some false := by decide +kernel
theorem kit_tuple_tuple : kitB "tuple" "tuple" = some true := by decide +kernel
theorem kit_tuple_list : kitB "tuple" "list" = some false := by decide +kernel
theorem kit_tuple_dict : kitB "tuple" "dict" = some false := by decide +kernel
theorem kit_dict_int : kitB "dict" "int" = some false := by decide +kernel
theorem kit_dict_bool : kitB "dict" "bool" = some false := by decide +kernel
theorem kit_dict_str : kitB "dict" "str" = some false := by decide +kernel
theorem kit_dict_tuple : kitB "dict" "tuple" = some false := by decide +kernel
theorem kit_dict_list : kitB "dict" "list" = some false := by decide +kernel
theorem kit_dict_dict : kitB "dict" "dict" = some true := by decide +kernel
section
variable {K : PySem.W.Frag} {H : Hp} {Q : VK} {x : V}
theorem tyL {a : Addr} {xs : List V} (h : SqL K H a xs) : TyX K H (.ref a) (.type "list") := by
 rcases h with (h | ⟨o, h⟩) | ⟨o, _, _, h, c, _⟩
 ·exact .base (.lst h)
 ·exact .base (.frz h)
 ·exact .kList h c
theorem tyT {a : Addr} {xs : List V} (h : SqT K H a xs) : TyX K H (.ref a) (.type "tuple") := by
 rcases h with (h | ⟨o, h⟩) | ⟨o, _, _, h, c, _⟩
 ·exact .base (.tup h)
 ·exact .fTuple h
 ·exact .kTuple h c
theorem go_isi {n m : String} {b : Bool} (ht : TyX K H x (.type n)) (hk : kitB n m = some b) (h : Q (.bl b) H) : rIsi K [x, .ty m] H Q := ⟨x, .ty m, .type n, .type m, b, rfl, .ty m, ht, kit_ty hk, h⟩
theorem or_t {b : Bool} : (true || b) = true := rfl
theorem or_f {b : Bool} : (false || b) = b := rfl
theorem go_isiT2 {tp : Addr} {n m m' : String} {b b' c : Bool} (ht : TyX K H x (.type n)) (e : H tp = some (.tup [.ty m, .ty m'])) (hk : kitB n m = some b) (hk' : kitB n m' = some b') (hc : (b || b') = c) (h : Q (.bl c) H) : rIsiT K [x, .ref tp] H Q :=
 ⟨x, tp, _, .type n, [.type m, .type m'], b || b', rfl, e, .cons (.ty m) (.cons (.ty m') .nil), ht,
  kitAny_cons (kit_ty hk) (fun z => by subst z; exact kitAny_cons (kit_ty hk') (fun z => by subst z; exact kitAny_nil) fun z => by subst z; rfl) fun z => by subst z; rfl, by rw [hc]; exact h⟩
end
theorem cut_take (xs : List V) (k : Nat) : cutV xs none (some (k : Int)) = xs.take k := by
 unfold cutV
 rw [HT.sIx_nat, HT.sIx_none, List.drop_zero, Nat.sub_zero]
 rcases Nat.le_total k xs.length with h | h
 ·rw [Nat.min_eq_left h]
 ·rw [Nat.min_eq_right h, List.take_length, List.take_of_length_le h]
theorem cut_mid (xs : List V) (j k : Nat) : cutV xs (some (j : Int)) (some (k : Int)) = (xs.drop j).take (k - j) := by
 unfold cutV
 rw [HT.sIx_nat, HT.sIx_nat]
 rcases Nat.le_total j xs.length with h | h
 ·rw [Nat.min_eq_left h]
  rcases Nat.le_total k xs.length with h' | h'
  ·rw [Nat.min_eq_left h']
  ·rw [Nat.min_eq_right h', List.take_of_length_le (by rw [List.length_drop]; omega), List.take_of_length_le (by rw [List.length_drop]; omega)]
 ·rw [Nat.min_eq_right h, List.drop_of_length_le h, List.drop_length, List.take_nil, List.take_nil]
theorem mulw {i j : Int} (hi : i.natAbs < 2 ^ 200) (hj : j.natAbs < 2 ^ 200) : CMulW i j := wide_mul (a := 200) (b := 200) hi hj (by decide) (by decide) (by decide)
theorem divw {i j : Int} (h : 0 < j) (hj : j.natAbs < 2 ^ 200) : CDivW i j := wide_div (b := 200) h hj (by decide) (by decide)
end Vc
namespace Setn
open PySem PySem.Spec PyProof.Rows L2
theorem getD_take {xs : List Str} {i : Nat} (h : i < xs.length) : xs.take (i + 1) = xs.take i ++ [xs.getD i Str.empty] := by
 rw [List.take_add_one, List.getElem?_eq_getElem h, List.getD_eq_getElem?_getD, List.getElem?_eq_getElem h]; rfl
theorem any_beq (l : List Str) (k : Str) : l.any (· == k) = decide (k ∈ l) := by
 rw [Bool.eq_iff_iff, List.any_eq_true, decide_eq_true_eq]
 constructor
 ·rintro ⟨x, hx, e⟩
  have := eq_of_beq e
  subst this
  exact hx
 ·exact fun h => ⟨k, h, beq_self_eq_true k⟩
def cn (xs : List Str) : Nat → Nat
 | 0 => 0
 | i + 1 => if (xs.take i).any (· == xs.getD i Str.empty) = true then cn xs i else cn xs i + 1
theorem cn_le (xs : List Str) : ∀ i, cn xs i ≤ i
 | 0 => Nat.le_refl 0
 | i + 1 => by
  have := cn_le xs i
  unfold cn
  split <;> omega
theorem cn_eq {xs : List Str} : ∀ {i : Nat}, i ≤ xs.length → (cn xs i = i ↔ (xs.take i).Nodup)
 | 0, _ => by simp [cn]
 | i + 1, h => by
  have ih := cn_eq (xs := xs) (i := i) (by omega)
  have le := cn_le xs i
  rw [getD_take (by omega)]
  unfold cn
  rw [any_beq, List.nodup_append]
  by_cases hm : xs.getD i Str.empty ∈ xs.take i
  ·rw [if_pos (by simpa using hm)]
   constructor
   ·intro e; omega
   ·rintro ⟨_, _, d⟩
    exact absurd rfl (d _ hm _ (by simp))
  ·rw [if_neg (by simpa using hm)]
   constructor
   ·intro e
    refine ⟨ih.mp (by omega), by simp, fun a ha b hb e => ?_⟩
    rw [List.mem_singleton] at hb
    rw [e, hb] at ha
    exact hm ha
   ·rintro ⟨d, _⟩
    rw [ih.mpr d]
theorem cn_nd {xs : List Str} (h : xs.Nodup) : cn xs xs.length = xs.length := (cn_eq (Nat.le_refl _)).mpr (by rw [List.take_length]; exact h)
section
variable {prog : Program} {w : World} {A : Around} {R : Result → Shared → Prop} {I : Addr} {fp wr : List Addr} {G : Array GenState → Array GenState → Prop} {n : Nat} {P : Nat → Value → Prop} {St : Nat → Shared → Prop}
theorem loopD (W : WalksS prog w A.in1 I fp wr G n P St) (S : Addr) (hSf : S ∉ fp) (xs : List Str) (hsz : xs.length = n) (hn : n + 1 < scanBound)
  (hval : ∀ i v, P i v → ∃ t, v = .str (xs.getD i Str.empty) t) : ∀ (k i : Nat) (s : Shared), n - i = k → i ≤ n → St i s → s.heap.SetOf (PySem.strKind prog w) S (fun k' => (xs.take i).any (· == k')) (cn xs i) →
   (∀ s', Moved (S :: wr) G s s' → s'.heap.SetOf (PySem.strKind prog w) S (fun k' => (xs.take n).any (· == k')) (cn xs n) → R (.ok (.ret .none)) s') → codeAny (model prog w) A (.builtin "set.update.loop" ⟨[.ref S, .ref I], []⟩) R s := by
 have nw : S ∉ wr := fun h => hSf (W.sub _ h)
 have sw : ∀ b ∈ wr, b ∈ S :: wr := fun b hb => List.mem_cons_of_mem _ hb
 intro k
 induction k with
 | zero =>
  intro i s hk hi st hS hR
  obtain rfl : i = n := by omega
  refine codeAny_builtin F.entry_set_update_loop ?_
  rw [Around.under_plainId F.plain_set_update_loop _]; show wpAny _ A.in1 (pyNext (.ref I) >>= _) _ _ s
  refine wpAny_bind (W.done s _ _ st fun s' hm => ?_); show wpAny _ A.in1 (ret Value.none) _ _ s'
  refine wpAny_pure (hR s' (hm.mono sw) ?_)
  obtain ⟨o, es, ep, t, ho, rest⟩ := hS; exact ⟨o, es, ep, t, hm.heap S _ nw ho, rest⟩
 | succ k ih =>
  intro i s hk hi st hS hR
  have lt : i < n := by omega
  refine codeAny_builtin F.entry_set_update_loop ?_
  rw [Around.under_plainId F.plain_set_update_loop _]; show wpAny _ A.in1 (pyNext (.ref I) >>= _) _ _ s
  refine wpAny_bind (W.item i s _ _ lt st fun v s' hP st' hm => ?_); obtain ⟨t, rfl⟩ := hval i v hP
  have hS' : s'.heap.SetOf (PySem.strKind prog w) S (fun k' => (xs.take i).any (· == k')) (cn xs i) := by
   obtain ⟨o, es, ep, tb, ho, rest⟩ := hS; exact ⟨o, es, ep, tb, hm.heap S _ nw ho, rest⟩
  show wpAny _ A.in1 (holding [Value.str (xs.getD i Str.empty) t] (setAdd S (.str (xs.getD i Str.empty) t)) >>= _) _ _ s'
  refine wpAny_bind (wpAny_holding ?_); unfold setAdd; refine wpAny_holding ?_
  refine wpAny_bind ((PySem.strKind prog w).pyHash (k := xs.getD i Str.empty) (strKind_is _ _ _ _) ?_)
  refine wpAny_setAddHashed_of (knd := PySem.strKind prog w) (s := { s' with toks := s'.toks + 1 }) (strKind_is _ _ _ _) rfl hS' (by have := cn_le xs i; omega) fun h' sb hS2 => ?_
  have hS3 : h'.SetOf (PySem.strKind prog w) S (fun k' => (xs.take (i + 1)).any (· == k')) (cn xs (i + 1)) := SetOf_congr hS2 (fun k' => by
   rw [getD_take (by omega), List.any_append]
   congr 1
   rw [any_beq, Bool.eq_iff_iff]; simp) rfl
  refine wpAny_pure ⟨plainId_quiet F.plain_set_update_loop _, ih (i + 1) _ (by omega) lt (W.frame _ s' _ _ st' (Nat.le_succ _) fun b hb o e => ?_) hS3 fun s'' hm'' hS'' => ?_⟩
  ·rw [sb.2 b (fun h : b = S => hSf (h ▸ hb))]; exact e
  ·refine hR s'' (Moved.trans W.gtrans ((hm.mono sw).then_heap (Nat.le_succ _) fun b o hb e => ?_) hm'') hS''
   rw [sb.2 b (fun h : b = S => hb (h ▸ List.mem_cons_self))]; exact e
end
abbrev setO (led : Bool) : Obj := { cls := .type "set", dict := none, data := .set #[] 0 (.fresh 0 0 led) }
section
variable {prog : Program} {w : World} {A : Around} {E : Value → Shared → Prop} {s : Shared}
theorem call_setD {l : Addr} {items : Array Value} {xs : List Str} {Q : Value → Shared → Prop} (hh : A.handled = none) (hl : s.heap.IsList l items) (hi : StrsAre items.toList xs) (hn1 : xs.length + 1 < scanBound)
  (h : ∀ (h' : Heap) (tk : Nat), h'.SetOf (PySem.strKind prog w) s.heap.objs.size (fun k' => (xs.take items.size).any (· == k')) (cn xs items.size) → (∀ b o, b < s.heap.objs.size → s.heap.get? b = some o → h'.get? b = some o) → Q (.ref s.heap.objs.size) { s with heap := h', toks := tk }) :
  wpAny (model prog w) A (call (.type "set") [.ref l]) Q E s := by
 obtain ⟨c, tl, hmro⟩ := PySem.F.called_set.mro
 have hmade := PySem.F.called_set.made; have hsub := PySem.F.called_set.sub
 refine wpAny_call (codeAny_of_tree ?_); show wpAny _ _ (callAny (.type "set") _) _ _ _
 refine wpAny_pure ⟨Code.quiet_builtin _ (by decide +kernel), codeAny_builtin PySem.F.entry_type_call ?_⟩; rw [Around.under_plain (weight_type_call_type "set" [.ref l] []) rfl]
 have h1 := PySem.F.called_set.notType; have h2 := PySem.F.called_set.canCreate; have hct := PySem.F.typeCall_set_1 (.ref l)
 repeat (any_goals (first | assumption | wp_step))
 refine codeAny_mono (code_set_new_1 (.ref l) (E := E) (Q₁ := fun obj s₁ => ∃ led : Bool, obj = .ref s.heap.objs.size ∧ s₁ = { s with heap := s.heap.push (setO led) }) fun led => ⟨led, rfl, rfl⟩) fun r s₁ hr => ?_
 cases r with
 | error e => exact hr
 | ok fl =>
  cases fl with
  | ret obj =>
   obtain ⟨led, rfl, rfl⟩ := hr
   have hS : (s.heap.push (setO led)).get? s.heap.objs.size = some (setO led) := Heap.get?_push_size _ rfl
   have hT : Shared.TypeIs { s with heap := s.heap.push (setO led) } (.ref s.heap.objs.size) "set" := ⟨_, hS, rfl⟩
   have hli := PySem.F.called_set.init.lookup; have hbi := PySem.F.called_set.init.bind (.ref s.heap.objs.size)
   repeat (any_goals (first | assumption | wp_step))
   refine codeAny_mono (codeAny_call_builtin (R := wants (fun r s₂ => r = .none ∧ ∃ h' tk, s₂ = { s with heap := h', toks := tk } ∧ h'.SetOf (PySem.strKind prog w) s.heap.objs.size (fun k' => (xs.take items.size).any (· == k')) (cn xs items.size) ∧
     (∀ b o, b < s.heap.objs.size → s.heap.get? b = some o → h'.get? b = some o)) E) PySem.F.called_set.init.plain PySem.F.entry_set_init (check_set_init_1 hT ?_)) fun r₂ s₂ hr₂ => ?_
   ·obtain ⟨ol, hol, hcl, nl, hdl⟩ := hl
    obtain ⟨ocls, odict, odata, oslots⟩ := ol
    simp only at hcl hdl; subst hcl; subst hdl
    have hol' : (s.heap.push (setO led)).get? l = some { cls := .type "list", dict := odict, data := .seq items nl, slots := oslots } := Heap.get?_push_of_some _ hol
    have hsls := PySem.F.sub_list_set; have hslf := PySem.F.sub_list_frozenset
    have hne : (Value.type "list" == Value.type "dict") = false := by decide
    have hl1 : (s.heap.push (setO led)).IsList l items := ⟨_, hol', rfl, nl, rfl⟩
    unfold Builtin.«set.__init__» noKeywords Builtin.Frozenset.updateFrom
    generalize hPI : pyIter = PI
    wp_walk
    subst hPI
    refine wpAny_pyIter_list hl1 ?_; refine wpAny_bind (wpAny_runValue ?_)
    have ll : l < s.heap.objs.size := Heap.lt_size hol
    have h3 : A.in1.in1.in1.handled = none := by simp [hh]
    have nI : l ≠ (s.heap.push (setO led)).objs.size := by rw [Heap.size_push]; exact Nat.ne_of_lt (Nat.lt_succ_of_lt ll)
    have hSf : s.heap.objs.size ∉ [(s.heap.push (setO led)).objs.size, l] := by
     rw [Heap.size_push]; simp only [List.mem_cons, List.not_mem_nil, or_false, not_or]; exact ⟨Nat.ne_of_lt (Nat.lt_succ_self _), Nat.ne_of_gt ll⟩
    have hsz : xs.length = items.size := by rw [← StrsAre.len_eq hi, Array.length_toList]
    have hval : ∀ (i : Nat) (v : Value), items[i]? = some v → ∃ t, v = .str (xs.getD i Str.empty) t := fun i v hv => SS.strs_at hi i v (by rw [Array.getElem?_toList]; exact hv)
    refine loopD ((Walks.list h3 _ l nI items).toS) s.heap.objs.size hSf xs hsz (by rw [← hsz]; exact hn1) hval (items.size - 0) 0 _ (by omega) (Nat.zero_le _) ⟨⟨_, Heap.get?_push_size _ rfl, rfl, rfl⟩, (hl1.push _)⟩ ?hS0 ?hR
    case hS0 =>
     have hget : ((s.heap.push (setO led)).push { cls := .type "list_iterator", data := .fields #[.ref l, .int 0 0] }).get? s.heap.objs.size = some (setO led) := Heap.get?_push_of_some _ hS
     exact SetOf_congr ((setObjOf_fresh (knd := PySem.strKind prog w) led).setOf hget (by unfold scanBound; omega)) (fun _ => rfl) rfl
    case hR =>
     intro s' hm hS'
     obtain ⟨h', g', d', tk', os'⟩ := s'
     obtain rfl : g' = s.gens := hm.gens
     obtain rfl : d' = s.drawn := hm.drawn
     obtain rfl : os' = s.os := hm.os
     show wpAny _ _ _ _ _ _; refine wpAny_pure ?_; show wpAny _ _ (ret Value.none) _ _ _
     refine wpAny_pure ⟨rfl, h', tk', rfl, hS', fun b o hb e => ?_⟩
     have b1 : b ≠ s.heap.objs.size := Nat.ne_of_lt hb
     have b2 : b ≠ (s.heap.push (setO led)).objs.size := by rw [Heap.size_push]; exact Nat.ne_of_lt (Nat.lt_succ_of_lt hb)
     exact hm.heap b o (by simp only [List.mem_cons, List.not_mem_nil, or_false, not_or]; exact ⟨b1, b2⟩) (Heap.get?_push_of_some _ (Heap.get?_push_of_some _ e))
   ·cases r₂ with
    | error e => exact hr₂
    | ok fl₂ =>
     cases fl₂ with
     | ret r =>
      obtain ⟨rfl, h', tk, rfl, hS', hk'⟩ := hr₂
      repeat (any_goals (first | assumption | wp_step))
      exact h _ _ hS' hk'
     | _ => exact hr₂.elim
  | _ => exact hr.elim
end
def tLenSetN (K : PySem.W.Frag) (ta : TE) : TE := fun σ H Q => ta σ H fun x H1 => ∃ l, ∃ xs : List Str, x = .ref l ∧ SqL K H1 l (xs.map V.str) ∧ xs.length ≤ 1000 ∧ Q (.int (cn xs xs.length)) H1
section
variable {X : Cx}
theorem pe_lenSetN {a : Expr} {ta : TE} {p p2 q pos : Pos} (hc : X.calm = true) (hg : Gl X "len") (hm : X.mg "len" = none) (hg2 : Gl X "set") (hm2 : X.mg "set" = none) (ha : PE X a ta) (na : starEach [a] X.env = (false, eval a X.env) :: starEach [] X.env := by rfl) :
  PE X (.Call (.Name "len" p) [.Call (.Name "set" p2) [a] [] q] [] pos) (tLenSetN X.K ta) := by
 refine ⟨fun pins s σ H Q I h => ?_⟩
 refine Call_ (ld_blt I hg hm boot_len ?_); refine PyProof.Rows.callWith_builtin1 (PyProof.Rows.args_cons ?_ rfl) rfl rfl
 refine Call_ (ld_blt I hg2 hm2 boot_set ?_)
 refine PyProof.Rows.callWith_type1 (PyProof.Rows.args_cons (thn (ha.run pins s σ H _ I h) fun v s1 ⟨x, H1, I1, r1, q1⟩ => PyProof.Rows.args_nil ?_) na) na rfl
 obtain ⟨l, xs, rfl, hq, hz, q1⟩ := q1
 cases r1
 obtain ⟨its, r, pl, _⟩ := I1.list hq
 have hl : its.toArray.size = xs.length := by rw [List.size_toArray, ← r.length, List.length_map]
 refine call_setD (I1.ok.hd hc) pl.isList (by simpa using strsAre_of r) (by unfold scanBound; omega) fun h' tk hS hk => ?_
 refine PyProof.Rows.args_nil ?_
 rw [hl] at hS
 obtain ⟨o, es, ep, t, ho, hex, hd, _, _, _, hf, hn⟩ := hS
 have I2 : Inv X pins σ H1 { s1 with heap := h', toks := tk } := I1.kept fun b o e => hk b o (Heap.lt_size e) e
 exact call_len_set ho hex hd hf (by rw [hn]; have := cn_le xs xs.length; omega) ⟨.int (cn xs xs.length), H1, I2.tok _, ⟨_, by rw [hn]⟩, q1⟩
end
end Setn
namespace Vc
open PySem PySem.Spec PyProof.Rows L2
section
variable {K : PySem.W.Frag} {σ : L2.St} {H : Hp} {Q : VK} {ta : TE}
theorem go_lenSet (h : ta σ H fun x H1 => ∃ l, ∃ xs : List Str, x = .ref l ∧ SqL K H1 l (xs.map V.str) ∧ xs.length ≤ 1000 ∧ Q (.int (Setn.cn xs xs.length)) H1) : Setn.tLenSetN K ta σ H Q := h
theorem go_lenSetC {a : Addr} {xs : List Str} {R : List Str → Prop} (e : SqL K H a (xs.map V.str)) (l : xs.length ≤ 1000) (h : R xs) : ∃ l', ∃ ys : List Str, V.ref a = .ref l' ∧ SqL K H l' (ys.map V.str) ∧ ys.length ≤ 1000 ∧ R ys := ⟨a, xs, rfl, e, l, h⟩
end
end Vc
namespace Vc
open PySem PySem.Spec PyProof.Rows L2
theorem blkE {Y : Cx} {e : Expr} {t' t : TE} (h : PE Y e t') (q : t' = t) : PE Y e t := q ▸ h
theorem blkT {Y : Cx} {e : List Expr} {t' t : TT} (h : PTs Y e t') (q : t' = t) : PTs Y e t := q ▸ h
section
variable {K : PySem.W.Frag} {σ : L2.St} {H : Hp} {D : Ends} {Q : VK} {te ta tb tc tv : TE} {f : Str} {v x y : V} {i j : Int} {ts : TA} {g : TG} {t : TS} {tt : TT}
theorem go_chain {r r' : R2} (h : ta σ H fun x H1 => tb σ H1 fun y H2 => r x y H2 fun z H3 => ∃ k, z = .bl k ∧ (if k = true then tc σ H3 fun w' H4 => r' y w' H4 Q else Q (.bl false) H3)) : tChain r r' ta tb tc σ H Q := h
theorem go_cvalR (h : ta σ H fun x H1 => ∃ C mc v u, x = .ref C ∧ ClX.CRead K C mc ∧ ClX.CVal K C mc f v u ∧ Q v H1) : ClX.tCVal K ta f σ H Q := h
theorem go_cval {C : Addr} {mc u : Value} {R : V → Prop} (hr : ClX.CRead K C mc) (hv : ClX.CVal K C mc f v u) (h : R v) : ∃ C' mc' v' u', V.ref C = .ref C' ∧ ClX.CRead K C' mc' ∧ ClX.CVal K C' mc' f v' u' ∧ R v' := ⟨C, mc, v, u, rfl, hr, hv, h⟩
theorem go_fld (h : ta σ H fun x H1 => ∃ a C dx fs v, x = .ref a ∧ H1 a = some (.ins C dx fs) ∧ Cls K C ∧ NoAttr K C f ∧ fs.lookup f = some v ∧ Q v H1) : tFld K ta f σ H Q := h
theorem go_fldV {a C dx : Addr} {fs : List (Str × V)} {R : V → Prop} (e : H a = some (.ins C dx fs)) (hl : fs.lookup f = some v) (c : Cls K C) (n : NoAttr K C f) (h : R v) :
  ∃ a' C' dx' fs' v', V.ref a = .ref a' ∧ H a' = some (.ins C' dx' fs') ∧ Cls K C' ∧ NoAttr K C' f ∧ fs'.lookup f = some v' ∧ R v' := ⟨a, C, dx, fs, v, rfl, e, c, n, hl, h⟩
theorem go_sfld (h : tv σ H fun y H1 => ta σ H1 fun x H2 => ∃ a C dx fs, x = .ref a ∧ H2 a = some (.ins C dx fs) ∧ Cls K C ∧ NoAttr K C f ∧ fs.length < 1000 ∧ D.nx σ (upd H2 a (.ins C dx (putF f y fs)))) : sFld K ta tv f D σ H := h
theorem go_sfldV {a C dx : Addr} {fs : List (Str × V)} {R : Hp → Prop} (e : H a = some (.ins C dx fs)) (l : fs.length < 1000) (c : Cls K C) (n : NoAttr K C f) (h : R (upd H a (.ins C dx (putF f v fs)))) :
  ∃ a' C' dx' fs', V.ref a = .ref a' ∧ H a' = some (.ins C' dx' fs') ∧ Cls K C' ∧ NoAttr K C' f ∧ fs'.length < 1000 ∧ R (upd H a' (.ins C' dx' (putF f v fs'))) := ⟨a, C, dx, fs, rfl, e, c, n, l, h⟩
theorem go_make {C : Addr} {sp : Sp} {E : XK} (h : ts σ H fun vs H1 => ∀ x dx, H1 x = none → H1 dx = none → dx ≠ x → sp (.ref x :: vs) (upd (upd H1 dx (.own x)) x (.ins C dx [])) (fun v H2 => v = .non ∧ Q (.ref x) H2) E) : tMake C sp [] E ts σ H Q := by
 unfold tMake
 simpa only [List.append_nil] using h
theorem go_meth {C : Addr} {m : Str} {sp : Sp} {E : XK} (h : ta σ H fun x H1 => ∃ a dx fs, x = .ref a ∧ H1 a = some (.ins C dx fs) ∧ fs.lookup m = none ∧ ts σ H1 fun vs H2 => sp (x :: vs) H2 Q E) : tMeth C m sp [] E ta ts σ H Q := by
 unfold tMeth
 simpa only [List.append_nil] using h
theorem go_methV {a C dx : Addr} {fs : List (Str × V)} {m : Str} {R : Prop} (e : H a = some (.ins C dx fs)) (l : fs.lookup m = none) (h : R) : ∃ a' dx' fs', V.ref a = .ref a' ∧ H a' = some (.ins C dx' fs') ∧ fs'.lookup m = none ∧ R := ⟨a, dx, fs, rfl, e, l, h⟩
theorem allocI {C p dx : Addr} {H2 : Hp} (hu : upd (upd H dx (.own p)) p (.ins C dx []) = H2) (np : H p = none) (nd : H dx = none) (ne : dx ≠ p) : Ed [] H H2 ∧ H2 p = some (.ins C dx []) ∧ H2 dx = some (.own p) := by
 subst hu
 have n1 : (upd H dx (.own p)) p = none := by rw [upd_ne ne.symm]; exact np
 exact ⟨(Ed.new nd).ex (Ed.new n1), upd_same, by rw [upd_ne ne]; exact upd_same⟩
theorem go_dgetIF {a : Addr} {k : Int} {o : Obj} {kvs : List (Key × V)} {R : V → Prop} (e : H a = some (.frz o (.dK kvs))) (ev : valV kvs (.inl k) = some v) (h : R v) : ∃ a' v', V.ref a = .ref a' ∧ DGet H a' (.int k) (some v') ∧ R v' :=
 ⟨a, v, rfl, .inl ⟨kvs, .inl k, .inr ⟨o, e⟩, rfl, ev.symm⟩, h⟩
theorem go_sorted {a : Addr} {ns : List Int} (e : SqL K H a (ns.map V.int)) (l : ns.length < 64) (h : ∀ (ns' : List Int) (p : Addr), ns'.Perm ns → ns'.Pairwise (· ≤ ·) → H p = none → Q (.ref p) (upd H p (.lst (ns'.map V.int)))) : rSorted K [.ref a] H Q := ⟨a, ns, rfl, e, l, h⟩
theorem go_listD {a : Addr} {kvs : List (Key × V)} (e : H a = some (.dK kvs)) (h : ∀ q, H q = none → Q (.ref q) (upd H q (.lst (kvs.map fun kv => kV kv.1)))) : rListD [.ref a] H Q := ⟨a, kvs, rfl, e, h⟩
theorem go_lenD {a : Addr} {kvs : List (Key × V)} {R : List (Key × V) → Prop} (e : H a = some (.dK kvs)) (h : R kvs) : ∃ b ls, [V.ref a] = [V.ref b] ∧ H b = some (.dK ls) ∧ R ls := ⟨a, kvs, rfl, e, h⟩
theorem go_in {a : Addr} {neg : Bool} {xs : List V} (e : SqL K H a xs ∨ SqT K H a xs) (hx : flatV x = true) (hf : xs.all flatV = true) (h : Q (.bl (if neg then !inV x xs else inV x xs)) H) : rIn K neg x (.ref a) H Q := ⟨a, xs, rfl, e, hx, hf, h⟩
theorem go_inL {a : Addr} {xs : List V} (e : SqL K H a xs) (hx : flatV x = true) (hf : xs.all flatV = true) (h : Q (.bl (inV x xs)) H) : rIn K false x (.ref a) H Q := go_in (neg := false) (.inl e) hx hf h
theorem go_inT {a : Addr} {xs : List V} (e : SqT K H a xs) (hx : flatV x = true) (hf : xs.all flatV = true) (h : Q (.bl (inV x xs)) H) : rIn K false x (.ref a) H Q := go_in (neg := false) (.inr e) hx hf h
theorem go_niL {a : Addr} {xs : List V} (e : SqL K H a xs) (hx : flatV x = true) (hf : xs.all flatV = true) (h : Q (.bl (!inV x xs)) H) : rIn K true x (.ref a) H Q := go_in (neg := true) (.inl e) hx hf h
theorem go_niT {a : Addr} {xs : List V} (e : SqT K H a xs) (hx : flatV x = true) (hf : xs.all flatV = true) (h : Q (.bl (!inV x xs)) H) : rIn K true x (.ref a) H Q := go_in (neg := true) (.inr e) hx hf h
theorem go_dc {wi : TI} {tk : TE} {vs : List Nat} (h : wi σ H fun J H1 => ∀ D, H1 D = none → ∃ W : Nat → Nat → Hp → Prop, (∃ m, W 0 m (upd H1 D (.dK []))) ∧ ∀ i m H, W i m H →
 (J.stop i H ∧ Q (.ref D) H) ∨ (J.go i H ∧ ∃ Nx : Hp → Prop, (∀ H', Nx H' → ∃ m', m' < m ∧ W (i + 1) m' H') ∧ ∀ x H', J.yld i H x H' → g x (wipe σ vs) H' fun σ2 H2 => wipe σ2 vs = wipe σ vs ∧ tt σ2 H2 fun b H3 =>
  if b = true then tk σ2 H3 fun y H4 => tv σ2 H4 fun z H5 => ∃ kvs k, y = kV k ∧ H5 D = some (.dK kvs) ∧ kvs.length < sizeLine ∧ Nx (upd H5 D (.dK (putK kvs k z))) else Nx H3)) : tDc wi g tt tk tv vs σ H Q := h
theorem go_aug {n : Nat} {ti : TIp} {x : V} (e : σ[n]? = some (some x)) (h : te σ H fun y H1 => ti x y H1 fun z H2 => D.nx (σ.set n (some z)) H2) : tAug n te ti D σ H := ⟨x, e, h⟩
theorem go_ipI {f : Int → Int → Int} (h : Q (.int (f i j)) H) : ipI f (.int i) (.int j) H Q := ⟨i, j, rfl, rfl, h⟩
theorem go_addS {a b : Str} {R : Str → Str → Prop} (l : a.length + b.length ≤ 1000) (h : R a b) : ∃ i j, V.str a = .str i ∧ V.str b = .str j ∧ i.length + j.length ≤ sizeLine ∧ R i j := ⟨a, b, rfl, rfl, Nat.le_of_lt (small1000 l), h⟩
theorem go_M1 {r : V → List V → Hp → VK → Prop} (h : ta σ H fun x H1 => (∃ a, x = .str a) ∧ tb σ H1 fun y H2 => r x [y] H2 Q) : tM1 r ta tb σ H Q := h
theorem go_M0 {r : V → List V → Hp → VK → Prop} (h : ta σ H fun x H1 => (∃ a, x = .str a) ∧ r x [] H1 Q) : tM0 r ta σ H Q := h
theorem go_isS {z : Str} {R : Prop} (h : R) : (∃ a, V.str z = .str a) ∧ R := ⟨⟨z, rfl⟩, h⟩
theorem go_join {a : Str} {p : Addr} {ys : List Str} {R : Str → List Str → Prop} (e : SqL K H p (ys.map V.str)) (l : (ys.map (·.length)).sum + ys.length * a.length ≤ 16777216) (h : R a ys) :
  ∃ a' p', ∃ zs : List Str, V.str a = .str a' ∧ [V.ref p] = [.ref p'] ∧ (SqL K H p' (zs.map V.str) ∨ SqT K H p' (zs.map V.str)) ∧ (zs.map (·.length)).sum + zs.length * a'.length ≤ 16777216 ∧ R a' zs := ⟨a, p, ys, rfl, rfl, .inl e, l, h⟩
theorem go_sub {to ti : TE} {ts : TSet} {R : L2.St → Hp → Prop} (h : to σ H fun o H1 => ti σ H1 fun i H2 => ts o i v H2 fun H3 => R σ H3) : gSub to ti ts v σ H R := h
theorem go_setL {p : Addr} {xs : List V} {k : Int} {j : Nat} {R : Hp → Prop} (e : H p = some (.lst xs)) (hj : ixN xs.length k = some j) (h : R (upd H p (.lst (xs.set j v)))) : rSetL (.ref p) (.int k) v H R := ⟨p, xs, k, j, rfl, rfl, e, hj, h⟩
theorem dc_by {J : It} {n : Nat} {G : Hp → Prop} {Y : Nat → Hp → V → Hp → Prop} {tk : TE} {vs : List Nat} {R : Addr → Hp → Prop} (w : Walk J n G Y) (Pv : Addr → Nat → Hp → Prop) (h0 : ∀ D H2, H D = none → Ed [] H H2 → H2 D = some (.dK []) → Pv D 0 H2) (hG : ∀ D i H', H D = none → i ≤ n → Pv D i H' → G H')
  (hs : ∀ D i x H1 H', H D = none → i < n → Pv D i H1 → Y i H1 x H' → g x (wipe σ vs) H' fun σ2 H2 => wipe σ2 vs = wipe σ vs ∧ tt σ2 H2 fun b H3 =>
   if b = true then tk σ2 H3 fun y H4 => tv σ2 H4 fun z H5 => ∃ kvs k, y = kV k ∧ H5 D = some (.dK kvs) ∧ kvs.length < sizeLine ∧ Pv D (i + 1) (upd H5 D (.dK (putK kvs k z))) else Pv D (i + 1) H3) (hd : ∀ D H', H D = none → Pv D n H' → R D H') :
  ∀ D, H D = none → ∃ W : Nat → Nat → Hp → Prop, (∃ m, W 0 m (upd H D (.dK []))) ∧ ∀ i m H, W i m H →
   (J.stop i H ∧ R D H) ∨ (J.go i H ∧ ∃ Nx : Hp → Prop, (∀ H', Nx H' → ∃ m', m' < m ∧ W (i + 1) m' H') ∧ ∀ x H', J.yld i H x H' → g x (wipe σ vs) H' fun σ2 H2 => wipe σ2 vs = wipe σ vs ∧ tt σ2 H2 fun b H3 =>
    if b = true then tk σ2 H3 fun y H4 => tv σ2 H4 fun z H5 => ∃ kvs k, y = kV k ∧ H5 D = some (.dK kvs) ∧ kvs.length < sizeLine ∧ Nx (upd H5 D (.dK (putK kvs k z))) else Nx H3) := fun D nD => by
 refine ⟨fun i m H' => m = n - i ∧ i ≤ n ∧ Pv D i H', ⟨n, by simp, Nat.zero_le _, h0 D _ nD (Ed.new nD) upd_same⟩, ?_⟩
 rintro i m H1 ⟨rfl, hi, p⟩
 have q := hG D i H1 nD hi p
 by_cases hlt : i < n
 ·exact .inr ⟨w.goes i H1 hlt q, Pv D (i + 1), fun H' p' => ⟨n - (i + 1), by omega, rfl, hlt, p'⟩, fun x H' y => hs D i x H1 H' nD hlt p (w.yields i H1 x H' hlt q y)⟩
 ·have : i = n := by omega
  subst this
  exact .inl ⟨w.stops H1 q, hd D H1 nD p⟩
theorem all_sqt {a : Addr} {xs : List V} (h : ∀ H, SqT K H a xs) (H : Hp) : SqT K H a xs := h H
theorem frz' {S : List Addr} {H' : Hp} {a : Addr} {o : Obj} {u : HO} (e : Ed S H H') (h : H a = some (.frz o u)) : H' a = some (.frz o u) := e.frz _ _ _ h
theorem unlock {S : List Addr} {d : Addr} {u : HO} {od : Obj} {H1 H' H2 : Hp} (h : H d = some u) (m : Mut (some u)) (e1 : upd H d (.frz od u) = H1) (e2 : Ed S H1 H') (e3 : upd H' d u = H2) :
  Ed S H H2 ∧ H2 d = some u ∧ ∀ a o, a ≠ d → H' a = some o → H2 a = some o := by
 subst e1 e3
 have nf : ∀ ob w, u ≠ .frz ob w := fun ob w z => by rw [z] at m; exact m
 have nt : ∀ xs, u ≠ .tup xs := fun xs z => by rw [z] at m; exact m
 refine ⟨⟨fun a o ha e => ?_, fun a xs e => ?_, fun a ob w e => ?_, fun a e => ?_⟩, upd_same, fun a o n e => by rw [upd_ne n]; exact e⟩
 ·by_cases q : a = d
  ·subst q; rw [h] at e; cases e; exact upd_same
  ·rw [upd_ne q]; exact e2.keep a o ha (by rw [upd_ne q]; exact e)
 ·by_cases q : a = d
  ·subst q; rw [h] at e; cases e; exact (nt _ rfl).elim
  ·rw [upd_ne q]; exact e2.tup a xs (by rw [upd_ne q]; exact e)
 ·by_cases q : a = d
  ·subst q; rw [h] at e; cases e; exact (nf _ _ rfl).elim
  ·rw [upd_ne q]; exact e2.frz a ob w (by rw [upd_ne q]; exact e)
 ·by_cases q : a = d
  ·subst q; rw [upd_same] at e; cases e
  ·rw [upd_ne q] at e
   have := e2.dom a e
   rw [upd_ne q] at this; exact this
theorem lock_keys {n : Nat} {d : Addr} {kvs : List (Key × V)} (hv : σ[n]? = some (some (.ref d))) (hd : H d = some (.dK kvs)) (S : List Addr) (Pv : Hp → Nat → L2.St → Hp → Prop) (hE : ∀ H1 i σ' H', Pv H1 i σ' H' → Ed S H1 H')
  (h0 : ∀ H1 od, Ed [d] H H1 → H1 d = some (.frz od (.dK kvs)) → Pv H1 0 σ H1)
  (turn : ∀ H1 od i k w σ' H', Ed [d] H H1 → H1 d = some (.frz od (.dK kvs)) → H' d = some (.frz od (.dK kvs)) → kvs[i]? = some (k, w) → Pv H1 i σ' H' →
   g (kV k) σ' H' fun σ2 H2 => t { nx := Pv H1 (i + 1), ct := Pv H1 (i + 1), rt := fun v H3 => H3 d = some (.frz od (.dK kvs)) ∧ D.rt v (upd H3 d (.dK kvs)), bk := fun σ3 H3 => H3 d = some (.frz od (.dK kvs)) ∧ D.nx σ3 (upd H3 d (.dK kvs)) } σ2 H2)
  (done : ∀ H1 σ' H' H2, Ed [d] H H1 → Pv H1 kvs.length σ' H' → Ed S H H2 → H2 d = some (.dK kvs) → (∀ a o, a ≠ d → H' a = some o → H2 a = some o) → D.nx σ' H2) : tLock (tFor (iKeys (tVar n)) g t) D σ H := by
 refine ⟨d, .dK kvs, hd, trivial, fun od => ?_⟩
 generalize hu : upd H d (.frz od (.dK kvs)) = H1
 obtain ⟨e1, h1⟩ := chg hu hd
 refine ⟨_, hv, d, od, rfl, .inl ⟨kvs, h1, for_it walk_keys (Pv H1) (h0 H1 od e1 h1) (fun i σ' H' _ p => (hE _ _ _ _ p).frz _ _ _ h1) (fun i x σ' H' H2 hi p y => ?_) fun σ' H' p => ?_⟩⟩
 ·obtain ⟨rfl, k, w, hk, rfl⟩ := y
  exact turn H1 od i k w σ' H2 e1 h1 ((hE _ _ _ _ p).frz _ _ _ h1) hk p
 ·obtain ⟨e2, h2, k2⟩ := unlock hd trivial hu (hE _ _ _ _ p) rfl
  exact ⟨(hE _ _ _ _ p).frz _ _ _ h1, done H1 σ' H' _ e1 p e2 h2 k2⟩
theorem lockA_keys {n m : Nat} {d : Addr} {kvs : List (Key × V)} {vs : List Nat} (hv : σ[n]? = some (some (.ref d))) (hd : H d = some (.dK kvs)) (S : List Addr) (Pv : Hp → Addr → Nat → Hp → Prop) (hE : ∀ H1 L i H', Pv H1 L i H' → Ed S H1 H')
  (h0 : ∀ H1 od L H2, Ed [d] H H1 → H1 d = some (.frz od (.dK kvs)) → H1 L = none → Ed [] H1 H2 → H2 L = some (.lst []) → Pv H1 L 0 H2)
  (turn : ∀ H1 od L i k w H', Ed [d] H H1 → H1 L = none → H' d = some (.frz od (.dK kvs)) → kvs[i]? = some (k, w) → Pv H1 L i H' →
   g (kV k) (wipe σ vs) H' fun σ2 H2 => wipe σ2 vs = wipe σ vs ∧ tt σ2 H2 fun b H3 => if b = true then te σ2 H3 fun y H4 => ∃ acc, H4 L = some (.lst acc) ∧ acc.length < sizeLine ∧ Pv H1 L (i + 1) (upd H4 L (.lst (acc ++ [y]))) else Pv H1 L (i + 1) H3)
  (done : ∀ H1 L H' H2, H L = none → Pv H1 L kvs.length H' → Ed S H H2 → H2 d = some (.dK kvs) → (∀ a o, a ≠ d → H' a = some o → H2 a = some o) → D.nx (σ.set m (some (.ref L))) H2) : tLock (tAsg (tLc (iKeys (tVar n)) g tt te vs) (gName m)) D σ H := by
 refine ⟨d, .dK kvs, hd, trivial, fun od => ?_⟩
 generalize hu : upd H d (.frz od (.dK kvs)) = H1
 obtain ⟨e1, h1⟩ := chg hu hd
 refine ⟨_, hv, d, od, rfl, .inl ⟨kvs, h1, fun L nL => lc_it walk_keys (Pv H1 L) (h0 H1 od L _ e1 h1 nL (Ed.new nL) upd_same) (fun i H' _ p => (hE _ _ _ _ p).frz _ _ _ h1) (fun i x H' H2 hi p y => ?_) fun H' p => ?_⟩⟩
 ·obtain ⟨rfl, k, w, hk, rfl⟩ := y
  exact turn H1 od L i k w H2 e1 nL ((hE _ _ _ _ p).frz _ _ _ h1) hk p
 ·obtain ⟨e2, h2, k2⟩ := unlock hd trivial hu (hE _ _ _ _ p) rfl
  exact ⟨(hE _ _ _ _ p).frz _ _ _ h1, done H1 L H' _ (e1.dom _ nL) p e2 h2 k2⟩
end
end Vc
namespace Vc
open PySem PySem.Spec PyProof.Rows L2
section
variable {X : Cx} {CX : CXT} {k : Nat} {f C : Addr} {fd : FuncData} {ps ks : List Str} {sp : Sp} {E : XK} {x m : Str} {p pos apos : Pos} {e o : Expr} {es : List Expr} {kws : List Keyword} {ta : TE} {t tk : TA} {g : List Value → List Value → List Value} {gV : List V → List V → List V}
end
section
variable {σ : L2.St} {H : Hp} {Q : VK} {ta : TE} {ts tk : TA} {C : Addr} {m : Str} {sp : Sp} {E : XK} {gV : List V → List V → List V}
theorem go_callK (h : ts σ H fun vs H1 => tk σ H1 fun zs H2 => sp (gV vs zs) H2 Q E) : tCallK sp gV E ts tk σ H Q := h
end
end Vc
namespace Vc
open PySem PySem.Spec PyProof.Rows L2 PySem.W
structure SupScope (N P : List Str) (sc : Scope) : Prop where
 kind : sc.kind = .function
 co : sc.isCoroutine = false
 gen : sc.isGenerator = false
 nd : N.Nodup
 pre : N.take P.length = P
 par : ∀ x ∈ P, sc.names.lookup x = some .local
 nocell : ∀ y ∈ sc.names, y.2 ≠ .cell
 free1 : ∀ y ∈ sc.names, y.2 = .free → y.1 = "__class__"
 cls : sc.names.lookup ("__class__" : Str) = some .free
 sup : sc.names.lookup ("super" : Str) = some .globalImplicit
def cxS (cm : Bool) (CX : CXT) (P : Program) (w : World) (K : PySem.W.Frag) (mg : Str → Option Value) (base : Heap) (N : List Str) (qual : Str) (scope : Scope) (f : Addr) (cd : Value) (cc : Addr) (A : Around) (outer : List Env) (s : Shared) (H : Hp) (E : XK) : Cx where
 prog := P
 w := w
 K := K
 mg := mg
 base := base
 A := A.deeper (ksEnv qual scope s.heap.objs.size f cd cc)
 N := N
 s_0 := s
 H_0 := H
 env := ksEnv qual scope s.heap.objs.size f cd cc
 outer := outer
 stack := ksEnv qual scope s.heap.objs.size f cd cc :: outer
 ex := []
 calm := cm
 fn := fun y => !(y == ("__class__" : Str))
 pn := []
 xe := fun e s' => wpAny (model P w) (A.deeper (ksEnv qual scope s.heap.objs.size f cd cc)) (leaving (ksEnv qual scope s.heap.objs.size f cd cc) e) (fun _ s'' => CX outer H s E e s'') (fun e' s'' => CX outer H s E e' s'') s'
theorem cell1 {x : Str} {c cc : Addr} (h : List.lookup x [(("__class__" : Str), cc)] = some c) : x = "__class__" ∧ c = cc := by
 by_cases e : (x == ("__class__" : Str)) = true
 ·rw [List.lookup_cons, e] at h
  exact ⟨eq_of_beq e, (Option.some.inj h).symm⟩
 ·rw [List.lookup_cons, Bool.eq_false_iff.mpr e] at h
  cases h
theorem lookup_rev : ∀ {ps : List Str} {us : List Value} {i : Nat} {y : Str} {u : Value}, ps.Nodup → ps[i]? = some y → us[i]? = some u → (ps.zip us).reverse.lookup y = some u := by
 have key : ∀ {l : List (Str × Value)} {y : Str} {u : Value}, (l.map (·.1)).Nodup → (y, u) ∈ l → l.lookup y = some u := by
  intro l
  induction l with
  | nil => intro y u _ h; cases h
  | cons p r ih =>
   intro y u nd h
   rw [List.map_cons, List.nodup_cons] at nd
   rcases List.mem_cons.mp h with e | h
   ·subst e; simp [List.lookup]
   ·have ne : (y == p.1) = false := by
     rw [beq_eq_false_iff_ne]
     intro e
     exact nd.1 (e ▸ List.mem_map.mpr ⟨(y, u), h, rfl⟩)
    rw [List.lookup_cons, ne]
    exact ih nd.2 h
 intro ps us i y u nd h1 h2
 refine key ?_ ?_
 ·rw [List.map_reverse]
  refine List.pairwise_reverse.mpr ?_
  have h3 : ((ps.zip us).map (·.1)).Nodup := nd.sublist (by
   have : (ps.zip us).map (·.1) = ps.take us.length := by
    clear key h1 h2 nd
    induction ps generalizing us with
    | nil => simp
    | cons p r ih =>
     cases us with
     | nil => simp
     | cons u t => simp [ih]
   rw [this]
   exact List.take_sublist _ _)
  exact h3.imp fun h => h.symm
 ·rw [List.mem_reverse]
  refine List.mem_iff_getElem?.mpr ⟨i, ?_⟩
  rw [List.getElem?_zip_eq_some]
  exact ⟨h1, h2⟩
theorem inv_sup {cm : Bool} {CX : CXT} {P : Program} {w : World} {K : PySem.W.Frag} {mg : Str → Option Value} {base : Heap} {N ps : List Str} {qual : Str} {scope : Scope} {f cc : Addr} {cd : Value} {A : Around} {outer : List Env} {s : Shared} {H : Hp} {E : XK} {us : List Value} {vs : List V} {h1 : Heap} {tk : Nat} {oc cv : Value} {od : Option Addr} {sl : Array (Option Value)}
  (S : SupScope N ps scope) (hd : cm = true → A.handled = none) (e0 : Env0 P w K mg base A outer s H) (hl : vs.length = ps.length) (r : Vals vs us) (hcell : K.lookup cc = some ⟨oc, od, .cell (some cv), sl⟩)
  (ns : h1.Ns s.heap.objs.size (fun x => (ps.zip us).reverse.lookup x)) (hk : ∀ b o, s.heap.get? b = some o → h1.get? b = some o) :
  Inv (cxS cm CX P w K mg base N qual scope f cd cc A outer s H E) [] (start N vs) H { s with heap := h1, toks := tk } := by
 have hpl : ps.length ≤ N.length := by have := congrArg List.length S.pre; rw [List.length_take] at this; omega
 have hK : base.get? cc = some ⟨oc, od, .cell (some cv), sl⟩ := e0.mod.kin _ _ hcell
 have hs := e0.bs _ _ hK
 refine ⟨⟨e0.mod, S.kind, rfl, rfl, Nat.le_refl _, fun y z c h1 h2 => ?_, fun y hy => ?_, fun y c hf h => ?_, hd, Around.frames_deeper e0.frames, .inr ⟨rfl, rfl⟩, fun b z => absurd (show b ∈ ([] : List Addr) from z) (by simp), e0.bs, e0.bsz, fun b _ _ z => absurd (show b ∈ ([] : List Addr) from z) (by simp), fun b z => absurd (show b ∈ ([] : List Addr) from z) (by simp), e0.funs, e0.frf⟩,
  rfl, e0.bare, Un.kept hk, ⟨_, ns, fun i y v h1 h2 h3 => ?_⟩, fun y c h => ?_, e0.hok.fresh (Nat.le_refl _), fun y c h => ?_, fun p hp => absurd (show p ∈ ([] : List (Addr × Obj)) from hp) (by simp), e0.hok.kept hk, ?_⟩
 ·exact (cell1 h1).1.trans (cell1 h2).1.symm
 ·have hy : scope.names.lookup y = some .cell ∨ scope.names.lookup y = some .free := hy
  rcases hy with hy | hy
  ·exact absurd rfl (S.nocell _ (PySem.mem_of_lookup hy))
  ·have := S.free1 _ (PySem.mem_of_lookup hy) rfl
   have : y = "__class__" := this
   subst this
   exact ⟨cc, by show List.lookup _ [_] = _; simp [List.lookup]⟩
 ·have := (cell1 h).1
  subst this
  cases (show (!((("__class__" : Str)) == ("__class__" : Str))) = true from hf)
 ·have hi : i < vs.length := by
   unfold L2.start at h2
   by_cases hi : i < vs.length
   ·exact hi
   ·rw [List.getElem?_append_right (by simpa using hi)] at h2
    rw [List.getElem?_replicate] at h2
    split at h2 <;> cases h2
  have ha : vs[i]? = some v := by
   unfold L2.start at h2
   rw [List.getElem?_append_left (by simpa using hi), List.getElem?_map] at h2
   cases e : vs[i]? with
   | none => rw [e] at h2; cases h2
   | some a => rw [e] at h2; cases h2; rfl
  obtain ⟨u, hu, rv⟩ := r.get ha
  have hp : ps[i]? = some y := by
   rw [← S.pre, List.getElem?_take_of_lt (by omega)]; exact h1
  have ndP : ps.Nodup := by rw [← S.pre]; exact S.nd.sublist (List.take_sublist _ _)
  exact ⟨u, rv, .inl ⟨S.par y (List.mem_of_getElem? hp), lookup_rev ndP hp hu⟩⟩
 ·rw [(cell1 h).2]
  exact ⟨_, _, hk _ _ hs.1, rfl⟩
 ·rw [(cell1 h).2]
  exact hs.2
 ·unfold L2.start
  show _ = N.length
  rw [List.length_append, List.length_map, List.length_replicate]
  omega
section
variable {prog : Program} {w : World} {A : Around} {E : Value → Shared → Prop} {h : Heap} {g : Array GenState} {d : Drawn} {t : Nat} {os : OsState}
variable {nm q : Str} {C N : Addr} {bs bm : List Value} {hdct : Bool} {sn : List Str} {sub : List Value} {ab : Bool} {col : Option Bool} {dd : Option Addr} {k0 k1 k2 k3 k5 : Option Value}
theorem call_bv {u e t0 : Addr} {rest : List Value} {Q : Value → Shared → Prop}
  (hC : h.get? C = some (excClassObj nm q C N bs bm hdct sn sub ab col dd k0 k1 k2 k3 k5 "ValueError.__new__")) (he : h.get? e = some (HandSPX.excO C t0)) (hu : h.get? u = some (kxs_mw "ValueError.__init__" e)) (hrest : rest.length ≤ sizeLine)
  (hq : ∀ h' t1, (∀ b o, b ≠ e → h.get? b = some o → h'.get? b = some o) → h'.get? e = some (HandSPX.excO C t1) → Q .none ⟨h', g, d, t, os⟩) :
  wpAny (model prog w) A (call (.ref u) rest) Q E ⟨h, g, d, t, os⟩ := by
 refine wpAny_call (codeAny_of_tree ?_)
 show wpAny _ A.in1 (callAny (.ref u) ⟨rest, []⟩) _ _ _
 simp only [callAny]
 refine wpAny_bind (wpAny_load hu ?_)
 simp only [kxs_mw, show (Value.type "method-wrapper" == Value.type "method" || Value.type "method-wrapper" == Value.type "builtin_function_or_method" || Value.type "method-wrapper" == Value.type "method-wrapper") = true by decide, if_true]
 refine W.KFB.if_so (by decide) ?_
 refine wpAny_bind (check_bound_init F.excBase_ValueError.toExcCallFacts hC he rfl ?_)
 refine wpAny_bind (wpAny_pure (wpAny_pure ?_))
 refine ⟨Code.quiet_builtin _ (by decide +kernel), codeAny_builtin F.excBase_ValueError.initEntry ?_⟩
 rw [Around.under_plainId F.excBase_ValueError.init.plain _]
 wp_walk
 refine hq _ h.objs.size (fun b o hb ho => ?_) ?_
 ·rw [Heap.get?_update_other _ _ (Ne.symm hb)]
  exact Heap.get?_push_of_some _ ho
 ·rw [Heap.get?_update_self _ (Heap.get?_push_of_some _ he) rfl]
  rfl
end
structure SupF (P : Program) (K : PySem.W.Frag) (mg : Str → Option Value) (f cda cc C : Addr) (fd : FuncData) (sv : Str) : Prop where
 lk : ∃ oc od sl, K.lookup f = some ⟨oc, od, .func fd, sl⟩
 par : ∃ ar : Arg, (fd.params.posonlyargs ++ fd.params.args).head? = some ar ∧ ar.arg = sv
 code : ∃ ccl cdd vs ccs file tf, K.lookup cda = some ⟨ccl, cdd, .fields vs, ccs⟩ ∧ vs[2]? = some (.str file tf) ∧ ((P.main.file : Str) == file) = true
 cell : ∃ cl cld csl, K.lookup cc = some ⟨cl, cld, .cell (some (.ref C)), csl⟩
 sub : mroIn K C (.ref C) = some true
 init : ks_superIn K C C "__init__" = some (some (.builtin "ValueError.__init__"))
 subV : subIn K (.ref C) (.type "ValueError") = some true
 nosup : mg "super" = none
 noop : nsIn K cStatics "thirdparty.any" = some none
 top : (P.main.scope.names.lookup ("super" : Str)).isSome = false
section
variable {cm : Bool} {CX : CXT} {P : Program} {w : World} {K : PySem.W.Frag} {mg : Str → Option Value} {base : Heap} {N ps : List Str} {qual : Str} {scope : Scope} {f cc cda C a : Addr} {A : Around} {outer : List Env} {s0 s : Shared} {H0 H : Hp} {E0' : XK} {pins : List (Addr × Obj)} {σ : L2.St} {fd : FuncData} {sv : Str} {body : List Stmt} {p0 p1 ap cp pos spos : Pos} {x : Str} {nk : Nat} {pl : Sem Bool}
theorem sup_stmt {e : Expr} {Q : Flow → Shared → Prop} (S : SupScope N ps scope) (SF : SupF P K mg f cda cc C fd sv) (T : OexC K C) (I : Inv (cxS cm CX P w K mg base N qual scope f (.ref cda) cc A outer s0 H0 E0') pins σ H s) (hN : N[0]? = some sv) (hself : scope.names.lookup sv = some .local) (hσ : σ[0]? = some (some (.ref a))) (ea : H a = some (exo a C none))
  (he : PE (cxS cm CX P w K mg base N qual scope f (.ref cda) cc A outer s0 H0 E0') e (tC (.str x))) (h : ∀ s', Inv (cxS cm CX P w K mg base N qual scope f (.ref cda) cc A outer s0 H0 E0') pins σ H s' → Q .next s')
  (hi : interactive (ksEnv qual scope s0.heap.objs.size f (.ref cda) cc) = false)
  (hs : swapsWith (.Call (.Attribute (.Call (.Name "super" p0) [] [] p1) "__init__" ap) [e] [] pos) none spos.line (ksEnv qual scope s0.heap.objs.size f (.ref cda) cc) = pure false)
  (hst : starEach [e] (ksEnv qual scope s0.heap.objs.size f (.ref cda) cc) = (false, eval e (ksEnv qual scope s0.heap.objs.size f (.ref cda) cc)) :: starEach [] (ksEnv qual scope s0.heap.objs.size f (.ref cda) cc))
  (ht : eval (.Call (.Attribute (.Call (.Name "super" p0) [] [] p1) "__init__" ap) [e] [] pos) (ksEnv qual scope s0.heap.objs.size f (.ref cda) cc) = (do
   let ov ← attributeBase (.Call (.Name "super" p0) [] [] p1) "__init__" (ksEnv qual scope s0.heap.objs.size f (.ref cda) cc) (eval (.Call (.Name "super" p0) [] [] p1) (ksEnv qual scope s0.heap.objs.size f (.ref cda) cc))
   standAt ap.atName
   let (fm, first) ← holding [ov] (getMethod ov "__init__" pl)
   callWith pos fm first (backTo pos (starEach [e] (ksEnv qual scope s0.heap.objs.size f (.ref cda) cc))) (backToKw pos (keywordEach [] (ksEnv qual scope s0.heap.objs.size f (.ref cda) cc))))) :
  _root_.PySem.wpAt (model P w) (cxS cm CX P w K mg base N qual scope f (.ref cda) cc A outer s0 H0 E0').A (.func body (ksEnv qual scope s0.heap.objs.size f (.ref cda) cc)) (exec (.Expr (.Call (.Attribute (.Call (.Name "super" p0) [] [] p1) "__init__" ap) [e] [] pos) spos) (ksEnv qual scope s0.heap.objs.size f (.ref cda) cc)) Q (cxS cm CX P w K mg base N qual scope f (.ref cda) cc A outer s0 H0 E0').xe s := by
 obtain ⟨_, _, _, lkf⟩ := SF.lk
 obtain ⟨ar, hp, rfl⟩ := SF.par
 obtain ⟨_, _, vs, _, file, tf, lkc, hvs, hfile⟩ := SF.code
 obtain ⟨_, _, _, lkl⟩ := SF.cell
 have KX : K.In s.heap := I.kIn
 refine ks_wpAt_Expr_any ?_ hi hs
 refine ks_wpAt_MethodCall (pl := pl) ?_ ht
 refine ks_wpAt_super_base (env := ksEnv qual scope s0.heap.objs.size f (.ref cda) cc) S.sup S.cls (by decide) rfl (KX _ _ lkf) rfl hp rfl (KX _ _ lkc) rfl hvs hfile SF.top ?_
 obtain ⟨mb, hb1, hb2⟩ := I.mod.blt
 have hboot : bootBuiltins "super" = some (.type "super") := by decide +kernel
 refine ks_loadName_global S.kind S.sup (Calls.loadGlobal_builtin (I.mod.glob.keeps I.bk) SF.nosup (hb1.keeps I.bk) ((hb2 "super" (by decide)).trans hboot) ⟨rfl, ?_⟩)
 refine wpAny_loadName_free S.kind S.cls (c := cc) (by simp [List.lookup]) ⟨_, KX _ _ lkl, rfl⟩ ?_
 obtain ⟨m, ns, hm⟩ := id I.loc
 obtain ⟨u, ru, lu⟩ := hm 0 _ _ hN hσ (.inl hself)
 obtain rfl : u = Value.ref a := ru
 have hma : m ar.arg = some (.ref a) := by
  rcases lu with ⟨_, e⟩ | ⟨k | k, _⟩
  ·exact e
  ·have k : scope.names.lookup ar.arg = some .cell := k
   rw [hself] at k; cases k
  ·have k : scope.names.lookup ar.arg = some .free := k
   rw [hself] at k; cases k
 refine wpAny_loadName_local S.kind hself ns hma ?_
 obtain ⟨nm, q, Nn, bs, bm, sn, sub, ab, col, dd, k0, k1, k2, k3, k5, hC, hbm⟩ := T.cls
 obtain ⟨t1, ho⟩ := exo_at I.hok ea
 have hCh := KX _ _ hC
 obtain ⟨hh, g, d, t, os⟩ := s
 refine ks_wpAny_isType_cls hCh rfl ⟨rfl, ?_⟩
 refine ks_wpAny_call_super hCh rfl ho rfl (fun c z => by cases z) (looks_mroIn KX SF.sub) fun h' hso hk => ?_
 have KX' : K.In h' := KX.keeps hk
 have hcl : clsIn K C = some { name := nm, bases := bs, mro := .ref C :: bm, ns := Nn, qualname := q, hasDict := true, slotNames := sn, subclasses := sub, abstract := ab, collection := col, hasDel := false } := by unfold clsIn; rw [hC] <;> rfl
 have IA : InstAt h' a { cls := .ref C, dict := none, data := .fields #[.ref t1, .none, .none, .none, .bool false, .none] } C none := ⟨hk _ _ ho, rfl, rfl, trivial⟩
 have hsi := SF.init
 unfold ks_superIn at hsi
 rw [hcl, Option.bind_some] at hsi
 refine kxs_getMethod kxs_ValueError hso (looks_opaque KX' SF.noop) (l₀ := .ref C :: bm) ?_ rfl KX' hsi (IA.type.andThen (looks_subIn KX' SF.subV)) (ks_ne KX' IA hcl) (by decide) ?_
 ·exact fun A Q E s k q => wpAny_bind ((looks_clsIn KX' hcl) A _ E s k (wpAny_pure q))
 have hk2 : ∀ b o, hh.get? b = some o → (h'.push (kxs_mw "ValueError.__init__" a)).get? b = some o := fun b o z => Heap.get?_push_of_some _ (hk b o z)
 have I2 : Inv (cxS cm CX P w K mg base N qual scope f (.ref cda) cc A outer s0 H0 E0') pins σ H ⟨h'.push (kxs_mw "ValueError.__init__" a), g, d, t + 1, os⟩ := I.kept (t' := t + 1) hk2
 have hu : (h'.push (kxs_mw "ValueError.__init__" a)).get? h'.objs.size = some (kxs_mw "ValueError.__init__" a) := Heap.get?_push_at rfl rfl
 have hsz : hh.objs.size ≤ h'.objs.size := Nat.le_of_lt (Nat.lt_of_le_of_lt (Nat.le_refl _) (Heap.lt_size hso))
 have I3 := I2.pins_of (pins' := (h'.objs.size, kxs_mw "ValueError.__init__" a) :: pins) fun p hp => by
  rcases List.mem_cons.mp hp with e | hp
  ·subst e
   exact ⟨hu, I.hok.fresh hsz, fun z => absurd (Nat.lt_of_lt_of_le I.lt hsz) (by have z : h'.objs.size = _ := z; rw [z]; exact Nat.lt_irrefl _), I.nofs hsz, fun v z => by cases z⟩
  ·exact I2.pin p (List.mem_append_right _ hp)
 have hev := (pa_cons he pa_nil (hs := hst)).run pos _ _ σ H (fun vs H1 => vs = [.str x] ∧ H1 = H) I3 ⟨rfl, rfl⟩
 have hst2 : starEach [e] (cxS cm CX P w K mg base N qual scope f (.ref cda) cc A outer s0 H0 E0').env = (false, eval e (cxS cm CX P w K mg base N qual scope f (.ref cda) cc A outer s0 H0 E0').env) :: starEach [] (cxS cm CX P w K mg base N qual scope f (.ref cda) cc A outer s0 H0 E0').env := hst
 rw [hst2] at hev
 show wpAny _ _ (callWith pos (.ref h'.objs.size) [] (backTo pos (starEach [e] (ksEnv qual scope s0.heap.objs.size f (.ref cda) cc))) []) _ _ _
 rw [hst]
 refine kxs_callWith (i := "ValueError.__init__") (x := a) (by rfl) ?_
 refine PySem.Calls.evalArgs_plain (thn hev fun us s1 ⟨vs, H1, I4, r1, ev, eH⟩ => ?_)
 subst ev eH
 have hu4 := (I4.pin (h'.objs.size, kxs_mw "ValueError.__init__" a) (List.mem_append_right _ (List.mem_cons_self ..))).1
 refine ⟨hu4, ?_⟩
 have I5 : Inv (cxS cm CX P w K mg base N qual scope f (.ref cda) cc A outer s0 H0 E0') pins σ H1 s1 := I4.pins_of fun p hp => I4.pin p (List.mem_append_right _ (List.mem_cons_of_mem _ hp))
 have hC5 := I5.kIn _ _ hC
 obtain ⟨t5, ho5⟩ := exo_at I5.hok ea
 obtain ⟨hh5, g5, d5, tk5, os5⟩ := s1
 have hlen : us.length = 1 := by rw [← Paired.length r1]; rfl
 refine call_bv (rest := [] ++ us) hC5 ho5 hu4 (by rw [List.nil_append, hlen, sizeLine_eq]; omega) fun h6 t6 k6 hx6 => ?_
 have J := I5.write (t' := tk5) (x := a) (e := a) (o := exo a C none) (by rw [ea]; exact True.intro) (.inl rfl) k6 ⟨_, hx6⟩ (exo_ok hx6)
 have eu : upd H1 a (exo a C none) = H1 := by
  funext b
  by_cases hb : b = a
  ·rw [hb, upd_same, ea]
  ·rw [upd_ne hb]
 rw [eu] at J
 exact h _ J
structure FunS (P : Program) (K : PySem.W.Frag) (mg : Str → Option Value) (x qual : Str) (st : Stmt) (f : Addr) (fd : FuncData) (C : Addr) (sv : Str) : Prop where
 ex : ∃ (oc : Value) (od : Option Addr) (kV doc pm : Value) (an : Option Addr) (cda cc : Addr) (ct : Value) (osl : Array (Option Value)),
  fd = ksFn x qual (defArgs st) (defBody st) (defScope st) .none kV doc pm an (.ref cda) ct cc ∧ K.lookup f = some ⟨oc, od, .func fd, osl⟩ ∧ PySem.W.codeIn K (.ref cda) qual = true ∧ SupF P K mg f cda cc C fd sv
 kp : PySem.W.keepIn K (.ref f) = true
theorem FunS.code (cm : Bool) {P : Program} {w : World} {K : PySem.W.Frag} {mg : Str → Option Value} {base : Heap} {CX : CXT} {x qual : Str} {st : Stmt} {rest : List Stmt} {f C : Addr} {fd : FuncData} {sv : Str} {N ps : List Str} {sp : Sp} {e : Expr} {z : Str} {p0 p1 ap pos spos : Pos} {pl : Sem Bool}
  (F : FunS P K mg x qual st f fd C sv) (S : SupScope N ps (defScope st)) (T : OexC K C) (hb : defBody st = .Expr (.Call (.Attribute (.Call (.Name "super" p0) [] [] p1) "__init__" ap) [e] [] pos) spos :: rest) (hN : N[0]? = some sv) (hself : (defScope st).names.lookup sv = some .local)
  (len : ∀ vs H Q E, sp vs H Q E → vs.length = ps.length)
  (hE : ∀ (X : Cx), PE X e (tC (.str z)))
  (hi : ∀ L cd cc, interactive (ksEnv qual (defScope st) L f cd cc) = false)
  (hs : ∀ L cd cc, swapsWith (.Call (.Attribute (.Call (.Name "super" p0) [] [] p1) "__init__" ap) [e] [] pos) none spos.line (ksEnv qual (defScope st) L f cd cc) = pure false)
  (hst : ∀ L cd cc, starEach [e] (ksEnv qual (defScope st) L f cd cc) = (false, eval e (ksEnv qual (defScope st) L f cd cc)) :: starEach [] (ksEnv qual (defScope st) L f cd cc))
  (ht : ∀ L cd cc, eval (.Call (.Attribute (.Call (.Name "super" p0) [] [] p1) "__init__" ap) [e] [] pos) (ksEnv qual (defScope st) L f cd cc) = (do
   let ov ← attributeBase (.Call (.Name "super" p0) [] [] p1) "__init__" (ksEnv qual (defScope st) L f cd cc) (eval (.Call (.Name "super" p0) [] [] p1) (ksEnv qual (defScope st) L f cd cc))
   standAt ap.atName
   let (fm, first) ← holding [ov] (getMethod ov "__init__" pl)
   callWith pos fm first (backTo pos (starEach [e] (ksEnv qual (defScope st) L f cd cc))) (backToKw pos (keywordEach [] (ksEnv qual (defScope st) L f cd cc)))))
  (hbody : ∀ (cda cc : Addr) (A : Around) (outer : List Env) (s : Shared) (H : Hp) (vs : List V) (Q : VK) (E : XK), sp vs H Q E →
   ∃ a, vs[0]? = some (.ref a) ∧ H a = some (exo a C none) ∧ ∃ t, PSs (cxS cm CX P w K mg base N qual (defScope st) f (.ref cda) cc A outer s H E) rest t ∧ t { nx := fun _ H' => Q .non H', rt := Q } (start N vs) H) :
  ∀ (A : Around) (outer : List Env) (s : Shared) (H : Hp) (args : Args) (us : List Value) (vs : List V) (Q : VK) (E : XK), A.depth < recursionLimit → (cm = true → A.handled = none) → Env0 P w K mg base A outer s H → BindsTo s fd args (ps.zip us) → Vals vs us → sp vs H Q E → codeAny (model P w) A (.call (.ref f) args) (CR CX outer P w H s Q E) s := by
 obtain ⟨oc, od, kV, doc, pm, an, cda, cc, ct, osl, rfl, lk, hcd, SF⟩ := F.ex
 intro A outer s H args us vs Q E hdp hcm e0 hbd r hsp
 have hl := len _ _ _ _ hsp
 have KX : K.In s.heap := e0.mod.kin.keeps fun b o e => (e0.bs b o e).1
 have lim : s.heap.NoLimit := e0.mod.nolimit.keeps fun b o e => (e0.bs b o e).1
 obtain ⟨_, _, _, lkl⟩ := SF.cell
 obtain ⟨a, ha, ea, t, ht2, hq⟩ := hbody cda cc A outer s H vs Q E hsp
 refine ks_codeAny_call_defAt hdp (KX _ _ lk) rfl lim (PySem.W.codeRec_of KX hcd) rfl hbd S.nocell (fun y hy => S.par y.1 (List.of_mem_zip (show (y.1, y.2) ∈ _ from hy)).1) (fun h₀ hns hk => ?_) S.co S.gen S.kind
 have I : Inv (cxS cm CX P w K mg base N qual (defScope st) f (.ref cda) cc A outer s H E) [] (start N vs) H { s with heap := h₀, toks := s.toks + (ps.zip us).length } := inv_sup S hcm e0 hl r lkl hns hk
 have fin : ∀ {σ' : L2.St} {H' : Hp} {v : V} {u : Value} {s' : Shared}, Inv (cxS cm CX P w K mg base N qual (defScope st) f (.ref cda) cc A outer s H E) [] σ' H' s' → RelV v u → Q v H' → CE outer P w H s Q u s' :=
  fun {σ' H' v u s'} J rv q => ⟨v, H', J.os, J.bare, J.base, J.hok, rv, q⟩
 have hσ : (start N vs)[0]? = some (some (.ref a)) := by
  have h0 : 0 < vs.length := by
   rcases Nat.eq_zero_or_pos vs.length with z | z
   ·rw [List.eq_nil_of_length_eq_zero z] at ha; cases ha
   ·exact z
  unfold L2.start
  rw [List.getElem?_append_left (by simpa using h0), List.getElem?_map, ha]; rfl
 rw [hb]
 refine ks_wpAt_execs_cons (sup_stmt S SF T I hN hself hσ ea (hE _) (fun s' I' => ?_) (hi _ _ _) (hs _ _ _) (hst _ _ _) (ht _ _ _))
 refine wpAt_of_wpAny (wpAny_mono (ht2.run [] s' (start N vs) H _ I' hq) (fun fl s2 hs2 => ?_) fun e s' hs => hs)
 cases fl with
 | ret u =>
  obtain ⟨v, σ', H', J, rv, q⟩ := hs2
  exact fin J rv q
 | next =>
  obtain ⟨σ', H', J, q⟩ := hs2
  exact fin (v := V.non) (u := Value.none) J rfl q
 | brk =>
  obtain ⟨_, _, _, q⟩ := hs2
  exact False.elim q
 | cont =>
  obtain ⟨_, _, _, q⟩ := hs2
  exact False.elim q
theorem FunS.ok {P : Program} {w : World} {K : PySem.W.Frag} {mg : Str → Option Value} {base : Heap} {CX : CXT} {x qual : Str} {st : Stmt} {rest : List Stmt} {f C : Addr} {fd : FuncData} {sv : Str} {N ps : List Str} {k : Nat} {sp : Sp} {e : Expr} {z : Str} {p0 p1 ap pos spos : Pos} {pl : Sem Bool}
  (F : FunS P K mg x qual st f fd C sv) (S : SupScope N ps (defScope st)) (T : OexC K C) (hb : defBody st = .Expr (.Call (.Attribute (.Call (.Name "super" p0) [] [] p1) "__init__" ap) [e] [] pos) spos :: rest) (hN : N[0]? = some sv) (hself : (defScope st).names.lookup sv = some .local)
  (len : ∀ vs H Q E, sp vs H Q E → vs.length = ps.length)
  (hE : ∀ (X : Cx), PE X e (tC (.str z)))
  (hi : ∀ L cd cc, interactive (ksEnv qual (defScope st) L f cd cc) = false)
  (hs : ∀ L cd cc, swapsWith (.Call (.Attribute (.Call (.Name "super" p0) [] [] p1) "__init__" ap) [e] [] pos) none spos.line (ksEnv qual (defScope st) L f cd cc) = pure false)
  (hst : ∀ L cd cc, starEach [e] (ksEnv qual (defScope st) L f cd cc) = (false, eval e (ksEnv qual (defScope st) L f cd cc)) :: starEach [] (ksEnv qual (defScope st) L f cd cc))
  (ht : ∀ L cd cc, eval (.Call (.Attribute (.Call (.Name "super" p0) [] [] p1) "__init__" ap) [e] [] pos) (ksEnv qual (defScope st) L f cd cc) = (do
   let ov ← attributeBase (.Call (.Name "super" p0) [] [] p1) "__init__" (ksEnv qual (defScope st) L f cd cc) (eval (.Call (.Name "super" p0) [] [] p1) (ksEnv qual (defScope st) L f cd cc))
   standAt ap.atName
   let (fm, first) ← holding [ov] (getMethod ov "__init__" pl)
   callWith pos fm first (backTo pos (starEach [e] (ksEnv qual (defScope st) L f cd cc))) (backToKw pos (keywordEach [] (ksEnv qual (defScope st) L f cd cc)))))
  (hbody : ∀ (cda cc : Addr) (A : Around) (outer : List Env) (s : Shared) (H : Hp) (vs : List V) (Q : VK) (E : XK), sp vs H Q E →
   ∃ a, vs[0]? = some (.ref a) ∧ H a = some (exo a C none) ∧ ∃ t, PSs (cxS true CX P w K mg base N qual (defScope st) f (.ref cda) cc A outer s H E) rest t ∧ t { nx := fun _ H' => Q .non H', rt := Q } (start N vs) H) :
  FnOk P w K mg base CX (k + 1) f fd ps sp :=
 ⟨len, fun A outer s H args us vs Q E hr e0 hbd r hsp => FunS.code true F S T hb hN hself len hE hi hs hst ht hbody A outer s H args us vs Q E hr.depth (fun _ => hr.hd) e0 hbd r hsp⟩
theorem FunS.binds {P : Program} {K : PySem.W.Frag} {mg : Str → Option Value} {x qual : Str} {st : Stmt} {f C : Addr} {fd : FuncData} {sv : Str} {ps : List Str} (F : FunS P K mg x qual st f fd C sv)
  (h : ∀ (kV doc pm : Value) (an : Option Addr) (cda cc : Addr) (ct : Value) (us : List Value), us.length = ps.length → bindArgs (ksFn x qual (defArgs st) (defBody st) (defScope st) .none kV doc pm an (.ref cda) ct cc) ⟨us, []⟩ = pure (ps.zip us)) : Binds K fd ps [] := by
 obtain ⟨oc, od, kV, doc, pm, an, cda, cc, ct, osl, rfl, lk, hcd, SF⟩ := F.ex
 exact .all (h kV doc pm an cda cc ct)
end
end Vc
namespace Vc
open PySem PySem.Spec PyProof.Rows L2
def spErr1 (C : Addr) (f : Str) : Sp := fun vs H Q _ => ∃ (a : Addr) (v : V), vs = [.ref a, v] ∧ H a = some (exo a C none) ∧ ∀ d, H d = none → d ≠ a → Q .non (upd (upd H d (exd d [(f, v)])) a (exo a C (some d)))
theorem mk_err {C : Addr} {fs : List (Str × V)} {H1 H2 : Hp} {Q : XK} {a d : Addr} (na : H1 a = none) (nd : H1 d = none) (ne : d ≠ a) (hx : ∀ b, b ≠ a → b ≠ d → H2 b = H1 b)
  (q : ∀ d H', H1 d = none → Ed [] H1 H' → H' d = some (.xd fs) → Q (.ref C) (some d) H') : Q (.ref C) (some d) (upd (del H2 a) d (.xd fs)) := by
 have keep : ∀ b o, H1 b = some o → (upd (del H2 a) d (.xd fs)) b = some o := fun b o e => by
  have ha : b ≠ a := ne_of_none e na
  have hd : b ≠ d := ne_of_none e nd
  rw [upd_ne hd, del_ne ha, hx b ha hd]; exact e
 refine q d _ nd ⟨fun b o _ e => keep b o e, fun b xs e => keep b _ e, fun b o u e => keep b _ e, fun b e => ?_⟩ upd_same
 by_cases hd : b = d
 ·rw [hd, upd_same] at e; cases e
 ·rw [upd_ne hd] at e
  by_cases ha : b = a
  ·rw [ha]; exact na
  ·rw [del_ne ha, hx b ha hd] at e; exact e
theorem go_err1 {C : Addr} {f : Str} {v : V} {H1 : Hp} {Q : XK} (q : ∀ d H', H1 d = none → Ed [] H1 H' → H' d = some (.xd [(f, v)]) → Q (.ref C) (some d) H') :
  [v].length ≤ 1000 ∧ ∀ a, H1 a = none → spErr1 C f (.ref a :: ([v] ++ [])) (upd H1 a (exo a C none)) (fun v' H2 => v' = .non ∧ ∃ (d : Addr) (fs : List (Str × V)), H2 a = some (exo a C (some d)) ∧ H2 d = some (exd d fs) ∧ H1 d = none ∧ Q (.ref C) (some d) (upd (del H2 a) d (.xd fs))) (fun _ _ _ => False) := by
 refine ⟨by show 1 ≤ 1000; decide, fun a na => ⟨a, v, rfl, upd_same, fun d nd ne => ⟨rfl, d, [(f, v)], upd_same, ?_, ?_, ?_⟩⟩⟩
 ·rw [upd_ne ne]; exact upd_same
 ·rw [upd_ne ne] at nd; exact nd
 ·refine mk_err na (by rw [upd_ne ne] at nd; exact nd) ne (fun b h1 h2 => ?_) q
  rw [upd_ne h1, upd_ne h2, upd_ne h1]
theorem go_mkO {C : Addr} {sp : Sp} {ta : TA} {σ : L2.St} {H : Hp} {Q : XK} (h : ta σ H fun vs H1 => vs.length ≤ 1000 ∧ ∀ a, H1 a = none → sp (.ref a :: (vs ++ [])) (upd H1 a (exo a C none))
 (fun v H2 => v = .non ∧ ∃ (d : Addr) (fs : List (Str × V)), H2 a = some (exo a C (some d)) ∧ H2 d = some (exd d fs) ∧ H1 d = none ∧ Q (.ref C) (some d) (upd (del H2 a) d (.xd fs))) (fun _ _ _ => False)) : tMkO C sp [] ta σ H Q := h
theorem err_ends1 {K : PySem.W.Frag} {C : Addr} {f : Str} {vs : List V} {H : Hp} {Q : VK} {E : XK} {N : List Str} (T : OexC K C) (no : PySem.W.findIn K (.ref C) f = some none) (h : spErr1 C f vs H Q E) :
  ∃ a, vs[0]? = some (.ref a) ∧ H a = some (exo a C none) ∧ tOst K f (tVar 0) (tVar 1) { nx := fun _ H' => Q .non H', rt := Q } (start N vs) H := by
 obtain ⟨a, v, rfl, ea, q⟩ := h
 exact ⟨a, rfl, ea, v, rfl, .ref a, rfl, a, C, rfl, T, no, .inl ⟨ea, q⟩⟩
section
variable {K : PySem.W.Frag} {a D : Addr} {d : Option Addr} {H : Hp} {Q : VK} {b : Bool}
end
section
variable {X : Cx} {CX : CXT} {k : Nat} {C g : Addr} {fd : FuncData} {ps ks : List Str} {sp : Sp} {E : L2.St → XK} {pos : Pos} {fe e : Expr} {es : List Expr} {tf : TE} {t tk : TA} {kws : List Keyword} {gk : List Value → List Value → List Value} {gV : List V → List V → List V}
end
section
variable {σ : L2.St} {H : Hp} {Q : VK} {tf : TE} {ts : TA} {C : Addr} {sp : Sp} {E : L2.St → XK}
theorem go_refE {a : Addr} {P : Addr → Prop} (h : P a) : ∃ a', V.ref a = .ref a' ∧ P a' := ⟨a, rfl, h⟩
end
theorem passS0 {X : Cx} {E : L2.St → XK} : ∀ σ, PassesAt CX0 X σ (E σ) := fun _ _ _ _ _ _ _ h => h.elim
theorem passSL {X : Cx} : ∀ σ, PassesAt (L2.CX X.prog X.w) X σ ((fun (_ : L2.St) => E0) σ) := fun σ pins H s e s' I h => passL pins σ H s e s' I h
section
variable {X : Cx} {CX : CXT} {k : Nat} {C f g : Addr} {fd : FuncData} {ps ks : List Str} {sp : Sp} {E : L2.St → XK} {x m : Str} {p pos apos : Pos} {fe e o : Expr} {es : List Expr} {tf ta : TE} {t tk : TA} {kws : List Keyword} {gk : List Value → List Value → List Value} {gV : List V → List V → List V}
end
section
variable {σ : L2.St} {H : Hp} {Q : VK} {tf ta : TE} {ts tk : TA} {C : Addr} {m : Str} {sp : Sp} {E : L2.St → XK} {gV : List V → List V → List V}
theorem go_callS (h : ts σ H fun vs H1 => sp vs H1 Q (E σ)) : tCallS sp E ts σ H Q := h
end
theorem go_xfXV {K : PySem.W.Frag} {a D dd : Addr} {f : Str} {H : Hp} {fs : List (Str × V)} {v : V} {R : V → Prop} (T : XfC K D) (no : PySem.W.findIn K (.ref D) f = some none) (e : H dd = some (.xd fs)) (l : fs.lookup f = some v) (h : R v) :
  V.ref a = .ref a ∧ ∃ C, (Value.ref D) = .ref C ∧ XfC K C ∧ PySem.W.findIn K (.ref C) f = some none ∧ ∃ (d' : Addr) (fs : List (Str × V)) (v : V), some dd = some d' ∧ H d' = some (.xd fs) ∧ fs.lookup f = some v ∧ R v := ⟨rfl, D, rfl, T, no, dd, fs, v, rfl, e, l, h⟩
def tRaise (W : WX) (t : L2.St → Hp → XK → Prop) : TS := fun _ σ H => t σ H fun cls d H' => W cls d σ H'
theorem ps_raiseT {X : Cx} {W : WX} {e : Expr} {t : L2.St → Hp → XK → Prop} {pos : Pos} (hc : X.calm = true) (tk : Takes X W) (he : PMk X e t) : PS X (.Raise (some e) none pos) (tRaise W t) := ps_raise hc tk he
theorem go_raiseT {t : L2.St → Hp → XK → Prop} {W : WX} {D : Ends} {σ : L2.St} {H : Hp} (h : t σ H fun cls d H' => W cls d σ H') : tRaise W t D σ H := h
section
variable {X : Cx} {x n : Str} {c : Value} {i : Nat} {body suite : List Stmt} {b₀ : Stmt} {np pos pos' : Pos} {tb : WX → TS} {ts : Addr → Value → Option Addr → TS} {Wout : WX}
end
section
variable {K : PySem.W.Frag} {c : Value} {i : Nat} {tb : WX → TS} {ts : Addr → Value → Option Addr → TS} {Wout : WX} {D : Ends} {σ : L2.St} {H : Hp} {cls : Value} {d : Option Addr}
end
theorem go_nNone {A B : Prop} (h : A) : if (!(none : Option V).isSome) = true then A else B := iteT h
theorem go_nSome {v : V} {A B : Prop} (h : B) : if (!(some v).isSome) = true then A else B := iteF h
theorem go_None {A B : Prop} (h : B) : if (none : Option V).isSome = true then A else B := iteF h
theorem go_Some {v : V} {A B : Prop} (h : A) : if (some v).isSome = true then A else B := iteT h
def rTupOf (K : PySem.W.Frag) : List V → Hp → VK → Prop := fun vs H Q => ∃ p xs, vs = [.ref p] ∧ ((SqL K H p xs ∧ ∀ l, H l = none → Q (.ref l) (upd H l (.tup xs))) ∨ (SqT K H p xs ∧ Q (.ref p) H))
theorem call_tupD {X : Cx} : CallR X (.type "tuple") (rTupOf X.K) := call_tuple_of
def rLstOf (K : PySem.W.Frag) : List V → Hp → VK → Prop := fun vs H Q => ∃ p xs, vs = [.ref p] ∧ (SqL K H p xs ∨ SqT K H p xs) ∧ ∀ l, H l = none → Q (.ref l) (upd H l (.lst xs))
theorem call_lstD {X : Cx} : CallR X (.type "list") (rLstOf X.K) := call_list_of
section
variable {K : PySem.W.Frag} {H : Hp} {Q : VK} {p : Addr} {xs : List V}
theorem go_tupD (e : SqL K H p xs) (h : ∀ l, H l = none → Q (.ref l) (upd H l (.tup xs))) : rTupOf K [.ref p] H Q := ⟨p, xs, rfl, .inl ⟨e, h⟩⟩
theorem go_tupDT (e : SqT K H p xs) (h : Q (.ref p) H) : rTupOf K [.ref p] H Q := ⟨p, xs, rfl, .inr ⟨e, h⟩⟩
theorem go_lstD (e : SqL K H p xs) (h : ∀ l, H l = none → Q (.ref l) (upd H l (.lst xs))) : rLstOf K [.ref p] H Q := ⟨p, xs, rfl, .inl e, h⟩
theorem go_lstDT (e : SqT K H p xs) (h : ∀ l, H l = none → Q (.ref l) (upd H l (.lst xs))) : rLstOf K [.ref p] H Q := ⟨p, xs, rfl, .inr e, h⟩
theorem go_lstDO (e : SqL K H p xs ∨ SqT K H p xs) (h : ∀ l, H l = none → Q (.ref l) (upd H l (.lst xs))) : rLstOf K [.ref p] H Q := ⟨p, xs, rfl, e, h⟩
end
theorem go_prop {C : Addr} {sp : Sp} {E : XK} {ta : TE} {σ : L2.St} {H : Hp} {Q : VK} {dvs : List V} (h : ta σ H fun x H1 => ∃ a dx fs, x = .ref a ∧ H1 a = some (.ins C dx fs) ∧ sp (.ref a :: dvs) H1 Q E) : tProp C sp dvs E ta σ H Q := h
end Vc
namespace Vc
open PySem PySem.Spec PyProof.Rows L2
section
variable {X : Cx} {pins : List (Addr × Obj)} {σ : L2.St} {H : Hp} {s sI : Shared} {a : Addr} {o : HO}
end
section
variable {X : Cx} {x n : Str} {c : Value} {i : Nat} {body suite : List Stmt} {b₀ : Stmt} {np pos pos' : Pos} {tb : WX → TS} {ts : TS} {Wout : WX}
end
section
variable {K : PySem.W.Frag} {c : Value} {i : Nat} {tb : WX → TS} {ts : TS} {Wout : WX} {D : Ends} {σ : L2.St} {H : Hp} {cls : Value} {d : Option Addr}
end
section
variable {K : PySem.W.Frag} {a D : Addr} {fs : List (Str × V)} {H : Hp} {Q : VK} {b : Bool}
end
section
variable {X : Cx} {k : Nat} {f : Addr} {fd : FuncData} {ps : List Str} {sp : Sp} {x : Str} {q pos : Pos} {e : Expr} {es : List Expr} {t : TA}
end
end Vc
namespace Vc
open PySem PySem.Spec PyProof.Rows L2
section
variable {K : PySem.W.Frag} {H : Hp} {Q : VK} {a C dx : Addr} {fs : List (Str × V)} {y : V} {t : Value} {sp : Sp}
theorem go_setPV {R : Addr → Prop} (ha : H a = some (.ins C dx fs)) (h : R a) : ∃ (a' dx : Addr) (fs : List (Str × V)), V.ref a = .ref a' ∧ H a' = some (.ins C dx fs) ∧ R a' := ⟨a, dx, fs, rfl, ha, h⟩
end
section
variable {K : PySem.W.Frag} {x qual : Str} {params : Arguments} {body : List Stmt} {scope : Scope} {dvs : List V} {kws : List (Str × V)} {f : Addr} {fd : FuncData} {ps ks : List Str}
theorem bindsAll (F : FunD K x qual params body scope dvs kws f fd) (hd : dvs ≠ [])
  (h : ∀ (T : Addr) (kV doc pm : Value) (an : Option Addr) (cdv ct : Value) (us its : List Value), us.length = ps.length → its.length = dvs.length →
   ∃ k, bindArgs (PySem.W.fnOf x qual params body scope (.ref T) kV doc pm an cdv ct) ⟨us, []⟩ = seqItems? (.ref T) >>= k ∧ k (some its.toArray) = pure (ps.zip us)) : Binds K fd ps [] := by
 obtain ⟨ds, r, b⟩ := F.binds1 (ps := ps) ps.length dvs.length hd (by rw [Nat.sub_self, Nat.add_zero]) (fun T kV doc pm an cdv ct us its l1 l2 => by
  obtain ⟨k, e1, e2⟩ := h T kV doc pm an cdv ct us its l1 l2
  exact ⟨k, e1, by rw [List.drop_of_length_le (Nat.le_of_eq l2), List.append_nil]; exact e2⟩)
 rw [List.drop_of_length_le (Nat.le_refl _)] at r
 cases r
 exact b
end
section
variable {X : Cx} {CX : CXT} {k : Nat} {f C : Addr} {fd : FuncData} {ps ks : List Str} {sp : Sp} {E : XK} {x : Str} {p pos : Pos} {kws : List Keyword} {tk : TA} {g : List Value → List Value → List Value} {gV : List V → List V → List V}
end
theorem go_make0 {C : Addr} {sp : Sp} {dvs : List V} {E : XK} {σ : L2.St} {H : Hp} {Q : VK} (h : ∀ x dx, H x = none → H dx = none → dx ≠ x → sp (.ref x :: dvs) (upd (upd H dx (.own x)) x (.ins C dx [])) (fun v H2 => v = .non ∧ Q (.ref x) H2) E) : tMake C sp dvs E tNil σ H Q := h
end Vc
namespace Vc
open PySem PySem.Spec PyProof.Rows L2
section
variable {X : Cx} {C g : Addr} {fd : FuncData} {ps : List Str} {sp : Sp} {n : Nat}
theorem runO {A : Around} {pins : List (Addr × Obj)} {σ : L2.St} {s : Shared} {H : Hp} {us : List Value} {vs : List V} {Q : VK} {EE : Value → Shared → Prop} (F : FnOk X.prog X.w X.K X.mg X.base CX0 n g fd ps sp) (hr : Room n A) (hb : Binds X.K fd ps [])
  (I : Inv X pins σ H s) (env0 : Env0 X.prog X.w X.K X.mg X.base A X.stack s H) (r2 : Vals vs us) (q : sp vs H Q E0) :
  wpAny (model X.prog X.w) A (call (.ref g) us) (fun u s' => ∃ z H', Inv X pins σ H' s' ∧ RelV z u ∧ Q z H') EE s := by
 have hl := F.len _ _ _ _ q
 have hb' := hb s us I.kIn (by rw [List.append_nil, ← r2.length]; exact hl)
 rw [List.append_nil] at hb'
 refine wpAny_call (codeAny_mono (F.run A X.stack s H ⟨us, []⟩ us vs _ E0 hr env0 hb' r2 q) fun r s' hq => ?_)
 cases r with
 | error e => exact hq.elim
 | ok fl =>
  cases fl with
  | ret w =>
   obtain ⟨z, H', I', rz, qz⟩ := I.after hq
   exact ⟨z, H', I', rz, qz⟩
  | next => exact False.elim hq
  | brk => exact False.elim hq
  | cont => exact False.elim hq
structure SpM (K : PySem.W.Frag) (C g : Addr) (x : Str) : Prop where
 at_ : PySem.W.findIn K (.ref C) x = some (some (.ref g))
 fn : PySem.W.isFn K (.ref g) = true
def rInO (C : Addr) (sp : Sp) (b0 : Bool) : R2 := fun y x H Q => ∃ (a dx : Addr) (fs : List (Str × V)), x = .ref a ∧ H a = some (.ins C dx fs) ∧ sp [.ref a, y] H (fun v H' => ∃ b, v = .bl b ∧ Q (.bl (xor b0 b)) H') E0
theorem op_notinO (F : FnOk X.prog X.w X.K X.mg X.base CX0 n g fd ps sp) (hr : Room n X.A) (m : SpM X.K C g "__contains__") (hb : Binds X.K fd ps []) : OpR X (compareOp .NotIn) (rInO C sp true) := by
 intro pins s σ H y x v u Q I ry rx h
 obtain ⟨a, dx, fs, rfl, ha, q⟩ := h
 cases rx
 obtain ⟨mA, J, _⟩ := ins_get I.hok ha
 obtain ⟨od, J, _⟩ := J.look
 obtain ⟨mm, hF⟩ := I.fr
 refine PySem.W.notIn_K hF I.ok.mod.kin J m.at_ m.fn ?_
 refine wpAny_mono (runO (vs := [.ref a, y]) F hr hb I I.env0 (.cons rfl (.cons ry .nil)) q) (fun w' s' hq => ?_) (fun _ _ e => e)
 obtain ⟨z, H', I', rz, b, rfl, qz⟩ := hq
 cases rz
 rw [Bool.true_xor] at qz
 exact wpAny_truthy_bool ⟨.bl (!b), H', I', rfl, qz⟩
theorem runOS {CX : CXT} {E : XK} {A : Around} {pins : List (Addr × Obj)} {σ : L2.St} {s : Shared} {H : Hp} {us : List Value} {vs : List V} {Q : VK} (F : FnOk X.prog X.w X.K X.mg X.base CX n g fd ps sp) (hr : Room n A) (hb : Binds X.K fd ps [])
  (hx : PassesAt CX X σ E) (I : Inv X pins σ H s) (env0 : Env0 X.prog X.w X.K X.mg X.base A X.stack s H) (r2 : Vals vs us) (q : sp vs H Q E) :
  wpAny (model X.prog X.w) A (call (.ref g) us) (EP X pins σ Q) X.xe s := by
 have hl := F.len _ _ _ _ q
 have hb' := hb s us I.kIn (by rw [List.append_nil, ← r2.length]; exact hl)
 rw [List.append_nil] at hb'
 refine wpAny_call (codeAny_mono (F.run A X.stack s H ⟨us, []⟩ us vs _ E hr env0 hb' r2 q) fun r s' hq => ?_)
 cases r with
 | error e => exact hx pins _ _ e s' I hq
 | ok fl =>
  cases fl with
  | ret w => exact I.after hq
  | next => exact False.elim hq
  | brk => exact False.elim hq
  | cont => exact False.elim hq
def tIxO (C : Addr) (sp : Sp) (E : L2.St → XK) (ta tb : TE) : TE := fun σ H Q => ta σ H fun x H1 => tb σ H1 fun y H2 => ∃ (a dx : Addr) (fs : List (Str × V)), x = .ref a ∧ H2 a = some (.ins C dx fs) ∧ sp [.ref a, y] H2 Q (E σ)
theorem pe_ixO {CX : CXT} {E : L2.St → XK} {a b : Expr} {ta tb : TE} {pos : Pos} (ha : PE X a ta) (hb0 : PE X b tb) (m : SpM X.K C g "__getitem__") (mf : PySem.W.fnIn X.K g = true) (F : FnOk X.prog X.w X.K X.mg X.base CX n g fd ps sp) (hr : Room (n + 1) X.A)
  (hb : Binds X.K fd ps []) (hx : ∀ σ, PassesAt CX X σ (E σ)) (hsl : ∀ o i, subscripted b true o i = runValue (.builtin "lifetime.subscript" ⟨[o, i], []⟩) := by intro _ _; with_unfolding_all rfl) : PE X (.Subscript a b pos) (tIxO C sp E ta tb) := by
 refine ⟨fun pins s σ H Q I h => ?_⟩
 refine Subscript_ (binT (R := fun x y H2 => ∃ (a dx : Addr) (fs : List (Str × V)), x = .ref a ∧ H2 a = some (.ins C dx fs) ∧ sp [.ref a, y] H2 Q (E σ)) ha hb0 I h fun v u s2 x y H2 I2 rx ry q => ?_)
 obtain ⟨p, dx, fs, rfl, hp, q⟩ := q
 cases rx
 obtain ⟨mA, J, _⟩ := ins_get I2.hok hp
 obtain ⟨od, J, _⟩ := J.look
 obtain ⟨mm, hF⟩ := I2.fr
 exact PySem.W.sub_K hF I2.ok.mod.kin J m.at_ mf m.fn (runOS (vs := [.ref p, y]) F hr.in1 hb (hx σ) I2 I2.env0.in1 (.cons rfl (.cons ry .nil)) q) (hsl _ _)
section
variable {ta tb : TE} {σ : L2.St} {H : Hp} {Q : VK} {E : L2.St → XK}
theorem go_ixO (h : ta σ H fun x H1 => tb σ H1 fun y H2 => ∃ (a dx : Addr) (fs : List (Str × V)), x = .ref a ∧ H2 a = some (.ins C dx fs) ∧ sp [.ref a, y] H2 Q (E σ)) : tIxO C sp E ta tb σ H Q := h
theorem go_insF {a dx : Addr} {fs : List (Str × V)} {R : Addr → Prop} (ha : H a = some (.ins C dx fs)) (h : R a) : ∃ (a' dx : Addr) (fs : List (Str × V)), V.ref a = .ref a' ∧ H a' = some (.ins C dx fs) ∧ R a' := ⟨a, dx, fs, rfl, ha, h⟩
theorem go_inO {a dx : Addr} {fs : List (Str × V)} {y : V} {b0 : Bool} (ha : H a = some (.ins C dx fs)) (h : sp [.ref a, y] H (fun v H' => ∃ b, v = .bl b ∧ Q (.bl (xor b0 b)) H') E0) : rInO C sp b0 y (.ref a) H Q := ⟨a, dx, fs, rfl, ha, h⟩
end
end
end Vc
namespace Vc
open PySem PySem.Spec PyProof.Rows L2
section
open PySem.W PySem.Calls Builtin Builtin.Str
variable {prog : Program} {w : World} {A : Around} {E : Value → Shared → Prop} {s : Shared} {K : Frag} {x C L f : Addr} {h₀ : Heap} {m : Str → Option Value} {ox : Obj} {od : Option Obj}
end
section
variable {X : Cx} {C g : Addr} {fd : FuncData} {ps : List Str} {sp : Sp} {n : Nat}
section
variable {K : PySem.W.Frag} {σ : L2.St} {H : Hp} {Q : VK} {ta : TE} {t : TA} {E : XK}
theorem go_refC {P : Prop} (h : P) : V.ref C = V.ref C ∧ P := ⟨rfl, h⟩
end
end
section
variable {K : PySem.W.Frag} {H : Hp} {Q : VK} {σ : L2.St} {te : TE} {ts : List TE} {acc : Str}
theorem go_tyD {a : Addr} {kvs : List (Key × V)} {P : Prop} (e : H a = some (.dK kvs)) (h : P) : tyV K "dict" (.ref a) H ∧ P := ⟨.inr (.inr (.inl ⟨rfl, .inl ⟨kvs, e⟩⟩)), h⟩
theorem go_dclear {a : Addr} {kvs : List (Key × V)} (e : H a = some (.dK kvs)) (h : Q .non (upd H a (.dK []))) : rDClear (.ref a) [] H Q := ⟨a, kvs, rfl, rfl, e, h⟩
theorem go_lclear {a : Addr} {xs : List V} (e : H a = some (.lst xs)) (h : Q .non (upd H a (.lst []))) : rClear (.ref a) [] H Q := ⟨a, xs, rfl, rfl, e, h⟩
theorem go_revL (h : te σ H fun x H1 => ∃ a xs, x = .ref a ∧ SqL K H1 a xs ∧ ∀ p, H1 p = none → Q (.ref p) (upd H1 p (.lst xs.reverse))) : tRevL K te σ H Q := h
theorem go_revLV {a : Addr} {xs : List V} {R : List V → Prop} (e : SqL K H a xs) (h : R xs) : ∃ a' ys, V.ref a = .ref a' ∧ SqL K H a' ys ∧ R ys := ⟨a, xs, rfl, e, h⟩
theorem go_js0 {R : Str → Hp → Prop} (h : R acc H) : tJs [] acc σ H R := h
theorem go_js {R : Str → Hp → Prop} (h : te σ H fun x H1 => ∃ y : Str, x = .str y ∧ (acc ++ y).length ≤ sizeLine ∧ tJs ts (acc ++ y) σ H1 R) : tJs (te :: ts) acc σ H R := h
theorem go_jsV {y : Str} {P : Str → Prop} (l : (acc ++ y).length ≤ 1000) (h : P y) : ∃ z : Str, V.str y = .str z ∧ (acc ++ z).length ≤ sizeLine ∧ P z := ⟨y, rfl, Nat.le_of_lt (small1000 l), h⟩
theorem go_szS {y : Str} {P : Prop} (l : y.length ≤ 1000) (h : P) : y.length ≤ sizeLine ∧ P := ⟨Nat.le_of_lt (small1000 l), h⟩
theorem go_fmt (h : te σ H fun x H1 => (∃ y : Str, x = .str y ∧ y.length ≤ sizeLine ∧ Q (.str y) H1) ∨ ∃ i : Int, x = .int i ∧ i.natAbs.log2 < 1920 ∧ Q (.str (toString i)) H1) : tFmt te σ H Q := h
theorem go_fmtS {y : Str} {P : Str → Prop} {P' : Int → Prop} (l : y.length ≤ 1000) (h : P y) : (∃ z : Str, V.str y = .str z ∧ z.length ≤ sizeLine ∧ P z) ∨ ∃ i : Int, V.str y = .int i ∧ i.natAbs.log2 < 1920 ∧ P' i := .inl ⟨y, rfl, Nat.le_of_lt (small1000 l), h⟩
theorem go_fmtI {i : Int} {P : Str → Prop} {P' : Int → Prop} (l : i.natAbs.log2 < 1920) (h : P' i) : (∃ z : Str, V.int i = .str z ∧ z.length ≤ sizeLine ∧ P z) ∨ ∃ j : Int, V.int i = .int j ∧ j.natAbs.log2 < 1920 ∧ P' j := .inr ⟨i, rfl, l, h⟩
theorem go_strI {i : Int} {P : Int → Prop} (l : i.natAbs.log2 < 1920) (h : P i) : ∃ j, [V.int i] = [.int j] ∧ j.natAbs.log2 < 1920 ∧ P j := ⟨i, rfl, l, h⟩
end
end Vc
namespace Vc
open PySem PySem.Spec PyProof.Rows L2
section
variable {prog : Program} {w : World} {A : Around} {E : Value → Shared → Prop} {s : Shared} {it l : Addr} {i : Nat} {items : Array Value}
end
section
variable {X : Cx} {pins : List (Addr × Obj)} {σ : L2.St}
end
end Vc
namespace Vc
open PySem PySem.Spec PyProof.Rows L2
section
variable {w : World} {P : Program} {K : PySem.W.Frag} {mg : Str → Option Value} {base : Heap}
end
section
variable {X : Cx} {CX : CXT} {k : Nat} {f C : Addr} {sp : Sp} {E : L2.St → XK} {x : Str} {e : Expr} {es : List Expr} {t : TA} {p pos : Pos}
end
end Vc
namespace Vc
open PySem PySem.Spec PyProof.Rows L2
section
variable {X : Cx}
end
section
variable {K : PySem.W.Frag} {w : World} {H : Hp} {Q : VK}
end
section
variable {P : Program} {w : World} {A : Around} {E : Value → Shared → Prop} {s : Shared}
end
section
variable {X : Cx}
def rSetL (K : PySem.W.Frag) (w : World) : List V → Hp → VK → Prop := fun xs H Q => ∃ (p : Addr) (ns : List Int), xs = [.ref p] ∧ SqL K H p (ns.map V.int) ∧ ns.length ≤ 1000 ∧
 ∀ a n, H a = none → n ≤ ns.length → Q (.ref a) (upd H a (SetO w a (fun j => decide (j ∈ ns)) n))
end
section
variable {K : PySem.W.Frag} {w : World} {H : Hp} {Q : VK}
end
end Vc
namespace Vc
open PySem PySem.Spec PyProof.Rows L2
theorem turn_long {P : Program} {w : World} {K : PySem.W.Frag} {tg : Expr} (it : Addr) (lo : Int) (n : Nat) : Turn P w K tg (Itr lo n) [it] it (fun i h => IsLongIter h it (lo + (i : Nat) * 1) ((n : Int) - (i : Nat)) 1) where
 mem := List.mem_singleton.mpr rfl
 obj := fun i h st b hb => by
  cases List.mem_singleton.mp hb
  refine ⟨_, st, fun v z => ?_⟩
  have q : Data.fields #[rawInt (lo + (i : Nat) * 1), rawInt ((n : Int) - (i : Nat)), rawInt 1] = Data.cell v := z
  cases q
 keep := fun i h h' st k => k it (List.mem_singleton.mpr rfl) _ st
 item := by
  intro X hP hw hK hc i pins s σ H E I hf st hg
  subst hP hw hK
  obtain ⟨f0, f1, f2, f3, f4, f5⟩ := hf it (List.mem_singleton.mpr rfl)
  refine (Walks.longrange (prog := X.prog) (w := X.w) (I.ok.hd hc) it lo 1 n).item i s _ _ hg st fun v h' tk hv st' kk => ?_
  obtain ⟨t, rfl⟩ := hv
  have J : Inv X pins σ H { s with heap := h', toks := tk } := I.turned (fun b o hb e => kk b o (fun z => hb (List.mem_singleton.mp z)) e) f0 f1 f3 f4 f5
  refine ⟨_, rfl, go_of (s := { s with heap := h', toks := tk }) (n := "longrange_iterator") st' rfl rfl (by decide) ⟨.int (lo + i), H, J, ⟨t, by rw [Int.mul_one]⟩, ⟨rfl, rfl⟩, st', fun b hb => (hf b hb).1⟩⟩
 done := by
  intro X hP hw hK hc i pins s σ H E I hf st hg
  subst hP hw hK
  obtain ⟨f0, f1, f2, f3, f4, f5⟩ := hf it (List.mem_singleton.mpr rfl)
  have hz : (n : Int) - (i : Nat) ≤ 0 := by have : n ≤ i := hg; omega
  exact wpAny_pyNext_long_end (I.ok.hd hc) st hz fun h' eb => ⟨rfl, I.turned (t' := s.toks) (fun b o hb e => eb b o hb e) f0 f1 f3 f4 f5⟩
 self := fun _ _ _ _ _ st h => wpAny_pyIter_longiter st h
theorem size_one (a b : Int) : Builtin.Range.rangeSize a b 1 = (((b - a).toNat : Nat) : Int) := rangeSize_nat a b
theorem range_itL {tg : Expr} {X : Cx} {pins : List (Addr × Obj)} {σ : L2.St} {H : Hp} {s : Shared} {R : It → Hp → Prop} {E : Value → Shared → Prop} {lo hi : Int} {t u v : Tok} {tk : Nat} (I : Inv X pins σ H s)
  (q : R (Itr lo (hi - lo).toNat) H) : wpAny (model X.prog X.w) X.A (pyIter (.ref s.heap.objs.size)) (PIE X pins σ tg R) E { s with heap := s.heap.push { cls := .type "range", data := .fields #[.int lo t, .int hi u, .int 1 v] }, toks := tk } := by
 have J : Inv X pins σ H { s with heap := s.heap.push { cls := .type "range", data := .fields #[.int lo t, .int hi u, .int 1 v] }, toks := tk } := I.kept fun b o e => Heap.get?_push_of_some _ e
 have z1 : lo + ((0 : Nat) : Int) * 1 = lo := by simp
 have z2 : (((hi - lo).toNat : Nat) : Int) - ((0 : Nat) : Int) = Builtin.Range.rangeSize lo hi 1 := by rw [size_one]; simp
 by_cases hs : Builtin.Range.small lo hi 1 = true
 ·refine wpAny_pyIter_range (IsRange.new ..) hs ?_
  refine ⟨_, [_], _, _, H, rfl, J.kept (t' := tk) fun b o e => Heap.get?_push_of_some _ e, turn_range _ lo (hi - lo).toNat, ?_, fun b hb => ?_, q⟩
  ·show IsRangeIter _ _ (lo + ((0 : Nat) : Int) * 1) ((((hi - lo).toNat : Nat) : Int) - ((0 : Nat) : Int)) 1
   rw [z1, z2]
   exact Heap.get?_push_size _ rfl
  ·cases List.mem_singleton.mp hb
   exact J.fpOk (Nat.le_refl _) (J.hok.fresh (Nat.le_refl _))
 ·refine wpAny_pyIter_longrange (IsRange.new ..) (Bool.eq_false_iff.mpr hs) ?_
  refine ⟨_, [_], _, _, H, rfl, J.kept (t' := tk) fun b o e => Heap.get?_push_of_some _ e, turn_long _ lo (hi - lo).toNat, ?_, fun b hb => ?_, q⟩
  ·show IsLongIter _ _ (lo + ((0 : Nat) : Int) * 1) ((((hi - lo).toNat : Nat) : Int) - ((0 : Nat) : Int)) 1
   rw [z1, z2]
   exact Heap.get?_push_size _ rfl
  ·cases List.mem_singleton.mp hb
   exact J.fpOk (Nat.le_refl _) (J.hok.fresh (Nat.le_refl _))
def iRngL (ta : TA) : TI := fun σ H R => ta σ H fun vs H1 => ∃ i j : Int, vs = [.int i, .int j] ∧ R (Itr i (j - i).toNat) H1
theorem pi_rangeL {tg : Expr} {X : Cx} {a b : Expr} {ta : TA} {p pos : Pos} (hg : Gl X "range") (hm : X.mg "range" = none) (ha : PA X [a, b] ta) (hs : starEach [a, b] X.env = [(false, eval a X.env), (false, eval b X.env)] := by rfl) (hs2 : starEach [b] X.env = [(false, eval b X.env)] := by rfl) :
  PI X tg (.Call (.Name "range" p) [a, b] [] pos) (iRngL ta) := by
 refine ⟨fun pins s σ H R I h => ?_⟩
 refine Call_ (ld_blt I hg hm boot_range (PyProof.Rows.callWith_type1 (thn (ha.run pos pins s σ H _ I h) fun us s1 ⟨vs, H1, I1, r1, i, j, e, q⟩ => ?_) (by rw [hs, hs2]) (by rw [hs2]; rfl)))
 subst e
 rcases r1 with _ | ⟨⟨t, rfl⟩, _ | ⟨⟨t', rfl⟩, _ | _⟩⟩
 exact call_range_2 (range_itL I1 q)
theorem go_iRngL {ta : TA} {σ : L2.St} {H : Hp} {R : It → Hp → Prop} (h : ta σ H fun vs H1 => ∃ i j : Int, vs = [.int i, .int j] ∧ R (Itr i (j - i).toNat) H1) : iRngL ta σ H R := h
theorem go_iRngLV {i j : Int} {P : Int → Int → Prop} (h : P i j) : ∃ i' j' : Int, [V.int i, V.int j] = [.int i', .int j'] ∧ P i' j' := ⟨i, j, rfl, h⟩
section
variable {prog : Program} {w : World} {A : Around} {E : Value → Shared → Prop} {s : Shared}
theorem long_loop {R : Result → Shared → Prop} {r it : Addr} {a c : Int} {n : Nat} (hh : A.handled = none) (hlen : n ≤ sizeLine) (S : Addr) (hSI : S ≠ it) (res : Value) (c₁ : Nat) (h0 : Heap) (base : Heap) (tk : Nat)
  (st : IsLongIter h0 it (a + ((0 : Nat) : Int) * c) ((n : Int) - ((0 : Nat) : Int)) c) (kb : ∀ b o, b ≠ S → base.get? b = some o → h0.get? b = some o) (nI : base.get? it = none) (hS : h0.get? S = some { cls := .type "list", data := .seq #[] c₁ })
  (hR : ∀ h' tk acc' c', (∀ b o, b ≠ S → base.get? b = some o → h'.get? b = some o) → h'.get? S = some { cls := .type "list", dict := none, data := .seq acc' c', slots := #[] } → ItemsOf (fun i v => ∃ t, v = .int (a + i * c) t) acc' n → R (.ok (.ret res)) { s with heap := h', toks := tk }) :
  codeAny (model prog w) A (.builtin "list.extend.loop" ⟨[.ref S, .ref it, res], []⟩) R { s with heap := h0, toks := tk } := by
 refine codeAny_extend_loopS (Walks.longrange (prog := prog) (w := w) (A := A.in1) hh it a c n).toS hlen S (fun z => hSI (List.mem_singleton.mp z)) res n 0 { s with heap := h0, toks := tk } #[] c₁ rfl (Nat.zero_le _) st hS (ItemsOf.nil _) fun s' acc' c' hm hS' hacc => ?_
 rw [Moved.eq_with hm]
 refine hR s'.heap s'.toks acc' c' (fun b o hb e => hm.heap b o (fun z => ?_) (kb b o hb e)) hS' hacc
 rcases List.mem_cons.mp z with z | z
 ·exact hb z
 ·rw [List.mem_singleton.mp z, nI] at e; cases e
theorem long_extend {R : Result → Shared → Prop} {r : Addr} {a b c : Int} {t u v : Tok} {n : Nat} (hh : A.handled = none) (hr : IsRange s.heap r a b c t u v) (hbig : Builtin.Range.small a b c = false) (hn : Builtin.Range.rangeSize a b c = n) (hlen : n ≤ 2 ^ 24)
  (S : Addr) (res : Value) (c₀ : Nat) (hS : s.heap.get? S = some { cls := .type "list", data := .seq #[] c₀ })
  (hR : ∀ h' tk acc' c', (∀ b o, b ≠ S → s.heap.get? b = some o → h'.get? b = some o) → h'.get? S = some { cls := .type "list", dict := none, data := .seq acc' c', slots := #[] } → ItemsOf (fun i v => ∃ t, v = .int (a + i * c) t) acc' n → R (.ok (.ret res)) { s with heap := h', toks := tk }) :
  wpAny (model prog w) A.in1 (Builtin.List.listExtendWith (.ref S) (.ref r) res)
   (fun fin s' => match fin with | .done f => R (.ok f) s' | .again c' => c'.quiet = true ∧ codeAny (model prog w) A c' R s') (fun e s' => R (.error e) s') s := by
 have nSr : S ≠ r := fun e => by rw [e, hr] at hS; simp at hS
 have nSI : S ≠ s.heap.objs.size := Nat.ne_of_lt (Heap.lt_size hS)
 have nI : s.heap.get? s.heap.objs.size = none := by
  cases q : s.heap.get? s.heap.objs.size with
  | none => rfl
  | some o => exact absurd (Heap.lt_size q) (Nat.lt_irrefl _)
 generalize hO : ({ cls := .type "longrange_iterator", data := .fields #[rawInt a, rawInt (Builtin.Range.rangeSize a b c), rawInt c] } : Obj) = oI
 have st0 : ∀ h : Heap, h.get? s.heap.objs.size = some oI → IsLongIter h s.heap.objs.size (a + ((0 : Nat) : Int) * c) ((n : Int) - ((0 : Nat) : Int)) c := fun h e => by
  show h.get? _ = some _
  rw [e, ← hO, hn]; simp
 have hl : n ≤ sizeLine := by rw [sizeLine_eq]; omega
 unfold Builtin.List.listExtendWith
 refine wpAny_bind (wpAny_typeOf (T := "range") ⟨_, hr, rfl⟩ ?_)
 have q1 : Builtin.List.listSameRef (.ref S) (.ref r) = false := by simp [Builtin.List.listSameRef, nSr]
 have q2 : ((Value.type "range" == Value.type "list") || (Value.type "range" == Value.type "tuple")) = false := by decide
 simp only [q1, q2, Bool.or_false, Bool.false_or, Bool.false_eq_true, if_false]
 refine wpAny_bind (wpAny_pyIter_longrange hr hbig ?_)
 rw [hO]
 refine wpAny_bind (wpAny_holding (wpAny_hint_range (n := n) (Heap.get?_push_of_some _ hr) hn hlen ?_))
 have p1 : (s.heap.push oI).get? s.heap.objs.size = some oI := by subst hO; exact Heap.get?_push_size _ rfl
 have p2 := Heap.get?_push_of_some oI hS
 refine wpAny_ite_split (fun _ => ?_) (fun _ => wpAny_pure ⟨plainId_quiet F.plain_extend_loop _, long_loop (prog := prog) (w := w) (s := s) (r := r) hh hl S nSI res c₀ _ s.heap _ (st0 _ p1) (fun b o _ e => Heap.get?_push_of_some _ e) nI p2 hR⟩)
 refine wpAny_bind (wpAny_rule (wpAny_bind ?_))
 show wpAny _ _ (updateSeq S (·.push .none) >>= fun _ => updateSeq S (·.pop)) _ _ _
 refine wpAny_bind (wpAny_updateSeq p2 rfl ?_)
 have p3 := Heap.get?_update_self (Obj.mapSeq (·.push Value.none)) p2 rfl
 refine wpAny_updateSeq (hz := by seq_fits) p3 rfl ?_
 have p4 := Heap.get?_update_self (Obj.mapSeq (·.pop)) p3 rfl
 refine wpAny_pure ⟨plainId_quiet F.plain_extend_loop _, long_loop (prog := prog) (w := w) (s := s) (r := r) hh hl S nSI res _ _ s.heap _ (st0 _ ?_) (fun b o hb e => ?_) nI p4 hR⟩
 ·rw [Heap.get?_update_other _ _ nSI, Heap.get?_update_other _ _ nSI]; exact p1
 ·rw [Heap.get?_update_other _ _ (Ne.symm hb), Heap.get?_update_other _ _ (Ne.symm hb)]; exact Heap.get?_push_of_some _ e
theorem long_init {R : Result → Shared → Prop} {r : Addr} {a b c : Int} {t u v : Tok} {n : Nat} (hh : A.handled = none) (hr : IsRange s.heap r a b c t u v) (hbig : Builtin.Range.small a b c = false) (hn : Builtin.Range.rangeSize a b c = n) (hlen : n ≤ 2 ^ 24)
  (S : Addr) (hS : s.heap.get? S = some { cls := .type "list", data := .seq #[] })
  (hR : ∀ h' tk acc' c', (∀ b o, b ≠ S → s.heap.get? b = some o → h'.get? b = some o) → h'.get? S = some { cls := .type "list", dict := none, data := .seq acc' c', slots := #[] } → ItemsOf (fun i v => ∃ t, v = .int (a + i * c) t) acc' n → R (.ok (.ret .none)) { s with heap := h', toks := tk }) :
  wpAny (model prog w) A.in1 (Builtin.«list.__init__» ⟨[.ref S, .ref r], []⟩)
   (fun fin s' => match fin with | .done f => R (.ok f) s' | .again c' => c'.quiet = true ∧ codeAny (model prog w) A c' R s') (fun e s' => R (.error e) s') s := by
 have nSr : S ≠ r := fun e => by rw [e, hr] at hS; simp at hS
 show wpAny _ _ (do let old ← Builtin.List.listItems (.ref S); Builtin.List.listUpdate (.ref S) (fun _ => #[]); letGo old.toList.reverse; Builtin.List.listExtendWith (.ref S) (.ref r) .none) _ _ s
 unfold Builtin.List.listItems
 refine wpAny_bind (wpAny_bind (wpAny_seqItems hS rfl (wpAny_pure ?_)))
 show wpAny _ _ (updateSeq S (fun _ => #[]) >>= fun _ => letGo (#[] : Array Value).toList.reverse >>= fun _ => Builtin.List.listExtendWith (.ref S) (.ref r) .none) _ _ s
 refine wpAny_bind (wpAny_updateSeq hS rfl (wpAny_bind (wpAny_letGo ?_)))
 have oth : ∀ {b : Addr} {o : Obj}, b ≠ S → s.heap.get? b = some o → (s.heap.update S (Obj.mapSeq (fun _ => (#[] : Array Value)))).get? b = some o :=
  fun hb e => by rw [Heap.get?_update_other _ _ (Ne.symm hb)]; exact e
 refine long_extend hh (oth (Ne.symm nSr) hr) hbig hn hlen S .none _ (Heap.get?_update_self _ hS rfl) fun h' tk acc' c' hk hS' hacc => ?_
 exact hR h' tk acc' c' (fun b o hb e => hk b o hb (oth hb e)) hS' hacc
theorem call_list_rangeL {Q : Value → Shared → Prop} {r : Addr} {a b c : Int} {t u v : Tok} {n : Nat} (hh : A.handled = none) (hr : IsRange s.heap r a b c t u v) (hn : Builtin.Range.rangeSize a b c = n) (hlen : n ≤ 2 ^ 24)
  (hQ : ∀ h' tk acc' c', (∀ b o, s.heap.get? b = some o → h'.get? b = some o) → h'.get? s.heap.objs.size = some { cls := .type "list", dict := none, data := .seq acc' c', slots := #[] } → ItemsOf (fun i v => ∃ t, v = .int (a + i * c) t) acc' n → Q (.ref s.heap.objs.size) { s with heap := h', toks := tk }) :
  wpAny (model prog w) A (call (.type "list") [.ref r]) Q E s := by
 by_cases hs : Builtin.Range.small a b c = true
 ·exact call_list_range hh hr hs hn hlen hQ
 ·refine callType_codes (Q₁ := fun obj s₁ => obj = .ref s.heap.objs.size ∧ s₁ = { s with heap := s.heap.push { cls := .type "list", data := .seq #[] } }) F.called_list (F.typeCall_list_1 _) F.entry_list_init (code_list_new _ ⟨rfl, rfl⟩) fun obj s₁ h₁ => ?_
  obtain ⟨rfl, rfl⟩ := h₁
  have hS : (s.heap.push { cls := .type "list", data := .seq #[] }).get? s.heap.objs.size = some { cls := .type "list", data := .seq #[] } := Heap.get?_push_size _ rfl
  exact ⟨⟨_, hS, rfl⟩, F.args_list_init_2 _ _, long_init (A := A.in1) hh (Heap.get?_push_of_some _ hr) (Bool.eq_false_iff.mpr hs) hn hlen _ hS fun h' tk acc' c' hk hS' hacc =>
   ⟨rfl, hQ h' tk acc' c' (fun b o e => hk b o (Nat.ne_of_lt (Heap.lt_size e)) (Heap.get?_push_of_some _ e)) hS' hacc⟩⟩
end
def rgI (a b : Int) : List Int := (List.range (b - a).toNat).map fun i => a + (i : Nat)
theorem rgI_len (a b : Int) : (rgI a b).length = (b - a).toNat := by unfold rgI; rw [List.length_map, List.length_range]
theorem rgI_V (a b : Int) : (rgI a b).map V.int = rgV a b := by unfold rgI rgV; rw [List.map_map]; rfl
def tLstRgL (te : L2.St → Hp → (Int → Int → Hp → Prop) → Prop) : TE := fun σ H Q => te σ H fun a b H1 => (b - a).toNat ≤ 2 ^ 24 ∧ ∀ q, H1 q = none → Q (.ref q) (upd H1 q (.lst ((rgI a b).map V.int)))
theorem pe_listRgL {X : Cx} {e : Expr} {te : L2.St → Hp → (Int → Int → Hp → Prop) → Prop} {p pos : Pos} (hc : X.calm = true) (hg : Gl X "list") (hm : X.mg "list" = none) (he : PRg X e te) (na : starEach [e] X.env = (false, eval e X.env) :: starEach [] X.env := by rfl) : PE X (.Call (.Name "list" p) [e] [] pos) (tLstRgL te) := by
 refine ⟨fun pins s σ H Q I h => ?_⟩
 refine Call_ (ld_blt I hg hm boot_list (PyProof.Rows.callWith_type1 (args_cons (thn (he pins s σ H _ I h) fun x s1 ⟨r, a, b, t, u, v, H1, ex, hr, I1, ok, q⟩ => args_nil ?_) na) na))
 subst ex
 refine call_list_rangeL (n := (b - a).toNat) (I1.ok.hd hc) hr (rangeSize_nat a b) ok fun h' tk acc c' hk e' hi => ?_
 have hz : ((rgI a b).map V.int).length ≤ sizeLine := by rw [List.length_map, rgI_len, sizeLine_eq]; omega
 refine ⟨.ref s1.heap.objs.size, _, I1.laid hk (Nat.le_refl _) (show ObjOk X.prog X.w _ _ _ (.lst ((rgI a b).map V.int)) from ⟨hz, acc.toList, c', by rw [rgI_V]; exact vals_rg hi, by rw [Array.toArray_toList]; exact e'⟩), rfl, q _ (I1.hok.fresh (Nat.le_refl _))⟩
section
variable {ta tb : TE} {σ : L2.St} {H : Hp} {Q : VK} {K : PySem.W.Frag}
theorem go_lstRg (h : ta σ H fun x H1 => tb σ H1 fun y H2 => ∃ i j, x = .int i ∧ y = .int j ∧ (j - i).toNat ≤ 2 ^ 24 ∧ ∀ q, H2 q = none → Q (.ref q) (upd H2 q (.lst ((rgI i j).map V.int)))) : tLstRgL (tRg2 ta tb) σ H Q := h
theorem go_lstRgV {i j : Int} {P : Int → Int → Prop} (h : P i j) : ∃ i' j' : Int, V.int i = .int i' ∧ V.int j = .int j' ∧ P i' j' := ⟨i, j, rfl, rfl, h⟩
end
theorem rgI_get {a b : Int} {i : Nat} {x : Int} (h : (rgI a b)[i]? = some x) : x = a + i ∧ a + i < b := by
 unfold rgI at h
 rw [List.getElem?_map] at h
 cases e : (List.range (b - a).toNat)[i]? with
 | none => rw [e] at h; cases h
 | some k =>
  rw [e] at h
  obtain ⟨hk, rfl⟩ := List.getElem?_eq_some_iff.mp e
  rw [List.getElem_range] at h
  rw [List.length_range] at hk
  cases h
  exact ⟨rfl, by omega⟩
end Vc
namespace Vc
open PySem PySem.Spec PyProof.Rows L2
section
variable {X : Cx}
end
end Vc
namespace Vc
open PySem PySem.Spec PyProof.Rows L2
end Vc
namespace Vc
open PySem PySem.Spec PyProof.Rows L2
section
variable {σ : L2.St} {H : Hp} {D : Ends} {g : TG} {t : WX → TS} {W : WX}
end
end Vc
namespace Vc
open PySem PySem.Spec PyProof.Rows L2 HotX L2H
section
variable {w : World} {P : Program} {K : PySem.W.Frag} {mg : Str → Option Value} {base : Heap}
end
section
variable {X : Cx} {pins : List (Addr × Obj)} {σ : L2.St} {H : Hp} {s : Shared} {i : Nat} {n : Str}
end
section
variable {X : Cx} {x n : Str} {c : Value} {i : Nat} {body suite : List Stmt} {b₀ : Stmt} {np pos pos' : Pos} {tb : WX → TS} {ts : Addr → Value → Option Addr → TS} {Wout : WX}
end
section
variable {X : Cx} {CX : CXT} {k : Nat} {f C : Addr} {sp : Sp} {E : L2.St → XK} {x : Str} {e : Expr} {es : List Expr} {t : TA} {p pos : Pos}
end
end Vc
namespace Vc
open PySem PySem.Spec PyProof.Rows L2
end Vc
namespace Vc
open PySem PySem.Spec PyProof.Rows L2
section
variable {X : Cx} {C g : Addr} {fd : FuncData} {ps : List Str} {n : Nat}
end
section
variable {X : Cx} {tg e : Expr} {wi wj : TI}
end
end Vc
namespace Vc
open PySem PySem.Spec PyProof.Rows L2
section
open PySem.W PySem.Calls
variable {prog : Program} {w : World} {A A₀ : Around} {E : Value → Shared → Prop} {s : Shared} {K : Frag} {x C L f : Addr} {h₀ : Heap} {m : Str → Option Value} {ox : Obj} {od : Option Obj} {name : Str} {b tb : Value}
end
end Vc
namespace Vc
open PySem PySem.Spec PyProof.Rows L2
section
variable {X : Cx} {k : Nat} {f : Addr} {fd : FuncData} {ps : List Str} {sp : Sp} {x : Str} {q pos : Pos} {e : Expr} {es : List Expr} {t : TA}
structure Fits (d : PyData) : Prop where
 sh : d.showable = true
 nd : d.hasDict = false
 dp : d.depth ≤ 60
 sz : d.shown.length ≤ sizeLine
theorem room65 {k : Nat} {A : Around} (r : Room k A) : A.units + 65 < cLine := by have := r.un; omega
theorem room64 {k : Nat} {A : Around} (r : Room k A) : A.units + 64 < cLine := by have := r.un; omega
end
section
variable {K : PySem.W.Frag} {H : Hp} {Q : VK}
end
section
variable {P : Program} {w : World} {K : PySem.W.Frag} {mg mb : Str → Option Value} {k : Nat} {fa a : Addr} {fd : FuncData} {x : Str} {sp : Sp} {s₁ : Shared} {vs : List Value} {ns : List Int}
end
end Vc
namespace Vc
open PySem PySem.Spec PyProof.Rows L2
end Vc
namespace Vc
open PySem PySem.Spec PyProof.Rows L2
structure EdX (S : List Addr) (H H' : Hp) : Prop where
 keep : ∀ a o, a ∉ S → (∀ ps, o ≠ .tbl ps) → H a = some o → H' a = some o
 tup : ∀ a xs, H a = some (.tup xs) → H' a = some (.tup xs)
 frz : ∀ a o u, H a = some (.frz o u) → H' a = some (.frz o u)
def Nw (H : Hp) (a : Addr) : Prop := H a = none ∨ ∃ ps, H a = some (.tbl ps)
section
variable {S T : List Addr} {H H1 H2 : Hp} {a p : Addr} {o : HO}
theorem Nw.none (h : H a = none) : Nw H a := .inl h
theorem Nw.ne (h : Nw H p) (e : H a = some o) (n : ∀ ps, o ≠ .tbl ps := by intro _ z; cases z) : a ≠ p := fun z => by
 rw [z] at e
 rcases h with h | ⟨ps, h⟩
 ·rw [h] at e; cases e
 ·rw [h] at e; exact n ps (Option.some.inj e).symm
theorem EdX.of (e : Ed S H H1) : EdX S H H1 := ⟨fun a o n _ h => e.keep a o n h, e.tup, e.frz⟩
theorem EdX.refl : EdX S H H := ⟨fun _ _ _ _ h => h, fun _ _ h => h, fun _ _ _ h => h⟩
theorem EdX.new (e : EdX S H H1) (h : Nw H1 p) : p ∈ S ∨ Nw H p := by
 cases q : H p with
 | none => exact .inr (.inl q)
 | some o =>
  by_cases t : ∃ ps, o = .tbl ps
  ·obtain ⟨ps, rfl⟩ := t
   exact .inr (.inr ⟨ps, q⟩)
  ·by_cases m : p ∈ S
   ·exact .inl m
   ·exact (h.ne (e.keep p o m (fun ps z => t ⟨ps, z⟩) q) (fun ps z => t ⟨ps, z⟩) rfl).elim
theorem EdX.trans (x : EdX S H H1) (y : EdX T H1 H2) (hs : ∀ x ∈ T, x ∈ S ∨ Nw H x) : EdX S H H2 :=
 ⟨fun b u n t h => y.keep b u (fun z => (hs b z).elim n fun w => w.ne h t rfl) t (x.keep b u n t h), fun b xs h => y.tup b xs (x.tup b xs h), fun b v u h => y.frz b v u (x.frz b v u h)⟩
theorem EdX.ex (x : EdX S H H1) (y : EdX [] H1 H2) : EdX S H H2 := x.trans y fun _ z => nomatch z
theorem EdX.one (x : EdX S H H1) (y : EdX [p] H1 H2) (h : p ∈ S ∨ Nw H p) : EdX S H H2 := x.trans y fun b z => by rw [List.mem_singleton.mp z]; exact h
theorem EdX.mono (x : EdX S H H1) (hs : ∀ b ∈ S, b ∈ T) : EdX T H H1 := ⟨fun b u n => x.keep b u fun z => n (hs b z), x.tup, x.frz⟩
theorem EdX.at0 (e : EdX [] H H1) (h : H a = some o) (n : ∀ ps, o ≠ .tbl ps := by intro _ z; cases z) : H1 a = some o := e.keep a o (fun z => nomatch z) n h
theorem EdX.at1 (e : EdX [p] H H1) (m : a ≠ p) (h : H a = some o) (n : ∀ ps, o ≠ .tbl ps := by intro _ z; cases z) : H1 a = some o := e.keep a o (fun z => m (List.mem_singleton.mp z)) n h
theorem EdX.rdt {xs : List V} (e : EdX S H H1) (h : Rd H a (.tup xs)) : Rd H1 a (.tup xs) := h.elim (fun h => .inl (e.tup _ _ h)) fun ⟨o, h⟩ => .inr ⟨o, e.frz _ _ _ h⟩
theorem EdX.sqt {K : PySem.W.Frag} {xs : List V} (e : EdX S H H1) (h : SqT K H a xs) : SqT K H1 a xs := h.elim (fun h => .inl (e.rdt h)) .inr
theorem EdX.sql {K : PySem.W.Frag} {xs : List V} (e : EdX S H H1) (n : a ∉ S) (h : SqL K H a xs) : SqL K H1 a xs := by
 rcases h with (h | ⟨o, h⟩) | h
 ·exact .inl (.inl (e.keep _ _ n (fun _ z => nomatch z) h))
 ·exact .inl (.inr ⟨o, e.frz _ _ _ h⟩)
 ·exact .inr h
end
mutual
theorem Dp.edx {K : PySem.W.Frag} {S : List Addr} {H H' : Hp} (e : EdX S H H') (hS : ∀ a ∈ S, ∀ xs, H a ≠ some (.lst xs)) : ∀ (d : PyData) (v : V), Dp K H v d → Dp K H' v d
 | .none, _, h => by cases h; exact .non
 | .bool b, _, h => by cases h; exact .bl b
 | .int i, _, h => by cases h; exact .int i
 | .str x, _, h => by cases h; exact .str x
 | .list ds, _, h => by
  cases h with
  | lst ha hd =>
   refine .lst ?_ (Dp.edxAll e hS ds _ hd)
   rcases ha with (q | ⟨ob, q⟩) | q
   ·exact .inl (.inl (e.keep _ _ (fun z => hS _ z _ q) (fun _ z => nomatch z) q))
   ·exact .inl (.inr ⟨ob, e.frz _ _ _ q⟩)
   ·exact .inr q
 | .tuple ds, _, h => by
  cases h with
  | tup ha hd => exact .tup (e.sqt ha) (Dp.edxAll e hS ds _ hd)
theorem Dp.edxAll {K : PySem.W.Frag} {S : List Addr} {H H' : Hp} (e : EdX S H H') (hS : ∀ a ∈ S, ∀ xs, H a ≠ some (.lst xs)) : ∀ (ds : List PyData) (vs : List V), DpAll K H vs ds → DpAll K H' vs ds
 | [], _, h => by cases h; exact .nil
 | d :: ds, _, h => by
  cases h with
  | cons h1 h2 => exact .cons (Dp.edx e hS d _ h1) (Dp.edxAll e hS ds _ h2)
end
section
variable {X : Cx} {pins : List (Addr × Obj)} {σ : L2.St} {H : Hp} {s : Shared}
end
section
variable {X : Cx}
end
section
variable {P : Program} {w : World} {K : PySem.W.Frag} {mg : Str → Option Value} {base : Heap} {x qual : Str} {st : Stmt} {f c : Addr} {fd : FuncData} {N ps : List Str} {k : Nat} {sp : Sp}
end
end Vc
namespace Vc
open PySem PySem.Spec PyProof.Rows L2
section
variable {P : Program} {w : World} {K : PySem.W.Frag} {mg mb : Str → Option Value} {k : Nat} {fa a : Addr} {fd : FuncData} {x : Str} {sp : Sp} {s₁ : Shared} {vs : List Value} {ns : List Int} {cs : List (Addr × Addr)}
end
end Vc
namespace Vc
open PySem PySem.Spec PyProof.Rows L2
section
variable {X : Cx} {C g : Addr} {fd : FuncData} {ps : List Str} {sp : Sp} {n : Nat}
end
section
variable {prog : Program} {w : World} {A : Around} {E : Value → Shared → Prop} {s : Shared}
end
end Vc
namespace Vc
open PySem PySem.Spec PyProof.Rows L2
open PySem.W in
open PySem.W in
def fnN (v : Option (Option Value)) : Bool := match v with | some none => true | some (some (.ref _)) => true | _ => false
section
variable {X : Cx} {C D g : Addr} {fd : FuncData} {ps : List Str} {sp : Sp} {n : Nat} {CX : CXT} {E : L2.St → XK} {a b : Expr} {ta tb : TE} {pos : Pos}
end
open PySem.W in
open PySem.W in
section
variable {X : Cx} {C g : Addr} {fd : FuncData} {ps : List Str} {sp : Sp} {n : Nat} {CX : CXT} {E : XK}
end
end Vc
namespace Vc
open PySem PySem.Spec PyProof.Rows L2
section
variable {X : Cx} {CX : CXT} {k : Nat} {f g C p : Addr} {mc : Value} {fd : FuncData} {ps : List Str} {sp : Sp} {E : L2.St → XK} {x m : Str} {o e : Expr} {es : List Expr} {tf ta : TE} {t : TA} {np apos pos : Pos} {pl : Sem Bool} {pins : List (Addr × Obj)} {σ : L2.St} {H : Hp} {s : Shared}
end
section
variable {X : Cx} {CX : CXT} {k : Nat} {g C p : Addr} {mc : Value} {fd : FuncData} {ps : List Str} {sp : Sp} {E : L2.St → XK} {m : Str} {o e : Expr} {es : List Expr} {ta : TE} {t : TA} {apos pos : Pos} {pl : Sem Bool}
end
section
variable {σ : L2.St} {H : Hp} {Q : VK} {tf ta : TE} {ts : TA} {C : Addr} {sp : Sp} {E : L2.St → XK}
end
end Vc
namespace Vc
open PySem PySem.Spec PyProof.Rows L2
def rSlc (o v : V) (l u : Option Int) (H : Hp) (Q : Hp → Prop) : Prop := ∃ (a b : Addr) (xs ys : List V) (lo hi : Int), o = .ref a ∧ v = .ref b ∧ l = some lo ∧ u = some hi ∧ a ≠ b ∧ H a = some (.lst xs) ∧ H b = some (.lst ys) ∧ 0 ≤ lo ∧ lo ≤ hi ∧ hi ≤ xs.length ∧ xs.length + ys.length ≤ sizeLine ∧
 Q (upd H a (.lst (xs.take lo.toNat ++ ys ++ xs.drop hi.toNat)))
def gSlc (to : TE) (tl th : TO) : TG := fun v σ H Q => to σ H fun o H1 => tl σ H1 fun l H2 => th σ H2 fun u H3 => rSlc o v l u H3 fun H4 => Q σ H4
theorem pg_slice {X : Cx} {o : Expr} {lo hi : Option Expr} {to : TE} {tl th : TO} {pos p2 : Pos} (ho : PE X o to) (hl : PO X lo tl) (hu : PO X hi th)
  (ha : ∀ v, assign (.Subscript o (.Slice lo hi none p2) pos) X.env v = (do
   let ov ← holding [v] (eval o X.env)
   let iv ← holding [v, ov] (eval (.Slice lo hi none p2) X.env)
   standAt pos
   holding [v, ov, iv] (setItem ov iv v)
   release [iv, v, ov] []) := by intro _; rfl) : PG X (.Subscript o (.Slice lo hi none p2) pos) (gSlc to tl th) := by
 refine ⟨fun pins s σ H v u Q I r h => ?_⟩
 rw [ha]
 refine wpAny_bind (wpAny_holding (thn (ho.run pins s σ H _ I h) fun ov s1 ⟨x, H1, I1, r1, q1⟩ => ?_))
 refine wpAny_bind (wpAny_holding (wpAny_Slice (thn (hl.run pins s1 σ H1 _ I1 q1) fun vl s2 ⟨l, H2, I2, pl, q2⟩ => thn (hu.run pins s2 σ H2 _ I2 q2) fun vu s3 ⟨w, H3, I3, pu, q3⟩ => ?_)))
 rw [evalPart_none]
 refine wpAny_pure ?_
 have I4 : Inv X pins σ H3 { s3 with heap := s3.heap.push { cls := .type "slice", data := .fields #[vl, vu, .none] } } := I3.kept (t' := s3.toks) fun b ob q => Heap.get?_push_of_some _ q
 obtain ⟨a, b, xs, ys, i, j, rfl, rfl, rfl, rfl, ne, hxs, hys, h0, h1, h2, hz, q⟩ := q3
 obtain rfl : ov = Value.ref a := r1
 obtain rfl : u = Value.ref b := r
 have ra : RelV (.int i) vl := by cases pl; exact ⟨_, rfl⟩
 have rc : RelV (.int j) vu := by cases pu; exact ⟨_, rfl⟩
 refine wpAny_bind (wpAny_standAt (wpAny_bind (wpAny_holding (set_slice I4 hxs hys ne (Heap.IsSliceOf.new ..) ra rc h0 h1 h2 hz fun s' I5 => ?_))))
 exact wpAny_release ⟨σ, _, I5, q⟩
theorem go_gSlc {to : TE} {tl th : TO} {v : V} {σ : L2.St} {H : Hp} {Q : L2.St → Hp → Prop} (h : to σ H fun o H1 => tl σ H1 fun l H2 => th σ H2 fun u H3 => rSlc o v l u H3 fun H4 => Q σ H4) : gSlc to tl th v σ H Q := h
theorem go_slc {o v : Addr} {xs ys : List V} {lo hi : Int} {H : Hp} {Q : Hp → Prop} (ne : o ≠ v) (h1 : H o = some (.lst xs)) (h2 : H v = some (.lst ys)) (h3 : 0 ≤ lo) (h4 : lo ≤ hi) (h5 : hi ≤ xs.length) (h6 : xs.length + ys.length ≤ 1000) (q : Q (upd H o (.lst (xs.take lo.toNat ++ ys ++ xs.drop hi.toNat)))) :
  rSlc (.ref o) (.ref v) (some lo) (some hi) H Q := ⟨o, v, xs, ys, lo, hi, rfl, rfl, rfl, rfl, ne, h1, h2, h3, h4, h5, Nat.le_of_lt (small1000 h6), q⟩
end Vc
namespace Vc
open PySem PySem.Spec PyProof.Rows L2 PySem.W
section
variable {prog : Program} {w : World} {A : Around} {E : Value → Shared → Prop} {h : Heap} {g : Array GenState} {d : Drawn} {t : Nat} {os : OsState}
end
section
variable {cm : Bool} {CX CXg : CXT} {P : Program} {w : World} {K : PySem.W.Frag} {mg : Str → Option Value} {base : Heap} {N ps : List Str} {qual : Str} {scope : Scope} {f cc cda C g : Addr} {A : Around} {outer : List Env} {s0 : Shared} {H0 : Hp} {E0' : XK} {fd : FuncData} {sv : Str} {body rest : List Stmt} {p0 p1 ap cp pos spos : Pos} {pl : Sem Bool} {k : Nat} {sp : Sp} {E : XK} {e1 : Expr} {es1 : List Expr} {t : TA} {u : TS}
end
section
variable {P : Program} {w : World} {K : PySem.W.Frag} {mg : Str → Option Value} {base : Heap} {CX : CXT} {x qual : Str} {st : Stmt} {f C g : Addr} {fd : FuncData} {sv : Str} {N ps : List Str} {k : Nat} {sp : Sp}
end
section
variable {P : Program} {K : PySem.W.Frag} {mg : Str → Option Value} {x qual : Str} {st : Stmt} {f C g : Addr} {fd : FuncData} {sv : Str} {ps ks : List Str} {gB : List Value → List Value → List Value} {gV : List V → List V → List V}
end
end Vc
namespace Vc
open PySem PySem.Spec PyProof.Rows L2
section
variable {X : Cx} {g : Addr} {fd : FuncData} {ps : List Str} {sp : Sp} {n : Nat}
end
section
variable {K : PySem.W.Frag} {H : Hp} {Q : VK} {g : Addr} {sp : Sp} {C a dx : Addr} {fs : List (Str × V)}
end
end Vc
namespace Vc
open PySem PySem.Spec PyProof.Rows L2
section
variable {X : Cx} {CX : CXT} {k : Nat} {f C : Addr} {fd : FuncData} {ps ks : List Str} {sp : Sp} {E : L2.St → XK} {m : Str} {pos apos : Pos} {o : Expr} {kws : List Keyword} {ta : TE} {tk : TA} {g : List Value → List Value → List Value} {gV : List V → List V → List V}
variable {σ : L2.St} {H : Hp} {Q : VK}
end
end Vc
namespace Vc
open PySem PySem.Spec PyProof.Rows L2
open PySem.SeqAt AutoSeq1 MeetsSeq MeetsSeq2 MeetsSeq3 SeqRoads2
section
variable {prog : Program} {w : World} {A : Around} {R : Result → Shared → Prop}
end
section
variable {prog : Program} {w : World} {A : Around} {E : Value → Shared → Prop} {s : Shared}
end
section
variable {X : Cx} {C g : Addr} {fd : FuncData} {ps : List Str} {sp : Sp} {n : Nat} {a : Expr} {ta : TE} {pos : Pos}
end
open PySem.W in
section
variable {prog : Program} {w : World} {A : Around} {E : Value → Shared → Prop} {s : Shared} {K : PySem.W.Frag} {x C D L f : Addr} {h₀ : Heap} {m : Str → Option Value} {ox : Obj} {od : Option Obj} {b : Value} {Q : Value → Shared → Prop}
open PySem.W in
open PySem.W in
open PySem.W in
open PySem.W in
open PySem.W in
end
section
variable {X : Cx} {C g : Addr} {fd : FuncData} {ps : List Str} {sp : Sp} {n : Nat}
end
end Vc
namespace Vc
open PySem PySem.Spec PyProof.Rows L2
section
variable {M : Model} {A : Around} {E : Value → Shared → Prop} {s : Shared} {env : Env}
end
section
variable {X : Cx}
end
end Vc
namespace Vc
open PySem PySem.Spec PyProof.Rows L2
section
variable {X : Cx} {CX CX1 CX2 : CXT} {k k1 k2 : Nat} {C f f1 f2 : Addr} {fd fd1 fd2 : FuncData} {ps ps1 ps2 ks : List Str} {sp sp1 sp2 : Sp} {E : L2.St → XK} {x m : Str} {p pos apos : Pos} {e o : Expr} {es : List Expr} {ta : TE} {t tk : TA} {kws : List Keyword} {g g1 g2 : List Value → List Value → List Value} {gV gV1 gV2 : List V → List V → List V}
end
section
variable {X : Cx} {CX : CXT} {k : Nat} {f C : Addr} {sp : Sp} {E : L2.St → XK} {x : Str} {e : Expr} {te : TE} {p sp_ pos : Pos}
end
def tOrR (t t' : TE) : TE := fun σ H Q => t σ H Q ∨ t' σ H Q
theorem go_orL {t t' : TE} {σ : L2.St} {H : Hp} {Q : VK} (h : t σ H Q) : tOrR t t' σ H Q := .inl h
theorem go_orG {t t' : TE} {σ : L2.St} {H : Hp} {Q : VK} (h : t' σ H Q) : tOrR t t' σ H Q := .inr h
theorem pe_orR {X : Cx} {e : Expr} {t t' : TE} (h : PE X e t) (h' : PE X e t') : PE X e (tOrR t t') :=
 ⟨fun pins s σ H Q I q => q.elim (h.run pins s σ H Q I) (h'.run pins s σ H Q I)⟩
end Vc
namespace Vc
open PySem PySem.Spec PyProof.Rows L2
section
open Builtin
variable {prog : Program} {w : World} {A : Around} {E : Value → Shared → Prop} {s : Shared} {l : Addr} {items : Array Value}
end
section
variable {X : Cx}
end
section
variable {X : Cx} {C g : Addr} {fd : FuncData} {ps : List Str} {n : Nat}
end
end Vc
namespace Gx
open PySem
open PySem.Sem (wp)
def deadF (f : Frame) : Frame := .ret (fun _ => .unsupported "trap") none false [] f.where_.1 f.where_.2 []
def trapS : GenState → GenState
 | .suspended _ l c p fs cl => .suspended (fun _ => .unsupported "trap") l c p (fs.map deadF) cl
 | x => x
def Susp : GenState → Prop
 | .suspended .. => True
 | _ => False
def noGen (fs : List Frame) : Prop := splitAtGen fs = none
def noGenS : GenState → Prop
 | .suspended _ _ _ _ fs _ => noGen fs
 | _ => True
def noGenE : End → Prop
 | .susp _ _ _ _ _ _ fs => noGen fs
 | .ret _ => True
theorem trap_seen (x : GenState) : (trapS x).seen = x.seen := by
 cases x with
 | suspended k l c p fs cl =>
  show (GenStatus.suspended, some ((c, p) :: (fs.map deadF).map Frame.where_)) = _
  rw [List.map_map]
  rfl
 | _ => rfl
theorem trap_bare (x : GenState) : (trapS x).bare = x.bare := by cases x <;> rfl
theorem noGen_nil : noGen [] := rfl
theorem noGen_tail {k h g l c p kp} {fs : List Frame} (x : noGen (.ret k h g l c p kp :: fs)) : noGen fs := by
 unfold noGen at x ⊢
 have y : (splitAtGen fs).map (fun (q : List Frame × (Nat × (GenResult → Sem Fin) × Code × Pos) × List Frame) => (Frame.ret k h g l c p kp :: q.1, q.2.1, q.2.2)) = none := x
 cases e : splitAtGen fs with
 | none => rfl
 | some z => rw [e] at y; cases y
theorem noGen_head {g k l c p} {fs : List Frame} : ¬ noGen (.gen g k l c p :: fs) := fun x => by
 unfold noGen at x
 cases x
theorem noGen_app : ∀ {fs gs : List Frame}, noGen fs → noGen gs → noGen (fs ++ gs)
 | [], _, _, h => h
 | .gen .. :: _, _, h, _ => absurd h noGen_head
 | .ret k h g l c p kp :: fs, gs, a, b => by
  have ih := noGen_app (noGen_tail a) b
  unfold noGen at ih ⊢
  show (splitAtGen (fs ++ gs)).map _ = none
  rw [ih]; rfl
theorem noGen_one {k h g l c p kp} : noGen [.ret k h g l c p kp] := rfl
theorem noGenE_state {e : End} (h : noGenE e) : noGenS e.genState := by
 cases e with
 | ret r => trivial
 | susp v g l k c p fs => exact h
theorem no_run {M : Model} {Γ : PySem.Ctx} {p : Pos} {w : String} {fs : List Frame} {s s' : Shared} {e : End} (h : Runs M Γ p (.unsupported w) fs s e s') : False := by
 have inner : ∀ {Γ : PySem.Ctx} {p : Pos} {s s' : Shared} {e : End}, ¬ Runs M Γ p (.unsupported w) [] s e s' := fun {Γ p s s' e} h => by cases h
 cases h with
 | segRet a _ => exact inner a
 | segGen a _ => exact inner a
 | segSuspOut _ a => exact inner a
 | segSuspGen _ a _ _ => exact inner a
structure Sim (J : Nat → Prop) (a b : Array GenState) : Prop where
 size : b.size = a.size
 dom : ∀ i, J i → i < b.size
 held : ∀ i x, J i → b[i]? = some x → Susp x ∧ a[i]? = some (trapS x)
 free : ∀ i x, ¬ J i → b[i]? = some x → a[i]? = some x ∧ noGenS x
section
variable {J : Nat → Prop} {a b : Array GenState}
theorem Sim.get (S : Sim J a b) {i : Nat} {y : GenState} (h : a[i]? = some y) : ∃ x, b[i]? = some x ∧ y.seen = x.seen ∧ ((J i ∧ Susp x ∧ y = trapS x) ∨ (¬ J i ∧ y = x ∧ noGenS x)) := by
 obtain ⟨hi, _⟩ := Array.getElem?_eq_some_iff.mp h
 have hib : i < b.size := by rw [S.size]; exact hi
 have hb : b[i]? = some b[i] := Array.getElem?_eq_getElem hib
 refine ⟨_, hb, ?_⟩
 rcases Classical.em (J i) with j | j
 ·obtain ⟨h1, h2⟩ := S.held i _ j hb
  rw [h] at h2
  have e := Option.some.inj h2
  exact ⟨by rw [e, trap_seen], .inl ⟨j, h1, e⟩⟩
 ·obtain ⟨h1, h2⟩ := S.free i _ j hb
  rw [h] at h1
  have e := Option.some.inj h1
  exact ⟨by rw [e], .inr ⟨j, e, h2⟩⟩
theorem Sim.push (S : Sim J a b) {x : GenState} (hx : noGenS x) : Sim J (a.push x) (b.push x) where
 size := by rw [Array.size_push, Array.size_push, S.size]
 dom := fun i j => by rw [Array.size_push]; exact Nat.lt_succ_of_lt (S.dom i j)
 held := fun i y j h => by
  have hi := S.dom i j
  rw [Array.getElem?_push_lt hi, ← Array.getElem?_eq_getElem hi] at h
  obtain ⟨h1, h2⟩ := S.held i y j h
  have ha : i < a.size := by rw [← S.size]; exact hi
  refine ⟨h1, ?_⟩
  rw [Array.getElem?_push_lt ha, ← Array.getElem?_eq_getElem ha]
  exact h2
 free := fun i y j h => by
  by_cases hi : i < b.size
  ·rw [Array.getElem?_push_lt hi, ← Array.getElem?_eq_getElem hi] at h
   obtain ⟨h1, h2⟩ := S.free i y j h
   have ha : i < a.size := by rw [← S.size]; exact hi
   rw [Array.getElem?_push_lt ha, ← Array.getElem?_eq_getElem ha]
   exact ⟨h1, h2⟩
  ·have e : i = b.size := by
    have := (Array.getElem?_eq_some_iff.mp h).1
    rw [Array.size_push] at this
    omega
   rw [e, Array.getElem?_push_size] at h
   have e2 : x = y := Option.some.inj h
   rw [e, S.size, Array.getElem?_push_size, ← e2]
   exact ⟨rfl, hx⟩
theorem Sim.put (S : Sim J a b) {g : Nat} {x : GenState} (j : ¬ J g) (hx : noGenS x) : Sim J (a.setIfInBounds g x) (b.setIfInBounds g x) where
 size := by rw [Array.size_setIfInBounds, Array.size_setIfInBounds, S.size]
 dom := fun i h => by rw [Array.size_setIfInBounds]; exact S.dom i h
 held := fun i y h e => by
  have ne : g ≠ i := fun z => j (z ▸ h)
  rw [Array.getElem?_setIfInBounds_ne ne] at e ⊢
  exact S.held i y h e
 free := fun i y h e => by
  by_cases z : g = i
  ·subst z
   have hi : g < b.size := by
    have := (Array.getElem?_eq_some_iff.mp e).1
    rwa [Array.size_setIfInBounds] at this
   rw [Array.getElem?_setIfInBounds, if_pos rfl, if_pos hi] at e
   have e2 : x = y := Option.some.inj e
   rw [Array.getElem?_setIfInBounds, if_pos rfl, if_pos (by rw [← S.size]; exact hi), ← e2]
   exact ⟨rfl, hx⟩
  ·rw [Array.getElem?_setIfInBounds_ne z] at e ⊢
   exact S.free i y h e
end
theorem ne_of_J {J : Nat → Prop} {g i : Nat} (j : ¬ J g) (ji : J i) : g ≠ i := fun z => j (by rw [z]; exact ji)
theorem runs_sim {M : Model} {J : Nat → Prop} {Γ : PySem.Ctx} {p : Pos} {t : Sem PySem.Fin} {fs : List Frame} {s s' : Shared} {e : End} (h : Runs M Γ p t fs s e s') : noGen fs → ∀ b, Sim J s.gens b →
  ∃ b', Runs M Γ p t fs { s with gens := b } e { s' with gens := b' } ∧ Sim J s'.gens b' ∧ (∀ i, J i → b'[i]? = b[i]?) ∧ noGenE e := by
 induction h with
 | done => exact fun _ b S => ⟨b, .done, S, fun _ _ => rfl, trivial⟩
 | raise => exact fun _ b S => ⟨b, .raise, S, fun _ _ => rfl, trivial⟩
 | yield => exact fun _ b S => ⟨b, .yield, S, fun _ _ => rfl, rfl⟩
 | again hq _ ih => intro n b S; obtain ⟨b', r, q⟩ := ih noGen_nil b S; exact ⟨b', .again hq r, q⟩
 | rule _ ih => intro n b S; obtain ⟨b', r, q⟩ := ih noGen_nil b S; exact ⟨b', .rule r, q⟩
 | «at» _ ih => intro n b S; obtain ⟨b', r, q⟩ := ih noGen_nil b S; exact ⟨b', .at r, q⟩
 | load ho _ ih => intro n b S; obtain ⟨b', r, q⟩ := ih noGen_nil b S; exact ⟨b', .load ho r, q⟩
 | update ho _ ih => intro n b S; obtain ⟨b', r, q⟩ := ih noGen_nil b S; exact ⟨b', .update ho r, q⟩
 | loadIfAlive _ ih => intro n b S; obtain ⟨b', r, q⟩ := ih noGen_nil b S; exact ⟨b', .loadIfAlive r, q⟩
 | point _ ih => intro n b S; obtain ⟨b', r, q⟩ := ih noGen_nil b S; exact ⟨b', .point r, q⟩
 | alloc _ ih => intro n b S; obtain ⟨b', r, q⟩ := ih noGen_nil b S; exact ⟨b', .alloc r, q⟩
 | fresh _ ih => intro n b S; obtain ⟨b', r, q⟩ := ih noGen_nil b S; exact ⟨b', .fresh r, q⟩
 | ask _ ih => intro n b S; obtain ⟨b', r, q⟩ := ih noGen_nil b S; exact ⟨b', .ask r, q⟩
 | choose hn _ ih => intro n b S; obtain ⟨b', r, q⟩ := ih noGen_nil b S; exact ⟨b', .choose hn r, q⟩
 | os _ ih => intro n b S; obtain ⟨b', r, q⟩ := ih noGen_nil b S; exact ⟨b', .os r, q⟩
 | handled _ ih => intro n b S; obtain ⟨b', r, q⟩ := ih noGen_nil b S; exact ⟨b', .handled r, q⟩
 | stack _ ih => intro n b S; obtain ⟨b', r, q⟩ := ih noGen_nil b S; exact ⟨b', .stack r, q⟩
 | thread _ ih => intro n b S; obtain ⟨b', r, q⟩ := ih noGen_nil b S; exact ⟨b', .thread r, q⟩
 | genState hg _ ih =>
  intro n b S
  obtain ⟨x, hx, hs, _⟩ := S.get hg
  obtain ⟨b', r, q⟩ := ih noGen_nil b S
  rw [hs] at r
  exact ⟨b', .genState hx r, q⟩
 | newGen _ ih =>
  intro n b S
  obtain ⟨b', r, S', k, q⟩ := ih noGen_nil (b.push _) (S.push (x := .fresh _) trivial)
  refine ⟨b', .newGen (by rw [S.size]; exact r), S', fun i j => (k i j).trans ?_, q⟩
  have hi := S.dom i j
  rw [Array.getElem?_push_lt hi, ← Array.getElem?_eq_getElem hi]
 | call _ _ ih1 ih2 =>
  intro n b S
  obtain ⟨b1, r1, S1, k1, q1⟩ := ih1 noGen_nil b S
  obtain ⟨b2, r2, S2, k2, q2⟩ := ih2 noGen_nil b1 S1
  exact ⟨b2, .call r1 r2, S2, fun i j => (k2 i j).trans (k1 i j), q2⟩
 | callSusp _ ih =>
  intro n b S
  obtain ⟨b', r, S', k, q⟩ := ih noGen_nil b S
  exact ⟨b', .callSusp r, S', k, noGen_app q noGen_one⟩
 | resumeFresh hg _ hq _ ih1 ih2 =>
  intro n b S
  obtain ⟨x, hx, _, ⟨_, hs, e⟩ | ⟨j, e, _⟩⟩ := S.get hg
  ·cases x <;> first | exact hs.elim | cases e
  subst e
  obtain ⟨b1, r1, S1, k1, q1⟩ := ih1 noGen_nil _ (S.put (x := .running) j trivial)
  obtain ⟨b2, r2, S2, k2, q2⟩ := ih2 noGen_nil _ (S1.put j (noGenE_state q1))
  refine ⟨b2, .resumeFresh hx r1 hq r2, S2, fun i ji => (k2 i ji).trans ?_, q2⟩
  have ne := ne_of_J j ji
  rw [Array.getElem?_setIfInBounds_ne ne, k1 i ji, Array.getElem?_setIfInBounds_ne ne]
 | resumeSuspended hg hr hq _ ih1 ih2 =>
  intro n b S
  obtain ⟨x, hx, _, ⟨_, hs, e⟩ | ⟨j, e, hn⟩⟩ := S.get hg
  ·cases x with
   | suspended k l c p fs cl =>
    injection e with e1 e2 e3 e4 e5 e6
    rw [e1] at hr
    exact (no_run hr).elim
   | _ => exact hs.elim
  subst e
  obtain ⟨b1, r1, S1, k1, q1⟩ := ih1 hn _ (S.put (x := .running) j trivial)
  obtain ⟨b2, r2, S2, k2, q2⟩ := ih2 noGen_nil _ (S1.put j (noGenE_state q1))
  refine ⟨b2, .resumeSuspended hx r1 hq r2, S2, fun i ji => (k2 i ji).trans ?_, q2⟩
  have ne := ne_of_J j ji
  rw [Array.getElem?_setIfInBounds_ne ne, k1 i ji, Array.getElem?_setIfInBounds_ne ne]
 | resumeJustStarted hg hv _ ih =>
  intro n b S
  obtain ⟨x, hx, _, ⟨_, hs, e⟩ | ⟨j, e, _⟩⟩ := S.get hg
  ·cases x <;> first | exact hs.elim | cases e
  subst e
  obtain ⟨b', r, q⟩ := ih noGen_nil b S
  exact ⟨b', .resumeJustStarted hx hv r, q⟩
 | resumeThrowFresh hg _ ih =>
  intro n b S
  obtain ⟨x, hx, _, ⟨_, hs, e⟩ | ⟨j, e, _⟩⟩ := S.get hg
  ·cases x <;> first | exact hs.elim | cases e
  subst e
  obtain ⟨b', r, S', k, q⟩ := ih noGen_nil _ (S.put (x := .finished) j trivial)
  refine ⟨b', .resumeThrowFresh hx r, S', fun i ji => (k i ji).trans ?_, q⟩
  exact Array.getElem?_setIfInBounds_ne (ne_of_J j ji)
 | resumeRunning hg _ ih =>
  intro n b S
  obtain ⟨x, hx, _, ⟨_, hs, e⟩ | ⟨j, e, _⟩⟩ := S.get hg
  ·cases x <;> first | exact hs.elim | cases e
  subst e
  obtain ⟨b', r, q⟩ := ih noGen_nil b S
  exact ⟨b', .resumeRunning hx r, q⟩
 | resumeFinished hg _ ih =>
  intro n b S
  obtain ⟨x, hx, _, ⟨_, hs, e⟩ | ⟨j, e, _⟩⟩ := S.get hg
  ·cases x <;> first | exact hs.elim | cases e
  subst e
  obtain ⟨b', r, q⟩ := ih noGen_nil b S
  exact ⟨b', .resumeFinished hx r, q⟩
 | segRet _ _ ih1 ih2 =>
  intro n b S
  obtain ⟨b1, r1, S1, k1, q1⟩ := ih1 noGen_nil b S
  obtain ⟨b2, r2, S2, k2, q2⟩ := ih2 (noGen_tail n) b1 S1
  exact ⟨b2, .segRet r1 r2, S2, fun i j => (k2 i j).trans (k1 i j), q2⟩
 | segGen _ _ _ _ => exact fun n => absurd n noGen_head
 | segSuspOut hs _ ih =>
  intro n b S
  obtain ⟨b1, r1, S1, k1, q1⟩ := ih noGen_nil b S
  exact ⟨b1, .segSuspOut hs r1, S1, k1, noGen_app q1 hs⟩
 | segSuspGen hs _ _ _ _ _ =>
  intro n
  unfold noGen at n
  rw [n] at hs
  cases hs
structure Woke (J : Nat → Prop) (b : Array GenState) (s₁ s' : Shared) : Prop where
 eq : s' = { s₁ with gens := s'.gens }
 sim : Sim J s₁.gens s'.gens
 keep : ∀ i, J i → s'.gens[i]? = b[i]?
theorem wp_sim {α : Type} {M : Model} {Γ : PySem.Ctx} {J : Nat → Prop} (t : Sem α) : ∀ (Q : α → Pos → Shared → Prop) (E : Value → Pos → Shared → Prop) (p : Pos) (s : Shared) (b : Array GenState), Sim J s.gens b → wp M Γ t Q E p s →
  wp M Γ t (fun a p' s' => ∃ s₁, Woke J b s₁ s' ∧ Q a p' s₁) (fun e p' s' => ∃ s₁, Woke J b s₁ s' ∧ E e p' s₁) p { s with gens := b } := by
 have up : ∀ {b b1 : Array GenState} {s₁ s' : Shared}, (∀ i, J i → b1[i]? = b[i]?) → Woke J b1 s₁ s' → Woke J b s₁ s' := fun k w => ⟨w.eq, w.sim, fun i j => (w.keep i j).trans (k i j)⟩
 have mono : ∀ (β : Type) (u : Sem β) (Q : β → Pos → Shared → Prop) (E : Value → Pos → Shared → Prop) (p : Pos) (s : Shared) (b b1 : Array GenState), (∀ i, J i → b1[i]? = b[i]?) →
   wp M Γ u (fun a p' s' => ∃ s₁, Woke J b1 s₁ s' ∧ Q a p' s₁) (fun e p' s' => ∃ s₁, Woke J b1 s₁ s' ∧ E e p' s₁) p s → wp M Γ u (fun a p' s' => ∃ s₁, Woke J b s₁ s' ∧ Q a p' s₁) (fun e p' s' => ∃ s₁, Woke J b s₁ s' ∧ E e p' s₁) p s := fun _ u _ _ p s _ _ k h =>
  Sem.wp_mono M Γ u (fun _ _ _ ⟨s₁, w, q⟩ => ⟨s₁, up k w, q⟩) (fun _ _ _ ⟨s₁, w, q⟩ => ⟨s₁, up k w, q⟩) p s h
 induction t with
 | pure a => intro Q E p s b S h; exact ⟨s, ⟨rfl, S, fun _ _ => rfl⟩, h⟩
 | raise e => intro Q E p s b S h; exact ⟨s, ⟨rfl, S, fun _ _ => rfl⟩, h⟩
 | unsupported _ => intro Q E p s b S h; exact h
 | finish _ => intro Q E p s b S h; exact h
 | rule _ k ih => intro Q E p s b S h; exact ih () Q E p s b S h
 | «at» p' k ih => intro Q E p s b S h; exact ih () Q E p' s b S h
 | load a _ k ih => intro Q E p s b S h; obtain ⟨o, ho, h⟩ := h; exact ⟨o, ho, ih o Q E p s b S h⟩
 | update a _ f k ih => intro Q E p s b S h; exact ⟨h.1, ih () Q E p { s with heap := s.heap.update a f } b S h.2⟩
 | loadIfAlive a k ih => intro Q E p s b S h; exact ih _ Q E p s b S h
 | point _ k ih => intro Q E p s b S h; exact ih () Q E p s b S h
 | register _ _ => intro Q E p s b S h; exact h
 | alloc o k ih => intro Q E p s b S h; exact ih _ Q E p { s with heap := s.heap.push o } b S h
 | fresh k ih => intro Q E p s b S h; exact ih _ Q E p { s with toks := s.toks + 1 } b S h
 | ask k ih => intro Q E p s b S h; exact ih _ Q E p s b S h
 | choose src m k ih => intro Q E p s b S h; exact ⟨h.1, ih _ Q E p { s with drawn := s.drawn.bump src } b S h.2⟩
 | os q _ k ih => intro Q E p s b S h; exact ih _ Q E p { s with os := (Os.step s.os q).1 } b S h
 | call c hd _ _ k ih =>
  intro Q E p s b S h
  obtain ⟨r, s', hr, h⟩ := h
  obtain ⟨b', r', S', k', _⟩ := runs_sim hr noGen_nil b S
  exact ⟨r, { s' with gens := b' }, r', mono _ (k r) _ _ _ _ _ _ k' (ih r Q E p s' b' S' h)⟩
 | handled own k ih => intro Q E p s b S h; exact ih _ Q E p s b S h
 | genState g k ih =>
  intro Q E p s b S h
  obtain ⟨st, hs, h⟩ := h
  obtain ⟨x, hx, he, _⟩ := S.get hs
  rw [he] at h
  exact ⟨x, hx, ih _ Q E p s b S h⟩
 | newGen c k ih =>
  intro Q E p s b S h
  have q := ih s.gens.size Q E p { s with gens := s.gens.push (.fresh c) } (b.push (.fresh c)) (S.push (x := .fresh c) trivial) h
  show wp M Γ (k b.size) _ _ p { s with gens := b.push (.fresh c) }
  rw [S.size]
  refine mono _ (k s.gens.size) _ _ _ _ _ _ (fun i j => ?_) q
  have hi := S.dom i j
  rw [Array.getElem?_push_lt hi, ← Array.getElem?_eq_getElem hi]
 | resume g r l k ih =>
  intro Q E p s b S h
  obtain ⟨res, s1, hw, h⟩ := h
  have key : ∃ b', Wakes M Γ p g r { s with gens := b } res { s1 with gens := b' } ∧ Sim J s1.gens b' ∧ ∀ i, J i → b'[i]? = b[i]? := by
   unfold Wakes at hw
   cases hg : s.gens[g]? with
   | none => rw [hg] at hw; exact hw.elim
   | some y =>
    rw [hg] at hw
    obtain ⟨x, hx, _, ⟨_, hs, e⟩ | ⟨j, e, hn⟩⟩ := S.get hg
    ·cases x with
     | suspended k0 l0 c0 p0 fs0 cl0 =>
      subst e
      obtain ⟨e1, s2, hr, _⟩ := hw
      exact (no_run hr).elim
     | _ => exact hs.elim
    subst e
    have two : ∀ {b1 : Array GenState} {z : GenState}, (∀ i, J i → b1[i]? = (b.setIfInBounds g .running)[i]?) → ∀ i, J i → (b1.setIfInBounds g z)[i]? = b[i]? := fun {b1 z} k1 i ji => by
     have ne := ne_of_J j ji
     rw [Array.getElem?_setIfInBounds_ne ne, k1 i ji, Array.getElem?_setIfInBounds_ne ne]
    unfold Wakes
    show ∃ b', (match b[g]? with | none => False | some (.fresh c) => _ | some (.suspended k₀ _ c₀ p₀ fs _) => _ | some .running => _ | some .finished => _) ∧ _
    rw [hx]
    cases y with
    | fresh c =>
     cases r with
     | send v =>
      cases v with
      | none =>
       obtain ⟨e1, s2, hr, hq, rfl, rfl⟩ := hw
       obtain ⟨b1, r1, S1, k1, q1⟩ := runs_sim hr noGen_nil _ (S.put (x := .running) j trivial)
       exact ⟨_, ⟨e1, _, r1, hq, rfl, rfl⟩, S1.put j (noGenE_state q1), two k1⟩
      | _ => exact ⟨b, ⟨hw.1, by rw [hw.2]⟩, by rw [hw.2]; exact S, fun _ _ => rfl⟩
     | throw x =>
      refine ⟨b.setIfInBounds g .finished, ⟨hw.1, by rw [hw.2]; rfl⟩, by rw [hw.2]; exact S.put (x := .finished) j trivial, fun i ji => Array.getElem?_setIfInBounds_ne (ne_of_J j ji)⟩
    | suspended k0 l0 c0 p0 fs0 cl0 =>
     obtain ⟨e1, s2, hr, hq, rfl, rfl⟩ := hw
     obtain ⟨b1, r1, S1, k1, q1⟩ := runs_sim hr hn _ (S.put (x := .running) j trivial)
     exact ⟨_, ⟨e1, _, r1, hq, rfl, rfl⟩, S1.put j (noGenE_state q1), two k1⟩
    | running => exact ⟨b, ⟨hw.1, by rw [hw.2]⟩, by rw [hw.2]; exact S, fun _ _ => rfl⟩
    | finished => exact ⟨b, ⟨hw.1, by rw [hw.2]⟩, by rw [hw.2]; exact S, fun _ _ => rfl⟩
  obtain ⟨b', w', S', k'⟩ := key
  exact ⟨res, _, w', mono _ (k res) _ _ _ _ _ _ k' (ih res Q E p s1 b' S' h)⟩
 | «yield» _ _ _ _ => intro Q E p s b S h; exact h
 | stack k ih => intro Q E p s b S h; exact ih _ Q E p s b S h
 | fork _ _ => intro Q E p s b S h; exact h
 | thread k ih => intro Q E p s b S h; exact ih _ Q E p s b S h
 | await _ _ _ _ _ => intro Q E p s b S h; exact h
def asleep (s : Shared) : Nat → Prop := fun i => ∃ x, s.gens[i]? = some x ∧ Susp x
def trapped (s : Shared) : Shared := { s with gens := s.gens.map trapS }
theorem sim_trapped (s : Shared) : Sim (asleep s) (trapped s).gens s.gens where
 size := by show s.gens.size = (s.gens.map trapS).size; rw [Array.size_map]
 dom := fun i ⟨x, h, _⟩ => (Array.getElem?_eq_some_iff.mp h).1
 held := fun i x ⟨y, h, hs⟩ e => by
  rw [h] at e
  have e2 : y = x := Option.some.inj e
  subst e2
  refine ⟨hs, ?_⟩
  show (s.gens.map trapS)[i]? = _
  rw [Array.getElem?_map, h]; rfl
 free := fun i x n e => by
  have ns : ¬ Susp x := fun z => n ⟨x, e, z⟩
  have ht : trapS x = x := by cases x <;> first | rfl | exact absurd trivial ns
  refine ⟨?_, by cases x <;> first | trivial | exact absurd trivial ns⟩
  show (s.gens.map trapS)[i]? = _
  rw [Array.getElem?_map, e]
  show some (trapS x) = _
  rw [ht]
structure Kept (s : Shared) (s₁ : Shared) (s' : Shared) : Prop where
 eq : s' = { s₁ with gens := s'.gens }
 bare : (∀ x ∈ s.gens, x.bare = true) → (∀ x ∈ s₁.gens, x.bare = true) → ∀ x ∈ s'.gens, x.bare = true
 keep : ∀ (i : Nat) (x : GenState), s.gens[i]? = some x → Susp x → s'.gens[i]? = some x
theorem kept_of {s s₁ s' : Shared} (h : Woke (asleep s) s.gens s₁ s') : Kept s s₁ s' where
 eq := h.eq
 bare := fun h0 h1 x hx => by
  obtain ⟨i, hi, e⟩ := Array.mem_iff_getElem.mp hx
  have e2 : s'.gens[i]? = some x := by rw [Array.getElem?_eq_getElem hi, e]
  rcases Classical.em (asleep s i) with j | j
  ·have k := h.keep i j
   rw [e2] at k
   exact h0 x (Array.mem_of_getElem? k.symm)
  ·exact h1 x (Array.mem_of_getElem? (h.sim.free i x j e2).1)
 keep := fun i x h1 h2 => (h.keep i ⟨x, h1, h2⟩).trans h1
theorem trapped_bare {s : Shared} (h : ∀ x ∈ s.gens, x.bare = true) : ∀ x ∈ (trapped s).gens, x.bare = true := fun x hx => by
 obtain ⟨y, hy, e⟩ := Array.mem_map.mp (show x ∈ s.gens.map trapS from hx)
 rw [← e, trap_bare]
 exact h y hy
theorem wpAny_trapped {α : Type} {M : Model} {A : Around} {t : Sem α} {Q : α → Shared → Prop} {E : Value → Shared → Prop} {s : Shared} (h : wpAny M A t Q E (trapped s)) :
  wpAny M A t (fun a s' => ∃ s₁, Kept s s₁ s' ∧ Q a s₁) (fun e s' => ∃ s₁, Kept s s₁ s' ∧ E e s₁) s := fun Γ p hΓ =>
 Sem.wp_mono M Γ t (fun _ _ _ ⟨s₁, w, q⟩ => ⟨s₁, kept_of w, q⟩) (fun _ _ _ ⟨s₁, w, q⟩ => ⟨s₁, kept_of w, q⟩) p s (wp_sim t _ _ p (trapped s) s.gens (sim_trapped s) (h Γ p hΓ))
end Gx
namespace Gx
open PySem PySem.Spec PyProof.Rows L2 GenW
def Sgm (M : Model) (A : Around) (Φ : End → Shared → Prop) (c : Code) (t : Sem PySem.Fin) (fs : List Frame) (s : Shared) : Prop :=
 ∀ Γ p, Γ.code = c → Γ.Woken A → ∃ e s', Runs M Γ p t fs s e s' ∧ Φ e s'
section
variable {M : Model} {A : Around} {Φ : End → Shared → Prop} {c : Code} {fs : List Frame} {s : Shared}
theorem sg_wrap {α : Type} {m : Sem α} {K : α → Sem PySem.Fin} {J : Value → Sem PySem.Fin} {gd : Bool → Bool} {lv : List Value → List Value} (h : wpAny M (A.over c fs) m (fun a s1 => Sgm M A Φ c (K a) fs s1) (fun x s1 => Sgm M A Φ c (J x) fs s1) s) :
  Sgm M A Φ c (m.wrap K J gd lv) fs s := fun Γ p e w => by
 subst e
 exact runs_wrap_of_wp K J gd lv m (h (Γ.over fs) p (w.over fs)) (fun a q s1 k => k Γ q rfl w) fun x q s1 k => k Γ q rfl w
theorem sg_at {q : Pos} {k : Unit → Sem PySem.Fin} (h : Sgm M A Φ c (k ()) fs s) : Sgm M A Φ c (.at q k) fs s := sg_wrap (m := standAt q) (J := .raise) (gd := id) (lv := id) (wpAny_standAt h)
theorem sg_point {l : List Value} {k : Unit → Sem PySem.Fin} (h : Sgm M A Φ c (k ()) fs s) : Sgm M A Φ c (.point l k) fs s := sg_wrap (m := point) (J := .raise) (gd := id) (lv := fun _ => l) (wpAny_point h)
theorem sg_call {c2 : Code} {h g l} {k : Result → Sem PySem.Fin} (hc : ∀ p, Sgm M A Φ c2 (M.den c2) (.ret k h g l c p [] :: fs) s) : Sgm M A Φ c (.call c2 h g l k) fs s := fun Γ p e w => by
 subst e
 obtain ⟨e, s1, r, q⟩ := hc p (Γ.goto c2) p rfl (w.goto c2)
 exact ⟨e, s1, runs_call_seg r, q⟩
theorem sg_leaf {k h g l c1 p1 kp} (r : Result) (hk : Sgm M A Φ c1 (k r) fs s) : Sgm M A Φ c (leafOf r) (.ret k h g l c1 p1 kp :: fs) s := fun Γ p e w => by
 obtain ⟨e, s1, q, z⟩ := hk (Γ.goto c1) p1 rfl (w.goto c1)
 exact ⟨e, s1, Runs.pop r q, z⟩
theorem sg_again {c2 : Code} (hq : c2.quiet = true) (hc : Sgm M A Φ c2 (M.den c2) fs s) : Sgm M A Φ c (.pure (.again c2)) fs s := fun Γ p e w => by
 obtain ⟨e, s1, r, z⟩ := hc (Γ.goto c2) p rfl (w.goto c2)
 exact ⟨e, s1, Runs.head (c₁ := c2) (fun _ _ x => .again hq x) r, z⟩
theorem sg_end (r : Result) (h : Φ (.ret r) s) : Sgm M A Φ c (leafOf r) [] s := fun _ _ _ _ => ⟨.ret r, s, Runs.leaf r, h⟩
theorem sg_yield {v g l} {k : Resume → Sem PySem.Fin} (hfs : splitAtGen fs = none) (h : ∀ p, Φ (.susp v g l k c p fs) s) : Sgm M A Φ c (.yield v g l k) fs s := fun Γ p e _ => by
 subst e
 exact ⟨_, s, Runs.yield' fs hfs, h p⟩
end
def WakesTo (M : Model) (A : Around) (Φ : End → Shared → Prop) (s : Shared) : GenState → Prop
 | .fresh c => Sgm M A Φ c (M.den c) [] s
 | .suspended k _ c _ fs _ => Sgm M A Φ c (k (.send .none)) fs s
 | _ => False
section
variable {M : Model} {A : Around} {Φ : End → Shared → Prop} {s : Shared}
theorem resume_sgm {α : Type} {g : Nat} {gs : GenState} {l : List Value} {k : GenResult → Sem α} {Q : α → Shared → Prop} {E : Value → Shared → Prop} (hg : s.gens[g]? = some gs) (go : WakesTo M A Φ (s.setGen g .running) gs) (hq : ∀ e s1, Φ e s1 → e.quiet = true)
  (h : ∀ e s1, Φ e s1 → wpAny M A (k e.result) Q E (s1.setGen g e.genState)) : wpAny M A (.resume g (.send .none) l k) Q E s := fun Γ p w => by
 rw [Sem.wp_resume]
 have z : ∀ c, (Γ.wake c p).Woken A := fun c => w.wake c p
 cases gs with
 | fresh c =>
  obtain ⟨e, s1, r, q⟩ := go (Γ.wake c p) p rfl (z c)
  exact ⟨_, _, (by unfold Wakes; rw [hg]; exact ⟨e, s1, r, hq e s1 q, rfl, rfl⟩), h e s1 q Γ p w⟩
 | suspended k0 l0 c0 p0 fs0 cl0 =>
  obtain ⟨e, s1, r, q⟩ := go (Γ.wake c0 p) p0 rfl (z c0)
  exact ⟨_, _, (by unfold Wakes; rw [hg]; exact ⟨e, s1, r, hq e s1 q, rfl, rfl⟩), h e s1 q Γ p w⟩
 | running => exact go.elim
 | finished => exact go.elim
end
section
variable {P : Program} {w : World} {A : Around} {s : Shared}
def Rose (P : Program) (w : World) (g a : Nat) (Q : Option Value → Shared → Prop) (E : Value → Shared → Prop) : End → Shared → Prop
 | .susp v gd l k c p fs, s1 => (End.susp v gd l k c p fs).quiet = true ∧ Q (some v) (s1.setGen g (End.susp v gd l k c p fs).genState)
 | .ret (.ok f), s1 => (f = .ret .none ∨ f = .next) ∧ ∀ h', (∀ b o, s1.heap.get? b = some o → h'.get? b = some o) → Q none { s1.setGen g .finished with heap := h' }
 | .ret (.error e), s1 => s1.heap.IsGen a g ∧ NotStop (model P w) e s1.heap ∧ E e (s1.setGen g .finished)
theorem rose_quiet {g a : Nat} {Q : Option Value → Shared → Prop} {E : Value → Shared → Prop} : ∀ e s1, Rose P w g a Q E e s1 → e.quiet = true
 | .ret _, _, _ => rfl
 | .susp .., _, h => h.1
theorem next_sgm {a : Addr} {g : Nat} {gs : GenState} {Φ : End → Shared → Prop} {Q : Option Value → Shared → Prop} {E : Value → Shared → Prop} (hh : A.handled = none) (hl : s.heap.NoLimit) (hd : A.depth < recursionLimit) (hg : s.heap.IsGen a g) (hs : s.gens[g]? = some gs)
  (go : WakesTo (model P w) A.in1 Φ (s.setGen g .running) gs) (up : ∀ e s1, Φ e s1 → Rose P w g a Q E e s1) : wpAny (model P w) A (pyNext (.ref a)) Q E s := by
 unfold pyNext
 refine wpAny_bind (wpAny_attempt (wpAny_callSpecial?_slot (name := Str.ofString "__next__") hg.typeIs slot_gen_next (wpAny_call_entry slot_gen_next hg.typeIs entry_gen_next (?_ : wpAny _ A.in1 (Builtin.Generator.genWake (.ref a) (.send .none)) _ _ s) (args_gen_next _))))
 unfold Builtin.Generator.genWake
 refine wpAny_bind (wpAny_holding (wpAny_genNumber hg (wpAny_bind (wpAny_genState hs (?_ : wpAny _ A.in1 _ _ _ s)))))
 cases gs with
 | running => exact go.elim
 | finished => exact go.elim
 | _ =>
  refine wpAny_bind (wpAny_roomToWake hl hd (?_ : wpAny _ A.in1 (.resume g (.send .none) [] _) _ _ s))
  refine resume_sgm hs go (fun e s1 q => rose_quiet e s1 (up e s1 q)) fun e s1 q => ?_
  have q := up e s1 q
  cases e with
  | susp v gd l k c p fs => exact wpAny_pure ⟨v, rfl, wpAny_pure q.2⟩
  | ret r =>
   cases r with
   | ok f =>
    obtain ⟨hf, q⟩ := q
    have hres : End.result (.ret (.ok f)) = .returned .none := by rcases hf with z | z <;> rw [z] <;> rfl
    simp only [hres]
    refine (?_ : wpAny _ A.in1 (newExc (.type "StopIteration") [] >>= _) _ _ _)
    apply wpAny_bind
    simp only [newExc, newTuple]
    refine wpAny_bind (wpAny_newObj_type (wpAny_bind (m := firstArgMember _ _) (wpAny_of_eq (a := Value.none) (by first | rfl | (simp only [firstArgMember]; rfl)) (wpAny_newObj_type ?_ (by size_fits)))) (by size_fits))
    simp only [raiseNew]
    refine wpAny_bind (wpAny_bind (wpAny_handled ?_))
    first | rw [show A.in1.handled = none from hh] | rw [hh]
    refine wpAny_throw (wpAny_bind (wpAny_isInstance (T := "StopIteration") (b := true) ⟨_, Heap.get?_push_size _ rfl, rfl⟩ isSubtype_stop (wpAny_pure (q _ fun b o z => ?_))))
    exact Heap.get?_push_of_some _ (Heap.get?_push_of_some _ z)
   | error e =>
    obtain ⟨⟨o, nm, qn, ho, hc, hdat, hsl⟩, ns, hE⟩ := q
    refine (?_ : wpAny _ A.in1 (Builtin.Generator.genLeft (.ref a) e) _ _ _)
    unfold Builtin.Generator.genLeft Builtin.Generator.madeByALambda
    refine wpAny_bind (wpAny_bind (wpAny_load (o := o) ho (wpAny_pure (wpAny_bind (ns _ _ _ _ rfl ?_)))))
    rw [Bool.and_false, if_neg Bool.false_ne_true]
    unfold Builtin.Generator.genEscaped
    first
     | refine wpAny_bind (ns _ _ _ _ rfl (?_ : wpAny _ _ (if (!false) = true then _ else _) _ _ _))
     | refine wpAny_bind (wpAny_pure (wpAny_bind (ns _ _ _ _ rfl (?_ : wpAny _ _ (if (!false) = true then _ else _) _ _ _))))
    rw [if_pos (show (!false) = true from rfl)]
    first
     | refine wpAny_throw (wpAny_bind (ns _ _ _ _ rfl ?_))
     | refine wpAny_bind (wpAny_throw (wpAny_bind (ns _ _ _ _ rfl ?_)))
    rw [if_neg Bool.false_ne_true]
    exact wpAny_throw hE
end
end Gx
namespace Gx
open PySem PySem.Spec PyProof.Rows L2 GenW
def reX (X : Cx) (s0 : Shared) (H0 : Hp) : Cx := { X with s_0 := s0, H_0 := H0, xe := fun _ _ => False }
def X0 (X : Cx) : Cx := { X with xe := fun _ _ => False }
section
variable {X : Cx} {pins : List (Addr × Obj)} {σ : L2.St} {H : Hp} {s : Shared}
theorem Ok.x0 (k : X.Ok) {xe : Value → Shared → Prop} : ({ X with xe := xe } : Cx).Ok := ⟨k.mod, k.kind, k.glob, k.blt, k.above, k.inj, k.has, k.cab, k.hd, k.frames, k.stk, k.exf, k.bs, k.bsz, k.noex, k.exfs, k.funs, k.frf⟩
theorem Inv.x0 (I : Inv X pins σ H s) {xe : Value → Shared → Prop} : Inv { X with xe := xe } pins σ H s := ⟨Ok.x0 I.ok, I.os, I.bare, I.base, I.loc, I.cell, I.free, I.freeC, I.pin, I.hok, I.len⟩
theorem Inv.of0 {xe : Value → Shared → Prop} (I : Inv { X with xe := xe } pins σ H s) : Inv X pins σ H s := by
 have J := Inv.x0 I (xe := X.xe)
 exact J
theorem Inv.gens (I : Inv X pins σ H s) {g : Array GenState} (hg : AllBare g) : Inv X pins σ H { s with gens := g } := ⟨I.ok, I.os, hg, I.base, I.loc, I.cell, I.free, I.freeC, I.pin, I.hok, I.len⟩
theorem Inv.trap (I : Inv X pins σ H s) : Inv (X0 X) pins σ H (trapped s) := Inv.x0 (Inv.gens I (trapped_bare I.bare))
theorem Inv.untrap {s1 s2 : Shared} {σ' : L2.St} {H' : Hp} (I : Inv X pins σ H s) (k : Kept s s1 s2) (J : Inv (X0 X) pins σ' H' s1) : Inv X pins σ' H' s2 := by
 have e := k.eq
 rw [e]
 exact Inv.gens (Inv.of0 J) (k.bare I.bare J.bare)
end
structure Still (fp : List Addr) (lo : Nat) (s s' : Shared) : Prop where
 heap : ∀ b ∈ fp, ∀ o, s.heap.get? b = some o → s'.heap.get? b = some o
 gens : ∀ (i : Nat) (x : GenState), lo ≤ i → s.gens[i]? = some x → Susp x → s'.gens[i]? = some x
structure GIt where
 go : Nat → Hp → Prop
 yld : Nat → Hp → V → Hp → Prop
 stop : Nat → Hp → Hp → Prop
 rely : Hp → Hp → Prop
structure GTurn (lo : Nat) (Pc : Cx → List (Addr × Obj) → Prop) (tg : Expr) (J : GIt) (it : Addr) (tn yn : Nat → List Addr → Hp → Shared → Prop) : Prop where
 obj : ∀ i fp H s, yn i fp H s → ∀ b ∈ fp, ∃ o, s.heap.get? b = some o ∧ ∀ v, o.data ≠ .cell v
 keep : ∀ i fp H H' s s', yn (i + 1) fp H s → J.rely H H' → Still fp lo s s' → (∀ b ∈ fp, H' b = none) → tn (i + 1) fp H' s'
 item : ∀ (X : Cx) (pins : List (Addr × Obj)), Pc X pins → ∀ (i : Nat) (fp : List Addr) (s : Shared) (σ : L2.St) (H : Hp), Inv X pins σ H s → (∀ b ∈ fp, FpOk X pins H b) → tn i fp H s → J.go i H →
  wpAny (model X.prog X.w) X.A (pyNext (.ref it)) (fun r s1 => ∃ u, r = some u ∧
   wpAny (model X.prog X.w) X.A (letOwnedTupleGo tg (.ref it) u) (fun _ s2 => ∃ x H' fp', Inv X pins σ H' s2 ∧ RelV x u ∧ J.yld i H x H' ∧ yn (i + 1) fp' H' s2 ∧ ∀ b ∈ fp', FpOk X pins H' b) X.xe s1) X.xe s
 done : ∀ (X : Cx) (pins : List (Addr × Obj)), Pc X pins → ∀ (i : Nat) (fp : List Addr) (s : Shared) (σ : L2.St) (H H' : Hp), Inv X pins σ H s → (∀ b ∈ fp, FpOk X pins H b) → tn i fp H s → J.stop i H H' →
  wpAny (model X.prog X.w) X.A (pyNext (.ref it)) (fun r s1 => r = none ∧ ∃ H', Inv X pins σ H' s1 ∧ J.stop i H H') X.xe s
abbrev TGI := L2.St → Hp → (GIt → Hp → Prop) → Prop
def Alike (X X' : Cx) : Prop := ∃ s0 H0, X' = { X with s_0 := s0, H_0 := H0 } ∧ s0.heap.objs.size = X.s_0.heap.objs.size
theorem Alike.refl {X : Cx} : Alike X X := ⟨X.s_0, X.H_0, rfl, rfl⟩
theorem Alike.of_eq {X X' : Cx} (e : X' = X) : Alike X X' := by rw [e]; exact Alike.refl
def PISE (n0 : Nat) (Zc : Cx → Prop) (X : Cx) (pins : List (Addr × Obj)) (σ : L2.St) (tg : Expr) (R : GIt → Hp → Prop) (itv : Value) (s2 : Shared) : Prop :=
 ∃ (it : Addr) (lo : Nat) (fp : List Addr) (Pc : Cx → List (Addr × Obj) → Prop) (tn yn : Nat → List Addr → Hp → Shared → Prop) (J : GIt) (H' : Hp), itv = .ref it ∧ Inv X pins σ H' s2 ∧ n0 ≤ lo ∧ GTurn lo Pc tg J it tn yn ∧ (∀ X' pins', Zc X' → pins'.map (·.1) = pins.map (·.1) → Pc X' pins') ∧ tn 0 fp H' s2 ∧
  (∀ b ∈ fp, FpOk X pins H' b) ∧ R J H'
structure PIS (Zc : Cx → Prop) (X : Cx) (tg iter : Expr) (wi : TGI) : Prop where
 run : ∀ (pins : List (Addr × Obj)) (s : Shared) (σ : L2.St) (H : Hp) (R : GIt → Hp → Prop), Inv X pins σ H s → wi σ H R →
  wpAny (model X.prog X.w) X.A (eval iter X.env) (fun v s1 => wpAny (model X.prog X.w) X.A (pyIter v) (PISE s.gens.size Zc X pins σ tg R) X.xe s1) X.xe s
def tForS (wi : TGI) (g : TG) (tb : TS) : TS := fun D σ H => wi σ H fun J H1 => ∃ (n : Nat) (W : Nat → L2.St → Hp → Prop), W 0 σ H1 ∧
 (∀ j σ H, j < n → W j σ H → J.go j H ∧ ∀ x H2, J.yld j H x H2 → g x σ H2 fun σ3 H3 => tb { D with nx := fun σ4 H4 => J.rely H2 H4 ∧ W (j + 1) σ4 H4, ct := fun σ4 H4 => J.rely H2 H4 ∧ W (j + 1) σ4 H4, bk := D.nx } σ3 H3) ∧
 ∀ σ H, W n σ H → (∃ H2, J.stop n H H2) ∧ ∀ H2, J.stop n H H2 → D.nx σ H2
section
variable {X : Cx}
theorem fpAt {pins : List (Addr × Obj)} {H H' : Hp} {b : Addr} (h : FpOk X pins H b) (e : H' b = none) : FpOk X pins H' b := ⟨e, h.2⟩
theorem ps_forS {tg iter : Expr} {body : List Stmt} {wi : TGI} {g : TG} {tb : TS} {pos : Pos} (hp : PassesOwn (model X.prog X.w) X.A X.env X.xe) (hi : PIS (fun X' => X' = X) X tg iter wi) (hg : PG (X0 X) tg g) (hb : PSs (X0 X) body tb)
  (hs : ∀ x, foldedSetIterable iter X.env x = pure x := by intro _; rfl) : PS X (.For tg iter body [] pos) (tForS wi g tb) := by
 refine ⟨fun pins s σ H D I h => wpAny_For (thn (hi.run pins s σ H _ I h) fun v s1 h1 => thn h1 fun itv s2 h2 => ?_) hs⟩
 obtain ⟨it, lo, fp0, Pc, tn, yn, J, H2, e, I2, _, T, hP, st2, f2, n, W, w0, step, fin⟩ := h2
 subst e
 have hP := hP X pins rfl rfl
 refine codeAny_forLoop_any (fun m s3 => ∃ j σ3 H3 fp, m = n - j ∧ j ≤ n ∧ Inv X pins σ3 H3 s3 ∧ tn j fp H3 s3 ∧ (∀ b ∈ fp, FpOk X pins H3 b) ∧ W j σ3 H3) ?_ n ⟨0, σ, H2, fp0, rfl, Nat.zero_le _, I2, st2, f2, w0⟩
 rintro m s3 ⟨j, σ3, H3, fp, rfl, hj, I3, st3, f3, w3⟩
 rcases Nat.lt_or_ge j n with lt | ge
 ·obtain ⟨go, step⟩ := step j σ3 H3 lt w3
  refine wpAny_passesOwn hp (thn (T.item X pins hP j fp s3 σ3 H3 I3 f3 st3 go) fun r s4 ⟨u, hr, h4⟩ => ?_)
  subst hr
  refine wpAny_passesOwn hp (thn h4 fun _ s5 ⟨x, H5, fp5, I5, r5, y5, st5, f5⟩ => ?_)
  have I5' := I5.pinned f5 (T.obj _ _ _ _ st5)
  have K5 := hg.run _ (trapped s5) σ3 H5 x u _ (Inv.trap I5') r5 (step x H5 y5)
  refine wpAny_mono (wpAny_trapped K5) (fun _ s6 ⟨s6', k6, σ6, H6, J6, q6⟩ => ?_) fun x s6 ⟨_, _, z⟩ => z.elim
  have I6 := Inv.untrap I5' k6 J6
  have K6 := hb.run _ (trapped s6) σ6 H6 _ (Inv.trap I6) q6
  refine wpAny_mono (wpAny_trapped K6) (fun f s7 ⟨s7', k7, q7⟩ => ?_) fun x s7 ⟨_, _, z⟩ => z.elim
  have stl : ∀ {σ7 H7}, Inv X (pins ++ pinsAt fp5 s5.heap) σ7 H7 s7 → Still fp5 lo s5 s7 ∧ ∀ b ∈ fp5, H7 b = none := fun {σ7 H7} I7 => by
   have at_ : ∀ b ∈ fp5, ∃ o, s5.heap.get? b = some o ∧ s7.heap.get? b = some o ∧ H7 b = none := fun b hb => by
    obtain ⟨o, e, _⟩ := T.obj _ _ _ _ st5 b hb
    have q := I7.pin (b, o) (List.mem_append_right _ (List.mem_append_right _ (mem_pinsAt hb e)))
    exact ⟨o, e, q.1, q.2.1⟩
   refine ⟨⟨fun b hb o e => ?_, fun i x _ e z => k7.keep i x (k6.keep i x e z) z⟩, fun b hb => ?_⟩
   ·obtain ⟨o', e1, e2, _⟩ := at_ b hb
    rw [e1] at e
    rw [← e]; exact e2
   ·obtain ⟨_, _, _, z⟩ := at_ b hb
    exact z
  have next : ∀ {σ7 H7}, Inv X (pins ++ pinsAt fp5 s5.heap) σ7 H7 s7 → J.rely H5 H7 → W (j + 1) σ7 H7 → ∃ m, m < n - j ∧ ∃ j σ3 H3 fp, m = n - j ∧ j ≤ n ∧ Inv X pins σ3 H3 s7 ∧ tn j fp H3 s7 ∧ (∀ b ∈ fp, FpOk X pins H3 b) ∧ W j σ3 H3 := fun {σ7 H7} I7 hr w7 => by
   obtain ⟨z1, z2⟩ := stl I7
   exact ⟨n - (j + 1), by omega, j + 1, σ7, H7, fp5, rfl, lt, I7.unpinned, T.keep _ _ _ _ _ _ st5 hr z1 z2, fun b hb => fpAt (f5 b hb) (z2 b hb), w7⟩
  cases f with
  | next => obtain ⟨σ7, H7, J7, z1, z2⟩ := q7; exact next (Inv.untrap I6 k7 J7) z1 z2
  | cont => obtain ⟨σ7, H7, J7, z1, z2⟩ := q7; exact next (Inv.untrap I6 k7 J7) z1 z2
  | brk => obtain ⟨σ7, H7, J7, z⟩ := q7; exact ⟨σ7, H7, (Inv.untrap I6 k7 J7).unpinned, z⟩
  | ret v => obtain ⟨x7, σ7, H7, J7, r7, z⟩ := q7; exact ⟨x7, σ7, H7, (Inv.untrap I6 k7 J7).unpinned, r7, z⟩
 ·have e : j = n := Nat.le_antisymm hj ge
  subst e
  obtain ⟨⟨H6, st⟩, fin⟩ := fin σ3 H3 w3
  refine wpAny_passesOwn hp (thn (T.done X pins hP j fp s3 σ3 H3 H6 I3 f3 st3 st) fun r s4 ⟨hr, H4, I4, q4⟩ => ?_)
  subst hr
  exact wpAny_execs_nil ⟨σ3, H4, I4, fin H4 q4⟩
end
def itG (J : It) : GIt := ⟨J.go, J.yld, fun i H H' => J.stop i H ∧ H' = H, fun _ _ => True⟩
theorem turn_of {P : Program} {w : World} {K : PySem.W.Frag} {tg : Expr} {J : It} {fp : List Addr} {it : Addr} {tn : Nat → Heap → Prop} {lo : Nat} (T : Turn P w K tg J fp it tn) :
  GTurn lo (fun X _ => X.prog = P ∧ X.w = w ∧ X.K = K ∧ X.calm = true) tg (itG J) it (fun i f _ s => f = fp ∧ tn i s.heap) (fun i f _ s => f = fp ∧ tn i s.heap) where
 obj := fun i f _ s ⟨e, t⟩ b hb => T.obj i s.heap t b (by rw [← e]; exact hb)
 keep := fun i f _ _ s s' ⟨e, t⟩ _ st _ => ⟨e, T.keep _ _ _ t fun b hb o z => st.heap b (by rw [e]; exact hb) o z⟩
 item := fun X pins ⟨p1, p2, p3, p4⟩ i f s σ H I hf ⟨e, t⟩ go => by
  subst e p1 p2
  refine thn (T.item X rfl rfl p3 p4 i pins s σ H X.xe I hf t go) fun r s1 ⟨u, hr, h⟩ => ⟨u, hr, thn h fun _ s2 ⟨x, H', I', r', y, t', n⟩ => ?_⟩
  exact ⟨x, H', f, I', r', y, ⟨rfl, t'⟩, fun b hb => fpAt (hf b hb) (n b hb)⟩
 done := fun X pins ⟨p1, p2, p3, p4⟩ i f s σ H H' I hf ⟨e, t⟩ ⟨st, _⟩ => by
  subst e p1 p2
  exact thn (T.done X rfl rfl p3 p4 i pins s σ H X.xe I hf t st) fun r s1 ⟨hr, I1⟩ => ⟨hr, H, I1, st, rfl⟩
def tPi (wi : TI) : TGI := fun σ H R => wi σ H fun J H1 => R (itG J) H1
theorem pis_pi {Zc : Cx → Prop} {X : Cx} {tg iter : Expr} {wi : TI} (hc : X.calm = true) (hz : ∀ X', Zc X' → Alike X X') (h : PI X tg iter wi) : PIS Zc X tg iter (tPi wi) := by
 refine ⟨fun pins s σ H R I q => thn (h.run pins s σ H _ I q) fun v s1 h1 => thn h1 fun itv s2 h2 => ?_⟩
 obtain ⟨it, fp, tn, J, H', e, I2, T, t0, f, r⟩ := h2
 refine ⟨it, s.gens.size, fp, _, _, _, itG J, H', e, I2, Nat.le_refl _, turn_of T, fun X' _ z _ => ?_, ⟨rfl, t0⟩, f, r⟩
 obtain ⟨s0, H0, e, _⟩ := hz X' z
 subst e
 exact ⟨rfl, rfl, rfl, hc⟩
end Gx
namespace Gx
open PySem PySem.Spec PyProof.Rows L2 GenW
def cutH (L : Nat) (h : Heap) : Heap := { h with objs := h.objs.extract 0 L }
theorem cutH_get {L b : Nat} {h : Heap} (hb : b < L) : (cutH L h).get? b = h.get? b := by
 have e : (cutH L h).objs[b]? = h.objs[b]? := by
  show (h.objs.extract 0 L)[b]? = _
  rw [Array.getElem?_extract]
  by_cases z : b < min L h.objs.size - 0
  ·rw [if_pos z, Nat.zero_add]
  ·rw [if_neg z, Array.getElem?_eq_none (by omega)]
 unfold Heap.get?
 rw [e]
theorem cutH_lt {L b : Nat} {h : Heap} {o : Obj} (e : (cutH L h).get? b = some o) : b < L := by
 have := Heap.lt_size e
 have z : (cutH L h).objs.size = min L h.objs.size - 0 := by show (h.objs.extract 0 L).size = _; rw [Array.size_extract]
 rw [z, Nat.sub_zero] at this
 exact Nat.lt_of_lt_of_le this (Nat.min_le_left _ _)
theorem cutH_old {L b : Nat} {h : Heap} {o : Obj} (e : (cutH L h).get? b = some o) : h.get? b = some o := by rw [← cutH_get (cutH_lt e)]; exact e
theorem cutH_size {L : Nat} {h : Heap} (hL : L ≤ h.objs.size) : (cutH L h).objs.size = L := by
 show (h.objs.extract 0 L).size = _
 rw [Array.size_extract]; omega
def cutS (L : Nat) (s : Shared) : Shared := { s with heap := cutH L s.heap }
structure GCt where
 n : Nat
 yld : Nat → Hp → V → Hp → Prop
 fin : Hp → Hp → Prop
 rely : Hp → Hp → Prop
structure Ran (P : Program) (w : World) (fs : List Addr) (L : Addr) (sw : Shared) (Hw : Hp) (ext : List (Addr × Obj)) (s1 : Shared) (H1 : Hp) : Prop where
 os : s1.os = sw.os
 bare : AllBare s1.gens
 un : Un fs [] Hw H1 (cutH L sw.heap) s1.heap
 hok : HOk P w H1 s1.heap
 ext : ∀ q ∈ ext, s1.heap.get? q.1 = some q.2 ∧ H1 q.1 = none
structure GD where
 prog : Program
 w : World
 K : PySem.W.Frag
 mg : Str → Option Value
 base : Heap
 A : Around
 outer : List Env
 L : Addr
 g : Nat
 own : Addr × Obj
 xa : List Addr
structure Wk (G : GD) (C : GCt) (priv ext : List (Addr × Obj)) (s1 : Shared) (H1 : Hp) (s2 : Shared) (H2 : Hp) (ext' : List (Addr × Obj)) : Prop where
 env : Env0 G.prog G.w G.K G.mg G.base G.A G.outer s2 H2
 priv : ∀ q ∈ priv, s2.heap.get? q.1 = some q.2 ∧ H2 q.1 = none
 gens : ∀ (i : Nat) (x : GenState), G.g < i → s1.gens[i]? = some x → Susp x → s2.gens[i]? = some x
 rely : C.rely H1 H2
 gl : G.g < s2.gens.size
 same : ext'.map (·.1) = ext.map (·.1)
 exts : ∀ q ∈ ext', s2.heap.get? q.1 = some q.2 ∧ H2 q.1 = none ∧ ∀ u, q.2.data ≠ .cell u
def Fut (G : GD) (C : GCt) : Nat → Nat → (Value → Shared → Prop) → Shared → Hp → List (Addr × Obj) → End → Shared → Prop
 | _, j, _, sw, Hw, ext, .ret (.ok f), s1 => (f = .ret .none ∨ f = .next) ∧ j = C.n ∧ ∃ H1, Ran G.prog G.w (frs G.outer) G.L sw Hw ext s1 H1 ∧ C.fin Hw H1
 | _, _, Ex, _, _, _, .ret (.error e), s1 => Ex e s1
 | 0, _, _, _, _, _, .susp .., _ => False
 | m + 1, j, _, sw, Hw, ext, .susp v gd l k c p fs, s1 => (End.susp v gd l k c p fs).quiet = true ∧ j < C.n ∧ ∃ x H1 priv, RelV x v ∧ Ran G.prog G.w (frs G.outer) G.L sw Hw ext s1 H1 ∧ C.yld j Hw x H1 ∧ G.own ∈ priv ∧
   (∀ q ∈ priv, s1.heap.get? q.1 = some q.2 ∧ H1 q.1 = none ∧ G.L ≤ q.1 ∧ (∀ u, q.2.data ≠ .cell u) ∧ ∀ r ∈ ext, q.1 ≠ r.1) ∧
   ∀ s2 H2 ext', Wk G C priv ext s1 H1 s2 H2 ext' → Sgm (model G.prog G.w) G.A (Fut G C m (j + 1) (fun _ _ => False) s2 H2 ext') c (k (.send .none)) fs s2
theorem fut_ok {G : GD} {C : GCt} {m j : Nat} {Ex : Value → Shared → Prop} {sw s1 : Shared} {Hw : Hp} {ext : List (Addr × Obj)} {f : Flow} : Fut G C m j Ex sw Hw ext (.ret (.ok f)) s1 ↔ ((f = .ret .none ∨ f = .next) ∧ j = C.n ∧ ∃ H1, Ran G.prog G.w (frs G.outer) G.L sw Hw ext s1 H1 ∧ C.fin Hw H1) := by
 cases m <;> exact Iff.rfl
theorem fut_err {G : GD} {C : GCt} {m j : Nat} {Ex : Value → Shared → Prop} {sw s1 : Shared} {Hw : Hp} {ext : List (Addr × Obj)} {e : Value} : Fut G C m j Ex sw Hw ext (.ret (.error e)) s1 ↔ Ex e s1 := by
 cases m <;> exact Iff.rfl
abbrev cxW (X : Cx) (sw : Shared) (Hw : Hp) : Cx := reX X (cutS X.env.locals sw) Hw
structure Fits (G : GD) (X : Cx) : Prop where
 prog : X.prog = G.prog
 w : X.w = G.w
 K : X.K = G.K
 mg : X.mg = G.mg
 base : X.base = G.base
 outer : X.outer = G.outer
 L : X.env.locals = G.L
 ex : X.ex = []
 cells : X.env.cells = []
 kinds : ∀ x, X.env.kindOf x ≠ some .cell ∧ X.env.kindOf x ≠ some .free
 calm : X.calm = true
 own : G.own ∈ X.pn
theorem rebase {X : Cx} {pins ext ext' : List (Addr × Obj)} {σ : L2.St} {s1 s2 : Shared} {H1 H2 : Hp} {oL : Obj} {A' : Around} {xe : Value → Shared → Prop} (hc : X.env.cells = []) (I : Inv X (pins ++ ext) σ H1 s1) (hL : s1.heap.get? X.env.locals = some oL)
  (env : Env0 X.prog X.w X.K X.mg X.base A' X.outer s2 H2) (kL : s2.heap.get? X.env.locals = some oL ∧ H2 X.env.locals = none) (kp : ∀ q ∈ X.pn ++ pins, s2.heap.get? q.1 = some q.2 ∧ H2 q.1 = none) (hex : X.ex = [])
  (same : ext'.map (·.1) = ext.map (·.1)) (exts : ∀ q ∈ ext', s2.heap.get? q.1 = some q.2 ∧ H2 q.1 = none ∧ ∀ u, q.2.data ≠ .cell u) : Inv { X with s_0 := cutS X.env.locals s2, H_0 := H2, xe := xe } (pins ++ ext') σ H2 s2 ∧ X.env.locals < s2.heap.objs.size := by
 have lt := Heap.lt_size kL.1
 have o := I.ok
 have bL : X.base.objs.size ≤ X.env.locals := Nat.le_trans o.bsz o.above
 have nocell : ∀ x c, X.env.cells.lookup x = some c → False := fun x c e => by rw [hc] at e; cases e
 have small : ∀ b ∈ frs X.outer, b < X.env.locals := fun b hb => by
  obtain ⟨_, ob, h, _⟩ := o.funs.mem hb
  exact Nat.lt_of_lt_of_le (Heap.lt_size h) o.above
 have funs : (cutH X.env.locals s2.heap).FunFrames X.base X.outer := by
  have h0 := env.funs
  have all : ∀ l : List Env, (∀ b ∈ frs l, b < X.env.locals) → s2.heap.FunFrames X.base l → (cutH X.env.locals s2.heap).FunFrames X.base l := by
   intro l
   induction l with
   | nil => exact fun _ _ => trivial
   | cons e r ih =>
    intro hs ⟨h1, ⟨a, ob, h2, h3, h4, h5⟩, h6⟩
    have hb : a < X.env.locals := hs a (by unfold frs; rw [List.filterMap_cons, h2]; exact List.mem_cons_self)
    exact ⟨h1, ⟨a, ob, h2, h3, by rw [cutH_get hb]; exact h4, h5⟩, ih (fun b m => hs b (by unfold frs; rw [List.filterMap_cons, h2]; exact List.mem_cons_of_mem _ m)) h6⟩
  exact all X.outer small h0
 have sz : (cutH X.env.locals s2.heap).objs.size = X.env.locals := cutH_size (Nat.le_of_lt lt)
 refine ⟨⟨⟨o.mod, o.kind, o.glob, o.blt, Nat.le_of_eq sz, o.inj, o.has, fun x c _ e => (nocell x c e).elim, o.hd, o.frames, o.stk, o.exf, fun b ob e => ?_, by show X.base.objs.size ≤ (cutH X.env.locals s2.heap).objs.size; rw [sz]; exact bL, o.noex, o.exfs, funs, env.frf⟩,
  rfl, env.bare, ?_, ?_, fun x c e => (nocell x c e).elim, kL.2, fun x c e => (nocell x c e).elim, fun q hq => ?_, env.hok, I.len⟩, lt⟩
 ·obtain ⟨z1, z2⟩ := env.bs b ob e
  exact ⟨(cutH_get (Nat.lt_of_lt_of_le (Heap.lt_size e) bL)).trans z1, z2⟩
 ·exact ⟨fun b ob e _ _ _ => cutH_old e, fun b ob e _ _ _ => ⟨ob.slots, cutH_old e⟩, fun _ _ _ n _ => n, fun b ob e _ => ⟨ob, cutH_old e⟩, fun _ _ e => e, fun _ _ _ e => e, fun b ps e => ⟨#[], by have e : H2 b = some (.tbl ps) := e; rw [e]; simp⟩⟩
 ·obtain ⟨m, ⟨o1, es, ep, ho, r⟩, h⟩ := I.loc
  have e : o1 = oL := Option.some.inj (ho.symm.trans hL)
  rw [e] at r
  refine ⟨m, ⟨oL, es, ep, kL.1, r⟩, fun i x v h1 h2 h3 => ?_⟩
  obtain ⟨u, ru, l⟩ := h i x v h1 h2 h3
  refine ⟨u, ru, ?_⟩
  rcases l with l | ⟨_, c, e, _⟩
  ·exact .inl l
  ·exact (nocell x c e).elim
 ·have old : q ∈ X.pn ++ pins → _ := fun hq => by
   obtain ⟨z1, z2⟩ := kp q hq
   obtain ⟨_, _, z3, z4, z5⟩ := I.pin q (by rw [← List.append_assoc]; exact List.mem_append_left _ hq)
   exact (⟨z1, z2, z3, z4, z5⟩ : s2.heap.get? q.1 = some q.2 ∧ H2 q.1 = none ∧ q.1 ≠ X.env.locals ∧ q.1 ∉ X.fs ∧ ∀ v, q.2.data ≠ .cell v)
  have hq : q ∈ X.pn ++ (pins ++ ext') := hq
  rw [← List.append_assoc] at hq
  rcases List.mem_append.mp hq with hq | hq
  ·exact old hq
  ·obtain ⟨z1, z2, z5⟩ := exts q hq
   have ha : q.1 ∈ ext.map (·.1) := by rw [← same]; exact List.mem_map.mpr ⟨q, hq, rfl⟩
   obtain ⟨r, hr, e⟩ := List.mem_map.mp ha
   obtain ⟨_, _, z3, z4, _⟩ := I.pin r (List.mem_append_right _ (List.mem_append_right _ hr))
   exact ⟨z1, z2, by rw [← e]; exact z3, by rw [← e]; exact z4, z5⟩
theorem woken {G : GD} {C : GCt} {X : Cx} {pins priv ext ext' : List (Addr × Obj)} {σ : L2.St} {sw s1 s2 : Shared} {Hw H1 H2 : Hp} {oL : Obj} (F : Fits G X) (I : Inv (cxW X sw Hw) (pins ++ ext) σ H1 s1) (hL : s1.heap.get? X.env.locals = some oL)
  (hp : ∀ q ∈ (X.env.locals, oL) :: (X.pn ++ pins), q ∈ priv) (w : Wk G C priv ext s1 H1 s2 H2 ext') : Inv (cxW X s2 H2) (pins ++ ext') σ H2 s2 ∧ X.env.locals < s2.heap.objs.size := by
 have env := w.env
 rw [← F.prog, ← F.w, ← F.K, ← F.mg, ← F.base, ← F.outer] at env
 exact rebase (X := cxW X sw Hw) F.cells I hL env (w.priv _ (hp _ List.mem_cons_self)) (fun q hq => w.priv q (hp q (List.mem_cons_of_mem _ hq))) F.ex w.same w.exts
structure GEnds where
 c : GCt
 nx : Nat → Hp → L2.St → Hp → Prop
 rt : Nat → Hp → VK
 bk : Nat → Hp → L2.St → Hp → Prop := fun _ _ _ _ => False
 ct : Nat → Hp → L2.St → Hp → Prop := fun _ _ _ _ => False
abbrev TGn := GEnds → Nat → Hp → L2.St → Hp → Prop
def GEnds.at (D : GEnds) (j : Nat) (Hw : Hp) : Ends := { nx := D.nx j Hw, rt := D.rt j Hw, bk := D.bk j Hw, ct := D.ct j Hw }
structure At (G : GD) (X : Cx) (C : GCt) (pins : List (Addr × Obj)) (m j : Nat) (sw : Shared) (Hw : Hp) (ext : List (Addr × Obj)) (σ : L2.St) (H : Hp) (s : Shared) : Prop where
 sum : m + j = C.n
 lt : X.env.locals < sw.heap.objs.size
 lo : ∀ q ∈ X.pn ++ pins, X.env.locals ≤ q.1
 gl : G.g < s.gens.size
 apart : ∀ q ∈ ext, ∀ r ∈ X.pn ++ pins, r.1 ≠ q.1
 same : ext.map (·.1) = G.xa
 inv : Inv (cxW X sw Hw) (pins ++ ext) σ H s
def GSP (G : GD) (X : Cx) (pins : List (Addr × Obj)) (D : GEnds) (m j : Nat) (sw : Shared) (Hw : Hp) (ext : List (Addr × Obj)) (f : Flow) (s : Shared) : Prop :=
 match f with
 | .next => ∃ σ H, At G X D.c pins m j sw Hw ext σ H s ∧ D.nx j Hw σ H
 | .brk => ∃ σ H, At G X D.c pins m j sw Hw ext σ H s ∧ D.bk j Hw σ H
 | .cont => ∃ σ H, At G X D.c pins m j sw Hw ext σ H s ∧ D.ct j Hw σ H
 | .ret u => ∃ v σ H, At G X D.c pins m j sw Hw ext σ H s ∧ RelV v u ∧ D.rt j Hw v H
structure GPos (G : GD) (X : Cx) (c : Code) (fs : List Frame) (gd : Bool → Bool) : Prop where
 over : G.A.over c fs = X.A
 split : splitAtGen fs = none
 guard : fs.any Frame.guarded = false
 gd : gd false = false
def noX : Value → Shared → Prop := fun _ _ => False
def SleepOn (kp : Bool) (g : Nat) (s s' : Shared) : Prop := kp = true → ∀ (i : Nat) (x : GenState), g < i → s.gens[i]? = some x → Susp x → s'.gens[i]? = some x
theorem SleepOn.refl {kp : Bool} {g : Nat} {s : Shared} : SleepOn kp g s s := fun _ _ _ _ e _ => e
theorem SleepOn.trans {kp : Bool} {g : Nat} {s s1 s2 : Shared} (a : SleepOn kp g s s1) (b : SleepOn kp g s1 s2) : SleepOn kp g s s2 := fun k i x l e z => b k i x l (a k i x l e z) z
theorem SleepOn.kept {kp : Bool} {g : Nat} {s s1 s2 : Shared} (k : Kept s s1 s2) : SleepOn kp g s s2 := fun _ i x _ => k.keep i x
def GK (kp : Bool) (G : GD) (X : Cx) (pins : List (Addr × Obj)) (D : GEnds) (Ex : Value → Shared → Prop) (s : Shared) (c : Code) (fs : List Frame) (K : Flow → Sem PySem.Fin) : Prop :=
 ∀ m j Ex' sw Hw ext f s', GSP G X pins D m j sw Hw ext f s' → (Ex' = Ex ∨ Ex' = noX) → SleepOn kp G.g s s' → Sgm (model G.prog G.w) G.A (Fut G D.c m j Ex' sw Hw ext) c (K f) fs s'
structure GS (kp : Bool) (X : Cx) (st : Stmt) (t : TGn) : Prop where
 run : ∀ (G : GD) (pins : List (Addr × Obj)) (m j : Nat) (Ex : Value → Shared → Prop) (sw : Shared) (Hw : Hp) (ext : List (Addr × Obj)) (c : Code) (fs : List Frame) (K : Flow → Sem PySem.Fin) (J : Value → Sem PySem.Fin) (gd : Bool → Bool) (lv : List Value → List Value) (s : Shared) (σ : L2.St) (H : Hp) (D : GEnds),
  Fits G X → GPos G X c fs gd → At G X D.c pins m j sw Hw ext σ H s → GK kp G X pins D Ex s c fs K → t D j Hw σ H → Sgm (model G.prog G.w) G.A (Fut G D.c m j Ex sw Hw ext) c ((exec st X.env).wrap K J gd lv) fs s
structure GSs (kp : Bool) (X : Cx) (st : List Stmt) (t : TGn) : Prop where
 run : ∀ (G : GD) (pins : List (Addr × Obj)) (m j : Nat) (Ex : Value → Shared → Prop) (sw : Shared) (Hw : Hp) (ext : List (Addr × Obj)) (c : Code) (fs : List Frame) (K : Flow → Sem PySem.Fin) (J : Value → Sem PySem.Fin) (gd : Bool → Bool) (lv : List Value → List Value) (s : Shared) (σ : L2.St) (H : Hp) (D : GEnds),
  Fits G X → GPos G X c fs gd → At G X D.c pins m j sw Hw ext σ H s → GK kp G X pins D Ex s c fs K → t D j Hw σ H → Sgm (model G.prog G.w) G.A (Fut G D.c m j Ex sw Hw ext) c ((execs st X.env).wrap K J gd lv) fs s
section
variable {kp : Bool} {X : Cx} {st : Stmt} {rest : List Stmt}
theorem GK.mono {G : GD} {pins : List (Addr × Obj)} {D : GEnds} {Ex Ex' : Value → Shared → Prop} {s s' : Shared} {c : Code} {fs : List Frame} {K : Flow → Sem PySem.Fin} (k : GK kp G X pins D Ex s c fs K) (he : Ex' = Ex ∨ Ex' = noX) (hs : SleepOn kp G.g s s') : GK kp G X pins D Ex' s' c fs K :=
 fun m j E sw Hw ext f s2 h e so => k m j E sw Hw ext f s2 h (by rcases e with e | e <;> rcases he with z | z <;> simp [e, z]) (hs.trans so)
def tPlain (t : TS) : TGn := fun D j Hw σ H => t (D.at j Hw) σ H
def tG0 : TGn := fun D j Hw σ H => D.nx j Hw σ H
theorem gss_nil : GSs kp X [] tG0 := ⟨fun G pins m j Ex sw Hw ext c fs K J gd lv s σ H D F g a k ht => k m j Ex sw Hw ext .next s ⟨σ, H, a, ht⟩ (.inl rfl) .refl⟩
def tGThen (t u : TGn) : TGn := fun D j Hw σ H => t { D with nx := fun j' Hw' σ' H' => u D j' Hw' σ' H' } j Hw σ H
theorem gss_cons {t u : TGn} (a : GS kp X st t) (b : GSs kp X rest u) : GSs kp X (st :: rest) (tGThen t u) := by
 refine ⟨fun G pins m j Ex sw Hw ext c fs K J gd lv s σ H D F g i k ht => ?_⟩
 rw [execs_cons_wrap]
 refine a.run G pins m j Ex sw Hw ext c fs _ J gd lv s σ H { D with nx := fun j' Hw' σ' H' => u D j' Hw' σ' H' } F g i (fun m' j' E sw' Hw' ext' f s' hs he so => ?_) ht
 cases f with
 | next =>
  obtain ⟨σ', H', a', q⟩ := hs
  exact b.run G pins m' j' E sw' Hw' ext' c fs K J gd lv s' σ' H' D F g a' (k.mono he so) q
 | brk => exact k m' j' E sw' Hw' ext' .brk s' hs he so
 | cont => exact k m' j' E sw' Hw' ext' .cont s' hs he so
 | ret u => exact k m' j' E sw' Hw' ext' (.ret u) s' hs he so
theorem gss_one {t : TGn} (a : GS kp X st t) : GSs kp X [st] (tGThen t tG0) := gss_cons a gss_nil
theorem sg_bw {M : Model} {A : Around} {Φ : End → Shared → Prop} {c : Code} {fs : List Frame} {s : Shared} {α β : Type} {u : Sem α} {f : α → Sem β} {K : β → Sem PySem.Fin} {J : Value → Sem PySem.Fin} {gd : Bool → Bool} {lv : List Value → List Value}
  (h : wpAny M (A.over c fs) u (fun a s1 => Sgm M A Φ c ((f a).wrap K J gd lv) fs s1) (fun x s1 => Sgm M A Φ c (J x) fs s1) s) : Sgm M A Φ c ((u >>= f).wrap K J gd lv) fs s := by
 rw [Sem.bind_eq_wrap', Sem.wrap_wrap]; exact sg_wrap h
def tGYield (te : TE) : TGn := fun D j Hw σ H => te σ H fun x H1 => j < D.c.n ∧ D.c.yld j Hw x H1 ∧ ∀ H2, D.c.rely H1 H2 → D.nx (j + 1) H2 σ H2
theorem gs_yield {e : Expr} {yp pos : Pos} {te : TE} (he : ∀ s0 H0, PE (reX X s0 H0) e te) (hco : X.env.scope.isCoroutine = false := by rfl) (hi : interactive X.env = false := by rfl) : GS kp X (.Expr (.Yield (some e) yp) pos) (tGYield te) := by
 refine ⟨fun G pins m j Ex sw Hw ext c fs K J gd lv s σ H D F g a k ht => ?_⟩
 rw [exec_Expr X.env _ pos hi rfl]
 refine (?_ : Sgm _ _ _ c (.at pos fun _ => ((eval e X.env >>= fun v => (standAt yp >>= fun _ => yieldOut X.env v)) >>= fun x => dropValue (.Yield (some e) yp) pos x).wrap K J gd lv) fs s)
 have hy : ∀ v, yieldOut X.env v = yieldValue v := fun v => by simp only [yieldOut, hco, Bool.false_eq_true, if_false]
 simp only [hy]
 refine sg_at ?_
 rw [Sem.bind_eq_wrap', Sem.bind_eq_wrap', Sem.wrap_wrap, Sem.wrap_wrap]
 refine sg_wrap ?_
 rw [g.over, ← F.prog, ← F.w]
 have r := (he (cutS X.env.locals sw) Hw).run (pins ++ ext) (trapped s) σ H _ (Inv.trap a.inv) ht
 refine wpAny_gsz (n := G.g + 1) a.gl (wpAny_mono (wpAny_trapped r) (fun v s2 ⟨s1, k1, q⟩ hz => ?_) fun _ _ ⟨_, _, z⟩ => z.elim)
 obtain ⟨x, H1, J1, rv, lt, hY, hn⟩ := q
 have I1 := Inv.untrap a.inv k1 J1
 rw [F.prog, F.w]
 obtain ⟨m, rfl⟩ : ∃ i, m = i + 1 := ⟨m - 1, by have := a.sum; omega⟩
 obtain ⟨_, ⟨oL, es, ep, hoL, hdL, hrL⟩, _⟩ := id I1.loc
 refine sg_at (sg_yield g.split fun p => ⟨by simp [End.quiet, g.gd, g.guard], lt, x, H1, (X.env.locals, oL) :: (X.pn ++ pins), rv, ?_, hY, List.mem_cons_of_mem _ (List.mem_append_left _ F.own), fun q hq => ?_, fun s3 H3 ext3 wk => ?_⟩)
 ·rw [← F.outer, ← F.L, ← F.prog, ← F.w]
  exact ⟨I1.os, I1.bare, by have b := I1.base; rw [show (cxW X sw Hw).ex = [] from F.ex] at b; exact b, I1.hok, fun q hq => by
   obtain ⟨z1, z2, _⟩ := I1.pin q (List.mem_append_right _ (List.mem_append_right _ hq))
   exact ⟨z1, z2⟩⟩
 ·rcases List.mem_cons.mp hq with e | hq
  ·rw [e]
   exact ⟨hoL, I1.free, Nat.le_of_eq F.L.symm, fun u z => (by rw [hdL] at z; cases z), fun r hr => Ne.symm (I1.pin r (List.mem_append_right _ (List.mem_append_right _ hr))).2.2.1⟩
  ·obtain ⟨z1, z2, z3, z4, z5⟩ := I1.pin q (by rw [← List.append_assoc]; exact List.mem_append_left _ hq)
   exact ⟨z1, z2, by rw [← F.L]; exact a.lo q hq, z5, fun r hr => a.apart r hr q hq⟩
 ·obtain ⟨I3, lt3⟩ := woken F I1 hoL (fun q hq => hq) wk
  refine k m (j + 1) noX s3 H3 ext3 .next s3 ⟨σ, H3, ⟨by have := a.sum; omega, lt3, a.lo, wk.gl, fun q hq r hr => ?_, wk.same.trans a.same, I3⟩, hn H3 wk.rely⟩ (.inr rfl) (SleepOn.trans (.kept k1) fun _ => wk.gens)
  have ha : q.1 ∈ ext.map (·.1) := by rw [← wk.same]; exact List.mem_map.mpr ⟨q, hq, rfl⟩
  obtain ⟨y, hy, e⟩ := List.mem_map.mp ha
  rw [← e]
  exact a.apart y hy r hr
def tGFor (wi : TGI) (g : TG) (tb : TGn) : TGn := fun D j Hw σ H => wi σ H fun J H1 => ∃ (n : Nat) (W : Nat → Nat → Hp → L2.St → Hp → Prop), W 0 j Hw σ H1 ∧
 (∀ i j Hw σ H, i < n → W i j Hw σ H → J.go i H ∧ ∀ x H2, J.yld i H x H2 → g x σ H2 fun σ3 H3 => tb { D with nx := fun j4 Hw4 σ4 H4 => J.rely H2 H4 ∧ W (i + 1) j4 Hw4 σ4 H4, ct := fun j4 Hw4 σ4 H4 => J.rely H2 H4 ∧ W (i + 1) j4 Hw4 σ4 H4, bk := D.nx } j Hw σ3 H3) ∧
 ∀ j Hw σ H, W n j Hw σ H → (∃ H2, J.stop n H H2) ∧ ∀ H2, J.stop n H H2 → D.nx j Hw σ H2
theorem fpW {pins : List (Addr × Obj)} {sw sw' : Shared} {Hw Hw' H : Hp} {b : Addr} (l1 : X.env.locals < sw.heap.objs.size) (l2 : X.env.locals < sw'.heap.objs.size) (h : FpOk (cxW X sw Hw) pins H b) : FpOk (cxW X sw' Hw') pins H b := by
 obtain ⟨h1, h2, h3, h4, h5, h6⟩ := h
 have e1 : (cutS X.env.locals sw).heap.objs.size = X.env.locals := cutH_size (Nat.le_of_lt l1)
 have e2 : (cutS X.env.locals sw').heap.objs.size = X.env.locals := cutH_size (Nat.le_of_lt l2)
 refine ⟨h1, h2, h3, ?_, h5, h6⟩
 rcases h4 with z | z
 ·exact .inl z
 ·refine .inr ?_
  show (cutS X.env.locals sw').heap.objs.size ≤ b
  have z : (cutS X.env.locals sw).heap.objs.size ≤ b := z
  rw [e1] at z
  rw [e2]; exact z
theorem alikeW {sw sw' : Shared} {Hw Hw' : Hp} (l1 : X.env.locals < sw.heap.objs.size) (l2 : X.env.locals < sw'.heap.objs.size) : Alike (cxW X sw Hw) (cxW X sw' Hw') :=
 ⟨cutS X.env.locals sw', Hw', rfl, (cutH_size (Nat.le_of_lt l2)).trans (cutH_size (Nat.le_of_lt l1)).symm⟩
theorem gs_forS {tg iter : Expr} {body : List Stmt} {wi : TGI} {g : TG} {tb : TGn} {pos : Pos} (hi : ∀ s0 H0, PIS (Alike (reX X s0 H0)) (reX X s0 H0) tg iter wi) (hg : ∀ s0 H0, PG (reX X s0 H0) tg g) (hb : GSs true X body tb)
  (hs : ∀ x, foldedSetIterable iter X.env x = pure x := by intro _; rfl) : GS false X (.For tg iter body [] pos) (tGFor wi g tb) := by
 refine ⟨fun G pins m0 j0 Ex sw0 Hw0 ext0 c fs K J gd lv s0 σ0 H0 D F gp a0 k ht => ?_⟩
 have nocell : X.env.cells = [] := F.cells
 rw [exec_For]
 refine sg_bw (wpAny_standAt (sg_bw ?_))
 rw [gp.over, ← F.prog, ← F.w]
 refine wpAny_gsz (n := G.g + 1) a0.gl (wpAny_mono ((hi (cutS X.env.locals sw0) Hw0).run (pins ++ ext0) s0 σ0 H0 _ a0.inv ht) (fun v s1 h1 hz1 => ?_) fun _ _ z => z.elim)
 rw [F.prog, F.w]
 refine sg_bw (wpAny_of_eq (hs v) (sg_bw (wpAny_standAt (sg_bw (wpAny_holding ?_)))))
 rw [gp.over, ← F.prog, ← F.w]
 refine wpAny_gsz (n := G.g + 1) hz1 (wpAny_mono h1 (fun itv s2 h2 hz2 => ?_) fun _ _ z => z.elim)
 obtain ⟨it, lo, fp0, Pc, tn, yn, Ji, H2, e, I2, hlo, T, hP, st2, f2, n, W, w0, step, fin⟩ := h2
 subst e
 rw [F.prog, F.w]
 refine sg_call fun p => ?_
 generalize hkk : (fun r : Result => _) = kk
 have kok : ∀ f, kk (.ok f) = K f := fun f => by rw [← hkk]; rfl
 have gl : GPos G X (.forLoop tg (.ref it) body [] X.env) (.ret kk none (gd false) (lv []) c p [] :: fs) id := by
  refine ⟨(over_loop rfl rfl).trans gp.over, ?_, ?_, rfl⟩
  ·show (splitAtGen fs).map _ = none
   rw [gp.split]; rfl
  ·show (gd false || fs.any Frame.guarded) = false
   rw [gp.gd, gp.guard]; rfl
 have loop : ∀ (r i : Nat) (m j : Nat) (Ex' : Value → Shared → Prop) (sw : Shared) (Hw : Hp) (ext : List (Addr × Obj)) (s : Shared) (σ : L2.St) (H : Hp) (fp : List Addr), i + r = n → (Ex' = Ex ∨ Ex' = noX) → At G X D.c pins m j sw Hw ext σ H s → tn i fp H s → (∀ b ∈ fp, FpOk (cxW X sw Hw) (pins ++ ext) H b) → W i j Hw σ H →
   Sgm (model G.prog G.w) G.A (Fut G D.c m j Ex' sw Hw ext) (.forLoop tg (.ref it) body [] X.env) ((model G.prog G.w).den (.forLoop tg (.ref it) body [] X.env)) (.ret kk none (gd false) (lv []) c p [] :: fs) s := by
  intro r
  induction r with
  | zero =>
   intro i m j Ex' sw Hw ext s σ H fp hr he a st f w
   have same : (pins ++ ext).map (·.1) = (pins ++ ext0).map (·.1) := by rw [List.map_append, List.map_append, a.same, a0.same]
   have hin : i = n := hr
   subst hin
   refine (?_ : Sgm _ _ _ _ ((forTurn tg (.ref it) body [] X.env).onRaise fun x => do noteFrame x X.env; theTreesLotGoes x) _ s)
   rw [Sem.onRaise_eq_wrap]
   unfold forTurn
   refine sg_bw (wpAny_standAt (sg_bw (wpAny_onRaise ?_)))
   rw [gl.over, ← F.prog, ← F.w]
   obtain ⟨⟨H6, hst⟩, fin⟩ := fin j Hw σ H w
   refine wpAny_gsz (n := G.g + 1) a.gl (wpAny_mono (T.done _ (pins ++ ext) (hP _ _ (alikeW a0.lt a.lt) same) i fp s σ H H6 a.inv f st hst) (fun r s4 ⟨hr, H4, I4, q4⟩ hz4 => ?_) fun _ _ z => z.elim)
   subst hr
   rw [F.prog, F.w]
   refine sg_again (c2 := .block [] X.env) rfl (sg_leaf (.ok .next) ?_)
   rw [kok]
   exact k m j Ex' sw Hw ext .next s4 ⟨σ, H4, ⟨a.sum, a.lt, a.lo, hz4, a.apart, a.same, I4⟩, fin H4 q4⟩ he (fun z => by cases z)
  | succ r ih =>
   intro i m j Ex' sw Hw ext s σ H fp hr he a st f w
   have same : (pins ++ ext).map (·.1) = (pins ++ ext0).map (·.1) := by rw [List.map_append, List.map_append, a.same, a0.same]
   obtain ⟨go, step⟩ := step i j Hw σ H (by omega) w
   refine (?_ : Sgm _ _ _ _ ((forTurn tg (.ref it) body [] X.env).onRaise fun x => do noteFrame x X.env; theTreesLotGoes x) _ s)
   rw [Sem.onRaise_eq_wrap]
   unfold forTurn
   refine sg_bw (wpAny_standAt (sg_bw (wpAny_onRaise ?_)))
   rw [gl.over, ← F.prog, ← F.w]
   refine wpAny_gsz (n := G.g + 1) a.gl (wpAny_mono (T.item _ (pins ++ ext) (hP _ _ (alikeW a0.lt a.lt) same) i fp s σ H a.inv f st go) (fun r s4 ⟨u, hr, h4⟩ hz4 => ?_) fun _ _ z => z.elim)
   subst hr
   rw [F.prog, F.w]
   refine sg_bw ?_
   rw [gl.over, ← F.prog, ← F.w]
   refine wpAny_gsz (n := G.g + 1) hz4 (wpAny_mono h4 (fun _ s5 ⟨x, H5, fp5, I5, r5, y5, st5, f5⟩ hz5 => ?_) fun _ _ z => z.elim)
   have I5' := I5.pinned f5 (T.obj _ _ _ _ st5)
   have K5 := (hg (cutS X.env.locals sw) Hw).run _ (trapped s5) σ H5 x u _ (Inv.trap I5') r5 (step x H5 y5)
   rw [F.prog, F.w]
   refine sg_bw ?_
   rw [gl.over, ← F.prog, ← F.w]
   refine wpAny_gsz (n := G.g + 1) hz5 (wpAny_mono (wpAny_trapped K5) (fun _ s6 ⟨s6', k6, σ6, H6, J6, q6⟩ hz6 => ?_) fun _ _ ⟨_, _, z⟩ => z.elim)
   have I6' := Inv.untrap I5' k6 J6
   have I6 : Inv (cxW X sw Hw) (pins ++ pinsAt fp5 s5.heap ++ ext) σ6 H6 s6 := I6'.pins_of fun q hq => I6'.pin q (List.mem_append_right _ (by simp only [List.mem_append] at hq ⊢; rcases hq with (z | z) | z <;> simp [z]))
   have ap5 : ∀ q ∈ ext, ∀ r ∈ X.pn ++ (pins ++ pinsAt fp5 s5.heap), r.1 ≠ q.1 := fun q hq r hr => by
    rcases List.mem_append.mp hr with z | z
    ·exact a.apart q hq r (List.mem_append_left _ z)
    rcases List.mem_append.mp z with z | z
    ·exact a.apart q hq r (List.mem_append_right _ z)
    ·obtain ⟨hb, _⟩ := of_pinsAt z
     obtain ⟨_, _, _, _, _, h6⟩ := f5 r.1 hb
     exact Ne.symm (h6 q (List.mem_append_right _ (List.mem_append_right _ hq)))
   rw [F.prog, F.w, Sem.bind_eq_wrap', Sem.wrap_wrap]
   have lo5 : ∀ q ∈ X.pn ++ (pins ++ pinsAt fp5 s5.heap), X.env.locals ≤ q.1 := fun q hq => by
    rcases List.mem_append.mp hq with z | z
    ·exact a.lo q (List.mem_append_left _ z)
    rcases List.mem_append.mp z with z | z
    ·exact a.lo q (List.mem_append_right _ z)
    ·obtain ⟨hb, _⟩ := of_pinsAt z
     obtain ⟨_, _, _, h4, _⟩ := f5 q.1 hb
     rcases h4 with z | z
     ·have z : q.1 ∈ X.ex := z
      rw [F.ex] at z; cases z
     ·have z : (cutS X.env.locals sw).heap.objs.size ≤ q.1 := z
      rw [show (cutS X.env.locals sw).heap.objs.size = X.env.locals from cutH_size (Nat.le_of_lt a.lt)] at z
      exact z
   refine hb.run G (pins ++ pinsAt fp5 s5.heap) m j Ex' sw Hw ext _ _ _ _ _ _ s6 σ6 H6 { D with nx := fun j4 Hw4 σ4 H4 => Ji.rely H5 H4 ∧ W (i + 1) j4 Hw4 σ4 H4, ct := fun j4 Hw4 σ4 H4 => Ji.rely H5 H4 ∧ W (i + 1) j4 Hw4 σ4 H4, bk := D.nx } F gl ⟨a.sum, a.lt, lo5, hz6, ap5, a.same, I6⟩ (fun m7 j7 E7 sw7 Hw7 ext7 fl s7 q7 he7 so => ?_) q6
   have he7 : E7 = Ex ∨ E7 = noX := by rcases he7 with z | z <;> rcases he with y | y <;> simp [z, y]
   have unp : ∀ {σ7 H7}, At G X D.c (pins ++ pinsAt fp5 s5.heap) m7 j7 sw7 Hw7 ext7 σ7 H7 s7 → At G X D.c pins m7 j7 sw7 Hw7 ext7 σ7 H7 s7 := fun {σ7 H7} a7 =>
    ⟨a7.sum, a7.lt, a.lo, a7.gl, fun q hq r hr => a7.apart q hq r (by simp only [List.mem_append] at hr ⊢; rcases hr with z | z <;> simp [z]), a7.same,
     a7.inv.pins_of fun q hq => a7.inv.pin q (List.mem_append_right _ (by simp only [List.mem_append] at hq ⊢; rcases hq with z | z <;> simp [z]))⟩
   have next : ∀ {σ7 H7}, At G X D.c (pins ++ pinsAt fp5 s5.heap) m7 j7 sw7 Hw7 ext7 σ7 H7 s7 → Ji.rely H5 H7 → W (i + 1) j7 Hw7 σ7 H7 → Sgm (model G.prog G.w) G.A (Fut G D.c m7 j7 E7 sw7 Hw7 ext7) (.forLoop tg (.ref it) body [] X.env) ((model G.prog G.w).den (.forLoop tg (.ref it) body [] X.env)) (.ret kk none (gd false) (lv []) c p [] :: fs) s7 := fun {σ7 H7} a7 hr7 w7 => by
    have at_ : ∀ b ∈ fp5, ∃ o, s5.heap.get? b = some o ∧ s7.heap.get? b = some o ∧ H7 b = none := fun b hb => by
     obtain ⟨o, e, _⟩ := T.obj _ _ _ _ st5 b hb
     have q := a7.inv.pin (b, o) (List.mem_append_right _ (List.mem_append_left _ (List.mem_append_right _ (mem_pinsAt hb e))))
     exact ⟨o, e, q.1, q.2.1⟩
    have nn : ∀ b ∈ fp5, H7 b = none := fun b hb => by obtain ⟨_, _, _, z⟩ := at_ b hb; exact z
    have fp7 : ∀ b ∈ fp5, FpOk (cxW X sw Hw) (pins ++ ext7) H7 b := fun b hb => by
     obtain ⟨o, e, _⟩ := T.obj _ _ _ _ st5 b hb
     obtain ⟨_, h2, h3, h4, h5, h6⟩ := f5 b hb
     refine ⟨nn b hb, h2, h3, h4, h5, fun y hy => ?_⟩
     rcases List.mem_append.mp hy with z | z
     ·exact h6 y (List.mem_append_left _ z)
     rcases List.mem_append.mp z with z | z
     ·exact h6 y (List.mem_append_right _ (List.mem_append_left _ z))
     ·exact Ne.symm (a7.apart y z (b, o) (List.mem_append_right _ (List.mem_append_right _ (mem_pinsAt hb e))))
    have stl : Still fp5 lo s5 s7 := ⟨fun b hb o e => by
     obtain ⟨o', e1, e2, _⟩ := at_ b hb
     rw [e1] at e
     rw [← e]; exact e2, fun i x l e z => so rfl i x (Nat.lt_of_lt_of_le a0.gl (Nat.le_trans hlo l)) (k6.keep i x e z) z⟩
    exact ih (i + 1) m7 j7 E7 sw7 Hw7 ext7 s7 σ7 H7 fp5 (by omega) he7 (unp a7) (T.keep _ _ _ _ _ _ st5 hr7 stl nn) (fun b hb => fpW a.lt a7.lt (fp7 b hb)) w7
   cases fl with
   | next => obtain ⟨σ7, H7, a7, z1, z2⟩ := q7; exact sg_again rfl (next a7 z1 z2)
   | cont => obtain ⟨σ7, H7, a7, z1, z2⟩ := q7; exact sg_again rfl (next a7 z1 z2)
   | brk =>
    obtain ⟨σ7, H7, a7, z⟩ := q7
    refine sg_leaf (.ok .next) ?_
    rw [kok]
    exact k m7 j7 E7 sw7 Hw7 ext7 .next s7 ⟨σ7, H7, unp a7, z⟩ he7 (fun z => by cases z)
   | ret v =>
    obtain ⟨x7, σ7, H7, a7, r7, z⟩ := q7
    refine sg_leaf (.ok (.ret v)) ?_
    rw [kok]
    exact k m7 j7 E7 sw7 Hw7 ext7 (.ret v) s7 ⟨x7, σ7, H7, unp a7, r7, z⟩ he7 (fun z => by cases z)
 exact loop n 0 m0 j0 Ex sw0 Hw0 ext0 s2 σ0 H2 fp0 (Nat.zero_add _) (.inl rfl) ⟨a0.sum, a0.lt, a0.lo, hz2, a0.apart, a0.same, I2⟩ st2 f2 w0
end
end Gx
namespace Gx
open PySem PySem.Spec PyProof.Rows L2 GenW
structure GF (X : Cx) (body : List Stmt) (t : TGn) : Prop where
 run : ∀ (G : GD) (m : Nat) (Ex : Value → Shared → Prop) (sw : Shared) (ext : List (Addr × Obj)) (c : Code) (fs : List Frame) (K : Flow → Sem PySem.Fin) (J : Value → Sem PySem.Fin) (gd : Bool → Bool) (lv : List Value → List Value) (s : Shared) (σ : L2.St) (H : Hp) (D : GEnds),
  Fits G X → GPos G X c fs gd → X.s_0 = cutS X.env.locals sw → Inv X ext σ H s → (∀ q ∈ ext, ∀ r ∈ X.pn, r.1 ≠ q.1) → ext.map (·.1) = G.xa → G.g < s.gens.size → (∀ q ∈ X.pn, X.env.locals ≤ q.1) → X.env.locals < sw.heap.objs.size → m = D.c.n → GK false G X [] D Ex s c fs K →
  (∀ e s', X.xe e s' → Sgm (model G.prog G.w) G.A (Fut G D.c m 0 Ex sw X.H_0 ext) c (J e) fs s') → t D 0 X.H_0 σ H → Sgm (model G.prog G.w) G.A (Fut G D.c m 0 Ex sw X.H_0 ext) c ((execs body X.env).wrap K J gd lv) fs s
section
variable {kp : Bool} {X : Cx} {st : Stmt} {rest : List Stmt}
theorem Inv.atW {pins : List (Addr × Obj)} {σ : L2.St} {H : Hp} {s sw : Shared} (e : X.s_0 = cutS X.env.locals sw) (I : Inv X pins σ H s) : Inv (cxW X sw X.H_0) pins σ H s := by
 have J : Inv { X with xe := noX } pins σ H s := Inv.x0 I
 show Inv { X with s_0 := cutS X.env.locals sw, H_0 := X.H_0, xe := noX } pins σ H s
 rw [← e]
 exact J
theorem gf_of' {t : TGn} (b : GSs false X rest t) : GF X rest t :=
 ⟨fun G m Ex sw ext c fs K J gd lv s σ H D F g e I ap sa gl lo lt hm k _ ht => b.run G [] m 0 Ex sw X.H_0 ext c fs K J gd lv s σ H D F g ⟨hm, lt, fun q hq => lo q (by rw [List.append_nil] at hq; exact hq), gl, fun q hq r hr => ap q hq r (by rw [List.append_nil] at hr; exact hr), sa, Inv.atW e I⟩ k ht⟩
theorem gf_cons {t : TS} {u : TGn} (a : PS X st t) (b : GF X rest u) : GF X (st :: rest) (tGThen (tPlain t) u) := by
 refine ⟨fun G m Ex sw ext c fs K J gd lv s σ H D F g e I ap sa gl lo lt hm k kx ht => ?_⟩
 rw [execs_cons_wrap]
 refine sg_wrap ?_
 rw [g.over, ← F.prog, ← F.w]
 refine wpAny_gsz (n := G.g + 1) gl (wpAny_mono (a.run ext s σ H _ I ht) (fun f s1 q hz => ?_) fun x s1 hx _ => ?_)
 ·rw [F.prog, F.w]
  have at_ : ∀ {σ' H'}, Inv X ext σ' H' s1 → At G X D.c [] m 0 sw X.H_0 ext σ' H' s1 := fun I' => ⟨hm, lt, fun q hq => lo q (by rw [List.append_nil] at hq; exact hq), hz, fun q hq r hr => ap q hq r (by rw [List.append_nil] at hr; exact hr), sa, Inv.atW e I'⟩
  cases f with
  | next =>
   obtain ⟨σ', H', I', q⟩ := q
   exact b.run G m Ex sw ext c fs K J gd lv s1 σ' H' D F g e I' ap sa hz lo lt hm (fun m' j' E' sw' Hw' ext' f s' q he _ => k m' j' E' sw' Hw' ext' f s' q he fun z => by cases z) kx q
  | brk => obtain ⟨σ', H', I', q⟩ := q; exact k m 0 Ex sw X.H_0 ext .brk s1 ⟨σ', H', at_ I', q⟩ (.inl rfl) fun z => by cases z
  | cont => obtain ⟨σ', H', I', q⟩ := q; exact k m 0 Ex sw X.H_0 ext .cont s1 ⟨σ', H', at_ I', q⟩ (.inl rfl) fun z => by cases z
  | ret u => obtain ⟨v, σ', H', I', r, q⟩ := q; exact k m 0 Ex sw X.H_0 ext (.ret u) s1 ⟨v, σ', H', at_ I', r, q⟩ (.inl rfl) fun z => by cases z
 ·rw [F.prog, F.w]
  exact kx x s1 hx
end
abbrev SpGx := List V → Hp → GCt → XK → Prop
abbrev gdOf (P : Program) (w : World) (K : PySem.W.Frag) (mg : Str → Option Value) (base : Heap) (A : Around) (outer : List Env) (L : Addr) (g : Nat) (own : Addr × Obj) (xa : List Addr) : GD := ⟨P, w, K, mg, base, A, outer, L, g, own, xa⟩
def Born (P : Program) (w : World) (K : PySem.W.Frag) (mg : Str → Option Value) (base : Heap) (k : Nat) (outer : List Env) (H : Hp) (s : Shared) (C : GCt) (E : XK) (u : Value) (s' : Shared) : Prop :=
 ∃ (a : Addr) (g : Nat) (c : Code) (go : Obj), u = .ref a ∧ g = s.gens.size ∧ s.heap.objs.size ≤ a ∧ s'.heap.get? a = some go ∧ (∀ h : Heap, h.get? a = some go → h.IsGen a g) ∧ (∀ v, go.data ≠ .cell v) ∧ s'.gens[g]? = some (.fresh c) ∧ s'.os = s.os ∧ AllBare s'.gens ∧ s'.heap.NoLimit ∧
  (∀ b o, s.heap.get? b = some o → s'.heap.get? b = some o) ∧
  ∀ (Aw : Around) (s2 : Shared) (ext : List (Addr × Obj)), (∀ q ∈ ext, s2.heap.get? q.1 = some q.2 ∧ H q.1 = none ∧ s'.heap.objs.size ≤ q.1 ∧ ∀ u, q.2.data ≠ .cell u) → Room k Aw → Aw.frames = some outer → (∀ b o, s'.heap.get? b = some o → s2.heap.get? b = some o) → s2.os = s.os → AllBare s2.gens → g < s2.gens.size →
   Sgm (model P w) Aw (Fut (gdOf P w K mg base Aw outer s.heap.objs.size g (a, go) (ext.map (·.1))) C C.n 0 (fun e s1 => CX P w outer H s E e s1 ∧ s1.heap.get? a = some go) s2 H ext) c ((model P w).den c) [] s2
structure GFx (P : Program) (w : World) (K : PySem.W.Frag) (mg : Str → Option Value) (base : Heap) (k : Nat) (f : Addr) (fd : FuncData) (ps : List Str) (sp : SpGx) : Prop where
 len : ∀ vs H C E, sp vs H C E → vs.length = ps.length
 run : ∀ (A : Around) (outer : List Env) (s : Shared) (H : Hp) (args : Args) (us : List Value) (vs : List V) (C : GCt) (E : XK), Room k A → Env0 P w K mg base A outer s H → BindsTo s fd args (ps.zip us) → Vals vs us → sp vs H C E →
  codeAny (model P w) A (.call (.ref f) args) (fun r s' => match r with | .ok (.ret u) => Born P w K mg base k outer H s C E u s' | _ => False) s
theorem sg_func {prog : Program} {w : World} {A : Around} {Φ : End → Shared → Prop} {fs : List Frame} {s : Shared} {env : Env} {body : List Stmt}
  (h : Sgm (model prog w) A Φ (.func body env) ((execs body env).wrap (fun f => .pure (.done (.ret (match f with | .ret v => v | _ => .none)))) (fun e => (leaving env e).wrap (fun _ => .raise e) .raise id id) id id) fs s) :
  Sgm (model prog w) A Φ (.func body env) ((model prog w).den (.func body env)) fs s := by
 refine sg_point (k := fun _ => ((execs body env).onRaise (leaving env)) >>= _) ?_
 rw [Sem.onRaise_eq_wrap, Sem.bind_eq_wrap', Sem.wrap_wrap, Sem.wrap_congr (execs body env) _ _ (K' := fun f => .pure (.done (.ret (match f with | .ret v => v | _ => .none)))) (H' := fun e => (leaving env e).wrap (fun _ => .raise e) .raise id id) (fun f => by cases f <;> rfl)
  (fun e => by rw [Sem.bind_eq_wrap, Sem.wrap_wrap]; rfl)]
 exact h
theorem cx_old {P : Program} {w : World} {outer : List Env} {H : Hp} {s s0 : Shared} {E : XK} {e : Value} {s1 : Shared} (old : ∀ b o, s.heap.get? b = some o → s0.heap.get? b = some o) (os : s0.os = s.os) (h : CX P w outer H s0 E e s1) : CX P w outer H s E e s1 := by
 obtain ⟨a, B, H', cls, d, z1, fl, hok, u, z2, z3, z4, z5⟩ := h
 exact ⟨a, B, H', cls, d, z1, fl, hok, ⟨fun b o q => u.keep b o (old b o q), fun b o q => u.slot b o (old b o q), fun b o q => u.free b o (old b o q), fun b o q => u.there b o (old b o q), u.tups, u.frzs, u.tbls⟩, z2, z3.trans os, z4, z5⟩
theorem gfx_of {P : Program} {w : World} {K : PySem.W.Frag} {mg : Str → Option Value} {base : Heap} {k : Nat} {f : Addr} {name qual : Str} {params : Arguments} {body : List Stmt} {scope : Scope} {dV kV doc pm cdv ct oc : Value} {an od : Option Addr}
  {osl : Array (Option Value)} {N ps : List Str} {sp : SpGx} (lk : K.lookup f = some ⟨oc, od, .func (PySem.W.fnOf name qual params body scope dV kV doc pm an cdv ct), osl⟩) (hcd : PySem.W.codeIn K cdv qual = true) (S : GScope N ps scope) (nc : cellsFrom 0 scope.names [] = [] ∧ ∀ x, scope.names.lookup x ≠ some .cell)
  (ncs : ∀ n, cellsFrom n scope.names [] = []) (len : ∀ vs H C E, sp vs H C E → vs.length = ps.length)
  (hbody : ∀ (A : Around) (outer : List Env) (s : Shared) (H : Hp) (vs : List V) (C : GCt) (E : XK) (pn : List (Addr × Obj)), Room k (A.deeper (envOfC qual scope s.heap.objs.size f cdv)) → sp vs H C E →
   ∃ t, GF (gcxOf P w K mg base N qual scope f cdv A outer s H E pn) body t ∧ t { c := C, nx := fun j Hw _ H' => j = C.n ∧ C.fin Hw H', rt := fun j Hw v H' => v = .non ∧ j = C.n ∧ C.fin Hw H' } 0 H (start N vs) H) :
  GFx P w K mg base (k + 1) f (PySem.W.fnOf name qual params body scope dV kV doc pm an cdv ct) ps sp := by
 refine ⟨len, fun A outer s H args us vs C E hr e0 hb r hsp => ?_⟩
 have kin : K.In s.heap := e0.mod.kin.keeps fun b o e => (e0.bs b o e).1
 have nolim : s.heap.NoLimit := e0.mod.nolimit.keeps fun b o e => (e0.bs b o e).1
 have kinds : ∀ y ∈ ps.zip us, scope.names.lookup y.1 = some .local ∨ (scope.names.lookup y.1 = some .cell ∧ ((cellsFrom (s.heap.objs.size + 1) scope.names []).lookup y.1).isSome = true) := fun y hy => by
  rcases S.par y.1 (List.of_mem_zip (show (y.1, y.2) ∈ _ from hy)).1 with q | q
  ·exact .inl q
  ·exact absurd q (nc.2 _)
 refine codeAny_call_generator hr.depth (kin _ _ lk) rfl S.co S.gen rfl (PySem.W.codeRec_of kin hcd) (hb _ _ _ _ (wpAny_newFunctionEnv_cells S.kind kinds fun env he s1 x => ?_))
 subst he
 have nolim1 : s1.heap.NoLimit := nolim.keeps x.toInCall.keep
 obtain ⟨h1, tk, es1, _⟩ := x.done
 have os1 : s1.os = s.os := by rw [es1]
 have gen1 : s1.gens = s.gens := by rw [es1]
 have lt1 : s.heap.objs.size < s1.heap.objs.size := x.toInCall.ns.lt
 have old1 : ∀ b o, s.heap.get? b = some o → s1.heap.get? b = some o := x.toInCall.keep
 have main : ∀ (go : Obj) (nm qn : Value) (tk2 : Nat), go.cls = .type "generator" → go.data = .fields #[.int s1.gens.size 0, nm, qn] → go.slots = #[] → (∀ h : Heap, (h.push go).get? h.objs.size = some go) →
   Born P w K mg base (k + 1) outer H s C E (.ref s1.heap.objs.size) { s1 with gens := s1.gens.push (.fresh (.func body (envOfC qual scope s.heap.objs.size f cdv))), toks := tk2, heap := s1.heap.push go } := by
  intro go nm qn tk2 hc hd hsl hp
  have isg : ∀ h : Heap, h.get? s1.heap.objs.size = some go → h.IsGen s1.heap.objs.size s1.gens.size := fun h e => ⟨go, nm, qn, e, hc, hd, hsl⟩
  have ncell : ∀ v, go.data ≠ .cell v := fun v q => by rw [hd] at q; cases q
  refine ⟨_, s1.gens.size, _, go, rfl, by rw [gen1], Nat.le_of_lt lt1, hp _, isg, ncell, Array.getElem?_push_size .., os1, AllBare.push (by rw [gen1]; exact e0.bare) rfl, nolim1.keeps fun b o e => Heap.get?_push_of_some _ e, fun b o e => Heap.get?_push_of_some _ (old1 b o e), ?_⟩
  intro Aw s2 ext hext hrw hfr old2 os2 bare2 gl2
  have agx : ∀ q ∈ ext, s1.heap.objs.size < q.1 := fun q hq => by
   have h : (s1.heap.push go).objs.size ≤ q.1 := (hext q hq).2.2.1
   rw [Heap.size_push] at h
   exact h
  have old12 : ∀ b o, s1.heap.get? b = some o → s2.heap.get? b = some o := fun b o e => old2 b o (Heap.get?_push_of_some _ e)
  have old02 : ∀ b o, s.heap.get? b = some o → s2.heap.get? b = some o := fun b o e => old12 b o (old1 b o e)
  have goS2 : s2.heap.get? s1.heap.objs.size = some go := old2 _ go (hp _)
  have L2lt : s.heap.objs.size < s2.heap.objs.size := Nat.lt_trans lt1 (Heap.lt_size goS2)
  have hsz : (cutS s.heap.objs.size s2).heap.objs.size = s.heap.objs.size := cutH_size (Nat.le_of_lt L2lt)
  have e1 : Env0 P w K mg base Aw outer s H := ⟨hfr, e0.mod, e0.bs, e0.bsz, e0.funs, e0.frf, e0.hok, e0.bare⟩
  have I1 : Inv (gcxOf P w K mg base N qual scope f cdv Aw outer s H E []) [] (start N vs) H s1 := inv_startG S hrw.hd e1 (len _ _ _ _ hsp) r x
  have I2 : Inv (gcxOf P w K mg base N qual scope f cdv Aw outer s H E []) [] (start N vs) H s2 := I1.call' (ch := []) (os2.trans os1.symm) (Un.kept old12) (I1.hok.kept old12) bare2 fun b z => by simp at z
  have noH : H s1.heap.objs.size = none := I1.hok.fresh (Nat.le_refl _)
  have I3 : Inv (gcxOf P w K mg base N qual scope f cdv Aw outer s H E [(s1.heap.objs.size, go)]) ([] ++ ext) (start N vs) H s2 := Inv.pinnedG I2 fun q hq => by
   rcases List.mem_append.mp hq with hq | hq
   ·rw [List.mem_singleton.mp hq]
    exact ⟨goS2, noH, Nat.ne_of_gt lt1, I1.nofs (Nat.le_refl _), ncell⟩
   ·obtain ⟨z1, z2, _, z4⟩ := hext q hq
    exact ⟨z1, z2, Nat.ne_of_gt (Nat.lt_trans lt1 (agx q hq)), I1.nofs (Nat.le_of_lt (agx q hq)), z4⟩
  have e2 : Env0 P w K mg base Aw outer s2 H := ⟨hfr, e0.mod, fun b o e => ⟨old02 b o (e0.bs b o e).1, (e0.bs b o e).2⟩, Nat.le_trans e0.bsz (Nat.le_of_lt L2lt), I2.funs, e0.frf, I2.hok, bare2⟩
  obtain ⟨m0, ⟨oL, es, ep, hoL, hdL, hrL⟩, _⟩ := id I3.loc
  obtain ⟨t, ht, hq⟩ := hbody Aw outer (cutS s.heap.objs.size s2) H vs C E [(s1.heap.objs.size, go)] (hrw.deeper _) hsp
  have ecx : gcxOf P w K mg base N qual scope f cdv Aw outer (cutS s.heap.objs.size s2) H E [(s1.heap.objs.size, go)] =
    { gcxOf P w K mg base N qual scope f cdv Aw outer s H E [(s1.heap.objs.size, go)] with s_0 := cutS s.heap.objs.size s2, H_0 := H, xe := (gcxOf P w K mg base N qual scope f cdv Aw outer (cutS s.heap.objs.size s2) H E [(s1.heap.objs.size, go)]).xe } := by
   simp only [gcxOf, cxOf, hsz]
  have I4 := (rebase (A' := Aw) (xe := (gcxOf P w K mg base N qual scope f cdv Aw outer (cutS s.heap.objs.size s2) H E [(s1.heap.objs.size, go)]).xe) (ncs _) I3 hoL e2 ⟨hoL, I3.free⟩ (fun q hq => by
   have hq : q ∈ [(s1.heap.objs.size, go)] ++ ([] ++ ext) := List.mem_append_left _ (by rw [List.append_nil] at hq; exact hq)
   exact ⟨(I3.pin q hq).1, (I3.pin q hq).2.1⟩) rfl rfl (fun q hq => ⟨(hext q hq).1, (hext q hq).2.1, (hext q hq).2.2.2⟩)).1
  have I5 : Inv (gcxOf P w K mg base N qual scope f cdv Aw outer (cutS s.heap.objs.size s2) H E [(s1.heap.objs.size, go)]) ext (start N vs) H s2 := by rw [ecx]; exact I4
  have eL : (gcxOf P w K mg base N qual scope f cdv Aw outer (cutS s.heap.objs.size s2) H E [(s1.heap.objs.size, go)]).env.locals = s.heap.objs.size := hsz
  have eenv : (gcxOf P w K mg base N qual scope f cdv Aw outer (cutS s.heap.objs.size s2) H E [(s1.heap.objs.size, go)]).env = envOfC qual scope s.heap.objs.size f cdv := by
   show envOfC qual scope (cutS s.heap.objs.size s2).heap.objs.size f cdv = _
   rw [hsz]
  refine sg_func ?_
  have run := ht.run (gdOf P w K mg base Aw outer s.heap.objs.size s1.gens.size (s1.heap.objs.size, go) (ext.map (·.1))) C.n (fun e s1' => CX P w outer H s E e s1' ∧ s1'.heap.get? s1.heap.objs.size = some go) s2 ext (.func body (envOfC qual scope s.heap.objs.size f cdv)) [] (fun f => .pure (.done (.ret (match f with | .ret v => v | _ => .none))))
   (fun e => (leaving (envOfC qual scope s.heap.objs.size f cdv) e).wrap (fun _ => .raise e) .raise id id) id id s2 (start N vs) H { c := C, nx := fun j Hw _ H' => j = C.n ∧ C.fin Hw H', rt := fun j Hw v H' => v = .non ∧ j = C.n ∧ C.fin Hw H' }
   ⟨rfl, rfl, rfl, rfl, rfl, rfl, eL, rfl, ncs _, fun y => ⟨nc.2 y, fun z => S.nofree _ (PySem.mem_of_lookup z) rfl⟩, rfl, List.mem_cons_self⟩
   ⟨by
    show Aw.over (.func body (envOfC qual scope s.heap.objs.size f cdv)) [] = Aw.deeper (envOfC qual scope (cutS s.heap.objs.size s2).heap.objs.size f cdv)
    rw [hsz]; exact over_func, rfl, rfl, rfl⟩ (by rw [eL]; rfl) I5 (fun q hq r hr => by rw [List.mem_singleton.mp hr]; exact Nat.ne_of_lt (agx q hq)) rfl gl2 (fun q hq => by rw [eL]; rw [List.mem_singleton.mp hq]; exact Nat.le_of_lt lt1) (by rw [eL]; exact L2lt) rfl
   (fun m j Ex' sw Hw ext3 fl s3 hs he _ => ?_) (fun e s3 hx => ?_) hq
  ·rw [eenv] at run
   exact run
  ·have ran : ∀ {σ' H'}, At (gdOf P w K mg base Aw outer s.heap.objs.size s1.gens.size (s1.heap.objs.size, go) (ext.map (·.1))) (gcxOf P w K mg base N qual scope f cdv Aw outer (cutS s.heap.objs.size s2) H E [(s1.heap.objs.size, go)]) C [] m j sw Hw ext3 σ' H' s3 → Ran P w (frs outer) s.heap.objs.size sw Hw ext3 s3 H' := fun {σ' H'} a => by
    have b := a.inv.base
    refine ⟨a.inv.os, a.inv.bare, ?_, a.inv.hok, fun q hq => ⟨(a.inv.pin q (List.mem_append_right _ hq)).1, (a.inv.pin q (List.mem_append_right _ hq)).2.1⟩⟩
    have b : Un (frs outer) [] Hw H' (cutH (gcxOf P w K mg base N qual scope f cdv Aw outer (cutS s.heap.objs.size s2) H E [(s1.heap.objs.size, go)]).env.locals sw.heap) s3.heap := b
    rw [eL] at b
    exact b
   cases fl with
   | next =>
    obtain ⟨σ', H', a, h1, h2⟩ := hs
    exact sg_end (.ok (.ret .none)) (fut_ok.mpr ⟨.inl rfl, h1, H', ran a, h2⟩)
   | brk => obtain ⟨_, _, _, q⟩ := hs; exact q.elim
   | cont => obtain ⟨_, _, _, q⟩ := hs; exact q.elim
   | ret u =>
    obtain ⟨v, σ', H', a, rv, ev, h1, h2⟩ := hs
    subst ev
    have eu : u = Value.none := rv
    subst eu
    exact sg_end (.ok (.ret .none)) (fut_ok.mpr ⟨.inl rfl, h1, H', ran a, h2⟩)
  ·refine sg_wrap ?_
   have hx : wpAny (model P w) (Aw.deeper (envOfC qual scope (cutS s.heap.objs.size s2).heap.objs.size f cdv)) (leaving (envOfC qual scope (cutS s.heap.objs.size s2).heap.objs.size f cdv) e) (fun _ s'' => CX P w outer H (cutS s.heap.objs.size s2) E e s'' ∧ ∀ p ∈ [(s1.heap.objs.size, go)], s''.heap.get? p.1 = some p.2) (fun _ _ => False) s3 := hx
   rw [hsz] at hx
   rw [show (gdOf P w K mg base Aw outer s.heap.objs.size s1.gens.size (s1.heap.objs.size, go) (ext.map (·.1))).A.over (.func body (envOfC qual scope s.heap.objs.size f cdv)) [] = Aw.deeper (envOfC qual scope s.heap.objs.size f cdv) from over_func]
   refine wpAny_mono hx (fun _ s4 ⟨q1, q2⟩ => ?_) fun _ _ q => q.elim
   exact sg_end (.error e) (fut_err.mpr ⟨cx_old (s0 := cutS s.heap.objs.size s2) (fun b o z => (cutH_get (Heap.lt_size z)).trans (old02 b o z)) os2 q1, q2 _ List.mem_cons_self⟩)
 exact ⟨nolim1, main _ _ _ _ rfl rfl rfl fun h => Heap.get?_push_size _ rfl⟩
abbrev TGc := L2.St → Hp → (GCt → Hp → Prop) → Prop
structure PGn (X : Cx) (k : Nat) (e : Expr) (tg : TGc) (E : XK) : Prop where
 run : ∀ (pins : List (Addr × Obj)) (s : Shared) (σ : L2.St) (H : Hp) (R : GCt → Hp → Prop), Inv X pins σ H s → tg σ H R →
  wpAny (model X.prog X.w) X.A (eval e X.env) (fun u s' => ∃ H1 sc C, Inv X pins σ H1 sc ∧ s.gens.size ≤ sc.gens.size ∧ Born X.prog X.w X.K X.mg X.base k X.stack H1 sc C E u s' ∧ R C H1) X.xe s
section
variable {X : Cx} {k : Nat} {f cc : Addr} {fd : FuncData} {ps ks : List Str} {sp : SpGx} {dvs : List V} {ds : List Value} {x m : Str} {p pos apos : Pos} {e o : Expr} {es : List Expr} {kws : List Keyword} {ta : TE} {t tk : TA} {E : XK}
theorem run_gfx {pins : List (Addr × Obj)} {σ : L2.St} {H : Hp} {s : Shared} {us : List Value} {vs : List V} {C : GCt} {R : GCt → Hp → Prop} {E1 : Value → Shared → Prop} (F : GFx X.prog X.w X.K X.mg X.base k f fd ps sp) (hr : Room k X.A) (hb : Binds X.K fd ps ds) (hd : Vals dvs ds)
  (I : Inv X pins σ H s) (r : Vals vs us) (h : sp (vs ++ dvs) H C E) (hR : R C H) {n : Nat} (hn : n ≤ s.gens.size) :
  wpAny (model X.prog X.w) X.A (call (.ref f) us) (fun u s' => ∃ H1 sc C, Inv X pins σ H1 sc ∧ n ≤ sc.gens.size ∧ Born X.prog X.w X.K X.mg X.base k X.stack H1 sc C E u s' ∧ R C H1) E1 s := by
 have r2 : Vals (vs ++ dvs) (us ++ ds) := r.append hd
 have hl2 : (us ++ ds).length = ps.length := by rw [← r2.length]; exact F.len _ _ _ _ h
 refine wpAny_call (codeAny_mono (F.run X.A X.stack s H ⟨us, []⟩ (us ++ ds) (vs ++ dvs) C E hr I.env0 (hb s us I.kIn hl2) r2 h) fun r s' q => ?_)
 match r, q with
 | .ok (.ret u), q => exact ⟨H, s, C, I, hn, q, hR⟩
def tMethGx (cc : Addr) (m : Str) (sp : SpGx) (dvs : List V) (E : XK) (ta : TE) (t : TA) : TGc := fun σ H R => ta σ H fun x H1 => ∃ a dx fs, x = .ref a ∧ H1 a = some (.ins cc dx fs) ∧ fs.lookup m = none ∧ t σ H1 fun vs H2 => ∃ C, sp (x :: (vs ++ dvs)) H2 C E ∧ R C H2
theorem pgn_meth {pl : Sem Bool} (he : PE X o ta) (c : Cls X.K cc) (hm : Meth X.K cc m f) (F : GFx X.prog X.w X.K X.mg X.base k f fd ps sp) (hr : Room k X.A) (hb : Binds X.K fd ps ds) (hd : Vals dvs ds) (ha : PA X (e :: es) t)
  (hst : starEach (e :: es) X.env = (false, eval e X.env) :: starEach es X.env := by rfl) (hpl : (backTo pos (starEach es X.env)).any (·.1) = false := by rfl)
  (ht : eval (.Call (.Attribute o m apos) (e :: es) [] pos) X.env = (do let ov ← eval o X.env; standAt apos.atName; let (f, first) ← holding [ov] (getMethod ov m pl); callWith pos f first (backTo pos (starEach (e :: es) X.env)) (backToKw pos (keywordEach [] X.env))) := by rfl) :
  PGn X k (.Call (.Attribute o m apos) (e :: es) [] pos) (tMethGx cc m sp dvs E ta t) E := by
 refine ⟨fun pins s σ H R I h => PySem.W.methodCall_KW (pl := pl) (wpAny_gsz (Nat.le_refl _) (wpAny_mono (he.run pins s σ H _ I h) (fun u s1 ⟨x, H1, I1, rx, a, dx, fs, ex, ea, l, q⟩ hn => ?_) fun _ _ z _ => z)) ht⟩
 subst ex
 obtain rfl : u = Value.ref a := rx
 refine getmeth_ok I1 ea c hm l (PySem.W.callWith_K (first := [.ref a]) (h₀ := X.base) I.ok.mod.kin hm.kp (wpAny_gsz hn (wpAny_mono (ha.run pos pins s1 σ H1 _ I1 q) (fun us s2 ⟨vs, H2, I2, r, C, q2, z⟩ hn => ⟨I2.kIn, ?_⟩) fun _ _ z _ => z)) hst hpl)
 exact run_gfx (us := .ref a :: us) (vs := .ref a :: vs) F hr hb hd I2 (.cons rfl r) q2 z hn
end
section
variable {X : Cx} {pins : List (Addr × Obj)} {σ : L2.St}
theorem Inv.ran {H H1 : Hp} {s s1 : Shared} {L : Addr} (I : Inv X pins σ H s) {ext : List (Addr × Obj)} (r : Ran X.prog X.w (frs X.stack) L s H ext s1 H1) (h1 : ∀ q ∈ X.pn ++ pins, q.1 < L) (h2 : X.env.locals < L) (h3 : ∀ x c, X.env.cells.lookup x = some c → c < L) (h4 : X.s_0.heap.objs.size ≤ L) : Inv X pins σ H1 s1 := by
 have nx : ∀ {b ob}, s.heap.get? b = some ob → b ∉ (List.range s.heap.objs.size).filter (fun b => decide (L ≤ b)) → b < L := fun {b ob} e z => by
  rcases Nat.lt_or_ge b L with l | g
  ·exact l
  ·exact absurd (List.mem_filter.mpr ⟨List.mem_range.mpr (Heap.lt_size e), by simpa using g⟩) z
 have cut : ∀ {b ob}, s.heap.get? b = some ob → b < L → (cutH L s.heap).get? b = some ob := fun e l => (cutH_get l).trans e
 refine I.call' (ch := (List.range s.heap.objs.size).filter fun b => decide (L ≤ b)) r.os ⟨fun b ob e n hb z => r.un.keep b ob (cut e (nx e z)) n hb (by simp), fun b ob e n hb z => r.un.slot b ob (cut e (nx e z)) n hb (by simp), fun b ob e n z => r.un.free b ob (cut e (nx e z)) n (by simp),
  fun b ob e z => r.un.there b ob (cut e (nx e z)) (by simp), r.un.tups, r.un.frzs, r.un.tbls⟩ r.hok r.bare fun b hb => ?_
 have g : L ≤ b := by simpa using (List.mem_filter.mp hb).2
 exact ⟨.inr (Nat.le_trans h4 g), Nat.ne_of_gt (Nat.lt_of_lt_of_le h2 g), fun x c e => Nat.ne_of_lt (Nat.lt_of_lt_of_le (h3 x c e) g), fun q hq => Nat.ne_of_lt (Nat.lt_of_lt_of_le (h1 q hq) g)⟩
end
structure PcG (P : Program) (w : World) (K : PySem.W.Frag) (mg : Str → Option Value) (base : Heap) (k g : Nat) (A : Around) (outer : List Env) (L : Addr) (H0 : Hp) (sc : Shared) (E : XK) (X : Cx) (pins : List (Addr × Obj)) : Prop where
 ep : X.prog = P
 ew : X.w = w
 eK : X.K = K
 em : X.mg = mg
 eb : X.base = base
 eA : X.A = A
 es : X.stack = outer
 room : Room k X.A.in1
 below : ∀ q ∈ X.pn ++ pins, q.1 < L
 loc : X.env.locals < L
 cells : ∀ x c, X.env.cells.lookup x = some c → c < L
 fs : ∀ b ∈ X.fs, b < L
 s0 : X.s_0.heap.objs.size ≤ L
 exc : ∀ e s1, CX P w outer H0 sc E e s1 → NotStop (model P w) e s1.heap ∧ X.xe e (s1.setGen g .finished)
def tn0 (P : Program) (w : World) (K : PySem.W.Frag) (mg : Str → Option Value) (base : Heap) (A : Around) (outer : List Env) (C : GCt) (E : XK) (a : Addr) (g : Nat) (go : Obj) (H0 : Hp) (sc : Shared) (H : Hp) (s : Shared) : Prop :=
 H = H0 ∧ s.heap.get? a = some go ∧ ∃ c, s.gens[g]? = some (.fresh c) ∧
  Sgm (model P w) A.in1 (Fut (gdOf P w K mg base A.in1 outer sc.heap.objs.size g (a, go) []) C C.n 0 (fun e s1 => CX P w outer H0 sc E e s1 ∧ s1.heap.get? a = some go) (s.setGen g .running) H0 []) c ((model P w).den c) [] (s.setGen g .running)
def tn1 (P : Program) (w : World) (K : PySem.W.Frag) (mg : Str → Option Value) (base : Heap) (A : Around) (outer : List Env) (C : GCt) (L : Addr) (a : Addr) (g : Nat) (go : Obj) (j : Nat) (fp : List Addr) (H1 : Hp) (s0 : Shared) : Prop :=
 ∃ (priv : List (Addr × Obj)) (gs : GenState) (m : Nat), m + j = C.n ∧ s0.gens[g]? = some gs ∧ Susp gs ∧ (a, go) ∈ priv ∧ fp = priv.map (·.1) ∧ (∀ q ∈ priv, s0.heap.get? q.1 = some q.2 ∧ L ≤ q.1 ∧ ∀ u, q.2.data ≠ .cell u) ∧
  ∀ s2 H2, Env0 P w K mg base A.in1 outer s2 H2 → (∀ q ∈ priv, s2.heap.get? q.1 = some q.2 ∧ H2 q.1 = none) → (∀ (i : Nat) (x : GenState), g < i → s0.gens[i]? = some x → Susp x → s2.gens[i]? = some x) → C.rely H1 H2 → g < s2.gens.size →
   WakesTo (model P w) A.in1 (Fut (gdOf P w K mg base A.in1 outer L g (a, go) []) C m j noX s2 H2 []) s2 gs
def itC (C : GCt) : GIt := ⟨fun j _ => j < C.n, C.yld, fun j H H' => j = C.n ∧ C.fin H H', C.rely⟩
section
variable {P : Program} {w : World} {K : PySem.W.Frag} {mg : Str → Option Value} {base : Heap} {k : Nat} {A : Around} {outer : List Env} {C : GCt} {E : XK} {a : Addr} {g : Nat} {go : Obj} {H0 : Hp} {sc : Shared}
def tnG (P : Program) (w : World) (K : PySem.W.Frag) (mg : Str → Option Value) (base : Heap) (A : Around) (outer : List Env) (C : GCt) (E : XK) (a : Addr) (g : Nat) (go : Obj) (H0 : Hp) (sc : Shared) : Nat → List Addr → Hp → Shared → Prop
 | 0, fp, H, s => fp = [a] ∧ tn0 P w K mg base A outer C E a g go H0 sc H s
 | j + 1, fp, H, s => ∃ H1 s0, tn1 P w K mg base A outer C sc.heap.objs.size a g go (j + 1) fp H1 s0 ∧ C.rely H1 H ∧ Still fp g s0 s ∧ ∀ b ∈ fp, H b = none
def ynG (P : Program) (w : World) (K : PySem.W.Frag) (mg : Str → Option Value) (base : Heap) (A : Around) (outer : List Env) (C : GCt) (a : Addr) (g : Nat) (go : Obj) (sc : Shared) : Nat → List Addr → Hp → Shared → Prop
 | 0, _, _, _ => False
 | j + 1, fp, H, s => tn1 P w K mg base A outer C sc.heap.objs.size a g go (j + 1) fp H s
theorem quiet_bare {e : End} (h : e.quiet = true) : e.genState.bare = true := End.bare_of_quiet h
theorem setGen_ne {s : Shared} {g i : Nat} {x : GenState} (h : g ≠ i) : (s.setGen g x).gens[i]? = s.gens[i]? := by
 show (s.gens.setIfInBounds g x)[i]? = _
 exact Array.getElem?_setIfInBounds_ne h
theorem wake_item {X : Cx} {pins : List (Addr × Obj)} {σ : L2.St} {s s1 : Shared} {H : Hp} {i m : Nat} {Ex : Value → Shared → Prop} {tg : Expr} (isg : ∀ h : Heap, h.get? a = some go → h.IsGen a g) (pc : PcG P w K mg base k g A outer sc.heap.objs.size H0 sc E X pins) (I : Inv X pins σ H s) (hi : i < C.n)
  (hx : ∀ e s1, Ex e s1 → s1.heap.IsGen a g ∧ NotStop (model P w) e s1.heap ∧ X.xe e (s1.setGen g .finished)) {e : End} (F : Fut (gdOf P w K mg base A.in1 outer sc.heap.objs.size g (a, go) []) C m i Ex (s.setGen g .running) H [] e s1) (hm : m + i = C.n) :
  Rose P w g a (fun r s1 => g + 1 ≤ s1.gens.size → ∃ u, r = some u ∧ wpAny (model P w) X.A (letOwnedTupleGo tg (.ref a) u) (fun _ s2 => ∃ x H' fp', Inv X pins σ H' s2 ∧ RelV x u ∧ C.yld i H x H' ∧ ynG P w K mg base A outer C a g go sc (i + 1) fp' H' s2 ∧ ∀ b ∈ fp', FpOk X pins H' b) X.xe s1) (fun e s1 => g + 1 ≤ s1.gens.size → X.xe e s1) e s1 := by
 cases e with
 | ret r =>
  cases r with
  | ok f =>
   obtain ⟨_, h, _⟩ := fut_ok.mp F
   exact absurd h (Nat.ne_of_lt hi)
  | error e =>
   obtain ⟨z1, z2, z3⟩ := hx e s1 (fut_err.mp F)
   exact ⟨z1, z2, fun _ => z3⟩
 | susp v gd l kk c p fs =>
  cases m with
  | zero => exact F.elim
  | succ m =>
   obtain ⟨hq, _, x, H1, priv, rv, ran, hY, own, hp, next⟩ := F
   obtain ⟨z1, z2⟩ : (a, go) ∈ priv ∧ True := ⟨own, trivial⟩
   have hgo := (hp _ z1).1
   obtain ⟨o, nm, qn, ho, hc, hd, _⟩ := isg _ hgo
   have ran : Ran X.prog X.w (frs X.stack) sc.heap.objs.size s H [] s1 H1 := by rw [pc.ep, pc.ew, pc.es]; exact ⟨ran.os, ran.bare, ran.un, ran.hok, ran.ext⟩
   have I1 := Inv.ran I ran pc.below pc.loc pc.cells pc.s0
   refine ⟨hq, fun hz => ⟨v, rfl, go_of (s := s1.setGen g _) ho hc hd (by decide) ?_⟩⟩
   rw [setGen_size] at hz
   refine ⟨x, H1, priv.map (·.1), Inv.gens I1 (allBare_setGen I1.bare (quiet_bare hq)), rv, hY, ⟨priv, _, m, by omega, setGen_at hz, trivial, z1, rfl, fun q hq => ⟨(hp q hq).1, (hp q hq).2.2.1, (hp q hq).2.2.2.1⟩, fun s2 H2 e0 k0 kg rl gl => ?_⟩, fun b hb => ?_⟩
   ·exact next s2 H2 [] ⟨e0, k0, fun i x l e z => kg i x l (by rw [setGen_ne (Nat.ne_of_lt l)]; exact e) z, rl, gl, rfl, fun q hq => by cases hq⟩
   ·obtain ⟨q, hq, rfl⟩ := List.mem_map.mp hb
    obtain ⟨_, z3, z4, _⟩ := hp q hq
    have z4 : sc.heap.objs.size ≤ q.1 := z4
    exact ⟨z3, Nat.ne_of_gt (Nat.lt_of_lt_of_le pc.loc z4), fun z => absurd (pc.fs _ z) (Nat.not_lt.mpr z4), .inr (Nat.le_trans pc.s0 z4), fun x c e z => absurd (pc.cells x c e) (by rw [z]; exact Nat.not_lt.mpr z4),
     fun y hy z => absurd (pc.below y hy) (by rw [z]; exact Nat.not_lt.mpr z4)⟩
theorem wake_done {X : Cx} {pins : List (Addr × Obj)} {σ : L2.St} {s s1 : Shared} {H : Hp} {m : Nat} {Ex : Value → Shared → Prop} (pc : PcG P w K mg base k g A outer sc.heap.objs.size H0 sc E X pins) (I : Inv X pins σ H s)
  (hx : ∀ e s1, Ex e s1 → s1.heap.IsGen a g ∧ NotStop (model P w) e s1.heap ∧ X.xe e (s1.setGen g .finished)) {e : End} (F : Fut (gdOf P w K mg base A.in1 outer sc.heap.objs.size g (a, go) []) C m C.n Ex (s.setGen g .running) H [] e s1) :
  Rose P w g a (fun r s1 => r = none ∧ ∃ H', Inv X pins σ H' s1 ∧ C.n = C.n ∧ C.fin H H') X.xe e s1 := by
 cases e with
 | ret r =>
  cases r with
  | ok f =>
   obtain ⟨h1, _, H1, ran, hf⟩ := fut_ok.mp F
   have ran : Ran X.prog X.w (frs X.stack) sc.heap.objs.size s H [] s1 H1 := by rw [pc.ep, pc.ew, pc.es]; exact ⟨ran.os, ran.bare, ran.un, ran.hok, ran.ext⟩
   have I1 := Inv.ran I ran pc.below pc.loc pc.cells pc.s0
   refine ⟨h1, fun h' kp => ⟨rfl, H1, ?_, rfl, hf⟩⟩
   have I2 := Inv.gens I1 (g := (s1.setGen g .finished).gens) (allBare_setGen I1.bare rfl)
   exact I2.kept (t' := s1.toks) kp
  | error e => exact hx e s1 (fut_err.mp F)
 | susp v gd l kk c p fs =>
  cases m with
  | zero => exact F.elim
  | succ m =>
   obtain ⟨_, h, _⟩ := F
   exact absurd h (Nat.lt_irrefl _)
theorem turn_gen (tg : Expr) (isg : ∀ h : Heap, h.get? a = some go → h.IsGen a g) (ncell : ∀ v, go.data ≠ .cell v) :
  GTurn g (PcG P w K mg base k g A outer sc.heap.objs.size H0 sc E) tg (itC C) a (tnG P w K mg base A outer C E a g go H0 sc) (ynG P w K mg base A outer C a g go sc) where
 obj := fun i fp H s h b hb => by
  cases i with
  | zero => exact h.elim
  | succ i =>
   obtain ⟨priv, gs, m, _, _, _, _, rfl, hp, _⟩ := h
   obtain ⟨q, hq, rfl⟩ := List.mem_map.mp hb
   exact ⟨q.2, (hp q hq).1, (hp q hq).2.2⟩
 keep := fun i fp H H' s s' h rl st nn => ⟨H, s, h, rl, st, nn⟩
 item := fun X pins pc i fp s σ H I f st hi => by
  have hd : X.A.depth < recursionLimit := by have h : X.A.depth + 3 * k + 5 < recursionLimit := pc.room.dp; omega
  have hA : X.A.in1 = A.in1 := by rw [pc.eA]
  have go_ : ∀ (m : Nat) (Ex : Value → Shared → Prop) (gs : GenState), s.heap.get? a = some go → s.gens[g]? = some gs → WakesTo (model P w) A.in1 (Fut (gdOf P w K mg base A.in1 outer sc.heap.objs.size g (a, go) []) C m i Ex (s.setGen g .running) H []) (s.setGen g .running) gs → m + i = C.n →
    (∀ e s1, Ex e s1 → s1.heap.IsGen a g ∧ NotStop (model P w) e s1.heap ∧ X.xe e (s1.setGen g .finished)) → wpAny (model X.prog X.w) X.A (pyNext (.ref a)) (fun r s1 => ∃ u, r = some u ∧
     wpAny (model X.prog X.w) X.A (letOwnedTupleGo tg (.ref a) u) (fun _ s2 => ∃ x H' fp', Inv X pins σ H' s2 ∧ RelV x u ∧ C.yld i H x H' ∧ ynG P w K mg base A outer C a g go sc (i + 1) fp' H' s2 ∧ ∀ b ∈ fp', FpOk X pins H' b) X.xe s1) X.xe s := fun m Ex gs hgo hgs W hm hx => by
   rw [pc.ep, pc.ew]
   have lt : g < s.gens.size := (Array.getElem?_eq_some_iff.mp hgs).1
   rw [← hA] at W
   exact wpAny_gsz (n := g + 1) lt (next_sgm pc.room.hd I.nolimit hd (isg _ hgo) hgs W fun e s1 F => wake_item isg pc I hi hx (by rw [hA] at F; exact F) hm)
  cases i with
  | zero =>
   obtain ⟨_, hH, hgo, c, hgs, W⟩ := st
   subst hH
   exact go_ C.n _ _ hgo hgs W rfl fun e s1 ⟨z1, z2⟩ => ⟨isg _ z2, (pc.exc e s1 z1).1, (pc.exc e s1 z1).2⟩
  | succ i =>
   obtain ⟨H1, s0, ⟨priv, gs, m, hm, hgs0, hsu, own, rfl, hp, next⟩, rl, stl, nn⟩ := st
   have hgs := stl.gens g gs (Nat.le_refl _) hgs0 hsu
   have lt : g < s.gens.size := (Array.getElem?_eq_some_iff.mp hgs).1
   have at_ : ∀ q ∈ priv, s.heap.get? q.1 = some q.2 ∧ H q.1 = none := fun q hq => ⟨stl.heap q.1 (List.mem_map.mpr ⟨q, hq, rfl⟩) q.2 (hp q hq).1, nn q.1 (List.mem_map.mpr ⟨q, hq, rfl⟩)⟩
   have e0 : Env0 P w K mg base A.in1 outer (s.setGen g .running) H := by
    have e := I.env0.in1
    rw [pc.ep, pc.ew, pc.eK, pc.em, pc.eb, pc.es, pc.eA] at e
    exact ⟨e.frames, e.mod, e.bs, e.bsz, e.funs, e.frf, e.hok, allBare_setGen e.bare rfl⟩
   refine go_ m noX gs (at_ _ own).1 hgs (next (s.setGen g .running) H e0 at_ (fun i x l e z => ?_) rl (by rw [setGen_size]; exact lt)) hm fun _ _ z => z.elim
   rw [setGen_ne (Nat.ne_of_lt l)]
   exact stl.gens i x (Nat.le_of_lt l) e z
 done := fun X pins pc i fp s σ H H' I f st hst => by
  have hd : X.A.depth < recursionLimit := by have h : X.A.depth + 3 * k + 5 < recursionLimit := pc.room.dp; omega
  have hA : X.A.in1 = A.in1 := by rw [pc.eA]
  obtain ⟨hi, _⟩ := hst
  subst hi
  have go_ : ∀ (m : Nat) (Ex : Value → Shared → Prop) (gs : GenState), s.heap.get? a = some go → s.gens[g]? = some gs → WakesTo (model P w) A.in1 (Fut (gdOf P w K mg base A.in1 outer sc.heap.objs.size g (a, go) []) C m C.n Ex (s.setGen g .running) H []) (s.setGen g .running) gs →
    (∀ e s1, Ex e s1 → s1.heap.IsGen a g ∧ NotStop (model P w) e s1.heap ∧ X.xe e (s1.setGen g .finished)) → wpAny (model X.prog X.w) X.A (pyNext (.ref a)) (fun r s1 => r = none ∧ ∃ H', Inv X pins σ H' s1 ∧ C.n = C.n ∧ C.fin H H') X.xe s := fun m Ex gs hgo hgs W hx => by
   rw [pc.ep, pc.ew]
   rw [← hA] at W
   exact next_sgm pc.room.hd I.nolimit hd (isg _ hgo) hgs W fun e s1 F => wake_done (m := m) (Ex := Ex) pc I hx (by rw [hA] at F; exact F)
  generalize hn : C.n = n at st
  cases n with
  | zero =>
   obtain ⟨_, hH, hgo, c, hgs, W⟩ := st
   subst hH
   exact thn (go_ C.n (fun e s1 => CX P w outer H sc E e s1 ∧ s1.heap.get? a = some go) _ hgo hgs (by rw [hn] at W ⊢; exact W) fun e s1 ⟨z1, z2⟩ => ⟨isg _ z2, (pc.exc e s1 z1).1, (pc.exc e s1 z1).2⟩) fun r s1 ⟨hr, H', I', _, hf⟩ => ⟨hr, H', I', hn.symm, hf⟩
  | succ i =>
   obtain ⟨H1, s0, ⟨priv, gs, m, hm, hgs0, hsu, own, rfl, hp, next⟩, rl, stl, nn⟩ := st
   have hgs := stl.gens g gs (Nat.le_refl _) hgs0 hsu
   have lt : g < s.gens.size := (Array.getElem?_eq_some_iff.mp hgs).1
   have at_ : ∀ q ∈ priv, s.heap.get? q.1 = some q.2 ∧ H q.1 = none := fun q hq => ⟨stl.heap q.1 (List.mem_map.mpr ⟨q, hq, rfl⟩) q.2 (hp q hq).1, nn q.1 (List.mem_map.mpr ⟨q, hq, rfl⟩)⟩
   have e0 : Env0 P w K mg base A.in1 outer (s.setGen g .running) H := by
    have e := I.env0.in1
    rw [pc.ep, pc.ew, pc.eK, pc.em, pc.eb, pc.es, pc.eA] at e
    exact ⟨e.frames, e.mod, e.bs, e.bsz, e.funs, e.frf, e.hok, allBare_setGen e.bare rfl⟩
   have W := next (s.setGen g .running) H e0 at_ (fun i x l e z => by rw [setGen_ne (Nat.ne_of_lt l)]; exact stl.gens i x (Nat.le_of_lt l) e z) rl (by rw [setGen_size]; exact lt)
   exact thn (go_ m noX gs (at_ _ own).1 hgs (by rw [hn]; exact W) fun _ _ z => z.elim) fun r s1 ⟨hr, H', I', _, hf⟩ => ⟨hr, H', I', hn.symm, hf⟩
end
def tGen (tg : TGc) : TGI := fun σ H R => tg σ H fun C H1 => R (itC C) H1
section
variable {X : Cx} {k : Nat} {e : Expr} {tgt : Expr} {tg : TGc} {E : XK}
theorem pis_genA {Zc : Cx → Prop} (h : PGn X k e tg E) (hr : Room (k + 1) X.A) (hz : ∀ X', Zc X' → Alike X X')
  (hexc : ∀ X', Zc X' → ∀ pins σ H1 sc g, Inv X pins σ H1 sc → ∀ e s1, CX X.prog X.w X.stack H1 sc E e s1 → NotStop (model X.prog X.w) e s1.heap ∧ X'.xe e (s1.setGen g .finished)) : PIS Zc X tgt e (tGen tg) := by
 refine ⟨fun pins s σ H R I q => thn (h.run pins s σ H _ I q) fun v s1 ⟨H1, sc, C, I1, hn, B, hR⟩ => ?_⟩
 obtain ⟨a, g, c, go, rfl, hg, ha, hgo, isg, ncell, hgs, os, bare, nolim, old, wake⟩ := B
 have hgl : g < s1.gens.size := (Array.getElem?_eq_some_iff.mp hgs).1
 have I2 : Inv X pins σ H1 s1 := I1.call' (ch := []) os (Un.kept old) (I1.hok.kept old) bare fun b z => by simp at z
 refine wpAny_pyIter_gen (isg _ hgo) ⟨a, g, [a], _, _, _, itC C, H1, rfl, I2, by rw [hg]; exact hn, turn_gen (P := X.prog) (w := X.w) (K := X.K) (mg := X.mg) (base := X.base) (k := k) (A := X.A) (outer := X.stack) (C := C) (E := E) (H0 := H1) (sc := sc) tgt isg ncell, fun X' pins' z hp' => ?_, ⟨rfl, rfl, hgo, c, hgs, ?_⟩, fun b hb => ?_, hR⟩
 ·have ex := hexc X' z pins σ H1 sc g I1
  obtain ⟨s0, H0, e, hs⟩ := hz X' z
  subst e
  refine ⟨rfl, rfl, rfl, rfl, rfl, rfl, rfl, hr.in1, fun q hq => ?_, I1.lt, fun x c e => (I1.cell x c e).elim fun v hv => hv.lt, fun b hb => Nat.lt_of_not_le fun z => I1.nofs z hb, by rw [hs]; exact I1.sz, ex⟩
  rcases List.mem_append.mp hq with z | z
  ·exact Heap.lt_size (I1.pin q (List.mem_append_left _ z)).1
  ·have ha : q.1 ∈ pins.map (·.1) := by rw [← hp']; exact List.mem_map.mpr ⟨q, z, rfl⟩
   obtain ⟨y, hy, e⟩ := List.mem_map.mp ha
   rw [← e]
   exact Heap.lt_size (I1.pin y (List.mem_append_right _ hy)).1
 ·exact wake X.A.in1 (s1.setGen g .running) [] (fun q hq => by cases hq) hr.in1 I1.ok.frames (fun _ _ z => z) os (allBare_setGen bare rfl) (by rw [setGen_size]; exact hgl)
 ·rw [List.mem_singleton.mp hb]
  exact I1.fpOk ha (I1.hok.fresh ha)
theorem pis_gen0 {Zc : Cx → Prop} (h : PGn X k e tg (fun _ _ _ => False)) (hr : Room (k + 1) X.A) (hz : ∀ X', Zc X' → Alike X X') : PIS Zc X tgt e (tGen tg) :=
 pis_genA h hr hz fun _ _ _ _ _ _ _ _ e s1 ⟨_, _, _, _, _, _, _, _, _, _, _, _, hE⟩ => hE.elim
theorem exc_plain {pins : List (Addr × Obj)} {σ : L2.St} {H1 : Hp} {sc : Shared} {g : Nat} (hx : ∀ (pins : List (Addr × Obj)) (H : Hp) (s : Shared) (e : Value) (s' : Shared), Inv X pins σ H s → CX X.prog X.w X.stack H s E e s' → X.xe e s') (hns : NoStop X.K E) (I1 : Inv X pins σ H1 sc) (e : Value) (s1 : Shared) (hc : CX X.prog X.w X.stack H1 sc E e s1) :
  NotStop (model X.prog X.w) e s1.heap ∧ X.xe e (s1.setGen g .finished) := by
 have kin : X.K.In s1.heap := by
  obtain ⟨a, B, H', cls, d, _, fl, _, ub, _⟩ := id hc
  refine I1.ok.mod.kin.keeps fun b o eb => fl.1 b o (ub.keep b o (I1.bs b o eb).1 (I1.bs b o eb).2 fun hm => ?_)
  rcases List.mem_cons.mp (I1.stkSub b hm) with z | z
  ·have h1 := Nat.lt_of_lt_of_le (Heap.lt_size eb) (Nat.le_trans I1.ok.bsz I1.ok.above)
   rw [z] at h1
   exact absurd h1 (Nat.lt_irrefl _)
  ·exact I1.ok.nofr eb z
 refine ⟨notStop_of hns kin hc, hx pins H1 sc e _ I1 ?_⟩
 obtain ⟨a, B, H', cls, d, z1, fl, z2, ub, z3, z4, z5, z6⟩ := hc
 exact ⟨a, B, H', cls, d, z1, fl, z2, ub, z3, z4, allBare_setGen z5 rfl, z6⟩
end
section
variable {X : Cx} {pins : List (Addr × Obj)} {σ : L2.St}
theorem Inv.filled {H : Hp} {s : Shared} {S : Addr} {acc : Array Value} {c : Nat} {out : List V} (I : Inv X pins σ H s) (f : FpOk X pins H S) (hl : out.length ≤ sizeLine) (e : s.heap.get? S = some (lstObj acc c)) (r : Vals out acc.toList) : Inv X pins σ (upd H S (.lst out)) s := by
 obtain ⟨f0, f1, f2, f3, f4, f5⟩ := f
 have up : ∀ b u, H b = some u → upd H S (.lst out) b = some u := fun b u q => by rw [upd_ne (ne_of_none q f0)]; exact q
 refine I.call' (ch := [S]) rfl ⟨fun b o z _ _ _ => z, fun b o z _ _ _ => ⟨o.slots, z⟩, fun b o z n hx => ?_, fun b o z _ => ⟨o, z⟩, fun b xs z => up b _ z, fun b o u z => up b _ z, fun b ps z => ⟨#[], by rw [up b _ z]; simp⟩⟩ (fun b u z => ?_) I.bare fun b hb => ?_
 ·rw [upd_ne fun y => hx (by rw [y]; exact List.mem_singleton.mpr rfl)]; exact n
 ·by_cases hb : b = S
  ·subst hb
   rw [upd_same] at z
   cases z
   exact ⟨hl, acc.toList, c, r, by rw [e]⟩
  ·rw [upd_ne hb] at z
   exact (I.hok b u z).stay (fun _ _ _ y => y) (fun d y => up d _ y) fun d xs y => up d _ y
 ·rw [List.mem_singleton.mp hb]
  exact ⟨f3, f1, f4, f5⟩
theorem drainS {C : GCt} {A A3 : Around} {S a : Addr} {g L : Nat} {go : Obj} {Ex : Value → Shared → Prop} {R : Result → Shared → Prop} {W : Nat → List V → Hp → Prop} (hA : A3 = A.in1.in1) (hh : A.in1.handled = none) (hd : A.in1.depth < recursionLimit) (hfr : A3.frames = some X.stack)
  (isg : ∀ h : Heap, h.get? a = some go → h.IsGen a g) (hn : C.n ≤ sizeLine) (rfl_ : ∀ H, C.rely H H)
  (below : ∀ q ∈ X.pn ++ pins, q.1 < L) (loc : X.env.locals < L) (cells : ∀ x c, X.env.cells.lookup x = some c → c < L) (s0 : X.s_0.heap.objs.size ≤ L) (fs : ∀ b ∈ X.fs, b < L) (hS : L ≤ S) (hSa : S ≠ a)
  (hw : ∀ j ys H, j < C.n → W j ys H → ∀ x H2, C.yld j H x H2 → W (j + 1) (ys ++ [x]) H2)
  (hend : ∀ s' acc c H ys, Inv X pins σ H s' → s'.heap.get? S = some (lstObj acc c) → Vals ys acc.toList → H S = none → ys.length = C.n → (∃ H0, W C.n ys H0 ∧ C.fin H0 H) → R (.ok (.ret .none)) s')
  (hx : ∀ e s1, Ex e s1 → s1.heap.IsGen a g ∧ NotStop (model X.prog X.w) e s1.heap ∧ R (.error e) (s1.setGen g .finished)) :
  ∀ (r j m : Nat) (Ex' : Value → Shared → Prop) (s : Shared) (H : Hp) (gs : GenState) (acc : Array Value) (c : Nat) (ys : List V), j + r = C.n → m + j = C.n → (Ex' = Ex ∨ Ex' = noX) → Inv X pins σ H s → s.heap.get? S = some (lstObj acc c) → H S = none → Vals ys acc.toList → ys.length = j → s.heap.get? a = some go → s.gens[g]? = some gs → W j ys H →
   WakesTo (model X.prog X.w) A3 (Fut (gdOf X.prog X.w X.K X.mg X.base A3 X.stack L g (a, go) [S]) C m j Ex' (s.setGen g .running) H [(S, lstObj acc c)]) (s.setGen g .running) gs →
   codeAny (model X.prog X.w) A (.builtin "list.extend.loop" ⟨[.ref S, .ref a, .none], []⟩) R s := by
 subst hA
 have fS : ∀ {H : Hp}, H S = none → FpOk X pins H S := fun {H} hn => ⟨hn, Nat.ne_of_gt (Nat.lt_of_lt_of_le loc hS), fun z => absurd (fs _ z) (Nat.not_lt.mpr hS), .inr (Nat.le_trans s0 hS), fun x c e z => absurd (cells x c e) (by rw [z]; exact Nat.not_lt.mpr hS), fun q hq z => absurd (below q hq) (by rw [z]; exact Nat.not_lt.mpr hS)⟩
 have hx' : ∀ {Ex' : Value → Shared → Prop}, (Ex' = Ex ∨ Ex' = noX) → ∀ e s1, Ex' e s1 → s1.heap.IsGen a g ∧ NotStop (model X.prog X.w) e s1.heap ∧ R (.error e) (s1.setGen g .finished) := fun {Ex'} he e s1 z => by
  rcases he with h | h
  ·rw [h] at z; exact hx e s1 z
  ·rw [h] at z; exact z.elim
 intro r
 induction r with
 | zero =>
  intro j m Ex' s H gs acc c ys hj hm he I eS nS rv hl ea hgs w W0
  have hj : j = C.n := hj
  subst hj
  refine codeAny_builtin F.entry_extend_loop ?_
  rw [Around.under_plainId F.plain_extend_loop _]
  refine wpAny_bind (next_sgm (A := A.in1) hh I.nolimit hd (isg _ ea) hgs W0 fun e s1 F => ?_)
  cases e with
  | ret rr =>
   cases rr with
   | ok f =>
    obtain ⟨h1, _, H1, ran, hf⟩ := fut_ok.mp F
    refine ⟨h1, fun h' kp => wpAny_pure ?_⟩
    have ran : Ran X.prog X.w (frs X.stack) L s H [(S, lstObj acc c)] s1 H1 := ⟨ran.os, ran.bare, ran.un, ran.hok, ran.ext⟩
    have I1 := Inv.ran I ran below loc cells s0
    have I2 := Inv.gens I1 (g := (s1.setGen g .finished).gens) (allBare_setGen I1.bare rfl)
    obtain ⟨z1, z2⟩ := ran.ext _ List.mem_cons_self
    exact hend _ acc c H1 ys (I2.kept (t' := s1.toks) kp) (kp _ _ z1) rv z2 hl ⟨H, w, hf⟩
   | error e => exact hx' he e s1 (fut_err.mp F)
  | susp v gd l kk c2 p2 fs2 =>
   cases m with
   | zero => exact F.elim
   | succ m => obtain ⟨_, h, _⟩ := F; exact absurd h (Nat.lt_irrefl _)
 | succ r ih =>
  intro j m Ex' s H gs acc c ys hj hm he I eS nS rv hl ea hgs w W0
  have hgl : g < s.gens.size := (Array.getElem?_eq_some_iff.mp hgs).1
  refine codeAny_builtin F.entry_extend_loop ?_
  rw [Around.under_plainId F.plain_extend_loop _]
  refine wpAny_bind (wpAny_gsz (n := g + 1) hgl (next_sgm (A := A.in1) hh I.nolimit hd (isg _ ea) hgs W0 fun e s1 F => ?_))
  cases e with
  | ret rr =>
   cases rr with
   | ok f => obtain ⟨_, h, _⟩ := fut_ok.mp F; exact absurd h (by omega)
   | error e =>
    obtain ⟨z1, z2, z3⟩ := hx' he e s1 (fut_err.mp F)
    exact ⟨z1, z2, fun _ => z3⟩
  | susp v gd l kk c2 p2 fs2 =>
   cases m with
   | zero => exact F.elim
   | succ m =>
    obtain ⟨hq, lt, x, H1, priv, rx, ran, hY, own, hp, next⟩ := F
    refine ⟨hq, fun hz => ?_⟩
    rw [setGen_size] at hz
    have ran : Ran X.prog X.w (frs X.stack) L s H [(S, lstObj acc c)] s1 H1 := ⟨ran.os, ran.bare, ran.un, ran.hok, ran.ext⟩
    have I1 := Inv.ran I ran below loc cells s0
    obtain ⟨eS1, nS1⟩ := ran.ext _ List.mem_cons_self
    have eS1 : s1.heap.get? S = some (lstObj acc c) := eS1
    have hsz : acc.size = j := by rw [← hl, rv.length, Array.length_toList]
    have hle : acc.size < sizeLine := by omega
    refine (?_ : wpAny _ A.in1 (updateSeq S (·.push v) >>= _) _ _ _)
    refine wpAny_bind (wpAny_updateSeq (s := s1.setGen g _) eS1 rfl (wpAny_pure ⟨plainId_quiet F.plain_extend_loop _, ?_⟩) (Nat.le_of_lt hle) (by show (acc.push v).size ≤ sizeLine + 1; rw [Array.size_push]; omega))
    have kS : ∀ b o, b ≠ S → s1.heap.get? b = some o → (s1.heap.update S (Obj.mapSeq (·.push v))).get? b = some o := fun b o hb z => (Heap.get?_update_other _ _ (Ne.symm hb)).trans z
    obtain ⟨c', eS2⟩ : ∃ c', (s1.heap.update S (Obj.mapSeq (·.push v))).get? S = some (lstObj (acc.push v) c') := ⟨_, Heap.get?_update_self _ eS1 rfl⟩
    obtain ⟨q1, q2, q3, q4, q5, q6⟩ := fS nS1
    have I2 : Inv X pins σ H1 { s1.setGen g (End.susp v gd l kk c2 p2 fs2).genState with heap := s1.heap.update S (Obj.mapSeq (·.push v)) } := by
     have J := Inv.turned (h' := s1.heap.update S (Obj.mapSeq (·.push v))) (t' := s1.toks) I1 kS q1 q2 q4 q5 q6
     exact Inv.gens (g := (s1.setGen g (End.susp v gd l kk c2 p2 fs2).genState).gens) J (allBare_setGen I1.bare (quiet_bare hq))
    have hgo := (hp _ own).1
    have gsz2 : g < (s1.setGen g (End.susp v gd l kk c2 p2 fs2).genState).gens.size := by rw [setGen_size]; exact hz
    have gsz2' : g < s1.gens.size := hz
    refine ih (j + 1) m noX _ H1 (End.susp v gd l kk c2 p2 fs2).genState (acc.push v) c' (ys ++ [x]) (by omega) (by omega) (.inr rfl) I2 eS2 nS1 (by rw [Array.toList_push]; exact rv.append (.cons rx .nil)) (by rw [List.length_append, hl]; rfl) (kS _ _ (Ne.symm hSa) hgo) (setGen_at hz)
     (hw j ys H lt w x H1 hY) ?_
    have e0 := I2.env0
    refine next _ H1 [(S, lstObj (acc.push v) c')] ⟨⟨hfr, e0.mod, e0.bs, e0.bsz, e0.funs, e0.frf, e0.hok, allBare_setGen I2.bare rfl⟩, fun q hq => ⟨kS _ _ ((hp q hq).2.2.2.2 _ List.mem_cons_self) (hp q hq).1, (hp q hq).2.1⟩, fun i y li ei _ => ?_, rfl_ H1, by rw [setGen_size]; exact gsz2, rfl, fun q hq => ?_⟩
    ·rw [setGen_ne (Nat.ne_of_lt li)]
     show (s1.setGen g _).gens[i]? = _
     rw [setGen_ne (Nat.ne_of_lt li)]
     exact ei
    ·rw [List.mem_singleton.mp hq]
     exact ⟨eS2, nS1, fun u z => by cases z⟩
def tListS (tg : TGc) : TE := fun σ H Q => tg σ H fun C H1 => C.n ≤ sizeLine ∧ (∀ H, C.rely H H) ∧ ∃ W : Nat → List V → Hp → Prop, W 0 [] H1 ∧ (∀ j ys H, j < C.n → W j ys H → ∀ x H2, C.yld j H x H2 → W (j + 1) (ys ++ [x]) H2) ∧
 ∀ ys H, W C.n ys H → ∀ H2, C.fin H H2 → ∀ p, H2 p = none → Q (.ref p) (upd H2 p (.lst ys))
theorem run_listS {k : Nat} {e : Expr} {tg : TGc} {E : XK} {nm : Str} {p pos : Pos} (h : PGn X k e tg E) (hr : Room (k + 3) X.A) {σ : L2.St} (hx : ∀ (pins : List (Addr × Obj)) (H : Hp) (s : Shared) (e : Value) (s' : Shared), Inv X pins σ H s → CX X.prog X.w X.stack H s E e s' → X.xe e s') (hns : NoStop X.K E) (hg : Gl X nm) (hmg : X.mg nm = none) (hv : bootBuiltins nm = some (.type "list")) (hnm : nm ≠ "__name__" := by decide) (hdb : (nm == ("__debug__" : Str)) = false := by decide)
  (he : starEach [e] X.env = (false, eval e X.env) :: starEach [] X.env := by rfl) : ∀ (pins : List (Addr × Obj)) (s : Shared) (H : Hp) (Q : VK), Inv X pins σ H s → tListS tg σ H Q → wpAny (model X.prog X.w) X.A (eval (.Call (.Name nm p) [e] [] pos) X.env) (EP X pins σ Q) X.xe s := by
 intro pins s H Q I hq
 refine wpAny_Call_Name_kw (ld_blt I hg hmg hv (PyProof.Rows.callWith_type1 ?_ he rfl) hnm hdb)
 rw [he]
 refine Calls.spliced_cons (thn (h.run pins s σ H _ I hq) fun u s1 ⟨H1, sc, C, I1, _, B, hn, hrf, W, w0, ww, wf⟩ => Calls.spliced_nil ?_)
 obtain ⟨a, g, c, go, rfl, hg, ha, hgo, isg, ncell, hgs, os, bare, nolim, old, wake⟩ := B
 have hgl : g < s1.gens.size := (Array.getElem?_eq_some_iff.mp hgs).1
 have I2 : Inv X pins σ H1 s1 := I1.call' (ch := []) os (Un.kept old) (I1.hok.kept old) bare fun b z => by simp at z
 have lta : a < s1.heap.objs.size := Heap.lt_size hgo
 have scs : sc.heap.objs.size ≤ s1.heap.objs.size := Nat.le_trans ha (Nat.le_of_lt lta)
 have hSa : s1.heap.objs.size ≠ a := Nat.ne_of_gt lta
 refine callType_codes (Q₁ := fun obj s₁ => obj = .ref s1.heap.objs.size ∧ s₁ = { s1 with heap := s1.heap.push { cls := .type "list", data := .seq #[] } }) F.called_list (F.typeCall_list_1 _) F.entry_list_init (code_list_new _ ⟨rfl, rfl⟩) fun obj s₁ h₁ => ?_
 obtain ⟨rfl, rfl⟩ := h₁
 have hS1 : (s1.heap.push { cls := .type "list", data := .seq #[] }).get? s1.heap.objs.size = some { cls := .type "list", data := .seq #[] } := Heap.get?_push_size _ rfl
 refine ⟨⟨_, hS1, rfl⟩, F.args_list_init_2 _ _, ?_⟩
 refine (?_ : wpAny _ X.A.in1.in1 (do let o ← Builtin.List.listItems (.ref s1.heap.objs.size); Builtin.List.listUpdate (.ref s1.heap.objs.size) (fun _ => #[]); letGo o.toList.reverse; Builtin.List.listExtendWith (.ref s1.heap.objs.size) (.ref a) .none) _ _ _)
 unfold Builtin.List.listItems
 refine wpAny_bind (wpAny_bind (wpAny_seqItems hS1 rfl (wpAny_pure ?_)))
 refine (?_ : wpAny _ X.A.in1.in1 (updateSeq s1.heap.objs.size (fun _ => #[]) >>= fun _ => letGo (#[] : Array Value).toList.reverse >>= fun _ => Builtin.List.listExtendWith (.ref s1.heap.objs.size) (.ref a) .none) _ _ _)
 refine wpAny_bind (wpAny_updateSeq hS1 rfl (wpAny_bind (wpAny_letGo ?_)))
 have hS2 := Heap.get?_update_self (Obj.mapSeq (fun _ => (#[] : Array Value))) hS1 rfl
 unfold Builtin.List.listExtendWith
 have up : ∀ (h : Heap) (f : Obj → Obj), (∀ b o, s1.heap.get? b = some o → h.get? b = some o) → ∀ b o, s1.heap.get? b = some o → (h.update s1.heap.objs.size f).get? b = some o := fun h f q b o z =>
  (Heap.get?_update_other _ _ (Ne.symm (Nat.ne_of_lt (Heap.lt_size z)))).trans (q b o z)
 have k2 := up _ (Obj.mapSeq (fun _ => (#[] : Array Value))) fun b o z => Heap.get?_push_of_some { cls := .type "list", data := .seq #[] } z
 have gen2 : ∀ {h : Heap}, (∀ b o, s1.heap.get? b = some o → h.get? b = some o) → h.IsGen a g := fun {h} q => isg h (q a go hgo)
 refine wpAny_bind (wpAny_typeOf (Heap.IsGen.typeIs (s := { s1 with heap := _ }) (gen2 k2)) ?_)
 have b1 : Builtin.List.listSameRef (.ref s1.heap.objs.size) (.ref a) = false := by simp [Builtin.List.listSameRef, hSa]
 simp only [b1, show (Value.type "generator" == Value.type "list") = false by decide, show (Value.type "generator" == Value.type "tuple") = false by decide, Bool.or_false, Bool.false_eq_true, if_false]
 refine wpAny_bind (wpAny_pyIter_gen (s := { s1 with heap := _ }) (gen2 k2) (wpAny_bind (wpAny_holding ?_)))
 unfold Builtin.List.listLengthHint
 refine wpAny_bind (wpAny_specialOf (Heap.IsGen.typeIs (s := { s1 with heap := _ }) (gen2 k2)) F.gen_no_len (?_ : wpAny _ X.A.in1.in1 (specialOf (Value.ref a) (Str.ofString "__length_hint__") >>= _) _ _ _))
 refine wpAny_bind (wpAny_specialOf (Heap.IsGen.typeIs (s := { s1 with heap := _ }) (gen2 k2)) F.gen_no_hint (wpAny_pure ?_))
 refine (?_ : wpAny _ X.A.in1.in1 (rule "list.extend.makes-room" >>= fun _ => Builtin.List.listTouch (.ref s1.heap.objs.size) >>= fun _ => again (.builtin "list.extend.loop" ⟨[.ref s1.heap.objs.size, .ref a, .none], []⟩)) _ _ _)
 refine wpAny_bind (wpAny_rule (wpAny_bind (?_ : wpAny _ X.A.in1.in1 (updateSeq s1.heap.objs.size (·.push .none) >>= fun _ => updateSeq s1.heap.objs.size (·.pop)) _ _ _)))
 refine wpAny_bind (wpAny_updateSeq hS2 rfl ?_)
 have hS3 := Heap.get?_update_self (Obj.mapSeq (·.push Value.none)) hS2 rfl
 refine wpAny_updateSeq (hz := by seq_fits) hS3 rfl (wpAny_pure ⟨plainId_quiet F.plain_extend_loop _, ?_⟩)
 have hS4 := Heap.get?_update_self (Obj.mapSeq (·.pop)) hS3 rfl
 have k4 := up _ (Obj.mapSeq (·.pop)) (up _ (Obj.mapSeq (·.push Value.none)) k2)
 have nS : H1 s1.heap.objs.size = none := I2.hok.fresh (Nat.le_refl _)
 have I4 := I2.kept (t' := s1.toks) k4
 have room : Room k X.A.in1.in1.in1 := ⟨hr.hd, by have := hr.dp; show X.A.depth + 3 * k + 5 < _; omega, by have := hr.un; show X.A.units + 1 + 1 + 1 + 16 * k + 200 < _; omega⟩
 refine' drainS (X := X) (A := X.A.in1) (A3 := X.A.in1.in1.in1) (S := s1.heap.objs.size) (a := a) (g := g) (L := sc.heap.objs.size) (go := go) (C := C) (W := W) (Ex := fun e s1 => CX X.prog X.w X.stack H1 sc E e s1 ∧ s1.heap.get? a = some go) rfl hr.hd (by have := hr.dp; show X.A.depth < _; omega) I1.ok.frames isg hn hrf
  (fun q hq => Heap.lt_size (I1.pin q hq).1) I1.lt (fun x c e => (I1.cell x c e).elim fun v hv => hv.lt) I1.sz (fun b hb => Nat.lt_of_not_le fun z => I1.nofs z hb) scs hSa ww (fun s' acc c' H2 ys J eS rv nS2 hl hq => ?ge) (fun e s' hq => ?gx)
  C.n 0 C.n _ _ H1 (.fresh c) #[] _ [] (Nat.zero_add _) rfl (.inl rfl) I4 hS4 nS .nil rfl (k4 _ _ hgo) hgs w0 (wake X.A.in1.in1.in1 _ [(s1.heap.objs.size, _)] (fun q hq => ?gq) room I1.ok.frames k4 os (allBare_setGen bare rfl) (by rw [setGen_size]; exact hgl))
 case ge =>
  obtain ⟨H0, hw, hf⟩ := hq
  refine ⟨rfl, .ref s1.heap.objs.size, upd H2 s1.heap.objs.size (.lst ys), Inv.filled J ?_ (by rw [hl]; exact hn) eS rv, rfl, wf ys H0 hw H2 hf _ nS2⟩
  exact ⟨nS2, Nat.ne_of_gt I2.lt, I2.nofs (Nat.le_refl _), .inr I2.sz, fun x c e z => by
   obtain ⟨v, hv⟩ := I2.cell x c e
   exact absurd hv.lt (by rw [z]; exact Nat.lt_irrefl _), fun q hq z => absurd (Heap.lt_size (I2.pin q hq).1) (by rw [z]; exact Nat.lt_irrefl _)⟩
 case gx =>
  obtain ⟨z1, z2⟩ := hq
  obtain ⟨y1, y2⟩ := exc_plain (g := g) hx hns I1 e s' z1
  exact ⟨isg _ z2, y1, y2⟩
 case gq =>
  rw [List.mem_singleton.mp hq]
  exact ⟨hS4, nS, Nat.le_refl _, fun u z => by cases z⟩
end
end Gx
namespace Tb
open PySem PySem.Spec PyProof.Rows L2
def S : Nat → Nat
 | 0 => 0
 | n + 1 => 5 * S n + 1
theorem S_add (a : Nat) : ∀ b, S (a + b) = 5 ^ b * S a + S b
 | 0 => by simp [S]
 | b + 1 => by
  show 5 * S (a + b) + 1 = 5 ^ (b + 1) * S a + (5 * S b + 1)
  rw [S_add a b, Nat.pow_succ, Nat.mul_add, ← Nat.mul_assoc, Nat.mul_comm 5 (5 ^ b)]; omega
theorem S_five : ∀ n, 5 ^ n = 4 * S n + 1
 | 0 => rfl
 | n + 1 => by rw [Nat.pow_succ, S_five n]; show _ = 4 * (5 * S n + 1) + 1; omega
theorem S_two : ∀ k, ∃ o, S (2 ^ k) = 2 ^ k * (2 * o + 1)
 | 0 => ⟨0, rfl⟩
 | k + 1 => by
  obtain ⟨o, e⟩ := S_two k
  refine ⟨(2 * o + 1) * S (2 ^ k) + o, ?_⟩
  have h : S (2 ^ (k + 1)) = 2 * S (2 ^ k) * (2 * S (2 ^ k) + 1) := by
   rw [show 2 ^ (k + 1) = 2 ^ k + 2 ^ k by rw [Nat.pow_succ]; omega, S_add, S_five, Nat.add_mul, Nat.mul_add, Nat.mul_assoc 4]
   rw [show 2 * S (2 ^ k) * (2 * S (2 ^ k)) = 4 * (S (2 ^ k) * S (2 ^ k)) by rw [Nat.mul_mul_mul_comm]]
   omega
  have a1 : 2 * S (2 ^ k) * (2 * S (2 ^ k) + 1) = 2 ^ k * 2 * ((2 * o + 1) * (2 * S (2 ^ k) + 1)) := by
   generalize hz : 2 * S (2 ^ k) + 1 = z
   rw [e]; ac_rfl
  have a2 : (2 * o + 1) * (2 * S (2 ^ k) + 1) = 2 * ((2 * o + 1) * S (2 ^ k)) + (2 * o + 1) := by
   rw [Nat.mul_add, Nat.mul_one, Nat.mul_left_comm]
  rw [h, a1, a2, Nat.pow_succ, Nat.mul_add 2, Nat.add_assoc]
theorem S_all : ∀ k j, ∃ b, b < 2 ^ k ∧ S b % 2 ^ k = j % 2 ^ k
 | 0, j => ⟨0, by decide, by rw [Nat.pow_zero, Nat.mod_one, Nat.mod_one]⟩
 | k + 1, j => by
  obtain ⟨b, hb, e⟩ := S_all k j
  have hp : 0 < 2 ^ k := Nat.pow_pos (by decide)
  have e2 : 2 ^ (k + 1) = 2 * 2 ^ k := by rw [Nat.pow_succ]; omega
  have two : ∀ x, x % 2 ^ (k + 1) = x % 2 ^ k ∨ x % 2 ^ (k + 1) = x % 2 ^ k + 2 ^ k := fun x => by
   rw [e2, Nat.mul_comm 2, Nat.mod_mul]
   rcases Nat.mod_two_eq_zero_or_one (x / 2 ^ k) with h | h <;> rw [h] <;> simp
  rcases two (S b) with h1 | h1 <;> rcases two j with h2 | h2
  ·exact ⟨b, by omega, by rw [h1, h2, e]⟩
  ·obtain ⟨o, eo⟩ := S_two k
   have ev : ∃ u, 5 ^ b * S (2 ^ k) = 2 ^ (k + 1) * u + 2 ^ k := by
    rw [eo, S_five b]
    refine ⟨4 * S b * o + 2 * S b + o, ?_⟩
    rw [e2]
    generalize 2 ^ k = p
    generalize S b = s
    simp only [Nat.add_mul, Nat.mul_add, Nat.mul_one, Nat.one_mul]
    have a1 : 4 * s * (p * (2 * o)) = 2 * p * (4 * s * o) := by rw [show p * (2 * o) = 2 * p * o by rw [Nat.mul_left_comm, Nat.mul_assoc], Nat.mul_left_comm]
    have a2 : 4 * s * p = 2 * p * (2 * s) := by rw [show (4 : Nat) = 2 * 2 from rfl]; ac_rfl
    have a3 : p * (2 * o) = 2 * p * o := by rw [Nat.mul_left_comm, Nat.mul_assoc]
    rw [a1, a2, a3]; omega
   obtain ⟨u, eu⟩ := ev
   refine ⟨2 ^ k + b, by omega, ?_⟩
   rw [S_add, eu, Nat.add_assoc, Nat.mul_add_mod, h2, ← e]
   have l := Nat.mod_lt (S b) hp
   rw [e2] at h1 ⊢
   generalize S b = s at *
   generalize 2 ^ k = p at *
   have h3 : s % (2 * p) + p < 2 * p := by omega
   rw [Nat.add_comm, ← Nat.mod_add_mod, Nat.mod_eq_of_lt h3, h1]
  ·obtain ⟨o, eo⟩ := S_two k
   have ev : ∃ u, 5 ^ b * S (2 ^ k) = 2 ^ (k + 1) * u + 2 ^ k := by
    rw [eo, S_five b]
    refine ⟨4 * S b * o + 2 * S b + o, ?_⟩
    rw [e2]
    generalize 2 ^ k = p
    generalize S b = s
    simp only [Nat.add_mul, Nat.mul_add, Nat.mul_one, Nat.one_mul]
    have a1 : 4 * s * (p * (2 * o)) = 2 * p * (4 * s * o) := by rw [show p * (2 * o) = 2 * p * o by rw [Nat.mul_left_comm, Nat.mul_assoc], Nat.mul_left_comm]
    have a2 : 4 * s * p = 2 * p * (2 * s) := by rw [show (4 : Nat) = 2 * 2 from rfl]; ac_rfl
    have a3 : p * (2 * o) = 2 * p * o := by rw [Nat.mul_left_comm, Nat.mul_assoc]
    rw [a1, a2, a3]; omega
   obtain ⟨u, eu⟩ := ev
   refine ⟨2 ^ k + b, by omega, ?_⟩
   rw [S_add, eu, Nat.add_assoc, Nat.mul_add_mod, h2, ← e]
   have l := Nat.mod_lt (S b) hp
   rw [e2] at h1 ⊢
   generalize S b = s at *
   generalize 2 ^ k = p at *
   have h3 : s % (2 * p) + p = s % p + 2 * p := by omega
   rw [Nat.add_comm, ← Nat.mod_add_mod, h3, Nat.add_mod_right, Nat.mod_eq_of_lt (by omega)]
  ·exact ⟨b, by omega, by rw [h1, h2, e]⟩
def Msk (m : Nat) : Prop := m = 7 ∨ m = 31 ∨ m = 127 ∨ m = 511 ∨ m = 2047 ∨ m = 8191
theorem msk_pow {m : Nat} (h : Msk m) : ∃ k, m + 1 = 2 ^ k := by
 rcases h with e | e | e | e | e | e <;> subst e
 ·exact ⟨3, rfl⟩
 ·exact ⟨5, rfl⟩
 ·exact ⟨7, rfl⟩
 ·exact ⟨9, rfl⟩
 ·exact ⟨11, rfl⟩
 ·exact ⟨13, rfl⟩
theorem msk_odd {m : Nat} (h : Msk m) : m % 2 = 1 := by rcases h with e | e | e | e | e | e <;> subst e <;> rfl
theorem msk_le {m : Nat} (h : Msk m) : m ≤ 8191 := by rcases h with e | e | e | e | e | e <;> omega
theorem lcg_S (m : Nat) : ∀ b, lcgN m b = S b % (m + 1)
 | 0 => (Nat.zero_mod _).symm
 | b + 1 => by
  show (lcgN m b * 5 + 1) % (m + 1) = (5 * S b + 1) % (m + 1)
  rw [lcg_S m b, Nat.mul_comm 5, Nat.add_mod, Nat.mod_mul_mod, ← Nat.add_mod]
theorem lcg_every {m : Nat} (h : Msk m) {j : Nat} (hj : j ≤ m) : ∃ b, b ≤ m ∧ lcgN m b = j := by
 obtain ⟨k, e⟩ := msk_pow h
 obtain ⟨b, hb, eb⟩ := S_all k j
 exact ⟨b, by omega, by rw [lcg_S, e, eb]; exact Nat.mod_eq_of_lt (by omega)⟩
theorem lcg_per {m : Nat} (h : Msk m) (b : Nat) : lcgN m (m + 1 + b) = lcgN m b := by
 obtain ⟨k, e⟩ := msk_pow h
 obtain ⟨o, eo⟩ := S_two k
 rw [lcg_S, lcg_S, e, S_add, eo, Nat.mul_left_comm, Nat.mul_add_mod]
theorem lcg_from {m : Nat} (h : Msk m) {i j : Nat} (hi : i ≤ m) (hj : j ≤ m) : ∃ k, k ≤ m ∧ lcgI m i k = j := by
 obtain ⟨a, ha, ea⟩ := lcg_every h hi
 obtain ⟨b, hb, eb⟩ := lcg_every h hj
 subst ea eb
 rcases Nat.lt_or_ge b a with c | c
 ·exact ⟨b + (m + 1) - a, by omega, by rw [lcgN_add, show a + (b + (m + 1) - a) = m + 1 + b by omega, lcg_per h]⟩
 ·exact ⟨b - a, by omega, by rw [lcgN_add, show a + (b - a) = b by omega]⟩
theorem run_every {m : Nat} (hm : Msk m) (h : Int) {j : Nat} (hj : j ≤ m) : ∃ n, n ≤ m + 12 ∧ runI m (SetTable.bits h) n = j := by
 obtain ⟨k, hk, e⟩ := lcg_from hm (runI_le m (SetTable.bits h) 12) hj
 exact ⟨12 + k, by omega, (runI_tail (bits_lt h) k).trans e⟩
theorem way_every {m : Nat} (hm : Msk m) (h : Int) {j : Nat} (hj : j ≤ m) : ∃ k, k < 10 * SetTable.turns m ∧ way m h k = j := by
 obtain ⟨n, hn, e⟩ := run_every hm h hj
 obtain ⟨k, hk, e2⟩ := run_nth m (SetTable.bits h) n
 refine ⟨k, ?_, (congrArg SetTable.Probe.j e2).trans e⟩
 unfold SetTable.turns
 omega
theorem way_in {m : Nat} (h : Int) (k : Nat) : way m h k ≤ m := by
 have r := runEnd_bd (show SetTable.bits h % (m + 1) ≤ m from Nat.le_of_lt_succ (Nat.mod_lt _ (Nat.succ_pos _)))
 have q := nth_in (m := m) k (runAt m (SetTable.bits h % (m + 1)) (SetTable.bits h)) (show SetTable.bits h % (m + 1) + (SetTable.runEnd m (SetTable.bits h % (m + 1)) - SetTable.bits h % (m + 1)) ≤ m by omega)
 exact Nat.le_trans (Nat.le_add_right _ _) q
theorem first_of {m : Nat} (hm : Msk m) (h : Int) (p : Nat → Prop) {j : Nat} (hj : j ≤ m) (hp : p j) : ∃ K, K < 10 * SetTable.turns m ∧ p (way m h K) ∧ ∀ k, k < K → ¬ p (way m h k) := by
 obtain ⟨k, hk, e⟩ := way_every hm h hj
 obtain ⟨K, a, b, c⟩ := st_least (p := fun k => p (way m h k)) k (by show p (way m h k); rw [e]; exact hp)
 exact ⟨K, Nat.lt_of_le_of_lt a hk, b, c⟩
structure Tab (t : SetTable) (hs : List Int) : Prop where
 rise : Ris t.place.toList
 none_ : t.dummies = #[]
 size : t.place.size = hs.length
 msk : Msk t.mask
 le : ∀ x ∈ t.place.toList, x ≤ t.mask
 on : ∀ (i : Nat) (h : Int) (j : Nat), hs[i]? = some h → t.place.toList[i]? = some j → ∃ k, way t.mask h k = j ∧ ∀ k', k' < k → way t.mask h k' ∈ t.place.toList
section
variable {t : SetTable} {hs : List Int}
theorem Tab.room (T : Tab t hs) (l : hs.length ≤ t.mask) (h : Int) : ∃ K, K < 10 * SetTable.turns t.mask ∧ way t.mask h K ∉ t.place.toList ∧ ∀ k, k < K → way t.mask h k ∈ t.place.toList := by
 obtain ⟨j, hj, hn⟩ := st_missing t.place.toList (t.mask + 1) (by rw [Array.length_toList, T.size]; omega)
 obtain ⟨K, a, b, c⟩ := first_of T.msk h (· ∉ t.place.toList) (Nat.le_of_lt_succ hj) hn
 exact ⟨K, a, b, fun k hk => Classical.not_not.mp (c k hk)⟩
theorem Tab.ahead (T : Tab t hs) {h : Int} {K i j : Nat} (hK : way t.mask h K ∉ t.place.toList) (hi : hs[i]? = some h) (hj : t.place.toList[i]? = some j) : ∃ k, k < K ∧ way t.mask h k = j := by
 obtain ⟨k, e, hb⟩ := T.on i h j hi hj
 refine ⟨k, Nat.lt_of_not_le fun z => ?_, e⟩
 rcases Nat.lt_or_eq_of_le z with c | c
 ·exact hK (hb K c)
 ·rw [c, e] at hK; exact hK (List.mem_of_getElem? hj)
theorem Tab.put (T : Tab t hs) {h : Int} {K p j : Nat} (ej : way t.mask h K = j) (ep : SetTable.below t.place j = p) (hK : j ∉ t.place.toList) (hb : ∀ k, k < K → way t.mask h k ∈ t.place.toList) :
  (t.put j).2 = p ∧ p ≤ hs.length ∧ Tab (t.put j).1 (hs.take p ++ h :: hs.drop p) ∧ (t.put j).1.mask = t.mask ∧ (t.put j).1.led = t.led ∧ (t.put j).1.plain = t.plain ∧ (t.put j).1.fill = hs.length + 1 := by
 have jm : j ≤ t.mask := by rw [← ej]; exact way_in h K
 have c1 : p ≤ t.place.size := by rw [← ep]; exact (below_cut T.rise j).1
 have ph : p ≤ hs.length := by rw [← T.size]; exact c1
 have pl : p ≤ t.place.toList.length := by rw [Array.length_toList]; exact c1
 have e2 : (t.put j).1.place.toList = t.place.toList.take p ++ j :: t.place.toList.drop p := by rw [put_place, ep]
 have sz : (t.put j).1.place.size = hs.length + 1 := by rw [← Array.length_toList, e2, len_ins _ pl, Array.length_toList, T.size]
 have np : t.place[SetTable.below t.place j]? ≠ some j := fun e => hK (List.mem_of_getElem? (by rw [Array.getElem?_toList]; exact e))
 have keep : ∀ {x : Nat}, x ∈ t.place.toList → x ∈ (t.put j).1.place.toList := fun hx => by rw [e2]; exact mem_ins.2 (.inr hx)
 refine ⟨ep, ph, ⟨ris_insert T.rise np, put_dm T.none_ j, by rw [len_ins _ ph]; exact sz, T.msk, fun x hx => ?_, fun i h' j' a b => ?_⟩, rfl, rfl, rfl, ?_⟩
 ·rw [e2] at hx
  rcases mem_ins.1 hx with z | z
  ·rw [z]; exact jm
  ·exact T.le x z
 ·rw [tins_get hs ph] at a
  rw [e2, tins_get _ pl] at b
  have goal : ∀ {h0 : Int} {j0 : Nat}, (∃ k, way t.mask h0 k = j0 ∧ ∀ k', k' < k → way t.mask h0 k' ∈ t.place.toList) → ∃ k, way (t.put j).1.mask h0 k = j0 ∧ ∀ k', k' < k → way (t.put j).1.mask h0 k' ∈ (t.put j).1.place.toList := fun ⟨k, x, y⟩ => ⟨k, x, fun k' hk' => keep (y k' hk')⟩
  by_cases c : i < p
  ·rw [if_pos c] at a b
   exact goal (T.on i h' j' a b)
  ·rw [if_neg c] at a b
   by_cases d : i = p
   ·rw [if_pos d] at a b
    cases a; cases b
    exact goal ⟨K, ej, hb⟩
   ·rw [if_neg d] at a b
    exact goal (T.on (i - 1) h' j' a b)
 ·show (t.put j).1.place.size + (t.put j).1.dummies.size = _
  rw [sz, put_dm T.none_ j]; rfl
end
theorem free_at {m : Nat} (hm : Msk m) (owner : Array (Option Nat)) (h : Int) {j : Nat} (hj : j ≤ m) (hf : oAt owner j = none) :
  ∃ K, SetTable.layClean.free m owner (SetTable.turns m) (SetTable.bits h % (m + 1)) (SetTable.bits h) = some (way m h K) ∧ oAt owner (way m h K) = none ∧ ∀ k, k < K → oAt owner (way m h k) ≠ none := by
 obtain ⟨n, hn, e⟩ := run_every hm h hj
 have ew : way m h (off m (SetTable.bits h % (m + 1)) (SetTable.bits h) n) = j := by
  show (nth m (runAt m _ _) (off m _ _ n)).j = j
  rw [nth_off, itL_run]; exact e
 obtain ⟨K, k1, k2, k3⟩ := st_least (p := fun k => oAt owner (way m h k) = none) _ (ew ▸ hf : oAt owner (way m h (off m (SetTable.bits h % (m + 1)) (SetTable.bits h) n)) = none)
 refine ⟨K, free_spec m owner (SetTable.turns m) n _ _ K (by unfold SetTable.turns; omega) k1 (fun k hk => ?_) (Option.isNone_iff_eq_none.mpr k2), k2, k3⟩
 cases z : oAt owner (nth m (runAt m (SetTable.bits h % (m + 1)) (SetTable.bits h)) k).j with
 | none => exact absurd z (k3 k hk)
 | some _ => rfl
theorem own_step {m : Nat} (hm : Msk m) {done : List Int} {owner : Array (Option Nat)} (W : Own m done owner) (l : done.length ≤ m) (h : Int) :
  ∃ j, SetTable.layClean.free m owner (SetTable.turns m) (SetTable.bits h % (m + 1)) (SetTable.bits h) = some j ∧ Own m (done ++ [h]) (owner.setIfInBounds j (some done.length)) := by
 obtain ⟨ps, lp, hin⟩ := W.ps
 obtain ⟨j0, h0, n0⟩ := st_missing ps (m + 1) (by omega)
 have f0 : oAt owner j0 = none := Classical.byContradiction fun z => n0 (hin j0 (Nat.le_of_lt_succ h0) z)
 obtain ⟨K, e1, e2, e3⟩ := free_at hm owner h (Nat.le_of_lt_succ h0) f0
 obtain ⟨j, ej⟩ : ∃ j, j = way m h K := ⟨_, rfl⟩
 rw [← ej] at e1 e2
 have jm : j ≤ m := by rw [ej]; exact way_in h K
 have slf := oAt_set_self (owner := owner) (some done.length) (show j < owner.size by rw [W.sz]; omega)
 have more : ∀ {i : Nat}, oAt owner i ≠ none → oAt (owner.setIfInBounds j (some done.length)) i ≠ none := fun {i} hi => by
  by_cases c : i = j
  ·rw [c, slf]; exact fun e => nomatch e
  ·rw [oAt_set_ne _ c]; exact hi
 refine ⟨j, e1, (Array.size_setIfInBounds ..).trans W.sz, fun i k hi e => ?_, fun k hk => ?_, j :: ps, by simp [lp], fun i hi e => ?_⟩
 ·by_cases c : i = j
  ·rw [c, slf] at e
   cases e
   exact ⟨h, K, by simp, by rw [c, ej], fun k' hk' => more (e3 k' hk')⟩
  ·rw [oAt_set_ne _ c] at e
   obtain ⟨h', K', a1, a2, a3⟩ := W.at_ i k hi e
   exact ⟨h', K', (List.getElem?_append_left (List.getElem?_eq_some_iff.mp a1).1).trans a1, a2, fun k' hk' => more (a3 k' hk')⟩
 ·by_cases c : k < done.length
  ·obtain ⟨i, hi, e⟩ := W.all k c
   exact ⟨i, hi, (oAt_set_ne _ fun z => by rw [z, e2] at e; cases e).trans e⟩
  ·rw [List.length_append, List.length_singleton] at hk
   rw [show k = done.length by omega]
   exact ⟨j, jm, slf⟩
 ·by_cases c : i = j
  ·rw [c]; exact List.mem_cons_self
  ·rw [oAt_set_ne _ c] at e; exact List.mem_cons_of_mem _ (hin i hi e)
theorem own_fold {m : Nat} (hm : Msk m) : ∀ (rest done : List Int) (owner : Array (Option Nat)), Own m done owner → done.length + rest.length ≤ m → ∃ o', rest.foldl (stepF m) (some (owner, done.length)) = some (o', (done ++ rest).length) ∧ Own m (done ++ rest) o'
 | [], done, owner, W, _ => by rw [List.append_nil]; exact ⟨owner, rfl, W⟩
 | h :: rest, done, owner, W, l => by
  obtain ⟨j, e, W'⟩ := own_step hm W (by simp at l; omega) h
  obtain ⟨o', f, W2⟩ := own_fold hm rest (done ++ [h]) _ W' (by simp at l ⊢; omega)
  rw [List.append_assoc, List.singleton_append] at f W2
  refine ⟨o', ?_, W2⟩
  rw [List.foldl_cons, stepF_some e, ← f, List.length_append, List.length_singleton]
theorem lay_ok {m : Nat} (hm : Msk m) {hs : Array Int} (l : hs.size ≤ m) : ∃ owner, SetTable.layClean m hs = some owner ∧ Own m hs.toList owner := by
 obtain ⟨o, f, W⟩ := own_fold hm hs.toList [] _ (Own.init m) (by simpa using l)
 refine ⟨o, ?_, W⟩
 have f : hs.toList.foldl (stepF m) (some (Array.replicate (m + 1) none, 0)) = _ := f
 rw [layClean_eq, f]; rfl
theorem relaid_at (t : SetTable) {hs : Array Int} {wanted M : Nat} (hw : SetTable.sizeAbove wanted - 1 = M) (hM : Msk M) (l : hs.size ≤ M) :
  ∃ t' order, t.relaid hs wanted = some (t', order) ∧ order.toList.Perm (List.range hs.size) ∧ Tab t' (order.toList.map fun i => hs.getD i 0) ∧ t'.mask = M ∧ t'.led = t.led ∧ t'.plain = t.plain := by
 obtain ⟨owner, e, W⟩ := lay_ok hM l
 have rr := ris_live (fun j => owner.getD j none) (List.range (M + 1)) (by unfold Ris; first | exact List.pairwise_lt_range | exact List.pairwise_lt_range _)
 have r1 : Ris ((liveOf M owner).map (·.1)) := rr.1
 have r2 : ∀ x ∈ (liveOf M owner).map (·.1), x ∈ List.range (M + 1) := rr.2
 have every : ∀ k, k < hs.size → k ∈ (liveOf M owner).map (·.2) := fun k hk => by
  obtain ⟨j, b1, b2⟩ := W.all k (by rw [Array.length_toList]; exact hk)
  exact List.mem_map.mpr ⟨(j, k), (mem_live W.sz).2 ⟨b1, b2⟩, rfl⟩
 have len : (liveOf M owner).length = hs.size := by
  obtain ⟨ps, p1, p2⟩ := W.ps
  have nd : ((liveOf M owner).map (·.1)).Nodup := List.Pairwise.imp (fun h => Nat.ne_of_lt h) r1
  have a := nat_nodup_len ((liveOf M owner).map (·.1)) ps nd fun x hx => by
   obtain ⟨⟨y, k⟩, hq, rfl⟩ := List.mem_map.mp hx
   obtain ⟨b1, b2⟩ := (mem_live W.sz).1 hq
   exact p2 y b1 (by rw [b2]; exact fun z => nomatch z)
  have b := nat_nodup_len (List.range hs.size) ((liveOf M owner).map (·.2)) List.nodup_range fun k hk => every k (List.mem_range.mp hk)
  simp only [List.length_map, List.length_range, p1, Array.length_toList] at a b
  omega
 refine ⟨tabOf t M owner, ((liveOf M owner).map (·.2)).toArray, by rw [relaid_eq, hw, e]; rfl, perm_range hs.size _ ((List.length_map _).trans len) every, ⟨r1, rfl, ?_, hM, fun x hx => Nat.le_of_lt_succ (List.mem_range.mp (r2 x hx)), fun i h j h1 h2 => ?_⟩, rfl, rfl, rfl⟩
 ·show ((liveOf M owner).map (·.1)).toArray.size = (((liveOf M owner).map (·.2)).map _).length
  simp
 ·have h1 : (((liveOf M owner).map (·.2)).map fun i => hs.getD i 0)[i]? = some h := h1
  have h2 : ((liveOf M owner).map (·.1))[i]? = some j := h2
  rw [List.getElem?_map] at h2
  rw [List.getElem?_map, List.getElem?_map] at h1
  obtain ⟨⟨y, k⟩, hq, ey⟩ := Option.map_eq_some_iff.mp h2
  rw [hq] at h1
  have ey : y = j := ey
  have eh : hs.getD k 0 = h := Option.some.inj h1
  subst ey
  obtain ⟨b1, b2⟩ := (mem_live W.sz).1 (List.mem_of_getElem? hq)
  obtain ⟨h0, K, a1, a2, a3⟩ := W.at_ y k b1 b2
  have e0 : hs.getD k 0 = h0 := by rw [Array.getD_eq_getD_getElem?, ← Array.getElem?_toList, a1]; rfl
  rw [e0] at eh
  subst eh
  refine ⟨K, a2, fun k' hk' => ?_⟩
  obtain ⟨k2, z⟩ := Option.ne_none_iff_exists'.mp (a3 k' hk')
  exact List.mem_map.mpr ⟨(way M h0 k', k2), (mem_live W.sz).2 ⟨way_in h0 k', z⟩, rfl⟩
structure Has (P : Program) (w : World) (h : Heap) (a : Addr) (L : List (Addr × List Int)) (es : Array (Int × Value)) (ep : Nat) (t : SetTable) : Prop where
 obj : ∃ o, h.get? a = some o ∧ o.ExactSet ∧ o.data = .set es ep t
 rows : es.toList = rowsOf P w L
 tab : Tab t (L.map fun p => thash P w p.2)
 one : (L.map (·.2)).Nodup
 tup : ∀ p ∈ L, IsT P w h p.2 p.1
 plain : t.plain = true
 led : w.params.followText "set-order" = true ∨ t.led = true
 room : L.length * 5 < t.mask * 3
 few : L.length < 4096
section
variable {P : Program} {w : World} {A : Around} {E : Value → Shared → Prop} {s : Shared} {a : Addr} {L : List (Addr × List Int)} {es : Array (Int × Value)} {ep : Nat} {t : SetTable}
theorem rows_len (h : es.toList = rowsOf P w L) : es.size = L.length := by
 have h := congrArg List.length h
 unfold rowsOf at h
 rwa [Array.length_toList, List.length_map] at h
theorem fits_of {n : Nat} (h1 : t.place.size = n) (h2 : t.dummies = #[]) (h3 : n ≤ t.mask) : t.fits n = true := by
 unfold SetTable.fits SetTable.fill
 rw [h2, Bool.and_eq_true, beq_iff_eq, decide_eq_true_eq]
 exact ⟨h1, by show t.place.size + 0 ≤ t.mask; omega⟩
theorem Has.fits (R : Has P w s.heap a L es ep t) : t.fits es.size = true :=
 fits_of (by rw [R.tab.size, List.length_map, rows_len R.rows]) R.tab.none_ (by have := R.room; rw [rows_len R.rows]; omega)
theorem Has.row (R : Has P w s.heap a L es ep t) {i : Nat} {p : Addr × List Int} (h : L[i]? = some p) : es[i]? = some (thash P w p.2, Value.ref p.1) := by
 rw [← Array.getElem?_toList, R.rows, rowsOf, List.getElem?_map, h]; rfl
theorem Has.gave (R : Has P w s.heap a L es ep t) : ¬ t.gaveWay = true := by
 unfold SetTable.gaveWay
 rw [msk_odd R.tab.msk]
 decide
theorem seek (R : Has P w s.heap a L es ep t) {x : Addr} {k : List Int} (hx : IsT P w s.heap k x) (hu : A.units < cLine) {K : Nat} (lK : K < 10 * SetTable.turns t.mask) (nK : way t.mask (thash P w k) K ∉ t.place.toList) (bK : ∀ c, c < K → way t.mask (thash P w k) c ∈ t.place.toList)
  {Q : SetFound → Shared → Prop} (yes : k ∈ L.map (·.2) → Q (.there none) s) (no : k ∉ L.map (·.2) → Q (.free (way t.mask (thash P w k) K) false) s) :
  ∀ (f c : Nat) (stand : Option SetTable.Probe), stand.getD (t.probeStart (thash P w k)) = nth t.mask (runAt t.mask (SetTable.bits (thash P w k) % (t.mask + 1)) (SetTable.bits (thash P w k))) c → c ≤ K → K - c < f →
   (∀ (i : Nat) p, L[i]? = some p → p.2 = k → ∃ c', c ≤ c' ∧ c' < K ∧ t.place.toList[i]? = some (way t.mask (thash P w k) c')) → wpAny (model P w) A (setSearchFrom a (.ref x) (thash P w k) true f stand) Q E s
 | 0, _, _, _, _, l, _ => absurd l (Nat.not_lt_zero _)
 | f + 1, c, stand, hst, hc, lf, re => by
  obtain ⟨o, ho, hex, hd⟩ := R.obj
  rw [setSearchFrom_succ]
  refine wpAny_bind (wpAny_setState_of ho hd R.fits ?_)
  dsimp only
  refine wp_if_neg R.gave ?_
  try refine wpAny_bind (wpAny_pure ?_)
  generalize hp0 : runAt t.mask (SetTable.bits (thash P w k) % (t.mask + 1)) (SetTable.bits (thash P w k)) = p0 at hst
  have wy : ∀ n, (nth t.mask p0 n).j = way t.mask (thash P w k) n := fun n => by rw [← hp0]
  have nd : (nth t.mask p0 c).dummy = none := by
   have all : ∀ (n : Nat) (p : SetTable.Probe), p.dummy = none → (nth t.mask p n).dummy = none := fun n => by
    induction n with
    | zero => exact fun _ z => z
    | succ n ih => exact fun p z => ih (adv t.mask p) (by unfold adv; split <;> exact z)
   exact all c p0 (by rw [← hp0]; rfl)
  have sh : ∀ q, nth t.mask (nth t.mask p0 c) q = nth t.mask p0 (c + q) := fun q => (nth_add t.mask c _ q).symm
  have jj : ∀ q, (nth t.mask (nth t.mask p0 c) q).j = way t.mask (thash P w k) (c + q) := fun q => by rw [sh, wy]
  have eK : c + (K - c) = K := by omega
  have spec := go_spec t R.tab.rise R.tab.none_ (fun i => (es[i]?.map (·.1)).getD 0) (thash P w k) (10 * SetTable.turns t.mask) (K - c) _ nd (by omega) (fun q hq => by rw [jj]; exact bK (c + q) (by omega)) (by rw [jj, eK]; exact nK)
  have hash : ∀ (i : Nat) p, L[i]? = some p → (es[i]?.map (·.1)).getD 0 = thash P w p.2 := fun i p hp => by rw [R.row hp]; rfl
  rcases spec with ⟨q, i, hq, hi, hh, before, hpr⟩ | ⟨before, hpr⟩
  ·have hpr2 : t.probe (fun i => (es[i]?.map (·.1)).getD 0) (thash P w k) (stand.getD (t.probeStart (thash P w k))) = some (.candidate (way t.mask (thash P w k) (c + q)) i (nth t.mask p0 (c + (q + 1)))) := by
    rw [hst, ← jj, ← sh]; exact hpr
   rw [hpr2]
   dsimp only
   rw [jj] at hi
   have il : i < L.length := by
    have h1 := (List.getElem?_eq_some_iff.mp hi).1
    rwa [Array.length_toList, R.tab.size, List.length_map] at h1
   obtain ⟨p, hp⟩ : ∃ p, L[i]? = some p := ⟨_, List.getElem?_eq_getElem il⟩
   have mem : p ∈ L := List.mem_of_getElem? hp
   have slot := slot_live R.tab.rise hi
   have rest : wpAny (model P w) A (searchRest a (.ref x) (thash P w k) true f es t (way t.mask (thash P w k) (c + q)) i (nth t.mask p0 (c + (q + 1)))) Q E s := by
    unfold searchRest
    rw [R.row hp]
    dsimp only
    refine wpAny_bind (wpAny_holding (wpAny_eqBool_tuple hu (R.tup p mem) hx (wpAny_bind (wpAny_setState_of ho hd R.fits ?_))))
    dsimp only
    by_cases hk : p.2 = k
    ·exact wp_if_pos (by simp [hk]) (wpAny_pure (yes (List.mem_map.mpr ⟨p, mem, hk⟩)))
    refine wp_if_neg (by simp [hk]) ?_
    try refine wpAny_bind (wpAny_pure ?_)
    rw [sameMem]
    dsimp only
    simp only [if_true, slot, R.row hp]
    refine wpAny_bind (wpAny_isSame_ref_self (wpAny_bind (wpAny_pure ?_)))
    simp only [if_true]
    refine wp_if_neg (by simp [hk]) (seek R hx hu lK nK bK yes no f (c + (q + 1)) _ (by rw [hp0]; rfl) (by omega) (by omega) fun i0 q0 h0 hk0 => ?_)
    obtain ⟨c', a1, a2, a3⟩ := re i0 q0 h0 hk0
    refine ⟨c', Classical.byContradiction fun z => ?_, a2, a3⟩
    rcases (show c' < c + q ∨ c' = c + q by omega) with y | y
    ·exact before (c' - c) i0 (by omega) (by rw [jj, show c + (c' - c) = c' by omega]; exact a3) ((hash i0 q0 h0).trans (congrArg (thash P w) hk0))
    ·rw [y] at a3
     have s0 := slot_live R.tab.rise a3
     rw [slot] at s0
     cases s0
     rw [hp] at h0
     cases h0
     exact hk hk0
   by_cases hl : t.led = true
   ·refine wp_if_neg (by simp [hl]) ?_
    try refine wpAny_bind (wpAny_pure ?_)
    exact rest
   ·refine wp_if_pos (by simp [hl]) (wpAny_bind (seen_tup hx (fun y hy => ?_) ?_))
    ·obtain ⟨e, he, ee⟩ := List.mem_map.mp hy
     have he : e ∈ es ∧ e.1 = thash P w k := by simpa using he
     have he2 : e ∈ es.toList := by simpa using he.1
     rw [R.rows] at he2
     obtain ⟨p2, hp2, e2⟩ := List.mem_map.mp he2
     exact ⟨p2.2, p2.1, by rw [← ee, ← e2], R.tup p2 hp2⟩
    ·refine wp_if_neg (by decide) ?_
     try refine wpAny_bind (wpAny_pure ?_)
     exact rest
  ·have hpr2 : t.probe (fun i => (es[i]?.map (·.1)).getD 0) (thash P w k) (stand.getD (t.probeStart (thash P w k))) = some (.empty (way t.mask (thash P w k) K) none) := by
    rw [hst, show way t.mask (thash P w k) K = (nth t.mask (nth t.mask p0 c) (K - c)).j by rw [jj, eK]]; exact hpr
   rw [hpr2]
   refine wpAny_pure (no fun hm => ?_)
   obtain ⟨q0, h0, hk0⟩ := List.mem_map.mp hm
   obtain ⟨i0, h0⟩ := List.mem_iff_getElem?.mp h0
   obtain ⟨c', a1, a2, a3⟩ := re i0 q0 h0 hk0
   exact before (c' - c) i0 (by omega) (by rw [jj, show c + (c' - c) = c' by omega]; exact a3) ((hash i0 q0 h0).trans (congrArg (thash P w) hk0))
theorem seek_all (R : Has P w s.heap a L es ep t) {x : Addr} {k : List Int} (hx : IsT P w s.heap k x) (hu : A.units < cLine) {Q : SetFound → Shared → Prop} (yes : k ∈ L.map (·.2) → Q (.there none) s)
  (no : ∀ K, k ∉ L.map (·.2) → way t.mask (thash P w k) K ∉ t.place.toList → (∀ c, c < K → way t.mask (thash P w k) c ∈ t.place.toList) → Q (.free (way t.mask (thash P w k) K) false) s) : wpAny (model P w) A (setSearch a (.ref x) (thash P w k) true) Q E s := by
 obtain ⟨K, lK, nK, bK⟩ := R.tab.room (by have := R.room; rw [List.length_map]; omega) (thash P w k)
 have big : K < 100000 := by have h1 := msk_le R.tab.msk; have h2 := lK; unfold SetTable.turns at h2; omega
 unfold setSearch
 refine seek R hx hu lK nK bK yes (fun hn => no K hn nK bK) 100000 0 none rfl (Nat.zero_le _) (by omega) fun i p hp hk => ?_
 have il : i < t.place.toList.length := by rw [Array.length_toList, R.tab.size, List.length_map]; exact (List.getElem?_eq_some_iff.mp hp).1
 have hj := List.getElem?_eq_getElem il
 obtain ⟨c, hc, e⟩ := R.tab.ahead nK (show (L.map fun p => thash P w p.2)[i]? = some (thash P w k) by rw [List.getElem?_map, hp, ← hk]; rfl) hj
 exact ⟨c, Nat.zero_le _, hc, by rw [hj, e]⟩
theorem relay {o : Obj} (ho : s.heap.get? a = some o) (hex : o.ExactSet) (hd : o.data = .set es ep t) (rows : es.toList = rowsOf P w L) (hf : t.fits es.size = true) (one : (L.map (·.2)).Nodup) (tup : ∀ p ∈ L, IsT P w s.heap p.2 p.1) (pl : t.plain = true)
  (ld : w.params.followText "set-order" = true ∨ t.led = true) (few : L.length < 4096) {wanted M : Nat} (hw : SetTable.sizeAbove wanted - 1 = M) (hM : Msk M) (hw2 : SetTable.sizeAbove wanted ≤ 8192) (hn : L.length * 5 < M * 3) {Q : Unit → Shared → Prop}
  (hQ : ∀ h' L' es' ep' t', Heap.SameBut a s.heap h' → Has P w h' a L' es' ep' t' → L'.Perm L → Q () { s with heap := h' }) : wpAny (model P w) A (setRelay a wanted) Q E s := by
 have sl := rows_len rows
 obtain ⟨t', order, e, hp, T, em, el, epl⟩ := relaid_at t (hs := es.map (·.1)) (wanted := wanted) hw hM (by rw [Array.size_map, sl]; omega)
 rw [Array.size_map, sl] at hp
 obtain ⟨L2, r1, r2, r3⟩ := order_rows L es order rows hp
 rw [← r3] at T
 have s2 : (order.filterMap (es[·]?)).size = es.size := by rw [rows_len r1, r2.length_eq, sl]
 rw [setRelay_eq]
 refine wpAny_bind (wpAny_setState_of ho hd hf ?_)
 dsimp only
 refine wp_if_neg (by rw [sizeLine_eq]; omega) ?_
 try refine wpAny_bind (wpAny_pure ?_)
 rw [e]
 refine wpAny_bind (wp_if_neg (by rw [s2]; simp) ?_)
 try refine wpAny_bind (wpAny_pure ?_)
 refine wpAny_pure (wpAny_storeSet_of ho hd ?_ (by rw [s2, sl, sizeLine_eq]; omega))
 have sb : Heap.SameBut a s.heap (s.heap.update a (Obj.putSet (order.filterMap (es[·]?)) t')) := Heap.SameBut.update ..
 exact hQ _ L2 (order.filterMap (es[·]?)) (ep + 1) t' sb ⟨⟨_, store_at ho hd, ⟨hex.1, hex.2.1, hex.2.2⟩, rfl⟩, r1, T, (r2.map (·.2)).nodup_iff.mpr one, fun p hpm => isT_same (tup p (r2.mem_iff.mp hpm)) ho hd sb, by rw [epl]; exact pl, by rw [el]; exact ld,
  by rw [r2.length_eq, em]; exact hn, by rw [r2.length_eq]; exact few⟩ r2
theorem grow_ok {m n : Nat} (hm : Msk m) (h1 : n * 5 < m * 3) (h2 : (n + 1) * 5 ≥ m * 3) (h3 : n + 1 < 4096) : ∃ M, SetTable.sizeAbove (SetTable.grown (n + 1)) - 1 = M ∧ Msk M ∧ SetTable.sizeAbove (SetTable.grown (n + 1)) ≤ 8192 ∧ (n + 1) * 5 < M * 3 := by
 have c : (n = 4 ∧ m = 7) ∨ (n = 18 ∧ m = 31) ∨ (n = 76 ∧ m = 127) ∨ (n = 306 ∧ m = 511) ∨ (n = 1228 ∧ m = 2047) := by rcases hm with e | e | e | e | e | e <;> subst e <;> omega
 rcases c with ⟨e, _⟩ | ⟨e, _⟩ | ⟨e, _⟩ | ⟨e, _⟩ | ⟨e, _⟩ <;> subst e
 ·exact ⟨31, by decide +kernel, by unfold Msk; omega, by decide +kernel, by decide⟩
 ·exact ⟨127, by decide +kernel, by unfold Msk; omega, by decide +kernel, by decide⟩
 ·exact ⟨511, by decide +kernel, by unfold Msk; omega, by decide +kernel, by decide⟩
 ·exact ⟨2047, by decide +kernel, by unfold Msk; omega, by decide +kernel, by decide⟩
 ·exact ⟨8191, by decide +kernel, by unfold Msk; omega, by decide +kernel, by decide⟩
theorem tooFull_of {n : Nat} (h : t.fill = n) : (t.tooFull = true ↔ n * 5 ≥ t.mask * 3) := by
 unfold SetTable.tooFull
 rw [decide_eq_true_eq, h]
theorem add (R : Has P w s.heap a L es ep t) {x : Addr} {k : List Int} (hx : IsT P w s.heap k x) (hu : A.units < cLine) (few : L.length + 1 < 4096) {Q : Bool → Shared → Prop}
  (hQ : ∀ b h' L' es' ep' t', Heap.SameBut a s.heap h' → Has P w h' a L' es' ep' t' → (k ∈ L.map (·.2) → L' = L) → (k ∉ L.map (·.2) → L'.Perm ((x, k) :: L)) → Q b { s with heap := h' }) : wpAny (model P w) A (setAddHashed a (.ref x) (thash P w k)) Q E s := by
 obtain ⟨o, ho, hex, hd⟩ := R.obj
 have sl := rows_len R.rows
 unfold setAddHashed
 refine wpAny_holding ?_
 rw [show (100000 : Nat) = 99999 + 1 from rfl, setAddHashedIn_succ]
 refine wpAny_bind (wpAny_setState_of ho hd R.fits ?_)
 dsimp only
 refine wp_if_neg (by simp [byScan, Value.scannable]) ?_
 try refine wpAny_bind (wpAny_pure ?_)
 refine wpAny_bind (seek_all R hx hu (fun hm => wpAny_pure (hQ false s.heap L es ep t (Heap.SameBut.refl a s.heap) R (fun _ => rfl) fun z => absurd hm z)) fun K hm nK bK => ?_)
 refine wpAny_bind (wpAny_setState_of ho hd R.fits ?_)
 dsimp only
 obtain ⟨j, ej⟩ : ∃ j, way t.mask (thash P w k) K = j := ⟨_, rfl⟩
 obtain ⟨p, epp⟩ : ∃ p, SetTable.below t.place j = p := ⟨_, rfl⟩
 rw [ej] at nK ⊢
 obtain ⟨q1, q2, q3, q4, q5, q6, q9⟩ := R.tab.put ej epp nK bK
 generalize t.put j = pt at q1 q3 q4 q5 q6 q9 ⊢
 obtain ⟨t1, p1⟩ := pt
 dsimp only at q1 q3 q4 q5 q6 q9 ⊢
 subst q1
 have pl1 : t1.plain = true := by rw [q6]; exact R.plain
 first
  | (refine wpAny_bind (wp_if_pos pl1 (hashBy_tup hx ?_)))
  | refine wp_if_pos pl1 (wpAny_bind (hashBy_tup hx ?_))
 simp only [if_true]
 have row1 : (SetTable.insertAt es p1 (thash P w k, Value.ref x)).toList = rowsOf P w (L.take p1 ++ (x, k) :: L.drop p1) := by rw [SetTable.toList_insertAt, rows_put, R.rows]
 have pm := put_perm L p1 (x, k)
 rw [show (L.map fun p => thash P w p.2).take p1 ++ thash P w k :: (L.map fun p => thash P w p.2).drop p1 = (L.take p1 ++ (x, k) :: L.drop p1).map fun p => thash P w p.2 by rw [List.map_append, List.map_cons, List.map_take, List.map_drop]] at q3
 generalize SetTable.insertAt es p1 (thash P w k, Value.ref x) = es1 at row1 ⊢
 generalize L.take p1 ++ (x, k) :: L.drop p1 = L1 at pm q3 row1
 have len : L1.length = L.length + 1 := pm.length_eq
 have es1l : es1.size = L.length + 1 := (rows_len row1).trans len
 have one1 : (L1.map (·.2)).Nodup := (pm.map (·.2)).nodup_iff.mpr (by rw [List.map_cons]; exact List.nodup_cons.mpr ⟨hm, R.one⟩)
 refine wpAny_bind (wpAny_storeSet_of ho hd ?_ (by rw [es1l, sizeLine_eq]; omega))
 have sb : Heap.SameBut a s.heap (s.heap.update a (Obj.putSet es1 t1)) := Heap.SameBut.update ..
 have ho1 := store_at (es' := es1) (t' := t1) ho hd
 generalize s.heap.update a (Obj.putSet es1 t1) = h1 at sb ho1 ⊢
 have tup1 : ∀ p ∈ L1, IsT P w h1 p.2 p.1 := fun p hp => by
  rcases List.mem_cons.mp (pm.mem_iff.mp hp) with e | hp
  ·rw [e]; exact isT_same hx ho hd sb
  ·exact isT_same (R.tup p hp) ho hd sb
 have ld1 : w.params.followText "set-order" = true ∨ t1.led = true := by rw [q5]; exact R.led
 have fl : t1.fill = L.length + 1 := by rw [q9, List.length_map]
 have full := tooFull_of fl
 rw [q4] at full
 by_cases hf : t1.tooFull = true
 ·obtain ⟨M, g1, g2, g3, g4⟩ := grow_ok R.tab.msk R.room (full.mp hf) few
  have fit1 : t1.fits es1.size = true := fits_of (by rw [q3.size, List.length_map, len, es1l]) q3.none_ (by
   rw [es1l, q4]
   have h1 := R.room
   rcases R.tab.msk with e | e | e | e | e | e <;> rw [e] at h1 ⊢ <;> omega)
  rw [sl]
  have go : wpAny (model P w) A (setRelay a (SetTable.grown (L.length + 1))) (fun _ s' => wpAny (model P w) A (pure true) Q E s') E { s with heap := h1 } :=
   relay (s := { s with heap := h1 }) ho1 ⟨hex.1, hex.2.1, hex.2.2⟩ rfl row1 fit1 one1 tup1 pl1 ld1 (by rw [len]; exact few) g1 g2 g3 (by rw [len]; exact g4) fun h2 L2 es2 ep2 t2 sb2 R2 pm2 =>
    wpAny_pure (hQ true h2 L2 es2 ep2 t2 (sb.trans sb2) R2 (fun z => absurd z hm) fun _ => pm2.trans pm)
  first
   | exact wpAny_bind (wp_if_pos (by simp [hf]) go)
   | exact wp_if_pos (by simp [hf]) (wpAny_bind go)
 ·have fin : wpAny (model P w) A (pure true) Q E { s with heap := h1 } := wpAny_pure (hQ true h1 L1 es1 (ep + 1) t1 sb ⟨⟨_, ho1, ⟨hex.1, hex.2.1, hex.2.2⟩, rfl⟩, row1, q3, one1, tup1, pl1, ld1, by
   rw [len, q4]; exact Nat.lt_of_not_le fun z => hf (full.mpr z), by rw [len]; exact few⟩ (fun z => absurd z hm) fun _ => pm)
  first
   | exact wp_if_neg (by simp [hf]) fin
   | exact wpAny_bind (wp_if_neg (by simp [hf]) (wpAny_pure fin))
end
end Tb
namespace Tb
open PySem PySem.Spec PyProof.Rows L2
section
variable {P : Program} {w : World} {A : Around} {E : Value → Shared → Prop} {s : Shared}
theorem Has.keep {h1 h2 : Heap} {c : Addr} {M : List (Addr × List Int)} {es : Array (Int × Value)} {ep : Nat} {t : SetTable} (R : Has P w h1 c M es ep t) (hc : ∀ o, h1.get? c = some o → h2.get? c = some o) (hm : ∀ q ∈ M, IsT P w h2 q.2 q.1) : Has P w h2 c M es ep t :=
 have ⟨o, ho, q⟩ := R.obj
 ⟨⟨o, hc o ho, q⟩, R.rows, R.tab, R.one, hm, R.plain, R.led, R.room, R.few⟩
abbrev set0 (w : World) : Obj := { cls := .type "set", dict := none, data := .set #[] 0 (.fresh 0 0 (!w.params.followText "set-order")) }
theorem has0 {h : Heap} {c : Addr} (e : h.get? c = some (set0 w)) : Has P w h c [] #[] 0 (.fresh 0 0 (!w.params.followText "set-order")) := by
 refine ⟨⟨_, e, ⟨rfl, rfl, rfl⟩, rfl⟩, rfl, ⟨List.Pairwise.nil, rfl, rfl, .inl rfl, fun x hx => (by cases hx), fun i h j hi => (by simp at hi)⟩, List.nodup_nil, fun q hq => (by cases hq), rfl, ?_, by show 0 * 5 < 7 * 3; decide, by show 0 < 4096; decide⟩
 show _ ∨ (!w.params.followText "set-order") = true
 cases w.params.followText "set-order" with
 | false => exact .inr rfl
 | true => exact .inl rfl
theorem upd_loop {I : Addr} {fp wr : List Addr} {G : Array GenState → Array GenState → Prop} {n : Nat} {Pv : Nat → Value → Prop} {St : Nat → Shared → Prop} {R : Result → Shared → Prop}
  (W : WalksS P w A.in1 I fp wr G n Pv St) (T : Addr) (hT : T ∉ fp) (qs : List (Addr × List Int)) (en : n = qs.length) (few : qs.length < 4096) (hv : ∀ i v, Pv i v → ∃ q, qs[i]? = some q ∧ v = .ref q.1)
  (g0 : Heap) (hq : ∀ q ∈ qs, IsT P w g0 q.2 q.1) (nT : g0.get? T = none) (nw : ∀ b ∈ wr, g0.get? b = none) (hu : A.in1.units < cLine) :
  ∀ (m i : Nat) (s : Shared), n - i = m → i ≤ n → St i s → (∀ b o, g0.get? b = some o → s.heap.get? b = some o) → (∃ L es ep t, Has P w s.heap T L es ep t ∧ Got qs i L) →
   (∀ s2 L es ep t, Moved (T :: wr) G s s2 → Has P w s2.heap T L es ep t → Got qs n L → (∀ b o, g0.get? b = some o → s2.heap.get? b = some o) → R (.ok (.ret .none)) s2) →
   codeAny (model P w) A (.builtin "set.update.loop" ⟨[.ref T, .ref I], []⟩) R s := by
 have nTw : T ∉ wr := fun z => hT (W.sub _ z)
 have up : ∀ b ∈ wr, b ∈ T :: wr := fun b hb => List.mem_cons_of_mem _ hb
 have stay : ∀ {s1 s2 : Shared}, Moved wr G s1 s2 → (∀ b o, g0.get? b = some o → s1.heap.get? b = some o) → ∀ b o, g0.get? b = some o → s2.heap.get? b = some o := fun hm kp b o e =>
  hm.heap b o (fun hb => by rw [nw b hb] at e; cases e) (kp b o e)
 intro m
 induction m with
 | zero =>
  intro i s em il st kp ⟨L, es, ep, t, hS, g⟩ hR
  obtain rfl : i = n := by omega
  refine codeAny_builtin F.entry_set_update_loop ?_
  rw [Around.under_plainId F.plain_set_update_loop _]
  show wpAny _ A.in1 (pyNext (.ref I) >>= _) _ _ s
  refine wpAny_bind (W.done s _ _ st fun s2 mv => ?_)
  show wpAny _ A.in1 (ret Value.none) _ _ s2
  have kp2 := stay mv kp
  exact wpAny_pure (hR s2 L es ep t (mv.mono up) (hS.keep (fun o e => mv.heap T o nTw e) fun q z => isT_keep (hq q (List.mem_of_mem_take (g.sub q z))) kp2) g kp2)
 | succ m ih =>
  intro i s em il st kp ⟨L, es, ep, t, hS, g⟩ hR
  have lt : i < n := by omega
  refine codeAny_builtin F.entry_set_update_loop ?_
  rw [Around.under_plainId F.plain_set_update_loop _]
  show wpAny _ A.in1 (pyNext (.ref I) >>= _) _ _ s
  refine wpAny_bind (W.item i s _ _ lt st fun v s2 hP st2 mv => ?_)
  obtain ⟨q, eq, rfl⟩ := hv i v hP
  have kp2 := stay mv kp
  have hS2 : Has P w s2.heap T L es ep t := hS.keep (fun o e => mv.heap T o nTw e) fun r z => isT_keep (hq r (List.mem_of_mem_take (g.sub r z))) kp2
  have tq : IsT P w s2.heap q.2 q.1 := isT_keep (hq q (List.mem_of_getElem? eq)) kp2
  show wpAny _ A.in1 (holding [Value.ref q.1] (setAdd T (.ref q.1)) >>= _) _ _ s2
  refine wpAny_bind (wpAny_holding ?_)
  unfold setAdd
  refine wpAny_holding (wpAny_bind (wpAny_pyHash_tuple hu tq ?_))
  refine add (s := { s2 with toks := s2.toks + (q.2.length + 1) }) hS2 tq hu (by have := g.len; omega) fun b h2 L2 es2 ep2 t2 sb hS3 c1 c2 => ?_
  have kp3 : ∀ b o, g0.get? b = some o → h2.get? b = some o := fun b o e => (sb.2 b (fun z => by rw [z, nT] at e; cases e)).trans (kp2 b o e)
  have g2 : Got qs (i + 1) L2 := (Classical.em (q.2 ∈ L.map (·.2))).elim (fun c => by rw [c1 c]; exact g.same eq c) fun c => g.more eq (c2 c)
  refine wpAny_pure ⟨plainId_quiet F.plain_set_update_loop _, ih (i + 1) _ (by omega) lt (W.frame _ s2 _ _ st2 (Nat.le_add_right _ _) fun b hb o e => ?_) kp3 ⟨L2, es2, ep2, t2, hS3, g2⟩ fun s3 L3 es3 ep3 t3 mv3 hS4 g3 kp4 => ?_⟩
  ·exact (sb.2 b fun z => hT (z ▸ hb)).trans e
  ·refine hR s3 L3 es3 ep3 t3 (Moved.trans W.gtrans ((mv.mono up).then_heap (Nat.le_add_right _ _) fun b o hb e => ?_) mv3) hS4 g3 kp4
   exact (sb.2 b fun z => hb (z ▸ List.mem_cons_self)).trans e
theorem call_set {l : Addr} {items : Array Value} (qs : List (Addr × List Int)) {Q : Value → Shared → Prop} (hh : A.handled = none) (hl : s.heap.IsList l items) (hi : items.toList = qs.map fun q => Value.ref q.1)
  (hq : ∀ q ∈ qs, IsT P w s.heap q.2 q.1) (few : qs.length < 4096) (hu : A.units + 3 < cLine)
  (h : ∀ (h2 : Heap) (tk : Nat) L es ep t, Has P w h2 s.heap.objs.size L es ep t → Got qs qs.length L → (∀ b o, s.heap.get? b = some o → h2.get? b = some o) → Q (.ref s.heap.objs.size) { s with heap := h2, toks := tk }) :
  wpAny (model P w) A (call (.type "set") [.ref l]) Q E s := by
 have il : items.size = qs.length := by rw [← Array.length_toList, hi, List.length_map]
 obtain ⟨c, tl, hmro⟩ := F.called_set.mro
 have hmade := F.called_set.made
 have hsub := F.called_set.sub
 refine wpAny_call (codeAny_of_tree ?_)
 show wpAny _ _ (callAny (.type "set") _) _ _ _
 refine wpAny_pure ⟨Code.quiet_builtin _ (by decide +kernel), codeAny_builtin F.entry_type_call ?_⟩
 rw [Around.under_plain (weight_type_call_type "set" [.ref l] []) rfl]
 have y1 := F.called_set.notType
 have y2 := F.called_set.canCreate
 have y3 := F.typeCall_set_1 (.ref l)
 repeat (any_goals (first | assumption | wp_step))
 refine codeAny_mono (code_set_led1 (.ref l) (E := E) (Q₁ := fun obj s₁ => obj = .ref s.heap.objs.size ∧ s₁ = { s with heap := s.heap.push (set0 w) }) ⟨rfl, rfl⟩) fun r s1 hr => ?_
 cases r with
 | error e => exact hr
 | ok fl =>
  cases fl with
  | ret obj =>
   obtain ⟨rfl, rfl⟩ := hr
   have oS : (s.heap.push (set0 w)).get? s.heap.objs.size = some (set0 w) := Heap.get?_push_size _ rfl
   have tS : Shared.TypeIs { s with heap := s.heap.push (set0 w) } (.ref s.heap.objs.size) "set" := ⟨_, oS, rfl⟩
   have y4 := F.called_set.init.lookup
   have y5 := F.called_set.init.bind (.ref s.heap.objs.size)
   repeat (any_goals (first | assumption | wp_step))
   refine codeAny_mono (codeAny_call_builtin (R := wants (fun r s2 => r = .none ∧ ∃ h2 tk L es ep t, s2 = { s with heap := h2, toks := tk } ∧ Has P w h2 s.heap.objs.size L es ep t ∧ Got qs qs.length L ∧
     (∀ b o, s.heap.get? b = some o → h2.get? b = some o)) E) F.called_set.init.plain F.entry_set_init (check_set_init_1 tS ?_)) fun r2 s2 hr2 => ?_
   ·obtain ⟨⟨ocls, odict, odata, oslots⟩, hol, hcl, nl, hdl⟩ := hl
    dsimp only at hcl hdl
    subst hcl hdl
    have ol2 : (s.heap.push (set0 w)).get? l = some { cls := .type "list", dict := odict, data := .seq items nl, slots := oslots } := Heap.get?_push_of_some _ hol
    have y6 := F.sub_list_set
    have y7 := F.sub_list_frozenset
    have y8 : (Value.type "list" == Value.type "dict") = false := by decide
    have l1 : (s.heap.push (set0 w)).IsList l items := ⟨_, ol2, rfl, nl, rfl⟩
    unfold Builtin.«set.__init__» noKeywords Builtin.Frozenset.updateFrom
    generalize hPI : pyIter = PI
    wp_walk
    subst hPI
    refine wpAny_pyIter_list l1 (wpAny_bind (wpAny_runValue ?_))
    have ll : l < s.heap.objs.size := Heap.lt_size hol
    have hh2 : A.in1.in1.in1.handled = none := by simp [hh]
    have nI : l ≠ (s.heap.push (set0 w)).objs.size := by rw [Heap.size_push]; exact Nat.ne_of_lt (Nat.lt_succ_of_lt ll)
    have nS : s.heap.objs.size ∉ [(s.heap.push (set0 w)).objs.size, l] := by
     rw [Heap.size_push]
     intro z
     rcases List.mem_cons.mp z with z | z
     ·exact absurd z (Nat.ne_of_lt (Nat.lt_succ_self _))
     ·exact absurd (List.mem_singleton.mp z) (Nat.ne_of_gt ll)
    have hv : ∀ (i : Nat) (v : Value), items[i]? = some v → ∃ q, qs[i]? = some q ∧ v = .ref q.1 := fun i v e => by
     rw [← Array.getElem?_toList, hi, List.getElem?_map] at e
     obtain ⟨q, e1, e2⟩ := Option.map_eq_some_iff.mp e
     exact ⟨q, e1, e2.symm⟩
    have gone : ∀ b, s.heap.objs.size ≤ b → s.heap.get? b = none := fun b hb => by
     rcases z : s.heap.get? b with _ | o
     ·rfl
     ·exact absurd (Nat.lt_of_lt_of_le (Heap.lt_size z) hb) (Nat.lt_irrefl _)
    refine upd_loop ((Walks.list hh2 _ l nI items).toS) s.heap.objs.size nS qs il few hv s.heap hq (gone _ (Nat.le_refl _)) (fun b hb => gone b (by rw [List.mem_singleton.mp hb, Heap.size_push]; exact Nat.le_succ _)) hu (items.size - 0) 0 _ (by omega) (Nat.zero_le _)
     ⟨⟨_, Heap.get?_push_size _ rfl, rfl, rfl⟩, l1.push _⟩ (fun b o e => Heap.get?_push_of_some _ (Heap.get?_push_of_some _ e)) ⟨[], #[], 0, _, has0 (Heap.get?_push_of_some _ oS), Got.zero qs⟩ fun s3 L es ep t mv hS g kp => ?_
    obtain ⟨h3, g3, d3, t3, o3⟩ := s3
    obtain rfl : g3 = s.gens := mv.gens
    obtain rfl : d3 = s.drawn := mv.drawn
    obtain rfl : o3 = s.os := mv.os
    show wpAny _ _ _ _ _ _
    refine wpAny_pure ?_
    show wpAny _ _ (ret Value.none) _ _ _
    rw [il] at g
    exact wpAny_pure ⟨rfl, h3, t3, L, es, ep, t, rfl, hS, g, kp⟩
   ·cases r2 with
    | error e => exact hr2
    | ok f2 =>
     cases f2 with
     | ret r =>
      obtain ⟨rfl, h3, tk, L, es, ep, t, rfl, hS, g, kp⟩ := hr2
      repeat (any_goals (first | assumption | wp_step))
      exact h _ _ _ _ _ _ hS g kp
     | _ => exact hr2.elim
  | _ => exact hr.elim
end
def lexL : List Int → List Int → Bool
 | _, [] => false
 | [], _ :: _ => true
 | a :: as, b :: bs => if a = b then lexL as bs else decide (a < b)
theorem lexL_irr : ∀ a, lexL a a = false
 | [] => rfl
 | a :: as => by rw [lexL, if_pos rfl, lexL_irr as]
theorem lexL_asym : ∀ a b, lexL a b = true → lexL b a = false
 | [], [], h => by simp [lexL] at h
 | [], _ :: _, _ => rfl
 | _ :: _, [], h => by simp [lexL] at h
 | a :: as, b :: bs, h => by
  rw [lexL] at h ⊢
  by_cases e : a = b
  ·rw [if_pos e] at h
   rw [if_pos e.symm]
   exact lexL_asym as bs h
  ·rw [if_neg e, decide_eq_true_eq] at h
   rw [if_neg (fun z => e z.symm), decide_eq_false_iff_not]
   omega
theorem lexL_tr : ∀ a b c, lexL b a = false → lexL c b = false → lexL c a = false
 | [], [], _, _, h => h
 | [], _ :: _, [], _, _ => rfl
 | [], b :: bs, c :: cs, h, _ => by simp [lexL] at *
 | a :: as, [], _, h, _ => by simp [lexL] at h
 | a :: as, b :: bs, [], _, h => by simp [lexL] at h
 | a :: as, b :: bs, c :: cs, h1, h2 => by
  rw [lexL] at h1 h2 ⊢
  by_cases e1 : b = a
  ·rw [if_pos e1] at h1
   by_cases e2 : c = b
   ·rw [if_pos e2] at h2
    rw [if_pos (e2.trans e1)]
    exact lexL_tr as bs cs h1 h2
   ·rw [if_neg e2] at h2
    rw [if_neg (fun z => e2 (z.trans e1.symm)), ← e1]
    exact h2
  ·rw [if_neg e1, decide_eq_false_iff_not] at h1
   by_cases e2 : c = b
   ·rw [if_neg (fun z => e1 (e2.symm.trans z)), decide_eq_false_iff_not]
    omega
   ·rw [if_neg e2, decide_eq_false_iff_not] at h2
    rw [if_neg (by omega), decide_eq_false_iff_not]
    omega
theorem lexL_conn : ∀ a b, lexL a b = false → lexL b a = false → a = b
 | [], [], _, _ => rfl
 | [], _ :: _, h, _ => by simp [lexL] at h
 | _ :: _, [], _, h => by simp [lexL] at h
 | a :: as, b :: bs, h1, h2 => by
  rw [lexL] at h1 h2
  by_cases e : a = b
  ·rw [if_pos e] at h1
   rw [if_pos e.symm] at h2
   rw [e, lexL_conn as bs h1 h2]
  ·rw [if_neg e, decide_eq_false_iff_not] at h1
   rw [if_neg (fun z => e z.symm), decide_eq_false_iff_not] at h2
   omega
theorem lexL_swo (k : Value → List Int) : SrtO.Swo fun v u => lexL (k v) (k u) := ⟨fun _ _ h => lexL_asym _ _ h, fun _ _ _ h1 h2 => lexL_tr _ _ _ h1 h2⟩
section
variable {P : Program} {w : World} {A : Around} {E : Value → Shared → Prop} {s : Shared}
theorem kat_ints {b fin : Bool} {Q : Bool → Shared → Prop} : ∀ {xs ys : List Value} {ns ms : List Int} (i : Nat), IntsAre xs ns → IntsAre ys ms → (fin = decide (ns.length < ms.length)) → Q (lexL ns ms) s → PySem.W.KatLex P w A b fin Q (xs.zip ys) i s := by
 intro xs ys ns ms i hx
 induction hx generalizing ys ms i with
 | nil =>
  intro hy ef h
  refine PySem.W.kat_nil ?_
  rw [ef]
  cases hy with
  | nil => exact h
  | cons q u hy => exact h
 | @cons p t xs ns hx ih =>
  intro hy ef h
  cases hy with
  | nil => exact PySem.W.kat_nil (by rw [ef]; exact h)
  | @cons q u ys ms hy =>
   show PySem.W.KatLex P w A b fin Q ((Value.int p t, Value.int q u) :: xs.zip ys) i s
   refine PySem.W.kat_cons (wpAny_eqBool_int ?_)
   rw [lexL] at h
   rw [List.length_cons, List.length_cons, show decide (ns.length + 1 < ms.length + 1) = decide (ns.length < ms.length) from decide_eq_decide.mpr (by omega)] at ef
   by_cases e : p = q
   ·rw [if_pos e] at h
    rw [show (p == q) = true from beq_iff_eq.mpr e]
    exact PySem.W.kat_yes (ih (i + 1) hy ef h)
   ·rw [if_neg e] at h
    rw [show (p == q) = false from beq_eq_false_iff_ne.mpr e]
    exact PySem.W.kat_no (TS.oneLt_ints _ h)
theorem ints_size {xs : List Value} {ns : List Int} (h : IntsAre xs ns) : xs.length = ns.length := by
 induction h with
 | nil => rfl
 | cons _ _ _ ih => rw [List.length_cons, List.length_cons, ih]
theorem tups_cmp {vs : List Value} {k : Value → List Int} (hp : ∀ v ∈ vs, TS.TupInts s.heap v (k v)) : SrtO.Cmp P w A s (tuples' true) (fun p => p.1 ∈ vs) (SrtO.lt2 fun v u => lexL (k v) (k u)) := by
 intro p q mp mq
 have x1 := hp _ mp
 have x2 := hp _ mq
 show wpAny (model P w) A (keyLt' (tuples' true) p.1 q.1) (fun r s2 => s2 = s ∧ r = lexL (k p.1) (k q.1)) (fun _ _ => False) s
 generalize k p.1 = m1 at x1 ⊢
 generalize k q.1 = m2 at x2 ⊢
 obtain ⟨a, xs, e, ⟨o, ho, hc, n, hd⟩, i1⟩ := x1
 obtain ⟨c, ys, e2, ⟨o2, ho2, hc2, n2, hd2⟩, i2⟩ := x2
 rw [e, e2]
 refine PySem.W.kat_lt ho hd ho2 hd2 (kat_ints 0 i1 i2 ?_ ⟨rfl, rfl⟩)
 rw [← ints_size i1, ← ints_size i2, Array.length_toList, Array.length_toList]
theorem firsts {h : Heap} {k : Value → List Int} : ∀ vs : List Value, (∀ v ∈ vs, TS.TupInts h v (k v) ∧ k v ≠ []) → ∃ fs, PySem.W.KatTups h vs fs ∧ fs.length = vs.length ∧ ∀ f ∈ fs, ∃ n t, f = Value.int n t
 | [], _ => ⟨[], PySem.W.KatTups.nil, rfl, fun f z => by simp at z⟩
 | v :: vs, x => by
  obtain ⟨fs, k1, k2, k3⟩ := firsts vs fun u z => x u (List.mem_cons_of_mem _ z)
  obtain ⟨⟨a, xs, e, ⟨o, ho, hc, n, hd⟩, i⟩, ne⟩ := x v (List.mem_cons_self ..)
  generalize k v = ns at i ne
  generalize exs : xs.toList = xl at i
  cases i with
  | nil => exact absurd rfl ne
  | @cons p t xr nr i =>
   rw [e]
   refine ⟨.int p t :: fs, PySem.W.KatTups.cons ho hc hd (by rw [← Array.getElem?_toList, exs]; rfl) k1, by rw [List.length_cons, List.length_cons, k2], fun f z => ?_⟩
   rcases List.mem_cons.mp z with rfl | z
   ·exact ⟨p, t, rfl⟩
   ·exact k3 f z
theorem tups_sortable {a : Addr} {vs : List Value} {k : Value → List Int} (h0 : 0 < vs.length) (hp : ∀ v ∈ vs, TS.TupInts s.heap v (k v) ∧ k v ≠ []) (ha : ∀ o, s.heap.get? a = some o → o.cls ≠ .type "tuple") : SrtO.SortableO P w A s a vs fun v u => lexL (k v) (k u) := by
 intro h2 keep
 have hp2 : ∀ v ∈ vs, TS.TupInts h2 v (k v) ∧ k v ≠ [] := fun v z => ⟨(hp v z).1.keeps fun b o e c => keep b o (fun y => ha o (y ▸ e) c) e, (hp v z).2⟩
 obtain ⟨fs, k1, k2, k3⟩ := firsts vs hp2
 refine ⟨tuples' true, fun Q E hq => ?_, tups_cmp fun v z => (hp2 v z).1⟩
 refine PySem.W.kat_kind (T := .type "int") k1 (by omega) (fun f z => ?_) (by rfl) ?_
 ·obtain ⟨x, t, rfl⟩ := k3 f z
  exact PySem.W.Looks.now
 ·rw [show (Value.type "int" != Value.type "tuple") = true by decide]
  exact hq
theorem rows_of {M : List (Addr × List Int)} : ∀ vs : List Value, (∀ v ∈ vs, ∃ q ∈ M, v = Value.ref q.1) → ∃ N : List (Addr × List Int), vs = N.map (fun q => Value.ref q.1) ∧ ∀ q ∈ N, q ∈ M
 | [], _ => ⟨[], rfl, fun q z => (by cases z)⟩
 | v :: vs, hv => by
  obtain ⟨q, hq, e⟩ := hv v List.mem_cons_self
  obtain ⟨N, e1, sub⟩ := rows_of vs fun u z => hv u (List.mem_cons_of_mem _ z)
  exact ⟨q :: N, by rw [List.map_cons, e, e1], List.forall_mem_cons.mpr ⟨hq, sub⟩⟩
theorem rows_perm {h : Heap} {M N : List (Addr × List Int)} (tup : ∀ q ∈ M, IsT P w h q.2 q.1) (nd : (M.map (·.2)).Nodup) (sub : ∀ q ∈ N, q ∈ M) (pm : (N.map fun q => Value.ref q.1).Perm (M.map fun q => Value.ref q.1)) : N.Perm M := by
 have one : ∀ q ∈ M, ∀ r ∈ M, q.1 = r.1 → q = r := fun q hq r hr e => by
  have x := tup q hq
  rw [e] at x
  exact Prod.ext e (x.inj (tup r hr))
 have nM : M.Nodup := nodup_of_map nd
 have nR : (M.map fun q => Value.ref q.1).Nodup := List.pairwise_map.mpr (List.Pairwise.imp_of_mem (fun {q r} hq hr ne e => ne (one q hq r hr (Value.ref.inj e))) nM)
 refine (List.perm_ext_iff_of_nodup (nodup_of_map (pm.nodup_iff.mpr nR)) nM).mpr fun q => ⟨sub q, fun hq => ?_⟩
 obtain ⟨r, hr, e⟩ := List.mem_map.mp (pm.mem_iff.mpr (List.mem_map.mpr ⟨q, hq, rfl⟩))
 rwa [← one r (sub r hr) q hq (Value.ref.inj e)]
theorem sorted_has {a : Addr} {L : List (Addr × List Int)} {es : Array (Int × Value)} {ep : Nat} {t : SetTable} {Q : Value → Shared → Prop} (R : Has P w s.heap a L es ep t) (hh : A.handled = none) (ne : ∀ q ∈ L, q.2 ≠ [])
  (hQ : ∀ s2 p (out : Array Value) (c : Nat) (N : List (Addr × List Int)), (∀ b o, s.heap.get? b = some o → s2.heap.get? b = some o) → s2.gens = s.gens → s2.os = s.os → s.heap.objs.size ≤ p →
   s2.heap.get? p = some (seqObj "list" out c) → out.toList = N.map (fun q => Value.ref q.1) → N.Perm L → N.Pairwise (fun q r => lexL r.2 q.2 = false) → Q (.ref p) s2) :
  wpAny (model P w) A (call (.builtin "sorted") [.ref a]) Q E s := by
 obtain ⟨o, ho, hex, hd⟩ := R.obj
 have sl := rows_len R.rows
 have few := R.few
 refine Calls.call_function_entry kind_sorted plain_sorted entry_sorted (args_sorted1 _) ?_
 unfold Builtin.«sorted»
 refine wpAny_bind (m := checkCount "sorted" 1 1 _) (wpAny_pure ?_)
 refine wpAny_bind (collect_set (A := A.in1) hh ⟨o, ho, hex.1, hd⟩ R.fits (by unfold scanBound; omega) R.tab.rise R.led fun s1 vs k1 hz g1 o1 pm => ?_)
 rw [show es.toList.map (·.2) = L.map fun q => Value.ref q.1 by rw [R.rows]; unfold rowsOf; rw [List.map_map]; rfl] at pm
 have vl : vs.length = L.length := by rw [pm.length_eq, List.length_map]
 refine wpAny_bind (wpAny_newList ?_ (by rw [sizeLine_eq, vl]; omega))
 have oL : (s1.heap.push (seqObj "list" vs.toArray 0)).get? s1.heap.objs.size = some (seqObj "list" vs.toArray 0) := Heap.get?_push_size _ rfl
 have tk : ∀ q ∈ L, TS.TupInts (s1.heap.push (seqObj "list" vs.toArray 0)) (.ref q.1) q.2 := fun q hq => tupInts_of (P := P) (w := w) (isT_keep (R.tup q hq) fun b u e => Heap.get?_push_of_some _ (k1 b u e))
 have mem : ∀ v ∈ vs, ∃ q ∈ L, v = Value.ref q.1 := fun v hv => by
  obtain ⟨q, hq, e⟩ := List.mem_map.mp (pm.mem_iff.mp hv)
  exact ⟨q, hq, e.symm⟩
 have go : wpAny (model P w) A.in1 (call (.builtin "list.sort") [.ref s1.heap.objs.size]) (fun v s2 => v = .none ∧ ∃ (out : Array Value) (c : Nat) (N : List (Addr × List Int)), s2 = { s1 with heap := sortedHeap (s1.heap.push (seqObj "list" vs.toArray 0)) s1.heap.objs.size vs out } ∧ out.toList = N.map (fun q => Value.ref q.1) ∧
   s2.heap.get? s1.heap.objs.size = some (seqObj "list" out c) ∧ N.Perm L ∧ N.Pairwise (fun q r => lexL r.2 q.2 = false)) E { s1 with heap := s1.heap.push (seqObj "list" vs.toArray 0) } := by
  refine wpAny_call_entry slot_list_sort ⟨_, oL, rfl⟩ entry_list_sort (SrtO.list_sort_ord (lexL_swo (TS.intsOf (s1.heap.push (seqObj "list" vs.toArray 0)))) oL (by rw [sizeLine_eq, vl]; omega) (fun h2 => ?_) fun out hs hb => ⟨_, rfl, rfl, out.toArray, ?_⟩) (args_list_sort _)
  ·refine tups_sortable (by omega) (fun v hv => ?_) fun o e c => ?_
   ·obtain ⟨q, hq, rfl⟩ := mem v hv
    rw [(tk q hq).ints]
    exact ⟨tk q hq, ne q hq⟩
   ·have z : some o = some (seqObj "list" vs.toArray 0) := e.symm.trans oL
    cases z
    exact absurd (Value.type.inj c) (by decide)
  ·obtain ⟨c, hc⟩ := sortedHeap_at (vs := vs) (out := out.toArray) oL
   obtain ⟨N, e, sub⟩ := rows_of out fun v hv => mem v (hb.perm.mem_iff.mp hv)
   refine ⟨c, N, rfl, e, hc, rows_perm R.tup R.one sub (by rw [← e]; exact hb.perm.trans pm), ?_⟩
   have hs : List.Pairwise _ out := hs
   rw [e, List.pairwise_map] at hs
   refine List.Pairwise.imp_of_mem (fun {q r} hq hr h => ?_) hs
   have h : lexL (TS.intsOf _ (Value.ref r.1)) (TS.intsOf _ (Value.ref q.1)) = false := h
   rwa [(tk q (sub q hq)).ints, (tk r (sub r hr)).ints] at h
 refine wpAny_bind (wpAny_holding (wpAny_mono go (fun v s2 hv => ?_) fun _ _ z => z))
 obtain ⟨rfl, out, c, N, rfl, e, hc, pN, pw⟩ := hv
 refine wpAny_pure ⟨_, rfl, hQ _ s1.heap.objs.size out c N (fun b u e => ?_) g1 o1 hz hc e pN pw⟩
 have y := k1 b u e
 have lt := Heap.lt_size y
 show (sortedHeap (s1.heap.push (seqObj "list" vs.toArray 0)) s1.heap.objs.size vs out).get? b = some u
 rw [sortedHeap_old (Nat.ne_of_lt lt) (by rw [size_push']; exact Nat.lt_succ_of_lt lt)]
 exact Heap.get?_push_of_some _ y
end
end Tb
namespace L2
open PySem PySem.Spec PyProof.Rows
structure TSet0 (P : Program) (w : World) (h : Heap) (a : Addr) (L : List (Addr × List Int)) : Prop where
 ex : ∃ (es : Array (Int × Value)) (ep : Nat) (t : SetTable), (∃ o, h.get? a = some o ∧ o.ExactSet ∧ o.data = .set es ep t) ∧ es.toList = rowsOf P w L ∧ Tb.Tab t (L.map fun p => thash P w p.2) ∧ (L.map (·.2)).Nodup ∧ t.plain = true ∧
  (w.params.followText "set-order" = true ∨ t.led = true) ∧ L.length * 5 < t.mask * 3 ∧ L.length < 4096
def TSetO (P : Program) (w : World) (a : Addr) (L : List (Addr × List Int)) : HO := .ext fun h => TSet0 P w h a L
theorem TSet0.of {P : Program} {w : World} {h : Heap} {a : Addr} {L : List (Addr × List Int)} {es : Array (Int × Value)} {ep : Nat} {t : SetTable} (R : Tb.Has P w h a L es ep t) : TSet0 P w h a L :=
 ⟨es, ep, t, R.obj, R.rows, R.tab, R.one, R.plain, R.led, R.room, R.few⟩
theorem TSet0.has {P : Program} {w : World} {h : Heap} {a : Addr} {L : List (Addr × List Int)} (R : TSet0 P w h a L) (ht : ∀ p ∈ L, IsT P w h p.2 p.1) : ∃ es ep t, Tb.Has P w h a L es ep t :=
 have ⟨es, ep, t, h1, h2, h3, h4, h5, h6, h7, h8⟩ := R.ex
 ⟨es, ep, t, h1, h2, h3, h4, ht, h5, h6, h7, h8⟩
theorem tsetO_new {P : Program} {w : World} {H : Hp} {h : Heap} {a : Addr} {L : List (Addr × List Int)} (R : TSet0 P w h a L) : ObjOk P w H h a (TSetO P w a L) := by
 have ⟨es, ep, t, ⟨o, ho, r⟩, q⟩ := R.ex
 refine ⟨R, ⟨o, ho⟩, fun h1 h2 p k => ?_⟩
 have ⟨es', ep', t', ⟨o', ho', r'⟩, q'⟩ := TSet0.ex p
 exact ⟨es', ep', t', ⟨o', k o' ho', r'⟩, q'⟩
section
variable {X : Cx}
def rTSet (K : PySem.W.Frag) (P : Program) (w : World) : List V → Hp → VK → Prop := fun xs H Q => ∃ (l : Addr) (ks : List (Addr × List Int)), xs = [V.ref l] ∧ SqL K H l (ks.map fun p => V.ref p.1) ∧ (∀ p ∈ ks, SqT K H p.1 (p.2.map V.int)) ∧ ks.length < 4096 ∧
 ∀ a L, H a = none → (∀ p ∈ L, p ∈ ks) → (∀ p ∈ ks, p.2 ∈ L.map (·.2)) → (L.map (·.2)).Nodup → Q (.ref a) (upd H a (TSetO P w a L))
theorem cr_tset (hc : X.calm = true) (hu : X.A.units + 64 < cLine) : CallR X (.type "set") (rTSet X.K X.prog X.w) := by
 intro pins s σ H xs us Q I r h
 obtain ⟨l, ks, rfl, hl, hk, hf, q⟩ := h
 rw [Vals.ref1 r]
 obtain ⟨its, rv, pl, hz⟩ := I.list hl
 refine Tb.call_set (P := X.prog) (w := X.w) ks (I.ok.hd hc) pl.isList (by simpa using refs_of_vals rv) (fun p hp => I.isT (hk p hp)) hf (by omega) fun h2 tk L es ep t R g k => ?_
 exact ⟨.ref s.heap.objs.size, upd H s.heap.objs.size (TSetO X.prog X.w s.heap.objs.size L), I.laid (t' := tk) k (Nat.le_refl _) (tsetO_new (TSet0.of R)), rfl,
  q _ L (I.hok.fresh (Nat.le_refl _)) (fun p z => List.mem_of_mem_take (g.sub p z)) (fun p z => g.all p (by rwa [List.take_length])) R.one⟩
def rTSort (K : PySem.W.Frag) (P : Program) (w : World) : List V → Hp → VK → Prop := fun vs H Q => ∃ (a : Addr) (L : List (Addr × List Int)), vs = [V.ref a] ∧ H a = some (TSetO P w a L) ∧ (∀ p ∈ L, SqT K H p.1 (p.2.map V.int)) ∧ (∀ p ∈ L, p.2 ≠ []) ∧
 ∀ (N : List (Addr × List Int)) (p : Addr), N.Perm L → N.Pairwise (fun q r => Tb.lexL r.2 q.2 = false) → N.length < 4096 → H p = none → Q (.ref p) (upd H p (.lst (N.map fun q => V.ref q.1)))
theorem cr_tsort (hc : X.calm = true) : CallR X (.builtin "sorted") (rTSort X.K X.prog X.w) := by
 intro pins s σ H vs us Q I r h
 obtain ⟨a, L, rfl, ha, hk, hne, q⟩ := h
 obtain ⟨es, ep, t, R⟩ := TSet0.has (show TSet0 X.prog X.w s.heap a L from (I.hok a _ ha).1) fun p hp => I.isT (hk p hp)
 rw [Vals.ref1 r]
 refine Tb.sorted_has R (I.ok.hd hc) hne fun s2 p out c N k g o hp hg hout pm pw => ?_
 have few : N.length < 4096 := by rw [pm.length_eq]; exact R.few
 have n : H p = none := I.hok.fresh hp
 have J : Inv X pins σ (upd H p (.lst (N.map fun q => V.ref q.1))) { s with heap := s2.heap, gens := s2.gens, drawn := s2.drawn, toks := s2.toks } :=
  I.call (ch := []) (Un.laid k hp n) (I.hok.laid k hp ⟨by rw [List.length_map, sizeLine_eq]; omega, out.toList, c, by rw [hout]; exact vals_of_refs N, hg⟩) (by rw [g]; exact I.bare) (fun _ z => nomatch z)
 have e : s2 = { s with heap := s2.heap, gens := s2.gens, drawn := s2.drawn, toks := s2.toks } := by cases s2; cases s; cases o; rfl
 rw [e]
 exact ⟨.ref p, _, J, rfl, q N p pm pw few n⟩
end
end L2
namespace L2
open PySem PySem.Spec PyProof.Rows
section
variable {X : Cx}
def rLenTS (K : PySem.W.Frag) (P : Program) (w : World) : List V → Hp → VK → Prop := fun xs H Q => ∃ (a : Addr) (L : List (Addr × List Int)), xs = [V.ref a] ∧ H a = some (TSetO P w a L) ∧ (∀ p ∈ L, SqT K H p.1 (p.2.map V.int)) ∧ Q (.int L.length) H
theorem cr_lenTS : CallR X (.builtin "len") (rLenTS X.K X.prog X.w) := by
 intro pins s σ H vs us Q I r h
 obtain ⟨a, L, rfl, ha, hk, q⟩ := h
 obtain ⟨es, ep, t, R⟩ := TSet0.has (show TSet0 X.prog X.w s.heap a L from (I.hok a _ ha).1) fun p hp => I.isT (hk p hp)
 rw [Vals.ref1 r]
 obtain ⟨o, ho, hex, hd⟩ := R.obj
 have sz : es.size = L.length := by
  rw [← Array.length_toList, R.rows]
  unfold rowsOf
  rw [List.length_map]
 have few := R.few
 exact call_len_set ho hex hd R.fits (by omega) ⟨.int L.length, H, I.tok _, ⟨_, by rw [sz]⟩, q⟩
end
end L2
namespace L2
open PySem PySem.Spec PyProof.Rows
section
variable {X : Cx}
end
end L2
namespace Gx
open PySem PySem.Spec PyProof.Rows L2 GenW
def noCellB (ns : List (Str × NameKind)) : Bool := ns.all fun y => !(y.2 == .cell)
theorem noCell_at {ns : List (Str × NameKind)} (h : noCellB ns = true) : ∀ x, ns.lookup x ≠ some .cell := by
 induction ns with
 | nil => intro x e; cases e
 | cons y ns ih =>
  intro x e
  have h := Bool.and_eq_true_iff.mp h
  rw [List.lookup_cons] at e
  cases q : (x == y.1) with
  | true =>
   rw [q] at e
   have e2 : y.2 = .cell := Option.some.inj e
   have h1 : (!(y.2 == .cell)) = true := h.1
   rw [e2] at h1
   exact absurd h1 (by decide)
  | false =>
   rw [q] at e
   exact ih h.2 x e
theorem noCell_from {ns : List (Str × NameKind)} (h : noCellB ns = true) : ∀ n, cellsFrom n ns [] = [] := by
 induction ns with
 | nil => intro n; rfl
 | cons y ns ih =>
  intro n
  have h := Bool.and_eq_true_iff.mp h
  have h1 : (y.2 == .cell) = false := by
   have z : (!(y.2 == .cell)) = true := h.1
   rwa [Bool.not_eq_true'] at z
  show (if y.2 == .cell then _ else _) = _
  rw [h1]
  exact ih h.2 n
structure GSc (N P : List Str) (sc : Scope) : Prop where
 g : GScope N P sc
 nc : noCellB sc.names = true
theorem GSc.nd {N P : List Str} {sc : Scope} (S : GSc N P sc) : N.Nodup := S.g.nd
theorem gfx_fun {P : Program} {w : World} {K : PySem.W.Frag} {mg : Str → Option Value} {base : Heap} {k : Nat} {x qual : Str} {st : Stmt} {f : Addr} {fd : FuncData} {N ps : List Str} {sp : SpGx} (F : L2.Fun K x qual st f fd) (S : GSc N ps (defScope st)) (len : ∀ vs H C E, sp vs H C E → vs.length = ps.length)
  (hbody : ∀ (cdv : Value) (A : Around) (outer : List Env) (s : Shared) (H : Hp) (vs : List V) (C : GCt) (E : XK) (pn : List (Addr × Obj)), Room k (A.deeper (envOfC qual (defScope st) s.heap.objs.size f cdv)) → sp vs H C E →
   ∃ t, GF (gcxOf P w K mg base N qual (defScope st) f cdv A outer s H E pn) (defBody st) t ∧ t { c := C, nx := fun j Hw _ H' => j = C.n ∧ C.fin Hw H', rt := fun j Hw v H' => v = .non ∧ j = C.n ∧ C.fin Hw H' } 0 H (start N vs) H) :
  GFx P w K mg base (k + 1) f fd ps sp := by
 obtain ⟨oc, od, kV, doc, pm, an, cdv, ct, osl, rfl, lk, hcd⟩ := F.ex
 exact gfx_of lk hcd S.g ⟨noCell_from S.nc 0, noCell_at S.nc⟩ (noCell_from S.nc) len fun A outer s H vs C E pn hr h => hbody cdv A outer s H vs C E pn hr h
def nsX (K : PySem.W.Frag) (E : XK) : XK := fun cls d H => E cls d H ∧ PySem.W.subIn K cls (.type "StopIteration") = some false
theorem pe_listN {X : Cx} {k : Nat} {e : Expr} {tg : L2.St → TGc} {E : L2.St → XK} {nm : Str} {p pos : Pos} (h : ∀ σ, PGn X k e (tg σ) (nsX X.K (E σ))) (hr : Room (k + 3) X.A) (hx : ∀ σ, PassesAt (CX X.prog X.w) X σ (E σ)) (hg : Gl X nm) (hmg : X.mg nm = none) (hv : bootBuiltins nm = some (.type "list")) (hnm : nm ≠ "__name__" := by decide) (hdb : (nm == ("__debug__" : Str)) = false := by decide)
  (he : starEach [e] X.env = (false, eval e X.env) :: starEach [] X.env := by rfl) : PE X (.Call (.Name nm p) [e] [] pos) (fun σ => tListS (tg σ) σ) :=
 ⟨fun pins s σ H Q I hq => run_listS (h σ) hr (fun p H s e s' I hc => by
  obtain ⟨a, B, H', cls, d, z1, z2, z3, z4, z5, z6, z7, z8⟩ := hc
  exact hx σ p H s e s' I ⟨a, B, H', cls, d, z1, z2, z3, z4, z5, z6, z7, z8.1⟩) (fun _ _ _ z => z.2) hg hmg hv hnm hdb he pins s H Q I hq⟩
theorem blkG {Y : Cx} {tg : Expr} {t' t : TG} (h : PG Y tg t') (q : t' = t) : PG Y tg t := q ▸ h
theorem blkE {Y : Cx} {e : Expr} {t' t : TE} (h : PE Y e t') (q : t' = t) : PE Y e t := q ▸ h
theorem blkZ {Z : Cx → Prop} {Y : Cx} {tg e : Expr} {t' t : TGI} (h : PIS Z Y tg e t') (q : t' = t) : PIS Z Y tg e t := q ▸ h
section
variable {σ : L2.St} {H Hw : Hp} {j : Nat} {D : GEnds} {t u tb : TGn} {g : TG} {te : TE} {ts : TS}
theorem go_gthen (h : t { D with nx := fun j' Hw' σ' H' => u D j' Hw' σ' H' } j Hw σ H) : tGThen t u D j Hw σ H := h
theorem go_gyield (h : te σ H fun x H1 => j < D.c.n ∧ D.c.yld j Hw x H1 ∧ ∀ H2, D.c.rely H1 H2 → D.nx (j + 1) H2 σ H2) : tGYield te D j Hw σ H := h
theorem go_tpi {wi : TI} {R : GIt → Hp → Prop} (h : wi σ H fun J H1 => R (itG J) H1) : tPi wi σ H R := h
theorem go_tgen {tg : TGc} {R : GIt → Hp → Prop} (h : tg σ H fun C H1 => R (itC C) H1) : tGen tg σ H R := h
theorem go_gfor {wi : TGI} (h : wi σ H fun J H1 => ∃ (n : Nat) (W : Nat → Nat → Hp → L2.St → Hp → Prop), W 0 j Hw σ H1 ∧
 (∀ i j Hw σ H, i < n → W i j Hw σ H → J.go i H ∧ ∀ x H2, J.yld i H x H2 → g x σ H2 fun σ3 H3 => tb { D with nx := fun j4 Hw4 σ4 H4 => J.rely H2 H4 ∧ W (i + 1) j4 Hw4 σ4 H4, ct := fun j4 Hw4 σ4 H4 => J.rely H2 H4 ∧ W (i + 1) j4 Hw4 σ4 H4, bk := D.nx } j Hw σ3 H3) ∧
 ∀ j Hw σ H, W n j Hw σ H → (∃ H2, J.stop n H H2) ∧ ∀ H2, J.stop n H H2 → D.nx j Hw σ H2) : tGFor wi g tb D j Hw σ H := h
theorem gfor_by {J : It} {n : Nat} {G : Hp → Prop} {Y : Nat → Hp → V → Hp → Prop} (w : Walk J n G Y) (Pv : Nat → Nat → Hp → L2.St → Hp → Prop) (h0 : Pv 0 j Hw σ H) (hG : ∀ i j Hw σ H, i ≤ n → Pv i j Hw σ H → G H)
  (hs : ∀ i j Hw σ H x H2, i < n → Pv i j Hw σ H → Y i H x H2 → g x σ H2 fun σ3 H3 => tb { D with nx := fun j4 Hw4 σ4 H4 => True ∧ Pv (i + 1) j4 Hw4 σ4 H4, ct := fun j4 Hw4 σ4 H4 => True ∧ Pv (i + 1) j4 Hw4 σ4 H4, bk := D.nx } j Hw σ3 H3)
  (hd : ∀ j Hw σ H, Pv n j Hw σ H → D.nx j Hw σ H) : ∃ (n : Nat) (W : Nat → Nat → Hp → L2.St → Hp → Prop), W 0 j Hw σ H ∧
 (∀ i j Hw σ H, i < n → W i j Hw σ H → (itG J).go i H ∧ ∀ x H2, (itG J).yld i H x H2 → g x σ H2 fun σ3 H3 => tb { D with nx := fun j4 Hw4 σ4 H4 => (itG J).rely H2 H4 ∧ W (i + 1) j4 Hw4 σ4 H4, ct := fun j4 Hw4 σ4 H4 => (itG J).rely H2 H4 ∧ W (i + 1) j4 Hw4 σ4 H4, bk := D.nx } j Hw σ3 H3) ∧
 ∀ j Hw σ H, W n j Hw σ H → (∃ H2, (itG J).stop n H H2) ∧ ∀ H2, (itG J).stop n H H2 → D.nx j Hw σ H2 :=
 ⟨n, Pv, h0, fun i j Hw σ H hi p => ⟨w.goes i H hi (hG i j Hw σ H (Nat.le_of_lt hi) p), fun x H2 y => hs i j Hw σ H x H2 hi p (w.yields i H x H2 hi (hG i j Hw σ H (Nat.le_of_lt hi) p) y)⟩,
  fun j Hw σ H p => ⟨⟨H, w.stops H (hG n j Hw σ H (Nat.le_refl _) p), rfl⟩, fun H2 e => by rw [e.2]; exact hd j Hw σ H p⟩⟩
end
end Gx
namespace Vc
open PySem PySem.Spec PyProof.Rows L2
theorem blkI {Y : Cx} {tg e : Expr} {w' w : TI} (h : PI Y tg e w') (q : w' = w) : PI Y tg e w := q ▸ h
section
variable {σ : L2.St} {H : Hp} {Q : VK} {wi wi1 : TI} {g g1 : TG} {tt tt1 : TT} {te : TE} {vs vs1 : List Nat}
theorem go_lc2 (h : wi σ H fun J H1 => ∀ D, H1 D = none → ∃ W : Nat → Nat → Hp → Prop, (∃ m, W 0 m (upd H1 D (.lst []))) ∧ ∀ i m H, W i m H →
 (J.stop i H ∧ Q (.ref D) H) ∨ (J.go i H ∧ ∃ Nx : Hp → Prop, (∀ H', Nx H' → ∃ m', m' < m ∧ W (i + 1) m' H') ∧ ∀ x H', J.yld i H x H' → g x (wipe σ vs) H' fun σ2 H2 => wipe σ2 vs = wipe σ vs ∧ tt σ2 H2 fun b H3 =>
  if b = true then wi1 σ2 H3 fun J1 H4 => ∃ W1 : Nat → Nat → Hp → Prop, (∃ m, W1 0 m H4) ∧ ∀ j k H, W1 j k H →
   (J1.stop j H ∧ Nx H) ∨ (J1.go j H ∧ ∃ Nx1 : Hp → Prop, (∀ H', Nx1 H' → ∃ k', k' < k ∧ W1 (j + 1) k' H') ∧ ∀ x H', J1.yld j H x H' → g1 x (wipe σ2 vs1) H' fun σ3 H5 => wipe σ3 vs1 = wipe σ2 vs1 ∧ tt1 σ3 H5 fun b H6 =>
    if b = true then te σ3 H6 fun y H7 => ∃ acc, H7 D = some (.lst acc) ∧ acc.length < sizeLine ∧ Nx1 (upd H7 D (.lst (acc ++ [y]))) else Nx1 H6)
  else Nx H3)) : tLc2 wi g tt wi1 g1 tt1 te vs vs1 σ H Q := h
theorem lc2_by {J : It} {n : Nat} {G : Hp → Prop} {Y : Nat → Hp → V → Hp → Prop} {R : Addr → Hp → Prop} (w : Walk J n G Y) (Pv : Addr → Nat → Hp → Prop) (h0 : ∀ D H2, H D = none → Ed [] H H2 → H2 D = some (.lst []) → Pv D 0 H2) (hG : ∀ D i H', H D = none → i ≤ n → Pv D i H' → G H')
  (hs : ∀ D i x H1 H', H D = none → i < n → Pv D i H1 → Y i H1 x H' → g x (wipe σ vs) H' fun σ2 H2 => wipe σ2 vs = wipe σ vs ∧ tt σ2 H2 fun b H3 =>
   if b = true then wi1 σ2 H3 fun J1 H4 => ∃ W1 : Nat → Nat → Hp → Prop, (∃ m, W1 0 m H4) ∧ ∀ j k H, W1 j k H →
    (J1.stop j H ∧ Pv D (i + 1) H) ∨ (J1.go j H ∧ ∃ Nx1 : Hp → Prop, (∀ H', Nx1 H' → ∃ k', k' < k ∧ W1 (j + 1) k' H') ∧ ∀ x H', J1.yld j H x H' → g1 x (wipe σ2 vs1) H' fun σ3 H5 => wipe σ3 vs1 = wipe σ2 vs1 ∧ tt1 σ3 H5 fun b H6 =>
     if b = true then te σ3 H6 fun y H7 => ∃ acc, H7 D = some (.lst acc) ∧ acc.length < sizeLine ∧ Nx1 (upd H7 D (.lst (acc ++ [y]))) else Nx1 H6)
   else Pv D (i + 1) H3) (hd : ∀ D H', H D = none → Pv D n H' → R D H') :
  ∀ D, H D = none → ∃ W : Nat → Nat → Hp → Prop, (∃ m, W 0 m (upd H D (.lst []))) ∧ ∀ i m H, W i m H →
   (J.stop i H ∧ R D H) ∨ (J.go i H ∧ ∃ Nx : Hp → Prop, (∀ H', Nx H' → ∃ m', m' < m ∧ W (i + 1) m' H') ∧ ∀ x H', J.yld i H x H' → g x (wipe σ vs) H' fun σ2 H2 => wipe σ2 vs = wipe σ vs ∧ tt σ2 H2 fun b H3 =>
    if b = true then wi1 σ2 H3 fun J1 H4 => ∃ W1 : Nat → Nat → Hp → Prop, (∃ m, W1 0 m H4) ∧ ∀ j k H, W1 j k H →
     (J1.stop j H ∧ Nx H) ∨ (J1.go j H ∧ ∃ Nx1 : Hp → Prop, (∀ H', Nx1 H' → ∃ k', k' < k ∧ W1 (j + 1) k' H') ∧ ∀ x H', J1.yld j H x H' → g1 x (wipe σ2 vs1) H' fun σ3 H5 => wipe σ3 vs1 = wipe σ2 vs1 ∧ tt1 σ3 H5 fun b H6 =>
      if b = true then te σ3 H6 fun y H7 => ∃ acc, H7 D = some (.lst acc) ∧ acc.length < sizeLine ∧ Nx1 (upd H7 D (.lst (acc ++ [y]))) else Nx1 H6)
    else Nx H3) := by
 intro D nD
 refine ⟨fun i m H' => i + m = n ∧ Pv D i H', ⟨n, Nat.zero_add n, h0 D _ nD (Ed.new nD) upd_same⟩, fun i m H' ⟨e, p⟩ => ?_⟩
 by_cases hi : i < n
 ·refine .inr ⟨w.goes i H' hi (hG D i H' nD (Nat.le_of_lt hi) p), fun H2 => Pv D (i + 1) H2, fun H2 p2 => ⟨m - 1, by omega, by omega, p2⟩, fun x H2 y => hs D i x H' H2 nD hi p (w.yields i H' x H2 hi (hG D i H' nD (Nat.le_of_lt hi) p) y)⟩
 ·have ei : i = n := by omega
  subst ei
  exact .inl ⟨w.stops H' (hG D i H' nD (Nat.le_refl _) p), hd D H' nD p⟩
theorem lc1_by {J1 : It} {n : Nat} {G : Hp → Prop} {Y : Nat → Hp → V → Hp → Prop} {D : Addr} {N : Hp → Prop} {σ2 : L2.St} (w : Walk J1 n G Y) (Pv : Nat → Hp → Prop) (h0 : Pv 0 H) (hG : ∀ j H', j ≤ n → Pv j H' → G H')
  (hs : ∀ j x H1 H', j < n → Pv j H1 → Y j H1 x H' → g1 x (wipe σ2 vs1) H' fun σ3 H5 => wipe σ3 vs1 = wipe σ2 vs1 ∧ tt1 σ3 H5 fun b H6 =>
   if b = true then te σ3 H6 fun y H7 => ∃ acc, H7 D = some (.lst acc) ∧ acc.length < sizeLine ∧ Pv (j + 1) (upd H7 D (.lst (acc ++ [y]))) else Pv (j + 1) H6) (hd : ∀ H', Pv n H' → N H') :
  ∃ W1 : Nat → Nat → Hp → Prop, (∃ m, W1 0 m H) ∧ ∀ j k H, W1 j k H →
   (J1.stop j H ∧ N H) ∨ (J1.go j H ∧ ∃ Nx1 : Hp → Prop, (∀ H', Nx1 H' → ∃ k', k' < k ∧ W1 (j + 1) k' H') ∧ ∀ x H', J1.yld j H x H' → g1 x (wipe σ2 vs1) H' fun σ3 H5 => wipe σ3 vs1 = wipe σ2 vs1 ∧ tt1 σ3 H5 fun b H6 =>
    if b = true then te σ3 H6 fun y H7 => ∃ acc, H7 D = some (.lst acc) ∧ acc.length < sizeLine ∧ Nx1 (upd H7 D (.lst (acc ++ [y]))) else Nx1 H6) := by
 refine ⟨fun j k H' => j + k = n ∧ Pv j H', ⟨n, Nat.zero_add n, h0⟩, fun j k H' ⟨e, p⟩ => ?_⟩
 by_cases hj : j < n
 ·refine .inr ⟨w.goes j H' hj (hG j H' (Nat.le_of_lt hj) p), fun H2 => Pv (j + 1) H2, fun H2 p2 => ⟨k - 1, by omega, by omega, p2⟩, fun x H2 y => hs j x H' H2 hj p (w.yields j H' x H2 hj (hG j H' (Nat.le_of_lt hj) p) y)⟩
 ·have ei : j = n := by omega
  subst ei
  exact .inl ⟨w.stops H' (hG j H' (Nat.le_refl _) p), hd H' p⟩
end
end Vc
namespace Hx
open PySem PySem.Spec PyProof.Rows L2
def chk (l : List (PySem.W.Frag → Bool)) (K : PySem.W.Frag) : Bool := l.all fun f => f K
theorem fact {l : List (PySem.W.Frag → Bool)} {K : PySem.W.Frag} (h : chk l K = true) (i : Nat) {f : PySem.W.Frag → Bool} (e : l[i]? = some f) : f K = true := List.all_eq_true.mp h f (List.mem_of_getElem? e)
theorem chk_app {a b : List (PySem.W.Frag → Bool)} {K : PySem.W.Frag} (h : chk (a ++ b) K = true) : chk a K = true ∧ chk b K = true := by
 have h1 : (a ++ b).all (fun f => f K) = true := h
 rw [List.all_append] at h1
 exact Bool.and_eq_true_iff.mp h1
theorem app_chk {a b : List (PySem.W.Frag → Bool)} {K : PySem.W.Frag} (h1 : chk a K = true) (h2 : chk b K = true) : chk (a ++ b) K = true := by
 show (a ++ b).all (fun f => f K) = true
 rw [List.all_append]
 exact Bool.and_eq_true_iff.mpr ⟨h1, h2⟩
structure Dq where
 a : Addr
 name : Str
 qual : Str
 params : Arguments
 body : List Stmt
 scope : Scope
 clo : List (Str × Addr)
abbrev FnQ : Type := Option (Str × Str × Arguments × FuncBody × Scope × Addr × List (Str × Addr) × Addr)
def fnQ (K : PySem.W.Frag) (d : Dq) : FnQ := match K.lookup d.a with
 | some ⟨_, _, .func fd, _⟩ => some (fd.name, fd.qualname, fd.params, fd.body, fd.scope, fd.globals, fd.closure, fd.builtins)
 | _ => none
def Dq.val (d : Dq) : FnQ := some (d.name, d.qual, d.params, .stmts d.body, d.scope, mainGlobals, d.clo, builtinsNs)
def fdB (K : PySem.W.Frag) (a : Addr) (p : FuncData → Bool) : Bool := match K.lookup a with
 | some ⟨_, _, .func fd, _⟩ => p fd
 | _ => false
def nonV : Value → Bool
 | .none => true
 | _ => false
def refB (n : Addr) : Value → Bool
 | .ref a => a == n
 | _ => false
theorem nonV_ok {v : Value} (h : nonV v = true) : v = .none := by cases v <;> first | rfl | cases h
theorem refB_ok {n : Addr} {v : Value} (h : refB n v = true) : v = .ref n := by
 cases v with
 | ref a => rw [beq_iff_eq.mp (show (a == n) = true from h)]
 | _ => cases h
theorem ba {a b : Bool} (h : (a && b) = true) : a = true ∧ b = true := Bool.and_eq_true_iff.mp h
theorem at_map {fn : List Dq} {K : PySem.W.Frag} (e : fn.map (fnQ K) = fn.map Dq.val) (i : Nat) {d : Dq} (h : fn[i]? = some d) : fnQ K d = d.val := by
 have e2 : (fn.map (fnQ K))[i]? = (fn.map Dq.val)[i]? := by rw [e]
 rw [List.getElem?_map, List.getElem?_map, h] at e2
 exact Option.some.inj e2
theorem fq {K : PySem.W.Frag} {d : Dq} {p : FuncData → Bool} (e : fnQ K d = d.val) (c : fdB K d.a p = true) :
  ∃ fd oc od sl, K.lookup d.a = some ⟨oc, od, .func fd, sl⟩ ∧ p fd = true ∧ fd.name = d.name ∧ fd.qualname = d.qual ∧ fd.params = d.params ∧ fd.body = .stmts d.body ∧ fd.scope = d.scope ∧ fd.globals = mainGlobals ∧ fd.closure = d.clo ∧ fd.builtins = builtinsNs := by
 unfold fdB at c
 unfold fnQ at e
 cases q : K.lookup d.a with
 | none =>
  rw [q] at c
  cases c
 | some o =>
  obtain ⟨oc, od, dt, osl⟩ := o
  rw [q] at c e
  cases dt with
  | func fd =>
   have e2 : (some (fd.name, fd.qualname, fd.params, fd.body, fd.scope, fd.globals, fd.closure, fd.builtins) : FnQ) = some (d.name, d.qual, d.params, .stmts d.body, d.scope, mainGlobals, d.clo, builtinsNs) := e
   simp only [Option.some.injEq, Prod.mk.injEq] at e2
   obtain ⟨h1, h2, h3, h4, h5, h6, h7, h8⟩ := e2
   exact ⟨fd, oc, od, osl, rfl, c, h1, h2, h3, h4, h5, h6, h7, h8⟩
  | _ => cases c
def pPlain (K : PySem.W.Frag) (q : Str) (fd : FuncData) : Bool := nonV fd.defaults && PySem.W.codeIn K fd.code q
def pDfl (K : PySem.W.Frag) (q : Str) (t : Addr) (fd : FuncData) : Bool := refB t fd.defaults && PySem.W.codeIn K fd.code q
def pSup (K : PySem.W.Frag) (q : Str) (c : Addr) (fd : FuncData) : Bool := nonV fd.defaults && (refB c fd.code && PySem.W.codeIn K (.ref c) q)
section
variable {K : PySem.W.Frag} {a : Addr} {x q : Str} {ps : Arguments} {bd : List Stmt} {sc : Scope}
theorem plain_ok (e : fnQ K ⟨a, x, q, ps, bd, sc, []⟩ = (Dq.mk a x q ps bd sc []).val) (c : fdB K a (pPlain K q) = true) :
  ∃ (oc kV dc pm cd ct : Value) (od an : Option Addr) (sl : Array (Option Value)), K.lookup a = some ⟨oc, od, .func (PySem.W.fnOf x q ps bd sc .none kV dc pm an cd ct), sl⟩ ∧ PySem.W.codeIn K cd q = true := by
 obtain ⟨fd, oc, od, sl, lk, h, e1, e2, e3, e4, e5, e6, e7, e8⟩ := fq (d := ⟨a, x, q, ps, bd, sc, []⟩) e c
 obtain ⟨n1, n2, n3, n4, n5, n6, n7, n8, n9, n10, n11, n12, n13, n14, n15⟩ := fd
 dsimp only at e1 e2 e3 e4 e5 e6 e7 e8
 subst e1 e2 e3 e4 e5 e6 e7 e8
 obtain ⟨h1, h2⟩ := ba h
 obtain rfl : n8 = .none := nonV_ok h1
 exact ⟨oc, n9, n10, n11, n13, n14, od, n12, sl, lk, h2⟩
theorem dfl_ok {t : Addr} (e : fnQ K ⟨a, x, q, ps, bd, sc, []⟩ = (Dq.mk a x q ps bd sc []).val) (c : fdB K a (pDfl K q t) = true) :
  ∃ (oc kV dc pm cd ct : Value) (od an : Option Addr) (sl : Array (Option Value)), K.lookup a = some ⟨oc, od, .func (PySem.W.fnOf x q ps bd sc (.ref t) kV dc pm an cd ct), sl⟩ ∧ PySem.W.codeIn K cd q = true := by
 obtain ⟨fd, oc, od, sl, lk, h, e1, e2, e3, e4, e5, e6, e7, e8⟩ := fq (d := ⟨a, x, q, ps, bd, sc, []⟩) e c
 obtain ⟨n1, n2, n3, n4, n5, n6, n7, n8, n9, n10, n11, n12, n13, n14, n15⟩ := fd
 dsimp only at e1 e2 e3 e4 e5 e6 e7 e8
 subst e1 e2 e3 e4 e5 e6 e7 e8
 obtain ⟨h1, h2⟩ := ba h
 obtain rfl : n8 = .ref t := refB_ok h1
 exact ⟨oc, n9, n10, n11, n13, n14, od, n12, sl, lk, h2⟩
theorem sup_ok {cda cc : Addr} (e : fnQ K ⟨a, x, q, ps, bd, sc, [("__class__", cc)]⟩ = (Dq.mk a x q ps bd sc [("__class__", cc)]).val) (c : fdB K a (pSup K q cda) = true) :
  ∃ (oc kV dc pm ct : Value) (od an : Option Addr) (sl : Array (Option Value)), K.lookup a = some ⟨oc, od, .func (PySem.W.ksFn x q ps bd sc .none kV dc pm an (.ref cda) ct cc), sl⟩ ∧ PySem.W.codeIn K (.ref cda) q = true := by
 obtain ⟨fd, oc, od, sl, lk, h, e1, e2, e3, e4, e5, e6, e7, e8⟩ := fq (d := ⟨a, x, q, ps, bd, sc, [("__class__", cc)]⟩) e c
 obtain ⟨n1, n2, n3, n4, n5, n6, n7, n8, n9, n10, n11, n12, n13, n14, n15⟩ := fd
 dsimp only at e1 e2 e3 e4 e5 e6 e7 e8
 subst e1 e2 e3 e4 e5 e6 e7 e8
 obtain ⟨h1, h2⟩ := ba h
 obtain ⟨h2, h3⟩ := ba h2
 obtain rfl : n8 = .none := nonV_ok h1
 obtain rfl : n13 = .ref cda := refB_ok h2
 exact ⟨oc, n9, n10, n11, n14, od, n12, sl, lk, h3⟩
end
section
variable {K : PySem.W.Frag}
def recB1 (K : PySem.W.Frag) (p : Addr) (T : String) (f : Addr) : Bool := match PySem.W.recIn K p T with
 | some (v :: _) => refB f v
 | _ => false
theorem rec1_ok {p f : Addr} {T : String} (h : recB1 K p T f = true) : ∃ r, PySem.W.recIn K p T = some (.ref f :: r) := by
 unfold recB1 at h
 split at h
 ·rename_i v r e
  rw [refB_ok h] at e
  exact ⟨r, e⟩
 ·cases h
def strB (K : PySem.W.Frag) (d : Addr) (x z : Str) : Bool := match PySem.W.nsIn K d x with
 | some (some (.str y _)) => decide (y = z)
 | _ => false
theorem str_ok {d : Addr} {x z : Str} (h : strB K d x z = true) : ∃ t, PySem.W.nsIn K d x = some (some (.str z t)) := by
 unfold strB at h
 split at h
 ·rename_i y t e
  rw [of_decide_eq_true h] at e
  exact ⟨t, e⟩
 ·cases h
def intB (K : PySem.W.Frag) (d : Addr) (x : Str) (i : Int) : Bool := match PySem.W.nsIn K d x with
 | some (some (.int j _)) => decide (j = i)
 | _ => false
theorem int_ok {d : Addr} {x : Str} {i : Int} (h : intB K d x i = true) : ∃ t, PySem.W.nsIn K d x = some (some (.int i t)) := by
 unfold intB at h
 split at h
 ·rename_i y t e
  rw [of_decide_eq_true h] at e
  exact ⟨t, e⟩
 ·cases h
def fcR (K : PySem.W.Frag) (C : Addr) (x : Str) (a : Addr) : Bool := match PySem.W.findCls K (.ref C) (.type "type") x with
 | some (.val v) => refB a v
 | _ => false
theorem fcR_ok {C a : Addr} {x : Str} (h : fcR K C x a = true) : PySem.W.findCls K (.ref C) (.type "type") x = some (.val (.ref a)) := by
 unfold fcR at h
 split at h
 ·rename_i v e
  rw [refB_ok h] at e
  exact e
 ·cases h
def fcI (K : PySem.W.Frag) (C : Addr) (x : Str) (i : Int) : Bool := match PySem.W.findCls K (.ref C) (.type "type") x with
 | some (.val (.int j _)) => decide (j = i)
 | _ => false
theorem fcI_ok {C : Addr} {x : Str} {i : Int} (h : fcI K C x i = true) : ∃ t, PySem.W.findCls K (.ref C) (.type "type") x = some (.val (.int i t)) := by
 unfold fcI at h
 split at h
 ·rename_i v t e
  rw [of_decide_eq_true h] at e
  exact ⟨t, e⟩
 ·cases h
def seqB (K : PySem.W.Frag) (a : Addr) (vs : List V) : Bool := match K.lookup a with
 | some ⟨.type ty, _, .seq its _, _⟩ => decide (ty = "tuple") && He.relAll vs its.toList
 | _ => false
theorem seq_ok {a : Addr} {vs : List V} (h : seqB K a vs = true) : ∃ (od : Option Addr) (l : List Value) (n : Nat) (sl : Array (Option Value)), K.lookup a = some ⟨.type "tuple", od, .seq ⟨l⟩ n, sl⟩ ∧ Vals vs l := by
 unfold seqB at h
 split at h
 ·rename_i ty od its n sl e
  obtain ⟨h1, h2⟩ := ba h
  rw [of_decide_eq_true h1] at e
  obtain ⟨l⟩ := its
  exact ⟨od, l, n, sl, e, He.relAll_ok h2⟩
 ·cases h
def excB (K : PySem.W.Frag) (C : Addr) : Bool := match K.lookup C with
 | some ⟨.type ty, _, .cls cd, sl⟩ => decide (ty = "type") && (cd.hasDict && (!cd.hasDel && ((match cd.mro with
  | v :: bm => refB C v && PySem.HandSPX.refsVE bm
  | _ => false) && (match sl.toList with
  | [_, _, _, _, some (.builtin z), _] => decide (z = "ValueError.__new__")
  | _ => false))))
 | _ => false
theorem exc_ok {C : Addr} (h : excB K C = true) : ∃ (nm q : Str) (N : Addr) (bs bm : List Value) (sn : List Str) (sub : List Value) (ab : Bool) (col : Option Bool) (dd : Option Addr) (k0 k1 k2 k3 k5 : Option Value),
  K.lookup C = some (excClassObj nm q C N bs bm true sn sub ab col dd k0 k1 k2 k3 k5 "ValueError.__new__") ∧ PySem.HandSPX.refsVE bm = true := by
 unfold excB at h
 split at h
 ·rename_i ty dd cd sl e
  obtain ⟨h1, h⟩ := ba h
  obtain ⟨h2, h⟩ := ba h
  obtain ⟨h3, h⟩ := ba h
  obtain ⟨h4, h5⟩ := ba h
  obtain ⟨l⟩ := sl
  obtain ⟨c1, c2, c3, c4, c5, c6, c7, c8, c9, c10, c11⟩ := cd
  dsimp only at h2 h3 h4 h5
  subst h2
  obtain rfl : c11 = false := by cases c11 <;> first | rfl | cases h3
  rw [of_decide_eq_true h1] at e
  clear h1 h3
  cases c3 with
  | nil => cases h4
  | cons v bm =>
   obtain ⟨g1, g2⟩ := ba h4
   rw [refB_ok g1] at e
   match l, h5, e with
   | [k0, k1, k2, k3, some (.builtin z), k5], h5, e =>
    rw [of_decide_eq_true (show decide (z = "ValueError.__new__") = true from h5)] at e
    exact ⟨_, _, _, _, bm, _, _, _, _, _, _, _, _, _, _, e, g2⟩
 ·cases h
def filB (K : PySem.W.Frag) (c : Addr) (mf : Str) : Bool := match K.lookup c with
 | some ⟨_, _, .fields vs, _⟩ => (match (vs[2]? : Option Value) with
  | some (.str f _) => mf == f
  | _ => false)
 | _ => false
theorem fil_ok {c : Addr} {mf : Str} (h : filB K c mf = true) : ∃ (cc : Value) (cd : Option Addr) (vs : Array Value) (cs : Array (Option Value)) (f : Str) (t : Tok), K.lookup c = some ⟨cc, cd, .fields vs, cs⟩ ∧ vs[2]? = some (.str f t) ∧ (mf == f) = true := by
 unfold filB at h
 split at h
 ·rename_i cc cd vs cs e
  split at h
  ·rename_i f t e2
   exact ⟨cc, cd, vs, cs, f, t, e, e2, h⟩
  ·cases h
 ·cases h
def celB (K : PySem.W.Frag) (c C : Addr) : Bool := match K.lookup c with
 | some ⟨_, _, .cell (some v), _⟩ => refB C v
 | _ => false
theorem cel_ok {c C : Addr} (h : celB K c C = true) : ∃ (oc : Value) (od : Option Addr) (sl : Array (Option Value)), K.lookup c = some ⟨oc, od, .cell (some (.ref C)), sl⟩ := by
 unfold celB at h
 split at h
 ·rename_i oc od v sl e
  rw [refB_ok h] at e
  exact ⟨oc, od, sl, e⟩
 ·cases h
end
abbrev Al : Type := Bool × List FnQ
def obsG (as : List Addr) (fa : List (PySem.W.Frag → Bool)) (fn : List Dq) (g : Addr → Option Obj) : Al := (chk fa (He.frG g as), fn.map (fnQ (He.frG g as)))
def hook (as : List Addr) (fa : List (PySem.W.Frag → Bool)) (fn : List Dq) : PySem.W.Hook where
 α := Al
 obs := fun s => obsG as fa fn s.heap.get?
 val := fun _ => (true, fn.map Dq.val)
 says := fun _ h => ∃ K : PySem.W.Frag, K.In h ∧ chk fa K = true ∧ fn.map (fnQ K) = fn.map Dq.val
 of := fun _ _ e => ⟨_, He.frG_in, congrArg (fun z : Al => z.1) e, congrArg (fun z : Al => z.2) e⟩
 keeps := fun _ _ _ ⟨K, hK, c⟩ k => ⟨K, PySem.W.Frag.In.keeps hK k, c⟩
def obT (as : List Addr) (fa : List (PySem.W.Frag → Bool)) (fn : List Dq) (s : PySem.W.SharedT) : Al := obsG as fa fn (HandSHeadRun.getT s)
theorem obT_eq (as : List Addr) (fa : List (PySem.W.Frag → Bool)) (fn : List Dq) (s : PySem.W.SharedT) : obT as fa fn s = (hook as fa fn).obs s.abs := by
 have e : HandSHeadRun.getT s = s.abs.heap.get? := funext (HandSHeadRun.getT_eq s)
 unfold obT
 rw [e] <;> rfl
theorem join {α : Type} {x : Option PySem.W.SharedT} {f : PySem.W.SharedT → Bool} {g : PySem.W.SharedT → α} {b : α} {as : List Addr} {fa : List (PySem.W.Frag → Bool)} {fn : List Dq}
  (h1 : x.map f = some true) (h2 : x.map g = some b) (h3 : ∀ s, x = some s → chk fa (He.frG (HandSHeadRun.getT s) as) = true) (h4 : x.map (fun s => fn.map (fnQ (He.frG (HandSHeadRun.getT s) as))) = some (fn.map Dq.val)) :
  x.map (fun s => (f s, g s, obT as fa fn s)) = some (true, b, (true, fn.map Dq.val)) := by
 obtain ⟨s, rfl, e1⟩ := Option.map_eq_some_iff.mp h1
 have e2 : g s = b := Option.some.inj h2
 have e3 := h3 s rfl
 have e4 : fn.map (fnQ (He.frG (HandSHeadRun.getT s) as)) = fn.map Dq.val := Option.some.inj h4
 show some (f s, g s, (chk fa (He.frG (HandSHeadRun.getT s) as), fn.map (fnQ (He.frG (HandSHeadRun.getT s) as)))) = _
 rw [e1, e2, e3, e4]
theorem part {x : Option PySem.W.SharedT} {as : List Addr} {fa : List (PySem.W.Frag → Bool)} (h : x.map (fun s => chk fa (He.frG (HandSHeadRun.getT s) as)) = some true) : ∀ s, x = some s → chk fa (He.frG (HandSHeadRun.getT s) as) = true := fun s e => by
 rw [e] at h
 exact Option.some.inj h
end Hx
local macro_rules | `(tactic| walk_at "goo1") => `(tactic| first | ((with_reducible refine' Vc.go_iteF' ?h ?_); (case h => decide)) | fail)
local macro_rules | `(tactic| walk_at "goo1") => `(tactic| first | ((with_reducible refine' Vc.go_iteT' ?h ?_); (case h => decide)) | fail)
local macro_rules | `(tactic| walk_at "goo1") => `(tactic| first | ((with_reducible refine' Vc.go_itenF' ?h ?_); (case h => omega)) | fail)
local macro_rules | `(tactic| walk_at "goo1") => `(tactic| first | ((with_reducible refine' Vc.go_itenT' ?h ?_); (case h => omega)) | fail)
local macro_rules | `(tactic| walk_at "goo1") => `(tactic| first | ((with_reducible refine' Vc.go_iteF' ?h ?_); (case h => omega)) | fail)
local macro_rules | `(tactic| walk_at "goo1") => `(tactic| first | ((with_reducible refine' Vc.go_iteT' ?h ?_); (case h => omega)) | fail)
local macro_rules | `(tactic| walk_at "goo1") => `(tactic| walk_at "go1")
local macro_rules | `(tactic| walk_at "go1") => `(tactic| first | ((with_reducible refine' Vc.go_ixS ?he ?hv ?_); (case he => walk_at "ln"); (case hv => walk_at "ix")) | fail)
local macro_rules | `(tactic| walk_at "go1") => `(tactic| first | ((with_reducible refine' Vc.go_ixT ?he ?hv ?_); (case he => walk_at "hs"); (case hv => walk_at "ix")) | fail)
local macro_rules | `(tactic| walk_at "go1") => `(tactic| first | ((with_reducible refine' Vc.go_ixL ?he ?hv ?_); (case he => walk_at "hs"); (case hv => walk_at "ix")) | fail)
local macro_rules | `(tactic| walk_at "go1") => `(tactic| first | ((with_reducible refine' Vc.go_append ?he ?hl ?_); (case he => walk_at "hs"); (case hl => walk_at "ln")) | fail)
local macro_rules | `(tactic| walk_at "go1") => `(tactic| first | ((with_reducible refine' Vc.go_len ?hl ?_); (case hl => walk_at "ln")) | fail)
local macro_rules | `(tactic| walk_at "go1") => `(tactic| first | ((with_reducible refine' Vc.go_tyL ?he ?_); (case he => walk_at "hs")) | fail)
local macro_rules | `(tactic| walk_at "go1") => `(tactic| first | ((with_reducible refine' Vc.go_slL ?he ?_); (case he => walk_at "hs")) | fail)
local macro_rules | `(tactic| walk_at "go1") => `(tactic| first | ((with_reducible refine' Vc.go_slS ?hz ?_); (case hz => walk_at "ln")) | fail)
local macro_rules | `(tactic| walk_at "go1") => `(tactic| first | ((with_reducible refine' Vc.go_lenT ?he ?_); (case he => walk_at "hs")) | fail)
local macro_rules | `(tactic| walk_at "go1") => `(tactic| first | ((with_reducible refine' Vc.go_lenL ?he ?_); (case he => walk_at "hs")) | fail)
local macro_rules | `(tactic| walk_at "go1") => `(tactic| with_reducible refine Vc.go_callK ?_)
local macro_rules | `(tactic| walk_at "go1") => `(tactic| with_reducible refine Vc.go_methK ?_)
local macro_rules | `(tactic| walk_at "go1") => `(tactic| first | ((with_reducible refine' Vc.go_dinI ?he ?_); (case he => walk_at "hs")) | fail)
local macro_rules | `(tactic| walk_at "go1") => `(tactic| first | ((with_reducible refine' Vc.go_dputI ?he ?hl ?_); (case he => walk_at "hs"); (case hl => walk_at "ln")) | fail)
local macro_rules | `(tactic| walk_at "go1") => `(tactic| first | ((with_reducible refine' Vc.go_dputS ?he ?hl ?_); (case he => walk_at "hs"); (case hl => walk_at "ln")) | fail)
local macro_rules | `(tactic| walk_at "go1") => `(tactic| first | ((with_reducible refine' Vc.go_dgetI ?he ?hv ?_); (case he => walk_at "hs"); (case hv => walk_at "dv")) | fail)
local macro_rules | `(tactic| walk_at "go1") => `(tactic| first | ((with_reducible refine' Vc.go_dgetS ?he ?hv ?_); (case he => walk_at "hs"); (case hv => walk_at "dv")) | fail)
local macro_rules | `(tactic| walk_at "go1") => `(tactic| with_reducible refine Vc.go_int1b ?_)
local macro_rules | `(tactic| walk_at "go1") => `(tactic| with_reducible refine Vc.go_int1 ?_)
local macro_rules | `(tactic| walk_at "go1") => `(tactic| with_reducible refine Vc.go_abs ?_)
local macro_rules | `(tactic| walk_at "go1") => `(tactic| with_reducible refine Vc.go_bm0 ?_)
local macro_rules | `(tactic| walk_at "go1") => `(tactic| with_reducible refine Vc.go_bm ?_)
local macro_rules | `(tactic| walk_at "go1") => `(tactic| with_reducible refine Vc.go_partI ?_)
local macro_rules | `(tactic| walk_at "go1") => `(tactic| with_reducible refine Vc.go_part ?_)
local macro_rules | `(tactic| walk_at "go1") => `(tactic| with_reducible refine Vc.go_nopart ?_)
local macro_rules | `(tactic| walk_at "go1") => `(tactic| with_reducible refine Vc.go_sl ?_)
local macro_rules | `(tactic| walk_at "go1") => `(tactic| with_reducible refine Vc.go_dput ?_)
local macro_rules | `(tactic| walk_at "go1") => `(tactic| with_reducible refine Vc.go_dnotin ?_)
local macro_rules | `(tactic| walk_at "go1") => `(tactic| with_reducible refine Vc.go_din ?_)
local macro_rules | `(tactic| walk_at "go1") => `(tactic| with_reducible refine Vc.go_dnew ?_)
local macro_rules | `(tactic| walk_at "go1") => `(tactic| with_reducible refine Vc.go_lst ?_)
local macro_rules | `(tactic| walk_at "go1") => `(tactic| with_reducible refine Vc.go_tup ?_)
local macro_rules | `(tactic| walk_at "go1") => `(tactic| with_reducible refine Vc.go_tryOnly ?_)
local macro_rules | `(tactic| walk_at "go1") => `(tactic| with_reducible refine Vc.go_tryAs ?_)
local macro_rules | `(tactic| walk_at "go1") => `(tactic| first | ((with_reducible refine' Vc.go_isTT ?E ?C ?k ?_); (case E => walk_at "bd"); (case C => assumption); (case k => assumption)) | fail)
local macro_rules | `(tactic| walk_at "go1") => `(tactic| first | ((with_reducible refine' Vc.go_isTC ?E ?C ?k ?_); (case E => walk_at "bd"); (case C => assumption); (case k => assumption)) | fail)
local macro_rules | `(tactic| walk_at "go1") => `(tactic| first | ((with_reducible refine' Vc.go_xfTV ?E ?T ?n ?l ?_); (case E => walk_at "bd"); (case T => assumption); (case n => assumption); (case l => walk_at "fl")) | fail)
local macro_rules | `(tactic| walk_at "go1") => `(tactic| with_reducible refine Vc.go_xfT ?_)
local macro_rules | `(tactic| walk_at "go1") => `(tactic| with_reducible refine Vc.go_make0 ?_)
local macro_rules | `(tactic| walk_at "go1") => `(tactic| with_reducible refine Vc.go_makeK ?_)
local macro_rules | `(tactic| walk_at "go1") => `(tactic| with_reducible refine Vc.go_prop ?_)
local macro_rules | `(tactic| walk_at "go1") => `(tactic| first | ((with_reducible refine' Vc.go_setPV ?e ?_); (case e => walk_at "hs")) | fail)
local macro_rules | `(tactic| walk_at "go1") => `(tactic| with_reducible refine Vc.go_setP ?_)
local macro_rules | `(tactic| walk_at "go1") => `(tactic| with_reducible refine Vc.go_tryX ?_)
local macro_rules | `(tactic| walk_at "go1") => `(tactic| with_reducible refine Vc.go_lstRgV ?_)
local macro_rules | `(tactic| walk_at "go1") => `(tactic| with_reducible refine Vc.go_lstRg ?_)
local macro_rules | `(tactic| walk_at "go1") => `(tactic| with_reducible refine Vc.go_iRngLV ?_)
local macro_rules | `(tactic| walk_at "go1") => `(tactic| with_reducible refine Vc.go_iRngL ?_)
local macro_rules | `(tactic| walk_at "go1") => `(tactic| first | ((with_reducible refine' Vc.go_inO ?e ?_); (case e => walk_at "hs")) | fail)
local macro_rules | `(tactic| walk_at "go1") => `(tactic| first | ((with_reducible refine' Vc.go_strI ?l ?_); (case l => assumption)) | fail)
local macro_rules | `(tactic| walk_at "go1") => `(tactic| first | ((with_reducible refine' Vc.go_fmtI ?l ?_); (case l => assumption)) | fail)
local macro_rules | `(tactic| walk_at "go1") => `(tactic| first | ((with_reducible refine' Vc.go_fmtS ?l ?_); (case l => walk_at "ln")) | fail)
local macro_rules | `(tactic| walk_at "go1") => `(tactic| with_reducible refine Vc.go_fmt ?_)
local macro_rules | `(tactic| walk_at "go1") => `(tactic| first | ((with_reducible refine' Vc.go_szS ?l ?_); (case l => walk_at "ln")) | fail)
local macro_rules | `(tactic| walk_at "go1") => `(tactic| first | ((with_reducible refine' Vc.go_jsV ?l ?_); (case l => walk_at "ln")) | fail)
local macro_rules | `(tactic| walk_at "go1") => `(tactic| with_reducible refine Vc.go_js ?_)
local macro_rules | `(tactic| walk_at "go1") => `(tactic| with_reducible refine Vc.go_js0 ?_)
local macro_rules | `(tactic| walk_at "go1") => `(tactic| first | ((with_reducible refine' Vc.go_revLV ?e ?_); (case e => walk_at "hs")) | fail)
local macro_rules | `(tactic| walk_at "go1") => `(tactic| with_reducible refine Vc.go_revL ?_)
local macro_rules | `(tactic| walk_at "go1") => `(tactic| first | ((with_reducible refine' Vc.go_dpopI ?e ?v ?_); (case e => walk_at "hs"); (case v => walk_at "dv")) | fail)
local macro_rules | `(tactic| walk_at "go1") => `(tactic| first | ((with_reducible refine' Vc.go_lclear ?e ?_); (case e => walk_at "hs")) | fail)
local macro_rules | `(tactic| walk_at "go1") => `(tactic| first | ((with_reducible refine' Vc.go_dclear ?e ?_); (case e => walk_at "hs")) | fail)
local macro_rules | `(tactic| walk_at "go1") => `(tactic| first | ((with_reducible refine' Vc.go_tyD ?e ?_); (case e => walk_at "hs")) | fail)
local macro_rules | `(tactic| walk_at "go1") => `(tactic| with_reducible refine Vc.go_refC ?_)
local macro_rules | `(tactic| walk_at "go1") => `(tactic| with_reducible refine Vc.go_smeth ?_)
local macro_rules | `(tactic| walk_at "go1") => `(tactic| first | ((with_reducible refine' Vc.go_strO ?e ?_); (case e => walk_at "hs")) | fail)
local macro_rules | `(tactic| walk_at "go1") => `(tactic| first | ((with_reducible refine' Vc.go_lenO ?e ?_); (case e => walk_at "hs")) | fail)
local macro_rules | `(tactic| walk_at "go1") => `(tactic| first | ((with_reducible refine' Vc.go_insF ?e ?_); (case e => walk_at "hs")) | fail)
local macro_rules | `(tactic| walk_at "go1") => `(tactic| first | ((with_reducible refine' Vc.go_cntS ?e ?_); (case e => walk_at "hs")) | fail)
local macro_rules | `(tactic| walk_at "go1") => `(tactic| with_reducible refine Vc.go_ixO ?_)
local macro_rules | `(tactic| walk_at "go1") => `(tactic| first | ((with_reducible refine' Vc.go_isXT ?C ?d ?k ?_); (case C => assumption); (case d => ((with_reducible refine' Vc.xdAt ?e); (case e => walk_at "hs"))); (case k => assumption)) | fail)
local macro_rules | `(tactic| walk_at "go1") => `(tactic| first | ((with_reducible refine' Vc.go_isXC ?C ?d ?k ?_); (case C => assumption); (case d => ((with_reducible refine' Vc.xdAt ?e); (case e => walk_at "hs"))); (case k => assumption)) | fail)
local macro_rules | `(tactic| walk_at "go1") => `(tactic| first | ((with_reducible refine' Vc.go_xfXV ?T ?n ?e ?l ?_); (case T => assumption); (case n => assumption); (case e => walk_at "hs"); (case l => walk_at "fl")) | fail)
local macro_rules | `(tactic| walk_at "go1") => `(tactic| with_reducible refine Vc.go_xfX ?_)
local macro_rules | `(tactic| walk_at "go1") => `(tactic| first | ((with_reducible refine' Vc.go_insD ?e ?_); (case e => walk_at "hs")) | fail)
local macro_rules | `(tactic| walk_at "go1") => `(tactic| with_reducible refine Vc.go_refE ?_)
local macro_rules | `(tactic| walk_at "go1") => `(tactic| with_reducible refine Vc.go_callIK ?_)
local macro_rules | `(tactic| walk_at "go1") => `(tactic| with_reducible refine Vc.go_smethS ?_)
local macro_rules | `(tactic| walk_at "go1") => `(tactic| with_reducible refine Vc.go_cmethS ?_)
local macro_rules | `(tactic| walk_at "go1") => `(tactic| with_reducible refine Vc.go_makeC ?_)
local macro_rules | `(tactic| walk_at "go1") => `(tactic| with_reducible refine Vc.go_makeS ?_)
local macro_rules | `(tactic| walk_at "go1") => `(tactic| with_reducible refine Vc.go_methS ?_)
local macro_rules | `(tactic| walk_at "go1") => `(tactic| with_reducible refine Vc.go_callI ?_)
local macro_rules | `(tactic| walk_at "go1") => `(tactic| with_reducible refine Vc.go_callS ?_)
local macro_rules | `(tactic| walk_at "go1") => `(tactic| with_reducible refine Vc.go_err2 ?_)
local macro_rules | `(tactic| walk_at "go1") => `(tactic| with_reducible refine Vc.go_err1 ?_)
local macro_rules | `(tactic| walk_at "go1") => `(tactic| with_reducible refine Vc.go_mkO ?_)
local macro_rules | `(tactic| walk_at "go1") => `(tactic| with_reducible refine Vc.go_raiseT ?_)
local macro_rules | `(tactic| walk_at "go1") => `(tactic| with_reducible refine Vc.go_call ?_)
local macro_rules | `(tactic| walk_at "go1") => `(tactic| first | ((with_reducible refine' Vc.go_niT ?e ?hx ?hf ?_); (case e => walk_at "hs"); (case hx => rfl); (case hf => walk_at "flat")) | fail)
local macro_rules | `(tactic| walk_at "go1") => `(tactic| first | ((with_reducible refine' Vc.go_niL ?e ?hx ?hf ?_); (case e => walk_at "hs"); (case hx => rfl); (case hf => walk_at "flat")) | fail)
local macro_rules | `(tactic| walk_at "go1") => `(tactic| first | ((with_reducible refine' Vc.go_inT ?e ?hx ?hf ?_); (case e => walk_at "hs"); (case hx => rfl); (case hf => walk_at "flat")) | fail)
local macro_rules | `(tactic| walk_at "go1") => `(tactic| first | ((with_reducible refine' Vc.go_inL ?e ?hx ?hf ?_); (case e => walk_at "hs"); (case hx => rfl); (case hf => walk_at "flat")) | fail)
local macro_rules | `(tactic| walk_at "go1") => `(tactic| first | ((with_reducible refine' Vc.go_dgetIF ?he ?hv ?_); (case he => walk_at "fz"); (case hv => walk_at "dv")) | fail)
local macro_rules | `(tactic| walk_at "go1") => `(tactic| first | ((with_reducible refine' Vc.go_lenS ?l ?_); (case l => walk_at "ln")) | fail)
local macro_rules | `(tactic| walk_at "go1") => `(tactic| first | ((with_reducible refine' Vc.go_listD ?e ?_); (case e => walk_at "hs")) | fail)
local macro_rules | `(tactic| walk_at "go1") => `(tactic| first | ((with_reducible refine' Vc.go_lenD ?e ?_); (case e => walk_at "hs")) | fail)
local macro_rules | `(tactic| walk_at "go1") => `(tactic| first | ((with_reducible refine' Vc.go_methV ?e ?l ?_); (case e => walk_at "hs"); (case l => walk_at "fl")) | fail)
local macro_rules | `(tactic| walk_at "go1") => `(tactic| first | ((with_reducible refine' Vc.go_sfldV ?e ?l ?c ?n ?_); (case e => walk_at "hs"); (case l => walk_at "fn"); (case c => assumption); (case n => assumption)) | fail)
local macro_rules | `(tactic| walk_at "go1") => `(tactic| first | ((with_reducible refine' Vc.go_fldV ?e ?hl ?c ?n ?_); (case e => walk_at "hs"); (case hl => walk_at "fl"); (case c => assumption); (case n => assumption)) | fail)
local macro_rules | `(tactic| walk_at "go1") => `(tactic| first | ((with_reducible refine' Vc.go_cval ?hr ?hv ?_); (case hr => assumption); (case hv => assumption)) | fail)
local macro_rules | `(tactic| walk_at "go1") => `(tactic| first | ((with_reducible refine' Vc.go_iteN ?h ?_); (case h => (intro z; cases z))) | fail)
local macro_rules | `(tactic| walk_at "go1") => `(tactic| with_reducible refine' Vc.go_iteNT ?_)
local macro_rules | `(tactic| walk_at "go1") => `(tactic| with_reducible refine Vc.go_isN ?_)
local macro_rules | `(tactic| walk_at "go1") => `(tactic| first | ((with_reducible refine' Vc.go_isiT2 ?ht ?e ?hk ?hk2 ?hc ?_); (case ht => walk_at "ty"); (case e => walk_at "hs"); (case hk => walk_at "kit"); (case hk2 => walk_at "kit"); (case hc => first | exact Vc.or_t | exact Vc.or_f)) | fail)
local macro_rules | `(tactic| walk_at "go1") => `(tactic| first | ((with_reducible refine' Vc.go_isi ?ht ?hk ?_); (case ht => walk_at "ty"); (case hk => walk_at "kit")) | fail)
local macro_rules | `(tactic| walk_at "go1") => `(tactic| with_reducible refine Vc.go_neB ?_)
local macro_rules | `(tactic| walk_at "go1") => `(tactic| with_reducible refine Vc.go_eqB ?_)
local macro_rules | `(tactic| walk_at "go1") => `(tactic| with_reducible refine Vc.go_neS ?_)
local macro_rules | `(tactic| walk_at "go1") => `(tactic| with_reducible refine Vc.go_eqS ?_)
local macro_rules | `(tactic| walk_at "go1") => `(tactic| with_reducible refine Vc.go_neI ?_)
local macro_rules | `(tactic| walk_at "go1") => `(tactic| with_reducible refine Vc.go_eqI ?_)
local macro_rules | `(tactic| walk_at "go1") => `(tactic| first | ((with_reducible refine' Vc.go_I ?hc ?_); (case hc => walk_at "side")) | fail)
local macro_rules | `(tactic| walk_at "go1") => `(tactic| with_reducible refine Vc.go_U ?_)
local macro_rules | `(tactic| walk_at "go1") => `(tactic| with_reducible refine Vc.go_I0 ?_)
local macro_rules | `(tactic| walk_at "go1") => `(tactic| with_reducible refine Vc.go_if ?_)
local macro_rules | `(tactic| walk_at "go1") => `(tactic| with_reducible refine Vc.go_notV ?_)
local macro_rules | `(tactic| walk_at "go1") => `(tactic| with_reducible refine Vc.go_orV ?_)
local macro_rules | `(tactic| walk_at "go1") => `(tactic| with_reducible refine Vc.go_andV ?_)
local macro_rules | `(tactic| walk_at "go1") => `(tactic| with_reducible refine Vc.go_yes ?_)
local macro_rules | `(tactic| walk_at "go1") => `(tactic| with_reducible refine Vc.go_orT ?_)
local macro_rules | `(tactic| walk_at "go1") => `(tactic| with_reducible refine Vc.go_andT ?_)
local macro_rules | `(tactic| walk_at "go1") => `(tactic| with_reducible refine Vc.go_notT ?_)
local macro_rules | `(tactic| walk_at "go1") => `(tactic| with_reducible refine Vc.go_blP ?_)
local macro_rules | `(tactic| walk_at "go1") => `(tactic| with_reducible refine Vc.go_bl ?_)
local macro_rules | `(tactic| walk_at "go1") => `(tactic| with_reducible refine Vc.go_B ?_)
local macro_rules | `(tactic| walk_at "go1") => `(tactic| with_reducible refine Vc.go_test ?_)
local macro_rules | `(tactic| walk_at "go1") => `(tactic| with_reducible refine Vc.go_ifS ?_)
local macro_rules | `(tactic| walk_at "go1") => `(tactic| with_reducible refine Vc.go_next ?_)
local macro_rules | `(tactic| walk_at "go1") => `(tactic| with_reducible refine Vc.go_retN ?_)
local macro_rules | `(tactic| walk_at "go1") => `(tactic| with_reducible refine Vc.go_ret ?_)
local macro_rules | `(tactic| walk_at "go1") => `(tactic| with_reducible refine' Vc.go_nF ?_)
local macro_rules | `(tactic| walk_at "go1") => `(tactic| with_reducible refine' Vc.go_nT ?_)
local macro_rules | `(tactic| walk_at "go1") => `(tactic| with_reducible refine' Vc.go_eqL ?_)
local macro_rules | `(tactic| walk_at "go1") => `(tactic| with_reducible refine' Vc.go_Some ?_)
local macro_rules | `(tactic| walk_at "go1") => `(tactic| with_reducible refine' Vc.go_None ?_)
local macro_rules | `(tactic| walk_at "go1") => `(tactic| with_reducible refine' Vc.go_nSome ?_)
local macro_rules | `(tactic| walk_at "go1") => `(tactic| with_reducible refine' Vc.go_nNone ?_)
local macro_rules | `(tactic| walk_at "go1") => `(tactic| with_reducible refine' Vc.go_neL ?_)
local macro_rules | `(tactic| walk_at "go1") => `(tactic| with_reducible refine' L2.iteF ?_)
local macro_rules | `(tactic| walk_at "go1") => `(tactic| with_reducible refine' L2.iteT ?_)
local macro_rules | `(tactic| walk_at "go1") => `(tactic| with_reducible refine Vc.go_pairs0 ?_)
local macro_rules | `(tactic| walk_at "go1") => `(tactic| with_reducible refine Vc.go_pairs ?_)
local macro_rules | `(tactic| walk_at "go1") => `(tactic| with_reducible refine Vc.go_disp ?_)
local macro_rules | `(tactic| walk_at "go1") => `(tactic| with_reducible refine Vc.go_lc ?_)
local macro_rules | `(tactic| walk_at "go1") => `(tactic| with_reducible refine Vc.go_iStr ?_)
local macro_rules | `(tactic| walk_at "go1") => `(tactic| with_reducible refine Vc.go_iRng2 ?_)
local macro_rules | `(tactic| walk_at "go1") => `(tactic| with_reducible refine Vc.go_iRng1 ?_)
local macro_rules | `(tactic| walk_at "go1") => `(tactic| with_reducible refine Vc.go_iTup ?_)
local macro_rules | `(tactic| walk_at "go1") => `(tactic| with_reducible refine Vc.go_iList ?_)
local macro_rules | `(tactic| walk_at "go1") => `(tactic| with_reducible refine Vc.go_for ?_)
local macro_rules | `(tactic| walk_at "go1") => `(tactic| with_reducible refine Vc.go_sign ?_)
local macro_rules | `(tactic| walk_at "go1") => `(tactic| with_reducible refine Vc.go_strE ?_)
local macro_rules | `(tactic| walk_at "go1") => `(tactic| first | ((with_reducible refine' Vc.go_lstDT ?e ?_); (case e => walk_at "hs")) | fail)
local macro_rules | `(tactic| walk_at "go1") => `(tactic| first | ((with_reducible refine' Vc.go_lstD ?e ?_); (case e => walk_at "hs")) | fail)
local macro_rules | `(tactic| walk_at "go1") => `(tactic| first | ((with_reducible refine' Vc.go_lstDO ?e ?_); (case e => assumption)) | fail)
local macro_rules | `(tactic| walk_at "go1") => `(tactic| first | ((with_reducible refine' Vc.go_tupDT ?e ?_); (case e => walk_at "hs")) | fail)
local macro_rules | `(tactic| walk_at "go1") => `(tactic| first | ((with_reducible refine' Vc.go_tupD ?e ?_); (case e => walk_at "hs")) | fail)
local macro_rules | `(tactic| walk_at "go1") => `(tactic| with_reducible refine Vc.go_sub ?_)
local macro_rules | `(tactic| walk_at "go1") => `(tactic| with_reducible refine Vc.go_isS ?_)
local macro_rules | `(tactic| walk_at "go1") => `(tactic| with_reducible refine Vc.go_M0 ?_)
local macro_rules | `(tactic| walk_at "go1") => `(tactic| with_reducible refine Vc.go_M1 ?_)
local macro_rules | `(tactic| walk_at "go1") => `(tactic| first | ((with_reducible refine' Vc.go_addS ?l ?_); (case l => walk_at "ln")) | fail)
local macro_rules | `(tactic| walk_at "go1") => `(tactic| with_reducible refine Vc.go_ipI ?_)
local macro_rules | `(tactic| walk_at "go1") => `(tactic| first | ((with_reducible refine' Vc.go_aug ?hv ?_); (case hv => rfl)) | fail)
local macro_rules | `(tactic| walk_at "go1") => `(tactic| with_reducible refine Vc.go_lenSet ?_)
local macro_rules | `(tactic| walk_at "go1") => `(tactic| with_reducible refine Vc.go_dc ?_)
local macro_rules | `(tactic| walk_at "go1") => `(tactic| with_reducible refine Vc.go_meth ?_)
local macro_rules | `(tactic| walk_at "go1") => `(tactic| with_reducible refine Vc.go_make ?_)
local macro_rules | `(tactic| walk_at "go1") => `(tactic| with_reducible refine Vc.go_sfld ?_)
local macro_rules | `(tactic| walk_at "go1") => `(tactic| with_reducible refine Vc.go_fld ?_)
local macro_rules | `(tactic| walk_at "go1") => `(tactic| with_reducible refine Vc.go_cvalR ?_)
local macro_rules | `(tactic| walk_at "go1") => `(tactic| with_reducible refine Vc.go_chain ?_)
local macro_rules | `(tactic| walk_at "go1") => `(tactic| with_reducible refine Vc.go_drop ?_)
local macro_rules | `(tactic| walk_at "go1") => `(tactic| with_reducible refine Vc.go_dget ?_)
local macro_rules | `(tactic| walk_at "go1") => `(tactic| with_reducible refine Vc.go_nil ?_)
local macro_rules | `(tactic| walk_at "go1") => `(tactic| with_reducible refine Vc.go_cons ?_)
local macro_rules | `(tactic| walk_at "go1") => `(tactic| with_reducible refine Vc.go_cb ?_)
local macro_rules | `(tactic| walk_at "go1") => `(tactic| with_reducible refine Vc.go_un ?_)
local macro_rules | `(tactic| walk_at "go1") => `(tactic| with_reducible refine Vc.go_op ?_)
local macro_rules | `(tactic| walk_at "go1") => `(tactic| with_reducible refine Vc.go_c ?_)
local macro_rules | `(tactic| walk_at "go1") => `(tactic| first | ((with_reducible refine' Vc.go_var ?hv ?_); (case hv => rfl)) | fail)
local macro_rules | `(tactic| walk_at "go1") => `(tactic| with_reducible refine Vc.go_name ?_)
local macro_rules | `(tactic| walk_at "go1") => `(tactic| with_reducible refine Vc.go_asg ?_)
local macro_rules | `(tactic| walk_at "go1") => `(tactic| with_reducible refine Vc.go_seq ?_)
local macro_rules | `(tactic| walk_at "kit") => `(tactic| with_reducible exact Vc.kit_dict_dict)
local macro_rules | `(tactic| walk_at "kit") => `(tactic| with_reducible exact Vc.kit_dict_list)
local macro_rules | `(tactic| walk_at "kit") => `(tactic| with_reducible exact Vc.kit_dict_tuple)
local macro_rules | `(tactic| walk_at "kit") => `(tactic| with_reducible exact Vc.kit_dict_str)
local macro_rules | `(tactic| walk_at "kit") => `(tactic| with_reducible exact Vc.kit_dict_bool)
local macro_rules | `(tactic| walk_at "kit") => `(tactic| with_reducible exact Vc.kit_dict_int)
local macro_rules | `(tactic| walk_at "kit") => `(tactic| with_reducible exact Vc.kit_tuple_dict)
local macro_rules | `(tactic| walk_at "kit") => `(tactic| with_reducible exact Vc.kit_tuple_list)
local macro_rules | `(tactic| walk_at "kit") => `(tactic| with_reducible exact Vc.kit_tuple_tuple)
local macro_rules | `(tactic| walk_at "kit") => `(tactic| with_reducible exact Vc.kit_tuple_str)
local macro_rules | `(tactic| walk_at "kit") => `(tactic| with_reducible exact Vc.kit_tuple_bool)
local macro_rules | `(tactic| walk_at "kit") => `(tactic| with_reducible exact Vc.kit_tuple_int)
local macro_rules | `(tactic| walk_at "kit") => `(tactic| with_reducible exact Vc.kit_list_dict)
local macro_rules | `(tactic| walk_at "kit") => `(tactic| with_reducible exact Vc.kit_list_list)
local macro_rules | `(tactic| walk_at "kit") => `(tactic| with_reducible exact Vc.kit_list_tuple)
local macro_rules | `(tactic| walk_at "kit") => `(tactic| with_reducible exact Vc.kit_list_str)
local macro_rules | `(tactic| walk_at "kit") => `(tactic| with_reducible exact Vc.kit_list_bool)
local macro_rules | `(tactic| walk_at "kit") => `(tactic| with_reducible exact Vc.kit_list_int)
local macro_rules | `(tactic| walk_at "kit") => `(tactic| with_reducible exact Vc.kit_NoneType_dict)
local macro_rules | `(tactic| walk_at "kit") => `(tactic| with_reducible exact Vc.kit_NoneType_list)
local macro_rules | `(tactic| walk_at "kit") => `(tactic| with_reducible exact Vc.kit_NoneType_tuple)
local macro_rules | `(tactic| walk_at "kit") => `(tactic| with_reducible exact Vc.kit_NoneType_str)
local macro_rules | `(tactic| walk_at "kit") => `(tactic| with_reducible exact Vc.kit_NoneType_bool)
local macro_rules | `(tactic| walk_at "kit") => `(tactic| with_reducible exact Vc.kit_NoneType_int)
local macro_rules | `(tactic| walk_at "kit") => `(tactic| with_reducible exact Vc.kit_str_dict)
local macro_rules | `(tactic| walk_at "kit") => `(tactic| with_reducible exact Vc.kit_str_list)
local macro_rules | `(tactic| walk_at "kit") => `(tactic| with_reducible exact Vc.kit_str_tuple)
local macro_rules | `(tactic| walk_at "kit") => `(tactic| with_reducible exact Vc.kit_str_str)
local macro_rules | `(tactic| walk_at "kit") => `(tactic| with_reducible exact Vc.kit_str_bool)
local macro_rules | `(tactic| walk_at "kit") => `(tactic| with_reducible exact Vc.kit_str_int)
local macro_rules | `(tactic| walk_at "kit") => `(tactic| with_reducible exact Vc.kit_bool_dict)
local macro_rules | `(tactic| walk_at "kit") => `(tactic| with_reducible exact Vc.kit_bool_list)
local macro_rules | `(tactic| walk_at "kit") => `(tactic| with_reducible exact Vc.kit_bool_tuple)
local macro_rules | `(tactic| walk_at "kit") => `(tactic| with_reducible exact Vc.kit_bool_str)
local macro_rules | `(tactic| walk_at "kit") => `(tactic| with_reducible exact Vc.kit_bool_bool)
local macro_rules | `(tactic| walk_at "kit") => `(tactic| with_reducible exact Vc.kit_bool_int)
local macro_rules | `(tactic| walk_at "kit") => `(tactic| with_reducible exact Vc.kit_int_dict)
local macro_rules | `(tactic| walk_at "kit") => `(tactic| with_reducible exact Vc.kit_int_list)
local macro_rules | `(tactic| walk_at "kit") => `(tactic| with_reducible exact Vc.kit_int_tuple)
local macro_rules | `(tactic| walk_at "kit") => `(tactic| with_reducible exact Vc.kit_int_str)
local macro_rules | `(tactic| walk_at "kit") => `(tactic| with_reducible exact Vc.kit_int_bool)
local macro_rules | `(tactic| walk_at "kit") => `(tactic| with_reducible exact Vc.kit_int_int)
local macro_rules | `(tactic| walk_at "ty") => `(tactic| first | ((with_reducible refine' Vc.tyT ?h); (case h => walk_at "hs")) | fail)
local macro_rules | `(tactic| walk_at "ty") => `(tactic| first | ((with_reducible refine' Vc.tyL ?h); (case h => walk_at "hs")) | fail)
local macro_rules | `(tactic| walk_at "ty") => `(tactic| with_reducible exact .base .non)
local macro_rules | `(tactic| walk_at "ty") => `(tactic| with_reducible exact .base (.str _))
local macro_rules | `(tactic| walk_at "ty") => `(tactic| with_reducible exact .base (.bl _))
local macro_rules | `(tactic| walk_at "ty") => `(tactic| with_reducible exact .base (.int _))
local macro_rules | `(tactic| walk_at "bd") => `(tactic| first | ((with_reducible refine' Vc.ErrAt.ed0 ?e ?h); (case e => assumption); (case h => walk_at "bd")) | fail)
local macro_rules | `(tactic| walk_at "bd") => `(tactic| assumption)
local macro_rules | `(tactic| walk_at "fz") => `(tactic| first | ((with_reducible refine' Vc.frz' ?e ?h); (case e => assumption); (case h => walk_at "fz")) | fail)
local macro_rules | `(tactic| walk_at "fz") => `(tactic| assumption)
local macro_rules | `(tactic| walk_at "free") => `(tactic| first | ((with_reducible refine' Vc.Ed.back ?e ?h); (case e => assumption); (case h => walk_at "free")) | fail)
local macro_rules | `(tactic| walk_at "free") => `(tactic| assumption)
local macro_rules | `(tactic| walk_at "in") => `(tactic| first | ((with_reducible refine' Or.inr ?h); (case h => walk_at "free")) | fail)
local macro_rules | `(tactic| walk_at "in") => `(tactic| first | ((with_reducible refine' Or.inl ?h); (case h => (simp only [List.mem_cons, List.not_mem_nil, or_false, true_or, or_true]; done))) | fail)
local macro_rules | `(tactic| walk_at "ed") => `(tactic| first | ((with_reducible refine' Vc.Ed.two' ?b ?a ?h ?g); (case b => assumption); (case a => walk_at "ed"); (case h => walk_at "in"); (case g => walk_at "in")) | fail)
local macro_rules | `(tactic| walk_at "ed") => `(tactic| first | ((with_reducible refine' Vc.Ed.one' ?b ?a ?h); (case b => assumption); (case a => walk_at "ed"); (case h => walk_at "in")) | fail)
local macro_rules | `(tactic| walk_at "ed") => `(tactic| first | ((with_reducible refine' Vc.Ed.ex' ?b ?a); (case b => assumption); (case a => walk_at "ed")) | fail)
local macro_rules | `(tactic| walk_at "ed") => `(tactic| with_reducible exact Vc.Ed.refl)
local macro_rules | `(tactic| walk_at "ed") => `(tactic| assumption)
local macro_rules | `(tactic| walk_at "ne") => `(tactic| first | ((with_reducible refine' Vc.nek ?e ?h ?d); (case e => assumption); (case h => assumption); (case d => intro z; cases z)) | fail)
local macro_rules | `(tactic| walk_at "ne") => `(tactic| first | ((with_reducible refine' Vc.ne2 ?e ?h); (case e => assumption); (case h => walk_at "hs")) | fail)
local macro_rules | `(tactic| walk_at "ne") => `(tactic| first | ((with_reducible refine' Vc.ne1 ?e ?h); (case e => assumption); (case h => walk_at "hs")) | fail)
local macro_rules | `(tactic| walk_at "ne") => `(tactic| first | ((with_reducible refine' Ne.symm ?h); (case h => assumption)) | fail)
local macro_rules | `(tactic| walk_at "ne") => `(tactic| assumption)
local macro_rules | `(tactic| walk_at "hs") => `(tactic| first | ((with_reducible refine' Vc.Ed.sql1 ?e ?n ?h); (case e => assumption); (case n => walk_at "ne"); (case h => walk_at "hs")) | fail)
local macro_rules | `(tactic| walk_at "hs") => `(tactic| first | ((with_reducible refine' Vc.Ed.sql0 ?e ?h); (case e => assumption); (case h => walk_at "hs")) | fail)
local macro_rules | `(tactic| walk_at "hs") => `(tactic| first | ((with_reducible refine' Vc.Ed.sqt ?e ?h); (case e => assumption); (case h => walk_at "hs")) | fail)
local macro_rules | `(tactic| walk_at "hs") => `(tactic| first | ((with_reducible refine' Vc.sqt_of ?h); (case h => walk_at "hs")) | fail)
local macro_rules | `(tactic| walk_at "hs") => `(tactic| first | ((with_reducible refine' Vc.all_sqt ?h _); (case h => assumption)) | fail)
local macro_rules | `(tactic| walk_at "hs") => `(tactic| first | ((with_reducible refine' L2.SqL.of ?h); (case h => walk_at "hs")) | fail)
local macro_rules | `(tactic| walk_at "hs") => `(tactic| first | ((with_reducible refine' Vc.frz' ?e ?h); (case e => assumption); (case h => walk_at "hs")) | fail)
local macro_rules | `(tactic| walk_at "hs") => `(tactic| first | ((with_reducible refine' Vc.Ed.at2 ?e ?n ?m ?h); (case e => assumption); (case n => walk_at "ne"); (case m => walk_at "ne"); (case h => walk_at "hs")) | fail)
local macro_rules | `(tactic| walk_at "hs") => `(tactic| first | ((with_reducible refine' Vc.Ed.at1 ?e ?n ?h); (case e => assumption); (case n => walk_at "ne"); (case h => walk_at "hs")) | fail)
local macro_rules | `(tactic| walk_at "hs") => `(tactic| first | ((with_reducible refine' Vc.Ed.at0 ?e ?h); (case e => assumption); (case h => walk_at "hs")) | fail)
local macro_rules | `(tactic| walk_at "hs") => `(tactic| assumption)
local macro_rules | `(tactic| walk_at "fl") => `(tactic| first | assumption | rfl)
local macro_rules | `(tactic| walk_at "fn") => `(tactic| first | assumption | exact (show 0 < 1000 by decide) | exact (show 1 < 1000 by decide) | exact (show 2 < 1000 by decide) | exact (show 3 < 1000 by decide) | exact (show 4 < 1000 by decide) | exact (show 5 < 1000 by decide) | exact (show 6 < 1000 by decide))
local macro_rules | `(tactic| walk_at "flat") => `(tactic| first | assumption | rfl)
local macro_rules | `(tactic| walk_at "ix") => `(tactic| first | assumption | rfl)
local macro_rules | `(tactic| walk_at "dv") => `(tactic| first | assumption | rfl)
local macro_rules | `(tactic| walk_at "ln") => `(tactic| first | assumption | (simp only [List.length_cons, List.length_nil, List.length_append, List.length_map]; omega) | decide)
local macro_rules | `(tactic| walk_at "go") => `(tactic| repeat walk_at "go1")
local macro_rules | `(tactic| walk_at "side") => `(tactic| first
 | omega
 | (dsimp only; omega)
 | exact ⟨by omega, by omega, by omega⟩
 | exact Vc.mulw (by omega) (by omega)
 | exact Vc.divw (by omega) (by omega))
local macro_rules | `(tactic| walk_at "goo") => `(tactic| repeat walk_at "goo1")
namespace My
open PySem PySem.Spec PyProof.Rows L2
abbrev PG : Program := PySem.Challenge.pw_codestitch_k33_whole_more_writes_show_mo
def topS (i : Nat) : Stmt := PySem.Challenge.pw_codestitch_k33_whole_more_writes_show_mo.main.body.getD i (.Pass ⟨0, 0, 0, 0⟩)
abbrev s_is_byte : Stmt := topS 15
theorem sc_is_byte : FnScope ["value"] ["value"] (defScope s_is_byte) := ⟨rfl, rfl, rfl, by decide +kernel, rfl, by decide +kernel, by decide +kernel⟩
abbrev s_is_name : Stmt := topS 16
theorem sc_is_name : FnScope ["value", "sign"] ["value"] (defScope s_is_name) := ⟨rfl, rfl, rfl, by decide +kernel, rfl, by decide +kernel, by decide +kernel⟩
abbrev s_Formu_initu : Stmt := inClass (topS 17) 1
theorem sc_Formu_initu : FnScope ["self", "name", "length", "flow", "least"] ["self", "name", "length", "flow"] (defScope s_Formu_initu) := ⟨rfl, rfl, rfl, by decide +kernel, rfl, by decide +kernel, by decide +kernel⟩
abbrev s_check_forms : Stmt := topS 18
theorem sc_check_forms : FnScope ["stop", "forms", "names", "byte"] ["stop", "forms"] (defScope s_check_forms) := ⟨rfl, rfl, rfl, by decide +kernel, rfl, by decide +kernel, by decide +kernel⟩
abbrev s_CodeSetu_initu : Stmt := inClass (topS 19) 2
theorem sc_CodeSetu_initu : FnScope ["self", "stop", "forms", "byte"] ["self", "stop", "forms"] (defScope s_CodeSetu_initu) := ⟨rfl, rfl, rfl, by decide +kernel, rfl, by decide +kernel, by decide +kernel⟩
abbrev s_CodeSetu_containsu : Stmt := inClass (topS 19) 4
theorem sc_CodeSetu_containsu : FnScope ["self", "byte"] ["self", "byte"] (defScope s_CodeSetu_containsu) := ⟨rfl, rfl, rfl, by decide +kernel, rfl, by decide +kernel, by decide +kernel⟩
abbrev s_CodeSetu_getitemu : Stmt := inClass (topS 19) 5
theorem sc_CodeSetu_getitemu : FnScope ["self", "byte"] ["self", "byte"] (defScope s_CodeSetu_getitemu) := ⟨rfl, rfl, rfl, by decide +kernel, rfl, by decide +kernel, by decide +kernel⟩
abbrev s_Layoutu_initu : Stmt := inClass (topS 12) 2
theorem sc_Layoutu_initu : FnScope ["self", "unit", "chunk"] ["self", "unit", "chunk"] (defScope s_Layoutu_initu) := ⟨rfl, rfl, rfl, by decide +kernel, rfl, by decide +kernel, by decide +kernel⟩
abbrev s_Layout_unit : Stmt := inClass (topS 12) 3
theorem sc_Layout_unit : FnScope ["self"] ["self"] (defScope s_Layout_unit) := ⟨rfl, rfl, rfl, by decide +kernel, rfl, by decide +kernel, by decide +kernel⟩
abbrev s_Layout_chunk : Stmt := inClass (topS 12) 5
theorem sc_Layout_chunk : FnScope ["self"] ["self"] (defScope s_Layout_chunk) := ⟨rfl, rfl, rfl, by decide +kernel, rfl, by decide +kernel, by decide +kernel⟩
abbrev s_Layout_units : Stmt := inClass (topS 12) 8
theorem sc_Layout_units : FnScope ["self", "low", "high"] ["self", "low", "high"] (defScope s_Layout_units) := ⟨rfl, rfl, rfl, by decide +kernel, rfl, by decide +kernel, by decide +kernel⟩
abbrev s_Layout_span : Stmt := inClass (topS 12) 10
theorem sc_Layout_span : FnScope ["self", "unit", "size", "low"] ["self", "unit", "size"] (defScope s_Layout_span) := ⟨rfl, rfl, rfl, by decide +kernel, rfl, by decide +kernel, by decide +kernel⟩
abbrev s_touched : Stmt := topS 11
theorem sc_touched : FnScope ["size", "low", "high"] ["size", "low", "high"] (defScope s_touched) := ⟨rfl, rfl, rfl, by decide +kernel, rfl, by decide +kernel, by decide +kernel⟩
abbrev s_split_units : Stmt := topS 27
theorem sc_split_units : FnScope ["grid", "cells", "spans", "unit", "low", "high"] ["grid", "cells"] (defScope s_split_units) := ⟨rfl, rfl, rfl, by decide +kernel, rfl, by decide +kernel, by decide +kernel⟩
abbrev s_Sightu_initu : Stmt := inClass (topS 28) 0
theorem sc_Sightu_initu : FnScope ["self", "layout", "values", "content"] ["self", "layout", "values"] (defScope s_Sightu_initu) := ⟨rfl, rfl, rfl, by decide +kernel, rfl, by decide +kernel, by decide +kernel⟩
abbrev s_Sight_present : Stmt := inClass (topS 28) 2
theorem sc_Sight_present : FnScope ["self"] ["self"] (defScope s_Sight_present) := ⟨rfl, rfl, rfl, by decide +kernel, rfl, by decide +kernel, by decide +kernel⟩
abbrev s_Sight_settled : Stmt := inClass (topS 28) 3
theorem sc_Sight_settled : FnScope ["self", "some"] ["self"] (defScope s_Sight_settled) := ⟨rfl, rfl, rfl, by decide +kernel, rfl, by decide +kernel, by decide +kernel⟩
abbrev s_Sight_write : Stmt := inClass (topS 28) 4
theorem sc_Sight_write : FnScope ["self", "address", "values", "given", "at", "unit", "content"] ["self", "address", "values"] (defScope s_Sight_write) := ⟨rfl, rfl, rfl, by decide +kernel, rfl, by decide +kernel, by decide +kernel⟩
abbrev s_Sight_sync : Stmt := inClass (topS 28) 5
theorem sc_Sight_sync : FnScope ["self", "content"] ["self"] (defScope s_Sight_sync) := ⟨rfl, rfl, rfl, by decide +kernel, rfl, by decide +kernel, by decide +kernel⟩
abbrev s_Sight_contents : Stmt := inClass (topS 28) 7
theorem sc_Sight_contents : FnScope ["self", "unit"] ["self", "unit"] (defScope s_Sight_contents) := ⟨rfl, rfl, rfl, by decide +kernel, rfl, by decide +kernel, by decide +kernel⟩
abbrev s_Sight_fetched : Stmt := inClass (topS 28) 8
theorem sc_Sight_fetched : FnScope ["self", "codes", "place", "size", "first", "found", "content", "byte", "end", "heads", "unit", "tails", "other", "head", "tail"] ["self", "codes", "place"] (defScope s_Sight_fetched) := ⟨rfl, rfl, rfl, by decide +kernel, rfl, by decide +kernel, by decide +kernel⟩
abbrev s_Sight_fetches : Stmt := inClass (topS 28) 9
theorem sc_Sight_fetches : Gx.GSc ["self", "codes", "place", "fetched"] ["self", "codes", "place"] (defScope s_Sight_fetches) := ⟨⟨rfl, rfl, rfl, by decide +kernel, rfl, by decide +kernel, by decide +kernel⟩, by decide +kernel⟩
abbrev s__law_pen : Stmt := topS 30
theorem sc__law_pen : FnScope ["_law_script"] ["_law_script"] (defScope s__law_pen) := ⟨rfl, rfl, rfl, by decide +kernel, rfl, by decide +kernel, by decide +kernel⟩
abbrev s__law_draw : Stmt := topS 31
theorem sc__law_draw : FnScope ["_law_pen_here", "_law_many", "_law_digit", "_law_at", "_law_cell", "_law_mixed"] ["_law_pen_here", "_law_many"] (defScope s__law_draw) := ⟨rfl, rfl, rfl, by decide +kernel, rfl, by decide +kernel, by decide +kernel⟩
abbrev s__law_pick : Stmt := topS 32
theorem sc__law_pick : FnScope ["_law_pen_here", "_law_some"] ["_law_pen_here", "_law_some"] (defScope s__law_pick) := ⟨rfl, rfl, rfl, by decide +kernel, rfl, by decide +kernel, by decide +kernel⟩
abbrev s__law_forms : Stmt := topS 33
theorem sc__law_forms : FnScope ["_law_pen_here", "_law_letters", "_law_stop", "_law_start", "_law_leap", "_law_some", "_law_head", "_law_spot", "_law_first", "_law_forms_here", "_law_k", "_law_flow", "_law_length", "_law_sign", "_law_byte_here"] ["_law_pen_here"] (defScope s__law_forms) := ⟨rfl, rfl, rfl, by decide +kernel, rfl, by decide +kernel, by decide +kernel⟩
abbrev s__law_codes : Stmt := topS 34
theorem sc__law_codes : FnScope ["_law_stop", "_law_forms_here", "_law_found", "_law_byte_here", "_law_name", "_law_length", "_law_flow"] ["_law_stop", "_law_forms_here"] (defScope s__law_codes) := ⟨rfl, rfl, rfl, by decide +kernel, rfl, by decide +kernel, by decide +kernel⟩
abbrev s__law_byte : Stmt := topS 35
theorem sc__law_byte : FnScope ["_law_pen_here", "_law_stop", "_law_forms_here", "_law_some"] ["_law_pen_here", "_law_stop", "_law_forms_here"] (defScope s__law_byte) := ⟨rfl, rfl, rfl, by decide +kernel, rfl, by decide +kernel, by decide +kernel⟩
abbrev s__law_every : Stmt := topS 36
theorem sc__law_every : FnScope ["_law_sight", "_law_codes_here", "_law_size", "_law_place"] ["_law_sight", "_law_codes_here", "_law_size"] (defScope s__law_every) := ⟨rfl, rfl, rfl, by decide +kernel, rfl, by decide +kernel, by decide +kernel⟩
abbrev s__law_held : Stmt := topS 37
theorem sc__law_held : FnScope ["_law_sight", "_law_size", "_law_unit", "_law_k"] ["_law_sight", "_law_size", "_law_unit"] (defScope s__law_held) := ⟨rfl, rfl, rfl, by decide +kernel, rfl, by decide +kernel, by decide +kernel⟩
abbrev s__law_missing : Stmt := topS 38
theorem sc__law_missing : FnScope ["_law_some", "_law_more", "_law_one"] ["_law_some", "_law_more"] (defScope s__law_missing) := ⟨rfl, rfl, rfl, by decide +kernel, rfl, by decide +kernel, by decide +kernel⟩
abbrev s__law_apart : Stmt := topS 39
theorem sc__law_apart : FnScope ["_law_place", "_law_unit", "_law_low", "_law_high"] ["_law_place", "_law_unit", "_law_low", "_law_high"] (defScope s__law_apart) := ⟨rfl, rfl, rfl, by decide +kernel, rfl, by decide +kernel, by decide +kernel⟩
abbrev s__law_grown : Stmt := topS 40
theorem sc__law_grown : FnScope ["_law_before", "_law_later", "_law_unit", "_law_low", "_law_high", "_law_place"] ["_law_before", "_law_later", "_law_unit", "_law_low", "_law_high"] (defScope s__law_grown) := ⟨rfl, rfl, rfl, by decide +kernel, rfl, by decide +kernel, by decide +kernel⟩
abbrev s__law_write_right : Stmt := topS 41
theorem sc__law_write_right : FnScope ["_law_sight", "_law_codes_here", "_law_size", "_law_unit", "_law_deed_here", "_law_first", "_law_given", "_law_before", "_law_held_here", "_law_later", "_law_more", "_law_k"] ["_law_sight", "_law_codes_here", "_law_size", "_law_unit", "_law_deed_here"] (defScope s__law_write_right) := ⟨rfl, rfl, rfl, by decide +kernel, rfl, by decide +kernel, by decide +kernel⟩
abbrev s__law_one_each : Stmt := topS 42
theorem sc__law_one_each : FnScope ["_law_sight", "_law_codes_here", "_law_forms_here", "_law_size", "_law_now", "_law_place", "_law_many"] ["_law_sight", "_law_codes_here", "_law_forms_here", "_law_size"] (defScope s__law_one_each) := ⟨rfl, rfl, rfl, by decide +kernel, rfl, by decide +kernel, by decide +kernel⟩
abbrev s__law_within : Stmt := topS 43
theorem sc__law_within : FnScope ["_law_sight", "_law_codes_here", "_law_size", "_law_unit", "_law_place", "_law_first", "_law_fetched", "_law_low", "_law_parts", "_law_content"] ["_law_sight", "_law_codes_here", "_law_size", "_law_unit"] (defScope s__law_within) := ⟨rfl, rfl, rfl, by decide +kernel, rfl, by decide +kernel, by decide +kernel⟩
abbrev s__law_turned : Stmt := topS 44
theorem sc__law_turned : FnScope ["_law_pen_here", "_law_codes_here", "_law_cells", "_law_unit", "_law_size", "_law_cut", "_law_one", "_law_other", "_law_shown", "_law_some", "_law_sight", "_law_first", "_law_given"] ["_law_pen_here", "_law_codes_here", "_law_cells", "_law_unit"] (defScope s__law_turned) := ⟨rfl, rfl, rfl, by decide +kernel, rfl, by decide +kernel, by decide +kernel⟩
abbrev s__law_deed : Stmt := topS 45
theorem sc__law_deed : FnScope ["_law_pen_here", "_law_size", "_law_stop", "_law_forms_here", "_law_now", "_law_first", "_law_many", "_law_k"] ["_law_pen_here", "_law_size", "_law_stop", "_law_forms_here", "_law_now"] (defScope s__law_deed) := ⟨rfl, rfl, rfl, by decide +kernel, rfl, by decide +kernel, by decide +kernel⟩
abbrev s_law : Stmt := topS 46
theorem sc_law : FnScope ["_law_script", "_law_pen_here", "_law_stop", "_law_forms_here", "_law_codes_here", "_law_size", "_law_cells", "_law_units", "_law_sights", "_law_used", "_law_turn", "_law_sight", "_law_deed_here", "_law_k", "_law_shown", "_law_place", "_law_unit"] ["_law_script"] (defScope s_law) := ⟨rfl, rfl, rfl, by decide +kernel, rfl, by decide +kernel, by decide +kernel⟩
abbrev s_BadAddressu_initu : Stmt := inClass (topS 8) 0
theorem sc_BadAddressu_initu : Vc.SupScope ["self", "at"] ["self", "at"] (defScope s_BadAddressu_initu) := ⟨rfl, rfl, rfl, by decide +kernel, rfl, by decide +kernel, by decide +kernel, by decide +kernel, rfl, rfl⟩
abbrev s_BadLayoutu_initu : Stmt := inClass (topS 6) 0
theorem sc_BadLayoutu_initu : Vc.SupScope ["self", "part"] ["self", "part"] (defScope s_BadLayoutu_initu) := ⟨rfl, rfl, rfl, by decide +kernel, rfl, by decide +kernel, by decide +kernel, by decide +kernel, rfl, rfl⟩
structure Ad where
 C_Form : Addr
 C_CodeSet : Addr
 C_Layout : Addr
 C_Sight : Addr
 f_is_byte : Addr
 d_is_byte : FuncData
 f_is_name : Addr
 d_is_name : FuncData
 f_Formu_initu : Addr
 d_Formu_initu : FuncData
 f_check_forms : Addr
 d_check_forms : FuncData
 f_CodeSetu_initu : Addr
 d_CodeSetu_initu : FuncData
 f_CodeSetu_containsu : Addr
 d_CodeSetu_containsu : FuncData
 f_CodeSetu_getitemu : Addr
 d_CodeSetu_getitemu : FuncData
 f_Layoutu_initu : Addr
 d_Layoutu_initu : FuncData
 f_Layout_unit : Addr
 d_Layout_unit : FuncData
 pr_Layout_unit : Addr
 f_Layout_chunk : Addr
 d_Layout_chunk : FuncData
 pr_Layout_chunk : Addr
 f_Layout_units : Addr
 d_Layout_units : FuncData
 f_Layout_span : Addr
 d_Layout_span : FuncData
 f_touched : Addr
 d_touched : FuncData
 f_split_units : Addr
 d_split_units : FuncData
 f_Sightu_initu : Addr
 d_Sightu_initu : FuncData
 f_Sight_present : Addr
 d_Sight_present : FuncData
 pr_Sight_present : Addr
 f_Sight_settled : Addr
 d_Sight_settled : FuncData
 pr_Sight_settled : Addr
 f_Sight_write : Addr
 d_Sight_write : FuncData
 f_Sight_sync : Addr
 d_Sight_sync : FuncData
 f_Sight_contents : Addr
 d_Sight_contents : FuncData
 f_Sight_fetched : Addr
 d_Sight_fetched : FuncData
 f_Sight_fetches : Addr
 d_Sight_fetches : FuncData
 f__law_pen : Addr
 d__law_pen : FuncData
 f__law_draw : Addr
 d__law_draw : FuncData
 f__law_pick : Addr
 d__law_pick : FuncData
 f__law_forms : Addr
 d__law_forms : FuncData
 f__law_codes : Addr
 d__law_codes : FuncData
 f__law_byte : Addr
 d__law_byte : FuncData
 f__law_every : Addr
 d__law_every : FuncData
 f__law_held : Addr
 d__law_held : FuncData
 f__law_missing : Addr
 d__law_missing : FuncData
 f__law_apart : Addr
 d__law_apart : FuncData
 f__law_grown : Addr
 d__law_grown : FuncData
 f__law_write_right : Addr
 d__law_write_right : FuncData
 f__law_one_each : Addr
 d__law_one_each : FuncData
 f__law_within : Addr
 d__law_within : FuncData
 f__law_turned : Addr
 d__law_turned : FuncData
 f__law_deed : Addr
 d__law_deed : FuncData
 f_law : Addr
 d_law : FuncData
 C_BadAddress : Addr
 f_BadAddressu_initu : Addr
 d_BadAddressu_initu : FuncData
 C_BadLayout : Addr
 f_BadLayoutu_initu : Addr
 d_BadLayoutu_initu : FuncData
 a_FLOWS : Addr
 a_UNITS : Addr
 a_CHUNKS : Addr
structure Txt (K : PySem.W.Frag) (mg : Str → Option Value) (A : Ad) : Prop where
 g_Form : mg "Form" = some (.ref A.C_Form)
 g_CodeSet : mg "CodeSet" = some (.ref A.C_CodeSet)
 g_Layout : mg "Layout" = some (.ref A.C_Layout)
 g_Sight : mg "Sight" = some (.ref A.C_Sight)
 g_is_byte : mg "is_byte" = some (.ref A.f_is_byte)
 F_is_byte : Fun K "is_byte" "is_byte" s_is_byte A.f_is_byte A.d_is_byte
 b_is_byte : Binds K A.d_is_byte ["value"] []
 g_is_name : mg "is_name" = some (.ref A.f_is_name)
 F_is_name : Fun K "is_name" "is_name" s_is_name A.f_is_name A.d_is_name
 b_is_name : Binds K A.d_is_name ["value"] []
 F_Formu_initu : Fun K "__init__" "Form.__init__" s_Formu_initu A.f_Formu_initu A.d_Formu_initu
 b_Formu_initu : Binds K A.d_Formu_initu ["self", "name", "length", "flow"] []
 g_check_forms : mg "check_forms" = some (.ref A.f_check_forms)
 F_check_forms : Fun K "check_forms" "check_forms" s_check_forms A.f_check_forms A.d_check_forms
 b_check_forms : Binds K A.d_check_forms ["stop", "forms"] []
 F_CodeSetu_initu : Fun K "__init__" "CodeSet.__init__" s_CodeSetu_initu A.f_CodeSetu_initu A.d_CodeSetu_initu
 b_CodeSetu_initu : Binds K A.d_CodeSetu_initu ["self", "stop", "forms"] []
 F_CodeSetu_containsu : Fun K "__contains__" "CodeSet.__contains__" s_CodeSetu_containsu A.f_CodeSetu_containsu A.d_CodeSetu_containsu
 b_CodeSetu_containsu : Binds K A.d_CodeSetu_containsu ["self", "byte"] []
 F_CodeSetu_getitemu : Fun K "__getitem__" "CodeSet.__getitem__" s_CodeSetu_getitemu A.f_CodeSetu_getitemu A.d_CodeSetu_getitemu
 b_CodeSetu_getitemu : Binds K A.d_CodeSetu_getitemu ["self", "byte"] []
 F_Layoutu_initu : FunD K "__init__" "Layout.__init__" (defArgs s_Layoutu_initu) (defBody s_Layoutu_initu) (defScope s_Layoutu_initu) [.int 1, .int 1] [] A.f_Layoutu_initu A.d_Layoutu_initu
 b_Layoutu_initu : Binds K A.d_Layoutu_initu ["self", "unit", "chunk"] []
 bd1_Layoutu_initu : ∃ ds, Vals [.int 1, .int 1] ds ∧ Binds K A.d_Layoutu_initu ["self", "unit", "chunk"] ds
 bd2_Layoutu_initu : ∃ ds, Vals [.int 1] ds ∧ Binds K A.d_Layoutu_initu ["self", "unit", "chunk"] ds
 p_Layout_unit : PropOf K A.C_Layout "unit" A.pr_Layout_unit A.f_Layout_unit
 F_Layout_unit : Fun K "unit" "Layout.unit" s_Layout_unit A.f_Layout_unit A.d_Layout_unit
 b_Layout_unit : Binds K A.d_Layout_unit ["self"] []
 p_Layout_chunk : PropOf K A.C_Layout "chunk" A.pr_Layout_chunk A.f_Layout_chunk
 F_Layout_chunk : Fun K "chunk" "Layout.chunk" s_Layout_chunk A.f_Layout_chunk A.d_Layout_chunk
 b_Layout_chunk : Binds K A.d_Layout_chunk ["self"] []
 F_Layout_units : Fun K "units" "Layout.units" s_Layout_units A.f_Layout_units A.d_Layout_units
 b_Layout_units : Binds K A.d_Layout_units ["self", "low", "high"] []
 F_Layout_span : Fun K "span" "Layout.span" s_Layout_span A.f_Layout_span A.d_Layout_span
 b_Layout_span : Binds K A.d_Layout_span ["self", "unit", "size"] []
 g_touched : mg "touched" = some (.ref A.f_touched)
 F_touched : Fun K "touched" "touched" s_touched A.f_touched A.d_touched
 b_touched : Binds K A.d_touched ["size", "low", "high"] []
 g_split_units : mg "split_units" = some (.ref A.f_split_units)
 F_split_units : Fun K "split_units" "split_units" s_split_units A.f_split_units A.d_split_units
 b_split_units : Binds K A.d_split_units ["grid", "cells"] []
 F_Sightu_initu : Fun K "__init__" "Sight.__init__" s_Sightu_initu A.f_Sightu_initu A.d_Sightu_initu
 b_Sightu_initu : Binds K A.d_Sightu_initu ["self", "layout", "values"] []
 p_Sight_present : PropOf K A.C_Sight "present" A.pr_Sight_present A.f_Sight_present
 F_Sight_present : Fun K "present" "Sight.present" s_Sight_present A.f_Sight_present A.d_Sight_present
 b_Sight_present : Binds K A.d_Sight_present ["self"] []
 p_Sight_settled : PropOf K A.C_Sight "settled" A.pr_Sight_settled A.f_Sight_settled
 F_Sight_settled : Fun K "settled" "Sight.settled" s_Sight_settled A.f_Sight_settled A.d_Sight_settled
 b_Sight_settled : Binds K A.d_Sight_settled ["self"] []
 F_Sight_write : Fun K "write" "Sight.write" s_Sight_write A.f_Sight_write A.d_Sight_write
 b_Sight_write : Binds K A.d_Sight_write ["self", "address", "values"] []
 F_Sight_sync : Fun K "sync" "Sight.sync" s_Sight_sync A.f_Sight_sync A.d_Sight_sync
 b_Sight_sync : Binds K A.d_Sight_sync ["self"] []
 F_Sight_contents : Fun K "contents" "Sight.contents" s_Sight_contents A.f_Sight_contents A.d_Sight_contents
 b_Sight_contents : Binds K A.d_Sight_contents ["self", "unit"] []
 F_Sight_fetched : Fun K "fetched" "Sight.fetched" s_Sight_fetched A.f_Sight_fetched A.d_Sight_fetched
 b_Sight_fetched : Binds K A.d_Sight_fetched ["self", "codes", "place"] []
 F_Sight_fetches : Fun K "fetches" "Sight.fetches" s_Sight_fetches A.f_Sight_fetches A.d_Sight_fetches
 b_Sight_fetches : Binds K A.d_Sight_fetches ["self", "codes", "place"] []
 g__law_pen : mg "_law_pen" = some (.ref A.f__law_pen)
 F__law_pen : Fun K "_law_pen" "_law_pen" s__law_pen A.f__law_pen A.d__law_pen
 b__law_pen : Binds K A.d__law_pen ["_law_script"] []
 g__law_draw : mg "_law_draw" = some (.ref A.f__law_draw)
 F__law_draw : Fun K "_law_draw" "_law_draw" s__law_draw A.f__law_draw A.d__law_draw
 b__law_draw : Binds K A.d__law_draw ["_law_pen_here", "_law_many"] []
 g__law_pick : mg "_law_pick" = some (.ref A.f__law_pick)
 F__law_pick : Fun K "_law_pick" "_law_pick" s__law_pick A.f__law_pick A.d__law_pick
 b__law_pick : Binds K A.d__law_pick ["_law_pen_here", "_law_some"] []
 g__law_forms : mg "_law_forms" = some (.ref A.f__law_forms)
 F__law_forms : Fun K "_law_forms" "_law_forms" s__law_forms A.f__law_forms A.d__law_forms
 b__law_forms : Binds K A.d__law_forms ["_law_pen_here"] []
 g__law_codes : mg "_law_codes" = some (.ref A.f__law_codes)
 F__law_codes : Fun K "_law_codes" "_law_codes" s__law_codes A.f__law_codes A.d__law_codes
 b__law_codes : Binds K A.d__law_codes ["_law_stop", "_law_forms_here"] []
 g__law_byte : mg "_law_byte" = some (.ref A.f__law_byte)
 F__law_byte : Fun K "_law_byte" "_law_byte" s__law_byte A.f__law_byte A.d__law_byte
 b__law_byte : Binds K A.d__law_byte ["_law_pen_here", "_law_stop", "_law_forms_here"] []
 g__law_every : mg "_law_every" = some (.ref A.f__law_every)
 F__law_every : Fun K "_law_every" "_law_every" s__law_every A.f__law_every A.d__law_every
 b__law_every : Binds K A.d__law_every ["_law_sight", "_law_codes_here", "_law_size"] []
 g__law_held : mg "_law_held" = some (.ref A.f__law_held)
 F__law_held : Fun K "_law_held" "_law_held" s__law_held A.f__law_held A.d__law_held
 b__law_held : Binds K A.d__law_held ["_law_sight", "_law_size", "_law_unit"] []
 g__law_missing : mg "_law_missing" = some (.ref A.f__law_missing)
 F__law_missing : Fun K "_law_missing" "_law_missing" s__law_missing A.f__law_missing A.d__law_missing
 b__law_missing : Binds K A.d__law_missing ["_law_some", "_law_more"] []
 g__law_apart : mg "_law_apart" = some (.ref A.f__law_apart)
 F__law_apart : Fun K "_law_apart" "_law_apart" s__law_apart A.f__law_apart A.d__law_apart
 b__law_apart : Binds K A.d__law_apart ["_law_place", "_law_unit", "_law_low", "_law_high"] []
 g__law_grown : mg "_law_grown" = some (.ref A.f__law_grown)
 F__law_grown : Fun K "_law_grown" "_law_grown" s__law_grown A.f__law_grown A.d__law_grown
 b__law_grown : Binds K A.d__law_grown ["_law_before", "_law_later", "_law_unit", "_law_low", "_law_high"] []
 g__law_write_right : mg "_law_write_right" = some (.ref A.f__law_write_right)
 F__law_write_right : Fun K "_law_write_right" "_law_write_right" s__law_write_right A.f__law_write_right A.d__law_write_right
 b__law_write_right : Binds K A.d__law_write_right ["_law_sight", "_law_codes_here", "_law_size", "_law_unit", "_law_deed_here"] []
 g__law_one_each : mg "_law_one_each" = some (.ref A.f__law_one_each)
 F__law_one_each : Fun K "_law_one_each" "_law_one_each" s__law_one_each A.f__law_one_each A.d__law_one_each
 b__law_one_each : Binds K A.d__law_one_each ["_law_sight", "_law_codes_here", "_law_forms_here", "_law_size"] []
 g__law_within : mg "_law_within" = some (.ref A.f__law_within)
 F__law_within : Fun K "_law_within" "_law_within" s__law_within A.f__law_within A.d__law_within
 b__law_within : Binds K A.d__law_within ["_law_sight", "_law_codes_here", "_law_size", "_law_unit"] []
 g__law_turned : mg "_law_turned" = some (.ref A.f__law_turned)
 F__law_turned : Fun K "_law_turned" "_law_turned" s__law_turned A.f__law_turned A.d__law_turned
 b__law_turned : Binds K A.d__law_turned ["_law_pen_here", "_law_codes_here", "_law_cells", "_law_unit"] []
 g__law_deed : mg "_law_deed" = some (.ref A.f__law_deed)
 F__law_deed : Fun K "_law_deed" "_law_deed" s__law_deed A.f__law_deed A.d__law_deed
 b__law_deed : Binds K A.d__law_deed ["_law_pen_here", "_law_size", "_law_stop", "_law_forms_here", "_law_now"] []
 g_law : mg "law" = some (.ref A.f_law)
 F_law : Fun K "law" "law" s_law A.f_law A.d_law
 b_law : Binds K A.d_law ["_law_script"] []
 cl_Form : Cls K A.C_Form
 mk_Form : Mk K A.C_Form A.f_Formu_initu
 no_Form_name : NoAttr K A.C_Form "name"
 no_Form_length : NoAttr K A.C_Form "length"
 no_Form_flow : NoAttr K A.C_Form "flow"
 cl_CodeSet : Cls K A.C_CodeSet
 mk_CodeSet : Mk K A.C_CodeSet A.f_CodeSetu_initu
 no_CodeSet_stop : NoAttr K A.C_CodeSet "stop"
 no_CodeSet_order : NoAttr K A.C_CodeSet "order"
 no_CodeSet_table : NoAttr K A.C_CodeSet "table"
 cl_Layout : Cls K A.C_Layout
 mk_Layout : Mk K A.C_Layout A.f_Layoutu_initu
 m_Layout_units : Meth K A.C_Layout "units" A.f_Layout_units
 m_Layout_span : Meth K A.C_Layout "span" A.f_Layout_span
 no_Layout_held_unit : NoAttr K A.C_Layout "held_unit"
 no_Layout_held_chunk : NoAttr K A.C_Layout "held_chunk"
 cl_Sight : Cls K A.C_Sight
 mk_Sight : Mk K A.C_Sight A.f_Sightu_initu
 m_Sight_write : Meth K A.C_Sight "write" A.f_Sight_write
 m_Sight_sync : Meth K A.C_Sight "sync" A.f_Sight_sync
 m_Sight_fetched : Meth K A.C_Sight "fetched" A.f_Sight_fetched
 m_Sight_fetches : Meth K A.C_Sight "fetches" A.f_Sight_fetches
 m_Sight_contents : Meth K A.C_Sight "contents" A.f_Sight_contents
 no_Sight_grid : NoAttr K A.C_Sight "grid"
 no_Sight_cells : NoAttr K A.C_Sight "cells"
 no_Sight_shown : NoAttr K A.C_Sight "shown"
 n_len : mg "len" = none
 n_abs : mg "abs" = none
 n_int : mg "int" = none
 n_list : mg "list" = none
 n_range : mg "range" = none
 n_isinstance : mg "isinstance" = none
 n_bool : mg "bool" = none
 n_str : mg "str" = none
 n_tuple : mg "tuple" = none
 n_all : mg "all" = none
 n_set : mg "set" = none
 n_sorted : mg "sorted" = none
 n_ValueError : mg "ValueError" = none
 n_max : mg "max" = none
 n_min : mg "min" = none
 n_enumerate : mg "enumerate" = none
 n_any : mg "any" = none
 g_LETTERS : ∃ t, mg "LETTERS" = some (.str "abcdefghijklmnopqrstuvwxyz" t)
 g_MOST_ADDRESS : ∃ t, mg "MOST_ADDRESS" = some (.int 23 t)
 g_BadAddress : mg "BadAddress" = some (.ref A.C_BadAddress)
 ox_BadAddress : OexC K A.C_BadAddress
 i_BadAddress : PySem.W.findIn K (.ref A.C_BadAddress) "__init__" = some (some (.ref A.f_BadAddressu_initu))
 ti_BadAddress : PySem.W.typeIn K (.ref A.f_BadAddressu_initu) = some (.type "function")
 no_BadAddress_at : PySem.W.findIn K (.ref A.C_BadAddress) "at" = some none
 xf_BadAddress : XfC K A.C_BadAddress
 ec_BadAddress : ExcC K A.C_BadAddress
 F_BadAddressu_initu : Vc.FunS PySem.Challenge.pw_codestitch_k33_whole_more_writes_show_mo K mg "__init__" "BadAddress.__init__" s_BadAddressu_initu A.f_BadAddressu_initu A.d_BadAddressu_initu A.C_BadAddress "self"
 b_BadAddressu_initu : Binds K A.d_BadAddressu_initu ["self", "at"] []
 g_BadLayout : mg "BadLayout" = some (.ref A.C_BadLayout)
 ox_BadLayout : OexC K A.C_BadLayout
 i_BadLayout : PySem.W.findIn K (.ref A.C_BadLayout) "__init__" = some (some (.ref A.f_BadLayoutu_initu))
 ti_BadLayout : PySem.W.typeIn K (.ref A.f_BadLayoutu_initu) = some (.type "function")
 no_BadLayout_part : PySem.W.findIn K (.ref A.C_BadLayout) "part" = some none
 xf_BadLayout : XfC K A.C_BadLayout
 ec_BadLayout : ExcC K A.C_BadLayout
 F_BadLayoutu_initu : Vc.FunS PySem.Challenge.pw_codestitch_k33_whole_more_writes_show_mo K mg "__init__" "BadLayout.__init__" s_BadLayoutu_initu A.f_BadLayoutu_initu A.d_BadLayoutu_initu A.C_BadLayout "self"
 b_BadLayoutu_initu : Binds K A.d_BadLayoutu_initu ["self", "part"] []
 ic_Sight : C8.InsC K A.C_Sight
 nsq_CodeSet : PySem.W.noSeq K A.C_CodeSet = true
 sp_CodeSet_CodeSetu_containsu : Vc.SpM K A.C_CodeSet A.f_CodeSetu_containsu "__contains__"
 sp_CodeSet_CodeSetu_getitemu : Vc.SpM K A.C_CodeSet A.f_CodeSetu_getitemu "__getitem__"
 spf_CodeSetu_getitemu : PySem.W.fnIn K A.f_CodeSetu_getitemu = true
 cr_Form : ClX.CRead K A.C_Form (.type "type")
 cr_CodeSet : ClX.CRead K A.C_CodeSet (.type "type")
 cv_FLOWS : ClX.CVal K A.C_Form (.type "type") "FLOWS" (.ref A.a_FLOWS) (.ref A.a_FLOWS)
 q_FLOWS : ∀ H, SqT K H A.a_FLOWS [.str "next", .str "jump", .str "test", .str "end"]
 cv_MOST : ∃ u, ClX.CVal K A.C_CodeSet (.type "type") "MOST_FORMS" (.int 16) u
 cr_Layout : ClX.CRead K A.C_Layout (.type "type")
 cv_UNITS : ClX.CVal K A.C_Layout (.type "type") "UNITS" (.ref A.a_UNITS) (.ref A.a_UNITS)
 q_UNITS : ∀ H, SqT K H A.a_UNITS [.int 1, .int 2, .int 4, .int 8]
 cv_CHUNKS : ClX.CVal K A.C_Layout (.type "type") "CHUNKS" (.ref A.a_CHUNKS) (.ref A.a_CHUNKS)
 q_CHUNKS : ∀ H, SqT K H A.a_CHUNKS [.int 1, .int 2, .int 4, .int 8, .int 16]
 ns_BadAddress : PySem.W.subIn K (.ref A.C_BadAddress) (.type "StopIteration") = some false
end My
namespace My
section
open PySem PySem.Spec PyProof.Rows L2
def fa0 : List (PySem.W.Frag → Bool) := [
 fun K => decide (PySem.W.nsIn K mainGlobals "Form" = some (some (.ref 307))),
 fun K => decide (PySem.W.nsIn K mainGlobals "CodeSet" = some (some (.ref 395))),
 fun K => decide (PySem.W.nsIn K mainGlobals "Layout" = some (some (.ref 259))),
 fun K => decide (PySem.W.nsIn K mainGlobals "Sight" = some (some (.ref 599))),
 fun K => decide (PySem.W.nsIn K mainGlobals "is_byte" = some (some (.ref 270))),
 fun K => Hx.fdB K 270 (Hx.pPlain K "is_byte"),
 fun K => PySem.W.keepIn K (.ref 270),
 fun K => decide (PySem.W.nsIn K mainGlobals "is_name" = some (some (.ref 275))),
 fun K => Hx.fdB K 275 (Hx.pPlain K "is_name"),
 fun K => PySem.W.keepIn K (.ref 275),
 fun K => decide (PySem.W.findIn K (.ref 307) "__init__" = some (some (.ref 290))),
 fun K => PySem.W.isFn K (.ref 290),
 fun K => Hx.fdB K 290 (Hx.pPlain K "Form.__init__"),
 fun K => PySem.W.keepIn K (.ref 290),
 fun K => decide (PySem.W.nsIn K mainGlobals "check_forms" = some (some (.ref 316))),
 fun K => Hx.fdB K 316 (Hx.pPlain K "check_forms"),
 fun K => PySem.W.keepIn K (.ref 316),
 fun K => decide (PySem.W.findIn K (.ref 395) "__init__" = some (some (.ref 328))),
 fun K => PySem.W.isFn K (.ref 328),
 fun K => Hx.fdB K 328 (Hx.pPlain K "CodeSet.__init__"),
 fun K => PySem.W.keepIn K (.ref 328),
 fun K => decide (PySem.W.findIn K (.ref 395) "__contains__" = some (some (.ref 345))),
 fun K => PySem.W.isFn K (.ref 345),
 fun K => Hx.fdB K 345 (Hx.pPlain K "CodeSet.__contains__"),
 fun K => PySem.W.keepIn K (.ref 345),
 fun K => decide (PySem.W.findIn K (.ref 395) "__getitem__" = some (some (.ref 352))),
 fun K => PySem.W.isFn K (.ref 352),
 fun K => Hx.fdB K 352 (Hx.pPlain K "CodeSet.__getitem__"),
 fun K => PySem.W.keepIn K (.ref 352),
 fun K => decide (PySem.W.findIn K (.ref 259) "__init__" = some (some (.ref 187))),
 fun K => PySem.W.isFn K (.ref 187),
 fun K => Hx.fdB K 187 (Hx.pDfl K "Layout.__init__" 180),
 fun K => PySem.W.keepIn K (.ref 187),
 fun K => Hx.seqB K 180 [.int 1, .int 1],
 fun K => decide (PySem.W.findIn K (.ref 259) "unit" = some (some (.ref 204))),
 fun K => decide (PySem.W.specialIn K (.ref 204) "__get__" = some (some (.builtin "property.__get__"))),
 fun K => decide (PySem.W.takesIn K (.ref 204) = some true),
 fun K => Hx.recB1 K 204 "property" 194,
 fun K => Hx.fdB K 194 (Hx.pPlain K "Layout.unit"),
 fun K => PySem.W.keepIn K (.ref 194)]
def fa1 : List (PySem.W.Frag → Bool) := [
 fun K => decide (PySem.W.findIn K (.ref 259) "chunk" = some (some (.ref 221))),
 fun K => decide (PySem.W.specialIn K (.ref 221) "__get__" = some (some (.builtin "property.__get__"))),
 fun K => decide (PySem.W.takesIn K (.ref 221) = some true),
 fun K => Hx.recB1 K 221 "property" 211,
 fun K => Hx.fdB K 211 (Hx.pPlain K "Layout.chunk"),
 fun K => PySem.W.keepIn K (.ref 211),
 fun K => decide (PySem.W.findIn K (.ref 259) "units" = some (some (.ref 235))),
 fun K => PySem.W.isFn K (.ref 235),
 fun K => Hx.fdB K 235 (Hx.pPlain K "Layout.units"),
 fun K => PySem.W.keepIn K (.ref 235),
 fun K => decide (PySem.W.findIn K (.ref 259) "span" = some (some (.ref 249))),
 fun K => PySem.W.isFn K (.ref 249),
 fun K => Hx.fdB K 249 (Hx.pPlain K "Layout.span"),
 fun K => PySem.W.keepIn K (.ref 249),
 fun K => decide (PySem.W.nsIn K mainGlobals "touched" = some (some (.ref 170))),
 fun K => Hx.fdB K 170 (Hx.pPlain K "touched"),
 fun K => PySem.W.keepIn K (.ref 170),
 fun K => decide (PySem.W.nsIn K mainGlobals "split_units" = some (some (.ref 515))),
 fun K => Hx.fdB K 515 (Hx.pPlain K "split_units"),
 fun K => PySem.W.keepIn K (.ref 515),
 fun K => decide (PySem.W.findIn K (.ref 599) "__init__" = some (some (.ref 527))),
 fun K => PySem.W.isFn K (.ref 527),
 fun K => Hx.fdB K 527 (Hx.pPlain K "Sight.__init__"),
 fun K => PySem.W.keepIn K (.ref 527),
 fun K => decide (PySem.W.findIn K (.ref 599) "present" = some (some (.ref 545))),
 fun K => decide (PySem.W.specialIn K (.ref 545) "__get__" = some (some (.builtin "property.__get__"))),
 fun K => decide (PySem.W.takesIn K (.ref 545) = some true),
 fun K => Hx.recB1 K 545 "property" 544,
 fun K => Hx.fdB K 544 (Hx.pPlain K "Sight.present"),
 fun K => PySem.W.keepIn K (.ref 544),
 fun K => decide (PySem.W.findIn K (.ref 599) "settled" = some (some (.ref 551))),
 fun K => decide (PySem.W.specialIn K (.ref 551) "__get__" = some (some (.builtin "property.__get__"))),
 fun K => decide (PySem.W.takesIn K (.ref 551) = some true),
 fun K => Hx.recB1 K 551 "property" 550,
 fun K => Hx.fdB K 550 (Hx.pPlain K "Sight.settled"),
 fun K => PySem.W.keepIn K (.ref 550),
 fun K => decide (PySem.W.findIn K (.ref 599) "write" = some (some (.ref 558))),
 fun K => PySem.W.isFn K (.ref 558),
 fun K => Hx.fdB K 558 (Hx.pPlain K "Sight.write"),
 fun K => PySem.W.keepIn K (.ref 558)]
def fa2 : List (PySem.W.Frag → Bool) := [
 fun K => decide (PySem.W.findIn K (.ref 599) "sync" = some (some (.ref 563))),
 fun K => PySem.W.isFn K (.ref 563),
 fun K => Hx.fdB K 563 (Hx.pPlain K "Sight.sync"),
 fun K => PySem.W.keepIn K (.ref 563),
 fun K => decide (PySem.W.findIn K (.ref 599) "contents" = some (some (.ref 577))),
 fun K => PySem.W.isFn K (.ref 577),
 fun K => Hx.fdB K 577 (Hx.pPlain K "Sight.contents"),
 fun K => PySem.W.keepIn K (.ref 577),
 fun K => decide (PySem.W.findIn K (.ref 599) "fetched" = some (some (.ref 582))),
 fun K => PySem.W.isFn K (.ref 582),
 fun K => Hx.fdB K 582 (Hx.pPlain K "Sight.fetched"),
 fun K => PySem.W.keepIn K (.ref 582),
 fun K => decide (PySem.W.findIn K (.ref 599) "fetches" = some (some (.ref 589))),
 fun K => PySem.W.isFn K (.ref 589),
 fun K => Hx.fdB K 589 (Hx.pPlain K "Sight.fetches"),
 fun K => PySem.W.keepIn K (.ref 589),
 fun K => decide (PySem.W.nsIn K mainGlobals "_law_pen" = some (some (.ref 610))),
 fun K => Hx.fdB K 610 (Hx.pPlain K "_law_pen"),
 fun K => PySem.W.keepIn K (.ref 610),
 fun K => decide (PySem.W.nsIn K mainGlobals "_law_draw" = some (some (.ref 617))),
 fun K => Hx.fdB K 617 (Hx.pPlain K "_law_draw"),
 fun K => PySem.W.keepIn K (.ref 617),
 fun K => decide (PySem.W.nsIn K mainGlobals "_law_pick" = some (some (.ref 624))),
 fun K => Hx.fdB K 624 (Hx.pPlain K "_law_pick"),
 fun K => PySem.W.keepIn K (.ref 624),
 fun K => decide (PySem.W.nsIn K mainGlobals "_law_forms" = some (some (.ref 629))),
 fun K => Hx.fdB K 629 (Hx.pPlain K "_law_forms"),
 fun K => PySem.W.keepIn K (.ref 629),
 fun K => decide (PySem.W.nsIn K mainGlobals "_law_codes" = some (some (.ref 636))),
 fun K => Hx.fdB K 636 (Hx.pPlain K "_law_codes"),
 fun K => PySem.W.keepIn K (.ref 636),
 fun K => decide (PySem.W.nsIn K mainGlobals "_law_byte" = some (some (.ref 643))),
 fun K => Hx.fdB K 643 (Hx.pPlain K "_law_byte"),
 fun K => PySem.W.keepIn K (.ref 643),
 fun K => decide (PySem.W.nsIn K mainGlobals "_law_every" = some (some (.ref 648))),
 fun K => Hx.fdB K 648 (Hx.pPlain K "_law_every"),
 fun K => PySem.W.keepIn K (.ref 648),
 fun K => decide (PySem.W.nsIn K mainGlobals "_law_held" = some (some (.ref 653))),
 fun K => Hx.fdB K 653 (Hx.pPlain K "_law_held"),
 fun K => PySem.W.keepIn K (.ref 653)]
def fa3 : List (PySem.W.Frag → Bool) := [
 fun K => decide (PySem.W.nsIn K mainGlobals "_law_missing" = some (some (.ref 658))),
 fun K => Hx.fdB K 658 (Hx.pPlain K "_law_missing"),
 fun K => PySem.W.keepIn K (.ref 658),
 fun K => decide (PySem.W.nsIn K mainGlobals "_law_apart" = some (some (.ref 665))),
 fun K => Hx.fdB K 665 (Hx.pPlain K "_law_apart"),
 fun K => PySem.W.keepIn K (.ref 665),
 fun K => decide (PySem.W.nsIn K mainGlobals "_law_grown" = some (some (.ref 672))),
 fun K => Hx.fdB K 672 (Hx.pPlain K "_law_grown"),
 fun K => PySem.W.keepIn K (.ref 672),
 fun K => decide (PySem.W.nsIn K mainGlobals "_law_write_right" = some (some (.ref 679))),
 fun K => Hx.fdB K 679 (Hx.pPlain K "_law_write_right"),
 fun K => PySem.W.keepIn K (.ref 679),
 fun K => decide (PySem.W.nsIn K mainGlobals "_law_one_each" = some (some (.ref 686))),
 fun K => Hx.fdB K 686 (Hx.pPlain K "_law_one_each"),
 fun K => PySem.W.keepIn K (.ref 686),
 fun K => decide (PySem.W.nsIn K mainGlobals "_law_within" = some (some (.ref 691))),
 fun K => Hx.fdB K 691 (Hx.pPlain K "_law_within"),
 fun K => PySem.W.keepIn K (.ref 691),
 fun K => decide (PySem.W.nsIn K mainGlobals "_law_turned" = some (some (.ref 698))),
 fun K => Hx.fdB K 698 (Hx.pPlain K "_law_turned"),
 fun K => PySem.W.keepIn K (.ref 698),
 fun K => decide (PySem.W.nsIn K mainGlobals "_law_deed" = some (some (.ref 703))),
 fun K => Hx.fdB K 703 (Hx.pPlain K "_law_deed"),
 fun K => PySem.W.keepIn K (.ref 703),
 fun K => decide (PySem.W.nsIn K mainGlobals "law" = some (some (.ref 708))),
 fun K => Hx.fdB K 708 (Hx.pPlain K "law"),
 fun K => PySem.W.keepIn K (.ref 708),
 fun K => PySem.W.plainGet K 307 Str.empty,
 fun K => PySem.W.hasDictIn K 307,
 fun K => PySem.W.plainOver K 307,
 fun K => decide (PySem.W.findIn K (.ref 307) "__setattr__" = some (some (.builtin "object.__setattr__"))),
 fun K => PySem.W.makesIn K 307,
 fun K => PySem.W.keepIn K (.ref 307),
 fun K => decide (PySem.W.findIn K (.ref 307) "name" = some none),
 fun K => decide (PySem.W.findIn K (.ref 307) "length" = some none),
 fun K => decide (PySem.W.findIn K (.ref 307) "flow" = some none),
 fun K => PySem.W.plainGet K 395 Str.empty,
 fun K => PySem.W.hasDictIn K 395,
 fun K => PySem.W.plainOver K 395,
 fun K => decide (PySem.W.findIn K (.ref 395) "__setattr__" = some (some (.builtin "object.__setattr__")))]
def fa4 : List (PySem.W.Frag → Bool) := [
 fun K => PySem.W.makesIn K 395,
 fun K => PySem.W.keepIn K (.ref 395),
 fun K => decide (PySem.W.findIn K (.ref 395) "stop" = some none),
 fun K => decide (PySem.W.findIn K (.ref 395) "order" = some none),
 fun K => decide (PySem.W.findIn K (.ref 395) "table" = some none),
 fun K => PySem.W.plainGet K 259 Str.empty,
 fun K => PySem.W.hasDictIn K 259,
 fun K => PySem.W.plainOver K 259,
 fun K => decide (PySem.W.findIn K (.ref 259) "__setattr__" = some (some (.builtin "object.__setattr__"))),
 fun K => PySem.W.makesIn K 259,
 fun K => PySem.W.keepIn K (.ref 259),
 fun K => decide (PySem.W.findIn K (.ref 259) "held_unit" = some none),
 fun K => decide (PySem.W.findIn K (.ref 259) "held_chunk" = some none),
 fun K => PySem.W.plainGet K 599 Str.empty,
 fun K => PySem.W.hasDictIn K 599,
 fun K => PySem.W.plainOver K 599,
 fun K => decide (PySem.W.findIn K (.ref 599) "__setattr__" = some (some (.builtin "object.__setattr__"))),
 fun K => PySem.W.makesIn K 599,
 fun K => PySem.W.keepIn K (.ref 599),
 fun K => decide (PySem.W.findIn K (.ref 599) "grid" = some none),
 fun K => decide (PySem.W.findIn K (.ref 599) "cells" = some none),
 fun K => decide (PySem.W.findIn K (.ref 599) "shown" = some none),
 fun K => decide (PySem.W.nsIn K mainGlobals "len" = some none),
 fun K => decide (PySem.W.nsIn K mainGlobals "abs" = some none),
 fun K => decide (PySem.W.nsIn K mainGlobals "int" = some none),
 fun K => decide (PySem.W.nsIn K mainGlobals "list" = some none),
 fun K => decide (PySem.W.nsIn K mainGlobals "range" = some none),
 fun K => decide (PySem.W.nsIn K mainGlobals "isinstance" = some none),
 fun K => decide (PySem.W.nsIn K mainGlobals "bool" = some none),
 fun K => decide (PySem.W.nsIn K mainGlobals "str" = some none),
 fun K => decide (PySem.W.nsIn K mainGlobals "tuple" = some none),
 fun K => decide (PySem.W.nsIn K mainGlobals "all" = some none),
 fun K => decide (PySem.W.nsIn K mainGlobals "set" = some none),
 fun K => decide (PySem.W.nsIn K mainGlobals "sorted" = some none),
 fun K => decide (PySem.W.nsIn K mainGlobals "ValueError" = some none),
 fun K => decide (PySem.W.nsIn K mainGlobals "max" = some none),
 fun K => decide (PySem.W.nsIn K mainGlobals "min" = some none),
 fun K => decide (PySem.W.nsIn K mainGlobals "enumerate" = some none),
 fun K => decide (PySem.W.nsIn K mainGlobals "any" = some none),
 fun K => Hx.strB K mainGlobals "LETTERS" "abcdefghijklmnopqrstuvwxyz"]
def fa5 : List (PySem.W.Frag → Bool) := [
 fun K => Hx.intB K mainGlobals "MOST_ADDRESS" 23,
 fun K => decide (PySem.W.nsIn K mainGlobals "super" = some none),
 fun K => decide (PySem.W.nsIn K cStatics "thirdparty.any" = some none),
 fun K => decide (PySem.W.specialIn K (.builtin "object.__class__") "__get__" = some (some (.builtin "getset_descriptor.__get__"))),
 fun K => decide (PySem.W.takesIn K (.builtin "object.__class__") = some true),
 fun K => decide (PySem.W.nsIn K mainGlobals "BadAddress" = some (some (.ref 140))),
 fun K => Hx.excB K 140,
 fun K => decide (PySem.W.findIn K (.ref 140) "__setattr__" = some (some (.builtin "object.__setattr__"))),
 fun K => decide (PySem.W.subIn K (.ref 140) (.type "BaseException") = some true),
 fun K => decide (PySem.W.typeIn K (.ref 140) = some (.type "type")),
 fun K => PySem.W.keepIn K (.ref 140),
 fun K => decide (PySem.W.findIn K (.ref 140) "__init__" = some (some (.ref 137))),
 fun K => decide (PySem.W.typeIn K (.ref 137) = some (.type "function")),
 fun K => decide (PySem.W.findIn K (.ref 140) "at" = some none),
 fun K => decide (PySem.W.findIn K (.ref 140) "__getattribute__" = some (some (.builtin "BaseException.__getattribute__"))),
 fun K => decide (PySem.W.findIn K (.ref 140) "__getattr__" = some none),
 fun K => PySem.W.hasDictIn K 140,
 fun K => decide (PySem.W.findIn K (.ref 140) "__class__" = some (some (.builtin "object.__class__"))),
 fun K => decide (PySem.W.mroIn K 140 (.type "object") = some true),
 fun K => Hx.fdB K 137 (Hx.pSup K "BadAddress.__init__" 136),
 fun K => PySem.W.keepIn K (.ref 137),
 fun K => Hx.filB K 136 PySem.Challenge.pw_codestitch_k33_whole_more_writes_show_mo.main.file,
 fun K => Hx.celB K 125 140,
 fun K => decide (PySem.W.mroIn K 140 (.ref 140) = some true),
 fun K => decide (PySem.W.ks_superIn K 140 140 "__init__" = some (some (.builtin "ValueError.__init__"))),
 fun K => decide (PySem.W.subIn K (.ref 140) (.type "ValueError") = some true),
 fun K => decide (PySem.W.nsIn K mainGlobals "BadLayout" = some (some (.ref 98))),
 fun K => Hx.excB K 98,
 fun K => decide (PySem.W.findIn K (.ref 98) "__setattr__" = some (some (.builtin "object.__setattr__"))),
 fun K => decide (PySem.W.subIn K (.ref 98) (.type "BaseException") = some true),
 fun K => decide (PySem.W.typeIn K (.ref 98) = some (.type "type")),
 fun K => PySem.W.keepIn K (.ref 98),
 fun K => decide (PySem.W.findIn K (.ref 98) "__init__" = some (some (.ref 95))),
 fun K => decide (PySem.W.typeIn K (.ref 95) = some (.type "function")),
 fun K => decide (PySem.W.findIn K (.ref 98) "part" = some none),
 fun K => decide (PySem.W.findIn K (.ref 98) "__getattribute__" = some (some (.builtin "BaseException.__getattribute__"))),
 fun K => decide (PySem.W.findIn K (.ref 98) "__getattr__" = some none),
 fun K => PySem.W.hasDictIn K 98,
 fun K => decide (PySem.W.findIn K (.ref 98) "__class__" = some (some (.builtin "object.__class__"))),
 fun K => decide (PySem.W.mroIn K 98 (.type "object") = some true)]
def fa6 : List (PySem.W.Frag → Bool) := [
 fun K => Hx.fdB K 95 (Hx.pSup K "BadLayout.__init__" 94),
 fun K => PySem.W.keepIn K (.ref 95),
 fun K => Hx.filB K 94 PySem.Challenge.pw_codestitch_k33_whole_more_writes_show_mo.main.file,
 fun K => Hx.celB K 83 98,
 fun K => decide (PySem.W.mroIn K 98 (.ref 98) = some true),
 fun K => decide (PySem.W.ks_superIn K 98 98 "__init__" = some (some (.builtin "ValueError.__init__"))),
 fun K => decide (PySem.W.subIn K (.ref 98) (.type "ValueError") = some true),
 fun K => decide (PySem.W.findIn K (.ref 599) "__class__" = some (some (.builtin "object.__class__"))),
 fun K => decide (PySem.W.mroIn K 599 (.type "object") = some true),
 fun K => decide (PySem.W.kitOne K (.ref 599) (.ref 599) = some true),
 fun K => PySem.W.noSeq K 395,
 fun K => PySem.W.fnIn K 352,
 fun K => PySem.W.readsIn K 307 (.type "type"),
 fun K => decide (PySem.W.specialIn K (.ref 307) "__getattribute__" = some (some (.builtin "type.__getattribute__"))),
 fun K => PySem.W.readsIn K 395 (.type "type"),
 fun K => decide (PySem.W.specialIn K (.ref 395) "__getattribute__" = some (some (.builtin "type.__getattribute__"))),
 fun K => Hx.fcR K 307 "FLOWS" 283,
 fun K => Hx.seqB K 283 [.str "next", .str "jump", .str "test", .str "end"],
 fun K => Hx.fcI K 395 "MOST_FORMS" 16,
 fun K => PySem.W.readsIn K 259 (.type "type"),
 fun K => decide (PySem.W.specialIn K (.ref 259) "__getattribute__" = some (some (.builtin "type.__getattribute__"))),
 fun K => Hx.fcR K 259 "UNITS" 178,
 fun K => Hx.seqB K 178 [.int 1, .int 2, .int 4, .int 8],
 fun K => Hx.fcR K 259 "CHUNKS" 179,
 fun K => Hx.seqB K 179 [.int 1, .int 2, .int 4, .int 8, .int 16],
 fun K => decide (PySem.W.subIn K (.ref 140) (.type "StopIteration") = some false)]
def faN : List (PySem.W.Frag → Bool) := fa0 ++ (fa1 ++ (fa2 ++ (fa3 ++ (fa4 ++ (fa5 ++ (fa6))))))
def fn0 : List Hx.Dq := [
 ⟨270, "is_byte", "is_byte", defArgs s_is_byte, defBody s_is_byte, defScope s_is_byte, []⟩,
 ⟨275, "is_name", "is_name", defArgs s_is_name, defBody s_is_name, defScope s_is_name, []⟩,
 ⟨290, "__init__", "Form.__init__", defArgs s_Formu_initu, defBody s_Formu_initu, defScope s_Formu_initu, []⟩,
 ⟨316, "check_forms", "check_forms", defArgs s_check_forms, defBody s_check_forms, defScope s_check_forms, []⟩,
 ⟨328, "__init__", "CodeSet.__init__", defArgs s_CodeSetu_initu, defBody s_CodeSetu_initu, defScope s_CodeSetu_initu, []⟩,
 ⟨345, "__contains__", "CodeSet.__contains__", defArgs s_CodeSetu_containsu, defBody s_CodeSetu_containsu, defScope s_CodeSetu_containsu, []⟩,
 ⟨352, "__getitem__", "CodeSet.__getitem__", defArgs s_CodeSetu_getitemu, defBody s_CodeSetu_getitemu, defScope s_CodeSetu_getitemu, []⟩,
 ⟨187, "__init__", "Layout.__init__", defArgs s_Layoutu_initu, defBody s_Layoutu_initu, defScope s_Layoutu_initu, []⟩,
 ⟨194, "unit", "Layout.unit", defArgs s_Layout_unit, defBody s_Layout_unit, defScope s_Layout_unit, []⟩,
 ⟨211, "chunk", "Layout.chunk", defArgs s_Layout_chunk, defBody s_Layout_chunk, defScope s_Layout_chunk, []⟩,
 ⟨235, "units", "Layout.units", defArgs s_Layout_units, defBody s_Layout_units, defScope s_Layout_units, []⟩,
 ⟨249, "span", "Layout.span", defArgs s_Layout_span, defBody s_Layout_span, defScope s_Layout_span, []⟩,
 ⟨170, "touched", "touched", defArgs s_touched, defBody s_touched, defScope s_touched, []⟩,
 ⟨515, "split_units", "split_units", defArgs s_split_units, defBody s_split_units, defScope s_split_units, []⟩,
 ⟨527, "__init__", "Sight.__init__", defArgs s_Sightu_initu, defBody s_Sightu_initu, defScope s_Sightu_initu, []⟩,
 ⟨544, "present", "Sight.present", defArgs s_Sight_present, defBody s_Sight_present, defScope s_Sight_present, []⟩,
 ⟨550, "settled", "Sight.settled", defArgs s_Sight_settled, defBody s_Sight_settled, defScope s_Sight_settled, []⟩,
 ⟨558, "write", "Sight.write", defArgs s_Sight_write, defBody s_Sight_write, defScope s_Sight_write, []⟩,
 ⟨563, "sync", "Sight.sync", defArgs s_Sight_sync, defBody s_Sight_sync, defScope s_Sight_sync, []⟩,
 ⟨577, "contents", "Sight.contents", defArgs s_Sight_contents, defBody s_Sight_contents, defScope s_Sight_contents, []⟩,
 ⟨582, "fetched", "Sight.fetched", defArgs s_Sight_fetched, defBody s_Sight_fetched, defScope s_Sight_fetched, []⟩,
 ⟨589, "fetches", "Sight.fetches", defArgs s_Sight_fetches, defBody s_Sight_fetches, defScope s_Sight_fetches, []⟩,
 ⟨610, "_law_pen", "_law_pen", defArgs s__law_pen, defBody s__law_pen, defScope s__law_pen, []⟩,
 ⟨617, "_law_draw", "_law_draw", defArgs s__law_draw, defBody s__law_draw, defScope s__law_draw, []⟩,
 ⟨624, "_law_pick", "_law_pick", defArgs s__law_pick, defBody s__law_pick, defScope s__law_pick, []⟩,
 ⟨629, "_law_forms", "_law_forms", defArgs s__law_forms, defBody s__law_forms, defScope s__law_forms, []⟩,
 ⟨636, "_law_codes", "_law_codes", defArgs s__law_codes, defBody s__law_codes, defScope s__law_codes, []⟩,
 ⟨643, "_law_byte", "_law_byte", defArgs s__law_byte, defBody s__law_byte, defScope s__law_byte, []⟩,
 ⟨648, "_law_every", "_law_every", defArgs s__law_every, defBody s__law_every, defScope s__law_every, []⟩,
 ⟨653, "_law_held", "_law_held", defArgs s__law_held, defBody s__law_held, defScope s__law_held, []⟩,
 ⟨658, "_law_missing", "_law_missing", defArgs s__law_missing, defBody s__law_missing, defScope s__law_missing, []⟩,
 ⟨665, "_law_apart", "_law_apart", defArgs s__law_apart, defBody s__law_apart, defScope s__law_apart, []⟩,
 ⟨672, "_law_grown", "_law_grown", defArgs s__law_grown, defBody s__law_grown, defScope s__law_grown, []⟩,
 ⟨679, "_law_write_right", "_law_write_right", defArgs s__law_write_right, defBody s__law_write_right, defScope s__law_write_right, []⟩,
 ⟨686, "_law_one_each", "_law_one_each", defArgs s__law_one_each, defBody s__law_one_each, defScope s__law_one_each, []⟩,
 ⟨691, "_law_within", "_law_within", defArgs s__law_within, defBody s__law_within, defScope s__law_within, []⟩,
 ⟨698, "_law_turned", "_law_turned", defArgs s__law_turned, defBody s__law_turned, defScope s__law_turned, []⟩,
 ⟨703, "_law_deed", "_law_deed", defArgs s__law_deed, defBody s__law_deed, defScope s__law_deed, []⟩,
 ⟨708, "law", "law", defArgs s_law, defBody s_law, defScope s_law, []⟩,
 ⟨137, "__init__", "BadAddress.__init__", defArgs s_BadAddressu_initu, defBody s_BadAddressu_initu, defScope s_BadAddressu_initu, [("__class__", 125)]⟩]
def fn1 : List Hx.Dq := [
 ⟨95, "__init__", "BadLayout.__init__", defArgs s_BadLayoutu_initu, defBody s_BadLayoutu_initu, defScope s_BadLayoutu_initu, [("__class__", 83)]⟩]
def fnN : List Hx.Dq := fn0 ++ (fn1)
end
section
open PySem PySem.W PySem.Calls PyProof.Rows
def ad0 : List Addr := [3, 2, 31, 44, 56, 77, 98, 119, 140, 161, 259, 307, 395, 409, 457, 487, 508, 599, 30, 43, 55, 76, 97, 118, 139, 160, 258, 306, 336, 338, 394, 408, 456, 486, 507, 535, 537, 598, 32, 204]
def ad1 : List Addr := [221, 260, 261, 308, 309, 337, 396, 397, 410, 411, 435, 458, 459, 536, 545, 551, 600, 601, 21, 74, 95, 116, 137, 158, 170, 187, 194, 203, 211, 220, 228, 235, 242, 249, 256, 270, 275, 290, 297, 304]
def ad2 : List Addr := [316, 328, 335, 345, 352, 359, 366, 373, 378, 385, 392, 427, 434, 442, 449, 454, 477, 484, 505, 515, 527, 534, 544, 550, 558, 563, 570, 577, 582, 589, 596, 610, 617, 624, 629, 636, 643, 648, 653, 658]
def ad3 : List Addr := [665, 672, 679, 686, 691, 698, 703, 708, 20, 62, 73, 83, 94, 104, 115, 125, 136, 146, 157, 169, 178, 179, 180, 186, 193, 202, 210, 219, 227, 234, 241, 248, 255, 269, 274, 283, 289, 296, 303, 315]
def ad4 : List Addr := [327, 334, 344, 351, 358, 365, 372, 377, 384, 391, 426, 433, 441, 448, 453, 465, 476, 483, 493, 504, 514, 526, 533, 543, 549, 557, 562, 569, 576, 581, 588, 595, 609, 616, 623, 628, 635, 642, 647, 652]
def ad5 : List Addr := [657, 664, 671, 678, 685, 690, 697, 702, 707]
def adN : List Addr := ad0 ++ (ad1 ++ (ad2 ++ (ad3 ++ (ad4 ++ (ad5)))))
def ls0 : List PySem.Str := ["_wall", "__name__", "CodeError", "BadInput", "NotRight", "BadCodes", "BadLayout", "BadByte", "BadAddress", "NotWhole", "touched", "Layout", "LETTERS", "is_byte", "is_name", "Form", "check_forms", "CodeSet", "MOST_ADDRESS", "Word", "Step", "Write", "Sync", "split_units", "Sight", "_law_pen", "_law_draw", "_law_pick", "_law_forms", "_law_codes"]
def ls1 : List PySem.Str := ["_law_byte", "_law_every", "_law_held", "_law_missing", "_law_apart", "_law_grown", "_law_write_right", "_law_one_each", "_law_within", "_law_turned", "_law_deed"]
def lsN : List PySem.Str := ls0 ++ (ls1)
abbrev RR : OpenRow := OpenLaw.row PySem.Challenge.rw_codestitch_k33_whole_more_writes_show_mo
abbrev qv : Program := view RR.prog [46]
set_option maxRecDepth 100000 in
set_option maxHeartbeats 0 in
theorem runA (w : World) (os : OsState) : (HandSHeadRun.endF (HandSHeadRun.stepQ (HandSHeadRun.denQ HandSHeadRun.tabQ) RR.prog w) 20000 RR.prog w os).map (fun s => HandSHeadRun.looksF RR.prog (boot_heap w.params) s.abs) = some true := by kernel_rfl
set_option maxRecDepth 100000 in
set_option maxHeartbeats 0 in
theorem runB (w : World) (os : OsState) : (HandSHeadRun.endF (HandSHeadRun.stepQ (HandSHeadRun.denQ HandSHeadRun.tabQ) RR.prog w) 20000 RR.prog w os).map (fun s => HandSHeadRun.seenQ qv lsN (importedModules RR.prog.main.body) (fun s => xlAt qv [] s && recOk RR.toRowW.records s) s.abs) = some (openGood qv lsN) := by kernel_rfl
set_option maxRecDepth 100000 in
set_option maxHeartbeats 0 in
theorem runF (w : World) (os : OsState) : (HandSHeadRun.endF (HandSHeadRun.stepQ (HandSHeadRun.denQ HandSHeadRun.tabQ) RR.prog w) 20000 RR.prog w os).map (fun s => fnN.map (Hx.fnQ (He.frG (HandSHeadRun.getT s) adN))) = some (fnN.map Hx.Dq.val) := by kernel_rfl
def fr0 : List (PySem.W.Frag → Bool) := fa0 ++ (fa1 ++ (fa2))
set_option maxRecDepth 100000 in
set_option maxHeartbeats 0 in
theorem runC0 (w : World) (os : OsState) : (HandSHeadRun.endF (HandSHeadRun.stepQ (HandSHeadRun.denQ HandSHeadRun.tabQ) RR.prog w) 20000 RR.prog w os).map (fun s => Hx.chk fr0 (He.frG (HandSHeadRun.getT s) adN)) = some true := by kernel_rfl
def fr1 : List (PySem.W.Frag → Bool) := fa3 ++ (fa4 ++ (fa5))
set_option maxRecDepth 100000 in
set_option maxHeartbeats 0 in
theorem runC1 (w : World) (os : OsState) : (HandSHeadRun.endF (HandSHeadRun.stepQ (HandSHeadRun.denQ HandSHeadRun.tabQ) RR.prog w) 20000 RR.prog w os).map (fun s => Hx.chk fr1 (He.frG (HandSHeadRun.getT s) adN)) = some true := by kernel_rfl
def fr2 : List (PySem.W.Frag → Bool) := fa6
set_option maxRecDepth 100000 in
set_option maxHeartbeats 0 in
theorem runC2 (w : World) (os : OsState) : (HandSHeadRun.endF (HandSHeadRun.stepQ (HandSHeadRun.denQ HandSHeadRun.tabQ) RR.prog w) 20000 RR.prog w os).map (fun s => Hx.chk fr2 (He.frG (HandSHeadRun.getT s) adN)) = some true := by kernel_rfl
theorem hd_run (w : World) : HandSHeadRun.RunEq RR qv (Hx.hook adN faN fnN) (Hx.obT adN faN fnN) 20000 lsN w := fun os => Hx.join (runA w os) (runB w os) (fun s e => by
  have c := Hx.part (runC0 w os) s e
  obtain ⟨b0, c⟩ := Hx.chk_app c
  obtain ⟨b1, c⟩ := Hx.chk_app c
  have b2 : Hx.chk fa2 _ = true := c
  clear c
  have c := Hx.part (runC1 w os) s e
  obtain ⟨b3, c⟩ := Hx.chk_app c
  obtain ⟨b4, c⟩ := Hx.chk_app c
  have b5 : Hx.chk fa5 _ = true := c
  clear c
  have c := Hx.part (runC2 w os) s e
  have b6 : Hx.chk fa6 _ = true := c
  clear c
  exact (Hx.app_chk b0 (Hx.app_chk b1 (Hx.app_chk b2 (Hx.app_chk b3 (Hx.app_chk b4 (Hx.app_chk b5 b6))))))) (runF w os)
set_option maxRecDepth 100000 in
set_option maxHeartbeats 0 in
theorem top_of {sp : PySem.W.Frag → L2.Sp} (hall : ∀ {w : World} {K : PySem.W.Frag} {h : Heap} {mg : Str → Option Value} {fa : Addr}, K.In h → h.Ns mainGlobals mg → mg "law" = some (.ref fa) → Hx.chk faN K = true → fnN.map (Hx.fnQ K) = fnN.map Hx.Dq.val →
  ∃ fd : FuncData, (∀ (s : Shared) (v : Value), BindsTo s fd ⟨[v], []⟩ [("_law_script", v)]) ∧ ∀ base : Heap, K.In base → base.Ns mainGlobals mg → L2.FnOk PySem.Challenge.pw_codestitch_k33_whole_more_writes_show_mo w K mg base L2.CX0 20 fa fd ["_law_script"] (sp K))
  (hsp : ∀ (K : PySem.W.Frag) (H : L2.Hp) (a : Addr) (ns : List Int) (Q : L2.VK) (E : L2.XK), L2.SqL K H a (ns.map L2.V.int) → ns.length ≤ 63 → (∀ H', Q (.bl true) H') → sp K [.ref a] H Q E) : PySem.Challenge.rw_codestitch_k33_whole_more_writes_show_mo.Holds := by
 w_on; o_law
 refine HandSHeadRun.head_any (r := OpenLaw.row PySem.Challenge.rw_codestitch_k33_whole_more_writes_show_mo) (q := qv) (H := Hx.hook adN faN fnN) (ob := Hx.obT adN faN fnN) (M := 20000) (loose := lsN) (d := HandSHeadRun.topDef (OpenLaw.row PySem.Challenge.rw_codestitch_k33_whole_more_writes_show_mo).prog 46) (kwd := []) (Hx.obT_eq adN faN fnN)
  (by kernel_rfl) (fun s => by kernel_rfl) hd_run (by kernel_rfl) (by kernel_rfl) (by kernel_rfl) (by rfl) (by first | assumption | decide +kernel) (by decide +kernel) ⟨rfl, rfl, rfl, rfl, rfl, by decide +kernel⟩ ?hw ?hc
 case hw => w_witness2
 case hc =>
  refine L2.walk_ofE (l := PySem.Challenge.rw_codestitch_k33_whole_more_writes_show_mo) (n := 63) (k := 20) (x := "_law_script") (CX := L2.CX0) rfl (by decide) (by kernel_rfl) ⟨rfl, by decide, by decide⟩ ?F (fun _ _ _ _ z => z)
  intro w mg fa h Y G hmg0
  obtain ⟨K, KX, c, E⟩ := Y
  have hmg : mg ("law" : PySem.Str) = some (.ref fa) := by
   have e : (HandSHeadRun.topDef (OpenLaw.row PySem.Challenge.rw_codestitch_k33_whole_more_writes_show_mo).prog 46).name = ("law" : PySem.Str) := by kernel_rfl
   rw [← e]
   exact hmg0
  obtain ⟨fd, hb, hF⟩ := hall (w := w) KX G hmg c E
  exact ⟨K, fd, sp K, KX, hb, fun H a ns hl _ hS => hsp K H a ns _ _ hS hl (fun _ => rfl), hF⟩
end
end My
namespace My
open PySem PySem.Spec PyProof.Rows L2
theorem ok_BadAddressu_initu {w : World} {K : PySem.W.Frag} {mg : Str → Option Value} {base : Heap} {A : Ad} (T : Txt K mg A) : FnOk PySem.Challenge.pw_codestitch_k33_whole_more_writes_show_mo w K mg base CX0 1 A.f_BadAddressu_initu A.d_BadAddressu_initu ["self", "at"] (Vc.spErr1 A.C_BadAddress "at") := by
 refine T.F_BadAddressu_initu.ok sc_BadAddressu_initu T.ox_BadAddress rfl rfl rfl (fun vs H Q E h => ?_) (fun X => pe_str) (fun _ _ _ => rfl) (fun _ _ _ => rfl) (fun _ _ _ => rfl) (fun _ _ _ => rfl) (fun cda cc Ar outer s H vs Q E h => ?_)
 ·obtain ⟨_, _, rfl, _⟩ := h
  rfl
 ·obtain ⟨a, h1, h2, h3⟩ := Vc.err_ends1 T.ox_BadAddress T.no_BadAddress_at h
  exact ⟨a, h1, h2, _, pss_one (ps_ost (pv 0) (pv 1)), h3⟩
theorem ok_BadLayoutu_initu {w : World} {K : PySem.W.Frag} {mg : Str → Option Value} {base : Heap} {A : Ad} (T : Txt K mg A) : FnOk PySem.Challenge.pw_codestitch_k33_whole_more_writes_show_mo w K mg base CX0 1 A.f_BadLayoutu_initu A.d_BadLayoutu_initu ["self", "part"] (Vc.spErr1 A.C_BadLayout "part") := by
 refine T.F_BadLayoutu_initu.ok sc_BadLayoutu_initu T.ox_BadLayout rfl rfl rfl (fun vs H Q E h => ?_) (fun X => pe_str) (fun _ _ _ => rfl) (fun _ _ _ => rfl) (fun _ _ _ => rfl) (fun _ _ _ => rfl) (fun cda cc Ar outer s H vs Q E h => ?_)
 ·obtain ⟨_, _, rfl, _⟩ := h
  rfl
 ·obtain ⟨a, h1, h2, h3⟩ := Vc.err_ends1 T.ox_BadLayout T.no_BadLayout_part h
  exact ⟨a, h1, h2, _, pss_one (ps_ost (pv 0) (pv 1)), h3⟩
end My
namespace My
open PySem PySem.Spec PyProof.Rows L2
theorem dp_ints {K : PySem.W.Frag} {H : Hp} : ∀ (ns : List Int), DpAll K H (ns.map V.int) (ns.map PyData.int)
 | [] => .nil
 | n :: r => .cons (.int n) (dp_ints r)
section
variable {K : PySem.W.Frag} {H : Hp} {Q : VK} {p q : Addr} {ns ms : List Int}
end
def vD : V → PyData
 | .bl b => .bool b
 | .int i => .int i
 | .str z => .str z
 | _ => .none
end My
namespace My
open PySem PySem.Spec PyProof.Rows L2
def PAtom (d : PyData) : Prop := d = .none ∨ (∃ i, d = .int i) ∨ ∃ z, PyData.canLay0 (.str z) = true ∧ d = .str z
def Pl : Nat → PyData → Prop
 | 0, d => PAtom d
 | n + 1, d => PAtom d ∨ ∃ ds, (d = .list ds ∨ d = .tuple ds) ∧ ∀ x ∈ ds, Pl n x
theorem Pl.atom {n : Nat} {d : PyData} (h : PAtom d) : Pl n d := by
 cases n with
 | zero => exact h
 | succ n => exact .inl h
theorem pl_int {n : Nat} (i : Int) : Pl n (.int i) := .atom (.inr (.inl ⟨i, rfl⟩))
theorem pl_lst {n : Nat} {ds : List PyData} (h : ∀ x ∈ ds, Pl n x) : Pl (n + 1) (.list ds) := .inr ⟨ds, .inl rfl, h⟩
theorem pl_tup {n : Nat} {ds : List PyData} (h : ∀ x ∈ ds, Pl n x) : Pl (n + 1) (.tuple ds) := .inr ⟨ds, .inr rfl, h⟩
theorem pl_ints {n : Nat} (ns : List Int) : ∀ x ∈ ns.map PyData.int, Pl n x := fun x hx => by
 obtain ⟨i, _, rfl⟩ := List.mem_map.mp hx
 exact pl_int i
theorem lay_all : ∀ ds : List PyData, (∀ x ∈ ds, PyData.canLay0 x = true) → PyData.canLayAll0 ds = true
 | [], _ => rfl
 | d :: r, h => by rw [PyData.canLayAll0, h d List.mem_cons_self, lay_all r fun x hx => h x (List.mem_cons_of_mem _ hx)]; rfl
theorem dep_all {n : Nat} : ∀ ds : List PyData, (∀ x ∈ ds, PyData.depth x ≤ n) → PyData.depthAll ds ≤ n
 | [], _ => Nat.zero_le _
 | d :: r, h => by
  rw [PyData.depthAll]
  have := h d List.mem_cons_self
  have := dep_all r fun x hx => h x (List.mem_cons_of_mem _ hx)
  omega
theorem atom_lay {d : PyData} (h : PAtom d) : PyData.canLay0 d = true ∧ PyData.depth d = 0 := by
 rcases h with rfl | ⟨i, rfl⟩ | ⟨z, hz, rfl⟩
 ·exact ⟨rfl, rfl⟩
 ·exact ⟨rfl, rfl⟩
 ·exact ⟨hz, rfl⟩
theorem pl_lay : ∀ (n : Nat) (d : PyData), Pl n d → PyData.canLay0 d = true ∧ PyData.depth d ≤ n
 | 0, d, h => by
  obtain ⟨a, b⟩ := atom_lay h
  exact ⟨a, by omega⟩
 | n + 1, d, h => by
  rcases h with h | ⟨ds, h, hx⟩
  ·obtain ⟨a, b⟩ := atom_lay h
   exact ⟨a, by omega⟩
  ·have a := lay_all ds fun x hm => (pl_lay n x (hx x hm)).1
   have b := dep_all ds fun x hm => (pl_lay n x (hx x hm)).2
   rcases h with rfl | rfl
   ·refine ⟨by rw [PyData.canLay0]; exact a, ?_⟩
    rw [PyData.depth]; omega
   ·refine ⟨by rw [PyData.canLay0]; exact a, ?_⟩
    rw [PyData.depth]; omega
theorem pl_shp {n : Nat} {d : PyData} (h : Pl n d) (l : n ≤ 64) : SeqAt.shaped d = true := by
 obtain ⟨a, b⟩ := pl_lay n d h
 unfold SeqAt.shaped
 rw [a, decide_eq_true (by omega)]; rfl
theorem eqv_all : ∀ xs ys : List PyData, (∀ x ∈ xs, ∀ y ∈ ys, (PyData.eqv x y = true ↔ x = y)) → (PyData.eqvAll xs ys = true ↔ xs = ys)
 | [], [], _ => by rw [PyData.eqvAll]; simp
 | [], _ :: _, _ => by rw [PyData.eqvAll]; simp
 | _ :: _, [], _ => by rw [PyData.eqvAll]; simp
 | x :: xs, y :: ys, h => by
  rw [PyData.eqvAll, Bool.and_eq_true, h x List.mem_cons_self y List.mem_cons_self, eqv_all xs ys fun a ha b hb => h a (List.mem_cons_of_mem _ ha) b (List.mem_cons_of_mem _ hb), List.cons.injEq]
theorem atom_eqv {d e : PyData} (h : PAtom d) (k : PAtom e) : PyData.eqv d e = true ↔ d = e := by
 rcases h with rfl | ⟨i, rfl⟩ | ⟨z, _, rfl⟩ <;> rcases k with rfl | ⟨j, rfl⟩ | ⟨y, _, rfl⟩ <;> simp [PyData.eqv]
theorem pl_eqv : ∀ (n : Nat) (d e : PyData), Pl n d → Pl n e → (PyData.eqv d e = true ↔ d = e)
 | 0, d, e, h, k => atom_eqv h k
 | n + 1, d, e, h, k => by
  rcases h with h | ⟨ds, h, hx⟩
  ·rcases k with k | ⟨es, k, hy⟩
   ·exact atom_eqv h k
   ·rcases h with rfl | ⟨i, rfl⟩ | ⟨z, _, rfl⟩ <;> rcases k with rfl | rfl <;> simp [PyData.eqv]
  ·rcases k with k | ⟨es, k, hy⟩
   ·rcases k with rfl | ⟨i, rfl⟩ | ⟨z, _, rfl⟩ <;> rcases h with rfl | rfl <;> simp [PyData.eqv]
   ·have := eqv_all ds es fun x hm y hn => pl_eqv n x y (hx x hm) (hy y hn)
    rcases h with rfl | rfl <;> rcases k with rfl | rfl <;> simp [PyData.eqv, this]
theorem pl_dec {n : Nat} {d e : PyData} {p : Prop} [Decidable p] (h : Pl n d) (k : Pl n e) (i : d = e ↔ p) : PyData.eqv d e = decide p := by
 rw [Bool.eq_iff_iff, pl_eqv n d e h k, i, decide_eq_true_eq]
theorem go_nePl {K : PySem.W.Frag} {H : Hp} {Q : VK} {x y : V} {d e : PyData} {n : Nat} {p : Prop} [Decidable p] (hx : Dp K H x d) (hy : Dp K H y e) (h : Pl n d) (k : Pl n e) (l : n ≤ 64) (i : d = e ↔ p) (q : Q (.bl (!decide p)) H) : rNeD K x y H Q :=
 ⟨d, e, hx, hy, pl_shp h l, pl_shp k l, by rw [pl_dec h k i]; exact q⟩
theorem go_eqPl {K : PySem.W.Frag} {H : Hp} {Q : VK} {x y : V} {d e : PyData} {n : Nat} {p : Prop} [Decidable p] (hx : Dp K H x d) (hy : Dp K H y e) (h : Pl n d) (k : Pl n e) (l : n ≤ 64) (i : d = e ↔ p) (q : Q (.bl (decide p)) H) : rEqD K x y H Q :=
 ⟨d, e, hx, hy, pl_shp h l, pl_shp k l, by rw [pl_dec h k i]; exact q⟩
theorem ints_inj {a b : List Int} : a.map PyData.int = b.map PyData.int ↔ a = b := ⟨fun h => (List.map_inj_right fun x y z => by injection z).mp h, fun h => by rw [h]⟩
end My
namespace My
open PySem PySem.Spec PyProof.Rows L2
structure PenS (H : Hp) (b c : Addr) (ns : List Int) (a r : Int) : Prop where
 ob : H b = some (.lst [.ref c, .int a, .int r])
 cl : H c = some (.lst (ns.map V.int))
 len : ns.length ≤ 63
 a0 : 0 ≤ a
 r0 : 0 ≤ r
def Pen (H : Hp) (b c : Addr) (n : Nat) : Prop := ∃ ns a r, PenS H b c ns a r ∧ a ≤ n
theorem Pen.ed {H H' : Hp} {b c : Addr} {n : Nat} {S : List Addr} (h : Pen H b c n) (e : Vc.Ed S H H') (hb : b ∉ S) (hc : c ∉ S) : Pen H' b c n := by
 obtain ⟨ns, a, r, B, l⟩ := h
 exact ⟨ns, a, r, ⟨e.keep _ _ hb B.ob, e.keep _ _ hc B.cl, B.len, B.a0, B.r0⟩, l⟩
theorem Pen.ed0 {H H' : Hp} {b c : Addr} {n : Nat} (e : Vc.Ed [] H H') (h : Pen H b c n) : Pen H' b c n := h.ed e (fun z => nomatch z) (fun z => nomatch z)
theorem Pen.ed1 {H H' : Hp} {b c p : Addr} {n : Nat} (e : Vc.Ed [p] H H') (hb : b ≠ p) (hc : c ≠ p) (h : Pen H b c n) : Pen H' b c n :=
 h.ed e (fun z => hb (List.mem_singleton.mp z)) (fun z => hc (List.mem_singleton.mp z))
theorem Pen.up {H : Hp} {b c : Addr} {n m : Nat} (h : Pen H b c n) (l : n ≤ m) : Pen H b c m := by
 obtain ⟨ns, a, r, B, l'⟩ := h
 exact ⟨ns, a, r, B, by omega⟩
theorem Pen.fb {H : Hp} {b c p : Addr} {n : Nat} (h : Pen H b c n) (q : H p = none) : b ≠ p ∧ c ≠ p := by
 obtain ⟨ns, a, r, B, _⟩ := h
 exact ⟨ne_of_none B.ob q, ne_of_none B.cl q⟩
theorem Pen.lst {H : Hp} {b c : Addr} {n : Nat} (h : Pen H b c n) : ∃ x a r, H b = some (.lst [.ref x, .int a, .int r]) := by
 obtain ⟨ns, a, r, B, _⟩ := h
 exact ⟨_, _, _, B.ob⟩
def LIM : Nat := 1000000
def spDraw : Sp := fun vs H Q _ => ∃ (b c : Addr) (n : Nat) (m : Int), vs = [.ref b, .int m] ∧ Pen H b c n ∧ n ≤ LIM ∧ 1 ≤ m ∧ m < 2 ^ 190 ∧
 ∀ i H', 0 ≤ i → i < m → Vc.Ed [b] H H' → Pen H' b c (n + 1) → Q (.int i) H'
theorem pen_ns {ns : List Int} {a : Int} (h : ns ≠ []) (h0 : 0 ≤ a) : ∃ x, atI (ns.map V.int) (a % (ns.length : Int)) = some (.int x) := by
 have l : 0 < ns.length := List.length_pos_iff.mpr h
 have e0 := Int.emod_nonneg a (show (ns.length : Int) ≠ 0 by omega)
 have e1 := Int.emod_lt_of_pos a (show (0 : Int) < ns.length by omega)
 refine ⟨ns[(a % (ns.length : Int)).toNat]'(by omega), at_of (j := (a % (ns.length : Int)).toNat) (by omega) ?_⟩
 rw [List.getElem?_map, List.getElem?_eq_getElem (by omega)]; rfl
theorem sq_lt {y : Int} (h : y.natAbs < 2 ^ 64) : (y ^ (2 : Int).toNat).natAbs < 2 ^ 200 := by
 rw [Int.natAbs_pow]
 exact Nat.lt_of_lt_of_le (Nat.pow_lt_pow_left h (by decide)) (by decide)
section
variable {P : Program} {w : World} {K : PySem.W.Frag} {mg : Str → Option Value} {base : Heap} {A : Ad}
theorem ok__law_draw (T : Txt K mg A) : FnOk P w K mg base CX0 1 A.f__law_draw A.d__law_draw ["_law_pen_here", "_law_many"] spDraw := by
 refine T.F__law_draw.ok sc__law_draw (fun vs H Q E h => ?_) (fun cdv Ar outer s H vs Q E hr h => ?_)
 ·obtain ⟨b, c, n, m, rfl, _⟩ := h
  rfl
 ·obtain ⟨b, c, n, m, rfl, hB, nl, m1, m2, k⟩ := h
  have nl : n ≤ 1000000 := nl
  refine ⟨_, (pss_cons (ps_if (pt_cmpR op_gt (pe_ix ix_list (pv 0) pe_int (fun _ _ => rfl)) pe_int (nomark _)) (pss_cons (ps_set (i := 2) sc__law_draw.nd rfl (Or.inl rfl) (pe_op op_mod (pe_callTy call_int1 (by rfl) T.n_int (by decide +kernel) (pa_cons (pe_ix ix_list (pv 0) pe_int (fun _ _ => rfl)) pa_nil)) (pv 1))) (pss_cons (ps_asg (pe_op op_fdivW (pe_ix ix_list (pv 0) pe_int (fun _ _ => rfl)) (pv 1)) (pg_sub (pv 0) pe_int set_list)) (pss_one (ps_ret (pv 2))))) pss_nil) (pss_cons (ps_set (i := 3) sc__law_draw.nd rfl (Or.inl rfl) (pe_ix ix_list (pv 0) pe_int (fun _ _ => rfl))) (pss_cons (ps_asg (pe_op op_add (pv 3) pe_int) (pg_sub (pv 0) pe_int set_list)) (pss_cons (ps_set (i := 4) sc__law_draw.nd rfl (Or.inl rfl) (pe_op op_add (pe_op op_mulW pe_int (pv 3)) pe_int)) (Evl.pss_cut (ps_if (pt_cmpR op_gt (pe_callB call_len_seq (by rfl) T.n_len (by decide +kernel) (pa_cons (pe_ix ix_list (pv 0) pe_int (fun _ _ => rfl)) pa_nil)) pe_int (nomark _)) (pss_one (ps_set (i := 4) sc__law_draw.nd rfl (Or.inl rfl) (pe_ix ix_list (pe_ix ix_list (pv 0) pe_int (fun _ _ => rfl)) (pe_op op_mod (pe_callTy call_int1 (by rfl) T.n_int (by decide +kernel) (pa_cons (pv 3) pa_nil)) (pe_callB call_len_seq (by rfl) T.n_len (by decide +kernel) (pa_cons (pe_ix ix_list (pv 0) pe_int (fun _ _ => rfl)) pa_nil))) (fun _ _ => rfl)))) pss_nil) (Evl.pss_cut (ps_if (PW.pt (pw_and (pt_cmpR op_lt (pv 3) (pe_callB call_len_seq (by rfl) T.n_len (by decide +kernel) (pa_cons (pe_ix ix_list (pv 0) pe_int (fun _ _ => rfl)) pa_nil)) (nomark _)) (pw_and1 (pt_cmpR op_ge (pe_callB call_abs (by rfl) T.n_abs (by decide +kernel) (pa_cons (pv 4) pa_nil)) (pe_op op_pow pe_int pe_int) (nomark _))))) (pss_cons (ps_asg (pe_op op_fdivW (pe_callB call_abs (by rfl) T.n_abs (by decide +kernel) (pa_cons (pv 4) pa_nil)) (pv 1)) (pg_sub (pv 0) pe_int set_list)) (pss_one (ps_ret (pe_op op_mod (pe_callB call_abs (by rfl) T.n_abs (by decide +kernel) (pa_cons (pv 4) pa_nil)) (pv 1))))) pss_nil) (Evl.pss_cut (ps_set (i := 5) sc__law_draw.nd rfl (Or.inl rfl) (pe_op op_mod (pe_op op_pow (pe_op op_add (pe_op op_add (pe_op op_add (pe_op op_mod (pe_callTy call_int1 (by rfl) T.n_int (by decide +kernel) (pa_cons (pv 4) pa_nil)) pe_int) (pe_op op_mulW (pe_op op_mulW pe_int (pv 3)) (pv 3))) (pe_op op_mulW pe_int (pv 3))) pe_int) pe_int) pe_int)) (Evl.pss_cut (ps_set (i := 5) sc__law_draw.nd rfl (Or.inl rfl) (pe_op op_mod (pe_callTy call_int1 (by rfl) T.n_int (by decide +kernel) (pa_cons (pe_op op_mulW (pe_op op_pow (pe_op op_add (pe_op op_add (pv 5) (pe_op op_mulW pe_int (pv 3))) pe_int) pe_int) (pe_op op_add (pe_op op_mod (pe_callTy call_int1 (by rfl) T.n_int (by decide +kernel) (pa_cons (pv 5) pa_nil)) pe_int) pe_int)) pa_nil)) pe_int)) (pss_one (ps_ret (pe_op op_mod (pe_op op_fdivW (pv 5) pe_int) (pv 1)))))))))))), ?_⟩
  obtain ⟨ns, a, r, B, al⟩ := hB
  obtain ⟨hb, hc, hl, ha, hr0⟩ := id B
  have nbc : b ≠ c := fun z => by rw [z, hc] at hb; cases ns with
   | nil => cases hb
   | cons x l => cases hb
  have i0 : atI [V.ref c, .int a, .int r] 0 = some (.ref c) := rfl
  have i1 : atI [V.ref c, .int a, .int r] 1 = some (.int a) := rfl
  have i2 : atI [V.ref c, .int a, .int r] 2 = some (.int r) := rfl
  walk_at "go"
  refine Vc.go_ite (fun h1 => ?_) (fun h1 => ?_)
  ·walk_at "go"
   refine Vc.go_setL hb rfl ?_
   generalize hu : upd _ b _ = H1
   obtain ⟨e1, hb1⟩ := Vc.chg hu hb
   walk_at "go"
   exact k _ _ (Int.emod_nonneg _ (by omega)) (Int.emod_lt_of_pos _ (by omega)) e1 ⟨ns, a, _, ⟨hb1, e1.at1 nbc.symm hc, hl, ha, Int.ediv_nonneg hr0 (by omega)⟩, by omega⟩
  walk_at "go"
  refine Vc.go_setL hb rfl ?_
  generalize hu : upd _ b _ = H1
  obtain ⟨e1, hb1⟩ := Vc.chg hu hb
  have hb1 : H1 b = some (.lst [.ref c, .int (a + 1), .int r]) := hb1
  have hc1 := e1.at1 nbc.symm hc
  have j0 : atI [V.ref c, .int (a + 1), .int r] 0 = some (.ref c) := rfl
  have j1 : atI [V.ref c, .int (a + 1), .int r] 1 = some (.int (a + 1)) := rfl
  have fin : ∀ (i : Int) H', 0 ≤ i → i < m → Vc.Ed [] H1 H' → Q (.int i) H' := fun i H' i0 i1 e => k i H' i0 i1 (e1.ex e) ⟨ns, a + 1, r, ⟨e.at0 hb1, e.at0 hc1, hl, by omega, hr0⟩, by omega⟩
  walk_at "go"
  refine Evl.q_cut (M := fun σ H' => ∃ cell : Int, σ = [some (.ref b), some (.int m), none, some (.int a), some (.int cell), none] ∧ H' = H1) ?_ ?_
  ·walk_at "go"
   rw [List.length_map]
   refine Vc.go_ite (fun h2 => ?_) (fun h2 => ?_)
   ·obtain ⟨x, hx⟩ := pen_ns (ns := ns) (a := a) (fun z => by rw [z] at h2; exact absurd h2 (by decide)) ha
    walk_at "go"
    rw [List.length_map]
    walk_at "go"
    exact ⟨_, rfl, rfl⟩
   ·walk_at "go"
    exact ⟨_, rfl, rfl⟩
  ·rintro σ H2 ⟨cell, rfl, rfl⟩
   walk_at "go"
   refine Evl.q_cut (M := fun σ H' => σ = [some (.ref b), some (.int m), none, some (.int a), some (.int cell), none] ∧ H' = H2) ?_ ?_
   ·walk_at "go"
    rw [List.length_map]
    refine Vc.go_ite (fun h3 => ?_) (fun h3 => ?_)
    ·walk_at "go"
     refine Vc.go_ite (fun h4 => ?_) (fun h4 => ?_)
     ·walk_at "go"
      generalize hce : (if cell < 0 then -cell else cell) = cl
      have hc0 : 0 ≤ cl := by rw [← hce]; split <;> omega
      walk_at "go"
      refine Vc.go_setL hb1 rfl ?_
      generalize hu3 : upd _ b _ = H3
      obtain ⟨e3, hb3⟩ := Vc.chg hu3 hb1
      have hb3 : H3 b = some (.lst [.ref c, .int (a + 1), .int (cl / m)]) := hb3
      walk_at "go"
      rw [hce]
      exact k _ _ (Int.emod_nonneg _ (by omega)) (Int.emod_lt_of_pos _ (by omega)) (e1.one e3 (.inl (by simp))) ⟨ns, a + 1, _, ⟨hb3, e3.at1 nbc.symm hc1, hl, by omega, Int.ediv_nonneg (by omega) (by omega)⟩, by omega⟩
     ·walk_at "go"
      exact ⟨rfl, rfl⟩
    ·walk_at "go"
     exact ⟨rfl, rfl⟩
   ·rintro σ H3 ⟨rfl, rfl⟩
    have sq0 : 0 ≤ 40075 * a * a := Int.mul_nonneg (Int.mul_nonneg (by decide) ha) ha
    have sq1 : 40075 * a * a ≤ 40075 * 1000000 * 1000000 := Int.mul_le_mul (by omega) (by omega) ha (by omega)
    walk_at "go"
    refine Evl.q_cut (M := fun σ H' => ∃ x : Int, σ = [some (.ref b), some (.int m), none, some (.int a), some (.int cell), some (.int x)] ∧ 0 ≤ x ∧ x < 2147483648 ∧ H' = H3) ?_ ?_
    ·walk_at "go"
     exact ⟨_, rfl, Int.emod_nonneg _ (by decide), Int.lt_of_lt_of_le (Int.emod_lt_of_pos _ (by decide)) (by decide), rfl⟩
    ·rintro σ H4 ⟨x, rfl, x0, x1, rfl⟩
     walk_at "go"
     refine Evl.q_cut (M := fun σ H' => ∃ x : Int, σ = [some (.ref b), some (.int m), none, some (.int a), some (.int cell), some (.int x)] ∧ 0 ≤ x ∧ x < 2147483648 ∧ H' = H4) ?_ ?_
     ·walk_at "go"
      refine Vc.go_I (Vc.mulw (sq_lt (by omega)) (by omega)) ?_
      walk_at "go"
      exact ⟨_, rfl, Int.emod_nonneg _ (by decide), Int.lt_of_lt_of_le (Int.emod_lt_of_pos _ (by decide)) (by decide), rfl⟩
     ·rintro σ H5 ⟨y, rfl, y0, y1, rfl⟩
      walk_at "go"
      exact fin _ _ (Int.emod_nonneg _ (by omega)) (Int.emod_lt_of_pos _ (by omega)) .refl
end
section
variable {P : Program} {w : World} {K : PySem.W.Frag} {mg : Str → Option Value} {base : Heap} {A : Ad}
def spPen (K : PySem.W.Frag) : Sp := fun vs H Q _ => ∃ (p : Addr) (ns : List Int), vs = [.ref p] ∧ SqL K H p (ns.map V.int) ∧ ns.length ≤ 63 ∧
 ∀ b c H', Vc.Ed [] H H' → Pen H' b c 0 → H b = none → H c = none → Q (.ref b) H'
theorem cut_ns {ns : List Int} (h : ns.length ≤ 63) : cutV (ns.map V.int) none (some 63) = ns.map V.int := by
 have e := Vc.cut_take (ns.map V.int) 63
 rw [List.take_of_length_le (by rw [List.length_map]; exact h)] at e
 exact e
theorem ok__law_pen (T : Txt K mg A) : FnOk P w K mg base CX0 1 A.f__law_pen A.d__law_pen ["_law_script"] (spPen K) := by
 refine T.F__law_pen.ok sc__law_pen (fun vs H Q E h => ?_) (fun cdv Ar outer s H vs Q E hr h => ?_)
 ·obtain ⟨p, ns, rfl, _⟩ := h
  rfl
 ·obtain ⟨p, ns, rfl, hS, hl, k⟩ := h
  refine ⟨_, (pss_one (ps_ret (pe_lst (pa_cons (pe_callTy Vc.call_lstD (by rfl) T.n_list (by decide +kernel) (pa_cons (pe_slice sl_list (pv 0) po_none (po_some pe_int)) pa_nil)) (pa_cons pe_int (pa_cons pe_int pa_nil)))))), ?_⟩
  walk_at "go"
  intro q nq
  generalize hu1 : upd _ q _ = H1
  obtain ⟨e1, hq⟩ := Vc.alloc hu1 nq
  walk_at "go"
  intro c nc
  generalize hu2 : upd _ c _ = H2
  obtain ⟨e2, hc⟩ := Vc.alloc hu2 nc
  rw [cut_ns hl] at hc
  walk_at "go"
  intro b nb
  generalize hu3 : upd _ b _ = H3
  obtain ⟨e3, hb⟩ := Vc.alloc hu3 nb
  exact k b c H3 (by walk_at "ed") ⟨ns, 0, 0, ⟨hb, e3.at0 hc, hl, by omega, by omega⟩, by omega⟩ (by walk_at "free") (by walk_at "free")
end
end My
namespace My
open PySem PySem.Spec PyProof.Rows L2
def spPickL : Sp := fun vs H Q _ => ∃ (b c a : Addr) (n : Nat) (xs : List V), vs = [.ref b, .ref a] ∧ Pen H b c n ∧ n ≤ LIM ∧ H a = some (.lst xs) ∧ a ≠ b ∧ 1 ≤ xs.length ∧ xs.length ≤ 1000 ∧
 ∀ (i : Nat) (v : V) H', xs[i]? = some v → Vc.Ed [b] H H' → Pen H' b c (n + 1) → Q v H'
def spPickS : Sp := fun vs H Q _ => ∃ (b c : Addr) (n : Nat) (z : Str), vs = [.ref b, .str z] ∧ Pen H b c n ∧ n ≤ LIM ∧ 1 ≤ z.length ∧ z.length ≤ 1000 ∧
 ∀ (i c' : Nat) H', z.cps.toList[i]? = some c' → Vc.Ed [b] H H' → Pen H' b c (n + 1) → Q (.str ⟨#[c']⟩) H'
def spPick : Sp := fun vs H Q E => spPickL vs H Q E ∨ spPickS vs H Q E
section
variable {P : Program} {w : World} {K : PySem.W.Frag} {mg : Str → Option Value} {base : Heap} {A : Ad}
theorem ok__law_pick (T : Txt K mg A) : FnOk P w K mg base CX0 2 A.f__law_pick A.d__law_pick ["_law_pen_here", "_law_some"] spPick := by
 have G__law_draw := ok__law_draw (P := P) (w := w) (base := base) T
 refine T.F__law_pick.ok sc__law_pick (fun vs H Q E h => ?_) (fun cdv Ar outer s H vs Q E hr h => ?_)
 ·rcases h with ⟨b, c, a, n, xs, rfl, _⟩ | ⟨b, c, n, z, rfl, _⟩ <;> rfl
 ·rcases h with ⟨b, c, a, n, xs, rfl, hB, nl, ha, nab, l1, l2, k⟩ | ⟨b, c, n, z, rfl, hB, nl, l1, l2, k⟩
  ·refine ⟨_, (pss_one (ps_ret (Vc.pe_orR (pe_ix ix_list (pv 1) (pe_call G__law_draw (by exact hr.mono (by decide)) (by rfl) T.g__law_draw T.F__law_draw.kp T.b__law_draw .nil pass0 (pa_cons (pv 0) (pa_cons (pe_callB call_len_seq (by rfl) T.n_len (by decide +kernel) (pa_cons (pv 1) pa_nil)) pa_nil))) (fun _ _ => rfl)) (pe_ix ix_str (pv 1) (pe_call G__law_draw (by exact hr.mono (by decide)) (by rfl) T.g__law_draw T.F__law_draw.kp T.b__law_draw .nil pass0 (pa_cons (pv 0) (pa_cons (pe_callB call_len_str (by rfl) T.n_len (by decide +kernel) (pa_cons (pv 1) pa_nil)) pa_nil))) (fun _ _ => rfl))))), ?_⟩
   walk_at "go"
   refine Vc.go_orL ?_
   walk_at "go"
   refine ⟨b, c, n, _, rfl, hB, nl, by omega, Int.lt_of_le_of_lt (show (xs.length : Int) ≤ 1000 by omega) (by decide), fun i H1 i0 i1 e1 hB1 => ?_⟩
   have ha1 := e1.at1 nab ha
   have hx : xs[i.toNat]? = some (xs[i.toNat]'(by omega)) := List.getElem?_eq_getElem (by omega)
   have hi : atI xs i = some (xs[i.toNat]'(by omega)) := at_of (z := i) (j := i.toNat) (by omega) hx
   walk_at "go"
   exact k i.toNat _ H1 hx e1 hB1
  ·refine ⟨_, (pss_one (ps_ret (Vc.pe_orR (pe_ix ix_list (pv 1) (pe_call G__law_draw (by exact hr.mono (by decide)) (by rfl) T.g__law_draw T.F__law_draw.kp T.b__law_draw .nil pass0 (pa_cons (pv 0) (pa_cons (pe_callB call_len_seq (by rfl) T.n_len (by decide +kernel) (pa_cons (pv 1) pa_nil)) pa_nil))) (fun _ _ => rfl)) (pe_ix ix_str (pv 1) (pe_call G__law_draw (by exact hr.mono (by decide)) (by rfl) T.g__law_draw T.F__law_draw.kp T.b__law_draw .nil pass0 (pa_cons (pv 0) (pa_cons (pe_callB call_len_str (by rfl) T.n_len (by decide +kernel) (pa_cons (pv 1) pa_nil)) pa_nil))) (fun _ _ => rfl))))), ?_⟩
   walk_at "go"
   refine Vc.go_orG ?_
   walk_at "go"
   refine ⟨b, c, n, _, rfl, hB, nl, by omega, Int.lt_of_le_of_lt (show (z.length : Int) ≤ 1000 by omega) (by decide), fun i H1 i0 i1 e1 hB1 => ?_⟩
   have lz : z.cps.toList.length = z.length := Array.length_toList
   have hx : z.cps.toList[i.toNat]? = some (z.cps.toList[i.toNat]'(by omega)) := List.getElem?_eq_getElem (by omega)
   have hi : atI z.cps.toList i = some (z.cps.toList[i.toNat]'(by omega)) := by
    unfold atI ixN
    rw [if_pos (by omega), if_pos (by omega)]
    exact hx
   refine Vc.go_ixS l2 hi ?_
   exact k i.toNat _ H1 hx e1 hB1
end
end My
namespace My
open PySem PySem.Spec PyProof.Rows L2
def LET : List Nat := [97, 98, 99, 100, 101, 102, 103, 104, 105, 106, 107, 108, 109, 110, 111, 112, 113, 114, 115, 116, 117, 118, 119, 120, 121, 122]
theorem letters_eq : ("abcdefghijklmnopqrstuvwxyz" : Str).cps.toList = LET := by decide +kernel
def spIsByte : Sp := fun vs H Q _ => ∃ n : Int, vs = [.int n] ∧ ∀ H', Vc.Ed [] H H' → Q (.bl (decide (0 ≤ n ∧ n ≤ 255))) H'
def spIsName : Sp := fun vs H Q _ => ∃ z : Str, vs = [.str z] ∧ 1 ≤ z.length ∧ z.length ≤ 8 ∧ (∀ c ∈ z.cps.toList, c ∈ LET) ∧ ∀ H', Vc.Ed [] H H' → Q (.bl true) H'
section
variable {P : Program} {w : World} {K : PySem.W.Frag} {mg : Str → Option Value} {base : Heap} {A : Ad}
theorem ok_is_byte (T : Txt K mg A) : FnOk P w K mg base CX0 1 A.f_is_byte A.d_is_byte ["value"] spIsByte := by
 refine T.F_is_byte.ok sc_is_byte (fun vs H Q E h => ?_) (fun cdv Ar outer s H vs Q E hr h => ?_)
 ·obtain ⟨n, rfl, _⟩ := h
  rfl
 ·obtain ⟨n, rfl, k⟩ := h
  refine ⟨_, (pss_one (ps_ret (pe_and (pe_callB call_isi (by rfl) T.n_isinstance (by decide +kernel) (pa_cons (pv 0) (pa_cons (pe_bltn (v := .ty "int") (by rfl) T.n_int (by decide +kernel) rfl) pa_nil))) (pe_and (pe_not (pe_callB call_isi (by rfl) T.n_isinstance (by decide +kernel) (pa_cons (pv 0) (pa_cons (pe_bltn (v := .ty "bool") (by rfl) T.n_bool (by decide +kernel) rfl) pa_nil)))) (pe_one (pe_chain op_le op_le pe_int (pv 0) pe_int)))))), ?_⟩
  walk_at "go"
  refine Vc.go_ite (fun h1 => ?_) (fun h1 => ?_)
  ·walk_at "go"
   have e : decide (0 ≤ n ∧ n ≤ 255) = decide (n ≤ 255) := by rw [Bool.eq_iff_iff]; simp [h1]
   have := k H Vc.Ed.refl
   rw [e] at this
   exact this
  ·have e : decide (0 ≤ n ∧ n ≤ 255) = false := decide_eq_false (by omega)
   have := k H Vc.Ed.refl
   rw [e] at this
   exact this
theorem ok_is_name (T : Txt K mg A) : FnOk P w K mg base CX0 1 A.f_is_name A.d_is_name ["value"] spIsName := by
 refine T.F_is_name.ok sc_is_name (fun vs H Q E h => ?_) (fun cdv Ar outer s H vs Q E hr h => ?_)
 ·obtain ⟨n, rfl, _⟩ := h
  rfl
 ·obtain ⟨z, rfl, z1, z2, zl, k⟩ := h
  obtain ⟨_, gc_LETTERS⟩ := T.g_LETTERS
  have lz : z.length ≤ 1000 := by omega
  refine ⟨_, (pss_one (ps_ret (pe_and (pe_callB call_isi (by rfl) T.n_isinstance (by decide +kernel) (pa_cons (pv 0) (pa_cons (pe_bltn (v := .ty "str") (by rfl) T.n_str (by decide +kernel) rfl) pa_nil))) (pe_and (pe_chain op_le op_le pe_int (pe_callB call_len_str (by rfl) T.n_len (by decide +kernel) (pa_cons (pv 0) pa_nil)) pe_int) (pe_one (pe_callB (cr_all rfl) (by rfl) T.n_all (by decide +kernel) (pa_cons (pe_lc (own := [("sign", 1)]) (g := gName 1) rfl sc_is_name.nd (pi_str (pv 0)) (blkOk_by (own := [("sign", 1)]) (N := ["value", "sign"]) (sc := defScope s_is_name) (by decide +kernel)) (fun _ _ _ _ _ => by exact (pg_name (i := 1) sc_is_name.nd rfl (Or.inl rfl))) (fun _ _ _ _ _ => by exact pts_nil) (fun _ _ _ _ _ => by (refine' Vc.blkE ?h ?q; (case h => exact (pe_cmpR op_in_sign (pv 1) (pe_glob (v := .str "abcdefghijklmnopqrstuvwxyz") (by rfl) gc_LETTERS ⟨_, rfl⟩) rfl)); (case q => first | exact rfl | (dsimp only; done) | (dsimp only; exact rfl))))) pa_nil))))))), ?_⟩
  walk_at "goo"
  refine Vc.lc_by walk_str (fun L i H' => Vc.Ed [] H H' ∧ H' L = some (.lst (List.replicate i (.bl true)))) (fun L H2 nL e hL => ⟨e, hL⟩) (fun _ _ _ _ _ _ => trivial) ?_ ?_
  ·rintro L i x H1 H' nL hi ⟨e1, hL⟩ ⟨rfl, c, hc, rfl⟩
   have hcl : c ∈ z.cps.toList := by
    rw [Array.mem_toList_iff]
    exact Array.mem_of_getElem? hc
   walk_at "go"
   refine ⟨rfl, ?_⟩
   walk_at "go"
   refine ⟨_, hL, by rw [List.length_replicate]; exact small1000 (by have : z.cps.size = z.length := rfl; omega), ?_⟩
   rw [letters_eq, decide_eq_true (zl c hcl)]
   generalize hu : upd _ L _ = H2
   obtain ⟨e2, hL2⟩ := Vc.chg hu hL
   refine ⟨by walk_at "ed", ?_⟩
   rw [hL2, List.replicate_succ']
  ·rintro L H' nL ⟨e1, hL⟩
   walk_at "go"
   refine ⟨L, List.replicate z.cps.size true, rfl, ?_, ?_⟩
   ·rw [List.map_replicate]
    exact SqL.of hL
   ·have : (List.replicate z.cps.size true).all id = true := by simp
    rw [this]
    exact k _ e1
end
theorem nodup_inl {l : List Int} (h : l.Nodup) : (l.map (fun b => (Sum.inl b : Key))).Nodup := by
 induction l with
 | nil => exact List.nodup_nil
 | cons a r ih =>
  rw [List.nodup_cons] at h
  rw [List.map_cons, List.nodup_cons]
  refine ⟨fun z => ?_, ih h.2⟩
  obtain ⟨b, hb, e⟩ := List.mem_map.mp z
  cases e
  exact h.1 hb
structure FD where
 byte : Int
 name : Str
 len : Int
 flow : Str
def Flow (x : Str) : Prop := x = "next" ∨ x = "jump" ∨ x = "test" ∨ x = "end"
structure FD.Ok (f : FD) : Prop where
 n1 : 1 ≤ f.name.length
 n8 : f.name.length ≤ 8
 nl : ∀ c ∈ f.name.cps.toList, c ∈ LET
 l1 : 1 ≤ f.len
 l4 : f.len ≤ 4
 fl : Flow f.flow
 two : f.flow = "jump" ∨ f.flow = "test" → 2 ≤ f.len
def formF (n : Str) (l : Int) (f : Str) : List (Str × V) := [("name", .str n), ("length", .int l), ("flow", .str f)]
def FormAt (A : Ad) (H : Hp) (p : Addr) (f : FD) : Prop := ∃ dx, H p = some (.ins A.C_Form dx (formF f.name f.len f.flow))
theorem form_length {n l f} : (formF n l f).lookup ("length" : Str) = some (.int l) := rfl
theorem form_put {n l f} : putF "flow" (.str f) (putF "length" (.int l) (putF "name" (.str n) [])) = formF n l f := rfl
theorem inV2 (x a b : Str) : inV (.str x) [.str a, .str b] = decide (x = a ∨ x = b) := by
 rw [Bool.eq_iff_iff, decide_eq_true_eq]
 show (List.any [V.str a, V.str b] fun y => eqV y (V.str x)) = true ↔ _
 simp only [List.any_cons, List.any_nil, Bool.or_false, Bool.or_eq_true, eqV, beq_iff_eq]
 constructor
 ·rintro (e | e)
  ·exact .inl e.symm
  ·exact .inr e.symm
 ·rintro (e | e)
  ·exact .inl e.symm
  ·exact .inr e.symm
def spForm (A : Ad) : Sp := fun vs H Q _ => ∃ (p dx : Addr) (f : FD), vs = [.ref p, .str f.name, .int f.len, .str f.flow] ∧ f.Ok ∧ H p = some (.ins A.C_Form dx []) ∧
 ∀ H', Vc.Ed [p] H H' → FormAt A H' p f → Q .non H'
section
variable {P : Program} {w : World} {K : PySem.W.Frag} {mg : Str → Option Value} {base : Heap} {A : Ad}
theorem ok_Formu_initu (T : Txt K mg A) : FnOk P w K mg base CX0 2 A.f_Formu_initu A.d_Formu_initu ["self", "name", "length", "flow"] (spForm A) := by
 have G_is_name := ok_is_name (P := P) (w := w) (base := base) T
 refine T.F_Formu_initu.ok sc_Formu_initu (fun vs H Q E h => ?_) (fun cdv Ar outer s H vs Q E hr h => ?_)
 ·obtain ⟨p, dx, f, rfl, _⟩ := h
  rfl
 ·obtain ⟨p, dx, f, rfl, ok, hp, k⟩ := h
  have cr := T.cr_Form
  have cv := T.cv_FLOWS
  have cl := T.cl_Form
  have no1 := T.no_Form_name
  have no2 := T.no_Form_length
  have no3 := T.no_Form_flow
  refine ⟨_, (pss_cons (ps_if (pt_not (pt_val (pe_call G_is_name (by exact hr.mono (by decide)) (by rfl) T.g_is_name T.F_is_name.kp T.b_is_name .nil pass0 (pa_cons (pv 1) pa_nil)))) (pss_one ps_never) pss_nil) (pss_cons (ps_set (i := 4) sc_Formu_initu.nd rfl (Or.inl rfl) (pe_op op_add pe_int (pe_callTy call_int1 (by rfl) T.n_int (by decide +kernel) (pa_cons (pe_cmpR op_in_seq (pv 3) (pe_tup (pa_cons pe_str (pa_cons pe_str pa_nil))) (by rfl)) pa_nil)))) (pss_cons (ps_if (PW.pt (pw_or (pt_not (pt_val (pe_callB call_isi (by rfl) T.n_isinstance (by decide +kernel) (pa_cons (pv 2) (pa_cons (pe_bltn (v := .ty "int") (by rfl) T.n_int (by decide +kernel) rfl) pa_nil))))) (pw_or (pt_val (pe_callB call_isi (by rfl) T.n_isinstance (by decide +kernel) (pa_cons (pv 2) (pa_cons (pe_bltn (v := .ty "bool") (by rfl) T.n_bool (by decide +kernel) rfl) pa_nil)))) (pw_or (pt_cmpR op_lt (pv 2) (pv 4) (nomark _)) (pw_or1 (pt_cmpR op_gt (pv 2) pe_int (nomark _))))))) (pss_one ps_never) pss_nil) (pss_cons (ps_if (pt_cmpR op_notIn_seq (pv 3) (ClX.pe_cval (pe_glob (v := .ref A.C_Form) (by rfl) T.g_Form rfl)) (by rfl)) (pss_one ps_never) pss_nil) (pss_cons (ps_fld (pv 0) (pv 1) rfl) (pss_cons (ps_fld (pv 0) (pv 2) rfl) (pss_one (ps_fld (pv 0) (pv 3) rfl)))))))), ?_⟩
  have qF := T.q_FLOWS
  walk_at "go"
  refine ⟨f.name, rfl, ok.n1, ok.n8, ok.nl, fun H1 e1 => ?_⟩
  walk_at "go"
  intro t nt
  generalize hu : upd _ t _ = H2
  obtain ⟨e2, ht⟩ := Vc.alloc hu nt
  walk_at "go"
  have hb : inV (.str f.flow) [.str "jump", .str "test"] = decide (f.flow = "jump" ∨ f.flow = "test") := inV2 _ _ _
  rw [hb]
  have lb : 1 + (if decide (f.flow = "jump" ∨ f.flow = "test") = true then (1 : Int) else 0) ≤ f.len := by
   split
   ·next h => have := ok.two (of_decide_eq_true h); omega
   ·have := ok.l1; omega
  generalize 1 + (if decide (f.flow = "jump" ∨ f.flow = "test") = true then (1 : Int) else 0) = m at lb
  have l4 := ok.l4
  walk_at "goo"
  have hf : inV (.str f.flow) [.str "next", .str "jump", .str "test", .str "end"] = true := by
   rcases ok.fl with e | e | e | e <;> rw [e] <;> decide
  rw [hf]
  walk_at "go"
  generalize hu3 : upd _ p _ = H3
  obtain ⟨e3, h3⟩ := Vc.chg hu3 (show H2 p = some (.ins A.C_Form dx []) by walk_at "hs")
  walk_at "go"
  generalize hu4 : upd _ p _ = H4
  obtain ⟨e4, h4⟩ := Vc.chg hu4 h3
  walk_at "go"
  generalize hu5 : upd _ p _ = H5
  obtain ⟨e5, h5⟩ := Vc.chg hu5 h4
  rw [form_put] at h5
  exact k H5 (by walk_at "ed") ⟨dx, h5⟩
end
structure Valid (stop : Int) (fs : List FD) : Prop where
 n1 : 1 ≤ fs.length
 n16 : fs.length ≤ 16
 ok : ∀ f ∈ fs, f.Ok
 byt : ∀ f ∈ fs, 0 ≤ f.byte ∧ f.byte ≤ 255 ∧ f.byte ≠ stop
 ndb : (fs.map (·.byte)).Nodup
 ndn : (fs.map (·.name)).Nodup
 s0 : 0 ≤ stop
 s1 : stop ≤ 255
def kvsOf (items : List (FD × Addr)) : List (Key × V) := items.map fun p => (.inl p.1.byte, .ref p.2)
theorem kvsOf_len (items : List (FD × Addr)) : (kvsOf items).length = items.length := List.length_map _
theorem kvsOf_get {items : List (FD × Addr)} {i : Nat} {k : Key} {v : V} (h : (kvsOf items)[i]? = some (k, v)) : ∃ p, items[i]? = some p ∧ k = .inl p.1.byte ∧ v = .ref p.2 := by
 unfold kvsOf at h
 rw [List.getElem?_map] at h
 cases e : items[i]? with
 | none => rw [e] at h; cases h
 | some p => rw [e] at h; cases h; exact ⟨p, rfl, rfl, rfl⟩
theorem valV_mem {κ : Type} [DecidableEq κ] : ∀ {kvs : List (κ × V)} {k : κ} {v : V}, (kvs.map (·.1)).Nodup → (k, v) ∈ kvs → valV kvs k = some v
 | [], _, _, _, h => by cases h
 | (k', v') :: r, k, v, nd, h => by
  rw [List.map_cons, List.nodup_cons] at nd
  unfold valV
  rw [List.find?_cons]
  rcases List.mem_cons.mp h with e | h
  ·cases e
   simp
  ·have ne : k' ≠ k := fun e => nd.1 (by rw [e]; exact List.mem_map.mpr ⟨(k, v), h, rfl⟩)
   rw [decide_eq_false ne]
   exact valV_mem nd.2 h
theorem kvsOf_nd {items : List (FD × Addr)} (h : ((items.map (·.1)).map (·.byte)).Nodup) : ((kvsOf items).map (·.1)).Nodup := by
 have e : (kvsOf items).map (·.1) = ((items.map (·.1)).map (·.byte)).map (fun b => (Sum.inl b : Key)) := by
  unfold kvsOf
  simp [List.map_map, Function.comp_def]
 rw [e]
 exact nodup_inl h
theorem kvsOf_val {items : List (FD × Addr)} {p : FD × Addr} (h : ((items.map (·.1)).map (·.byte)).Nodup) (hp : p ∈ items) : valV (kvsOf items) (.inl p.1.byte) = some (.ref p.2) :=
 valV_mem (kvsOf_nd h) (List.mem_map.mpr ⟨p, hp, rfl⟩)
structure MadeAt (A : Ad) (H : Hp) (d : Addr) (items : List (FD × Addr)) : Prop where
 ob : H d = some (.dK (kvsOf items))
 fm : ∀ p ∈ items, FormAt A H p.2 p.1
theorem FormAt.ed {A : Ad} {H H' : Hp} {p : Addr} {f : FD} {S : List Addr} (h : FormAt A H p f) (e : Vc.Ed S H H') (n : p ∉ S) : FormAt A H' p f := by
 obtain ⟨dx, h⟩ := h
 exact ⟨dx, e.keep _ _ n h⟩
theorem FormAt.ed1 {A : Ad} {H H' : Hp} {p q : Addr} {f : FD} (h : FormAt A H p f) (e : Vc.Ed [q] H H') {o : HO} (hq : H q = some o) (k : ∀ C dx fs, o ≠ .ins C dx fs) : FormAt A H' p f := by
 obtain ⟨dx, h⟩ := h
 exact ⟨dx, e.at1 (ne_of h hq fun z => k _ _ _ z.symm) h⟩
theorem FormAt.ed0 {A : Ad} {H H' : Hp} {p : Addr} {f : FD} (e : Vc.Ed [] H H') (h : FormAt A H p f) : FormAt A H' p f := h.ed e (fun z => nomatch z)
def spCheck (A : Ad) : Sp := fun vs H Q _ => ∃ (d : Addr) (stop : Int) (items : List (FD × Addr)), vs = [.int stop, .ref d] ∧ MadeAt A H d items ∧ Valid stop (items.map (·.1)) ∧ ∀ H', Vc.Ed [] H H' → Q .non H'
section
variable {P : Program} {w : World} {K : PySem.W.Frag} {mg : Str → Option Value} {base : Heap} {A : Ad}
theorem ok_check_forms (T : Txt K mg A) : FnOk P w K mg base CX0 2 A.f_check_forms A.d_check_forms ["stop", "forms"] (spCheck A) := by
 have G_is_byte := ok_is_byte (P := P) (w := w) (base := base) T
 refine T.F_check_forms.ok sc_check_forms (fun vs H Q E h => ?_) (fun cdv Ar outer s H vs Q E hr h => ?_)
 ·obtain ⟨d, stop, items, rfl, _⟩ := h
  rfl
 ·obtain ⟨d, stop, items, rfl, M, Va, k⟩ := h
  have hu := hu_of hr
  have cr := T.cr_CodeSet
  obtain ⟨uM, cv⟩ := T.cv_MOST
  have cl := T.cl_Form
  have no1 := T.no_Form_name
  have hd := M.ob
  have v1 := Va.n1
  have v16 := Va.n16
  rw [List.length_map] at v1 v16
  have kl := kvsOf_len items
  refine ⟨_, (pss_cons (ps_if (PW.pt (pw_or (pt_cmpR op_lt (pe_callB call_lenD (by rfl) T.n_len (by decide +kernel) (pa_cons (pv 1) pa_nil)) pe_int (nomark _)) (pw_or1 (pt_cmpR op_gt (pe_callB call_lenD (by rfl) T.n_len (by decide +kernel) (pa_cons (pv 1) pa_nil)) (ClX.pe_cval (pe_glob (v := .ref A.C_CodeSet) (by rfl) T.g_CodeSet rfl)) (nomark _))))) (pss_one ps_never) pss_nil) (pss_cons (ps_lock (ps_setLc (i := 2) (own := [("byte", 3)]) (g := gName 3) rfl sc_check_forms.nd rfl rfl (sw_true rfl rfl rfl (by decide +kernel)) (pi_keys (pv 1)) (blkOk_by (own := [("byte", 3)]) (N := ["stop", "forms", "names", "byte"]) (sc := defScope s_check_forms) (by decide +kernel)) (fun _ _ _ _ _ => by exact (pg_name (i := 3) sc_check_forms.nd rfl (Or.inl rfl))) (fun _ _ _ _ _ => by exact pts_nil) (fun _ _ _ _ _ => by (refine' Vc.blkE ?h ?q; (case h => exact (pe_fld (pe_dget (by exact hu) (pv 1) (pv 3) (fun _ _ => rfl)) rfl)); (case q => first | exact rfl | (dsimp only; done) | (dsimp only; exact rfl)))))) (pss_cons (ps_if (pt_cmpR op_lt (Setn.pe_lenSetN rfl (by rfl) T.n_len (by rfl) T.n_set (pv 2)) (pe_callB call_len_seq (by rfl) T.n_len (by decide +kernel) (pa_cons (pv 2) pa_nil)) (nomark _)) (pss_one ps_never) pss_nil) (pss_one (ps_lock (ps_for PassesOwn.never rfl (pi_keys (pv 1)) (pg_name (i := 3) sc_check_forms.nd rfl (Or.inl rfl)) (pss_one (ps_if (PW.pt (pw_or (pt_not (pt_val (pe_call G_is_byte (by exact hr.mono (by decide)) (by rfl) T.g_is_byte T.F_is_byte.kp T.b_is_byte .nil pass0 (pa_cons (pv 3) pa_nil)))) (pw_or1 (pt_cmpR op_eq (pv 3) (pv 0) (nomark _))))) (pss_one ps_never) pss_nil)))))))), ?_⟩
  walk_at "goo"
  refine Vc.lockA_keys rfl hd [] (fun H1 L i H' => Vc.Ed [] H1 H' ∧ H' L = some (.lst ((items.take i).map fun p => .str p.1.name))) (fun _ _ _ _ h => h.1) (fun H1 od L H2 e1 h1 nL e2 hL => ⟨e2, hL⟩) ?_ ?_
  ·rintro H1 od L i k' v H' e1 nL h1 hk ⟨e2, hL⟩
   obtain ⟨p, hp, rfl, rfl⟩ := kvsOf_get hk
   have hm := List.mem_of_getElem? hp
   have hi : i < items.length := (List.getElem?_eq_some_iff.mp hp).1
   have hv := kvsOf_val Va.ndb hm
   have hF := ((M.fm p hm).ed1 e1 hd (fun _ _ _ => by intro z; cases z)).ed e2 (fun z => nomatch z)
   obtain ⟨dx, hF⟩ := hF
   change gName 3 (V.int p.1.byte) _ _ _
   walk_at "go"
   refine ⟨rfl, ?_⟩
   walk_at "go"
   refine ⟨_, hL, by rw [List.length_map, List.length_take]; exact small1000 (by omega), ?_⟩
   generalize hu2 : upd _ L _ = H3
   obtain ⟨e3, hL3⟩ := Vc.chg hu2 hL
   refine ⟨e2.one e3 (.inr nL), ?_⟩
   rw [List.take_add_one, hp, List.map_append]
   exact hL3
  ·rintro H1 L H' H2 nL ⟨e2, hL⟩ e hd2 k2
   have hLd : L ≠ d := fun z => by rw [z, hd] at nL; cases nL
   have hL2 := k2 L _ hLd hL
   have eq : List.map (fun p : FD × Addr => V.str p.1.name) (List.take (kvsOf items).length items) = ((items.map (·.1)).map (·.name)).map V.str := by
    rw [kvsOf_len, List.take_of_length_le (Nat.le_refl _)]
    simp [List.map_map, Function.comp_def]
   rw [eq] at hL2
   have hSq : SqL K H2 L (((items.map (·.1)).map (·.name)).map V.str) := .of hL2
   walk_at "go"
   refine Vc.go_lenSetC hSq (by rw [List.length_map, List.length_map]; omega) ?_
   rw [Setn.cn_nd Va.ndn]
   walk_at "go"
   simp only [List.length_map]
   walk_at "goo"
   refine Vc.lock_keys rfl hd2 [] (fun H1 i σ H' => ∃ y, σ = [some (.int stop), some (.ref d), some (.ref L), y] ∧ Vc.Ed [] H1 H') (fun _ _ _ _ h => h.choose_spec.2) (fun H1 od _ _ => ⟨none, rfl, .refl⟩) ?_ ?_
   ·rintro H1 od i k' v σ' H' _ _ h1 hk ⟨y, rfl, e2⟩
    obtain ⟨p, hp, rfl, rfl⟩ := kvsOf_get hk
    have hm := List.mem_of_getElem? hp
    obtain ⟨b0, b1, b2⟩ := Va.byt p.1 (List.mem_map.mpr ⟨p, hm, rfl⟩)
    change gName 3 (V.int p.1.byte) _ _ _
    walk_at "go"
    refine ⟨p.1.byte, rfl, fun H4 e4 => ?_⟩
    rw [decide_eq_true ⟨b0, b1⟩]
    walk_at "goo"
    exact ⟨_, rfl, by walk_at "ed"⟩
   ·rintro H1 σ' H' H3 _ ⟨y, rfl, e2⟩ e3 _ _
    exact k _ (by walk_at "ed")
end
end My
namespace My
open PySem PySem.Spec PyProof.Rows L2
def UNS : List Int := [1, 2, 4, 8]
def CHS : List Int := [1, 2, 4, 8, 16]
def layErr (u c : Int) : Option Str := if u ∉ UNS then some "unit" else if c ∉ CHS ∨ c < u then some "chunk" else none
def layF (u c : Int) : List (Str × V) := [("held_unit", .int u), ("held_chunk", .int c)]
def LayAt (A : Ad) (H : Hp) (p : Addr) (u c : Int) : Prop := ∃ dx, H p = some (.ins A.C_Layout dx (layF u c))
theorem lay_unit {u c} : (layF u c).lookup ("held_unit" : Str) = some (.int u) := rfl
theorem lay_chunk {u c} : (layF u c).lookup ("held_chunk" : Str) = some (.int c) := rfl
theorem lay_new {u c} : putF "held_chunk" (.int c) (putF "held_unit" (.int u) []) = layF u c := rfl
theorem LayAt.ed0 {A : Ad} {H H' : Hp} {p : Addr} {u c : Int} (e : Vc.Ed [] H H') (h : LayAt A H p u c) : LayAt A H' p u c := by
 obtain ⟨dx, h⟩ := h
 exact ⟨dx, e.at0 h⟩
theorem inV_ints (n : Int) (ns : List Int) : inV (.int n) (ns.map V.int) = decide (n ∈ ns) := by
 rw [Bool.eq_iff_iff, decide_eq_true_eq]
 show (List.any (ns.map V.int) fun y => eqV y (.int n)) = true ↔ _
 rw [List.any_eq_true]
 constructor
 ·rintro ⟨y, hy, e⟩
  obtain ⟨m, hm, rfl⟩ := List.mem_map.mp hy
  have : m = n := by simpa [eqV] using e
  rw [← this]; exact hm
 ·exact fun h => ⟨_, List.mem_map.mpr ⟨n, h, rfl⟩, by simp [eqV]⟩
theorem inV_uns (n : Int) : inV (.int n) [.int 1, .int 2, .int 4, .int 8] = decide (n ∈ UNS) := inV_ints n UNS
theorem inV_chs (n : Int) : inV (.int n) [.int 1, .int 2, .int 4, .int 8, .int 16] = decide (n ∈ CHS) := inV_ints n CHS
def spLayInit (A : Ad) : Sp := fun vs H Q E => ∃ (p dx : Addr) (u c : Int), vs = [.ref p, .int u, .int c] ∧ H p = some (.ins A.C_Layout dx []) ∧
 (∀ e, layErr u c = some e → ∀ d H', Vc.Ed [] H H' → H' d = some (.xd [("part", .str e)]) → E (.ref A.C_BadLayout) (some d) H') ∧
 (layErr u c = none → ∀ H', Vc.Ed [p] H H' → LayAt A H' p u c → Q .non H')
def spLayGetU (A : Ad) : Sp := fun vs H Q _ => ∃ (p : Addr) (u c : Int), vs = [.ref p] ∧ LayAt A H p u c ∧ Q (.int u) H
def spLayGetC (A : Ad) : Sp := fun vs H Q _ => ∃ (p : Addr) (u c : Int), vs = [.ref p] ∧ LayAt A H p u c ∧ Q (.int c) H
section
variable {w : World} {K : PySem.W.Frag} {mg : Str → Option Value} {base : Heap} {A : Ad}
theorem ok_Layoutu_initu (T : Txt K mg A) : FnOk PG w K mg base (CX PG w) 3 A.f_Layoutu_initu A.d_Layoutu_initu ["self", "unit", "chunk"] (spLayInit A) := by
 have G_BadLayoutu_initu := ok_BadLayoutu_initu (w := w) (base := base) T
 refine T.F_Layoutu_initu.ok sc_Layoutu_initu (fun vs H Q E h => ?_) (fun cdv Ar outer s H vs Q E hr h => ?_)
 ·obtain ⟨p, dx, u, c, rfl, _⟩ := h
  rfl
 ·obtain ⟨p, dx, u, c, rfl, hp, kE, kQ⟩ := h
  have cl := T.cl_Layout
  have no1 := T.no_Layout_held_unit
  have no2 := T.no_Layout_held_chunk
  have cr := T.cr_Layout
  have cv1 := T.cv_UNITS
  have cv2 := T.cv_CHUNKS
  have qU := T.q_UNITS
  have qC := T.q_CHUNKS
  have bad : ∀ e, layErr u c = some e → ∀ d H', H d = none → Vc.Ed [] H H' → H' d = some (.xd [("part", .str e)]) → E (.ref A.C_BadLayout) (some d) H' := fun e he d H' _ e2 h => kE e he d H' e2 h
  refine ⟨_, (pss_cons (ps_if (pt_cmpR op_notIn_seq (pv 1) (ClX.pe_cval (pe_glob (v := .ref A.C_Layout) (by rfl) T.g_Layout rfl)) (by rfl)) (pss_one (Vc.ps_raiseT rfl (takes_of rfl rfl rfl rfl) (pmk_oex T.ox_BadLayout T.i_BadLayout T.ti_BadLayout G_BadLayoutu_initu (by exact hr.mono (by decide)) T.b_BadLayoutu_initu .nil pass0 (by rfl) T.g_BadLayout (pa_cons pe_str pa_nil)))) pss_nil) (pss_cons (ps_if (PW.pt (pw_or (pt_cmpR op_notIn_seq (pv 2) (ClX.pe_cval (pe_glob (v := .ref A.C_Layout) (by rfl) T.g_Layout rfl)) (by rfl)) (pw_or1 (pt_cmpR op_lt (pv 2) (pv 1) (nomark _))))) (pss_one (Vc.ps_raiseT rfl (takes_of rfl rfl rfl rfl) (pmk_oex T.ox_BadLayout T.i_BadLayout T.ti_BadLayout G_BadLayoutu_initu (by exact hr.mono (by decide)) T.b_BadLayoutu_initu .nil pass0 (by rfl) T.g_BadLayout (pa_cons pe_str pa_nil)))) pss_nil) (pss_cons (ps_fld (pv 0) (pv 1) rfl) (pss_one (ps_fld (pv 0) (pv 2) rfl))))), ?_⟩
  walk_at "go"
  rw [inV_uns]
  refine Vc.go_iten (fun h1 => ?_) (fun h1 => ?_)
  ·walk_at "go"
   exact bad _ (by unfold layErr; rw [if_pos h1])
  walk_at "go"
  rw [inV_chs]
  refine Vc.go_iten (fun h2 => ?_) (fun h2 => ?_)
  ·walk_at "go"
   exact bad _ (by unfold layErr; rw [if_neg (fun z => z h1), if_pos (.inl h2)])
  walk_at "go"
  refine Vc.go_ite (fun h3 => ?_) (fun h3 => ?_)
  ·walk_at "go"
   exact bad _ (by unfold layErr; rw [if_neg (fun z => z h1), if_pos (.inr h3)])
  walk_at "go"
  generalize hu1 : upd _ p _ = H1
  obtain ⟨e1, h1'⟩ := Vc.chg hu1 hp
  walk_at "go"
  generalize hu2 : upd _ p _ = H2
  obtain ⟨e2, h2'⟩ := Vc.chg hu2 h1'
  rw [lay_new] at h2'
  exact kQ (by unfold layErr; rw [if_neg (fun z => z h1), if_neg (fun z => z.elim (fun z => z h2) h3)]) H2 (by walk_at "ed") ⟨dx, h2'⟩
theorem ok_Layout_unit (T : Txt K mg A) : FnOk PG w K mg base CX0 1 A.f_Layout_unit A.d_Layout_unit ["self"] (spLayGetU A) := by
 refine T.F_Layout_unit.ok sc_Layout_unit (fun vs H Q E h => ?_) (fun cdv Ar outer s H vs Q E hr h => ?_)
 ·obtain ⟨p, u, c, rfl, _⟩ := h
  rfl
 ·obtain ⟨p, u, c, rfl, ⟨dx, hp⟩, k⟩ := h
  have cl := T.cl_Layout
  have no1 := T.no_Layout_held_unit
  have l := lay_unit (u := u) (c := c)
  refine ⟨_, (pss_one (ps_ret (pe_fld (pv 0) rfl))), ?_⟩
  walk_at "go"
  exact k
theorem ok_Layout_chunk (T : Txt K mg A) : FnOk PG w K mg base CX0 1 A.f_Layout_chunk A.d_Layout_chunk ["self"] (spLayGetC A) := by
 refine T.F_Layout_chunk.ok sc_Layout_chunk (fun vs H Q E h => ?_) (fun cdv Ar outer s H vs Q E hr h => ?_)
 ·obtain ⟨p, u, c, rfl, _⟩ := h
  rfl
 ·obtain ⟨p, u, c, rfl, ⟨dx, hp⟩, k⟩ := h
  have cl := T.cl_Layout
  have no1 := T.no_Layout_held_chunk
  have l := lay_chunk (u := u) (c := c)
  refine ⟨_, (pss_one (ps_ret (pe_fld (pv 0) rfl))), ?_⟩
  walk_at "go"
  exact k
end
end My
namespace My
open PySem PySem.Spec PyProof.Rows L2
def rgD (a b : Int) : List V := (Vc.rgI a b).map V.int
def spTouched : Sp := fun vs H Q _ => ∃ s lo hi : Int, vs = [.int s, .int lo, .int hi] ∧ s ∈ CHS ∧ 0 ≤ lo ∧ lo < hi ∧ hi ≤ lo + 900 ∧
 ∀ q H', Vc.Ed [] H H' → H' q = some (.lst (rgD (lo / s) ((hi - 1) / s + 1))) → Q (.ref q) H'
def spUnits (A : Ad) : Sp := fun vs H Q _ => ∃ (p : Addr) (u c lo hi : Int), vs = [.ref p, .int lo, .int hi] ∧ LayAt A H p u c ∧ u ∈ CHS ∧ 0 ≤ lo ∧ lo < hi ∧ hi ≤ lo + 900 ∧
 ∀ q H', Vc.Ed [] H H' → H' q = some (.lst (rgD (lo / u) ((hi - 1) / u + 1))) → Q (.ref q) H'
def spLaySpan (A : Ad) : Sp := fun vs H Q _ => ∃ (p : Addr) (u c n size : Int), vs = [.ref p, .int n, .int size] ∧ LayAt A H p u c ∧ u ∈ CHS ∧ n.natAbs < 2 ^ 190 ∧
 ∀ q H', Vc.Ed [] H H' → H' q = some (.tup [.int (n * u), .int (if n * u + u ≤ size then n * u + u else size)]) → Q (.ref q) H'
theorem chs_pos {u : Int} (h : u ∈ CHS) : 0 < u ∧ u ≤ 16 := by
 have : u = 1 ∨ u = 2 ∨ u = 4 ∨ u = 8 ∨ u = 16 := by simpa [CHS] using h
 omega
theorem chs_near {u x y : Int} {k : Int} (h : u ∈ CHS) (p : x ≤ y) (q : y ≤ x + k) : x / u ≤ y / u ∧ y / u ≤ x / u + k + 1 := by
 have : u = 1 ∨ u = 2 ∨ u = 4 ∨ u = 8 ∨ u = 16 := by simpa [CHS] using h
 rcases this with rfl | rfl | rfl | rfl | rfl <;> omega
section
variable {w : World} {K : PySem.W.Frag} {mg : Str → Option Value} {base : Heap} {A : Ad}
theorem ok_touched (T : Txt K mg A) : FnOk PG w K mg base CX0 1 A.f_touched A.d_touched ["size", "low", "high"] spTouched := by
 refine T.F_touched.ok sc_touched (fun vs H Q E h => ?_) (fun cdv Ar outer s H vs Q E hr h => ?_)
 ·obtain ⟨z, lo, hi, rfl, _⟩ := h
  rfl
 ·obtain ⟨z, lo, hi, rfl, hz, l0, l1, l2, k⟩ := h
  obtain ⟨z0, z1⟩ := chs_pos hz
  have n1 := chs_near hz (x := lo) (y := hi - 1) (k := 899) (by omega) (by omega)
  refine ⟨_, (pss_one (ps_ret (Vc.pe_listRgL rfl (by rfl) T.n_list (prg_2 (by rfl) T.n_range (pe_op op_fdivW (pv 1) (pv 0)) (pe_op op_add (pe_op op_fdivW (pe_op op_sub (pv 2) pe_int) (pv 0)) pe_int))))), ?_⟩
  walk_at "go"
  refine ⟨by omega, fun q nq => ?_⟩
  generalize hu : upd _ q _ = H2
  obtain ⟨e2, hq⟩ := Vc.alloc hu nq
  walk_at "go"
  exact k q H2 e2 hq
theorem ok_Layout_units (T : Txt K mg A) : FnOk PG w K mg base CX0 2 A.f_Layout_units A.d_Layout_units ["self", "low", "high"] (spUnits A) := by
 have G_touched := ok_touched (w := w) (base := base) T
 refine T.F_Layout_units.ok sc_Layout_units (fun vs H Q E h => ?_) (fun cdv Ar outer s H vs Q E hr h => ?_)
 ·obtain ⟨p, u, c, lo, hi, rfl, _⟩ := h
  rfl
 ·obtain ⟨p, u, c, lo, hi, rfl, ⟨dx, hp⟩, hu, l0, l1, l2, k⟩ := h
  have cl := T.cl_Layout
  have no1 := T.no_Layout_held_unit
  have l := lay_unit (u := u) (c := c)
  refine ⟨_, (pss_one (ps_ret (pe_call G_touched (by exact hr.mono (by decide)) (by rfl) T.g_touched T.F_touched.kp T.b_touched .nil pass0 (pa_cons (pe_fld (pv 0) rfl) (pa_cons (pv 1) (pa_cons (pv 2) pa_nil)))))), ?_⟩
  walk_at "go"
  refine ⟨u, lo, hi, rfl, hu, l0, l1, l2, fun q H2 e2 hq => ?_⟩
  walk_at "go"
  exact k q H2 e2 hq
theorem ok_Layout_span (T : Txt K mg A) : FnOk PG w K mg base CX0 1 A.f_Layout_span A.d_Layout_span ["self", "unit", "size"] (spLaySpan A) := by
 refine T.F_Layout_span.ok sc_Layout_span (fun vs H Q E h => ?_) (fun cdv Ar outer s H vs Q E hr h => ?_)
 ·obtain ⟨p, u, c, n, z, rfl, _⟩ := h
  rfl
 ·obtain ⟨p, u, c, n, z, rfl, ⟨dx, hp⟩, hu, l0, k⟩ := h
  obtain ⟨u0, u1⟩ := chs_pos hu
  have cl := T.cl_Layout
  have no1 := T.no_Layout_held_unit
  have l := lay_unit (u := u) (c := c)
  refine ⟨_, (pss_cons (ps_set (i := 3) sc_Layout_span.nd rfl (Or.inl rfl) (pe_op op_mulW (pv 1) (pe_fld (pv 0) rfl))) (pss_one (ps_ret (pe_tup (pa_cons (pv 3) (pa_cons (pe_callB (cr_min rfl) (by rfl) T.n_min (by decide +kernel) (pa_cons (pe_lst (pa_cons (pe_op op_add (pv 3) (pe_fld (pv 0) rfl)) (pa_cons (pv 2) pa_nil))) pa_nil)) pa_nil)))))), ?_⟩
  walk_at "go"
  intro q nq
  generalize hu1 : upd _ q _ = H2
  obtain ⟨e2, hq⟩ := Vc.alloc hu1 nq
  walk_at "go"
  refine ⟨q, [n * u + u, z], rfl, .of hq, Nat.zero_lt_succ _, fun m hm hle => ?_⟩
  have em : m = if n * u + u ≤ z then n * u + u else z := by
   have a1 := hle (n * u + u) (List.mem_cons_self ..)
   have a2 := hle z (List.mem_cons_of_mem _ (List.mem_cons_self ..))
   rcases List.mem_cons.mp hm with e | hm
   ·rw [if_pos (by omega)]; exact e
   ·have e := List.mem_singleton.mp hm
    split <;> omega
  walk_at "go"
  intro r nr
  generalize hu2 : upd _ r _ = H3
  obtain ⟨e3, hr3⟩ := Vc.alloc hu2 nr
  walk_at "go"
  exact k r H3 (by walk_at "ed") (by rw [← em]; exact hr3)
end
end My
namespace My
open PySem PySem.Spec PyProof.Rows L2
def Given (_A : Ad) (K : PySem.W.Frag) (H : Hp) (h : Addr) (vals : List Int) : Prop := SqL K H h (vals.map V.int) ∨ SqT K H h (vals.map V.int)
theorem Given.ed0 {A : Ad} {K : PySem.W.Frag} {H H' : Hp} {h : Addr} {vals : List Int} (e : Vc.Ed [] H H') (X : Given A K H h vals) : Given A K H' h vals := by
 rcases X with X | X
 ·exact .inl (e.sql0 X)
 ·exact .inr (e.sqt X)
theorem Given.ins {A : Ad} {K : PySem.W.Frag} {H H' : Hp} {h p C dx : Addr} {vals : List Int} (hp : H p = some (.ins C dx [])) (e : Vc.Ed [p] H H') (X : Given A K H h vals) : Given A K H' h vals := by
 rcases X with X | X
 ·exact .inl (e.sqlk hp (fun ys z => by cases z) X)
 ·exact .inr (e.sqt X)
theorem given_any {A : Ad} {K : PySem.W.Frag} {H : Hp} {Q : VK} {h : Addr} {vals : List Int} (X : Given A K H h vals) (l1 : vals.length ≤ 1000) (k : ∀ L H', H L = none → Vc.Ed [] H H' → H' L = some (.lst (vals.map V.int)) → Q (.ref L) H') :
  Vc.rLstOf K [.ref h] H Q := by
 rcases X with X | X
 ·exact Vc.go_lstD X fun L nL => k L _ nL (.new nL) upd_same
 ·exact Vc.go_lstDT X fun L nL => k L _ nL (.new nL) upd_same
end My
namespace My
open PySem PySem.Spec PyProof.Rows L2
def unitOf (W : Int) (vals : List Int) (k : Nat) : List Int := (vals.drop (k * W.toNat)).take W.toNat
def manyU (W : Int) (n : Nat) : Nat := (n + W.toNat - 1) / W.toNat
def unitsOf (W : Int) (vals : List Int) : List (List Int) := (List.range (manyU W vals.length)).map (unitOf W vals)
structure TupsAt (H : Hp) (ts : List Addr) (cs : List (List Int)) : Prop where
 len : ts.length = cs.length
 at_ : ∀ (j : Nat) (t : Addr) (c : List Int), ts[j]? = some t → cs[j]? = some c → H t = some (.tup (c.map V.int))
theorem TupsAt.ed {S : List Addr} {H H' : Hp} {ts : List Addr} {cs : List (List Int)} (h : TupsAt H ts cs) (e : Vc.Ed S H H') : TupsAt H' ts cs := ⟨h.len, fun j t c a b => e.tup _ _ (h.at_ j t c a b)⟩
theorem TupsAt.edx {S : List Addr} {H H' : Hp} {ts : List Addr} {cs : List (List Int)} (h : TupsAt H ts cs) (e : Vc.EdX S H H') : TupsAt H' ts cs := ⟨h.len, fun j t c a b => e.tup _ _ (h.at_ j t c a b)⟩
theorem TupsAt.snoc {H : Hp} {ts : List Addr} {cs : List (List Int)} {t : Addr} {c : List Int} (h : TupsAt H ts cs) (ht : H t = some (.tup (c.map V.int))) : TupsAt H (ts ++ [t]) (cs ++ [c]) := by
 refine ⟨by rw [List.length_append, List.length_append, h.len]; rfl, fun j t' c' a b => ?_⟩
 by_cases l : j < ts.length
 ·rw [List.getElem?_append_left l] at a
  rw [List.getElem?_append_left (by rw [← h.len]; exact l)] at b
  exact h.at_ j t' c' a b
 ·rw [List.getElem?_append_right (by omega)] at a
  rw [List.getElem?_append_right (by rw [← h.len]; omega)] at b
  rw [← h.len] at b
  have : j - ts.length = 0 := by
   have := (List.getElem?_eq_some_iff.mp a).1
   have e : [t].length = 1 := rfl
   omega
  rw [this] at a b
  obtain rfl := Option.some.inj a
  obtain rfl := Option.some.inj b
  exact ht
theorem room65 {k : Nat} {A : Around} (r : Room k A) : A.units + 65 < cLine := by have := r.un; omega
def tupD (x : List Int) : PyData := .tuple (x.map PyData.int)
theorem pl_tupD {n : Nat} (x : List Int) : Pl (n + 1) (tupD x) := pl_tup (pl_ints x)
theorem tupD_inj {a b : List Int} : tupD a = tupD b ↔ a = b := ⟨fun h => by unfold tupD at h; injection h with h; exact ints_inj.mp h, fun h => by rw [h]⟩
theorem any_tup (c : List (List Int)) (x : List Int) : ((c.map tupD).any fun z => PyData.eqv z (tupD x)) = decide (x ∈ c) := by
 rw [Bool.eq_iff_iff, decide_eq_true_eq, List.any_eq_true]
 constructor
 ·rintro ⟨d, hd, e⟩
  obtain ⟨y, hy, rfl⟩ := List.mem_map.mp hd
  have := (pl_eqv 1 _ _ (pl_tupD y) (pl_tupD x)).mp e
  rw [← tupD_inj.mp this]; exact hy
 ·exact fun h => ⟨tupD x, List.mem_map.mpr ⟨x, h, rfl⟩, (pl_eqv 1 _ _ (pl_tupD x) (pl_tupD x)).mpr rfl⟩
theorem TupsAt.dps {K : PySem.W.Frag} {H : Hp} : ∀ {ts : List Addr} {cs : List (List Int)}, TupsAt H ts cs → DpAll K H (ts.map V.ref) (cs.map tupD)
 | [], [], _ => .nil
 | [], _ :: _, h => by have := h.len; cases this
 | _ :: _, [], h => by have := h.len; cases this
 | t :: ts, c :: cs, h => .cons (.tup (.inl (.of (h.at_ 0 t c rfl rfl))) (dp_ints c)) (TupsAt.dps ⟨Nat.succ.inj h.len, fun j u d a b => h.at_ (j + 1) u d a b⟩)
theorem TupsAt.dp {K : PySem.W.Frag} {H : Hp} {ts : List Addr} {cs : List (List Int)} {L : Addr} (h : TupsAt H ts cs) (hL : H L = some (.lst (ts.map V.ref))) : Dp K H (.ref L) (.list (cs.map tupD)) := .lst (.of hL) h.dps
theorem pl_tups {n : Nat} (cs : List (List Int)) : Pl (n + 2) (.list (cs.map tupD)) := pl_lst fun x hx => by
 obtain ⟨y, _, rfl⟩ := List.mem_map.mp hx
 exact pl_tupD y
theorem go_notInT {K : PySem.W.Frag} {H : Hp} {Q : VK} {t L : Addr} {x : List Int} {ts : List Addr} {c : List (List Int)} (hL : H L = some (.lst (ts.map V.ref))) (T : TupsAt H ts c) (ht : H t = some (.tup (x.map V.int))) (q : Q (.bl (!decide (x ∈ c))) H) : rNotInD K (.ref t) (.ref L) H Q :=
 ⟨tupD x, c.map tupD, .tup (.inl (.of ht)) (dp_ints x), T.dp hL, pl_shp (n := 1) (pl_tupD x) (by decide), pl_shp (n := 2) (pl_tups c) (by decide), by rw [any_tup]; exact q⟩
theorem uns_pos {u : Int} (h : u ∈ UNS) : u = 1 ∨ u = 2 ∨ u = 4 ∨ u = 8 := by simpa [UNS] using h
theorem uns_chs {u : Int} (h : u ∈ UNS) : u ∈ CHS := by
 rcases uns_pos h with rfl | rfl | rfl | rfl <;> decide
theorem many_eq {u : Int} {n : Nat} (h : u ∈ UNS) (n1 : 1 ≤ n) : ((n : Int) - 1) / u + 1 = (manyU u n : Nat) ∧ ((n : Int) + u - 1) / u = (manyU u n : Nat) ∧ 1 ≤ manyU u n ∧ manyU u n ≤ n := by
 unfold manyU
 rcases uns_pos h with rfl | rfl | rfl | rfl
 ·show ((n : Int) - 1) / 1 + 1 = ((n + 1 - 1) / 1 : Nat) ∧ ((n : Int) + 1 - 1) / 1 = ((n + 1 - 1) / 1 : Nat) ∧ 1 ≤ (n + 1 - 1) / 1 ∧ (n + 1 - 1) / 1 ≤ n
  omega
 ·show ((n : Int) - 1) / 2 + 1 = ((n + 2 - 1) / 2 : Nat) ∧ ((n : Int) + 2 - 1) / 2 = ((n + 2 - 1) / 2 : Nat) ∧ 1 ≤ (n + 2 - 1) / 2 ∧ (n + 2 - 1) / 2 ≤ n
  omega
 ·show ((n : Int) - 1) / 4 + 1 = ((n + 4 - 1) / 4 : Nat) ∧ ((n : Int) + 4 - 1) / 4 = ((n + 4 - 1) / 4 : Nat) ∧ 1 ≤ (n + 4 - 1) / 4 ∧ (n + 4 - 1) / 4 ≤ n
  omega
 ·show ((n : Int) - 1) / 8 + 1 = ((n + 8 - 1) / 8 : Nat) ∧ ((n : Int) + 8 - 1) / 8 = ((n + 8 - 1) / 8 : Nat) ∧ 1 ≤ (n + 8 - 1) / 8 ∧ (n + 8 - 1) / 8 ≤ n
  omega
def hiU (W : Int) (n : Nat) (j : Nat) : Int := if (j : Int) * W + W ≤ n then (j : Int) * W + W else n
theorem cut_u (vals : List Int) (a w : Nat) (hi : Int) (ha : a ≤ vals.length) (hh : hi = if (a : Int) + w ≤ vals.length then (a : Int) + w else vals.length) : cutV (vals.map V.int) (some (a : Int)) (some hi) = ((vals.drop a).take w).map V.int := by
 have e : hi = ((if a + w ≤ vals.length then a + w else vals.length : Nat) : Int) := by
  rw [hh]
  by_cases c : a + w ≤ vals.length
  ·rw [if_pos (by omega), if_pos c]; omega
  ·rw [if_neg (by omega), if_neg c]
 rw [e, Vc.cut_mid, ← List.map_drop, ← List.map_take]
 congr 1
 by_cases c : a + w ≤ vals.length
 ·rw [if_pos c, show a + w - a = w by omega]
 ·rw [if_neg c, List.take_of_length_le (by rw [List.length_drop]; omega), List.take_of_length_le (by rw [List.length_drop]; omega)]
theorem cut_unit {W : Int} {vals : List Int} {j : Nat} (h : W ∈ UNS) (l1 : 1 ≤ vals.length) (hj : j < manyU W vals.length) : cutV (vals.map V.int) (some ((j : Int) * W)) (some (hiU W vals.length j)) = (unitOf W vals j).map V.int := by
 have := (many_eq h l1).2.2.2
 have jl : (j : Int) * W ≤ vals.length := by
  unfold manyU at hj
  rcases uns_pos h with rfl | rfl | rfl | rfl
  ·have : j < (vals.length + 1 - 1) / 1 := hj
   omega
  ·have : j < (vals.length + 2 - 1) / 2 := hj
   omega
  ·have : j < (vals.length + 4 - 1) / 4 := hj
   omega
  ·have : j < (vals.length + 8 - 1) / 8 := hj
   omega
 obtain ⟨w, rfl⟩ : ∃ w : Nat, W = w := ⟨W.toNat, by rcases uns_pos h with rfl | rfl | rfl | rfl <;> rfl⟩
 rw [← Int.natCast_mul] at jl ⊢
 exact cut_u vals (j * w) w _ (by omega) (by unfold hiU; rw [← Int.natCast_mul])
theorem range_succ_map {α : Type} (f : Nat → α) (i : Nat) : (List.range (i + 1)).map f = (List.range i).map f ++ [f i] := by rw [List.range_succ, List.map_append]; rfl
def spSplit (A : Ad) (K : PySem.W.Frag) : Sp := fun vs H Q _ => ∃ (g c : Addr) (W C : Int) (vals : List Int), vs = [.ref g, .ref c] ∧ LayAt A H g W C ∧ W ∈ UNS ∧ SqL K H c (vals.map V.int) ∧ 1 ≤ vals.length ∧ vals.length ≤ 24 ∧
 ∀ L (ts : List Addr) H', Vc.Ed [] H H' → H L = none → (∀ t ∈ ts, H t = none) → H' L = some (.lst (ts.map V.ref)) → TupsAt H' ts (unitsOf W vals) → Q (.ref L) H'
section
variable {w : World} {K : PySem.W.Frag} {mg : Str → Option Value} {base : Heap} {A : Ad}
theorem ok_split_units (T : Txt K mg A) : FnOk PG w K mg base CX0 3 A.f_split_units A.d_split_units ["grid", "cells"] (spSplit A K) := by
 have G_Layout_units := ok_Layout_units (w := w) (base := base) T
 have G_Layout_span := ok_Layout_span (w := w) (base := base) T
 refine T.F_split_units.ok sc_split_units (fun vs H Q E h => ?_) (fun cdv Ar outer s H vs Q E hr h => ?_)
 ·obtain ⟨g, c, W, C, vals, rfl, _⟩ := h
  rfl
 ·obtain ⟨g, c, W, C, vals, rfl, hg, hW, hc, l1, l24, k⟩ := h
  obtain ⟨dx, hg'⟩ := id hg
  obtain ⟨me, _, m1, mn⟩ := many_eq hW l1
  refine ⟨_, (pss_cons (ps_setLc (i := 2) (own := [("unit", 3)]) (g := gName 3) rfl sc_split_units.nd rfl rfl (sw_true rfl rfl rfl (by decide +kernel)) (pi_list (pe_meth (pv 0) T.cl_Layout T.m_Layout_units G_Layout_units (by exact hr.mono (by decide)) T.b_Layout_units .nil pass0 (pa_cons pe_int (pa_cons (pe_callB call_len_seq (by rfl) T.n_len (by decide +kernel) (pa_cons (pv 1) pa_nil)) pa_nil)))) (blkOk_by (own := [("unit", 3)]) (N := ["grid", "cells", "spans", "unit", "low", "high"]) (sc := defScope s_split_units) (by decide +kernel)) (fun _ _ _ _ _ => by exact (pg_name (i := 3) sc_split_units.nd rfl (Or.inl rfl))) (fun _ _ _ _ _ => by exact pts_nil) (fun _ _ _ _ _ => by (refine' Vc.blkE ?h ?q; (case h => exact (pe_meth (pv 0) T.cl_Layout T.m_Layout_span G_Layout_span (by exact hr.mono (by decide)) T.b_Layout_span .nil pass0 (pa_cons (pv 3) (pa_cons (pe_callB call_len_seq (by rfl) T.n_len (by decide +kernel) (pa_cons (pv 1) pa_nil)) pa_nil)))); (case q => first | exact rfl | (dsimp only; done) | (dsimp only; exact rfl))))) (pss_one (ps_ret (pe_lc (own := [("low", 4), ("high", 5)]) (g := gTup K 2 (gCons (gName 4) (gCons (gName 5) gNil))) rfl sc_split_units.nd (pi_list (pv 2)) (blkOk_by (own := [("low", 4), ("high", 5)]) (N := ["grid", "cells", "spans", "unit", "low", "high"]) (sc := defScope s_split_units) (by decide +kernel)) (fun _ _ _ _ _ => by exact (pg_tup rfl (pgs_cons (pg_name (i := 4) sc_split_units.nd rfl (Or.inl rfl)) (pgs_cons (pg_name (i := 5) sc_split_units.nd rfl (Or.inl rfl)) pgs_nil)))) (fun _ _ _ _ _ => by exact pts_nil) (fun _ _ _ _ _ => by (refine' Vc.blkE ?h ?q; (case h => exact (pe_callTy Vc.call_tupD (by rfl) T.n_tuple (by decide +kernel) (pa_cons (pe_slice sl_list (pv 1) (po_some (pv 4)) (po_some (pv 5))) pa_nil))); (case q => first | exact rfl | (dsimp only; done) | (dsimp only; exact rfl)))))))), ?_⟩
  walk_at "go"
  rw [List.length_map]
  refine ⟨g, W, C, 0, (vals.length : Int), rfl, hg, uns_chs hW, by omega, by omega, by omega, fun U H1 e1 hU => ?_⟩
  rw [me, Int.zero_ediv] at hU
  have hc1 := e1.sql0 hc
  have hg1 := hg.ed0 e1
  obtain ⟨dx1, hg1'⟩ := id hg1
  have c1 : ∀ j : Nat, j < manyU W vals.length → ((j : Int) * W).natAbs < 2 ^ 190 ∧ (j : Int).natAbs < 2 ^ 190 := fun j hj => by
   have a : j ≤ 24 := by omega
   have b : ((j : Int) * W).natAbs ≤ 200 := by
    rcases uns_pos hW with rfl | rfl | rfl | rfl <;> omega
   exact ⟨Nat.lt_of_le_of_lt b (by decide), Nat.lt_of_le_of_lt (show (j : Int).natAbs ≤ 24 by omega) (by decide)⟩
  walk_at "go"
  refine ⟨⟨_, .of hU⟩, Vc.lc_by (walk_list (xs := rgD 0 (manyU W vals.length : Nat))) (fun D i H' => Vc.Ed [] H1 H' ∧ ∃ ps : List Addr, ps.length = i ∧ (∀ (j : Nat) (p : Addr), ps[j]? = some p → H' p = some (.tup [.int ((j : Int) * W), .int (hiU W vals.length j)])) ∧ H' D = some (.lst (ps.map V.ref))) (fun D H2 nD e2 hD => ⟨e2, [], rfl, (fun j p z => by cases z), hD⟩) (fun D j H' _ _ q => .of (q.1.at0 hU)) ?_ ?_⟩
  ·rintro D i y H2 H3 nD hi ⟨e2, ps, pl, hp, hD⟩ ⟨rfl, hy⟩
   unfold rgD at hy hi
   rw [List.getElem?_map] at hy
   rw [List.length_map, Vc.rgI_len] at hi
   have hi : i < manyU W vals.length := by omega
   obtain ⟨x, hx, rfl⟩ := Option.map_eq_some_iff.mp hy
   obtain ⟨rfl, _⟩ := Vc.rgI_get hx
   rw [Int.zero_add]
   have hg2 := hg1.ed0 e2
   obtain ⟨dx2, hg2'⟩ := id hg2
   have hc2 := e2.sql0 hc1
   walk_at "go"
   refine ⟨rfl, ?_⟩
   walk_at "go"
   rw [List.length_map]
   refine ⟨g, W, C, (i : Int), (vals.length : Int), rfl, hg2, uns_chs hW, (c1 i hi).2, fun q H4 e4 hq => ?_⟩
   have hD4 := e4.at0 hD
   walk_at "go"
   refine ⟨_, hD4, by rw [List.length_map, pl]; exact small1000 (by omega), ?_⟩
   generalize hu5 : upd _ D _ = H5
   obtain ⟨e5, hD5⟩ := Vc.chg hu5 hD4
   refine ⟨(e2.ex e4).one e5 (.inr nD), ps ++ [q], by rw [List.length_append, pl]; rfl, fun j p hj => ?_, by rw [hD5, List.map_append]; rfl⟩
   by_cases l : j < ps.length
   ·rw [List.getElem?_append_left l] at hj
    exact e5.tup _ _ (e4.tup _ _ (hp j p hj))
   ·rw [List.getElem?_append_right (by omega)] at hj
    have hl := (List.getElem?_eq_some_iff.mp hj).1
    have e1 : [q].length = 1 := rfl
    have ej : j = i := by omega
    rw [show j - ps.length = 0 by omega] at hj
    obtain rfl := Option.some.inj hj
    rw [ej]
    exact e5.tup _ _ hq
  rintro S H2 nS ⟨e2, ps, pl, hp, hS⟩
  unfold rgD at pl
  rw [List.length_map, Vc.rgI_len] at pl
  have pl : ps.length = manyU W vals.length := by omega
  have hc2 := e2.sql0 hc1
  walk_at "go"
  refine ⟨⟨_, .of hS⟩, Vc.lc_by (walk_list (xs := ps.map V.ref)) (fun D i H' => Vc.Ed [] H2 H' ∧ ∃ ts : List Addr, TupsAt H' ts ((List.range i).map (unitOf W vals)) ∧ (∀ t ∈ ts, H2 t = none) ∧ H' D = some (.lst (ts.map V.ref))) (fun D H3 nD e3 hD => ⟨e3, [], ⟨rfl, fun j p c z => by cases z⟩, (fun t z => nomatch z), hD⟩) (fun D j H' _ _ q => .of (q.1.at0 hS)) ?_ ?_⟩
  ·rintro D i y H3 H4 nD hi ⟨e3, ts, hT, nT, hD⟩ ⟨rfl, hy⟩
   rw [List.getElem?_map] at hy
   rw [List.length_map] at hi
   obtain ⟨q, hq, rfl⟩ := Option.map_eq_some_iff.mp hy
   have hq3 := e3.tup _ _ (hp i q hq)
   have hc3 := e3.sql0 hc2
   have tl : ts.length = i := by rw [hT.len, List.length_map, List.length_range]
   walk_at "go"
   refine ⟨q, _, rfl, .of hq3, rfl, _, _, rfl, ?_⟩
   walk_at "go"
   refine ⟨_, _, rfl, ?_⟩
   walk_at "go"
   refine ⟨rfl, ?_⟩
   refine ⟨rfl, ?_⟩
   walk_at "go"
   intro z nz
   rw [cut_unit hW l1 (by omega)]
   generalize hu5 : upd _ z _ = H5
   obtain ⟨e5, hz⟩ := Vc.alloc hu5 nz
   have hD5 := e5.at0 hD
   walk_at "go"
   intro t nt
   generalize hu6 : upd _ t _ = H6
   obtain ⟨e6, ht⟩ := Vc.alloc hu6 nt
   have hD6 := e6.at0 hD5
   walk_at "go"
   refine ⟨_, hD6, by rw [List.length_map, tl]; exact small1000 (by omega), ?_⟩
   generalize hu7 : upd _ D _ = H7
   obtain ⟨e7, hD7⟩ := Vc.chg hu7 hD6
   rw [range_succ_map]
   refine ⟨((e3.ex e5).ex e6).one e7 (.inr nD), ts ++ [t], (((hT.ed e5).ed e6).ed e7).snoc (e7.tup _ _ ht), fun u hu => ?_, by rw [hD7, List.map_append]; rfl⟩
   rcases List.mem_append.mp hu with hu | hu
   ·exact nT u hu
   ·rw [List.mem_singleton.mp hu]; exact e3.dom _ (e5.dom _ nt)
  rintro L H3 nL ⟨e3, ts, hT, nT, hL⟩
  rw [List.length_map, pl] at hT
  have e02 := e1.ex e2
  exact k L ts H3 (e02.ex e3) (e02.dom _ nL) (fun t z => e02.dom _ (nT t z)) hL hT
end
end My
namespace My
open PySem PySem.Spec PyProof.Rows L2
structure SightO where
 p : Addr
 gl : Addr
 il : Addr
 sl : Addr
 us : List Addr
 W : Int
 C : Int
 cells : List Int
 cs : List (List (List Int))
def SightO.fld (o : SightO) : List (Str × V) := [("grid", .ref o.gl), ("cells", .ref o.il), ("shown", .ref o.sl)]
structure ShowAt (H : Hp) (sl : Addr) (us : List Addr) (cs : List (List (List Int))) : Prop where
 sh : H sl = some (.lst (us.map V.ref))
 len : us.length = cs.length
 un : ∀ (j : Nat) (u : Addr) (c : List (List Int)), us[j]? = some u → cs[j]? = some c → ∃ ts, H u = some (.lst (ts.map V.ref)) ∧ TupsAt H ts c
 nd : us.Nodup
 ns : sl ∉ us
structure SightO.At (A : Ad) (H : Hp) (o : SightO) : Prop where
 ob : ∃ dx, H o.p = some (.ins A.C_Sight dx o.fld)
 gr : LayAt A H o.gl o.W o.C
 ce : H o.il = some (.lst (o.cells.map V.int))
 sh : ShowAt H o.sl o.us o.cs
 is : o.il ≠ o.sl
 iu : o.il ∉ o.us
structure SightO.Ok (o : SightO) : Prop where
 w : o.W ∈ UNS
 c : o.C ∈ CHS ∧ ¬ o.C < o.W
 l1 : 1 ≤ o.cells.length
 l24 : o.cells.length ≤ 24
 many : o.cs.length = manyU o.W o.cells.length
 few : ∀ c ∈ o.cs, c.length ≤ 100
 b : ∀ v ∈ o.cells, 0 ≤ v ∧ v ≤ 255
def SightO.own (o : SightO) : List Addr := o.p :: o.gl :: o.il :: o.sl :: o.us
theorem ShowAt.edx {S : List Addr} {H H' : Hp} {sl : Addr} {us : List Addr} {cs : List (List (List Int))} (h : ShowAt H sl us cs) (e : Vc.EdX S H H') (n1 : sl ∉ S) (n2 : ∀ u ∈ us, u ∉ S) : ShowAt H' sl us cs := by
 refine ⟨e.keep _ _ n1 (fun _ z => nomatch z) h.sh, h.len, fun j u c a b => ?_, h.nd, h.ns⟩
 obtain ⟨ts, h1, h2⟩ := h.un j u c a b
 exact ⟨ts, e.keep _ _ (n2 u (List.mem_of_getElem? a)) (fun _ z => nomatch z) h1, h2.edx e⟩
theorem SightO.At.edx {A : Ad} {S : List Addr} {H H' : Hp} {o : SightO} (h : o.At A H) (e : Vc.EdX S H H') (n : ∀ a ∈ o.own, a ∉ S) : o.At A H' := by
 have m : ∀ {a}, a ∈ o.own → a ∉ S := fun z => n _ z
 unfold SightO.own at m
 refine ⟨h.ob.imp fun dx q => e.keep _ _ (m (by simp)) (fun _ z => nomatch z) q, h.gr.imp fun dx q => e.keep _ _ (m (by simp)) (fun _ z => nomatch z) q, e.keep _ _ (m (by simp)) (fun _ z => nomatch z) h.ce, h.sh.edx e (m (by simp)) (fun u hu => m (by simp [hu])), h.is, h.iu⟩
theorem SightO.At.ed0 {A : Ad} {H H' : Hp} {o : SightO} (h : o.At A H) (e : Vc.Ed [] H H') : o.At A H' := h.edx (.of e) fun _ _ z => nomatch z
theorem SightO.At.dom {A : Ad} {H : Hp} {o : SightO} (h : o.At A H) : ∀ a ∈ o.own, ∃ u, H a = some u := by
 intro a ha
 unfold SightO.own at ha
 rcases List.mem_cons.mp ha with rfl | ha
 ·obtain ⟨dx, q⟩ := h.ob; exact ⟨_, q⟩
 rcases List.mem_cons.mp ha with rfl | ha
 ·obtain ⟨dx, q⟩ := h.gr; exact ⟨_, q⟩
 rcases List.mem_cons.mp ha with rfl | ha
 ·exact ⟨_, h.ce⟩
 rcases List.mem_cons.mp ha with rfl | ha
 ·exact ⟨_, h.sh.sh⟩
 obtain ⟨j, hj⟩ := List.mem_iff_getElem?.mp ha
 have jl := (List.getElem?_eq_some_iff.mp hj).1
 obtain ⟨ts, h1, _⟩ := h.sh.un j a _ hj (List.getElem?_eq_getElem (by rw [← h.sh.len]; exact jl))
 exact ⟨_, h1⟩
theorem sight_grid {o : SightO} : o.fld.lookup ("grid" : Str) = some (.ref o.gl) := rfl
theorem sight_cells {o : SightO} : o.fld.lookup ("cells" : Str) = some (.ref o.il) := rfl
theorem sight_shown {o : SightO} : o.fld.lookup ("shown" : Str) = some (.ref o.sl) := rfl
def SightO.settled (o : SightO) : Bool := o.cs.all fun c => decide (c.length = 1)
def spPresent (A : Ad) : Sp := fun vs H Q _ => ∃ o : SightO, vs = [.ref o.p] ∧ o.At A H ∧ o.Ok ∧ ∀ L H', Vc.Ed [] H H' → H L = none → H' L = some (.lst (o.cells.map V.int)) → Q (.ref L) H'
def spSettled (A : Ad) : Sp := fun vs H Q _ => ∃ o : SightO, vs = [.ref o.p] ∧ o.At A H ∧ o.Ok ∧ ∀ H', Vc.Ed [] H H' → Q (.bl o.settled) H'
def spContents (A : Ad) : Sp := fun vs H Q E => ∃ (o : SightO) (k : Int), vs = [.ref o.p, .int k] ∧ o.At A H ∧ o.Ok ∧
 ((k < 0 ∨ k ≥ (o.cs.length : Int)) → ∀ dd H', Vc.Ed [] H H' → H' dd = some (.xd [("at", .int k)]) → E (.ref A.C_BadAddress) (some dd) H') ∧
 (0 ≤ k → ∀ c, o.cs[k.toNat]? = some c → ∀ L ts H', Vc.Ed [] H H' → H L = none → H' L = some (.lst (ts.map V.ref)) → TupsAt H' ts c → Q (.ref L) H')
section
variable {P : Program} {w : World} {K : PySem.W.Frag} {mg : Str → Option Value} {base : Heap} {A : Ad}
theorem ok_Sight_present (T : Txt K mg A) : FnOk P w K mg base CX0 1 A.f_Sight_present A.d_Sight_present ["self"] (spPresent A) := by
 refine T.F_Sight_present.ok sc_Sight_present (fun vs H Q E h => ?_) (fun cdv Ar outer s H vs Q E hr h => ?_)
 ·obtain ⟨o, rfl, _⟩ := h
  rfl
 ·obtain ⟨o, rfl, X, O, k⟩ := h
  obtain ⟨dx, hp⟩ := id X.ob
  have hc := X.ce
  have cl := T.cl_Sight
  have no := T.no_Sight_cells
  have l := sight_cells (o := o)
  refine ⟨_, (pss_one (ps_ret (pe_callTy Vc.call_lstD (by rfl) T.n_list (by decide +kernel) (pa_cons (pe_fld (pv 0) rfl) pa_nil)))), ?_⟩
  walk_at "go"
  intro L nL
  generalize hu1 : upd _ L _ = H1
  obtain ⟨e1, hL⟩ := Vc.alloc hu1 nL
  walk_at "go"
  exact k L H1 e1 nL hL
theorem ok_Sight_settled (T : Txt K mg A) : FnOk P w K mg base CX0 1 A.f_Sight_settled A.d_Sight_settled ["self"] (spSettled A) := by
 refine T.F_Sight_settled.ok sc_Sight_settled (fun vs H Q E h => ?_) (fun cdv Ar outer s H vs Q E hr h => ?_)
 ·obtain ⟨o, rfl, _⟩ := h
  rfl
 ·obtain ⟨o, rfl, X, O, k⟩ := h
  obtain ⟨dx, hp⟩ := id X.ob
  have hs := X.sh.sh
  have cl := T.cl_Sight
  have no := T.no_Sight_shown
  have l := sight_shown (o := o)
  refine ⟨_, (pss_one (ps_ret (pe_callB (cr_all rfl) (by rfl) T.n_all (by decide +kernel) (pa_cons (pe_lc (own := [("some", 1)]) (g := gName 1) rfl sc_Sight_settled.nd (pi_list (pe_fld (pv 0) rfl)) (blkOk_by (own := [("some", 1)]) (N := ["self", "some"]) (sc := defScope s_Sight_settled) (by decide +kernel)) (fun _ _ _ _ _ => by exact (pg_name (i := 1) sc_Sight_settled.nd rfl (Or.inl rfl))) (fun _ _ _ _ _ => by exact pts_nil) (fun _ _ _ _ _ => by (refine' Vc.blkE ?h ?q; (case h => exact (pe_cmpR op_eq (pe_callB call_len_seq (by rfl) T.n_len (by decide +kernel) (pa_cons (pv 1) pa_nil)) pe_int (nomark _))); (case q => first | exact rfl | (dsimp only; done) | (dsimp only; exact rfl))))) pa_nil)))), ?_⟩
  walk_at "go"
  refine ⟨⟨_, .of hs⟩, Vc.lc_by (walk_list (xs := o.us.map V.ref)) (fun D i H' => Vc.Ed [] H H' ∧ H' D = some (.lst (((o.cs.take i).map fun c => decide (c.length = 1)).map V.bl))) (fun D H1 nD e1 hD => ⟨e1, hD⟩) (fun D i H' _ _ q => .of (q.1.at0 hs)) ?_ ?_⟩
  ·rintro D i y H1 H2 nD hi ⟨e1, hD⟩ ⟨rfl, hy⟩
   rw [List.getElem?_map] at hy
   rw [List.length_map] at hi
   obtain ⟨u, hu, rfl⟩ := Option.map_eq_some_iff.mp hy
   have il : i < o.cs.length := by rw [← X.sh.len]; exact hi
   have hc := List.getElem?_eq_getElem il
   obtain ⟨ts, h1, h2⟩ := X.sh.un i u _ hu hc
   have h1 := e1.at0 h1
   have tl := h2.len
   walk_at "go"
   refine ⟨rfl, ?_⟩
   walk_at "go"
   rw [List.length_map, tl]
   refine ⟨_, hD, by rw [List.length_map, List.length_map]; have := List.length_take_le i o.cs; have := (many_eq O.w O.l1).2.2.2; have := O.many; have := O.l24; exact small1000 (by omega), ?_⟩
   generalize hu3 : upd _ D _ = H3
   obtain ⟨e3, hD3⟩ := Vc.chg hu3 hD
   refine ⟨e1.one e3 (.inr nD), ?_⟩
   have e : decide ((o.cs[i].length : Int) = 1) = decide (o.cs[i].length = 1) := decide_eq_decide.mpr (by omega)
   rw [hD3, List.take_add_one, hc, List.map_append, List.map_append, e]; rfl
  rintro D H1 nD ⟨e1, hD⟩
  rw [List.length_map, X.sh.len, List.take_length] at hD
  walk_at "go"
  refine ⟨D, _, rfl, .of hD, ?_⟩
  have e : ((o.cs.map fun c => decide (c.length = 1)).all id) = o.settled := by rw [List.all_map]; rfl
  rw [e]
  exact k H1 e1
theorem ok_Sight_contents (T : Txt K mg A) : FnOk PG w K mg base (CX PG w) 3 A.f_Sight_contents A.d_Sight_contents ["self", "unit"] (spContents A) := by
 have G_BadAddressu_initu := ok_BadAddressu_initu (w := w) (base := base) T
 refine T.F_Sight_contents.okX sc_Sight_contents (fun vs H Q E h => ?_) (fun cdv Ar outer s H vs Q E hr h => ?_)
 ·obtain ⟨o, k, rfl, _⟩ := h
  rfl
 ·obtain ⟨o, n, rfl, X, O, kE, kQ⟩ := h
  obtain ⟨dx, hp⟩ := id X.ob
  have hs := X.sh.sh
  have cl := T.cl_Sight
  have no := T.no_Sight_shown
  have l := sight_shown (o := o)
  refine ⟨_, (pss_cons (ps_if (PW.pt (pw_or (pt_cmpR op_lt (pv 1) pe_int (nomark _)) (pw_or1 (pt_cmpR op_ge (pv 1) (pe_callB call_len_seq (by rfl) T.n_len (by decide +kernel) (pa_cons (pe_fld (pv 0) rfl) pa_nil)) (nomark _))))) (pss_one (Vc.ps_raiseT rfl (takes_of rfl rfl rfl rfl) (pmk_oex T.ox_BadAddress T.i_BadAddress T.ti_BadAddress G_BadAddressu_initu (by exact hr.mono (by decide)) T.b_BadAddressu_initu .nil pass0 (by rfl) T.g_BadAddress (pa_cons (pv 1) pa_nil)))) pss_nil) (pss_one (ps_ret (pe_callTy Vc.call_lstD (by rfl) T.n_list (by decide +kernel) (pa_cons (pe_ix ix_list (pe_fld (pv 0) rfl) (pv 1) (fun _ _ => rfl)) pa_nil))))), ?_⟩
  walk_at "go"
  refine Vc.go_ite (fun g => ?_) (fun g => ?_)
  ·walk_at "go"
   intro dd H1 _ e1 hdd
   exact kE (.inl g) dd H1 e1 hdd
  walk_at "go"
  rw [List.length_map, X.sh.len]
  refine Vc.go_ite (fun g2 => ?_) (fun g2 => ?_)
  ·walk_at "go"
   intro dd H1 _ e1 hdd
   exact kE (.inr g2) dd H1 e1 hdd
  have jl : n.toNat < o.cs.length := by omega
  have hc := List.getElem?_eq_getElem jl
  have jl2 : n.toNat < o.us.length := by rw [X.sh.len]; exact jl
  obtain ⟨u, hu⟩ : ∃ u, o.us[n.toNat]? = some u := ⟨_, List.getElem?_eq_getElem jl2⟩
  obtain ⟨ts, h1, h2⟩ := X.sh.un _ _ _ hu hc
  have ga : atI (o.us.map V.ref) n = some (.ref u) := at_of (z := n) (j := n.toNat) (by omega) (by rw [List.getElem?_map, hu]; rfl)
  walk_at "go"
  intro L nL
  generalize hu1 : upd _ L _ = H1
  obtain ⟨e1, hL⟩ := Vc.alloc hu1 nL
  walk_at "go"
  exact kQ (by omega) _ hc L ts H1 e1 nL hL (h2.ed e1)
end
end My
namespace My
open PySem PySem.Spec PyProof.Rows L2
structure Ones (H0 H : Hp) (D : Addr) (cs : List (List (List Int))) (us : List Addr) : Prop where
 nd : us.Nodup
 nw : ∀ u ∈ us, H0 u = none
 no : D ∉ us
 un : ∀ (j : Nat) (u : Addr) (c : List (List Int)), us[j]? = some u → cs[j]? = some c → ∃ ts : List Addr, H u = some (.lst (ts.map V.ref)) ∧ TupsAt H ts c
 ls : H D = some (.lst (us.map V.ref))
theorem Ones.snoc {H0 H1 H2 : Hp} {D u : Addr} {us ts : List Addr} {cs : List (List (List Int))} {c : List (List Int)} {i : Nat} (X : Ones H0 H1 D cs us) (e0 : Vc.Ed [] H0 H1) (nD : H0 D = none) (l : us.length = i) (hc : cs[i]? = some c) (T : TupsAt H1 ts c) (nu : H1 u = none) (hu : upd (upd H1 u (.lst (ts.map V.ref))) D (.lst (us.map V.ref ++ [.ref u])) = H2) : Vc.Ed [] H0 H2 ∧ Ones H0 H2 D cs (us ++ [u]) := by
 generalize hu1 : upd H1 u (.lst (ts.map V.ref)) = H3 at hu
 obtain ⟨e1, h1⟩ := Vc.alloc hu1 nu
 obtain ⟨e2, h2⟩ := Vc.chg hu (e1.at0 X.ls)
 have uD : u ≠ D := fun z => by rw [z, X.ls] at nu; cases nu
 have il := (List.getElem?_eq_some_iff.mp hc).1
 have nuu : u ∉ us := fun z => by
  obtain ⟨j, hj⟩ := List.mem_iff_getElem?.mp z
  have jl := (List.getElem?_eq_some_iff.mp hj).1
  obtain ⟨ts', h, _⟩ := X.un j u _ hj (List.getElem?_eq_getElem (show j < cs.length by omega))
  rw [h] at nu; cases nu
 refine ⟨(e0.ex e1).one e2 (.inr nD), ⟨List.nodup_append.mpr ⟨X.nd, (by simp), fun a ha b hb z => nuu (by rw [← List.mem_singleton.mp hb, ← z]; exact ha)⟩, fun v hv => ?_, fun z => ?_, fun j v d hj hs => ?_, by rw [h2, List.map_append]; rfl⟩⟩
 ·rcases List.mem_append.mp hv with hv | hv
  ·exact X.nw v hv
  ·rw [List.mem_singleton.mp hv]; exact e0.dom _ nu
 ·rcases List.mem_append.mp z with z | z
  ·exact X.no z
  ·exact uD (List.mem_singleton.mp z).symm
 ·by_cases c : j < us.length
  ·rw [List.getElem?_append_left c] at hj
   have vD : v ≠ D := fun z => X.no (by rw [← z]; exact List.mem_of_getElem? hj)
   obtain ⟨ts', a, b⟩ := X.un j v d hj hs
   exact ⟨ts', e2.at1 vD (e1.at0 a), (b.ed e1).ed e2⟩
  ·rw [List.getElem?_append_right (by omega)] at hj
   have hl := (List.getElem?_eq_some_iff.mp hj).1
   have el : [u].length = 1 := rfl
   have ej : j = i := by omega
   rw [show j - us.length = 0 by omega] at hj
   obtain rfl := Option.some.inj hj
   rw [ej, hc] at hs
   obtain rfl := Option.some.inj hs
   exact ⟨ts, e2.at1 uD h1, (T.ed e1).ed e2⟩
theorem Ones.show {H0 H : Hp} {D : Addr} {us : List Addr} {cs : List (List (List Int))} (X : Ones H0 H D cs us) (l : us.length = cs.length) : ShowAt H D us cs := ⟨X.ls, l, X.un, X.nd, X.no⟩
theorem Ones.nil {H0 H : Hp} {D : Addr} {cs : List (List (List Int))} (h : H D = some (.lst [])) : Ones H0 H D cs [] := ⟨List.nodup_nil, (fun _ z => nomatch z), (fun z => nomatch z), (fun j u t z => by cases z), h⟩
theorem lay_ne {A : Ad} {H : Hp} {o : SightO} {q dx : Addr} {u c : Int} (h : H o.p = some (.ins A.C_Sight dx o.fld)) (L : LayAt A H q u c) : q ≠ o.p := fun z => by
 obtain ⟨dy, hq⟩ := L
 rw [z, h] at hq
 injection hq with hq
 injection hq with _ _ hq
 have := congrArg List.length hq
 cases this
def spSightInit (A : Ad) (K : PySem.W.Frag) : Sp := fun vs H Q _ => ∃ (p dx lay h : Addr) (W C : Int) (vals : List Int), vs = [.ref p, .ref lay, .ref h] ∧ H p = some (.ins A.C_Sight dx []) ∧ LayAt A H lay W C ∧ W ∈ UNS ∧ C ∈ CHS ∧ ¬ C < W ∧ Given A K H h vals ∧ 1 ≤ vals.length ∧ vals.length ≤ 24 ∧ (∀ v ∈ vals, 0 ≤ v ∧ v ≤ 255) ∧
 ∀ (o : SightO) H', Vc.Ed [p] H H' → o.p = p → o.W = W → o.cells = vals → o.cs = (unitsOf W vals).map (fun c => [c]) → (∀ a ∈ o.own, a = p ∨ H a = none) → o.At A H' → o.Ok → Q .non H'
theorem units_len (W : Int) (vals : List Int) : (unitsOf W vals).length = manyU W vals.length := by unfold unitsOf; rw [List.length_map, List.length_range]
def spSightSync (A : Ad) : Sp := fun vs H Q _ => ∃ o : SightO, vs = [.ref o.p] ∧ o.At A H ∧ o.Ok ∧ ∀ (o' : SightO) H', Vc.Ed [o.p] H H' → o'.p = o.p → o'.gl = o.gl → o'.il = o.il → o'.W = o.W → o'.cells = o.cells → o'.cs = (unitsOf o.W o.cells).map (fun c => [c]) → H o'.sl = none → (∀ u ∈ o'.us, H u = none) → o'.At A H' → o'.Ok → Q .non H'
section
variable {P : Program} {w : World} {K : PySem.W.Frag} {mg : Str → Option Value} {base : Heap} {A : Ad}
theorem ok_Sight_sync (T : Txt K mg A) : FnOk PG w K mg base CX0 4 A.f_Sight_sync A.d_Sight_sync ["self"] (spSightSync A) := by
 have G_split_units := ok_split_units (w := w) (base := base) T
 refine T.F_Sight_sync.ok sc_Sight_sync (fun vs H Q E h => ?_) (fun cdv Ar outer s H vs Q E hr h => ?_)
 ·obtain ⟨o, rfl, _⟩ := h
  rfl
 ·obtain ⟨o, rfl, X, O, k⟩ := h
  obtain ⟨dx, hp⟩ := id X.ob
  have cl := T.cl_Sight
  have no1 := T.no_Sight_cells
  have no2 := T.no_Sight_grid
  have no3 := T.no_Sight_shown
  have l1 := sight_cells (o := o)
  have l2 := sight_grid (o := o)
  refine ⟨_, (pss_one (ps_fld (pv 0) (pe_lc (own := [("content", 1)]) (g := gName 1) rfl sc_Sight_sync.nd (pi_list (pe_call G_split_units (by exact hr.mono (by decide)) (by rfl) T.g_split_units T.F_split_units.kp T.b_split_units .nil pass0 (pa_cons (pe_fld (pv 0) rfl) (pa_cons (pe_fld (pv 0) rfl) pa_nil)))) (blkOk_by (own := [("content", 1)]) (N := ["self", "content"]) (sc := defScope s_Sight_sync) (by decide +kernel)) (fun _ _ _ _ _ => by exact (pg_name (i := 1) sc_Sight_sync.nd rfl (Or.inl rfl))) (fun _ _ _ _ _ => by exact pts_nil) (fun _ _ _ _ _ => by (refine' Vc.blkE ?h ?q; (case h => exact (pe_lst (pa_cons (pv 1) pa_nil))); (case q => first | exact rfl | (dsimp only; done) | (dsimp only; exact rfl))))) rfl)), ?_⟩
  walk_at "go"
  refine ⟨o.gl, o.il, o.W, o.C, o.cells, rfl, X.gr, O.w, .of X.ce, O.l1, O.l24, fun L ts H1 e1 nL nT hL hT => ?_⟩
  have tl : ts.length = manyU o.W o.cells.length := by rw [hT.len, units_len]
  have mm := many_eq O.w O.l1
  have l24 := O.l24
  walk_at "go"
  have cc : ∀ (i : Nat) (t : Addr) H', TupsAt H' ts (unitsOf o.W o.cells) → ts[i]? = some t → ∃ c, ((unitsOf o.W o.cells).map fun c => [c])[i]? = some c ∧ TupsAt H' [t] c := fun i t H' hT ht => by
   have il := (List.getElem?_eq_some_iff.mp ht).1
   have h0 := List.getElem?_eq_getElem (show i < (unitsOf o.W o.cells).length by rw [← hT.len]; exact il)
   refine ⟨_, by rw [List.getElem?_map, h0]; rfl, ⟨rfl, fun j t d a b => ?_⟩⟩
   match j, a, b with
   | 0, a, b =>
    obtain rfl := Option.some.inj a
    obtain rfl := Option.some.inj b
    exact hT.at_ i _ _ ht h0
  refine ⟨⟨_, .of hL⟩, Vc.lc_by (walk_list (xs := ts.map V.ref)) (fun D i H' => Vc.Ed [] H1 H' ∧ H1 D = none ∧ ∃ us, us.length = i ∧ Ones H1 H' D ((unitsOf o.W o.cells).map fun c => [c]) us) (fun D H2 nD e2 hD => ⟨e2, nD, [], rfl, .nil hD⟩) (fun D i H' _ _ q => .of (q.1.at0 hL)) ?_ ?_⟩
  ·rintro D i y H2 H3 nD hi ⟨e2, nD1, us, ul, hO⟩ ⟨rfl, hy⟩
   rw [List.getElem?_map] at hy
   rw [List.length_map] at hi
   obtain ⟨t, ht, rfl⟩ := Option.map_eq_some_iff.mp hy
   walk_at "go"
   refine ⟨rfl, ?_⟩
   walk_at "go"
   intro u nu
   generalize hu3 : upd _ u _ = H4
   obtain ⟨e4, hu4⟩ := Vc.alloc hu3 nu
   walk_at "go"
   refine ⟨_, e4.at0 hO.ls, by rw [List.length_map, ul]; exact small1000 (by omega), ?_⟩
   subst hu3
   obtain ⟨c, hc, hTc⟩ := cc i t _ (hT.ed e2) ht
   obtain ⟨a, b⟩ := hO.snoc e2 nD1 ul hc hTc nu rfl
   exact ⟨a, nD1, us ++ [u], by rw [List.length_append, ul]; rfl, b⟩
  rintro D H2 nD ⟨e2, nD1, us, ul, hO⟩
  rw [List.length_map] at ul
  have sh := hO.show (by rw [List.length_map, units_len, ul, tl])
  have e02 := e1.ex e2
  have hp2 := e02.at0 hp
  walk_at "go"
  generalize hu3 : upd _ o.p _ = H3
  obtain ⟨e3, hp3⟩ := Vc.chg hu3 hp2
  have e03 : Vc.Ed [o.p] H H3 := (e02.mono fun _ z => nomatch z).trans e3 fun a z => .inl z
  have m1 : ∀ {a : Addr}, a ≠ o.p → a ∉ [o.p] := fun n z => n (List.mem_singleton.mp z)
  have Dp_ : D ≠ o.p := fun z => by rw [z, e1.at0 hp] at nD1; cases nD1
  have up_ : ∀ u ∈ us, u ≠ o.p := fun u hu z => by have := hO.nw u hu; rw [z, e1.at0 hp] at this; cases this
  have gp := lay_ne hp X.gr
  have ip : o.il ≠ o.p := fun z => by have := X.ce; rw [z, hp] at this; cases this
  refine k ⟨o.p, o.gl, o.il, D, us, o.W, o.C, o.cells, (unitsOf o.W o.cells).map fun c => [c]⟩ H3 e03 rfl rfl rfl rfl rfl rfl (e1.dom _ nD1) (fun u hu => e1.dom _ (hO.nw u hu)) ⟨⟨dx, hp3⟩, X.gr.imp fun dy q => e03.at1 gp q, e03.at1 ip X.ce, sh.edx (.of e3) (m1 Dp_) (fun u hu => m1 (up_ u hu)), fun z => ?_, fun z => ?_⟩ ⟨O.w, O.c, O.l1, O.l24, by rw [List.length_map, units_len], fun c hc => ?_, O.b⟩
  ·rw [← (show o.il = D from z), e1.at0 X.ce] at nD1; cases nD1
  ·have := hO.nw _ z
   rw [e1.at0 X.ce] at this; cases this
  ·obtain ⟨d, _, rfl⟩ := List.mem_map.mp hc
   show 1 ≤ 100; omega
theorem ok_Sightu_initu (T : Txt K mg A) : FnOk PG w K mg base CX0 6 A.f_Sightu_initu A.d_Sightu_initu ["self", "layout", "values"] (spSightInit A K) := by
 have G_split_units := ok_split_units (w := w) (base := base) T
 have G_Layoutu_initu := ok_Layoutu_initu (w := w) (base := base) T
 have G_Layout_unit := ok_Layout_unit (w := w) (base := base) T
 have G_Layout_chunk := ok_Layout_chunk (w := w) (base := base) T
 refine T.F_Sightu_initu.ok sc_Sightu_initu (fun vs H Q E h => ?_) (fun cdv Ar outer s H vs Q E hr h => ?_)
 ·obtain ⟨p, dx, lay, h, W, C, vals, rfl, _⟩ := h
  rfl
 ·obtain ⟨p, dx, lay, h, W, C, vals, rfl, hp, hL, hW, hC, hCW, G, l1, l24, vb, k⟩ := h
  have cl := T.cl_Sight
  have no1 := T.no_Sight_cells
  have no2 := T.no_Sight_grid
  have no3 := T.no_Sight_shown
  have cll := T.cl_Layout
  obtain ⟨dl, hl⟩ := id hL
  refine ⟨_, (pss_cons (ps_fld (pv 0) (pe_make T.mk_Layout G_Layoutu_initu (by exact hr.mono (by decide)) (by rfl) T.g_Layout T.b_Layoutu_initu .nil passL (pa_cons (pe_prop (pv 1) T.cl_Layout T.p_Layout_unit G_Layout_unit (by exact hr.mono (by decide)) T.b_Layout_unit .nil pass0 (by rfl)) (pa_cons (pe_prop (pv 1) T.cl_Layout T.p_Layout_chunk G_Layout_chunk (by exact hr.mono (by decide)) T.b_Layout_chunk .nil pass0 (by rfl)) pa_nil))) rfl) (pss_cons (ps_fld (pv 0) (pe_callTy Vc.call_lstD (by rfl) T.n_list (by decide +kernel) (pa_cons (pv 2) pa_nil)) rfl) (pss_one (ps_fld (pv 0) (pe_lc (own := [("content", 3)]) (g := gName 3) rfl sc_Sightu_initu.nd (pi_list (pe_call G_split_units (by exact hr.mono (by decide)) (by rfl) T.g_split_units T.F_split_units.kp T.b_split_units .nil pass0 (pa_cons (pe_fld (pv 0) rfl) (pa_cons (pe_fld (pv 0) rfl) pa_nil)))) (blkOk_by (own := [("content", 3)]) (N := ["self", "layout", "values", "content"]) (sc := defScope s_Sightu_initu) (by decide +kernel)) (fun _ _ _ _ _ => by exact (pg_name (i := 3) sc_Sightu_initu.nd rfl (Or.inl rfl))) (fun _ _ _ _ _ => by exact pts_nil) (fun _ _ _ _ _ => by (refine' Vc.blkE ?h ?q; (case h => exact (pe_lst (pa_cons (pv 3) pa_nil))); (case q => first | exact rfl | (dsimp only; done) | (dsimp only; exact rfl))))) rfl)))), ?_⟩
  walk_at "go"
  refine ⟨lay, W, C, rfl, hL, ?_⟩
  walk_at "go"
  refine ⟨lay, W, C, rfl, hL, ?_⟩
  walk_at "go"
  intro gl gx ngl ngx ne
  generalize hu1 : upd _ gl _ = H1
  obtain ⟨e1, h1, _⟩ := Vc.allocI hu1 ngl ngx ne
  have le : layErr W C = none := by unfold layErr; rw [if_neg (fun z => z hW), if_neg (fun z => z.elim (fun z => z hC) hCW)]
  refine ⟨gl, gx, W, C, rfl, h1, fun e z => (by rw [le] at z; cases z), fun _ H2 e2 L2_ => ⟨rfl, ?_⟩⟩
  have e02 : Vc.Ed [] H H2 := e1.one e2 (.inr ngl)
  have hp2 := e02.at0 hp
  walk_at "go"
  generalize hu3 : upd _ p _ = H3
  obtain ⟨e3, hp3⟩ := Vc.chg hu3 hp2
  have G3 := Given.ins hp2 e3 (G.ed0 e02)
  have gp : gl ≠ p := fun z => by rw [z, hp] at ngl; cases ngl
  have L3 : LayAt A H3 gl W C := L2_.imp fun dy q => e3.at1 gp q
  refine given_any G3 (by omega) fun il H4 nil e4 hil => ?_
  have hp4 := e4.at0 hp3
  have nip : il ≠ p := fun z => by rw [z, hp3] at nil; cases nil
  walk_at "go"
  generalize hu5 : upd _ p _ = H5
  obtain ⟨e5, hp5⟩ := Vc.chg hu5 hp4
  have hil5 := e5.at1 nip hil
  have L5 : LayAt A H5 gl W C := L3.imp fun dy q => e5.at1 gp (e4.at0 q)
  have e05 : Vc.Ed [p] H H5 := (((e02.mono fun _ z => nomatch z).trans e3 fun a z => .inl z).ex e4).trans e5 fun a z => .inl z
  have ggrid : (putF "cells" (.ref il) (putF "grid" (.ref gl) []) : List (Str × V)).lookup ("grid" : Str) = some (.ref gl) := rfl
  have gcell : (putF "cells" (.ref il) (putF "grid" (.ref gl) []) : List (Str × V)).lookup ("cells" : Str) = some (.ref il) := rfl
  walk_at "go"
  refine ⟨gl, il, W, C, vals, rfl, L5, hW, .of hil5, l1, l24, fun L ts H6 e6 nL nT hL6 hT => ?_⟩
  have tl : ts.length = manyU W vals.length := by rw [hT.len, units_len]
  have mm := many_eq hW l1
  have cc : ∀ (i : Nat) (t : Addr) H', TupsAt H' ts (unitsOf W vals) → ts[i]? = some t → ∃ c, ((unitsOf W vals).map fun c => [c])[i]? = some c ∧ TupsAt H' [t] c := fun i t H' hT ht => by
   have il := (List.getElem?_eq_some_iff.mp ht).1
   have h0 := List.getElem?_eq_getElem (show i < (unitsOf W vals).length by rw [← hT.len]; exact il)
   refine ⟨_, by rw [List.getElem?_map, h0]; rfl, ⟨rfl, fun j t d a b => ?_⟩⟩
   match j, a, b with
   | 0, a, b =>
    obtain rfl := Option.some.inj a
    obtain rfl := Option.some.inj b
    exact hT.at_ i _ _ ht h0
  walk_at "go"
  refine ⟨⟨_, .of hL6⟩, Vc.lc_by (walk_list (xs := ts.map V.ref)) (fun D i H' => Vc.Ed [] H6 H' ∧ H6 D = none ∧ ∃ us, us.length = i ∧ Ones H6 H' D ((unitsOf W vals).map fun c => [c]) us) (fun D H2 nD e2 hD => ⟨e2, nD, [], rfl, .nil hD⟩) (fun D i H' _ _ q => .of (q.1.at0 hL6)) ?_ ?_⟩
  ·rintro D i y H7 H8 nD hi ⟨e7, nD1, us, ul, hO⟩ ⟨rfl, hy⟩
   rw [List.getElem?_map] at hy
   rw [List.length_map] at hi
   obtain ⟨t, ht, rfl⟩ := Option.map_eq_some_iff.mp hy
   walk_at "go"
   refine ⟨rfl, ?_⟩
   walk_at "go"
   intro u nu
   generalize hu9 : upd _ u _ = H9
   obtain ⟨e9, hu9_⟩ := Vc.alloc hu9 nu
   walk_at "go"
   refine ⟨_, e9.at0 hO.ls, by rw [List.length_map, ul]; exact small1000 (by omega), ?_⟩
   subst hu9
   obtain ⟨c, hc, hTc⟩ := cc i t _ (hT.ed e7) ht
   obtain ⟨a, b⟩ := hO.snoc e7 nD1 ul hc hTc nu rfl
   exact ⟨a, nD1, us ++ [u], by rw [List.length_append, ul]; rfl, b⟩
  rintro D H7 nD ⟨e7, nD1, us, ul, hO⟩
  rw [List.length_map] at ul
  have sh := hO.show (by rw [List.length_map, units_len, ul, tl])
  have e57 := e6.ex e7
  have hp7 := e57.at0 hp5
  walk_at "go"
  generalize hu8 : upd _ p _ = H8
  obtain ⟨e8, hp8⟩ := Vc.chg hu8 hp7
  have e08 : Vc.Ed [p] H H8 := (e05.ex e57).trans e8 fun a z => .inl z
  have m1 : ∀ {a : Addr}, a ≠ p → a ∉ [p] := fun n z => n (List.mem_singleton.mp z)
  have hp6 := e6.at0 hp5
  have Dp_ : D ≠ p := fun z => by rw [z, hp6] at nD1; cases nD1
  have up_ : ∀ u ∈ us, u ≠ p := fun u hu z => by have := hO.nw u hu; rw [z, hp6] at this; cases this
  have hil6 := e6.at0 hil5
  have n5 : ∀ {a : Addr}, a ≠ p → H5 a = none → H a = none := fun n h => e05.dom _ h
  refine k ⟨p, gl, il, D, us, W, C, vals, (unitsOf W vals).map fun c => [c]⟩ H8 e08 rfl rfl rfl rfl (fun a ha => ?_) ⟨⟨dx, hp8⟩, L5.imp fun dy q => e8.at1 gp (e57.at0 q), e8.at1 nip (e57.at0 hil5), sh.edx (.of e8) (m1 Dp_) (fun u hu => m1 (up_ u hu)), fun z => ?_, fun z => ?_⟩ ⟨hW, ⟨hC, hCW⟩, l1, l24, by rw [List.length_map, units_len], fun c hc => ?_, vb⟩
  ·have ha : a ∈ p :: gl :: il :: D :: us := ha
   rcases List.mem_cons.mp ha with rfl | ha
   ·exact .inl rfl
   rcases List.mem_cons.mp ha with rfl | ha
   ·exact .inr ngl
   rcases List.mem_cons.mp ha with rfl | ha
   ·exact .inr (e02.dom _ (e3.dom _ nil))
   rcases List.mem_cons.mp ha with rfl | ha
   ·exact .inr (e05.dom _ (e6.dom _ nD1))
   ·exact .inr (e05.dom _ (e6.dom _ (hO.nw _ ha)))
  ·rw [← (show il = D from z), hil6] at nD1; cases nD1
  ·have := hO.nw _ z
   rw [hil6] at this; cases this
  ·obtain ⟨d, _, rfl⟩ := List.mem_map.mp hc
   show 1 ≤ 100; omega
end
end My
namespace My
open PySem PySem.Spec PyProof.Rows L2
def badW (a k n : Int) : Option Int := if a < 0 ∨ a ≥ n then some a else if a + k > n then some n else none
def addC (cs : List (List (List Int))) (xs : List (List Int)) : List (List (List Int)) := List.zipWith (fun c x => if x ∈ c then c else c ++ [x]) cs xs
theorem addC_get {cs : List (List (List Int))} {xs : List (List Int)} {i : Nat} {c : List (List Int)} {x : List Int} (hc : cs[i]? = some c) (hx : xs[i]? = some x) : (addC cs xs)[i]? = some (if x ∈ c then c else c ++ [x]) := by
 unfold addC
 rw [List.getElem?_zipWith, hc, hx]
theorem addC_len {cs : List (List (List Int))} {xs : List (List Int)} (h : cs.length = xs.length) : (addC cs xs).length = cs.length := by
 unfold addC
 rw [List.length_zipWith, ← h, Nat.min_self]
theorem addC_mem : ∀ {cs : List (List (List Int))} {xs : List (List Int)} {c : List (List Int)}, c ∈ addC cs xs → ∃ d ∈ cs, c.length ≤ d.length + 1
 | [], _, _, h => by simp [addC] at h
 | _ :: _, [], _, h => by simp [addC] at h
 | a :: cs, x :: xs, c, h => by
  rcases List.mem_cons.mp (show c ∈ (if x ∈ a then a else a ++ [x]) :: addC cs xs from h) with h | h
  ·refine ⟨a, List.mem_cons_self, ?_⟩
   rw [h]
   split
   ·omega
   ·rw [List.length_append]; exact Nat.le_refl _
  ·obtain ⟨d, hd, l⟩ := addC_mem h
   exact ⟨d, List.mem_cons_of_mem _ hd, l⟩
def SightO.wrote (o : SightO) (a : Int) (ws : List Int) : SightO := { o with cells := o.cells.take a.toNat ++ ws ++ o.cells.drop (a.toNat + ws.length), cs := addC o.cs (unitsOf o.W (o.cells.take a.toNat ++ ws ++ o.cells.drop (a.toNat + ws.length))) }
def spSightWrite (A : Ad) (K : PySem.W.Frag) : Sp := fun vs H Q E => ∃ (o : SightO) (a : Int) (h : Addr) (ws : List Int), vs = [.ref o.p, .int a, .ref h] ∧ o.At A H ∧ o.Ok ∧ (∀ c ∈ o.cs, c.length < 90) ∧ Given A K H h ws ∧ 1 ≤ ws.length ∧ ws.length ≤ 30 ∧ (∀ v ∈ ws, 0 ≤ v ∧ v ≤ 255) ∧ -1000 ≤ a ∧ a ≤ 1000 ∧
 (∀ x dd H', badW a ws.length o.cells.length = some x → Vc.Ed [] H H' → H' dd = some (.xd [("at", .int x)]) → E (.ref A.C_BadAddress) (some dd) H') ∧
 (badW a ws.length o.cells.length = none → ∀ H', Vc.Ed (o.il :: o.us) H H' → (o.wrote a ws).At A H' → (o.wrote a ws).Ok → Q .non H')
section
variable {P : Program} {w : World} {K : PySem.W.Frag} {mg : Str → Option Value} {base : Heap} {A : Ad}
theorem ok_Sight_write (T : Txt K mg A) : FnOk PG w K mg base (CX PG w) 5 A.f_Sight_write A.d_Sight_write ["self", "address", "values"] (spSightWrite A K) := by
 have G_split_units := ok_split_units (w := w) (base := base) T
 have G_BadAddressu_initu := ok_BadAddressu_initu (w := w) (base := base) T
 refine T.F_Sight_write.okX sc_Sight_write (fun vs H Q E h => ?_) (fun cdv Ar outer s H vs Q E hr h => ?_)
 ·obtain ⟨o, a, h, ws, rfl, _⟩ := h
  rfl
 ·obtain ⟨o, a, h, ws, rfl, X, O, few, G, wl1, wl, wb, a0, a1, kE, kQ⟩ := h
  obtain ⟨dx, hp⟩ := id X.ob
  have ol := O.l24
  have cl := T.cl_Sight
  have no1 := T.no_Sight_cells
  have no2 := T.no_Sight_grid
  have no3 := T.no_Sight_shown
  have l1 := sight_cells (o := o)
  have l2 := sight_grid (o := o)
  have l3 := sight_shown (o := o)
  have hu := hu_of hr
  refine ⟨_, (pss_cons (ps_set (i := 3) sc_Sight_write.nd rfl (Or.inl rfl) (pe_callTy Vc.call_lstD (by rfl) T.n_list (by decide +kernel) (pa_cons (pv 2) pa_nil))) (pss_cons (ps_for (passes_of rfl) rfl (Vc.pi_rangeL (by rfl) T.n_range (pa_cons (pv 1) (pa_cons (pe_op op_add (pv 1) (pe_callB call_len_seq (by rfl) T.n_len (by decide +kernel) (pa_cons (pv 3) pa_nil))) pa_nil))) (pg_name (i := 4) sc_Sight_write.nd rfl (Or.inl rfl)) (pss_one (ps_if (PW.pt (pw_or (pt_cmpR op_lt (pv 4) pe_int (nomark _)) (pw_or1 (pt_cmpR op_ge (pv 4) (pe_callB call_len_seq (by rfl) T.n_len (by decide +kernel) (pa_cons (pe_fld (pv 0) rfl) pa_nil)) (nomark _))))) (pss_one (Vc.ps_raiseT rfl (takes_of rfl rfl rfl rfl) (pmk_oex T.ox_BadAddress T.i_BadAddress T.ti_BadAddress G_BadAddressu_initu (by exact hr.mono (by decide)) T.b_BadAddressu_initu .nil pass0 (by rfl) T.g_BadAddress (pa_cons (pv 4) pa_nil)))) pss_nil))) (pss_cons (ps_asg (pv 3) (Vc.pg_slice (pe_fld (pv 0) rfl) (po_some (pv 1)) (po_some (pe_op op_add (pv 1) (pe_callB call_len_seq (by rfl) T.n_len (by decide +kernel) (pa_cons (pv 3) pa_nil)))))) (pss_one (ps_for (passes_of rfl) rfl (pi_enum (by rfl) T.n_enumerate (pa_cons (pe_call G_split_units (by exact hr.mono (by decide)) (by rfl) T.g_split_units T.F_split_units.kp T.b_split_units .nil pass0 (pa_cons (pe_fld (pv 0) rfl) (pa_cons (pe_fld (pv 0) rfl) pa_nil))) pa_nil)) (pg_tup rfl (pgs_cons (pg_name (i := 5) sc_Sight_write.nd rfl (Or.inl rfl)) (pgs_cons (pg_name (i := 6) sc_Sight_write.nd rfl (Or.inl rfl)) pgs_nil))) (pss_one (ps_if (pt_cmpR (op_notInD (by exact room65 hr)) (pv 6) (pe_ix ix_list (pe_fld (pv 0) rfl) (pv 5) (fun _ _ => rfl)) (by rfl)) (pss_one (ps_expr (pe_bm PySem.F.plainAttrs_list PySem.F.slot_list_append PySem.F.type_list_append mt_append (pe_ix ix_list (pe_fld (pv 0) rfl) (pv 5) (fun _ _ => rfl)) (pa_cons (pv 6) pa_nil)))) pss_nil))))))), ?_⟩
  walk_at "go"
  intro L nL
  generalize hu9 : upd _ L _ = H1
  obtain ⟨e1, hL⟩ := Vc.alloc hu9 nL
  have X1 := X.ed0 e1
  obtain ⟨dx1, hp1⟩ := id X1.ob
  have hc1 := X1.ce
  walk_at "go"
  rw [List.length_map]
  refine for_it walk_range (fun j σ H' => (∃ y4 : Option V, σ = [some (.ref o.p), some (.int a), some (.ref h), some (.ref L), y4, none, none]) ∧ H' = H1 ∧ (1 ≤ j → 0 ≤ a ∧ a + j ≤ o.cells.length)) ⟨⟨none, rfl⟩, rfl, fun z => by omega⟩ (fun _ _ _ _ _ => trivial) ?_ ?_
  ·rintro j v σ H2 H3 hj ⟨⟨y4, rfl⟩, rfl, ok⟩ ⟨rfl, hv⟩
   have hj : j < ((a + (ws.length : Int)) - a).toNat := by simpa using hj
   obtain rfl : v = .int (a + j) := hv
   have bad : (a + j < 0 ∨ a + j ≥ o.cells.length) → ∀ dd H', Vc.Ed [] H3 H' → H' dd = some (.xd [("at", .int (a + j))]) → E (.ref A.C_BadAddress) (some dd) H' := fun c dd H' e hd => by
    refine kE (a + j) dd H' ?_ (e1.ex e) hd
    unfold badW
    rcases Nat.eq_zero_or_pos j with z | z
    ·subst z
     rw [if_pos (by omega)]
     congr 1; omega
    ·have := ok z
     rw [if_neg (by omega), if_pos (by omega)]
     congr 1; omega
   walk_at "go"
   refine Vc.go_ite (fun g => ?_) (fun g => ?_)
   ·walk_at "go"
    intro dd H5 _ e5 hdd
    exact bad (.inl g) dd H5 e5 hdd
   walk_at "go"
   rw [List.length_map]
   refine Vc.go_ite (fun g2 => ?_) (fun g2 => ?_)
   ·walk_at "go"
    intro dd H5 _ e5 hdd
    exact bad (.inr g2) dd H5 e5 hdd
   walk_at "go"
   exact ⟨⟨_, rfl⟩, rfl, fun _ => by omega⟩
  rintro σ H2 ⟨⟨y4, rfl⟩, rfl, ok⟩
  have ok := ok (by omega)
  have nb : badW a ws.length o.cells.length = none := by unfold badW; rw [if_neg (by omega), if_neg (by omega)]
  have kQ := kQ nb
  clear kE
  obtain ⟨an, rfl⟩ : ∃ an : Nat, a = an := ⟨a.toNat, by omega⟩
  have an1 : an + ws.length ≤ o.cells.length := by omega
  have nil : L ≠ o.il := fun z => by rw [z, X.ce] at nL; cases nL
  walk_at "go"
  refine Vc.go_gSlc ?_
  walk_at "go"
  rw [List.length_map]
  refine Vc.go_slc nil.symm hc1 hL (by omega) (by omega) (by rw [List.length_map]; omega) (by rw [List.length_map, List.length_map]; omega) ?_
  rw [← List.map_take, ← List.map_drop, ← List.map_append, ← List.map_append, show ((an : Int) + (ws.length : Int)).toNat = an + ws.length by omega, Int.toNat_natCast]
  generalize hu4 : upd _ o.il _ = H4
  obtain ⟨e4, hc4⟩ := Vc.chg hu4 hc1
  have pil : o.p ≠ o.il := fun z => by rw [z, hc1] at hp1; cases hp1
  have gil : o.gl ≠ o.il := fun z => by obtain ⟨dy, q⟩ := X1.gr; rw [z, hc1] at q; cases q
  have hp4 := e4.at1 pil hp1
  have gr4 : LayAt A H4 o.gl o.W o.C := X1.gr.imp fun dy q => e4.at1 gil q
  have sh4 : ShowAt H4 o.sl o.us o.cs := X1.sh.edx (.of e4) (fun z => X.is (List.mem_singleton.mp z).symm) (fun u hu z => X.iu (by rw [← List.mem_singleton.mp z]; exact hu))
  have nl : (o.cells.take an ++ ws ++ o.cells.drop (an + ws.length)).length = o.cells.length := by rw [List.length_append, List.length_append, List.length_take, List.length_drop]; omega
  have nby : ∀ v ∈ o.cells.take an ++ ws ++ o.cells.drop (an + ws.length), 0 ≤ v ∧ v ≤ 255 := fun v hv => by
   rcases List.mem_append.mp hv with hv | hv
   ·rcases List.mem_append.mp hv with hv | hv
    ·exact O.b v (List.mem_of_mem_take hv)
    ·exact wb v hv
   ·exact O.b v (List.mem_of_mem_drop hv)
  unfold SightO.wrote at kQ
  rw [Int.toNat_natCast] at kQ
  generalize o.cells.take an ++ ws ++ o.cells.drop (an + ws.length) = new at hc4 hu4 nl nby kQ
  walk_at "go"
  show tCons (tCall (spSplit A K) [] E0 (tCons _ (tCons _ tNil))) tNil _ H4 _
  walk_at "go"
  refine ⟨o.gl, o.il, o.W, o.C, new, rfl, gr4, O.w, .of hc4, by rw [nl]; exact O.l1, by rw [nl]; exact O.l24, fun S ts H5 e5 nS nT hS hT => ?_⟩
  have hs5 := e5.at0 sh4.sh
  have hp5 := e5.at0 hp4
  have mx : (unitsOf o.W new).length = o.cs.length := by rw [units_len, nl, O.many]
  have tl : ts.length = o.cs.length := by rw [hT.len, mx]
  have ul := X.sh.len
  have uk : ∀ u ∈ o.us, ∃ v, H4 u = some v := fun u hu => by
   obtain ⟨j, hj⟩ := List.mem_iff_getElem?.mp hu
   have jl := (List.getElem?_eq_some_iff.mp hj).1
   obtain ⟨ts', h1, _⟩ := sh4.un j u _ hj (List.getElem?_eq_getElem (show j < o.cs.length by omega))
   exact ⟨_, h1⟩
  have nSu : S ∉ o.us := fun z => by obtain ⟨v, hv⟩ := uk S z; rw [nS] at hv; cases hv
  have npu : o.p ∉ o.us := fun z => by
   obtain ⟨j, hj⟩ := List.mem_iff_getElem?.mp z
   have jl := (List.getElem?_eq_some_iff.mp hj).1
   obtain ⟨ts', h1, _⟩ := sh4.un j _ _ hj (List.getElem?_eq_getElem (show j < o.cs.length by omega))
   rw [hp4] at h1; cases h1
  have ngu : o.gl ∉ o.us := fun z => by
   obtain ⟨j, hj⟩ := List.mem_iff_getElem?.mp z
   have jl := (List.getElem?_eq_some_iff.mp hj).1
   obtain ⟨ts', h1, _⟩ := sh4.un j _ _ hj (List.getElem?_eq_getElem (show j < o.cs.length by omega))
   obtain ⟨dy, q⟩ := gr4
   rw [q] at h1; cases h1
  refine ⟨S, _, rfl, .of hS, for_it walk_enum (fun i σ H' => (∃ y5 y6 : Option V, σ = [some (.ref o.p), some (.int an), some (.ref h), some (.ref L), y4, y5, y6]) ∧ Vc.Ed o.us H5 H' ∧ ∀ (j : Nat) (u : Addr) (c : List (List Int)), o.us[j]? = some u → (if j < i then (addC o.cs (unitsOf o.W new))[j]? else o.cs[j]?) = some c → ∃ ts : List Addr, H' u = some (.lst (ts.map V.ref)) ∧ TupsAt H' ts c) ⟨⟨none, none, rfl⟩, .refl, fun j u c hu hc => by rw [if_neg (by omega)] at hc; exact (sh4.edx (.of e5) (fun z => nomatch z) (fun _ _ z => nomatch z)).un j u c hu hc⟩ (fun i σ' H' _ h => .of (h.2.1.keep _ _ nSu hS)) (fun i v σ' H' H6 hi hp hy => ?_) fun σ' H' hp => ?_⟩
  ·obtain ⟨⟨y, z, rfl⟩, e6, iv⟩ := hp
   obtain ⟨q, a', b, rfl, nq, rfl, ha, hbx⟩ := hy
   cases ha
   have hbx : (ts.map V.ref)[i]? = some b := hbx
   rw [List.getElem?_map] at hbx
   obtain ⟨t, ht, rfl⟩ := Option.map_eq_some_iff.mp hbx
   have il := (List.getElem?_eq_some_iff.mp ht).1
   have hx := List.getElem?_eq_getElem (show i < (unitsOf o.W new).length by omega)
   have hc := List.getElem?_eq_getElem (show i < o.cs.length by omega)
   have hu := List.getElem?_eq_getElem (show i < o.us.length by omega)
   generalize (unitsOf o.W new)[i] = x at hx
   generalize o.cs[i] = c at hc
   generalize o.us[i] = u at hu
   have htx := e6.tup _ _ (hT.at_ i t x ht hx)
   obtain ⟨tsu, h1, h2⟩ := iv i u c hu (by rw [if_neg (by omega)]; exact hc)
   have uin := List.mem_of_getElem? hu
   have hs6 := e6.keep _ _ X.sh.ns hs5
   have hp6 := e6.keep _ _ npu hp5
   have few6 := few c (List.mem_of_getElem? hc)
   have ga : atI (o.us.map V.ref) (i : Nat) = some (.ref u) := at_of (z := (i : Nat)) (j := i) rfl (by rw [List.getElem?_map, hu]; rfl)
   generalize hu7 : upd _ q _ = H7
   obtain ⟨e7, hq⟩ := Vc.alloc hu7 nq
   have h17 := e7.at0 h1
   have hs7 := e7.at0 hs6
   have hp7 := e7.at0 hp6
   refine ⟨q, _, rfl, .of hq, rfl, _, _, rfl, ?_⟩
   walk_at "go"
   refine ⟨_, _, rfl, ?_⟩
   walk_at "go"
   refine ⟨rfl, ?_⟩
   walk_at "go"
   have hT7 := h2.ed e7
   have htx7 := e7.tup _ _ htx
   have old : ∀ (j : Nat) (v : Addr) (d : List (List Int)), j ≠ i → o.us[j]? = some v → (if j < i + 1 then (addC o.cs (unitsOf o.W new))[j]? else o.cs[j]?) = some d → ∃ ts : List Addr, H7 v = some (.lst (ts.map V.ref)) ∧ TupsAt H7 ts d := fun j v d ji hv hd => by
    obtain ⟨ts', a, b⟩ := iv j v d hv (by
     by_cases l : j < i
     ·rw [if_pos l]; rw [if_pos (by omega)] at hd; exact hd
     ·rw [if_neg l]; rw [if_neg (by omega)] at hd; exact hd)
    exact ⟨ts', e7.at0 a, b.ed e7⟩
   refine go_notInT h17 hT7 htx7 ?_
   by_cases m : x ∈ c
   ·rw [decide_eq_true m]
    walk_at "go"
    refine ⟨⟨_, _, rfl⟩, e6.ex e7, fun j v d hv hd => ?_⟩
    by_cases ji : j = i
    ·subst ji
     rw [hu] at hv
     obtain rfl := Option.some.inj hv
     rw [if_pos (by omega), addC_get hc hx, if_pos m] at hd
     obtain rfl := Option.some.inj hd
     exact ⟨tsu, h17, hT7⟩
    ·exact old j v d ji hv hd
   ·rw [decide_eq_false m]
    have tsl : tsu.length ≤ 1000 := by rw [h2.len]; omega
    walk_at "go"
    generalize hu8 : upd _ u _ = H8
    obtain ⟨e8, h18⟩ := Vc.chg hu8 h17
    refine ⟨⟨_, _, rfl⟩, (e6.ex e7).trans e8 fun a z => .inl (by rw [List.mem_singleton.mp z]; exact uin), fun j v d hv hd => ?_⟩
    by_cases ji : j = i
    ·subst ji
     rw [hu] at hv
     obtain rfl := Option.some.inj hv
     rw [if_pos (by omega), addC_get hc hx, if_neg m] at hd
     obtain rfl := Option.some.inj hd
     exact ⟨tsu ++ [t], by rw [h18, List.map_append]; rfl, (hT7.ed e8).snoc (e8.tup _ _ htx7)⟩
    ·obtain ⟨ts', a, b⟩ := old j v d ji hv hd
     have vu : v ≠ u := fun z => ji (by
      rw [z, ← hu] at hv
      exact (List.getElem?_inj (List.getElem?_eq_some_iff.mp (hv.trans hu)).1 X.sh.nd).mp hv)
     exact ⟨ts', e8.at1 vu a, b.ed e8⟩
  ·obtain ⟨⟨y, z, rfl⟩, e6, iv⟩ := hp
   walk_at "go"
   have al := addC_len (cs := o.cs) (xs := unitsOf o.W new) mx.symm
   refine kQ H' (((e1.mono fun _ z => nomatch z).trans e4 fun a z => .inl (by rw [List.mem_singleton.mp z]; exact List.mem_cons_self)).ex e5 |>.trans e6 fun a z => .inl (List.mem_cons_of_mem _ z)) ⟨⟨dx1, e6.keep _ _ npu hp5⟩, gr4.imp fun dy q => e6.keep _ _ ngu (e5.at0 q), e6.keep _ _ X.iu (e5.at0 hc4), ⟨e6.keep _ _ X.sh.ns hs5, by rw [al]; exact ul, fun j u c hu hc => iv j u c hu ?_, X.sh.nd, X.sh.ns⟩, X.is, X.iu⟩ ⟨O.w, O.c, by show 1 ≤ new.length; rw [nl]; exact O.l1, by show new.length ≤ 24; rw [nl]; exact O.l24, by show (addC o.cs _).length = manyU o.W new.length; rw [al, nl]; exact O.many, fun c hc => ?_, nby⟩
   ·have jl : j < o.us.length := (List.getElem?_eq_some_iff.mp hu).1
    rw [if_pos (by rw [List.length_map]; omega)]
    exact hc
   ·obtain ⟨d, hd, l⟩ := addC_mem hc
    have := few d hd
    omega
end
end My
namespace My
open PySem PySem.Spec PyProof.Rows L2
theorem kvs_some {its : List (FD × Addr)} {x : Int} (h : (valV (kvsOf its) (.inl x)).isSome = true) : ∃ p ∈ its, p.1.byte = x := by
 unfold valV at h
 rw [Option.isSome_map] at h
 obtain ⟨kv, e⟩ := Option.isSome_iff_exists.mp h
 have h1 := List.mem_of_find?_eq_some e
 have h2 := List.find?_some e
 have h2 : kv.1 = Sum.inl x := of_decide_eq_true h2
 obtain ⟨p, hp, rfl⟩ := List.mem_map.mp h1
 exact ⟨p, hp, Sum.inl.inj h2⟩
theorem kvsOf_put {its : List (FD × Addr)} {f : FD} {a : Addr} (h : valV (kvsOf its) (.inl f.byte) = none) : putK (kvsOf its) (.inl f.byte) (.ref a) = kvsOf (its ++ [(f, a)]) := by
 rw [putK_new _ h]
 unfold kvsOf
 rw [List.map_append]; rfl
theorem lift_perm {α β : Type} {f : α → β} : ∀ {l : List β} {items : List α}, l.Perm (items.map f) → ∃ sel : List α, sel.Perm items ∧ sel.map f = l
 | [], items, h => by
  have := h.length_eq
  rw [List.length_nil, List.length_map] at this
  exact ⟨[], by rw [List.eq_nil_of_length_eq_zero this.symm], rfl⟩
 | b :: l, items, h => by
  obtain ⟨a, ha, rfl⟩ := List.mem_map.mp ((h.mem_iff).mp List.mem_cons_self)
  obtain ⟨s, t, rfl⟩ := List.append_of_mem ha
  have h1 : (f a :: l).Perm (f a :: (s ++ t).map f) := h.trans ((List.perm_middle (a := a) (l₁ := s) (l₂ := t)).map f)
  obtain ⟨sel, p, e⟩ := lift_perm (h1.cons_inv)
  exact ⟨a :: sel, (p.cons a).trans List.perm_middle.symm, by rw [List.map_cons, e]⟩
def codesF (stop : Int) (o t : Addr) : List (Str × V) := [("stop", .int stop), ("order", .ref o), ("table", .ref t)]
theorem codes_put {s o t} : putF "table" (.ref t) (putF "order" (.ref o) (putF "stop" (.int s) [])) = codesF s o t := rfl
theorem codes_table {s o t} : (codesF s o t).lookup ("table" : Str) = some (.ref t) := rfl
theorem codes_order {s o t} : (codesF s o t).lookup ("order" : Str) = some (.ref o) := rfl
structure CodeO where
 c : Addr
 dx : Addr
 o : Addr
 t : Addr
 stop : Int
 items : List (FD × Addr)
def CodeO.fs (x : CodeO) : List FD := x.items.map (·.1)
structure CodeO.At (A : Ad) (H : Hp) (x : CodeO) : Prop where
 ob : H x.c = some (.ins A.C_CodeSet x.dx (codesF x.stop x.o x.t))
 od : H x.o = some (.lst ((x.items.map fun p => p.1.byte).map V.int))
 tb : H x.t = some (.dK (kvsOf x.items))
 fm : ∀ p ∈ x.items, FormAt A H p.2 p.1
theorem kvOOf_put {items : List (FD × Addr)} {p : FD × Addr} (h : valV (kvsOf items) (.inl p.1.byte) = none) : putK (kvsOf items) (.inl p.1.byte) (.ref p.2) = kvsOf (items ++ [p]) := kvsOf_put (f := p.1) (a := p.2) h
theorem kvO_some {its : List (FD × Addr)} {x : Int} (h : (valV (kvsOf its) (.inl x)).isSome = true) : ∃ p ∈ its, p.1.byte = x := kvs_some h
theorem kvO_none {its : List (FD × Addr)} {x : Int} (h : ∀ p ∈ its, p.1.byte ≠ x) : valV (kvsOf its) (.inl x) = none := by
 cases e : valV (kvsOf its) (.inl x) with
 | none => rfl
 | some v =>
  obtain ⟨p, hp, hx⟩ := kvO_some (its := its) (x := x) (by rw [e]; rfl)
  exact (h p hp hx).elim
theorem nd_take {its : List (FD × Addr)} {i : Nat} {p : FD × Addr} (nd : ((its.map (·.1)).map (·.byte)).Nodup) (hp : its[i]? = some p) : ∀ q ∈ its.take i, q.1.byte ≠ p.1.byte := by
 intro q hq e
 have h1 : (((its.take (i + 1)).map (·.1)).map (·.byte)).Nodup := nd.sublist (((List.take_sublist (i + 1) its).map _).map _)
 rw [List.take_add_one, hp, List.map_append, List.map_append, List.nodup_append] at h1
 exact h1.2.2 q.1.byte (List.mem_map.mpr ⟨q.1, List.mem_map.mpr ⟨q, hq, rfl⟩, rfl⟩) p.1.byte (by simp) e
theorem Valid.perm {s : Int} {fs gs : List FD} (h : Valid s fs) (p : gs.Perm fs) : Valid s gs :=
 ⟨by rw [p.length_eq]; exact h.n1, by rw [p.length_eq]; exact h.n16, fun f hf => h.ok f (p.mem_iff.mp hf), fun f hf => h.byt f (p.mem_iff.mp hf), (p.map _).nodup_iff.mpr h.ndb, (p.map _).nodup_iff.mpr h.ndn, h.s0, h.s1⟩
theorem CodeO.At.ed {A : Ad} {H H' : Hp} {x : CodeO} {S : List Addr} (h : x.At A H) (e : Vc.Ed S H H') (n1 : x.c ∉ S) (n2 : x.o ∉ S) (n3 : x.t ∉ S) (n4 : ∀ p ∈ x.items, p.2 ∉ S) : x.At A H' :=
 ⟨e.keep _ _ n1 h.ob, e.keep _ _ n2 h.od, e.keep _ _ n3 h.tb, fun p hp => (h.fm p hp).ed e (n4 p hp)⟩
theorem CodeO.At.ed0 {A : Ad} {H H' : Hp} {x : CodeO} (e : Vc.Ed [] H H') (h : x.At A H) : x.At A H' := h.ed e (fun z => nomatch z) (fun z => nomatch z) (fun z => nomatch z) (fun _ _ z => nomatch z)
theorem CodeO.At.new {A : Ad} {H0 H H' : Hp} {x : CodeO} {q : Addr} (e : Vc.Ed [q] H H') (n : H0 q = none) (h0 : x.At A H0) (h : x.At A H) : x.At A H' := by
 refine h.ed e (fun z => ?_) (fun z => ?_) (fun z => ?_) fun p hp z => ?_
 ·have := h0.ob; rw [List.mem_singleton.mp z, n] at this; cases this
 ·have := h0.od; rw [List.mem_singleton.mp z, n] at this; cases this
 ·have := h0.tb; rw [List.mem_singleton.mp z, n] at this; cases this
 ·obtain ⟨d, h⟩ := h0.fm p hp; rw [List.mem_singleton.mp z, n] at h; cases h
def CodeO.Ok (x : CodeO) : Prop := Valid x.stop x.fs ∧ (x.fs.map (·.byte)).Pairwise (· ≤ ·)
def spCodes (A : Ad) : Sp := fun vs H Q _ => ∃ (p dx d : Addr) (stop : Int) (items : List (FD × Addr)), vs = [.ref p, .int stop, .ref d] ∧ MadeAt A H d items ∧ Valid stop (items.map (·.1)) ∧ H p = some (.ins A.C_CodeSet dx []) ∧
 ∀ (x : CodeO) (H' : Hp), x.c = p → x.stop = stop → x.items.Perm items → x.Ok → Vc.Ed [p] H H' → H x.t = none → H x.o = none → x.At A H' → Q .non H'
section
variable {P : Program} {w : World} {K : PySem.W.Frag} {mg : Str → Option Value} {base : Heap} {A : Ad}
theorem ok_CodeSetu_initu (T : Txt K mg A) : FnOk P w K mg base CX0 3 A.f_CodeSetu_initu A.d_CodeSetu_initu ["self", "stop", "forms"] (spCodes A) := by
 have G_is_byte := ok_is_byte (P := P) (w := w) (base := base) T
 have G_check_forms := ok_check_forms (P := P) (w := w) (base := base) T
 refine T.F_CodeSetu_initu.ok sc_CodeSetu_initu (fun vs H Q E h => ?_) (fun cdv Ar outer s H vs Q E hr h => ?_)
 ·obtain ⟨p, dx, d, stop, items, rfl, _⟩ := h
  rfl
 ·obtain ⟨p, dx, d, stop, items, rfl, M, Va, hp, k⟩ := h
  have hu := hu_of hr
  have cl := T.cl_CodeSet
  have no1 := T.no_CodeSet_stop
  have no2 := T.no_CodeSet_order
  have no3 := T.no_CodeSet_table
  have v16 := Va.n16
  rw [List.length_map] at v16
  refine ⟨_, (pss_cons (ps_if (pt_not (pt_val (pe_call G_is_byte (by exact hr.mono (by decide)) (by rfl) T.g_is_byte T.F_is_byte.kp T.b_is_byte .nil pass0 (pa_cons (pv 1) pa_nil)))) (pss_one ps_never) pss_nil) (pss_cons (ps_expr (pe_call G_check_forms (by exact hr.mono (by decide)) (by rfl) T.g_check_forms T.F_check_forms.kp T.b_check_forms .nil pass0 (pa_cons (pv 1) (pa_cons (pv 2) pa_nil)))) (pss_cons (ps_fld (pv 0) (pv 1) rfl) (pss_cons (ps_fld (pv 0) (pe_callB cr_sorted (by rfl) T.n_sorted (by decide +kernel) (pa_cons (pe_callTy (call_list_dK rfl) (by rfl) T.n_list (by decide +kernel) (pa_cons (pv 2) pa_nil)) pa_nil)) rfl) (pss_one (ps_fld (pv 0) (pe_dc (own := [("byte", 3)]) (g := gName 3) rfl sc_CodeSetu_initu.nd (pi_list (pe_fld (pv 0) rfl)) (blkOk_by (own := [("byte", 3)]) (N := ["self", "stop", "forms", "byte"]) (sc := defScope s_CodeSetu_initu) (by decide +kernel)) (fun _ _ _ _ _ => by exact (pg_name (i := 3) sc_CodeSetu_initu.nd rfl (Or.inl rfl))) (fun _ _ _ _ _ => by exact pts_nil) (fun _ _ _ _ _ => by (refine' Vc.blkE ?h ?q; (case h => exact (pv 3)); (case q => first | exact rfl | (dsimp only; done) | (dsimp only; exact rfl)))) (fun _ _ _ _ _ => by (refine' Vc.blkE ?h ?q; (case h => exact (pe_dget (by exact hu) (pv 2) (pv 3) (fun _ _ => rfl))); (case q => first | exact rfl | (dsimp only; done) | (dsimp only; exact rfl))))) rfl)))))), ?_⟩
  walk_at "go"
  refine ⟨stop, rfl, fun H1 e1 => ?_⟩
  rw [decide_eq_true ⟨Va.s0, Va.s1⟩]
  walk_at "go"
  refine ⟨d, stop, items, rfl, ⟨e1.at0 M.ob, fun q hq => (M.fm q hq).ed0 e1⟩, Va, fun H2 e2 => ?_⟩
  have hp2 : H2 p = some (.ins A.C_CodeSet dx []) := by walk_at "hs"
  walk_at "go"
  generalize hu3 : upd _ p _ = H3
  obtain ⟨e3, h3⟩ := Vc.chg hu3 hp2
  have hd3 : H3 d = some (.dK (kvsOf items)) := e3.at1 (ne_of M.ob hp (by intro z; cases z)) (by have := M.ob; walk_at "hs")
  walk_at "go"
  intro L nL
  generalize hu4 : upd _ L _ = H4
  obtain ⟨e4, hL⟩ := Vc.alloc hu4 nL
  have eq : (kvsOf items).map (fun kv => kV kv.1) = ((items.map (·.1)).map (·.byte)).map V.int := by
   unfold kvsOf
   simp only [List.map_map, Function.comp_def, kV]
  rw [eq] at hL
  walk_at "go"
  refine Vc.go_sorted (.of hL) (by rw [List.length_map, List.length_map]; omega) fun ns o perm srt no => ?_
  generalize hu5 : upd _ o _ = H5
  obtain ⟨e5, ho⟩ := Vc.alloc hu5 no
  have h3' : H5 p = some (.ins A.C_CodeSet dx (putF "stop" (.int stop) [])) := by walk_at "hs"
  walk_at "go"
  generalize hu6 : upd _ p _ = H6
  obtain ⟨e6, h6⟩ := Vc.chg hu6 h3'
  walk_at "go"
  have ho6 : H6 o = some (.lst (ns.map V.int)) := by walk_at "hs"
  have hd6 : H6 d = some (.dK (kvsOf items)) := by walk_at "hs"
  obtain ⟨sel, sp, se⟩ : ∃ sel : List (FD × Addr), sel.Perm items ∧ sel.map (fun p => p.1.byte) = ns := lift_perm (by rw [List.map_map] at perm; exact perm)
  have nl : ns.length = sel.length := by rw [← se, List.length_map]
  have sl : sel.length = items.length := sp.length_eq
  have Vs : Valid stop (sel.map (·.1)) := Va.perm (sp.map _)
  refine ⟨⟨_, .of ho6⟩, Vc.dc_by (walk_list (xs := ns.map V.int)) (fun t i H' => Vc.Ed [] H6 H' ∧ H' t = some (.dK (kvsOf (sel.take i)))) ?_ ?_ ?_ ?_⟩
  ·intro t H7 nt e7 ht
   exact ⟨e7, ht⟩
  ·rintro t i H' _ _ ⟨e7, _⟩
   exact .of (e7.at0 ho6)
  ·rintro t i x H7 H8 nt hi ⟨e7, ht⟩ ⟨rfl, hx⟩
   rw [List.length_map, nl] at hi
   have hsel : sel[i]? = some sel[i] := List.getElem?_eq_getElem hi
   generalize sel[i] = q0 at hsel
   rw [← se, List.getElem?_map, List.getElem?_map, hsel] at hx
   cases hx
   have hq0 : q0 ∈ items := sp.mem_iff.mp (List.mem_of_getElem? hsel)
   have hv0 := kvsOf_val Va.ndb hq0
   walk_at "go"
   refine ⟨rfl, ?_⟩
   walk_at "go"
   refine ⟨_, .inl q0.1.byte, rfl, ht, small1000 (by rw [kvsOf_len, List.length_take]; omega), ?_⟩
   generalize hu8 : upd _ t _ = H9
   obtain ⟨e9, h9⟩ := Vc.chg hu8 ht
   refine ⟨e7.one e9 (.inr nt), ?_⟩
   rw [h9, kvOOf_put (kvO_none (nd_take Vs.ndb hsel)), List.take_add_one, hsel]; rfl
  ·rintro t H7 nt ⟨e7, ht⟩
   rw [List.length_map, nl, List.take_of_length_le (Nat.le_refl _)] at ht
   have h7 : H7 p = _ := e7.at0 h6
   have nt0 : H t = none := by walk_at "free"
   have no0 : H o = none := by walk_at "free"
   walk_at "go"
   generalize hu8 : upd _ p _ = H8
   obtain ⟨e8, h8⟩ := Vc.chg hu8 h7
   rw [codes_put] at h8
   have ee : Vc.Ed [p] H H8 := by walk_at "ed"
   have ntp : t ≠ p := fun z => by rw [z, h6] at nt; cases nt
   have nop : o ≠ p := fun z => by have h4 : H4 p = _ := e4.at0 h3; rw [z, h4] at no; cases no
   have ho8 : H8 o = some (.lst (ns.map V.int)) := e8.at1 nop (e7.at0 ho6)
   rw [← se] at ho8
   refine k ⟨p, dx, o, t, stop, sel⟩ H8 rfl rfl sp ⟨Vs, ?_⟩ ee nt0 no0 ⟨h8, ho8, e8.at1 ntp ht, fun q hq => ?_⟩
   ·show List.Pairwise _ (List.map _ (List.map _ sel))
    rw [List.map_map]
    rw [← se] at srt
    exact srt
   ·obtain ⟨dq, hF⟩ := M.fm q (sp.mem_iff.mp hq)
    exact ⟨dq, ee.at1 (ne_of hF hp (by intro z; injection z with _ _ z; cases z)) hF⟩
end
end My
namespace My
open PySem PySem.Spec PyProof.Rows L2
structure FTups (H : Hp) (f : Addr) (its : List (FD × Addr)) : Prop where
 ob : H f = some (.dK (kvsOf its))
 tp : ∀ p ∈ its, H p.2 = some (.tup [.str p.1.name, .int p.1.len, .str p.1.flow])
theorem FTups.ed {H H' : Hp} {f : Addr} {its : List (FD × Addr)} {S : List Addr} (h : FTups H f its) (e : Vc.Ed S H H') (n : f ∉ S) : FTups H' f its :=
 ⟨e.keep _ _ n h.ob, fun p hp => e.tup _ _ (h.tp p hp)⟩
theorem FTups.ed0 {H H' : Hp} {f : Addr} {its : List (FD × Addr)} (e : Vc.Ed [] H H') (h : FTups H f its) : FTups H' f its := h.ed e (fun z => nomatch z)
theorem FTups.ed1 {H H' : Hp} {f q : Addr} {its : List (FD × Addr)} (e : Vc.Ed [q] H H') (n : f ≠ q) (h : FTups H f its) : FTups H' f its := h.ed e (fun z => n (List.mem_singleton.mp z))
theorem cutS_take (z : Str) (k : Nat) : cutS z none (some (k : Int)) = ⟨(z.cps.toList.take k).toArray⟩ := by
 unfold cutS
 have e : z.length = z.cps.toList.length := rfl
 rw [e, HT.sIx_nat, HT.sIx_none, List.drop_zero, Nat.sub_zero]
 rcases Nat.le_total k z.cps.toList.length with h | h
 ·rw [Nat.min_eq_left h]
 ·rw [Nat.min_eq_right h, List.take_length, List.take_of_length_le h]
theorem cutS_drop (z : Str) (k : Nat) : cutS z (some (k : Int)) none = ⟨(z.cps.toList.drop k).toArray⟩ := by
 unfold cutS
 have e : z.length = z.cps.toList.length := rfl
 rw [e, HT.sIx_nat, HT.sIx_none]
 rcases Nat.le_total k z.cps.toList.length with h | h
 ·rw [Nat.min_eq_left h, List.take_of_length_le (by rw [List.length_drop]; omega)]
 ·rw [Nat.min_eq_right h, List.drop_of_length_le h, List.drop_length, List.take_nil]
def nmOf (cs : List Nat) (s : Nat) (j : Nat) : Str := ⟨(cs.take s ++ (LET.getD j 0 :: cs.drop s)).toArray⟩
theorem nm_eq {cs : List Nat} {s j : Nat} : cutS ⟨cs.toArray⟩ none (some (s : Int)) ++ ⟨#[LET.getD j 0]⟩ ++ cutS ⟨cs.toArray⟩ (some (s : Int)) none = nmOf cs s j := by
 rw [cutS_take, cutS_drop]
 show Str.mk ((_ ++ _) ++ _) = Str.mk _
 refine congrArg Str.mk ?_
 simp
theorem nm_inj {cs : List Nat} {s i j : Nat} (h : nmOf cs s i = nmOf cs s j) : LET.getD i 0 = LET.getD j 0 := by
 unfold nmOf at h
 have h1 := congrArg Array.toList (Str.mk.inj h)
 have h2 := List.append_cancel_left h1
 exact (List.cons.inj h2).1
theorem let_inj {i j : Nat} (hi : i < 26) (hj : j < 26) (h : LET.getD i 0 = LET.getD j 0) : i = j := by
 have a : ∀ i : Fin 26, ∀ j : Fin 26, LET.getD i.1 0 = LET.getD j.1 0 → i = j := by decide +kernel
 exact congrArg Fin.val (a ⟨i, hi⟩ ⟨j, hj⟩ h)
theorem let_mem {j : Nat} (hj : j < 26) : LET.getD j 0 ∈ LET := by
 have a : ∀ i : Fin 26, LET.getD i.1 0 ∈ LET := by decide +kernel
 exact a ⟨j, hj⟩
theorem nm_len {cs : List Nat} {s j : Nat} : (nmOf cs s j).length = cs.length + 1 := by
 show (Str.cps _).size = _
 unfold nmOf
 simp only [List.size_toArray, List.length_append, List.length_cons, List.length_take, List.length_drop]
 omega
theorem nm_let {cs : List Nat} {s j : Nat} (hc : ∀ c ∈ cs, c ∈ LET) (hj : j < 26) : ∀ c ∈ (nmOf cs s j).cps.toList, c ∈ LET := by
 intro c hm
 unfold nmOf at hm
 rcases List.mem_append.mp hm with h | h
 ·exact hc c (List.mem_of_mem_take h)
 ·rcases List.mem_cons.mp h with h | h
  ·rw [h]; exact let_mem hj
  ·exact hc c (List.mem_of_mem_drop h)
theorem let_at {i : Int} (h0 : 0 ≤ i) (h1 : i < 26) : atI ("abcdefghijklmnopqrstuvwxyz" : Str).cps.toList i = some (LET.getD i.toNat 0) := by
 rw [letters_eq]
 have a : ∀ i : Fin 26, atI LET (i.1 : Int) = some (LET.getD i.1 0) := by decide +kernel
 have := a ⟨i.toNat, by omega⟩
 rwa [show ((⟨i.toNat, by omega⟩ : Fin 26).1 : Int) = i by show (i.toNat : Int) = i; omega] at this
theorem joinL_nil : ∀ (ps : List (List Nat)), TL.joinL [] ps = ps.flatten
 | [] => rfl
 | [p] => by show p = _; simp
 | p :: q :: r => by
  show p ++ ([] ++ TL.joinL [] (q :: r)) = _
  rw [joinL_nil (q :: r)]; simp
theorem join_one (cs : List Nat) : Txt.join "" (cs.map fun c => (⟨#[c]⟩ : Str)) = ⟨cs.toArray⟩ := by
 refine TL.ext_tl ?_
 rw [congrArg TL.tl (TL.join_eq _ _), TL.tl_join]
 have e : TL.tl ("" : Str) = [] := by decide +kernel
 rw [e, joinL_nil, List.map_map]
 show (cs.map fun c => [c]).flatten = cs
 induction cs with
 | nil => rfl
 | cons c r ih => rw [List.map_cons, List.flatten_cons, ih]; rfl
theorem nm_nodup32 {cs : List Nat} {s f n : Nat} (hn : n ≤ 26) : ((List.range n).map fun j => nmOf cs s ((f + j) % 26)).Nodup := by
 refine List.Pairwise.map _ ?_ (List.Pairwise.and_mem.mp List.nodup_range)
 intro a b ⟨ha, hb, ne⟩ e
 rw [List.mem_range] at ha hb
 have := let_inj (Nat.mod_lt _ (by decide)) (Nat.mod_lt _ (by decide)) (nm_inj e)
 omega
structure Drawn (stop : Int) (cs : List Nat) (s f : Nat) (its : List (FD × Addr)) : Prop where
 ok : ∀ p ∈ its, p.1.Ok
 byt : ∀ p ∈ its, 0 ≤ p.1.byte ∧ p.1.byte ≤ 255 ∧ p.1.byte ≠ stop
 nms : (its.map (·.1)).map (·.name) = (List.range its.length).map fun j => nmOf cs s ((f + j) % 26)
theorem Drawn.put {stop : Int} {cs : List Nat} {s f : Nat} {its : List (FD × Addr)} {d : FD} {a : Addr} (h : Drawn stop cs s f its) (ok : d.Ok) (b : 0 ≤ d.byte ∧ d.byte ≤ 255 ∧ d.byte ≠ stop) (hm : d.name = nmOf cs s ((f + its.length) % 26)) : Drawn stop cs s f (its ++ [(d, a)]) where
 ok := fun p hp => by
  rcases List.mem_append.mp hp with hp | hp
  ·exact h.ok p hp
  ·rw [List.mem_singleton.mp hp]; exact ok
 byt := fun p hp => by
  rcases List.mem_append.mp hp with hp | hp
  ·exact h.byt p hp
  ·rw [List.mem_singleton.mp hp]; exact b
 nms := by
  rw [List.map_append, List.map_append, h.nms, List.length_append, List.length_singleton, List.range_succ, List.map_append]
  simp [hm]
def flow32 (j : Nat) : Str := if j = 0 then "next" else "end"
def Gen (its : List (FD × Addr)) : Prop := ∀ (j : Nat) (p : FD × Addr), its[j]? = some p → j < 2 → p.1.len = 1 ∧ p.1.flow = flow32 j
theorem Gen.put {its : List (FD × Addr)} {q : FD × Addr} (h : Gen its) (k : its.length < 2 → q.1.len = 1 ∧ q.1.flow = flow32 its.length) : Gen (its ++ [q]) := by
 intro j p hj h2
 rcases Nat.lt_trichotomy j its.length with l | l | l
 ·rw [List.getElem?_append_left l] at hj
  exact h j p hj h2
 ·subst l
  rw [List.getElem?_append_right (Nat.le_refl _), Nat.sub_self] at hj
  injection hj with hj
  rw [← hj]; exact k h2
 ·rw [List.getElem?_append_right (by omega)] at hj
  have : ([q] : List (FD × Addr))[j - its.length]? = none := List.getElem?_eq_none (by simp; omega)
  rw [this] at hj; cases hj
theorem FTups.pen {H H' : Hp} {f b c : Addr} {n : Nat} {its : List (FD × Addr)} (e : Vc.Ed [b] H H') (B : Pen H b c n) (h : FTups H f its) : FTups H' f its := by
 refine h.ed1 e (fun z => ?_)
 obtain ⟨x, a, r, hb⟩ := B.lst
 have := h.ob; rw [z, hb] at this; cases this
def LEAPS : List Int := [1, 3, 7, 51, 85, 127]
def spots (a l : Int) : List Int := (List.range 13).map fun k : Nat => (a + l * k) % 256
def firsts (a l stop : Int) : List Int := (spots a l).filter fun x => decide (x ≠ stop)
theorem spots_nd {a l : Int} (h : l ∈ LEAPS) : (spots a l).Nodup := by
 unfold spots
 refine List.Pairwise.map _ ?_ (List.Pairwise.and_mem.mp List.nodup_range)
 intro i j ⟨hi, hj, ne⟩ e
 rw [List.mem_range] at hi hj
 simp only [LEAPS, List.mem_cons, List.not_mem_nil, or_false] at h
 rcases h with rfl | rfl | rfl | rfl | rfl | rfl <;> omega
theorem firsts_nd {a l stop : Int} (h : l ∈ LEAPS) : (firsts a l stop).Nodup := (spots_nd h).filter _
theorem nodup_ne_len {xs : List Int} {v : Int} (nd : xs.Nodup) : xs.length ≤ (xs.filter fun x => decide (x ≠ v)).length + 1 := by
 induction xs with
 | nil => exact Nat.zero_le _
 | cons x xs ih =>
  have nd' := List.nodup_cons.mp nd
  by_cases c : x = v
  ·have : xs.filter (fun y => decide (y ≠ v)) = xs := List.filter_eq_self.mpr fun y hy => decide_eq_true fun z => nd'.1 (by rw [c, ← z]; exact hy)
   rw [List.filter_cons, if_neg (by rw [decide_eq_false (fun z => z c)]; decide), this]
   exact Nat.le_refl _
  ·rw [List.filter_cons, if_pos (decide_eq_true c), List.length_cons, List.length_cons]
   have := ih nd'.2
   omega
theorem firsts_len {a l stop : Int} (h : l ∈ LEAPS) : 12 ≤ (firsts a l stop).length := by
 have := nodup_ne_len (v := stop) (spots_nd (a := a) h)
 have e : (spots a l).length = 13 := by unfold spots; rw [List.length_map, List.length_range]
 unfold firsts
 omega
theorem firsts_le {a l stop : Int} : (firsts a l stop).length ≤ 13 := by
 have e : (spots a l).length = 13 := by unfold spots; rw [List.length_map, List.length_range]
 unfold firsts
 rw [← e]
 exact List.length_filter_le _ _
theorem firsts_b {a l stop x : Int} (h : x ∈ firsts a l stop) : 0 ≤ x ∧ x ≤ 255 ∧ x ≠ stop := by
 obtain ⟨h1, h2⟩ := List.mem_filter.mp h
 obtain ⟨k, _, rfl⟩ := List.mem_map.mp h1
 have := of_decide_eq_true h2
 refine ⟨Int.emod_nonneg _ (by decide), ?_, this⟩
 have := Int.emod_lt_of_pos (a + l * (k : Int)) (show (0 : Int) < 256 by decide)
 omega
end My
namespace My
open PySem PySem.Spec PyProof.Rows L2
def spForms32 : Sp := fun vs H Q _ => ∃ (b c : Addr) (n : Nat), vs = [.ref b] ∧ Pen H b c n ∧ n + 60 ≤ LIM ∧
 ∀ t f its stop H', Vc.Ed [b] H H' → Pen H' b c (n + 60) → H f = none → H' t = some (.tup [.int stop, .ref f]) → FTups H' f its → 2 ≤ its.length → Valid stop (its.map (·.1)) → Gen its → Q (.ref t) H'
theorem cs_sum (cs : List Nat) : (List.map (fun x : Str => x.length) (List.map (fun c => { cps := #[c] }) cs)).sum = cs.length := by
 induction cs with
 | nil => rfl
 | cons c r ih =>
  rw [List.map_cons, List.map_cons, List.sum_cons, ih, List.length_cons]
  show 1 + r.length = r.length + 1
  omega
section
variable {P : Program} {w : World} {K : PySem.W.Frag} {mg : Str → Option Value} {base : Heap} {A : Ad}
theorem ok__law_forms (T : Txt K mg A) : FnOk P w K mg base CX0 3 A.f__law_forms A.d__law_forms ["_law_pen_here"] spForms32 := by
 have G__law_draw := ok__law_draw (P := P) (w := w) (base := base) T
 have G__law_pick := ok__law_pick (P := P) (w := w) (base := base) T
 refine T.F__law_forms.ok sc__law_forms (fun vs H Q E h => ?_) (fun cdv Ar outer s H vs Q E hr h => ?_)
 ·obtain ⟨b, c, n, rfl, _⟩ := h
  rfl
 ·obtain ⟨b, c, n, rfl, hB, nl, k⟩ := h
  have hu := hu_of hr
  have l26 : ("abcdefghijklmnopqrstuvwxyz" : Str).length ≤ 1000 := by decide +kernel
  have l26' : 1 ≤ ("abcdefghijklmnopqrstuvwxyz" : Str).length := by decide +kernel
  have nl : n + 60 ≤ 1000000 := nl
  have nL : ∀ m : Nat, m ≤ n + 60 → m ≤ LIM := fun m h => by show m ≤ 1000000; omega
  refine ⟨_, (pss_cons (ps_set (i := 1) sc__law_forms.nd rfl (Or.inr rfl) pe_str) (pss_cons (ps_set (i := 2) sc__law_forms.nd rfl (Or.inr rfl) (pe_call G__law_pick (by exact hr.mono (by decide)) (by rfl) T.g__law_pick T.F__law_pick.kp T.b__law_pick .nil pass0 (pa_cons (pv 0) (pa_cons (pe_lst (pa_cons (pe_call G__law_draw (by exact hr.mono (by decide)) (by rfl) T.g__law_draw T.F__law_draw.kp T.b__law_draw .nil pass0 (pa_cons (pv 0) (pa_cons pe_int pa_nil))) (pa_cons pe_int (pa_cons pe_int pa_nil)))) pa_nil)))) (pss_cons (ps_set (i := 3) sc__law_forms.nd rfl (Or.inr rfl) (pe_call G__law_draw (by exact hr.mono (by decide)) (by rfl) T.g__law_draw T.F__law_draw.kp T.b__law_draw .nil pass0 (pa_cons (pv 0) (pa_cons pe_int pa_nil)))) (pss_cons (ps_set (i := 4) sc__law_forms.nd rfl (Or.inr rfl) (pe_call G__law_pick (by exact hr.mono (by decide)) (by rfl) T.g__law_pick T.F__law_pick.kp T.b__law_pick .nil pass0 (pa_cons (pv 0) (pa_cons (pe_lst (pa_cons pe_int (pa_cons pe_int (pa_cons pe_int (pa_cons pe_int (pa_cons pe_int (pa_cons pe_int pa_nil))))))) pa_nil)))) (pss_cons (ps_setLc (i := 5) (own := [("_law_k", 10)]) (g := gName 10) rfl sc__law_forms.nd rfl rfl (sw_true rfl rfl rfl (by decide +kernel)) (pi_range1 (by rfl) T.n_range (pa_cons pe_int pa_nil)) (blkOk_by (own := [("_law_k", 10)]) (N := ["_law_pen_here", "_law_letters", "_law_stop", "_law_start", "_law_leap", "_law_some", "_law_head", "_law_spot", "_law_first", "_law_forms_here", "_law_k", "_law_flow", "_law_length", "_law_sign", "_law_byte_here"]) (sc := defScope s__law_forms) (by decide +kernel)) (fun _ _ _ _ _ => by exact (pg_name (i := 10) sc__law_forms.nd rfl (Or.inl rfl))) (fun _ _ _ _ _ => by exact pts_nil) (fun _ _ _ _ _ => by (refine' Vc.blkE ?h ?q; (case h => exact (pe_op op_mod (pe_callTy call_int1 (by rfl) T.n_int (by decide +kernel) (pa_cons (pe_op op_add (pv 3) (pe_op op_mulW (pv 4) (pv 10))) pa_nil)) pe_int)); (case q => first | exact rfl | (dsimp only; done) | (dsimp only; exact rfl))))) (pss_cons (ps_setLc (i := 5) (own := [("_law_byte_here", 14)]) (g := gName 14) rfl sc__law_forms.nd rfl rfl (sw_true rfl rfl rfl (by decide +kernel)) (pi_list (pv 5)) (blkOk_by (own := [("_law_byte_here", 14)]) (N := ["_law_pen_here", "_law_letters", "_law_stop", "_law_start", "_law_leap", "_law_some", "_law_head", "_law_spot", "_law_first", "_law_forms_here", "_law_k", "_law_flow", "_law_length", "_law_sign", "_law_byte_here"]) (sc := defScope s__law_forms) (by decide +kernel)) (fun _ _ _ _ _ => by exact (pg_name (i := 14) sc__law_forms.nd rfl (Or.inl rfl))) (fun _ _ _ _ _ => by (refine' Vc.blkT ?h ?q; (case h => exact pts_one (pt_cmpR op_ne (pv 14) (pv 2) (nomark _))); (case q => first | exact rfl | (dsimp only; done) | (dsimp only; exact rfl)))) (fun _ _ _ _ _ => by (refine' Vc.blkE ?h ?q; (case h => exact (pv 14)); (case q => first | exact rfl | (dsimp only; done) | (dsimp only; exact rfl))))) (pss_cons (ps_set (i := 6) sc__law_forms.nd rfl (Or.inl rfl) (pe_join pe_str (pe_lc (own := [("_law_k", 10)]) (g := gName 10) rfl sc__law_forms.nd (pi_range1 (by rfl) T.n_range (pa_cons (pe_call G__law_draw (by exact hr.mono (by decide)) (by rfl) T.g__law_draw T.F__law_draw.kp T.b__law_draw .nil pass0 (pa_cons (pv 0) (pa_cons pe_int pa_nil))) pa_nil)) (blkOk_by (own := [("_law_k", 10)]) (N := ["_law_pen_here", "_law_letters", "_law_stop", "_law_start", "_law_leap", "_law_some", "_law_head", "_law_spot", "_law_first", "_law_forms_here", "_law_k", "_law_flow", "_law_length", "_law_sign", "_law_byte_here"]) (sc := defScope s__law_forms) (by decide +kernel)) (fun _ _ _ _ _ => by exact (pg_name (i := 10) sc__law_forms.nd rfl (Or.inl rfl))) (fun _ _ _ _ _ => by exact pts_nil) (fun _ _ _ _ _ => by (refine' Vc.blkE ?h ?q; (case h => exact (pe_call G__law_pick (by exact hr.mono (by decide)) (by rfl) T.g__law_pick T.F__law_pick.kp T.b__law_pick .nil pass0 (pa_cons (pv 0) (pa_cons (pv 1) pa_nil)))); (case q => first | exact rfl | (dsimp only; done) | (dsimp only; exact rfl))))))) (pss_cons (ps_set (i := 7) sc__law_forms.nd rfl (Or.inl rfl) (pe_call G__law_draw (by exact hr.mono (by decide)) (by rfl) T.g__law_draw T.F__law_draw.kp T.b__law_draw .nil pass0 (pa_cons (pv 0) (pa_cons (pe_op op_add (pe_callB call_len_str (by rfl) T.n_len (by decide +kernel) (pa_cons (pv 6) pa_nil)) pe_int) pa_nil)))) (pss_cons (ps_set (i := 8) sc__law_forms.nd rfl (Or.inl rfl) (pe_call G__law_draw (by exact hr.mono (by decide)) (by rfl) T.g__law_draw T.F__law_draw.kp T.b__law_draw .nil pass0 (pa_cons (pv 0) (pa_cons pe_int pa_nil)))) (pss_cons (ps_set (i := 9) sc__law_forms.nd rfl (Or.inl rfl) pe_dnewK) (pss_cons (ps_for PassesOwn.never rfl (pi_range1 (by rfl) T.n_range (pa_cons (pe_op op_add pe_int (pe_call G__law_draw (by exact hr.mono (by decide)) (by rfl) T.g__law_draw T.F__law_draw.kp T.b__law_draw .nil pass0 (pa_cons (pv 0) (pa_cons pe_int pa_nil)))) pa_nil)) (pg_name (i := 10) sc__law_forms.nd rfl (Or.inl rfl)) (pss_cons (ps_set (i := 11) sc__law_forms.nd rfl (Or.inl rfl) (pe_call G__law_pick (by exact hr.mono (by decide)) (by rfl) T.g__law_pick T.F__law_pick.kp T.b__law_pick .nil pass0 (pa_cons (pv 0) (pa_cons (pe_lst (pa_cons pe_str (pa_cons pe_str (pa_cons pe_str (pa_cons pe_str pa_nil))))) pa_nil)))) (pss_cons (ps_set (i := 12) sc__law_forms.nd rfl (Or.inl rfl) (pe_op op_add pe_int (pe_call G__law_draw (by exact hr.mono (by decide)) (by rfl) T.g__law_draw T.F__law_draw.kp T.b__law_draw .nil pass0 (pa_cons (pv 0) (pa_cons pe_int pa_nil))))) (Evl.pss_cut (ps_if (PW.pt (pw_and (pt_cmpR op_eq (pv 12) pe_int (nomark _)) (pw_and1 (pt_cmpR op_in_seq (pv 11) (pe_tup (pa_cons pe_str (pa_cons pe_str pa_nil))) (by rfl))))) (pss_one (ps_set (i := 12) sc__law_forms.nd rfl (Or.inl rfl) pe_int)) pss_nil) (Evl.pss_cut (ps_if (pt_cmpR op_lt (pv 10) pe_int (nomark _)) (pss_one (ps_asg (pe_ix ix_list (pe_lst (pa_cons (pe_tup (pa_cons pe_str (pa_cons pe_int pa_nil))) (pa_cons (pe_tup (pa_cons pe_str (pa_cons pe_int pa_nil))) pa_nil))) (pv 10) (fun _ _ => rfl)) (pg_tup rfl (pgs_cons (pg_name (i := 11) sc__law_forms.nd rfl (Or.inl rfl)) (pgs_cons (pg_name (i := 12) sc__law_forms.nd rfl (Or.inl rfl)) pgs_nil))))) pss_nil) (pss_cons (ps_set (i := 13) sc__law_forms.nd rfl (Or.inl rfl) (pe_ix ix_str (pv 1) (pe_op op_mod (pe_callTy call_int1 (by rfl) T.n_int (by decide +kernel) (pa_cons (pe_op op_add (pv 8) (pv 10)) pa_nil)) pe_int) (fun _ _ => rfl))) (pss_one (ps_dput (by exact hu) (pv 9) (pe_ix ix_list (pv 5) (pv 10) (fun _ _ => rfl)) (pe_tup (pa_cons (pe_op op_add_str (pe_op op_add_str (pe_slice sl_str (pv 6) po_none (po_some (pv 7))) (pv 13)) (pe_slice sl_str (pv 6) (po_some (pv 7)) po_none)) (pa_cons (pv 12) (pa_cons (pv 11) pa_nil)))) rfl)))))))) (pss_one (ps_ret (pe_tup (pa_cons (pv 2) (pa_cons (pv 9) pa_nil)))))))))))))))), ?_⟩
  walk_at "go"
  refine ⟨b, c, _, 256, rfl, hB, nL _ (by omega), by omega, by omega, fun r H1 r0 r1 e1 hB1 => ?_⟩
  walk_at "go"
  intro q nq
  generalize hu2 : upd _ q _ = H2
  obtain ⟨e2, hq⟩ := Vc.alloc hu2 nq
  have hq : H2 q = some (.lst (([r, 0, 255] : List Int).map V.int)) := hq
  have nqb := (hB1.fb nq).1.symm
  walk_at "go"
  refine .inl ⟨b, c, q, _, _, rfl, hB1.ed0 e2, nL _ (by omega), hq, nqb, (by show 1 ≤ 3; omega), (by show 3 ≤ 1000; omega), fun j v H3 hv e3 hB3 => ?_⟩
  rw [List.getElem?_map] at hv
  obtain ⟨stop, hs, rfl⟩ := Option.map_eq_some_iff.mp hv
  have sb : 0 ≤ stop ∧ stop ≤ 255 := by
   have := List.mem_of_getElem? hs
   simp only [List.mem_cons, List.not_mem_nil, or_false] at this
   omega
  have e03 : Vc.Ed [b] H H3 := (e1.ex e2).trans e3 fun a z => .inl z
  clear e1 e2 e3 hq hu2 hs hv hB1 r0 r1
  walk_at "go"
  refine ⟨b, c, _, 256, rfl, hB3, nL _ (by omega), by omega, by omega, fun st H4 st0 st1 e4 hB4 => ?_⟩
  walk_at "go"
  intro q4 nq4
  generalize hu5 : upd _ q4 _ = H5
  obtain ⟨e5, hq5⟩ := Vc.alloc hu5 nq4
  have hq5 : H5 q4 = some (.lst (LEAPS.map V.int)) := hq5
  walk_at "go"
  refine .inl ⟨b, c, q4, _, _, rfl, hB4.ed0 e5, nL _ (by omega), hq5, (hB4.fb nq4).1.symm, (by show 1 ≤ 6; omega), (by show 6 ≤ 1000; omega), fun j2 v2 H6 hv2 e6 hB6 => ?_⟩
  rw [List.getElem?_map] at hv2
  obtain ⟨lp, hlp, rfl⟩ := Option.map_eq_some_iff.mp hv2
  have hlp := List.mem_of_getElem? hlp
  have e06 : Vc.Ed [b] H H6 := ((e03.trans e4 fun a z => .inl z).ex e5).trans e6 fun a z => .inl z
  have hB6 : Pen H6 b c (n + 6) := hB6.up (by omega)
  have lpb : 1 ≤ lp ∧ lp ≤ 127 := by
   simp only [LEAPS, List.mem_cons, List.not_mem_nil, or_false] at hlp
   omega
  clear e4 e5 e6 hq5 hu5 hB4 hB3 e03 hB
  walk_at "go"
  refine ⟨by omega, by omega, Vc.lc_by walk_range (fun L i H' => Vc.Ed [] H6 H' ∧ H' L = some (.lst (((List.range i).map fun k : Nat => (st + lp * k) % 256).map V.int))) (fun L H2 nL e2 hL => ⟨e2, hL⟩) (fun _ _ _ _ _ _ => trivial) ?_ ?_⟩
  ·rintro L i x H7 H8 nfL hi ⟨e7, hL⟩ ⟨rfl, rfl⟩
   walk_at "go"
   refine ⟨rfl, ?_⟩
   walk_at "go"
   refine ⟨_, hL, by rw [List.length_map, List.length_map, List.length_range]; exact small1000 (by have : i < 13 := hi; omega), ?_⟩
   generalize hu8 : upd _ L _ = H9
   obtain ⟨e9, hL9⟩ := Vc.chg hu8 hL
   exact ⟨e7.one e9 (.inr nfL), by rw [hL9, range_succ_map, List.map_append]; simp⟩
  rintro L H7 nfL ⟨e7, hL⟩
  have hL : H7 L = some (.lst ((spots st lp).map V.int)) := hL
  have e07 := e06.ex e7
  have hB7 := hB6.ed0 e7
  clear hB6 e06 e7 nq4 nq nqb
  walk_at "go"
  refine ⟨⟨_, .of hL⟩, Vc.lc_by (walk_list (xs := (spots st lp).map V.int)) (fun D i H' => Vc.Ed [] H7 H' ∧ H' D = some (.lst ((((spots st lp).take i).filter fun x => decide (x ≠ stop)).map V.int))) (fun D H4 nD e4 hD => ⟨e4, hD⟩) (fun D i H' _ _ q => .of (q.1.at0 hL)) ?_ ?_⟩
  ·rintro D i y H8 H9 nD hi ⟨e8, hD⟩ ⟨rfl, hy⟩
   rw [List.getElem?_map] at hy
   obtain ⟨c0, hc, rfl⟩ := Option.map_eq_some_iff.mp hy
   have e : ((spots st lp).take (i + 1)).filter (fun x => decide (x ≠ stop)) = ((spots st lp).take i).filter (fun x => decide (x ≠ stop)) ++ if c0 ≠ stop then [c0] else [] := by
    rw [List.take_add_one, hc, List.filter_append]
    congr 1
    show List.filter _ [c0] = _
    rw [List.filter_cons, List.filter_nil]
    by_cases g : c0 ≠ stop
    ·rw [if_pos (decide_eq_true g), if_pos g]
    ·rw [if_neg (by rw [decide_eq_false g]; decide), if_neg g]
   have sm : ((((spots st lp).take i).filter fun x => decide (x ≠ stop)).map V.int).length < sizeLine := small1000 (by
    rw [List.length_map]
    have := List.length_filter_le (fun x => decide (x ≠ stop)) ((spots st lp).take i)
    have : ((spots st lp).take i).length ≤ (spots st lp).length := by rw [List.length_take]; exact Nat.min_le_right _ _
    have : (spots st lp).length = 13 := by unfold spots; rw [List.length_map, List.length_range]
    omega)
   walk_at "go"
   refine ⟨rfl, ?_⟩
   walk_at "go"
   refine Vc.go_iten (c := c0 = stop) (fun g => ?_) (fun g => ?_)
   ·walk_at "go"
    refine ⟨_, hD, sm, ?_⟩
    generalize hu9 : upd _ D _ = H9
    obtain ⟨e9, hD9⟩ := Vc.chg hu9 hD
    exact ⟨e8.one e9 (.inr nD), by rw [hD9, e, if_pos g, List.map_append]; rfl⟩
   ·walk_at "go"
    exact ⟨e8, by rw [hD, e, if_neg (fun z => z g), List.append_nil]⟩
  rintro D H8 nD ⟨e8, hD⟩
  rw [List.length_map, List.take_length] at hD
  have hD : H8 D = some (.lst ((firsts st lp stop).map V.int)) := hD
  have fnd := firsts_nd (a := st) (stop := stop) hlp
  have fl := firsts_len (a := st) (stop := stop) hlp
  have fle := firsts_le (a := st) (l := lp) (stop := stop)
  have fb : ∀ x ∈ firsts st lp stop, 0 ≤ x ∧ x ≤ 255 ∧ x ≠ stop := fun x hx => firsts_b hx
  generalize firsts st lp stop = ws at hD fnd fl fle fb
  have e08 := e07.ex e8
  have hB8 := hB7.ed0 e8
  clear e07 e8 hL nfL
  have nDb := (hB7.fb nD).1
  clear hB7
  walk_at "go"
  refine ⟨b, c, _, 8, rfl, hB8, nL _ (by omega), by omega, by omega, fun r H9 r0 r1 e9 hB9 => ?_⟩
  have e09 := e08.trans e9 fun a z => .inl z
  have hD9 := e9.at1 nDb.symm hD
  clear e08 e9 hD hB8
  walk_at "go"
  refine ⟨by omega, by omega, Vc.lc_by walk_range (fun L i H' => Vc.Ed [b] H9 H' ∧ Pen H' b c (n + 7 + i) ∧ ∃ cs : List Nat, cs.length = i ∧ (∀ c ∈ cs, c ∈ LET) ∧ H' L = some (.lst (cs.map fun c => .str ⟨#[c]⟩))) (fun L H2 nL e2 hL => ⟨by walk_at "ed", hB9.ed0 e2, [], rfl, (by intro c h; cases h), hL⟩) (fun _ _ _ _ _ _ => trivial) ?_ ?_⟩
  ·rintro L i x H2 H3 nfL hi ⟨e2, hB2, cs, lc, hc, hL⟩ ⟨rfl, rfl⟩
   have hi : i < r.toNat := by simpa using hi
   walk_at "go"
   refine ⟨rfl, ?_⟩
   walk_at "go"
   refine .inr ⟨b, c, _, _, rfl, hB2, nL _ (by omega), l26', l26, fun j c' H4 hz e4 hB4 => ?_⟩
   rw [letters_eq] at hz
   have nb := hB9.fb nfL
   have hL4 := e4.at1 nb.1.symm hL
   refine ⟨_, hL4, by rw [List.length_map]; exact small1000 (by omega), ?_⟩
   generalize hu5 : upd _ L _ = H5
   obtain ⟨e5, hL5⟩ := Vc.chg hu5 hL4
   refine ⟨(e2.trans e4 fun a z => .inl z).one e5 (.inr nfL), (hB4.ed1 e5 nb.1 nb.2).up (by omega), cs ++ [c'], by rw [List.length_append, lc]; rfl, fun c' hc' => ?_, by rw [List.map_append]; exact hL5⟩
   rcases List.mem_append.mp hc' with h | h
   ·exact hc c' h
   ·rw [List.mem_singleton.mp h]; exact List.mem_of_getElem? hz
  rintro L H2 nfL ⟨e2, hB2, cs, lc, hc, hL⟩
  have hD2 := e2.at1 nDb.symm hD9
  walk_at "go"
  have hL' : SqL K H2 L ((cs.map fun c => (⟨#[c]⟩ : Str)).map V.str) := by rw [List.map_map]; exact .of hL
  have lc7 : cs.length ≤ 7 := by rw [lc]; show r.toNat ≤ 7; omega
  refine Vc.go_join hL' ?_ ?_
  ·have e0 : ("" : Str).length = 0 := by decide +kernel
   rw [e0, cs_sum]
   omega
  rw [join_one]
  have zl : (⟨cs.toArray⟩ : Str).length = cs.length := by show cs.toArray.size = _; simp
  have zl1 : (⟨cs.toArray⟩ : Str).length ≤ 1000 := by omega
  have e02 := e09.trans e2 fun a z => .inl z
  have hB2 : Pen H2 b c (n + 20) := hB2.up (by omega)
  clear e09 e2 hD9 hB9 lc hL hL'
  walk_at "go"
  rw [zl]
  refine ⟨b, c, _, _, rfl, hB2, nL _ (by omega), by omega, by omega, fun sp H3 p0 p1 e3 hB3 => ?_⟩
  walk_at "go"
  refine ⟨b, c, _, 26, rfl, hB3, nL _ (by omega), by omega, by omega, fun fi H4 f0 f1 e4 hB4 => ?_⟩
  walk_at "go"
  intro f nf
  generalize hu5 : upd _ f _ = H5
  obtain ⟨e5, hf5⟩ := Vc.alloc hu5 nf
  have e04 := (e02.trans e3 fun a z => .inl z).trans e4 fun a z => .inl z
  have e05 := e04.ex e5
  have hB5 := hB4.ed0 e5
  have nfb := (hB4.fb nf).1.symm
  have nfc := (hB4.fb nf).2.symm
  have nf0 : H f = none := e04.dom _ nf
  have hD5 := e5.at0 ((e3.trans e4 fun a z => .inl z).at1 nDb.symm hD2)
  clear e02 e3 e4 hB2 hB3 hB4 hD2 e04 e5 hu5
  walk_at "go"
  refine ⟨b, c, _, 9, rfl, hB5, nL _ (by omega), by omega, by omega, fun cnt H6 c0 c1 e6 hB6 => ?_⟩
  have e06 := e05.trans e6 fun a z => .inl z
  have hf6 := e6.at1 nfb hf5
  have hD6 := e6.at1 nDb.symm hD5
  have nfD : f ≠ D := fun z => by rw [z, hD5] at hf5; cases hf5
  clear e05 e6 hf5 hD5 hB5
  walk_at "go"
  obtain ⟨s, rfl⟩ : ∃ s : Nat, sp = (s : Int) := ⟨sp.toNat, by omega⟩
  obtain ⟨fn, rfl⟩ : ∃ fn : Nat, fi = (fn : Int) := ⟨fi.toNat, by omega⟩
  have hB6 : Pen H6 b c (n + 24) := hB6.up (by omega)
  refine ⟨by omega, by omega, for_range (lo := 0) (fun i σ H' => ∃ y10 y11 y12 y13 y14 its, σ = [some (.ref b), some (.str "abcdefghijklmnopqrstuvwxyz"), some (.int stop), some (.int st), some (.int lp), some (.ref D), some (.str ⟨cs.toArray⟩), some (.int (s : Int)), some (.int (fn : Int)), some (.ref f), y10, y11, y12, y13, y14] ∧ Vc.Ed [b] H H' ∧ Pen H' b c (n + 24 + 2 * i) ∧ FTups H' f its ∧ H' D = some (.lst (ws.map V.int)) ∧ Drawn stop cs s fn its ∧ Gen its ∧ its.length = i ∧ (its.map (·.1)).map (·.byte) = ws.take i) ⟨none, none, none, none, none, [], rfl, e06, hB6, ⟨hf6, (fun p h => nomatch h)⟩, hD6, ⟨(fun p h => nomatch h), (fun p h => nomatch h), rfl⟩, (fun j p h => nomatch h), rfl, rfl⟩ ?_ ?_⟩
  ·rintro i σ H7 hi ⟨y10, y11, y12, y13, y14, its, rfl, e7, hB7, hT7, hD7, hDr, hG, li, hby⟩
   have hi : i < 10 := by omega
   walk_at "go"
   intro M nM
   generalize hu8 : upd _ M _ = H8
   obtain ⟨e8, hM⟩ := Vc.alloc hu8 nM
   have hM : H8 M = some (.lst ((["next", "jump", "test", "end"] : List Str).map V.str)) := hM
   walk_at "go"
   refine .inl ⟨b, c, M, _, _, rfl, hB7.ed0 e8, nL _ (by omega), hM, (hB7.fb nM).1.symm, (by show 1 ≤ 4; omega), (by show 4 ≤ 1000; omega), fun j v H9 hv e9 hB9 => ?_⟩
   rw [List.getElem?_map] at hv
   obtain ⟨fl, hfl, rfl⟩ := Option.map_eq_some_iff.mp hv
   have hfl : Flow fl := by
    have := List.mem_of_getElem? hfl
    simp only [List.mem_cons, List.not_mem_nil, or_false] at this
    exact this
   have e79 : Vc.Ed [b] H7 H9 := (e8.mono fun _ z => nomatch z).trans e9 fun a z => .inl z
   have hT9 := hT7.ed1 e79 nfb
   have hD9 := e79.at1 nDb.symm hD7
   walk_at "go"
   refine ⟨b, c, _, 4, rfl, hB9, nL _ (by omega), by omega, by omega, fun li0 H10 l0 l1 e10 hB10 => ?_⟩
   have hT10 := hT9.ed1 e10 nfb
   have hD10 := e10.at1 nDb.symm hD9
   have e7x := e79.trans e10 fun a z => .inl z
   have e010 := e7.trans e7x fun a z => .inl z
   have hB10 : Pen H10 b c (n + 24 + 2 * (i + 1)) := hB10.up (by omega)
   clear hM e8 e9 e10 e79 e7x e7 hT7 hT9 hD7 hD9 hB7 hB9 hv nM hu8 hf6 hD6 hB6 e06
   walk_at "go"
   refine Evl.q_cut (M := fun σ' H' => ∃ (len : Int), σ' = [some (.ref b), some (.str "abcdefghijklmnopqrstuvwxyz"), some (.int stop), some (.int st), some (.int lp), some (.ref D), some (.str ⟨cs.toArray⟩), some (.int (s : Int)), some (.int (fn : Int)), some (.ref f), some (.int (0 + (i : Int))), some (.str fl), some (.int len), y13, y14] ∧ Vc.Ed [] H10 H' ∧ 1 ≤ len ∧ len ≤ 4 ∧ (fl = "jump" ∨ fl = "test" → 2 ≤ len)) ?_ ?_
   ·walk_at "go"
    refine Vc.go_ite (fun h3 => ?_) (fun h3 => ?_)
    ·walk_at "go"
     intro M2 nM2
     generalize hu11 : upd _ M2 _ = H11
     obtain ⟨e11, hM2⟩ := Vc.alloc hu11 nM2
     walk_at "go"
     rw [inV2]
     refine Vc.go_ite (fun h4 => ?_) (fun h4 => ?_)
     ·walk_at "go"
      exact ⟨_, rfl, e11, by omega, by omega, fun _ => by omega⟩
     ·walk_at "go"
      exact ⟨_, rfl, e11, by omega, by omega, fun h => (h4 h).elim⟩
    ·walk_at "go"
     exact ⟨_, rfl, Vc.Ed.refl, by omega, by omega, fun _ => by omega⟩
   rintro σ' H11 ⟨len, rfl, e11, l1, l4, tw⟩
   refine Evl.q_cut (M := fun σ' H' => ∃ (len : Int) (fl : Str), σ' = [some (.ref b), some (.str "abcdefghijklmnopqrstuvwxyz"), some (.int stop), some (.int st), some (.int lp), some (.ref D), some (.str ⟨cs.toArray⟩), some (.int (s : Int)), some (.int (fn : Int)), some (.ref f), some (.int (0 + (i : Int))), some (.str fl), some (.int len), y13, y14] ∧ Vc.Ed [] H10 H' ∧ 1 ≤ len ∧ len ≤ 4 ∧ Flow fl ∧ (fl = "jump" ∨ fl = "test" → 2 ≤ len) ∧ (i < 2 → len = 1 ∧ fl = flow32 i)) ?_ ?_
   ·walk_at "go"
    refine Vc.go_ite (fun h3 => ?_) (fun h3 => ?_)
    ·walk_at "go"
     intro p1 np1
     generalize hu12 : upd _ p1 _ = H12
     obtain ⟨e12, hp1⟩ := Vc.alloc hu12 np1
     walk_at "go"
     intro p2 np2
     generalize hu13 : upd _ p2 _ = H13
     obtain ⟨e13, hp2⟩ := Vc.alloc hu13 np2
     walk_at "go"
     intro L3 nL3
     generalize hu14 : upd _ L3 _ = H14
     obtain ⟨e14, hL3⟩ := Vc.alloc hu14 nL3
     have e114 := ((e11.ex e12).ex e13).ex e14
     have i2 : i = 0 ∨ i = 1 := by omega
     rcases i2 with rfl | rfl
     ·have ha : atI [V.ref p1, .ref p2] (0 + ((0 : Nat) : Int)) = some (.ref p1) := rfl
      have hp1' := e14.tup _ _ (e13.tup _ _ hp1)
      walk_at "go"
      refine ⟨p1, _, rfl, .of hp1', rfl, _, _, rfl, ?_⟩
      walk_at "go"
      refine ⟨_, _, rfl, ?_⟩
      walk_at "go"
      refine ⟨rfl, ?_⟩
      refine ⟨_, _, rfl, e114, by omega, by omega, .inl rfl, fun h => ?_, fun _ => ⟨rfl, rfl⟩⟩
      rcases h with h | h <;> exact absurd h (by decide)
     ·have ha : atI [V.ref p1, .ref p2] (0 + ((1 : Nat) : Int)) = some (.ref p2) := rfl
      have hp2' := e14.tup _ _ hp2
      walk_at "go"
      refine ⟨p2, _, rfl, .of hp2', rfl, _, _, rfl, ?_⟩
      walk_at "go"
      refine ⟨_, _, rfl, ?_⟩
      walk_at "go"
      refine ⟨rfl, ?_⟩
      refine ⟨_, _, rfl, e114, by omega, by omega, .inr (.inr (.inr rfl)), fun h => ?_, fun _ => ⟨rfl, rfl⟩⟩
      rcases h with h | h <;> exact absurd h (by decide)
    ·walk_at "go"
     exact ⟨_, _, rfl, e11, l1, l4, hfl, tw, fun h => by omega⟩
   clear e11 l1 l4 tw hfl
   rintro σ' H12 ⟨len, fl, rfl, e12, l1, l4, hfl, tw, hen⟩
   have hT12 := hT10.ed0 e12
   have hB12 := hB10.ed0 e12
   have hD12 := e12.at0 hD10
   have zt : (cutS ⟨cs.toArray⟩ none (some (s : Int))).length ≤ 7 := Nat.le_trans (cutS_length _ _ _) (by omega)
   have zd : (cutS ⟨cs.toArray⟩ (some (s : Int)) none).length ≤ 7 := Nat.le_trans (cutS_length _ _ _) (by omega)
   have hm0 : 0 ≤ ((fn : Int) + (0 + (i : Int))) % 26 := by omega
   have hm1 : ((fn : Int) + (0 + (i : Int))) % 26 < 26 := by omega
   have ha : atI ("abcdefghijklmnopqrstuvwxyz" : Str).cps.toList (((fn : Int) + (0 + (i : Int))) % 26) = some (LET.getD ((fn + i) % 26) 0) := by
    have := let_at hm0 hm1
    rwa [show (((fn : Int) + (0 + (i : Int))) % 26).toNat = (fn + i) % 26 by omega] at this
   have z1 : (cutS ⟨cs.toArray⟩ none (some (s : Int))).length + (⟨#[LET.getD ((fn + i) % 26) 0]⟩ : Str).length ≤ 1000 := by
    have : (⟨#[LET.getD ((fn + i) % 26) 0]⟩ : Str).length = 1 := rfl
    omega
   have z2 : (cutS ⟨cs.toArray⟩ none (some (s : Int)) ++ (⟨#[LET.getD ((fn + i) % 26) 0]⟩ : Str)).length + (cutS ⟨cs.toArray⟩ (some (s : Int)) none).length ≤ 1000 := by
    have : (cutS ⟨cs.toArray⟩ none (some (s : Int)) ++ (⟨#[LET.getD ((fn + i) % 26) 0]⟩ : Str)).length = (cutS ⟨cs.toArray⟩ none (some (s : Int))).length + 1 := by
     show (_ ++ _ : Array Nat).size = _
     rw [Array.size_append]; rfl
    omega
   have kl : (kvsOf its).length ≤ 1000 := by rw [kvsOf_len]; omega
   have enm := nm_eq (cs := cs) (s := s) (j := (fn + i) % 26)
   have wi : ws[i]? = some ws[i] := List.getElem?_eq_getElem (by omega)
   have hxm := fb _ (List.mem_of_getElem? wi)
   generalize ws[i] = bx at wi hxm
   have hai : atI (ws.map V.int) (0 + (i : Int)) = some (.int bx) := at_of (j := i) (by omega) (by rw [List.getElem?_map, wi]; rfl)
   have hn : valV (kvsOf its) (.inl bx) = none := kvO_none fun p hp e => by
    have hm : bx ∈ ws.take i := by rw [← hby, ← e]; exact List.mem_map.mpr ⟨p.1, List.mem_map.mpr ⟨p, hp, rfl⟩, rfl⟩
    obtain ⟨j', hj'⟩ := List.mem_iff_getElem?.mp hm
    have jl : j' < (ws.take i).length := (List.getElem?_eq_some_iff.mp hj').1
    rw [List.length_take] at jl
    rw [List.getElem?_take_of_lt (by omega)] at hj'
    have := (List.getElem?_inj (by omega) fnd).mp (hj'.trans wi.symm)
    omega
   have e012 := e010.ex e12
   clear e12 e010 hT10 hD10 hB10
   walk_at "go"
   intro tp ntp
   generalize hu13 : upd _ tp _ = H13
   obtain ⟨e13, ht13⟩ := Vc.alloc hu13 ntp
   have hT13 := hT12.ed0 e13
   have hf13 : H13 f = some (.dK (kvsOf its)) := hT13.ob
   have hD13 := e13.at0 hD12
   walk_at "go"
   generalize hu14 : upd _ f _ = H14
   obtain ⟨e14, hf14⟩ := Vc.chg hu14 hf13
   rw [enm] at ht13
   rw [kvsOf_put (f := ⟨bx, nmOf cs s ((fn + i) % 26), len, fl⟩) hn] at hf14
   have hB13 : Pen H13 b c _ := hB12.ed0 e13
   refine ⟨_, _, _, _, _, its ++ [(⟨bx, nmOf cs s ((fn + i) % 26), len, fl⟩, tp)], rfl, (e012.ex e13).one e14 (.inr nf0), hB13.ed1 e14 nfb.symm nfc.symm, ⟨hf14, fun p hp => ?_⟩, e14.at1 nfD.symm hD13, hDr.put ⟨by rw [nm_len]; omega, by rw [nm_len]; omega, nm_let hc (Nat.mod_lt _ (by decide)), l1, l4, hfl, tw⟩ hxm (by rw [li]), hG.put (fun h => by rw [li] at h ⊢; exact hen h), by rw [List.length_append, li]; rfl, by rw [List.map_append, List.map_append, hby, List.take_add_one, wi]; rfl⟩
   refine e14.tup _ _ ?_
   rcases List.mem_append.mp hp with hp | hp
   ·exact hT13.tp p hp
   ·rw [List.mem_singleton.mp hp]; exact ht13
  ·rintro σ H7 ⟨y10, y11, y12, y13, y14, its, rfl, e7, hB7, hT7, hD7, hDr, hG, li, hby⟩
   have l2 : 2 ≤ its.length := by omega
   have l16 : its.length ≤ 16 := by omega
   walk_at "go"
   intro t nt
   generalize hu8 : upd _ t _ = H8
   obtain ⟨e8, ht⟩ := Vc.alloc hu8 nt
   refine k t f its stop H8 (e7.ex e8) ((hB7.ed0 e8).up (by omega)) nf0 ht (hT7.ed0 e8) l2 ⟨by rw [List.length_map]; omega, by rw [List.length_map]; exact l16, fun d hd => ?_, fun d hd => ?_, by rw [hby]; exact fnd.sublist (List.take_sublist _ _), by rw [hDr.nms]; exact nm_nodup32 (by omega), sb.1, sb.2⟩ hG
   ·obtain ⟨p, hp, rfl⟩ := List.mem_map.mp hd
    exact hDr.ok p hp
   ·obtain ⟨p, hp, rfl⟩ := List.mem_map.mp hd
    exact hDr.byt p hp
end
end My
namespace My
open PySem PySem.Spec PyProof.Rows L2
theorem fresh_byte {its : List (FD × Addr)} {i : Nat} {p : FD × Addr} (nd : ((its.map (·.1)).map (·.byte)).Nodup) (hp : its[i]? = some p) : ∀ f ∈ (its.take i).map (·.1), f.byte ≠ p.1.byte := by
 intro f hf e
 obtain ⟨q, hq, rfl⟩ := List.mem_map.mp hf
 exact nd_take nd hp q hq e
def spMadeCodes (A : Ad) : Sp := fun vs H Q _ => ∃ (f : Addr) (stop : Int) (its : List (FD × Addr)), vs = [.int stop, .ref f] ∧ FTups H f its ∧ Valid stop (its.map (·.1)) ∧
 ∀ (x : CodeO) (H' : Hp), Vc.Ed [] H H' → x.stop = stop → x.fs.Perm (its.map (·.1)) → x.Ok → x.At A H' → Q (.ref x.c) H'
section
variable {P : Program} {w : World} {K : PySem.W.Frag} {mg : Str → Option Value} {base : Heap} {A : Ad}
theorem ok__law_codes (T : Txt K mg A) : FnOk P w K mg base CX0 5 A.f__law_codes A.d__law_codes ["_law_stop", "_law_forms_here"] (spMadeCodes A) := by
 have G_Formu_initu := ok_Formu_initu (P := P) (w := w) (base := base) T
 have G_CodeSetu_initu := ok_CodeSetu_initu (P := P) (w := w) (base := base) T
 refine T.F__law_codes.ok sc__law_codes (fun vs H Q E h => ?_) (fun cdv Ar outer s H vs Q E hr h => ?_)
 ·obtain ⟨f, stop, its, rfl, _⟩ := h
  rfl
 ·obtain ⟨f, stop, its, rfl, TA, Va, k⟩ := h
  have hu := hu_of hr
  have v1 := Va.n1
  have v16 := Va.n16
  rw [List.length_map] at v1 v16
  refine ⟨_, (pss_cons (ps_set (i := 2) sc__law_codes.nd rfl (Or.inl rfl) pe_dnewK) (pss_cons (ps_lock (ps_for PassesOwn.never rfl (pi_keys (pv 1)) (pg_name (i := 3) sc__law_codes.nd rfl (Or.inl rfl)) (pss_cons (ps_asg (pe_dget (by exact hu) (pv 1) (pv 3) (fun _ _ => rfl)) (pg_tup rfl (pgs_cons (pg_name (i := 4) sc__law_codes.nd rfl (Or.inl rfl)) (pgs_cons (pg_name (i := 5) sc__law_codes.nd rfl (Or.inl rfl)) (pgs_cons (pg_name (i := 6) sc__law_codes.nd rfl (Or.inl rfl)) pgs_nil))))) (pss_one (ps_dput (by exact hu) (pv 2) (pv 3) (pe_make T.mk_Form G_Formu_initu (by exact hr.mono (by decide)) (by rfl) T.g_Form T.b_Formu_initu .nil pass0 (pa_cons (pv 4) (pa_cons (pv 5) (pa_cons (pv 6) pa_nil)))) rfl))))) (pss_one (ps_ret (pe_make T.mk_CodeSet G_CodeSetu_initu (by exact hr.mono (by decide)) (by rfl) T.g_CodeSet T.b_CodeSetu_initu .nil pass0 (pa_cons (pv 0) (pa_cons (pv 2) pa_nil))))))), ?_⟩
  walk_at "go"
  intro m nm
  generalize hu2 : upd _ m _ = H2
  obtain ⟨e2, hm⟩ := Vc.alloc hu2 nm
  have T2 := TA.ed0 e2
  have nfm : f ≠ m := ne_of_none TA.ob nm
  walk_at "go"
  refine Vc.lock_keys rfl T2.ob [m] (fun H1 i σ H' => ∃ y y4 y5 y6 items, σ = [some (.int stop), some (.ref f), some (.ref m), y, y4, y5, y6] ∧ Vc.Ed [m] H1 H' ∧ MadeAt A H' m items ∧ (∀ q ∈ items, q.2 ≠ f) ∧ items.map (·.1) = (its.take i).map (·.1)) (fun _ _ _ _ h => h.choose_spec.choose_spec.choose_spec.choose_spec.choose_spec.2.1) (fun H1 od e1 _ => ⟨none, none, none, none, [], rfl, .refl, ⟨e1.at1 nfm.symm hm, (by intro p h; cases h)⟩, (by intro p h; cases h), by simp⟩) ?_ ?_
  ·rintro H1 od i k' v σ H' e1 h1 h1' hk ⟨y, y4, y5, y6, items, rfl, e3, M, nf, hi⟩
   obtain ⟨p, hp, rfl, rfl⟩ := kvsOf_get hk
   have hmem := List.mem_of_getElem? hp
   have hv := kvsOf_val Va.ndb hmem
   have ok := Va.ok p.1 (List.mem_map.mpr ⟨p, hmem, rfl⟩)
   have htp : H' p.2 = some (.tup [.str p.1.name, .int p.1.len, .str p.1.flow]) := e3.tup _ _ (e1.tup _ _ (T2.tp p hmem))
   have a0 : atI [V.str p.1.name, .int p.1.len, .str p.1.flow] 0 = some (.str p.1.name) := rfl
   have a1 : atI [V.str p.1.name, .int p.1.len, .str p.1.flow] 1 = some (.int p.1.len) := rfl
   have a2 : atI [V.str p.1.name, .int p.1.len, .str p.1.flow] 2 = some (.str p.1.flow) := rfl
   have hi16 : i < its.length := (List.getElem?_eq_some_iff.mp hp).1
   change gName 3 (V.int p.1.byte) _ _ _
   walk_at "go"
   refine ⟨p.2, _, rfl, .of htp, rfl, _, _, rfl, ?_⟩
   walk_at "go"
   refine ⟨_, _, rfl, ?_⟩
   walk_at "go"
   refine ⟨_, _, rfl, ?_⟩
   walk_at "go"
   refine ⟨rfl, ?_⟩
   walk_at "go"
   intro x dx nx ndx ne
   generalize hu4 : upd _ x _ = H4
   obtain ⟨e4, hx, hdx⟩ := Vc.allocI hu4 nx ndx ne
   refine ⟨x, dx, p.1, rfl, ok, hx, fun H5 e5 hF => ⟨rfl, ?_⟩⟩
   have nmx : m ≠ x := ne_of_none M.ob nx
   have hm5 : H5 m = some (.dK (kvsOf items)) := e5.at1 nmx (e4.at0 M.ob)
   have hil : items.length = i := by
    have := congrArg List.length hi
    rw [List.length_map, List.length_map, List.length_take] at this
    omega
   have kl : (kvsOf items).length ≤ 1000 := by rw [kvsOf_len]; omega
   walk_at "go"
   generalize hu6 : upd _ m _ = H6
   obtain ⟨e6, hm6⟩ := Vc.chg hu6 hm5
   have nx1 : H1 x = none := e3.dom _ nx
   have hn : valV (kvsOf items) (.inl p.1.byte) = none := kvO_none fun q hq => fresh_byte Va.ndb hp q.1 (hi ▸ List.mem_map.mpr ⟨q, hq, rfl⟩)
   rw [kvsOf_put (f := p.1) hn] at hm6
   refine ⟨_, _, _, _, items ++ [(p.1, x)], rfl, (by walk_at "ed"), ⟨hm6, fun q hq => ?_⟩, fun q hq => ?_, ?_⟩
   ·rcases List.mem_append.mp hq with hq | hq
    ·obtain ⟨dq, hq'⟩ := M.fm q hq
     exact ((M.fm q hq).ed0 e4 |>.ed e5 (fun z => ne_of_none hq' nx (List.mem_singleton.mp z))).ed1 e6 hm5 (fun _ _ _ => by intro z; cases z)
    ·rw [List.mem_singleton.mp hq]
     exact hF.ed1 e6 hm5 (fun _ _ _ => by intro z; cases z)
   ·rcases List.mem_append.mp hq with hq | hq
    ·exact nf q hq
    ·rw [List.mem_singleton.mp hq]
     exact (ne_of_none h1' nx).symm
   ·rw [List.map_append, hi, List.take_add_one, hp, List.map_append]; rfl
  ·rintro H1 σ H' H3 e1 ⟨y, y4, y5, y6, items, rfl, e3, M, nf, hi⟩ e4 hf4 k2
   rw [kvsOf_len, List.take_of_length_le (Nat.le_refl _)] at hi
   have M3 : MadeAt A H3 m items := ⟨k2 _ _ nfm.symm M.ob, fun q hq => by
    obtain ⟨dq, hq'⟩ := M.fm q hq
    exact ⟨dq, k2 _ _ (nf q hq) hq'⟩⟩
   walk_at "go"
   intro x dx nx ndx ne
   generalize hu4 : upd _ x _ = H4
   obtain ⟨e5, hx, hdx⟩ := Vc.allocI hu4 nx ndx ne
   refine ⟨x, dx, m, stop, items, rfl, ⟨e5.at0 M3.ob, fun q hq => (M3.fm q hq).ed0 e5⟩, hi ▸ Va, hx, fun c H5 hxc hst hpm ok e6 nt no CA => ⟨rfl, ?_⟩⟩
   rw [← hxc]
   rw [← hxc] at e6
   have nx0 : H4 c.c ≠ none := by rw [hxc, hx]; intro z; cases z
   have nx1 : H3 c.c = none := by rw [hxc]; exact nx
   exact k c H5 (by walk_at "ed") hst (by rw [← hi]; exact hpm.map _) ok CA
def spByte32 : Sp := fun vs H Q _ => ∃ (b c f : Addr) (n : Nat) (stop : Int) (its : List (FD × Addr)), vs = [.ref b, .int stop, .ref f] ∧ Pen H b c n ∧ n + 10 ≤ LIM ∧ FTups H f its ∧ Valid stop (its.map (·.1)) ∧
 ∀ v H', 0 ≤ v → v ≤ 255 → Vc.Ed [b] H H' → Pen H' b c (n + 10) → Q (.int v) H'
theorem ok__law_byte (T : Txt K mg A) : FnOk P w K mg base CX0 3 A.f__law_byte A.d__law_byte ["_law_pen_here", "_law_stop", "_law_forms_here"] spByte32 := by
 have G__law_draw := ok__law_draw (P := P) (w := w) (base := base) T
 have G__law_pick := ok__law_pick (P := P) (w := w) (base := base) T
 refine T.F__law_byte.ok sc__law_byte (fun vs H Q E h => ?_) (fun cdv Ar outer s H vs Q E hr h => ?_)
 ·obtain ⟨b, c, f, n, stop, its, rfl, _⟩ := h
  rfl
 ·obtain ⟨b, c, f, n, stop, its, rfl, hB, nl, TA, Va, k⟩ := h
  have lim : LIM = 1000000 := rfl
  have v1 := Va.n1
  have v16 := Va.n16
  rw [List.length_map] at v1 v16
  have hf := TA.ob
  have nfb : f ≠ b := fun z => by
   obtain ⟨x, a, r, hb⟩ := hB.lst
   rw [z, hb] at hf; cases hf
  have ek : (kvsOf its).map (fun kv => kV kv.1) = (its.map fun p => p.1.byte).map V.int := by
   unfold kvsOf
   rw [List.map_map, List.map_map]; rfl
  have bb : ∀ x ∈ its.map (fun p => p.1.byte), 0 ≤ x ∧ x ≤ 255 := fun x hx => by
   obtain ⟨p, hp, rfl⟩ := List.mem_map.mp hx
   have := Va.byt p.1 (List.mem_map.mpr ⟨p, hp, rfl⟩)
   exact ⟨this.1, this.2.1⟩
  generalize hbs : its.map (fun p => p.1.byte) = bs at ek bb
  have bl : bs.length = its.length := by rw [← hbs, List.length_map]
  refine ⟨_, (pss_cons (ps_set (i := 3) sc__law_byte.nd rfl (Or.inl rfl) (pe_lst (pa_cons (pe_call G__law_pick (by exact hr.mono (by decide)) (by rfl) T.g__law_pick T.F__law_pick.kp T.b__law_pick .nil pass0 (pa_cons (pv 0) (pa_cons (pe_callTy (call_list_dK rfl) (by rfl) T.n_list (by decide +kernel) (pa_cons (pv 2) pa_nil)) pa_nil))) (pa_cons (pe_call G__law_pick (by exact hr.mono (by decide)) (by rfl) T.g__law_pick T.F__law_pick.kp T.b__law_pick .nil pass0 (pa_cons (pv 0) (pa_cons (pe_callTy (call_list_dK rfl) (by rfl) T.n_list (by decide +kernel) (pa_cons (pv 2) pa_nil)) pa_nil))) (pa_cons (pv 1) (pa_cons (pe_call G__law_draw (by exact hr.mono (by decide)) (by rfl) T.g__law_draw T.F__law_draw.kp T.b__law_draw .nil pass0 (pa_cons (pv 0) (pa_cons pe_int pa_nil))) pa_nil)))))) (pss_one (ps_ret (pe_call G__law_pick (by exact hr.mono (by decide)) (by rfl) T.g__law_pick T.F__law_pick.kp T.b__law_pick .nil pass0 (pa_cons (pv 0) (pa_cons (pv 3) pa_nil)))))), ?_⟩
  walk_at "go"
  intro q1 nq1
  rw [ek]
  generalize hu1 : upd _ q1 _ = H1
  obtain ⟨e1, hq1⟩ := Vc.alloc hu1 nq1
  walk_at "go"
  refine .inl ⟨b, c, q1, _, _, rfl, hB.ed0 e1, by omega, hq1, (hB.fb nq1).1.symm, by rw [List.length_map]; omega, by rw [List.length_map]; omega, fun j1 v1 H2 hv1 e2 hB2 => ?_⟩
  rw [List.getElem?_map] at hv1
  obtain ⟨x1, hx1, rfl⟩ := Option.map_eq_some_iff.mp hv1
  have b1 := bb x1 (List.mem_of_getElem? hx1)
  have e02 : Vc.Ed [b] H H2 := (e1.mono fun _ z => nomatch z).trans e2 fun a z => .inl z
  have hf2 := e02.at1 nfb hf
  walk_at "go"
  intro q3 nq3
  rw [ek]
  generalize hu3 : upd _ q3 _ = H3
  obtain ⟨e3, hq3⟩ := Vc.alloc hu3 nq3
  walk_at "go"
  refine .inl ⟨b, c, q3, _, _, rfl, hB2.ed0 e3, by omega, hq3, (hB2.fb nq3).1.symm, by rw [List.length_map]; omega, by rw [List.length_map]; omega, fun j2 v2 H4 hv2 e4 hB4 => ?_⟩
  rw [List.getElem?_map] at hv2
  obtain ⟨x2, hx2, rfl⟩ := Option.map_eq_some_iff.mp hv2
  have b2 := bb x2 (List.mem_of_getElem? hx2)
  have e04 := (e02.ex e3).trans e4 fun a z => .inl z
  walk_at "go"
  refine ⟨b, c, _, 256, rfl, hB4, by omega, by omega, by omega, fun x4 H5 x40 x41 e5 hB5 => ?_⟩
  have e05 := e04.trans e5 fun a z => .inl z
  walk_at "go"
  intro q nq
  generalize hu6 : upd _ q _ = H6
  obtain ⟨e6, hq⟩ := Vc.alloc hu6 nq
  have hq : H6 q = some (.lst (([x1, x2, stop, x4] : List Int).map V.int)) := hq
  walk_at "go"
  refine .inl ⟨b, c, q, _, _, rfl, hB5.ed0 e6, by omega, hq, (hB5.fb nq).1.symm, (by show 1 ≤ 4; omega), (by show 4 ≤ 1000; omega), fun j v H7 hv e7 hB7 => ?_⟩
  rw [List.getElem?_map] at hv
  obtain ⟨x, hx, rfl⟩ := Option.map_eq_some_iff.mp hv
  have xb : 0 ≤ x ∧ x ≤ 255 := by
   have := List.mem_of_getElem? hx
   have s0 := Va.s0
   have s1 := Va.s1
   simp only [List.mem_cons, List.not_mem_nil, or_false] at this
   omega
  exact k x H7 xb.1 xb.2 ((e05.ex e6).trans e7 fun a z => .inl z) (hB7.up (by omega))
end
end My
namespace My
open PySem PySem.Spec PyProof.Rows L2
theorem flat_ints (ns : List Int) : (ns.map V.int).all flatV = true := List.all_eq_true.mpr fun x hx => by
 obtain ⟨n, _, rfl⟩ := List.mem_map.mp hx
 rfl
section
variable {K : PySem.W.Frag} {H : Hp} {Q : VK} {t : Addr} {c : List Int}
theorem cut_all {xs : List V} {lo hi : Option Int} (z : HT.sIx xs.length 0 lo = 0 ∧ HT.sIx xs.length xs.length hi = xs.length) : cutV xs lo hi = xs := by
 unfold cutV
 rw [z.1, z.2, List.drop_zero, Nat.sub_zero, List.take_of_length_le (Nat.le_refl _)]
theorem sl_ints (a b : Nat) (ht : H t = some (.tup (c.map V.int))) (k : ∀ q H', Vc.Ed [] H H' → H' q = some (.tup (((c.drop a).take (b - a)).map V.int)) → Q (.ref q) H') : rSlA K (.ref t) (some (a : Int)) (some (b : Int)) H Q := by
 have e : cutV (c.map V.int) (some (a : Int)) (some (b : Int)) = ((c.drop a).take (b - a)).map V.int := by rw [Vc.cut_mid, ← List.map_drop, ← List.map_take]
 refine ⟨t, _, rfl, .of ht, fun z => k t H .refl ?_, fun _ q nq => k q _ (.new nq) ?_⟩
 ·rw [← e, cut_all z]; exact ht
 ·rw [e]; exact upd_same
theorem sl_ints0 (b : Nat) (ht : H t = some (.tup (c.map V.int))) (k : ∀ q H', Vc.Ed [] H H' → H' q = some (.tup ((c.take b).map V.int)) → Q (.ref q) H') : rSlA K (.ref t) none (some (b : Int)) H Q := by
 have e : cutV (c.map V.int) none (some (b : Int)) = (c.take b).map V.int := by rw [Vc.cut_take, ← List.map_take]
 refine ⟨t, _, rfl, .of ht, fun z => k t H .refl ?_, fun _ q nq => k q _ (.new nq) ?_⟩
 ·rw [← e, cut_all z]; exact ht
 ·rw [e]; exact upd_same
theorem cat_ints {a b : Addr} {xs ys : List Int} (ha : H a = some (.tup (xs.map V.int))) (hb : H b = some (.tup (ys.map V.int))) (l : xs.length + ys.length ≤ 1000) (k : ∀ q H', Vc.Ed [] H H' → H' q = some (.tup ((xs ++ ys).map V.int)) → Q (.ref q) H') : rCatA K (.ref a) (.ref b) H Q := by
 refine ⟨a, b, _, _, rfl, rfl, .of ha, .of hb, by rw [List.length_map, List.length_map]; exact Nat.le_of_lt (small1000 l), fun z => k b H .refl ?_, fun _ z => k a H .refl ?_, fun _ _ q nq => k q _ (.new nq) ?_⟩
 ·rw [List.map_append, z]; exact hb
 ·rw [List.map_append, z, List.append_nil]; exact ha
 ·rw [List.map_append]; exact upd_same
end
def spIn31 (A : Ad) : Sp := fun vs H Q _ => ∃ (x : CodeO) (n : Int), vs = [.ref x.c, .int n] ∧ x.At A H ∧ x.Ok ∧ ∀ H', Vc.Ed [] H H' → Q (.bl (decide (n ∈ x.fs.map (·.byte)))) H'
def spGet31 (A : Ad) : Sp := fun vs H Q _ => ∃ (x : CodeO) (p : FD × Addr), vs = [.ref x.c, .int p.1.byte] ∧ x.At A H ∧ x.Ok ∧ p ∈ x.items ∧ ∀ H', Vc.Ed [] H H' → Q (.ref p.2) H'
section
variable {P : Program} {w : World} {K : PySem.W.Frag} {mg : Str → Option Value} {base : Heap} {A : Ad}
theorem ok_CodeSetu_containsu (T : Txt K mg A) : FnOk P w K mg base CX0 2 A.f_CodeSetu_containsu A.d_CodeSetu_containsu ["self", "byte"] (spIn31 A) := by
 have G_is_byte := ok_is_byte (P := P) (w := w) (base := base) T
 refine T.F_CodeSetu_containsu.ok sc_CodeSetu_containsu (fun vs H Q E h => ?_) (fun cdv Ar outer s H vs Q E hr h => ?_)
 ·obtain ⟨x, n, rfl, _⟩ := h
  rfl
 ·obtain ⟨x, n, rfl, X, ok, k⟩ := h
  have cl := T.cl_CodeSet
  have no1 := T.no_CodeSet_order
  have hx := X.ob
  have ho := X.od
  have l1 := codes_order (s := x.stop) (o := x.o) (t := x.t)
  have fl := flat_ints (x.items.map fun p => p.1.byte)
  have em : (x.items.map fun p => p.1.byte) = x.fs.map (·.byte) := by unfold CodeO.fs; rw [List.map_map]; rfl
  refine ⟨_, (pss_one (ps_ret (pe_and (pe_call G_is_byte (by exact hr.mono (by decide)) (by rfl) T.g_is_byte T.F_is_byte.kp T.b_is_byte .nil pass0 (pa_cons (pv 1) pa_nil)) (pe_one (pe_cmpR op_in_seq (pv 1) (pe_fld (pv 0) rfl) (by rfl)))))), ?_⟩
  walk_at "go"
  refine ⟨n, rfl, fun H1 e1 => ?_⟩
  have hx1 := e1.at0 hx
  have ho1 := e1.at0 ho
  walk_at "go"
  refine Vc.go_ite (fun h1 => ?_) (fun h1 => ?_)
  ·walk_at "go"
   rw [inV_ints, em]
   exact k H1 e1
  ·have : decide (n ∈ x.fs.map (·.byte)) = false := decide_eq_false fun z => by
    obtain ⟨p, hp, rfl⟩ := List.mem_map.mp z
    have := ok.1.byt p hp
    exact h1 ⟨this.1, this.2.1⟩
   rw [this] at k
   exact k H1 e1
theorem ok_CodeSetu_getitemu (T : Txt K mg A) : FnOk P w K mg base CX0 2 A.f_CodeSetu_getitemu A.d_CodeSetu_getitemu ["self", "byte"] (spGet31 A) := by
 have G_is_byte := ok_is_byte (P := P) (w := w) (base := base) T
 refine T.F_CodeSetu_getitemu.ok sc_CodeSetu_getitemu (fun vs H Q E h => ?_) (fun cdv Ar outer s H vs Q E hr h => ?_)
 ·obtain ⟨x, p, rfl, _⟩ := h
  rfl
 ·obtain ⟨x, p, rfl, X, ok, hp, k⟩ := h
  have hu := hu_of hr
  have cl := T.cl_CodeSet
  have no1 := T.no_CodeSet_order
  have no2 := T.no_CodeSet_table
  have hx := X.ob
  have ho := X.od
  have ht := X.tb
  have l1 := codes_order (s := x.stop) (o := x.o) (t := x.t)
  have l2 := codes_table (s := x.stop) (o := x.o) (t := x.t)
  have fl := flat_ints (x.items.map fun p => p.1.byte)
  have ndb : ((x.items.map (·.1)).map (·.byte)).Nodup := ok.1.ndb
  have hv := kvsOf_val ndb hp
  have bt := ok.1.byt p.1 (List.mem_map.mpr ⟨p, hp, rfl⟩)
  refine ⟨_, (pss_cons (ps_if (PW.pt (pw_or (pt_not (pt_val (pe_call G_is_byte (by exact hr.mono (by decide)) (by rfl) T.g_is_byte T.F_is_byte.kp T.b_is_byte .nil pass0 (pa_cons (pv 1) pa_nil)))) (pw_or1 (pt_cmpR op_notIn_seq (pv 1) (pe_fld (pv 0) rfl) (by rfl))))) (pss_one ps_never) pss_nil) (pss_one (ps_ret (pe_dget (by exact hu) (pe_fld (pv 0) rfl) (pv 1) (fun _ _ => rfl))))), ?_⟩
  walk_at "go"
  refine ⟨_, rfl, fun H1 e1 => ?_⟩
  have hx1 := e1.at0 hx
  have ho1 := e1.at0 ho
  have ht1 := e1.at0 ht
  walk_at "go"
  refine Vc.go_iten (fun h1 => (h1 ⟨bt.1, bt.2.1⟩).elim) (fun h1 => ?_)
  walk_at "go"
  rw [inV_ints]
  refine Vc.go_iten (fun h2 => (h2 (List.mem_map.mpr ⟨p, hp, rfl⟩)).elim) (fun h2 => ?_)
  walk_at "go"
  exact k H1 e1
end
end My
namespace My
open PySem PySem.Spec PyProof.Rows L2
def partT (t : List Int) (a b : Nat) : List Int := (t.drop a).take (b - a)
def spreadT (held : List (List (List Int))) (W e : Nat) (hs : List (List Int)) (k : Nat) : List (List Int) := hs.flatMap fun h => (held.getD k []).map fun t => h ++ t.take (e - k * W)
def spread (held : List (List (List Int))) (W e : Nat) (hs : List (List Int)) (ks : List Nat) : List (List Int) := ks.foldl (spreadT held W e) hs
def lenAt (fs : List FD) (b : Int) : Option Nat := (fs.find? fun f => decide (f.byte = b)).map fun f => f.len.toNat
def fetOne (fs : List FD) (held : List (List (List Int))) (W n place : Nat) (c : List Int) : List (List Int) :=
 match lenAt fs (c.getD (place - place / W * W) 0) with
 | none => [[c.getD (place - place / W * W) 0]]
 | some l => spread held W (min (place + l) n) [partT c (place - place / W * W) (min (place + l) n - place / W * W)] (List.range' (place / W + 1) ((min (place + l) n - 1) / W - place / W))
def fetD (fs : List FD) (held : List (List (List Int))) (W n place : Nat) : List (List Int) := (held.getD (place / W) []).flatMap (fetOne fs held W n place)
theorem flatMap_len {α β : Type} {f : α → List β} {b : Nat} : ∀ {l : List α}, (∀ x ∈ l, (f x).length ≤ b) → (l.flatMap f).length ≤ l.length * b
 | [], _ => Nat.zero_le _
 | x :: l, h => by
  have h1 := h x List.mem_cons_self
  have h2 := flatMap_len (l := l) fun y hy => h y (List.mem_cons_of_mem _ hy)
  rw [List.flatMap_cons, List.length_append, List.length_cons, Nat.succ_mul]; omega
theorem getD_few {held : List (List (List Int))} {b : Nat} (h : ∀ c ∈ held, c.length ≤ b) (k : Nat) : (held.getD k []).length ≤ b := by
 rw [List.getD_eq_getElem?_getD]
 cases e : held[k]? with
 | none => exact Nat.zero_le _
 | some c => exact h c (List.mem_of_getElem? e)
theorem spreadT_len {held : List (List (List Int))} {W e b : Nat} {hs : List (List Int)} {k : Nat} (h : ∀ c ∈ held, c.length ≤ b) : (spreadT held W e hs k).length ≤ hs.length * b :=
 flatMap_len fun x _ => by rw [List.length_map]; exact getD_few h k
theorem spread_len {held : List (List (List Int))} {W e b : Nat} (h : ∀ c ∈ held, c.length ≤ b) : ∀ (ks : List Nat) {hs : List (List Int)}, (spread held W e hs ks).length ≤ hs.length * b ^ ks.length
 | [], hs => by show hs.length ≤ hs.length * 1; omega
 | k :: ks, hs => by
  refine Nat.le_trans (spread_len h ks (hs := spreadT held W e hs k)) ?_
  rw [List.length_cons, Nat.pow_succ, Nat.mul_comm (b ^ _) b, ← Nat.mul_assoc]
  exact Nat.mul_le_mul_right _ (spreadT_len h)
theorem spread_small {held : List (List (List Int))} {W e b m : Nat} : ∀ (ks : List Nat) {hs : List (List Int)}, e ≤ b → (∀ h ∈ hs, h.length ≤ m) → ∀ h ∈ spread held W e hs ks, h.length ≤ m + ks.length * b
 | [], hs, _, hm, h, hh => by rw [List.length_nil, Nat.zero_mul]; exact hm h hh
 | k :: ks, hs, eb, hm, h, hh => by
  have z := spread_small (m := m + b) ks (hs := spreadT held W e hs k) eb (fun x hx => by
   obtain ⟨y, hy, hx⟩ := List.mem_flatMap.mp hx
   obtain ⟨t, ht, rfl⟩ := List.mem_map.mp hx
   have z1 := hm y hy
   rw [List.length_append, List.length_take]
   have : e - k * W ≤ e := Nat.sub_le _ _
   omega) h hh
  rw [List.length_cons, Nat.succ_mul]
  omega
theorem lenAt_some {fs : List FD} {f : FD} (nd : (fs.map (·.byte)).Nodup) (h : f ∈ fs) : lenAt fs f.byte = some f.len.toNat := by
 unfold lenAt
 cases e : fs.find? fun g => decide (g.byte = f.byte) with
 | none =>
  have z := List.find?_eq_none.mp e f h
  exact absurd (decide_eq_true rfl) z
 | some g =>
  have h1 := List.mem_of_find?_eq_some e
  have h2 := List.find?_some e
  have h2 : g.byte = f.byte := of_decide_eq_true h2
  have : g = f := by
   obtain ⟨i, hi⟩ := List.mem_iff_getElem?.mp h1
   obtain ⟨j, hj⟩ := List.mem_iff_getElem?.mp h
   have e1 : (fs.map (·.byte))[i]? = some f.byte := by rw [List.getElem?_map, hi, ← h2]; rfl
   have e2 : (fs.map (·.byte))[j]? = some f.byte := by rw [List.getElem?_map, hj]; rfl
   have ij := (List.getElem?_inj (List.getElem?_eq_some_iff.mp e1).1 nd).mp (e1.trans e2.symm)
   rw [ij, hj] at hi
   exact (Option.some.inj hi).symm
  rw [this]; rfl
theorem lenAt_none {fs : List FD} {b : Int} (h : b ∉ fs.map (·.byte)) : lenAt fs b = none := by
 unfold lenAt
 rw [List.find?_eq_none.mpr fun g hg z => h (List.mem_map.mpr ⟨g, hg, of_decide_eq_true z⟩)]; rfl
theorem fetOne_len {fs : List FD} {held : List (List (List Int))} {W n place b : Nat} {c : List Int} (hb : 1 ≤ b) (w1 : 1 ≤ W) (l4 : ∀ f ∈ fs, f.len ≤ 4) (h : ∀ c ∈ held, c.length ≤ b) : (fetOne fs held W n place c).length ≤ b ^ 3 := by
 unfold fetOne
 cases e : lenAt fs (c.getD (place - place / W * W) 0) with
 | none => exact Nat.pow_pos hb
 | some l =>
  have hl : l ≤ 4 := by
   unfold lenAt at e
   obtain ⟨f, hf, rfl⟩ := Option.map_eq_some_iff.mp e
   have := l4 f (List.mem_of_find?_eq_some hf); omega
  refine Nat.le_trans (spread_len h _) ?_
  rw [List.length_singleton, Nat.one_mul, List.length_range']
  refine Nat.pow_le_pow_right hb ?_
  have h1 : (min (place + l) n - 1) / W ≤ (place + 3) / W := Nat.div_le_div_right (by omega)
  have h2 : (place + 3) / W ≤ place / W + 3 := by
   refine Nat.le_of_lt_succ ((Nat.div_lt_iff_lt_mul w1).mpr ?_)
   have h3 := Nat.div_add_mod place W
   have h4 := Nat.mod_lt place w1
   have h5 : (place / W + 3 + 1) * W = W * (place / W) + 4 * W := by rw [Nat.add_mul, Nat.add_mul, Nat.mul_comm]; omega
   show place + 3 < (place / W + 3 + 1) * W
   rw [h5]
   omega
  omega
theorem tups_app {H : Hp} {as bs : List Addr} {cs ds : List (List Int)} (a : TupsAt H as cs) (b : TupsAt H bs ds) : TupsAt H (as ++ bs) (cs ++ ds) := by
 refine ⟨by rw [List.length_append, List.length_append, a.len, b.len], fun j t c h1 h2 => ?_⟩
 by_cases l : j < as.length
 ·rw [List.getElem?_append_left l] at h1
  rw [List.getElem?_append_left (by rw [← a.len]; exact l)] at h2
  exact a.at_ j t c h1 h2
 ·rw [List.getElem?_append_right (by omega)] at h1
  rw [List.getElem?_append_right (by rw [← a.len]; omega), ← a.len] at h2
  exact b.at_ _ t c h1 h2
structure SightO.Shp (o : SightO) (b : Nat) : Prop where
 few : ∀ c ∈ o.cs, c.length ≤ b
 sh : ∀ (k : Nat) (c : List (List Int)), o.cs[k]? = some c → ∀ t ∈ c, t.length = (unitOf o.W o.cells k).length ∧ ∀ v ∈ t, 0 ≤ v ∧ v ≤ 255
def spFetched (A : Ad) : Sp := fun vs H Q _ => ∃ (o : SightO) (x : CodeO) (place : Nat), vs = [.ref o.p, .ref x.c, .int place] ∧ o.At A H ∧ o.Ok ∧ o.Shp 7 ∧ x.At A H ∧ x.Ok ∧ place < o.cells.length ∧
 ∀ D ts H', Vc.Ed [] H H' → H D = none → H' D = some (.lst (ts.map V.ref)) → TupsAt H' ts (fetD x.fs o.cs o.W.toNat o.cells.length place) → Q (.ref D) H'
section
variable {P : Program} {w : World} {K : PySem.W.Frag} {mg : Str → Option Value} {base : Heap} {A : Ad}
theorem ok_Sight_fetched (T : Txt K mg A) : FnOk PG w K mg base CX0 4 A.f_Sight_fetched A.d_Sight_fetched ["self", "codes", "place"] (spFetched A) := by
 have G_Layout_unit := ok_Layout_unit (w := w) (base := base) T
 have G_CodeSetu_containsu := ok_CodeSetu_containsu (P := PG) (w := w) (base := base) T
 have G_CodeSetu_getitemu := ok_CodeSetu_getitemu (P := PG) (w := w) (base := base) T
 refine T.F_Sight_fetched.ok sc_Sight_fetched (fun vs H Q E h => ?_) (fun cdv Ar outer s H vs Q E hr h => ?_)
 ·obtain ⟨o, x, place, rfl, _⟩ := h
  rfl
 ·obtain ⟨o, x, place, rfl, X, O, S, C, ok, lt, k⟩ := h
  obtain ⟨dx, hp⟩ := id X.ob
  have cl := T.cl_Sight
  have no1 := T.no_Sight_cells
  have no2 := T.no_Sight_grid
  have no3 := T.no_Sight_shown
  have l1 := sight_cells (o := o)
  have l2 := sight_grid (o := o)
  have l3 := sight_shown (o := o)
  have hu := hu_of hr
  obtain ⟨W, hW⟩ : ∃ W : Nat, o.W = W := ⟨o.W.toNat, by have := uns_pos O.w; omega⟩
  have W1 : 1 ≤ W := by have := uns_pos O.w; omega
  have W8 : W ≤ 8 := by have := uns_pos O.w; omega
  have ol := O.l24
  have hf : (place : Int) / (W : Int) = ((place / W : Nat) : Int) := rfl
  obtain ⟨f, ef⟩ : ∃ f, place / W = f := ⟨_, rfl⟩
  rw [ef] at hf
  obtain ⟨g, eg⟩ : ∃ g, f * W = g := ⟨_, rfl⟩
  have hg0 : (f : Int) * (W : Int) = (g : Int) := by rw [← eg]; exact (Int.natCast_mul f W).symm
  have g1 : g ≤ place ∧ place < g + W := by
   have h1 := Nat.div_add_mod place W
   have h2 := Nat.mod_lt place W1
   rw [ef, Nat.mul_comm, eg] at h1
   omega
  have f24 : f ≤ 24 := by have := Nat.div_le_self place W; omega
  refine ⟨_, (pss_cons (ps_set (i := 3) sc_Sight_fetched.nd rfl (Or.inr rfl) (pe_prop (pe_fld (pv 0) rfl) T.cl_Layout T.p_Layout_unit G_Layout_unit (by exact hr.mono (by decide)) T.b_Layout_unit .nil pass0 (by rfl))) (pss_cons (ps_set (i := 4) sc_Sight_fetched.nd rfl (Or.inl rfl) (pe_op op_fdivW (pv 2) (pv 3))) (pss_cons (ps_set (i := 5) sc_Sight_fetched.nd rfl (Or.inl rfl) (pe_lst pa_nil)) (pss_cons (ps_for PassesOwn.never rfl (pi_list (pe_ix ix_list (pe_fld (pv 0) rfl) (pv 4) (fun _ _ => rfl))) (pg_name (i := 6) sc_Sight_fetched.nd rfl (Or.inl rfl)) (pss_cons (ps_set (i := 7) sc_Sight_fetched.nd rfl (Or.inl rfl) (pe_ix ix_tup (pv 6) (pe_op op_sub (pv 2) (pe_op op_mulW (pv 4) (pv 3))) (fun _ _ => rfl))) (pss_cons (ps_if (pt_cmpR (Vc.op_notinO G_CodeSetu_containsu (by exact hr.mono (by decide)) T.sp_CodeSet_CodeSetu_containsu T.b_CodeSetu_containsu) (pv 7) (pv 1) (by rfl)) (pss_cons (ps_expr (pe_bm PySem.F.plainAttrs_list PySem.F.slot_list_append PySem.F.type_list_append mt_append (pv 5) (pa_cons (pe_tup (pa_cons (pv 7) pa_nil)) pa_nil))) (pss_one ps_continue)) pss_nil) (pss_cons (ps_set (i := 8) sc_Sight_fetched.nd rfl (Or.inr rfl) (pe_callB (cr_min rfl) (by rfl) T.n_min (by decide +kernel) (pa_cons (pe_lst (pa_cons (pe_op op_add (pv 2) (pe_fld (Vc.pe_ixO (pv 1) (pv 7) T.sp_CodeSet_CodeSetu_getitemu T.spf_CodeSetu_getitemu G_CodeSetu_getitemu (by exact hr.mono (by decide)) T.b_CodeSetu_getitemu (Vc.passS0 (E := fun _ => E0))) rfl)) (pa_cons (pe_callB call_len_seq (by rfl) T.n_len (by decide +kernel) (pa_cons (pe_fld (pv 0) rfl) pa_nil)) pa_nil))) pa_nil))) (pss_cons (ps_set (i := 9) sc_Sight_fetched.nd rfl (Or.inl rfl) (pe_lst (pa_cons (pe_slice sl_tupA (pv 6) (po_some (pe_op op_sub (pv 2) (pe_op op_mulW (pv 4) (pv 3)))) (po_some (pe_op op_sub (pv 8) (pe_op op_mulW (pv 4) (pv 3))))) pa_nil))) (pss_cons (ps_for PassesOwn.never rfl (Vc.pi_rangeL (by rfl) T.n_range (pa_cons (pe_op op_add (pv 4) pe_int) (pa_cons (pe_op op_add (pe_op op_fdivW (pe_op op_sub (pv 8) pe_int) (pv 3)) pe_int) pa_nil))) (pg_name (i := 10) sc_Sight_fetched.nd rfl (Or.inr rfl)) (pss_cons (ps_set (i := 11) sc_Sight_fetched.nd rfl (Or.inr rfl) (pe_lc (own := [("other", 12)]) (g := gName 12) rfl sc_Sight_fetched.nd (pi_list (pe_ix ix_list (pe_fld (pv 0) rfl) (pv 10) (fun _ _ => rfl))) (blkOk_by (own := [("other", 12)]) (N := ["self", "codes", "place", "size", "first", "found", "content", "byte", "end", "heads", "unit", "tails", "other", "head", "tail"]) (sc := defScope s_Sight_fetched) (by decide +kernel)) (fun _ _ _ _ _ => by exact (pg_name (i := 12) sc_Sight_fetched.nd rfl (Or.inl rfl))) (fun _ _ _ _ _ => by exact pts_nil) (fun _ _ _ _ _ => by (refine' Vc.blkE ?h ?q; (case h => exact (pe_slice sl_tupA (pv 12) po_none (po_some (pe_op op_sub (pv 8) (pe_op op_mulW (pv 10) (pv 3)))))); (case q => first | exact rfl | (dsimp only; done) | (dsimp only; exact rfl)))))) (pss_one (ps_setLc2 (vs1 := [14]) (g1 := gName 14) (i := 9) (own := [("head", 13), ("tail", 14)]) (g := gName 13) rfl sc_Sight_fetched.nd rfl rfl (sw_true rfl rfl rfl (by decide +kernel)) (pi_list (pv 9)) (blkOk_by (own := [("head", 13), ("tail", 14)]) (N := ["self", "codes", "place", "size", "first", "found", "content", "byte", "end", "heads", "unit", "tails", "other", "head", "tail"]) (sc := defScope s_Sight_fetched) (by decide +kernel)) (by decide) (fun _ _ _ _ _ => by exact (pg_name (i := 13) sc_Sight_fetched.nd rfl (Or.inl rfl))) (fun _ _ _ _ _ => by exact pts_nil) (fun _ _ _ _ _ => by (refine' Vc.blkI ?h ?q; (case h => exact (pi_list (pv 11))); (case q => first | exact rfl | (dsimp only; done) | (dsimp only; exact rfl)))) (fun _ _ _ _ _ => by exact (pg_name (i := 14) sc_Sight_fetched.nd rfl (Or.inl rfl))) (fun _ _ _ _ _ => by exact pts_nil) (fun _ _ _ _ _ => by (refine' Vc.blkE ?h ?q; (case h => exact (pe_op op_catA (pv 13) (pv 14))); (case q => first | exact rfl | (dsimp only; done) | (dsimp only; exact rfl)))))))) (pss_one (ps_expr (pe_bm PySem.F.plainAttrs_list PySem.F.slot_list_extend PySem.F.type_list_extend mt_extend (pv 5) (pa_cons (pv 9) pa_nil)))))))))) (pss_one (ps_ret (pv 5))))))), ?_⟩
  obtain ⟨dg, hg⟩ := id X.gr
  walk_at "go"
  refine ⟨o.gl, o.W, o.C, rfl, X.gr, ?_⟩
  rw [hW]
  walk_at "go"
  rw [hf]
  walk_at "go"
  intro F nF
  generalize hu1 : upd _ F _ = H1
  obtain ⟨e1, hF⟩ := Vc.alloc hu1 nF
  have X1 := X.ed0 e1
  have C1 := CodeO.At.ed0 e1 C
  obtain ⟨dx1, hp1⟩ := id X1.ob
  have sh1 := X1.sh.sh
  have fk : f < o.cs.length := by
   rw [O.many]
   unfold manyU
   rw [show o.W.toNat = W by omega]
   refine (Nat.le_div_iff_mul_le W1).mpr ?_
   rw [Nat.succ_mul, eg]; omega
  have hc0 := List.getElem?_eq_getElem fk
  generalize o.cs[f] = c0 at hc0
  obtain ⟨u0, hu0⟩ : ∃ u, o.us[f]? = some u := ⟨_, List.getElem?_eq_getElem (by rw [X.sh.len]; exact fk)⟩
  obtain ⟨ts0, ht0, hT0⟩ := X.sh.un _ _ _ hu0 hc0
  have uF : u0 ≠ F := fun z => by rw [z, nF] at ht0; cases ht0
  have ht0 := e1.at0 ht0
  have hT0 := hT0.ed e1
  have c07 := S.few c0 (List.mem_of_getElem? hc0)
  have ga : atI (o.us.map V.ref) (f : Int) = some (.ref u0) := at_of (z := (f : Int)) (j := f) rfl (by rw [List.getElem?_map, hu0]; rfl)
  walk_at "go"
  refine ⟨⟨_, .of ht0⟩, for_list (xs := ts0.map V.ref) (fun i σ H' => (∃ y6 y7 y8 y9 y10 y11 y12 y13 y14 : Option V, σ = [some (.ref o.p), some (.ref x.c), some (.int place), some (.int W), some (.int f), some (.ref F), y6, y7, y8, y9, y10, y11, y12, y13, y14]) ∧ Vc.Ed [F] H1 H' ∧ ∃ fs : List Addr, H' F = some (.lst (fs.map V.ref)) ∧ TupsAt H' fs ((c0.take i).flatMap (fetOne x.fs o.cs W o.cells.length place))) ⟨⟨none, none, none, none, none, none, none, none, none, rfl⟩, .refl, [], hF, ⟨rfl, fun j t c z => by cases z⟩⟩ (fun j σ H' _ q => .of (q.2.1.at1 uF ht0)) ?_ ?_⟩
  ·rintro i v σ H2 hi2 ⟨⟨y6, y7, y8, y9, y10, y11, y12, y13, y14, rfl⟩, e2, fs, hF2, hT2⟩
   rw [List.getElem?_map] at hi2
   obtain ⟨t, ht_, rfl⟩ := Option.map_eq_some_iff.mp hi2
   have il := (List.getElem?_eq_some_iff.mp ht_).1
   obtain ⟨c, hc⟩ : ∃ c, c0[i]? = some c := ⟨_, List.getElem?_eq_getElem (show i < c0.length by rw [← hT0.len]; exact il)⟩
   have ht := e2.tup _ _ (hT0.at_ i t c ht_ hc)
   have C2 := CodeO.At.new e2 nF C C1
   have hx2 := C2.ob
   have pc : place - g < c.length := by
    rw [(S.sh f c0 hc0 c (List.mem_of_getElem? hc)).1]
    unfold unitOf
    rw [show o.W.toNat = W by omega, eg, List.length_take, List.length_drop]; omega
   obtain ⟨b, hb⟩ : ∃ b, c[place - g]? = some b := ⟨_, List.getElem?_eq_getElem pc⟩
   have ga2 : atI (c.map V.int) ((place : Int) - (f : Int) * (W : Int)) = some (.int b) := at_of (z := (place : Int) - (f : Int) * (W : Int)) (j := place - g) (by rw [hg0]; omega) (by rw [List.getElem?_map, hb]; rfl)
   have hD : c.getD (place - place / W * W) 0 = b := by rw [ef, eg, List.getD_eq_getElem?_getD, hb]; rfl
   have nx : (c0.take (i + 1)).flatMap (fetOne x.fs o.cs W o.cells.length place) = (c0.take i).flatMap (fetOne x.fs o.cs W o.cells.length place) ++ fetOne x.fs o.cs W o.cells.length place c := by rw [List.take_add_one, hc, List.flatMap_append]; simp
   walk_at "go"
   refine ⟨x, b, rfl, C2, ok, fun H3 e3 => ⟨_, rfl, _, rfl, ?_⟩⟩
   have hF3 := e3.at0 hF2
   have ht3 := e3.tup _ _ ht
   have C3 := CodeO.At.ed0 e3 C2
   have hx3 := C3.ob
   have X3 : ∃ dx, H3 o.p = some (.ins A.C_Sight dx o.fld) := ⟨_, e3.at0 (e2.at1 (fun z => by rw [z, hF] at hp1; cases hp1) hp1)⟩
   obtain ⟨dx3, hp3⟩ := X3
   have l4 : ∀ q ∈ x.fs, q.len ≤ 4 := fun q hq => (ok.1.ok q hq).l4
   have fl : fs.length ≤ 7 * 343 := by
    rw [hT2.len]
    refine Nat.le_trans (flatMap_len (b := 343) fun d _ => fetOne_len (b := 7) (by decide) W1 l4 S.few) ?_
    exact Nat.mul_le_mul_right _ (by rw [List.length_take]; omega)
   by_cases m : b ∈ x.fs.map (·.byte)
   ·rw [decide_eq_true m, if_neg (by decide)]
    obtain ⟨q, hq, rfl⟩ := List.mem_map.mp m
    obtain ⟨p, hp_, rfl⟩ := List.mem_map.mp hq
    obtain ⟨dF, hFm⟩ := C3.fm p hp_
    have lf := form_length (n := p.1.name) (l := p.1.len) (f := p.1.flow)
    have clF := T.cl_Form
    have noF := T.no_Form_length
    walk_at "go"
    refine ⟨x, p, rfl, C3, ok, hp_, fun H4 e4 => ?_⟩
    have hFm4 := e4.at0 hFm
    have hp4 := e4.at0 hp3
    have hF4 := e4.at0 hF3
    have ht4 := e4.tup _ _ ht3
    have hce4 := e4.at0 (e3.at0 (e2.at1 (fun z => by have := X.ce; rw [z, nF] at this; cases this) X1.ce))
    walk_at "go"
    intro ml nml
    generalize hu5 : upd _ ml _ = H5
    obtain ⟨e5, hml⟩ := Vc.alloc hu5 nml
    have hp5 := e5.at0 hp4
    have hF5 := e5.at0 hF4
    have ht5 := e5.tup _ _ ht4
    have pl1 := (ok.1.ok p.1 hq).l1
    have pl4 := (ok.1.ok p.1 hq).l4
    obtain ⟨e, ee⟩ : ∃ e, min (place + p.1.len.toNat) o.cells.length = e := ⟨_, rfl⟩
    have eb : place + 1 ≤ e ∧ e ≤ o.cells.length ∧ e ≤ place + 4 := by omega
    walk_at "go"
    refine ⟨ml, [(place : Int) + p.1.len, ((o.cells.map V.int).length : Int)], rfl, .of hml, Nat.zero_lt_succ _, fun mm hm hle => ?_⟩
    obtain rfl : mm = (e : Int) := by
     rw [List.length_map] at hm hle
     have a1 := hle _ (List.mem_cons_self ..)
     have a2 := hle _ (List.mem_cons_of_mem _ (List.mem_cons_self ..))
     rcases List.mem_cons.mp hm with z | hm
     ·omega
     ·have z := List.mem_singleton.mp hm
      omega
    clear hm hle
    have hp1' : (place : Int) - (f : Int) * (W : Int) = ((place - g : Nat) : Int) := by rw [hg0]; omega
    have hp2' : (e : Int) - (f : Int) * (W : Int) = ((e - g : Nat) : Int) := by rw [hg0]; omega
    have hq1 : ((e : Int) - 1) / (W : Int) = (((e - 1) / W : Nat) : Int) := by rw [show (e : Int) - 1 = ((e - 1 : Nat) : Int) by omega]; rfl
    walk_at "go"
    rw [hp1', hp2']
    refine sl_ints _ _ ht5 fun z H6 e6 hz => ?_
    have hp6 := e6.at0 hp5
    have hF6 := e6.at0 hF5
    walk_at "go"
    intro hl nhl
    generalize hu7 : upd _ hl _ = H7
    obtain ⟨e7, hhl⟩ := Vc.alloc hu7 nhl
    have hp7 := e7.at0 hp6
    have hF7 := e7.at0 hF6
    have hz7 := e7.at0 hz
    obtain ⟨q', eq'⟩ : ∃ q', (e - 1) / W = q' := ⟨_, rfl⟩
    rw [eq'] at hq1
    have qb : f ≤ q' ∧ q' ≤ f + 3 ∧ q' * W ≤ e - 1 := by
     rw [← eq', ← ef]
     refine ⟨Nat.div_le_div_right (by omega), ?_, Nat.div_mul_le_self _ _⟩
     have h1 : (e - 1) / W ≤ (place + 3) / W := Nat.div_le_div_right (by omega)
     refine Nat.le_trans h1 (Nat.le_of_lt_succ ((Nat.div_lt_iff_lt_mul W1).mpr ?_))
     show place + 3 < (place / W + 3 + 1) * W
     rw [ef, Nat.add_mul, Nat.add_mul, eg]; omega
    walk_at "go"
    rw [hq1]
    have hs7 : ShowAt H7 o.sl o.us o.cs := by
     have z2 := X.sh.edx (.of e1) (fun z => by cases z) (fun _ _ z => by cases z)
     have nu : ∀ u ∈ o.us, u ∉ [F] := fun u hu z => by
      obtain ⟨jj, hj⟩ := List.mem_iff_getElem?.mp hu
      have jl := (List.getElem?_eq_some_iff.mp hj).1
      obtain ⟨ts', h1, _⟩ := X.sh.un jj u _ hj (List.getElem?_eq_getElem (show jj < o.cs.length by rw [← X.sh.len]; exact jl))
      rw [List.mem_singleton.mp z, nF] at h1; cases h1
     have z3 := z2.edx (.of e2) (fun z => by have := X.sh.sh; rw [List.mem_singleton.mp z, nF] at this; cases this) nu
     exact z3.edx (.of ((((e3.ex e4).ex e5).ex e6).ex e7)) (fun z => by cases z) (fun _ _ z => by cases z)
    have part1 : ((c.drop (place - g)).take (e - g - (place - g))) = partT c (place - place / W * W) (min (place + p.1.len.toNat) o.cells.length - place / W * W) := by unfold partT; rw [ee, ef, eg]
    refine for_it walk_range (fun j σ H' => (∃ (y10 y11 y12 y13 y14 : Option V) (h' : Addr) (hs : List Addr), σ = [some (.ref o.p), some (.ref x.c), some (.int place), some (.int W), some (.int f), some (.ref F), some (.ref t), some (.int p.1.byte), some (.int e), some (.ref h'), y10, y11, y12, y13, y14] ∧ h' ≠ F ∧ H' h' = some (.lst (hs.map V.ref)) ∧ TupsAt H' hs (spread o.cs W e [(c.drop (place - g)).take (e - g - (place - g))] ((List.range' (f + 1) (q' - f)).take j))) ∧ Vc.Ed [] H7 H') ⟨⟨_, _, _, _, _, hl, [z], rfl, fun zz => (by rw [zz, hF6] at nhl; cases nhl), hhl, ⟨rfl, fun j t' c' a b' => by
     cases j with
     | zero => cases a; cases b'; exact hz7
     | succ j => cases a⟩⟩, .refl⟩ (fun _ _ _ _ _ => trivial) ?_ ?_
    ·rintro j v σ H8 H9 hj ⟨⟨y10, y11, y12, y13, y14, h', hs, rfl, nhF, hh', hTh⟩, e8⟩ ⟨rfl, hv⟩
     obtain rfl : v = .int ((f : Int) + 1 + j) := hv
     have hjq : j < q' - f := by omega
     obtain ⟨kw, ekw⟩ : ∃ kw, (f + 1 + j) * W = kw := ⟨_, rfl⟩
     have hkw : ((f : Int) + 1 + (j : Int)) * (W : Int) = (kw : Int) := by rw [← ekw, Int.natCast_mul, show ((f + 1 + j : Nat) : Int) = (f : Int) + 1 + (j : Int) by omega]
     have kwq : kw ≤ e - 1 := by
      rw [← ekw]
      exact Nat.le_trans (Nat.mul_le_mul_right _ (by omega)) qb.2.2
     have kk : f + 1 + j < o.cs.length := by
      rw [O.many]
      unfold manyU
      rw [show o.W.toNat = W by omega]
      refine (Nat.le_div_iff_mul_le W1).mpr ?_
      rw [Nat.succ_mul, ekw]; omega
     obtain ⟨ck, hck⟩ : ∃ ck, o.cs[f + 1 + j]? = some ck := ⟨_, List.getElem?_eq_getElem kk⟩
     obtain ⟨uk, huk⟩ : ∃ u, o.us[f + 1 + j]? = some u := ⟨_, List.getElem?_eq_getElem (by rw [X.sh.len]; exact kk)⟩
     have sh8 := hs7.edx (.of e8) (fun z => by cases z) (fun _ _ z => by cases z)
     have hs9 := sh8.sh
     have hp9 := e8.at0 hp7
     obtain ⟨tk, htk, hTk⟩ := sh8.un _ _ _ huk hck
     have gak : atI (o.us.map V.ref) ((f : Int) + 1 + (j : Int)) = some (.ref uk) := at_of (z := (f : Int) + 1 + (j : Int)) (j := f + 1 + j) (by omega) (by rw [List.getElem?_map, huk]; rfl)
     have ck7 := S.few ck (List.mem_of_getElem? hck)
     have hke : (e : Int) - ((f : Int) + 1 + (j : Int)) * (W : Int) = ((e - kw : Nat) : Int) := by rw [hkw]; omega
     obtain ⟨vs, evs⟩ : ∃ vs, spread o.cs W e [(c.drop (place - g)).take (e - g - (place - g))] ((List.range' (f + 1) (q' - f)).take j) = vs := ⟨_, rfl⟩
     have vl : vs.length ≤ 49 := by
      rw [← evs]
      refine Nat.le_trans (spread_len S.few _) ?_
      rw [List.length_singleton, Nat.one_mul]
      have h2 : ((List.range' (f + 1) (q' - f)).take j).length ≤ 2 := by rw [List.length_take]; omega
      exact Nat.pow_le_pow_right (n := 7) (by decide) h2
     have vsl : ∀ d ∈ vs, d.length ≤ 200 := fun d hd => by
      rw [← evs] at hd
      have z := spread_small (b := 24) (m := 24) (held := o.cs) (W := W) (e := e) ((List.range' (f + 1) (q' - f)).take j) (by omega) (fun h hh => by rw [List.mem_singleton.mp hh, List.length_take]; omega) d hd
      rw [List.length_take] at z
      have : (min j (List.range' (f + 1) (q' - f)).length) * 24 ≤ 3 * 24 := Nat.mul_le_mul_right _ (by omega)
      omega
     rw [evs] at hTh
     walk_at "go"
     refine ⟨⟨_, .of htk⟩, Vc.lc_by (walk_list (xs := tk.map V.ref)) (fun D ii H' => Vc.Ed [] H9 H' ∧ ∃ us : List Addr, H' D = some (.lst (us.map V.ref)) ∧ TupsAt H' us ((ck.take ii).map fun t => t.take (e - kw))) (fun D H' nD e9 hD => ⟨e9, [], hD, ⟨rfl, fun _ _ _ a _ => by cases a⟩⟩) (fun D ii H' _ _ q => .of (q.1.at0 htk)) ?_ ?_⟩
     ·rintro D ii y H10 H11 nD hii ⟨e10, us, hD, hU⟩ ⟨rfl, hy⟩
      rw [List.getElem?_map] at hy
      rw [List.length_map] at hii
      obtain ⟨t', ht', rfl⟩ := Option.map_eq_some_iff.mp hy
      obtain ⟨d, hd⟩ : ∃ d, ck[ii]? = some d := ⟨_, List.getElem?_eq_getElem (by rw [← hTk.len]; exact hii)⟩
      have htd := e10.at0 (hTk.at_ ii t' d ht' hd)
      walk_at "go"
      refine ⟨rfl, ?_⟩
      walk_at "go"
      rw [hke]
      refine sl_ints0 _ htd fun z9 H12 e12 hz9 => ?_
      have hD12 := e12.at0 hD
      have ul : us.length ≤ 7 := by rw [hU.len, List.length_map, List.length_take]; omega
      refine ⟨_, hD12, by rw [List.length_map]; exact small1000 (by omega), ?_⟩
      generalize hu13 : upd _ D _ = H13
      obtain ⟨e13, hD13⟩ := Vc.chg hu13 hD12
      refine ⟨(e10.ex e12).one e13 (.inr nD), us ++ [z9], by rw [hD13, List.map_append]; rfl, ?_⟩
      rw [List.take_add_one, hd, List.map_append]
      exact ((hU.ed e12).ed e13).snoc (e13.tup _ _ hz9)
     rintro D H10 nD ⟨e10, us, hD, hU⟩
     rw [List.length_map, hTk.len, List.take_length] at hU
     have hh10 := e10.at0 hh'
     have hT10 := hTh.ed e10
     walk_at "go"
     refine Vc.go_lc2 ?_
     walk_at "go"
     refine ⟨⟨_, .of hh10⟩, Vc.lc2_by (walk_list (xs := hs.map V.ref)) (fun D2 ii H' => Vc.Ed [] H10 H' ∧ ∃ as : List Addr, H' D2 = some (.lst (as.map V.ref)) ∧ TupsAt H' as ((vs.take ii).flatMap fun h => (ck.map fun t => t.take (e - kw)).map fun t => h ++ t)) (fun D2 H' nD2 e9 hD2 => ⟨e9, [], hD2, ⟨rfl, fun _ _ _ a _ => by cases a⟩⟩) (fun D2 ii H' _ _ q => .of (q.1.at0 hh10)) ?_ ?_⟩
     ·rintro D2 ii y H11 H12 nD2 hii ⟨e11, as, hD2, hA⟩ ⟨rfl, hy⟩
      rw [List.getElem?_map] at hy
      rw [List.length_map] at hii
      obtain ⟨t', ht', rfl⟩ := Option.map_eq_some_iff.mp hy
      obtain ⟨d, hd⟩ : ∃ d, vs[ii]? = some d := ⟨_, List.getElem?_eq_getElem (by rw [← hT10.len]; exact hii)⟩
      have htd := e11.at0 (hT10.at_ ii t' d ht' hd)
      have hD11 := e11.at0 hD
      have hU11 := (hU.ed (e11.mono (fun _ z => by cases z) : Vc.Ed [] H10 H12))
      have nx2 : (vs.take (ii + 1)).flatMap (fun h => (ck.map fun t => t.take (e - kw)).map fun t => h ++ t) = (vs.take ii).flatMap (fun h => (ck.map fun t => t.take (e - kw)).map fun t => h ++ t) ++ (ck.map fun t => t.take (e - kw)).map fun t => d ++ t := by rw [List.take_add_one, hd, List.flatMap_append]; simp
      walk_at "go"
      refine ⟨rfl, ?_⟩
      walk_at "go"
      have htd0 := hT10.at_ ii t' d ht' hd
      refine ⟨⟨_, .of hD11⟩, Vc.lc1_by (walk_list (xs := us.map V.ref)) (fun jj H' => Vc.Ed [] H10 H' ∧ ∃ as' : List Addr, H' D2 = some (.lst (as'.map V.ref)) ∧ TupsAt H' as' ((vs.take ii).flatMap (fun h => (ck.map fun t => t.take (e - kw)).map fun t => h ++ t) ++ ((ck.map fun t => t.take (e - kw)).take jj).map fun t => d ++ t)) ⟨e11, as, hD2, by rw [List.take_zero, List.map_nil, List.append_nil]; exact hA⟩ (fun jj H' _ q => .of (q.1.at0 hD)) ?_ ?_⟩
      ·rintro jj y' H13 H14 hjj ⟨e13, as', hD13, hA13⟩ ⟨rfl, hy'⟩
       rw [List.getElem?_map] at hy'
       rw [List.length_map] at hjj
       obtain ⟨t2, ht2, rfl⟩ := Option.map_eq_some_iff.mp hy'
       obtain ⟨d2, hd2⟩ : ∃ d2, (ck.map fun t => t.take (e - kw))[jj]? = some d2 := ⟨_, List.getElem?_eq_getElem (by rw [← hU.len]; exact hjj)⟩
       have hb1 := e13.at0 htd0
       have hb2 := e13.at0 (hU.at_ jj t2 d2 ht2 hd2)
       walk_at "go"
       refine ⟨rfl, ?_⟩
       walk_at "go"
       refine cat_ints hb1 hb2 ?_ fun q2 H15 e15 hq2 => ?_
       ·have z1 := vsl d (List.mem_of_getElem? hd)
        obtain ⟨d3, hd3, rfl⟩ := List.mem_map.mp (List.mem_of_getElem? hd2)
        have : (d3.take (e - kw)).length ≤ e - kw := by rw [List.length_take]; omega
        omega
       have hD15 := e15.at0 hD13
       have al : as'.length ≤ 343 + 7 := by
        rw [hA13.len, List.length_append, List.length_map, List.length_take]
        have z1 := flatMap_len (b := 7) (f := fun h => (ck.map fun t => t.take (e - kw)).map fun t => h ++ t) (l := vs.take ii) fun _ _ => by rw [List.length_map, List.length_map]; exact ck7
        have z2 : (vs.take ii).length * 7 ≤ 49 * 7 := Nat.mul_le_mul_right _ (by rw [List.length_take]; omega)
        have z3 : (ck.map fun t => t.take (e - kw)).length ≤ 7 := by rw [List.length_map]; exact ck7
        omega
       refine ⟨_, hD15, by rw [List.length_map]; exact small1000 (by omega), ?_⟩
       generalize hu16 : upd _ D2 _ = H16
       obtain ⟨e16, hD16⟩ := Vc.chg hu16 hD15
       refine ⟨(e13.ex e15).one e16 (.inr nD2), as' ++ [q2], by rw [hD16, List.map_append]; rfl, ?_⟩
       rw [List.take_add_one, hd2, List.map_append, ← List.append_assoc]
       exact ((hA13.ed e15).ed e16).snoc (e16.tup _ _ hq2)
      rintro H13 ⟨e13, as', hD13, hA13⟩
      rw [List.length_map, hU.len, List.take_length] at hA13
      exact ⟨e13, as', hD13, by rw [nx2]; exact hA13⟩
     rintro D2 H11 nD2 ⟨e11, as, hD2, hA⟩
     rw [List.length_map, hT10.len, List.take_length] at hA
     walk_at "go"
     refine ⟨⟨_, _, _, _, _, D2, as, rfl, fun zz => ?_, hD2, ?_⟩, (e8.ex e10).ex e11⟩
     ·rw [zz] at nD2
      have := (e8.ex e10).at0 hF7
      rw [this] at nD2; cases nD2
     have e3' : (List.range' (f + 1) (q' - f)).take (j + 1) = (List.range' (f + 1) (q' - f)).take j ++ [f + 1 + j] := by rw [List.take_add_one, List.getElem?_range' hjq]; simp
     rw [e3']
     unfold spread at evs ⊢
     rw [List.foldl_append, evs]
     show TupsAt H11 as (spreadT o.cs W e vs (f + 1 + j))
     unfold spreadT
     rw [List.getD_eq_getElem?_getD, hck, ekw]
     simp only [List.map_map] at hA
     exact hA
    rintro σ H8 ⟨⟨y10, y11, y12, y13, y14, h', hs, rfl, nhF, hh', hTh⟩, e8⟩
    have hF8 := e8.at0 hF7
    have one : fetOne x.fs o.cs W o.cells.length place c = spread o.cs W e [(c.drop (place - g)).take (e - g - (place - g))] (List.range' (f + 1) (q' - f)) := by
     unfold fetOne
     rw [hD, lenAt_some ok.1.ndb hq, part1]
     dsimp only
     rw [ee, ef, eq']
    rw [show ((q' : Int) + 1 - ((f : Int) + 1)).toNat = q' - f by omega, show (List.range' (f + 1) (q' - f)).take (q' - f) = List.range' (f + 1) (q' - f) from List.take_of_length_le (by rw [List.length_range']; exact Nat.le_refl _), ← one] at hTh
    have hl' : hs.length ≤ 343 := by rw [hTh.len]; exact fetOne_len (b := 7) (by decide) W1 l4 S.few
    walk_at "go"
    refine ⟨F, h', _, _, rfl, rfl, hF8, hh', by rw [List.length_map, List.length_map, sizeLine_eq]; omega, ?_⟩
    generalize hu9 : upd _ F _ = H9
    obtain ⟨e9, hF9⟩ := Vc.chg hu9 hF8
    walk_at "go"
    refine ⟨⟨_, _, _, _, _, _, _, _, _, rfl⟩, ((((((e2.ex e3).ex e4).ex e5).ex e6).ex e7).ex e8).trans e9 fun a z => .inl z, fs ++ hs, by rw [hF9, List.map_append], ?_⟩
    rw [nx]
    exact tups_app ((((((((hT2.ed e3).ed e4).ed e5).ed e6).ed e7).ed e8)).ed e9) (hTh.ed e9)
   ·rw [decide_eq_false m, if_pos (by decide)]
    have one : fetOne x.fs o.cs W o.cells.length place c = [[b]] := by unfold fetOne; rw [hD, lenAt_none m]
    walk_at "go"
    intro z nz
    generalize hu4 : upd _ z _ = H4
    obtain ⟨e4, hz⟩ := Vc.alloc hu4 nz
    have hF4 := e4.at0 hF3
    walk_at "go"
    refine ⟨_, _, _, rfl, rfl, hF4, by rw [List.length_map, sizeLine_eq]; omega, ?_⟩
    generalize hu5 : upd _ F _ = H5
    obtain ⟨e5, hF5⟩ := Vc.chg hu5 hF4
    walk_at "go"
    exact ⟨⟨_, _, _, _, _, _, _, _, _, rfl⟩, ((e2.ex e3).ex e4).trans e5 fun a z => .inl z, fs ++ [z], by rw [hF5, List.map_append]; rfl, by rw [nx, one]; exact (((hT2.ed e3).ed e4).ed e5).snoc (e5.tup _ _ hz)⟩
  rintro σ H2 ⟨⟨y6, y7, y8, y9, y10, y11, y12, y13, y14, rfl⟩, e2, fs, hF2, hT2⟩
  rw [List.length_map, hT0.len, List.take_length] at hT2
  walk_at "go"
  refine k F fs H2 (e1.one e2 (.inr nF)) nF hF2 ?_
  unfold fetD
  rw [show o.W.toNat = W by omega, ef, List.getD_eq_getElem?_getD, hc0]
  exact hT2
end
end My
namespace My
open PySem PySem.Spec PyProof.Rows L2
structure IsSort (rs l : List (List Int)) : Prop where
 asc : rs.Pairwise fun a b => Tb.lexL a b = true
 mem : ∀ x, x ∈ rs ↔ x ∈ l
theorem sort_uniq : ∀ {as bs : List (List Int)}, as.Pairwise (fun a b => Tb.lexL a b = true) → bs.Pairwise (fun a b => Tb.lexL a b = true) → (∀ x, x ∈ as ↔ x ∈ bs) → as = bs
 | [], [], _, _, _ => rfl
 | [], b :: bs, _, _, h => absurd ((h b).mpr List.mem_cons_self) (by simp)
 | a :: as, [], _, _, h => absurd ((h a).mp List.mem_cons_self) (by simp)
 | a :: as, b :: bs, ha, hb, h => by
  obtain ⟨ha1, ha2⟩ := List.pairwise_cons.mp ha
  obtain ⟨hb1, hb2⟩ := List.pairwise_cons.mp hb
  have ab : a = b := by
   rcases List.mem_cons.mp ((h a).mp List.mem_cons_self) with e | m1
   ·exact e
   ·rcases List.mem_cons.mp ((h b).mpr List.mem_cons_self) with e | m2
    ·exact e.symm
    ·have z1 := hb1 a m1
     have z2 := Tb.lexL_asym _ _ (ha1 b m2)
     rw [z1] at z2; cases z2
  subst ab
  have irr : ∀ x, Tb.lexL a x = true → x ≠ a := fun x hx e => by rw [e, Tb.lexL_irr] at hx; cases hx
  rw [sort_uniq ha2 hb2 fun x => ⟨fun hx => ?_, fun hx => ?_⟩]
  ·rcases List.mem_cons.mp ((h x).mp (List.mem_cons_of_mem _ hx)) with e | m
   ·exact absurd e (irr x (ha1 x hx))
   ·exact m
  ·rcases List.mem_cons.mp ((h x).mpr (List.mem_cons_of_mem _ hx)) with e | m
   ·exact absurd e (irr x (hb1 x hx))
   ·exact m
theorem IsSort.uniq {as bs l : List (List Int)} (a : IsSort as l) (b : IsSort bs l) : as = bs := sort_uniq a.asc b.asc fun x => (a.mem x).trans (b.mem x).symm
theorem srt_of {N L : List (Addr × List Int)} {l : List (List Int)} (pm : N.Perm L) (nd : (L.map (·.2)).Nodup) (pw : N.Pairwise fun q r => Tb.lexL r.2 q.2 = false) (m1 : ∀ p ∈ L, p.2 ∈ l) (m2 : ∀ x ∈ l, x ∈ L.map (·.2)) : IsSort (N.map (·.2)) l := by
 refine ⟨?_, fun x => ⟨fun hx => ?_, fun hx => (pm.map _).mem_iff.mpr (m2 x hx)⟩⟩
 ·have nd2 : (N.map (·.2)).Nodup := (pm.map _).nodup_iff.mpr nd
  rw [List.pairwise_map]
  have nd3 : N.Pairwise fun q r => q.2 ≠ r.2 := List.pairwise_map.mp nd2
  refine (pw.and nd3).imp fun {q r} h => ?_
  cases e : Tb.lexL q.2 r.2 with
  | true => rfl
  | false => exact absurd (Tb.lexL_conn _ _ e h.1) h.2
 ·obtain ⟨p, hp, rfl⟩ := List.mem_map.mp ((pm.map _).mem_iff.mp hx)
  exact m1 p hp
theorem tups_zip {K : PySem.W.Frag} {H : Hp} {ts : List Addr} {cs : List (List Int)} (h : TupsAt H ts cs) : (ts.zip cs).map (fun p => V.ref p.1) = ts.map V.ref ∧ (∀ p ∈ ts.zip cs, H p.1 = some (.tup (p.2.map V.int))) ∧ (ts.zip cs).map (·.2) = cs := by
 refine ⟨?_, fun p hp => ?_, ?_⟩
 ·have z := congrArg (List.map V.ref) (List.map_fst_zip (l₁ := ts) (l₂ := cs) (Nat.le_of_eq h.len))
  rwa [List.map_map] at z
 ·obtain ⟨j, hj⟩ := List.mem_iff_getElem?.mp hp
  obtain ⟨h1, h2⟩ := List.getElem?_zip_eq_some.mp hj
  exact h.at_ j p.1 p.2 h1 h2
 ·exact List.map_snd_zip (Nat.le_of_eq h.len.symm)
theorem fetD_len {fs : List FD} {held : List (List (List Int))} {W n place : Nat} (w1 : 1 ≤ W) (l4 : ∀ f ∈ fs, f.len ≤ 4) (h : ∀ c ∈ held, c.length ≤ 7) : (fetD fs held W n place).length ≤ 7 * 343 :=
 Nat.le_trans (flatMap_len (b := 343) fun d _ => fetOne_len (b := 7) (by decide) w1 l4 h) (Nat.mul_le_mul_right _ (getD_few h _))
theorem spread_ne {held : List (List (List Int))} {W e : Nat} : ∀ (ks : List Nat) {hs : List (List Int)}, (∀ h ∈ hs, h ≠ []) → ∀ h ∈ spread held W e hs ks, h ≠ []
 | [], hs, hm, h, hh => hm h hh
 | k :: ks, hs, hm, h, hh => spread_ne ks (hs := spreadT held W e hs k) (fun x hx => by
   obtain ⟨y, hy, hx⟩ := List.mem_flatMap.mp hx
   obtain ⟨t, ht, rfl⟩ := List.mem_map.mp hx
   intro z
   exact hm y hy (List.append_eq_nil_iff.mp z).1) h hh
theorem fetD_neG {fs : List FD} {held : List (List (List Int))} {W n place : Nat} (w1 : 1 ≤ W) (lt : place < n) (l1 : ∀ f ∈ fs, 1 ≤ f.len) (sh : ∀ c0, held[place / W]? = some c0 → ∀ c ∈ c0, c.length = min W (n - place / W * W)) : ∀ r ∈ fetD fs held W n place, r ≠ [] := by
 intro r hr
 obtain ⟨c, hc, hr⟩ := List.mem_flatMap.mp hr
 unfold fetOne at hr
 cases e : lenAt fs (c.getD (place - place / W * W) 0) with
 | none =>
  rw [e] at hr
  rw [List.mem_singleton.mp hr]
  exact fun z => by cases z
 | some l =>
  rw [e] at hr
  refine spread_ne _ (fun h hh => ?_) r hr
  rw [List.mem_singleton.mp hh]
  rw [List.getD_eq_getElem?_getD] at hc
  cases ec : held[place / W]? with
  | none => rw [ec] at hc; cases hc
  | some c0 =>
   rw [ec] at hc
   have sl := sh c0 ec c hc
   have h1 := Nat.div_mul_le_self place W
   have h2 := Nat.div_add_mod place W
   have h3 := Nat.mod_lt place w1
   rw [Nat.mul_comm] at h2
   unfold partT
   intro z
   have z := congrArg List.length z
   rw [List.length_take, List.length_drop, List.length_nil] at z
   have hl : 1 ≤ l := by
    unfold lenAt at e
    obtain ⟨f, hf, rfl⟩ := Option.map_eq_some_iff.mp e
    have := l1 f (List.mem_of_find?_eq_some hf); omega
   generalize place / W * W = g at *
   omega
theorem fetD_ne {fs : List FD} {o : SightO} {b place : Nat} (S : o.Shp b) (O : o.Ok) (w1 : 1 ≤ o.W.toNat) (lt : place < o.cells.length) (l1 : ∀ f ∈ fs, 1 ≤ f.len) : ∀ r ∈ fetD fs o.cs o.W.toNat o.cells.length place, r ≠ [] :=
 fetD_neG w1 lt l1 fun c0 ec c hc => by
  rw [(S.sh _ c0 ec c hc).1]
  unfold unitOf
  rw [List.length_take, List.length_drop]
def rowC (S : List Addr) (rs : List (List Int)) : Gx.GCt where
 n := rs.length
 yld := fun j Hw x H1 => ∃ t r, rs[j]? = some r ∧ x = .ref t ∧ H1 t = some (.tup (r.map V.int)) ∧ Vc.Ed [] Hw H1
 fin := fun Hw H1 => Vc.Ed [] Hw H1
 rely := fun H1 H2 => Vc.Ed S H1 H2
def spFetches (A : Ad) : Gx.SpGx := fun vs H C E => ∃ (o : SightO) (x : CodeO) (place : Int) (S : List Addr), vs = [.ref o.p, .ref x.c, .int place] ∧ o.At A H ∧ o.Ok ∧ o.Shp 7 ∧ x.At A H ∧ x.Ok ∧ (∀ a ∈ S, ∃ u, H a = some u) ∧
 ((place < 0 ∨ (o.cells.length : Int) ≤ place) → ∀ dd H', Vc.Ed [] H H' → H' dd = some (.xd [("at", .int place)]) → E (.ref A.C_BadAddress) (some dd) H') ∧
 (∀ k : Nat, place = k → k < o.cells.length → ∃ rs, IsSort rs (fetD x.fs o.cs o.W.toNat o.cells.length k) ∧ C = rowC S rs)
section
variable {P : Program} {w : World} {K : PySem.W.Frag} {mg : Str → Option Value} {base : Heap} {A : Ad}
theorem ok_Sight_fetches (T : Txt K mg A) : Gx.GFx PG w K mg base 5 A.f_Sight_fetches A.d_Sight_fetches ["self", "codes", "place"] (spFetches A) := by
 have G_Sight_fetched := ok_Sight_fetched (w := w) (base := base) T
 have G_BadAddressu_initu := ok_BadAddressu_initu (w := w) (base := base) T
 refine Gx.gfx_fun T.F_Sight_fetches sc_Sight_fetches (fun vs H C E h => ?_) (fun cdv Ar outer s H vs C E pn hr h => ?_)
 ·obtain ⟨o, x, place, S, rfl, _⟩ := h
  rfl
 ·obtain ⟨o, x, place, S, rfl, X, O, Sh, Co, ok, hS, kE, kQ⟩ := h
  obtain ⟨dx, hp⟩ := id X.ob
  have cl := T.cl_Sight
  have no1 := T.no_Sight_cells
  have l1 := sight_cells (o := o)
  have hce := X.ce
  have ol := O.l24
  refine ⟨_, (Gx.gf_cons (ps_if (PW.pt (pw_or (pt_cmpR op_lt (pv 2) pe_int (nomark _)) (pw_or1 (pt_cmpR op_ge (pv 2) (pe_callB call_len_seq (by rfl) T.n_len (by decide +kernel) (pa_cons (pe_fld (pv 0) rfl) pa_nil)) (nomark _))))) (pss_one (Vc.ps_raiseT rfl takes_gcx (pmk_oex T.ox_BadAddress T.i_BadAddress T.ti_BadAddress G_BadAddressu_initu (by exact hr.mono (by decide)) T.b_BadAddressu_initu .nil pass0 (by rfl) T.g_BadAddress (pa_cons (pv 2) pa_nil)))) pss_nil) (Gx.gf_of' (Gx.gss_one (Gx.gs_forS (fun s9 H9 => (by (refine' Gx.blkZ ?h ?q; (case h => exact (Gx.pis_pi rfl (fun _ h => h) (pi_list (pe_callB (cr_tsort (by rfl)) (by rfl) T.n_sorted (by decide +kernel) (pa_cons (pe_callTy (cr_tset (by rfl) (by exact Vc.room64 hr)) (by rfl) T.n_set (by decide +kernel) (pa_cons (pe_meth (pv 0) T.cl_Sight T.m_Sight_fetched G_Sight_fetched (by exact hr.mono (by decide)) T.b_Sight_fetched .nil pass0 (pa_cons (pv 1) (pa_cons (pv 2) pa_nil))) pa_nil)) pa_nil))))); (case q => first | exact rfl | (dsimp only [Gx.reX]; done) | (dsimp only [Gx.reX]; exact rfl))))) (fun s9 H9 => (by (refine' Gx.blkG ?h ?q; (case h => exact (pg_name (i := 3) sc_Sight_fetches.nd rfl (Or.inl rfl))); (case q => first | exact rfl | (dsimp only [Gx.reX]; done) | (dsimp only [Gx.reX]; exact rfl))))) (Gx.gss_one (Gx.gs_yield (fun s9 H9 => (by (refine' Gx.blkE ?h ?q; (case h => exact (pv 3)); (case q => first | exact rfl | (dsimp only [Gx.reX]; done) | (dsimp only [Gx.reX]; exact rfl))))))))))), ?_⟩
  show tIfS _ _ _ _ _ _
  walk_at "go"
  refine Vc.go_ite (fun c => ?_) (fun c => ?_)
  ·walk_at "go"
   intro dd H1 _ e1 hdd
   exact kE (.inl c) dd H1 e1 hdd
  walk_at "go"
  rw [List.length_map]
  refine Vc.go_ite (fun c2 => ?_) (fun c2 => ?_)
  ·walk_at "go"
   intro dd H1 _ e1 hdd
   exact kE (.inr c2) dd H1 e1 hdd
  obtain ⟨k, rfl⟩ : ∃ k : Nat, place = k := ⟨place.toNat, by omega⟩
  have kl : k < o.cells.length := by omega
  obtain ⟨rs, hs, rfl⟩ := kQ k rfl kl
  clear kE kQ
  walk_at "go"
  dsimp only [Gx.GEnds.at]
  refine Gx.go_gthen ?_
  refine Gx.go_gfor ?_
  refine Gx.go_tpi ?_
  walk_at "go"
  refine ⟨o, x, k, rfl, X, O, Sh, Co, ok, kl, fun D ts H1 e1 nD hD hT => ?_⟩
  obtain ⟨z1, z2, z3⟩ := tups_zip (K := K) hT
  have wu := uns_pos O.w
  have fl : (fetD x.fs o.cs o.W.toNat o.cells.length k).length ≤ 7 * 343 := fetD_len (by omega) (fun q hq => (ok.1.ok q hq).l4) Sh.few
  walk_at "go"
  refine ⟨D, _, rfl, .of (by rw [z1]; exact hD), fun p hp => .of (z2 p hp), by rw [List.length_zip]; omega, fun a L na sub all nd => ?_⟩
  generalize hu2 : upd _ a _ = H2
  obtain ⟨e2, ha⟩ := Vc.alloc hu2 na
  have mem : ∀ p ∈ L, p.2 ∈ fetD x.fs o.cs o.W.toNat o.cells.length k := fun p hp => by rw [← z3]; exact List.mem_map.mpr ⟨p, sub p hp, rfl⟩
  walk_at "go"
  refine ⟨a, L, rfl, ha, fun p hp => .of (e2.tup _ _ (z2 p (sub p hp))), fun p hp => fetD_ne Sh O (by omega) kl (fun q hq => (ok.1.ok q hq).l1) _ (mem p hp), fun N q pm pw few nq => ?_⟩
  generalize hu3 : upd _ q _ = H3
  obtain ⟨e3, hq⟩ := Vc.alloc hu3 nq
  have hrs : N.map (·.2) = rs := (srt_of pm nd pw mem fun x hx => by
   rw [← z3] at hx
   obtain ⟨p, hp, rfl⟩ := List.mem_map.mp hx
   exact all p hp).uniq hs
  have hN : ∀ p ∈ N, H3 p.1 = some (.tup (p.2.map V.int)) := fun p hp => e3.tup _ _ (e2.tup _ _ (z2 p (sub p (pm.mem_iff.mp hp))))
  have qS : q ∉ S := fun z => by
   obtain ⟨u, hu⟩ := hS q z
   rw [(e1.ex e2).dom _ nq] at hu; cases hu
  have nl : N.length = rs.length := by rw [← hrs, List.length_map]
  walk_at "go"
  refine ⟨⟨_, .of hq⟩, Gx.gfor_by (walk_list (xs := N.map fun q => V.ref q.1)) (fun i j Hw σ H' => (∃ y : Option V, σ = [some (.ref o.p), some (.ref x.c), some (.int k), y]) ∧ i = j ∧ H' q = some (.lst (N.map fun q => V.ref q.1)) ∧ (∀ p ∈ N, H' p.1 = some (.tup (p.2.map V.int))) ∧ Vc.Ed [] Hw H') ⟨⟨none, rfl⟩, rfl, hq, hN, (e1.ex e2).ex e3⟩ (fun i j Hw σ H' _ p => .of p.2.2.1) ?_ ?_⟩
  ·rintro i j Hw σ H4 v H5 hi ⟨⟨y, rfl⟩, rfl, hq4, hN4, e4⟩ ⟨rfl, hv⟩
   rw [List.getElem?_map] at hv
   obtain ⟨p, hp_, rfl⟩ := Option.map_eq_some_iff.mp hv
   have pN := List.mem_of_getElem? hp_
   walk_at "go"
   refine Gx.go_gthen ?_
   refine Gx.go_gyield ?_
   walk_at "go"
   refine ⟨by rw [List.length_map, nl] at hi; exact hi, ⟨p.1, p.2, by rw [← hrs, List.getElem?_map, hp_]; rfl, rfl, hN4 p pN, e4⟩, fun H6 e6 => ?_⟩
   have e6 : Vc.Ed S H5 H6 := e6
   exact ⟨trivial, ⟨_, rfl⟩, rfl, e6.keep _ _ qS hq4, fun p hp => e6.tup _ _ (hN4 p hp), .refl⟩
  rintro j Hw σ H4 ⟨⟨y, rfl⟩, rfl, hq4, hN4, e4⟩
  exact ⟨by rw [List.length_map, nl]; rfl, e4⟩
end
end My
namespace My
open PySem PySem.Spec PyProof.Rows L2
def LeH (h1 h2 : List (List (List Int))) : Prop := ∀ k t, t ∈ h1.getD k [] → t ∈ h2.getD k []
theorem LeH.refl (h : List (List (List Int))) : LeH h h := fun _ _ z => z
theorem spreadT_mono {h1 h2 : List (List (List Int))} (l : LeH h1 h2) {W e k : Nat} {x1 x2 : List (List Int)} (m : ∀ x ∈ x1, x ∈ x2) : ∀ x ∈ spreadT h1 W e x1 k, x ∈ spreadT h2 W e x2 k := fun x hx => by
 obtain ⟨h, hh, hx⟩ := List.mem_flatMap.mp hx
 obtain ⟨t, ht, rfl⟩ := List.mem_map.mp hx
 exact List.mem_flatMap.mpr ⟨h, m h hh, List.mem_map.mpr ⟨t, l k t ht, rfl⟩⟩
theorem spread_mono {h1 h2 : List (List (List Int))} (l : LeH h1 h2) {W e : Nat} : ∀ (ks : List Nat) {x1 x2 : List (List Int)}, (∀ x ∈ x1, x ∈ x2) → ∀ x ∈ spread h1 W e x1 ks, x ∈ spread h2 W e x2 ks
 | [], _, _, m => m
 | _ :: ks, _, _, m => spread_mono l ks (spreadT_mono l m)
theorem fetD_mono {fs : List FD} {h1 h2 : List (List (List Int))} (l : LeH h1 h2) {W n p : Nat} : ∀ t ∈ fetD fs h1 W n p, t ∈ fetD fs h2 W n p := fun t ht => by
 obtain ⟨c, hc, ht⟩ := List.mem_flatMap.mp ht
 refine List.mem_flatMap.mpr ⟨c, l _ _ hc, ?_⟩
 unfold fetOne at ht ⊢
 cases e : lenAt fs (c.getD (p - p / W * W) 0) with
 | none => rw [e] at ht; exact ht
 | some k => rw [e] at ht; exact spread_mono l _ (fun _ z => z) t ht
def Pres (W : Int) (cells : List Int) (cs : List (List (List Int))) : Prop := ∀ (k : Nat) (c : List (List Int)), cs[k]? = some c → unitOf W cells k ∈ c
theorem units_get {W : Int} {vals : List Int} {k : Nat} (h : k < manyU W vals.length) : (unitsOf W vals)[k]? = some (unitOf W vals k) := by
 unfold unitsOf
 rw [List.getElem?_map, List.getElem?_range h]; rfl
theorem Pres.one {W : Int} {vals : List Int} : Pres W vals ((unitsOf W vals).map fun c => [c]) := fun k c h => by
 unfold unitsOf at h
 rw [List.map_map, List.getElem?_map] at h
 obtain ⟨j, hj, rfl⟩ := Option.map_eq_some_iff.mp h
 obtain ⟨_, ej⟩ := List.getElem?_eq_some_iff.mp hj
 rw [List.getElem_range] at ej
 rw [← ej]
 exact List.mem_singleton.mpr rfl
theorem addC_all {W : Int} {vals : List Int} {cs : List (List (List Int))} (l : cs.length = manyU W vals.length) {k : Nat} {c : List (List Int)} (h : (addC cs (unitsOf W vals))[k]? = some c) : ∃ d, cs[k]? = some d ∧ c = if unitOf W vals k ∈ d then d else d ++ [unitOf W vals k] := by
 have kl : k < cs.length := by
  have := (List.getElem?_eq_some_iff.mp h).1
  rwa [addC_len (by rw [units_len, l])] at this
 obtain ⟨d, hd⟩ : ∃ d, cs[k]? = some d := ⟨_, List.getElem?_eq_getElem kl⟩
 rw [addC_get hd (units_get (by rw [← l]; exact kl))] at h
 exact ⟨d, hd, (Option.some.inj h).symm⟩
theorem Pres.add {W : Int} {vals : List Int} {cs : List (List (List Int))} (l : cs.length = manyU W vals.length) : Pres W vals (addC cs (unitsOf W vals)) := fun k c h => by
 obtain ⟨d, _, rfl⟩ := addC_all l h
 split
 ·assumption
 ·exact List.mem_append_right _ (List.mem_singleton.mpr rfl)
theorem addC_id {W : Int} {vals : List Int} {cs : List (List (List Int))} (l : cs.length = manyU W vals.length) (P : Pres W vals cs) : addC cs (unitsOf W vals) = cs := by
 refine List.ext_getElem? fun k => ?_
 by_cases kl : k < cs.length
 ·obtain ⟨d, hd⟩ : ∃ d, cs[k]? = some d := ⟨_, List.getElem?_eq_getElem kl⟩
  rw [addC_get hd (units_get (by rw [← l]; exact kl)), if_pos (P k d hd), hd]
 ·rw [List.getElem?_eq_none (show cs.length ≤ k by omega), List.getElem?_eq_none (show (addC cs (unitsOf W vals)).length ≤ k by rw [addC_len (by rw [units_len, l])]; omega)]
theorem le_add {W : Int} {vals : List Int} {cs : List (List (List Int))} (l : cs.length = manyU W vals.length) : LeH cs (addC cs (unitsOf W vals)) := fun k t ht => by
 rw [List.getD_eq_getElem?_getD] at ht ⊢
 cases e : cs[k]? with
 | none => rw [e] at ht; cases ht
 | some d =>
  rw [e] at ht
  have kl := (List.getElem?_eq_some_iff.mp e).1
  rw [addC_get e (units_get (by rw [← l]; exact kl))]
  show t ∈ (if _ then _ else _)
  split
  ·exact ht
  ·exact List.mem_append_left _ ht
theorem lexL_trans {a b c : List Int} (h1 : Tb.lexL a b = true) (h2 : Tb.lexL b c = true) : Tb.lexL a c = true := by
 cases e : Tb.lexL a c with
 | true => rfl
 | false =>
  have := Tb.lexL_tr b c a (Tb.lexL_asym _ _ h2) e
  rw [h1] at this; cases this
theorem ins_ex : ∀ (rs : List (List Int)) (x : List Int), rs.Pairwise (fun a b => Tb.lexL a b = true) → ∃ r : List (List Int), r.Pairwise (fun a b => Tb.lexL a b = true) ∧ ∀ y, y ∈ r ↔ y = x ∨ y ∈ rs
 | [], x, _ => ⟨[x], List.pairwise_singleton _ _, fun y => by simp⟩
 | a :: as, x, h => by
  obtain ⟨h1, h2⟩ := List.pairwise_cons.mp h
  cases e : Tb.lexL x a with
  | true => exact ⟨x :: a :: as, List.pairwise_cons.mpr ⟨fun y hy => (List.mem_cons.mp hy).elim (fun z => by rw [z]; exact e) fun z => lexL_trans e (h1 y z), h⟩, fun y => List.mem_cons⟩
  | false =>
   cases f : Tb.lexL a x with
   | true =>
    obtain ⟨r, hr, hm⟩ := ins_ex as x h2
    refine ⟨a :: r, List.pairwise_cons.mpr ⟨fun y hy => ((hm y).mp hy).elim (fun z => by rw [z]; exact f) fun z => h1 y z, hr⟩, fun y => ?_⟩
    rw [List.mem_cons, List.mem_cons, hm]
    exact ⟨fun z => z.elim (fun z => .inr (.inl z)) fun z => z.elim .inl fun z => .inr (.inr z), fun z => z.elim (fun z => .inr (.inl z)) fun z => z.elim .inl fun z => .inr (.inr z)⟩
   | false =>
    have := Tb.lexL_conn _ _ e f
    subst this
    exact ⟨x :: as, h, fun y => ⟨.inr, fun z => z.elim (fun z => by rw [z]; exact List.mem_cons_self) id⟩⟩
theorem sort_ex : ∀ l : List (List Int), ∃ rs, IsSort rs l
 | [] => ⟨[], .nil, fun _ => Iff.rfl⟩
 | x :: l => by
  obtain ⟨rs, h⟩ := sort_ex l
  obtain ⟨r, h1, h2⟩ := ins_ex rs x h.asc
  exact ⟨r, h1, fun y => by rw [h2, h.mem, List.mem_cons]⟩
theorem IsSort.nd {rs l : List (List Int)} (h : IsSort rs l) : rs.Nodup := h.asc.imp fun {a b} q e => by
 subst e; rw [Tb.lexL_irr] at q; cases q
theorem nd_len {α : Type} [DecidableEq α] : ∀ {as bs : List α}, as.Nodup → (∀ x ∈ as, x ∈ bs) → as.length ≤ bs.length
 | [], _, _, _ => Nat.zero_le _
 | a :: as, bs, nd, h => by
  obtain ⟨n1, n2⟩ := List.nodup_cons.mp nd
  have hm := h a List.mem_cons_self
  have z := nd_len (as := as) (bs := bs.erase a) n2 fun x hx => (List.mem_erase_of_ne (fun e => n1 (by rw [← e]; exact hx))).mpr (h x (List.mem_cons_of_mem _ hx))
  rw [List.length_erase_of_mem hm] at z
  have := List.length_pos_of_mem hm
  rw [List.length_cons]; omega
theorem IsSort.len {rs l : List (List Int)} (h : IsSort rs l) : rs.length ≤ l.length := nd_len h.nd fun x hx => (h.mem x).mp hx
end My
namespace My
open PySem PySem.Spec PyProof.Rows L2
theorem dm {W q s : Nat} (h : s < W) : (q * W + s) / W = q ∧ (q * W + s) % W = s := by
 have e : q * W + s = s + W * q := by rw [Nat.mul_comm, Nat.add_comm]
 rw [e, Nat.add_mul_div_left _ _ (Nat.lt_of_le_of_lt (Nat.zero_le _) h), Nat.add_mul_mod_self_left, Nat.div_eq_of_lt h, Nat.mod_eq_of_lt h]
 exact ⟨Nat.zero_add _, rfl⟩
theorem fm_congr {α β : Type} {f g : α → List β} : ∀ {l : List α}, (∀ x ∈ l, f x = g x) → l.flatMap f = l.flatMap g
 | [], _ => rfl
 | x :: l, h => by rw [List.flatMap_cons, List.flatMap_cons, h x List.mem_cons_self, fm_congr fun y hy => h y (List.mem_cons_of_mem _ hy)]
theorem spread_mem {held : List (List (List Int))} {W e : Nat} : ∀ (ks : List Nat) (hs : List (List Int)) (t : List Int), ks.Nodup → (t ∈ spread held W e hs ks ↔ ∃ h ∈ hs, ∃ g : Nat → List Int, (∀ k ∈ ks, g k ∈ held.getD k []) ∧ t = h ++ ks.flatMap fun k => (g k).take (e - k * W))
 | [], hs, t, _ => by
  show t ∈ hs ↔ _
  constructor
  ·exact fun h => ⟨t, h, fun _ => [], (fun _ z => nomatch z), by rw [List.flatMap_nil, List.append_nil]⟩
  ·rintro ⟨h, hh, g, _, rfl⟩
   rw [List.flatMap_nil, List.append_nil]; exact hh
 | k :: ks, hs, t, nd => by
  obtain ⟨nk, nd⟩ := List.nodup_cons.mp nd
  show t ∈ spread held W e (spreadT held W e hs k) ks ↔ _
  rw [spread_mem ks _ t nd]
  constructor
  ·rintro ⟨h, hh, g, hg, rfl⟩
   obtain ⟨h0, hh0, hh⟩ := List.mem_flatMap.mp hh
   obtain ⟨c, hc, rfl⟩ := List.mem_map.mp hh
   refine ⟨h0, hh0, fun j => if j = k then c else g j, fun j hj => ?_, ?_⟩
   ·rcases List.mem_cons.mp hj with rfl | hj
    ·dsimp only; rw [if_pos rfl]; exact hc
    ·dsimp only; rw [if_neg (fun z : j = k => nk (z ▸ hj))]; exact hg j hj
   ·rw [List.flatMap_cons, List.append_assoc]
    dsimp only
    rw [if_pos rfl]
    congr 2
    refine fm_congr fun j hj => ?_
    rw [if_neg (fun z : j = k => nk (z ▸ hj))]
  ·rintro ⟨h, hh, g, hg, rfl⟩
   refine ⟨h ++ (g k).take (e - k * W), List.mem_flatMap.mpr ⟨h, hh, List.mem_map.mpr ⟨g k, hg k List.mem_cons_self, rfl⟩⟩, g, fun j hj => hg j (List.mem_cons_of_mem _ hj), ?_⟩
   rw [List.flatMap_cons, List.append_assoc]
def runU (W e p : Nat) (g : Nat → List Int) (m : Nat) : List Int := ((g (p / W)).drop (p % W)).take (e - p) ++ (List.range' (p / W + 1) m).flatMap fun k => (g k).take (e - k * W)
def ByG (W p : Nat) (g : Nat → List Int) (t : List Int) : Prop := ∀ i, i < t.length → t[i]? = (g ((p + i) / W))[(p + i) % W]?
theorem runU_pos {W e p n : Nat} {g : Nat → List Int} (w1 : 1 ≤ W) (pe : p < e) (en : e ≤ n) : ∀ m, (∀ k, p / W ≤ k → k ≤ p / W + m → (g k).length = min W (n - k * W)) → (m = 0 ∨ (p / W + m) * W < e) → (runU W e p g m).length = min e ((p / W + 1 + m) * W) - p ∧ ByG W p g (runU W e p g m)
 | 0, hl, _ => by
  have h0 := hl (p / W) (Nat.le_refl _) (Nat.le_refl _)
  have hd := Nat.div_add_mod p W
  have hm := Nat.mod_lt p w1
  rw [Nat.mul_comm] at hd
  have e1 : (p / W + 1 + 0) * W = p / W * W + W := by rw [Nat.add_zero, Nat.succ_mul]
  have len : (runU W e p g 0).length = min e ((p / W + 1 + 0) * W) - p := by
   unfold runU
   rw [List.range'_zero, List.flatMap_nil, List.append_nil, List.length_take, List.length_drop, h0, e1]
   omega
  refine ⟨len, fun i hi => ?_⟩
  rw [len, e1] at hi
  have hs : p % W + i < W := by omega
  have epi : p + i = p / W * W + (p % W + i) := by omega
  obtain ⟨d1, d2⟩ := dm (q := p / W) hs
  rw [← epi] at d1 d2
  rw [d1, d2]
  unfold runU
  rw [List.range'_zero, List.flatMap_nil, List.append_nil, List.getElem?_take_of_lt (by omega), List.getElem?_drop]
 | m + 1, hl, hm => by
  have hm : (p / W + (m + 1)) * W < e := hm.resolve_left (Nat.succ_ne_zero m)
  have k1 : (p / W + 1 + m) * W = (p / W + (m + 1)) * W := by congr 1; omega
  have k2 : (p / W + 1 + (m + 1)) * W = (p / W + (m + 1)) * W + W := by rw [← Nat.succ_mul]; congr 1; omega
  have k3 : (p / W + m) * W ≤ (p / W + (m + 1)) * W := Nat.mul_le_mul_right _ (by omega)
  obtain ⟨il, ib⟩ := runU_pos (g := g) w1 pe en m (fun k a b => hl k a (by omega)) (.inr (by omega))
  have hk := hl (p / W + (m + 1)) (by omega) (Nat.le_refl _)
  have hd := Nat.div_add_mod p W
  have hpm := Nat.mod_lt p w1
  rw [Nat.mul_comm] at hd
  have kp : p / W * W + W ≤ (p / W + (m + 1)) * W := by rw [← Nat.succ_mul]; exact Nat.mul_le_mul_right _ (by omega)
  have step : runU W e p g (m + 1) = runU W e p g m ++ (g (p / W + (m + 1))).take (e - (p / W + (m + 1)) * W) := by
   unfold runU
   rw [List.range'_concat, List.flatMap_append, ← List.append_assoc]
   congr 1
   rw [List.flatMap_cons, List.flatMap_nil, List.append_nil, show p / W + 1 + 1 * m = p / W + (m + 1) by omega]
  rw [k1] at il
  have len : (runU W e p g (m + 1)).length = min e ((p / W + 1 + (m + 1)) * W) - p := by
   rw [step, List.length_append, il, List.length_take, hk, k2]
   omega
  refine ⟨len, fun i hi => ?_⟩
  rw [len, k2] at hi
  rw [step]
  by_cases h : i < (runU W e p g m).length
  ·rw [List.getElem?_append_left h]; exact ib i h
  ·have h := Nat.not_lt.mp h
   rw [List.getElem?_append_right h, il]
   rw [il] at h
   have hs : i - (min e ((p / W + (m + 1)) * W) - p) < W := by omega
   have epi : p + i = (p / W + (m + 1)) * W + (i - (min e ((p / W + (m + 1)) * W) - p)) := by omega
   obtain ⟨d1, d2⟩ := dm (q := p / W + (m + 1)) hs
   rw [← epi] at d1 d2
   rw [d1, d2, List.getElem?_take_of_lt (by omega)]
theorem byG_uniq {W p : Nat} {g : Nat → List Int} {s t : List Int} (l : s.length = t.length) (a : ByG W p g s) (b : ByG W p g t) : s = t := by
 refine List.ext_getElem? fun i => ?_
 by_cases h : i < s.length
 ·rw [a i h, b i (by omega)]
 ·rw [List.getElem?_eq_none (by omega), List.getElem?_eq_none (by omega)]
structure Shp (W n : Nat) (cs : List (List (List Int))) : Prop where
 many : cs.length = manyU W n
 sh : ∀ (k : Nat) (c : List (List Int)), cs[k]? = some c → ∀ t ∈ c, t.length = min W (n - k * W)
theorem Shp.len {W n : Nat} {cs : List (List (List Int))} (S : Shp W n cs) {k : Nat} {t : List Int} (h : t ∈ cs.getD k []) : t.length = min W (n - k * W) := by
 rw [List.getD_eq_getElem?_getD] at h
 cases e : cs[k]? with
 | none => rw [e] at h; cases h
 | some c => rw [e] at h; exact S.sh k c e t h
def manyB (fs : List FD) (n p : Nat) (b : Int) : Nat := match lenAt fs b with
 | none => 1
 | some l => min (p + l) n - p
structure FetG (fs : List FD) (cs : List (List (List Int))) (W n p : Nat) (g : Nat → List Int) (t : List Int) : Prop where
 gm : ∀ k, p / W ≤ k → k * W < p + t.length → g k ∈ cs.getD k []
 b : ByG W p g t
 l : t.length = manyB fs n p ((g (p / W)).getD (p % W) 0)
 n : 1 ≤ t.length
theorem fetD_iff {fs : List FD} {cs : List (List (List Int))} {W n p : Nat} (l1 : ∀ f ∈ fs, 1 ≤ f.len) (w1 : 1 ≤ W) (S : Shp W n cs) (pn : p < n) (t : List Int) : t ∈ fetD fs cs W n p ↔ ∃ g, FetG fs cs W n p g t := by
 have hd := Nat.div_add_mod p W
 have hpm := Nat.mod_lt p w1
 rw [Nat.mul_comm] at hd
 have sub : p - p / W * W = p % W := by omega
 have lenp : ∀ b l, lenAt fs b = some l → 1 ≤ l := fun b l h => by
  unfold lenAt at h
  obtain ⟨f, hf, rfl⟩ := Option.map_eq_some_iff.mp h
  have := l1 f (List.mem_of_find?_eq_some hf)
  omega
 have e0 : ∀ l, 1 ≤ l → p < min (p + l) n := fun l h => by omega
 have mfact : ∀ e, p < e → p / W + ((e - 1) / W - p / W) = (e - 1) / W := fun e h => by
  have : p / W ≤ (e - 1) / W := Nat.div_le_div_right (by omega)
  omega
 have mlt : ∀ e, p < e → ((e - 1) / W - p / W = 0 ∨ (p / W + ((e - 1) / W - p / W)) * W < e) := fun e h => by
  rw [mfact e h]
  have := Nat.div_mul_le_self (e - 1) W
  exact .inr (by omega)
 have mge : ∀ e, p < e → e ≤ (p / W + 1 + ((e - 1) / W - p / W)) * W := fun e h => by
  have h1 : p / W + 1 + ((e - 1) / W - p / W) = (e - 1) / W + 1 := by have := mfact e h; omega
  rw [h1, Nat.succ_mul]
  have h2 := Nat.div_add_mod (e - 1) W
  have := Nat.mod_lt (e - 1) w1
  rw [Nat.mul_comm] at h2
  omega
 have kle : ∀ e k, p < e → k * W < e → k ≤ (e - 1) / W := fun e k _ h => (Nat.le_div_iff_mul_le w1).mpr (by omega)
 constructor
 ·intro h
  obtain ⟨c, hc, ht⟩ := List.mem_flatMap.mp h
  have cl := S.len hc
  unfold fetOne at ht
  rw [sub] at ht
  cases hl : lenAt fs (c.getD (p % W) 0) with
  | none =>
   rw [hl] at ht
   obtain rfl := List.mem_singleton.mp ht
   refine ⟨fun _ => c, fun k a b => ?_, fun i hi => ?_, ?_, Nat.le_refl _⟩
   ·have b : k * W < p + 1 := b
    have : k ≤ p / W := (Nat.le_div_iff_mul_le w1).mpr (by omega)
    rw [show k = p / W by omega]; exact hc
   ·have hi : i < 1 := hi
    obtain rfl : i = 0 := by omega
    show some _ = c[p % W]?
    rw [List.getD_eq_getElem?_getD, List.getElem?_eq_getElem (by omega)]
    rfl
   ·unfold manyB
    rw [hl]; rfl
  | some l =>
   rw [hl] at ht
   have l1' := lenp _ _ hl
   have pe := e0 l l1'
   obtain ⟨h0, hh0, g, hg, rfl⟩ := (spread_mem _ _ _ (List.nodup_range' ..)).mp ht
   obtain rfl := List.mem_singleton.mp hh0
   obtain ⟨G, hG⟩ : ∃ G : Nat → List Int, G = fun k => if k = p / W then c else g k := ⟨_, rfl⟩
   have G0 : G (p / W) = c := by rw [hG]; exact if_pos rfl
   have G1 : ∀ k ∈ List.range' (p / W + 1) ((min (p + l) n - 1) / W - p / W), G k = g k := fun k hk => by
    obtain ⟨j, hj, rfl⟩ := List.mem_range'.mp hk
    rw [hG]; exact if_neg (by omega)
   have GH : ∀ k, p / W ≤ k → k ≤ p / W + ((min (p + l) n - 1) / W - p / W) → G k ∈ cs.getD k [] := fun k a b => by
    by_cases z : k = p / W
    ·rw [z, G0]; exact hc
    ·have m : k ∈ List.range' (p / W + 1) ((min (p + l) n - 1) / W - p / W) := List.mem_range'.mpr ⟨k - (p / W + 1), by omega, by omega⟩
     rw [G1 k m]; exact hg k m
   have eq : partT c (p % W) (min (p + l) n - p / W * W) ++ (List.range' (p / W + 1) ((min (p + l) n - 1) / W - p / W)).flatMap (fun k => (g k).take (min (p + l) n - k * W)) = runU W (min (p + l) n) p G ((min (p + l) n - 1) / W - p / W) := by
    unfold runU partT
    rw [G0]
    congr 1
    ·congr 1; omega
    ·exact fm_congr fun k hk => by rw [G1 k hk]
   rw [eq]
   obtain ⟨ul, ub⟩ := runU_pos (n := n) (g := G) w1 pe (by omega) _ (fun k a b => S.len (GH k a b)) (mlt _ pe)
   have ge := mge _ pe
   have ul : (runU W (min (p + l) n) p G ((min (p + l) n - 1) / W - p / W)).length = min (p + l) n - p := by rw [ul]; omega
   refine ⟨G, fun k a b => GH k a ?_, ub, ?_, by rw [ul]; omega⟩
   ·rw [ul] at b
    have := kle (min (p + l) n) k pe (by omega)
    rw [mfact _ pe]; exact this
   ·rw [ul, G0]
    unfold manyB
    rw [hl]
 ·rintro ⟨g, hg, hb, hl, h1⟩
  have hc := hg (p / W) (Nat.le_refl _) (by omega)
  have cl := S.len hc
  refine List.mem_flatMap.mpr ⟨g (p / W), hc, ?_⟩
  unfold fetOne
  rw [sub]
  unfold manyB at hl
  cases hla : lenAt fs ((g (p / W)).getD (p % W) 0) with
  | none =>
   rw [hla] at hl
   have hl : t.length = 1 := hl
   obtain ⟨b, rfl⟩ := List.length_eq_one_iff.mp hl
   refine List.mem_singleton.mpr ?_
   have := hb 0 (by omega)
   rw [List.getD_eq_getElem?_getD, ← show (g ((p + 0) / W))[(p + 0) % W]? = (g (p / W))[p % W]? from rfl, ← this]
   rfl
  | some l =>
   rw [hla] at hl
   have l1' := lenp _ _ hla
   have pe := e0 l l1'
   have hl : t.length = min (p + l) n - p := hl
   have GH : ∀ k, p / W ≤ k → k ≤ p / W + ((min (p + l) n - 1) / W - p / W) → g k ∈ cs.getD k [] := fun k a b => by
    refine hg k a ?_
    rw [mfact _ pe] at b
    have := (Nat.le_div_iff_mul_le w1).mp b
    omega
   obtain ⟨ul, ub⟩ := runU_pos (n := n) (g := g) w1 pe (by omega) _ (fun k a b => S.len (GH k a b)) (mlt _ pe)
   have ge := mge _ pe
   have et : t = runU W (min (p + l) n) p g ((min (p + l) n - 1) / W - p / W) := byG_uniq (by rw [ul, hl]; omega) hb ub
   refine (spread_mem _ _ _ (List.nodup_range' ..)).mpr ⟨_, List.mem_singleton.mpr rfl, g, fun k hk => ?_, ?_⟩
   ·obtain ⟨j, hj, rfl⟩ := List.mem_range'.mp hk
    exact GH _ (by omega) (by omega)
   ·rw [et]
    unfold runU partT
    congr 2
    omega
end My
namespace My
open PySem PySem.Spec PyProof.Rows L2
theorem manyB_le {fs : List FD} (l4 : ∀ f ∈ fs, f.len ≤ 4) {n p : Nat} (pn : p < n) (b : Int) : manyB fs n p b ≤ 4 ∧ p + manyB fs n p b ≤ n := by
 unfold manyB
 cases e : lenAt fs b with
 | none => exact ⟨show 1 ≤ 4 by decide, by show p + 1 ≤ n; omega⟩
 | some l =>
  unfold lenAt at e
  obtain ⟨f, hf, rfl⟩ := Option.map_eq_some_iff.mp e
  have := l4 f (List.mem_of_find?_eq_some hf)
  show min (p + f.len.toNat) n - p ≤ 4 ∧ p + (min (p + f.len.toNat) n - p) ≤ n
  omega
theorem fetD_apart {fs : List FD} {cs cs' : List (List (List Int))} {W n p : Nat} (l1 : ∀ f ∈ fs, 1 ≤ f.len) (l4 : ∀ f ∈ fs, f.len ≤ 4) (w1 : 1 ≤ W) (S : Shp W n cs) (S' : Shp W n cs') (pn : p < n) (h : ∀ k, p / W ≤ k → k ≤ (p + 3) / W → cs.getD k [] = cs'.getD k []) (t : List Int) : t ∈ fetD fs cs W n p ↔ t ∈ fetD fs cs' W n p := by
 rw [fetD_iff l1 w1 S pn, fetD_iff l1 w1 S' pn]
 have kk : ∀ k g, t.length = manyB fs n p g → k * W < p + t.length → k ≤ (p + 3) / W := fun k g l a => by
  have := (manyB_le l4 pn g).1
  exact (Nat.le_div_iff_mul_le w1).mpr (by omega)
 constructor
 ·rintro ⟨g, a, b, c, d⟩
  exact ⟨g, fun k x y => by rw [← h k x (kk k _ c y)]; exact a k x y, b, c, d⟩
 ·rintro ⟨g, a, b, c, d⟩
  exact ⟨g, fun k x y => by rw [h k x (kk k _ c y)]; exact a k x y, b, c, d⟩
theorem unit_get {W : Nat} {cells : List Int} {k j : Nat} (h : j < W) : (unitOf W cells k)[j]? = cells[k * W + j]? := by
 unfold unitOf
 rw [Int.toNat_natCast, List.getElem?_take_of_lt h, List.getElem?_drop]
theorem many_lt {W n k : Nat} (w1 : 1 ≤ W) (h : k * W < n) : k < manyU W n := by
 unfold manyU
 rw [Int.toNat_natCast]
 refine (Nat.lt_div_iff_mul_lt w1).mpr ?_
 omega
theorem one_get {W : Nat} {cells : List Int} {k : Nat} (w1 : 1 ≤ W) (h : k * W < cells.length) : ((unitsOf W cells).map fun c => [c]).getD k [] = [unitOf W cells k] := by
 rw [List.getD_eq_getElem?_getD, List.getElem?_map, units_get (many_lt w1 h)]
 rfl
theorem unit_len {W : Nat} {cells : List Int} {k : Nat} : (unitOf W cells k).length = min W (cells.length - k * W) := by
 unfold unitOf
 rw [Int.toNat_natCast, List.length_take, List.length_drop]
theorem Shp.one {W : Nat} {cells : List Int} : Shp W cells.length ((unitsOf W cells).map fun c => [c]) := by
 refine ⟨by rw [List.length_map, units_len], fun k c h t ht => ?_⟩
 have kl : k < manyU W cells.length := by
  have := (List.getElem?_eq_some_iff.mp h).1
  rwa [List.length_map, units_len] at this
 rw [List.getElem?_map, units_get kl] at h
 have h := Option.some.inj h
 rw [← h] at ht
 rw [List.mem_singleton.mp ht]
 exact unit_len
theorem Shp.add {W n : Nat} {cells : List Int} {cs : List (List (List Int))} (S : Shp W n cs) (l : cells.length = n) : Shp W n (addC cs (unitsOf W cells)) := by
 refine ⟨by rw [addC_len (by rw [units_len, l]; exact S.many)]; exact S.many, fun k c h t ht => ?_⟩
 obtain ⟨d, hd, rfl⟩ := addC_all (by rw [l]; exact S.many) h
 have un : (unitOf W cells k).length = min W (n - k * W) := by rw [← l]; exact unit_len
 split at ht
 ·exact S.sh k d hd t ht
 ·rcases List.mem_append.mp ht with m | m
  ·exact S.sh k d hd t m
  ·rw [List.mem_singleton.mp m]; exact un
theorem fetD_one {fs : List FD} {W p : Nat} {cells : List Int} (l1 : ∀ f ∈ fs, 1 ≤ f.len) (l4 : ∀ f ∈ fs, f.len ≤ 4) (w1 : 1 ≤ W) (pn : p < cells.length) (t : List Int) : t ∈ fetD fs ((unitsOf W cells).map fun c => [c]) W cells.length p ↔ t = (cells.drop p).take (manyB fs cells.length p (cells.getD p 0)) := by
 rw [fetD_iff l1 w1 .one pn]
 have hd := Nat.div_add_mod p W
 rw [Nat.mul_comm] at hd
 have pos : ∀ a, (unitOf W cells (a / W))[a % W]? = cells[a]? := fun a => by
  have hd := Nat.div_add_mod a W
  rw [Nat.mul_comm] at hd
  rw [unit_get (Nat.mod_lt a w1), hd]
 have hp : (unitOf W cells (p / W)).getD (p % W) 0 = cells.getD p 0 := by
  rw [List.getD_eq_getElem?_getD, pos, List.getD_eq_getElem?_getD]
 have tl : ((cells.drop p).take (manyB fs cells.length p (cells.getD p 0))).length = manyB fs cells.length p (cells.getD p 0) := by
  have := (manyB_le l4 pn (cells.getD p 0)).2
  rw [List.length_take, List.length_drop]
  omega
 constructor
 ·rintro ⟨g, a, b, c, d⟩
  have mle := (manyB_le l4 pn ((g (p / W)).getD (p % W) 0)).2
  have gk : ∀ k, p / W ≤ k → k * W < p + t.length → g k = unitOf W cells k := fun k x y => by
   have := a k x y
   rw [one_get w1 (by omega)] at this
   exact List.mem_singleton.mp this
  have g0 := gk (p / W) (Nat.le_refl _) (by omega)
  rw [g0, hp] at c
  refine List.ext_getElem? fun i => ?_
  by_cases h : i < t.length
  ·have hdi := Nat.div_mul_le_self (p + i) W
   rw [b i h, gk ((p + i) / W) (Nat.div_le_div_right (by omega)) (by omega), pos, List.getElem?_take_of_lt (by omega), List.getElem?_drop]
  ·rw [List.getElem?_eq_none (by omega), List.getElem?_eq_none (by omega)]
 ·rintro rfl
  refine ⟨unitOf W cells, fun k x y => ?_, fun i hi => ?_, by rw [tl, hp], ?_⟩
  ·have := (manyB_le l4 pn (cells.getD p 0)).2
   rw [tl] at y
   rw [one_get w1 (by omega)]
   exact List.mem_singleton.mpr rfl
  ·rw [tl] at hi
   rw [pos, List.getElem?_take_of_lt hi, List.getElem?_drop]
  ·rw [tl]
   unfold manyB
   cases e : lenAt fs (cells.getD p 0) with
   | none => exact Nat.le_refl _
   | some l =>
    unfold lenAt at e
    obtain ⟨f, hf, rfl⟩ := Option.map_eq_some_iff.mp e
    have := l1 f (List.mem_of_find?_eq_some hf)
    show 1 ≤ min (p + f.len.toNat) cells.length - p
    omega
def SubU (W m n : Nat) (cs1 cs2 : List (List (List Int))) : Prop := ∀ k2 c2, c2 ∈ cs2.getD k2 [] → ∀ k1, k1 / m = k2 → k1 * W < n → (c2.drop (k1 % m * W)).take W ∈ cs1.getD k1 []
theorem unit_sub {W m : Nat} (m1 : 1 ≤ m) {cells : List Int} {k1 : Nat} : ((unitOf ((m * W : Nat) : Int) cells (k1 / m)).drop (k1 % m * W)).take W = unitOf W cells k1 := by
 have hd := Nat.div_add_mod k1 m
 have hm := Nat.mod_lt k1 m1
 have h1 : k1 / m * (m * W) + k1 % m * W = k1 * W := by
  rw [← Nat.mul_assoc, ← Nat.add_mul, Nat.mul_comm (k1 / m) m, hd]
 have h2 : k1 % m * W + W ≤ m * W := by rw [← Nat.succ_mul]; exact Nat.mul_le_mul_right _ hm
 unfold unitOf
 rw [Int.toNat_natCast, Int.toNat_natCast, List.drop_take, List.drop_drop, List.take_take, h1]
 congr 1
 omega
theorem SubU.one {W m : Nat} {cells : List Int} (w1 : 1 ≤ W) (m1 : 1 ≤ m) : SubU W m cells.length ((unitsOf W cells).map fun c => [c]) ((unitsOf ((m * W : Nat) : Int) cells).map fun c => [c]) := fun k2 c2 h k1 e l => by
 have mw : 1 ≤ m * W := Nat.mul_pos m1 w1
 have l2 : k2 * (m * W) < cells.length := by
  rw [← e, ← Nat.mul_assoc]
  exact Nat.lt_of_le_of_lt (Nat.mul_le_mul_right _ (Nat.div_mul_le_self k1 m)) l
 rw [one_get mw l2] at h
 rw [List.mem_singleton.mp h, ← e, unit_sub m1, one_get w1 l]
 exact List.mem_singleton.mpr rfl
theorem add_getD {W : Nat} {cells : List Int} {cs : List (List (List Int))} {k : Nat} (w1 : 1 ≤ W) (S : cs.length = manyU W cells.length) (h : k * W < cells.length) : (addC cs (unitsOf W cells)).getD k [] = if unitOf W cells k ∈ cs.getD k [] then cs.getD k [] else cs.getD k [] ++ [unitOf W cells k] := by
 have kl := many_lt w1 h
 have hc : cs[k]? = some (cs.getD k []) := by
  rw [List.getD_eq_getElem?_getD, List.getElem?_eq_getElem (by omega)]; rfl
 rw [List.getD_eq_getElem?_getD, addC_get hc (units_get kl)]
 rfl
theorem SubU.add {W m : Nat} {cells : List Int} {cs1 cs2 : List (List (List Int))} (w1 : 1 ≤ W) (m1 : 1 ≤ m) (l1 : cs1.length = manyU W cells.length) (l2 : cs2.length = manyU ((m * W : Nat) : Int) cells.length) (h : SubU W m cells.length cs1 cs2) : SubU W m cells.length (addC cs1 (unitsOf W cells)) (addC cs2 (unitsOf ((m * W : Nat) : Int) cells)) := fun k2 c2 hc k1 e l => by
 have mw : 1 ≤ m * W := Nat.mul_pos m1 w1
 have lt2 : k2 * (m * W) < cells.length := by
  rw [← e, ← Nat.mul_assoc]
  exact Nat.lt_of_le_of_lt (Nat.mul_le_mul_right _ (Nat.div_mul_le_self k1 m)) l
 rw [add_getD mw l2 lt2] at hc
 rw [add_getD w1 l1 l]
 have old : c2 ∈ cs2.getD k2 [] → (c2.drop (k1 % m * W)).take W ∈ (if unitOf W cells k1 ∈ cs1.getD k1 [] then cs1.getD k1 [] else cs1.getD k1 [] ++ [unitOf W cells k1]) := fun z => by
  have := h k2 c2 z k1 e l
  split
  ·exact this
  ·exact List.mem_append_left _ this
 split at hc
 ·exact old hc
 ·rcases List.mem_append.mp hc with z | z
  ·exact old z
  ·rw [List.mem_singleton.mp z, ← e, unit_sub m1]
   split
   ·assumption
   ·exact List.mem_append_right _ (List.mem_singleton.mpr rfl)
theorem fetD_sub {fs : List FD} {W m n p : Nat} {cs1 cs2 : List (List (List Int))} (l1 : ∀ f ∈ fs, 1 ≤ f.len) (l4 : ∀ f ∈ fs, f.len ≤ 4) (w1 : 1 ≤ W) (m1 : 1 ≤ m) (S1 : Shp W n cs1) (S2 : Shp (m * W) n cs2) (h : SubU W m n cs1 cs2) (pn : p < n) : ∀ t ∈ fetD fs cs2 (m * W) n p, t ∈ fetD fs cs1 W n p := fun t ht => by
 have mw : 1 ≤ m * W := Nat.mul_pos m1 w1
 obtain ⟨g, gm, gb, gl, gn⟩ := (fetD_iff l1 mw S2 pn t).mp ht
 have mle := (manyB_le l4 pn ((g (p / (m * W))).getD (p % (m * W)) 0)).2
 have pos : ∀ a, (((g (a / W / m)).drop (a / W % m * W)).take W)[a % W]? = (g (a / (m * W)))[a % (m * W)]? := fun a => by
  rw [List.getElem?_take_of_lt (Nat.mod_lt a w1), List.getElem?_drop, Nat.div_div_eq_div_mul, Nat.mul_comm W m, Nat.mul_comm m W, Nat.mod_mul, Nat.mul_comm (a / W % m) W, Nat.add_comm]
 refine (fetD_iff l1 w1 S1 pn t).mpr ⟨fun k => ((g (k / m)).drop (k % m * W)).take W, fun k x y => ?_, fun i hi => ?_, ?_, gn⟩
 ·refine h (k / m) _ (gm (k / m) ?_ ?_) k rfl (by omega)
  ·rw [Nat.mul_comm m W, ← Nat.div_div_eq_div_mul]
   exact Nat.div_le_div_right x
  ·rw [← Nat.mul_assoc]
   exact Nat.lt_of_le_of_lt (Nat.mul_le_mul_right _ (Nat.div_mul_le_self k m)) y
 ·rw [gb i hi, ← pos]
 ·rw [gl, List.getD_eq_getElem?_getD, List.getD_eq_getElem?_getD, ← pos]
theorem fetD_within {fs : List FD} {W n p : Nat} {cs : List (List (List Int))} (l1 : ∀ f ∈ fs, 1 ≤ f.len) (w1 : 1 ≤ W) (S : Shp W n cs) (pn : p < n) {t : List Int} (ht : t ∈ fetD fs cs W n p) (le : p - p / W * W + t.length ≤ W) : ∃ c ∈ cs.getD (p / W) [], t = (c.drop (p - p / W * W)).take t.length := by
 have hd := Nat.div_add_mod p W
 rw [Nat.mul_comm] at hd
 have sub : p - p / W * W = p % W := by omega
 rw [sub] at le ⊢
 obtain ⟨g, gm, gb, gl, gn⟩ := (fetD_iff l1 w1 S pn t).mp ht
 refine ⟨g (p / W), gm _ (Nat.le_refl _) (by omega), List.ext_getElem? fun i => ?_⟩
 by_cases h : i < t.length
 ·have epi : p + i = p / W * W + (p % W + i) := by omega
  obtain ⟨d1, d2⟩ := dm (W := W) (q := p / W) (s := p % W + i) (by omega)
  rw [← epi] at d1 d2
  rw [gb i h, d1, d2, List.getElem?_take_of_lt h, List.getElem?_drop]
 ·rw [List.getElem?_eq_none (by omega), List.getElem?_eq_none (by rw [List.length_take]; omega)]
theorem add_grow {W n : Nat} {cells : List Int} {cs : List (List (List Int))} (l : cells.length = n) (S : Shp W n cs) {k : Nat} {c c' : List (List Int)} (h : cs[k]? = some c) (h' : (addC cs (unitsOf W cells))[k]? = some c') : c'.take c.length = c ∧ c'.length ≤ c.length + 1 ∧ (c.Nodup → c'.Nodup) := by
 obtain ⟨d, hd, rfl⟩ := addC_all (by rw [l]; exact S.many) h'
 rw [h] at hd
 obtain rfl := Option.some.inj hd
 split
 ·exact ⟨List.take_of_length_le (Nat.le_refl _), Nat.le_succ _, id⟩
 ·rename_i nm
  refine ⟨List.take_left' rfl, by rw [List.length_append]; exact Nat.le_refl _, fun nd => List.nodup_append.mpr ⟨nd, List.nodup_cons.mpr ⟨(fun z => nomatch z), List.Pairwise.nil⟩, fun a ha b hb z => nm ?_⟩⟩
  rw [← List.mem_singleton.mp hb, ← z]; exact ha
theorem add_apart {W n : Nat} {cells cells' : List Int} {cs : List (List (List Int))} (w1 : 1 ≤ W) (l : cells'.length = n) (l0 : cells.length = n) (S : Shp W n cs) (P : Pres W cells cs) {k : Nat} (u : unitOf W cells' k = unitOf W cells k) : (addC cs (unitsOf W cells')).getD k [] = cs.getD k [] := by
 by_cases h : k * W < n
 ·rw [add_getD w1 (by rw [l]; exact S.many) (by rw [l]; exact h), u]
  have kl := many_lt w1 h
  have hc : cs[k]? = some (cs.getD k []) := by
   rw [List.getD_eq_getElem?_getD, List.getElem?_eq_getElem (by rw [S.many]; exact kl)]; rfl
  rw [if_pos (P k _ hc)]
 ·have kl : manyU W n ≤ k := by
   unfold manyU
   rw [Int.toNat_natCast]
   refine Nat.le_of_lt_succ ((Nat.div_lt_iff_lt_mul w1).mpr ?_)
   rw [Nat.succ_mul]; omega
  rw [List.getD_eq_getElem?_getD, List.getD_eq_getElem?_getD, List.getElem?_eq_none (by rw [addC_len (by rw [units_len, l]; exact S.many), S.many]; exact kl), List.getElem?_eq_none (by rw [S.many]; exact kl)]
theorem turn_same {W n : Nat} {c0 c1 c2 c3 : List Int} (w1 : 1 ≤ W) (n0 : c0.length = n) (n1 : c1.length = n) (n2 : c2.length = n) (n3 : c3.length = n) (h : ∀ k, (unitOf W c1 k = unitOf W c0 k ∧ unitOf W c3 k = unitOf W c2 k) ∨ (unitOf W c2 k = unitOf W c0 k ∧ unitOf W c3 k = unitOf W c1 k)) : addC (addC ((unitsOf W c0).map fun c => [c]) (unitsOf W c1)) (unitsOf W c3) = addC (addC ((unitsOf W c0).map fun c => [c]) (unitsOf W c2)) (unitsOf W c3) := by
 have l0 : ((unitsOf W c0).map fun c => [c]).length = manyU W n := by rw [List.length_map, units_len, n0]
 have ul : ∀ c : List Int, c.length = n → (unitsOf W c).length = manyU W n := fun c h => by rw [units_len, h]
 have l1 : ∀ c : List Int, c.length = n → (addC ((unitsOf W c0).map fun c => [c]) (unitsOf W c)).length = manyU W n := fun c h => by rw [addC_len (by rw [l0, ul c h])]; exact l0
 have l2 : ∀ c : List Int, c.length = n → (addC (addC ((unitsOf W c0).map fun c => [c]) (unitsOf W c)) (unitsOf W c3)).length = manyU W n := fun c h => by rw [addC_len (by rw [l1 c h, ul c3 n3])]; exact l1 c h
 refine List.ext_getElem? fun k => ?_
 by_cases kl : k < manyU W n
 ·have get : ∀ c : List Int, c.length = n → (unitsOf W c)[k]? = some (unitOf W c k) := fun c h => units_get (by rw [h]; exact kl)
  have g0 : ((unitsOf W c0).map fun c => [c])[k]? = some [unitOf W c0 k] := by rw [List.getElem?_map, get c0 n0]; rfl
  rw [addC_get (addC_get g0 (get c1 n1)) (get c3 n3), addC_get (addC_get g0 (get c2 n2)) (get c3 n3)]
  congr 1
  rcases h k with ⟨a, b⟩ | ⟨a, b⟩
  ·rw [a, b, if_pos (List.mem_singleton.mpr rfl)]
   split
   ·rfl
   ·rw [if_pos (List.mem_append_right _ (List.mem_singleton.mpr rfl))]
  ·rw [a, b, if_pos (List.mem_singleton.mpr rfl)]
   split
   ·rfl
   ·rw [if_pos (List.mem_append_right _ (List.mem_singleton.mpr rfl))]
 ·rw [List.getElem?_eq_none (by rw [l2 c1 n1]; omega), List.getElem?_eq_none (by rw [l2 c2 n2]; omega)]
end My
namespace My
open PySem PySem.Spec PyProof.Rows L2
structure SgU (W n b : Nat) (o : SightO) : Prop where
 ok : o.Ok
 w : o.W = W
 len : o.cells.length = n
 few : ∀ c ∈ o.cs, c.length ≤ b
 sh : ∀ (k : Nat) (c : List (List Int)), o.cs[k]? = some c → ∀ t ∈ c, t.length = min W (n - k * W) ∧ ∀ v ∈ t, 0 ≤ v ∧ v ≤ 255
 pres : Pres W o.cells o.cs
 nd : ∀ c ∈ o.cs, c.Nodup
theorem SgU.shp {W n b : Nat} {o : SightO} (S : SgU W n b o) : Shp W n o.cs := ⟨by have := S.ok.many; rw [S.w, S.len] at this; exact this, fun k c h t ht => (S.sh k c h t ht).1⟩
theorem SgU.shp7 {W n b : Nat} {o : SightO} (S : SgU W n b o) (l : b ≤ 7) : o.Shp 7 := ⟨fun c hc => Nat.le_trans (S.few c hc) l, fun k c h t ht => by
 obtain ⟨h1, h2⟩ := S.sh k c h t ht
 exact ⟨by rw [h1, S.w, unit_len, S.len], h2⟩⟩
theorem lst_fets {A : Ad} {H : Hp} {x : CodeO} {o : SightO} {p : Nat} {Q : VK} {E : XK} (X : o.At A H) (O : o.Ok) (Sh : o.Shp 7) (C : x.At A H) (xo : x.Ok) (pl : p < o.cells.length) (w1 : 1 ≤ o.W.toNat) (l4 : ∀ f ∈ x.fs, f.len ≤ 4)
  (k : ∀ (L : Addr) (ts : List Addr) (rs : List (List Int)) (H' : Hp), Vc.Ed [] H H' → H L = none → H' L = some (.lst (ts.map V.ref)) → TupsAt H' ts rs → IsSort rs (fetD x.fs o.cs o.W.toNat o.cells.length p) → Q (.ref L) H') :
  ∃ C, spFetches A [.ref o.p, .ref x.c, .int p] H C E ∧ C.n ≤ sizeLine ∧ (∀ H, C.rely H H) ∧ ∃ W : Nat → List V → Hp → Prop, W 0 [] H ∧ (∀ j ys H, j < C.n → W j ys H → ∀ x H2, C.yld j H x H2 → W (j + 1) (ys ++ [x]) H2) ∧
   ∀ ys H, W C.n ys H → ∀ H2, C.fin H H2 → ∀ p, H2 p = none → Q (.ref p) (upd H2 p (.lst ys)) := by
 obtain ⟨rs, hs⟩ := sort_ex (fetD x.fs o.cs o.W.toNat o.cells.length p)
 have few : rs.length ≤ 7 * 343 := Nat.le_trans hs.len (fetD_len w1 l4 Sh.few)
 refine ⟨rowC [] rs, ⟨o, x, p, [], rfl, X, O, Sh, C, xo, (fun _ z => nomatch z), fun z => (by omega), fun q e l => ?_⟩, by show rs.length ≤ _; rw [sizeLine_eq]; omega, fun H => .refl, fun j ys H' => ∃ ts : List Addr, ys = ts.map V.ref ∧ TupsAt H' ts (rs.take j) ∧ Vc.Ed [] H H', ⟨[], rfl, ⟨rfl, fun _ _ _ a _ => by cases a⟩, .refl⟩, ?_, ?_⟩
 ·obtain rfl : q = p := by omega
  exact ⟨rs, hs, rfl⟩
 ·rintro j ys H4 hj ⟨ts, rfl, hy, e4⟩ x H5 ⟨t, r, hr, rfl, ht, e5⟩
  refine ⟨ts ++ [t], by rw [List.map_append]; rfl, ?_, e4.ex e5⟩
  rw [List.take_add_one, hr]
  exact (hy.ed e5).snoc ht
 ·rintro ys H4 ⟨ts, rfl, hy, e4⟩ H5 e5 p np
  have e5 : Vc.Ed [] H4 H5 := e5
  have hy : TupsAt H4 ts (rs.take rs.length) := hy
  rw [List.take_length] at hy
  have en : Vc.Ed [] H5 (upd H5 p (.lst (ts.map V.ref))) := Vc.Ed.new np
  exact k p ts rs _ ((e4.ex e5).ex en) ((e4.ex e5).dom _ np) upd_same ((hy.ed e5).ed en) hs
structure LLAt (H : Hp) (us : List Addr) (rows : List (List (List Int))) : Prop where
 len : us.length = rows.length
 at_ : ∀ (j : Nat) (u : Addr) (r : List (List Int)), us[j]? = some u → rows[j]? = some r → ∃ ts, H u = some (.lst (ts.map V.ref)) ∧ TupsAt H ts r
theorem LLAt.nil {H : Hp} : LLAt H [] [] := ⟨rfl, fun _ _ _ a _ => by cases a⟩
theorem LLAt.ed {S : List Addr} {H H' : Hp} {us : List Addr} {rows : List (List (List Int))} (e : Vc.Ed S H H') (n : ∀ u ∈ us, u ∉ S) (h : LLAt H us rows) : LLAt H' us rows := ⟨h.len, fun j u r a b => by
 obtain ⟨ts, h1, h2⟩ := h.at_ j u r a b
 exact ⟨ts, e.keep _ _ (n u (List.mem_of_getElem? a)) h1, h2.ed e⟩⟩
theorem LLAt.ed0 {H H' : Hp} {us : List Addr} {rows : List (List (List Int))} (e : Vc.Ed [] H H') (h : LLAt H us rows) : LLAt H' us rows := h.ed e fun _ _ z => nomatch z
theorem LLAt.snoc {H : Hp} {us : List Addr} {rows : List (List (List Int))} {u : Addr} {r : List (List Int)} {ts : List Addr} (h : LLAt H us rows) (hu : H u = some (.lst (ts.map V.ref))) (T : TupsAt H ts r) : LLAt H (us ++ [u]) (rows ++ [r]) := by
 refine ⟨by rw [List.length_append, List.length_append, h.len]; rfl, fun j q d a b => ?_⟩
 by_cases l : j < us.length
 ·rw [List.getElem?_append_left l] at a
  rw [List.getElem?_append_left (by rw [← h.len]; exact l)] at b
  exact h.at_ j q d a b
 ·rw [List.getElem?_append_right (by omega)] at a
  rw [List.getElem?_append_right (by rw [← h.len]; omega), ← h.len] at b
  have : j - us.length = 0 := by
   have := (List.getElem?_eq_some_iff.mp a).1
   have e : [u].length = 1 := rfl
   omega
  rw [this] at a b
  obtain rfl := Option.some.inj a
  obtain rfl := Option.some.inj b
  exact ⟨ts, hu, T⟩
structure Every (fs : List FD) (cs : List (List (List Int))) (W n : Nat) (rows : List (List (List Int))) : Prop where
 len : rows.length = n
 srt : ∀ (p : Nat) (r : List (List Int)), rows[p]? = some r → IsSort r (fetD fs cs W n p)
def spEvery (A : Ad) : Sp := fun vs H Q _ => ∃ (o : SightO) (x : CodeO) (W n b : Nat), vs = [.ref o.p, .ref x.c, .int n] ∧ o.At A H ∧ SgU W n b o ∧ b ≤ 7 ∧ x.At A H ∧ x.Ok ∧ 1 ≤ W ∧ n ≤ 24 ∧ (∀ f ∈ x.fs, f.len ≤ 4) ∧
 ∀ L us rows H', Vc.Ed [] H H' → H L = none → H' L = some (.lst (us.map V.ref)) → (∀ u ∈ us, H u = none) → LLAt H' us rows → Every x.fs o.cs W n rows → Q (.ref L) H'
def spHeld33 (A : Ad) : Sp := fun vs H Q _ => ∃ (o : SightO) (W n b : Nat), vs = [.ref o.p, .int n, .int W] ∧ o.At A H ∧ SgU W n b o ∧ 1 ≤ W ∧ W ≤ 8 ∧ n ≤ 24 ∧
 ∀ L us H', Vc.Ed [] H H' → H L = none → H' L = some (.lst (us.map V.ref)) → (∀ u ∈ us, H u = none) → LLAt H' us o.cs → Q (.ref L) H'
def spMissing : Sp := fun vs H Q _ => ∃ (a b : Addr) (us ws : List Addr) (ps qs : List (List Int)), vs = [.ref a, .ref b] ∧ H a = some (.lst (us.map V.ref)) ∧ H b = some (.lst (ws.map V.ref)) ∧ TupsAt H us ps ∧ TupsAt H ws qs ∧ (∀ p ∈ ps, p ∈ qs) ∧ ∀ H', Vc.Ed [] H H' → Q (.bl false) H'
def spApart : Sp := fun vs H Q _ => ∃ (p W lo hi : Nat), vs = [.int p, .int W, .int lo, .int hi] ∧ 1 ≤ W ∧ W ≤ 8 ∧ p ≤ 100 ∧ lo ≤ 100 ∧ 1 ≤ hi ∧ hi ≤ 100 ∧ ∀ H', Vc.Ed [] H H' → Q (.bl (decide ((p + 3) / W < lo / W ∨ (hi - 1) / W < p / W))) H'
section
variable {w : World} {K : PySem.W.Frag} {mg : Str → Option Value} {base : Heap} {A : Ad}
theorem ok__law_every (T : Txt K mg A) : FnOk PG w K mg base CX0 10 A.f__law_every A.d__law_every ["_law_sight", "_law_codes_here", "_law_size"] (spEvery A) := by
 have G_Sight_fetches := ok_Sight_fetches (w := w) (base := base) T
 refine T.F__law_every.ok sc__law_every (fun vs H Q E h => ?_) (fun cdv Ar outer s H vs Q E hr h => ?_)
 ·obtain ⟨o, x, W, n, b, rfl, _⟩ := h
  rfl
 ·obtain ⟨o, x, W, n, b, rfl, X, S, b7, C, xo, w1, n24, l4, k⟩ := h
  have hu := hu_of hr
  refine ⟨_, (pss_one (ps_ret (pe_lc (own := [("_law_place", 3)]) (g := gName 3) rfl sc__law_every.nd (pi_range1 (by rfl) T.n_range (pa_cons (pv 2) pa_nil)) (blkOk_by (own := [("_law_place", 3)]) (N := ["_law_sight", "_law_codes_here", "_law_size", "_law_place"]) (sc := defScope s__law_every) (by decide +kernel)) (fun _ _ _ _ _ => by exact (pg_name (i := 3) sc__law_every.nd rfl (Or.inl rfl))) (fun _ _ _ _ _ => by exact pts_nil) (fun _ _ _ _ _ => by (refine' Vc.blkE ?h ?q; (case h => exact (Gx.pe_listN (fun _ => (Gx.pgn_meth (pv 0) T.cl_Sight T.m_Sight_fetches G_Sight_fetches (by exact hr.mono (by decide)) T.b_Sight_fetches .nil (pa_cons (pv 1) (pa_cons (pv 3) pa_nil)))) (by exact hr.mono (by decide)) Vc.passSL (by rfl) T.n_list (by decide +kernel))); (case q => first | exact rfl | (dsimp only; done) | (dsimp only; exact rfl))))))), ?_⟩
  walk_at "go"
  refine ⟨by omega, by omega, Vc.lc_by walk_range (fun L i H' => Vc.Ed [] H H' ∧ ∃ (us : List Addr) (rows : List (List (List Int))), H' L = some (.lst (us.map V.ref)) ∧ (∀ u ∈ us, H u = none ∧ u ≠ L) ∧ LLAt H' us rows ∧ rows.length = i ∧ ∀ (p : Nat) (r : List (List Int)), rows[p]? = some r → IsSort r (fetD x.fs o.cs W n p)) (fun L H1 nL e1 hL => ⟨e1, [], [], hL, (fun _ z => nomatch z), .nil, rfl, fun _ _ z => by cases z⟩) (fun _ _ _ _ _ _ => trivial) ?_ ?_⟩
  ·rintro L i y H1 H2 nL hi ⟨e1, us, rows, hL, nu, hU, rl, hs⟩ ⟨rfl, hy⟩
   obtain rfl : y = .int i := by rw [hy]; show V.int (0 + (i : Int)) = _; rw [Int.zero_add]
   have hi : i < n := by simpa using hi
   have X2 := X.ed0 e1
   have C2 := C.ed0 e1
   have cl := T.cl_Sight
   obtain ⟨dx, hp⟩ := id X2.ob
   have ow : o.W.toNat = W := by rw [S.w, Int.toNat_natCast]
   walk_at "go"
   refine ⟨rfl, ?_⟩
   walk_at "go"
   dsimp only [Gx.tListS, Gx.tMethGx]
   walk_at "go"
   obtain ⟨CC, c1, c2, c3, W1', c4, c5, c6⟩ := lst_fets (A := A) (H := H2) (x := x) (o := o) (p := i) (E := _) (Q := fun v Hx => ∃ (pm : Addr) (ts : List Addr) (rs : List (List Int)), v = .ref pm ∧ Vc.Ed [] H2 Hx ∧ H2 pm = none ∧ Hx pm = some (.lst (ts.map V.ref)) ∧ TupsAt Hx ts rs ∧ IsSort rs (fetD x.fs o.cs o.W.toNat o.cells.length i)) X2 S.ok (S.shp7 b7) C2 xo (by rw [S.len]; exact hi) (by rw [ow]; exact w1) l4 (fun pm ts rs H' a1 a2 a3 a4 a5 => ⟨pm, ts, rs, rfl, a1, a2, a3, a4, a5⟩)
   refine ⟨CC, c1, c2, c3, W1', c4, c5, fun ys H9 h9 H10 f10 pm' npm => ?_⟩
   obtain ⟨pm, ts, rs, hpm, e8, npm, hm, hT, hsr⟩ := c6 ys H9 h9 H10 f10 pm' npm
   obtain rfl : pm' = pm := by injection hpm
   generalize upd H10 pm' (.lst ys) = H8 at e8 hm hT
   clear c1 c2 c3 c4 c5 c6 h9 f10
   rw [ow, S.len] at hsr
   have hL8 := e8.at0 hL
   have ul := hU.len
   walk_at "go"
   refine ⟨_, hL8, by rw [List.length_map]; exact small1000 (by omega), ?_⟩
   generalize hu9 : upd _ L _ = H9'
   obtain ⟨e9, hL9⟩ := Vc.chg hu9 hL8
   have pmL : pm' ≠ L := fun z => by rw [z, hL] at npm; cases npm
   refine ⟨(e1.ex e8).one e9 (.inr nL), us ++ [pm'], rows ++ [rs], by rw [hL9, List.map_append]; rfl, fun u hu => ?_, ((hU.ed0 e8).ed e9 fun u hu z => (nu u hu).2 (List.mem_singleton.mp z)).snoc (e9.at1 pmL hm) (hT.ed e9), by rw [List.length_append, rl]; rfl, fun q r hqr => ?_⟩
   ·rcases List.mem_append.mp hu with h | h
    ·exact nu u h
    ·rw [List.mem_singleton.mp h]; exact ⟨e1.dom _ npm, pmL⟩
   ·by_cases l : q < rows.length
    ·rw [List.getElem?_append_left l] at hqr; exact hs q r hqr
    ·rw [List.getElem?_append_right (by omega)] at hqr
     have : q - rows.length = 0 := by
      have := (List.getElem?_eq_some_iff.mp hqr).1
      have e : [rs].length = 1 := rfl
      omega
     rw [this] at hqr
     obtain rfl := Option.some.inj hqr
     rw [show q = i by omega]; exact hsr
  ·rintro L H1 nL ⟨e1, us, rows, hL, nu, hU, rl, hs⟩
   have rl : rows.length = n := by simpa using rl
   walk_at "go"
   exact k L us rows H1 e1 nL hL (fun u hu => (nu u hu).1) hU ⟨rl, hs⟩
theorem ok__law_missing {P : Program} (T : Txt K mg A) : FnOk P w K mg base CX0 1 A.f__law_missing A.d__law_missing ["_law_some", "_law_more"] spMissing := by
 refine T.F__law_missing.ok sc__law_missing (fun vs H Q E h => ?_) (fun cdv Ar outer s H vs Q E hr h => ?_)
 ·obtain ⟨a, b, us, ws, ps, qs, rfl, _⟩ := h
  rfl
 ·obtain ⟨a, b, us, ws, ps, qs, rfl, ha, hb, hP, hQ, sub, k⟩ := h
  have hu := hu_of hr
  have tl := hP.len
  refine ⟨_, (pss_one (ps_ret (pe_cmpR (op_neD (by exact hr.units)) (pe_lc (own := [("_law_one", 2)]) (g := gName 2) rfl sc__law_missing.nd (pi_list (pv 0)) (blkOk_by (own := [("_law_one", 2)]) (N := ["_law_some", "_law_more", "_law_one"]) (sc := defScope s__law_missing) (by decide +kernel)) (fun _ _ _ _ _ => by exact (pg_name (i := 2) sc__law_missing.nd rfl (Or.inl rfl))) (fun _ _ _ _ _ => by (refine' Vc.blkT ?h ?q; (case h => exact pts_one (pt_cmpR (op_notInD (by exact room65 hr)) (pv 2) (pv 1) (by rfl))); (case q => first | exact rfl | (dsimp only; done) | (dsimp only; exact rfl)))) (fun _ _ _ _ _ => by (refine' Vc.blkE ?h ?q; (case h => exact (pv 2)); (case q => first | exact rfl | (dsimp only; done) | (dsimp only; exact rfl))))) (pe_lst pa_nil) (nomark _)))), ?_⟩
  walk_at "go"
  refine ⟨⟨_, .of ha⟩, Vc.lc_by (walk_list (xs := us.map V.ref)) (fun B i H' => Vc.Ed [] H H' ∧ H' B = some (.lst [])) (fun B H' nB e2 hB => ⟨e2, hB⟩) (fun B i H' _ _ q => .of (q.1.at0 ha)) ?_ ?_⟩
  ·rintro B i y H2 H3 nB hi ⟨e2, hB⟩ ⟨rfl, hy⟩
   rw [List.getElem?_map] at hy
   rw [List.length_map] at hi
   obtain ⟨ti, hti, rfl⟩ := Option.map_eq_some_iff.mp hy
   obtain ⟨p, hp⟩ : ∃ p, ps[i]? = some p := ⟨_, List.getElem?_eq_getElem (by omega)⟩
   have mp := List.mem_of_getElem? hp
   walk_at "go"
   refine ⟨rfl, ?_⟩
   walk_at "go"
   refine go_notInT (e2.at0 hb) (hQ.ed e2) (e2.tup _ _ (hP.at_ i ti p hti hp)) ?_
   rw [decide_eq_true (sub p mp)]
   walk_at "go"
   exact ⟨e2, hB⟩
  rintro B H2 nB ⟨e2, hB⟩
  walk_at "go"
  intro M nM
  generalize hu3 : upd _ M _ = H3
  obtain ⟨e3, hM⟩ := Vc.alloc hu3 nM
  refine go_nePl (n := 2) (p := True) (d := .list []) (e := .list []) (.lst (.of (e3.at0 hB)) .nil) (.lst (.of hM) .nil) (pl_lst fun _ z => nomatch z) (pl_lst fun _ z => nomatch z) (by decide) ⟨fun _ => trivial, fun _ => rfl⟩ ?_
  rw [decide_eq_true trivial]
  exact k H3 (e2.ex e3)
theorem ok__law_apart {P : Program} (T : Txt K mg A) : FnOk P w K mg base CX0 1 A.f__law_apart A.d__law_apart ["_law_place", "_law_unit", "_law_low", "_law_high"] spApart := by
 refine T.F__law_apart.ok sc__law_apart (fun vs H Q E h => ?_) (fun cdv Ar outer s H vs Q E hr h => ?_)
 ·obtain ⟨p, W, lo, hi, rfl, _⟩ := h
  rfl
 ·obtain ⟨p, W, lo, hi, rfl, w1, w8, p1, l1, h1, h2, k⟩ := h
  have hu := hu_of hr
  refine ⟨_, (pss_one (ps_ret (pe_or (pe_cmpR op_lt (pe_op op_fdivW (pe_op op_add (pv 0) pe_int) (pv 1)) (pe_op op_fdivW (pv 2) (pv 1)) (nomark _)) (pe_one (pe_cmpR op_gt (pe_op op_fdivW (pv 0) (pv 1)) (pe_op op_fdivW (pe_op op_sub (pv 3) pe_int) (pv 1)) (nomark _)))))), ?_⟩
  have d1 : ((p : Int) + 3) / (W : Int) = (((p + 3) / W : Nat) : Int) := by rw [show (p : Int) + 3 = ((p + 3 : Nat) : Int) by omega, ← Int.natCast_ediv]
  have d2 : (lo : Int) / (W : Int) = ((lo / W : Nat) : Int) := (Int.natCast_ediv ..).symm
  have d3 : ((hi : Int) - 1) / (W : Int) = (((hi - 1) / W : Nat) : Int) := by rw [show (hi : Int) - 1 = ((hi - 1 : Nat) : Int) by omega, ← Int.natCast_ediv]
  have d4 : (p : Int) / (W : Int) = ((p / W : Nat) : Int) := (Int.natCast_ediv ..).symm
  walk_at "go"
  rw [d1, d2]
  refine Vc.go_ite (c := (((p + 3) / W : Nat) : Int) < ((lo / W : Nat) : Int)) (fun g1 => ?_) (fun g1 => ?_)
  ·have := k H .refl
   rw [decide_eq_true (.inl (by omega))] at this
   exact this
  ·walk_at "go"
   rw [d3, d4]
   have := k H .refl
   rw [show decide ((p + 3) / W < lo / W ∨ (hi - 1) / W < p / W) = decide ((((hi - 1) / W : Nat) : Int) < ((p / W : Nat) : Int)) by
    rw [decide_eq_decide]; omega] at this
   exact this
theorem ok__law_held (T : Txt K mg A) : FnOk PG w K mg base CX0 4 A.f__law_held A.d__law_held ["_law_sight", "_law_size", "_law_unit"] (spHeld33 A) := by
 have G_Sight_contents := ok_Sight_contents (w := w) (base := base) T
 refine T.F__law_held.ok sc__law_held (fun vs H Q E h => ?_) (fun cdv Ar outer s H vs Q E hr h => ?_)
 ·obtain ⟨o, W, n, b, rfl, _⟩ := h
  rfl
 ·obtain ⟨o, W, n, b, rfl, X, S, w1, w8, n24, k⟩ := h
  have hu := hu_of hr
  have d1 : ((n : Int) + (W : Int) - 1) / (W : Int) = ((manyU W n : Nat) : Int) := by
   unfold manyU
   rw [Int.toNat_natCast, show (n : Int) + (W : Int) - 1 = ((n + W - 1 : Nat) : Int) by omega, ← Int.natCast_ediv]
  have ml := S.shp.many
  have m24 : manyU W n ≤ 24 := by
   unfold manyU
   rw [Int.toNat_natCast]
   exact Nat.div_le_of_le_mul (by omega)
  refine ⟨_, (pss_one (ps_ret (pe_lc (own := [("_law_k", 3)]) (g := gName 3) rfl sc__law_held.nd (pi_range1 (by rfl) T.n_range (pa_cons (pe_op op_fdivW (pe_op op_sub (pe_op op_add (pv 1) (pv 2)) pe_int) (pv 2)) pa_nil)) (blkOk_by (own := [("_law_k", 3)]) (N := ["_law_sight", "_law_size", "_law_unit", "_law_k"]) (sc := defScope s__law_held) (by decide +kernel)) (fun _ _ _ _ _ => by exact (pg_name (i := 3) sc__law_held.nd rfl (Or.inl rfl))) (fun _ _ _ _ _ => by exact pts_nil) (fun _ _ _ _ _ => by (refine' Vc.blkE ?h ?q; (case h => exact (pe_meth (pv 0) T.cl_Sight T.m_Sight_contents G_Sight_contents (by exact hr.mono (by decide)) T.b_Sight_contents .nil passL (pa_cons (pv 3) pa_nil))); (case q => first | exact rfl | (dsimp only; done) | (dsimp only; exact rfl))))))), ?_⟩
  walk_at "go"
  rw [d1]
  refine ⟨by omega, by omega, Vc.lc_by walk_range (fun L i H' => Vc.Ed [] H H' ∧ ∃ us : List Addr, H' L = some (.lst (us.map V.ref)) ∧ (∀ u ∈ us, H u = none ∧ u ≠ L) ∧ LLAt H' us (o.cs.take i)) (fun L H1 nL e1 hL => ⟨e1, [], hL, (fun _ z => nomatch z), .nil⟩) (fun _ _ _ _ _ _ => trivial) ?_ ?_⟩
  ·rintro L i y H1 H2 nL hi ⟨e1, us, hL, nu, hU⟩ ⟨rfl, hy⟩
   obtain rfl : y = .int i := by rw [hy]; show V.int (0 + (i : Int)) = _; rw [Int.zero_add]
   have hi : i < manyU W n := by simpa using hi
   have X2 := X.ed0 e1
   have cl := T.cl_Sight
   obtain ⟨dx, hp⟩ := id X2.ob
   obtain ⟨c, hc⟩ : ∃ c, o.cs[i]? = some c := ⟨_, List.getElem?_eq_getElem (by omega)⟩
   walk_at "go"
   refine ⟨rfl, ?_⟩
   walk_at "go"
   refine ⟨o, i, rfl, X2, S.ok, fun z => (by omega), fun _ c' hc' Lc ts H8 e8 nLc hLc hT => ?_⟩
   rw [Int.toNat_natCast, hc] at hc'
   obtain rfl := Option.some.inj hc'
   have hL8 := e8.at0 hL
   have ul := hU.len
   rw [List.length_take] at ul
   walk_at "go"
   refine ⟨_, hL8, by rw [List.length_map]; exact small1000 (by omega), ?_⟩
   generalize hu9 : upd _ L _ = H9'
   obtain ⟨e9, hL9⟩ := Vc.chg hu9 hL8
   have pmL : Lc ≠ L := fun z => by rw [z, hL] at nLc; cases nLc
   refine ⟨(e1.ex e8).one e9 (.inr nL), us ++ [Lc], by rw [hL9, List.map_append]; rfl, fun u hu => ?_, ?_⟩
   ·rcases List.mem_append.mp hu with h | h
    ·exact nu u h
    ·rw [List.mem_singleton.mp h]; exact ⟨e1.dom _ nLc, pmL⟩
   ·rw [List.take_add_one, hc]
    exact ((hU.ed0 e8).ed e9 fun u hu z => (nu u hu).2 (List.mem_singleton.mp z)).snoc (e9.at1 pmL hLc) (hT.ed e9)
  ·rintro L H1 nL ⟨e1, us, hL, nu, hU⟩
   have tl : o.cs.take (manyU W n) = o.cs := List.take_of_length_le (by omega)
   have hU : LLAt H1 us o.cs := by
    rw [← tl]
    simpa using hU
   walk_at "go"
   exact k L us H1 e1 nL hL (fun u hu => (nu u hu).1) hU
end
end My
namespace My
open PySem PySem.Spec PyProof.Rows L2
theorem go_neTT {K : PySem.W.Frag} {H : Hp} {Q : VK} {x y : Addr} {us ws : List Addr} {ps qs : List (List Int)} (hx : H x = some (.lst (us.map V.ref))) (T : TupsAt H us ps) (hy : H y = some (.lst (ws.map V.ref))) (S : TupsAt H ws qs) (e : ps = qs) (q : Q (.bl false) H) : rNeD K (.ref x) (.ref y) H Q :=
 go_nePl (n := 2) (p := True) (T.dp hx) (S.dp hy) (pl_tups ps) (pl_tups qs) (by decide) ⟨fun _ => trivial, fun _ => by rw [e]⟩ (by rw [decide_eq_true trivial]; exact q)
def spGrown : Sp := fun vs H Q _ => ∃ (a b : Addr) (us ws : List Addr) (ps qs : List (List (List Int))) (W lo hi : Nat), vs = [.ref a, .ref b, .int W, .int lo, .int hi] ∧ H a = some (.lst (us.map V.ref)) ∧ H b = some (.lst (ws.map V.ref)) ∧ LLAt H us ps ∧ LLAt H ws qs ∧ ps.length = qs.length ∧ ps.length ≤ 24 ∧ 1 ≤ W ∧ W ≤ 8 ∧ lo ≤ 100 ∧ 1 ≤ hi ∧ hi ≤ 100 ∧
 (∀ (j : Nat) (p q : List (List Int)), ps[j]? = some p → qs[j]? = some q → (∀ t ∈ p, t ∈ q) ∧ (((j + 3) / W < lo / W ∨ (hi - 1) / W < j / W) → q = p)) ∧ ∀ H', Vc.Ed [] H H' → Q (.bl true) H'
section
variable {w : World} {K : PySem.W.Frag} {mg : Str → Option Value} {base : Heap} {A : Ad}
theorem ok__law_grown {P : Program} (T : Txt K mg A) : FnOk P w K mg base CX0 3 A.f__law_grown A.d__law_grown ["_law_before", "_law_later", "_law_unit", "_law_low", "_law_high"] spGrown := by
 have G__law_missing := ok__law_missing (P := P) (w := w) (base := base) T
 have G__law_apart := ok__law_apart (P := P) (w := w) (base := base) T
 refine T.F__law_grown.ok sc__law_grown (fun vs H Q E h => ?_) (fun cdv Ar outer s H vs Q E hr h => ?_)
 ·obtain ⟨a, b, us, ws, ps, qs, W, lo, hi, rfl, _⟩ := h
  rfl
 ·obtain ⟨a, b, us, ws, ps, qs, W, lo, hi, rfl, ha, hb, hP, hQ, el, n24, w1, w8, l1, h1, h2, f, k⟩ := h
  have hu := hu_of hr
  have pl := hP.len
  have ql := hQ.len
  refine ⟨_, (pss_cons (ps_for PassesOwn.never rfl (pi_range1 (by rfl) T.n_range (pa_cons (pe_callB call_len_seq (by rfl) T.n_len (by decide +kernel) (pa_cons (pv 0) pa_nil)) pa_nil)) (pg_name (i := 5) sc__law_grown.nd rfl (Or.inl rfl)) (pss_cons (ps_if (pt_val (pe_call G__law_missing (by exact hr.mono (by decide)) (by rfl) T.g__law_missing T.F__law_missing.kp T.b__law_missing .nil pass0 (pa_cons (pe_ix ix_list (pv 0) (pv 5) (fun _ _ => rfl)) (pa_cons (pe_ix ix_list (pv 1) (pv 5) (fun _ _ => rfl)) pa_nil)))) (pss_one (ps_ret pe_bl)) pss_nil) (pss_one (ps_if (PW.pt (pw_and (pt_val (pe_call G__law_apart (by exact hr.mono (by decide)) (by rfl) T.g__law_apart T.F__law_apart.kp T.b__law_apart .nil pass0 (pa_cons (pv 5) (pa_cons (pv 2) (pa_cons (pv 3) (pa_cons (pv 4) pa_nil)))))) (pw_and1 (pt_cmpR (op_neD (by exact hr.units)) (pe_ix ix_list (pv 1) (pv 5) (fun _ _ => rfl)) (pe_ix ix_list (pv 0) (pv 5) (fun _ _ => rfl)) (nomark _))))) (pss_one (ps_ret pe_bl)) pss_nil)))) (pss_one (ps_ret pe_bl))), ?_⟩
  walk_at "go"
  rw [List.length_map]
  refine ⟨by omega, by omega, for_it walk_range (fun j σ H' => ∃ y5 : Option V, σ = [some (.ref a), some (.ref b), some (.int W), some (.int lo), some (.int hi), y5] ∧ Vc.Ed [] H H') ⟨_, rfl, .refl⟩ (fun _ _ _ _ _ => trivial) ?_ ?_⟩
  ·rintro j v σ H2 H3 hj ⟨y5, rfl, e2⟩ ⟨rfl, hv⟩
   obtain rfl : v = .int j := by simpa using hv
   have hj : j < us.length := by simpa using hj
   obtain ⟨u, hu1⟩ : ∃ u, us[j]? = some u := ⟨_, List.getElem?_eq_getElem hj⟩
   obtain ⟨p, hp⟩ : ∃ p, ps[j]? = some p := ⟨_, List.getElem?_eq_getElem (by omega)⟩
   obtain ⟨x, hx⟩ : ∃ x, ws[j]? = some x := ⟨_, List.getElem?_eq_getElem (by omega)⟩
   obtain ⟨q, hq⟩ : ∃ q, qs[j]? = some q := ⟨_, List.getElem?_eq_getElem (by omega)⟩
   obtain ⟨f1, f2⟩ := f j p q hp hq
   obtain ⟨ts, ht, hT⟩ := hP.at_ j u p hu1 hp
   obtain ⟨ss, hs, hS⟩ := hQ.at_ j x q hx hq
   have a1 : atI (us.map V.ref) (j : Int) = some (.ref u) := at_of (j := j) (by omega) (by rw [List.getElem?_map, hu1]; rfl)
   have a2 : atI (ws.map V.ref) (j : Int) = some (.ref x) := at_of (j := j) (by omega) (by rw [List.getElem?_map, hx]; rfl)
   have ha2 := e2.at0 ha
   have hb2 := e2.at0 hb
   walk_at "go"
   refine ⟨u, x, ts, ss, p, q, rfl, e2.at0 ht, e2.at0 hs, hT.ed e2, hS.ed e2, f1, fun H4 e4 => ?_⟩
   have ha4 := e4.at0 ha2
   have hb4 := e4.at0 hb2
   walk_at "go"
   refine ⟨j, W, lo, hi, rfl, w1, w8, by omega, l1, h1, h2, fun H5 e5 => ?_⟩
   have ha5 := e5.at0 ha4
   have hb5 := e5.at0 hb4
   have e25 := (e2.ex e4).ex e5
   walk_at "go"
   refine Vc.go_ite (c := (j + 3) / W < lo / W ∨ (hi - 1) / W < j / W) (fun g1 => ?_) (fun g1 => ?_)
   ·walk_at "go"
    refine go_neTT (e25.at0 hs) (hS.ed e25) (e25.at0 ht) (hT.ed e25) (f2 g1) ?_
    walk_at "go"
    exact ⟨_, rfl, e25⟩
   ·walk_at "go"
    exact ⟨_, rfl, e25⟩
  ·rintro σ H2 ⟨y5, rfl, e2⟩
   walk_at "go"
   exact k H2 e2
end
end My
namespace My
open PySem PySem.Spec PyProof.Rows L2
def putW (cells : List Int) (a : Nat) (ws : List Int) : List Int := cells.take a ++ ws ++ cells.drop (a + ws.length)
theorem putW_len {cells ws : List Int} {a : Nat} (l : a + ws.length ≤ cells.length) : (putW cells a ws).length = cells.length := by
 unfold putW
 rw [List.length_append, List.length_append, List.length_take, List.length_drop]
 omega
theorem putW_get {cells ws : List Int} {a : Nat} (l : a + ws.length ≤ cells.length) (i : Nat) : (putW cells a ws)[i]? = if a ≤ i ∧ i < a + ws.length then ws[i - a]? else cells[i]? := by
 unfold putW
 have tl : (cells.take a).length = a := by rw [List.length_take]; omega
 by_cases h1 : i < a
 ·rw [if_neg (by omega), List.getElem?_append_left (by rw [List.length_append]; omega), List.getElem?_append_left (by omega), List.getElem?_take_of_lt h1]
 ·by_cases h2 : i < a + ws.length
  ·rw [if_pos (by omega), List.getElem?_append_left (by rw [List.length_append]; omega), List.getElem?_append_right (by omega), tl]
  ·rw [if_neg (by omega), List.getElem?_append_right (by rw [List.length_append]; omega), List.length_append, tl, List.getElem?_drop]
   congr 1
   omega
theorem putW_twice {cells ws : List Int} {a : Nat} (l : a + ws.length ≤ cells.length) : putW (putW cells a ws) a ws = putW cells a ws := by
 refine List.ext_getElem? fun i => ?_
 rw [putW_get (by rw [putW_len l]; exact l), putW_get l]
 by_cases h : a ≤ i ∧ i < a + ws.length
 ·rw [if_pos h, if_pos h]
 ·rw [if_neg h]
theorem unit_put {W k : Nat} {cells ws : List Int} {a : Nat} (l : a + ws.length ≤ cells.length) (h : k * W + W ≤ a ∨ a + ws.length ≤ k * W) : unitOf W (putW cells a ws) k = unitOf W cells k := by
 refine List.ext_getElem? fun j => ?_
 by_cases jw : j < W
 ·rw [unit_get jw, unit_get jw, putW_get l, if_neg (by omega)]
 ·rw [List.getElem?_eq_none (by rw [unit_len]; omega), List.getElem?_eq_none (by rw [unit_len]; omega)]
theorem putW_by {cells ws : List Int} {a : Nat} (h : ∀ v ∈ cells, 0 ≤ v ∧ v ≤ 255) (k : ∀ v ∈ ws, 0 ≤ v ∧ v ≤ 255) : ∀ v ∈ putW cells a ws, 0 ≤ v ∧ v ≤ 255 := fun v hv => by
 unfold putW at hv
 rcases List.mem_append.mp hv with hv | hv
 ·rcases List.mem_append.mp hv with hv | hv
  ·exact h v (List.mem_of_mem_take hv)
  ·exact k v hv
 ·exact h v (List.mem_of_mem_drop hv)
theorem unit_by {W k : Nat} {cells : List Int} (h : ∀ v ∈ cells, 0 ≤ v ∧ v ≤ 255) : ∀ v ∈ unitOf W cells k, 0 ≤ v ∧ v ≤ 255 := fun v hv => by
 unfold unitOf at hv
 exact h v (List.mem_of_mem_drop (List.mem_of_mem_take hv))
theorem SgU.many {W n b : Nat} {o : SightO} (S : SgU W n b o) : o.cs.length = manyU W n := S.shp.many
theorem wrote_eq (o : SightO) (a : Nat) (ws : List Int) : o.wrote a ws = { o with cells := putW o.cells a ws, cs := addC o.cs (unitsOf o.W (putW o.cells a ws)) } := rfl
theorem SgU.wrote {W n b a : Nat} {o : SightO} {ws : List Int} (S : SgU W n b o) (l : a + ws.length ≤ n) (wb : ∀ v ∈ ws, 0 ≤ v ∧ v ≤ 255) (O : (o.wrote a ws).Ok) : SgU W n (b + 1) (o.wrote a ws) := by
 have l' : a + ws.length ≤ o.cells.length := by rw [S.len]; exact l
 have pl : (putW o.cells a ws).length = n := by rw [putW_len l', S.len]
 have pby := putW_by (a := a) S.ok.b wb
 have ec : (o.wrote a ws).cells = putW o.cells a ws := rfl
 have es : (o.wrote a ws).cs = addC o.cs (unitsOf W (putW o.cells a ws)) := by rw [← S.w]; rfl
 have ml : o.cs.length = manyU W (putW o.cells a ws).length := by rw [pl]; exact S.many
 refine ⟨O, S.w, by rw [ec, pl], fun c hc => ?_, fun k c hk t ht => ?_, ?_, fun c hc => ?_⟩
 ·rw [es] at hc
  obtain ⟨d, hd, le⟩ := addC_mem hc
  have := S.few d hd
  omega
 ·rw [es] at hk
  refine ⟨((S.shp.add pl).sh k c hk t ht), ?_⟩
  obtain ⟨d, hd, rfl⟩ := addC_all ml hk
  split at ht
  ·exact (S.sh k d hd t ht).2
  ·rcases List.mem_append.mp ht with m | m
   ·exact (S.sh k d hd t m).2
   ·rw [List.mem_singleton.mp m]; exact unit_by pby
 ·rw [ec, es]; exact .add ml
 ·rw [es] at hc
  obtain ⟨k, hk⟩ := List.mem_iff_getElem?.mp hc
  obtain ⟨d, hd, _⟩ := addC_all ml hk
  exact (add_grow pl S.shp hd hk).2.2 (S.nd d (List.mem_of_getElem? hd))
theorem wrote_twice {W n b a : Nat} {o : SightO} {ws : List Int} (S : SgU W n b o) (l : a + ws.length ≤ n) : (o.wrote a ws).wrote a ws = o.wrote a ws := by
 have l' : a + ws.length ≤ o.cells.length := by rw [S.len]; exact l
 have pl : (putW o.cells a ws).length = n := by rw [putW_len l', S.len]
 have ml : o.cs.length = manyU W (putW o.cells a ws).length := by rw [pl]; exact S.many
 rw [wrote_eq (o.wrote a ws), wrote_eq o]
 dsimp only
 rw [putW_twice l', S.w, addC_id (by rw [addC_len (by rw [units_len, ml])]; exact ml) (.add ml)]
theorem wrote_every {W n b a : Nat} {o : SightO} {ws : List Int} {fs : List FD} (S : SgU W n b o) (S' : SgU W n (b + 1) (o.wrote a ws)) (l : a + ws.length ≤ n) (w1 : 1 ≤ W) (a1 : 1 ≤ ws.length) (l1 : ∀ f ∈ fs, 1 ≤ f.len) (l4 : ∀ f ∈ fs, f.len ≤ 4) {rows rows' : List (List (List Int))} (E : Every fs o.cs W n rows) (E' : Every fs (o.wrote a ws).cs W n rows') {j : Nat} {p q : List (List Int)} (hp : rows[j]? = some p) (hq : rows'[j]? = some q) : (∀ t ∈ p, t ∈ q) ∧ (((j + 3) / W < a / W ∨ (a + ws.length - 1) / W < j / W) → q = p) := by
 have l' : a + ws.length ≤ o.cells.length := by rw [S.len]; exact l
 have pl : (putW o.cells a ws).length = n := by rw [putW_len l', S.len]
 have es : (o.wrote a ws).cs = addC o.cs (unitsOf W (putW o.cells a ws)) := by rw [← S.w]; rfl
 have jn : j < n := by rw [← E.len]; exact (List.getElem?_eq_some_iff.mp hp).1
 have sp := E.srt j p hp
 have sq := E'.srt j q hq
 refine ⟨fun t ht => (sq.mem t).mpr (fetD_mono (by rw [es]; exact le_add (by rw [pl]; exact S.many)) t ((sp.mem t).mp ht)), fun ap => ?_⟩
 refine sort_uniq sq.asc sp.asc fun t => (sq.mem t).trans (Iff.trans ?_ (sp.mem t).symm)
 refine fetD_apart l1 l4 w1 S'.shp S.shp jn (fun k h1 h2 => ?_) t
 rw [es]
 refine add_apart w1 pl S.len S.shp S.pres (unit_put l' ?_)
 rcases ap with ap | ap
 ·have hk : k < a / W := Nat.lt_of_le_of_lt h2 ap
  have := Nat.mul_le_mul_right W hk
  rw [Nat.succ_mul] at this
  have := Nat.div_mul_le_self a W
  exact .inl (by omega)
 ·have hk : (a + ws.length - 1) / W < k := Nat.lt_of_lt_of_le ap h1
  have := (Nat.div_lt_iff_lt_mul w1).mp hk
  exact .inr (by omega)
end My
namespace My
open PySem PySem.Spec PyProof.Rows L2
def SightO.ch (o : SightO) : List Addr := o.il :: o.us
def spWriteR (A : Ad) (K : PySem.W.Frag) : Sp := fun vs H Q _ => ∃ (o : SightO) (x : CodeO) (W n b a : Nat) (dd g : Addr) (ws : List Int), vs = [.ref o.p, .ref x.c, .int n, .int W, .ref dd] ∧ H dd = some (.tup [.int a, .ref g]) ∧ H g = some (.lst (ws.map V.int)) ∧ g ∉ o.ch ∧ 1 ≤ ws.length ∧ ws.length ≤ 8 ∧ a + ws.length ≤ n ∧ (∀ v ∈ ws, 0 ≤ v ∧ v ≤ 255) ∧ o.At A H ∧ SgU W n b o ∧ b ≤ 5 ∧ x.At A H ∧ x.Ok ∧ (∀ H1 H2, Vc.Ed o.ch H1 H2 → x.At A H1 → x.At A H2) ∧ 1 ≤ W ∧ W ≤ 8 ∧ n ≤ 24 ∧ (∀ f ∈ x.fs, 1 ≤ f.len) ∧ (∀ f ∈ x.fs, f.len ≤ 4) ∧
 ∀ H', Vc.Ed o.ch H H' → (o.wrote a ws).At A H' → SgU W n (b + 1) (o.wrote a ws) → Q (.bl true) H'
theorem TupsAt.take {H : Hp} {ts : List Addr} {cs : List (List Int)} (h : TupsAt H ts cs) (k : Nat) : TupsAt H (ts.take k) (cs.take k) := ⟨by rw [List.length_take, List.length_take, h.len], fun j t c a b => by
 by_cases l : j < k
 ·rw [List.getElem?_take_of_lt l] at a b
  exact h.at_ j t c a b
 ·rw [List.getElem?_eq_none (by rw [List.length_take]; omega)] at a; cases a⟩
theorem Every.uniq {fs : List FD} {cs : List (List (List Int))} {W n : Nat} {r s : List (List (List Int))} (a : Every fs cs W n r) (b : Every fs cs W n s) : r = s := by
 refine List.ext_getElem? fun j => ?_
 by_cases l : j < n
 ·have h1 := List.getElem?_eq_getElem (show j < r.length by rw [a.len]; exact l)
  have h2 := List.getElem?_eq_getElem (show j < s.length by rw [b.len]; exact l)
  rw [h1, h2, (a.srt j _ h1).uniq (b.srt j _ h2)]
 ·rw [List.getElem?_eq_none (by rw [a.len]; omega), List.getElem?_eq_none (by rw [b.len]; omega)]
theorem LLAt.dps {K : PySem.W.Frag} {H : Hp} : ∀ {us : List Addr} {rows : List (List (List Int))}, LLAt H us rows → DpAll K H (us.map V.ref) (rows.map fun r => PyData.list (r.map tupD))
 | [], [], _ => .nil
 | [], _ :: _, h => by have := h.len; cases this
 | _ :: _, [], h => by have := h.len; cases this
 | u :: us, r :: rows, h => by
  obtain ⟨ts, h1, h2⟩ := h.at_ 0 u r rfl rfl
  exact .cons (h2.dp h1) (LLAt.dps ⟨Nat.succ.inj h.len, fun j u d a b => h.at_ (j + 1) u d a b⟩)
theorem pl_lls (rows : List (List (List Int))) : Pl 3 (.list (rows.map fun r => PyData.list (r.map tupD))) := pl_lst fun x hx => by
 obtain ⟨r, _, rfl⟩ := List.mem_map.mp hx
 exact pl_tups r
theorem go_eqLL {K : PySem.W.Frag} {H : Hp} {Q : VK} {x y : Addr} {us ws : List Addr} {ps qs : List (List (List Int))} (hx : H x = some (.lst (us.map V.ref))) (T : LLAt H us ps) (hy : H y = some (.lst (ws.map V.ref))) (S : LLAt H ws qs) (e : ps = qs) (q : Q (.bl true) H) : rEqD K (.ref x) (.ref y) H Q :=
 go_eqPl (n := 3) (p := True) (.lst (.of hx) T.dps) (.lst (.of hy) S.dps) (pl_lls ps) (pl_lls qs) (by decide) ⟨fun _ => trivial, fun _ => by rw [e]⟩ (by rw [decide_eq_true trivial]; exact q)
section
variable {w : World} {K : PySem.W.Frag} {mg : Str → Option Value} {base : Heap} {A : Ad}
theorem ok__law_write_right (T : Txt K mg A) : FnOk PG w K mg base CX0 12 A.f__law_write_right A.d__law_write_right ["_law_sight", "_law_codes_here", "_law_size", "_law_unit", "_law_deed_here"] (spWriteR A K) := by
 have G__law_every := ok__law_every (w := w) (base := base) T
 have G__law_held := ok__law_held (w := w) (base := base) T
 have G__law_grown := ok__law_grown (P := PG) (w := w) (base := base) T
 have G_Sight_write := ok_Sight_write (w := w) (base := base) T
 refine T.F__law_write_right.ok sc__law_write_right (fun vs H Q E h => ?_) (fun cdv Ar outer s H vs Q E hr h => ?_)
 ·obtain ⟨o, x, W, n, b, a, dd, g, ws, rfl, _⟩ := h
  rfl
 ·obtain ⟨o, x, W, n, b, a, dd, g, ws, rfl, hdd, hg, go, s1, s8, an, wb, X, S, b5, C, xo, xk, w1, w8, n24, l1, l4, k⟩ := h
  have hu := hu_of hr
  refine ⟨_, (pss_cons (ps_asg (pv 4) (pg_tup rfl (pgs_cons (pg_name (i := 5) sc__law_write_right.nd rfl (Or.inl rfl)) (pgs_cons (pg_name (i := 6) sc__law_write_right.nd rfl (Or.inl rfl)) pgs_nil)))) (pss_cons (ps_set (i := 7) sc__law_write_right.nd rfl (Or.inl rfl) (pe_call G__law_every (by exact hr.mono (by decide)) (by rfl) T.g__law_every T.F__law_every.kp T.b__law_every .nil pass0 (pa_cons (pv 0) (pa_cons (pv 1) (pa_cons (pv 2) pa_nil))))) (pss_cons (ps_set (i := 8) sc__law_write_right.nd rfl (Or.inl rfl) (pe_call G__law_held (by exact hr.mono (by decide)) (by rfl) T.g__law_held T.F__law_held.kp T.b__law_held .nil pass0 (pa_cons (pv 0) (pa_cons (pv 2) (pa_cons (pv 3) pa_nil))))) (pss_cons (ps_expr (pe_meth (pv 0) T.cl_Sight T.m_Sight_write G_Sight_write (by exact hr.mono (by decide)) T.b_Sight_write .nil passL (pa_cons (pv 5) (pa_cons (pv 6) pa_nil)))) (pss_cons (ps_set (i := 9) sc__law_write_right.nd rfl (Or.inl rfl) (pe_call G__law_every (by exact hr.mono (by decide)) (by rfl) T.g__law_every T.F__law_every.kp T.b__law_every .nil pass0 (pa_cons (pv 0) (pa_cons (pv 1) (pa_cons (pv 2) pa_nil))))) (pss_cons (ps_set (i := 10) sc__law_write_right.nd rfl (Or.inl rfl) (pe_call G__law_held (by exact hr.mono (by decide)) (by rfl) T.g__law_held T.F__law_held.kp T.b__law_held .nil pass0 (pa_cons (pv 0) (pa_cons (pv 2) (pa_cons (pv 3) pa_nil))))) (pss_cons (ps_if (pt_not (pt_val (pe_call G__law_grown (by exact hr.mono (by decide)) (by rfl) T.g__law_grown T.F__law_grown.kp T.b__law_grown .nil pass0 (pa_cons (pv 7) (pa_cons (pv 9) (pa_cons (pv 3) (pa_cons (pv 5) (pa_cons (pe_op op_add (pv 5) (pe_callB call_len_seq (by rfl) T.n_len (by decide +kernel) (pa_cons (pv 6) pa_nil))) pa_nil)))))))) (pss_one (ps_ret pe_bl)) pss_nil) (pss_cons (ps_for PassesOwn.never rfl (pi_range1 (by rfl) T.n_range (pa_cons (pe_callB call_len_seq (by rfl) T.n_len (by decide +kernel) (pa_cons (pv 8) pa_nil)) pa_nil)) (pg_name (i := 11) sc__law_write_right.nd rfl (Or.inl rfl)) (pss_cons (ps_if (PW.pt (pw_or (pt_cmpR (op_neD (by exact hr.units)) (pe_slice sl_list (pe_ix ix_list (pv 10) (pv 11) (fun _ _ => rfl)) po_none (po_some (pe_callB call_len_seq (by rfl) T.n_len (by decide +kernel) (pa_cons (pe_ix ix_list (pv 8) (pv 11) (fun _ _ => rfl)) pa_nil)))) (pe_ix ix_list (pv 8) (pv 11) (fun _ _ => rfl)) (nomark _)) (pw_or1 (pt_cmpR op_gt (pe_callB call_len_seq (by rfl) T.n_len (by decide +kernel) (pa_cons (pe_ix ix_list (pv 10) (pv 11) (fun _ _ => rfl)) pa_nil)) (pe_op op_add (pe_callB call_len_seq (by rfl) T.n_len (by decide +kernel) (pa_cons (pe_ix ix_list (pv 8) (pv 11) (fun _ _ => rfl)) pa_nil)) pe_int) (nomark _))))) (pss_one (ps_ret pe_bl)) pss_nil) (pss_one (ps_if (pt_cmpR op_ne (pe_callB cr_lenTS (by rfl) T.n_len (by decide +kernel) (pa_cons (pe_callTy (cr_tset (by rfl) (by exact Vc.room64 hr)) (by rfl) T.n_set (by decide +kernel) (pa_cons (pe_ix ix_list (pv 10) (pv 11) (fun _ _ => rfl)) pa_nil)) pa_nil)) (pe_callB call_len_seq (by rfl) T.n_len (by decide +kernel) (pa_cons (pe_ix ix_list (pv 10) (pv 11) (fun _ _ => rfl)) pa_nil)) (nomark _)) (pss_one (ps_ret pe_bl)) pss_nil)))) (pss_cons (ps_expr (pe_meth (pv 0) T.cl_Sight T.m_Sight_write G_Sight_write (by exact hr.mono (by decide)) T.b_Sight_write .nil passL (pa_cons (pv 5) (pa_cons (pv 6) pa_nil)))) (pss_one (ps_ret (pe_and (pe_cmpR (op_eqD (by exact hr.units)) (pe_call G__law_every (by exact hr.mono (by decide)) (by rfl) T.g__law_every T.F__law_every.kp T.b__law_every .nil pass0 (pa_cons (pv 0) (pa_cons (pv 1) (pa_cons (pv 2) pa_nil)))) (pv 9) (nomark _)) (pe_one (pe_cmpR (op_eqD (by exact hr.units)) (pe_call G__law_held (by exact hr.mono (by decide)) (by rfl) T.g__law_held T.F__law_held.kp T.b__law_held .nil pass0 (pa_cons (pv 0) (pa_cons (pv 2) (pa_cons (pv 3) pa_nil)))) (pv 10) (nomark _))))))))))))))), ?_⟩
  walk_at "go"
  refine ⟨dd, _, rfl, .of hdd, rfl, _, _, rfl, ?_⟩
  walk_at "go"
  refine ⟨_, _, rfl, ?_⟩
  walk_at "go"
  refine ⟨rfl, ?_⟩
  walk_at "go"
  refine ⟨o, x, W, n, b, rfl, X, S, by omega, C, xo, w1, n24, l4, fun R1 us1 rows1 H1 e1 n1 hR1 nu1 hU1 E1 => ?_⟩
  walk_at "go"
  refine ⟨o, W, n, b, rfl, X.ed0 e1, S, w1, w8, n24, fun R2 us2 H2 e2 n2 hR2 nu2 hU2 => ?_⟩
  have e02 := e1.ex e2
  have X2 := X.ed0 e02
  have cl := T.cl_Sight
  obtain ⟨dx, hp⟩ := id X2.ob
  have own : ∀ {u : Addr} {Hx : Hp}, o.At A Hx → Hx u = none → u ∉ o.ch := fun {u Hx} Y h z => by
   obtain ⟨w, hw⟩ := Y.dom u (by
    unfold SightO.ch at z
    unfold SightO.own
    rcases List.mem_cons.mp z with rfl | z
    ·simp
    ·simp [z])
   rw [h] at hw; cases hw
  have nbad : badW a ws.length o.cells.length = none := by
   unfold badW
   rw [S.len, if_neg (by omega), if_neg (by omega)]
  walk_at "go"
  refine ⟨o, a, g, ws, rfl, X2, S.ok, fun c hc => by have := S.few c hc; omega, .inl (.of (e02.at0 hg)), s1, by omega, wb, by omega, by omega, fun y dd' H' e => (by rw [nbad] at e; cases e), fun _ H3 e3 X3 O3 => ?_⟩
  have S3 := S.wrote an wb O3
  have C3 := xk _ _ e3 (C.ed0 e02)
  have hR13 := e3.keep _ _ (own X n1) (e2.at0 hR1)
  have hU13 := (hU1.ed0 e2).ed e3 fun u hu => own X (nu1 u hu)
  have hR23 := e3.keep _ _ (own (X.ed0 e1) n2) hR2
  have hU23 := hU2.ed e3 fun u hu => own (X.ed0 e1) (nu2 u hu)
  have hg3 := e3.keep _ _ go (e02.at0 hg)
  have e03 : Vc.Ed o.ch H H3 := (e02.mono fun _ z => nomatch z).trans e3 fun _ z => .inl z
  obtain ⟨o3, ho3⟩ : ∃ o3, o.wrote a ws = o3 := ⟨_, rfl⟩
  have p3 : o3.p = o.p := by rw [← ho3]; rfl
  have ch3 : o3.ch = o.ch := by rw [← ho3]; rfl
  have tw := wrote_twice S an
  have EV := fun rows' (E' : Every x.fs (o.wrote a ws).cs W n rows') (j : Nat) (p q : List (List Int)) => wrote_every (j := j) (p := p) (q := q) S S3 an w1 s1 l1 l4 E1 E'
  rw [ho3] at tw S3 X3 O3 EV k
  rw [← p3]
  walk_at "go"
  refine ⟨o3, x, W, n, b + 1, rfl, X3, S3, by omega, C3, xo, w1, n24, l4, fun R4 us4 rows4 H4 e4 n4 hR4 nu4 hU4 E4 => ?_⟩
  walk_at "go"
  refine ⟨o3, W, n, b + 1, rfl, X3.ed0 e4, S3, w1, w8, n24, fun R5 us5 H5 e5 n5 hR5 nu5 hU5 => ?_⟩
  have e35 := e4.ex e5
  have e4' := e4
  have hg5 := e35.at0 hg3
  have hR15 := e35.at0 hR13
  have hU15 := hU13.ed0 e35
  have hR25 := e35.at0 hR23
  have hU25 := hU23.ed0 e35
  have hR45 := e5.at0 hR4
  have hU45 := hU4.ed0 e5
  have lz : (ws.map V.int).length = ws.length := List.length_map ..
  walk_at "go"
  refine ⟨R1, R4, us1, us4, rows1, rows4, W, a, a + ws.length, by rw [lz, ← Int.natCast_add], hR15, hR45, hU15, hU45, by rw [E1.len, E4.len], by rw [E1.len]; exact n24, w1, w8, by omega, by omega, by omega, fun j p q hp hq => EV rows4 E4 j p q hp hq, fun H6 e6 => ?_⟩
  have e36 := e35.ex e6
  have hg6 := e6.at0 hg5
  have hR26 := e6.at0 hR25
  have hU26 := hU25.ed0 e6
  have hR46 := e6.at0 hR45
  have hU46 := hU45.ed0 e6
  have hR56 := e6.at0 hR5
  have hU56 := hU5.ed0 e6
  have ul := hU2.len
  have ul5 := hU5.len
  have csl : o.cs.length = manyU W n := S.many
  have csl3 : o3.cs.length = manyU W n := S3.many
  have c24 : manyU W n ≤ 24 := by
   unfold manyU
   rw [Int.toNat_natCast]
   exact Nat.div_le_of_le_mul (by omega)
  clear hR15 hU15 hR25 hU25 hR45 hU45 hg5 hR5 hU5 e35 hR13 hU13 hR23 hU23 hR1 hU1 hR2 hU2 hR4 hU4 e4 e5 e1 e2
  walk_at "go"
  rw [List.length_map]
  refine ⟨by omega, by omega, for_it walk_range (fun j σ H' => ∃ y11 : Option V, σ = [some (.ref o3.p), some (.ref x.c), some (.int n), some (.int W), some (.ref dd), some (.int a), some (.ref g), some (.ref R1), some (.ref R2), some (.ref R4), some (.ref R5), y11] ∧ Vc.Ed [] H6 H') ⟨_, rfl, .refl⟩ (fun _ _ _ _ _ => trivial) ?_ ?_⟩
  ·rintro j v σ H7 H8 hj ⟨y11, rfl, e7⟩ ⟨rfl, hv⟩
   obtain rfl : v = .int j := by simpa using hv
   have hj : j < us2.length := by simpa using hj
   obtain ⟨u, hu1⟩ : ∃ u, us2[j]? = some u := ⟨_, List.getElem?_eq_getElem hj⟩
   obtain ⟨p, hp⟩ : ∃ p, o.cs[j]? = some p := ⟨_, List.getElem?_eq_getElem (by omega)⟩
   obtain ⟨z, hz⟩ : ∃ z, us5[j]? = some z := ⟨_, List.getElem?_eq_getElem (by omega)⟩
   obtain ⟨q, hq⟩ : ∃ q, o3.cs[j]? = some q := ⟨_, List.getElem?_eq_getElem (by omega)⟩
   obtain ⟨ts, ht, hT⟩ := hU26.at_ j u p hu1 hp
   obtain ⟨ss, hs, hS⟩ := hU56.at_ j z q hz hq
   have a1 : atI (us2.map V.ref) (j : Int) = some (.ref u) := at_of (j := j) (by omega) (by rw [List.getElem?_map, hu1]; rfl)
   have a2 : atI (us5.map V.ref) (j : Int) = some (.ref z) := at_of (j := j) (by omega) (by rw [List.getElem?_map, hz]; rfl)
   have hR27 := e7.at0 hR26
   have hR57 := e7.at0 hR56
   have ht7 := e7.at0 ht
   have hs7 := e7.at0 hs
   have gr : q.take p.length = p ∧ q.length ≤ p.length + 1 := by
    have es : o3.cs = addC o.cs (unitsOf W (putW o.cells a ws)) := by rw [← ho3, ← S.w]; rfl
    have := add_grow (W := W) (n := n) (cells := putW o.cells a ws) ((putW_len (by rw [S.len]; exact an)).trans S.len) S.shp hp (by rw [← es]; exact hq)
    exact ⟨this.1, this.2.1⟩
   have pl := hT.len
   have ql := hS.len
   walk_at "go"
   intro sl nsl
   rw [List.length_map, pl, Vc.cut_take, ← List.map_take]
   generalize hu9 : upd _ sl _ = H9
   obtain ⟨e9, hsl⟩ := Vc.alloc hu9 nsl
   have hR29 := e9.at0 hR27
   have hR59 := e9.at0 hR57
   have ht9 := e9.at0 ht7
   have hs9 := e9.at0 hs7
   have e79 := e7.ex e9
   walk_at "go"
   refine go_neTT hsl ((hS.ed e79).take _) ht9 (hT.ed e79) gr.1 ?_
   walk_at "go"
   rw [List.length_map, List.length_map, pl, ql, decide_eq_false (by omega), if_neg (fun z => by cases z)]
   have tz := tups_zip (K := K) (hS.ed e79)
   walk_at "go"
   refine ⟨z, ss.zip q, rfl, .of (by rw [tz.1]; exact hs9), fun p hp => .of (tz.2.1 p hp), by have := S3.few q (List.mem_of_getElem? hq); rw [List.length_zip]; omega, fun sa L na h1 h2 nd => ?_⟩
   generalize hu10 : upd _ sa _ = HA
   obtain ⟨eA, hsa⟩ := Vc.alloc hu10 na
   have hRA := eA.at0 hR59
   have hsA := eA.at0 hs9
   have Ll : L.length = q.length := by
    have m1 : ∀ y ∈ L.map (·.2), y ∈ q := fun y hy => by
     obtain ⟨p, hp, rfl⟩ := List.mem_map.mp hy
     rw [← tz.2.2]
     exact List.mem_map.mpr ⟨p, h1 p hp, rfl⟩
    have m2 : ∀ y ∈ q, y ∈ L.map (·.2) := fun y hy => by
     rw [← tz.2.2] at hy
     obtain ⟨p, hp, rfl⟩ := List.mem_map.mp hy
     exact h2 p hp
    have l1 := nd_len nd m1
    have l2 := nd_len (S3.nd q (List.mem_of_getElem? hq)) m2
    rw [List.length_map] at l1 l2
    omega
   walk_at "go"
   refine ⟨sa, L, rfl, hsa, fun p hp => .of (eA.tup _ _ (tz.2.1 p (h1 p hp))), ?_⟩
   walk_at "go"
   rw [List.length_map, ql, Ll, decide_eq_true rfl, if_neg (fun z => by cases z)]
   walk_at "go"
   exact ⟨_, rfl, e79.ex eA⟩
  ·rintro σ H7 ⟨y11, rfl, e7⟩
   have hg7 := e7.at0 hg6
   have X37 := X3.ed0 (e36.ex e7)
   obtain ⟨dx3, hp3⟩ := id X37.ob
   have own3 : ∀ {u : Addr} {Hx : Hp}, o3.At A Hx → Hx u = none → u ∉ o3.ch := fun {u Hx} Y h z => by
    obtain ⟨w, hw⟩ := Y.dom u (by
     unfold SightO.ch at z
     unfold SightO.own
     rcases List.mem_cons.mp z with rfl | z
     ·simp
     ·simp [z])
    rw [h] at hw; cases hw
   have nbad3 : badW a ws.length o3.cells.length = none := by
    unfold badW
    rw [S3.len, if_neg (by omega), if_neg (by omega)]
   walk_at "go"
   refine ⟨o3, a, g, ws, rfl, X37, S3.ok, fun c hc => by have := S3.few c hc; omega, .inl (.of hg7), s1, by omega, wb, by omega, by omega, fun y dd' H' e => (by rw [nbad3] at e; cases e), fun _ H8 e8 X8 O8 => ?_⟩
   rw [tw] at X8 O8
   have e8c : Vc.Ed o.ch H7 H8 := by rw [← ch3]; exact e8
   have C8 := xk _ _ e8c (C3.ed0 (e36.ex e7))
   have hR48 := e8.keep _ _ (own3 X3 n4) (e7.at0 hR46)
   have hU48 := (hU46.ed0 e7).ed e8 fun u hu => own3 X3 (nu4 u hu)
   have hR58 := e8.keep _ _ (own3 (X3.ed0 e4') n5) (e7.at0 hR56)
   have hU58 := (hU56.ed0 e7).ed e8 fun u hu => own3 (X3.ed0 e4') (nu5 u hu)
   have e08 : Vc.Ed o.ch H H8 := (e03.ex (e36.ex e7)).trans e8c fun _ z => .inl z
   walk_at "go"
   refine ⟨o3, x, W, n, b + 1, rfl, X8, S3, by omega, C8, xo, w1, n24, l4, fun R9 us9 rows9 H9 e9 n9 hR9 nu9 hU9 E9 => ?_⟩
   have er : rows9 = rows4 := E9.uniq E4
   have hR49 := e9.at0 hR48
   walk_at "go"
   refine go_eqLL hR9 hU9 hR49 (hU48.ed0 e9) er ?_
   have hR59 := e9.at0 hR58
   walk_at "go"
   refine ⟨o3, W, n, b + 1, rfl, X8.ed0 e9, S3, w1, w8, n24, fun R10 us10 H10 e10 n10 hR10 nu10 hU10 => ?_⟩
   have hR510 := e10.at0 hR59
   walk_at "go"
   refine go_eqLL hR10 hU10 hR510 (hU58.ed0 (e9.ex e10)) rfl ?_
   exact k H10 (e08.ex (e9.ex e10)) (X8.ed0 (e9.ex e10)) S3
end
end My
namespace My
open PySem PySem.Spec PyProof.Rows L2
theorem lenAt_perm33 {fs gs : List FD} (p : fs.Perm gs) (nd : (gs.map (·.byte)).Nodup) (b : Int) : lenAt fs b = lenAt gs b := by
 have nd2 : (fs.map (·.byte)).Nodup := (p.map _).nodup_iff.mpr nd
 by_cases m : b ∈ gs.map (·.byte)
 ·obtain ⟨f, hf, rfl⟩ := List.mem_map.mp m
  rw [lenAt_some nd hf, lenAt_some nd2 (p.mem_iff.mpr hf)]
 ·rw [lenAt_none m, lenAt_none fun z => m ((p.map _).mem_iff.mp z)]
theorem sort_one {rs l : List (List Int)} {t : List Int} (h : IsSort rs l) (m : ∀ x, x ∈ l ↔ x = t) : rs = [t] :=
 sort_uniq h.asc (List.pairwise_singleton _ _) fun x => (h.mem x).trans ((m x).trans List.mem_singleton.symm)
theorem one_settled {o : SightO} {W n : Nat} (h : o.cs = (unitsOf W o.cells).map fun c => [c]) : o.settled = true := by
 unfold SightO.settled
 rw [h, List.all_map]
 exact List.all_eq_true.mpr fun _ _ => rfl
def spOneEach (A : Ad) : Sp := fun vs H Q _ => ∃ (o : SightO) (x : CodeO) (fa : Addr) (its : List (FD × Addr)) (stop : Int) (W n : Nat), vs = [.ref o.p, .ref x.c, .ref fa, .int n] ∧ o.At A H ∧ SgU W n 1 o ∧ o.cs = ((unitsOf W o.cells).map fun c => [c]) ∧ x.At A H ∧ x.Ok ∧ FTups H fa its ∧ Valid stop (its.map (·.1)) ∧ x.fs.Perm (its.map (·.1)) ∧ 1 ≤ W ∧ n ≤ 24 ∧
 ∀ H', Vc.Ed [] H H' → Q (.bl true) H'
section
variable {w : World} {K : PySem.W.Frag} {mg : Str → Option Value} {base : Heap} {A : Ad}
theorem ok__law_one_each (T : Txt K mg A) : FnOk PG w K mg base CX0 10 A.f__law_one_each A.d__law_one_each ["_law_sight", "_law_codes_here", "_law_forms_here", "_law_size"] (spOneEach A) := by
 have G_Sight_fetches := ok_Sight_fetches (w := w) (base := base) T
 have G_Sight_present := ok_Sight_present (P := PG) (w := w) (base := base) T
 have G_Sight_settled := ok_Sight_settled (P := PG) (w := w) (base := base) T
 refine T.F__law_one_each.ok sc__law_one_each (fun vs H Q E h => ?_) (fun cdv Ar outer s H vs Q E hr h => ?_)
 ·obtain ⟨o, x, fa, its, stop, W, n, rfl, _⟩ := h
  rfl
 ·obtain ⟨o, x, fa, its, stop, W, n, rfl, X, S, one, C, xo, FT, Va, pm, w1, n24, k⟩ := h
  have hu := hu_of hr
  have cl := T.cl_Sight
  obtain ⟨dx, hp⟩ := id X.ob
  have ow : o.W.toNat = W := by rw [S.w, Int.toNat_natCast]
  have l4 : ∀ f ∈ x.fs, f.len ≤ 4 := fun f hf => (Va.ok f (pm.mem_iff.mp hf)).l4
  have l1 : ∀ f ∈ x.fs, 1 ≤ f.len := fun f hf => (Va.ok f (pm.mem_iff.mp hf)).l1
  refine ⟨_, (pss_cons (ps_set (i := 4) sc__law_one_each.nd rfl (Or.inl rfl) (pe_prop (pv 0) T.cl_Sight T.p_Sight_present G_Sight_present (by exact hr.mono (by decide)) T.b_Sight_present .nil pass0 (by rfl))) (pss_cons (ps_for PassesOwn.never rfl (pi_range1 (by rfl) T.n_range (pa_cons (pv 3) pa_nil)) (pg_name (i := 5) sc__law_one_each.nd rfl (Or.inl rfl)) (pss_cons (ps_set (i := 6) sc__law_one_each.nd rfl (Or.inl rfl) pe_int) (Evl.pss_cut (ps_if (pt_cmp (pc_din (by exact hu) (pe_ix ix_list (pv 4) (pv 5) (fun _ _ => rfl)) (pv 2))) (pss_one (ps_set (i := 6) sc__law_one_each.nd rfl (Or.inl rfl) (pe_ix ix_tup (pe_dget (by exact hu) (pv 2) (pe_ix ix_list (pv 4) (pv 5) (fun _ _ => rfl)) (fun _ _ => rfl)) pe_int (fun _ _ => rfl)))) pss_nil) (pss_one (ps_if (pt_cmpR (op_neD (by exact hr.units)) (Gx.pe_listN (fun _ => (Gx.pgn_meth (pv 0) T.cl_Sight T.m_Sight_fetches G_Sight_fetches (by exact hr.mono (by decide)) T.b_Sight_fetches .nil (pa_cons (pv 1) (pa_cons (pv 5) pa_nil)))) (by exact hr.mono (by decide)) Vc.passSL (by rfl) T.n_list (by decide +kernel)) (pe_lst (pa_cons (pe_callTy Vc.call_tupD (by rfl) T.n_tuple (by decide +kernel) (pa_cons (pe_slice sl_list (pv 4) (po_some (pv 5)) (po_some (pe_op op_add (pv 5) (pv 6)))) pa_nil)) pa_nil)) (nomark _)) (pss_one (ps_ret pe_bl)) pss_nil))))) (pss_one (ps_ret (pe_cmpR op_isBl (pe_prop (pv 0) T.cl_Sight T.p_Sight_settled G_Sight_settled (by exact hr.mono (by decide)) T.b_Sight_settled .nil pass0 (by rfl)) pe_bl (nomark _)))))), ?_⟩
  walk_at "go"
  refine ⟨o, rfl, X, S.ok, fun N H1 e1 nN hN => ?_⟩
  walk_at "go"
  refine ⟨by omega, by omega, for_it walk_range (fun j σ H' => ∃ y5 y6 : Option V, σ = [some (.ref o.p), some (.ref x.c), some (.ref fa), some (.int n), some (.ref N), y5, y6] ∧ Vc.Ed [] H1 H') ⟨_, _, rfl, .refl⟩ (fun _ _ _ _ _ => trivial) ?_ ?_⟩
  ·rintro j v σ H2 H3 hj ⟨y5, y6, rfl, e2⟩ ⟨rfl, hv⟩
   obtain rfl : v = .int j := by simpa using hv
   have hj : j < n := by simpa using hj
   have jl : j < o.cells.length := by rw [S.len]; exact hj
   have e02 := e1.ex e2
   have FT2 := FT.ed0 e02
   have hf2 := FT2.ob
   have hN2 := e2.at0 hN
   obtain ⟨b, hb⟩ : ∃ b, o.cells[j]? = some b := ⟨_, List.getElem?_eq_getElem jl⟩
   have ga : atI (o.cells.map V.int) (j : Int) = some (.int b) := at_of (j := j) (by omega) (by rw [List.getElem?_map, hb]; rfl)
   obtain ⟨m, hm⟩ : ∃ m : Nat, (match lenAt x.fs b with | none => 1 | some l => l) = m := ⟨_, rfl⟩
   have m4 : 1 ≤ m ∧ m ≤ 4 := by
    rw [← hm]
    cases e : lenAt x.fs b with
    | none => exact ⟨Nat.le_refl _, by decide⟩
    | some l =>
     unfold lenAt at e
     obtain ⟨f, hf, rfl⟩ := Option.map_eq_some_iff.mp e
     have h1 := l1 f (List.mem_of_find?_eq_some hf)
     have h4 := l4 f (List.mem_of_find?_eq_some hf)
     exact ⟨show 1 ≤ f.len.toNat by omega, show f.len.toNat ≤ 4 by omega⟩
   walk_at "go"
   refine Evl.q_cut (M := fun σ' H' => H' = H3 ∧ σ' = [some (.ref o.p), some (.ref x.c), some (.ref fa), some (.int n), some (.ref N), some (.int j), some (.int m)]) ?_ ?_
   ·walk_at "go"
    by_cases mb : b ∈ (its.map (·.1)).map (·.byte)
    ·obtain ⟨q, hq, rfl⟩ := List.mem_map.mp mb
     obtain ⟨p, hp, rfl⟩ := List.mem_map.mp hq
     have hv := kvsOf_val Va.ndb hp
     have htp := FT2.tp p hp
     have a1 : atI [V.str p.1.name, .int p.1.len, .str p.1.flow] 1 = some (.int p.1.len) := rfl
     have ev : (m : Int) = p.1.len := by
      have z := (Va.ok p.1 hq).l1
      rw [← hm, lenAt_perm33 pm Va.ndb, lenAt_some Va.ndb hq]
      show ((p.1.len.toNat : Nat) : Int) = _
      omega
     rw [hv, Option.isSome_some, if_pos rfl]
     walk_at "go"
     exact ⟨rfl, by rw [ev]; rfl⟩
    ·have hv : valV (kvsOf its) (.inl b) = none := kvO_none fun p hp z => mb (List.mem_map.mpr ⟨p.1, List.mem_map.mpr ⟨p, hp, rfl⟩, z⟩)
     have ev : m = 1 := by rw [← hm, lenAt_perm33 pm Va.ndb, lenAt_none mb]
     rw [hv, if_neg (by simp)]
     walk_at "go"
     exact ⟨rfl, by rw [ev]; rfl⟩
   rintro _ H4 ⟨rfl, rfl⟩
   have X2 := X.ed0 e02
   have C2 := C.ed0 e02
   obtain ⟨dx2, hp2⟩ := id X2.ob
   walk_at "go"
   dsimp only [Gx.tListS, Gx.tMethGx]
   walk_at "go"
   obtain ⟨CC, c1, c2, c3, W1', c4, c5, c6⟩ := lst_fets (A := A) (H := H4) (x := x) (o := o) (p := j) (E := _) (Q := fun v Hx => ∃ (pm : Addr) (ts : List Addr) (rs : List (List Int)), v = .ref pm ∧ Vc.Ed [] H4 Hx ∧ H4 pm = none ∧ Hx pm = some (.lst (ts.map V.ref)) ∧ TupsAt Hx ts rs ∧ IsSort rs (fetD x.fs o.cs o.W.toNat o.cells.length j)) X2 S.ok (S.shp7 (by decide)) C2 xo jl (by rw [ow]; exact w1) l4 (fun pm ts rs H' a1 a2 a3 a4 a5 => ⟨pm, ts, rs, rfl, a1, a2, a3, a4, a5⟩)
   refine ⟨CC, c1, c2, c3, W1', c4, c5, fun ys H9 h9 H10 f10 pm' npm => ?_⟩
   obtain ⟨pm, ts, rs, hpm, e8, npm, hm8, hT, hsr⟩ := c6 ys H9 h9 H10 f10 pm' npm
   obtain rfl : pm' = pm := by injection hpm
   generalize upd H10 pm' (.lst ys) = H8 at e8 hm8 hT
   clear c1 c2 c3 c4 c5 c6 h9 f10
   have tk : (o.cells.drop j).take (manyB x.fs o.cells.length j (o.cells.getD j 0)) = (o.cells.drop j).take m := by
    have hbD : o.cells.getD j 0 = b := by rw [List.getD_eq_getElem?_getD, hb]; rfl
    rw [hbD]
    unfold manyB
    rw [← hm]
    cases e : lenAt x.fs b with
    | none => rfl
    | some l =>
     refine List.ext_getElem? fun i => ?_
     show ((o.cells.drop j).take (min (j + l) o.cells.length - j))[i]? = ((o.cells.drop j).take l)[i]?
     by_cases h : i < min (j + l) o.cells.length - j
     ·rw [List.getElem?_take_of_lt h, List.getElem?_take_of_lt (by omega)]
     ·rw [List.getElem?_eq_none (by rw [List.length_take, List.length_drop]; omega), List.getElem?_eq_none (by rw [List.length_take, List.length_drop]; omega)]
   have er : rs = [(o.cells.drop j).take m] := sort_one hsr fun y => by
    rw [ow, one, fetD_one l1 l4 w1 jl, tk]
   have hN8 := e8.at0 hN2
   walk_at "go"
   intro s1 ns1
   rw [show (j : Int) + (m : Int) = ((j + m : Nat) : Int) by omega, Vc.cut_mid, Nat.add_sub_cancel_left, ← List.map_drop, ← List.map_take]
   generalize hu9 : upd _ s1 _ = HA
   obtain ⟨eA, hs1⟩ := Vc.alloc hu9 ns1
   walk_at "go"
   intro t1 nt1
   generalize hu10 : upd _ t1 _ = HB
   obtain ⟨eB, ht1⟩ := Vc.alloc hu10 nt1
   walk_at "go"
   intro q1 nq1
   generalize hu11 : upd _ q1 _ = HD
   obtain ⟨eD, hq1⟩ := Vc.alloc hu11 nq1
   have e8D := (eA.ex eB).ex eD
   have T1 : TupsAt HD [t1] [(o.cells.drop j).take m] := ⟨rfl, fun i t c a b => by
    cases i with
    | zero => cases a; cases b; exact eD.tup _ _ ht1
    | succ i => cases a⟩
   refine go_neTT (e8D.at0 hm8) (hT.ed e8D) (ws := [t1]) hq1 T1 er ?_
   walk_at "go"
   exact ⟨_, _, rfl, e2.ex (e8.ex e8D)⟩
  ·rintro σ H2 ⟨y5, y6, rfl, e2⟩
   have X2 := X.ed0 (e1.ex e2)
   obtain ⟨dx2, hp2⟩ := id X2.ob
   walk_at "go"
   refine ⟨o, rfl, X2, S.ok, fun H3 e3 => ?_⟩
   rw [one_settled (n := n) one]
   walk_at "go"
   exact ⟨true, true, rfl, rfl, k H3 ((e1.ex e2).ex e3)⟩
end
end My
namespace My
open PySem PySem.Spec PyProof.Rows L2
theorem go_forS33 {wi : Gx.TGI} {g : TG} {tb : TS} {D : Ends} {σ : L2.St} {H : Hp} (h : wi σ H fun J H1 => ∃ (n : Nat) (W : Nat → L2.St → Hp → Prop), W 0 σ H1 ∧
 (∀ j σ H, j < n → W j σ H → J.go j H ∧ ∀ x H2, J.yld j H x H2 → g x σ H2 fun σ3 H3 => tb { D with nx := fun σ4 H4 => J.rely H2 H4 ∧ W (j + 1) σ4 H4, ct := fun σ4 H4 => J.rely H2 H4 ∧ W (j + 1) σ4 H4, bk := D.nx } σ3 H3) ∧
 ∀ σ H, W n σ H → (∃ H2, J.stop n H H2) ∧ ∀ H2, J.stop n H H2 → D.nx σ H2) : Gx.tForS wi g tb D σ H := h
def spWithin33 (A : Ad) : Sp := fun vs H Q _ => ∃ (o : SightO) (x : CodeO) (W n b : Nat), vs = [.ref o.p, .ref x.c, .int n, .int W] ∧ o.At A H ∧ SgU W n b o ∧ b ≤ 5 ∧ x.At A H ∧ x.Ok ∧ 1 ≤ W ∧ W ≤ 8 ∧ n ≤ 24 ∧ (∀ f ∈ x.fs, 1 ≤ f.len) ∧ (∀ f ∈ x.fs, f.len ≤ 4) ∧
 ∀ H', Vc.Ed [] H H' → Q (.bl true) H'
section
variable {w : World} {K : PySem.W.Frag} {mg : Str → Option Value} {base : Heap} {A : Ad}
theorem ok__law_within (T : Txt K mg A) : FnOk PG w K mg base CX0 10 A.f__law_within A.d__law_within ["_law_sight", "_law_codes_here", "_law_size", "_law_unit"] (spWithin33 A) := by
 have G_Sight_fetches := ok_Sight_fetches (w := w) (base := base) T
 have G_Sight_contents := ok_Sight_contents (w := w) (base := base) T
 refine T.F__law_within.ok sc__law_within (fun vs H Q E h => ?_) (fun cdv Ar outer s H vs Q E hr h => ?_)
 ·obtain ⟨o, x, W, n, b, rfl, _⟩ := h
  rfl
 ·obtain ⟨o, x, W, n, b, rfl, X, S, b5, C, xo, w1, w8, n24, l1, l4, k⟩ := h
  have hu := hu_of hr
  have cl := T.cl_Sight
  have ow : o.W.toNat = W := by rw [S.w, Int.toNat_natCast]
  refine ⟨_, (pss_cons (ps_for PassesOwn.never rfl (pi_range1 (by rfl) T.n_range (pa_cons (pv 2) pa_nil)) (pg_name (i := 4) sc__law_within.nd rfl (Or.inl rfl)) (pss_cons (ps_set (i := 5) sc__law_within.nd rfl (Or.inl rfl) (pe_op op_fdivW (pv 4) (pv 3))) (pss_one (Gx.ps_forS PassesOwn.never (Gx.pis_gen0 (Gx.pgn_meth (pv 0) T.cl_Sight T.m_Sight_fetches G_Sight_fetches (by exact hr.mono (by decide)) T.b_Sight_fetches .nil (pa_cons (pv 1) (pa_cons (pv 4) pa_nil))) (by exact hr.mono (by decide)) (fun _ h => Gx.Alike.of_eq h)) (pg_name (i := 6) sc__law_within.nd rfl (Or.inr rfl)) (pss_cons (ps_set (i := 7) sc__law_within.nd rfl (Or.inr rfl) (pe_op op_sub (pv 4) (pe_op op_mulW (pv 5) (pv 3)))) (pss_one (ps_if (pt_cmpR op_le (pe_op op_add (pv 7) (pe_callB call_len_seq (by rfl) T.n_len (by decide +kernel) (pa_cons (pv 6) pa_nil))) (pv 3) (nomark _)) (pss_cons (ps_setLc (i := 8) (own := [("_law_content", 9)]) (g := gName 9) rfl sc__law_within.nd rfl rfl (sw_true rfl rfl rfl (by decide +kernel)) (pi_list (pe_meth (pv 0) T.cl_Sight T.m_Sight_contents G_Sight_contents (by exact hr.mono (by decide)) T.b_Sight_contents .nil passL (pa_cons (pv 5) pa_nil))) (blkOk_by (own := [("_law_content", 9)]) (N := ["_law_sight", "_law_codes_here", "_law_size", "_law_unit", "_law_place", "_law_first", "_law_fetched", "_law_low", "_law_parts", "_law_content"]) (sc := defScope s__law_within) (by decide +kernel)) (fun _ _ _ _ _ => by exact (pg_name (i := 9) sc__law_within.nd rfl (Or.inl rfl))) (fun _ _ _ _ _ => by exact pts_nil) (fun _ _ _ _ _ => by (refine' Vc.blkE ?h ?q; (case h => exact (pe_slice sl_tupA (pv 9) (po_some (pv 7)) (po_some (pe_op op_add (pv 7) (pe_callB call_len_seq (by rfl) T.n_len (by decide +kernel) (pa_cons (pv 6) pa_nil)))))); (case q => first | exact rfl | (dsimp only; done) | (dsimp only; exact rfl))))) (pss_one (ps_if (pt_cmpR (op_notInD (by exact room65 hr)) (pv 6) (pv 8) (by rfl)) (pss_one (ps_ret pe_bl)) pss_nil))) pss_nil))))))) (pss_one (ps_ret pe_bl))), ?_⟩
  walk_at "go"
  refine ⟨by omega, by omega, for_it walk_range (fun j σ H' => ∃ y4 y5 y6 y7 y8 y9 : Option V, σ = [some (.ref o.p), some (.ref x.c), some (.int n), some (.int W), y4, y5, y6, y7, y8, y9] ∧ Vc.Ed [] H H') ⟨_, _, _, _, _, _, rfl, .refl⟩ (fun _ _ _ _ _ => trivial) ?_ ?_⟩
  ·rintro j v σ H2 H3 hj ⟨y4, y5, y6, y7, y8, y9, rfl, e2⟩ ⟨rfl, hv⟩
   obtain rfl : v = .int j := by simpa using hv
   have hj : j < n := by simpa using hj
   have X2 := X.ed0 e2
   have C2 := C.ed0 e2
   obtain ⟨dx, hp⟩ := id X2.ob
   have d1 : (j : Int) / (W : Int) = ((j / W : Nat) : Int) := (Int.natCast_ediv ..).symm
   obtain ⟨qn, hqn⟩ : ∃ qn, j / W = qn := ⟨_, rfl⟩
   have qb : qn ≤ 24 := by rw [← hqn]; exact Nat.le_trans (Nat.div_le_self j W) (by omega)
   rw [hqn] at d1
   obtain ⟨rs, hs⟩ := sort_ex (fetD x.fs o.cs o.W.toNat o.cells.length j)
   walk_at "go"
   rw [d1]
   walk_at "go"
   dsimp only
   refine go_forS33 ?_
   refine Gx.go_tgen ?_
   dsimp only [Gx.tMethGx]
   walk_at "go"
   refine ⟨rowC [] rs, ⟨o, x, j, [], rfl, X2, S.ok, S.shp7 (by omega), C2, xo, (fun _ z => nomatch z), fun z => (by rw [S.len] at z; omega), fun q e l => ⟨rs, by rw [show q = j by omega]; exact hs, rfl⟩⟩, rs.length, fun i σ H' => ∃ y6 y7 y8 y9 : Option V, σ = [some (.ref o.p), some (.ref x.c), some (.int n), some (.int W), some (.int j), some (.int (qn : Nat)), y6, y7, y8, y9] ∧ Vc.Ed [] H3 H', ⟨_, _, _, _, rfl, .refl⟩, ?_, ?_⟩
   ·rintro i σ H4 hi ⟨y6, y7, y8, y9, rfl, e4⟩
    refine ⟨hi, fun xv H5 hy => ?_⟩
    obtain ⟨t, r, hr5, rfl, ht, e5⟩ := hy
    have X5 := X2.ed0 (e4.ex e5)
    obtain ⟨dx5, hp5⟩ := id X5.ob
    have mr : r ∈ fetD x.fs o.cs W n j := by
     have := (hs.mem r).mp (List.mem_of_getElem? hr5)
     rwa [ow, S.len] at this
    have jm : qn * W ≤ j := by rw [← hqn]; exact Nat.div_mul_le_self j W
    have dl : (j : Int) - (qn : Int) * (W : Int) = ((j - qn * W : Nat) : Int) := by
     rw [← Int.natCast_mul]; omega
    walk_at "go"
    obtain ⟨lo, hlo⟩ : ∃ lo, j - qn * W = lo := ⟨_, rfl⟩
    rw [hlo] at dl
    rw [dl, List.length_map]
    refine Vc.go_ite (c := (lo : Int) + (r.length : Int) ≤ (W : Int)) (fun g1 => ?_) (fun g1 => ?_)
    ·obtain ⟨c0, hc0, hrc⟩ := fetD_within l1 w1 S.shp hj mr (by rw [hqn, hlo]; omega)
     rw [hqn, List.getD_eq_getElem?_getD] at hc0
     rw [hqn, hlo] at hrc
     obtain ⟨c, hc⟩ : ∃ c, o.cs[qn]? = some c := by
      cases e : o.cs[qn]? with
      | none => rw [e] at hc0; cases hc0
      | some c => exact ⟨c, rfl⟩
     rw [hc] at hc0
     have hc0 : c0 ∈ c := hc0
     walk_at "go"
     refine ⟨o, qn, rfl, X5, S.ok, fun z => (by have := (List.getElem?_eq_some_iff.mp hc).1; omega), fun _ c' hc' Lc ts H6 e6 nLc hLc hT => ?_⟩
     rw [Int.toNat_natCast, hc] at hc'
     obtain rfl := Option.some.inj hc'
     have ht6 := e6.tup _ _ ht
     have lt := hT.len
     have few := S.few c (List.mem_of_getElem? hc)
     walk_at "go"
     refine ⟨⟨_, .of hLc⟩, Vc.lc_by (walk_list (xs := ts.map V.ref)) (fun D i H' => Vc.Ed [] H6 H' ∧ ∃ us : List Addr, H' D = some (.lst (us.map V.ref)) ∧ TupsAt H' us ((c.take i).map fun y => (y.drop lo).take r.length)) (fun D H' nD e2 hD => ⟨e2, [], hD, ⟨rfl, fun _ _ _ a _ => by cases a⟩⟩) (fun D i H' _ _ q => .of (q.1.at0 hLc)) ?_ ?_⟩
     ·rintro D i' y H7 H8 nD hi' ⟨e7, us, hD, hU⟩ ⟨rfl, hy⟩
      rw [List.getElem?_map] at hy
      obtain ⟨ti, hti, rfl⟩ := Option.map_eq_some_iff.mp hy
      have il : i' < c.length := by rw [← hT.len]; exact (List.getElem?_eq_some_iff.mp hti).1
      obtain ⟨y1, hy1⟩ : ∃ y1, c[i']? = some y1 := ⟨_, List.getElem?_eq_getElem il⟩
      have hti8 := e7.tup _ _ (hT.at_ i' ti y1 hti hy1)
      have ht8 := e7.tup _ _ ht6
      have ul := hU.len
      rw [List.length_map, List.length_take] at ul
      walk_at "go"
      refine ⟨rfl, ?_⟩
      walk_at "go"
      rw [List.length_map, show (lo : Int) + (r.length : Int) = ((lo + r.length : Nat) : Int) by omega]
      refine sl_ints lo (lo + r.length) hti8 fun q H9 e9 hq => ?_
      rw [Nat.add_sub_cancel_left] at hq
      have hD9 := e9.at0 hD
      refine ⟨_, hD9, by rw [List.length_map]; exact small1000 (by omega), ?_⟩
      generalize hu10 : upd _ D _ = H10
      obtain ⟨e10, hD10⟩ := Vc.chg hu10 hD9
      refine ⟨(e7.ex e9).one e10 (.inr nD), us ++ [q], by rw [hD10, List.map_append]; rfl, ?_⟩
      rw [List.take_add_one, hy1, List.map_append]
      exact ((hU.ed e9).ed e10).snoc (e10.tup _ _ hq)
     ·rintro D H7 nD ⟨e7, us, hD, hU⟩
      rw [List.length_map, hT.len, List.take_length] at hU
      have ht7 := e7.tup _ _ ht6
      walk_at "go"
      refine go_notInT hD hU ht7 ?_
      rw [decide_eq_true (List.mem_map.mpr ⟨c0, hc0, hrc.symm⟩)]
      walk_at "go"
      exact ⟨.ex e6 e7, _, _, _, _, rfl, (e4.ex e5).ex (e6.ex e7)⟩
    ·walk_at "go"
     exact ⟨.refl, _, _, _, _, rfl, e4.ex e5⟩
   ·rintro σ H4 ⟨y6, y7, y8, y9, rfl, e4⟩
    refine ⟨⟨H4, rfl, .refl⟩, fun H5 h5 => ?_⟩
    obtain ⟨_, e5⟩ := h5
    exact ⟨_, _, _, _, _, _, rfl, e2.ex (e4.ex e5)⟩
  ·rintro σ H2 ⟨y4, y5, y6, y7, y8, y9, rfl, e2⟩
   walk_at "go"
   exact k H2 e2
end
end My
namespace My
open PySem PySem.Spec PyProof.Rows L2
def spDeed33 : Sp := fun vs H Q _ => ∃ (b c fa N : Addr) (np : Nat) (its : List (FD × Addr)) (stop : Int) (n : Nat) (cells : List Int), vs = [.ref b, .int n, .int stop, .ref fa, .ref N] ∧ Pen H b c np ∧ np + 40 ≤ LIM ∧ FTups H fa its ∧ Valid stop (its.map (·.1)) ∧ H N = some (.lst (cells.map V.int)) ∧ N ≠ b ∧ cells.length = n ∧ 1 ≤ n ∧ n ≤ 24 ∧ (∀ v ∈ cells, 0 ≤ v ∧ v ≤ 255) ∧
 ∀ (dd g : Addr) (a : Nat) (ws : List Int) H', Vc.Ed [b] H H' → Pen H' b c (np + 40) → H g = none → H dd = none → H' dd = some (.tup [.int a, .ref g]) → H' g = some (.lst (ws.map V.int)) → 1 ≤ ws.length → ws.length ≤ 3 → a + ws.length ≤ n → (∀ v ∈ ws, 0 ≤ v ∧ v ≤ 255) → Q (.ref dd) H'
section
variable {P : Program} {w : World} {K : PySem.W.Frag} {mg : Str → Option Value} {base : Heap} {A : Ad}
theorem ok__law_deed (T : Txt K mg A) : FnOk P w K mg base CX0 4 A.f__law_deed A.d__law_deed ["_law_pen_here", "_law_size", "_law_stop", "_law_forms_here", "_law_now"] spDeed33 := by
 have G__law_draw := ok__law_draw (P := P) (w := w) (base := base) T
 have G__law_byte := ok__law_byte (P := P) (w := w) (base := base) T
 refine T.F__law_deed.ok sc__law_deed (fun vs H Q E h => ?_) (fun cdv Ar outer s H vs Q E hr h => ?_)
 ·obtain ⟨b, c, fa, N, np, its, stop, n, cells, rfl, _⟩ := h
  rfl
 ·obtain ⟨b, c, fa, N, np, its, stop, n, cells, rfl, hB, npl, FT, Va, hN, Nb, cl, n1, n24, cby, k⟩ := h
  have hu := hu_of hr
  have LM : (1000000 : Nat) = LIM := rfl
  refine ⟨_, (pss_cons (ps_set (i := 5) sc__law_deed.nd rfl (Or.inl rfl) (pe_call G__law_draw (by exact hr.mono (by decide)) (by rfl) T.g__law_draw T.F__law_draw.kp T.b__law_draw .nil pass0 (pa_cons (pv 0) (pa_cons (pv 1) pa_nil)))) (pss_cons (ps_set (i := 6) sc__law_deed.nd rfl (Or.inl rfl) (pe_callB (call_min2 rfl) (by rfl) T.n_min (by decide +kernel) (pa_cons (pe_op op_add pe_int (pe_call G__law_draw (by exact hr.mono (by decide)) (by rfl) T.g__law_draw T.F__law_draw.kp T.b__law_draw .nil pass0 (pa_cons (pv 0) (pa_cons pe_int pa_nil)))) (pa_cons (pe_op op_sub (pv 1) (pv 5)) pa_nil)))) (pss_cons (ps_if (pt_cmpR op_eq (pe_call G__law_draw (by exact hr.mono (by decide)) (by rfl) T.g__law_draw T.F__law_draw.kp T.b__law_draw .nil pass0 (pa_cons (pv 0) (pa_cons pe_int pa_nil))) pe_int (nomark _)) (pss_one (ps_ret (pe_tup (pa_cons (pv 5) (pa_cons (pe_slice sl_list (pv 4) (po_some (pv 5)) (po_some (pe_op op_add (pv 5) (pv 6)))) pa_nil))))) pss_nil) (pss_one (ps_ret (pe_tup (pa_cons (pv 5) (pa_cons (pe_lc (own := [("_law_k", 7)]) (g := gName 7) rfl sc__law_deed.nd (pi_range1 (by rfl) T.n_range (pa_cons (pv 6) pa_nil)) (blkOk_by (own := [("_law_k", 7)]) (N := ["_law_pen_here", "_law_size", "_law_stop", "_law_forms_here", "_law_now", "_law_first", "_law_many", "_law_k"]) (sc := defScope s__law_deed) (by decide +kernel)) (fun _ _ _ _ _ => by exact (pg_name (i := 7) sc__law_deed.nd rfl (Or.inl rfl))) (fun _ _ _ _ _ => by exact pts_nil) (fun _ _ _ _ _ => by (refine' Vc.blkE ?h ?q; (case h => exact (pe_call G__law_byte (by exact hr.mono (by decide)) (by rfl) T.g__law_byte T.F__law_byte.kp T.b__law_byte .nil pass0 (pa_cons (pv 0) (pa_cons (pv 2) (pa_cons (pv 3) pa_nil))))); (case q => first | exact rfl | (dsimp only; done) | (dsimp only; exact rfl))))) pa_nil)))))))), ?_⟩
  walk_at "go"
  refine ⟨b, c, np, n, rfl, hB, by omega, by omega, by omega, fun x H1 x0 x1 e1 hB1 => ?_⟩
  obtain ⟨a, rfl⟩ : ∃ a : Nat, x = a := ⟨x.toNat, by omega⟩
  walk_at "go"
  refine ⟨b, c, _, 3, rfl, hB1, by omega, by omega, by omega, fun y H2 y0 y1 e2 hB2 => ?_⟩
  walk_at "go"
  refine ⟨b, c, _, 6, rfl, hB2, by omega, by omega, by omega, fun z H3 z0 z1 e3 hB3 => ?_⟩
  obtain ⟨m, hm⟩ : ∃ m : Nat, (if (n : Int) - a < 1 + y then (n : Int) - a else 1 + y) = m := ⟨(if (n : Int) - a < 1 + y then (n : Int) - a else 1 + y).toNat, by split <;> omega⟩
  have mb : 1 ≤ m ∧ m ≤ 3 ∧ a + m ≤ n := by split at hm <;> omega
  rw [hm]
  have e03 := (e1.trans e2 fun _ z => .inl z).trans e3 fun _ z => .inl z
  have hN3 := e03.at1 Nb hN
  walk_at "go"
  refine Vc.go_ite (c := z = 0) (fun g1 => ?_) (fun g1 => ?_)
  ·walk_at "go"
   intro g ng
   rw [show (a : Int) + (m : Int) = ((a + m : Nat) : Int) by omega, Vc.cut_mid, Nat.add_sub_cancel_left, ← List.map_drop, ← List.map_take]
   generalize hu4 : upd _ g _ = H4
   obtain ⟨e4, hg⟩ := Vc.alloc hu4 ng
   walk_at "go"
   intro dd ndd
   generalize hu5 : upd _ dd _ = H5
   obtain ⟨e5, hdd⟩ := Vc.alloc hu5 ndd
   have wl : ((cells.drop a).take m).length = m := by rw [List.length_take, List.length_drop]; omega
   have e35 := e4.ex e5
   walk_at "go"
   exact k dd g a ((cells.drop a).take m) H5 (e03.trans (e35.mono fun _ z => nomatch z) fun _ z => .inl z) ((hB3.ed0 e35).up (by omega)) (e03.dom _ ng) (e03.dom _ (e4.dom _ ndd)) hdd (e5.at0 hg) (by omega) (by omega) (by omega) fun v hv => cby v (List.mem_of_mem_drop (List.mem_of_mem_take hv))
  ·walk_at "go"
   refine ⟨by omega, by omega, Vc.lc_by walk_range (fun L j H' => Vc.Ed [b] H3 H' ∧ Pen H' b c (np + 1 + 1 + 1 + 10 * j) ∧ ∃ vs : List Int, vs.length = j ∧ (∀ v ∈ vs, 0 ≤ v ∧ v ≤ 255) ∧ H' L = some (.lst (vs.map V.int))) (fun L H4 nL e4 hL => ⟨e4.mono (fun _ z => nomatch z), hB3.ed0 e4, [], rfl, (fun _ z => nomatch z), hL⟩) (fun _ _ _ _ _ _ => trivial) ?_ ?_⟩
   ·rintro L j v H4 H5 nL hj ⟨e4, hB4, vs, lv, hv, hL⟩ ⟨rfl, rfl⟩
    have hj : j < m := by simpa using hj
    have nb := hB3.fb nL
    have FT5 := FT.pen (e03.trans e4 fun _ z => .inl z) hB
    walk_at "go"
    refine ⟨rfl, ?_⟩
    walk_at "go"
    refine ⟨b, c, fa, _, stop, its, rfl, hB4, by omega, FT5, Va, fun v H6 v0 v1 e6 hB6 => ?_⟩
    have hL6 := e6.at1 nb.1.symm hL
    walk_at "go"
    refine ⟨_, hL6, by rw [List.length_map, lv]; exact small1000 (by omega), ?_⟩
    generalize hu7 : upd _ L _ = H7
    obtain ⟨e7, hL7⟩ := Vc.chg hu7 hL6
    refine ⟨(e4.trans e6 fun _ z => .inl z).one e7 (.inr nL), (hB6.ed1 e7 nb.1 nb.2).up (by omega), vs ++ [v], by rw [List.length_append, lv]; rfl, fun y hy => ?_, by rw [hL7, List.map_append]; rfl⟩
    rcases List.mem_append.mp hy with h | h
    ·exact hv y h
    ·rw [List.mem_singleton.mp h]; exact ⟨v0, v1⟩
   ·rintro L H4 nL ⟨e4, hB4, vs, lv, hv, hL⟩
    have lv : vs.length = m := by simpa using lv
    walk_at "go"
    intro dd ndd
    generalize hu5 : upd _ dd _ = H5
    obtain ⟨e5, hdd⟩ := Vc.alloc hu5 ndd
    have e04 := e03.trans e4 fun _ z => .inl z
    walk_at "go"
    exact k dd L a vs H5 (e04.trans (e5.mono fun _ z => nomatch z) fun _ z => .inl z) ((hB4.ed0 e5).up (by simp only [Int.toNat_natCast]; omega)) (e03.dom _ nL) (e04.dom _ ndd) hdd (e5.at0 hL) (by omega) (by omega) (by omega) hv
end
end My
namespace My
open PySem PySem.Spec PyProof.Rows L2
def CodeO.own (x : CodeO) : List Addr := x.c :: x.o :: x.t :: x.items.map (·.2)
theorem CodeO.At.keep {A : Ad} {S : List Addr} {H H' : Hp} {x : CodeO} (h : x.At A H) (e : Vc.Ed S H H') (n : ∀ a ∈ x.own, a ∉ S) : x.At A H' := by
 unfold CodeO.own at n
 exact h.ed e (n _ List.mem_cons_self) (n _ (List.mem_cons_of_mem _ List.mem_cons_self)) (n _ (List.mem_cons_of_mem _ (List.mem_cons_of_mem _ List.mem_cons_self))) fun p hp => n _ (List.mem_cons_of_mem _ (List.mem_cons_of_mem _ (List.mem_cons_of_mem _ (List.mem_map.mpr ⟨p, hp, rfl⟩))))
theorem CodeO.At.known {A : Ad} {H : Hp} {x : CodeO} (h : x.At A H) (a : Addr) (ha : a ∈ x.own) : H a ≠ none := by
 intro z
 unfold CodeO.own at ha
 rcases List.mem_cons.mp ha with rfl | ha
 ·have := h.ob; rw [z] at this; cases this
 rcases List.mem_cons.mp ha with rfl | ha
 ·have := h.od; rw [z] at this; cases this
 rcases List.mem_cons.mp ha with rfl | ha
 ·have := h.tb; rw [z] at this; cases this
 ·obtain ⟨p, hp, rfl⟩ := List.mem_map.mp ha
  obtain ⟨d, h⟩ := h.fm p hp
  rw [z] at h; cases h
theorem pen_code {A : Ad} {H : Hp} {b c : Addr} {n : Nat} {x : CodeO} (B : Pen H b c n) (X : x.At A H) (ok : x.Ok) : b ∉ x.own := by
 obtain ⟨u, a, r, hb⟩ := B.lst
 intro z
 unfold CodeO.own at z
 rcases List.mem_cons.mp z with rfl | z
 ·have := X.ob; rw [hb] at this; cases this
 rcases List.mem_cons.mp z with rfl | z
 ·have h := X.od
  have l := ok.1.n1
  unfold CodeO.fs at l
  rw [hb] at h
  injection h with h
  injection h with h
  match hx : x.items, h, l with
  | [], _, l => exact absurd l (by simp)
  | p :: _, h, _ =>
   injection h with h _
   cases h
 rcases List.mem_cons.mp z with rfl | z
 ·have := X.tb; rw [hb] at this; cases this
 ·obtain ⟨p, hp, e⟩ := List.mem_map.mp z
  obtain ⟨d, h⟩ := X.fm p hp
  rw [e, hb] at h; cases h
theorem SgU.mk0 {W n : Nat} {o : SightO} (O : o.Ok) (w : o.W = W) (l : o.cells.length = n) (c : o.cs = (unitsOf W o.cells).map fun c => [c]) : SgU W n 1 o := by
 refine ⟨O, w, l, fun d hd => ?_, fun k d hk t ht => ?_, ?_, fun d hd => ?_⟩
 ·rw [c] at hd
  obtain ⟨x, _, rfl⟩ := List.mem_map.mp hd
  exact Nat.le_refl _
 ·rw [c] at hk
  refine ⟨by rw [← l]; exact (Shp.one (W := W) (cells := o.cells)).sh k d hk t ht, ?_⟩
  rw [List.getElem?_map] at hk
  obtain ⟨x, hx, rfl⟩ := Option.map_eq_some_iff.mp hk
  rw [List.mem_singleton.mp ht]
  have kl : k < manyU W o.cells.length := by rw [← units_len]; exact (List.getElem?_eq_some_iff.mp hx).1
  rw [units_get kl] at hx
  rw [← Option.some.inj hx]
  exact unit_by O.b
 ·rw [c]; exact .one
 ·rw [c] at hd
  obtain ⟨x, _, rfl⟩ := List.mem_map.mp hd
  exact List.nodup_cons.mpr ⟨(fun z => nomatch z), List.Pairwise.nil⟩
def twoC (W : Nat) (cells : List Int) (f : Nat) (u : Int) (g : Nat) (v : Int) : List (List (List Int)) := addC (addC ((unitsOf W cells).map fun c => [c]) (unitsOf W (putW cells f [u]))) (unitsOf W (putW (putW cells f [u]) g [v]))
theorem two_turn {W m f g : Nat} {cells : List Int} {u v : Int} (w1 : 1 ≤ W) (h1 : f < m * W) (h2 : m * W ≤ g) (h3 : g < cells.length) : twoC W cells f u g v = twoC W cells g v f u := by
 have lf : f + [u].length ≤ cells.length := by show f + 1 ≤ _; omega
 have lg : g + [v].length ≤ cells.length := by show g + 1 ≤ _; omega
 have lf' : f + [u].length ≤ (putW cells g [v]).length := by rw [putW_len lg]; exact lf
 have lg' : g + [v].length ≤ (putW cells f [u]).length := by rw [putW_len lf]; exact lg
 have e : putW (putW cells f [u]) g [v] = putW (putW cells g [v]) f [u] := by
  refine List.ext_getElem? fun i => ?_
  rw [putW_get lg', putW_get lf, putW_get lf', putW_get lg]
  have a1 : [u].length = 1 := rfl
  have a2 : [v].length = 1 := rfl
  rw [a1, a2]
  by_cases c1 : f ≤ i ∧ i < f + 1
  ·rw [if_pos c1, if_neg (by omega), if_pos c1]
  ·rw [if_neg c1, if_neg c1]
 unfold twoC
 rw [← e]
 refine turn_same (n := cells.length) w1 rfl (putW_len lf) (putW_len lg) ((putW_len lg').trans (putW_len lf)) fun k => ?_
 by_cases km : k < m
 ·have := Nat.mul_le_mul_right W (show k + 1 ≤ m from km)
  rw [Nat.succ_mul] at this
  exact .inr ⟨unit_put lg (.inl (by omega)), unit_put lg' (.inl (by omega))⟩
 ·have := Nat.mul_le_mul_right W (show m ≤ k by omega)
  refine .inl ⟨unit_put lf (.inr (by show f + 1 ≤ _; omega)), ?_⟩
  rw [e]
  exact unit_put lf' (.inr (by show f + 1 ≤ _; omega))
def spTurned (A : Ad) : Sp := fun vs H Q _ => ∃ (b c cl : Addr) (np : Nat) (x : CodeO) (cells : List Int) (W : Nat), vs = [.ref b, .ref x.c, .ref cl, .int W] ∧ Pen H b c np ∧ np + 5 ≤ LIM ∧ H cl = some (.lst (cells.map V.int)) ∧ cl ≠ b ∧ 1 ≤ cells.length ∧ cells.length ≤ 24 ∧ (∀ v ∈ cells, 0 ≤ v ∧ v ≤ 255) ∧ (W = 1 ∨ W = 2 ∨ W = 4) ∧ x.At A H ∧ x.Ok ∧ (∀ f ∈ x.fs, 1 ≤ f.len) ∧ (∀ f ∈ x.fs, f.len ≤ 4) ∧
 ∀ H', Vc.Ed [b] H H' → Pen H' b c (np + 5) → Q (.bl true) H'
section
variable {w : World} {K : PySem.W.Frag} {mg : Str → Option Value} {base : Heap} {A : Ad}
theorem ok__law_turned (T : Txt K mg A) : FnOk PG w K mg base CX0 12 A.f__law_turned A.d__law_turned ["_law_pen_here", "_law_codes_here", "_law_cells", "_law_unit"] (spTurned A) := by
 have G__law_draw := ok__law_draw (P := PG) (w := w) (base := base) T
 have G__law_every := ok__law_every (w := w) (base := base) T
 have G_Layoutu_initu := ok_Layoutu_initu (w := w) (base := base) T
 have G_Sightu_initu := ok_Sightu_initu (w := w) (base := base) T
 have G_Sight_write := ok_Sight_write (w := w) (base := base) T
 refine T.F__law_turned.ok sc__law_turned (fun vs H Q E h => ?_) (fun cdv Ar outer s H vs Q E hr h => ?_)
 ·obtain ⟨b, c, cl, np, x, cells, W, rfl, _⟩ := h
  rfl
 ·obtain ⟨b, c, cl, np, x, cells, W, rfl, hB, npl, hC, Cb, n1, n24, cby, Wc, C, xo, l1, l4, k⟩ := h
  have hu := hu_of hr
  have LM : (1000000 : Nat) = LIM := rfl
  have w1 : 1 ≤ W := by omega
  obtain ⟨n, hn⟩ : ∃ n, cells.length = n := ⟨_, rfl⟩
  rw [hn] at n1 n24
  refine ⟨_, (pss_cons (ps_set (i := 4) sc__law_turned.nd rfl (Or.inl rfl) (pe_callB call_len_seq (by rfl) T.n_len (by decide +kernel) (pa_cons (pv 2) pa_nil))) (pss_cons (ps_if (pt_cmpR op_le (pv 4) (pv 3) (nomark _)) (pss_one (ps_ret pe_bl)) pss_nil) (pss_cons (ps_set (i := 5) sc__law_turned.nd rfl (Or.inl rfl) (pe_op op_mulW (pv 3) (pe_op op_add pe_int (pe_call G__law_draw (by exact hr.mono (by decide)) (by rfl) T.g__law_draw T.F__law_draw.kp T.b__law_draw .nil pass0 (pa_cons (pv 0) (pa_cons (pe_op op_fdivW (pe_op op_sub (pv 4) pe_int) (pv 3)) pa_nil)))))) (pss_cons (ps_set (i := 6) sc__law_turned.nd rfl (Or.inl rfl) (pe_tup (pa_cons (pe_call G__law_draw (by exact hr.mono (by decide)) (by rfl) T.g__law_draw T.F__law_draw.kp T.b__law_draw .nil pass0 (pa_cons (pv 0) (pa_cons (pv 5) pa_nil))) (pa_cons (pe_lst (pa_cons (pe_call G__law_draw (by exact hr.mono (by decide)) (by rfl) T.g__law_draw T.F__law_draw.kp T.b__law_draw .nil pass0 (pa_cons (pv 0) (pa_cons pe_int pa_nil))) pa_nil)) pa_nil)))) (pss_cons (ps_set (i := 7) sc__law_turned.nd rfl (Or.inl rfl) (pe_tup (pa_cons (pe_op op_add (pv 5) (pe_call G__law_draw (by exact hr.mono (by decide)) (by rfl) T.g__law_draw T.F__law_draw.kp T.b__law_draw .nil pass0 (pa_cons (pv 0) (pa_cons (pe_op op_sub (pv 4) (pv 5)) pa_nil)))) (pa_cons (pe_lst (pa_cons (pe_call G__law_draw (by exact hr.mono (by decide)) (by rfl) T.g__law_draw T.F__law_draw.kp T.b__law_draw .nil pass0 (pa_cons (pv 0) (pa_cons pe_int pa_nil))) pa_nil)) pa_nil)))) (pss_cons (ps_set (i := 8) sc__law_turned.nd rfl (Or.inl rfl) (pe_lst pa_nil)) (pss_cons (ps_for PassesOwn.never rfl (pi_tup (pe_tup (pa_cons (pe_tup (pa_cons (pv 6) (pa_cons (pv 7) pa_nil))) (pa_cons (pe_tup (pa_cons (pv 7) (pa_cons (pv 6) pa_nil))) pa_nil)))) (pg_name (i := 9) sc__law_turned.nd rfl (Or.inl rfl)) (pss_cons (ps_set (i := 10) sc__law_turned.nd rfl (Or.inl rfl) (pe_make T.mk_Sight G_Sightu_initu (by exact hr.mono (by decide)) (by rfl) T.g_Sight T.b_Sightu_initu .nil pass0 (pa_cons (pe_make T.mk_Layout G_Layoutu_initu (by exact hr.mono (by decide)) (by rfl) T.g_Layout T.b_Layoutu_initu .nil passL (pa_cons (pv 3) (pa_cons pe_int pa_nil))) (pa_cons (pv 2) pa_nil)))) (pss_cons (ps_for PassesOwn.never rfl (pi_tup (pv 9)) (pg_tup rfl (pgs_cons (pg_name (i := 11) sc__law_turned.nd rfl (Or.inl rfl)) (pgs_cons (pg_name (i := 12) sc__law_turned.nd rfl (Or.inl rfl)) pgs_nil))) (pss_one (ps_expr (pe_meth (pv 10) T.cl_Sight T.m_Sight_write G_Sight_write (by exact hr.mono (by decide)) T.b_Sight_write .nil passL (pa_cons (pv 11) (pa_cons (pv 12) pa_nil)))))) (pss_one (ps_expr (pe_bm PySem.F.plainAttrs_list PySem.F.slot_list_append PySem.F.type_list_append mt_append (pv 8) (pa_cons (pe_call G__law_every (by exact hr.mono (by decide)) (by rfl) T.g__law_every T.F__law_every.kp T.b__law_every .nil pass0 (pa_cons (pv 10) (pa_cons (pv 1) (pa_cons (pv 4) pa_nil)))) pa_nil))))))) (pss_one (ps_ret (pe_cmpR (op_eqD (by exact hr.units)) (pe_ix ix_list (pv 8) pe_int (fun _ _ => rfl)) (pe_ix ix_list (pv 8) pe_int (fun _ _ => rfl)) (nomark _))))))))))), ?_⟩
  walk_at "go"
  rw [List.length_map, hn]
  refine Vc.go_ite (c := (n : Int) ≤ (W : Int)) (fun g1 => ?_) (fun g1 => ?_)
  ·walk_at "go"
   exact k H .refl (hB.up (by omega))
  walk_at "go"
  obtain ⟨q, hq⟩ : ∃ q : Nat, (n - 1) / W = q := ⟨_, rfl⟩
  have d1 : ((n : Int) - 1) / (W : Int) = (q : Int) := by
   rw [show (n : Int) - 1 = ((n - 1 : Nat) : Int) by omega, ← Int.natCast_ediv, hq]
  have q1 : 1 ≤ q := by rw [← hq]; exact (Nat.le_div_iff_mul_le w1).mpr (by omega)
  have qW : q * W ≤ n - 1 := by rw [← hq]; exact Nat.div_mul_le_self _ _
  have q24 : q ≤ 24 := by rw [← hq]; exact Nat.le_trans (Nat.div_le_self _ _) (by omega)
  rw [d1]
  refine ⟨b, c, np, q, rfl, hB, by omega, by omega, by omega, fun dd H1 d0 d1 e1 hB1 => ?_⟩
  obtain ⟨d, rfl⟩ : ∃ d : Nat, dd = d := ⟨dd.toNat, by omega⟩
  obtain ⟨cut, hcut⟩ : ∃ cut, (1 + d) * W = cut := ⟨_, rfl⟩
  have cW : (W : Int) * (1 + (d : Int)) = (cut : Int) := by
   rw [← hcut, Int.natCast_mul, Int.natCast_add, Int.mul_comm]; rfl
  have cb : 1 ≤ cut ∧ cut < n := by
   have h1 : (1 + d) * W ≤ q * W := Nat.mul_le_mul_right W (by omega)
   have h2 : 1 * W ≤ (1 + d) * W := Nat.mul_le_mul_right W (by omega)
   omega
  walk_at "go"
  rw [cW]
  walk_at "go"
  refine ⟨b, c, _, cut, rfl, hB1, by omega, by omega, by omega, fun fa H2 f0 f1 e2 hB2 => ?_⟩
  obtain ⟨fa, rfl⟩ : ∃ d : Nat, fa = d := ⟨fa.toNat, by omega⟩
  walk_at "go"
  refine ⟨b, c, _, 256, rfl, hB2, by omega, by omega, by omega, fun va H3 va0 va1 e3 hB3 => ?_⟩
  walk_at "go"
  intro ga nga
  generalize hu4 : upd _ ga _ = H4
  obtain ⟨e4, hga⟩ := Vc.alloc hu4 nga
  walk_at "go"
  intro ta nta
  generalize hu5 : upd _ ta _ = H5
  obtain ⟨e5, hta⟩ := Vc.alloc hu5 nta
  have hB5 := (hB3.ed0 e4).ed0 e5
  have hga5 := e5.at0 hga
  walk_at "go"
  refine ⟨b, c, _, (n : Int) - cut, rfl, hB5, by omega, by omega, by omega, fun fb' H6 fb0 fb1 e6 hB6 => ?_⟩
  obtain ⟨fb, hfb⟩ : ∃ d : Nat, (cut : Int) + fb' = d := ⟨((cut : Int) + fb').toNat, by omega⟩
  walk_at "go"
  rw [hfb]
  refine ⟨b, c, _, 256, rfl, hB6, by omega, by omega, by omega, fun vb H7 vb0 vb1 e7 hB7 => ?_⟩
  walk_at "go"
  intro gb ngb
  generalize hu8 : upd _ gb _ = H8
  obtain ⟨e8, hgb⟩ := Vc.alloc hu8 ngb
  walk_at "go"
  intro tb ntb
  generalize hu9 : upd _ tb _ = H9
  obtain ⟨e9, htb⟩ := Vc.alloc hu9 ntb
  have fbn : cut ≤ fb ∧ fb < n := by omega
  have e02 : Vc.Ed [b] H H2 := e1.trans e2 fun _ z => .inl z
  have e03 : Vc.Ed [b] H H3 := e02.trans e3 fun _ z => .inl z
  have e05 : Vc.Ed [b] H H5 := e03.ex (e4.ex e5)
  have e07 : Vc.Ed [b] H H7 := (e05.trans e6 fun _ z => .inl z).trans e7 fun _ z => .inl z
  have e09 : Vc.Ed [b] H H9 := e07.ex (e8.ex e9)
  have hB9 : Pen H9 b c (np + 5) := ((hB7.ed0 e8).ed0 e9).up (by omega)
  have hC9 := e09.at1 Cb hC
  have C9 := C.keep e09 fun a ha z => pen_code hB C xo (by rw [← List.mem_singleton.mp z]; exact ha)
  have gab : ga ≠ b := fun z => (hB3.fb nga).1 z.symm
  have e59 : Vc.Ed [b] H5 H9 := (e6.trans e7 fun _ z => .inl z).ex (e8.ex e9)
  have hga9 := e59.at1 gab hga5
  have hta9 := e59.tup _ _ hta
  have hgb9 := e9.at0 hgb
  clear e1 e2 e3 e4 e5 e6 e7 e8 e9 e02 e03 e05 e07 e59 hB hB1 hB2 hB3 hB5 hB6 hB7 hu4 hu5 hu8 hu9 hga hga5 hta hgb hC C nga nta ngb ntb
  walk_at "go"
  intro L nL
  generalize hu10 : upd _ L _ = H10
  obtain ⟨e10, hL⟩ := Vc.alloc hu10 nL
  walk_at "go"
  intro q1 nq1
  generalize hu11 : upd _ q1 _ = H11
  obtain ⟨e11, hq1⟩ := Vc.alloc hu11 nq1
  walk_at "go"
  intro q2 nq2
  generalize hu12 : upd _ q2 _ = H12
  obtain ⟨e12, hq2⟩ := Vc.alloc hu12 nq2
  walk_at "go"
  intro t3 nt3
  generalize hu13 : upd _ t3 _ = H13
  obtain ⟨e13, ht3⟩ := Vc.alloc hu13 nt3
  have e1013 := (e11.ex e12).ex e13
  have e913 := e10.ex e1013
  have hL13 := e1013.at0 hL
  have hq13 := (e12.ex e13).tup _ _ hq1
  have hq23 := e13.tup _ _ hq2
  have hta13 := e913.tup _ _ hta9
  have htb13 := e913.tup _ _ htb
  have hga13 := e913.at0 hga9
  have hgb13 := e913.at0 hgb9
  have hC13 := e913.at0 hC9
  have C13 := C9.ed0 e913
  have hB13 := hB9.ed0 e913
  have e013 := e09.ex e913
  have bL := (hB9.fb nL).1
  have cL := (hB9.fb nL).2
  have gaL : ga ≠ L := fun z => by rw [z, nL] at hga9; cases hga9
  have gbL : gb ≠ L := fun z => by rw [z, nL] at hgb9; cases hgb9
  have nL0 : H L = none := e09.dom _ nL
  have clL : cl ≠ L := fun z => by rw [z, nL] at hC9; cases hC9
  have xL : ∀ a ∈ x.own, a ∉ [L] := fun a ha z => C9.known a ha (by rw [List.mem_singleton.mp z]; exact nL)
  have wu : ((W : Nat) : Int) ∈ UNS := by rcases Wc with h | h | h <;> rw [h] <;> decide
  have le : layErr W 16 = none := by
   unfold layErr; rw [if_neg (fun z => z wu), if_neg (fun z => z.elim (fun z => z (by decide)) (fun z => by omega))]
  clear e10 e11 e12 e13 e1013 e913 hL hq1 hq2 hta9 htb hga9 hgb9 hC9 C9 hB9 e09 hu10 hu11 hu12 hu13 nq1 nq2 nt3 nL
  refine ⟨t3, rfl, ⟨_, .of ht3⟩, for_it (walk_tup (xs := [V.ref q1, .ref q2])) (fun i σ H' => ∃ y9 y10 y11 y12 : Option V, σ = [some (.ref b), some (.ref x.c), some (.ref cl), some (.int W), some (.int n), some (.int cut), some (.ref ta), some (.ref tb), some (.ref L), y9, y10, y11, y12] ∧ Vc.Ed [L] H13 H' ∧ ∃ us : List Addr, H' L = some (.lst (us.map V.ref)) ∧ us.length = i ∧ ∀ (j : Nat) (u : Addr), us[j]? = some u → u ≠ L ∧ ∃ (ws : List Addr) (rows : List (List (List Int))), H' u = some (.lst (ws.map V.ref)) ∧ (∀ v ∈ ws, v ≠ L) ∧ LLAt H' ws rows ∧ Every x.fs (twoC W cells fa va fb vb) W n rows) ⟨_, _, _, _, rfl, .refl, [], hL13, rfl, (fun _ _ z => by cases z)⟩ (fun _ _ _ _ h => (by obtain ⟨_, _, _, _, _, e, _⟩ := h; exact .of (e.tup _ _ ht3))) ?_ ?_⟩
  ·rintro i v σ H15 H14 hi ⟨y9, y10, y11, y12, rfl, e14, us, hL14, ul, hus⟩ ⟨rfl, hv⟩
   have hi : i < 2 := hi
   have key : ∃ (q u0 u1 g0 g1 : Addr) (f0 f1 : Nat) (v0 v1 : Int), v = .ref q ∧ H13 q = some (.tup [.ref u0, .ref u1]) ∧ H13 u0 = some (.tup [.int f0, .ref g0]) ∧ H13 u1 = some (.tup [.int f1, .ref g1]) ∧ H13 g0 = some (.lst [.int v0]) ∧ H13 g1 = some (.lst [.int v1]) ∧ g0 ≠ L ∧ g1 ≠ L ∧ f0 < n ∧ f1 < n ∧ (0 ≤ v0 ∧ v0 ≤ 255) ∧ (0 ≤ v1 ∧ v1 ≤ 255) ∧ twoC W cells f0 v0 f1 v1 = twoC W cells fa va fb vb := by
    match i, hi, hv with
    | 0, _, hv =>
     obtain rfl := Option.some.inj hv
     exact ⟨q1, ta, tb, ga, gb, fa, fb, va, vb, rfl, hq13, hta13, htb13, hga13, hgb13, gaL, gbL, by omega, by omega, by omega, by omega, rfl⟩
    | 1, _, hv =>
     obtain rfl := Option.some.inj hv
     exact ⟨q2, tb, ta, gb, ga, fb, fa, vb, va, rfl, hq23, htb13, hta13, hgb13, hga13, gbL, gaL, by omega, by omega, by omega, by omega, (two_turn (m := 1 + d) w1 (by omega) (by omega) (by omega)).symm⟩
   obtain ⟨q, u0, u1, g0, g1, f0, f1, v0, v1, rfl, hq, hu0, hu1, hg0, hg1, g0L, g1L, f0n, f1n, vb0, vb1, et⟩ := key
   have hq14 := e14.tup _ _ hq
   have hu04 := e14.tup _ _ hu0
   have hu14 := e14.tup _ _ hu1
   have hg04 := e14.at1 g0L hg0
   have hg14 := e14.at1 g1L hg1
   have hC14 := e14.at1 clL hC13
   have C14 := C13.keep e14 xL
   walk_at "go"
   intro gl gx ngl ngx ne2
   generalize hu16 : upd _ gl _ = H16
   obtain ⟨e16, h16, _⟩ := Vc.allocI hu16 ngl ngx ne2
   refine ⟨gl, gx, W, 16, rfl, h16, fun e z => (by rw [le] at z; cases z), fun _ H17 e17 L17 => ⟨rfl, ?_⟩⟩
   have e1417 : Vc.Ed [] H14 H17 := e16.one e17 (.inr ngl)
   clear e16 e17 hu16 h16
   walk_at "go"
   intro p px np1 npx ne3
   generalize hu18 : upd _ p _ = H18
   obtain ⟨e18, h18, _⟩ := Vc.allocI hu18 np1 npx ne3
   refine ⟨p, px, gl, cl, W, 16, cells, rfl, h18, L17.ed0 e18, wu, by decide, by omega, .inl (.of ((e1417.ex e18).at0 hC14)), by omega, by omega, cby, fun o H19 e19 op oW oc ocs own X19 O => ⟨rfl, ?_⟩⟩
   have e1719 : Vc.Ed [] H17 H19 := e18.one e19 (.inr np1)
   have e1419 := e1417.ex e1719
   have own17 : ∀ a ∈ o.own, H17 a = none := fun a ha => (own a ha).elim (fun z => by rw [z]; exact np1) fun z => e18.dom _ z
   have own14 : ∀ a ∈ o.own, H14 a = none := fun a ha => e1417.dom _ (own17 a ha)
   have SG := SgU.mk0 O oW (by rw [oc]) (by rw [ocs, oc])
   clear e18 e19 h18 hu18 e1719 own17 own ngx npx ne2 ne3
   rw [hn] at SG
   obtain ⟨oj, o0, o1, o2⟩ : ∃ oj : Nat → SightO, oj 0 = o ∧ oj 1 = o.wrote f0 [v0] ∧ oj 2 = (o.wrote f0 [v0]).wrote f1 [v1] := ⟨fun j => match j with | 0 => o | 1 => o.wrote f0 [v0] | _ => (o.wrote f0 [v0]).wrote f1 [v1], rfl, rfl, rfl⟩
   have pj : ∀ j, j ≤ 2 → (oj j).p = p ∧ (oj j).ch = o.ch := fun j hj => by
    match j, hj with
    | 0, _ => rw [o0]; exact ⟨op, rfl⟩
    | 1, _ => rw [o1]; exact ⟨op, rfl⟩
    | 2, _ => rw [o2]; exact ⟨op, rfl⟩
   have ocs2 : (oj 2).cs = twoC W cells f0 v0 f1 v1 := by
    rw [o2, wrote_eq, wrote_eq]
    show addC (addC o.cs (unitsOf o.W (putW o.cells f0 [v0]))) (unitsOf o.W (putW (putW o.cells f0 [v0]) f1 [v1])) = _
    rw [ocs, oc, oW]; rfl
   have ch14 : ∀ a ∈ o.ch, H14 a = none := fun a ha => own14 a (by
    unfold SightO.ch at ha
    unfold SightO.own
    rcases List.mem_cons.mp ha with rfl | ha
    ·simp
    ·simp [ha])
   have hq19 := e1419.tup _ _ hq14
   have hu019 := e1419.tup _ _ hu04
   have hu119 := e1419.tup _ _ hu14
   have hg019 := e1419.at0 hg04
   have hg119 := e1419.at0 hg14
   have key2 : ∀ j (y : V), j < 2 → [V.ref u0, .ref u1][j]? = some y → ∃ (u g : Addr) (f : Nat) (v : Int), y = .ref u ∧ H19 u = some (.tup [.int f, .ref g]) ∧ H19 g = some (.lst [.int v]) ∧ f < n ∧ (0 ≤ v ∧ v ≤ 255) ∧ oj (j + 1) = (oj j).wrote f [v] ∧ g ∉ o.ch := fun j y hj hy => by
    match j, hj, hy with
    | 0, _, hy =>
     obtain rfl := Option.some.inj hy
     exact ⟨u0, g0, f0, v0, rfl, hu019, hg019, f0n, vb0, by rw [o1, o0], fun z => by have := ch14 _ z; rw [hg04] at this; cases this⟩
    | 1, _, hy =>
     obtain rfl := Option.some.inj hy
     exact ⟨u1, g1, f1, v1, rfl, hu119, hg119, f1n, vb1, by rw [o2, o1], fun z => by have := ch14 _ z; rw [hg14] at this; cases this⟩
   have cS := T.cl_Sight
   walk_at "go"
   refine ⟨⟨_, .of hq19⟩, for_it (walk_tup (xs := [V.ref u0, .ref u1])) (fun j σ H' => ∃ y11 y12 : Option V, σ = [some (.ref b), some (.ref x.c), some (.ref cl), some (.int W), some (.int n), some (.int cut), some (.ref ta), some (.ref tb), some (.ref L), some (.ref q), some (.ref p), y11, y12] ∧ Vc.Ed o.ch H19 H' ∧ (oj j).At A H' ∧ SgU W n (1 + j) (oj j)) ⟨_, _, rfl, .refl, by rw [o0]; exact X19, by rw [o0]; exact SG⟩ (fun _ _ _ _ h => (by obtain ⟨_, _, _, e, _⟩ := h; exact .of (e.tup _ _ hq19))) ?_ ?_⟩
   ·rintro j y σ H21 H20 hj ⟨y11, y12, rfl, e20, X20, S20⟩ ⟨rfl, hy⟩
    have hj : j < 2 := hj
    obtain ⟨u, g, f, v, rfl, hu, hg, fn, vb, on, gch⟩ := key2 j y hj hy
    obtain ⟨pp, cc⟩ := pj j (by omega)
    obtain ⟨dx, hp⟩ := id X20.ob
    rw [pp] at hp
    have hu20 := e20.tup _ _ hu
    have hg20 := e20.keep _ _ gch hg
    walk_at "go"
    refine ⟨u, _, rfl, .of hu20, rfl, _, _, rfl, ?_⟩
    walk_at "go"
    refine ⟨_, _, rfl, ?_⟩
    walk_at "go"
    refine ⟨rfl, ?_⟩
    have nb : badW f [v].length (oj j).cells.length = none := by
     have a1 : [v].length = 1 := rfl
     unfold badW
     rw [S20.len, a1, if_neg (by omega), if_neg (by omega)]
    walk_at "go"
    refine ⟨oj j, f, g, [v], by rw [pp], X20, S20.ok, fun c hc => by have := S20.few c hc; omega, .inl (.of hg20), Nat.le_refl _, (by show 1 ≤ 30; decide), fun y hy => by rw [List.mem_singleton.mp hy]; exact vb, by omega, by omega, fun y dd' H' e => (by rw [nb] at e; cases e), fun _ H22 e22 X22 O22 => ?_⟩
    have S22 := S20.wrote (a := f) (ws := [v]) (by show f + 1 ≤ n; omega) (fun y hy => by rw [List.mem_singleton.mp hy]; exact vb) O22
    rw [← on] at X22 S22
    have e22 : Vc.Ed o.ch H20 H22 := by rw [← cc]; exact e22
    walk_at "go"
    exact ⟨_, _, rfl, e20.trans e22 fun _ z => .inl z, X22, by rw [show 1 + (j + 1) = 1 + j + 1 by omega]; exact S22⟩
   ·rintro σ H20 ⟨y11, y12, rfl, e20, X20, S20⟩
    have X20 : (oj 2).At A H20 := X20
    have S20 : SgU W n 3 (oj 2) := S20
    have Lch : L ∉ o.ch := fun z => by have := ch14 _ z; rw [hL14] at this; cases this
    have hL20 := e20.keep _ _ Lch (e1419.at0 hL14)
    have C20 := (C14.ed0 e1419).keep e20 fun a ha z => C14.known a ha (ch14 a z)
    walk_at "go"
    refine ⟨oj 2, x, W, n, 3, by rw [(pj 2 (Nat.le_refl _)).1], X20, S20, by omega, C20, xo, w1, n24, l4, fun R ws rows H22 e22 nR hR nws hW EV => ?_⟩
    have hL22 := e22.at0 hL20
    have RL : R ≠ L := fun z => by rw [z, hL20] at nR; cases nR
    have wL : ∀ v ∈ ws, v ≠ L := fun v hv z => by have := nws v hv; rw [z, hL20] at this; cases this
    rw [ocs2, et] at EV
    walk_at "go"
    generalize hu23 : upd _ L _ = H23
    obtain ⟨e23, hL23⟩ := Vc.chg hu23 hL22
    have e1422 : Vc.Ed [] H14 H22 := (e1419.trans e20 fun a z => .inr (ch14 a z)).ex e22
    refine ⟨_, _, _, _, rfl, (e14.ex e1422).trans e23 fun _ z => .inl z, us ++ [R], by rw [hL23, List.map_append]; rfl, by rw [List.length_append, ul]; rfl, fun j u hj => ?_⟩
    by_cases l : j < us.length
    ·rw [List.getElem?_append_left l] at hj
     obtain ⟨m1, ws', rows', m2, m3, m4, m5⟩ := hus j u hj
     exact ⟨m1, ws', rows', e23.at1 m1 (e1422.at0 m2), m3, (m4.ed0 e1422).ed e23 (fun v hv z => m3 v hv (List.mem_singleton.mp z)), m5⟩
    ·rw [List.getElem?_append_right (by omega)] at hj
     have : j - us.length = 0 := by
      have := (List.getElem?_eq_some_iff.mp hj).1
      have e : [R].length = 1 := rfl
      omega
     rw [this] at hj
     obtain rfl := Option.some.inj hj
     exact ⟨RL, ws, rows, e23.at1 RL hR, wL, hW.ed e23 (fun v hv z => wL v hv (List.mem_singleton.mp z)), EV⟩
  ·rintro σ H14 ⟨y9, y10, y11, y12, rfl, e14, us, hL14, ul, hus⟩
   obtain ⟨uA, hA⟩ : ∃ u, us[0]? = some u := ⟨_, List.getElem?_eq_getElem (by rw [ul]; show _ < 2; omega)⟩
   obtain ⟨uB, hB'⟩ : ∃ u, us[1]? = some u := ⟨_, List.getElem?_eq_getElem (by rw [ul]; show _ < 2; omega)⟩
   obtain ⟨_, wsA, rowsA, a1, a2, a3, a4⟩ := hus 0 uA hA
   obtain ⟨_, wsB, rowsB, b1, b2, b3, b4⟩ := hus 1 uB hB'
   have i0 : atI (us.map V.ref) 0 = some (.ref uA) := at_of (j := 0) (by omega) (by rw [List.getElem?_map, hA]; rfl)
   have i1 : atI (us.map V.ref) 1 = some (.ref uB) := at_of (j := 1) (by omega) (by rw [List.getElem?_map, hB']; rfl)
   walk_at "go"
   refine go_eqLL a1 a3 b1 b3 (a4.uniq b4) ?_
   exact k H14 (e013.trans e14 fun y z => .inr (by rw [List.mem_singleton.mp z]; exact nL0)) (hB13.ed e14 (fun z => bL (List.mem_singleton.mp z)) fun z => cL (List.mem_singleton.mp z))
end
end My
namespace My
open PySem PySem.Spec PyProof.Rows L2
def uU (m k : Nat) : Nat := if k = 0 then 1 else if k = 1 then m else 8
structure W33 (A : Ad) (H : Hp) (b c : Addr) (np : Nat) (x : CodeO) (f : Addr) (its : List (FD × Addr)) (cl : Addr) (cells : List Int) (ut : Addr) (m : Nat) (sl : Addr) (os : Nat → SightO) : Prop where
 pen : Pen H b c np
 X : x.At A H
 F : FTups H f its
 C : H cl = some (.lst (cells.map V.int))
 U : H ut = some (.tup [.int 1, .int m, .int 8])
 L : H sl = some (.lst ((List.range 3).map fun k => V.ref (os k).p))
 S : ∀ k, k < 3 → (os k).At A H
 sep : ∀ k, k < 3 → ∀ a ∈ (os k).own, a ≠ b ∧ a ≠ c ∧ a ∉ x.own ∧ a ≠ f ∧ a ≠ cl ∧ a ≠ sl
 dj : ∀ i j, i < 3 → j < 3 → i ≠ j → ∀ a ∈ (os i).own, a ∉ (os j).own
 xb : b ∉ x.own ∧ cl ≠ b ∧ sl ≠ b
section
variable {A : Ad} {H H' : Hp} {b c : Addr} {np : Nat} {x : CodeO} {f : Addr} {its : List (FD × Addr)} {cl : Addr} {cells : List Int} {ut : Addr} {m : Nat} {sl : Addr} {os : Nat → SightO}
theorem W33.edb {np' : Nat} (h : W33 A H b c np x f its cl cells ut m sl os) (e : Vc.Ed [b] H H') (p : Pen H' b c np') : W33 A H' b c np' x f its cl cells ut m sl os :=
 ⟨p, h.X.keep e (fun a ha z => h.xb.1 (by rw [← List.mem_singleton.mp z]; exact ha)), FTups.pen e h.pen h.F, e.at1 h.xb.2.1 h.C, e.tup _ _ h.U, e.at1 h.xb.2.2 h.L, fun k hk => (h.S k hk).edx (.of e) (fun a ha z => (h.sep k hk a ha).1 (List.mem_singleton.mp z)), h.sep, h.dj, h.xb⟩
theorem W33.ed0 (h : W33 A H b c np x f its cl cells ut m sl os) (e : Vc.Ed [] H H') : W33 A H' b c np x f its cl cells ut m sl os := h.edb (e.mono fun _ z => nomatch z) (h.pen.ed0 e)
theorem W33.up {np' : Nat} (h : W33 A H b c np x f its cl cells ut m sl os) (l : np ≤ np') : W33 A H b c np' x f its cl cells ut m sl os := { h with pen := h.pen.up l }
theorem W33.new (h : W33 A H b c np x f its cl cells ut m sl os) {a : Addr} (na : H a = none) : a ≠ b ∧ a ≠ c ∧ a ∉ x.own ∧ a ≠ f ∧ a ≠ cl ∧ a ≠ sl :=
 ⟨fun z => (h.pen.fb na).1 z.symm, fun z => (h.pen.fb na).2 z.symm, fun z => h.X.known a z na, fun z => (by have := h.F.ob; rw [← z, na] at this; cases this), fun z => (by have := h.C; rw [← z, na] at this; cases this), fun z => (by have := h.L; rw [← z, na] at this; cases this)⟩
theorem W33.newo (h : W33 A H b c np x f its cl cells ut m sl os) {a : Addr} (na : H a = none) {k : Nat} (hk : k < 3) : a ∉ (os k).own := fun z => by
 obtain ⟨u, hu⟩ := (h.S k hk).dom a z
 rw [na] at hu; cases hu
theorem W33.put {S : List Addr} {k : Nat} {o' : SightO} (h : W33 A H b c np x f its cl cells ut m sl os) (k3 : k < 3) (e : Vc.Ed S H H') (hS : ∀ a ∈ S, a ∈ (os k).own) (X' : o'.At A H') (p' : o'.p = (os k).p) (own' : ∀ a ∈ o'.own, a ∈ (os k).own ∨ H a = none) : W33 A H' b c np x f its cl cells ut m sl (fun j => if j = k then o' else os j) := by
 have sp : ∀ a ∈ S, a ≠ b ∧ a ≠ c ∧ a ∉ x.own ∧ a ≠ f ∧ a ≠ cl ∧ a ≠ sl := fun a z => h.sep k k3 a (hS a z)
 refine ⟨h.pen.ed e (fun z => (sp b z).1 rfl) (fun z => (sp c z).2.1 rfl), h.X.keep e (fun a ha z => (sp a z).2.2.1 ha), h.F.ed e (fun z => (sp f z).2.2.2.1 rfl), e.keep _ _ (fun z => (sp cl z).2.2.2.2.1 rfl) h.C, e.tup _ _ h.U, ?_, fun j hj => ?_, fun j hj a ha => ?_, fun i j hi hj ij a ha hb => ?_, h.xb⟩
 ·rw [e.keep _ _ (fun z => (sp sl z).2.2.2.2.2 rfl) h.L]
  congr 2
  refine List.map_congr_left fun j _ => ?_
  by_cases q : j = k
  ·rw [if_pos q, p', q]
  ·rw [if_neg q]
 ·by_cases q : j = k
  ·rw [if_pos q]; exact X'
  ·rw [if_neg q]
   exact (h.S j hj).edx (.of e) fun a ha z => h.dj j k hj k3 q a ha (hS a z)
 ·by_cases q : j = k
  ·rw [if_pos q] at ha
   exact (own' a ha).elim (h.sep k k3 a) h.new
  ·rw [if_neg q] at ha
   exact h.sep j hj a ha
 ·by_cases q : i = k
  ·rw [if_pos q] at ha
   rw [if_neg (fun z => ij (q.trans z.symm))] at hb
   exact (own' a ha).elim (fun z => h.dj k j k3 hj (fun z => ij (q.trans z)) a z hb) fun z => h.newo z hj hb
  ·rw [if_neg q] at ha
   by_cases r : j = k
   ·rw [if_pos r] at hb
    exact (own' a hb).elim (fun z => h.dj i k hi k3 q a ha z) fun z => h.newo z hi ha
   ·rw [if_neg r] at hb
    exact h.dj i j hi hj ij a ha hb
end
theorem SightO.ch_own {o : SightO} {a : Addr} (ha : a ∈ o.ch) : a ∈ o.own := by
 unfold SightO.ch at ha
 unfold SightO.own
 rcases List.mem_cons.mp ha with rfl | ha
 ·simp
 ·simp [ha]
theorem lt3 {k : Nat} (h : k < 3) : k = 0 ∨ k = 1 ∨ k = 2 := by omega
theorem uU_b {m k : Nat} (hm : m = 2 ∨ m = 4) : 1 ≤ uU m k ∧ uU m k ≤ 8 := by
 unfold uU; split
 ·omega
 ·split <;> omega
theorem uU_mem {m k : Nat} (hm : m = 2 ∨ m = 4) : ((uU m k : Nat) : Int) ∈ UNS := by
 unfold uU; split
 ·decide
 ·split
  ·rcases hm with rfl | rfl <;> decide
  ·decide
theorem uU_at {m k : Nat} (h : k < 3) : atI [V.int 1, .int m, .int 8] (k : Int) = some (.int (uU m k)) := by
 rcases lt3 h with rfl | rfl | rfl <;> rfl
theorem range3 {α : Type} {g : Nat → α} {k : Nat} (h : k < 3) : ((List.range 3).map g)[k]? = some (g k) := by
 rcases lt3 h with rfl | rfl | rfl <;> rfl
structure Sub3 (m n : Nat) (os : Nat → SightO) : Prop where
 a : SubU 1 m n (os 0).cs (os 1).cs
 b : SubU m (8 / m) n (os 1).cs (os 2).cs
theorem Sub3.one {m n : Nat} {os : Nat → SightO} {v : List Int} (hm : m = 2 ∨ m = 4) (l : v.length = n) (h : ∀ k, k < 3 → (os k).cs = (unitsOf (uU m k) v).map fun c => [c]) : Sub3 m n os := by
 have h0 := h 0 (by decide)
 have h1 := h 1 (by decide)
 have h2 := h 2 (by decide)
 rw [← l]
 refine ⟨?_, ?_⟩
 ·rw [h0, h1]
  have := SubU.one (W := 1) (m := m) (cells := v) (by decide) (by omega)
  rw [Nat.mul_one] at this
  exact this
 ·rw [h1, h2]
  have := SubU.one (W := m) (m := 8 / m) (cells := v) (by omega) (by rcases hm with rfl | rfl <;> decide)
  rw [show 8 / m * m = 8 by rcases hm with rfl | rfl <;> rfl] at this
  exact this
theorem Sub3.add {m n : Nat} {os os' : Nat → SightO} {v : List Int} (hm : m = 2 ∨ m = 4) (l : v.length = n) (ml : ∀ k, k < 3 → (os k).cs.length = manyU (uU m k) v.length) (h : ∀ k, k < 3 → (os' k).cs = addC (os k).cs (unitsOf (uU m k) v)) (s : Sub3 m n os) : Sub3 m n os' := by
 have h0 := h 0 (by decide)
 have h1 := h 1 (by decide)
 have h2 := h 2 (by decide)
 have m0 := ml 0 (by decide)
 have m1 := ml 1 (by decide)
 have m2 := ml 2 (by decide)
 obtain ⟨sa, sb⟩ := s
 rw [← l] at sa sb ⊢
 refine ⟨?_, ?_⟩
 ·rw [h0, h1]
  have := SubU.add (W := 1) (m := m) (cells := v) (by decide) (by omega) m0 (by rw [Nat.mul_one]; exact m1) sa
  rw [Nat.mul_one] at this
  exact this
 ·rw [h1, h2]
  have e8 : 8 / m * m = 8 := by rcases hm with rfl | rfl <;> rfl
  have := SubU.add (W := m) (m := 8 / m) (cells := v) (by omega) (by rcases hm with rfl | rfl <;> decide) m1 (by rw [e8]; exact m2) sb
  rw [e8] at this
  exact this
theorem Sub3.fets {m n p bb : Nat} {os : Nat → SightO} {fs : List FD} (hm : m = 2 ∨ m = 4) (s : Sub3 m n os) (l1 : ∀ f ∈ fs, 1 ≤ f.len) (l4 : ∀ f ∈ fs, f.len ≤ 4) (G : ∀ k, k < 3 → SgU (uU m k) n bb (os k)) (pn : p < n) {r : Nat → List (List Int)} (h : ∀ k, k < 3 → IsSort (r k) (fetD fs (os k).cs (uU m k) n p)) : (∀ t ∈ r 2, t ∈ r 1) ∧ ∀ t ∈ r 1, t ∈ r 0 := by
 have h0 := h 0 (by decide)
 have h1 := h 1 (by decide)
 have h2 := h 2 (by decide)
 have g0 := (G 0 (by decide)).shp
 have g1 := (G 1 (by decide)).shp
 have g2 := (G 2 (by decide)).shp
 have e8 : 8 / m * m = 8 := by rcases hm with rfl | rfl <;> rfl
 refine ⟨fun t ht => (h1.mem t).mpr ?_, fun t ht => (h0.mem t).mpr ?_⟩
 ·refine fetD_sub (W := m) (m := 8 / m) l1 l4 (by omega) (by rcases hm with rfl | rfl <;> decide) g1 (by rw [e8]; exact g2) s.b pn t ?_
  rw [e8]
  exact (h2.mem t).mp ht
 ·refine fetD_sub (W := 1) (m := m) l1 l4 (by decide) (by omega) g0 (by rw [Nat.mul_one]; exact g1) s.a pn t ?_
  rw [Nat.mul_one]
  exact (h1.mem t).mp ht
def spLaw (K : PySem.W.Frag) : Sp := fun vs H Q _ => ∃ (a : Addr) (ns : List Int), vs = [.ref a] ∧ SqL K H a (ns.map V.int) ∧ ns.length ≤ 63 ∧ ∀ H', Q (.bl true) H'
section
variable {w : World} {K : PySem.W.Frag} {mg : Str → Option Value} {base : Heap} {A : Ad}
theorem ok_law (T : Txt K mg A) : FnOk PG w K mg base CX0 20 A.f_law A.d_law ["_law_script"] (spLaw K) := by
 have G__law_pen := ok__law_pen (P := PG) (w := w) (base := base) T
 have G__law_draw := ok__law_draw (P := PG) (w := w) (base := base) T
 have G__law_pick := ok__law_pick (P := PG) (w := w) (base := base) T
 have G__law_forms := ok__law_forms (P := PG) (w := w) (base := base) T
 have G__law_codes := ok__law_codes (P := PG) (w := w) (base := base) T
 have G__law_byte := ok__law_byte (P := PG) (w := w) (base := base) T
 have G_Layoutu_initu := ok_Layoutu_initu (w := w) (base := base) T
 have G_Sightu_initu := ok_Sightu_initu (w := w) (base := base) T
 have G_Sight_sync := ok_Sight_sync (w := w) (base := base) T
 have G_Sight_present := ok_Sight_present (P := PG) (w := w) (base := base) T
 have G__law_one_each := ok__law_one_each (w := w) (base := base) T
 have G__law_deed := ok__law_deed (P := PG) (w := w) (base := base) T
 have G__law_write_right := ok__law_write_right (w := w) (base := base) T
 have G__law_every := ok__law_every (w := w) (base := base) T
 have G__law_missing := ok__law_missing (P := PG) (w := w) (base := base) T
 have G__law_within := ok__law_within (w := w) (base := base) T
 have G__law_turned := ok__law_turned (w := w) (base := base) T
 refine T.F_law.ok sc_law (fun vs H Q E h => ?_) (fun cdv Ar outer s H vs Q E hr h => ?_)
 ·obtain ⟨a, ns, rfl, _⟩ := h
  rfl
 ·obtain ⟨a, ns, rfl, hS, hl, k⟩ := h
  have hu := hu_of hr
  have cS := T.cl_Sight
  refine ⟨_, (pss_cons (ps_set (i := 1) sc_law.nd rfl (Or.inr rfl) (pe_call G__law_pen (by exact hr.mono (by decide)) (by rfl) T.g__law_pen T.F__law_pen.kp T.b__law_pen .nil pass0 (pa_cons (pv 0) pa_nil))) (pss_cons (ps_asg (pe_call G__law_forms (by exact hr.mono (by decide)) (by rfl) T.g__law_forms T.F__law_forms.kp T.b__law_forms .nil pass0 (pa_cons (pv 1) pa_nil)) (pg_tup rfl (pgs_cons (pg_name (i := 2) sc_law.nd rfl (Or.inr rfl)) (pgs_cons (pg_name (i := 3) sc_law.nd rfl (Or.inr rfl)) pgs_nil)))) (pss_cons (ps_set (i := 4) sc_law.nd rfl (Or.inr rfl) (pe_call G__law_codes (by exact hr.mono (by decide)) (by rfl) T.g__law_codes T.F__law_codes.kp T.b__law_codes .nil pass0 (pa_cons (pv 2) (pa_cons (pv 3) pa_nil)))) (pss_cons (ps_set (i := 5) sc_law.nd rfl (Or.inr rfl) (pe_op op_add pe_int (pe_call G__law_draw (by exact hr.mono (by decide)) (by rfl) T.g__law_draw T.F__law_draw.kp T.b__law_draw .nil pass0 (pa_cons (pv 1) (pa_cons pe_int pa_nil))))) (pss_cons (ps_set (i := 6) sc_law.nd rfl (Or.inr rfl) (pe_lc (own := [("_law_k", 13)]) (g := gName 13) rfl sc_law.nd (pi_range1 (by rfl) T.n_range (pa_cons (pv 5) pa_nil)) (blkOk_by (own := [("_law_k", 13)]) (N := ["_law_script", "_law_pen_here", "_law_stop", "_law_forms_here", "_law_codes_here", "_law_size", "_law_cells", "_law_units", "_law_sights", "_law_used", "_law_turn", "_law_sight", "_law_deed_here", "_law_k", "_law_shown", "_law_place", "_law_unit"]) (sc := defScope s_law) (by decide +kernel)) (fun _ _ _ _ _ => by exact (pg_name (i := 13) sc_law.nd rfl (Or.inl rfl))) (fun _ _ _ _ _ => by exact pts_nil) (fun _ _ _ _ _ => by (refine' Vc.blkE ?h ?q; (case h => exact (pe_call G__law_byte (by exact hr.mono (by decide)) (by rfl) T.g__law_byte T.F__law_byte.kp T.b__law_byte .nil pass0 (pa_cons (pv 1) (pa_cons (pv 2) (pa_cons (pv 3) pa_nil))))); (case q => first | exact rfl | (dsimp only; done) | (dsimp only; exact rfl)))))) (pss_cons (ps_set (i := 7) sc_law.nd rfl (Or.inl rfl) (pe_tup (pa_cons pe_int (pa_cons (pe_call G__law_pick (by exact hr.mono (by decide)) (by rfl) T.g__law_pick T.F__law_pick.kp T.b__law_pick .nil pass0 (pa_cons (pv 1) (pa_cons (pe_lst (pa_cons pe_int (pa_cons pe_int pa_nil))) pa_nil))) (pa_cons pe_int pa_nil))))) (pss_cons (ps_setLc (i := 8) (own := [("_law_unit", 16)]) (g := gName 16) rfl sc_law.nd rfl rfl (sw_true rfl rfl rfl (by decide +kernel)) (pi_tup (pv 7)) (blkOk_by (own := [("_law_unit", 16)]) (N := ["_law_script", "_law_pen_here", "_law_stop", "_law_forms_here", "_law_codes_here", "_law_size", "_law_cells", "_law_units", "_law_sights", "_law_used", "_law_turn", "_law_sight", "_law_deed_here", "_law_k", "_law_shown", "_law_place", "_law_unit"]) (sc := defScope s_law) (by decide +kernel)) (fun _ _ _ _ _ => by exact (pg_name (i := 16) sc_law.nd rfl (Or.inl rfl))) (fun _ _ _ _ _ => by exact pts_nil) (fun _ _ _ _ _ => by (refine' Vc.blkE ?h ?q; (case h => exact (pe_make T.mk_Sight G_Sightu_initu (by exact hr.mono (by decide)) (by rfl) T.g_Sight T.b_Sightu_initu .nil pass0 (pa_cons (pe_make T.mk_Layout G_Layoutu_initu (by exact hr.mono (by decide)) (by rfl) T.g_Layout T.b_Layoutu_initu .nil passL (pa_cons (pv 16) (pa_cons pe_int pa_nil))) (pa_cons (pv 6) pa_nil)))); (case q => first | exact rfl | (dsimp only; done) | (dsimp only; exact rfl))))) (pss_cons (ps_set (i := 9) sc_law.nd rfl (Or.inl rfl) pe_int) (pss_cons (ps_for PassesOwn.never rfl (pi_range1 (by rfl) T.n_range (pa_cons (pe_op op_add pe_int (pe_call G__law_draw (by exact hr.mono (by decide)) (by rfl) T.g__law_draw T.F__law_draw.kp T.b__law_draw .nil pass0 (pa_cons (pv 1) (pa_cons pe_int pa_nil)))) pa_nil)) (pg_name (i := 10) sc_law.nd rfl (Or.inl rfl)) (Evl.pss_cut (ps_if (PW.pt (pw_or (pt_cmpR op_eq (pv 9) pe_int (nomark _)) (pw_or1 (pt_cmpR op_eq (pe_call G__law_draw (by exact hr.mono (by decide)) (by rfl) T.g__law_draw T.F__law_draw.kp T.b__law_draw .nil pass0 (pa_cons (pv 1) (pa_cons pe_int pa_nil))) pe_int (nomark _))))) (pss_cons (ps_set (i := 9) sc_law.nd rfl (Or.inl rfl) pe_int) (pss_one (ps_for PassesOwn.never rfl (pi_list (pv 8)) (pg_name (i := 11) sc_law.nd rfl (Or.inl rfl)) (pss_cons (ps_expr (pe_meth0 (pv 11) T.cl_Sight T.m_Sight_sync G_Sight_sync (by exact hr.mono (by decide)) T.b_Sight_sync .nil pass0)) (pss_one (ps_if (pt_not (pt_val (pe_call G__law_one_each (by exact hr.mono (by decide)) (by rfl) T.g__law_one_each T.F__law_one_each.kp T.b__law_one_each .nil pass0 (pa_cons (pv 11) (pa_cons (pv 4) (pa_cons (pv 3) (pa_cons (pv 5) pa_nil))))))) (pss_one (ps_ret pe_bl)) pss_nil)))))) (pss_cons (ps_set (i := 9) sc_law.nd rfl (Or.inl rfl) (pe_op op_add (pv 9) pe_int)) (pss_cons (ps_set (i := 12) sc_law.nd rfl (Or.inl rfl) (pe_call G__law_deed (by exact hr.mono (by decide)) (by rfl) T.g__law_deed T.F__law_deed.kp T.b__law_deed .nil pass0 (pa_cons (pv 1) (pa_cons (pv 5) (pa_cons (pv 2) (pa_cons (pv 3) (pa_cons (pe_prop (pe_ix ix_list (pv 8) pe_int (fun _ _ => rfl)) T.cl_Sight T.p_Sight_present G_Sight_present (by exact hr.mono (by decide)) T.b_Sight_present .nil pass0 (by rfl)) pa_nil))))))) (pss_one (ps_for PassesOwn.never rfl (pi_range1 (by rfl) T.n_range (pa_cons pe_int pa_nil)) (pg_name (i := 13) sc_law.nd rfl (Or.inl rfl)) (pss_one (ps_if (pt_not (pt_val (pe_call G__law_write_right (by exact hr.mono (by decide)) (by rfl) T.g__law_write_right T.F__law_write_right.kp T.b__law_write_right .nil pass0 (pa_cons (pe_ix ix_list (pv 8) (pv 13) (fun _ _ => rfl)) (pa_cons (pv 4) (pa_cons (pv 5) (pa_cons (pe_ix ix_tup (pv 7) (pv 13) (fun _ _ => rfl)) (pa_cons (pv 12) pa_nil)))))))) (pss_one (ps_ret pe_bl)) pss_nil))))))) (pss_cons (ps_setLc (i := 14) (own := [("_law_sight", 11)]) (g := gName 11) rfl sc_law.nd rfl rfl (sw_true rfl rfl rfl (by decide +kernel)) (pi_list (pv 8)) (blkOk_by (own := [("_law_sight", 11)]) (N := ["_law_script", "_law_pen_here", "_law_stop", "_law_forms_here", "_law_codes_here", "_law_size", "_law_cells", "_law_units", "_law_sights", "_law_used", "_law_turn", "_law_sight", "_law_deed_here", "_law_k", "_law_shown", "_law_place", "_law_unit"]) (sc := defScope s_law) (by decide +kernel)) (fun _ _ _ _ _ => by exact (pg_name (i := 11) sc_law.nd rfl (Or.inl rfl))) (fun _ _ _ _ _ => by exact pts_nil) (fun _ _ _ _ _ => by (refine' Vc.blkE ?h ?q; (case h => exact (pe_call G__law_every (by exact hr.mono (by decide)) (by rfl) T.g__law_every T.F__law_every.kp T.b__law_every .nil pass0 (pa_cons (pv 11) (pa_cons (pv 4) (pa_cons (pv 5) pa_nil))))); (case q => first | exact rfl | (dsimp only; done) | (dsimp only; exact rfl))))) (pss_cons (ps_for PassesOwn.never rfl (pi_range1 (by rfl) T.n_range (pa_cons (pv 5) pa_nil)) (pg_name (i := 15) sc_law.nd rfl (Or.inl rfl)) (pss_one (ps_if (PW.pt (pw_or (pt_val (pe_call G__law_missing (by exact hr.mono (by decide)) (by rfl) T.g__law_missing T.F__law_missing.kp T.b__law_missing .nil pass0 (pa_cons (pe_ix ix_list (pe_ix ix_list (pv 14) pe_int (fun _ _ => rfl)) (pv 15) (fun _ _ => rfl)) (pa_cons (pe_ix ix_list (pe_ix ix_list (pv 14) pe_int (fun _ _ => rfl)) (pv 15) (fun _ _ => rfl)) pa_nil)))) (pw_or1 (pt_val (pe_call G__law_missing (by exact hr.mono (by decide)) (by rfl) T.g__law_missing T.F__law_missing.kp T.b__law_missing .nil pass0 (pa_cons (pe_ix ix_list (pe_ix ix_list (pv 14) pe_int (fun _ _ => rfl)) (pv 15) (fun _ _ => rfl)) (pa_cons (pe_ix ix_list (pe_ix ix_list (pv 14) pe_int (fun _ _ => rfl)) (pv 15) (fun _ _ => rfl)) pa_nil))))))) (pss_one (ps_ret pe_bl)) pss_nil))) (pss_one (ps_if (pt_not (pt_val (pe_call G__law_within (by exact hr.mono (by decide)) (by rfl) T.g__law_within T.F__law_within.kp T.b__law_within .nil pass0 (pa_cons (pe_ix ix_list (pv 8) pe_int (fun _ _ => rfl)) (pa_cons (pv 4) (pa_cons (pv 5) (pa_cons (pe_ix ix_tup (pv 7) pe_int (fun _ _ => rfl)) pa_nil))))))) (pss_one (ps_ret pe_bl)) pss_nil)))))) (pss_one (ps_ret (pe_and (pe_call G__law_turned (by exact hr.mono (by decide)) (by rfl) T.g__law_turned T.F__law_turned.kp T.b__law_turned .nil pass0 (pa_cons (pv 1) (pa_cons (pv 4) (pa_cons (pv 6) (pa_cons (pe_ix ix_tup (pv 7) pe_int (fun _ _ => rfl)) pa_nil))))) (pe_one (pe_call G__law_turned (by exact hr.mono (by decide)) (by rfl) T.g__law_turned T.F__law_turned.kp T.b__law_turned .nil pass0 (pa_cons (pv 1) (pa_cons (pv 4) (pa_cons (pv 6) (pa_cons pe_int pa_nil)))))))))))))))))), ?_⟩
  walk_at "go"
  refine ⟨a, ns, rfl, hS, hl, fun b c H1 e1 hB1 nb nc => ?_⟩
  have lim : LIM = 1000000 := rfl
  clear hS e1
  walk_at "go"
  refine ⟨b, c, _, rfl, hB1, by omega, fun t0 f its stop H2 e2 hB2 nf ht0 FT2 i2 Va _ => ?_⟩
  walk_at "go"
  refine ⟨t0, _, rfl, .of ht0, rfl, _, _, rfl, ?_⟩
  walk_at "go"
  refine ⟨_, _, rfl, ?_⟩
  walk_at "go"
  refine ⟨rfl, ?_⟩
  walk_at "go"
  refine ⟨f, stop, its, rfl, FT2, Va, fun x H3 e3 xs pm ok C3 => ?_⟩
  have hB3 := hB2.ed0 e3
  have FT3 := FT2.ed0 e3
  have l4 : ∀ f ∈ x.fs, f.len ≤ 4 := fun f hf => (Va.ok f (pm.mem_iff.mp hf)).l4
  have l1 : ∀ f ∈ x.fs, 1 ≤ f.len := fun f hf => (Va.ok f (pm.mem_iff.mp hf)).l1
  clear e2 hB1 hB2 e3 FT2 ht0
  walk_at "go"
  refine ⟨b, c, _, 12, rfl, hB3, by omega, by omega, by omega, fun x1 H4 x10 x11 e4 hB4 => ?_⟩
  obtain ⟨n, hn⟩ : ∃ n : Nat, 1 + x1 = n := ⟨(1 + x1).toNat, by omega⟩
  have C4 := C3.keep e4 fun a ha z => pen_code hB3 C3 ok (by rw [← List.mem_singleton.mp z]; exact ha)
  have FT4 := FTups.pen e4 hB3 FT3
  walk_at "go"
  rw [hn]
  clear e4 hB3 C3 FT3
  refine ⟨by omega, by omega, Vc.lc_by walk_range (fun D i H' => Vc.Ed [b] H4 H' ∧ H4 D = none ∧ Pen H' b c (100 + 10 * i) ∧ ∃ ws : List Int, ws.length = i ∧ H' D = some (.lst (ws.map V.int)) ∧ ∀ v ∈ ws, 0 ≤ v ∧ v ≤ 255) (fun D H' nD e9 hD => ⟨e9.mono (fun _ z => by cases z), nD, (hB4.ed0 e9).up (by omega), [], rfl, hD, fun _ z => by cases z⟩) (fun _ _ _ _ _ _ => trivial) ?_ ?_⟩
  ·rintro D i y H9 H10 nD hi ⟨e9, nD8, hB9, ws, wl, hD, wb⟩ ⟨rfl, hy⟩
   walk_at "go"
   refine ⟨rfl, ?_⟩
   walk_at "go"
   have hi : i < n := by simpa using hi
   have nDb := (hB4.fb nD).1.symm
   refine ⟨b, c, f, _, stop, its, rfl, hB9, by omega, FTups.pen e9 hB4 FT4, Va, fun v H11 v0 v1 e11 hB11 => ?_⟩
   have hD11 := e11.at1 nDb hD
   refine ⟨_, hD11, by rw [List.length_map, wl]; exact small1000 (by omega), ?_⟩
   generalize hu12 : upd _ D _ = H12
   obtain ⟨e12, hD12⟩ := Vc.chg hu12 hD11
   refine ⟨(e9.trans e11 fun a z => .inl z).one e12 (.inr nD), nD8, (hB11.ed1 e12 nDb.symm (hB4.fb nD).2).up (by omega), ws ++ [v], by rw [List.length_append, wl]; rfl, by rw [hD12, List.map_append]; rfl, fun u hu_ => ?_⟩
   rcases List.mem_append.mp hu_ with h | h
   ·exact wb u h
   ·rw [List.mem_singleton.mp h]; exact ⟨v0, v1⟩
  rintro cl H9 nD8 ⟨e9, _, hB9, cells, vl, hD, vb⟩
  have vl : cells.length = n := by simpa using vl
  have hB9 : Pen H9 b c 300 := hB9.up (by simp only [Int.toNat_natCast]; omega)
  have C9 := C4.keep e9 fun a ha z => pen_code hB4 C4 ok (by rw [← List.mem_singleton.mp z]; exact ha)
  have FT9 := FTups.pen e9 hB4 FT4
  have Db := (hB4.fb nD8).1.symm
  clear e9 hB4 C4 FT4 nD8
  walk_at "go"
  intro l10 nl10
  generalize hu10 : upd _ l10 _ = H10
  obtain ⟨e10, hl10⟩ := Vc.alloc hu10 nl10
  have hl10 : H10 l10 = some (.lst (([2, 4] : List Int).map V.int)) := hl10
  walk_at "go"
  refine .inl ⟨b, c, l10, _, _, rfl, hB9.ed0 e10, by omega, hl10, (hB9.fb nl10).1.symm, (by show 1 ≤ 2; omega), (by show 2 ≤ 1000; omega), fun j v H11 hv e11 hB11 => ?_⟩
  rw [List.getElem?_map] at hv
  obtain ⟨mi, hmi, rfl⟩ := Option.map_eq_some_iff.mp hv
  obtain ⟨m, hm, rfl⟩ : ∃ m : Nat, (m = 2 ∨ m = 4) ∧ mi = m := by
   have := List.mem_of_getElem? hmi
   simp only [List.mem_cons, List.not_mem_nil, or_false] at this
   exact ⟨mi.toNat, by omega, by omega⟩
  have e911 : Vc.Ed [b] H9 H11 := (e10.mono (fun _ z => by cases z)).trans e11 fun a z => .inl z
  have C11 := C9.keep e911 fun a ha z => pen_code hB9 C9 ok (by rw [← List.mem_singleton.mp z]; exact ha)
  have FT11 := FTups.pen e911 hB9 FT9
  have hD11 := e911.at1 Db hD
  clear e10 e11 e911 hB9 C9 FT9 hl10 hu10 nl10 hv hD hmi
  walk_at "go"
  intro ut nut
  generalize hu12 : upd _ ut _ = H12
  obtain ⟨e12, hut⟩ := Vc.alloc hu12 nut
  have hB12 := hB11.ed0 e12
  have C12 := CodeO.At.ed0 e12 C11
  have FT12 := FT11.ed0 e12
  have hD12 := e12.at0 hD11
  clear e12 hB11 C11 FT11 hD11 hu12 nut
  walk_at "go"
  refine ⟨⟨_, .of hut⟩, Vc.lc_by (walk_tup (xs := [V.int 1, .int m, .int 8])) (fun D i H' => Vc.Ed [] H12 H' ∧ ∃ os : Nat → SightO, H' D = some (.lst ((List.range i).map fun k => V.ref (os k).p)) ∧ (∀ k, k < i → (os k).At A H' ∧ SgU (uU m k) n 1 (os k) ∧ (os k).cells = cells ∧ (os k).cs = (unitsOf (uU m k) cells).map (fun c => [c]) ∧ ∀ a ∈ (os k).own, H12 a = none ∧ a ≠ D) ∧ ∀ i' j', i' < i → j' < i → i' ≠ j' → ∀ a ∈ (os i').own, a ∉ (os j').own) (fun D H' nD e hD => ⟨e, fun _ => ⟨D, D, D, D, [], 0, 0, [], []⟩, hD, (fun _ z => absurd z (Nat.not_lt_zero _)), fun _ _ z => absurd z (Nat.not_lt_zero _)⟩) (fun D i H' _ _ q => .of (q.1.tup _ _ hut)) ?_ ?_⟩
  ·rintro D i y H13 H14 nD hi ⟨e13, os, hD, hos, dj⟩ ⟨rfl, hy⟩
   have hi : i < 3 := hi
   obtain rfl : y = .int (uU m i) := by
    rcases lt3 hi with rfl | rfl | rfl <;> exact (Option.some.inj hy).symm
   have wu := uU_mem (k := i) hm
   have w8 := uU_b (k := i) hm
   have le : layErr (uU m i) 8 = none := by
    unfold layErr; rw [if_neg (fun z => z wu), if_neg (fun z => z.elim (fun z => z (by decide)) (fun z => by omega))]
   walk_at "go"
   refine ⟨rfl, ?_⟩
   walk_at "go"
   intro gl gx ngl ngx ne2
   generalize hu16 : upd _ gl _ = H16
   obtain ⟨e16, h16, _⟩ := Vc.allocI hu16 ngl ngx ne2
   refine ⟨gl, gx, uU m i, 8, rfl, h16, fun e z => (by rw [le] at z; cases z), fun _ H17 e17 L17 => ⟨rfl, ?_⟩⟩
   have e1417 : Vc.Ed [] H14 H17 := e16.one e17 (.inr ngl)
   clear e16 e17 hu16 h16
   walk_at "go"
   intro p px np1 npx ne3
   generalize hu18 : upd _ p _ = H18
   obtain ⟨e18, h18, _⟩ := Vc.allocI hu18 np1 npx ne3
   refine ⟨p, px, gl, cl, uU m i, 8, cells, rfl, h18, L17.ed0 e18, wu, by decide, by omega, .inl (.of ((e1417.ex e18).at0 (e13.at0 hD12))), by omega, by omega, vb, fun o H19 e19 op oW oc ocs own X19 O => ⟨rfl, ?_⟩⟩
   have e1719 : Vc.Ed [] H17 H19 := e18.one e19 (.inr np1)
   have e1419 := e1417.ex e1719
   have own17 : ∀ a ∈ o.own, H17 a = none := fun a ha => (own a ha).elim (fun z => by rw [z]; exact np1) fun z => e18.dom _ z
   have own14 : ∀ a ∈ o.own, H14 a = none := fun a ha => e1417.dom _ (own17 a ha)
   have SG := SgU.mk0 O oW (by rw [oc]) (by rw [ocs, oc])
   rw [vl] at SG
   clear e18 e19 h18 hu18 e1719 own17 own ngx npx ne2 ne3
   have hD19 := e1419.at0 hD
   walk_at "go"
   refine ⟨_, hD19, by rw [List.length_map, List.length_range]; exact small1000 (by omega), ?_⟩
   generalize hu20 : upd _ D _ = H20
   obtain ⟨e20, hD20⟩ := Vc.chg hu20 hD19
   have oD : ∀ a ∈ o.own, a ≠ D := fun a ha z => by have := own14 a ha; rw [z, hD] at this; cases this
   refine ⟨(e13.ex e1419).one e20 (.inr nD), fun j => if j = i then o else os j, ?_, fun j hj => ?_, fun i' j' hi' hj' ij a ha hb => ?_⟩
   ·rw [hD20, List.range_succ, List.map_append]
    congr 2
    have h1 : (List.range i).map (fun k => V.ref (if k = i then o else os k).p) = (List.range i).map fun k => V.ref (os k).p := List.map_congr_left fun j hj => by
     rw [if_neg (by have := List.mem_range.mp hj; omega)]
    rw [h1, List.map_cons, List.map_nil]
    dsimp only
    rw [if_pos rfl, op]
   ·dsimp only
    by_cases q : j = i
    ·rw [if_pos q, q]
     exact ⟨X19.edx (.of e20) fun a ha z => oD a ha (List.mem_singleton.mp z), SG, oc, ocs, fun a ha => ⟨e13.dom _ (own14 a ha), oD a ha⟩⟩
    ·rw [if_neg q]
     obtain ⟨z1, z2, z3, z4, z5⟩ := hos j (by omega)
     exact ⟨(z1.ed0 e1419).edx (.of e20) fun a ha z => (z5 a ha).2 (List.mem_singleton.mp z), z2, z3, z4, z5⟩
   ·have fresh : ∀ j, j < i → ∀ a ∈ (os j).own, a ∉ o.own := fun j hj a ha z => by
     obtain ⟨u, hu⟩ := (hos j hj).1.dom a ha
     have := own14 a z
     rw [hu] at this; cases this
    dsimp only at ha hb
    by_cases q : i' = i
    ·rw [if_pos q] at ha
     rw [if_neg (fun z => ij (q.trans z.symm))] at hb
     exact fresh j' (by omega) a hb ha
    ·rw [if_neg q] at ha
     by_cases r : j' = i
     ·rw [if_pos r] at hb
      exact fresh i' (by omega) a ha hb
     ·rw [if_neg r] at hb
      exact dj i' j' (by omega) (by omega) ij a ha hb
  rintro sl H13 nsl ⟨e13, os, hsl, hos, dj⟩
  have W0 : W33 A H13 b c 301 x f its cl cells ut m sl os := by
   have ns := nsl
   refine ⟨(hB12.ed0 e13).up (by omega), CodeO.At.ed0 e13 C12, FT12.ed0 e13, e13.at0 hD12, e13.tup _ _ hut, hsl, fun k hk => (hos k hk).1, fun k hk a ha => ?_, dj, ⟨pen_code hB12 C12 ok, Db, fun z => (hB12.fb nsl).1 z.symm⟩⟩
   obtain ⟨na, nD⟩ := (hos k hk).2.2.2.2 a ha
   exact ⟨fun z => (hB12.fb na).1 z.symm, fun z => (hB12.fb na).2 z.symm, fun z => C12.known a z na, fun z => (by have := FT12.ob; rw [← z, na] at this; cases this), fun z => (by rw [← z, na] at hD12; cases hD12), nD⟩
  have G0 : ∀ k, k < 3 → SgU (uU m k) n 1 (os k) := fun k hk => (hos k hk).2.1
  have cel0 : ∀ k, k < 3 → (os k).cells = cells := fun k hk => (hos k hk).2.2.1
  have sub0 : Sub3 m n os := Sub3.one hm vl fun k hk => (hos k hk).2.2.2.1
  clear hos dj hsl e13 hD12 hut FT12 C12 hB12 nsl
  walk_at "go"
  refine ⟨b, c, _, 6, rfl, W0.pen, by omega, by omega, by omega, fun x2 H14 x20 x21 e14 hB14 => ?_⟩
  have W1 := W0.edb e14 hB14
  clear W0 e14 hB14
  obtain ⟨tn, htn⟩ : ∃ tn : Nat, 3 + x2 = tn := ⟨(3 + x2).toNat, by omega⟩
  walk_at "go"
  rw [htn]
  refine ⟨by omega, by omega, for_it walk_range (fun t σ H' => ∃ (y10 y11 y12 y13 y14 y15 y16 : Option V) (used : Nat) (os : Nat → SightO) (v : List Int), σ = [some (.ref a), some (.ref b), some (.int stop), some (.ref f), some (.ref x.c), some (.int n), some (.ref cl), some (.ref ut), some (.ref sl), some (.int used), y10, y11, y12, y13, y14, y15, y16] ∧ W33 A H' b c (302 + 50 * t) x f its cl cells ut m sl os ∧ used ≤ 3 ∧ (∀ k, k < 3 → SgU (uU m k) n (used + 1) (os k)) ∧ (∀ k, k < 3 → (os k).cells = v) ∧ Sub3 m n os) ⟨_, _, _, _, _, _, _, 0, os, cells, rfl, W1, by omega, G0, cel0, sub0⟩ (fun _ _ _ _ _ => trivial) ?_ ?_⟩
  ·rintro t y σ H15 H16 ht ⟨y10, y11, y12, y13, y14, y15, y16, used, os, v, rfl, L16, u3, G16, ce16, sub16⟩ ⟨rfl, hy⟩
   have ht : t < tn := by simpa using ht
   walk_at "go"
   refine Evl.q_cut (M := fun σ' H' => ∃ (y10 y11 y12 y13 y14 y15 y16 : Option V) (used : Nat) (os : Nat → SightO) (v : List Int), σ' = [some (.ref a), some (.ref b), some (.int stop), some (.ref f), some (.ref x.c), some (.int n), some (.ref cl), some (.ref ut), some (.ref sl), some (.int used), y10, y11, y12, y13, y14, y15, y16] ∧ W33 A H' b c (302 + 50 * t + 50) x f its cl cells ut m sl os ∧ used ≤ 3 ∧ (∀ k, k < 3 → SgU (uU m k) n (used + 1) (os k)) ∧ (∀ k, k < 3 → (os k).cells = v) ∧ Sub3 m n os) ?_ ?_
   ·have LS := L16.up (np' := 302 + 50 * t + 1) (by omega)
    have vl' : v.length = n := by rw [← ce16 0 (by decide)]; exact (G16 0 (by decide)).len
    have n24 : 1 ≤ n ∧ n ≤ 24 := by omega
    walk_at "go"
    refine Vc.go_ite (c := (used : Int) = 3) (fun g1 => ?sa) (fun g1 => ?wa)
    rotate_left
    walk_at "go"
    refine ⟨b, c, _, 4, rfl, L16.pen, by omega, by omega, by omega, fun x3 H17 x30 x31 e17 hB17 => ?_⟩
    have LS := L16.edb e17 hB17
    clear L16
    walk_at "go"
    refine Vc.go_ite (c := x3 = 0) (fun g2 => ?sb) (fun g2 => ?wb)
    case wb =>
     have u2 : used ≤ 2 := by omega
     walk_at "go"
     have X0 := LS.S 0 (by decide)
     obtain ⟨dx, hp⟩ := id X0.ob
     have hL := LS.L
     walk_at "go"
     refine ⟨os 0, rfl, X0, (G16 0 (by decide)).ok, fun N H18 e18 nN hN => ?_⟩
     rw [ce16 0 (by decide)] at hN
     have L18 := LS.ed0 e18
     walk_at "go"
     refine ⟨b, c, f, N, _, its, stop, n, v, rfl, L18.pen, by omega, L18.F, Va, hN, (fun z => (LS.pen.fb nN).1 z.symm), vl', n24.1, n24.2, by rw [← ce16 0 (by decide)]; exact (G16 0 (by decide)).ok.b, fun dd g fa ws H19 e19 hB19 ng ndd hdd hg s1 s3 an wb => ?_⟩
     have L19 := L18.edb e19 hB19
     have gown : ∀ j, j < 3 → g ∉ (os j).own := fun j hj => L18.newo ng hj
     clear L18 LS e18 e19 hB19 X0 hp hL hN e17 hB17
     walk_at "go"
     refine ⟨by omega, by omega, for_it walk_range (fun k σ H' => ∃ y13 : Option V, σ = [some (.ref a), some (.ref b), some (.int stop), some (.ref f), some (.ref x.c), some (.int n), some (.ref cl), some (.ref ut), some (.ref sl), some (.int ((used : Int) + 1)), some y, y11, some (.ref dd), y13, y14, y15, y16] ∧ H' dd = some (.tup [.int fa, .ref g]) ∧ H' g = some (.lst (ws.map V.int)) ∧ W33 A H' b c (302 + 50 * t + 1 + 40) x f its cl cells ut m sl (fun j => if j < k then (os j).wrote fa ws else os j) ∧ ∀ j, j < 3 → j < k → SgU (uU m j) n (used + 1 + 1) ((os j).wrote fa ws)) ⟨_, rfl, hdd, hg, L19, fun j _ z => absurd z (Nat.not_lt_zero _)⟩ (fun _ _ _ _ _ => trivial) ?_ ?_⟩
     ·rintro k z σ H21 H20 hk ⟨y13, rfl, hdd, hg, LW, WG⟩ ⟨rfl, hz⟩
      obtain rfl : z = .int k := by rw [hz]; show V.int (0 + (k : Int)) = _; rw [Int.zero_add]
      have hk : k < 3 := hk
      obtain ⟨os', hos⟩ : ∃ os' : Nat → SightO, os' = fun j => if j < k then (os j).wrote fa ws else os j := ⟨_, rfl⟩
      rw [← hos] at LW
      have ek : os' k = os k := by rw [hos]; exact if_neg (Nat.lt_irrefl k)
      have hL := LW.L
      have hU := LW.U
      have X := LW.S k hk
      rw [ek] at X
      have a1 : atI ((List.range 3).map fun k => V.ref (os' k).p) (k : Int) = some (.ref (os k).p) := by rw [← ek]; exact at_of (j := k) (by omega) (range3 hk)
      have a2 := uU_at (m := m) hk
      walk_at "go"
      refine ⟨os k, x, uU m k, n, used + 1, fa, dd, g, ws, rfl, hdd, hg, fun z => gown k hk (SightO.ch_own z), s1, by omega, an, wb, X, G16 k hk, by omega, LW.X, ok, fun H1 H2 e X => X.keep e (fun a ha z => (LW.sep k hk a (by rw [ek]; exact SightO.ch_own z)).2.2.1 ha), (uU_b hm).1, (uU_b hm).2, n24.2, l1, l4, fun H22 e22 X22 S22 => ⟨true, rfl, ?_⟩⟩
      have LW2 := LW.put hk e22 (fun a z => by rw [ek]; exact SightO.ch_own z) X22 (by rw [ek]; rfl) fun a z => .inl (by rw [ek]; exact z)
      have fe : (fun j => if j = k then (os k).wrote fa ws else os' j) = fun j => if j < k + 1 then (os j).wrote fa ws else os j := funext fun j => by
       rw [hos]
       by_cases q : j = k
       ·rw [if_pos q, if_pos (by omega), q]
       ·rw [if_neg q]
        dsimp only
        by_cases r : j < k
        ·rw [if_pos r, if_pos (by omega)]
        ·rw [if_neg r, if_neg (by omega)]
      rw [fe] at LW2
      walk_at "go"
      exact ⟨_, rfl, e22.tup _ _ hdd, e22.keep _ _ (fun z => gown k hk (SightO.ch_own z)) hg, LW2, fun j hj hjk => by
       by_cases q : j = k
       ·rw [q]; exact S22
       ·exact WG j hj (by omega)⟩
     ·rintro σ H20 ⟨y13, rfl, hdd, hg, LW, WG⟩
      have LW : W33 A H20 b c (302 + 50 * t + 1 + 40) x f its cl cells ut m sl (fun j => if j < 3 then (os j).wrote fa ws else os j) := LW
      have WG : ∀ j, j < 3 → SgU (uU m j) n (used + 1 + 1) ((os j).wrote fa ws) := fun j hj => WG j hj hj
      have l' : fa + ws.length ≤ v.length := by omega
      walk_at "go"
      refine ⟨_, _, _, _, _, _, _, used + 1, fun j => if j < 3 then (os j).wrote fa ws else os j, putW v fa ws, rfl, LW.up (by omega), by omega, fun j hj => ?_, fun j hj => ?_, Sub3.add (v := putW v fa ws) hm (by rw [putW_len l']; exact vl') (fun j hj => ?_) (fun j hj => ?_) sub16⟩
      ·dsimp only; rw [if_pos hj]; exact WG j hj
      ·dsimp only; rw [if_pos hj, wrote_eq]; show putW (os j).cells fa ws = _; rw [ce16 j hj]
      ·rw [putW_len l', vl']; exact (G16 j hj).many
      ·rw [if_pos hj, wrote_eq]; show addC (os j).cs (unitsOf (os j).W (putW (os j).cells fa ws)) = _; rw [ce16 j hj, (G16 j hj).w]
    all_goals
     walk_at "go"
     have hL := LS.L
     refine ⟨⟨_, .of hL⟩, for_it (walk_list (xs := (List.range 3).map fun k => V.ref (os k).p)) (fun i σ H' => ∃ (z11 : Option V) (os' : Nat → SightO), σ = [some (.ref a), some (.ref b), some (.int stop), some (.ref f), some (.ref x.c), some (.int n), some (.ref cl), some (.ref ut), some (.ref sl), some (.int 0), some y, z11, y12, y13, y14, y15, y16] ∧ W33 A H' b c (302 + 50 * t + 1) x f its cl cells ut m sl os' ∧ (∀ k, (os' k).p = (os k).p) ∧ (∀ k, k < 3 → (os' k).cells = v ∧ SgU (uU m k) n (if k < i then 1 else used + 1) (os' k)) ∧ ∀ k, k < i → k < 3 → (os' k).cs = (unitsOf (uU m k) v).map fun c => [c]) ⟨_, os, rfl, LS, fun _ => rfl, fun k hk => ⟨ce16 k hk, by rw [if_neg (Nat.not_lt_zero _)]; exact G16 k hk⟩, fun k z => absurd z (Nat.not_lt_zero _)⟩ (fun _ _ _ _ h => (by
      obtain ⟨_, os', _, e, q, _⟩ := h
      have e := e.L
      rw [show (List.range 3).map (fun k => V.ref (os' k).p) = (List.range 3).map fun k => V.ref (os k).p from List.map_congr_left fun k _ => by rw [q k]] at e
      exact .of e)) ?_ ?_⟩
     ·rintro i y' σ H21 H20 hi ⟨z11, os', rfl, LW, pp, gg, cc⟩ ⟨rfl, hy'⟩
      have hi : i < 3 := by simpa using hi
      rw [range3 hi, ← pp i] at hy'
      obtain rfl := Option.some.inj hy'
      have X := LW.S i hi
      have hG := (gg i hi).2
      have hv := (gg i hi).1
      obtain ⟨dx, hp⟩ := id X.ob
      walk_at "go"
      refine ⟨os' i, rfl, X, hG.ok, fun o' H22 e22 p' gl' il' W' cells' cs' sl' us' X' O' => ?_⟩
      have own' : ∀ a ∈ o'.own, a ∈ (os' i).own ∨ H20 a = none := fun a ha => by
       unfold SightO.own at ha ⊢
       rw [p', gl', il'] at ha
       simp only [List.mem_cons] at ha ⊢
       rcases ha with h | h | h | h | h
       ·exact .inl (.inl h)
       ·exact .inl (.inr (.inl h))
       ·exact .inl (.inr (.inr (.inl h)))
       ·rw [h]; exact .inr sl'
       ·exact .inr (us' a h)
      have LW2 := LW.put hi e22 (fun a z => by rw [List.mem_singleton.mp z]; unfold SightO.own; exact List.mem_cons_self) X' p' own'
      have w' : o'.W = (uU m i : Nat) := W'.trans hG.w
      have one : o'.cs = (unitsOf (uU m i) o'.cells).map fun c => [c] := by rw [cs', cells', hG.w]
      have SG := SgU.mk0 O' w' (n := n) (by rw [cells', hv]; exact vl') one
      walk_at "go"
      refine ⟨o', x, f, its, stop, uU m i, n, by rw [p'], X', SG, one, LW2.X, ok, LW2.F, Va, pm, (uU_b hm).1, n24.2, fun H23 e23 => ⟨true, rfl, ?_⟩⟩
      walk_at "go"
      refine ⟨_, fun j => if j = i then o' else os' j, rfl, LW2.ed0 e23, fun j => ?_, fun j hj => ?_, fun j hj hj3 => ?_⟩
      ·dsimp only
       by_cases q : j = i
       ·rw [if_pos q, p', q]; exact pp i
       ·rw [if_neg q]; exact pp j
      ·dsimp only
       by_cases q : j = i
       ·rw [if_pos q, if_pos (by omega), q]; exact ⟨cells'.trans hv, SG⟩
       ·rw [if_neg q]
        have := gg j hj
        by_cases r : j < i
        ·rw [if_pos r] at this; rw [if_pos (by omega)]; exact this
        ·rw [if_neg r] at this; rw [if_neg (by omega)]; exact this
      ·dsimp only
       by_cases q : j = i
       ·rw [if_pos q, q, one, cells', hv]
       ·rw [if_neg q]; exact cc j (by omega) hj3
     ·rintro σ H20 ⟨z11, os', rfl, LW, pp, gg, cc⟩
      have gg : ∀ k, k < 3 → (os' k).cells = v ∧ SgU (uU m k) n 1 (os' k) := fun k hk => by
       have := gg k hk
       rwa [if_pos (show k < ((List.range 3).map fun k => V.ref (os k).p).length from hk)] at this
      walk_at "go"
      exact ⟨_, _, _, _, _, _, _, 0, os', v, rfl, LW.up (by omega), by omega, fun k hk => (gg k hk).2, fun k hk => (gg k hk).1, Sub3.one hm vl' fun k hk => cc k hk hk⟩
   clear G16 ce16 sub16 L16 u3
   rintro σ' H17 ⟨z10, z11, z12, z13, z14, z15, z16, used', os', v', rfl, L17, u3, G17, ce17, sub17⟩
   walk_at "go"
   have hL17 := L17.L
   refine ⟨⟨_, .of hL17⟩, Vc.lc_by (walk_list (xs := (List.range 3).map fun k => V.ref (os' k).p)) (fun D i H' => Vc.Ed [] H17 H' ∧ ∃ (Rs : List Addr) (rs : Nat → List (List (List Int))), H' D = some (.lst (Rs.map V.ref)) ∧ Rs.length = i ∧ ∀ (j : Nat) (R : Addr), Rs[j]? = some R → R ≠ D ∧ ∃ ws : List Addr, H' R = some (.lst (ws.map V.ref)) ∧ (∀ v ∈ ws, v ≠ D) ∧ LLAt H' ws (rs j) ∧ Every x.fs (os' j).cs (uU m j) n (rs j)) (fun D H' nD e hD => ⟨e, [], fun _ => [], hD, rfl, fun _ _ z => by cases z⟩) (fun D i H' _ _ q => .of (q.1.at0 hL17)) ?_ ?_⟩
   ·rintro D i y H18 H19 nD hi ⟨e18, Rs, rs, hD, rl, hR⟩ ⟨rfl, hy⟩
    have hi : i < 3 := by simpa using hi
    rw [range3 hi] at hy
    obtain rfl := Option.some.inj hy
    have L19 := L17.ed0 e18
    walk_at "go"
    refine ⟨rfl, ?_⟩
    walk_at "go"
    refine ⟨os' i, x, uU m i, n, used' + 1, rfl, L19.S i hi, G17 i hi, by omega, L19.X, ok, (uU_b hm).1, by omega, l4, fun R ws rows H20 e20 nR hRR nws hW EV => ?_⟩
    have hD20 := e20.at0 hD
    have RD : R ≠ D := fun z => by rw [z, hD] at nR; cases nR
    have wD : ∀ v ∈ ws, v ≠ D := fun v hv z => by have := nws v hv; rw [z, hD] at this; cases this
    walk_at "go"
    refine ⟨_, hD20, by rw [List.length_map, rl]; exact small1000 (by omega), ?_⟩
    generalize hu21 : upd _ D _ = H21
    obtain ⟨e21, hD21⟩ := Vc.chg hu21 hD20
    refine ⟨(e18.ex e20).one e21 (.inr nD), Rs ++ [R], fun j => if j = i then rows else rs j, by rw [hD21, List.map_append]; rfl, by rw [List.length_append, rl]; rfl, fun j u hj => ?_⟩
    dsimp only
    by_cases l : j < Rs.length
    ·rw [List.getElem?_append_left l] at hj
     obtain ⟨m1, ws', m2, m3, m4, m5⟩ := hR j u hj
     rw [if_neg (by omega)]
     exact ⟨m1, ws', e21.at1 m1 (e20.at0 m2), m3, (m4.ed0 e20).ed e21 (fun v hv z => m3 v hv (List.mem_singleton.mp z)), m5⟩
    ·rw [List.getElem?_append_right (by omega)] at hj
     have : j - Rs.length = 0 := by
      have := (List.getElem?_eq_some_iff.mp hj).1
      have e : [R].length = 1 := rfl
      omega
     rw [this] at hj
     obtain rfl := Option.some.inj hj
     obtain rfl : j = i := by omega
     rw [if_pos rfl]
     exact ⟨RD, ws, e21.at1 RD hRR, wD, hW.ed e21 (fun v hv z => wD v hv (List.mem_singleton.mp z)), EV⟩
   rintro sh H18 nsh ⟨e18, Rs, rs, hsh, rl, hR⟩
   have rl : Rs.length = 3 := rl
   have L18 := L17.ed0 e18
   have hR : ∀ j : Nat, j < 3 → ∃ (R : Addr) (ws : List Addr), atI (Rs.map V.ref) (j : Int) = some (.ref R) ∧ H18 R = some (.lst (ws.map V.ref)) ∧ LLAt H18 ws (rs j) ∧ Every x.fs (os' j).cs (uU m j) n (rs j) := fun j hj => by
    obtain ⟨R, hj'⟩ : ∃ R, Rs[j]? = some R := ⟨_, List.getElem?_eq_getElem (by omega)⟩
    obtain ⟨_, ws, m2, _, m4, m5⟩ := hR j R hj'
    exact ⟨R, ws, at_of (j := j) (by omega) (by rw [List.getElem?_map, hj']; rfl), m2, m4, m5⟩
   obtain ⟨R0, ws0, i0, h0, T0, E0⟩ := hR 0 (by decide)
   obtain ⟨R1, ws1, i1, h1, T1, E1⟩ := hR 1 (by decide)
   obtain ⟨R2, ws2, i2', h2, T2, E2⟩ := hR 2 (by decide)
   clear hR L17 hL17
   walk_at "go"
   refine ⟨by omega, by omega, for_it walk_range (fun p σ H' => ∃ y15 : Option V, σ = [some (.ref a), some (.ref b), some (.int stop), some (.ref f), some (.ref x.c), some (.int n), some (.ref cl), some (.ref ut), some (.ref sl), some (.int used'), z10, z11, z12, z13, some (.ref sh), y15, z16] ∧ Vc.Ed [] H18 H') ⟨_, rfl, .refl⟩ (fun _ _ _ _ _ => trivial) ?_ ?_⟩
   ·rintro p z σ H20 H19 hp ⟨y15, rfl, e19⟩ ⟨rfl, hz⟩
    obtain rfl : z = .int p := by rw [hz]; show V.int (0 + (p : Int)) = _; rw [Int.zero_add]
    have hp : p < n := by simpa using hp
    have row : ∀ {R : Addr} {ws : List Addr} {rw_ : List (List (List Int))} {cs : List (List (List Int))} {W : Nat}, LLAt H18 ws rw_ → Every x.fs cs W n rw_ → ∃ (u : Addr) (ts : List Addr) (r : List (List Int)), atI (ws.map V.ref) (p : Int) = some (.ref u) ∧ H18 u = some (.lst (ts.map V.ref)) ∧ TupsAt H18 ts r ∧ IsSort r (fetD x.fs cs W n p) := fun {R ws rw_ cs W} T E => by
     have el := E.len
     have tl := T.len
     obtain ⟨u, hu1⟩ : ∃ u, ws[p]? = some u := ⟨_, List.getElem?_eq_getElem (by omega)⟩
     obtain ⟨r, hr1⟩ : ∃ r, rw_[p]? = some r := ⟨_, List.getElem?_eq_getElem (by omega)⟩
     obtain ⟨ts, q1, q2⟩ := T.at_ p u r hu1 hr1
     exact ⟨u, ts, r, at_of (j := p) (by omega) (by rw [List.getElem?_map, hu1]; rfl), q1, q2, E.srt p r hr1⟩
    obtain ⟨u0, ts0, r0, j0, k0, q0, s0⟩ := row (R := R0) T0 E0
    obtain ⟨u1, ts1, r1, j1, k1, q1, s1⟩ := row (R := R1) T1 E1
    obtain ⟨u2, ts2, r2, j2, k2, q2, s2⟩ := row (R := R2) T2 E2
    have sb := sub17.fets hm l1 l4 G17 hp (r := fun k => if k = 0 then r0 else if k = 1 then r1 else r2) fun k hk => by
     rcases lt3 hk with rfl | rfl | rfl
     ·exact s0
     ·exact s1
     ·exact s2
    have hsh9 := e19.at0 hsh
    have h09 := e19.at0 h0
    have h19 := e19.at0 h1
    have h29 := e19.at0 h2
    walk_at "go"
    refine ⟨u2, u1, ts2, ts1, r2, r1, rfl, e19.at0 k2, e19.at0 k1, q2.ed e19, q1.ed e19, sb.1, fun H21 e21 => ⟨false, rfl, ?_⟩⟩
    have hsh1 := e21.at0 hsh9
    have h01 := e21.at0 h09
    have h11 := e21.at0 h19
    have e1821 := e19.ex e21
    walk_at "go"
    refine ⟨u1, u0, ts1, ts0, r1, r0, rfl, e1821.at0 k1, e1821.at0 k0, q1.ed e1821, q0.ed e1821, sb.2, fun H22 e22 => ⟨false, rfl, ?_⟩⟩
    walk_at "go"
    exact ⟨_, rfl, e1821.ex e22⟩
   ·rintro σ H19 ⟨y15, rfl, e19⟩
    have L19 := L18.ed0 e19
    have hL := L19.L
    have hU := L19.U
    walk_at "go"
    refine ⟨os' 1, x, m, n, used' + 1, rfl, L19.S 1 (by decide), G17 1 (by decide), by omega, L19.X, ok, by omega, by omega, by omega, l1, l4, fun H20 e20 => ⟨true, rfl, ?_⟩⟩
    walk_at "go"
    exact ⟨_, _, _, _, _, _, _, used', os', v', rfl, (L19.ed0 e20).up (by omega), u3, G17, ce17, sub17⟩
  ·rintro σ H15 ⟨y10, y11, y12, y13, y14, y15, y16, used, os, v, rfl, L15, u3, G15, ce15, sub15⟩
   have hU := L15.U
   have nn1 : cells.length = n := vl
   walk_at "go"
   refine ⟨b, c, cl, _, x, cells, m, rfl, L15.pen, by omega, L15.C, Db, by omega, by omega, vb, by omega, L15.X, ok, l1, l4, fun H16 e16 hB16 => ⟨true, rfl, ?_⟩⟩
   have L16 := L15.edb e16 hB16
   walk_at "go"
   refine ⟨b, c, cl, _, x, cells, 1, rfl, L16.pen, by omega, L16.C, Db, by omega, by omega, vb, by omega, L16.X, ok, l1, l4, fun H17 e17 hB17 => ?_⟩
   exact k H17
end
end My
namespace My
open PySem PySem.Spec PyProof.Rows L2
theorem all_mk {w : World} {K : PySem.W.Frag} {h : Heap} {mg : Str → Option Value} {fa : Addr} (X : K.In h) (G : h.Ns mainGlobals mg) (hfa : mg "law" = some (.ref fa))
  {C_Form : Addr}
  {C_CodeSet : Addr}
  {C_Layout : Addr}
  {C_Sight : Addr}
  {f_is_byte : Addr} {oc1 kV1 dc1 pm1 cd1 ct1 : Value} {od1 an1 : Option Addr} {sl1 : Array (Option Value)}
  {f_is_name : Addr} {oc2 kV2 dc2 pm2 cd2 ct2 : Value} {od2 an2 : Option Addr} {sl2 : Array (Option Value)}
  {f_Formu_initu : Addr} {oc3 kV3 dc3 pm3 cd3 ct3 : Value} {od3 an3 : Option Addr} {sl3 : Array (Option Value)}
  {f_check_forms : Addr} {oc4 kV4 dc4 pm4 cd4 ct4 : Value} {od4 an4 : Option Addr} {sl4 : Array (Option Value)}
  {f_CodeSetu_initu : Addr} {oc5 kV5 dc5 pm5 cd5 ct5 : Value} {od5 an5 : Option Addr} {sl5 : Array (Option Value)}
  {f_CodeSetu_containsu : Addr} {oc6 kV6 dc6 pm6 cd6 ct6 : Value} {od6 an6 : Option Addr} {sl6 : Array (Option Value)}
  {f_CodeSetu_getitemu : Addr} {oc7 kV7 dc7 pm7 cd7 ct7 : Value} {od7 an7 : Option Addr} {sl7 : Array (Option Value)}
  {f_Layoutu_initu : Addr} {oc8 kV8 dc8 pm8 cd8 ct8 : Value} {od8 an8 : Option Addr} {sl8 : Array (Option Value)}
  {tD8 : Addr} {y35 : Value} {y27 : Option Addr} {nD8 : Nat} {z27 : Array (Option Value)} {e25 : Tok} {f25 : Tok}
  {f_Layout_unit : Addr} {oc9 kV9 dc9 pm9 cd9 ct9 : Value} {od9 an9 : Option Addr} {sl9 : Array (Option Value)}
  {pr9 : Addr} {f28 : List Value}
  {f_Layout_chunk : Addr} {g28 m17 n17 o17 n14 p17 : Value} {i28 q17 : Option Addr} {j28 : Array (Option Value)}
  {j13 : Addr} {i25 : List Value}
  {f_Layout_units : Addr} {k28 r17 t17 u17 o14 x17 : Value} {m28 y17 : Option Addr} {n28 : Array (Option Value)}
  {f_Layout_span : Addr} {o28 z17 a18 b18 p14 c18 : Value} {p28 d18 : Option Addr} {q28 : Array (Option Value)}
  {f_touched : Addr} {r28 e18 f18 g18 q14 i18 : Value} {t28 j18 : Option Addr} {u28 : Array (Option Value)}
  {f_split_units : Addr} {x28 k18 m18 n18 r14 o18 : Value} {y28 p18 : Option Addr} {z28 : Array (Option Value)}
  {f_Sightu_initu : Addr} {a29 q18 r18 t18 t14 u18 : Value} {b29 x18 : Option Addr} {c29 : Array (Option Value)}
  {f_Sight_present : Addr} {d29 y18 z18 a19 u14 b19 : Value} {e29 c19 : Option Addr} {f29 : Array (Option Value)}
  {k13 : Addr} {j25 : List Value}
  {f_Sight_settled : Addr} {g29 d19 e19 f19 x14 g19 : Value} {i29 i19 : Option Addr} {j29 : Array (Option Value)}
  {m13 : Addr} {k25 : List Value}
  {f_Sight_write : Addr} {k29 j19 k19 m19 y14 n19 : Value} {m29 o19 : Option Addr} {n29 : Array (Option Value)}
  {f_Sight_sync : Addr} {o29 p19 q19 r19 z14 t19 : Value} {p29 u19 : Option Addr} {q29 : Array (Option Value)}
  {f_Sight_contents : Addr} {r29 x19 y19 z19 a15 a20 : Value} {t29 b20 : Option Addr} {u29 : Array (Option Value)}
  {f_Sight_fetched : Addr} {x29 c20 d20 e20 b15 f20 : Value} {y29 g20 : Option Addr} {z29 : Array (Option Value)}
  {f_Sight_fetches : Addr} {a30 i20 j20 k20 c15 m20 : Value} {b30 n20 : Option Addr} {c30 : Array (Option Value)}
  {f__law_pen : Addr} {d30 o20 p20 q20 d15 r20 : Value} {e30 t20 : Option Addr} {f30 : Array (Option Value)}
  {f__law_draw : Addr} {g30 u20 x20 y20 e15 z20 : Value} {i30 a21 : Option Addr} {j30 : Array (Option Value)}
  {f__law_pick : Addr} {k30 b21 c21 d21 f15 e21 : Value} {m30 f21 : Option Addr} {n30 : Array (Option Value)}
  {f__law_forms : Addr} {o30 g21 i21 j21 g15 k21 : Value} {p30 m21 : Option Addr} {q30 : Array (Option Value)}
  {f__law_codes : Addr} {r30 n21 o21 p21 i15 q21 : Value} {t30 r21 : Option Addr} {u30 : Array (Option Value)}
  {f__law_byte : Addr} {x30 t21 u21 x21 j15 y21 : Value} {y30 z21 : Option Addr} {z30 : Array (Option Value)}
  {f__law_every : Addr} {a31 a22 b22 c22 k15 d22 : Value} {b31 e22 : Option Addr} {c31 : Array (Option Value)}
  {f__law_held : Addr} {d31 f22 g22 i22 m15 j22 : Value} {e31 k22 : Option Addr} {f31 : Array (Option Value)}
  {f__law_missing : Addr} {g31 m22 n22 o22 n15 p22 : Value} {i31 q22 : Option Addr} {j31 : Array (Option Value)}
  {f__law_apart : Addr} {k31 r22 t22 u22 o15 x22 : Value} {m31 y22 : Option Addr} {n31 : Array (Option Value)}
  {f__law_grown : Addr} {o31 z22 a23 b23 p15 c23 : Value} {p31 d23 : Option Addr} {q31 : Array (Option Value)}
  {f__law_write_right : Addr} {r31 e23 f23 g23 q15 i23 : Value} {t31 j23 : Option Addr} {u31 : Array (Option Value)}
  {f__law_one_each : Addr} {x31 k23 m23 n23 r15 o23 : Value} {y31 p23 : Option Addr} {z31 : Array (Option Value)}
  {f__law_within : Addr} {a32 q23 r23 t23 t15 u23 : Value} {b32 x23 : Option Addr} {c32 : Array (Option Value)}
  {f__law_turned : Addr} {d32 y23 z23 a24 u15 b24 : Value} {e32 c24 : Option Addr} {f32 : Array (Option Value)}
  {f__law_deed : Addr} {g32 d24 e24 f24 x15 g24 : Value} {i32 i24 : Option Addr} {j32 : Array (Option Value)}
  {f_law : Addr} {k32 y15 z15 a16 n13 b16 : Value} {m32 c16 : Option Addr} {n32 : Array (Option Value)}
  {f13 : Tok}
  {k10 : Tok}
  {C_BadAddress f_BadAddressu_initu o12 d16 : Addr} {o32 e16 f16 g16 i16 : Value} {p32 j16 : Option Addr} {q32 : Array (Option Value)}
  {r32 q40 : Str} {N40 : Addr} {t32 j24 m25 : List Value} {u32 : List Str} {x32 : Bool} {n25 : Option Bool} {y32 : Option Addr} {z32 a33 b33 c33 d33 : Option Value}
  {o25 p25 : Value} {q25 r25 : Option Addr} {k24 : Array Value} {t25 u25 : Array (Option Value)} {o13 : Str} {e33 : Tok}
  {C_BadLayout f_BadLayoutu_initu p12 k16 : Addr} {f33 m16 n16 o16 p16 : Value} {g33 q16 : Option Addr} {i33 : Array (Option Value)}
  {j33 q41 : Str} {N41 : Addr} {k33 m24 x25 : List Value} {m33 : List Str} {n33 : Bool} {y25 : Option Bool} {o33 : Option Addr} {p33 q33 r33 t33 u33 : Option Value}
  {z25 a26 : Value} {b26 c26 : Option Addr} {n24 : Array Value} {d26 e26 : Array (Option Value)} {p13 : Str} {x33 : Tok}
  {a_FLOWS : Addr} {odF : Option Addr} {tF1 tF2 tF3 tF4 : Tok} {nF : Nat} {slF : Array (Option Value)}
  {tM : Tok}
  {a_UNITS : Addr} {e14 : Option Addr} {f14 g14 i14 j14 : Tok} {k17 : Nat} {k14 : Array (Option Value)}
  {a_CHUNKS : Addr} {q13 : Option Addr} {r13 t13 u13 x13 y13 : Tok} {m14 : Nat} {z13 : Array (Option Value)}
  (r12 : PySem.W.nsIn K mainGlobals "Form" = some (some (.ref C_Form)))
  (m10 : PySem.W.nsIn K mainGlobals "CodeSet" = some (some (.ref C_CodeSet)))
  (f11 : PySem.W.nsIn K mainGlobals "Layout" = some (some (.ref C_Layout)))
  (g12 : PySem.W.nsIn K mainGlobals "Sight" = some (some (.ref C_Sight)))
  (g11 : PySem.W.nsIn K mainGlobals "is_byte" = some (some (.ref f_is_byte)))
  (i11 : K.lookup f_is_byte = some ⟨oc1, od1, .func (PySem.W.fnOf "is_byte" "is_byte" (defArgs s_is_byte) (defBody s_is_byte) (defScope s_is_byte) .none kV1 dc1 pm1 an1 cd1 ct1), sl1⟩)
  (j11 : PySem.W.codeIn K cd1 "is_byte" = true)
  (k11 : PySem.W.keepIn K (.ref f_is_byte) = true)
  (m11 : PySem.W.nsIn K mainGlobals "is_name" = some (some (.ref f_is_name)))
  (n11 : K.lookup f_is_name = some ⟨oc2, od2, .func (PySem.W.fnOf "is_name" "is_name" (defArgs s_is_name) (defBody s_is_name) (defScope s_is_name) .none kV2 dc2 pm2 an2 cd2 ct2), sl2⟩)
  (o11 : PySem.W.codeIn K cd2 "is_name" = true)
  (p11 : PySem.W.keepIn K (.ref f_is_name) = true)
  (z5 : PySem.W.findIn K (.ref C_Form) "__init__" = some (some (.ref f_Formu_initu)))
  (a6 : PySem.W.isFn K (.ref f_Formu_initu) = true)
  (b6 : K.lookup f_Formu_initu = some ⟨oc3, od3, .func (PySem.W.fnOf "__init__" "Form.__init__" (defArgs s_Formu_initu) (defBody s_Formu_initu) (defScope s_Formu_initu) .none kV3 dc3 pm3 an3 cd3 ct3), sl3⟩)
  (c6 : PySem.W.codeIn K cd3 "Form.__init__" = true)
  (d6 : PySem.W.keepIn K (.ref f_Formu_initu) = true)
  (e6 : PySem.W.nsIn K mainGlobals "check_forms" = some (some (.ref f_check_forms)))
  (f6 : K.lookup f_check_forms = some ⟨oc4, od4, .func (PySem.W.fnOf "check_forms" "check_forms" (defArgs s_check_forms) (defBody s_check_forms) (defScope s_check_forms) .none kV4 dc4 pm4 an4 cd4 ct4), sl4⟩)
  (g6 : PySem.W.codeIn K cd4 "check_forms" = true)
  (i6 : PySem.W.keepIn K (.ref f_check_forms) = true)
  (f2 : PySem.W.findIn K (.ref C_CodeSet) "__init__" = some (some (.ref f_CodeSetu_initu)))
  (g2 : PySem.W.isFn K (.ref f_CodeSetu_initu) = true)
  (i2 : K.lookup f_CodeSetu_initu = some ⟨oc5, od5, .func (PySem.W.fnOf "__init__" "CodeSet.__init__" (defArgs s_CodeSetu_initu) (defBody s_CodeSetu_initu) (defScope s_CodeSetu_initu) .none kV5 dc5 pm5 an5 cd5 ct5), sl5⟩)
  (j2 : PySem.W.codeIn K cd5 "CodeSet.__init__" = true)
  (k2 : PySem.W.keepIn K (.ref f_CodeSetu_initu) = true)
  (e0 : PySem.W.findIn K (.ref C_CodeSet) "__contains__" = some (some (.ref f_CodeSetu_containsu)))
  (f0 : PySem.W.isFn K (.ref f_CodeSetu_containsu) = true)
  (g0 : K.lookup f_CodeSetu_containsu = some ⟨oc6, od6, .func (PySem.W.fnOf "__contains__" "CodeSet.__contains__" (defArgs s_CodeSetu_containsu) (defBody s_CodeSetu_containsu) (defScope s_CodeSetu_containsu) .none kV6 dc6 pm6 an6 cd6 ct6), sl6⟩)
  (i0 : PySem.W.codeIn K cd6 "CodeSet.__contains__" = true)
  (j0 : PySem.W.keepIn K (.ref f_CodeSetu_containsu) = true)
  (r0 : PySem.W.findIn K (.ref C_CodeSet) "__getitem__" = some (some (.ref f_CodeSetu_getitemu)))
  (t0 : PySem.W.isFn K (.ref f_CodeSetu_getitemu) = true)
  (u0 : K.lookup f_CodeSetu_getitemu = some ⟨oc7, od7, .func (PySem.W.fnOf "__getitem__" "CodeSet.__getitem__" (defArgs s_CodeSetu_getitemu) (defBody s_CodeSetu_getitemu) (defScope s_CodeSetu_getitemu) .none kV7 dc7 pm7 an7 cd7 ct7), sl7⟩)
  (x0 : PySem.W.codeIn K cd7 "CodeSet.__getitem__" = true)
  (y0 : PySem.W.keepIn K (.ref f_CodeSetu_getitemu) = true)
  (b3 : PySem.W.findIn K (.ref C_Layout) "__init__" = some (some (.ref f_Layoutu_initu)))
  (c3 : PySem.W.isFn K (.ref f_Layoutu_initu) = true)
  (d3 : K.lookup f_Layoutu_initu = some ⟨oc8, od8, .func (PySem.W.fnOf "__init__" "Layout.__init__" (defArgs s_Layoutu_initu) (defBody s_Layoutu_initu) (defScope s_Layoutu_initu) (.ref tD8) kV8 dc8 pm8 an8 cd8 ct8), sl8⟩)
  (e3 : PySem.W.codeIn K cd8 "Layout.__init__" = true)
  (f3 : PySem.W.keepIn K (.ref f_Layoutu_initu) = true)
  (m2 : K.lookup tD8 = some ⟨y35, y27, .seq #[.int 1 e25, .int 1 f25] nD8, z27⟩)
  (k4 : PySem.W.findIn K (.ref C_Layout) "unit" = some (some (.ref pr9)))
  (m4 : PySem.W.specialIn K (.ref pr9) "__get__" = some (some (.builtin "property.__get__")))
  (n4 : PySem.W.takesIn K (.ref pr9) = some true)
  (g3 : PySem.W.recIn K pr9 "property" = some (.ref f_Layout_unit :: f28))
  (j6 : K.lookup f_Layout_unit = some ⟨oc9, od9, .func (PySem.W.fnOf "unit" "Layout.unit" (defArgs s_Layout_unit) (defBody s_Layout_unit) (defScope s_Layout_unit) .none kV9 dc9 pm9 an9 cd9 ct9), sl9⟩)
  (k6 : PySem.W.codeIn K cd9 "Layout.unit" = true)
  (m6 : PySem.W.keepIn K (.ref f_Layout_unit) = true)
  (i3 : PySem.W.findIn K (.ref C_Layout) "chunk" = some (some (.ref j13)))
  (j3 : PySem.W.specialIn K (.ref j13) "__get__" = some (some (.builtin "property.__get__")))
  (k3 : PySem.W.takesIn K (.ref j13) = some true)
  (n2 : PySem.W.recIn K j13 "property" = some (.ref f_Layout_chunk :: i25))
  (o4 : K.lookup f_Layout_chunk = some ⟨g28, i28, .func (PySem.W.fnOf "chunk" "Layout.chunk" (defArgs s_Layout_chunk) (defBody s_Layout_chunk) (defScope s_Layout_chunk) .none m17 n17 o17 q17 n14 p17), j28⟩)
  (p4 : PySem.W.codeIn K n14 "Layout.chunk" = true)
  (q4 : PySem.W.keepIn K (.ref f_Layout_chunk) = true)
  (r4 : PySem.W.findIn K (.ref C_Layout) "units" = some (some (.ref f_Layout_units)))
  (t4 : PySem.W.isFn K (.ref f_Layout_units) = true)
  (u4 : K.lookup f_Layout_units = some ⟨k28, m28, .func (PySem.W.fnOf "units" "Layout.units" (defArgs s_Layout_units) (defBody s_Layout_units) (defScope s_Layout_units) .none r17 t17 u17 y17 o14 x17), n28⟩)
  (x4 : PySem.W.codeIn K o14 "Layout.units" = true)
  (q1 : PySem.W.keepIn K (.ref f_Layout_units) = true)
  (n6 : PySem.W.findIn K (.ref C_Layout) "span" = some (some (.ref f_Layout_span)))
  (o6 : PySem.W.isFn K (.ref f_Layout_span) = true)
  (p6 : K.lookup f_Layout_span = some ⟨o28, p28, .func (PySem.W.fnOf "span" "Layout.span" (defArgs s_Layout_span) (defBody s_Layout_span) (defScope s_Layout_span) .none z17 a18 b18 d18 p14 c18), q28⟩)
  (q6 : PySem.W.codeIn K p14 "Layout.span" = true)
  (a2 : PySem.W.keepIn K (.ref f_Layout_span) = true)
  (q11 : PySem.W.nsIn K mainGlobals "touched" = some (some (.ref f_touched)))
  (r11 : K.lookup f_touched = some ⟨r28, t28, .func (PySem.W.fnOf "touched" "touched" (defArgs s_touched) (defBody s_touched) (defScope s_touched) .none e18 f18 g18 j18 q14 i18), u28⟩)
  (t11 : PySem.W.codeIn K q14 "touched" = true)
  (u11 : PySem.W.keepIn K (.ref f_touched) = true)
  (r6 : PySem.W.nsIn K mainGlobals "split_units" = some (some (.ref f_split_units)))
  (t6 : K.lookup f_split_units = some ⟨x28, y28, .func (PySem.W.fnOf "split_units" "split_units" (defArgs s_split_units) (defBody s_split_units) (defScope s_split_units) .none k18 m18 n18 p18 r14 o18), z28⟩)
  (u6 : PySem.W.codeIn K r14 "split_units" = true)
  (x6 : PySem.W.keepIn K (.ref f_split_units) = true)
  (y4 : PySem.W.findIn K (.ref C_Sight) "__init__" = some (some (.ref f_Sightu_initu)))
  (z4 : PySem.W.isFn K (.ref f_Sightu_initu) = true)
  (a5 : K.lookup f_Sightu_initu = some ⟨a29, b29, .func (PySem.W.fnOf "__init__" "Sight.__init__" (defArgs s_Sightu_initu) (defBody s_Sightu_initu) (defScope s_Sightu_initu) .none q18 r18 t18 x18 t14 u18), c29⟩)
  (b5 : PySem.W.codeIn K t14 "Sight.__init__" = true)
  (c5 : PySem.W.keepIn K (.ref f_Sightu_initu) = true)
  (o2 : PySem.W.findIn K (.ref C_Sight) "present" = some (some (.ref k13)))
  (p2 : PySem.W.specialIn K (.ref k13) "__get__" = some (some (.builtin "property.__get__")))
  (q2 : PySem.W.takesIn K (.ref k13) = some true)
  (x1 : PySem.W.recIn K k13 "property" = some (.ref f_Sight_present :: j25))
  (m3 : K.lookup f_Sight_present = some ⟨d29, e29, .func (PySem.W.fnOf "present" "Sight.present" (defArgs s_Sight_present) (defBody s_Sight_present) (defScope s_Sight_present) .none y18 z18 a19 c19 u14 b19), f29⟩)
  (n3 : PySem.W.codeIn K u14 "Sight.present" = true)
  (o3 : PySem.W.keepIn K (.ref f_Sight_present) = true)
  (r2 : PySem.W.findIn K (.ref C_Sight) "settled" = some (some (.ref m13)))
  (t2 : PySem.W.specialIn K (.ref m13) "__get__" = some (some (.builtin "property.__get__")))
  (u2 : PySem.W.takesIn K (.ref m13) = some true)
  (y1 : PySem.W.recIn K m13 "property" = some (.ref f_Sight_settled :: k25))
  (p3 : K.lookup f_Sight_settled = some ⟨g29, i29, .func (PySem.W.fnOf "settled" "Sight.settled" (defArgs s_Sight_settled) (defBody s_Sight_settled) (defScope s_Sight_settled) .none d19 e19 f19 i19 x14 g19), j29⟩)
  (q3 : PySem.W.codeIn K x14 "Sight.settled" = true)
  (r3 : PySem.W.keepIn K (.ref f_Sight_settled) = true)
  (y6 : PySem.W.findIn K (.ref C_Sight) "write" = some (some (.ref f_Sight_write)))
  (z6 : PySem.W.isFn K (.ref f_Sight_write) = true)
  (a7 : K.lookup f_Sight_write = some ⟨k29, m29, .func (PySem.W.fnOf "write" "Sight.write" (defArgs s_Sight_write) (defBody s_Sight_write) (defScope s_Sight_write) .none j19 k19 m19 o19 y14 n19), n29⟩)
  (b7 : PySem.W.codeIn K y14 "Sight.write" = true)
  (b2 : PySem.W.keepIn K (.ref f_Sight_write) = true)
  (c8 : PySem.W.findIn K (.ref C_Sight) "sync" = some (some (.ref f_Sight_sync)))
  (d8 : PySem.W.isFn K (.ref f_Sight_sync) = true)
  (e8 : K.lookup f_Sight_sync = some ⟨o29, p29, .func (PySem.W.fnOf "sync" "Sight.sync" (defArgs s_Sight_sync) (defBody s_Sight_sync) (defScope s_Sight_sync) .none p19 q19 r19 u19 z14 t19), q29⟩)
  (f8 : PySem.W.codeIn K z14 "Sight.sync" = true)
  (t3 : PySem.W.keepIn K (.ref f_Sight_sync) = true)
  (x2 : PySem.W.findIn K (.ref C_Sight) "contents" = some (some (.ref f_Sight_contents)))
  (y2 : PySem.W.isFn K (.ref f_Sight_contents) = true)
  (z2 : K.lookup f_Sight_contents = some ⟨r29, t29, .func (PySem.W.fnOf "contents" "Sight.contents" (defArgs s_Sight_contents) (defBody s_Sight_contents) (defScope s_Sight_contents) .none x19 y19 z19 b20 a15 a20), u29⟩)
  (a3 : PySem.W.codeIn K a15 "Sight.contents" = true)
  (k0 : PySem.W.keepIn K (.ref f_Sight_contents) = true)
  (u3 : PySem.W.findIn K (.ref C_Sight) "fetched" = some (some (.ref f_Sight_fetched)))
  (x3 : PySem.W.isFn K (.ref f_Sight_fetched) = true)
  (y3 : K.lookup f_Sight_fetched = some ⟨x29, y29, .func (PySem.W.fnOf "fetched" "Sight.fetched" (defArgs s_Sight_fetched) (defBody s_Sight_fetched) (defScope s_Sight_fetched) .none c20 d20 e20 g20 b15 f20), z29⟩)
  (z3 : PySem.W.codeIn K b15 "Sight.fetched" = true)
  (f1 : PySem.W.keepIn K (.ref f_Sight_fetched) = true)
  (a4 : PySem.W.findIn K (.ref C_Sight) "fetches" = some (some (.ref f_Sight_fetches)))
  (b4 : PySem.W.isFn K (.ref f_Sight_fetches) = true)
  (c4 : K.lookup f_Sight_fetches = some ⟨a30, b30, .func (PySem.W.fnOf "fetches" "Sight.fetches" (defArgs s_Sight_fetches) (defBody s_Sight_fetches) (defScope s_Sight_fetches) .none i20 j20 k20 n20 c15 m20), c30⟩)
  (d4 : PySem.W.codeIn K c15 "Sight.fetches" = true)
  (g1 : PySem.W.keepIn K (.ref f_Sight_fetches) = true)
  (n10 : PySem.W.nsIn K mainGlobals "_law_pen" = some (some (.ref f__law_pen)))
  (o10 : K.lookup f__law_pen = some ⟨d30, e30, .func (PySem.W.fnOf "_law_pen" "_law_pen" (defArgs s__law_pen) (defBody s__law_pen) (defScope s__law_pen) .none o20 p20 q20 t20 d15 r20), f30⟩)
  (p10 : PySem.W.codeIn K d15 "_law_pen" = true)
  (q10 : PySem.W.keepIn K (.ref f__law_pen) = true)
  (j9 : PySem.W.nsIn K mainGlobals "_law_draw" = some (some (.ref f__law_draw)))
  (k9 : K.lookup f__law_draw = some ⟨g30, i30, .func (PySem.W.fnOf "_law_draw" "_law_draw" (defArgs s__law_draw) (defBody s__law_draw) (defScope s__law_draw) .none u20 x20 y20 a21 e15 z20), j30⟩)
  (m9 : PySem.W.codeIn K e15 "_law_draw" = true)
  (n9 : PySem.W.keepIn K (.ref f__law_draw) = true)
  (o9 : PySem.W.nsIn K mainGlobals "_law_pick" = some (some (.ref f__law_pick)))
  (p9 : K.lookup f__law_pick = some ⟨k30, m30, .func (PySem.W.fnOf "_law_pick" "_law_pick" (defArgs s__law_pick) (defBody s__law_pick) (defScope s__law_pick) .none b21 c21 d21 f21 f15 e21), n30⟩)
  (q9 : PySem.W.codeIn K f15 "_law_pick" = true)
  (r9 : PySem.W.keepIn K (.ref f__law_pick) = true)
  (g8 : PySem.W.nsIn K mainGlobals "_law_forms" = some (some (.ref f__law_forms)))
  (i8 : K.lookup f__law_forms = some ⟨o30, p30, .func (PySem.W.fnOf "_law_forms" "_law_forms" (defArgs s__law_forms) (defBody s__law_forms) (defScope s__law_forms) .none g21 i21 j21 m21 g15 k21), q30⟩)
  (j8 : PySem.W.codeIn K g15 "_law_forms" = true)
  (k8 : PySem.W.keepIn K (.ref f__law_forms) = true)
  (m8 : PySem.W.nsIn K mainGlobals "_law_codes" = some (some (.ref f__law_codes)))
  (n8 : K.lookup f__law_codes = some ⟨r30, t30, .func (PySem.W.fnOf "_law_codes" "_law_codes" (defArgs s__law_codes) (defBody s__law_codes) (defScope s__law_codes) .none n21 o21 p21 r21 i15 q21), u30⟩)
  (o8 : PySem.W.codeIn K i15 "_law_codes" = true)
  (p8 : PySem.W.keepIn K (.ref f__law_codes) = true)
  (t9 : PySem.W.nsIn K mainGlobals "_law_byte" = some (some (.ref f__law_byte)))
  (u9 : K.lookup f__law_byte = some ⟨x30, y30, .func (PySem.W.fnOf "_law_byte" "_law_byte" (defArgs s__law_byte) (defBody s__law_byte) (defScope s__law_byte) .none t21 u21 x21 z21 j15 y21), z30⟩)
  (x9 : PySem.W.codeIn K j15 "_law_byte" = true)
  (y9 : PySem.W.keepIn K (.ref f__law_byte) = true)
  (q8 : PySem.W.nsIn K mainGlobals "_law_every" = some (some (.ref f__law_every)))
  (r8 : K.lookup f__law_every = some ⟨a31, b31, .func (PySem.W.fnOf "_law_every" "_law_every" (defArgs s__law_every) (defBody s__law_every) (defScope s__law_every) .none a22 b22 c22 e22 k15 d22), c31⟩)
  (t8 : PySem.W.codeIn K k15 "_law_every" = true)
  (u8 : PySem.W.keepIn K (.ref f__law_every) = true)
  (z9 : PySem.W.nsIn K mainGlobals "_law_held" = some (some (.ref f__law_held)))
  (a10 : K.lookup f__law_held = some ⟨d31, e31, .func (PySem.W.fnOf "_law_held" "_law_held" (defArgs s__law_held) (defBody s__law_held) (defScope s__law_held) .none f22 g22 i22 k22 m15 j22), f31⟩)
  (b10 : PySem.W.codeIn K m15 "_law_held" = true)
  (c10 : PySem.W.keepIn K (.ref f__law_held) = true)
  (d5 : PySem.W.nsIn K mainGlobals "_law_missing" = some (some (.ref f__law_missing)))
  (e5 : K.lookup f__law_missing = some ⟨g31, i31, .func (PySem.W.fnOf "_law_missing" "_law_missing" (defArgs s__law_missing) (defBody s__law_missing) (defScope s__law_missing) .none m22 n22 o22 q22 n15 p22), j31⟩)
  (f5 : PySem.W.codeIn K n15 "_law_missing" = true)
  (g5 : PySem.W.keepIn K (.ref f__law_missing) = true)
  (x8 : PySem.W.nsIn K mainGlobals "_law_apart" = some (some (.ref f__law_apart)))
  (y8 : K.lookup f__law_apart = some ⟨k31, m31, .func (PySem.W.fnOf "_law_apart" "_law_apart" (defArgs s__law_apart) (defBody s__law_apart) (defScope s__law_apart) .none r22 t22 u22 y22 o15 x22), n31⟩)
  (z8 : PySem.W.codeIn K o15 "_law_apart" = true)
  (a9 : PySem.W.keepIn K (.ref f__law_apart) = true)
  (b9 : PySem.W.nsIn K mainGlobals "_law_grown" = some (some (.ref f__law_grown)))
  (c9 : K.lookup f__law_grown = some ⟨o31, p31, .func (PySem.W.fnOf "_law_grown" "_law_grown" (defArgs s__law_grown) (defBody s__law_grown) (defScope s__law_grown) .none z22 a23 b23 d23 p15 c23), q31⟩)
  (d9 : PySem.W.codeIn K p15 "_law_grown" = true)
  (e9 : PySem.W.keepIn K (.ref f__law_grown) = true)
  (i1 : PySem.W.nsIn K mainGlobals "_law_write_right" = some (some (.ref f__law_write_right)))
  (j1 : K.lookup f__law_write_right = some ⟨r31, t31, .func (PySem.W.fnOf "_law_write_right" "_law_write_right" (defArgs s__law_write_right) (defBody s__law_write_right) (defScope s__law_write_right) .none e23 f23 g23 j23 q15 i23), u31⟩)
  (k1 : PySem.W.codeIn K q15 "_law_write_right" = true)
  (m1 : PySem.W.keepIn K (.ref f__law_write_right) = true)
  (e4 : PySem.W.nsIn K mainGlobals "_law_one_each" = some (some (.ref f__law_one_each)))
  (f4 : K.lookup f__law_one_each = some ⟨x31, y31, .func (PySem.W.fnOf "_law_one_each" "_law_one_each" (defArgs s__law_one_each) (defBody s__law_one_each) (defScope s__law_one_each) .none k23 m23 n23 p23 r15 o23), z31⟩)
  (g4 : PySem.W.codeIn K r15 "_law_one_each" = true)
  (i4 : PySem.W.keepIn K (.ref f__law_one_each) = true)
  (c7 : PySem.W.nsIn K mainGlobals "_law_within" = some (some (.ref f__law_within)))
  (d7 : K.lookup f__law_within = some ⟨a32, b32, .func (PySem.W.fnOf "_law_within" "_law_within" (defArgs s__law_within) (defBody s__law_within) (defScope s__law_within) .none q23 r23 t23 x23 t15 u23), c32⟩)
  (e7 : PySem.W.codeIn K t15 "_law_within" = true)
  (f7 : PySem.W.keepIn K (.ref f__law_within) = true)
  (g7 : PySem.W.nsIn K mainGlobals "_law_turned" = some (some (.ref f__law_turned)))
  (i7 : K.lookup f__law_turned = some ⟨d32, e32, .func (PySem.W.fnOf "_law_turned" "_law_turned" (defArgs s__law_turned) (defBody s__law_turned) (defScope s__law_turned) .none y23 z23 a24 c24 u15 b24), f32⟩)
  (j7 : PySem.W.codeIn K u15 "_law_turned" = true)
  (k7 : PySem.W.keepIn K (.ref f__law_turned) = true)
  (d10 : PySem.W.nsIn K mainGlobals "_law_deed" = some (some (.ref f__law_deed)))
  (e10 : K.lookup f__law_deed = some ⟨g32, i32, .func (PySem.W.fnOf "_law_deed" "_law_deed" (defArgs s__law_deed) (defBody s__law_deed) (defScope s__law_deed) .none d24 e24 f24 i24 x15 g24), j32⟩)
  (f10 : PySem.W.codeIn K x15 "_law_deed" = true)
  (g10 : PySem.W.keepIn K (.ref f__law_deed) = true)
  (g13 : PySem.W.nsIn K mainGlobals "law" = some (some (.ref f_law)))
  (r16 : K.lookup f_law = some ⟨k32, m32, .func (PySem.W.fnOf "law" "law" (defArgs s_law) (defBody s_law) (defScope s_law) .none y15 z15 a16 c16 n13 b16), n32⟩)
  (t16 : PySem.W.codeIn K n13 "law" = true)
  (u16 : PySem.W.keepIn K (.ref f_law) = true)
  (t12 : PySem.W.plainGet K C_Form Str.empty = true)
  (u12 : PySem.W.hasDictIn K C_Form = true)
  (x12 : PySem.W.plainOver K C_Form = true)
  (y12 : PySem.W.findIn K (.ref C_Form) "__setattr__" = some (some (.builtin "object.__setattr__")))
  (mk_Form : PySem.W.makesIn K C_Form = true)
  (z12 : PySem.W.keepIn K (.ref C_Form) = true)
  (no_Form_name : PySem.W.findIn K (.ref C_Form) "name" = some none)
  (no_Form_length : PySem.W.findIn K (.ref C_Form) "length" = some none)
  (no_Form_flow : PySem.W.findIn K (.ref C_Form) "flow" = some none)
  (r10 : PySem.W.plainGet K C_CodeSet Str.empty = true)
  (t10 : PySem.W.hasDictIn K C_CodeSet = true)
  (u10 : PySem.W.plainOver K C_CodeSet = true)
  (x10 : PySem.W.findIn K (.ref C_CodeSet) "__setattr__" = some (some (.builtin "object.__setattr__")))
  (mk_CodeSet : PySem.W.makesIn K C_CodeSet = true)
  (y10 : PySem.W.keepIn K (.ref C_CodeSet) = true)
  (no_CodeSet_stop : PySem.W.findIn K (.ref C_CodeSet) "stop" = some none)
  (no_CodeSet_order : PySem.W.findIn K (.ref C_CodeSet) "order" = some none)
  (no_CodeSet_table : PySem.W.findIn K (.ref C_CodeSet) "table" = some none)
  (x11 : PySem.W.plainGet K C_Layout Str.empty = true)
  (y11 : PySem.W.hasDictIn K C_Layout = true)
  (z11 : PySem.W.plainOver K C_Layout = true)
  (a12 : PySem.W.findIn K (.ref C_Layout) "__setattr__" = some (some (.builtin "object.__setattr__")))
  (mk_Layout : PySem.W.makesIn K C_Layout = true)
  (b12 : PySem.W.keepIn K (.ref C_Layout) = true)
  (no_Layout_held_unit : PySem.W.findIn K (.ref C_Layout) "held_unit" = some none)
  (no_Layout_held_chunk : PySem.W.findIn K (.ref C_Layout) "held_chunk" = some none)
  (z10 : PySem.W.plainGet K C_Sight Str.empty = true)
  (a11 : PySem.W.hasDictIn K C_Sight = true)
  (b11 : PySem.W.plainOver K C_Sight = true)
  (c11 : PySem.W.findIn K (.ref C_Sight) "__setattr__" = some (some (.builtin "object.__setattr__")))
  (mk_Sight : PySem.W.makesIn K C_Sight = true)
  (i12 : PySem.W.keepIn K (.ref C_Sight) = true)
  (no_Sight_grid : PySem.W.findIn K (.ref C_Sight) "grid" = some none)
  (no_Sight_cells : PySem.W.findIn K (.ref C_Sight) "cells" = some none)
  (no_Sight_shown : PySem.W.findIn K (.ref C_Sight) "shown" = some none)
  (x16 : PySem.W.nsIn K mainGlobals "len" = some none)
  (y16 : PySem.W.nsIn K mainGlobals "abs" = some none)
  (z16 : PySem.W.nsIn K mainGlobals "int" = some none)
  (a14 : PySem.W.nsIn K mainGlobals "list" = some none)
  (a13 : PySem.W.nsIn K mainGlobals "range" = some none)
  (f9 : PySem.W.nsIn K mainGlobals "isinstance" = some none)
  (b14 : PySem.W.nsIn K mainGlobals "bool" = some none)
  (a17 : PySem.W.nsIn K mainGlobals "str" = some none)
  (b13 : PySem.W.nsIn K mainGlobals "tuple" = some none)
  (b17 : PySem.W.nsIn K mainGlobals "all" = some none)
  (c17 : PySem.W.nsIn K mainGlobals "set" = some none)
  (j12 : PySem.W.nsIn K mainGlobals "sorted" = some none)
  (g9 : PySem.W.nsIn K mainGlobals "ValueError" = some none)
  (d17 : PySem.W.nsIn K mainGlobals "max" = some none)
  (e17 : PySem.W.nsIn K mainGlobals "min" = some none)
  (i10 : PySem.W.nsIn K mainGlobals "enumerate" = some none)
  (f17 : PySem.W.nsIn K mainGlobals "any" = some none)
  (c12 : PySem.W.nsIn K mainGlobals "LETTERS" = some (some (.str "abcdefghijklmnopqrstuvwxyz" f13)))
  (i5 : PySem.W.nsIn K mainGlobals "MOST_ADDRESS" = some (some (.int 23 k10)))
  (q12 : PySem.W.nsIn K mainGlobals "super" = some none)
  (i13 : PySem.W.nsIn K cStatics "thirdparty.any" = some none)
  (c14 : PySem.W.specialIn K (.builtin "object.__class__") "__get__" = some (some (.builtin "getset_descriptor.__get__")))
  (d14 : PySem.W.takesIn K (.builtin "object.__class__") = some true)
  (g17 : ((PySem.Challenge.pw_codestitch_k33_whole_more_writes_show_mo).main.scope.names.lookup ("super" : Str)).isSome = false)
  (m7 : PySem.W.nsIn K mainGlobals "BadAddress" = some (some (.ref C_BadAddress)))
  (j5 : K.lookup C_BadAddress = some (excClassObj r32 q40 C_BadAddress N40 t32 j24 true u32 m25 x32 n25 y32 z32 a33 b33 c33 d33 "ValueError.__new__"))
  (k5 : PySem.HandSPX.refsVE j24 = true)
  (m5 : PySem.W.findIn K (.ref C_BadAddress) "__setattr__" = some (some (.builtin "object.__setattr__")))
  (c0 : PySem.W.subIn K (.ref C_BadAddress) (.type "BaseException") = some true)
  (n5 : PySem.W.typeIn K (.ref C_BadAddress) = some (.type "type"))
  (o5 : PySem.W.keepIn K (.ref C_BadAddress) = true)
  (p5 : PySem.W.findIn K (.ref C_BadAddress) "__init__" = some (some (.ref f_BadAddressu_initu)))
  (q5 : PySem.W.typeIn K (.ref f_BadAddressu_initu) = some (.type "function"))
  (z1 : PySem.W.findIn K (.ref C_BadAddress) "at" = some none)
  (r1 : PySem.W.findIn K (.ref C_BadAddress) "__getattribute__" = some (some (.builtin "BaseException.__getattribute__")))
  (t1 : PySem.W.findIn K (.ref C_BadAddress) "__getattr__" = some none)
  (u1 : PySem.W.hasDictIn K C_BadAddress = true)
  (r5 : PySem.W.findIn K (.ref C_BadAddress) "__class__" = some (some (.builtin "object.__class__")))
  (t5 : PySem.W.mroIn K C_BadAddress (.type "object") = some true)
  (a0 : K.lookup f_BadAddressu_initu = some ⟨o32, p32, .func (PySem.W.ksFn "__init__" "BadAddress.__init__" (defArgs s_BadAddressu_initu) (defBody s_BadAddressu_initu) (defScope s_BadAddressu_initu) .none e16 f16 g16 j16 (.ref o12) i16 d16), q32⟩)
  (z0 : PySem.W.codeIn K (.ref o12) "BadAddress.__init__" = true)
  (a1 : PySem.W.keepIn K (.ref f_BadAddressu_initu) = true)
  (m0 : K.lookup o12 = some ⟨o25, q25, .fields k24, t25⟩)
  (n0 : k24[2]? = some (.str o13 e33))
  (o0 : (((PySem.Challenge.pw_codestitch_k33_whole_more_writes_show_mo).main.file : Str) == o13) = true)
  (p0 : K.lookup d16 = some ⟨p25, r25, .cell (some (.ref C_BadAddress)), u25⟩)
  (u5 : PySem.W.mroIn K C_BadAddress (.ref C_BadAddress) = some true)
  (x5 : PySem.W.ks_superIn K C_BadAddress C_BadAddress "__init__" = some (some (.builtin "ValueError.__init__")))
  (y5 : PySem.W.subIn K (.ref C_BadAddress) (.type "ValueError") = some true)
  (i9 : PySem.W.nsIn K mainGlobals "BadLayout" = some (some (.ref C_BadLayout)))
  (n7 : K.lookup C_BadLayout = some (excClassObj j33 q41 C_BadLayout N41 k33 m24 true m33 x25 n33 y25 o33 p33 q33 r33 t33 u33 "ValueError.__new__"))
  (o7 : PySem.HandSPX.refsVE m24 = true)
  (p7 : PySem.W.findIn K (.ref C_BadLayout) "__setattr__" = some (some (.builtin "object.__setattr__")))
  (q0 : PySem.W.subIn K (.ref C_BadLayout) (.type "BaseException") = some true)
  (q7 : PySem.W.typeIn K (.ref C_BadLayout) = some (.type "type"))
  (r7 : PySem.W.keepIn K (.ref C_BadLayout) = true)
  (t7 : PySem.W.findIn K (.ref C_BadLayout) "__init__" = some (some (.ref f_BadLayoutu_initu)))
  (u7 : PySem.W.typeIn K (.ref f_BadLayoutu_initu) = some (.type "function"))
  (n1 : PySem.W.findIn K (.ref C_BadLayout) "part" = some none)
  (c2 : PySem.W.findIn K (.ref C_BadLayout) "__getattribute__" = some (some (.builtin "BaseException.__getattribute__")))
  (d2 : PySem.W.findIn K (.ref C_BadLayout) "__getattr__" = some none)
  (e2 : PySem.W.hasDictIn K C_BadLayout = true)
  (x7 : PySem.W.findIn K (.ref C_BadLayout) "__class__" = some (some (.builtin "object.__class__")))
  (y7 : PySem.W.mroIn K C_BadLayout (.type "object") = some true)
  (b0 : K.lookup f_BadLayoutu_initu = some ⟨f33, g33, .func (PySem.W.ksFn "__init__" "BadLayout.__init__" (defArgs s_BadLayoutu_initu) (defBody s_BadLayoutu_initu) (defScope s_BadLayoutu_initu) .none m16 n16 o16 q16 (.ref p12) p16 k16), i33⟩)
  (o1 : PySem.W.codeIn K (.ref p12) "BadLayout.__init__" = true)
  (p1 : PySem.W.keepIn K (.ref f_BadLayoutu_initu) = true)
  (b1 : K.lookup p12 = some ⟨z25, b26, .fields n24, d26⟩)
  (c1 : n24[2]? = some (.str p13 x33))
  (d1 : (((PySem.Challenge.pw_codestitch_k33_whole_more_writes_show_mo).main.file : Str) == p13) = true)
  (e1 : K.lookup k16 = some ⟨a26, c26, .cell (some (.ref C_BadLayout)), e26⟩)
  (z7 : PySem.W.mroIn K C_BadLayout (.ref C_BadLayout) = some true)
  (a8 : PySem.W.ks_superIn K C_BadLayout C_BadLayout "__init__" = some (some (.builtin "ValueError.__init__")))
  (b8 : PySem.W.subIn K (.ref C_BadLayout) (.type "ValueError") = some true)
  (d12 : PySem.W.findIn K (.ref C_Sight) "__class__" = some (some (.builtin "object.__class__")))
  (e12 : PySem.W.mroIn K C_Sight (.type "object") = some true)
  (j4 : PySem.W.kitOne K (.ref C_Sight) (.ref C_Sight) = some true)
  (nsq_CodeSet : PySem.W.noSeq K C_CodeSet = true)
  (d0 : PySem.W.fnIn K f_CodeSetu_getitemu = true)
  (c13 : PySem.W.readsIn K C_Form (.type "type") = true)
  (k12 : PySem.W.specialIn K (.ref C_Form) "__getattribute__" = some (some (.builtin "type.__getattribute__")))
  (d11 : PySem.W.readsIn K C_CodeSet (.type "type") = true)
  (j10 : PySem.W.specialIn K (.ref C_CodeSet) "__getattribute__" = some (some (.builtin "type.__getattribute__")))
  (cvF : PySem.W.findCls K (.ref C_Form) (.type "type") "FLOWS" = some (.val (.ref a_FLOWS)))
  (lkF : K.lookup a_FLOWS = some ⟨.type "tuple", odF, .seq #[.str "next" tF1, .str "jump" tF2, .str "test" tF3, .str "end" tF4] nF, slF⟩)
  (cvM : PySem.W.findCls K (.ref C_CodeSet) (.type "type") "MOST_FORMS" = some (.val (.int 16 tM)))
  (f12 : PySem.W.readsIn K C_Layout (.type "type") = true)
  (e11 : PySem.W.specialIn K (.ref C_Layout) "__getattribute__" = some (some (.builtin "type.__getattribute__")))
  (d13 : PySem.W.findCls K (.ref C_Layout) (.type "type") "UNITS" = some (.val (.ref a_UNITS)))
  (e13 : K.lookup a_UNITS = some ⟨.type "tuple", e14, .seq #[.int 1 f14, .int 2 g14, .int 4 i14, .int 8 j14] k17, k14⟩)
  (m12 : PySem.W.findCls K (.ref C_Layout) (.type "type") "CHUNKS" = some (.val (.ref a_CHUNKS)))
  (n12 : K.lookup a_CHUNKS = some ⟨.type "tuple", q13, .seq #[.int 1 r13, .int 2 t13, .int 4 u13, .int 8 x13, .int 16 y13] m14, z13⟩)
  (nsB : PySem.W.subIn K (.ref C_BadAddress) (.type "StopIteration") = some false) :
  ∃ fd : FuncData, (∀ (s : Shared) (v : Value), BindsTo s fd ⟨[v], []⟩ [("_law_script", v)]) ∧ ∀ base : Heap, K.In base → base.Ns mainGlobals mg → FnOk PySem.Challenge.pw_codestitch_k33_whole_more_writes_show_mo w K mg base CX0 20 fa fd ["_law_script"] (spLaw K) := by
 have e := hfa.symm.trans (PySem.W.mg_of X G g13)
 cases e
 have F_is_byte := fun_mk (st := s_is_byte) i11 j11 k11
 have F_is_name := fun_mk (st := s_is_name) n11 o11 p11
 have F_Formu_initu := fun_mk (st := s_Formu_initu) b6 c6 d6
 have F_check_forms := fun_mk (st := s_check_forms) f6 g6 i6
 have F_CodeSetu_initu := fun_mk (st := s_CodeSetu_initu) i2 j2 k2
 have F_CodeSetu_containsu := fun_mk (st := s_CodeSetu_containsu) g0 i0 j0
 have F_CodeSetu_getitemu := fun_mk (st := s_CodeSetu_getitemu) u0 x0 y0
 have F_Layoutu_initu : FunD K "__init__" "Layout.__init__" (defArgs s_Layoutu_initu) (defBody s_Layoutu_initu) (defScope s_Layoutu_initu) [.int 1, .int 1] [] f_Layoutu_initu (PySem.W.fnOf "__init__" "Layout.__init__" (defArgs s_Layoutu_initu) (defBody s_Layoutu_initu) (defScope s_Layoutu_initu) (.ref tD8) kV8 dc8 pm8 an8 cd8 ct8) := ⟨⟨_, _, _, _, _, _, _, _, _, _, rfl, d3, e3, .inr ⟨by simp, _, _, _, _, rfl, m2, rfl, (.cons ⟨_, rfl⟩ (.cons ⟨_, rfl⟩ .nil))⟩, .inl rfl⟩, f3⟩
 have F_Layout_unit := fun_mk (st := s_Layout_unit) j6 k6 m6
 have F_Layout_chunk := fun_mk (st := s_Layout_chunk) o4 p4 q4
 have F_Layout_units := fun_mk (st := s_Layout_units) u4 x4 q1
 have F_Layout_span := fun_mk (st := s_Layout_span) p6 q6 a2
 have F_touched := fun_mk (st := s_touched) r11 t11 u11
 have F_split_units := fun_mk (st := s_split_units) t6 u6 x6
 have F_Sightu_initu := fun_mk (st := s_Sightu_initu) a5 b5 c5
 have F_Sight_present := fun_mk (st := s_Sight_present) m3 n3 o3
 have F_Sight_settled := fun_mk (st := s_Sight_settled) p3 q3 r3
 have F_Sight_write := fun_mk (st := s_Sight_write) a7 b7 b2
 have F_Sight_sync := fun_mk (st := s_Sight_sync) e8 f8 t3
 have F_Sight_contents := fun_mk (st := s_Sight_contents) z2 a3 k0
 have F_Sight_fetched := fun_mk (st := s_Sight_fetched) y3 z3 f1
 have F_Sight_fetches := fun_mk (st := s_Sight_fetches) c4 d4 g1
 have F__law_pen := fun_mk (st := s__law_pen) o10 p10 q10
 have F__law_draw := fun_mk (st := s__law_draw) k9 m9 n9
 have F__law_pick := fun_mk (st := s__law_pick) p9 q9 r9
 have F__law_forms := fun_mk (st := s__law_forms) i8 j8 k8
 have F__law_codes := fun_mk (st := s__law_codes) n8 o8 p8
 have F__law_byte := fun_mk (st := s__law_byte) u9 x9 y9
 have F__law_every := fun_mk (st := s__law_every) r8 t8 u8
 have F__law_held := fun_mk (st := s__law_held) a10 b10 c10
 have F__law_missing := fun_mk (st := s__law_missing) e5 f5 g5
 have F__law_apart := fun_mk (st := s__law_apart) y8 z8 a9
 have F__law_grown := fun_mk (st := s__law_grown) c9 d9 e9
 have F__law_write_right := fun_mk (st := s__law_write_right) j1 k1 m1
 have F__law_one_each := fun_mk (st := s__law_one_each) f4 g4 i4
 have F__law_within := fun_mk (st := s__law_within) d7 e7 f7
 have F__law_turned := fun_mk (st := s__law_turned) i7 j7 k7
 have F__law_deed := fun_mk (st := s__law_deed) e10 f10 g10
 have F_law := fun_mk (st := s_law) r16 t16 u16
 have F_BadAddressu_initu : Vc.FunS PySem.Challenge.pw_codestitch_k33_whole_more_writes_show_mo K mg "__init__" "BadAddress.__init__" s_BadAddressu_initu f_BadAddressu_initu (PySem.W.ksFn "__init__" "BadAddress.__init__" (defArgs s_BadAddressu_initu) (defBody s_BadAddressu_initu) (defScope s_BadAddressu_initu) .none e16 f16 g16 j16 (.ref o12) i16 d16) C_BadAddress "self" := ⟨⟨_, _, _, _, _, _, _, _, _, _, rfl, a0, z0, ⟨⟨_, _, _, a0⟩, ⟨_, rfl, rfl⟩, ⟨_, _, _, _, _, _, m0, n0, o0⟩, ⟨_, _, _, p0⟩, u5, x5, y5, PySem.W.mg_none_of X G q12, i13, g17⟩⟩, a1⟩
 have F_BadLayoutu_initu : Vc.FunS PySem.Challenge.pw_codestitch_k33_whole_more_writes_show_mo K mg "__init__" "BadLayout.__init__" s_BadLayoutu_initu f_BadLayoutu_initu (PySem.W.ksFn "__init__" "BadLayout.__init__" (defArgs s_BadLayoutu_initu) (defBody s_BadLayoutu_initu) (defScope s_BadLayoutu_initu) .none m16 n16 o16 q16 (.ref p12) p16 k16) C_BadLayout "self" := ⟨⟨_, _, _, _, _, _, _, _, _, _, rfl, b0, o1, ⟨⟨_, _, _, b0⟩, ⟨_, rfl, rfl⟩, ⟨_, _, _, _, _, _, b1, c1, d1⟩, ⟨_, _, _, e1⟩, z7, a8, b8, PySem.W.mg_none_of X G q12, i13, g17⟩⟩, p1⟩
 have T : Txt K mg { C_Form := C_Form, C_CodeSet := C_CodeSet, C_Layout := C_Layout, C_Sight := C_Sight, f_is_byte := f_is_byte, d_is_byte := PySem.W.fnOf "is_byte" "is_byte" (defArgs s_is_byte) (defBody s_is_byte) (defScope s_is_byte) .none kV1 dc1 pm1 an1 cd1 ct1, f_is_name := f_is_name, d_is_name := PySem.W.fnOf "is_name" "is_name" (defArgs s_is_name) (defBody s_is_name) (defScope s_is_name) .none kV2 dc2 pm2 an2 cd2 ct2, f_Formu_initu := f_Formu_initu, d_Formu_initu := PySem.W.fnOf "__init__" "Form.__init__" (defArgs s_Formu_initu) (defBody s_Formu_initu) (defScope s_Formu_initu) .none kV3 dc3 pm3 an3 cd3 ct3, f_check_forms := f_check_forms, d_check_forms := PySem.W.fnOf "check_forms" "check_forms" (defArgs s_check_forms) (defBody s_check_forms) (defScope s_check_forms) .none kV4 dc4 pm4 an4 cd4 ct4, f_CodeSetu_initu := f_CodeSetu_initu, d_CodeSetu_initu := PySem.W.fnOf "__init__" "CodeSet.__init__" (defArgs s_CodeSetu_initu) (defBody s_CodeSetu_initu) (defScope s_CodeSetu_initu) .none kV5 dc5 pm5 an5 cd5 ct5, f_CodeSetu_containsu := f_CodeSetu_containsu, d_CodeSetu_containsu := PySem.W.fnOf "__contains__" "CodeSet.__contains__" (defArgs s_CodeSetu_containsu) (defBody s_CodeSetu_containsu) (defScope s_CodeSetu_containsu) .none kV6 dc6 pm6 an6 cd6 ct6, f_CodeSetu_getitemu := f_CodeSetu_getitemu, d_CodeSetu_getitemu := PySem.W.fnOf "__getitem__" "CodeSet.__getitem__" (defArgs s_CodeSetu_getitemu) (defBody s_CodeSetu_getitemu) (defScope s_CodeSetu_getitemu) .none kV7 dc7 pm7 an7 cd7 ct7, f_Layoutu_initu := f_Layoutu_initu, d_Layoutu_initu := PySem.W.fnOf "__init__" "Layout.__init__" (defArgs s_Layoutu_initu) (defBody s_Layoutu_initu) (defScope s_Layoutu_initu) (.ref tD8) kV8 dc8 pm8 an8 cd8 ct8, f_Layout_unit := f_Layout_unit, d_Layout_unit := PySem.W.fnOf "unit" "Layout.unit" (defArgs s_Layout_unit) (defBody s_Layout_unit) (defScope s_Layout_unit) .none kV9 dc9 pm9 an9 cd9 ct9, pr_Layout_unit := pr9, f_Layout_chunk := f_Layout_chunk, d_Layout_chunk := PySem.W.fnOf "chunk" "Layout.chunk" (defArgs s_Layout_chunk) (defBody s_Layout_chunk) (defScope s_Layout_chunk) .none m17 n17 o17 q17 n14 p17, pr_Layout_chunk := j13, f_Layout_units := f_Layout_units, d_Layout_units := PySem.W.fnOf "units" "Layout.units" (defArgs s_Layout_units) (defBody s_Layout_units) (defScope s_Layout_units) .none r17 t17 u17 y17 o14 x17, f_Layout_span := f_Layout_span, d_Layout_span := PySem.W.fnOf "span" "Layout.span" (defArgs s_Layout_span) (defBody s_Layout_span) (defScope s_Layout_span) .none z17 a18 b18 d18 p14 c18, f_touched := f_touched, d_touched := PySem.W.fnOf "touched" "touched" (defArgs s_touched) (defBody s_touched) (defScope s_touched) .none e18 f18 g18 j18 q14 i18, f_split_units := f_split_units, d_split_units := PySem.W.fnOf "split_units" "split_units" (defArgs s_split_units) (defBody s_split_units) (defScope s_split_units) .none k18 m18 n18 p18 r14 o18, f_Sightu_initu := f_Sightu_initu, d_Sightu_initu := PySem.W.fnOf "__init__" "Sight.__init__" (defArgs s_Sightu_initu) (defBody s_Sightu_initu) (defScope s_Sightu_initu) .none q18 r18 t18 x18 t14 u18, f_Sight_present := f_Sight_present, d_Sight_present := PySem.W.fnOf "present" "Sight.present" (defArgs s_Sight_present) (defBody s_Sight_present) (defScope s_Sight_present) .none y18 z18 a19 c19 u14 b19, pr_Sight_present := k13, f_Sight_settled := f_Sight_settled, d_Sight_settled := PySem.W.fnOf "settled" "Sight.settled" (defArgs s_Sight_settled) (defBody s_Sight_settled) (defScope s_Sight_settled) .none d19 e19 f19 i19 x14 g19, pr_Sight_settled := m13, f_Sight_write := f_Sight_write, d_Sight_write := PySem.W.fnOf "write" "Sight.write" (defArgs s_Sight_write) (defBody s_Sight_write) (defScope s_Sight_write) .none j19 k19 m19 o19 y14 n19, f_Sight_sync := f_Sight_sync, d_Sight_sync := PySem.W.fnOf "sync" "Sight.sync" (defArgs s_Sight_sync) (defBody s_Sight_sync) (defScope s_Sight_sync) .none p19 q19 r19 u19 z14 t19, f_Sight_contents := f_Sight_contents, d_Sight_contents := PySem.W.fnOf "contents" "Sight.contents" (defArgs s_Sight_contents) (defBody s_Sight_contents) (defScope s_Sight_contents) .none x19 y19 z19 b20 a15 a20, f_Sight_fetched := f_Sight_fetched, d_Sight_fetched := PySem.W.fnOf "fetched" "Sight.fetched" (defArgs s_Sight_fetched) (defBody s_Sight_fetched) (defScope s_Sight_fetched) .none c20 d20 e20 g20 b15 f20, f_Sight_fetches := f_Sight_fetches, d_Sight_fetches := PySem.W.fnOf "fetches" "Sight.fetches" (defArgs s_Sight_fetches) (defBody s_Sight_fetches) (defScope s_Sight_fetches) .none i20 j20 k20 n20 c15 m20, f__law_pen := f__law_pen, d__law_pen := PySem.W.fnOf "_law_pen" "_law_pen" (defArgs s__law_pen) (defBody s__law_pen) (defScope s__law_pen) .none o20 p20 q20 t20 d15 r20, f__law_draw := f__law_draw, d__law_draw := PySem.W.fnOf "_law_draw" "_law_draw" (defArgs s__law_draw) (defBody s__law_draw) (defScope s__law_draw) .none u20 x20 y20 a21 e15 z20, f__law_pick := f__law_pick, d__law_pick := PySem.W.fnOf "_law_pick" "_law_pick" (defArgs s__law_pick) (defBody s__law_pick) (defScope s__law_pick) .none b21 c21 d21 f21 f15 e21, f__law_forms := f__law_forms, d__law_forms := PySem.W.fnOf "_law_forms" "_law_forms" (defArgs s__law_forms) (defBody s__law_forms) (defScope s__law_forms) .none g21 i21 j21 m21 g15 k21, f__law_codes := f__law_codes, d__law_codes := PySem.W.fnOf "_law_codes" "_law_codes" (defArgs s__law_codes) (defBody s__law_codes) (defScope s__law_codes) .none n21 o21 p21 r21 i15 q21, f__law_byte := f__law_byte, d__law_byte := PySem.W.fnOf "_law_byte" "_law_byte" (defArgs s__law_byte) (defBody s__law_byte) (defScope s__law_byte) .none t21 u21 x21 z21 j15 y21, f__law_every := f__law_every, d__law_every := PySem.W.fnOf "_law_every" "_law_every" (defArgs s__law_every) (defBody s__law_every) (defScope s__law_every) .none a22 b22 c22 e22 k15 d22, f__law_held := f__law_held, d__law_held := PySem.W.fnOf "_law_held" "_law_held" (defArgs s__law_held) (defBody s__law_held) (defScope s__law_held) .none f22 g22 i22 k22 m15 j22, f__law_missing := f__law_missing, d__law_missing := PySem.W.fnOf "_law_missing" "_law_missing" (defArgs s__law_missing) (defBody s__law_missing) (defScope s__law_missing) .none m22 n22 o22 q22 n15 p22, f__law_apart := f__law_apart, d__law_apart := PySem.W.fnOf "_law_apart" "_law_apart" (defArgs s__law_apart) (defBody s__law_apart) (defScope s__law_apart) .none r22 t22 u22 y22 o15 x22, f__law_grown := f__law_grown, d__law_grown := PySem.W.fnOf "_law_grown" "_law_grown" (defArgs s__law_grown) (defBody s__law_grown) (defScope s__law_grown) .none z22 a23 b23 d23 p15 c23, f__law_write_right := f__law_write_right, d__law_write_right := PySem.W.fnOf "_law_write_right" "_law_write_right" (defArgs s__law_write_right) (defBody s__law_write_right) (defScope s__law_write_right) .none e23 f23 g23 j23 q15 i23, f__law_one_each := f__law_one_each, d__law_one_each := PySem.W.fnOf "_law_one_each" "_law_one_each" (defArgs s__law_one_each) (defBody s__law_one_each) (defScope s__law_one_each) .none k23 m23 n23 p23 r15 o23, f__law_within := f__law_within, d__law_within := PySem.W.fnOf "_law_within" "_law_within" (defArgs s__law_within) (defBody s__law_within) (defScope s__law_within) .none q23 r23 t23 x23 t15 u23, f__law_turned := f__law_turned, d__law_turned := PySem.W.fnOf "_law_turned" "_law_turned" (defArgs s__law_turned) (defBody s__law_turned) (defScope s__law_turned) .none y23 z23 a24 c24 u15 b24, f__law_deed := f__law_deed, d__law_deed := PySem.W.fnOf "_law_deed" "_law_deed" (defArgs s__law_deed) (defBody s__law_deed) (defScope s__law_deed) .none d24 e24 f24 i24 x15 g24, f_law := fa, d_law := PySem.W.fnOf "law" "law" (defArgs s_law) (defBody s_law) (defScope s_law) .none y15 z15 a16 c16 n13 b16, C_BadAddress := C_BadAddress, f_BadAddressu_initu := f_BadAddressu_initu, d_BadAddressu_initu := PySem.W.ksFn "__init__" "BadAddress.__init__" (defArgs s_BadAddressu_initu) (defBody s_BadAddressu_initu) (defScope s_BadAddressu_initu) .none e16 f16 g16 j16 (.ref o12) i16 d16, C_BadLayout := C_BadLayout, f_BadLayoutu_initu := f_BadLayoutu_initu, d_BadLayoutu_initu := PySem.W.ksFn "__init__" "BadLayout.__init__" (defArgs s_BadLayoutu_initu) (defBody s_BadLayoutu_initu) (defScope s_BadLayoutu_initu) .none m16 n16 o16 q16 (.ref p12) p16 k16, a_FLOWS := a_FLOWS, a_UNITS := a_UNITS, a_CHUNKS := a_CHUNKS } := {
  g_Form := (PySem.W.mg_of X G r12),
  g_CodeSet := (PySem.W.mg_of X G m10),
  g_Layout := (PySem.W.mg_of X G f11),
  g_Sight := (PySem.W.mg_of X G g12),
  g_is_byte := (PySem.W.mg_of X G g11),
  F_is_byte := (F_is_byte),
  b_is_byte := (F_is_byte.binds (ps := ["value"]) fun _ _ _ _ _ _ us hl => match us, hl with | [_], _ => rfl),
  g_is_name := (PySem.W.mg_of X G m11),
  F_is_name := (F_is_name),
  b_is_name := (F_is_name.binds (ps := ["value"]) fun _ _ _ _ _ _ us hl => match us, hl with | [_], _ => rfl),
  F_Formu_initu := (F_Formu_initu),
  b_Formu_initu := (F_Formu_initu.binds (ps := ["self", "name", "length", "flow"]) fun _ _ _ _ _ _ us hl => match us, hl with | [_, _, _, _], _ => rfl),
  g_check_forms := (PySem.W.mg_of X G e6),
  F_check_forms := (F_check_forms),
  b_check_forms := (F_check_forms.binds (ps := ["stop", "forms"]) fun _ _ _ _ _ _ us hl => match us, hl with | [_, _], _ => rfl),
  F_CodeSetu_initu := (F_CodeSetu_initu),
  b_CodeSetu_initu := (F_CodeSetu_initu.binds (ps := ["self", "stop", "forms"]) fun _ _ _ _ _ _ us hl => match us, hl with | [_, _, _], _ => rfl),
  F_CodeSetu_containsu := (F_CodeSetu_containsu),
  b_CodeSetu_containsu := (F_CodeSetu_containsu.binds (ps := ["self", "byte"]) fun _ _ _ _ _ _ us hl => match us, hl with | [_, _], _ => rfl),
  F_CodeSetu_getitemu := (F_CodeSetu_getitemu),
  b_CodeSetu_getitemu := (F_CodeSetu_getitemu.binds (ps := ["self", "byte"]) fun _ _ _ _ _ _ us hl => match us, hl with | [_, _], _ => rfl),
  F_Layoutu_initu := (F_Layoutu_initu),
  b_Layoutu_initu := (Vc.bindsAll (ps := ["self", "unit", "chunk"]) F_Layoutu_initu (by simp) fun _ _ _ _ _ _ _ us its l1 l2 => match us, its, l1, l2 with | [_, _, _], [_, _], _, _ => ⟨_, rfl, rfl⟩),
  bd1_Layoutu_initu := (F_Layoutu_initu.binds1 (ps := ["self", "unit", "chunk"]) 1 0 (by simp) (by rfl) fun _ _ _ _ _ _ _ us its l1 l2 => match us, its, l1, l2 with | [_], [_, _], _, _ => ⟨_, rfl, rfl⟩),
  bd2_Layoutu_initu := (F_Layoutu_initu.binds1 (ps := ["self", "unit", "chunk"]) 2 1 (by simp) (by rfl) fun _ _ _ _ _ _ _ us its l1 l2 => match us, its, l1, l2 with | [_, _], [_, _], _, _ => ⟨_, rfl, rfl⟩),
  p_Layout_unit := (⟨k4, m4, n4, ⟨_, g3⟩⟩),
  F_Layout_unit := (F_Layout_unit),
  b_Layout_unit := (F_Layout_unit.binds (ps := ["self"]) fun _ _ _ _ _ _ us hl => match us, hl with | [_], _ => rfl),
  p_Layout_chunk := (⟨i3, j3, k3, ⟨_, n2⟩⟩),
  F_Layout_chunk := (F_Layout_chunk),
  b_Layout_chunk := (F_Layout_chunk.binds (ps := ["self"]) fun _ _ _ _ _ _ us hl => match us, hl with | [_], _ => rfl),
  F_Layout_units := (F_Layout_units),
  b_Layout_units := (F_Layout_units.binds (ps := ["self", "low", "high"]) fun _ _ _ _ _ _ us hl => match us, hl with | [_, _, _], _ => rfl),
  F_Layout_span := (F_Layout_span),
  b_Layout_span := (F_Layout_span.binds (ps := ["self", "unit", "size"]) fun _ _ _ _ _ _ us hl => match us, hl with | [_, _, _], _ => rfl),
  g_touched := (PySem.W.mg_of X G q11),
  F_touched := (F_touched),
  b_touched := (F_touched.binds (ps := ["size", "low", "high"]) fun _ _ _ _ _ _ us hl => match us, hl with | [_, _, _], _ => rfl),
  g_split_units := (PySem.W.mg_of X G r6),
  F_split_units := (F_split_units),
  b_split_units := (F_split_units.binds (ps := ["grid", "cells"]) fun _ _ _ _ _ _ us hl => match us, hl with | [_, _], _ => rfl),
  F_Sightu_initu := (F_Sightu_initu),
  b_Sightu_initu := (F_Sightu_initu.binds (ps := ["self", "layout", "values"]) fun _ _ _ _ _ _ us hl => match us, hl with | [_, _, _], _ => rfl),
  p_Sight_present := (⟨o2, p2, q2, ⟨_, x1⟩⟩),
  F_Sight_present := (F_Sight_present),
  b_Sight_present := (F_Sight_present.binds (ps := ["self"]) fun _ _ _ _ _ _ us hl => match us, hl with | [_], _ => rfl),
  p_Sight_settled := (⟨r2, t2, u2, ⟨_, y1⟩⟩),
  F_Sight_settled := (F_Sight_settled),
  b_Sight_settled := (F_Sight_settled.binds (ps := ["self"]) fun _ _ _ _ _ _ us hl => match us, hl with | [_], _ => rfl),
  F_Sight_write := (F_Sight_write),
  b_Sight_write := (F_Sight_write.binds (ps := ["self", "address", "values"]) fun _ _ _ _ _ _ us hl => match us, hl with | [_, _, _], _ => rfl),
  F_Sight_sync := (F_Sight_sync),
  b_Sight_sync := (F_Sight_sync.binds (ps := ["self"]) fun _ _ _ _ _ _ us hl => match us, hl with | [_], _ => rfl),
  F_Sight_contents := (F_Sight_contents),
  b_Sight_contents := (F_Sight_contents.binds (ps := ["self", "unit"]) fun _ _ _ _ _ _ us hl => match us, hl with | [_, _], _ => rfl),
  F_Sight_fetched := (F_Sight_fetched),
  b_Sight_fetched := (F_Sight_fetched.binds (ps := ["self", "codes", "place"]) fun _ _ _ _ _ _ us hl => match us, hl with | [_, _, _], _ => rfl),
  F_Sight_fetches := (F_Sight_fetches),
  b_Sight_fetches := (F_Sight_fetches.binds (ps := ["self", "codes", "place"]) fun _ _ _ _ _ _ us hl => match us, hl with | [_, _, _], _ => rfl),
  g__law_pen := (PySem.W.mg_of X G n10),
  F__law_pen := (F__law_pen),
  b__law_pen := (F__law_pen.binds (ps := ["_law_script"]) fun _ _ _ _ _ _ us hl => match us, hl with | [_], _ => rfl),
  g__law_draw := (PySem.W.mg_of X G j9),
  F__law_draw := (F__law_draw),
  b__law_draw := (F__law_draw.binds (ps := ["_law_pen_here", "_law_many"]) fun _ _ _ _ _ _ us hl => match us, hl with | [_, _], _ => rfl),
  g__law_pick := (PySem.W.mg_of X G o9),
  F__law_pick := (F__law_pick),
  b__law_pick := (F__law_pick.binds (ps := ["_law_pen_here", "_law_some"]) fun _ _ _ _ _ _ us hl => match us, hl with | [_, _], _ => rfl),
  g__law_forms := (PySem.W.mg_of X G g8),
  F__law_forms := (F__law_forms),
  b__law_forms := (F__law_forms.binds (ps := ["_law_pen_here"]) fun _ _ _ _ _ _ us hl => match us, hl with | [_], _ => rfl),
  g__law_codes := (PySem.W.mg_of X G m8),
  F__law_codes := (F__law_codes),
  b__law_codes := (F__law_codes.binds (ps := ["_law_stop", "_law_forms_here"]) fun _ _ _ _ _ _ us hl => match us, hl with | [_, _], _ => rfl),
  g__law_byte := (PySem.W.mg_of X G t9),
  F__law_byte := (F__law_byte),
  b__law_byte := (F__law_byte.binds (ps := ["_law_pen_here", "_law_stop", "_law_forms_here"]) fun _ _ _ _ _ _ us hl => match us, hl with | [_, _, _], _ => rfl),
  g__law_every := (PySem.W.mg_of X G q8),
  F__law_every := (F__law_every),
  b__law_every := (F__law_every.binds (ps := ["_law_sight", "_law_codes_here", "_law_size"]) fun _ _ _ _ _ _ us hl => match us, hl with | [_, _, _], _ => rfl),
  g__law_held := (PySem.W.mg_of X G z9),
  F__law_held := (F__law_held),
  b__law_held := (F__law_held.binds (ps := ["_law_sight", "_law_size", "_law_unit"]) fun _ _ _ _ _ _ us hl => match us, hl with | [_, _, _], _ => rfl),
  g__law_missing := (PySem.W.mg_of X G d5),
  F__law_missing := (F__law_missing),
  b__law_missing := (F__law_missing.binds (ps := ["_law_some", "_law_more"]) fun _ _ _ _ _ _ us hl => match us, hl with | [_, _], _ => rfl),
  g__law_apart := (PySem.W.mg_of X G x8),
  F__law_apart := (F__law_apart),
  b__law_apart := (F__law_apart.binds (ps := ["_law_place", "_law_unit", "_law_low", "_law_high"]) fun _ _ _ _ _ _ us hl => match us, hl with | [_, _, _, _], _ => rfl),
  g__law_grown := (PySem.W.mg_of X G b9),
  F__law_grown := (F__law_grown),
  b__law_grown := (F__law_grown.binds (ps := ["_law_before", "_law_later", "_law_unit", "_law_low", "_law_high"]) fun _ _ _ _ _ _ us hl => match us, hl with | [_, _, _, _, _], _ => rfl),
  g__law_write_right := (PySem.W.mg_of X G i1),
  F__law_write_right := (F__law_write_right),
  b__law_write_right := (F__law_write_right.binds (ps := ["_law_sight", "_law_codes_here", "_law_size", "_law_unit", "_law_deed_here"]) fun _ _ _ _ _ _ us hl => match us, hl with | [_, _, _, _, _], _ => rfl),
  g__law_one_each := (PySem.W.mg_of X G e4),
  F__law_one_each := (F__law_one_each),
  b__law_one_each := (F__law_one_each.binds (ps := ["_law_sight", "_law_codes_here", "_law_forms_here", "_law_size"]) fun _ _ _ _ _ _ us hl => match us, hl with | [_, _, _, _], _ => rfl),
  g__law_within := (PySem.W.mg_of X G c7),
  F__law_within := (F__law_within),
  b__law_within := (F__law_within.binds (ps := ["_law_sight", "_law_codes_here", "_law_size", "_law_unit"]) fun _ _ _ _ _ _ us hl => match us, hl with | [_, _, _, _], _ => rfl),
  g__law_turned := (PySem.W.mg_of X G g7),
  F__law_turned := (F__law_turned),
  b__law_turned := (F__law_turned.binds (ps := ["_law_pen_here", "_law_codes_here", "_law_cells", "_law_unit"]) fun _ _ _ _ _ _ us hl => match us, hl with | [_, _, _, _], _ => rfl),
  g__law_deed := (PySem.W.mg_of X G d10),
  F__law_deed := (F__law_deed),
  b__law_deed := (F__law_deed.binds (ps := ["_law_pen_here", "_law_size", "_law_stop", "_law_forms_here", "_law_now"]) fun _ _ _ _ _ _ us hl => match us, hl with | [_, _, _, _, _], _ => rfl),
  g_law := (PySem.W.mg_of X G g13),
  F_law := (F_law),
  b_law := (F_law.binds (ps := ["_law_script"]) fun _ _ _ _ _ _ us hl => match us, hl with | [_], _ => rfl),
  cl_Form := (⟨t12, u12, x12, y12⟩),
  mk_Form := (⟨mk_Form, z5, a6, z12⟩),
  no_Form_name := (no_Form_name),
  no_Form_length := (no_Form_length),
  no_Form_flow := (no_Form_flow),
  cl_CodeSet := (⟨r10, t10, u10, x10⟩),
  mk_CodeSet := (⟨mk_CodeSet, f2, g2, y10⟩),
  no_CodeSet_stop := (no_CodeSet_stop),
  no_CodeSet_order := (no_CodeSet_order),
  no_CodeSet_table := (no_CodeSet_table),
  cl_Layout := (⟨x11, y11, z11, a12⟩),
  mk_Layout := (⟨mk_Layout, b3, c3, b12⟩),
  m_Layout_units := (⟨r4, t4, q1⟩),
  m_Layout_span := (⟨n6, o6, a2⟩),
  no_Layout_held_unit := (no_Layout_held_unit),
  no_Layout_held_chunk := (no_Layout_held_chunk),
  cl_Sight := (⟨z10, a11, b11, c11⟩),
  mk_Sight := (⟨mk_Sight, y4, z4, i12⟩),
  m_Sight_write := (⟨y6, z6, b2⟩),
  m_Sight_sync := (⟨c8, d8, t3⟩),
  m_Sight_fetched := (⟨u3, x3, f1⟩),
  m_Sight_fetches := (⟨a4, b4, g1⟩),
  m_Sight_contents := (⟨x2, y2, k0⟩),
  no_Sight_grid := (no_Sight_grid),
  no_Sight_cells := (no_Sight_cells),
  no_Sight_shown := (no_Sight_shown),
  n_len := (PySem.W.mg_none_of X G x16),
  n_abs := (PySem.W.mg_none_of X G y16),
  n_int := (PySem.W.mg_none_of X G z16),
  n_list := (PySem.W.mg_none_of X G a14),
  n_range := (PySem.W.mg_none_of X G a13),
  n_isinstance := (PySem.W.mg_none_of X G f9),
  n_bool := (PySem.W.mg_none_of X G b14),
  n_str := (PySem.W.mg_none_of X G a17),
  n_tuple := (PySem.W.mg_none_of X G b13),
  n_all := (PySem.W.mg_none_of X G b17),
  n_set := (PySem.W.mg_none_of X G c17),
  n_sorted := (PySem.W.mg_none_of X G j12),
  n_ValueError := (PySem.W.mg_none_of X G g9),
  n_max := (PySem.W.mg_none_of X G d17),
  n_min := (PySem.W.mg_none_of X G e17),
  n_enumerate := (PySem.W.mg_none_of X G i10),
  n_any := (PySem.W.mg_none_of X G f17),
  g_LETTERS := (⟨_, PySem.W.mg_of X G c12⟩),
  g_MOST_ADDRESS := (⟨_, PySem.W.mg_of X G i5⟩),
  g_BadAddress := (PySem.W.mg_of X G m7),
  ox_BadAddress := (⟨⟨_, _, _, _, _, _, _, _, _, _, _, _, _, _, _, j5, k5⟩, m5, c0, n5, o5⟩),
  i_BadAddress := (p5),
  ti_BadAddress := (q5),
  no_BadAddress_at := (z1),
  xf_BadAddress := (⟨r1, t1, c0, u1⟩),
  ec_BadAddress := (⟨r1, t1, c0, u1, r5, c14, d14, t5⟩),
  F_BadAddressu_initu := (F_BadAddressu_initu),
  b_BadAddressu_initu := (F_BadAddressu_initu.binds (ps := ["self", "at"]) fun _ _ _ _ _ _ _ us hl => match us, hl with | [_, _], _ => rfl),
  g_BadLayout := (PySem.W.mg_of X G i9),
  ox_BadLayout := (⟨⟨_, _, _, _, _, _, _, _, _, _, _, _, _, _, _, n7, o7⟩, p7, q0, q7, r7⟩),
  i_BadLayout := (t7),
  ti_BadLayout := (u7),
  no_BadLayout_part := (n1),
  xf_BadLayout := (⟨c2, d2, q0, e2⟩),
  ec_BadLayout := (⟨c2, d2, q0, e2, x7, c14, d14, y7⟩),
  F_BadLayoutu_initu := (F_BadLayoutu_initu),
  b_BadLayoutu_initu := (F_BadLayoutu_initu.binds (ps := ["self", "part"]) fun _ _ _ _ _ _ _ us hl => match us, hl with | [_, _], _ => rfl),
  ic_Sight := (⟨⟨z10, a11, b11, c11⟩, d12, c14, d14, e12, j4⟩),
  nsq_CodeSet := (nsq_CodeSet),
  sp_CodeSet_CodeSetu_containsu := (⟨e0, f0⟩),
  sp_CodeSet_CodeSetu_getitemu := (⟨r0, t0⟩),
  spf_CodeSetu_getitemu := (d0),
  cr_Form := (⟨c13, k12⟩),
  cr_CodeSet := (⟨d11, j10⟩),
  cv_FLOWS := (⟨cvF, rfl⟩),
  q_FLOWS := (fun H => .inr ⟨_, _, _, lkF, rfl, rfl, by show 4 ≤ sizeLine; decide, .cons ⟨_, rfl⟩ (.cons ⟨_, rfl⟩ (.cons ⟨_, rfl⟩ (.cons ⟨_, rfl⟩ .nil)))⟩),
  cv_MOST := (⟨_, cvM, _, rfl⟩),
  cr_Layout := (⟨f12, e11⟩),
  cv_UNITS := (⟨d13, rfl⟩),
  q_UNITS := (fun H => .inr ⟨_, _, _, e13, rfl, rfl, by show 4 ≤ sizeLine; decide, (.cons ⟨_, rfl⟩ (.cons ⟨_, rfl⟩ (.cons ⟨_, rfl⟩ (.cons ⟨_, rfl⟩ .nil))))⟩),
  cv_CHUNKS := (⟨m12, rfl⟩),
  q_CHUNKS := (fun H => .inr ⟨_, _, _, n12, rfl, rfl, by show 5 ≤ sizeLine; decide, (.cons ⟨_, rfl⟩ (.cons ⟨_, rfl⟩ (.cons ⟨_, rfl⟩ (.cons ⟨_, rfl⟩ (.cons ⟨_, rfl⟩ .nil)))))⟩),
  ns_BadAddress := (nsB) }
 exact ⟨PySem.W.fnOf "law" "law" (defArgs s_law) (defBody s_law) (defScope s_law) .none y15 z15 a16 c16 n13 b16, fun s v => .of_eq rfl, fun base _ _ => ok_law T⟩
theorem all_mk2 {w : World} {K : PySem.W.Frag} {h : Heap} {mg : Str → Option Value} {fa : Addr} (X : K.In h) (G : h.Ns mainGlobals mg) (hfa : mg "law" = some (.ref fa)) (c : Hx.chk faN K = true) (E : fnN.map (Hx.fnQ K) = fnN.map Hx.Dq.val) :
  ∃ fd : FuncData, (∀ (s : Shared) (v : Value), BindsTo s fd ⟨[v], []⟩ [("_law_script", v)]) ∧ ∀ base : Heap, K.In base → base.Ns mainGlobals mg → FnOk PySem.Challenge.pw_codestitch_k33_whole_more_writes_show_mo w K mg base CX0 20 fa fd ["_law_script"] (spLaw K) := by
 obtain ⟨B0, c⟩ := Hx.chk_app c
 obtain ⟨B1, c⟩ := Hx.chk_app c
 obtain ⟨B2, c⟩ := Hx.chk_app c
 obtain ⟨B3, c⟩ := Hx.chk_app c
 obtain ⟨B4, c⟩ := Hx.chk_app c
 obtain ⟨B5, c⟩ := Hx.chk_app c
 have B6 : Hx.chk fa6 K = true := c
 have r12 : PySem.W.nsIn K mainGlobals "Form" = some (some (.ref 307)) := of_decide_eq_true (Hx.fact B0 0 rfl)
 have m10 : PySem.W.nsIn K mainGlobals "CodeSet" = some (some (.ref 395)) := of_decide_eq_true (Hx.fact B0 1 rfl)
 have f11 : PySem.W.nsIn K mainGlobals "Layout" = some (some (.ref 259)) := of_decide_eq_true (Hx.fact B0 2 rfl)
 have g12 : PySem.W.nsIn K mainGlobals "Sight" = some (some (.ref 599)) := of_decide_eq_true (Hx.fact B0 3 rfl)
 have g11 : PySem.W.nsIn K mainGlobals "is_byte" = some (some (.ref 270)) := of_decide_eq_true (Hx.fact B0 4 rfl)
 obtain ⟨oc1, kV1, dc1, pm1, cd1, ct1, od1, an1, sl1, i11, j11⟩ := Hx.plain_ok (Hx.at_map E 0 rfl) (Hx.fact B0 5 rfl)
 have k11 : PySem.W.keepIn K (.ref 270) = true := (Hx.fact B0 6 rfl)
 have m11 : PySem.W.nsIn K mainGlobals "is_name" = some (some (.ref 275)) := of_decide_eq_true (Hx.fact B0 7 rfl)
 obtain ⟨oc2, kV2, dc2, pm2, cd2, ct2, od2, an2, sl2, n11, o11⟩ := Hx.plain_ok (Hx.at_map E 1 rfl) (Hx.fact B0 8 rfl)
 have p11 : PySem.W.keepIn K (.ref 275) = true := (Hx.fact B0 9 rfl)
 have z5 : PySem.W.findIn K (.ref 307) "__init__" = some (some (.ref 290)) := of_decide_eq_true (Hx.fact B0 10 rfl)
 have a6 : PySem.W.isFn K (.ref 290) = true := (Hx.fact B0 11 rfl)
 obtain ⟨oc3, kV3, dc3, pm3, cd3, ct3, od3, an3, sl3, b6, c6⟩ := Hx.plain_ok (Hx.at_map E 2 rfl) (Hx.fact B0 12 rfl)
 have d6 : PySem.W.keepIn K (.ref 290) = true := (Hx.fact B0 13 rfl)
 have e6 : PySem.W.nsIn K mainGlobals "check_forms" = some (some (.ref 316)) := of_decide_eq_true (Hx.fact B0 14 rfl)
 obtain ⟨oc4, kV4, dc4, pm4, cd4, ct4, od4, an4, sl4, f6, g6⟩ := Hx.plain_ok (Hx.at_map E 3 rfl) (Hx.fact B0 15 rfl)
 have i6 : PySem.W.keepIn K (.ref 316) = true := (Hx.fact B0 16 rfl)
 have f2 : PySem.W.findIn K (.ref 395) "__init__" = some (some (.ref 328)) := of_decide_eq_true (Hx.fact B0 17 rfl)
 have g2 : PySem.W.isFn K (.ref 328) = true := (Hx.fact B0 18 rfl)
 obtain ⟨oc5, kV5, dc5, pm5, cd5, ct5, od5, an5, sl5, i2, j2⟩ := Hx.plain_ok (Hx.at_map E 4 rfl) (Hx.fact B0 19 rfl)
 have k2 : PySem.W.keepIn K (.ref 328) = true := (Hx.fact B0 20 rfl)
 have e0 : PySem.W.findIn K (.ref 395) "__contains__" = some (some (.ref 345)) := of_decide_eq_true (Hx.fact B0 21 rfl)
 have f0 : PySem.W.isFn K (.ref 345) = true := (Hx.fact B0 22 rfl)
 obtain ⟨oc6, kV6, dc6, pm6, cd6, ct6, od6, an6, sl6, g0, i0⟩ := Hx.plain_ok (Hx.at_map E 5 rfl) (Hx.fact B0 23 rfl)
 have j0 : PySem.W.keepIn K (.ref 345) = true := (Hx.fact B0 24 rfl)
 have r0 : PySem.W.findIn K (.ref 395) "__getitem__" = some (some (.ref 352)) := of_decide_eq_true (Hx.fact B0 25 rfl)
 have t0 : PySem.W.isFn K (.ref 352) = true := (Hx.fact B0 26 rfl)
 obtain ⟨oc7, kV7, dc7, pm7, cd7, ct7, od7, an7, sl7, u0, x0⟩ := Hx.plain_ok (Hx.at_map E 6 rfl) (Hx.fact B0 27 rfl)
 have y0 : PySem.W.keepIn K (.ref 352) = true := (Hx.fact B0 28 rfl)
 have b3 : PySem.W.findIn K (.ref 259) "__init__" = some (some (.ref 187)) := of_decide_eq_true (Hx.fact B0 29 rfl)
 have c3 : PySem.W.isFn K (.ref 187) = true := (Hx.fact B0 30 rfl)
 obtain ⟨oc8, kV8, dc8, pm8, cd8, ct8, od8, an8, sl8, d3, e3⟩ := Hx.dfl_ok (Hx.at_map E 7 rfl) (Hx.fact B0 31 rfl)
 have f3 : PySem.W.keepIn K (.ref 187) = true := (Hx.fact B0 32 rfl)
 obtain ⟨y27, l_, nD8, z27, m2, v_⟩ := Hx.seq_ok (Hx.fact B0 33 rfl)
 rcases v_ with _ | ⟨⟨e25, rfl⟩, v_⟩
 rcases v_ with _ | ⟨⟨f25, rfl⟩, v_⟩
 cases v_
 have k4 : PySem.W.findIn K (.ref 259) "unit" = some (some (.ref 204)) := of_decide_eq_true (Hx.fact B0 34 rfl)
 have m4 : PySem.W.specialIn K (.ref 204) "__get__" = some (some (.builtin "property.__get__")) := of_decide_eq_true (Hx.fact B0 35 rfl)
 have n4 : PySem.W.takesIn K (.ref 204) = some true := of_decide_eq_true (Hx.fact B0 36 rfl)
 obtain ⟨f28, g3⟩ := Hx.rec1_ok (Hx.fact B0 37 rfl)
 obtain ⟨oc9, kV9, dc9, pm9, cd9, ct9, od9, an9, sl9, j6, k6⟩ := Hx.plain_ok (Hx.at_map E 8 rfl) (Hx.fact B0 38 rfl)
 have m6 : PySem.W.keepIn K (.ref 194) = true := (Hx.fact B0 39 rfl)
 have i3 : PySem.W.findIn K (.ref 259) "chunk" = some (some (.ref 221)) := of_decide_eq_true (Hx.fact B1 0 rfl)
 have j3 : PySem.W.specialIn K (.ref 221) "__get__" = some (some (.builtin "property.__get__")) := of_decide_eq_true (Hx.fact B1 1 rfl)
 have k3 : PySem.W.takesIn K (.ref 221) = some true := of_decide_eq_true (Hx.fact B1 2 rfl)
 obtain ⟨i25, n2⟩ := Hx.rec1_ok (Hx.fact B1 3 rfl)
 obtain ⟨g28, m17, n17, o17, n14, p17, i28, q17, j28, o4, p4⟩ := Hx.plain_ok (Hx.at_map E 9 rfl) (Hx.fact B1 4 rfl)
 have q4 : PySem.W.keepIn K (.ref 211) = true := (Hx.fact B1 5 rfl)
 have r4 : PySem.W.findIn K (.ref 259) "units" = some (some (.ref 235)) := of_decide_eq_true (Hx.fact B1 6 rfl)
 have t4 : PySem.W.isFn K (.ref 235) = true := (Hx.fact B1 7 rfl)
 obtain ⟨k28, r17, t17, u17, o14, x17, m28, y17, n28, u4, x4⟩ := Hx.plain_ok (Hx.at_map E 10 rfl) (Hx.fact B1 8 rfl)
 have q1 : PySem.W.keepIn K (.ref 235) = true := (Hx.fact B1 9 rfl)
 have n6 : PySem.W.findIn K (.ref 259) "span" = some (some (.ref 249)) := of_decide_eq_true (Hx.fact B1 10 rfl)
 have o6 : PySem.W.isFn K (.ref 249) = true := (Hx.fact B1 11 rfl)
 obtain ⟨o28, z17, a18, b18, p14, c18, p28, d18, q28, p6, q6⟩ := Hx.plain_ok (Hx.at_map E 11 rfl) (Hx.fact B1 12 rfl)
 have a2 : PySem.W.keepIn K (.ref 249) = true := (Hx.fact B1 13 rfl)
 have q11 : PySem.W.nsIn K mainGlobals "touched" = some (some (.ref 170)) := of_decide_eq_true (Hx.fact B1 14 rfl)
 obtain ⟨r28, e18, f18, g18, q14, i18, t28, j18, u28, r11, t11⟩ := Hx.plain_ok (Hx.at_map E 12 rfl) (Hx.fact B1 15 rfl)
 have u11 : PySem.W.keepIn K (.ref 170) = true := (Hx.fact B1 16 rfl)
 have r6 : PySem.W.nsIn K mainGlobals "split_units" = some (some (.ref 515)) := of_decide_eq_true (Hx.fact B1 17 rfl)
 obtain ⟨x28, k18, m18, n18, r14, o18, y28, p18, z28, t6, u6⟩ := Hx.plain_ok (Hx.at_map E 13 rfl) (Hx.fact B1 18 rfl)
 have x6 : PySem.W.keepIn K (.ref 515) = true := (Hx.fact B1 19 rfl)
 have y4 : PySem.W.findIn K (.ref 599) "__init__" = some (some (.ref 527)) := of_decide_eq_true (Hx.fact B1 20 rfl)
 have z4 : PySem.W.isFn K (.ref 527) = true := (Hx.fact B1 21 rfl)
 obtain ⟨a29, q18, r18, t18, t14, u18, b29, x18, c29, a5, b5⟩ := Hx.plain_ok (Hx.at_map E 14 rfl) (Hx.fact B1 22 rfl)
 have c5 : PySem.W.keepIn K (.ref 527) = true := (Hx.fact B1 23 rfl)
 have o2 : PySem.W.findIn K (.ref 599) "present" = some (some (.ref 545)) := of_decide_eq_true (Hx.fact B1 24 rfl)
 have p2 : PySem.W.specialIn K (.ref 545) "__get__" = some (some (.builtin "property.__get__")) := of_decide_eq_true (Hx.fact B1 25 rfl)
 have q2 : PySem.W.takesIn K (.ref 545) = some true := of_decide_eq_true (Hx.fact B1 26 rfl)
 obtain ⟨j25, x1⟩ := Hx.rec1_ok (Hx.fact B1 27 rfl)
 obtain ⟨d29, y18, z18, a19, u14, b19, e29, c19, f29, m3, n3⟩ := Hx.plain_ok (Hx.at_map E 15 rfl) (Hx.fact B1 28 rfl)
 have o3 : PySem.W.keepIn K (.ref 544) = true := (Hx.fact B1 29 rfl)
 have r2 : PySem.W.findIn K (.ref 599) "settled" = some (some (.ref 551)) := of_decide_eq_true (Hx.fact B1 30 rfl)
 have t2 : PySem.W.specialIn K (.ref 551) "__get__" = some (some (.builtin "property.__get__")) := of_decide_eq_true (Hx.fact B1 31 rfl)
 have u2 : PySem.W.takesIn K (.ref 551) = some true := of_decide_eq_true (Hx.fact B1 32 rfl)
 obtain ⟨k25, y1⟩ := Hx.rec1_ok (Hx.fact B1 33 rfl)
 obtain ⟨g29, d19, e19, f19, x14, g19, i29, i19, j29, p3, q3⟩ := Hx.plain_ok (Hx.at_map E 16 rfl) (Hx.fact B1 34 rfl)
 have r3 : PySem.W.keepIn K (.ref 550) = true := (Hx.fact B1 35 rfl)
 have y6 : PySem.W.findIn K (.ref 599) "write" = some (some (.ref 558)) := of_decide_eq_true (Hx.fact B1 36 rfl)
 have z6 : PySem.W.isFn K (.ref 558) = true := (Hx.fact B1 37 rfl)
 obtain ⟨k29, j19, k19, m19, y14, n19, m29, o19, n29, a7, b7⟩ := Hx.plain_ok (Hx.at_map E 17 rfl) (Hx.fact B1 38 rfl)
 have b2 : PySem.W.keepIn K (.ref 558) = true := (Hx.fact B1 39 rfl)
 have c8 : PySem.W.findIn K (.ref 599) "sync" = some (some (.ref 563)) := of_decide_eq_true (Hx.fact B2 0 rfl)
 have d8 : PySem.W.isFn K (.ref 563) = true := (Hx.fact B2 1 rfl)
 obtain ⟨o29, p19, q19, r19, z14, t19, p29, u19, q29, e8, f8⟩ := Hx.plain_ok (Hx.at_map E 18 rfl) (Hx.fact B2 2 rfl)
 have t3 : PySem.W.keepIn K (.ref 563) = true := (Hx.fact B2 3 rfl)
 have x2 : PySem.W.findIn K (.ref 599) "contents" = some (some (.ref 577)) := of_decide_eq_true (Hx.fact B2 4 rfl)
 have y2 : PySem.W.isFn K (.ref 577) = true := (Hx.fact B2 5 rfl)
 obtain ⟨r29, x19, y19, z19, a15, a20, t29, b20, u29, z2, a3⟩ := Hx.plain_ok (Hx.at_map E 19 rfl) (Hx.fact B2 6 rfl)
 have k0 : PySem.W.keepIn K (.ref 577) = true := (Hx.fact B2 7 rfl)
 have u3 : PySem.W.findIn K (.ref 599) "fetched" = some (some (.ref 582)) := of_decide_eq_true (Hx.fact B2 8 rfl)
 have x3 : PySem.W.isFn K (.ref 582) = true := (Hx.fact B2 9 rfl)
 obtain ⟨x29, c20, d20, e20, b15, f20, y29, g20, z29, y3, z3⟩ := Hx.plain_ok (Hx.at_map E 20 rfl) (Hx.fact B2 10 rfl)
 have f1 : PySem.W.keepIn K (.ref 582) = true := (Hx.fact B2 11 rfl)
 have a4 : PySem.W.findIn K (.ref 599) "fetches" = some (some (.ref 589)) := of_decide_eq_true (Hx.fact B2 12 rfl)
 have b4 : PySem.W.isFn K (.ref 589) = true := (Hx.fact B2 13 rfl)
 obtain ⟨a30, i20, j20, k20, c15, m20, b30, n20, c30, c4, d4⟩ := Hx.plain_ok (Hx.at_map E 21 rfl) (Hx.fact B2 14 rfl)
 have g1 : PySem.W.keepIn K (.ref 589) = true := (Hx.fact B2 15 rfl)
 have n10 : PySem.W.nsIn K mainGlobals "_law_pen" = some (some (.ref 610)) := of_decide_eq_true (Hx.fact B2 16 rfl)
 obtain ⟨d30, o20, p20, q20, d15, r20, e30, t20, f30, o10, p10⟩ := Hx.plain_ok (Hx.at_map E 22 rfl) (Hx.fact B2 17 rfl)
 have q10 : PySem.W.keepIn K (.ref 610) = true := (Hx.fact B2 18 rfl)
 have j9 : PySem.W.nsIn K mainGlobals "_law_draw" = some (some (.ref 617)) := of_decide_eq_true (Hx.fact B2 19 rfl)
 obtain ⟨g30, u20, x20, y20, e15, z20, i30, a21, j30, k9, m9⟩ := Hx.plain_ok (Hx.at_map E 23 rfl) (Hx.fact B2 20 rfl)
 have n9 : PySem.W.keepIn K (.ref 617) = true := (Hx.fact B2 21 rfl)
 have o9 : PySem.W.nsIn K mainGlobals "_law_pick" = some (some (.ref 624)) := of_decide_eq_true (Hx.fact B2 22 rfl)
 obtain ⟨k30, b21, c21, d21, f15, e21, m30, f21, n30, p9, q9⟩ := Hx.plain_ok (Hx.at_map E 24 rfl) (Hx.fact B2 23 rfl)
 have r9 : PySem.W.keepIn K (.ref 624) = true := (Hx.fact B2 24 rfl)
 have g8 : PySem.W.nsIn K mainGlobals "_law_forms" = some (some (.ref 629)) := of_decide_eq_true (Hx.fact B2 25 rfl)
 obtain ⟨o30, g21, i21, j21, g15, k21, p30, m21, q30, i8, j8⟩ := Hx.plain_ok (Hx.at_map E 25 rfl) (Hx.fact B2 26 rfl)
 have k8 : PySem.W.keepIn K (.ref 629) = true := (Hx.fact B2 27 rfl)
 have m8 : PySem.W.nsIn K mainGlobals "_law_codes" = some (some (.ref 636)) := of_decide_eq_true (Hx.fact B2 28 rfl)
 obtain ⟨r30, n21, o21, p21, i15, q21, t30, r21, u30, n8, o8⟩ := Hx.plain_ok (Hx.at_map E 26 rfl) (Hx.fact B2 29 rfl)
 have p8 : PySem.W.keepIn K (.ref 636) = true := (Hx.fact B2 30 rfl)
 have t9 : PySem.W.nsIn K mainGlobals "_law_byte" = some (some (.ref 643)) := of_decide_eq_true (Hx.fact B2 31 rfl)
 obtain ⟨x30, t21, u21, x21, j15, y21, y30, z21, z30, u9, x9⟩ := Hx.plain_ok (Hx.at_map E 27 rfl) (Hx.fact B2 32 rfl)
 have y9 : PySem.W.keepIn K (.ref 643) = true := (Hx.fact B2 33 rfl)
 have q8 : PySem.W.nsIn K mainGlobals "_law_every" = some (some (.ref 648)) := of_decide_eq_true (Hx.fact B2 34 rfl)
 obtain ⟨a31, a22, b22, c22, k15, d22, b31, e22, c31, r8, t8⟩ := Hx.plain_ok (Hx.at_map E 28 rfl) (Hx.fact B2 35 rfl)
 have u8 : PySem.W.keepIn K (.ref 648) = true := (Hx.fact B2 36 rfl)
 have z9 : PySem.W.nsIn K mainGlobals "_law_held" = some (some (.ref 653)) := of_decide_eq_true (Hx.fact B2 37 rfl)
 obtain ⟨d31, f22, g22, i22, m15, j22, e31, k22, f31, a10, b10⟩ := Hx.plain_ok (Hx.at_map E 29 rfl) (Hx.fact B2 38 rfl)
 have c10 : PySem.W.keepIn K (.ref 653) = true := (Hx.fact B2 39 rfl)
 have d5 : PySem.W.nsIn K mainGlobals "_law_missing" = some (some (.ref 658)) := of_decide_eq_true (Hx.fact B3 0 rfl)
 obtain ⟨g31, m22, n22, o22, n15, p22, i31, q22, j31, e5, f5⟩ := Hx.plain_ok (Hx.at_map E 30 rfl) (Hx.fact B3 1 rfl)
 have g5 : PySem.W.keepIn K (.ref 658) = true := (Hx.fact B3 2 rfl)
 have x8 : PySem.W.nsIn K mainGlobals "_law_apart" = some (some (.ref 665)) := of_decide_eq_true (Hx.fact B3 3 rfl)
 obtain ⟨k31, r22, t22, u22, o15, x22, m31, y22, n31, y8, z8⟩ := Hx.plain_ok (Hx.at_map E 31 rfl) (Hx.fact B3 4 rfl)
 have a9 : PySem.W.keepIn K (.ref 665) = true := (Hx.fact B3 5 rfl)
 have b9 : PySem.W.nsIn K mainGlobals "_law_grown" = some (some (.ref 672)) := of_decide_eq_true (Hx.fact B3 6 rfl)
 obtain ⟨o31, z22, a23, b23, p15, c23, p31, d23, q31, c9, d9⟩ := Hx.plain_ok (Hx.at_map E 32 rfl) (Hx.fact B3 7 rfl)
 have e9 : PySem.W.keepIn K (.ref 672) = true := (Hx.fact B3 8 rfl)
 have i1 : PySem.W.nsIn K mainGlobals "_law_write_right" = some (some (.ref 679)) := of_decide_eq_true (Hx.fact B3 9 rfl)
 obtain ⟨r31, e23, f23, g23, q15, i23, t31, j23, u31, j1, k1⟩ := Hx.plain_ok (Hx.at_map E 33 rfl) (Hx.fact B3 10 rfl)
 have m1 : PySem.W.keepIn K (.ref 679) = true := (Hx.fact B3 11 rfl)
 have e4 : PySem.W.nsIn K mainGlobals "_law_one_each" = some (some (.ref 686)) := of_decide_eq_true (Hx.fact B3 12 rfl)
 obtain ⟨x31, k23, m23, n23, r15, o23, y31, p23, z31, f4, g4⟩ := Hx.plain_ok (Hx.at_map E 34 rfl) (Hx.fact B3 13 rfl)
 have i4 : PySem.W.keepIn K (.ref 686) = true := (Hx.fact B3 14 rfl)
 have c7 : PySem.W.nsIn K mainGlobals "_law_within" = some (some (.ref 691)) := of_decide_eq_true (Hx.fact B3 15 rfl)
 obtain ⟨a32, q23, r23, t23, t15, u23, b32, x23, c32, d7, e7⟩ := Hx.plain_ok (Hx.at_map E 35 rfl) (Hx.fact B3 16 rfl)
 have f7 : PySem.W.keepIn K (.ref 691) = true := (Hx.fact B3 17 rfl)
 have g7 : PySem.W.nsIn K mainGlobals "_law_turned" = some (some (.ref 698)) := of_decide_eq_true (Hx.fact B3 18 rfl)
 obtain ⟨d32, y23, z23, a24, u15, b24, e32, c24, f32, i7, j7⟩ := Hx.plain_ok (Hx.at_map E 36 rfl) (Hx.fact B3 19 rfl)
 have k7 : PySem.W.keepIn K (.ref 698) = true := (Hx.fact B3 20 rfl)
 have d10 : PySem.W.nsIn K mainGlobals "_law_deed" = some (some (.ref 703)) := of_decide_eq_true (Hx.fact B3 21 rfl)
 obtain ⟨g32, d24, e24, f24, x15, g24, i32, i24, j32, e10, f10⟩ := Hx.plain_ok (Hx.at_map E 37 rfl) (Hx.fact B3 22 rfl)
 have g10 : PySem.W.keepIn K (.ref 703) = true := (Hx.fact B3 23 rfl)
 have g13 : PySem.W.nsIn K mainGlobals "law" = some (some (.ref 708)) := of_decide_eq_true (Hx.fact B3 24 rfl)
 obtain ⟨k32, y15, z15, a16, n13, b16, m32, c16, n32, r16, t16⟩ := Hx.plain_ok (Hx.at_map E 38 rfl) (Hx.fact B3 25 rfl)
 have u16 : PySem.W.keepIn K (.ref 708) = true := (Hx.fact B3 26 rfl)
 have t12 : PySem.W.plainGet K 307 Str.empty = true := (Hx.fact B3 27 rfl)
 have u12 : PySem.W.hasDictIn K 307 = true := (Hx.fact B3 28 rfl)
 have x12 : PySem.W.plainOver K 307 = true := (Hx.fact B3 29 rfl)
 have y12 : PySem.W.findIn K (.ref 307) "__setattr__" = some (some (.builtin "object.__setattr__")) := of_decide_eq_true (Hx.fact B3 30 rfl)
 have mk_Form : PySem.W.makesIn K 307 = true := (Hx.fact B3 31 rfl)
 have z12 : PySem.W.keepIn K (.ref 307) = true := (Hx.fact B3 32 rfl)
 have no_Form_name : PySem.W.findIn K (.ref 307) "name" = some none := of_decide_eq_true (Hx.fact B3 33 rfl)
 have no_Form_length : PySem.W.findIn K (.ref 307) "length" = some none := of_decide_eq_true (Hx.fact B3 34 rfl)
 have no_Form_flow : PySem.W.findIn K (.ref 307) "flow" = some none := of_decide_eq_true (Hx.fact B3 35 rfl)
 have r10 : PySem.W.plainGet K 395 Str.empty = true := (Hx.fact B3 36 rfl)
 have t10 : PySem.W.hasDictIn K 395 = true := (Hx.fact B3 37 rfl)
 have u10 : PySem.W.plainOver K 395 = true := (Hx.fact B3 38 rfl)
 have x10 : PySem.W.findIn K (.ref 395) "__setattr__" = some (some (.builtin "object.__setattr__")) := of_decide_eq_true (Hx.fact B3 39 rfl)
 have mk_CodeSet : PySem.W.makesIn K 395 = true := (Hx.fact B4 0 rfl)
 have y10 : PySem.W.keepIn K (.ref 395) = true := (Hx.fact B4 1 rfl)
 have no_CodeSet_stop : PySem.W.findIn K (.ref 395) "stop" = some none := of_decide_eq_true (Hx.fact B4 2 rfl)
 have no_CodeSet_order : PySem.W.findIn K (.ref 395) "order" = some none := of_decide_eq_true (Hx.fact B4 3 rfl)
 have no_CodeSet_table : PySem.W.findIn K (.ref 395) "table" = some none := of_decide_eq_true (Hx.fact B4 4 rfl)
 have x11 : PySem.W.plainGet K 259 Str.empty = true := (Hx.fact B4 5 rfl)
 have y11 : PySem.W.hasDictIn K 259 = true := (Hx.fact B4 6 rfl)
 have z11 : PySem.W.plainOver K 259 = true := (Hx.fact B4 7 rfl)
 have a12 : PySem.W.findIn K (.ref 259) "__setattr__" = some (some (.builtin "object.__setattr__")) := of_decide_eq_true (Hx.fact B4 8 rfl)
 have mk_Layout : PySem.W.makesIn K 259 = true := (Hx.fact B4 9 rfl)
 have b12 : PySem.W.keepIn K (.ref 259) = true := (Hx.fact B4 10 rfl)
 have no_Layout_held_unit : PySem.W.findIn K (.ref 259) "held_unit" = some none := of_decide_eq_true (Hx.fact B4 11 rfl)
 have no_Layout_held_chunk : PySem.W.findIn K (.ref 259) "held_chunk" = some none := of_decide_eq_true (Hx.fact B4 12 rfl)
 have z10 : PySem.W.plainGet K 599 Str.empty = true := (Hx.fact B4 13 rfl)
 have a11 : PySem.W.hasDictIn K 599 = true := (Hx.fact B4 14 rfl)
 have b11 : PySem.W.plainOver K 599 = true := (Hx.fact B4 15 rfl)
 have c11 : PySem.W.findIn K (.ref 599) "__setattr__" = some (some (.builtin "object.__setattr__")) := of_decide_eq_true (Hx.fact B4 16 rfl)
 have mk_Sight : PySem.W.makesIn K 599 = true := (Hx.fact B4 17 rfl)
 have i12 : PySem.W.keepIn K (.ref 599) = true := (Hx.fact B4 18 rfl)
 have no_Sight_grid : PySem.W.findIn K (.ref 599) "grid" = some none := of_decide_eq_true (Hx.fact B4 19 rfl)
 have no_Sight_cells : PySem.W.findIn K (.ref 599) "cells" = some none := of_decide_eq_true (Hx.fact B4 20 rfl)
 have no_Sight_shown : PySem.W.findIn K (.ref 599) "shown" = some none := of_decide_eq_true (Hx.fact B4 21 rfl)
 have x16 : PySem.W.nsIn K mainGlobals "len" = some none := of_decide_eq_true (Hx.fact B4 22 rfl)
 have y16 : PySem.W.nsIn K mainGlobals "abs" = some none := of_decide_eq_true (Hx.fact B4 23 rfl)
 have z16 : PySem.W.nsIn K mainGlobals "int" = some none := of_decide_eq_true (Hx.fact B4 24 rfl)
 have a14 : PySem.W.nsIn K mainGlobals "list" = some none := of_decide_eq_true (Hx.fact B4 25 rfl)
 have a13 : PySem.W.nsIn K mainGlobals "range" = some none := of_decide_eq_true (Hx.fact B4 26 rfl)
 have f9 : PySem.W.nsIn K mainGlobals "isinstance" = some none := of_decide_eq_true (Hx.fact B4 27 rfl)
 have b14 : PySem.W.nsIn K mainGlobals "bool" = some none := of_decide_eq_true (Hx.fact B4 28 rfl)
 have a17 : PySem.W.nsIn K mainGlobals "str" = some none := of_decide_eq_true (Hx.fact B4 29 rfl)
 have b13 : PySem.W.nsIn K mainGlobals "tuple" = some none := of_decide_eq_true (Hx.fact B4 30 rfl)
 have b17 : PySem.W.nsIn K mainGlobals "all" = some none := of_decide_eq_true (Hx.fact B4 31 rfl)
 have c17 : PySem.W.nsIn K mainGlobals "set" = some none := of_decide_eq_true (Hx.fact B4 32 rfl)
 have j12 : PySem.W.nsIn K mainGlobals "sorted" = some none := of_decide_eq_true (Hx.fact B4 33 rfl)
 have g9 : PySem.W.nsIn K mainGlobals "ValueError" = some none := of_decide_eq_true (Hx.fact B4 34 rfl)
 have d17 : PySem.W.nsIn K mainGlobals "max" = some none := of_decide_eq_true (Hx.fact B4 35 rfl)
 have e17 : PySem.W.nsIn K mainGlobals "min" = some none := of_decide_eq_true (Hx.fact B4 36 rfl)
 have i10 : PySem.W.nsIn K mainGlobals "enumerate" = some none := of_decide_eq_true (Hx.fact B4 37 rfl)
 have f17 : PySem.W.nsIn K mainGlobals "any" = some none := of_decide_eq_true (Hx.fact B4 38 rfl)
 obtain ⟨f13, c12⟩ := Hx.str_ok (Hx.fact B4 39 rfl)
 obtain ⟨k10, i5⟩ := Hx.int_ok (Hx.fact B5 0 rfl)
 have q12 : PySem.W.nsIn K mainGlobals "super" = some none := of_decide_eq_true (Hx.fact B5 1 rfl)
 have i13 : PySem.W.nsIn K cStatics "thirdparty.any" = some none := of_decide_eq_true (Hx.fact B5 2 rfl)
 have c14 : PySem.W.specialIn K (.builtin "object.__class__") "__get__" = some (some (.builtin "getset_descriptor.__get__")) := of_decide_eq_true (Hx.fact B5 3 rfl)
 have d14 : PySem.W.takesIn K (.builtin "object.__class__") = some true := of_decide_eq_true (Hx.fact B5 4 rfl)
 have g17 : ((PySem.Challenge.pw_codestitch_k33_whole_more_writes_show_mo).main.scope.names.lookup ("super" : Str)).isSome = false := by decide +kernel
 have m7 : PySem.W.nsIn K mainGlobals "BadAddress" = some (some (.ref 140)) := of_decide_eq_true (Hx.fact B5 5 rfl)
 obtain ⟨r32, q40, N40, t32, j24, u32, m25, x32, n25, y32, z32, a33, b33, c33, d33, j5, k5⟩ := Hx.exc_ok (Hx.fact B5 6 rfl)
 have m5 : PySem.W.findIn K (.ref 140) "__setattr__" = some (some (.builtin "object.__setattr__")) := of_decide_eq_true (Hx.fact B5 7 rfl)
 have c0 : PySem.W.subIn K (.ref 140) (.type "BaseException") = some true := of_decide_eq_true (Hx.fact B5 8 rfl)
 have n5 : PySem.W.typeIn K (.ref 140) = some (.type "type") := of_decide_eq_true (Hx.fact B5 9 rfl)
 have o5 : PySem.W.keepIn K (.ref 140) = true := (Hx.fact B5 10 rfl)
 have p5 : PySem.W.findIn K (.ref 140) "__init__" = some (some (.ref 137)) := of_decide_eq_true (Hx.fact B5 11 rfl)
 have q5 : PySem.W.typeIn K (.ref 137) = some (.type "function") := of_decide_eq_true (Hx.fact B5 12 rfl)
 have z1 : PySem.W.findIn K (.ref 140) "at" = some none := of_decide_eq_true (Hx.fact B5 13 rfl)
 have r1 : PySem.W.findIn K (.ref 140) "__getattribute__" = some (some (.builtin "BaseException.__getattribute__")) := of_decide_eq_true (Hx.fact B5 14 rfl)
 have t1 : PySem.W.findIn K (.ref 140) "__getattr__" = some none := of_decide_eq_true (Hx.fact B5 15 rfl)
 have u1 : PySem.W.hasDictIn K 140 = true := (Hx.fact B5 16 rfl)
 have r5 : PySem.W.findIn K (.ref 140) "__class__" = some (some (.builtin "object.__class__")) := of_decide_eq_true (Hx.fact B5 17 rfl)
 have t5 : PySem.W.mroIn K 140 (.type "object") = some true := of_decide_eq_true (Hx.fact B5 18 rfl)
 obtain ⟨o32, e16, f16, g16, i16, p32, j16, q32, a0, z0⟩ := Hx.sup_ok (Hx.at_map E 39 rfl) (Hx.fact B5 19 rfl)
 have a1 : PySem.W.keepIn K (.ref 137) = true := (Hx.fact B5 20 rfl)
 obtain ⟨o25, q25, k24, t25, o13, e33, m0, n0, o0⟩ := Hx.fil_ok (Hx.fact B5 21 rfl)
 obtain ⟨p25, r25, u25, p0⟩ := Hx.cel_ok (Hx.fact B5 22 rfl)
 have u5 : PySem.W.mroIn K 140 (.ref 140) = some true := of_decide_eq_true (Hx.fact B5 23 rfl)
 have x5 : PySem.W.ks_superIn K 140 140 "__init__" = some (some (.builtin "ValueError.__init__")) := of_decide_eq_true (Hx.fact B5 24 rfl)
 have y5 : PySem.W.subIn K (.ref 140) (.type "ValueError") = some true := of_decide_eq_true (Hx.fact B5 25 rfl)
 have i9 : PySem.W.nsIn K mainGlobals "BadLayout" = some (some (.ref 98)) := of_decide_eq_true (Hx.fact B5 26 rfl)
 obtain ⟨j33, q41, N41, k33, m24, m33, x25, n33, y25, o33, p33, q33, r33, t33, u33, n7, o7⟩ := Hx.exc_ok (Hx.fact B5 27 rfl)
 have p7 : PySem.W.findIn K (.ref 98) "__setattr__" = some (some (.builtin "object.__setattr__")) := of_decide_eq_true (Hx.fact B5 28 rfl)
 have q0 : PySem.W.subIn K (.ref 98) (.type "BaseException") = some true := of_decide_eq_true (Hx.fact B5 29 rfl)
 have q7 : PySem.W.typeIn K (.ref 98) = some (.type "type") := of_decide_eq_true (Hx.fact B5 30 rfl)
 have r7 : PySem.W.keepIn K (.ref 98) = true := (Hx.fact B5 31 rfl)
 have t7 : PySem.W.findIn K (.ref 98) "__init__" = some (some (.ref 95)) := of_decide_eq_true (Hx.fact B5 32 rfl)
 have u7 : PySem.W.typeIn K (.ref 95) = some (.type "function") := of_decide_eq_true (Hx.fact B5 33 rfl)
 have n1 : PySem.W.findIn K (.ref 98) "part" = some none := of_decide_eq_true (Hx.fact B5 34 rfl)
 have c2 : PySem.W.findIn K (.ref 98) "__getattribute__" = some (some (.builtin "BaseException.__getattribute__")) := of_decide_eq_true (Hx.fact B5 35 rfl)
 have d2 : PySem.W.findIn K (.ref 98) "__getattr__" = some none := of_decide_eq_true (Hx.fact B5 36 rfl)
 have e2 : PySem.W.hasDictIn K 98 = true := (Hx.fact B5 37 rfl)
 have x7 : PySem.W.findIn K (.ref 98) "__class__" = some (some (.builtin "object.__class__")) := of_decide_eq_true (Hx.fact B5 38 rfl)
 have y7 : PySem.W.mroIn K 98 (.type "object") = some true := of_decide_eq_true (Hx.fact B5 39 rfl)
 obtain ⟨f33, m16, n16, o16, p16, g33, q16, i33, b0, o1⟩ := Hx.sup_ok (Hx.at_map E 40 rfl) (Hx.fact B6 0 rfl)
 have p1 : PySem.W.keepIn K (.ref 95) = true := (Hx.fact B6 1 rfl)
 obtain ⟨z25, b26, n24, d26, p13, x33, b1, c1, d1⟩ := Hx.fil_ok (Hx.fact B6 2 rfl)
 obtain ⟨a26, c26, e26, e1⟩ := Hx.cel_ok (Hx.fact B6 3 rfl)
 have z7 : PySem.W.mroIn K 98 (.ref 98) = some true := of_decide_eq_true (Hx.fact B6 4 rfl)
 have a8 : PySem.W.ks_superIn K 98 98 "__init__" = some (some (.builtin "ValueError.__init__")) := of_decide_eq_true (Hx.fact B6 5 rfl)
 have b8 : PySem.W.subIn K (.ref 98) (.type "ValueError") = some true := of_decide_eq_true (Hx.fact B6 6 rfl)
 have d12 : PySem.W.findIn K (.ref 599) "__class__" = some (some (.builtin "object.__class__")) := of_decide_eq_true (Hx.fact B6 7 rfl)
 have e12 : PySem.W.mroIn K 599 (.type "object") = some true := of_decide_eq_true (Hx.fact B6 8 rfl)
 have j4 : PySem.W.kitOne K (.ref 599) (.ref 599) = some true := of_decide_eq_true (Hx.fact B6 9 rfl)
 have nsq_CodeSet : PySem.W.noSeq K 395 = true := (Hx.fact B6 10 rfl)
 have d0 : PySem.W.fnIn K 352 = true := (Hx.fact B6 11 rfl)
 have c13 : PySem.W.readsIn K 307 (.type "type") = true := (Hx.fact B6 12 rfl)
 have k12 : PySem.W.specialIn K (.ref 307) "__getattribute__" = some (some (.builtin "type.__getattribute__")) := of_decide_eq_true (Hx.fact B6 13 rfl)
 have d11 : PySem.W.readsIn K 395 (.type "type") = true := (Hx.fact B6 14 rfl)
 have j10 : PySem.W.specialIn K (.ref 395) "__getattribute__" = some (some (.builtin "type.__getattribute__")) := of_decide_eq_true (Hx.fact B6 15 rfl)
 have cvF : PySem.W.findCls K (.ref 307) (.type "type") "FLOWS" = some (.val (.ref 283)) := Hx.fcR_ok (Hx.fact B6 16 rfl)
 obtain ⟨odF, l_, nF, slF, lkF, v_⟩ := Hx.seq_ok (Hx.fact B6 17 rfl)
 rcases v_ with _ | ⟨⟨tF1, rfl⟩, v_⟩
 rcases v_ with _ | ⟨⟨tF2, rfl⟩, v_⟩
 rcases v_ with _ | ⟨⟨tF3, rfl⟩, v_⟩
 rcases v_ with _ | ⟨⟨tF4, rfl⟩, v_⟩
 cases v_
 obtain ⟨tM, cvM⟩ := Hx.fcI_ok (Hx.fact B6 18 rfl)
 have f12 : PySem.W.readsIn K 259 (.type "type") = true := (Hx.fact B6 19 rfl)
 have e11 : PySem.W.specialIn K (.ref 259) "__getattribute__" = some (some (.builtin "type.__getattribute__")) := of_decide_eq_true (Hx.fact B6 20 rfl)
 have d13 : PySem.W.findCls K (.ref 259) (.type "type") "UNITS" = some (.val (.ref 178)) := Hx.fcR_ok (Hx.fact B6 21 rfl)
 obtain ⟨e14, l_, k17, k14, e13, v_⟩ := Hx.seq_ok (Hx.fact B6 22 rfl)
 rcases v_ with _ | ⟨⟨f14, rfl⟩, v_⟩
 rcases v_ with _ | ⟨⟨g14, rfl⟩, v_⟩
 rcases v_ with _ | ⟨⟨i14, rfl⟩, v_⟩
 rcases v_ with _ | ⟨⟨j14, rfl⟩, v_⟩
 cases v_
 have m12 : PySem.W.findCls K (.ref 259) (.type "type") "CHUNKS" = some (.val (.ref 179)) := Hx.fcR_ok (Hx.fact B6 23 rfl)
 obtain ⟨q13, l_, m14, z13, n12, v_⟩ := Hx.seq_ok (Hx.fact B6 24 rfl)
 rcases v_ with _ | ⟨⟨r13, rfl⟩, v_⟩
 rcases v_ with _ | ⟨⟨t13, rfl⟩, v_⟩
 rcases v_ with _ | ⟨⟨u13, rfl⟩, v_⟩
 rcases v_ with _ | ⟨⟨x13, rfl⟩, v_⟩
 rcases v_ with _ | ⟨⟨y13, rfl⟩, v_⟩
 cases v_
 have nsB : PySem.W.subIn K (.ref 140) (.type "StopIteration") = some false := of_decide_eq_true (Hx.fact B6 25 rfl)
 exact all_mk X G hfa r12 m10 f11 g12 g11 i11 j11 k11 m11 n11 o11 p11 z5 a6 b6 c6 d6 e6 f6 g6 i6 f2 g2 i2 j2 k2 e0 f0 g0 i0 j0 r0 t0 u0 x0 y0 b3 c3 d3 e3 f3 m2 k4 m4 n4 g3 j6 k6 m6 i3 j3 k3 n2 o4 p4 q4 r4 t4 u4 x4 q1 n6 o6 p6 q6 a2 q11 r11 t11 u11 r6 t6 u6 x6 y4 z4 a5 b5 c5 o2 p2 q2 x1 m3 n3 o3 r2 t2 u2 y1 p3 q3 r3 y6 z6 a7 b7 b2 c8 d8 e8 f8 t3 x2 y2 z2 a3 k0 u3 x3 y3 z3 f1 a4 b4 c4 d4 g1 n10 o10 p10 q10 j9 k9 m9 n9 o9 p9 q9 r9 g8 i8 j8 k8 m8 n8 o8 p8 t9 u9 x9 y9 q8 r8 t8 u8 z9 a10 b10 c10 d5 e5 f5 g5 x8 y8 z8 a9 b9 c9 d9 e9 i1 j1 k1 m1 e4 f4 g4 i4 c7 d7 e7 f7 g7 i7 j7 k7 d10 e10 f10 g10 g13 r16 t16 u16 t12 u12 x12 y12 mk_Form z12 no_Form_name no_Form_length no_Form_flow r10 t10 u10 x10 mk_CodeSet y10 no_CodeSet_stop no_CodeSet_order no_CodeSet_table x11 y11 z11 a12 mk_Layout b12 no_Layout_held_unit no_Layout_held_chunk z10 a11 b11 c11 mk_Sight i12 no_Sight_grid no_Sight_cells no_Sight_shown x16 y16 z16 a14 a13 f9 b14 a17 b13 b17 c17 j12 g9 d17 e17 i10 f17 c12 i5 q12 i13 c14 d14 g17 m7 j5 k5 m5 c0 n5 o5 p5 q5 z1 r1 t1 u1 r5 t5 a0 z0 a1 m0 n0 o0 p0 u5 x5 y5 i9 n7 o7 p7 q0 q7 r7 t7 u7 n1 c2 d2 e2 x7 y7 b0 o1 p1 b1 c1 d1 e1 z7 a8 b8 d12 e12 j4 nsq_CodeSet d0 c13 k12 d11 j10 cvF lkF cvM f12 e11 d13 e13 m12 n12 nsB
end My
theorem PySem.Challenge.cw_codestitch_k33_whole_more_writes_show_mo_holds : PySem.Challenge.rw_codestitch_k33_whole_more_writes_show_mo.Holds := by
 exact My.top_of (sp := My.spLaw) My.all_mk2 (fun _ _ a ns _ _ hS hl q => ⟨a, ns, rfl, hS, hl, q⟩)
