import PyProof.Rows.All
import Wide.All
import OpenK.AllK
import Wide.FinOn
import KE.KStateDown
import HandS.ForMost
import HandS.ForExc
import HandS.Wide
import HandS.IsInst
import HandS.Star
import HandS.Style
import HandS.Flow
import HandS.Defaults
import HandS.Head0
import HandS.Head1
import HandS.Head2
import HandS.HeadEnd
import HandS.HeadHook1
import HandS.HeadHook2
import HandS.HeadHook3
import HandS.CallSlots
import HandS.TupAny
import HandS.Steps
import KE.Datum
import HandS.Evl
import HandS.TupLe
import HandS.TryMany
import HandS.HeadNt
import HandS.Property
import HandS.ClsMeth
import HandS.CallLocal
import HandS.MethStar
import HandS.MakeKw
import KE.DatumMore
import HandS.Zip
import HandS.OwnEq
import HandS.TryOnly
import KE.DataMinMax
import HandS.Deep
import HandS.GenList
import HandS.GenYield
import KE.GoesMore
import KE.GoesZip
import KE.GoesEnum
import HandS.ExcInit
import HandS.ExcField
import KE.SortData
import KE.KSuper
import HandS.TupSets
import HandS.SetBool
import KE.KExcInit
import HandS.FStr
import HandS.ExcValue
import HandS.ExcIs
import HandS.More
import HandS.Small
import HandS.Lambda
import HandS.EndTab
import HandS.HeadHook4
import HandS.Text
import PySem.Challenge.RW_latticeshapes_k80_values_formatted
set_option Elab.async false
set_option linter.all false
set_option maxRecDepth 100000
set_option maxHeartbeats 8000000
set_option synthInstance.maxHeartbeats 0
set_option synthInstance.maxSize 100000
/-! ### readings, one constructor a lemma: the symbolic walk's own steps -/
namespace G
open PySem PySem.Spec PyProof.Rows L2
section
variable {K : PySem.W.Frag} {σ : L2.St} {H : Hp} {ta tb te : TE} {Q : VK} {D : Ends} {i : Nat} {v x y : V} {b : Bool}
theorem r_var (h : σ[i]? = some (some v)) (q : Q v H) : tVar i σ H Q := ⟨v, h, q⟩
theorem r_c (q : Q v H) : tC v σ H Q := q
theorem r_op {r : R2} (q : ta σ H fun x H1 => tb σ H1 fun y H2 => r x y H2 Q) : tOp r ta tb σ H Q := q
theorem r_un {r : V → Hp → VK → Prop} (q : ta σ H fun x H1 => r x H1 Q) : tUn r ta σ H Q := q
theorem r_U {g : Int → V} {n : Int} (q : Q (g n) H) : rU g (.int n) H Q := ⟨n, rfl, q⟩
theorem r_I0 {g : Int → Int → V} {n m : Int} (q : Q (g n m) H) : rI0 g (.int n) (.int m) H Q := ⟨n, m, rfl, rfl, q⟩
theorem r_I {C : Int → Int → Prop} {g : Int → Int → V} {n m : Int} (hc : C n m) (q : Q (g n m) H) : rI C g (.int n) (.int m) H Q := ⟨n, m, rfl, rfl, hc, q⟩
theorem r_eq (h : scal x y = true) (q : Q (.bl (decide (x = y))) H) : rEq x y H Q := ⟨h, q⟩
theorem r_ne (h : scal x y = true) (q : Q (.bl (!decide (x = y))) H) : rNe x y H Q := ⟨h, q⟩
theorem r_ixL {p : Addr} {xs : List V} {n : Int} (h : SqL K H p xs) (e : atI xs n = some v) (q : Q v H) : rIxL K (.ref p) (.int n) H Q := ⟨p, xs, n, v, rfl, rfl, h, e, q⟩
theorem r_ixT {p : Addr} {xs : List V} {n : Int} (h : SqT K H p xs) (e : atI xs n = some v) (q : Q v H) : rIxT K (.ref p) (.int n) H Q := ⟨p, xs, n, v, rfl, rfl, h, e, q⟩
theorem r_seq {t u : TS} (q : t { D with nx := u D } σ H) : tSeq t u D σ H := q
theorem r_next (q : D.nx σ H) : tNext D σ H := q
theorem r_asg {g : TG} (q : te σ H fun x H1 => g x σ H1 D.nx) : tAsg te g D σ H := q
theorem r_st {t u : TS} {σ' : L2.St} (e : σ = σ') (q : tSeq t u D σ' H) : tSeq t u D σ H := by
  subst e; exact q
theorem r_gnameS {R : L2.St → Hp → Prop} {σ' : L2.St} (e : σ.set i (some v) = σ') (q : R σ' H) : gName i v σ H R := by
  subst e; exact q
theorem r_gname {R : L2.St → Hp → Prop} (q : R (σ.set i (some v)) H) : gName i v σ H R := q
theorem r_drop (q : te σ H fun _ H1 => D.nx σ H1) : tDrop te D σ H := q
theorem r_ret (q : te σ H D.rt) : tRet te D σ H := q
theorem r_ifs {c : TT} {t u : TS} (q : c σ H fun b H1 => if b = true then t D σ H1 else u D σ H1) : tIfS c t u D σ H := q
theorem r_test {R : Bool → Hp → Prop} (q : te σ H fun x H' => ∃ k, x = .bl k ∧ R k H') : tTest te σ H R := q
theorem r_tB {R : Bool → Hp → Prop} (q : te σ H fun x H' => ∃ k, x = .bl k ∧ R k H') : tB te σ H R := q
theorem r_bl {R : Bool → Prop} (q : R b) : ∃ k, V.bl b = .bl k ∧ R k := ⟨b, rfl, q⟩
theorem r_nil {R : List V → Hp → Prop} (q : R [] H) : tNil σ H R := q
theorem r_cons {tr : TA} {R : List V → Hp → Prop} (q : ta σ H fun x H1 => tr σ H1 fun xs H2 => R (x :: xs) H2) : tCons ta tr σ H R := q
theorem r_cb {r : List V → Hp → VK → Prop} {t : TA} (q : t σ H fun vs H1 => r vs H1 Q) : tCB r t σ H Q := q
theorem r_lst {t : TA} (q : t σ H fun xs H1 => xs.length ≤ sizeLine ∧ ∀ p, H1 p = none → Q (.ref p) (upd H1 p (.lst xs))) : tLst t σ H Q := q
theorem r_tup {t : TA} (q : t σ H fun xs H1 => xs.length ≤ sizeLine ∧ ∀ p, H1 p = none → Q (.ref p) (upd H1 p (.tup xs))) : tTup t σ H Q := q
theorem r_call {sp : Sp} {dvs : List V} {E : XK} {t : TA} (q : t σ H fun vs H1 => sp (vs ++ dvs) H1 Q E) : tCall sp dvs E t σ H Q := q
theorem r_callS {sp : Sp} {E : L2.St → XK} {t : TA} (q : t σ H fun vs H1 => sp vs H1 Q (E σ)) : tCallS sp E t σ H Q := q
theorem r_and {t u : TT} {R : Bool → Hp → Prop} (q : t σ H fun c H1 => if c = true then u σ H1 R else R false H1) : tAnd t u σ H R := q
theorem r_or {t u : TT} {R : Bool → Hp → Prop} (q : t σ H fun c H1 => if c = true then R true H1 else u σ H1 R) : tOr t u σ H R := q
theorem r_not {t : TT} {R : Bool → Hp → Prop} (q : t σ H fun c H1 => R (!c) H1) : tNot t σ H R := q
theorem r_andV (q : ta σ H fun x H1 => ∃ c, x = .bl c ∧ if c = true then tb σ H1 Q else Q (.bl false) H1) : tAndV ta tb σ H Q := q
theorem r_orV (q : ta σ H fun x H1 => ∃ c, x = .bl c ∧ if c = true then Q (.bl true) H1 else tb σ H1 Q) : tOrV ta tb σ H Q := q
theorem r_notV (q : ta σ H fun x H1 => ∃ c, x = .bl c ∧ Q (.bl (!c)) H1) : tNotV ta σ H Q := q
theorem r_if {t : TT} (q : t σ H fun c H1 => if c = true then ta σ H1 Q else tb σ H1 Q) : tIf t ta tb σ H Q := q
theorem r_sub {to ti : TE} {t : TSet} {R : L2.St → Hp → Prop} (q : to σ H fun o H1 => ti σ H1 fun i H2 => t o i v H2 fun H3 => R σ H3) : gSub to ti t v σ H R := q
theorem r_setL {p : Addr} {xs : List V} {n : Int} {j : Nat} {R : Hp → Prop} (h : H p = some (.lst xs)) (e : ixN xs.length n = some j) (q : R (upd H p (.lst (xs.set j v)))) : rSetL (.ref p) (.int n) v H R := ⟨p, xs, n, j, rfl, rfl, h, e, q⟩
theorem r_dec {p : Prop} [Decidable p] {A B : Prop} (h1 : p → A) (h2 : ¬ p → B) : if decide p = true then A else B := by
  by_cases h : p
  · rw [decide_eq_true h]; exact iteT (h1 h)
  · rw [decide_eq_false h]; exact iteF (h2 h)
theorem r_ndec {p : Prop} [Decidable p] {A B : Prop} (h1 : ¬ p → A) (h2 : p → B) : if (!decide p) = true then A else B := by
  by_cases h : p
  · rw [decide_eq_true h]; exact iteF (h2 h)
  · rw [decide_eq_false h]; exact iteT (h1 h)
theorem r_b {A B : Prop} (h1 : b = true → A) (h2 : b = false → B) : if b = true then A else B := by
  cases b with
  | true => exact iteT (h1 rfl)
  | false => exact iteF (h2 rfl)
theorem dec_int (n m : Int) : decide (V.int n = V.int m) = decide (n = m) := by
  by_cases h : n = m
  · subst h; simp
  · rw [decide_eq_false h, decide_eq_false (fun z => h (V.int.inj z))]
theorem r_eqI {n m : Int} (q : Q (.bl (decide (n = m))) H) : rEq (.int n) (.int m) H Q := ⟨rfl, by rw [dec_int]; exact q⟩
theorem r_neI {n m : Int} (q : Q (.bl (!decide (n = m))) H) : rNe (.int n) (.int m) H Q := ⟨rfl, by rw [dec_int]; exact q⟩
end
end G


namespace G
open PySem PySem.Spec PyProof.Rows L2
/-! ### numbers -/
theorem op_mulA {X : Cx} : OpR X (binaryOp .Mult) (rI IntMulOk fun i j => .int (i * j)) := opI fun _ _ _ _ _ _ _ hc q => mul_int q hc
/-- fewer than n bits -/
def Bd (n : Nat) (i : Int) : Prop := i.natAbs < 2 ^ n
theorem Bd.mono {n m : Nat} {i : Int} (h : Bd n i) (l : n ≤ m) : Bd m i := Nat.lt_of_lt_of_le h (Nat.pow_le_pow_right (by decide) l)
theorem Bd.mul {n m : Nat} {i j : Int} (h : Bd n i) (k : Bd m j) : Bd (n + m) (i * j) := wide_lt h k
theorem Bd.add {n : Nat} {i j : Int} (h : Bd n i) (k : Bd n j) : Bd (n + 1) (i + j) := by
  have h1 : i.natAbs < 2 ^ n := h
  have k1 : j.natAbs < 2 ^ n := k
  show (i + j).natAbs < 2 ^ (n + 1)
  have e : 2 ^ (n + 1) = 2 ^ n + 2 ^ n := by rw [Nat.pow_succ]; omega
  omega
theorem Bd.neg {n : Nat} {i : Int} (h : Bd n i) : Bd n (-i) := by
  show (-i).natAbs < 2 ^ n
  rw [Int.natAbs_neg]; exact h
theorem Bd.sub {n : Nat} {i j : Int} (h : Bd n i) (k : Bd n j) : Bd (n + 1) (i - j) := by
  have e : i - j = i + -j := by omega
  rw [e]; exact h.add k.neg
theorem Bd.ok {n m : Nat} {i j : Int} (h : Bd n i) (k : Bd m j) (l : n + m < 900000 := by decide) : IntMulOk i j :=
  CMulW.ok (wide_mul (a := n + 1) (b := m + 1) (h.mono (Nat.le_succ n)) (k.mono (Nat.le_succ m)) (Nat.succ_pos _) (Nat.succ_pos _) (by omega))
theorem mul_okL {i j : Int} (h1 : -(2 ^ 64) < i) (h2 : i < 2 ^ 64) : IntMulOk i j := CMul.ok (.inl ⟨h1, h2⟩)
theorem mul_okR {i j : Int} (h1 : -(2 ^ 64) < j) (h2 : j < 2 ^ 64) : IntMulOk i j := CMul.ok (.inr ⟨h1, h2⟩)
/-! ### heaps: all but the object at l stands -/
def Kp (l : Addr) (H H' : Hp) : Prop := ∀ b o, b ≠ l → H b = some o → H' b = some o
theorem Kp.refl (l : Addr) (H : Hp) : Kp l H H := fun _ _ _ h => h
theorem Kp.trans {l : Addr} {H H1 H2 : Hp} (a : Kp l H H1) (b : Kp l H1 H2) : Kp l H H2 := fun c o n h => b c o n (a c o n h)
theorem Kp.same {l : Addr} {H H1 H2 : Hp} (a : Kp l H H1) (b : Same H1 H2) : Kp l H H2 := fun c o n h => b c o (a c o n h)
theorem Kp.of_same {l : Addr} {H H1 : Hp} (b : Same H H1) : Kp l H H1 := fun c o _ h => b c o h
theorem Kp.new {l p : Addr} {H H1 : Hp} {o : HO} (a : Kp l H H1) (h : H1 p = none) : Kp l H (upd H1 p o) := fun c u n e => by
  have z := a c u n e
  rw [upd_ne (ne_of_none z h)]; exact z
theorem Kp.put {l : Addr} {H H1 : Hp} {o : HO} (a : Kp l H H1) : Kp l H (upd H1 l o) := fun c u n e => by rw [upd_ne n]; exact a c u n e
theorem same_new {p : Addr} {H H1 : Hp} {o : HO} (a : Same H H1) (h : H1 p = none) : Same H (upd H1 p o) := fun c u e => by
  have z := a c u e
  rw [upd_ne (ne_of_none z h)]; exact z
theorem fresh {H : Hp} {p : Addr} {o : HO} {H1 : Hp} (h : H p = none) (e : upd H p o = H1) : Same H H1 ∧ H1 p = some o := by
  subst e; exact ⟨same_new (Same.refl H) h, upd_same⟩
theorem Kp.seq {K : PySem.W.Frag} {l a : Addr} {H H' : Hp} {xs : List V} (e : Kp l H H') (n : a ≠ l) (h : SqL K H a xs) : SqL K H' a xs := by
  rcases h with (h | ⟨o, h⟩) | h
  · exact .inl (.inl (e _ _ n h))
  · exact .inl (.inr ⟨o, e _ _ n h⟩)
  · exact .inr h
theorem same_kp {l : Addr} {H H1 H2 : Hp} (s : Same H H1) (hl : H l = none) (k : Kp l H1 H2) : Same H H2 := fun c o e => k c o (ne_of_none e hl) (s c o e)
/-! ### kinds of values -/
inductive Kd (K : PySem.W.Frag) (H : Hp) : V → String → Prop where
  | non : Kd K H .non "NoneType"
  | bl (x : Bool) : Kd K H (.bl x) "bool"
  | int (i : Int) : Kd K H (.int i) "int"
  | str (x : Str) : Kd K H (.str x) "str"
  | lst {a : Addr} {xs : List V} (e : SqL K H a xs) : Kd K H (.ref a) "list"
  | tup {a : Addr} {xs : List V} (e : SqT K H a xs) : Kd K H (.ref a) "tuple"
  | dK {a : Addr} {kvs : List (Key × V)} (e : H a = some (.dK kvs)) : Kd K H (.ref a) "dict"
theorem Kd.ty {K : PySem.W.Frag} {H : Hp} {v : V} {n : String} (k : Kd K H v n) : TyX K H v (.type n) := by
  cases k with
  | non => exact .base .non
  | bl x => exact .base (.bl x)
  | int i => exact .base (.int i)
  | str x => exact .base (.str x)
  | lst e =>
    rcases e with (e | ⟨o, e⟩) | ⟨o, its, n, e, c, _⟩
    · exact .base (.lst e)
    · exact .base (.frz e)
    · exact .kList e c
  | tup e =>
    rcases e with (e | ⟨o, e⟩) | ⟨o, its, n, e, c, _⟩
    · exact .base (.tup e)
    · exact .fTuple e
    · exact .kTuple e c
  | dK e => exact .base (.dK e)
theorem sqT_same {K : PySem.W.Frag} {H H' : Hp} {a : Addr} {xs : List V} (s : Same H H') (h : SqT K H a xs) : SqT K H' a xs := by
  rcases h with (h | ⟨o, h⟩) | h
  · exact .inl (.inl (s _ _ h))
  · exact .inl (.inr ⟨o, s _ _ h⟩)
  · exact .inr h
theorem Kd.same {K : PySem.W.Frag} {H H' : Hp} {v : V} {n : String} (k : Kd K H v n) (s : Same H H') : Kd K H' v n := by
  cases k with
  | non => exact .non
  | bl x => exact .bl x
  | int i => exact .int i
  | str x => exact .str x
  | lst e => exact .lst (s.seq e)
  | tup e => exact .tup (sqT_same s e)
  | dK e => exact .dK (s _ _ e)
def kds : List String := ["NoneType", "bool", "int", "str", "list", "tuple", "dict"]
theorem Kd.mem {K : PySem.W.Frag} {H : Hp} {v : V} {n : String} (k : Kd K H v n) : n ∈ kds := by
  cases k <;> decide
def isI : V → Bool
  | .int _ => true
  | _ => false
def inty (n : String) : Bool := n == "int" || n == "bool"
theorem Kd.kit {K : PySem.W.Frag} {H : Hp} {v : V} {n : String} (k : Kd K H v n) : PySem.W.kitOne K (.type n) (.type "int") = some (inty n) ∧ PySem.W.kitOne K (.type n) (.type "bool") = some (n == "bool") ∧
    PySem.W.kitOne K (.type n) (.type "tuple") = some (n == "tuple") ∧ PySem.W.kitOne K (.type n) (.type "list") = some (n == "list") ∧ (isI v = (inty n && !(n == "bool"))) := by
  cases k with
  | non => exact ⟨kit_ty (by decide +kernel), kit_ty (by decide +kernel), kit_ty (by decide +kernel), kit_ty (by decide +kernel), rfl⟩
  | bl x => exact ⟨kit_ty (by decide +kernel), kit_ty (by decide +kernel), kit_ty (by decide +kernel), kit_ty (by decide +kernel), rfl⟩
  | int i => exact ⟨kit_ty (by decide +kernel), kit_ty (by decide +kernel), kit_ty (by decide +kernel), kit_ty (by decide +kernel), rfl⟩
  | str x => exact ⟨kit_ty (by decide +kernel), kit_ty (by decide +kernel), kit_ty (by decide +kernel), kit_ty (by decide +kernel), rfl⟩
  | lst e => exact ⟨kit_ty (by decide +kernel), kit_ty (by decide +kernel), kit_ty (by decide +kernel), kit_ty (by decide +kernel), rfl⟩
  | tup e => exact ⟨kit_ty (by decide +kernel), kit_ty (by decide +kernel), kit_ty (by decide +kernel), kit_ty (by decide +kernel), rfl⟩
  | dK e => exact ⟨kit_ty (by decide +kernel), kit_ty (by decide +kernel), kit_ty (by decide +kernel), kit_ty (by decide +kernel), rfl⟩
/-! ### the draws -/
def DrAt (H : Hp) (l : Addr) : Prop := ∃ a b : Int, H l = some (.lst [.int a, .int b]) ∧ 0 ≤ a ∧ 0 ≤ b ∧ b < 2147483647
theorem DrAt.same {H H' : Hp} {l : Addr} (d : DrAt H l) (s : Same H H') : DrAt H' l := by
  obtain ⟨a, b, h, r⟩ := d
  exact ⟨a, b, s _ _ h, r⟩
theorem DrAt.new {H : Hp} {l p : Addr} {o : HO} (d : DrAt H l) (h : H p = none) : DrAt (upd H p o) l := d.same (same_new (Same.refl H) h)
theorem DrAt.ne {H : Hp} {l p : Addr} (d : DrAt H l) (h : H p = none) : p ≠ l := by
  obtain ⟨a, b, e, _⟩ := d
  exact (ne_of_none e h).symm
theorem DrAt.ne_tup {H : Hp} {l p : Addr} {xs : List V} (d : DrAt H l) (h : H p = some (.tup xs)) : p ≠ l := by
  obtain ⟨a, b, e, _⟩ := d
  exact ne_of h e (by intro z; cases z)
end G

namespace G
open PySem PySem.Spec PyProof.Rows L2
/-! ### built-ins by named readings -/
def rAbs : List V → Hp → VK → Prop := fun xs H Q => ∃ i, xs = [.int i] ∧ Q (.int (if i < 0 then -i else i)) H
def rLn (K : PySem.W.Frag) : List V → Hp → VK → Prop := fun xs H Q => ∃ x n, xs = [x] ∧ LenV K x H n ∧ Q (.int n) H
def rInt1 : List V → Hp → VK → Prop := fun xs H Q => (∃ i, xs = [.int i] ∧ Q (.int i) H) ∨ ∃ k, xs = [.bl k] ∧ Q (.int (if k then 1 else 0)) H
def rMx2 : List V → Hp → VK → Prop := fun xs H Q => ∃ i j, xs = [.int i, .int j] ∧ Q (.int (if j > i then j else i)) H
def rMn2 : List V → Hp → VK → Prop := fun xs H Q => ∃ i j, xs = [.int i, .int j] ∧ Q (.int (if j < i then j else i)) H
def rLstOf (K : PySem.W.Frag) : List V → Hp → VK → Prop := fun xs H Q => ∃ p ys, xs = [.ref p] ∧ (SqL K H p ys ∨ SqT K H p ys) ∧ ∀ l, H l = none → Q (.ref l) (upd H l (.lst ys))
def rTupOf (K : PySem.W.Frag) : List V → Hp → VK → Prop := fun xs H Q => ∃ p ys, xs = [.ref p] ∧ ((SqL K H p ys ∧ ∀ l, H l = none → Q (.ref l) (upd H l (.tup ys))) ∨ (SqT K H p ys ∧ Q (.ref p) H))
section
variable {X : Cx}
theorem cAbs : CallR X (.builtin "abs") rAbs := call_abs
theorem cLen : CallR X (.builtin "len") (rLn X.K) := call_len
theorem cInt1 : CallR X (.type "int") rInt1 := call_int1
theorem cMax2 (hc : X.calm = true) : CallR X (.builtin "max") rMx2 := call_max2 hc
theorem cMin2 (hc : X.calm = true) : CallR X (.builtin "min") rMn2 := call_min2 hc
theorem cLstOf : CallR X (.type "list") (rLstOf X.K) := call_list_of
theorem cTupOf : CallR X (.type "tuple") (rTupOf X.K) := call_tuple_of
/-- a truth as a test -/
theorem pt_tru {a : Expr} {ta : TE} (ha : PE X a ta) (he : ∀ whole, isTrue a X.env whole = (do let v ← whole; standAt a.pos; holding [v] (truthy v)) := by intro _; rfl) : PT X a (tTru X.K ta) := pt_truth ha he
end
section
variable {K : PySem.W.Frag} {σ : L2.St} {H : Hp} {ta : TE} {Q : VK} {D : Ends} {i j : Nat} {v x y : V} {b : Bool} {p : Addr} {xs : List V} {n m : Int}
theorem r_abs (q : Q (.int (n.natAbs : Int)) H) : rAbs [.int n] H Q := ⟨n, rfl, by
  have e : (if n < 0 then -n else n) = (n.natAbs : Int) := by split <;> omega
  rw [e]; exact q⟩
theorem r_lenL (h : SqL K H p xs) (q : Q (.int (xs.length : Int)) H) : rLn K [.ref p] H Q := ⟨.ref p, xs.length, rfl, .inl ⟨xs, h, rfl⟩, q⟩
theorem r_lenT (h : SqT K H p xs) (q : Q (.int (xs.length : Int)) H) : rLn K [.ref p] H Q := ⟨.ref p, xs.length, rfl, .inr ⟨xs, h, rfl⟩, q⟩
theorem r_intB (q : Q (.int (if b then 1 else 0)) H) : rInt1 [.bl b] H Q := .inr ⟨b, rfl, q⟩
theorem r_intI (q : Q (.int n) H) : rInt1 [.int n] H Q := .inl ⟨n, rfl, q⟩
theorem r_max2 (q : Q (.int (max n m)) H) : rMx2 [.int n, .int m] H Q := ⟨n, m, rfl, by
  have e : (if m > n then m else n) = max n m := by omega
  rw [e]; exact q⟩
theorem r_min2 (q : Q (.int (min n m)) H) : rMn2 [.int n, .int m] H Q := ⟨n, m, rfl, by
  have e : (if m < n then m else n) = min n m := by omega
  rw [e]; exact q⟩
theorem r_lstOfL (h : SqL K H p xs) (q : ∀ l, H l = none → Q (.ref l) (upd H l (.lst xs))) : rLstOf K [.ref p] H Q := ⟨p, xs, rfl, .inl h, q⟩
theorem r_lstOfT (h : SqT K H p xs) (q : ∀ l, H l = none → Q (.ref l) (upd H l (.lst xs))) : rLstOf K [.ref p] H Q := ⟨p, xs, rfl, .inr h, q⟩
theorem r_tupOfL (h : SqL K H p xs) (q : ∀ l, H l = none → Q (.ref l) (upd H l (.tup xs))) : rTupOf K [.ref p] H Q := ⟨p, xs, rfl, .inl ⟨h, q⟩⟩
theorem r_tupOfT (h : SqT K H p xs) (q : Q (.ref p) H) : rTupOf K [.ref p] H Q := ⟨p, xs, rfl, .inr ⟨h, q⟩⟩
theorem r_new {R : Addr → Prop} (q : ∀ p, H p = none → R p) (h : Nat.ble xs.length 1000 = true := by rfl) : xs.length ≤ sizeLine ∧ ∀ p, H p = none → R p := ⟨Nat.le_trans (Nat.le_of_ble_eq_true h) (by decide), q⟩
theorem r_cut {t u : TS} (Mid : L2.St → Hp → Prop) (h1 : t { D with nx := Mid } σ H) (h2 : ∀ σ' H', Mid σ' H' → u D σ' H') : Evl.tCut t u D σ H := ⟨Mid, h1, h2⟩
theorem r_tru {R : Bool → Hp → Prop} (q : ta σ H fun x H' => ∃ k, TruV K x H' k ∧ R k H') : tTru K ta σ H R := q
theorem r_truI {R : Bool → Prop} (q : R (decide (n ≠ 0))) : ∃ k, TruV K (.int n) H k ∧ R k := ⟨n != 0, rfl, by
  have e : (n != 0) = decide (n ≠ 0) := by
    by_cases h : n = 0
    · subst h; rfl
    · simp [h]
  rw [e]; exact q⟩
theorem r_isN (q : Q (.bl (decide (x = .non))) H) : rIsN x .non H Q := ⟨rfl, q⟩
theorem r_notN (q : Q (.bl (!decide (x = .non))) H) : rNotN x .non H Q := ⟨rfl, q⟩
theorem r_isB {a c : Bool} (q : Q (.bl (decide (a = c))) H) : rIsB (.bl a) (.bl c) H Q := ⟨a, c, rfl, rfl, q⟩
theorem r_notB {a c : Bool} (q : Q (.bl (!decide (a = c))) H) : rNotB (.bl a) (.bl c) H Q := ⟨a, c, rfl, rfl, q⟩
theorem r_isi {c : V} {t u : Value} (k : ClsV c u) (ty : TyX K H x t) (e : PySem.W.kitOne K t u = some b) (q : Q (.bl b) H) : rIsi K [x, c] H Q := ⟨x, c, t, u, b, rfl, k, ty, e, q⟩
theorem r_aug {te : TE} {ti : TIp} (h : σ[i]? = some (some x)) (q : te σ H fun y H1 => ti x y H1 fun z H2 => D.nx (σ.set i (some z)) H2) : tAug i te ti D σ H := ⟨x, h, q⟩
theorem r_ipI {f : Int → Int → Int} (q : Q (.int (f n m)) H) : ipI f (.int n) (.int m) H Q := ⟨n, m, rfl, rfl, q⟩
theorem r_gtup {k : Nat} {t : TGs} {R : L2.St → Hp → Prop} (h : SqT K H p xs) (q : t xs σ H R) (hl : xs.length = k := by rfl) : gTup K k t (.ref p) σ H R := ⟨p, xs, rfl, h, hl, q⟩
theorem r_gcons {t : TG} {u : TGs} {R : L2.St → Hp → Prop} (q : t v σ H fun σ' H' => u xs σ' H' R) : gCons t u (v :: xs) σ H R := ⟨v, xs, rfl, q⟩
theorem r_gnil {R : L2.St → Hp → Prop} (q : R σ H) : gNil [] σ H R := ⟨rfl, q⟩
theorem r_par {ta : TA} (q : ta σ H fun vs H1 => ∃ v w, vs = [v, w] ∧ D.nx ((σ.set i (some v)).set j (some w)) H1) : tPar i j ta D σ H := q
theorem r_two {R : V → V → Prop} (q : R x y) : ∃ v w, [x, y] = [v, w] ∧ R v w := ⟨x, y, rfl, q⟩
theorem r_rep {l : Addr} (h : H l = some (.lst xs)) (h1 : -(2 ^ 63) ≤ n) (h2 : n < 2 ^ 63) (h3 : xs.length * n.toNat ≤ sizeLine) (q : ∀ p, H p = none → Q (.ref p) (upd H p (.lst (List.replicate n.toNat xs).flatten))) : rRep (.ref l) (.int n) H Q := ⟨l, n, xs, rfl, rfl, h, h1, h2, h3, q⟩
theorem r_cat {l l' : Addr} {ys : List V} (h : H l = some (.lst xs)) (h' : H l' = some (.lst ys)) (h3 : xs.length + ys.length ≤ sizeLine) (q : ∀ p, H p = none → Q (.ref p) (upd H p (.lst (xs ++ ys)))) : rCat (.ref l) (.ref l') H Q := ⟨l, l', xs, ys, rfl, rfl, h, h', h3, q⟩
theorem r_eqD {d e : PyData} (hd : Dp K H x d) (he : Dp K H y e) (sd : SeqAt.shaped d = true) (se : SeqAt.shaped e = true) (q : Q (.bl (PyData.eqv d e)) H) : rEqD K x y H Q := ⟨d, e, hd, he, sd, se, q⟩
theorem r_neD {d e : PyData} (hd : Dp K H x d) (he : Dp K H y e) (sd : SeqAt.shaped d = true) (se : SeqAt.shaped e = true) (q : Q (.bl (!PyData.eqv d e)) H) : rNeD K x y H Q := ⟨d, e, hd, he, sd, se, q⟩
end
end G
/-! ### calls of a def with a star parameter; in a try or not -/
namespace G
open PySem PySem.Spec PyProof.Rows L2
section
variable {X : Cx} {CX : CXT} {k : Nat} {f : Addr} {sp : Sp} {E : L2.St → XK} {x : Str} {p pos : Pos} {e : Expr} {es : List Expr} {t : TA}
def tCallR (sp : Sp) (E : L2.St → XK) (t : TA) : TE := fun σ H Q => t σ H fun vs H1 => sp vs H1 Q (E σ)
theorem run_fnRS {pins : List (Addr × Obj)} {σ : L2.St} {H : Hp} {s : Shared} {Q : VK} {us : List Value} {vs : List V} (F : FnR X.prog X.w X.K X.mg X.base CX k f sp) (hr : Room k X.A) (hx : PassesAt CX X σ (E σ))
    (I : Inv X pins σ H s) (r : Vals vs us) (h : sp vs H Q (E σ)) : wpAny (model X.prog X.w) X.A (call (.ref f) us) (EP X pins σ Q) X.xe s := by
  refine wpAny_call (codeAny_mono (F X.A X.stack s H us vs Q (E σ) hr I.env0 r h) fun r s' hq => ?_)
  cases r with
  | error e => exact hx pins H s e s' I hq
  | ok fl =>
    cases fl with
    | ret u => exact I.after hq
    | next => exact False.elim hq
    | brk => exact False.elim hq
    | cont => exact False.elim hq
theorem pe_callR (F : FnR X.prog X.w X.K X.mg X.base CX k f sp) (hr : Room k X.A) (hg : Gl X x) (hm : X.mg x = some (.ref f)) (hk : PySem.W.keepIn X.K (.ref f) = true) (hx : ∀ σ, PassesAt CX X σ (E σ))
    (ha : PA X (e :: es) t) (hdb : (x == ("__debug__" : Str)) = false := by decide) (he : starEach (e :: es) X.env = (false, eval e X.env) :: starEach es X.env := by rfl) (hpl : (backTo pos (starEach es X.env)).any (·.1) = false := by rfl) :
    PE X (.Call (.Name x p) (e :: es) [] pos) (tCallR sp E t) := by
  refine ⟨fun pins s σ H Q I h => ?_⟩
  refine wpAny_Call_Name_kw (ld_glob I hg hm ?_ hdb)
  refine PySem.W.callWith_K (h₀ := X.base) I.ok.mod.kin hk (thn (ha.run pos pins s σ H _ I h) fun us s1 ⟨vs, H1, I1, r, q⟩ => ⟨I1.kIn, ?_⟩) he hpl
  exact run_fnRS F hr (hx σ) I1 r q
theorem pe_callR0 (F : FnR X.prog X.w X.K X.mg X.base CX k f sp) (hr : Room k X.A) (hg : Gl X x) (hm : X.mg x = some (.ref f)) (hk : PySem.W.keepIn X.K (.ref f) = true) (hx : ∀ σ, PassesAt CX X σ (E σ))
    (hdb : (x == ("__debug__" : Str)) = false := by decide) : PE X (.Call (.Name x p) [] [] pos) (tCallR sp E tNil) := by
  refine ⟨fun pins s σ H Q I h => ?_⟩
  refine wpAny_Call_Name_kw (ld_glob I hg hm ?_ hdb)
  exact PySem.W.callWith_K0 I.kIn hk (run_fnRS (us := []) F hr (hx σ) I .nil h)
theorem passAll {E : XK} (hx : Passes CX X E) : ∀ σ, PassesAt CX X σ ((fun _ => E) σ) := fun σ pins H s e s' I c => hx pins σ H s e s' I c
end
section
variable {σ : L2.St} {H : Hp} {Q : VK} {sp : Sp} {E : L2.St → XK} {t : TA}
theorem r_callR (q : t σ H fun vs H1 => sp vs H1 Q (E σ)) : tCallR sp E t σ H Q := q
end
end G
/-! ### == and != of instances by an own __eq__ -/
namespace G
open PySem PySem.Spec PyProof.Rows L2
section
variable {M : Model} {prog : Program} {w : World} {A : Around} {E : Value → Shared → Prop} {s : Shared} {K : PySem.W.Frag} {x C f : Addr} {ox : Obj} {od : Option Obj} {b tb : Value}
theorem ifBound_ne {args : List Value} {Q : Option Value → Shared → Prop} (X : K.In s.heap) (I : PySem.W.InstAt s.heap x ox C od) (hs : PySem.W.findIn K (.ref C) "__ne__" = some (some (.builtin "object.__ne__")))
    (h : wpAny M A (call (.builtin "object.__ne__") (.ref x :: args)) (fun v => Q (some v)) E s) : wpAny M A (callSpecialIfBound? (.ref x) "__ne__" args) Q E s := by
  simp only [callSpecialIfBound?, bindSpecialIfBound?]
  refine wpAny_holding (wpAny_bind (wpAny_bind (wpAny_bind (I.type.here ((PySem.W.looks_findIn X hs).here ?_)))))
  refine wpAny_bind (wpAny_askSetting (wpAny_ite ?_))
  have fin : wpAny M A (call (.builtin "object.__ne__") ([.ref x] ++ args) >>= fun v => pure (some v)) Q E s := wpAny_bind (wpAny_mono h (fun v s' h' => wpAny_pure h') fun _ _ h' => h')
  split
  · exact wpAny_bind (wpAny_of_eq (F.cmp_object.ne.bind _) (wpAny_pure (by exact fin)))
  · exact wpAny_tryCatch (wpAny_bind (wpAny_of_eq (F.cmp_object.ne.bind _) (wpAny_pure (by exact fin))))
theorem objNe_at {Q : Fin → Shared → Prop} (X : K.In s.heap) (I : PySem.W.InstAt s.heap x ox C od) (hs : PySem.W.findIn K (.ref C) "__eq__" = some (some (.ref f))) (hf : PySem.W.isFn K (.ref f) = true) (hu : A.units < cLine)
    (hcall : wpAny (model prog w) A (call (.ref f) [.ref x, b]) (fun v s' => ∃ c, v = .bool c ∧ Q (.done (.ret (.bool (!c)))) s') E s) :
    wpAny (model prog w) A (Builtin.«object.__ne__» ⟨[.ref x, b], []⟩) Q E s := by
  unfold Builtin.«object.__ne__»
  repeat (first
    | with_reducible refine wpAny_cRoomFor hu ?_
    | (refine wpAny_bind (m := callSpecialIfBound? (.ref x) (Str.ofString "__eq__") [b])
        (PySem.W.ifBound_K X I hs hf (wpAny_mono hcall (fun r s' hr => by
          obtain ⟨c, rfl, hq⟩ := hr
          repeat (first | exact hq | exact wpAny_pure hq | exact wpAny_truthy_bool hq | (refine wpAny_bind (m := truthy (.bool _)) (wpAny_truthy_bool ?_)) | wp_step)) fun _ _ e => e)))
    | wp_step)
theorem ne_K {Q : Value → Shared → Prop} (hu : A.units + 1 < cLine) (X : K.In s.heap) (I : PySem.W.InstAt s.heap x ox C od) (hb : PySem.W.Looks (model prog w) s.heap (typeOf b) tb) (hn : PySem.W.notFirst K C tb = true)
    (hne : PySem.W.findIn K (.ref C) "__ne__" = some (some (.builtin "object.__ne__"))) (hs : PySem.W.findIn K (.ref C) "__eq__" = some (some (.ref f))) (hf : PySem.W.isFn K (.ref f) = true) (hm : PySem.W.mroIn K C (.type "object") = some true)
    (hcall : wpAny (model prog w) A.in1 (call (.ref f) [.ref x, b]) (fun v s' => ∃ c, v = .bool c ∧ Q (.bool (!c)) s') E s) : wpAny (model prog w) A (richCompare .NotEq (.ref x) b) Q E s := by
  have one : wpAny (model prog w) A (tryCompare (.ref x) (cmpInfo .NotEq).2.1 b) (fun r s' => ∃ v, r = some v ∧ Q v s') E s := by
    show wpAny (model prog w) A (tryCompare (.ref x) "__ne__" b) _ E s
    unfold tryCompare
    refine wpAny_bind (ifBound_ne X I hne (wpAny_call (codeAny_call_builtin F.cmp_object.ne.plain F.cmpEntry_ne (PySem.W.check_slot F.cmpKind_ne F.cmpSplit_ne (I.type.andThen (PySem.W.looks_mroIn X hm)) (F.cmpArgs_ne _ _)
      (objNe_at (A := A.in1) X I hs hf hu (wpAny_mono hcall (fun v s' hv => ?_) fun _ _ e => e))))))
    obtain ⟨c, rfl, hq⟩ := hv
    first | exact ⟨c, rfl, wpAny_pure ⟨_, rfl, hq⟩⟩ | exact ⟨c, rfl, wpAny_pure (wpAny_pure ⟨_, rfl, hq⟩)⟩ | exact ⟨c, rfl, ⟨_, rfl, hq⟩⟩
  unfold richCompare
  simp only [oneThing_ref]
  refine wpAny_holding (wpAny_bind (wpAny_cRoomFor (Nat.lt_of_succ_lt hu) ?_))
  refine wpAny_bind (I.type.here (wpAny_bind (hb.here ?_)))
  split
  · rename_i q
    have e : PySem.W.subIn K tb (.ref C) = some false := by
      rcases Bool.or_eq_true_iff.mp hn with e | e
      · rw [beq_iff_eq.mp e] at q; simp at q
      · exact beq_iff_eq.mp e
    refine wpAny_bind ((PySem.W.looks_subIn X e).here ?_)
    simp only [Bool.false_eq_true, if_false]
    refine wpAny_bind (wpAny_mono one (fun r s' z => ?_) fun _ _ e => e)
    obtain ⟨v, rfl, hq⟩ := z
    exact wpAny_pure hq
  · refine wpAny_bind (wpAny_pure ?_)
    simp only [Bool.false_eq_true, if_false]
    refine wpAny_bind (wpAny_mono one (fun r s' z => ?_) fun _ _ e => e)
    obtain ⟨v, rfl, hq⟩ := z
    exact wpAny_pure hq
end
/-- the class at C compares by its own __eq__ at f -/
structure OEq (K : PySem.W.Frag) (C f : Addr) : Prop where
  eq : PySem.W.findIn K (.ref C) "__eq__" = some (some (.ref f))
  fn : PySem.W.isFn K (.ref f) = true
  ne : PySem.W.findIn K (.ref C) "__ne__" = some (some (.builtin "object.__ne__"))
  ob : PySem.W.mroIn K C (.type "object") = some true
def oEqB (K : PySem.W.Frag) (C f : Addr) : Bool := He.eqO (PySem.W.findIn K (.ref C) "__eq__") (some (some (.ref f))) && (PySem.W.isFn K (.ref f) && (He.eqO (PySem.W.findIn K (.ref C) "__ne__") (some (some (.builtin "object.__ne__"))) && decide (PySem.W.mroIn K C (.type "object") = some true)))
theorem oEqB_ok {K : PySem.W.Frag} {C f : Addr} (c : oEqB K C f = true) : OEq K C f := by
  obtain ⟨c1, c⟩ := He.ba c
  obtain ⟨c2, c⟩ := He.ba c
  obtain ⟨c3, c4⟩ := He.ba c
  exact ⟨He.eqO_ok c1, c2, He.eqO_ok c3, of_decide_eq_true c4⟩
def rEqO (K : PySem.W.Frag) (C : Addr) (sp : Sp) (E : XK) : R2 := fun x y H Q => ∃ a dx fs t, x = .ref a ∧ H a = some (.ins C dx fs) ∧ TyX K H y t ∧ PySem.W.notFirst K C t = true ∧ sp [x, y] H (fun v H' => ∃ b, v = .bl b ∧ Q (.bl b) H') E
def rNeO (K : PySem.W.Frag) (C : Addr) (sp : Sp) (E : XK) : R2 := fun x y H Q => ∃ a dx fs t, x = .ref a ∧ H a = some (.ins C dx fs) ∧ TyX K H y t ∧ PySem.W.notFirst K C t = true ∧ sp [x, y] H (fun v H' => ∃ b, v = .bl b ∧ Q (.bl (!b)) H') E
section
variable {X : Cx} {CX : CXT} {n : Nat} {C f : Addr} {fd : FuncData} {ps : List Str} {sp : Sp} {E : XK} {K : PySem.W.Frag}
theorem run_eqO {A : Around} {pins : List (Addr × Obj)} {σ : L2.St} {H : Hp} {s : Shared} {Q : VK} {x y : V} {u v : Value} (F : FnOk X.prog X.w X.K X.mg X.base CX n f fd ps sp) (hr : Room n A) (e0 : Env0 X.prog X.w X.K X.mg X.base A X.stack s H) (hb : Binds X.K fd ps []) (hx : Passes CX X E)
    (I : Inv X pins σ H s) (rx : RelV x u) (ry : RelV y v) (h : sp [x, y] H Q E) : wpAny (model X.prog X.w) A (call (.ref f) [u, v]) (EP X pins σ Q) X.xe s := by
  have hl := F.len _ _ _ _ h
  refine wpAny_call (codeAny_mono (F.run A X.stack s H ⟨[u, v], []⟩ [u, v] [x, y] Q E hr e0 (by
    have := hb s [u, v] I.kIn (by simpa using hl)
    simpa using this) (.cons rx (.cons ry .nil)) h) fun r s' hq => ?_)
  cases r with
  | error e => exact hx pins σ H s e s' I hq
  | ok fl =>
    cases fl with
    | ret w => exact I.after hq
    | next => exact False.elim hq
    | brk => exact False.elim hq
    | cont => exact False.elim hq
theorem op_eqO (o : OEq X.K C f) (F : FnOk X.prog X.w X.K X.mg X.base CX n f fd ps sp) (hr : Room n X.A) (hb : Binds X.K fd ps []) (hx : Passes CX X E) (hK : X.K = K := by rfl) : OpR X (compareOp .Eq) (rEqO K C sp E) := by
  subst hK
  intro pins s σ H x y u v Q I rx ry h
  obtain ⟨a, dx, fs, t, rfl, ha, ty, hn, h⟩ := h
  obtain ⟨P, Z, p, _⟩ := kit_of I ry ty
  cases rx
  obtain ⟨mA, J, _⟩ := ins_get I.hok ha
  obtain ⟨od, J, _⟩ := J.look
  obtain ⟨m, hF⟩ := I.fr
  show wpAny (model X.prog X.w) X.A (richCompare .Eq (.ref a) v) (EP X pins σ Q) X.xe s
  refine PySem.W.cmp_K (op := .Eq) hr.units0 hF I.ok.mod.kin J (Z.ty _ _ I.kIn p) hn o.eq o.fn ?_
  refine thn (run_eqO (x := .ref a) F hr I.env0 hb hx I rfl ry h) fun r s' z => ?_
  obtain ⟨w, H', I', rw', b, rfl, q⟩ := z
  cases rw'
  exact ⟨.bl b, H', I', rfl, q⟩
theorem op_neO (o : OEq X.K C f) (F : FnOk X.prog X.w X.K X.mg X.base CX n f fd ps sp) (hr : Room (n + 1) X.A) (hb : Binds X.K fd ps []) (hx : Passes CX X E) (hK : X.K = K := by rfl) : OpR X (compareOp .NotEq) (rNeO K C sp E) := by
  subst hK
  intro pins s σ H x y u v Q I rx ry h
  obtain ⟨a, dx, fs, t, rfl, ha, ty, hn, h⟩ := h
  obtain ⟨P, Z, p, _⟩ := kit_of I ry ty
  cases rx
  obtain ⟨mA, J, _⟩ := ins_get I.hok ha
  obtain ⟨od, J, _⟩ := J.look
  show wpAny (model X.prog X.w) X.A (richCompare .NotEq (.ref a) v) (EP X pins σ Q) X.xe s
  have hu : X.A.units + 1 < cLine := Nat.lt_of_le_of_lt (Nat.add_le_add_left (by decide : 1 ≤ 64) _) hr.units
  refine ne_K hu I.kIn J (Z.ty _ _ I.kIn p) hn o.ne o.eq o.fn o.ob ?_
  refine thn (run_eqO (x := .ref a) F hr.in1 I.env0.in1 hb hx I rfl ry h) fun r s' z => ?_
  obtain ⟨w, H', I', rw', b, rfl, q⟩ := z
  cases rw'
  exact ⟨b, rfl, .bl (!b), H', I', rfl, q⟩
end
section
variable {K : PySem.W.Frag} {H : Hp} {Q : VK} {C a dx : Addr} {fs : List (Str × V)} {sp : Sp} {E : XK} {y : V} {t : Value}
theorem r_eqO (ha : H a = some (.ins C dx fs)) (ty : TyX K H y t) (hn : PySem.W.notFirst K C t = true) (q : sp [.ref a, y] H (fun v H' => ∃ b, v = .bl b ∧ Q (.bl b) H') E) : rEqO K C sp E (.ref a) y H Q := ⟨a, dx, fs, t, rfl, ha, ty, hn, q⟩
theorem r_neO (ha : H a = some (.ins C dx fs)) (ty : TyX K H y t) (hn : PySem.W.notFirst K C t = true) (q : sp [.ref a, y] H (fun v H' => ∃ b, v = .bl b ∧ Q (.bl (!b)) H') E) : rNeO K C sp E (.ref a) y H Q := ⟨a, dx, fs, t, rfl, ha, ty, hn, q⟩
end
end G
/-! ### methods, makings, class methods: the callee by a positional promise, its errors wished for at the caller's slots -/
namespace G
open PySem PySem.Spec PyProof.Rows L2
section
variable {X : Cx} {CX : CXT} {k i : Nat} {f C p g : Addr} {sp : Sp} {E : L2.St → XK} {x m : Str} {np pos apos : Pos} {o e : Expr} {es : List Expr} {ta : TE} {t : TA} {mc : Value}
def tMethA (C : Addr) (m : Str) (sp : Sp) (E : L2.St → XK) (ta : TE) (t : TA) : TE := fun σ H Q => ta σ H fun x H1 => ∃ a dx fs, x = .ref a ∧ H1 a = some (.ins C dx fs) ∧ fs.lookup m = none ∧ t σ H1 fun vs H2 => sp (x :: vs) H2 Q (E σ)
def tMakeA (C : Addr) (sp : Sp) (E : L2.St → XK) (t : TA) : TE := fun σ H Q => t σ H fun vs H1 => ∀ x dx, H1 x = none → H1 dx = none → dx ≠ x →
  sp (V.ref x :: vs) (upd (upd H1 dx (.own x)) x (.ins C dx [])) (fun v H2 => v = .non ∧ Q (.ref x) H2) (E σ)
def tMakeL (i : Nat) (C : Addr) (sp : Sp) (E : L2.St → XK) (t : TA) : TE := fun σ H Q => σ[i]? = some (some (.ref C)) ∧ t σ H fun vs H1 => ∀ x dx, H1 x = none → H1 dx = none → dx ≠ x →
  sp (V.ref x :: vs) (upd (upd H1 dx (.own x)) x (.ins C dx [])) (fun v H2 => v = .non ∧ Q (.ref x) H2) (E σ)
def tCMethA (C : Addr) (sp : Sp) (E : XK) (ta : TE) : TE := fun σ H Q => ta σ H fun x H1 => x = .ref C ∧ sp [.ref C] H1 Q E
theorem pe_methA {pl : Sem Bool} (he : PE X o ta) (c : Cls X.K C) (hm : Meth X.K C m f) (F : FnR X.prog X.w X.K X.mg X.base CX k f sp) (hr : Room k X.A) (hx : ∀ σ, PassesAt CX X σ (E σ)) (ha : PA X (e :: es) t)
    (hst : starEach (e :: es) X.env = (false, eval e X.env) :: starEach es X.env := by rfl) (hpl : (backTo pos (starEach es X.env)).any (·.1) = false := by rfl)
    (ht : eval (.Call (.Attribute o m apos) (e :: es) [] pos) X.env = (do
      let ov ← eval o X.env
      standAt apos.atName
      let (f, first) ← holding [ov] (getMethod ov m pl)
      callWith pos f first (backTo pos (starEach (e :: es) X.env)) (backToKw pos (keywordEach [] X.env))) := by rfl) :
    PE X (.Call (.Attribute o m apos) (e :: es) [] pos) (tMethA C m sp E ta t) := by
  refine ⟨fun pins s σ H Q I h => ?_⟩
  refine PySem.W.methodCall_KW (pl := pl) (thn (he.run pins s σ H _ I h) fun u s1 ⟨x, H1, I1, rx, a, dx, fs, ex, ea, l, q⟩ => ?_) ht
  subst ex
  obtain rfl : u = Value.ref a := rx
  refine getmeth_ok I1 ea c hm l ?_
  refine PySem.W.callWith_K (first := [.ref a]) (h₀ := X.base) I.ok.mod.kin hm.kp (thn (ha.run pos pins s1 σ H1 _ I1 q) fun us s2 ⟨vs, H2, I2, r, q2⟩ => ⟨I2.kIn, ?_⟩) hst hpl
  exact run_fnRS (us := .ref a :: us) (vs := .ref a :: vs) F hr (hx σ) I2 (.cons rfl r) q2
theorem pe_methA0 {pl : Sem Bool} (he : PE X o ta) (c : Cls X.K C) (hm : Meth X.K C m f) (F : FnR X.prog X.w X.K X.mg X.base CX k f sp) (hr : Room k X.A) (hx : ∀ σ, PassesAt CX X σ (E σ))
    (ht : eval (.Call (.Attribute o m apos) [] [] pos) X.env = (do
      let ov ← eval o X.env
      standAt apos.atName
      let (f, first) ← holding [ov] (getMethod ov m pl)
      callWith pos f first (backTo pos (starEach [] X.env)) (backToKw pos (keywordEach [] X.env))) := by rfl) :
    PE X (.Call (.Attribute o m apos) [] [] pos) (tMethA C m sp E ta tNil) := by
  refine ⟨fun pins s σ H Q I h => ?_⟩
  refine PySem.W.methodCall_KW (pl := pl) (thn (he.run pins s σ H _ I h) fun u s1 ⟨x, H1, I1, rx, a, dx, fs, ex, ea, l, q⟩ => ?_) ht
  subst ex
  obtain rfl : u = Value.ref a := rx
  refine getmeth_ok I1 ea c hm l ?_
  exact PySem.W.callWith_K0 (first := [.ref a]) I1.kIn hm.kp (run_fnRS (us := [.ref a]) (vs := [.ref a]) F hr (hx σ) I1 (.cons rfl .nil) q)
theorem run_makeA {pins : List (Addr × Obj)} {σ : L2.St} {H : Hp} {s : Shared} {Q : VK} {us : List Value} {vs : List V} (M : Mk X.K C f) (F : FnR X.prog X.w X.K X.mg X.base CX k f sp) (hr : Room (k + 1) X.A) (hx : PassesAt CX X σ (E σ)) (I : Inv X pins σ H s) (r : Vals vs us)
    (h : ∀ x dx, H x = none → H dx = none → dx ≠ x → sp (V.ref x :: vs) (upd (upd H dx (.own x)) x (.ins C dx [])) (fun v H2 => v = .non ∧ Q (.ref x) H2) (E σ)) :
    wpAny (model X.prog X.w) X.A (call (.ref C) us) (EP X pins σ Q) X.xe s := by
  have hq := h (s.heap.objs.size + 1) s.heap.objs.size (I.hok.fresh (Nat.le_succ _)) (I.hok.fresh (Nat.le_refl _)) (Nat.ne_of_lt (Nat.lt_succ_self _))
  have I2 := Inv.made (C := C) I
  have r2 : Vals (V.ref (s.heap.objs.size + 1) :: vs) (Value.ref (s.heap.objs.size + 1) :: us) := .cons rfl r
  refine wpAny_call (make_map (f := f) I.kIn M.makes M.init (beq_iff_eq.mp M.fn) (codeAny_mono (F _ X.stack _ _ (Value.ref (s.heap.objs.size + 1) :: us) _ _ (E σ) (hr.make C us []) (I2.env0.make C us []) r2 hq) fun r s' hq' => ?_))
  cases r with
  | error e => exact hx pins _ _ e s' I2 hq'
  | ok fl =>
    cases fl with
    | ret u =>
      obtain ⟨v, H', I3, rv, ev, q3⟩ := I2.after hq'
      subst ev
      exact ⟨rv, ⟨V.ref (s.heap.objs.size + 1), H', I3, rfl, q3⟩⟩
    | next => exact False.elim hq'
    | brk => exact False.elim hq'
    | cont => exact False.elim hq'
theorem pe_makeA (M : Mk X.K C f) (F : FnR X.prog X.w X.K X.mg X.base CX k f sp) (hr : Room (k + 1) X.A) (hg : Gl X x) (hm : X.mg x = some (.ref C)) (hx : ∀ σ, PassesAt CX X σ (E σ)) (ha : PA X (e :: es) t) (hdb : (x == ("__debug__" : Str)) = false := by decide)
    (he : starEach (e :: es) X.env = (false, eval e X.env) :: starEach es X.env := by rfl) (hpl : (backTo pos (starEach es X.env)).any (·.1) = false := by rfl) : PE X (.Call (.Name x np) (e :: es) [] pos) (tMakeA C sp E t) := by
  refine ⟨fun pins s σ H Q I h => ?_⟩
  refine wpAny_Call_Name_kw (ld_glob I hg hm ?_ hdb)
  refine PySem.W.callWith_K (h₀ := X.base) I.ok.mod.kin M.kp (thn (ha.run pos pins s σ H _ I h) fun us s1 ⟨vs, H1, I1, r, q⟩ => ⟨I1.kIn, ?_⟩) he hpl
  exact run_makeA M F hr (hx σ) I1 r q
theorem pe_makeL (M : Mk X.K C f) (F : FnR X.prog X.w X.K X.mg X.base CX k f sp) (hr : Room (k + 1) X.A) (hN : X.N[i]? = some x) (hv : Vis X.env.scope x) (hx : ∀ σ, PassesAt CX X σ (E σ)) (ha : PA X (e :: es) t) (hdb : (x == ("__debug__" : Str)) = false := by decide) (hcd : (x == ("__classdict__" : Str)) = false := by decide)
    (he : starEach (e :: es) X.env = (false, eval e X.env) :: starEach es X.env := by rfl) (hpl : (backTo pos (starEach es X.env)).any (·.1) = false := by rfl) : PE X (.Call (.Name x np) (e :: es) [] pos) (tMakeL i C sp E t) := by
  refine ⟨fun pins s σ H Q I h => ?_⟩
  obtain ⟨hs, ht⟩ := h
  refine wpAny_Call_Name_kw (thn ((pe_var (pos := np) hN hv hdb hcd).run pins s σ H (fun v H1 => v = .ref C ∧ H1 = H) I ⟨.ref C, hs, rfl, rfl⟩) fun u s1 ⟨v, H1, I1, r1, q1⟩ => ?_)
  obtain ⟨rfl, rfl⟩ := q1
  cases r1
  refine PySem.W.callWith_K (h₀ := X.base) I.ok.mod.kin M.kp (thn (ha.run pos pins s1 σ _ _ I1 ht) fun us s2 ⟨vs, H2, I2, r, q⟩ => ⟨I2.kIn, ?_⟩) he hpl
  exact run_makeA M F hr (hx σ) I2 r q
/-- C.m(), m a classmethod -/
theorem pe_cmeth0 {pl : Sem Bool} {E : XK} (he : PE X o ta) (r : ClX.CRead X.K C mc) (c : ClX.CMet X.K C mc m p g) (F : FnR X.prog X.w X.K X.mg X.base CX k g sp) (hr : Room k X.A) (hx : Passes CX X E)
    (ht : eval (.Call (.Attribute o m apos) [] [] pos) X.env = (do
      let ov ← eval o X.env
      standAt apos.atName
      let (f, first) ← holding [ov] (getMethod ov m pl)
      callWith pos f first (backTo pos (starEach [] X.env)) (backToKw pos (keywordEach [] X.env))) := by rfl) :
    PE X (.Call (.Attribute o m apos) [] [] pos) (tCMethA C sp E ta) := by
  refine ⟨fun pins s σ H Q I h => ?_⟩
  refine PySem.W.methodCall_KW (pl := pl) (thn (he.run pins s σ H _ I h) fun u s1 ⟨x, H1, I1, rx, ex, q⟩ => ?_) ht
  subst ex
  obtain rfl : u = Value.ref C := rx
  refine ClX.getmethcm_ok I1 r c fun s2 I2 => ?_
  exact PySem.W.callWith_M0 (first := []) ⟨ClX.pin_at I2, I2.kIn⟩ c.fi (ClX.run_cm (us := []) (vs := []) F hr hx I2 .nil q)
theorem kCVal {K : PySem.W.Frag} (he : PE X e ta) (hK : X.K = K := by rfl) (hb : attributeBase e m X.env (eval e X.env) = eval e X.env := by rfl) : PE X (.Attribute e m pos) (ClX.tCVal K ta m) := hK ▸ ClX.pe_cval he hb
end
section
variable {K : PySem.W.Frag} {σ : L2.St} {H : Hp} {Q : VK} {C a dx : Addr} {fs : List (Str × V)} {sp : Sp} {E : L2.St → XK} {ta : TE} {t : TA} {m : Str} {i : Nat} {D : Ends}
theorem r_methA (q : ta σ H fun x H1 => ∃ a dx fs, x = .ref a ∧ H1 a = some (.ins C dx fs) ∧ fs.lookup m = none ∧ t σ H1 fun vs H2 => sp (x :: vs) H2 Q (E σ)) : tMethA C m sp E ta t σ H Q := q
theorem r_recv {R : Prop} (h : H a = some (.ins C dx fs)) (hl : fs.lookup m = none) (q : R) : ∃ b dx fs, V.ref a = .ref b ∧ H b = some (.ins C dx fs) ∧ fs.lookup m = none ∧ R := ⟨a, dx, fs, rfl, h, hl, q⟩
theorem r_makeA (q : t σ H fun vs H1 => ∀ x dx, H1 x = none → H1 dx = none → dx ≠ x → sp (V.ref x :: vs) (upd (upd H1 dx (.own x)) x (.ins C dx [])) (fun v H2 => v = .non ∧ Q (.ref x) H2) (E σ)) : tMakeA C sp E t σ H Q := q
theorem r_makeL (h : σ[i]? = some (some (.ref C))) (q : t σ H fun vs H1 => ∀ x dx, H1 x = none → H1 dx = none → dx ≠ x → sp (V.ref x :: vs) (upd (upd H1 dx (.own x)) x (.ins C dx [])) (fun v H2 => v = .non ∧ Q (.ref x) H2) (E σ)) : tMakeL i C sp E t σ H Q := ⟨h, q⟩
theorem r_cmethA {E : XK} (q : ta σ H fun x H1 => x = .ref C ∧ sp [.ref C] H1 Q E) : tCMethA C sp E ta σ H Q := q
theorem r_cval {f : Str} (q : ta σ H fun x H1 => ∃ C mc v u, x = .ref C ∧ ClX.CRead K C mc ∧ ClX.CVal K C mc f v u ∧ Q v H1) : ClX.tCVal K ta f σ H Q := q
theorem r_prop {sp : Sp} {dvs : List V} {E : XK} (q : ta σ H fun x H1 => ∃ a dx fs, x = .ref a ∧ H1 a = some (.ins C dx fs) ∧ sp (.ref a :: dvs) H1 Q E) : tProp C sp dvs E ta σ H Q := q
theorem r_fld {f : Str} (q : ta σ H fun x H1 => ∃ a C dx fs v, x = .ref a ∧ H1 a = some (.ins C dx fs) ∧ Cls K C ∧ NoAttr K C f ∧ fs.lookup f = some v ∧ Q v H1) : tFld K ta f σ H Q := q
theorem r_sfld {f : Str} {tv : TE} (q : tv σ H fun y H1 => ta σ H1 fun x H2 => ∃ a C dx fs, x = .ref a ∧ H2 a = some (.ins C dx fs) ∧ Cls K C ∧ NoAttr K C f ∧ fs.length < 1000 ∧ D.nx σ (upd H2 a (.ins C dx (putF f y fs)))) : sFld K ta tv f D σ H := q
theorem r_fldAt {f : Str} {v : V} {R : V → Prop} (h : H a = some (.ins C dx fs)) (c : Cls K C) (n : NoAttr K C f) (l : fs.lookup f = some v) (q : R v) : ∃ b C dx fs v, V.ref a = .ref b ∧ H b = some (.ins C dx fs) ∧ Cls K C ∧ NoAttr K C f ∧ fs.lookup f = some v ∧ R v := ⟨a, C, dx, fs, v, rfl, h, c, n, l, q⟩
end
end G
/-! ### the head's facts by a list of tests -/
namespace G
open PySem PySem.Spec PyProof.Rows L2
def fdNo : FuncData := PySem.W.fnOf "" "" { posonlyargs := [], args := [], vararg := none, kwonlyargs := [], kw_defaults := [], kwarg := none, defaults := [] } [] { kind := .function, names := [], isGenerator := false, isCoroutine := false } .none .none .none .none none .none .none
def fdOf (K : PySem.W.Frag) (f : Addr) : FuncData := match K.lookup f with
  | some ⟨_, _, .func fd, _⟩ => fd
  | _ => fdNo
theorem defAt {K : PySem.W.Frag} {x qual : Str} {params : Arguments} {body : List Stmt} {scope : Scope} {dvs : List V} {kws : List (Str × V)} {f : Addr} (h : ∃ fd, FunD K x qual params body scope dvs kws f fd) : FunD K x qual params body scope dvs kws f (fdOf K f) := by
  obtain ⟨fd, F⟩ := h
  have e : fdOf K f = fd := by
    obtain ⟨oc, od, dV, kV, doc, pm, an, cdv, ct, osl, rfl, lk, _⟩ := F.ex
    unfold fdOf
    rw [lk]
  rw [e]
  exact F
/-- a def's words, whatever its closure -/
def fnB (K : PySem.W.Frag) (a : Addr) : He5.FnW := match K.lookup a with
  | some ⟨_, _, .func fd, _⟩ => some (fd.name, fd.qualname, fd.params, fd.body, fd.scope, fd.globals, [], fd.builtins)
  | _ => none
def obsM (fa : List (PySem.W.Frag → Bool)) (fn gs : List He5.DefA) (K : PySem.W.Frag) : He.AlD := ((fa.all fun f => f K) && fn.all fun d => d.ok K, (fn.map fun d => He5.fnA K (d.at_ K)) ++ gs.map fun d => fnB K (d.at_ K))
def valM (fn gs : List He5.DefA) : He.AlD := (true, fn.map He5.DefA.val ++ gs.map He5.DefA.val)
def SaysM (fa : List (PySem.W.Frag → Bool)) (fn gs : List He5.DefA) (K : PySem.W.Frag) : Prop := obsM fa fn gs K = valM fn gs
/-- what is reached from the module's names in n steps, each address once (a number's bits tell what was seen) -/
def addB : List Addr → Nat → List Addr → (List Addr → Nat → List Addr) → List Addr
  | [], m, acc, k => k acc m
  | a :: r, m, acc, k => match Nat.testBit m a with
    | true => addB r m acc k
    | false => addB r (m ||| (1 <<< a)) (a :: acc) k
def growB (g : Addr → Option Obj) : Nat → List Addr → Nat → List Addr → List Addr
  | 0, _, _, acc => acc
  | n + 1, fr, m, acc => addB (fr.flatMap fun a => match g a with
    | some o => He.refsD o
    | none => []) m [] fun fr' m' => growB g n fr' m' (fr' ++ acc)
def asB (g : Addr → Option Obj) (n : Nat) : List Addr := growB g n [PySem.mainGlobals] (1 <<< PySem.mainGlobals) [PySem.mainGlobals] ++ [PySem.cStatics, PySem.sysModules]
def obsMG (n : Nat) (fa : List (PySem.W.Frag → Bool)) (fn gs : List He5.DefA) (g : Addr → Option Obj) : He.AlD := obsM fa fn gs (He.frG g (asB g n))
def hookM (n : Nat) (fa : List (PySem.W.Frag → Bool)) (fn gs : List He5.DefA) : PySem.W.Hook where
  α := He.AlD
  obs := fun s => obsMG n fa fn gs s.heap.get?
  val := fun _ => valM fn gs
  says := fun _ h => ∃ K : PySem.W.Frag, K.In h ∧ SaysM fa fn gs K
  of := fun _ _ e => ⟨_, He.frG_in, e⟩
  keeps := fun _ _ _ ⟨K, hK, c⟩ k => ⟨K, PySem.W.Frag.In.keeps hK k, c⟩
theorem obsMG_eq {n : Nat} {fa : List (PySem.W.Frag → Bool)} {fn gs : List He5.DefA} {g : Addr → Option Obj} {s : Shared} (h : ∀ a, g a = s.heap.get? a) : obsMG n fa fn gs g = (hookM n fa fn gs).obs s := by
  have e : g = s.heap.get? := funext h
  rw [e] <;> rfl
section
variable {fa : List (PySem.W.Frag → Bool)} {fn gs : List He5.DefA} {K : PySem.W.Frag}
theorem SaysM.fact (c : SaysM fa fn gs K) (i : Nat) {f : PySem.W.Frag → Bool} (h : fa[i]? = some f) : f K = true := by
  have c1 := (He.ba (show ((fa.all fun f => f K) && fn.all fun d => d.ok K) = true from congrArg (fun z : He.AlD => z.1) c)).1
  exact List.all_eq_true.mp c1 f (List.mem_of_getElem? h)
theorem SaysM.two (c : SaysM fa fn gs K) : fn.map (fun d => He5.fnA K (d.at_ K)) = fn.map He5.DefA.val ∧ gs.map (fun d => fnB K (d.at_ K)) = gs.map He5.DefA.val :=
  List.append_inj (congrArg (fun z : He.AlD => z.2) c) (by rw [List.length_map, List.length_map])
theorem SaysM.def_ (c : SaysM fa fn gs K) (i : Nat) {d : He5.DefA} (h : fn[i]? = some d) : ∃ fd, FunD K d.name d.qual d.params d.body d.scope (d.dvs K) (d.kws K) (d.at_ K) fd := by
  have c2 := (He.ba (show ((fa.all fun f => f K) && fn.all fun d => d.ok K) = true from congrArg (fun z : He.AlD => z.1) c)).2
  have e2 : (fn.map fun d => He5.fnA K (d.at_ K))[i]? = (fn.map He5.DefA.val)[i]? := by rw [c.two.1]
  rw [List.getElem?_map, List.getElem?_map, h] at e2
  exact He5.DefA.funD (Option.some.inj e2) (List.all_eq_true.mp c2 d (List.mem_of_getElem? h))
theorem SaysM.sup_ (c : SaysM fa fn gs K) (i : Nat) {d : He5.DefA} (h : gs[i]? = some d) : fnB K (d.at_ K) = d.val := by
  have e2 : (gs.map fun d => fnB K (d.at_ K))[i]? = (gs.map He5.DefA.val)[i]? := by rw [c.two.2]
  rw [List.getElem?_map, List.getElem?_map, h] at e2
  exact Option.some.inj e2
end
/-! ### own exceptions without __init__ -/
structure ExcF (K : PySem.W.Frag) (C : Addr) : Prop where
  x : PySem.W.excIn K C He.veBase "ValueError.__new__" = true
  k : PySem.W.keepIn K (.ref C) = true
  b : PySem.W.subIn K (.ref C) (.type "BaseException") = some true
  t : PySem.W.typeIn K (.ref C) = some (.type "type")
def excFB (K : PySem.W.Frag) (C : Addr) : Bool := PySem.W.excIn K C He.veBase "ValueError.__new__" && (PySem.W.keepIn K (.ref C) && (decide (PySem.W.subIn K (.ref C) (.type "BaseException") = some true) && decide (PySem.W.typeIn K (.ref C) = some (.type "type"))))
theorem excF_ok {K : PySem.W.Frag} {C : Addr} (c : excFB K C = true) : ExcF K C := by
  obtain ⟨c1, c⟩ := He.ba c
  obtain ⟨c2, c⟩ := He.ba c
  obtain ⟨c3, c4⟩ := He.ba c
  exact ⟨c1, c2, of_decide_eq_true c3, of_decide_eq_true c4⟩
end G
namespace G
open PySem PySem.Spec PyProof.Rows L2
/-- a law's promise -/
def sp_law (K : PySem.W.Frag) : Sp := fun vs H Q _ => ∃ (a : Addr) (ns : List Int), vs = [.ref a] ∧ SqL K H a (ns.map V.int) ∧ ns.length ≤ 63 ∧ ∀ H', Q (.bl true) H'
end G
/-! ### classes: facts read off the head -/
namespace G
open PySem PySem.Spec PyProof.Rows L2
/-- f is a property of the class at C (found at D): its getter -/
def propB (K : PySem.W.Frag) (C D : Addr) (f : Str) : Bool := He.eqO (PySem.W.findIn K (.ref C) f) (some (some (.ref (He.ma K D f)))) && (He.eqO (PySem.W.specialIn K (.ref (He.ma K D f)) "__get__") (some (some (.builtin "property.__get__"))) &&
  (decide (PySem.W.takesIn K (.ref (He.ma K D f)) = some true) && (match PySem.W.recIn K (He.ma K D f) "property" with
    | some (.ref _ :: _) => true
    | _ => false)))
theorem propB_ok {K : PySem.W.Frag} {C D : Addr} {f : Str} (c : propB K C D f = true) : PropOf K C f (He.ma K D f) (He5.wf K D "property" f) := by
  obtain ⟨c1, c⟩ := He.ba c
  obtain ⟨c2, c⟩ := He.ba c
  obtain ⟨c3, c4⟩ := He.ba c
  refine ⟨He.eqO_ok c1, He.eqO_ok c2, of_decide_eq_true c3, ?_⟩
  unfold He5.wf
  split at c4
  · rename_i g rest e
    rw [e]
    exact ⟨rest, rfl⟩
  · cases c4
/-- m is a method of the class at C, found at D -/
def methB (K : PySem.W.Frag) (C D : Addr) (m : Str) : Bool := He.eqO (PySem.W.findIn K (.ref C) m) (some (some (.ref (He.ma K D m)))) && (PySem.W.isFn K (.ref (He.ma K D m)) && PySem.W.keepIn K (.ref (He.ma K D m)))
theorem methB_ok {K : PySem.W.Frag} {C D : Addr} {m : Str} (c : methB K C D m = true) : Meth K C m (He.ma K D m) := by
  obtain ⟨c1, c⟩ := He.ba c
  obtain ⟨c2, c3⟩ := He.ba c
  exact ⟨He.eqO_ok c1, c2, c3⟩
def creadB (K : PySem.W.Frag) (C : Addr) : Bool := PySem.W.readsIn K C (.type "type") && He.eqO (PySem.W.specialIn K (.ref C) "__getattribute__") (some (some (.builtin "type.__getattribute__")))
theorem creadB_ok {K : PySem.W.Frag} {C : Addr} (c : creadB K C = true) : ClX.CRead K C (.type "type") := by
  obtain ⟨c1, c2⟩ := He.ba c
  exact ⟨c1, He.eqO_ok c2⟩
def cmetB (K : PySem.W.Frag) (C : Addr) (m : Str) : Bool := He5.wrapB K C "classmethod" "classmethod.__get__" m && PySem.W.fnIn K (He5.wf K C "classmethod" m)
theorem cmetB_ok {K : PySem.W.Frag} {C : Addr} {m : Str} (c : cmetB K C m = true) : ClX.CMet K C (.type "type") m (He.ma K C m) (He5.wf K C "classmethod" m) := by
  obtain ⟨c1, c2⟩ := He.ba c
  exact He5.cmet_of c1 c2
def cvalB (K : PySem.W.Frag) (C : Addr) (f : Str) (v : V) : Bool := match PySem.W.findCls K (.ref C) (.type "type") f with
  | some (.val u) => He.relB v u
  | _ => false
theorem cvalB_ok {K : PySem.W.Frag} {C : Addr} {f : Str} {v : V} (c : cvalB K C f v = true) : ∃ u, ClX.CVal K C (.type "type") f v u := by
  unfold cvalB at c
  split at c
  · rename_i u e
    exact ⟨u, e, He.relB_ok c⟩
  · cases c
/-- an instance of the class at C has that type -/
structure InsTy (K : PySem.W.Frag) (C : Addr) : Prop where
  cl : Cls K C
  ha : PySem.W.findIn K (.ref C) "__class__" = some (some (.builtin "object.__class__"))
  hn : PySem.W.specialIn K (.builtin "object.__class__") "__get__" = some (some (.builtin "getset_descriptor.__get__"))
  tk : PySem.W.takesIn K (.builtin "object.__class__") = some true
  ob : PySem.W.mroIn K C (.type "object") = some true
theorem InsTy.ty {K : PySem.W.Frag} {C a dx : Addr} {H : Hp} {fs : List (Str × V)} (t : InsTy K C) (h : H a = some (.ins C dx fs)) : TyX K H (.ref a) (.ref C) := .base (.ins h t.cl t.ha t.hn t.tk t.ob)
def insTyB (K : PySem.W.Frag) (C : Addr) : Bool := PySem.W.plainGet K C Str.empty && (PySem.W.hasDictIn K C && (PySem.W.plainOver K C && (He.eqO (PySem.W.findIn K (.ref C) "__setattr__") (some (some (.builtin "object.__setattr__"))) &&
  (He.eqO (PySem.W.findIn K (.ref C) "__class__") (some (some (.builtin "object.__class__"))) && (He.eqO (PySem.W.specialIn K (.builtin "object.__class__") "__get__") (some (some (.builtin "getset_descriptor.__get__"))) &&
  (decide (PySem.W.takesIn K (.builtin "object.__class__") = some true) && decide (PySem.W.mroIn K C (.type "object") = some true)))))))
theorem insTyB_ok {K : PySem.W.Frag} {C : Addr} (c : insTyB K C = true) : InsTy K C := by
  obtain ⟨c1, c⟩ := He.ba c
  obtain ⟨c2, c⟩ := He.ba c
  obtain ⟨c3, c⟩ := He.ba c
  obtain ⟨c4, c⟩ := He.ba c
  obtain ⟨c5, c⟩ := He.ba c
  obtain ⟨c6, c⟩ := He.ba c
  obtain ⟨c7, c8⟩ := He.ba c
  exact ⟨⟨c1, c2, c3, He.eqO_ok c4⟩, He.eqO_ok c5, He.eqO_ok c6, of_decide_eq_true c7, of_decide_eq_true c8⟩
/-- isinstance of a value of type t against the class at C -/
def isiB (K : PySem.W.Frag) (t u : Value) (b : Bool) : Bool := decide (PySem.W.kitOne K t u = some b)
theorem isiB_ok {K : PySem.W.Frag} {t u : Value} {b : Bool} (c : isiB K t u b = true) : PySem.W.kitOne K t u = some b := of_decide_eq_true c
/-- no value of a built-in kind is an instance of the class at C; none is compared ahead of it -/
def kitNoB (K : PySem.W.Frag) (C : Addr) : Bool := kds.all fun k => isiB K (.type k) (.ref C) false && PySem.W.notFirst K C (.type k)
theorem kitNoB_ok {K : PySem.W.Frag} {C : Addr} (c : kitNoB K C = true) : ∀ k ∈ kds, PySem.W.kitOne K (.type k) (.ref C) = some false := fun k hk => isiB_ok (Bool.and_eq_true_iff.mp (List.all_eq_true.mp c k hk)).1
theorem kitNoB_nf {K : PySem.W.Frag} {C : Addr} (c : kitNoB K C = true) : ∀ k ∈ kds, PySem.W.notFirst K C (.type k) = true := fun k hk => (Bool.and_eq_true_iff.mp (List.all_eq_true.mp c k hk)).2
def mkB (K : PySem.W.Frag) (C f : Addr) : Bool := PySem.W.makesIn K C && (He.eqO (PySem.W.findIn K (.ref C) "__init__") (some (some (.ref f))) && (PySem.W.isFn K (.ref f) && PySem.W.keepIn K (.ref C)))
theorem mkB_ok {K : PySem.W.Frag} {C f : Addr} (c : mkB K C f = true) : Mk K C f := by
  obtain ⟨c1, c⟩ := He.ba c
  obtain ⟨c2, c⟩ := He.ba c
  obtain ⟨c3, c4⟩ := He.ba c
  exact ⟨c1, He.eqO_ok c2, c3, c4⟩
end G
/-! ### in-place operators; != of lists of instances with an own __eq__ -/
namespace G
open PySem PySem.Spec PyProof.Rows L2
section
variable {X : Cx}
theorem kpgLst {K : PySem.W.Frag} {es : List Expr} {k : Nat} {t : TGs} {n : Nat} {pos : Pos} (hc : X.calm = true) (h : PGs X es t) (hK : X.K = K := by rfl)
    (hn : (assignEach es X.env).length = n := by rfl) (hst : (assignEach es X.env).findIdx? (·.1) = none := by rfl) : PG X (.Tuple es k pos) (gLst K n t) := hK ▸ pg_lst hc h hn hst
theorem r_glst {K : PySem.W.Frag} {k : Nat} {t : TGs} {p : Addr} {xs : List V} {σ : L2.St} {H : Hp} {R : L2.St → Hp → Prop} (h : SqL K H p xs) (q : t xs σ H R) (hl : xs.length = k := by rfl) : gLst K k t (.ref p) σ H R := ⟨p, xs, rfl, h, hl, q⟩
theorem ip_fdiv : PIp X .FloorDiv (rI CDivW fun i j => .int (i / j)) := by
  intro pins s σ H x y v u Q I r1 r2 h
  obtain ⟨i, j, e1, e2, hc, q⟩ := h
  subst e1; subst e2; obtain ⟨t, rfl⟩ := r1; obtain ⟨t', rfl⟩ := r2
  have h1 : (0 : Int) < j := hc.1
  exact ifloordiv_int (by omega) (by rw [Int.fdiv_eq_ediv_of_nonneg i (by omega)]; exact ⟨.int _, H, I.tok _, ⟨_, rfl⟩, q⟩) (.inl (PyProof.noPylong_of_log2 hc.2))
end
section
open PySem.SeqAt AutoSeq1 MeetsSeq MeetsSeq2 MeetsSeq3 SeqRoads2
variable {prog : Program} {w : World} {A : Around} {R : Result → Shared → Prop}
theorem ne_loopO (l b : Addr) (N : Nat) (I : Nat → Shared → Prop) (hl : GQ.ListI prog w A (fun e s' => R (.error e) s') l b N I) (fin : ∀ s, I N s → R (.ok (.ret (.bool false))) s) (k : Nat) :
    ∀ i : Nat, N - i = k → i ≤ N → ∀ s, I i s → wpAny (model prog w) A.in1 (Builtin.«list.__eq__.loop» ⟨[.ref l, .ref b, rawInt i, rawInt 3], []⟩) (GQ.FinOf prog w A R) (fun e s' => R (.error e) s') s := by
  induction k with
  | zero =>
    intro i hk hi s h
    obtain ⟨xs, ys, n, n2, gx, gy, sx, sy, _⟩ := hl _ _ h
    have hi' : i = N := by omega
    have hR : R (.ok (.ret (.bool false))) s := fin s (hi' ▸ h)
    obtain ⟨hp, g, d, tk, os⟩ := s; wp_walk using AutoSeq1.wpAny_loadPart' gx, AutoSeq1.wpAny_loadPart' gy
    have hx : xs[((i : Nat) : Int).toNat]? = none := by simp; omega
    have hy : ys[((i : Nat) : Int).toNat]? = none := by simp; omega
    rw [hx, hy]; wp_walk using AutoSeq1.wpAny_loadPart' gx, AutoSeq1.wpAny_loadPart' gy
    show R (.ok (.ret (.bool (xs.size != ys.size)))) _
    rw [sx, sy]
    simpa using hR
  | succ k ih =>
    intro i hk hi s h
    obtain ⟨xs, ys, n, n2, gx, gy, sx, sy, turn⟩ := hl _ _ h
    have lx : i < xs.size := by omega
    have ly : i < ys.size := by omega
    have ht := turn lx ly
    obtain ⟨hp, g, d, tk, os⟩ := s; wp_walk using AutoSeq1.wpAny_loadPart' gx, AutoSeq1.wpAny_loadPart' gy
    have hx : xs[((i : Nat) : Int).toNat]? = some xs[i] := by simp [lx]
    have hy : ys[((i : Nat) : Int).toNat]? = some ys[i] := by simp [ly]
    have hc : ((i : Int) + 1) = ((i + 1 : Nat) : Int) := by push_cast; rfl
    rw [hx, hy]; refine wpAny_bind (wpAny_mono ht (fun r s2 h2 => ?_) fun _ _ x => x)
    obtain ⟨hr, h2⟩ := h2
    subst hr; have hrec := ih (i + 1) (by omega) (by omega) s2 h2
    obtain ⟨hp2, g2, d2, tk2, os2⟩ := s2; wp_walk
    rw [hc]; exact ⟨plainId_quiet plain_eq_loop _, codeAny_builtin entry_eq_loop (by rw [Around.under_plainId plain_eq_loop _]; exact hrec)⟩
theorem list_neO (l b : Addr) (N : Nat) (I : Nat → Shared → Prop) (hl : GQ.ListI prog w A (fun e s' => R (.error e) s') l b N I) (fin : ∀ s, I N s → R (.ok (.ret (.bool false))) s) {s : Shared} (h : I 0 s) :
    wpAny (model prog w) A.in1 (Builtin.«list.__ne__» ⟨[.ref l, .ref b], []⟩) (GQ.FinOf prog w A R) (fun e s' => R (.error e) s') s := by
  obtain ⟨xs, ys, n, n2, gx, gy, sx, sy, _⟩ := hl _ _ h
  have hrec := ne_loopO (A := A) (R := R) l b N I hl fin _ 0 rfl (Nat.zero_le _) s h
  obtain ⟨hp, g, d, tk, os⟩ := s; have f3 := AutoSeq1.sub_list_list
  have hne : ¬ (xs.size != ys.size) = true := by simp [sx, sy]
  wp_walk using AutoSeq1.wpAny_loadPart' gx, AutoSeq1.wpAny_loadPart' gy
  exact ⟨plainId_quiet plain_eq_loop _, codeAny_builtin entry_eq_loop (by rw [Around.under_plainId plain_eq_loop _]; exact hrec)⟩
theorem rc_neO {E : Value → Shared → Prop} {s : Shared} {l b : Addr} {N : Nat} {Q : Value → Shared → Prop} (hu : A.units < cLine) (I : Nat → Shared → Prop) (hl : GQ.ListI prog w A E l b N I)
    (fin : ∀ s, I N s → Q (.bool false) s) (h : I 0 s) : wpAny (model prog w) A (richCompare .NotEq (.ref l) (.ref b)) Q E s := by
  obtain ⟨xs, ys, n, n2, gx, gy, _, _, _⟩ := hl _ _ h
  refine wpAny_richCompare_same_room (op := .NotEq) ⟨_, gx, rfl⟩ ⟨_, gy, rfl⟩ F.slot_list_ne (GQ.call_here F.slot_list_ne ⟨_, gx, rfl⟩ F.entry_list_ne (F.args_list_ne_2 _ _) ?_) hu
  exact list_neO (R := wants (fun v s' => v ≠ .notImplemented ∧ Q v s') E) l b N I hl (fun s' q => ⟨(fun x => nomatch x), fin s' q⟩) h
end
/-- the two are equal, by D -/
def rNeLO (D : Eqv) : R2 := fun x y H Q => DList D x y H ∧ ∀ H', Same H H' → Q (.bl false) H'
theorem op_neLO {X : Cx} {n : Nat} {D : Eqv} (hD : Mon D) (h : EqG X n D) (hr : Room (n + 1) X.A) : OpR X (compareOp .NotEq) (rNeLO D) := by
  intro pins s σ H x y v u Q I rx ry hq
  obtain ⟨⟨a, b, xs, ys, rfl, rfl, ha, hb, p⟩, q⟩ := hq
  cases rx; cases ry
  show wpAny (model X.prog X.w) X.A (richCompare .NotEq (.ref a) (.ref b)) (EP X pins σ Q) X.xe s
  refine rc_neO (N := xs.length) hr.units0 (fun _ s' => LoopI X pins σ H s') (fun i s' q => ?_) (fun s' ⟨H', I', e⟩ => ⟨.bl false, H', I', rfl, q H' e⟩) ⟨H, I, Ext.rfl'⟩
  obtain ⟨H1, I1, e1⟩ := id q
  obtain ⟨z, its, k, r, e⟩ := I1.hok a _ (e1 _ _ ha)
  obtain ⟨z2, its2, k2, r2, e2⟩ := I1.hok b _ (e1 _ _ hb)
  exact ⟨its.toArray, its2.toArray, k, k2, e, e2, by rw [List.size_toArray, ← r.length], by rw [List.size_toArray, ← r2.length, ← p.1], fun h1 h2 => turnG hD h ⟨hr, rfl⟩ p r r2 i h1 h2 s' q⟩
theorem r_neLO {D : Eqv} {H : Hp} {a b : Addr} {xs ys : List V} {Q : VK} (ha : H a = some (.lst xs)) (hb : H b = some (.lst ys)) (p : Prs D xs ys H) (q : ∀ H', Same H H' → Q (.bl false) H') : rNeLO D (.ref a) (.ref b) H Q := ⟨⟨a, b, xs, ys, rfl, rfl, ha, hb, p⟩, q⟩
end G
/-! ### own exceptions with fields -/
namespace G
open PySem PySem.Spec PyProof.Rows L2
def oexClsB (K : PySem.W.Frag) (C : Addr) : Bool := match K.lookup C with
  | some ⟨.type "type", _, .cls cd, sl⟩ => (match cd.mro, sl.toList with
    | .ref C' :: bm, [_, _, _, _, some (.builtin n), _] => C' == C && n == "ValueError.__new__" && !cd.hasDel && cd.hasDict && PySem.HandSPX.refsVE bm
    | _, _ => false)
  | _ => false
theorem oexClsB_ok {K : PySem.W.Frag} {C : Addr} (q : oexClsB K C = true) : ∃ nm q N bs bm sn sub ab col dd k0 k1 k2 k3 k5, K.lookup C = some (excClassObj nm q C N bs bm true sn sub ab col dd k0 k1 k2 k3 k5 "ValueError.__new__") ∧ PySem.HandSPX.refsVE bm = true := by
  unfold oexClsB at q
  split at q
  · rename_i dd cd sl ho
    split at q
    · rename_i C' bm k0 k1 k2 k3 n k5 hm hs
      simp only [Bool.and_eq_true, beq_iff_eq, Bool.not_eq_true'] at q
      obtain ⟨⟨⟨⟨rfl, rfl⟩, hdel⟩, hdc⟩, ht⟩ := q
      obtain ⟨nm, bs, mro, ns, qn, hd, sn, sub, ab, col, del⟩ := cd
      dsimp only at hm hdel hdc
      subst hm hdel hdc
      have hsl : sl = #[k0, k1, k2, k3, some (.builtin "ValueError.__new__"), k5] := by
        obtain ⟨l⟩ := sl; simp only at hs; rw [hs]
      subst hsl
      exact ⟨nm, qn, ns, bs, bm, sn, sub, ab, col, dd, k0, k1, k2, k3, k5, ho, ht⟩
    · cases q
  · cases q
/-- an own exception class at C: its __init__ at fI; its fields fs are no attributes of the class -/
structure OexF (K : PySem.W.Frag) (C fI : Addr) (fs : List Str) : Prop where
  o : OexC K C
  i : PySem.W.findIn K (.ref C) "__init__" = some (some (.ref fI))
  t : PySem.W.typeIn K (.ref fI) = some (.type "function")
  x : XfC K C
  n : ∀ f ∈ fs, PySem.W.findIn K (.ref C) f = some none
def oexFB (K : PySem.W.Frag) (C fI : Addr) (fs : List Str) : Bool := oexClsB K C && (He.eqO (PySem.W.findIn K (.ref C) "__setattr__") (some (some (.builtin "object.__setattr__"))) && (decide (PySem.W.subIn K (.ref C) (.type "BaseException") = some true) && (decide (PySem.W.typeIn K (.ref C) = some (.type "type")) && (PySem.W.keepIn K (.ref C) &&
  (He.eqO (PySem.W.findIn K (.ref C) "__init__") (some (some (.ref fI))) && (decide (PySem.W.typeIn K (.ref fI) = some (.type "function")) && (xfB K C && fs.all fun f => He.eqO (PySem.W.findIn K (.ref C) f) (some none))))))))
theorem oexFB_ok {K : PySem.W.Frag} {C fI : Addr} {fs : List Str} (c : oexFB K C fI fs = true) : OexF K C fI fs := by
  obtain ⟨c1, c⟩ := He.ba c
  obtain ⟨c2, c⟩ := He.ba c
  obtain ⟨c3, c⟩ := He.ba c
  obtain ⟨c4, c⟩ := He.ba c
  obtain ⟨c5, c⟩ := He.ba c
  obtain ⟨c6, c⟩ := He.ba c
  obtain ⟨c7, c⟩ := He.ba c
  obtain ⟨c8, c9⟩ := He.ba c
  exact ⟨⟨oexClsB_ok c1, He.eqO_ok c2, of_decide_eq_true c3, of_decide_eq_true c4, c5⟩, He.eqO_ok c6, of_decide_eq_true c7, xfB_ok c8, fun f hf => He.eqO_ok (List.all_eq_true.mp c9 f hf)⟩
/-- __init__ of an exception with one field -/
def spX1 (C : Addr) (f : Str) : Sp := fun vs H Q _ => ∃ (a : Addr) (v : V), vs = [.ref a, v] ∧ H a = some (exo a C none) ∧ ∀ dx, H dx = none → dx ≠ a → Q .non (upd (upd H dx (exd dx [(f, v)])) a (exo a C (some dx)))
def spX2 (C : Addr) (f g : Str) : Sp := fun vs H Q _ => ∃ (a : Addr) (v u : V), vs = [.ref a, v, u] ∧ H a = some (exo a C none) ∧ ∀ dx, H dx = none → dx ≠ a → Q .non (upd (upd (upd H dx (exd dx [(f, v)])) a (exo a C (some dx))) dx (exd dx [(g, u), (f, v)]))
theorem kOst {X : Cx} {K : PySem.W.Frag} {st : Stmt} {to te : TE} {f : Str} (h : PS X st (tOst X.K f to te)) (hK : X.K = K := by rfl) : PS X st (tOst K f to te) := hK ▸ h
section
variable {K : PySem.W.Frag} {σ : L2.St} {H : Hp} {D : Ends} {to te : TE} {f : Str} {C a : Addr} {y : V}
theorem r_ost (q : te σ H fun y H1 => to σ H1 fun x H2 => ∃ a C : Addr, x = .ref a ∧ OexC K C ∧ PySem.W.findIn K (.ref C) f = some none ∧
  ((H2 a = some (exo a C none) ∧ ∀ dx, H2 dx = none → dx ≠ a → D.nx σ (upd (upd H2 dx (exd dx [(f, y)])) a (exo a C (some dx)))) ∨
    ∃ (dx : Addr) (fs : List (Str × V)), H2 a = some (exo a C (some dx)) ∧ H2 dx = some (exd dx fs) ∧ fs.length ≤ 900 ∧ D.nx σ (upd H2 dx (exd dx ((f, y) :: fs))))) : tOst K f to te D σ H := q
/-- raise C(v): what the def lets out -/
theorem r_mkX1 {v : V} {E : XK} (q : ∀ d H', Same H H' → H d = none → H' d = some (.xd [(f, v)]) → E (.ref C) (some d) H') : ∀ a, H a = none → spX1 C f (.ref a :: ([v] ++ [])) (upd H a (exo a C none))
    (fun u H2 => u = .non ∧ ∃ (d : Addr) (fs : List (Str × V)), H2 a = some (exo a C (some d)) ∧ H2 d = some (exd d fs) ∧ H d = none ∧ E (.ref C) (some d) (upd (del H2 a) d (.xd fs))) (fun _ _ _ => False) := by
  intro a ha
  refine ⟨a, v, rfl, upd_same, fun dx hdx hne => ⟨rfl, dx, [(f, v)], upd_same, ?_, ?_, ?_⟩⟩
  · rw [upd_ne hne, upd_same]
  · rw [upd_ne hne] at hdx; exact hdx
  · have hd0 : H dx = none := by rw [upd_ne hne] at hdx; exact hdx
    refine q dx _ (fun c o e => ?_) hd0 upd_same
    have n1 : c ≠ dx := ne_of_none e hd0
    have n2 : c ≠ a := ne_of_none e ha
    rw [upd_ne n1, del_ne n2, upd_ne n2, upd_ne n1, upd_ne n2]
    exact e
theorem r_mkX2 {g : Str} {v u : V} {E : XK} (q : ∀ d H', Same H H' → H d = none → H' d = some (.xd [(g, u), (f, v)]) → E (.ref C) (some d) H') : ∀ a, H a = none → spX2 C f g (.ref a :: ([v, u] ++ [])) (upd H a (exo a C none))
    (fun z H2 => z = .non ∧ ∃ (d : Addr) (fs : List (Str × V)), H2 a = some (exo a C (some d)) ∧ H2 d = some (exd d fs) ∧ H d = none ∧ E (.ref C) (some d) (upd (del H2 a) d (.xd fs))) (fun _ _ _ => False) := by
  intro a ha
  refine ⟨a, v, u, rfl, upd_same, fun dx hdx hne => ⟨rfl, dx, [(g, u), (f, v)], ?_, upd_same, ?_, ?_⟩⟩
  · rw [upd_ne hne.symm, upd_same]
  · rw [upd_ne hne] at hdx; exact hdx
  · have hd0 : H dx = none := by rw [upd_ne hne] at hdx; exact hdx
    refine q dx _ (fun c o e => ?_) hd0 upd_same
    have n1 : c ≠ dx := ne_of_none e hd0
    have n2 : c ≠ a := ne_of_none e ha
    rw [upd_ne n1, del_ne n2, upd_ne n1, upd_ne n2, upd_ne n1, upd_ne n2]
    exact e
end
end G
/-! ### properties and methods of objects whose class is known at the reading -/
namespace G
open PySem PySem.Spec PyProof.Rows L2
section
variable {X : Cx} {CX : CXT} {k : Nat} {p g f : Addr} {m : Str} {fd : FuncData} {ps : List Str} {sp : Sp} {dvs : List V} {ds : List Value} {e o : Expr} {es : List Expr} {pos apos : Pos} {ta : TE} {t : TA} {K : PySem.W.Frag}
def tPropG (K : PySem.W.Frag) (m : Str) (p g : Addr) (sp : Sp) (dvs : List V) (E : XK) (ta : TE) : TE := fun σ H Q => ta σ H fun x H1 => ∃ C a dx fs, x = .ref a ∧ H1 a = some (.ins C dx fs) ∧ Cls K C ∧ PropOf K C m p g ∧ sp (.ref a :: dvs) H1 Q E
theorem pe_propG {E : XK} (he : PE X e ta) (F : FnOk X.prog X.w X.K X.mg X.base CX k g fd ps sp) (hr : Room (k + 1) X.A) (hb : Binds X.K fd ps ds) (hd : Vals dvs ds) (hx : Passes CX X.nox E) (hK : X.K = K := by rfl)
    (hab : attributeBase e m X.env (eval e X.env) = eval e X.env := by rfl) : PE X (.Attribute e m pos) (tPropG K m p g sp dvs E ta) := by
  subst hK
  refine ⟨fun pins s σ H Q I h => ?_⟩
  refine attr_of hab (thn (he.run pins s σ H _ I h) fun u s1 ⟨x, H1, I1, rx, C, a, dx, fs, ex, ea, c, hp, q⟩ => ?_)
  subst ex; obtain rfl : u = Value.ref a := rx
  exact getprop_ok I1 ea c hp F hr hb hd hx q
def tMethG (K : PySem.W.Frag) (m : Str) (f : Addr) (sp : Sp) (E : L2.St → XK) (ta : TE) (t : TA) : TE := fun σ H Q => ta σ H fun x H1 => ∃ C a dx fs, x = .ref a ∧ H1 a = some (.ins C dx fs) ∧ Cls K C ∧ Meth K C m f ∧ fs.lookup m = none ∧ t σ H1 fun vs H2 => sp (x :: vs) H2 Q (E σ)
theorem pe_methG {E : L2.St → XK} {pl : Sem Bool} (he : PE X o ta) (kp : PySem.W.keepIn X.K (.ref f) = true) (F : FnR X.prog X.w X.K X.mg X.base CX k f sp) (hr : Room k X.A) (hx : ∀ σ, PassesAt CX X σ (E σ)) (ha : PA X (e :: es) t) (hK : X.K = K := by rfl)
    (hst : starEach (e :: es) X.env = (false, eval e X.env) :: starEach es X.env := by rfl) (hpl : (backTo pos (starEach es X.env)).any (·.1) = false := by rfl)
    (ht : eval (.Call (.Attribute o m apos) (e :: es) [] pos) X.env = (do
      let ov ← eval o X.env
      standAt apos.atName
      let (f, first) ← holding [ov] (getMethod ov m pl)
      callWith pos f first (backTo pos (starEach (e :: es) X.env)) (backToKw pos (keywordEach [] X.env))) := by rfl) :
    PE X (.Call (.Attribute o m apos) (e :: es) [] pos) (tMethG K m f sp E ta t) := by
  subst hK
  refine ⟨fun pins s σ H Q I h => ?_⟩
  refine PySem.W.methodCall_KW (pl := pl) (thn (he.run pins s σ H _ I h) fun u s1 ⟨x, H1, I1, rx, C, a, dx, fs, ex, ea, c, hm, l, q⟩ => ?_) ht
  subst ex; obtain rfl : u = Value.ref a := rx
  refine getmeth_ok I1 ea c hm l (PySem.W.callWith_K (first := [.ref a]) (h₀ := X.base) I.ok.mod.kin kp (thn (ha.run pos pins s1 σ H1 _ I1 q) fun us s2 ⟨vs, H2, I2, r, q2⟩ => ⟨I2.kIn, ?_⟩) hst hpl)
  exact run_fnRS (us := .ref a :: us) (vs := .ref a :: vs) F hr (hx σ) I2 (.cons rfl r) q2
end
section
variable {K : PySem.W.Frag} {m : Str} {p g f : Addr} {sp : Sp} {dvs : List V} {ta : TE} {t : TA} {σ : L2.St} {H : Hp} {Q : VK}
theorem r_propG {E : XK} (q : ta σ H fun x H1 => ∃ C a dx fs, x = .ref a ∧ H1 a = some (.ins C dx fs) ∧ Cls K C ∧ PropOf K C m p g ∧ sp (.ref a :: dvs) H1 Q E) : tPropG K m p g sp dvs E ta σ H Q := q
theorem r_methG {E : L2.St → XK} (q : ta σ H fun x H1 => ∃ C a dx fs, x = .ref a ∧ H1 a = some (.ins C dx fs) ∧ Cls K C ∧ Meth K C m f ∧ fs.lookup m = none ∧ t σ H1 fun vs H2 => sp (x :: vs) H2 Q (E σ)) : tMethG K m f sp E ta t σ H Q := q
end
end G
/-! ### super().__init__(..) as the first statement of an __init__ -/
namespace G
open PySem PySem.Spec PyProof.Rows L2 PySem.W PySem.Calls
/-- names: the parameters first; the only free one is __class__ -/
structure SScp (N P : List Str) (sc : Scope) : Prop where
  kind : sc.kind = .function
  co : sc.isCoroutine = false
  gen : sc.isGenerator = false
  nd : N.Nodup
  pre : N.take P.length = P
  par : ∀ x ∈ P, sc.names.lookup x = some .local
  nocell : ∀ y ∈ sc.names, y.2 ≠ .cell
  free : ∀ y ∈ sc.names, y.2 = .free → y.1 = ("__class__" : Str)
  sup : sc.names.lookup ("super" : Str) = some .globalImplicit
  cls : sc.names.lookup ("__class__" : Str) = some .free
/-- what of the text such a method must have: the class D it stands in, the cell cc of that class, its code's record cda, the method f2 above -/
structure SupF (K : Frag) (x qual : Str) (params : Arguments) (body : List Stmt) (scope : Scope) (file : Str) (f D f2 : Addr) : Prop where
  ex : ∃ (oc : Value) (od : Option Addr) (dV kV doc pm : Value) (an : Option Addr) (cda : Addr) (ct : Value) (osl : Array (Option Value)) (cc : Addr), fdOf K f = ksFn x qual params body scope dV kV doc pm an (.ref cda) ct cc ∧
    K.lookup f = some ⟨oc, od, .func (fdOf K f), osl⟩ ∧ codeIn K (.ref cda) qual = true ∧ dV = .none ∧ kV = .none ∧ (∃ ccl cdd vs ccs tf, K.lookup cda = some ⟨ccl, cdd, .fields vs, ccs⟩ ∧ vs[2]? = some (.str file tf)) ∧ ∃ cl cld csl, K.lookup cc = some ⟨cl, cld, .cell (some (.ref D)), csl⟩
  kp : keepIn K (.ref f) = true
  cls : ∃ cd, clsIn K D = some cd
  sub : mroIn K D (.ref D) = some true
  any : nsIn K cStatics "thirdparty.any" = some none
  met : ks_superIn K D D "__init__" = some (some (.ref f2))
  fty : typeIn K (.ref f2) = some (.type "function")
  fi : fnIn K f2 = true
def supFB (K : Frag) (qual file : Str) (f D f2 : Addr) : Bool := (match K.lookup f with
  | some ⟨_, _, .func fd, _⟩ => (match fd.code, fd.closure, fd.defaults, fd.kwdefaults with
    | .ref cda, [(n, cc)], .none, .none => n == ("__class__" : Str) && (codeIn K (.ref cda) qual && ((match K.lookup cda with
      | some ⟨_, _, .fields vs, _⟩ => (match (vs[2]? : Option Value) with
        | some (Value.str z _) => z == file
        | _ => false)
      | _ => false) && (match K.lookup cc with
      | some ⟨_, _, .cell (some (.ref D')), _⟩ => D' == D
      | _ => false)))
    | _, _, _, _ => false)
  | _ => false) && (keepIn K (.ref f) && ((clsIn K D).isSome && (decide (mroIn K D (.ref D) = some true) && (He.eqO (nsIn K cStatics "thirdparty.any") (some none) && (He.eqO (ks_superIn K D D "__init__") (some (some (.ref f2))) && (decide (typeIn K (.ref f2) = some (.type "function")) && fnIn K f2))))))
theorem supFB_ok {K : Frag} {x qual : Str} {params : Arguments} {body : List Stmt} {scope : Scope} {file : Str} {f D f2 : Addr} (e : fnB K f = some (x, qual, params, .stmts body, scope, mainGlobals, [], builtinsNs)) (c : supFB K qual file f D f2 = true) : SupF K x qual params body scope file f D f2 := by
  obtain ⟨c1, c⟩ := He.ba c
  obtain ⟨c2, c⟩ := He.ba c
  obtain ⟨c3, c⟩ := He.ba c
  obtain ⟨c4, c⟩ := He.ba c
  obtain ⟨c5, c⟩ := He.ba c
  obtain ⟨c6, c⟩ := He.ba c
  obtain ⟨c7, c8⟩ := He.ba c
  refine ⟨?_, c2, Option.isSome_iff_exists.mp c3, of_decide_eq_true c4, He.eqO_ok c5, He.eqO_ok c6, of_decide_eq_true c7, c8⟩
  unfold fnB at e
  unfold fdOf
  split at c1
  · rename_i oc od fd osl ho
    rw [ho] at e ⊢
    obtain ⟨fn, fq, fp, fb, fsc, fg, fcl, fdf, fkd, fdoc, fpm, fan, fco, fct, fbl⟩ := fd
    simp only [Option.some.injEq, Prod.mk.injEq] at e
    obtain ⟨rfl, rfl, rfl, rfl, rfl, rfl, _, rfl⟩ := e
    dsimp only at c1 ⊢
    split at c1
    · rename_i cda n cc
      obtain ⟨d1, d⟩ := He.ba c1
      obtain ⟨d2, d⟩ := He.ba d
      obtain ⟨d3, d4⟩ := He.ba d
      obtain rfl := beq_iff_eq.mp d1
      refine ⟨oc, od, _, _, _, _, _, cda, _, osl, cc, rfl, rfl, d2, rfl, rfl, ?_, ?_⟩
      · split at d3
        · rename_i a1 a2 vs a3 h1
          split at d3
          · rename_i z tf h2
            obtain rfl := beq_iff_eq.mp d3
            exact ⟨a1, a2, vs, a3, tf, h1, h2⟩
          · cases d3
        · cases d3
      · split at d4
        · rename_i a1 a2 D' a3 h1
          obtain rfl := beq_iff_eq.mp d4
          exact ⟨a1, a2, a3, h1⟩
        · cases d4
    · cases c1
  · cases c1
/-- the context of such a def's body -/
def cxS (CX : CXT) (P : Program) (w : World) (K : Frag) (mg : Str → Option Value) (base : Heap) (N : List Str) (qual : Str) (scope : Scope) (f : Addr) (cd : Value) (cc : Addr) (A : Around) (outer : List Env) (s : Shared) (H : Hp) (E : XK) : Cx where
  prog := P
  w := w
  K := K
  mg := mg
  base := base
  A := A.deeper (ksEnv qual scope s.heap.objs.size f cd cc)
  N := N
  s_0 := s
  H_0 := H
  env := ksEnv qual scope s.heap.objs.size f cd cc
  outer := outer
  stack := ksEnv qual scope s.heap.objs.size f cd cc :: outer
  ex := []
  calm := true
  fn := fun _ => false
  pn := []
  xe := fun e s' => wpAny (model P w) (A.deeper (ksEnv qual scope s.heap.objs.size f cd cc)) (leaving (ksEnv qual scope s.heap.objs.size f cd cc) e) (fun _ z => CX outer H s E e z) (fun e' z => CX outer H s E e' z) s'
theorem zip_look {x : Str} {u : Value} : ∀ {P : List Str} {us : List Value} {i : Nat}, P.Nodup → P[i]? = some x → us[i]? = some u → (P.zip us).reverse.lookup x = some u := by
  intro P us i nd h1 h2
  have hmem : (x, u) ∈ (P.zip us).reverse := by
    rw [List.mem_reverse]
    refine List.mem_of_getElem? (i := i) ?_
    rw [List.getElem?_zip_eq_some]
    exact ⟨h1, h2⟩
  have uniq : ∀ v, (x, v) ∈ (P.zip us).reverse → v = u := by
    intro v hv
    rw [List.mem_reverse] at hv
    obtain ⟨j, hj⟩ := List.getElem?_of_mem hv
    rw [List.getElem?_zip_eq_some] at hj
    have e : i = j := nodup_ix nd h1 hj.1
    subst e
    rw [h2] at hj
    exact (Option.some.inj hj.2).symm
  cases e : (P.zip us).reverse.lookup x with
  | none =>
    have := List.lookup_eq_none_iff.mp e (x, u) hmem
    simp at this
  | some v => rw [uniq v (PySem.mem_of_lookup e)]
section
variable {CX : CXT} {P : Program} {w : World} {K : Frag} {mg : Str → Option Value} {base : Heap} {N ps : List Str} {qual : Str} {scope : Scope} {f cc : Addr} {cd : Value} {A : Around} {outer : List Env} {s : Shared} {H : Hp} {E : XK} {us : List Value} {vs : List V}
theorem inv_startS {h1 : Heap} {tk : Nat} {D : Addr} (S : SScp N ps scope) (hd : A.handled = none) (e0 : Env0 P w K mg base A outer s H) (hl : vs.length = ps.length) (r : Vals vs us) (hcell : ∃ cl cld csl, K.lookup cc = some ⟨cl, cld, .cell (some (.ref D)), csl⟩)
    (hns : h1.Ns s.heap.objs.size (fun x => (ps.zip us).reverse.lookup x)) (hk : ∀ b o, s.heap.get? b = some o → h1.get? b = some o) : Inv (cxS CX P w K mg base N qual scope f cd cc A outer s H E) [] (start N vs) H { s with heap := h1, toks := tk } := by
  have hpl : ps.length ≤ N.length := by have := congrArg List.length S.pre; rw [List.length_take] at this; omega
  have noA : ∀ b : Addr, b ∉ (cxS CX P w K mg base N qual scope f cd cc A outer s H E).ex := fun b z => absurd (show b ∈ ([] : List Addr) from z) (by simp)
  obtain ⟨cl, cld, csl, hc⟩ := hcell
  have hcc := e0.bs _ _ (e0.mod.kin _ _ hc)
  have one : ∀ y c, (cxS CX P w K mg base N qual scope f cd cc A outer s H E).env.cells.lookup y = some c → y = ("__class__" : Str) ∧ c = cc := by
    intro y c h
    have h : ([(("__class__" : Str), cc)] : List (Str × Addr)).lookup y = some c := h
    have := PySem.mem_of_lookup h
    simpa using this
  refine ⟨⟨e0.mod, S.kind, rfl, rfl, Nat.le_refl _, fun y z c h1 h2 => ?_, fun y hy => ?_, (fun y c z _ => nomatch z), fun _ => hd, Around.frames_deeper e0.frames, .inr ⟨rfl, rfl⟩, fun b z => absurd z (noA b), e0.bs, e0.bsz, fun b _ _ => noA b, fun b z => absurd z (noA b), e0.funs, e0.frf⟩,
    rfl, e0.bare, Un.kept hk, ⟨_, hns, fun i y v h1 h2 h3 => ?_⟩, fun y c h => ?_, e0.hok.fresh (Nat.le_refl _), fun y c h => ?_, fun p hp => absurd (show p ∈ ([] : List (Addr × Obj)) from hp) (by simp), e0.hok.kept hk, ?_⟩
  · rw [(one y c h1).1, (one z c h2).1]
  · have hy : scope.names.lookup y = some .cell ∨ scope.names.lookup y = some .free := hy
    rcases hy with hy | hy
    · exact absurd rfl (S.nocell _ (PySem.mem_of_lookup hy))
    · have e := S.free _ (PySem.mem_of_lookup hy) rfl
      have e : y = ("__class__" : Str) := e
      subst e
      exact ⟨cc, rfl⟩
  · have hi : i < vs.length := by
      unfold L2.start at h2
      by_cases hi : i < vs.length
      · exact hi
      · rw [List.getElem?_append_right (by simpa using hi), List.getElem?_replicate] at h2
        split at h2 <;> cases h2
    have ha : vs[i]? = some v := by
      unfold L2.start at h2
      rw [List.getElem?_append_left (by simpa using hi), List.getElem?_map] at h2
      cases e : vs[i]? with
      | none => rw [e] at h2; cases h2
      | some a => rw [e] at h2; cases h2; rfl
    obtain ⟨u, hu, rv⟩ := r.get ha
    have hp : ps[i]? = some y := by
      rw [← S.pre, List.getElem?_take_of_lt (by omega)]; exact h1
    have ndP : ps.Nodup := by rw [← S.pre]; exact S.nd.sublist (List.take_sublist _ _)
    exact ⟨u, rv, .inl ⟨S.par y (List.mem_of_getElem? hp), zip_look ndP hp hu⟩⟩
  · rw [(one y c h).2]
    exact ⟨_, ⟨_, hk _ _ hcc.1, rfl⟩⟩
  · rw [(one y c h).2]
    exact hcc.2
  · unfold L2.start
    show _ = N.length
    rw [List.length_append, List.length_map, List.length_replicate]
    omega
end
/-- a method whose body is super().__init__(e, ..) and more -/
theorem fn_super {CX : CXT} {P : Program} {w : World} {K : Frag} {mg : Str → Option Value} {base : Heap} {k : Nat} {x qual file : Str} {params : Arguments} {scope : Scope} {N ps : List Str} {f D f2 : Addr} {sp sp2 : Sp} {e : Expr} {es : List Expr} {p0 p1 apos pos epos : Pos} {rest : List Stmt} {ar : Arg}
    (F : SupF K x qual params (.Expr (.Call (.Attribute (.Call (.Name "super" p0) [] [] p1) "__init__" apos) (e :: es) [] pos) epos :: rest) scope file f D f2) (S : SScp N ps scope) (hms : mg "super" = none) (hp : (params.posonlyargs ++ params.args).head? = some ar) (har : ps[0]? = some ar.arg)
    (hfile : ((P.main.file : Str) == file) = true) (htop : (P.main.scope.names.lookup ("super" : Str)).isSome = false) (G2 : FnR P w K mg base CX k f2 sp2) (len : ∀ vs H Q E, sp vs H Q E → vs.length = ps.length)
    (hbody : ∀ (cdv : Value) (cc : Addr) (A : Around) (outer : List Env) (s : Shared) (H : Hp) (vs : List V) (Q : VK) (E : XK), Room k (A.deeper (ksEnv qual scope s.heap.objs.size f cdv cc)) → sp vs H Q E →
      ∃ (t : TA) (tr : TS) (a dx : Addr) (fs : List (Str × V)) (E2 : XK), PA (cxS CX P w K mg base N qual scope f cdv cc A outer s H E) (e :: es) t ∧ PSs (cxS CX P w K mg base N qual scope f cdv cc A outer s H E) rest tr ∧ Passes CX (cxS CX P w K mg base N qual scope f cdv cc A outer s H E) E2 ∧
        vs[0]? = some (.ref a) ∧ H a = some (.ins D dx fs) ∧ t (L2.start N vs) H fun ws H1 => sp2 (.ref a :: ws) H1 (fun _ H2 => tr { nx := fun _ H' => Q .non H', rt := Q } (L2.start N vs) H2) E2)
    (hst : ∀ env, starEach (e :: es) env = (false, eval e env) :: starEach es env := by intro _; rfl) (hpl : ∀ env, (backTo pos (starEach es env)).any (·.1) = false := by intro _; rfl)
    (hev : ∀ env, ∃ pl : Sem Bool, eval (.Call (.Attribute (.Call (.Name "super" p0) [] [] p1) "__init__" apos) (e :: es) [] pos) env = (do
      let ov ← attributeBase (.Call (.Name "super" p0) [] [] p1) "__init__" env (eval (.Call (.Name "super" p0) [] [] p1) env)
      standAt apos.atName
      let (f, first) ← holding [ov] (getMethod ov "__init__" pl)
      callWith pos f first (backTo pos (starEach (e :: es) env)) []) := by intro _; exact ⟨_, rfl⟩) :
    FnOk P w K mg base CX (k + 1) f (fdOf K f) ps sp := by
  obtain ⟨oc, od, dV, kV, doc, pm, an, cda, ct, osl, cc, efd, lk, hcd, _, _, hfil, hcell⟩ := F.ex
  obtain ⟨cd, hD⟩ := F.cls
  refine ⟨len, fun A outer s H args us vs Q E hr e0 hb r hsp => ?_⟩
  have hl := len _ _ _ _ hsp
  have KX : K.In s.heap := e0.mod.kin.keeps fun b o e => (e0.bs b o e).1
  have lim : s.heap.NoLimit := e0.mod.nolimit.keeps fun b o e => (e0.bs b o e).1
  have hloc : ∀ y ∈ ps.zip us, (fdOf K f).scope.names.lookup y.1 = some .local := fun ⟨n, v⟩ hy => by
    rw [efd]; exact S.par n (List.of_mem_zip hy).1
  have ec : callEnv (fdOf K f) s.heap.objs.size f = ksEnv qual scope s.heap.objs.size f (.ref cda) cc := by rw [efd]; rfl
  refine ks_codeAny_call_defAt hr.depth (KX _ _ lk) rfl lim (by rw [efd]; exact codeRec_of KX hcd) (by rw [efd]) hb (by rw [efd]; exact S.nocell) hloc (fun h1 hns hk => ?_) (by rw [efd]; exact S.co) (by rw [efd]; exact S.gen) (by rw [efd]; exact S.kind)
  rw [ec]
  obtain ⟨t, tr, a, dx, fs, E2, hA, hR, hx, hv0, ha, hq⟩ := hbody (.ref cda) cc A outer s H vs Q E (hr.deeper _) hsp
  have I : Inv (cxS CX P w K mg base N qual scope f (.ref cda) cc A outer s H E) [] (L2.start N vs) H { s with heap := h1, toks := s.toks + (ps.zip us).length } := inv_startS S hr.hd e0 hl r hcell hns hk
  obtain ⟨ccl, cdd, vcs, ccs, tf, hcode, hvs⟩ := hfil
  obtain ⟨cl, cld, csl, hcel⟩ := hcell
  have KX1 : K.In h1 := KX.keeps hk
  obtain ⟨pl, he⟩ := hev (ksEnv qual scope s.heap.objs.size f (.ref cda) cc)
  refine ks_wpAt_execs_cons (ks_wpAt_Expr_any (ks_wpAt_MethodCall (pl := pl) ?_ he) (by unfold interactive; simp [S.kind]))
  have hx0 := I.hok _ _ ha
  obtain ⟨_, _, _, hxa, _⟩ := hx0
  obtain ⟨u0, hu0, ru0⟩ := r.get hv0
  obtain rfl : u0 = Value.ref a := ru0
  have ndP : ps.Nodup := by rw [← S.pre]; exact S.nd.sublist (List.take_sublist _ _)
  have hself : (ps.zip us).reverse.lookup ar.arg = some (.ref a) := zip_look ndP har hu0
  obtain ⟨mb, hb1, hb2⟩ := e0.mod.blt
  have bk : ∀ b o, base.get? b = some o → h1.get? b = some o := fun b o z => hk b o (e0.bs b o z).1
  obtain ⟨oD, hD1, hD2⟩ : ∃ oD, h1.get? D = some oD ∧ oD.data = .cls cd := by
    have hD' := hD
    unfold clsIn at hD'
    split at hD'
    · rename_i c1 d1 cd1 sl1 ho1
      cases hD'
      exact ⟨_, KX1 _ _ ho1, rfl⟩
    · cases hD'
  have naD : a ≠ D := fun z => by
    have hD' := hD
    unfold clsIn at hD'
    split at hD'
    · rename_i c1 d1 cd1 sl1 ho1
      have := (e0.bs _ _ (e0.mod.kin _ _ ho1)).2
      rw [z, this] at ha; cases ha
    · cases hD'
  refine ks_wpAt_super_base (env := ksEnv qual scope s.heap.objs.size f (.ref cda) cc) S.sup S.cls (by decide) rfl (KX1 _ _ lk) rfl (by rw [efd]; exact hp) rfl (KX1 _ _ hcode) rfl hvs hfile htop ?_
  refine ks_loadName_global S.kind S.sup (loadGlobal_builtin (env := ksEnv qual scope s.heap.objs.size f (.ref cda) cc) (e0.mod.glob.keeps bk) hms (hb1.keeps bk) ((hb2 "super" (by decide)).trans (by decide +kernel)) ⟨rfl, ?_⟩)
  refine wpAny_loadName_free S.kind S.cls rfl ⟨_, KX1 _ _ hcel, rfl⟩ ?_
  refine wpAny_loadName_local S.kind (S.par _ (List.mem_of_getElem? har)) hns hself ?_
  refine ks_wpAny_isType_cls hD1 hD2 ⟨rfl, ?_⟩
  refine ks_wpAny_call_super hD1 hD2 hxa rfl (fun c z => nomatch z) (looks_mroIn KX1 F.sub) (fun h2 e2 k2 => ?_)
  have I2 := ClX.pin_new (t' := s.toks + (ps.zip us).length) I k2 (Nat.le_refl _) e2 (fun v z => nomatch z)
  have KX2 : K.In h2 := KX1.keeps k2
  have hm := F.met
  unfold ks_superIn at hm
  rw [hD] at hm
  obtain ⟨of2, hof, hofc⟩ : ∃ of, h2.get? f2 = some of ∧ of.cls = .type "function" := by
    have ht' : (K.lookup f2).map (·.cls) = some (.type "function") := F.fty
    cases z : K.lookup f2 with
    | none => rw [z] at ht'; cases ht'
    | some of => rw [z] at ht'; exact ⟨of, KX2 _ _ z, Option.some.inj ht'⟩
  refine ks_wpAny_getMethod_super e2 (looks_opaque KX2 F.any) (l₀ := cd.mro) (fun A Q E s k q => wpAny_bind ((looks_clsIn KX2 hD) A _ E s k (wpAny_pure q))) rfl KX2 hm hof hofc naD (by decide) ?_
  have I3 := ClX.met_new (g := f2) (C := a) I2
  refine ClX.callwith_cm I3 (ClX.base_none I2 (Nat.le_refl _)) F.fi (thn (hA.run pos _ _ _ H _ I3 hq) fun us3 s3 ⟨vs3, H3, I4, rv3, q3⟩ => ⟨⟨ClX.pin_at I4, I4.kIn⟩, ?_⟩) (hst _) (hpl _)
  refine wpAny_mono (ClX.run_cm G2 (hr.deeper _) hx I4 rv3 q3) (fun u s4 h4 => ?_) (fun e s4 h4 => h4)
  obtain ⟨v4, H4, I5, _, q4⟩ := h4
  have I6 := ClX.unpin I5
  refine wpAt_of_wpAny (wpAny_mono (hR.run [] s4 _ H4 _ I6 q4) (fun fl s' hs => ?_) fun e s' hs => hs)
  have fin : ∀ {σ' : L2.St} {H' : Hp} {v : V} {u : Value}, Inv (cxS CX P w K mg base N qual scope f (.ref cda) cc A outer s H E) [] σ' H' s' → RelV v u → Q v H' → CE outer P w H s Q u s' := fun {σ' H' v u} J rv q => ⟨v, H', J.os, J.bare, J.base, J.hok, rv, q⟩
  cases fl with
  | ret u => obtain ⟨v, σ', H', J, rv, q⟩ := hs; exact fin J rv q
  | next => obtain ⟨σ', H', J, q⟩ := hs; exact fin (v := V.non) (u := Value.none) J rfl q
  | brk => obtain ⟨_, _, _, q⟩ := hs; exact False.elim q
  | cont => obtain ⟨_, _, _, q⟩ := hs; exact False.elim q
theorem SupF.bindsN {K : Frag} {x qual : Str} {params : Arguments} {body : List Stmt} {scope : Scope} {file : Str} {f D f2 : Addr} {ps : List Str} (F : SupF K x qual params body scope file f D f2)
    (h : ∀ (doc pm : Value) (an : Option Addr) (cdv ct : Value) (cc : Addr) (us : List Value), us.length = ps.length → bindArgs (ksFn x qual params body scope .none .none doc pm an cdv ct cc) ⟨us, []⟩ = pure (ps.zip us)) : Binds K (fdOf K f) ps [] := by
  obtain ⟨oc, od, dV, kV, doc, pm, an, cda, ct, osl, cc, efd, lk, hcd, rfl, rfl, _⟩ := F.ex
  rw [efd]
  exact .all (h doc pm an (.ref cda) ct cc)
end G
namespace G
open PySem PySem.Spec PyProof.Rows L2
/-- for x in xs, xs a list or a tuple -/
def iSq (K : PySem.W.Frag) (tl : TE) : TI := fun σ H R => tl σ H fun x H1 => ∃ a xs, x = .ref a ∧ ((SqL K H1 a xs ∧ R (Itl K a) H1) ∨ (SqT K H1 a xs ∧ R (Itt K a) H1))
theorem pi_sq {X : Cx} {tg l : Expr} {tl : TE} (hl : PE X l tl) : PI X tg l (iSq X.K tl) := by
  refine ⟨fun pins s σ H R I h => thn (hl.run pins s σ H _ I h) fun v s1 ⟨x, H1, I1, r1, a, xs, e, q⟩ => ?_⟩
  subst e; cases r1
  have nf : ∀ b ∈ [s1.heap.objs.size], FpOk X pins H1 b := by
    intro b hb; obtain rfl := List.mem_singleton.mp hb
    exact I1.fpOk (Nat.le_refl _) (I1.hok.fresh (Nat.le_refl _))
  rcases q with ⟨hq, q⟩ | ⟨hq, q⟩
  · obtain ⟨its, rv, p, hz⟩ := I1.list hq; refine wpAny_pyIter_list p.isList ⟨_, [_], _, _, H1, rfl, I1.kept (t' := s1.toks) fun b o e => Heap.get?_push_of_some _ e, turn_list a _, ⟨_, Heap.get?_push_size _ rfl, rfl, rfl⟩, nf, q⟩
  · obtain ⟨its, rv, p, hz⟩ := I1.tuple hq; refine wpAny_pyIter_tuple (show s1.heap.IsTuple a its.toArray from p) ⟨_, [_], _, _, H1, rfl, I1.kept (t' := s1.toks) fun b o e => Heap.get?_push_of_some _ e, turn_tuple a _, ⟨_, Heap.get?_push_size _ rfl, rfl, rfl⟩, nf, q⟩
theorem kpi_sq {X : Cx} {K : PySem.W.Frag} {tg l : Expr} {tl : TE} (hl : PE X l tl) (h1 : X.K = K := by rfl) : PI X tg l (iSq K tl) := by
  subst h1; exact pi_sq hl
end G
/-! ### own exceptions under OverflowError, with one field -/
namespace G
open PySem PySem.Spec PyProof.Rows L2
abbrev oeTail : List Value := [.type "OverflowError", .type "ArithmeticError", .type "Exception", .type "BaseException", .type "object"]
section
open Builtin Builtin.ObjectAttr PySem.HandSPX
variable {prog : Program} {w : World} {A : Around} {R : Result → Shared → Prop} {hp : Heap} {g : Array GenState} {d : Drawn} {t : Nat} {os : OsState}
theorem osa_O {K : W.Frag} {name : Str} {tk : Tok} {v : Value} {x C : Addr} {fv : Array Value} {cd : ClassData} (X : K.In hp) (hx : hp.get? x = some { cls := .ref C, data := .fields fv }) (hcd : W.clsIn K C = some cd) (hm : cd.mro = .ref C :: oeTail) (hh : cd.hasDict = true) (ha : W.findIn K (.ref C) name = some none)
    (hq : ∀ h' tk' dx, (∀ b o, b ≠ x → hp.get? b = some o → h'.get? b = some o) → hp.objs.size ≤ dx → dx ≠ x → h'.get? x = some { cls := .ref C, dict := some dx, data := .fields fv } → h'.Ns1 dx (fun y => if y = name then some v else none) → R (.ok (.ret .none)) ⟨h', g, d, tk', os⟩) :
    codeAny (model prog w) A (.call (.builtin "object.__setattr__") ⟨[.ref x, .str name tk, v], []⟩) R ⟨hp, g, d, t, os⟩ := by
  have I : W.InstAt hp x { cls := .ref C, data := .fields fv } C none := ⟨hx, rfl, rfl, trivial⟩
  have SF := F.store_object; have ne : cd.mro.isEmpty = false := by rw [hm]; rfl
  have hob : cd.mro.contains (.type "object") = true := by rw [hm, List.contains_cons, show oeTail.contains (.type "object") = true from by decide +kernel, Bool.or_true]
  have hps : refuseLoop (.ref x) "__setattr__" cd.mro = pure () := by
    rw [hm, refuseLoop_ref]; exact F.store_OverflowError.passes (.ref x)
  have hxs : x ≠ hp.objs.size := Nat.ne_of_lt (Heap.lt_size hx); have sub : W.Looks (model prog w) hp (isInstance (.ref x) (.type "object")) true := I.type.andThen (W.looks_mroIn X (by unfold W.mroIn; rw [hcd, Option.bind_some, if_neg (by rw [ne]; decide), hob]))
  refine codeAny_call_builtin SF.slot.plain SF.entry (@W.check_slot (model prog w) _ _ ⟨hp, g, d, t, os⟩ "object.__setattr__" "object" "__setattr__" (.ref x) [.str name tk, v] [] _ SF.kind SF.split sub (SF.args (.ref x) (.str name tk) v) ?_); have hmr : W.Looks (model prog w) hp (mroOf (.ref C)) cd.mro := (W.looks_clsIn X hcd).andThen .now
  have L3 : W.Looks (model prog w) hp (storeTaker? none) none := .now; have hcls : W.Looks (model prog w) hp (classData C) cd := W.looks_clsIn X hcd
  rw [W.osa_eq, refuse_eq]; refine wpAny_bind (wpAny_bind (I.type.at (wpAny_bind (hmr.at ?_))))
  rw [hps]; refine wpAny_pure (wpAny_bind (I.type.at (wpAny_bind ((W.looks_findIn X ha).at (wpAny_bind (L3.at ?_))))))
  show wpAny _ _ (storeInOwnDict (.ref x) (.ref C) (.str name tk) name v false) _ _ _; obtain ⟨nm, bs, mro, ns, qn, hd, sn, sb, ab, col, del⟩ := cd
  dsimp only at hh; subst hh; unfold storeInOwnDict ownDictForStores
  repeat (first | with_reducible refine store_in_new ?_ ?_ | with_reducible refine wpAny_loadPart_at hx ?_ | with_reducible refine hcls.at ?_ | wp_step)
  · exact ⟨_, #[], _, (Heap.get?_update_ne _ _ _ _ hxs.symm).trans (Heap.get?_push_at rfl rfl), rfl, fun e he => absurd he (by simp), fun _ => rfl⟩
  · intro h' tk' hn' hs; have hx₁ : (hp.push { cls := .type "dict", data := .dict #[] }).get? x = some { cls := .ref C, data := .fields fv } := Heap.get?_push_of_some _ hx
    refine hq h' tk' hp.objs.size (fun b o hb ho => (hs.2 b (Nat.ne_of_lt (Heap.lt_size ho))).trans ((Heap.get?_update_ne _ _ _ _ hb).trans (Heap.get?_push_of_some _ ho))) (Nat.le_refl _) hxs.symm ((hs.2 x hxs).trans (Heap.get?_update_self _ hx₁ rfl)) hn'
end
/-- what the written part says of the class -/
structure OexO (K : PySem.W.Frag) (C : Addr) : Prop where
  cls : ∃ nm q N bs sn sub ab col dd k0 k1 k2 k3 k5, K.lookup C = some (excClassObj nm q C N bs oeTail true sn sub ab col dd k0 k1 k2 k3 k5 "OverflowError.__new__")
  sa : PySem.W.findIn K (.ref C) "__setattr__" = some (some (.builtin "object.__setattr__"))
  exC : PySem.W.subIn K (.ref C) (.type "BaseException") = some true
  tyC : PySem.W.typeIn K (.ref C) = some (.type "type")
  kC : PySem.W.keepIn K (.ref C) = true
section
variable {X : Cx} {pins : List (Addr × Obj)} {σ : L2.St} {H : Hp} {s : Shared} {a C dx : Addr} {f : Str} {y : V} {u : Value} {Q : Unit → Shared → Prop} {E : Value → Shared → Prop} {A : Around}
theorem ostO_new (T : OexO X.K C) (I : Inv X pins σ H s) (e : H a = some (exo a C none)) (hno : PySem.W.findIn X.K (.ref C) f = some none) (ry : RelV y u)
    (h : ∀ dx s', H dx = none → dx ≠ a → Inv X pins σ (upd (upd H dx (exd dx [(f, y)])) a (exo a C (some dx))) s' → Q () s') : wpAny (model X.prog X.w) A (setAttr (.ref a) f u) Q E s := by
  obtain ⟨nm, q, N, bs, sn, sub, ab, col, dd, k0, k1, k2, k3, k5, hC⟩ := T.cls
  have hcl : PySem.W.clsIn X.K C = some { name := nm, bases := bs, mro := .ref C :: oeTail, ns := N, qualname := q, hasDict := true, slotNames := sn, subclasses := sub, abstract := ab, collection := col, hasDel := false } := by unfold PySem.W.clsIn; rw [hC] <;> rfl
  obtain ⟨t1, ho⟩ := exo_at I.hok e; obtain ⟨hp, g, d, t, os⟩ := s
  refine PySem.W.set_plain I.kIn (ox := { cls := .ref C, dict := none, data := .fields #[.ref t1, .none, .none, .none, .bool false, .none] }) (od := none) ⟨ho, rfl, rfl, trivial⟩ T.sa (osa_O I.kIn ho hcl rfl rfl hno (fun h' tk' dx k dn dne hx hn => ?_))
  have hnd : H dx = none := I.hok.fresh dn
  have nd : ∀ {b : Addr} {o : Obj}, hp.get? b = some o → b ≠ dx := by
    intro b o q; exact Nat.ne_of_lt (Nat.lt_of_lt_of_le (Heap.lt_size q) dn)
  have na : ∀ {b : Addr}, H b = none → b ≠ a := by
    intro b n z; rw [z, e] at n; cases n
  have Un1 : Un X.fs [] H (upd (upd H dx (exd dx [(f, y)])) a (exo a C (some dx))) hp h' := by
    refine ⟨fun b o q n _ _ => k b o (na n) q, fun b o q n _ _ => ⟨o.slots, k b o (na n) q⟩, fun b o q n _ => by rw [upd_ne (na n), upd_ne (nd q)]; exact n, fun b o q _ => ?_, fun b xs q => by rw [upd_ne (at_ne e q exo_tup), upd_ne (ne_of_none q hnd)]; exact q, fun b o v q => by rw [upd_ne (at_ne e q exo_frz), upd_ne (ne_of_none q hnd)]; exact q, fun b ps q => ⟨#[], by rw [upd_ne (at_ne e q exo_tbl), upd_ne (ne_of_none q hnd), q]; simp⟩⟩
    by_cases hb : b = a
    · exact ⟨_, by rw [hb]; exact hx⟩
    · exact ⟨o, k b o hb q⟩
  refine h dx _ hnd dne (I.un (t' := tk') Un1 fun b o q => ?_)
  by_cases hb : b = a
  · subst hb; rw [upd_same] at q; cases q; exact exo_ok hx
  · rw [upd_ne hb] at q; by_cases hd : b = dx
    · subst hd; rw [upd_same] at q; cases q; exact exd_ok hn (relO_put (fs := []) ry fun g => True.intro)
    · rw [upd_ne hd] at q
      refine (I.hok b o q).stay (fun c v hc z => k c v ?_ z) (fun c hc => by rw [upd_ne (at_ne e hc exo_own), upd_ne (ne_of_none hc hnd)]; exact hc) (fun c xs hc => by rw [upd_ne (at_ne e hc exo_tup), upd_ne (ne_of_none hc hnd)]; exact hc)
      rcases hc with hc | hc
      · rw [hc]; exact hb
      · exact at_ne e hc exo_own
def tOstO (K : PySem.W.Frag) (f : Str) (to te : TE) : TS := fun D σ H => te σ H fun y H1 => to σ H1 fun x H2 => ∃ a C : Addr, x = .ref a ∧ OexO K C ∧ PySem.W.findIn K (.ref C) f = some none ∧ H2 a = some (exo a C none) ∧ ∀ dx, H2 dx = none → dx ≠ a → D.nx σ (upd (upd H2 dx (exd dx [(f, y)])) a (exo a C (some dx)))
theorem ps_ostO {o e : Expr} {to te : TE} {p' pos : Pos} (ho : PE X o to) (he : PE X e te) (hs : swapsWith e (some (.Attribute o f p')) pos.line X.env = pure false := by rfl) : PS X (.Assign [.Attribute o f p'] e pos) (tOstO X.K f to te) := by
  refine ⟨fun pins s σ H D I h => plainObj_wpAny_Assign_Attribute (thn (he.run pins s σ H _ I h) fun v s1 ⟨y, H1, I1, r1, q1⟩ => thn (ho.run pins s1 σ H1 _ I1 q1) fun u s2 ⟨x, H2, I2, r2, a, C, ex, T, hno, ea, q⟩ => ?_) hs⟩
  subst ex; obtain rfl : u = Value.ref a := r2
  exact ostO_new T I2 ea hno r1 fun dx s' n ne J => ⟨σ, _, J, q dx n ne⟩
theorem pmk_oexO {CX : CXT} {x : Str} {C fI : Addr} {k : Nat} {fd : FuncData} {ps : List Str} {sp : Sp} {ds : List Value} {dvs : List V} {e : Expr} {es : List Expr} {ta : TA} {p pos : Pos} (T : OexO X.K C) (iC : PySem.W.findIn X.K (.ref C) "__init__" = some (some (.ref fI))) (tI : PySem.W.typeIn X.K (.ref fI) = some (.type "function"))
    (F1 : FnOk X.prog X.w X.K X.mg X.base CX k fI fd ps sp) (hr : Room (k + 1) X.A) (hb : Binds X.K fd ps ds) (hd : Vals dvs ds) (hx : Passes CX X (fun _ _ _ => False)) (hg : Gl X x) (hm : X.mg x = some (.ref C)) (ha : PA X (e :: es) ta) (hdb : (x == ("__debug__" : Str)) = false := by decide)
    (he : starEach (e :: es) X.env = (false, eval e X.env) :: starEach es X.env := by rfl) (hpl : (backTo pos (starEach es X.env)).any (·.1) = false := by rfl) : PMk X (.Call (.Name x p) (e :: es) [] pos) (tMkO C sp dvs ta) := by
  intro pins s σ H Q I h; obtain ⟨nm, q, N, bs, sn, sub, ab, col, dd, k0, k1, k2, k3, k5, hC⟩ := T.cls
  refine wpAny_Call_Name_kw (ld_glob I hg hm (PySem.W.callWith_K (h₀ := X.base) I.ok.mod.kin T.kC (thn (ha.run pos pins s σ H _ I h) fun us s1 ⟨vs, H1, I1, r1, hz, q1⟩ => ⟨I1.kIn, ?_⟩) he hpl) hdb)
  show wpAny _ _ (call (.ref C) us) _ _ _; obtain ⟨hp, g, dr, tk, os⟩ := s1
  have hsz : hp.objs.size ≤ hp.objs.size + 1 := Nat.le_succ _; have hn : H1 (hp.objs.size + 1) = none := I1.hok.fresh hsz; have hq := q1 (hp.objs.size + 1) hn
  have kk : ∀ b o, hp.get? b = some o → ((hp.push (PySem.W.kdv_tup us)).push (PySem.HandSPX.excO C hp.objs.size)).get? b = some o := by
    intro b o e; exact Heap.get?_push_of_some _ (Heap.get?_push_of_some _ e)
  have hget : ((hp.push (PySem.W.kdv_tup us)).push (PySem.HandSPX.excO C hp.objs.size)).get? (hp.objs.size + 1) = some (PySem.HandSPX.excO C hp.objs.size) := by heap_get
  have I2 : Inv X pins σ (upd H1 (hp.objs.size + 1) (exo (hp.objs.size + 1) C none)) ⟨(hp.push (PySem.W.kdv_tup us)).push (PySem.HandSPX.excO C hp.objs.size), g, dr, tk, os⟩ := I1.laid (t' := tk) (a := hp.objs.size + 1) (o := exo (hp.objs.size + 1) C none) (h' := (hp.push (PySem.W.kdv_tup us)).push (PySem.HandSPX.excO C hp.objs.size)) kk hsz (exo_ok hget)
  have r2 : Vals (V.ref (hp.objs.size + 1) :: (vs ++ dvs)) (Value.ref (hp.objs.size + 1) :: (us ++ ds)) := .cons rfl (r1.append hd)
  have hl : (Value.ref (hp.objs.size + 1) :: us ++ ds).length = ps.length := by
    have e := r2.length; rw [F1.len _ _ _ _ hq] at e; exact e.symm
  have hus : us.length ≤ sizeLine := by rw [← Paired.length r1, sizeLine_eq]; omega
  refine wpAny_call (PySem.HandSPX.call_own F.excBase_OverflowError (fun Y => rfl) (I1.kIn _ _ hC) (PySem.W.looks_findIn I1.kIn iC) (fun self => PySem.W.bind_fn I1.kIn self tI) hus (codeAny_mono (F1.run _ X.stack _ _ ⟨Value.ref (hp.objs.size + 1) :: us, []⟩ (Value.ref (hp.objs.size + 1) :: (us ++ ds)) _ _ (fun _ _ _ => False) (hr.make C us []) (I2.env0.make C us []) (hb _ (Value.ref (hp.objs.size + 1) :: us) I2.kIn hl) r2 hq) fun r s' hq' => ?_))
  cases r with
  | error er => exact hx pins σ _ _ er s' I2 hq'
  | ok fl =>
    cases fl with
    | ret u =>
      obtain ⟨v, H2, os2, bare2, un2, hok2, rv, ev, d, fs, ea, ed, hd1, q2⟩ := hq'; subst ev; obtain ⟨h2, g2, d2, t2, os'⟩ := s'
      exact ⟨rv, mk_end (raises_own T.exC T.tyC) I1 hsz kk un2 hok2 os2 bare2 ea ed hd1 q2⟩
    | _ => exact False.elim hq'
end
/-! what the kernel looks at -/
def oexOClsB (K : PySem.W.Frag) (C : Addr) : Bool := match K.lookup C with
  | some ⟨.type "type", _, .cls cd, sl⟩ => (match cd.mro, sl.toList with
    | .ref C' :: bm, [_, _, _, _, some (.builtin n), _] => C' == C && n == "OverflowError.__new__" && !cd.hasDel && cd.hasDict && bm == oeTail
    | _, _ => false)
  | _ => false
theorem oexOClsB_ok {K : PySem.W.Frag} {C : Addr} (q : oexOClsB K C = true) : ∃ nm q N bs sn sub ab col dd k0 k1 k2 k3 k5, K.lookup C = some (excClassObj nm q C N bs oeTail true sn sub ab col dd k0 k1 k2 k3 k5 "OverflowError.__new__") := by
  unfold oexOClsB at q
  split at q
  · rename_i dd cd sl ho
    split at q
    · rename_i C' bm k0 k1 k2 k3 n k5 hm hs
      simp only [Bool.and_eq_true, beq_iff_eq, Bool.not_eq_true'] at q
      obtain ⟨⟨⟨⟨rfl, rfl⟩, hdel⟩, hdc⟩, ht⟩ := q
      subst ht
      obtain ⟨nm, bs, mro, ns, qn, hd, sn, sub, ab, col, del⟩ := cd
      dsimp only at hm hdel hdc
      subst hm hdel hdc
      have hsl : sl = #[k0, k1, k2, k3, some (.builtin "OverflowError.__new__"), k5] := by
        obtain ⟨l⟩ := sl; simp only at hs; rw [hs]
      subst hsl
      exact ⟨nm, qn, ns, bs, sn, sub, ab, col, dd, k0, k1, k2, k3, k5, ho⟩
    · cases q
  · cases q
/-- such a class at C: its __init__ at fI; its fields fs are no attributes of the class -/
structure OexOF (K : PySem.W.Frag) (C fI : Addr) (fs : List Str) : Prop where
  o : OexO K C
  i : PySem.W.findIn K (.ref C) "__init__" = some (some (.ref fI))
  t : PySem.W.typeIn K (.ref fI) = some (.type "function")
  x : XfC K C
  n : ∀ f ∈ fs, PySem.W.findIn K (.ref C) f = some none
def oexOFB (K : PySem.W.Frag) (C fI : Addr) (fs : List Str) : Bool := oexOClsB K C && (He.eqO (PySem.W.findIn K (.ref C) "__setattr__") (some (some (.builtin "object.__setattr__"))) && (decide (PySem.W.subIn K (.ref C) (.type "BaseException") = some true) && (decide (PySem.W.typeIn K (.ref C) = some (.type "type")) && (PySem.W.keepIn K (.ref C) &&
  (He.eqO (PySem.W.findIn K (.ref C) "__init__") (some (some (.ref fI))) && (decide (PySem.W.typeIn K (.ref fI) = some (.type "function")) && (xfB K C && fs.all fun f => He.eqO (PySem.W.findIn K (.ref C) f) (some none))))))))
theorem oexOFB_ok {K : PySem.W.Frag} {C fI : Addr} {fs : List Str} (c : oexOFB K C fI fs = true) : OexOF K C fI fs := by
  obtain ⟨c1, c⟩ := He.ba c
  obtain ⟨c2, c⟩ := He.ba c
  obtain ⟨c3, c⟩ := He.ba c
  obtain ⟨c4, c⟩ := He.ba c
  obtain ⟨c5, c⟩ := He.ba c
  obtain ⟨c6, c⟩ := He.ba c
  obtain ⟨c7, c⟩ := He.ba c
  obtain ⟨c8, c9⟩ := He.ba c
  exact ⟨⟨oexOClsB_ok c1, He.eqO_ok c2, of_decide_eq_true c3, of_decide_eq_true c4, c5⟩, He.eqO_ok c6, of_decide_eq_true c7, xfB_ok c8, fun f hf => He.eqO_ok (List.all_eq_true.mp c9 f hf)⟩
theorem kOstO {X : Cx} {K : PySem.W.Frag} {st : Stmt} {to te : TE} {f : Str} (h : PS X st (tOstO X.K f to te)) (hK : X.K = K := by rfl) : PS X st (tOstO K f to te) := hK ▸ h
theorem r_ostO {K : PySem.W.Frag} {σ : L2.St} {H : Hp} {D : Ends} {to te : TE} {f : Str} (q : te σ H fun y H1 => to σ H1 fun x H2 => ∃ a C : Addr, x = .ref a ∧ OexO K C ∧ PySem.W.findIn K (.ref C) f = some none ∧ H2 a = some (exo a C none) ∧ ∀ dx, H2 dx = none → dx ≠ a → D.nx σ (upd (upd H2 dx (exd dx [(f, y)])) a (exo a C (some dx)))) : tOstO K f to te D σ H := q
end G
namespace G
open PySem PySem.Spec PyProof.Rows L2
/-! repr of objects -/
structure ReprOf (K : PySem.W.Frag) (C f : Addr) : Prop where
  here : PySem.W.findIn K (.ref C) "__repr__" = some (some (.ref f))
  fn : PySem.W.isFn K (.ref f) = true
def reprOB (K : PySem.W.Frag) (C f : Addr) : Bool := He.eqO (PySem.W.findIn K (.ref C) "__repr__") (some (some (.ref f))) && PySem.W.isFn K (.ref f)
theorem reprOB_ok {K : PySem.W.Frag} {C f : Addr} (c : reprOB K C f = true) : ReprOf K C f := by
  obtain ⟨c1, c2⟩ := He.ba c
  exact ⟨He.eqO_ok c1, c2⟩
end G
/-! ### exceptions as values -/
namespace G
open PySem PySem.Spec PyProof.Rows L2
/-- an exception object of the class cls with the dict d, not raised, at a -/
def exV (a : Addr) (cls : Value) (d : Option Addr) : HO := .ext fun h => ∃ (oe : Obj) (vs : Array Value), h.get? a = some oe ∧ Zc cls d oe ∧ oe.data = .fields vs
theorem exV_ok {P : Program} {w : World} {H : Hp} {h : Heap} {a : Addr} {cls : Value} {d : Option Addr} {oe : Obj} {vs : Array Value} (e : h.get? a = some oe) (z : Zc cls d oe) (hd : oe.data = .fields vs) : ObjOk P w H h a (exV a cls d) :=
  ⟨⟨oe, vs, e, z, hd⟩, ⟨oe, e⟩, fun _ _ ⟨o, v, q, r⟩ k => ⟨o, v, k o q, r⟩⟩
def tVal (t : L2.St → Hp → XK → Prop) : TE := fun σ H Q => t σ H fun cls d H' => ∀ a, H' a = none → Q (.ref a) (upd H' a (exV a cls d))
/-- what makes an exception gives it as a value -/
theorem pe_of_pmk {X : Cx} {e : Expr} {t : L2.St → Hp → XK → Prop} (h : PMk X e t) : PE X e (tVal t) := by
  refine ⟨fun pins s σ H Q I q => thn (h pins s σ H _ I q) fun u s1 hu => ?_⟩
  obtain ⟨a, oe, vs, sI, H', cls, d, rfl, J, k, hne, ha, hz, hd, h1, na, os, ag, r, q⟩ := hu
  have new := exV_ok (P := X.prog) (w := X.w) (H := upd H' a (exV a cls d)) ha hz hd
  have J2 := J.call (ch := []) (g' := s1.gens) (d' := s1.drawn) (t' := s1.toks) (Un.laidN (o := exV a cls d) k hne na) (J.hok.laidN k na new) ag (fun _ z => nomatch z)
  obtain ⟨hp, g, dr, tk, os1⟩ := s1
  obtain ⟨hpI, gI, drI, tkI, osI⟩ := sI
  have os' : os1 = osI := os
  subst os'
  exact ⟨.ref a, _, J2, rfl, q a na⟩
end G
namespace G
open PySem PySem.Spec PySem.Calls PyProof.Rows
section
variable {prog : Program} {w : World} {A : Around} {E : Value → Shared → Prop} {s : Shared} {K : PySem.W.Frag} {x D : Addr} {ox : Obj} {od : Option Obj}
open PySem.W in
/-- e.__class__, e an exception with a dict or none -/
theorem kin_classX {Q : Option Value → Shared → Prop} (C : L2.ExcC K D) (X : K.In s.heap) (I : PySem.W.InstAt s.heap x ox D od) (h : Q (some (.ref D)) { s with toks := s.toks + 1 }) : wpAny (model prog w) A (getAttr? (.ref x) "__class__") Q E s := by
  have hf : findObj K D od "__class__" = some (.bind (.builtin "getset_descriptor.__get__") (.builtin "object.__class__")) := by
    obtain ⟨cd, hc, _⟩ := any_some C.hd
    unfold findObj
    rw [hc, Option.bind_some, C.ha, Option.bind_some]
    simp [C.hn, C.ht]
  obtain ⟨hp, g, d, t, os⟩ := s
  have l0 := I.type (M := model prog w)
  have l1 := looks_findIn (M := model prog w) X C.hg
  have l2 := looks_findIn (M := model prog w) X C.hk
  have l3 := looks_find (M := model prog w) X I hf
  have sub : Looks (model prog w) hp (isInstance (.ref x) (.type "BaseException")) true := l0.andThen (looks_subIn X C.hs)
  have n2 : (Value.builtin "BaseException.__getattribute__" == Value.builtin "object.__getattribute__") = false := by decide +kernel
  have n1 : (onTheHeap (Value.ref D) && Value.builtin "BaseException.__getattribute__" == Value.builtin "object.__getattribute__") = false := by rw [n2]; rfl
  unfold getAttr? getAttrBy? getAttrBy
  refine wpAny_bind (wpAny_mkText (wpAny_bind (wpAny_attempt (wpAny_holding (wpAny_bind (l0.at (wpAny_bind (l1.at ?_))))))))
  show wpAny _ _ (if (onTheHeap (Value.ref D) && Value.builtin "BaseException.__getattribute__" == Value.builtin "object.__getattribute__") = true then _ else _) _ _ _
  rw [n1, if_neg Bool.false_ne_true]
  unfold getAttrByItsOwn hookBefore
  refine wpAny_bind ?_
  rw [if_pos (show onTheHeap (Value.ref D) = true from rfl)]
  refine l2.at (wpAny_bind (wpAny_attempt (wpAny_holding ?_)))
  unfold callGetattribute
  rw [show (false && onTheHeap (Value.builtin "BaseException.__getattribute__")) = false from rfl, if_neg Bool.false_ne_true]
  unfold boundAndCalled
  rw [PySem.F.excAttr_ValueError.ga.bind (.ref x)]
  refine wpAny_bind (wpAny_pure ?_)
  show wpAny _ _ (call (.builtin "BaseException.__getattribute__") [.ref x, .str "__class__" t]) _ _ _
  refine wpAny_call (codeAny_call_builtin PySem.F.excAttr_ValueError.ga.plain PySem.F.entry_bexc_ga ?_)
  refine @check_slot (model prog w) _ _ ⟨hp, g, d, t + 1, os⟩ "BaseException.__getattribute__" "BaseException" "__getattribute__" (.ref x) [.str "__class__" t] [] _ (by decide +kernel) (by decide +kernel) sub (PySem.F.args_bexc_ga (.ref x) (.str "__class__" t)) ?_
  unfold Builtin.«object.__getattribute__»
  refine wpAny_bind (wpAny_of_eq (a := ((Value.ref x : Value), [Value.str "__class__" t])) (by first | rfl | (simp only [slotArgs]; rfl)) ?_)
  refine wpAny_bind (wpAny_pure (wpAny_bind (l0.at (wpAny_bind (l3.at ?_)))))
  show wpAny _ _ (holding [Value.builtin "object.__class__"] (call (.builtin "getset_descriptor.__get__") [.builtin "object.__class__", .ref x, .ref D]) >>= ret) _ _ _
  refine wpAny_bind (wpAny_holding (wpAny_call (class_get (s := ⟨hp, g, d, t + 1, os⟩) (ox := ox) (od := od) X I C.hm ?_)))
  refine wpAny_pure ?_
  show wpAny _ _ (handedOut (.ref D)) _ _ _
  rw [handedOut_of (v := .ref D) rfl]
  first
    | exact wpAny_pure (wpAny_pure h)
    | exact wpAny_pure h
    | exact wpAny_pure (wpAny_bind (wpAny_pure (wpAny_pure h)))
end
end G
namespace G
open PySem PySem.Spec PySem.Calls PyProof.Rows
section
variable {K : PySem.W.Frag} {x D : Addr}
open PySem.W in
theorem cls_there (C : L2.ExcC K D) : ∃ (c : Value) (d : Option Addr) (cd : ClassData) (sl : Array (Option Value)), K.lookup D = some ⟨c, d, .cls cd, sl⟩ := by
  obtain ⟨cd, hc, _⟩ := any_some C.hd
  unfold clsIn at hc
  split at hc
  · exact ⟨_, _, _, _, ‹_›⟩
  · cases hc
open PySem.W in
theorem kitx_excX (C : L2.ExcC K D) : KitX K (.ref x) (.ref D) (fun h => ∃ ox od, InstAt h x ox D od) where
  ty := fun _ _ _ ⟨_, _, I⟩ => I.type
  it := fun _ _ X _ => by
    obtain ⟨_, _, _, _, ho⟩ := cls_there C
    intro A' Q' E' s' k q
    unfold isType loadHead
    exact wpAny_bind (wpAny_loadPart (k _ _ (X _ _ ho)) (wpAny_pure q))
  ne := fun h tp dd its n sl X htp => by
    obtain ⟨_, _, _, _, ho⟩ := cls_there C
    refine Bool.eq_false_iff.mpr fun q => ?_
    have e : D = tp := Value.ref.inj (beq_iff_eq.mp q)
    rw [← e, X _ _ ho] at htp
    cases htp
  ca := fun X ⟨_, _, I⟩ k => kin_classX C X I k
end
end G
namespace G
open PySem PySem.Spec PyProof.Rows L2
/-- v is an exception of the class D with the fields fs (or without a dict) -/
def IsX (H : Hp) (a : Addr) (D : Addr) (fs : Option (List (Str × V))) : Prop := ∃ d : Option Addr, H a = some (exV a (.ref D) d) ∧ ((d = none ∧ fs = none) ∨ ∃ dx l, d = some dx ∧ fs = some l ∧ H dx = some (.xd l))
theorem IsX.same {H H' : Hp} {a D : Addr} {fs : Option (List (Str × V))} (h : IsX H a D fs) (s : Same H H') : IsX H' a D fs := by
  obtain ⟨d, h1, h2⟩ := h
  refine ⟨d, s _ _ h1, h2.imp id ?_⟩
  rintro ⟨dx, l, e1, e2, e3⟩
  exact ⟨dx, l, e1, e2, s _ _ e3⟩
def rIsX (K : PySem.W.Frag) : List V → Hp → VK → Prop := fun xs H Q => ∃ (a D : Addr) (fs : Option (List (Str × V))) (c : V) (cv : Value) (b : Bool), xs = [.ref a, c] ∧ IsX H a D fs ∧ ExcC K D ∧ ClsV c cv ∧ PySem.W.kitOne K (.ref D) cv = some b ∧ Q (.bl b) H
theorem IsX.inst {X : Cx} {pins : List (Addr × Obj)} {σ : L2.St} {H : Hp} {s : Shared} {a D : Addr} {fs : Option (List (Str × V))} (h : IsX H a D fs) (I : Inv X pins σ H s) : ∃ ox od, PySem.W.InstAt s.heap a ox D od := by
  obtain ⟨d, h1, h2⟩ := h
  obtain ⟨⟨oe, vs, e, z, hd⟩, _, _⟩ := I.hok a _ h1
  obtain ⟨oc, odd, oda, osl⟩ := oe
  obtain ⟨z1, z2⟩ := z
  dsimp only at z1 z2 hd
  subst z1 z2 hd
  rcases h2 with ⟨rfl, _⟩ | ⟨dx, l, rfl, _, e3⟩
  · exact ⟨_, none, e, rfl, rfl, trivial⟩
  · obtain ⟨mA, ⟨od, es, ep, e4, c⟩, r⟩ := I.hok dx _ e3
    exact ⟨_, some _, e, rfl, rfl, e4⟩
theorem call_isX {X : Cx} : CallR X (.builtin "isinstance") (rIsX X.K) := by
  intro pins s σ H xs us Q I r h
  obtain ⟨a, D, fs, c, cv, b, rfl, hx, C, hc, e, q⟩ := h
  obtain ⟨u1, u2, rfl, r1, r2⟩ := vals2 r
  have e2 := hc.eq r2
  subst e2
  cases (show u1 = Value.ref a from r1)
  exact PySem.W.kia_one (kitx_excX C) I.kIn (hx.inst I) e (fun z => nomatch z) fun tk => ⟨.bl b, H, I.tok tk, rfl, q⟩
end G
namespace G
open PySem PySem.Spec PyProof.Rows L2
/-- e.n, e an exception that is a value -/
def tXv (K : PySem.W.Frag) (n : Str) (te : TE) : TE := fun σ H Q => te σ H fun x H1 => ∃ (a C : Addr) (fs : List (Str × V)) (v : V), x = .ref a ∧ IsX H1 a C (some fs) ∧ XfC K C ∧ PySem.W.findIn K (.ref C) n = some none ∧ fs.lookup n = some v ∧ Q v H1
theorem pe_xv {X : Cx} {e : Expr} {te : TE} {pos : Pos} {n : Str} (he : PE X e te) (hb : attributeBase e n X.env (eval e X.env) = eval e X.env := by rfl) : PE X (.Attribute e n pos) (tXv X.K n te) := by
  refine ⟨fun pins s σ H Q I h => attr_of hb (thn (he.run pins s σ H _ I h) fun u s1 hh => ?_)⟩
  obtain ⟨x, H1, I1, rx, a, C, fs, v, ex, ⟨d, h1, h2⟩, T, hno, l, q⟩ := hh
  subst ex
  obtain rfl : u = Value.ref a := rx
  rcases h2 with ⟨_, z⟩ | ⟨dx, l', rfl, z, e3⟩
  · cases z
  cases z
  obtain ⟨⟨oe, vs, e, hz, hd⟩, _, _⟩ := I1.hok a _ h1
  obtain ⟨mA, hns, hr⟩ := (show ObjOk X.prog X.w H1 s1.heap dx (.xd fs) from I1.hok dx _ e3)
  obtain ⟨od, ho, hl⟩ := lookIn_ns hns
  obtain ⟨u, hu, ru⟩ := RelO.some_of (v := v) (o := mA n) (by rw [← l]; exact hr n)
  have J : PySem.W.InstAt s1.heap a oe C (some od) := ⟨e, hz.1, by unfold PySem.W.notCls; rw [hd] <;> rfl, by rw [hz.2]; exact ho⟩
  exact HandSPX.exc_get I1.kIn J T.ga T.gg T.exC (PySem.W.findObj_own T.hdC hno rfl (by rw [hl, hu])) (handed_of ru) ⟨v, H1, I1.tok _, ru, q⟩
end G
/-! ### own exceptions made with keywords -/
namespace G
open PySem PySem.HandSPX Builtin Builtin.ObjectAttr
section
variable {M : Model} {prog : Program} {w : World} {A : Around} {E : Value → Shared → Prop} {R : Result → Shared → Prop} {h : Heap} {g : Array GenState} {d : Drawn} {t : Nat} {os : OsState}
variable {nm q : Str} {C N : Addr} {bs bm bmB : List Value} {hdct : Bool} {sn : List Str} {sub : List Value} {ab : Bool} {col : Option Bool} {dd : Option Addr} {k0 k1 k2 k3 k5 : Option Value} {B newId initId : String}
theorem check_newK (F : ExcBaseFacts B newId initId bmB) (hB : (Value.ref C :: bm).contains (.type B) = true) {rest : List Value} {kw : List (Str × Value)} {Q : Unit → Shared → Prop}
    (hC : h.get? C = some (excClassObj nm q C N bs bm hdct sn sub ab col dd k0 k1 k2 k3 k5 newId)) (hq : Q () ⟨h, g, d, t, os⟩) : wpAny M A (checkBuiltinCall newId ⟨.ref C :: rest, kw⟩) Q E ⟨h, g, d, t, os⟩ := by
  have hstar := F.noStar
  simp only [checkBuiltinCall, F.newKind, F.newSplit, F.newRow]
  repeat (first | refine wpAny_loadPart_at hC ?_ | (refine wpAny_isSubtype_exc hC ?_; rw [hB]) | refine wpAny_staticBase_exc hC ?_ | refine wpAny_madeBy_exc hC ?_ | simp only [bne_self_eq_false, Bool.false_eq_true, if_false] | wp_step)
  exact hq
theorem newK (F : ExcBaseFacts B newId initId bmB) (hB : (Value.ref C :: bm).contains (.type B) = true) (hcA : (Value.ref C :: bm).contains (.type "AttributeError") = false) (hcN : (Value.ref C :: bm).contains (.type "NameError") = false) {rest : List Value} {kw : List (Str × Value)}
    (hC : h.get? C = some (excClassObj nm q C N bs bm hdct sn sub ab col dd k0 k1 k2 k3 k5 newId))
    (hq : R (.ok (.ret (.ref (h.objs.size + 1)))) ⟨(h.push { cls := .type "tuple", data := .seq rest.toArray }).push
      { cls := .ref C, data := .fields #[.ref h.objs.size, .none, .none, .none, .bool false, .none] }, g, d, t, os⟩) (hrest : rest.length ≤ sizeLine) :
    codeAny (model prog w) A (.builtin newId ⟨.ref C :: rest, kw⟩) R ⟨h, g, d, t, os⟩ := by
  have hends := F.ends
  refine codeAny_builtinAt F.entry ?_
  unfold Builtin.«BaseException.__new__»
  refine wpAt_bind ?_
  show wpAt _ _ _ (stack >>= _) _ _ _
  refine wpAt_bind (wpAt_stack fun p below => wpAt_of_wpAny ?_)
  wp_walk
  refine wpAt_of_wpAny ?_
  rw [F.owner]
  repeat (first | with_reducible refine wpAny_madeHere_exc F.canon hC ?_ | with_reducible refine wpAny_loadPart_at hC ?_ | (with_reducible refine wpAny_isSubtype_exc hC ?_; first | rw [hB] | rw [hcA] | rw [hcN]) | wp_step)
  show R _ _
  rw [Heap.size_push]
  exact hq
theorem type_callK (F : ExcBaseFacts B newId initId bmB) (hB : (Value.ref C :: bm).contains (.type B) = true) (hcA : (Value.ref C :: bm).contains (.type "AttributeError") = false) (hcN : (Value.ref C :: bm).contains (.type "NameError") = false) {rest : List Value} {kw : List (Str × Value)} {fI : Addr} {Q : Fin → Shared → Prop}
    (hC : h.get? C = some (excClassObj nm q C N bs bm hdct sn sub ab col dd k0 k1 k2 k3 k5 newId))
    (hi : W.Looks (model prog w) h (typeLookup (.ref C) "__init__") (some (.ref fI))) (hb : ∀ self, W.Looks (model prog w) h (bindSpecial (.ref fI) self) (.ref fI, [self])) (hrest : rest.length ≤ sizeLine)
    (hq : codeAny (model prog w) A (.call (.ref fI) ⟨.ref (h.objs.size + 1) :: rest, kw⟩)
      (fun r s' => match r with | .ok (.ret v) => v = .none ∧ Q (.done (.ret (.ref (h.objs.size + 1)))) s' | .ok _ => False | .error e => E e s')
      ⟨(h.push (W.kdv_tup rest)).push (excO C h.objs.size), g, d, t, os⟩) :
    wpAny (model prog w) A (Builtin.«type.__call__» ⟨.ref C :: rest, kw⟩) Q E ⟨h, g, d, t, os⟩ := by
  repeat (first | with_reducible refine wpAny_loadPart_at hC ?_ | with_reducible refine wpAny_madeBy_exc hC ?_ | wp_step)
  refine codeAny_call_builtin_code (Code.quiet_builtin _ F.quiet) (check_newK F hB hC ?_)
  refine newK F hB hcA hcN hC ?_ hrest
  show wpAny _ _ _ _ _ _
  have k : ∀ b o, h.get? b = some o → ((h.push (W.kdv_tup rest)).push (excO C h.objs.size)).get? b = some o := fun b o e => Heap.get?_push_of_some _ (Heap.get?_push_of_some _ e)
  have hC₁ := k _ _ hC
  have hget : ((h.push (W.kdv_tup rest)).push (excO C h.objs.size)).get? (h.objs.size + 1) = some (excO C h.objs.size) := by heap_get
  have hcC : (Value.ref C :: bm).contains (.ref C) = true := by simp
  have i1 := hi.keeps k
  have b1 := (hb (.ref (h.objs.size + 1))).keeps k
  unfold isInstance
  repeat (first | with_reducible refine wpAny_loadPart_at hget ?_ | (with_reducible refine wpAny_isSubtype_exc hC₁ ?_; rw [hcC]) | wp_step)
  show wpAny _ _ (typeLookup (.ref C) _) _ _ _
  refine i1.at ?_
  refine wpAny_holding (wpAny_bind (b1.at ?_))
  refine wpAny_bind (wpAny_call (codeAny_mono hq fun r s' z => ?_))
  rcases r with e | (v | _ | _ | _) <;> first | exact z | exact z.elim | skip
  obtain ⟨rfl, z⟩ := z
  first
    | exact wpAny_pure (wpAny_pure z)
    | (wp_walk; exact z)
theorem callK (F : ExcBaseFacts B newId initId bmB) (hB : (Value.ref C :: bm).contains (.type B) = true) (hcA : (Value.ref C :: bm).contains (.type "AttributeError") = false) (hcN : (Value.ref C :: bm).contains (.type "NameError") = false) {rest : List Value} {kw : List (Str × Value)} {fI : Addr}
    (hC : h.get? C = some (excClassObj nm q C N bs bm hdct sn sub ab col dd k0 k1 k2 k3 k5 newId))
    (hi : W.Looks (model prog w) h (typeLookup (.ref C) "__init__") (some (.ref fI))) (hb : ∀ self, W.Looks (model prog w) h (bindSpecial (.ref fI) self) (.ref fI, [self])) (hrest : rest.length ≤ sizeLine)
    (hq : codeAny (model prog w) (A.under (.builtin "type.__call__" ⟨.ref C :: rest, kw⟩)) (.call (.ref fI) ⟨.ref (h.objs.size + 1) :: rest, kw⟩) (W.InitBack (h.objs.size + 1) R)
      ⟨(h.push (W.kdv_tup rest)).push (excO C h.objs.size), g, d, t, os⟩) :
    codeAny (model prog w) A (.call (.ref C) ⟨rest, kw⟩) R ⟨h, g, d, t, os⟩ := by
  have f1 := tc_lookup
  have f2 := tc_bind (.ref C)
  have hTy : (⟨h, g, d, t, os⟩ : Shared).TypeIs (.ref C) "type" := ⟨_, hC, rfl⟩
  refine codeAny_of_tree ?_
  show wpAny _ _ (callAny (.ref C) _) _ _ _
  repeat (any_goals (first | assumption | with_reducible refine wpAny_loadPart_at hC ?_ | wp_step))
  refine ⟨rfl, ?_⟩
  refine codeAny_call_builtin_at (Code.quiet_builtin _ (by decide +kernel)) entry_typeCall (wpAny_check_type_call_sub hC (type_callK F hB hcA hcN hC hi hb hrest ?_))
  refine codeAny_mono hq fun r s' z => ?_
  rcases r with e | (v | _ | _ | _) <;> exact z
end
end G
namespace G
open PySem PySem.Spec PyProof.Rows L2
section
open Builtin Builtin.ObjectAttr PySem.HandSPX
abbrev leTail : List Value := [.type "LookupError", .type "Exception", .type "BaseException", .type "object"]
abbrev keTail : List Value := [.type "KeyError", .type "LookupError", .type "Exception", .type "BaseException", .type "object"]
theorem keTail_pass (self : Value) : refuseLoop self "__setattr__" keTail = pure () := by kernel_rfl
/-- the built-in bases that the package's errors have -/
def okTail (bm : List Value) : Bool := refsVE bm || bm == leTail || bm == keTail || bm == oeTail
theorem okTail_pass {bm : List Value} (h : okTail bm = true) (self : Value) : refuseLoop self "__setattr__" bm = pure () := by
  unfold okTail at h
  simp only [Bool.or_eq_true, beq_iff_eq] at h
  rcases h with ((h | rfl) | rfl) | rfl
  · exact refsVE_pass self bm h
  · exact F.store_LookupError.passes self
  · exact keTail_pass self
  · exact F.store_OverflowError.passes self
theorem okTail_obj {bm : List Value} (h : okTail bm = true) : bm.contains (.type "object") = true := by
  unfold okTail at h
  simp only [Bool.or_eq_true, beq_iff_eq] at h
  rcases h with ((h | rfl) | rfl) | rfl
  · exact (refsVE_contains "object" _ h).trans (by decide +kernel)
  · decide +kernel
  · decide +kernel
  · decide +kernel
variable {prog : Program} {w : World} {A : Around} {R : Result → Shared → Prop} {hp : Heap} {g : Array GenState} {d : Drawn} {t : Nat} {os : OsState}
theorem osa_G {K : W.Frag} {name : Str} {tk : Tok} {v : Value} {x C : Addr} {fv : Array Value} {cd : ClassData} {bm : List Value} (X : K.In hp) (hx : hp.get? x = some { cls := .ref C, data := .fields fv }) (hcd : W.clsIn K C = some cd) (hm : cd.mro = .ref C :: bm) (ht : okTail bm = true) (hh : cd.hasDict = true) (ha : W.findIn K (.ref C) name = some none)
    (hq : ∀ h' tk' dx, (∀ b o, b ≠ x → hp.get? b = some o → h'.get? b = some o) → hp.objs.size ≤ dx → dx ≠ x → h'.get? x = some { cls := .ref C, dict := some dx, data := .fields fv } → h'.Ns1 dx (fun y => if y = name then some v else none) → R (.ok (.ret .none)) ⟨h', g, d, tk', os⟩) :
    codeAny (model prog w) A (.call (.builtin "object.__setattr__") ⟨[.ref x, .str name tk, v], []⟩) R ⟨hp, g, d, t, os⟩ := by
  have I : W.InstAt hp x { cls := .ref C, data := .fields fv } C none := ⟨hx, rfl, rfl, trivial⟩
  have SF := F.store_object; have ne : cd.mro.isEmpty = false := by rw [hm]; rfl
  have hob : cd.mro.contains (.type "object") = true := by rw [hm, List.contains_cons, okTail_obj ht, Bool.or_true]
  have hps : refuseLoop (.ref x) "__setattr__" cd.mro = pure () := by
    rw [hm, refuseLoop_ref]; exact okTail_pass ht (.ref x)
  have hxs : x ≠ hp.objs.size := Nat.ne_of_lt (Heap.lt_size hx); have sub : W.Looks (model prog w) hp (isInstance (.ref x) (.type "object")) true := I.type.andThen (W.looks_mroIn X (by unfold W.mroIn; rw [hcd, Option.bind_some, if_neg (by rw [ne]; decide), hob]))
  refine codeAny_call_builtin SF.slot.plain SF.entry (@W.check_slot (model prog w) _ _ ⟨hp, g, d, t, os⟩ "object.__setattr__" "object" "__setattr__" (.ref x) [.str name tk, v] [] _ SF.kind SF.split sub (SF.args (.ref x) (.str name tk) v) ?_); have hmr : W.Looks (model prog w) hp (mroOf (.ref C)) cd.mro := (W.looks_clsIn X hcd).andThen .now
  have L3 : W.Looks (model prog w) hp (storeTaker? none) none := .now; have hcls : W.Looks (model prog w) hp (classData C) cd := W.looks_clsIn X hcd
  rw [W.osa_eq, refuse_eq]; refine wpAny_bind (wpAny_bind (I.type.at (wpAny_bind (hmr.at ?_))))
  rw [hps]; refine wpAny_pure (wpAny_bind (I.type.at (wpAny_bind ((W.looks_findIn X ha).at (wpAny_bind (L3.at ?_))))))
  show wpAny _ _ (storeInOwnDict (.ref x) (.ref C) (.str name tk) name v false) _ _ _; obtain ⟨nm, bs, mro, ns, qn, hd, sn, sb, ab, col, del⟩ := cd
  dsimp only at hh; subst hh; unfold storeInOwnDict ownDictForStores
  repeat (first | with_reducible refine store_in_new ?_ ?_ | with_reducible refine wpAny_loadPart_at hx ?_ | with_reducible refine hcls.at ?_ | wp_step)
  · exact ⟨_, #[], _, (Heap.get?_update_ne _ _ _ _ hxs.symm).trans (Heap.get?_push_at rfl rfl), rfl, fun e he => absurd he (by simp), fun _ => rfl⟩
  · intro h' tk' hn' hs; have hx₁ : (hp.push { cls := .type "dict", data := .dict #[] }).get? x = some { cls := .ref C, data := .fields fv } := Heap.get?_push_of_some _ hx
    refine hq h' tk' hp.objs.size (fun b o hb ho => (hs.2 b (Nat.ne_of_lt (Heap.lt_size ho))).trans ((Heap.get?_update_ne _ _ _ _ hb).trans (Heap.get?_push_of_some _ ho))) (Nat.le_refl _) hxs.symm ((hs.2 x hxs).trans (Heap.get?_update_self _ hx₁ rfl)) hn'
end
end G
namespace G
open PySem PySem.Spec PyProof.Rows L2
/-- an own error class under any of the bases -/
structure OexG (K : PySem.W.Frag) (C : Addr) : Prop where
  cls : ∃ nm q N bs bm sn sub ab col dd k0 k1 k2 k3 k5 B newId initId bmB, ExcBaseFacts B newId initId bmB ∧ okTail bm = true ∧ (Value.ref C :: bm).contains (.type B) = true ∧ (Value.ref C :: bm).contains (.type "AttributeError") = false ∧ (Value.ref C :: bm).contains (.type "NameError") = false ∧
    K.lookup C = some (excClassObj nm q C N bs bm true sn sub ab col dd k0 k1 k2 k3 k5 newId)
  sa : PySem.W.findIn K (.ref C) "__setattr__" = some (some (.builtin "object.__setattr__"))
  exC : PySem.W.subIn K (.ref C) (.type "BaseException") = some true
  tyC : PySem.W.typeIn K (.ref C) = some (.type "type")
  kC : PySem.W.keepIn K (.ref C) = true
section
variable {X : Cx} {pins : List (Addr × Obj)} {σ : L2.St} {H : Hp} {s : Shared} {a C dx : Addr} {f : Str} {y : V} {u : Value} {Q : Unit → Shared → Prop} {E : Value → Shared → Prop} {A : Around}
theorem ostG_new (T : OexG X.K C) (I : Inv X pins σ H s) (e : H a = some (exo a C none)) (hno : PySem.W.findIn X.K (.ref C) f = some none) (ry : RelV y u)
    (h : ∀ dx s', H dx = none → dx ≠ a → Inv X pins σ (upd (upd H dx (exd dx [(f, y)])) a (exo a C (some dx))) s' → Q () s') : wpAny (model X.prog X.w) A (setAttr (.ref a) f u) Q E s := by
  obtain ⟨nm, q, N, bs, bm, sn, sub, ab, col, dd, k0, k1, k2, k3, k5, B, newId, initId, bmB, _, ht, _, _, _, hC⟩ := T.cls
  have hcl : PySem.W.clsIn X.K C = some { name := nm, bases := bs, mro := .ref C :: bm, ns := N, qualname := q, hasDict := true, slotNames := sn, subclasses := sub, abstract := ab, collection := col, hasDel := false } := by unfold PySem.W.clsIn; rw [hC] <;> rfl
  obtain ⟨t1, ho⟩ := exo_at I.hok e; obtain ⟨hp, g, d, t, os⟩ := s
  refine PySem.W.set_plain I.kIn (ox := { cls := .ref C, dict := none, data := .fields #[.ref t1, .none, .none, .none, .bool false, .none] }) (od := none) ⟨ho, rfl, rfl, trivial⟩ T.sa (osa_G I.kIn ho hcl rfl ht rfl hno (fun h' tk' dx k dn dne hx hn => ?_))
  have hnd : H dx = none := I.hok.fresh dn
  have nd : ∀ {b : Addr} {o : Obj}, hp.get? b = some o → b ≠ dx := by
    intro b o q; exact Nat.ne_of_lt (Nat.lt_of_lt_of_le (Heap.lt_size q) dn)
  have na : ∀ {b : Addr}, H b = none → b ≠ a := by
    intro b n z; rw [z, e] at n; cases n
  have Un1 : Un X.fs [] H (upd (upd H dx (exd dx [(f, y)])) a (exo a C (some dx))) hp h' := by
    refine ⟨fun b o q n _ _ => k b o (na n) q, fun b o q n _ _ => ⟨o.slots, k b o (na n) q⟩, fun b o q n _ => by rw [upd_ne (na n), upd_ne (nd q)]; exact n, fun b o q _ => ?_, fun b xs q => by rw [upd_ne (at_ne e q exo_tup), upd_ne (ne_of_none q hnd)]; exact q, fun b o v q => by rw [upd_ne (at_ne e q exo_frz), upd_ne (ne_of_none q hnd)]; exact q, fun b ps q => ⟨#[], by rw [upd_ne (at_ne e q exo_tbl), upd_ne (ne_of_none q hnd), q]; simp⟩⟩
    by_cases hb : b = a
    · exact ⟨_, by rw [hb]; exact hx⟩
    · exact ⟨o, k b o hb q⟩
  refine h dx _ hnd dne (I.un (t' := tk') Un1 fun b o q => ?_)
  by_cases hb : b = a
  · subst hb; rw [upd_same] at q; cases q; exact exo_ok hx
  · rw [upd_ne hb] at q; by_cases hd : b = dx
    · subst hd; rw [upd_same] at q; cases q; exact exd_ok hn (relO_put (fs := []) ry fun g => True.intro)
    · rw [upd_ne hd] at q
      refine (I.hok b o q).stay (fun c v hc z => k c v ?_ z) (fun c hc => by rw [upd_ne (at_ne e hc exo_own), upd_ne (ne_of_none hc hnd)]; exact hc) (fun c xs hc => by rw [upd_ne (at_ne e hc exo_tup), upd_ne (ne_of_none hc hnd)]; exact hc)
      rcases hc with hc | hc
      · rw [hc]; exact hb
      · exact at_ne e hc exo_own
def tOstG (K : PySem.W.Frag) (f : Str) (to te : TE) : TS := fun D σ H => te σ H fun y H1 => to σ H1 fun x H2 => ∃ a C : Addr, x = .ref a ∧ OexG K C ∧ PySem.W.findIn K (.ref C) f = some none ∧ H2 a = some (exo a C none) ∧ ∀ dx, H2 dx = none → dx ≠ a → D.nx σ (upd (upd H2 dx (exd dx [(f, y)])) a (exo a C (some dx)))
theorem ps_ostG {o e : Expr} {to te : TE} {p' pos : Pos} (ho : PE X o to) (he : PE X e te) (hs : swapsWith e (some (.Attribute o f p')) pos.line X.env = pure false := by rfl) : PS X (.Assign [.Attribute o f p'] e pos) (tOstG X.K f to te) := by
  refine ⟨fun pins s σ H D I h => plainObj_wpAny_Assign_Attribute (thn (he.run pins s σ H _ I h) fun v s1 ⟨y, H1, I1, r1, q1⟩ => thn (ho.run pins s1 σ H1 _ I1 q1) fun u s2 ⟨x, H2, I2, r2, a, C, ex, T, hno, ea, q⟩ => ?_) hs⟩
  subst ex; obtain rfl : u = Value.ref a := r2
  exact ostG_new T I2 ea hno r1 fun dx s' n ne J => ⟨σ, _, J, q dx n ne⟩
end
end G
/-! ### own exceptions under any of the bases: made by position or by name -/
namespace G
open PySem PySem.Spec PyProof.Rows L2
section
variable {K : PySem.W.Frag} {x qual : Str} {params : Arguments} {body : List Stmt} {scope : Scope} {f : Addr} {fd : FuncData} {ps : List Str}
/-- a def without defaults, called with n positional values and the names ks -/
theorem kbindsN (F : FunD K x qual params body scope [] [] f fd) (n : Nat) (ks : List Str) (g : {α : Type} → List α → List α → List α)
    (hrel : ∀ {vs zs : List V} {us ws : List Value}, Vals vs us → Vals zs ws → Vals (g vs zs) (g us ws))
    (h : ∀ (kV doc pm : Value) (an : Option Addr) (cdv ct : Value) (us ws : List Value), us.length = n → ws.length = ks.length → bindArgs (PySem.W.fnOf x qual params body scope .none kV doc pm an cdv ct) ⟨us, ks.zip ws⟩ = pure (ps.zip (g us ws))) :
    KBn K fd ps n ks (fun us ws => g us ws) (fun vs zs => g vs zs) := by
  obtain ⟨oc, od, dV, kV, doc, pm, an, cdv, ct, osl, rfl, lk, hcd, hD, hK⟩ := F.ex
  rcases hD with ⟨_, rfl⟩ | ⟨e, _⟩
  · exact ⟨fun s us ws X l1 l2 => BindsTo.of_eq (h kV doc pm an cdv ct us ws l1 l2), fun r1 r2 => hrel r1 r2⟩
  · exact absurd rfl e
end
section
variable {X : Cx} {CX : CXT} {x : Str} {C fI : Addr} {k : Nat} {fd : FuncData} {ps ks : List Str} {sp : Sp} {e : Expr} {es : List Expr} {kws : List Keyword} {ta tk : TA} {p pos : Pos} {g : List Value → List Value → List Value} {gV : List V → List V → List V}
/-- an instance of C is made of the values us and the named ones; its own __init__ gets bv -/
theorem mkG {pins : List (Addr × Obj)} {σ : L2.St} {H1 : Hp} {s1 : Shared} {us : List Value} {kw : List (Str × Value)} {Q : XK} (T : OexG X.K C) (iC : PySem.W.findIn X.K (.ref C) "__init__" = some (some (.ref fI))) (tI : PySem.W.typeIn X.K (.ref fI) = some (.type "function"))
    (F1 : FnOk X.prog X.w X.K X.mg X.base CX k fI fd ps sp) (hr : Room (k + 1) X.A) (hx : Passes CX X (fun _ _ _ => False)) (I1 : Inv X pins σ H1 s1) (hus : us.length ≤ sizeLine) (bs : Value → List Value) (bv : V → List V)
    (hb : ∀ (s : Shared) (v : Value), X.K.In s.heap → BindsTo s fd ⟨v :: us, kw⟩ (ps.zip (bs v))) (hv : ∀ a : Addr, Vals (bv (.ref a)) (bs (.ref a)))
    (q1 : ∀ a, H1 a = none → sp (bv (.ref a)) (upd H1 a (exo a C none)) (fun v H2 => v = .non ∧ ∃ (d : Addr) (fs : List (Str × V)), H2 a = some (exo a C (some d)) ∧ H2 d = some (exd d fs) ∧ H1 d = none ∧ Q (.ref C) (some d) (upd (del H2 a) d (.xd fs))) (fun _ _ _ => False)) :
    wpAny (model X.prog X.w) X.A (call (.ref C) us kw) (MkP X pins σ Q) X.xe s1 := by
  obtain ⟨nm, q, N, bss, bm, sn, sub, ab, col, dd, k0, k1, k2, k3, k5, B, newId, initId, bmB, EF, ht, cB, cA, cN, hC⟩ := T.cls
  obtain ⟨hp, gs, dr, t0, os⟩ := s1
  have hsz : hp.objs.size ≤ hp.objs.size + 1 := Nat.le_succ _
  have hn : H1 (hp.objs.size + 1) = none := I1.hok.fresh hsz
  have hq := q1 (hp.objs.size + 1) hn
  have kk : ∀ b o, hp.get? b = some o → ((hp.push (PySem.W.kdv_tup us)).push (PySem.HandSPX.excO C hp.objs.size)).get? b = some o := by
    intro b o e; exact Heap.get?_push_of_some _ (Heap.get?_push_of_some _ e)
  have hget : ((hp.push (PySem.W.kdv_tup us)).push (PySem.HandSPX.excO C hp.objs.size)).get? (hp.objs.size + 1) = some (PySem.HandSPX.excO C hp.objs.size) := by heap_get
  have I2 : Inv X pins σ (upd H1 (hp.objs.size + 1) (exo (hp.objs.size + 1) C none)) ⟨(hp.push (PySem.W.kdv_tup us)).push (PySem.HandSPX.excO C hp.objs.size), gs, dr, t0, os⟩ := I1.laid (t' := t0) (a := hp.objs.size + 1) (o := exo (hp.objs.size + 1) C none) (h' := (hp.push (PySem.W.kdv_tup us)).push (PySem.HandSPX.excO C hp.objs.size)) kk hsz (exo_ok hget)
  refine wpAny_call (callK EF cB cA cN (I1.kIn _ _ hC) (PySem.W.looks_findIn I1.kIn iC) (fun self => PySem.W.bind_fn I1.kIn self tI) hus (codeAny_mono (F1.run _ X.stack _ _ ⟨Value.ref (hp.objs.size + 1) :: us, kw⟩ (bs (.ref (hp.objs.size + 1))) (bv (.ref (hp.objs.size + 1))) _ (fun _ _ _ => False) (hr.make C us kw) (I2.env0.make C us kw) (hb _ _ I2.kIn) (hv _) hq) fun r s' hq' => ?_))
  cases r with
  | error er => exact hx pins σ _ _ er s' I2 hq'
  | ok fl =>
    cases fl with
    | ret u =>
      obtain ⟨v, H2, os2, bare2, un2, hok2, rv, ev, d, fs, ea, ed, hd1, q2⟩ := hq'; subst ev; obtain ⟨h2, g2, d2, t2, os'⟩ := s'
      exact ⟨rv, mk_end (raises_own T.exC T.tyC) I1 hsz kk un2 hok2 os2 bare2 ea ed hd1 q2⟩
    | _ => exact False.elim hq'
/-- C(e, ..) -/
theorem pmk_oexG {ds : List Value} {dvs : List V} (T : OexG X.K C) (iC : PySem.W.findIn X.K (.ref C) "__init__" = some (some (.ref fI))) (tI : PySem.W.typeIn X.K (.ref fI) = some (.type "function"))
    (F1 : FnOk X.prog X.w X.K X.mg X.base CX k fI fd ps sp) (hr : Room (k + 1) X.A) (hb : Binds X.K fd ps ds) (hd : Vals dvs ds) (hx : Passes CX X (fun _ _ _ => False)) (hg : Gl X x) (hm : X.mg x = some (.ref C)) (ha : PA X (e :: es) ta) (hdb : (x == ("__debug__" : Str)) = false := by decide)
    (he : starEach (e :: es) X.env = (false, eval e X.env) :: starEach es X.env := by rfl) (hpl : (backTo pos (starEach es X.env)).any (·.1) = false := by rfl) : PMk X (.Call (.Name x p) (e :: es) [] pos) (tMkO C sp dvs ta) := by
  intro pins s σ H Q I h
  refine wpAny_Call_Name_kw (ld_glob I hg hm (PySem.W.callWith_K (h₀ := X.base) I.ok.mod.kin T.kC (thn (ha.run pos pins s σ H _ I h) fun us s1 ⟨vs, H1, I1, r1, hz, q1⟩ => ⟨I1.kIn, ?_⟩) he hpl) hdb)
  have hus : us.length ≤ sizeLine := by rw [← Paired.length r1, sizeLine_eq]; omega
  have r2 : ∀ a : Addr, Vals (V.ref a :: (vs ++ dvs)) (Value.ref a :: (us ++ ds)) := fun a => .cons rfl (r1.append hd)
  obtain ⟨a0, hn⟩ : ∃ a0 : Addr, H1 a0 = none := ⟨s1.heap.objs.size, I1.hok.fresh (Nat.le_refl _)⟩
  have hl : ∀ v : Value, (v :: us ++ ds).length = ps.length := fun v => by
    have e := (r2 a0).length; rw [F1.len _ _ _ _ (q1 a0 hn)] at e; exact e.symm
  show wpAny _ _ (call (.ref C) us []) _ _ _
  exact mkG T iC tI F1 hr hx I1 hus (fun v => v :: (us ++ ds)) (fun v => v :: (vs ++ dvs)) (fun s v KI => hb s (v :: us) KI (hl v)) r2 q1
/-- C(k = v, ..) -/
def tMkK (C : Addr) (m : Nat) (sp : Sp) (gV : List V → List V → List V) (tk : TA) : L2.St → Hp → XK → Prop := fun σ H Q => tk σ H fun zs H1 => zs.length = m ∧ ∀ a, H1 a = none → sp (gV [.ref a] zs) (upd H1 a (exo a C none))
  (fun v H2 => v = .non ∧ ∃ (d : Addr) (fs : List (Str × V)), H2 a = some (exo a C (some d)) ∧ H2 d = some (exd d fs) ∧ H1 d = none ∧ Q (.ref C) (some d) (upd (del H2 a) d (.xd fs))) (fun _ _ _ => False)
theorem pmk_oexK (T : OexG X.K C) (iC : PySem.W.findIn X.K (.ref C) "__init__" = some (some (.ref fI))) (tI : PySem.W.typeIn X.K (.ref fI) = some (.type "function"))
    (F1 : FnOk X.prog X.w X.K X.mg X.base CX k fI fd ps sp) (hr : Room (k + 1) X.A) (hb : KBn X.K fd ps 1 ks g gV) (hx : Passes CX X (fun _ _ _ => False)) (hg : Gl X x) (hm : X.mg x = some (.ref C)) (hkw : PK X kws tk)
    (hall : (backToKw pos (keywordEach kws X.env)).all (·.1.isSome) = true := by rfl) (hks : (backToKw pos (keywordEach kws X.env)).filterMap (·.1) = ks := by rfl) (hdb : (x == ("__debug__" : Str)) = false := by decide)
    (hpl : ((backTo pos (starEach [] X.env)).any (·.1) || (backToKw pos (keywordEach kws X.env)).any (·.1.isNone)) = false := by rfl) : PMk X (.Call (.Name x p) [] kws pos) (tMkK C ks.length sp gV tk) := by
  intro pins s σ H Q I h
  refine wpAny_Call_Name_kw (ld_glob I hg hm ?_ hdb)
  refine PySem.W.callWith_KW0 (h₀ := X.base) I.ok.mod.kin T.kC hall ?_ hpl
  refine thn (hkw.run pos pins s σ H _ I h) fun ws s2 ⟨zs, H2, I2, rz, l2, q2⟩ => ⟨I2.kIn, ?_⟩
  rw [hks]
  have l3 : ws.length = ks.length := rz.length.symm.trans l2
  show wpAny _ _ (call (.ref C) [] (ks.zip ws)) _ _ _
  exact mkG (us := []) T iC tI F1 hr hx I2 (Nat.zero_le _) (fun v => g [v] ws) (fun v => gV [v] zs) (fun s v KI => hb.to s [v] ws KI rfl l3) (fun a => hb.rel (.cons rfl .nil) rz) q2
end
/-! what the kernel looks at -/
def mroOkB (C : Addr) (bm : List Value) (B : String) : Bool := okTail bm && ((Value.ref C :: bm).contains (.type B) && (!(Value.ref C :: bm).contains (.type "AttributeError") && !(Value.ref C :: bm).contains (.type "NameError")))
def oexGClsB (K : PySem.W.Frag) (C : Addr) : Bool := match K.lookup C with
  | some ⟨.type "type", _, .cls cd, sl⟩ => (match cd.mro, sl.toList with
    | .ref C' :: bm, [_, _, _, _, some (.builtin n), _] => C' == C && !cd.hasDel && cd.hasDict && ((n == "ValueError.__new__" && mroOkB C bm "ValueError") || (n == "LookupError.__new__" && mroOkB C bm "LookupError") || (n == "OverflowError.__new__" && mroOkB C bm "OverflowError"))
    | _, _ => false)
  | _ => false
theorem mroOkB_ok {C : Addr} {bm : List Value} {B : String} (h : mroOkB C bm B = true) : okTail bm = true ∧ (Value.ref C :: bm).contains (.type B) = true ∧ (Value.ref C :: bm).contains (.type "AttributeError") = false ∧ (Value.ref C :: bm).contains (.type "NameError") = false := by
  unfold mroOkB at h
  simp only [Bool.and_eq_true, Bool.not_eq_true'] at h
  exact ⟨h.1, h.2.1, h.2.2.1, h.2.2.2⟩
theorem oexGClsB_ok {K : PySem.W.Frag} {C : Addr} (q : oexGClsB K C = true) : ∃ nm q N bs bm sn sub ab col dd k0 k1 k2 k3 k5 B newId initId bmB, ExcBaseFacts B newId initId bmB ∧ okTail bm = true ∧ (Value.ref C :: bm).contains (.type B) = true ∧ (Value.ref C :: bm).contains (.type "AttributeError") = false ∧ (Value.ref C :: bm).contains (.type "NameError") = false ∧
    K.lookup C = some (excClassObj nm q C N bs bm true sn sub ab col dd k0 k1 k2 k3 k5 newId) := by
  unfold oexGClsB at q
  split at q
  · rename_i dd cd sl ho
    split at q
    · rename_i C' bm k0 k1 k2 k3 n k5 hm hs
      simp only [Bool.and_eq_true, Bool.or_eq_true, beq_iff_eq, Bool.not_eq_true'] at q
      obtain ⟨⟨⟨rfl, hdel⟩, hdc⟩, ht⟩ := q
      obtain ⟨nm, bs, mro, ns, qn, hd, sn, sub, ab, col, del⟩ := cd
      dsimp only at hm hdel hdc
      subst hm hdel hdc
      have hsl : sl = #[k0, k1, k2, k3, some (.builtin n), k5] := by
        obtain ⟨l⟩ := sl; simp only at hs; rw [hs]
      subst hsl
      rcases ht with (⟨rfl, h⟩ | ⟨rfl, h⟩) | ⟨rfl, h⟩
      · obtain ⟨h1, h2, h3, h4⟩ := mroOkB_ok h
        exact ⟨nm, qn, ns, bs, bm, sn, sub, ab, col, dd, k0, k1, k2, k3, k5, _, _, _, _, F.excBase_ValueError, h1, h2, h3, h4, ho⟩
      · obtain ⟨h1, h2, h3, h4⟩ := mroOkB_ok h
        exact ⟨nm, qn, ns, bs, bm, sn, sub, ab, col, dd, k0, k1, k2, k3, k5, _, _, _, _, F.excBase_LookupError, h1, h2, h3, h4, ho⟩
      · obtain ⟨h1, h2, h3, h4⟩ := mroOkB_ok h
        exact ⟨nm, qn, ns, bs, bm, sn, sub, ab, col, dd, k0, k1, k2, k3, k5, _, _, _, _, F.excBase_OverflowError, h1, h2, h3, h4, ho⟩
    · cases q
  · cases q
/-- such a class at C: its __init__ at fI; its fields fs are no attributes of the class -/
structure OexGF (K : PySem.W.Frag) (C fI : Addr) (fs : List Str) : Prop where
  o : OexG K C
  i : PySem.W.findIn K (.ref C) "__init__" = some (some (.ref fI))
  t : PySem.W.typeIn K (.ref fI) = some (.type "function")
  x : XfC K C
  n : ∀ f ∈ fs, PySem.W.findIn K (.ref C) f = some none
def oexGFB (K : PySem.W.Frag) (C fI : Addr) (fs : List Str) : Bool := oexGClsB K C && (He.eqO (PySem.W.findIn K (.ref C) "__setattr__") (some (some (.builtin "object.__setattr__"))) && (decide (PySem.W.subIn K (.ref C) (.type "BaseException") = some true) && (decide (PySem.W.typeIn K (.ref C) = some (.type "type")) && (PySem.W.keepIn K (.ref C) &&
  (He.eqO (PySem.W.findIn K (.ref C) "__init__") (some (some (.ref fI))) && (decide (PySem.W.typeIn K (.ref fI) = some (.type "function")) && (xfB K C && fs.all fun f => He.eqO (PySem.W.findIn K (.ref C) f) (some none))))))))
theorem oexGFB_ok {K : PySem.W.Frag} {C fI : Addr} {fs : List Str} (c : oexGFB K C fI fs = true) : OexGF K C fI fs := by
  obtain ⟨c1, c⟩ := He.ba c
  obtain ⟨c2, c⟩ := He.ba c
  obtain ⟨c3, c⟩ := He.ba c
  obtain ⟨c4, c⟩ := He.ba c
  obtain ⟨c5, c⟩ := He.ba c
  obtain ⟨c6, c⟩ := He.ba c
  obtain ⟨c7, c⟩ := He.ba c
  obtain ⟨c8, c9⟩ := He.ba c
  exact ⟨⟨oexGClsB_ok c1, He.eqO_ok c2, of_decide_eq_true c3, of_decide_eq_true c4, c5⟩, He.eqO_ok c6, of_decide_eq_true c7, xfB_ok c8, fun f hf => He.eqO_ok (List.all_eq_true.mp c9 f hf)⟩
theorem kOstG {X : Cx} {K : PySem.W.Frag} {st : Stmt} {to te : TE} {f : Str} (h : PS X st (tOstG X.K f to te)) (hK : X.K = K := by rfl) : PS X st (tOstG K f to te) := hK ▸ h
theorem r_ostG {K : PySem.W.Frag} {σ : L2.St} {H : Hp} {D : Ends} {to te : TE} {f : Str} (q : te σ H fun y H1 => to σ H1 fun x H2 => ∃ a C : Addr, x = .ref a ∧ OexG K C ∧ PySem.W.findIn K (.ref C) f = some none ∧ H2 a = some (exo a C none) ∧ ∀ dx, H2 dx = none → dx ≠ a → D.nx σ (upd (upd H2 dx (exd dx [(f, y)])) a (exo a C (some dx)))) : tOstG K f to te D σ H := q
/-! own exceptions without __init__ under LookupError -/
abbrev luBase : List Value := [.type "LookupError", .type "Exception", .type "BaseException", .type "object"]
structure ExcL (K : PySem.W.Frag) (C : Addr) : Prop where
  x : PySem.W.excIn K C luBase "LookupError.__new__" = true
  k : PySem.W.keepIn K (.ref C) = true
  b : PySem.W.subIn K (.ref C) (.type "BaseException") = some true
  t : PySem.W.typeIn K (.ref C) = some (.type "type")
def excLB (K : PySem.W.Frag) (C : Addr) : Bool := PySem.W.excIn K C luBase "LookupError.__new__" && (PySem.W.keepIn K (.ref C) && (decide (PySem.W.subIn K (.ref C) (.type "BaseException") = some true) && decide (PySem.W.typeIn K (.ref C) = some (.type "type"))))
theorem excL_ok {K : PySem.W.Frag} {C : Addr} (c : excLB K C = true) : ExcL K C := by
  obtain ⟨c1, c⟩ := He.ba c
  obtain ⟨c2, c⟩ := He.ba c
  obtain ⟨c3, c4⟩ := He.ba c
  exact ⟨c1, c2, of_decide_eq_true c3, of_decide_eq_true c4⟩
/-! the nineteen errors: each is an instance of its own class alone, and of these bases -/
def errNs : List String := ["InvalidInteger", "InvalidPoint", "InvalidDirection", "InvalidMap", "InvalidName", "InvalidTriangulation", "InvalidCommand", "InvalidPolygon", "DegenerateCorner", "NotConvex", "InvalidAction", "RunFailed", "InvalidText", "UnknownName", "NameInUse", "NotFlippable", "LimitExceeded", "CrossingEdges", "NothingToUndo"]
def isShape (i : Nat) : Bool := decide (i < 13) || i == 17
def excCB (K : PySem.W.Frag) (D : Addr) : Bool := decide (PySem.W.findIn K (.ref D) "__getattribute__" = some (some (.builtin "BaseException.__getattribute__"))) && (decide (PySem.W.findIn K (.ref D) "__getattr__" = some none) && (decide (PySem.W.subIn K (.ref D) (.type "BaseException") = some true) && (PySem.W.hasDictIn K D && (decide (PySem.W.findIn K (.ref D) "__class__" = some (some (.builtin "object.__class__"))) &&
  (decide (PySem.W.specialIn K (.builtin "object.__class__") "__get__" = some (some (.builtin "getset_descriptor.__get__"))) && (decide (PySem.W.takesIn K (.builtin "object.__class__") = some true) && decide (PySem.W.mroIn K D (.type "object") = some true)))))))
theorem excCB_ok {K : PySem.W.Frag} {D : Addr} (c : excCB K D = true) : ExcC K D := by
  obtain ⟨c1, c⟩ := He.ba c
  obtain ⟨c2, c⟩ := He.ba c
  obtain ⟨c3, c⟩ := He.ba c
  obtain ⟨c4, c⟩ := He.ba c
  obtain ⟨c5, c⟩ := He.ba c
  obtain ⟨c6, c⟩ := He.ba c
  obtain ⟨c7, c8⟩ := He.ba c
  exact ⟨of_decide_eq_true c1, of_decide_eq_true c2, of_decide_eq_true c3, c4, of_decide_eq_true c5, of_decide_eq_true c6, of_decide_eq_true c7, of_decide_eq_true c8⟩
def errB (K : PySem.W.Frag) (i : Nat) (D : Addr) : Bool := excCB K D && (((List.range 19).all fun j => decide (PySem.W.kitOne K (.ref D) (.ref (He.ga K (errNs.getD j ""))) = some (i == j))) && (decide (PySem.W.kitOne K (.ref D) (.ref (He.ga K "ShapeError")) = some (isShape i)) &&
  (decide (PySem.W.kitOne K (.ref D) (.type "ValueError") = some (isShape i)) && (decide (PySem.W.kitOne K (.ref D) (.type "KeyError") = some (i == 13 || i == 14)) && (decide (PySem.W.kitOne K (.ref D) (.type "LookupError") = some (i == 13 || i == 14 || i == 15 || i == 18)) &&
  (decide (PySem.W.kitOne K (.ref D) (.type "IndexError") = some false) && decide (PySem.W.kitOne K (.ref D) (.type "OverflowError") = some (i == 16))))))))
structure ErrF (K : PySem.W.Frag) (i : Nat) (D : Addr) : Prop where
  c : ExcC K D
  own : ∀ j, j < 19 → PySem.W.kitOne K (.ref D) (.ref (He.ga K (errNs.getD j ""))) = some (i == j)
  sh : PySem.W.kitOne K (.ref D) (.ref (He.ga K "ShapeError")) = some (isShape i)
  ve : PySem.W.kitOne K (.ref D) (.type "ValueError") = some (isShape i)
  ke : PySem.W.kitOne K (.ref D) (.type "KeyError") = some (i == 13 || i == 14)
  le : PySem.W.kitOne K (.ref D) (.type "LookupError") = some (i == 13 || i == 14 || i == 15 || i == 18)
  ie : PySem.W.kitOne K (.ref D) (.type "IndexError") = some false
  oe : PySem.W.kitOne K (.ref D) (.type "OverflowError") = some (i == 16)
theorem errB_ok {K : PySem.W.Frag} {i : Nat} {D : Addr} (c : errB K i D = true) : ErrF K i D := by
  obtain ⟨c1, c⟩ := He.ba c
  obtain ⟨c2, c⟩ := He.ba c
  obtain ⟨c3, c⟩ := He.ba c
  obtain ⟨c4, c⟩ := He.ba c
  obtain ⟨c5, c⟩ := He.ba c
  obtain ⟨c6, c⟩ := He.ba c
  obtain ⟨c7, c8⟩ := He.ba c
  exact ⟨excCB_ok c1, fun j hj => of_decide_eq_true (List.all_eq_true.mp c2 j (List.mem_range.mpr hj)), of_decide_eq_true c3, of_decide_eq_true c4, of_decide_eq_true c5, of_decide_eq_true c6, of_decide_eq_true c7, of_decide_eq_true c8⟩
def Kit19 (K : PySem.W.Frag) : Prop := ∀ i, i < 19 → ErrF K i (He.ga K (errNs.getD i ""))
def kit19B (K : PySem.W.Frag) : Bool := (List.range 19).all fun i => errB K i (He.ga K (errNs.getD i ""))
theorem kit19_ok {K : PySem.W.Frag} (c : kit19B K = true) : Kit19 K := fun i hi => errB_ok (List.all_eq_true.mp c i (List.mem_range.mpr hi))
end G
/-! ### d.get(k) of a dict of the module with text keys; heads with such tables -/
namespace G
open PySem PySem.Spec PyProof.Rows L2
def tKGet (K : PySem.W.Frag) (w : World) (td ty : TE) : TE := fun σ H Q => td σ H fun x H1 => ∃ p es n, x = .ref p ∧ KDict K w p es n ∧ ty σ H1 fun y H2 => ∃ (z : Str) (r : Option Value) (v : V), y = .str z ∧ PySem.W.nsIn K p z = some r ∧ (∀ u, r = some u → RelV v u) ∧ (r = none → v = .non) ∧ Q v H2
theorem pe_kget {X : Cx} {K : PySem.W.Frag} {w : World} {o e : Expr} {apos cpos : Pos} {td ty : TE} (ho : PE X o td) (he : PE X e ty) (m : M1 X o "get" apos e cpos) (hK : X.K = K := by rfl) (hw : X.w = w := by rfl) : PE X (.Call (.Attribute o "get" apos) [e] [] cpos) (tKGet K w td ty) := by
  subst hK hw
  refine ⟨fun pins s σ H Q I h => ?_⟩
  refine wpAny_Call_method m.base m.few m.line PySem.F.plainAttrs_dict PySem.F.slot_dict_get PySem.F.type_dict_get (thn (ho.run pins s σ H _ I h) fun u s1 ⟨x, H1, I1, rx, p, es, n, ex, D, q1⟩ => ?_)
  subst ex
  obtain rfl : u = Value.ref p := rx
  have hm := PySem.W.mapOf_K (prog := X.prog) (w := X.w) I1.kIn D.at_ D.lit
  refine ⟨hm.typeIs, fun b q => ?_, ?_⟩
  · cases q
    obtain ⟨ob, _, _, h1, h2, _⟩ := hm
    exact ⟨ob, h1, h2.2.1⟩
  rw [m.trees]
  refine Calls.callWith_builtin rfl (Calls.evalArgs_plain (Calls.spliced_cons (thn (he.run pins s1 σ H1 _ I1 q1) fun iv s2 ⟨y, H2, I2, ry, z, r, v, ey, hn, hr1, hr2, q2⟩ => Calls.spliced_nil ?_)))
  subst ey
  obtain ⟨t, rfl⟩ := (show ∃ t, iv = Value.str z t from ry)
  have hm2 := PySem.W.mapOf_K (prog := X.prog) (w := X.w) I2.kIn D.at_ D.lit
  refine call_meetsIn PySem.F.slot_dict_get hm2.typeIs PySem.F.entry_dict_get (PySem.F.args_dict_get_2 _ _) (meets_dict_get (strKind X.prog X.w) p (strKind_is X.prog X.w z t) D.low) ⟨_, hm2, ?_⟩
  refine ⟨v, H2, I2.tok _, ?_, q2⟩
  rw [PySem.W.find_K D.at_ hn]
  cases r with
  | some u => exact hr1 u rfl
  | none => rw [hr2 rfl]; rfl
theorem r_kget {K : PySem.W.Frag} {w : World} {td ty : TE} {σ : L2.St} {H : Hp} {Q : VK} (q : td σ H fun x H1 => ∃ p es n, x = .ref p ∧ KDict K w p es n ∧ ty σ H1 fun y H2 => ∃ (z : Str) (r : Option Value) (v : V), y = .str z ∧ PySem.W.nsIn K p z = some r ∧ (∀ u, r = some u → RelV v u) ∧ (r = none → v = .non) ∧ Q v H2) : tKGet K w td ty σ H Q := q
/-! the head's hook with tables -/
def obsMT (fa : List (PySem.W.Frag → Bool)) (fn gs : List He5.DefA) (ts : List He.Tab) (K : PySem.W.Frag) : He.AlT := (obsM fa fn gs K, ts.map fun t => He.dicW K (t.1 K))
def valMT (fn gs : List He5.DefA) (ts : List He.Tab) (w : World) : He.AlT := (valM fn gs, ts.map fun t => some (He.keysIn w.params t.2))
def SaysMT (fa : List (PySem.W.Frag → Bool)) (fn gs : List He5.DefA) (ts : List He.Tab) (w : World) (K : PySem.W.Frag) : Prop := obsMT fa fn gs ts K = valMT fn gs ts w
def obsMTG (n : Nat) (fa : List (PySem.W.Frag → Bool)) (fn gs : List He5.DefA) (ts : List He.Tab) (g : Addr → Option Obj) : He.AlT := obsMT fa fn gs ts (He.frG g (asB g n))
def hookMT (n : Nat) (fa : List (PySem.W.Frag → Bool)) (fn gs : List He5.DefA) (ts : List He.Tab) : PySem.W.Hook where
  α := He.AlT
  obs := fun s => obsMTG n fa fn gs ts s.heap.get?
  val := fun w => valMT fn gs ts w
  says := fun w h => ∃ K : PySem.W.Frag, K.In h ∧ SaysMT fa fn gs ts w K
  of := fun _ _ e => ⟨_, He.frG_in, e⟩
  keeps := fun _ _ _ ⟨K, hK, c⟩ k => ⟨K, PySem.W.Frag.In.keeps hK k, c⟩
theorem obsMTG_eq {n : Nat} {fa : List (PySem.W.Frag → Bool)} {fn gs : List He5.DefA} {ts : List He.Tab} {g : Addr → Option Obj} {s : Shared} (h : ∀ a, g a = s.heap.get? a) : obsMTG n fa fn gs ts g = (hookMT n fa fn gs ts).obs s := by
  have e : g = s.heap.get? := funext h
  rw [e] <;> rfl
section
variable {fa : List (PySem.W.Frag → Bool)} {fn gs : List He5.DefA} {ts : List He.Tab} {w : World} {K : PySem.W.Frag}
theorem SaysMT.m (c : SaysMT fa fn gs ts w K) : SaysM fa fn gs K := congrArg (fun z : He.AlT => z.1) c
theorem SaysMT.tab (c : SaysMT fa fn gs ts w K) (i : Nat) {t : He.Tab} (h : ts[i]? = some t) : ∃ es n, KDict K w (t.1 K) es n := by
  have e : ts.map (fun t => He.dicW K (t.1 K)) = ts.map fun t => some (He.keysIn w.params t.2) := congrArg (fun z : He.AlT => z.2) c
  have e2 : (ts.map fun t => He.dicW K (t.1 K))[i]? = (ts.map fun t => some (He.keysIn w.params t.2))[i]? := by rw [e]
  rw [List.getElem?_map, List.getElem?_map, h] at e2
  exact He.dicW_ok (Option.some.inj e2)
end
end G
namespace G
open PySem PySem.Spec PyProof.Rows L2
/-- a table's value is this int -/
def kvB (K : PySem.W.Frag) (a : Addr) (k : Str) (i : Int) : Bool := match PySem.W.nsIn K a k with
  | some (some (.int j _)) => decide (j = i)
  | _ => false
theorem kvB_ok {K : PySem.W.Frag} {a : Addr} {k : Str} {i : Int} (c : kvB K a k i = true) : ∃ t, PySem.W.nsIn K a k = some (some (.int i t)) := by
  unfold kvB at c
  split at c
  · rename_i j t e
    rw [of_decide_eq_true c] at e
    exact ⟨t, e⟩
  · cases c
end G
/-! ### the head's facts with empty tables of code objects (left out of the fragment) -/
namespace G
open PySem PySem.Spec PyProof.Rows L2
def codeB (K : PySem.W.Frag) (f : Addr) : Addr := match K.lookup f with
  | some ⟨_, _, .func fd, _⟩ => (match fd.code with
    | .ref c => c
    | _ => 0)
  | _ => 0
/-- the makers' code objects and tables -/
def csOf (tf : List (PySem.W.Frag → Addr)) (K : PySem.W.Frag) : List (Addr × Addr) := tf.map fun p => (codeB K (p K), He.tabOf K (codeB K (p K)))
def tabsL (g : Addr → Option Obj) (tf : List (PySem.W.Frag → Addr)) (K : PySem.W.Frag) : Bool := (csOf tf K).all fun p => PySem.W.codeHdIn K p.1 p.2 && (match g p.2 with
  | some o => He.emptyTab o
  | none => false)
abbrev AlL : Type := He.AlT × Bool
def obsLG (n : Nat) (fa : List (PySem.W.Frag → Bool)) (fn gs : List He5.DefA) (ts : List He.Tab) (tf : List (PySem.W.Frag → Addr)) (g : Addr → Option Obj) : AlL := (obsMT fa fn gs ts (He.frT g (asB g n)), tabsL g tf (He.frT g (asB g n)))
/-- what is told of the tables -/
structure TabsSay (tf : List (PySem.W.Frag → Addr)) (K : PySem.W.Frag) (h : Heap) : Prop where
  hd : ∀ p ∈ csOf tf K, PySem.W.codeHdIn K p.1 p.2 = true
  out : ∀ p ∈ csOf tf K, K.lookup p.2 = none
  empty : ∀ p ∈ csOf tf K, h.get? p.2 = some { cls := .none, data := .fields #[] }
theorem tabsSay_of {n : Nat} {tf : List (PySem.W.Frag → Addr)} {h : Heap} (e : tabsL h.get? tf (He.frT h.get? (asB h.get? n)) = true) : TabsSay tf (He.frT h.get? (asB h.get? n)) h := by
  have key : ∀ p ∈ csOf tf (He.frT h.get? (asB h.get? n)), PySem.W.codeHdIn (He.frT h.get? (asB h.get? n)) p.1 p.2 = true ∧ ∃ o, h.get? p.2 = some o ∧ He.emptyTab o = true := fun p hp => by
    obtain ⟨h1, h2⟩ := He.ba (List.all_eq_true.mp e p hp)
    cases q : h.get? p.2 with
    | none => rw [q] at h2; cases h2
    | some o => rw [q] at h2; exact ⟨h1, o, rfl, h2⟩
  refine ⟨fun p hp => (key p hp).1, fun p hp => ?_, fun p hp => ?_⟩
  · obtain ⟨_, o, q, z⟩ := key p hp
    exact He.frT_none q z
  · obtain ⟨_, o, q, z⟩ := key p hp
    rw [q, He.emptyTab_eq z]
def hookL (n : Nat) (fa : List (PySem.W.Frag → Bool)) (fn gs : List He5.DefA) (ts : List He.Tab) (tf : List (PySem.W.Frag → Addr)) : PySem.W.Hook where
  α := AlL
  obs := fun s => obsLG n fa fn gs ts tf s.heap.get?
  val := fun w => (valMT fn gs ts w, true)
  says := fun w h => ∃ K : PySem.W.Frag, K.In h ∧ SaysMT fa fn gs ts w K ∧ TabsSay tf K h
  of := fun _ _ e => ⟨_, He.frT_in, congrArg (fun z : AlL => z.1) e, tabsSay_of (congrArg (fun z : AlL => z.2) e)⟩
  keeps := fun _ _ _ ⟨K, hK, c, t⟩ k => ⟨K, PySem.W.Frag.In.keeps hK k, c, t.hd, t.out, fun p hp => k _ _ (t.empty p hp)⟩
theorem obsLG_eq {n : Nat} {fa : List (PySem.W.Frag → Bool)} {fn gs : List He5.DefA} {ts : List He.Tab} {tf : List (PySem.W.Frag → Addr)} {g : Addr → Option Obj} {s : Shared} (h : ∀ a, g a = s.heap.get? a) : obsLG n fa fn gs ts tf g = (hookL n fa fn gs ts tf).obs s := by
  have e : g = s.heap.get? := funext h
  rw [e] <;> rfl
end G
namespace G
open PySem PySem.Spec PyProof.Rows L2
def top (i : Nat) : Stmt := PySem.Challenge.pw_latticeshapes_k80_values_formatted.main.body.getD i (.Pass ⟨0, 0, 0, 0⟩)

abbrev s_is_integer : Stmt := top 10
abbrev s_check_integer : Stmt := top 11
abbrev s_is_point : Stmt := top 13
abbrev s_check_point : Stmt := top 14
abbrev s_cross_of : Stmt := top 15
abbrev s_difference : Stmt := top 16
abbrev s_turn_of : Stmt := top 17
abbrev s_InvalidPolygon_init : Stmt := inClass (top 6) 0
abbrev s_DegenerateCorner_init : Stmt := inClass (top 7) 0
abbrev s_CrossingEdges_init : Stmt := inClass (top 8) 0
abbrev s_check_points : Stmt := top 23
abbrev s_triples : Stmt := top 24
abbrev s_check_turns : Stmt := top 25
abbrev s_is_between : Stmt := top 26
abbrev s_is_on : Stmt := top 27
abbrev s_have_common_point : Stmt := top 28
abbrev s_edges_of : Stmt := top 29
abbrev s_check_crossings : Stmt := top 30
abbrev s_area_of : Stmt := top 31
abbrev s_arranged : Stmt := top 32
abbrev s_checked_corners : Stmt := top 33
abbrev s_first_reflex : Stmt := top 35
abbrev s_Polygon_init : Stmt := inClass (top 36) 1
abbrev s_Polygon_corners : Stmt := inClass (top 36) 5
abbrev s_GridMap_init : Stmt := inClass (top 19) 1
abbrev s_GridMap_numbers : Stmt := inClass (top 19) 6
abbrev s_check_map : Stmt := top 20
abbrev s_check_polygon : Stmt := top 37
abbrev s_format_integer : Stmt := top 39
abbrev s_format_point : Stmt := top 40
abbrev s_format_points : Stmt := top 41
abbrev s_format_polygon : Stmt := top 42
abbrev s_format_map : Stmt := top 43
abbrev s_law_pool : Stmt := top 45
abbrev s_law_take : Stmt := top 46
abbrev s_law_number : Stmt := top 47
abbrev s_law_digits : Stmt := top 48
abbrev s_law_point : Stmt := top 49
abbrev s_law_pair : Stmt := top 50
abbrev s_law_error : Stmt := top 51
abbrev s_law_refused : Stmt := top 52
abbrev s_law : Stmt := top 53
end G
namespace G
open PySem PySem.Spec PyProof.Rows L2
def dd_is_integer : He5.DefA := ⟨fun K => (He.ga K "is_integer"), "is_integer", "is_integer", defArgs s_is_integer, defBody s_is_integer, defScope s_is_integer, [], []⟩
def dd_check_integer : He5.DefA := ⟨fun K => (He.ga K "check_integer"), "check_integer", "check_integer", defArgs s_check_integer, defBody s_check_integer, defScope s_check_integer, [.non], []⟩
def dd_is_point : He5.DefA := ⟨fun K => (He.ga K "is_point"), "is_point", "is_point", defArgs s_is_point, defBody s_is_point, defScope s_is_point, [], []⟩
def dd_check_point : He5.DefA := ⟨fun K => (He.ga K "check_point"), "check_point", "check_point", defArgs s_check_point, defBody s_check_point, defScope s_check_point, [], []⟩
def dd_cross_of : He5.DefA := ⟨fun K => (He.ga K "cross_of"), "cross_of", "cross_of", defArgs s_cross_of, defBody s_cross_of, defScope s_cross_of, [], []⟩
def dd_difference : He5.DefA := ⟨fun K => (He.ga K "difference"), "difference", "difference", defArgs s_difference, defBody s_difference, defScope s_difference, [], []⟩
def dd_turn_of : He5.DefA := ⟨fun K => (He.ga K "turn_of"), "turn_of", "turn_of", defArgs s_turn_of, defBody s_turn_of, defScope s_turn_of, [], []⟩
def dd_InvalidPolygon_init : He5.DefA := ⟨fun K => (He.ma K (He.ga K "InvalidPolygon") "__init__"), "__init__", "InvalidPolygon.__init__", defArgs s_InvalidPolygon_init, defBody s_InvalidPolygon_init, defScope s_InvalidPolygon_init, [], []⟩
def dd_DegenerateCorner_init : He5.DefA := ⟨fun K => (He.ma K (He.ga K "DegenerateCorner") "__init__"), "__init__", "DegenerateCorner.__init__", defArgs s_DegenerateCorner_init, defBody s_DegenerateCorner_init, defScope s_DegenerateCorner_init, [], []⟩
def dd_CrossingEdges_init : He5.DefA := ⟨fun K => (He.ma K (He.ga K "CrossingEdges") "__init__"), "__init__", "CrossingEdges.__init__", defArgs s_CrossingEdges_init, defBody s_CrossingEdges_init, defScope s_CrossingEdges_init, [], []⟩
def dd_check_points : He5.DefA := ⟨fun K => (He.ga K "check_points"), "check_points", "check_points", defArgs s_check_points, defBody s_check_points, defScope s_check_points, [], []⟩
def dd_triples : He5.DefA := ⟨fun K => (He.ga K "triples"), "triples", "triples", defArgs s_triples, defBody s_triples, defScope s_triples, [], []⟩
def dd_check_turns : He5.DefA := ⟨fun K => (He.ga K "check_turns"), "check_turns", "check_turns", defArgs s_check_turns, defBody s_check_turns, defScope s_check_turns, [], []⟩
def dd_is_between : He5.DefA := ⟨fun K => (He.ga K "is_between"), "is_between", "is_between", defArgs s_is_between, defBody s_is_between, defScope s_is_between, [], []⟩
def dd_is_on : He5.DefA := ⟨fun K => (He.ga K "is_on"), "is_on", "is_on", defArgs s_is_on, defBody s_is_on, defScope s_is_on, [], []⟩
def dd_have_common_point : He5.DefA := ⟨fun K => (He.ga K "have_common_point"), "have_common_point", "have_common_point", defArgs s_have_common_point, defBody s_have_common_point, defScope s_have_common_point, [], []⟩
def dd_edges_of : He5.DefA := ⟨fun K => (He.ga K "edges_of"), "edges_of", "edges_of", defArgs s_edges_of, defBody s_edges_of, defScope s_edges_of, [], []⟩
def dd_check_crossings : He5.DefA := ⟨fun K => (He.ga K "check_crossings"), "check_crossings", "check_crossings", defArgs s_check_crossings, defBody s_check_crossings, defScope s_check_crossings, [], []⟩
def dd_area_of : He5.DefA := ⟨fun K => (He.ga K "area_of"), "area_of", "area_of", defArgs s_area_of, defBody s_area_of, defScope s_area_of, [], []⟩
def dd_arranged : He5.DefA := ⟨fun K => (He.ga K "arranged"), "arranged", "arranged", defArgs s_arranged, defBody s_arranged, defScope s_arranged, [], []⟩
def dd_checked_corners : He5.DefA := ⟨fun K => (He.ga K "checked_corners"), "checked_corners", "checked_corners", defArgs s_checked_corners, defBody s_checked_corners, defScope s_checked_corners, [], []⟩
def dd_first_reflex : He5.DefA := ⟨fun K => (He.ga K "first_reflex"), "first_reflex", "first_reflex", defArgs s_first_reflex, defBody s_first_reflex, defScope s_first_reflex, [], []⟩
def dd_Polygon_init : He5.DefA := ⟨fun K => (He.ma K (He.ga K "Polygon") "__init__"), "__init__", "Polygon.__init__", defArgs s_Polygon_init, defBody s_Polygon_init, defScope s_Polygon_init, [], []⟩
def dd_Polygon_corners : He5.DefA := ⟨fun K => (He5.wf K (He.ga K "Polygon") "property" "corners"), "corners", "Polygon.corners", defArgs s_Polygon_corners, defBody s_Polygon_corners, defScope s_Polygon_corners, [], []⟩
def dd_GridMap_init : He5.DefA := ⟨fun K => (He.ma K (He.ga K "GridMap") "__init__"), "__init__", "GridMap.__init__", defArgs s_GridMap_init, defBody s_GridMap_init, defScope s_GridMap_init, [(.int 0), (.int 0)], []⟩
def dd_GridMap_numbers : He5.DefA := ⟨fun K => (He5.wf K (He.ga K "GridMap") "property" "numbers"), "numbers", "GridMap.numbers", defArgs s_GridMap_numbers, defBody s_GridMap_numbers, defScope s_GridMap_numbers, [], []⟩
def dd_check_map : He5.DefA := ⟨fun K => (He.ga K "check_map"), "check_map", "check_map", defArgs s_check_map, defBody s_check_map, defScope s_check_map, [], []⟩
def dd_check_polygon : He5.DefA := ⟨fun K => (He.ga K "check_polygon"), "check_polygon", "check_polygon", defArgs s_check_polygon, defBody s_check_polygon, defScope s_check_polygon, [], []⟩
def dd_format_integer : He5.DefA := ⟨fun K => (He.ga K "format_integer"), "format_integer", "format_integer", defArgs s_format_integer, defBody s_format_integer, defScope s_format_integer, [], []⟩
def dd_format_point : He5.DefA := ⟨fun K => (He.ga K "format_point"), "format_point", "format_point", defArgs s_format_point, defBody s_format_point, defScope s_format_point, [], []⟩
def dd_format_points : He5.DefA := ⟨fun K => (He.ga K "format_points"), "format_points", "format_points", defArgs s_format_points, defBody s_format_points, defScope s_format_points, [], []⟩
def dd_format_polygon : He5.DefA := ⟨fun K => (He.ga K "format_polygon"), "format_polygon", "format_polygon", defArgs s_format_polygon, defBody s_format_polygon, defScope s_format_polygon, [], []⟩
def dd_format_map : He5.DefA := ⟨fun K => (He.ga K "format_map"), "format_map", "format_map", defArgs s_format_map, defBody s_format_map, defScope s_format_map, [], []⟩
def dd_law_pool : He5.DefA := ⟨fun K => (He.ga K "_law_pool"), "_law_pool", "_law_pool", defArgs s_law_pool, defBody s_law_pool, defScope s_law_pool, [], []⟩
def dd_law_take : He5.DefA := ⟨fun K => (He.ga K "_law_take"), "_law_take", "_law_take", defArgs s_law_take, defBody s_law_take, defScope s_law_take, [], []⟩
def dd_law_number : He5.DefA := ⟨fun K => (He.ga K "_law_number"), "_law_number", "_law_number", defArgs s_law_number, defBody s_law_number, defScope s_law_number, [], []⟩
def dd_law_digits : He5.DefA := ⟨fun K => (He.ga K "_law_digits"), "_law_digits", "_law_digits", defArgs s_law_digits, defBody s_law_digits, defScope s_law_digits, [], []⟩
def dd_law_point : He5.DefA := ⟨fun K => (He.ga K "_law_point"), "_law_point", "_law_point", defArgs s_law_point, defBody s_law_point, defScope s_law_point, [], []⟩
def dd_law_pair : He5.DefA := ⟨fun K => (He.ga K "_law_pair"), "_law_pair", "_law_pair", defArgs s_law_pair, defBody s_law_pair, defScope s_law_pair, [], []⟩
def dd_law_error : He5.DefA := ⟨fun K => (He.ga K "_law_error"), "_law_error", "_law_error", defArgs s_law_error, defBody s_law_error, defScope s_law_error, [], []⟩
def dd_law_refused : He5.DefA := ⟨fun K => (He.ga K "_law_refused"), "_law_refused", "_law_refused", defArgs s_law_refused, defBody s_law_refused, defScope s_law_refused, [], []⟩
def dd_law : He5.DefA := ⟨fun K => (He.ga K "law"), "law", "law", defArgs s_law, defBody s_law, defScope s_law, [], []⟩
def fn : List He5.DefA := [dd_is_integer, dd_check_integer, dd_is_point, dd_check_point, dd_cross_of, dd_difference, dd_turn_of, dd_InvalidPolygon_init, dd_DegenerateCorner_init, dd_CrossingEdges_init, dd_check_points, dd_triples, dd_check_turns, dd_is_between, dd_is_on, dd_have_common_point, dd_edges_of, dd_check_crossings, dd_area_of, dd_arranged, dd_checked_corners, dd_first_reflex, dd_Polygon_init, dd_Polygon_corners, dd_GridMap_init, dd_GridMap_numbers, dd_check_map, dd_check_polygon, dd_format_integer, dd_format_point, dd_format_points, dd_format_polygon, dd_format_map, dd_law_pool, dd_law_take, dd_law_number, dd_law_digits, dd_law_point, dd_law_pair, dd_law_error, dd_law_refused, dd_law]
def gsn : List He5.DefA := []
def fcs : List (PySem.W.Frag → Bool) := [fun K => (He.Fa.free "isinstance").ok K,
  fun K => (He.Fa.free "int").ok K,
  fun K => (He.Fa.free "bool").ok K,
  fun K => (He.Fa.free "tuple").ok K,
  fun K => (He.Fa.free "all").ok K,
  fun K => (He.Fa.free "len").ok K,
  fun K => (He.Fa.free "enumerate").ok K,
  fun K => (He.Fa.free "list").ok K,
  fun K => (He.Fa.free "min").ok K,
  fun K => (He.Fa.free "max").ok K,
  fun K => (He.Fa.free "zip").ok K,
  fun K => (He.Fa.free "range").ok K,
  fun K => (He.Fa.free "sum").ok K,
  fun K => (He.Fa.free "abs").ok K,
  fun K => (He.Fa.free "str").ok K,
  fun K => (He.Fa.glo "is_integer").ok K,
  fun K => (He.Fa.glo "check_integer").ok K,
  fun K => (He.Fa.glo "is_point").ok K,
  fun K => (He.Fa.glo "check_point").ok K,
  fun K => (He.Fa.glo "cross_of").ok K,
  fun K => (He.Fa.glo "difference").ok K,
  fun K => (He.Fa.glo "turn_of").ok K,
  fun K => (He.Fa.glo "check_points").ok K,
  fun K => (He.Fa.glo "triples").ok K,
  fun K => (He.Fa.glo "check_turns").ok K,
  fun K => (He.Fa.glo "is_between").ok K,
  fun K => (He.Fa.glo "is_on").ok K,
  fun K => (He.Fa.glo "have_common_point").ok K,
  fun K => (He.Fa.glo "edges_of").ok K,
  fun K => (He.Fa.glo "check_crossings").ok K,
  fun K => (He.Fa.glo "area_of").ok K,
  fun K => (He.Fa.glo "arranged").ok K,
  fun K => (He.Fa.glo "checked_corners").ok K,
  fun K => (He.Fa.glo "first_reflex").ok K,
  fun K => (He.Fa.glo "check_map").ok K,
  fun K => (He.Fa.glo "check_polygon").ok K,
  fun K => (He.Fa.glo "format_integer").ok K,
  fun K => (He.Fa.glo "format_point").ok K,
  fun K => (He.Fa.glo "format_points").ok K,
  fun K => (He.Fa.glo "format_polygon").ok K,
  fun K => (He.Fa.glo "format_map").ok K,
  fun K => (He.Fa.glo "_law_pool").ok K,
  fun K => (He.Fa.glo "_law_take").ok K,
  fun K => (He.Fa.glo "_law_number").ok K,
  fun K => (He.Fa.glo "_law_digits").ok K,
  fun K => (He.Fa.glo "_law_point").ok K,
  fun K => (He.Fa.glo "_law_pair").ok K,
  fun K => (He.Fa.glo "_law_error").ok K,
  fun K => (He.Fa.glo "_law_refused").ok K,
  fun K => (He.Fa.glo "law").ok K,
  fun K => (He.Fa.int "MIN_CORNERS" 3).ok K,
  fun K => (He.Fa.glo "InvalidPolygon").ok K,
  fun K => oexFB K (He.ga K "InvalidPolygon") (He.ma K (He.ga K "InvalidPolygon") "__init__") ["position"],
  fun K => (He.Fa.glo "DegenerateCorner").ok K,
  fun K => oexFB K (He.ga K "DegenerateCorner") (He.ma K (He.ga K "DegenerateCorner") "__init__") ["position"],
  fun K => (He.Fa.glo "CrossingEdges").ok K,
  fun K => oexFB K (He.ga K "CrossingEdges") (He.ma K (He.ga K "CrossingEdges") "__init__") ["first", "second"],
  fun K => (He.Fa.glo "InvalidInteger").ok K,
  fun K => excFB K (He.ga K "InvalidInteger"),
  fun K => (He.Fa.glo "InvalidPoint").ok K,
  fun K => excFB K (He.ga K "InvalidPoint"),
  fun K => (He.Fa.glo "InvalidMap").ok K,
  fun K => excFB K (He.ga K "InvalidMap"),
  fun K => (He.Fa.exm "InvalidInteger" "InvalidInteger" true).ok K,
  fun K => (He.Fa.exm "InvalidPoint" "InvalidInteger" false).ok K,
  fun K => (He.Fa.exm "InvalidPoint" "InvalidPoint" true).ok K,
  fun K => (He.Fa.exm "InvalidMap" "InvalidInteger" false).ok K,
  fun K => (He.Fa.exm "InvalidMap" "InvalidPoint" false).ok K,
  fun K => (He.Fa.exm "InvalidMap" "InvalidMap" true).ok K,
  fun K => (He.Fa.exm "InvalidPolygon" "InvalidInteger" false).ok K,
  fun K => (He.Fa.exm "InvalidPolygon" "InvalidPoint" false).ok K,
  fun K => (He.Fa.exm "InvalidPolygon" "InvalidMap" false).ok K,
  fun K => (He.Fa.exm "InvalidPolygon" "InvalidPolygon" true).ok K,
  fun K => (He.Fa.glo "Polygon").ok K,
  fun K => insTyB K (He.ga K "Polygon"),
  fun K => mkB K (He.ga K "Polygon") (He.ma K (He.ga K "Polygon") "__init__"),
  fun K => (He.Fa.noat "Polygon" "kept").ok K,
  fun K => (He.Fa.noat "Polygon" "reflex").ok K,
  fun K => propB K (He.ga K "Polygon") (He.ga K "Polygon") "corners",
  fun K => creadB K (He.ga K "Polygon"),
  fun K => cvalB K (He.ga K "Polygon") "MAX_CORNERS" (.int 60),
  fun K => isiB K (.ref (He.ga K "Polygon")) (.ref (He.ga K "Polygon")) true,
  fun K => kitNoB K (He.ga K "Polygon"),
  fun K => PySem.W.notFirst K (He.ga K "Polygon") (.ref (He.ga K "Polygon")),
  fun K => kitNoB K (He.ga K "Polygon"),
  fun K => (He.Fa.glo "GridMap").ok K,
  fun K => insTyB K (He.ga K "GridMap"),
  fun K => mkB K (He.ga K "GridMap") (He.ma K (He.ga K "GridMap") "__init__"),
  fun K => (He.Fa.noat "GridMap" "six").ok K,
  fun K => propB K (He.ga K "GridMap") (He.ga K "GridMap") "numbers",
  fun K => creadB K (He.ga K "GridMap"),
  fun K => isiB K (.ref (He.ga K "GridMap")) (.ref (He.ga K "GridMap")) true,
  fun K => kitNoB K (He.ga K "GridMap"),
  fun K => PySem.W.notFirst K (He.ga K "GridMap") (.ref (He.ga K "GridMap")),
  fun K => kitNoB K (He.ga K "GridMap")]
abbrev R : PySem.W.OpenRow := PySem.W.OpenLaw.row PySem.Challenge.rw_latticeshapes_k80_values_formatted
def tbs : List He.Tab := []
def tfs : List (PySem.W.Frag → Addr) := [fun K => (He.ga K "_law_refused")]
abbrev hk : PySem.W.Hook := hookL 5 fcs fn gsn tbs tfs
def ob (s : PySem.W.SharedT) : AlL := obsLG 5 fcs fn gsn tbs tfs (HandSHeadRun.getT s)
theorem ob_eq (s : PySem.W.SharedT) : ob s = hk.obs s.abs := obsLG_eq (HandSHeadRun.getT_eq s)
def loose : List PySem.Str := (["_wall", "ShapeError", "InvalidInteger", "InvalidPoint", "InvalidMap", "InvalidPolygon", "DegenerateCorner", "CrossingEdges", "is_integer", "check_integer", "is_point", "check_point", "cross_of", "difference", "turn_of", "GridMap", "check_map", "MIN_CORNERS", "check_points", "triples", "check_turns", "is_between", "is_on", "have_common_point", "edges_of", "check_crossings", "area_of", "arranged", "checked_corners", "first_reflex"] : List PySem.Str) ++ (["Polygon", "check_polygon", "format_integer", "format_point", "format_points", "format_polygon", "format_map", "_law_pool", "_law_take", "_law_number", "_law_digits", "_law_point", "_law_pair", "_law_error", "_law_refused"] : List PySem.Str)
/-- the head's facts are looked at in this fragment -/
def KK (s : PySem.W.SharedT) : PySem.W.Frag := He.frT (HandSHeadRun.getT s) (asB (HandSHeadRun.getT s) 5)
def ww (b : Bool) (w : World) : World := { w with params := { w.params with followText := fun row => match decide (row = "special-get-raises") with | true => b | false => w.params.followText row } }
theorem ww_eq (w : World) : ww (w.params.followText "special-get-raises") w = w := by
  have e : (fun row => match decide (row = "special-get-raises") with | true => w.params.followText "special-get-raises" | false => w.params.followText row) = w.params.followText := by
    funext row
    by_cases h : row = "special-get-raises"
    · rw [decide_eq_true h, h]
    · rw [decide_eq_false h]
  unfold ww
  rw [e]
theorem split3 {S α β γ : Type} {o : Option S} {f : S → α} {g : S → β} {h : S → γ} {a : α} {b : β} {c : γ} (A : o.map (fun s => (f s, g s)) = some (a, b)) (C : o.map h = some c) : o.map (fun s => (f s, g s, h s)) = some (a, b, c) := by
  cases o with
  | none => cases A
  | some s =>
    have A' : (f s, g s) = (a, b) := Option.some.inj A
    have C' : h s = c := Option.some.inj C
    show some (f s, g s, h s) = _
    rw [C', show f s = a from congrArg Prod.fst A', show g s = b from congrArg Prod.snd A']
theorem splitC {S β : Type} {o : Option S} {x y z : S → Bool} {l : S → β} {L : β} (C1 : o.map x = some true) (C2 : o.map y = some true) (C3 : o.map (fun s => (z s, l s)) = some (true, L)) : o.map (fun s => ((x s && y s) && z s, l s)) = some (true, L) := by
  cases o with
  | none => cases C1
  | some s =>
    have c1 : x s = true := Option.some.inj C1
    have c2 : y s = true := Option.some.inj C2
    have c3 : (z s, l s) = (true, L) := Option.some.inj C3
    show some ((x s && y s) && z s, l s) = _
    rw [c1, c2, show z s = true from congrArg Prod.fst c3, show l s = L from congrArg Prod.snd c3]; rfl
theorem splitA {S α β : Type} {o : Option S} {f : S → α} {g : S → β} {a : α} {b : β} (A : o.map f = some a) (B : o.map g = some b) : o.map (fun s => (f s, g s)) = some (a, b) := by
  cases o with
  | none => cases A
  | some s => show some (f s, g s) = _; rw [show f s = a from Option.some.inj A, show g s = b from Option.some.inj B]
theorem splitW {S α β γ δ : Type} {o : Option S} {f : S → α} {g : S → β} {t : S → γ} {x y z : S → Bool} {l : S → δ} {a : α} {b : β} {T : γ} {L : δ} (A1 : o.map (fun s => (f s, g s, t s)) = some (a, b, T)) (C1 : o.map (fun s => (x s, y s)) = some (true, true)) (C3 : o.map (fun s => (z s, l s)) = some (true, L)) :
    o.map (fun s => (f s, g s, (((x s && z s, l s), t s), y s))) = some (a, b, (((true, L), T), true)) := by
  cases o with
  | none => cases C1
  | some s =>
    have a1 : (f s, g s, t s) = (a, b, T) := Option.some.inj A1
    have c1 : (x s, y s) = (true, true) := Option.some.inj C1
    have c3 : (z s, l s) = (true, L) := Option.some.inj C3
    show some (f s, g s, (((x s && z s, l s), t s), y s)) = _
    rw [show x s = true from congrArg Prod.fst c1, show y s = true from congrArg Prod.snd c1, show z s = true from congrArg Prod.fst c3, show l s = L from congrArg Prod.snd c3, show f s = a from congrArg Prod.fst a1, show t s = T from congrArg (fun p => p.2.2) a1, show g s = b from congrArg (fun p => p.2.1) a1]; rfl
theorem ob_parts (s : PySem.W.SharedT) : ob s = ((((fcs.all fun f => f (KK s)) && fn.all (fun d => d.ok (KK s)), (fn.map fun d => He5.fnA (KK s) (d.at_ (KK s))) ++ gsn.map fun d => fnB (KK s) (d.at_ (KK s))), tbs.map fun t => He.dicW (KK s) (t.1 (KK s))), tabsL (HandSHeadRun.getT s) tfs (KK s)) := rfl
open PySem PySem.W PySem.Calls PyProof.Rows HandSHeadRun in
theorem runA_o (w : World) (os : OsState) : (endF (HandSHeadRun.stepQ (HandSHeadRun.denQ HandSHeadRun.tabQ) R.prog w) 9000 R.prog w os).map (fun s => (looksF R.prog (boot_heap w.params) s.abs, HandSHeadRun.seenQ (PySem.W.view R.prog [53]) loose (importedModules R.prog.main.body) (fun s => xlAt (PySem.W.view R.prog [53]) [] s && recOk R.toRowW.records s) s.abs, tbs.map fun t => He.dicW (KK s) (t.1 (KK s)))) = some (true, openGood (PySem.W.view R.prog [53]) loose, tbs.map fun t => some (He.keysIn w.params t.2)) := by
  kernel_rfl
open PySem PySem.W PySem.Calls PyProof.Rows HandSHeadRun in
theorem runC1_o (w : World) (os : OsState) : (endF (HandSHeadRun.stepQ (HandSHeadRun.denQ HandSHeadRun.tabQ) R.prog w) 9000 R.prog w os).map (fun s => (fcs.all fun f => f (KK s), tabsL (HandSHeadRun.getT s) tfs (KK s))) = some (true, true) := by
  kernel_rfl
open PySem PySem.W PySem.Calls PyProof.Rows HandSHeadRun in
theorem runC3_o (w : World) (os : OsState) : (endF (HandSHeadRun.stepQ (HandSHeadRun.denQ HandSHeadRun.tabQ) R.prog w) 9000 R.prog w os).map (fun s => (fn.all (fun d => d.ok (KK s)), (fn.map fun d => He5.fnA (KK s) (d.at_ (KK s))) ++ gsn.map fun d => fnB (KK s) (d.at_ (KK s)))) = some (true, fn.map He5.DefA.val ++ gsn.map He5.DefA.val) := by
  kernel_rfl
open PySem PySem.W PySem.Calls PyProof.Rows HandSHeadRun in
theorem run_o (w : World) : HandSHeadRun.RunEq R (PySem.W.view R.prog [53]) hk ob 9000 loose w := by
  intro os
  have z := splitW (runA_o w os) (runC1_o w os) (runC3_o w os)
  rw [show ob = _ from funext ob_parts]
  exact z
theorem run (w : World) : HandSHeadRun.RunEq R (PySem.W.view R.prog [53]) hk ob 9000 loose w := run_o w
end G
section
open PySem PySem.W PySem.Calls PyProof.Rows
theorem G.early (call : WalkO (view (OpenLaw.row PySem.Challenge.rw_latticeshapes_k80_values_formatted).prog [53]) G.loose (XL (view (OpenLaw.row PySem.Challenge.rw_latticeshapes_k80_values_formatted).prog [53]) []) G.hk.says (OpenLaw.row PySem.Challenge.rw_latticeshapes_k80_values_formatted).toRowW (HandSHeadRun.topDef (OpenLaw.row PySem.Challenge.rw_latticeshapes_k80_values_formatted).prog 53) [] fun f vs => PySem.call f vs) : PySem.Challenge.rw_latticeshapes_k80_values_formatted.Holds := by
  w_on; o_law
  refine HandSHeadRun.head_any (r := OpenLaw.row PySem.Challenge.rw_latticeshapes_k80_values_formatted) (q := view (OpenLaw.row PySem.Challenge.rw_latticeshapes_k80_values_formatted).prog [53]) (H := G.hk) (ob := G.ob) (M := 9000) (loose := G.loose) (d := HandSHeadRun.topDef (OpenLaw.row PySem.Challenge.rw_latticeshapes_k80_values_formatted).prog 53) (kwd := []) G.ob_eq
    (by kernel_rfl) (fun s => by kernel_rfl) G.run (by kernel_rfl) (by kernel_rfl) (by kernel_rfl) (by rfl) (by first | assumption | decide +kernel) (by decide +kernel) ⟨rfl, rfl, rfl, rfl, rfl, by decide +kernel⟩ ?hw call
  case hw => w_witness2
end
/-! ### loops and comprehensions: readings by an invariant -/
namespace G
open PySem PySem.Spec PyProof.Rows L2
section
variable {K : PySem.W.Frag} {σ : L2.St} {H : Hp} {ta tb te : TE} {Q : VK} {D : Ends} {i j : Nat} {v x y : V} {b : Bool} {ts : TS} {g : TG} {tt : TT} {vs : List Nat}
/-- the turns of a for over the walk J -/
def Turns (J : It) (g : TG) (ts : TS) (D : Ends) (σ : L2.St) (H : Hp) : Prop := ∃ W : Nat → Nat → L2.St → Hp → Prop, (∃ m, W 0 m σ H) ∧ ∀ i m σ H, W i m σ H →
  (J.stop i H ∧ D.nx σ H) ∨ (J.go i H ∧ ∃ N : L2.St → Hp → Prop, (∀ σ' H', N σ' H' → ∃ m', m' < m ∧ W (i + 1) m' σ' H') ∧ ∀ x H', J.yld i H x H' → g x σ H' fun σ2 H2 => ts { D with nx := N, ct := N, bk := D.nx } σ2 H2)
def LoopR1 (ws : List V) (g : TG) (ts : TS) (D : Ends) (σ : L2.St) (H : Hp) : Prop := ∃ n : Int, ws = [.int n] ∧ -(2 ^ 62) ≤ n ∧ n < 2 ^ 62 ∧ Turns (Itr 0 n.toNat) g ts D σ H
def LoopR2 (ws : List V) (g : TG) (ts : TS) (D : Ends) (σ : L2.St) (H : Hp) : Prop := ∃ m n : Int, ws = [.int m, .int n] ∧ (-(2 ^ 62) ≤ m ∧ m < 2 ^ 62 ∧ -(2 ^ 62) ≤ n ∧ n < 2 ^ 62) ∧ Turns (Itr m (n - m).toNat) g ts D σ H
def LoopL (K : PySem.W.Frag) (w : V) (g : TG) (ts : TS) (D : Ends) (σ : L2.St) (H : Hp) : Prop := ∃ a, w = .ref a ∧ (∃ xs, SqL K H a xs) ∧ Turns (Itl K a) g ts D σ H
def LoopT (K : PySem.W.Frag) (w : V) (g : TG) (ts : TS) (D : Ends) (σ : L2.St) (H : Hp) : Prop := ∃ a, w = .ref a ∧ (∃ xs, SqT K H a xs) ∧ Turns (Itt K a) g ts D σ H
theorem r_forR1 {ta : TA} (q : ta σ H fun ws H1 => LoopR1 ws g ts D σ H1) : tFor (iRng1 ta) g ts D σ H := q
theorem r_forR2 {ta : TA} (q : ta σ H fun ws H1 => LoopR2 ws g ts D σ H1) : tFor (iRng2 ta) g ts D σ H := q
theorem r_forL (q : te σ H fun w H1 => LoopL K w g ts D σ H1) : tFor (iList K te) g ts D σ H := q
theorem r_forT (q : te σ H fun w H1 => LoopT K w g ts D σ H1) : tFor (iTup K te) g ts D σ H := q
theorem loopR1 {n : Int} (h1 : n < 2 ^ 62) (Pv : Nat → L2.St → Hp → Prop) (h0 : Pv 0 σ H) (hs : ∀ (i : Nat) σ' H', (i : Int) < n → Pv i σ' H' → ts { D with nx := Pv (i + 1), ct := Pv (i + 1), bk := D.nx } (σ'.set j (some (.int (i : Int)))) H')
    (hd : ∀ σ' H', Pv n.toNat σ' H' → D.nx σ' H') (h2 : -(2 ^ 62) ≤ n := by omega) : LoopR1 [.int n] (gName j) ts D σ H :=
  ⟨n, rfl, h2, h1, for_range Pv h0 (fun i σ' H' hi p => by
    have e0 : (0 : Int) + (i : Int) = (i : Int) := Int.zero_add _
    show ts _ (σ'.set j (some (.int ((0 : Int) + (i : Int))))) H'
    rw [e0]
    exact hs i σ' H' (by omega) p) hd⟩
theorem loopR2 {m n : Int} (h : -(2 ^ 62) ≤ m ∧ m < 2 ^ 62 ∧ -(2 ^ 62) ≤ n ∧ n < 2 ^ 62) (Pv : Nat → L2.St → Hp → Prop) (h0 : Pv 0 σ H) (hs : ∀ (i : Nat) σ' H', m + (i : Int) < n → Pv i σ' H' → ts { D with nx := Pv (i + 1), ct := Pv (i + 1), bk := D.nx } (σ'.set j (some (.int (m + (i : Int))))) H')
    (hd : ∀ σ' H', Pv (n - m).toNat σ' H' → D.nx σ' H') : LoopR2 [.int m, .int n] (gName j) ts D σ H :=
  ⟨m, n, rfl, h, for_range Pv h0 (fun i σ' H' hi p => hs i σ' H' (by omega) p) hd⟩
theorem loopL {a : Addr} {xs : List V} (Pv : Nat → L2.St → Hp → Prop) (h0 : Pv 0 σ H) (hl : ∀ i σ' H', i ≤ xs.length → Pv i σ' H' → SqL K H' a xs)
    (hs : ∀ i x σ' H', xs[i]? = some x → Pv i σ' H' → g x σ' H' fun σ2 H2 => ts { D with nx := Pv (i + 1), ct := Pv (i + 1), bk := D.nx } σ2 H2) (hd : ∀ σ' H', Pv xs.length σ' H' → D.nx σ' H') : LoopL K (.ref a) g ts D σ H :=
  ⟨a, rfl, ⟨xs, hl 0 σ H (Nat.zero_le _) h0⟩, for_list Pv h0 hl hs hd⟩
theorem loopT {a : Addr} {xs : List V} (Pv : Nat → L2.St → Hp → Prop) (h0 : Pv 0 σ H) (hl : ∀ i σ' H', i ≤ xs.length → Pv i σ' H' → SqT K H' a xs)
    (hs : ∀ i x σ' H', xs[i]? = some x → Pv i σ' H' → g x σ' H' fun σ2 H2 => ts { D with nx := Pv (i + 1), ct := Pv (i + 1), bk := D.nx } σ2 H2) (hd : ∀ σ' H', Pv xs.length σ' H' → D.nx σ' H') : LoopT K (.ref a) g ts D σ H :=
  ⟨a, rfl, ⟨xs, hl 0 σ H (Nat.zero_le _) h0⟩, for_tup Pv h0 hl hs hd⟩
/-- while: the test is read, then the turn or the end -/
def WNext (Pv : Nat → L2.St → Hp → Prop) (m : Nat) (ts : TS) (D : Ends) (σ : L2.St) (H : Hp) : Prop := ∃ N : L2.St → Hp → Prop, (∀ σ' H', N σ' H' → ∃ m', m' < m ∧ Pv m' σ' H') ∧ ts { D with nx := N, ct := N, bk := D.nx } σ H
theorem wnext {Pv : Nat → L2.St → Hp → Prop} {m : Nat} (q : ts { D with nx := fun σ2 H2 => ∃ m', m' < m ∧ Pv m' σ2 H2, ct := fun σ2 H2 => ∃ m', m' < m ∧ Pv m' σ2 H2, bk := D.nx } σ H) : WNext Pv m ts D σ H := ⟨_, fun _ _ z => z, q⟩
theorem r_while {c : TT} (Pv : Nat → L2.St → Hp → Prop) (m0 : Nat) (h0 : Pv m0 σ H)
    (hs : ∀ m σ' H', Pv m σ' H' → c σ' H' fun b H1 => if b = true then WNext Pv m ts D σ' H1 else D.nx σ' H1) : tWhile c ts D σ H := ⟨Pv, ⟨m0, h0⟩, hs⟩
/-! comprehensions -/
def Comp (J : It) (g : TG) (tt : TT) (te : TE) (vs : List Nat) (σ : L2.St) (H1 : Hp) (Q : VK) : Prop := ∀ D, H1 D = none → ∃ W : Nat → Nat → Hp → Prop, (∃ m, W 0 m (upd H1 D (.lst []))) ∧ ∀ i m H, W i m H →
  (J.stop i H ∧ Q (.ref D) H) ∨ (J.go i H ∧ ∃ Nx : Hp → Prop, (∀ H', Nx H' → ∃ m', m' < m ∧ W (i + 1) m' H') ∧ ∀ x H', J.yld i H x H' → g x (wipe σ vs) H' fun σ2 H2 => wipe σ2 vs = wipe σ vs ∧ tt σ2 H2 fun b H3 =>
    if b = true then te σ2 H3 fun y H4 => ∃ acc, H4 D = some (.lst acc) ∧ acc.length < sizeLine ∧ Nx (upd H4 D (.lst (acc ++ [y]))) else Nx H3)
def CompR1 (ws : List V) (g : TG) (tt : TT) (te : TE) (vs : List Nat) (σ : L2.St) (H : Hp) (Q : VK) : Prop := ∃ n : Int, ws = [.int n] ∧ -(2 ^ 62) ≤ n ∧ n < 2 ^ 62 ∧ Comp (Itr 0 n.toNat) g tt te vs σ H Q
def CompR2 (ws : List V) (g : TG) (tt : TT) (te : TE) (vs : List Nat) (σ : L2.St) (H : Hp) (Q : VK) : Prop := ∃ m n : Int, ws = [.int m, .int n] ∧ (-(2 ^ 62) ≤ m ∧ m < 2 ^ 62 ∧ -(2 ^ 62) ≤ n ∧ n < 2 ^ 62) ∧ Comp (Itr m (n - m).toNat) g tt te vs σ H Q
def CompL (K : PySem.W.Frag) (w : V) (g : TG) (tt : TT) (te : TE) (vs : List Nat) (σ : L2.St) (H : Hp) (Q : VK) : Prop := ∃ a, w = .ref a ∧ (∃ xs, SqL K H a xs) ∧ Comp (Itl K a) g tt te vs σ H Q
def CompT (K : PySem.W.Frag) (w : V) (g : TG) (tt : TT) (te : TE) (vs : List Nat) (σ : L2.St) (H : Hp) (Q : VK) : Prop := ∃ a, w = .ref a ∧ (∃ xs, SqT K H a xs) ∧ Comp (Itt K a) g tt te vs σ H Q
theorem r_lcR1 {ta : TA} (q : ta σ H fun ws H1 => CompR1 ws g tt te vs σ H1 Q) : tLc (iRng1 ta) g tt te vs σ H Q := q
theorem r_lcR2 {ta : TA} (q : ta σ H fun ws H1 => CompR2 ws g tt te vs σ H1 Q) : tLc (iRng2 ta) g tt te vs σ H Q := q
theorem r_lcL (q : ta σ H fun w H1 => CompL K w g tt te vs σ H1 Q) : tLc (iList K ta) g tt te vs σ H Q := q
theorem r_lcT (q : ta σ H fun w H1 => CompT K w g tt te vs σ H1 Q) : tLc (iTup K ta) g tt te vs σ H Q := q
/-- a turn's end: the item y goes onto the new list -/
def CNext (D : Addr) (P : Nat → List V → Hp → Prop) (i : Nat) : VK := fun y H4 => ∃ acc, H4 D = some (.lst acc) ∧ acc.length < sizeLine ∧ ∃ acc', P (i + 1) acc' (upd H4 D (.lst (acc ++ [y]))) ∧ (upd H4 D (.lst (acc ++ [y]))) D = some (.lst acc') ∧ acc'.length = i + 1
theorem cnext {D' : Addr} {P : Nat → List V → Hp → Prop} {acc : List V} (h : H D' = some (.lst acc)) (hl : acc.length = i) (hi : i ≤ 100000) (p : P (i + 1) (acc ++ [y]) (upd H D' (.lst (acc ++ [y])))) : CNext D' P i y H :=
  ⟨acc, h, Nat.lt_of_le_of_lt (show acc.length ≤ 100000 by omega) (by decide), acc ++ [y], p, upd_same, by rw [List.length_append, hl]; rfl⟩
/-- no test; P: the new list's address, the turn, what it holds, the heap -/
theorem compR1 {n : Int} (hn : n ≤ 100000) (P : Addr → Nat → List V → Hp → Prop) (h0 : ∀ D, H D = none → P D 0 [] (upd H D (.lst [])))
    (hs : ∀ D (i : Nat) acc H', H D = none → (i : Int) < n → P D i acc H' → H' D = some (.lst acc) → acc.length = i → te ((wipe σ vs).set j (some (.int (i : Int)))) H' (CNext D (P D) i))
    (hd : ∀ D acc H', H D = none → P D n.toNat acc H' → H' D = some (.lst acc) → acc.length = n.toNat → Q (.ref D) H')
    (hw : ∀ x, wipe ((wipe σ vs).set j (some x)) vs = wipe σ vs := by intro _; rfl) (h2 : -(2 ^ 62) ≤ n := by omega) : CompR1 [.int n] (gName j) tYes te vs σ H Q := by
  refine ⟨n, rfl, h2, by omega, fun D hD => lc_range (lo := 0) (n := n.toNat) (fun i H' => ∃ acc, P D i acc H' ∧ H' D = some (.lst acc) ∧ acc.length = i) ⟨[], h0 D hD, upd_same, rfl⟩ (fun i H' hi p => ?_) (fun H' p => ?_)⟩
  · obtain ⟨acc, p, hD', hl⟩ := p
    have e0 : (0 : Int) + (i : Int) = (i : Int) := Int.zero_add _
    show wipe ((wipe σ vs).set j (some (.int ((0 : Int) + (i : Int))))) vs = wipe σ vs ∧ tYes ((wipe σ vs).set j (some (.int ((0 : Int) + (i : Int))))) H' _
    rw [e0]
    exact ⟨hw _, hs D i acc H' hD (by omega) p hD' hl⟩
  · obtain ⟨acc, p, hD', hl⟩ := p
    exact hd D acc H' hD p hD' hl
theorem compR2 {m n : Int} (hm : -(2 ^ 62) ≤ m ∧ m < 2 ^ 62 ∧ -(2 ^ 62) ≤ n ∧ n < 2 ^ 62) (hn : n - m ≤ 100000) (P : Addr → Nat → List V → Hp → Prop) (h0 : ∀ D, H D = none → P D 0 [] (upd H D (.lst [])))
    (hs : ∀ D (i : Nat) acc H', H D = none → m + (i : Int) < n → P D i acc H' → H' D = some (.lst acc) → acc.length = i → te ((wipe σ vs).set j (some (.int (m + (i : Int))))) H' (CNext D (P D) i))
    (hd : ∀ D acc H', H D = none → P D (n - m).toNat acc H' → H' D = some (.lst acc) → acc.length = (n - m).toNat → Q (.ref D) H')
    (hw : ∀ x, wipe ((wipe σ vs).set j (some x)) vs = wipe σ vs := by intro _; rfl) : CompR2 [.int m, .int n] (gName j) tYes te vs σ H Q := by
  refine ⟨m, n, rfl, hm, fun D hD => lc_range (lo := m) (n := (n - m).toNat) (fun i H' => ∃ acc, P D i acc H' ∧ H' D = some (.lst acc) ∧ acc.length = i) ⟨[], h0 D hD, upd_same, rfl⟩ (fun i H' hi p => ?_) (fun H' p => ?_)⟩
  · obtain ⟨acc, p, hD', hl⟩ := p
    exact ⟨hw _, hs D i acc H' hD (by omega) p hD' hl⟩
  · obtain ⟨acc, p, hD', hl⟩ := p
    exact hd D acc H' hD p hD' hl
theorem compL {a : Addr} {xs : List V} (hx : xs.length ≤ 100000) (P : Addr → Nat → List V → Hp → Prop) (hsq : SqL K H a xs) (h0 : ∀ D, H D = none → P D 0 [] (upd H D (.lst []))) (hl : ∀ D i acc H', H D = none → P D i acc H' → SqL K H' a xs)
    (hs : ∀ D i x acc H', H D = none → xs[i]? = some x → i < xs.length → P D i acc H' → H' D = some (.lst acc) → acc.length = i → g x (wipe σ vs) H' fun σ2 H2 => wipe σ2 vs = wipe σ vs ∧ te σ2 H2 (CNext D (P D) i))
    (hd : ∀ D acc H', H D = none → P D xs.length acc H' → H' D = some (.lst acc) → acc.length = xs.length → Q (.ref D) H') : CompL K (.ref a) g tYes te vs σ H Q := by
  refine ⟨a, rfl, ⟨xs, hsq⟩, fun D hD => lc_list (K := K) (a := a) (xs := xs) (fun i H' => ∃ acc, P D i acc H' ∧ H' D = some (.lst acc) ∧ acc.length = i) ⟨[], h0 D hD, upd_same, rfl⟩ (fun i H' _ p => ?_) (fun i x H' hi p => ?_) (fun H' p => ?_)⟩
  · obtain ⟨acc, p, _⟩ := p
    exact hl D i acc H' hD p
  · obtain ⟨acc, p, hD', hlen⟩ := p
    exact hs D i x acc H' hD hi (List.getElem?_eq_some_iff.mp hi).1 p hD' hlen
  · obtain ⟨acc, p, hD', hlen⟩ := p
    exact hd D acc H' hD p hD' hlen
theorem compT {a : Addr} {xs : List V} (hx : xs.length ≤ 100000) (P : Addr → Nat → List V → Hp → Prop) (hsq : SqT K H a xs) (h0 : ∀ D, H D = none → P D 0 [] (upd H D (.lst []))) (hl : ∀ D i acc H', H D = none → P D i acc H' → SqT K H' a xs)
    (hs : ∀ D i x acc H', H D = none → xs[i]? = some x → i < xs.length → P D i acc H' → H' D = some (.lst acc) → acc.length = i → g x (wipe σ vs) H' fun σ2 H2 => wipe σ2 vs = wipe σ vs ∧ te σ2 H2 (CNext D (P D) i))
    (hd : ∀ D acc H', H D = none → P D xs.length acc H' → H' D = some (.lst acc) → acc.length = xs.length → Q (.ref D) H') : CompT K (.ref a) g tYes te vs σ H Q := by
  refine ⟨a, rfl, ⟨xs, hsq⟩, fun D hD => lc_tup (K := K) (a := a) (xs := xs) (fun i H' => ∃ acc, P D i acc H' ∧ H' D = some (.lst acc) ∧ acc.length = i) ⟨[], h0 D hD, upd_same, rfl⟩ (fun i H' _ p => ?_) (fun i x H' hi p => ?_) (fun H' p => ?_)⟩
  · obtain ⟨acc, p, _⟩ := p
    exact hl D i acc H' hD p
  · obtain ⟨acc, p, hD', hlen⟩ := p
    exact hs D i x acc H' hD hi (List.getElem?_eq_some_iff.mp hi).1 p hD' hlen
  · obtain ⟨acc, p, hD', hlen⟩ := p
    exact hd D acc H' hD p hD' hlen
end
section
variable {K : PySem.W.Frag} {σ : L2.St} {H : Hp} {te : TE} {Q : VK} {D : Ends} {v x y : V} {ts : TS} {g : TG} {a b : Addr} {xs ys : List V}
def LoopZ (K : PySem.W.Frag) (ws : List V) (g : TG) (ts : TS) (D : Ends) (σ : L2.St) (H : Hp) : Prop := ∃ a b xs ys, ws = [.ref a, .ref b] ∧ SqL K H a xs ∧ SqL K H b ys ∧ Turns (Itz K a b) g ts D σ H
theorem r_forZ {ta : TA} (q : ta σ H fun ws H1 => LoopZ K ws g ts D σ H1) : tFor (iZip K ta) g ts D σ H := q
theorem loopZ (hl : xs.length = ys.length) (Pv : Nat → L2.St → Hp → Prop) (h0 : Pv 0 σ H) (hq : ∀ i σ H, Pv i σ H → SqL K H a xs ∧ SqL K H b ys)
    (hs : ∀ (i : Nat) (x y : V) (T : Addr) (σ : L2.St) (H : Hp), xs[i]? = some x → ys[i]? = some y → Pv i σ H → H T = none → g (.ref T) σ (upd H T (.tup [x, y])) fun σ2 H2 => ts { D with nx := Pv (i + 1), ct := Pv (i + 1), bk := D.nx } σ2 H2) (hd : ∀ σ H, Pv xs.length σ H → D.nx σ H) :
    LoopZ K [.ref a, .ref b] g ts D σ H := ⟨a, b, xs, ys, rfl, (hq _ _ _ h0).1, (hq _ _ _ h0).2, RZ.for_zipL hl Pv h0 hq hs hd⟩
theorem r_sl {r : V → Option Int → Option Int → Hp → VK → Prop} {tl th : TO} (q : te σ H fun x H1 => tl σ H1 fun l H2 => th σ H2 fun u H3 => r x l u H3 Q) : tSl r te tl th σ H Q := q
theorem r_noPart {R : Option Int → Hp → Prop} (q : R none H) : tNoPart σ H R := q
theorem r_part {R : Option Int → Hp → Prop} (q : te σ H fun x H1 => ∃ i, x = .int i ∧ R (some i) H1) : tPart te σ H R := q
theorem r_partI {n : Int} {R : Int → Prop} (q : R n) : ∃ i, V.int n = .int i ∧ R i := ⟨n, rfl, q⟩
theorem r_slT {lo hi : Option Int} (h : SqT K H a xs) (hw : ¬ (HT.sIx xs.length 0 lo = 0 ∧ HT.sIx xs.length xs.length hi = xs.length)) (q : ∀ p, H p = none → Q (.ref p) (upd H p (.tup (cutV xs lo hi)))) : rSlA K (.ref a) lo hi H Q := ⟨a, xs, rfl, h, fun z => absurd z hw, fun _ => q⟩
/-- a part of a tuple, whatever object it is -/
theorem r_slA {lo hi : Option Int} (h : SqT K H a xs) (q : ∀ p H', Same H H' → SqT K H' p (cutV xs lo hi) → Q (.ref p) H') : rSlA K (.ref a) lo hi H Q := by
  refine ⟨a, xs, rfl, h, fun hw => q a H (fun _ _ z => z) ?_, fun _ p hp => q p _ (fun c o e => ?_) (SqT.of upd_same)⟩
  · have e : cutV xs lo hi = xs := by
      unfold cutV
      rw [hw.1, hw.2, List.drop_zero, Nat.sub_zero, List.take_length]
    rw [e]; exact h
  · rw [upd_ne (ne_of_none e hp)]; exact e
theorem r_catA (h : SqT K H a xs) (h' : SqT K H b ys) (hl : xs.length + ys.length ≤ 1000) (q : ∀ p H', Same H H' → SqT K H' p (xs ++ ys) → Q (.ref p) H') : rCatA K (.ref a) (.ref b) H Q := by
  refine ⟨a, b, xs, ys, rfl, rfl, h, h', Nat.le_trans hl (by decide), fun e => q b H (fun _ _ z => z) ?_, fun _ e => q a H (fun _ _ z => z) ?_, fun _ _ p hp => q p _ (fun c o e => ?_) (SqT.of upd_same)⟩
  · rw [e]; exact h'
  · rw [e, List.append_nil]; exact h
  · rw [upd_ne (ne_of_none e hp)]; exact e
end
end G
/-! ### rules with the written part K said -/
namespace G
open PySem PySem.Spec PyProof.Rows L2
section
variable {X : Cx} {K : PySem.W.Frag}
theorem kIxL (h : X.K = K := by rfl) : IxR X (rIxL K) := h ▸ ix_list
theorem kIxT (h : X.K = K := by rfl) : IxR X (rIxT K) := h ▸ ix_tup
theorem kLen (h : X.K = K := by rfl) : CallR X (.builtin "len") (rLn K) := h ▸ cLen
theorem kLstOf (h : X.K = K := by rfl) : CallR X (.type "list") (rLstOf K) := h ▸ cLstOf
theorem kTupOf (h : X.K = K := by rfl) : CallR X (.type "tuple") (rTupOf K) := h ▸ cTupOf
theorem kIsi (h : X.K = K := by rfl) : CallR X (.builtin "isinstance") (rIsi K) := h ▸ call_isi
theorem kIsiT (h : X.K = K := by rfl) : CallR X (.builtin "isinstance") (rIsiT K) := h ▸ call_isiT
theorem kSum (hc : X.calm = true) (h : X.K = K := by rfl) : CallR X (.builtin "sum") (rSum K) := h ▸ cr_sum hc
theorem kAll (hc : X.calm = true) (h : X.K = K := by rfl) : CallR X (.builtin "all") (rAll K) := h ▸ cr_all hc
theorem kAny (hc : X.calm = true) (h : X.K = K := by rfl) : CallR X (.builtin "any") (rAny K) := h ▸ cr_any hc
theorem kMaxL (hc : X.calm = true) (h : X.K = K := by rfl) : CallR X (.builtin "max") (rMax K) := h ▸ cr_max hc
theorem kMinL (hc : X.calm = true) (h : X.K = K := by rfl) : CallR X (.builtin "min") (rMin K) := h ▸ cr_min hc
theorem kEqD (hu : X.A.units + 64 < cLine) (h : X.K = K := by rfl) : OpR X (compareOp .Eq) (rEqD K) := h ▸ op_eqD hu
theorem kNeD (hu : X.A.units + 64 < cLine) (h : X.K = K := by rfl) : OpR X (compareOp .NotEq) (rNeD K) := h ▸ op_neD hu
theorem kIn (h : X.K = K := by rfl) : OpR X (compareOp .In) (rIn K false) := h ▸ op_in_seq
theorem kNotIn (h : X.K = K := by rfl) : OpR X (compareOp .NotIn) (rIn K true) := h ▸ op_notIn_seq
theorem kLtT (hu : X.A.units < cLine) (h : X.K = K := by rfl) : OpR X (compareOp .Lt) (rLtT K) := h ▸ op_ltT hu
theorem kLeT (hu : X.A.units < cLine) (h : X.K = K := by rfl) : OpR X (compareOp .LtE) (rLeT K) := h ▸ op_leT hu
theorem kCatT (h : X.K = K := by rfl) : OpR X (binaryOp .Add) (rCatA K) := h ▸ op_catA
theorem kSlT (h : X.K = K := by rfl) : SlR X (rSlA K) := h ▸ sl_tupA
theorem kSlL (h : X.K = K := by rfl) : SlR X (rSlL K) := h ▸ sl_list
theorem kTru {a : Expr} {ta : TE} (ha : PE X a ta) (h : X.K = K := by rfl) (he : ∀ whole, isTrue a X.env whole = (do let v ← whole; standAt a.pos; holding [v] (truthy v)) := by intro _; rfl) : PT X a (tTru K ta) := h ▸ pt_tru ha he
theorem kpiL {tg l : Expr} {tl : TE} (hl : PE X l tl) (h : X.K = K := by rfl) : PI X tg l (iList K tl) := h ▸ pi_list hl
theorem kpiT {tg l : Expr} {tl : TE} (hl : PE X l tl) (h : X.K = K := by rfl) : PI X tg l (iTup K tl) := h ▸ pi_tup hl
theorem kpiEnum {e : Expr} {ta : TA} {p pos tpos : Pos} {elts : List Expr} {kk : Nat} (hg : Gl X "enumerate") (hm : X.mg "enumerate" = none) (ha : PA X [e] ta) (h : X.K = K := by rfl) (hs : starEach [e] X.env = [(false, eval e X.env)] := by rfl) :
    PI X (.Tuple elts kk tpos) (.Call (.Name "enumerate" p) [e] [] pos) (iEnum K ta) := h ▸ pi_enum hg hm ha hs
theorem kpiZip {e e2 : Expr} {ta : TA} {p pos tpos : Pos} {elts : List Expr} {kk : Nat} (hg : Gl X "zip") (hm : X.mg "zip" = none) (ha : PA X [e, e2] ta) (h : X.K = K := by rfl)
    (hs : starEach [e, e2] X.env = (false, eval e X.env) :: starEach [e2] X.env := by rfl) (hpl : (backTo pos (starEach [e2] X.env)).any (·.1) = false := by rfl) :
    PI X (.Tuple elts kk tpos) (.Call (.Name "zip" p) [e, e2] [] pos) (iZip K ta) := h ▸ pi_zip hg hm ha hs hpl
theorem kpgTup {es : List Expr} {k : Nat} {t : TGs} {n : Nat} {pos : Pos} (hc : X.calm = true) (h : PGs X es t) (hK : X.K = K := by rfl)
    (hn : (assignEach es X.env).length = n := by rfl) (hst : (assignEach es X.env).findIdx? (·.1) = none := by rfl) : PG X (.Tuple es k pos) (gTup K n t) := hK ▸ pg_tup hc h hn hst
theorem kFld {o : Expr} {ta : TE} {f : Str} {p : Pos} (h : PE X (.Attribute o f p) (tFld X.K ta f)) (hK : X.K = K := by rfl) : PE X (.Attribute o f p) (tFld K ta f) := hK ▸ h
theorem kBM {e : Expr} {T : String} {r : V → List V → Hp → VK → Prop} {to : TE} {t : TA} (h : PE X e (tBM X.K T r to t)) (hK : X.K = K := by rfl) : PE X e (tBM K T r to t) := hK ▸ h
end
end G
namespace G
open PySem PySem.Spec PyProof.Rows L2
theorem kBM0 {X : Cx} {K : PySem.W.Frag} {e : Expr} {T : String} {r : V → List V → Hp → VK → Prop} {to : TE} (h : PE X e (tBM0 X.K T r to)) (hK : X.K = K := by rfl) : PE X e (tBM0 K T r to) := hK ▸ h
theorem kSFld {X : Cx} {K : PySem.W.Frag} {st : Stmt} {ta tv : TE} {f : Str} (h : PS X st (sFld X.K ta tv f)) (hK : X.K = K := by rfl) : PS X st (sFld K ta tv f) := hK ▸ h
end G
/-! ### data with a Lean type, at the layer's level -/
namespace G
open PySem PySem.Spec PyProof.Rows L2 PySem.W
/-- v holds x -/
def Hd {α : Type} [DecidableEq α] [Datum α] (K : PySem.W.Frag) (H : Hp) (v : V) (x : α) : Prop := Dp K H v (Datum.toD x)
def Hds {α : Type} [DecidableEq α] [Datum α] (K : PySem.W.Frag) (H : Hp) (vs : List V) (xs : List α) : Prop := DpAll K H vs (xs.map Datum.toD)
class Lay (α : Type) [DecidableEq α] [Datum α] : Prop where
  lay : ∀ a : α, (Datum.toD a).canLay0 = true
instance : Lay Int := ⟨fun _ => rfl⟩
instance : Lay Bool := ⟨fun _ => rfl⟩
instance : Lay Unit := ⟨fun _ => rfl⟩
section
variable {α β : Type} [DecidableEq α] [Datum α] [DecidableEq β] [Datum β]
theorem layAll [Lay α] : ∀ xs : List α, PyData.canLayAll0 (xs.map Datum.toD) = true
  | [] => rfl
  | x :: xs => by
    rw [List.map_cons, PyData.canLayAll0, Lay.lay x, layAll xs] <;> rfl
instance [Lay α] : Lay (List α) := ⟨fun xs => layAll xs⟩
instance [Lay α] : Lay (Tup α) := ⟨fun t => layAll t.items⟩
instance [Lay α] [Lay β] : Lay (α × β) := ⟨fun p => by
  show PyData.canLayAll0 [Datum.toD p.1, Datum.toD p.2] = true
  rw [PyData.canLayAll0, PyData.canLayAll0, Lay.lay p.1, Lay.lay p.2] <;> rfl⟩
theorem shapedD [Lay α] (x : α) (h : Datum.depth α ≤ 64) : SeqAt.shaped (Datum.toD x) = true := by
  unfold SeqAt.shaped
  rw [Lay.lay x, decide_eq_true (Nat.le_trans (Datum.depth_le x) h)] <;> rfl
end
section
variable {K : PySem.W.Frag} {H H' : Hp} {α β : Type} [DecidableEq α] [Datum α] [DecidableEq β] [Datum β]
mutual
theorem Dp.same (s : Same H H') : ∀ (d : PyData) (v : V), Dp K H v d → Dp K H' v d
  | .none, _, h => by cases h; exact .non
  | .bool b, _, h => by cases h; exact .bl b
  | .int i, _, h => by cases h; exact .int i
  | .str x, _, h => by cases h; exact .str x
  | .list ds, _, h => by
    cases h with
    | lst hs ha => exact .lst (s.seq hs) (DpAll.same s ds _ ha)
  | .tuple ds, _, h => by
    cases h with
    | tup hs ha =>
      refine .tup ?_ (DpAll.same s ds _ ha)
      rcases hs with (hs | ⟨o, hs⟩) | hs
      · exact .inl (.inl (s _ _ hs))
      · exact .inl (.inr ⟨o, s _ _ hs⟩)
      · exact .inr hs
  | .dict _, _, h => by cases h
theorem DpAll.same (s : Same H H') : ∀ (ds : List PyData) (vs : List V), DpAll K H vs ds → DpAll K H' vs ds
  | [], _, h => by cases h; exact .nil
  | d :: ds, _, h => by
    cases h with
    | cons h1 h2 => exact .cons (Dp.same s d _ h1) (DpAll.same s ds _ h2)
end
theorem Hd.same {v : V} {x : α} (h : Hd K H v x) (s : Same H H') : Hd K H' v x := Dp.same s _ _ h
theorem Hds.same {vs : List V} {xs : List α} (h : Hds K H vs xs) (s : Same H H') : Hds K H' vs xs := DpAll.same s _ _ h
/-- no tuple stands at l -/
def NotT (H : Hp) (l : Addr) : Prop := (∀ xs, H l ≠ some (.tup xs)) ∧ ∀ o xs, H l ≠ some (.frz o (.tup xs))
theorem notT_lst {l : Addr} (h : ∃ xs, H l = some (.lst xs)) : NotT H l := by
  obtain ⟨xs, h⟩ := h
  exact ⟨fun _ z => (by rw [h] at z; cases z), fun _ _ z => (by rw [h] at z; cases z)⟩
theorem notT_ins {l C dx : Addr} {fs : List (Str × V)} (h : H l = some (.ins C dx fs)) : NotT H l := ⟨fun _ z => (by rw [h] at z; cases z), fun _ _ z => (by rw [h] at z; cases z)⟩
theorem notT_none {l : Addr} (h : H l = none) : NotT H l := ⟨fun _ z => (by rw [h] at z; cases z), fun _ _ z => (by rw [h] at z; cases z)⟩
/-- no list within -/
class Imm (α : Type) [DecidableEq α] [Datum α] : Prop where
  imm : ∀ {K : PySem.W.Frag} {l : Addr} {H H' : Hp} {v : V} (a : α), Kp l H H' → NotT H l → Hd K H v a → Hd K H' v a
theorem sqT_kpT {l a : Addr} {xs : List V} (k : Kp l H H') (hl : NotT H l) (h : SqT K H a xs) : SqT K H' a xs := by
  rcases h with (h | ⟨o, h⟩) | h
  · exact .inl (.inl (k _ _ (fun z => by subst z; exact hl.1 _ h) h))
  · exact .inl (.inr ⟨o, k _ _ (fun z => by subst z; exact hl.2 _ _ h) h⟩)
  · exact .inr h
theorem sqT_kp {l a : Addr} {xs : List V} (k : Kp l H H') (hl : ∃ xs, H l = some (.lst xs)) (h : SqT K H a xs) : SqT K H' a xs := sqT_kpT k (notT_lst hl) h
instance : Imm Int := ⟨fun i _ _ h => by cases h; exact .int i⟩
instance : Imm Bool := ⟨fun i _ _ h => by cases h; exact .bl i⟩
instance : Imm Unit := ⟨fun _ _ _ h => by cases h; exact .non⟩
instance : Imm Str := ⟨fun i _ _ h => by cases h; exact .str i⟩
theorem immsT [Imm α] {l : Addr} (k : Kp l H H') (hl : NotT H l) : ∀ {xs : List α} {vs : List V}, Hds K H vs xs → Hds K H' vs xs
  | [], _, h => by cases h; exact .nil
  | x :: xs, _, h => by
    cases h with
    | cons h1 h2 => exact .cons (Imm.imm x k hl h1) (immsT (xs := xs) k hl h2)
theorem imms [Imm α] {l : Addr} (k : Kp l H H') (hl : ∃ xs, H l = some (.lst xs)) {xs : List α} {vs : List V} (h : Hds K H vs xs) : Hds K H' vs xs := immsT k (notT_lst hl) h
instance [Imm α] : Imm (Tup α) := ⟨fun t k hl h => by
  cases h with
  | tup hs ha => exact .tup (sqT_kpT k hl hs) (immsT (xs := t.items) k hl ha)⟩
instance [Imm α] [Imm β] : Imm (α × β) := ⟨fun p k hl h => by
  cases h with
  | tup hs ha =>
    cases ha with
    | cons h1 h2 =>
      cases h2 with
      | cons h2 h3 =>
        cases h3
        exact .tup (sqT_kpT k hl hs) (.cons (Imm.imm p.1 k hl h1) (.cons (Imm.imm p.2 k hl h2) .nil))⟩
theorem sqT_dr {l a : Addr} {xs : List V} (h : SqT K H a xs) (k : Kp l H H') (d : DrAt H l) : SqT K H' a xs := by
  obtain ⟨x, y, e, _⟩ := d
  exact sqT_kp k ⟨_, e⟩ h
theorem Hd.kp [Imm α] {l : Addr} {v : V} {x : α} (h : Hd K H v x) (k : Kp l H H') (d : DrAt H l) : Hd K H' v x := by
  obtain ⟨a, b, e, _⟩ := d
  exact Imm.imm x k (notT_lst ⟨_, e⟩) h
theorem Hds.kp [Imm α] {l : Addr} {vs : List V} {xs : List α} (h : Hds K H vs xs) (k : Kp l H H') (d : DrAt H l) : Hds K H' vs xs := by
  obtain ⟨a, b, e, _⟩ := d
  exact imms k ⟨_, e⟩ h
/-! how it is known, what it gives -/
theorem hd_int {i : Int} : Hd K H (.int i) i := .int i
theorem hd_bool {b : Bool} : Hd K H (.bl b) b := .bl b
theorem hd_list {a : Addr} {vs : List V} {xs : List α} (h : SqL K H a vs) (r : Hds K H vs xs) : Hd K H (.ref a) xs := .lst h r
theorem hd_tup {a : Addr} {vs : List V} {xs : List α} (h : SqT K H a vs) (r : Hds K H vs xs) : Hd K H (.ref a) (⟨xs⟩ : Tup α) := .tup h r
theorem hd_pair {a : Addr} {v w : V} {x : α} {y : β} (h : SqT K H a [v, w]) (r : Hd K H v x) (q : Hd K H w y) : Hd K H (.ref a) (x, y) := .tup h (.cons r (.cons q .nil))
theorem hds_nil : Hds K H [] ([] : List α) := .nil
theorem hds_cons {v : V} {vs : List V} {x : α} {xs : List α} (h : Hd K H v x) (r : Hds K H vs xs) : Hds K H (v :: vs) (x :: xs) := .cons h r
theorem hds_ints : ∀ ns : List Int, Hds K H (ns.map V.int) ns
  | [] => .nil
  | n :: ns => .cons (.int n) (hds_ints ns)
theorem Hd.int_eq {v : V} {i : Int} (h : Hd K H v i) : v = .int i := by cases h; rfl
theorem Hd.bool_eq {v : V} {b : Bool} (h : Hd K H v b) : v = .bl b := by cases h; rfl
theorem Hd.list_of {v : V} {xs : List α} (h : Hd K H v xs) : ∃ a vs, v = .ref a ∧ SqL K H a vs ∧ Hds K H vs xs := by
  cases h with
  | lst hs ha => exact ⟨_, _, rfl, hs, ha⟩
theorem Hd.tup_of {v : V} {t : Tup α} (h : Hd K H v t) : ∃ a vs, v = .ref a ∧ SqT K H a vs ∧ Hds K H vs t.items := by
  cases h with
  | tup hs ha => exact ⟨_, _, rfl, hs, ha⟩
theorem Hd.pair_of {v : V} {p : α × β} (h : Hd K H v p) : ∃ a x y, v = .ref a ∧ SqT K H a [x, y] ∧ Hd K H x p.1 ∧ Hd K H y p.2 := by
  cases h with
  | tup hs ha =>
    cases ha with
    | cons h1 h2 =>
      cases h2 with
      | cons h2 h3 =>
        cases h3
        exact ⟨_, _, _, rfl, hs, h1, h2⟩
theorem Hd.pt_of {v : V} {p : Int × Int} (h : Hd K H v p) : ∃ a, v = .ref a ∧ SqT K H a [.int p.1, .int p.2] := by
  obtain ⟨a, x, y, rfl, hs, h1, h2⟩ := h.pair_of
  rw [h1.int_eq, h2.int_eq] at hs
  exact ⟨a, rfl, hs⟩
theorem Hds.ints_eq : ∀ {vs : List V} {ns : List Int}, Hds K H vs ns → vs = ns.map V.int
  | _, [], h => by cases h; rfl
  | _, n :: ns, h => by
    cases h with
    | cons h1 h2 =>
      have e1 := Hd.int_eq (i := n) h1
      have e2 := Hds.ints_eq (ns := ns) h2
      rw [e1, e2]; rfl
theorem Hds.bools_eq : ∀ {vs : List V} {ns : List Bool}, Hds K H vs ns → vs = ns.map V.bl
  | _, [], h => by cases h; rfl
  | _, n :: ns, h => by
    cases h with
    | cons h1 h2 =>
      have e1 := Hd.bool_eq (b := n) h1
      have e2 := Hds.bools_eq (ns := ns) h2
      rw [e1, e2]; rfl
theorem hds_bools : ∀ ns : List Bool, Hds K H (ns.map V.bl) ns
  | [] => .nil
  | n :: ns => .cons (.bl n) (hds_bools ns)
theorem Hds.length : ∀ {vs : List V} {xs : List α}, Hds K H vs xs → vs.length = xs.length
  | _, [], h => by cases h; rfl
  | _, _ :: xs, h => by
    cases h with
    | cons h1 h2 => exact congrArg (· + 1) (Hds.length (xs := xs) h2)
theorem Hds.at : ∀ {vs : List V} {xs : List α} {i : Nat} {x : α}, Hds K H vs xs → xs[i]? = some x → ∃ v, vs[i]? = some v ∧ Hd K H v x
  | _, [], _, _, _, e => by simp at e
  | _, y :: xs, i, x, h, e => by
    cases h with
    | cons h1 h2 =>
      cases i with
      | zero =>
        have e' : y = x := by simpa using e
        subst e'
        exact ⟨_, rfl, h1⟩
      | succ i =>
        obtain ⟨v, e1, e2⟩ := Hds.at (xs := xs) (i := i) (x := x) h2 (by simpa using e)
        exact ⟨v, by simpa using e1, e2⟩
theorem Hds.at' {vs : List V} {xs : List α} {i : Nat} {v : V} (h : Hds K H vs xs) (e : vs[i]? = some v) : ∃ x, xs[i]? = some x ∧ Hd K H v x := by
  have hl := h.length
  have hi : i < vs.length := (List.getElem?_eq_some_iff.mp e).1
  obtain ⟨w, e1, e2⟩ := h.at (i := i) (x := xs[i]'(by omega)) (by simp)
  rw [e] at e1
  cases e1
  exact ⟨_, by simp, e2⟩
theorem Hds.append : ∀ {vs ws : List V} {xs ys : List α}, Hds K H vs xs → Hds K H ws ys → Hds K H (vs ++ ws) (xs ++ ys)
  | _, _, [], _, h, q => by cases h; exact q
  | _, _, x :: xs, _, h, q => by
    cases h with
    | cons h1 h2 => exact .cons h1 (Hds.append (xs := xs) h2 q)
theorem Hds.take : ∀ {vs : List V} {xs : List α} (n : Nat), Hds K H vs xs → Hds K H (vs.take n) (xs.take n)
  | _, _, 0, _ => .nil
  | _, [], n + 1, h => by cases h; exact .nil
  | _, x :: xs, n + 1, h => by
    cases h with
    | cons h1 h2 => exact .cons h1 (Hds.take (xs := xs) n h2)
theorem Hds.drop : ∀ {vs : List V} {xs : List α} (n : Nat), Hds K H vs xs → Hds K H (vs.drop n) (xs.drop n)
  | _, _, 0, h => h
  | _, [], n + 1, h => by cases h; exact .nil
  | _, x :: xs, n + 1, h => by
    cases h with
    | cons h1 h2 => exact Hds.drop (xs := xs) n h2
theorem Hds.reverse : ∀ {vs : List V} {xs : List α}, Hds K H vs xs → Hds K H vs.reverse xs.reverse
  | _, [], h => by cases h; exact .nil
  | _, x :: xs, h => by
    cases h with
    | cons h1 h2 =>
      rw [List.reverse_cons, List.reverse_cons]
      exact (Hds.reverse (xs := xs) h2).append (.cons h1 .nil)
/-- an item of a list at a place within it -/
theorem r_pickI {Q : VK} {p : Addr} {n : Int} (ns : List Int) (h : SqL K H p (ns.map V.int)) (h0 : 0 ≤ n) (h1 : n < ns.length) (q : ∀ z, z ∈ ns → Q (.int z) H) : rIxL K (.ref p) (.int n) H Q := by
  obtain ⟨j, rfl⟩ : ∃ j : Nat, n = (j : Int) := ⟨n.toNat, by omega⟩
  have hj : j < ns.length := by omega
  exact r_ixL h (atI_nat (by rw [List.getElem?_map, List.getElem?_eq_getElem hj]; rfl)) (q _ (List.getElem_mem hj))
theorem r_pick {Q : VK} {p : Addr} {n : Int} {xs : List V} (h : SqL K H p xs) (h0 : 0 ≤ n) (h1 : n < xs.length) (q : ∀ v, v ∈ xs → Q v H) : rIxL K (.ref p) (.int n) H Q := by
  obtain ⟨j, rfl⟩ : ∃ j : Nat, n = (j : Int) := ⟨n.toNat, by omega⟩
  have hj : j < xs.length := by omega
  exact r_ixL h (atI_nat (List.getElem?_eq_getElem hj)) (q _ (List.getElem_mem hj))
/-- a point, or not -/
inductive PtB (K : PySem.W.Frag) (H : Hp) : V → Bool → Prop where
  | yes {v : V} (p : Int × Int) : Hd K H v p → PtB K H v true
  | kind {v : V} {n : String} : Kd K H v n → n ≠ "tuple" → PtB K H v false
  | len {a : Addr} {xs : List V} : SqT K H a xs → xs.length ≠ 2 → PtB K H (.ref a) false
  | item {a : Addr} {x y : V} {m n : String} : SqT K H a [x, y] → Kd K H x m → Kd K H y n → (isI x && isI y) = false → PtB K H (.ref a) false
theorem PtB.same {v : V} {b : Bool} (h : PtB K H v b) (s : Same H H') : PtB K H' v b := by
  cases h with
  | yes p h => exact .yes p (h.same s)
  | kind h e => exact .kind (h.same s) e
  | len h e => exact .len (sqT_same s h) e
  | item h h1 h2 e => exact .item (sqT_same s h) (h1.same s) (h2.same s) e
/-- == of data -/
theorem r_eqH [Lay α] {x y : V} {a b : α} {Q : VK} (hx : Hd K H x a) (hy : Hd K H y b) (q : Q (.bl (decide (a = b))) H) (h : Datum.depth α ≤ 64 := by decide) : rEqD K x y H Q :=
  r_eqD hx hy (shapedD a h) (shapedD b h) (by rw [Datum.eqv]; exact q)
theorem r_neH [Lay α] {x y : V} {a b : α} {Q : VK} (hx : Hd K H x a) (hy : Hd K H y b) (q : Q (.bl (!decide (a = b))) H) (h : Datum.depth α ≤ 64 := by decide) : rNeD K x y H Q :=
  r_neD hx hy (shapedD a h) (shapedD b h) (by rw [Datum.eqv]; exact q)
end
def crs (p q : Int × Int) : Int := p.1 * q.2 - p.2 * q.1
def cont (p : Int × Int) : Int := ((Int.gcd p.1 p.2 : Nat) : Int)
/-- both coordinates have fewer than n bits -/
def PBd (n : Nat) (p : Int × Int) : Prop := Bd n p.1 ∧ Bd n p.2
section
variable {K : PySem.W.Frag} {H H' : Hp} {α : Type} [DecidableEq α] [PySem.W.Datum α] [PySem.W.SomeDatum α]
instance [Lay α] : Lay (Option α) := ⟨fun o => by
  cases o with
  | none => rfl
  | some a => exact Lay.lay a⟩
instance [Imm α] : Imm (Option α) := ⟨fun o k hl h => by
  cases o with
  | none => cases h; exact .non
  | some a => exact Imm.imm a k hl h⟩
/-- None or an integer -/
def optI : Option Int → V
  | none => .non
  | some i => .int i
theorem hd_optI (o : Option Int) : Hd K H (optI o) o := by
  cases o with
  | none => exact .non
  | some i => exact .int i
theorem hds_optI : ∀ os : List (Option Int), Hds K H (os.map optI) os
  | [] => .nil
  | o :: os => .cons (hd_optI o) (hds_optI os)
end
end G
/-! ### code proved at the layer leaves sleeping generators alone -/
namespace G
open PySem L2 PyProof.Rows
open Sem (wp)
/-- a continuation that cannot go on -/
def iceK : Resume → Sem PySem.Fin := fun _ => .unsupported "ice"
/-- a sleeper that cannot be woken; it looks alike -/
def ice : GenState → GenState
  | .suspended _ l c p fs cl => .suspended iceK l c p fs cl
  | x => x
def slp : GenState → Bool
  | .suspended .. => true
  | _ => false
def thawAt (Y : Array GenState) (i : Nat) (x : GenState) : GenState := match Y[i]? with
  | some y => if slp y = true then y else x
  | none => x
def thaw (Y : Array GenState) (s : Shared) : Shared := { s with gens := s.gens.mapIdx (thawAt Y) }
def iced (s : Shared) : Shared := { s with gens := s.gens.map ice }
structure Icy (Y : Array GenState) (s : Shared) : Prop where
  size : Y.size ≤ s.gens.size
  held : ∀ (i : Nat) y, Y[i]? = some y → slp y = true → s.gens[i]? = some (ice y)
  clean : ∀ (i : Nat) k l c p fs cl, s.gens[i]? = some (.suspended k l c p fs cl) → (∃ y, Y[i]? = some y ∧ slp y = true) ∨ splitAtGen fs = none
theorem seen_ice (y : GenState) : (ice y).seen = y.seen := by cases y <;> rfl
theorem slp_ice (y : GenState) : slp (ice y) = slp y := by cases y <;> rfl
theorem bare_ice (y : GenState) : (ice y).bare = y.bare := by cases y <;> rfl
theorem thaw_get {Y : Array GenState} {s : Shared} {i : Nat} : (thaw Y s).gens[i]? = (s.gens[i]?).map (thawAt Y i) := by
  show (s.gens.mapIdx (thawAt Y))[i]? = _
  rw [Array.getElem?_mapIdx]
theorem thaw_size {Y : Array GenState} {s : Shared} : (thaw Y s).gens.size = s.gens.size := by
  show (s.gens.mapIdx (thawAt Y)).size = _
  rw [Array.size_mapIdx]
def NotHeld (Y : Array GenState) (g : Nat) : Prop := ∀ y, Y[g]? = some y → slp y = false
theorem NotHeld.at {Y : Array GenState} {g : Nat} (h : NotHeld Y g) (x : GenState) : thawAt Y g x = x := by
  unfold thawAt
  cases e : Y[g]? with
  | none => rfl
  | some y => simp [h y e]
theorem Icy.awake {Y : Array GenState} {s : Shared} {g : Nat} {x : GenState} (I : Icy Y s) (h : s.gens[g]? = some x) (hx : slp x = false) : NotHeld Y g := fun y hy => by
  cases e : slp y with
  | false => rfl
  | true =>
    have z := I.held g y hy e
    rw [h] at z
    cases z
    rw [slp_ice, e] at hx
    cases hx
theorem thaw_set {Y : Array GenState} {s : Shared} {g : Nat} {x : GenState} (h : NotHeld Y g) : thaw Y (s.setGen g x) = (thaw Y s).setGen g x := by
  have e : (s.gens.setIfInBounds g x).mapIdx (thawAt Y) = (s.gens.mapIdx (thawAt Y)).setIfInBounds g x := by
    refine Array.ext (by simp) fun i h1 h2 => ?_
    have q1 : i < s.gens.size := by simpa using h1
    have e1 : ((s.gens.setIfInBounds g x).mapIdx (thawAt Y))[i]? = ((s.gens.mapIdx (thawAt Y)).setIfInBounds g x)[i]? := by
      rw [Array.getElem?_mapIdx]
      by_cases z : g = i
      · subst z
        rw [Array.getElem?_setIfInBounds, Array.getElem?_setIfInBounds]
        simp [q1, h.at]
      · rw [Array.getElem?_setIfInBounds_ne z, Array.getElem?_setIfInBounds_ne z, Array.getElem?_mapIdx]
    rw [Array.getElem?_eq_getElem h1, Array.getElem?_eq_getElem h2] at e1
    exact Option.some.inj e1
  show ({ s with gens := (s.gens.setIfInBounds g x).mapIdx (thawAt Y) } : Shared) = { s with gens := (s.gens.mapIdx (thawAt Y)).setIfInBounds g x }
  rw [e]
theorem Icy.set {Y : Array GenState} {s : Shared} {g : Nat} {x : GenState} (I : Icy Y s) (h : NotHeld Y g) (hx : ∀ k l c p fs cl, x = .suspended k l c p fs cl → splitAtGen fs = none) : Icy Y (s.setGen g x) where
  size := by
    show Y.size ≤ (s.gens.setIfInBounds g x).size
    rw [Array.size_setIfInBounds]; exact I.size
  held := fun i y hy hs => by
    have ne : g ≠ i := fun z => by
      subst z
      rw [h y hy] at hs
      cases hs
    show (s.gens.setIfInBounds g x)[i]? = _
    rw [Array.getElem?_setIfInBounds_ne ne]
    exact I.held i y hy hs
  clean := fun i k l c p fs cl hi => by
    have hi : (s.gens.setIfInBounds g x)[i]? = some (.suspended k l c p fs cl) := hi
    by_cases ne : g = i
    · subst ne
      rw [Array.getElem?_setIfInBounds] at hi
      split at hi
      · split at hi
        · exact .inr (hx k l c p fs cl (Option.some.inj hi))
        · cases hi
      · exact I.clean g k l c p fs cl hi
    · rw [Array.getElem?_setIfInBounds_ne ne] at hi
      exact I.clean i k l c p fs cl hi
theorem Icy.gens {Y : Array GenState} {s s' : Shared} (I : Icy Y s) (e : s'.gens = s.gens) : Icy Y s' := ⟨by rw [e]; exact I.size, by rw [e]; exact I.held, by rw [e]; exact I.clean⟩
theorem Icy.push {Y : Array GenState} {s : Shared} {c : Code} (I : Icy Y s) : Icy Y { s with gens := s.gens.push (.fresh c) } where
  size := by
    show Y.size ≤ (s.gens.push _).size
    rw [Array.size_push]; have := I.size; omega
  held := fun i y hy hs => by
    have z := I.held i y hy hs
    show (s.gens.push _)[i]? = _
    obtain ⟨hi, z⟩ := Array.getElem?_eq_some_iff.mp z
    rw [Array.getElem?_push_lt hi, z]
  clean := fun i k l c' p fs cl hi => by
    have hi : (s.gens.push (.fresh c))[i]? = some (.suspended k l c' p fs cl) := hi
    rw [Array.getElem?_push] at hi
    split at hi
    · cases hi
    · exact I.clean i k l c' p fs cl hi
theorem thaw_push {Y : Array GenState} {s : Shared} {c : Code} (I : Icy Y s) : thaw Y { s with gens := s.gens.push (.fresh c) } = { thaw Y s with gens := (thaw Y s).gens.push (.fresh c) } := by
  have n : NotHeld Y s.gens.size := fun y hy => by
    have h := (Array.getElem?_eq_some_iff.mp hy).1
    have := I.size
    omega
  have e : (s.gens.push (.fresh c)).mapIdx (thawAt Y) = (s.gens.mapIdx (thawAt Y)).push (.fresh c) := by
    rw [Array.mapIdx_push, n.at]
  show ({ s with gens := (s.gens.push (.fresh c)).mapIdx (thawAt Y) } : Shared) = { s with gens := (s.gens.mapIdx (thawAt Y)).push (.fresh c) }
  rw [e]
theorem split_append : ∀ {fs gs : List Frame}, splitAtGen fs = none → splitAtGen gs = none → splitAtGen (fs ++ gs) = none
  | [], _, _, h => h
  | .gen .. :: _, _, h, _ => by cases h
  | .ret .. :: fs, gs, h, k => by
    have h : (splitAtGen fs).map _ = none := h
    have h := Option.map_eq_none_iff.mp h
    show (splitAtGen (fs ++ gs)).map _ = none
    rw [split_append h k]; rfl
theorem split_tail {k h g l c p kp} {fs : List Frame} (e : splitAtGen (.ret k h g l c p kp :: fs) = none) : splitAtGen fs = none := Option.map_eq_none_iff.mp (show (splitAtGen fs).map _ = none from e)
theorem no_runs {M : Model} {Γ : Ctx} {p : Pos} {w : String} {fs : List Frame} {s s' : Shared} {e : End} (h : Runs M Γ p (.unsupported w) fs s e s') : False := by
  generalize ht : (Sem.unsupported w : Sem PySem.Fin) = t at h
  induction h <;> first | (cases ht; done) | (rename_i ih; exact ih ht) | (rename_i ih _; exact ih ht) | skip
/-- what comes out of a run: frames of its own -/
def SuspOk : End → Prop
  | .ret _ => True
  | .susp _ _ _ _ _ _ fs => splitAtGen fs = none
theorem SuspOk.gs {e : End} (h : SuspOk e) : ∀ k l c p fs cl, e.genState = .suspended k l c p fs cl → splitAtGen fs = none := fun k l c p fs cl q => by
  cases e with
  | ret r => cases q
  | susp v g l' k' c' p' fs' =>
    cases q
    exact h
theorem thaw_seen {Y : Array GenState} {s : Shared} {g : Nat} {st : GenState} (I : Icy Y s) (h : s.gens[g]? = some st) : ∃ st', (thaw Y s).gens[g]? = some st' ∧ st'.seen = st.seen := by
  refine ⟨thawAt Y g st, by rw [thaw_get, h]; rfl, ?_⟩
  unfold thawAt
  cases e : Y[g]? with
  | none => rfl
  | some y =>
    show (if slp y = true then y else st).seen = st.seen
    by_cases hs : slp y = true
    · have z := I.held g y e hs
      rw [h] at z
      cases z
      rw [if_pos hs, seen_ice]
    · rw [if_neg hs]
theorem thaw_same {Y : Array GenState} {s : Shared} {g : Nat} {st : GenState} (n : NotHeld Y g) (h : s.gens[g]? = some st) : (thaw Y s).gens[g]? = some st := by
  rw [thaw_get, h]
  show some (thawAt Y g st) = _
  rw [n.at]
/-- the frozen run is the run -/
theorem lock {M : Model} {Y : Array GenState} {Γ : Ctx} {p : Pos} {t : Sem PySem.Fin} {fs : List Frame} {s s' : Shared} {e : End} (h : Runs M Γ p t fs s e s') : Icy Y s → splitAtGen fs = none →
    Runs M Γ p t fs (thaw Y s) e (thaw Y s') ∧ Icy Y s' ∧ SuspOk e := by
  induction h with
  | done => intro I _; exact ⟨.done, I, trivial⟩
  | raise => intro I _; exact ⟨.raise, I, trivial⟩
  | again hq _ ih => intro I _; obtain ⟨a, b, c⟩ := ih I rfl; exact ⟨.again hq a, b, c⟩
  | rule _ ih => intro I _; obtain ⟨a, b, c⟩ := ih I rfl; exact ⟨.rule a, b, c⟩
  | «at» _ ih => intro I _; obtain ⟨a, b, c⟩ := ih I rfl; exact ⟨.at a, b, c⟩
  | load ho _ ih => intro I _; obtain ⟨a, b, c⟩ := ih I rfl; exact ⟨.load ho a, b, c⟩
  | update ho _ ih => intro I _; obtain ⟨a, b, c⟩ := ih (I.gens rfl) rfl; exact ⟨.update ho a, b, c⟩
  | loadIfAlive _ ih => intro I _; obtain ⟨a, b, c⟩ := ih I rfl; exact ⟨.loadIfAlive a, b, c⟩
  | point _ ih => intro I _; obtain ⟨a, b, c⟩ := ih I rfl; exact ⟨.point a, b, c⟩
  | alloc _ ih => intro I _; obtain ⟨a, b, c⟩ := ih (I.gens rfl) rfl; exact ⟨.alloc a, b, c⟩
  | fresh _ ih => intro I _; obtain ⟨a, b, c⟩ := ih (I.gens rfl) rfl; exact ⟨.fresh a, b, c⟩
  | ask _ ih => intro I _; obtain ⟨a, b, c⟩ := ih I rfl; exact ⟨.ask a, b, c⟩
  | choose hn _ ih => intro I _; obtain ⟨a, b, c⟩ := ih (I.gens rfl) rfl; exact ⟨.choose hn a, b, c⟩
  | os _ ih => intro I _; obtain ⟨a, b, c⟩ := ih (I.gens rfl) rfl; exact ⟨.os a, b, c⟩
  | handled _ ih => intro I _; obtain ⟨a, b, c⟩ := ih I rfl; exact ⟨.handled a, b, c⟩
  | genState hg _ ih =>
    intro I _
    obtain ⟨a, b, c⟩ := ih I rfl
    obtain ⟨st', h1, h2⟩ := thaw_seen I hg
    exact ⟨.genState h1 (by rw [h2]; exact a), b, c⟩
  | stack _ ih => intro I _; obtain ⟨a, b, c⟩ := ih I rfl; exact ⟨.stack a, b, c⟩
  | thread _ ih => intro I _; obtain ⟨a, b, c⟩ := ih I rfl; exact ⟨.thread a, b, c⟩
  | newGen _ ih =>
    intro I _
    obtain ⟨a, b, c⟩ := ih I.push rfl
    rw [thaw_push I, ← thaw_size (Y := Y)] at a
    exact ⟨.newGen a, b, c⟩
  | call _ _ ih1 ih2 =>
    intro I _
    obtain ⟨a, b, _⟩ := ih1 I rfl
    obtain ⟨a2, b2, c2⟩ := ih2 b rfl
    exact ⟨.call a a2, b2, c2⟩
  | callSusp _ ih =>
    intro I _
    obtain ⟨a, b, c⟩ := ih I rfl
    exact ⟨.callSusp a, b, split_append c rfl⟩
  | yield => intro I _; exact ⟨.yield, I, rfl⟩
  | resumeFresh hg _ hq _ ih1 ih2 =>
    intro I _
    have n := I.awake hg rfl
    obtain ⟨a, b, c⟩ := ih1 (I.set n (fun _ _ _ _ _ _ z => nomatch z)) rfl
    obtain ⟨a2, b2, c2⟩ := ih2 (b.set n c.gs) rfl
    rw [thaw_set n] at a a2
    exact ⟨.resumeFresh (thaw_same n hg) a hq a2, b2, c2⟩
  | @resumeSuspended Γ p g r l k s k₀ l₀ c₀ p₀ fs cl e₁ s₁ e s' hg h1 hq _ ih1 ih2 =>
    intro I _
    rcases I.clean _ _ _ _ _ _ _ hg with ⟨y, hy, hs⟩ | hf
    · have z := I.held _ y hy hs
      rw [hg] at z
      cases y with
      | suspended k' l' c' p' fs' cl' =>
        cases z
        exact (no_runs h1).elim
      | _ => cases hs
    · by_cases hh : ∃ y, Y[g]? = some y ∧ slp y = true
      · obtain ⟨y, hy, hs⟩ := hh
        have z := I.held _ y hy hs
        rw [hg] at z
        cases y with
        | suspended k' l' c' p' fs' cl' =>
          cases z
          exact (no_runs h1).elim
        | _ => cases hs
      · have n : NotHeld Y g := fun y hy => by
          cases q : slp y with
          | false => rfl
          | true => exact absurd ⟨y, hy, q⟩ hh
        obtain ⟨a, b, c⟩ := ih1 (I.set n (fun _ _ _ _ _ _ z => nomatch z)) hf
        obtain ⟨a2, b2, c2⟩ := ih2 (b.set n c.gs) rfl
        rw [thaw_set n] at a a2
        exact ⟨.resumeSuspended (thaw_same n hg) a hq a2, b2, c2⟩
  | resumeJustStarted hg hv _ ih =>
    intro I _
    obtain ⟨a, b, c⟩ := ih I rfl
    exact ⟨.resumeJustStarted (thaw_same (I.awake hg rfl) hg) hv a, b, c⟩
  | resumeThrowFresh hg _ ih =>
    intro I _
    have n := I.awake hg rfl
    obtain ⟨a, b, c⟩ := ih (I.set n (fun _ _ _ _ _ _ z => nomatch z)) rfl
    rw [thaw_set n] at a
    exact ⟨.resumeThrowFresh (thaw_same n hg) a, b, c⟩
  | resumeRunning hg _ ih =>
    intro I _
    obtain ⟨a, b, c⟩ := ih I rfl
    exact ⟨.resumeRunning (thaw_same (I.awake hg rfl) hg) a, b, c⟩
  | resumeFinished hg _ ih =>
    intro I _
    obtain ⟨a, b, c⟩ := ih I rfl
    exact ⟨.resumeFinished (thaw_same (I.awake hg rfl) hg) a, b, c⟩
  | segRet _ _ ih1 ih2 =>
    intro I hf
    obtain ⟨a, b, _⟩ := ih1 I rfl
    obtain ⟨a2, b2, c2⟩ := ih2 b (split_tail hf)
    exact ⟨.segRet a a2, b2, c2⟩
  | segGen _ _ _ _ => intro _ hf; cases hf
  | segSuspOut hs _ ih =>
    intro I hf
    obtain ⟨a, b, c⟩ := ih I rfl
    exact ⟨.segSuspOut hs a, b, split_append c hf⟩
  | segSuspGen hs _ _ _ _ _ =>
    intro _ hf
    rw [hf] at hs
    cases hs
theorem wakes_lock {M : Model} {Y : Array GenState} {Γ : Ctx} {p : Pos} {g : Nat} {r : Resume} {s s' : Shared} {res : GenResult} (h : Wakes M Γ p g r s res s') (I : Icy Y s) : Wakes M Γ p g r (thaw Y s) res (thaw Y s') ∧ Icy Y s' := by
  unfold Wakes at h
  cases hg : s.gens[g]? with
  | none => rw [hg] at h; exact h.elim
  | some x =>
    rw [hg] at h
    cases x with
    | fresh c =>
      have n := I.awake hg rfl
      have hT := thaw_same n hg
      cases r with
      | send v =>
        cases v with
        | none =>
          obtain ⟨e₁, s₁, hr, hq, rfl, rfl⟩ := h
          obtain ⟨a, b, c⟩ := lock hr (I.set n (fun _ _ _ _ _ _ z => nomatch z)) rfl
          rw [thaw_set n] at a
          refine ⟨?_, b.set n c.gs⟩
          unfold Wakes
          rw [hT]
          exact ⟨e₁, _, a, hq, rfl, thaw_set n⟩
        | _ =>
          obtain ⟨rfl, rfl⟩ := h
          refine ⟨?_, I⟩
          unfold Wakes
          rw [hT]
          exact ⟨rfl, rfl⟩
      | throw v =>
        obtain ⟨rfl, rfl⟩ := h
        refine ⟨?_, I.set n (fun _ _ _ _ _ _ z => nomatch z)⟩
        unfold Wakes
        rw [hT]
        exact ⟨rfl, thaw_set n⟩
    | suspended k₀ l₀ c₀ p₀ fs cl =>
      obtain ⟨e₁, s₁, hr, hq, rfl, rfl⟩ := h
      have n : NotHeld Y g := fun y hy => by
        cases q : slp y with
        | false => rfl
        | true =>
          have z := I.held _ y hy q
          rw [hg] at z
          cases y with
          | suspended k' l' c' p' fs' cl' =>
            cases z
            exact (no_runs hr).elim
          | _ => cases q
      have hf : splitAtGen fs = none := by
        rcases I.clean _ _ _ _ _ _ _ hg with ⟨y, hy, hs⟩ | hf
        · rw [n y hy] at hs; cases hs
        · exact hf
      obtain ⟨a, b, c⟩ := lock hr (I.set n (fun _ _ _ _ _ _ z => nomatch z)) hf
      rw [thaw_set n] at a
      refine ⟨?_, b.set n c.gs⟩
      unfold Wakes
      rw [thaw_same n hg]
      exact ⟨e₁, _, a, hq, rfl, thaw_set n⟩
    | running =>
      obtain ⟨rfl, rfl⟩ := h
      refine ⟨?_, I⟩
      unfold Wakes
      rw [thaw_same (I.awake hg rfl) hg]
      exact ⟨rfl, rfl⟩
    | finished =>
      obtain ⟨rfl, rfl⟩ := h
      refine ⟨?_, I⟩
      unfold Wakes
      rw [thaw_same (I.awake hg rfl) hg]
      exact ⟨rfl, rfl⟩
/-- behind the run: thawed -/
def Thawed {α : Type} (Y : Array GenState) (Q : α → Pos → Shared → Prop) : α → Pos → Shared → Prop := fun a p s' => ∃ s₁, s' = thaw Y s₁ ∧ Icy Y s₁ ∧ Q a p s₁
theorem wp_lock {α : Type} (M : Model) (Y : Array GenState) (Γ : Ctx) (t : Sem α) : ∀ (Q : α → Pos → Shared → Prop) (E : Value → Pos → Shared → Prop) (p : Pos) (s : Shared), Icy Y s → wp M Γ t Q E p s → wp M Γ t (Thawed Y Q) (Thawed Y E) p (thaw Y s) := by
  induction t with
  | pure a => intro Q E p s I h; exact ⟨s, rfl, I, h⟩
  | raise e => intro Q E p s I h; exact ⟨s, rfl, I, h⟩
  | unsupported _ => intro Q E p s _ h; exact h
  | finish _ => intro Q E p s _ h; exact h
  | rule _ k ih => intro Q E p s I h; exact ih () Q E p s I h
  | «at» p' k ih => intro Q E p s I h; exact ih () Q E p' s I h
  | load a _ k ih => intro Q E p s I h; obtain ⟨o, ho, h⟩ := h; exact ⟨o, ho, ih o Q E p s I h⟩
  | update a _ f k ih => intro Q E p s I h; exact ⟨h.1, ih () Q E p { s with heap := s.heap.update a f } (I.gens rfl) h.2⟩
  | loadIfAlive a k ih => intro Q E p s I h; exact ih _ Q E p s I h
  | point _ k ih => intro Q E p s I h; exact ih () Q E p s I h
  | register _ _ => intro Q E p s _ h; exact h
  | alloc o k ih => intro Q E p s I h; exact ih _ Q E p { s with heap := s.heap.push o } (I.gens rfl) h
  | fresh k ih => intro Q E p s I h; exact ih _ Q E p { s with toks := s.toks + 1 } (I.gens rfl) h
  | ask k ih => intro Q E p s I h; exact ih _ Q E p s I h
  | choose src m k ih => intro Q E p s I h; exact ⟨h.1, ih _ Q E p { s with drawn := s.drawn.bump src } (I.gens rfl) h.2⟩
  | os q _ k ih => intro Q E p s I h; exact ih _ Q E p { s with os := (Os.step s.os q).1 } (I.gens rfl) h
  | call c hd _ _ k ih =>
    intro Q E p s I h
    obtain ⟨r, s', hr, h⟩ := h
    obtain ⟨a, b, _⟩ := lock hr I rfl
    exact ⟨r, _, a, ih r Q E p s' b h⟩
  | handled own k ih => intro Q E p s I h; exact ih _ Q E p s I h
  | genState g k ih =>
    intro Q E p s I h
    obtain ⟨st, hs, h⟩ := h
    obtain ⟨st', h1, h2⟩ := thaw_seen I hs
    exact ⟨st', h1, by rw [h2]; exact ih _ Q E p s I h⟩
  | newGen c k ih =>
    intro Q E p s I h
    have z := ih _ Q E p _ I.push h
    rw [thaw_push I, ← thaw_size (Y := Y)] at z
    exact z
  | resume g r _ k ih =>
    intro Q E p s I h
    obtain ⟨res, s', hw, h⟩ := h
    obtain ⟨a, b⟩ := wakes_lock hw I
    exact ⟨res, _, a, ih res Q E p s' b h⟩
  | yield _ _ _ _ => intro Q E p s _ h; exact h
  | stack k ih => intro Q E p s I h; exact ih _ Q E p s I h
  | fork _ _ => intro Q E p s _ h; exact h
  | thread k ih => intro Q E p s I h; exact ih _ Q E p s I h
  | await _ _ _ _ _ => intro Q E p s _ h; exact h
theorem icy_iced (s : Shared) : Icy s.gens (iced s) where
  size := by
    show _ ≤ (s.gens.map ice).size
    rw [Array.size_map]; exact Nat.le_refl _
  held := fun i y hy _ => by
    show (s.gens.map ice)[i]? = _
    rw [Array.getElem?_map, hy]; rfl
  clean := fun i k l c p fs cl hi => by
    have hi : (s.gens.map ice)[i]? = some (.suspended k l c p fs cl) := hi
    rw [Array.getElem?_map] at hi
    obtain ⟨y, hy, e⟩ := Option.map_eq_some_iff.mp hi
    exact .inl ⟨y, hy, by rw [← slp_ice, e]; rfl⟩
theorem thaw_iced (s : Shared) : thaw s.gens (iced s) = s := by
  have e : (s.gens.map ice).mapIdx (thawAt s.gens) = s.gens := by
    refine Array.ext (by simp) fun i h1 h2 => ?_
    simp only [Array.getElem_mapIdx, Array.getElem_map]
    unfold thawAt
    rw [Array.getElem?_eq_getElem h2]
    show (if slp s.gens[i] = true then s.gens[i] else ice s.gens[i]) = _
    cases s.gens[i] <;> rfl
  show ({ s with gens := (s.gens.map ice).mapIdx (thawAt s.gens) } : Shared) = s
  rw [e]
/-- behind code that knows no sleeper: s' is as the frozen run left it, the sleepers as they were -/
structure Still (s s₁ s' : Shared) : Prop where
  heap : s'.heap = s₁.heap
  os : s'.os = s₁.os
  bare : AllBare s.gens → AllBare s₁.gens → AllBare s'.gens
  sleeps : ∀ (i : Nat) y, s.gens[i]? = some y → slp y = true → s'.gens[i]? = some y
theorem still_of {s s₁ : Shared} (I : Icy s.gens s₁) : Still s s₁ (thaw s.gens s₁) where
  heap := rfl
  os := rfl
  bare := fun h h1 x hx => by
    obtain ⟨i, hi, e⟩ := Array.mem_iff_getElem.mp hx
    have q : (thaw s.gens s₁).gens[i]? = some x := by rw [Array.getElem?_eq_getElem hi, e]
    rw [thaw_get] at q
    obtain ⟨z, hz, e2⟩ := Option.map_eq_some_iff.mp q
    have bz := h1 z (Array.mem_of_getElem? hz)
    rw [← e2]
    unfold thawAt
    cases ey : s.gens[i]? with
    | none => exact bz
    | some y =>
      show (if slp y = true then y else z).bare = true
      split
      · exact h y (Array.mem_of_getElem? ey)
      · exact bz
  sleeps := fun i y hy hs => by
    rw [thaw_get, I.held i y hy hs]
    show some (thawAt s.gens i (ice y)) = some y
    unfold thawAt
    rw [hy]
    show some (if slp y = true then y else ice y) = some y
    rw [if_pos hs]
theorem wpAny_still {α : Type} {M : Model} {A : Around} {t : Sem α} {Q : α → Shared → Prop} {E : Value → Shared → Prop} {s : Shared} (h : wpAny M A t Q E (iced s)) :
    wpAny M A t (fun a s' => ∃ s₁, Still s s₁ s' ∧ Q a s₁) (fun e s' => ∃ s₁, Still s s₁ s' ∧ E e s₁) s := by
  intro Γ p hΓ
  have z := wp_lock M s.gens Γ t _ _ p (iced s) (icy_iced s) (h Γ p hΓ)
  rw [thaw_iced] at z
  refine Sem.wp_mono M Γ t ?_ ?_ p s z
  · rintro a p' s' ⟨s₁, rfl, I, q⟩
    exact ⟨s₁, still_of I, q⟩
  · rintro a p' s' ⟨s₁, rfl, I, q⟩
    exact ⟨s₁, still_of I, q⟩
/-! ### one stretch of a generator's run, and its statements -/
/-- from s the code t over the frames fs comes to an end of which Φ holds -/
def Sg (M : Model) (A : Around) (Φ : End → Shared → Prop) (c : Code) (t : Sem PySem.Fin) (fs : List Frame) (s : Shared) : Prop :=
  ∀ Γ p, Γ.code = c → Γ.Woken A → ∃ e s', Runs M Γ p t fs s e s' ∧ Φ e s'
section
variable {M : Model} {A : Around} {Φ : End → Shared → Prop} {c : Code} {fs : List Frame} {s : Shared}
theorem sg_wrap {α : Type} {m : Sem α} {K : α → Sem PySem.Fin} {J : Value → Sem PySem.Fin} {gd lv} (h : wpAny M (A.over c fs) m (fun a z => Sg M A Φ c (K a) fs z) (fun x z => Sg M A Φ c (J x) fs z) s) : Sg M A Φ c (m.wrap K J gd lv) fs s := by
  rintro Γ q rfl hΓ
  exact runs_wrap_of_wp K J gd lv m (h (Γ.over fs) q (hΓ.over fs)) (fun a q' z y => y Γ q' rfl hΓ) (fun x q' z y => y Γ q' rfl hΓ)
theorem sg_bindW {α β : Type} {m : Sem α} {f : α → Sem β} {K : β → Sem PySem.Fin} {J : Value → Sem PySem.Fin} {gd lv} (h : wpAny M (A.over c fs) m (fun a z => Sg M A Φ c ((f a).wrap K J gd lv) fs z) (fun x z => Sg M A Φ c (J x) fs z) s) : Sg M A Φ c ((m >>= f).wrap K J gd lv) fs s := by
  rw [Sem.bind_eq_wrap', Sem.wrap_wrap]
  exact sg_wrap h
theorem sg_at {p' : Pos} {k : Unit → Sem PySem.Fin} (h : Sg M A Φ c (k ()) fs s) : Sg M A Φ c (.at p' k) fs s :=
  sg_wrap (m := standAt p') (K := k) (J := .raise) (gd := id) (lv := id) (wpAny_standAt h)
theorem sg_point {l : List Value} {k : Unit → Sem PySem.Fin} (h : Sg M A Φ c (k ()) fs s) : Sg M A Φ c (.point l k) fs s :=
  sg_wrap (m := point) (K := k) (J := .raise) (gd := id) (lv := fun _ => l) (wpAny_point h)
theorem sg_call {c' : Code} {h g l} {k : Result → Sem PySem.Fin} (hc : ∀ q, Sg M A Φ c' (M.den c') (.ret k h g l c q [] :: fs) s) : Sg M A Φ c (.call c' h g l k) fs s := by
  rintro Γ q rfl hΓ
  obtain ⟨e, z, hr, he⟩ := hc q (Γ.goto c') q rfl (hΓ.goto c')
  exact ⟨e, z, runs_call_seg hr, he⟩
theorem sg_leaf {k h g l c₁ p₁ kp} (r : Result) (hk : Sg M A Φ c₁ (k r) fs s) : Sg M A Φ c (leafOf r) (.ret k h g l c₁ p₁ kp :: fs) s := by
  rintro Γ q rfl hΓ
  obtain ⟨e, z, hr, he⟩ := hk (Γ.goto c₁) p₁ rfl (hΓ.goto c₁)
  exact ⟨e, z, Runs.pop r hr, he⟩
theorem sg_again {c' : Code} (hq : c'.quiet = true) (hc : Sg M A Φ c' (M.den c') fs s) : Sg M A Φ c (.pure (.again c')) fs s := by
  rintro Γ q rfl hΓ
  obtain ⟨e, z, hr, he⟩ := hc (Γ.goto c') q rfl (hΓ.goto c')
  exact ⟨e, z, Runs.head (c₁ := c') (fun _ _ x => .again hq x) hr, he⟩
theorem sg_end (r : Result) (h : Φ (.ret r) s) : Sg M A Φ c (leafOf r) [] s := by
  rintro Γ q rfl _
  exact ⟨.ret r, s, Runs.leaf r, h⟩
theorem sg_yield {v g l} {k : Resume → Sem PySem.Fin} (hf : splitAtGen fs = none) (h : ∀ q, Φ (.susp v g l k c q fs) s) : Sg M A Φ c (.yield v g l k) fs s := by
  rintro Γ q rfl _
  exact ⟨_, s, Runs.yield' fs hf, h q⟩
end
/-- the heap's first n objects -/
def trH (n : Nat) (h : Heap) : Heap := { h with objs := (h.objs.toList.take n).toArray }
def tr (n : Nat) (s : Shared) : Shared := { s with heap := trH n s.heap }
theorem trH_size {n : Nat} {h : Heap} (l : n ≤ h.objs.size) : (trH n h).objs.size = n := by
  show (h.objs.toList.take n).toArray.size = n
  simp; omega
theorem trH_get {n b : Nat} {h : Heap} (l : b < n) : (trH n h).get? b = h.get? b := by
  have e : ((h.objs.toList.take n).toArray)[b]? = h.objs[b]? := by simp [l]
  unfold Heap.get?
  show (match ((h.objs.toList.take n).toArray)[b]? with | some ⟨_, _, .freed, _⟩ => none | z => z) = _
  rw [e]; rfl
theorem trH_sub {n b : Nat} {h : Heap} {o : Obj} (q : (trH n h).get? b = some o) : h.get? b = some o ∧ b < n := by
  have l : b < n := by
    have z := Heap.lt_size q
    have : ((h.objs.toList.take n).toArray).size ≤ n := by simp; omega
    exact Nat.lt_of_lt_of_le z this
  rw [trH_get l] at q
  exact ⟨q, l⟩
/-- a generator's frame, seen from the state at which it was woken last: sb, H -/
def gcx (P : Program) (w : World) (K : PySem.W.Frag) (mg : Str → Option Value) (base : Heap) (N : List Str) (qual : Str) (scope : Scope) (f : Addr) (cd : Value) (A : Around) (outer : List Env) (L : Addr) (sb : Shared) (H : Hp) : Cx where
  prog := P
  w := w
  K := K
  mg := mg
  base := base
  A := A.deeper (envOfC qual scope L f cd)
  N := N
  s_0 := sb
  H_0 := H
  env := envOfC qual scope L f cd
  outer := outer
  stack := envOfC qual scope L f cd :: outer
  ex := []
  calm := true
  fn := fun _ => true
  pn := []
  xe := fun _ _ => False
/-- the state at which it was woken; the consumer's own objects, to be left alone -/
structure View where
  s : Shared
  H : Hp
  pins : List (Addr × Obj)
/-- what the consumer may count on: with m items to come, woken at Hr, it hands out x, leaving H | it may be woken at H2 (it slept since H1), m to come | it ends -/
structure Ctr where
  yl : Nat → Hp → V → Hp → Prop
  ok : Nat → Hp → Hp → Prop
  fin : Hp → Hp → Prop
section
variable (P : Program) (w : World) (K : PySem.W.Frag) (mg : Str → Option Value) (base : Heap) (N : List Str) (qual : Str) (scope : Scope) (f : Addr) (cd : Value) (A : Around) (outer : List Env) (L : Addr)
/-- the generator's frame runs; ip: its own iterators as they stand -/
def GOk (V : View) (ip : List (Addr × Obj)) : Prop := L < V.s.heap.objs.size ∧ (∀ p ∈ V.pins, ∀ q ∈ ip, p.1 ≠ q.1) ∧ ∀ q ∈ ip, L < q.1
def GIn (V : View) (ip : List (Addr × Obj)) (σ : L2.St) (H : Hp) (s : Shared) : Prop := GOk L V ip ∧ Inv (gcx P w K mg base N qual scope f cd A outer L (tr L V.s) V.H) (V.pins ++ ip) σ H s
def FutRet (C : Ctr) (m : Nat) (V : View) (r : Result) (s' : Shared) : Prop := r = .ok (.ret .none) ∧ m = 0 ∧ ∃ ip σ H, GIn P w K mg base N qual scope f cd A outer L V ip σ H s' ∧ C.fin V.H H
def FutSusp (C : Ctr) (m : Nat) (V : View) (v : Value) (s' : Shared) (go : View → Prop) : Prop :=
  ∃ ip x σ H, RelV x v ∧ GIn P w K mg base N qual scope f cd A outer L V ip σ H s' ∧ C.yl (m + 1) V.H x H ∧ ∀ V' : View, GIn P w K mg base N qual scope f cd A outer L V' ip σ V'.H V'.s → C.ok m H V'.H → go V'
def Fut (C : Ctr) : Nat → View → End → Shared → Prop
  | m, V, .ret r, s' => FutRet P w K mg base N qual scope f cd A outer L C m V r s'
  | 0, _, .susp .., _ => False
  | m + 1, V, .susp v g l k c p fs, s' => (End.susp v g l k c p fs).quiet = true ∧ FutSusp P w K mg base N qual scope f cd A outer L C m V v s' fun V' => Sg (model P w) A (Fut C m V') c (k (.send .none)) fs V'.s
end
theorem fut_ret {P : Program} {w : World} {K : PySem.W.Frag} {mg : Str → Option Value} {base : Heap} {N : List Str} {qual : Str} {scope : Scope} {f : Addr} {cd : Value} {A : Around} {outer : List Env} {L : Addr} {C : Ctr} {m : Nat} {V : View} {r : Result} {s' : Shared} :
    FutRet P w K mg base N qual scope f cd A outer L C m V r s' → Fut P w K mg base N qual scope f cd A outer L C m V (.ret r) s' := fun h => by
  cases m <;> exact h
theorem ret_fut {P : Program} {w : World} {K : PySem.W.Frag} {mg : Str → Option Value} {base : Heap} {N : List Str} {qual : Str} {scope : Scope} {f : Addr} {cd : Value} {A : Around} {outer : List Env} {L : Addr} {C : Ctr} {m : Nat} {V : View} {r : Result} {s' : Shared} :
    Fut P w K mg base N qual scope f cd A outer L C m V (.ret r) s' → FutRet P w K mg base N qual scope f cd A outer L C m V r s' := fun h => by
  cases m <;> exact h
/-- what is wanted behind a statement of a generator: items to come, the heap at which it was woken, slots, heap -/
structure GEn where
  nx : Nat → Hp → L2.St → Hp → Prop
  rt : Nat → Hp → VK
  bk : Nat → Hp → L2.St → Hp → Prop := fun _ _ _ _ => False
  ct : Nat → Hp → L2.St → Hp → Prop := fun _ _ _ _ => False
def GEn.at (D : GEn) (m : Nat) (Hr : Hp) : Ends := { nx := D.nx m Hr, rt := D.rt m Hr, bk := D.bk m Hr, ct := D.ct m Hr }
abbrev TGm := Ctr → GEn → Nat → Hp → L2.St → Hp → Prop
/-- where its code stands -/
structure GPl (X : Around) (A : Around) (c : Code) (fs : List Frame) (gd : Bool → Bool) : Prop where
  over : A.over c fs = X
  split : splitAtGen fs = none
  guard : fs.any Frame.guarded = false
  gd : gd false = false
section
variable {P : Program} {w : World} {K : PySem.W.Frag} {mg : Str → Option Value} {base : Heap} {N : List Str} {qual : Str} {scope : Scope} {f : Addr} {cd : Value} {A : Around} {outer : List Env} {L : Addr}
def GOut (P : Program) (w : World) (K : PySem.W.Frag) (mg : Str → Option Value) (base : Heap) (N : List Str) (qual : Str) (scope : Scope) (f : Addr) (cd : Value) (A : Around) (outer : List Env) (L : Addr) (D : GEn) (m : Nat) (V : View) (ip : List (Addr × Obj)) (fl : Flow) (s : Shared) : Prop := GOk L V ip ∧ SP (gcx P w K mg base N qual scope f cd A outer L (tr L V.s) V.H) (V.pins ++ ip) (D.at m V.H) fl s
structure GT (P : Program) (w : World) (K : PySem.W.Frag) (mg : Str → Option Value) (base : Heap) (N : List Str) (qual : Str) (scope : Scope) (f : Addr) (cd : Value) (A : Around) (outer : List Env) (L : Addr) (ex : Env → Sem Flow) (t : TGm) : Prop where
  run : ∀ (C : Ctr) (D : GEn) (m : Nat) (V : View) (ip : List (Addr × Obj)) (c : Code) (fs : List Frame) (Kf : Flow → Sem PySem.Fin) (J : Value → Sem PySem.Fin) (gd : Bool → Bool) (lv : List Value → List Value) (s : Shared) (σ : L2.St) (H : Hp),
    GPl (A.deeper (envOfC qual scope L f cd)) A c fs gd → (∀ m' V' fl s', GOut P w K mg base N qual scope f cd A outer L D m' V' ip fl s' → Sg (model P w) A (Fut P w K mg base N qual scope f cd A outer L C m' V') c (Kf fl) fs s') →
    GIn P w K mg base N qual scope f cd A outer L V ip σ H s → t C D m V.H σ H → Sg (model P w) A (Fut P w K mg base N qual scope f cd A outer L C m V) c ((ex (envOfC qual scope L f cd)).wrap Kf J gd lv) fs s
abbrev GTs (P : Program) (w : World) (K : PySem.W.Frag) (mg : Str → Option Value) (base : Heap) (N : List Str) (qual : Str) (scope : Scope) (f : Addr) (cd : Value) (A : Around) (outer : List Env) (L : Addr) (st : Stmt) (t : TGm) : Prop := GT P w K mg base N qual scope f cd A outer L (fun e => exec st e) t
abbrev GTb (P : Program) (w : World) (K : PySem.W.Frag) (mg : Str → Option Value) (base : Heap) (N : List Str) (qual : Str) (scope : Scope) (f : Addr) (cd : Value) (A : Around) (outer : List Env) (L : Addr) (st : List Stmt) (t : TGm) : Prop := GT P w K mg base N qual scope f cd A outer L (fun e => execs st e) t
/-- a statement that hands out nothing -/
def tGp (t : TS) : TGm := fun _ D m Hr σ H => t (D.at m Hr) σ H
theorem gt_ps {st : Stmt} {t : TS} (h : ∀ sb H0, PS (gcx P w K mg base N qual scope f cd A outer L sb H0) st t) : GTs P w K mg base N qual scope f cd A outer L st (tGp t) := by
  refine ⟨fun C D m V ip c fs Kf J gd lv s σ H g k I ht => ?_⟩
  refine sg_wrap ?_
  rw [g.over]
  exact wpAny_mono ((h (tr L V.s) V.H).run _ s σ H (D.at m V.H) I.2 ht) (fun fl s' hs => k m V fl s' ⟨I.1, hs⟩) fun x s' hx => hx.elim
theorem gt_pss {st : List Stmt} {t : TS} (h : ∀ sb H0, PSs (gcx P w K mg base N qual scope f cd A outer L sb H0) st t) : GTb P w K mg base N qual scope f cd A outer L st (tGp t) := by
  refine ⟨fun C D m V ip c fs Kf J gd lv s σ H g k I ht => ?_⟩
  refine sg_wrap ?_
  rw [g.over]
  exact wpAny_mono ((h (tr L V.s) V.H).run _ s σ H (D.at m V.H) I.2 ht) (fun fl s' hs => k m V fl s' ⟨I.1, hs⟩) fun x s' hx => hx.elim
def tGn : TGm := fun _ D m Hr σ H => D.nx m Hr σ H
theorem gt_nil : GTb P w K mg base N qual scope f cd A outer L [] tGn := by
  refine ⟨fun C D m V ip c fs Kf J gd lv s σ H g k I ht => ?_⟩
  exact k m V .next s ⟨I.1, σ, H, I.2, ht⟩
def tGc (t u : TGm) : TGm := fun C D m Hr σ H => t C { D with nx := fun m' Hr' σ' H' => u C D m' Hr' σ' H' } m Hr σ H
theorem gt_cons {st : Stmt} {rest : List Stmt} {t u : TGm} (a : GTs P w K mg base N qual scope f cd A outer L st t) (b : GTb P w K mg base N qual scope f cd A outer L rest u) : GTb P w K mg base N qual scope f cd A outer L (st :: rest) (tGc t u) := by
  refine ⟨fun C D m V ip c fs Kf J gd lv s σ H g k I ht => ?_⟩
  show Sg _ A _ c ((execs (st :: rest) _).wrap Kf J gd lv) fs s
  rw [execs_cons_wrap]
  refine a.run C { D with nx := fun m' Hr' σ' H' => u C D m' Hr' σ' H' } m V ip c fs _ J gd lv s σ H g (fun m' V' fl s' hs => ?_) I ht
  cases fl with
  | next =>
    obtain ⟨o, σ', H', I', q⟩ := hs
    exact b.run C D m' V' ip c fs Kf J gd lv s' σ' H' g k ⟨o, I'⟩ q
  | brk => exact k m' V' .brk s' hs
  | cont => exact k m' V' .cont s' hs
  | ret u => exact k m' V' (.ret u) s' hs
def tGy (te : TE) : TGm := fun C D m Hr σ H => te σ H fun x H1 => ∃ m', m = m' + 1 ∧ C.yl m Hr x H1 ∧ ∀ H2, C.ok m' H1 H2 → D.nx m' H2 σ H2
theorem gt_yield {e : Expr} {yp pos : Pos} {te : TE} (he : ∀ sb H0, PE (gcx P w K mg base N qual scope f cd A outer L sb H0) e te) (hco : scope.isCoroutine = false := by rfl) (hi : interactive (envOfC qual scope L f cd) = false := by rfl) : GTs P w K mg base N qual scope f cd A outer L (.Expr (.Yield (some e) yp) pos) (tGy te) := by
  refine ⟨fun C D m V ip c fs Kf J gd lv s σ H g k I ht => ?_⟩
  show Sg _ A _ c ((exec (.Expr (.Yield (some e) yp) pos) (envOfC qual scope L f cd)).wrap Kf J gd lv) fs s
  rw [exec_Expr _ _ pos hi rfl]
  have hy : ∀ v, yieldOut (envOfC qual scope L f cd) v = yieldValue v := fun v => by simp only [yieldOut, show (envOfC qual scope L f cd).scope.isCoroutine = false from hco, Bool.false_eq_true, if_false]
  show Sg _ A _ c (.at pos fun _ => ((eval e (envOfC qual scope L f cd) >>= fun v => (standAt yp >>= fun _ => yieldOut (envOfC qual scope L f cd) v)) >>= fun x => dropValue (.Yield (some e) yp) pos x).wrap Kf J gd lv) fs s
  simp only [hy]
  refine sg_at ?_
  rw [Sem.bind_eq_wrap', Sem.bind_eq_wrap', Sem.wrap_wrap, Sem.wrap_wrap]
  refine sg_wrap ?_
  rw [g.over]
  refine wpAny_mono ((he (tr L V.s) V.H).run _ s σ H _ I.2 ht) (fun v s' hs => ?_) fun x s' hx => hx.elim
  obtain ⟨x, H1, I1, r1, m', rfl, q1, q2⟩ := hs
  refine sg_at (sg_yield g.split fun q => ?_)
  refine ⟨by simp [End.quiet, g.gd, g.guard], ip, x, σ, H1, r1, ⟨I.1, I1⟩, q1, fun V' I' h' => ?_⟩
  exact k m' V' .next V'.s ⟨I'.1, σ, V'.H, I'.2, q2 V'.H h'⟩
def tGi (tc : TT) (t u : TGm) : TGm := fun C D m Hr σ H => tc σ H fun b H1 => if b = true then t C D m Hr σ H1 else u C D m Hr σ H1
theorem gt_if {test : Expr} {body orelse : List Stmt} {pos : Pos} {tc : TT} {t u : TGm} (hc : ∀ sb H0, PT (gcx P w K mg base N qual scope f cd A outer L sb H0) test tc) (a : GTb P w K mg base N qual scope f cd A outer L body t) (b : GTb P w K mg base N qual scope f cd A outer L orelse u) :
    GTs P w K mg base N qual scope f cd A outer L (.If test body orelse pos) (tGi tc t u) := by
  refine ⟨fun C D m V ip c fs Kf J gd lv s σ H g k I ht => ?_⟩
  show Sg _ A _ c ((exec (.If test body orelse pos) (envOfC qual scope L f cd)).wrap Kf J gd lv) fs s
  rw [exec_If]
  refine sg_bindW (wpAny_standAt (sg_bindW ?_))
  rw [g.over]
  refine wpAny_mono ((hc (tr L V.s) V.H).run _ s σ H _ I.2 ht) (fun bb s' hs => ?_) fun x s' hx => hx.elim
  obtain ⟨H1, I1, q⟩ := hs
  cases bb with
  | true => exact a.run C D m V ip c fs Kf J gd lv s' σ H1 g k ⟨I.1, I1⟩ q
  | false => exact b.run C D m V ip c fs Kf J gd lv s' σ H1 g k ⟨I.1, I1⟩ q
/-! for -/
def tGf (wi : TI) (gt : TG) (tb : TGm) : TGm := fun C D m Hr σ H => wi σ H fun J H1 => ∃ W : Nat → Nat → Nat → Hp → L2.St → Hp → Prop, (∃ z, W 0 z m Hr σ H1) ∧ ∀ i z m Hr σ H, W i z m Hr σ H →
  (J.stop i H ∧ D.nx m Hr σ H) ∨ (J.go i H ∧ ∃ Nx : Nat → Hp → L2.St → Hp → Prop, (∀ m' Hr' σ' H', Nx m' Hr' σ' H' → ∃ z', z' < z ∧ W (i + 1) z' m' Hr' σ' H') ∧ ∀ x H', J.yld i H x H' → gt x σ H' fun σ2 H2 => tb C { D with nx := Nx, ct := Nx, bk := D.nx } m Hr σ2 H2)
theorem gpl_loop {X A : Around} {c c' : Code} {fs : List Frame} {gd : Bool → Bool} {k : Result → Sem PySem.Fin} {l kp : List Value} {q : Pos} (g : GPl X A c fs gd) (hw : c'.weight = 0) (hu : c'.cUnits = 0) : GPl X A c' (.ret k none (gd false) l c q kp :: fs) id where
  over := (GenW.over_loop hw hu).trans g.over
  split := by
    show (splitAtGen fs).map _ = none
    rw [g.split]; rfl
  guard := by
    show (gd false || fs.any Frame.guarded) = false
    rw [g.gd, g.guard]; rfl
  gd := rfl
theorem gt_for {tg iter : Expr} {body : List Stmt} {pos : Pos} {wi : TI} {gt : TG} {tb : TGm} (hi : ∀ sb H0, PI (gcx P w K mg base N qual scope f cd A outer L sb H0) tg iter wi) (hg : ∀ sb H0, PG (gcx P w K mg base N qual scope f cd A outer L sb H0) tg gt)
    (hb : GTb P w K mg base N qual scope f cd A outer L body tb) (hs : ∀ x, foldedSetIterable iter (envOfC qual scope L f cd) x = pure x := by intro _; rfl) : GTs P w K mg base N qual scope f cd A outer L (.For tg iter body [] pos) (tGf wi gt tb) := by
  refine ⟨fun C D m V ip c fs Kf J gd lv s σ H g k I ht => ?_⟩
  show Sg _ A _ c ((exec (.For tg iter body [] pos) (envOfC qual scope L f cd)).wrap Kf J gd lv) fs s
  rw [exec_For]
  refine sg_bindW (wpAny_standAt (sg_bindW ?_))
  rw [g.over]
  refine wpAny_mono ((hi (tr L V.s) V.H).run _ s σ H _ I.2 ht) (fun v s1 h1 => ?_) fun x s' hx => hx.elim
  refine sg_bindW (wpAny_of_eq (hs v) (sg_bindW (wpAny_standAt (sg_bindW (wpAny_holding ?_)))))
  rw [g.over]
  refine wpAny_mono h1 (fun itv s2 h2 => ?_) fun x s' hx => hx.elim
  obtain ⟨it, fp, tn, Jt, H2, e, I2, T, st2, f2, W, ⟨z0, w0⟩, turn⟩ := h2
  subst e
  have tsz : ∀ V : View, L < V.s.heap.objs.size → (tr L V.s).heap.objs.size = L := fun V h => trH_size (Nat.le_of_lt h)
  have hLb : ∀ b ∈ fp, L ≤ b := fun b hb => by
    have z := (f2 b hb).2.2.2.1
    rcases z with z | z
    · exact absurd (show b ∈ ([] : List Addr) from z) (by simp)
    · have z : (tr L V.s).heap.objs.size ≤ b := z
      rw [tsz V I.1.1] at z
      exact z
  have stat : ∀ (V : View) {H' : Hp}, L < V.s.heap.objs.size → (∀ b ∈ fp, H' b = none) → (∀ b ∈ fp, ∀ p ∈ V.pins ++ ip, p.1 ≠ b) → ∀ b ∈ fp, FpOk (gcx P w K mg base N qual scope f cd A outer L (tr L V.s) V.H) (V.pins ++ ip) H' b := fun V H' hl hn hp b hb =>
    ⟨hn b hb, (f2 b hb).2.1, (f2 b hb).2.2.1, .inr (by show (tr L V.s).heap.objs.size ≤ b; rw [tsz V hl]; exact hLb b hb), (f2 b hb).2.2.2.2.1, fun p hq => hp b hb p (show p ∈ V.pins ++ ip from hq)⟩
  show Sg _ A _ c ((runOwn (.forLoop tg (.ref it) body [] (envOfC qual scope L f cd)) (envOfC qual scope L f cd)).wrap Kf J gd lv) fs s2
  refine sg_call fun q => ?_
  have loop : ∀ (z i m : Nat) (V : View) (s : Shared) (σ : L2.St) (H : Hp), W i z m V.H σ H → GIn P w K mg base N qual scope f cd A outer L V ip σ H s → tn i s.heap → (∀ b ∈ fp, H b = none) → (∀ b ∈ fp, ∀ p ∈ V.pins ++ ip, p.1 ≠ b) →
      Sg (model P w) A (Fut P w K mg base N qual scope f cd A outer L C m V) (.forLoop tg (.ref it) body [] (envOfC qual scope L f cd)) ((model P w).den (.forLoop tg (.ref it) body [] (envOfC qual scope L f cd)))
        (.ret (fun r => ((match r with | .ok f => (.pure f : Sem Flow) | .error e => .raise e).onRaise fun (x : Value) => do
          if (← field x 1) == Value.none then unsupported "frame.own-activation:exception-without-traceback"
          setFlight x (envOfC qual scope L f cd).frame).wrap Kf J gd lv) none (gd false) (lv []) c q [] :: fs) s := by
    intro z
    induction z using Nat.strongRecOn with
    | ind z ih =>
      intro i m V s σ H hw hI hst hfr hpn
      have gl := fun (kk : Result → Sem PySem.Fin) => gpl_loop (k := kk) (c' := .forLoop tg (.ref it) body [] (envOfC qual scope L f cd)) (l := lv []) (kp := []) (q := q) g rfl rfl
      show Sg _ A _ _ ((forTurn tg (.ref it) body [] (envOfC qual scope L f cd)).onRaise _) _ s
      rw [Sem.onRaise_eq_wrap]
      unfold forTurn
      refine sg_bindW (wpAny_standAt (sg_bindW ?_))
      rw [(gl _).over]
      rcases turn i z m V.H σ H hw with ⟨stop, qn⟩ | ⟨go, Nx, hN, step⟩
      · refine wpAny_onRaise (wpAny_mono (T.done (gcx P w K mg base N qual scope f cd A outer L (tr L V.s) V.H) rfl rfl rfl rfl i _ s σ H (fun _ _ => False) hI.2 (stat V hI.1.1 hfr hpn) hst stop) (fun r s4 ⟨hr, I4⟩ => ?_) fun _ _ hx => hx.elim)
        subst hr
        refine sg_again rfl ?_
        exact sg_leaf (.ok .next) (k m V .next s4 ⟨hI.1, σ, H, I4, qn⟩)
      · refine wpAny_onRaise (wpAny_mono (T.item (gcx P w K mg base N qual scope f cd A outer L (tr L V.s) V.H) rfl rfl rfl rfl i _ s σ H (fun _ _ => False) hI.2 (stat V hI.1.1 hfr hpn) hst go) (fun r s4 ⟨u, hr, h4⟩ => ?_) fun _ _ hx => hx.elim)
        subst hr
        refine sg_bindW ?_
        rw [(gl _).over]
        refine wpAny_mono h4 (fun _ s5 ⟨x, H5, I5, r5, y5, st5, fr5⟩ => ?_) fun _ _ hx => hx.elim
        have I5' := I5.pinned (stat V hI.1.1 fr5 hpn) (T.obj _ _ st5)
        refine sg_bindW ?_
        rw [(gl _).over]
        refine wpAny_mono ((hg (tr L V.s) V.H).run _ s5 σ H5 x u _ I5' r5 (step x H5 y5)) (fun _ s6 ⟨σ6, H6, I6, q6⟩ => ?_) fun _ _ hx => hx.elim
        rw [Sem.bind_eq_wrap', Sem.wrap_wrap]
        have dis : ∀ V' : View, (∀ p ∈ V'.pins, ∀ q ∈ ip ++ pinsAt fp s5.heap, p.1 ≠ q.1) → (∀ b ∈ ip, ∀ c ∈ fp, b.1 ≠ c) → ∀ b ∈ fp, ∀ p ∈ V'.pins ++ ip, p.1 ≠ b := fun V' h1 h2 b hb p hp => by
          rcases List.mem_append.mp hp with hp | hp
          · obtain ⟨o, e, _⟩ := T.obj _ _ st5 b hb
            exact h1 p hp (b, o) (List.mem_append_right _ (mem_pinsAt hb e))
          · exact h2 p hp b hb
        have ipf : ∀ b ∈ ip, ∀ c ∈ fp, b.1 ≠ c := fun b hb c hc => hpn c hc b (List.mem_append_right _ hb)
        have I6' : Inv (gcx P w K mg base N qual scope f cd A outer L (tr L V.s) V.H) (V.pins ++ (ip ++ pinsAt fp s5.heap)) σ6 H6 s6 := by rw [← List.append_assoc]; exact I6
        refine hb.run C { D with nx := Nx, ct := Nx, bk := D.nx } m V (ip ++ pinsAt fp s5.heap) _ _ _ _ _ _ s6 σ6 H6 ⟨(gl _).over, (gl _).split, (gl _).guard, rfl⟩ (fun m' V' fl s7 hs7 => ?_) ⟨⟨hI.1.1, fun p hp q hq => ?_, fun q hq => ?_⟩, I6'⟩ q6
        · obtain ⟨⟨o1, o2, _⟩, hs7⟩ := hs7
          have o3 : GOk L V' ip := ⟨o1, fun p hp q hq => o2 p hp q (List.mem_append_left _ hq), hI.1.2.2⟩
          have un : ∀ {σ' : L2.St} {H' : Hp}, Inv (gcx P w K mg base N qual scope f cd A outer L (tr L V'.s) V'.H) (V'.pins ++ (ip ++ pinsAt fp s5.heap)) σ' H' s7 → Inv (gcx P w K mg base N qual scope f cd A outer L (tr L V'.s) V'.H) (V'.pins ++ ip) σ' H' s7 := fun {σ' H'} I' => by
            rw [← List.append_assoc] at I'
            exact I'.unpinned
          have again : ∀ {σ7 : L2.St} {H7 : Hp}, Inv (gcx P w K mg base N qual scope f cd A outer L (tr L V'.s) V'.H) (V'.pins ++ (ip ++ pinsAt fp s5.heap)) σ7 H7 s7 → Nx m' V'.H σ7 H7 → ∃ z', z' < z ∧ W (i + 1) z' m' V'.H σ7 H7 ∧ tn (i + 1) s7.heap ∧ ∀ b ∈ fp, H7 b = none := fun {σ7 H7} I7 n7 => by
            obtain ⟨z', hz, w7⟩ := hN m' V'.H σ7 H7 n7
            have pin : ∀ b ∈ fp, ∀ o, s5.heap.get? b = some o → s7.heap.get? b = some o ∧ H7 b = none := fun b hb o e => by
              have z := I7.pin (b, o) (List.mem_append_right _ (List.mem_append_right _ (List.mem_append_right _ (mem_pinsAt hb e))))
              exact ⟨z.1, z.2.1⟩
            refine ⟨z', hz, w7, T.keep _ _ _ st5 fun b hb o e => (pin b hb o e).1, fun b hb => ?_⟩
            obtain ⟨o, e, _⟩ := T.obj _ _ st5 b hb
            exact (pin b hb o e).2
          cases fl with
          | next =>
            obtain ⟨σ7, H7, I7, n7⟩ := hs7
            obtain ⟨z', hz, w7, t7, e7⟩ := again I7 n7
            exact sg_again rfl (ih z' hz (i + 1) m' V' s7 σ7 H7 w7 ⟨o3, un I7⟩ t7 e7 (dis V' o2 ipf))
          | cont =>
            obtain ⟨σ7, H7, I7, n7⟩ := hs7
            obtain ⟨z', hz, w7, t7, e7⟩ := again I7 n7
            exact sg_again rfl (ih z' hz (i + 1) m' V' s7 σ7 H7 w7 ⟨o3, un I7⟩ t7 e7 (dis V' o2 ipf))
          | brk => obtain ⟨σ7, H7, I7, n7⟩ := hs7; exact sg_leaf (.ok .next) (k m' V' .next s7 ⟨o3, σ7, H7, un I7, n7⟩)
          | ret v => obtain ⟨x7, σ7, H7, I7, r7, n7⟩ := hs7; exact sg_leaf (.ok (.ret v)) (k m' V' (.ret v) s7 ⟨o3, x7, σ7, H7, un I7, r7, n7⟩)
        · rcases List.mem_append.mp hq with hq | hq
          · exact hI.1.2.1 p hp q hq
          · exact hpn q.1 (of_pinsAt hq).1 p (List.mem_append_left _ hp)
        · rcases List.mem_append.mp hq with hq | hq
          · exact hI.1.2.2 q hq
          · exact Nat.lt_of_le_of_ne (hLb q.1 (of_pinsAt hq).1) (Ne.symm (f2 q.1 (of_pinsAt hq).1).2.1)
  exact loop z0 0 m V s2 σ H2 w0 ⟨I.1, I2⟩ st2 (fun b hb => (f2 b hb).1) fun b hb p hp => (f2 b hb).2.2.2.2.2 p hp
end
/-! ### a generator sleeps; it is woken anew -/
/-- a generator def's names: the parameters first, none of them captured -/
structure GScp (N ps : List Str) (sc : Scope) : Prop where
  kind : sc.kind = .function
  co : sc.isCoroutine = false
  gen : sc.isGenerator = true
  nd : N.Nodup
  pre : N.take ps.length = ps
  par : ∀ x ∈ ps, sc.names.lookup x = some .local
  loc : ∀ y ∈ sc.names, y.2 ≠ .free ∧ y.2 ≠ .cell
  nc : ∀ n, cellsFrom n sc.names [] = []
theorem GScp.kindOf {N ps : List Str} {sc : Scope} (S : GScp N ps sc) {x : Str} (h : sc.names.lookup x = some .cell ∨ sc.names.lookup x = some .free) : False := by
  rcases h with h | h
  · exact (S.loc _ (PySem.mem_of_lookup h)).2 rfl
  · exact (S.loc _ (PySem.mem_of_lookup h)).1 rfl
/-- its slots, as they stand in its frame -/
def Slp (N : List Str) (scope : Scope) (L : Addr) (σ : L2.St) (h : Heap) : Prop :=
  σ.length = N.length ∧ ∃ m, h.Ns L m ∧ ∀ (i : Nat) (x : Str) (v : V), N[i]? = some x → σ[i]? = some (some v) → Vis scope x → ∃ u, RelV v u ∧ scope.names.lookup x = some .local ∧ m x = some u
theorem Slp.at {N : List Str} {scope : Scope} {L : Addr} {σ : L2.St} {h h' : Heap} (z : Slp N scope L σ h) (e : ∀ o, h.get? L = some o → h'.get? L = some o) : Slp N scope L σ h' := by
  obtain ⟨l, m, n, q⟩ := z
  exact ⟨l, m, n.at' e, q⟩
/-- what a def's own things are older than -/
structure OldX (X : Cx) (pins : List (Addr × Obj)) (L : Addr) : Prop where
  loc : X.env.locals < L
  cel : ∀ x c, X.env.cells.lookup x = some c → c < L
  pin : ∀ p ∈ X.pn ++ pins, p.1 < L
  s0 : X.s_0.heap.objs.size ≤ L
  bas : X.base.objs.size ≤ L
  frm : ∀ b ∈ frs X.stack, b < L
theorem old_of {X : Cx} {pins : List (Addr × Obj)} {σ : L2.St} {H : Hp} {s : Shared} {L : Addr} (I : Inv X pins σ H s) (h : s.heap.objs.size ≤ L) : OldX X pins L where
  loc := Nat.lt_of_lt_of_le I.lt h
  cel := fun x c e => by
    obtain ⟨v, q⟩ := I.cell x c e
    exact Nat.lt_of_lt_of_le q.lt h
  pin := fun p hp => Nat.lt_of_lt_of_le (Heap.lt_size (I.pin p hp).1) h
  s0 := Nat.le_trans I.sz h
  bas := Nat.le_trans (Nat.le_trans I.ok.bsz I.sz) h
  frm := fun b hb => by
    obtain ⟨_, o, ho, _⟩ := I.stack.mem hb
    exact Nat.lt_of_lt_of_le (Heap.lt_size ho) h
theorem regens {X : Cx} {pins : List (Addr × Obj)} {σ : L2.St} {H : Hp} {s s' : Shared} (I : Inv X pins σ H s) (h : s'.heap = s.heap) (o : s'.os = s.os) (g : AllBare s'.gens) : Inv X pins σ H s' :=
  ⟨I.ok, o.trans I.os, g, by rw [h]; exact I.base, by rw [h]; exact I.loc, by rw [h]; exact I.cell, I.free, I.freeC, by rw [h]; exact I.pin, by rw [h]; exact I.hok, I.len⟩
theorem trFrames {L : Nat} {h base : Heap} : ∀ {l : List Env}, h.FunFrames base l → (∀ b ∈ frs l, b < L) → (trH L h).FunFrames base l
  | [], _, _ => trivial
  | env :: l, q, hb => by
    obtain ⟨q1, ⟨a, o, e1, e2, e3, e4⟩, q3⟩ := q
    refine ⟨q1, ⟨a, o, e1, e2, ?_, e4⟩, trFrames q3 fun b hm => hb b ?_⟩
    · rw [trH_get (hb a (by unfold frs; simp [e1]))]; exact e3
    · unfold frs at hm ⊢
      rw [List.filterMap_cons, e1]
      exact List.mem_cons_of_mem _ hm
section
variable {X : Cx} {pins pv ip : List (Addr × Obj)} {σc σ : L2.St} {H H' : Hp} {s s' : Shared} {L f : Addr} {N ps : List Str} {qual : Str} {scope : Scope} {cd : Value} {A : Around}
/-- these objects stand, untracked, apart from the frame at L and from the callers' -/
def Stand (X : Cx) (L : Addr) (H : Hp) (h : Heap) (ip : List (Addr × Obj)) : Prop := ∀ p ∈ ip, h.get? p.1 = some p.2 ∧ H p.1 = none ∧ L < p.1 ∧ ∀ v, p.2.data ≠ .cell v
theorem gin_of (I : Inv X pins σc H s) (O : OldX X pins L) (S : GScp N ps scope) (hh : A.handled = none) (hA : A.frames = some X.stack) (hL : L < s.heap.objs.size) (hL0 : H L = none) (z : Slp N scope L σ s.heap) (hp : Stand X L H s.heap (pv ++ ip)) (hd : ∀ p ∈ pv, ∀ q ∈ ip, p.1 ≠ q.1) :
    GIn X.prog X.w X.K X.mg X.base N qual scope f cd A X.stack L ⟨s, H, pv⟩ ip σ H s := by
  obtain ⟨zl, m, zn, zq⟩ := z
  have sz : (trH L s.heap).objs.size = L := trH_size (Nat.le_of_lt hL)
  have noA : ∀ b : Addr, b ∉ ([] : List Addr) := fun b z => by simp at z
  have noC : ∀ x c, (envOfC qual scope L f cd).cells.lookup x = some c → False := fun x c e => by
    have e : (cellsFrom (L + 1) scope.names []).lookup x = some c := e
    rw [S.nc] at e
    cases e
  refine ⟨⟨hL, hd, fun q hq => (hp q (List.mem_append_right _ hq)).2.2.1⟩, ⟨⟨I.ok.mod, S.kind, rfl, rfl, by show (trH L s.heap).objs.size ≤ L; omega, fun x y c h1 _ => (noC x c h1).elim, fun x hx => (S.kindOf hx).elim, fun x c _ h1 => (noC x c h1).elim, fun _ => hh, Around.frames_deeper hA, .inr ⟨rfl, rfl⟩, fun b hb => absurd hb (noA b), fun b o e => ?_, by show _ ≤ (trH L s.heap).objs.size; rw [sz]; exact O.bas, fun b _ _ => noA b, fun b hb => absurd hb (noA b), trFrames I.stack O.frm, I.stkFree⟩,
    rfl, I.bare, ?_, ⟨m, zn, fun i x v e1 e2 e3 => ?_⟩, fun x c h1 => (noC x c h1).elim, hL0, fun x c h1 => (noC x c h1).elim, fun p hq => ?_, I.hok, zl⟩⟩
  · have z := I.bs b o e
    exact ⟨by show (trH L s.heap).get? b = some o; rw [trH_get (Nat.lt_of_lt_of_le (Heap.lt_size e) O.bas)]; exact z.1, z.2⟩
  · exact Un.kept fun b u q => (trH_sub q).1
  · obtain ⟨u, r, k, q⟩ := zq i x v e1 e2 e3
    exact ⟨u, r, .inl ⟨k, q⟩⟩
  · have hq : p ∈ pv ++ ip := hq
    obtain ⟨h1, h2, h3, h4⟩ := hp p hq
    exact ⟨h1, h2, Nat.ne_of_gt h3, fun hb => absurd (O.frm p.1 hb) (Nat.lt_asymm h3), h4⟩
/-- all addresses from L on -/
def young (L : Nat) (h : Heap) : List Addr := (List.range h.objs.size).filter fun b => decide (L ≤ b)
theorem mem_young {L b : Nat} {h : Heap} : b ∈ young L h ↔ b < h.objs.size ∧ L ≤ b := by simp [young]
/-- what the consumer knows behind a stretch -/
theorem gin_back (I : Inv X pins σc H s) (O : OldX X pins L) (S : GScp N ps scope) (G : GIn X.prog X.w X.K X.mg X.base N qual scope f cd A X.stack L ⟨s, H, pv⟩ ip σ H' s') :
    Inv X pins σc H' s' ∧ Slp N scope L σ s'.heap ∧ H' L = none ∧ (∀ p ∈ pv ++ ip, s'.heap.get? p.1 = some p.2 ∧ H' p.1 = none ∧ p.1 ≠ L ∧ ∀ v, p.2.data ≠ .cell v) ∧ (∀ p ∈ pv, ∀ q ∈ ip, p.1 ≠ q.1) ∧ (∀ q ∈ ip, L < q.1) ∧ (∀ b o, b < L → s.heap.get? b = some o → H b = none → b ∉ frs X.stack → s'.heap.get? b = some o) := by
  obtain ⟨⟨hL, hd, hy⟩, J⟩ := G
  have U : Un (frs X.stack) [] H H' (trH L s.heap) s'.heap := J.base
  have noA : ∀ b : Addr, b ∉ ([] : List Addr) := fun b z => by simp at z
  refine ⟨I.call' (ch := young L s.heap) (J.os.trans rfl) ⟨fun b o e n hf hx => ?_, fun b o e n hf hx => ?_, fun b o e n hx => ?_, fun b o e hx => ?_, U.tups, U.frzs, U.tbls⟩ J.hok J.bare (fun b hb => ?_), ?_, J.free, fun p hp => ?_, hd, hy, fun b o l e n hf => ?_⟩
  · have l : b < L := Nat.lt_of_not_le fun z => hx (mem_young.mpr ⟨Heap.lt_size e, z⟩)
    exact U.keep b o (by rw [trH_get l]; exact e) n hf (noA b)
  · have l : b < L := Nat.lt_of_not_le fun z => hx (mem_young.mpr ⟨Heap.lt_size e, z⟩)
    exact U.slot b o (by rw [trH_get l]; exact e) n hf (noA b)
  · have l : b < L := Nat.lt_of_not_le fun z => hx (mem_young.mpr ⟨Heap.lt_size e, z⟩)
    exact U.free b o (by rw [trH_get l]; exact e) n (noA b)
  · have l : b < L := Nat.lt_of_not_le fun z => hx (mem_young.mpr ⟨Heap.lt_size e, z⟩)
    exact U.there b o (by rw [trH_get l]; exact e) (noA b)
  · have hb := (mem_young.mp hb).2
    exact ⟨.inr (Nat.le_trans O.s0 hb), Nat.ne_of_gt (Nat.lt_of_lt_of_le O.loc hb), fun x c e => Nat.ne_of_lt (Nat.lt_of_lt_of_le (O.cel x c e) hb), fun p hp => Nat.ne_of_lt (Nat.lt_of_lt_of_le (O.pin p hp) hb)⟩
  · obtain ⟨m, hn, hq⟩ := J.loc
    refine ⟨J.len, m, hn, fun i x v e1 e2 e3 => ?_⟩
    obtain ⟨u, r, q⟩ := hq i x v e1 e2 e3
    rcases q with ⟨q1, q2⟩ | ⟨q1, _⟩
    · exact ⟨u, r, q1, q2⟩
    · exact (S.kindOf q1).elim
  · obtain ⟨h1, h2, h3, h4, h5⟩ := J.pin p hp
    exact ⟨h1, h2, h3, h5⟩
  · exact U.keep b o (by rw [trH_get l]; exact e) n hf (noA b)
end
/-! ### waking it: next -/
def Go1 (M : Model) (A : Around) (Φ : End → Shared → Prop) (gs : GenState) (s : Shared) : Prop := match gs with
  | .fresh c => Sg M A Φ c (M.den c) [] s
  | .suspended k _ c _ fs _ => Sg M A Φ c (k (.send .none)) fs s
  | _ => False
section
variable {M : Model} {A : Around} {Φ : End → Shared → Prop} {E : Value → Shared → Prop} {s : Shared}
theorem resumeS {α : Type} {k : GenResult → Sem α} {Q : α → Shared → Prop} {l : List Value} {g : Nat} {gs : GenState} (hg : s.gens[g]? = some gs) (go : Go1 M A Φ gs (s.setGen g .running))
    (hR : ∀ r s₁, Φ (.ret r) s₁ → wpAny M A (k (End.ret r).result) Q E (s₁.setGen g .finished))
    (hY : ∀ v d l' k' c p fs s₁, s.gens.size ≤ s₁.gens.size → Φ (.susp v d l' k' c p fs) s₁ → (End.susp v d l' k' c p fs).quiet = true ∧ wpAny M A (k (.yielded v)) Q E (s₁.setGen g (End.susp v d l' k' c p fs).genState)) :
    wpAny M A (.resume g (.send .none) l k) Q E s := by
  intro Γ q hΓ
  rw [Sem.wp_resume]
  have fin : ∀ e₁ s₁, s.gens.size ≤ s₁.gens.size → Φ e₁ s₁ → e₁.quiet = true ∧ wp M Γ (k e₁.result) (fun a _ z => Q a z) (fun x _ z => E x z) q (s₁.setGen g e₁.genState) := fun e₁ s₁ hz he => by
    cases e₁ with
    | ret r => exact ⟨rfl, hR r s₁ he Γ q hΓ⟩
    | susp v d l' k' c p fs =>
      obtain ⟨h1, h2⟩ := hY v d l' k' c p fs s₁ hz he
      exact ⟨h1, h2 Γ q hΓ⟩
  cases gs with
  | fresh c =>
    obtain ⟨e₁, s₁, hr, he⟩ := go (Γ.wake c q) q rfl (hΓ.wake c q)
    have hz : s.gens.size ≤ s₁.gens.size := by have z := GenW.runs_gsz hr; rw [GenW.setGen_size] at z; exact z
    obtain ⟨h1, h2⟩ := fin e₁ s₁ hz he
    exact ⟨_, _, by unfold Wakes; rw [hg]; exact ⟨e₁, s₁, hr, h1, rfl, rfl⟩, h2⟩
  | suspended k₀ l₀ c₀ p₀ fs₀ cl =>
    obtain ⟨e₁, s₁, hr, he⟩ := go (Γ.wake c₀ q) p₀ rfl (hΓ.wake c₀ q)
    have hz : s.gens.size ≤ s₁.gens.size := by have z := GenW.runs_gsz hr; rw [GenW.setGen_size] at z; exact z
    obtain ⟨h1, h2⟩ := fin e₁ s₁ hz he
    exact ⟨_, _, by unfold Wakes; rw [hg]; exact ⟨e₁, s₁, hr, h1, rfl, rfl⟩, h2⟩
  | running => exact go.elim
  | finished => exact go.elim
end
section
variable {P : Program} {w : World} {A : Around} {Φ : End → Shared → Prop} {E : Value → Shared → Prop} {s : Shared}
theorem nextS {a : Addr} {g : Nat} {gs : GenState} {Q : Option Value → Shared → Prop} (hh : A.handled = none) (hl : s.heap.NoLimit) (hroom : A.depth < recursionLimit) (hg : s.heap.IsGen a g) (hgs : s.gens[g]? = some gs)
    (go : Go1 (model P w) A.in1 Φ gs (s.setGen g .running))
    (hP : ∀ r s₁, Φ (.ret r) s₁ → r = .ok (.ret .none) ∧ ∀ h', (∀ b o, s₁.heap.get? b = some o → h'.get? b = some o) → Q none { s₁.setGen g .finished with heap := h' })
    (hY : ∀ v d l' k' c p fs s₁, s.gens.size ≤ s₁.gens.size → Φ (.susp v d l' k' c p fs) s₁ → (End.susp v d l' k' c p fs).quiet = true ∧ Q (some v) (s₁.setGen g (End.susp v d l' k' c p fs).genState)) :
    wpAny (model P w) A (pyNext (.ref a)) Q E s := by
  unfold pyNext
  refine wpAny_bind (wpAny_attempt (wpAny_callSpecial?_slot (name := Str.ofString "__next__") hg.typeIs slot_gen_next (wpAny_call_entry slot_gen_next hg.typeIs entry_gen_next ?_ (args_gen_next _))))
  show wpAny _ A.in1 (Builtin.Generator.genWake (.ref a) (.send .none)) _ _ s
  unfold Builtin.Generator.genWake
  refine wpAny_bind (wpAny_holding (wpAny_genNumber hg (wpAny_bind (wpAny_genState hgs ?_))))
  cases gs with
  | running => exact go.elim
  | finished => exact go.elim
  | _ =>
    refine wpAny_bind (wpAny_roomToWake hl hroom ?_)
    show wpAny _ A.in1 (.resume g (.send .none) [] _) _ _ s
    refine resumeS hgs go (fun r s₁ he => ?_) (fun v d l' k' c p fs s₁ hz he => ?_)
    · obtain ⟨rfl, hq⟩ := hP r s₁ he
      show wpAny _ A.in1 (newExc (.type "StopIteration") [] >>= _) _ _ _
      refine wpAny_bind ?_
      simp only [newExc, newTuple]
      refine wpAny_bind (wpAny_newObj_type ?_ (by size_fits))
      refine wpAny_bind (m := firstArgMember _ _) (wpAny_of_eq (a := Value.none) (by first | rfl | (simp only [firstArgMember]; rfl)) ?_)
      refine wpAny_newObj_type ?_ (by size_fits)
      simp only [raiseNew]
      refine wpAny_bind (wpAny_bind (wpAny_handled ?_))
      first | rw [show A.in1.handled = none from hh] | rw [hh]
      refine wpAny_throw ?_
      refine wpAny_bind (wpAny_isInstance (T := "StopIteration") (b := true) ⟨_, Heap.get?_push_size _ rfl, rfl⟩ isSubtype_stop ?_)
      exact wpAny_pure (hq _ fun b o hb => Heap.get?_push_of_some _ (Heap.get?_push_of_some _ hb))
    · obtain ⟨h1, h2⟩ := hY v d l' k' c p fs s₁ hz he
      exact ⟨h1, wpAny_pure ⟨v, rfl, wpAny_pure h2⟩⟩
end
/-! ### a generator def called -/
/-- a generator that has not begun: a its object, g its number, L its frame, σ its slots; n items by the contract C, made at H -/
structure GMk (P : Program) (w : World) (K : PySem.W.Frag) (mg : Str → Option Value) (base : Heap) (k : Nat) (C : Ctr) (n : Nat) (H : Hp) (outer : List Env) (s : Shared) (a g : Nat) (N ps : List Str) (qual : Str) (scope : Scope) (f : Addr) (cd : Value) (c0 : Code) (σ : L2.St) (s' : Shared) : Prop where
  la : s.heap.objs.size < a
  lt : a < s'.heap.objs.size
  isg : s'.heap.IsGen a g
  gs : s'.gens[g]? = some (.fresh c0)
  os : s'.os = s.os
  bare : AllBare s'.gens
  keep : ∀ b o, s.heap.get? b = some o → s'.heap.get? b = some o
  slp : Slp N scope s.heap.objs.size σ s'.heap
  scp : GScp N ps scope
  go : ∀ A : Around, Room k A → A.frames = some outer → ∀ V : View, GIn P w K mg base N qual scope f cd A outer s.heap.objs.size V [] σ V.H V.s → C.ok n H V.H → (∀ b o, s.heap.objs.size < b → b < a → s'.heap.get? b = some o → V.s.heap.get? b = some o ∧ V.H b = none) →
    Sg (model P w) A (Fut P w K mg base N qual scope f cd A outer s.heap.objs.size C n V) c0 ((model P w).den c0) [] V.s
/-- a generator def's promise: arguments, heap, what is wanted of the number of its items and of its contract -/
abbrev SpM := List V → Hp → (Nat → Ctr → Prop) → Prop
structure GFm (P : Program) (w : World) (K : PySem.W.Frag) (mg : Str → Option Value) (base : Heap) (k : Nat) (f : Addr) (fd : FuncData) (ps : List Str) (sp : SpM) : Prop where
  len : ∀ vs H R, sp vs H R → vs.length = ps.length
  run : ∀ (A : Around) (outer : List Env) (s : Shared) (H : Hp) (args : Args) (us : List Value) (vs : List V) (R : Nat → Ctr → Prop), Room k A → Env0 P w K mg base A outer s H → BindsTo s fd args (ps.zip us) → Vals vs us → sp vs H R →
    codeAny (model P w) A (.call (.ref f) args) (fun r s' => ∃ n C a g N qual scope cd c0 σ, r = .ok (.ret (.ref a)) ∧ R n C ∧ GMk P w K mg base k C n H outer s a g N ps qual scope f cd c0 σ s') s
theorem gfm_of {P : Program} {w : World} {K : PySem.W.Frag} {mg : Str → Option Value} {base : Heap} {k : Nat} {f : Addr} {name qual : Str} {params : Arguments} {body : List Stmt} {scope : Scope} {dV kV doc pm cdv ct oc : Value} {an od : Option Addr}
    {osl : Array (Option Value)} {N ps : List Str} {sp : SpM} (lk : K.lookup f = some ⟨oc, od, .func (PySem.W.fnOf name qual params body scope dV kV doc pm an cdv ct), osl⟩) (hcd : PySem.W.codeIn K cdv qual = true) (S : GScp N ps scope)
    (len : ∀ vs H R, sp vs H R → vs.length = ps.length)
    (hbody : ∀ (A : Around) (outer : List Env) (L : Addr) (H : Hp) (vs : List V) (R : Nat → Ctr → Prop), sp vs H R → ∃ n C, R n C ∧ ∀ (A : Around) (outer : List Env) (L : Addr), Room k (A.deeper (envOfC qual scope L f cdv)) → ∃ t, GTb P w K mg base N qual scope f cdv A outer L body t ∧
      ∀ H2, C.ok n H H2 → t C { nx := fun m Hr _ H' => m = 0 ∧ C.fin Hr H', rt := fun m Hr v H' => v = .non ∧ m = 0 ∧ C.fin Hr H' } n H2 (start N vs) H2) :
    GFm P w K mg base (k + 1) f (PySem.W.fnOf name qual params body scope dV kV doc pm an cdv ct) ps sp := by
  refine ⟨len, fun A outer s H args us vs R hr e0 hb r hsp => ?_⟩
  have hl := len _ _ _ hsp
  have KX : K.In s.heap := e0.mod.kin.keeps fun b o e => (e0.bs b o e).1
  have lim : s.heap.NoLimit := e0.mod.nolimit.keeps fun b o e => (e0.bs b o e).1
  have hkind : ∀ y ∈ ps.zip us, scope.names.lookup y.1 = some .local ∨ (scope.names.lookup y.1 = some .cell ∧ ((cellsFrom (s.heap.objs.size + 1) scope.names []).lookup y.1).isSome = true) := fun ⟨n, v⟩ hy => .inl (S.par n (List.of_mem_zip hy).1)
  obtain ⟨n, C, hR, hgo⟩ := hbody A outer s.heap.objs.size H vs R hsp
  refine codeAny_call_generator hr.depth (KX _ _ lk) rfl S.co S.gen rfl (PySem.W.codeRec_of KX hcd) (hb _ _ _ _ ?_)
  refine wpAny_newFunctionEnv_cells S.kind hkind fun env he s1 x => ?_
  subst he
  have lim1 : s1.heap.NoLimit := lim.keeps x.toInCall.keep
  refine ⟨lim1, ?_⟩
  obtain ⟨h1, tk, es1, hk1⟩ := x.done
  have os1 : s1.os = s.os := by rw [es1]
  have gen1 : s1.gens = s.gens := by rw [es1]
  have lt1 : s.heap.objs.size < s1.heap.objs.size := x.toInCall.ns.lt
  have kp1 : ∀ b o, s.heap.get? b = some o → s1.heap.get? b = some o := x.toInCall.keep
  have hpl : ps.length ≤ N.length := by have := congrArg List.length S.pre; rw [List.length_take] at this; omega
  have ndP : ps.Nodup := by rw [← S.pre]; exact S.nd.sublist (List.take_sublist _ _)
  refine ⟨n, C, _, s1.gens.size, N, qual, scope, cdv, _, start N vs, rfl, hR, lt1, ?_, ⟨_, _, _, Heap.get?_push_size _ rfl, rfl, rfl, rfl⟩, Array.getElem?_push_size .., os1, AllBare.push (by rw [gen1]; exact e0.bare) rfl, fun b o e => Heap.get?_push_of_some _ (kp1 b o e), ?_, S, ?_⟩
  · show _ < (s1.heap.push _).objs.size
    rw [Heap.size_push]; exact Nat.lt_succ_self _
  · refine Slp.at (h := s1.heap) ⟨?_, _, x.toInCall.ns, fun i y v h1 h2 h3 => ?_⟩ (fun o e => Heap.get?_push_of_some _ e)
    · unfold L2.start
      rw [List.length_append, List.length_map, List.length_replicate]
      omega
    · have hi : i < vs.length := by
        unfold L2.start at h2
        by_cases hi : i < vs.length
        · exact hi
        · rw [List.getElem?_append_right (by simpa using hi), List.getElem?_replicate] at h2
          split at h2 <;> cases h2
      have ha : vs[i]? = some v := by
        unfold L2.start at h2
        rw [List.getElem?_append_left (by simpa using hi), List.getElem?_map] at h2
        cases e : vs[i]? with
        | none => rw [e] at h2; cases h2
        | some a => rw [e] at h2; cases h2; rfl
      obtain ⟨u, hu, rv⟩ := r.get ha
      have hp : ps[i]? = some y := by
        rw [← S.pre, List.getElem?_take_of_lt (by omega)]; exact h1
      have k := S.par y (List.mem_of_getElem? hp)
      exact ⟨u, rv, k, bindL_get ndP hp hu k⟩
  · intro Aw hrw hfr V G hok _
    obtain ⟨t, ht, hq⟩ := hgo Aw outer s.heap.objs.size (hrw.deeper _)
    show Sg _ Aw _ _ (.point [] fun _ => ((execs body (envOfC qual scope s.heap.objs.size f cdv)).onRaise (leaving (envOfC qual scope s.heap.objs.size f cdv))) >>= _) [] V.s
    refine sg_point ?_
    rw [Sem.onRaise_eq_wrap, Sem.bind_eq_wrap', Sem.wrap_wrap]
    refine ht.run C _ n V [] _ [] _ _ _ _ V.s _ V.H ⟨GenW.over_func, rfl, rfl, rfl⟩ (fun m' V' fl s' hs => ?_) G (hq V.H hok)
    obtain ⟨o, hs⟩ := hs
    cases fl with
    | next =>
      obtain ⟨σ', H', I', q⟩ := hs
      exact sg_end (.ok (.ret .none)) (fut_ret ⟨rfl, q.1, [], σ', H', ⟨o, I'⟩, q.2⟩)
    | brk => obtain ⟨_, _, _, q⟩ := hs; exact False.elim q
    | cont => obtain ⟨_, _, _, q⟩ := hs; exact False.elim q
    | ret u =>
      obtain ⟨v, σ', H', I', rv, ev, q⟩ := hs
      subst ev
      have eu : u = Value.none := rv
      subst eu
      exact sg_end (.ok (.ret .none)) (fut_ret ⟨rfl, q.1, [], σ', H', ⟨o, I'⟩, q.2⟩)
/-! ### enumerate over a generator -/
section
variable {P : Program} {w : World} {A : Around} {Φ : End → Shared → Prop} {E : Value → Shared → Prop} {s : Shared}
/-- the protocol's own next: the end is an exception -/
theorem nextOfS {a : Addr} {g : Nat} {gs : GenState} {Q : Value → Shared → Prop} (hh : A.handled = none) (hl : s.heap.NoLimit) (hroom : A.depth < recursionLimit) (hg : s.heap.IsGen a g) (hgs : s.gens[g]? = some gs)
    (go : Go1 (model P w) A.in1 Φ gs (s.setGen g .running))
    (hP : ∀ r s₁, Φ (.ret r) s₁ → r = .ok (.ret .none) ∧ ∀ h' e, (∀ b o, s₁.heap.get? b = some o → h'.get? b = some o) → (∃ o, h'.get? e = some o ∧ o.cls = .type "StopIteration") → E (.ref e) { s₁.setGen g .finished with heap := h' })
    (hY : ∀ v d l' k' c p fs s₁, s.gens.size ≤ s₁.gens.size → Φ (.susp v d l' k' c p fs) s₁ → (End.susp v d l' k' c p fs).quiet = true ∧ Q v (s₁.setGen g (End.susp v d l' k' c p fs).genState)) :
    wpAny (model P w) A (Builtin.SmallTypes.nextOf (.ref a)) Q E s := by
  unfold Builtin.SmallTypes.nextOf
  refine wpAny_bind (wpAny_callSpecial?_slot (name := Str.ofString "__next__") hg.typeIs slot_gen_next (wpAny_call_entry slot_gen_next hg.typeIs entry_gen_next ?_ (args_gen_next _)))
  show wpAny _ A.in1 (Builtin.Generator.genWake (.ref a) (.send .none)) _ _ s; unfold Builtin.Generator.genWake
  refine wpAny_bind (wpAny_holding (wpAny_genNumber hg (wpAny_bind (wpAny_genState hgs ?_))))
  cases gs with
  | running => exact go.elim
  | finished => exact go.elim
  | _ =>
    refine wpAny_bind (wpAny_roomToWake hl hroom ?_)
    show wpAny _ A.in1 (.resume g (.send .none) [] _) _ _ s
    refine resumeS hgs go (fun r s₁ he => ?_) (fun v d l' k' c p fs s₁ hz he => ?_)
    · obtain ⟨rfl, hq⟩ := hP r s₁ he
      show wpAny _ A.in1 (newExc (.type "StopIteration") [] >>= _) _ _ _; refine wpAny_bind ?_; simp only [newExc, newTuple]
      refine wpAny_bind (wpAny_newObj_type ?_ (by size_fits)); refine wpAny_bind (m := firstArgMember _ _) (wpAny_of_eq (a := Value.none) (by first | rfl | (simp only [firstArgMember]; rfl)) ?_)
      refine wpAny_newObj_type ?_ (by size_fits); simp only [raiseNew]; refine wpAny_bind (wpAny_bind (wpAny_handled ?_))
      first | rw [show A.in1.handled = none from hh] | rw [hh]
      refine wpAny_throw ?_
      exact hq _ _ (fun b o hb => Heap.get?_push_of_some _ (Heap.get?_push_of_some _ hb)) ⟨_, Heap.get?_push_size _ rfl, rfl⟩
    · obtain ⟨h1, h2⟩ := hY v d l' k' c p fs s₁ hz he
      exact ⟨h1, wpAny_pure ⟨v, rfl, wpAny_pure h2⟩⟩
/-- one step of enumerate, whatever it walks -/
theorem enumStep {e it : Addr} {c : Int} {old : Value} {Q : Value → Shared → Prop} (he : IsEnum s.heap e it c old)
    (h : wpAny (model P w) A (Builtin.SmallTypes.nextOf (.ref it)) (fun x s₁ => IsEnum s₁.heap e it c old ∧ ∀ h', IsEnumOut h' e it (c + 1) x s₁.heap.objs.size → h'.get? s₁.heap.objs.size = some { cls := .type "tuple", data := .seq #[.int c s₁.toks, x] } →
      (∀ b o, b ≠ e → s₁.heap.get? b = some o → h'.get? b = some o) → Q (.ref s₁.heap.objs.size) { s₁ with heap := h', toks := s₁.toks + 1 }) E s) :
    wpAny (model P w) A (Builtin.«enumerate.__next__» ⟨[.ref e], []⟩) (fun fin s' => ∃ v, fin = .done (.ret v) ∧ Q v s') E s := by
  show wpAny _ _ (field (.ref e) 2 >>= _) _ _ _
  refine wpAny_bind (wpAny_field he rfl (x := .ref it) rfl (wpAny_bind (thn h fun x s₁ hx => ?_)))
  obtain ⟨he₁, hQ⟩ := hx
  obtain ⟨h₁, g, d, tk, os⟩ := s₁
  have he₁ : IsEnum h₁ e it c old := he₁
  show wpAny _ _ (field (.ref e) 3 >>= _) _ _ ⟨h₁, g, d, tk, os⟩; refine wpAny_bind (wpAny_field he₁ rfl (x := rawInt c) rfl ?_)
  show wpAny _ _ (field (.ref e) 4 >>= _) _ _ ⟨h₁, g, d, tk, os⟩; refine wpAny_bind (wpAny_field he₁ rfl (x := .none) rfl ?_)
  show wpAny _ _ (mkInt c >>= _) _ _ ⟨h₁, g, d, tk, os⟩; refine wpAny_bind (wpAny_mkInt ?_)
  show wpAny _ _ (setField (.ref e) 3 (rawInt (c + 1)) >>= _) _ _ ⟨h₁, g, d, tk + 1, os⟩
  refine wpAny_bind (wpAny_setField_rec he₁ (by simp) fun h₂ he₂ hs₂ => ?_)
  replace hs₂ : Heap.SameBut e h₁ h₂ := hs₂
  replace he₂ : IsEnum h₂ e it (c + 1) old := he₂
  show wpAny _ _ (setField (.ref e) 4 .none >>= _) _ _ ⟨h₂, g, d, tk + 1, os⟩; refine wpAny_bind (wpAny_setField_rec he₂ (by simp) fun h₃ he₃ hs₃ => ?_)
  replace hs₃ : Heap.SameBut e h₂ h₃ := hs₃
  replace he₃ : IsEnum h₃ e it (c + 1) old := he₃
  show wpAny _ _ (newTuple [.int c tk, x] >>= _) _ _ ⟨h₃, g, d, tk + 1, os⟩; refine wpAny_bind (wpAny_newTuple ?_)
  have he₄ : IsEnum (h₃.push { cls := .type "tuple", data := .seq #[.int c tk, x] }) e it (c + 1) old := Heap.get?_push_of_some _ he₃
  generalize hh₄ : h₃.push { cls := .type "tuple", data := .seq #[.int c tk, x] } = h₄ at he₄
  have hsz : h₃.objs.size = h₁.objs.size := by rw [hs₃.1, hs₂.1]
  have hel : e < h₁.objs.size := Heap.lt_size he₁
  have ht₄ : h₄.get? h₁.objs.size = some { cls := .type "tuple", data := .seq #[.int c tk, x] } := by rw [← hh₄, ← hsz]; exact Heap.get?_push_size _ rfl
  have hk₄ : ∀ b o, b ≠ e → h₁.get? b = some o → h₄.get? b = some o := fun b o hbe hb => by
    rw [← hh₄]; exact Heap.get?_push_of_some _ (hs₃.extBut b o hbe (hs₂.extBut b o hbe hb))
  show wpAny _ _ (Builtin.SmallTypes.ownedTupleIsFree (.ref e) >>= _) _ _ ⟨h₄, g, d, tk + 1, os⟩
  rw [hsz]
  clear hh₄ he₃ hs₃ he₂ hs₂ hsz h₃ h₂
  refine wpAny_bind ?_
  · unfold Builtin.SmallTypes.ownedTupleIsFree
    refine wpAny_bind (wpAny_field he₄ rfl (x := .none) rfl (wpAny_pure ?_)); simp only [if_true]
    refine wpAny_bind (wpAny_rule (wpAny_bind (wpAny_field he₄ rfl (x := old) rfl (wpAny_bind (wpAny_setField_rec he₄ (by simp) fun h₅ he₅ hs₅ => ?_)))))
    replace hs₅ : Heap.SameBut e h₄ h₅ := hs₅
    replace he₅ : IsEnum h₅ e it (c + 1) x := he₅
    show wpAny _ _ (Builtin.SmallTypes.ownedTupleHandOut (.ref e) (.ref h₁.objs.size) >>= _) _ _ ⟨h₅, g, d, tk + 1, os⟩
    refine wpAny_bind ?_
    · unfold Builtin.SmallTypes.ownedTupleHandOut
      refine wpAny_bind (wpAny_setField_rec he₅ (by simp) fun h₆ he₆ hs₆ => ?_)
      replace hs₆ : Heap.SameBut e h₅ h₆ := hs₆
      replace he₆ : IsEnumOut h₆ e it (c + 1) x h₁.objs.size := he₆
      refine wpAny_setField_rec he₆ (by simp) fun h₇ he₇ hs₇ => ?_
      replace hs₇ : Heap.SameBut e h₆ h₇ := hs₇
      replace he₇ : IsEnumOut h₇ e it (c + 1) x h₁.objs.size := he₇
      refine wpAny_bind (wpAny_letGo (wpAny_pure ⟨_, rfl, hQ h₇ he₇ ?_ ?_⟩))
      · exact hs₇.extBut _ _ (Nat.ne_of_gt hel) (hs₆.extBut _ _ (Nat.ne_of_gt hel) (hs₅.extBut _ _ (Nat.ne_of_gt hel) ht₄))
      · exact fun b o hbe hb => hs₇.extBut b o hbe (hs₆.extBut b o hbe (hs₅.extBut b o hbe (hk₄ b o hbe hb)))
theorem nextEnum {e it : Addr} {c : Int} {old : Value} {Q : Option Value → Shared → Prop} (he : IsEnum s.heap e it c old)
    (h : wpAny (model P w) A.in1 (Builtin.SmallTypes.nextOf (.ref it)) (fun x s₁ => IsEnum s₁.heap e it c old ∧ ∀ h', IsEnumOut h' e it (c + 1) x s₁.heap.objs.size → h'.get? s₁.heap.objs.size = some { cls := .type "tuple", data := .seq #[.int c s₁.toks, x] } →
      (∀ b o, b ≠ e → s₁.heap.get? b = some o → h'.get? b = some o) → Q (some (.ref s₁.heap.objs.size)) { s₁ with heap := h', toks := s₁.toks + 1 }) (fun x s₁ => ∃ b o, x = .ref b ∧ s₁.heap.get? b = some o ∧ o.cls = .type "StopIteration" ∧ Q none s₁) s) :
    wpAny (model P w) A (pyNext (.ref e)) Q E s := by
  have hT : s.TypeIs (.ref e) "enumerate" := ⟨_, he, rfl⟩
  unfold pyNext
  refine wpAny_bind (wpAny_attempt (wpAny_callSpecial?_slot (name := Str.ofString "__next__") hT F.slot_enumerate_next (wpAny_call_entry F.slot_enumerate_next hT F.entry_enumerate_next ?_ (F.args_enumerate_next_1 _))))
  refine wpAny_mono (enumStep (Q := fun v s' => wpAny (model P w) A (pure (some v)) Q E s') he (wpAny_mono h (fun x s₁ hx => ⟨hx.1, fun h' a b c => wpAny_pure (hx.2 h' a b c)⟩) fun _ _ z => z)) (fun _ _ z => z) fun x s₁ hx => ?_
  obtain ⟨b, o, rfl, ho, hc, q⟩ := hx
  refine wpAny_bind (wpAny_isInstance (T := "StopIteration") (b := true) ⟨o, ho, hc⟩ isSubtype_stop ?_)
  exact wpAny_pure q
/-- enumerate(g) -/
theorem newEnumG (a : Addr) (g : Nat) : Meets (Builtin.«enumerate.__new__» ⟨[.type "enumerate", .ref a], []⟩) (fun _ R s => s.heap.IsGen a g ∧
      R (.ok (.ret (.ref s.heap.objs.size))) { s with heap := s.heap.push { cls := .type "enumerate", data := .fields #[.none, .bool false, .ref a, rawInt 0, .none, .none] } }) :=
  .of_wp fun prog w A R s h => by
    obtain ⟨hp, g', d, tk, os⟩ := s; obtain ⟨h1, h⟩ := h
    have hsub := sub_enumerate
    have q1 : ∀ {A' : Around} {E : Value → Shared → Prop} {Q : Value → Shared → Prop}, Q (.ref a) ⟨hp, g', d, tk, os⟩ → wpAny (model prog w) A' (pyIter (.ref a)) Q E ⟨hp, g', d, tk, os⟩ := fun q => wpAny_pyIter_gen (s := ⟨hp, g', d, tk, os⟩) h1 q
    wp_walk using q1
    refine wpAny_stack_any fun st => wpAny_pure ?_
    split
    · rename_i c _ _ _ _ _
      cases (c == Value.type "enumerate")
      · wp_walk using q1
        exact ⟨_, rfl, h⟩
      · wp_walk using q1
        exact ⟨_, rfl, h⟩
    · wp_walk using q1
      exact ⟨_, rfl, h⟩
theorem callEnumG {a : Addr} {g : Nat} {Q : Value → Shared → Prop} (hg : s.heap.IsGen a g)
    (h : ∀ h', IsEnum h' s.heap.objs.size a 0 .none → h'.objs.size = s.heap.objs.size + 1 → (∀ b o, s.heap.get? b = some o → h'.get? b = some o) → Q (.ref s.heap.objs.size) { s with heap := h' }) :
    wpAny (model P w) A (call (.type "enumerate") [.ref a]) Q E s := by
  refine callType_new F.called_enumerate (by decide) (F.typeCall_enumerate_1 _) (F.newCall_enumerate_1 _) (fun obj => F.args_object_init_2 obj _) F.entry_enumerate_new (newEnumG a g) ⟨hg, ?_⟩
  show _ ∧ _
  have he := Heap.get?_push_size s.heap (o := { cls := .type "enumerate", data := .fields #[.none, .bool false, .ref a, rawInt 0, .none, .none] }) rfl
  exact ⟨⟨_, he, rfl⟩, h _ he (Heap.size_push ..) fun b o x => Heap.get?_push_of_some _ x⟩
end
/-! ### a consumer and a sleeping generator -/
/-- what must stand for a generator that has not begun (its captured names) -/
def Csm (Cs : Heap → Hp → Prop) : Prop := ∀ (h h' : Heap) (H H' : Hp), (∀ b o, h.get? b = some o → h'.get? b = some o) → (∀ b, b < h.objs.size → H b = none → H' b = none) → Cs h H → Cs h' H'
def GoZ (X : Cx) (A : Around) (C : Ctr) (m L : Nat) (N : List Str) (qual : Str) (scope : Scope) (f : Addr) (cd : Value) (gs : GenState) (ip : List (Addr × Obj)) (σ : L2.St) (Hy : Hp) (h : Heap) (H : Hp) : Prop :=
  ∃ Cs : Heap → Hp → Prop, Cs h H ∧ (G.slp gs = true → ∀ h H, Cs h H) ∧ Csm Cs ∧ ∀ V : View, GIn X.prog X.w X.K X.mg X.base N qual scope f cd A X.stack L V ip σ V.H V.s → C.ok m Hy V.H → Cs V.s.heap V.H → Go1 (model X.prog X.w) A (Fut X.prog X.w X.K X.mg X.base N qual scope f cd A X.stack L C m V) gs V.s
section
variable {X : Cx} {A : Around} {C : Ctr} {m L : Nat} {N : List Str} {qual : Str} {scope : Scope} {f : Addr} {cd : Value} {gs : GenState} {ip : List (Addr × Obj)} {σ : L2.St} {Hy H H' : Hp} {h h' : Heap}
theorem GoZ.run (z : GoZ X A C m L N qual scope f cd gs ip σ Hy h H) (V : View) (eh : V.s.heap = h) (eH : V.H = H) (G : GIn X.prog X.w X.K X.mg X.base N qual scope f cd A X.stack L V ip σ V.H V.s) (ok : C.ok m Hy V.H) : Go1 (model X.prog X.w) A (Fut X.prog X.w X.K X.mg X.base N qual scope f cd A X.stack L C m V) gs V.s := by
  obtain ⟨Cs, c1, c2, c3, c4⟩ := z
  exact c4 V G ok (by rw [eh, eH]; exact c1)
theorem GoZ.on (z : GoZ X A C m L N qual scope f cd gs ip σ Hy h H) (hs : G.slp gs = true) : GoZ X A C m L N qual scope f cd gs ip σ Hy h' H' := by
  obtain ⟨Cs, c1, c2, c3, c4⟩ := z
  exact ⟨Cs, c2 hs _ _, c2, c3, c4⟩
theorem GoZ.grow (z : GoZ X A C m L N qual scope f cd gs ip σ Hy h H) (k1 : ∀ b o, h.get? b = some o → h'.get? b = some o) (k2 : ∀ b, b < h.objs.size → H b = none → H' b = none) : GoZ X A C m L N qual scope f cd gs ip σ Hy h' H' := by
  obtain ⟨Cs, c1, c2, c3, c4⟩ := z
  exact ⟨Cs, c3 _ _ _ _ k1 k2 c1, c2, c3, c4⟩
theorem GoZ.of (z : ∀ V : View, GIn X.prog X.w X.K X.mg X.base N qual scope f cd A X.stack L V ip σ V.H V.s → C.ok m Hy V.H → Go1 (model X.prog X.w) A (Fut X.prog X.w X.K X.mg X.base N qual scope f cd A X.stack L C m V) gs V.s) : GoZ X A C m L N qual scope f cd gs ip σ Hy h H :=
  ⟨fun _ _ => True, trivial, fun _ _ _ => trivial, fun _ _ _ _ _ _ _ => trivial, fun V G ok _ => z V G ok⟩
end
structure GZ (X : Cx) (A : Around) (C : Ctr) (m L a g : Nat) (N ps : List Str) (qual : Str) (scope : Scope) (f : Addr) (cd : Value) (H : Hp) (s : Shared) (gs : GenState) (ip : List (Addr × Obj)) (σ : L2.St) (Hy : Hp) : Prop where
  gst : s.gens[g]? = some gs
  isg : s.heap.IsGen a g
  la : L < a
  scp : GScp N ps scope
  slp : Slp N scope L σ s.heap
  ips : ∀ p ∈ ip, s.heap.get? p.1 = some p.2 ∧ H p.1 = none ∧ L < p.1 ∧ p.1 ≠ a ∧ ∀ v, p.2.data ≠ .cell v
  hL : H L = none
  ha : H a = none
  go : GoZ X A C m L N qual scope f cd gs ip σ Hy s.heap H
theorem bare_set {s : Shared} {g : Nat} {x : GenState} (h : AllBare s.gens) (hx : x.bare = true) : AllBare (s.setGen g x).gens := allBare_setGen h hx
section
variable {X : Cx} {A : Around} {C : Ctr} {m L a g : Nat} {N ps : List Str} {qual : Str} {scope : Scope} {f : Addr} {cd : Value} {H Hy : Hp} {s : Shared} {gs : GenState} {ip pv pins : List (Addr × Obj)} {σ σc : L2.St}
/-- the consumer's own objects at the walk -/
def Own (L a : Nat) (H : Hp) (h : Heap) (ip pv : List (Addr × Obj)) : Prop := ∀ p ∈ pv, h.get? p.1 = some p.2 ∧ H p.1 = none ∧ L < p.1 ∧ p.1 ≠ a ∧ (∀ v, p.2.data ≠ .cell v) ∧ ∀ q ∈ ip, p.1 ≠ q.1
theorem isGen_obj {h : Heap} {a g : Nat} (x : h.IsGen a g) : ∃ o, h.get? a = some o ∧ (∀ v, o.data ≠ .cell v) ∧ ∀ h' : Heap, h'.get? a = some o → h'.IsGen a g := by
  obtain ⟨o, nm, qn, h1, h2, h3, h4⟩ := x
  exact ⟨o, h1, (fun v q => by rw [h3] at q; cases q), fun h' e => ⟨o, nm, qn, e, h2, h3, h4⟩⟩
/-- what comes of waking it -/
def Woke (X : Cx) (A : Around) (C : Ctr) (m L a g : Nat) (N ps : List Str) (qual : Str) (scope : Scope) (f : Addr) (cd : Value) (H : Hp) (pv pins : List (Addr × Obj)) (σc : L2.St) (v : Value) (s' : Shared) : Prop :=
  ∃ m' x H' gs' ip' σ', m = m' + 1 ∧ RelV x v ∧ C.yl m H x H' ∧ Inv X pins σc H' s' ∧ slp gs' = true ∧ GZ X A C m' L a g N ps qual scope f cd H' s' gs' ip' σ' H' ∧ Own L a H' s'.heap ip' pv
theorem woken (I : Inv X pins σc H s) (O : OldX X pins L) (hh : A.handled = none) (hA : A.frames = some X.stack) (Z : GZ X A C m L a g N ps qual scope f cd H s gs ip σ Hy) (hok : C.ok m Hy H) (hpv : Own L a H s.heap ip pv) :
    ∃ Φ, Go1 (model X.prog X.w) A Φ gs (s.setGen g .running) ∧
      (∀ r s₁, Φ (.ret r) s₁ → r = .ok (.ret .none) ∧ m = 0 ∧ ∃ H', C.fin H H' ∧ Inv X pins σc H' s₁) ∧
      (∀ v d l' k' c p fs s₁, s.gens.size ≤ s₁.gens.size → Φ (.susp v d l' k' c p fs) s₁ → (End.susp v d l' k' c p fs).quiet = true ∧ Woke X A C m L a g N ps qual scope f cd H pv pins σc v (s₁.setGen g (End.susp v d l' k' c p fs).genState)) := by
  obtain ⟨oa, ea, ca, back⟩ := isGen_obj Z.isg
  have I1 : Inv X pins σc H (s.setGen g .running) := regens I rfl rfl (bare_set I.bare rfl)
  have hLs : L < s.heap.objs.size := let ⟨_, m, hn, _⟩ := Z.slp; hn.lt
  have hgs : g < s.gens.size := (Array.getElem?_eq_some_iff.mp Z.gst).1
  have G := gin_of (pv := (a, oa) :: pv) (qual := qual) (f := f) (cd := cd) (A := A) I1 O Z.scp hh hA hLs Z.hL Z.slp (fun p hp => by
      rcases List.mem_append.mp hp with hp | hp
      · rcases List.mem_cons.mp hp with rfl | hp
        · exact ⟨ea, Z.ha, Z.la, ca⟩
        · obtain ⟨h1, h2, h3, h4, h5, h6⟩ := hpv p hp
          exact ⟨h1, h2, h3, h5⟩
      · obtain ⟨h1, h2, h3, h4, h5⟩ := Z.ips p hp
        exact ⟨h1, h2, h3, h5⟩) (fun p hp q hq => by
      rcases List.mem_cons.mp hp with rfl | hp
      · exact (Z.ips q hq).2.2.2.1.symm
      · exact (hpv p hp).2.2.2.2.2 q hq)
  refine ⟨_, Z.go.run ⟨s.setGen g .running, H, (a, oa) :: pv⟩ rfl rfl G hok, fun r s₁ h => ?_, fun v d l' k' c p fs s₁ hz h => ?_⟩
  · obtain ⟨rfl, hm, ip', σ', H', G', hf⟩ := ret_fut h
    exact ⟨rfl, hm, H', hf, (gin_back I1 O Z.scp G').1⟩
  · cases m with
    | zero => exact h.elim
    | succ m' =>
      obtain ⟨hq, ip', x, σ', H', rv, G', hy, hgo⟩ := h
      obtain ⟨I2, z2, l2, p2, d2, y2, _⟩ := gin_back I1 O Z.scp G'
      have st2 : ∀ p ∈ (a, oa) :: pv, s₁.heap.get? p.1 = some p.2 ∧ H' p.1 = none := fun p hp => ⟨(p2 p (List.mem_append_left _ hp)).1, (p2 p (List.mem_append_left _ hp)).2.1⟩
      have hba : (End.susp v d l' k' c p fs).genState.bare = true := End.bare_of_quiet hq
      have gsz : g < s₁.gens.size := Nat.lt_of_lt_of_le hgs hz
      refine ⟨hq, m', x, H', (End.susp v d l' k' c p fs).genState, ip', σ', rfl, rv, hy, regens I2 rfl rfl (bare_set I2.bare hba), rfl, ⟨?_, back _ (st2 _ List.mem_cons_self).1, Z.la, Z.scp, z2, fun p hp => ?_, l2, (st2 _ List.mem_cons_self).2, GoZ.of fun V' G2 ok2 => hgo V' G2 ok2⟩, fun p hp => ?_⟩
      · exact setGen_at gsz
      · obtain ⟨h1, h2, h3, h4⟩ := p2 p (List.mem_append_right _ hp)
        exact ⟨h1, h2, y2 p hp, (d2 _ List.mem_cons_self p hp).symm, h4⟩
      · obtain ⟨h1, h2, h3, h4, h5, h6⟩ := hpv p hp
        exact ⟨(st2 p (List.mem_cons_of_mem _ hp)).1, (st2 p (List.mem_cons_of_mem _ hp)).2, h3, h4, h5, fun q hq => d2 p (List.mem_cons_of_mem _ hp) q hq⟩
end
/-! ### a for over a generator: its body is code of the layer -/
theorem wpAny_thaw {α : Type} {M : Model} {A : Around} {t : Sem α} {Q : α → Shared → Prop} {E : Value → Shared → Prop} {s : Shared} (h : wpAny M A t Q E (iced s)) :
    wpAny M A t (fun a s' => ∃ s₁, s' = thaw s.gens s₁ ∧ Icy s.gens s₁ ∧ Q a s₁) (fun e s' => ∃ s₁, s' = thaw s.gens s₁ ∧ Icy s.gens s₁ ∧ E e s₁) s := by
  intro Γ p hΓ
  have z := wp_lock M s.gens Γ t _ _ p (iced s) (icy_iced s) (h Γ p hΓ)
  rw [thaw_iced] at z
  exact Sem.wp_mono M Γ t (fun a p' s' y => y) (fun a p' s' y => y) p s z
theorem thaw_bare {Y : Array GenState} {s₁ : Shared} (h : AllBare Y) (h1 : AllBare s₁.gens) : AllBare (thaw Y s₁).gens := fun x hx => by
  obtain ⟨i, hi, e⟩ := Array.mem_iff_getElem.mp hx
  have q : (thaw Y s₁).gens[i]? = some x := by rw [Array.getElem?_eq_getElem hi, e]
  rw [thaw_get] at q
  obtain ⟨z, hz, e2⟩ := Option.map_eq_some_iff.mp q
  have bz := h1 z (Array.mem_of_getElem? hz)
  rw [← e2]
  unfold thawAt
  cases ey : Y[i]? with
  | none => exact bz
  | some y =>
    show (if slp y = true then y else z).bare = true
    split
    · exact h y (Array.mem_of_getElem? ey)
    · exact bz
theorem iced_bare {s : Shared} (h : AllBare s.gens) : AllBare (iced s).gens := fun x hx => by
  have hx : x ∈ s.gens.map ice := hx
  obtain ⟨y, hy, rfl⟩ := Array.mem_map.mp hx
  rw [bare_ice]
  exact h y hy
/-- what is wanted of an exception does not look at sleepers -/
def XeOk (X : Cx) : Prop := ∀ (Y : Array GenState) e s₁, Icy Y s₁ → AllBare Y → X.xe e s₁ → X.xe e (thaw Y s₁)
def CXok (CX : CXT) : Prop := ∀ outer H s E u (Y : Array GenState) s₁, Icy Y s₁ → AllBare Y → CX outer H s E u s₁ → CX outer H s E u (thaw Y s₁)
theorem cxok_cx {P : Program} {w : World} : CXok (L2.CX P w) := by
  intro outer H s E u Y s₁ I h c
  obtain ⟨a, B, H', cls, d, z1, fl, z2, ub, z3, z4, z5, z6⟩ := c
  exact ⟨a, B, H', cls, d, z1, fl, z2, ub, z3, z4, thaw_bare h z5, z6⟩
theorem cxok_0 : CXok CX0 := fun _ _ _ _ _ _ _ _ _ c => c.elim
theorem xeok_cx {CX : CXT} {P : Program} {w : World} {K : PySem.W.Frag} {mg : Str → Option Value} {base : Heap} {N : List Str} {qual : Str} {scope : Scope} {f : Addr} {cd : Value} {A : Around} {outer : List Env} {s : Shared} {H : Hp} {E : XK} (h : CXok CX) : XeOk (cxOf CX P w K mg base N qual scope f cd A outer s H E) := by
  intro Y e s₁ I b c Γ p hΓ
  refine Sem.wp_mono _ Γ _ ?_ ?_ p _ (wp_lock _ Y Γ _ _ _ p s₁ I (c Γ p hΓ))
  · rintro _ p' s' ⟨s₂, rfl, I2, q⟩
    exact h _ _ _ _ _ Y s₂ I2 b q
  · rintro _ p' s' ⟨s₂, rfl, I2, q⟩
    exact h _ _ _ _ _ Y s₂ I2 b q
section
variable {X : Cx} {pins : List (Addr × Obj)} {σ : L2.St} {H : Hp} {s : Shared}
/-- the sleepers of s sleep on in s' -/
def SleepOn (s s' : Shared) : Prop := ∀ (i : Nat) y, s.gens[i]? = some y → slp y = true → s'.gens[i]? = some y
theorem SleepOn.trans {s s' s'' : Shared} (a : SleepOn s s') (b : SleepOn s' s'') : SleepOn s s'' := fun i y h q => b i y (a i y h q) q
theorem inv_thaw {s₁ : Shared} (hb : AllBare s.gens) (I : Inv X pins σ H s₁) : Inv X pins σ H (thaw s.gens s₁) := regens I rfl rfl (thaw_bare hb I.bare)
theorem fro_body {body : List Stmt} {tb : TS} {D : Ends} (hx : XeOk X) (h : PSs X body tb) (I : Inv X pins σ H s) (q : tb D σ H) :
    wpAny (model X.prog X.w) X.A (execs body X.env) (fun fl s' => SP X pins D fl s' ∧ SleepOn s s') X.xe s := by
  refine wpAny_mono (wpAny_thaw (h.run pins (iced s) σ H D (regens I rfl rfl (iced_bare I.bare)) q)) ?_ ?_
  · rintro fl s' ⟨s₁, rfl, I1, z⟩
    refine ⟨?_, (still_of I1).sleeps⟩
    cases fl with
    | next => obtain ⟨σ', H', J, z⟩ := z; exact ⟨σ', H', inv_thaw I.bare J, z⟩
    | brk => obtain ⟨σ', H', J, z⟩ := z; exact ⟨σ', H', inv_thaw I.bare J, z⟩
    | cont => obtain ⟨σ', H', J, z⟩ := z; exact ⟨σ', H', inv_thaw I.bare J, z⟩
    | ret u => obtain ⟨v, σ', H', J, z⟩ := z; exact ⟨v, σ', H', inv_thaw I.bare J, z⟩
  · rintro e s' ⟨s₁, rfl, I1, z⟩
    exact hx s.gens e s₁ I1 I.bare z
theorem fro_goal {tg : Expr} {gt : TG} {x : V} {u : Value} {R : L2.St → Hp → Prop} (hx : XeOk X) (h : PG X tg gt) (I : Inv X pins σ H s) (r : RelV x u) (q : gt x σ H R) :
    wpAny (model X.prog X.w) X.A (assign tg X.env u) (fun _ s' => ∃ σ' H', Inv X pins σ' H' s' ∧ R σ' H' ∧ SleepOn s s') X.xe s := by
  refine wpAny_mono (wpAny_thaw (h.run pins (iced s) σ H x u R (regens I rfl rfl (iced_bare I.bare)) r q)) ?_ ?_
  · rintro fl s' ⟨s₁, rfl, I1, σ', H', J, z⟩
    exact ⟨σ', H', inv_thaw I.bare J, z, (still_of I1).sleeps⟩
  · rintro e s' ⟨s₁, rfl, I1, z⟩
    exact hx s.gens e s₁ I1 I.bare z
end
/-- a source of n items whose state may lie outside the heap -/
structure SrcG (X : Cx) (pins : List (Addr × Obj)) (tg : Expr) (it : Addr) (n : Nat) (yld : Nat → Hp → V → Hp → Hp → Prop) (ok : Nat → Hp → Hp → Prop) (fin : Hp → Hp → Prop) (R : Nat → Hp → Shared → Prop) : Prop where
  item : ∀ (i : Nat) (σ : L2.St) (H : Hp) (s : Shared) (E : Value → Shared → Prop), Inv X pins σ H s → R i H s → i < n → wpAny (model X.prog X.w) X.A (pyNext (.ref it)) (fun r s1 => ∃ u, r = some u ∧
    wpAny (model X.prog X.w) X.A (letOwnedTupleGo tg (.ref it) u) (fun _ s2 => ∃ (x : V) (H' Hy : Hp) (fp : List Addr), Inv X pins σ H' s2 ∧ RelV x u ∧ yld i H x H' Hy ∧ (∀ b ∈ fp, FpOk X pins H' b) ∧ (∀ b ∈ fp, ∃ o, s2.heap.get? b = some o ∧ ∀ v, o.data ≠ .cell v) ∧
      ∀ H3 s3, (∀ b ∈ fp, ∀ o, s2.heap.get? b = some o → s3.heap.get? b = some o) → (∀ b ∈ fp, H3 b = none) → SleepOn s2 s3 → ok (i + 1) Hy H3 → R (i + 1) H3 s3) E s1) E s
  done : ∀ (σ : L2.St) (H : Hp) (s : Shared) (E : Value → Shared → Prop), Inv X pins σ H s → R n H s → wpAny (model X.prog X.w) X.A (pyNext (.ref it)) (fun r s1 => r = none ∧ ∃ H', Inv X pins σ H' s1 ∧ fin H H') E s
abbrev TIG := L2.St → Hp → (Nat → (Nat → Hp → V → Hp → Hp → Prop) → (Nat → Hp → Hp → Prop) → (Hp → Hp → Prop) → Hp → Prop) → Prop
structure PIG (X : Cx) (tg iter : Expr) (wi : TIG) : Prop where
  run : ∀ (pins : List (Addr × Obj)) (s : Shared) (σ : L2.St) (H : Hp) (Rr : Nat → (Nat → Hp → V → Hp → Hp → Prop) → (Nat → Hp → Hp → Prop) → (Hp → Hp → Prop) → Hp → Prop), Inv X pins σ H s → wi σ H Rr →
    wpAny (model X.prog X.w) X.A (eval iter X.env) (fun v s1 => wpAny (model X.prog X.w) X.A (pyIter v) (fun itv s2 => ∃ (it : Addr) (n : Nat) (yld : Nat → Hp → V → Hp → Hp → Prop) (ok : Nat → Hp → Hp → Prop) (fin : Hp → Hp → Prop) (R : Nat → Hp → Shared → Prop) (H' : Hp), itv = .ref it ∧ Inv X pins σ H' s2 ∧ SrcG X pins tg it n yld ok fin R ∧ R 0 H' s2 ∧ Rr n yld ok fin H') X.xe s1) X.xe s
def tForS (wi : TIG) (gt : TG) (tb : TS) : TS := fun D σ H => wi σ H fun n yld ok fin H1 => ∃ Pv : Nat → L2.St → Hp → Prop, Pv 0 σ H1 ∧
  (∀ i σ' H', i < n → Pv i σ' H' → ∀ x H2 Hy, yld i H' x H2 Hy → gt x σ' H2 fun σ2 H3 => tb { D with nx := fun σ4 H4 => Pv (i + 1) σ4 H4 ∧ ok (i + 1) Hy H4, ct := fun σ4 H4 => Pv (i + 1) σ4 H4 ∧ ok (i + 1) Hy H4, bk := D.nx } σ2 H3) ∧
  ∀ σ' H' H2, Pv n σ' H' → fin H' H2 → D.nx σ' H2
theorem ps_forG {X : Cx} {tg iter : Expr} {body : List Stmt} {wi : TIG} {gt : TG} {tb : TS} {pos : Pos} (hx : XeOk X) (hp : PassesOwn (model X.prog X.w) X.A X.env X.xe) (hi : PIG X tg iter wi) (hg : PG X tg gt) (hb : PSs X body tb)
    (hs : ∀ x, foldedSetIterable iter X.env x = pure x := by intro _; rfl) : PS X (.For tg iter body [] pos) (tForS wi gt tb) := by
  refine ⟨fun pins s σ H D I h => ?_⟩
  refine wpAny_For (thn (hi.run pins s σ H _ I h) fun v s1 h1 => thn h1 fun itv s2 h2 => ?_) hs
  obtain ⟨it, n, yld, ok, fin, R, H2, rfl, I2, S, r0, Pv, p0, step, done⟩ := h2
  refine codeAny_forLoop_any (fun z s' => ∃ i σ' H', z = n - i ∧ i ≤ n ∧ Inv X pins σ' H' s' ∧ R i H' s' ∧ Pv i σ' H') ?_ n ⟨0, σ, H2, rfl, Nat.zero_le _, I2, r0, p0⟩
  rintro z s3 ⟨i, σ3, H3, rfl, hi3, I3, r3, p3⟩
  by_cases hlt : i < n
  · refine wpAny_passesOwn hp (thn (S.item i σ3 H3 s3 X.xe I3 r3 hlt) fun r s4 ⟨u, hr, h4⟩ => ?_)
    subst hr
    refine wpAny_passesOwn hp (thn h4 fun _ s5 ⟨x, H5, Hy, fp, I5, r5, y5, f5, o5, nxt⟩ => ?_)
    have I5' := I5.pinned f5 o5
    refine wpAny_passesOwn hp (thn (fro_goal hx hg I5' r5 (step i σ3 H3 hlt p3 x H5 Hy y5)) fun _ s6 ⟨σ6, H6, I6, q6, e6⟩ => ?_)
    refine wpAny_passesOwn hp (thn (fro_body hx hb I6 q6) fun fl s7 q7 => ?_)
    obtain ⟨q7, e7⟩ := q7
    have again : ∀ {σ7 : L2.St} {H7 : Hp}, Inv X (pins ++ pinsAt fp s5.heap) σ7 H7 s7 → Pv (i + 1) σ7 H7 ∧ ok (i + 1) Hy H7 → ∃ m, m < n - i ∧ ∃ i σ' H', m = n - i ∧ i ≤ n ∧ Inv X pins σ' H' s7 ∧ R i H' s7 ∧ Pv i σ' H' := fun {σ7 H7} I7 n7 => by
      have pin : ∀ b ∈ fp, ∀ o, s5.heap.get? b = some o → s7.heap.get? b = some o ∧ H7 b = none := fun b hb o e => by
        have z := I7.pin (b, o) (List.mem_append_right _ (List.mem_append_right _ (mem_pinsAt hb e)))
        exact ⟨z.1, z.2.1⟩
      refine ⟨n - (i + 1), by omega, i + 1, σ7, H7, rfl, hlt, I7.unpinned, nxt H7 s7 (fun b hb o e => (pin b hb o e).1) (fun b hb => ?_) (e6.trans e7) n7.2, n7.1⟩
      obtain ⟨o, e, _⟩ := o5 b hb
      exact (pin b hb o e).2
    cases fl with
    | next => obtain ⟨σ7, H7, I7, n7⟩ := q7; exact again I7 n7
    | cont => obtain ⟨σ7, H7, I7, n7⟩ := q7; exact again I7 n7
    | brk => obtain ⟨σ7, H7, I7, q7⟩ := q7; exact ⟨σ7, H7, I7.unpinned, q7⟩
    | ret v => obtain ⟨x7, σ7, H7, I7, r7, q7⟩ := q7; exact ⟨x7, σ7, H7, I7.unpinned, r7, q7⟩
  · have e : i = n := by omega
    subst e
    refine wpAny_passesOwn hp (thn (S.done σ3 H3 s3 X.xe I3 r3) fun r s4 ⟨hr, H4, I4, f4⟩ => ?_)
    subst hr
    exact wpAny_execs_nil ⟨σ3, H4, I4, done σ3 H3 H4 p3 f4⟩
/-! ### sources: f(..), enumerate(f(..)) -/
section
variable {X : Cx} {C : Ctr} {n L a g e : Nat} {N ps : List Str} {qual : Str} {scope : Scope} {f : Addr} {cd : Value} {pins : List (Addr × Obj)} {k : Nat}
theorem fp_young {σ : L2.St} {H : Hp} {s : Shared} (O : OldX X pins L) (I : Inv X pins σ H s) {b : Addr} {H' : Hp} (hb : L ≤ b) (hn : H' b = none) : FpOk X pins H' b := by
  refine ⟨hn, Nat.ne_of_gt (Nat.lt_of_lt_of_le O.loc hb), fun hf => ?_, .inr (Nat.le_trans O.s0 hb), fun x c e => Nat.ne_of_lt (Nat.lt_of_lt_of_le (O.cel x c e) hb), fun p hp => Nat.ne_of_lt (Nat.lt_of_lt_of_le (O.pin p hp) hb)⟩
  obtain ⟨_, o, ho, _⟩ := I.ok.funs.mem hf
  exact absurd (Nat.lt_of_lt_of_le (Heap.lt_size ho) O.s0) (Nat.not_lt.mpr hb)
theorem slp_obj {h : Heap} {σ : L2.St} (z : Slp N scope L σ h) : ∃ o, h.get? L = some o ∧ ∀ v, o.data ≠ .cell v := by
  obtain ⟨_, m, ⟨o, es, ep, ho, hd, _⟩, _⟩ := z
  exact ⟨o, ho, fun v q => by rw [hd] at q; cases q⟩
/-- it sleeps on, at another heap -/
theorem GZ.on {A : Around} {m : Nat} {H H3 Hy : Hp} {s s3 : Shared} {gs : GenState} {ip : List (Addr × Obj)} {σ : L2.St} (Z : GZ X A C m L a g N ps qual scope f cd H s gs ip σ Hy) (hs : G.slp gs = true) (k1 : ∀ b ∈ L :: a :: ip.map (·.1), ∀ o, s.heap.get? b = some o → s3.heap.get? b = some o)
    (k2 : ∀ b ∈ L :: a :: ip.map (·.1), H3 b = none) (so : SleepOn s s3) : GZ X A C m L a g N ps qual scope f cd H3 s3 gs ip σ Hy := by
  obtain ⟨oa, ea, ca, back⟩ := isGen_obj Z.isg
  have hm : ∀ p ∈ ip, p.1 ∈ L :: a :: ip.map (·.1) := fun p hp => List.mem_cons_of_mem _ (List.mem_cons_of_mem _ (List.mem_map_of_mem hp))
  exact ⟨so g gs Z.gst hs, back _ (k1 a (by simp) _ ea), Z.la, Z.scp, Z.slp.at (k1 L List.mem_cons_self), fun p hp => ⟨k1 p.1 (hm p hp) _ (Z.ips p hp).1, k2 p.1 (hm p hp), (Z.ips p hp).2.2⟩, k2 L List.mem_cons_self, k2 a (by simp), Z.go.on hs⟩
theorem GZ.objs {A : Around} {m : Nat} {H Hy : Hp} {s : Shared} {gs : GenState} {ip : List (Addr × Obj)} {σ : L2.St} (Z : GZ X A C m L a g N ps qual scope f cd H s gs ip σ Hy) : ∀ b ∈ L :: a :: ip.map (·.1), L ≤ b ∧ H b = none ∧ ∃ o, s.heap.get? b = some o ∧ ∀ v, o.data ≠ .cell v := fun b hb => by
  rcases List.mem_cons.mp hb with rfl | hb
  · exact ⟨Nat.le_refl _, Z.hL, slp_obj Z.slp⟩
  · rcases List.mem_cons.mp hb with rfl | hb
    · obtain ⟨oa, ea, ca, _⟩ := isGen_obj Z.isg
      exact ⟨Nat.le_of_lt Z.la, Z.ha, oa, ea, ca⟩
    · obtain ⟨p, hp, rfl⟩ := List.mem_map.mp hb
      obtain ⟨h1, h2, h3, _, h5⟩ := Z.ips p hp
      exact ⟨Nat.le_of_lt h3, h2, _, h1, h5⟩
def yldP (C : Ctr) (n : Nat) : Nat → Hp → V → Hp → Hp → Prop := fun i H x H' Hy => H' = Hy ∧ C.yl (n - i) H x H'
def okP (C : Ctr) (n : Nat) : Nat → Hp → Hp → Prop := fun i H1 H2 => C.ok (n - i) H1 H2
theorem srcP {tg : Expr} {σ0 : L2.St} {H0 : Hp} {s0 : Shared} (O : OldX X pins L) (I0 : Inv X pins σ0 H0 s0) (hr : Room 1 X.A) :
    SrcG X pins tg a n (yldP C n) (okP C n) C.fin (fun i H s => ∃ gs ip σ Hy, GZ X X.A.in1 C (n - i) L a g N ps qual scope f cd H s gs ip σ Hy ∧ C.ok (n - i) Hy H) where
  item := by
    intro i σc H s E I ⟨gs, ip, σ, Hy, Z, hok⟩ hi
    obtain ⟨Φ, go, hP, hY⟩ := woken (pv := []) I O (A := X.A.in1) hr.hd I.ok.frames Z hok (fun p hp => by cases hp)
    refine nextS hr.hd I.nolimit hr.depth Z.isg Z.gst go (fun r s₁ h => ?_) (fun v d l' k' c p fs s₁ hz h => ?_)
    · obtain ⟨_, hm, _⟩ := hP r s₁ h
      omega
    · obtain ⟨hq, m', x, H', gs', ip', σ', em, rv, hy, I2, hs2, Z2, _⟩ := hY v d l' k' c p fs s₁ hz h
      refine ⟨hq, v, rfl, ?_⟩
      obtain ⟨o, nm, qn, ho, hc, hd, _⟩ := Z2.isg
      refine go_of ho hc hd (by decide) ⟨x, H', H', L :: a :: ip'.map (·.1), I2, rv, ⟨rfl, hy⟩, fun b hb => fp_young O I (Z2.objs b hb).1 (Z2.objs b hb).2.1, fun b hb => (Z2.objs b hb).2.2, fun H3 s3 k1 k2 so hk => ?_⟩
      have e1 : n - (i + 1) = m' := by omega
      have hk : C.ok (n - (i + 1)) H' H3 := hk
      rw [e1] at hk ⊢
      exact ⟨gs', ip', σ', H', Z2.on hs2 k1 k2 so, hk⟩
  done := by
    intro σc H s E I ⟨gs, ip, σ, Hy, Z, hok⟩
    obtain ⟨Φ, go, hP, hY⟩ := woken (pv := []) I O (A := X.A.in1) hr.hd I.ok.frames Z hok (fun p hp => by cases hp)
    refine nextS hr.hd I.nolimit hr.depth Z.isg Z.gst go (fun r s₁ h => ?_) (fun v d l' k' c p fs s₁ hz h => ?_)
    · obtain ⟨hr1, hm, H', hf, I2⟩ := hP r s₁ h
      refine ⟨hr1, fun h' hk => ⟨rfl, H', ?_, hf⟩⟩
      have I3 : Inv X pins σc H' (s₁.setGen g .finished) := regens I2 rfl rfl (bare_set I2.bare rfl)
      exact I3.kept (t' := s₁.toks) hk
    · obtain ⟨hq, m', x, H', gs', ip', σ', em, _⟩ := hY v d l' k' c p fs s₁ hz h
      omega
def yldE (C : Ctr) (n : Nat) : Nat → Hp → V → Hp → Hp → Prop := fun i H x H2 Hy => ∃ T y, C.yl (n - i) H y Hy ∧ x = .ref T ∧ Hy T = none ∧ H2 = upd Hy T (.tup [.int (i : Nat), y])
theorem srcE {elts : List Expr} {kk : Nat} {tpos : Pos} {σ0 : L2.St} {H0 : Hp} {s0 : Shared} (O : OldX X pins L) (I0 : Inv X pins σ0 H0 s0) (hr : Room 2 X.A) (hLe : L < e) (hea : e ≠ a) :
    SrcG X pins (.Tuple elts kk tpos) e n (yldE C n) (okP C n) C.fin (fun i H s => ∃ old gs ip σ Hy, IsEnum s.heap e a (i : Nat) old ∧ H e = none ∧ (∀ q ∈ ip, e ≠ q.1) ∧ GZ X X.A.in1.in1 C (n - i) L a g N ps qual scope f cd H s gs ip σ Hy ∧ C.ok (n - i) Hy H) where
  item := by
    intro i σc H s E I ⟨old, gs, ip, σ, Hy, he, hne, hip, Z, hok⟩ hi
    obtain ⟨Φ, go, hP, hY⟩ := woken (pv := [(e, _)]) I O (A := X.A.in1.in1) hr.hd I.ok.frames Z hok (fun p hp => by
      obtain rfl := List.mem_singleton.mp hp
      exact ⟨he, hne, hLe, hea, fun v q => (by cases q), hip⟩)
    refine nextEnum he (nextOfS (A := X.A.in1) hr.hd I.nolimit hr.in1.depth Z.isg Z.gst go (fun r s₁ h => ?_) (fun v d l' k' c p fs s₁ hz h => ?_))
    · obtain ⟨_, hm, _⟩ := hP r s₁ h
      omega
    · obtain ⟨hq, m', x, H', gs', ip', σ', em, rv, hy, I2, hs2, Z2, ow⟩ := hY v d l' k' c p fs s₁ hz h
      generalize (s₁.setGen g (End.susp v d l' k' c p fs).genState) = s2 at I2 Z2 ow ⊢
      obtain ⟨he2, hne2, _, _, _, hip2⟩ := ow _ (List.mem_singleton.mpr rfl)
      refine ⟨hq, he2, fun h' ho hT hk => ⟨_, rfl, ?_⟩⟩
      have hel : e < s2.heap.objs.size := Heap.lt_size he2
      refine wpAny_letOwnedTupleGo_enum (s := { s2 with heap := h', toks := s2.toks + 1 }) ho fun h'' he' sb => ?_
      have hT2 : h''.get? s2.heap.objs.size = some { cls := .type "tuple", data := .seq #[.int i s2.toks, v] } := (sb.2 _ (Nat.ne_of_gt hel)).trans hT
      have new : ObjOk X.prog X.w (upd H' s2.heap.objs.size (.tup [.int (i : Nat), x])) h'' s2.heap.objs.size (.tup [.int (i : Nat), x]) := ⟨by show 2 ≤ sizeLine; decide, [.int i s2.toks, v], .cons ⟨_, rfl⟩ (.cons rv .nil), ⟨_, hT2, rfl, _, rfl⟩⟩
      have kp : ∀ b o, b ≠ e → s2.heap.get? b = some o → h''.get? b = some o := fun b o hb q => (sb.2 b hb).trans (hk b o hb q)
      have I3 : Inv X pins σc (upd H' s2.heap.objs.size (.tup [.int (i : Nat), x])) { s2 with heap := h'', toks := s2.toks + 1 } :=
        I2.turnedNew (ch := [e]) (fun b ob hb q => kp b ob (fun z => hb (by simp [z])) q) (fun b hb => by rw [List.mem_singleton.mp hb]; exact fp_young O I (Nat.le_of_lt hLe) hne2) (Nat.le_refl _) new
      have nT : ∀ b o, s2.heap.get? b = some o → b ≠ s2.heap.objs.size := fun b o q => Nat.ne_of_lt (Heap.lt_size q)
      have ne_e : ∀ b ∈ L :: a :: ip'.map (·.1), b ≠ e := fun b hb => by
        rcases List.mem_cons.mp hb with rfl | hb
        · exact Nat.ne_of_lt hLe
        · rcases List.mem_cons.mp hb with rfl | hb
          · exact hea.symm
          · obtain ⟨q, hq', rfl⟩ := List.mem_map.mp hb
            exact (hip2 q hq').symm
      refine ⟨.ref s2.heap.objs.size, _, H', e :: L :: a :: ip'.map (·.1), I3, rfl, ⟨_, x, hy, rfl, I2.hok.fresh (Nat.le_refl _), rfl⟩, fun b hb => ?_, fun b hb => ?_, fun H3 s3 k1 k2 so hk3 => ?_⟩
      · rcases List.mem_cons.mp hb with rfl | hb
        · exact fp_young O I (Nat.le_of_lt hLe) (by rw [upd_ne (Nat.ne_of_lt hel)]; exact hne2)
        · obtain ⟨z1, z2, o, z3, z4⟩ := Z2.objs b hb
          exact fp_young O I z1 (by rw [upd_ne (nT b o z3)]; exact z2)
      · rcases List.mem_cons.mp hb with rfl | hb
        · exact ⟨_, he', fun v q => by cases q⟩
        · obtain ⟨z1, z2, o, z3, z4⟩ := Z2.objs b hb
          exact ⟨o, kp b o (ne_e b hb) z3, z4⟩
      · have e1 : n - (i + 1) = m' := by omega
        have hk3 : C.ok (n - (i + 1)) H' H3 := hk3
        rw [e1] at hk3 ⊢
        refine ⟨v, gs', ip', σ', H', ?_, k2 e List.mem_cons_self, hip2, Z2.on hs2 (fun b hb o q => k1 b (List.mem_cons_of_mem _ hb) o (kp b o (ne_e b hb) q)) (fun b hb => k2 b (List.mem_cons_of_mem _ hb)) (fun j y q1 q2 => so j y q1 q2), hk3⟩
        have e2 : ((i + 1 : Nat) : Int) = (i : Int) + 1 := by omega
        rw [e2]
        exact k1 e List.mem_cons_self _ he'
  done := by
    intro σc H s E I ⟨old, gs, ip, σ, Hy, he, hne, hip, Z, hok⟩
    obtain ⟨Φ, go, hP, hY⟩ := woken (pv := [(e, _)]) I O (A := X.A.in1.in1) hr.hd I.ok.frames Z hok (fun p hp => by
      obtain rfl := List.mem_singleton.mp hp
      exact ⟨he, hne, hLe, hea, fun v q => (by cases q), hip⟩)
    refine nextEnum he (nextOfS (A := X.A.in1) hr.hd I.nolimit hr.in1.depth Z.isg Z.gst go (fun r s₁ h => ?_) (fun v d l' k' c p fs s₁ hz h => ?_))
    · obtain ⟨hr1, hm, H', hf, I2⟩ := hP r s₁ h
      refine ⟨hr1, fun h' b hk ⟨o, hb, hc⟩ => ⟨b, o, rfl, hb, hc, rfl, H', ?_, hf⟩⟩
      have I3 : Inv X pins σc H' (s₁.setGen g .finished) := regens I2 rfl rfl (bare_set I2.bare rfl)
      exact I3.kept (t' := s₁.toks) hk
    · obtain ⟨hq, m', x, H', gs', ip', σ', em, _⟩ := hY v d l' k' c p fs s₁ hz h
      omega
end
/-! ### f(..), o.m() of generator defs in a for -/
abbrev TGc := L2.St → Hp → (Nat → Ctr → Hp → Prop) → Prop
structure PGm (X : Cx) (k : Nat) (e : Expr) (t : TGc) : Prop where
  run : ∀ (pins : List (Addr × Obj)) (s : Shared) (σ : L2.St) (H : Hp) (R : Nat → Ctr → Hp → Prop), Inv X pins σ H s → t σ H R → wpAny (model X.prog X.w) X.A (eval e X.env)
    (fun u s' => ∃ n C a g N ps qual scope f cd c0 σg H1 s1, u = .ref a ∧ R n C H1 ∧ Inv X pins σ H1 s1 ∧ GMk X.prog X.w X.K X.mg X.base k C n H1 X.stack s1 a g N ps qual scope f cd c0 σg s') X.xe s
section
variable {X : Cx} {k : Nat} {f C : Addr} {fd : FuncData} {ps : List Str} {sp : SpM} {x m : Str} {p pos apos : Pos} {e o : Expr} {es : List Expr} {t : TA} {ta : TE} {tg : TGc}
theorem run_gfm {pins : List (Addr × Obj)} {σ : L2.St} {H : Hp} {s : Shared} {us : List Value} {vs : List V} {R : Nat → Ctr → Hp → Prop} {E1 : Value → Shared → Prop} (F : GFm X.prog X.w X.K X.mg X.base k f fd ps sp) (hr : Room k X.A) (hb : Binds X.K fd ps []) (I : Inv X pins σ H s) (r : Vals vs us) (h : sp vs H fun n C => R n C H) :
    wpAny (model X.prog X.w) X.A (call (.ref f) us) (fun u s' => ∃ n C a g N ps qual scope f cd c0 σg H1 s1, u = .ref a ∧ R n C H1 ∧ Inv X pins σ H1 s1 ∧ GMk X.prog X.w X.K X.mg X.base k C n H1 X.stack s1 a g N ps qual scope f cd c0 σg s') E1 s := by
  have hl2 : (us ++ []).length = ps.length := by rw [List.append_nil, ← r.length]; exact F.len _ _ _ h
  have hB := hb s us I.kIn hl2
  rw [List.append_nil] at hB
  refine wpAny_call (codeAny_mono (F.run X.A X.stack s H ⟨us, []⟩ us vs _ hr I.env0 hB r h) fun r s' hq => ?_)
  obtain ⟨n, C, a, g, N, qual, scope, cd, c0, σg, rfl, hR, M⟩ := hq
  exact ⟨n, C, a, g, N, ps, qual, scope, f, cd, c0, σg, H, s, rfl, hR, I, M⟩
def tGcall (sp : SpM) (t : TA) : TGc := fun σ H R => t σ H fun vs H1 => sp vs H1 fun n C => R n C H1
theorem pgm_call (F : GFm X.prog X.w X.K X.mg X.base k f fd ps sp) (hr : Room k X.A) (hg : Gl X x) (hm : X.mg x = some (.ref f)) (hk : PySem.W.keepIn X.K (.ref f) = true) (hb : Binds X.K fd ps [])
    (ha : PA X (e :: es) t) (hdb : (x == ("__debug__" : Str)) = false := by decide) (he : starEach (e :: es) X.env = (false, eval e X.env) :: starEach es X.env := by rfl) (hpl : (backTo pos (starEach es X.env)).any (·.1) = false := by rfl) :
    PGm X k (.Call (.Name x p) (e :: es) [] pos) (tGcall sp t) := by
  refine ⟨fun pins s σ H R I h => ?_⟩
  refine wpAny_Call_Name_kw (ld_glob I hg hm ?_ hdb)
  refine PySem.W.callWith_K (h₀ := X.base) I.ok.mod.kin hk (thn (ha.run pos pins s σ H _ I h) fun us s1 ⟨vs, H1, I1, r, q⟩ => ⟨I1.kIn, ?_⟩) he hpl
  exact run_gfm F hr hb I1 r q
def tGmeth (C : Addr) (m : Str) (sp : SpM) (ta : TE) : TGc := fun σ H R => ta σ H fun x H1 => ∃ a dx fs, x = .ref a ∧ H1 a = some (.ins C dx fs) ∧ fs.lookup m = none ∧ sp [x] H1 fun n C => R n C H1
theorem pgm_meth0 {pl : Sem Bool} (he : PE X o ta) (c : Cls X.K C) (hm : Meth X.K C m f) (F : GFm X.prog X.w X.K X.mg X.base k f fd ps sp) (hr : Room k X.A) (hb : Binds X.K fd ps [])
    (ht : eval (.Call (.Attribute o m apos) [] [] pos) X.env = (do
      let ov ← eval o X.env
      standAt apos.atName
      let (f, first) ← holding [ov] (getMethod ov m pl)
      callWith pos f first (backTo pos (starEach [] X.env)) (backToKw pos (keywordEach [] X.env))) := by rfl) :
    PGm X k (.Call (.Attribute o m apos) [] [] pos) (tGmeth C m sp ta) := by
  refine ⟨fun pins s σ H R I h => ?_⟩
  refine PySem.W.methodCall_KW (pl := pl) (thn (he.run pins s σ H _ I h) fun u s1 ⟨x, H1, I1, rx, a, dx, fs, ex, ea, l, q⟩ => ?_) ht
  subst ex
  obtain rfl : u = Value.ref a := rx
  refine getmeth_ok I1 ea c hm l ?_
  exact PySem.W.callWith_K0 (first := [.ref a]) I1.kIn hm.kp (run_gfm (us := [.ref a]) (vs := [.ref a]) F hr hb I1 (.cons rfl .nil) q)
theorem made {pins : List (Addr × Obj)} {σ : L2.St} {H1 : Hp} {s1 s' : Shared} {A : Around} {n : Nat} {C : Ctr} {a g : Nat} {N : List Str} {qual : Str} {scope : Scope} {f : Addr} {cd : Value} {c0 : Code} {σg : L2.St} (I : Inv X pins σ H1 s1) (M : GMk X.prog X.w X.K X.mg X.base k C n H1 X.stack s1 a g N ps qual scope f cd c0 σg s') (hr : Room k A) (hA : A.frames = some X.stack) :
    Inv X pins σ H1 s' ∧ OldX X pins s1.heap.objs.size ∧ GZ X A C n s1.heap.objs.size a g N ps qual scope f cd H1 s' (.fresh c0) [] σg H1 :=
  ⟨I.call' (ch := []) M.os (Un.kept M.keep) (I.hok.kept M.keep) M.bare (fun b z => by simp at z), old_of I (Nat.le_refl _), M.gs, M.isg, M.la, M.scp, M.slp, fun p hp => (by cases hp), I.hok.fresh (Nat.le_refl _), I.hok.fresh (Nat.le_of_lt M.la), (⟨fun h Hh => ∀ b o, s1.heap.objs.size < b → b < a → s'.heap.get? b = some o → h.get? b = some o ∧ Hh b = none, fun b o h1 _ e => ⟨e, I.hok.fresh (Nat.le_of_lt h1)⟩, (fun z => nomatch z), fun h h' H H' k1 k2 z b o h1 h2 e => ⟨k1 b o (z b o h1 h2 e).1, k2 b (Heap.lt_size (z b o h1 h2 e).1) (z b o h1 h2 e).2⟩, fun V G ok z => M.go A hr hA V G ok z⟩ : GoZ X A C n s1.heap.objs.size N qual scope f cd (.fresh c0) [] σg H1 s'.heap H1)⟩
def tIgP (t : TGc) : TIG := fun σ H Rr => t σ H fun n C H1 => C.ok n H1 H1 ∧ Rr n (yldP C n) (okP C n) C.fin H1
theorem pig_gen {tgt : Expr} (h : PGm X k e tg) (hr : Room (k + 1) X.A) (hr1 : Room 1 X.A) : PIG X tgt e (tIgP tg) := by
  refine ⟨fun pins s σ H Rr I q => ?_⟩
  refine thn (h.run pins s σ H _ I q) fun u s' ⟨n, C, a, g, N, ps, qual, scope, f, cd, c0, σg, H1, s1, eu, ⟨hok, hR⟩, I1, M⟩ => ?_
  subst eu
  obtain ⟨I2, O, Z⟩ := made (A := X.A.in1) I1 M hr.in1 I1.ok.frames
  exact wpAny_pyIter_gen M.isg ⟨a, n, _, _, _, _, H1, rfl, I2, srcP O I2 hr1, ⟨_, [], σg, H1, Z, hok⟩, hR⟩
def tIgE (t : TGc) : TIG := fun σ H Rr => t σ H fun n C H1 => C.ok n H1 H1 ∧ Rr n (yldE C n) (okP C n) C.fin H1
theorem pig_enum {elts : List Expr} {kk : Nat} {tpos : Pos} (h : PGm X k e tg) (hr : Room (k + 2) X.A) (hr2 : Room 2 X.A) (hg : Gl X "enumerate") (hm : X.mg "enumerate" = none) (he : starEach [e] X.env = (false, eval e X.env) :: starEach [] X.env := by rfl) :
    PIG X (.Tuple elts kk tpos) (.Call (.Name "enumerate" p) [e] [] pos) (tIgE tg) := by
  refine ⟨fun pins s σ H Rr I q => ?_⟩
  refine wpAny_Call_Name_kw (ld_blt I hg hm boot_enumerate ?_)
  refine PyProof.Rows.callWith_type1 ?_ he rfl
  rw [he]
  show wpAny _ _ (spliced ((false, eval e X.env) :: backTo pos (starEach [] X.env))) _ _ s
  refine Calls.spliced_cons (thn (h.run pins s σ H _ I q) fun u s' ⟨n, C, a, g, N, ps, qual, scope, f, cd, c0, σg, H1, s1, eu, ⟨hok, hR⟩, I1, M⟩ => ?_)
  subst eu
  refine Calls.spliced_nil ?_
  obtain ⟨I2, O, Z⟩ := made (A := X.A.in1.in1) I1 M hr.in1.in1 I1.ok.frames
  refine callEnumG M.isg fun h' hE hz hk => wpAny_pyIter_enum hE ?_
  have I3 : Inv X pins σ H1 { s' with heap := h' } := I2.kept (t' := s'.toks) hk
  have hea : s'.heap.objs.size ≠ a := Nat.ne_of_gt M.lt
  have Z3 : GZ X X.A.in1.in1 C n s1.heap.objs.size a g N ps qual scope f cd H1 { s' with heap := h' } (.fresh c0) [] σg H1 := ⟨Z.gst, Z.isg.keeps hk, Z.la, Z.scp, Z.slp.at (fun o q => hk _ o q), fun p hp => (by cases hp), Z.hL, Z.ha, Z.go.grow hk fun _ _ z => z⟩
  exact ⟨s'.heap.objs.size, n, _, _, _, _, H1, rfl, I3, srcE O I3 hr2 (Nat.lt_trans M.la M.lt) hea, ⟨.none, _, [], σg, H1, hE, I2.hok.fresh (Nat.le_refl _), fun q hq => (by cases hq), Z3, hok⟩, hR⟩
end
/-! ### enumerate over a tuple; zip of three tuples -/
section
variable {X : Cx} {pins : List (Addr × Obj)} {σ : L2.St} {H : Hp} {s : Shared}
/-- the tuple at a, each item in a new pair with its place -/
def IteT (K : PySem.W.Frag) (a : Addr) : It :=
  ⟨fun i H => ∃ (xs : List V) (x : V), SqT K H a xs ∧ xs[i]? = some x, fun i H v H' => ∃ T x, v = .ref T ∧ H T = none ∧ H' = upd H T (.tup [.int (i : Nat), x]) ∧ ∀ xs, SqT K H a xs → xs[i]? = some x, fun i H => ∃ xs : List V, SqT K H a xs ∧ xs.length ≤ i⟩
theorem turn_enumT {P : Program} {w : World} {K : PySem.W.Frag} {elts : List Expr} {kk : Nat} {tpos : Pos} (a e it : Addr) :
    Turn P w K (.Tuple elts kk tpos) (IteT K a) [e, it] e (fun i h => (∃ old, IsEnum h e it ((i : Nat) : Int) old) ∧ h.IsTupleIter it a i ∧ e ≠ it) where
  mem := by simp
  obj := fun i h st b hb => by
    obtain ⟨⟨old, he⟩, ⟨o, ho, hc, hd⟩, _⟩ := st
    have e' : b = e ∨ b = it := by simpa using hb
    rcases e' with z | z
    · rw [z]; exact ⟨_, he, fun v q => nomatch q⟩
    · rw [z]; exact ⟨o, ho, fun v q => by rw [hd] at q; cases q⟩
  keep := fun i h h' st k => by
    obtain ⟨⟨old, he⟩, hi, hne⟩ := st
    exact ⟨⟨old, k e (by simp) _ he⟩, hi.at fun o q => k it (by simp) o q, hne⟩
  item := by
    intro X hP hw hK hc i pins s σ H E I hf st hg
    subst hP hw hK
    obtain ⟨⟨old, he⟩, hit, hne⟩ := st
    obtain ⟨xs, x, hq, hx⟩ := hg
    obtain ⟨its, rv, p, hz⟩ := I.tuple hq
    obtain ⟨u, hu, ru⟩ := rv.get hx
    have hel : e < s.heap.objs.size := Heap.lt_size he
    have hil : it < s.heap.objs.size := by obtain ⟨_, q, _⟩ := hit; exact Heap.lt_size q
    refine nextEnum he (wpAny_nextOf_tuple_item hit p (x := u) (by simpa using hu) fun h₁ hit₁ hs₁ => ⟨(hs₁.2 e hne).trans he, fun h' ho hT hk => ⟨_, rfl, ?_⟩⟩)
    have sz1 : h₁.objs.size = s.heap.objs.size := hs₁.1
    have sz1 : ({ s with heap := h₁ } : Shared).heap.objs.size = s.heap.objs.size := sz1
    rw [sz1] at ho hT ⊢
    refine wpAny_letOwnedTupleGo_enum (s := { s with heap := h', toks := s.toks + 1 }) ho fun h'' he' sb => ?_
    have hT2 : h''.get? s.heap.objs.size = some { cls := .type "tuple", data := .seq #[.int i s.toks, u] } := (sb.2 _ (Nat.ne_of_gt hel)).trans hT
    have new : ObjOk X.prog X.w (upd H s.heap.objs.size (.tup [.int (i : Nat), x])) h'' s.heap.objs.size (.tup [.int (i : Nat), x]) := ⟨by show 2 ≤ sizeLine; decide, [.int i s.toks, u], .cons ⟨_, rfl⟩ (.cons ru .nil), ⟨_, hT2, rfl, _, rfl⟩⟩
    have kp : ∀ b o, b ≠ e → b ≠ it → s.heap.get? b = some o → h''.get? b = some o := fun b o h1 h2 q => (sb.2 b h1).trans (hk b o h1 ((hs₁.2 b h2).trans q))
    have I1 : Inv X pins σ (upd H s.heap.objs.size (.tup [.int (i : Nat), x])) { s with heap := h'', toks := s.toks + 1 } :=
      I.turnedNew (ch := [e, it]) (fun b ob hb q => kp b ob (fun z => hb (by simp [z])) (fun z => hb (by simp [z])) q) hf (Nat.le_refl _) new
    refine ⟨.ref s.heap.objs.size, _, I1, rfl, ⟨_, x, rfl, I.hok.fresh (Nat.le_refl _), rfl, fun ys hy => by rw [I.tuple_inj hy hq]; exact hx⟩, ⟨⟨u, ?_⟩, ?_, hne⟩, fun b hb => ?_⟩
    · have e1 : ((i + 1 : Nat) : Int) = (i : Int) + 1 := by omega
      rw [e1]; exact he'
    · exact hit₁.at fun o q => (sb.2 it (Ne.symm hne)).trans (hk it o (Ne.symm hne) q)
    · have hb' : b < s.heap.objs.size := by
        have e' : b = e ∨ b = it := by simpa using hb
        rcases e' with z | z
        · rw [z]; exact hel
        · rw [z]; exact hil
      rw [upd_ne (Nat.ne_of_lt hb')]
      exact (hf b hb).1
  done := by
    intro X hP hw hK hc i pins s σ H E I hf st hg
    subst hP hw hK
    obtain ⟨⟨old, he⟩, hit, hne⟩ := st
    obtain ⟨xs, hq, hx⟩ := hg
    obtain ⟨its, rv, p, hz⟩ := I.tuple hq
    obtain ⟨f0, f1, f2, f3, f4, f5⟩ := hf it (by simp)
    have hl := rv.length
    refine nextEnum he (wpAny_nextOf_tuple_end (I.ok.hd hc) hit p (by simp; omega) fun h' b eb ⟨o, hb, hcl⟩ => ⟨b, o, rfl, hb, hcl, rfl, I.turned (t' := s.toks) (fun b o hb q => eb b o hb q) f0 f1 f3 f4 f5⟩)
  self := fun A i s Q E st h => by
    obtain ⟨⟨_, he⟩, _⟩ := st
    exact wpAny_pyIter_enum he h
/-- enumerate(v), its two new cells -/
theorem newEnumB {v : Value} {o : Obj} {G : Heap → Prop} (B : Begins v o G) : Meets (Builtin.«enumerate.__new__» ⟨[.type "enumerate", v], []⟩) (fun _ R s => G s.heap ∧
      R (.ok (.ret (.ref (s.heap.push o).objs.size))) { s with heap := (s.heap.push o).push { cls := .type "enumerate", data := .fields #[.none, .bool false, .ref s.heap.objs.size, rawInt 0, .none, .none] } }) :=
  .of_wp fun prog w A R s h => by
    obtain ⟨hp, g', d, tk, os⟩ := s; obtain ⟨h1, h⟩ := h
    have hsub := sub_enumerate
    have q1 : ∀ {A' : Around} {E : Value → Shared → Prop} {Q : Value → Shared → Prop}, Q (.ref hp.objs.size) ⟨hp.push o, g', d, tk, os⟩ → wpAny (model prog w) A' (pyIter v) Q E ⟨hp, g', d, tk, os⟩ := fun q => B.iter prog w _ _ ⟨hp, g', d, tk, os⟩ _ h1 q
    wp_walk using q1
    refine wpAny_stack_any fun st => wpAny_pure ?_
    split
    · rename_i c _ _ _ _ _
      cases (c == Value.type "enumerate")
      · wp_walk using q1
        exact ⟨_, rfl, h⟩
      · wp_walk using q1
        exact ⟨_, rfl, h⟩
    · wp_walk using q1
      exact ⟨_, rfl, h⟩
theorem callEnumB {P : Program} {w : World} {A : Around} {E : Value → Shared → Prop} {v : Value} {o : Obj} {G : Heap → Prop} {Q : Value → Shared → Prop} (B : Begins v o G) (h1 : G s.heap)
    (h : ∀ h', IsEnum h' (s.heap.objs.size + 1) s.heap.objs.size 0 .none → h'.get? s.heap.objs.size = some o → (∀ b o, s.heap.get? b = some o → h'.get? b = some o) → Q (.ref (s.heap.objs.size + 1)) { s with heap := h' }) :
    wpAny (model P w) A (call (.type "enumerate") [v]) Q E s := by
  refine callType_new F.called_enumerate (by decide) (F.typeCall_enumerate_1 _) (F.newCall_enumerate_1 _) (fun obj => F.args_object_init_2 obj _) F.entry_enumerate_new (newEnumB B) ⟨h1, ?_⟩
  have hz : (s.heap.push o).objs.size = s.heap.objs.size + 1 := Heap.size_push ..
  show _ ∧ _
  rw [hz]
  have he : IsEnum ((s.heap.push o).push { cls := .type "enumerate", data := .fields #[.none, .bool false, .ref s.heap.objs.size, rawInt 0, .none, .none] }) (s.heap.objs.size + 1) s.heap.objs.size 0 .none := by
    have z := Heap.get?_push_size (s.heap.push o) (o := { cls := .type "enumerate", data := .fields #[.none, .bool false, .ref s.heap.objs.size, rawInt 0, .none, .none] }) rfl
    rw [hz] at z; exact z
  exact ⟨⟨_, he, rfl⟩, h _ he (Heap.get?_push_of_some _ (Heap.get?_push_size _ B.free)) fun b o x => Heap.get?_push_of_some _ (Heap.get?_push_of_some _ x)⟩
/-- enumerate of a list or of a tuple -/
def iEnumS (K : PySem.W.Frag) (ta : TA) : TI := fun σ H R => ta σ H fun vs H1 => ∃ a xs, vs = [.ref a] ∧ ((SqL K H1 a xs ∧ R (Ite K a) H1) ∨ (SqT K H1 a xs ∧ R (IteT K a) H1))
theorem pi_enumS {e : Expr} {ta : TA} {p pos tpos : Pos} {elts : List Expr} {kk : Nat} (hg : Gl X "enumerate") (hm : X.mg "enumerate" = none) (ha : PA X [e] ta) (hs : starEach [e] X.env = [(false, eval e X.env)] := by rfl) :
    PI X (.Tuple elts kk tpos) (.Call (.Name "enumerate" p) [e] [] pos) (iEnumS X.K ta) := by
  refine ⟨fun pins s σ H R I h => ?_⟩
  refine Call_ (ld_blt I hg hm boot_enumerate (PyProof.Rows.callWith_type1 (thn (ha.run pos pins s σ H _ I h) fun us s1 ⟨vs, H1, I1, r1, q1⟩ => ?_) hs rfl))
  obtain ⟨a, xs, ex, q1⟩ := q1
  subst ex
  cases r1 with
  | cons r rr =>
    cases rr
    cases r
    have fin : ∀ (h' : Heap) (J : It) (tn : Nat → Heap → Prop), (∀ b o, s1.heap.get? b = some o → h'.get? b = some o) → IsEnum h' (s1.heap.objs.size + 1) s1.heap.objs.size 0 .none → Turn X.prog X.w X.K (.Tuple elts kk tpos) J [s1.heap.objs.size + 1, s1.heap.objs.size] (s1.heap.objs.size + 1) tn → tn 0 h' → R J H1 →
        wpAny (model X.prog X.w) X.A (pyIter (.ref (s1.heap.objs.size + 1))) (PIE X pins σ (.Tuple elts kk tpos) R) X.xe { s1 with heap := h' } := fun h' J tn hk he T t0 q => by
      refine wpAny_pyIter_enum (s := { s1 with heap := h' }) he ?_
      refine ⟨s1.heap.objs.size + 1, [s1.heap.objs.size + 1, s1.heap.objs.size], _, J, H1, rfl, I1.kept (t' := s1.toks) hk, T, t0, fun b hb => ?_, q⟩
      have e' : b = s1.heap.objs.size + 1 ∨ b = s1.heap.objs.size := by simpa using hb
      have hle : s1.heap.objs.size ≤ b := by
        rcases e' with z | z
        · rw [z]; exact Nat.le_add_right _ _
        · rw [z]; exact Nat.le_refl _
      exact I1.fpOk hle (I1.hok.fresh hle)
    rcases q1 with ⟨hq, q⟩ | ⟨hq, q⟩
    · obtain ⟨its, rv, p', hz⟩ := I1.list hq
      exact call_enumerate_list p'.isList fun h' he hit hsz hk => fin h' _ _ hk he (turn_enum a _ _) ⟨⟨.none, he⟩, hit, Nat.succ_ne_self _⟩ q
    · obtain ⟨its, rv, p', hz⟩ := I1.tuple hq
      exact callEnumB (begins_tuple a its.toArray) p' fun h' he hit hk => fin h' _ _ hk he (turn_enumT a _ _) ⟨⟨.none, he⟩, ⟨_, hit, rfl, rfl⟩, Nat.succ_ne_self _⟩ q
end
section
variable {X : Cx} {pins : List (Addr × Obj)} {σ : L2.St} {H : Hp} {s : Shared}
def ItZ3 (K : PySem.W.Frag) (a b c : Addr) : It :=
  ⟨fun i H => ∃ (xs ys zs : List V) (x y z : V), SqT K H a xs ∧ SqT K H b ys ∧ SqT K H c zs ∧ xs[i]? = some x ∧ ys[i]? = some y ∧ zs[i]? = some z,
    fun i H v H' => ∃ T x y z, v = .ref T ∧ H T = none ∧ H' = upd H T (.tup [x, y, z]) ∧ (∀ xs, SqT K H a xs → xs[i]? = some x) ∧ (∀ ys, SqT K H b ys → ys[i]? = some y) ∧ ∀ zs, SqT K H c zs → zs[i]? = some z,
    fun i H => ∃ xs ys zs : List V, SqT K H a xs ∧ SqT K H b ys ∧ SqT K H c zs ∧ (i ≤ xs.length ∧ i ≤ ys.length ∧ i ≤ zs.length) ∧ (i = xs.length ∨ i = ys.length ∨ i = zs.length)⟩
theorem turn_zip3 {P : Program} {w : World} {K : PySem.W.Frag} {elts : List Expr} {kk : Nat} {tpos : Pos} {a b c N : Nat} (ha : a < N) (hb : b < N) (hc : c < N) :
    Turn P w K (.Tuple elts kk tpos) (ItZ3 K a b c) [N + 5, N + 3, N + 4, N, N + 1, N + 2] (N + 5) (fun i h => IsZip h (N + 5) (N + 3) (N + 4) .none ∧ IsTupOf3 h (N + 3) (.ref N) (.ref (N + 1)) (.ref (N + 2)) ∧ (∃ x y z, IsTupOf3 h (N + 4) x y z) ∧ h.IsTupleIter N a i ∧ h.IsTupleIter (N + 1) b i ∧ h.IsTupleIter (N + 2) c i) where
  mem := by simp
  obj := fun i h st d hd => by
    obtain ⟨hz, hTI, ⟨x, y, z, hTO⟩, ⟨o1, e1, _, d1⟩, ⟨o2, e2, _, d2⟩, ⟨o3, e3, _, d3⟩⟩ := st
    simp only [List.mem_cons, List.not_mem_nil, or_false] at hd
    rcases hd with q | q | q | q | q | q
    · rw [q]; exact ⟨_, hz, fun v q => nomatch q⟩
    · rw [q]; exact ⟨_, hTI, fun v q => nomatch q⟩
    · rw [q]; exact ⟨_, hTO, fun v q => nomatch q⟩
    · rw [q]; exact ⟨o1, e1, fun v q => by rw [d1] at q; cases q⟩
    · rw [q]; exact ⟨o2, e2, fun v q => by rw [d2] at q; cases q⟩
    · rw [q]; exact ⟨o3, e3, fun v q => by rw [d3] at q; cases q⟩
  keep := fun i h h' st k => by
    obtain ⟨hz, hTI, ⟨x, y, z, hTO⟩, h1, h2, h3⟩ := st
    exact ⟨k _ (by simp) _ hz, k _ (by simp) _ hTI, ⟨x, y, z, k _ (by simp) _ hTO⟩, h1.at fun o q => k _ (by simp) o q, h2.at fun o q => k _ (by simp) o q, h3.at fun o q => k _ (by simp) o q⟩
  item := by
    intro X hP hw hK hcm i pins s σ H E I hf st hg
    subst hP hw hK
    obtain ⟨hz, hTI, ⟨x0, y0, z0, hTO⟩, h1, h2, h3⟩ := st
    obtain ⟨xs, ys, zs, x, y, z, qx, qy, qz, ex, ey, ez⟩ := hg
    obtain ⟨t1, r1, p1, _⟩ := I.tuple qx
    obtain ⟨t2, r2, p2, _⟩ := I.tuple qy
    obtain ⟨t3, r3, p3, _⟩ := I.tuple qz
    obtain ⟨u1, w1, v1⟩ := r1.get ex
    obtain ⟨u2, w2, v2⟩ := r2.get ey
    obtain ⟨u3, w3, v3⟩ := r3.get ez
    have hzl : N + 5 < s.heap.objs.size := Heap.lt_size hz
    have one : ∀ {f : Nat} {d : Addr}, d ∈ [f] → f < N → d < N := fun hd hf => by rw [List.mem_singleton.mp hd]; exact hf
    have S := zip_sep3 (N := N) (fp1 := [a]) (fp2 := [b]) (fp3 := [c]) (fun d hd => one hd ha) (fun d hd => one hd hb) (fun d hd => one hd hc)
    have hA : X.A.in1.handled = none := I.ok.hd hcm
    refine wpAny_pyNext_zipD3_item S (Draws.tuple hA N a (Nat.ne_of_lt ha) t1.toArray) (Draws.tuple hA (N + 1) b (Nat.ne_of_lt (Nat.lt_succ_of_lt hb)) t2.toArray) (Draws.tuple hA (N + 2) c (Nat.ne_of_lt (Nat.lt_succ_of_lt (Nat.lt_succ_of_lt hc))) t3.toArray) hz hTI hTO ⟨h1, p1⟩ ⟨h2, p2⟩ ⟨h3, p3⟩
      (by have := (List.getElem?_eq_some_iff.mp w1).1; simpa using this) (by have := (List.getElem?_eq_some_iff.mp w2).1; simpa using this) (by have := (List.getElem?_eq_some_iff.mp w3).1; simpa using this) fun x1 x2 x3 h' tk y1 y2 y3 z' TO' s1 s2 s3 hT hsz hk => ?_
    have e1 : u1 = x1 := by
      have q : t1[i]? = some x1 := by simpa using y1
      rw [w1] at q; exact Option.some.inj q
    have e2 : u2 = x2 := by
      have q : t2[i]? = some x2 := by simpa using y2
      rw [w2] at q; exact Option.some.inj q
    have e3 : u3 = x3 := by
      have q : t3[i]? = some x3 := by simpa using y3
      rw [w3] at q; exact Option.some.inj q
    subst e1 e2 e3
    refine ⟨_, rfl, wpAny_letOwnedTupleGo_zip (s := { s with heap := h', toks := tk }) z' fun h'' z'' sb => ?_⟩
    have hT2 : h''.get? s.heap.objs.size = some { cls := .type "tuple", data := .seq #[u1, u2, u3] } := (sb.2 _ (Nat.ne_of_gt hzl)).trans hT
    have new : ObjOk X.prog X.w (upd H s.heap.objs.size (.tup [x, y, z])) h'' s.heap.objs.size (.tup [x, y, z]) := ⟨by show 3 ≤ sizeLine; decide, [u1, u2, u3], .cons v1 (.cons v2 (.cons v3 .nil)), ⟨_, hT2, rfl, _, rfl⟩⟩
    have I1 : Inv X pins σ (upd H s.heap.objs.size (.tup [x, y, z])) { s with heap := h'', toks := tk } :=
      I.turnedNew (t' := tk) (ch := [N + 5, N + 3, N + 4, N, N + 1, N + 2]) (fun d o hd q => (sb.2 d (fun q' => hd (by simp [q']))).trans (hk d o (fun q' => hd (by simp [q'])) (fun q' => hd (by simp [q'])) (fun q' => hd (by simp [q'])) (fun q' => hd (by simp [q'])) (fun q' => hd (by simp [q'])) q)) hf (Nat.le_refl _) new
    have n5 : ∀ k : Nat, k < 5 → N + k ≠ N + 5 := fun k hk => by omega
    refine ⟨.ref s.heap.objs.size, _, I1, rfl, ⟨_, x, y, z, rfl, I.hok.fresh (Nat.le_refl _), rfl, fun l hl => by rw [I.tuple_inj hl qx]; exact ex, fun l hl => by rw [I.tuple_inj hl qy]; exact ey, fun l hl => by rw [I.tuple_inj hl qz]; exact ez⟩, ⟨z'', ?_, ⟨u1, u2, u3, ?_⟩, ?_, ?_, ?_⟩, fun d hd => ?_⟩
    · exact (sb.2 _ (n5 3 (by decide))).trans (hk _ _ (n5 3 (by decide)) (show (N + 3 : Nat) ≠ N + 4 by omega) (show (N + 3 : Nat) ≠ N by omega) (show (N + 3 : Nat) ≠ N + 1 by omega) (show (N + 3 : Nat) ≠ N + 2 by omega) hTI)
    · exact (sb.2 _ (n5 4 (by decide))).trans TO'
    · exact s1.1.at fun o q => (sb.2 _ (n5 0 (by decide))).trans q
    · exact s2.1.at fun o q => (sb.2 _ (n5 1 (by decide))).trans q
    · exact s3.1.at fun o q => (sb.2 _ (n5 2 (by decide))).trans q
    · have hlt : d < s.heap.objs.size := by
        simp only [List.mem_cons, List.not_mem_nil, or_false] at hd
        have : d ≤ N + 5 := by
          rcases hd with q | q | q | q | q | q <;> rw [q] <;> first | exact Nat.le_refl _ | exact Nat.add_le_add_left (by decide) N | exact Nat.le_add_right _ _
        exact Nat.lt_of_le_of_lt this hzl
      rw [upd_ne (Nat.ne_of_lt hlt)]
      exact (hf d hd).1
  done := by
    intro X hP hw hK hcm i pins s σ H E I hf st hg
    subst hP hw hK
    obtain ⟨hz, hTI, ⟨x0, y0, z0, hTO⟩, h1, h2, h3⟩ := st
    obtain ⟨xs, ys, zs, qx, qy, qz, ⟨l1, l2, l3⟩, hend⟩ := hg
    obtain ⟨t1, r1, p1, _⟩ := I.tuple qx
    obtain ⟨t2, r2, p2, _⟩ := I.tuple qy
    obtain ⟨t3, r3, p3, _⟩ := I.tuple qz
    have m1 := r1.length
    have m2 := r2.length
    have m3 := r3.length
    have one : ∀ {f : Nat} {d : Addr}, d ∈ [f] → f < N → d < N := fun hd hf => by rw [List.mem_singleton.mp hd]; exact hf
    have S := zip_sep3 (N := N) (fp1 := [a]) (fp2 := [b]) (fp3 := [c]) (fun d hd => one hd ha) (fun d hd => one hd hb) (fun d hd => one hd hc)
    have hA : X.A.in1.handled = none := I.ok.hd hcm
    refine wpAny_pyNext_zipD3_end S (Draws.tuple hA N a (Nat.ne_of_lt ha) t1.toArray) (Draws.tuple hA (N + 1) b (Nat.ne_of_lt (Nat.lt_succ_of_lt hb)) t2.toArray) (Draws.tuple hA (N + 2) c (Nat.ne_of_lt (Nat.lt_succ_of_lt (Nat.lt_succ_of_lt hc))) t3.toArray) hz hTI hTO ⟨h1, p1⟩ ⟨h2, p2⟩ ⟨h3, p3⟩
      (by simp; omega) (by simp; omega) (by simp; omega) (by simp; omega) fun h' tk hk => ⟨rfl, ?_⟩
    exact I.turnedL (t' := tk) (ch := [N + 5, N + 3, N + 4, N, N + 1, N + 2]) (fun d o hd q => hk d o (fun q' => hd (by simp [q'])) (fun q' => hd (by simp [q'])) (fun q' => hd (by simp [q'])) (fun q' => hd (by simp [q'])) (fun q' => hd (by simp [q'])) q) hf
  self := fun A i s Q E st h => wpAny_pyIter_zip st.1 h
def iZip3 (K : PySem.W.Frag) (ta : TA) : TI := fun σ H R => ta σ H fun vs H1 => ∃ a b c xs ys zs, vs = [.ref a, .ref b, .ref c] ∧ SqT K H1 a xs ∧ SqT K H1 b ys ∧ SqT K H1 c zs ∧ R (ItZ3 K a b c) H1
theorem pi_zip3 {e e2 e3 : Expr} {ta : TA} {p pos tpos : Pos} {elts : List Expr} {kk : Nat} (hg : Gl X "zip") (hm : X.mg "zip" = none) (ha : PA X [e, e2, e3] ta)
    (hs : starEach [e, e2, e3] X.env = (false, eval e X.env) :: starEach [e2, e3] X.env := by rfl) (hpl : (backTo pos (starEach [e2, e3] X.env)).any (·.1) = false := by rfl) :
    PI X (.Tuple elts kk tpos) (.Call (.Name "zip" p) [e, e2, e3] [] pos) (iZip3 X.K ta) := by
  refine ⟨fun pins s σ H R I h => ?_⟩
  refine Call_ (ld_blt I hg hm boot_zip (PyProof.Rows.callWith_type1 (thn (ha.run pos pins s σ H _ I h) fun us s1 ⟨vs, H1, I1, r1, q1⟩ => ?_) hs hpl))
  obtain ⟨a, b, c, xs, ys, zs, ex, q1, q2, q3, q⟩ := q1
  subst ex
  cases r1 with
  | cons r rr =>
    cases rr with
    | cons r2 rr =>
      cases rr with
      | cons r3 rr =>
        cases rr
        cases r; cases r2; cases r3
        obtain ⟨t1, v1, p1, _⟩ := I1.tuple q1
        obtain ⟨t2, v2, p2, _⟩ := I1.tuple q2
        obtain ⟨t3, v3, p3, _⟩ := I1.tuple q3
        have lt : ∀ {d : Addr} {its : Array Value}, IsTup s1.heap d its → d < s1.heap.objs.size := fun x => by obtain ⟨o, ho, _⟩ := x; exact Heap.lt_size ho
        refine zip_begins3 (begins_tuple a t1.toArray) (begins_tuple b t2.toArray) (begins_tuple c t3.toArray) p1 p2 p3 fun h' hz hT hO g1 g2 g3 hsz hk => wpAny_pyIter_zip (s := { s1 with heap := h' }) hz ?_
        refine ⟨s1.heap.objs.size + 5, [s1.heap.objs.size + 5, s1.heap.objs.size + 3, s1.heap.objs.size + 4, s1.heap.objs.size, s1.heap.objs.size + 1, s1.heap.objs.size + 2], _, _, H1, rfl, I1.kept (t' := s1.toks) hk, turn_zip3 (lt p1) (lt p2) (lt p3), ⟨hz, hT, ⟨_, _, _, hO⟩, ⟨_, g1, rfl, rfl⟩, ⟨_, g2, rfl, rfl⟩, ⟨_, g3, rfl, rfl⟩⟩, fun d hd => ?_, q⟩
        have hle : s1.heap.objs.size ≤ d := by
          simp only [List.mem_cons, List.not_mem_nil, or_false] at hd
          rcases hd with q | q | q | q | q | q <;> rw [q] <;> first | exact Nat.le_refl _ | exact Nat.le_add_right _ _
        exact I1.fpOk hle (I1.hok.fresh hle)
end
end G
/-! ### a list or a tuple -/
namespace G
open PySem PySem.Spec PyProof.Rows L2
def SqS (K : PySem.W.Frag) (H : Hp) (a : Addr) (xs : List V) : Prop := SqL K H a xs ∨ SqT K H a xs
theorem SqS.same {K : PySem.W.Frag} {H H' : Hp} {a : Addr} {xs : List V} (h : SqS K H a xs) (s : Same H H') : SqS K H' a xs := h.imp (fun z => s.seq z) (fun z => sqT_same s z)
def rIxSq (K : PySem.W.Frag) : V → V → Hp → VK → Prop := fun x y H Q => rIxL K x y H Q ∨ rIxT K x y H Q
section
variable {X : Cx} {K : PySem.W.Frag}
theorem kIxS (h : X.K = K := by rfl) : IxR X (rIxSq K) := by
  subst h
  intro va sl pins s σ H x y u v Q I rx ry q hs
  rcases q with q | q
  · exact ix_list va sl pins s σ H x y u v Q I rx ry q hs
  · exact ix_tup va sl pins s σ H x y u v Q I rx ry q hs
theorem kpiEnumS {e : Expr} {ta : TA} {p pos tpos : Pos} {elts : List Expr} {kk : Nat} (hg : Gl X "enumerate") (hm : X.mg "enumerate" = none) (ha : PA X [e] ta) (h : X.K = K := by rfl) (hs : starEach [e] X.env = [(false, eval e X.env)] := by rfl) :
    PI X (.Tuple elts kk tpos) (.Call (.Name "enumerate" p) [e] [] pos) (iEnumS K ta) := h ▸ pi_enumS hg hm ha hs
theorem kpiZip3 {e e2 e3 : Expr} {ta : TA} {p pos tpos : Pos} {elts : List Expr} {kk : Nat} (hg : Gl X "zip") (hm : X.mg "zip" = none) (ha : PA X [e, e2, e3] ta) (h : X.K = K := by rfl)
    (hs : starEach [e, e2, e3] X.env = (false, eval e X.env) :: starEach [e2, e3] X.env := by rfl) (hpl : (backTo pos (starEach [e2, e3] X.env)).any (·.1) = false := by rfl) :
    PI X (.Tuple elts kk tpos) (.Call (.Name "zip" p) [e, e2, e3] [] pos) (iZip3 K ta) := h ▸ pi_zip3 hg hm ha hs hpl
end
section
variable {K : PySem.W.Frag} {H : Hp} {Q : VK} {a : Addr} {xs : List V} {n : Int} {v x : V} {σ : L2.St} {D : Ends} {ts : TS} {g : TG} {tt : TT} {te : TE} {vs : List Nat}
theorem r_ixS (h : SqS K H a xs) (e : atI xs n = some v) (q : Q v H) : rIxSq K (.ref a) (.int n) H Q := h.imp (fun z => r_ixL z e q) (fun z => r_ixT z e q)
theorem r_lenS (h : SqS K H a xs) (q : Q (.int (xs.length : Int)) H) : rLn K [.ref a] H Q := h.elim (fun z => r_lenL z q) (fun z => r_lenT z q)
theorem r_lstOfS (h : SqS K H a xs) (q : ∀ l, H l = none → Q (.ref l) (upd H l (.lst xs))) : rLstOf K [.ref a] H Q := h.elim (fun z => r_lstOfL z q) (fun z => r_lstOfT z q)
theorem r_isiT2 {cs : List V} {us : List Value} {t : Value} {b : Bool} {tp : Addr} (h : H tp = some (.tup cs)) (k : Paired ClsV cs us) (ty : TyX K H x t) (e : PySem.W.kitAny K t us = some b) (q : Q (.bl b) H) : rIsiT K [x, .ref tp] H Q := ⟨x, tp, cs, t, us, b, rfl, h, k, ty, e, q⟩
/-- a for over enumerate of a list or tuple: one turn binds a new pair -/
def LoopE (K : PySem.W.Frag) (ws : List V) (g : TG) (ts : TS) (D : Ends) (σ : L2.St) (H : Hp) : Prop := ∃ a xs, ws = [.ref a] ∧ ((SqL K H a xs ∧ Turns (Ite K a) g ts D σ H) ∨ (SqT K H a xs ∧ Turns (IteT K a) g ts D σ H))
theorem r_forE {ta : TA} (q : ta σ H fun ws H1 => LoopE K ws g ts D σ H1) : tFor (iEnumS K ta) g ts D σ H := q
theorem loopE (hS : SqS K H a xs) (Pv : Nat → L2.St → Hp → Prop) (h0 : Pv 0 σ H) (hl : ∀ i σ' H', Pv i σ' H' → (SqL K H a xs → SqL K H' a xs) ∧ (SqT K H a xs → SqT K H' a xs))
    (hs : ∀ i x T σ' H', xs[i]? = some x → Pv i σ' H' → H' T = none → g (.ref T) σ' (upd H' T (.tup [.int (i : Nat), x])) fun σ2 H2 => ts { D with nx := Pv (i + 1), ct := Pv (i + 1), bk := D.nx } σ2 H2) (hd : ∀ σ' H', Pv xs.length σ' H' → D.nx σ' H') : LoopE K [.ref a] g ts D σ H := by
  rcases hS with hS | hS
  · refine ⟨a, xs, rfl, .inl ⟨hS, fun i m σ' H' => m = xs.length - i ∧ i ≤ xs.length ∧ Pv i σ' H', ⟨xs.length, by simp, Nat.zero_le _, h0⟩, ?_⟩⟩
    rintro i m σ' H' ⟨rfl, hi, p⟩
    have q := (hl i σ' H' p).1 hS
    by_cases hlt : i < xs.length
    · refine .inr ⟨⟨xs, xs[i], q, by simp [hlt]⟩, Pv (i + 1), fun σ2 H2 p' => ⟨xs.length - (i + 1), by omega, rfl, hlt, p'⟩, ?_⟩
      rintro y H2 ⟨T, x, rfl, hT, rfl, hx⟩
      exact hs i x T σ' H' (hx xs q) p hT
    · have e : i = xs.length := by omega
      subst e
      exact .inl ⟨⟨xs, q, Nat.le_refl _⟩, hd σ' H' p⟩
  · refine ⟨a, xs, rfl, .inr ⟨hS, fun i m σ' H' => m = xs.length - i ∧ i ≤ xs.length ∧ Pv i σ' H', ⟨xs.length, by simp, Nat.zero_le _, h0⟩, ?_⟩⟩
    rintro i m σ' H' ⟨rfl, hi, p⟩
    have q := (hl i σ' H' p).2 hS
    by_cases hlt : i < xs.length
    · refine .inr ⟨⟨xs, xs[i], q, by simp [hlt]⟩, Pv (i + 1), fun σ2 H2 p' => ⟨xs.length - (i + 1), by omega, rfl, hlt, p'⟩, ?_⟩
      rintro y H2 ⟨T, x, rfl, hT, rfl, hx⟩
      exact hs i x T σ' H' (hx xs q) p hT
    · have e : i = xs.length := by omega
      subst e
      exact .inl ⟨⟨xs, q, Nat.le_refl _⟩, hd σ' H' p⟩
theorem sq_pair {H' : Hp} (s : Same H H') : (SqL K H a xs → SqL K H' a xs) ∧ (SqT K H a xs → SqT K H' a xs) := ⟨fun z => s.seq z, fun z => sqT_same s z⟩
/-- a comprehension over enumerate of a list or tuple -/
def CompE (K : PySem.W.Frag) (ws : List V) (g : TG) (tt : TT) (te : TE) (vs : List Nat) (σ : L2.St) (H : Hp) (Q : VK) : Prop := ∃ a xs, ws = [.ref a] ∧ ((SqL K H a xs ∧ Comp (Ite K a) g tt te vs σ H Q) ∨ (SqT K H a xs ∧ Comp (IteT K a) g tt te vs σ H Q))
theorem r_lcE {ta : TA} (q : ta σ H fun ws H1 => CompE K ws g tt te vs σ H1 Q) : tLc (iEnumS K ta) g tt te vs σ H Q := q
theorem compE (hx : xs.length ≤ 100000) (hS : SqS K H a xs) (P : Addr → Nat → List V → Hp → Prop) (h0 : ∀ D, H D = none → P D 0 [] (upd H D (.lst []))) (hl : ∀ D i acc H', H D = none → P D i acc H' → (SqL K H a xs → SqL K H' a xs) ∧ (SqT K H a xs → SqT K H' a xs))
    (hs : ∀ D i x T acc H', H D = none → xs[i]? = some x → i < xs.length → P D i acc H' → H' D = some (.lst acc) → acc.length = i → H' T = none → g (.ref T) (wipe σ vs) (upd H' T (.tup [.int (i : Nat), x])) fun σ2 H2 => wipe σ2 vs = wipe σ vs ∧ te σ2 H2 (CNext D (P D) i))
    (hd : ∀ D acc H', H D = none → P D xs.length acc H' → H' D = some (.lst acc) → acc.length = xs.length → Q (.ref D) H') : CompE K [.ref a] g tYes te vs σ H Q := by
  have key : ∀ J : It, (∀ D i acc H', H D = none → P D i acc H' → i < xs.length → J.go i H') → (∀ D acc H', H D = none → P D xs.length acc H' → J.stop xs.length H') → (∀ D i acc H' y H2, H D = none → P D i acc H' → J.yld i H' y H2 → ∃ T x, y = .ref T ∧ H' T = none ∧ H2 = upd H' T (.tup [.int (i : Nat), x]) ∧ xs[i]? = some x) → Comp J g tYes te vs σ H Q := by
    intro J j1 j2 j3 D hD
    refine ⟨fun i m H' => m = xs.length - i ∧ i ≤ xs.length ∧ ∃ acc, P D i acc H' ∧ H' D = some (.lst acc) ∧ acc.length = i, ⟨xs.length, by simp, Nat.zero_le _, [], h0 D hD, upd_same, rfl⟩, ?_⟩
    rintro i m H' ⟨rfl, hi, acc, p, hD', hlen⟩
    by_cases hlt : i < xs.length
    · refine .inr ⟨j1 D i acc H' hD p hlt, fun H2 => ∃ acc, P D (i + 1) acc H2 ∧ H2 D = some (.lst acc) ∧ acc.length = i + 1, fun H2 p' => ⟨xs.length - (i + 1), by omega, rfl, hlt, p'⟩, ?_⟩
      intro y H2 hy
      obtain ⟨T, x, rfl, hT, rfl, hx'⟩ := j3 D i acc H' y H2 hD p hy
      exact hs D i x T acc H' hD hx' hlt p hD' hlen hT
    · have e : i = xs.length := by omega
      subst e
      exact .inl ⟨j2 D acc H' hD p, hd D acc H' hD p hD' hlen⟩
  rcases hS with hS | hS
  · refine ⟨a, xs, rfl, .inl ⟨hS, key _ (fun D i acc H' hD p hlt => ⟨xs, xs[i], (hl D i acc H' hD p).1 hS, by simp [hlt]⟩) (fun D acc H' hD p => ⟨xs, (hl D _ acc H' hD p).1 hS, Nat.le_refl _⟩) ?_⟩⟩
    rintro D i acc H' y H2 hD p ⟨T, x, rfl, hT, rfl, hx'⟩
    exact ⟨T, x, rfl, hT, rfl, hx' xs ((hl D i acc H' hD p).1 hS)⟩
  · refine ⟨a, xs, rfl, .inr ⟨hS, key _ (fun D i acc H' hD p hlt => ⟨xs, xs[i], (hl D i acc H' hD p).2 hS, by simp [hlt]⟩) (fun D acc H' hD p => ⟨xs, (hl D _ acc H' hD p).2 hS, Nat.le_refl _⟩) ?_⟩⟩
    rintro D i acc H' y H2 hD p ⟨T, x, rfl, hT, rfl, hx'⟩
    exact ⟨T, x, rfl, hT, rfl, hx' xs ((hl D i acc H' hD p).2 hS)⟩
/-- zip of three tuples of n items, in a comprehension -/
def CompZ3 (K : PySem.W.Frag) (ws : List V) (g : TG) (tt : TT) (te : TE) (vs : List Nat) (σ : L2.St) (H : Hp) (Q : VK) : Prop := ∃ a b c xs ys zs, ws = [.ref a, .ref b, .ref c] ∧ SqT K H a xs ∧ SqT K H b ys ∧ SqT K H c zs ∧ Comp (ItZ3 K a b c) g tt te vs σ H Q
theorem r_lcZ3 {ta : TA} (q : ta σ H fun ws H1 => CompZ3 K ws g tt te vs σ H1 Q) : tLc (iZip3 K ta) g tt te vs σ H Q := q
theorem compZ3 {b c : Addr} {ys zs : List V} (hx : xs.length ≤ 100000) (ly : ys.length = xs.length) (lz : zs.length = xs.length) (sa : SqT K H a xs) (sb : SqT K H b ys) (sc : SqT K H c zs) (P : Addr → Nat → List V → Hp → Prop) (h0 : ∀ D, H D = none → P D 0 [] (upd H D (.lst []))) (hl : ∀ D i acc H', H D = none → P D i acc H' → Same H H')
    (hs : ∀ D i x y z T acc H', H D = none → xs[i]? = some x → ys[i]? = some y → zs[i]? = some z → i < xs.length → P D i acc H' → H' D = some (.lst acc) → acc.length = i → H' T = none → g (.ref T) (wipe σ vs) (upd H' T (.tup [x, y, z])) fun σ2 H2 => wipe σ2 vs = wipe σ vs ∧ te σ2 H2 (CNext D (P D) i))
    (hd : ∀ D acc H', H D = none → P D xs.length acc H' → H' D = some (.lst acc) → acc.length = xs.length → Q (.ref D) H') : CompZ3 K [.ref a, .ref b, .ref c] g tYes te vs σ H Q := by
  refine ⟨a, b, c, xs, ys, zs, rfl, sa, sb, sc, fun D hD => ⟨fun i m H' => m = xs.length - i ∧ i ≤ xs.length ∧ ∃ acc, P D i acc H' ∧ H' D = some (.lst acc) ∧ acc.length = i, ⟨xs.length, by simp, Nat.zero_le _, [], h0 D hD, upd_same, rfl⟩, ?_⟩⟩
  rintro i m H' ⟨rfl, hi, acc, p, hD', hlen⟩
  have S := hl D i acc H' hD p
  by_cases hlt : i < xs.length
  · refine .inr ⟨⟨xs, ys, zs, xs[i], ys[i]'(by omega), zs[i]'(by omega), sqT_same S sa, sqT_same S sb, sqT_same S sc, by simp [hlt], by simp [ly, hlt], by simp [lz, hlt]⟩, fun H2 => ∃ acc, P D (i + 1) acc H2 ∧ H2 D = some (.lst acc) ∧ acc.length = i + 1, fun H2 p' => ⟨xs.length - (i + 1), by omega, rfl, hlt, p'⟩, ?_⟩
    rintro v H2 ⟨T, x, y, z, rfl, hT, rfl, e1, e2, e3⟩
    exact hs D i x y z T acc H' hD (e1 xs (sqT_same S sa)) (e2 ys (sqT_same S sb)) (e3 zs (sqT_same S sc)) hlt p hD' hlen hT
  · have e : i = xs.length := by omega
    subst e
    exact .inl ⟨⟨xs, ys, zs, sqT_same S sa, sqT_same S sb, sqT_same S sc, ⟨Nat.le_refl _, by omega, by omega⟩, .inl rfl⟩, hd D acc H' hD p hD' hlen⟩
end
/-! generators: their readings -/
section
variable {K : PySem.W.Frag} {C : Ctr} {D : GEn} {m : Nat} {Hr : Hp} {σ : L2.St} {H : Hp}
theorem q_c {t u : TGm} (q : t C { D with nx := fun m' Hr' σ' H' => u C D m' Hr' σ' H' } m Hr σ H) : tGc t u C D m Hr σ H := q
theorem q_n (q : D.nx m Hr σ H) : tGn C D m Hr σ H := q
theorem q_p {t : TS} (q : t (D.at m Hr) σ H) : tGp t C D m Hr σ H := q
theorem q_y {te : TE} (q : te σ H fun x H1 => ∃ m', m = m' + 1 ∧ C.yl m Hr x H1 ∧ ∀ H2, C.ok m' H1 H2 → D.nx m' H2 σ H2) : tGy te C D m Hr σ H := q
theorem q_i {tc : TT} {t u : TGm} (q : tc σ H fun b H1 => if b = true then t C D m Hr σ H1 else u C D m Hr σ H1) : tGi tc t u C D m Hr σ H := q
/-- for over enumerate of a list or tuple, in a generator -/
theorem q_forE {ta : TA} {gt : TG} {tb : TGm} {a : Addr} {xs : List V} (Pv : Nat → Nat → Hp → L2.St → Hp → Prop) (q : ta σ H fun ws H1 => ws = [.ref a] ∧ SqS K H1 a xs ∧ Pv 0 m Hr σ H1 ∧
      (∀ i m Hr σ' H', Pv i m Hr σ' H' → (SqL K H1 a xs → SqL K H' a xs) ∧ (SqT K H1 a xs → SqT K H' a xs)) ∧
      (∀ i x T m Hr σ' H', xs[i]? = some x → Pv i m Hr σ' H' → H' T = none → gt (.ref T) σ' (upd H' T (.tup [.int (i : Nat), x])) fun σ2 H2 => tb C { D with nx := Pv (i + 1), ct := Pv (i + 1), bk := D.nx } m Hr σ2 H2) ∧
      ∀ m Hr σ' H', Pv xs.length m Hr σ' H' → D.nx m Hr σ' H') (mono : ∀ (R R' : List V → Hp → Prop), (∀ ws H1, R ws H1 → R' ws H1) → ta σ H R → ta σ H R') : tGf (iEnumS K ta) gt tb C D m Hr σ H := by
  refine mono _ _ (fun ws H1 z => ?_) q
  obtain ⟨rfl, hS, p0, hl, hs, hd⟩ := z
  rcases hS with hS | hS
  · refine ⟨a, xs, rfl, .inl ⟨hS, fun i z m Hr σ' H' => z = xs.length - i ∧ i ≤ xs.length ∧ Pv i m Hr σ' H', ⟨xs.length, by simp, Nat.zero_le _, p0⟩, ?_⟩⟩
    rintro i z m Hr σ' H' ⟨rfl, hi, p⟩
    have q := (hl i m Hr σ' H' p).1 hS
    by_cases hlt : i < xs.length
    · refine .inr ⟨⟨xs, xs[i], q, by simp [hlt]⟩, Pv (i + 1), fun m2 Hr2 σ2 H2 p' => ⟨xs.length - (i + 1), by omega, rfl, hlt, p'⟩, ?_⟩
      rintro y H2 ⟨T, x, rfl, hT, rfl, hx⟩
      exact hs i x T m Hr σ' H' (hx xs q) p hT
    · have e : i = xs.length := by omega
      subst e
      exact .inl ⟨⟨xs, q, Nat.le_refl _⟩, hd m Hr σ' H' p⟩
  · refine ⟨a, xs, rfl, .inr ⟨hS, fun i z m Hr σ' H' => z = xs.length - i ∧ i ≤ xs.length ∧ Pv i m Hr σ' H', ⟨xs.length, by simp, Nat.zero_le _, p0⟩, ?_⟩⟩
    rintro i z m Hr σ' H' ⟨rfl, hi, p⟩
    have q := (hl i m Hr σ' H' p).2 hS
    by_cases hlt : i < xs.length
    · refine .inr ⟨⟨xs, xs[i], q, by simp [hlt]⟩, Pv (i + 1), fun m2 Hr2 σ2 H2 p' => ⟨xs.length - (i + 1), by omega, rfl, hlt, p'⟩, ?_⟩
      rintro y H2 ⟨T, x, rfl, hT, rfl, hx⟩
      exact hs i x T m Hr σ' H' (hx xs q) p hT
    · have e : i = xs.length := by omega
      subst e
      exact .inl ⟨⟨xs, q, Nat.le_refl _⟩, hd m Hr σ' H' p⟩
end
/-! a for over a generator: its reading -/
section
variable {σ : L2.St} {H : Hp} {D : Ends} {gt : TG} {tb : TS} {t : TGc} {ta : TA} {sp : SpM}
theorem r_forGE (q : t σ H fun n C H1 => C.ok n H1 H1 ∧ ∃ Pv : Nat → L2.St → Hp → Prop, Pv 0 σ H1 ∧
    (∀ i σ' H' T y Hy, i < n → Pv i σ' H' → C.yl (n - i) H' y Hy → Hy T = none → gt (.ref T) σ' (upd Hy T (.tup [.int (i : Nat), y])) fun σ2 H3 => tb { D with nx := fun σ4 H4 => Pv (i + 1) σ4 H4 ∧ C.ok (n - (i + 1)) Hy H4, ct := fun σ4 H4 => Pv (i + 1) σ4 H4 ∧ C.ok (n - (i + 1)) Hy H4, bk := D.nx } σ2 H3) ∧
    ∀ σ' H' H2, Pv n σ' H' → C.fin H' H2 → D.nx σ' H2) (mono : ∀ (R R' : Nat → Ctr → Hp → Prop), (∀ n C H1, R n C H1 → R' n C H1) → t σ H R → t σ H R') : tForS (tIgE t) gt tb D σ H := by
  refine mono _ _ (fun n C H1 z => ?_) q
  obtain ⟨ok, Pv, p0, hs, hd⟩ := z
  refine ⟨ok, Pv, p0, ?_, hd⟩
  rintro i σ' H' hi p x H2 Hy ⟨T, y, hy, rfl, hT, rfl⟩
  exact hs i σ' H' T y Hy hi p hy hT
end
end G
/-! ### min of a list of data -/
namespace G
open PySem PySem.Spec PyProof.Rows L2 PySem.W
def rMinD (K : PySem.W.Frag) : List V → Hp → VK → Prop := fun vs H Q => ∃ (a : Addr) (xs : List V) (x : PyData) (ds : List PyData), vs = [V.ref a] ∧ SqL K H a xs ∧ DpAll K H xs (x :: ds) ∧ AlikeAll (x :: ds) ∧ PyData.depthAll (x :: ds) ≤ 60 ∧
  ∀ (i : Nat) (v : V), xs[i]? = some v → (x :: ds)[i]? = some (minD x ds) → Q v H
theorem cr_minD {X : Cx} {n : Nat} (hc : X.calm = true) (hr : Room n X.A) : CallR X (.builtin "min") (rMinD X.K) := by
  intro pins s σ H vs us Q I r h
  obtain ⟨a, xs, x, ds, rfl, hs, hd, ha, hdep, q⟩ := h
  obtain ⟨its, rv, hl, _⟩ := I.list hs
  rw [Vals.ref1 r]
  obtain ⟨as, hR⟩ := Dp.readsAll I (x :: ds) xs its hd rv
  have hu : X.A.units + 64 < cLine := hr.units
  refine min_list_data (I.ok.hd hc) hl.isList (by simpa using hR) ha (by omega) fun i v h' tk bs hv hm hk => ?_
  have hv' : its[i]? = some v := by simpa using hv
  have hi : i < its.length := (List.getElem?_eq_some_iff.mp hv').1
  have hix : i < xs.length := by rw [rv.length]; exact hi
  obtain ⟨u, hu', ru⟩ := rv.get (List.getElem?_eq_getElem hix)
  rw [hv'] at hu'
  obtain rfl := Option.some.inj hu'
  obtain ⟨bs2, r2, hlt, _, _⟩ := readsAll_at hR i v hv'
  have e := (reads_det (fun b o e _ => hk b o e) r2 hm).1
  refine ⟨_, H, I.kept hk, ru, q i _ (List.getElem?_eq_getElem hix) ?_⟩
  rw [e, List.getD_eq_getElem?_getD, List.getElem?_eq_getElem hlt]; rfl
theorem kMinD {X : Cx} {n : Nat} {K : PySem.W.Frag} (hc : X.calm = true) (hr : Room n X.A) (h : X.K = K := by rfl) : CallR X (.builtin "min") (rMinD K) := h ▸ cr_minD hc hr
theorem kRevL {X : Cx} {K : PySem.W.Frag} {e : Expr} {te : TE} (h : PE X e (tRevL X.K te)) (hK : X.K = K := by rfl) : PE X e (tRevL K te) := hK ▸ h
theorem r_revL {K : PySem.W.Frag} {te : TE} {σ : L2.St} {H : Hp} {Q : VK} (q : te σ H fun x H1 => ∃ a xs, x = .ref a ∧ SqL K H1 a xs ∧ ∀ p, H1 p = none → Q (.ref p) (upd H1 p (.lst xs.reverse))) : tRevL K te σ H Q := q
/-- the first of the least points -/
def minP (p : Int × Int) (ps : List (Int × Int)) : Int × Int := ps.foldl (fun a y => if dataLt (Datum.toD y) (Datum.toD a) then y else a) p
theorem minD_pts : ∀ (ps : List (Int × Int)) (p : Int × Int), minD (Datum.toD p) (ps.map Datum.toD) = Datum.toD (minP p ps)
  | [], p => rfl
  | y :: ps, p => by
    show minD (if dataLt (Datum.toD y) (Datum.toD p) then Datum.toD y else Datum.toD p) (ps.map Datum.toD) = Datum.toD (minP (if dataLt (Datum.toD y) (Datum.toD p) then y else p) ps)
    split <;> exact minD_pts ps _
theorem alike_pts (ps : List (Int × Int)) : AlikeAll (ps.map Datum.toD) := by
  refine ⟨fun x hx y hy => ?_, fun x hx => ?_⟩
  · obtain ⟨p, _, rfl⟩ := List.mem_map.mp hx
    obtain ⟨q, _, rfl⟩ := List.mem_map.mp hy
    rfl
  · obtain ⟨p, _, rfl⟩ := List.mem_map.mp hx
    intro z; cases z
theorem depth_pts : ∀ ps : List (Int × Int), PyData.depthAll (ps.map Datum.toD) ≤ 60
  | [] => by decide
  | p :: ps => by
    show max (Datum.toD p).depth (PyData.depthAll (ps.map Datum.toD)) ≤ 60
    exact Nat.max_le.mpr ⟨Nat.le_trans (Datum.depth_le p) (by decide), depth_pts ps⟩
theorem r_minP {K : PySem.W.Frag} {H : Hp} {a : Addr} {xs : List V} {p : Int × Int} {ps : List (Int × Int)} {Q : VK} (hs : SqL K H a xs) (hx : Hds K H xs (p :: ps)) (q : ∀ (i : Nat) (v : V), xs[i]? = some v → (p :: ps)[i]? = some (minP p ps) → Q v H) : rMinD K [.ref a] H Q := by
  refine ⟨a, xs, Datum.toD p, ps.map Datum.toD, rfl, hs, hx, alike_pts (p :: ps), depth_pts (p :: ps), fun i v hi hm => q i v hi ?_⟩
  rw [minD_pts, ← List.map_cons, List.getElem?_map] at hm
  obtain ⟨r, hr, e⟩ := Option.map_eq_some_iff.mp hm
  have e2 := Datum.eqv r (minP p ps)
  rw [e, Datum.eqv, decide_eq_true rfl] at e2
  rw [hr, of_decide_eq_true e2.symm]
theorem kIndexD {X : Cx} {n : Nat} {K : PySem.W.Frag} (hr : Room n X.A) (h : X.K = K := by rfl) : MtR X "list.index" (rIndexD K) := h ▸ mt_indexD (by have := hr.un; omega)
/-- l.index(y) -/
theorem r_indexH {K : PySem.W.Frag} {H : Hp} {α : Type} [DecidableEq α] [Datum α] [Lay α] {a : Addr} {xs : List V} {ys : List α} {y : V} {z : α} {j : Nat} {Q : VK} (h : SqL K H a xs) (hx : Hds K H xs ys) (hy : Hd K H y z) (hj : ys[j]? = some z) (hn : ∀ m, m < j → ys[m]? ≠ some z) (q : Q (.int (j : Nat)) H) (hd : Datum.depth (List α) ≤ 64 := by decide) (hd2 : Datum.depth α ≤ 64 := by decide) : rIndexD K (.ref a) [y] H Q := by
  refine ⟨a, y, Datum.toD z, ys.map Datum.toD, j, Datum.toD z, rfl, rfl, .lst h hx, hy, shapedD ys hd, shapedD z hd2, by rw [List.getElem?_map, hj]; rfl, by rw [Datum.eqv, decide_eq_true rfl], fun m z' hm hz => ?_, q⟩
  rw [List.getElem?_map] at hz
  obtain ⟨w, hw, rfl⟩ := Option.map_eq_some_iff.mp hz
  rw [Datum.eqv]
  exact decide_eq_false fun e => hn m hm (by rw [hw, e])
theorem r_bm {K : PySem.W.Frag} {T : String} {r : V → List V → Hp → VK → Prop} {to : TE} {t : TA} {σ : L2.St} {H : Hp} {Q : VK} (q : to σ H fun x H1 => tyV K T x H1 ∧ t σ H1 fun xs H2 => r x xs H2 Q) : tBM K T r to t σ H Q := q
theorem r_slL {K : PySem.W.Frag} {H : Hp} {a : Addr} {xs : List V} {lo hi : Option Int} {Q : VK} (h : SqL K H a xs) (q : ∀ p, H p = none → Q (.ref p) (upd H p (.lst (cutV xs lo hi)))) : rSlL K (.ref a) lo hi H Q := ⟨a, xs, rfl, h, q⟩
theorem cut_from {xs : List V} {j : Nat} : cutV xs (some (j : Int)) none = xs.drop j := by
  unfold cutV
  rw [HT.sIx_none, HT.sIx_nat, List.take_of_length_le (by rw [List.length_drop]; omega)]
  rcases Nat.le_total j xs.length with h | h
  · rw [Nat.min_eq_left h]
  · rw [Nat.min_eq_right h, List.drop_eq_nil_of_le h, List.drop_eq_nil_of_le (Nat.le_refl _)]
theorem cut_to {xs : List V} {j : Nat} : cutV xs none (some (j : Int)) = xs.take j := by
  unfold cutV
  rw [HT.sIx_none, HT.sIx_nat, List.drop_zero, Nat.sub_zero]
  rcases Nat.le_total j xs.length with h | h
  · rw [Nat.min_eq_left h]
  · rw [Nat.min_eq_right h, List.take_of_length_le h, List.take_of_length_le (Nat.le_refl _)]
theorem r_app {H : Hp} {Q : VK} {p : Addr} {xs : List V} {y : V} (h : H p = some (.lst xs)) (hl : xs.length ≤ 100000) (q : Q .non (upd H p (.lst (xs ++ [y])))) : rAppend (.ref p) [y] H Q := ⟨p, xs, y, rfl, rfl, h, Nat.lt_of_le_of_lt hl (by decide), q⟩
theorem ty_lst {K : PySem.W.Frag} {H : Hp} {p : Addr} {xs : List V} (h : H p = some (.lst xs)) : tyV K "list" (.ref p) H := .inl ⟨rfl, xs, SqL.of h⟩
/-- an object that the caller does not know is written -/
theorem Kp.putN {l b : Addr} {H H1 : Hp} {o : HO} (a : Kp l H H1) (hb : H b = none) : Kp l H (upd H1 b o) := fun c u n e => by
  rw [upd_ne (ne_of_none e hb)]; exact a c u n e
theorem Kp.free {l p : Addr} {H H' : Hp} (k : Kp l H H') (ne : p ≠ l) (h : H' p = none) : H p = none := by
  cases e : H p with
  | none => rfl
  | some o => rw [k _ _ ne e] at h; cases h
end G
/-! ### several except clauses, with names or without -/
namespace G
open PySem PySem.Spec PyProof.Rows L2
/-- behind the suite slot i is none -/
def dropN (i : Nat) (D : Ends) : Ends := ⟨fun z G => D.nx (z.set i none) G, D.rt, fun z G => D.bk (z.set i none) G, fun z G => D.ct (z.set i none) G⟩
/-- a suite with a name for the exception -/
def asT (i : Nat) (ts : Addr → Value → Option Addr → TS) : Addr → Value → Option Addr → TS := fun a cls d D σ H => ts a cls d (dropN i D) (σ.set i (some (.ref a))) H
abbrev Cls1 := Value × (Addr → Value → Option Addr → TS)
inductive ClOk (X : Cx) : List ExceptHandler → List Cls1 → Prop
  | nil : ClOk X [] []
  | no {x : Str} {c : Value} {ts : Addr → Value → Option Addr → TS} {b₀ : Stmt} {su : List Stmt} {np po : Pos} {hds : List ExceptHandler} {l : List Cls1} (hc : Names X x c)
      (hsu : ∀ (a : Addr) (oe : Obj) (cls : Value) (d : Option Addr) (pn : List (Addr × Obj)), Zc cls d oe → (∃ vs, oe.data = .fields vs) → PSs (X.suite a ((a, oe) :: pn)) (b₀ :: su) (ts a cls d)) (r : ClOk X hds l) : ClOk X (.ExceptHandler (some (.Name x np)) none (b₀ :: su) po :: hds) ((c, ts) :: l)
  | as {x n : Str} {c : Value} {i : Nat} {ts : Addr → Value → Option Addr → TS} {b₀ : Stmt} {su : List Stmt} {np po : Pos} {hds : List ExceptHandler} {l : List Cls1} (hN : X.N.Nodup) (hi : X.N[i]? = some n) (hln : X.env.kindOf n = some .local) (hc : Names X x c)
      (hsu : ∀ (a : Addr) (oe : Obj) (cls : Value) (d : Option Addr) (pn : List (Addr × Obj)), Zc cls d oe → (∃ vs, oe.data = .fields vs) → PSs (X.suite a ((a, oe) :: pn)) (b₀ :: su) (ts a cls d)) (r : ClOk X hds l) : ClOk X (.ExceptHandler (some (.Name x np)) (some n) (b₀ :: su) po :: hds) ((c, asT i ts) :: l)
theorem ps_try_nm {X : Cx} {body : List Stmt} {h₀ : ExceptHandler} {hds : List ExceptHandler} {l : List Cls1} {pos : Pos} {tb : WX → TS} {Wo : WX} (hs : X.stack = X.env :: X.outer) (hf : X.env.frame = some X.env.locals) (tk : Takes X Wo)
    (hb : ∀ (W : WX) (pn : List (Addr × Obj)) (xe : Value → Shared → Prop), Takes (X.tr pn xe) W → PassesOwn (model X.prog X.w) X.A X.env xe → PSs (X.tr pn xe) body (tb W)) (hh : ClOk X (h₀ :: hds) l) : PS X (.Try body (h₀ :: hds) [] [] pos) (fun D σ H => tb (wMany X.K Wo D l) D σ H) := by
  refine ⟨fun pins s σ H D I h => ?_⟩
  have ok := I.ok; have hfr : X.A.frames = some (X.env :: X.outer) := by
    rw [ok.frames, hs]
  refine wpAny_Try_except (wpAny_mono ((hb (wMany X.K Wo D l) (X.pn ++ pins) (fun e z1 => wpAny (model X.prog X.w) X.A (noteFrame e X.env) (fun _ z2 => wpAny (model X.prog X.w) X.A (setFlight e none) (fun _ z3 => wpAny (model X.prog X.w) X.A (handleBy e X.env (h₀ :: hds)) (SP X pins D) X.xe z3) X.xe z2) X.xe z1) (fun u s' xx => ?_) PassesOwn.looking).run [] s σ H D (I.toTry _) h) (fun f s1 hsp => ?_) (fun e s1 he => he))
  · obtain ⟨a, B, sI, pins', ρ, G, cls, d, rfl, J', nb, up, sky, na, os, ag, w⟩ := xx
    have J : Inv X pins ρ G sI := J'.ofTry ok; have sk2 : Sky B (X.env :: X.outer) a (Zc cls d) X.env.locals s'.heap := by
      rw [← hs]; exact sky
    show wpAny (model X.prog X.w) X.A (noteFrame (.ref a) X.env) _ _ _
    refine Sky.land Zc.steady hfr hf sk2 fun h3 fl3 up3 => ?_
    have J3 : Inv X pins ρ G { s' with heap := h3 } := J.landed nb fl3.1 (up.trans up3) os ag; obtain ⟨oe3, vs3, he3, hz3, hd3⟩ := fl3.there
    have nfr : a ∉ frs (X.env :: X.outer) := fun hm => by
      obtain ⟨_, o', e', hnf⟩ := fl3.2.2.1.mem hm; rw [he3] at e'; cases e'; exact hnf _ hd3
    have nL : a ≠ X.env.locals := fun z => nfr (List.mem_filterMap.mpr ⟨X.env, List.mem_cons_self, by rw [hf, z]⟩); have nF : a ∉ X.fs := fun hm => by
      obtain ⟨e, he, q⟩ := List.mem_filterMap.mp hm; exact nfr (List.mem_filterMap.mpr ⟨e, List.mem_cons_of_mem _ he, q⟩)
    have S3 := J3.suite he3 hd3 na nL nF
    have LT : PySem.W.Looks (model X.prog X.w) h3 (typeOf (.ref a)) cls := fun A Q E s k q => wpAny_typeOf_ref (k _ _ he3) (by
      rw [hz3.1]; exact q)
    have test : ∀ {x : Str} {c : Value} {np : Pos} {Q E : Value → Shared → Prop}, Names X x c → Q c { s' with heap := h3 } → wpAny (model X.prog X.w) (X.A.mark (some (.ref a))) (eval (.Name x np) X.env) Q E { s' with heap := h3 } := fun {x c np Q E} hc q => by
      obtain ⟨hg, hdbg, hm | ⟨hm, hv, hnn⟩⟩ := hc
      · exact ld_glob (X := X.suite a ((a, oe3) :: (X.pn ++ pins))) S3 hg hm q hdbg
      · exact ld_blt (X := X.suite a ((a, oe3) :: (X.pn ++ pins))) S3 hg hm hv q hnn hdbg
    have go : ∀ {hds' : List ExceptHandler} {l' : List Cls1}, ClOk X hds' l' → wMany X.K Wo D l' cls d ρ G → wpAny (model X.prog X.w) X.A (handleBy (.ref a) X.env hds') (SP X pins D) X.xe { s' with heap := h3 } := by
      intro hds' l' hk
      induction hk with
      | nil =>
        intro w; refine wpAny_handleBy_nil ?_
        obtain ⟨k1, k2, k3, oe, vs, T, oT, ts', he, hz, hd, h1, hr⟩ := id fl3; unfold PySem.passOn
        refine wpAny_bind (wpAny_field he hd h1 ?_); rw [if_neg (show ¬ ((Value.ref T == Value.none) = true) from by simp)]
        have fin : wpAny (model X.prog X.w) X.A (setFlight (.ref a) X.env.frame) (fun _ s4 => wpAny (model X.prog X.w) X.A (throw (.ref a) : Sem Flow) (SP X pins D) X.xe s4) X.xe { s' with heap := h3 } := by
          rw [hf]; refine HandSPX.setFlight_upZ fl3 fun h4 hh4 up4 => wpAny_throw (tk _ _ ⟨a, B, sI, pins, ρ, G, cls, d, rfl, J, nb, (up.trans up3).trans up4, .inr (.inr (by rw [hs]; exact hh4)), na, os, ag, w⟩)
        first
          | exact wpAny_bind (wpAny_pure (wpAny_bind fin))
          | exact wpAny_bind fin
      | @no x c ts b₀ su np po hds2 l2 hc hsu r ih =>
        intro w; obtain ⟨b, hb1, hyes, hno⟩ := w
        refine wpAny_handleBy_cons (codeAny_handlers_test ?_) (by intro q; cases q); have LM := PySem.W.exm_one (M := model X.prog X.w) (J3.kIn) LT hb1
        refine test hc (LM.here ?_); cases b with
        | true =>
          refine codeAny_handlers_suite (HandSPX.lands_againZ fl3 fun h4 fl4 up4 => ?_)
          have J4 : Inv X pins ρ G { s' with heap := h4 } := J.landed nb fl4.1 ((up.trans up3).trans up4) os ag; obtain ⟨oe4, vs4, he4, hz4, hd4⟩ := fl4.there
          refine wpAny_mono ((hsu a oe4 cls d (X.pn ++ pins) hz4 ⟨_, hd4⟩).run [] _ _ G _ (J4.suite he4 hd4 na nL nF) (hyes rfl a na)) (fun f s6 hsp => ?_) (fun _ _ z => False.elim z); cases f with
          | next => obtain ⟨z6, H6, S6, q6⟩ := hsp; exact ⟨_, _, S6.unsuite ok, q6⟩
          | brk => obtain ⟨z6, H6, S6, q6⟩ := hsp; exact ⟨_, _, S6.unsuite ok, q6⟩
          | cont => obtain ⟨z6, H6, S6, q6⟩ := hsp; exact ⟨_, _, S6.unsuite ok, q6⟩
          | ret u => obtain ⟨v6, z6, H6, S6, r6, q6⟩ := hsp; exact ⟨_, _, _, S6.unsuite ok, r6, q6⟩
        | false => exact (show wpAny _ X.A (handleBy (.ref a) X.env hds2) _ _ _ from ih (hno rfl))
      | @as x n c i ts b₀ su np po hds2 l2 hN hi hln hc hsu r ih =>
        intro w; obtain ⟨b, hb1, hyes, hno⟩ := w
        refine wpAny_handleBy_cons (codeAny_handlers_test ?_) (by intro q; cases q); have LM := PySem.W.exm_one (M := model X.prog X.w) (J3.kIn) LT hb1
        refine test hc (LM.here ?_); cases b with
        | true =>
          refine codeAny_handlers_suite_as (HandSPX.lands_againZ fl3 fun h4 fl4 up4 => ?_)
          have J4 : Inv X pins ρ G { s' with heap := h4 } := J.landed nb fl4.1 ((up.trans up3).trans up4) os ag; obtain ⟨oe4, vs4, he4, hz4, hd4⟩ := fl4.there
          refine store_ok (X := X.suite a ((a, oe4) :: (X.pn ++ pins))) (v := .ref a) (J4.suite he4 hd4 na nL nF) hN hi (.inl hln) rfl (fun s5 S5 => ?_) (.inr hln)
          refine wpAny_mono ((hsu a oe4 cls d (X.pn ++ pins) hz4 ⟨_, hd4⟩).run [] s5 _ G _ S5 (hyes rfl a na)) (fun f s6 hsp => ?_) (fun _ _ z => False.elim z)
          have fin6 : ∀ {z6 : L2.St} {H6 : Hp} {Q : Shared → Prop}, Inv (X.suite a ((a, oe4) :: (X.pn ++ pins))) [] z6 H6 s6 → (∀ s7, Inv X pins (z6.set i none) H6 s7 → Q s7) → wpAny (model X.prog X.w) X.A (do bindName X.env n .none; unbindBehindTheSuite X.env n po) (fun _ s7 => Q s7) X.xe s6 := fun {z6 H6 Q} S6 hq => gone_ok (S6.unsuite ok) hN hi hln hq
          cases f with
          | next => obtain ⟨z6, H6, S6, q6⟩ := hsp; exact fin6 S6 fun s7 J7 => ⟨_, _, J7, q6⟩
          | brk => obtain ⟨z6, H6, S6, q6⟩ := hsp; exact fin6 S6 fun s7 J7 => ⟨_, _, J7, q6⟩
          | cont => obtain ⟨z6, H6, S6, q6⟩ := hsp; exact fin6 S6 fun s7 J7 => ⟨_, _, J7, q6⟩
          | ret u => obtain ⟨v6, z6, H6, S6, r6, q6⟩ := hsp; exact fin6 S6 fun s7 J7 => ⟨_, _, _, J7, r6, q6⟩
        | false => exact (show wpAny _ X.A (handleBy (.ref a) X.env hds2) _ _ _ from ih (hno rfl))
    exact go hh w
  · cases f with
    | next => obtain ⟨ρ, G, J', q⟩ := hsp; exact wpAny_execs_nil ⟨ρ, G, J'.ofTry ok, q⟩
    | brk => obtain ⟨ρ, G, J', q⟩ := hsp; exact ⟨ρ, G, J'.ofTry ok, q⟩
    | cont => obtain ⟨ρ, G, J', q⟩ := hsp; exact ⟨ρ, G, J'.ofTry ok, q⟩
    | ret u => obtain ⟨v, ρ, G, J', r, q⟩ := hsp; exact ⟨v, ρ, G, J'.ofTry ok, r, q⟩
theorem r_xf {a C : Addr} {cls : Value} {d : Option Addr} {f : Str} {te : TE} {σ : L2.St} {H : Hp} {Q : VK} (q : te σ H fun x H1 => x = .ref a ∧ cls = .ref C ∧ ∃ (dd : Addr) (fs : List (Str × V)) (v : V), d = some dd ∧ H1 dd = some (.xd fs) ∧ fs.lookup f = some v ∧ Q v H1) : tXf a cls d C f te σ H Q := q
theorem r_asT {i : Nat} {ts : Addr → Value → Option Addr → TS} {a : Addr} {cls : Value} {d : Option Addr} {D : Ends} {σ : L2.St} {H : Hp} (q : ts a cls d (dropN i D) (σ.set i (some (.ref a))) H) : asT i ts a cls d D σ H := q
end G
/-! ### sorted of a list or tuple of data -/
namespace G
open PySem PySem.Spec PyProof.Rows L2 PySem.W
section
variable {prog : Program} {w : World} {A : Around} {E : Value → Shared → Prop} {s : Shared}
/-- the heap once the items are collected -/
abbrev cpH (h : Heap) (its : Array Value) : Heap := (h.push { cls := .type "list", data := .seq ([] : List Value).toArray }).update h.objs.size (Obj.mapSeq (· ++ its))
theorem collect_any {Q : List Value → Shared → Prop} (l : Addr) {T : String} {o : Obj} {its : Array Value} {n : Nat} (hT : T = "list" ∨ T = "tuple") (ho : s.heap.get? l = some o) (hc : o.cls = .type T) (hd : o.data = .seq its n) (hQ : Q its.toList { s with heap := cpH s.heap its }) (hz : its.size ≤ sizeLine) : wpAny (model prog w) A (collect (.ref l)) Q E s := by
  unfold collect; refine wpAny_bind (wpAny_runValue (codeAny_builtin F.entry_proto_collect ?_))
  rw [Around.under_plainId F.plain_proto_collect _]; show wpAny _ A.in1 (newList [] >>= fun z => again (.builtin "list.__iadd__" ⟨[z, .ref l], []⟩)) _ _ s
  refine wpAny_bind (wpAny_newObj_type (wpAny_pure ⟨plainId_quiet F.plain_list_iadd _, codeAny_builtin F.entry_list_iadd ?_⟩))
  rw [Around.under_plainId F.plain_list_iadd _]; show wpAny _ A.in1 (Builtin.List.listExtendWith (.ref s.heap.objs.size) (.ref l) (.ref s.heap.objs.size)) _ _ _
  have g0 : (s.heap.push { cls := .type "list", data := .seq ([] : List Value).toArray }).get? s.heap.objs.size = some { cls := .type "list", data := .seq #[] 0 } := Heap.get?_push_size _ rfl; have g1 := Heap.get?_update_self (Obj.mapSeq (· ++ its)) g0 rfl
  have done_ : wpAny (model prog w) A (match Value.ref s.heap.objs.size with
      | Value.ref a => do
        match (← load a).data with
          | Data.seq xs _ => pure xs.toList
          | _ => unsupported "internal:collect"
      | _ => unsupported "internal:collect") Q E { s with heap := cpH s.heap its } := by
    show wpAny _ A (load s.heap.objs.size >>= _) _ _ _; refine wpAny_bind (wpAny_load g1 (wpAny_pure ?_))
    have ee : ((#[] : Array Value) ++ its).toList = its.toList := by
      simp
    show Q ((#[] : Array Value) ++ its).toList _; rw [ee]; exact hQ
  refine wpAny_mono (wpAny_extend_seq (hsz := hz) (A := A) (R := fun r z => r = .ok (.ret (.ref s.heap.objs.size)) ∧ z = { s with heap := cpH s.heap its }) (s := { s with heap := s.heap.push { cls := .type "list", data := .seq ([] : List Value).toArray } }) _ l _ 0 hT g0 (Heap.get?_push_of_some _ ho) hc hd ⟨rfl, rfl⟩) (fun f z h => ?_) (fun e z h => absurd h.1 (by simp))
  cases f with
  | done f => obtain ⟨e, rfl⟩ := h; cases e; exact done_
  | again c' => exact ⟨h.1, codeAny_mono h.2 fun r z hr => by obtain ⟨rfl, rfl⟩ := hr; exact done_⟩
variable {β : Type} {vs : List Value} {bs : List β} {enc : β → PyData} {R : Value → β → Prop}
theorem sorted_seq {l : Addr} {T : String} {o : Obj} {n : Nat} {Q : Value → Shared → Prop} (hT : T = "list" ∨ T = "tuple") (ho : s.heap.get? l = some o) (hc : o.cls = .type T) (hd : o.data = .seq vs.toArray n)
    (e : EachIs R vs bs) (er : EachIs (fun v b => ∃ as, Reads s.heap v (enc b) as) vs bs) (hal : AllAlike (bs.map enc)) (hk : PySem.W.Sortable (bs.map enc)) (hL : bs.length ≤ sizeLine) (hu : ∀ b, b ∈ bs → A.units + 2 + (enc b).depth < cLine)
    (h : ∀ out, out.length = bs.length → EachIs R out (bs.mergeSort (dataLe false enc)) → Q (.ref (s.heap.objs.size + 1)) { s with heap := sortedAll s.heap vs (List.toArray out) }) :
    wpAny (model prog w) A (call (.builtin "sorted") [.ref l]) Q E s := by
  have hLv : vs.length ≤ sizeLine := by rw [e.length]; exact hL
  have er' : EachIs (fun v b => ∃ as, Reads (sortingHeap (copyHeap s.heap vs) (s.heap.objs.size + 1) vs) v (enc b) as) vs bs := er.mono fun _ _ ⟨as, r⟩ => ⟨as, PyProof.Rows.Reads.keeps (fun _ _ => sorting_copy_old) r⟩
  have S := SortsAt.data (prog := prog) (w := w) (A := A.in1.in1) (s := { s with heap := sortingHeap (copyHeap s.heap vs) (s.heap.objs.size + 1) vs }) (each_map (R := fun v d => ∃ as, Reads (sortingHeap (copyHeap s.heap vs) (s.heap.objs.size + 1) vs) v d as) enc er') hal hk (bound_map hu)
  have fin := h _ (by rw [sortVals_length false rfl]; exact e.length) (sortVals_data false e er' hal)
  refine call_function_entry_kw kind_sorted plain_sorted entry_sorted (args_sorted1 _) ?_
  unfold Builtin.«sorted»; refine wpAny_bind (m := checkCount "sorted" 1 1 _) (wpAny_pure (wpAny_bind (collect_any l hT ho hc hd ?_ (by simpa using hLv))))
  refine wpAny_bind (wpAny_newList ?_ hLv)
  have hz1 : (cpH s.heap vs.toArray).objs.size = s.heap.objs.size + 1 := by rw [Heap.size_update, size_push']
  show wpAny _ _ _ _ _ { s with heap := copyHeap s.heap vs }
  rw [hz1]; refine wpAny_bind (wpAny_holding (wpAny_call_entry_kw slot_list_sort ⟨_, copyHeap_at s.heap vs, rfl⟩ entry_list_sort ?body (args_list_sort _)))
  case body =>
    refine wpAny_mono (list_sort_vals (s := { s with heap := copyHeap s.heap vs }) (P := fun f z => f = .done (.ret .none) ∧ Q (.ref (s.heap.objs.size + 1)) z) (copyHeap_at s.heap vs) S hLv ⟨rfl, fin⟩) (fun f z hf => ?_) fun _ _ e => e
    obtain ⟨rfl, hq⟩ := hf; exact ⟨_, rfl, wpAny_pure ⟨_, rfl, hq⟩⟩
end
def rSortD (K : PySem.W.Frag) : List V → Hp → VK → Prop := fun vs H Q => ∃ (a : Addr) (xs : List V) (ds : List PyData), vs = [V.ref a] ∧ SqS K H a xs ∧ DpAll K H xs ds ∧ AllAlike ds ∧ PySem.W.Sortable ds ∧ (∀ d ∈ ds, d.depth ≤ 60) ∧
  ∀ p, H p = none → Q (.ref p) (upd H p (.lst (((xs.zip ds).mergeSort (dataLe false Prod.snd)).map Prod.fst)))
theorem each_zip {K : PySem.W.Frag} {H : Hp} {h : Heap} : ∀ {xs : List V} {ds : List PyData} {us : List Value} {as : List Addr}, DpAll K H xs ds → Vals xs us → ReadsAll h us ds as → EachIs (fun u (b : V × PyData) => RelV b.1 u) us (xs.zip ds) ∧ EachIs (fun u (b : V × PyData) => ∃ as, Reads h u b.2 as) us (xs.zip ds)
  | _, [], _, _, hd, hv, hr => by
    cases hd; cases hv; exact ⟨.nil, .nil⟩
  | _, d :: ds, _, _, hd, hv, hr => by
    cases hd with
    | cons h1 h2 =>
      cases hv with
      | cons r1 r2 =>
        cases hr with
        | cons z1 z2 =>
          obtain ⟨i1, i2⟩ := each_zip h2 r2 z2
          exact ⟨.cons r1 i1, .cons ⟨_, z1⟩ i2⟩
theorem vals_each {β : Type} {f : β → V} : ∀ {us : List Value} {bs : List β}, EachIs (fun u b => RelV (f b) u) us bs → Vals (bs.map f) us
  | _, _, .nil => .nil
  | _, _, .cons h r => .cons h (vals_each r)
theorem dp_len {K : PySem.W.Frag} {H : Hp} : ∀ {xs : List V} {ds : List PyData}, DpAll K H xs ds → xs.length = ds.length
  | _, [], h => by cases h; rfl
  | _, _ :: ds, h => by
    cases h with
    | cons h1 h2 => exact congrArg (· + 1) (dp_len h2)
theorem zip_snd {K : PySem.W.Frag} {H : Hp} {xs : List V} {ds : List PyData} (h : DpAll K H xs ds) : (xs.zip ds).map Prod.snd = ds := List.map_snd_zip (by rw [dp_len h]; exact Nat.le_refl _)
theorem cr_sortD {X : Cx} {n : Nat} (hr : Room n X.A) : CallR X (.builtin "sorted") (rSortD X.K) := by
  intro pins s σ H vs us Q I r h
  obtain ⟨a, xs, ds, rfl, hs, hd, ha, hk, hdep, q⟩ := h
  rw [Vals.ref1 r]
  have hu : X.A.units + 64 < cLine := hr.units
  have key : ∀ (its : List Value) (T : String) (o : Obj) (m : Nat), Vals xs its → xs.length ≤ sizeLine → (T = "list" ∨ T = "tuple") → s.heap.get? a = some o → o.cls = .type T → o.data = .seq its.toArray m → wpAny (model X.prog X.w) X.A (call (.builtin "sorted") [.ref a]) (EP X pins σ Q) X.xe s := by
    intro its T o m rv hz hT ho hc hdt
    obtain ⟨as, hR⟩ := Dp.readsAll I ds xs its hd rv
    obtain ⟨e1, e2⟩ := each_zip hd rv hR
    have em := zip_snd hd
    have hzl : (xs.zip ds).length ≤ sizeLine := by
      rw [List.length_zip, dp_len hd, Nat.min_self, ← dp_len hd]; exact hz
    refine sorted_seq (enc := Prod.snd) hT ho hc hdt e1 e2 (by rw [em]; exact ha) (by rw [em]; exact hk) hzl (fun b hb => ?_) fun out hl ho2 => ?_
    · have hm : b.2 ∈ ds := by rw [← em]; exact List.mem_map.mpr ⟨b, hb, rfl⟩
      have := hdep _ hm
      omega
    · obtain ⟨c, hat⟩ := sortedAll_at s.heap its out.toArray
      refine ⟨.ref (s.heap.objs.size + 1), _, I.laid (t' := s.toks) (fun b u z => sortedAll_old z) (Nat.le_succ _) ?_, rfl, q _ (I.hok.fresh (Nat.le_succ _))⟩
      have hv := vals_each (f := Prod.fst) ho2
      exact (show ObjOk X.prog X.w _ _ _ (.lst _) from ⟨by rw [List.length_map, List.length_mergeSort]; exact hzl, out, c, hv, hat⟩)
  rcases hs with hs | hs
  · obtain ⟨its, rv, pl, hz⟩ := I.list hs
    obtain ⟨o, ho, hc, n, hd⟩ := pl.isList
    exact key its "list" o n rv hz (.inl rfl) ho hc hd
  · obtain ⟨its, rv, ⟨o, ho, hc, n, hd⟩, hz⟩ := I.tuple hs
    exact key its "tuple" o n rv hz (.inr rfl) ho hc hd
theorem kSortD {X : Cx} {n : Nat} {K : PySem.W.Frag} (hr : Room n X.A) (h : X.K = K := by rfl) : CallR X (.builtin "sorted") (rSortD K) := h ▸ cr_sortD hr
/-- THE sorted list -/
def sortH {α : Type} [DecidableEq α] [Datum α] (xs : List α) : List α := xs.mergeSort (dataLe false Datum.toD)
theorem sort_map {α β : Type} (f : α → β) (k : β → PyData) (xs : List α) : (xs.mergeSort (dataLe false fun a => k (f a))).map f = (xs.map f).mergeSort (dataLe false k) := List.map_mergeSort (fun a _ b _ => rfl)
theorem dp_pick {K : PySem.W.Frag} {H : Hp} : ∀ {xs : List V} {ds : List PyData}, DpAll K H xs ds → ∀ b ∈ xs.zip ds, Dp K H b.1 b.2
  | _, [], h, b, hb => by cases h; cases hb
  | _, _ :: ds, h, b, hb => by
    cases h with
    | cons h1 h2 =>
      rcases List.mem_cons.mp hb with rfl | hb
      · exact h1
      · exact dp_pick h2 b hb
theorem dp_all {K : PySem.W.Frag} {H : Hp} : ∀ {zs : List (V × PyData)}, (∀ b ∈ zs, Dp K H b.1 b.2) → DpAll K H (zs.map Prod.fst) (zs.map Prod.snd)
  | [], _ => .nil
  | z :: zs, h => .cons (h z List.mem_cons_self) (dp_all fun b hb => h b (List.mem_cons_of_mem _ hb))
theorem r_sortH {K : PySem.W.Frag} {H : Hp} {α : Type} [DecidableEq α] [Datum α] {a : Addr} {vs : List V} {xs : List α} {Q : VK} (hs : SqS K H a vs) (hx : Hds K H vs xs) (al : AllAlike (xs.map Datum.toD)) (so : PySem.W.Sortable (xs.map Datum.toD)) (q : ∀ ws p, H p = none → Hds K H ws (sortH xs) → Q (.ref p) (upd H p (.lst ws))) (hd : Datum.depth α ≤ 60 := by decide) : rSortD K [.ref a] H Q := by
  refine ⟨a, vs, xs.map Datum.toD, rfl, hs, hx, al, so, fun d hm => ?_, fun p hp => q _ p hp ?_⟩
  · obtain ⟨x, _, rfl⟩ := List.mem_map.mp hm
    exact Nat.le_trans (Datum.depth_le x) hd
  · have h1 := dp_all (K := K) (H := H) (zs := (vs.zip (xs.map Datum.toD)).mergeSort (dataLe false Prod.snd)) fun b hb => dp_pick hx b (List.mem_mergeSort.mp hb)
    have h2 := sort_map (Prod.snd (α := V)) id (vs.zip (xs.map Datum.toD))
    rw [zip_snd hx] at h2
    have h3 := sort_map (α := α) Datum.toD id xs
    show DpAll K H _ ((sortH xs).map Datum.toD)
    unfold sortH
    rw [show (dataLe false (fun a : α => id (Datum.toD a))) = dataLe false Datum.toD from rfl] at h3
    rw [h3, ← h2]
    exact h1
end G
/-! ### sets of points: set(xs) and sorted of such a set -/
namespace G
open PySem PySem.Spec PyProof.Rows L2 PySem.W
section
variable {P : Program} {w : World} {A : Around} {E : Value → Shared → Prop} {s : Shared}
theorem rows_in {L : List (Addr × List Int)} : ∀ vs : List Value, (∀ v ∈ vs, ∃ q ∈ L, v = Value.ref q.1) → ∃ L1 : List (Addr × List Int), vs = L1.map (fun q => Value.ref q.1) ∧ ∀ q ∈ L1, q ∈ L
  | [], _ => ⟨[], rfl, fun _ h => nomatch h⟩
  | v :: vs, hv => by
    obtain ⟨q, hq, e⟩ := hv v List.mem_cons_self
    obtain ⟨L1, e1, hs⟩ := rows_in vs fun u hu => hv u (List.mem_cons_of_mem _ hu)
    refine ⟨q :: L1, by rw [List.map_cons, e, e1], fun r hr => ?_⟩
    rcases List.mem_cons.mp hr with rfl | z
    · exact hq
    · exact hs r z
theorem each_refs {R : Value → (Addr × List Int) → Prop} : ∀ (L : List (Addr × List Int)), (∀ q ∈ L, R (.ref q.1) q) → EachIs R (L.map fun q => Value.ref q.1) L
  | [], _ => .nil
  | q :: L, h => .cons (h q List.mem_cons_self) (each_refs L fun r hr => h r (List.mem_cons_of_mem _ hr))
theorem refs_each : ∀ {us : List Value} {L : List (Addr × List Int)}, EachIs (fun v q => v = Value.ref q.1) us L → us = L.map fun q => Value.ref q.1
  | _, _, .nil => rfl
  | _, _, .cons h r => by rw [h, refs_each r]; rfl
/-- sorted(set) of data told by their ints -/
theorem sorted_setD {a : Addr} {L : List (Addr × List Int)} {es : Array (Int × Value)} {ep : Nat} {t : SetTable} {Q : Value → Shared → Prop} (R : SetTR P w s.heap a L es ep t) (hh : A.handled = none) (enc : List Int → PyData)
    (hrd : ∀ q ∈ L, ∃ as, Reads s.heap (.ref q.1) (enc q.2) as) (hal : ∀ L' : List (Addr × List Int), (∀ q ∈ L', q ∈ L) → AllAlike (L'.map fun q => enc q.2)) (hk : ∀ L' : List (Addr × List Int), (∀ q ∈ L', q ∈ L) → PySem.W.Sortable (L'.map fun q => enc q.2))
    (hu : ∀ q ∈ L, A.units + 2 + (enc q.2).depth < cLine)
    (hQ : ∀ s' p (out : Array Value) (c : Nat) (L1 : List (Addr × List Int)), (∀ b o, s.heap.get? b = some o → s'.heap.get? b = some o) → s'.gens = s.gens → s'.os = s.os → s.heap.objs.size ≤ p →
      s'.heap.get? p = some (seqObj "list" out c) → out.toList = (L1.mergeSort (dataLe false fun q => enc q.2)).map (fun q => Value.ref q.1) → L1.Perm L → Q (.ref p) s') :
    wpAny (model P w) A (call (.builtin "sorted") [.ref a]) Q E s := by
  obtain ⟨o, ho, hex, hd⟩ := R.ob
  have hsz := R.size
  have hfew := R.few
  refine call_function_entry_kw kind_sorted plain_sorted entry_sorted (args_sorted1 _) ?_
  unfold Builtin.«sorted»; refine wpAny_bind (m := checkCount "sorted" 1 1 _) (wpAny_pure (wpAny_bind ?_))
  refine collect_set (A := A.in1) hh ⟨o, ho, hex.1, hd⟩ R.fits (by unfold scanBound; omega) R.tab.ris R.led fun s1 vs k1 hz g1 o1 pm => ?_
  have hes : es.toList.map (·.2) = L.map fun q => Value.ref q.1 := by
    rw [R.rows]; unfold L2.rowsOf; rw [List.map_map] <;> rfl
  rw [hes] at pm
  obtain ⟨L1, eL, hs1⟩ := rows_in (L := L) vs fun v hv => by
    obtain ⟨q, hq, e⟩ := List.mem_map.mp (pm.mem_iff.mp hv)
    exact ⟨q, hq, e.symm⟩
  have one : ∀ q ∈ L, ∀ r ∈ L, q.1 = r.1 → q = r := fun q hq r hr e => by
    have a1 := R.tup q hq
    rw [e] at a1
    exact Prod.ext e (a1.inj (R.tup r hr))
  have pL : L1.Perm L := by
    rw [eL] at pm
    have nL : L.Nodup := nodup_of_map R.nd
    have nref : (L.map fun q => Value.ref q.1).Nodup := by
      refine List.pairwise_map.mpr (List.Pairwise.imp_of_mem (fun {q r} hq hr hne e => ?_) nL)
      injection e with e
      exact hne (one q hq r hr e)
    refine (List.perm_ext_iff_of_nodup (nodup_of_map (pm.nodup_iff.mpr nref)) nL).mpr fun q => ⟨hs1 q, fun hq => ?_⟩
    obtain ⟨r, hr, e⟩ := List.mem_map.mp (pm.mem_iff.mpr (List.mem_map.mpr ⟨q, hq, rfl⟩))
    injection e with e
    rw [← one r (hs1 r hr) q hq e]; exact hr
  have hvl : vs.length ≤ sizeLine := by rw [pm.length_eq, List.length_map, sizeLine_eq]; omega
  refine wpAny_bind (wpAny_newList ?_ hvl)
  have hoL : (s1.heap.push (seqObj "list" vs.toArray 0)).get? s1.heap.objs.size = some (seqObj "list" vs.toArray 0) := Heap.get?_push_size _ rfl
  have e1 : EachIs (fun v q => v = Value.ref q.1) vs L1 := by rw [eL]; exact each_refs L1 fun q _ => rfl
  have er : EachIs (fun v q => ∃ as, Reads (sortingHeap (s1.heap.push (seqObj "list" vs.toArray 0)) s1.heap.objs.size vs) v (enc (Prod.snd q)) as) vs L1 := by
    have := each_refs (R := fun v q => ∃ as, Reads (sortingHeap (s1.heap.push (seqObj "list" vs.toArray 0)) s1.heap.objs.size vs) v (enc q.2) as) L1 fun q hq => by
      obtain ⟨as, r⟩ := hrd q (hs1 q hq)
      refine ⟨as, PyProof.Rows.Reads.keeps (fun b u e => ?_) r⟩
      have q := k1 b u e
      exact sortingHeap_old (Nat.ne_of_lt (Heap.lt_size q)) (Heap.get?_push_of_some _ q)
    rw [← eL] at this
    exact this
  have S := SortsAt.data (prog := P) (w := w) (A := A.in1.in1) (s := { s1 with heap := sortingHeap (s1.heap.push (seqObj "list" vs.toArray 0)) s1.heap.objs.size vs }) (each_map (R := fun v d => ∃ as, Reads (sortingHeap (s1.heap.push (seqObj "list" vs.toArray 0)) s1.heap.objs.size vs) v d as) (fun q : Addr × List Int => enc q.2) er) (hal L1 hs1) (hk L1 hs1) (bound_map fun q hq => hu q (hs1 q hq))
  refine wpAny_bind (wpAny_holding (wpAny_call_entry_kw slot_list_sort ⟨_, hoL, rfl⟩ entry_list_sort ?body (args_list_sort _)))
  case body =>
    refine list_sort_vals (s := { s1 with heap := s1.heap.push (seqObj "list" vs.toArray 0) }) hoL S hvl ?_
    refine ⟨_, rfl, wpAny_pure ⟨_, rfl, ?_⟩⟩
    have ho2 := sortVals_data (h' := sortingHeap (s1.heap.push (seqObj "list" vs.toArray 0)) s1.heap.objs.size vs) (enc := fun q : Addr × List Int => enc q.2) false e1 er (hal L1 hs1)
    obtain ⟨c, hc⟩ := sortedHeap_at (vs := vs) (out := (sortVals (dataKind (sortingHeap (s1.heap.push (seqObj "list" vs.toArray 0)) s1.heap.objs.size vs) (L1.map fun q => enc q.2)) false vs vs).toArray) hoL
    refine hQ _ s1.heap.objs.size _ c L1 (fun b u e => ?_) g1 o1 hz hc (by rw [List.toList_toArray]; exact refs_each ho2) pL
    have q := k1 b u e
    have hlt := Heap.lt_size q
    show (sortedHeap (s1.heap.push (seqObj "list" vs.toArray 0)) s1.heap.objs.size vs _).get? b = some u
    rw [sortedHeap_old (Nat.ne_of_lt hlt) (by rw [size_push']; exact Nat.lt_succ_of_lt hlt)]
    exact Heap.get?_push_of_some _ q
end
end G
/-! ### {x for x in xs}, the x tuples of ints -/
namespace G
open PySem PySem.Spec PyProof.Rows L2
section
variable {X : Cx}
theorem typeIs_setT {P : Program} {w : World} {h : Heap} {a : Addr} {L : List (Addr × List Int)} {es : Array (Int × Value)} {ep : Nat} {t : SetTable} (R : SetTR P w h a L es ep t) : ∃ o, h.get? a = some o ∧ o.cls = .type "set" := by
  obtain ⟨o, ho, hex, _⟩ := R.ob
  exact ⟨o, ho, hex.1⟩
theorem addT_ok {pins : List (Addr × Obj)} {σ : L2.St} {H : Hp} {s : Shared} {E : Value → Shared → Prop} {D x : Addr} {L : List (Addr × List Int)} {k : List Int} {Q : Value → Shared → Prop} (I : Inv X pins σ H s) (hD : H D = some (SetTO X.prog X.w D L))
    (ht : ∀ p ∈ L, SqT X.K H p.1 (p.2.map V.int)) (hx : SqT X.K H x (k.map V.int)) (few : L.length + 1 < 64) (hu : X.A.units + 3 < cLine)
    (h : ∀ L' s', (k ∈ L.map (·.2) → L' = L) → (k ∉ L.map (·.2) → L'.Perm ((x, k) :: L)) → Inv X pins σ (upd H D (SetTO X.prog X.w D L')) s' → Q .none s') : wpAny (model X.prog X.w) X.A (call (.builtin "set.add") [.ref D, .ref x]) Q E s := by
  have R0 : SetT0 X.prog X.w s.heap D L := (I.hok D _ hD).1
  obtain ⟨es, ep, t, R⟩ := R0.full fun p hp => I.isT (ht p hp)
  have hxT := I.isT hx
  refine wpAny_call_entry F.slot_set_add (typeIs_setT R) F.entry_set_add ?_ (F.args_set_add_2 _ _)
  unfold Builtin.«set.add» Builtin.Frozenset.oneOther
  simp only [List.isEmpty_nil, bind_assoc]; unfold Builtin.Frozenset.addrOf setAdd
  refine wpAny_bind (wpAny_pure ?_); try dsimp only
  refine wpAny_bind (wpAny_pure ?_); try dsimp only
  refine wpAny_bind (wpAny_holding (wpAny_bind (wpAny_pyHash_tuple (by show X.A.in1.units < cLine; have : X.A.in1.units = X.A.units + 1 := rfl; omega) hxT ?_)))
  refine add_at (s := { s with toks := s.toks + (k.length + 1) }) R hxT (by have : X.A.in1.units = X.A.units + 1 := rfl; omega) few fun b h' L' es' ep' t' sb R' c1 c2 => ?_
  show wpAny _ _ (ret Value.none) _ _ _
  obtain ⟨o', ho', _⟩ := R'.ob
  exact wpAny_pure ⟨_, rfl, h L' _ c1 c2 (I.write (e := D) (t' := s.toks + (k.length + 1)) (by rw [hD]; trivial) (.inl rfl) (fun b u hb hu => (sb.2 b hb).trans hu) ⟨o', ho'⟩ (setTO_new R'.t0))⟩
/-- D the new set -/
def tScT (P : Program) (w : World) (K : PySem.W.Frag) (wi : TI) (g : TG) (tt : TT) (te : TE) (vs : List Nat) : TE := fun σ H Q => wi σ H fun J H1 => ∀ D, H1 D = none → ∃ W : Nat → Nat → Hp → Prop, (∃ m, W 0 m (upd H1 D (SetTO P w D []))) ∧ ∀ i m H, W i m H →
  (J.stop i H ∧ Q (.ref D) H) ∨ (J.go i H ∧ ∃ Nx : Hp → Prop, (∀ H', Nx H' → ∃ m', m' < m ∧ W (i + 1) m' H') ∧ ∀ x H', J.yld i H x H' → g x (wipe σ vs) H' fun σ2 H2 => wipe σ2 vs = wipe σ vs ∧ tt σ2 H2 fun b H3 =>
    if b = true then te σ2 H3 fun y H4 => ∃ (x : Addr) (k : List Int) (L : List (Addr × List Int)), y = .ref x ∧ H4 D = some (SetTO P w D L) ∧ (∀ p ∈ L, SqT K H4 p.1 (p.2.map V.int)) ∧ SqT K H4 x (k.map V.int) ∧ L.length + 1 < 64 ∧
      ∀ L' : List (Addr × List Int), (k ∈ L.map (·.2) → L' = L) → (k ∉ L.map (·.2) → L'.Perm ((x, k) :: L)) → Nx (upd H4 D (SetTO P w D L')) else Nx H3)
theorem scT_core {pins : List (Addr × Obj)} {s : Shared} {σ : L2.St} {H : Hp} {Q : VK} {elt tg iter : Expr} {ifs : List Expr} {scope : Scope} {own : List (PySem.Str × Nat)} {pos pos' : Pos} {wi : TI} {g : TG} {tt : TT} {te : TE} {use : Option (Value → Sem Unit)} {Qf : Value → Shared → Prop}
    (hu : X.A.units + 3 < cLine) (hc : X.calm = true) (hN : X.N.Nodup) (I : Inv X pins σ H s) (hi : PI X tg iter wi) (ok : BlkOk X.N X.env.scope scope own)
    (hg : ∀ (s : Shared) (H : Hp) (C : Addr) (cl : List (PySem.Str × Addr)) (fp : List Addr), PG (X.blk s H scope (compEnvC scope cl C X.env) fp) tg g) (ht : ∀ (s : Shared) (H : Hp) (C : Addr) (cl : List (PySem.Str × Addr)) (fp : List Addr), PTs (X.blk s H scope (compEnvC scope cl C X.env) fp) ifs tt)
    (he : ∀ (s : Shared) (H : Hp) (C : Addr) (cl : List (PySem.Str × Addr)) (fp : List Addr), PE (X.blk s H scope (compEnvC scope cl C X.env) fp) elt te) (hs : ∀ x, foldedSetIterable iter X.env x = pure x) (h : tScT X.prog X.w X.K wi g tt te (own.map (·.2)) σ H Q)
    (hRR : ∀ D C s' m H', Inv X pins σ H' s' → Q (.ref D) H' → s'.heap.Ns C m → FpOk X pins H' C → compPost (model X.prog X.w) X.A X.xe use Qf (.ref D) C (.ok .next) s') :
    wpAny (model X.prog X.w) X.A (comprehension (.SetComp elt [⟨tg, iter, ifs, 0⟩] scope pos) scope X.env pos' (newSet (.type "set")) false (eval iter X.env) use) Qf X.xe s := by
  have hfree : ∀ y ∈ scope.names, y.2 = .free → ∃ c, X.env.cells.lookup y.1 = some c := by
    intro y hy e; rcases ok.free y hy e with k | k
    · exact I.ok.has _ (.inl k)
    · exact I.ok.has _ (.inr k)
  refine wpAny_comprehension_free (use := use) rfl hs (closure_ok hfree) ok.kind (fun y hy e => by rw [ok.uniq y hy, e]) (thn (hi.run pins s σ H _ I h) fun xv s1 hx => thn hx fun itv s2 h2 => ?_)
  obtain ⟨it, fp, tn, J, H2, e, I2, T, st2, f2, q⟩ := h2; subst e
  refine PpSet.newSet_ok (newEnv_comp ?_); generalize hD : s2.heap.objs.size = D
  have hDn : H2 D = none := I2.hok.fresh (Nat.le_of_eq hD); obtain ⟨W, ⟨m0, w0⟩, turn⟩ := q D hDn
  generalize hs3 : ({ s2 with heap := s2.heap.push { cls := .type "set", dict := none, data := .set #[] 0 (.fresh 0 0 (!X.w.params.followText "set-order")) } } : Shared) = s3
  have I3 : Inv X pins σ (upd H2 D (SetTO X.prog X.w D [])) s3 := by
    rw [← hs3]; refine I2.laid (t' := s2.toks) (fun b o e => Heap.get?_push_of_some _ e) (Nat.le_of_eq hD) ?_
    rw [← hD]; exact setTO_new (setTR_fresh (P := X.prog) (w := X.w) (Heap.get?_push_size _ rfl)).t0
  have h3 : s3.heap = s2.heap.push { cls := .type "set", dict := none, data := .set #[] 0 (.fresh 0 0 (!X.w.params.followText "set-order")) } := by rw [← hs3]
  have sz : ∀ b ∈ fp, b < s2.heap.objs.size := by
    intro b hb; obtain ⟨o, e, _⟩ := T.obj _ _ st2 b hb; exact Heap.lt_size e
  have f3 : ∀ b ∈ fp, FpOk X pins (upd H2 D (SetTO X.prog X.w D [])) b ∧ b < s3.heap.objs.size := by
    intro b hb; have hlt := sz b hb
    refine ⟨⟨?_, (f2 b hb).2⟩, by rw [h3, Heap.size_push]; exact Nat.lt_succ_of_lt hlt⟩
    rw [upd_ne (by rw [← hD]; exact Nat.ne_of_lt hlt)]; exact (f2 b hb).1
  have st3 : tn 0 s3.heap := T.keep _ _ _ st2 fun b _ o e => by rw [h3]; exact Heap.get?_push_of_some _ e
  have I4 := block_start I3 ok hN f3
  have pg := hg s3 (upd H2 D (SetTO X.prog X.w D [])) s3.heap.objs.size (cellsFrom (s3.heap.objs.size + 1) scope.names (cloFrom X.env.cells scope.names [])) fp
  have pt := ht s3 (upd H2 D (SetTO X.prog X.w D [])) s3.heap.objs.size (cellsFrom (s3.heap.objs.size + 1) scope.names (cloFrom X.env.cells scope.names [])) fp
  have pe := he s3 (upd H2 D (SetTO X.prog X.w D [])) s3.heap.objs.size (cellsFrom (s3.heap.objs.size + 1) scope.names (cloFrom X.env.cells scope.names [])) fp
  show codeAny _ _ (.compStart (.SetComp elt [⟨tg, iter, ifs, 0⟩] scope pos) 0 (.ref it) (.ref D) (compEnvC scope (cellsFrom (s3.heap.objs.size + 1) scope.names (cloFrom X.env.cells scope.names [])) s3.heap.objs.size X.env)) (compPost (model X.prog X.w) X.A X.xe use Qf (.ref D) s3.heap.objs.size) { s3 with heap := pushCells (s3.heap.push { cls := .type "dict", data := .dict #[] }) scope.names }
  have nfp : ∀ b ∈ fp, (upd H2 D (SetTO X.prog X.w D [])) b = none := fun b hb => (f3 b hb).1.1
  generalize hce : compEnvC scope (cellsFrom (s3.heap.objs.size + 1) scope.names (cloFrom X.env.cells scope.names [])) s3.heap.objs.size X.env = ce at I4 pg pt pe ⊢; have cL : ce.locals = s3.heap.objs.size := by subst hce; rfl
  generalize hH3 : upd H2 D (SetTO X.prog X.w D []) = H3 at I3 I4 pg pt pe w0 nfp f3
  generalize hs4 : ({ s3 with heap := pushCells (s3.heap.push { cls := .type "dict", data := .dict #[] }) scope.names } : Shared) = s4 at I4 ⊢; have st4 : tn 0 s4.heap := T.keep _ _ _ st3 fun b _ o e => by rw [← hs4]; exact pushCells_keeps _ _ _ _ (Heap.get?_push_of_some _ e)
  have stat : ∀ {σ' : L2.St} {H' : Hp} {s' : Shared}, Inv (X.blk s3 H3 scope ce fp) [] σ' H' s' → (∀ b ∈ fp, H' b = none) → ∀ b ∈ fp, FpOk (X.blk s3 H3 scope ce fp) [] H' b := by
    intro σ' H' s' I' hn b hb; exact ⟨hn b hb, (I'.ok.exf b hb).1, I'.ok.exfs b hb, .inl hb, fun x c e => (I'.ok.exf b hb).2 x c e, fun p hp => absurd (show p ∈ ([] : List (Addr × Obj)) ++ [] from hp) (by simp)⟩
  have loop : codeAny (model X.prog X.w) X.A (.compLoop (.SetComp elt [⟨tg, iter, ifs, 0⟩] scope pos) 0 (.ref it) (.ref D) ce) (compPost (model X.prog X.w) X.A X.xe use Qf (.ref D) s3.heap.objs.size) s4 := by
    refine PpSet.compLoopS_any (fun n s' => ∃ i H', Inv (X.blk s3 H3 scope ce fp) [] (wipe σ (own.map (·.2))) H' s' ∧ tn i s'.heap ∧ (∀ b ∈ fp, H' b = none) ∧ W i n H') ?_ m0 ⟨0, H3, I4, st4, nfp, w0⟩
    rintro n s5 ⟨i, H5, I5, st5, n5, w5⟩; rcases turn i n H5 w5 with ⟨stop, qq⟩ | ⟨go, Nx, hNx, step⟩
    · refine thnF (T.done (X.blk s3 H3 scope ce fp) rfl rfl rfl hc i [] s5 _ H5 (fun _ _ => False) I5 (stat I5 n5) st5 stop) fun r s6 ⟨hr, I6⟩ => ?_
      subst hr; have I7 : Inv X pins σ H5 s6 := I3.call' (ch := fp) I6.os I6.base I6.hok I6.bare fun b hb => ⟨(f3 b hb).1.2.2.2.1, (f3 b hb).1.2.1, (f3 b hb).1.2.2.2.2.1, (f3 b hb).1.2.2.2.2.2⟩
      have nC : H5 ce.locals = none := I6.free
      obtain ⟨m, hn, _⟩ := I6.loc; have hn : s6.heap.Ns ce.locals m := hn
      rw [cL] at hn nC; exact hRR D s3.heap.objs.size s6 m H5 I7 qq hn (I3.fpOk (Nat.le_refl _) nC)
    · refine thnF (T.item (X.blk s3 H3 scope ce fp) rfl rfl rfl hc i [] s5 _ H5 (fun _ _ => False) I5 (stat I5 n5) st5 go) fun r s6 ⟨u, hr, h6⟩ => ?_
      subst hr; refine thnF h6 fun _ s7 ⟨x, H7, I7, r7, y7, st7, n7⟩ => ?_
      have I7' := I7.pinned (stat I7 n7) (T.obj _ _ st7); refine thnF (pg.run _ s7 _ H7 x u _ I7' r7 (step x H7 y7)) fun _ s8 ⟨σ8, H8, I8, hw8, q8⟩ => thnF (pt.run _ s8 σ8 H8 _ I8 q8) fun b s9 ⟨H9, I9, q9⟩ => ?_
      have fin : ∀ {s' : Shared} {H' : Hp}, Inv (X.blk s3 H3 scope ce fp) ([] ++ pinsAt fp s7.heap) σ8 H' s' → Nx H' → ∃ m, m < n ∧ ∃ i H', Inv (X.blk s3 H3 scope ce fp) [] (wipe σ (own.map (·.2))) H' s' ∧ tn i s'.heap ∧ (∀ b ∈ fp, H' b = none) ∧ W i m H' := by
        intro s' H' I' nx; obtain ⟨m', hm, w'⟩ := hNx H' nx
        have pin' : ∀ b ∈ fp, ∀ o, s7.heap.get? b = some o → s'.heap.get? b = some o ∧ H' b = none := by
          intro b hb o e; have z := I'.pin (b, o) (List.mem_append_right _ (List.mem_append_right _ (mem_pinsAt hb e))); exact ⟨z.1, z.2.1⟩
        refine ⟨m', hm, i + 1, H', (I'.unpinned (pins := [])).weak (by rw [← hw8, wipe_length]) (fun j v e => ?_), T.keep _ _ _ st7 fun b hb o e => (pin' b hb o e).1, fun b hb => ?_, w'⟩
        · rw [← hw8] at e; exact (wipe_some e).1
        · obtain ⟨o, e, _⟩ := T.obj _ _ st7 b hb; exact (pin' b hb o e).2
      cases b with
      | false => simp only [Bool.false_eq_true, if_false] at q9 ⊢; exact fin I9 q9
      | true =>
        simp only [if_true] at q9 ⊢; refine thnF (pe.run _ s9 σ8 H9 _ I9 q9) fun z s10 ⟨yv, H10, I10, r10, xa, k0, L0, ey, hD10, hT10, hx10, few, nx⟩ => ?_
        subst ey; cases (show z = Value.ref xa from r10)
        exact addT_ok (X := X.blk s3 H3 scope ce fp) I10 hD10 hT10 hx10 few hu fun L' s11 c1 c2 I11 => fin I11 (nx L' c1 c2)
  exact PpSet.codeAny_compStart_set loop (T.self X.A 0 _ _ _ st4 loop)
theorem pe_scT {elt tg iter : Expr} {ifs : List Expr} {scope : Scope} {own : List (PySem.Str × Nat)} {pos : Pos} {wi : TI} {g : TG} {tt : TT} {te : TE} (hu : X.A.units + 3 < cLine) (hc : X.calm = true) (hN : X.N.Nodup) (hi : PI X tg iter wi) (ok : BlkOk X.N X.env.scope scope own)
    (hg : ∀ (s : Shared) (H : Hp) (C : Addr) (cl : List (PySem.Str × Addr)) (fp : List Addr), PG (X.blk s H scope (compEnvC scope cl C X.env) fp) tg g) (ht : ∀ (s : Shared) (H : Hp) (C : Addr) (cl : List (PySem.Str × Addr)) (fp : List Addr), PTs (X.blk s H scope (compEnvC scope cl C X.env) fp) ifs tt)
    (he : ∀ (s : Shared) (H : Hp) (C : Addr) (cl : List (PySem.Str × Addr)) (fp : List Addr), PE (X.blk s H scope (compEnvC scope cl C X.env) fp) elt te) (hs : ∀ x, foldedSetIterable iter X.env x = pure x := by intro _; rfl) :
    PE X (.SetComp elt [⟨tg, iter, ifs, 0⟩] scope pos) (tScT X.prog X.w X.K wi g tt te (own.map (·.2))) := by
  refine ⟨fun pins s σ H Q I h => ?_⟩; rw [PpSet.eval_SetComp]
  refine scT_core hu hc hN I hi ok hg ht he hs h fun D C s' m H' I' q hn f => ⟨m, hn, fun h'' sb => ?_⟩; obtain ⟨f0, f1, f2, f3, f4, f5⟩ := f
  exact ⟨.ref D, H', I'.turned (t' := s'.toks) (fun b o hb e => (sb.2 b hb).trans e) f0 f1 f3 f4 f5, rfl, q⟩
theorem _root_.L2.Room.u3 {n : Nat} (hr : Room n X.A) : X.A.units + 3 < cLine := by
  have : X.A.units + 64 < cLine := hr.units
  omega
theorem kScT {P : Program} {w : World} {K : PySem.W.Frag} {e : Expr} {wi : TI} {g : TG} {tt : TT} {te : TE} {vs : List Nat} (h : PE X e (tScT X.prog X.w X.K wi g tt te vs)) (h1 : X.K = K := by rfl) (h2 : X.prog = P := by rfl) (h3 : X.w = w := by rfl) : PE X e (tScT P w K wi g tt te vs) := by
  subst h1 h2 h3; exact h
theorem kSetOfT {P : Program} {w : World} {K : PySem.W.Frag} {n : Nat} (hc : X.calm = true) (hr : Room n X.A) (h1 : X.K = K := by rfl) (h2 : X.prog = P := by rfl) (h3 : X.w = w := by rfl) : CallR X (.type "set") (rSetOfT K P w) := by
  subst h1 h2 h3; exact cr_setOfT hc hr.units
end
end G
/-! ### len of an object by its own __len__ -/
namespace G
open PySem PySem.Spec PyProof.Rows L2
structure LenOf (K : PySem.W.Frag) (C f : Addr) : Prop where
  here : PySem.W.findIn K (.ref C) "__len__" = some (some (.ref f))
  fn : PySem.W.isFn K (.ref f) = true
def lenOB (K : PySem.W.Frag) (C f : Addr) : Bool := He.eqO (PySem.W.findIn K (.ref C) "__len__") (some (some (.ref f))) && PySem.W.isFn K (.ref f)
theorem lenOB_ok {K : PySem.W.Frag} {C f : Addr} (c : lenOB K C f = true) : LenOf K C f := by
  obtain ⟨c1, c2⟩ := He.ba c
  exact ⟨He.eqO_ok c1, c2⟩
def rLenO (K : PySem.W.Frag) (f : Addr) (sp : Sp) (E : XK) : List V → Hp → VK → Prop := fun xs H Q => ∃ a C dx fs, xs = [.ref a] ∧ H a = some (.ins C dx fs) ∧ LenOf K C f ∧ sp [.ref a] H (fun v H' => ∃ n : Nat, v = .int n ∧ n < 1000000 ∧ Q (.int n) H') E
section
variable {X : Cx} {CX : CXT} {n : Nat} {C f : Addr} {fd : FuncData} {ps : List Str} {sp : Sp} {E : XK} {K : PySem.W.Frag}
theorem cLenO (F : FnOk X.prog X.w X.K X.mg X.base CX n f fd ps sp) (hr : Room (n + 1) X.A) (hb : Binds X.K fd ps []) (hx : Passes CX X E) (hK : X.K = K := by rfl) : CallR X (.builtin "len") (rLenO K f sp E) := by
  subst hK
  intro pins s σ H xs us Q I r h
  obtain ⟨a, C, dx, fs, rfl, ha, hlen, h⟩ := h
  obtain ⟨u, rfl, ru⟩ := vals1 r
  obtain rfl : u = Value.ref a := ru
  obtain ⟨mA, J, _⟩ := ins_get I.hok ha
  obtain ⟨od, J, _⟩ := J.look
  obtain ⟨m, hF⟩ := I.fr
  refine PySem.W.len_K hF I.ok.mod.kin J hlen.here hlen.fn ?_
  have hl := F.len _ _ _ _ h
  refine wpAny_call (codeAny_mono (F.run X.A.in1 X.stack s H ⟨[.ref a], []⟩ [.ref a] [.ref a] _ E hr.in1 I.env0.in1 (by
    have := hb s [.ref a] I.kIn (by simpa using hl)
    simpa using this) (.cons rfl .nil) h) fun r s' hq => ?_)
  cases r with
  | error e => exact hx pins σ H s e s' I hq
  | ok fl =>
    cases fl with
    | ret w =>
      obtain ⟨v, H', I', rv, k, rfl, hk, q⟩ := I.after hq
      obtain ⟨t, rfl⟩ := rv
      exact ⟨⟨by omega, by omega⟩, ⟨.int k, H', I'.tok _, ⟨_, rfl⟩, q⟩⟩
    | next => exact False.elim hq
    | brk => exact False.elim hq
    | cont => exact False.elim hq
theorem r_lenO {H : Hp} {Q : VK} {a dx : Addr} {fs : List (Str × V)} (ha : H a = some (.ins C dx fs)) (hl : LenOf K C f) (q : sp [.ref a] H (fun v H' => ∃ n : Nat, v = .int n ∧ n < 1000000 ∧ Q (.int n) H') E) : rLenO K f sp E [.ref a] H Q := ⟨a, C, dx, fs, rfl, ha, hl, q⟩
end
end G
/-! ### calls where no repr is under way: the promise may lean on it -/
namespace G
open PySem PySem.Spec PyProof.Rows L2
abbrev Quiet (A : Around) : Prop := A.guards = some []
theorem quiet_deeper {A : Around} {env : Env} (h : Quiet A) : Quiet (A.deeper env) := h
theorem quiet_in1 {A : Around} (h : Quiet A) : Quiet A.in1 := h
structure FnQ (P : Program) (w : World) (K : PySem.W.Frag) (mg : Str → Option Value) (base : Heap) (CX : CXT) (k : Nat) (f : Addr) (fd : FuncData) (ps : List Str) (sp : Sp) : Prop where
  lenQ : ∀ vs H Q E, sp vs H Q E → vs.length = ps.length
  runQ : ∀ (A : Around) (outer : List Env) (s : Shared) (H : Hp) (args : Args) (us : List Value) (vs : List V) (Q : VK) (E : XK), Quiet A → Room k A →
    Env0 P w K mg base A outer s H → BindsTo s fd args (ps.zip us) → Vals vs us → sp vs H Q E → codeAny (model P w) A (.call (.ref f) args) (CR CX outer P w H s Q E) s
section
variable {P : Program} {w : World} {K : PySem.W.Frag} {mg : Str → Option Value} {base : Heap} {CX : CXT} {k : Nat} {f : Addr} {N ps : List Str} {sp : Sp} {name qual : Str} {params : Arguments} {body : List Stmt} {scope : Scope} {dvs : List V} {kws : List (Str × V)} {fd : FuncData}
theorem FnQ.mono {j : Nat} (F : FnQ P w K mg base CX j f fd ps sp) (h : j ≤ k) : FnQ P w K mg base CX k f fd ps sp := ⟨F.lenQ, fun A outer s H args us vs Q E g hr => F.runQ A outer s H args us vs Q E g (hr.mono h)⟩
theorem FunD.okQ (F : FunD K name qual params body scope dvs kws f fd) (S : FnScope N ps scope) (hlen : ∀ vs H Q E, sp vs H Q E → vs.length = ps.length)
    (hb : ∀ (cdv : Value) (A : Around) (outer : List Env) (s : Shared) (H : Hp) (vs : List V) (Q : VK) (E : XK), Quiet (A.deeper (envOfC qual scope s.heap.objs.size f cdv)) → Room k (A.deeper (envOfC qual scope s.heap.objs.size f cdv)) → sp vs H Q E →
      ∃ t, PSs (cxOf CX P w K mg base N qual scope f cdv A outer s H E) body t ∧ t { nx := fun _ H' => Q .non H', rt := Q } (L2.start N vs) H) : FnQ P w K mg base CX (k + 1) f fd ps sp := by
  obtain ⟨oc, od, dV, kV, doc, pm, an, cdv, ct, osl, rfl, lk, hcd, _, _⟩ := F.ex
  refine ⟨hlen, fun A outer s H args us vs Q E hq hr env hbi hv hsp => ?_⟩
  have old : ∀ b o, base.get? b = some o → s.heap.get? b = some o := fun b o e => (env.bs b o e).1
  have inK := env.mod.kin.keeps old; have noL := env.mod.nolimit.keeps old
  have kinds : ∀ y ∈ ps.zip us, scope.names.lookup y.1 = some .local ∨ (scope.names.lookup y.1 = some .cell ∧ ((cellsFrom (s.heap.objs.size + 1) scope.names []).lookup y.1).isSome = true) := by
    rintro ⟨n, v⟩ hy
    have := S.par n (List.of_mem_zip hy).1
    exact this.elim .inl fun q => .inr ⟨q, PySem.W.cellsFrom_some _ _ _ (.inl q)⟩
  refine codeAny_call_function hr.depth (inK _ _ lk) rfl S.co S.gen rfl (PySem.W.codeRec_of inK hcd) (hbi _ _ _ _ (wpAny_newFunctionEnv_cells S.kind kinds fun env' he s1 x => ?_))
  subst he
  obtain ⟨t, ht, hq2⟩ := hb cdv A outer s H vs Q E (quiet_deeper hq) (hr.deeper _) hsp
  refine ⟨noL.keeps x.toInCall.keep, codeAny_func (wpAny_mono (ht.run [] s1 (L2.start N vs) H _ (inv_start S hr.hd env (hlen _ _ _ _ hsp) hv x) hq2) (fun fl s' hs => ?_) fun _ _ z => z)⟩
  cases fl with
  | ret u => obtain ⟨v, σ', H', J, rv, q⟩ := hs; exact ⟨v, H', J.os, J.bare, J.base, J.hok, rv, q⟩
  | next => obtain ⟨σ', H', J, q⟩ := hs; exact ⟨.non, H', J.os, J.bare, J.base, J.hok, rfl, q⟩
  | brk => obtain ⟨_, _, _, q⟩ := hs; exact q.elim
  | cont => obtain ⟨_, _, _, q⟩ := hs; exact q.elim
end
/-! calls of such functions -/
section
variable {X : Cx} {CX : CXT} {k : Nat} {f : Addr} {fd : FuncData} {ps : List Str} {sp : Sp} {dvs : List V} {ds : List Value} {e : Expr} {es : List Expr} {x : Str} {p pos : Pos} {t : TA} {E : XK}
theorem run_fnQ {A : Around} {pins : List (Addr × Obj)} {σ : L2.St} {H : Hp} {s : Shared} {Q : VK} {us : List Value} {vs : List V} (F : FnQ X.prog X.w X.K X.mg X.base CX k f fd ps sp) (hq : Quiet A) (hr : Room k A) (e0 : Env0 X.prog X.w X.K X.mg X.base A X.stack s H) (hb : Binds X.K fd ps ds) (hd : Vals dvs ds) (hx : Passes CX X E)
    (I : Inv X pins σ H s) (r : Vals vs us) (h : sp (vs ++ dvs) H Q E) : wpAny (model X.prog X.w) A (call (.ref f) us) (EP X pins σ Q) X.xe s := by
  have rr := r.append hd
  have hl : (us ++ ds).length = ps.length := rr.length ▸ F.lenQ _ _ _ _ h
  refine wpAny_call (codeAny_mono (F.runQ A X.stack s H ⟨us, []⟩ _ _ Q E hq hr e0 (hb s us I.kIn hl) rr h) fun res s' hz => ?_)
  match res, hz with
  | .error e, hz => exact hx pins σ H s e s' I hz
  | .ok (.ret u), hz => exact I.after hz
  | .ok .next, hz => exact hz.elim
  | .ok .brk, hz => exact hz.elim
  | .ok .cont, hz => exact hz.elim
theorem pe_callQ (F : FnQ X.prog X.w X.K X.mg X.base CX k f fd ps sp) (hq : Quiet X.A) (hr : Room k X.A) (hg : Gl X x) (hm : X.mg x = some (.ref f)) (hk : PySem.W.keepIn X.K (.ref f) = true) (hb : Binds X.K fd ps ds) (hd : Vals dvs ds) (hx : Passes CX X E) (ha : PA X (e :: es) t)
    (hdb : (x == ("__debug__" : Str)) = false := by decide) (he : starEach (e :: es) X.env = (false, eval e X.env) :: starEach es X.env := by rfl) (hpl : (backTo pos (starEach es X.env)).any (·.1) = false := by rfl) : PE X (.Call (.Name x p) (e :: es) [] pos) (tCall sp dvs E t) :=
  ⟨fun pins s σ H Q I h => wpAny_Call_Name_kw (ld_glob I hg hm (PySem.W.callWith_K (h₀ := X.base) I.ok.mod.kin hk (thn (ha.run pos pins s σ H _ I h) fun us s1 ⟨vs, H1, I1, r, q⟩ => ⟨I1.kIn, run_fnQ F hq hr I1.env0 hb hd hx I1 r q⟩) he hpl) hdb)⟩
end
/-! repr of data -/
section
variable {X : Cx} {K : PySem.W.Frag}
def rRepr (K : PySem.W.Frag) : List V → Hp → VK → Prop := fun xs H Q => ∃ (a : Addr) (d : PyData), xs = [.ref a] ∧ Dp K H (.ref a) d ∧ d.showable = true ∧ d.hasDict = false ∧ d.depth ≤ 60 ∧ d.shown.length ≤ sizeLine ∧ Q (.str d.shown) H
theorem cReprD (hq : Quiet X.A) (hu : X.A.units + 64 < cLine) (hK : X.K = K := by rfl) : CallR X (.builtin "repr") (rRepr K) := by
  subst hK
  intro pins s σ H xs us Q I r h
  obtain ⟨a, d, rfl, hd, hs, hn, hdp, hl, q⟩ := h
  obtain ⟨u, rfl, ru⟩ := vals1 r
  obtain rfl : u = Value.ref a := ru
  obtain ⟨as, rd⟩ := Dp.reads I d _ _ hd rfl
  exact repr_of_reads' rd hs (fun z => absurd z (by rw [hn]; decide)) hq (by omega) (fun _ _ z => z) (fun h' u tk hk => ⟨.str _, H, I.kept hk, ⟨_, rfl⟩, q⟩) hl
theorem r_reprD {H : Hp} {Q : VK} {a : Addr} {d : PyData} (hd : Dp K H (.ref a) d) (hs : d.showable = true) (hn : d.hasDict = false) (hdp : d.depth ≤ 60) (hl : d.shown.length ≤ sizeLine) (q : Q (.str d.shown) H) : rRepr K [.ref a] H Q := ⟨a, d, rfl, hd, hs, hn, hdp, hl, q⟩
end
end G
/-! ### the law's own call, where the law's promise leans on Quiet -/
namespace G
open PySem PySem.Spec PyProof.Rows L2
section
variable {P : Program} {w : World} {K : PySem.W.Frag} {mg mb : Str → Option Value} {CX : CXT} {k : Nat} {fa a : Addr} {fd : FuncData} {x : Str} {sp : Sp} {s1 : Shared} {vs : List Value} {ns : List Int}
abbrev LawEnd (s1 : Shared) : Result → Shared → Prop := fun r s' => r = .ok (.ret (.bool true)) ∧ OldK s1.heap s'.heap ∧ s'.os = s1.os ∧ AllBare s'.gens
/-- from a heap in which at most the script is tracked -/
theorem lawQ_core (X0 : K.In s1.heap) (hns : s1.heap.Ns mainGlobals mg) (hbn : s1.heap.Ns builtinsNs mb) (hbb : ∀ x : Str, x ≠ "__name__" → mb x = bootBuiltins x) (hlim : s1.heap.NoLimit) (hgen : s1.gens = #[])
    (ha : s1.heap.get? a = some { cls := .type "list", data := .seq vs.toArray }) (hr : Room k callerA)
    (F : ∀ base : Heap, K.In base → base.Ns mainGlobals mg → FnQ P w K mg base CX k fa fd [x] sp) (hbind : ∀ (s : Shared) (u : Value), BindsTo s fd ⟨[u], []⟩ [(x, u)])
    (hCX : ∀ H e s', CX [] H s1 (fun _ _ _ => False) e s' → False)
    (H : Hp) (hO : Only H) (hp : sp [.ref a] H (fun v _ => v = .bl true) fun _ _ _ => False) (hok : HOk P w H s1.heap) (hA : ∀ b, H b ≠ none → b = a) (hK : H a ≠ none → K.lookup a = none) :
    codeAny (model P w) callerA (.call (.ref fa) ⟨[.ref a], []⟩) (LawEnd s1) s1 := by
  have out : ∀ {b : Addr}, b ≠ a → H b = none := fun {b} n => by
    cases q : H b with
    | none => rfl
    | some u => exact absurd (hA b (by rw [q]; exact fun z => nomatch z)) n
  have inB : ∀ {b : Addr} {o : Obj}, s1.heap.get? b = some o → H b = none → (hidT s1.heap H).get? b = some o := hidT_get
  have nsB : ∀ {b : Addr} {m : Str → Option Value}, s1.heap.Ns b m → (hidT s1.heap H).Ns b m := fun {b m} ⟨o, es, ep, e, d, r⟩ => ⟨o, es, ep, inB e (out fun z => by subst z; rw [ha] at e; cases e; cases d), d, r⟩
  have kinB : K.In (hidT s1.heap H) := fun b o e => inB (X0 b o e) (by
    by_cases z : b = a
    · subst z
      cases q : H b with
      | none => rfl
      | some u => rw [hK (by rw [q]; exact fun z => nomatch z)] at e; cases e
    · exact out z)
  obtain ⟨mc, n1, n2⟩ := hlim
  have env : Env0 P w K mg (hidT s1.heap H) callerA [] s1 H := by
    refine ⟨rfl, ⟨kinB, nsB hns, ⟨mb, nsB hbn, hbb⟩, ⟨mc, nsB n1, n2⟩⟩, fun b o e => of_hidT e, Nat.le_of_eq (hidT_size _ _), trivial, fun b hb => ?_, hok, .of_eq hgen⟩
    exact absurd (show b ∈ ([] : List Addr) from hb) (by simp)
  refine codeAny_mono ((F _ kinB (nsB hns)).runQ callerA [] s1 H ⟨[.ref a], []⟩ [.ref a] [.ref a] _ _ rfl hr env (hbind s1 (.ref a)) (.cons rfl .nil) hp) fun r s' hz => ?_
  match r, hz with
  | .error e, hz => exact (hCX H e s' hz).elim
  | .ok .next, hz => exact hz.elim
  | .ok .brk, hz => exact hz.elim
  | .ok .cont, hz => exact hz.elim
  | .ok (.ret u), hz =>
    obtain ⟨v, H', os, bare, un, hok', rv, (ev : v = .bl true)⟩ := hz
    subst ev
    obtain rfl : u = Value.bool true := rv
    refine ⟨rfl, OldK.of_keep fun b o e => ?_, os, bare⟩
    rcases hO b with z | ⟨ob, xs, z⟩
    · exact un.keep b o e z (fun y => absurd (show b ∈ ([] : List Addr) from y) (by simp)) (by simp)
    · have g1 := (hok b _ z).1; have g2 := (hok' b _ (un.frzs b ob _ z)).1
      rw [g2, ← g1, e]
theorem lawQ (X0 : K.In s1.heap) (hns : s1.heap.Ns mainGlobals mg) (hbn : s1.heap.Ns builtinsNs mb) (hbb : ∀ x : Str, x ≠ "__name__" → mb x = bootBuiltins x) (hlim : s1.heap.NoLimit) (hgen : s1.gens = #[])
    (ha : s1.heap.get? a = some { cls := .type "list", data := .seq vs.toArray }) (hi : IntsAre vs ns) (hl : ns.length ≤ sizeLine) (hr : Room k callerA)
    (F : ∀ base : Heap, K.In base → base.Ns mainGlobals mg → FnQ P w K mg base CX k fa fd [x] sp) (hbind : ∀ (s : Shared) (u : Value), BindsTo s fd ⟨[u], []⟩ [(x, u)])
    (hsp : ∀ H : Hp, Only H → SqL K H a (ns.map V.int) → sp [.ref a] H (fun v _ => v = .bl true) fun _ _ _ => False) (hCX : ∀ H e s', CX [] H s1 (fun _ _ _ => False) e s' → False) :
    codeAny (model P w) callerA (.call (.ref fa) ⟨[.ref a], []⟩) (LawEnd s1) s1 := by
  have rv := vals_ints hi
  have go := lawQ_core X0 hns hbn hbb hlim hgen ha hr F hbind hCX
  cases hk : K.lookup a with
  | some o =>
    obtain rfl : o = { cls := .type "list", data := .seq vs.toArray } := by have e := X0 a o hk; rw [ha] at e; exact (Option.some.inj e).symm
    refine go (fun _ => none) (fun _ => .inl rfl) (hsp _ (fun _ => .inl rfl) (.inr ⟨_, vs.toArray, _, hk, rfl, rfl, rfl, ?_, by simpa using rv⟩)) (fun b u z => nomatch z) (fun b z => absurd rfl z) fun z => absurd rfl z
    rw [List.size_toArray, hi.length]; exact hl
  | none =>
    have only : Only (fun b => if b = a then some (HO.frz { cls := .type "list", data := .seq vs.toArray } (.lst (ns.map V.int))) else none) := fun b => by
      by_cases z : b = a
      · exact .inr ⟨_, _, if_pos z⟩
      · exact .inl (if_neg z)
    refine go _ only (hsp _ only (.inl (.inr ⟨{ cls := .type "list", data := .seq vs.toArray }, if_pos rfl⟩))) (fun b u z => ?_) (fun b z => ?_) fun _ => hk
    · by_cases y : b = a
      · subst y
        cases (if_pos rfl).symm.trans z
        exact ⟨ha, (List.length_map (as := ns) V.int).symm ▸ hl, vs, _, rv, ha⟩
      · cases (if_neg y).symm.trans z
    · exact Decidable.byContradiction fun y => z (if_neg y)
end
theorem walk_ofQ {l : PySem.W.OpenLaw} {n k : Nat} {q : Program} {loose : List Str} {XP : (Str → Option Value) → Heap → Prop} {YP : World → Heap → Prop} {d : DefRec} {CX : CXT} {x : Str}
    (hn : l.most = some n) (hn2 : n ≤ sizeLine) (hdf : d.params.defaults = []) (hr : Room k callerA)
    (F : ∀ (w : World) (mg : Str → Option Value) (fa : Addr) (h : Heap), YP w h → h.Ns mainGlobals mg → mg d.name = some (.ref fa) → ∃ (K : PySem.W.Frag) (fd : FuncData) (sp : Sp), K.In h ∧ (∀ (s : Shared) (u : Value), BindsTo s fd ⟨[u], []⟩ [(x, u)]) ∧
        (∀ (H : Hp) (a : Addr) (ns : List Int), ns.length ≤ n → Only H → SqL K H a (ns.map V.int) → sp [.ref a] H (fun v _ => v = .bl true) fun _ _ _ => False) ∧ ∀ base : Heap, K.In base → base.Ns mainGlobals mg → FnQ l.prog w K mg base CX k fa fd [x] sp)
    (hCX : ∀ (H : Hp) (s : Shared) (e : Value) (s' : Shared), CX [] H s (fun _ _ _ => False) e s' → False) : PySem.W.WalkO q loose XP YP l.row.toRowW d [] (fun f vs => PySem.call f vs) := by
  refine Att.attach_call hn hdf fun w s0 s1 mg mb fa o pm cd doc a vs ns Gr Y ho hd hcd hmg hobj hints hlen hg => ?_
  obtain ⟨K, fd, sp, X0, hb, hsp, hF⟩ := F w mg fa _ Y Gr.T.g hmg
  exact lawQ X0 Gr.T.g Gr.T.b Gr.T.builtins Gr.T.nolimit hg hobj hints (Nat.le_trans hlen hn2) hr hF hb (fun H hO hS => hsp H a ns hlen hO hS) fun H e s' => hCX H s1 e s'
end G
/-! ### static methods; repr of an object by its own __repr__; texts put together -/
namespace G
open PySem PySem.Spec PyProof.Rows L2
/-- C.m is a staticmethod: its record at p, its def at g -/
structure SMet (K : PySem.W.Frag) (C : Addr) (m : Str) (p g : Addr) : Prop where
  here : PySem.W.findCls K (.ref C) (.type "type") m = some (.get (.builtin "staticmethod.__get__") (.ref p) .none (.ref C))
  rc : ∃ rest, PySem.W.recIn K p "staticmethod" = some (.ref g :: rest)
  kp : PySem.W.keepIn K (.ref g) = true
def smetB (K : PySem.W.Frag) (C : Addr) (m : Str) : Bool := He5.wrapB K C "staticmethod" "staticmethod.__get__" m && PySem.W.keepIn K (.ref (He5.wf K C "staticmethod" m))
theorem smetB_ok {K : PySem.W.Frag} {C : Addr} {m : Str} (c : smetB K C m = true) : SMet K C m (He.ma K C m) (He5.wf K C "staticmethod" m) := by
  obtain ⟨c1, c2⟩ := He.ba c
  obtain ⟨h1, h2⟩ := He5.wrapB_ok c1
  exact ⟨h1, h2, c2⟩
section
variable {X : Cx} {CX : CXT} {k : Nat} {C p g : Addr} {m : Str} {sp : Sp} {E : L2.St → XK} {o e : Expr} {es : List Expr} {apos pos : Pos} {ta : TE} {t : TA}
def tSMeth (C : Addr) (sp : Sp) (E : L2.St → XK) (ta : TE) (t : TA) : TE := fun σ H Q => ta σ H fun x H1 => x = .ref C ∧ t σ H1 fun vs H2 => sp vs H2 Q (E σ)
theorem pe_smeth {pl : Sem Bool} (he : PE X o ta) (r : ClX.CRead X.K C (.type "type")) (c : SMet X.K C m p g) (F : FnR X.prog X.w X.K X.mg X.base CX k g sp) (hr : Room k X.A) (hx : ∀ σ, PassesAt CX X σ (E σ)) (ha : PA X (e :: es) t)
    (hst : starEach (e :: es) X.env = (false, eval e X.env) :: starEach es X.env := by rfl) (hpl : (backTo pos (starEach es X.env)).any (·.1) = false := by rfl)
    (ht : eval (.Call (.Attribute o m apos) (e :: es) [] pos) X.env = (do
      let ov ← eval o X.env
      standAt apos.atName
      let (f, first) ← holding [ov] (getMethod ov m pl)
      callWith pos f first (backTo pos (starEach (e :: es) X.env)) (backToKw pos (keywordEach [] X.env))) := by rfl) : PE X (.Call (.Attribute o m apos) (e :: es) [] pos) (tSMeth C sp E ta t) := by
  refine ⟨fun pins s σ H Q I h => ?_⟩
  refine PySem.W.methodCall_KW (pl := pl) (thn (he.run pins s σ H _ I h) fun u s1 ⟨x, H1, I1, rx, ex, q⟩ => ?_) ht
  subst ex; obtain rfl : u = Value.ref C := rx
  obtain ⟨rest, hp⟩ := c.rc
  refine PySem.W.method_cls I1.kIn r.ga (PySem.W.cls_bind I1.kIn r.rd c.here (wpAny_call (PySem.W.sm_get (s := { s1 with toks := s1.toks + 1 }) I1.kIn hp (PySem.W.handed_on rfl ?_))))
  refine PySem.W.callWith_K (first := []) (h₀ := X.base) I.ok.mod.kin c.kp (thn (ha.run pos pins _ σ H1 _ (I1.tok _) q) fun us s2 ⟨vs, H2, I2, r2, q2⟩ => ⟨I2.kIn, ?_⟩) hst hpl
  exact run_fnRS F hr (hx σ) I2 r2 q2
end
theorem r_smeth {C : Addr} {sp : Sp} {E : L2.St → XK} {ta : TE} {t : TA} {σ : L2.St} {H : Hp} {Q : VK} (q : ta σ H fun x H1 => x = .ref C ∧ t σ H1 fun vs H2 => sp vs H2 Q (E σ)) : tSMeth C sp E ta t σ H Q := q
theorem FnOk.q {P : Program} {w : World} {K : PySem.W.Frag} {mg : Str → Option Value} {base : Heap} {CX : CXT} {k : Nat} {f : Addr} {fd : FuncData} {ps : List Str} {sp : Sp} (F : FnOk P w K mg base CX k f fd ps sp) : FnQ P w K mg base CX k f fd ps sp :=
  ⟨F.len, fun A outer s H args us vs Q E _ hr e0 hb hv h => F.run A outer s H args us vs Q E hr e0 hb hv h⟩
def rReprO (K : PySem.W.Frag) (f : Addr) (sp : Sp) (E : XK) : List V → Hp → VK → Prop := fun xs H Q => ∃ a C dx fs, xs = [.ref a] ∧ H a = some (.ins C dx fs) ∧ ReprOf K C f ∧ sp [.ref a] H (fun v H' => ∃ z : Str, v = .str z ∧ Q (.str z) H') E
section
variable {X : Cx} {CX : CXT} {n : Nat} {C f : Addr} {fd : FuncData} {ps : List Str} {sp : Sp} {E : XK} {K : PySem.W.Frag}
theorem cReprO (F : FnQ X.prog X.w X.K X.mg X.base CX n f fd ps sp) (hq : Quiet X.A) (hr : Room (n + 1) X.A) (hb : Binds X.K fd ps []) (hx : Passes CX X E) (hK : X.K = K := by rfl) : CallR X (.builtin "repr") (rReprO K f sp E) := by
  subst hK
  intro pins s σ H xs us Q I r h
  obtain ⟨a, C, dx, fs, rfl, ha, hre, h⟩ := h
  obtain ⟨u, rfl, ru⟩ := vals1 r
  obtain rfl : u = Value.ref a := ru
  obtain ⟨mA, J, _⟩ := ins_get I.hok ha
  obtain ⟨od, J, _⟩ := J.look
  obtain ⟨m, hF⟩ := I.fr
  have hu : X.A.in1.units < cLine := by have := hr.un; show X.A.units + 1 < _; omega
  refine PySem.W.repr_K hu hF I.ok.mod.kin J hre.here hre.fn (wpAny_mono (run_fnQ (dvs := []) (ds := []) F (quiet_in1 hq) hr.in1 I.env0.in1 hb .nil hx I (us := [.ref a]) (vs := [.ref a]) (.cons rfl .nil) h) (fun v s' z => ?_) fun _ _ z => z)
  obtain ⟨w', H', I', rw', z, rfl, q⟩ := z
  obtain ⟨t, rfl⟩ := rw'
  exact ⟨.str z, H', I', ⟨t, rfl⟩, q⟩
theorem r_reprO {H : Hp} {Q : VK} {a dx : Addr} {fs : List (Str × V)} (ha : H a = some (.ins C dx fs)) (hl : ReprOf K C f) (q : sp [.ref a] H (fun v H' => ∃ z : Str, v = .str z ∧ Q (.str z) H') E) : rReprO K f sp E [.ref a] H Q := ⟨a, C, dx, fs, rfl, ha, hl, q⟩
/-! f'..' -/
def tJoined (ts : List TE) : TE := fun σ H Q => tJs ts Str.empty σ H fun out H1 => Q (.str out) H1
theorem pe_fstr {v1 v2 : Expr} {rest : List Expr} {ts : List TE} {pos : Pos} (h : PJ X (v1 :: v2 :: rest) ts) : PE X (.JoinedStr (v1 :: v2 :: rest) pos) (tJoined ts) := pe_joined h
theorem r_joined {ts : List TE} {σ : L2.St} {H : Hp} {Q : VK} (q : tJs ts Str.empty σ H fun out H1 => Q (.str out) H1) : tJoined ts σ H Q := q
theorem r_jNil {acc : Str} {σ : L2.St} {H : Hp} {R : Str → Hp → Prop} (q : R acc H) : tJs [] acc σ H R := q
theorem r_jLit {acc x : Str} {ts : List TE} {σ : L2.St} {H : Hp} {R : Str → Hp → Prop} (hl : (acc ++ x).length ≤ sizeLine) (q : tJs ts (acc ++ x) σ H R) : tJs (tC (.str x) :: ts) acc σ H R := ⟨x, rfl, hl, q⟩
theorem r_jInt {acc : Str} {i : Nat} {n : Int} {ts : List TE} {σ : L2.St} {H : Hp} {R : Str → Hp → Prop} (h : σ[i]? = some (some (.int n))) (hn : n.natAbs.log2 < 1920) (hl : (acc ++ (toString n : Str)).length ≤ sizeLine) (q : tJs ts (acc ++ (toString n : Str)) σ H R) : tJs (tFmt (tVar i) :: ts) acc σ H R :=
  ⟨.int n, h, .inr ⟨n, rfl, hn, _, rfl, hl, q⟩⟩
end
/-! arguments by name -/
def pickG (idx : List Nat) {α : Type} (us ds ws : List α) : List α := us ++ idx.filterMap fun i => (ws ++ ds)[i]?
theorem vals_pick (idx : List Nat) {vs ds zs : List V} {us its ws : List Value} (r1 : Vals vs us) (r2 : Vals ds its) (r3 : Vals zs ws) : Vals (pickG idx vs ds zs) (pickG idx us its ws) := by
  refine r1.append ?_
  have r := r3.append r2
  generalize zs ++ ds = a at r ⊢; generalize ws ++ its = b at r ⊢
  induction idx with
  | nil => exact .nil
  | cons i idx ih =>
    rcases Nat.lt_or_ge i a.length with h | h
    · obtain ⟨u, hu, ru⟩ := r.get (List.getElem?_eq_getElem h)
      rw [List.filterMap_cons, List.filterMap_cons, List.getElem?_eq_getElem h, hu]
      exact .cons ru ih
    · rw [List.filterMap_cons, List.filterMap_cons, List.getElem?_eq_none h, List.getElem?_eq_none (by rw [← r.length]; exact h)]
      exact ih
end G
/-! f'{x!r}' of data -/
namespace G
open PySem PySem.Spec PyProof.Rows L2
def tFmtD (K : PySem.W.Frag) (te : TE) : TE := fun σ H Q => te σ H fun x H1 => ∃ (a : Addr) (d : PyData), x = .ref a ∧ Dp K H1 (.ref a) d ∧ d.showable = true ∧ d.hasDict = false ∧ d.depth ≤ 60 ∧ d.shown.length ≤ sizeLine ∧ Q (.str d.shown) H1
theorem kFmtR {X : Cx} {K : PySem.W.Frag} {e : Expr} {te : TE} {pos : Pos} (hq : Quiet X.A) (hu : X.A.units + 64 < cLine) (he : PE X e te) (hK : X.K = K := by rfl) : PE X (.FormattedValue e 114 none pos) (tFmtD K te) := by
  subst hK
  refine ⟨fun pins s σ H Q I h => wpAny_FormattedValue_repr (thn (he.run pins s σ H _ I h) fun v s1 ⟨x, H1, I1, r1, a, d, ex, hd, hs, hn, hdp, hl, q⟩ => ?_)⟩
  subst ex; obtain rfl : v = Value.ref a := r1
  obtain ⟨as, rd⟩ := Dp.reads I1 d _ _ hd rfl
  refine pyReprObj_of_reads rd hs (fun z => absurd z (by rw [hn]; decide)) hq (by omega) (fun _ _ z => z) (fun h' u tk hk => ?_) hl
  have I2 : ∀ t', Inv X pins σ H1 { s1 with heap := h', toks := t' } := fun t' => I1.kept (t' := t') hk
  exact wpAny_formatField_str ⟨.str _, H1, I2 _, ⟨_, rfl⟩, q⟩ ⟨.str _, H1, I2 _, ⟨_, rfl⟩, q⟩ hl
theorem r_jD {K : PySem.W.Frag} {te : TE} {acc : Str} {ts : List TE} {σ : L2.St} {H : Hp} {R : Str → Hp → Prop} (q : te σ H fun x H1 => ∃ (a : Addr) (d : PyData), x = .ref a ∧ Dp K H1 (.ref a) d ∧ d.showable = true ∧ d.hasDict = false ∧ d.depth ≤ 60 ∧ d.shown.length ≤ sizeLine ∧ (acc ++ d.shown).length ≤ sizeLine ∧ tJs ts (acc ++ d.shown) σ H1 R)
    (mono : ∀ Q1 Q2 : VK, (∀ v H', Q1 v H' → Q2 v H') → te σ H Q1 → te σ H Q2) : tJs (tFmtD K te :: ts) acc σ H R := by
  refine mono _ _ (fun v H' z => ?_) q
  obtain ⟨a, d, rfl, h1, h2, h3, h4, h5, h6, h7⟩ := z
  exact ⟨a, d, rfl, h1, h2, h3, h4, h5, _, rfl, h6, h7⟩
end G
/-! ### sep.join(xs) -/
namespace G
open PySem PySem.Spec PyProof.Rows L2
section
variable {X : Cx}
def rJoin (K : PySem.W.Frag) : V → List V → Hp → VK → Prop := fun x xs H Q => ∃ a p, ∃ ys : List Str, x = .str a ∧ xs = [.ref p] ∧ (SqL K H p (ys.map V.str) ∨ SqT K H p (ys.map V.str)) ∧ (ys.map (·.length)).sum + ys.length * a.length ≤ 16777216 ∧ Q (.str (Txt.join a ys)) H
theorem mt_joinK {K : PySem.W.Frag} (hK : X.K = K := by rfl) : MtR X "str.join" (rJoin K) := by
  subst hK
  exact mt_join
end
end G
/-! ### lambdas without parameters handed to a def; the maker's table of code objects -/
namespace G
open PySem PySem.Spec PyProof.Rows L2 LamX
/-- all but what stands at P stays -/
def KpT (P : Addr) (H H1 : Hp) : Prop := ∀ b o, b ≠ P → H b = some o → H1 b = some o
section
variable {X : Cx} {pins : List (Addr × Obj)} {σ : L2.St} {H : Hp} {s : Shared} {c P : Addr} {q : Str}
theorem lam_new {params : Arguments} {body : Expr} {scope : Scope} {pos : Pos} {Ex : Value → Shared → Prop} {R : Value → Shared → Prop} (eq : X.env.qual ++ "<lambda>" = q) (I : Inv X pins σ H s) (tb : TabB X.base X.mg c P) (hc : X.env.code = .ref c) (ht : TabS H P q)
    (hd : defaultsOf params X.env = ([], [])) (hf : ∀ y ∈ scope.names, y.2 = .free → ∃ c, X.env.cells.lookup y.1 = some c)
    (go : ∀ (f c' : Addr) (pm ctv : Value) (H1 : Hp) (s' : Shared), Inv X pins σ H1 s' → KpT P H H1 → TabS H1 P q → s'.heap.get? f = some (PySem.W.kla_obj "<lambda>" q params body scope (cloFrom X.env.cells scope.names []) pm c' ctv) → H1 f = none → f ∉ frs X.stack → H1 c' = some (CodeO c' q) → R (.ref f) s') :
    wpAny (model X.prog X.w) X.A (eval (.Lambda params body scope pos) X.env) R Ex s := by
  subst eq
  obtain ⟨ts, tP, tOk, tIn⟩ := id ht
  have atP : s.heap.get? P = some { cls := .none, data := .fields ts } := I.hok P _ tP
  have bmP : s.heap.BuiltinsAt X.mg P := tb.bm.keeps I.bk
  have cdP := tb.code.keeps I.bk
  have glb := I.mod.glob.keeps I.bk
  have off : ∀ g, s.heap.objs.size ≤ g → g ∉ frs X.stack := fun g hg w => by
    cases List.mem_cons.mp (I.stkSub _ w) with
    | inl e => exact absurd (e ▸ I.lt) (Nat.not_lt.mpr hg)
    | inr e => exact I.nofs hg e
  have clo := closure_ok (env := X.env) hf
  refine PySem.W.kla_eval hd ?_
  cases hit : codeAmong pos ts.toList with
  | some cv =>
    obtain ⟨c1, rfl, hco⟩ := tIn pos cv hit
    refine PySem.W.kla_makeFunctionHit (mg := X.mg) (c := c) (P := P) (ps := ts) clo I.ok.glob glb hc cdP atP tOk hit bmP fun ctv h1 tk kx sz => ?_
    have J := I.kept (h' := h1.push (PySem.W.kla_obj "<lambda>" (X.env.qual ++ "<lambda>") params body scope (cloFrom X.env.cells scope.names []) ((X.mg "__name__").getD .none) c1 ctv)) (t' := tk) fun b o e => Heap.get?_push_of_some _ (kx b o e)
    exact go h1.objs.size c1 _ ctv H _ J (fun _ _ _ e => e) ht (Heap.get?_push_size _ rfl) (I.hok.fresh sz) (off _ sz) hco
  | none =>
    refine PySem.W.kla_makeFunction (mg := X.mg) (c := c) (P := P) (ps := ts) clo I.ok.glob glb hc cdP atP tOk hit tb.gP bmP fun c1 ctv h1 tk hx hge hlt hrec htb => ?_
    obtain ⟨c2, oc, vs, t, e2, hoc, hdt, hv⟩ := hrec
    cases e2
    have sz : s.heap.objs.size ≤ h1.objs.size := Nat.le_trans hge (Nat.le_of_lt hlt)
    have nC : H c1 = none := I.hok.fresh hge
    have J := inv_table (t' := tk) (more := #[rawInt pos.line, rawInt pos.col, .ref c1]) (q := X.env.qual ++ "<lambda>") (c := c1) (h' := h1.push (PySem.W.kla_obj "<lambda>" (X.env.qual ++ "<lambda>") params body scope (cloFrom X.env.cells scope.names []) ((X.mg "__name__").getD .none) c1 ctv)) I tP
      (fun b o nb e => Heap.get?_push_of_some _ (hx b o nb e)) (Heap.get?_push_of_some _ htb) hge ⟨oc, vs, t, Heap.get?_push_of_some _ hoc, hdt, hv⟩
    have nPc : P ≠ c1 := fun z => by rw [z, nC] at tP; cases tP
    have kp : KpT P H (upd (upd H P (.tbl (ts ++ #[rawInt pos.line, rawInt pos.col, .ref c1]))) c1 (CodeO c1 (X.env.qual ++ "<lambda>"))) := fun b o nb e => by
      have nbc : b ≠ c1 := fun z => by rw [z, nC] at e; cases e
      rw [upd_ne nbc, upd_ne nb, e]
    have eL : (ts ++ #[rawInt pos.line, rawInt pos.col, .ref c1]).toList = ts.toList ++ [rawInt pos.line, rawInt pos.col, .ref c1] := by simp
    refine go h1.objs.size c1 _ ctv _ _ J kp ⟨_, by rw [upd_ne nPc, upd_same], by rw [eL]; exact PySem.TriplesOk_snoc _ _ _ _ tOk, fun p' cv hcv => ?_⟩ (Heap.get?_push_size _ rfl) ?_ (off _ sz) upd_same
    · rw [eL] at hcv
      rcases among_app _ tOk hcv with z | z
      · obtain ⟨c0, e1, e2⟩ := tIn p' cv z
        exact ⟨c0, e1, kp _ _ (fun w => by rw [w, tP] at e2; exact codeO_ne _ (Option.some.inj e2).symm) e2⟩
      · exact ⟨c1, z, upd_same⟩
    · have n1 : h1.objs.size ≠ c1 := Nat.ne_of_gt hlt
      have n2 : h1.objs.size ≠ P := Nat.ne_of_gt (Nat.lt_of_lt_of_le (Heap.lt_size atP) sz)
      rw [upd_ne n1, upd_ne n2]
      exact I.hok.fresh sz
end
/-- calling the parameter a of the def at work: tl tells what the lambda does -/
def tAct (pre : L2.St → Hp → Prop) (tl : XK → Hp → VK → Prop) (W : WX) : TE := fun σ H Q => pre σ H ∧ ∃ (E : XK) (Q1 : VK), (∀ cls d H', E cls d H' → W cls d σ H') ∧ (∀ v H', Q1 v H' → Q v H') ∧ tl E H Q1
def ActsAs (Z : Cx) (a : Str) (pre : L2.St → Hp → Prop) (tl : XK → Hp → VK → Prop) : Prop :=
  ∀ (W : WX) (pn : List (Addr × Obj)) (xe : Value → Shared → Prop) (p1 p2 : Pos), Takes (Z.tr pn xe) W → PE (Z.tr pn xe) (.Call (.Name a p1) [] [] p2) (tAct pre tl W)
section
variable {X : Cx} {pins : List (Addr × Obj)} {σ : L2.St} {H : Hp} {s : Shared}
theorem acts_lam {Eg : XK} {CXg : CXT} {Ng : List Str} {qg a q : Str} {sg : Scope} {g f c' : Addr} {cdg pm ctv : Value} {params : Arguments} {body : Expr} {scope : Scope} {k i : Nat} {t : XK → TE}
    (I : Inv X pins σ H s) (L : LamS X.env.scope scope) (eq : X.env.qual ++ "<lambda>" = q) (hf : s.heap.get? f = some (PySem.W.kla_obj "<lambda>" q params body scope (cloFrom X.env.cells scope.names []) pm c' ctv)) (hfn : H f = none) (hfr : f ∉ frs X.stack)
    (hbind : ∀ (q : Str) (cl : List (Str × Addr)) (pm cv ctv : Value), bindArgs (PySem.W.kla_fn "<lambda>" q params body scope cl pm cv ctv) ⟨[], []⟩ = pure []) (hq : Quiet X.A) (hr : Room (k + 1) (X.A.deeper (envOfC qg sg s.heap.objs.size g cdg)))
    (hbody : ∀ (A : Around) (outer : List Env) (s : Shared) (H : Hp) (E : XK) (f c' : Addr), Quiet (A.deeper (lamEnv X scope s.heap.objs.size f c')) → Room k (A.deeper (lamEnv X scope s.heap.objs.size f c')) → PE (lamCx X A outer s H E scope f c') body (t E))
    (hN : Ng[i]? = some a) (hv : Vis sg a) (hdb : (a == ("__debug__" : Str)) = false) (hcd : (a == ("__classdict__" : Str)) = false) :
    ActsAs (cxOf CXg X.prog X.w X.K X.mg X.base Ng qg sg g cdg X.A X.stack s H Eg) a (fun ρ G => ρ[i]? = some (some (.ref f)) ∧ G c' = some (CodeO c' q)) (fun E H' Q' => t E σ H' Q') := by
  subst eq
  intro W pn xe p1 p2 tk
  refine ⟨fun pz sz ρ G Q J h => ?_⟩
  obtain ⟨⟨h1, h2⟩, E, Q1, hW, hQ, ht⟩ := h
  refine wpAny_Call_Name_kw (thn ((pe_var (pos := p1) (i := i) hN hv hdb hcd).run pz sz ρ G (fun v G' => v = .ref f ∧ G' = G) J ⟨.ref f, h1, rfl, rfl⟩) fun u s1 ⟨v, G1, J1, ru, e1, e2⟩ => ?_)
  subst e1
  subst e2
  obtain rfl : u = Value.ref f := ru
  have fo := J1.base.keep f _ hf hfn hfr (fun w => nomatch (show f ∈ ([] : List Addr) from w))
  refine PySem.W.callWith_F0 ⟨_, _, _, _, fo⟩ ?_
  obtain ⟨⟨oc, vs, t1, ho, hd, hv1⟩, _, _⟩ := J1.hok c' _ h2
  have U : Un (frs X.stack) [] H G1 s.heap s1.heap := J1.base
  have run : codeAny (model X.prog X.w) (X.A.deeper (envOfC qg sg s.heap.objs.size g cdg)) (.call (.ref f) ⟨[], []⟩) (CR (L2.CX X.prog X.w) (envOfC qg sg s.heap.objs.size g cdg :: X.stack) X.prog X.w G1 s1 Q1 E) s1 := by
    refine PySem.W.kla_callFunE hr.depth fo rfl L.co L.gen rfl ⟨c', oc, vs, t1, rfl, ho, hd, hv1⟩ ?_
    rw [hbind]
    refine wpAny_pure (wpAny_newFunctionEnv (fun y hy => (L.own y hy).2) (fun y hy => absurd hy (by simp)) (fun h3 hns hsb => ⟨J1.nolimit.fresh _ hsb, ?_⟩) L.kind)
    have kp : ∀ b o, s1.heap.get? b = some o → h3.get? b = some o := fun b o e => hsb.extBut b o (Nat.ne_of_lt (Heap.lt_size e)) (Heap.get?_push_of_some _ e)
    have J3 := lam_start2 (E := E) (scope := scope) (f := f) (c' := c') (tk := s1.toks + ([] : List (Str × Value)).length) I L J1.env0 hr.hd U hns kp
    refine PySem.W.kla_codeExpr (wpAny_mono ((hbody (X.A.deeper (envOfC qg sg s.heap.objs.size g cdg)) _ s1 G1 E f c' (quiet_deeper (quiet_deeper hq)) (hr.deeper _)).run [] _ _ G1 Q1 J3 ht) (fun v s2 z => ?_) fun e s2 z => z)
    obtain ⟨w2, H2, K2, rv, z⟩ := z
    exact ⟨w2, H2, K2.os, K2.bare, K2.base, K2.hok, rv, z⟩
  refine wpAny_call (codeAny_mono run fun r s2 z => ?_)
  match r, z with
  | .error e, z => exact tk e s2 (XE.of_call J1 hW z)
  | .ok (.ret u), z =>
    obtain ⟨v, G2, z1, z2, z3, z4, z5, z6⟩ := z
    exact J1.after ⟨v, G2, z1, z2, z3, z4, z5, hQ v G2 z6⟩
  | .ok .next, z => exact z.elim
  | .ok .brk, z => exact z.elim
  | .ok .cont, z => exact z.elim
end
/-! the def that calls what it got -/
structure FnL (P : Program) (w : World) (K : PySem.W.Frag) (mg : Str → Option Value) (base : Heap) (k : Nat) (x a : Str) (N : List Str) (scope : Scope) (g : Addr) (fd : FuncData) (TT : (XK → Hp → VK → Prop) → Hp → VK → Prop) : Prop where
  runL : ∀ (A : Around) (outer : List Env) (s : Shared) (H : Hp) (f : Addr) (pre : L2.St → Hp → Prop) (tl : XK → Hp → VK → Prop) (Q : VK), Quiet A → Room (k + 1) A → Env0 P w K mg base A outer s H → BindsTo s fd ⟨[.ref f], []⟩ [(a, .ref f)] →
    (∀ cdv, Room k (A.deeper (envOfC x scope s.heap.objs.size g cdv)) → ActsAs (cxOf CX0 P w K mg base N x scope g cdv A outer s H E0) a pre tl) → pre (L2.start N [.ref f]) H → TT tl H Q → codeAny (model P w) A (.call (.ref g) ⟨[.ref f], []⟩) (CR CX0 outer P w H s Q E0) s
theorem FunD.okL {P : Program} {w : World} {K : PySem.W.Frag} {mg : Str → Option Value} {base : Heap} {k : Nat} {x a : Str} {N : List Str} {scope : Scope} {g : Addr} {fd : FuncData} {params : Arguments} {body : List Stmt} {TT : (XK → Hp → VK → Prop) → Hp → VK → Prop}
    (F : FunD K x x params body scope [] [] g fd) (S : FnScope N [a] scope)
    (hb : ∀ (cdv : Value) (A : Around) (outer : List Env) (s : Shared) (H : Hp) (f : Addr) (pre : L2.St → Hp → Prop) (tl : XK → Hp → VK → Prop) (Q : VK), Quiet (A.deeper (envOfC x scope s.heap.objs.size g cdv)) → Room k (A.deeper (envOfC x scope s.heap.objs.size g cdv)) →
      ActsAs (cxOf CX0 P w K mg base N x scope g cdv A outer s H E0) a pre tl → pre (L2.start N [.ref f]) H → TT tl H Q →
      ∃ t, PSs (cxOf CX0 P w K mg base N x scope g cdv A outer s H E0) body t ∧ t { nx := fun _ H' => Q .non H', rt := Q } (L2.start N [.ref f]) H) : FnL P w K mg base k x a N scope g fd TT := by
  obtain ⟨oc, od, dV, kV, doc, pm, an, cdv, ct, osl, rfl, lk, hcd, _, _⟩ := F.ex
  refine ⟨fun A outer s H f pre tl Q hq hr e0 hbi act hpre h => ?_⟩
  refine run_ofS (N := N) (ps := [a]) (us := [.ref f]) (vs := [.ref f]) lk hcd S hr e0 hbi (.cons rfl .nil) rfl fun hr2 => ?_
  exact hb cdv A outer s H f pre tl Q (quiet_deeper hq) hr2 (act cdv hr2) hpre h
/-- x(lambda: body): the table at P grows; TT tells what x makes of the lambda's reading -/
def tLm (P : Addr) (q : Str) (TT : (XK → Hp → VK → Prop) → Hp → VK → Prop) (t : XK → TE) : TE := fun σ H Q => TabS H P q ∧ ∀ H1, KpT P H H1 → TabS H1 P q → TT (fun E H' Q' => t E σ H' Q') H1 Q
section
variable {X : Cx}
theorem pe_lam {TT : (XK → Hp → VK → Prop) → Hp → VK → Prop} {x a q : Str} {g c P : Addr} {k : Nat} {sg : Scope} {fd : FuncData} {Ng : List Str} {params : Arguments} {body : Expr} {scope : Scope} {t : XK → TE} {p lpos pos : Pos}
    (F : FnL X.prog X.w X.K X.mg X.base (k + 1) x a Ng sg g fd TT) (hg : Gl X x) (hm : X.mg x = some (.ref g)) (hk : PySem.W.keepIn X.K (.ref g) = true) (hb : Binds X.K fd [a] []) (hN : Ng[0]? = some a) (hva : Vis sg a) (hq : Quiet X.A) (hr : Room (k + 2) X.A)
    (eq : X.env.qual ++ "<lambda>" = q) (tb : TabB X.base X.mg c P) (hcode : X.env.code = .ref c) (L : LamS X.env.scope scope) (hdef : defaultsOf params X.env = ([], []))
    (hbind : ∀ (q : Str) (cl : List (Str × Addr)) (pm cv ctv : Value), bindArgs (PySem.W.kla_fn "<lambda>" q params body scope cl pm cv ctv) ⟨[], []⟩ = pure [])
    (hbody : ∀ (A : Around) (outer : List Env) (s : Shared) (H : Hp) (E : XK) (f c' : Addr), Quiet (A.deeper (lamEnv X scope s.heap.objs.size f c')) → Room k (A.deeper (lamEnv X scope s.heap.objs.size f c')) → PE (lamCx X A outer s H E scope f c') body (t E))
    (hdb : (x == ("__debug__" : Str)) = false := by decide) (hd : (a == ("__debug__" : Str)) = false := by decide) (hcd : (a == ("__classdict__" : Str)) = false := by decide) :
    PE X (.Call (.Name x p) [.Lambda params body scope lpos] [] pos) (tLm P q TT t) := by
  refine ⟨fun pins s σ H Q I h => ?_⟩
  obtain ⟨hT, h⟩ := h
  refine wpAny_Call_Name_kw (ld_glob I hg hm ?_ hdb)
  refine PySem.W.callWith_K (h₀ := X.base) I.ok.mod.kin hk ?_ (by rfl) (by rfl)
  refine Calls.spliced_cons (lam_new eq I tb hcode hT hdef (L.has I.ok) fun f c1 pm ctv H1 s1 J kT T1 hf hfn hfr hco => ?_)
  refine Calls.spliced_nil ⟨J.kIn, ?_⟩
  refine wpAny_call (codeAny_mono (F.runL X.A X.stack s1 H1 f _ _ Q hq hr J.env0 (hb s1 [.ref f] J.kIn rfl) (fun cdv hr2 => acts_lam (i := 0) J L eq hf hfn hfr hbind hq hr2 hbody hN hva hd hcd) ?_ (h H1 kT T1)) fun r s2 z => ?_)
  · refine ⟨?_, hco⟩
    cases Ng with
    | nil => cases hN
    | cons n r => rfl
  match r, z with
  | .error e, z => exact z.elim
  | .ok (.ret u), z => exact J.after z
  | .ok .next, z => exact z.elim
  | .ok .brk, z => exact z.elim
  | .ok .cont, z => exact z.elim
end
/-! the maker: a def whose code object is known -/
def codeA (fd : FuncData) : Addr := match fd.code with
  | .ref c => c
  | _ => 0
section
variable {P : Program} {w : World} {K : PySem.W.Frag} {mg : Str → Option Value} {base : Heap} {CX : CXT} {k : Nat} {f : Addr} {N ps : List Str} {sp : Sp} {name qual : Str} {params : Arguments} {body : List Stmt} {scope : Scope} {dvs : List V} {kws : List (Str × V)} {fd : FuncData}
theorem FunD.okQC (F : FunD K name qual params body scope dvs kws f fd) (S : FnScope N ps scope) (hlen : ∀ vs H Q E, sp vs H Q E → vs.length = ps.length)
    (hb : ∀ (cdv : Value) (A : Around) (outer : List Env) (s : Shared) (H : Hp) (vs : List V) (Q : VK) (E : XK), cdv = .ref (codeA fd) → Quiet (A.deeper (envOfC qual scope s.heap.objs.size f cdv)) → Room k (A.deeper (envOfC qual scope s.heap.objs.size f cdv)) → sp vs H Q E →
      ∃ t, PSs (cxOf CX P w K mg base N qual scope f cdv A outer s H E) body t ∧ t { nx := fun _ H' => Q .non H', rt := Q } (L2.start N vs) H) : FnQ P w K mg base CX (k + 1) f fd ps sp := by
  obtain ⟨oc, od, dV, kV, doc, pm, an, cdv, ct, osl, rfl, lk, hcd, _, _⟩ := F.ex
  obtain ⟨c, rfl⟩ := He.codeIn_ref hcd
  refine ⟨hlen, fun A outer s H args us vs Q E hq hr env hbi hv hsp => ?_⟩
  exact run_ofS (N := N) (ps := ps) (us := us) (vs := vs) lk hcd S hr env hbi hv (hlen _ _ _ _ hsp) fun hr2 => hb _ A outer s H vs Q E rfl (quiet_deeper hq) hr2 hsp
end
end G
/-! ### the law's own call: its promise leans on Quiet and on empty tables of code objects -/
namespace G
open PySem PySem.Spec PyProof.Rows L2 LamX
theorem codeA_B {K : PySem.W.Frag} {f : Addr} : codeA (fdOf K f) = codeB K f := by
  unfold codeA fdOf codeB
  cases K.lookup f with
  | none => rfl
  | some o =>
    obtain ⟨oc, od, dt, osl⟩ := o
    cases dt <;> rfl
/-- the law's heap: the script, empty tables -/
def hT0 (a : Addr) (o : HO) (cs : List (Addr × Addr)) : Hp := fun b => if b = a then some o else if b ∈ cs.map (·.2) then some (.tbl #[]) else none
/-- a law's promise, with tables -/
def sp_lawT (K : PySem.W.Frag) (cs : List (Addr × Addr)) : Sp := fun vs H Q _ => ∃ (a : Addr) (ns : List Int), vs = [.ref a] ∧ SqL K H a (ns.map V.int) ∧ ns.length ≤ 63 ∧ (∀ p ∈ cs, H p.2 = some (.tbl #[])) ∧ ∀ H', Q (.bl true) H'
section
variable {P : Program} {w : World} {K : PySem.W.Frag} {mg mb : Str → Option Value} {CX : CXT} {k : Nat} {fa a : Addr} {fd : FuncData} {x : Str} {sp : Sp} {s1 : Shared} {vs : List Value} {ns : List Int} {cs : List (Addr × Addr)}
theorem lawT_core (X0 : K.In s1.heap) (hns : s1.heap.Ns mainGlobals mg) (hbn : s1.heap.Ns builtinsNs mb) (hbb : ∀ x : Str, x ≠ "__name__" → mb x = bootBuiltins x) (hlim : s1.heap.NoLimit) (hgen : s1.gens = #[])
    (e0 : ∀ p ∈ cs, s1.heap.get? p.2 = some { cls := .none, data := .fields #[] }) (n0 : ∀ p ∈ cs, K.lookup p.2 = none) (hd0 : ∀ p ∈ cs, PySem.W.CodeHd s1.heap p.1 p.2)
    (hbm : ∃ (bm : Addr) (ob : Obj), mg "__builtins__" = some (.ref bm) ∧ bm ≠ builtinsNs ∧ s1.heap.get? bm = some ob ∧ ob.cls = .type "module" ∧ ob.dict = some builtinsNs ∧ ob.data = .plain)
    (ha : s1.heap.get? a = some { cls := .type "list", data := .seq vs.toArray }) (hr : Room k callerA)
    (F : ∀ base : Heap, K.In base → base.Ns mainGlobals mg → (∀ p ∈ cs, TabB base mg p.1 p.2) → FnQ P w K mg base CX k fa fd [x] sp) (hbind : ∀ (s : Shared) (u : Value), BindsTo s fd ⟨[u], []⟩ [(x, u)])
    (hCX : ∀ H e s', CX [] H s1 (fun _ _ _ => False) e s' → False)
    (H : Hp) (hO : ∀ b, b ∉ cs.map (·.2) → H b = none ∨ ∃ o xs, H b = some (.frz o xs)) (hTb : ∀ p ∈ cs, H p.2 = some (.tbl #[])) (hp : sp [.ref a] H (fun v _ => v = .bl true) fun _ _ _ => False) (hok : HOk P w H s1.heap) (hA : ∀ b, H b ≠ none → b = a ∨ b ∈ cs.map (·.2)) (hK : H a ≠ none → K.lookup a = none) :
    codeAny (model P w) callerA (.call (.ref fa) ⟨[.ref a], []⟩) (LawEnd s1) s1 := by
  have tabAt : ∀ b, b ∈ cs.map (·.2) → s1.heap.get? b = some { cls := .none, data := .fields #[] } := fun b hb => by
    obtain ⟨p, hp, rfl⟩ := List.mem_map.mp hb
    exact e0 p hp
  have inB : ∀ {b : Addr} {o : Obj}, s1.heap.get? b = some o → H b = none → (hidT s1.heap H).get? b = some o := hidT_get
  -- what is neither a list nor an empty table is not tracked
  have out : ∀ {b : Addr} {o : Obj}, s1.heap.get? b = some o → (∀ us n, o.data ≠ .seq us n) → o.data ≠ .fields #[] → H b = none := fun {b o} e d1 d2 => by
    cases q : H b with
    | none => rfl
    | some u =>
      rcases hA b (by rw [q]; exact fun z => nomatch z) with z | z
      · subst z; rw [ha] at e; cases e; exact absurd rfl (d1 _ _)
      · rw [tabAt b z] at e; cases e; exact absurd rfl d2
  have nsB : ∀ {b : Addr} {m : Str → Option Value}, s1.heap.Ns b m → (hidT s1.heap H).Ns b m := fun {b m} ⟨o, es, ep, e, d, r⟩ => ⟨o, es, ep, inB e (out e (fun us n z => by rw [d] at z; cases z) fun z => by rw [d] at z; cases z), d, r⟩
  have kinB : K.In (hidT s1.heap H) := fun b o e => inB (X0 b o e) (by
    cases q : H b with
    | none => rfl
    | some u =>
      rcases hA b (by rw [q]; exact fun z => nomatch z) with z | z
      · subst z; rw [hK (by rw [q]; exact fun z => nomatch z)] at e; cases e
      · obtain ⟨p, hp, rfl⟩ := List.mem_map.mp z
        rw [n0 p hp] at e; cases e)
  have tbs : ∀ p ∈ cs, TabB (hidT s1.heap H) mg p.1 p.2 := fun p hp => by
    have tp := e0 p hp
    obtain ⟨bm, ob, m1, m2, m3, m4, m5, m6⟩ := hbm
    refine ⟨?_, ⟨bm, ob, m1, m2, fun z => ?_, fun z => ?_, inB m3 (out m3 (fun us n z => by rw [m6] at z; cases z) fun z => by rw [m6] at z; cases z), m4, m5, m6⟩, fun z => ?_⟩
    · obtain ⟨o, us, file, tf, flags, tg, inF, text, tt, c1, r1, r2, r3, rest⟩ := hd0 p hp
      refine ⟨o, us, file, tf, flags, tg, inF, text, tt, inB c1 (out c1 (fun us n z => by rw [r2] at z; cases z) fun z => ?_), r1, r2, r3, rest⟩
      rw [r2] at z
      cases z
      simp at r3
    · obtain ⟨o, es, ep, e, d, _⟩ := hns
      rw [z, e] at m3; cases m3; rw [d] at m6; cases m6
    · rw [z, tp] at m3; cases m3; cases m6
    · obtain ⟨o, es, ep, e, d, _⟩ := hns
      rw [z, tp] at e; cases e; cases d
  obtain ⟨mc, n1, n2⟩ := hlim
  have env : Env0 P w K mg (hidT s1.heap H) callerA [] s1 H := by
    refine ⟨rfl, ⟨kinB, nsB hns, ⟨mb, nsB hbn, hbb⟩, ⟨mc, nsB n1, n2⟩⟩, fun b o e => of_hidT e, Nat.le_of_eq (hidT_size _ _), trivial, fun b hb => ?_, hok, .of_eq hgen⟩
    exact absurd (show b ∈ ([] : List Addr) from hb) (by simp)
  refine codeAny_mono ((F _ kinB (nsB hns) tbs).runQ callerA [] s1 H ⟨[.ref a], []⟩ [.ref a] [.ref a] _ _ rfl hr env (hbind s1 (.ref a)) (.cons rfl .nil) hp) fun r s' hz => ?_
  match r, hz with
  | .error e, hz => exact (hCX H e s' hz).elim
  | .ok .next, hz => exact hz.elim
  | .ok .brk, hz => exact hz.elim
  | .ok .cont, hz => exact hz.elim
  | .ok (.ret u), hz =>
    obtain ⟨v, H', os, bare, un, hok', rv, (ev : v = .bl true)⟩ := hz
    subst ev
    obtain rfl : u = Value.bool true := rv
    have stay : ∀ b o, b ∉ cs.map (·.2) → s1.heap.get? b = some o → s'.heap.get? b = some o := fun b o nb e => by
      rcases hO b nb with z | ⟨ob, xs, z⟩
      · exact un.keep b o e z (fun y => absurd (show b ∈ ([] : List Addr) from y) (by simp)) (by simp)
      · have g1 := (hok b _ z).1; have g2 := (hok' b _ (un.frzs b ob _ z)).1
        rw [g2, ← g1, e]
    have grew : ∀ p ∈ cs, ∃ more : Array Value, s'.heap.get? p.2 = some { cls := .none, data := .fields (#[] ++ more) } := fun p hp => by
      obtain ⟨more, z⟩ := un.tbls p.2 #[] (hTb p hp)
      exact ⟨more, hok' p.2 _ z⟩
    refine ⟨rfl, ⟨fun b o e => ?_, fun b o e => ?_⟩, os, bare⟩
    · by_cases hb : b ∈ cs.map (·.2)
      · obtain ⟨p, hp, rfl⟩ := List.mem_map.mp hb
        obtain ⟨more, hm⟩ := grew p hp
        rw [e0 p hp] at e
        cases e
        refine .inr (.inl ⟨((hd0 p hp).tab (e0 p hp)).isCodeTable, rfl, #[], more, rfl, hm⟩)
      · exact .inl (stay b o hb e)
    · by_cases hb : b ∈ cs.map (·.2)
      · obtain ⟨p, hp, rfl⟩ := List.mem_map.mp hb
        obtain ⟨more, hm⟩ := grew p hp
        exact ⟨_, hm⟩
      · exact ⟨o, stay b o hb e⟩
theorem lawT (X0 : K.In s1.heap) (hns : s1.heap.Ns mainGlobals mg) (hbn : s1.heap.Ns builtinsNs mb) (hbb : ∀ x : Str, x ≠ "__name__" → mb x = bootBuiltins x) (hlim : s1.heap.NoLimit) (hgen : s1.gens = #[])
    (e0 : ∀ p ∈ cs, s1.heap.get? p.2 = some { cls := .none, data := .fields #[] }) (n0 : ∀ p ∈ cs, K.lookup p.2 = none) (hd0 : ∀ p ∈ cs, PySem.W.CodeHd s1.heap p.1 p.2)
    (hbm : ∃ (bm : Addr) (ob : Obj), mg "__builtins__" = some (.ref bm) ∧ bm ≠ builtinsNs ∧ s1.heap.get? bm = some ob ∧ ob.cls = .type "module" ∧ ob.dict = some builtinsNs ∧ ob.data = .plain)
    (ha : s1.heap.get? a = some { cls := .type "list", data := .seq vs.toArray }) (hi : IntsAre vs ns) (hl : ns.length ≤ sizeLine) (hr : Room k callerA)
    (F : ∀ base : Heap, K.In base → base.Ns mainGlobals mg → (∀ p ∈ cs, TabB base mg p.1 p.2) → FnQ P w K mg base CX k fa fd [x] sp) (hbind : ∀ (s : Shared) (u : Value), BindsTo s fd ⟨[u], []⟩ [(x, u)])
    (hsp : ∀ H : Hp, (∀ p ∈ cs, H p.2 = some (.tbl #[])) → SqL K H a (ns.map V.int) → sp [.ref a] H (fun v _ => v = .bl true) fun _ _ _ => False) (hCX : ∀ H e s', CX [] H s1 (fun _ _ _ => False) e s' → False) :
    codeAny (model P w) callerA (.call (.ref fa) ⟨[.ref a], []⟩) (LawEnd s1) s1 := by
  have rv := vals_ints hi
  have go := lawT_core X0 hns hbn hbb hlim hgen e0 n0 hd0 hbm ha hr F hbind hCX
  have ea : a ∉ cs.map (·.2) := fun z => by
    obtain ⟨p, hp, rfl⟩ := List.mem_map.mp z
    have q := e0 p hp
    rw [ha] at q
    cases (congrArg Obj.data (Option.some.inj q) : Data.seq vs.toArray _ = Data.fields #[])
  have mem : ∀ p ∈ cs, p.2 ∈ cs.map (·.2) := fun p hp => List.mem_map_of_mem hp
  have tOk : ∀ {H : Hp} {b : Addr}, b ∈ cs.map (·.2) → HOk P w H s1.heap → True := fun _ _ => trivial
  have atT : ∀ b, b ∈ cs.map (·.2) → s1.heap.get? b = some { cls := .none, data := .fields #[] } := fun b hb => by
    obtain ⟨p, hp, rfl⟩ := List.mem_map.mp hb
    exact e0 p hp
  cases hk : K.lookup a with
  | some o =>
    obtain rfl : o = { cls := .type "list", data := .seq vs.toArray } := by have e := X0 a o hk; rw [ha] at e; exact (Option.some.inj e).symm
    have tb : ∀ p ∈ cs, (fun b => if b ∈ cs.map (·.2) then some (HO.tbl #[]) else none : Hp) p.2 = some (.tbl #[]) := fun p hp => if_pos (mem p hp)
    refine go (fun b => if b ∈ cs.map (·.2) then some (.tbl #[]) else none) (fun b nb => .inl (if_neg nb)) tb (hsp _ tb (.inr ⟨_, vs.toArray, _, hk, rfl, rfl, rfl, ?_, by simpa using rv⟩)) (fun b u z => ?_) (fun b z => ?_) fun z => absurd (if_neg ea) z
    · rw [List.size_toArray, hi.length]; exact hl
    · by_cases y : b ∈ cs.map (·.2)
      · cases (if_pos y).symm.trans z
        exact atT b y
      · cases (if_neg y).symm.trans z
    · by_cases y : b ∈ cs.map (·.2)
      · exact .inr y
      · exact absurd (if_neg y) z
  | none =>
    have tb : ∀ p ∈ cs, hT0 a (HO.frz { cls := .type "list", data := .seq vs.toArray } (.lst (ns.map V.int))) cs p.2 = some (.tbl #[]) := fun p hp =>
      (if_neg (show ¬ p.2 = a from fun z => ea (z ▸ mem p hp))).trans (if_pos (mem p hp))
    refine go (hT0 a (HO.frz { cls := .type "list", data := .seq vs.toArray } (.lst (ns.map V.int))) cs) (fun b nb => ?_) tb (hsp (hT0 a (HO.frz { cls := .type "list", data := .seq vs.toArray } (.lst (ns.map V.int))) cs) tb (.inl (.inr ⟨{ cls := .type "list", data := .seq vs.toArray }, if_pos rfl⟩))) (fun b u z => ?_) (fun b z => ?_) fun _ => hk
    · by_cases z : b = a
      · exact .inr ⟨_, _, if_pos z⟩
      · exact .inl ((if_neg z).trans (if_neg nb))
    · by_cases y : b = a
      · subst y
        cases (if_pos rfl).symm.trans z
        exact ⟨ha, (List.length_map (as := ns) V.int).symm ▸ hl, vs, _, rv, ha⟩
      · have z2 := (if_neg y).symm.trans z
        by_cases y2 : b ∈ cs.map (·.2)
        · cases (if_pos y2).symm.trans z2
          exact atT b y2
        · cases (if_neg y2).symm.trans z2
    · by_cases y : b = a
      · exact .inl y
      · by_cases y2 : b ∈ cs.map (·.2)
        · exact .inr y2
        · exact absurd ((if_neg y).trans (if_neg y2)) z
end
theorem walk_ofQT {l : PySem.W.OpenLaw} {n k : Nat} {q : Program} {loose : List Str} {XP : (Str → Option Value) → Heap → Prop} {YP : World → Heap → Prop} {d : DefRec} {CX : CXT} {x : Str}
    (hn : l.most = some n) (hn2 : n ≤ sizeLine) (hdf : d.params.defaults = []) (hr : Room k callerA)
    (F : ∀ (w : World) (mg : Str → Option Value) (fa : Addr) (h : Heap), YP w h → h.Ns mainGlobals mg → mg d.name = some (.ref fa) → ∃ (K : PySem.W.Frag) (fd : FuncData) (sp : Sp) (cs : List (Addr × Addr)), K.In h ∧
        ((∀ p ∈ cs, h.get? p.2 = some { cls := .none, data := .fields #[] }) ∧ (∀ p ∈ cs, K.lookup p.2 = none) ∧ ∀ p ∈ cs, PySem.W.CodeHd h p.1 p.2) ∧ (∀ (s : Shared) (u : Value), BindsTo s fd ⟨[u], []⟩ [(x, u)]) ∧
        (∀ (H : Hp) (a : Addr) (ns : List Int), ns.length ≤ n → (∀ p ∈ cs, H p.2 = some (.tbl #[])) → SqL K H a (ns.map V.int) → sp [.ref a] H (fun v _ => v = .bl true) fun _ _ _ => False) ∧
        ∀ base : Heap, K.In base → base.Ns mainGlobals mg → (∀ p ∈ cs, TabB base mg p.1 p.2) → FnQ l.prog w K mg base CX k fa fd [x] sp)
    (hCX : ∀ (H : Hp) (s : Shared) (e : Value) (s' : Shared), CX [] H s (fun _ _ _ => False) e s' → False) : PySem.W.WalkO q loose XP YP l.row.toRowW d [] (fun f vs => PySem.call f vs) := by
  refine Att.attach_call hn hdf fun w s0 s1 mg mb fa o pm cd doc a vs ns Gr Y ho hd hcd hmg hobj hints hlen hg => ?_
  obtain ⟨K, fd, sp, cs, X0, ⟨c1, c2, c3⟩, hb, hsp, hF⟩ := F w mg fa _ Y Gr.T.g hmg
  exact lawT X0 Gr.T.g Gr.T.b Gr.T.builtins Gr.T.nolimit hg c1 c2 c3 Gr.T.bmain hobj hints (Nat.le_trans hlen hn2) hr hF hb (fun H hT hS => hsp H a ns hlen hT hS) fun H e s' => hCX H s1 e s'
end G
/-! ### lambdas with one parameter that has a default (an int) and is not given -/
namespace G
open PySem PySem.Spec PyProof.Rows L2 LamX
section
variable {X : Cx} {pins : List (Addr × Obj)} {σ : L2.St} {H : Hp} {s : Shared} {c P : Addr} {q : Str}
theorem lam_newD {params : Arguments} {body d : Expr} {i : Int} {scope : Scope} {pos : Pos} {R : Value → Shared → Prop} (eq : X.env.qual ++ "<lambda>" = q) (I : Inv X pins σ H s) (tb : TabB X.base X.mg c P) (hc : X.env.code = .ref c) (ht : TabS H P q)
    (hds : params.defaults = [d]) (hk0 : params.kw_defaults = []) (hd : PE X d (tC (.int i))) (hf : ∀ y ∈ scope.names, y.2 = .free → ∃ c, X.env.cells.lookup y.1 = some c)
    (go : ∀ (f c' T : Addr) (doc pm ctv u : Value) (H1 : Hp) (s' : Shared), Inv X pins σ H1 s' → KpT P H H1 → TabS H1 P q → s'.heap.get? f = some (PySem.W.kdv_obj "<lambda>" q params (.expr body) scope (cloFrom X.env.cells scope.names []) (.ref T) doc pm c' ctv) → s'.heap.get? T = some (PySem.W.kdv_tup [u]) →
      H1 f = none → f ∉ frs X.stack → H1 T = none → T ∉ frs X.stack → H1 c' = some (CodeO c' q) → R (.ref f) s') :
    wpAny (model X.prog X.w) X.A (eval (.Lambda params body scope pos) X.env) R X.xe s := by
  subst eq
  refine PySem.W.kdv_lam (by rw [hds]; rfl) hk0 ?_
  rw [hds]
  refine PySem.W.kdv_all1 (thn (hd.run pins s σ H (fun v G => v = .int i ∧ G = H) I ⟨rfl, rfl⟩) fun u s1 z => ?_)
  obtain ⟨v, G, I1, ru, e1, e2⟩ := z
  subst e2
  refine PySem.W.kdv_all0 ?_
  rw [makeFunction_eq]
  simp only [List.zip_nil_right, List.filterMap_nil, List.isEmpty_nil, if_true, pure_bind, List.isEmpty_cons, Bool.false_eq_true, if_false]
  refine wpAny_bind (wpAny_newTextTuple ?_)
  have I2 : Inv X pins σ G { s1 with heap := s1.heap.push (PySem.W.kdv_tup [u]) } := I1.kept (t' := s1.toks) fun b o e => Heap.get?_push_of_some _ e
  have gT : (s1.heap.push (PySem.W.kdv_tup [u])).get? s1.heap.objs.size = some (PySem.W.kdv_tup [u]) := Heap.get?_push_size _ rfl
  have nT : G s1.heap.objs.size = none := I1.hok.fresh (Nat.le_refl _)
  have off : ∀ g, s1.heap.objs.size ≤ g → g ∉ frs X.stack := fun g hg w => by
    cases List.mem_cons.mp (I1.stkSub _ w) with
    | inl e => exact absurd (e ▸ I1.lt) (Nat.not_lt.mpr hg)
    | inr e => exact I1.nofs hg e
  have szl : s1.heap.objs.size ≤ (s1.heap.push (PySem.W.kdv_tup [u])).objs.size := by rw [Heap.size_push]; omega
  generalize hs2 : ({ s1 with heap := s1.heap.push (PySem.W.kdv_tup [u]) } : Shared) = s2 at I2
  have eh : s1.heap.push (PySem.W.kdv_tup [u]) = s2.heap := by rw [← hs2]
  rw [eh] at gT szl
  obtain ⟨ts, tP, tOk, tIn⟩ := id ht
  have atP : s2.heap.get? P = some { cls := .none, data := .fields ts } := I2.hok P _ tP
  have bmP : s2.heap.BuiltinsAt X.mg P := tb.bm.keeps I2.bk
  have cdP := tb.code.keeps I2.bk
  have glb := I2.mod.glob.keeps I2.bk
  have clo := closure_ok (env := X.env) hf
  cases hit : codeAmong pos ts.toList with
  | some cv =>
    obtain ⟨c1, rfl, hco⟩ := tIn pos cv hit
    refine PySem.W.kdv_makeTailHit (mg := X.mg) (c := c) (P := P) (ps := ts) clo I2.ok.glob glb hc cdP atP tOk hit bmP fun ctv doc h1 tk kx sz => ?_
    have J := I2.kept (h' := h1.push (PySem.W.kdv_obj "<lambda>" (X.env.qual ++ "<lambda>") params (.expr body) scope (cloFrom X.env.cells scope.names []) (.ref s1.heap.objs.size) doc ((X.mg "__name__").getD .none) c1 ctv)) (t' := tk) fun b o e => Heap.get?_push_of_some _ (kx b o e)
    exact go h1.objs.size c1 s1.heap.objs.size doc _ ctv u G _ J (fun _ _ _ e => e) ht (Heap.get?_push_size _ rfl) (Heap.get?_push_of_some _ (kx _ _ gT)) (I2.hok.fresh sz) (off _ (Nat.le_trans szl sz)) nT (off _ (Nat.le_refl _)) hco
  | none =>
    refine PySem.W.kdv_makeTail (mg := X.mg) (c := c) (P := P) (ps := ts) clo I2.ok.glob glb hc cdP atP tOk hit tb.gP bmP fun c1 ctv doc h1 tk hx hge hlt hrec htb => ?_
    obtain ⟨c2, oc, vs, t, e2, hoc, hdt, hv⟩ := hrec
    cases e2
    have sz : s2.heap.objs.size ≤ h1.objs.size := Nat.le_trans hge (Nat.le_of_lt hlt)
    have nC : G c1 = none := I2.hok.fresh hge
    have J := inv_table (t' := tk) (more := #[rawInt pos.line, rawInt pos.col, .ref c1]) (q := X.env.qual ++ "<lambda>") (c := c1) (h' := h1.push (PySem.W.kdv_obj "<lambda>" (X.env.qual ++ "<lambda>") params (.expr body) scope (cloFrom X.env.cells scope.names []) (.ref s1.heap.objs.size) doc ((X.mg "__name__").getD .none) c1 ctv)) I2 tP
      (fun b o nb e => Heap.get?_push_of_some _ (hx b o nb e)) (Heap.get?_push_of_some _ htb) hge ⟨oc, vs, t, Heap.get?_push_of_some _ hoc, hdt, hv⟩
    have nPc : P ≠ c1 := fun z => by rw [z, nC] at tP; cases tP
    have nTP : s1.heap.objs.size ≠ P := fun z => by rw [z, tP] at nT; cases nT
    have kp : KpT P G (upd (upd G P (.tbl (ts ++ #[rawInt pos.line, rawInt pos.col, .ref c1]))) c1 (CodeO c1 (X.env.qual ++ "<lambda>"))) := fun b o nb e => by
      have nbc : b ≠ c1 := fun z => by rw [z, nC] at e; cases e
      rw [upd_ne nbc, upd_ne nb, e]
    have nTc : s1.heap.objs.size ≠ c1 := fun z => by
      have := Heap.lt_size gT
      rw [z] at this
      exact Nat.lt_irrefl _ (Nat.lt_of_lt_of_le this hge)
    have eL : (ts ++ #[rawInt pos.line, rawInt pos.col, .ref c1]).toList = ts.toList ++ [rawInt pos.line, rawInt pos.col, .ref c1] := by simp
    refine go h1.objs.size c1 s1.heap.objs.size doc _ ctv u _ _ J kp ⟨_, by rw [upd_ne nPc, upd_same], by rw [eL]; exact PySem.TriplesOk_snoc _ _ _ _ tOk, fun p' cv hcv => ?_⟩ (Heap.get?_push_size _ rfl) (Heap.get?_push_of_some _ (hx _ _ nTP gT)) ?_ (off _ (Nat.le_trans szl sz)) ?_ (off _ (Nat.le_refl _)) upd_same
    · rw [eL] at hcv
      rcases among_app _ tOk hcv with z | z
      · obtain ⟨c0, e1, e2⟩ := tIn p' cv z
        exact ⟨c0, e1, kp _ _ (fun w => by rw [w, tP] at e2; exact codeO_ne _ (Option.some.inj e2).symm) e2⟩
      · exact ⟨c1, z, upd_same⟩
    · have n1 : h1.objs.size ≠ c1 := Nat.ne_of_gt hlt
      have n2 : h1.objs.size ≠ P := Nat.ne_of_gt (Nat.lt_of_lt_of_le (Heap.lt_size atP) sz)
      rw [upd_ne n1, upd_ne n2]
      exact I2.hok.fresh sz
    · rw [upd_ne nTc, upd_ne nTP]; exact nT
/-- one parameter of its own (r), else captured names and globals -/
structure LamSD (r : Str) (sc scope : Scope) : Prop where
  kind : scope.kind = .function
  co : scope.isCoroutine = false
  gen : scope.isGenerator = false
  par : scope.names.lookup r = some .local
  own : ∀ y ∈ scope.names, y.2 ≠ .cell ∧ (y.2 = .local → y.1 = r)
  out : sc.names.lookup r = none
  free : ∀ y ∈ scope.names, y.2 = .free → sc.names.lookup y.1 = some .cell ∨ sc.names.lookup y.1 = some .free
def lamSDB (r : Str) (sc scope : Scope) : Bool :=
  decide (scope.kind = .function) && !scope.isCoroutine && !scope.isGenerator && decide (scope.names.lookup r = some .local) && decide (sc.names.lookup r = none) && scope.names.all fun y => !decide (y.2 = .cell) && (!decide (y.2 = .local) || decide (y.1 = r)) && (!decide (y.2 = .free) || decide (sc.names.lookup y.1 = some .cell) || decide (sc.names.lookup y.1 = some .free))
theorem lamSD_by {r : Str} {sc scope : Scope} (h : lamSDB r sc scope = true) : LamSD r sc scope := by
  unfold lamSDB at h
  simp only [Bool.and_eq_true, Bool.or_eq_true, Bool.not_eq_true', decide_eq_true_eq, decide_eq_false_iff_not, List.all_eq_true] at h
  obtain ⟨⟨⟨⟨⟨h1, h2⟩, h3⟩, h4⟩, h5⟩, h6⟩ := h
  refine ⟨h1, h2, h3, h4, fun y hy => ⟨(h6 y hy).1.1, fun e => ?_⟩, h5, fun y hy e => ?_⟩
  · rcases (h6 y hy).1.2 with z | z
    · exact absurd e z
    · exact z
  · rcases (h6 y hy).2 with (z | z) | z
    · exact absurd e z
    · exact .inl z
    · exact .inr z
theorem LamSD.has {X : Cx} {r : Str} {scope : Scope} (L : LamSD r X.env.scope scope) (ok : X.Ok) : ∀ y ∈ scope.names, y.2 = .free → ∃ c, X.env.cells.lookup y.1 = some c := fun y hy e => (L.free y hy e).elim (fun k => ok.has _ (.inl k)) fun k => ok.has _ (.inr k)
end
section
variable {X : Cx} {pins : List (Addr × Obj)} {σ : L2.St} {H G : Hp} {s s1 : Shared}
theorem lam_startD {A : Around} {outer : List Env} {E : XK} {r : Str} {scope : Scope} {f c' : Addr} {h2 : Heap} {tk : Nat} {m0 : Str → Option Value} (I : Inv X pins σ H s) (L : LamSD r X.env.scope scope) (hrN : ∀ i : Nat, X.N[i]? ≠ some r) (e0 : Env0 X.prog X.w X.K X.mg X.base A outer s1 G) (hd : A.handled = none)
    (un : Un (frs X.stack) [] H G s.heap s1.heap) (hns : h2.Ns s1.heap.objs.size m0) (kp : ∀ b o, s1.heap.get? b = some o → h2.get? b = some o) :
    Inv (lamCx X A outer s1 G E scope f c') [] σ G { s1 with heap := h2, toks := tk } := by
  have cm : ∀ {y c}, (cloFrom X.env.cells scope.names []).lookup y = some c → X.env.cells.lookup y = some c := fun {y c} e => by
    rcases cloFrom_mem (PySem.mem_of_lookup e) with hm | ⟨g1, g2⟩
    · cases hm
    · obtain ⟨c1, hc⟩ := L.has I.ok _ g1 rfl
      have hc : X.env.cells.lookup y = some c1 := hc
      rw [show c = c1 by rw [g2, hc] <;> rfl]
      exact hc
  have look : ∀ {y}, scope.names.lookup y = some .free → ∃ c, (cloFrom X.env.cells scope.names []).lookup y = some c := fun {y} hl => mem_lookup (cloFrom_has (cells := X.env.cells) (acc := []) (PySem.mem_of_lookup hl))
  have cellK : ∀ {c : Addr} {v : Option Value}, H c = none → s.heap.IsCell c v → h2.IsCell c v := fun {c v} n ⟨o, ho, hdt⟩ => by
    obtain ⟨sl, g⟩ := un.any ho n (by simp)
    exact ⟨_, kp _ _ g, hdt⟩
  have noA : ∀ b : Addr, b ∉ (lamCx X A outer s1 G E scope f c').ex := fun b z => absurd (show b ∈ ([] : List Addr) from z) (by simp)
  refine ⟨⟨e0.mod, L.kind, rfl, rfl, Nat.le_refl _, fun y z c g1 g2 => I.ok.inj y z c (cm g1) (cm g2), fun y hy => ?_, fun y c z _ => ?_, fun _ => hd, Around.frames_deeper e0.frames, .inr ⟨rfl, rfl⟩, fun b z => absurd z (noA b), e0.bs, e0.bsz,
      fun b _ _ => noA b, fun b z => absurd z (noA b), e0.funs, e0.frf⟩,
    rfl, e0.bare, Un.kept kp, ⟨m0, hns, fun i y v g1 g2 g3 => ?_⟩, fun y c e => ?_, e0.hok.fresh (Nat.le_refl _), fun y c e => ?_, fun q hq => absurd (show q ∈ ([] : List (Addr × Obj)) ++ [] from hq) (by simp), e0.hok.kept kp, I.len⟩
  · have hy : scope.names.lookup y = some .cell ∨ scope.names.lookup y = some .free := hy
    rcases hy with hy | hy
    · exact absurd rfl (L.own _ (PySem.mem_of_lookup hy)).1
    · exact look hy
  · exact absurd (show false = true from z) (by decide)
  · have g3 : Vis scope y := g3
    rcases g3 with k | k | k
    · have := (L.own _ (PySem.mem_of_lookup k)).2 rfl
      exact absurd (this ▸ g1) (hrN i)
    · exact absurd rfl (L.own _ (PySem.mem_of_lookup k)).1
    · obtain ⟨m, hn, hl⟩ := I.loc
      have fr := L.free _ (PySem.mem_of_lookup k) rfl
      obtain ⟨w', rv, q⟩ := hl i y v g1 g2 (fr.elim (fun k => .inr (.inl k)) fun k => .inr (.inr k))
      obtain ⟨c2, k2⟩ := look k
      refine ⟨w', rv, .inr ⟨.inr k, c2, k2, ?_⟩⟩
      have c1 := cm k2
      rcases q with ⟨k', _⟩ | ⟨_, c3, e', z⟩
      · have k' : X.env.scope.names.lookup y = some .local := k'
        rcases fr with k3 | k3 <;> rw [show X.env.scope.names.lookup y = _ from k3] at k' <;> cases k'
      · rw [c1] at e'
        cases e'
        exact cellK (I.freeC y _ c1) z
  · obtain ⟨w', z⟩ := I.cell y c (cm e)
    exact ⟨w', cellK (I.freeC y c (cm e)) z⟩
  · obtain ⟨v, o, ho, hdt⟩ := I.cell y c (cm e)
    exact un.free c o ho (I.freeC y c (cm e)) (by simp)
theorem acts_lamD {Eg : XK} {CXg : CXT} {Ng : List Str} {qg a q r : Str} {sg : Scope} {g f c' T : Addr} {cdg pm doc ctv u0 : Value} {params : Arguments} {body : Expr} {scope : Scope} {k i : Nat} {t : XK → TE}
    (I : Inv X pins σ H s) (L : LamSD r X.env.scope scope) (hrN : ∀ i : Nat, X.N[i]? ≠ some r) (eq : X.env.qual ++ "<lambda>" = q) (hf : s.heap.get? f = some (PySem.W.kdv_obj "<lambda>" q params (.expr body) scope (cloFrom X.env.cells scope.names []) (.ref T) doc pm c' ctv)) (hT : s.heap.get? T = some (PySem.W.kdv_tup [u0]))
    (hfn : H f = none) (hfr : f ∉ frs X.stack) (hTn : H T = none) (hTr : T ∉ frs X.stack)
    (hbind : ∀ (q : Str) (cl : List (Str × Addr)) (T : Addr) (doc pm cv ctv u : Value), ∃ kk, bindArgs (PySem.W.kdv_fn "<lambda>" q params (.expr body) scope cl (.ref T) doc pm cv ctv) ⟨[], []⟩ = seqItems? (.ref T) >>= kk ∧ kk (some [u].toArray) = pure [(r, u)]) (hq : Quiet X.A) (hr : Room (k + 1) (X.A.deeper (envOfC qg sg s.heap.objs.size g cdg)))
    (hbody : ∀ (A : Around) (outer : List Env) (s : Shared) (H : Hp) (E : XK) (f c' : Addr), Quiet (A.deeper (lamEnv X scope s.heap.objs.size f c')) → Room k (A.deeper (lamEnv X scope s.heap.objs.size f c')) → PE (lamCx X A outer s H E scope f c') body (t E))
    (hN : Ng[i]? = some a) (hv : Vis sg a) (hdb : (a == ("__debug__" : Str)) = false) (hcd : (a == ("__classdict__" : Str)) = false) :
    ActsAs (cxOf CXg X.prog X.w X.K X.mg X.base Ng qg sg g cdg X.A X.stack s H Eg) a (fun ρ G => ρ[i]? = some (some (.ref f)) ∧ G c' = some (CodeO c' q)) (fun E H' Q' => t E σ H' Q') := by
  subst eq
  intro W pn xe p1 p2 tk
  refine ⟨fun pz sz ρ G Q J h => ?_⟩
  obtain ⟨⟨h1, h2⟩, E, Q1, hW, hQ, ht⟩ := h
  refine wpAny_Call_Name_kw (thn ((pe_var (pos := p1) (i := i) hN hv hdb hcd).run pz sz ρ G (fun v G' => v = .ref f ∧ G' = G) J ⟨.ref f, h1, rfl, rfl⟩) fun u s1 ⟨v, G1, J1, ru, e1, e2⟩ => ?_)
  subst e1
  subst e2
  obtain rfl : u = Value.ref f := ru
  have fo := J1.base.keep f _ hf hfn hfr (fun w => nomatch (show f ∈ ([] : List Addr) from w))
  have tO := J1.base.keep T _ hT hTn hTr (fun w => nomatch (show T ∈ ([] : List Addr) from w))
  refine PySem.W.callWith_F0 ⟨_, _, _, _, fo⟩ ?_
  obtain ⟨⟨oc, vs, t1, ho, hd, hv1⟩, _, _⟩ := J1.hok c' _ h2
  have U : Un (frs X.stack) [] H G1 s.heap s1.heap := J1.base
  have run : codeAny (model X.prog X.w) (X.A.deeper (envOfC qg sg s.heap.objs.size g cdg)) (.call (.ref f) ⟨[], []⟩) (CR (L2.CX X.prog X.w) (envOfC qg sg s.heap.objs.size g cdg :: X.stack) X.prog X.w G1 s1 Q1 E) s1 := by
    refine PySem.W.kla_callFunE hr.depth fo rfl L.co L.gen rfl ⟨c', oc, vs, t1, rfl, ho, hd, hv1⟩ ?_
    obtain ⟨kk, b1, b2⟩ := hbind (X.env.qual ++ "<lambda>") (cloFrom X.env.cells scope.names []) T doc pm (.ref c') ctv u0
    refine BindsTo.of_defaults rfl tO rfl b1 b2 _ _ _ _ ?_
    refine wpAny_newFunctionEnv (fun y hy => (L.own y hy).1) (fun y hy => by rw [List.mem_singleton.mp hy]; exact L.par) (fun h3 hns hsb => ⟨J1.nolimit.fresh _ hsb, ?_⟩) L.kind
    have kp : ∀ b o, s1.heap.get? b = some o → h3.get? b = some o := fun b o e => hsb.extBut b o (Nat.ne_of_lt (Heap.lt_size e)) (Heap.get?_push_of_some _ e)
    have J3 := lam_startD (E := E) (scope := scope) (f := f) (c' := c') (tk := s1.toks + [(r, u0)].length) I L hrN J1.env0 hr.hd U hns kp
    refine PySem.W.kla_codeExpr (wpAny_mono ((hbody (X.A.deeper (envOfC qg sg s.heap.objs.size g cdg)) _ s1 G1 E f c' (quiet_deeper (quiet_deeper hq)) (hr.deeper _)).run [] _ _ G1 Q1 J3 ht) (fun v s2 z => ?_) fun e s2 z => z)
    obtain ⟨w2, H2, K2, rv, z⟩ := z
    exact ⟨w2, H2, K2.os, K2.bare, K2.base, K2.hok, rv, z⟩
  refine wpAny_call (codeAny_mono run fun r s2 z => ?_)
  match r, z with
  | .error e, z => exact tk e s2 (XE.of_call J1 hW z)
  | .ok (.ret u), z =>
    obtain ⟨v, G2, z1, z2, z3, z4, z5, z6⟩ := z
    exact J1.after ⟨v, G2, z1, z2, z3, z4, z5, hQ v G2 z6⟩
  | .ok .next, z => exact z.elim
  | .ok .brk, z => exact z.elim
  | .ok .cont, z => exact z.elim
end
section
variable {X : Cx}
/-- x(lambda r=d: body) -/
theorem pe_lamD {TT : (XK → Hp → VK → Prop) → Hp → VK → Prop} {x a q r : Str} {g c P : Addr} {k : Nat} {sg : Scope} {fd : FuncData} {Ng : List Str} {params : Arguments} {body d : Expr} {i : Int} {scope : Scope} {t : XK → TE} {p lpos pos : Pos}
    (F : FnL X.prog X.w X.K X.mg X.base (k + 1) x a Ng sg g fd TT) (hg : Gl X x) (hm : X.mg x = some (.ref g)) (hk : PySem.W.keepIn X.K (.ref g) = true) (hb : Binds X.K fd [a] []) (hN : Ng[0]? = some a) (hva : Vis sg a) (hq : Quiet X.A) (hr : Room (k + 2) X.A)
    (eq : X.env.qual ++ "<lambda>" = q) (tb : TabB X.base X.mg c P) (hcode : X.env.code = .ref c) (L : LamSD r X.env.scope scope) (hrN : ∀ i : Nat, X.N[i]? ≠ some r) (hds : params.defaults = [d]) (hk0 : params.kw_defaults = []) (hd : PE X d (tC (.int i)))
    (hbind : ∀ (q : Str) (cl : List (Str × Addr)) (T : Addr) (doc pm cv ctv u : Value), ∃ kk, bindArgs (PySem.W.kdv_fn "<lambda>" q params (.expr body) scope cl (.ref T) doc pm cv ctv) ⟨[], []⟩ = seqItems? (.ref T) >>= kk ∧ kk (some [u].toArray) = pure [(r, u)])
    (hbody : ∀ (A : Around) (outer : List Env) (s : Shared) (H : Hp) (E : XK) (f c' : Addr), Quiet (A.deeper (lamEnv X scope s.heap.objs.size f c')) → Room k (A.deeper (lamEnv X scope s.heap.objs.size f c')) → PE (lamCx X A outer s H E scope f c') body (t E))
    (hdb : (x == ("__debug__" : Str)) = false := by decide) (hdb2 : (a == ("__debug__" : Str)) = false := by decide) (hcd : (a == ("__classdict__" : Str)) = false := by decide) :
    PE X (.Call (.Name x p) [.Lambda params body scope lpos] [] pos) (tLm P q TT t) := by
  refine ⟨fun pins s σ H Q I h => ?_⟩
  obtain ⟨hT, h⟩ := h
  refine wpAny_Call_Name_kw (ld_glob I hg hm ?_ hdb)
  refine PySem.W.callWith_K (h₀ := X.base) I.ok.mod.kin hk ?_ (by rfl) (by rfl)
  refine Calls.spliced_cons (lam_newD eq I tb hcode hT hds hk0 hd (L.has I.ok) fun f c1 T doc pm ctv u H1 s1 J kT T1 hf hTt hfn hfr hTn hTr hco => ?_)
  refine Calls.spliced_nil ⟨J.kIn, ?_⟩
  refine wpAny_call (codeAny_mono (F.runL X.A X.stack s1 H1 f _ _ Q hq hr J.env0 (hb s1 [.ref f] J.kIn rfl) (fun cdv hr2 => acts_lamD (i := 0) J L hrN eq hf hTt hfn hfr hTn hTr hbind hq hr2 hbody hN hva hdb2 hcd) ?_ (h H1 kT T1)) fun r s2 z => ?_)
  · refine ⟨?_, hco⟩
    cases Ng with
    | nil => cases hN
    | cons n r => rfl
  match r, z with
  | .error e, z => exact z.elim
  | .ok (.ret u), z => exact J.after z
  | .ok .next, z => exact z.elim
  | .ok .brk, z => exact z.elim
  | .ok .cont, z => exact z.elim
end
end G
namespace G
theorem noN {N : List PySem.Str} {r : PySem.Str} (h : N.all (fun x => !decide (x = r)) = true) : ∀ i : Nat, N[i]? ≠ some r := fun i e => by
  have := List.all_eq_true.mp h r (List.mem_of_getElem? e)
  simp at this
end G
/-! ### points around a closed path -/
namespace G
open PySem PySem.Spec PyProof.Rows L2
abbrev Pt := Int × Int
def atC (ps : List Pt) (i : Nat) : Pt := ps.getD i (0, 0)
def nxt (ps : List Pt) (i : Nat) : Pt := atC ps ((i + 1) % ps.length)
def prv (ps : List Pt) (i : Nat) : Pt := atC ps ((i + ps.length - 1) % ps.length)
theorem atC_of {ps : List Pt} {i : Nat} {p : Pt} (h : ps[i]? = some p) : atC ps i = p := by
  unfold atC
  rw [List.getD_eq_getElem?_getD, h]; rfl
theorem atC_get {ps : List Pt} {i : Nat} (h : i < ps.length) : ps[i]? = some (atC ps i) := by
  unfold atC
  rw [List.getD_eq_getElem?_getD, List.getElem?_eq_getElem h]; rfl
theorem atC_mem {ps : List Pt} {i : Nat} (h : i < ps.length) : atC ps i ∈ ps := List.mem_of_getElem? (atC_get h)
theorem nxt_mem {ps : List Pt} {i : Nat} (h : 0 < ps.length) : nxt ps i ∈ ps := atC_mem (Nat.mod_lt _ h)
theorem prv_mem {ps : List Pt} {i : Nat} (h : 0 < ps.length) : prv ps i ∈ ps := atC_mem (Nat.mod_lt _ h)
/-- Python's items at i - 1, at (i + 1) % n -/
theorem atI_prv {α : Type} {xs : List α} {i : Nat} (h : i < xs.length) : atI xs ((i : Int) - 1) = xs[(i + xs.length - 1) % xs.length]? := by
  by_cases h0 : i = 0
  · subst h0
    have e : (0 + xs.length - 1) % xs.length = xs.length - 1 := by
      rw [Nat.zero_add]; exact Nat.mod_eq_of_lt (by omega)
    rw [e]
    have hne : xs ≠ [] := fun z => by subst z; simp at h
    have ex : xs = xs.dropLast ++ [xs.getLast hne] := (List.dropLast_concat_getLast hne).symm
    have e1 : xs[xs.length - 1]? = some (xs.getLast hne) := by
      rw [← List.getLast?_eq_getElem?, List.getLast?_eq_some_getLast hne]
    rw [e1, show (((0 : Nat) : Int) - 1) = -1 from rfl]
    have e2 := atI_last xs.dropLast (xs.getLast hne)
    rwa [← ex] at e2
  · have e : (i + xs.length - 1) % xs.length = i - 1 := by
      rw [show i + xs.length - 1 = (i - 1) + xs.length by omega, Nat.add_mod_right]; exact Nat.mod_eq_of_lt (by omega)
    rw [e]
    have e2 : ((i : Int) - 1) = ((i - 1 : Nat) : Int) := by omega
    rw [e2]
    have hx : xs[i - 1]? = some (xs[i - 1]'(by omega)) := List.getElem?_eq_getElem (by omega)
    rw [hx]
    exact atI_nat hx
theorem emod_nat (i n : Nat) : ((i : Int) + 1) % (n : Int) = (((i + 1) % n : Nat) : Int) := by
  rw [Int.natCast_emod]; rfl
theorem atI_nxt {α : Type} {xs : List α} {i : Nat} (h : i < xs.length) : atI xs (((i : Int) + 1) % (xs.length : Int)) = xs[(i + 1) % xs.length]? := by
  rw [emod_nat]
  have hl : (i + 1) % xs.length < xs.length := Nat.mod_lt _ (by omega)
  rw [List.getElem?_eq_getElem hl]
  exact atI_nat (List.getElem?_eq_getElem hl)
/-- all coordinates have fewer than n bits -/
def AllBd (n : Nat) (ps : List Pt) : Prop := ∀ p ∈ ps, PBd n p
theorem PBd.mono {n m : Nat} {p : Pt} (h : PBd n p) (l : n ≤ m) : PBd m p := ⟨h.1.mono l, h.2.mono l⟩
def dif (q p : Pt) : Pt := (q.1 - p.1, q.2 - p.2)
theorem PBd.dif {n : Nat} {p q : Pt} (h : PBd n p) (k : PBd n q) : PBd (n + 1) (dif p q) := ⟨h.1.sub k.1, h.2.sub k.2⟩
section
variable {K : PySem.W.Frag} {H : Hp}
theorem hds_prv {xs : List V} {ps : List Pt} {i : Nat} (h : Hds K H xs ps) (hi : i < xs.length) : ∃ v, atI xs ((i : Int) - 1) = some v ∧ Hd K H v (prv ps i) := by
  have hl := h.length
  have hm : (i + xs.length - 1) % xs.length < xs.length := Nat.mod_lt _ (by omega)
  rw [atI_prv hi]
  refine ⟨xs[(i + xs.length - 1) % xs.length], List.getElem?_eq_getElem hm, ?_⟩
  obtain ⟨p, hp, hv⟩ := h.at' (List.getElem?_eq_getElem hm)
  have e : prv ps i = p := by unfold prv; rw [← hl]; exact atC_of hp
  rw [e]; exact hv
theorem hds_nxt {xs : List V} {ps : List Pt} {i : Nat} (h : Hds K H xs ps) (hi : i < xs.length) : ∃ v, atI xs (((i : Int) + 1) % (xs.length : Int)) = some v ∧ Hd K H v (nxt ps i) := by
  have hl := h.length
  have hm : (i + 1) % xs.length < xs.length := Nat.mod_lt _ (by omega)
  rw [atI_nxt hi]
  refine ⟨xs[(i + 1) % xs.length], List.getElem?_eq_getElem hm, ?_⟩
  obtain ⟨p, hp, hv⟩ := h.at' (List.getElem?_eq_getElem hm)
  have e : nxt ps i = p := by unfold nxt; rw [← hl]; exact atC_of hp
  rw [e]; exact hv
theorem hds_at {xs : List V} {ps : List Pt} {i : Nat} {x : V} (h : Hds K H xs ps) (e : xs[i]? = some x) : Hd K H x (atC ps i) := by
  obtain ⟨p, hp, hv⟩ := h.at' e
  rw [atC_of hp]; exact hv
/-- a list or tuple of points -/
def PSq (K : PySem.W.Frag) (H : Hp) (v : V) (ps : List Pt) : Prop := ∃ a xs, v = .ref a ∧ SqS K H a xs ∧ Hds K H xs ps
theorem PSq.same {H' : Hp} {v : V} {ps : List Pt} (h : PSq K H v ps) (s : Same H H') : PSq K H' v ps := by
  obtain ⟨a, xs, rfl, h1, h2⟩ := h
  exact ⟨a, xs, rfl, h1.same s, h2.same s⟩
end
end G

/-! ### plain facts about closed paths: the order of points, areas, turning and shifting the corners -/
namespace G
open PySem PySem.Spec PyProof.Rows L2 PySem.W
def crsP (a b : Pt) : Int := a.1 * b.2 - a.2 * b.1
/-- consecutive pairs -/
def cons2 : List Pt → List (Pt × Pt)
  | a :: b :: l => (a, b) :: cons2 (b :: l)
  | _ => []
def pth : List Pt → Int
  | a :: b :: l => crsP a b + pth (b :: l)
  | _ => 0
theorem pth_cons2 : ∀ l : List Pt, pth l = ((cons2 l).map fun e => crsP e.1 e.2).sum
  | [] => rfl
  | [_] => rfl
  | a :: b :: l => by
    rw [pth, cons2, List.map_cons, List.sum_cons, pth_cons2 (b :: l)]
theorem pth_app : ∀ (l : List Pt) (a : Pt) (m : List Pt), pth (l ++ a :: m) = pth (l ++ [a]) + pth (a :: m)
  | [], a, m => by
    show pth (a :: m) = pth [a] + _
    rw [show pth [a] = 0 from rfl, Int.zero_add]
  | [b], a, m => by
    show crsP b a + pth (a :: m) = crsP b a + pth [a] + _
    rw [show pth [a] = 0 from rfl, Int.add_zero]
  | b :: c :: l, a, m => by
    show crsP b c + pth (c :: l ++ a :: m) = crsP b c + pth (c :: l ++ [a]) + _
    rw [pth_app (c :: l) a m, Int.add_assoc]
theorem crs_swap (a b : Pt) : crsP b a = -crsP a b := by
  unfold crsP; grind
theorem pth_rev : ∀ l : List Pt, pth l.reverse = -pth l
  | [] => rfl
  | [_] => rfl
  | a :: b :: l => by
    rw [List.reverse_cons, List.reverse_cons, List.append_assoc]
    show pth (l.reverse ++ b :: [a]) = _
    rw [pth_app, ← List.reverse_cons, pth_rev (b :: l)]
    show _ + (crsP b a + 0) = -(crsP a b + _)
    rw [crs_swap a b]; omega
/-- twice the signed area of a closed path -/
def are : List Pt → Int
  | [] => 0
  | p :: l => pth (p :: l ++ [p])
theorem are_rot1 (p : Pt) (l : List Pt) : are (l ++ [p]) = are (p :: l) := by
  cases l with
  | nil => rfl
  | cons q l =>
    show pth (q :: l ++ [p] ++ [q]) = pth (p :: q :: l ++ [p])
    rw [List.append_assoc]
    show pth ((q :: l) ++ p :: [q]) = crsP p q + pth (q :: l ++ [p])
    rw [pth_app]
    show _ + (crsP p q + 0) = _
    omega
theorem are_rot : ∀ (l m : List Pt), are (l ++ m) = are (m ++ l)
  | [], m => by rw [List.nil_append, List.append_nil]
  | p :: l, m => by
    have e := are_rot1 p (l ++ m)
    have i := are_rot l (m ++ [p])
    rw [List.append_assoc, List.singleton_append] at i
    rw [List.cons_append, ← e, List.append_assoc, i]
theorem are_rev : ∀ l : List Pt, are l.reverse = -are l
  | [] => rfl
  | p :: l => by
    rw [List.reverse_cons, are_rot1]
    show pth (p :: l.reverse ++ [p]) = -pth (p :: l ++ [p])
    rw [← pth_rev, List.reverse_append]
    show _ = pth ([p] ++ (p :: l).reverse)
    rw [List.reverse_cons]
    rfl
theorem cons2_len : ∀ l : List Pt, (cons2 l).length = l.length - 1
  | [] => rfl
  | [_] => rfl
  | a :: b :: l => by
    rw [cons2, List.length_cons, cons2_len (b :: l)]
    simp
theorem cons2_get : ∀ (l : List Pt) (i : Nat) (p q : Pt), l[i]? = some p → l[i + 1]? = some q → (cons2 l)[i]? = some (p, q)
  | [], _, _, _, h, _ => by simp at h
  | [_], i, _, _, _, h => by simp at h
  | a :: b :: l, 0, p, q, h1, h2 => by
    simp at h1 h2
    subst h1 h2
    rfl
  | a :: b :: l, i + 1, p, q, h1, h2 => by
    rw [cons2, List.getElem?_cons_succ]
    exact cons2_get (b :: l) i p q (by simpa using h1) (by simpa using h2)
/-- shifted by j places -/
def rot (j : Nat) (l : List Pt) : List Pt := l.drop j ++ l.take j
theorem are_rotj (j : Nat) (l : List Pt) : are (rot j l) = are l := by
  unfold rot
  rw [← are_rot, List.take_append_drop]
theorem rot_perm (j : Nat) (l : List Pt) : (rot j l).Perm l := by
  unfold rot
  have h : (l.drop j ++ l.take j).Perm (l.take j ++ l.drop j) := List.perm_append_comm
  rwa [List.take_append_drop] at h
/-- the first place of p -/
def idx (p : Pt) : List Pt → Nat
  | [] => 0
  | q :: l => if q = p then 0 else idx p l + 1
theorem idx_eq {p : Pt} : ∀ {l : List Pt} {j : Nat}, l[j]? = some p → (∀ m, m < j → l[m]? ≠ some p) → idx p l = j
  | [], j, h, _ => by simp at h
  | q :: l, 0, h, _ => by
    have h : q = p := by simpa using h
    rw [idx, if_pos h]
  | q :: l, j + 1, h, hn => by
    have h0 : q ≠ p := fun z => hn 0 (by omega) (by simp [z])
    rw [idx, if_neg h0, idx_eq (l := l) (j := j) (by simpa using h) fun m hm => by
      have := hn (m + 1) (by omega)
      simpa using this]
theorem idx_mem {p : Pt} : ∀ {l : List Pt}, p ∈ l → l[idx p l]? = some p ∧ ∀ m, m < idx p l → l[m]? ≠ some p
  | q :: l, h => by
    rw [idx]
    by_cases e : q = p
    · rw [if_pos e]
      exact ⟨by simp [e], fun m hm => absurd hm (Nat.not_lt_zero _)⟩
    · rw [if_neg e]
      obtain ⟨h1, h2⟩ := idx_mem (l := l) ((List.mem_cons.mp h).resolve_left fun z => e z.symm)
      refine ⟨by simpa using h1, fun m hm => ?_⟩
      cases m with
      | zero => simpa using e
      | succ m => simpa using h2 m (by omega)
/-! the order of points -/
def ltPt (p q : Pt) : Prop := p.1 < q.1 ∨ (p.1 = q.1 ∧ p.2 < q.2)
instance (p q : Pt) : Decidable (ltPt p q) := by unfold ltPt; infer_instance
theorem dataLt_pt (p q : Pt) : dataLt (Datum.toD p) (Datum.toD q) = decide (ltPt p q) := dataLt_ii p.1 p.2 q.1 q.2
theorem dataLe_pt (p q : Pt) : dataLe false Datum.toD p q = decide (¬ ltPt q p) := by
  show (!dataLt (Datum.toD q) (Datum.toD p)) = _
  rw [dataLt_pt, decide_not]
theorem ltPt_tri {p q : Pt} (h1 : ¬ ltPt p q) (h2 : ¬ ltPt q p) : p = q := by
  unfold ltPt at h1 h2
  exact Prod.ext (by omega) (by omega)
theorem leP_trans (p q r : Pt) (h1 : dataLe false Datum.toD p q = true) (h2 : dataLe false Datum.toD q r = true) : dataLe false Datum.toD p r = true := by
  rw [dataLe_pt] at h1 h2 ⊢
  have h1 := of_decide_eq_true h1
  have h2 := of_decide_eq_true h2
  refine decide_eq_true ?_
  unfold ltPt at *
  omega
theorem leP_total (p q : Pt) : (dataLe false Datum.toD p q || dataLe false Datum.toD q p) = true := by
  rw [dataLe_pt, dataLe_pt]
  by_cases h : ltPt q p
  · have h2 : ¬ ltPt p q := by unfold ltPt at *; omega
    simp [h, h2]
  · simp [h]
theorem perm_sorted {α : Type} {le : α → α → Bool} (anti : ∀ x y, le x y = true → le y x = true → x = y) : ∀ {a b : List α}, a.Perm b → a.Pairwise (fun x y => le x y = true) → b.Pairwise (fun x y => le x y = true) → a = b
  | [], b, h, _, _ => (List.nil_perm.mp h).symm
  | x :: a, [], h, _, _ => absurd h.length_eq (by simp)
  | x :: a, y :: b, h, ha, hb => by
    obtain ⟨a1, a2⟩ := List.pairwise_cons.mp ha
    obtain ⟨b1, b2⟩ := List.pairwise_cons.mp hb
    have e : x = y := by
      rcases List.mem_cons.mp (h.mem_iff.mp List.mem_cons_self) with e | hx
      · exact e
      · rcases List.mem_cons.mp (h.mem_iff.mpr List.mem_cons_self) with e | hy
        · exact e.symm
        · exact anti x y (a1 y hy) (b1 x hx)
    subst e
    rw [perm_sorted anti h.cons_inv a2 b2]
theorem sort_perm {a b : List Pt} (h : a.Perm b) : sortH a = sortH b := by
  refine perm_sorted (le := dataLe false Datum.toD) (fun x y h1 h2 => ?_) (((List.mergeSort_perm a _).trans h).trans (List.mergeSort_perm b _).symm) (List.pairwise_mergeSort leP_trans leP_total a) (List.pairwise_mergeSort leP_trans leP_total b)
  rw [dataLe_pt] at h1 h2
  exact ltPt_tri (of_decide_eq_true h2) (of_decide_eq_true h1)
theorem alike_pt (p q : Pt) : alike (Datum.toD p) (Datum.toD q) = true := by
  show alike (.tuple [.int p.1, .int p.2]) (.tuple [.int q.1, .int q.2]) = true
  simp [alike, alikeAll]
theorem allAlike_pts (ps : List Pt) : AllAlike (ps.map Datum.toD) := by
  intro d hd d' hd'
  obtain ⟨p, _, rfl⟩ := List.mem_map.mp hd
  obtain ⟨q, _, rfl⟩ := List.mem_map.mp hd'
  exact alike_pt p q
theorem sortable_pts (ps : List Pt) : PySem.W.Sortable (ps.map Datum.toD) := by
  refine .inl fun d hd => ?_
  obtain ⟨p, _, rfl⟩ := List.mem_map.mp hd
  exact ⟨.int p.1, [.int p.2], rfl⟩
/-! segments -/
def trnP (a b c : Pt) : Int := (b.1 - a.1) * (c.2 - b.2) - (b.2 - a.2) * (c.1 - b.1)
def inB (x l h : Int) : Bool := decide (min l h ≤ x) && decide (x ≤ max l h)
def onP (p a b : Pt) : Bool := decide (trnP a b p = 0) && (inB p.1 a.1 b.1 && inB p.2 a.2 b.2)
/-- as the laws say it -/
def meetL (a b c d : Pt) : Bool := (onP a c d || (onP b c d || (onP c a b || onP d a b))) || (decide (decide (trnP a b c > 0) ≠ decide (trnP a b d > 0)) && decide (decide (trnP c d a > 0) ≠ decide (trnP c d b > 0)))
/-- as the program says it -/
def meetP (a b c d : Pt) : Bool := (decide (trnP a b c * trnP a b d < 0) && decide (trnP c d a * trnP c d b < 0)) || (onP c a b || (onP d a b || (onP a c d || onP b c d)))
theorem inB_iff {x l h : Int} : inB x l h = true ↔ min l h ≤ x ∧ x ≤ max l h := by
  unfold inB
  rw [Bool.and_eq_true, decide_eq_true_iff, decide_eq_true_iff]
/-- not of one sign, not both 0 -/
def Opp (t s : Int) : Prop := (0 ≤ t ∧ s ≤ 0 ∧ (t ≠ 0 ∨ s ≠ 0)) ∨ (t ≤ 0 ∧ 0 ≤ s ∧ (t ≠ 0 ∨ s ≠ 0))
theorem opp_dec {t s : Int} (h : ¬ decide (t > 0) = decide (s > 0)) : Opp t s := by
  unfold Opp
  by_cases h1 : t > 0 <;> by_cases h2 : s > 0
  · exact absurd (by rw [decide_eq_true h1, decide_eq_true h2]) h
  · omega
  · omega
  · exact absurd (by rw [decide_eq_false h1, decide_eq_false h2]) h
theorem opp1 {t s u v : Int} (ht : 0 ≤ t) (hs : s ≤ 0) (hn : t ≠ 0 ∨ s ≠ 0) (e : t * u = s * v) : ¬ (0 < u ∧ 0 < v) ∧ ¬ (u < 0 ∧ v < 0) := by
  by_cases h0 : t = 0
  · subst h0
    rw [Int.zero_mul] at e
    rcases Int.mul_eq_zero.mp e.symm with z | z
    · omega
    · omega
  have ht : 0 < t := by omega
  constructor
  · rintro ⟨hu, hv⟩
    have h1 : 0 < t * u := Int.mul_pos ht hu
    have h2 : s * v ≤ 0 := Int.mul_nonpos_of_nonpos_of_nonneg hs (by omega)
    omega
  · rintro ⟨hu, hv⟩
    have h1 : t * u < 0 := Int.mul_neg_of_pos_of_neg ht hu
    have h2 : 0 ≤ s * v := Int.mul_nonneg_of_nonpos_of_nonpos hs (by omega)
    omega
theorem opp2 {t s u v : Int} (h : Opp t s) (e : t * u = s * v) : ¬ (0 < u ∧ 0 < v) ∧ ¬ (u < 0 ∧ v < 0) := by
  rcases h with ⟨h1, h2, h3⟩ | ⟨h1, h2, h3⟩
  · exact opp1 h1 h2 h3 e
  · have := opp1 h2 h1 (by omega) e.symm
    omega
theorem side1 (a b c d : Pt) : trnP c d a * (b.1 - c.1) - trnP c d b * (a.1 - c.1) = -(trnP a b c * (d.1 - c.1)) := by
  unfold trnP; grind
theorem side2 (a b c d : Pt) : trnP c d a * (b.2 - c.2) - trnP c d b * (a.2 - c.2) = -(trnP a b c * (d.2 - c.2)) := by
  unfold trnP; grind
theorem on_of_sides {a b c d : Pt} (h0 : trnP a b c = 0) (h : Opp (trnP c d a) (trnP c d b)) : onP c a b = true := by
  have e1 := side1 a b c d
  have e2 := side2 a b c d
  rw [h0, Int.zero_mul] at e1 e2
  have k1 := opp2 h (u := b.1 - c.1) (v := a.1 - c.1) (by omega)
  have k2 := opp2 h (u := b.2 - c.2) (v := a.2 - c.2) (by omega)
  unfold onP
  rw [h0, decide_eq_true rfl, Bool.true_and, Bool.and_eq_true, inB_iff, inB_iff]
  omega
theorem trn_cyc (a b c : Pt) : trnP b a c = -trnP a b c := by
  unfold trnP; grind
theorem inB_swap (x l h : Int) : inB x h l = inB x l h := by
  unfold inB
  rw [Int.min_comm, Int.max_comm]
theorem onP_swap (p a b : Pt) : onP p b a = onP p a b := by
  unfold onP
  rw [inB_swap, inB_swap p.2, trn_cyc]
  congr 1
  exact decide_eq_decide.mpr (by omega)
theorem neg_of_opp {t s : Int} (h : Opp t s) (h1 : t ≠ 0) (h2 : s ≠ 0) : t * s < 0 := by
  rcases h with ⟨a, b, _⟩ | ⟨a, b, _⟩
  · exact Int.mul_neg_of_pos_of_neg (by omega) (by omega)
  · exact Int.mul_neg_of_neg_of_pos (by omega) (by omega)
theorem opp_of_neg {t s : Int} (h : t * s < 0) : ¬ decide (t > 0) = decide (s > 0) := by
  intro e
  by_cases h1 : t > 0 <;> by_cases h2 : s > 0
  · have := Int.mul_pos h1 h2; omega
  · rw [decide_eq_true h1, decide_eq_false h2] at e; cases e
  · rw [decide_eq_false h1, decide_eq_true h2] at e; cases e
  · have := Int.mul_nonneg_of_nonpos_of_nonpos (show t ≤ 0 by omega) (show s ≤ 0 by omega); omega
theorem meet_eq (a b c d : Pt) : meetL a b c d = meetP a b c d := by
  unfold meetL meetP
  cases h1 : onP c a b with
  | true => simp
  | false =>
  cases h2 : onP d a b with
  | true => simp
  | false =>
  cases h3 : onP a c d with
  | true => simp
  | false =>
  cases h4 : onP b c d with
  | true => simp
  | false =>
  simp only [Bool.or_self, Bool.false_or, Bool.or_false]
  rw [Bool.eq_iff_iff, Bool.and_eq_true, Bool.and_eq_true, decide_eq_true_iff, decide_eq_true_iff, decide_eq_true_iff, decide_eq_true_iff]
  constructor
  · rintro ⟨hx, hy⟩
    have ox := opp_dec hx
    have oy := opp_dec hy
    have n1 : trnP a b c ≠ 0 := fun z => by rw [on_of_sides z oy] at h1; cases h1
    have n2 : trnP a b d ≠ 0 := fun z => by
      rw [on_of_sides z (d := c) (by rw [trn_cyc c d a, trn_cyc c d b]; unfold Opp at oy ⊢; omega)] at h2; cases h2
    have n3 : trnP c d a ≠ 0 := fun z => by rw [on_of_sides z ox] at h3; cases h3
    have n4 : trnP c d b ≠ 0 := fun z => by
      rw [on_of_sides z (d := a) (by rw [trn_cyc a b c, trn_cyc a b d]; unfold Opp at ox ⊢; omega)] at h4; cases h4
    exact ⟨neg_of_opp ox n1 n2, neg_of_opp oy n3 n4⟩
  · rintro ⟨hx, hy⟩
    exact ⟨opp_of_neg hx, opp_of_neg hy⟩
end G

/-! ### closed paths: turns, meetings, areas, the corners as they are kept -/
namespace G
open PySem PySem.Spec PyProof.Rows L2
def trn (a b c : Pt) : Int := crs (dif b a) (dif c b)
def tri0 (ps : List Pt) (i : Nat) : Int := trn (prv ps i) (atC ps i) (nxt ps i)
def btw1 (x l h : Int) : Bool := decide (min l h ≤ x) && decide (x ≤ max l h)
def btw (p a b : Pt) : Bool := btw1 p.1 a.1 b.1 && btw1 p.2 a.2 b.2
def onS (p a b : Pt) : Bool := decide (trn a b p = 0) && btw p a b
theorem trn_bd {a b c : Pt} (ha : PBd 40000 a) (hb : PBd 40000 b) (hc : PBd 40000 c) : Bd 90000 (trn a b c) := by
  have h1 := hb.dif ha
  have h2 := hc.dif hb
  exact ((h1.1.mul h2.2).sub (h1.2.mul h2.1)).mono (by decide)
def meetS (a b c d : Pt) : Bool := (decide (trn a b c * trn a b d < 0) && decide (trn c d a * trn c d b < 0)) || (onS c a b || (onS d a b || (onS a c d || onS b c d)))
abbrev Ed := Pt × Pt
def edgs (ps : List Pt) : List Ed := (List.range ps.length).map fun i => (atC ps i, nxt ps i)
def crossB (ps : List Pt) (i j : Nat) : Bool := decide ((j + 1) % ps.length ≠ i) && meetS (atC ps i) (nxt ps i) (atC ps j) (nxt ps j)
def areaL (es : List Ed) : Int := (es.map fun e => crs e.1 e.2).sum
theorem edgs_cons2 (p : Pt) (l : List Pt) : edgs (p :: l) = cons2 (p :: l ++ [p]) := by
  have hl : (edgs (p :: l)).length = l.length + 1 := by unfold edgs; rw [List.length_map, List.length_range, List.length_cons]
  have hc : (cons2 (p :: l ++ [p])).length = l.length + 1 := by rw [cons2_len]; simp
  refine List.ext_getElem? fun i => ?_
  rcases Nat.lt_or_ge i (l.length + 1) with hi | hi
  · have e1 : (edgs (p :: l))[i]? = some (atC (p :: l) i, nxt (p :: l) i) := by
      unfold edgs; rw [List.getElem?_map, List.getElem?_range (by simpa using hi)]; rfl
    rw [e1]
    refine (cons2_get _ i _ _ ?_ ?_).symm
    · rw [List.getElem?_append_left (by simpa using hi)]
      exact atC_get (by simpa using hi)
    · unfold nxt
      rcases Nat.lt_or_ge (i + 1) (l.length + 1) with h | h
      · rw [List.getElem?_append_left (by simpa using h), Nat.mod_eq_of_lt (by simpa using h)]
        exact atC_get (by simpa using h)
      · obtain rfl : i = l.length := by omega
        rw [List.getElem?_append_right (by simp), List.length_cons, Nat.mod_self]
        simp [atC]
  · rw [List.getElem?_eq_none (by omega), List.getElem?_eq_none (by omega)]
theorem area_are (ps : List Pt) : areaL (edgs ps) = are ps := by
  cases ps with
  | nil => rfl
  | cons p l =>
    unfold areaL
    rw [edgs_cons2]
    exact (pth_cons2 (p :: l ++ [p])).symm
def spn (ps : List Pt) : List Pt := if 0 < are ps then ps else ps.reverse
def minPt : List Pt → Pt
  | [] => (0, 0)
  | p :: qs => minP p qs
def arr (ps : List Pt) : List Pt := rot (idx (minPt (spn ps)) (spn ps)) (spn ps)
theorem spn_len (ps : List Pt) : (spn ps).length = ps.length := by
  unfold spn; split
  · rfl
  · exact List.length_reverse
theorem arr_len (ps : List Pt) : (arr ps).length = ps.length := by
  unfold arr
  rw [(rot_perm _ _).length_eq, spn_len]
theorem spn_perm (ps : List Pt) : (spn ps).Perm ps := by
  unfold spn; split
  · exact List.Perm.refl _
  · exact List.reverse_perm ps
theorem arr_perm (ps : List Pt) : (arr ps).Perm ps := (rot_perm _ _).trans (spn_perm ps)
theorem arr_are (ps : List Pt) : are (arr ps) = ((are ps).natAbs : Int) := by
  unfold arr
  rw [are_rotj]
  unfold spn
  split
  · omega
  · rw [are_rev]; omega
theorem arr_bd {n : Nat} {ps : List Pt} (h : AllBd n ps) : AllBd n (arr ps) := fun p hp => h p ((arr_perm ps).mem_iff.mp hp)
theorem minP_mem : ∀ (qs : List Pt) (p : Pt), minP p qs ∈ p :: qs
  | [], p => List.mem_cons_self
  | y :: qs, p => by
    have h := minP_mem qs (if PySem.W.dataLt (PySem.W.Datum.toD y) (PySem.W.Datum.toD p) then y else p)
    show minP (if PySem.W.dataLt (PySem.W.Datum.toD y) (PySem.W.Datum.toD p) then y else p) qs ∈ _
    rcases List.mem_cons.mp h with h | h
    · rw [h]
      split
      · exact List.mem_cons_of_mem _ List.mem_cons_self
      · exact List.mem_cons_self
    · exact List.mem_cons_of_mem _ (List.mem_cons_of_mem _ h)
inductive Cin where
  | pts (ps : List Pt)
  | bad (o : Option Nat)
def posV : Option Nat → V
  | none => .non
  | some i => .int (i : Int)
def NoDeg (ps : List Pt) : Prop := ∀ i, i < ps.length → tri0 ps i ≠ 0
def DegAt (ps : List Pt) (i : Nat) : Prop := i < ps.length ∧ tri0 ps i = 0 ∧ ∀ j, j < i → tri0 ps j ≠ 0
def CrsAt (ps : List Pt) (i j : Nat) : Prop := NoDeg ps ∧ i + 2 ≤ j ∧ j < ps.length ∧ crossB ps i j = true ∧ ∀ i' j', i' + 2 ≤ j' → j' < ps.length → (i' < i ∨ (i' = i ∧ j' < j)) → crossB ps i' j' = false
def Good (ps : List Pt) : Prop := NoDeg ps ∧ ∀ i j, i + 2 ≤ j → j < ps.length → crossB ps i j = false
def reflex (ps : List Pt) : Option Nat := (List.range ps.length).find? fun i => decide (tri0 ps i < 0)
theorem reflex_none {ps : List Pt} (h : ∀ i, i < ps.length → ¬ tri0 ps i < 0) : reflex ps = none := by
  unfold reflex
  rw [List.find?_eq_none]
  intro i hi
  simpa using h i (List.mem_range.mp hi)
theorem find_range {p : Nat → Bool} : ∀ {n i : Nat}, i < n → p i = true → (∀ j, j < i → p j = false) → (List.range n).find? p = some i := by
  intro n i hi h1 h2
  rw [List.find?_eq_some_iff_getElem]
  exact ⟨h1, i, by simpa using hi, by simp, fun j hj => by simp [h2 j hj]⟩
theorem reflex_some {ps : List Pt} {i : Nat} (hi : i < ps.length) (h : tri0 ps i < 0) (hn : ∀ j, j < i → ¬ tri0 ps j < 0) : reflex ps = some i :=
  find_range hi (decide_eq_true h) fun j hj => decide_eq_false (hn j hj)
theorem r_mid {te : TE} {σ : L2.St} {H : Hp} {Q : VK} (M : V → Hp → Prop) (h1 : ∀ Q' : VK, (∀ v H1, M v H1 → Q' v H1) → te σ H Q') (h2 : ∀ v H1, M v H1 → Q v H1) : te σ H Q := h1 Q h2
theorem r_chain {r r' : R2} {ta tb tc : TE} {σ : L2.St} {H : Hp} {Q : VK} (q : ta σ H fun x H1 => tb σ H1 fun y H2 => r x y H2 fun z H3 => ∃ k, z = .bl k ∧ (if k = true then tc σ H3 fun w' H4 => r' y w' H4 Q else Q (.bl false) H3)) : tChain r r' ta tb tc σ H Q := q
theorem if_ff {A B : Prop} (h : B) : if false = true then A else B := h
def co (p : Pt) (i : Nat) : Int := if i = 0 then p.1 else p.2
theorem at_co (p : Pt) {i : Nat} (h : i < 2) : atI [V.int p.1, V.int p.2] (i : Int) = some (.int (co p i)) := by
  rcases (show i = 0 ∨ i = 1 by omega) with rfl | rfl <;> rfl
theorem meetS_eq (a b c d : Pt) : meetS a b c d = meetL a b c d := (meet_eq a b c d).symm
theorem dec_bl (x y : Bool) : decide (V.bl x = V.bl y) = decide (x = y) := by
  cases x <;> cases y <;> rfl
theorem meet_on {a b c d : Pt} (h : onS a c d = true ∨ onS b c d = true ∨ onS c a b = true ∨ onS d a b = true) : meetS a b c d = true := by
  unfold meetS
  rcases h with h | h | h | h <;> simp [h]
theorem meet_off {a b c d : Pt} (h1 : onS a c d = false) (h2 : onS b c d = false) (h3 : onS c a b = false) (h4 : onS d a b = false) : meetS a b c d = (decide (decide (trnP a b c > 0) ≠ decide (trnP a b d > 0)) && decide (decide (trnP c d a > 0) ≠ decide (trnP c d b > 0))) := by
  rw [meetS_eq]
  unfold meetL
  rw [show onP a c d = false from h1, show onP b c d = false from h2, show onP c a b = false from h3, show onP d a b = false from h4]
  rfl
inductive Outc where
  | ok
  | deg (i : Nat)
  | crs (i j : Nat)
def OutIs (ps : List Pt) : Outc → Prop
  | .ok => Good ps
  | .deg i => DegAt ps i
  | .crs i j => CrsAt ps i j
theorem out_uniq {ps : List Pt} : ∀ {o o' : Outc}, OutIs ps o → OutIs ps o' → o = o' := by
  intro o o' h h'
  cases o with
  | ok =>
    cases o' with
    | ok => rfl
    | deg i => exact absurd h'.2.1 (h.1 i h'.1)
    | crs i j => have := h.2 i j h'.2.1 h'.2.2.1; rw [h'.2.2.2.1] at this; cases this
  | deg i =>
    cases o' with
    | ok => exact absurd h.2.1 (h'.1 i h.1)
    | deg j =>
      rcases Nat.lt_trichotomy i j with z | rfl | z
      · exact absurd h.2.1 (h'.2.2 i z)
      · rfl
      · exact absurd h'.2.1 (h.2.2 j z)
    | crs j k => exact absurd h.2.1 (h'.1 i h.1)
  | crs i j =>
    cases o' with
    | ok => have := h'.2 i j h.2.1 h.2.2.1; rw [h.2.2.2.1] at this; cases this
    | deg k => exact absurd h'.2.1 (h.1 k h'.1)
    | crs i' j' =>
      have no : ¬ (i' < i ∨ (i' = i ∧ j' < j)) := fun z => by
        have := h.2.2.2.2 i' j' h'.2.1 h'.2.2.1 z; rw [h'.2.2.2.1] at this; cases this
      have no' : ¬ (i < i' ∨ (i = i' ∧ j < j')) := fun z => by
        have := h'.2.2.2.2 i j h.2.1 h.2.2.1 z; rw [h.2.2.2.1] at this; cases this
      have e1 : i = i' := by omega
      have e2 : j = j' := by omega
      rw [e1, e2]
def outD : Outc → PyData
  | .ok => .list [.str "none"]
  | .deg i => .list [.str "degenerate", .int (i : Int)]
  | .crs i j => .list [.str "crossing", .int (i : Int), .int (j : Int)]
def lawArea (ps : List Pt) (n : Nat) : Int := ((List.range n).map fun j => crs (prv ps j) (atC ps j)).sum
theorem lawArea_succ (ps : List Pt) (n : Nat) : lawArea ps (n + 1) = lawArea ps n + crs (prv ps n) (atC ps n) := by
  unfold lawArea
  rw [List.range_succ, List.map_append, List.sum_append]
  simp
theorem lawArea_eq (ps : List Pt) (h : 0 < ps.length) : lawArea ps ps.length = are ps := by
  have hne : ps ≠ [] := fun z => by subst z; simp at h
  obtain ⟨l, p, rfl⟩ : ∃ l p, ps = l ++ [p] := ⟨ps.dropLast, ps.getLast hne, (List.dropLast_concat_getLast hne).symm⟩
  have key : (List.range (l ++ [p]).length).map (fun j => (prv (l ++ [p]) j, atC (l ++ [p]) j)) = cons2 (p :: (l ++ [p])) := by
    refine List.ext_getElem? fun i => ?_
    have hlen : (l ++ [p]).length = l.length + 1 := by simp
    rcases Nat.lt_or_ge i (l.length + 1) with hi | hi
    · rw [List.getElem?_map, List.getElem?_range (by omega)]
      refine (cons2_get _ i _ _ ?_ ?_).symm
      · unfold prv
        rw [hlen]
        cases i with
        | zero =>
          rw [show (0 + (l.length + 1) - 1) % (l.length + 1) = l.length from by rw [Nat.zero_add, Nat.add_sub_cancel]; exact Nat.mod_eq_of_lt (Nat.lt_succ_self _)]
          rw [atC_of (p := p) (by simp)]; rfl
        | succ i =>
          rw [show (i + 1 + (l.length + 1) - 1) % (l.length + 1) = i from by
            rw [show i + 1 + (l.length + 1) - 1 = i + (l.length + 1) by omega, Nat.add_mod_right]; exact Nat.mod_eq_of_lt (by omega)]
          rw [List.getElem?_cons_succ]
          exact atC_get (by omega)
      · rw [List.getElem?_cons_succ]
        exact atC_get (by omega)
    · rw [List.getElem?_eq_none (by rw [List.length_map, List.length_range]; omega), List.getElem?_eq_none (by rw [cons2_len, List.length_cons]; omega)]
  have e : lawArea (l ++ [p]) (l ++ [p]).length = ((cons2 (p :: (l ++ [p]))).map fun e => crsP e.1 e.2).sum := by
    rw [← key, List.map_map]; rfl
  rw [e, ← pth_cons2, are_rot1]; rfl
theorem dr_put {H : Hp} {l D : Addr} {o : HO} (d : DrAt H l) (ne : D ≠ l) : DrAt (upd H D o) l := by
  obtain ⟨a, b, h, r⟩ := d
  exact ⟨a, b, by rw [upd_ne ne.symm]; exact h, r⟩
end G

/-! ### grid maps as six integers -/
namespace G
open PySem PySem.Spec PyProof.Rows L2
structure M6 where
  a : Int
  b : Int
  c : Int
  d : Int
  e : Int
  f : Int
deriving DecidableEq
namespace M6
def det (m : M6) : Int := m.a * m.d - m.b * m.c
def Ok (m : M6) : Prop := m.det = 1 ∨ m.det = -1
def nums (m : M6) : List Int := [m.a, m.b, m.c, m.d, m.e, m.f]
def vals (m : M6) : List V := [.int m.a, .int m.b, .int m.c, .int m.d, .int m.e, .int m.f]
def one : M6 := ⟨1, 0, 0, 1, 0, 0⟩
/-- first m, then n -/
def comp (m n : M6) : M6 := ⟨n.a * m.a + n.b * m.c, n.a * m.b + n.b * m.d, n.c * m.a + n.d * m.c, n.c * m.b + n.d * m.d, n.a * m.e + n.b * m.f + n.e, n.c * m.e + n.d * m.f + n.f⟩
def inv (m : M6) : M6 := ⟨m.det * m.d, -m.det * m.b, -m.det * m.c, m.det * m.a, -(m.det * m.d * m.e + -m.det * m.b * m.f), -(-m.det * m.c * m.e + m.det * m.a * m.f)⟩
def pow (m : M6) : Nat → M6
  | 0 => one
  | k + 1 => (m.pow k).comp m
def img (m : M6) (p : Int × Int) : Int × Int := (m.a * p.1 + m.b * p.2 + m.e, m.c * p.1 + m.d * p.2 + m.f)
theorem ext' {m n : M6} (h : m.nums = n.nums) : m = n := by
  cases m; cases n
  simp only [nums, List.cons.injEq, and_true] at h
  obtain ⟨h1, h2, h3, h4, h5, h6⟩ := h
  subst h1 h2 h3 h4 h5 h6
  rfl
theorem det_comp (m n : M6) : (m.comp n).det = m.det * n.det := by
  simp only [det, comp]; grind
theorem ok_comp {m n : M6} (h : m.Ok) (k : n.Ok) : (m.comp n).Ok := by
  unfold Ok at *
  rw [det_comp]
  rcases h with h | h <;> rcases k with k | k <;> rw [h, k] <;> decide
theorem ok_sq {m : M6} (h : m.Ok) : m.det * m.det = 1 := by
  rcases h with h | h <;> rw [h] <;> decide
theorem det_inv (m : M6) : m.inv.det = m.det * m.det * m.det := by
  have : m.inv.det = m.det * m.det * (m.a * m.d - m.b * m.c) := by
    simp only [det, inv]; grind
  rw [this]; rfl
theorem ok_inv {m : M6} (h : m.Ok) : m.inv.Ok := by
  unfold Ok
  rw [det_inv, ok_sq h]
  rcases h with h | h <;> rw [h] <;> decide
theorem ok_one : one.Ok := .inl rfl
theorem comp_one (m : M6) : m.comp one = m := by
  cases m; simp [comp, one]
theorem one_comp (m : M6) : one.comp m = m := by
  cases m; simp [comp, one]
theorem comp_assoc (m n k : M6) : (m.comp n).comp k = m.comp (n.comp k) := by
  simp only [comp, mk.injEq]; refine ⟨?_, ?_, ?_, ?_, ?_, ?_⟩ <;> grind
theorem comp_inv {m : M6} (h : m.Ok) : m.comp m.inv = one := by
  have hd := ok_sq h
  simp only [comp, inv, one, mk.injEq]
  generalize e : m.det = s at *
  simp only [det] at e
  refine ⟨?_, ?_, ?_, ?_, ?_, ?_⟩ <;> grind
theorem inv_comp {m : M6} (h : m.Ok) : m.inv.comp m = one := by
  have hd := ok_sq h
  simp only [comp, inv, one, mk.injEq]
  generalize e : m.det = s at *
  simp only [det] at e
  refine ⟨?_, ?_, ?_, ?_, ?_, ?_⟩ <;> grind
theorem ok_pow {m : M6} (h : m.Ok) : ∀ k, (m.pow k).Ok
  | 0 => ok_one
  | k + 1 => ok_comp (ok_pow h k) h
theorem pow_one (m : M6) : m.pow 1 = m := one_comp m
theorem pow_add (m : M6) (i : Nat) : ∀ j, m.pow (i + j) = (m.pow i).comp (m.pow j)
  | 0 => (comp_one _).symm
  | j + 1 => by
    show (m.pow (i + j)).comp m = _
    rw [pow_add m i j, comp_assoc]
    rfl
theorem pow_sq (m : M6) : ∀ k, (m.comp m).pow k = m.pow (2 * k)
  | 0 => rfl
  | k + 1 => by
    show ((m.comp m).pow k).comp (m.comp m) = _
    rw [pow_sq m k, ← comp_assoc]
    rfl
/-- c first, then m, then back -/
def conj (c m : M6) : M6 := (c.comp m).comp c.inv
theorem ok_conj {c m : M6} (h : c.Ok) (k : m.Ok) : (c.conj m).Ok := ok_comp (ok_comp h k) (ok_inv h)
theorem conj_pow {c m : M6} (h : c.Ok) : ∀ k, (c.conj m).pow k = c.conj (m.pow k)
  | 0 => by
    show one = (c.comp one).comp c.inv
    rw [comp_one, comp_inv h]
  | k + 1 => by
    show ((c.conj m).pow k).comp (c.conj m) = _
    rw [conj_pow h k]
    show ((c.comp (m.pow k)).comp c.inv).comp ((c.comp m).comp c.inv) = (c.comp ((m.pow k).comp m)).comp c.inv
    rw [comp_assoc _ c.inv, ← comp_assoc c.inv, ← comp_assoc c.inv, inv_comp h, one_comp, ← comp_assoc, ← comp_assoc]
theorem conj_one {c m : M6} (h : c.Ok) : c.conj m = one ↔ m = one := by
  constructor
  · intro e
    have e2 : c.inv.comp ((c.conj m).comp c) = m := by
      show c.inv.comp (((c.comp m).comp c.inv).comp c) = m
      rw [comp_assoc _ c.inv, inv_comp h, comp_one, ← comp_assoc, inv_comp h, one_comp]
    rw [← e2, e, one_comp, inv_comp h]
  · rintro rfl
    show (c.comp one).comp c.inv = one
    rw [comp_one, comp_inv h]
/-! the least exponent up to n -/
def ordN (m : M6) : Nat → Nat → Option Nat
  | 0, _ => none
  | n + 1, k => if m.pow k = one then some k else ordN m n (k + 1)
theorem ordN_conj {c m : M6} (h : c.Ok) : ∀ n k, (c.conj m).ordN n k = m.ordN n k
  | 0, _ => rfl
  | n + 1, k => by
    unfold ordN
    rw [conj_pow h, ordN_conj h n]
    by_cases e : m.pow k = one
    · rw [if_pos e, if_pos ((conj_one h).mpr e)]
    · rw [if_neg e, if_neg (fun z => e ((conj_one h).mp z))]
theorem ordN_none {m : M6} : ∀ {n k}, (∀ j, k ≤ j → j < k + n → m.pow j ≠ one) → m.ordN n k = none
  | 0, _, _ => rfl
  | n + 1, k, h => by
    unfold ordN
    rw [if_neg (h k (Nat.le_refl _) (by omega))]
    exact ordN_none fun j h1 h2 => h j (by omega) (by omega)
theorem ordN_more {m : M6} : ∀ {n k p}, (∃ j, k ≤ j ∧ j < k + n ∧ m.pow j = one) → m.ordN (n + p) k = m.ordN n k
  | 0, k, p, ⟨j, h1, h2, _⟩ => by omega
  | n + 1, k, p, ⟨j, h1, h2, h3⟩ => by
    rw [show n + 1 + p = (n + p) + 1 by omega]
    unfold ordN
    by_cases e : m.pow k = one
    · rw [if_pos e, if_pos e]
    · rw [if_neg e, if_neg e]
      refine ordN_more ⟨j, ?_, by omega, h3⟩
      rcases Nat.lt_or_ge k j with h | h
      · exact h
      · have : j = k := by omega
        subst this
        exact absurd h3 e
/-! finite orders of integer maps -/
def us (t d : Int) : Nat → Int
  | 0 => 0
  | 1 => 1
  | k + 2 => t * us t d (k + 1) - d * us t d k
theorem lin_pow (m : M6) : ∀ k, (m.pow (k + 1)).a = us (m.a + m.d) m.det (k + 1) * m.a - m.det * us (m.a + m.d) m.det k ∧ (m.pow (k + 1)).b = us (m.a + m.d) m.det (k + 1) * m.b ∧
    (m.pow (k + 1)).c = us (m.a + m.d) m.det (k + 1) * m.c ∧ (m.pow (k + 1)).d = us (m.a + m.d) m.det (k + 1) * m.d - m.det * us (m.a + m.d) m.det k
  | 0 => by
    rw [pow_one]
    simp [us]
  | k + 1 => by
    obtain ⟨h1, h2, h3, h4⟩ := lin_pow m k
    have e : m.pow (k + 1 + 1) = (m.pow (k + 1)).comp m := rfl
    have u : us (m.a + m.d) m.det (k + 1 + 1) = (m.a + m.d) * us (m.a + m.d) m.det (k + 1) - m.det * us (m.a + m.d) m.det k := rfl
    rw [e, u]
    simp only [comp]
    rw [h1, h2, h3, h4]
    generalize us (m.a + m.d) m.det (k + 1) = x
    generalize us (m.a + m.d) m.det k = y
    simp only [det]
    refine ⟨?_, ?_, ?_, ?_⟩ <;> grind
theorem us_far {t : Int} (ht : t ≤ -2 ∨ 2 ≤ t) : ∀ k, (us t 1 k).natAbs < (us t 1 (k + 1)).natAbs
  | 0 => by show (0 : Int).natAbs < (1 : Int).natAbs; decide
  | k + 1 => by
    have h := us_far ht k
    show (us t 1 (k + 1)).natAbs < (t * us t 1 (k + 1) - 1 * us t 1 k).natAbs
    generalize us t 1 (k + 1) = x at *
    generalize us t 1 k = y at *
    have h2 : 2 * x.natAbs ≤ (t * x).natAbs := by
      rw [Int.natAbs_mul]
      exact Nat.mul_le_mul_right _ (by omega)
    omega
theorem us_neg {t : Int} (ht : t ≠ 0) : ∀ k, us t (-1) (k + 1) ≠ 0 ∧ 0 ≤ t * (us t (-1) (k + 1) * us t (-1) k)
  | 0 => ⟨by show (1 : Int) ≠ 0; decide, by show 0 ≤ t * (1 * 0); omega⟩
  | k + 1 => by
    obtain ⟨h1, h2⟩ := us_neg ht k
    have u : us t (-1) (k + 1 + 1) = t * us t (-1) (k + 1) - -1 * us t (-1) k := rfl
    rw [u]
    generalize us t (-1) (k + 1) = x at *
    generalize us t (-1) k = y at *
    have e : t * ((t * x - -1 * y) * x) = (t * x) * (t * x) + t * (x * y) := by grind
    have p : 0 < (t * x) * (t * x) := by
      have hne : t * x ≠ 0 := Int.mul_ne_zero ht h1
      rcases Int.lt_or_gt_of_ne hne with g | g
      · exact Int.mul_pos_of_neg_of_neg g g
      · exact Int.mul_pos g g
    have e2 : 0 < t * ((t * x - -1 * y) * x) := by omega
    refine ⟨fun z => ?_, by omega⟩
    rw [z] at e2
    simp at e2
theorem tr_pow {e f : Int} : ∀ k : Nat, (M6.mk 1 0 0 1 e f).pow k = ⟨1, 0, 0, 1, k * e, k * f⟩
  | 0 => by simp [pow, one]
  | k + 1 => by
    show ((M6.mk 1 0 0 1 e f).pow k).comp ⟨1, 0, 0, 1, e, f⟩ = _
    rw [tr_pow k]
    simp only [comp, mk.injEq]
    refine ⟨by omega, by omega, by omega, by omega, ?_, ?_⟩
    · push_cast; grind
    · push_cast; grind
theorem tr_fin {e f : Int} {k : Nat} (h : (M6.mk 1 0 0 1 e f).pow (k + 1) = one) : e = 0 ∧ f = 0 := by
  rw [tr_pow] at h
  simp only [one, mk.injEq] at h
  obtain ⟨_, _, _, _, h5, h6⟩ := h
  rcases Int.mul_eq_zero.mp h5 with z | z
  · omega
  · rcases Int.mul_eq_zero.mp h6 with y | y
    · omega
    · exact ⟨z, y⟩
theorem finite {m : M6} (hm : m.Ok) {k : Nat} (h : m.pow (k + 1) = one) : ∃ j, 1 ≤ j ∧ j < 7 ∧ m.pow j = one := by
  obtain ⟨h1, h2, h3, h4⟩ := lin_pow m k
  rw [h] at h1 h2 h3 h4
  have scal : m.b = 0 → m.c = 0 → m.a = m.d → ∃ j, 1 ≤ j ∧ j < 7 ∧ m.pow j = one := by
    intro hb hc had
    have hdet : m.det = m.a * m.a := by unfold det; rw [hb, hc, ← had]; omega
    have ha : m.a = 1 ∨ m.a = -1 := by
      have sq : m.a * m.a = 1 := by
        rcases hm with z | z
        · omega
        · have : 0 ≤ m.a * m.a := by
            rcases Int.le_total 0 m.a with g | g
            · exact Int.mul_nonneg g g
            · exact Int.mul_nonneg_of_nonpos_of_nonpos g g
          omega
      have e : (m.a - 1) * (m.a + 1) = 0 := by grind
      rcases Int.mul_eq_zero.mp e with z | z
      · exact .inl (by omega)
      · exact .inr (by omega)
    rcases ha with ha | ha
    · have em : m = ⟨1, 0, 0, 1, m.e, m.f⟩ := by
        cases m; simp only at *; subst hb hc ha; rw [← had]
      rw [em] at h
      obtain ⟨z1, z2⟩ := tr_fin h
      exact ⟨1, by decide, by decide, by rw [pow_one, em, z1, z2]; rfl⟩
    · have em : m = ⟨-1, 0, 0, -1, m.e, m.f⟩ := by
        cases m; simp only at *; subst hb hc ha; rw [← had]
      refine ⟨2, by decide, by decide, ?_⟩
      rw [em]
      simp only [pow, comp, one, mk.injEq]
      refine ⟨by omega, by omega, by omega, by omega, by omega, by omega⟩
  by_cases hu : us (m.a + m.d) m.det (k + 1) = 0
  · rcases hm with hd | hd
    · have ht : ¬ (m.a + m.d ≤ -2 ∨ 2 ≤ m.a + m.d) := fun z => by
        have := us_far z k
        rw [hd] at hu
        rw [hu] at this
        omega
      rcases (show m.a + m.d = -1 ∨ m.a + m.d = 0 ∨ m.a + m.d = 1 by omega) with t | t | t
      · refine ⟨3, by decide, by decide, ?_⟩
        have e : m.d = -1 - m.a := by omega
        simp only [det] at hd
        rw [e] at hd
        simp only [pow, comp, one, mk.injEq]
        rw [e]
        refine ⟨?_, ?_, ?_, ?_, ?_, ?_⟩ <;> grind
      · refine ⟨4, by decide, by decide, ?_⟩
        have e : m.d = - m.a := by omega
        simp only [det] at hd
        rw [e] at hd
        simp only [pow, comp, one, mk.injEq]
        rw [e]
        refine ⟨?_, ?_, ?_, ?_, ?_, ?_⟩ <;> grind
      · refine ⟨6, by decide, by decide, ?_⟩
        have e : m.d = 1 - m.a := by omega
        simp only [det] at hd
        rw [e] at hd
        have p3 : m.pow 3 = ⟨-1, 0, 0, -1, (m.pow 3).e, (m.pow 3).f⟩ := by
          simp only [pow, comp, one, mk.injEq]
          rw [e]
          refine ⟨?_, ?_, ?_, ?_, trivial, trivial⟩ <;> grind
        have : m.pow 6 = (m.pow 3).comp (m.pow 3) := pow_add m 3 3
        rw [this, p3]
        simp only [comp, one, mk.injEq]
        refine ⟨by omega, by omega, by omega, by omega, by omega, by omega⟩
    · have ht : m.a + m.d = 0 := by
        by_cases z : m.a + m.d = 0
        · exact z
        · rw [hd] at hu
          exact absurd hu (us_neg z k).1
      have e : m.d = - m.a := by omega
      simp only [det] at hd
      rw [e] at hd
      have p2 : m.pow 2 = ⟨1, 0, 0, 1, (m.pow 2).e, (m.pow 2).f⟩ := by
        simp only [pow, comp, one, mk.injEq]
        rw [e]
        refine ⟨?_, ?_, ?_, ?_, trivial, trivial⟩ <;> grind
      refine ⟨2, by decide, by decide, ?_⟩
      have q : m.pow (2 * (k + 1)) = one := by
        rw [show 2 * (k + 1) = (k + 1) + (k + 1) by omega, pow_add, h]; rfl
      rw [← pow_sq] at q
      have e2 : m.comp m = m.pow 2 := by
        show m.comp m = (m.pow 1).comp m
        rw [pow_one]
      rw [e2, p2] at q
      obtain ⟨z1, z2⟩ := tr_fin q
      rw [p2, z1, z2]; rfl
  · simp only [one] at h1 h2 h3 h4
    have hb : m.b = 0 := by
      rcases Int.mul_eq_zero.mp h2.symm with z | z
      · exact absurd z hu
      · exact z
    have hc : m.c = 0 := by
      rcases Int.mul_eq_zero.mp h3.symm with z | z
      · exact absurd z hu
      · exact z
    refine scal hb hc ?_
    have e : us (m.a + m.d) m.det (k + 1) * (m.a - m.d) = 0 := by
      rw [Int.mul_sub]; omega
    rcases Int.mul_eq_zero.mp e with z | z
    · exact absurd z hu
    · omega
theorem ord_12 {m : M6} (hm : m.Ok) : m.ordN 12 1 = m.ordN 6 1 := by
  by_cases h : ∃ j, 1 ≤ j ∧ j < 7 ∧ m.pow j = one
  · obtain ⟨j, h1, h2, h3⟩ := h
    exact ordN_more (n := 6) (p := 6) ⟨j, h1, by omega, h3⟩
  · rw [ordN_none, ordN_none]
    · intro j h1 h2 e
      exact h ⟨j, h1, by omega, e⟩
    · intro j h1 h2 e
      obtain ⟨i, rfl⟩ : ∃ i, j = i + 1 := ⟨j - 1, by omega⟩
      exact h (finite hm e)
/-! sizes -/
end M6
def MBd (n : Nat) (m : M6) : Prop := Bd n m.a ∧ Bd n m.b ∧ Bd n m.c ∧ Bd n m.d ∧ Bd n m.e ∧ Bd n m.f
theorem MBd.mono {n k : Nat} {m : M6} (h : MBd n m) (l : n ≤ k) : MBd k m := ⟨h.1.mono l, h.2.1.mono l, h.2.2.1.mono l, h.2.2.2.1.mono l, h.2.2.2.2.1.mono l, h.2.2.2.2.2.mono l⟩
theorem bd_lin {i j : Nat} {a b c d : Int} (h1 : Bd i a) (h2 : Bd j b) (h3 : Bd i c) (h4 : Bd j d) : Bd (i + j + 1) (a * b + c * d) := (h1.mul h2).add (h3.mul h4)
theorem MBd.comp {i j : Nat} {m n : M6} (h : MBd i m) (k : MBd j n) : MBd (i + j + 2) (m.comp n) := by
  obtain ⟨a1, b1, c1, d1, e1, f1⟩ := h
  obtain ⟨a2, b2, c2, d2, e2, f2⟩ := k
  refine ⟨(bd_lin a2 a1 b2 c1).mono (by omega), (bd_lin a2 b1 b2 d1).mono (by omega), (bd_lin c2 a1 d2 c1).mono (by omega), (bd_lin c2 b1 d2 d1).mono (by omega), ?_, ?_⟩
  · exact (((bd_lin a2 e1 b2 f1).mono (by omega : _ ≤ i + j + 1)).add (e2.mono (by omega))).mono (by omega)
  · exact (((bd_lin c2 e1 d2 f1).mono (by omega : _ ≤ i + j + 1)).add (f2.mono (by omega))).mono (by omega)
theorem bd_one : ∀ {n : Nat}, MBd (n + 1) M6.one := by
  intro n
  have h : MBd 1 M6.one := by
    unfold MBd Bd M6.one; decide
  exact h.mono (by omega)
theorem Bd.det {n : Nat} {m : M6} (h : m.Ok) : Bd 1 m.det := by
  rcases h with z | z <;> rw [z] <;> (unfold Bd; decide)
theorem MBd.inv {n : Nat} {m : M6} (o : m.Ok) (h : MBd n m) : MBd (2 * n + 2) m.inv := by
  obtain ⟨a1, b1, c1, d1, e1, f1⟩ := h
  have hd := Bd.det (n := n) o
  have hn := hd.neg
  refine ⟨(hd.mul d1).mono (by omega), (hn.mul b1).mono (by omega), (hn.mul c1).mono (by omega), (hd.mul a1).mono (by omega), ?_, ?_⟩
  · exact ((bd_lin (hd.mul d1) e1 (hn.mul b1) f1).neg).mono (by omega)
  · exact ((bd_lin (hn.mul c1) e1 (hd.mul a1) f1).neg).mono (by omega)
theorem MBd.pow {n : Nat} {m : M6} (h : MBd n m) : ∀ k, MBd (k * (n + 2) + 1) (m.pow k)
  | 0 => bd_one
  | k + 1 => ((MBd.pow h k).comp h).mono (by rw [Nat.succ_mul]; omega)
/-! ### grid maps in the heap -/
def GmAt (K : PySem.W.Frag) (H : Hp) (v : V) (m : M6) : Prop := ∃ a dx t, v = .ref a ∧ H a = some (.ins (He.ga K "GridMap") dx [("six", .ref t)]) ∧ SqT K H t m.vals
theorem GmAt.same {K : PySem.W.Frag} {H H' : Hp} {v : V} {m : M6} (h : GmAt K H v m) (s : Same H H') : GmAt K H' v m := by
  obtain ⟨a, dx, t, rfl, h1, h2⟩ := h
  exact ⟨a, dx, t, rfl, s _ _ h1, sqT_same s h2⟩
theorem GmAt.kp {K : PySem.W.Frag} {H H' : Hp} {v : V} {m : M6} {l : Addr} (h : GmAt K H v m) (k : Kp l H H') (d : DrAt H l) : GmAt K H' v m := by
  obtain ⟨a, dx, t, rfl, h1, h2⟩ := h
  obtain ⟨x, y, e, _⟩ := d
  exact ⟨a, dx, t, rfl, k _ _ (ne_of h1 e (by intro z; cases z)) h1, sqT_kp k ⟨_, e⟩ h2⟩
theorem hds_vals {K : PySem.W.Frag} {H : Hp} (m : M6) : Hds K H m.vals m.nums := hds_ints m.nums
theorem hd_six {K : PySem.W.Frag} {H : Hp} {t : Addr} {m : M6} (h : SqT K H t m.vals) : Hd K H (.ref t) (⟨m.nums⟩ : PySem.W.Tup Int) := hd_tup h (hds_vals m)
theorem nums_iff {m n : M6} : ((⟨m.nums⟩ : PySem.W.Tup Int) = ⟨n.nums⟩) ↔ m = n := ⟨fun h => M6.ext' (PySem.W.Tup.mk.inj h), fun h => by rw [h]⟩
theorem dec_nums {m n : M6} : decide ((⟨m.nums⟩ : PySem.W.Tup Int) = ⟨n.nums⟩) = decide (m = n) := decide_eq_decide.mpr nums_iff
end G
namespace G
open PySem PySem.Spec PyProof.Rows L2
theorem GmAt.of {K : PySem.W.Frag} {H : Hp} {v : V} {m : M6} (h : GmAt K H v m) : ∃ a dx t, v = .ref a ∧ H a = some (.ins (He.ga K "GridMap") dx [("six", .ref t)]) ∧ SqT K H t [.int m.a, .int m.b, .int m.c, .int m.d, .int m.e, .int m.f] := h
end G

/-! ### a path that goes right below the axis and back above it has no crossings -/
namespace G
open PySem PySem.Spec PyProof.Rows L2
/-- four points: the sides weigh them to nothing -/
theorem four1 (a b c d : Pt) : trn c d b * a.1 - trn c d a * b.1 + trn a b d * c.1 - trn a b c * d.1 = 0 := by
  unfold trn crs dif; grind
theorem four2 (a b c d : Pt) : trn c d b * a.2 - trn c d a * b.2 + trn a b d * c.2 - trn a b c * d.2 = 0 := by
  unfold trn crs dif; grind
theorem four0 (a b c d : Pt) : trn c d b - trn c d a + trn a b d - trn a b c = 0 := by
  unfold trn crs dif; grind
theorem nonpos_mul {t f : Int} (ht : 0 < t) (hf : f ≤ 0) : t * f ≤ 0 ∧ (t * f = 0 → f = 0) := by
  constructor
  · exact Int.mul_nonpos_of_nonneg_of_nonpos (by omega) hf
  · intro h
    rcases Int.mul_eq_zero.mp h with z | z <;> omega
theorem sep0 {ta tb tc td fa fb fc fd : Int} (h1 : tb * fa - ta * fb + td * fc - tc * fd = 0) (h2 : tb - ta + td - tc = 0) (p1 : ta * tb < 0) (p2 : tc * td < 0) (sa : fa ≤ 0) (sb : fb ≤ 0) (sc : 0 ≤ fc) (sd : 0 ≤ fd) : fa = 0 ∧ fb = 0 ∧ fc = 0 ∧ fd = 0 := by
  have n1 : ta ≠ 0 := fun z => by rw [z, Int.zero_mul] at p1; omega
  have n2 : tb ≠ 0 := fun z => by rw [z, Int.mul_zero] at p1; omega
  have n3 : tc ≠ 0 := fun z => by rw [z, Int.zero_mul] at p2; omega
  have n4 : td ≠ 0 := fun z => by rw [z, Int.mul_zero] at p2; omega
  have o1 : (0 < ta ∧ tb < 0) ∨ (ta < 0 ∧ 0 < tb) := by
    rcases Int.lt_or_lt_of_ne n1 with x | x <;> rcases Int.lt_or_lt_of_ne n2 with y | y
    · have := Int.mul_pos_of_neg_of_neg x y; omega
    · exact .inr ⟨x, y⟩
    · exact .inl ⟨x, y⟩
    · have := Int.mul_pos x y; omega
  have o2 : (0 < tc ∧ td < 0) ∨ (tc < 0 ∧ 0 < td) := by
    rcases Int.lt_or_lt_of_ne n3 with x | x <;> rcases Int.lt_or_lt_of_ne n4 with y | y
    · have := Int.mul_pos_of_neg_of_neg x y; omega
    · exact .inr ⟨x, y⟩
    · exact .inl ⟨x, y⟩
    · have := Int.mul_pos x y; omega
  have key : ∀ {ta tb tc td : Int}, tb * fa - ta * fb + td * fc - tc * fd = 0 → ta < 0 → 0 < tb → 0 < tc → td < 0 → fa = 0 ∧ fb = 0 ∧ fc = 0 ∧ fd = 0 := by
    intro ta tb tc td h1 x1 x2 x3 x4
    obtain ⟨a1, a2⟩ := nonpos_mul x2 sa
    obtain ⟨b1, b2⟩ := nonpos_mul (show 0 < -ta by omega) sb
    obtain ⟨c1, c2⟩ := nonpos_mul (show 0 < -td by omega) (show -fc ≤ 0 by omega)
    obtain ⟨d1, d2⟩ := nonpos_mul x3 (show -fd ≤ 0 by omega)
    rw [Int.neg_mul] at b1 b2
    rw [Int.neg_mul_neg] at c1 c2
    rw [Int.mul_neg] at d1 d2
    have z1 := a2 (by omega)
    have z2 := b2 (by omega)
    have z3 := c2 (by omega)
    have z4 := d2 (by omega)
    omega
  rcases o1 with ⟨x1, x2⟩ | ⟨x1, x2⟩
  · rcases o2 with ⟨y1, y2⟩ | ⟨y1, y2⟩
    · omega
    · refine key (ta := -ta) (tb := -tb) (tc := -tc) (td := -td) ?_ (by omega) (by omega) (by omega) (by omega)
      simp only [Int.neg_mul]; omega
  · rcases o2 with ⟨y1, y2⟩ | ⟨y1, y2⟩
    · exact key h1 x1 x2 y1 y2
    · omega
theorem sepk {ta tb tc td fa fb fc fd k : Int} (h1 : tb * fa - ta * fb + td * fc - tc * fd = 0) (h2 : tb - ta + td - tc = 0) (p1 : ta * tb < 0) (p2 : tc * td < 0) (sa : fa ≤ k) (sb : fb ≤ k) (sc : k ≤ fc) (sd : k ≤ fd) : fa = k ∧ fb = k ∧ fc = k ∧ fd = k := by
  have h3 : tb * (fa - k) - ta * (fb - k) + td * (fc - k) - tc * (fd - k) = 0 := by
    have e : tb * (fa - k) - ta * (fb - k) + td * (fc - k) - tc * (fd - k) = (tb * fa - ta * fb + td * fc - tc * fd) - (tb - ta + td - tc) * k := by grind
    rw [e, h1, h2]; omega
  have := sep0 h3 h2 p1 p2 (by omega) (by omega) (by omega) (by omega)
  omega
theorem on_box {p a b : Pt} (h : onS p a b = true) : trn a b p = 0 ∧ min a.1 b.1 ≤ p.1 ∧ p.1 ≤ max a.1 b.1 ∧ min a.2 b.2 ≤ p.2 ∧ p.2 ≤ max a.2 b.2 := by
  unfold onS btw btw1 at h
  simp only [Bool.and_eq_true, decide_eq_true_eq] at h
  omega
theorem meet_cases {a b c d : Pt} (h : meetS a b c d = true) : (trn c d a * trn c d b < 0 ∧ trn a b c * trn a b d < 0) ∨ onS c a b = true ∨ onS d a b = true ∨ onS a c d = true ∨ onS b c d = true := by
  unfold meetS at h
  simp only [Bool.or_eq_true, Bool.and_eq_true, decide_eq_true_eq] at h
  rcases h with ⟨h1, h2⟩ | h | h | h | h
  · exact .inl ⟨h2, h1⟩
  · exact .inr (.inl h)
  · exact .inr (.inr (.inl h))
  · exact .inr (.inr (.inr (.inl h)))
  · exact .inr (.inr (.inr (.inr h)))
/-- the one is left of the other -/
theorem meet_left {a b c d : Pt} (h : a.1 < c.1 ∧ a.1 < d.1 ∧ b.1 < c.1 ∧ b.1 < d.1) : meetS a b c d = false := by
  cases e : meetS a b c d with
  | false => rfl
  | true =>
    rcases meet_cases e with ⟨h1, h2⟩ | h1 | h1 | h1 | h1
    · have := sepk (k := max a.1 b.1) (four1 a b c d) (four0 a b c d) h1 h2 (by omega) (by omega) (by omega) (by omega)
      omega
    all_goals
      have := on_box h1
      omega
theorem meet_right {a b c d : Pt} (h : c.1 < a.1 ∧ c.1 < b.1 ∧ d.1 < a.1 ∧ d.1 < b.1) : meetS a b c d = false := by
  cases e : meetS a b c d with
  | false => rfl
  | true =>
    rcases meet_cases e with ⟨h1, h2⟩ | h1 | h1 | h1 | h1
    · have f1 := four1 a b c d
      have f0 := four0 a b c d
      have := sepk (ta := trn a b c) (tb := trn a b d) (tc := trn c d a) (td := trn c d b) (fa := c.1) (fb := d.1) (fc := a.1) (fd := b.1) (k := max c.1 d.1) (by omega) (by omega) h2 h1 (by omega) (by omega) (by omega) (by omega)
      omega
    all_goals
      have := on_box h1
      omega
/-- ps: corner 0 and corner m + 1 on the axis, 1 .. m below it, going right; the others above it, going left -/
structure Mono (ps : List Pt) (m : Nat) : Prop where
  hm : 1 ≤ m
  hn : m + 2 ≤ ps.length
  y0 : (atC ps 0).2 = 0
  yR : (atC ps (m + 1)).2 = 0
  yb : ∀ i, 1 ≤ i → i ≤ m → (atC ps i).2 < 0
  ya : ∀ i, m + 2 ≤ i → i < ps.length → 0 < (atC ps i).2
  xl : ∀ i j, i < j → j ≤ m + 1 → (atC ps i).1 < (atC ps j).1
  xu : ∀ i j, m + 1 ≤ i → i < j → j < ps.length → (atC ps j).1 < (atC ps i).1
  x0 : ∀ i, 1 ≤ i → i < ps.length → (atC ps 0).1 < (atC ps i).1
theorem nxt_in {ps : List Pt} {i : Nat} (h : i + 1 < ps.length) : nxt ps i = atC ps (i + 1) := by
  unfold nxt; rw [Nat.mod_eq_of_lt h]
theorem nxt_last {ps : List Pt} {i : Nat} (h : i + 1 = ps.length) : nxt ps i = atC ps 0 := by
  unfold nxt; rw [h, Nat.mod_self]
theorem trn_00 {a b c : Pt} (h1 : a.2 = 0) (h2 : c.2 = 0) (h : trn a b c = 0) : b.2 = 0 ∨ a.1 = c.1 := by
  have e : trn a b c = -(b.2 * (c.1 - a.1)) := by
    unfold trn crs dif
    show (b.1 - a.1) * (c.2 - b.2) - (b.2 - a.2) * (c.1 - b.1) = _
    rw [h1, h2]; grind
  rw [e] at h
  rcases Int.mul_eq_zero.mp (show b.2 * (c.1 - a.1) = 0 by omega) with z | z <;> omega
theorem trn_0b {a b c : Pt} (h1 : b.2 = 0) (h2 : c.2 = 0) (h : trn a b c = 0) : a.2 = 0 ∨ b.1 = c.1 := by
  have e : trn a b c = a.2 * (c.1 - b.1) := by
    unfold trn crs dif
    show (b.1 - a.1) * (c.2 - b.2) - (b.2 - a.2) * (c.1 - b.1) = _
    rw [h1, h2]; grind
  rw [e] at h
  rcases Int.mul_eq_zero.mp h with z | z <;> omega
theorem Mono.cross {ps : List Pt} {m : Nat} (M : Mono ps m) {i j : Nat} (hij : i + 2 ≤ j) (hj : j < ps.length) : crossB ps i j = false := by
  unfold crossB
  by_cases hc : (j + 1) % ps.length = i
  · rw [decide_eq_false (by omega), Bool.false_and]
  rw [decide_eq_true hc, Bool.true_and]
  have hn := M.hn
  have hm := M.hm
  have hi1 : nxt ps i = atC ps (i + 1) := nxt_in (by omega)
  by_cases hjm : j ≤ m
  · -- both below
    rw [hi1, nxt_in (by omega)]
    refine meet_left ⟨M.xl _ _ (by omega) (by omega), M.xl _ _ (by omega) (by omega), M.xl _ _ (by omega) (by omega), M.xl _ _ (by omega) (by omega)⟩
  by_cases him : m + 1 ≤ i
  · -- both above
    rw [hi1]
    rcases Nat.lt_or_ge (j + 1) ps.length with h | h
    · rw [nxt_in h]
      exact meet_right ⟨M.xu _ _ (by omega) (by omega) (by omega), M.xu _ _ (by omega) (by omega) (by omega), M.xu _ _ (by omega) (by omega) (by omega), M.xu _ _ (by omega) (by omega) (by omega)⟩
    · rw [nxt_last (by omega)]
      exact meet_right ⟨M.xu _ _ (by omega) (by omega) (by omega), M.xu _ _ (by omega) (by omega) (by omega), M.x0 _ (by omega) (by omega), M.x0 _ (by omega) (by omega)⟩
  -- the first below, the second above
  have ya2 : (atC ps i).2 ≤ 0 ∧ ((atC ps i).2 = 0 → i = 0) := by
    rcases Nat.eq_zero_or_pos i with h | h
    · subst h; have := M.y0; omega
    · have := M.yb i h (by omega); omega
  have yb2 : (atC ps (i + 1)).2 ≤ 0 ∧ ((atC ps (i + 1)).2 = 0 → i = m) := by
    rcases Nat.lt_or_ge i m with h | h
    · have := M.yb (i + 1) (by omega) (by omega); omega
    · obtain rfl : i = m := by omega
      have := M.yR; omega
  have yc2 : 0 ≤ (atC ps j).2 ∧ ((atC ps j).2 = 0 → j = m + 1) := by
    rcases Nat.lt_or_ge j (m + 2) with h | h
    · obtain rfl : j = m + 1 := by omega
      have := M.yR; omega
    · have := M.ya j h hj; omega
  have yd2 : 0 ≤ (nxt ps j).2 ∧ ((nxt ps j).2 = 0 → j + 1 = ps.length ∧ nxt ps j = atC ps 0) := by
    rcases Nat.lt_or_ge (j + 1) ps.length with h | h
    · rw [nxt_in h]
      have := M.ya (j + 1) (by omega) h; omega
    · rw [nxt_last (by omega)]
      have := M.y0
      exact ⟨by omega, fun _ => ⟨by omega, rfl⟩⟩
  have wrap : j + 1 = ps.length → i ≠ 0 := fun h z => hc (by rw [h, Nat.mod_self, z])
  rw [hi1]
  cases e : meetS (atC ps i) (atC ps (i + 1)) (atC ps j) (nxt ps j) with
  | false => rfl
  | true =>
    exfalso
    rcases meet_cases e with ⟨h1, h2⟩ | h1 | h1 | h1 | h1
    · have := sepk (k := 0) (four2 _ _ _ _) (four0 _ _ _ _) h1 h2 ya2.1 yb2.1 yc2.1 yd2.1
      have := ya2.2 this.1
      have := yb2.2 (by omega)
      omega
    · have b := on_box h1
      have c0 := yc2.2 (by omega)
      rcases (show (atC ps i).2 = 0 ∨ (atC ps (i + 1)).2 = 0 by omega) with z | z
      · have i0 := ya2.2 z
        rcases trn_00 z (by omega) b.1 with w | w
        · have := yb2.2 w; omega
        · have := M.x0 j (by omega) hj
          rw [i0] at w; omega
      · have := yb2.2 z; omega
    · have b := on_box h1
      obtain ⟨d1, d2⟩ := yd2.2 (by omega)
      have nz := wrap d1
      rcases (show (atC ps i).2 = 0 ∨ (atC ps (i + 1)).2 = 0 by omega) with z | z
      · exact nz (ya2.2 z)
      · have im := yb2.2 z
        rcases trn_0b z (by omega) b.1 with w | w
        · exact nz (ya2.2 w)
        · have := M.x0 (i + 1) (by omega) (by omega)
          rw [d2] at w; omega
    · have b := on_box h1
      have i0 := ya2.2 (by omega)
      rcases (show (atC ps j).2 = 0 ∨ (nxt ps j).2 = 0 by omega) with z | z
      · have jm := yc2.2 z
        rcases trn_00 z (by omega) b.1 with w | w
        · exact wrap (yd2.2 w).1 i0
        · have := M.x0 j (by omega) hj
          rw [i0] at w; omega
      · exact wrap (yd2.2 z).1 i0
    · have b := on_box h1
      have im := yb2.2 (by omega)
      rcases (show (atC ps j).2 = 0 ∨ (nxt ps j).2 = 0 by omega) with z | z
      · have := yc2.2 z; omega
      · obtain ⟨d1, d2⟩ := yd2.2 z
        rcases trn_0b z (by omega) b.1 with w | w
        · have := yc2.2 w; omega
        · have := M.x0 (i + 1) (by omega) (by omega)
          rw [d2] at w; omega
theorem Mono.good {ps : List Pt} {m : Nat} (M : Mono ps m) (h : NoDeg ps) : Good ps := ⟨h, fun _ _ h1 h2 => M.cross h1 h2⟩
end G

/-! ### leaving out corners on a line -/
namespace G
open PySem PySem.Spec PyProof.Rows L2
def shp (L R : Pt) (B A : List Pt) : List Pt := L :: B ++ R :: A
structure ML (L R : Pt) (B A : List Pt) : Prop where
  y0 : L.2 = 0
  yR : R.2 = 0
  hB : B ≠ []
  yb : ∀ p ∈ B, p.2 < 0
  ya : ∀ p ∈ A, 0 < p.2
  xl : (L :: B ++ [R]).Pairwise fun p q => p.1 < q.1
  xu : (R :: A ++ [L]).Pairwise fun p q => q.1 < p.1
theorem shp_len (L R : Pt) (B A : List Pt) : (shp L R B A).length = B.length + 2 + A.length := by
  unfold shp; simp; omega
theorem atC_shp0 (L R : Pt) (B A : List Pt) : atC (shp L R B A) 0 = L := rfl
theorem shp_left (L R : Pt) (B A : List Pt) {i : Nat} (h : i ≤ B.length + 1) : (shp L R B A)[i]? = (L :: B ++ [R])[i]? := by
  have e : shp L R B A = (L :: B ++ [R]) ++ A := by unfold shp; simp
  rw [e, List.getElem?_append_left (by simp; omega)]
theorem shp_right (L R : Pt) (B A : List Pt) {i : Nat} (h : B.length + 1 ≤ i) (h2 : i < B.length + 2 + A.length) : (shp L R B A)[i]? = (R :: A ++ [L])[i - (B.length + 1)]? := by
  unfold shp
  rw [List.getElem?_append_right (by simp; omega), List.getElem?_append_left (by simp; omega)]
  rfl
theorem pw_at {α : Type} {r : α → α → Prop} {l : List α} (h : l.Pairwise r) {i j : Nat} {x y : α} (hij : i < j) (hi : l[i]? = some x) (hj : l[j]? = some y) : r x y := by
  obtain ⟨h1, e1⟩ := List.getElem?_eq_some_iff.mp hi
  obtain ⟨h2, e2⟩ := List.getElem?_eq_some_iff.mp hj
  rw [← e1, ← e2]
  exact List.pairwise_iff_getElem.mp h i j h1 h2 hij
theorem ML.mono {L R : Pt} {B A : List Pt} (h : ML L R B A) : Mono (shp L R B A) B.length := by
  have hl := shp_len L R B A
  have hb : 1 ≤ B.length := by
    cases e : B with
    | nil => exact absurd e h.hB
    | cons b B => simp
  have atL : ∀ i, i ≤ B.length + 1 → (L :: B ++ [R])[i]? = some (atC (shp L R B A) i) := fun i hi => by
    rw [← shp_left L R B A hi]; exact atC_get (by omega)
  have atR : ∀ i, B.length + 1 ≤ i → i < B.length + 2 + A.length → (R :: A ++ [L])[i - (B.length + 1)]? = some (atC (shp L R B A) i) := fun i h1 h2 => by
    rw [← shp_right L R B A h1 h2]; exact atC_get (by omega)
  have lastL : (R :: A ++ [L])[A.length + 1]? = some L := by
    rw [List.getElem?_append_right (by simp)]; simp
  refine ⟨hb, by omega, h.y0, ?_, fun i h1 h2 => ?_, fun i h1 h2 => ?_, fun i j hij hj => ?_, fun i j h1 hij hj => ?_, fun i h1 h2 => ?_⟩
  · have := atL (B.length + 1) (Nat.le_refl _)
    rw [List.getElem?_append_right (by simp)] at this
    simp at this
    rw [← this]; exact h.yR
  · have := atL i (by omega)
    rw [List.getElem?_append_left (by simp; omega)] at this
    obtain ⟨k, rfl⟩ : ∃ k, i = k + 1 := ⟨i - 1, by omega⟩
    rw [List.getElem?_cons_succ] at this
    exact h.yb _ (List.mem_of_getElem? this)
  · have := atR i (by omega) (by omega)
    rw [List.getElem?_append_left (by simp; omega)] at this
    obtain ⟨k, hk⟩ : ∃ k, i - (B.length + 1) = k + 1 := ⟨i - (B.length + 1) - 1, by omega⟩
    rw [hk, List.getElem?_cons_succ] at this
    exact h.ya _ (List.mem_of_getElem? this)
  · exact pw_at h.xl hij (atL i (by omega)) (atL j (by omega))
  · exact pw_at h.xu (show i - (B.length + 1) < j - (B.length + 1) by omega) (atR i (by omega) (by omega)) (atR j (by omega) (by omega))
  · rcases Nat.lt_or_ge i (B.length + 2) with z | z
    · exact pw_at h.xl (show 0 < i by omega) (atL 0 (by omega)) (atL i (by omega))
    · have := pw_at h.xu (show i - (B.length + 1) < A.length + 1 by omega) (atR i (by omega) (by omega)) lastL
      exact this
theorem prv_in {ps : List Pt} {i : Nat} (h0 : 0 < i) (h : i < ps.length) : prv ps i = atC ps (i - 1) := by
  unfold prv
  rw [show i + ps.length - 1 = (i - 1) + ps.length by omega, Nat.add_mod_right, Nat.mod_eq_of_lt (by omega)]
theorem prv_0 {ps : List Pt} (h : 0 < ps.length) : prv ps 0 = atC ps (ps.length - 1) := by
  unfold prv
  rw [Nat.zero_add, Nat.mod_eq_of_lt (by omega)]
theorem trn_b0 {a b c : Pt} (h : b.2 = 0) : trn a b c = (b.1 - a.1) * c.2 + a.2 * (c.1 - b.1) := by
  unfold trn crs dif
  show (b.1 - a.1) * (c.2 - b.2) - (b.2 - a.2) * (c.1 - b.1) = _
  rw [h]; grind
theorem trn_ac0 {a b c : Pt} (h1 : a.2 = 0) (h2 : c.2 = 0) : trn a b c = -(b.2 * (c.1 - a.1)) := by
  unfold trn crs dif
  show (b.1 - a.1) * (c.2 - b.2) - (b.2 - a.2) * (c.1 - b.1) = _
  rw [h1, h2]; grind
theorem Mono.tri0_0 {ps : List Pt} {m : Nat} (M : Mono ps m) : 0 < tri0 ps 0 := by
  have hm := M.hm
  have hn := M.hn
  unfold tri0
  rw [prv_0 (by omega), nxt_in (by omega), trn_b0 M.y0]
  have x1 := M.x0 (ps.length - 1) (by omega) (by omega)
  have x2 := M.x0 (0 + 1) (by omega) (by omega)
  have y1 := M.yb (0 + 1) (by omega) (by omega)
  have y2 : 0 ≤ (atC ps (ps.length - 1)).2 := by
    rcases Nat.lt_or_ge (ps.length - 1) (m + 2) with z | z
    · have e : ps.length - 1 = m + 1 := by omega
      rw [e, M.yR]; exact Int.le_refl _
    · exact Int.le_of_lt (M.ya _ z (by omega))
  have p1 : 0 < ((atC ps 0).1 - (atC ps (ps.length - 1)).1) * (atC ps (0 + 1)).2 := Int.mul_pos_of_neg_of_neg (by omega) y1
  have p2 : 0 ≤ (atC ps (ps.length - 1)).2 * ((atC ps (0 + 1)).1 - (atC ps 0).1) := Int.mul_nonneg y2 (by omega)
  omega
theorem Mono.tri0_R {ps : List Pt} {m : Nat} (M : Mono ps m) : 0 < tri0 ps (m + 1) := by
  have hm := M.hm
  have hn := M.hn
  unfold tri0
  rw [prv_in (by omega) (by omega), trn_b0 M.yR]
  have e : m + 1 - 1 = m := by omega
  rw [e]
  have x1 := M.xl m (m + 1) (by omega) (by omega)
  have y1 := M.yb m hm (by omega)
  have nx : 0 ≤ (nxt ps (m + 1)).2 ∧ (nxt ps (m + 1)).1 < (atC ps (m + 1)).1 := by
    rcases Nat.lt_or_ge (m + 1 + 1) ps.length with z | z
    · rw [nxt_in z]
      exact ⟨Int.le_of_lt (M.ya _ (by omega) z), M.xu _ _ (by omega) (by omega) z⟩
    · rw [nxt_last (by omega), M.y0]
      exact ⟨Int.le_refl _, M.x0 _ (by omega) (by omega)⟩
  have p1 : 0 ≤ ((atC ps (m + 1)).1 - (atC ps m).1) * (nxt ps (m + 1)).2 := Int.mul_nonneg (by omega) nx.1
  have p2 : 0 < (atC ps m).2 * ((nxt ps (m + 1)).1 - (atC ps (m + 1)).1) := Int.mul_pos_of_neg_of_neg y1 (by omega)
  omega
theorem Mono.tri0_1 {ps : List Pt} (M : Mono ps 1) : 0 < tri0 ps 1 := by
  have hn := M.hn
  unfold tri0
  rw [prv_in (by omega) (by omega), nxt_in (by omega)]
  rw [trn_ac0 M.y0 M.yR]
  have y1 := M.yb 1 (by omega) (by omega)
  have x1 := M.x0 (1 + 1) (by omega) (by omega)
  have p : (atC ps 1).2 * ((atC ps (1 + 1)).1 - (atC ps 0).1) < 0 := Int.mul_neg_of_neg_of_pos y1 (by omega)
  omega
theorem ML.erase {L R : Pt} {B A : List Pt} {i : Nat} (h : ML L R B A) (hi : i < (shp L R B A).length) (hz : tri0 (shp L R B A) i = 0) :
    ∃ B' A', (shp L R B A).take i ++ (shp L R B A).drop (i + 1) = shp L R B' A' ∧ ML L R B' A' ∧ (∀ p ∈ B', p ∈ B) ∧ ∀ p ∈ A', p ∈ A := by
  have M := h.mono
  have hl := shp_len L R B A
  have n0 : i ≠ 0 := fun z => by subst z; have := M.tri0_0; omega
  have nR : i ≠ B.length + 1 := fun z => by subst z; have := M.tri0_R; omega
  have n1 : ¬ (B.length = 1 ∧ i = 1) := fun ⟨z1, z2⟩ => by
    subst z2; rw [z1] at M; have := M.tri0_1; omega
  rw [← List.eraseIdx_eq_take_drop_succ]
  obtain ⟨k, rfl⟩ : ∃ k, i = k + 1 := ⟨i - 1, by omega⟩
  rcases Nat.lt_or_ge k B.length with hk | hk
  · refine ⟨B.eraseIdx k, A, ?_, ⟨h.y0, h.yR, ?_, fun p hp => h.yb p (List.mem_of_mem_eraseIdx hp), h.ya, ?_, h.xu⟩, fun p hp => List.mem_of_mem_eraseIdx hp, fun p hp => hp⟩
    · unfold shp
      rw [List.cons_append, List.eraseIdx_cons_succ, List.eraseIdx_append_of_lt_length hk]
      rfl
    · intro z
      have := List.length_eraseIdx_of_lt hk
      rw [z] at this
      simp at this
      omega
    · refine h.xl.sublist ?_
      exact ((List.eraseIdx_sublist B k).append (List.Sublist.refl [R])).cons₂ L
  · obtain ⟨j, hj⟩ : ∃ j, k = B.length + 1 + j := ⟨k - (B.length + 1), by omega⟩
    refine ⟨B, A.eraseIdx j, ?_, ⟨h.y0, h.yR, h.hB, h.yb, fun p hp => h.ya p (List.mem_of_mem_eraseIdx hp), h.xl, ?_⟩, fun p hp => hp, fun p hp => List.mem_of_mem_eraseIdx hp⟩
    · unfold shp
      rw [List.cons_append, List.eraseIdx_cons_succ, List.eraseIdx_append_of_length_le (by omega)]
      have e : k - B.length = j + 1 := by omega
      rw [e, List.eraseIdx_cons_succ]
      rfl
    · refine h.xu.sublist ?_
      exact ((List.eraseIdx_sublist A j).append (List.Sublist.refl [L])).cons₂ R
end G

/-! ### maps keep turns, meetings, areas -/
namespace G
open PySem PySem.Spec PyProof.Rows L2
theorem trn_img (m : M6) (a b c : Pt) : trn (m.img a) (m.img b) (m.img c) = m.det * trn a b c := by
  unfold trn crs dif M6.img M6.det; grind
theorem crs_dif (a b c : Pt) : trn a b c = crs a b + crs b c - crs a c := by
  unfold trn crs dif; grind
/-- a point of a segment: weights -/
theorem on_iff {p a b : Pt} : onS p a b = true ↔ ∃ s t : Int, 0 ≤ s ∧ 0 ≤ t ∧ 0 < s + t ∧ (s + t) * p.1 = s * a.1 + t * b.1 ∧ (s + t) * p.2 = s * a.2 + t * b.2 := by
  constructor
  · intro h
    obtain ⟨h0, h1, h2, h3, h4⟩ := on_box h
    have e0 : (b.1 - a.1) * (p.2 - b.2) - (b.2 - a.2) * (p.1 - b.1) = 0 := h0
    by_cases hx : a.1 = b.1
    · by_cases hy : a.2 = b.2
      · exact ⟨1, 0, by decide, by decide, by decide, by omega, by omega⟩
      · have hp : p.1 = a.1 := by omega
        rcases Int.lt_or_lt_of_ne hy with z | z
        · refine ⟨b.2 - p.2, p.2 - a.2, by omega, by omega, by omega, ?_, ?_⟩
          · rw [hp, ← hx]; grind
          · grind
        · refine ⟨p.2 - b.2, a.2 - p.2, by omega, by omega, by omega, ?_, ?_⟩
          · rw [hp, ← hx]; grind
          · grind
    · rcases Int.lt_or_lt_of_ne hx with z | z
      · refine ⟨b.1 - p.1, p.1 - a.1, by omega, by omega, by omega, ?_, ?_⟩
        · grind
        · grind
      · refine ⟨p.1 - b.1, a.1 - p.1, by omega, by omega, by omega, ?_, ?_⟩
        · grind
        · grind
  · rintro ⟨s, t, hs, ht, hst, e1, e2⟩
    have key : ∀ x l h : Int, (s + t) * x = s * l + t * h → min l h ≤ x ∧ x ≤ max l h := by
      intro x l h e
      have lo : 0 ≤ s * (l - min l h) + t * (h - min l h) := Int.add_nonneg (Int.mul_nonneg hs (by omega)) (Int.mul_nonneg ht (by omega))
      have hi : 0 ≤ s * (max l h - l) + t * (max l h - h) := Int.add_nonneg (Int.mul_nonneg hs (by omega)) (Int.mul_nonneg ht (by omega))
      have l2 : s * (l - min l h) + t * (h - min l h) = (s + t) * (x - min l h) := by grind
      have h2 : s * (max l h - l) + t * (max l h - h) = (s + t) * (max l h - x) := by grind
      rw [l2] at lo
      rw [h2] at hi
      constructor
      · rcases Int.lt_or_le x (min l h) with z | z
        · have := Int.mul_neg_of_pos_of_neg hst (show x - min l h < 0 by omega); omega
        · exact z
      · rcases Int.lt_or_le (max l h) x with z | z
        · have := Int.mul_neg_of_pos_of_neg hst (show max l h - x < 0 by omega); omega
        · exact z
    have k1 := key _ _ _ e1
    have k2 := key _ _ _ e2
    have h0 : trn a b p = 0 := by
      have e : (s + t) * trn a b p = 0 := by
        unfold trn crs dif
        show (s + t) * ((b.1 - a.1) * (p.2 - b.2) - (b.2 - a.2) * (p.1 - b.1)) = 0
        grind
      rcases Int.mul_eq_zero.mp e with z | z <;> omega
    unfold onS btw btw1
    simp only [Bool.and_eq_true, decide_eq_true_eq]
    omega
theorem on_img1 (m : M6) {p a b : Pt} (h : onS p a b = true) : onS (m.img p) (m.img a) (m.img b) = true := by
  obtain ⟨s, t, hs, ht, hst, e1, e2⟩ := on_iff.mp h
  refine on_iff.mpr ⟨s, t, hs, ht, hst, ?_, ?_⟩
  · show (s + t) * (m.a * p.1 + m.b * p.2 + m.e) = s * (m.a * a.1 + m.b * a.2 + m.e) + t * (m.a * b.1 + m.b * b.2 + m.e)
    grind
  · show (s + t) * (m.c * p.1 + m.d * p.2 + m.f) = s * (m.c * a.1 + m.d * a.2 + m.f) + t * (m.c * b.1 + m.d * b.2 + m.f)
    grind
theorem img_comp (m n : M6) (p : Pt) : (m.comp n).img p = n.img (m.img p) := by
  unfold M6.comp M6.img
  refine Prod.ext ?_ ?_
  · show _ = n.a * (m.a * p.1 + m.b * p.2 + m.e) + n.b * (m.c * p.1 + m.d * p.2 + m.f) + n.e
    grind
  · show _ = n.c * (m.a * p.1 + m.b * p.2 + m.e) + n.d * (m.c * p.1 + m.d * p.2 + m.f) + n.f
    grind
theorem img_one (p : Pt) : M6.one.img p = p := by
  unfold M6.one M6.img
  refine Prod.ext ?_ ?_
  · show 1 * p.1 + 0 * p.2 + 0 = p.1; omega
  · show 0 * p.1 + 1 * p.2 + 0 = p.2; omega
theorem img_inv {m : M6} (h : m.Ok) (p : Pt) : m.inv.img (m.img p) = p := by
  rw [← img_comp, M6.comp_inv h, img_one]
theorem img_inv' {m : M6} (h : m.Ok) (p : Pt) : m.img (m.inv.img p) = p := by
  rw [← img_comp, M6.inv_comp h, img_one]
theorem img_inj {m : M6} (h : m.Ok) {p q : Pt} (e : m.img p = m.img q) : p = q := by
  rw [← img_inv h p, e, img_inv h]
theorem on_img {m : M6} (h : m.Ok) (p a b : Pt) : onS (m.img p) (m.img a) (m.img b) = onS p a b := by
  rw [Bool.eq_iff_iff]
  refine ⟨fun z => ?_, on_img1 m⟩
  have := on_img1 m.inv z
  rwa [img_inv h, img_inv h, img_inv h] at this
theorem meet_img {m : M6} (h : m.Ok) (a b c d : Pt) : meetS (m.img a) (m.img b) (m.img c) (m.img d) = meetS a b c d := by
  have key : ∀ x y : Int, m.det * x * (m.det * y) = x * y := fun x y => by
    have e : m.det * x * (m.det * y) = m.det * m.det * (x * y) := by grind
    rw [e, M6.ok_sq h, Int.one_mul]
  unfold meetS
  rw [on_img h, on_img h, on_img h, on_img h, trn_img, trn_img, trn_img, trn_img, key, key]
theorem at_map (f : Pt → Pt) {ps : List Pt} {i : Nat} (h : i < ps.length) : atC (ps.map f) i = f (atC ps i) := by
  refine atC_of ?_
  rw [List.getElem?_map, atC_get h]; rfl
theorem nxt_map (f : Pt → Pt) {ps : List Pt} {i : Nat} (h : 0 < ps.length) : nxt (ps.map f) i = f (nxt ps i) := by
  unfold nxt
  rw [List.length_map]
  exact at_map f (Nat.mod_lt _ h)
theorem prv_map (f : Pt → Pt) {ps : List Pt} {i : Nat} (h : 0 < ps.length) : prv (ps.map f) i = f (prv ps i) := by
  unfold prv
  rw [List.length_map]
  exact at_map f (Nat.mod_lt _ h)
theorem tri_img (m : M6) {ps : List Pt} {i : Nat} (hi : i < ps.length) : tri0 (ps.map m.img) i = m.det * tri0 ps i := by
  unfold tri0
  rw [at_map _ hi, nxt_map _ (by omega), prv_map _ (by omega), trn_img]
theorem cross_img {m : M6} (h : m.Ok) {ps : List Pt} {i j : Nat} (hi : i < ps.length) (hj : j < ps.length) : crossB (ps.map m.img) i j = crossB ps i j := by
  unfold crossB
  rw [at_map _ hi, at_map _ hj, nxt_map _ (by omega), nxt_map _ (by omega), meet_img h, List.length_map]
theorem good_img {m : M6} (h : m.Ok) {ps : List Pt} (g : Good ps) : Good (ps.map m.img) := by
  constructor
  · intro i hi z
    rw [List.length_map] at hi
    rw [tri_img m hi] at z
    rcases Int.mul_eq_zero.mp z with w | w
    · rcases h with h | h <;> omega
    · exact g.1 i hi w
  · intro i j hij hj
    rw [List.length_map] at hj
    rw [cross_img h (by omega) hj]
    exact g.2 i j hij hj
theorem are_img (m : M6) : ∀ ps : List Pt, are (ps.map m.img) = m.det * are ps := by
  have key : ∀ l : List Pt, ∀ p q : Pt, pth ((p :: l ++ [q]).map m.img) = m.det * pth (p :: l ++ [q]) + (crsP (m.e, m.f) (m.img q) - crsP (m.e, m.f) (m.img p)) := by
    intro l
    induction l with
    | nil =>
      intro p q
      show crsP (m.img p) (m.img q) + 0 = m.det * (crsP p q + 0) + _
      unfold crsP M6.img M6.det; grind
    | cons x l ih =>
      intro p q
      have := ih x q
      show crsP (m.img p) (m.img x) + pth ((x :: l ++ [q]).map m.img) = m.det * (crsP p x + pth (x :: l ++ [q])) + _
      rw [this]
      have e : crsP (m.img p) (m.img x) = m.det * crsP p x + (crsP (m.e, m.f) (m.img x) - crsP (m.e, m.f) (m.img p)) := by
        unfold crsP M6.img M6.det; grind
      rw [e, Int.mul_add]; omega
  intro ps
  cases ps with
  | nil => show 0 = m.det * 0; omega
  | cons p l =>
    have := key l p p
    show pth (m.img p :: l.map m.img ++ [m.img p]) = m.det * pth (p :: l ++ [p])
    rw [List.map_append] at this
    rw [show m.img p :: l.map m.img ++ [m.img p] = (p :: l).map m.img ++ [p].map m.img from rfl, this]; omega
theorem PBd.img {n k : Nat} {m : M6} {p : Pt} (hm : MBd n m) (hp : PBd k p) : PBd (n + k + 2) (m.img p) := by
  obtain ⟨h1, h2, h3, h4, h5, h6⟩ := hm
  exact ⟨(bd_lin h1 hp.1 h2 hp.2).add (h5.mono (by omega)), (bd_lin h3 hp.1 h4 hp.2).add (h6.mono (by omega))⟩
end G

/-! ### beginning elsewhere, going the other way round: a simple path stays simple -/
namespace G
open PySem PySem.Spec PyProof.Rows L2
theorem trn_swap (a b c : Pt) : trn b a c = -trn a b c := by
  unfold trn crs dif; grind
theorem trn_back (a b c : Pt) : trn c b a = -trn a b c := by
  unfold trn crs dif; grind
theorem onS_swap (p a b : Pt) : onS p b a = onS p a b := onP_swap p a b
theorem meet_swap (a b c d : Pt) : meetS b a c d = meetS a b c d := by
  unfold meetS
  rw [onS_swap c a b, onS_swap d a b, trn_swap a b c, trn_swap a b d, Int.neg_mul_neg, Int.mul_comm (trn c d b)]
  cases onS a c d <;> cases onS b c d <;> simp
theorem meet_comm (a b c d : Pt) : meetS c d a b = meetS a b c d := by
  unfold meetS
  rw [Bool.and_comm]
  cases onS a c d <;> cases onS b c d <;> cases onS c a b <;> cases onS d a b <;> simp
/-- no two edges that are not neighbours meet -/
def Apart (ps : List Pt) : Prop := ∀ i j, i < ps.length → j < ps.length → i ≠ j → (i + 1) % ps.length ≠ j → (j + 1) % ps.length ≠ i → meetS (atC ps i) (nxt ps i) (atC ps j) (nxt ps j) = false
theorem mod_in {i n : Nat} (h : i + 1 < n) : (i + 1) % n = i + 1 := Nat.mod_eq_of_lt h
theorem mod_last {i n : Nat} (h : i + 1 = n) : (i + 1) % n = 0 := by rw [h, Nat.mod_self]
theorem good_iff {ps : List Pt} : Good ps ↔ NoDeg ps ∧ Apart ps := by
  constructor
  · rintro ⟨h1, h2⟩
    refine ⟨h1, ?_⟩
    have key : ∀ i j, i < j → j < ps.length → (i + 1) % ps.length ≠ j → (j + 1) % ps.length ≠ i → meetS (atC ps i) (nxt ps i) (atC ps j) (nxt ps j) = false := by
      intro i j hij hj n1 n2
      rw [mod_in (by omega)] at n1
      have := h2 i j (by omega) hj
      unfold crossB at this
      rwa [decide_eq_true n2, Bool.true_and] at this
    intro i j hi hj hne n1 n2
    rcases Nat.lt_or_gt_of_ne hne with z | z
    · exact key i j z hj n1 n2
    · rw [meet_comm]
      exact key j i z hi n2 n1
  · rintro ⟨h1, h2⟩
    refine ⟨h1, fun i j hij hj => ?_⟩
    unfold crossB
    by_cases hc : (j + 1) % ps.length = i
    · rw [decide_eq_false (by omega), Bool.false_and]
    · rw [decide_eq_true hc, Bool.true_and]
      exact h2 i j (by omega) hj (by omega) (by rw [mod_in (by omega)]; omega) hc
/-! beginning elsewhere -/
def shf (n k i : Nat) : Nat := if i + k < n then i + k else i + k - n
theorem at_rot {l : List Pt} {k i : Nat} (hk : k ≤ l.length) (hi : i < l.length) : atC (rot k l) i = atC l (shf l.length k i) := by
  unfold rot shf
  refine atC_of ?_
  by_cases h : i + k < l.length
  · rw [if_pos h, List.getElem?_append_left (by rw [List.length_drop]; omega), List.getElem?_drop, Nat.add_comm k i]
    exact atC_get h
  · rw [if_neg h, List.getElem?_append_right (by rw [List.length_drop]; omega), List.length_drop, List.getElem?_take_of_lt (by omega)]
    have e : i - (l.length - k) = i + k - l.length := by omega
    rw [e]
    exact atC_get (by omega)
theorem rot_len (k : Nat) (l : List Pt) : (rot k l).length = l.length := (rot_perm k l).length_eq
theorem shf_lt {n k i : Nat} (hk : k ≤ n) (hi : i < n) : shf n k i < n := by
  unfold shf; split <;> omega
theorem nxt_rot {l : List Pt} {k i : Nat} (hk : k ≤ l.length) (hi : i < l.length) : nxt (rot k l) i = nxt l (shf l.length k i) := by
  have h2 : nxt (rot k l) i = atC l (shf l.length k ((i + 1) % l.length)) := by
    unfold nxt
    rw [rot_len]
    exact at_rot hk (Nat.mod_lt _ (by omega))
  rw [h2]
  unfold nxt
  congr 1
  rcases Nat.lt_or_ge (i + 1) l.length with h | h
  · rw [mod_in h]
    unfold shf
    by_cases a : i + k < l.length
    · rw [if_pos a]
      by_cases b : i + 1 + k < l.length
      · rw [if_pos b, mod_in (by omega)]; omega
      · rw [if_neg b, mod_last (by omega)]; omega
    · rw [if_neg a, if_neg (by omega), mod_in (by omega)]; omega
  · rw [mod_last (by omega)]
    unfold shf
    by_cases a : i + k < l.length
    · rw [if_pos a]
      obtain rfl : k = 0 := by omega
      rw [if_pos (by omega), mod_last (by omega)]
    · rw [if_neg a]
      by_cases b : 0 + k < l.length
      · rw [if_pos b, mod_in (by omega)]; omega
      · rw [if_neg b, mod_last (by omega)]; omega
theorem prv_eq {l : List Pt} {i : Nat} (hi : i < l.length) : prv l i = atC l (if i = 0 then l.length - 1 else i - 1) := by
  split
  · rename_i h; subst h; exact prv_0 (by omega)
  · exact prv_in (by omega) hi
theorem prv_rot {l : List Pt} {k i : Nat} (hk : k ≤ l.length) (hi : i < l.length) : prv (rot k l) i = prv l (shf l.length k i) := by
  rw [prv_eq (by rw [rot_len]; exact hi), prv_eq (shf_lt hk hi), rot_len, at_rot hk (by split <;> omega)]
  congr 1
  unfold shf
  repeat' split
  all_goals omega
theorem good_rot {l : List Pt} {k : Nat} (hk : k ≤ l.length) (h : Good l) : Good (rot k l) := by
  obtain ⟨h1, h2⟩ := good_iff.mp h
  refine good_iff.mpr ⟨fun i hi => ?_, fun i j hi hj hne n1 n2 => ?_⟩
  · rw [rot_len] at hi
    unfold tri0
    rw [at_rot hk hi, nxt_rot hk hi, prv_rot hk hi]
    exact h1 _ (shf_lt hk hi)
  · rw [rot_len] at hi hj n1 n2
    rw [at_rot hk hi, nxt_rot hk hi, at_rot hk hj, nxt_rot hk hj]
    have key : ∀ i j, i < l.length → j < l.length → (i + 1) % l.length ≠ j → (shf l.length k i + 1) % l.length ≠ shf l.length k j := by
      intro i j hi hj n1
      have a := shf_lt hk hi
      rcases Nat.lt_or_ge (shf l.length k i + 1) l.length with z | z
      · rw [mod_in z]
        rcases Nat.lt_or_ge (i + 1) l.length with y | y
        · rw [mod_in y] at n1
          unfold shf at z ⊢
          repeat' split
          all_goals (try split at z) <;> omega
        · rw [mod_last (by omega)] at n1
          unfold shf at z ⊢
          repeat' split
          all_goals (try split at z) <;> omega
      · rw [mod_last (by omega)]
        rcases Nat.lt_or_ge (i + 1) l.length with y | y
        · rw [mod_in y] at n1
          unfold shf at z ⊢
          repeat' split
          all_goals (try split at z) <;> omega
        · rw [mod_last (by omega)] at n1
          unfold shf at z ⊢
          repeat' split
          all_goals (try split at z) <;> omega
    refine h2 _ _ (shf_lt hk hi) (shf_lt hk hj) ?_ (key i j hi hj n1) (key j i hj hi n2)
    unfold shf
    repeat' split
    all_goals omega
/-! the other way round -/
theorem at_rev {l : List Pt} {i : Nat} (hi : i < l.length) : atC l.reverse i = atC l (l.length - 1 - i) := by
  refine atC_of ?_
  rw [List.getElem?_reverse hi]
  exact atC_get (by omega)
theorem nxt_eq {l : List Pt} {i : Nat} (hi : i < l.length) : nxt l i = atC l (if i + 1 = l.length then 0 else i + 1) := by
  split
  · exact nxt_last (by assumption)
  · exact nxt_in (by omega)
theorem nxt_rev {l : List Pt} {i : Nat} (hi : i < l.length) : nxt l.reverse i = prv l (l.length - 1 - i) := by
  rw [nxt_eq (by rw [List.length_reverse]; exact hi), prv_eq (by omega), List.length_reverse, at_rev (by split <;> omega)]
  congr 1
  repeat' split
  all_goals omega
theorem prv_rev {l : List Pt} {i : Nat} (hi : i < l.length) : prv l.reverse i = nxt l (l.length - 1 - i) := by
  rw [prv_eq (by rw [List.length_reverse]; exact hi), nxt_eq (by omega), List.length_reverse, at_rev (by split <;> omega)]
  congr 1
  repeat' split
  all_goals omega
theorem tri_rev {l : List Pt} {i : Nat} (hi : i < l.length) : tri0 l.reverse i = -tri0 l (l.length - 1 - i) := by
  unfold tri0
  rw [at_rev hi, nxt_rev hi, prv_rev hi, trn_back]
/-- the edge of l that is the i-th one of l.reverse, turned -/
def bck (n i : Nat) : Nat := if i + 1 = n then n - 1 else n - 2 - i
theorem edge_rev {l : List Pt} {i : Nat} (hi : i < l.length) : atC l.reverse i = nxt l (bck l.length i) ∧ nxt l.reverse i = atC l (bck l.length i) := by
  unfold bck
  constructor
  · rw [at_rev hi, nxt_eq (by split <;> omega)]
    congr 1
    repeat' split
    all_goals omega
  · rw [nxt_rev hi, prv_eq (by omega)]
    congr 1
    repeat' split
    all_goals omega
theorem good_rev {l : List Pt} (h : Good l) : Good l.reverse := by
  obtain ⟨h1, h2⟩ := good_iff.mp h
  refine good_iff.mpr ⟨fun i hi => ?_, fun i j hi hj hne n1 n2 => ?_⟩
  · rw [List.length_reverse] at hi
    rw [tri_rev hi]
    have := h1 (l.length - 1 - i) (by omega)
    omega
  · rw [List.length_reverse] at hi hj n1 n2
    rw [(edge_rev hi).1, (edge_rev hi).2, (edge_rev hj).1, (edge_rev hj).2, meet_swap, meet_comm, meet_swap, meet_comm]
    have lt : ∀ i, i < l.length → bck l.length i < l.length := fun i hi => by unfold bck; split <;> omega
    have key : ∀ i j, i < l.length → j < l.length → (i + 1) % l.length ≠ j → (bck l.length j + 1) % l.length ≠ bck l.length i := by
      intro i j hi hj n1
      rcases Nat.lt_or_ge (bck l.length j + 1) l.length with z | z
      · rw [mod_in z]
        rcases Nat.lt_or_ge (i + 1) l.length with y | y
        · rw [mod_in y] at n1
          unfold bck at z ⊢
          repeat' split
          all_goals (try split at z) <;> omega
        · rw [mod_last (by omega)] at n1
          unfold bck at z ⊢
          repeat' split
          all_goals (try split at z) <;> omega
      · have zz := lt j hj
        rw [mod_last (by omega)]
        rcases Nat.lt_or_ge (i + 1) l.length with y | y
        · rw [mod_in y] at n1
          unfold bck at z zz ⊢
          repeat' split
          all_goals (try split at z) <;> (try split at zz) <;> omega
        · rw [mod_last (by omega)] at n1
          unfold bck at z zz ⊢
          repeat' split
          all_goals (try split at z) <;> (try split at zz) <;> omega
    refine h2 _ _ (lt i hi) (lt j hj) ?_ (key j i hj hi n2) (key i j hi hj n1)
    unfold bck
    repeat' split
    all_goals omega
theorem good_spn {ps : List Pt} (h : Good ps) : Good (spn ps) := by
  unfold spn; split
  · exact h
  · exact good_rev h
theorem idx_le (p : Pt) : ∀ l : List Pt, idx p l ≤ l.length
  | [] => Nat.le_refl _
  | q :: l => by
    rw [idx]; split
    · exact Nat.zero_le _
    · exact Nat.succ_le_succ (idx_le p l)
theorem good_arr {ps : List Pt} (h : Good ps) : Good (arr ps) := good_rot (idx_le _ _) (good_spn h)
end G

/-! ### sums around a closed path; multiples -/
namespace G
open PySem PySem.Spec PyProof.Rows L2
section
variable (g : Pt → Pt → Int)
def pthG : List Pt → Int
  | a :: b :: l => g a b + pthG (b :: l)
  | _ => 0
theorem pthG_cons2 : ∀ l : List Pt, pthG g l = ((cons2 l).map fun e => g e.1 e.2).sum
  | [] => rfl
  | [_] => rfl
  | a :: b :: l => by
    rw [pthG, cons2, List.map_cons, List.sum_cons, pthG_cons2 (b :: l)]
theorem pthG_app : ∀ (l : List Pt) (a : Pt) (m : List Pt), pthG g (l ++ a :: m) = pthG g (l ++ [a]) + pthG g (a :: m)
  | [], a, m => by
    show pthG g (a :: m) = pthG g [a] + _
    rw [show pthG g [a] = 0 from rfl, Int.zero_add]
  | [b], a, m => by
    show g b a + pthG g (a :: m) = g b a + pthG g [a] + _
    rw [show pthG g [a] = 0 from rfl, Int.add_zero]
  | b :: c :: l, a, m => by
    show g b c + pthG g (c :: l ++ a :: m) = g b c + pthG g (c :: l ++ [a]) + _
    rw [pthG_app (c :: l) a m, Int.add_assoc]
theorem pthG_rev (hs : ∀ a b, g a b = g b a) : ∀ l : List Pt, pthG g l.reverse = pthG g l
  | [] => rfl
  | [_] => rfl
  | a :: b :: l => by
    rw [List.reverse_cons, List.reverse_cons, List.append_assoc]
    show pthG g (l.reverse ++ b :: [a]) = _
    rw [pthG_app, ← List.reverse_cons, pthG_rev hs (b :: l)]
    show _ + (g b a + 0) = g a b + _
    rw [hs b a]; omega
/-- the sum of g over the edges -/
def areG : List Pt → Int
  | [] => 0
  | p :: l => pthG g (p :: l ++ [p])
theorem areG_rot1 (p : Pt) (l : List Pt) : areG g (l ++ [p]) = areG g (p :: l) := by
  cases l with
  | nil => rfl
  | cons q l =>
    show pthG g (q :: l ++ [p] ++ [q]) = pthG g (p :: q :: l ++ [p])
    rw [List.append_assoc]
    show pthG g ((q :: l) ++ p :: [q]) = g p q + pthG g (q :: l ++ [p])
    rw [pthG_app]
    show _ + (g p q + 0) = _
    omega
theorem areG_rot : ∀ (l m : List Pt), areG g (l ++ m) = areG g (m ++ l)
  | [], m => by rw [List.nil_append, List.append_nil]
  | p :: l, m => by
    have e := areG_rot1 g p (l ++ m)
    have i := areG_rot l (m ++ [p])
    rw [List.append_assoc, List.singleton_append] at i
    rw [List.cons_append, ← e, List.append_assoc, i]
theorem areG_rev (hs : ∀ a b, g a b = g b a) : ∀ l : List Pt, areG g l.reverse = areG g l
  | [] => rfl
  | p :: l => by
    rw [List.reverse_cons, areG_rot1]
    show pthG g (p :: l.reverse ++ [p]) = pthG g (p :: l ++ [p])
    rw [← pthG_rev g hs, List.reverse_append]
    have e : (p :: l.reverse).reverse = l ++ [p] := by
      rw [List.reverse_cons, List.reverse_reverse]
    rw [e]
    rfl
theorem areG_rotj (j : Nat) (l : List Pt) : areG g (rot j l) = areG g l := by
  unfold rot
  rw [← areG_rot, List.take_append_drop]
theorem sum_edgs (ps : List Pt) : ((edgs ps).map fun e => g e.1 e.2).sum = areG g ps := by
  cases ps with
  | nil => rfl
  | cons p l =>
    rw [edgs_cons2]
    exact (pthG_cons2 g (p :: l ++ [p])).symm
theorem areG_arr (hs : ∀ a b, g a b = g b a) (ps : List Pt) : areG g (arr ps) = areG g ps := by
  unfold arr
  rw [areG_rotj]
  unfold spn
  split
  · rfl
  · exact areG_rev g hs ps
end
/-- the content of an edge -/
def edc (a b : Pt) : Int := cont (dif b a)
theorem edc_symm (a b : Pt) : edc a b = edc b a := by
  unfold edc cont dif
  show ((Int.gcd (b.1 - a.1) (b.2 - a.2) : Nat) : Int) = ((Int.gcd (a.1 - b.1) (a.2 - b.2) : Nat) : Int)
  have e1 : b.1 - a.1 = -(a.1 - b.1) := by omega
  have e2 : b.2 - a.2 = -(a.2 - b.2) := by omega
  rw [e1, e2, Int.gcd_neg, Int.neg_gcd]
/-- the number of grid points on the border -/
def brd (ps : List Pt) : Int := areG edc ps
theorem brd_arr (ps : List Pt) : brd (arr ps) = brd ps := areG_arr edc edc_symm ps
def mulP (k : Int) (p : Pt) : Pt := (p.1 * k, p.2 * k)
theorem edc_mul {k : Int} (hk : 0 < k) (a b : Pt) : edc (mulP k a) (mulP k b) = k * edc a b := by
  unfold edc cont dif mulP
  show ((Int.gcd (b.1 * k - a.1 * k) (b.2 * k - a.2 * k) : Nat) : Int) = k * ((Int.gcd (b.1 - a.1) (b.2 - a.2) : Nat) : Int)
  rw [← Int.sub_mul, ← Int.sub_mul, Int.gcd_mul_right, Int.natCast_mul]
  have e : ((k.natAbs : Nat) : Int) = k := by omega
  rw [e, Int.mul_comm]
theorem pthG_map {g h : Pt → Pt → Int} {f : Pt → Pt} {c : Int} (e : ∀ a b, h (f a) (f b) = c * g a b) : ∀ l : List Pt, pthG h (l.map f) = c * pthG g l
  | [] => by show 0 = c * 0; omega
  | [_] => by show 0 = c * 0; omega
  | a :: b :: l => by
    show h (f a) (f b) + pthG h ((b :: l).map f) = c * (g a b + pthG g (b :: l))
    rw [e, pthG_map e (b :: l), Int.mul_add]
theorem areG_map {g h : Pt → Pt → Int} {f : Pt → Pt} {c : Int} (e : ∀ a b, h (f a) (f b) = c * g a b) (l : List Pt) : areG h (l.map f) = c * areG g l := by
  cases l with
  | nil => show 0 = c * 0; omega
  | cons p l =>
    have := pthG_map e (p :: l ++ [p])
    rw [List.map_append] at this
    exact this
theorem brd_mul {k : Int} (hk : 0 < k) (ps : List Pt) : brd (ps.map (mulP k)) = k * brd ps := areG_map (edc_mul hk) ps
theorem pth_G (l : List Pt) : pth l = pthG crsP l := by rw [pth_cons2, pthG_cons2]
theorem are_G (l : List Pt) : are l = areG crsP l := by
  cases l with
  | nil => rfl
  | cons p l => exact pth_G _
theorem are_mul (k : Int) (ps : List Pt) : are (ps.map (mulP k)) = k * k * are ps := by
  rw [are_G, are_G]
  refine areG_map (fun a b => ?_) ps
  unfold crsP mulP
  show a.1 * k * (b.2 * k) - a.2 * k * (b.1 * k) = _
  grind
theorem trn_mul (k : Int) (a b c : Pt) : trn (mulP k a) (mulP k b) (mulP k c) = k * k * trn a b c := by
  unfold trn crs dif mulP
  show (b.1 * k - a.1 * k) * (c.2 * k - b.2 * k) - (b.2 * k - a.2 * k) * (c.1 * k - b.1 * k) = k * k * ((b.1 - a.1) * (c.2 - b.2) - (b.2 - a.2) * (c.1 - b.1))
  grind
theorem on_mul {k : Int} (hk : 0 < k) (p a b : Pt) : onS (mulP k p) (mulP k a) (mulP k b) = onS p a b := by
  rw [Bool.eq_iff_iff, on_iff, on_iff]
  constructor
  · rintro ⟨s, t, hs, ht, hst, e1, e2⟩
    refine ⟨s, t, hs, ht, hst, ?_, ?_⟩
    · refine Int.eq_of_mul_eq_mul_right (show k ≠ 0 by omega) ?_
      have e1 : (s + t) * (p.1 * k) = s * (a.1 * k) + t * (b.1 * k) := e1
      grind
    · refine Int.eq_of_mul_eq_mul_right (show k ≠ 0 by omega) ?_
      have e2 : (s + t) * (p.2 * k) = s * (a.2 * k) + t * (b.2 * k) := e2
      grind
  · rintro ⟨s, t, hs, ht, hst, e1, e2⟩
    refine ⟨s, t, hs, ht, hst, ?_, ?_⟩
    · show (s + t) * (p.1 * k) = s * (a.1 * k) + t * (b.1 * k)
      grind
    · show (s + t) * (p.2 * k) = s * (a.2 * k) + t * (b.2 * k)
      grind
theorem neg_mul_pos {c x : Int} (hc : 0 < c) : c * x < 0 ↔ x < 0 := by
  constructor
  · intro h
    rcases Int.lt_or_le x 0 with z | z
    · exact z
    · have := Int.mul_nonneg (show 0 ≤ c by omega) z; omega
  · exact Int.mul_neg_of_pos_of_neg hc
theorem meet_mul {k : Int} (hk : 0 < k) (a b c d : Pt) : meetS (mulP k a) (mulP k b) (mulP k c) (mulP k d) = meetS a b c d := by
  have hk2 : 0 < k * k := Int.mul_pos hk hk
  have key : ∀ x y : Int, decide (k * k * x * (k * k * y) < 0) = decide (x * y < 0) := fun x y => by
    have e : k * k * x * (k * k * y) = (k * k) * (k * k) * (x * y) := by grind
    rw [e]
    exact decide_eq_decide.mpr (neg_mul_pos (Int.mul_pos hk2 hk2))
  unfold meetS
  rw [on_mul hk, on_mul hk, on_mul hk, on_mul hk, trn_mul, trn_mul, trn_mul, trn_mul, key, key]
theorem good_mul {k : Int} (hk : 0 < k) {ps : List Pt} (g : Good ps) : Good (ps.map (mulP k)) := by
  constructor
  · intro i hi z
    rw [List.length_map] at hi
    unfold tri0 at z
    rw [at_map _ hi, nxt_map _ (by omega), prv_map _ (by omega), trn_mul] at z
    rcases Int.mul_eq_zero.mp z with w | w
    · have := Int.mul_pos hk hk; omega
    · exact g.1 i hi w
  · intro i j hij hj
    rw [List.length_map] at hj
    have := g.2 i j hij hj
    unfold crossB at this ⊢
    rwa [at_map _ (show i < ps.length by omega), at_map _ hj, nxt_map _ (by omega), nxt_map _ (by omega), meet_mul hk, List.length_map]
/-! sizes -/
theorem sum_bd {n : Nat} : ∀ {l : List Int}, (∀ x ∈ l, Bd n x) → Bd (n + l.length) l.sum
  | [], _ => by
    show (0 : Int).natAbs < 2 ^ (n + 0)
    exact Nat.two_pow_pos _
  | x :: l, h => by
    have h1 := h x List.mem_cons_self
    have h2 := sum_bd (l := l) fun y hy => h y (List.mem_cons_of_mem _ hy)
    rw [List.sum_cons, List.length_cons]
    exact (h1.mono (show n ≤ n + l.length by omega)).add h2
theorem cont_le {n : Nat} {p : Pt} (b : PBd n p) : Bd (n + 1) (cont p) := by
  unfold cont Bd
  rw [Int.natAbs_natCast]
  have h1 : p.1.natAbs < 2 ^ n := b.1
  have h2 : p.2.natAbs < 2 ^ n := b.2
  have e : 2 ^ (n + 1) = 2 ^ n + 2 ^ n := by rw [Nat.pow_succ]; omega
  by_cases z : p.1 = 0
  · rw [z, Int.gcd_zero_left]; omega
  · have := Int.gcd_le_natAbs_left (b := p.2) z
    omega
theorem edgs_mem {ps : List Pt} {e : Ed} (h : e ∈ edgs ps) : e.1 ∈ ps ∧ e.2 ∈ ps := by
  unfold edgs at h
  obtain ⟨i, hi, rfl⟩ := List.mem_map.mp h
  have hi := List.mem_range.mp hi
  exact ⟨atC_mem hi, nxt_mem (by omega)⟩
theorem edgs_len (ps : List Pt) : (edgs ps).length = ps.length := by unfold edgs; rw [List.length_map, List.length_range]
theorem brd_bd {n : Nat} {ps : List Pt} (h : AllBd n ps) : Bd (n + 2 + ps.length) (brd ps) := by
  unfold brd
  rw [← sum_edgs]
  have := sum_bd (n := n + 2) (l := (edgs ps).map fun e => edc e.1 e.2) fun x hx => by
    obtain ⟨e, he, rfl⟩ := List.mem_map.mp hx
    obtain ⟨m1, m2⟩ := edgs_mem he
    exact cont_le ((h _ m2).dif (h _ m1))
  rwa [List.length_map, edgs_len] at this
theorem are_bd {n : Nat} {ps : List Pt} (h : AllBd n ps) : Bd (n + n + 1 + ps.length) (are ps) := by
  rw [are_G, ← sum_edgs]
  have := sum_bd (n := n + n + 1) (l := (edgs ps).map fun e => crsP e.1 e.2) fun x hx => by
    obtain ⟨e, he, rfl⟩ := List.mem_map.mp hx
    obtain ⟨m1, m2⟩ := edgs_mem he
    exact ((h _ m1).1.mul (h _ m2).2).sub ((h _ m1).2.mul (h _ m2).1)
  rwa [List.length_map, edgs_len] at this
/-- the numbers of inner points and of all points, by the formula -/
def inN (ps : List Pt) : Int := (are ps - brd ps + 2) / 2
def toN (ps : List Pt) : Int := inN ps + brd ps
end G

/-! ### corners on a convex curve -/
namespace G
open PySem PySem.Spec PyProof.Rows L2
/-- every three corners turn left -/
def Cvx : List Pt → Prop
  | [] => True
  | p :: l => l.Pairwise (fun q r => 0 < trn p q r) ∧ Cvx l
theorem Cvx.sub {l m : List Pt} (s : l.Sublist m) : Cvx m → Cvx l := by
  induction s with
  | slnil => exact fun h => h
  | cons a s ih => exact fun h => ih h.2
  | cons_cons a s ih => exact fun h => ⟨h.1.sublist s, ih h.2⟩
theorem at_succ (p : Pt) (l : List Pt) (i : Nat) : atC (p :: l) (i + 1) = atC l i := by
  unfold atC
  rw [List.getD_eq_getElem?_getD, List.getD_eq_getElem?_getD, List.getElem?_cons_succ]
theorem Cvx.at : ∀ {l : List Pt} {i j k : Nat}, Cvx l → i < j → j < k → k < l.length → 0 < trn (atC l i) (atC l j) (atC l k)
  | [], _, _, _, _, _, _, h => absurd h (Nat.not_lt_zero _)
  | p :: l, 0, j + 1, k + 1, h, hij, hjk, hk => by
    rw [at_succ, at_succ]
    exact pw_at h.1 (show j < k by omega) (atC_get (by simp at hk; omega)) (atC_get (by simpa using hk))
  | p :: l, i + 1, j + 1, k + 1, h, hij, hjk, hk => by
    rw [at_succ, at_succ, at_succ]
    exact Cvx.at h.2 (by omega) (by omega) (by simpa using hk)
  | p :: l, _, 0, _, _, hij, _, _ => absurd hij (Nat.not_lt_zero _)
  | p :: l, _, _, 0, _, _, hjk, _ => absurd hjk (Nat.not_lt_zero _)
theorem trn_rot (a b c : Pt) : trn c a b = trn a b c := by
  unfold trn crs dif; grind
/-- every other corner is left of an edge -/
theorem Cvx.left {l : List Pt} (h : Cvx l) {i k : Nat} (hi : i < l.length) (hk : k < l.length) (n1 : k ≠ i) (n2 : (i + 1) % l.length ≠ k) : 0 < trn (atC l i) (nxt l i) (atC l k) := by
  rcases Nat.lt_or_ge (i + 1) l.length with z | z
  · rw [mod_in z] at n2
    rw [nxt_in z]
    rcases Nat.lt_or_ge k i with y | y
    · rw [← trn_rot]; exact h.at y (by omega) z
    · exact h.at (by omega) (by omega) hk
  · rw [mod_last (by omega)] at n2
    rw [nxt_last (by omega), trn_rot]
    exact h.at (show 0 < k by omega) (show k < i by omega) hi
theorem Cvx.tri {l : List Pt} (h : Cvx l) (h3 : 3 ≤ l.length) {i : Nat} (hi : i < l.length) : 0 < tri0 l i := by
  unfold tri0
  rw [prv_eq hi, nxt_eq hi]
  by_cases a : i = 0
  · subst a
    rw [if_pos rfl, if_neg (by omega), trn_rot]
    exact h.at (by omega) (by omega) (by omega)
  · rw [if_neg a]
    by_cases b : i + 1 = l.length
    · rw [if_pos b, ← trn_rot]
      exact h.at (by omega) (by omega) hi
    · rw [if_neg b]
      exact h.at (by omega) (by omega) (by omega)
theorem Cvx.good {l : List Pt} (h : Cvx l) (h3 : 3 ≤ l.length) : Good l := by
  refine good_iff.mpr ⟨fun i hi => ?_, fun i j hi hj hne n1 n2 => ?_⟩
  · have := h.tri h3 hi; omega
  · have mj : (j + 1) % l.length < l.length := Nat.mod_lt _ (by omega)
    have mi : (i + 1) % l.length < l.length := Nat.mod_lt _ (by omega)
    have inj : (i + 1) % l.length ≠ (j + 1) % l.length := by
      intro z
      rcases Nat.lt_or_ge (i + 1) l.length with y | y
      · rw [mod_in y] at z
        rcases Nat.lt_or_ge (j + 1) l.length with x | x
        · rw [mod_in x] at z; omega
        · rw [mod_last (by omega)] at z; omega
      · rw [mod_last (by omega)] at z
        rcases Nat.lt_or_ge (j + 1) l.length with x | x
        · rw [mod_in x] at z; omega
        · omega
    have t1 := h.left hi hj (by omega) n1
    have t2 : 0 < trn (atC l i) (nxt l i) (nxt l j) := h.left hi mj n2 inj
    have t3 := h.left hj hi hne n2
    have t4 : 0 < trn (atC l j) (nxt l j) (nxt l i) := h.left hj mi n1 (Ne.symm inj)
    cases e : meetS (atC l i) (nxt l i) (atC l j) (nxt l j) with
    | false => rfl
    | true =>
      rcases meet_cases e with ⟨h1, _⟩ | h1 | h1 | h1 | h1
      · have := Int.mul_pos t3 t4; omega
      · have := (on_box h1).1; omega
      · have := (on_box h1).1; omega
      · have := (on_box h1).1; omega
      · have := (on_box h1).1; omega
/-- triangles from p -/
def fan (p : Pt) : List Pt → Int
  | q :: r :: l => trn p q r + fan p (r :: l)
  | _ => 0
theorem fan_pth (p : Pt) : ∀ (l : List Pt) (q : Pt), pth (q :: l ++ [p]) + crs p q = fan p (q :: l)
  | [], q => by
    show crsP q p + 0 + crs p q = 0
    unfold crsP crs; grind
  | r :: l, q => by
    show crsP q r + pth (r :: l ++ [p]) + crs p q = trn p q r + fan p (r :: l)
    rw [← fan_pth p l r, crs_dif]
    have : crsP q r = crs q r := rfl
    rw [this]; omega
theorem are_fan (p q : Pt) (l : List Pt) : are (p :: q :: l) = fan p (q :: l) := by
  rw [← fan_pth]
  show crsP p q + pth (q :: l ++ [p]) = _
  have : crsP p q = crs p q := rfl
  omega
theorem fan_pos {p : Pt} : ∀ {l : List Pt} {q : Pt}, (q :: l).Pairwise (fun q r => 0 < trn p q r) → 0 ≤ fan p (q :: l) ∧ (l ≠ [] → 0 < fan p (q :: l))
  | [], q, _ => ⟨Int.le_refl _, fun h => absurd rfl h⟩
  | r :: l, q, h => by
    obtain ⟨h1, h2⟩ := List.pairwise_cons.mp h
    have := (fan_pos h2).1
    have t := h1 r List.mem_cons_self
    show 0 ≤ trn p q r + fan p (r :: l) ∧ (_ → 0 < trn p q r + fan p (r :: l))
    constructor
    · omega
    · intro _; omega
theorem Cvx.are {l : List Pt} (h : Cvx l) (h3 : 3 ≤ l.length) : 0 < G.are l := by
  match l, h, h3 with
  | p :: q :: r :: l, h, _ =>
    rw [are_fan]
    exact (fan_pos h.1).2 (by simp)
/-- all turns left, a positive area: such corners are kept as a convex polygon, also of an image -/
theorem reflex_img {ps : List Pt} (ht : ∀ i, i < ps.length → 0 < tri0 ps i) (ha : 0 < G.are ps) {m : M6} (hm : m.Ok) : reflex (arr (ps.map m.img)) = none := by
  have hl : (ps.map m.img).length = ps.length := List.length_map _
  refine reflex_none fun i hi => ?_
  rw [arr_len, hl] at hi
  have key : ∀ j, j < ps.length → 0 < tri0 (spn (ps.map m.img)) j := by
    intro j hj
    unfold spn
    rw [are_img]
    rcases hm with e | e
    · rw [e, if_pos (by omega), tri_img m hj, e]
      have := ht j hj; omega
    · rw [e, if_neg (by omega), tri_rev (by omega), hl, tri_img m (by omega), e]
      have := ht (ps.length - 1 - j) (by omega); omega
  have hs : (spn (ps.map m.img)).length = ps.length := by rw [spn_len, hl]
  unfold arr
  generalize hk : idx (minPt (spn (ps.map m.img))) (spn (ps.map m.img)) = k
  have hkl : k ≤ (spn (ps.map m.img)).length := by rw [← hk]; exact idx_le _ _
  have e : tri0 (rot k (spn (ps.map m.img))) i = tri0 (spn (ps.map m.img)) (shf ps.length k i) := by
    unfold tri0
    rw [at_rot hkl (by omega), nxt_rot hkl (by omega), prv_rot hkl (by omega), hs]
  rw [e]
  have := key (shf ps.length k i) (shf_lt (by omega) hi)
  omega
/-! contents under maps; parities; cutting apart -/
theorem edc_img {m : M6} (h : m.Ok) (a b : Pt) : edc (m.img a) (m.img b) = edc a b := by
  have key : ∀ (n : M6) (x y : Pt), (Int.gcd (y.1 - x.1) (y.2 - x.2)) ∣ Int.gcd ((n.img y).1 - (n.img x).1) ((n.img y).2 - (n.img x).2) := by
    intro n x y
    have d1 : ((Int.gcd (y.1 - x.1) (y.2 - x.2) : Nat) : Int) ∣ y.1 - x.1 := Int.gcd_dvd_left ..
    have d2 : ((Int.gcd (y.1 - x.1) (y.2 - x.2) : Nat) : Int) ∣ y.2 - x.2 := Int.gcd_dvd_right ..
    have e1 : (n.img y).1 - (n.img x).1 = n.a * (y.1 - x.1) + n.b * (y.2 - x.2) := by
      show (n.a * y.1 + n.b * y.2 + n.e) - (n.a * x.1 + n.b * x.2 + n.e) = _
      grind
    have e2 : (n.img y).2 - (n.img x).2 = n.c * (y.1 - x.1) + n.d * (y.2 - x.2) := by
      show (n.c * y.1 + n.d * y.2 + n.f) - (n.c * x.1 + n.d * x.2 + n.f) = _
      grind
    rw [e1, e2]
    refine Int.dvd_gcd (Int.dvd_add ?_ ?_) (Int.dvd_add ?_ ?_)
    · exact Int.dvd_trans d1 (Int.dvd_mul_left _ _)
    · exact Int.dvd_trans d2 (Int.dvd_mul_left _ _)
    · exact Int.dvd_trans d1 (Int.dvd_mul_left _ _)
    · exact Int.dvd_trans d2 (Int.dvd_mul_left _ _)
  unfold edc cont dif
  show ((Int.gcd ((m.img b).1 - (m.img a).1) ((m.img b).2 - (m.img a).2) : Nat) : Int) = ((Int.gcd (b.1 - a.1) (b.2 - a.2) : Nat) : Int)
  have h2 := key m.inv (m.img a) (m.img b)
  rw [img_inv h, img_inv h] at h2
  rw [Nat.dvd_antisymm h2 (key m a b)]
theorem brd_img {m : M6} (h : m.Ok) (ps : List Pt) : brd (ps.map m.img) = brd ps := by
  have := areG_map (g := edc) (h := edc) (f := m.img) (c := 1) (fun a b => by rw [edc_img h, Int.one_mul]) ps
  rw [Int.one_mul] at this
  exact this
theorem gcd_par (x y : Int) : ∃ k : Int, ((Int.gcd x y : Nat) : Int) = x + y + x * y + 2 * k := by
  have d1 : ((Int.gcd x y : Nat) : Int) ∣ x := Int.gcd_dvd_left ..
  have d2 : ((Int.gcd x y : Nat) : Int) ∣ y := Int.gcd_dvd_right ..
  obtain ⟨a, ha⟩ := d1
  obtain ⟨b, hb⟩ := d2
  generalize hg : ((Int.gcd x y : Nat) : Int) = g at ha hb
  rcases Int.emod_two_eq x with hx | hx
  · rcases Int.emod_two_eq y with hy | hy
    · have d : (2 : Int) ∣ g := by
        rw [← hg]
        exact Int.natCast_dvd_natCast.mpr (Int.dvd_gcd (c := 2) (Int.dvd_of_emod_eq_zero hx) (Int.dvd_of_emod_eq_zero hy))
      obtain ⟨c, hc⟩ := d
      obtain ⟨u, hu⟩ := Int.dvd_of_emod_eq_zero hx
      obtain ⟨v, hv⟩ := Int.dvd_of_emod_eq_zero hy
      exact ⟨c - u - v - 2 * u * v, by rw [hc, hu, hv]; grind⟩
    · obtain ⟨u, hu⟩ := Int.dvd_of_emod_eq_zero hx
      obtain ⟨v, hv⟩ : ∃ v, y = 2 * v + 1 := ⟨y / 2, by omega⟩
      have go : g % 2 = 1 := by
        rcases Int.emod_two_eq g with z | z
        · exfalso
          obtain ⟨c, hc⟩ := Int.dvd_of_emod_eq_zero z
          have : y = 2 * (c * b) := by rw [hb, hc]; grind
          omega
        · exact z
      obtain ⟨c, hc⟩ : ∃ c, g = 2 * c + 1 := ⟨g / 2, by omega⟩
      exact ⟨c - u - v - u * (2 * v + 1), by rw [hc, hu, hv]; grind⟩
  · obtain ⟨u, hu⟩ : ∃ u, x = 2 * u + 1 := ⟨x / 2, by omega⟩
    have go : g % 2 = 1 := by
      rcases Int.emod_two_eq g with z | z
      · exfalso
        obtain ⟨c, hc⟩ := Int.dvd_of_emod_eq_zero z
        have : x = 2 * (c * a) := by rw [ha, hc]; grind
        omega
      · exact z
    obtain ⟨c, hc⟩ : ∃ c, g = 2 * c + 1 := ⟨g / 2, by omega⟩
    exact ⟨c - u - y - u * y, by rw [hc, hu]; grind⟩
/-- twice the area and the border are of one parity -/
theorem par_step (a b : Pt) : ∃ k : Int, crsP a b + edc a b = (b.1 * b.2 + b.1 + b.2) - (a.1 * a.2 + a.1 + a.2) + 2 * k := by
  obtain ⟨k, hk⟩ := gcd_par (b.1 - a.1) (b.2 - a.2)
  refine ⟨k - a.2 * (b.1 - a.1), ?_⟩
  have e : edc a b = ((Int.gcd (b.1 - a.1) (b.2 - a.2) : Nat) : Int) := rfl
  rw [e, hk]
  unfold crsP
  grind
theorem par_pth : ∀ (l : List Pt) (p q : Pt), ∃ k : Int, pthG crsP (p :: l ++ [q]) + pthG edc (p :: l ++ [q]) = (q.1 * q.2 + q.1 + q.2) - (p.1 * p.2 + p.1 + p.2) + 2 * k
  | [], p, q => by
    obtain ⟨k, hk⟩ := par_step p q
    exact ⟨k, by show crsP p q + 0 + (edc p q + 0) = _; omega⟩
  | x :: l, p, q => by
    obtain ⟨k, hk⟩ := par_step p x
    obtain ⟨j, hj⟩ := par_pth l x q
    exact ⟨k + j, by show crsP p x + pthG crsP (x :: l ++ [q]) + (edc p x + pthG edc (x :: l ++ [q])) = _; omega⟩
theorem par (ps : List Pt) : ∃ k : Int, G.are ps + brd ps = 2 * k := by
  cases ps with
  | nil => exact ⟨0, rfl⟩
  | cons p l =>
    obtain ⟨k, hk⟩ := par_pth l p p
    refine ⟨k, ?_⟩
    rw [are_G]
    show pthG crsP (p :: l ++ [p]) + pthG edc (p :: l ++ [p]) = _
    omega
/-- cut along u v -/
theorem areG_cut (g : Pt → Pt → Int) (X Y Z : List Pt) (u v : Pt) : areG g (u :: Y ++ [v]) + areG g (X ++ u :: v :: Z) = areG g (X ++ u :: Y ++ v :: Z) + (g u v + g v u) := by
  have e1 : areG g (u :: Y ++ [v]) = pthG g (u :: Y ++ [v]) + g v u := by
    show pthG g (u :: (Y ++ [v]) ++ [u]) = _
    have : u :: (Y ++ [v]) ++ [u] = (u :: Y) ++ v :: [u] := by simp
    rw [this, pthG_app]
    show _ + (g v u + 0) = _
    omega
  have e2 : areG g (X ++ u :: v :: Z) = g u v + pthG g (v :: (Z ++ X) ++ [u]) := by
    rw [areG_rot]
    show pthG g (u :: v :: Z ++ X ++ [u]) = _
    have : u :: v :: Z ++ X ++ [u] = u :: v :: (Z ++ X ++ [u]) := by simp
    rw [this]
    show g u v + pthG g (v :: (Z ++ X ++ [u])) = _
    rfl
  have e3 : areG g (X ++ u :: Y ++ v :: Z) = pthG g (u :: Y ++ [v]) + pthG g (v :: (Z ++ X) ++ [u]) := by
    rw [List.append_assoc, areG_rot]
    show pthG g (u :: (Y ++ v :: Z) ++ X ++ [u]) = _
    have : u :: (Y ++ v :: Z) ++ X ++ [u] = (u :: Y) ++ v :: (Z ++ X ++ [u]) := by simp
    rw [this, pthG_app]
    rfl
  rw [e1, e2, e3]; omega
end G

/-! ### texts -/
namespace G
open PySem PySem.Spec PyProof.Rows L2
theorem str_ext {a b : Str} (h : a.cps.toList = b.cps.toList) : a = b := by
  cases a; cases b
  congr 1
  exact Array.toList_inj.mp h
theorem cps_app (a b : Str) : (a ++ b).cps.toList = a.cps.toList ++ b.cps.toList := by
  show (a.cps ++ b.cps).toList = _
  exact Array.toList_append
theorem str_assoc (a b c : Str) : a ++ b ++ c = a ++ (b ++ c) := str_ext (by rw [cps_app, cps_app, cps_app, cps_app, List.append_assoc])
theorem str_e (a : Str) : Str.empty ++ a = a := str_ext (by rw [cps_app]; rfl)
theorem log_lt {n : Int} {k : Nat} (hk : 0 < k) (h : Bd k n) : n.natAbs.log2 < k := by
  by_cases z : n.natAbs = 0
  · rw [z]; exact hk
  · exact (Nat.log2_lt z).mpr h
theorem txt_len {n : Int} {k : Nat} (hk : 0 < k) (h : Bd k n) : (Str.ofString (toString n)).length ≤ k + 1 := by
  rw [PySem.ofString_length]; exact int_text_length_le hk (log_lt hk h)
end G

/-! ### corners as kept: the same whatever was given -/
namespace G
open PySem PySem.Spec PyProof.Rows L2
theorem minPt_mem : ∀ {ps : List Pt}, ps ≠ [] → minPt ps ∈ ps
  | [], h => absurd rfl h
  | p :: qs, _ => minP_mem qs p
theorem minP_least : ∀ (qs : List Pt) (p : Pt), ¬ ltPt p (minP p qs) ∧ ∀ q ∈ qs, ¬ ltPt q (minP p qs)
  | [], p => ⟨by show ¬ ltPt p p; unfold ltPt; omega, fun q h => nomatch h⟩
  | y :: qs, p => by
    have hs := dataLt_pt y p
    show ¬ ltPt p (minP (if PySem.W.dataLt (PySem.W.Datum.toD y) (PySem.W.Datum.toD p) then y else p) qs) ∧ ∀ q ∈ y :: qs, ¬ ltPt q (minP (if PySem.W.dataLt (PySem.W.Datum.toD y) (PySem.W.Datum.toD p) then y else p) qs)
    by_cases h : ltPt y p
    · rw [hs, decide_eq_true h, if_pos rfl]
      obtain ⟨h1, h2⟩ := minP_least qs y
      refine ⟨fun z => ?_, fun q hq => ?_⟩
      · unfold ltPt at *; omega
      · rcases List.mem_cons.mp hq with rfl | hq
        · exact h1
        · exact h2 q hq
    · rw [hs, decide_eq_false h, if_neg (by decide)]
      obtain ⟨h1, h2⟩ := minP_least qs p
      refine ⟨h1, fun q hq => ?_⟩
      rcases List.mem_cons.mp hq with rfl | hq
      · intro z; unfold ltPt at *; omega
      · exact h2 q hq
theorem minPt_least {ps : List Pt} {q : Pt} (h : q ∈ ps) : ¬ ltPt q (minPt ps) := by
  cases ps with
  | nil => cases h
  | cons p qs =>
    obtain ⟨h1, h2⟩ := minP_least qs p
    rcases List.mem_cons.mp h with rfl | h
    · exact h1
    · exact h2 q h
theorem minPt_perm {ps qs : List Pt} (h : ps.Perm qs) : minPt ps = minPt qs := by
  by_cases hn : ps = []
  · subst hn; rw [List.nil_perm.mp h]
  · have hq : qs ≠ [] := fun z => hn (by rw [z] at h; exact List.perm_nil.mp h)
    exact ltPt_tri (minPt_least (h.symm.mem_iff.mp (h.mem_iff.mp (minPt_mem hn)) |> h.mem_iff.mp)) (minPt_least (h.mem_iff.mpr (minPt_mem hq)))
theorem idx_split {p : Pt} : ∀ {l : List Pt}, p ∈ l → ∃ A B, l = A ++ p :: B ∧ idx p l = A.length ∧ p ∉ A
  | q :: l, h => by
    by_cases e : q = p
    · subst e
      exact ⟨[], l, rfl, by rw [idx, if_pos rfl]; rfl, by simp⟩
    · obtain ⟨A, B, h1, h2, h3⟩ := idx_split ((List.mem_cons.mp h).resolve_left fun z => e z.symm)
      refine ⟨q :: A, B, by rw [h1]; rfl, by rw [idx, if_neg e, h2]; rfl, fun z => ?_⟩
      rcases List.mem_cons.mp z with z | z
      · exact e z.symm
      · exact h3 z
theorem idx_app {p : Pt} {A B : List Pt} (h : p ∉ A) : idx p (A ++ p :: B) = A.length := by
  induction A with
  | nil => show idx p (p :: B) = 0; rw [idx, if_pos rfl]
  | cons q A ih =>
    show idx p (q :: (A ++ p :: B)) = _
    rw [idx, if_neg (fun z => h (by rw [z]; simp)), ih fun z => h (List.mem_cons_of_mem _ z)]; rfl
theorem rot_split (A B : List Pt) (p : Pt) : rot A.length (A ++ p :: B) = p :: B ++ A := by
  unfold rot
  rw [List.drop_left, List.take_left]
/-- the turn that begins with p is one, however the list was turned -/
theorem rot_idx {l : List Pt} {p : Pt} (hp : p ∈ l) (hn : l.Nodup) (k : Nat) : rot (idx p (rot k l)) (rot k l) = rot (idx p l) l := by
  obtain ⟨A, B, rfl, h2, h3⟩ := idx_split hp
  have hB : p ∉ B := by
    have := (List.nodup_append.mp hn).2.1
    exact (List.nodup_cons.mp this).1
  rw [h2, rot_split]
  by_cases hk : k ≤ A.length
  · obtain ⟨A1, A2, rfl, rfl⟩ : ∃ A1 A2, A = A1 ++ A2 ∧ k = A1.length := ⟨A.take k, A.drop k, (List.take_append_drop k A).symm, by rw [List.length_take]; omega⟩
    have e : rot A1.length (A1 ++ A2 ++ p :: B) = A2 ++ p :: (B ++ A1) := by
      unfold rot
      rw [List.append_assoc, List.drop_left, List.take_left]; simp
    rw [e, idx_app (fun z => h3 (List.mem_append_right _ z)), rot_split]
    simp
  · by_cases hk2 : (A ++ p :: B).length ≤ k
    · have e : rot k (A ++ p :: B) = A ++ p :: B := by
        unfold rot
        rw [List.drop_of_length_le hk2, List.take_of_length_le hk2]; rfl
      rw [e, h2, rot_split]
    · obtain ⟨B1, B2, rfl, hk3⟩ : ∃ B1 B2, B = B1 ++ B2 ∧ k = A.length + 1 + B1.length := by
        refine ⟨B.take (k - A.length - 1), B.drop (k - A.length - 1), (List.take_append_drop _ B).symm, ?_⟩
        rw [List.length_take]
        rw [List.length_append, List.length_cons] at hk2
        omega
      have e0 : A ++ p :: (B1 ++ B2) = (A ++ p :: B1) ++ B2 := by simp
      have e : rot k (A ++ p :: (B1 ++ B2)) = (B2 ++ A) ++ p :: B1 := by
        unfold rot
        have hl : k = (A ++ p :: B1).length := by rw [List.length_append, List.length_cons]; omega
        rw [e0, hl, List.drop_left, List.take_left]; simp
      rw [e, idx_app, rot_split]
      · simp
      · intro z
        rcases List.mem_append.mp z with z | z
        · exact hB (List.mem_append_right _ z)
        · exact h3 z
theorem spn_rot {ps : List Pt} (k : Nat) (h : are ps ≠ 0) : ∃ j, spn (rot k ps) = rot j (spn ps) := by
  unfold spn
  rw [are_rotj]
  split
  · exact ⟨k, rfl⟩
  · refine ⟨ps.length - k, ?_⟩
    unfold rot
    rw [List.reverse_append, List.drop_reverse, List.take_reverse]
    by_cases hk : k ≤ ps.length
    · rw [show ps.length - (ps.length - k) = k by omega]
    · rw [show ps.length - (ps.length - k) = ps.length by omega, List.drop_of_length_le (show ps.length ≤ k by omega), List.take_of_length_le (show ps.length ≤ k by omega), List.drop_length, List.take_length]
theorem spn_ne {ps : List Pt} (h : ps ≠ []) : spn ps ≠ [] := by
  unfold spn
  split
  · exact h
  · simpa using h
theorem spn_nodup {ps : List Pt} (h : ps.Nodup) : (spn ps).Nodup := (spn_perm ps).nodup_iff.mpr h
theorem arr_rot {ps : List Pt} (hn : ps.Nodup) (ha : are ps ≠ 0) (h0 : ps ≠ []) (k : Nat) : arr (rot k ps) = arr ps := by
  obtain ⟨j, e⟩ := spn_rot k ha
  unfold arr
  rw [e, minPt_perm (rot_perm j (spn ps))]
  exact rot_idx (minPt_mem (spn_ne h0)) (spn_nodup hn) j
theorem arr_rev {ps : List Pt} (ha : are ps ≠ 0) : arr ps.reverse = arr ps := by
  have e : spn ps.reverse = spn ps := by
    unfold spn
    rw [are_rev, List.reverse_reverse]
    by_cases h : 0 < are ps
    · rw [if_neg (by omega), if_pos h]
    · rw [if_pos (by omega), if_neg h]
  unfold arr
  rw [e]
theorem arr_eq_rot (ps : List Pt) : ∃ j, arr ps = rot j (spn ps) := ⟨_, rfl⟩
theorem arr_arr {ps : List Pt} (hn : ps.Nodup) (ha : are ps ≠ 0) (h0 : ps ≠ []) : arr (arr ps) = arr ps := by
  obtain ⟨j, e⟩ := arr_eq_rot ps
  rw [e]
  have e1 : arr (spn ps) = arr ps := by
    unfold spn
    split
    · rfl
    · exact arr_rev ha
  have ha' : are (spn ps) ≠ 0 := by
    unfold spn
    split
    · exact ha
    · rw [are_rev]; omega
  rw [arr_rot (spn_nodup hn) ha' (spn_ne h0), e1, e]
theorem good_nodup {ps : List Pt} (h3 : 3 ≤ ps.length) (hg : Good ps) : ps.Nodup := by
  have key : ∀ i j, i < j → j < ps.length → atC ps i ≠ atC ps j := fun i j hij hj e => by
    by_cases h1 : j = i + 1
    · subst h1
      refine hg.1 i (by omega) ?_
      have en : nxt ps i = atC ps (i + 1) := by unfold nxt; rw [Nat.mod_eq_of_lt (by omega)]
      unfold tri0
      rw [en, ← e]
      unfold trn crs dif; simp
    · by_cases h2 : i = 0 ∧ j = ps.length - 1
      · obtain ⟨rfl, rfl⟩ := h2
        refine hg.1 0 (by omega) ?_
        have ep : prv ps 0 = atC ps (ps.length - 1) := by unfold prv; rw [Nat.zero_add, Nat.mod_eq_of_lt (by omega)]
        unfold tri0
        rw [ep, ← e]
        unfold trn crs dif; simp
      · have hc := hg.2 i j (by omega) hj
        have hm : (j + 1) % ps.length ≠ i := by
          by_cases hl : j + 1 = ps.length
          · rw [hl, Nat.mod_self]; omega
          · rw [Nat.mod_eq_of_lt (by omega)]; omega
        unfold crossB at hc
        rw [decide_eq_true hm, Bool.true_and, ← e] at hc
        have : meetS (atC ps i) (nxt ps i) (atC ps i) (nxt ps j) = true := by
          unfold meetS
          have on : onS (atC ps i) (atC ps i) (nxt ps i) = true := by
            unfold onS btw btw1
            rw [Bool.and_eq_true, decide_eq_true_iff, Bool.and_eq_true, Bool.and_eq_true, Bool.and_eq_true, decide_eq_true_iff, decide_eq_true_iff, decide_eq_true_iff, decide_eq_true_iff]
            refine ⟨by unfold trn crs dif; dsimp only; grind, ⟨by omega, by omega⟩, by omega, by omega⟩
          rw [on]; simp
        rw [this] at hc; cases hc
  refine List.pairwise_iff_getElem.mpr fun i j hi hj hij z => key i j hij hj ?_
  have e1 := atC_get hi
  have e2 := atC_get hj
  rw [List.getElem?_eq_getElem hi] at e1
  rw [List.getElem?_eq_getElem hj] at e2
  rw [← Option.some.inj e1, ← Option.some.inj e2]
  exact z
end G

/-! ### the area of a drawn polygon -/
namespace G
open PySem PySem.Spec PyProof.Rows L2
def hdXY : List Pt → Int
  | [] => 0
  | a :: _ => a.1 * a.2
theorem pth_low {z : Pt} (hz : z.2 = 0) : ∀ l : List Pt, (l ++ [z]).Pairwise (fun p q => 0 ≤ (p.1 - q.1) * (p.2 + q.2)) → -hdXY l ≤ pth (l ++ [z])
  | [], _ => Int.le_refl 0
  | [a], h => by
    have h1 := (List.pairwise_cons.1 h).1 z (List.mem_singleton.2 rfl)
    show -(a.1 * a.2) ≤ crsP a z + 0
    unfold crsP
    rw [hz] at h1 ⊢
    grind
  | a :: b :: l, h => by
    have h1 := (List.pairwise_cons.1 h).1 b (List.mem_cons_self ..)
    have ih := pth_low hz (b :: l) (List.pairwise_cons.1 h).2
    show -(a.1 * a.2) ≤ crsP a b + pth (b :: l ++ [z])
    have ih' : -(b.1 * b.2) ≤ pth (b :: l ++ [z]) := ih
    have e : crsP a b = (a.1 - b.1) * (a.2 + b.2) + (b.1 * b.2 - a.1 * a.2) := by unfold crsP; grind
    omega
theorem ML.are {L R : Pt} {B A : List Pt} (h : ML L R B A) : 0 < G.are (shp L R B A) := by
  have e : G.are (shp L R B A) = pth (L :: B ++ [R]) + pth (R :: A ++ [L]) := by
    show pth (L :: (B ++ R :: A) ++ [L]) = _
    rw [show L :: (B ++ R :: A) ++ [L] = (L :: B) ++ R :: (A ++ [L]) by simp, pth_app]
    rfl
  have up : 0 ≤ pth (R :: A ++ [L]) := by
    have := pth_low h.y0 (R :: A) ((List.Pairwise.and_mem.1 h.xu).imp (S := fun p q => 0 ≤ (p.1 - q.1) * (p.2 + q.2)) fun {p q} ⟨hp, hq, hx⟩ => by
      have y : ∀ r ∈ R :: A ++ [L], 0 ≤ r.2 := fun r hr => by
        rcases List.mem_append.1 hr with z | z
        · rcases List.mem_cons.1 z with rfl | z
          · rw [h.yR]; decide
          · have := h.ya r z; omega
        · rw [List.mem_singleton.1 z, h.y0]; decide
      have := y p hp; have := y q hq
      exact Int.mul_nonneg (by omega) (by omega))
    rwa [show hdXY (R :: A) = R.1 * R.2 from rfl, h.yR, Int.mul_zero] at this
  have lo : 0 < pth (L :: B ++ [R]) := by
    cases B with
    | nil => exact absurd rfl h.hB
    | cons b B =>
      have := pth_low h.yR (b :: B) (List.pairwise_cons.1 ((List.Pairwise.and_mem.1 h.xl).imp (S := fun p q => 0 ≤ (p.1 - q.1) * (p.2 + q.2)) fun {p q} ⟨hp, hq, hx⟩ => by
        have y : ∀ r ∈ L :: (b :: B) ++ [R], r.2 ≤ 0 := fun r hr => by
          rcases List.mem_append.1 hr with z | z
          · rcases List.mem_cons.1 z with rfl | z
            · rw [h.y0]; decide
            · have := h.yb r z; omega
          · rw [List.mem_singleton.1 z, h.yR]; decide
        have := y p hp; have := y q hq
        exact Int.mul_nonneg_of_nonpos_of_nonpos (by omega) (by omega))).2
      have h2 : -(b.1 * b.2) ≤ pth (b :: B ++ [R]) := this
      have hx : L.1 < b.1 := (List.pairwise_cons.1 h.xl).1 b (List.mem_cons_self ..)
      have hy := h.yb b (List.mem_cons_self ..)
      have hp : 0 < (b.1 - L.1) * (-b.2) := Int.mul_pos (by omega) (by omega)
      show 0 < crsP L b + pth (b :: B ++ [R])
      have e2 : crsP L b = (b.1 - L.1) * (-b.2) + b.1 * b.2 := by unfold crsP; rw [h.y0]; grind
      omega
  omega
end G

/-! ### the text of an integer, written digit by digit; joined texts -/
namespace G
open PySem PySem.Spec PyProof.Rows L2 TL
/-- str(n) -/
def txI (n : Int) : Str := toString n
theorem txI_nat (m : Nat) : (txI ((m : Nat) : Int)).cps.toList = numL m := tl_num m
theorem txI_neg {n : Int} (h : n < 0) : txI n = Str.ofString "-" ++ txI ((n.natAbs : Nat) : Int) := by
  obtain ⟨m, rfl⟩ : ∃ m : Nat, n = Int.negSucc m := ⟨n.natAbs - 1, by omega⟩
  refine str_ext ?_
  rw [cps_app, txI_nat]
  show (Str.ofString (toString (Int.negSucc m))).cps.toList = _
  rw [signs_ofString, signs_ofString]
  show ("-" ++ Nat.repr (m + 1)).toList.map Char.toNat = _
  rw [String.toList_append, List.map_append, Nat.toList_repr]
  rfl
theorem txI_pos {n : Int} (h : ¬ n < 0) : txI n = txI ((n.natAbs : Nat) : Int) := by
  congr 1
  omega
/-- what stands while the digits of m are written: the text, what is left -/
def DJ (m : Nat) (t : Str) (l : Nat) : Prop := (t = Str.empty ∧ l = m) ∨ (t.cps.toList ≠ [] ∧ ((0 < l ∧ numL m = numL l ++ t.cps.toList) ∨ (l = 0 ∧ numL m = t.cps.toList)))
theorem DJ.done {m : Nat} {t : Str} (h : DJ m t 0) (ht : t ≠ Str.empty) : t = txI ((m : Nat) : Int) := by
  rcases h with ⟨z, _⟩ | ⟨_, ⟨z, _⟩ | ⟨_, e⟩⟩
  · exact absurd z ht
  · exact absurd z (Nat.lt_irrefl _)
  · exact str_ext (by rw [txI_nat, e])
theorem DJ.step {m l : Nat} {t c : Str} (h : DJ m t l) (hc : c.cps.toList = [48 + l % 10]) (hl : 0 < l ∨ t = Str.empty) : DJ m (c ++ t) (l / 10) := by
  refine .inr ⟨(by rw [cps_app, hc]; exact List.cons_ne_nil _ _), ?_⟩
  rw [cps_app, hc]
  have base : numL m = numL l ++ t.cps.toList ∨ (l = 0 ∧ numL m = t.cps.toList) := by
    rcases h with ⟨rfl, rfl⟩ | ⟨_, ⟨_, e⟩ | e⟩
    · exact .inl (by rw [show Str.empty.cps.toList = [] from rfl, List.append_nil])
    · exact .inl e
    · exact .inr e
  rcases base with e | ⟨z, e⟩
  · by_cases h10 : l < 10
    · refine .inr ⟨by omega, ?_⟩
      rw [e, numL_lt h10, Nat.mod_eq_of_lt h10]
    · refine .inl ⟨by omega, ?_⟩
      rw [e, numL_step (by omega), List.append_assoc]
  · rcases hl with hl | hl
    · omega
    · rcases h with ⟨_, rfl⟩ | ⟨z2, _⟩
      · refine .inr ⟨by omega, ?_⟩
        rw [z, numL_lt (by decide), hl]
        rfl
      · rw [hl] at z2
        exact absurd rfl z2
theorem DJ.len {m l : Nat} {t : Str} (h : DJ m t l) : t.length ≤ (numL m).length := by
  rw [show t.length = t.cps.toList.length from by rw [Array.length_toList]; rfl]
  rcases h with ⟨rfl, _⟩ | ⟨_, ⟨_, e⟩ | ⟨_, e⟩⟩
  · exact Nat.zero_le _
  · rw [e, List.length_append]; omega
  · rw [e]; exact Nat.le_refl _
theorem txI_len {n : Int} {k : Nat} (hk : 0 < k) (h : Bd k n) : (txI n).length ≤ k + 1 := txt_len hk h
theorem numL_le {n : Int} {k : Nat} (hk : 0 < k) (h : Bd k n) : (numL n.natAbs).length ≤ k + 1 := by
  have : (txI ((n.natAbs : Nat) : Int)).length ≤ k + 1 := txI_len hk (by
    unfold Bd at h ⊢
    simpa using h)
  rw [← txI_nat, Array.length_toList]
  exact this
/-- a point's text -/
def txP (p : Int × Int) : Str := txI p.1 ++ Str.ofString "," ++ txI p.2
theorem len_app (a b : Str) : (a ++ b).length = a.length + b.length := by
  show (a.cps ++ b.cps).size = _
  rw [Array.size_append]; rfl
theorem txP_len {p : Int × Int} {k : Nat} (hk : 0 < k) (h : PBd k p) : (txP p).length ≤ 2 * k + 3 := by
  unfold txP
  have a := txI_len hk h.1
  have b := txI_len hk h.2
  have c : (Str.ofString ",").length = 1 := by decide
  rw [len_app, len_app, c]
  omega
theorem sum_le {α : Type} (f : α → Nat) {xs : List α} {k : Nat} (h : ∀ x ∈ xs, f x ≤ k) : (xs.map f).sum ≤ xs.length * k := by
  induction xs with
  | nil => simp
  | cons x r ih =>
    rw [List.map_cons, List.sum_cons, List.length_cons, Nat.succ_mul]
    have := h x List.mem_cons_self
    have := ih fun y hy => h y (List.mem_cons_of_mem _ hy)
    omega
end G

namespace G
open PySem PySem.Spec PyProof.Rows L2
theorem sc_is_integer : FnScope ["value"] ["value"] (defScope s_is_integer) := ⟨rfl, rfl, rfl, by decide +kernel, rfl, by decide +kernel, by decide +kernel⟩
theorem sc_check_integer : FnScope ["value", "least"] ["value", "least"] (defScope s_check_integer) := ⟨rfl, rfl, rfl, by decide +kernel, rfl, by decide +kernel, by decide +kernel⟩
theorem sc_is_point : FnScope ["value", "item"] ["value"] (defScope s_is_point) := ⟨rfl, rfl, rfl, by decide +kernel, rfl, by decide +kernel, by decide +kernel⟩
theorem sc_check_point : FnScope ["value"] ["value"] (defScope s_check_point) := ⟨rfl, rfl, rfl, by decide +kernel, rfl, by decide +kernel, by decide +kernel⟩
theorem sc_cross_of : FnScope ["first", "second"] ["first", "second"] (defScope s_cross_of) := ⟨rfl, rfl, rfl, by decide +kernel, rfl, by decide +kernel, by decide +kernel⟩
theorem sc_difference : FnScope ["end", "start"] ["end", "start"] (defScope s_difference) := ⟨rfl, rfl, rfl, by decide +kernel, rfl, by decide +kernel, by decide +kernel⟩
theorem sc_turn_of : FnScope ["first", "second", "third"] ["first", "second", "third"] (defScope s_turn_of) := ⟨rfl, rfl, rfl, by decide +kernel, rfl, by decide +kernel, by decide +kernel⟩
theorem sc_InvalidPolygon_init : FnScope ["self", "position"] ["self", "position"] (defScope s_InvalidPolygon_init) := ⟨rfl, rfl, rfl, by decide +kernel, rfl, by decide +kernel, by decide +kernel⟩
theorem sc_DegenerateCorner_init : FnScope ["self", "position"] ["self", "position"] (defScope s_DegenerateCorner_init) := ⟨rfl, rfl, rfl, by decide +kernel, rfl, by decide +kernel, by decide +kernel⟩
theorem sc_CrossingEdges_init : FnScope ["self", "first", "second"] ["self", "first", "second"] (defScope s_CrossingEdges_init) := ⟨rfl, rfl, rfl, by decide +kernel, rfl, by decide +kernel, by decide +kernel⟩
theorem sc_check_points : FnScope ["value", "position", "item"] ["value"] (defScope s_check_points) := ⟨rfl, rfl, rfl, by decide +kernel, rfl, by decide +kernel, by decide +kernel⟩
theorem sc_triples : GScp ["corners", "index", "corner"] ["corners"] (defScope s_triples) := ⟨rfl, rfl, rfl, by decide +kernel, rfl, by decide +kernel, by decide +kernel, fun _ => rfl⟩
theorem sc_check_turns : FnScope ["corners", "position", "before", "corner", "after"] ["corners"] (defScope s_check_turns) := ⟨rfl, rfl, rfl, by decide +kernel, rfl, by decide +kernel, by decide +kernel⟩
theorem sc_is_between : FnScope ["point", "start", "end", "value", "low", "high"] ["point", "start", "end"] (defScope s_is_between) := ⟨rfl, rfl, rfl, by decide +kernel, rfl, by decide +kernel, by decide +kernel⟩
theorem sc_is_on : FnScope ["point", "start", "end"] ["point", "start", "end"] (defScope s_is_on) := ⟨rfl, rfl, rfl, by decide +kernel, rfl, by decide +kernel, by decide +kernel⟩
theorem sc_have_common_point : FnScope ["first", "second", "a", "b", "c", "d", "sides"] ["first", "second"] (defScope s_have_common_point) := ⟨rfl, rfl, rfl, by decide +kernel, rfl, by decide +kernel, by decide +kernel⟩
theorem sc_edges_of : FnScope ["corners", "index", "corner"] ["corners"] (defScope s_edges_of) := ⟨rfl, rfl, rfl, by decide +kernel, rfl, by decide +kernel, by decide +kernel⟩
theorem sc_check_crossings : FnScope ["corners", "edges", "many", "first", "second"] ["corners"] (defScope s_check_crossings) := ⟨rfl, rfl, rfl, by decide +kernel, rfl, by decide +kernel, by decide +kernel⟩
theorem sc_area_of : FnScope ["corners", "start", "end"] ["corners"] (defScope s_area_of) := ⟨rfl, rfl, rfl, by decide +kernel, rfl, by decide +kernel, by decide +kernel⟩
theorem sc_arranged : FnScope ["corners", "ordered", "first"] ["corners"] (defScope s_arranged) := ⟨rfl, rfl, rfl, by decide +kernel, rfl, by decide +kernel, by decide +kernel⟩
theorem sc_checked_corners : FnScope ["corners", "limit"] ["corners", "limit"] (defScope s_checked_corners) := ⟨rfl, rfl, rfl, by decide +kernel, rfl, by decide +kernel, by decide +kernel⟩
theorem sc_first_reflex : FnScope ["corners", "position", "before", "corner", "after"] ["corners"] (defScope s_first_reflex) := ⟨rfl, rfl, rfl, by decide +kernel, rfl, by decide +kernel, by decide +kernel⟩
theorem sc_Polygon_init : FnScope ["self", "corners"] ["self", "corners"] (defScope s_Polygon_init) := ⟨rfl, rfl, rfl, by decide +kernel, rfl, by decide +kernel, by decide +kernel⟩
theorem sc_Polygon_corners : FnScope ["self"] ["self"] (defScope s_Polygon_corners) := ⟨rfl, rfl, rfl, by decide +kernel, rfl, by decide +kernel, by decide +kernel⟩
theorem sc_GridMap_init : FnScope ["self", "a", "b", "c", "d", "e", "f", "number"] ["self", "a", "b", "c", "d", "e", "f"] (defScope s_GridMap_init) := ⟨rfl, rfl, rfl, by decide +kernel, rfl, by decide +kernel, by decide +kernel⟩
theorem sc_GridMap_numbers : FnScope ["self"] ["self"] (defScope s_GridMap_numbers) := ⟨rfl, rfl, rfl, by decide +kernel, rfl, by decide +kernel, by decide +kernel⟩
theorem sc_check_map : FnScope ["value"] ["value"] (defScope s_check_map) := ⟨rfl, rfl, rfl, by decide +kernel, rfl, by decide +kernel, by decide +kernel⟩
theorem sc_check_polygon : FnScope ["value"] ["value"] (defScope s_check_polygon) := ⟨rfl, rfl, rfl, by decide +kernel, rfl, by decide +kernel, by decide +kernel⟩
theorem sc_format_integer : FnScope ["number"] ["number"] (defScope s_format_integer) := ⟨rfl, rfl, rfl, by decide +kernel, rfl, by decide +kernel, by decide +kernel⟩
theorem sc_format_point : FnScope ["point"] ["point"] (defScope s_format_point) := ⟨rfl, rfl, rfl, by decide +kernel, rfl, by decide +kernel, by decide +kernel⟩
theorem sc_format_points : FnScope ["points", "point"] ["points"] (defScope s_format_points) := ⟨rfl, rfl, rfl, by decide +kernel, rfl, by decide +kernel, by decide +kernel⟩
theorem sc_format_polygon : FnScope ["polygon"] ["polygon"] (defScope s_format_polygon) := ⟨rfl, rfl, rfl, by decide +kernel, rfl, by decide +kernel, by decide +kernel⟩
theorem sc_format_map : FnScope ["grid_map", "number"] ["grid_map"] (defScope s_format_map) := ⟨rfl, rfl, rfl, by decide +kernel, rfl, by decide +kernel, by decide +kernel⟩
theorem sc_law_pool : FnScope ["_law_script", "_law_k", "_law_cell", "_law_seed"] ["_law_script", "_law_k"] (defScope s_law_pool) := ⟨rfl, rfl, rfl, by decide +kernel, rfl, by decide +kernel, by decide +kernel⟩
theorem sc_law_take : FnScope ["_law_pool_here", "_law_bound", "_law_digit"] ["_law_pool_here", "_law_bound"] (defScope s_law_take) := ⟨rfl, rfl, rfl, by decide +kernel, rfl, by decide +kernel, by decide +kernel⟩
theorem sc_law_number : FnScope ["_law_pool_here", "_law_way", "_law_sign"] ["_law_pool_here"] (defScope s_law_number) := ⟨rfl, rfl, rfl, by decide +kernel, rfl, by decide +kernel, by decide +kernel⟩
theorem sc_law_digits : FnScope ["_law_number_here", "_law_text", "_law_left"] ["_law_number_here"] (defScope s_law_digits) := ⟨rfl, rfl, rfl, by decide +kernel, rfl, by decide +kernel, by decide +kernel⟩
theorem sc_law_point : FnScope ["_law_pool_here"] ["_law_pool_here"] (defScope s_law_point) := ⟨rfl, rfl, rfl, by decide +kernel, rfl, by decide +kernel, by decide +kernel⟩
theorem sc_law_pair : FnScope ["_law_point_here"] ["_law_point_here"] (defScope s_law_pair) := ⟨rfl, rfl, rfl, by decide +kernel, rfl, by decide +kernel, by decide +kernel⟩
theorem sc_law_error : FnScope ["_law_call", "e"] ["_law_call"] (defScope s_law_error) := ⟨rfl, rfl, rfl, by decide +kernel, rfl, by decide +kernel, by decide +kernel⟩
theorem sc_law_refused : FnScope ["_law_pool_here", "_law_bad", "_law_found", "_law_row", "_law_at", "_law_some", "_law_value"] ["_law_pool_here"] (defScope s_law_refused) := ⟨rfl, rfl, rfl, by decide +kernel, rfl, by decide +kernel, by decide +kernel⟩
theorem sc_law : FnScope ["_law_script", "_law_k", "_law_pool_here", "_law_number_here", "_law_point_here", "_law_row", "_law_text", "_law_far", "_law_corners", "_law_polygon", "_law_six", "_law_turn", "_law_one", "_law_item"] ["_law_script"] (defScope s_law) := ⟨rfl, rfl, rfl, by decide +kernel, rfl, by decide +kernel, by decide +kernel⟩
/-! ### what the top has left -/
structure Tx (K : PySem.W.Frag) (mg : Str → Option Value) : Prop where
  n_isinstance : mg "isinstance" = none
  n_int : mg "int" = none
  n_bool : mg "bool" = none
  n_tuple : mg "tuple" = none
  n_all : mg "all" = none
  n_len : mg "len" = none
  n_enumerate : mg "enumerate" = none
  n_list : mg "list" = none
  n_min : mg "min" = none
  n_max : mg "max" = none
  n_zip : mg "zip" = none
  n_range : mg "range" = none
  n_sum : mg "sum" = none
  n_abs : mg "abs" = none
  n_str : mg "str" = none
  g_is_integer : mg "is_integer" = some (.ref (He.ga K "is_integer"))
  g_check_integer : mg "check_integer" = some (.ref (He.ga K "check_integer"))
  g_is_point : mg "is_point" = some (.ref (He.ga K "is_point"))
  g_check_point : mg "check_point" = some (.ref (He.ga K "check_point"))
  g_cross_of : mg "cross_of" = some (.ref (He.ga K "cross_of"))
  g_difference : mg "difference" = some (.ref (He.ga K "difference"))
  g_turn_of : mg "turn_of" = some (.ref (He.ga K "turn_of"))
  g_check_points : mg "check_points" = some (.ref (He.ga K "check_points"))
  g_triples : mg "triples" = some (.ref (He.ga K "triples"))
  g_check_turns : mg "check_turns" = some (.ref (He.ga K "check_turns"))
  g_is_between : mg "is_between" = some (.ref (He.ga K "is_between"))
  g_is_on : mg "is_on" = some (.ref (He.ga K "is_on"))
  g_have_common_point : mg "have_common_point" = some (.ref (He.ga K "have_common_point"))
  g_edges_of : mg "edges_of" = some (.ref (He.ga K "edges_of"))
  g_check_crossings : mg "check_crossings" = some (.ref (He.ga K "check_crossings"))
  g_area_of : mg "area_of" = some (.ref (He.ga K "area_of"))
  g_arranged : mg "arranged" = some (.ref (He.ga K "arranged"))
  g_checked_corners : mg "checked_corners" = some (.ref (He.ga K "checked_corners"))
  g_first_reflex : mg "first_reflex" = some (.ref (He.ga K "first_reflex"))
  g_check_map : mg "check_map" = some (.ref (He.ga K "check_map"))
  g_check_polygon : mg "check_polygon" = some (.ref (He.ga K "check_polygon"))
  g_format_integer : mg "format_integer" = some (.ref (He.ga K "format_integer"))
  g_format_point : mg "format_point" = some (.ref (He.ga K "format_point"))
  g_format_points : mg "format_points" = some (.ref (He.ga K "format_points"))
  g_format_polygon : mg "format_polygon" = some (.ref (He.ga K "format_polygon"))
  g_format_map : mg "format_map" = some (.ref (He.ga K "format_map"))
  g_law_pool : mg "_law_pool" = some (.ref (He.ga K "_law_pool"))
  g_law_take : mg "_law_take" = some (.ref (He.ga K "_law_take"))
  g_law_number : mg "_law_number" = some (.ref (He.ga K "_law_number"))
  g_law_digits : mg "_law_digits" = some (.ref (He.ga K "_law_digits"))
  g_law_point : mg "_law_point" = some (.ref (He.ga K "_law_point"))
  g_law_pair : mg "_law_pair" = some (.ref (He.ga K "_law_pair"))
  g_law_error : mg "_law_error" = some (.ref (He.ga K "_law_error"))
  g_law_refused : mg "_law_refused" = some (.ref (He.ga K "_law_refused"))
  g_law : mg "law" = some (.ref (He.ga K "law"))
  c_MIN_CORNERS : ∃ t, mg "MIN_CORNERS" = some (.int 3 t)
  g_InvalidPolygon : mg "InvalidPolygon" = some (.ref (He.ga K "InvalidPolygon"))
  x_InvalidPolygon : OexF K (He.ga K "InvalidPolygon") (He.ma K (He.ga K "InvalidPolygon") "__init__") ["position"]
  g_DegenerateCorner : mg "DegenerateCorner" = some (.ref (He.ga K "DegenerateCorner"))
  x_DegenerateCorner : OexF K (He.ga K "DegenerateCorner") (He.ma K (He.ga K "DegenerateCorner") "__init__") ["position"]
  g_CrossingEdges : mg "CrossingEdges" = some (.ref (He.ga K "CrossingEdges"))
  x_CrossingEdges : OexF K (He.ga K "CrossingEdges") (He.ma K (He.ga K "CrossingEdges") "__init__") ["first", "second"]
  g_InvalidInteger : mg "InvalidInteger" = some (.ref (He.ga K "InvalidInteger"))
  x_InvalidInteger : ExcF K (He.ga K "InvalidInteger")
  g_InvalidPoint : mg "InvalidPoint" = some (.ref (He.ga K "InvalidPoint"))
  x_InvalidPoint : ExcF K (He.ga K "InvalidPoint")
  g_InvalidMap : mg "InvalidMap" = some (.ref (He.ga K "InvalidMap"))
  x_InvalidMap : ExcF K (He.ga K "InvalidMap")
  m_InvalidInteger_InvalidInteger : PySem.W.exmOne K (.ref (He.ga K "InvalidInteger")) (.ref (He.ga K "InvalidInteger")) = some true
  m_InvalidPoint_InvalidInteger : PySem.W.exmOne K (.ref (He.ga K "InvalidPoint")) (.ref (He.ga K "InvalidInteger")) = some false
  m_InvalidPoint_InvalidPoint : PySem.W.exmOne K (.ref (He.ga K "InvalidPoint")) (.ref (He.ga K "InvalidPoint")) = some true
  m_InvalidMap_InvalidInteger : PySem.W.exmOne K (.ref (He.ga K "InvalidMap")) (.ref (He.ga K "InvalidInteger")) = some false
  m_InvalidMap_InvalidPoint : PySem.W.exmOne K (.ref (He.ga K "InvalidMap")) (.ref (He.ga K "InvalidPoint")) = some false
  m_InvalidMap_InvalidMap : PySem.W.exmOne K (.ref (He.ga K "InvalidMap")) (.ref (He.ga K "InvalidMap")) = some true
  m_InvalidPolygon_InvalidInteger : PySem.W.exmOne K (.ref (He.ga K "InvalidPolygon")) (.ref (He.ga K "InvalidInteger")) = some false
  m_InvalidPolygon_InvalidPoint : PySem.W.exmOne K (.ref (He.ga K "InvalidPolygon")) (.ref (He.ga K "InvalidPoint")) = some false
  m_InvalidPolygon_InvalidMap : PySem.W.exmOne K (.ref (He.ga K "InvalidPolygon")) (.ref (He.ga K "InvalidMap")) = some false
  m_InvalidPolygon_InvalidPolygon : PySem.W.exmOne K (.ref (He.ga K "InvalidPolygon")) (.ref (He.ga K "InvalidPolygon")) = some true
  g_Polygon : mg "Polygon" = some (.ref (He.ga K "Polygon"))
  y_Polygon : InsTy K (He.ga K "Polygon")
  k_Polygon : Mk K (He.ga K "Polygon") (He.ma K (He.ga K "Polygon") "__init__")
  a_Polygon_kept : NoAttr K (He.ga K "Polygon") "kept"
  a_Polygon_reflex : NoAttr K (He.ga K "Polygon") "reflex"
  m_Polygon_corners : PropOf K (He.ga K "Polygon") "corners" (He.ma K (He.ga K "Polygon") "corners") (He5.wf K (He.ga K "Polygon") "property" "corners")
  cr_Polygon : ClX.CRead K (He.ga K "Polygon") (.type "type")
  cv_Polygon_MAX_CORNERS : ∃ u, ClX.CVal K (He.ga K "Polygon") (.type "type") "MAX_CORNERS" (.int 60) u
  i_Polygon : PySem.W.kitOne K (.ref (He.ga K "Polygon")) (.ref (He.ga K "Polygon")) = some true
  j_Polygon : ∀ k ∈ kds, PySem.W.kitOne K (.type k) (.ref (He.ga K "Polygon")) = some false
  nf_Polygon : PySem.W.notFirst K (He.ga K "Polygon") (.ref (He.ga K "Polygon")) = true
  nk_Polygon : ∀ k ∈ kds, PySem.W.notFirst K (He.ga K "Polygon") (.type k) = true
  g_GridMap : mg "GridMap" = some (.ref (He.ga K "GridMap"))
  y_GridMap : InsTy K (He.ga K "GridMap")
  k_GridMap : Mk K (He.ga K "GridMap") (He.ma K (He.ga K "GridMap") "__init__")
  a_GridMap_six : NoAttr K (He.ga K "GridMap") "six"
  m_GridMap_numbers : PropOf K (He.ga K "GridMap") "numbers" (He.ma K (He.ga K "GridMap") "numbers") (He5.wf K (He.ga K "GridMap") "property" "numbers")
  cr_GridMap : ClX.CRead K (He.ga K "GridMap") (.type "type")
  i_GridMap : PySem.W.kitOne K (.ref (He.ga K "GridMap")) (.ref (He.ga K "GridMap")) = some true
  j_GridMap : ∀ k ∈ kds, PySem.W.kitOne K (.type k) (.ref (He.ga K "GridMap")) = some false
  nf_GridMap : PySem.W.notFirst K (He.ga K "GridMap") (.ref (He.ga K "GridMap")) = true
  nk_GridMap : ∀ k ∈ kds, PySem.W.notFirst K (He.ga K "GridMap") (.type k) = true
  d_is_integer : FunD K "is_integer" "is_integer" (defArgs s_is_integer) (defBody s_is_integer) (defScope s_is_integer) [] [] (He.ga K "is_integer") (fdOf K (He.ga K "is_integer"))
  d_check_integer : FunD K "check_integer" "check_integer" (defArgs s_check_integer) (defBody s_check_integer) (defScope s_check_integer) [.non] [] (He.ga K "check_integer") (fdOf K (He.ga K "check_integer"))
  d_is_point : FunD K "is_point" "is_point" (defArgs s_is_point) (defBody s_is_point) (defScope s_is_point) [] [] (He.ga K "is_point") (fdOf K (He.ga K "is_point"))
  d_check_point : FunD K "check_point" "check_point" (defArgs s_check_point) (defBody s_check_point) (defScope s_check_point) [] [] (He.ga K "check_point") (fdOf K (He.ga K "check_point"))
  d_cross_of : FunD K "cross_of" "cross_of" (defArgs s_cross_of) (defBody s_cross_of) (defScope s_cross_of) [] [] (He.ga K "cross_of") (fdOf K (He.ga K "cross_of"))
  d_difference : FunD K "difference" "difference" (defArgs s_difference) (defBody s_difference) (defScope s_difference) [] [] (He.ga K "difference") (fdOf K (He.ga K "difference"))
  d_turn_of : FunD K "turn_of" "turn_of" (defArgs s_turn_of) (defBody s_turn_of) (defScope s_turn_of) [] [] (He.ga K "turn_of") (fdOf K (He.ga K "turn_of"))
  d_InvalidPolygon_init : FunD K "__init__" "InvalidPolygon.__init__" (defArgs s_InvalidPolygon_init) (defBody s_InvalidPolygon_init) (defScope s_InvalidPolygon_init) [] [] (He.ma K (He.ga K "InvalidPolygon") "__init__") (fdOf K (He.ma K (He.ga K "InvalidPolygon") "__init__"))
  d_DegenerateCorner_init : FunD K "__init__" "DegenerateCorner.__init__" (defArgs s_DegenerateCorner_init) (defBody s_DegenerateCorner_init) (defScope s_DegenerateCorner_init) [] [] (He.ma K (He.ga K "DegenerateCorner") "__init__") (fdOf K (He.ma K (He.ga K "DegenerateCorner") "__init__"))
  d_CrossingEdges_init : FunD K "__init__" "CrossingEdges.__init__" (defArgs s_CrossingEdges_init) (defBody s_CrossingEdges_init) (defScope s_CrossingEdges_init) [] [] (He.ma K (He.ga K "CrossingEdges") "__init__") (fdOf K (He.ma K (He.ga K "CrossingEdges") "__init__"))
  d_check_points : FunD K "check_points" "check_points" (defArgs s_check_points) (defBody s_check_points) (defScope s_check_points) [] [] (He.ga K "check_points") (fdOf K (He.ga K "check_points"))
  d_triples : FunD K "triples" "triples" (defArgs s_triples) (defBody s_triples) (defScope s_triples) [] [] (He.ga K "triples") (fdOf K (He.ga K "triples"))
  d_check_turns : FunD K "check_turns" "check_turns" (defArgs s_check_turns) (defBody s_check_turns) (defScope s_check_turns) [] [] (He.ga K "check_turns") (fdOf K (He.ga K "check_turns"))
  d_is_between : FunD K "is_between" "is_between" (defArgs s_is_between) (defBody s_is_between) (defScope s_is_between) [] [] (He.ga K "is_between") (fdOf K (He.ga K "is_between"))
  d_is_on : FunD K "is_on" "is_on" (defArgs s_is_on) (defBody s_is_on) (defScope s_is_on) [] [] (He.ga K "is_on") (fdOf K (He.ga K "is_on"))
  d_have_common_point : FunD K "have_common_point" "have_common_point" (defArgs s_have_common_point) (defBody s_have_common_point) (defScope s_have_common_point) [] [] (He.ga K "have_common_point") (fdOf K (He.ga K "have_common_point"))
  d_edges_of : FunD K "edges_of" "edges_of" (defArgs s_edges_of) (defBody s_edges_of) (defScope s_edges_of) [] [] (He.ga K "edges_of") (fdOf K (He.ga K "edges_of"))
  d_check_crossings : FunD K "check_crossings" "check_crossings" (defArgs s_check_crossings) (defBody s_check_crossings) (defScope s_check_crossings) [] [] (He.ga K "check_crossings") (fdOf K (He.ga K "check_crossings"))
  d_area_of : FunD K "area_of" "area_of" (defArgs s_area_of) (defBody s_area_of) (defScope s_area_of) [] [] (He.ga K "area_of") (fdOf K (He.ga K "area_of"))
  d_arranged : FunD K "arranged" "arranged" (defArgs s_arranged) (defBody s_arranged) (defScope s_arranged) [] [] (He.ga K "arranged") (fdOf K (He.ga K "arranged"))
  d_checked_corners : FunD K "checked_corners" "checked_corners" (defArgs s_checked_corners) (defBody s_checked_corners) (defScope s_checked_corners) [] [] (He.ga K "checked_corners") (fdOf K (He.ga K "checked_corners"))
  d_first_reflex : FunD K "first_reflex" "first_reflex" (defArgs s_first_reflex) (defBody s_first_reflex) (defScope s_first_reflex) [] [] (He.ga K "first_reflex") (fdOf K (He.ga K "first_reflex"))
  d_Polygon_init : FunD K "__init__" "Polygon.__init__" (defArgs s_Polygon_init) (defBody s_Polygon_init) (defScope s_Polygon_init) [] [] (He.ma K (He.ga K "Polygon") "__init__") (fdOf K (He.ma K (He.ga K "Polygon") "__init__"))
  d_Polygon_corners : FunD K "corners" "Polygon.corners" (defArgs s_Polygon_corners) (defBody s_Polygon_corners) (defScope s_Polygon_corners) [] [] (He5.wf K (He.ga K "Polygon") "property" "corners") (fdOf K (He5.wf K (He.ga K "Polygon") "property" "corners"))
  d_GridMap_init : FunD K "__init__" "GridMap.__init__" (defArgs s_GridMap_init) (defBody s_GridMap_init) (defScope s_GridMap_init) [(.int 0), (.int 0)] [] (He.ma K (He.ga K "GridMap") "__init__") (fdOf K (He.ma K (He.ga K "GridMap") "__init__"))
  d_GridMap_numbers : FunD K "numbers" "GridMap.numbers" (defArgs s_GridMap_numbers) (defBody s_GridMap_numbers) (defScope s_GridMap_numbers) [] [] (He5.wf K (He.ga K "GridMap") "property" "numbers") (fdOf K (He5.wf K (He.ga K "GridMap") "property" "numbers"))
  d_check_map : FunD K "check_map" "check_map" (defArgs s_check_map) (defBody s_check_map) (defScope s_check_map) [] [] (He.ga K "check_map") (fdOf K (He.ga K "check_map"))
  d_check_polygon : FunD K "check_polygon" "check_polygon" (defArgs s_check_polygon) (defBody s_check_polygon) (defScope s_check_polygon) [] [] (He.ga K "check_polygon") (fdOf K (He.ga K "check_polygon"))
  d_format_integer : FunD K "format_integer" "format_integer" (defArgs s_format_integer) (defBody s_format_integer) (defScope s_format_integer) [] [] (He.ga K "format_integer") (fdOf K (He.ga K "format_integer"))
  d_format_point : FunD K "format_point" "format_point" (defArgs s_format_point) (defBody s_format_point) (defScope s_format_point) [] [] (He.ga K "format_point") (fdOf K (He.ga K "format_point"))
  d_format_points : FunD K "format_points" "format_points" (defArgs s_format_points) (defBody s_format_points) (defScope s_format_points) [] [] (He.ga K "format_points") (fdOf K (He.ga K "format_points"))
  d_format_polygon : FunD K "format_polygon" "format_polygon" (defArgs s_format_polygon) (defBody s_format_polygon) (defScope s_format_polygon) [] [] (He.ga K "format_polygon") (fdOf K (He.ga K "format_polygon"))
  d_format_map : FunD K "format_map" "format_map" (defArgs s_format_map) (defBody s_format_map) (defScope s_format_map) [] [] (He.ga K "format_map") (fdOf K (He.ga K "format_map"))
  d_law_pool : FunD K "_law_pool" "_law_pool" (defArgs s_law_pool) (defBody s_law_pool) (defScope s_law_pool) [] [] (He.ga K "_law_pool") (fdOf K (He.ga K "_law_pool"))
  d_law_take : FunD K "_law_take" "_law_take" (defArgs s_law_take) (defBody s_law_take) (defScope s_law_take) [] [] (He.ga K "_law_take") (fdOf K (He.ga K "_law_take"))
  d_law_number : FunD K "_law_number" "_law_number" (defArgs s_law_number) (defBody s_law_number) (defScope s_law_number) [] [] (He.ga K "_law_number") (fdOf K (He.ga K "_law_number"))
  d_law_digits : FunD K "_law_digits" "_law_digits" (defArgs s_law_digits) (defBody s_law_digits) (defScope s_law_digits) [] [] (He.ga K "_law_digits") (fdOf K (He.ga K "_law_digits"))
  d_law_point : FunD K "_law_point" "_law_point" (defArgs s_law_point) (defBody s_law_point) (defScope s_law_point) [] [] (He.ga K "_law_point") (fdOf K (He.ga K "_law_point"))
  d_law_pair : FunD K "_law_pair" "_law_pair" (defArgs s_law_pair) (defBody s_law_pair) (defScope s_law_pair) [] [] (He.ga K "_law_pair") (fdOf K (He.ga K "_law_pair"))
  d_law_error : FunD K "_law_error" "_law_error" (defArgs s_law_error) (defBody s_law_error) (defScope s_law_error) [] [] (He.ga K "_law_error") (fdOf K (He.ga K "_law_error"))
  d_law_refused : FunD K "_law_refused" "_law_refused" (defArgs s_law_refused) (defBody s_law_refused) (defScope s_law_refused) [] [] (He.ga K "_law_refused") (fdOf K (He.ga K "_law_refused"))
  d_law : FunD K "law" "law" (defArgs s_law) (defBody s_law) (defScope s_law) [] [] (He.ga K "law") (fdOf K (He.ga K "law"))
/-- the makers of lambdas: their code objects and tables -/
class LT (K : PySem.W.Frag) (mg : Str → Option Value) (base : Heap) : Prop where
  t_law_refused : LamX.TabB base mg (codeB K (He.ga K "_law_refused")) (He.tabOf K (codeB K (He.ga K "_law_refused")))
abbrev tb_law_refused (K : PySem.W.Frag) : Addr := He.tabOf K (codeB K (He.ga K "_law_refused"))
section
variable {K : PySem.W.Frag} {mg : Str → Option Value}
theorem bn_is_integer (T : Tx K mg) : Binds K (fdOf K (He.ga K "is_integer")) ["value"] [] := T.d_is_integer.bindsN fun _ _ _ _ _ _ us hl => match us, hl with | [_], _ => rfl
theorem bd0_check_integer (T : Tx K mg) : ∃ ds, Vals [] ds ∧ Binds K (fdOf K (He.ga K "check_integer")) ["value", "least"] ds := T.d_check_integer.binds1 2 1 (List.cons_ne_nil _ _) rfl fun _ _ _ _ _ _ _ us its hu hi => match us, its, hu, hi with | [_, _], [_], _, _ => ⟨_, rfl, rfl⟩
theorem bd1_check_integer (T : Tx K mg) : ∃ ds, Vals [.non] ds ∧ Binds K (fdOf K (He.ga K "check_integer")) ["value", "least"] ds := T.d_check_integer.binds1 1 0 (List.cons_ne_nil _ _) rfl fun _ _ _ _ _ _ _ us its hu hi => match us, its, hu, hi with | [_], [_], _, _ => ⟨_, rfl, rfl⟩
theorem bn_is_point (T : Tx K mg) : Binds K (fdOf K (He.ga K "is_point")) ["value"] [] := T.d_is_point.bindsN fun _ _ _ _ _ _ us hl => match us, hl with | [_], _ => rfl
theorem bn_check_point (T : Tx K mg) : Binds K (fdOf K (He.ga K "check_point")) ["value"] [] := T.d_check_point.bindsN fun _ _ _ _ _ _ us hl => match us, hl with | [_], _ => rfl
theorem bn_cross_of (T : Tx K mg) : Binds K (fdOf K (He.ga K "cross_of")) ["first", "second"] [] := T.d_cross_of.bindsN fun _ _ _ _ _ _ us hl => match us, hl with | [_, _], _ => rfl
theorem bn_difference (T : Tx K mg) : Binds K (fdOf K (He.ga K "difference")) ["end", "start"] [] := T.d_difference.bindsN fun _ _ _ _ _ _ us hl => match us, hl with | [_, _], _ => rfl
theorem bn_turn_of (T : Tx K mg) : Binds K (fdOf K (He.ga K "turn_of")) ["first", "second", "third"] [] := T.d_turn_of.bindsN fun _ _ _ _ _ _ us hl => match us, hl with | [_, _, _], _ => rfl
theorem bn_InvalidPolygon_init (T : Tx K mg) : Binds K (fdOf K (He.ma K (He.ga K "InvalidPolygon") "__init__")) ["self", "position"] [] := T.d_InvalidPolygon_init.bindsN fun _ _ _ _ _ _ us hl => match us, hl with | [_, _], _ => rfl
theorem bn_DegenerateCorner_init (T : Tx K mg) : Binds K (fdOf K (He.ma K (He.ga K "DegenerateCorner") "__init__")) ["self", "position"] [] := T.d_DegenerateCorner_init.bindsN fun _ _ _ _ _ _ us hl => match us, hl with | [_, _], _ => rfl
theorem bn_CrossingEdges_init (T : Tx K mg) : Binds K (fdOf K (He.ma K (He.ga K "CrossingEdges") "__init__")) ["self", "first", "second"] [] := T.d_CrossingEdges_init.bindsN fun _ _ _ _ _ _ us hl => match us, hl with | [_, _, _], _ => rfl
theorem bn_check_points (T : Tx K mg) : Binds K (fdOf K (He.ga K "check_points")) ["value"] [] := T.d_check_points.bindsN fun _ _ _ _ _ _ us hl => match us, hl with | [_], _ => rfl
theorem bn_triples (T : Tx K mg) : Binds K (fdOf K (He.ga K "triples")) ["corners"] [] := T.d_triples.bindsN fun _ _ _ _ _ _ us hl => match us, hl with | [_], _ => rfl
theorem bn_check_turns (T : Tx K mg) : Binds K (fdOf K (He.ga K "check_turns")) ["corners"] [] := T.d_check_turns.bindsN fun _ _ _ _ _ _ us hl => match us, hl with | [_], _ => rfl
theorem bn_is_between (T : Tx K mg) : Binds K (fdOf K (He.ga K "is_between")) ["point", "start", "end"] [] := T.d_is_between.bindsN fun _ _ _ _ _ _ us hl => match us, hl with | [_, _, _], _ => rfl
theorem bn_is_on (T : Tx K mg) : Binds K (fdOf K (He.ga K "is_on")) ["point", "start", "end"] [] := T.d_is_on.bindsN fun _ _ _ _ _ _ us hl => match us, hl with | [_, _, _], _ => rfl
theorem bn_have_common_point (T : Tx K mg) : Binds K (fdOf K (He.ga K "have_common_point")) ["first", "second"] [] := T.d_have_common_point.bindsN fun _ _ _ _ _ _ us hl => match us, hl with | [_, _], _ => rfl
theorem bn_edges_of (T : Tx K mg) : Binds K (fdOf K (He.ga K "edges_of")) ["corners"] [] := T.d_edges_of.bindsN fun _ _ _ _ _ _ us hl => match us, hl with | [_], _ => rfl
theorem bn_check_crossings (T : Tx K mg) : Binds K (fdOf K (He.ga K "check_crossings")) ["corners"] [] := T.d_check_crossings.bindsN fun _ _ _ _ _ _ us hl => match us, hl with | [_], _ => rfl
theorem bn_area_of (T : Tx K mg) : Binds K (fdOf K (He.ga K "area_of")) ["corners"] [] := T.d_area_of.bindsN fun _ _ _ _ _ _ us hl => match us, hl with | [_], _ => rfl
theorem bn_arranged (T : Tx K mg) : Binds K (fdOf K (He.ga K "arranged")) ["corners"] [] := T.d_arranged.bindsN fun _ _ _ _ _ _ us hl => match us, hl with | [_], _ => rfl
theorem bn_checked_corners (T : Tx K mg) : Binds K (fdOf K (He.ga K "checked_corners")) ["corners", "limit"] [] := T.d_checked_corners.bindsN fun _ _ _ _ _ _ us hl => match us, hl with | [_, _], _ => rfl
theorem bn_first_reflex (T : Tx K mg) : Binds K (fdOf K (He.ga K "first_reflex")) ["corners"] [] := T.d_first_reflex.bindsN fun _ _ _ _ _ _ us hl => match us, hl with | [_], _ => rfl
theorem bn_Polygon_init (T : Tx K mg) : Binds K (fdOf K (He.ma K (He.ga K "Polygon") "__init__")) ["self", "corners"] [] := T.d_Polygon_init.bindsN fun _ _ _ _ _ _ us hl => match us, hl with | [_, _], _ => rfl
theorem bn_Polygon_corners (T : Tx K mg) : Binds K (fdOf K (He5.wf K (He.ga K "Polygon") "property" "corners")) ["self"] [] := T.d_Polygon_corners.bindsN fun _ _ _ _ _ _ us hl => match us, hl with | [_], _ => rfl
theorem bd0_GridMap_init (T : Tx K mg) : ∃ ds, Vals [] ds ∧ Binds K (fdOf K (He.ma K (He.ga K "GridMap") "__init__")) ["self", "a", "b", "c", "d", "e", "f"] ds := T.d_GridMap_init.binds1 7 2 (List.cons_ne_nil _ _) rfl fun _ _ _ _ _ _ _ us its hu hi => match us, its, hu, hi with | [_, _, _, _, _, _, _], [_, _], _, _ => ⟨_, rfl, rfl⟩
theorem bd1_GridMap_init (T : Tx K mg) : ∃ ds, Vals [(.int 0)] ds ∧ Binds K (fdOf K (He.ma K (He.ga K "GridMap") "__init__")) ["self", "a", "b", "c", "d", "e", "f"] ds := T.d_GridMap_init.binds1 6 1 (List.cons_ne_nil _ _) rfl fun _ _ _ _ _ _ _ us its hu hi => match us, its, hu, hi with | [_, _, _, _, _, _], [_, _], _, _ => ⟨_, rfl, rfl⟩
theorem bd2_GridMap_init (T : Tx K mg) : ∃ ds, Vals [(.int 0), (.int 0)] ds ∧ Binds K (fdOf K (He.ma K (He.ga K "GridMap") "__init__")) ["self", "a", "b", "c", "d", "e", "f"] ds := T.d_GridMap_init.binds1 5 0 (List.cons_ne_nil _ _) rfl fun _ _ _ _ _ _ _ us its hu hi => match us, its, hu, hi with | [_, _, _, _, _], [_, _], _, _ => ⟨_, rfl, rfl⟩
theorem bn_GridMap_numbers (T : Tx K mg) : Binds K (fdOf K (He5.wf K (He.ga K "GridMap") "property" "numbers")) ["self"] [] := T.d_GridMap_numbers.bindsN fun _ _ _ _ _ _ us hl => match us, hl with | [_], _ => rfl
theorem bn_check_map (T : Tx K mg) : Binds K (fdOf K (He.ga K "check_map")) ["value"] [] := T.d_check_map.bindsN fun _ _ _ _ _ _ us hl => match us, hl with | [_], _ => rfl
theorem bn_check_polygon (T : Tx K mg) : Binds K (fdOf K (He.ga K "check_polygon")) ["value"] [] := T.d_check_polygon.bindsN fun _ _ _ _ _ _ us hl => match us, hl with | [_], _ => rfl
theorem bn_format_integer (T : Tx K mg) : Binds K (fdOf K (He.ga K "format_integer")) ["number"] [] := T.d_format_integer.bindsN fun _ _ _ _ _ _ us hl => match us, hl with | [_], _ => rfl
theorem bn_format_point (T : Tx K mg) : Binds K (fdOf K (He.ga K "format_point")) ["point"] [] := T.d_format_point.bindsN fun _ _ _ _ _ _ us hl => match us, hl with | [_], _ => rfl
theorem bn_format_points (T : Tx K mg) : Binds K (fdOf K (He.ga K "format_points")) ["points"] [] := T.d_format_points.bindsN fun _ _ _ _ _ _ us hl => match us, hl with | [_], _ => rfl
theorem bn_format_polygon (T : Tx K mg) : Binds K (fdOf K (He.ga K "format_polygon")) ["polygon"] [] := T.d_format_polygon.bindsN fun _ _ _ _ _ _ us hl => match us, hl with | [_], _ => rfl
theorem bn_format_map (T : Tx K mg) : Binds K (fdOf K (He.ga K "format_map")) ["grid_map"] [] := T.d_format_map.bindsN fun _ _ _ _ _ _ us hl => match us, hl with | [_], _ => rfl
theorem bn_law_pool (T : Tx K mg) : Binds K (fdOf K (He.ga K "_law_pool")) ["_law_script", "_law_k"] [] := T.d_law_pool.bindsN fun _ _ _ _ _ _ us hl => match us, hl with | [_, _], _ => rfl
theorem bn_law_take (T : Tx K mg) : Binds K (fdOf K (He.ga K "_law_take")) ["_law_pool_here", "_law_bound"] [] := T.d_law_take.bindsN fun _ _ _ _ _ _ us hl => match us, hl with | [_, _], _ => rfl
theorem bn_law_number (T : Tx K mg) : Binds K (fdOf K (He.ga K "_law_number")) ["_law_pool_here"] [] := T.d_law_number.bindsN fun _ _ _ _ _ _ us hl => match us, hl with | [_], _ => rfl
theorem bn_law_digits (T : Tx K mg) : Binds K (fdOf K (He.ga K "_law_digits")) ["_law_number_here"] [] := T.d_law_digits.bindsN fun _ _ _ _ _ _ us hl => match us, hl with | [_], _ => rfl
theorem bn_law_point (T : Tx K mg) : Binds K (fdOf K (He.ga K "_law_point")) ["_law_pool_here"] [] := T.d_law_point.bindsN fun _ _ _ _ _ _ us hl => match us, hl with | [_], _ => rfl
theorem bn_law_pair (T : Tx K mg) : Binds K (fdOf K (He.ga K "_law_pair")) ["_law_point_here"] [] := T.d_law_pair.bindsN fun _ _ _ _ _ _ us hl => match us, hl with | [_], _ => rfl
theorem bn_law_error (T : Tx K mg) : Binds K (fdOf K (He.ga K "_law_error")) ["_law_call"] [] := T.d_law_error.bindsN fun _ _ _ _ _ _ us hl => match us, hl with | [_], _ => rfl
theorem bn_law_refused (T : Tx K mg) : Binds K (fdOf K (He.ga K "_law_refused")) ["_law_pool_here"] [] := T.d_law_refused.bindsN fun _ _ _ _ _ _ us hl => match us, hl with | [_], _ => rfl
end
end G
/-! ### the walk: one step; all plain steps -/
open PySem PySem.Spec PyProof.Rows L2 G
local macro_rules | `(tactic| walk_at "g1") => `(tactic| first
  | (with_reducible refine' r_seq ?_)
  | (with_reducible refine' r_asg ?_)
  | (with_reducible refine' r_ifs ?_)
  | (with_reducible refine' r_test ?_)
  | (with_reducible refine' r_op ?_)
  | ((with_reducible refine' r_var ?h ?_); (case h => exact rfl))
  | (with_reducible refine' r_c ?_)
  | (with_reducible refine' r_I0 ?_)
  | (with_reducible refine' r_bl ?_)
  | (with_reducible refine' r_cons ?_)
  | (with_reducible refine' r_nil ?_)
  | (with_reducible refine' r_gname ?_)
  | (with_reducible refine' r_next ?_)
  | (with_reducible refine' r_ret ?_)
  | (with_reducible refine' r_un ?_)
  | (with_reducible refine' r_U ?_)
  | (with_reducible refine' r_cb ?_)
  | (with_reducible refine' r_call ?_)
  | (with_reducible refine' r_callS ?_)
  | (with_reducible refine' r_callR ?_)
  | (with_reducible refine' r_methA ?_)
  | (with_reducible refine' r_makeA ?_)
  | ((with_reducible refine' r_makeL ?h ?_); (case h => exact rfl))
  | (with_reducible refine' r_cmethA ?_)
  | (with_reducible refine' r_cval ?_)
  | (with_reducible refine' r_prop ?_)
  | (with_reducible refine' r_propG ?_)
  | (with_reducible refine' r_methG ?_)
  | (with_reducible refine' r_fld ?_)
  | (with_reducible refine' r_sfld ?_)
  | (with_reducible refine' r_lst ?_)
  | (with_reducible refine' r_tup ?_)
  | (with_reducible refine' r_drop ?_)
  | (with_reducible refine' r_sub ?_)
  | (with_reducible refine' r_and ?_)
  | (with_reducible refine' r_or ?_)
  | (with_reducible refine' r_not ?_)
  | (with_reducible refine' r_andV ?_)
  | (with_reducible refine' r_orV ?_)
  | (with_reducible refine' r_notV ?_)
  | (with_reducible refine' r_if ?_)
  | (with_reducible refine' r_tB ?_)
  | ((with_reducible refine' r_aug ?h ?_); (case h => exact rfl))
  | (with_reducible refine' r_ipI ?_)
  | (with_reducible refine' r_gcons ?_)
  | (with_reducible refine' r_gnil ?_)
  | ((with_reducible refine' r_gtup ?h1 ?_ ?h2); (case h1 => exact SqT.of (by assumption)); (case h2 => exact rfl))
  | ((with_reducible refine' r_gtup ?h1 ?_ ?h2); (case h1 => assumption); (case h2 => exact rfl))
  | (with_reducible refine' r_par ?_)
  | (with_reducible refine' r_two ?_)
  | (with_reducible refine' r_abs ?_)
  | (with_reducible refine' r_intB ?_)
  | (with_reducible refine' r_intI ?_)
  | (with_reducible refine' r_max2 ?_)
  | (with_reducible refine' r_min2 ?_)
  | (with_reducible refine' r_tru ?_)
  | (with_reducible refine' r_truI ?_)
  | (with_reducible refine' r_isN ?_)
  | (with_reducible refine' r_notN ?_)
  | (with_reducible refine' r_isB ?_)
  | (with_reducible refine' r_notB ?_)
  | (with_reducible refine' r_forR1 ?_)
  | (with_reducible refine' r_forR2 ?_)
  | (with_reducible refine' r_forL ?_)
  | (with_reducible refine' r_forT ?_)
  | (with_reducible refine' r_forZ ?_)
  | (with_reducible refine' r_forE ?_)
  | (with_reducible refine' r_lcE ?_)
  | (with_reducible refine' r_lcZ3 ?_)
  | (with_reducible refine' r_ost ?_)
  | (with_reducible refine' r_bm ?_)
  | (with_reducible refine' r_xf ?_)
  | (with_reducible refine' r_sl ?_)
  | (with_reducible refine' r_noPart ?_)
  | (with_reducible refine' r_part ?_)
  | (with_reducible refine' r_partI ?_)
  | (with_reducible refine' r_lcR1 ?_)
  | (with_reducible refine' r_lcR2 ?_)
  | (with_reducible refine' r_lcL ?_)
  | (with_reducible refine' r_lcT ?_)
  | (with_reducible refine' r_eqI ?_)
  | (with_reducible refine' r_neI ?_)
  | ((with_reducible refine' r_eq ?h ?_); (case h => exact rfl))
  | ((with_reducible refine' r_ne ?h ?_); (case h => exact rfl)))
local macro_rules | `(tactic| walk_at "g") => `(tactic| repeat walk_at "g1")
local macro_rules | `(tactic| walk_at "ix") => `(tactic| first
  | ((with_reducible refine' r_ixL ?h1 ?h2 ?_); (case h1 => exact SqL.of (by assumption)); (case h2 => exact rfl))
  | ((with_reducible refine' r_ixT ?h1 ?h2 ?_); (case h1 => exact SqT.of (by assumption)); (case h2 => exact rfl))
  | ((with_reducible refine' r_ixL ?h1 ?h2 ?_); (case h1 => exact SqL.of upd_same); (case h2 => exact rfl))
  | ((with_reducible refine' r_ixL ?h1 ?h2 ?_); (case h1 => assumption); (case h2 => exact rfl))
  | ((with_reducible refine' r_ixT ?h1 ?h2 ?_); (case h1 => assumption); (case h2 => exact rfl)))
local macro_rules | `(tactic| walk_at "gx") => `(tactic| repeat (first | walk_at "g1" | walk_at "ix"))
local macro_rules | `(tactic| walk_at "g0") => `(tactic| repeat (first | (with_reducible refine' r_asg ?_) | (with_reducible refine' r_gname ?_) | (with_reducible refine' r_next ?_)))
local macro_rules | `(tactic| walk_at "st") => `(tactic| ((with_reducible refine' r_gnameS ?h ?_); (case h => simp only [List.set_cons_zero, List.set_cons_succ]; exact rfl)))
local macro_rules | `(tactic| walk_at "gs") => `(tactic| repeat (first | walk_at "st" | walk_at "g1" | walk_at "ix"))
local macro_rules | `(tactic| walk_at "s0") => `(tactic| ((refine' r_st ?h ?_); (case h => simp only [L2.start, List.map_cons, List.map_nil, List.length_cons, List.length_nil, List.replicate, List.cons_append, List.nil_append, Nat.reduceAdd, Nat.reduceSub, Nat.zero_add]; exact rfl)))
namespace G
open PySem PySem.Spec PyProof.Rows L2
section
variable {P : Program} {w : World} {K : PySem.W.Frag} {mg : Str → Option Value} {base : Heap}
/-! #### is_integer -/
def sp_is_integer (K : PySem.W.Frag) : Sp := fun vs H Q _ => ∃ (v : V) (n : String), vs = [v] ∧ Kd K H v n ∧ Q (.bl (isI v)) H
theorem ok_is_integer (T : Tx K mg) : FnOk P w K mg base CX0 1 (He.ga K "is_integer") (fdOf K (He.ga K "is_integer")) ["value"] (sp_is_integer K) := by
  refine T.d_is_integer.ok sc_is_integer (fun vs H Q E h => ?_) (fun cdv A outer s H vs Q E hr h => ?_)
  · obtain ⟨v, n, rfl, _⟩ := h
    rfl
  · obtain ⟨v, n, rfl, kd, q⟩ := h
    refine ⟨_, PSs.nox (pss_one (ps_ret (pe_and (pe_callB (kIsi (K := K)) (by rfl) T.n_isinstance (by decide +kernel) (pa_cons (pv 0) (pa_cons (pe_bltn (v := .ty "int") (by rfl) T.n_int (by decide +kernel) rfl) pa_nil))) (pe_one (pe_not (pe_callB (kIsi (K := K)) (by rfl) T.n_isinstance (by decide +kernel) (pa_cons (pv 0) (pa_cons (pe_bltn (v := .ty "bool") (by rfl) T.n_bool (by decide +kernel) rfl) pa_nil)))))))), ?_⟩
    obtain ⟨k1, k2, _, _, e⟩ := kd.kit
    walk_at "g"
    refine r_isi (.ty "int") kd.ty k1 ?_
    walk_at "g"
    refine r_b (fun hb => ?_) (fun hb => ?_)
    · walk_at "g"
      refine r_isi (.ty "bool") kd.ty k2 ?_
      walk_at "g"
      rw [hb, Bool.true_and] at e
      rw [← e]
      exact q
    · rw [hb, Bool.false_and] at e
      rw [← e]
      exact q
/-! #### check_integer -/
def goodI (v l : V) : Bool := match v with
  | .int i => (match l with | .int m => decide (m ≤ i) | _ => true)
  | _ => false
def sp_check_integer (K : PySem.W.Frag) : Sp := fun vs H Q E => ∃ (v l : V) (n : String), vs = [v, l] ∧ Kd K H v n ∧ (l = .non ∨ ∃ m, l = .int m) ∧ (goodI v l = true → Q .non H) ∧ (goodI v l = false → E (.ref (He.ga K "InvalidInteger")) none H)
theorem ok_check_integer (T : Tx K mg) : FnOk P w K mg base (L2.CX P w) 2 (He.ga K "check_integer") (fdOf K (He.ga K "check_integer")) ["value", "least"] (sp_check_integer K) := by
  refine T.d_check_integer.ok sc_check_integer (fun vs H Q E h => ?_) (fun cdv A outer s H vs Q E hr h => ?_)
  · obtain ⟨v, l, n, rfl, _⟩ := h
    rfl
  · obtain ⟨v, l, n, rfl, kd, hl, q1, q2⟩ := h
    refine ⟨_, (pss_one (ps_if (PW.pt (pw_or (pt_not (pt_val (pe_call (ok_is_integer (K := K) T) (hr.mono (by decide)) rfl T.g_is_integer T.d_is_integer.kp (bn_is_integer T) .nil pass0 (pa_cons (pv 0) pa_nil)))) (pw_or1 (PW.pt (pw_and (pt_cmpR op_notN1 (pv 1) pe_non (nomark _)) (pw_and1 (pt_cmpR op_lt (pv 0) (pv 1) (nomark _)))))))) (pss_one (ps_raise rfl (takes_of rfl rfl rfl rfl) (pmk_own PySem.F.excBase_ValueError T.x_InvalidInteger.x T.g_InvalidInteger T.x_InvalidInteger.k (raises_own T.x_InvalidInteger.b T.x_InvalidInteger.t) rfl))) pss_nil)), ?_⟩
    walk_at "g"
    refine ⟨v, n, rfl, kd, ?_⟩
    walk_at "g"
    cases v with
    | int i =>
      show if (!true) = true then _ else _
      refine iteF ?_
      walk_at "g"
      rcases hl with rfl | ⟨m, rfl⟩
      · exact q1 rfl
      · refine iteT ?_
        walk_at "g"
        refine r_dec (fun h => q2 (decide_eq_false (by omega))) (fun h => q1 (decide_eq_true (by omega)))
    | _ => exact q2 rfl
/-! #### is_point -/
def sp_is_point (K : PySem.W.Frag) : Sp := fun vs H Q _ => ∃ (v : V) (b : Bool), vs = [v] ∧ PtB K H v b ∧ ∀ H', Same H H' → Q (.bl b) H'
theorem kd_isi {H : Hp} {v : V} {n : String} (k : Kd K H v n) (c : String) (b : Bool) (hc : kitB n c = some b) {Q : VK} (q : Q (.bl b) H) : rIsi K [v, .ty c] H Q := r_isi (.ty c) k.ty (kit_ty hc) q
theorem ok_is_point (T : Tx K mg) : FnOk P w K mg base CX0 2 (He.ga K "is_point") (fdOf K (He.ga K "is_point")) ["value"] (sp_is_point K) := by
  refine T.d_is_point.ok sc_is_point (fun vs H Q E h => ?_) (fun cdv A outer s H vs Q E hr h => ?_)
  · obtain ⟨v, b, rfl, _⟩ := h
    rfl
  · obtain ⟨v, b, rfl, hb, q⟩ := h
    refine ⟨_, PSs.nox (pss_one (ps_ret (pe_and (pe_callB (kIsi (K := K)) (by rfl) T.n_isinstance (by decide +kernel) (pa_cons (pv 0) (pa_cons (pe_bltn (v := .ty "tuple") (by rfl) T.n_tuple (by decide +kernel) rfl) pa_nil))) (pe_and (pe_cmpR op_eq (pe_callB (kLen (K := K)) (by rfl) T.n_len (by decide +kernel) (pa_cons (pv 0) pa_nil)) pe_int (nomark _)) (pe_one (pe_callB (kAll (K := K) rfl) (by rfl) T.n_all (by decide +kernel) (pa_cons (pe_lc (own := [("item", 1)]) (g := (gName 1)) (tt := tYes) rfl sc_is_point.nd (kpiT (K := K) (pv 0)) (blkOk_by (own := [("item", 1)]) (N := ["value", "item"]) (sc := defScope s_is_point) (by decide +kernel)) (fun _ _ _ _ _ => (pg_name (i := 1) sc_is_point.nd rfl (Or.inl rfl))) (fun _ _ _ _ _ => pts_nil) (fun _ _ _ _ _ => (pe_call (ok_is_integer (K := K) T) (hr.mono (by decide)) rfl T.g_is_integer T.d_is_integer.kp (bn_is_integer T) .nil pass0 (pa_cons (pv 1) pa_nil)))) pa_nil))))))), ?_⟩
    have two : ∀ (p : Addr) (x y : V) (m n : String), SqT K H p [x, y] → Kd K H x m → Kd K H y n → (isI x && isI y) = b → v = .ref p → tAndV (tOp rEq (tCB (rLn K) (tCons (tVar 0) tNil)) (tC (V.int 2))) (tCB (rAll K) (tCons (tLc (iTup K (tVar 0)) (gName 1) tYes (tCall (sp_is_integer K) [] E0 (tCons (tVar 1) tNil)) [1]) tNil)) [some v, none] H Q := by
      rintro p x y m n hs kx ky hi rfl
      walk_at "gx"
      refine r_lenT hs ?_
      walk_at "gx"
      refine r_dec (fun _ => ?_) (fun h => absurd rfl h)
      walk_at "gx"
      refine compT (xs := [x, y]) (by show 2 ≤ 100000; decide) (fun D i acc H' => Same H H' ∧ acc = ([isI x, isI y].take i).map V.bl) hs (fun D hD => ⟨same_new (Same.refl H) hD, rfl⟩) (fun D i acc H' _ p => sqT_same p.1 hs) ?_ ?_
      · rintro D i z acc H1 hD hz hi2 ⟨S1, rfl⟩ hacc hl
        refine r_gname ⟨rfl, ?_⟩
        walk_at "gx"
        have hi2 : i < 2 := hi2
        have kz : ∃ k, Kd K H1 z k := by
          have hz := List.mem_of_getElem? hz
          simp only [List.mem_cons, List.not_mem_nil, or_false] at hz
          rcases hz with rfl | rfl
          · exact ⟨_, kx.same S1⟩
          · exact ⟨_, ky.same S1⟩
        obtain ⟨k, kz⟩ := kz
        refine ⟨_, _, rfl, kz, ?_⟩
        refine cnext hacc hl (by omega) ⟨fun c o e => ?_, ?_⟩
        · rw [upd_ne (ne_of_none e hD)]
          exact S1 c o e
        · rcases (show i = 0 ∨ i = 1 by omega) with rfl | rfl
          · cases hz; rfl
          · cases hz; rfl
      · rintro D acc H1 hD ⟨S1, rfl⟩ hacc hl
        refine ⟨D, [isI x, isI y], rfl, SqL.of hacc, ?_⟩
        have e : [isI x, isI y].all id = b := by
          show (isI x && (isI y && true)) = b
          rw [Bool.and_true]; exact hi
        rw [e]
        exact q H1 S1
    walk_at "gx"
    cases hb with
    | yes p hp =>
      obtain ⟨a, rfl, hs⟩ := hp.pt_of
      refine kd_isi (.tup hs) _ true (by decide +kernel) ?_
      refine ⟨true, rfl, iteT ?_⟩
      exact two a _ _ _ _ hs (.int _) (.int _) rfl rfl
    | kind k hn =>
      refine kd_isi k _ false ?_ ?_
      · cases k with
        | tup e => exact absurd rfl hn
        | non => decide +kernel
        | bl x => decide +kernel
        | int x => decide +kernel
        | str x => decide +kernel
        | lst x => decide +kernel
        | dK x => decide +kernel
      · refine ⟨false, rfl, iteF ?_⟩
        exact q _ (Same.refl H)
    | @len a xs hs hn =>
      refine kd_isi (.tup hs) _ true (by decide +kernel) ?_
      refine ⟨true, rfl, iteT ?_⟩
      walk_at "gx"
      refine r_lenT hs ?_
      walk_at "gx"
      refine r_dec (fun h => absurd h (by omega)) (fun h => ?_)
      exact q _ (Same.refl H)
    | item hs kx ky hi =>
      refine kd_isi (.tup hs) _ true (by decide +kernel) ?_
      refine ⟨true, rfl, iteT ?_⟩
      exact two _ _ _ _ _ hs kx ky hi rfl
/-! #### check_point -/
def sp_check_point (K : PySem.W.Frag) : Sp := fun vs H Q E => ∃ (v : V) (b : Bool), vs = [v] ∧ PtB K H v b ∧ (b = true → ∀ H', Same H H' → Q .non H') ∧ (b = false → ∀ H', Same H H' → E (.ref (He.ga K "InvalidPoint")) none H')
theorem ok_check_point (T : Tx K mg) : FnOk P w K mg base (L2.CX P w) 3 (He.ga K "check_point") (fdOf K (He.ga K "check_point")) ["value"] (sp_check_point K) := by
  refine T.d_check_point.ok sc_check_point (fun vs H Q E h => ?_) (fun cdv A outer s H vs Q E hr h => ?_)
  · obtain ⟨v, b, rfl, _⟩ := h
    rfl
  · obtain ⟨v, b, rfl, hb, q1, q2⟩ := h
    refine ⟨_, (pss_one (ps_if (pt_not (pt_val (pe_call (ok_is_point (K := K) T) (hr.mono (by decide)) rfl T.g_is_point T.d_is_point.kp (bn_is_point T) .nil pass0 (pa_cons (pv 0) pa_nil)))) (pss_one (ps_raise rfl (takes_of rfl rfl rfl rfl) (pmk_own PySem.F.excBase_ValueError T.x_InvalidPoint.x T.g_InvalidPoint T.x_InvalidPoint.k (raises_own T.x_InvalidPoint.b T.x_InvalidPoint.t) rfl))) pss_nil)), ?_⟩
    walk_at "gx"
    refine ⟨v, b, rfl, hb, fun H1 s1 => ?_⟩
    walk_at "gx"
    cases b with
    | true => exact q1 rfl H1 s1
    | false => exact q2 rfl H1 s1
/-! #### cross_of -/
def sp_cross_of (K : PySem.W.Frag) : Sp := fun vs H Q _ => ∃ (v u : V) (p q : Int × Int), vs = [v, u] ∧ Hd K H v p ∧ Hd K H u q ∧ PBd 100000 p ∧ PBd 100000 q ∧ Q (.int (crs p q)) H
theorem ok_cross_of (T : Tx K mg) : FnOk P w K mg base CX0 1 (He.ga K "cross_of") (fdOf K (He.ga K "cross_of")) ["first", "second"] (sp_cross_of K) := by
  refine T.d_cross_of.ok sc_cross_of (fun vs H Q E h => ?_) (fun cdv A outer s H vs Q E hr h => ?_)
  · obtain ⟨v, u, p, q, rfl, _⟩ := h
    rfl
  · obtain ⟨v, u, p, q, rfl, hp, hq, bp, bq, k⟩ := h
    obtain ⟨a, rfl, ha⟩ := hp.pt_of
    obtain ⟨b, rfl, hb⟩ := hq.pt_of
    refine ⟨_, PSs.nox (pss_one (ps_ret (pe_op op_sub (pe_op op_mulA (pe_ix (kIxT (K := K)) (pv 0) pe_int (fun _ _ => rfl)) (pe_ix (kIxT (K := K)) (pv 1) pe_int (fun _ _ => rfl))) (pe_op op_mulA (pe_ix (kIxT (K := K)) (pv 0) pe_int (fun _ _ => rfl)) (pe_ix (kIxT (K := K)) (pv 1) pe_int (fun _ _ => rfl)))))), ?_⟩
    walk_at "gx"
    refine r_I (bp.1.ok bq.2) ?_
    walk_at "gx"
    refine r_I (bp.2.ok bq.1) ?_
    walk_at "gx"
    exact k
/-! #### difference -/
def sp_difference (K : PySem.W.Frag) : Sp := fun vs H Q _ => ∃ (v u : V) (p q : Pt), vs = [v, u] ∧ Hd K H v p ∧ Hd K H u q ∧ ∀ r H', Same H H' → Hd K H' r (dif p q) → Q r H'
theorem ok_difference (T : Tx K mg) : FnOk P w K mg base CX0 1 (He.ga K "difference") (fdOf K (He.ga K "difference")) ["end", "start"] (sp_difference K) := by
  refine T.d_difference.ok sc_difference (fun vs H Q E h => ?_) (fun cdv A outer s H vs Q E hr h => ?_)
  · obtain ⟨v, u, p, q, rfl, _⟩ := h
    rfl
  · obtain ⟨v, u, p, q, rfl, hp, hq, k⟩ := h
    obtain ⟨a, rfl, ha⟩ := hp.pt_of
    obtain ⟨b, rfl, hb⟩ := hq.pt_of
    refine ⟨_, PSs.nox (pss_one (ps_ret (pe_tup (pa_cons (pe_op op_sub (pe_ix (kIxT (K := K)) (pv 0) pe_int (fun _ _ => rfl)) (pe_ix (kIxT (K := K)) (pv 1) pe_int (fun _ _ => rfl))) (pa_cons (pe_op op_sub (pe_ix (kIxT (K := K)) (pv 0) pe_int (fun _ _ => rfl)) (pe_ix (kIxT (K := K)) (pv 1) pe_int (fun _ _ => rfl))) pa_nil))))), ?_⟩
    walk_at "gx"
    refine r_new fun t ht => ?_
    generalize e2 : upd H t _ = H2
    obtain ⟨s2, g2⟩ := fresh ht e2
    exact k _ _ s2 (hd_pair (SqT.of g2) hd_int hd_int)
/-! #### turn_of -/
def sp_turn_of (K : PySem.W.Frag) : Sp := fun vs H Q _ => ∃ (u v w : V) (a b c : Pt), vs = [u, v, w] ∧ Hd K H u a ∧ Hd K H v b ∧ Hd K H w c ∧ PBd 90000 a ∧ PBd 90000 b ∧ PBd 90000 c ∧ ∀ H', Same H H' → Q (.int (trn a b c)) H'
theorem ok_turn_of (T : Tx K mg) : FnOk P w K mg base CX0 2 (He.ga K "turn_of") (fdOf K (He.ga K "turn_of")) ["first", "second", "third"] (sp_turn_of K) := by
  refine T.d_turn_of.ok sc_turn_of (fun vs H Q E h => ?_) (fun cdv A outer s H vs Q E hr h => ?_)
  · obtain ⟨u, v, w, a, b, c, rfl, _⟩ := h
    rfl
  · obtain ⟨u, v, w, a, b, c, rfl, ha, hb, hc, ba, bb, bc, q⟩ := h
    refine ⟨_, PSs.nox (pss_one (ps_ret (pe_call (ok_cross_of (K := K) T) (hr.mono (by decide)) rfl T.g_cross_of T.d_cross_of.kp (bn_cross_of T) .nil pass0 (pa_cons (pe_call (ok_difference (K := K) T) (hr.mono (by decide)) rfl T.g_difference T.d_difference.kp (bn_difference T) .nil pass0 (pa_cons (pv 1) (pa_cons (pv 0) pa_nil))) (pa_cons (pe_call (ok_difference (K := K) T) (hr.mono (by decide)) rfl T.g_difference T.d_difference.kp (bn_difference T) .nil pass0 (pa_cons (pv 2) (pa_cons (pv 1) pa_nil))) pa_nil))))), ?_⟩
    walk_at "gx"
    refine ⟨_, _, b, a, rfl, hb, ha, fun r1 H1 s1 h1 => ?_⟩
    walk_at "gx"
    refine ⟨_, _, c, b, rfl, hc.same s1, hb.same s1, fun r2 H2 s2 h2 => ?_⟩
    walk_at "gx"
    exact ⟨_, _, _, _, rfl, h1.same s2, h2, (bb.dif ba).mono (by decide), (bc.dif bb).mono (by decide), q H2 (s1.trans s2)⟩
/-! #### InvalidPolygon.__init__ -/
theorem ok_InvalidPolygon_init (T : Tx K mg) : FnOk P w K mg base CX0 1 (He.ma K (He.ga K "InvalidPolygon") "__init__") (fdOf K (He.ma K (He.ga K "InvalidPolygon") "__init__")) ["self", "position"] (spX1 (He.ga K "InvalidPolygon") "position") := by
  refine T.d_InvalidPolygon_init.ok sc_InvalidPolygon_init (fun vs H Q E h => ?_) (fun cdv A outer s H vs Q E hr h => ?_)
  · obtain ⟨a, v, rfl, _⟩ := h
    rfl
  · obtain ⟨a, v, rfl, ha, q⟩ := h
    refine ⟨_, PSs.nox (pss_one (kOst (K := K) (ps_ost (pv 0) (pv 1)))), ?_⟩
    walk_at "gx"
    exact ⟨a, _, rfl, T.x_InvalidPolygon.o, T.x_InvalidPolygon.n _ (by simp), .inl ⟨ha, fun dx h1 h2 => q dx h1 h2⟩⟩
/-! #### DegenerateCorner.__init__ -/
theorem ok_DegenerateCorner_init (T : Tx K mg) : FnOk P w K mg base CX0 1 (He.ma K (He.ga K "DegenerateCorner") "__init__") (fdOf K (He.ma K (He.ga K "DegenerateCorner") "__init__")) ["self", "position"] (spX1 (He.ga K "DegenerateCorner") "position") := by
  refine T.d_DegenerateCorner_init.ok sc_DegenerateCorner_init (fun vs H Q E h => ?_) (fun cdv A outer s H vs Q E hr h => ?_)
  · obtain ⟨a, v, rfl, _⟩ := h
    rfl
  · obtain ⟨a, v, rfl, ha, q⟩ := h
    refine ⟨_, PSs.nox (pss_one (kOst (K := K) (ps_ost (pv 0) (pv 1)))), ?_⟩
    walk_at "gx"
    exact ⟨a, _, rfl, T.x_DegenerateCorner.o, T.x_DegenerateCorner.n _ (by simp), .inl ⟨ha, fun dx h1 h2 => q dx h1 h2⟩⟩
/-! #### CrossingEdges.__init__ -/
theorem ok_CrossingEdges_init (T : Tx K mg) : FnOk P w K mg base CX0 1 (He.ma K (He.ga K "CrossingEdges") "__init__") (fdOf K (He.ma K (He.ga K "CrossingEdges") "__init__")) ["self", "first", "second"] (spX2 (He.ga K "CrossingEdges") "first" "second") := by
  refine T.d_CrossingEdges_init.ok sc_CrossingEdges_init (fun vs H Q E h => ?_) (fun cdv A outer s H vs Q E hr h => ?_)
  · obtain ⟨a, v, u, rfl, _⟩ := h
    rfl
  · obtain ⟨a, v, u, rfl, ha, q⟩ := h
    refine ⟨_, PSs.nox (pss_cons (kOst (K := K) (ps_ost (pv 0) (pv 1)))
      (pss_one (kOst (K := K) (ps_ost (pv 0) (pv 2))))), ?_⟩
    walk_at "gx"
    refine ⟨a, _, rfl, T.x_CrossingEdges.o, T.x_CrossingEdges.n _ (by simp), .inl ⟨ha, fun dx h1 h2 => ?_⟩⟩
    walk_at "gx"
    refine ⟨a, _, rfl, T.x_CrossingEdges.o, T.x_CrossingEdges.n _ (by simp), .inr ⟨dx, [("first", v)], upd_same, ?_, (by show 1 ≤ 900; decide), q dx h1 h2⟩⟩
    rw [upd_ne h2, upd_same]
/-! #### check_points -/
theorem kit_lt {H : Hp} {v : V} {n : String} (k : Kd K H v n) : PySem.W.kitAny K (.type n) [.type "list", .type "tuple"] = some (n == "list" || n == "tuple") := by
  obtain ⟨_, _, h3, h4, _⟩ := k.kit
  unfold PySem.W.kitAny
  rw [h4]
  cases e : (n == "list") with
  | true => rfl
  | false =>
    show PySem.W.kitAny K (.type n) [.type "tuple"] = _
    unfold PySem.W.kitAny
    rw [h3]
    cases (n == "tuple") <;> rfl
theorem r_isLT {H : Hp} {v : V} {n : String} {t : Addr} {Q : VK} (ht : H t = some (.tup [.ty "list", .ty "tuple"])) (k : Kd K H v n) (q : Q (.bl (n == "list" || n == "tuple")) H) : rIsiT K [v, .ref t] H Q := r_isiT2 ht (.cons (.ty "list") (.cons (.ty "tuple") .nil)) k.ty (kit_lt k) q
theorem sqs_kd {H : Hp} {a : Addr} {xs : List V} (h : SqS K H a xs) : ∃ n, Kd K H (.ref a) n ∧ (n == "list" || n == "tuple") = true := by
  rcases h with h | h
  · exact ⟨_, .lst h, rfl⟩
  · exact ⟨_, .tup h, rfl⟩
def sp_check_points (K : PySem.W.Frag) : Sp := fun vs H Q E => (∃ (a : Addr) (xs : List V) (f : Nat → Bool), vs = [.ref a] ∧ SqS K H a xs ∧ (∀ i x, xs[i]? = some x → PtB K H x (f i)) ∧
  ((∀ i, i < xs.length → f i = true) → ∀ H', Same H H' → Q .non H') ∧
  (∀ i, i < xs.length → f i = false → (∀ j, j < i → f j = true) → ∀ d H', Same H H' → H d = none → H' d = some (.xd [("position", .int (i : Int))]) → E (.ref (He.ga K "InvalidPolygon")) (some d) H')) ∨
  ∃ (v : V) (n : String), vs = [v] ∧ Kd K H v n ∧ (n == "list" || n == "tuple") = false ∧ ∀ d H', Same H H' → H d = none → H' d = some (.xd [("position", .non)]) → E (.ref (He.ga K "InvalidPolygon")) (some d) H'
theorem ok_check_points (T : Tx K mg) : FnOk P w K mg base (L2.CX P w) 3 (He.ga K "check_points") (fdOf K (He.ga K "check_points")) ["value"] (sp_check_points K) := by
  refine T.d_check_points.ok sc_check_points (fun vs H Q E h => ?_) (fun cdv A outer s H vs Q E hr h => ?_)
  · rcases h with ⟨a, xs, f, rfl, _⟩ | ⟨v, n, rfl, _⟩ <;> rfl
  · refine ⟨_, (pss_cons (ps_if (pt_not (pt_val (pe_callB (kIsiT (K := K)) (by rfl) T.n_isinstance (by decide +kernel) (pa_cons (pv 0) (pa_cons (pe_tup (pa_cons (pe_bltn (v := .ty "list") (by rfl) T.n_list (by decide +kernel) rfl) (pa_cons (pe_bltn (v := .ty "tuple") (by rfl) T.n_tuple (by decide +kernel) rfl) pa_nil))) pa_nil))))) (pss_one (ps_raise rfl (takes_of rfl rfl rfl rfl) (pmk_oex T.x_InvalidPolygon.o T.x_InvalidPolygon.i T.x_InvalidPolygon.t (ok_InvalidPolygon_init (K := K) T) (hr.mono (by decide)) (bn_InvalidPolygon_init T) .nil pass0 rfl T.g_InvalidPolygon (pa_cons pe_non pa_nil)))) pss_nil)
      (pss_one (ps_for (passes_of rfl) rfl (kpiEnumS (K := K) (by rfl) T.n_enumerate (pa_cons (pv 0) pa_nil)) (kpgTup (K := K) (n := 2) rfl (pgs_cons (pg_name (i := 1) sc_check_points.nd rfl (Or.inl rfl)) (pgs_cons (pg_name (i := 2) sc_check_points.nd rfl (Or.inl rfl)) pgs_nil)))
      (pss_one (ps_if (pt_not (pt_val (pe_call (ok_is_point (K := K) T) (hr.mono (by decide)) rfl T.g_is_point T.d_is_point.kp (bn_is_point T) .nil pass0 (pa_cons (pv 2) pa_nil)))) (pss_one (ps_raise rfl (takes_of rfl rfl rfl rfl) (pmk_oex T.x_InvalidPolygon.o T.x_InvalidPolygon.i T.x_InvalidPolygon.t (ok_InvalidPolygon_init (K := K) T) (hr.mono (by decide)) (bn_InvalidPolygon_init T) .nil pass0 rfl T.g_InvalidPolygon (pa_cons (pv 1) pa_nil)))) pss_nil))))), ?_⟩
    rcases h with ⟨a, xs, f, rfl, hS, hf, q1, q2⟩ | ⟨v, n, rfl, kd, hn, q⟩
    case inr =>
      walk_at "gx"
      refine r_new fun t ht => ?_
      generalize e1 : upd H t _ = H1
      obtain ⟨s1, g1⟩ := fresh ht e1
      walk_at "gx"
      refine r_isLT g1 (kd.same s1) ?_
      rw [hn]
      refine ⟨_, rfl, iteT ?_⟩
      refine ⟨(by show 1 ≤ 1000; decide), ?_⟩
      exact r_mkX1 fun d H5 s5 hd h5 => q d H5 (s1.trans s5) (s1.free hd) h5
    walk_at "gx"
    refine r_new fun t ht => ?_
    generalize e1 : upd H t _ = H1
    obtain ⟨s1, g1⟩ := fresh ht e1
    have hS1 := hS.same s1
    obtain ⟨n, kd, hn⟩ := sqs_kd hS1
    walk_at "gx"
    refine r_isLT g1 kd ?_
    rw [hn]
    refine ⟨_, rfl, if_ff ?_⟩
    walk_at "gx"
    refine loopE hS1 (fun i σ' H' => Same H1 H' ∧ (∀ j, j < i → f j = true) ∧ ∃ o1 o2, σ' = [some (.ref a), o1, o2]) ⟨Same.refl _, fun j hj => absurd hj (Nat.not_lt_zero _), _, _, rfl⟩ (fun i σ' H' p => sq_pair p.1) ?_ ?_
    · rintro i x T' σ' H2 hi ⟨S2, hp, o1, o2, rfl⟩ hT
      have hlt : i < xs.length := (List.getElem?_eq_some_iff.mp hi).1
      generalize e3 : upd H2 T' _ = H3
      obtain ⟨s3, g3⟩ := fresh hT e3
      have S3 := (s1.trans S2).trans s3
      walk_at "gx"
      refine ⟨x, f i, rfl, (hf i x hi).same S3, fun H4 s4 => ?_⟩
      have S4 := S3.trans s4
      cases e : f i with
      | true =>
        walk_at "gx"
        refine ⟨(S2.trans s3).trans s4, fun j hj => ?_, _, _, rfl⟩
        rcases Nat.lt_or_ge j i with z | z
        · exact hp j z
        · obtain rfl : j = i := by omega
          exact e
      | false =>
        walk_at "gx"
        refine iteT ?_
        refine ⟨.int (i : Int), rfl, (by show 1 ≤ 1000; decide), ?_⟩
        exact r_mkX1 fun d H5 s5 hd h5 => q2 i hlt e hp d H5 (S4.trans s5) (S4.free hd) h5
    · rintro σ' H2 ⟨S2, hp, o1, o2, rfl⟩
      walk_at "gx"
      exact q1 hp _ (s1.trans S2)
/-! #### triples -/
/-- what triples hands out: with m to come, the triple at n - m -/
def ctrTri (K : PySem.W.Frag) (ps : List Pt) : Ctr where
  yl := fun m Hr x H => Same Hr H ∧ ∃ (a : Addr) (u v w : V), x = .ref a ∧ SqT K H a [u, v, w] ∧ Hd K H u (prv ps (ps.length - m)) ∧ Hd K H v (atC ps (ps.length - m)) ∧ Hd K H w (nxt ps (ps.length - m))
  ok := fun _ H1 H2 => Same H1 H2
  fin := fun Hr H => Same Hr H
def sp_triples (K : PySem.W.Frag) : SpM := fun vs H R => ∃ (v : V) (ps : List Pt), vs = [v] ∧ PSq K H v ps ∧ R ps.length (ctrTri K ps)
theorem ok_triples (T : Tx K mg) : GFm P w K mg base 1 (He.ga K "triples") (fdOf K (He.ga K "triples")) ["corners"] (sp_triples K) := by
  obtain ⟨oc, od, dV, kV, doc, pm, an, cdv, ct, osl, efd, lk, hcd, hD, hK⟩ := T.d_triples.ex
  rw [efd]
  refine gfm_of (k := 0) (efd ▸ lk) hcd sc_triples (fun vs H R h => ?_) (fun _ _ _ H vs R h => ?_)
  · obtain ⟨v, ps, rfl, _⟩ := h
    rfl
  · obtain ⟨v, ps, rfl, hv, hR⟩ := h
    refine ⟨_, _, hR, fun A outer L hr => ?_⟩
    refine ⟨_, (gt_cons (gt_for (fun sb H0 => (kpiEnumS (K := K) (by rfl) T.n_enumerate (pa_cons (pv 0) pa_nil))) (fun sb H0 => (kpgTup (K := K) (n := 2) rfl (pgs_cons (pg_name (i := 1) sc_triples.nd rfl (Or.inl rfl)) (pgs_cons (pg_name (i := 2) sc_triples.nd rfl (Or.inl rfl)) pgs_nil))))
      (gt_cons (gt_yield (fun sb H0 => (pe_tup (pa_cons (pe_ix (kIxS (K := K)) (pv 0) (pe_op op_sub (pv 1) pe_int) (fun _ _ => rfl)) (pa_cons (pv 2) (pa_cons (pe_ix (kIxS (K := K)) (pv 0) (pe_op op_mod (pe_op op_add (pv 1) pe_int) (pe_callB (kLen (K := K)) (by rfl) T.n_len (by decide +kernel) (pa_cons (pv 0) pa_nil))) (fun _ _ => rfl)) pa_nil))))))
      gt_nil))
      gt_nil), ?_⟩
    intro H2 hok
    obtain ⟨a, xs, rfl, hS, hx⟩ := hv
    have S0 : Same H H2 := hok
    have hS := hS.same S0
    have hx := hx.same S0
    have hl := hx.length
    refine q_c ?_
    refine q_forE (a := a) (xs := xs) (fun i m Hr σ' H' => Same H2 Hr ∧ Same Hr H' ∧ m = ps.length - i ∧ i ≤ ps.length ∧ ∃ o1 o2, σ' = [some (.ref a), o1, o2]) ?_ ?_
    · walk_at "gx"
      refine ⟨rfl, hS, ⟨Same.refl _, Same.refl _, rfl, Nat.zero_le _, _, _, rfl⟩, ?_, ?_, ?_⟩
      · rintro i m Hr σ' H' ⟨s1, s2, _⟩
        exact sq_pair (s1.trans s2)
      · rintro i x T m Hr σ' H' hi ⟨s1, s2, rfl, hip, o1, o2, rfl⟩ hT
        have hlt : i < xs.length := (List.getElem?_eq_some_iff.mp hi).1
        generalize e3 : upd H' T _ = H3
        obtain ⟨s3, g3⟩ := fresh hT e3
        have S3 := (s1.trans s2).trans s3
        have hS3 := hS.same S3
        have hx3 := hx.same S3
        obtain ⟨u, eu, hu⟩ := hds_prv hx3 hlt
        obtain ⟨w, ew, hw⟩ := hds_nxt hx3 hlt
        have hv := hds_at hx3 hi
        walk_at "gx"
        refine q_c ?_
        refine q_y ?_
        walk_at "gx"
        refine r_ixS hS3 eu ?_
        walk_at "gx"
        refine r_lenS hS3 ?_
        walk_at "gx"
        refine r_I (by show (0 : Int) < (xs.length : Int); omega) ?_
        walk_at "gx"
        refine r_ixS hS3 ew ?_
        walk_at "gx"
        refine r_new fun p4 hp4 => ?_
        generalize e4 : upd H3 p4 _ = H4
        obtain ⟨s4, g4⟩ := fresh hp4 e4
        have ei : ps.length - (ps.length - i) = i := by omega
        refine ⟨ps.length - (i + 1), by omega, ⟨(s2.trans s3).trans s4, p4, u, x, w, rfl, SqT.of g4, ?_, ?_, ?_⟩, ?_⟩
        · rw [ei]; exact hu.same s4
        · rw [ei]; exact hv.same s4
        · rw [ei]; exact hw.same s4
        · intro H5 ok5
          have ok5 : Same H4 H5 := ok5
          exact ⟨(S3.trans s4).trans ok5, Same.refl _, rfl, by omega, _, _, rfl⟩
      · rintro m Hr σ' H' ⟨s1, s2, rfl, hip, o1, o2, rfl⟩
        exact ⟨by omega, s2⟩
    · rintro R R' h ⟨v, e, q⟩
      exact ⟨v, e, h _ _ q⟩
/-! #### check_turns -/
def sp_check_turns (K : PySem.W.Frag) : Sp := fun vs H Q E => ∃ (v : V) (ps : List Pt), vs = [v] ∧ PSq K H v ps ∧ AllBd 90000 ps ∧ ps.length ≤ 100000 ∧
  ((∀ i, i < ps.length → tri0 ps i ≠ 0) → ∀ H', Same H H' → Q .non H') ∧
  (∀ i, i < ps.length → tri0 ps i = 0 → (∀ j, j < i → tri0 ps j ≠ 0) → ∀ d H', Same H H' → H d = none → H' d = some (.xd [("position", .int (i : Int))]) → E (.ref (He.ga K "DegenerateCorner")) (some d) H')
theorem ok_check_turns (T : Tx K mg) : FnOk P w K mg base (L2.CX P w) 4 (He.ga K "check_turns") (fdOf K (He.ga K "check_turns")) ["corners"] (sp_check_turns K) := by
  refine T.d_check_turns.ok sc_check_turns (fun vs H Q E h => ?_) (fun cdv A outer s H vs Q E hr h => ?_)
  · obtain ⟨v, ps, rfl, _⟩ := h
    rfl
  · obtain ⟨v, ps, rfl, hv, hb, hl, q1, q2⟩ := h
    refine ⟨_, (pss_one (ps_forG (xeok_cx cxok_cx) (passes_of rfl) (pig_enum (pgm_call (ok_triples (K := K) T) (hr.mono (by decide)) rfl T.g_triples T.d_triples.kp (bn_triples T) (pa_cons (pv 0) pa_nil)) (hr.mono (by decide)) (hr.mono (by decide)) (by rfl) T.n_enumerate) (kpgTup (K := K) (n := 2) rfl (pgs_cons (pg_name (i := 1) sc_check_turns.nd rfl (Or.inl rfl)) (pgs_cons (kpgTup (K := K) (n := 3) rfl (pgs_cons (pg_name (i := 2) sc_check_turns.nd rfl (Or.inl rfl)) (pgs_cons (pg_name (i := 3) sc_check_turns.nd rfl (Or.inl rfl)) (pgs_cons (pg_name (i := 4) sc_check_turns.nd rfl (Or.inl rfl)) pgs_nil)))) pgs_nil)))
      (pss_one (ps_if (pt_cmpR op_eq (pe_call (ok_turn_of (K := K) T) (hr.mono (by decide)) rfl T.g_turn_of T.d_turn_of.kp (bn_turn_of T) .nil pass0 (pa_cons (pv 2) (pa_cons (pv 3) (pa_cons (pv 4) pa_nil)))) pe_int (nomark _)) (pss_one (ps_raise rfl (takes_of rfl rfl rfl rfl) (pmk_oex T.x_DegenerateCorner.o T.x_DegenerateCorner.i T.x_DegenerateCorner.t (ok_DegenerateCorner_init (K := K) T) (hr.mono (by decide)) (bn_DegenerateCorner_init T) .nil pass0 rfl T.g_DegenerateCorner (pa_cons (pv 1) pa_nil)))) pss_nil)))), ?_⟩
    walk_at "gx"
    refine r_forGE ?_ ?_
    · refine ⟨v, rfl, ?_⟩
      refine ⟨v, ps, rfl, hv, ?_⟩
      refine ⟨Same.refl _, fun i σ' H' => Same H H' ∧ (∀ j, j < i → tri0 ps j ≠ 0) ∧ ∃ o1 o2 o3 o4, σ' = [some v, o1, o2, o3, o4], ⟨Same.refl _, fun j hj => absurd hj (Nat.not_lt_zero _), _, _, _, _, rfl⟩, ?_, ?_⟩
      · rintro i σ' H' T y Hy hi ⟨S, hn, o1, o2, o3, o4, rfl⟩ ⟨s1, a, u, x, w, rfl, ha, hu, hx, hw⟩ hT
        have ei : ps.length - (ps.length - i) = i := by omega
        rw [ei] at hu hx hw
        generalize e3 : upd Hy T _ = H3
        obtain ⟨s3, g3⟩ := fresh hT e3
        have ha3 := sqT_same s3 ha
        walk_at "gx"
        refine ⟨u, x, w, _, _, _, rfl, hu.same s3, hx.same s3, hw.same s3, hb _ (prv_mem (by omega)), hb _ (atC_mem hi), hb _ (nxt_mem (by omega)), fun H4 s4 => ?_⟩
        have S4 := ((S.trans s1).trans s3).trans s4
        walk_at "gx"
        refine r_dec (fun e => ?_) (fun e => ?_)
        · refine ⟨.int (i : Int), rfl, (by show 1 ≤ 1000; decide), ?_⟩
          exact r_mkX1 fun d H5 s5 hd h5 => q2 i hi e hn d H5 (S4.trans s5) (S4.free hd) h5
        · walk_at "gx"
          refine ⟨⟨S4, fun j hj => ?_, _, _, _, _, rfl⟩, s3.trans s4⟩
          rcases Nat.lt_or_ge j i with z | z
          · exact hn j z
          · obtain rfl : j = i := by omega
            exact e
      · rintro σ' H' H2 ⟨S, hn, _⟩ hf
        exact q1 hn _ (S.trans hf)
    · rintro R R' h ⟨v', e, v2, ps2, e2, hv2, r⟩
      exact ⟨v', e, v2, ps2, e2, hv2, h _ _ _ r⟩
/-! #### is_between -/
def sp_is_between (K : PySem.W.Frag) : Sp := fun vs H Q _ => ∃ (u v w : V) (p a b : Pt), vs = [u, v, w] ∧ Hd K H u p ∧ Hd K H v a ∧ Hd K H w b ∧ ∀ H', Same H H' → Q (.bl (btw p a b)) H'
theorem ok_is_between (T : Tx K mg) : FnOk P w K mg base CX0 1 (He.ga K "is_between") (fdOf K (He.ga K "is_between")) ["point", "start", "end"] (sp_is_between K) := by
  refine T.d_is_between.ok sc_is_between (fun vs H Q E h => ?_) (fun cdv A outer s H vs Q E hr h => ?_)
  · obtain ⟨u, v, w, p, a, b, rfl, _⟩ := h
    rfl
  · obtain ⟨u, v, w, p, a, b, rfl, hu, hv, hw, q⟩ := h
    obtain ⟨a1, rfl, h1⟩ := hu.pt_of
    obtain ⟨a2, rfl, h2⟩ := hv.pt_of
    obtain ⟨a3, rfl, h3⟩ := hw.pt_of
    refine ⟨_, PSs.nox (pss_one (ps_ret (pe_callB (kAll (K := K) rfl) (by rfl) T.n_all (by decide +kernel) (pa_cons (pe_lc (own := [("value", 3), ("low", 4), ("high", 5)]) (g := (gTup K 3 (gCons (gName 3) (gCons (gName 4) (gCons (gName 5) gNil))))) (tt := tYes) rfl sc_is_between.nd (kpiZip3 (K := K) (by rfl) T.n_zip (pa_cons (pv 0) (pa_cons (pv 1) (pa_cons (pv 2) pa_nil)))) (blkOk_by (own := [("value", 3), ("low", 4), ("high", 5)]) (N := ["point", "start", "end", "value", "low", "high"]) (sc := defScope s_is_between) (by decide +kernel)) (fun _ _ _ _ _ => (kpgTup (K := K) (n := 3) rfl (pgs_cons (pg_name (i := 3) sc_is_between.nd rfl (Or.inl rfl)) (pgs_cons (pg_name (i := 4) sc_is_between.nd rfl (Or.inl rfl)) (pgs_cons (pg_name (i := 5) sc_is_between.nd rfl (Or.inl rfl)) pgs_nil))))) (fun _ _ _ _ _ => pts_nil) (fun _ _ _ _ _ => (pe_chain op_le op_le (pe_callB (cMin2 rfl) (by rfl) T.n_min (by decide +kernel) (pa_cons (pv 4) (pa_cons (pv 5) pa_nil))) (pv 3) (pe_callB (cMax2 rfl) (by rfl) T.n_max (by decide +kernel) (pa_cons (pv 4) (pa_cons (pv 5) pa_nil)))))) pa_nil)))), ?_⟩
    walk_at "gx"
    refine compZ3 (xs := [.int p.1, .int p.2]) (ys := [.int a.1, .int a.2]) (zs := [.int b.1, .int b.2]) (by show 2 ≤ 100000; decide) rfl rfl h1 h2 h3 (fun D i acc H' => Same H H' ∧ acc = ([btw1 p.1 a.1 b.1, btw1 p.2 a.2 b.2].take i).map V.bl) (fun D hD => ⟨same_new (Same.refl _) hD, rfl⟩) (fun D i acc H' _ p => p.1) ?_ ?_
    · rintro D i x y z T acc H1 hD hx hy hz hi ⟨S1, rfl⟩ hacc hl hT
      have hi : i < 2 := hi
      obtain ⟨k, l, h, rfl, rfl, rfl, hk⟩ : ∃ k l h : Int, x = .int k ∧ y = .int l ∧ z = .int h ∧ [btw1 p.1 a.1 b.1, btw1 p.2 a.2 b.2][i]? = some (btw1 k l h) := by
        rcases (show i = 0 ∨ i = 1 by omega) with rfl | rfl
        · exact ⟨p.1, a.1, b.1, by simpa using hx.symm, by simpa using hy.symm, by simpa using hz.symm, rfl⟩
        · exact ⟨p.2, a.2, b.2, by simpa using hx.symm, by simpa using hy.symm, by simpa using hz.symm, rfl⟩
      have s2 : Same H1 (upd H1 T (.tup [.int k, .int l, .int h])) := same_new (Same.refl _) hT
      refine r_gtup (SqT.of upd_same) ?_
      generalize upd H1 T _ = H2 at s2 ⊢
      have fin : CNext D (fun i acc H' => Same H H' ∧ acc = ([btw1 p.1 a.1 b.1, btw1 p.2 a.2 b.2].take i).map V.bl) i (.bl (btw1 k l h)) H2 := by
        refine cnext (s2 _ _ hacc) hl (by omega) ⟨same_kp (S1.trans s2) hD ((Kp.of_same (Same.refl _)).put), ?_⟩
        rw [List.take_succ, hk, List.map_append]; rfl
      walk_at "gx"
      refine ⟨rfl, ?_⟩
      refine r_chain ?_
      walk_at "gx"
      have eb : btw1 k l h = (decide (min l h ≤ k) && decide (k ≤ max l h)) := rfl
      rw [eb] at fin
      refine r_dec (fun e => ?_) (fun e => ?_)
      · rw [decide_eq_true e, Bool.true_and] at fin
        walk_at "gx"
        exact fin
      · rw [decide_eq_false e, Bool.false_and] at fin
        exact fin
    · rintro D acc H1 hD ⟨S1, rfl⟩ hacc hl
      walk_at "gx"
      refine ⟨D, [btw1 p.1 a.1 b.1, btw1 p.2 a.2 b.2], rfl, SqL.of hacc, ?_⟩
      have e : [btw1 p.1 a.1 b.1, btw1 p.2 a.2 b.2].all id = btw p a b := by
        unfold btw; simp
      rw [e]
      exact q _ S1
/-! #### is_on -/
def sp_is_on (K : PySem.W.Frag) : Sp := fun vs H Q _ => ∃ (u v w : V) (p a b : Pt), vs = [u, v, w] ∧ Hd K H u p ∧ Hd K H v a ∧ Hd K H w b ∧ PBd 90000 p ∧ PBd 90000 a ∧ PBd 90000 b ∧ ∀ H', Same H H' → Q (.bl (onS p a b)) H'
theorem ok_is_on (T : Tx K mg) : FnOk P w K mg base CX0 3 (He.ga K "is_on") (fdOf K (He.ga K "is_on")) ["point", "start", "end"] (sp_is_on K) := by
  refine T.d_is_on.ok sc_is_on (fun vs H Q E h => ?_) (fun cdv A outer s H vs Q E hr h => ?_)
  · obtain ⟨u, v, w, p, a, b, rfl, _⟩ := h
    rfl
  · obtain ⟨u, v, w, p, a, b, rfl, hu, hv, hw, bp, ba, bb, q⟩ := h
    refine ⟨_, PSs.nox (pss_one (ps_ret (pe_and (pe_cmpR op_eq (pe_call (ok_turn_of (K := K) T) (hr.mono (by decide)) rfl T.g_turn_of T.d_turn_of.kp (bn_turn_of T) .nil pass0 (pa_cons (pv 1) (pa_cons (pv 2) (pa_cons (pv 0) pa_nil)))) pe_int (nomark _)) (pe_one (pe_call (ok_is_between (K := K) T) (hr.mono (by decide)) rfl T.g_is_between T.d_is_between.kp (bn_is_between T) .nil pass0 (pa_cons (pv 0) (pa_cons (pv 1) (pa_cons (pv 2) pa_nil)))))))), ?_⟩
    walk_at "gx"
    refine ⟨v, w, u, _, _, _, rfl, hv, hw, hu, ba, bb, bp, fun H1 s1 => ?_⟩
    have q := fun H' s' => q H' s'
    unfold onS at q
    walk_at "gx"
    refine r_dec (fun e => ?_) (fun e => ?_)
    · rw [decide_eq_true e, Bool.true_and] at q
      walk_at "gx"
      exact ⟨u, v, w, _, _, _, rfl, hu.same s1, hv.same s1, hw.same s1, fun H2 s2 => q H2 (s1.trans s2)⟩
    · rw [decide_eq_false e, Bool.false_and] at q
      walk_at "gx"
      exact q H1 s1
/-! #### have_common_point -/
def sp_have_common_point (K : PySem.W.Frag) : Sp := fun vs H Q _ => ∃ (x y : Addr) (u v w z : V) (a b c d : Pt), vs = [.ref x, .ref y] ∧ SqT K H x [u, v] ∧ SqT K H y [w, z] ∧ Hd K H u a ∧ Hd K H v b ∧ Hd K H w c ∧ Hd K H z d ∧ PBd 40000 a ∧ PBd 40000 b ∧ PBd 40000 c ∧ PBd 40000 d ∧ ∀ H', Same H H' → Q (.bl (meetS a b c d)) H'
theorem ok_have_common_point (T : Tx K mg) : FnOk P w K mg base CX0 4 (He.ga K "have_common_point") (fdOf K (He.ga K "have_common_point")) ["first", "second"] (sp_have_common_point K) := by
  refine T.d_have_common_point.ok sc_have_common_point (fun vs H Q E h => ?_) (fun cdv A outer s H vs Q E hr h => ?_)
  · obtain ⟨x, y, u, v, w, z, a, b, c, d, rfl, _⟩ := h
    rfl
  · obtain ⟨x, y, u, v, w, z, a, b, c, d, rfl, hx, hy, hu, hv, hw, hz, ba, bb, bc, bd, q⟩ := h
    have Ba := ba.mono (show 40000 ≤ 90000 by decide)
    have Bb := bb.mono (show 40000 ≤ 90000 by decide)
    have Bc := bc.mono (show 40000 ≤ 90000 by decide)
    have Bd := bd.mono (show 40000 ≤ 90000 by decide)
    refine ⟨_, PSs.nox (pss_cons (ps_asg (pv 0) (kpgTup (K := K) (n := 2) rfl (pgs_cons (pg_name (i := 2) sc_have_common_point.nd rfl (Or.inl rfl)) (pgs_cons (pg_name (i := 3) sc_have_common_point.nd rfl (Or.inl rfl)) pgs_nil))))
      (pss_cons (ps_asg (pv 1) (kpgTup (K := K) (n := 2) rfl (pgs_cons (pg_name (i := 4) sc_have_common_point.nd rfl (Or.inl rfl)) (pgs_cons (pg_name (i := 5) sc_have_common_point.nd rfl (Or.inl rfl)) pgs_nil))))
      (pss_cons (ps_set (i := 6) sc_have_common_point.nd rfl (Or.inl rfl) (pe_tup (pa_cons (pe_call (ok_turn_of (K := K) T) (hr.mono (by decide)) rfl T.g_turn_of T.d_turn_of.kp (bn_turn_of T) .nil pass0 (pa_cons (pv 2) (pa_cons (pv 3) (pa_cons (pv 4) pa_nil)))) (pa_cons (pe_call (ok_turn_of (K := K) T) (hr.mono (by decide)) rfl T.g_turn_of T.d_turn_of.kp (bn_turn_of T) .nil pass0 (pa_cons (pv 2) (pa_cons (pv 3) (pa_cons (pv 5) pa_nil)))) (pa_cons (pe_call (ok_turn_of (K := K) T) (hr.mono (by decide)) rfl T.g_turn_of T.d_turn_of.kp (bn_turn_of T) .nil pass0 (pa_cons (pv 4) (pa_cons (pv 5) (pa_cons (pv 2) pa_nil)))) (pa_cons (pe_call (ok_turn_of (K := K) T) (hr.mono (by decide)) rfl T.g_turn_of T.d_turn_of.kp (bn_turn_of T) .nil pass0 (pa_cons (pv 4) (pa_cons (pv 5) (pa_cons (pv 3) pa_nil)))) pa_nil))))))
      (pss_cons (ps_if (PW.pt (pw_and (pt_cmpR op_lt (pe_op op_mulA (pe_ix (kIxT (K := K)) (pv 6) pe_int (fun _ _ => rfl)) (pe_ix (kIxT (K := K)) (pv 6) pe_int (fun _ _ => rfl))) pe_int (nomark _)) (pw_and1 (pt_cmpR op_lt (pe_op op_mulA (pe_ix (kIxT (K := K)) (pv 6) pe_int (fun _ _ => rfl)) (pe_ix (kIxT (K := K)) (pv 6) pe_int (fun _ _ => rfl))) pe_int (nomark _))))) (pss_one (ps_ret pe_bl)) pss_nil)
      (pss_one (ps_ret (pe_or (pe_call (ok_is_on (K := K) T) (hr.mono (by decide)) rfl T.g_is_on T.d_is_on.kp (bn_is_on T) .nil pass0 (pa_cons (pv 4) (pa_cons (pv 2) (pa_cons (pv 3) pa_nil)))) (pe_or (pe_call (ok_is_on (K := K) T) (hr.mono (by decide)) rfl T.g_is_on T.d_is_on.kp (bn_is_on T) .nil pass0 (pa_cons (pv 5) (pa_cons (pv 2) (pa_cons (pv 3) pa_nil)))) (pe_or (pe_call (ok_is_on (K := K) T) (hr.mono (by decide)) rfl T.g_is_on T.d_is_on.kp (bn_is_on T) .nil pass0 (pa_cons (pv 2) (pa_cons (pv 4) (pa_cons (pv 5) pa_nil)))) (pe_one (pe_call (ok_is_on (K := K) T) (hr.mono (by decide)) rfl T.g_is_on T.d_is_on.kp (bn_is_on T) .nil pass0 (pa_cons (pv 3) (pa_cons (pv 4) (pa_cons (pv 5) pa_nil)))))))))))))), ?_⟩
    walk_at "gx"
    refine ⟨u, v, w, _, _, _, rfl, hu, hv, hw, Ba, Bb, Bc, fun H1 s1 => ?_⟩
    walk_at "gx"
    refine ⟨u, v, z, _, _, _, rfl, hu.same s1, hv.same s1, hz.same s1, Ba, Bb, Bd, fun H2 s2 => ?_⟩
    have S2 := s1.trans s2
    walk_at "gx"
    refine ⟨w, z, u, _, _, _, rfl, hw.same S2, hz.same S2, hu.same S2, Bc, Bd, Ba, fun H3 s3 => ?_⟩
    have S3 := S2.trans s3
    walk_at "gx"
    refine ⟨w, z, v, _, _, _, rfl, hw.same S3, hz.same S3, hv.same S3, Bc, Bd, Bb, fun H4 s4 => ?_⟩
    have S4 := S3.trans s4
    walk_at "gx"
    refine r_new fun p5 hp5 => ?_
    generalize e5 : upd H4 p5 _ = H5
    obtain ⟨s5, g5⟩ := fresh hp5 e5
    have S5 := S4.trans s5
    walk_at "gx"
    have tail : ∀ H6, Same H H6 → (∀ H', Same H H' → Q (.bl (onS c a b || (onS d a b || (onS a c d || onS b c d)))) H') → tRet (tOrV (tCall (sp_is_on K) [] E0 (tCons (tVar 4) (tCons (tVar 2) (tCons (tVar 3) tNil)))) (tOrV (tCall (sp_is_on K) [] E0 (tCons (tVar 5) (tCons (tVar 2) (tCons (tVar 3) tNil)))) (tOrV (tCall (sp_is_on K) [] E0 (tCons (tVar 2) (tCons (tVar 4) (tCons (tVar 5) tNil)))) (tCall (sp_is_on K) [] E0 (tCons (tVar 3) (tCons (tVar 4) (tCons (tVar 5) tNil))))))) { nx := fun x H' => Q V.non H', rt := Q } [some (.ref x), some (.ref y), some u, some v, some w, some z, some (.ref p5)] H6 := by
      intro H6 S6 q
      walk_at "gx"
      refine ⟨w, u, v, _, _, _, rfl, hw.same S6, hu.same S6, hv.same S6, Bc, Ba, Bb, fun H7 s7 => ⟨_, rfl, ?_⟩⟩
      have S7 := S6.trans s7
      cases e1 : onS c a b with
      | true =>
        rw [e1, Bool.true_or] at q
        refine iteT ?_
        exact q _ S7
      | false =>
        rw [e1, Bool.false_or] at q
        refine if_ff ?_
        walk_at "gx"
        refine ⟨z, u, v, _, _, _, rfl, hz.same S7, hu.same S7, hv.same S7, Bd, Ba, Bb, fun H8 s8 => ⟨_, rfl, ?_⟩⟩
        have S8 := S7.trans s8
        cases e2 : onS d a b with
        | true =>
          rw [e2, Bool.true_or] at q
          refine iteT ?_
          exact q _ S8
        | false =>
          rw [e2, Bool.false_or] at q
          refine if_ff ?_
          walk_at "gx"
          refine ⟨u, w, z, _, _, _, rfl, hu.same S8, hw.same S8, hz.same S8, Ba, Bc, Bd, fun H9 s9 => ⟨_, rfl, ?_⟩⟩
          have S9 := S8.trans s9
          cases e3 : onS a c d with
          | true =>
            rw [e3, Bool.true_or] at q
            refine iteT ?_
            exact q _ S9
          | false =>
            rw [e3, Bool.false_or] at q
            refine if_ff ?_
            walk_at "gx"
            exact ⟨v, w, z, _, _, _, rfl, hv.same S9, hw.same S9, hz.same S9, Bb, Bc, Bd, fun H10 s10 => q _ (S9.trans s10)⟩
    refine r_I ((trn_bd ba bb bc).ok (trn_bd ba bb bd)) ?_
    walk_at "gx"
    refine r_dec (fun e => ?_) (fun e => ?_)
    · walk_at "gx"
      refine r_I ((trn_bd bc bd ba).ok (trn_bd bc bd bb)) ?_
      walk_at "gx"
      refine r_dec (fun e2 => ?_) (fun e2 => ?_)
      · walk_at "gx"
        have em : meetS a b c d = true := by
          unfold meetS; rw [decide_eq_true e, decide_eq_true e2]; rfl
        rw [em] at q
        exact q _ S5
      · refine tail _ S5 ?_
        have em : meetS a b c d = (onS c a b || (onS d a b || (onS a c d || onS b c d))) := by
          unfold meetS; rw [decide_eq_false e2, Bool.and_false, Bool.false_or]
        rwa [em] at q
    · refine tail _ S5 ?_
      have em : meetS a b c d = (onS c a b || (onS d a b || (onS a c d || onS b c d))) := by
        unfold meetS; rw [decide_eq_false e, Bool.false_and, Bool.false_or]
      rwa [em] at q
/-! #### edges_of -/
def sp_edges_of (K : PySem.W.Frag) : Sp := fun vs H Q _ => ∃ (v : V) (ps : List Pt), vs = [v] ∧ PSq K H v ps ∧ ps.length ≤ 100000 ∧ ∀ l ws H', Same H H' → H l = none → H' l = some (.lst ws) → Hds K H' ws (edgs ps) → Q (.ref l) H'
theorem ok_edges_of (T : Tx K mg) : FnOk P w K mg base CX0 1 (He.ga K "edges_of") (fdOf K (He.ga K "edges_of")) ["corners"] (sp_edges_of K) := by
  refine T.d_edges_of.ok sc_edges_of (fun vs H Q E h => ?_) (fun cdv A outer s H vs Q E hr h => ?_)
  · obtain ⟨v, ps, rfl, _⟩ := h
    rfl
  · obtain ⟨v, ps, rfl, hv, hl, q⟩ := h
    obtain ⟨a, xs, rfl, hS, hx⟩ := hv
    have hlx := hx.length
    refine ⟨_, PSs.nox (pss_one (ps_ret (pe_lc (own := [("index", 1), ("corner", 2)]) (g := (gTup K 2 (gCons (gName 1) (gCons (gName 2) gNil)))) (tt := tYes) rfl sc_edges_of.nd (kpiEnumS (K := K) (by rfl) T.n_enumerate (pa_cons (pv 0) pa_nil)) (blkOk_by (own := [("index", 1), ("corner", 2)]) (N := ["corners", "index", "corner"]) (sc := defScope s_edges_of) (by decide +kernel)) (fun _ _ _ _ _ => (kpgTup (K := K) (n := 2) rfl (pgs_cons (pg_name (i := 1) sc_edges_of.nd rfl (Or.inl rfl)) (pgs_cons (pg_name (i := 2) sc_edges_of.nd rfl (Or.inl rfl)) pgs_nil)))) (fun _ _ _ _ _ => pts_nil) (fun _ _ _ _ _ => (pe_tup (pa_cons (pv 2) (pa_cons (pe_ix (kIxS (K := K)) (pv 0) (pe_op op_mod (pe_op op_add (pv 1) pe_int) (pe_callB (kLen (K := K)) (by rfl) T.n_len (by decide +kernel) (pa_cons (pv 0) pa_nil))) (fun _ _ => rfl)) pa_nil))))))), ?_⟩
    walk_at "gx"
    refine compE (by omega) hS (fun D i acc H' => Same H H' ∧ Hds K H' acc ((edgs ps).take i)) (fun D hD => ⟨same_new (Same.refl _) hD, .nil⟩) (fun D i acc H' _ p => sq_pair p.1) ?_ ?_
    · rintro D i x T acc H1 hD hxi hi ⟨S1, hA⟩ hacc hl1 hT
      refine r_gtup (SqT.of upd_same) ?_
      generalize e2 : upd H1 T _ = H2
      obtain ⟨s2, g2⟩ := fresh hT e2
      have S2 := S1.trans s2
      have hS2 := hS.same S2
      have hx2 := hx.same S2
      obtain ⟨w, ew, hw⟩ := hds_nxt hx2 hi
      have hv := hds_at hx2 hxi
      walk_at "gx"
      refine ⟨rfl, ?_⟩
      walk_at "gx"
      refine r_lenS hS2 ?_
      walk_at "gx"
      refine r_I (by show (0 : Int) < (xs.length : Int); omega) ?_
      walk_at "gx"
      refine r_ixS hS2 ew ?_
      walk_at "gx"
      refine r_new fun p3 hp3 => ?_
      generalize e3 : upd H2 p3 _ = H3
      obtain ⟨s3, g3⟩ := fresh hp3 e3
      have hacc3 := s3 _ _ (s2 _ _ hacc)
      refine cnext hacc3 hl1 (by omega) ⟨same_kp (S2.trans s3) hD ((Kp.of_same (Same.refl _)).put), ?_⟩
      have ee : (edgs ps)[i]? = some (atC ps i, nxt ps i) := by
        unfold edgs
        rw [List.getElem?_map, List.getElem?_range (by omega)]; rfl
      rw [List.take_succ, ee]
      have k3 : Kp D H3 (upd H3 D (.lst (acc ++ [.ref p3]))) := (Kp.of_same (Same.refl _)).put
      have hh : Hds K H3 (acc ++ [.ref p3]) ((edgs ps).take i ++ [(atC ps i, nxt ps i)]) := (hA.same (s2.trans s3)).append (.cons (hd_pair (SqT.of g3) (hv.same s3) (hw.same s3)) .nil)
      exact imms k3 ⟨_, hacc3⟩ hh
    · rintro D acc H1 hD ⟨S1, hA⟩ hacc hl1
      have et : (edgs ps).take xs.length = edgs ps := by
        rw [List.take_of_length_le]; unfold edgs; rw [List.length_map, List.length_range]; omega
      rw [et] at hA
      exact q _ _ _ S1 hD hacc hA
/-! #### check_crossings -/
def sp_check_crossings (K : PySem.W.Frag) : Sp := fun vs H Q E => ∃ (v : V) (ps : List Pt), vs = [v] ∧ PSq K H v ps ∧ AllBd 40000 ps ∧ ps.length ≤ 100000 ∧
  ((∀ i j, i < j → i + 2 ≤ j → j < ps.length → crossB ps i j = false) → ∀ H', Same H H' → Q .non H') ∧
  (∀ i j : Nat, i + 2 ≤ j → j < ps.length → crossB ps i j = true → (∀ i' j', i' + 2 ≤ j' → j' < ps.length → (i' < i ∨ (i' = i ∧ j' < j)) → crossB ps i' j' = false) → ∀ d H', Same H H' → H d = none → H' d = some (.xd [("second", .int (j : Int)), ("first", .int (i : Int))]) → E (.ref (He.ga K "CrossingEdges")) (some d) H')
theorem ok_check_crossings (T : Tx K mg) : FnOk P w K mg base (L2.CX P w) 5 (He.ga K "check_crossings") (fdOf K (He.ga K "check_crossings")) ["corners"] (sp_check_crossings K) := by
  refine T.d_check_crossings.ok sc_check_crossings (fun vs H Q E h => ?_) (fun cdv A outer s H vs Q E hr h => ?_)
  · obtain ⟨v, ps, rfl, _⟩ := h
    rfl
  · obtain ⟨v, ps, rfl, hv, hb, hl, q1, q2⟩ := h
    refine ⟨_, (pss_cons (ps_set (i := 1) sc_check_crossings.nd rfl (Or.inl rfl) (pe_call (ok_edges_of (K := K) T) (hr.mono (by decide)) rfl T.g_edges_of T.d_edges_of.kp (bn_edges_of T) .nil pass0 (pa_cons (pv 0) pa_nil)))
      (pss_cons (ps_set (i := 2) sc_check_crossings.nd rfl (Or.inl rfl) (pe_callB (kLen (K := K)) (by rfl) T.n_len (by decide +kernel) (pa_cons (pv 1) pa_nil)))
      (pss_one (ps_for (passes_of rfl) rfl (pi_range1 rfl T.n_range (pa_cons (pv 2) pa_nil)) (pg_name (i := 3) sc_check_crossings.nd rfl (Or.inl rfl))
      (pss_one (ps_for (passes_of rfl) rfl (pi_range2 rfl T.n_range (pa_cons (pe_op op_add (pv 3) pe_int) (pa_cons (pv 2) pa_nil))) (pg_name (i := 4) sc_check_crossings.nd rfl (Or.inl rfl))
      (pss_one (ps_if (PW.pt (pw_and (pt_cmpR op_ne (pe_op op_mod (pe_op op_add (pv 4) pe_int) (pv 2)) (pv 3) (nomark _)) (pw_and1 (pt_val (pe_call (ok_have_common_point (K := K) T) (hr.mono (by decide)) rfl T.g_have_common_point T.d_have_common_point.kp (bn_have_common_point T) .nil pass0 (pa_cons (pe_ix (kIxL (K := K)) (pv 1) (pv 3) (fun _ _ => rfl)) (pa_cons (pe_ix (kIxL (K := K)) (pv 1) (pv 4) (fun _ _ => rfl)) pa_nil))))))) (pss_one (ps_raise rfl (takes_of rfl rfl rfl rfl) (pmk_oex T.x_CrossingEdges.o T.x_CrossingEdges.i T.x_CrossingEdges.t (ok_CrossingEdges_init (K := K) T) (hr.mono (by decide)) (bn_CrossingEdges_init T) .nil pass0 rfl T.g_CrossingEdges (pa_cons (pv 3) (pa_cons (pv 4) pa_nil))))) pss_nil)))))))), ?_⟩
    walk_at "gx"
    refine ⟨v, ps, rfl, hv, hl, fun l ws H1 s1 _ hl1 hw => ?_⟩
    have hlw := hw.length
    have hle : (edgs ps).length = ps.length := by unfold edgs; rw [List.length_map, List.length_range]
    walk_at "gx"
    refine r_lenL (SqL.of hl1) ?_
    walk_at "gx"
    rw [show ws.length = ps.length by omega]
    refine loopR1 (by omega) (fun i σ' H' => Same H1 H' ∧ (∀ i' j', i' + 2 ≤ j' → j' < ps.length → i' < i → crossB ps i' j' = false) ∧ ∃ o3 o4, σ' = [some v, some (.ref l), some (.int (ps.length : Int)), o3, o4]) ⟨Same.refl _, fun i' j' _ _ h => absurd h (Nat.not_lt_zero _), _, _, rfl⟩ ?_ ?_
    · rintro i σ' H2 hi ⟨S2, hn, o3, o4, rfl⟩
      walk_at "gx"
      refine loopR2 ⟨by omega, by omega, by omega, by omega⟩ (fun k σ' H' => Same H1 H' ∧ (∀ j', i + 2 ≤ j' → j' < ps.length → j' < i + 2 + k → crossB ps i j' = false) ∧ ∃ o4, σ' = [some v, some (.ref l), some (.int (ps.length : Int)), some (.int (i : Int)), o4]) ⟨S2, fun j' h1 _ h2 => by omega, _, rfl⟩ ?_ ?_
      · rintro k σ' H3 hk ⟨S3, hm, o4, rfl⟩
        obtain ⟨j, hj⟩ : ∃ j : Nat, j = i + 2 + k := ⟨_, rfl⟩
        have ej : (i : Int) + 2 + (k : Int) = (j : Int) := by omega
        rw [ej]
        have hjn : j < ps.length := by omega
        have hin : i < ps.length := by omega
        have hl3 := S3 _ _ hl1
        have hw3 := hw.same S3
        have next : crossB ps i j = false → ∀ H4, Same H3 H4 → Same H1 H4 ∧ (∀ j', i + 2 ≤ j' → j' < ps.length → j' < i + 2 + (k + 1) → crossB ps i j' = false) ∧ ∃ o4, [some v, some (.ref l), some (.int (ps.length : Int)), some (.int (i : Int)), some (.int (j : Int))] = [some v, some (.ref l), some (.int (ps.length : Int)), some (.int (i : Int)), o4] := by
          intro hc H4 s4
          refine ⟨S3.trans s4, fun j' h1 h2 h3 => ?_, _, rfl⟩
          rcases Nat.lt_or_ge j' j with z | z
          · exact hm j' h1 h2 (by omega)
          · obtain rfl : j' = j := by omega
            exact hc
        walk_at "gx"
        refine r_I (by show (0 : Int) < (ps.length : Int); omega) ?_
        walk_at "gx"
        rw [emod_nat]
        refine r_ndec (fun e => ?_) (fun e => ?_)
        · have e : (j + 1) % ps.length ≠ i := by omega
          obtain ⟨w1, f1, g1⟩ := hw3.at (i := i) (x := (atC ps i, nxt ps i)) (by unfold edgs; rw [List.getElem?_map, List.getElem?_range hin]; rfl)
          obtain ⟨w2, f2, g2⟩ := hw3.at (i := j) (x := (atC ps j, nxt ps j)) (by unfold edgs; rw [List.getElem?_map, List.getElem?_range hjn]; rfl)
          walk_at "gx"
          refine r_ixL (SqL.of hl3) (atI_nat f1) ?_
          walk_at "gx"
          refine r_ixL (SqL.of hl3) (atI_nat f2) ?_
          walk_at "gx"
          obtain ⟨b1, x1, y1, rfl, t1, p1, r1⟩ := g1.pair_of
          obtain ⟨b2, x2, y2, rfl, t2, p2, r2⟩ := g2.pair_of
          refine ⟨b1, b2, x1, y1, x2, y2, _, _, _, _, rfl, t1, t2, p1, r1, p2, r2, hb _ (atC_mem hin), hb _ (nxt_mem (by omega)), hb _ (atC_mem hjn), hb _ (nxt_mem (by omega)), fun H4 s4 => ⟨_, rfl, ?_⟩⟩
          have ec : crossB ps i j = meetS (atC ps i) (nxt ps i) (atC ps j) (nxt ps j) := by
            unfold crossB; rw [decide_eq_true e, Bool.true_and]
          cases em : meetS (atC ps i) (nxt ps i) (atC ps j) (nxt ps j) with
          | true =>
            refine iteT ?_
            refine ⟨.int (i : Int), rfl, .int (j : Int), rfl, (by show 2 ≤ 1000; decide), ?_⟩
            refine r_mkX2 fun d H5 s5 hd h5 => q2 i j (by omega) hjn (by rw [ec]; exact em) (fun i' j' h1 h2 h3 => ?_) d H5 ((s1.trans (S3.trans s4)).trans s5) ((s1.trans (S3.trans s4)).free hd) h5
            rcases h3 with h3 | ⟨rfl, h3⟩
            · exact hn i' j' h1 h2 h3
            · exact hm j' h1 h2 (by omega)
          | false =>
            refine if_ff ?_
            exact next (by rw [ec]; exact em) H4 s4
        · walk_at "gx"
          refine next ?_ H3 (Same.refl _)
          unfold crossB
          rw [decide_eq_false (by omega), Bool.false_and]
      · rintro σ' H3 ⟨S3, hm, o4, rfl⟩
        refine ⟨S3, fun i' j' h1 h2 h3 => ?_, _, _, rfl⟩
        rcases Nat.lt_or_ge i' i with z | z
        · exact hn i' j' h1 h2 z
        · obtain rfl : i' = i := by omega
          exact hm j' h1 h2 (by omega)
    · rintro σ' H2 ⟨S2, hn, o3, o4, rfl⟩
      exact q1 (fun i j _ h1 h2 => hn i j h1 h2 (by omega)) _ (s1.trans S2)
/-! #### area_of -/
def sp_area_of (K : PySem.W.Frag) : Sp := fun vs H Q _ => ∃ (v : V) (ps : List Pt), vs = [v] ∧ PSq K H v ps ∧ AllBd 40000 ps ∧ ps.length ≤ 100000 ∧ ∀ H', Same H H' → Q (.int (areaL (edgs ps))) H'
theorem ok_area_of (T : Tx K mg) : FnOk P w K mg base CX0 2 (He.ga K "area_of") (fdOf K (He.ga K "area_of")) ["corners"] (sp_area_of K) := by
  refine T.d_area_of.ok sc_area_of (fun vs H Q E h => ?_) (fun cdv A outer s H vs Q E hr h => ?_)
  · obtain ⟨v, ps, rfl, _⟩ := h
    rfl
  · obtain ⟨v, ps, rfl, hv, hb, hl, q⟩ := h
    refine ⟨_, PSs.nox (pss_one (ps_ret (pe_callB (kSum (K := K) rfl) (by rfl) T.n_sum (by decide +kernel) (pa_cons (pe_lc (own := [("start", 1), ("end", 2)]) (g := (gTup K 2 (gCons (gName 1) (gCons (gName 2) gNil)))) (tt := tYes) rfl sc_area_of.nd (kpiL (K := K) (pe_call (ok_edges_of (K := K) T) (hr.mono (by decide)) rfl T.g_edges_of T.d_edges_of.kp (bn_edges_of T) .nil pass0 (pa_cons (pv 0) pa_nil))) (blkOk_by (own := [("start", 1), ("end", 2)]) (N := ["corners", "start", "end"]) (sc := defScope s_area_of) (by decide +kernel)) (fun _ _ _ _ _ => (kpgTup (K := K) (n := 2) rfl (pgs_cons (pg_name (i := 1) sc_area_of.nd rfl (Or.inl rfl)) (pgs_cons (pg_name (i := 2) sc_area_of.nd rfl (Or.inl rfl)) pgs_nil)))) (fun _ _ _ _ _ => pts_nil) (fun _ _ _ _ _ => (pe_call (ok_cross_of (K := K) T) (hr.mono (by decide)) rfl T.g_cross_of T.d_cross_of.kp (bn_cross_of T) .nil pass0 (pa_cons (pv 1) (pa_cons (pv 2) pa_nil))))) pa_nil)))), ?_⟩
    walk_at "gx"
    refine ⟨v, ps, rfl, hv, hl, fun l ws H1 s1 _ hl1 hw => ?_⟩
    walk_at "gx"
    have hle : (edgs ps).length = ps.length := by unfold edgs; rw [List.length_map, List.length_range]
    have hlw := hw.length
    refine compL (xs := ws) (by omega) (fun D i acc H' => Same H1 H' ∧ acc = (((edgs ps).map fun e => crs e.1 e.2).take i).map V.int) (SqL.of hl1) (fun D hD => ⟨same_new (Same.refl _) hD, rfl⟩) (fun D i acc H' _ p => p.1.seq (SqL.of hl1)) ?_ ?_
    · rintro D i z acc H2 hD hz hi ⟨S2, rfl⟩ hacc hl2
      obtain ⟨e, he, hv⟩ := (hw.same S2).at' hz
      obtain ⟨b, x, y, rfl, tb, hx, hy⟩ := hv.pair_of
      have hmem : PBd 40000 e.1 ∧ PBd 40000 e.2 := by
        unfold edgs at he
        rw [List.getElem?_map, List.getElem?_range (by omega)] at he
        obtain rfl := Option.some.inj he
        exact ⟨hb _ (atC_mem (by omega)), hb _ (nxt_mem (by omega))⟩
      walk_at "gx"
      refine ⟨rfl, ?_⟩
      walk_at "gx"
      refine ⟨x, y, _, _, rfl, hx, hy, hmem.1.mono (by decide), hmem.2.mono (by decide), ?_⟩
      refine cnext hacc hl2 (by omega) ⟨same_kp S2 hD ((Kp.of_same (Same.refl _)).put), ?_⟩
      rw [List.take_succ, List.getElem?_map, he, List.map_append]; rfl
    · rintro D acc H2 hD ⟨S2, rfl⟩ hacc hl2
      have et : ((edgs ps).map fun e => crs e.1 e.2).take ws.length = (edgs ps).map fun e => crs e.1 e.2 := by
        rw [List.take_of_length_le]; rw [List.length_map]; omega
      rw [et] at hacc
      walk_at "gx"
      refine ⟨D, _, rfl, SqL.of hacc, ?_⟩
      exact q _ (s1.trans S2)
/-! #### arranged -/
def sp_arranged (K : PySem.W.Frag) : Sp := fun vs H Q _ => ∃ (v : V) (ps : List Pt), vs = [v] ∧ PSq K H v ps ∧ AllBd 40000 ps ∧ 0 < ps.length ∧ ps.length ≤ 1000 ∧
  ∀ (t : Addr) (xs : List V) (H' : Hp), Same H H' → SqT K H' t xs → Hds K H' xs (arr ps) → Q (.ref t) H'
theorem ok_arranged (T : Tx K mg) : FnOk P w K mg base CX0 3 (He.ga K "arranged") (fdOf K (He.ga K "arranged")) ["corners"] (sp_arranged K) := by
  refine T.d_arranged.ok sc_arranged (fun vs H Q E h => ?_) (fun cdv A outer s H vs Q E hr h => ?_)
  · obtain ⟨v, ps, rfl, _⟩ := h
    rfl
  · obtain ⟨v, ps, rfl, hv, hb, h0, hl, q⟩ := h
    refine ⟨_, PSs.nox (pss_cons (ps_set (i := 1) sc_arranged.nd rfl (Or.inl rfl) (pe_ifExp (pt_cmpR op_gt (pe_call (ok_area_of (K := K) T) (hr.mono (by decide)) rfl T.g_area_of T.d_area_of.kp (bn_area_of T) .nil pass0 (pa_cons (pv 0) pa_nil)) pe_int (nomark _)) (pe_callTy (kLstOf (K := K)) (by rfl) T.n_list (by decide +kernel) (pa_cons (pv 0) pa_nil)) (kRevL (K := K) (pe_revL (pe_callTy (kLstOf (K := K)) (by rfl) T.n_list (by decide +kernel) (pa_cons (pv 0) pa_nil))))))
      (pss_cons (ps_set (i := 2) sc_arranged.nd rfl (Or.inl rfl) (kBM (K := K) (pe_bm PySem.F.plainAttrs_list PySem.F.slot_list_index PySem.F.type_list_index (kIndexD (K := K) hr) (pv 1) (pa_cons (pe_callB (kMinD (K := K) rfl hr) (by rfl) T.n_min (by decide +kernel) (pa_cons (pv 1) pa_nil)) pa_nil))))
      (pss_one (ps_ret (pe_callTy (kTupOf (K := K)) (by rfl) T.n_tuple (by decide +kernel) (pa_cons (pe_op op_cat (pe_slice (kSlL (K := K)) (pv 1) (po_some (pv 2)) po_none) (pe_slice (kSlL (K := K)) (pv 1) po_none (po_some (pv 2)))) pa_nil)))))), ?_⟩
    refine r_seq ?_
    refine r_asg ?_
    refine r_mid (fun v H1 => ∃ l ws, v = .ref l ∧ Same H H1 ∧ H1 l = some (.lst ws) ∧ Hds K H1 ws (spn ps)) (fun Q' hQ => ?_) ?_
    · walk_at "gx"
      refine ⟨v, ps, rfl, hv, hb, by omega, fun H1 s1 => ?_⟩
      rw [area_are]
      walk_at "gx"
      obtain ⟨a, xs, rfl, hS, hx⟩ := hv.same s1
      refine r_dec (fun e => ?_) (fun e => ?_)
      · walk_at "gx"
        refine r_lstOfS hS fun l hl1 => ?_
        generalize e2 : upd H1 l _ = H2
        obtain ⟨s2, g2⟩ := fresh hl1 e2
        exact hQ _ _ ⟨l, xs, rfl, s1.trans s2, g2, by unfold spn; rw [if_pos e]; exact hx.same s2⟩
      · refine r_revL ?_
        walk_at "gx"
        refine r_lstOfS hS fun l hl1 => ?_
        generalize e2 : upd H1 l _ = H2
        obtain ⟨s2, g2⟩ := fresh hl1 e2
        refine ⟨l, xs, rfl, SqL.of g2, fun p hp => ?_⟩
        generalize e3 : upd H2 p _ = H3
        obtain ⟨s3, g3⟩ := fresh hp e3
        exact hQ _ _ ⟨p, _, rfl, (s1.trans s2).trans s3, g3, by unfold spn; rw [if_neg e]; exact (hx.same (s2.trans s3)).reverse⟩
    · rintro _ H1 ⟨l, ws, rfl, S1, hl1, hw⟩
      have hlw : ws.length = ps.length := by rw [hw.length, spn_len]
      obtain ⟨p, qs, eo⟩ : ∃ p qs, spn ps = p :: qs := by
        cases e : spn ps with
        | nil => have := spn_len ps; rw [e] at this; simp at this; omega
        | cons p qs => exact ⟨p, qs, rfl⟩
      have hmem : minPt (spn ps) ∈ spn ps := by rw [eo]; exact minP_mem qs p
      obtain ⟨i1, i2⟩ := idx_mem hmem
      generalize hj : idx (minPt (spn ps)) (spn ps) = j at i1 i2
      have ea : arr ps = rot j (spn ps) := by unfold arr; rw [hj]
      rw [ea] at q
      have hjl : j < (spn ps).length := (List.getElem?_eq_some_iff.mp i1).1
      walk_at "gx"
      refine ⟨.inl ⟨rfl, _, SqL.of hl1⟩, ?_⟩
      walk_at "gx"
      have hw' := hw
      rw [eo] at hw'
      refine r_minP (SqL.of hl1) hw' fun i v hi hm => ?_
      obtain ⟨z, hz, hv⟩ := hw.at' hi
      have ez : z = minPt (spn ps) := by
        rw [eo, hm] at hz
        rw [eo]
        exact (Option.some.inj hz).symm
      rw [ez] at hv
      walk_at "gx"
      refine r_indexH (SqL.of hl1) hw hv i1 i2 ?_
      walk_at "gx"
      refine r_slL (SqL.of hl1) fun p1 hp1 => ?_
      rw [cut_from]
      generalize e2 : upd H1 p1 _ = H2
      obtain ⟨s2, g2⟩ := fresh hp1 e2
      walk_at "gx"
      refine r_slL (SqL.of (s2 _ _ hl1)) fun p2 hp2 => ?_
      rw [cut_to]
      generalize e3 : upd H2 p2 _ = H3
      obtain ⟨s3, g3⟩ := fresh hp2 e3
      refine r_cat (s3 _ _ g2) g3 (Nat.le_trans (show _ ≤ 2000 by rw [List.length_drop, List.length_take]; omega) (by decide)) fun p3 hp3 => ?_
      generalize e4 : upd H3 p3 _ = H4
      obtain ⟨s4, g4⟩ := fresh hp3 e4
      walk_at "gx"
      refine r_tupOfL (SqL.of g4) fun p4 hp4 => ?_
      generalize e5 : upd H4 p4 _ = H5
      obtain ⟨s5, g5⟩ := fresh hp4 e5
      have S5 := ((s2.trans s3).trans s4).trans s5
      refine q _ _ _ (S1.trans S5) (SqT.of g5) ?_
      exact ((hw.drop j).append (hw.take j)).same S5
/-! #### checked_corners -/
/-- what an argument is, as corners -/
inductive CIn (K : PySem.W.Frag) (H : Hp) : V → Cin → Prop where
  | pts {a : Addr} {xs : List V} {ps : List Pt} : SqS K H a xs → Hds K H xs ps → 3 ≤ ps.length → ps.length ≤ 60 → CIn K H (.ref a) (.pts ps)
  | kind {v : V} {n : String} : Kd K H v n → (n == "list" || n == "tuple") = false → CIn K H v (.bad none)
  | len {a : Addr} {xs : List V} : SqS K H a xs → ¬ (3 ≤ xs.length ∧ xs.length ≤ 60) → CIn K H (.ref a) (.bad none)
  | item {a : Addr} {xs : List V} {i : Nat} (f : Nat → Bool) : SqS K H a xs → 3 ≤ xs.length → xs.length ≤ 60 → (∀ j x, xs[j]? = some x → PtB K H x (f j)) → i < xs.length → f i = false → (∀ j, j < i → f j = true) → CIn K H (.ref a) (.bad (some i))
theorem CIn.same {H H' : Hp} {v : V} {c : Cin} (h : CIn K H v c) (s : Same H H') : CIn K H' v c := by
  cases h with
  | pts h1 h2 h3 h4 => exact .pts (h1.same s) (h2.same s) h3 h4
  | kind h1 h2 => exact .kind (h1.same s) h2
  | len h1 h2 => exact .len (h1.same s) h2
  | item f h1 h2 h3 h4 h5 h6 h7 => exact .item f (h1.same s) h2 h3 (fun j x e => (h4 j x e).same s) h5 h6 h7
/-- what the checks of corners let out -/
structure ErrW (K : PySem.W.Frag) (H : Hp) (c : Cin) (E : XK) : Prop where
  bad : ∀ o, c = .bad o → ∀ d H', Same H H' → H d = none → H' d = some (.xd [("position", posV o)]) → E (.ref (He.ga K "InvalidPolygon")) (some d) H'
  bd : ∀ ps, c = .pts ps → AllBd 40000 ps
  deg : ∀ ps, c = .pts ps → ∀ i, DegAt ps i → ∀ d H', Same H H' → H d = none → H' d = some (.xd [("position", .int (i : Int))]) → E (.ref (He.ga K "DegenerateCorner")) (some d) H'
  crs : ∀ ps, c = .pts ps → ∀ i j, CrsAt ps i j → ∀ d H', Same H H' → H d = none → H' d = some (.xd [("second", .int (j : Int)), ("first", .int (i : Int))]) → E (.ref (He.ga K "CrossingEdges")) (some d) H'
def sp_checked_corners (K : PySem.W.Frag) : Sp := fun vs H Q E => ∃ (v : V) (c : Cin), vs = [v, .int 60] ∧ CIn K H v c ∧ ErrW K H c E ∧
  ∀ ps, c = .pts ps → Good ps → ∀ (t : Addr) (xs : List V) (H' : Hp), Same H H' → SqT K H' t xs → Hds K H' xs (arr ps) → Q (.ref t) H'
theorem ok_checked_corners (T : Tx K mg) : FnOk P w K mg base (L2.CX P w) 6 (He.ga K "checked_corners") (fdOf K (He.ga K "checked_corners")) ["corners", "limit"] (sp_checked_corners K) := by
  refine T.d_checked_corners.ok sc_checked_corners (fun vs H Q E h => ?_) (fun cdv A outer s H vs Q E hr h => ?_)
  · obtain ⟨v, c, rfl, _⟩ := h
    rfl
  · obtain ⟨v, c, rfl, hc, hE, q⟩ := h
    refine ⟨_, (pss_cons (ps_if (PW.pt (pw_or (pt_not (pt_val (pe_callB (kIsiT (K := K)) (by rfl) T.n_isinstance (by decide +kernel) (pa_cons (pv 0) (pa_cons (pe_tup (pa_cons (pe_bltn (v := .ty "list") (by rfl) T.n_list (by decide +kernel) rfl) (pa_cons (pe_bltn (v := .ty "tuple") (by rfl) T.n_tuple (by decide +kernel) rfl) pa_nil))) pa_nil))))) (pw_or1 (pt_not (pt_chain op_le op_le (pe_glob (v := .int 3) rfl T.c_MIN_CORNERS.choose_spec ⟨_, rfl⟩) (pe_callB (kLen (K := K)) (by rfl) T.n_len (by decide +kernel) (pa_cons (pv 0) pa_nil)) (pv 1)))))) (pss_one (ps_raise rfl (takes_of rfl rfl rfl rfl) (pmk_oex T.x_InvalidPolygon.o T.x_InvalidPolygon.i T.x_InvalidPolygon.t (ok_InvalidPolygon_init (K := K) T) (hr.mono (by decide)) (bn_InvalidPolygon_init T) .nil pass0 rfl T.g_InvalidPolygon (pa_cons pe_non pa_nil)))) pss_nil)
      (pss_cons (ps_expr (pe_call (ok_check_points (K := K) T) (hr.mono (by decide)) rfl T.g_check_points T.d_check_points.kp (bn_check_points T) .nil (passes_call (takes_of rfl rfl rfl rfl) (fun _ _ _ _ h => h)) (pa_cons (pv 0) pa_nil)))
      (pss_cons (ps_expr (pe_call (ok_check_turns (K := K) T) (hr.mono (by decide)) rfl T.g_check_turns T.d_check_turns.kp (bn_check_turns T) .nil (passes_call (takes_of rfl rfl rfl rfl) (fun _ _ _ _ h => h)) (pa_cons (pv 0) pa_nil)))
      (pss_cons (ps_expr (pe_call (ok_check_crossings (K := K) T) (hr.mono (by decide)) rfl T.g_check_crossings T.d_check_crossings.kp (bn_check_crossings T) .nil (passes_call (takes_of rfl rfl rfl rfl) (fun _ _ _ _ h => h)) (pa_cons (pv 0) pa_nil)))
      (pss_one (ps_ret (pe_call (ok_arranged (K := K) T) (hr.mono (by decide)) rfl T.g_arranged T.d_arranged.kp (bn_arranged T) .nil pass0 (pa_cons (pv 0) pa_nil)))))))), ?_⟩
    walk_at "gx"
    refine r_new fun t ht => ?_
    generalize e1 : upd H t _ = H1
    obtain ⟨s1, g1⟩ := fresh ht e1
    have bad0 : ∀ H2, Same H H2 → c = .bad none → tMkO (He.ga K "InvalidPolygon") (spX1 (He.ga K "InvalidPolygon") "position") [] (tCons (tC V.non) tNil) [some v, some (.int 60)] H2 (fun cls d H' => E cls d H') := by
      intro H2 S2 ec
      refine ⟨(by show 1 ≤ 1000; decide), ?_⟩
      exact r_mkX1 fun d H5 s5 hd h5 => hE.bad none ec d H5 (S2.trans s5) (S2.free hd) h5
    cases hc with
    | kind kd hn =>
      walk_at "gx"
      refine r_isLT g1 (kd.same s1) ?_
      rw [hn]
      walk_at "gx"
      refine iteT (iteT ?_)
      exact bad0 H1 s1 rfl
    | len hS hl =>
      have hS1 := hS.same s1
      obtain ⟨n, kd, hn⟩ := sqs_kd hS1
      walk_at "gx"
      refine r_isLT g1 kd ?_
      rw [hn]
      walk_at "gx"
      refine if_ff ?_
      walk_at "gx"
      refine r_chain ?_
      walk_at "gx"
      refine r_lenS hS1 ?_
      walk_at "gx"
      refine r_dec (fun e => ?_) (fun e => ?_)
      · walk_at "gx"
        rw [decide_eq_false (by omega)]
        exact iteT (bad0 H1 s1 rfl)
      · exact ⟨_, rfl, iteT (bad0 H1 s1 rfl)⟩
    | @item a xs i f hS h3 h60 hf hi fi fj =>
      have hS1 := hS.same s1
      obtain ⟨n, kd, hn⟩ := sqs_kd hS1
      walk_at "gx"
      refine r_isLT g1 kd ?_
      rw [hn]
      walk_at "gx"
      refine if_ff ?_
      walk_at "gx"
      refine r_chain ?_
      walk_at "gx"
      refine r_lenS hS1 ?_
      walk_at "gx"
      refine r_dec (fun e => ?_) (fun e => absurd (show (3 : Int) ≤ _ by omega) e)
      walk_at "gx"
      rw [decide_eq_true (by omega)]
      refine if_ff ?_
      walk_at "gx"
      refine .inl ⟨_, _, f, rfl, hS1, fun j x e => (hf j x e).same s1, fun ha => ?_, fun i' hi' fi' fj' d H2 s2 hd hx => ?_⟩
      · rw [ha _ hi] at fi; cases fi
      · have ei : i' = i := by
          rcases Nat.lt_trichotomy i' i with z | z | z
          · rw [fj _ z] at fi'; cases fi'
          · exact z
          · rw [fj' _ z] at fi; cases fi
        subst ei
        exact hE.bad _ rfl d H2 (s1.trans s2) (s1.free hd) hx
    | @pts a xs ps hS hx h3 h60 =>
      have hS1 := hS.same s1
      have hx1 := hx.same s1
      have hlx := hx.length
      obtain ⟨n, kd, hn⟩ := sqs_kd hS1
      have hb := hE.bd ps rfl
      walk_at "gx"
      refine r_isLT g1 kd ?_
      rw [hn]
      walk_at "gx"
      refine if_ff ?_
      walk_at "gx"
      refine r_chain ?_
      walk_at "gx"
      refine r_lenS hS1 ?_
      walk_at "gx"
      refine r_dec (fun e => ?_) (fun e => absurd (show (3 : Int) ≤ _ by omega) e)
      walk_at "gx"
      rw [decide_eq_true (by omega)]
      refine if_ff ?_
      walk_at "gx"
      refine .inl ⟨_, xs, fun _ => true, rfl, hS1, fun j x e => ?_, fun _ H2 s2 => ?_, fun _ _ z => nomatch z⟩
      · obtain ⟨p, _, hp⟩ := hx1.at' e
        exact .yes p hp
      have S2 := s1.trans s2
      walk_at "gx"
      refine ⟨_, ps, rfl, ⟨a, xs, rfl, hS.same S2, hx.same S2⟩, fun p hp => (hb p hp).mono (by decide), by omega, fun nd H3 s3 => ?_, fun i hi h0 hn d H3 s3 hd hxd => hE.deg ps rfl i ⟨hi, h0, hn⟩ d H3 (S2.trans s3) (S2.free hd) hxd⟩
      have S3 := S2.trans s3
      walk_at "gx"
      refine ⟨_, ps, rfl, ⟨a, xs, rfl, hS.same S3, hx.same S3⟩, hb, by omega, fun nc H4 s4 => ?_, fun i j hij hj hc hn d H4 s4 hd hxd => hE.crs ps rfl i j ⟨nd, hij, hj, hc, hn⟩ d H4 (S3.trans s4) (S3.free hd) hxd⟩
      have S4 := S3.trans s4
      walk_at "gx"
      exact ⟨_, ps, rfl, ⟨a, xs, rfl, hS.same S4, hx.same S4⟩, hb, by omega, by omega, fun t' xs' H5 s5 ht' hx' => q ps rfl ⟨nd, fun i j h1 h2 => nc i j (by omega) h1 h2⟩ t' xs' H5 (S4.trans s5) ht' hx'⟩
/-! #### first_reflex -/
def sp_first_reflex (K : PySem.W.Frag) : Sp := fun vs H Q _ => ∃ (v : V) (ps : List Pt), vs = [v] ∧ PSq K H v ps ∧ AllBd 90000 ps ∧ ps.length ≤ 100000 ∧ ∀ H', Same H H' → Q (posV (reflex ps)) H'
theorem ok_first_reflex (T : Tx K mg) : FnOk P w K mg base CX0 4 (He.ga K "first_reflex") (fdOf K (He.ga K "first_reflex")) ["corners"] (sp_first_reflex K) := by
  refine T.d_first_reflex.ok sc_first_reflex (fun vs H Q E h => ?_) (fun cdv A outer s H vs Q E hr h => ?_)
  · obtain ⟨v, ps, rfl, _⟩ := h
    rfl
  · obtain ⟨v, ps, rfl, hv, hb, hl, q⟩ := h
    refine ⟨_, PSs.nox (pss_cons (ps_forG (fun _ _ _ _ _ z => z.elim) PassesOwn.never (pig_enum (pgm_call (ok_triples (K := K) T) (hr.mono (by decide)) rfl T.g_triples T.d_triples.kp (bn_triples T) (pa_cons (pv 0) pa_nil)) (hr.mono (by decide)) (hr.mono (by decide)) (by rfl) T.n_enumerate) (kpgTup (K := K) (n := 2) rfl (pgs_cons (pg_name (i := 1) sc_first_reflex.nd rfl (Or.inl rfl)) (pgs_cons (kpgTup (K := K) (n := 3) rfl (pgs_cons (pg_name (i := 2) sc_first_reflex.nd rfl (Or.inl rfl)) (pgs_cons (pg_name (i := 3) sc_first_reflex.nd rfl (Or.inl rfl)) (pgs_cons (pg_name (i := 4) sc_first_reflex.nd rfl (Or.inl rfl)) pgs_nil)))) pgs_nil)))
      (pss_one (ps_if (pt_cmpR op_lt (pe_call (ok_turn_of (K := K) T) (hr.mono (by decide)) rfl T.g_turn_of T.d_turn_of.kp (bn_turn_of T) .nil pass0 (pa_cons (pv 2) (pa_cons (pv 3) (pa_cons (pv 4) pa_nil)))) pe_int (nomark _)) (pss_one (ps_ret (pv 1))) pss_nil)))
      (pss_one (ps_ret pe_non))), ?_⟩
    walk_at "gx"
    refine r_forGE ?_ ?_
    · refine ⟨v, rfl, ?_⟩
      refine ⟨v, ps, rfl, hv, ?_⟩
      refine ⟨Same.refl _, fun i σ' H' => Same H H' ∧ (∀ j, j < i → ¬ tri0 ps j < 0) ∧ ∃ o1 o2 o3 o4, σ' = [some v, o1, o2, o3, o4], ⟨Same.refl _, fun j hj => absurd hj (Nat.not_lt_zero _), _, _, _, _, rfl⟩, ?_, ?_⟩
      · rintro i σ' H' T y Hy hi ⟨S, hn, o1, o2, o3, o4, rfl⟩ ⟨s1, a, u, x, w, rfl, ha, hu, hx, hw⟩ hT
        have ei : ps.length - (ps.length - i) = i := by omega
        rw [ei] at hu hx hw
        generalize e3 : upd Hy T _ = H3
        obtain ⟨s3, g3⟩ := fresh hT e3
        have ha3 := sqT_same s3 ha
        walk_at "gx"
        refine ⟨u, x, w, _, _, _, rfl, hu.same s3, hx.same s3, hw.same s3, hb _ (prv_mem (by omega)), hb _ (atC_mem hi), hb _ (nxt_mem (by omega)), fun H4 s4 => ?_⟩
        have S4 := ((S.trans s1).trans s3).trans s4
        walk_at "gx"
        refine r_dec (fun e => ?_) (fun e => ?_)
        · walk_at "gx"
          have er := reflex_some hi e hn
          have := q H4 S4
          rw [er] at this
          exact this
        · walk_at "gx"
          refine ⟨⟨S4, fun j hj => ?_, _, _, _, _, rfl⟩, s3.trans s4⟩
          rcases Nat.lt_or_ge j i with z | z
          · exact hn j z
          · obtain rfl : j = i := by omega
            exact e
      · rintro σ' H' H2 ⟨S, hn, o1, o2, o3, o4, rfl⟩ hf
        walk_at "gx"
        have := q H2 (S.trans hf)
        rw [reflex_none hn] at this
        exact this
    · rintro R R' h ⟨v', e, v2, ps2, e2, hv2, r⟩
      exact ⟨v', e, v2, ps2, e2, hv2, h _ _ _ r⟩
/-! #### Polygon.__init__ -/
/-- C is the class of polygons, or one below it -/
structure PgC (K : PySem.W.Frag) (C : Addr) : Prop where
  ins : InsTy K C
  nk : NoAttr K C "kept"
  nr : NoAttr K C "reflex"
  isa : PySem.W.kitOne K (.ref C) (.ref (He.ga K "Polygon")) = some true
theorem pgc (T : Tx K mg) : PgC K (He.ga K "Polygon") := ⟨T.y_Polygon, T.a_Polygon_kept, T.a_Polygon_reflex, T.i_Polygon⟩
/-- v is a polygon of the class C with the corners ps -/
def PgAt (K : PySem.W.Frag) (H : Hp) (v : V) (C : Addr) (ps : List Pt) : Prop := PgC K C ∧ ∃ x dx t xs, v = .ref x ∧ H x = some (.ins C dx [("kept", .ref t), ("reflex", posV (reflex ps))]) ∧ SqT K H t xs ∧ Hds K H xs ps
theorem PgAt.same {H H' : Hp} {v : V} {C : Addr} {ps : List Pt} (h : PgAt K H v C ps) (s : Same H H') : PgAt K H' v C ps := by
  obtain ⟨c, x, dx, t, xs, rfl, h1, h2, h3⟩ := h
  exact ⟨c, x, dx, t, xs, rfl, s _ _ h1, sqT_same s h2, h3.same s⟩
theorem PgAt.kp {H H' : Hp} {v : V} {C : Addr} {ps : List Pt} {l : Addr} (h : PgAt K H v C ps) (k : Kp l H H') (d : DrAt H l) : PgAt K H' v C ps := by
  obtain ⟨c, x, dx, t, xs, rfl, h1, h2, h3⟩ := h
  obtain ⟨a, b, e, _⟩ := id d
  exact ⟨c, x, dx, t, xs, rfl, k _ _ (ne_of h1 e (by intro z; cases z)) h1, sqT_kp k ⟨_, e⟩ h2, h3.kp k d⟩
theorem errW_good {H : Hp} {ps : List Pt} {E : XK} (g : Good ps) (hb : AllBd 40000 ps) : ErrW K H (.pts ps) E := by
  refine ⟨(fun o z => nomatch z), fun ps' e => ?_, fun ps' e i hi => ?_, fun ps' e i j hi => ?_⟩
  · cases e; exact hb
  · cases e; exact absurd hi.2.1 (g.1 i hi.1)
  · cases e
    have := g.2 i j hi.2.1 hi.2.2.1
    rw [hi.2.2.2.1] at this; cases this
def sp_Polygon_init (K : PySem.W.Frag) : Sp := fun vs H Q E => ∃ (x dx C : Addr) (v : V) (c : Cin), vs = [.ref x, v] ∧ PgC K C ∧ H x = some (.ins C dx []) ∧ CIn K H v c ∧ ErrW K H c E ∧
  ∀ ps, c = .pts ps → Good ps → ∀ H', Kp x H H' → PgAt K H' (.ref x) C (arr ps) → Q .non H'
theorem ok_Polygon_init (T : Tx K mg) : FnOk P w K mg base (L2.CX P w) 7 (He.ma K (He.ga K "Polygon") "__init__") (fdOf K (He.ma K (He.ga K "Polygon") "__init__")) ["self", "corners"] (sp_Polygon_init K) := by
  refine T.d_Polygon_init.ok sc_Polygon_init (fun vs H Q E h => ?_) (fun cdv A outer s H vs Q E hr h => ?_)
  · obtain ⟨x, dx, C, v, c, rfl, _⟩ := h
    rfl
  · obtain ⟨x, dx, C, v, c, rfl, pc, hx, hc, hE, q⟩ := h
    have hC := pc.ins.cl
    have nk := pc.nk
    have nr := pc.nr
    refine ⟨_, (pss_cons (kSFld (K := K) (ps_fld (pv 0) (pe_call (ok_checked_corners (K := K) T) (hr.mono (by decide)) rfl T.g_checked_corners T.d_checked_corners.kp (bn_checked_corners T) .nil (passes_call (takes_of rfl rfl rfl rfl) (fun _ _ _ _ h => h)) (pa_cons (pv 1) (pa_cons (kCVal (K := K) (pe_glob (v := .ref (He.ga K "Polygon")) rfl T.g_Polygon rfl)) pa_nil))) rfl))
      (pss_one (kSFld (K := K) (ps_fld (pv 0) (pe_call (ok_first_reflex (K := K) T) (hr.mono (by decide)) rfl T.g_first_reflex T.d_first_reflex.kp (bn_first_reflex T) .nil pass0 (pa_cons (kFld (K := K) (pe_fld (pv 0) rfl)) pa_nil)) rfl)))), ?_⟩
    walk_at "gx"
    refine ⟨_, _, _, _, rfl, T.cr_Polygon, T.cv_Polygon_MAX_CORNERS.choose_spec, ?_⟩
    walk_at "gx"
    refine ⟨v, c, rfl, hc, hE, fun ps ec hg t xs H1 s1 ht hxs => ?_⟩
    subst ec
    have hb := hE.bd ps rfl
    have hl : ps.length ≤ 60 := by
      cases hc with
      | pts _ _ _ h => exact h
    walk_at "gx"
    have hx1 := s1 _ _ hx
    refine ⟨x, C, dx, [], rfl, hx1, hC, nk, by decide, ?_⟩
    generalize e2 : upd H1 x _ = H2
    have hx2 : H2 x = some (.ins C dx [("kept", .ref t)]) := by subst e2; exact upd_same
    have k2 : Kp x H1 H2 := by subst e2; exact (Kp.refl x H1).put
    have n1 := notT_ins hx1
    have n2 := notT_ins hx2
    have ht2 := sqT_kpT k2 n1 ht
    have hxs2 := immsT k2 n1 hxs
    walk_at "gx"
    refine r_fldAt hx2 hC nk rfl ?_
    walk_at "gx"
    refine ⟨.ref t, arr ps, rfl, ⟨t, xs, rfl, .inr ht2, hxs2⟩, fun p hp => (arr_bd hb p hp).mono (by decide), by rw [arr_len]; omega, fun H3 s3 => ?_⟩
    walk_at "gx"
    have hx3 := s3 _ _ hx2
    refine ⟨x, C, dx, _, rfl, hx3, hC, nr, (by show 1 < 1000; decide), ?_⟩
    have k4 : Kp x H3 (upd H3 x (.ins C dx (putF "reflex" (posV (reflex (arr ps))) [("kept", .ref t)]))) := (Kp.refl x H3).put
    have n3 := notT_ins hx3
    refine q ps rfl hg _ ((((Kp.of_same s1).trans k2).trans (Kp.of_same s3)).trans k4) ⟨pc, x, dx, t, xs, rfl, upd_same, sqT_kpT k4 n3 (sqT_same s3 ht2), immsT k4 n3 (hxs2.same s3)⟩
/-- Polygon(..) where it is made -/
theorem mk_poly {H : Hp} {C : Addr} {v : V} {c : Cin} {R : Addr → Hp → Prop} {E : XK} (pc : PgC K C) (hc : CIn K H v c) (hE : ErrW K H c E) (q : ∀ ps, c = .pts ps → Good ps → ∀ x H', Same H H' → PgAt K H' (.ref x) C (arr ps) → R x H') : ∀ x dx, H x = none → H dx = none → dx ≠ x →
    sp_Polygon_init K [V.ref x, v] (upd (upd H dx (.own x)) x (.ins C dx [])) (fun v H2 => v = .non ∧ R x H2) E := by
  intro x dx hx hdx hne
  have s0 : Same H (upd (upd H dx (.own x)) x (.ins C dx [])) := by
    refine same_new (same_new (Same.refl H) hdx) ?_
    rw [upd_ne hne.symm]; exact hx
  refine ⟨x, dx, C, v, c, rfl, pc, upd_same, hc.same s0, ⟨fun o eo d H' s hd h => hE.bad o eo d H' (s0.trans s) (s0.free hd) h, hE.bd, fun ps e i hi d H' s hd h => hE.deg ps e i hi d H' (s0.trans s) (s0.free hd) h, fun ps e i j hi d H' s hd h => hE.crs ps e i j hi d H' (s0.trans s) (s0.free hd) h⟩, fun ps e hg H' k hp => ⟨rfl, q ps e hg _ _ (same_kp s0 hx k) hp⟩⟩
/-! #### Polygon.corners -/
abbrev pCorners (K : PySem.W.Frag) (C : Addr) : Prop := PropOf K C "corners" (He.ma K (He.ga K "Polygon") "corners") (He5.wf K (He.ga K "Polygon") "property" "corners")
def sp_Polygon_corners (K : PySem.W.Frag) : Sp := fun vs H Q _ => ∃ (v : V) (C : Addr) (ps : List Pt), vs = [v] ∧ PgAt K H v C ps ∧ ∀ t xs, SqT K H t xs → Hds K H xs ps → Q (.ref t) H
theorem ok_Polygon_corners (T : Tx K mg) : FnOk P w K mg base CX0 1 (He5.wf K (He.ga K "Polygon") "property" "corners") (fdOf K (He5.wf K (He.ga K "Polygon") "property" "corners")) ["self"] (sp_Polygon_corners K) := by
  refine T.d_Polygon_corners.ok sc_Polygon_corners (fun vs H Q E h => ?_) (fun cdv A outer s H vs Q E hr h => ?_)
  · obtain ⟨v, C, ps, rfl, _⟩ := h
    rfl
  · obtain ⟨v, C, ps, rfl, ⟨pc, x, dx, t, xs, rfl, hx, ht, hxs⟩, q⟩ := h
    refine ⟨_, PSs.nox (pss_one (ps_ret (kFld (K := K) (pe_fld (pv 0) rfl)))), ?_⟩
    walk_at "gx"
    refine r_fldAt hx pc.ins.cl pc.nk rfl ?_
    exact q _ _ ht hxs
/-! #### GridMap.__init__ -/
def sp_GridMap_init (K : PySem.W.Frag) : Sp := fun vs H Q E => ∃ (x dx : Addr) (v1 v2 v3 v4 v5 v6 : V), vs = [.ref x, v1, v2, v3, v4, v5, v6] ∧ H x = some (.ins (He.ga K "GridMap") dx []) ∧ (∀ v ∈ [v1, v2, v3, v4, v5, v6], ∃ n, Kd K H v n) ∧
  ([v1, v2, v3, v4, v5, v6].all isI = false → ∀ H', Same H H' → E (.ref (He.ga K "InvalidInteger")) none H') ∧
  ∀ m : M6, [v1, v2, v3, v4, v5, v6] = m.vals → MBd 100000 m ∧ (m.Ok → ∀ t H', Kp x H H' → H' x = some (.ins (He.ga K "GridMap") dx [("six", .ref t)]) → SqT K H' t m.vals → Q .non H') ∧ (¬ m.Ok → ∀ H', Same H H' → E (.ref (He.ga K "InvalidMap")) none H')
theorem all_six {v1 v2 v3 v4 v5 v6 : V} (h : [v1, v2, v3, v4, v5, v6].all isI = true) : ∃ m : M6, [v1, v2, v3, v4, v5, v6] = m.vals := by
  have one : ∀ v, isI v = true → ∃ i, v = .int i := fun v hv => by
    cases v with
    | int i => exact ⟨i, rfl⟩
    | _ => cases hv
  have all := List.all_eq_true.mp h
  obtain ⟨a, rfl⟩ := one v1 (all _ (by simp))
  obtain ⟨b, rfl⟩ := one v2 (all _ (by simp))
  obtain ⟨c, rfl⟩ := one v3 (all _ (by simp))
  obtain ⟨d, rfl⟩ := one v4 (all _ (by simp))
  obtain ⟨e, rfl⟩ := one v5 (all _ (by simp))
  obtain ⟨f, rfl⟩ := one v6 (all _ (by simp))
  exact ⟨⟨a, b, c, d, e, f⟩, rfl⟩
theorem ok_iff {m : M6} : m.Ok ↔ ((m.a * m.d - m.b * m.c).natAbs : Int) = 1 := by
  unfold M6.Ok M6.det
  omega
theorem ok_GridMap_init (T : Tx K mg) : FnOk P w K mg base (L2.CX P w) 3 (He.ma K (He.ga K "GridMap") "__init__") (fdOf K (He.ma K (He.ga K "GridMap") "__init__")) ["self", "a", "b", "c", "d", "e", "f"] (sp_GridMap_init K) := by
  refine T.d_GridMap_init.ok sc_GridMap_init (fun vs H Q E h => ?_) (fun cdv A outer s H vs Q E hr h => ?_)
  · obtain ⟨x, dx, v1, v2, v3, v4, v5, v6, rfl, _⟩ := h
    rfl
  · obtain ⟨x, dx, v1, v2, v3, v4, v5, v6, rfl, hx, hk, q2, q1⟩ := h
    refine ⟨_, (pss_cons (ps_for (passes_of rfl) rfl (kpiT (K := K) (pe_tup (pa_cons (pv 1) (pa_cons (pv 2) (pa_cons (pv 3) (pa_cons (pv 4) (pa_cons (pv 5) (pa_cons (pv 6) pa_nil)))))))) (pg_name (i := 7) sc_GridMap_init.nd rfl (Or.inl rfl))
      (pss_one (ps_expr (pe_call (ok_check_integer (K := K) T) (hr.mono (by decide)) rfl T.g_check_integer T.d_check_integer.kp (bd1_check_integer T).choose_spec.2 (bd1_check_integer T).choose_spec.1 (passes_call (takes_of rfl rfl rfl rfl) (fun _ _ _ _ h => h)) (pa_cons (pv 7) pa_nil)))))
      (pss_cons (ps_if (pt_cmpR op_ne (pe_callB cAbs (by rfl) T.n_abs (by decide +kernel) (pa_cons (pe_op op_sub (pe_op op_mulA (pv 1) (pv 4)) (pe_op op_mulA (pv 2) (pv 3))) pa_nil)) pe_int (nomark _)) (pss_one (ps_raise rfl (takes_of rfl rfl rfl rfl) (pmk_own PySem.F.excBase_ValueError T.x_InvalidMap.x T.g_InvalidMap T.x_InvalidMap.k (raises_own T.x_InvalidMap.b T.x_InvalidMap.t) rfl))) pss_nil)
      (pss_one (kSFld (K := K) (ps_fld (pv 0) (pe_tup (pa_cons (pv 1) (pa_cons (pv 2) (pa_cons (pv 3) (pa_cons (pv 4) (pa_cons (pv 5) (pa_cons (pv 6) pa_nil))))))) rfl))))), ?_⟩
    walk_at "gx"
    refine r_new fun t ht => ?_
    generalize e1 : upd H t _ = H1
    obtain ⟨s1, g1⟩ := fresh ht e1
    walk_at "gx"
    refine loopT (xs := [v1, v2, v3, v4, v5, v6]) (fun i σ' H' => H1 = H' ∧ ([v1, v2, v3, v4, v5, v6].take i).all isI = true ∧ ∃ o, σ' = [some (.ref x), some v1, some v2, some v3, some v4, some v5, some v6, o]) ⟨rfl, rfl, _, rfl⟩ (fun i σ' H' _ q => by obtain ⟨rfl, _⟩ := q; exact SqT.of g1) ?_ ?_
    · rintro i z σ' H' hi ⟨rfl, ha, o, rfl⟩
      walk_at "gx"
      have hm := List.mem_of_getElem? hi
      obtain ⟨n, kd⟩ := hk z hm
      refine ⟨z, .non, n, rfl, kd.same s1, .inl rfl, fun g => ?_, fun g => q2 ?_ _ s1⟩
      · have hz : isI z = true := by
          cases z with
          | int j => rfl
          | _ => cases g
        refine ⟨rfl, ?_, _, rfl⟩
        have e : [v1, v2, v3, v4, v5, v6].take (i + 1) = [v1, v2, v3, v4, v5, v6].take i ++ [z] := by rw [List.take_succ, hi]; rfl
        rw [e, List.all_append, ha]
        show (isI z && true) = true
        rw [hz] <;> rfl
      · have hz : isI z = false := by
          cases z with
          | int j => cases g
          | _ => rfl
        cases q : [v1, v2, v3, v4, v5, v6].all isI with
        | false => rfl
        | true =>
          have := List.all_eq_true.mp q z hm
          rw [hz] at this
          cases this
    · rintro σ' H' ⟨rfl, ha, o, rfl⟩
      obtain ⟨m, em⟩ := all_six (v1 := v1) (v2 := v2) (v3 := v3) (v4 := v4) (v5 := v5) (v6 := v6) ha
      obtain ⟨bd, q1b, q3⟩ := q1 m em
      simp only [M6.vals, List.cons.injEq, and_true] at em
      obtain ⟨rfl, rfl, rfl, rfl, rfl, rfl⟩ := em
      obtain ⟨ba, bb, bc, bd, be, bf⟩ := bd
      walk_at "gx"
      refine r_I (ba.ok bd) ?_
      walk_at "gx"
      refine r_I (bb.ok bc) ?_
      walk_at "gx"
      refine r_ndec (fun hn => q3 (fun z => hn (ok_iff.mp z)) _ s1) (fun hn => ?_)
      walk_at "gx"
      refine r_new fun t2 ht2 => ?_
      generalize e2 : upd H1 t2 _ = H2
      obtain ⟨s2, g2⟩ := fresh ht2 e2
      walk_at "gx"
      have hx2 := s2 _ _ (s1 _ _ hx)
      refine ⟨x, _, dx, [], rfl, hx2, T.y_GridMap.cl, T.a_GridMap_six, by decide, ?_⟩
      have ne : t2 ≠ x := fun z => by
        subst z
        have := s1 _ _ hx
        rw [ht2] at this
        cases this
      refine q1b (ok_iff.mpr hn) t2 _ ((Kp.of_same (s1.trans s2)).put) upd_same ?_
      refine SqT.of ?_
      rw [upd_ne ne]
      exact g2
theorem mk_good {H : Hp} {m : M6} {Q : VK} {E : XK} (ok : m.Ok) (bd : MBd 100000 m) (q : ∀ v H', Same H H' → GmAt K H' v m → Q v H') : ∀ x dx, H x = none → H dx = none → dx ≠ x →
    sp_GridMap_init K [V.ref x, .int m.a, .int m.b, .int m.c, .int m.d, .int m.e, .int m.f] (upd (upd H dx (.own x)) x (.ins (He.ga K "GridMap") dx [])) (fun v H2 => v = .non ∧ Q (.ref x) H2) E := by
  intro x dx hx hdx hne
  have s0 : Same H (upd (upd H dx (.own x)) x (.ins (He.ga K "GridMap") dx [])) := by
    refine same_new (same_new (Same.refl H) hdx) ?_
    rw [upd_ne hne.symm]; exact hx
  refine ⟨x, dx, _, _, _, _, _, _, rfl, upd_same, ?_, (fun h => ?_), fun m' em => ?_⟩
  · intro v hv
    simp only [List.mem_cons, List.not_mem_nil, or_false] at hv
    rcases hv with rfl | rfl | rfl | rfl | rfl | rfl <;> exact ⟨_, .int _⟩
  · simp [isI] at h
  · have e : m' = m := by
      simp only [M6.vals, List.cons.injEq, and_true, V.int.injEq] at em
      obtain ⟨h1, h2, h3, h4, h5, h6⟩ := em
      cases m; cases m'
      simp only at *
      subst h1 h2 h3 h4 h5 h6
      rfl
    subst e
    refine ⟨bd, fun _ t H' k h1 h2 => ⟨rfl, ?_⟩, fun h => absurd ok h⟩
    exact q _ _ (same_kp s0 hx k) ⟨x, dx, t, rfl, h1, h2⟩
theorem mk_map {H : Hp} {m : M6} {R : Addr → Hp → Prop} {E : XK} (ok : m.Ok) (bd : MBd 100000 m) (q : ∀ x H', Same H H' → GmAt K H' (.ref x) m → R x H') : ∀ x dx, H x = none → H dx = none → dx ≠ x →
    sp_GridMap_init K [V.ref x, .int m.a, .int m.b, .int m.c, .int m.d, .int m.e, .int m.f] (upd (upd H dx (.own x)) x (.ins (He.ga K "GridMap") dx [])) (fun v H2 => v = .non ∧ R x H2) E := by
  intro x dx hx hdx hne
  have h := mk_good (K := K) (H := H) (Q := fun v H2 => ∀ y, v = .ref y → R y H2) (E := E) ok bd (fun v H' s h => fun y e => by subst e; exact q y H' s h) x dx hx hdx hne
  obtain ⟨x', dx', v1, v2, v3, v4, v5, v6, e, hx', hk, q2, q1⟩ := h
  refine ⟨x', dx', v1, v2, v3, v4, v5, v6, e, hx', hk, q2, fun m' em => ?_⟩
  obtain ⟨b, q3, q4⟩ := q1 m' em
  exact ⟨b, fun o t H' k h1 h2 => ⟨(q3 o t H' k h1 h2).1, (q3 o t H' k h1 h2).2 x rfl⟩, q4⟩
/-! #### GridMap.numbers -/
def sp_GridMap_numbers (K : PySem.W.Frag) : Sp := fun vs H Q _ => ∃ (v : V) (m : M6), vs = [v] ∧ GmAt K H v m ∧ ∀ t, SqT K H t m.vals → Q (.ref t) H
theorem ok_GridMap_numbers (T : Tx K mg) : FnOk P w K mg base CX0 1 (He5.wf K (He.ga K "GridMap") "property" "numbers") (fdOf K (He5.wf K (He.ga K "GridMap") "property" "numbers")) ["self"] (sp_GridMap_numbers K) := by
  refine T.d_GridMap_numbers.ok sc_GridMap_numbers (fun vs H Q E h => ?_) (fun cdv A outer s H vs Q E hr h => ?_)
  · obtain ⟨v, m, rfl, _⟩ := h
    rfl
  · obtain ⟨v, m, rfl, hv, q⟩ := h
    obtain ⟨a, dx, t, rfl, ha, ht⟩ := hv.of
    refine ⟨_, PSs.nox (pss_one (ps_ret (kFld (K := K) (pe_fld (pv 0) rfl)))), ?_⟩
    walk_at "gx"
    refine r_fldAt ha T.y_GridMap.cl T.a_GridMap_six rfl ?_
    exact q _ ht
/-! #### check_map -/
/-- a grid map, or a value of another kind -/
inductive MapB (K : PySem.W.Frag) (H : Hp) : V → Bool → Prop where
  | yes {v : V} (m : M6) : GmAt K H v m → MapB K H v true
  | kind {v : V} {n : String} : Kd K H v n → MapB K H v false
theorem MapB.same {H H' : Hp} {v : V} {b : Bool} (h : MapB K H v b) (s : Same H H') : MapB K H' v b := by
  cases h with
  | yes m h => exact .yes m (h.same s)
  | kind h => exact .kind (h.same s)
def sp_check_map (K : PySem.W.Frag) : Sp := fun vs H Q E => ∃ (v : V) (b : Bool), vs = [v] ∧ MapB K H v b ∧ (b = true → Q .non H) ∧ (b = false → E (.ref (He.ga K "InvalidMap")) none H)
theorem ok_check_map (T : Tx K mg) : FnOk P w K mg base (L2.CX P w) 2 (He.ga K "check_map") (fdOf K (He.ga K "check_map")) ["value"] (sp_check_map K) := by
  refine T.d_check_map.ok sc_check_map (fun vs H Q E h => ?_) (fun cdv A outer s H vs Q E hr h => ?_)
  · obtain ⟨v, b, rfl, _⟩ := h
    rfl
  · obtain ⟨v, b, rfl, hb, q1, q2⟩ := h
    refine ⟨_, (pss_one (ps_if (pt_not (pt_val (pe_callB (kIsi (K := K)) (by rfl) T.n_isinstance (by decide +kernel) (pa_cons (pv 0) (pa_cons (pe_glob (v := .ref (He.ga K "GridMap")) rfl T.g_GridMap rfl) pa_nil))))) (pss_one (ps_raise rfl (takes_of rfl rfl rfl rfl) (pmk_own PySem.F.excBase_ValueError T.x_InvalidMap.x T.g_InvalidMap T.x_InvalidMap.k (raises_own T.x_InvalidMap.b T.x_InvalidMap.t) rfl))) pss_nil)), ?_⟩
    walk_at "gx"
    cases hb with
    | yes m hv =>
      obtain ⟨a, dx, t, rfl, ha, ht⟩ := hv.of
      refine r_isi (.own _) (T.y_GridMap.ty ha) T.i_GridMap ?_
      walk_at "gx"
      exact q1 rfl
    | kind hu =>
      refine r_isi (.own _) hu.ty (T.j_GridMap _ hu.mem) ?_
      walk_at "gx"
      exact q2 rfl
/-! #### check_polygon -/
/-- a polygon, or a value of another kind -/
inductive PolB (K : PySem.W.Frag) (H : Hp) : V → Bool → Prop where
  | yes {v : V} {C : Addr} {ps : List Pt} : PgAt K H v C ps → PolB K H v true
  | kind {v : V} {n : String} : Kd K H v n → PolB K H v false
def sp_check_polygon (K : PySem.W.Frag) : Sp := fun vs H Q E => ∃ (v : V) (b : Bool), vs = [v] ∧ PolB K H v b ∧ (b = true → Q .non H) ∧ (b = false → ∀ d H', Same H H' → H d = none → H' d = some (.xd [("position", .non)]) → E (.ref (He.ga K "InvalidPolygon")) (some d) H')
theorem ok_check_polygon (T : Tx K mg) : FnOk P w K mg base (L2.CX P w) 3 (He.ga K "check_polygon") (fdOf K (He.ga K "check_polygon")) ["value"] (sp_check_polygon K) := by
  refine T.d_check_polygon.ok sc_check_polygon (fun vs H Q E h => ?_) (fun cdv A outer s H vs Q E hr h => ?_)
  · obtain ⟨v, b, rfl, _⟩ := h
    rfl
  · obtain ⟨v, b, rfl, hv, q1, q2⟩ := h
    refine ⟨_, (pss_one (ps_if (pt_not (pt_val (pe_callB (kIsi (K := K)) (by rfl) T.n_isinstance (by decide +kernel) (pa_cons (pv 0) (pa_cons (pe_glob (v := .ref (He.ga K "Polygon")) rfl T.g_Polygon rfl) pa_nil))))) (pss_one (ps_raise rfl (takes_of rfl rfl rfl rfl) (pmk_oex T.x_InvalidPolygon.o T.x_InvalidPolygon.i T.x_InvalidPolygon.t (ok_InvalidPolygon_init (K := K) T) (hr.mono (by decide)) (bn_InvalidPolygon_init T) .nil pass0 rfl T.g_InvalidPolygon (pa_cons pe_non pa_nil)))) pss_nil)), ?_⟩
    walk_at "gx"
    cases hv with
    | yes hv =>
      obtain ⟨pc, x, dx, t, xs, rfl, hx, ht, hxs⟩ := hv
      refine r_isi (.own _) (pc.ins.ty hx) pc.isa ?_
      walk_at "gx"
      exact q1 rfl
    | kind hk =>
      refine r_isi (.own _) hk.ty (T.j_Polygon _ hk.mem) ?_
      walk_at "gx"
      refine iteT ?_
      refine ⟨(by show 1 ≤ 1000; decide), ?_⟩
      exact r_mkX1 fun d H5 s5 hd h5 => q2 rfl d H5 s5 hd h5
section
variable {K : PySem.W.Frag} {σ : L2.St} {H : Hp} {g : TG} {tt : TT} {te : TE} {vs : List Nat} {Q : VK}
/-- [e for x in a list | a tuple] -/
def CompQ (K : PySem.W.Frag) (x : V) (g : TG) (tt : TT) (te : TE) (vs : List Nat) (σ : L2.St) (H : Hp) (Q : VK) : Prop := ∃ a xs, x = .ref a ∧ ((SqL K H a xs ∧ Comp (Itl K a) g tt te vs σ H Q) ∨ (SqT K H a xs ∧ Comp (Itt K a) g tt te vs σ H Q))
theorem r_lcSq {ta : TE} (q : ta σ H fun x H1 => CompQ K x g tt te vs σ H1 Q) : tLc (iSq K ta) g tt te vs σ H Q := q
theorem compQ {a : Addr} {xs : List V} (hx : xs.length ≤ 100000) (P : Addr → Nat → List V → Hp → Prop) (hsq : SqS K H a xs) (h0 : ∀ D, H D = none → P D 0 [] (upd H D (.lst []))) (hl : ∀ D i acc H', H D = none → P D i acc H' → Same H H')
    (hs : ∀ D i x acc H', H D = none → xs[i]? = some x → i < xs.length → P D i acc H' → H' D = some (.lst acc) → acc.length = i → g x (wipe σ vs) H' fun σ2 H2 => wipe σ2 vs = wipe σ vs ∧ te σ2 H2 (CNext D (P D) i))
    (hd : ∀ D acc H', H D = none → P D xs.length acc H' → H' D = some (.lst acc) → acc.length = xs.length → Q (.ref D) H') : CompQ K (.ref a) g tYes te vs σ H Q := by
  refine ⟨a, xs, rfl, ?_⟩
  rcases hsq with h | h
  · obtain ⟨_, e, _, c⟩ := compL hx P h h0 (fun D i acc H' hD p => (hl D i acc H' hD p).seq h) hs hd
    cases e
    exact .inl ⟨h, c⟩
  · obtain ⟨_, e, _, c⟩ := compT hx P h h0 (fun D i acc H' hD p => sqT_same (hl D i acc H' hD p) h) hs hd
    cases e
    exact .inr ⟨h, c⟩
/-- a formatted int of an f-string -/
theorem r_jG {acc : Str} {n : Int} {ts : List TE} {R : Str → Hp → Prop} (hte : ∀ Q' : VK, Q' (.int n) H → te σ H Q') (hn : n.natAbs.log2 < 1920) (hl : (acc ++ (toString n : Str)).length ≤ sizeLine) (q : tJs ts (acc ++ (toString n : Str)) σ H R) : tJs (tFmt te :: ts) acc σ H R :=
  hte _ (.inr ⟨n, rfl, hn, _, rfl, hl, q⟩)
end
def txPs (ps : List Pt) : Str := Txt.join (Str.ofString " ") (ps.map txP)
theorem bd_log {n : Int} {k : Nat} (hk : k ≤ 1000) (h : Bd k n) : n.natAbs.log2 < 1920 := by
  by_cases z : n.natAbs = 0
  · rw [z]; decide
  · exact Nat.lt_of_lt_of_le ((Nat.log2_lt z).mpr h) (by omega)
theorem len_join (y : Str) : ∀ xs : List Str, (Txt.join y xs).length ≤ (xs.map (·.length)).sum + xs.length * y.length
  | [] => Nat.zero_le _
  | [x] => by
    rw [TL.join_eq]
    show x.length ≤ _
    simp
  | x :: z :: r => by
    have ih := len_join y (z :: r)
    rw [TL.join_eq] at ih ⊢
    show (x ++ y ++ Str.join y (z :: r)).length ≤ _
    rw [len_app, len_app, List.map_cons, List.sum_cons, List.length_cons, Nat.succ_mul]
    omega
theorem num_fits {n : Nat} (h : n ≤ 100000) : n ≤ sizeLine := Nat.le_trans h (by decide)
theorem txt_fits {z : Str} {n : Nat} (h : z.length ≤ n) (hn : n ≤ 100000 := by omega) : z.length ≤ sizeLine := Nat.le_trans (Nat.le_trans h hn) (by decide)
/-- an empty sequence; a sequence with a first item that is no point; no sequence -/
inductive NoPts (K : PySem.W.Frag) (H : Hp) : V → V → Prop where
  | empty {a : Addr} : SqS K H a [] → NoPts K H (.ref a) .non
  | item {a : Addr} {xs : List V} {f : Nat → Bool} {i : Nat} : SqS K H a xs → (∀ i x, xs[i]? = some x → PtB K H x (f i)) → i < xs.length → f i = false → (∀ j, j < i → f j = true) → NoPts K H (.ref a) (.int (i : Int))
  | kind {v : V} {n : String} : Kd K H v n → (n == "list" || n == "tuple") = false → NoPts K H v .non
theorem kd_nl {K : PySem.W.Frag} {H : Hp} {v : V} {n : String} (h : Kd K H v n) (hn : isI v = false) : goodI v .non = false := by
  cases v <;> first | rfl | cases hn
/-! #### format_integer -/
def sp_format_integer (K : PySem.W.Frag) : Sp := fun vs H Q E => ∃ (v : V) (n : String), vs = [v] ∧ Kd K H v n ∧ (∀ i, v = .int i → Bd 1000 i ∧ Q (.str (txI i)) H) ∧ (isI v = false → E (.ref (He.ga K "InvalidInteger")) none H)
theorem ok_format_integer (T : Tx K mg) : FnOk P w K mg base (L2.CX P w) 3 (He.ga K "format_integer") (fdOf K (He.ga K "format_integer")) ["number"] (sp_format_integer K) := by
  refine T.d_format_integer.ok sc_format_integer (fun vs H Q E h => ?_) (fun cdv A outer s H vs Q E hr h => ?_)
  · obtain ⟨v, n, rfl, _⟩ := h
    rfl
  · obtain ⟨v, n, rfl, kd, q1, q2⟩ := h
    refine ⟨_, (pss_cons (ps_expr (pe_call (ok_check_integer (K := K) T) (hr.mono (by decide)) rfl T.g_check_integer T.d_check_integer.kp (bd1_check_integer T).choose_spec.2 (bd1_check_integer T).choose_spec.1 (passes_call (takes_of rfl rfl rfl rfl) (fun _ _ _ _ h => h)) (pa_cons (pv 0) pa_nil)))
      (pss_one (ps_ret (pe_callTy call_str_int (by rfl) T.n_str (by decide +kernel) (pa_cons (pv 0) pa_nil))))), ?_⟩
    walk_at "gx"
    refine ⟨v, .non, n, rfl, kd, .inl rfl, fun hg => ?_, fun hg => ?_⟩
    · obtain ⟨i, rfl⟩ : ∃ i, v = .int i := by
        cases v with
        | int i => exact ⟨i, rfl⟩
        | _ => cases hg
      obtain ⟨hb, q⟩ := q1 i rfl
      walk_at "gx"
      exact ⟨i, rfl, bd_log (by decide) hb, q⟩
    · refine q2 ?_
      cases v with
      | int i => cases hg
      | _ => rfl
/-! #### format_point -/
def sp_format_point (K : PySem.W.Frag) : Sp := fun vs H Q E => ∃ (v : V) (b : Bool), vs = [v] ∧ PtB K H v b ∧ (b = true → ∃ p, Hd K H v p ∧ PBd 1000 p ∧ ∀ H', Same H H' → Q (.str (txP p)) H') ∧ (b = false → ∀ H', Same H H' → E (.ref (He.ga K "InvalidPoint")) none H')
theorem ok_format_point (T : Tx K mg) : FnOk P w K mg base (L2.CX P w) 4 (He.ga K "format_point") (fdOf K (He.ga K "format_point")) ["point"] (sp_format_point K) := by
  refine T.d_format_point.ok sc_format_point (fun vs H Q E h => ?_) (fun cdv A outer s H vs Q E hr h => ?_)
  · obtain ⟨v, b, rfl, _⟩ := h
    rfl
  · obtain ⟨v, b, rfl, hb, q1, q2⟩ := h
    refine ⟨_, (pss_cons (ps_expr (pe_call (ok_check_point (K := K) T) (hr.mono (by decide)) rfl T.g_check_point T.d_check_point.kp (bn_check_point T) .nil (passes_call (takes_of rfl rfl rfl rfl) (fun _ _ _ _ h => h)) (pa_cons (pv 0) pa_nil)))
      (pss_one (ps_ret (pe_fstr (.cons (pe_fmt (pe_ix (kIxT (K := K)) (pv 0) pe_int (fun _ _ => rfl))) (.cons pe_str (.cons (pe_fmt (pe_ix (kIxT (K := K)) (pv 0) pe_int (fun _ _ => rfl))) .nil))))))), ?_⟩
    walk_at "gx"
    refine ⟨v, b, rfl, hb, fun e H1 s1 => ?_, fun e H1 s1 => q2 e H1 s1⟩
    obtain ⟨p, hp, bd, q⟩ := q1 e
    obtain ⟨a, rfl, ha⟩ := (hp.same s1).pt_of
    walk_at "gx"
    have l1 := txI_len (n := p.1) (k := 1000) (by decide) bd.1
    have l2 := txI_len (n := p.2) (k := 1000) (by decide) bd.2
    have lc : (Str.ofString ",").length = 1 := by decide
    refine r_jG (n := p.1) (fun Q' z => ?_) (bd_log (by decide) bd.1) (txt_fits (n := 2000) (by rw [str_e]; exact Nat.le_trans l1 (by decide))) ?_
    · walk_at "gx"
      exact z
    rw [str_e]
    refine r_jLit (txt_fits (n := 2000) (by rw [len_app]; show (txI p.1).length + 1 ≤ 2000; omega)) ?_
    refine r_jG (n := p.2) (fun Q' z => ?_) (bd_log (by decide) bd.2) (txt_fits (n := 4000) (by rw [len_app, len_app]; show (txI p.1).length + 1 + (txI p.2).length ≤ 4000; omega)) ?_
    · walk_at "gx"
      exact z
    refine r_jNil ?_
    exact q H1 s1
/-! #### format_points -/
def sp_format_points (K : PySem.W.Frag) : Sp := fun vs H Q E => ∃ v, vs = [v] ∧ ((∃ ps, PSq K H v ps ∧ ps ≠ [] ∧ ps.length ≤ 100 ∧ AllBd 1000 ps ∧ ∀ H', Same H H' → Q (.str (txPs ps)) H') ∨
  ∃ u, NoPts K H v u ∧ ∀ d H', Same H H' → H d = none → H' d = some (.xd [("position", u)]) → E (.ref (He.ga K "InvalidPolygon")) (some d) H')
theorem ok_format_points (T : Tx K mg) : FnOk P w K mg base (L2.CX P w) 5 (He.ga K "format_points") (fdOf K (He.ga K "format_points")) ["points"] (sp_format_points K) := by
  refine T.d_format_points.ok sc_format_points (fun vs H Q E h => ?_) (fun cdv A outer s H vs Q E hr h => ?_)
  · obtain ⟨v, rfl, _⟩ := h
    rfl
  · obtain ⟨v, rfl, h⟩ := h
    refine ⟨_, (pss_cons (ps_expr (pe_call (ok_check_points (K := K) T) (hr.mono (by decide)) rfl T.g_check_points T.d_check_points.kp (bn_check_points T) .nil (passes_call (takes_of rfl rfl rfl rfl) (fun _ _ _ _ h => h)) (pa_cons (pv 0) pa_nil)))
      (pss_cons (ps_if (pt_cmpR op_eq (pe_callB (kLen (K := K)) (by rfl) T.n_len (by decide +kernel) (pa_cons (pv 0) pa_nil)) pe_int (nomark _)) (pss_one (ps_raise rfl (takes_of rfl rfl rfl rfl) (pmk_oex T.x_InvalidPolygon.o T.x_InvalidPolygon.i T.x_InvalidPolygon.t (ok_InvalidPolygon_init (K := K) T) (hr.mono (by decide)) (bn_InvalidPolygon_init T) .nil pass0 rfl T.g_InvalidPolygon (pa_cons pe_non pa_nil)))) pss_nil)
      (pss_one (ps_ret (kBM (K := K) (pe_bm PySem.F.plainAttrs_str PySem.F.slot_str_join PySem.F.type_str_join (mt_joinK (K := K)) pe_str (pa_cons (pe_lc (own := [("point", 1)]) (g := (gName 1)) (tt := tYes) rfl sc_format_points.nd (kpi_sq (K := K) (pv 0)) (blkOk_by (own := [("point", 1)]) (N := ["points", "point"]) (sc := defScope s_format_points) (by decide +kernel)) (fun _ _ _ _ _ => (pg_name (i := 1) sc_format_points.nd rfl (Or.inl rfl))) (fun _ _ _ _ _ => pts_nil) (fun _ _ _ _ _ => (pe_call (ok_format_point (K := K) T) (hr.mono (by decide)) rfl T.g_format_point T.d_format_point.kp (bn_format_point T) .nil passL (pa_cons (pv 1) pa_nil)))) pa_nil))))))), ?_⟩
    walk_at "gx"
    rcases h with ⟨ps, ⟨a, xs, rfl, hS, hp⟩, hne, hl, hb, q⟩ | ⟨u, hu, q⟩
    · have hlen := hp.length
      refine .inl ⟨a, xs, fun _ => true, rfl, hS, fun i x hx => ?_, fun _ H1 s1 => ?_, fun i _ z => nomatch z⟩
      · obtain ⟨p, _, w⟩ := hp.at' hx
        exact .yes p w
      have hS1 := hS.same s1
      walk_at "gx"
      refine r_lenS hS1 ?_
      walk_at "gx"
      have hz : ¬ ((xs.length : Int) = 0) := by
        have := List.length_pos_iff.mpr hne
        omega
      refine r_dec (fun z => absurd z hz) (fun _ => ?_)
      walk_at "gx"
      refine ⟨rfl, ?_⟩
      walk_at "gx"
      refine r_lcSq ?_
      walk_at "gx"
      refine compQ (by omega) (fun D i acc H' => Same H1 H' ∧ acc = ((ps.take i).map txP).map V.str) hS1 (fun D hD => ⟨same_new (Same.refl _) hD, rfl⟩) (fun D i acc H' _ p => p.1) ?_ ?_
      · rintro D i x acc H2 hD hx hi ⟨S2, rfl⟩ hacc hl2
        obtain ⟨p, hpi, hv⟩ := hp.at' hx
        walk_at "gx"
        refine ⟨rfl, ?_⟩
        walk_at "gx"
        refine ⟨x, true, rfl, .yes p (hv.same (s1.trans S2)), fun _ => ⟨p, hv.same (s1.trans S2), hb p (List.mem_of_getElem? hpi), fun H3 s3 => ?_⟩, fun z => nomatch z⟩
        refine cnext (s3 _ _ hacc) hl2 (by omega) ⟨same_kp (S2.trans s3) hD ((Kp.of_same (Same.refl _)).put), ?_⟩
        rw [List.take_succ, hpi, List.map_append, List.map_append]; rfl
      · rintro D acc H2 hD ⟨S2, rfl⟩ hacc hl2
        rw [List.take_of_length_le (by omega)] at hacc
        walk_at "gx"
        refine ⟨_, D, ps.map txP, rfl, rfl, .inl (SqL.of hacc), ?_, ?_⟩
        · have := sum_le (fun z : Str => z.length) (xs := ps.map txP) (k := 2003) (fun z hz => by
            obtain ⟨p, hp, rfl⟩ := List.mem_map.mp hz
            exact txP_len (by decide) (hb p hp))
          rw [List.length_map] at this ⊢
          have l1 : (Str.ofString " ").length = 1 := by decide
          show _ + ps.length * (Str.ofString " ").length ≤ _
          rw [l1]
          have : ps.length * 2003 ≤ 100 * 2003 := Nat.mul_le_mul_right _ hl
          omega
        · exact q _ (s1.trans S2)
    · cases hu with
      | @empty a hS =>
        refine .inl ⟨a, [], fun _ => true, rfl, hS, fun i x hx => (by simp at hx), fun _ H1 s1 => ?_, fun i hi => absurd hi (Nat.not_lt_zero _)⟩
        have hS1 := hS.same s1
        walk_at "gx"
        refine r_lenS hS1 ?_
        walk_at "gx"
        refine iteT ?_
        refine ⟨(by show 1 ≤ 1000; decide), ?_⟩
        exact r_mkX1 fun d H5 s5 hd h5 => q d H5 (s1.trans s5) (s1.free hd) h5
      | @item a xs f i hS hf hi e hj =>
        refine .inl ⟨a, xs, f, rfl, hS, hf, fun z => (by rw [z i hi] at e; cases e), fun j hj2 e2 hj3 d H1 s1 hd h1 => ?_⟩
        obtain rfl : j = i := by
          rcases Nat.lt_trichotomy i j with z | z | z
          · rw [hj3 i z] at e; cases e
          · exact z.symm
          · rw [hj j z] at e2; cases e2
        exact q d H1 s1 hd h1
      | @kind _ n kd hn => exact .inr ⟨v, n, rfl, kd, hn, q⟩
/-! #### format_polygon -/
def sp_format_polygon (K : PySem.W.Frag) : Sp := fun vs H Q E => ∃ (v : V) (b : Bool), vs = [v] ∧ PolB K H v b ∧ (b = true → ∃ ps, PgAt K H v (He.ga K "Polygon") ps ∧ ps ≠ [] ∧ ps.length ≤ 100 ∧ AllBd 1000 ps ∧ ∀ H', Same H H' → Q (.str (txPs ps)) H') ∧
  (b = false → ∀ d H', Same H H' → H d = none → H' d = some (.xd [("position", .non)]) → E (.ref (He.ga K "InvalidPolygon")) (some d) H')
theorem ok_format_polygon (T : Tx K mg) : FnOk P w K mg base (L2.CX P w) 6 (He.ga K "format_polygon") (fdOf K (He.ga K "format_polygon")) ["polygon"] (sp_format_polygon K) := by
  refine T.d_format_polygon.ok sc_format_polygon (fun vs H Q E h => ?_) (fun cdv A outer s H vs Q E hr h => ?_)
  · obtain ⟨v, b, rfl, _⟩ := h
    rfl
  · obtain ⟨v, b, rfl, hb, q1, q2⟩ := h
    refine ⟨_, (pss_cons (ps_expr (pe_call (ok_check_polygon (K := K) T) (hr.mono (by decide)) rfl T.g_check_polygon T.d_check_polygon.kp (bn_check_polygon T) .nil (passes_call (takes_of rfl rfl rfl rfl) (fun _ _ _ _ h => h)) (pa_cons (pv 0) pa_nil)))
      (pss_one (ps_ret (pe_call (ok_format_points (K := K) T) (hr.mono (by decide)) rfl T.g_format_points T.d_format_points.kp (bn_format_points T) .nil (passes_call (takes_of rfl rfl rfl rfl) (fun _ _ _ _ h => h)) (pa_cons (pe_prop (pv 0) T.y_Polygon.cl T.m_Polygon_corners (ok_Polygon_corners (K := K) T) (hr.mono (by decide)) (bn_Polygon_corners T) .nil pass0 rfl) pa_nil))))), ?_⟩
    walk_at "gx"
    refine ⟨v, b, rfl, hb, fun e => ?_, fun e d H1 s1 => q2 e d H1 s1⟩
    obtain ⟨ps, hp, hne, hl, bd, q⟩ := q1 e
    walk_at "gx"
    obtain ⟨pc, x, dx, t0, xs0, rfl, hx, hT, hd⟩ := id hp
    refine ⟨x, dx, _, rfl, hx, _, _, ps, rfl, hp, fun t xs hT2 hd2 => ?_⟩
    walk_at "gx"
    exact ⟨_, rfl, .inl ⟨ps, ⟨t, xs, rfl, .inr hT2, hd2⟩, hne, hl, bd, q⟩⟩
def txM (m : M6) : Str := Txt.join (Str.ofString " ") ([m.a, m.b, m.c, m.d, m.e, m.f].map txI)
theorem mbd_all {m : M6} (h : MBd 1000 m) : ∀ z ∈ [m.a, m.b, m.c, m.d, m.e, m.f], Bd 1000 z := by
  obtain ⟨b1, b2, b3, b4, b5, b6⟩ := h
  intro z hz
  simp only [List.mem_cons, List.not_mem_nil, or_false] at hz
  rcases hz with rfl | rfl | rfl | rfl | rfl | rfl <;> assumption
theorem joinM_ok {m : M6} (h : MBd 1000 m) : (([m.a, m.b, m.c, m.d, m.e, m.f].map txI).map (·.length)).sum + ([m.a, m.b, m.c, m.d, m.e, m.f].map txI).length * (Str.ofString " ").length ≤ 16777216 := by
  have := sum_le (fun z : Str => z.length) (xs := [m.a, m.b, m.c, m.d, m.e, m.f].map txI) (k := 1001) (fun z hz => by
    obtain ⟨p, hp, rfl⟩ := List.mem_map.mp hz
    exact txI_len (by decide) (mbd_all h p hp))
  have hl6 : ([m.a, m.b, m.c, m.d, m.e, m.f].map txI).length = 6 := rfl
  have l1 : (Str.ofString " ").length = 1 := by decide
  rw [l1, hl6]
  rw [hl6] at this
  omega
theorem txM_len {m : M6} (h : MBd 1000 m) : (txM m).length ≤ 12012 := by
  unfold txM
  refine Nat.le_trans (len_join _ _) ?_
  have := sum_le (fun z : Str => z.length) (xs := [m.a, m.b, m.c, m.d, m.e, m.f].map txI) (k := 1001) (fun z hz => by
    obtain ⟨p, hp, rfl⟩ := List.mem_map.mp hz
    exact txI_len (by decide) (mbd_all h p hp))
  have hl6 : ([m.a, m.b, m.c, m.d, m.e, m.f].map txI).length = 6 := rfl
  have l1 : (Str.ofString " ").length = 1 := by decide
  rw [l1, hl6]
  rw [hl6] at this
  omega
/-! #### format_map -/
def sp_format_map (K : PySem.W.Frag) : Sp := fun vs H Q E => ∃ (v : V) (b : Bool), vs = [v] ∧ MapB K H v b ∧ (b = true → ∃ m, GmAt K H v m ∧ MBd 1000 m ∧ ∀ H', Same H H' → Q (.str (Str.ofString "[" ++ txM m ++ Str.ofString "]")) H') ∧ (b = false → E (.ref (He.ga K "InvalidMap")) none H)
theorem ok_format_map (T : Tx K mg) : FnOk P w K mg base (L2.CX P w) 3 (He.ga K "format_map") (fdOf K (He.ga K "format_map")) ["grid_map"] (sp_format_map K) := by
  refine T.d_format_map.ok sc_format_map (fun vs H Q E h => ?_) (fun cdv A outer s H vs Q E hr h => ?_)
  · obtain ⟨v, b, rfl, _⟩ := h
    rfl
  · obtain ⟨v, b, rfl, hb, q1, q2⟩ := h
    refine ⟨_, (pss_cons (ps_expr (pe_call (ok_check_map (K := K) T) (hr.mono (by decide)) rfl T.g_check_map T.d_check_map.kp (bn_check_map T) .nil (passes_call (takes_of rfl rfl rfl rfl) (fun _ _ _ _ h => h)) (pa_cons (pv 0) pa_nil)))
      (pss_one (ps_ret (pe_op op_add_str (pe_op op_add_str pe_str (kBM (K := K) (pe_bm PySem.F.plainAttrs_str PySem.F.slot_str_join PySem.F.type_str_join (mt_joinK (K := K)) pe_str (pa_cons (pe_lc (own := [("number", 1)]) (g := (gName 1)) (tt := tYes) rfl sc_format_map.nd (kpiT (K := K) (pe_prop (pv 0) T.y_GridMap.cl T.m_GridMap_numbers (ok_GridMap_numbers (K := K) T) (hr.mono (by decide)) (bn_GridMap_numbers T) .nil pass0 rfl)) (blkOk_by (own := [("number", 1)]) (N := ["grid_map", "number"]) (sc := defScope s_format_map) (by decide +kernel)) (fun _ _ _ _ _ => (pg_name (i := 1) sc_format_map.nd rfl (Or.inl rfl))) (fun _ _ _ _ _ => pts_nil) (fun _ _ _ _ _ => (pe_callTy call_str_int (by rfl) T.n_str (by decide +kernel) (pa_cons (pv 1) pa_nil)))) pa_nil)))) pe_str)))), ?_⟩
    walk_at "gx"
    refine ⟨v, b, rfl, hb, fun e => ?_, fun e => q2 e⟩
    obtain ⟨m, hm, bd, q⟩ := q1 e
    walk_at "gx"
    refine ⟨rfl, ?_⟩
    walk_at "gx"
    obtain ⟨x, dx, t0, rfl, hx, hT⟩ := id hm
    refine ⟨x, dx, _, rfl, hx, _, m, rfl, hm, fun t hT2 => ?_⟩
    walk_at "gx"
    have vl : m.vals = [m.a, m.b, m.c, m.d, m.e, m.f].map V.int := rfl
    rw [vl] at hT2
    have bdl : ∀ z ∈ [m.a, m.b, m.c, m.d, m.e, m.f], Bd 1000 z := by
      obtain ⟨b1, b2, b3, b4, b5, b6⟩ := bd
      intro z hz
      simp only [List.mem_cons, List.not_mem_nil, or_false] at hz
      rcases hz with rfl | rfl | rfl | rfl | rfl | rfl <;> assumption
    have hl6 : [m.a, m.b, m.c, m.d, m.e, m.f].length = 6 := rfl
    have txl : (txM m).length ≤ 12012 := by
      unfold txM
      refine Nat.le_trans (len_join _ _) ?_
      have := sum_le (fun z : Str => z.length) (xs := [m.a, m.b, m.c, m.d, m.e, m.f].map txI) (k := 1001) (fun z hz => by
        obtain ⟨p, hp, rfl⟩ := List.mem_map.mp hz
        exact txI_len (by decide) (bdl p hp))
      rw [List.length_map] at this ⊢
      have l1 : (Str.ofString " ").length = 1 := by decide
      rw [l1, hl6]
      rw [hl6] at this
      omega
    unfold txM at txl q
    generalize [m.a, m.b, m.c, m.d, m.e, m.f] = zs at *
    refine compT (by rw [List.length_map]; omega) (fun D i acc H' => Same H H' ∧ acc = ((zs.take i).map txI).map V.str) hT2 (fun D hD => ⟨same_new (Same.refl _) hD, rfl⟩) (fun D i acc H' _ p => sqT_same p.1 hT2) ?_ ?_
    · rintro D i x acc H2 hD hx hi ⟨S2, rfl⟩ hacc hl2
      rw [List.getElem?_map] at hx
      obtain ⟨z, hz, rfl⟩ := Option.map_eq_some_iff.mp hx
      rw [List.length_map] at hi
      walk_at "gx"
      refine ⟨rfl, ?_⟩
      walk_at "gx"
      refine ⟨z, rfl, bd_log (by decide) (bdl z (List.mem_of_getElem? hz)), ?_⟩
      refine cnext hacc hl2 (by omega) ⟨same_kp S2 hD ((Kp.of_same (Same.refl _)).put), ?_⟩
      rw [List.take_succ, hz, List.map_append, List.map_append]; rfl
    · rintro D acc H2 hD ⟨S2, rfl⟩ hacc hl2
      rw [List.length_map, List.take_of_length_le (Nat.le_refl _)] at hacc
      walk_at "gx"
      refine ⟨_, D, zs.map txI, rfl, rfl, .inl (SqL.of hacc), ?_, ?_⟩
      · have := sum_le (fun z : Str => z.length) (xs := zs.map txI) (k := 1001) (fun z hz => by
          obtain ⟨p, hp, rfl⟩ := List.mem_map.mp hz
          exact txI_len (by decide) (bdl p hp))
        rw [List.length_map] at this ⊢
        have l1 : (Str.ofString " ").length = 1 := by decide
        show _ + zs.length * (Str.ofString " ").length ≤ _
        rw [l1, hl6] at *
        omega
      · refine ⟨_, _, rfl, rfl, num_fits ?_, ?_⟩
        · show 1 + (Txt.join (Str.ofString " ") (zs.map txI)).length ≤ 100000
          omega
        walk_at "gx"
        refine ⟨_, _, rfl, rfl, num_fits ?_, ?_⟩
        · rw [len_app]
          show 1 + (Txt.join (Str.ofString " ") (zs.map txI)).length + 1 ≤ 100000
          omega
        exact q _ S2

/-! #### _law_pool -/
def sp_law_draws (K : PySem.W.Frag) : Sp := fun vs H Q _ => ∃ (a : Addr) (ns : List Int) (k : Int), vs = [.ref a, .int k] ∧ SqL K H a (ns.map V.int) ∧ ns.length ≤ 63 ∧ 0 ≤ k ∧ k < 2 ^ 40 ∧ ∀ p H', H p = none → Same H H' → DrAt H' p → Q (.ref p) H'
theorem ok_law_pool (T : Tx K mg) : FnOk P w K mg base CX0 1 (He.ga K "_law_pool") (fdOf K (He.ga K "_law_pool")) ["_law_script", "_law_k"] (sp_law_draws K) := by
  refine T.d_law_pool.ok sc_law_pool (fun vs H Q E h => ?_) (fun cdv A outer s H vs Q E hr h => ?_)
  · obtain ⟨a, ns, k, rfl, _⟩ := h
    rfl
  · obtain ⟨a, ns, k, rfl, hS, hlen, hk0, hk1, q⟩ := h
    refine ⟨_, PSs.nox (pss_cons (ps_set (i := 2) sc_law_pool.nd rfl (Or.inl rfl) pe_int)
      (Evl.pss_cut (ps_if (pt_cmpR (kNeD (K := K) hr.units) (pv 0) (pe_lst pa_nil) (nomark _)) (pss_one (ps_set (i := 2) sc_law_pool.nd rfl (Or.inl rfl) (pe_ix (kIxL (K := K)) (pv 0) (pe_op op_mod (pv 1) (pe_callB (kLen (K := K)) (by rfl) T.n_len (by decide +kernel) (pa_cons (pv 0) pa_nil))) (fun _ _ => rfl)))) pss_nil)
      (pss_cons (ps_set (i := 3) sc_law_pool.nd rfl (Or.inl rfl) (pe_op op_mod (pe_op op_mulA (pe_op op_add (pe_op op_add (pe_op op_mod (pv 2) pe_int) (pe_op op_mulA pe_int (pv 1))) pe_int) pe_int) pe_int))
      (pss_one (ps_ret (pe_lst (pa_cons (pe_op op_mulA (pe_callB cAbs (by rfl) T.n_abs (by decide +kernel) (pa_cons (pv 2) pa_nil)) (pe_callTy cInt1 (by rfl) T.n_int (by decide +kernel) (pa_cons (pe_cmpR op_ge (pe_callB cAbs (by rfl) T.n_abs (by decide +kernel) (pa_cons (pv 2) pa_nil)) (pe_op op_pow pe_int pe_int) (nomark _)) pa_nil))) (pa_cons (pv 3) pa_nil)))))))), ?_⟩
    walk_at "gx"
    refine r_cut (fun σ' H' => Same H H' ∧ ∃ c, σ' = [some (.ref a), some (.int k), some (.int c), none]) ?_ ?_
    · walk_at "gx"
      refine r_new fun p0 hp0 => ?_
      have s0 : Same H (upd H p0 (.lst [])) := same_new (Same.refl H) hp0
      have hS0 := s0.seq hS
      refine r_neH (α := List Int) (hd_list hS0 (hds_ints ns)) (hd_list (SqL.of upd_same) hds_nil) ?_
      walk_at "gx"
      refine r_ndec (fun h => ?_) (fun h => ?_)
      · walk_at "gx"
        refine r_lenL hS0 ?_
        have hpos : 0 < ns.length := List.length_pos_iff.mpr h
        rw [List.length_map]
        walk_at "gx"
        refine r_I (by show (0 : Int) < (ns.length : Int); omega) ?_
        have h1 := Int.emod_nonneg k (b := (ns.length : Int)) (by omega)
        have h2 := Int.emod_lt_of_pos k (b := (ns.length : Int)) (by omega)
        obtain ⟨j, hj⟩ : ∃ j : Nat, k % (ns.length : Int) = (j : Int) := ⟨(k % (ns.length : Int)).toNat, by omega⟩
        rw [hj] at h1 h2 ⊢
        have hj' : j < ns.length := by omega
        refine r_ixL hS0 (at_of (j := j) rfl (by rw [List.getElem?_map, List.getElem?_eq_getElem hj']; rfl)) ?_
        walk_at "gx"
        exact ⟨s0, _, rfl⟩
      · walk_at "gx"
        exact ⟨s0, _, rfl⟩
    · rintro σ' H1 ⟨s1, c, rfl⟩
      walk_at "gx"
      refine r_I (by decide) ?_
      walk_at "gx"
      refine r_I (mul_okL (by decide) (by decide)) ?_
      walk_at "gx"
      refine r_I (mul_okR (by decide) (by decide)) ?_
      walk_at "gx"
      refine r_I (by decide) ?_
      walk_at "gx"
      refine r_I ⟨by decide, by decide, by decide⟩ ?_
      walk_at "gx"
      refine r_I (mul_okR (by split <;> decide) (by split <;> decide)) ?_
      walk_at "gx"
      refine r_new fun p hp => ?_
      exact q p _ (s1.free hp) (same_new s1 hp) ⟨_, _, upd_same, Int.mul_nonneg (by omega) (by split <;> decide), Int.emod_nonneg _ (by decide), Int.emod_lt_of_pos _ (by decide)⟩
/-! #### _law_take -/
def sp_law_draw : Sp := fun vs H Q _ => ∃ (l : Addr) (n : Int), vs = [.ref l, .int n] ∧ DrAt H l ∧ 0 < n ∧ n < 2 ^ 200 ∧ ∀ d H', 0 ≤ d → d < n → Kp l H H' → DrAt H' l → Q (.int d) H'
theorem ok_law_take (T : Tx K mg) : FnOk P w K mg base CX0 1 (He.ga K "_law_take") (fdOf K (He.ga K "_law_take")) ["_law_pool_here", "_law_bound"] (sp_law_draw) := by
  refine T.d_law_take.ok sc_law_take (fun vs H Q E h => ?_) (fun cdv A outer s H vs Q E hr h => ?_)
  · obtain ⟨l, n, rfl, _⟩ := h
    rfl
  · obtain ⟨l, n, rfl, ⟨a, b, hl, ha, hb, hb2⟩, hn, hn2, k⟩ := h
    refine ⟨_, PSs.nox (pss_cons (ps_if (pt_cmpR op_gt (pe_ix (kIxL (K := K)) (pv 0) pe_int (fun _ _ => rfl)) pe_int (nomark _)) (pss_cons (ps_set (i := 2) sc_law_take.nd rfl (Or.inl rfl) (pe_op op_mod (pe_ix (kIxL (K := K)) (pv 0) pe_int (fun _ _ => rfl)) (pv 1)))
      (pss_cons (ps_asg (pe_op op_fdivW (pe_ix (kIxL (K := K)) (pv 0) pe_int (fun _ _ => rfl)) (pv 1)) (pg_sub (pv 0) pe_int set_list))
      (pss_one (ps_ret (pv 2))))) pss_nil)
      (pss_cons (ps_asg (pe_op op_mod (pe_op op_add (pe_op op_mulA (pe_ix (kIxL (K := K)) (pv 0) pe_int (fun _ _ => rfl)) pe_int) pe_int) pe_int) (pg_sub (pv 0) pe_int set_list))
      (pss_one (ps_ret (pe_op op_mod (pe_op op_fdivW (pe_op op_mod (pe_op op_mulA (pe_ix (kIxL (K := K)) (pv 0) pe_int (fun _ _ => rfl)) (pe_ix (kIxL (K := K)) (pv 0) pe_int (fun _ _ => rfl))) pe_int) pe_int) (pv 1)))))), ?_⟩
    walk_at "gx"
    refine r_dec (fun ha0 => ?_) (fun ha0 => ?_)
    · walk_at "gx"
      refine r_I hn ?_
      walk_at "gx"
      refine r_I (wide_div hn (b := 200) (by omega) (by decide) (by decide)) ?_
      walk_at "gx"
      refine r_setL hl rfl ?_
      walk_at "gx"
      refine k _ _ (Int.emod_nonneg _ (by omega)) (Int.emod_lt_of_pos _ hn) (Kp.refl l H).put ⟨_, _, upd_same, Int.ediv_nonneg ha (by omega), hb, hb2⟩
    · walk_at "gx"
      refine r_I (mul_okL (by omega) (by omega)) ?_
      walk_at "gx"
      refine r_I (by decide) ?_
      walk_at "gx"
      refine r_setL hl rfl ?_
      have h1 := Int.emod_nonneg (b * 48271 + 11) (b := 2147483647) (by decide)
      have h2 := Int.emod_lt_of_pos (b * 48271 + 11) (b := 2147483647) (by decide)
      generalize (b * 48271 + 11) % 2147483647 = c at h1 h2 ⊢
      have hl2 : upd H l (.lst [.int a, .int c]) l = some (.lst [.int a, .int c]) := upd_same
      walk_at "gx"
      refine r_I (mul_okL (by omega) (by omega)) ?_
      walk_at "gx"
      refine r_I (by decide) ?_
      walk_at "gx"
      refine r_I (wide_div (by decide) (b := 200) (by decide) (by decide) (by decide)) ?_
      walk_at "gx"
      refine r_I hn ?_
      refine k _ _ (Int.emod_nonneg _ (by omega)) (Int.emod_lt_of_pos _ hn) (Kp.refl l H).put ⟨_, _, hl2, ha, h1, h2⟩

/-! #### _law_number -/
def sp_law_number (K : PySem.W.Frag) : Sp := fun vs H Q _ => ∃ l : Addr, vs = [.ref l] ∧ DrAt H l ∧ ∀ (i : Int) H', Bd 100 i → Kp l H H' → DrAt H' l → Q (.int i) H'
theorem ok_law_number (T : Tx K mg) : FnOk P w K mg base CX0 2 (He.ga K "_law_number") (fdOf K (He.ga K "_law_number")) ["_law_pool_here"] (sp_law_number K) := by
  refine T.d_law_number.ok sc_law_number (fun vs H Q E h => ?_) (fun cdv A outer s H vs Q E hr h => ?_)
  · obtain ⟨l, rfl, _⟩ := h
    rfl
  · obtain ⟨l, rfl, hd, q⟩ := h
    refine ⟨_, PSs.nox (pss_cons (ps_par (i := 1) (j := 2) (by rfl) sc_law_number.nd rfl rfl (by decide) rfl rfl (pa_cons (pe_call (ok_law_take (K := K) T) (hr.mono (by decide)) rfl T.g_law_take T.d_law_take.kp (bn_law_take T) .nil pass0 (pa_cons (pv 0) (pa_cons pe_int pa_nil))) (pa_cons (pe_ix (kIxL (K := K)) (pe_lst (pa_cons pe_int (pa_cons (pe_un un_neg pe_int) pa_nil))) (pe_call (ok_law_take (K := K) T) (hr.mono (by decide)) rfl T.g_law_take T.d_law_take.kp (bn_law_take T) .nil pass0 (pa_cons (pv 0) (pa_cons pe_int pa_nil))) (fun _ _ => rfl)) pa_nil)) (by rfl))
      (pss_cons (ps_if (pt_cmpR op_lt (pv 1) pe_int (nomark _)) (pss_one (ps_ret (pe_op op_mulA (pv 2) (pe_call (ok_law_take (K := K) T) (hr.mono (by decide)) rfl T.g_law_take T.d_law_take.kp (bn_law_take T) .nil pass0 (pa_cons (pv 0) (pa_cons (pe_ix (kIxL (K := K)) (pe_lst (pa_cons pe_int (pa_cons pe_int (pa_cons pe_int pa_nil)))) (pv 1) (fun _ _ => rfl)) pa_nil)))))) pss_nil)
      (pss_one (ps_ret (pe_op op_mulA (pv 2) (pe_call (ok_law_take (K := K) T) (hr.mono (by decide)) rfl T.g_law_take T.d_law_take.kp (bn_law_take T) .nil pass0 (pa_cons (pv 0) (pa_cons (pe_ix (kIxL (K := K)) (pe_lst (pa_cons (pe_op op_pow pe_int pe_int) (pa_cons (pe_op op_pow pe_int pe_int) pa_nil))) (pe_op op_sub (pv 1) pe_int) (fun _ _ => rfl)) pa_nil)))))))), ?_⟩
    walk_at "gx"
    refine ⟨l, 5, rfl, hd, by decide, by decide, fun d1 H1 a1 a2 k1 hd1 => ?_⟩
    walk_at "gx"
    refine ⟨by decide, fun p1 hp1 => ?_⟩
    walk_at "gx"
    refine ⟨l, 2, rfl, hd1.new hp1, by decide, by decide, fun d2 H2 b1 b2 k2 hd2 => ?_⟩
    walk_at "gx"
    refine r_pickI [1, -1] (SqL.of (k2 _ _ (hd1.ne hp1) upd_same)) b1 (by exact b2) fun u hu => ?_
    have hu2 : u = 1 ∨ u = -1 := by simpa using hu
    have K2 := (k1.new hp1).trans k2
    walk_at "gx"
    have fin : ∀ (z d : Int) H', 0 ≤ d → d < z → z ≤ 10 ^ 27 → Kp l H H' → DrAt H' l → Q (.int (u * d)) H' := fun z d H' c1 c2 c3 kk dd => by
      refine q _ H' ?_ kk dd
      have t27 : (10 : Int) ^ 27 < 2 ^ 100 := by decide
      have t100 : (2 : Nat) ^ 100 = ((2 : Int) ^ 100).toNat := by decide
      unfold Bd
      rcases hu2 with rfl | rfl
      · rw [Int.one_mul]; omega
      · rw [Int.neg_one_mul]; omega
    refine r_dec (fun hw => ?_) (fun hw => ?_)
    · walk_at "gx"
      refine ⟨by decide, fun p2 hp2 => ?_⟩
      walk_at "gx"
      refine r_pickI [2, 12, 1000] (SqL.of upd_same) a1 (by exact hw) fun z hz => ?_
      have hz2 : 0 < z ∧ z ≤ 1000 := by
        simp only [List.mem_cons, List.not_mem_nil, or_false] at hz
        rcases hz with rfl | rfl | rfl <;> decide
      walk_at "gx"
      refine ⟨l, z, rfl, hd2.new hp2, hz2.1, Int.lt_of_le_of_lt hz2.2 (by decide), fun d3 H3 c1 c2 k3 hd3 => ?_⟩
      refine r_I (mul_okL (by omega) (by omega)) ?_
      exact fin z d3 H3 c1 c2 (Int.le_trans hz2.2 (by decide)) ((K2.new hp2).trans k3) hd3
    · walk_at "gx"
      refine r_I ⟨by decide, by decide, by decide⟩ ?_
      walk_at "gx"
      refine r_I ⟨by decide, by decide, by decide⟩ ?_
      walk_at "gx"
      refine ⟨by decide, fun p2 hp2 => ?_⟩
      walk_at "gx"
      refine r_pickI [10 ^ 12, 10 ^ 27] (SqL.of upd_same) (by omega) (by show d1 - 3 < 2; omega) fun z hz => ?_
      have hz2 : 0 < z ∧ z ≤ 10 ^ 27 := by
        simp only [List.mem_cons, List.not_mem_nil, or_false] at hz
        rcases hz with rfl | rfl <;> decide
      walk_at "gx"
      refine ⟨l, z, rfl, hd2.new hp2, hz2.1, Int.lt_of_le_of_lt hz2.2 (by decide), fun d3 H3 c1 c2 k3 hd3 => ?_⟩
      refine r_I (mul_okL (by omega) (by omega)) ?_
      exact fin z d3 H3 c1 c2 hz2.2 ((K2.new hp2).trans k3) hd3
/-! #### _law_digits -/
def sp_law_digits (K : PySem.W.Frag) : Sp := fun vs H Q _ => ∃ i : Int, vs = [.int i] ∧ Bd 1000 i ∧ Q (.str (txI i)) H
theorem ok_law_digits (T : Tx K mg) : FnOk P w K mg base CX0 1 (He.ga K "_law_digits") (fdOf K (He.ga K "_law_digits")) ["_law_number_here"] (sp_law_digits K) := by
  refine T.d_law_digits.ok sc_law_digits (fun vs H Q E h => ?_) (fun cdv A outer s H vs Q E hr h => ?_)
  · obtain ⟨i, rfl, _⟩ := h
    rfl
  · obtain ⟨i, rfl, hb, q⟩ := h
    refine ⟨_, PSs.nox (pss_cons (ps_par (i := 1) (j := 2) (by rfl) sc_law_digits.nd rfl rfl (by decide) rfl rfl (pa_cons pe_str (pa_cons (pe_callB cAbs (by rfl) T.n_abs (by decide +kernel) (pa_cons (pv 0) pa_nil)) pa_nil)) (by rfl))
      (pss_cons (ps_while PassesOwn.never (PW.pt (pw_or (pt_cmpR op_gt (pv 2) pe_int (nomark _)) (pw_or1 (pt_cmpR op_eq (pv 1) pe_str (nomark _)))))
      (pss_cons (ps_set (i := 1) sc_law_digits.nd rfl (Or.inl rfl) (pe_op op_add_str (pe_ix ix_str pe_str (pe_op op_mod (pv 2) pe_int) (fun _ _ => rfl)) (pv 1)))
      (pss_one (ps_set (i := 2) sc_law_digits.nd rfl (Or.inl rfl) (pe_op op_fdivW (pv 2) pe_int)))))
      (pss_one (ps_ret (pe_ifExp (pt_cmpR op_lt (pv 0) pe_int (nomark _)) (pe_op op_add_str pe_str (pv 1)) (pv 1)))))), ?_⟩
    walk_at "gx"
    refine r_while (fun m σ' H' => ∃ (t : Str) (l : Nat), σ' = [some (.int i), some (.str t), some (.int (l : Int))] ∧ H = H' ∧ DJ i.natAbs t l ∧ m = l + (if t = Str.empty then 1 else 0)) (i.natAbs + 1) ⟨Str.empty, i.natAbs, rfl, rfl, .inl ⟨rfl, rfl⟩, rfl⟩ ?_
    rintro m σ' H' ⟨t, l, rfl, rfl, hj, rfl⟩
    have dg : ∀ d, d < 10 → (Str.ofString "0123456789").cps.toList[d]? = some (48 + d) := by decide
    have hm : l % 10 < 10 := Nat.mod_lt l (by decide)
    have e10 : (l : Int) % 10 = ((l % 10 : Nat) : Int) := by omega
    have e11 : (l : Int) / 10 = ((l / 10 : Nat) : Int) := by omega
    have lt : t.length ≤ 1001 := Nat.le_trans hj.len (numL_le (by decide) hb)
    have hne : (⟨#[48 + l % 10]⟩ : Str) ++ t ≠ Str.empty := fun z => by
      have z2 := congrArg (fun s : Str => s.cps.toList) z
      rw [cps_app] at z2
      exact List.cons_ne_nil _ _ z2
    walk_at "gx"
    refine r_dec (fun h0 => ?_) (fun h0 => ?_)
    · refine iteT ?_
      refine wnext ?_
      walk_at "gx"
      refine r_I (by decide) ?_
      refine ⟨_, _, 48 + l % 10, rfl, rfl, by decide, ?_, ?_⟩
      · rw [e10]
        exact atI_nat (dg _ hm)
      walk_at "gx"
      refine ⟨_, _, rfl, rfl, num_fits (by show 1 + t.length ≤ 100000; omega), ?_⟩
      walk_at "gx"
      refine r_I (wide_div (by decide) (b := 200) (by decide) (by decide) (by decide)) ?_
      walk_at "gx"
      refine ⟨_, ?_, _, l / 10, by rw [e11]; rfl, rfl, hj.step rfl (.inl (by omega)), rfl⟩
      rw [if_neg hne]
      split <;> omega
    · walk_at "gx"
      refine r_dec (fun ht => ?_) (fun ht => ?_)
      · have ht : t = Str.empty := V.str.inj ht
        refine wnext ?_
        walk_at "gx"
        refine r_I (by decide) ?_
        refine ⟨_, _, 48 + l % 10, rfl, rfl, by decide, ?_, ?_⟩
        · rw [e10]
          exact atI_nat (dg _ hm)
        walk_at "gx"
        refine ⟨_, _, rfl, rfl, num_fits (by show 1 + t.length ≤ 100000; omega), ?_⟩
        walk_at "gx"
        refine r_I (wide_div (by decide) (b := 200) (by decide) (by decide) (by decide)) ?_
        walk_at "gx"
        refine ⟨_, ?_, _, l / 10, by rw [e11]; rfl, rfl, hj.step rfl (.inr ht), rfl⟩
        rw [if_neg hne, if_pos ht]
        omega
      · have ht : t ≠ Str.empty := fun z => ht (congrArg V.str z)
        obtain rfl : l = 0 := by omega
        have et := hj.done ht
        walk_at "gx"
        refine r_dec (fun hn => ?_) (fun hn => ?_)
        · walk_at "gx"
          refine ⟨_, _, rfl, rfl, num_fits (by show 1 + t.length ≤ 100000; omega), ?_⟩
          rw [txI_neg hn, ← et] at q
          exact q
        · walk_at "gx"
          rw [txI_pos hn, ← et] at q
          exact q
/-! #### _law_point -/
def sp_law_point (K : PySem.W.Frag) : Sp := fun vs H Q _ => ∃ l : Addr, vs = [.ref l] ∧ DrAt H l ∧ ∀ (p : Pt) v H', PBd 100 p → Hd K H' v p → Kp l H H' → DrAt H' l → Q v H'
theorem ok_law_point (T : Tx K mg) : FnOk P w K mg base CX0 3 (He.ga K "_law_point") (fdOf K (He.ga K "_law_point")) ["_law_pool_here"] (sp_law_point K) := by
  refine T.d_law_point.ok sc_law_point (fun vs H Q E h => ?_) (fun cdv A outer s H vs Q E hr h => ?_)
  · obtain ⟨l, rfl, _⟩ := h
    rfl
  · obtain ⟨l, rfl, hd, q⟩ := h
    refine ⟨_, PSs.nox (pss_one (ps_ret (pe_tup (pa_cons (pe_call (ok_law_number (K := K) T) (hr.mono (by decide)) rfl T.g_law_number T.d_law_number.kp (bn_law_number T) .nil pass0 (pa_cons (pv 0) pa_nil)) (pa_cons (pe_call (ok_law_number (K := K) T) (hr.mono (by decide)) rfl T.g_law_number T.d_law_number.kp (bn_law_number T) .nil pass0 (pa_cons (pv 0) pa_nil)) pa_nil))))), ?_⟩
    walk_at "gx"
    refine ⟨l, rfl, hd, fun i H1 b1 k1 hd1 => ?_⟩
    walk_at "gx"
    refine ⟨l, rfl, hd1, fun j H2 b2 k2 hd2 => ?_⟩
    walk_at "gx"
    refine r_new fun t ht => ?_
    exact q (i, j) _ _ ⟨b1, b2⟩ (hd_pair (SqT.of upd_same) hd_int hd_int) ((k1.trans k2).new ht) (hd2.new ht)
/-! #### _law_pair -/
def sp_law_pair (K : PySem.W.Frag) : Sp := fun vs H Q _ => ∃ (v : V) (p : Pt), vs = [v] ∧ Hd K H v p ∧ PBd 1000 p ∧ Q (.str (txP p)) H
theorem ok_law_pair (T : Tx K mg) : FnOk P w K mg base CX0 2 (He.ga K "_law_pair") (fdOf K (He.ga K "_law_pair")) ["_law_point_here"] (sp_law_pair K) := by
  refine T.d_law_pair.ok sc_law_pair (fun vs H Q E h => ?_) (fun cdv A outer s H vs Q E hr h => ?_)
  · obtain ⟨v, p, rfl, _⟩ := h
    rfl
  · obtain ⟨v, p, rfl, hp, hb, q⟩ := h
    refine ⟨_, PSs.nox (pss_one (ps_ret (pe_op op_add_str (pe_op op_add_str (pe_call (ok_law_digits (K := K) T) (hr.mono (by decide)) rfl T.g_law_digits T.d_law_digits.kp (bn_law_digits T) .nil pass0 (pa_cons (pe_ix (kIxT (K := K)) (pv 0) pe_int (fun _ _ => rfl)) pa_nil)) pe_str) (pe_call (ok_law_digits (K := K) T) (hr.mono (by decide)) rfl T.g_law_digits T.d_law_digits.kp (bn_law_digits T) .nil pass0 (pa_cons (pe_ix (kIxT (K := K)) (pv 0) pe_int (fun _ _ => rfl)) pa_nil))))), ?_⟩
    obtain ⟨a, rfl, ha⟩ := hp.pt_of
    have l1 := txI_len (n := p.1) (k := 1000) (by decide) hb.1
    have l2 := txI_len (n := p.2) (k := 1000) (by decide) hb.2
    have lc : (Str.ofString ",").length = 1 := by decide
    walk_at "gx"
    refine ⟨_, rfl, hb.1, ?_⟩
    walk_at "gx"
    refine ⟨_, _, rfl, rfl, num_fits (by rw [lc]; omega), ?_⟩
    walk_at "gx"
    refine ⟨_, rfl, hb.2, ?_⟩
    refine ⟨_, _, rfl, rfl, num_fits (by rw [len_app, lc]; omega), ?_⟩
    exact q
/-! #### _law_error -/
theorem r_act {pre : L2.St → Hp → Prop} {tl : XK → Hp → VK → Prop} {W : WX} {σ : L2.St} {H : Hp} {Q Q1 : VK} {E : XK} (hp : pre σ H) (hW : ∀ cls d H', E cls d H' → W cls d σ H') (hQ : ∀ v H', Q1 v H' → Q v H') (h : tl E H Q1) : tAct pre tl W σ H Q := ⟨hp, E, Q1, hW, hQ, h⟩
/-- what the law makes of a call that fails -/
def ErrFm (K : PySem.W.Frag) (Q : VK) : XK := fun cls d H1 => (cls = .ref (He.ga K "InvalidInteger") ∧ d = none ∧ Q (.str "integer") H1) ∨ (cls = .ref (He.ga K "InvalidPoint") ∧ d = none ∧ Q (.str "point") H1) ∨ (cls = .ref (He.ga K "InvalidMap") ∧ d = none ∧ Q (.str "map") H1) ∨
  (cls = .ref (He.ga K "InvalidPolygon") ∧ ∃ dd v, d = some dd ∧ H1 dd = some (.xd [("position", v)]) ∧ ∀ l H2, Same H1 H2 → H1 l = none → H2 l = some (.lst [.str "polygon", v]) → Q (.ref l) H2)
def TTerr (K : PySem.W.Frag) : (XK → Hp → VK → Prop) → Hp → VK → Prop := fun tl H Q => tl (ErrFm K Q) H Q
theorem ok_law_error (T : Tx K mg) : FnL P w K mg base 7 "_law_error" "_law_call" ["_law_call", "e"] (defScope s_law_error) (He.ga K "_law_error") (fdOf K (He.ga K "_law_error")) (TTerr K) := by
  refine FunD.okL T.d_law_error sc_law_error (fun cdv A outer s H f pre tl Q hq hr act hpre h => ?_)
  refine ⟨_, PSs.nox (pss_one (ps_try_nm rfl rfl takes0 (fun W pn xe tk pn_own => (pss_one (ps_ret (act W pn xe _ _ tk)))) (.no ⟨rfl, by decide, .inl T.g_InvalidInteger⟩ (fun a oe cls d pn hz hf => (pss_one (ps_ret pe_str))) (.no ⟨rfl, by decide, .inl T.g_InvalidPoint⟩ (fun a oe cls d pn hz hf => (pss_one (ps_ret pe_str))) (.no ⟨rfl, by decide, .inl T.g_InvalidMap⟩ (fun a oe cls d pn hz hf => (pss_one (ps_ret pe_str))) (.as (i := 1) sc_law_error.nd rfl rfl ⟨rfl, by decide, .inl T.g_InvalidPolygon⟩ (fun a oe cls d pn hz hf => (pss_one (ps_ret (pe_lst (pa_cons pe_str (pa_cons (pe_xf T.x_InvalidPolygon.x (T.x_InvalidPolygon.n _ (by simp)) hz hf (pv 1)) pa_nil)))))) .nil)))))), ?_⟩
  walk_at "gx"
  refine r_act (E := ErrFm K Q) (Q1 := Q) hpre (fun cls d H1 q => ?_) (fun v H1 q => q) h
  rcases q with ⟨rfl, rfl, q⟩ | ⟨rfl, rfl, q⟩ | ⟨rfl, rfl, q⟩ | ⟨rfl, dd, v, rfl, hx, q⟩
  · refine ⟨true, T.m_InvalidInteger_InvalidInteger, fun _ a ha => ?_, fun z => nomatch z⟩
    walk_at "gx"
    exact q
  · refine ⟨false, T.m_InvalidPoint_InvalidInteger, (fun z => nomatch z), fun _ => ⟨true, T.m_InvalidPoint_InvalidPoint, fun _ a ha => ?_, fun z => nomatch z⟩⟩
    walk_at "gx"
    exact q
  · refine ⟨false, T.m_InvalidMap_InvalidInteger, (fun z => nomatch z), fun _ => ⟨false, T.m_InvalidMap_InvalidPoint, (fun z => nomatch z), fun _ => ⟨true, T.m_InvalidMap_InvalidMap, fun _ a ha => ?_, fun z => nomatch z⟩⟩⟩
    walk_at "gx"
    exact q
  · refine ⟨false, T.m_InvalidPolygon_InvalidInteger, (fun z => nomatch z), fun _ => ⟨false, T.m_InvalidPolygon_InvalidPoint, (fun z => nomatch z), fun _ => ⟨false, T.m_InvalidPolygon_InvalidMap, (fun z => nomatch z), fun _ => ⟨true, T.m_InvalidPolygon_InvalidPolygon, fun _ a ha => ?_, fun z => nomatch z⟩⟩⟩⟩
    refine r_asT ?_
    walk_at "gx"
    refine ⟨rfl, rfl, dd, _, _, rfl, hx, rfl, ?_⟩
    walk_at "gx"
    refine r_new fun l hl => ?_
    exact q l _ (same_new (Same.refl _) hl) hl upd_same
/-! #### the state of a maker of lambdas: its table, the draws, what it has made -/
def KpL (ls : List Addr) (H H' : Hp) : Prop := ∀ b o, b ∉ ls → H b = some o → H' b = some o
section
variable {K : PySem.W.Frag} {ls : List Addr} {H0 H H1 H' : Hp} {P l t : Addr} {q : Str} {F : List (Addr × HO)} {o o' : HO} {TT : (XK → Hp → VK → Prop) → Hp → VK → Prop} {r : XK → TE} {σ : _root_.L2.St} {Q : VK}
theorem r_lam (hT : LamX.TabS H P q) (h : ∀ H1, KpT P H H1 → LamX.TabS H1 P q → TT (fun E H' Q' => r E σ H' Q') H1 Q) : tLm P q TT r σ H Q := ⟨hT, h⟩
/-- what is no table and no code object changes -/
theorem tabS_kpl (h : LamX.TabS H P q) (kk : KpL ls H H') (hls : ∀ a ∈ ls, ∀ o, H a = some o → (∀ ts, o ≠ .tbl ts) ∧ ∀ f, o ≠ .ext f) : LamX.TabS H' P q := by
  obtain ⟨ts, h1, h2, h3⟩ := h
  refine ⟨ts, kk _ _ (fun w => (hls P w _ h1).1 ts rfl) h1, h2, fun pos cv hcv => ?_⟩
  obtain ⟨c0, e1, e2⟩ := h3 pos cv hcv
  exact ⟨c0, e1, kk _ _ (fun w => (hls c0 w _ e2).2 _ rfl) e2⟩
theorem tabS_same (h : LamX.TabS H P q) (s : Same H H') : LamX.TabS H' P q := tabS_kpl (ls := []) h (fun b o _ e => s b o e) fun _ w => nomatch w
theorem tabS_kp (h : LamX.TabS H P q) (kk : Kp l H H') (d : DrAt H l) : LamX.TabS H' P q := by
  obtain ⟨x, y, hl, _⟩ := d
  exact tabS_kpl (ls := [l]) h (fun b o n e => kk b o (by simpa using n) e) fun a ha o e => by
    rw [List.mem_singleton.mp ha, hl] at e
    cases e
    exact ⟨fun ts w => (by cases w), fun f w => (by cases w)⟩
structure RS (H0 H : Hp) (P l : Addr) (q : Str) (F : List (Addr × HO)) : Prop where
  k : KpL [P, l] H0 H
  dr : DrAt H l
  tb : LamX.TabS H P q
  fs : ∀ x ∈ F, x.1 ≠ P ∧ x.1 ≠ l ∧ H x.1 = some x.2 ∧ H0 x.1 = none
  nd : (F.map (·.1)).Nodup
theorem RS.ne (h : RS H0 H P l q F) : P ≠ l := fun w => by
  obtain ⟨ts, e, _⟩ := h.tb
  obtain ⟨x, y, e2, _⟩ := h.dr
  rw [w, e2] at e; cases e
theorem RS.at (h : RS H0 H P l q F) (m : (t, o) ∈ F) : H t = some o := (h.fs _ m).2.2.1
theorem RS.start (hd : DrAt H l) (hT : LamX.TabS H P q) : RS H H P l q [] := ⟨fun _ _ _ e => e, hd, hT, (fun _ m => nomatch m), List.nodup_nil⟩
theorem RS.same (h : RS H0 H P l q F) (s : Same H H') : RS H0 H' P l q F := ⟨fun b o n e => s _ _ (h.k b o n e), h.dr.same s, tabS_same h.tb s, fun x m => ⟨(h.fs x m).1, (h.fs x m).2.1, s _ _ (h.fs x m).2.2.1, (h.fs x m).2.2.2⟩, h.nd⟩
theorem RS.tab (h : RS H0 H P l q F) (kT : KpT P H H') (T1 : LamX.TabS H' P q) : RS H0 H' P l q F := by
  obtain ⟨x, y, e, r⟩ := id h.dr
  exact ⟨fun b o n e => kT b o (fun w => n (by simp [w])) (h.k b o n e), ⟨x, y, kT _ _ h.ne.symm e, r⟩, T1, fun x m => ⟨(h.fs x m).1, (h.fs x m).2.1, kT _ _ (h.fs x m).1 (h.fs x m).2.2.1, (h.fs x m).2.2.2⟩, h.nd⟩
theorem RS.draw (h : RS H0 H P l q F) (kk : Kp l H H') (d : DrAt H' l) : RS H0 H' P l q F :=
  ⟨fun b o n e => kk b o (fun w => n (by simp [w])) (h.k b o n e), d, tabS_kp h.tb kk h.dr, fun x m => ⟨(h.fs x m).1, (h.fs x m).2.1, kk _ _ (h.fs x m).2.1 (h.fs x m).2.2.1, (h.fs x m).2.2.2⟩, h.nd⟩
theorem RS.add (h : RS H0 H P l q F) (s : Same H H') (ht : H t = none) (g : H' t = some o) : RS H0 H' P l q ((t, o) :: F) := by
  have h2 := h.same s
  have nP : t ≠ P := fun w => by obtain ⟨ts, e, _⟩ := h.tb; rw [w, e] at ht; cases ht
  have nl : t ≠ l := fun w => by obtain ⟨x, y, e, _⟩ := h.dr; rw [w, e] at ht; cases ht
  refine ⟨h2.k, h2.dr, h2.tb, fun x m => ?_, ?_⟩
  · rcases List.mem_cons.mp m with rfl | m
    · refine ⟨nP, nl, g, ?_⟩
      show H0 t = none
      cases e : H0 t with
      | none => rfl
      | some z =>
        have := h.k t z (by simp [nP, nl]) e
        rw [ht] at this; cases this
    · exact h2.fs x m
  · rw [List.map_cons, List.nodup_cons]
    refine ⟨fun w => ?_, h.nd⟩
    obtain ⟨x, m, e⟩ := List.mem_map.mp w
    have z := (h.fs x m).2.2.1
    rw [show x.1 = t from e, ht] at z; cases z
theorem RS.new (h : RS H0 H P l q F) (ht : H t = none) : RS H0 (upd H t o) P l q ((t, o) :: F) := h.add (same_new (Same.refl _) ht) ht upd_same
/-- what the maker has made is changed -/
theorem RS.put (h : RS H0 H P l q ((t, o) :: F)) (ho : ∃ xs, o = .lst xs) : RS H0 (upd H t o') P l q ((t, o') :: F) := by
  obtain ⟨nP, nl, g, g0⟩ := h.fs (t, o) List.mem_cons_self
  obtain ⟨xs, rfl⟩ := ho
  have nd := h.nd
  rw [List.map_cons, List.nodup_cons] at nd
  have k1 : KpL [t] H (upd H t o') := fun b o n e => by rw [upd_ne (by simpa using n)]; exact e
  obtain ⟨x, y, e, r⟩ := id h.dr
  refine ⟨fun b o n e => ?_, ⟨x, y, by rw [upd_ne nl.symm]; exact e, r⟩, tabS_kpl h.tb k1 fun a ha o e => ?_, fun x m => ?_, ?_⟩
  · rw [upd_ne (fun w => by rw [w, g0] at e; cases e)]; exact h.k b o n e
  · rw [List.mem_singleton.mp ha, g] at e
    cases e
    exact ⟨fun ts w => (by cases w), fun f w => (by cases w)⟩
  · rcases List.mem_cons.mp m with rfl | m
    · exact ⟨nP, nl, upd_same, g0⟩
    · have := h.fs x (List.mem_cons_of_mem _ m)
      refine ⟨this.1, this.2.1, ?_, this.2.2.2⟩
      rw [upd_ne (fun w => nd.1 (show t ∈ F.map (·.1) from (show x.1 = t from w) ▸ List.mem_map_of_mem m))]
      exact this.2.2.1
  · rw [List.map_cons, List.nodup_cons]; exact nd
theorem RS.sub {F' : List (Addr × HO)} (h : RS H0 H P l q F) (hs : ∀ x ∈ F', x ∈ F) (nd : (F'.map (·.1)).Nodup) : RS H0 H P l q F' := ⟨h.k, h.dr, h.tb, fun x m => h.fs x (hs x m), nd⟩
theorem RS.swap {x : Addr × HO} {y : Addr × HO} (h : RS H0 H P l q (x :: y :: F)) : RS H0 H P l q (y :: x :: F) := h.sub (fun z m => by simp only [List.mem_cons] at m ⊢; rcases m with m | m | m <;> simp [m]) (by
  have := h.nd
  simp only [List.map_cons, List.nodup_cons, List.mem_cons, not_or] at this ⊢
  exact ⟨⟨fun e => this.1.1 e.symm, this.2.1⟩, this.1.2, this.2.2⟩)
theorem RS.newQ (h : RS H0 H P l q F) (hq : ∀ t H', RS H0 H' P l q ((t, o) :: F) → Q (.ref t) H') : ∀ t, H t = none → Q (.ref t) (_root_.L2.upd H t o) := fun _ ht => hq _ _ (h.new ht)
theorem RS.app {xs : List V} {v : V} (h : RS H0 H P l q ((t, .lst xs) :: F)) (hl : xs.length ≤ 1000) (hq : ∀ H', RS H0 H' P l q ((t, .lst (xs ++ [v])) :: F) → Q .non H') : rAppend (.ref t) [v] H Q :=
  r_app (h.at (.head _)) (Nat.le_trans hl (by decide)) (hq _ (h.put ⟨_, rfl⟩))
theorem r_err {K : PySem.W.Frag} {tl : XK → Hp → VK → Prop} (h : tl (ErrFm K Q) H Q) : TTerr K tl H Q := h
end
theorem badP_at {K : PySem.W.Frag} {H : Hp} {a b c : Addr} {v : V} (ha : H a = some (.tup [.int 1])) (hb : H b = some (.lst [.int 1, .int 2])) (hc : H c = some (.tup [.bl true, .int 0])) (h : v ∈ [V.non, .ref a, .ref b, .ref c, .str "1,2"]) : PtB K H v false := by
  simp only [List.mem_cons, List.not_mem_nil, or_false] at h
  rcases h with rfl | rfl | rfl | rfl | rfl
  · exact .kind .non (by decide)
  · exact .len (SqT.of ha) (by decide)
  · exact .kind (.lst (SqL.of hb)) (by decide)
  · exact .item (SqT.of hc) (.bl _) (.int _) rfl
  · exact .kind (.str _) (by decide)
/-- points with two values in between that are none -/
def mixL (t1 t2 t3 x : V) (j : Nat) : List V := ([t1, t2, t3].take j ++ [x, .non]) ++ [t1, t2, t3].drop j
theorem noPts_at {K : PySem.W.Frag} {H : Hp} {s : Addr} {t1 t2 t3 x : V} {j : Nat} (hs : SqS K H s (mixL t1 t2 t3 x j)) (h1 : PtB K H t1 true) (h2 : PtB K H t2 true) (h3 : PtB K H t3 true) (hx : PtB K H x false) (hj : j < 4) : NoPts K H (.ref s) (.int (j : Int)) := by
  have hn : PtB K H .non false := .kind .non (by decide)
  refine .item (f := fun i => decide (i < j) || decide (j + 1 < i)) hs ?_ ?_ ?_ ?_
  · intro i y hy
    have hi : i < 5 := Nat.lt_of_lt_of_le (List.getElem?_eq_some_iff.mp hy).1 (by
      unfold mixL
      rcases (show j = 0 ∨ j = 1 ∨ j = 2 ∨ j = 3 by omega) with rfl | rfl | rfl | rfl <;> exact Nat.le_refl _)
    rcases (show j = 0 ∨ j = 1 ∨ j = 2 ∨ j = 3 by omega) with rfl | rfl | rfl | rfl <;> rcases (show i = 0 ∨ i = 1 ∨ i = 2 ∨ i = 3 ∨ i = 4 by omega) with rfl | rfl | rfl | rfl | rfl <;> cases hy <;> assumption
  · show j < (mixL t1 t2 t3 x j).length
    unfold mixL
    rw [List.length_append, List.length_append, List.length_take, List.length_drop]
    show j < min j 3 + 2 + (3 - j)
    omega
  · show (decide (j < j) || decide (j + 1 < j)) = false
    rw [decide_eq_false (Nat.lt_irrefl j), decide_eq_false (by omega)]; rfl
  · intro i hi
    show (decide (i < j) || _) = true
    rw [decide_eq_true hi]; rfl
theorem noS_at {K : PySem.W.Frag} {H : Hp} {a b c : Addr} {v : V} (ha : H a = some (.lst [])) (hb : H b = some (.tup [])) (hc : H c = some (.dK [])) (h : v ∈ [V.ref a, .ref b, .non, .str "1,2", .ref c, .int 5]) : NoPts K H v .non := by
  simp only [List.mem_cons, List.not_mem_nil, or_false] at h
  rcases h with rfl | rfl | rfl | rfl | rfl | rfl
  · exact .empty (.inl (SqL.of ha))
  · exact .empty (.inr (SqT.of hb))
  · exact .kind .non (by decide)
  · exact .kind (.str _) (by decide)
  · exact .kind (.dK hc) (by decide)
  · exact .kind (.int _) (by decide)
def pgD (d : PyData) : PyData := .list [.str "polygon", d]
theorem dp_pgN {K : PySem.W.Frag} {H : Hp} : ∀ {rs : List Addr}, (∀ r ∈ rs, H r = some (.lst [.str "polygon", .non])) → DpAll K H (rs.map V.ref) (List.replicate rs.length (pgD .none))
  | [], _ => .nil
  | r :: rs, h => .cons (.lst (SqL.of (h r List.mem_cons_self)) (.cons (.str _) (.cons .non .nil))) (dp_pgN fun y hy => h y (List.mem_cons_of_mem _ hy))
def dueN (j : Nat) : PyData := .list (pgD (.int (j : Int)) :: pgD (.int (j : Int)) :: List.replicate 6 (pgD .none))
theorem due_ok {j : Nat} (hj : j < 4) : SeqAt.shaped (dueN j) = true ∧ (dueN j).eqv (dueN j) = true := by
  rcases (show j = 0 ∨ j = 1 ∨ j = 2 ∨ j = 3 by omega) with rfl | rfl | rfl | rfl <;> exact ⟨by decide +kernel, by decide +kernel⟩
/-- a value that nothing of text_format takes -/
def BadV (K : PySem.W.Frag) (H : Hp) (v : V) : Prop := ∃ n, Kd K H v n ∧ isI v = false ∧ n ≠ "tuple" ∧ ∀ i, v ≠ .int i
theorem badV_at {K : PySem.W.Frag} {H : Hp} {a b : Addr} {v : V} (ha : H a = some (.lst [.int 1])) (hb : H b = some (.dK [])) (h : v ∈ [V.non, .str "1", .ref a, .ref b, .str "abc"]) : BadV K H v := by
  simp only [List.mem_cons, List.not_mem_nil, or_false] at h
  rcases h with rfl | rfl | rfl | rfl | rfl
  · exact ⟨_, .non, rfl, by decide, fun i e => by cases e⟩
  · exact ⟨_, .str _, rfl, by decide, fun i e => by cases e⟩
  · exact ⟨_, .lst (SqL.of ha), rfl, by decide, fun i e => by cases e⟩
  · exact ⟨_, .dK hb, rfl, by decide, fun i e => by cases e⟩
  · exact ⟨_, .str _, rfl, by decide, fun i e => by cases e⟩
/-! #### _law_refused -/
def RQ : Str := "_law_refused.<locals>.<lambda>"
def sp_law_refused (K : PySem.W.Frag) : Sp := fun vs H Q _ => ∃ l : Addr, vs = [.ref l] ∧ DrAt H l ∧ LamX.TabS H (tb_law_refused K) RQ ∧ ∀ H', KpL [tb_law_refused K, l] H H' → DrAt H' l → LamX.TabS H' (tb_law_refused K) RQ → Q (.bl true) H'
theorem ok_law_refused [LT K mg base] (T : Tx K mg) : FnQ P w K mg base CX0 9 (He.ga K "_law_refused") (fdOf K (He.ga K "_law_refused")) ["_law_pool_here"] (sp_law_refused K) := by
  refine FunD.okQC T.d_law_refused sc_law_refused (fun vs H Q E h => ?_) (fun cdv A outer s H vs Q E hcd hq hr h => ?_)
  · obtain ⟨l, rfl, _⟩ := h
    rfl
  · obtain ⟨l, rfl, hd, hT, q⟩ := h
    refine ⟨_, PSs.nox (pss_cons (ps_set (i := 1) sc_law_refused.nd rfl (Or.inr rfl) (pe_ix (kIxL (K := K)) (pe_lst (pa_cons pe_non (pa_cons pe_str (pa_cons (pe_lst (pa_cons pe_int pa_nil)) (pa_cons pe_dnewK (pa_cons pe_str pa_nil)))))) (pe_call (ok_law_take (K := K) T) (hr.mono (by decide)) rfl T.g_law_take T.d_law_take.kp (bn_law_take T) .nil pass0 (pa_cons (pv 0) (pa_cons pe_int pa_nil))) (fun _ _ => rfl)))
      (pss_cons (ps_set (i := 2) sc_law_refused.nd rfl (Or.inl rfl) (pe_lst (pa_cons (pe_lam (q := "_law_refused.<locals>.<lambda>") (a := "_law_call") (ok_law_error (K := K) T) rfl T.g_law_error T.d_law_error.kp (bn_law_error T) rfl (.inl rfl) hq (hr.mono (by decide)) (by rfl) (LT.t_law_refused (K := K) (mg := mg) (base := base)) (hcd.trans (congrArg Value.ref codeA_B)) (LamX.lamS_by (by rfl)) rfl (fun _ _ _ _ _ => rfl) (fun A outer s H E f c hq hr => (pe_call (ok_format_integer (K := K) T) (hr.mono (by decide)) rfl T.g_format_integer T.d_format_integer.kp (bn_format_integer T) .nil (passes_call (takes_of rfl rfl rfl rfl) (fun _ _ _ _ h => h)) (pa_cons (pv 1) pa_nil)))) (pa_cons (pe_lamD (q := "_law_refused.<locals>.<lambda>") (a := "_law_call") (r := "_law_again") (ok_law_error (K := K) T) rfl T.g_law_error T.d_law_error.kp (bn_law_error T) rfl (.inl rfl) hq (hr.mono (by decide)) (by rfl) (LT.t_law_refused (K := K) (mg := mg) (base := base)) (hcd.trans (congrArg Value.ref codeA_B)) (lamSD_by (by rfl)) (noN (by rfl)) rfl rfl pe_int (fun _ _ _ _ _ _ _ _ => ⟨_, rfl, rfl⟩) (fun A outer s H E f c hq hr => (pe_call (ok_format_integer (K := K) T) (hr.mono (by decide)) rfl T.g_format_integer T.d_format_integer.kp (bn_format_integer T) .nil (passes_call (takes_of rfl rfl rfl rfl) (fun _ _ _ _ h => h)) (pa_cons pe_bl pa_nil)))) pa_nil))))
      (pss_cons (ps_expr (kBM (K := K) (pe_bm PySem.F.plainAttrs_list PySem.F.slot_list_append PySem.F.type_list_append mt_append (pv 2) (pa_cons (pe_lam (q := "_law_refused.<locals>.<lambda>") (a := "_law_call") (ok_law_error (K := K) T) rfl T.g_law_error T.d_law_error.kp (bn_law_error T) rfl (.inl rfl) hq (hr.mono (by decide)) (by rfl) (LT.t_law_refused (K := K) (mg := mg) (base := base)) (hcd.trans (congrArg Value.ref codeA_B)) (LamX.lamS_by (by rfl)) rfl (fun _ _ _ _ _ => rfl) (fun A outer s H E f c hq hr => (pe_call (ok_format_point (K := K) T) (hr.mono (by decide)) rfl T.g_format_point T.d_format_point.kp (bn_format_point T) .nil (passes_call (takes_of rfl rfl rfl rfl) (fun _ _ _ _ h => h)) (pa_cons (pv 1) pa_nil)))) pa_nil))))
      (pss_cons (ps_expr (kBM (K := K) (pe_bm PySem.F.plainAttrs_list PySem.F.slot_list_append PySem.F.type_list_append mt_append (pv 2) (pa_cons (pe_lam (q := "_law_refused.<locals>.<lambda>") (a := "_law_call") (ok_law_error (K := K) T) rfl T.g_law_error T.d_law_error.kp (bn_law_error T) rfl (.inl rfl) hq (hr.mono (by decide)) (by rfl) (LT.t_law_refused (K := K) (mg := mg) (base := base)) (hcd.trans (congrArg Value.ref codeA_B)) (LamX.lamS_by (by rfl)) rfl (fun _ _ _ _ _ => rfl) (fun A outer s H E f c hq hr => (pe_call (ok_format_point (K := K) T) (hr.mono (by decide)) rfl T.g_format_point T.d_format_point.kp (bn_format_point T) .nil (passes_call (takes_of rfl rfl rfl rfl) (fun _ _ _ _ h => h)) (pa_cons (pe_lst (pa_cons pe_int (pa_cons pe_int pa_nil))) pa_nil)))) pa_nil))))
      (pss_cons (ps_expr (kBM (K := K) (pe_bm PySem.F.plainAttrs_list PySem.F.slot_list_append PySem.F.type_list_append mt_append (pv 2) (pa_cons (pe_lam (q := "_law_refused.<locals>.<lambda>") (a := "_law_call") (ok_law_error (K := K) T) rfl T.g_law_error T.d_law_error.kp (bn_law_error T) rfl (.inl rfl) hq (hr.mono (by decide)) (by rfl) (LT.t_law_refused (K := K) (mg := mg) (base := base)) (hcd.trans (congrArg Value.ref codeA_B)) (LamX.lamS_by (by rfl)) rfl (fun _ _ _ _ _ => rfl) (fun A outer s H E f c hq hr => (pe_call (ok_format_polygon (K := K) T) (hr.mono (by decide)) rfl T.g_format_polygon T.d_format_polygon.kp (bn_format_polygon T) .nil (passes_call (takes_of rfl rfl rfl rfl) (fun _ _ _ _ h => h)) (pa_cons (pv 1) pa_nil)))) pa_nil))))
      (pss_cons (ps_expr (kBM (K := K) (pe_bm PySem.F.plainAttrs_list PySem.F.slot_list_append PySem.F.type_list_append mt_append (pv 2) (pa_cons (pe_lam (q := "_law_refused.<locals>.<lambda>") (a := "_law_call") (ok_law_error (K := K) T) rfl T.g_law_error T.d_law_error.kp (bn_law_error T) rfl (.inl rfl) hq (hr.mono (by decide)) (by rfl) (LT.t_law_refused (K := K) (mg := mg) (base := base)) (hcd.trans (congrArg Value.ref codeA_B)) (LamX.lamS_by (by rfl)) rfl (fun _ _ _ _ _ => rfl) (fun A outer s H E f c hq hr => (pe_call (ok_format_map (K := K) T) (hr.mono (by decide)) rfl T.g_format_map T.d_format_map.kp (bn_format_map T) .nil (passes_call (takes_of rfl rfl rfl rfl) (fun _ _ _ _ h => h)) (pa_cons (pv 1) pa_nil)))) pa_nil))))
      (pss_cons (ps_if (pt_cmpR (kNeD (K := K) hr.units) (pv 2) (pe_lst (pa_cons pe_str (pa_cons pe_str (pa_cons pe_str (pa_cons pe_str (pa_cons (pe_lst (pa_cons pe_str (pa_cons pe_non pa_nil))) (pa_cons pe_str pa_nil))))))) (nomark _)) (pss_one (ps_ret pe_bl)) pss_nil)
      (pss_cons (ps_set (i := 3) sc_law_refused.nd rfl (Or.inl rfl) (pe_lst (pa_cons (pe_tup (pa_cons pe_int (pa_cons pe_int pa_nil))) (pa_cons (pe_tup (pa_cons pe_int (pa_cons pe_int pa_nil))) (pa_cons (pe_tup (pa_cons pe_int (pa_cons pe_int pa_nil))) pa_nil)))))
      (pss_cons (ps_set (i := 4) sc_law_refused.nd rfl (Or.inl rfl) (pe_call (ok_law_take (K := K) T) (hr.mono (by decide)) rfl T.g_law_take T.d_law_take.kp (bn_law_take T) .nil pass0 (pa_cons (pv 0) (pa_cons pe_int pa_nil))))
      (pss_cons (ps_set (i := 5) sc_law_refused.nd rfl (Or.inr rfl) (pe_op op_cat (pe_op op_cat (pe_slice (kSlL (K := K)) (pv 3) po_none (po_some (pv 4))) (pe_lst (pa_cons (pe_ix (kIxL (K := K)) (pe_lst (pa_cons pe_non (pa_cons (pe_tup (pa_cons pe_int pa_nil)) (pa_cons (pe_lst (pa_cons pe_int (pa_cons pe_int pa_nil))) (pa_cons (pe_tup (pa_cons pe_bl (pa_cons pe_int pa_nil))) (pa_cons pe_str pa_nil)))))) (pe_call (ok_law_take (K := K) T) (hr.mono (by decide)) rfl T.g_law_take T.d_law_take.kp (bn_law_take T) .nil pass0 (pa_cons (pv 0) (pa_cons pe_int pa_nil))) (fun _ _ => rfl)) (pa_cons pe_non pa_nil)))) (pe_slice (kSlL (K := K)) (pv 3) (po_some (pv 4)) po_none)))
      (pss_cons (ps_set (i := 2) sc_law_refused.nd rfl (Or.inl rfl) (pe_lst (pa_cons (pe_lam (q := "_law_refused.<locals>.<lambda>") (a := "_law_call") (ok_law_error (K := K) T) rfl T.g_law_error T.d_law_error.kp (bn_law_error T) rfl (.inl rfl) hq (hr.mono (by decide)) (by rfl) (LT.t_law_refused (K := K) (mg := mg) (base := base)) (hcd.trans (congrArg Value.ref codeA_B)) (LamX.lamS_by (by rfl)) rfl (fun _ _ _ _ _ => rfl) (fun A outer s H E f c hq hr => (pe_call (ok_format_points (K := K) T) (hr.mono (by decide)) rfl T.g_format_points T.d_format_points.kp (bn_format_points T) .nil (passes_call (takes_of rfl rfl rfl rfl) (fun _ _ _ _ h => h)) (pa_cons (pv 5) pa_nil)))) (pa_cons (pe_lamD (q := "_law_refused.<locals>.<lambda>") (a := "_law_call") (r := "_law_again") (ok_law_error (K := K) T) rfl T.g_law_error T.d_law_error.kp (bn_law_error T) rfl (.inl rfl) hq (hr.mono (by decide)) (by rfl) (LT.t_law_refused (K := K) (mg := mg) (base := base)) (hcd.trans (congrArg Value.ref codeA_B)) (lamSD_by (by rfl)) (noN (by rfl)) rfl rfl pe_int (fun _ _ _ _ _ _ _ _ => ⟨_, rfl, rfl⟩) (fun A outer s H E f c hq hr => (pe_call (ok_format_points (K := K) T) (hr.mono (by decide)) rfl T.g_format_points T.d_format_points.kp (bn_format_points T) .nil (passes_call (takes_of rfl rfl rfl rfl) (fun _ _ _ _ h => h)) (pa_cons (pe_callTy (kTupOf (K := K)) (by rfl) T.n_tuple (by decide +kernel) (pa_cons (pv 5) pa_nil)) pa_nil)))) pa_nil))))
      (pss_cons (ps_for PassesOwn.never rfl (kpiL (K := K) (pe_lst (pa_cons (pe_lst pa_nil) (pa_cons (pe_tup pa_nil) (pa_cons pe_non (pa_cons pe_str (pa_cons pe_dnewK (pa_cons pe_int pa_nil)))))))) (pg_name (i := 6) sc_law_refused.nd rfl (Or.inr rfl))
      (pss_one (ps_expr (kBM (K := K) (pe_bm PySem.F.plainAttrs_list PySem.F.slot_list_append PySem.F.type_list_append mt_append (pv 2) (pa_cons (pe_lam (q := "_law_refused.<locals>.<lambda>") (a := "_law_call") (ok_law_error (K := K) T) rfl T.g_law_error T.d_law_error.kp (bn_law_error T) rfl (.inl rfl) hq (hr.mono (by decide)) (by rfl) (LT.t_law_refused (K := K) (mg := mg) (base := base)) (hcd.trans (congrArg Value.ref codeA_B)) (LamX.lamS_by (by rfl)) rfl (fun _ _ _ _ _ => rfl) (fun A outer s H E f c hq hr => (pe_call (ok_format_points (K := K) T) (hr.mono (by decide)) rfl T.g_format_points T.d_format_points.kp (bn_format_points T) .nil (passes_call (takes_of rfl rfl rfl rfl) (fun _ _ _ _ h => h)) (pa_cons (pv 6) pa_nil)))) pa_nil))))))
      (pss_one (ps_ret (pe_cmpR (kEqD (K := K) hr.units) (pv 2) (pe_op op_cat (pe_op op_rep (pe_lst (pa_cons (pe_lst (pa_cons pe_str (pa_cons (pv 4) pa_nil))) pa_nil)) pe_int) (pe_op op_rep (pe_lst (pa_cons (pe_lst (pa_cons pe_str (pa_cons pe_non pa_nil))) pa_nil)) pe_int)) (nomark _)))))))))))))))), ?_⟩
    have R0 := RS.start hd hT
    walk_at "gx"
    refine r_new fun a1 h1 => ?_
    have R1 := R0.new (o := .lst [.int 1]) h1
    generalize upd H a1 _ = H1 at R1 ⊢
    walk_at "gx"
    intro a2 h2
    have R2 := R1.new (o := .dK []) h2
    generalize upd H1 a2 _ = H2 at R2 ⊢
    walk_at "gx"
    refine r_new fun a3 h3 => ?_
    have R3 := R2.new (o := .lst [.non, .str "1", .ref a1, .ref a2, .str "abc"]) h3
    generalize upd H2 a3 _ = H3 at R3 ⊢
    walk_at "gx"
    refine ⟨l, 5, rfl, R3.dr, by decide, by decide, fun d4 H4 b1 b2 k4 hd4 => ?_⟩
    have R4 := R3.draw k4 hd4
    refine r_pick (SqL.of (R4.at (.head _))) b1 (by exact b2) fun bad hbm => ?_
    replace R4 := R4.sub (F' := [(a2, .dK []), (a1, .lst [.int 1])]) (fun x m => List.mem_cons_of_mem _ m) (List.nodup_cons.mp R4.nd).2
    have bad_at : ∀ {H' : Hp} {F : List (Addr × HO)}, RS H H' (tb_law_refused K) l RQ F → (a1, HO.lst [.int 1]) ∈ F → (a2, HO.dK []) ∈ F → BadV K H' bad := fun R m1 m2 => badV_at (R.at m1) (R.at m2) hbm
    walk_at "gx"
    refine r_lam R4.tb fun H5 kT5 T5 => r_err ?_
    have R5 := R4.tab kT5 T5
    walk_at "gx"
    obtain ⟨n5, kd5, is5, nt5, ni5⟩ := bad_at R5 (by simp) (by simp)
    refine ⟨bad, n5, rfl, kd5, fun i e => absurd e (ni5 i), fun _ => .inl ⟨rfl, rfl, ?_⟩⟩
    walk_at "gx"
    refine r_lam R5.tb fun H6 kT6 T6 => r_err ?_
    have R6 := R5.tab kT6 T6
    walk_at "gx"
    refine ⟨_, _, rfl, .bl true, fun i e => (by cases e), fun _ => .inl ⟨rfl, rfl, ?_⟩⟩
    walk_at "gx"
    refine r_new fun fa hfa => ?_
    have R7 := R6.new (o := .lst [.str "integer", .str "integer"]) hfa
    generalize upd H6 fa _ = H7 at R7 ⊢
    walk_at "gx"
    refine ⟨ty_lst (R7.at (.head _)), ?_⟩
    walk_at "gx"
    refine r_lam R7.tb fun H8 kT8 T8 => r_err ?_
    have R8 := R7.tab kT8 T8
    walk_at "gx"
    obtain ⟨n8, kd8, is8, nt8, ni8⟩ := bad_at R8 (by simp) (by simp)
    refine ⟨bad, false, rfl, .kind kd8 nt8, (fun z => nomatch z), fun _ H9 s9 => .inr (.inl ⟨rfl, rfl, ?_⟩)⟩
    have R9 := R8.same s9
    walk_at "gx"
    refine R9.app (by decide) fun H10 R10 => ?_
    walk_at "gx"
    refine ⟨ty_lst (R10.at (.head _)), ?_⟩
    walk_at "gx"
    refine r_lam R10.tb fun H11 kT11 T11 => r_err ?_
    have R11 := R10.tab kT11 T11
    walk_at "gx"
    refine r_new fun p12 h12 => ?_
    generalize e12 : upd H11 p12 _ = H12
    obtain ⟨s12, g12⟩ := fresh h12 e12
    have R12 := R11.same s12
    refine ⟨_, false, rfl, .kind (.lst (SqL.of g12)) (by decide), (fun z => nomatch z), fun _ H13 s13 => .inr (.inl ⟨rfl, rfl, ?_⟩)⟩
    have R13 := R12.same s13
    walk_at "gx"
    refine R13.app (by decide) fun H14 R14 => ?_
    walk_at "gx"
    refine ⟨ty_lst (R14.at (.head _)), ?_⟩
    walk_at "gx"
    refine r_lam R14.tb fun H15 kT15 T15 => r_err ?_
    have R15 := R14.tab kT15 T15
    walk_at "gx"
    obtain ⟨n15, kd15, is15, nt15, ni15⟩ := bad_at R15 (by simp) (by simp)
    refine ⟨bad, false, rfl, .kind kd15, (fun z => nomatch z), fun _ d16 H16 s16 _ e16 => .inr (.inr (.inr ⟨rfl, d16, _, rfl, e16, fun r17 H17 s17 h17 g17 => ?_⟩))⟩
    have R17 := ((R15.same s16).add s17 h17 g17).swap
    walk_at "gx"
    refine R17.app (by decide) fun H18 R18 => ?_
    walk_at "gx"
    refine ⟨ty_lst (R18.at (.head _)), ?_⟩
    walk_at "gx"
    refine r_lam R18.tb fun H19 kT19 T19 => r_err ?_
    have R19 := R18.tab kT19 T19
    walk_at "gx"
    obtain ⟨n19, kd19, is19, nt19, ni19⟩ := bad_at R19 (by simp) (by simp)
    refine ⟨bad, false, rfl, .kind kd19, (fun z => nomatch z), fun _ => .inr (.inr (.inl ⟨rfl, rfl, ?_⟩))⟩
    walk_at "gx"
    refine R19.app (by show 5 ≤ 1000; decide) fun H20 R20 => ?_
    walk_at "gx"
    refine r_new fun q21 hq21 => ?_
    have R21 := R20.new (o := .lst [.str "polygon", .non]) hq21
    generalize upd H20 q21 _ = H21 at R21 ⊢
    walk_at "gx"
    refine r_new fun q22 hq22 => ?_
    have R22 := R21.new (o := .lst [.str "integer", .str "integer", .str "point", .str "point", .ref q21, .str "map"]) hq22
    generalize upd H21 q22 _ = H22 at R22 ⊢
    have hE : (PyData.list [.str "integer", .str "integer", .str "point", .str "point", .list [.str "polygon", .none], .str "map"]).eqv (.list [.str "integer", .str "integer", .str "point", .str "point", .list [.str "polygon", .none], .str "map"]) = true := by decide +kernel
    have hD : SeqAt.shaped (.list [.str "integer", .str "integer", .str "point", .str "point", .list [.str "polygon", .none], .str "map"]) = true := by decide +kernel
    refine r_neD (d := .list [.str "integer", .str "integer", .str "point", .str "point", .list [.str "polygon", .none], .str "map"]) (e := .list [.str "integer", .str "integer", .str "point", .str "point", .list [.str "polygon", .none], .str "map"]) (.lst (SqL.of (R22.at (.tail _ (.tail _ (.head _))))) (.cons (.str _) (.cons (.str _) (.cons (.str _) (.cons (.str _) (.cons (.lst (SqL.of (R22.at (t := r17) (by simp))) (.cons (.str _) (.cons .non .nil))) (.cons (.str _) .nil))))))) (.lst (SqL.of (R22.at (.head _))) (.cons (.str _) (.cons (.str _) (.cons (.str _) (.cons (.str _) (.cons (.lst (SqL.of (R22.at (t := q21) (by simp))) (.cons (.str _) (.cons .non .nil))) (.cons (.str _) .nil))))))) hD hD ?_
    rw [hE]
    walk_at "gx"
    refine r_new fun t1 ht1 => ?_
    have R23 := (R22.sub (F' := []) (fun _ m => nomatch m) List.nodup_nil).new (o := .tup [.int 1, .int 2]) ht1
    generalize upd H22 t1 _ = H23 at R23 ⊢
    walk_at "gx"
    refine r_new fun t2 ht2 => ?_
    have R24 := R23.new (o := .tup [.int 3, .int 4]) ht2
    generalize upd H23 t2 _ = H24 at R24 ⊢
    walk_at "gx"
    refine r_new fun t3 ht3 => ?_
    have R25 := R24.new (o := .tup [.int 5, .int 6]) ht3
    generalize upd H24 t3 _ = H25 at R25 ⊢
    walk_at "gx"
    refine r_new fun row hrow => ?_
    have R26 := R25.new (o := .lst [.ref t1, .ref t2, .ref t3]) hrow
    generalize upd H25 row _ = H26 at R26 ⊢
    walk_at "gx"
    refine ⟨l, 4, rfl, R26.dr, by decide, by decide, fun d27 H27 c1 c2 k27 hd27 => ?_⟩
    have R27 := R26.draw k27 hd27
    obtain ⟨j, rfl⟩ : ∃ j : Nat, d27 = (j : Int) := ⟨d27.toNat, by omega⟩
    have hj : j < 4 := by omega
    walk_at "gx"
    refine r_slL (SqL.of (R27.at (.head _))) fun p28 hp28 => ?_
    rw [cut_to]
    have R28 := R27.new (o := .lst ([V.ref t1, .ref t2, .ref t3].take j)) hp28
    generalize upd H27 p28 _ = H28 at R28 ⊢
    walk_at "gx"
    refine r_new fun b1 hb1 => ?_
    have R29 := R28.new (o := .tup [.int 1]) hb1
    generalize upd H28 b1 _ = H29 at R29 ⊢
    walk_at "gx"
    refine r_new fun b2 hb2 => ?_
    have R30 := R29.new (o := .lst [.int 1, .int 2]) hb2
    generalize upd H29 b2 _ = H30 at R30 ⊢
    walk_at "gx"
    refine r_new fun b3 hb3 => ?_
    have R31 := R30.new (o := .tup [.bl true, .int 0]) hb3
    generalize upd H30 b3 _ = H31 at R31 ⊢
    walk_at "gx"
    refine r_new fun p32 hp32 => ?_
    have R32 := R31.new (o := .lst [.non, .ref b1, .ref b2, .ref b3, .str "1,2"]) hp32
    generalize upd H31 p32 _ = H32 at R32 ⊢
    walk_at "gx"
    refine ⟨l, 5, rfl, R32.dr, by decide, by decide, fun d33 H33 c3 c4 k33 hd33 => ?_⟩
    have R33 := R32.draw k33 hd33
    refine r_pick (SqL.of (R33.at (.head _))) c3 (by exact c4) fun x hxm => ?_
    walk_at "gx"
    refine r_new fun p34 hp34 => ?_
    have R34 := R33.new (o := .lst [x, .non]) hp34
    generalize upd H33 p34 _ = H34 at R34 ⊢
    refine r_cat (R34.at (t := p28) (o := .lst ([V.ref t1, .ref t2, .ref t3].take j)) (by simp)) (R34.at (.head _)) (num_fits (by rw [List.length_take]; show min j 3 + 2 ≤ 100000; omega)) fun p35 hp35 => ?_
    have R35 := R34.new (o := .lst ([V.ref t1, .ref t2, .ref t3].take j ++ [x, .non])) hp35
    generalize upd H34 p35 _ = H35 at R35 ⊢
    walk_at "gx"
    refine r_slL (SqL.of (R35.at (t := row) (o := .lst [.ref t1, .ref t2, .ref t3]) (by simp))) fun p36 hp36 => ?_
    rw [cut_from]
    have R36 := R35.new (o := .lst ([V.ref t1, .ref t2, .ref t3].drop j)) hp36
    generalize upd H35 p36 _ = H36 at R36 ⊢
    refine r_cat (R36.at (t := p35) (o := .lst ([V.ref t1, .ref t2, .ref t3].take j ++ [x, .non])) (by simp)) (R36.at (.head _)) (num_fits (by rw [List.length_append, List.length_take, List.length_drop]; show min j 3 + 2 + (3 - j) ≤ 100000; omega)) fun S hS => ?_
    have R37 := R36.new (o := .lst (mixL (.ref t1) (.ref t2) (.ref t3) x j)) hS
    unfold mixL at R37
    generalize upd H36 S _ = H37 at R37 ⊢
    walk_at "gx"
    have noP : ∀ {H' : Hp} {F : List (Addr × HO)} {s : Addr}, RS H H' (tb_law_refused K) l RQ F → (t1, HO.tup [.int 1, .int 2]) ∈ F → (t2, HO.tup [.int 3, .int 4]) ∈ F → (t3, HO.tup [.int 5, .int 6]) ∈ F → (b1, HO.tup [.int 1]) ∈ F → (b2, HO.lst [.int 1, .int 2]) ∈ F → (b3, HO.tup [.bl true, .int 0]) ∈ F → SqS K H' s (mixL (.ref t1) (.ref t2) (.ref t3) x j) → NoPts K H' (.ref s) (.int (j : Int)) := fun R m1 m2 m3 m4 m5 m6 hs =>
      noPts_at hs (.yes (1, 2) (hd_pair (SqT.of (R.at m1)) hd_int hd_int)) (.yes (3, 4) (hd_pair (SqT.of (R.at m2)) hd_int hd_int)) (.yes (5, 6) (hd_pair (SqT.of (R.at m3)) hd_int hd_int)) (badP_at (R.at m4) (R.at m5) (R.at m6) hxm) hj
    rw [show ([V.ref t1, .ref t2, .ref t3].take j ++ [x, .non]) ++ [V.ref t1, .ref t2, .ref t3].drop j = mixL (.ref t1) (.ref t2) (.ref t3) x j from rfl] at R37
    refine r_lam R37.tb fun H38 kT38 T38 => r_err ?_
    have R38 := R37.tab kT38 T38
    walk_at "gx"
    refine ⟨_, rfl, .inr ⟨_, noP R38 (by simp) (by simp) (by simp) (by simp) (by simp) (by simp) (.inl (SqL.of (R38.at (.head _)))), fun d39 H39 s39 _ e39 => .inr (.inr (.inr ⟨rfl, d39, _, rfl, e39, fun r40 H40 s40 h40 g40 => ?_⟩))⟩⟩
    have R40 := (R38.same s39).add s40 h40 g40
    walk_at "gx"
    refine r_lam R40.tb fun H41 kT41 T41 => r_err ?_
    have R41 := R40.tab kT41 T41
    walk_at "gx"
    refine r_tupOfL (SqL.of (R41.at (t := S) (o := .lst (mixL (.ref t1) (.ref t2) (.ref t3) x j)) (by simp))) fun p42 hp42 => ?_
    have R42 := R41.new (o := .tup (mixL (.ref t1) (.ref t2) (.ref t3) x j)) hp42
    generalize upd H41 p42 _ = H42 at R42 ⊢
    walk_at "gx"
    refine ⟨_, rfl, .inr ⟨_, noP R42 (by simp) (by simp) (by simp) (by simp) (by simp) (by simp) (.inr (SqT.of (R42.at (.head _)))), fun d43 H43 s43 _ e43 => .inr (.inr (.inr ⟨rfl, d43, _, rfl, e43, fun r44 H44 s44 h44 g44 => ?_⟩))⟩⟩
    have R44 := (R42.same s43).add s44 h44 g44
    walk_at "gx"
    refine r_new fun fb hfb => ?_
    have R45 := R44.new (o := .lst [.ref r40, .ref r44]) hfb
    replace R45 := R45.sub (F' := [(fb, .lst [.ref r40, .ref r44]), (r44, .lst [.str "polygon", .int (j : Int)]), (r40, .lst [.str "polygon", .int (j : Int)])]) (fun y hy => by simp only [List.mem_cons, List.not_mem_nil, or_false] at hy ⊢; rcases hy with rfl | rfl | rfl <;> simp) (by
      have := R45.nd
      simp only [List.map_cons, List.nodup_cons, List.mem_cons, not_or] at this
      simp only [List.map_cons, List.map_nil, List.nodup_cons, List.mem_cons, List.not_mem_nil, or_false, not_or, List.nodup_nil, and_true, not_false_eq_true]
      exact ⟨⟨this.1.1, this.1.2.2.1⟩, this.2.1.2.1⟩)
    generalize upd H44 fb _ = H45 at R45 ⊢
    walk_at "gx"
    refine r_new fun e1 he1 => ?_
    have R46 := R45.new (o := .lst []) he1
    generalize upd H45 e1 _ = H46 at R46 ⊢
    walk_at "gx"
    refine r_new fun e2 he2 => ?_
    have R47 := R46.new (o := .tup []) he2
    generalize upd H46 e2 _ = H47 at R47 ⊢
    walk_at "gx"
    intro e3 he3
    have R48 := R47.new (o := .dK []) he3
    generalize upd H47 e3 _ = H48 at R48 ⊢
    walk_at "gx"
    refine r_new fun eL heL => ?_
    have R49 := R48.new (o := .lst [.ref e1, .ref e2, .non, .str "1,2", .ref e3, .int 5]) heL
    generalize upd H48 eL _ = H49 at R49 ⊢
    walk_at "gx"
    let Fc : List (Addr × HO) := [(r44, .lst [.str "polygon", .int (j : Int)]), (r40, .lst [.str "polygon", .int (j : Int)]), (eL, .lst [.ref e1, .ref e2, .non, .str "1,2", .ref e3, .int 5]), (e3, .dK []), (e2, .tup []), (e1, .lst [])]
    have RL : RS H H49 (tb_law_refused K) l RQ ((fb, .lst ([V.ref r40, .ref r44] ++ ([] : List Addr).reverse.map V.ref)) :: (([] : List Addr).map (fun r => (r, HO.lst [.str "polygon", .non])) ++ Fc)) := R49.sub (fun y hy => by
        simp only [Fc, List.map_nil, List.nil_append, List.reverse_nil, List.append_nil, List.mem_cons, List.not_mem_nil, or_false] at hy ⊢
        rcases hy with rfl | rfl | rfl | rfl | rfl | rfl | rfl <;> simp) (by
      have := R49.nd
      simp only [List.map_cons, List.map_nil, List.nodup_cons, List.mem_cons, List.not_mem_nil, or_false, not_or] at this
      simp only [Fc, List.map_cons, List.map_nil, List.nil_append, List.nodup_cons, List.mem_cons, List.not_mem_nil, or_false, not_or, List.nodup_nil, and_true, not_false_eq_true]
      obtain ⟨⟨x1, x2, x3, x4, x5, x6⟩, ⟨y1, y2, y3, y4, y5⟩, ⟨z1, z2, z3, z4⟩, ⟨w1, w2, w3⟩, ⟨u1, u2⟩, u3, _⟩ := this
      exact ⟨⟨u1, u2, fun w => x4 w.symm, fun w => y3 w.symm, fun w => z2 w.symm, fun w => w1 w.symm⟩, ⟨u3, fun w => x5 w.symm, fun w => y4 w.symm, fun w => z3 w.symm, fun w => w2 w.symm⟩, ⟨fun w => x6 w.symm, fun w => y5 w.symm, fun w => z4 w.symm, fun w => w3 w.symm⟩, ⟨x1, x2, x3⟩, ⟨y1, y2⟩, z1⟩)
    refine loopL (xs := [.ref e1, .ref e2, .non, .str "1,2", .ref e3, .int 5]) (fun i σ' H' => ∃ (rs : List Addr) (o6 : Option V), rs.length = i ∧ RS H H' (tb_law_refused K) l RQ ((fb, .lst ([V.ref r40, .ref r44] ++ rs.reverse.map V.ref)) :: (rs.map (fun r => (r, HO.lst [.str "polygon", .non])) ++ Fc)) ∧ σ' = [some (.ref l), some bad, some (.ref fb), some (.ref row), some (.int (j : Int)), some (.ref S), o6]) ⟨[], _, rfl, RL, rfl⟩ (fun i σ' H' _ ⟨rs, o6, _, R, _⟩ => SqL.of (R.at (t := eL) (by simp [Fc]))) ?_ ?_
    · rintro i v σ' H50 hi ⟨rs, o6, hrl, R50, rfl⟩
      have hi6 : i < 6 := (List.getElem?_eq_some_iff.mp hi).1
      walk_at "gx"
      refine ⟨ty_lst (R50.at (.head _)), ?_⟩
      walk_at "gx"
      refine r_lam R50.tb fun H51 kT51 T51 => r_err ?_
      have R51 := R50.tab kT51 T51
      walk_at "gx"
      refine ⟨_, rfl, .inr ⟨_, noS_at (R51.at (t := e1) (by simp [Fc])) (R51.at (t := e2) (by simp [Fc])) (R51.at (t := e3) (by simp [Fc])) (List.mem_of_getElem? hi), fun d52 H52 s52 _ e52 => .inr (.inr (.inr ⟨rfl, d52, _, rfl, e52, fun r53 H53 s53 h53 g53 => ?_⟩))⟩⟩
      have R53 := ((R51.same s52).add s53 h53 g53).swap
      walk_at "gx"
      refine R53.app (by rw [List.length_append, List.length_map, List.length_reverse]; show 2 + rs.length ≤ 1000; omega) fun H54 R54 => ?_
      walk_at "gx"
      refine ⟨r53 :: rs, _, by rw [List.length_cons, hrl], ?_, rfl⟩
      rw [List.reverse_cons, List.map_append, ← List.append_assoc]
      exact R54
    · rintro σ' H50 ⟨rs, o6, hrl, R50, rfl⟩
      walk_at "gx"
      have hfb : H50 fb = some (.lst ([V.ref r40, .ref r44] ++ rs.reverse.map V.ref)) := R50.at (.head _)
      have hr40 : H50 r40 = some (.lst [.str "polygon", .int (j : Int)]) := R50.at (by simp [Fc])
      have hr44 : H50 r44 = some (.lst [.str "polygon", .int (j : Int)]) := R50.at (by simp [Fc])
      have hrs : ∀ r ∈ rs.reverse, H50 r = some (.lst [.str "polygon", .non]) := fun r hr => R50.at (by
        rw [List.mem_reverse] at hr
        simp [hr])
      have hl6 : rs.reverse.length = 6 := by rw [List.length_reverse, hrl]; rfl
      refine r_new fun q1 hq1 => ?_
      generalize ea1 : upd H50 q1 _ = G1
      obtain ⟨v1, g1⟩ := fresh hq1 ea1
      walk_at "gx"
      refine r_new fun q2 hq2 => ?_
      generalize ea2 : upd G1 q2 _ = G2
      obtain ⟨v2, g2⟩ := fresh hq2 ea2
      walk_at "gx"
      refine r_rep g2 (by decide) (by decide) (num_fits (by show 2 ≤ 100000; decide)) fun q3 hq3 => ?_
      generalize ea3 : upd G2 q3 _ = G3
      obtain ⟨v3, g3⟩ := fresh hq3 ea3
      walk_at "gx"
      refine r_new fun q4 hq4 => ?_
      generalize ea4 : upd G3 q4 _ = G4
      obtain ⟨v4, g4⟩ := fresh hq4 ea4
      walk_at "gx"
      refine r_new fun q5 hq5 => ?_
      generalize ea5 : upd G4 q5 _ = G5
      obtain ⟨v5, g5⟩ := fresh hq5 ea5
      walk_at "gx"
      refine r_rep g5 (by decide) (by decide) (num_fits (by show 6 ≤ 100000; decide)) fun q6 hq6 => ?_
      generalize ea6 : upd G5 q6 _ = G6
      obtain ⟨v6, g6⟩ := fresh hq6 ea6
      refine r_cat (v6 _ _ (v5 _ _ (v4 _ _ g3))) g6 (num_fits (by show 8 ≤ 100000; decide)) fun q7 hq7 => ?_
      generalize ea7 : upd G6 q7 _ = G7
      obtain ⟨v7, g7⟩ := fresh hq7 ea7
      have V17 := ((((v1.trans v2).trans v3).trans v4).trans v5).trans (v6.trans v7)
      have g1' := v7 _ _ (v6 _ _ (v5 _ _ (v4 _ _ (v3 _ _ (v2 _ _ g1)))))
      have g4' := v7 _ _ (v6 _ _ (v5 _ _ g4))
      have d1 : Dp K G7 (.ref q1) (pgD (.int (j : Int))) := .lst (SqL.of g1') (.cons (.str _) (.cons (.int _) .nil))
      have d4 : Dp K G7 (.ref q4) (pgD .none) := .lst (SqL.of g4') (.cons (.str _) (.cons .non .nil))
      have d40 : Dp K G7 (.ref r40) (pgD (.int (j : Int))) := .lst (SqL.of (V17 _ _ hr40)) (.cons (.str _) (.cons (.int _) .nil))
      have d44 : Dp K G7 (.ref r44) (pgD (.int (j : Int))) := .lst (SqL.of (V17 _ _ hr44)) (.cons (.str _) (.cons (.int _) .nil))
      have dN := dp_pgN (K := K) (H := G7) (rs := rs.reverse) fun r hr => V17 _ _ (hrs r hr)
      rw [hl6] at dN
      obtain ⟨du1, du2⟩ := due_ok hj
      refine r_eqD (d := dueN j) (e := dueN j) (.lst (SqL.of (V17 _ _ hfb)) (.cons d40 (.cons d44 dN))) (.lst (SqL.of g7) (.cons d1 (.cons d1 (.cons d4 (.cons d4 (.cons d4 (.cons d4 (.cons d4 (.cons d4 .nil))))))))) du1 du1 ?_
      rw [du2]
      have RE := R50.same V17
      exact q _ RE.k RE.dr RE.tb
/-! #### the polygon that the law draws -/
def drB (f : Int) : List Pt := [(f + 1, 1), (f, 5), (f, 0), (f + 4, 0)]
def drC (f : Int) : List Pt := [(f, 0), (f + 4, 0), (f + 1, 1), (f, 5)]
theorem dr_are (f : Int) : are (drB f) = 9 := by
  show crsP (f + 1, 1) (f, 5) + (crsP (f, 5) (f, 0) + (crsP (f, 0) (f + 4, 0) + (crsP (f + 4, 0) (f + 1, 1) + 0))) = 9
  unfold crsP
  show (f + 1) * 5 - 1 * f + (f * 0 - 5 * f + (f * 0 - 0 * (f + 4) + ((f + 4) * 1 - 0 * (f + 1) + 0))) = 9
  omega
theorem dr_arr (f : Int) : arr (drB f) = drC f := by
  have hs : spn (drB f) = drB f := by
    unfold spn
    rw [dr_are, if_pos (by decide)]
  have hm : minPt (drB f) = (f, 0) := by
    have l1 : ltPt (f, 5) (f + 1, 1) := .inl (by show f < f + 1; omega)
    have l2 : ltPt (f, 0) (f, 5) := .inr ⟨rfl, by show (0 : Int) < 5; decide⟩
    have l3 : ¬ ltPt (f + 4, 0) (f, 0) := fun z => by
      rcases z with z | z
      · have z : f + 4 < f := z
        omega
      · have z : f + 4 = f := z.1
        omega
    simp only [minPt, drB, minP, dataLt_pt, decide_eq_true_eq, if_pos l1, if_pos l2, if_neg l3, List.foldl_cons, List.foldl_nil]
  unfold arr
  rw [hs, hm]
  have hi : idx (f, 0) (drB f) = 2 := idx_eq rfl fun m hm => by
    rcases (show m = 0 ∨ m = 1 by omega) with rfl | rfl
    · intro e
      have := congrArg Prod.snd (Option.some.inj e)
      exact absurd this (by show ¬ (1 : Int) = 0; decide)
    · intro e
      have := congrArg Prod.snd (Option.some.inj e)
      exact absurd this (by show ¬ (5 : Int) = 0; decide)
  rw [hi]
  rfl
def goodB (ps : List Pt) : Bool := (List.range ps.length).all fun i => decide (tri0 ps i ≠ 0) && (List.range ps.length).all fun j => decide (j < i + 2) || !crossB ps i j
theorem goodB_ok {ps : List Pt} (h : goodB ps = true) : Good ps := by
  unfold goodB at h
  rw [List.all_eq_true] at h
  refine ⟨fun i hi => ?_, fun i j hij hj => ?_⟩
  · have := h i (List.mem_range.mpr hi)
    rw [Bool.and_eq_true] at this
    exact of_decide_eq_true this.1
  · have := h i (List.mem_range.mpr (by omega))
    rw [Bool.and_eq_true, List.all_eq_true] at this
    have := this.2 j (List.mem_range.mpr hj)
    rw [decide_eq_false (by omega), Bool.false_or] at this
    simpa using this
theorem dr_img (f : Int) : drB f = [(1, 1), (0, 5), (0, 0), (4, 0)].map (⟨1, 0, 0, 1, f, 0⟩ : M6).img := by
  unfold drB
  simp only [List.map_cons, List.map_nil, M6.img]
  congr 1
  · exact Prod.ext (by show f + 1 = 1 * 1 + 0 * 1 + f; omega) (by show (1 : Int) = 0 * 1 + 1 * 1 + 0; omega)
  congr 1
  · exact Prod.ext (by show f = 1 * 0 + 0 * 5 + f; omega) (by show (5 : Int) = 0 * 0 + 1 * 5 + 0; omega)
  congr 1
  · exact Prod.ext (by show f = 1 * 0 + 0 * 0 + f; omega) (by show (0 : Int) = 0 * 0 + 1 * 0 + 0; omega)
  congr 1
  · exact Prod.ext (by show f + 4 = 1 * 4 + 0 * 0 + f; omega) (by show (0 : Int) = 0 * 4 + 1 * 0 + 0; omega)
theorem dr_good (f : Int) : Good (drB f) := by
  rw [dr_img]
  exact good_img (m := ⟨1, 0, 0, 1, f, 0⟩) (.inl (by show (1 : Int) * 1 - 0 * 0 = 1; decide)) (goodB_ok (by decide +kernel))
theorem sqL_kpt {K : PySem.W.Frag} {H H' : Hp} {P a : Addr} {xs : List V} (h : SqL K H a xs) (kT : KpT P H H') {ts : Array Value} (hP : H P = some (.tbl ts)) : SqL K H' a xs := by
  rcases h with (h | ⟨o, h⟩) | h
  · exact .inl (.inl (kT _ _ (fun w => by rw [w, hP] at h; cases h) h))
  · exact .inl (.inr ⟨o, kT _ _ (fun w => by rw [w, hP] at h; cases h) h⟩)
  · exact .inr h
theorem join_ok {ps : List Pt} (hl : ps.length ≤ 100) (hb : AllBd 1000 ps) : ((ps.map txP).map (·.length)).sum + (ps.map txP).length * (Str.ofString " ").length ≤ 16777216 := by
  have := sum_le (fun z : Str => z.length) (xs := ps.map txP) (k := 2003) (fun z hz => by
    obtain ⟨p, hp, rfl⟩ := List.mem_map.mp hz
    exact txP_len (by decide) (hb p hp))
  rw [List.length_map] at this ⊢
  have l1 : (Str.ofString " ").length = 1 := by decide
  rw [l1]
  have : ps.length * 2003 ≤ 100 * 2003 := Nat.mul_le_mul_right _ hl
  omega
/-! #### law -/
theorem ok_law [LT K mg base] (T : Tx K mg) : FnQ P w K mg base CX0 10 (He.ga K "law") (fdOf K (He.ga K "law")) ["_law_script"] (sp_lawT K (csOf [fun K => He.ga K "_law_refused"] K)) := by
  refine FunD.okQ T.d_law sc_law (fun vs H Q E h => ?_) (fun cdv A outer s H vs Q E hq hr h => ?_)
  · obtain ⟨a, ns, rfl, _⟩ := h
    rfl
  · obtain ⟨a, ns, rfl, hS, hlen, hT0, q⟩ := h
    have hT : LamX.TabS H (tb_law_refused K) RQ := LamX.TabS.nil (hT0 _ (.head _))
    refine ⟨_, PSs.nox (pss_cons (ps_for PassesOwn.never rfl (pi_range1 rfl T.n_range (pa_cons (pe_callB (cMax2 rfl) (by rfl) T.n_max (by decide +kernel) (pa_cons pe_int (pa_cons (pe_callB (cMin2 rfl) (by rfl) T.n_min (by decide +kernel) (pa_cons pe_int (pa_cons (pe_callB (kLen (K := K)) (by rfl) T.n_len (by decide +kernel) (pa_cons (pv 0) pa_nil)) pa_nil))) pa_nil))) pa_nil)) (pg_name (i := 1) sc_law.nd rfl (Or.inl rfl))
      (pss_cons (ps_set (i := 2) sc_law.nd rfl (Or.inr rfl) (pe_call (ok_law_pool (K := K) T) (hr.mono (by decide)) rfl T.g_law_pool T.d_law_pool.kp (bn_law_pool T) .nil pass0 (pa_cons (pv 0) (pa_cons (pv 1) pa_nil))))
      (pss_cons (ps_par (i := 3) (j := 4) (by rfl) sc_law.nd rfl rfl (by decide) rfl rfl (pa_cons (pe_call (ok_law_number (K := K) T) (hr.mono (by decide)) rfl T.g_law_number T.d_law_number.kp (bn_law_number T) .nil pass0 (pa_cons (pv 2) pa_nil)) (pa_cons (pe_call (ok_law_point (K := K) T) (hr.mono (by decide)) rfl T.g_law_point T.d_law_point.kp (bn_law_point T) .nil pass0 (pa_cons (pv 2) pa_nil)) pa_nil)) (by rfl))
      (pss_cons (ps_if (PW.pt (pw_or (pt_cmpR op_ne (pe_call (ok_format_integer (K := K) T) (hr.mono (by decide)) rfl T.g_format_integer T.d_format_integer.kp (bn_format_integer T) .nil passL (pa_cons (pv 3) pa_nil)) (pe_call (ok_law_digits (K := K) T) (hr.mono (by decide)) rfl T.g_law_digits T.d_law_digits.kp (bn_law_digits T) .nil pass0 (pa_cons (pv 3) pa_nil)) (nomark _)) (pw_or1 (pt_cmpR op_ne (pe_call (ok_format_point (K := K) T) (hr.mono (by decide)) rfl T.g_format_point T.d_format_point.kp (bn_format_point T) .nil passL (pa_cons (pv 4) pa_nil)) (pe_call (ok_law_pair (K := K) T) (hr.mono (by decide)) rfl T.g_law_pair T.d_law_pair.kp (bn_law_pair T) .nil pass0 (pa_cons (pv 4) pa_nil)) (nomark _))))) (pss_one (ps_ret pe_bl)) pss_nil)
      (pss_cons (ps_setLc (i := 5) (own := [("_law_turn", 11)]) (g := (gName 11)) (tt := tYes) rfl sc_law.nd rfl rfl (sw_true rfl rfl rfl (by decide +kernel)) (pi_range1 rfl T.n_range (pa_cons (pe_op op_add pe_int (pe_call (ok_law_take (K := K) T) (hr.mono (by decide)) rfl T.g_law_take T.d_law_take.kp (bn_law_take T) .nil pass0 (pa_cons (pv 2) (pa_cons pe_int pa_nil)))) pa_nil)) (blkOk_by (own := [("_law_turn", 11)]) (N := ["_law_script", "_law_k", "_law_pool_here", "_law_number_here", "_law_point_here", "_law_row", "_law_text", "_law_far", "_law_corners", "_law_polygon", "_law_six", "_law_turn", "_law_one", "_law_item"]) (sc := defScope s_law) (by decide +kernel)) (fun _ _ _ _ _ => (pg_name (i := 11) sc_law.nd rfl (Or.inl rfl))) (fun _ _ _ _ _ => pts_nil) (fun _ _ _ _ _ => (pe_call (ok_law_point (K := K) T) (hr.mono (by decide)) rfl T.g_law_point T.d_law_point.kp (bn_law_point T) .nil pass0 (pa_cons (pv 2) pa_nil))))
      (pss_cons (ps_set (i := 6) sc_law.nd rfl (Or.inl rfl) (kBM (K := K) (pe_bm PySem.F.plainAttrs_str PySem.F.slot_str_join PySem.F.type_str_join (mt_joinK (K := K)) pe_str (pa_cons (pe_lc (own := [("_law_one", 12)]) (g := (gName 12)) (tt := tYes) rfl sc_law.nd (kpiL (K := K) (pv 5)) (blkOk_by (own := [("_law_one", 12)]) (N := ["_law_script", "_law_k", "_law_pool_here", "_law_number_here", "_law_point_here", "_law_row", "_law_text", "_law_far", "_law_corners", "_law_polygon", "_law_six", "_law_turn", "_law_one", "_law_item"]) (sc := defScope s_law) (by decide +kernel)) (fun _ _ _ _ _ => (pg_name (i := 12) sc_law.nd rfl (Or.inl rfl))) (fun _ _ _ _ _ => pts_nil) (fun _ _ _ _ _ => (pe_call (ok_law_pair (K := K) T) (hr.mono (by decide)) rfl T.g_law_pair T.d_law_pair.kp (bn_law_pair T) .nil pass0 (pa_cons (pv 12) pa_nil)))) pa_nil))))
      (pss_cons (ps_if (PW.pt (pw_or (pt_cmpR op_ne (pe_call (ok_format_points (K := K) T) (hr.mono (by decide)) rfl T.g_format_points T.d_format_points.kp (bn_format_points T) .nil passL (pa_cons (pv 5) pa_nil)) (pv 6) (nomark _)) (pw_or1 (pt_cmpR op_ne (pe_call (ok_format_points (K := K) T) (hr.mono (by decide)) rfl T.g_format_points T.d_format_points.kp (bn_format_points T) .nil passL (pa_cons (pe_callTy (kTupOf (K := K)) (by rfl) T.n_tuple (by decide +kernel) (pa_cons (pv 5) pa_nil)) pa_nil)) (pv 6) (nomark _))))) (pss_one (ps_ret pe_bl)) pss_nil)
      (pss_cons (ps_set (i := 7) sc_law.nd rfl (Or.inl rfl) (pe_call (ok_law_number (K := K) T) (hr.mono (by decide)) rfl T.g_law_number T.d_law_number.kp (bn_law_number T) .nil pass0 (pa_cons (pv 2) pa_nil)))
      (pss_cons (ps_set (i := 8) sc_law.nd rfl (Or.inl rfl) (pe_lst (pa_cons (pe_tup (pa_cons (pv 7) (pa_cons pe_int pa_nil))) (pa_cons (pe_tup (pa_cons (pe_op op_add (pv 7) pe_int) (pa_cons pe_int pa_nil))) (pa_cons (pe_tup (pa_cons (pe_op op_add (pv 7) pe_int) (pa_cons pe_int pa_nil))) (pa_cons (pe_tup (pa_cons (pv 7) (pa_cons pe_int pa_nil))) pa_nil))))))
      (pss_cons (ps_set (i := 9) sc_law.nd rfl (Or.inl rfl) (pe_makeA T.k_Polygon (FnOk.raw (ok_Polygon_init (K := K) T) (bn_Polygon_init T) .nil) (hr.mono (by decide)) rfl T.g_Polygon (passAll passL) (pa_cons (pe_op op_cat (pe_slice (kSlL (K := K)) (pv 8) (po_some pe_int) po_none) (pe_slice (kSlL (K := K)) (pv 8) po_none (po_some pe_int))) pa_nil)))
      (pss_cons (ps_if (pt_cmpR op_ne (pe_call (ok_format_polygon (K := K) T) (hr.mono (by decide)) rfl T.g_format_polygon T.d_format_polygon.kp (bn_format_polygon T) .nil passL (pa_cons (pv 9) pa_nil)) (kBM (K := K) (pe_bm PySem.F.plainAttrs_str PySem.F.slot_str_join PySem.F.type_str_join (mt_joinK (K := K)) pe_str (pa_cons (pe_lc (own := [("_law_one", 12)]) (g := (gName 12)) (tt := tYes) rfl sc_law.nd (kpiL (K := K) (pv 8)) (blkOk_by (own := [("_law_one", 12)]) (N := ["_law_script", "_law_k", "_law_pool_here", "_law_number_here", "_law_point_here", "_law_row", "_law_text", "_law_far", "_law_corners", "_law_polygon", "_law_six", "_law_turn", "_law_one", "_law_item"]) (sc := defScope s_law) (by decide +kernel)) (fun _ _ _ _ _ => (pg_name (i := 12) sc_law.nd rfl (Or.inl rfl))) (fun _ _ _ _ _ => pts_nil) (fun _ _ _ _ _ => (pe_call (ok_law_pair (K := K) T) (hr.mono (by decide)) rfl T.g_law_pair T.d_law_pair.kp (bn_law_pair T) .nil pass0 (pa_cons (pv 12) pa_nil)))) pa_nil))) (nomark _)) (pss_one (ps_ret pe_bl)) pss_nil)
      (pss_cons (ps_set (i := 10) sc_law.nd rfl (Or.inl rfl) (pe_lst (pa_cons pe_int (pa_cons (pe_call (ok_law_number (K := K) T) (hr.mono (by decide)) rfl T.g_law_number T.d_law_number.kp (bn_law_number T) .nil pass0 (pa_cons (pv 2) pa_nil)) (pa_cons pe_int (pa_cons (pe_ix (kIxL (K := K)) (pe_lst (pa_cons pe_int (pa_cons (pe_un un_neg pe_int) pa_nil))) (pe_call (ok_law_take (K := K) T) (hr.mono (by decide)) rfl T.g_law_take T.d_law_take.kp (bn_law_take T) .nil pass0 (pa_cons (pv 2) (pa_cons pe_int pa_nil))) (fun _ _ => rfl)) (pa_cons (pv 7) (pa_cons (pe_call (ok_law_number (K := K) T) (hr.mono (by decide)) rfl T.g_law_number T.d_law_number.kp (bn_law_number T) .nil pass0 (pa_cons (pv 2) pa_nil)) pa_nil))))))))
      (pss_cons (ps_set (i := 6) sc_law.nd rfl (Or.inl rfl) (pe_op op_add_str (pe_op op_add_str pe_str (kBM (K := K) (pe_bm PySem.F.plainAttrs_str PySem.F.slot_str_join PySem.F.type_str_join (mt_joinK (K := K)) pe_str (pa_cons (pe_lc (own := [("_law_item", 13)]) (g := (gName 13)) (tt := tYes) rfl sc_law.nd (kpiL (K := K) (pv 10)) (blkOk_by (own := [("_law_item", 13)]) (N := ["_law_script", "_law_k", "_law_pool_here", "_law_number_here", "_law_point_here", "_law_row", "_law_text", "_law_far", "_law_corners", "_law_polygon", "_law_six", "_law_turn", "_law_one", "_law_item"]) (sc := defScope s_law) (by decide +kernel)) (fun _ _ _ _ _ => (pg_name (i := 13) sc_law.nd rfl (Or.inl rfl))) (fun _ _ _ _ _ => pts_nil) (fun _ _ _ _ _ => (pe_call (ok_law_digits (K := K) T) (hr.mono (by decide)) rfl T.g_law_digits T.d_law_digits.kp (bn_law_digits T) .nil pass0 (pa_cons (pv 13) pa_nil)))) pa_nil)))) pe_str))
      (pss_cons (ps_if (pt_cmpR op_ne (pe_call (ok_format_map (K := K) T) (hr.mono (by decide)) rfl T.g_format_map T.d_format_map.kp (bn_format_map T) .nil passL (pa_cons (pe_makeA T.k_GridMap (FnOk.raw (ok_GridMap_init (K := K) T) (bd0_GridMap_init T).choose_spec.2 (bd0_GridMap_init T).choose_spec.1) (hr.mono (by decide)) rfl T.g_GridMap (passAll passL) (pa_cons (pe_ix (kIxL (K := K)) (pv 10) pe_int (fun _ _ => rfl)) (pa_cons (pe_ix (kIxL (K := K)) (pv 10) pe_int (fun _ _ => rfl)) (pa_cons (pe_ix (kIxL (K := K)) (pv 10) pe_int (fun _ _ => rfl)) (pa_cons (pe_ix (kIxL (K := K)) (pv 10) pe_int (fun _ _ => rfl)) (pa_cons (pe_ix (kIxL (K := K)) (pv 10) pe_int (fun _ _ => rfl)) (pa_cons (pe_ix (kIxL (K := K)) (pv 10) pe_int (fun _ _ => rfl)) pa_nil))))))) pa_nil)) (pv 6) (nomark _)) (pss_one (ps_ret pe_bl)) pss_nil)
      (pss_one (ps_if (pt_not (pt_val (pe_callQ (ok_law_refused (K := K) (mg := mg) (base := base) T) hq (hr.mono (by decide)) rfl T.g_law_refused T.d_law_refused.kp (bn_law_refused T) .nil pass0 (pa_cons (pv 2) pa_nil)))) (pss_one (ps_ret pe_bl)) pss_nil))))))))))))))))
      (pss_one (ps_ret pe_bl))), ?_⟩
    walk_at "gx"
    refine r_lenL hS ?_
    rw [List.length_map]
    walk_at "gx"
    refine loopR1 (by omega) (fun i σ' H' => KpT (tb_law_refused K) H H' ∧ LamX.TabS H' (tb_law_refused K) RQ ∧ ∃ o1 o2 o3 o4 o5 o6 o7 o8 o9 o10 o11 o12 o13, σ' = [some (.ref a), o1, o2, o3, o4, o5, o6, o7, o8, o9, o10, o11, o12, o13]) ⟨fun _ _ _ e => e, hT, _, _, _, _, _, _, _, _, _, _, _, _, _, rfl⟩ ?_ ?_
    · rintro i σ' H2 hi ⟨kT2, T2, o1, o2, o3, o4, o5, o6, o7, o8, o9, o10, o11, o12, o13, rfl⟩
      obtain ⟨ts0, hP0, _⟩ := id hT
      walk_at "gx"
      refine ⟨a, ns, _, rfl, sqL_kpt hS kT2 hP0, hlen, by omega, by omega, fun l H3 hl0 s3 hd3 => ?_⟩
      have T3 := tabS_same T2 s3
      walk_at "gx"
      refine ⟨l, rfl, hd3, fun num H4 b4 k4 hd4 => ?_⟩
      walk_at "gx"
      refine ⟨l, rfl, hd4, fun pt5 v5 H5 b5 hv5 k5 hd5 => ?_⟩
      have K5 : Kp l H3 H5 := k4.trans k5
      walk_at "gx"
      refine ⟨.int num, _, rfl, .int num, fun z e => ?_, fun z => nomatch z⟩
      obtain rfl : num = z := V.int.inj e
      refine ⟨b4.mono (by decide), ?_⟩
      walk_at "gx"
      refine ⟨num, rfl, b4.mono (by decide), ?_⟩
      walk_at "gx"
      refine r_ndec (fun h => absurd rfl h) (fun _ => ?_)
      walk_at "gx"
      refine ⟨v5, true, rfl, .yes pt5 hv5, fun _ => ⟨pt5, hv5, b5.mono (by decide), fun H6 s6 => ?_⟩, fun z => nomatch z⟩
      walk_at "gx"
      refine ⟨v5, pt5, rfl, hv5.same s6, b5.mono (by decide), ?_⟩
      walk_at "gx"
      refine r_ndec (fun h => absurd rfl h) (fun _ => ?_)
      have K6 : Kp l H3 H6 := K5.trans (Kp.of_same s6)
      have D6 := hd5.same s6
      walk_at "gx"
      simp only [List.set_cons_zero, List.set_cons_succ]
      walk_at "gx"
      refine ⟨l, 6, rfl, D6, by decide, by decide, fun d7 H7 a1 a2 k7 D7 => ?_⟩
      have K7 := K6.trans k7
      walk_at "gx"
      refine compR1 (by omega) (fun D i acc H' => Kp l H3 H' ∧ DrAt H' l ∧ ∃ pts : List Pt, Hds K H' acc pts ∧ AllBd 100 pts) (fun D hD => ⟨K7.new hD, D7.new hD, [], .nil, fun p hp => nomatch hp⟩) ?_ ?_
      · rintro D i8 acc H8 hD hi8 ⟨K8, D8, pts, hA, hb8⟩ hacc hl8
        have hDl : D ≠ l := D7.ne hD
        have hDH : H3 D = none := K7.free hDl hD
        walk_at "gx"
        refine ⟨l, rfl, D8, fun p9 v9 H9 b9 hv9 k9 D9 => ?_⟩
        have hacc9 := k9 _ _ hDl hacc
        refine cnext hacc9 hl8 (by omega) ⟨(K8.trans k9).putN hDH, dr_put D9 hDl, pts ++ [p9], ?_, fun z hz => ?_⟩
        · exact imms (Kp.refl D H9).put ⟨_, hacc9⟩ ((hA.kp k9 D8).append (.cons hv9 .nil))
        · rcases List.mem_append.mp hz with hz | hz
          · exact hb8 z hz
          · obtain rfl := List.mem_singleton.mp hz
            exact b9
      · rintro row rws H8 hD ⟨K8, D8, pts, hA, hb8⟩ hrow hl8
        have hpl : pts.length = (1 + d7).toNat := by rw [← hA.length]; exact hl8
        have hp6 : pts.length ≤ 6 := by omega
        have hne : pts ≠ [] := fun z => by rw [z] at hpl; simp only [List.length_nil] at hpl; omega
        have hbP : AllBd 1000 pts := fun p hp => (hb8 p hp).mono (by decide)
        walk_at "gx"
        simp only [List.set_cons_zero, List.set_cons_succ]
        refine ⟨rfl, ?_⟩
        walk_at "gx"
        refine compL (xs := rws) (by omega) (fun D i acc H' => Same H8 H' ∧ acc = ((pts.take i).map txP).map V.str) (SqL.of hrow) (fun D hD => ⟨same_new (Same.refl _) hD, rfl⟩) (fun D i acc H' _ p => p.1.seq (SqL.of hrow)) ?_ ?_
        · rintro D i9 x acc H9 hD9 hx hi9 ⟨S9, rfl⟩ hacc hl9
          obtain ⟨p9, hp9, hv9⟩ := hA.at' hx
          walk_at "gx"
          refine ⟨rfl, ?_⟩
          walk_at "gx"
          refine ⟨x, p9, rfl, hv9.same S9, hbP p9 (List.mem_of_getElem? hp9), ?_⟩
          refine cnext hacc hl9 (by omega) ⟨same_kp S9 hD9 ((Kp.of_same (Same.refl _)).put), ?_⟩
          rw [List.take_succ, hp9, List.map_append, List.map_append]; rfl
        rintro D9 acc9 H9 hD9 ⟨S9, rfl⟩ hacc9 hl9
        rw [List.take_of_length_le (by rw [← hA.length]; exact Nat.le_refl _)] at hacc9
        walk_at "gx"
        refine ⟨_, D9, pts.map txP, rfl, rfl, .inl (SqL.of hacc9), join_ok (by omega) hbP, ?_⟩
        walk_at "gx"
        have hrow9 := S9 _ _ hrow
        have hA9 := hA.same S9
        refine ⟨.ref row, rfl, .inl ⟨pts, ⟨row, rws, rfl, .inl (SqL.of hrow9), hA9⟩, hne, by omega, hbP, fun H10 s10 => ?_⟩⟩
        walk_at "gx"
        refine r_ndec (fun h => absurd rfl h) (fun _ => ?_)
        walk_at "gx"
        refine r_tupOfL (SqL.of (s10 _ _ hrow9)) fun t11 ht11 => ?_
        generalize e11 : upd H10 t11 _ = H11
        obtain ⟨s11, g11⟩ := fresh ht11 e11
        walk_at "gx"
        refine ⟨.ref t11, rfl, .inl ⟨pts, ⟨t11, rws, rfl, .inr (SqT.of g11), (hA9.same s10).same s11⟩, hne, by omega, hbP, fun H12 s12 => ?_⟩⟩
        walk_at "gx"
        refine r_ndec (fun h => absurd rfl h) (fun _ => ?_)
        have K12 : Kp l H3 H12 := K8.trans (Kp.of_same (((S9.trans s10).trans s11).trans s12))
        have D12 := (((D8.same S9).same s10).same s11).same s12
        walk_at "gx"
        refine ⟨l, rfl, D12, fun f H13 b13 k13 D13 => ?_⟩
        have K13 := K12.trans k13
        walk_at "gx"
        refine r_new fun c1 hc1 => ?_
        generalize ec1 : upd H13 c1 _ = G1
        obtain ⟨sc1, gc1⟩ := fresh hc1 ec1
        walk_at "gx"
        refine r_new fun c2 hc2 => ?_
        generalize ec2 : upd G1 c2 _ = G2
        obtain ⟨sc2, gc2⟩ := fresh hc2 ec2
        walk_at "gx"
        refine r_new fun c3 hc3 => ?_
        generalize ec3 : upd G2 c3 _ = G3
        obtain ⟨sc3, gc3⟩ := fresh hc3 ec3
        walk_at "gx"
        refine r_new fun c4 hc4 => ?_
        generalize ec4 : upd G3 c4 _ = G4
        obtain ⟨sc4, gc4⟩ := fresh hc4 ec4
        walk_at "gx"
        refine r_new fun cl hcl => ?_
        generalize ecl : upd G4 cl _ = G5
        obtain ⟨scl, gcl⟩ := fresh hcl ecl
        have p1 : Hd K G5 (.ref c1) (f, (0 : Int)) := hd_pair (SqT.of (scl _ _ (sc4 _ _ (sc3 _ _ (sc2 _ _ gc1))))) hd_int hd_int
        have p2 : Hd K G5 (.ref c2) (f + 4, (0 : Int)) := hd_pair (SqT.of (scl _ _ (sc4 _ _ (sc3 _ _ gc2)))) hd_int hd_int
        have p3 : Hd K G5 (.ref c3) (f + 1, (1 : Int)) := hd_pair (SqT.of (scl _ _ (sc4 _ _ gc3))) hd_int hd_int
        have p4 : Hd K G5 (.ref c4) (f, (5 : Int)) := hd_pair (SqT.of (scl _ _ gc4)) hd_int hd_int
        have S5 : Same H13 G5 := (((sc1.trans sc2).trans sc3).trans sc4).trans scl
        have hbf : Bd 103 f ∧ Bd 103 (f + 4) ∧ Bd 103 (f + 1) := by
          unfold Bd at b13 ⊢
          have : (2 : Nat) ^ 103 = 8 * 2 ^ 100 := by decide
          omega
        have bsm : ∀ z : Int, z.natAbs < 8 → Bd 103 z := fun z hz => Nat.lt_of_lt_of_le hz (by decide)
        have hbC : AllBd 103 (drC f) := fun p hp => by
          simp only [drC, List.mem_cons, List.not_mem_nil, or_false] at hp
          rcases hp with rfl | rfl | rfl | rfl
          · exact ⟨hbf.1, bsm 0 (by decide)⟩
          · exact ⟨hbf.2.1, bsm 0 (by decide)⟩
          · exact ⟨hbf.2.2, bsm 1 (by decide)⟩
          · exact ⟨hbf.1, bsm 5 (by decide)⟩
        have hbB : AllBd 40000 (drB f) := fun p hp => (hbC p (by
          simp only [drC, drB, List.mem_cons, List.not_mem_nil, or_false] at hp ⊢
          rcases hp with rfl | rfl | rfl | rfl <;> simp)).mono (by decide)
        have hbC2 : AllBd 1000 (drC f) := fun p hp => (hbC p hp).mono (by decide)
        walk_at "gx"
        refine r_slL (SqL.of gcl) fun q1 hq1 => ?_
        generalize eq1 : upd G5 q1 _ = G6
        obtain ⟨sq1, gq1⟩ := fresh hq1 eq1
        walk_at "gx"
        refine r_slL (SqL.of (sq1 _ _ gcl)) fun q2 hq2 => ?_
        generalize eq2 : upd G6 q2 _ = G7
        obtain ⟨sq2, gq2⟩ := fresh hq2 eq2
        refine r_cat (sq2 _ _ gq1) gq2 (num_fits (by show 4 ≤ 100000; decide)) fun q3 hq3 => ?_
        generalize eq3 : upd G7 q3 _ = G8
        obtain ⟨sq3, gq3⟩ := fresh hq3 eq3
        have S8 : Same G5 G8 := (sq1.trans sq2).trans sq3
        walk_at "gx"
        refine mk_poly (pgc T) (.pts (ps := drB f) (.inl (SqL.of gq3)) (.cons (p3.same S8) (.cons (p4.same S8) (.cons (p1.same S8) (.cons (p2.same S8) .nil)))) (by show 3 ≤ 4; decide) (by show 4 ≤ 60; decide)) (errW_good (dr_good f) hbB) fun ps' e _ pg H14 s14 hp14 => ?_
        cases e
        rw [dr_arr] at hp14
        walk_at "gx"
        refine ⟨_, true, rfl, .yes hp14, fun _ => ⟨drC f, hp14, List.cons_ne_nil _ _, by show 4 ≤ 100; decide, hbC2, fun H15 s15 => ?_⟩, fun z => nomatch z⟩
        walk_at "gx"
        simp only [List.set_cons_zero, List.set_cons_succ]
        refine ⟨rfl, ?_⟩
        walk_at "gx"
        have S15 : Same G5 H15 := (S8.trans s14).trans s15
        have hC15 : Hds K H15 [V.ref c1, .ref c2, .ref c3, .ref c4] (drC f) := .cons (p1.same S15) (.cons (p2.same S15) (.cons (p3.same S15) (.cons (p4.same S15) .nil)))
        have gcl15 := S15 _ _ gcl
        refine compL (xs := [V.ref c1, .ref c2, .ref c3, .ref c4]) (by show 4 ≤ 100000; decide) (fun D i acc H' => Same H15 H' ∧ acc = (((drC f).take i).map txP).map V.str) (SqL.of gcl15) (fun D hD => ⟨same_new (Same.refl _) hD, rfl⟩) (fun D i acc H' _ p => p.1.seq (SqL.of gcl15)) ?_ ?_
        · rintro D i9 x acc H16 hD9 hx hi9 ⟨S9, rfl⟩ hacc hl9
          have hi9 : i9 < 4 := hi9
          obtain ⟨p9, hp9, hv9⟩ := hC15.at' hx
          walk_at "gx"
          refine ⟨rfl, ?_⟩
          walk_at "gx"
          refine ⟨x, p9, rfl, hv9.same S9, hbC2 p9 (List.mem_of_getElem? hp9), ?_⟩
          refine cnext hacc hl9 (by omega) ⟨same_kp S9 hD9 ((Kp.of_same (Same.refl _)).put), ?_⟩
          rw [List.take_succ, hp9, List.map_append, List.map_append]; rfl
        rintro D16 acc16 H16 hD16 ⟨S16, rfl⟩ hacc16 hl16
        rw [List.take_of_length_le (by show 4 ≤ 4; decide)] at hacc16
        walk_at "gx"
        refine ⟨_, D16, (drC f).map txP, rfl, rfl, .inl (SqL.of hacc16), join_ok (by show 4 ≤ 100; decide) hbC2, ?_⟩
        walk_at "gx"
        refine r_ndec (fun h => absurd rfl h) (fun _ => ?_)
        have S1316 : Same H13 H16 := (S5.trans S15).trans S16
        have K16 : Kp l H3 H16 := K13.trans (Kp.of_same S1316)
        have D16' := D13.same S1316
        walk_at "gx"
        refine ⟨l, rfl, D16', fun nb H17 b17 k17 D17 => ?_⟩
        walk_at "gx"
        refine r_new fun p18 hp18 => ?_
        generalize e18 : upd H17 p18 _ = H18
        obtain ⟨s18, g18⟩ := fresh hp18 e18
        have D18 := D17.same s18
        have n18 := D17.ne hp18
        walk_at "gx"
        refine ⟨l, 2, rfl, D18, by decide, by decide, fun d19 H19 e1 e2 k19 D19 => ?_⟩
        walk_at "gx"
        refine r_pickI [1, -1] (SqL.of (k19 _ _ n18 g18)) e1 (by exact e2) fun u hu => ?_
        have hu2 : u = 1 ∨ u = -1 := by simpa using hu
        walk_at "gx"
        refine ⟨l, rfl, D19, fun ne20 H20 b20 k20 D20 => ?_⟩
        have K20 : Kp l H3 H20 := ((((K16.trans k17).trans (Kp.of_same s18)).trans k19).trans k20)
        walk_at "gx"
        refine r_new fun six hsix => ?_
        generalize e21 : upd H20 six _ = H21
        obtain ⟨s21, g21⟩ := fresh hsix e21
        let m : M6 := ⟨1, nb, 0, u, f, ne20⟩
        have hmok : m.Ok := by
          rcases hu2 with rfl | rfl
          · exact .inl (by show (1 : Int) * 1 - nb * 0 = 1; omega)
          · exact .inr (by show (1 : Int) * -1 - nb * 0 = -1; omega)
        have bs2 : ∀ z : Int, z.natAbs < 8 → Bd 1000 z := fun z hz => Nat.lt_of_lt_of_le hz (by decide)
        have hmb : MBd 1000 m := ⟨bs2 1 (by decide), b17.mono (by decide), bs2 0 (by decide), bs2 u (by rcases hu2 with rfl | rfl <;> decide), b13.mono (by decide), b20.mono (by decide)⟩
        have g21' : H21 six = some (.lst ([m.a, m.b, m.c, m.d, m.e, m.f].map V.int)) := g21
        have mbl := mbd_all hmb
        have txl := txM_len hmb
        have mjo := joinM_ok hmb
        walk_at "gx"
        simp only [List.set_cons_zero, List.set_cons_succ]
        refine ⟨rfl, ?_⟩
        walk_at "gx"
        refine compL (xs := [m.a, m.b, m.c, m.d, m.e, m.f].map V.int) (by show 6 ≤ 100000; decide) (fun D i acc H' => Same H21 H' ∧ acc = (([m.a, m.b, m.c, m.d, m.e, m.f].take i).map txI).map V.str) (SqL.of g21') (fun D hD => ⟨same_new (Same.refl _) hD, rfl⟩) (fun D i acc H' _ p => p.1.seq (SqL.of g21')) ?_ ?_
        · rintro D i9 x acc H22 hD9 hx hi9 ⟨S9, rfl⟩ hacc hl9
          have hi9 : i9 < 6 := hi9
          rw [List.getElem?_map] at hx
          obtain ⟨z, hz, rfl⟩ := Option.map_eq_some_iff.mp hx
          walk_at "gx"
          refine ⟨rfl, ?_⟩
          walk_at "gx"
          refine ⟨z, rfl, mbl z (List.mem_of_getElem? hz), ?_⟩
          refine cnext hacc hl9 (by omega) ⟨same_kp S9 hD9 ((Kp.of_same (Same.refl _)).put), ?_⟩
          rw [List.take_succ, hz, List.map_append, List.map_append]; rfl
        rintro D22 acc22 H22 hD22 ⟨S22, rfl⟩ hacc22 hl22
        rw [show [m.a, m.b, m.c, m.d, m.e, m.f].take (([m.a, m.b, m.c, m.d, m.e, m.f].map V.int).length) = [m.a, m.b, m.c, m.d, m.e, m.f] from rfl] at hacc22
        walk_at "gx"
        refine ⟨_, D22, [m.a, m.b, m.c, m.d, m.e, m.f].map txI, rfl, rfl, .inl (SqL.of hacc22), mjo, ?_⟩
        refine ⟨_, _, rfl, rfl, num_fits ?_, ?_⟩
        · show 1 + (txM m).length ≤ 100000
          omega
        walk_at "gx"
        refine ⟨_, _, rfl, rfl, num_fits ?_, ?_⟩
        · rw [len_app]
          show 1 + (txM m).length + 1 ≤ 100000
          omega
        have g22 : H22 six = some (.lst [.int 1, .int nb, .int 0, .int u, .int f, .int ne20]) := S22 _ _ g21
        walk_at "gx"
        refine mk_map (m := m) hmok (hmb.mono (by decide)) fun gx H23 s23 hg23 => ?_
        walk_at "gx"
        refine ⟨_, true, rfl, .yes m hg23, fun _ => ⟨m, hg23, hmb, fun H24 s24 => ?_⟩, fun z => nomatch z⟩
        walk_at "gx"
        refine r_ndec (fun h => absurd rfl h) (fun _ => ?_)
        have S2024 : Same H20 H24 := ((s21.trans S22).trans s23).trans s24
        have K24 : Kp l H3 H24 := K20.trans (Kp.of_same S2024)
        walk_at "gx"
        refine ⟨l, rfl, D20.same S2024, tabS_kp T3 K24 hd3, fun H25 k25 D25 T25 => ?_⟩
        walk_at "gx"
        refine ⟨fun b o nb e => ?_, T25, _, _, _, _, _, _, _, _, _, _, _, _, _, rfl⟩
        have e2 := kT2 b o nb e
        have nl : b ≠ l := fun w => by rw [w, hl0] at e2; cases e2
        exact k25 b o (by simp [nb, nl]) (K24 b o nl (s3 _ _ e2))
    · rintro σ' H2 ⟨kT2, T2, o1, o2, o3, o4, o5, o6, o7, o8, o9, o10, o11, o12, o13, rfl⟩
      walk_at "gx"
      exact q _

end
end G
namespace G
open PySem PySem.Spec PyProof.Rows L2
theorem facts {P : Program} {w : World} {K : PySem.W.Frag} {h : Heap} {mg : Str → Option Value} {f : Addr} (X : K.In h) (G : h.Ns mainGlobals mg) (hfa : mg ("law" : Str) = some (.ref f)) (c0 : SaysMT fcs fn gsn tbs w K) :
    ∃ fd : FuncData, (∀ (s : Shared) (v : Value), BindsTo s fd ⟨[v], []⟩ [("_law_script", v)]) ∧ ∀ base : Heap, K.In base → base.Ns mainGlobals mg → (∀ p ∈ csOf tfs K, LamX.TabB base mg p.1 p.2) → FnQ P w K mg base CX0 10 f fd ["_law_script"] (sp_lawT K (csOf tfs K)) := by
  have c := c0.m
  have T : Tx K mg := ⟨(He.free_ok X G (c.fact 0 (f := fun K => (He.Fa.free "isinstance").ok K) rfl)),
    (He.free_ok X G (c.fact 1 (f := fun K => (He.Fa.free "int").ok K) rfl)),
    (He.free_ok X G (c.fact 2 (f := fun K => (He.Fa.free "bool").ok K) rfl)),
    (He.free_ok X G (c.fact 3 (f := fun K => (He.Fa.free "tuple").ok K) rfl)),
    (He.free_ok X G (c.fact 4 (f := fun K => (He.Fa.free "all").ok K) rfl)),
    (He.free_ok X G (c.fact 5 (f := fun K => (He.Fa.free "len").ok K) rfl)),
    (He.free_ok X G (c.fact 6 (f := fun K => (He.Fa.free "enumerate").ok K) rfl)),
    (He.free_ok X G (c.fact 7 (f := fun K => (He.Fa.free "list").ok K) rfl)),
    (He.free_ok X G (c.fact 8 (f := fun K => (He.Fa.free "min").ok K) rfl)),
    (He.free_ok X G (c.fact 9 (f := fun K => (He.Fa.free "max").ok K) rfl)),
    (He.free_ok X G (c.fact 10 (f := fun K => (He.Fa.free "zip").ok K) rfl)),
    (He.free_ok X G (c.fact 11 (f := fun K => (He.Fa.free "range").ok K) rfl)),
    (He.free_ok X G (c.fact 12 (f := fun K => (He.Fa.free "sum").ok K) rfl)),
    (He.free_ok X G (c.fact 13 (f := fun K => (He.Fa.free "abs").ok K) rfl)),
    (He.free_ok X G (c.fact 14 (f := fun K => (He.Fa.free "str").ok K) rfl)),
    (He.glo_ok X G (c.fact 15 (f := fun K => (He.Fa.glo "is_integer").ok K) rfl)),
    (He.glo_ok X G (c.fact 16 (f := fun K => (He.Fa.glo "check_integer").ok K) rfl)),
    (He.glo_ok X G (c.fact 17 (f := fun K => (He.Fa.glo "is_point").ok K) rfl)),
    (He.glo_ok X G (c.fact 18 (f := fun K => (He.Fa.glo "check_point").ok K) rfl)),
    (He.glo_ok X G (c.fact 19 (f := fun K => (He.Fa.glo "cross_of").ok K) rfl)),
    (He.glo_ok X G (c.fact 20 (f := fun K => (He.Fa.glo "difference").ok K) rfl)),
    (He.glo_ok X G (c.fact 21 (f := fun K => (He.Fa.glo "turn_of").ok K) rfl)),
    (He.glo_ok X G (c.fact 22 (f := fun K => (He.Fa.glo "check_points").ok K) rfl)),
    (He.glo_ok X G (c.fact 23 (f := fun K => (He.Fa.glo "triples").ok K) rfl)),
    (He.glo_ok X G (c.fact 24 (f := fun K => (He.Fa.glo "check_turns").ok K) rfl)),
    (He.glo_ok X G (c.fact 25 (f := fun K => (He.Fa.glo "is_between").ok K) rfl)),
    (He.glo_ok X G (c.fact 26 (f := fun K => (He.Fa.glo "is_on").ok K) rfl)),
    (He.glo_ok X G (c.fact 27 (f := fun K => (He.Fa.glo "have_common_point").ok K) rfl)),
    (He.glo_ok X G (c.fact 28 (f := fun K => (He.Fa.glo "edges_of").ok K) rfl)),
    (He.glo_ok X G (c.fact 29 (f := fun K => (He.Fa.glo "check_crossings").ok K) rfl)),
    (He.glo_ok X G (c.fact 30 (f := fun K => (He.Fa.glo "area_of").ok K) rfl)),
    (He.glo_ok X G (c.fact 31 (f := fun K => (He.Fa.glo "arranged").ok K) rfl)),
    (He.glo_ok X G (c.fact 32 (f := fun K => (He.Fa.glo "checked_corners").ok K) rfl)),
    (He.glo_ok X G (c.fact 33 (f := fun K => (He.Fa.glo "first_reflex").ok K) rfl)),
    (He.glo_ok X G (c.fact 34 (f := fun K => (He.Fa.glo "check_map").ok K) rfl)),
    (He.glo_ok X G (c.fact 35 (f := fun K => (He.Fa.glo "check_polygon").ok K) rfl)),
    (He.glo_ok X G (c.fact 36 (f := fun K => (He.Fa.glo "format_integer").ok K) rfl)),
    (He.glo_ok X G (c.fact 37 (f := fun K => (He.Fa.glo "format_point").ok K) rfl)),
    (He.glo_ok X G (c.fact 38 (f := fun K => (He.Fa.glo "format_points").ok K) rfl)),
    (He.glo_ok X G (c.fact 39 (f := fun K => (He.Fa.glo "format_polygon").ok K) rfl)),
    (He.glo_ok X G (c.fact 40 (f := fun K => (He.Fa.glo "format_map").ok K) rfl)),
    (He.glo_ok X G (c.fact 41 (f := fun K => (He.Fa.glo "_law_pool").ok K) rfl)),
    (He.glo_ok X G (c.fact 42 (f := fun K => (He.Fa.glo "_law_take").ok K) rfl)),
    (He.glo_ok X G (c.fact 43 (f := fun K => (He.Fa.glo "_law_number").ok K) rfl)),
    (He.glo_ok X G (c.fact 44 (f := fun K => (He.Fa.glo "_law_digits").ok K) rfl)),
    (He.glo_ok X G (c.fact 45 (f := fun K => (He.Fa.glo "_law_point").ok K) rfl)),
    (He.glo_ok X G (c.fact 46 (f := fun K => (He.Fa.glo "_law_pair").ok K) rfl)),
    (He.glo_ok X G (c.fact 47 (f := fun K => (He.Fa.glo "_law_error").ok K) rfl)),
    (He.glo_ok X G (c.fact 48 (f := fun K => (He.Fa.glo "_law_refused").ok K) rfl)),
    (He.glo_ok X G (c.fact 49 (f := fun K => (He.Fa.glo "law").ok K) rfl)),
    (He.int_ok X G (c.fact 50 (f := fun K => (He.Fa.int "MIN_CORNERS" 3).ok K) rfl)),
    (He.glo_ok X G (c.fact 51 (f := fun K => (He.Fa.glo "InvalidPolygon").ok K) rfl)),
    (oexFB_ok (c.fact 52 (f := fun K => oexFB K (He.ga K "InvalidPolygon") (He.ma K (He.ga K "InvalidPolygon") "__init__") ["position"]) rfl)),
    (He.glo_ok X G (c.fact 53 (f := fun K => (He.Fa.glo "DegenerateCorner").ok K) rfl)),
    (oexFB_ok (c.fact 54 (f := fun K => oexFB K (He.ga K "DegenerateCorner") (He.ma K (He.ga K "DegenerateCorner") "__init__") ["position"]) rfl)),
    (He.glo_ok X G (c.fact 55 (f := fun K => (He.Fa.glo "CrossingEdges").ok K) rfl)),
    (oexFB_ok (c.fact 56 (f := fun K => oexFB K (He.ga K "CrossingEdges") (He.ma K (He.ga K "CrossingEdges") "__init__") ["first", "second"]) rfl)),
    (He.glo_ok X G (c.fact 57 (f := fun K => (He.Fa.glo "InvalidInteger").ok K) rfl)),
    (excF_ok (c.fact 58 (f := fun K => excFB K (He.ga K "InvalidInteger")) rfl)),
    (He.glo_ok X G (c.fact 59 (f := fun K => (He.Fa.glo "InvalidPoint").ok K) rfl)),
    (excF_ok (c.fact 60 (f := fun K => excFB K (He.ga K "InvalidPoint")) rfl)),
    (He.glo_ok X G (c.fact 61 (f := fun K => (He.Fa.glo "InvalidMap").ok K) rfl)),
    (excF_ok (c.fact 62 (f := fun K => excFB K (He.ga K "InvalidMap")) rfl)),
    (He.exm_ok (c.fact 63 (f := fun K => (He.Fa.exm "InvalidInteger" "InvalidInteger" true).ok K) rfl)),
    (He.exm_ok (c.fact 64 (f := fun K => (He.Fa.exm "InvalidPoint" "InvalidInteger" false).ok K) rfl)),
    (He.exm_ok (c.fact 65 (f := fun K => (He.Fa.exm "InvalidPoint" "InvalidPoint" true).ok K) rfl)),
    (He.exm_ok (c.fact 66 (f := fun K => (He.Fa.exm "InvalidMap" "InvalidInteger" false).ok K) rfl)),
    (He.exm_ok (c.fact 67 (f := fun K => (He.Fa.exm "InvalidMap" "InvalidPoint" false).ok K) rfl)),
    (He.exm_ok (c.fact 68 (f := fun K => (He.Fa.exm "InvalidMap" "InvalidMap" true).ok K) rfl)),
    (He.exm_ok (c.fact 69 (f := fun K => (He.Fa.exm "InvalidPolygon" "InvalidInteger" false).ok K) rfl)),
    (He.exm_ok (c.fact 70 (f := fun K => (He.Fa.exm "InvalidPolygon" "InvalidPoint" false).ok K) rfl)),
    (He.exm_ok (c.fact 71 (f := fun K => (He.Fa.exm "InvalidPolygon" "InvalidMap" false).ok K) rfl)),
    (He.exm_ok (c.fact 72 (f := fun K => (He.Fa.exm "InvalidPolygon" "InvalidPolygon" true).ok K) rfl)),
    (He.glo_ok X G (c.fact 73 (f := fun K => (He.Fa.glo "Polygon").ok K) rfl)),
    (insTyB_ok (c.fact 74 (f := fun K => insTyB K (He.ga K "Polygon")) rfl)),
    (mkB_ok (c.fact 75 (f := fun K => mkB K (He.ga K "Polygon") (He.ma K (He.ga K "Polygon") "__init__")) rfl)),
    (He.noat_ok (c.fact 76 (f := fun K => (He.Fa.noat "Polygon" "kept").ok K) rfl)),
    (He.noat_ok (c.fact 77 (f := fun K => (He.Fa.noat "Polygon" "reflex").ok K) rfl)),
    (propB_ok (c.fact 78 (f := fun K => propB K (He.ga K "Polygon") (He.ga K "Polygon") "corners") rfl)),
    (creadB_ok (c.fact 79 (f := fun K => creadB K (He.ga K "Polygon")) rfl)),
    (cvalB_ok (c.fact 80 (f := fun K => cvalB K (He.ga K "Polygon") "MAX_CORNERS" (.int 60)) rfl)),
    (isiB_ok (c.fact 81 (f := fun K => isiB K (.ref (He.ga K "Polygon")) (.ref (He.ga K "Polygon")) true) rfl)),
    (kitNoB_ok (c.fact 82 (f := fun K => kitNoB K (He.ga K "Polygon")) rfl)),
    ((c.fact 83 (f := fun K => PySem.W.notFirst K (He.ga K "Polygon") (.ref (He.ga K "Polygon"))) rfl)),
    (kitNoB_nf (c.fact 84 (f := fun K => kitNoB K (He.ga K "Polygon")) rfl)),
    (He.glo_ok X G (c.fact 85 (f := fun K => (He.Fa.glo "GridMap").ok K) rfl)),
    (insTyB_ok (c.fact 86 (f := fun K => insTyB K (He.ga K "GridMap")) rfl)),
    (mkB_ok (c.fact 87 (f := fun K => mkB K (He.ga K "GridMap") (He.ma K (He.ga K "GridMap") "__init__")) rfl)),
    (He.noat_ok (c.fact 88 (f := fun K => (He.Fa.noat "GridMap" "six").ok K) rfl)),
    (propB_ok (c.fact 89 (f := fun K => propB K (He.ga K "GridMap") (He.ga K "GridMap") "numbers") rfl)),
    (creadB_ok (c.fact 90 (f := fun K => creadB K (He.ga K "GridMap")) rfl)),
    (isiB_ok (c.fact 91 (f := fun K => isiB K (.ref (He.ga K "GridMap")) (.ref (He.ga K "GridMap")) true) rfl)),
    (kitNoB_ok (c.fact 92 (f := fun K => kitNoB K (He.ga K "GridMap")) rfl)),
    ((c.fact 93 (f := fun K => PySem.W.notFirst K (He.ga K "GridMap") (.ref (He.ga K "GridMap"))) rfl)),
    (kitNoB_nf (c.fact 94 (f := fun K => kitNoB K (He.ga K "GridMap")) rfl)),
    (defAt (c.def_ 0 (d := dd_is_integer) rfl)),
    (defAt (c.def_ 1 (d := dd_check_integer) rfl)),
    (defAt (c.def_ 2 (d := dd_is_point) rfl)),
    (defAt (c.def_ 3 (d := dd_check_point) rfl)),
    (defAt (c.def_ 4 (d := dd_cross_of) rfl)),
    (defAt (c.def_ 5 (d := dd_difference) rfl)),
    (defAt (c.def_ 6 (d := dd_turn_of) rfl)),
    (defAt (c.def_ 7 (d := dd_InvalidPolygon_init) rfl)),
    (defAt (c.def_ 8 (d := dd_DegenerateCorner_init) rfl)),
    (defAt (c.def_ 9 (d := dd_CrossingEdges_init) rfl)),
    (defAt (c.def_ 10 (d := dd_check_points) rfl)),
    (defAt (c.def_ 11 (d := dd_triples) rfl)),
    (defAt (c.def_ 12 (d := dd_check_turns) rfl)),
    (defAt (c.def_ 13 (d := dd_is_between) rfl)),
    (defAt (c.def_ 14 (d := dd_is_on) rfl)),
    (defAt (c.def_ 15 (d := dd_have_common_point) rfl)),
    (defAt (c.def_ 16 (d := dd_edges_of) rfl)),
    (defAt (c.def_ 17 (d := dd_check_crossings) rfl)),
    (defAt (c.def_ 18 (d := dd_area_of) rfl)),
    (defAt (c.def_ 19 (d := dd_arranged) rfl)),
    (defAt (c.def_ 20 (d := dd_checked_corners) rfl)),
    (defAt (c.def_ 21 (d := dd_first_reflex) rfl)),
    (defAt (c.def_ 22 (d := dd_Polygon_init) rfl)),
    (defAt (c.def_ 23 (d := dd_Polygon_corners) rfl)),
    (defAt (c.def_ 24 (d := dd_GridMap_init) rfl)),
    (defAt (c.def_ 25 (d := dd_GridMap_numbers) rfl)),
    (defAt (c.def_ 26 (d := dd_check_map) rfl)),
    (defAt (c.def_ 27 (d := dd_check_polygon) rfl)),
    (defAt (c.def_ 28 (d := dd_format_integer) rfl)),
    (defAt (c.def_ 29 (d := dd_format_point) rfl)),
    (defAt (c.def_ 30 (d := dd_format_points) rfl)),
    (defAt (c.def_ 31 (d := dd_format_polygon) rfl)),
    (defAt (c.def_ 32 (d := dd_format_map) rfl)),
    (defAt (c.def_ 33 (d := dd_law_pool) rfl)),
    (defAt (c.def_ 34 (d := dd_law_take) rfl)),
    (defAt (c.def_ 35 (d := dd_law_number) rfl)),
    (defAt (c.def_ 36 (d := dd_law_digits) rfl)),
    (defAt (c.def_ 37 (d := dd_law_point) rfl)),
    (defAt (c.def_ 38 (d := dd_law_pair) rfl)),
    (defAt (c.def_ 39 (d := dd_law_error) rfl)),
    (defAt (c.def_ 40 (d := dd_law_refused) rfl)),
    (defAt (c.def_ 41 (d := dd_law) rfl))⟩
  have e := hfa.symm.trans T.g_law
  cases e
  have b := FunD.bindsA (ps := ["_law_script"]) T.d_law fun _ _ _ _ _ _ us hl => match us, hl with | [_], _ => rfl
  exact ⟨_, fun s v => b s [v] rfl, fun base _ _ tb => haveI : LT K mg base := ⟨tb _ (.head _)⟩; ok_law T⟩
end G
open PySem PySem.W PySem.Calls PyProof.Rows
theorem PySem.Challenge.cw_latticeshapes_k80_values_formatted_holds : PySem.Challenge.rw_latticeshapes_k80_values_formatted.Holds := by
  refine G.early ?hc
  case hc =>
    refine G.walk_ofQT (l := PySem.Challenge.rw_latticeshapes_k80_values_formatted) (n := 63) (k := 10) (x := "_law_script") (CX := L2.CX0) rfl (by decide) (by kernel_rfl) ⟨rfl, by decide, by decide⟩ ?F (fun _ _ _ _ z => z)
    intro w mg fa h Y Gn hmg0
    obtain ⟨K, KX, c, ct⟩ := Y
    have hmg : mg ("law" : PySem.Str) = some (.ref fa) := by
      have e : (HandSHeadRun.topDef (OpenLaw.row PySem.Challenge.rw_latticeshapes_k80_values_formatted).prog 53).name = ("law" : PySem.Str) := by kernel_rfl
      rw [← e]
      exact hmg0
    obtain ⟨fd, hb, hF⟩ := G.facts (P := (PySem.Challenge.rw_latticeshapes_k80_values_formatted).prog) (w := w) KX Gn hmg c
    exact ⟨K, fd, G.sp_lawT K (G.csOf G.tfs K), G.csOf G.tfs K, KX, ⟨ct.empty, ct.out, fun p hp => PySem.W.codeHd_of_K KX (ct.hd p hp)⟩, hb, fun H a ns hl hT hS => ⟨a, ns, rfl, hS, hl, hT, fun _ => rfl⟩, hF⟩
