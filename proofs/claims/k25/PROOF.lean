import PyProof.Rows.All
import Wide.All
import OpenK.AllK
import Wide.FinOn
import KE.KStateDown
import HandS.ForMost
import HandS.ForExc
import HandS.Wide
import HandS.IsInst
import HandS.Star
import HandS.Style
import HandS.Flow
import HandS.Defaults
import HandS.Head0
import HandS.Head1
import HandS.Head2
import HandS.HeadEnd
import HandS.HeadHook1
import HandS.HeadHook2
import HandS.HeadHook3
import HandS.CallSlots
import HandS.TupAny
import HandS.Steps
import KE.Datum
import HandS.Evl
import HandS.TupLe
import HandS.TryMany
import HandS.HeadNt
import HandS.Property
import HandS.ClsMeth
import HandS.CallLocal
import HandS.MethStar
import HandS.MakeKw
import KE.DatumMore
import HandS.Zip
import HandS.OwnEq
import HandS.TryOnly
import KE.DataMinMax
import HandS.Deep
import HandS.GenList
import HandS.GenYield
import KE.GoesMore
import KE.GoesZip
import KE.GoesEnum
import HandS.ExcInit
import HandS.ExcField
import KE.SortData
import KE.KSuper
import HandS.TupSets
import HandS.SetBool
import KE.KExcInit
import HandS.FStr
import HandS.GenYield
import PySem.Challenge.RW_latticeshapes_k25_grid_points_counted_on
set_option Elab.async false
set_option linter.all false
set_option maxRecDepth 100000
set_option maxHeartbeats 8000000
set_option synthInstance.maxHeartbeats 0
set_option synthInstance.maxSize 100000
/-! ### readings, one constructor a lemma: the symbolic walk's own steps -/
namespace G
open PySem PySem.Spec PyProof.Rows L2
section
variable {K : PySem.W.Frag} {σ : L2.St} {H : Hp} {ta tb te : TE} {Q : VK} {D : Ends} {i : Nat} {v x y : V} {b : Bool}
theorem r_var (h : σ[i]? = some (some v)) (q : Q v H) : tVar i σ H Q := ⟨v, h, q⟩
theorem r_c (q : Q v H) : tC v σ H Q := q
theorem r_op {r : R2} (q : ta σ H fun x H1 => tb σ H1 fun y H2 => r x y H2 Q) : tOp r ta tb σ H Q := q
theorem r_un {r : V → Hp → VK → Prop} (q : ta σ H fun x H1 => r x H1 Q) : tUn r ta σ H Q := q
theorem r_U {g : Int → V} {n : Int} (q : Q (g n) H) : rU g (.int n) H Q := ⟨n, rfl, q⟩
theorem r_I0 {g : Int → Int → V} {n m : Int} (q : Q (g n m) H) : rI0 g (.int n) (.int m) H Q := ⟨n, m, rfl, rfl, q⟩
theorem r_I {C : Int → Int → Prop} {g : Int → Int → V} {n m : Int} (hc : C n m) (q : Q (g n m) H) : rI C g (.int n) (.int m) H Q := ⟨n, m, rfl, rfl, hc, q⟩
theorem r_eq (h : scal x y = true) (q : Q (.bl (decide (x = y))) H) : rEq x y H Q := ⟨h, q⟩
theorem r_ne (h : scal x y = true) (q : Q (.bl (!decide (x = y))) H) : rNe x y H Q := ⟨h, q⟩
theorem r_ixL {p : Addr} {xs : List V} {n : Int} (h : SqL K H p xs) (e : atI xs n = some v) (q : Q v H) : rIxL K (.ref p) (.int n) H Q := ⟨p, xs, n, v, rfl, rfl, h, e, q⟩
theorem r_ixT {p : Addr} {xs : List V} {n : Int} (h : SqT K H p xs) (e : atI xs n = some v) (q : Q v H) : rIxT K (.ref p) (.int n) H Q := ⟨p, xs, n, v, rfl, rfl, h, e, q⟩
theorem r_seq {t u : TS} (q : t { D with nx := u D } σ H) : tSeq t u D σ H := q
theorem r_next (q : D.nx σ H) : tNext D σ H := q
theorem r_asg {g : TG} (q : te σ H fun x H1 => g x σ H1 D.nx) : tAsg te g D σ H := q
theorem r_st {t u : TS} {σ' : L2.St} (e : σ = σ') (q : tSeq t u D σ' H) : tSeq t u D σ H := by
  subst e; exact q
theorem r_gnameS {R : L2.St → Hp → Prop} {σ' : L2.St} (e : σ.set i (some v) = σ') (q : R σ' H) : gName i v σ H R := by
  subst e; exact q
theorem r_gname {R : L2.St → Hp → Prop} (q : R (σ.set i (some v)) H) : gName i v σ H R := q
theorem r_drop (q : te σ H fun _ H1 => D.nx σ H1) : tDrop te D σ H := q
theorem r_ret (q : te σ H D.rt) : tRet te D σ H := q
theorem r_ifs {c : TT} {t u : TS} (q : c σ H fun b H1 => if b = true then t D σ H1 else u D σ H1) : tIfS c t u D σ H := q
theorem r_test {R : Bool → Hp → Prop} (q : te σ H fun x H' => ∃ k, x = .bl k ∧ R k H') : tTest te σ H R := q
theorem r_tB {R : Bool → Hp → Prop} (q : te σ H fun x H' => ∃ k, x = .bl k ∧ R k H') : tB te σ H R := q
theorem r_bl {R : Bool → Prop} (q : R b) : ∃ k, V.bl b = .bl k ∧ R k := ⟨b, rfl, q⟩
theorem r_nil {R : List V → Hp → Prop} (q : R [] H) : tNil σ H R := q
theorem r_cons {tr : TA} {R : List V → Hp → Prop} (q : ta σ H fun x H1 => tr σ H1 fun xs H2 => R (x :: xs) H2) : tCons ta tr σ H R := q
theorem r_cb {r : List V → Hp → VK → Prop} {t : TA} (q : t σ H fun vs H1 => r vs H1 Q) : tCB r t σ H Q := q
theorem r_lst {t : TA} (q : t σ H fun xs H1 => xs.length ≤ sizeLine ∧ ∀ p, H1 p = none → Q (.ref p) (upd H1 p (.lst xs))) : tLst t σ H Q := q
theorem r_tup {t : TA} (q : t σ H fun xs H1 => xs.length ≤ sizeLine ∧ ∀ p, H1 p = none → Q (.ref p) (upd H1 p (.tup xs))) : tTup t σ H Q := q
theorem r_call {sp : Sp} {dvs : List V} {E : XK} {t : TA} (q : t σ H fun vs H1 => sp (vs ++ dvs) H1 Q E) : tCall sp dvs E t σ H Q := q
theorem r_callS {sp : Sp} {E : L2.St → XK} {t : TA} (q : t σ H fun vs H1 => sp vs H1 Q (E σ)) : tCallS sp E t σ H Q := q
theorem r_and {t u : TT} {R : Bool → Hp → Prop} (q : t σ H fun c H1 => if c = true then u σ H1 R else R false H1) : tAnd t u σ H R := q
theorem r_or {t u : TT} {R : Bool → Hp → Prop} (q : t σ H fun c H1 => if c = true then R true H1 else u σ H1 R) : tOr t u σ H R := q
theorem r_not {t : TT} {R : Bool → Hp → Prop} (q : t σ H fun c H1 => R (!c) H1) : tNot t σ H R := q
theorem r_andV (q : ta σ H fun x H1 => ∃ c, x = .bl c ∧ if c = true then tb σ H1 Q else Q (.bl false) H1) : tAndV ta tb σ H Q := q
theorem r_orV (q : ta σ H fun x H1 => ∃ c, x = .bl c ∧ if c = true then Q (.bl true) H1 else tb σ H1 Q) : tOrV ta tb σ H Q := q
theorem r_notV (q : ta σ H fun x H1 => ∃ c, x = .bl c ∧ Q (.bl (!c)) H1) : tNotV ta σ H Q := q
theorem r_if {t : TT} (q : t σ H fun c H1 => if c = true then ta σ H1 Q else tb σ H1 Q) : tIf t ta tb σ H Q := q
theorem r_sub {to ti : TE} {t : TSet} {R : L2.St → Hp → Prop} (q : to σ H fun o H1 => ti σ H1 fun i H2 => t o i v H2 fun H3 => R σ H3) : gSub to ti t v σ H R := q
theorem r_setL {p : Addr} {xs : List V} {n : Int} {j : Nat} {R : Hp → Prop} (h : H p = some (.lst xs)) (e : ixN xs.length n = some j) (q : R (upd H p (.lst (xs.set j v)))) : rSetL (.ref p) (.int n) v H R := ⟨p, xs, n, j, rfl, rfl, h, e, q⟩
theorem r_dec {p : Prop} [Decidable p] {A B : Prop} (h1 : p → A) (h2 : ¬ p → B) : if decide p = true then A else B := by
  by_cases h : p
  · rw [decide_eq_true h]; exact iteT (h1 h)
  · rw [decide_eq_false h]; exact iteF (h2 h)
theorem r_ndec {p : Prop} [Decidable p] {A B : Prop} (h1 : ¬ p → A) (h2 : p → B) : if (!decide p) = true then A else B := by
  by_cases h : p
  · rw [decide_eq_true h]; exact iteF (h2 h)
  · rw [decide_eq_false h]; exact iteT (h1 h)
theorem r_b {A B : Prop} (h1 : b = true → A) (h2 : b = false → B) : if b = true then A else B := by
  cases b with
  | true => exact iteT (h1 rfl)
  | false => exact iteF (h2 rfl)
theorem dec_int (n m : Int) : decide (V.int n = V.int m) = decide (n = m) := by
  by_cases h : n = m
  · subst h; simp
  · rw [decide_eq_false h, decide_eq_false (fun z => h (V.int.inj z))]
theorem r_eqI {n m : Int} (q : Q (.bl (decide (n = m))) H) : rEq (.int n) (.int m) H Q := ⟨rfl, by rw [dec_int]; exact q⟩
theorem r_neI {n m : Int} (q : Q (.bl (!decide (n = m))) H) : rNe (.int n) (.int m) H Q := ⟨rfl, by rw [dec_int]; exact q⟩
end
end G


namespace G
open PySem PySem.Spec PyProof.Rows L2
/-! ### numbers -/
theorem op_mulA {X : Cx} : OpR X (binaryOp .Mult) (rI IntMulOk fun i j => .int (i * j)) := opI fun _ _ _ _ _ _ _ hc q => mul_int q hc
/-- fewer than n bits -/
def Bd (n : Nat) (i : Int) : Prop := i.natAbs < 2 ^ n
theorem Bd.mono {n m : Nat} {i : Int} (h : Bd n i) (l : n ≤ m) : Bd m i := Nat.lt_of_lt_of_le h (Nat.pow_le_pow_right (by decide) l)
theorem Bd.mul {n m : Nat} {i j : Int} (h : Bd n i) (k : Bd m j) : Bd (n + m) (i * j) := wide_lt h k
theorem Bd.add {n : Nat} {i j : Int} (h : Bd n i) (k : Bd n j) : Bd (n + 1) (i + j) := by
  have h1 : i.natAbs < 2 ^ n := h
  have k1 : j.natAbs < 2 ^ n := k
  show (i + j).natAbs < 2 ^ (n + 1)
  have e : 2 ^ (n + 1) = 2 ^ n + 2 ^ n := by rw [Nat.pow_succ]; omega
  omega
theorem Bd.neg {n : Nat} {i : Int} (h : Bd n i) : Bd n (-i) := by
  show (-i).natAbs < 2 ^ n
  rw [Int.natAbs_neg]; exact h
theorem Bd.sub {n : Nat} {i j : Int} (h : Bd n i) (k : Bd n j) : Bd (n + 1) (i - j) := by
  have e : i - j = i + -j := by omega
  rw [e]; exact h.add k.neg
theorem Bd.ok {n m : Nat} {i j : Int} (h : Bd n i) (k : Bd m j) (l : n + m < 900000 := by decide) : IntMulOk i j :=
  CMulW.ok (wide_mul (a := n + 1) (b := m + 1) (h.mono (Nat.le_succ n)) (k.mono (Nat.le_succ m)) (Nat.succ_pos _) (Nat.succ_pos _) (by omega))
theorem mul_okL {i j : Int} (h1 : -(2 ^ 64) < i) (h2 : i < 2 ^ 64) : IntMulOk i j := CMul.ok (.inl ⟨h1, h2⟩)
theorem mul_okR {i j : Int} (h1 : -(2 ^ 64) < j) (h2 : j < 2 ^ 64) : IntMulOk i j := CMul.ok (.inr ⟨h1, h2⟩)
/-! ### heaps: all but the object at l stands -/
def Kp (l : Addr) (H H' : Hp) : Prop := ∀ b o, b ≠ l → H b = some o → H' b = some o
theorem Kp.refl (l : Addr) (H : Hp) : Kp l H H := fun _ _ _ h => h
theorem Kp.trans {l : Addr} {H H1 H2 : Hp} (a : Kp l H H1) (b : Kp l H1 H2) : Kp l H H2 := fun c o n h => b c o n (a c o n h)
theorem Kp.same {l : Addr} {H H1 H2 : Hp} (a : Kp l H H1) (b : Same H1 H2) : Kp l H H2 := fun c o n h => b c o (a c o n h)
theorem Kp.of_same {l : Addr} {H H1 : Hp} (b : Same H H1) : Kp l H H1 := fun c o _ h => b c o h
theorem Kp.new {l p : Addr} {H H1 : Hp} {o : HO} (a : Kp l H H1) (h : H1 p = none) : Kp l H (upd H1 p o) := fun c u n e => by
  have z := a c u n e
  rw [upd_ne (ne_of_none z h)]; exact z
theorem Kp.put {l : Addr} {H H1 : Hp} {o : HO} (a : Kp l H H1) : Kp l H (upd H1 l o) := fun c u n e => by rw [upd_ne n]; exact a c u n e
theorem same_new {p : Addr} {H H1 : Hp} {o : HO} (a : Same H H1) (h : H1 p = none) : Same H (upd H1 p o) := fun c u e => by
  have z := a c u e
  rw [upd_ne (ne_of_none z h)]; exact z
theorem fresh {H : Hp} {p : Addr} {o : HO} {H1 : Hp} (h : H p = none) (e : upd H p o = H1) : Same H H1 ∧ H1 p = some o := by
  subst e; exact ⟨same_new (Same.refl H) h, upd_same⟩
theorem Kp.seq {K : PySem.W.Frag} {l a : Addr} {H H' : Hp} {xs : List V} (e : Kp l H H') (n : a ≠ l) (h : SqL K H a xs) : SqL K H' a xs := by
  rcases h with (h | ⟨o, h⟩) | h
  · exact .inl (.inl (e _ _ n h))
  · exact .inl (.inr ⟨o, e _ _ n h⟩)
  · exact .inr h
theorem same_kp {l : Addr} {H H1 H2 : Hp} (s : Same H H1) (hl : H l = none) (k : Kp l H1 H2) : Same H H2 := fun c o e => k c o (ne_of_none e hl) (s c o e)
/-! ### kinds of values -/
inductive Kd (K : PySem.W.Frag) (H : Hp) : V → String → Prop where
  | non : Kd K H .non "NoneType"
  | bl (x : Bool) : Kd K H (.bl x) "bool"
  | int (i : Int) : Kd K H (.int i) "int"
  | str (x : Str) : Kd K H (.str x) "str"
  | lst {a : Addr} {xs : List V} (e : SqL K H a xs) : Kd K H (.ref a) "list"
  | tup {a : Addr} {xs : List V} (e : SqT K H a xs) : Kd K H (.ref a) "tuple"
  | dK {a : Addr} {kvs : List (Key × V)} (e : H a = some (.dK kvs)) : Kd K H (.ref a) "dict"
theorem Kd.ty {K : PySem.W.Frag} {H : Hp} {v : V} {n : String} (k : Kd K H v n) : TyX K H v (.type n) := by
  cases k with
  | non => exact .base .non
  | bl x => exact .base (.bl x)
  | int i => exact .base (.int i)
  | str x => exact .base (.str x)
  | lst e =>
    rcases e with (e | ⟨o, e⟩) | ⟨o, its, n, e, c, _⟩
    · exact .base (.lst e)
    · exact .base (.frz e)
    · exact .kList e c
  | tup e =>
    rcases e with (e | ⟨o, e⟩) | ⟨o, its, n, e, c, _⟩
    · exact .base (.tup e)
    · exact .fTuple e
    · exact .kTuple e c
  | dK e => exact .base (.dK e)
theorem sqT_same {K : PySem.W.Frag} {H H' : Hp} {a : Addr} {xs : List V} (s : Same H H') (h : SqT K H a xs) : SqT K H' a xs := by
  rcases h with (h | ⟨o, h⟩) | h
  · exact .inl (.inl (s _ _ h))
  · exact .inl (.inr ⟨o, s _ _ h⟩)
  · exact .inr h
theorem Kd.same {K : PySem.W.Frag} {H H' : Hp} {v : V} {n : String} (k : Kd K H v n) (s : Same H H') : Kd K H' v n := by
  cases k with
  | non => exact .non
  | bl x => exact .bl x
  | int i => exact .int i
  | str x => exact .str x
  | lst e => exact .lst (s.seq e)
  | tup e => exact .tup (sqT_same s e)
  | dK e => exact .dK (s _ _ e)
def kds : List String := ["NoneType", "bool", "int", "str", "list", "tuple", "dict"]
theorem Kd.mem {K : PySem.W.Frag} {H : Hp} {v : V} {n : String} (k : Kd K H v n) : n ∈ kds := by
  cases k <;> decide
def isI : V → Bool
  | .int _ => true
  | _ => false
def inty (n : String) : Bool := n == "int" || n == "bool"
theorem Kd.kit {K : PySem.W.Frag} {H : Hp} {v : V} {n : String} (k : Kd K H v n) : PySem.W.kitOne K (.type n) (.type "int") = some (inty n) ∧ PySem.W.kitOne K (.type n) (.type "bool") = some (n == "bool") ∧
    PySem.W.kitOne K (.type n) (.type "tuple") = some (n == "tuple") ∧ PySem.W.kitOne K (.type n) (.type "list") = some (n == "list") ∧ (isI v = (inty n && !(n == "bool"))) := by
  cases k with
  | non => exact ⟨kit_ty (by decide +kernel), kit_ty (by decide +kernel), kit_ty (by decide +kernel), kit_ty (by decide +kernel), rfl⟩
  | bl x => exact ⟨kit_ty (by decide +kernel), kit_ty (by decide +kernel), kit_ty (by decide +kernel), kit_ty (by decide +kernel), rfl⟩
  | int i => exact ⟨kit_ty (by decide +kernel), kit_ty (by decide +kernel), kit_ty (by decide +kernel), kit_ty (by decide +kernel), rfl⟩
  | str x => exact ⟨kit_ty (by decide +kernel), kit_ty (by decide +kernel), kit_ty (by decide +kernel), kit_ty (by decide +kernel), rfl⟩
  | lst e => exact ⟨kit_ty (by decide +kernel), kit_ty (by decide +kernel), kit_ty (by decide +kernel), kit_ty (by decide +kernel), rfl⟩
  | tup e => exact ⟨kit_ty (by decide +kernel), kit_ty (by decide +kernel), kit_ty (by decide +kernel), kit_ty (by decide +kernel), rfl⟩
  | dK e => exact ⟨kit_ty (by decide +kernel), kit_ty (by decide +kernel), kit_ty (by decide +kernel), kit_ty (by decide +kernel), rfl⟩
/-! ### the draws -/
def DrAt (H : Hp) (l : Addr) : Prop := ∃ a b : Int, H l = some (.lst [.int a, .int b]) ∧ 0 ≤ a ∧ 0 ≤ b ∧ b < 2147483647
theorem DrAt.same {H H' : Hp} {l : Addr} (d : DrAt H l) (s : Same H H') : DrAt H' l := by
  obtain ⟨a, b, h, r⟩ := d
  exact ⟨a, b, s _ _ h, r⟩
theorem DrAt.new {H : Hp} {l p : Addr} {o : HO} (d : DrAt H l) (h : H p = none) : DrAt (upd H p o) l := d.same (same_new (Same.refl H) h)
theorem DrAt.ne {H : Hp} {l p : Addr} (d : DrAt H l) (h : H p = none) : p ≠ l := by
  obtain ⟨a, b, e, _⟩ := d
  exact (ne_of_none e h).symm
theorem DrAt.ne_tup {H : Hp} {l p : Addr} {xs : List V} (d : DrAt H l) (h : H p = some (.tup xs)) : p ≠ l := by
  obtain ⟨a, b, e, _⟩ := d
  exact ne_of h e (by intro z; cases z)
end G

namespace G
open PySem PySem.Spec PyProof.Rows L2
/-! ### built-ins by named readings -/
def rAbs : List V → Hp → VK → Prop := fun xs H Q => ∃ i, xs = [.int i] ∧ Q (.int (if i < 0 then -i else i)) H
def rLn (K : PySem.W.Frag) : List V → Hp → VK → Prop := fun xs H Q => ∃ x n, xs = [x] ∧ LenV K x H n ∧ Q (.int n) H
def rInt1 : List V → Hp → VK → Prop := fun xs H Q => (∃ i, xs = [.int i] ∧ Q (.int i) H) ∨ ∃ k, xs = [.bl k] ∧ Q (.int (if k then 1 else 0)) H
def rMx2 : List V → Hp → VK → Prop := fun xs H Q => ∃ i j, xs = [.int i, .int j] ∧ Q (.int (if j > i then j else i)) H
def rMn2 : List V → Hp → VK → Prop := fun xs H Q => ∃ i j, xs = [.int i, .int j] ∧ Q (.int (if j < i then j else i)) H
def rLstOf (K : PySem.W.Frag) : List V → Hp → VK → Prop := fun xs H Q => ∃ p ys, xs = [.ref p] ∧ (SqL K H p ys ∨ SqT K H p ys) ∧ ∀ l, H l = none → Q (.ref l) (upd H l (.lst ys))
def rTupOf (K : PySem.W.Frag) : List V → Hp → VK → Prop := fun xs H Q => ∃ p ys, xs = [.ref p] ∧ ((SqL K H p ys ∧ ∀ l, H l = none → Q (.ref l) (upd H l (.tup ys))) ∨ (SqT K H p ys ∧ Q (.ref p) H))
section
variable {X : Cx}
theorem cAbs : CallR X (.builtin "abs") rAbs := call_abs
theorem cLen : CallR X (.builtin "len") (rLn X.K) := call_len
theorem cInt1 : CallR X (.type "int") rInt1 := call_int1
theorem cMax2 (hc : X.calm = true) : CallR X (.builtin "max") rMx2 := call_max2 hc
theorem cMin2 (hc : X.calm = true) : CallR X (.builtin "min") rMn2 := call_min2 hc
theorem cLstOf : CallR X (.type "list") (rLstOf X.K) := call_list_of
theorem cTupOf : CallR X (.type "tuple") (rTupOf X.K) := call_tuple_of
/-- a truth as a test -/
theorem pt_tru {a : Expr} {ta : TE} (ha : PE X a ta) (he : ∀ whole, isTrue a X.env whole = (do let v ← whole; standAt a.pos; holding [v] (truthy v)) := by intro _; rfl) : PT X a (tTru X.K ta) := pt_truth ha he
end
section
variable {K : PySem.W.Frag} {σ : L2.St} {H : Hp} {ta : TE} {Q : VK} {D : Ends} {i j : Nat} {v x y : V} {b : Bool} {p : Addr} {xs : List V} {n m : Int}
theorem r_abs (q : Q (.int (n.natAbs : Int)) H) : rAbs [.int n] H Q := ⟨n, rfl, by
  have e : (if n < 0 then -n else n) = (n.natAbs : Int) := by split <;> omega
  rw [e]; exact q⟩
theorem r_lenL (h : SqL K H p xs) (q : Q (.int (xs.length : Int)) H) : rLn K [.ref p] H Q := ⟨.ref p, xs.length, rfl, .inl ⟨xs, h, rfl⟩, q⟩
theorem r_lenT (h : SqT K H p xs) (q : Q (.int (xs.length : Int)) H) : rLn K [.ref p] H Q := ⟨.ref p, xs.length, rfl, .inr ⟨xs, h, rfl⟩, q⟩
theorem r_intB (q : Q (.int (if b then 1 else 0)) H) : rInt1 [.bl b] H Q := .inr ⟨b, rfl, q⟩
theorem r_intI (q : Q (.int n) H) : rInt1 [.int n] H Q := .inl ⟨n, rfl, q⟩
theorem r_max2 (q : Q (.int (max n m)) H) : rMx2 [.int n, .int m] H Q := ⟨n, m, rfl, by
  have e : (if m > n then m else n) = max n m := by omega
  rw [e]; exact q⟩
theorem r_min2 (q : Q (.int (min n m)) H) : rMn2 [.int n, .int m] H Q := ⟨n, m, rfl, by
  have e : (if m < n then m else n) = min n m := by omega
  rw [e]; exact q⟩
theorem r_lstOfL (h : SqL K H p xs) (q : ∀ l, H l = none → Q (.ref l) (upd H l (.lst xs))) : rLstOf K [.ref p] H Q := ⟨p, xs, rfl, .inl h, q⟩
theorem r_lstOfT (h : SqT K H p xs) (q : ∀ l, H l = none → Q (.ref l) (upd H l (.lst xs))) : rLstOf K [.ref p] H Q := ⟨p, xs, rfl, .inr h, q⟩
theorem r_tupOfL (h : SqL K H p xs) (q : ∀ l, H l = none → Q (.ref l) (upd H l (.tup xs))) : rTupOf K [.ref p] H Q := ⟨p, xs, rfl, .inl ⟨h, q⟩⟩
theorem r_tupOfT (h : SqT K H p xs) (q : Q (.ref p) H) : rTupOf K [.ref p] H Q := ⟨p, xs, rfl, .inr ⟨h, q⟩⟩
theorem r_new {R : Addr → Prop} (q : ∀ p, H p = none → R p) (h : Nat.ble xs.length 1000 = true := by rfl) : xs.length ≤ sizeLine ∧ ∀ p, H p = none → R p := ⟨Nat.le_trans (Nat.le_of_ble_eq_true h) (by decide), q⟩
theorem r_cut {t u : TS} (Mid : L2.St → Hp → Prop) (h1 : t { D with nx := Mid } σ H) (h2 : ∀ σ' H', Mid σ' H' → u D σ' H') : Evl.tCut t u D σ H := ⟨Mid, h1, h2⟩
theorem r_tru {R : Bool → Hp → Prop} (q : ta σ H fun x H' => ∃ k, TruV K x H' k ∧ R k H') : tTru K ta σ H R := q
theorem r_truI {R : Bool → Prop} (q : R (decide (n ≠ 0))) : ∃ k, TruV K (.int n) H k ∧ R k := ⟨n != 0, rfl, by
  have e : (n != 0) = decide (n ≠ 0) := by
    by_cases h : n = 0
    · subst h; rfl
    · simp [h]
  rw [e]; exact q⟩
theorem r_isN (q : Q (.bl (decide (x = .non))) H) : rIsN x .non H Q := ⟨rfl, q⟩
theorem r_notN (q : Q (.bl (!decide (x = .non))) H) : rNotN x .non H Q := ⟨rfl, q⟩
theorem r_isB {a c : Bool} (q : Q (.bl (decide (a = c))) H) : rIsB (.bl a) (.bl c) H Q := ⟨a, c, rfl, rfl, q⟩
theorem r_notB {a c : Bool} (q : Q (.bl (!decide (a = c))) H) : rNotB (.bl a) (.bl c) H Q := ⟨a, c, rfl, rfl, q⟩
theorem r_isi {c : V} {t u : Value} (k : ClsV c u) (ty : TyX K H x t) (e : PySem.W.kitOne K t u = some b) (q : Q (.bl b) H) : rIsi K [x, c] H Q := ⟨x, c, t, u, b, rfl, k, ty, e, q⟩
theorem r_aug {te : TE} {ti : TIp} (h : σ[i]? = some (some x)) (q : te σ H fun y H1 => ti x y H1 fun z H2 => D.nx (σ.set i (some z)) H2) : tAug i te ti D σ H := ⟨x, h, q⟩
theorem r_ipI {f : Int → Int → Int} (q : Q (.int (f n m)) H) : ipI f (.int n) (.int m) H Q := ⟨n, m, rfl, rfl, q⟩
theorem r_gtup {k : Nat} {t : TGs} {R : L2.St → Hp → Prop} (h : SqT K H p xs) (q : t xs σ H R) (hl : xs.length = k := by rfl) : gTup K k t (.ref p) σ H R := ⟨p, xs, rfl, h, hl, q⟩
theorem r_gcons {t : TG} {u : TGs} {R : L2.St → Hp → Prop} (q : t v σ H fun σ' H' => u xs σ' H' R) : gCons t u (v :: xs) σ H R := ⟨v, xs, rfl, q⟩
theorem r_gnil {R : L2.St → Hp → Prop} (q : R σ H) : gNil [] σ H R := ⟨rfl, q⟩
theorem r_par {ta : TA} (q : ta σ H fun vs H1 => ∃ v w, vs = [v, w] ∧ D.nx ((σ.set i (some v)).set j (some w)) H1) : tPar i j ta D σ H := q
theorem r_two {R : V → V → Prop} (q : R x y) : ∃ v w, [x, y] = [v, w] ∧ R v w := ⟨x, y, rfl, q⟩
theorem r_rep {l : Addr} (h : H l = some (.lst xs)) (h1 : -(2 ^ 63) ≤ n) (h2 : n < 2 ^ 63) (h3 : xs.length * n.toNat ≤ sizeLine) (q : ∀ p, H p = none → Q (.ref p) (upd H p (.lst (List.replicate n.toNat xs).flatten))) : rRep (.ref l) (.int n) H Q := ⟨l, n, xs, rfl, rfl, h, h1, h2, h3, q⟩
theorem r_cat {l l' : Addr} {ys : List V} (h : H l = some (.lst xs)) (h' : H l' = some (.lst ys)) (h3 : xs.length + ys.length ≤ sizeLine) (q : ∀ p, H p = none → Q (.ref p) (upd H p (.lst (xs ++ ys)))) : rCat (.ref l) (.ref l') H Q := ⟨l, l', xs, ys, rfl, rfl, h, h', h3, q⟩
theorem r_eqD {d e : PyData} (hd : Dp K H x d) (he : Dp K H y e) (sd : SeqAt.shaped d = true) (se : SeqAt.shaped e = true) (q : Q (.bl (PyData.eqv d e)) H) : rEqD K x y H Q := ⟨d, e, hd, he, sd, se, q⟩
theorem r_neD {d e : PyData} (hd : Dp K H x d) (he : Dp K H y e) (sd : SeqAt.shaped d = true) (se : SeqAt.shaped e = true) (q : Q (.bl (!PyData.eqv d e)) H) : rNeD K x y H Q := ⟨d, e, hd, he, sd, se, q⟩
end
end G
/-! ### loops and comprehensions: readings by an invariant -/
namespace G
open PySem PySem.Spec PyProof.Rows L2
section
variable {K : PySem.W.Frag} {σ : L2.St} {H : Hp} {ta tb te : TE} {Q : VK} {D : Ends} {i j : Nat} {v x y : V} {b : Bool} {ts : TS} {g : TG} {tt : TT} {vs : List Nat}
/-- the turns of a for over the walk J -/
def Turns (J : It) (g : TG) (ts : TS) (D : Ends) (σ : L2.St) (H : Hp) : Prop := ∃ W : Nat → Nat → L2.St → Hp → Prop, (∃ m, W 0 m σ H) ∧ ∀ i m σ H, W i m σ H →
  (J.stop i H ∧ D.nx σ H) ∨ (J.go i H ∧ ∃ N : L2.St → Hp → Prop, (∀ σ' H', N σ' H' → ∃ m', m' < m ∧ W (i + 1) m' σ' H') ∧ ∀ x H', J.yld i H x H' → g x σ H' fun σ2 H2 => ts { D with nx := N, ct := N, bk := D.nx } σ2 H2)
def LoopR1 (ws : List V) (g : TG) (ts : TS) (D : Ends) (σ : L2.St) (H : Hp) : Prop := ∃ n : Int, ws = [.int n] ∧ -(2 ^ 62) ≤ n ∧ n < 2 ^ 62 ∧ Turns (Itr 0 n.toNat) g ts D σ H
def LoopR2 (ws : List V) (g : TG) (ts : TS) (D : Ends) (σ : L2.St) (H : Hp) : Prop := ∃ m n : Int, ws = [.int m, .int n] ∧ (-(2 ^ 62) ≤ m ∧ m < 2 ^ 62 ∧ -(2 ^ 62) ≤ n ∧ n < 2 ^ 62) ∧ Turns (Itr m (n - m).toNat) g ts D σ H
def LoopL (K : PySem.W.Frag) (w : V) (g : TG) (ts : TS) (D : Ends) (σ : L2.St) (H : Hp) : Prop := ∃ a, w = .ref a ∧ (∃ xs, SqL K H a xs) ∧ Turns (Itl K a) g ts D σ H
def LoopT (K : PySem.W.Frag) (w : V) (g : TG) (ts : TS) (D : Ends) (σ : L2.St) (H : Hp) : Prop := ∃ a, w = .ref a ∧ (∃ xs, SqT K H a xs) ∧ Turns (Itt K a) g ts D σ H
theorem r_forR1 {ta : TA} (q : ta σ H fun ws H1 => LoopR1 ws g ts D σ H1) : tFor (iRng1 ta) g ts D σ H := q
theorem r_forR2 {ta : TA} (q : ta σ H fun ws H1 => LoopR2 ws g ts D σ H1) : tFor (iRng2 ta) g ts D σ H := q
theorem r_forL (q : te σ H fun w H1 => LoopL K w g ts D σ H1) : tFor (iList K te) g ts D σ H := q
theorem r_forT (q : te σ H fun w H1 => LoopT K w g ts D σ H1) : tFor (iTup K te) g ts D σ H := q
theorem loopR1 {n : Int} (h1 : n < 2 ^ 62) (Pv : Nat → L2.St → Hp → Prop) (h0 : Pv 0 σ H) (hs : ∀ (i : Nat) σ' H', (i : Int) < n → Pv i σ' H' → ts { D with nx := Pv (i + 1), ct := Pv (i + 1), bk := D.nx } (σ'.set j (some (.int (i : Int)))) H')
    (hd : ∀ σ' H', Pv n.toNat σ' H' → D.nx σ' H') (h2 : -(2 ^ 62) ≤ n := by omega) : LoopR1 [.int n] (gName j) ts D σ H :=
  ⟨n, rfl, h2, h1, for_range Pv h0 (fun i σ' H' hi p => by
    have e0 : (0 : Int) + (i : Int) = (i : Int) := Int.zero_add _
    show ts _ (σ'.set j (some (.int ((0 : Int) + (i : Int))))) H'
    rw [e0]
    exact hs i σ' H' (by omega) p) hd⟩
theorem loopR2 {m n : Int} (h : -(2 ^ 62) ≤ m ∧ m < 2 ^ 62 ∧ -(2 ^ 62) ≤ n ∧ n < 2 ^ 62) (Pv : Nat → L2.St → Hp → Prop) (h0 : Pv 0 σ H) (hs : ∀ (i : Nat) σ' H', m + (i : Int) < n → Pv i σ' H' → ts { D with nx := Pv (i + 1), ct := Pv (i + 1), bk := D.nx } (σ'.set j (some (.int (m + (i : Int))))) H')
    (hd : ∀ σ' H', Pv (n - m).toNat σ' H' → D.nx σ' H') : LoopR2 [.int m, .int n] (gName j) ts D σ H :=
  ⟨m, n, rfl, h, for_range Pv h0 (fun i σ' H' hi p => hs i σ' H' (by omega) p) hd⟩
theorem loopL {a : Addr} {xs : List V} (Pv : Nat → L2.St → Hp → Prop) (h0 : Pv 0 σ H) (hl : ∀ i σ' H', i ≤ xs.length → Pv i σ' H' → SqL K H' a xs)
    (hs : ∀ i x σ' H', xs[i]? = some x → Pv i σ' H' → g x σ' H' fun σ2 H2 => ts { D with nx := Pv (i + 1), ct := Pv (i + 1), bk := D.nx } σ2 H2) (hd : ∀ σ' H', Pv xs.length σ' H' → D.nx σ' H') : LoopL K (.ref a) g ts D σ H :=
  ⟨a, rfl, ⟨xs, hl 0 σ H (Nat.zero_le _) h0⟩, for_list Pv h0 hl hs hd⟩
theorem loopT {a : Addr} {xs : List V} (Pv : Nat → L2.St → Hp → Prop) (h0 : Pv 0 σ H) (hl : ∀ i σ' H', i ≤ xs.length → Pv i σ' H' → SqT K H' a xs)
    (hs : ∀ i x σ' H', xs[i]? = some x → Pv i σ' H' → g x σ' H' fun σ2 H2 => ts { D with nx := Pv (i + 1), ct := Pv (i + 1), bk := D.nx } σ2 H2) (hd : ∀ σ' H', Pv xs.length σ' H' → D.nx σ' H') : LoopT K (.ref a) g ts D σ H :=
  ⟨a, rfl, ⟨xs, hl 0 σ H (Nat.zero_le _) h0⟩, for_tup Pv h0 hl hs hd⟩
/-- while: the test is read, then the turn or the end -/
def WNext (Pv : Nat → L2.St → Hp → Prop) (m : Nat) (ts : TS) (D : Ends) (σ : L2.St) (H : Hp) : Prop := ∃ N : L2.St → Hp → Prop, (∀ σ' H', N σ' H' → ∃ m', m' < m ∧ Pv m' σ' H') ∧ ts { D with nx := N, ct := N, bk := D.nx } σ H
theorem wnext {Pv : Nat → L2.St → Hp → Prop} {m : Nat} (q : ts { D with nx := fun σ2 H2 => ∃ m', m' < m ∧ Pv m' σ2 H2, ct := fun σ2 H2 => ∃ m', m' < m ∧ Pv m' σ2 H2, bk := D.nx } σ H) : WNext Pv m ts D σ H := ⟨_, fun _ _ z => z, q⟩
theorem r_while {c : TT} (Pv : Nat → L2.St → Hp → Prop) (m0 : Nat) (h0 : Pv m0 σ H)
    (hs : ∀ m σ' H', Pv m σ' H' → c σ' H' fun b H1 => if b = true then WNext Pv m ts D σ' H1 else D.nx σ' H1) : tWhile c ts D σ H := ⟨Pv, ⟨m0, h0⟩, hs⟩
/-! comprehensions -/
def Comp (J : It) (g : TG) (tt : TT) (te : TE) (vs : List Nat) (σ : L2.St) (H1 : Hp) (Q : VK) : Prop := ∀ D, H1 D = none → ∃ W : Nat → Nat → Hp → Prop, (∃ m, W 0 m (upd H1 D (.lst []))) ∧ ∀ i m H, W i m H →
  (J.stop i H ∧ Q (.ref D) H) ∨ (J.go i H ∧ ∃ Nx : Hp → Prop, (∀ H', Nx H' → ∃ m', m' < m ∧ W (i + 1) m' H') ∧ ∀ x H', J.yld i H x H' → g x (wipe σ vs) H' fun σ2 H2 => wipe σ2 vs = wipe σ vs ∧ tt σ2 H2 fun b H3 =>
    if b = true then te σ2 H3 fun y H4 => ∃ acc, H4 D = some (.lst acc) ∧ acc.length < sizeLine ∧ Nx (upd H4 D (.lst (acc ++ [y]))) else Nx H3)
def CompR1 (ws : List V) (g : TG) (tt : TT) (te : TE) (vs : List Nat) (σ : L2.St) (H : Hp) (Q : VK) : Prop := ∃ n : Int, ws = [.int n] ∧ -(2 ^ 62) ≤ n ∧ n < 2 ^ 62 ∧ Comp (Itr 0 n.toNat) g tt te vs σ H Q
def CompR2 (ws : List V) (g : TG) (tt : TT) (te : TE) (vs : List Nat) (σ : L2.St) (H : Hp) (Q : VK) : Prop := ∃ m n : Int, ws = [.int m, .int n] ∧ (-(2 ^ 62) ≤ m ∧ m < 2 ^ 62 ∧ -(2 ^ 62) ≤ n ∧ n < 2 ^ 62) ∧ Comp (Itr m (n - m).toNat) g tt te vs σ H Q
def CompL (K : PySem.W.Frag) (w : V) (g : TG) (tt : TT) (te : TE) (vs : List Nat) (σ : L2.St) (H : Hp) (Q : VK) : Prop := ∃ a, w = .ref a ∧ (∃ xs, SqL K H a xs) ∧ Comp (Itl K a) g tt te vs σ H Q
def CompT (K : PySem.W.Frag) (w : V) (g : TG) (tt : TT) (te : TE) (vs : List Nat) (σ : L2.St) (H : Hp) (Q : VK) : Prop := ∃ a, w = .ref a ∧ (∃ xs, SqT K H a xs) ∧ Comp (Itt K a) g tt te vs σ H Q
theorem r_lcR1 {ta : TA} (q : ta σ H fun ws H1 => CompR1 ws g tt te vs σ H1 Q) : tLc (iRng1 ta) g tt te vs σ H Q := q
theorem r_lcR2 {ta : TA} (q : ta σ H fun ws H1 => CompR2 ws g tt te vs σ H1 Q) : tLc (iRng2 ta) g tt te vs σ H Q := q
theorem r_lcL (q : ta σ H fun w H1 => CompL K w g tt te vs σ H1 Q) : tLc (iList K ta) g tt te vs σ H Q := q
theorem r_lcT (q : ta σ H fun w H1 => CompT K w g tt te vs σ H1 Q) : tLc (iTup K ta) g tt te vs σ H Q := q
/-- a turn's end: the item y goes onto the new list -/
def CNext (D : Addr) (P : Nat → List V → Hp → Prop) (i : Nat) : VK := fun y H4 => ∃ acc, H4 D = some (.lst acc) ∧ acc.length < sizeLine ∧ ∃ acc', P (i + 1) acc' (upd H4 D (.lst (acc ++ [y]))) ∧ (upd H4 D (.lst (acc ++ [y]))) D = some (.lst acc') ∧ acc'.length = i + 1
theorem cnext {D' : Addr} {P : Nat → List V → Hp → Prop} {acc : List V} (h : H D' = some (.lst acc)) (hl : acc.length = i) (hi : i ≤ 100000) (p : P (i + 1) (acc ++ [y]) (upd H D' (.lst (acc ++ [y])))) : CNext D' P i y H :=
  ⟨acc, h, Nat.lt_of_le_of_lt (show acc.length ≤ 100000 by omega) (by decide), acc ++ [y], p, upd_same, by rw [List.length_append, hl]; rfl⟩
/-- no test; P: the new list's address, the turn, what it holds, the heap -/
theorem compR1 {n : Int} (hn : n ≤ 100000) (P : Addr → Nat → List V → Hp → Prop) (h0 : ∀ D, H D = none → P D 0 [] (upd H D (.lst [])))
    (hs : ∀ D (i : Nat) acc H', H D = none → (i : Int) < n → P D i acc H' → H' D = some (.lst acc) → acc.length = i → te ((wipe σ vs).set j (some (.int (i : Int)))) H' (CNext D (P D) i))
    (hd : ∀ D acc H', H D = none → P D n.toNat acc H' → H' D = some (.lst acc) → acc.length = n.toNat → Q (.ref D) H')
    (hw : ∀ x, wipe ((wipe σ vs).set j (some x)) vs = wipe σ vs := by intro _; rfl) (h2 : -(2 ^ 62) ≤ n := by omega) : CompR1 [.int n] (gName j) tYes te vs σ H Q := by
  refine ⟨n, rfl, h2, by omega, fun D hD => lc_range (lo := 0) (n := n.toNat) (fun i H' => ∃ acc, P D i acc H' ∧ H' D = some (.lst acc) ∧ acc.length = i) ⟨[], h0 D hD, upd_same, rfl⟩ (fun i H' hi p => ?_) (fun H' p => ?_)⟩
  · obtain ⟨acc, p, hD', hl⟩ := p
    have e0 : (0 : Int) + (i : Int) = (i : Int) := Int.zero_add _
    show wipe ((wipe σ vs).set j (some (.int ((0 : Int) + (i : Int))))) vs = wipe σ vs ∧ tYes ((wipe σ vs).set j (some (.int ((0 : Int) + (i : Int))))) H' _
    rw [e0]
    exact ⟨hw _, hs D i acc H' hD (by omega) p hD' hl⟩
  · obtain ⟨acc, p, hD', hl⟩ := p
    exact hd D acc H' hD p hD' hl
theorem compR2 {m n : Int} (hm : -(2 ^ 62) ≤ m ∧ m < 2 ^ 62 ∧ -(2 ^ 62) ≤ n ∧ n < 2 ^ 62) (hn : n - m ≤ 100000) (P : Addr → Nat → List V → Hp → Prop) (h0 : ∀ D, H D = none → P D 0 [] (upd H D (.lst [])))
    (hs : ∀ D (i : Nat) acc H', H D = none → m + (i : Int) < n → P D i acc H' → H' D = some (.lst acc) → acc.length = i → te ((wipe σ vs).set j (some (.int (m + (i : Int))))) H' (CNext D (P D) i))
    (hd : ∀ D acc H', H D = none → P D (n - m).toNat acc H' → H' D = some (.lst acc) → acc.length = (n - m).toNat → Q (.ref D) H')
    (hw : ∀ x, wipe ((wipe σ vs).set j (some x)) vs = wipe σ vs := by intro _; rfl) : CompR2 [.int m, .int n] (gName j) tYes te vs σ H Q := by
  refine ⟨m, n, rfl, hm, fun D hD => lc_range (lo := m) (n := (n - m).toNat) (fun i H' => ∃ acc, P D i acc H' ∧ H' D = some (.lst acc) ∧ acc.length = i) ⟨[], h0 D hD, upd_same, rfl⟩ (fun i H' hi p => ?_) (fun H' p => ?_)⟩
  · obtain ⟨acc, p, hD', hl⟩ := p
    exact ⟨hw _, hs D i acc H' hD (by omega) p hD' hl⟩
  · obtain ⟨acc, p, hD', hl⟩ := p
    exact hd D acc H' hD p hD' hl
theorem compL {a : Addr} {xs : List V} (hx : xs.length ≤ 100000) (P : Addr → Nat → List V → Hp → Prop) (hsq : SqL K H a xs) (h0 : ∀ D, H D = none → P D 0 [] (upd H D (.lst []))) (hl : ∀ D i acc H', H D = none → P D i acc H' → SqL K H' a xs)
    (hs : ∀ D i x acc H', H D = none → xs[i]? = some x → i < xs.length → P D i acc H' → H' D = some (.lst acc) → acc.length = i → g x (wipe σ vs) H' fun σ2 H2 => wipe σ2 vs = wipe σ vs ∧ te σ2 H2 (CNext D (P D) i))
    (hd : ∀ D acc H', H D = none → P D xs.length acc H' → H' D = some (.lst acc) → acc.length = xs.length → Q (.ref D) H') : CompL K (.ref a) g tYes te vs σ H Q := by
  refine ⟨a, rfl, ⟨xs, hsq⟩, fun D hD => lc_list (K := K) (a := a) (xs := xs) (fun i H' => ∃ acc, P D i acc H' ∧ H' D = some (.lst acc) ∧ acc.length = i) ⟨[], h0 D hD, upd_same, rfl⟩ (fun i H' _ p => ?_) (fun i x H' hi p => ?_) (fun H' p => ?_)⟩
  · obtain ⟨acc, p, _⟩ := p
    exact hl D i acc H' hD p
  · obtain ⟨acc, p, hD', hlen⟩ := p
    exact hs D i x acc H' hD hi (List.getElem?_eq_some_iff.mp hi).1 p hD' hlen
  · obtain ⟨acc, p, hD', hlen⟩ := p
    exact hd D acc H' hD p hD' hlen
theorem compT {a : Addr} {xs : List V} (hx : xs.length ≤ 100000) (P : Addr → Nat → List V → Hp → Prop) (hsq : SqT K H a xs) (h0 : ∀ D, H D = none → P D 0 [] (upd H D (.lst []))) (hl : ∀ D i acc H', H D = none → P D i acc H' → SqT K H' a xs)
    (hs : ∀ D i x acc H', H D = none → xs[i]? = some x → i < xs.length → P D i acc H' → H' D = some (.lst acc) → acc.length = i → g x (wipe σ vs) H' fun σ2 H2 => wipe σ2 vs = wipe σ vs ∧ te σ2 H2 (CNext D (P D) i))
    (hd : ∀ D acc H', H D = none → P D xs.length acc H' → H' D = some (.lst acc) → acc.length = xs.length → Q (.ref D) H') : CompT K (.ref a) g tYes te vs σ H Q := by
  refine ⟨a, rfl, ⟨xs, hsq⟩, fun D hD => lc_tup (K := K) (a := a) (xs := xs) (fun i H' => ∃ acc, P D i acc H' ∧ H' D = some (.lst acc) ∧ acc.length = i) ⟨[], h0 D hD, upd_same, rfl⟩ (fun i H' _ p => ?_) (fun i x H' hi p => ?_) (fun H' p => ?_)⟩
  · obtain ⟨acc, p, _⟩ := p
    exact hl D i acc H' hD p
  · obtain ⟨acc, p, hD', hlen⟩ := p
    exact hs D i x acc H' hD hi (List.getElem?_eq_some_iff.mp hi).1 p hD' hlen
  · obtain ⟨acc, p, hD', hlen⟩ := p
    exact hd D acc H' hD p hD' hlen
end
section
variable {K : PySem.W.Frag} {σ : L2.St} {H : Hp} {te : TE} {Q : VK} {D : Ends} {v x y : V} {ts : TS} {g : TG} {a b : Addr} {xs ys : List V}
def LoopZ (K : PySem.W.Frag) (ws : List V) (g : TG) (ts : TS) (D : Ends) (σ : L2.St) (H : Hp) : Prop := ∃ a b xs ys, ws = [.ref a, .ref b] ∧ SqL K H a xs ∧ SqL K H b ys ∧ Turns (Itz K a b) g ts D σ H
theorem r_forZ {ta : TA} (q : ta σ H fun ws H1 => LoopZ K ws g ts D σ H1) : tFor (iZip K ta) g ts D σ H := q
theorem loopZ (hl : xs.length = ys.length) (Pv : Nat → L2.St → Hp → Prop) (h0 : Pv 0 σ H) (hq : ∀ i σ H, Pv i σ H → SqL K H a xs ∧ SqL K H b ys)
    (hs : ∀ (i : Nat) (x y : V) (T : Addr) (σ : L2.St) (H : Hp), xs[i]? = some x → ys[i]? = some y → Pv i σ H → H T = none → g (.ref T) σ (upd H T (.tup [x, y])) fun σ2 H2 => ts { D with nx := Pv (i + 1), ct := Pv (i + 1), bk := D.nx } σ2 H2) (hd : ∀ σ H, Pv xs.length σ H → D.nx σ H) :
    LoopZ K [.ref a, .ref b] g ts D σ H := ⟨a, b, xs, ys, rfl, (hq _ _ _ h0).1, (hq _ _ _ h0).2, RZ.for_zipL hl Pv h0 hq hs hd⟩
theorem r_sl {r : V → Option Int → Option Int → Hp → VK → Prop} {tl th : TO} (q : te σ H fun x H1 => tl σ H1 fun l H2 => th σ H2 fun u H3 => r x l u H3 Q) : tSl r te tl th σ H Q := q
theorem r_noPart {R : Option Int → Hp → Prop} (q : R none H) : tNoPart σ H R := q
theorem r_part {R : Option Int → Hp → Prop} (q : te σ H fun x H1 => ∃ i, x = .int i ∧ R (some i) H1) : tPart te σ H R := q
theorem r_partI {n : Int} {R : Int → Prop} (q : R n) : ∃ i, V.int n = .int i ∧ R i := ⟨n, rfl, q⟩
theorem r_slT {lo hi : Option Int} (h : SqT K H a xs) (hw : ¬ (HT.sIx xs.length 0 lo = 0 ∧ HT.sIx xs.length xs.length hi = xs.length)) (q : ∀ p, H p = none → Q (.ref p) (upd H p (.tup (cutV xs lo hi)))) : rSlA K (.ref a) lo hi H Q := ⟨a, xs, rfl, h, fun z => absurd z hw, fun _ => q⟩
/-- a part of a tuple, whatever object it is -/
theorem r_slA {lo hi : Option Int} (h : SqT K H a xs) (q : ∀ p H', Same H H' → SqT K H' p (cutV xs lo hi) → Q (.ref p) H') : rSlA K (.ref a) lo hi H Q := by
  refine ⟨a, xs, rfl, h, fun hw => q a H (fun _ _ z => z) ?_, fun _ p hp => q p _ (fun c o e => ?_) (SqT.of upd_same)⟩
  · have e : cutV xs lo hi = xs := by
      unfold cutV
      rw [hw.1, hw.2, List.drop_zero, Nat.sub_zero, List.take_length]
    rw [e]; exact h
  · rw [upd_ne (ne_of_none e hp)]; exact e
theorem r_catA (h : SqT K H a xs) (h' : SqT K H b ys) (hl : xs.length + ys.length ≤ 1000) (q : ∀ p H', Same H H' → SqT K H' p (xs ++ ys) → Q (.ref p) H') : rCatA K (.ref a) (.ref b) H Q := by
  refine ⟨a, b, xs, ys, rfl, rfl, h, h', Nat.le_trans hl (by decide), fun e => q b H (fun _ _ z => z) ?_, fun _ e => q a H (fun _ _ z => z) ?_, fun _ _ p hp => q p _ (fun c o e => ?_) (SqT.of upd_same)⟩
  · rw [e]; exact h'
  · rw [e, List.append_nil]; exact h
  · rw [upd_ne (ne_of_none e hp)]; exact e
end
end G
/-! ### calls of a def with a star parameter; in a try or not -/
namespace G
open PySem PySem.Spec PyProof.Rows L2
section
variable {X : Cx} {CX : CXT} {k : Nat} {f : Addr} {sp : Sp} {E : L2.St → XK} {x : Str} {p pos : Pos} {e : Expr} {es : List Expr} {t : TA}
def tCallR (sp : Sp) (E : L2.St → XK) (t : TA) : TE := fun σ H Q => t σ H fun vs H1 => sp vs H1 Q (E σ)
theorem run_fnRS {pins : List (Addr × Obj)} {σ : L2.St} {H : Hp} {s : Shared} {Q : VK} {us : List Value} {vs : List V} (F : FnR X.prog X.w X.K X.mg X.base CX k f sp) (hr : Room k X.A) (hx : PassesAt CX X σ (E σ))
    (I : Inv X pins σ H s) (r : Vals vs us) (h : sp vs H Q (E σ)) : wpAny (model X.prog X.w) X.A (call (.ref f) us) (EP X pins σ Q) X.xe s := by
  refine wpAny_call (codeAny_mono (F X.A X.stack s H us vs Q (E σ) hr I.env0 r h) fun r s' hq => ?_)
  cases r with
  | error e => exact hx pins H s e s' I hq
  | ok fl =>
    cases fl with
    | ret u => exact I.after hq
    | next => exact False.elim hq
    | brk => exact False.elim hq
    | cont => exact False.elim hq
theorem pe_callR (F : FnR X.prog X.w X.K X.mg X.base CX k f sp) (hr : Room k X.A) (hg : Gl X x) (hm : X.mg x = some (.ref f)) (hk : PySem.W.keepIn X.K (.ref f) = true) (hx : ∀ σ, PassesAt CX X σ (E σ))
    (ha : PA X (e :: es) t) (hdb : (x == ("__debug__" : Str)) = false := by decide) (he : starEach (e :: es) X.env = (false, eval e X.env) :: starEach es X.env := by rfl) (hpl : (backTo pos (starEach es X.env)).any (·.1) = false := by rfl) :
    PE X (.Call (.Name x p) (e :: es) [] pos) (tCallR sp E t) := by
  refine ⟨fun pins s σ H Q I h => ?_⟩
  refine wpAny_Call_Name_kw (ld_glob I hg hm ?_ hdb)
  refine PySem.W.callWith_K (h₀ := X.base) I.ok.mod.kin hk (thn (ha.run pos pins s σ H _ I h) fun us s1 ⟨vs, H1, I1, r, q⟩ => ⟨I1.kIn, ?_⟩) he hpl
  exact run_fnRS F hr (hx σ) I1 r q
theorem pe_callR0 (F : FnR X.prog X.w X.K X.mg X.base CX k f sp) (hr : Room k X.A) (hg : Gl X x) (hm : X.mg x = some (.ref f)) (hk : PySem.W.keepIn X.K (.ref f) = true) (hx : ∀ σ, PassesAt CX X σ (E σ))
    (hdb : (x == ("__debug__" : Str)) = false := by decide) : PE X (.Call (.Name x p) [] [] pos) (tCallR sp E tNil) := by
  refine ⟨fun pins s σ H Q I h => ?_⟩
  refine wpAny_Call_Name_kw (ld_glob I hg hm ?_ hdb)
  exact PySem.W.callWith_K0 I.kIn hk (run_fnRS (us := []) F hr (hx σ) I .nil h)
theorem passAll {E : XK} (hx : Passes CX X E) : ∀ σ, PassesAt CX X σ ((fun _ => E) σ) := fun σ pins H s e s' I c => hx pins σ H s e s' I c
end
section
variable {σ : L2.St} {H : Hp} {Q : VK} {sp : Sp} {E : L2.St → XK} {t : TA}
theorem r_callR (q : t σ H fun vs H1 => sp vs H1 Q (E σ)) : tCallR sp E t σ H Q := q
end
end G
/-! ### rules with the written part K said -/
namespace G
open PySem PySem.Spec PyProof.Rows L2
section
variable {X : Cx} {K : PySem.W.Frag}
theorem kIxL (h : X.K = K := by rfl) : IxR X (rIxL K) := h ▸ ix_list
theorem kIxT (h : X.K = K := by rfl) : IxR X (rIxT K) := h ▸ ix_tup
theorem kLen (h : X.K = K := by rfl) : CallR X (.builtin "len") (rLn K) := h ▸ cLen
theorem kLstOf (h : X.K = K := by rfl) : CallR X (.type "list") (rLstOf K) := h ▸ cLstOf
theorem kTupOf (h : X.K = K := by rfl) : CallR X (.type "tuple") (rTupOf K) := h ▸ cTupOf
theorem kIsi (h : X.K = K := by rfl) : CallR X (.builtin "isinstance") (rIsi K) := h ▸ call_isi
theorem kIsiT (h : X.K = K := by rfl) : CallR X (.builtin "isinstance") (rIsiT K) := h ▸ call_isiT
theorem kSum (hc : X.calm = true) (h : X.K = K := by rfl) : CallR X (.builtin "sum") (rSum K) := h ▸ cr_sum hc
theorem kAll (hc : X.calm = true) (h : X.K = K := by rfl) : CallR X (.builtin "all") (rAll K) := h ▸ cr_all hc
theorem kAny (hc : X.calm = true) (h : X.K = K := by rfl) : CallR X (.builtin "any") (rAny K) := h ▸ cr_any hc
theorem kMaxL (hc : X.calm = true) (h : X.K = K := by rfl) : CallR X (.builtin "max") (rMax K) := h ▸ cr_max hc
theorem kMinL (hc : X.calm = true) (h : X.K = K := by rfl) : CallR X (.builtin "min") (rMin K) := h ▸ cr_min hc
theorem kEqD (hu : X.A.units + 64 < cLine) (h : X.K = K := by rfl) : OpR X (compareOp .Eq) (rEqD K) := h ▸ op_eqD hu
theorem kNeD (hu : X.A.units + 64 < cLine) (h : X.K = K := by rfl) : OpR X (compareOp .NotEq) (rNeD K) := h ▸ op_neD hu
theorem kIn (h : X.K = K := by rfl) : OpR X (compareOp .In) (rIn K false) := h ▸ op_in_seq
theorem kNotIn (h : X.K = K := by rfl) : OpR X (compareOp .NotIn) (rIn K true) := h ▸ op_notIn_seq
theorem kLtT (hu : X.A.units < cLine) (h : X.K = K := by rfl) : OpR X (compareOp .Lt) (rLtT K) := h ▸ op_ltT hu
theorem kLeT (hu : X.A.units < cLine) (h : X.K = K := by rfl) : OpR X (compareOp .LtE) (rLeT K) := h ▸ op_leT hu
theorem kCatT (h : X.K = K := by rfl) : OpR X (binaryOp .Add) (rCatA K) := h ▸ op_catA
theorem kSlT (h : X.K = K := by rfl) : SlR X (rSlA K) := h ▸ sl_tupA
theorem kSlL (h : X.K = K := by rfl) : SlR X (rSlL K) := h ▸ sl_list
theorem kTru {a : Expr} {ta : TE} (ha : PE X a ta) (h : X.K = K := by rfl) (he : ∀ whole, isTrue a X.env whole = (do let v ← whole; standAt a.pos; holding [v] (truthy v)) := by intro _; rfl) : PT X a (tTru K ta) := h ▸ pt_tru ha he
theorem kpiL {tg l : Expr} {tl : TE} (hl : PE X l tl) (h : X.K = K := by rfl) : PI X tg l (iList K tl) := h ▸ pi_list hl
theorem kpiT {tg l : Expr} {tl : TE} (hl : PE X l tl) (h : X.K = K := by rfl) : PI X tg l (iTup K tl) := h ▸ pi_tup hl
theorem kpiEnum {e : Expr} {ta : TA} {p pos tpos : Pos} {elts : List Expr} {kk : Nat} (hg : Gl X "enumerate") (hm : X.mg "enumerate" = none) (ha : PA X [e] ta) (h : X.K = K := by rfl) (hs : starEach [e] X.env = [(false, eval e X.env)] := by rfl) :
    PI X (.Tuple elts kk tpos) (.Call (.Name "enumerate" p) [e] [] pos) (iEnum K ta) := h ▸ pi_enum hg hm ha hs
theorem kpiZip {e e2 : Expr} {ta : TA} {p pos tpos : Pos} {elts : List Expr} {kk : Nat} (hg : Gl X "zip") (hm : X.mg "zip" = none) (ha : PA X [e, e2] ta) (h : X.K = K := by rfl)
    (hs : starEach [e, e2] X.env = (false, eval e X.env) :: starEach [e2] X.env := by rfl) (hpl : (backTo pos (starEach [e2] X.env)).any (·.1) = false := by rfl) :
    PI X (.Tuple elts kk tpos) (.Call (.Name "zip" p) [e, e2] [] pos) (iZip K ta) := h ▸ pi_zip hg hm ha hs hpl
theorem kpgTup {es : List Expr} {k : Nat} {t : TGs} {n : Nat} {pos : Pos} (hc : X.calm = true) (h : PGs X es t) (hK : X.K = K := by rfl)
    (hn : (assignEach es X.env).length = n := by rfl) (hst : (assignEach es X.env).findIdx? (·.1) = none := by rfl) : PG X (.Tuple es k pos) (gTup K n t) := hK ▸ pg_tup hc h hn hst
theorem kFld {o : Expr} {ta : TE} {f : Str} {p : Pos} (h : PE X (.Attribute o f p) (tFld X.K ta f)) (hK : X.K = K := by rfl) : PE X (.Attribute o f p) (tFld K ta f) := hK ▸ h
theorem kBM {e : Expr} {T : String} {r : V → List V → Hp → VK → Prop} {to : TE} {t : TA} (h : PE X e (tBM X.K T r to t)) (hK : X.K = K := by rfl) : PE X e (tBM K T r to t) := hK ▸ h
end
end G
namespace G
open PySem PySem.Spec PyProof.Rows L2
theorem kBM0 {X : Cx} {K : PySem.W.Frag} {e : Expr} {T : String} {r : V → List V → Hp → VK → Prop} {to : TE} (h : PE X e (tBM0 X.K T r to)) (hK : X.K = K := by rfl) : PE X e (tBM0 K T r to) := hK ▸ h
theorem kSFld {X : Cx} {K : PySem.W.Frag} {st : Stmt} {ta tv : TE} {f : Str} (h : PS X st (sFld X.K ta tv f)) (hK : X.K = K := by rfl) : PS X st (sFld K ta tv f) := hK ▸ h
end G
/-! ### data with a Lean type, at the layer's level -/
namespace G
open PySem PySem.Spec PyProof.Rows L2 PySem.W
/-- v holds x -/
def Hd {α : Type} [DecidableEq α] [Datum α] (K : PySem.W.Frag) (H : Hp) (v : V) (x : α) : Prop := Dp K H v (Datum.toD x)
def Hds {α : Type} [DecidableEq α] [Datum α] (K : PySem.W.Frag) (H : Hp) (vs : List V) (xs : List α) : Prop := DpAll K H vs (xs.map Datum.toD)
class Lay (α : Type) [DecidableEq α] [Datum α] : Prop where
  lay : ∀ a : α, (Datum.toD a).canLay0 = true
instance : Lay Int := ⟨fun _ => rfl⟩
instance : Lay Bool := ⟨fun _ => rfl⟩
instance : Lay Unit := ⟨fun _ => rfl⟩
section
variable {α β : Type} [DecidableEq α] [Datum α] [DecidableEq β] [Datum β]
theorem layAll [Lay α] : ∀ xs : List α, PyData.canLayAll0 (xs.map Datum.toD) = true
  | [] => rfl
  | x :: xs => by
    rw [List.map_cons, PyData.canLayAll0, Lay.lay x, layAll xs] <;> rfl
instance [Lay α] : Lay (List α) := ⟨fun xs => layAll xs⟩
instance [Lay α] : Lay (Tup α) := ⟨fun t => layAll t.items⟩
instance [Lay α] [Lay β] : Lay (α × β) := ⟨fun p => by
  show PyData.canLayAll0 [Datum.toD p.1, Datum.toD p.2] = true
  rw [PyData.canLayAll0, PyData.canLayAll0, Lay.lay p.1, Lay.lay p.2] <;> rfl⟩
theorem shapedD [Lay α] (x : α) (h : Datum.depth α ≤ 64) : SeqAt.shaped (Datum.toD x) = true := by
  unfold SeqAt.shaped
  rw [Lay.lay x, decide_eq_true (Nat.le_trans (Datum.depth_le x) h)] <;> rfl
end
section
variable {K : PySem.W.Frag} {H H' : Hp} {α β : Type} [DecidableEq α] [Datum α] [DecidableEq β] [Datum β]
mutual
theorem Dp.same (s : Same H H') : ∀ (d : PyData) (v : V), Dp K H v d → Dp K H' v d
  | .none, _, h => by cases h; exact .non
  | .bool b, _, h => by cases h; exact .bl b
  | .int i, _, h => by cases h; exact .int i
  | .str x, _, h => by cases h; exact .str x
  | .list ds, _, h => by
    cases h with
    | lst hs ha => exact .lst (s.seq hs) (DpAll.same s ds _ ha)
  | .tuple ds, _, h => by
    cases h with
    | tup hs ha =>
      refine .tup ?_ (DpAll.same s ds _ ha)
      rcases hs with (hs | ⟨o, hs⟩) | hs
      · exact .inl (.inl (s _ _ hs))
      · exact .inl (.inr ⟨o, s _ _ hs⟩)
      · exact .inr hs
  | .dict _, _, h => by cases h
theorem DpAll.same (s : Same H H') : ∀ (ds : List PyData) (vs : List V), DpAll K H vs ds → DpAll K H' vs ds
  | [], _, h => by cases h; exact .nil
  | d :: ds, _, h => by
    cases h with
    | cons h1 h2 => exact .cons (Dp.same s d _ h1) (DpAll.same s ds _ h2)
end
theorem Hd.same {v : V} {x : α} (h : Hd K H v x) (s : Same H H') : Hd K H' v x := Dp.same s _ _ h
theorem Hds.same {vs : List V} {xs : List α} (h : Hds K H vs xs) (s : Same H H') : Hds K H' vs xs := DpAll.same s _ _ h
/-- no tuple stands at l -/
def NotT (H : Hp) (l : Addr) : Prop := (∀ xs, H l ≠ some (.tup xs)) ∧ ∀ o xs, H l ≠ some (.frz o (.tup xs))
theorem notT_lst {l : Addr} (h : ∃ xs, H l = some (.lst xs)) : NotT H l := by
  obtain ⟨xs, h⟩ := h
  exact ⟨fun _ z => (by rw [h] at z; cases z), fun _ _ z => (by rw [h] at z; cases z)⟩
theorem notT_ins {l C dx : Addr} {fs : List (Str × V)} (h : H l = some (.ins C dx fs)) : NotT H l := ⟨fun _ z => (by rw [h] at z; cases z), fun _ _ z => (by rw [h] at z; cases z)⟩
theorem notT_none {l : Addr} (h : H l = none) : NotT H l := ⟨fun _ z => (by rw [h] at z; cases z), fun _ _ z => (by rw [h] at z; cases z)⟩
/-- no list within -/
class Imm (α : Type) [DecidableEq α] [Datum α] : Prop where
  imm : ∀ {K : PySem.W.Frag} {l : Addr} {H H' : Hp} {v : V} (a : α), Kp l H H' → NotT H l → Hd K H v a → Hd K H' v a
theorem sqT_kpT {l a : Addr} {xs : List V} (k : Kp l H H') (hl : NotT H l) (h : SqT K H a xs) : SqT K H' a xs := by
  rcases h with (h | ⟨o, h⟩) | h
  · exact .inl (.inl (k _ _ (fun z => by subst z; exact hl.1 _ h) h))
  · exact .inl (.inr ⟨o, k _ _ (fun z => by subst z; exact hl.2 _ _ h) h⟩)
  · exact .inr h
theorem sqT_kp {l a : Addr} {xs : List V} (k : Kp l H H') (hl : ∃ xs, H l = some (.lst xs)) (h : SqT K H a xs) : SqT K H' a xs := sqT_kpT k (notT_lst hl) h
instance : Imm Int := ⟨fun i _ _ h => by cases h; exact .int i⟩
instance : Imm Bool := ⟨fun i _ _ h => by cases h; exact .bl i⟩
instance : Imm Unit := ⟨fun _ _ _ h => by cases h; exact .non⟩
instance : Imm Str := ⟨fun i _ _ h => by cases h; exact .str i⟩
theorem immsT [Imm α] {l : Addr} (k : Kp l H H') (hl : NotT H l) : ∀ {xs : List α} {vs : List V}, Hds K H vs xs → Hds K H' vs xs
  | [], _, h => by cases h; exact .nil
  | x :: xs, _, h => by
    cases h with
    | cons h1 h2 => exact .cons (Imm.imm x k hl h1) (immsT (xs := xs) k hl h2)
theorem imms [Imm α] {l : Addr} (k : Kp l H H') (hl : ∃ xs, H l = some (.lst xs)) {xs : List α} {vs : List V} (h : Hds K H vs xs) : Hds K H' vs xs := immsT k (notT_lst hl) h
instance [Imm α] : Imm (Tup α) := ⟨fun t k hl h => by
  cases h with
  | tup hs ha => exact .tup (sqT_kpT k hl hs) (immsT (xs := t.items) k hl ha)⟩
instance [Imm α] [Imm β] : Imm (α × β) := ⟨fun p k hl h => by
  cases h with
  | tup hs ha =>
    cases ha with
    | cons h1 h2 =>
      cases h2 with
      | cons h2 h3 =>
        cases h3
        exact .tup (sqT_kpT k hl hs) (.cons (Imm.imm p.1 k hl h1) (.cons (Imm.imm p.2 k hl h2) .nil))⟩
theorem sqT_dr {l a : Addr} {xs : List V} (h : SqT K H a xs) (k : Kp l H H') (d : DrAt H l) : SqT K H' a xs := by
  obtain ⟨x, y, e, _⟩ := d
  exact sqT_kp k ⟨_, e⟩ h
theorem Hd.kp [Imm α] {l : Addr} {v : V} {x : α} (h : Hd K H v x) (k : Kp l H H') (d : DrAt H l) : Hd K H' v x := by
  obtain ⟨a, b, e, _⟩ := d
  exact Imm.imm x k (notT_lst ⟨_, e⟩) h
theorem Hds.kp [Imm α] {l : Addr} {vs : List V} {xs : List α} (h : Hds K H vs xs) (k : Kp l H H') (d : DrAt H l) : Hds K H' vs xs := by
  obtain ⟨a, b, e, _⟩ := d
  exact imms k ⟨_, e⟩ h
/-! how it is known, what it gives -/
theorem hd_int {i : Int} : Hd K H (.int i) i := .int i
theorem hd_bool {b : Bool} : Hd K H (.bl b) b := .bl b
theorem hd_list {a : Addr} {vs : List V} {xs : List α} (h : SqL K H a vs) (r : Hds K H vs xs) : Hd K H (.ref a) xs := .lst h r
theorem hd_tup {a : Addr} {vs : List V} {xs : List α} (h : SqT K H a vs) (r : Hds K H vs xs) : Hd K H (.ref a) (⟨xs⟩ : Tup α) := .tup h r
theorem hd_pair {a : Addr} {v w : V} {x : α} {y : β} (h : SqT K H a [v, w]) (r : Hd K H v x) (q : Hd K H w y) : Hd K H (.ref a) (x, y) := .tup h (.cons r (.cons q .nil))
theorem hds_nil : Hds K H [] ([] : List α) := .nil
theorem hds_cons {v : V} {vs : List V} {x : α} {xs : List α} (h : Hd K H v x) (r : Hds K H vs xs) : Hds K H (v :: vs) (x :: xs) := .cons h r
theorem hds_ints : ∀ ns : List Int, Hds K H (ns.map V.int) ns
  | [] => .nil
  | n :: ns => .cons (.int n) (hds_ints ns)
theorem Hd.int_eq {v : V} {i : Int} (h : Hd K H v i) : v = .int i := by cases h; rfl
theorem Hd.bool_eq {v : V} {b : Bool} (h : Hd K H v b) : v = .bl b := by cases h; rfl
theorem Hd.list_of {v : V} {xs : List α} (h : Hd K H v xs) : ∃ a vs, v = .ref a ∧ SqL K H a vs ∧ Hds K H vs xs := by
  cases h with
  | lst hs ha => exact ⟨_, _, rfl, hs, ha⟩
theorem Hd.tup_of {v : V} {t : Tup α} (h : Hd K H v t) : ∃ a vs, v = .ref a ∧ SqT K H a vs ∧ Hds K H vs t.items := by
  cases h with
  | tup hs ha => exact ⟨_, _, rfl, hs, ha⟩
theorem Hd.pair_of {v : V} {p : α × β} (h : Hd K H v p) : ∃ a x y, v = .ref a ∧ SqT K H a [x, y] ∧ Hd K H x p.1 ∧ Hd K H y p.2 := by
  cases h with
  | tup hs ha =>
    cases ha with
    | cons h1 h2 =>
      cases h2 with
      | cons h2 h3 =>
        cases h3
        exact ⟨_, _, _, rfl, hs, h1, h2⟩
theorem Hd.pt_of {v : V} {p : Int × Int} (h : Hd K H v p) : ∃ a, v = .ref a ∧ SqT K H a [.int p.1, .int p.2] := by
  obtain ⟨a, x, y, rfl, hs, h1, h2⟩ := h.pair_of
  rw [h1.int_eq, h2.int_eq] at hs
  exact ⟨a, rfl, hs⟩
theorem Hds.ints_eq : ∀ {vs : List V} {ns : List Int}, Hds K H vs ns → vs = ns.map V.int
  | _, [], h => by cases h; rfl
  | _, n :: ns, h => by
    cases h with
    | cons h1 h2 =>
      have e1 := Hd.int_eq (i := n) h1
      have e2 := Hds.ints_eq (ns := ns) h2
      rw [e1, e2]; rfl
theorem Hds.bools_eq : ∀ {vs : List V} {ns : List Bool}, Hds K H vs ns → vs = ns.map V.bl
  | _, [], h => by cases h; rfl
  | _, n :: ns, h => by
    cases h with
    | cons h1 h2 =>
      have e1 := Hd.bool_eq (b := n) h1
      have e2 := Hds.bools_eq (ns := ns) h2
      rw [e1, e2]; rfl
theorem hds_bools : ∀ ns : List Bool, Hds K H (ns.map V.bl) ns
  | [] => .nil
  | n :: ns => .cons (.bl n) (hds_bools ns)
theorem Hds.length : ∀ {vs : List V} {xs : List α}, Hds K H vs xs → vs.length = xs.length
  | _, [], h => by cases h; rfl
  | _, _ :: xs, h => by
    cases h with
    | cons h1 h2 => exact congrArg (· + 1) (Hds.length (xs := xs) h2)
theorem Hds.at : ∀ {vs : List V} {xs : List α} {i : Nat} {x : α}, Hds K H vs xs → xs[i]? = some x → ∃ v, vs[i]? = some v ∧ Hd K H v x
  | _, [], _, _, _, e => by simp at e
  | _, y :: xs, i, x, h, e => by
    cases h with
    | cons h1 h2 =>
      cases i with
      | zero =>
        have e' : y = x := by simpa using e
        subst e'
        exact ⟨_, rfl, h1⟩
      | succ i =>
        obtain ⟨v, e1, e2⟩ := Hds.at (xs := xs) (i := i) (x := x) h2 (by simpa using e)
        exact ⟨v, by simpa using e1, e2⟩
theorem Hds.at' {vs : List V} {xs : List α} {i : Nat} {v : V} (h : Hds K H vs xs) (e : vs[i]? = some v) : ∃ x, xs[i]? = some x ∧ Hd K H v x := by
  have hl := h.length
  have hi : i < vs.length := (List.getElem?_eq_some_iff.mp e).1
  obtain ⟨w, e1, e2⟩ := h.at (i := i) (x := xs[i]'(by omega)) (by simp)
  rw [e] at e1
  cases e1
  exact ⟨_, by simp, e2⟩
theorem Hds.append : ∀ {vs ws : List V} {xs ys : List α}, Hds K H vs xs → Hds K H ws ys → Hds K H (vs ++ ws) (xs ++ ys)
  | _, _, [], _, h, q => by cases h; exact q
  | _, _, x :: xs, _, h, q => by
    cases h with
    | cons h1 h2 => exact .cons h1 (Hds.append (xs := xs) h2 q)
theorem Hds.take : ∀ {vs : List V} {xs : List α} (n : Nat), Hds K H vs xs → Hds K H (vs.take n) (xs.take n)
  | _, _, 0, _ => .nil
  | _, [], n + 1, h => by cases h; exact .nil
  | _, x :: xs, n + 1, h => by
    cases h with
    | cons h1 h2 => exact .cons h1 (Hds.take (xs := xs) n h2)
theorem Hds.drop : ∀ {vs : List V} {xs : List α} (n : Nat), Hds K H vs xs → Hds K H (vs.drop n) (xs.drop n)
  | _, _, 0, h => h
  | _, [], n + 1, h => by cases h; exact .nil
  | _, x :: xs, n + 1, h => by
    cases h with
    | cons h1 h2 => exact Hds.drop (xs := xs) n h2
theorem Hds.reverse : ∀ {vs : List V} {xs : List α}, Hds K H vs xs → Hds K H vs.reverse xs.reverse
  | _, [], h => by cases h; exact .nil
  | _, x :: xs, h => by
    cases h with
    | cons h1 h2 =>
      rw [List.reverse_cons, List.reverse_cons]
      exact (Hds.reverse (xs := xs) h2).append (.cons h1 .nil)
/-- an item of a list at a place within it -/
theorem r_pickI {Q : VK} {p : Addr} {n : Int} (ns : List Int) (h : SqL K H p (ns.map V.int)) (h0 : 0 ≤ n) (h1 : n < ns.length) (q : ∀ z, z ∈ ns → Q (.int z) H) : rIxL K (.ref p) (.int n) H Q := by
  obtain ⟨j, rfl⟩ : ∃ j : Nat, n = (j : Int) := ⟨n.toNat, by omega⟩
  have hj : j < ns.length := by omega
  exact r_ixL h (atI_nat (by rw [List.getElem?_map, List.getElem?_eq_getElem hj]; rfl)) (q _ (List.getElem_mem hj))
theorem r_pick {Q : VK} {p : Addr} {n : Int} {xs : List V} (h : SqL K H p xs) (h0 : 0 ≤ n) (h1 : n < xs.length) (q : ∀ v, v ∈ xs → Q v H) : rIxL K (.ref p) (.int n) H Q := by
  obtain ⟨j, rfl⟩ : ∃ j : Nat, n = (j : Int) := ⟨n.toNat, by omega⟩
  have hj : j < xs.length := by omega
  exact r_ixL h (atI_nat (List.getElem?_eq_getElem hj)) (q _ (List.getElem_mem hj))
/-- a point, or not -/
inductive PtB (K : PySem.W.Frag) (H : Hp) : V → Bool → Prop where
  | yes {v : V} (p : Int × Int) : Hd K H v p → PtB K H v true
  | kind {v : V} {n : String} : Kd K H v n → n ≠ "tuple" → PtB K H v false
  | len {a : Addr} {xs : List V} : SqT K H a xs → xs.length ≠ 2 → PtB K H (.ref a) false
  | item {a : Addr} {x y : V} {m n : String} : SqT K H a [x, y] → Kd K H x m → Kd K H y n → (isI x && isI y) = false → PtB K H (.ref a) false
theorem PtB.same {v : V} {b : Bool} (h : PtB K H v b) (s : Same H H') : PtB K H' v b := by
  cases h with
  | yes p h => exact .yes p (h.same s)
  | kind h e => exact .kind (h.same s) e
  | len h e => exact .len (sqT_same s h) e
  | item h h1 h2 e => exact .item (sqT_same s h) (h1.same s) (h2.same s) e
/-- == of data -/
theorem r_eqH [Lay α] {x y : V} {a b : α} {Q : VK} (hx : Hd K H x a) (hy : Hd K H y b) (q : Q (.bl (decide (a = b))) H) (h : Datum.depth α ≤ 64 := by decide) : rEqD K x y H Q :=
  r_eqD hx hy (shapedD a h) (shapedD b h) (by rw [Datum.eqv]; exact q)
theorem r_neH [Lay α] {x y : V} {a b : α} {Q : VK} (hx : Hd K H x a) (hy : Hd K H y b) (q : Q (.bl (!decide (a = b))) H) (h : Datum.depth α ≤ 64 := by decide) : rNeD K x y H Q :=
  r_neD hx hy (shapedD a h) (shapedD b h) (by rw [Datum.eqv]; exact q)
end
def crs (p q : Int × Int) : Int := p.1 * q.2 - p.2 * q.1
def cont (p : Int × Int) : Int := ((Int.gcd p.1 p.2 : Nat) : Int)
/-- both coordinates have fewer than n bits -/
def PBd (n : Nat) (p : Int × Int) : Prop := Bd n p.1 ∧ Bd n p.2
section
variable {K : PySem.W.Frag} {H H' : Hp} {α : Type} [DecidableEq α] [PySem.W.Datum α] [PySem.W.SomeDatum α]
instance [Lay α] : Lay (Option α) := ⟨fun o => by
  cases o with
  | none => rfl
  | some a => exact Lay.lay a⟩
instance [Imm α] : Imm (Option α) := ⟨fun o k hl h => by
  cases o with
  | none => cases h; exact .non
  | some a => exact Imm.imm a k hl h⟩
/-- None or an integer -/
def optI : Option Int → V
  | none => .non
  | some i => .int i
theorem hd_optI (o : Option Int) : Hd K H (optI o) o := by
  cases o with
  | none => exact .non
  | some i => exact .int i
theorem hds_optI : ∀ os : List (Option Int), Hds K H (os.map optI) os
  | [] => .nil
  | o :: os => .cons (hd_optI o) (hds_optI os)
end
end G
/-! ### == and != of instances by an own __eq__ -/
namespace G
open PySem PySem.Spec PyProof.Rows L2
section
variable {M : Model} {prog : Program} {w : World} {A : Around} {E : Value → Shared → Prop} {s : Shared} {K : PySem.W.Frag} {x C f : Addr} {ox : Obj} {od : Option Obj} {b tb : Value}
theorem ifBound_ne {args : List Value} {Q : Option Value → Shared → Prop} (X : K.In s.heap) (I : PySem.W.InstAt s.heap x ox C od) (hs : PySem.W.findIn K (.ref C) "__ne__" = some (some (.builtin "object.__ne__")))
    (h : wpAny M A (call (.builtin "object.__ne__") (.ref x :: args)) (fun v => Q (some v)) E s) : wpAny M A (callSpecialIfBound? (.ref x) "__ne__" args) Q E s := by
  simp only [callSpecialIfBound?, bindSpecialIfBound?]
  refine wpAny_holding (wpAny_bind (wpAny_bind (wpAny_bind (I.type.here ((PySem.W.looks_findIn X hs).here ?_)))))
  refine wpAny_bind (wpAny_askSetting (wpAny_ite ?_))
  have fin : wpAny M A (call (.builtin "object.__ne__") ([.ref x] ++ args) >>= fun v => pure (some v)) Q E s := wpAny_bind (wpAny_mono h (fun v s' h' => wpAny_pure h') fun _ _ h' => h')
  split
  · exact wpAny_bind (wpAny_of_eq (F.cmp_object.ne.bind _) (wpAny_pure (by exact fin)))
  · exact wpAny_tryCatch (wpAny_bind (wpAny_of_eq (F.cmp_object.ne.bind _) (wpAny_pure (by exact fin))))
theorem objNe_at {Q : Fin → Shared → Prop} (X : K.In s.heap) (I : PySem.W.InstAt s.heap x ox C od) (hs : PySem.W.findIn K (.ref C) "__eq__" = some (some (.ref f))) (hf : PySem.W.isFn K (.ref f) = true) (hu : A.units < cLine)
    (hcall : wpAny (model prog w) A (call (.ref f) [.ref x, b]) (fun v s' => ∃ c, v = .bool c ∧ Q (.done (.ret (.bool (!c)))) s') E s) :
    wpAny (model prog w) A (Builtin.«object.__ne__» ⟨[.ref x, b], []⟩) Q E s := by
  unfold Builtin.«object.__ne__»
  repeat (first
    | with_reducible refine wpAny_cRoomFor hu ?_
    | (refine wpAny_bind (m := callSpecialIfBound? (.ref x) (Str.ofString "__eq__") [b])
        (PySem.W.ifBound_K X I hs hf (wpAny_mono hcall (fun r s' hr => by
          obtain ⟨c, rfl, hq⟩ := hr
          repeat (first | exact hq | exact wpAny_pure hq | exact wpAny_truthy_bool hq | (refine wpAny_bind (m := truthy (.bool _)) (wpAny_truthy_bool ?_)) | wp_step)) fun _ _ e => e)))
    | wp_step)
theorem ne_K {Q : Value → Shared → Prop} (hu : A.units + 1 < cLine) (X : K.In s.heap) (I : PySem.W.InstAt s.heap x ox C od) (hb : PySem.W.Looks (model prog w) s.heap (typeOf b) tb) (hn : PySem.W.notFirst K C tb = true)
    (hne : PySem.W.findIn K (.ref C) "__ne__" = some (some (.builtin "object.__ne__"))) (hs : PySem.W.findIn K (.ref C) "__eq__" = some (some (.ref f))) (hf : PySem.W.isFn K (.ref f) = true) (hm : PySem.W.mroIn K C (.type "object") = some true)
    (hcall : wpAny (model prog w) A.in1 (call (.ref f) [.ref x, b]) (fun v s' => ∃ c, v = .bool c ∧ Q (.bool (!c)) s') E s) : wpAny (model prog w) A (richCompare .NotEq (.ref x) b) Q E s := by
  have one : wpAny (model prog w) A (tryCompare (.ref x) (cmpInfo .NotEq).2.1 b) (fun r s' => ∃ v, r = some v ∧ Q v s') E s := by
    show wpAny (model prog w) A (tryCompare (.ref x) "__ne__" b) _ E s
    unfold tryCompare
    refine wpAny_bind (ifBound_ne X I hne (wpAny_call (codeAny_call_builtin F.cmp_object.ne.plain F.cmpEntry_ne (PySem.W.check_slot F.cmpKind_ne F.cmpSplit_ne (I.type.andThen (PySem.W.looks_mroIn X hm)) (F.cmpArgs_ne _ _)
      (objNe_at (A := A.in1) X I hs hf hu (wpAny_mono hcall (fun v s' hv => ?_) fun _ _ e => e))))))
    obtain ⟨c, rfl, hq⟩ := hv
    first | exact ⟨c, rfl, wpAny_pure ⟨_, rfl, hq⟩⟩ | exact ⟨c, rfl, wpAny_pure (wpAny_pure ⟨_, rfl, hq⟩)⟩ | exact ⟨c, rfl, ⟨_, rfl, hq⟩⟩
  unfold richCompare
  simp only [oneThing_ref]
  refine wpAny_holding (wpAny_bind (wpAny_cRoomFor (Nat.lt_of_succ_lt hu) ?_))
  refine wpAny_bind (I.type.here (wpAny_bind (hb.here ?_)))
  split
  · rename_i q
    have e : PySem.W.subIn K tb (.ref C) = some false := by
      rcases Bool.or_eq_true_iff.mp hn with e | e
      · rw [beq_iff_eq.mp e] at q; simp at q
      · exact beq_iff_eq.mp e
    refine wpAny_bind ((PySem.W.looks_subIn X e).here ?_)
    simp only [Bool.false_eq_true, if_false]
    refine wpAny_bind (wpAny_mono one (fun r s' z => ?_) fun _ _ e => e)
    obtain ⟨v, rfl, hq⟩ := z
    exact wpAny_pure hq
  · refine wpAny_bind (wpAny_pure ?_)
    simp only [Bool.false_eq_true, if_false]
    refine wpAny_bind (wpAny_mono one (fun r s' z => ?_) fun _ _ e => e)
    obtain ⟨v, rfl, hq⟩ := z
    exact wpAny_pure hq
end
/-- the class at C compares by its own __eq__ at f -/
structure OEq (K : PySem.W.Frag) (C f : Addr) : Prop where
  eq : PySem.W.findIn K (.ref C) "__eq__" = some (some (.ref f))
  fn : PySem.W.isFn K (.ref f) = true
  ne : PySem.W.findIn K (.ref C) "__ne__" = some (some (.builtin "object.__ne__"))
  ob : PySem.W.mroIn K C (.type "object") = some true
def oEqB (K : PySem.W.Frag) (C f : Addr) : Bool := He.eqO (PySem.W.findIn K (.ref C) "__eq__") (some (some (.ref f))) && (PySem.W.isFn K (.ref f) && (He.eqO (PySem.W.findIn K (.ref C) "__ne__") (some (some (.builtin "object.__ne__"))) && decide (PySem.W.mroIn K C (.type "object") = some true)))
theorem oEqB_ok {K : PySem.W.Frag} {C f : Addr} (c : oEqB K C f = true) : OEq K C f := by
  obtain ⟨c1, c⟩ := He.ba c
  obtain ⟨c2, c⟩ := He.ba c
  obtain ⟨c3, c4⟩ := He.ba c
  exact ⟨He.eqO_ok c1, c2, He.eqO_ok c3, of_decide_eq_true c4⟩
def rEqO (K : PySem.W.Frag) (C : Addr) (sp : Sp) (E : XK) : R2 := fun x y H Q => ∃ a dx fs t, x = .ref a ∧ H a = some (.ins C dx fs) ∧ TyX K H y t ∧ PySem.W.notFirst K C t = true ∧ sp [x, y] H (fun v H' => ∃ b, v = .bl b ∧ Q (.bl b) H') E
def rNeO (K : PySem.W.Frag) (C : Addr) (sp : Sp) (E : XK) : R2 := fun x y H Q => ∃ a dx fs t, x = .ref a ∧ H a = some (.ins C dx fs) ∧ TyX K H y t ∧ PySem.W.notFirst K C t = true ∧ sp [x, y] H (fun v H' => ∃ b, v = .bl b ∧ Q (.bl (!b)) H') E
section
variable {X : Cx} {CX : CXT} {n : Nat} {C f : Addr} {fd : FuncData} {ps : List Str} {sp : Sp} {E : XK} {K : PySem.W.Frag}
theorem run_eqO {A : Around} {pins : List (Addr × Obj)} {σ : L2.St} {H : Hp} {s : Shared} {Q : VK} {x y : V} {u v : Value} (F : FnOk X.prog X.w X.K X.mg X.base CX n f fd ps sp) (hr : Room n A) (e0 : Env0 X.prog X.w X.K X.mg X.base A X.stack s H) (hb : Binds X.K fd ps []) (hx : Passes CX X E)
    (I : Inv X pins σ H s) (rx : RelV x u) (ry : RelV y v) (h : sp [x, y] H Q E) : wpAny (model X.prog X.w) A (call (.ref f) [u, v]) (EP X pins σ Q) X.xe s := by
  have hl := F.len _ _ _ _ h
  refine wpAny_call (codeAny_mono (F.run A X.stack s H ⟨[u, v], []⟩ [u, v] [x, y] Q E hr e0 (by
    have := hb s [u, v] I.kIn (by simpa using hl)
    simpa using this) (.cons rx (.cons ry .nil)) h) fun r s' hq => ?_)
  cases r with
  | error e => exact hx pins σ H s e s' I hq
  | ok fl =>
    cases fl with
    | ret w => exact I.after hq
    | next => exact False.elim hq
    | brk => exact False.elim hq
    | cont => exact False.elim hq
theorem op_eqO (o : OEq X.K C f) (F : FnOk X.prog X.w X.K X.mg X.base CX n f fd ps sp) (hr : Room n X.A) (hb : Binds X.K fd ps []) (hx : Passes CX X E) (hK : X.K = K := by rfl) : OpR X (compareOp .Eq) (rEqO K C sp E) := by
  subst hK
  intro pins s σ H x y u v Q I rx ry h
  obtain ⟨a, dx, fs, t, rfl, ha, ty, hn, h⟩ := h
  obtain ⟨P, Z, p, _⟩ := kit_of I ry ty
  cases rx
  obtain ⟨mA, J, _⟩ := ins_get I.hok ha
  obtain ⟨od, J, _⟩ := J.look
  obtain ⟨m, hF⟩ := I.fr
  show wpAny (model X.prog X.w) X.A (richCompare .Eq (.ref a) v) (EP X pins σ Q) X.xe s
  refine PySem.W.cmp_K (op := .Eq) hr.units0 hF I.ok.mod.kin J (Z.ty _ _ I.kIn p) hn o.eq o.fn ?_
  refine thn (run_eqO (x := .ref a) F hr I.env0 hb hx I rfl ry h) fun r s' z => ?_
  obtain ⟨w, H', I', rw', b, rfl, q⟩ := z
  cases rw'
  exact ⟨.bl b, H', I', rfl, q⟩
theorem op_neO (o : OEq X.K C f) (F : FnOk X.prog X.w X.K X.mg X.base CX n f fd ps sp) (hr : Room (n + 1) X.A) (hb : Binds X.K fd ps []) (hx : Passes CX X E) (hK : X.K = K := by rfl) : OpR X (compareOp .NotEq) (rNeO K C sp E) := by
  subst hK
  intro pins s σ H x y u v Q I rx ry h
  obtain ⟨a, dx, fs, t, rfl, ha, ty, hn, h⟩ := h
  obtain ⟨P, Z, p, _⟩ := kit_of I ry ty
  cases rx
  obtain ⟨mA, J, _⟩ := ins_get I.hok ha
  obtain ⟨od, J, _⟩ := J.look
  show wpAny (model X.prog X.w) X.A (richCompare .NotEq (.ref a) v) (EP X pins σ Q) X.xe s
  have hu : X.A.units + 1 < cLine := Nat.lt_of_le_of_lt (Nat.add_le_add_left (by decide : 1 ≤ 64) _) hr.units
  refine ne_K hu I.kIn J (Z.ty _ _ I.kIn p) hn o.ne o.eq o.fn o.ob ?_
  refine thn (run_eqO (x := .ref a) F hr.in1 I.env0.in1 hb hx I rfl ry h) fun r s' z => ?_
  obtain ⟨w, H', I', rw', b, rfl, q⟩ := z
  cases rw'
  exact ⟨b, rfl, .bl (!b), H', I', rfl, q⟩
end
section
variable {K : PySem.W.Frag} {H : Hp} {Q : VK} {C a dx : Addr} {fs : List (Str × V)} {sp : Sp} {E : XK} {y : V} {t : Value}
theorem r_eqO (ha : H a = some (.ins C dx fs)) (ty : TyX K H y t) (hn : PySem.W.notFirst K C t = true) (q : sp [.ref a, y] H (fun v H' => ∃ b, v = .bl b ∧ Q (.bl b) H') E) : rEqO K C sp E (.ref a) y H Q := ⟨a, dx, fs, t, rfl, ha, ty, hn, q⟩
theorem r_neO (ha : H a = some (.ins C dx fs)) (ty : TyX K H y t) (hn : PySem.W.notFirst K C t = true) (q : sp [.ref a, y] H (fun v H' => ∃ b, v = .bl b ∧ Q (.bl (!b)) H') E) : rNeO K C sp E (.ref a) y H Q := ⟨a, dx, fs, t, rfl, ha, ty, hn, q⟩
end
end G
/-! ### methods, makings, class methods: the callee by a positional promise, its errors wished for at the caller's slots -/
namespace G
open PySem PySem.Spec PyProof.Rows L2
section
variable {X : Cx} {CX : CXT} {k i : Nat} {f C p g : Addr} {sp : Sp} {E : L2.St → XK} {x m : Str} {np pos apos : Pos} {o e : Expr} {es : List Expr} {ta : TE} {t : TA} {mc : Value}
def tMethA (C : Addr) (m : Str) (sp : Sp) (E : L2.St → XK) (ta : TE) (t : TA) : TE := fun σ H Q => ta σ H fun x H1 => ∃ a dx fs, x = .ref a ∧ H1 a = some (.ins C dx fs) ∧ fs.lookup m = none ∧ t σ H1 fun vs H2 => sp (x :: vs) H2 Q (E σ)
def tMakeA (C : Addr) (sp : Sp) (E : L2.St → XK) (t : TA) : TE := fun σ H Q => t σ H fun vs H1 => ∀ x dx, H1 x = none → H1 dx = none → dx ≠ x →
  sp (V.ref x :: vs) (upd (upd H1 dx (.own x)) x (.ins C dx [])) (fun v H2 => v = .non ∧ Q (.ref x) H2) (E σ)
def tMakeL (i : Nat) (C : Addr) (sp : Sp) (E : L2.St → XK) (t : TA) : TE := fun σ H Q => σ[i]? = some (some (.ref C)) ∧ t σ H fun vs H1 => ∀ x dx, H1 x = none → H1 dx = none → dx ≠ x →
  sp (V.ref x :: vs) (upd (upd H1 dx (.own x)) x (.ins C dx [])) (fun v H2 => v = .non ∧ Q (.ref x) H2) (E σ)
def tCMethA (C : Addr) (sp : Sp) (E : XK) (ta : TE) : TE := fun σ H Q => ta σ H fun x H1 => x = .ref C ∧ sp [.ref C] H1 Q E
theorem pe_methA {pl : Sem Bool} (he : PE X o ta) (c : Cls X.K C) (hm : Meth X.K C m f) (F : FnR X.prog X.w X.K X.mg X.base CX k f sp) (hr : Room k X.A) (hx : ∀ σ, PassesAt CX X σ (E σ)) (ha : PA X (e :: es) t)
    (hst : starEach (e :: es) X.env = (false, eval e X.env) :: starEach es X.env := by rfl) (hpl : (backTo pos (starEach es X.env)).any (·.1) = false := by rfl)
    (ht : eval (.Call (.Attribute o m apos) (e :: es) [] pos) X.env = (do
      let ov ← eval o X.env
      standAt apos.atName
      let (f, first) ← holding [ov] (getMethod ov m pl)
      callWith pos f first (backTo pos (starEach (e :: es) X.env)) (backToKw pos (keywordEach [] X.env))) := by rfl) :
    PE X (.Call (.Attribute o m apos) (e :: es) [] pos) (tMethA C m sp E ta t) := by
  refine ⟨fun pins s σ H Q I h => ?_⟩
  refine PySem.W.methodCall_KW (pl := pl) (thn (he.run pins s σ H _ I h) fun u s1 ⟨x, H1, I1, rx, a, dx, fs, ex, ea, l, q⟩ => ?_) ht
  subst ex
  obtain rfl : u = Value.ref a := rx
  refine getmeth_ok I1 ea c hm l ?_
  refine PySem.W.callWith_K (first := [.ref a]) (h₀ := X.base) I.ok.mod.kin hm.kp (thn (ha.run pos pins s1 σ H1 _ I1 q) fun us s2 ⟨vs, H2, I2, r, q2⟩ => ⟨I2.kIn, ?_⟩) hst hpl
  exact run_fnRS (us := .ref a :: us) (vs := .ref a :: vs) F hr (hx σ) I2 (.cons rfl r) q2
theorem pe_methA0 {pl : Sem Bool} (he : PE X o ta) (c : Cls X.K C) (hm : Meth X.K C m f) (F : FnR X.prog X.w X.K X.mg X.base CX k f sp) (hr : Room k X.A) (hx : ∀ σ, PassesAt CX X σ (E σ))
    (ht : eval (.Call (.Attribute o m apos) [] [] pos) X.env = (do
      let ov ← eval o X.env
      standAt apos.atName
      let (f, first) ← holding [ov] (getMethod ov m pl)
      callWith pos f first (backTo pos (starEach [] X.env)) (backToKw pos (keywordEach [] X.env))) := by rfl) :
    PE X (.Call (.Attribute o m apos) [] [] pos) (tMethA C m sp E ta tNil) := by
  refine ⟨fun pins s σ H Q I h => ?_⟩
  refine PySem.W.methodCall_KW (pl := pl) (thn (he.run pins s σ H _ I h) fun u s1 ⟨x, H1, I1, rx, a, dx, fs, ex, ea, l, q⟩ => ?_) ht
  subst ex
  obtain rfl : u = Value.ref a := rx
  refine getmeth_ok I1 ea c hm l ?_
  exact PySem.W.callWith_K0 (first := [.ref a]) I1.kIn hm.kp (run_fnRS (us := [.ref a]) (vs := [.ref a]) F hr (hx σ) I1 (.cons rfl .nil) q)
theorem run_makeA {pins : List (Addr × Obj)} {σ : L2.St} {H : Hp} {s : Shared} {Q : VK} {us : List Value} {vs : List V} (M : Mk X.K C f) (F : FnR X.prog X.w X.K X.mg X.base CX k f sp) (hr : Room (k + 1) X.A) (hx : PassesAt CX X σ (E σ)) (I : Inv X pins σ H s) (r : Vals vs us)
    (h : ∀ x dx, H x = none → H dx = none → dx ≠ x → sp (V.ref x :: vs) (upd (upd H dx (.own x)) x (.ins C dx [])) (fun v H2 => v = .non ∧ Q (.ref x) H2) (E σ)) :
    wpAny (model X.prog X.w) X.A (call (.ref C) us) (EP X pins σ Q) X.xe s := by
  have hq := h (s.heap.objs.size + 1) s.heap.objs.size (I.hok.fresh (Nat.le_succ _)) (I.hok.fresh (Nat.le_refl _)) (Nat.ne_of_lt (Nat.lt_succ_self _))
  have I2 := Inv.made (C := C) I
  have r2 : Vals (V.ref (s.heap.objs.size + 1) :: vs) (Value.ref (s.heap.objs.size + 1) :: us) := .cons rfl r
  refine wpAny_call (make_map (f := f) I.kIn M.makes M.init (beq_iff_eq.mp M.fn) (codeAny_mono (F _ X.stack _ _ (Value.ref (s.heap.objs.size + 1) :: us) _ _ (E σ) (hr.make C us []) (I2.env0.make C us []) r2 hq) fun r s' hq' => ?_))
  cases r with
  | error e => exact hx pins _ _ e s' I2 hq'
  | ok fl =>
    cases fl with
    | ret u =>
      obtain ⟨v, H', I3, rv, ev, q3⟩ := I2.after hq'
      subst ev
      exact ⟨rv, ⟨V.ref (s.heap.objs.size + 1), H', I3, rfl, q3⟩⟩
    | next => exact False.elim hq'
    | brk => exact False.elim hq'
    | cont => exact False.elim hq'
theorem pe_makeA (M : Mk X.K C f) (F : FnR X.prog X.w X.K X.mg X.base CX k f sp) (hr : Room (k + 1) X.A) (hg : Gl X x) (hm : X.mg x = some (.ref C)) (hx : ∀ σ, PassesAt CX X σ (E σ)) (ha : PA X (e :: es) t) (hdb : (x == ("__debug__" : Str)) = false := by decide)
    (he : starEach (e :: es) X.env = (false, eval e X.env) :: starEach es X.env := by rfl) (hpl : (backTo pos (starEach es X.env)).any (·.1) = false := by rfl) : PE X (.Call (.Name x np) (e :: es) [] pos) (tMakeA C sp E t) := by
  refine ⟨fun pins s σ H Q I h => ?_⟩
  refine wpAny_Call_Name_kw (ld_glob I hg hm ?_ hdb)
  refine PySem.W.callWith_K (h₀ := X.base) I.ok.mod.kin M.kp (thn (ha.run pos pins s σ H _ I h) fun us s1 ⟨vs, H1, I1, r, q⟩ => ⟨I1.kIn, ?_⟩) he hpl
  exact run_makeA M F hr (hx σ) I1 r q
theorem pe_makeL (M : Mk X.K C f) (F : FnR X.prog X.w X.K X.mg X.base CX k f sp) (hr : Room (k + 1) X.A) (hN : X.N[i]? = some x) (hv : Vis X.env.scope x) (hx : ∀ σ, PassesAt CX X σ (E σ)) (ha : PA X (e :: es) t) (hdb : (x == ("__debug__" : Str)) = false := by decide) (hcd : (x == ("__classdict__" : Str)) = false := by decide)
    (he : starEach (e :: es) X.env = (false, eval e X.env) :: starEach es X.env := by rfl) (hpl : (backTo pos (starEach es X.env)).any (·.1) = false := by rfl) : PE X (.Call (.Name x np) (e :: es) [] pos) (tMakeL i C sp E t) := by
  refine ⟨fun pins s σ H Q I h => ?_⟩
  obtain ⟨hs, ht⟩ := h
  refine wpAny_Call_Name_kw (thn ((pe_var (pos := np) hN hv hdb hcd).run pins s σ H (fun v H1 => v = .ref C ∧ H1 = H) I ⟨.ref C, hs, rfl, rfl⟩) fun u s1 ⟨v, H1, I1, r1, q1⟩ => ?_)
  obtain ⟨rfl, rfl⟩ := q1
  cases r1
  refine PySem.W.callWith_K (h₀ := X.base) I.ok.mod.kin M.kp (thn (ha.run pos pins s1 σ _ _ I1 ht) fun us s2 ⟨vs, H2, I2, r, q⟩ => ⟨I2.kIn, ?_⟩) he hpl
  exact run_makeA M F hr (hx σ) I2 r q
/-- C.m(), m a classmethod -/
theorem pe_cmeth0 {pl : Sem Bool} {E : XK} (he : PE X o ta) (r : ClX.CRead X.K C mc) (c : ClX.CMet X.K C mc m p g) (F : FnR X.prog X.w X.K X.mg X.base CX k g sp) (hr : Room k X.A) (hx : Passes CX X E)
    (ht : eval (.Call (.Attribute o m apos) [] [] pos) X.env = (do
      let ov ← eval o X.env
      standAt apos.atName
      let (f, first) ← holding [ov] (getMethod ov m pl)
      callWith pos f first (backTo pos (starEach [] X.env)) (backToKw pos (keywordEach [] X.env))) := by rfl) :
    PE X (.Call (.Attribute o m apos) [] [] pos) (tCMethA C sp E ta) := by
  refine ⟨fun pins s σ H Q I h => ?_⟩
  refine PySem.W.methodCall_KW (pl := pl) (thn (he.run pins s σ H _ I h) fun u s1 ⟨x, H1, I1, rx, ex, q⟩ => ?_) ht
  subst ex
  obtain rfl : u = Value.ref C := rx
  refine ClX.getmethcm_ok I1 r c fun s2 I2 => ?_
  exact PySem.W.callWith_M0 (first := []) ⟨ClX.pin_at I2, I2.kIn⟩ c.fi (ClX.run_cm (us := []) (vs := []) F hr hx I2 .nil q)
theorem kCVal {K : PySem.W.Frag} (he : PE X e ta) (hK : X.K = K := by rfl) (hb : attributeBase e m X.env (eval e X.env) = eval e X.env := by rfl) : PE X (.Attribute e m pos) (ClX.tCVal K ta m) := hK ▸ ClX.pe_cval he hb
end
section
variable {K : PySem.W.Frag} {σ : L2.St} {H : Hp} {Q : VK} {C a dx : Addr} {fs : List (Str × V)} {sp : Sp} {E : L2.St → XK} {ta : TE} {t : TA} {m : Str} {i : Nat} {D : Ends}
theorem r_methA (q : ta σ H fun x H1 => ∃ a dx fs, x = .ref a ∧ H1 a = some (.ins C dx fs) ∧ fs.lookup m = none ∧ t σ H1 fun vs H2 => sp (x :: vs) H2 Q (E σ)) : tMethA C m sp E ta t σ H Q := q
theorem r_recv {R : Prop} (h : H a = some (.ins C dx fs)) (hl : fs.lookup m = none) (q : R) : ∃ b dx fs, V.ref a = .ref b ∧ H b = some (.ins C dx fs) ∧ fs.lookup m = none ∧ R := ⟨a, dx, fs, rfl, h, hl, q⟩
theorem r_makeA (q : t σ H fun vs H1 => ∀ x dx, H1 x = none → H1 dx = none → dx ≠ x → sp (V.ref x :: vs) (upd (upd H1 dx (.own x)) x (.ins C dx [])) (fun v H2 => v = .non ∧ Q (.ref x) H2) (E σ)) : tMakeA C sp E t σ H Q := q
theorem r_makeL (h : σ[i]? = some (some (.ref C))) (q : t σ H fun vs H1 => ∀ x dx, H1 x = none → H1 dx = none → dx ≠ x → sp (V.ref x :: vs) (upd (upd H1 dx (.own x)) x (.ins C dx [])) (fun v H2 => v = .non ∧ Q (.ref x) H2) (E σ)) : tMakeL i C sp E t σ H Q := ⟨h, q⟩
theorem r_cmethA {E : XK} (q : ta σ H fun x H1 => x = .ref C ∧ sp [.ref C] H1 Q E) : tCMethA C sp E ta σ H Q := q
theorem r_cval {f : Str} (q : ta σ H fun x H1 => ∃ C mc v u, x = .ref C ∧ ClX.CRead K C mc ∧ ClX.CVal K C mc f v u ∧ Q v H1) : ClX.tCVal K ta f σ H Q := q
theorem r_prop {sp : Sp} {dvs : List V} {E : XK} (q : ta σ H fun x H1 => ∃ a dx fs, x = .ref a ∧ H1 a = some (.ins C dx fs) ∧ sp (.ref a :: dvs) H1 Q E) : tProp C sp dvs E ta σ H Q := q
theorem r_fld {f : Str} (q : ta σ H fun x H1 => ∃ a C dx fs v, x = .ref a ∧ H1 a = some (.ins C dx fs) ∧ Cls K C ∧ NoAttr K C f ∧ fs.lookup f = some v ∧ Q v H1) : tFld K ta f σ H Q := q
theorem r_sfld {f : Str} {tv : TE} (q : tv σ H fun y H1 => ta σ H1 fun x H2 => ∃ a C dx fs, x = .ref a ∧ H2 a = some (.ins C dx fs) ∧ Cls K C ∧ NoAttr K C f ∧ fs.length < 1000 ∧ D.nx σ (upd H2 a (.ins C dx (putF f y fs)))) : sFld K ta tv f D σ H := q
theorem r_fldAt {f : Str} {v : V} {R : V → Prop} (h : H a = some (.ins C dx fs)) (c : Cls K C) (n : NoAttr K C f) (l : fs.lookup f = some v) (q : R v) : ∃ b C dx fs v, V.ref a = .ref b ∧ H b = some (.ins C dx fs) ∧ Cls K C ∧ NoAttr K C f ∧ fs.lookup f = some v ∧ R v := ⟨a, C, dx, fs, v, rfl, h, c, n, l, q⟩
end
end G
/-! ### the head's facts by a list of tests -/
namespace G
open PySem PySem.Spec PyProof.Rows L2
def fdNo : FuncData := PySem.W.fnOf "" "" { posonlyargs := [], args := [], vararg := none, kwonlyargs := [], kw_defaults := [], kwarg := none, defaults := [] } [] { kind := .function, names := [], isGenerator := false, isCoroutine := false } .none .none .none .none none .none .none
def fdOf (K : PySem.W.Frag) (f : Addr) : FuncData := match K.lookup f with
  | some ⟨_, _, .func fd, _⟩ => fd
  | _ => fdNo
theorem defAt {K : PySem.W.Frag} {x qual : Str} {params : Arguments} {body : List Stmt} {scope : Scope} {dvs : List V} {kws : List (Str × V)} {f : Addr} (h : ∃ fd, FunD K x qual params body scope dvs kws f fd) : FunD K x qual params body scope dvs kws f (fdOf K f) := by
  obtain ⟨fd, F⟩ := h
  have e : fdOf K f = fd := by
    obtain ⟨oc, od, dV, kV, doc, pm, an, cdv, ct, osl, rfl, lk, _⟩ := F.ex
    unfold fdOf
    rw [lk]
  rw [e]
  exact F
/-- a def's words, whatever its closure -/
def fnB (K : PySem.W.Frag) (a : Addr) : He5.FnW := match K.lookup a with
  | some ⟨_, _, .func fd, _⟩ => some (fd.name, fd.qualname, fd.params, fd.body, fd.scope, fd.globals, [], fd.builtins)
  | _ => none
def obsM (fa : List (PySem.W.Frag → Bool)) (fn gs : List He5.DefA) (K : PySem.W.Frag) : He.AlD := ((fa.all fun f => f K) && fn.all fun d => d.ok K, (fn.map fun d => He5.fnA K (d.at_ K)) ++ gs.map fun d => fnB K (d.at_ K))
def valM (fn gs : List He5.DefA) : He.AlD := (true, fn.map He5.DefA.val ++ gs.map He5.DefA.val)
def SaysM (fa : List (PySem.W.Frag → Bool)) (fn gs : List He5.DefA) (K : PySem.W.Frag) : Prop := obsM fa fn gs K = valM fn gs
def obsMG (n : Nat) (fa : List (PySem.W.Frag → Bool)) (fn gs : List He5.DefA) (g : Addr → Option Obj) : He.AlD := obsM fa fn gs (He.frG g (He5.asA g n))
def hookM (n : Nat) (fa : List (PySem.W.Frag → Bool)) (fn gs : List He5.DefA) : PySem.W.Hook where
  α := He.AlD
  obs := fun s => obsMG n fa fn gs s.heap.get?
  val := fun _ => valM fn gs
  says := fun _ h => ∃ K : PySem.W.Frag, K.In h ∧ SaysM fa fn gs K
  of := fun _ _ e => ⟨_, He.frG_in, e⟩
  keeps := fun _ _ _ ⟨K, hK, c⟩ k => ⟨K, PySem.W.Frag.In.keeps hK k, c⟩
theorem obsMG_eq {n : Nat} {fa : List (PySem.W.Frag → Bool)} {fn gs : List He5.DefA} {g : Addr → Option Obj} {s : Shared} (h : ∀ a, g a = s.heap.get? a) : obsMG n fa fn gs g = (hookM n fa fn gs).obs s := by
  have e : g = s.heap.get? := funext h
  rw [e] <;> rfl
section
variable {fa : List (PySem.W.Frag → Bool)} {fn gs : List He5.DefA} {K : PySem.W.Frag}
theorem SaysM.fact (c : SaysM fa fn gs K) (i : Nat) {f : PySem.W.Frag → Bool} (h : fa[i]? = some f) : f K = true := by
  have c1 := (He.ba (show ((fa.all fun f => f K) && fn.all fun d => d.ok K) = true from congrArg (fun z : He.AlD => z.1) c)).1
  exact List.all_eq_true.mp c1 f (List.mem_of_getElem? h)
theorem SaysM.two (c : SaysM fa fn gs K) : fn.map (fun d => He5.fnA K (d.at_ K)) = fn.map He5.DefA.val ∧ gs.map (fun d => fnB K (d.at_ K)) = gs.map He5.DefA.val :=
  List.append_inj (congrArg (fun z : He.AlD => z.2) c) (by rw [List.length_map, List.length_map])
theorem SaysM.def_ (c : SaysM fa fn gs K) (i : Nat) {d : He5.DefA} (h : fn[i]? = some d) : ∃ fd, FunD K d.name d.qual d.params d.body d.scope (d.dvs K) (d.kws K) (d.at_ K) fd := by
  have c2 := (He.ba (show ((fa.all fun f => f K) && fn.all fun d => d.ok K) = true from congrArg (fun z : He.AlD => z.1) c)).2
  have e2 : (fn.map fun d => He5.fnA K (d.at_ K))[i]? = (fn.map He5.DefA.val)[i]? := by rw [c.two.1]
  rw [List.getElem?_map, List.getElem?_map, h] at e2
  exact He5.DefA.funD (Option.some.inj e2) (List.all_eq_true.mp c2 d (List.mem_of_getElem? h))
theorem SaysM.sup_ (c : SaysM fa fn gs K) (i : Nat) {d : He5.DefA} (h : gs[i]? = some d) : fnB K (d.at_ K) = d.val := by
  have e2 : (gs.map fun d => fnB K (d.at_ K))[i]? = (gs.map He5.DefA.val)[i]? := by rw [c.two.2]
  rw [List.getElem?_map, List.getElem?_map, h] at e2
  exact Option.some.inj e2
end
/-! ### own exceptions without __init__ -/
structure ExcF (K : PySem.W.Frag) (C : Addr) : Prop where
  x : PySem.W.excIn K C He.veBase "ValueError.__new__" = true
  k : PySem.W.keepIn K (.ref C) = true
  b : PySem.W.subIn K (.ref C) (.type "BaseException") = some true
  t : PySem.W.typeIn K (.ref C) = some (.type "type")
def excFB (K : PySem.W.Frag) (C : Addr) : Bool := PySem.W.excIn K C He.veBase "ValueError.__new__" && (PySem.W.keepIn K (.ref C) && (decide (PySem.W.subIn K (.ref C) (.type "BaseException") = some true) && decide (PySem.W.typeIn K (.ref C) = some (.type "type"))))
theorem excF_ok {K : PySem.W.Frag} {C : Addr} (c : excFB K C = true) : ExcF K C := by
  obtain ⟨c1, c⟩ := He.ba c
  obtain ⟨c2, c⟩ := He.ba c
  obtain ⟨c3, c4⟩ := He.ba c
  exact ⟨c1, c2, of_decide_eq_true c3, of_decide_eq_true c4⟩
end G
namespace G
open PySem PySem.Spec PyProof.Rows L2
/-- a law's promise -/
def sp_law (K : PySem.W.Frag) : Sp := fun vs H Q _ => ∃ (a : Addr) (ns : List Int), vs = [.ref a] ∧ SqL K H a (ns.map V.int) ∧ ns.length ≤ 63 ∧ ∀ H', Q (.bl true) H'
end G
/-! ### classes: facts read off the head -/
namespace G
open PySem PySem.Spec PyProof.Rows L2
/-- f is a property of the class at C (found at D): its getter -/
def propB (K : PySem.W.Frag) (C D : Addr) (f : Str) : Bool := He.eqO (PySem.W.findIn K (.ref C) f) (some (some (.ref (He.ma K D f)))) && (He.eqO (PySem.W.specialIn K (.ref (He.ma K D f)) "__get__") (some (some (.builtin "property.__get__"))) &&
  (decide (PySem.W.takesIn K (.ref (He.ma K D f)) = some true) && (match PySem.W.recIn K (He.ma K D f) "property" with
    | some (.ref _ :: _) => true
    | _ => false)))
theorem propB_ok {K : PySem.W.Frag} {C D : Addr} {f : Str} (c : propB K C D f = true) : PropOf K C f (He.ma K D f) (He5.wf K D "property" f) := by
  obtain ⟨c1, c⟩ := He.ba c
  obtain ⟨c2, c⟩ := He.ba c
  obtain ⟨c3, c4⟩ := He.ba c
  refine ⟨He.eqO_ok c1, He.eqO_ok c2, of_decide_eq_true c3, ?_⟩
  unfold He5.wf
  split at c4
  · rename_i g rest e
    rw [e]
    exact ⟨rest, rfl⟩
  · cases c4
/-- m is a method of the class at C, found at D -/
def methB (K : PySem.W.Frag) (C D : Addr) (m : Str) : Bool := He.eqO (PySem.W.findIn K (.ref C) m) (some (some (.ref (He.ma K D m)))) && (PySem.W.isFn K (.ref (He.ma K D m)) && PySem.W.keepIn K (.ref (He.ma K D m)))
theorem methB_ok {K : PySem.W.Frag} {C D : Addr} {m : Str} (c : methB K C D m = true) : Meth K C m (He.ma K D m) := by
  obtain ⟨c1, c⟩ := He.ba c
  obtain ⟨c2, c3⟩ := He.ba c
  exact ⟨He.eqO_ok c1, c2, c3⟩
def creadB (K : PySem.W.Frag) (C : Addr) : Bool := PySem.W.readsIn K C (.type "type") && He.eqO (PySem.W.specialIn K (.ref C) "__getattribute__") (some (some (.builtin "type.__getattribute__")))
theorem creadB_ok {K : PySem.W.Frag} {C : Addr} (c : creadB K C = true) : ClX.CRead K C (.type "type") := by
  obtain ⟨c1, c2⟩ := He.ba c
  exact ⟨c1, He.eqO_ok c2⟩
def cmetB (K : PySem.W.Frag) (C : Addr) (m : Str) : Bool := He5.wrapB K C "classmethod" "classmethod.__get__" m && PySem.W.fnIn K (He5.wf K C "classmethod" m)
theorem cmetB_ok {K : PySem.W.Frag} {C : Addr} {m : Str} (c : cmetB K C m = true) : ClX.CMet K C (.type "type") m (He.ma K C m) (He5.wf K C "classmethod" m) := by
  obtain ⟨c1, c2⟩ := He.ba c
  exact He5.cmet_of c1 c2
def cvalB (K : PySem.W.Frag) (C : Addr) (f : Str) (v : V) : Bool := match PySem.W.findCls K (.ref C) (.type "type") f with
  | some (.val u) => He.relB v u
  | _ => false
theorem cvalB_ok {K : PySem.W.Frag} {C : Addr} {f : Str} {v : V} (c : cvalB K C f v = true) : ∃ u, ClX.CVal K C (.type "type") f v u := by
  unfold cvalB at c
  split at c
  · rename_i u e
    exact ⟨u, e, He.relB_ok c⟩
  · cases c
/-- an instance of the class at C has that type -/
structure InsTy (K : PySem.W.Frag) (C : Addr) : Prop where
  cl : Cls K C
  ha : PySem.W.findIn K (.ref C) "__class__" = some (some (.builtin "object.__class__"))
  hn : PySem.W.specialIn K (.builtin "object.__class__") "__get__" = some (some (.builtin "getset_descriptor.__get__"))
  tk : PySem.W.takesIn K (.builtin "object.__class__") = some true
  ob : PySem.W.mroIn K C (.type "object") = some true
theorem InsTy.ty {K : PySem.W.Frag} {C a dx : Addr} {H : Hp} {fs : List (Str × V)} (t : InsTy K C) (h : H a = some (.ins C dx fs)) : TyX K H (.ref a) (.ref C) := .base (.ins h t.cl t.ha t.hn t.tk t.ob)
def insTyB (K : PySem.W.Frag) (C : Addr) : Bool := PySem.W.plainGet K C Str.empty && (PySem.W.hasDictIn K C && (PySem.W.plainOver K C && (He.eqO (PySem.W.findIn K (.ref C) "__setattr__") (some (some (.builtin "object.__setattr__"))) &&
  (He.eqO (PySem.W.findIn K (.ref C) "__class__") (some (some (.builtin "object.__class__"))) && (He.eqO (PySem.W.specialIn K (.builtin "object.__class__") "__get__") (some (some (.builtin "getset_descriptor.__get__"))) &&
  (decide (PySem.W.takesIn K (.builtin "object.__class__") = some true) && decide (PySem.W.mroIn K C (.type "object") = some true)))))))
theorem insTyB_ok {K : PySem.W.Frag} {C : Addr} (c : insTyB K C = true) : InsTy K C := by
  obtain ⟨c1, c⟩ := He.ba c
  obtain ⟨c2, c⟩ := He.ba c
  obtain ⟨c3, c⟩ := He.ba c
  obtain ⟨c4, c⟩ := He.ba c
  obtain ⟨c5, c⟩ := He.ba c
  obtain ⟨c6, c⟩ := He.ba c
  obtain ⟨c7, c8⟩ := He.ba c
  exact ⟨⟨c1, c2, c3, He.eqO_ok c4⟩, He.eqO_ok c5, He.eqO_ok c6, of_decide_eq_true c7, of_decide_eq_true c8⟩
/-- isinstance of a value of type t against the class at C -/
def isiB (K : PySem.W.Frag) (t u : Value) (b : Bool) : Bool := decide (PySem.W.kitOne K t u = some b)
theorem isiB_ok {K : PySem.W.Frag} {t u : Value} {b : Bool} (c : isiB K t u b = true) : PySem.W.kitOne K t u = some b := of_decide_eq_true c
/-- no value of a built-in kind is an instance of the class at C; none is compared ahead of it -/
def kitNoB (K : PySem.W.Frag) (C : Addr) : Bool := kds.all fun k => isiB K (.type k) (.ref C) false && PySem.W.notFirst K C (.type k)
theorem kitNoB_ok {K : PySem.W.Frag} {C : Addr} (c : kitNoB K C = true) : ∀ k ∈ kds, PySem.W.kitOne K (.type k) (.ref C) = some false := fun k hk => isiB_ok (Bool.and_eq_true_iff.mp (List.all_eq_true.mp c k hk)).1
theorem kitNoB_nf {K : PySem.W.Frag} {C : Addr} (c : kitNoB K C = true) : ∀ k ∈ kds, PySem.W.notFirst K C (.type k) = true := fun k hk => (Bool.and_eq_true_iff.mp (List.all_eq_true.mp c k hk)).2
def mkB (K : PySem.W.Frag) (C f : Addr) : Bool := PySem.W.makesIn K C && (He.eqO (PySem.W.findIn K (.ref C) "__init__") (some (some (.ref f))) && (PySem.W.isFn K (.ref f) && PySem.W.keepIn K (.ref C)))
theorem mkB_ok {K : PySem.W.Frag} {C f : Addr} (c : mkB K C f = true) : Mk K C f := by
  obtain ⟨c1, c⟩ := He.ba c
  obtain ⟨c2, c⟩ := He.ba c
  obtain ⟨c3, c4⟩ := He.ba c
  exact ⟨c1, He.eqO_ok c2, c3, c4⟩
end G
/-! ### in-place operators; != of lists of instances with an own __eq__ -/
namespace G
open PySem PySem.Spec PyProof.Rows L2
section
variable {X : Cx}
theorem kpgLst {K : PySem.W.Frag} {es : List Expr} {k : Nat} {t : TGs} {n : Nat} {pos : Pos} (hc : X.calm = true) (h : PGs X es t) (hK : X.K = K := by rfl)
    (hn : (assignEach es X.env).length = n := by rfl) (hst : (assignEach es X.env).findIdx? (·.1) = none := by rfl) : PG X (.Tuple es k pos) (gLst K n t) := hK ▸ pg_lst hc h hn hst
theorem r_glst {K : PySem.W.Frag} {k : Nat} {t : TGs} {p : Addr} {xs : List V} {σ : L2.St} {H : Hp} {R : L2.St → Hp → Prop} (h : SqL K H p xs) (q : t xs σ H R) (hl : xs.length = k := by rfl) : gLst K k t (.ref p) σ H R := ⟨p, xs, rfl, h, hl, q⟩
theorem ip_fdiv : PIp X .FloorDiv (rI CDivW fun i j => .int (i / j)) := by
  intro pins s σ H x y v u Q I r1 r2 h
  obtain ⟨i, j, e1, e2, hc, q⟩ := h
  subst e1; subst e2; obtain ⟨t, rfl⟩ := r1; obtain ⟨t', rfl⟩ := r2
  have h1 : (0 : Int) < j := hc.1
  exact ifloordiv_int (by omega) (by rw [Int.fdiv_eq_ediv_of_nonneg i (by omega)]; exact ⟨.int _, H, I.tok _, ⟨_, rfl⟩, q⟩) (.inl (PyProof.noPylong_of_log2 hc.2))
end
section
open PySem.SeqAt AutoSeq1 MeetsSeq MeetsSeq2 MeetsSeq3 SeqRoads2
variable {prog : Program} {w : World} {A : Around} {R : Result → Shared → Prop}
theorem ne_loopO (l b : Addr) (N : Nat) (I : Nat → Shared → Prop) (hl : GQ.ListI prog w A (fun e s' => R (.error e) s') l b N I) (fin : ∀ s, I N s → R (.ok (.ret (.bool false))) s) (k : Nat) :
    ∀ i : Nat, N - i = k → i ≤ N → ∀ s, I i s → wpAny (model prog w) A.in1 (Builtin.«list.__eq__.loop» ⟨[.ref l, .ref b, rawInt i, rawInt 3], []⟩) (GQ.FinOf prog w A R) (fun e s' => R (.error e) s') s := by
  induction k with
  | zero =>
    intro i hk hi s h
    obtain ⟨xs, ys, n, n2, gx, gy, sx, sy, _⟩ := hl _ _ h
    have hi' : i = N := by omega
    have hR : R (.ok (.ret (.bool false))) s := fin s (hi' ▸ h)
    obtain ⟨hp, g, d, tk, os⟩ := s; wp_walk using AutoSeq1.wpAny_loadPart' gx, AutoSeq1.wpAny_loadPart' gy
    have hx : xs[((i : Nat) : Int).toNat]? = none := by simp; omega
    have hy : ys[((i : Nat) : Int).toNat]? = none := by simp; omega
    rw [hx, hy]; wp_walk using AutoSeq1.wpAny_loadPart' gx, AutoSeq1.wpAny_loadPart' gy
    show R (.ok (.ret (.bool (xs.size != ys.size)))) _
    rw [sx, sy]
    simpa using hR
  | succ k ih =>
    intro i hk hi s h
    obtain ⟨xs, ys, n, n2, gx, gy, sx, sy, turn⟩ := hl _ _ h
    have lx : i < xs.size := by omega
    have ly : i < ys.size := by omega
    have ht := turn lx ly
    obtain ⟨hp, g, d, tk, os⟩ := s; wp_walk using AutoSeq1.wpAny_loadPart' gx, AutoSeq1.wpAny_loadPart' gy
    have hx : xs[((i : Nat) : Int).toNat]? = some xs[i] := by simp [lx]
    have hy : ys[((i : Nat) : Int).toNat]? = some ys[i] := by simp [ly]
    have hc : ((i : Int) + 1) = ((i + 1 : Nat) : Int) := by push_cast; rfl
    rw [hx, hy]; refine wpAny_bind (wpAny_mono ht (fun r s2 h2 => ?_) fun _ _ x => x)
    obtain ⟨hr, h2⟩ := h2
    subst hr; have hrec := ih (i + 1) (by omega) (by omega) s2 h2
    obtain ⟨hp2, g2, d2, tk2, os2⟩ := s2; wp_walk
    rw [hc]; exact ⟨plainId_quiet plain_eq_loop _, codeAny_builtin entry_eq_loop (by rw [Around.under_plainId plain_eq_loop _]; exact hrec)⟩
theorem list_neO (l b : Addr) (N : Nat) (I : Nat → Shared → Prop) (hl : GQ.ListI prog w A (fun e s' => R (.error e) s') l b N I) (fin : ∀ s, I N s → R (.ok (.ret (.bool false))) s) {s : Shared} (h : I 0 s) :
    wpAny (model prog w) A.in1 (Builtin.«list.__ne__» ⟨[.ref l, .ref b], []⟩) (GQ.FinOf prog w A R) (fun e s' => R (.error e) s') s := by
  obtain ⟨xs, ys, n, n2, gx, gy, sx, sy, _⟩ := hl _ _ h
  have hrec := ne_loopO (A := A) (R := R) l b N I hl fin _ 0 rfl (Nat.zero_le _) s h
  obtain ⟨hp, g, d, tk, os⟩ := s; have f3 := AutoSeq1.sub_list_list
  have hne : ¬ (xs.size != ys.size) = true := by simp [sx, sy]
  wp_walk using AutoSeq1.wpAny_loadPart' gx, AutoSeq1.wpAny_loadPart' gy
  exact ⟨plainId_quiet plain_eq_loop _, codeAny_builtin entry_eq_loop (by rw [Around.under_plainId plain_eq_loop _]; exact hrec)⟩
theorem rc_neO {E : Value → Shared → Prop} {s : Shared} {l b : Addr} {N : Nat} {Q : Value → Shared → Prop} (hu : A.units < cLine) (I : Nat → Shared → Prop) (hl : GQ.ListI prog w A E l b N I)
    (fin : ∀ s, I N s → Q (.bool false) s) (h : I 0 s) : wpAny (model prog w) A (richCompare .NotEq (.ref l) (.ref b)) Q E s := by
  obtain ⟨xs, ys, n, n2, gx, gy, _, _, _⟩ := hl _ _ h
  refine wpAny_richCompare_same_room (op := .NotEq) ⟨_, gx, rfl⟩ ⟨_, gy, rfl⟩ F.slot_list_ne (GQ.call_here F.slot_list_ne ⟨_, gx, rfl⟩ F.entry_list_ne (F.args_list_ne_2 _ _) ?_) hu
  exact list_neO (R := wants (fun v s' => v ≠ .notImplemented ∧ Q v s') E) l b N I hl (fun s' q => ⟨(fun x => nomatch x), fin s' q⟩) h
end
/-- the two are equal, by D -/
def rNeLO (D : Eqv) : R2 := fun x y H Q => DList D x y H ∧ ∀ H', Same H H' → Q (.bl false) H'
theorem op_neLO {X : Cx} {n : Nat} {D : Eqv} (hD : Mon D) (h : EqG X n D) (hr : Room (n + 1) X.A) : OpR X (compareOp .NotEq) (rNeLO D) := by
  intro pins s σ H x y v u Q I rx ry hq
  obtain ⟨⟨a, b, xs, ys, rfl, rfl, ha, hb, p⟩, q⟩ := hq
  cases rx; cases ry
  show wpAny (model X.prog X.w) X.A (richCompare .NotEq (.ref a) (.ref b)) (EP X pins σ Q) X.xe s
  refine rc_neO (N := xs.length) hr.units0 (fun _ s' => LoopI X pins σ H s') (fun i s' q => ?_) (fun s' ⟨H', I', e⟩ => ⟨.bl false, H', I', rfl, q H' e⟩) ⟨H, I, Ext.rfl'⟩
  obtain ⟨H1, I1, e1⟩ := id q
  obtain ⟨z, its, k, r, e⟩ := I1.hok a _ (e1 _ _ ha)
  obtain ⟨z2, its2, k2, r2, e2⟩ := I1.hok b _ (e1 _ _ hb)
  exact ⟨its.toArray, its2.toArray, k, k2, e, e2, by rw [List.size_toArray, ← r.length], by rw [List.size_toArray, ← r2.length, ← p.1], fun h1 h2 => turnG hD h ⟨hr, rfl⟩ p r r2 i h1 h2 s' q⟩
theorem r_neLO {D : Eqv} {H : Hp} {a b : Addr} {xs ys : List V} {Q : VK} (ha : H a = some (.lst xs)) (hb : H b = some (.lst ys)) (p : Prs D xs ys H) (q : ∀ H', Same H H' → Q (.bl false) H') : rNeLO D (.ref a) (.ref b) H Q := ⟨⟨a, b, xs, ys, rfl, rfl, ha, hb, p⟩, q⟩
end G
/-! ### code proved at the layer leaves sleeping generators alone -/
namespace G
open PySem L2 PyProof.Rows
open Sem (wp)
/-- a continuation that cannot go on -/
def iceK : Resume → Sem PySem.Fin := fun _ => .unsupported "ice"
/-- a sleeper that cannot be woken; it looks alike -/
def ice : GenState → GenState
  | .suspended _ l c p fs cl => .suspended iceK l c p fs cl
  | x => x
def slp : GenState → Bool
  | .suspended .. => true
  | _ => false
def thawAt (Y : Array GenState) (i : Nat) (x : GenState) : GenState := match Y[i]? with
  | some y => if slp y = true then y else x
  | none => x
def thaw (Y : Array GenState) (s : Shared) : Shared := { s with gens := s.gens.mapIdx (thawAt Y) }
def iced (s : Shared) : Shared := { s with gens := s.gens.map ice }
structure Icy (Y : Array GenState) (s : Shared) : Prop where
  size : Y.size ≤ s.gens.size
  held : ∀ (i : Nat) y, Y[i]? = some y → slp y = true → s.gens[i]? = some (ice y)
  clean : ∀ (i : Nat) k l c p fs cl, s.gens[i]? = some (.suspended k l c p fs cl) → (∃ y, Y[i]? = some y ∧ slp y = true) ∨ splitAtGen fs = none
theorem seen_ice (y : GenState) : (ice y).seen = y.seen := by cases y <;> rfl
theorem slp_ice (y : GenState) : slp (ice y) = slp y := by cases y <;> rfl
theorem bare_ice (y : GenState) : (ice y).bare = y.bare := by cases y <;> rfl
theorem thaw_get {Y : Array GenState} {s : Shared} {i : Nat} : (thaw Y s).gens[i]? = (s.gens[i]?).map (thawAt Y i) := by
  show (s.gens.mapIdx (thawAt Y))[i]? = _
  rw [Array.getElem?_mapIdx]
theorem thaw_size {Y : Array GenState} {s : Shared} : (thaw Y s).gens.size = s.gens.size := by
  show (s.gens.mapIdx (thawAt Y)).size = _
  rw [Array.size_mapIdx]
def NotHeld (Y : Array GenState) (g : Nat) : Prop := ∀ y, Y[g]? = some y → slp y = false
theorem NotHeld.at {Y : Array GenState} {g : Nat} (h : NotHeld Y g) (x : GenState) : thawAt Y g x = x := by
  unfold thawAt
  cases e : Y[g]? with
  | none => rfl
  | some y => simp [h y e]
theorem Icy.awake {Y : Array GenState} {s : Shared} {g : Nat} {x : GenState} (I : Icy Y s) (h : s.gens[g]? = some x) (hx : slp x = false) : NotHeld Y g := fun y hy => by
  cases e : slp y with
  | false => rfl
  | true =>
    have z := I.held g y hy e
    rw [h] at z
    cases z
    rw [slp_ice, e] at hx
    cases hx
theorem thaw_set {Y : Array GenState} {s : Shared} {g : Nat} {x : GenState} (h : NotHeld Y g) : thaw Y (s.setGen g x) = (thaw Y s).setGen g x := by
  have e : (s.gens.setIfInBounds g x).mapIdx (thawAt Y) = (s.gens.mapIdx (thawAt Y)).setIfInBounds g x := by
    refine Array.ext (by simp) fun i h1 h2 => ?_
    have q1 : i < s.gens.size := by simpa using h1
    have e1 : ((s.gens.setIfInBounds g x).mapIdx (thawAt Y))[i]? = ((s.gens.mapIdx (thawAt Y)).setIfInBounds g x)[i]? := by
      rw [Array.getElem?_mapIdx]
      by_cases z : g = i
      · subst z
        rw [Array.getElem?_setIfInBounds, Array.getElem?_setIfInBounds]
        simp [q1, h.at]
      · rw [Array.getElem?_setIfInBounds_ne z, Array.getElem?_setIfInBounds_ne z, Array.getElem?_mapIdx]
    rw [Array.getElem?_eq_getElem h1, Array.getElem?_eq_getElem h2] at e1
    exact Option.some.inj e1
  show ({ s with gens := (s.gens.setIfInBounds g x).mapIdx (thawAt Y) } : Shared) = { s with gens := (s.gens.mapIdx (thawAt Y)).setIfInBounds g x }
  rw [e]
theorem Icy.set {Y : Array GenState} {s : Shared} {g : Nat} {x : GenState} (I : Icy Y s) (h : NotHeld Y g) (hx : ∀ k l c p fs cl, x = .suspended k l c p fs cl → splitAtGen fs = none) : Icy Y (s.setGen g x) where
  size := by
    show Y.size ≤ (s.gens.setIfInBounds g x).size
    rw [Array.size_setIfInBounds]; exact I.size
  held := fun i y hy hs => by
    have ne : g ≠ i := fun z => by
      subst z
      rw [h y hy] at hs
      cases hs
    show (s.gens.setIfInBounds g x)[i]? = _
    rw [Array.getElem?_setIfInBounds_ne ne]
    exact I.held i y hy hs
  clean := fun i k l c p fs cl hi => by
    have hi : (s.gens.setIfInBounds g x)[i]? = some (.suspended k l c p fs cl) := hi
    by_cases ne : g = i
    · subst ne
      rw [Array.getElem?_setIfInBounds] at hi
      split at hi
      · split at hi
        · exact .inr (hx k l c p fs cl (Option.some.inj hi))
        · cases hi
      · exact I.clean g k l c p fs cl hi
    · rw [Array.getElem?_setIfInBounds_ne ne] at hi
      exact I.clean i k l c p fs cl hi
theorem Icy.gens {Y : Array GenState} {s s' : Shared} (I : Icy Y s) (e : s'.gens = s.gens) : Icy Y s' := ⟨by rw [e]; exact I.size, by rw [e]; exact I.held, by rw [e]; exact I.clean⟩
theorem Icy.push {Y : Array GenState} {s : Shared} {c : Code} (I : Icy Y s) : Icy Y { s with gens := s.gens.push (.fresh c) } where
  size := by
    show Y.size ≤ (s.gens.push _).size
    rw [Array.size_push]; have := I.size; omega
  held := fun i y hy hs => by
    have z := I.held i y hy hs
    show (s.gens.push _)[i]? = _
    obtain ⟨hi, z⟩ := Array.getElem?_eq_some_iff.mp z
    rw [Array.getElem?_push_lt hi, z]
  clean := fun i k l c' p fs cl hi => by
    have hi : (s.gens.push (.fresh c))[i]? = some (.suspended k l c' p fs cl) := hi
    rw [Array.getElem?_push] at hi
    split at hi
    · cases hi
    · exact I.clean i k l c' p fs cl hi
theorem thaw_push {Y : Array GenState} {s : Shared} {c : Code} (I : Icy Y s) : thaw Y { s with gens := s.gens.push (.fresh c) } = { thaw Y s with gens := (thaw Y s).gens.push (.fresh c) } := by
  have n : NotHeld Y s.gens.size := fun y hy => by
    have h := (Array.getElem?_eq_some_iff.mp hy).1
    have := I.size
    omega
  have e : (s.gens.push (.fresh c)).mapIdx (thawAt Y) = (s.gens.mapIdx (thawAt Y)).push (.fresh c) := by
    rw [Array.mapIdx_push, n.at]
  show ({ s with gens := (s.gens.push (.fresh c)).mapIdx (thawAt Y) } : Shared) = { s with gens := (s.gens.mapIdx (thawAt Y)).push (.fresh c) }
  rw [e]
theorem split_append : ∀ {fs gs : List Frame}, splitAtGen fs = none → splitAtGen gs = none → splitAtGen (fs ++ gs) = none
  | [], _, _, h => h
  | .gen .. :: _, _, h, _ => by cases h
  | .ret .. :: fs, gs, h, k => by
    have h : (splitAtGen fs).map _ = none := h
    have h := Option.map_eq_none_iff.mp h
    show (splitAtGen (fs ++ gs)).map _ = none
    rw [split_append h k]; rfl
theorem split_tail {k h g l c p kp} {fs : List Frame} (e : splitAtGen (.ret k h g l c p kp :: fs) = none) : splitAtGen fs = none := Option.map_eq_none_iff.mp (show (splitAtGen fs).map _ = none from e)
theorem no_runs {M : Model} {Γ : Ctx} {p : Pos} {w : String} {fs : List Frame} {s s' : Shared} {e : End} (h : Runs M Γ p (.unsupported w) fs s e s') : False := by
  generalize ht : (Sem.unsupported w : Sem PySem.Fin) = t at h
  induction h <;> first | (cases ht; done) | (rename_i ih; exact ih ht) | (rename_i ih _; exact ih ht) | skip
/-- what comes out of a run: frames of its own -/
def SuspOk : End → Prop
  | .ret _ => True
  | .susp _ _ _ _ _ _ fs => splitAtGen fs = none
theorem SuspOk.gs {e : End} (h : SuspOk e) : ∀ k l c p fs cl, e.genState = .suspended k l c p fs cl → splitAtGen fs = none := fun k l c p fs cl q => by
  cases e with
  | ret r => cases q
  | susp v g l' k' c' p' fs' =>
    cases q
    exact h
theorem thaw_seen {Y : Array GenState} {s : Shared} {g : Nat} {st : GenState} (I : Icy Y s) (h : s.gens[g]? = some st) : ∃ st', (thaw Y s).gens[g]? = some st' ∧ st'.seen = st.seen := by
  refine ⟨thawAt Y g st, by rw [thaw_get, h]; rfl, ?_⟩
  unfold thawAt
  cases e : Y[g]? with
  | none => rfl
  | some y =>
    show (if slp y = true then y else st).seen = st.seen
    by_cases hs : slp y = true
    · have z := I.held g y e hs
      rw [h] at z
      cases z
      rw [if_pos hs, seen_ice]
    · rw [if_neg hs]
theorem thaw_same {Y : Array GenState} {s : Shared} {g : Nat} {st : GenState} (n : NotHeld Y g) (h : s.gens[g]? = some st) : (thaw Y s).gens[g]? = some st := by
  rw [thaw_get, h]
  show some (thawAt Y g st) = _
  rw [n.at]
/-- the frozen run is the run -/
theorem lock {M : Model} {Y : Array GenState} {Γ : Ctx} {p : Pos} {t : Sem PySem.Fin} {fs : List Frame} {s s' : Shared} {e : End} (h : Runs M Γ p t fs s e s') : Icy Y s → splitAtGen fs = none →
    Runs M Γ p t fs (thaw Y s) e (thaw Y s') ∧ Icy Y s' ∧ SuspOk e := by
  induction h with
  | done => intro I _; exact ⟨.done, I, trivial⟩
  | raise => intro I _; exact ⟨.raise, I, trivial⟩
  | again hq _ ih => intro I _; obtain ⟨a, b, c⟩ := ih I rfl; exact ⟨.again hq a, b, c⟩
  | rule _ ih => intro I _; obtain ⟨a, b, c⟩ := ih I rfl; exact ⟨.rule a, b, c⟩
  | «at» _ ih => intro I _; obtain ⟨a, b, c⟩ := ih I rfl; exact ⟨.at a, b, c⟩
  | load ho _ ih => intro I _; obtain ⟨a, b, c⟩ := ih I rfl; exact ⟨.load ho a, b, c⟩
  | update ho _ ih => intro I _; obtain ⟨a, b, c⟩ := ih (I.gens rfl) rfl; exact ⟨.update ho a, b, c⟩
  | loadIfAlive _ ih => intro I _; obtain ⟨a, b, c⟩ := ih I rfl; exact ⟨.loadIfAlive a, b, c⟩
  | point _ ih => intro I _; obtain ⟨a, b, c⟩ := ih I rfl; exact ⟨.point a, b, c⟩
  | alloc _ ih => intro I _; obtain ⟨a, b, c⟩ := ih (I.gens rfl) rfl; exact ⟨.alloc a, b, c⟩
  | fresh _ ih => intro I _; obtain ⟨a, b, c⟩ := ih (I.gens rfl) rfl; exact ⟨.fresh a, b, c⟩
  | ask _ ih => intro I _; obtain ⟨a, b, c⟩ := ih I rfl; exact ⟨.ask a, b, c⟩
  | choose hn _ ih => intro I _; obtain ⟨a, b, c⟩ := ih (I.gens rfl) rfl; exact ⟨.choose hn a, b, c⟩
  | os _ ih => intro I _; obtain ⟨a, b, c⟩ := ih (I.gens rfl) rfl; exact ⟨.os a, b, c⟩
  | handled _ ih => intro I _; obtain ⟨a, b, c⟩ := ih I rfl; exact ⟨.handled a, b, c⟩
  | genState hg _ ih =>
    intro I _
    obtain ⟨a, b, c⟩ := ih I rfl
    obtain ⟨st', h1, h2⟩ := thaw_seen I hg
    exact ⟨.genState h1 (by rw [h2]; exact a), b, c⟩
  | stack _ ih => intro I _; obtain ⟨a, b, c⟩ := ih I rfl; exact ⟨.stack a, b, c⟩
  | thread _ ih => intro I _; obtain ⟨a, b, c⟩ := ih I rfl; exact ⟨.thread a, b, c⟩
  | newGen _ ih =>
    intro I _
    obtain ⟨a, b, c⟩ := ih I.push rfl
    rw [thaw_push I, ← thaw_size (Y := Y)] at a
    exact ⟨.newGen a, b, c⟩
  | call _ _ ih1 ih2 =>
    intro I _
    obtain ⟨a, b, _⟩ := ih1 I rfl
    obtain ⟨a2, b2, c2⟩ := ih2 b rfl
    exact ⟨.call a a2, b2, c2⟩
  | callSusp _ ih =>
    intro I _
    obtain ⟨a, b, c⟩ := ih I rfl
    exact ⟨.callSusp a, b, split_append c rfl⟩
  | yield => intro I _; exact ⟨.yield, I, rfl⟩
  | resumeFresh hg _ hq _ ih1 ih2 =>
    intro I _
    have n := I.awake hg rfl
    obtain ⟨a, b, c⟩ := ih1 (I.set n (fun _ _ _ _ _ _ z => nomatch z)) rfl
    obtain ⟨a2, b2, c2⟩ := ih2 (b.set n c.gs) rfl
    rw [thaw_set n] at a a2
    exact ⟨.resumeFresh (thaw_same n hg) a hq a2, b2, c2⟩
  | @resumeSuspended Γ p g r l k s k₀ l₀ c₀ p₀ fs cl e₁ s₁ e s' hg h1 hq _ ih1 ih2 =>
    intro I _
    rcases I.clean _ _ _ _ _ _ _ hg with ⟨y, hy, hs⟩ | hf
    · have z := I.held _ y hy hs
      rw [hg] at z
      cases y with
      | suspended k' l' c' p' fs' cl' =>
        cases z
        exact (no_runs h1).elim
      | _ => cases hs
    · by_cases hh : ∃ y, Y[g]? = some y ∧ slp y = true
      · obtain ⟨y, hy, hs⟩ := hh
        have z := I.held _ y hy hs
        rw [hg] at z
        cases y with
        | suspended k' l' c' p' fs' cl' =>
          cases z
          exact (no_runs h1).elim
        | _ => cases hs
      · have n : NotHeld Y g := fun y hy => by
          cases q : slp y with
          | false => rfl
          | true => exact absurd ⟨y, hy, q⟩ hh
        obtain ⟨a, b, c⟩ := ih1 (I.set n (fun _ _ _ _ _ _ z => nomatch z)) hf
        obtain ⟨a2, b2, c2⟩ := ih2 (b.set n c.gs) rfl
        rw [thaw_set n] at a a2
        exact ⟨.resumeSuspended (thaw_same n hg) a hq a2, b2, c2⟩
  | resumeJustStarted hg hv _ ih =>
    intro I _
    obtain ⟨a, b, c⟩ := ih I rfl
    exact ⟨.resumeJustStarted (thaw_same (I.awake hg rfl) hg) hv a, b, c⟩
  | resumeThrowFresh hg _ ih =>
    intro I _
    have n := I.awake hg rfl
    obtain ⟨a, b, c⟩ := ih (I.set n (fun _ _ _ _ _ _ z => nomatch z)) rfl
    rw [thaw_set n] at a
    exact ⟨.resumeThrowFresh (thaw_same n hg) a, b, c⟩
  | resumeRunning hg _ ih =>
    intro I _
    obtain ⟨a, b, c⟩ := ih I rfl
    exact ⟨.resumeRunning (thaw_same (I.awake hg rfl) hg) a, b, c⟩
  | resumeFinished hg _ ih =>
    intro I _
    obtain ⟨a, b, c⟩ := ih I rfl
    exact ⟨.resumeFinished (thaw_same (I.awake hg rfl) hg) a, b, c⟩
  | segRet _ _ ih1 ih2 =>
    intro I hf
    obtain ⟨a, b, _⟩ := ih1 I rfl
    obtain ⟨a2, b2, c2⟩ := ih2 b (split_tail hf)
    exact ⟨.segRet a a2, b2, c2⟩
  | segGen _ _ _ _ => intro _ hf; cases hf
  | segSuspOut hs _ ih =>
    intro I hf
    obtain ⟨a, b, c⟩ := ih I rfl
    exact ⟨.segSuspOut hs a, b, split_append c hf⟩
  | segSuspGen hs _ _ _ _ _ =>
    intro _ hf
    rw [hf] at hs
    cases hs
theorem wakes_lock {M : Model} {Y : Array GenState} {Γ : Ctx} {p : Pos} {g : Nat} {r : Resume} {s s' : Shared} {res : GenResult} (h : Wakes M Γ p g r s res s') (I : Icy Y s) : Wakes M Γ p g r (thaw Y s) res (thaw Y s') ∧ Icy Y s' := by
  unfold Wakes at h
  cases hg : s.gens[g]? with
  | none => rw [hg] at h; exact h.elim
  | some x =>
    rw [hg] at h
    cases x with
    | fresh c =>
      have n := I.awake hg rfl
      have hT := thaw_same n hg
      cases r with
      | send v =>
        cases v with
        | none =>
          obtain ⟨e₁, s₁, hr, hq, rfl, rfl⟩ := h
          obtain ⟨a, b, c⟩ := lock hr (I.set n (fun _ _ _ _ _ _ z => nomatch z)) rfl
          rw [thaw_set n] at a
          refine ⟨?_, b.set n c.gs⟩
          unfold Wakes
          rw [hT]
          exact ⟨e₁, _, a, hq, rfl, thaw_set n⟩
        | _ =>
          obtain ⟨rfl, rfl⟩ := h
          refine ⟨?_, I⟩
          unfold Wakes
          rw [hT]
          exact ⟨rfl, rfl⟩
      | throw v =>
        obtain ⟨rfl, rfl⟩ := h
        refine ⟨?_, I.set n (fun _ _ _ _ _ _ z => nomatch z)⟩
        unfold Wakes
        rw [hT]
        exact ⟨rfl, thaw_set n⟩
    | suspended k₀ l₀ c₀ p₀ fs cl =>
      obtain ⟨e₁, s₁, hr, hq, rfl, rfl⟩ := h
      have n : NotHeld Y g := fun y hy => by
        cases q : slp y with
        | false => rfl
        | true =>
          have z := I.held _ y hy q
          rw [hg] at z
          cases y with
          | suspended k' l' c' p' fs' cl' =>
            cases z
            exact (no_runs hr).elim
          | _ => cases q
      have hf : splitAtGen fs = none := by
        rcases I.clean _ _ _ _ _ _ _ hg with ⟨y, hy, hs⟩ | hf
        · rw [n y hy] at hs; cases hs
        · exact hf
      obtain ⟨a, b, c⟩ := lock hr (I.set n (fun _ _ _ _ _ _ z => nomatch z)) hf
      rw [thaw_set n] at a
      refine ⟨?_, b.set n c.gs⟩
      unfold Wakes
      rw [thaw_same n hg]
      exact ⟨e₁, _, a, hq, rfl, thaw_set n⟩
    | running =>
      obtain ⟨rfl, rfl⟩ := h
      refine ⟨?_, I⟩
      unfold Wakes
      rw [thaw_same (I.awake hg rfl) hg]
      exact ⟨rfl, rfl⟩
    | finished =>
      obtain ⟨rfl, rfl⟩ := h
      refine ⟨?_, I⟩
      unfold Wakes
      rw [thaw_same (I.awake hg rfl) hg]
      exact ⟨rfl, rfl⟩
/-- behind the run: thawed -/
def Thawed {α : Type} (Y : Array GenState) (Q : α → Pos → Shared → Prop) : α → Pos → Shared → Prop := fun a p s' => ∃ s₁, s' = thaw Y s₁ ∧ Icy Y s₁ ∧ Q a p s₁
theorem wp_lock {α : Type} (M : Model) (Y : Array GenState) (Γ : Ctx) (t : Sem α) : ∀ (Q : α → Pos → Shared → Prop) (E : Value → Pos → Shared → Prop) (p : Pos) (s : Shared), Icy Y s → wp M Γ t Q E p s → wp M Γ t (Thawed Y Q) (Thawed Y E) p (thaw Y s) := by
  induction t with
  | pure a => intro Q E p s I h; exact ⟨s, rfl, I, h⟩
  | raise e => intro Q E p s I h; exact ⟨s, rfl, I, h⟩
  | unsupported _ => intro Q E p s _ h; exact h
  | finish _ => intro Q E p s _ h; exact h
  | rule _ k ih => intro Q E p s I h; exact ih () Q E p s I h
  | «at» p' k ih => intro Q E p s I h; exact ih () Q E p' s I h
  | load a _ k ih => intro Q E p s I h; obtain ⟨o, ho, h⟩ := h; exact ⟨o, ho, ih o Q E p s I h⟩
  | update a _ f k ih => intro Q E p s I h; exact ⟨h.1, ih () Q E p { s with heap := s.heap.update a f } (I.gens rfl) h.2⟩
  | loadIfAlive a k ih => intro Q E p s I h; exact ih _ Q E p s I h
  | point _ k ih => intro Q E p s I h; exact ih () Q E p s I h
  | register _ _ => intro Q E p s _ h; exact h
  | alloc o k ih => intro Q E p s I h; exact ih _ Q E p { s with heap := s.heap.push o } (I.gens rfl) h
  | fresh k ih => intro Q E p s I h; exact ih _ Q E p { s with toks := s.toks + 1 } (I.gens rfl) h
  | ask k ih => intro Q E p s I h; exact ih _ Q E p s I h
  | choose src m k ih => intro Q E p s I h; exact ⟨h.1, ih _ Q E p { s with drawn := s.drawn.bump src } (I.gens rfl) h.2⟩
  | os q _ k ih => intro Q E p s I h; exact ih _ Q E p { s with os := (Os.step s.os q).1 } (I.gens rfl) h
  | call c hd _ _ k ih =>
    intro Q E p s I h
    obtain ⟨r, s', hr, h⟩ := h
    obtain ⟨a, b, _⟩ := lock hr I rfl
    exact ⟨r, _, a, ih r Q E p s' b h⟩
  | handled own k ih => intro Q E p s I h; exact ih _ Q E p s I h
  | genState g k ih =>
    intro Q E p s I h
    obtain ⟨st, hs, h⟩ := h
    obtain ⟨st', h1, h2⟩ := thaw_seen I hs
    exact ⟨st', h1, by rw [h2]; exact ih _ Q E p s I h⟩
  | newGen c k ih =>
    intro Q E p s I h
    have z := ih _ Q E p _ I.push h
    rw [thaw_push I, ← thaw_size (Y := Y)] at z
    exact z
  | resume g r _ k ih =>
    intro Q E p s I h
    obtain ⟨res, s', hw, h⟩ := h
    obtain ⟨a, b⟩ := wakes_lock hw I
    exact ⟨res, _, a, ih res Q E p s' b h⟩
  | yield _ _ _ _ => intro Q E p s _ h; exact h
  | stack k ih => intro Q E p s I h; exact ih _ Q E p s I h
  | fork _ _ => intro Q E p s _ h; exact h
  | thread k ih => intro Q E p s I h; exact ih _ Q E p s I h
  | await _ _ _ _ _ => intro Q E p s _ h; exact h
theorem icy_iced (s : Shared) : Icy s.gens (iced s) where
  size := by
    show _ ≤ (s.gens.map ice).size
    rw [Array.size_map]; exact Nat.le_refl _
  held := fun i y hy _ => by
    show (s.gens.map ice)[i]? = _
    rw [Array.getElem?_map, hy]; rfl
  clean := fun i k l c p fs cl hi => by
    have hi : (s.gens.map ice)[i]? = some (.suspended k l c p fs cl) := hi
    rw [Array.getElem?_map] at hi
    obtain ⟨y, hy, e⟩ := Option.map_eq_some_iff.mp hi
    exact .inl ⟨y, hy, by rw [← slp_ice, e]; rfl⟩
theorem thaw_iced (s : Shared) : thaw s.gens (iced s) = s := by
  have e : (s.gens.map ice).mapIdx (thawAt s.gens) = s.gens := by
    refine Array.ext (by simp) fun i h1 h2 => ?_
    simp only [Array.getElem_mapIdx, Array.getElem_map]
    unfold thawAt
    rw [Array.getElem?_eq_getElem h2]
    show (if slp s.gens[i] = true then s.gens[i] else ice s.gens[i]) = _
    cases s.gens[i] <;> rfl
  show ({ s with gens := (s.gens.map ice).mapIdx (thawAt s.gens) } : Shared) = s
  rw [e]
/-- behind code that knows no sleeper: s' is as the frozen run left it, the sleepers as they were -/
structure Still (s s₁ s' : Shared) : Prop where
  heap : s'.heap = s₁.heap
  os : s'.os = s₁.os
  bare : AllBare s.gens → AllBare s₁.gens → AllBare s'.gens
  sleeps : ∀ (i : Nat) y, s.gens[i]? = some y → slp y = true → s'.gens[i]? = some y
theorem still_of {s s₁ : Shared} (I : Icy s.gens s₁) : Still s s₁ (thaw s.gens s₁) where
  heap := rfl
  os := rfl
  bare := fun h h1 x hx => by
    obtain ⟨i, hi, e⟩ := Array.mem_iff_getElem.mp hx
    have q : (thaw s.gens s₁).gens[i]? = some x := by rw [Array.getElem?_eq_getElem hi, e]
    rw [thaw_get] at q
    obtain ⟨z, hz, e2⟩ := Option.map_eq_some_iff.mp q
    have bz := h1 z (Array.mem_of_getElem? hz)
    rw [← e2]
    unfold thawAt
    cases ey : s.gens[i]? with
    | none => exact bz
    | some y =>
      show (if slp y = true then y else z).bare = true
      split
      · exact h y (Array.mem_of_getElem? ey)
      · exact bz
  sleeps := fun i y hy hs => by
    rw [thaw_get, I.held i y hy hs]
    show some (thawAt s.gens i (ice y)) = some y
    unfold thawAt
    rw [hy]
    show some (if slp y = true then y else ice y) = some y
    rw [if_pos hs]
theorem wpAny_still {α : Type} {M : Model} {A : Around} {t : Sem α} {Q : α → Shared → Prop} {E : Value → Shared → Prop} {s : Shared} (h : wpAny M A t Q E (iced s)) :
    wpAny M A t (fun a s' => ∃ s₁, Still s s₁ s' ∧ Q a s₁) (fun e s' => ∃ s₁, Still s s₁ s' ∧ E e s₁) s := by
  intro Γ p hΓ
  have z := wp_lock M s.gens Γ t _ _ p (iced s) (icy_iced s) (h Γ p hΓ)
  rw [thaw_iced] at z
  refine Sem.wp_mono M Γ t ?_ ?_ p s z
  · rintro a p' s' ⟨s₁, rfl, I, q⟩
    exact ⟨s₁, still_of I, q⟩
  · rintro a p' s' ⟨s₁, rfl, I, q⟩
    exact ⟨s₁, still_of I, q⟩
/-! ### one stretch of a generator's run, and its statements -/
/-- from s the code t over the frames fs comes to an end of which Φ holds -/
def Sg (M : Model) (A : Around) (Φ : End → Shared → Prop) (c : Code) (t : Sem PySem.Fin) (fs : List Frame) (s : Shared) : Prop :=
  ∀ Γ p, Γ.code = c → Γ.Woken A → ∃ e s', Runs M Γ p t fs s e s' ∧ Φ e s'
section
variable {M : Model} {A : Around} {Φ : End → Shared → Prop} {c : Code} {fs : List Frame} {s : Shared}
theorem sg_wrap {α : Type} {m : Sem α} {K : α → Sem PySem.Fin} {J : Value → Sem PySem.Fin} {gd lv} (h : wpAny M (A.over c fs) m (fun a z => Sg M A Φ c (K a) fs z) (fun x z => Sg M A Φ c (J x) fs z) s) : Sg M A Φ c (m.wrap K J gd lv) fs s := by
  rintro Γ q rfl hΓ
  exact runs_wrap_of_wp K J gd lv m (h (Γ.over fs) q (hΓ.over fs)) (fun a q' z y => y Γ q' rfl hΓ) (fun x q' z y => y Γ q' rfl hΓ)
theorem sg_bindW {α β : Type} {m : Sem α} {f : α → Sem β} {K : β → Sem PySem.Fin} {J : Value → Sem PySem.Fin} {gd lv} (h : wpAny M (A.over c fs) m (fun a z => Sg M A Φ c ((f a).wrap K J gd lv) fs z) (fun x z => Sg M A Φ c (J x) fs z) s) : Sg M A Φ c ((m >>= f).wrap K J gd lv) fs s := by
  rw [Sem.bind_eq_wrap', Sem.wrap_wrap]
  exact sg_wrap h
theorem sg_at {p' : Pos} {k : Unit → Sem PySem.Fin} (h : Sg M A Φ c (k ()) fs s) : Sg M A Φ c (.at p' k) fs s :=
  sg_wrap (m := standAt p') (K := k) (J := .raise) (gd := id) (lv := id) (wpAny_standAt h)
theorem sg_point {l : List Value} {k : Unit → Sem PySem.Fin} (h : Sg M A Φ c (k ()) fs s) : Sg M A Φ c (.point l k) fs s :=
  sg_wrap (m := point) (K := k) (J := .raise) (gd := id) (lv := fun _ => l) (wpAny_point h)
theorem sg_call {c' : Code} {h g l} {k : Result → Sem PySem.Fin} (hc : ∀ q, Sg M A Φ c' (M.den c') (.ret k h g l c q [] :: fs) s) : Sg M A Φ c (.call c' h g l k) fs s := by
  rintro Γ q rfl hΓ
  obtain ⟨e, z, hr, he⟩ := hc q (Γ.goto c') q rfl (hΓ.goto c')
  exact ⟨e, z, runs_call_seg hr, he⟩
theorem sg_leaf {k h g l c₁ p₁ kp} (r : Result) (hk : Sg M A Φ c₁ (k r) fs s) : Sg M A Φ c (leafOf r) (.ret k h g l c₁ p₁ kp :: fs) s := by
  rintro Γ q rfl hΓ
  obtain ⟨e, z, hr, he⟩ := hk (Γ.goto c₁) p₁ rfl (hΓ.goto c₁)
  exact ⟨e, z, Runs.pop r hr, he⟩
theorem sg_again {c' : Code} (hq : c'.quiet = true) (hc : Sg M A Φ c' (M.den c') fs s) : Sg M A Φ c (.pure (.again c')) fs s := by
  rintro Γ q rfl hΓ
  obtain ⟨e, z, hr, he⟩ := hc (Γ.goto c') q rfl (hΓ.goto c')
  exact ⟨e, z, Runs.head (c₁ := c') (fun _ _ x => .again hq x) hr, he⟩
theorem sg_end (r : Result) (h : Φ (.ret r) s) : Sg M A Φ c (leafOf r) [] s := by
  rintro Γ q rfl _
  exact ⟨.ret r, s, Runs.leaf r, h⟩
theorem sg_yield {v g l} {k : Resume → Sem PySem.Fin} (hf : splitAtGen fs = none) (h : ∀ q, Φ (.susp v g l k c q fs) s) : Sg M A Φ c (.yield v g l k) fs s := by
  rintro Γ q rfl _
  exact ⟨_, s, Runs.yield' fs hf, h q⟩
end
/-- the heap's first n objects -/
def trH (n : Nat) (h : Heap) : Heap := { h with objs := (h.objs.toList.take n).toArray }
def tr (n : Nat) (s : Shared) : Shared := { s with heap := trH n s.heap }
theorem trH_size {n : Nat} {h : Heap} (l : n ≤ h.objs.size) : (trH n h).objs.size = n := by
  show (h.objs.toList.take n).toArray.size = n
  simp; omega
theorem trH_get {n b : Nat} {h : Heap} (l : b < n) : (trH n h).get? b = h.get? b := by
  have e : ((h.objs.toList.take n).toArray)[b]? = h.objs[b]? := by simp [l]
  unfold Heap.get?
  show (match ((h.objs.toList.take n).toArray)[b]? with | some ⟨_, _, .freed, _⟩ => none | z => z) = _
  rw [e]; rfl
theorem trH_sub {n b : Nat} {h : Heap} {o : Obj} (q : (trH n h).get? b = some o) : h.get? b = some o ∧ b < n := by
  have l : b < n := by
    have z := Heap.lt_size q
    have : ((h.objs.toList.take n).toArray).size ≤ n := by simp; omega
    exact Nat.lt_of_lt_of_le z this
  rw [trH_get l] at q
  exact ⟨q, l⟩
/-- a generator's frame, seen from the state at which it was woken last: sb, H -/
def gcx (P : Program) (w : World) (K : PySem.W.Frag) (mg : Str → Option Value) (base : Heap) (N : List Str) (qual : Str) (scope : Scope) (f : Addr) (cd : Value) (A : Around) (outer : List Env) (L : Addr) (sb : Shared) (H : Hp) : Cx where
  prog := P
  w := w
  K := K
  mg := mg
  base := base
  A := A.deeper (envOfC qual scope L f cd)
  N := N
  s_0 := sb
  H_0 := H
  env := envOfC qual scope L f cd
  outer := outer
  stack := envOfC qual scope L f cd :: outer
  ex := []
  calm := true
  fn := fun _ => true
  pn := []
  xe := fun _ _ => False
/-- the state at which it was woken; the consumer's own objects, to be left alone -/
structure View where
  s : Shared
  H : Hp
  pins : List (Addr × Obj)
/-- what the consumer may count on: with m items to come, woken at Hr, it hands out x, leaving H | it may be woken at H2 (it slept since H1), m to come | it ends -/
structure Ctr where
  yl : Nat → Hp → V → Hp → Prop
  ok : Nat → Hp → Hp → Prop
  fin : Hp → Hp → Prop
section
variable (P : Program) (w : World) (K : PySem.W.Frag) (mg : Str → Option Value) (base : Heap) (N : List Str) (qual : Str) (scope : Scope) (f : Addr) (cd : Value) (A : Around) (outer : List Env) (L : Addr)
/-- the generator's frame runs; ip: its own iterators as they stand -/
def GOk (V : View) (ip : List (Addr × Obj)) : Prop := L < V.s.heap.objs.size ∧ (∀ p ∈ V.pins, ∀ q ∈ ip, p.1 ≠ q.1) ∧ ∀ q ∈ ip, L < q.1
def GIn (V : View) (ip : List (Addr × Obj)) (σ : L2.St) (H : Hp) (s : Shared) : Prop := GOk L V ip ∧ Inv (gcx P w K mg base N qual scope f cd A outer L (tr L V.s) V.H) (V.pins ++ ip) σ H s
def FutRet (C : Ctr) (m : Nat) (V : View) (r : Result) (s' : Shared) : Prop := r = .ok (.ret .none) ∧ m = 0 ∧ ∃ ip σ H, GIn P w K mg base N qual scope f cd A outer L V ip σ H s' ∧ C.fin V.H H
def FutSusp (C : Ctr) (m : Nat) (V : View) (v : Value) (s' : Shared) (go : View → Prop) : Prop :=
  ∃ ip x σ H, RelV x v ∧ GIn P w K mg base N qual scope f cd A outer L V ip σ H s' ∧ C.yl (m + 1) V.H x H ∧ ∀ V' : View, GIn P w K mg base N qual scope f cd A outer L V' ip σ V'.H V'.s → C.ok m H V'.H → go V'
def Fut (C : Ctr) : Nat → View → End → Shared → Prop
  | m, V, .ret r, s' => FutRet P w K mg base N qual scope f cd A outer L C m V r s'
  | 0, _, .susp .., _ => False
  | m + 1, V, .susp v g l k c p fs, s' => (End.susp v g l k c p fs).quiet = true ∧ FutSusp P w K mg base N qual scope f cd A outer L C m V v s' fun V' => Sg (model P w) A (Fut C m V') c (k (.send .none)) fs V'.s
end
theorem fut_ret {P : Program} {w : World} {K : PySem.W.Frag} {mg : Str → Option Value} {base : Heap} {N : List Str} {qual : Str} {scope : Scope} {f : Addr} {cd : Value} {A : Around} {outer : List Env} {L : Addr} {C : Ctr} {m : Nat} {V : View} {r : Result} {s' : Shared} :
    FutRet P w K mg base N qual scope f cd A outer L C m V r s' → Fut P w K mg base N qual scope f cd A outer L C m V (.ret r) s' := fun h => by
  cases m <;> exact h
theorem ret_fut {P : Program} {w : World} {K : PySem.W.Frag} {mg : Str → Option Value} {base : Heap} {N : List Str} {qual : Str} {scope : Scope} {f : Addr} {cd : Value} {A : Around} {outer : List Env} {L : Addr} {C : Ctr} {m : Nat} {V : View} {r : Result} {s' : Shared} :
    Fut P w K mg base N qual scope f cd A outer L C m V (.ret r) s' → FutRet P w K mg base N qual scope f cd A outer L C m V r s' := fun h => by
  cases m <;> exact h
/-- what is wanted behind a statement of a generator: items to come, the heap at which it was woken, slots, heap -/
structure GEn where
  nx : Nat → Hp → L2.St → Hp → Prop
  rt : Nat → Hp → VK
  bk : Nat → Hp → L2.St → Hp → Prop := fun _ _ _ _ => False
  ct : Nat → Hp → L2.St → Hp → Prop := fun _ _ _ _ => False
def GEn.at (D : GEn) (m : Nat) (Hr : Hp) : Ends := { nx := D.nx m Hr, rt := D.rt m Hr, bk := D.bk m Hr, ct := D.ct m Hr }
abbrev TGm := Ctr → GEn → Nat → Hp → L2.St → Hp → Prop
/-- where its code stands -/
structure GPl (X : Around) (A : Around) (c : Code) (fs : List Frame) (gd : Bool → Bool) : Prop where
  over : A.over c fs = X
  split : splitAtGen fs = none
  guard : fs.any Frame.guarded = false
  gd : gd false = false
section
variable {P : Program} {w : World} {K : PySem.W.Frag} {mg : Str → Option Value} {base : Heap} {N : List Str} {qual : Str} {scope : Scope} {f : Addr} {cd : Value} {A : Around} {outer : List Env} {L : Addr}
def GOut (P : Program) (w : World) (K : PySem.W.Frag) (mg : Str → Option Value) (base : Heap) (N : List Str) (qual : Str) (scope : Scope) (f : Addr) (cd : Value) (A : Around) (outer : List Env) (L : Addr) (D : GEn) (m : Nat) (V : View) (ip : List (Addr × Obj)) (fl : Flow) (s : Shared) : Prop := GOk L V ip ∧ SP (gcx P w K mg base N qual scope f cd A outer L (tr L V.s) V.H) (V.pins ++ ip) (D.at m V.H) fl s
structure GT (P : Program) (w : World) (K : PySem.W.Frag) (mg : Str → Option Value) (base : Heap) (N : List Str) (qual : Str) (scope : Scope) (f : Addr) (cd : Value) (A : Around) (outer : List Env) (L : Addr) (ex : Env → Sem Flow) (t : TGm) : Prop where
  run : ∀ (C : Ctr) (D : GEn) (m : Nat) (V : View) (ip : List (Addr × Obj)) (c : Code) (fs : List Frame) (Kf : Flow → Sem PySem.Fin) (J : Value → Sem PySem.Fin) (gd : Bool → Bool) (lv : List Value → List Value) (s : Shared) (σ : L2.St) (H : Hp),
    GPl (A.deeper (envOfC qual scope L f cd)) A c fs gd → (∀ m' V' fl s', GOut P w K mg base N qual scope f cd A outer L D m' V' ip fl s' → Sg (model P w) A (Fut P w K mg base N qual scope f cd A outer L C m' V') c (Kf fl) fs s') →
    GIn P w K mg base N qual scope f cd A outer L V ip σ H s → t C D m V.H σ H → Sg (model P w) A (Fut P w K mg base N qual scope f cd A outer L C m V) c ((ex (envOfC qual scope L f cd)).wrap Kf J gd lv) fs s
abbrev GTs (P : Program) (w : World) (K : PySem.W.Frag) (mg : Str → Option Value) (base : Heap) (N : List Str) (qual : Str) (scope : Scope) (f : Addr) (cd : Value) (A : Around) (outer : List Env) (L : Addr) (st : Stmt) (t : TGm) : Prop := GT P w K mg base N qual scope f cd A outer L (fun e => exec st e) t
abbrev GTb (P : Program) (w : World) (K : PySem.W.Frag) (mg : Str → Option Value) (base : Heap) (N : List Str) (qual : Str) (scope : Scope) (f : Addr) (cd : Value) (A : Around) (outer : List Env) (L : Addr) (st : List Stmt) (t : TGm) : Prop := GT P w K mg base N qual scope f cd A outer L (fun e => execs st e) t
/-- a statement that hands out nothing -/
def tGp (t : TS) : TGm := fun _ D m Hr σ H => t (D.at m Hr) σ H
theorem gt_ps {st : Stmt} {t : TS} (h : ∀ sb H0, PS (gcx P w K mg base N qual scope f cd A outer L sb H0) st t) : GTs P w K mg base N qual scope f cd A outer L st (tGp t) := by
  refine ⟨fun C D m V ip c fs Kf J gd lv s σ H g k I ht => ?_⟩
  refine sg_wrap ?_
  rw [g.over]
  exact wpAny_mono ((h (tr L V.s) V.H).run _ s σ H (D.at m V.H) I.2 ht) (fun fl s' hs => k m V fl s' ⟨I.1, hs⟩) fun x s' hx => hx.elim
theorem gt_pss {st : List Stmt} {t : TS} (h : ∀ sb H0, PSs (gcx P w K mg base N qual scope f cd A outer L sb H0) st t) : GTb P w K mg base N qual scope f cd A outer L st (tGp t) := by
  refine ⟨fun C D m V ip c fs Kf J gd lv s σ H g k I ht => ?_⟩
  refine sg_wrap ?_
  rw [g.over]
  exact wpAny_mono ((h (tr L V.s) V.H).run _ s σ H (D.at m V.H) I.2 ht) (fun fl s' hs => k m V fl s' ⟨I.1, hs⟩) fun x s' hx => hx.elim
def tGn : TGm := fun _ D m Hr σ H => D.nx m Hr σ H
theorem gt_nil : GTb P w K mg base N qual scope f cd A outer L [] tGn := by
  refine ⟨fun C D m V ip c fs Kf J gd lv s σ H g k I ht => ?_⟩
  exact k m V .next s ⟨I.1, σ, H, I.2, ht⟩
def tGc (t u : TGm) : TGm := fun C D m Hr σ H => t C { D with nx := fun m' Hr' σ' H' => u C D m' Hr' σ' H' } m Hr σ H
theorem gt_cons {st : Stmt} {rest : List Stmt} {t u : TGm} (a : GTs P w K mg base N qual scope f cd A outer L st t) (b : GTb P w K mg base N qual scope f cd A outer L rest u) : GTb P w K mg base N qual scope f cd A outer L (st :: rest) (tGc t u) := by
  refine ⟨fun C D m V ip c fs Kf J gd lv s σ H g k I ht => ?_⟩
  show Sg _ A _ c ((execs (st :: rest) _).wrap Kf J gd lv) fs s
  rw [execs_cons_wrap]
  refine a.run C { D with nx := fun m' Hr' σ' H' => u C D m' Hr' σ' H' } m V ip c fs _ J gd lv s σ H g (fun m' V' fl s' hs => ?_) I ht
  cases fl with
  | next =>
    obtain ⟨o, σ', H', I', q⟩ := hs
    exact b.run C D m' V' ip c fs Kf J gd lv s' σ' H' g k ⟨o, I'⟩ q
  | brk => exact k m' V' .brk s' hs
  | cont => exact k m' V' .cont s' hs
  | ret u => exact k m' V' (.ret u) s' hs
def tGy (te : TE) : TGm := fun C D m Hr σ H => te σ H fun x H1 => ∃ m', m = m' + 1 ∧ C.yl m Hr x H1 ∧ ∀ H2, C.ok m' H1 H2 → D.nx m' H2 σ H2
theorem gt_yield {e : Expr} {yp pos : Pos} {te : TE} (he : ∀ sb H0, PE (gcx P w K mg base N qual scope f cd A outer L sb H0) e te) (hco : scope.isCoroutine = false := by rfl) (hi : interactive (envOfC qual scope L f cd) = false := by rfl) : GTs P w K mg base N qual scope f cd A outer L (.Expr (.Yield (some e) yp) pos) (tGy te) := by
  refine ⟨fun C D m V ip c fs Kf J gd lv s σ H g k I ht => ?_⟩
  show Sg _ A _ c ((exec (.Expr (.Yield (some e) yp) pos) (envOfC qual scope L f cd)).wrap Kf J gd lv) fs s
  rw [exec_Expr _ _ pos hi rfl]
  have hy : ∀ v, yieldOut (envOfC qual scope L f cd) v = yieldValue v := fun v => by simp only [yieldOut, show (envOfC qual scope L f cd).scope.isCoroutine = false from hco, Bool.false_eq_true, if_false]
  show Sg _ A _ c (.at pos fun _ => ((eval e (envOfC qual scope L f cd) >>= fun v => (standAt yp >>= fun _ => yieldOut (envOfC qual scope L f cd) v)) >>= fun x => dropValue (.Yield (some e) yp) pos x).wrap Kf J gd lv) fs s
  simp only [hy]
  refine sg_at ?_
  rw [Sem.bind_eq_wrap', Sem.bind_eq_wrap', Sem.wrap_wrap, Sem.wrap_wrap]
  refine sg_wrap ?_
  rw [g.over]
  refine wpAny_mono ((he (tr L V.s) V.H).run _ s σ H _ I.2 ht) (fun v s' hs => ?_) fun x s' hx => hx.elim
  obtain ⟨x, H1, I1, r1, m', rfl, q1, q2⟩ := hs
  refine sg_at (sg_yield g.split fun q => ?_)
  refine ⟨by simp [End.quiet, g.gd, g.guard], ip, x, σ, H1, r1, ⟨I.1, I1⟩, q1, fun V' I' h' => ?_⟩
  exact k m' V' .next V'.s ⟨I'.1, σ, V'.H, I'.2, q2 V'.H h'⟩
def tGi (tc : TT) (t u : TGm) : TGm := fun C D m Hr σ H => tc σ H fun b H1 => if b = true then t C D m Hr σ H1 else u C D m Hr σ H1
theorem gt_if {test : Expr} {body orelse : List Stmt} {pos : Pos} {tc : TT} {t u : TGm} (hc : ∀ sb H0, PT (gcx P w K mg base N qual scope f cd A outer L sb H0) test tc) (a : GTb P w K mg base N qual scope f cd A outer L body t) (b : GTb P w K mg base N qual scope f cd A outer L orelse u) :
    GTs P w K mg base N qual scope f cd A outer L (.If test body orelse pos) (tGi tc t u) := by
  refine ⟨fun C D m V ip c fs Kf J gd lv s σ H g k I ht => ?_⟩
  show Sg _ A _ c ((exec (.If test body orelse pos) (envOfC qual scope L f cd)).wrap Kf J gd lv) fs s
  rw [exec_If]
  refine sg_bindW (wpAny_standAt (sg_bindW ?_))
  rw [g.over]
  refine wpAny_mono ((hc (tr L V.s) V.H).run _ s σ H _ I.2 ht) (fun bb s' hs => ?_) fun x s' hx => hx.elim
  obtain ⟨H1, I1, q⟩ := hs
  cases bb with
  | true => exact a.run C D m V ip c fs Kf J gd lv s' σ H1 g k ⟨I.1, I1⟩ q
  | false => exact b.run C D m V ip c fs Kf J gd lv s' σ H1 g k ⟨I.1, I1⟩ q
/-! for -/
def tGf (wi : TI) (gt : TG) (tb : TGm) : TGm := fun C D m Hr σ H => wi σ H fun J H1 => ∃ W : Nat → Nat → Nat → Hp → L2.St → Hp → Prop, (∃ z, W 0 z m Hr σ H1) ∧ ∀ i z m Hr σ H, W i z m Hr σ H →
  (J.stop i H ∧ D.nx m Hr σ H) ∨ (J.go i H ∧ ∃ Nx : Nat → Hp → L2.St → Hp → Prop, (∀ m' Hr' σ' H', Nx m' Hr' σ' H' → ∃ z', z' < z ∧ W (i + 1) z' m' Hr' σ' H') ∧ ∀ x H', J.yld i H x H' → gt x σ H' fun σ2 H2 => tb C { D with nx := Nx, ct := Nx, bk := D.nx } m Hr σ2 H2)
theorem gpl_loop {X A : Around} {c c' : Code} {fs : List Frame} {gd : Bool → Bool} {k : Result → Sem PySem.Fin} {l kp : List Value} {q : Pos} (g : GPl X A c fs gd) (hw : c'.weight = 0) (hu : c'.cUnits = 0) : GPl X A c' (.ret k none (gd false) l c q kp :: fs) id where
  over := (GenW.over_loop hw hu).trans g.over
  split := by
    show (splitAtGen fs).map _ = none
    rw [g.split]; rfl
  guard := by
    show (gd false || fs.any Frame.guarded) = false
    rw [g.gd, g.guard]; rfl
  gd := rfl
theorem gt_for {tg iter : Expr} {body : List Stmt} {pos : Pos} {wi : TI} {gt : TG} {tb : TGm} (hi : ∀ sb H0, PI (gcx P w K mg base N qual scope f cd A outer L sb H0) tg iter wi) (hg : ∀ sb H0, PG (gcx P w K mg base N qual scope f cd A outer L sb H0) tg gt)
    (hb : GTb P w K mg base N qual scope f cd A outer L body tb) (hs : ∀ x, foldedSetIterable iter (envOfC qual scope L f cd) x = pure x := by intro _; rfl) : GTs P w K mg base N qual scope f cd A outer L (.For tg iter body [] pos) (tGf wi gt tb) := by
  refine ⟨fun C D m V ip c fs Kf J gd lv s σ H g k I ht => ?_⟩
  show Sg _ A _ c ((exec (.For tg iter body [] pos) (envOfC qual scope L f cd)).wrap Kf J gd lv) fs s
  rw [exec_For]
  refine sg_bindW (wpAny_standAt (sg_bindW ?_))
  rw [g.over]
  refine wpAny_mono ((hi (tr L V.s) V.H).run _ s σ H _ I.2 ht) (fun v s1 h1 => ?_) fun x s' hx => hx.elim
  refine sg_bindW (wpAny_of_eq (hs v) (sg_bindW (wpAny_standAt (sg_bindW (wpAny_holding ?_)))))
  rw [g.over]
  refine wpAny_mono h1 (fun itv s2 h2 => ?_) fun x s' hx => hx.elim
  obtain ⟨it, fp, tn, Jt, H2, e, I2, T, st2, f2, W, ⟨z0, w0⟩, turn⟩ := h2
  subst e
  have tsz : ∀ V : View, L < V.s.heap.objs.size → (tr L V.s).heap.objs.size = L := fun V h => trH_size (Nat.le_of_lt h)
  have hLb : ∀ b ∈ fp, L ≤ b := fun b hb => by
    have z := (f2 b hb).2.2.2.1
    rcases z with z | z
    · exact absurd (show b ∈ ([] : List Addr) from z) (by simp)
    · have z : (tr L V.s).heap.objs.size ≤ b := z
      rw [tsz V I.1.1] at z
      exact z
  have stat : ∀ (V : View) {H' : Hp}, L < V.s.heap.objs.size → (∀ b ∈ fp, H' b = none) → (∀ b ∈ fp, ∀ p ∈ V.pins ++ ip, p.1 ≠ b) → ∀ b ∈ fp, FpOk (gcx P w K mg base N qual scope f cd A outer L (tr L V.s) V.H) (V.pins ++ ip) H' b := fun V H' hl hn hp b hb =>
    ⟨hn b hb, (f2 b hb).2.1, (f2 b hb).2.2.1, .inr (by show (tr L V.s).heap.objs.size ≤ b; rw [tsz V hl]; exact hLb b hb), (f2 b hb).2.2.2.2.1, fun p hq => hp b hb p (show p ∈ V.pins ++ ip from hq)⟩
  show Sg _ A _ c ((runOwn (.forLoop tg (.ref it) body [] (envOfC qual scope L f cd)) (envOfC qual scope L f cd)).wrap Kf J gd lv) fs s2
  refine sg_call fun q => ?_
  have loop : ∀ (z i m : Nat) (V : View) (s : Shared) (σ : L2.St) (H : Hp), W i z m V.H σ H → GIn P w K mg base N qual scope f cd A outer L V ip σ H s → tn i s.heap → (∀ b ∈ fp, H b = none) → (∀ b ∈ fp, ∀ p ∈ V.pins ++ ip, p.1 ≠ b) →
      Sg (model P w) A (Fut P w K mg base N qual scope f cd A outer L C m V) (.forLoop tg (.ref it) body [] (envOfC qual scope L f cd)) ((model P w).den (.forLoop tg (.ref it) body [] (envOfC qual scope L f cd)))
        (.ret (fun r => ((match r with | .ok f => (.pure f : Sem Flow) | .error e => .raise e).onRaise fun (x : Value) => do
          if (← field x 1) == Value.none then unsupported "frame.own-activation:exception-without-traceback"
          setFlight x (envOfC qual scope L f cd).frame).wrap Kf J gd lv) none (gd false) (lv []) c q [] :: fs) s := by
    intro z
    induction z using Nat.strongRecOn with
    | ind z ih =>
      intro i m V s σ H hw hI hst hfr hpn
      have gl := fun (kk : Result → Sem PySem.Fin) => gpl_loop (k := kk) (c' := .forLoop tg (.ref it) body [] (envOfC qual scope L f cd)) (l := lv []) (kp := []) (q := q) g rfl rfl
      show Sg _ A _ _ ((forTurn tg (.ref it) body [] (envOfC qual scope L f cd)).onRaise _) _ s
      rw [Sem.onRaise_eq_wrap]
      unfold forTurn
      refine sg_bindW (wpAny_standAt (sg_bindW ?_))
      rw [(gl _).over]
      rcases turn i z m V.H σ H hw with ⟨stop, qn⟩ | ⟨go, Nx, hN, step⟩
      · refine wpAny_onRaise (wpAny_mono (T.done (gcx P w K mg base N qual scope f cd A outer L (tr L V.s) V.H) rfl rfl rfl rfl i _ s σ H (fun _ _ => False) hI.2 (stat V hI.1.1 hfr hpn) hst stop) (fun r s4 ⟨hr, I4⟩ => ?_) fun _ _ hx => hx.elim)
        subst hr
        refine sg_again rfl ?_
        exact sg_leaf (.ok .next) (k m V .next s4 ⟨hI.1, σ, H, I4, qn⟩)
      · refine wpAny_onRaise (wpAny_mono (T.item (gcx P w K mg base N qual scope f cd A outer L (tr L V.s) V.H) rfl rfl rfl rfl i _ s σ H (fun _ _ => False) hI.2 (stat V hI.1.1 hfr hpn) hst go) (fun r s4 ⟨u, hr, h4⟩ => ?_) fun _ _ hx => hx.elim)
        subst hr
        refine sg_bindW ?_
        rw [(gl _).over]
        refine wpAny_mono h4 (fun _ s5 ⟨x, H5, I5, r5, y5, st5, fr5⟩ => ?_) fun _ _ hx => hx.elim
        have I5' := I5.pinned (stat V hI.1.1 fr5 hpn) (T.obj _ _ st5)
        refine sg_bindW ?_
        rw [(gl _).over]
        refine wpAny_mono ((hg (tr L V.s) V.H).run _ s5 σ H5 x u _ I5' r5 (step x H5 y5)) (fun _ s6 ⟨σ6, H6, I6, q6⟩ => ?_) fun _ _ hx => hx.elim
        rw [Sem.bind_eq_wrap', Sem.wrap_wrap]
        have dis : ∀ V' : View, (∀ p ∈ V'.pins, ∀ q ∈ ip ++ pinsAt fp s5.heap, p.1 ≠ q.1) → (∀ b ∈ ip, ∀ c ∈ fp, b.1 ≠ c) → ∀ b ∈ fp, ∀ p ∈ V'.pins ++ ip, p.1 ≠ b := fun V' h1 h2 b hb p hp => by
          rcases List.mem_append.mp hp with hp | hp
          · obtain ⟨o, e, _⟩ := T.obj _ _ st5 b hb
            exact h1 p hp (b, o) (List.mem_append_right _ (mem_pinsAt hb e))
          · exact h2 p hp b hb
        have ipf : ∀ b ∈ ip, ∀ c ∈ fp, b.1 ≠ c := fun b hb c hc => hpn c hc b (List.mem_append_right _ hb)
        have I6' : Inv (gcx P w K mg base N qual scope f cd A outer L (tr L V.s) V.H) (V.pins ++ (ip ++ pinsAt fp s5.heap)) σ6 H6 s6 := by rw [← List.append_assoc]; exact I6
        refine hb.run C { D with nx := Nx, ct := Nx, bk := D.nx } m V (ip ++ pinsAt fp s5.heap) _ _ _ _ _ _ s6 σ6 H6 ⟨(gl _).over, (gl _).split, (gl _).guard, rfl⟩ (fun m' V' fl s7 hs7 => ?_) ⟨⟨hI.1.1, fun p hp q hq => ?_, fun q hq => ?_⟩, I6'⟩ q6
        · obtain ⟨⟨o1, o2, _⟩, hs7⟩ := hs7
          have o3 : GOk L V' ip := ⟨o1, fun p hp q hq => o2 p hp q (List.mem_append_left _ hq), hI.1.2.2⟩
          have un : ∀ {σ' : L2.St} {H' : Hp}, Inv (gcx P w K mg base N qual scope f cd A outer L (tr L V'.s) V'.H) (V'.pins ++ (ip ++ pinsAt fp s5.heap)) σ' H' s7 → Inv (gcx P w K mg base N qual scope f cd A outer L (tr L V'.s) V'.H) (V'.pins ++ ip) σ' H' s7 := fun {σ' H'} I' => by
            rw [← List.append_assoc] at I'
            exact I'.unpinned
          have again : ∀ {σ7 : L2.St} {H7 : Hp}, Inv (gcx P w K mg base N qual scope f cd A outer L (tr L V'.s) V'.H) (V'.pins ++ (ip ++ pinsAt fp s5.heap)) σ7 H7 s7 → Nx m' V'.H σ7 H7 → ∃ z', z' < z ∧ W (i + 1) z' m' V'.H σ7 H7 ∧ tn (i + 1) s7.heap ∧ ∀ b ∈ fp, H7 b = none := fun {σ7 H7} I7 n7 => by
            obtain ⟨z', hz, w7⟩ := hN m' V'.H σ7 H7 n7
            have pin : ∀ b ∈ fp, ∀ o, s5.heap.get? b = some o → s7.heap.get? b = some o ∧ H7 b = none := fun b hb o e => by
              have z := I7.pin (b, o) (List.mem_append_right _ (List.mem_append_right _ (List.mem_append_right _ (mem_pinsAt hb e))))
              exact ⟨z.1, z.2.1⟩
            refine ⟨z', hz, w7, T.keep _ _ _ st5 fun b hb o e => (pin b hb o e).1, fun b hb => ?_⟩
            obtain ⟨o, e, _⟩ := T.obj _ _ st5 b hb
            exact (pin b hb o e).2
          cases fl with
          | next =>
            obtain ⟨σ7, H7, I7, n7⟩ := hs7
            obtain ⟨z', hz, w7, t7, e7⟩ := again I7 n7
            exact sg_again rfl (ih z' hz (i + 1) m' V' s7 σ7 H7 w7 ⟨o3, un I7⟩ t7 e7 (dis V' o2 ipf))
          | cont =>
            obtain ⟨σ7, H7, I7, n7⟩ := hs7
            obtain ⟨z', hz, w7, t7, e7⟩ := again I7 n7
            exact sg_again rfl (ih z' hz (i + 1) m' V' s7 σ7 H7 w7 ⟨o3, un I7⟩ t7 e7 (dis V' o2 ipf))
          | brk => obtain ⟨σ7, H7, I7, n7⟩ := hs7; exact sg_leaf (.ok .next) (k m' V' .next s7 ⟨o3, σ7, H7, un I7, n7⟩)
          | ret v => obtain ⟨x7, σ7, H7, I7, r7, n7⟩ := hs7; exact sg_leaf (.ok (.ret v)) (k m' V' (.ret v) s7 ⟨o3, x7, σ7, H7, un I7, r7, n7⟩)
        · rcases List.mem_append.mp hq with hq | hq
          · exact hI.1.2.1 p hp q hq
          · exact hpn q.1 (of_pinsAt hq).1 p (List.mem_append_left _ hp)
        · rcases List.mem_append.mp hq with hq | hq
          · exact hI.1.2.2 q hq
          · exact Nat.lt_of_le_of_ne (hLb q.1 (of_pinsAt hq).1) (Ne.symm (f2 q.1 (of_pinsAt hq).1).2.1)
  exact loop z0 0 m V s2 σ H2 w0 ⟨I.1, I2⟩ st2 (fun b hb => (f2 b hb).1) fun b hb p hp => (f2 b hb).2.2.2.2.2 p hp
end
/-! ### a generator sleeps; it is woken anew -/
/-- a generator def's names: the parameters first, none of them captured -/
structure GScp (N ps : List Str) (sc : Scope) : Prop where
  kind : sc.kind = .function
  co : sc.isCoroutine = false
  gen : sc.isGenerator = true
  nd : N.Nodup
  pre : N.take ps.length = ps
  par : ∀ x ∈ ps, sc.names.lookup x = some .local
  loc : ∀ y ∈ sc.names, y.2 ≠ .free ∧ y.2 ≠ .cell
  nc : ∀ n, cellsFrom n sc.names [] = []
theorem GScp.kindOf {N ps : List Str} {sc : Scope} (S : GScp N ps sc) {x : Str} (h : sc.names.lookup x = some .cell ∨ sc.names.lookup x = some .free) : False := by
  rcases h with h | h
  · exact (S.loc _ (PySem.mem_of_lookup h)).2 rfl
  · exact (S.loc _ (PySem.mem_of_lookup h)).1 rfl
/-- its slots, as they stand in its frame -/
def Slp (N : List Str) (scope : Scope) (L : Addr) (σ : L2.St) (h : Heap) : Prop :=
  σ.length = N.length ∧ ∃ m, h.Ns L m ∧ ∀ (i : Nat) (x : Str) (v : V), N[i]? = some x → σ[i]? = some (some v) → Vis scope x → ∃ u, RelV v u ∧ scope.names.lookup x = some .local ∧ m x = some u
theorem Slp.at {N : List Str} {scope : Scope} {L : Addr} {σ : L2.St} {h h' : Heap} (z : Slp N scope L σ h) (e : ∀ o, h.get? L = some o → h'.get? L = some o) : Slp N scope L σ h' := by
  obtain ⟨l, m, n, q⟩ := z
  exact ⟨l, m, n.at' e, q⟩
/-- what a def's own things are older than -/
structure OldX (X : Cx) (pins : List (Addr × Obj)) (L : Addr) : Prop where
  loc : X.env.locals < L
  cel : ∀ x c, X.env.cells.lookup x = some c → c < L
  pin : ∀ p ∈ X.pn ++ pins, p.1 < L
  s0 : X.s_0.heap.objs.size ≤ L
  bas : X.base.objs.size ≤ L
  frm : ∀ b ∈ frs X.stack, b < L
theorem old_of {X : Cx} {pins : List (Addr × Obj)} {σ : L2.St} {H : Hp} {s : Shared} {L : Addr} (I : Inv X pins σ H s) (h : s.heap.objs.size ≤ L) : OldX X pins L where
  loc := Nat.lt_of_lt_of_le I.lt h
  cel := fun x c e => by
    obtain ⟨v, q⟩ := I.cell x c e
    exact Nat.lt_of_lt_of_le q.lt h
  pin := fun p hp => Nat.lt_of_lt_of_le (Heap.lt_size (I.pin p hp).1) h
  s0 := Nat.le_trans I.sz h
  bas := Nat.le_trans (Nat.le_trans I.ok.bsz I.sz) h
  frm := fun b hb => by
    obtain ⟨_, o, ho, _⟩ := I.stack.mem hb
    exact Nat.lt_of_lt_of_le (Heap.lt_size ho) h
theorem regens {X : Cx} {pins : List (Addr × Obj)} {σ : L2.St} {H : Hp} {s s' : Shared} (I : Inv X pins σ H s) (h : s'.heap = s.heap) (o : s'.os = s.os) (g : AllBare s'.gens) : Inv X pins σ H s' :=
  ⟨I.ok, o.trans I.os, g, by rw [h]; exact I.base, by rw [h]; exact I.loc, by rw [h]; exact I.cell, I.free, I.freeC, by rw [h]; exact I.pin, by rw [h]; exact I.hok, I.len⟩
theorem trFrames {L : Nat} {h base : Heap} : ∀ {l : List Env}, h.FunFrames base l → (∀ b ∈ frs l, b < L) → (trH L h).FunFrames base l
  | [], _, _ => trivial
  | env :: l, q, hb => by
    obtain ⟨q1, ⟨a, o, e1, e2, e3, e4⟩, q3⟩ := q
    refine ⟨q1, ⟨a, o, e1, e2, ?_, e4⟩, trFrames q3 fun b hm => hb b ?_⟩
    · rw [trH_get (hb a (by unfold frs; simp [e1]))]; exact e3
    · unfold frs at hm ⊢
      rw [List.filterMap_cons, e1]
      exact List.mem_cons_of_mem _ hm
section
variable {X : Cx} {pins pv ip : List (Addr × Obj)} {σc σ : L2.St} {H H' : Hp} {s s' : Shared} {L f : Addr} {N ps : List Str} {qual : Str} {scope : Scope} {cd : Value} {A : Around}
/-- these objects stand, untracked, apart from the frame at L and from the callers' -/
def Stand (X : Cx) (L : Addr) (H : Hp) (h : Heap) (ip : List (Addr × Obj)) : Prop := ∀ p ∈ ip, h.get? p.1 = some p.2 ∧ H p.1 = none ∧ L < p.1 ∧ ∀ v, p.2.data ≠ .cell v
theorem gin_of (I : Inv X pins σc H s) (O : OldX X pins L) (S : GScp N ps scope) (hh : A.handled = none) (hA : A.frames = some X.stack) (hL : L < s.heap.objs.size) (hL0 : H L = none) (z : Slp N scope L σ s.heap) (hp : Stand X L H s.heap (pv ++ ip)) (hd : ∀ p ∈ pv, ∀ q ∈ ip, p.1 ≠ q.1) :
    GIn X.prog X.w X.K X.mg X.base N qual scope f cd A X.stack L ⟨s, H, pv⟩ ip σ H s := by
  obtain ⟨zl, m, zn, zq⟩ := z
  have sz : (trH L s.heap).objs.size = L := trH_size (Nat.le_of_lt hL)
  have noA : ∀ b : Addr, b ∉ ([] : List Addr) := fun b z => by simp at z
  have noC : ∀ x c, (envOfC qual scope L f cd).cells.lookup x = some c → False := fun x c e => by
    have e : (cellsFrom (L + 1) scope.names []).lookup x = some c := e
    rw [S.nc] at e
    cases e
  refine ⟨⟨hL, hd, fun q hq => (hp q (List.mem_append_right _ hq)).2.2.1⟩, ⟨⟨I.ok.mod, S.kind, rfl, rfl, by show (trH L s.heap).objs.size ≤ L; omega, fun x y c h1 _ => (noC x c h1).elim, fun x hx => (S.kindOf hx).elim, fun x c _ h1 => (noC x c h1).elim, fun _ => hh, Around.frames_deeper hA, .inr ⟨rfl, rfl⟩, fun b hb => absurd hb (noA b), fun b o e => ?_, by show _ ≤ (trH L s.heap).objs.size; rw [sz]; exact O.bas, fun b _ _ => noA b, fun b hb => absurd hb (noA b), trFrames I.stack O.frm, I.stkFree⟩,
    rfl, I.bare, ?_, ⟨m, zn, fun i x v e1 e2 e3 => ?_⟩, fun x c h1 => (noC x c h1).elim, hL0, fun x c h1 => (noC x c h1).elim, fun p hq => ?_, I.hok, zl⟩⟩
  · have z := I.bs b o e
    exact ⟨by show (trH L s.heap).get? b = some o; rw [trH_get (Nat.lt_of_lt_of_le (Heap.lt_size e) O.bas)]; exact z.1, z.2⟩
  · exact Un.kept fun b u q => (trH_sub q).1
  · obtain ⟨u, r, k, q⟩ := zq i x v e1 e2 e3
    exact ⟨u, r, .inl ⟨k, q⟩⟩
  · have hq : p ∈ pv ++ ip := hq
    obtain ⟨h1, h2, h3, h4⟩ := hp p hq
    exact ⟨h1, h2, Nat.ne_of_gt h3, fun hb => absurd (O.frm p.1 hb) (Nat.lt_asymm h3), h4⟩
/-- all addresses from L on -/
def young (L : Nat) (h : Heap) : List Addr := (List.range h.objs.size).filter fun b => decide (L ≤ b)
theorem mem_young {L b : Nat} {h : Heap} : b ∈ young L h ↔ b < h.objs.size ∧ L ≤ b := by simp [young]
/-- what the consumer knows behind a stretch -/
theorem gin_back (I : Inv X pins σc H s) (O : OldX X pins L) (S : GScp N ps scope) (G : GIn X.prog X.w X.K X.mg X.base N qual scope f cd A X.stack L ⟨s, H, pv⟩ ip σ H' s') :
    Inv X pins σc H' s' ∧ Slp N scope L σ s'.heap ∧ H' L = none ∧ (∀ p ∈ pv ++ ip, s'.heap.get? p.1 = some p.2 ∧ H' p.1 = none ∧ p.1 ≠ L ∧ ∀ v, p.2.data ≠ .cell v) ∧ (∀ p ∈ pv, ∀ q ∈ ip, p.1 ≠ q.1) ∧ (∀ q ∈ ip, L < q.1) ∧ (∀ b o, b < L → s.heap.get? b = some o → H b = none → b ∉ frs X.stack → s'.heap.get? b = some o) := by
  obtain ⟨⟨hL, hd, hy⟩, J⟩ := G
  have U : Un (frs X.stack) [] H H' (trH L s.heap) s'.heap := J.base
  have noA : ∀ b : Addr, b ∉ ([] : List Addr) := fun b z => by simp at z
  refine ⟨I.call' (ch := young L s.heap) (J.os.trans rfl) ⟨fun b o e n hf hx => ?_, fun b o e n hf hx => ?_, fun b o e n hx => ?_, fun b o e hx => ?_, U.tups, U.frzs, U.tbls⟩ J.hok J.bare (fun b hb => ?_), ?_, J.free, fun p hp => ?_, hd, hy, fun b o l e n hf => ?_⟩
  · have l : b < L := Nat.lt_of_not_le fun z => hx (mem_young.mpr ⟨Heap.lt_size e, z⟩)
    exact U.keep b o (by rw [trH_get l]; exact e) n hf (noA b)
  · have l : b < L := Nat.lt_of_not_le fun z => hx (mem_young.mpr ⟨Heap.lt_size e, z⟩)
    exact U.slot b o (by rw [trH_get l]; exact e) n hf (noA b)
  · have l : b < L := Nat.lt_of_not_le fun z => hx (mem_young.mpr ⟨Heap.lt_size e, z⟩)
    exact U.free b o (by rw [trH_get l]; exact e) n (noA b)
  · have l : b < L := Nat.lt_of_not_le fun z => hx (mem_young.mpr ⟨Heap.lt_size e, z⟩)
    exact U.there b o (by rw [trH_get l]; exact e) (noA b)
  · have hb := (mem_young.mp hb).2
    exact ⟨.inr (Nat.le_trans O.s0 hb), Nat.ne_of_gt (Nat.lt_of_lt_of_le O.loc hb), fun x c e => Nat.ne_of_lt (Nat.lt_of_lt_of_le (O.cel x c e) hb), fun p hp => Nat.ne_of_lt (Nat.lt_of_lt_of_le (O.pin p hp) hb)⟩
  · obtain ⟨m, hn, hq⟩ := J.loc
    refine ⟨J.len, m, hn, fun i x v e1 e2 e3 => ?_⟩
    obtain ⟨u, r, q⟩ := hq i x v e1 e2 e3
    rcases q with ⟨q1, q2⟩ | ⟨q1, _⟩
    · exact ⟨u, r, q1, q2⟩
    · exact (S.kindOf q1).elim
  · obtain ⟨h1, h2, h3, h4, h5⟩ := J.pin p hp
    exact ⟨h1, h2, h3, h5⟩
  · exact U.keep b o (by rw [trH_get l]; exact e) n hf (noA b)
end
/-! ### waking it: next -/
def Go1 (M : Model) (A : Around) (Φ : End → Shared → Prop) (gs : GenState) (s : Shared) : Prop := match gs with
  | .fresh c => Sg M A Φ c (M.den c) [] s
  | .suspended k _ c _ fs _ => Sg M A Φ c (k (.send .none)) fs s
  | _ => False
section
variable {M : Model} {A : Around} {Φ : End → Shared → Prop} {E : Value → Shared → Prop} {s : Shared}
theorem resumeS {α : Type} {k : GenResult → Sem α} {Q : α → Shared → Prop} {l : List Value} {g : Nat} {gs : GenState} (hg : s.gens[g]? = some gs) (go : Go1 M A Φ gs (s.setGen g .running))
    (hR : ∀ r s₁, Φ (.ret r) s₁ → wpAny M A (k (End.ret r).result) Q E (s₁.setGen g .finished))
    (hY : ∀ v d l' k' c p fs s₁, s.gens.size ≤ s₁.gens.size → Φ (.susp v d l' k' c p fs) s₁ → (End.susp v d l' k' c p fs).quiet = true ∧ wpAny M A (k (.yielded v)) Q E (s₁.setGen g (End.susp v d l' k' c p fs).genState)) :
    wpAny M A (.resume g (.send .none) l k) Q E s := by
  intro Γ q hΓ
  rw [Sem.wp_resume]
  have fin : ∀ e₁ s₁, s.gens.size ≤ s₁.gens.size → Φ e₁ s₁ → e₁.quiet = true ∧ wp M Γ (k e₁.result) (fun a _ z => Q a z) (fun x _ z => E x z) q (s₁.setGen g e₁.genState) := fun e₁ s₁ hz he => by
    cases e₁ with
    | ret r => exact ⟨rfl, hR r s₁ he Γ q hΓ⟩
    | susp v d l' k' c p fs =>
      obtain ⟨h1, h2⟩ := hY v d l' k' c p fs s₁ hz he
      exact ⟨h1, h2 Γ q hΓ⟩
  cases gs with
  | fresh c =>
    obtain ⟨e₁, s₁, hr, he⟩ := go (Γ.wake c q) q rfl (hΓ.wake c q)
    have hz : s.gens.size ≤ s₁.gens.size := by have z := GenW.runs_gsz hr; rw [GenW.setGen_size] at z; exact z
    obtain ⟨h1, h2⟩ := fin e₁ s₁ hz he
    exact ⟨_, _, by unfold Wakes; rw [hg]; exact ⟨e₁, s₁, hr, h1, rfl, rfl⟩, h2⟩
  | suspended k₀ l₀ c₀ p₀ fs₀ cl =>
    obtain ⟨e₁, s₁, hr, he⟩ := go (Γ.wake c₀ q) p₀ rfl (hΓ.wake c₀ q)
    have hz : s.gens.size ≤ s₁.gens.size := by have z := GenW.runs_gsz hr; rw [GenW.setGen_size] at z; exact z
    obtain ⟨h1, h2⟩ := fin e₁ s₁ hz he
    exact ⟨_, _, by unfold Wakes; rw [hg]; exact ⟨e₁, s₁, hr, h1, rfl, rfl⟩, h2⟩
  | running => exact go.elim
  | finished => exact go.elim
end
section
variable {P : Program} {w : World} {A : Around} {Φ : End → Shared → Prop} {E : Value → Shared → Prop} {s : Shared}
theorem nextS {a : Addr} {g : Nat} {gs : GenState} {Q : Option Value → Shared → Prop} (hh : A.handled = none) (hl : s.heap.NoLimit) (hroom : A.depth < recursionLimit) (hg : s.heap.IsGen a g) (hgs : s.gens[g]? = some gs)
    (go : Go1 (model P w) A.in1 Φ gs (s.setGen g .running))
    (hP : ∀ r s₁, Φ (.ret r) s₁ → r = .ok (.ret .none) ∧ ∀ h', (∀ b o, s₁.heap.get? b = some o → h'.get? b = some o) → Q none { s₁.setGen g .finished with heap := h' })
    (hY : ∀ v d l' k' c p fs s₁, s.gens.size ≤ s₁.gens.size → Φ (.susp v d l' k' c p fs) s₁ → (End.susp v d l' k' c p fs).quiet = true ∧ Q (some v) (s₁.setGen g (End.susp v d l' k' c p fs).genState)) :
    wpAny (model P w) A (pyNext (.ref a)) Q E s := by
  unfold pyNext
  refine wpAny_bind (wpAny_attempt (wpAny_callSpecial?_slot (name := Str.ofString "__next__") hg.typeIs slot_gen_next (wpAny_call_entry slot_gen_next hg.typeIs entry_gen_next ?_ (args_gen_next _))))
  show wpAny _ A.in1 (Builtin.Generator.genWake (.ref a) (.send .none)) _ _ s
  unfold Builtin.Generator.genWake
  refine wpAny_bind (wpAny_holding (wpAny_genNumber hg (wpAny_bind (wpAny_genState hgs ?_))))
  cases gs with
  | running => exact go.elim
  | finished => exact go.elim
  | _ =>
    refine wpAny_bind (wpAny_roomToWake hl hroom ?_)
    show wpAny _ A.in1 (.resume g (.send .none) [] _) _ _ s
    refine resumeS hgs go (fun r s₁ he => ?_) (fun v d l' k' c p fs s₁ hz he => ?_)
    · obtain ⟨rfl, hq⟩ := hP r s₁ he
      show wpAny _ A.in1 (newExc (.type "StopIteration") [] >>= _) _ _ _
      refine wpAny_bind ?_
      simp only [newExc, newTuple]
      refine wpAny_bind (wpAny_newObj_type ?_ (by size_fits))
      refine wpAny_bind (m := firstArgMember _ _) (wpAny_of_eq (a := Value.none) (by first | rfl | (simp only [firstArgMember]; rfl)) ?_)
      refine wpAny_newObj_type ?_ (by size_fits)
      simp only [raiseNew]
      refine wpAny_bind (wpAny_bind (wpAny_handled ?_))
      first | rw [show A.in1.handled = none from hh] | rw [hh]
      refine wpAny_throw ?_
      refine wpAny_bind (wpAny_isInstance (T := "StopIteration") (b := true) ⟨_, Heap.get?_push_size _ rfl, rfl⟩ isSubtype_stop ?_)
      exact wpAny_pure (hq _ fun b o hb => Heap.get?_push_of_some _ (Heap.get?_push_of_some _ hb))
    · obtain ⟨h1, h2⟩ := hY v d l' k' c p fs s₁ hz he
      exact ⟨h1, wpAny_pure ⟨v, rfl, wpAny_pure h2⟩⟩
end
/-! ### a generator def called -/
/-- a generator that has not begun: a its object, g its number, L its frame, σ its slots; n items by the contract C, made at H -/
structure GMk (P : Program) (w : World) (K : PySem.W.Frag) (mg : Str → Option Value) (base : Heap) (k : Nat) (C : Ctr) (n : Nat) (H : Hp) (outer : List Env) (s : Shared) (a g : Nat) (N ps : List Str) (qual : Str) (scope : Scope) (f : Addr) (cd : Value) (body : List Stmt) (σ : L2.St) (s' : Shared) : Prop where
  la : s.heap.objs.size < a
  lt : a < s'.heap.objs.size
  isg : s'.heap.IsGen a g
  gs : s'.gens[g]? = some (.fresh (.func body (envOfC qual scope s.heap.objs.size f cd)))
  os : s'.os = s.os
  bare : AllBare s'.gens
  keep : ∀ b o, s.heap.get? b = some o → s'.heap.get? b = some o
  slp : Slp N scope s.heap.objs.size σ s'.heap
  scp : GScp N ps scope
  go : ∀ A : Around, Room k A → A.frames = some outer → ∀ V : View, GIn P w K mg base N qual scope f cd A outer s.heap.objs.size V [] σ V.H V.s → C.ok n H V.H →
    Sg (model P w) A (Fut P w K mg base N qual scope f cd A outer s.heap.objs.size C n V) (.func body (envOfC qual scope s.heap.objs.size f cd)) ((model P w).den (.func body (envOfC qual scope s.heap.objs.size f cd))) [] V.s
/-- a generator def's promise: arguments, heap, what is wanted of the number of its items and of its contract -/
abbrev SpM := List V → Hp → (Nat → Ctr → Prop) → Prop
structure GFm (P : Program) (w : World) (K : PySem.W.Frag) (mg : Str → Option Value) (base : Heap) (k : Nat) (f : Addr) (fd : FuncData) (ps : List Str) (sp : SpM) : Prop where
  len : ∀ vs H R, sp vs H R → vs.length = ps.length
  run : ∀ (A : Around) (outer : List Env) (s : Shared) (H : Hp) (args : Args) (us : List Value) (vs : List V) (R : Nat → Ctr → Prop), Room k A → Env0 P w K mg base A outer s H → BindsTo s fd args (ps.zip us) → Vals vs us → sp vs H R →
    codeAny (model P w) A (.call (.ref f) args) (fun r s' => ∃ n C a g N qual scope cd body σ, r = .ok (.ret (.ref a)) ∧ R n C ∧ GMk P w K mg base k C n H outer s a g N ps qual scope f cd body σ s') s
theorem gfm_of {P : Program} {w : World} {K : PySem.W.Frag} {mg : Str → Option Value} {base : Heap} {k : Nat} {f : Addr} {name qual : Str} {params : Arguments} {body : List Stmt} {scope : Scope} {dV kV doc pm cdv ct oc : Value} {an od : Option Addr}
    {osl : Array (Option Value)} {N ps : List Str} {sp : SpM} (lk : K.lookup f = some ⟨oc, od, .func (PySem.W.fnOf name qual params body scope dV kV doc pm an cdv ct), osl⟩) (hcd : PySem.W.codeIn K cdv qual = true) (S : GScp N ps scope)
    (len : ∀ vs H R, sp vs H R → vs.length = ps.length)
    (hbody : ∀ (A : Around) (outer : List Env) (L : Addr) (H : Hp) (vs : List V) (R : Nat → Ctr → Prop), sp vs H R → ∃ n C, R n C ∧ ∀ (A : Around) (outer : List Env) (L : Addr), Room k (A.deeper (envOfC qual scope L f cdv)) → ∃ t, GTb P w K mg base N qual scope f cdv A outer L body t ∧
      ∀ H2, C.ok n H H2 → t C { nx := fun m Hr _ H' => m = 0 ∧ C.fin Hr H', rt := fun m Hr v H' => v = .non ∧ m = 0 ∧ C.fin Hr H' } n H2 (start N vs) H2) :
    GFm P w K mg base (k + 1) f (PySem.W.fnOf name qual params body scope dV kV doc pm an cdv ct) ps sp := by
  refine ⟨len, fun A outer s H args us vs R hr e0 hb r hsp => ?_⟩
  have hl := len _ _ _ hsp
  have KX : K.In s.heap := e0.mod.kin.keeps fun b o e => (e0.bs b o e).1
  have lim : s.heap.NoLimit := e0.mod.nolimit.keeps fun b o e => (e0.bs b o e).1
  have hkind : ∀ y ∈ ps.zip us, scope.names.lookup y.1 = some .local ∨ (scope.names.lookup y.1 = some .cell ∧ ((cellsFrom (s.heap.objs.size + 1) scope.names []).lookup y.1).isSome = true) := fun ⟨n, v⟩ hy => .inl (S.par n (List.of_mem_zip hy).1)
  obtain ⟨n, C, hR, hgo⟩ := hbody A outer s.heap.objs.size H vs R hsp
  refine codeAny_call_generator hr.depth (KX _ _ lk) rfl S.co S.gen rfl (PySem.W.codeRec_of KX hcd) (hb _ _ _ _ ?_)
  refine wpAny_newFunctionEnv_cells S.kind hkind fun env he s1 x => ?_
  subst he
  have lim1 : s1.heap.NoLimit := lim.keeps x.toInCall.keep
  refine ⟨lim1, ?_⟩
  obtain ⟨h1, tk, es1, hk1⟩ := x.done
  have os1 : s1.os = s.os := by rw [es1]
  have gen1 : s1.gens = s.gens := by rw [es1]
  have lt1 : s.heap.objs.size < s1.heap.objs.size := x.toInCall.ns.lt
  have kp1 : ∀ b o, s.heap.get? b = some o → s1.heap.get? b = some o := x.toInCall.keep
  have hpl : ps.length ≤ N.length := by have := congrArg List.length S.pre; rw [List.length_take] at this; omega
  have ndP : ps.Nodup := by rw [← S.pre]; exact S.nd.sublist (List.take_sublist _ _)
  refine ⟨n, C, _, s1.gens.size, N, qual, scope, cdv, body, start N vs, rfl, hR, lt1, ?_, ⟨_, _, _, Heap.get?_push_size _ rfl, rfl, rfl, rfl⟩, Array.getElem?_push_size .., os1, AllBare.push (by rw [gen1]; exact e0.bare) rfl, fun b o e => Heap.get?_push_of_some _ (kp1 b o e), ?_, S, ?_⟩
  · show _ < (s1.heap.push _).objs.size
    rw [Heap.size_push]; exact Nat.lt_succ_self _
  · refine Slp.at (h := s1.heap) ⟨?_, _, x.toInCall.ns, fun i y v h1 h2 h3 => ?_⟩ (fun o e => Heap.get?_push_of_some _ e)
    · unfold L2.start
      rw [List.length_append, List.length_map, List.length_replicate]
      omega
    · have hi : i < vs.length := by
        unfold L2.start at h2
        by_cases hi : i < vs.length
        · exact hi
        · rw [List.getElem?_append_right (by simpa using hi), List.getElem?_replicate] at h2
          split at h2 <;> cases h2
      have ha : vs[i]? = some v := by
        unfold L2.start at h2
        rw [List.getElem?_append_left (by simpa using hi), List.getElem?_map] at h2
        cases e : vs[i]? with
        | none => rw [e] at h2; cases h2
        | some a => rw [e] at h2; cases h2; rfl
      obtain ⟨u, hu, rv⟩ := r.get ha
      have hp : ps[i]? = some y := by
        rw [← S.pre, List.getElem?_take_of_lt (by omega)]; exact h1
      have k := S.par y (List.mem_of_getElem? hp)
      exact ⟨u, rv, k, bindL_get ndP hp hu k⟩
  · intro Aw hrw hfr V G hok
    obtain ⟨t, ht, hq⟩ := hgo Aw outer s.heap.objs.size (hrw.deeper _)
    show Sg _ Aw _ _ (.point [] fun _ => ((execs body (envOfC qual scope s.heap.objs.size f cdv)).onRaise (leaving (envOfC qual scope s.heap.objs.size f cdv))) >>= _) [] V.s
    refine sg_point ?_
    rw [Sem.onRaise_eq_wrap, Sem.bind_eq_wrap', Sem.wrap_wrap]
    refine ht.run C _ n V [] _ [] _ _ _ _ V.s _ V.H ⟨GenW.over_func, rfl, rfl, rfl⟩ (fun m' V' fl s' hs => ?_) G (hq V.H hok)
    obtain ⟨o, hs⟩ := hs
    cases fl with
    | next =>
      obtain ⟨σ', H', I', q⟩ := hs
      exact sg_end (.ok (.ret .none)) (fut_ret ⟨rfl, q.1, [], σ', H', ⟨o, I'⟩, q.2⟩)
    | brk => obtain ⟨_, _, _, q⟩ := hs; exact False.elim q
    | cont => obtain ⟨_, _, _, q⟩ := hs; exact False.elim q
    | ret u =>
      obtain ⟨v, σ', H', I', rv, ev, q⟩ := hs
      subst ev
      have eu : u = Value.none := rv
      subst eu
      exact sg_end (.ok (.ret .none)) (fut_ret ⟨rfl, q.1, [], σ', H', ⟨o, I'⟩, q.2⟩)
/-! ### enumerate over a generator -/
section
variable {P : Program} {w : World} {A : Around} {Φ : End → Shared → Prop} {E : Value → Shared → Prop} {s : Shared}
/-- the protocol's own next: the end is an exception -/
theorem nextOfS {a : Addr} {g : Nat} {gs : GenState} {Q : Value → Shared → Prop} (hh : A.handled = none) (hl : s.heap.NoLimit) (hroom : A.depth < recursionLimit) (hg : s.heap.IsGen a g) (hgs : s.gens[g]? = some gs)
    (go : Go1 (model P w) A.in1 Φ gs (s.setGen g .running))
    (hP : ∀ r s₁, Φ (.ret r) s₁ → r = .ok (.ret .none) ∧ ∀ h' e, (∀ b o, s₁.heap.get? b = some o → h'.get? b = some o) → (∃ o, h'.get? e = some o ∧ o.cls = .type "StopIteration") → E (.ref e) { s₁.setGen g .finished with heap := h' })
    (hY : ∀ v d l' k' c p fs s₁, s.gens.size ≤ s₁.gens.size → Φ (.susp v d l' k' c p fs) s₁ → (End.susp v d l' k' c p fs).quiet = true ∧ Q v (s₁.setGen g (End.susp v d l' k' c p fs).genState)) :
    wpAny (model P w) A (Builtin.SmallTypes.nextOf (.ref a)) Q E s := by
  unfold Builtin.SmallTypes.nextOf
  refine wpAny_bind (wpAny_callSpecial?_slot (name := Str.ofString "__next__") hg.typeIs slot_gen_next (wpAny_call_entry slot_gen_next hg.typeIs entry_gen_next ?_ (args_gen_next _)))
  show wpAny _ A.in1 (Builtin.Generator.genWake (.ref a) (.send .none)) _ _ s; unfold Builtin.Generator.genWake
  refine wpAny_bind (wpAny_holding (wpAny_genNumber hg (wpAny_bind (wpAny_genState hgs ?_))))
  cases gs with
  | running => exact go.elim
  | finished => exact go.elim
  | _ =>
    refine wpAny_bind (wpAny_roomToWake hl hroom ?_)
    show wpAny _ A.in1 (.resume g (.send .none) [] _) _ _ s
    refine resumeS hgs go (fun r s₁ he => ?_) (fun v d l' k' c p fs s₁ hz he => ?_)
    · obtain ⟨rfl, hq⟩ := hP r s₁ he
      show wpAny _ A.in1 (newExc (.type "StopIteration") [] >>= _) _ _ _; refine wpAny_bind ?_; simp only [newExc, newTuple]
      refine wpAny_bind (wpAny_newObj_type ?_ (by size_fits)); refine wpAny_bind (m := firstArgMember _ _) (wpAny_of_eq (a := Value.none) (by first | rfl | (simp only [firstArgMember]; rfl)) ?_)
      refine wpAny_newObj_type ?_ (by size_fits); simp only [raiseNew]; refine wpAny_bind (wpAny_bind (wpAny_handled ?_))
      first | rw [show A.in1.handled = none from hh] | rw [hh]
      refine wpAny_throw ?_
      exact hq _ _ (fun b o hb => Heap.get?_push_of_some _ (Heap.get?_push_of_some _ hb)) ⟨_, Heap.get?_push_size _ rfl, rfl⟩
    · obtain ⟨h1, h2⟩ := hY v d l' k' c p fs s₁ hz he
      exact ⟨h1, wpAny_pure ⟨v, rfl, wpAny_pure h2⟩⟩
/-- one step of enumerate, whatever it walks -/
theorem enumStep {e it : Addr} {c : Int} {old : Value} {Q : Value → Shared → Prop} (he : IsEnum s.heap e it c old)
    (h : wpAny (model P w) A (Builtin.SmallTypes.nextOf (.ref it)) (fun x s₁ => IsEnum s₁.heap e it c old ∧ ∀ h', IsEnumOut h' e it (c + 1) x s₁.heap.objs.size → h'.get? s₁.heap.objs.size = some { cls := .type "tuple", data := .seq #[.int c s₁.toks, x] } →
      (∀ b o, b ≠ e → s₁.heap.get? b = some o → h'.get? b = some o) → Q (.ref s₁.heap.objs.size) { s₁ with heap := h', toks := s₁.toks + 1 }) E s) :
    wpAny (model P w) A (Builtin.«enumerate.__next__» ⟨[.ref e], []⟩) (fun fin s' => ∃ v, fin = .done (.ret v) ∧ Q v s') E s := by
  show wpAny _ _ (field (.ref e) 2 >>= _) _ _ _
  refine wpAny_bind (wpAny_field he rfl (x := .ref it) rfl (wpAny_bind (thn h fun x s₁ hx => ?_)))
  obtain ⟨he₁, hQ⟩ := hx
  obtain ⟨h₁, g, d, tk, os⟩ := s₁
  have he₁ : IsEnum h₁ e it c old := he₁
  show wpAny _ _ (field (.ref e) 3 >>= _) _ _ ⟨h₁, g, d, tk, os⟩; refine wpAny_bind (wpAny_field he₁ rfl (x := rawInt c) rfl ?_)
  show wpAny _ _ (field (.ref e) 4 >>= _) _ _ ⟨h₁, g, d, tk, os⟩; refine wpAny_bind (wpAny_field he₁ rfl (x := .none) rfl ?_)
  show wpAny _ _ (mkInt c >>= _) _ _ ⟨h₁, g, d, tk, os⟩; refine wpAny_bind (wpAny_mkInt ?_)
  show wpAny _ _ (setField (.ref e) 3 (rawInt (c + 1)) >>= _) _ _ ⟨h₁, g, d, tk + 1, os⟩
  refine wpAny_bind (wpAny_setField_rec he₁ (by simp) fun h₂ he₂ hs₂ => ?_)
  replace hs₂ : Heap.SameBut e h₁ h₂ := hs₂
  replace he₂ : IsEnum h₂ e it (c + 1) old := he₂
  show wpAny _ _ (setField (.ref e) 4 .none >>= _) _ _ ⟨h₂, g, d, tk + 1, os⟩; refine wpAny_bind (wpAny_setField_rec he₂ (by simp) fun h₃ he₃ hs₃ => ?_)
  replace hs₃ : Heap.SameBut e h₂ h₃ := hs₃
  replace he₃ : IsEnum h₃ e it (c + 1) old := he₃
  show wpAny _ _ (newTuple [.int c tk, x] >>= _) _ _ ⟨h₃, g, d, tk + 1, os⟩; refine wpAny_bind (wpAny_newTuple ?_)
  have he₄ : IsEnum (h₃.push { cls := .type "tuple", data := .seq #[.int c tk, x] }) e it (c + 1) old := Heap.get?_push_of_some _ he₃
  generalize hh₄ : h₃.push { cls := .type "tuple", data := .seq #[.int c tk, x] } = h₄ at he₄
  have hsz : h₃.objs.size = h₁.objs.size := by rw [hs₃.1, hs₂.1]
  have hel : e < h₁.objs.size := Heap.lt_size he₁
  have ht₄ : h₄.get? h₁.objs.size = some { cls := .type "tuple", data := .seq #[.int c tk, x] } := by rw [← hh₄, ← hsz]; exact Heap.get?_push_size _ rfl
  have hk₄ : ∀ b o, b ≠ e → h₁.get? b = some o → h₄.get? b = some o := fun b o hbe hb => by
    rw [← hh₄]; exact Heap.get?_push_of_some _ (hs₃.extBut b o hbe (hs₂.extBut b o hbe hb))
  show wpAny _ _ (Builtin.SmallTypes.ownedTupleIsFree (.ref e) >>= _) _ _ ⟨h₄, g, d, tk + 1, os⟩
  rw [hsz]
  clear hh₄ he₃ hs₃ he₂ hs₂ hsz h₃ h₂
  refine wpAny_bind ?_
  · unfold Builtin.SmallTypes.ownedTupleIsFree
    refine wpAny_bind (wpAny_field he₄ rfl (x := .none) rfl (wpAny_pure ?_)); simp only [if_true]
    refine wpAny_bind (wpAny_rule (wpAny_bind (wpAny_field he₄ rfl (x := old) rfl (wpAny_bind (wpAny_setField_rec he₄ (by simp) fun h₅ he₅ hs₅ => ?_)))))
    replace hs₅ : Heap.SameBut e h₄ h₅ := hs₅
    replace he₅ : IsEnum h₅ e it (c + 1) x := he₅
    show wpAny _ _ (Builtin.SmallTypes.ownedTupleHandOut (.ref e) (.ref h₁.objs.size) >>= _) _ _ ⟨h₅, g, d, tk + 1, os⟩
    refine wpAny_bind ?_
    · unfold Builtin.SmallTypes.ownedTupleHandOut
      refine wpAny_bind (wpAny_setField_rec he₅ (by simp) fun h₆ he₆ hs₆ => ?_)
      replace hs₆ : Heap.SameBut e h₅ h₆ := hs₆
      replace he₆ : IsEnumOut h₆ e it (c + 1) x h₁.objs.size := he₆
      refine wpAny_setField_rec he₆ (by simp) fun h₇ he₇ hs₇ => ?_
      replace hs₇ : Heap.SameBut e h₆ h₇ := hs₇
      replace he₇ : IsEnumOut h₇ e it (c + 1) x h₁.objs.size := he₇
      refine wpAny_bind (wpAny_letGo (wpAny_pure ⟨_, rfl, hQ h₇ he₇ ?_ ?_⟩))
      · exact hs₇.extBut _ _ (Nat.ne_of_gt hel) (hs₆.extBut _ _ (Nat.ne_of_gt hel) (hs₅.extBut _ _ (Nat.ne_of_gt hel) ht₄))
      · exact fun b o hbe hb => hs₇.extBut b o hbe (hs₆.extBut b o hbe (hs₅.extBut b o hbe (hk₄ b o hbe hb)))
theorem nextEnum {e it : Addr} {c : Int} {old : Value} {Q : Option Value → Shared → Prop} (he : IsEnum s.heap e it c old)
    (h : wpAny (model P w) A.in1 (Builtin.SmallTypes.nextOf (.ref it)) (fun x s₁ => IsEnum s₁.heap e it c old ∧ ∀ h', IsEnumOut h' e it (c + 1) x s₁.heap.objs.size → h'.get? s₁.heap.objs.size = some { cls := .type "tuple", data := .seq #[.int c s₁.toks, x] } →
      (∀ b o, b ≠ e → s₁.heap.get? b = some o → h'.get? b = some o) → Q (some (.ref s₁.heap.objs.size)) { s₁ with heap := h', toks := s₁.toks + 1 }) (fun x s₁ => ∃ b o, x = .ref b ∧ s₁.heap.get? b = some o ∧ o.cls = .type "StopIteration" ∧ Q none s₁) s) :
    wpAny (model P w) A (pyNext (.ref e)) Q E s := by
  have hT : s.TypeIs (.ref e) "enumerate" := ⟨_, he, rfl⟩
  unfold pyNext
  refine wpAny_bind (wpAny_attempt (wpAny_callSpecial?_slot (name := Str.ofString "__next__") hT F.slot_enumerate_next (wpAny_call_entry F.slot_enumerate_next hT F.entry_enumerate_next ?_ (F.args_enumerate_next_1 _))))
  refine wpAny_mono (enumStep (Q := fun v s' => wpAny (model P w) A (pure (some v)) Q E s') he (wpAny_mono h (fun x s₁ hx => ⟨hx.1, fun h' a b c => wpAny_pure (hx.2 h' a b c)⟩) fun _ _ z => z)) (fun _ _ z => z) fun x s₁ hx => ?_
  obtain ⟨b, o, rfl, ho, hc, q⟩ := hx
  refine wpAny_bind (wpAny_isInstance (T := "StopIteration") (b := true) ⟨o, ho, hc⟩ isSubtype_stop ?_)
  exact wpAny_pure q
/-- enumerate(g) -/
theorem newEnumG (a : Addr) (g : Nat) : Meets (Builtin.«enumerate.__new__» ⟨[.type "enumerate", .ref a], []⟩) (fun _ R s => s.heap.IsGen a g ∧
      R (.ok (.ret (.ref s.heap.objs.size))) { s with heap := s.heap.push { cls := .type "enumerate", data := .fields #[.none, .bool false, .ref a, rawInt 0, .none, .none] } }) :=
  .of_wp fun prog w A R s h => by
    obtain ⟨hp, g', d, tk, os⟩ := s; obtain ⟨h1, h⟩ := h
    have hsub := sub_enumerate
    have q1 : ∀ {A' : Around} {E : Value → Shared → Prop} {Q : Value → Shared → Prop}, Q (.ref a) ⟨hp, g', d, tk, os⟩ → wpAny (model prog w) A' (pyIter (.ref a)) Q E ⟨hp, g', d, tk, os⟩ := fun q => wpAny_pyIter_gen (s := ⟨hp, g', d, tk, os⟩) h1 q
    wp_walk using q1
    refine wpAny_stack_any fun st => wpAny_pure ?_
    split
    · rename_i c _ _ _ _ _
      cases (c == Value.type "enumerate")
      · wp_walk using q1
        exact ⟨_, rfl, h⟩
      · wp_walk using q1
        exact ⟨_, rfl, h⟩
    · wp_walk using q1
      exact ⟨_, rfl, h⟩
theorem callEnumG {a : Addr} {g : Nat} {Q : Value → Shared → Prop} (hg : s.heap.IsGen a g)
    (h : ∀ h', IsEnum h' s.heap.objs.size a 0 .none → h'.objs.size = s.heap.objs.size + 1 → (∀ b o, s.heap.get? b = some o → h'.get? b = some o) → Q (.ref s.heap.objs.size) { s with heap := h' }) :
    wpAny (model P w) A (call (.type "enumerate") [.ref a]) Q E s := by
  refine callType_new F.called_enumerate (by decide) (F.typeCall_enumerate_1 _) (F.newCall_enumerate_1 _) (fun obj => F.args_object_init_2 obj _) F.entry_enumerate_new (newEnumG a g) ⟨hg, ?_⟩
  show _ ∧ _
  have he := Heap.get?_push_size s.heap (o := { cls := .type "enumerate", data := .fields #[.none, .bool false, .ref a, rawInt 0, .none, .none] }) rfl
  exact ⟨⟨_, he, rfl⟩, h _ he (Heap.size_push ..) fun b o x => Heap.get?_push_of_some _ x⟩
end
/-! ### a consumer and a sleeping generator -/
structure GZ (X : Cx) (A : Around) (C : Ctr) (m L a g : Nat) (N ps : List Str) (qual : Str) (scope : Scope) (f : Addr) (cd : Value) (H : Hp) (s : Shared) (gs : GenState) (ip : List (Addr × Obj)) (σ : L2.St) (Hy : Hp) : Prop where
  gst : s.gens[g]? = some gs
  isg : s.heap.IsGen a g
  la : L < a
  scp : GScp N ps scope
  slp : Slp N scope L σ s.heap
  ips : ∀ p ∈ ip, s.heap.get? p.1 = some p.2 ∧ H p.1 = none ∧ L < p.1 ∧ p.1 ≠ a ∧ ∀ v, p.2.data ≠ .cell v
  hL : H L = none
  ha : H a = none
  go : ∀ V : View, GIn X.prog X.w X.K X.mg X.base N qual scope f cd A X.stack L V ip σ V.H V.s → C.ok m Hy V.H → Go1 (model X.prog X.w) A (Fut X.prog X.w X.K X.mg X.base N qual scope f cd A X.stack L C m V) gs V.s
theorem bare_set {s : Shared} {g : Nat} {x : GenState} (h : AllBare s.gens) (hx : x.bare = true) : AllBare (s.setGen g x).gens := allBare_setGen h hx
section
variable {X : Cx} {A : Around} {C : Ctr} {m L a g : Nat} {N ps : List Str} {qual : Str} {scope : Scope} {f : Addr} {cd : Value} {H Hy : Hp} {s : Shared} {gs : GenState} {ip pv pins : List (Addr × Obj)} {σ σc : L2.St}
/-- the consumer's own objects at the walk -/
def Own (L a : Nat) (H : Hp) (h : Heap) (ip pv : List (Addr × Obj)) : Prop := ∀ p ∈ pv, h.get? p.1 = some p.2 ∧ H p.1 = none ∧ L < p.1 ∧ p.1 ≠ a ∧ (∀ v, p.2.data ≠ .cell v) ∧ ∀ q ∈ ip, p.1 ≠ q.1
theorem isGen_obj {h : Heap} {a g : Nat} (x : h.IsGen a g) : ∃ o, h.get? a = some o ∧ (∀ v, o.data ≠ .cell v) ∧ ∀ h' : Heap, h'.get? a = some o → h'.IsGen a g := by
  obtain ⟨o, nm, qn, h1, h2, h3, h4⟩ := x
  exact ⟨o, h1, (fun v q => by rw [h3] at q; cases q), fun h' e => ⟨o, nm, qn, e, h2, h3, h4⟩⟩
/-- what comes of waking it -/
def Woke (X : Cx) (A : Around) (C : Ctr) (m L a g : Nat) (N ps : List Str) (qual : Str) (scope : Scope) (f : Addr) (cd : Value) (H : Hp) (pv pins : List (Addr × Obj)) (σc : L2.St) (v : Value) (s' : Shared) : Prop :=
  ∃ m' x H' gs' ip' σ', m = m' + 1 ∧ RelV x v ∧ C.yl m H x H' ∧ Inv X pins σc H' s' ∧ slp gs' = true ∧ GZ X A C m' L a g N ps qual scope f cd H' s' gs' ip' σ' H' ∧ Own L a H' s'.heap ip' pv
theorem woken (I : Inv X pins σc H s) (O : OldX X pins L) (hh : A.handled = none) (hA : A.frames = some X.stack) (Z : GZ X A C m L a g N ps qual scope f cd H s gs ip σ Hy) (hok : C.ok m Hy H) (hpv : Own L a H s.heap ip pv) :
    ∃ Φ, Go1 (model X.prog X.w) A Φ gs (s.setGen g .running) ∧
      (∀ r s₁, Φ (.ret r) s₁ → r = .ok (.ret .none) ∧ m = 0 ∧ ∃ H', C.fin H H' ∧ Inv X pins σc H' s₁) ∧
      (∀ v d l' k' c p fs s₁, s.gens.size ≤ s₁.gens.size → Φ (.susp v d l' k' c p fs) s₁ → (End.susp v d l' k' c p fs).quiet = true ∧ Woke X A C m L a g N ps qual scope f cd H pv pins σc v (s₁.setGen g (End.susp v d l' k' c p fs).genState)) := by
  obtain ⟨oa, ea, ca, back⟩ := isGen_obj Z.isg
  have I1 : Inv X pins σc H (s.setGen g .running) := regens I rfl rfl (bare_set I.bare rfl)
  have hLs : L < s.heap.objs.size := let ⟨_, m, hn, _⟩ := Z.slp; hn.lt
  have hgs : g < s.gens.size := (Array.getElem?_eq_some_iff.mp Z.gst).1
  have G := gin_of (pv := (a, oa) :: pv) (qual := qual) (f := f) (cd := cd) (A := A) I1 O Z.scp hh hA hLs Z.hL Z.slp (fun p hp => by
      rcases List.mem_append.mp hp with hp | hp
      · rcases List.mem_cons.mp hp with rfl | hp
        · exact ⟨ea, Z.ha, Z.la, ca⟩
        · obtain ⟨h1, h2, h3, h4, h5, h6⟩ := hpv p hp
          exact ⟨h1, h2, h3, h5⟩
      · obtain ⟨h1, h2, h3, h4, h5⟩ := Z.ips p hp
        exact ⟨h1, h2, h3, h5⟩) (fun p hp q hq => by
      rcases List.mem_cons.mp hp with rfl | hp
      · exact (Z.ips q hq).2.2.2.1.symm
      · exact (hpv p hp).2.2.2.2.2 q hq)
  refine ⟨_, Z.go ⟨s.setGen g .running, H, (a, oa) :: pv⟩ G hok, fun r s₁ h => ?_, fun v d l' k' c p fs s₁ hz h => ?_⟩
  · obtain ⟨rfl, hm, ip', σ', H', G', hf⟩ := ret_fut h
    exact ⟨rfl, hm, H', hf, (gin_back I1 O Z.scp G').1⟩
  · cases m with
    | zero => exact h.elim
    | succ m' =>
      obtain ⟨hq, ip', x, σ', H', rv, G', hy, hgo⟩ := h
      obtain ⟨I2, z2, l2, p2, d2, y2, _⟩ := gin_back I1 O Z.scp G'
      have st2 : ∀ p ∈ (a, oa) :: pv, s₁.heap.get? p.1 = some p.2 ∧ H' p.1 = none := fun p hp => ⟨(p2 p (List.mem_append_left _ hp)).1, (p2 p (List.mem_append_left _ hp)).2.1⟩
      have hba : (End.susp v d l' k' c p fs).genState.bare = true := End.bare_of_quiet hq
      have gsz : g < s₁.gens.size := Nat.lt_of_lt_of_le hgs hz
      refine ⟨hq, m', x, H', (End.susp v d l' k' c p fs).genState, ip', σ', rfl, rv, hy, regens I2 rfl rfl (bare_set I2.bare hba), rfl, ⟨?_, back _ (st2 _ List.mem_cons_self).1, Z.la, Z.scp, z2, fun p hp => ?_, l2, (st2 _ List.mem_cons_self).2, fun V' G2 ok2 => hgo V' G2 ok2⟩, fun p hp => ?_⟩
      · exact setGen_at gsz
      · obtain ⟨h1, h2, h3, h4⟩ := p2 p (List.mem_append_right _ hp)
        exact ⟨h1, h2, y2 p hp, (d2 _ List.mem_cons_self p hp).symm, h4⟩
      · obtain ⟨h1, h2, h3, h4, h5, h6⟩ := hpv p hp
        exact ⟨(st2 p (List.mem_cons_of_mem _ hp)).1, (st2 p (List.mem_cons_of_mem _ hp)).2, h3, h4, h5, fun q hq => d2 p (List.mem_cons_of_mem _ hp) q hq⟩
end
/-! ### a for over a generator: its body is code of the layer -/
theorem wpAny_thaw {α : Type} {M : Model} {A : Around} {t : Sem α} {Q : α → Shared → Prop} {E : Value → Shared → Prop} {s : Shared} (h : wpAny M A t Q E (iced s)) :
    wpAny M A t (fun a s' => ∃ s₁, s' = thaw s.gens s₁ ∧ Icy s.gens s₁ ∧ Q a s₁) (fun e s' => ∃ s₁, s' = thaw s.gens s₁ ∧ Icy s.gens s₁ ∧ E e s₁) s := by
  intro Γ p hΓ
  have z := wp_lock M s.gens Γ t _ _ p (iced s) (icy_iced s) (h Γ p hΓ)
  rw [thaw_iced] at z
  exact Sem.wp_mono M Γ t (fun a p' s' y => y) (fun a p' s' y => y) p s z
theorem thaw_bare {Y : Array GenState} {s₁ : Shared} (h : AllBare Y) (h1 : AllBare s₁.gens) : AllBare (thaw Y s₁).gens := fun x hx => by
  obtain ⟨i, hi, e⟩ := Array.mem_iff_getElem.mp hx
  have q : (thaw Y s₁).gens[i]? = some x := by rw [Array.getElem?_eq_getElem hi, e]
  rw [thaw_get] at q
  obtain ⟨z, hz, e2⟩ := Option.map_eq_some_iff.mp q
  have bz := h1 z (Array.mem_of_getElem? hz)
  rw [← e2]
  unfold thawAt
  cases ey : Y[i]? with
  | none => exact bz
  | some y =>
    show (if slp y = true then y else z).bare = true
    split
    · exact h y (Array.mem_of_getElem? ey)
    · exact bz
theorem iced_bare {s : Shared} (h : AllBare s.gens) : AllBare (iced s).gens := fun x hx => by
  have hx : x ∈ s.gens.map ice := hx
  obtain ⟨y, hy, rfl⟩ := Array.mem_map.mp hx
  rw [bare_ice]
  exact h y hy
/-- what is wanted of an exception does not look at sleepers -/
def XeOk (X : Cx) : Prop := ∀ (Y : Array GenState) e s₁, Icy Y s₁ → AllBare Y → X.xe e s₁ → X.xe e (thaw Y s₁)
def CXok (CX : CXT) : Prop := ∀ outer H s E u (Y : Array GenState) s₁, Icy Y s₁ → AllBare Y → CX outer H s E u s₁ → CX outer H s E u (thaw Y s₁)
theorem cxok_cx {P : Program} {w : World} : CXok (L2.CX P w) := by
  intro outer H s E u Y s₁ I h c
  obtain ⟨a, B, H', cls, d, z1, fl, z2, ub, z3, z4, z5, z6⟩ := c
  exact ⟨a, B, H', cls, d, z1, fl, z2, ub, z3, z4, thaw_bare h z5, z6⟩
theorem cxok_0 : CXok CX0 := fun _ _ _ _ _ _ _ _ _ c => c.elim
theorem xeok_cx {CX : CXT} {P : Program} {w : World} {K : PySem.W.Frag} {mg : Str → Option Value} {base : Heap} {N : List Str} {qual : Str} {scope : Scope} {f : Addr} {cd : Value} {A : Around} {outer : List Env} {s : Shared} {H : Hp} {E : XK} (h : CXok CX) : XeOk (cxOf CX P w K mg base N qual scope f cd A outer s H E) := by
  intro Y e s₁ I b c Γ p hΓ
  refine Sem.wp_mono _ Γ _ ?_ ?_ p _ (wp_lock _ Y Γ _ _ _ p s₁ I (c Γ p hΓ))
  · rintro _ p' s' ⟨s₂, rfl, I2, q⟩
    exact h _ _ _ _ _ Y s₂ I2 b q
  · rintro _ p' s' ⟨s₂, rfl, I2, q⟩
    exact h _ _ _ _ _ Y s₂ I2 b q
section
variable {X : Cx} {pins : List (Addr × Obj)} {σ : L2.St} {H : Hp} {s : Shared}
/-- the sleepers of s sleep on in s' -/
def SleepOn (s s' : Shared) : Prop := ∀ (i : Nat) y, s.gens[i]? = some y → slp y = true → s'.gens[i]? = some y
theorem SleepOn.trans {s s' s'' : Shared} (a : SleepOn s s') (b : SleepOn s' s'') : SleepOn s s'' := fun i y h q => b i y (a i y h q) q
theorem inv_thaw {s₁ : Shared} (hb : AllBare s.gens) (I : Inv X pins σ H s₁) : Inv X pins σ H (thaw s.gens s₁) := regens I rfl rfl (thaw_bare hb I.bare)
theorem fro_body {body : List Stmt} {tb : TS} {D : Ends} (hx : XeOk X) (h : PSs X body tb) (I : Inv X pins σ H s) (q : tb D σ H) :
    wpAny (model X.prog X.w) X.A (execs body X.env) (fun fl s' => SP X pins D fl s' ∧ SleepOn s s') X.xe s := by
  refine wpAny_mono (wpAny_thaw (h.run pins (iced s) σ H D (regens I rfl rfl (iced_bare I.bare)) q)) ?_ ?_
  · rintro fl s' ⟨s₁, rfl, I1, z⟩
    refine ⟨?_, (still_of I1).sleeps⟩
    cases fl with
    | next => obtain ⟨σ', H', J, z⟩ := z; exact ⟨σ', H', inv_thaw I.bare J, z⟩
    | brk => obtain ⟨σ', H', J, z⟩ := z; exact ⟨σ', H', inv_thaw I.bare J, z⟩
    | cont => obtain ⟨σ', H', J, z⟩ := z; exact ⟨σ', H', inv_thaw I.bare J, z⟩
    | ret u => obtain ⟨v, σ', H', J, z⟩ := z; exact ⟨v, σ', H', inv_thaw I.bare J, z⟩
  · rintro e s' ⟨s₁, rfl, I1, z⟩
    exact hx s.gens e s₁ I1 I.bare z
theorem fro_goal {tg : Expr} {gt : TG} {x : V} {u : Value} {R : L2.St → Hp → Prop} (hx : XeOk X) (h : PG X tg gt) (I : Inv X pins σ H s) (r : RelV x u) (q : gt x σ H R) :
    wpAny (model X.prog X.w) X.A (assign tg X.env u) (fun _ s' => ∃ σ' H', Inv X pins σ' H' s' ∧ R σ' H' ∧ SleepOn s s') X.xe s := by
  refine wpAny_mono (wpAny_thaw (h.run pins (iced s) σ H x u R (regens I rfl rfl (iced_bare I.bare)) r q)) ?_ ?_
  · rintro fl s' ⟨s₁, rfl, I1, σ', H', J, z⟩
    exact ⟨σ', H', inv_thaw I.bare J, z, (still_of I1).sleeps⟩
  · rintro e s' ⟨s₁, rfl, I1, z⟩
    exact hx s.gens e s₁ I1 I.bare z
end
/-- a source of n items whose state may lie outside the heap -/
structure SrcG (X : Cx) (pins : List (Addr × Obj)) (tg : Expr) (it : Addr) (n : Nat) (yld : Nat → Hp → V → Hp → Hp → Prop) (ok : Nat → Hp → Hp → Prop) (fin : Hp → Hp → Prop) (R : Nat → Hp → Shared → Prop) : Prop where
  item : ∀ (i : Nat) (σ : L2.St) (H : Hp) (s : Shared) (E : Value → Shared → Prop), Inv X pins σ H s → R i H s → i < n → wpAny (model X.prog X.w) X.A (pyNext (.ref it)) (fun r s1 => ∃ u, r = some u ∧
    wpAny (model X.prog X.w) X.A (letOwnedTupleGo tg (.ref it) u) (fun _ s2 => ∃ (x : V) (H' Hy : Hp) (fp : List Addr), Inv X pins σ H' s2 ∧ RelV x u ∧ yld i H x H' Hy ∧ (∀ b ∈ fp, FpOk X pins H' b) ∧ (∀ b ∈ fp, ∃ o, s2.heap.get? b = some o ∧ ∀ v, o.data ≠ .cell v) ∧
      ∀ H3 s3, (∀ b ∈ fp, ∀ o, s2.heap.get? b = some o → s3.heap.get? b = some o) → (∀ b ∈ fp, H3 b = none) → SleepOn s2 s3 → ok (i + 1) Hy H3 → R (i + 1) H3 s3) E s1) E s
  done : ∀ (σ : L2.St) (H : Hp) (s : Shared) (E : Value → Shared → Prop), Inv X pins σ H s → R n H s → wpAny (model X.prog X.w) X.A (pyNext (.ref it)) (fun r s1 => r = none ∧ ∃ H', Inv X pins σ H' s1 ∧ fin H H') E s
abbrev TIG := L2.St → Hp → (Nat → (Nat → Hp → V → Hp → Hp → Prop) → (Nat → Hp → Hp → Prop) → (Hp → Hp → Prop) → Hp → Prop) → Prop
structure PIG (X : Cx) (tg iter : Expr) (wi : TIG) : Prop where
  run : ∀ (pins : List (Addr × Obj)) (s : Shared) (σ : L2.St) (H : Hp) (Rr : Nat → (Nat → Hp → V → Hp → Hp → Prop) → (Nat → Hp → Hp → Prop) → (Hp → Hp → Prop) → Hp → Prop), Inv X pins σ H s → wi σ H Rr →
    wpAny (model X.prog X.w) X.A (eval iter X.env) (fun v s1 => wpAny (model X.prog X.w) X.A (pyIter v) (fun itv s2 => ∃ (it : Addr) (n : Nat) (yld : Nat → Hp → V → Hp → Hp → Prop) (ok : Nat → Hp → Hp → Prop) (fin : Hp → Hp → Prop) (R : Nat → Hp → Shared → Prop) (H' : Hp), itv = .ref it ∧ Inv X pins σ H' s2 ∧ SrcG X pins tg it n yld ok fin R ∧ R 0 H' s2 ∧ Rr n yld ok fin H') X.xe s1) X.xe s
def tForS (wi : TIG) (gt : TG) (tb : TS) : TS := fun D σ H => wi σ H fun n yld ok fin H1 => ∃ Pv : Nat → L2.St → Hp → Prop, Pv 0 σ H1 ∧
  (∀ i σ' H', i < n → Pv i σ' H' → ∀ x H2 Hy, yld i H' x H2 Hy → gt x σ' H2 fun σ2 H3 => tb { D with nx := fun σ4 H4 => Pv (i + 1) σ4 H4 ∧ ok (i + 1) Hy H4, ct := fun σ4 H4 => Pv (i + 1) σ4 H4 ∧ ok (i + 1) Hy H4, bk := D.nx } σ2 H3) ∧
  ∀ σ' H' H2, Pv n σ' H' → fin H' H2 → D.nx σ' H2
theorem ps_forG {X : Cx} {tg iter : Expr} {body : List Stmt} {wi : TIG} {gt : TG} {tb : TS} {pos : Pos} (hx : XeOk X) (hp : PassesOwn (model X.prog X.w) X.A X.env X.xe) (hi : PIG X tg iter wi) (hg : PG X tg gt) (hb : PSs X body tb)
    (hs : ∀ x, foldedSetIterable iter X.env x = pure x := by intro _; rfl) : PS X (.For tg iter body [] pos) (tForS wi gt tb) := by
  refine ⟨fun pins s σ H D I h => ?_⟩
  refine wpAny_For (thn (hi.run pins s σ H _ I h) fun v s1 h1 => thn h1 fun itv s2 h2 => ?_) hs
  obtain ⟨it, n, yld, ok, fin, R, H2, rfl, I2, S, r0, Pv, p0, step, done⟩ := h2
  refine codeAny_forLoop_any (fun z s' => ∃ i σ' H', z = n - i ∧ i ≤ n ∧ Inv X pins σ' H' s' ∧ R i H' s' ∧ Pv i σ' H') ?_ n ⟨0, σ, H2, rfl, Nat.zero_le _, I2, r0, p0⟩
  rintro z s3 ⟨i, σ3, H3, rfl, hi3, I3, r3, p3⟩
  by_cases hlt : i < n
  · refine wpAny_passesOwn hp (thn (S.item i σ3 H3 s3 X.xe I3 r3 hlt) fun r s4 ⟨u, hr, h4⟩ => ?_)
    subst hr
    refine wpAny_passesOwn hp (thn h4 fun _ s5 ⟨x, H5, Hy, fp, I5, r5, y5, f5, o5, nxt⟩ => ?_)
    have I5' := I5.pinned f5 o5
    refine wpAny_passesOwn hp (thn (fro_goal hx hg I5' r5 (step i σ3 H3 hlt p3 x H5 Hy y5)) fun _ s6 ⟨σ6, H6, I6, q6, e6⟩ => ?_)
    refine wpAny_passesOwn hp (thn (fro_body hx hb I6 q6) fun fl s7 q7 => ?_)
    obtain ⟨q7, e7⟩ := q7
    have again : ∀ {σ7 : L2.St} {H7 : Hp}, Inv X (pins ++ pinsAt fp s5.heap) σ7 H7 s7 → Pv (i + 1) σ7 H7 ∧ ok (i + 1) Hy H7 → ∃ m, m < n - i ∧ ∃ i σ' H', m = n - i ∧ i ≤ n ∧ Inv X pins σ' H' s7 ∧ R i H' s7 ∧ Pv i σ' H' := fun {σ7 H7} I7 n7 => by
      have pin : ∀ b ∈ fp, ∀ o, s5.heap.get? b = some o → s7.heap.get? b = some o ∧ H7 b = none := fun b hb o e => by
        have z := I7.pin (b, o) (List.mem_append_right _ (List.mem_append_right _ (mem_pinsAt hb e)))
        exact ⟨z.1, z.2.1⟩
      refine ⟨n - (i + 1), by omega, i + 1, σ7, H7, rfl, hlt, I7.unpinned, nxt H7 s7 (fun b hb o e => (pin b hb o e).1) (fun b hb => ?_) (e6.trans e7) n7.2, n7.1⟩
      obtain ⟨o, e, _⟩ := o5 b hb
      exact (pin b hb o e).2
    cases fl with
    | next => obtain ⟨σ7, H7, I7, n7⟩ := q7; exact again I7 n7
    | cont => obtain ⟨σ7, H7, I7, n7⟩ := q7; exact again I7 n7
    | brk => obtain ⟨σ7, H7, I7, q7⟩ := q7; exact ⟨σ7, H7, I7.unpinned, q7⟩
    | ret v => obtain ⟨x7, σ7, H7, I7, r7, q7⟩ := q7; exact ⟨x7, σ7, H7, I7.unpinned, r7, q7⟩
  · have e : i = n := by omega
    subst e
    refine wpAny_passesOwn hp (thn (S.done σ3 H3 s3 X.xe I3 r3) fun r s4 ⟨hr, H4, I4, f4⟩ => ?_)
    subst hr
    exact wpAny_execs_nil ⟨σ3, H4, I4, done σ3 H3 H4 p3 f4⟩
/-! ### sources: f(..), enumerate(f(..)) -/
section
variable {X : Cx} {C : Ctr} {n L a g e : Nat} {N ps : List Str} {qual : Str} {scope : Scope} {f : Addr} {cd : Value} {pins : List (Addr × Obj)} {k : Nat}
theorem fp_young {σ : L2.St} {H : Hp} {s : Shared} (O : OldX X pins L) (I : Inv X pins σ H s) {b : Addr} {H' : Hp} (hb : L ≤ b) (hn : H' b = none) : FpOk X pins H' b := by
  refine ⟨hn, Nat.ne_of_gt (Nat.lt_of_lt_of_le O.loc hb), fun hf => ?_, .inr (Nat.le_trans O.s0 hb), fun x c e => Nat.ne_of_lt (Nat.lt_of_lt_of_le (O.cel x c e) hb), fun p hp => Nat.ne_of_lt (Nat.lt_of_lt_of_le (O.pin p hp) hb)⟩
  obtain ⟨_, o, ho, _⟩ := I.ok.funs.mem hf
  exact absurd (Nat.lt_of_lt_of_le (Heap.lt_size ho) O.s0) (Nat.not_lt.mpr hb)
theorem slp_obj {h : Heap} {σ : L2.St} (z : Slp N scope L σ h) : ∃ o, h.get? L = some o ∧ ∀ v, o.data ≠ .cell v := by
  obtain ⟨_, m, ⟨o, es, ep, ho, hd, _⟩, _⟩ := z
  exact ⟨o, ho, fun v q => by rw [hd] at q; cases q⟩
/-- it sleeps on, at another heap -/
theorem GZ.on {A : Around} {m : Nat} {H H3 Hy : Hp} {s s3 : Shared} {gs : GenState} {ip : List (Addr × Obj)} {σ : L2.St} (Z : GZ X A C m L a g N ps qual scope f cd H s gs ip σ Hy) (hs : G.slp gs = true) (k1 : ∀ b ∈ L :: a :: ip.map (·.1), ∀ o, s.heap.get? b = some o → s3.heap.get? b = some o)
    (k2 : ∀ b ∈ L :: a :: ip.map (·.1), H3 b = none) (so : SleepOn s s3) : GZ X A C m L a g N ps qual scope f cd H3 s3 gs ip σ Hy := by
  obtain ⟨oa, ea, ca, back⟩ := isGen_obj Z.isg
  have hm : ∀ p ∈ ip, p.1 ∈ L :: a :: ip.map (·.1) := fun p hp => List.mem_cons_of_mem _ (List.mem_cons_of_mem _ (List.mem_map_of_mem hp))
  exact ⟨so g gs Z.gst hs, back _ (k1 a (by simp) _ ea), Z.la, Z.scp, Z.slp.at (k1 L List.mem_cons_self), fun p hp => ⟨k1 p.1 (hm p hp) _ (Z.ips p hp).1, k2 p.1 (hm p hp), (Z.ips p hp).2.2⟩, k2 L List.mem_cons_self, k2 a (by simp), Z.go⟩
theorem GZ.objs {A : Around} {m : Nat} {H Hy : Hp} {s : Shared} {gs : GenState} {ip : List (Addr × Obj)} {σ : L2.St} (Z : GZ X A C m L a g N ps qual scope f cd H s gs ip σ Hy) : ∀ b ∈ L :: a :: ip.map (·.1), L ≤ b ∧ H b = none ∧ ∃ o, s.heap.get? b = some o ∧ ∀ v, o.data ≠ .cell v := fun b hb => by
  rcases List.mem_cons.mp hb with rfl | hb
  · exact ⟨Nat.le_refl _, Z.hL, slp_obj Z.slp⟩
  · rcases List.mem_cons.mp hb with rfl | hb
    · obtain ⟨oa, ea, ca, _⟩ := isGen_obj Z.isg
      exact ⟨Nat.le_of_lt Z.la, Z.ha, oa, ea, ca⟩
    · obtain ⟨p, hp, rfl⟩ := List.mem_map.mp hb
      obtain ⟨h1, h2, h3, _, h5⟩ := Z.ips p hp
      exact ⟨Nat.le_of_lt h3, h2, _, h1, h5⟩
def yldP (C : Ctr) (n : Nat) : Nat → Hp → V → Hp → Hp → Prop := fun i H x H' Hy => H' = Hy ∧ C.yl (n - i) H x H'
def okP (C : Ctr) (n : Nat) : Nat → Hp → Hp → Prop := fun i H1 H2 => C.ok (n - i) H1 H2
theorem srcP {tg : Expr} {σ0 : L2.St} {H0 : Hp} {s0 : Shared} (O : OldX X pins L) (I0 : Inv X pins σ0 H0 s0) (hr : Room 1 X.A) :
    SrcG X pins tg a n (yldP C n) (okP C n) C.fin (fun i H s => ∃ gs ip σ Hy, GZ X X.A.in1 C (n - i) L a g N ps qual scope f cd H s gs ip σ Hy ∧ C.ok (n - i) Hy H) where
  item := by
    intro i σc H s E I ⟨gs, ip, σ, Hy, Z, hok⟩ hi
    obtain ⟨Φ, go, hP, hY⟩ := woken (pv := []) I O (A := X.A.in1) hr.hd I.ok.frames Z hok (fun p hp => by cases hp)
    refine nextS hr.hd I.nolimit hr.depth Z.isg Z.gst go (fun r s₁ h => ?_) (fun v d l' k' c p fs s₁ hz h => ?_)
    · obtain ⟨_, hm, _⟩ := hP r s₁ h
      omega
    · obtain ⟨hq, m', x, H', gs', ip', σ', em, rv, hy, I2, hs2, Z2, _⟩ := hY v d l' k' c p fs s₁ hz h
      refine ⟨hq, v, rfl, ?_⟩
      obtain ⟨o, nm, qn, ho, hc, hd, _⟩ := Z2.isg
      refine go_of ho hc hd (by decide) ⟨x, H', H', L :: a :: ip'.map (·.1), I2, rv, ⟨rfl, hy⟩, fun b hb => fp_young O I (Z2.objs b hb).1 (Z2.objs b hb).2.1, fun b hb => (Z2.objs b hb).2.2, fun H3 s3 k1 k2 so hk => ?_⟩
      have e1 : n - (i + 1) = m' := by omega
      have hk : C.ok (n - (i + 1)) H' H3 := hk
      rw [e1] at hk ⊢
      exact ⟨gs', ip', σ', H', Z2.on hs2 k1 k2 so, hk⟩
  done := by
    intro σc H s E I ⟨gs, ip, σ, Hy, Z, hok⟩
    obtain ⟨Φ, go, hP, hY⟩ := woken (pv := []) I O (A := X.A.in1) hr.hd I.ok.frames Z hok (fun p hp => by cases hp)
    refine nextS hr.hd I.nolimit hr.depth Z.isg Z.gst go (fun r s₁ h => ?_) (fun v d l' k' c p fs s₁ hz h => ?_)
    · obtain ⟨hr1, hm, H', hf, I2⟩ := hP r s₁ h
      refine ⟨hr1, fun h' hk => ⟨rfl, H', ?_, hf⟩⟩
      have I3 : Inv X pins σc H' (s₁.setGen g .finished) := regens I2 rfl rfl (bare_set I2.bare rfl)
      exact I3.kept (t' := s₁.toks) hk
    · obtain ⟨hq, m', x, H', gs', ip', σ', em, _⟩ := hY v d l' k' c p fs s₁ hz h
      omega
def yldE (C : Ctr) (n : Nat) : Nat → Hp → V → Hp → Hp → Prop := fun i H x H2 Hy => ∃ T y, C.yl (n - i) H y Hy ∧ x = .ref T ∧ Hy T = none ∧ H2 = upd Hy T (.tup [.int (i : Nat), y])
theorem srcE {elts : List Expr} {kk : Nat} {tpos : Pos} {σ0 : L2.St} {H0 : Hp} {s0 : Shared} (O : OldX X pins L) (I0 : Inv X pins σ0 H0 s0) (hr : Room 2 X.A) (hLe : L < e) (hea : e ≠ a) :
    SrcG X pins (.Tuple elts kk tpos) e n (yldE C n) (okP C n) C.fin (fun i H s => ∃ old gs ip σ Hy, IsEnum s.heap e a (i : Nat) old ∧ H e = none ∧ (∀ q ∈ ip, e ≠ q.1) ∧ GZ X X.A.in1.in1 C (n - i) L a g N ps qual scope f cd H s gs ip σ Hy ∧ C.ok (n - i) Hy H) where
  item := by
    intro i σc H s E I ⟨old, gs, ip, σ, Hy, he, hne, hip, Z, hok⟩ hi
    obtain ⟨Φ, go, hP, hY⟩ := woken (pv := [(e, _)]) I O (A := X.A.in1.in1) hr.hd I.ok.frames Z hok (fun p hp => by
      obtain rfl := List.mem_singleton.mp hp
      exact ⟨he, hne, hLe, hea, fun v q => (by cases q), hip⟩)
    refine nextEnum he (nextOfS (A := X.A.in1) hr.hd I.nolimit hr.in1.depth Z.isg Z.gst go (fun r s₁ h => ?_) (fun v d l' k' c p fs s₁ hz h => ?_))
    · obtain ⟨_, hm, _⟩ := hP r s₁ h
      omega
    · obtain ⟨hq, m', x, H', gs', ip', σ', em, rv, hy, I2, hs2, Z2, ow⟩ := hY v d l' k' c p fs s₁ hz h
      generalize (s₁.setGen g (End.susp v d l' k' c p fs).genState) = s2 at I2 Z2 ow ⊢
      obtain ⟨he2, hne2, _, _, _, hip2⟩ := ow _ (List.mem_singleton.mpr rfl)
      refine ⟨hq, he2, fun h' ho hT hk => ⟨_, rfl, ?_⟩⟩
      have hel : e < s2.heap.objs.size := Heap.lt_size he2
      refine wpAny_letOwnedTupleGo_enum (s := { s2 with heap := h', toks := s2.toks + 1 }) ho fun h'' he' sb => ?_
      have hT2 : h''.get? s2.heap.objs.size = some { cls := .type "tuple", data := .seq #[.int i s2.toks, v] } := (sb.2 _ (Nat.ne_of_gt hel)).trans hT
      have new : ObjOk X.prog X.w (upd H' s2.heap.objs.size (.tup [.int (i : Nat), x])) h'' s2.heap.objs.size (.tup [.int (i : Nat), x]) := ⟨by show 2 ≤ sizeLine; decide, [.int i s2.toks, v], .cons ⟨_, rfl⟩ (.cons rv .nil), ⟨_, hT2, rfl, _, rfl⟩⟩
      have kp : ∀ b o, b ≠ e → s2.heap.get? b = some o → h''.get? b = some o := fun b o hb q => (sb.2 b hb).trans (hk b o hb q)
      have I3 : Inv X pins σc (upd H' s2.heap.objs.size (.tup [.int (i : Nat), x])) { s2 with heap := h'', toks := s2.toks + 1 } :=
        I2.turnedNew (ch := [e]) (fun b ob hb q => kp b ob (fun z => hb (by simp [z])) q) (fun b hb => by rw [List.mem_singleton.mp hb]; exact fp_young O I (Nat.le_of_lt hLe) hne2) (Nat.le_refl _) new
      have nT : ∀ b o, s2.heap.get? b = some o → b ≠ s2.heap.objs.size := fun b o q => Nat.ne_of_lt (Heap.lt_size q)
      have ne_e : ∀ b ∈ L :: a :: ip'.map (·.1), b ≠ e := fun b hb => by
        rcases List.mem_cons.mp hb with rfl | hb
        · exact Nat.ne_of_lt hLe
        · rcases List.mem_cons.mp hb with rfl | hb
          · exact hea.symm
          · obtain ⟨q, hq', rfl⟩ := List.mem_map.mp hb
            exact (hip2 q hq').symm
      refine ⟨.ref s2.heap.objs.size, _, H', e :: L :: a :: ip'.map (·.1), I3, rfl, ⟨_, x, hy, rfl, I2.hok.fresh (Nat.le_refl _), rfl⟩, fun b hb => ?_, fun b hb => ?_, fun H3 s3 k1 k2 so hk3 => ?_⟩
      · rcases List.mem_cons.mp hb with rfl | hb
        · exact fp_young O I (Nat.le_of_lt hLe) (by rw [upd_ne (Nat.ne_of_lt hel)]; exact hne2)
        · obtain ⟨z1, z2, o, z3, z4⟩ := Z2.objs b hb
          exact fp_young O I z1 (by rw [upd_ne (nT b o z3)]; exact z2)
      · rcases List.mem_cons.mp hb with rfl | hb
        · exact ⟨_, he', fun v q => by cases q⟩
        · obtain ⟨z1, z2, o, z3, z4⟩ := Z2.objs b hb
          exact ⟨o, kp b o (ne_e b hb) z3, z4⟩
      · have e1 : n - (i + 1) = m' := by omega
        have hk3 : C.ok (n - (i + 1)) H' H3 := hk3
        rw [e1] at hk3 ⊢
        refine ⟨v, gs', ip', σ', H', ?_, k2 e List.mem_cons_self, hip2, Z2.on hs2 (fun b hb o q => k1 b (List.mem_cons_of_mem _ hb) o (kp b o (ne_e b hb) q)) (fun b hb => k2 b (List.mem_cons_of_mem _ hb)) (fun j y q1 q2 => so j y q1 q2), hk3⟩
        have e2 : ((i + 1 : Nat) : Int) = (i : Int) + 1 := by omega
        rw [e2]
        exact k1 e List.mem_cons_self _ he'
  done := by
    intro σc H s E I ⟨old, gs, ip, σ, Hy, he, hne, hip, Z, hok⟩
    obtain ⟨Φ, go, hP, hY⟩ := woken (pv := [(e, _)]) I O (A := X.A.in1.in1) hr.hd I.ok.frames Z hok (fun p hp => by
      obtain rfl := List.mem_singleton.mp hp
      exact ⟨he, hne, hLe, hea, fun v q => (by cases q), hip⟩)
    refine nextEnum he (nextOfS (A := X.A.in1) hr.hd I.nolimit hr.in1.depth Z.isg Z.gst go (fun r s₁ h => ?_) (fun v d l' k' c p fs s₁ hz h => ?_))
    · obtain ⟨hr1, hm, H', hf, I2⟩ := hP r s₁ h
      refine ⟨hr1, fun h' b hk ⟨o, hb, hc⟩ => ⟨b, o, rfl, hb, hc, rfl, H', ?_, hf⟩⟩
      have I3 : Inv X pins σc H' (s₁.setGen g .finished) := regens I2 rfl rfl (bare_set I2.bare rfl)
      exact I3.kept (t' := s₁.toks) hk
    · obtain ⟨hq, m', x, H', gs', ip', σ', em, _⟩ := hY v d l' k' c p fs s₁ hz h
      omega
end
/-! ### f(..), o.m() of generator defs in a for -/
abbrev TGc := L2.St → Hp → (Nat → Ctr → Hp → Prop) → Prop
structure PGm (X : Cx) (k : Nat) (e : Expr) (t : TGc) : Prop where
  run : ∀ (pins : List (Addr × Obj)) (s : Shared) (σ : L2.St) (H : Hp) (R : Nat → Ctr → Hp → Prop), Inv X pins σ H s → t σ H R → wpAny (model X.prog X.w) X.A (eval e X.env)
    (fun u s' => ∃ n C a g N ps qual scope f cd body σg H1 s1, u = .ref a ∧ R n C H1 ∧ Inv X pins σ H1 s1 ∧ GMk X.prog X.w X.K X.mg X.base k C n H1 X.stack s1 a g N ps qual scope f cd body σg s') X.xe s
section
variable {X : Cx} {k : Nat} {f C : Addr} {fd : FuncData} {ps : List Str} {sp : SpM} {x m : Str} {p pos apos : Pos} {e o : Expr} {es : List Expr} {t : TA} {ta : TE} {tg : TGc}
theorem run_gfm {pins : List (Addr × Obj)} {σ : L2.St} {H : Hp} {s : Shared} {us : List Value} {vs : List V} {R : Nat → Ctr → Hp → Prop} {E1 : Value → Shared → Prop} (F : GFm X.prog X.w X.K X.mg X.base k f fd ps sp) (hr : Room k X.A) (hb : Binds X.K fd ps []) (I : Inv X pins σ H s) (r : Vals vs us) (h : sp vs H fun n C => R n C H) :
    wpAny (model X.prog X.w) X.A (call (.ref f) us) (fun u s' => ∃ n C a g N ps qual scope f cd body σg H1 s1, u = .ref a ∧ R n C H1 ∧ Inv X pins σ H1 s1 ∧ GMk X.prog X.w X.K X.mg X.base k C n H1 X.stack s1 a g N ps qual scope f cd body σg s') E1 s := by
  have hl2 : (us ++ []).length = ps.length := by rw [List.append_nil, ← r.length]; exact F.len _ _ _ h
  have hB := hb s us I.kIn hl2
  rw [List.append_nil] at hB
  refine wpAny_call (codeAny_mono (F.run X.A X.stack s H ⟨us, []⟩ us vs _ hr I.env0 hB r h) fun r s' hq => ?_)
  obtain ⟨n, C, a, g, N, qual, scope, cd, body, σg, rfl, hR, M⟩ := hq
  exact ⟨n, C, a, g, N, ps, qual, scope, f, cd, body, σg, H, s, rfl, hR, I, M⟩
def tGcall (sp : SpM) (t : TA) : TGc := fun σ H R => t σ H fun vs H1 => sp vs H1 fun n C => R n C H1
theorem pgm_call (F : GFm X.prog X.w X.K X.mg X.base k f fd ps sp) (hr : Room k X.A) (hg : Gl X x) (hm : X.mg x = some (.ref f)) (hk : PySem.W.keepIn X.K (.ref f) = true) (hb : Binds X.K fd ps [])
    (ha : PA X (e :: es) t) (hdb : (x == ("__debug__" : Str)) = false := by decide) (he : starEach (e :: es) X.env = (false, eval e X.env) :: starEach es X.env := by rfl) (hpl : (backTo pos (starEach es X.env)).any (·.1) = false := by rfl) :
    PGm X k (.Call (.Name x p) (e :: es) [] pos) (tGcall sp t) := by
  refine ⟨fun pins s σ H R I h => ?_⟩
  refine wpAny_Call_Name_kw (ld_glob I hg hm ?_ hdb)
  refine PySem.W.callWith_K (h₀ := X.base) I.ok.mod.kin hk (thn (ha.run pos pins s σ H _ I h) fun us s1 ⟨vs, H1, I1, r, q⟩ => ⟨I1.kIn, ?_⟩) he hpl
  exact run_gfm F hr hb I1 r q
def tGmeth (C : Addr) (m : Str) (sp : SpM) (ta : TE) : TGc := fun σ H R => ta σ H fun x H1 => ∃ a dx fs, x = .ref a ∧ H1 a = some (.ins C dx fs) ∧ fs.lookup m = none ∧ sp [x] H1 fun n C => R n C H1
theorem pgm_meth0 {pl : Sem Bool} (he : PE X o ta) (c : Cls X.K C) (hm : Meth X.K C m f) (F : GFm X.prog X.w X.K X.mg X.base k f fd ps sp) (hr : Room k X.A) (hb : Binds X.K fd ps [])
    (ht : eval (.Call (.Attribute o m apos) [] [] pos) X.env = (do
      let ov ← eval o X.env
      standAt apos.atName
      let (f, first) ← holding [ov] (getMethod ov m pl)
      callWith pos f first (backTo pos (starEach [] X.env)) (backToKw pos (keywordEach [] X.env))) := by rfl) :
    PGm X k (.Call (.Attribute o m apos) [] [] pos) (tGmeth C m sp ta) := by
  refine ⟨fun pins s σ H R I h => ?_⟩
  refine PySem.W.methodCall_KW (pl := pl) (thn (he.run pins s σ H _ I h) fun u s1 ⟨x, H1, I1, rx, a, dx, fs, ex, ea, l, q⟩ => ?_) ht
  subst ex
  obtain rfl : u = Value.ref a := rx
  refine getmeth_ok I1 ea c hm l ?_
  exact PySem.W.callWith_K0 (first := [.ref a]) I1.kIn hm.kp (run_gfm (us := [.ref a]) (vs := [.ref a]) F hr hb I1 (.cons rfl .nil) q)
theorem made {pins : List (Addr × Obj)} {σ : L2.St} {H1 : Hp} {s1 s' : Shared} {A : Around} {n : Nat} {C : Ctr} {a g : Nat} {N : List Str} {qual : Str} {scope : Scope} {f : Addr} {cd : Value} {body : List Stmt} {σg : L2.St} (I : Inv X pins σ H1 s1) (M : GMk X.prog X.w X.K X.mg X.base k C n H1 X.stack s1 a g N ps qual scope f cd body σg s') (hr : Room k A) (hA : A.frames = some X.stack) :
    Inv X pins σ H1 s' ∧ OldX X pins s1.heap.objs.size ∧ GZ X A C n s1.heap.objs.size a g N ps qual scope f cd H1 s' (.fresh (.func body (envOfC qual scope s1.heap.objs.size f cd))) [] σg H1 :=
  ⟨I.call' (ch := []) M.os (Un.kept M.keep) (I.hok.kept M.keep) M.bare (fun b z => by simp at z), old_of I (Nat.le_refl _), M.gs, M.isg, M.la, M.scp, M.slp, fun p hp => (by cases hp), I.hok.fresh (Nat.le_refl _), I.hok.fresh (Nat.le_of_lt M.la), fun V G ok => M.go A hr hA V G ok⟩
def tIgP (t : TGc) : TIG := fun σ H Rr => t σ H fun n C H1 => C.ok n H1 H1 ∧ Rr n (yldP C n) (okP C n) C.fin H1
theorem pig_gen {tgt : Expr} (h : PGm X k e tg) (hr : Room (k + 1) X.A) (hr1 : Room 1 X.A) : PIG X tgt e (tIgP tg) := by
  refine ⟨fun pins s σ H Rr I q => ?_⟩
  refine thn (h.run pins s σ H _ I q) fun u s' ⟨n, C, a, g, N, ps, qual, scope, f, cd, body, σg, H1, s1, eu, ⟨hok, hR⟩, I1, M⟩ => ?_
  subst eu
  obtain ⟨I2, O, Z⟩ := made (A := X.A.in1) I1 M hr.in1 I1.ok.frames
  exact wpAny_pyIter_gen M.isg ⟨a, n, _, _, _, _, H1, rfl, I2, srcP O I2 hr1, ⟨_, [], σg, H1, Z, hok⟩, hR⟩
def tIgE (t : TGc) : TIG := fun σ H Rr => t σ H fun n C H1 => C.ok n H1 H1 ∧ Rr n (yldE C n) (okP C n) C.fin H1
theorem pig_enum {elts : List Expr} {kk : Nat} {tpos : Pos} (h : PGm X k e tg) (hr : Room (k + 2) X.A) (hr2 : Room 2 X.A) (hg : Gl X "enumerate") (hm : X.mg "enumerate" = none) (he : starEach [e] X.env = (false, eval e X.env) :: starEach [] X.env := by rfl) :
    PIG X (.Tuple elts kk tpos) (.Call (.Name "enumerate" p) [e] [] pos) (tIgE tg) := by
  refine ⟨fun pins s σ H Rr I q => ?_⟩
  refine wpAny_Call_Name_kw (ld_blt I hg hm boot_enumerate ?_)
  refine PyProof.Rows.callWith_type1 ?_ he rfl
  rw [he]
  show wpAny _ _ (spliced ((false, eval e X.env) :: backTo pos (starEach [] X.env))) _ _ s
  refine Calls.spliced_cons (thn (h.run pins s σ H _ I q) fun u s' ⟨n, C, a, g, N, ps, qual, scope, f, cd, body, σg, H1, s1, eu, ⟨hok, hR⟩, I1, M⟩ => ?_)
  subst eu
  refine Calls.spliced_nil ?_
  obtain ⟨I2, O, Z⟩ := made (A := X.A.in1.in1) I1 M hr.in1.in1 I1.ok.frames
  refine callEnumG M.isg fun h' hE hz hk => wpAny_pyIter_enum hE ?_
  have I3 : Inv X pins σ H1 { s' with heap := h' } := I2.kept (t' := s'.toks) hk
  have hea : s'.heap.objs.size ≠ a := Nat.ne_of_gt M.lt
  have Z3 : GZ X X.A.in1.in1 C n s1.heap.objs.size a g N ps qual scope f cd H1 { s' with heap := h' } (.fresh (.func body (envOfC qual scope s1.heap.objs.size f cd))) [] σg H1 := ⟨Z.gst, Z.isg.keeps hk, Z.la, Z.scp, Z.slp.at (fun o q => hk _ o q), fun p hp => (by cases hp), Z.hL, Z.ha, Z.go⟩
  exact ⟨s'.heap.objs.size, n, _, _, _, _, H1, rfl, I3, srcE O I3 hr2 (Nat.lt_trans M.la M.lt) hea, ⟨.none, _, [], σg, H1, hE, I2.hok.fresh (Nat.le_refl _), fun q hq => (by cases hq), Z3, hok⟩, hR⟩
end
/-! ### enumerate over a tuple; zip of three tuples -/
section
variable {X : Cx} {pins : List (Addr × Obj)} {σ : L2.St} {H : Hp} {s : Shared}
/-- the tuple at a, each item in a new pair with its place -/
def IteT (K : PySem.W.Frag) (a : Addr) : It :=
  ⟨fun i H => ∃ (xs : List V) (x : V), SqT K H a xs ∧ xs[i]? = some x, fun i H v H' => ∃ T x, v = .ref T ∧ H T = none ∧ H' = upd H T (.tup [.int (i : Nat), x]) ∧ ∀ xs, SqT K H a xs → xs[i]? = some x, fun i H => ∃ xs : List V, SqT K H a xs ∧ xs.length ≤ i⟩
theorem turn_enumT {P : Program} {w : World} {K : PySem.W.Frag} {elts : List Expr} {kk : Nat} {tpos : Pos} (a e it : Addr) :
    Turn P w K (.Tuple elts kk tpos) (IteT K a) [e, it] e (fun i h => (∃ old, IsEnum h e it ((i : Nat) : Int) old) ∧ h.IsTupleIter it a i ∧ e ≠ it) where
  mem := by simp
  obj := fun i h st b hb => by
    obtain ⟨⟨old, he⟩, ⟨o, ho, hc, hd⟩, _⟩ := st
    have e' : b = e ∨ b = it := by simpa using hb
    rcases e' with z | z
    · rw [z]; exact ⟨_, he, fun v q => nomatch q⟩
    · rw [z]; exact ⟨o, ho, fun v q => by rw [hd] at q; cases q⟩
  keep := fun i h h' st k => by
    obtain ⟨⟨old, he⟩, hi, hne⟩ := st
    exact ⟨⟨old, k e (by simp) _ he⟩, hi.at fun o q => k it (by simp) o q, hne⟩
  item := by
    intro X hP hw hK hc i pins s σ H E I hf st hg
    subst hP hw hK
    obtain ⟨⟨old, he⟩, hit, hne⟩ := st
    obtain ⟨xs, x, hq, hx⟩ := hg
    obtain ⟨its, rv, p, hz⟩ := I.tuple hq
    obtain ⟨u, hu, ru⟩ := rv.get hx
    have hel : e < s.heap.objs.size := Heap.lt_size he
    have hil : it < s.heap.objs.size := by obtain ⟨_, q, _⟩ := hit; exact Heap.lt_size q
    refine nextEnum he (wpAny_nextOf_tuple_item hit p (x := u) (by simpa using hu) fun h₁ hit₁ hs₁ => ⟨(hs₁.2 e hne).trans he, fun h' ho hT hk => ⟨_, rfl, ?_⟩⟩)
    have sz1 : h₁.objs.size = s.heap.objs.size := hs₁.1
    have sz1 : ({ s with heap := h₁ } : Shared).heap.objs.size = s.heap.objs.size := sz1
    rw [sz1] at ho hT ⊢
    refine wpAny_letOwnedTupleGo_enum (s := { s with heap := h', toks := s.toks + 1 }) ho fun h'' he' sb => ?_
    have hT2 : h''.get? s.heap.objs.size = some { cls := .type "tuple", data := .seq #[.int i s.toks, u] } := (sb.2 _ (Nat.ne_of_gt hel)).trans hT
    have new : ObjOk X.prog X.w (upd H s.heap.objs.size (.tup [.int (i : Nat), x])) h'' s.heap.objs.size (.tup [.int (i : Nat), x]) := ⟨by show 2 ≤ sizeLine; decide, [.int i s.toks, u], .cons ⟨_, rfl⟩ (.cons ru .nil), ⟨_, hT2, rfl, _, rfl⟩⟩
    have kp : ∀ b o, b ≠ e → b ≠ it → s.heap.get? b = some o → h''.get? b = some o := fun b o h1 h2 q => (sb.2 b h1).trans (hk b o h1 ((hs₁.2 b h2).trans q))
    have I1 : Inv X pins σ (upd H s.heap.objs.size (.tup [.int (i : Nat), x])) { s with heap := h'', toks := s.toks + 1 } :=
      I.turnedNew (ch := [e, it]) (fun b ob hb q => kp b ob (fun z => hb (by simp [z])) (fun z => hb (by simp [z])) q) hf (Nat.le_refl _) new
    refine ⟨.ref s.heap.objs.size, _, I1, rfl, ⟨_, x, rfl, I.hok.fresh (Nat.le_refl _), rfl, fun ys hy => by rw [I.tuple_inj hy hq]; exact hx⟩, ⟨⟨u, ?_⟩, ?_, hne⟩, fun b hb => ?_⟩
    · have e1 : ((i + 1 : Nat) : Int) = (i : Int) + 1 := by omega
      rw [e1]; exact he'
    · exact hit₁.at fun o q => (sb.2 it (Ne.symm hne)).trans (hk it o (Ne.symm hne) q)
    · have hb' : b < s.heap.objs.size := by
        have e' : b = e ∨ b = it := by simpa using hb
        rcases e' with z | z
        · rw [z]; exact hel
        · rw [z]; exact hil
      rw [upd_ne (Nat.ne_of_lt hb')]
      exact (hf b hb).1
  done := by
    intro X hP hw hK hc i pins s σ H E I hf st hg
    subst hP hw hK
    obtain ⟨⟨old, he⟩, hit, hne⟩ := st
    obtain ⟨xs, hq, hx⟩ := hg
    obtain ⟨its, rv, p, hz⟩ := I.tuple hq
    obtain ⟨f0, f1, f2, f3, f4, f5⟩ := hf it (by simp)
    have hl := rv.length
    refine nextEnum he (wpAny_nextOf_tuple_end (I.ok.hd hc) hit p (by simp; omega) fun h' b eb ⟨o, hb, hcl⟩ => ⟨b, o, rfl, hb, hcl, rfl, I.turned (t' := s.toks) (fun b o hb q => eb b o hb q) f0 f1 f3 f4 f5⟩)
  self := fun A i s Q E st h => by
    obtain ⟨⟨_, he⟩, _⟩ := st
    exact wpAny_pyIter_enum he h
/-- enumerate(v), its two new cells -/
theorem newEnumB {v : Value} {o : Obj} {G : Heap → Prop} (B : Begins v o G) : Meets (Builtin.«enumerate.__new__» ⟨[.type "enumerate", v], []⟩) (fun _ R s => G s.heap ∧
      R (.ok (.ret (.ref (s.heap.push o).objs.size))) { s with heap := (s.heap.push o).push { cls := .type "enumerate", data := .fields #[.none, .bool false, .ref s.heap.objs.size, rawInt 0, .none, .none] } }) :=
  .of_wp fun prog w A R s h => by
    obtain ⟨hp, g', d, tk, os⟩ := s; obtain ⟨h1, h⟩ := h
    have hsub := sub_enumerate
    have q1 : ∀ {A' : Around} {E : Value → Shared → Prop} {Q : Value → Shared → Prop}, Q (.ref hp.objs.size) ⟨hp.push o, g', d, tk, os⟩ → wpAny (model prog w) A' (pyIter v) Q E ⟨hp, g', d, tk, os⟩ := fun q => B.iter prog w _ _ ⟨hp, g', d, tk, os⟩ _ h1 q
    wp_walk using q1
    refine wpAny_stack_any fun st => wpAny_pure ?_
    split
    · rename_i c _ _ _ _ _
      cases (c == Value.type "enumerate")
      · wp_walk using q1
        exact ⟨_, rfl, h⟩
      · wp_walk using q1
        exact ⟨_, rfl, h⟩
    · wp_walk using q1
      exact ⟨_, rfl, h⟩
theorem callEnumB {P : Program} {w : World} {A : Around} {E : Value → Shared → Prop} {v : Value} {o : Obj} {G : Heap → Prop} {Q : Value → Shared → Prop} (B : Begins v o G) (h1 : G s.heap)
    (h : ∀ h', IsEnum h' (s.heap.objs.size + 1) s.heap.objs.size 0 .none → h'.get? s.heap.objs.size = some o → (∀ b o, s.heap.get? b = some o → h'.get? b = some o) → Q (.ref (s.heap.objs.size + 1)) { s with heap := h' }) :
    wpAny (model P w) A (call (.type "enumerate") [v]) Q E s := by
  refine callType_new F.called_enumerate (by decide) (F.typeCall_enumerate_1 _) (F.newCall_enumerate_1 _) (fun obj => F.args_object_init_2 obj _) F.entry_enumerate_new (newEnumB B) ⟨h1, ?_⟩
  have hz : (s.heap.push o).objs.size = s.heap.objs.size + 1 := Heap.size_push ..
  show _ ∧ _
  rw [hz]
  have he : IsEnum ((s.heap.push o).push { cls := .type "enumerate", data := .fields #[.none, .bool false, .ref s.heap.objs.size, rawInt 0, .none, .none] }) (s.heap.objs.size + 1) s.heap.objs.size 0 .none := by
    have z := Heap.get?_push_size (s.heap.push o) (o := { cls := .type "enumerate", data := .fields #[.none, .bool false, .ref s.heap.objs.size, rawInt 0, .none, .none] }) rfl
    rw [hz] at z; exact z
  exact ⟨⟨_, he, rfl⟩, h _ he (Heap.get?_push_of_some _ (Heap.get?_push_size _ B.free)) fun b o x => Heap.get?_push_of_some _ (Heap.get?_push_of_some _ x)⟩
/-- enumerate of a list or of a tuple -/
def iEnumS (K : PySem.W.Frag) (ta : TA) : TI := fun σ H R => ta σ H fun vs H1 => ∃ a xs, vs = [.ref a] ∧ ((SqL K H1 a xs ∧ R (Ite K a) H1) ∨ (SqT K H1 a xs ∧ R (IteT K a) H1))
theorem pi_enumS {e : Expr} {ta : TA} {p pos tpos : Pos} {elts : List Expr} {kk : Nat} (hg : Gl X "enumerate") (hm : X.mg "enumerate" = none) (ha : PA X [e] ta) (hs : starEach [e] X.env = [(false, eval e X.env)] := by rfl) :
    PI X (.Tuple elts kk tpos) (.Call (.Name "enumerate" p) [e] [] pos) (iEnumS X.K ta) := by
  refine ⟨fun pins s σ H R I h => ?_⟩
  refine Call_ (ld_blt I hg hm boot_enumerate (PyProof.Rows.callWith_type1 (thn (ha.run pos pins s σ H _ I h) fun us s1 ⟨vs, H1, I1, r1, q1⟩ => ?_) hs rfl))
  obtain ⟨a, xs, ex, q1⟩ := q1
  subst ex
  cases r1 with
  | cons r rr =>
    cases rr
    cases r
    have fin : ∀ (h' : Heap) (J : It) (tn : Nat → Heap → Prop), (∀ b o, s1.heap.get? b = some o → h'.get? b = some o) → IsEnum h' (s1.heap.objs.size + 1) s1.heap.objs.size 0 .none → Turn X.prog X.w X.K (.Tuple elts kk tpos) J [s1.heap.objs.size + 1, s1.heap.objs.size] (s1.heap.objs.size + 1) tn → tn 0 h' → R J H1 →
        wpAny (model X.prog X.w) X.A (pyIter (.ref (s1.heap.objs.size + 1))) (PIE X pins σ (.Tuple elts kk tpos) R) X.xe { s1 with heap := h' } := fun h' J tn hk he T t0 q => by
      refine wpAny_pyIter_enum (s := { s1 with heap := h' }) he ?_
      refine ⟨s1.heap.objs.size + 1, [s1.heap.objs.size + 1, s1.heap.objs.size], _, J, H1, rfl, I1.kept (t' := s1.toks) hk, T, t0, fun b hb => ?_, q⟩
      have e' : b = s1.heap.objs.size + 1 ∨ b = s1.heap.objs.size := by simpa using hb
      have hle : s1.heap.objs.size ≤ b := by
        rcases e' with z | z
        · rw [z]; exact Nat.le_add_right _ _
        · rw [z]; exact Nat.le_refl _
      exact I1.fpOk hle (I1.hok.fresh hle)
    rcases q1 with ⟨hq, q⟩ | ⟨hq, q⟩
    · obtain ⟨its, rv, p', hz⟩ := I1.list hq
      exact call_enumerate_list p'.isList fun h' he hit hsz hk => fin h' _ _ hk he (turn_enum a _ _) ⟨⟨.none, he⟩, hit, Nat.succ_ne_self _⟩ q
    · obtain ⟨its, rv, p', hz⟩ := I1.tuple hq
      exact callEnumB (begins_tuple a its.toArray) p' fun h' he hit hk => fin h' _ _ hk he (turn_enumT a _ _) ⟨⟨.none, he⟩, ⟨_, hit, rfl, rfl⟩, Nat.succ_ne_self _⟩ q
end
section
variable {X : Cx} {pins : List (Addr × Obj)} {σ : L2.St} {H : Hp} {s : Shared}
def ItZ3 (K : PySem.W.Frag) (a b c : Addr) : It :=
  ⟨fun i H => ∃ (xs ys zs : List V) (x y z : V), SqT K H a xs ∧ SqT K H b ys ∧ SqT K H c zs ∧ xs[i]? = some x ∧ ys[i]? = some y ∧ zs[i]? = some z,
    fun i H v H' => ∃ T x y z, v = .ref T ∧ H T = none ∧ H' = upd H T (.tup [x, y, z]) ∧ (∀ xs, SqT K H a xs → xs[i]? = some x) ∧ (∀ ys, SqT K H b ys → ys[i]? = some y) ∧ ∀ zs, SqT K H c zs → zs[i]? = some z,
    fun i H => ∃ xs ys zs : List V, SqT K H a xs ∧ SqT K H b ys ∧ SqT K H c zs ∧ (i ≤ xs.length ∧ i ≤ ys.length ∧ i ≤ zs.length) ∧ (i = xs.length ∨ i = ys.length ∨ i = zs.length)⟩
theorem turn_zip3 {P : Program} {w : World} {K : PySem.W.Frag} {elts : List Expr} {kk : Nat} {tpos : Pos} {a b c N : Nat} (ha : a < N) (hb : b < N) (hc : c < N) :
    Turn P w K (.Tuple elts kk tpos) (ItZ3 K a b c) [N + 5, N + 3, N + 4, N, N + 1, N + 2] (N + 5) (fun i h => IsZip h (N + 5) (N + 3) (N + 4) .none ∧ IsTupOf3 h (N + 3) (.ref N) (.ref (N + 1)) (.ref (N + 2)) ∧ (∃ x y z, IsTupOf3 h (N + 4) x y z) ∧ h.IsTupleIter N a i ∧ h.IsTupleIter (N + 1) b i ∧ h.IsTupleIter (N + 2) c i) where
  mem := by simp
  obj := fun i h st d hd => by
    obtain ⟨hz, hTI, ⟨x, y, z, hTO⟩, ⟨o1, e1, _, d1⟩, ⟨o2, e2, _, d2⟩, ⟨o3, e3, _, d3⟩⟩ := st
    simp only [List.mem_cons, List.not_mem_nil, or_false] at hd
    rcases hd with q | q | q | q | q | q
    · rw [q]; exact ⟨_, hz, fun v q => nomatch q⟩
    · rw [q]; exact ⟨_, hTI, fun v q => nomatch q⟩
    · rw [q]; exact ⟨_, hTO, fun v q => nomatch q⟩
    · rw [q]; exact ⟨o1, e1, fun v q => by rw [d1] at q; cases q⟩
    · rw [q]; exact ⟨o2, e2, fun v q => by rw [d2] at q; cases q⟩
    · rw [q]; exact ⟨o3, e3, fun v q => by rw [d3] at q; cases q⟩
  keep := fun i h h' st k => by
    obtain ⟨hz, hTI, ⟨x, y, z, hTO⟩, h1, h2, h3⟩ := st
    exact ⟨k _ (by simp) _ hz, k _ (by simp) _ hTI, ⟨x, y, z, k _ (by simp) _ hTO⟩, h1.at fun o q => k _ (by simp) o q, h2.at fun o q => k _ (by simp) o q, h3.at fun o q => k _ (by simp) o q⟩
  item := by
    intro X hP hw hK hcm i pins s σ H E I hf st hg
    subst hP hw hK
    obtain ⟨hz, hTI, ⟨x0, y0, z0, hTO⟩, h1, h2, h3⟩ := st
    obtain ⟨xs, ys, zs, x, y, z, qx, qy, qz, ex, ey, ez⟩ := hg
    obtain ⟨t1, r1, p1, _⟩ := I.tuple qx
    obtain ⟨t2, r2, p2, _⟩ := I.tuple qy
    obtain ⟨t3, r3, p3, _⟩ := I.tuple qz
    obtain ⟨u1, w1, v1⟩ := r1.get ex
    obtain ⟨u2, w2, v2⟩ := r2.get ey
    obtain ⟨u3, w3, v3⟩ := r3.get ez
    have hzl : N + 5 < s.heap.objs.size := Heap.lt_size hz
    have one : ∀ {f : Nat} {d : Addr}, d ∈ [f] → f < N → d < N := fun hd hf => by rw [List.mem_singleton.mp hd]; exact hf
    have S := zip_sep3 (N := N) (fp1 := [a]) (fp2 := [b]) (fp3 := [c]) (fun d hd => one hd ha) (fun d hd => one hd hb) (fun d hd => one hd hc)
    have hA : X.A.in1.handled = none := I.ok.hd hcm
    refine wpAny_pyNext_zipD3_item S (Draws.tuple hA N a (Nat.ne_of_lt ha) t1.toArray) (Draws.tuple hA (N + 1) b (Nat.ne_of_lt (Nat.lt_succ_of_lt hb)) t2.toArray) (Draws.tuple hA (N + 2) c (Nat.ne_of_lt (Nat.lt_succ_of_lt (Nat.lt_succ_of_lt hc))) t3.toArray) hz hTI hTO ⟨h1, p1⟩ ⟨h2, p2⟩ ⟨h3, p3⟩
      (by have := (List.getElem?_eq_some_iff.mp w1).1; simpa using this) (by have := (List.getElem?_eq_some_iff.mp w2).1; simpa using this) (by have := (List.getElem?_eq_some_iff.mp w3).1; simpa using this) fun x1 x2 x3 h' tk y1 y2 y3 z' TO' s1 s2 s3 hT hsz hk => ?_
    have e1 : u1 = x1 := by
      have q : t1[i]? = some x1 := by simpa using y1
      rw [w1] at q; exact Option.some.inj q
    have e2 : u2 = x2 := by
      have q : t2[i]? = some x2 := by simpa using y2
      rw [w2] at q; exact Option.some.inj q
    have e3 : u3 = x3 := by
      have q : t3[i]? = some x3 := by simpa using y3
      rw [w3] at q; exact Option.some.inj q
    subst e1 e2 e3
    refine ⟨_, rfl, wpAny_letOwnedTupleGo_zip (s := { s with heap := h', toks := tk }) z' fun h'' z'' sb => ?_⟩
    have hT2 : h''.get? s.heap.objs.size = some { cls := .type "tuple", data := .seq #[u1, u2, u3] } := (sb.2 _ (Nat.ne_of_gt hzl)).trans hT
    have new : ObjOk X.prog X.w (upd H s.heap.objs.size (.tup [x, y, z])) h'' s.heap.objs.size (.tup [x, y, z]) := ⟨by show 3 ≤ sizeLine; decide, [u1, u2, u3], .cons v1 (.cons v2 (.cons v3 .nil)), ⟨_, hT2, rfl, _, rfl⟩⟩
    have I1 : Inv X pins σ (upd H s.heap.objs.size (.tup [x, y, z])) { s with heap := h'', toks := tk } :=
      I.turnedNew (t' := tk) (ch := [N + 5, N + 3, N + 4, N, N + 1, N + 2]) (fun d o hd q => (sb.2 d (fun q' => hd (by simp [q']))).trans (hk d o (fun q' => hd (by simp [q'])) (fun q' => hd (by simp [q'])) (fun q' => hd (by simp [q'])) (fun q' => hd (by simp [q'])) (fun q' => hd (by simp [q'])) q)) hf (Nat.le_refl _) new
    have n5 : ∀ k : Nat, k < 5 → N + k ≠ N + 5 := fun k hk => by omega
    refine ⟨.ref s.heap.objs.size, _, I1, rfl, ⟨_, x, y, z, rfl, I.hok.fresh (Nat.le_refl _), rfl, fun l hl => by rw [I.tuple_inj hl qx]; exact ex, fun l hl => by rw [I.tuple_inj hl qy]; exact ey, fun l hl => by rw [I.tuple_inj hl qz]; exact ez⟩, ⟨z'', ?_, ⟨u1, u2, u3, ?_⟩, ?_, ?_, ?_⟩, fun d hd => ?_⟩
    · exact (sb.2 _ (n5 3 (by decide))).trans (hk _ _ (n5 3 (by decide)) (show (N + 3 : Nat) ≠ N + 4 by omega) (show (N + 3 : Nat) ≠ N by omega) (show (N + 3 : Nat) ≠ N + 1 by omega) (show (N + 3 : Nat) ≠ N + 2 by omega) hTI)
    · exact (sb.2 _ (n5 4 (by decide))).trans TO'
    · exact s1.1.at fun o q => (sb.2 _ (n5 0 (by decide))).trans q
    · exact s2.1.at fun o q => (sb.2 _ (n5 1 (by decide))).trans q
    · exact s3.1.at fun o q => (sb.2 _ (n5 2 (by decide))).trans q
    · have hlt : d < s.heap.objs.size := by
        simp only [List.mem_cons, List.not_mem_nil, or_false] at hd
        have : d ≤ N + 5 := by
          rcases hd with q | q | q | q | q | q <;> rw [q] <;> first | exact Nat.le_refl _ | exact Nat.add_le_add_left (by decide) N | exact Nat.le_add_right _ _
        exact Nat.lt_of_le_of_lt this hzl
      rw [upd_ne (Nat.ne_of_lt hlt)]
      exact (hf d hd).1
  done := by
    intro X hP hw hK hcm i pins s σ H E I hf st hg
    subst hP hw hK
    obtain ⟨hz, hTI, ⟨x0, y0, z0, hTO⟩, h1, h2, h3⟩ := st
    obtain ⟨xs, ys, zs, qx, qy, qz, ⟨l1, l2, l3⟩, hend⟩ := hg
    obtain ⟨t1, r1, p1, _⟩ := I.tuple qx
    obtain ⟨t2, r2, p2, _⟩ := I.tuple qy
    obtain ⟨t3, r3, p3, _⟩ := I.tuple qz
    have m1 := r1.length
    have m2 := r2.length
    have m3 := r3.length
    have one : ∀ {f : Nat} {d : Addr}, d ∈ [f] → f < N → d < N := fun hd hf => by rw [List.mem_singleton.mp hd]; exact hf
    have S := zip_sep3 (N := N) (fp1 := [a]) (fp2 := [b]) (fp3 := [c]) (fun d hd => one hd ha) (fun d hd => one hd hb) (fun d hd => one hd hc)
    have hA : X.A.in1.handled = none := I.ok.hd hcm
    refine wpAny_pyNext_zipD3_end S (Draws.tuple hA N a (Nat.ne_of_lt ha) t1.toArray) (Draws.tuple hA (N + 1) b (Nat.ne_of_lt (Nat.lt_succ_of_lt hb)) t2.toArray) (Draws.tuple hA (N + 2) c (Nat.ne_of_lt (Nat.lt_succ_of_lt (Nat.lt_succ_of_lt hc))) t3.toArray) hz hTI hTO ⟨h1, p1⟩ ⟨h2, p2⟩ ⟨h3, p3⟩
      (by simp; omega) (by simp; omega) (by simp; omega) (by simp; omega) fun h' tk hk => ⟨rfl, ?_⟩
    exact I.turnedL (t' := tk) (ch := [N + 5, N + 3, N + 4, N, N + 1, N + 2]) (fun d o hd q => hk d o (fun q' => hd (by simp [q'])) (fun q' => hd (by simp [q'])) (fun q' => hd (by simp [q'])) (fun q' => hd (by simp [q'])) (fun q' => hd (by simp [q'])) q) hf
  self := fun A i s Q E st h => wpAny_pyIter_zip st.1 h
def iZip3 (K : PySem.W.Frag) (ta : TA) : TI := fun σ H R => ta σ H fun vs H1 => ∃ a b c xs ys zs, vs = [.ref a, .ref b, .ref c] ∧ SqT K H1 a xs ∧ SqT K H1 b ys ∧ SqT K H1 c zs ∧ R (ItZ3 K a b c) H1
theorem pi_zip3 {e e2 e3 : Expr} {ta : TA} {p pos tpos : Pos} {elts : List Expr} {kk : Nat} (hg : Gl X "zip") (hm : X.mg "zip" = none) (ha : PA X [e, e2, e3] ta)
    (hs : starEach [e, e2, e3] X.env = (false, eval e X.env) :: starEach [e2, e3] X.env := by rfl) (hpl : (backTo pos (starEach [e2, e3] X.env)).any (·.1) = false := by rfl) :
    PI X (.Tuple elts kk tpos) (.Call (.Name "zip" p) [e, e2, e3] [] pos) (iZip3 X.K ta) := by
  refine ⟨fun pins s σ H R I h => ?_⟩
  refine Call_ (ld_blt I hg hm boot_zip (PyProof.Rows.callWith_type1 (thn (ha.run pos pins s σ H _ I h) fun us s1 ⟨vs, H1, I1, r1, q1⟩ => ?_) hs hpl))
  obtain ⟨a, b, c, xs, ys, zs, ex, q1, q2, q3, q⟩ := q1
  subst ex
  cases r1 with
  | cons r rr =>
    cases rr with
    | cons r2 rr =>
      cases rr with
      | cons r3 rr =>
        cases rr
        cases r; cases r2; cases r3
        obtain ⟨t1, v1, p1, _⟩ := I1.tuple q1
        obtain ⟨t2, v2, p2, _⟩ := I1.tuple q2
        obtain ⟨t3, v3, p3, _⟩ := I1.tuple q3
        have lt : ∀ {d : Addr} {its : Array Value}, IsTup s1.heap d its → d < s1.heap.objs.size := fun x => by obtain ⟨o, ho, _⟩ := x; exact Heap.lt_size ho
        refine zip_begins3 (begins_tuple a t1.toArray) (begins_tuple b t2.toArray) (begins_tuple c t3.toArray) p1 p2 p3 fun h' hz hT hO g1 g2 g3 hsz hk => wpAny_pyIter_zip (s := { s1 with heap := h' }) hz ?_
        refine ⟨s1.heap.objs.size + 5, [s1.heap.objs.size + 5, s1.heap.objs.size + 3, s1.heap.objs.size + 4, s1.heap.objs.size, s1.heap.objs.size + 1, s1.heap.objs.size + 2], _, _, H1, rfl, I1.kept (t' := s1.toks) hk, turn_zip3 (lt p1) (lt p2) (lt p3), ⟨hz, hT, ⟨_, _, _, hO⟩, ⟨_, g1, rfl, rfl⟩, ⟨_, g2, rfl, rfl⟩, ⟨_, g3, rfl, rfl⟩⟩, fun d hd => ?_, q⟩
        have hle : s1.heap.objs.size ≤ d := by
          simp only [List.mem_cons, List.not_mem_nil, or_false] at hd
          rcases hd with q | q | q | q | q | q <;> rw [q] <;> first | exact Nat.le_refl _ | exact Nat.le_add_right _ _
        exact I1.fpOk hle (I1.hok.fresh hle)
end
end G
/-! ### own exceptions with fields -/
namespace G
open PySem PySem.Spec PyProof.Rows L2
def oexClsB (K : PySem.W.Frag) (C : Addr) : Bool := match K.lookup C with
  | some ⟨.type "type", _, .cls cd, sl⟩ => (match cd.mro, sl.toList with
    | .ref C' :: bm, [_, _, _, _, some (.builtin n), _] => C' == C && n == "ValueError.__new__" && !cd.hasDel && cd.hasDict && PySem.HandSPX.refsVE bm
    | _, _ => false)
  | _ => false
theorem oexClsB_ok {K : PySem.W.Frag} {C : Addr} (q : oexClsB K C = true) : ∃ nm q N bs bm sn sub ab col dd k0 k1 k2 k3 k5, K.lookup C = some (excClassObj nm q C N bs bm true sn sub ab col dd k0 k1 k2 k3 k5 "ValueError.__new__") ∧ PySem.HandSPX.refsVE bm = true := by
  unfold oexClsB at q
  split at q
  · rename_i dd cd sl ho
    split at q
    · rename_i C' bm k0 k1 k2 k3 n k5 hm hs
      simp only [Bool.and_eq_true, beq_iff_eq, Bool.not_eq_true'] at q
      obtain ⟨⟨⟨⟨rfl, rfl⟩, hdel⟩, hdc⟩, ht⟩ := q
      obtain ⟨nm, bs, mro, ns, qn, hd, sn, sub, ab, col, del⟩ := cd
      dsimp only at hm hdel hdc
      subst hm hdel hdc
      have hsl : sl = #[k0, k1, k2, k3, some (.builtin "ValueError.__new__"), k5] := by
        obtain ⟨l⟩ := sl; simp only at hs; rw [hs]
      subst hsl
      exact ⟨nm, qn, ns, bs, bm, sn, sub, ab, col, dd, k0, k1, k2, k3, k5, ho, ht⟩
    · cases q
  · cases q
/-- an own exception class at C: its __init__ at fI; its fields fs are no attributes of the class -/
structure OexF (K : PySem.W.Frag) (C fI : Addr) (fs : List Str) : Prop where
  o : OexC K C
  i : PySem.W.findIn K (.ref C) "__init__" = some (some (.ref fI))
  t : PySem.W.typeIn K (.ref fI) = some (.type "function")
  x : XfC K C
  n : ∀ f ∈ fs, PySem.W.findIn K (.ref C) f = some none
def oexFB (K : PySem.W.Frag) (C fI : Addr) (fs : List Str) : Bool := oexClsB K C && (He.eqO (PySem.W.findIn K (.ref C) "__setattr__") (some (some (.builtin "object.__setattr__"))) && (decide (PySem.W.subIn K (.ref C) (.type "BaseException") = some true) && (decide (PySem.W.typeIn K (.ref C) = some (.type "type")) && (PySem.W.keepIn K (.ref C) &&
  (He.eqO (PySem.W.findIn K (.ref C) "__init__") (some (some (.ref fI))) && (decide (PySem.W.typeIn K (.ref fI) = some (.type "function")) && (xfB K C && fs.all fun f => He.eqO (PySem.W.findIn K (.ref C) f) (some none))))))))
theorem oexFB_ok {K : PySem.W.Frag} {C fI : Addr} {fs : List Str} (c : oexFB K C fI fs = true) : OexF K C fI fs := by
  obtain ⟨c1, c⟩ := He.ba c
  obtain ⟨c2, c⟩ := He.ba c
  obtain ⟨c3, c⟩ := He.ba c
  obtain ⟨c4, c⟩ := He.ba c
  obtain ⟨c5, c⟩ := He.ba c
  obtain ⟨c6, c⟩ := He.ba c
  obtain ⟨c7, c⟩ := He.ba c
  obtain ⟨c8, c9⟩ := He.ba c
  exact ⟨⟨oexClsB_ok c1, He.eqO_ok c2, of_decide_eq_true c3, of_decide_eq_true c4, c5⟩, He.eqO_ok c6, of_decide_eq_true c7, xfB_ok c8, fun f hf => He.eqO_ok (List.all_eq_true.mp c9 f hf)⟩
/-- __init__ of an exception with one field -/
def spX1 (C : Addr) (f : Str) : Sp := fun vs H Q _ => ∃ (a : Addr) (v : V), vs = [.ref a, v] ∧ H a = some (exo a C none) ∧ ∀ dx, H dx = none → dx ≠ a → Q .non (upd (upd H dx (exd dx [(f, v)])) a (exo a C (some dx)))
def spX2 (C : Addr) (f g : Str) : Sp := fun vs H Q _ => ∃ (a : Addr) (v u : V), vs = [.ref a, v, u] ∧ H a = some (exo a C none) ∧ ∀ dx, H dx = none → dx ≠ a → Q .non (upd (upd (upd H dx (exd dx [(f, v)])) a (exo a C (some dx))) dx (exd dx [(g, u), (f, v)]))
theorem kOst {X : Cx} {K : PySem.W.Frag} {st : Stmt} {to te : TE} {f : Str} (h : PS X st (tOst X.K f to te)) (hK : X.K = K := by rfl) : PS X st (tOst K f to te) := hK ▸ h
section
variable {K : PySem.W.Frag} {σ : L2.St} {H : Hp} {D : Ends} {to te : TE} {f : Str} {C a : Addr} {y : V}
theorem r_ost (q : te σ H fun y H1 => to σ H1 fun x H2 => ∃ a C : Addr, x = .ref a ∧ OexC K C ∧ PySem.W.findIn K (.ref C) f = some none ∧
  ((H2 a = some (exo a C none) ∧ ∀ dx, H2 dx = none → dx ≠ a → D.nx σ (upd (upd H2 dx (exd dx [(f, y)])) a (exo a C (some dx)))) ∨
    ∃ (dx : Addr) (fs : List (Str × V)), H2 a = some (exo a C (some dx)) ∧ H2 dx = some (exd dx fs) ∧ fs.length ≤ 900 ∧ D.nx σ (upd H2 dx (exd dx ((f, y) :: fs))))) : tOst K f to te D σ H := q
/-- raise C(v): what the def lets out -/
theorem r_mkX1 {v : V} {E : XK} (q : ∀ d H', Same H H' → H d = none → H' d = some (.xd [(f, v)]) → E (.ref C) (some d) H') : ∀ a, H a = none → spX1 C f (.ref a :: ([v] ++ [])) (upd H a (exo a C none))
    (fun u H2 => u = .non ∧ ∃ (d : Addr) (fs : List (Str × V)), H2 a = some (exo a C (some d)) ∧ H2 d = some (exd d fs) ∧ H d = none ∧ E (.ref C) (some d) (upd (del H2 a) d (.xd fs))) (fun _ _ _ => False) := by
  intro a ha
  refine ⟨a, v, rfl, upd_same, fun dx hdx hne => ⟨rfl, dx, [(f, v)], upd_same, ?_, ?_, ?_⟩⟩
  · rw [upd_ne hne, upd_same]
  · rw [upd_ne hne] at hdx; exact hdx
  · have hd0 : H dx = none := by rw [upd_ne hne] at hdx; exact hdx
    refine q dx _ (fun c o e => ?_) hd0 upd_same
    have n1 : c ≠ dx := ne_of_none e hd0
    have n2 : c ≠ a := ne_of_none e ha
    rw [upd_ne n1, del_ne n2, upd_ne n2, upd_ne n1, upd_ne n2]
    exact e
theorem r_mkX2 {g : Str} {v u : V} {E : XK} (q : ∀ d H', Same H H' → H d = none → H' d = some (.xd [(g, u), (f, v)]) → E (.ref C) (some d) H') : ∀ a, H a = none → spX2 C f g (.ref a :: ([v, u] ++ [])) (upd H a (exo a C none))
    (fun z H2 => z = .non ∧ ∃ (d : Addr) (fs : List (Str × V)), H2 a = some (exo a C (some d)) ∧ H2 d = some (exd d fs) ∧ H d = none ∧ E (.ref C) (some d) (upd (del H2 a) d (.xd fs))) (fun _ _ _ => False) := by
  intro a ha
  refine ⟨a, v, u, rfl, upd_same, fun dx hdx hne => ⟨rfl, dx, [(g, u), (f, v)], ?_, upd_same, ?_, ?_⟩⟩
  · rw [upd_ne hne.symm, upd_same]
  · rw [upd_ne hne] at hdx; exact hdx
  · have hd0 : H dx = none := by rw [upd_ne hne] at hdx; exact hdx
    refine q dx _ (fun c o e => ?_) hd0 upd_same
    have n1 : c ≠ dx := ne_of_none e hd0
    have n2 : c ≠ a := ne_of_none e ha
    rw [upd_ne n1, del_ne n2, upd_ne n1, upd_ne n2, upd_ne n1, upd_ne n2]
    exact e
end
end G
/-! ### a list or a tuple -/
namespace G
open PySem PySem.Spec PyProof.Rows L2
def SqS (K : PySem.W.Frag) (H : Hp) (a : Addr) (xs : List V) : Prop := SqL K H a xs ∨ SqT K H a xs
theorem SqS.same {K : PySem.W.Frag} {H H' : Hp} {a : Addr} {xs : List V} (h : SqS K H a xs) (s : Same H H') : SqS K H' a xs := h.imp (fun z => s.seq z) (fun z => sqT_same s z)
def rIxSq (K : PySem.W.Frag) : V → V → Hp → VK → Prop := fun x y H Q => rIxL K x y H Q ∨ rIxT K x y H Q
section
variable {X : Cx} {K : PySem.W.Frag}
theorem kIxS (h : X.K = K := by rfl) : IxR X (rIxSq K) := by
  subst h
  intro va sl pins s σ H x y u v Q I rx ry q hs
  rcases q with q | q
  · exact ix_list va sl pins s σ H x y u v Q I rx ry q hs
  · exact ix_tup va sl pins s σ H x y u v Q I rx ry q hs
theorem kpiEnumS {e : Expr} {ta : TA} {p pos tpos : Pos} {elts : List Expr} {kk : Nat} (hg : Gl X "enumerate") (hm : X.mg "enumerate" = none) (ha : PA X [e] ta) (h : X.K = K := by rfl) (hs : starEach [e] X.env = [(false, eval e X.env)] := by rfl) :
    PI X (.Tuple elts kk tpos) (.Call (.Name "enumerate" p) [e] [] pos) (iEnumS K ta) := h ▸ pi_enumS hg hm ha hs
theorem kpiZip3 {e e2 e3 : Expr} {ta : TA} {p pos tpos : Pos} {elts : List Expr} {kk : Nat} (hg : Gl X "zip") (hm : X.mg "zip" = none) (ha : PA X [e, e2, e3] ta) (h : X.K = K := by rfl)
    (hs : starEach [e, e2, e3] X.env = (false, eval e X.env) :: starEach [e2, e3] X.env := by rfl) (hpl : (backTo pos (starEach [e2, e3] X.env)).any (·.1) = false := by rfl) :
    PI X (.Tuple elts kk tpos) (.Call (.Name "zip" p) [e, e2, e3] [] pos) (iZip3 K ta) := h ▸ pi_zip3 hg hm ha hs hpl
end
section
variable {K : PySem.W.Frag} {H : Hp} {Q : VK} {a : Addr} {xs : List V} {n : Int} {v x : V} {σ : L2.St} {D : Ends} {ts : TS} {g : TG} {tt : TT} {te : TE} {vs : List Nat}
theorem r_ixS (h : SqS K H a xs) (e : atI xs n = some v) (q : Q v H) : rIxSq K (.ref a) (.int n) H Q := h.imp (fun z => r_ixL z e q) (fun z => r_ixT z e q)
theorem r_lenS (h : SqS K H a xs) (q : Q (.int (xs.length : Int)) H) : rLn K [.ref a] H Q := h.elim (fun z => r_lenL z q) (fun z => r_lenT z q)
theorem r_lstOfS (h : SqS K H a xs) (q : ∀ l, H l = none → Q (.ref l) (upd H l (.lst xs))) : rLstOf K [.ref a] H Q := h.elim (fun z => r_lstOfL z q) (fun z => r_lstOfT z q)
theorem r_isiT2 {cs : List V} {us : List Value} {t : Value} {b : Bool} {tp : Addr} (h : H tp = some (.tup cs)) (k : Paired ClsV cs us) (ty : TyX K H x t) (e : PySem.W.kitAny K t us = some b) (q : Q (.bl b) H) : rIsiT K [x, .ref tp] H Q := ⟨x, tp, cs, t, us, b, rfl, h, k, ty, e, q⟩
/-- a for over enumerate of a list or tuple: one turn binds a new pair -/
def LoopE (K : PySem.W.Frag) (ws : List V) (g : TG) (ts : TS) (D : Ends) (σ : L2.St) (H : Hp) : Prop := ∃ a xs, ws = [.ref a] ∧ ((SqL K H a xs ∧ Turns (Ite K a) g ts D σ H) ∨ (SqT K H a xs ∧ Turns (IteT K a) g ts D σ H))
theorem r_forE {ta : TA} (q : ta σ H fun ws H1 => LoopE K ws g ts D σ H1) : tFor (iEnumS K ta) g ts D σ H := q
theorem loopE (hS : SqS K H a xs) (Pv : Nat → L2.St → Hp → Prop) (h0 : Pv 0 σ H) (hl : ∀ i σ' H', Pv i σ' H' → (SqL K H a xs → SqL K H' a xs) ∧ (SqT K H a xs → SqT K H' a xs))
    (hs : ∀ i x T σ' H', xs[i]? = some x → Pv i σ' H' → H' T = none → g (.ref T) σ' (upd H' T (.tup [.int (i : Nat), x])) fun σ2 H2 => ts { D with nx := Pv (i + 1), ct := Pv (i + 1), bk := D.nx } σ2 H2) (hd : ∀ σ' H', Pv xs.length σ' H' → D.nx σ' H') : LoopE K [.ref a] g ts D σ H := by
  rcases hS with hS | hS
  · refine ⟨a, xs, rfl, .inl ⟨hS, fun i m σ' H' => m = xs.length - i ∧ i ≤ xs.length ∧ Pv i σ' H', ⟨xs.length, by simp, Nat.zero_le _, h0⟩, ?_⟩⟩
    rintro i m σ' H' ⟨rfl, hi, p⟩
    have q := (hl i σ' H' p).1 hS
    by_cases hlt : i < xs.length
    · refine .inr ⟨⟨xs, xs[i], q, by simp [hlt]⟩, Pv (i + 1), fun σ2 H2 p' => ⟨xs.length - (i + 1), by omega, rfl, hlt, p'⟩, ?_⟩
      rintro y H2 ⟨T, x, rfl, hT, rfl, hx⟩
      exact hs i x T σ' H' (hx xs q) p hT
    · have e : i = xs.length := by omega
      subst e
      exact .inl ⟨⟨xs, q, Nat.le_refl _⟩, hd σ' H' p⟩
  · refine ⟨a, xs, rfl, .inr ⟨hS, fun i m σ' H' => m = xs.length - i ∧ i ≤ xs.length ∧ Pv i σ' H', ⟨xs.length, by simp, Nat.zero_le _, h0⟩, ?_⟩⟩
    rintro i m σ' H' ⟨rfl, hi, p⟩
    have q := (hl i σ' H' p).2 hS
    by_cases hlt : i < xs.length
    · refine .inr ⟨⟨xs, xs[i], q, by simp [hlt]⟩, Pv (i + 1), fun σ2 H2 p' => ⟨xs.length - (i + 1), by omega, rfl, hlt, p'⟩, ?_⟩
      rintro y H2 ⟨T, x, rfl, hT, rfl, hx⟩
      exact hs i x T σ' H' (hx xs q) p hT
    · have e : i = xs.length := by omega
      subst e
      exact .inl ⟨⟨xs, q, Nat.le_refl _⟩, hd σ' H' p⟩
theorem sq_pair {H' : Hp} (s : Same H H') : (SqL K H a xs → SqL K H' a xs) ∧ (SqT K H a xs → SqT K H' a xs) := ⟨fun z => s.seq z, fun z => sqT_same s z⟩
/-- a comprehension over enumerate of a list or tuple -/
def CompE (K : PySem.W.Frag) (ws : List V) (g : TG) (tt : TT) (te : TE) (vs : List Nat) (σ : L2.St) (H : Hp) (Q : VK) : Prop := ∃ a xs, ws = [.ref a] ∧ ((SqL K H a xs ∧ Comp (Ite K a) g tt te vs σ H Q) ∨ (SqT K H a xs ∧ Comp (IteT K a) g tt te vs σ H Q))
theorem r_lcE {ta : TA} (q : ta σ H fun ws H1 => CompE K ws g tt te vs σ H1 Q) : tLc (iEnumS K ta) g tt te vs σ H Q := q
theorem compE (hx : xs.length ≤ 100000) (hS : SqS K H a xs) (P : Addr → Nat → List V → Hp → Prop) (h0 : ∀ D, H D = none → P D 0 [] (upd H D (.lst []))) (hl : ∀ D i acc H', H D = none → P D i acc H' → (SqL K H a xs → SqL K H' a xs) ∧ (SqT K H a xs → SqT K H' a xs))
    (hs : ∀ D i x T acc H', H D = none → xs[i]? = some x → i < xs.length → P D i acc H' → H' D = some (.lst acc) → acc.length = i → H' T = none → g (.ref T) (wipe σ vs) (upd H' T (.tup [.int (i : Nat), x])) fun σ2 H2 => wipe σ2 vs = wipe σ vs ∧ te σ2 H2 (CNext D (P D) i))
    (hd : ∀ D acc H', H D = none → P D xs.length acc H' → H' D = some (.lst acc) → acc.length = xs.length → Q (.ref D) H') : CompE K [.ref a] g tYes te vs σ H Q := by
  have key : ∀ J : It, (∀ D i acc H', H D = none → P D i acc H' → i < xs.length → J.go i H') → (∀ D acc H', H D = none → P D xs.length acc H' → J.stop xs.length H') → (∀ D i acc H' y H2, H D = none → P D i acc H' → J.yld i H' y H2 → ∃ T x, y = .ref T ∧ H' T = none ∧ H2 = upd H' T (.tup [.int (i : Nat), x]) ∧ xs[i]? = some x) → Comp J g tYes te vs σ H Q := by
    intro J j1 j2 j3 D hD
    refine ⟨fun i m H' => m = xs.length - i ∧ i ≤ xs.length ∧ ∃ acc, P D i acc H' ∧ H' D = some (.lst acc) ∧ acc.length = i, ⟨xs.length, by simp, Nat.zero_le _, [], h0 D hD, upd_same, rfl⟩, ?_⟩
    rintro i m H' ⟨rfl, hi, acc, p, hD', hlen⟩
    by_cases hlt : i < xs.length
    · refine .inr ⟨j1 D i acc H' hD p hlt, fun H2 => ∃ acc, P D (i + 1) acc H2 ∧ H2 D = some (.lst acc) ∧ acc.length = i + 1, fun H2 p' => ⟨xs.length - (i + 1), by omega, rfl, hlt, p'⟩, ?_⟩
      intro y H2 hy
      obtain ⟨T, x, rfl, hT, rfl, hx'⟩ := j3 D i acc H' y H2 hD p hy
      exact hs D i x T acc H' hD hx' hlt p hD' hlen hT
    · have e : i = xs.length := by omega
      subst e
      exact .inl ⟨j2 D acc H' hD p, hd D acc H' hD p hD' hlen⟩
  rcases hS with hS | hS
  · refine ⟨a, xs, rfl, .inl ⟨hS, key _ (fun D i acc H' hD p hlt => ⟨xs, xs[i], (hl D i acc H' hD p).1 hS, by simp [hlt]⟩) (fun D acc H' hD p => ⟨xs, (hl D _ acc H' hD p).1 hS, Nat.le_refl _⟩) ?_⟩⟩
    rintro D i acc H' y H2 hD p ⟨T, x, rfl, hT, rfl, hx'⟩
    exact ⟨T, x, rfl, hT, rfl, hx' xs ((hl D i acc H' hD p).1 hS)⟩
  · refine ⟨a, xs, rfl, .inr ⟨hS, key _ (fun D i acc H' hD p hlt => ⟨xs, xs[i], (hl D i acc H' hD p).2 hS, by simp [hlt]⟩) (fun D acc H' hD p => ⟨xs, (hl D _ acc H' hD p).2 hS, Nat.le_refl _⟩) ?_⟩⟩
    rintro D i acc H' y H2 hD p ⟨T, x, rfl, hT, rfl, hx'⟩
    exact ⟨T, x, rfl, hT, rfl, hx' xs ((hl D i acc H' hD p).2 hS)⟩
/-- zip of three tuples of n items, in a comprehension -/
def CompZ3 (K : PySem.W.Frag) (ws : List V) (g : TG) (tt : TT) (te : TE) (vs : List Nat) (σ : L2.St) (H : Hp) (Q : VK) : Prop := ∃ a b c xs ys zs, ws = [.ref a, .ref b, .ref c] ∧ SqT K H a xs ∧ SqT K H b ys ∧ SqT K H c zs ∧ Comp (ItZ3 K a b c) g tt te vs σ H Q
theorem r_lcZ3 {ta : TA} (q : ta σ H fun ws H1 => CompZ3 K ws g tt te vs σ H1 Q) : tLc (iZip3 K ta) g tt te vs σ H Q := q
theorem compZ3 {b c : Addr} {ys zs : List V} (hx : xs.length ≤ 100000) (ly : ys.length = xs.length) (lz : zs.length = xs.length) (sa : SqT K H a xs) (sb : SqT K H b ys) (sc : SqT K H c zs) (P : Addr → Nat → List V → Hp → Prop) (h0 : ∀ D, H D = none → P D 0 [] (upd H D (.lst []))) (hl : ∀ D i acc H', H D = none → P D i acc H' → Same H H')
    (hs : ∀ D i x y z T acc H', H D = none → xs[i]? = some x → ys[i]? = some y → zs[i]? = some z → i < xs.length → P D i acc H' → H' D = some (.lst acc) → acc.length = i → H' T = none → g (.ref T) (wipe σ vs) (upd H' T (.tup [x, y, z])) fun σ2 H2 => wipe σ2 vs = wipe σ vs ∧ te σ2 H2 (CNext D (P D) i))
    (hd : ∀ D acc H', H D = none → P D xs.length acc H' → H' D = some (.lst acc) → acc.length = xs.length → Q (.ref D) H') : CompZ3 K [.ref a, .ref b, .ref c] g tYes te vs σ H Q := by
  refine ⟨a, b, c, xs, ys, zs, rfl, sa, sb, sc, fun D hD => ⟨fun i m H' => m = xs.length - i ∧ i ≤ xs.length ∧ ∃ acc, P D i acc H' ∧ H' D = some (.lst acc) ∧ acc.length = i, ⟨xs.length, by simp, Nat.zero_le _, [], h0 D hD, upd_same, rfl⟩, ?_⟩⟩
  rintro i m H' ⟨rfl, hi, acc, p, hD', hlen⟩
  have S := hl D i acc H' hD p
  by_cases hlt : i < xs.length
  · refine .inr ⟨⟨xs, ys, zs, xs[i], ys[i]'(by omega), zs[i]'(by omega), sqT_same S sa, sqT_same S sb, sqT_same S sc, by simp [hlt], by simp [ly, hlt], by simp [lz, hlt]⟩, fun H2 => ∃ acc, P D (i + 1) acc H2 ∧ H2 D = some (.lst acc) ∧ acc.length = i + 1, fun H2 p' => ⟨xs.length - (i + 1), by omega, rfl, hlt, p'⟩, ?_⟩
    rintro v H2 ⟨T, x, y, z, rfl, hT, rfl, e1, e2, e3⟩
    exact hs D i x y z T acc H' hD (e1 xs (sqT_same S sa)) (e2 ys (sqT_same S sb)) (e3 zs (sqT_same S sc)) hlt p hD' hlen hT
  · have e : i = xs.length := by omega
    subst e
    exact .inl ⟨⟨xs, ys, zs, sqT_same S sa, sqT_same S sb, sqT_same S sc, ⟨Nat.le_refl _, by omega, by omega⟩, .inl rfl⟩, hd D acc H' hD p hD' hlen⟩
end
/-! generators: their readings -/
section
variable {K : PySem.W.Frag} {C : Ctr} {D : GEn} {m : Nat} {Hr : Hp} {σ : L2.St} {H : Hp}
theorem q_c {t u : TGm} (q : t C { D with nx := fun m' Hr' σ' H' => u C D m' Hr' σ' H' } m Hr σ H) : tGc t u C D m Hr σ H := q
theorem q_n (q : D.nx m Hr σ H) : tGn C D m Hr σ H := q
theorem q_p {t : TS} (q : t (D.at m Hr) σ H) : tGp t C D m Hr σ H := q
theorem q_y {te : TE} (q : te σ H fun x H1 => ∃ m', m = m' + 1 ∧ C.yl m Hr x H1 ∧ ∀ H2, C.ok m' H1 H2 → D.nx m' H2 σ H2) : tGy te C D m Hr σ H := q
theorem q_i {tc : TT} {t u : TGm} (q : tc σ H fun b H1 => if b = true then t C D m Hr σ H1 else u C D m Hr σ H1) : tGi tc t u C D m Hr σ H := q
/-- for over enumerate of a list or tuple, in a generator -/
theorem q_forE {ta : TA} {gt : TG} {tb : TGm} {a : Addr} {xs : List V} (Pv : Nat → Nat → Hp → L2.St → Hp → Prop) (q : ta σ H fun ws H1 => ws = [.ref a] ∧ SqS K H1 a xs ∧ Pv 0 m Hr σ H1 ∧
      (∀ i m Hr σ' H', Pv i m Hr σ' H' → (SqL K H1 a xs → SqL K H' a xs) ∧ (SqT K H1 a xs → SqT K H' a xs)) ∧
      (∀ i x T m Hr σ' H', xs[i]? = some x → Pv i m Hr σ' H' → H' T = none → gt (.ref T) σ' (upd H' T (.tup [.int (i : Nat), x])) fun σ2 H2 => tb C { D with nx := Pv (i + 1), ct := Pv (i + 1), bk := D.nx } m Hr σ2 H2) ∧
      ∀ m Hr σ' H', Pv xs.length m Hr σ' H' → D.nx m Hr σ' H') (mono : ∀ (R R' : List V → Hp → Prop), (∀ ws H1, R ws H1 → R' ws H1) → ta σ H R → ta σ H R') : tGf (iEnumS K ta) gt tb C D m Hr σ H := by
  refine mono _ _ (fun ws H1 z => ?_) q
  obtain ⟨rfl, hS, p0, hl, hs, hd⟩ := z
  rcases hS with hS | hS
  · refine ⟨a, xs, rfl, .inl ⟨hS, fun i z m Hr σ' H' => z = xs.length - i ∧ i ≤ xs.length ∧ Pv i m Hr σ' H', ⟨xs.length, by simp, Nat.zero_le _, p0⟩, ?_⟩⟩
    rintro i z m Hr σ' H' ⟨rfl, hi, p⟩
    have q := (hl i m Hr σ' H' p).1 hS
    by_cases hlt : i < xs.length
    · refine .inr ⟨⟨xs, xs[i], q, by simp [hlt]⟩, Pv (i + 1), fun m2 Hr2 σ2 H2 p' => ⟨xs.length - (i + 1), by omega, rfl, hlt, p'⟩, ?_⟩
      rintro y H2 ⟨T, x, rfl, hT, rfl, hx⟩
      exact hs i x T m Hr σ' H' (hx xs q) p hT
    · have e : i = xs.length := by omega
      subst e
      exact .inl ⟨⟨xs, q, Nat.le_refl _⟩, hd m Hr σ' H' p⟩
  · refine ⟨a, xs, rfl, .inr ⟨hS, fun i z m Hr σ' H' => z = xs.length - i ∧ i ≤ xs.length ∧ Pv i m Hr σ' H', ⟨xs.length, by simp, Nat.zero_le _, p0⟩, ?_⟩⟩
    rintro i z m Hr σ' H' ⟨rfl, hi, p⟩
    have q := (hl i m Hr σ' H' p).2 hS
    by_cases hlt : i < xs.length
    · refine .inr ⟨⟨xs, xs[i], q, by simp [hlt]⟩, Pv (i + 1), fun m2 Hr2 σ2 H2 p' => ⟨xs.length - (i + 1), by omega, rfl, hlt, p'⟩, ?_⟩
      rintro y H2 ⟨T, x, rfl, hT, rfl, hx⟩
      exact hs i x T m Hr σ' H' (hx xs q) p hT
    · have e : i = xs.length := by omega
      subst e
      exact .inl ⟨⟨xs, q, Nat.le_refl _⟩, hd m Hr σ' H' p⟩
end
/-! a for over a generator: its reading -/
section
variable {σ : L2.St} {H : Hp} {D : Ends} {gt : TG} {tb : TS} {t : TGc} {ta : TA} {sp : SpM}
theorem r_forGE (q : t σ H fun n C H1 => C.ok n H1 H1 ∧ ∃ Pv : Nat → L2.St → Hp → Prop, Pv 0 σ H1 ∧
    (∀ i σ' H' T y Hy, i < n → Pv i σ' H' → C.yl (n - i) H' y Hy → Hy T = none → gt (.ref T) σ' (upd Hy T (.tup [.int (i : Nat), y])) fun σ2 H3 => tb { D with nx := fun σ4 H4 => Pv (i + 1) σ4 H4 ∧ C.ok (n - (i + 1)) Hy H4, ct := fun σ4 H4 => Pv (i + 1) σ4 H4 ∧ C.ok (n - (i + 1)) Hy H4, bk := D.nx } σ2 H3) ∧
    ∀ σ' H' H2, Pv n σ' H' → C.fin H' H2 → D.nx σ' H2) (mono : ∀ (R R' : Nat → Ctr → Hp → Prop), (∀ n C H1, R n C H1 → R' n C H1) → t σ H R → t σ H R') : tForS (tIgE t) gt tb D σ H := by
  refine mono _ _ (fun n C H1 z => ?_) q
  obtain ⟨ok, Pv, p0, hs, hd⟩ := z
  refine ⟨ok, Pv, p0, ?_, hd⟩
  rintro i σ' H' hi p x H2 Hy ⟨T, y, hy, rfl, hT, rfl⟩
  exact hs i σ' H' T y Hy hi p hy hT
end
end G
/-! ### min of a list of data -/
namespace G
open PySem PySem.Spec PyProof.Rows L2 PySem.W
def rMinD (K : PySem.W.Frag) : List V → Hp → VK → Prop := fun vs H Q => ∃ (a : Addr) (xs : List V) (x : PyData) (ds : List PyData), vs = [V.ref a] ∧ SqL K H a xs ∧ DpAll K H xs (x :: ds) ∧ AlikeAll (x :: ds) ∧ PyData.depthAll (x :: ds) ≤ 60 ∧
  ∀ (i : Nat) (v : V), xs[i]? = some v → (x :: ds)[i]? = some (minD x ds) → Q v H
theorem cr_minD {X : Cx} {n : Nat} (hc : X.calm = true) (hr : Room n X.A) : CallR X (.builtin "min") (rMinD X.K) := by
  intro pins s σ H vs us Q I r h
  obtain ⟨a, xs, x, ds, rfl, hs, hd, ha, hdep, q⟩ := h
  obtain ⟨its, rv, hl, _⟩ := I.list hs
  rw [Vals.ref1 r]
  obtain ⟨as, hR⟩ := Dp.readsAll I (x :: ds) xs its hd rv
  have hu : X.A.units + 64 < cLine := hr.units
  refine min_list_data (I.ok.hd hc) hl.isList (by simpa using hR) ha (by omega) fun i v h' tk bs hv hm hk => ?_
  have hv' : its[i]? = some v := by simpa using hv
  have hi : i < its.length := (List.getElem?_eq_some_iff.mp hv').1
  have hix : i < xs.length := by rw [rv.length]; exact hi
  obtain ⟨u, hu', ru⟩ := rv.get (List.getElem?_eq_getElem hix)
  rw [hv'] at hu'
  obtain rfl := Option.some.inj hu'
  obtain ⟨bs2, r2, hlt, _, _⟩ := readsAll_at hR i v hv'
  have e := (reads_det (fun b o e _ => hk b o e) r2 hm).1
  refine ⟨_, H, I.kept hk, ru, q i _ (List.getElem?_eq_getElem hix) ?_⟩
  rw [e, List.getD_eq_getElem?_getD, List.getElem?_eq_getElem hlt]; rfl
theorem kMinD {X : Cx} {n : Nat} {K : PySem.W.Frag} (hc : X.calm = true) (hr : Room n X.A) (h : X.K = K := by rfl) : CallR X (.builtin "min") (rMinD K) := h ▸ cr_minD hc hr
theorem kRevL {X : Cx} {K : PySem.W.Frag} {e : Expr} {te : TE} (h : PE X e (tRevL X.K te)) (hK : X.K = K := by rfl) : PE X e (tRevL K te) := hK ▸ h
theorem r_revL {K : PySem.W.Frag} {te : TE} {σ : L2.St} {H : Hp} {Q : VK} (q : te σ H fun x H1 => ∃ a xs, x = .ref a ∧ SqL K H1 a xs ∧ ∀ p, H1 p = none → Q (.ref p) (upd H1 p (.lst xs.reverse))) : tRevL K te σ H Q := q
/-- the first of the least points -/
def minP (p : Int × Int) (ps : List (Int × Int)) : Int × Int := ps.foldl (fun a y => if dataLt (Datum.toD y) (Datum.toD a) then y else a) p
theorem minD_pts : ∀ (ps : List (Int × Int)) (p : Int × Int), minD (Datum.toD p) (ps.map Datum.toD) = Datum.toD (minP p ps)
  | [], p => rfl
  | y :: ps, p => by
    show minD (if dataLt (Datum.toD y) (Datum.toD p) then Datum.toD y else Datum.toD p) (ps.map Datum.toD) = Datum.toD (minP (if dataLt (Datum.toD y) (Datum.toD p) then y else p) ps)
    split <;> exact minD_pts ps _
theorem alike_pts (ps : List (Int × Int)) : AlikeAll (ps.map Datum.toD) := by
  refine ⟨fun x hx y hy => ?_, fun x hx => ?_⟩
  · obtain ⟨p, _, rfl⟩ := List.mem_map.mp hx
    obtain ⟨q, _, rfl⟩ := List.mem_map.mp hy
    rfl
  · obtain ⟨p, _, rfl⟩ := List.mem_map.mp hx
    intro z; cases z
theorem depth_pts : ∀ ps : List (Int × Int), PyData.depthAll (ps.map Datum.toD) ≤ 60
  | [] => by decide
  | p :: ps => by
    show max (Datum.toD p).depth (PyData.depthAll (ps.map Datum.toD)) ≤ 60
    exact Nat.max_le.mpr ⟨Nat.le_trans (Datum.depth_le p) (by decide), depth_pts ps⟩
theorem r_minP {K : PySem.W.Frag} {H : Hp} {a : Addr} {xs : List V} {p : Int × Int} {ps : List (Int × Int)} {Q : VK} (hs : SqL K H a xs) (hx : Hds K H xs (p :: ps)) (q : ∀ (i : Nat) (v : V), xs[i]? = some v → (p :: ps)[i]? = some (minP p ps) → Q v H) : rMinD K [.ref a] H Q := by
  refine ⟨a, xs, Datum.toD p, ps.map Datum.toD, rfl, hs, hx, alike_pts (p :: ps), depth_pts (p :: ps), fun i v hi hm => q i v hi ?_⟩
  rw [minD_pts, ← List.map_cons, List.getElem?_map] at hm
  obtain ⟨r, hr, e⟩ := Option.map_eq_some_iff.mp hm
  have e2 := Datum.eqv r (minP p ps)
  rw [e, Datum.eqv, decide_eq_true rfl] at e2
  rw [hr, of_decide_eq_true e2.symm]
theorem kIndexD {X : Cx} {n : Nat} {K : PySem.W.Frag} (hr : Room n X.A) (h : X.K = K := by rfl) : MtR X "list.index" (rIndexD K) := h ▸ mt_indexD (by have := hr.un; omega)
/-- l.index(y) -/
theorem r_indexH {K : PySem.W.Frag} {H : Hp} {α : Type} [DecidableEq α] [Datum α] [Lay α] {a : Addr} {xs : List V} {ys : List α} {y : V} {z : α} {j : Nat} {Q : VK} (h : SqL K H a xs) (hx : Hds K H xs ys) (hy : Hd K H y z) (hj : ys[j]? = some z) (hn : ∀ m, m < j → ys[m]? ≠ some z) (q : Q (.int (j : Nat)) H) (hd : Datum.depth (List α) ≤ 64 := by decide) (hd2 : Datum.depth α ≤ 64 := by decide) : rIndexD K (.ref a) [y] H Q := by
  refine ⟨a, y, Datum.toD z, ys.map Datum.toD, j, Datum.toD z, rfl, rfl, .lst h hx, hy, shapedD ys hd, shapedD z hd2, by rw [List.getElem?_map, hj]; rfl, by rw [Datum.eqv, decide_eq_true rfl], fun m z' hm hz => ?_, q⟩
  rw [List.getElem?_map] at hz
  obtain ⟨w, hw, rfl⟩ := Option.map_eq_some_iff.mp hz
  rw [Datum.eqv]
  exact decide_eq_false fun e => hn m hm (by rw [hw, e])
theorem r_bm {K : PySem.W.Frag} {T : String} {r : V → List V → Hp → VK → Prop} {to : TE} {t : TA} {σ : L2.St} {H : Hp} {Q : VK} (q : to σ H fun x H1 => tyV K T x H1 ∧ t σ H1 fun xs H2 => r x xs H2 Q) : tBM K T r to t σ H Q := q
theorem r_slL {K : PySem.W.Frag} {H : Hp} {a : Addr} {xs : List V} {lo hi : Option Int} {Q : VK} (h : SqL K H a xs) (q : ∀ p, H p = none → Q (.ref p) (upd H p (.lst (cutV xs lo hi)))) : rSlL K (.ref a) lo hi H Q := ⟨a, xs, rfl, h, q⟩
theorem cut_from {xs : List V} {j : Nat} : cutV xs (some (j : Int)) none = xs.drop j := by
  unfold cutV
  rw [HT.sIx_none, HT.sIx_nat, List.take_of_length_le (by rw [List.length_drop]; omega)]
  rcases Nat.le_total j xs.length with h | h
  · rw [Nat.min_eq_left h]
  · rw [Nat.min_eq_right h, List.drop_eq_nil_of_le h, List.drop_eq_nil_of_le (Nat.le_refl _)]
theorem cut_to {xs : List V} {j : Nat} : cutV xs none (some (j : Int)) = xs.take j := by
  unfold cutV
  rw [HT.sIx_none, HT.sIx_nat, List.drop_zero, Nat.sub_zero]
  rcases Nat.le_total j xs.length with h | h
  · rw [Nat.min_eq_left h]
  · rw [Nat.min_eq_right h, List.take_of_length_le h, List.take_of_length_le (Nat.le_refl _)]
theorem r_app {H : Hp} {Q : VK} {p : Addr} {xs : List V} {y : V} (h : H p = some (.lst xs)) (hl : xs.length ≤ 100000) (q : Q .non (upd H p (.lst (xs ++ [y])))) : rAppend (.ref p) [y] H Q := ⟨p, xs, y, rfl, rfl, h, Nat.lt_of_le_of_lt hl (by decide), q⟩
theorem ty_lst {K : PySem.W.Frag} {H : Hp} {p : Addr} {xs : List V} (h : H p = some (.lst xs)) : tyV K "list" (.ref p) H := .inl ⟨rfl, xs, SqL.of h⟩
/-- an object that the caller does not know is written -/
theorem Kp.putN {l b : Addr} {H H1 : Hp} {o : HO} (a : Kp l H H1) (hb : H b = none) : Kp l H (upd H1 b o) := fun c u n e => by
  rw [upd_ne (ne_of_none e hb)]; exact a c u n e
theorem Kp.free {l p : Addr} {H H' : Hp} (k : Kp l H H') (ne : p ≠ l) (h : H' p = none) : H p = none := by
  cases e : H p with
  | none => rfl
  | some o => rw [k _ _ ne e] at h; cases h
end G
/-! ### several except clauses, with names or without -/
namespace G
open PySem PySem.Spec PyProof.Rows L2
/-- behind the suite slot i is none -/
def dropN (i : Nat) (D : Ends) : Ends := ⟨fun z G => D.nx (z.set i none) G, D.rt, fun z G => D.bk (z.set i none) G, fun z G => D.ct (z.set i none) G⟩
/-- a suite with a name for the exception -/
def asT (i : Nat) (ts : Addr → Value → Option Addr → TS) : Addr → Value → Option Addr → TS := fun a cls d D σ H => ts a cls d (dropN i D) (σ.set i (some (.ref a))) H
abbrev Cls1 := Value × (Addr → Value → Option Addr → TS)
inductive ClOk (X : Cx) : List ExceptHandler → List Cls1 → Prop
  | nil : ClOk X [] []
  | no {x : Str} {c : Value} {ts : Addr → Value → Option Addr → TS} {b₀ : Stmt} {su : List Stmt} {np po : Pos} {hds : List ExceptHandler} {l : List Cls1} (hc : Names X x c)
      (hsu : ∀ (a : Addr) (oe : Obj) (cls : Value) (d : Option Addr) (pn : List (Addr × Obj)), Zc cls d oe → (∃ vs, oe.data = .fields vs) → PSs (X.suite a ((a, oe) :: pn)) (b₀ :: su) (ts a cls d)) (r : ClOk X hds l) : ClOk X (.ExceptHandler (some (.Name x np)) none (b₀ :: su) po :: hds) ((c, ts) :: l)
  | as {x n : Str} {c : Value} {i : Nat} {ts : Addr → Value → Option Addr → TS} {b₀ : Stmt} {su : List Stmt} {np po : Pos} {hds : List ExceptHandler} {l : List Cls1} (hN : X.N.Nodup) (hi : X.N[i]? = some n) (hln : X.env.kindOf n = some .local) (hc : Names X x c)
      (hsu : ∀ (a : Addr) (oe : Obj) (cls : Value) (d : Option Addr) (pn : List (Addr × Obj)), Zc cls d oe → (∃ vs, oe.data = .fields vs) → PSs (X.suite a ((a, oe) :: pn)) (b₀ :: su) (ts a cls d)) (r : ClOk X hds l) : ClOk X (.ExceptHandler (some (.Name x np)) (some n) (b₀ :: su) po :: hds) ((c, asT i ts) :: l)
theorem ps_try_nm {X : Cx} {body : List Stmt} {h₀ : ExceptHandler} {hds : List ExceptHandler} {l : List Cls1} {pos : Pos} {tb : WX → TS} {Wo : WX} (hs : X.stack = X.env :: X.outer) (hf : X.env.frame = some X.env.locals) (tk : Takes X Wo)
    (hb : ∀ (W : WX) (pn : List (Addr × Obj)) (xe : Value → Shared → Prop), Takes (X.tr pn xe) W → PassesOwn (model X.prog X.w) X.A X.env xe → PSs (X.tr pn xe) body (tb W)) (hh : ClOk X (h₀ :: hds) l) : PS X (.Try body (h₀ :: hds) [] [] pos) (fun D σ H => tb (wMany X.K Wo D l) D σ H) := by
  refine ⟨fun pins s σ H D I h => ?_⟩
  have ok := I.ok; have hfr : X.A.frames = some (X.env :: X.outer) := by
    rw [ok.frames, hs]
  refine wpAny_Try_except (wpAny_mono ((hb (wMany X.K Wo D l) (X.pn ++ pins) (fun e z1 => wpAny (model X.prog X.w) X.A (noteFrame e X.env) (fun _ z2 => wpAny (model X.prog X.w) X.A (setFlight e none) (fun _ z3 => wpAny (model X.prog X.w) X.A (handleBy e X.env (h₀ :: hds)) (SP X pins D) X.xe z3) X.xe z2) X.xe z1) (fun u s' xx => ?_) PassesOwn.looking).run [] s σ H D (I.toTry _) h) (fun f s1 hsp => ?_) (fun e s1 he => he))
  · obtain ⟨a, B, sI, pins', ρ, G, cls, d, rfl, J', nb, up, sky, na, os, ag, w⟩ := xx
    have J : Inv X pins ρ G sI := J'.ofTry ok; have sk2 : Sky B (X.env :: X.outer) a (Zc cls d) X.env.locals s'.heap := by
      rw [← hs]; exact sky
    show wpAny (model X.prog X.w) X.A (noteFrame (.ref a) X.env) _ _ _
    refine Sky.land Zc.steady hfr hf sk2 fun h3 fl3 up3 => ?_
    have J3 : Inv X pins ρ G { s' with heap := h3 } := J.landed nb fl3.1 (up.trans up3) os ag; obtain ⟨oe3, vs3, he3, hz3, hd3⟩ := fl3.there
    have nfr : a ∉ frs (X.env :: X.outer) := fun hm => by
      obtain ⟨_, o', e', hnf⟩ := fl3.2.2.1.mem hm; rw [he3] at e'; cases e'; exact hnf _ hd3
    have nL : a ≠ X.env.locals := fun z => nfr (List.mem_filterMap.mpr ⟨X.env, List.mem_cons_self, by rw [hf, z]⟩); have nF : a ∉ X.fs := fun hm => by
      obtain ⟨e, he, q⟩ := List.mem_filterMap.mp hm; exact nfr (List.mem_filterMap.mpr ⟨e, List.mem_cons_of_mem _ he, q⟩)
    have S3 := J3.suite he3 hd3 na nL nF
    have LT : PySem.W.Looks (model X.prog X.w) h3 (typeOf (.ref a)) cls := fun A Q E s k q => wpAny_typeOf_ref (k _ _ he3) (by
      rw [hz3.1]; exact q)
    have test : ∀ {x : Str} {c : Value} {np : Pos} {Q E : Value → Shared → Prop}, Names X x c → Q c { s' with heap := h3 } → wpAny (model X.prog X.w) (X.A.mark (some (.ref a))) (eval (.Name x np) X.env) Q E { s' with heap := h3 } := fun {x c np Q E} hc q => by
      obtain ⟨hg, hdbg, hm | ⟨hm, hv, hnn⟩⟩ := hc
      · exact ld_glob (X := X.suite a ((a, oe3) :: (X.pn ++ pins))) S3 hg hm q hdbg
      · exact ld_blt (X := X.suite a ((a, oe3) :: (X.pn ++ pins))) S3 hg hm hv q hnn hdbg
    have go : ∀ {hds' : List ExceptHandler} {l' : List Cls1}, ClOk X hds' l' → wMany X.K Wo D l' cls d ρ G → wpAny (model X.prog X.w) X.A (handleBy (.ref a) X.env hds') (SP X pins D) X.xe { s' with heap := h3 } := by
      intro hds' l' hk
      induction hk with
      | nil =>
        intro w; refine wpAny_handleBy_nil ?_
        obtain ⟨k1, k2, k3, oe, vs, T, oT, ts', he, hz, hd, h1, hr⟩ := id fl3; unfold PySem.passOn
        refine wpAny_bind (wpAny_field he hd h1 ?_); rw [if_neg (show ¬ ((Value.ref T == Value.none) = true) from by simp)]
        have fin : wpAny (model X.prog X.w) X.A (setFlight (.ref a) X.env.frame) (fun _ s4 => wpAny (model X.prog X.w) X.A (throw (.ref a) : Sem Flow) (SP X pins D) X.xe s4) X.xe { s' with heap := h3 } := by
          rw [hf]; refine HandSPX.setFlight_upZ fl3 fun h4 hh4 up4 => wpAny_throw (tk _ _ ⟨a, B, sI, pins, ρ, G, cls, d, rfl, J, nb, (up.trans up3).trans up4, .inr (.inr (by rw [hs]; exact hh4)), na, os, ag, w⟩)
        first
          | exact wpAny_bind (wpAny_pure (wpAny_bind fin))
          | exact wpAny_bind fin
      | @no x c ts b₀ su np po hds2 l2 hc hsu r ih =>
        intro w; obtain ⟨b, hb1, hyes, hno⟩ := w
        refine wpAny_handleBy_cons (codeAny_handlers_test ?_) (by intro q; cases q); have LM := PySem.W.exm_one (M := model X.prog X.w) (J3.kIn) LT hb1
        refine test hc (LM.here ?_); cases b with
        | true =>
          refine codeAny_handlers_suite (HandSPX.lands_againZ fl3 fun h4 fl4 up4 => ?_)
          have J4 : Inv X pins ρ G { s' with heap := h4 } := J.landed nb fl4.1 ((up.trans up3).trans up4) os ag; obtain ⟨oe4, vs4, he4, hz4, hd4⟩ := fl4.there
          refine wpAny_mono ((hsu a oe4 cls d (X.pn ++ pins) hz4 ⟨_, hd4⟩).run [] _ _ G _ (J4.suite he4 hd4 na nL nF) (hyes rfl a na)) (fun f s6 hsp => ?_) (fun _ _ z => False.elim z); cases f with
          | next => obtain ⟨z6, H6, S6, q6⟩ := hsp; exact ⟨_, _, S6.unsuite ok, q6⟩
          | brk => obtain ⟨z6, H6, S6, q6⟩ := hsp; exact ⟨_, _, S6.unsuite ok, q6⟩
          | cont => obtain ⟨z6, H6, S6, q6⟩ := hsp; exact ⟨_, _, S6.unsuite ok, q6⟩
          | ret u => obtain ⟨v6, z6, H6, S6, r6, q6⟩ := hsp; exact ⟨_, _, _, S6.unsuite ok, r6, q6⟩
        | false => exact (show wpAny _ X.A (handleBy (.ref a) X.env hds2) _ _ _ from ih (hno rfl))
      | @as x n c i ts b₀ su np po hds2 l2 hN hi hln hc hsu r ih =>
        intro w; obtain ⟨b, hb1, hyes, hno⟩ := w
        refine wpAny_handleBy_cons (codeAny_handlers_test ?_) (by intro q; cases q); have LM := PySem.W.exm_one (M := model X.prog X.w) (J3.kIn) LT hb1
        refine test hc (LM.here ?_); cases b with
        | true =>
          refine codeAny_handlers_suite_as (HandSPX.lands_againZ fl3 fun h4 fl4 up4 => ?_)
          have J4 : Inv X pins ρ G { s' with heap := h4 } := J.landed nb fl4.1 ((up.trans up3).trans up4) os ag; obtain ⟨oe4, vs4, he4, hz4, hd4⟩ := fl4.there
          refine store_ok (X := X.suite a ((a, oe4) :: (X.pn ++ pins))) (v := .ref a) (J4.suite he4 hd4 na nL nF) hN hi (.inl hln) rfl (fun s5 S5 => ?_) (.inr hln)
          refine wpAny_mono ((hsu a oe4 cls d (X.pn ++ pins) hz4 ⟨_, hd4⟩).run [] s5 _ G _ S5 (hyes rfl a na)) (fun f s6 hsp => ?_) (fun _ _ z => False.elim z)
          have fin6 : ∀ {z6 : L2.St} {H6 : Hp} {Q : Shared → Prop}, Inv (X.suite a ((a, oe4) :: (X.pn ++ pins))) [] z6 H6 s6 → (∀ s7, Inv X pins (z6.set i none) H6 s7 → Q s7) → wpAny (model X.prog X.w) X.A (do bindName X.env n .none; unbindBehindTheSuite X.env n po) (fun _ s7 => Q s7) X.xe s6 := fun {z6 H6 Q} S6 hq => gone_ok (S6.unsuite ok) hN hi hln hq
          cases f with
          | next => obtain ⟨z6, H6, S6, q6⟩ := hsp; exact fin6 S6 fun s7 J7 => ⟨_, _, J7, q6⟩
          | brk => obtain ⟨z6, H6, S6, q6⟩ := hsp; exact fin6 S6 fun s7 J7 => ⟨_, _, J7, q6⟩
          | cont => obtain ⟨z6, H6, S6, q6⟩ := hsp; exact fin6 S6 fun s7 J7 => ⟨_, _, J7, q6⟩
          | ret u => obtain ⟨v6, z6, H6, S6, r6, q6⟩ := hsp; exact fin6 S6 fun s7 J7 => ⟨_, _, _, J7, r6, q6⟩
        | false => exact (show wpAny _ X.A (handleBy (.ref a) X.env hds2) _ _ _ from ih (hno rfl))
    exact go hh w
  · cases f with
    | next => obtain ⟨ρ, G, J', q⟩ := hsp; exact wpAny_execs_nil ⟨ρ, G, J'.ofTry ok, q⟩
    | brk => obtain ⟨ρ, G, J', q⟩ := hsp; exact ⟨ρ, G, J'.ofTry ok, q⟩
    | cont => obtain ⟨ρ, G, J', q⟩ := hsp; exact ⟨ρ, G, J'.ofTry ok, q⟩
    | ret u => obtain ⟨v, ρ, G, J', r, q⟩ := hsp; exact ⟨v, ρ, G, J'.ofTry ok, r, q⟩
theorem r_xf {a C : Addr} {cls : Value} {d : Option Addr} {f : Str} {te : TE} {σ : L2.St} {H : Hp} {Q : VK} (q : te σ H fun x H1 => x = .ref a ∧ cls = .ref C ∧ ∃ (dd : Addr) (fs : List (Str × V)) (v : V), d = some dd ∧ H1 dd = some (.xd fs) ∧ fs.lookup f = some v ∧ Q v H1) : tXf a cls d C f te σ H Q := q
theorem r_asT {i : Nat} {ts : Addr → Value → Option Addr → TS} {a : Addr} {cls : Value} {d : Option Addr} {D : Ends} {σ : L2.St} {H : Hp} (q : ts a cls d (dropN i D) (σ.set i (some (.ref a))) H) : asT i ts a cls d D σ H := q
end G
/-! ### sorted of a list or tuple of data -/
namespace G
open PySem PySem.Spec PyProof.Rows L2 PySem.W
section
variable {prog : Program} {w : World} {A : Around} {E : Value → Shared → Prop} {s : Shared}
/-- the heap once the items are collected -/
abbrev cpH (h : Heap) (its : Array Value) : Heap := (h.push { cls := .type "list", data := .seq ([] : List Value).toArray }).update h.objs.size (Obj.mapSeq (· ++ its))
theorem collect_any {Q : List Value → Shared → Prop} (l : Addr) {T : String} {o : Obj} {its : Array Value} {n : Nat} (hT : T = "list" ∨ T = "tuple") (ho : s.heap.get? l = some o) (hc : o.cls = .type T) (hd : o.data = .seq its n) (hQ : Q its.toList { s with heap := cpH s.heap its }) (hz : its.size ≤ sizeLine) : wpAny (model prog w) A (collect (.ref l)) Q E s := by
  unfold collect; refine wpAny_bind (wpAny_runValue (codeAny_builtin F.entry_proto_collect ?_))
  rw [Around.under_plainId F.plain_proto_collect _]; show wpAny _ A.in1 (newList [] >>= fun z => again (.builtin "list.__iadd__" ⟨[z, .ref l], []⟩)) _ _ s
  refine wpAny_bind (wpAny_newObj_type (wpAny_pure ⟨plainId_quiet F.plain_list_iadd _, codeAny_builtin F.entry_list_iadd ?_⟩))
  rw [Around.under_plainId F.plain_list_iadd _]; show wpAny _ A.in1 (Builtin.List.listExtendWith (.ref s.heap.objs.size) (.ref l) (.ref s.heap.objs.size)) _ _ _
  have g0 : (s.heap.push { cls := .type "list", data := .seq ([] : List Value).toArray }).get? s.heap.objs.size = some { cls := .type "list", data := .seq #[] 0 } := Heap.get?_push_size _ rfl; have g1 := Heap.get?_update_self (Obj.mapSeq (· ++ its)) g0 rfl
  have done_ : wpAny (model prog w) A (match Value.ref s.heap.objs.size with
      | Value.ref a => do
        match (← load a).data with
          | Data.seq xs _ => pure xs.toList
          | _ => unsupported "internal:collect"
      | _ => unsupported "internal:collect") Q E { s with heap := cpH s.heap its } := by
    show wpAny _ A (load s.heap.objs.size >>= _) _ _ _; refine wpAny_bind (wpAny_load g1 (wpAny_pure ?_))
    have ee : ((#[] : Array Value) ++ its).toList = its.toList := by
      simp
    show Q ((#[] : Array Value) ++ its).toList _; rw [ee]; exact hQ
  refine wpAny_mono (wpAny_extend_seq (hsz := hz) (A := A) (R := fun r z => r = .ok (.ret (.ref s.heap.objs.size)) ∧ z = { s with heap := cpH s.heap its }) (s := { s with heap := s.heap.push { cls := .type "list", data := .seq ([] : List Value).toArray } }) _ l _ 0 hT g0 (Heap.get?_push_of_some _ ho) hc hd ⟨rfl, rfl⟩) (fun f z h => ?_) (fun e z h => absurd h.1 (by simp))
  cases f with
  | done f => obtain ⟨e, rfl⟩ := h; cases e; exact done_
  | again c' => exact ⟨h.1, codeAny_mono h.2 fun r z hr => by obtain ⟨rfl, rfl⟩ := hr; exact done_⟩
variable {β : Type} {vs : List Value} {bs : List β} {enc : β → PyData} {R : Value → β → Prop}
theorem sorted_seq {l : Addr} {T : String} {o : Obj} {n : Nat} {Q : Value → Shared → Prop} (hT : T = "list" ∨ T = "tuple") (ho : s.heap.get? l = some o) (hc : o.cls = .type T) (hd : o.data = .seq vs.toArray n)
    (e : EachIs R vs bs) (er : EachIs (fun v b => ∃ as, Reads s.heap v (enc b) as) vs bs) (hal : AllAlike (bs.map enc)) (hk : PySem.W.Sortable (bs.map enc)) (hL : bs.length ≤ sizeLine) (hu : ∀ b, b ∈ bs → A.units + 2 + (enc b).depth < cLine)
    (h : ∀ out, out.length = bs.length → EachIs R out (bs.mergeSort (dataLe false enc)) → Q (.ref (s.heap.objs.size + 1)) { s with heap := sortedAll s.heap vs (List.toArray out) }) :
    wpAny (model prog w) A (call (.builtin "sorted") [.ref l]) Q E s := by
  have hLv : vs.length ≤ sizeLine := by rw [e.length]; exact hL
  have er' : EachIs (fun v b => ∃ as, Reads (sortingHeap (copyHeap s.heap vs) (s.heap.objs.size + 1) vs) v (enc b) as) vs bs := er.mono fun _ _ ⟨as, r⟩ => ⟨as, PyProof.Rows.Reads.keeps (fun _ _ => sorting_copy_old) r⟩
  have S := SortsAt.data (prog := prog) (w := w) (A := A.in1.in1) (s := { s with heap := sortingHeap (copyHeap s.heap vs) (s.heap.objs.size + 1) vs }) (each_map (R := fun v d => ∃ as, Reads (sortingHeap (copyHeap s.heap vs) (s.heap.objs.size + 1) vs) v d as) enc er') hal hk (bound_map hu)
  have fin := h _ (by rw [sortVals_length false rfl]; exact e.length) (sortVals_data false e er' hal)
  refine call_function_entry_kw kind_sorted plain_sorted entry_sorted (args_sorted1 _) ?_
  unfold Builtin.«sorted»; refine wpAny_bind (m := checkCount "sorted" 1 1 _) (wpAny_pure (wpAny_bind (collect_any l hT ho hc hd ?_ (by simpa using hLv))))
  refine wpAny_bind (wpAny_newList ?_ hLv)
  have hz1 : (cpH s.heap vs.toArray).objs.size = s.heap.objs.size + 1 := by rw [Heap.size_update, size_push']
  show wpAny _ _ _ _ _ { s with heap := copyHeap s.heap vs }
  rw [hz1]; refine wpAny_bind (wpAny_holding (wpAny_call_entry_kw slot_list_sort ⟨_, copyHeap_at s.heap vs, rfl⟩ entry_list_sort ?body (args_list_sort _)))
  case body =>
    refine wpAny_mono (list_sort_vals (s := { s with heap := copyHeap s.heap vs }) (P := fun f z => f = .done (.ret .none) ∧ Q (.ref (s.heap.objs.size + 1)) z) (copyHeap_at s.heap vs) S hLv ⟨rfl, fin⟩) (fun f z hf => ?_) fun _ _ e => e
    obtain ⟨rfl, hq⟩ := hf; exact ⟨_, rfl, wpAny_pure ⟨_, rfl, hq⟩⟩
end
def rSortD (K : PySem.W.Frag) : List V → Hp → VK → Prop := fun vs H Q => ∃ (a : Addr) (xs : List V) (ds : List PyData), vs = [V.ref a] ∧ SqS K H a xs ∧ DpAll K H xs ds ∧ AllAlike ds ∧ PySem.W.Sortable ds ∧ (∀ d ∈ ds, d.depth ≤ 60) ∧
  ∀ p, H p = none → Q (.ref p) (upd H p (.lst (((xs.zip ds).mergeSort (dataLe false Prod.snd)).map Prod.fst)))
theorem each_zip {K : PySem.W.Frag} {H : Hp} {h : Heap} : ∀ {xs : List V} {ds : List PyData} {us : List Value} {as : List Addr}, DpAll K H xs ds → Vals xs us → ReadsAll h us ds as → EachIs (fun u (b : V × PyData) => RelV b.1 u) us (xs.zip ds) ∧ EachIs (fun u (b : V × PyData) => ∃ as, Reads h u b.2 as) us (xs.zip ds)
  | _, [], _, _, hd, hv, hr => by
    cases hd; cases hv; exact ⟨.nil, .nil⟩
  | _, d :: ds, _, _, hd, hv, hr => by
    cases hd with
    | cons h1 h2 =>
      cases hv with
      | cons r1 r2 =>
        cases hr with
        | cons z1 z2 =>
          obtain ⟨i1, i2⟩ := each_zip h2 r2 z2
          exact ⟨.cons r1 i1, .cons ⟨_, z1⟩ i2⟩
theorem vals_each {β : Type} {f : β → V} : ∀ {us : List Value} {bs : List β}, EachIs (fun u b => RelV (f b) u) us bs → Vals (bs.map f) us
  | _, _, .nil => .nil
  | _, _, .cons h r => .cons h (vals_each r)
theorem dp_len {K : PySem.W.Frag} {H : Hp} : ∀ {xs : List V} {ds : List PyData}, DpAll K H xs ds → xs.length = ds.length
  | _, [], h => by cases h; rfl
  | _, _ :: ds, h => by
    cases h with
    | cons h1 h2 => exact congrArg (· + 1) (dp_len h2)
theorem zip_snd {K : PySem.W.Frag} {H : Hp} {xs : List V} {ds : List PyData} (h : DpAll K H xs ds) : (xs.zip ds).map Prod.snd = ds := List.map_snd_zip (by rw [dp_len h]; exact Nat.le_refl _)
theorem cr_sortD {X : Cx} {n : Nat} (hr : Room n X.A) : CallR X (.builtin "sorted") (rSortD X.K) := by
  intro pins s σ H vs us Q I r h
  obtain ⟨a, xs, ds, rfl, hs, hd, ha, hk, hdep, q⟩ := h
  rw [Vals.ref1 r]
  have hu : X.A.units + 64 < cLine := hr.units
  have key : ∀ (its : List Value) (T : String) (o : Obj) (m : Nat), Vals xs its → xs.length ≤ sizeLine → (T = "list" ∨ T = "tuple") → s.heap.get? a = some o → o.cls = .type T → o.data = .seq its.toArray m → wpAny (model X.prog X.w) X.A (call (.builtin "sorted") [.ref a]) (EP X pins σ Q) X.xe s := by
    intro its T o m rv hz hT ho hc hdt
    obtain ⟨as, hR⟩ := Dp.readsAll I ds xs its hd rv
    obtain ⟨e1, e2⟩ := each_zip hd rv hR
    have em := zip_snd hd
    have hzl : (xs.zip ds).length ≤ sizeLine := by
      rw [List.length_zip, dp_len hd, Nat.min_self, ← dp_len hd]; exact hz
    refine sorted_seq (enc := Prod.snd) hT ho hc hdt e1 e2 (by rw [em]; exact ha) (by rw [em]; exact hk) hzl (fun b hb => ?_) fun out hl ho2 => ?_
    · have hm : b.2 ∈ ds := by rw [← em]; exact List.mem_map.mpr ⟨b, hb, rfl⟩
      have := hdep _ hm
      omega
    · obtain ⟨c, hat⟩ := sortedAll_at s.heap its out.toArray
      refine ⟨.ref (s.heap.objs.size + 1), _, I.laid (t' := s.toks) (fun b u z => sortedAll_old z) (Nat.le_succ _) ?_, rfl, q _ (I.hok.fresh (Nat.le_succ _))⟩
      have hv := vals_each (f := Prod.fst) ho2
      exact (show ObjOk X.prog X.w _ _ _ (.lst _) from ⟨by rw [List.length_map, List.length_mergeSort]; exact hzl, out, c, hv, hat⟩)
  rcases hs with hs | hs
  · obtain ⟨its, rv, pl, hz⟩ := I.list hs
    obtain ⟨o, ho, hc, n, hd⟩ := pl.isList
    exact key its "list" o n rv hz (.inl rfl) ho hc hd
  · obtain ⟨its, rv, ⟨o, ho, hc, n, hd⟩, hz⟩ := I.tuple hs
    exact key its "tuple" o n rv hz (.inr rfl) ho hc hd
theorem kSortD {X : Cx} {n : Nat} {K : PySem.W.Frag} (hr : Room n X.A) (h : X.K = K := by rfl) : CallR X (.builtin "sorted") (rSortD K) := h ▸ cr_sortD hr
/-- THE sorted list -/
def sortH {α : Type} [DecidableEq α] [Datum α] (xs : List α) : List α := xs.mergeSort (dataLe false Datum.toD)
theorem sort_map {α β : Type} (f : α → β) (k : β → PyData) (xs : List α) : (xs.mergeSort (dataLe false fun a => k (f a))).map f = (xs.map f).mergeSort (dataLe false k) := List.map_mergeSort (fun a _ b _ => rfl)
theorem dp_pick {K : PySem.W.Frag} {H : Hp} : ∀ {xs : List V} {ds : List PyData}, DpAll K H xs ds → ∀ b ∈ xs.zip ds, Dp K H b.1 b.2
  | _, [], h, b, hb => by cases h; cases hb
  | _, _ :: ds, h, b, hb => by
    cases h with
    | cons h1 h2 =>
      rcases List.mem_cons.mp hb with rfl | hb
      · exact h1
      · exact dp_pick h2 b hb
theorem dp_all {K : PySem.W.Frag} {H : Hp} : ∀ {zs : List (V × PyData)}, (∀ b ∈ zs, Dp K H b.1 b.2) → DpAll K H (zs.map Prod.fst) (zs.map Prod.snd)
  | [], _ => .nil
  | z :: zs, h => .cons (h z List.mem_cons_self) (dp_all fun b hb => h b (List.mem_cons_of_mem _ hb))
theorem r_sortH {K : PySem.W.Frag} {H : Hp} {α : Type} [DecidableEq α] [Datum α] {a : Addr} {vs : List V} {xs : List α} {Q : VK} (hs : SqS K H a vs) (hx : Hds K H vs xs) (al : AllAlike (xs.map Datum.toD)) (so : PySem.W.Sortable (xs.map Datum.toD)) (q : ∀ ws p, H p = none → Hds K H ws (sortH xs) → Q (.ref p) (upd H p (.lst ws))) (hd : Datum.depth α ≤ 60 := by decide) : rSortD K [.ref a] H Q := by
  refine ⟨a, vs, xs.map Datum.toD, rfl, hs, hx, al, so, fun d hm => ?_, fun p hp => q _ p hp ?_⟩
  · obtain ⟨x, _, rfl⟩ := List.mem_map.mp hm
    exact Nat.le_trans (Datum.depth_le x) hd
  · have h1 := dp_all (K := K) (H := H) (zs := (vs.zip (xs.map Datum.toD)).mergeSort (dataLe false Prod.snd)) fun b hb => dp_pick hx b (List.mem_mergeSort.mp hb)
    have h2 := sort_map (Prod.snd (α := V)) id (vs.zip (xs.map Datum.toD))
    rw [zip_snd hx] at h2
    have h3 := sort_map (α := α) Datum.toD id xs
    show DpAll K H _ ((sortH xs).map Datum.toD)
    unfold sortH
    rw [show (dataLe false (fun a : α => id (Datum.toD a))) = dataLe false Datum.toD from rfl] at h3
    rw [h3, ← h2]
    exact h1
end G
/-! ### properties and methods of objects whose class is known at the reading -/
namespace G
open PySem PySem.Spec PyProof.Rows L2
section
variable {X : Cx} {CX : CXT} {k : Nat} {p g f : Addr} {m : Str} {fd : FuncData} {ps : List Str} {sp : Sp} {dvs : List V} {ds : List Value} {e o : Expr} {es : List Expr} {pos apos : Pos} {ta : TE} {t : TA} {K : PySem.W.Frag}
def tPropG (K : PySem.W.Frag) (m : Str) (p g : Addr) (sp : Sp) (dvs : List V) (E : XK) (ta : TE) : TE := fun σ H Q => ta σ H fun x H1 => ∃ C a dx fs, x = .ref a ∧ H1 a = some (.ins C dx fs) ∧ Cls K C ∧ PropOf K C m p g ∧ sp (.ref a :: dvs) H1 Q E
theorem pe_propG {E : XK} (he : PE X e ta) (F : FnOk X.prog X.w X.K X.mg X.base CX k g fd ps sp) (hr : Room (k + 1) X.A) (hb : Binds X.K fd ps ds) (hd : Vals dvs ds) (hx : Passes CX X.nox E) (hK : X.K = K := by rfl)
    (hab : attributeBase e m X.env (eval e X.env) = eval e X.env := by rfl) : PE X (.Attribute e m pos) (tPropG K m p g sp dvs E ta) := by
  subst hK
  refine ⟨fun pins s σ H Q I h => ?_⟩
  refine attr_of hab (thn (he.run pins s σ H _ I h) fun u s1 ⟨x, H1, I1, rx, C, a, dx, fs, ex, ea, c, hp, q⟩ => ?_)
  subst ex; obtain rfl : u = Value.ref a := rx
  exact getprop_ok I1 ea c hp F hr hb hd hx q
def tMethG (K : PySem.W.Frag) (m : Str) (f : Addr) (sp : Sp) (E : L2.St → XK) (ta : TE) (t : TA) : TE := fun σ H Q => ta σ H fun x H1 => ∃ C a dx fs, x = .ref a ∧ H1 a = some (.ins C dx fs) ∧ Cls K C ∧ Meth K C m f ∧ fs.lookup m = none ∧ t σ H1 fun vs H2 => sp (x :: vs) H2 Q (E σ)
theorem pe_methG {E : L2.St → XK} {pl : Sem Bool} (he : PE X o ta) (kp : PySem.W.keepIn X.K (.ref f) = true) (F : FnR X.prog X.w X.K X.mg X.base CX k f sp) (hr : Room k X.A) (hx : ∀ σ, PassesAt CX X σ (E σ)) (ha : PA X (e :: es) t) (hK : X.K = K := by rfl)
    (hst : starEach (e :: es) X.env = (false, eval e X.env) :: starEach es X.env := by rfl) (hpl : (backTo pos (starEach es X.env)).any (·.1) = false := by rfl)
    (ht : eval (.Call (.Attribute o m apos) (e :: es) [] pos) X.env = (do
      let ov ← eval o X.env
      standAt apos.atName
      let (f, first) ← holding [ov] (getMethod ov m pl)
      callWith pos f first (backTo pos (starEach (e :: es) X.env)) (backToKw pos (keywordEach [] X.env))) := by rfl) :
    PE X (.Call (.Attribute o m apos) (e :: es) [] pos) (tMethG K m f sp E ta t) := by
  subst hK
  refine ⟨fun pins s σ H Q I h => ?_⟩
  refine PySem.W.methodCall_KW (pl := pl) (thn (he.run pins s σ H _ I h) fun u s1 ⟨x, H1, I1, rx, C, a, dx, fs, ex, ea, c, hm, l, q⟩ => ?_) ht
  subst ex; obtain rfl : u = Value.ref a := rx
  refine getmeth_ok I1 ea c hm l (PySem.W.callWith_K (first := [.ref a]) (h₀ := X.base) I.ok.mod.kin kp (thn (ha.run pos pins s1 σ H1 _ I1 q) fun us s2 ⟨vs, H2, I2, r, q2⟩ => ⟨I2.kIn, ?_⟩) hst hpl)
  exact run_fnRS (us := .ref a :: us) (vs := .ref a :: vs) F hr (hx σ) I2 (.cons rfl r) q2
end
section
variable {K : PySem.W.Frag} {m : Str} {p g f : Addr} {sp : Sp} {dvs : List V} {ta : TE} {t : TA} {σ : L2.St} {H : Hp} {Q : VK}
theorem r_propG {E : XK} (q : ta σ H fun x H1 => ∃ C a dx fs, x = .ref a ∧ H1 a = some (.ins C dx fs) ∧ Cls K C ∧ PropOf K C m p g ∧ sp (.ref a :: dvs) H1 Q E) : tPropG K m p g sp dvs E ta σ H Q := q
theorem r_methG {E : L2.St → XK} (q : ta σ H fun x H1 => ∃ C a dx fs, x = .ref a ∧ H1 a = some (.ins C dx fs) ∧ Cls K C ∧ Meth K C m f ∧ fs.lookup m = none ∧ t σ H1 fun vs H2 => sp (x :: vs) H2 Q (E σ)) : tMethG K m f sp E ta t σ H Q := q
end
end G
/-! ### super().__init__(..) as the first statement of an __init__ -/
namespace G
open PySem PySem.Spec PyProof.Rows L2 PySem.W PySem.Calls
/-- names: the parameters first; the only free one is __class__ -/
structure SScp (N P : List Str) (sc : Scope) : Prop where
  kind : sc.kind = .function
  co : sc.isCoroutine = false
  gen : sc.isGenerator = false
  nd : N.Nodup
  pre : N.take P.length = P
  par : ∀ x ∈ P, sc.names.lookup x = some .local
  nocell : ∀ y ∈ sc.names, y.2 ≠ .cell
  free : ∀ y ∈ sc.names, y.2 = .free → y.1 = ("__class__" : Str)
  sup : sc.names.lookup ("super" : Str) = some .globalImplicit
  cls : sc.names.lookup ("__class__" : Str) = some .free
/-- what of the text such a method must have: the class D it stands in, the cell cc of that class, its code's record cda, the method f2 above -/
structure SupF (K : Frag) (x qual : Str) (params : Arguments) (body : List Stmt) (scope : Scope) (file : Str) (f D f2 : Addr) : Prop where
  ex : ∃ (oc : Value) (od : Option Addr) (dV kV doc pm : Value) (an : Option Addr) (cda : Addr) (ct : Value) (osl : Array (Option Value)) (cc : Addr), fdOf K f = ksFn x qual params body scope dV kV doc pm an (.ref cda) ct cc ∧
    K.lookup f = some ⟨oc, od, .func (fdOf K f), osl⟩ ∧ codeIn K (.ref cda) qual = true ∧ dV = .none ∧ kV = .none ∧ (∃ ccl cdd vs ccs tf, K.lookup cda = some ⟨ccl, cdd, .fields vs, ccs⟩ ∧ vs[2]? = some (.str file tf)) ∧ ∃ cl cld csl, K.lookup cc = some ⟨cl, cld, .cell (some (.ref D)), csl⟩
  kp : keepIn K (.ref f) = true
  cls : ∃ cd, clsIn K D = some cd
  sub : mroIn K D (.ref D) = some true
  any : nsIn K cStatics "thirdparty.any" = some none
  met : ks_superIn K D D "__init__" = some (some (.ref f2))
  fty : typeIn K (.ref f2) = some (.type "function")
  fi : fnIn K f2 = true
def supFB (K : Frag) (qual file : Str) (f D f2 : Addr) : Bool := (match K.lookup f with
  | some ⟨_, _, .func fd, _⟩ => (match fd.code, fd.closure, fd.defaults, fd.kwdefaults with
    | .ref cda, [(n, cc)], .none, .none => n == ("__class__" : Str) && (codeIn K (.ref cda) qual && ((match K.lookup cda with
      | some ⟨_, _, .fields vs, _⟩ => (match (vs[2]? : Option Value) with
        | some (Value.str z _) => z == file
        | _ => false)
      | _ => false) && (match K.lookup cc with
      | some ⟨_, _, .cell (some (.ref D')), _⟩ => D' == D
      | _ => false)))
    | _, _, _, _ => false)
  | _ => false) && (keepIn K (.ref f) && ((clsIn K D).isSome && (decide (mroIn K D (.ref D) = some true) && (He.eqO (nsIn K cStatics "thirdparty.any") (some none) && (He.eqO (ks_superIn K D D "__init__") (some (some (.ref f2))) && (decide (typeIn K (.ref f2) = some (.type "function")) && fnIn K f2))))))
theorem supFB_ok {K : Frag} {x qual : Str} {params : Arguments} {body : List Stmt} {scope : Scope} {file : Str} {f D f2 : Addr} (e : fnB K f = some (x, qual, params, .stmts body, scope, mainGlobals, [], builtinsNs)) (c : supFB K qual file f D f2 = true) : SupF K x qual params body scope file f D f2 := by
  obtain ⟨c1, c⟩ := He.ba c
  obtain ⟨c2, c⟩ := He.ba c
  obtain ⟨c3, c⟩ := He.ba c
  obtain ⟨c4, c⟩ := He.ba c
  obtain ⟨c5, c⟩ := He.ba c
  obtain ⟨c6, c⟩ := He.ba c
  obtain ⟨c7, c8⟩ := He.ba c
  refine ⟨?_, c2, Option.isSome_iff_exists.mp c3, of_decide_eq_true c4, He.eqO_ok c5, He.eqO_ok c6, of_decide_eq_true c7, c8⟩
  unfold fnB at e
  unfold fdOf
  split at c1
  · rename_i oc od fd osl ho
    rw [ho] at e ⊢
    obtain ⟨fn, fq, fp, fb, fsc, fg, fcl, fdf, fkd, fdoc, fpm, fan, fco, fct, fbl⟩ := fd
    simp only [Option.some.injEq, Prod.mk.injEq] at e
    obtain ⟨rfl, rfl, rfl, rfl, rfl, rfl, _, rfl⟩ := e
    dsimp only at c1 ⊢
    split at c1
    · rename_i cda n cc
      obtain ⟨d1, d⟩ := He.ba c1
      obtain ⟨d2, d⟩ := He.ba d
      obtain ⟨d3, d4⟩ := He.ba d
      obtain rfl := beq_iff_eq.mp d1
      refine ⟨oc, od, _, _, _, _, _, cda, _, osl, cc, rfl, rfl, d2, rfl, rfl, ?_, ?_⟩
      · split at d3
        · rename_i a1 a2 vs a3 h1
          split at d3
          · rename_i z tf h2
            obtain rfl := beq_iff_eq.mp d3
            exact ⟨a1, a2, vs, a3, tf, h1, h2⟩
          · cases d3
        · cases d3
      · split at d4
        · rename_i a1 a2 D' a3 h1
          obtain rfl := beq_iff_eq.mp d4
          exact ⟨a1, a2, a3, h1⟩
        · cases d4
    · cases c1
  · cases c1
/-- the context of such a def's body -/
def cxS (CX : CXT) (P : Program) (w : World) (K : Frag) (mg : Str → Option Value) (base : Heap) (N : List Str) (qual : Str) (scope : Scope) (f : Addr) (cd : Value) (cc : Addr) (A : Around) (outer : List Env) (s : Shared) (H : Hp) (E : XK) : Cx where
  prog := P
  w := w
  K := K
  mg := mg
  base := base
  A := A.deeper (ksEnv qual scope s.heap.objs.size f cd cc)
  N := N
  s_0 := s
  H_0 := H
  env := ksEnv qual scope s.heap.objs.size f cd cc
  outer := outer
  stack := ksEnv qual scope s.heap.objs.size f cd cc :: outer
  ex := []
  calm := true
  fn := fun _ => false
  pn := []
  xe := fun e s' => wpAny (model P w) (A.deeper (ksEnv qual scope s.heap.objs.size f cd cc)) (leaving (ksEnv qual scope s.heap.objs.size f cd cc) e) (fun _ z => CX outer H s E e z) (fun e' z => CX outer H s E e' z) s'
theorem zip_look {x : Str} {u : Value} : ∀ {P : List Str} {us : List Value} {i : Nat}, P.Nodup → P[i]? = some x → us[i]? = some u → (P.zip us).reverse.lookup x = some u := by
  intro P us i nd h1 h2
  have hmem : (x, u) ∈ (P.zip us).reverse := by
    rw [List.mem_reverse]
    refine List.mem_of_getElem? (i := i) ?_
    rw [List.getElem?_zip_eq_some]
    exact ⟨h1, h2⟩
  have uniq : ∀ v, (x, v) ∈ (P.zip us).reverse → v = u := by
    intro v hv
    rw [List.mem_reverse] at hv
    obtain ⟨j, hj⟩ := List.getElem?_of_mem hv
    rw [List.getElem?_zip_eq_some] at hj
    have e : i = j := nodup_ix nd h1 hj.1
    subst e
    rw [h2] at hj
    exact (Option.some.inj hj.2).symm
  cases e : (P.zip us).reverse.lookup x with
  | none =>
    have := List.lookup_eq_none_iff.mp e (x, u) hmem
    simp at this
  | some v => rw [uniq v (PySem.mem_of_lookup e)]
section
variable {CX : CXT} {P : Program} {w : World} {K : Frag} {mg : Str → Option Value} {base : Heap} {N ps : List Str} {qual : Str} {scope : Scope} {f cc : Addr} {cd : Value} {A : Around} {outer : List Env} {s : Shared} {H : Hp} {E : XK} {us : List Value} {vs : List V}
theorem inv_startS {h1 : Heap} {tk : Nat} {D : Addr} (S : SScp N ps scope) (hd : A.handled = none) (e0 : Env0 P w K mg base A outer s H) (hl : vs.length = ps.length) (r : Vals vs us) (hcell : ∃ cl cld csl, K.lookup cc = some ⟨cl, cld, .cell (some (.ref D)), csl⟩)
    (hns : h1.Ns s.heap.objs.size (fun x => (ps.zip us).reverse.lookup x)) (hk : ∀ b o, s.heap.get? b = some o → h1.get? b = some o) : Inv (cxS CX P w K mg base N qual scope f cd cc A outer s H E) [] (start N vs) H { s with heap := h1, toks := tk } := by
  have hpl : ps.length ≤ N.length := by have := congrArg List.length S.pre; rw [List.length_take] at this; omega
  have noA : ∀ b : Addr, b ∉ (cxS CX P w K mg base N qual scope f cd cc A outer s H E).ex := fun b z => absurd (show b ∈ ([] : List Addr) from z) (by simp)
  obtain ⟨cl, cld, csl, hc⟩ := hcell
  have hcc := e0.bs _ _ (e0.mod.kin _ _ hc)
  have one : ∀ y c, (cxS CX P w K mg base N qual scope f cd cc A outer s H E).env.cells.lookup y = some c → y = ("__class__" : Str) ∧ c = cc := by
    intro y c h
    have h : ([(("__class__" : Str), cc)] : List (Str × Addr)).lookup y = some c := h
    have := PySem.mem_of_lookup h
    simpa using this
  refine ⟨⟨e0.mod, S.kind, rfl, rfl, Nat.le_refl _, fun y z c h1 h2 => ?_, fun y hy => ?_, (fun y c z _ => nomatch z), fun _ => hd, Around.frames_deeper e0.frames, .inr ⟨rfl, rfl⟩, fun b z => absurd z (noA b), e0.bs, e0.bsz, fun b _ _ => noA b, fun b z => absurd z (noA b), e0.funs, e0.frf⟩,
    rfl, e0.bare, Un.kept hk, ⟨_, hns, fun i y v h1 h2 h3 => ?_⟩, fun y c h => ?_, e0.hok.fresh (Nat.le_refl _), fun y c h => ?_, fun p hp => absurd (show p ∈ ([] : List (Addr × Obj)) from hp) (by simp), e0.hok.kept hk, ?_⟩
  · rw [(one y c h1).1, (one z c h2).1]
  · have hy : scope.names.lookup y = some .cell ∨ scope.names.lookup y = some .free := hy
    rcases hy with hy | hy
    · exact absurd rfl (S.nocell _ (PySem.mem_of_lookup hy))
    · have e := S.free _ (PySem.mem_of_lookup hy) rfl
      have e : y = ("__class__" : Str) := e
      subst e
      exact ⟨cc, rfl⟩
  · have hi : i < vs.length := by
      unfold L2.start at h2
      by_cases hi : i < vs.length
      · exact hi
      · rw [List.getElem?_append_right (by simpa using hi), List.getElem?_replicate] at h2
        split at h2 <;> cases h2
    have ha : vs[i]? = some v := by
      unfold L2.start at h2
      rw [List.getElem?_append_left (by simpa using hi), List.getElem?_map] at h2
      cases e : vs[i]? with
      | none => rw [e] at h2; cases h2
      | some a => rw [e] at h2; cases h2; rfl
    obtain ⟨u, hu, rv⟩ := r.get ha
    have hp : ps[i]? = some y := by
      rw [← S.pre, List.getElem?_take_of_lt (by omega)]; exact h1
    have ndP : ps.Nodup := by rw [← S.pre]; exact S.nd.sublist (List.take_sublist _ _)
    exact ⟨u, rv, .inl ⟨S.par y (List.mem_of_getElem? hp), zip_look ndP hp hu⟩⟩
  · rw [(one y c h).2]
    exact ⟨_, ⟨_, hk _ _ hcc.1, rfl⟩⟩
  · rw [(one y c h).2]
    exact hcc.2
  · unfold L2.start
    show _ = N.length
    rw [List.length_append, List.length_map, List.length_replicate]
    omega
end
/-- a method whose body is super().__init__(e, ..) and more -/
theorem fn_super {CX : CXT} {P : Program} {w : World} {K : Frag} {mg : Str → Option Value} {base : Heap} {k : Nat} {x qual file : Str} {params : Arguments} {scope : Scope} {N ps : List Str} {f D f2 : Addr} {sp sp2 : Sp} {e : Expr} {es : List Expr} {p0 p1 apos pos epos : Pos} {rest : List Stmt} {ar : Arg}
    (F : SupF K x qual params (.Expr (.Call (.Attribute (.Call (.Name "super" p0) [] [] p1) "__init__" apos) (e :: es) [] pos) epos :: rest) scope file f D f2) (S : SScp N ps scope) (hms : mg "super" = none) (hp : (params.posonlyargs ++ params.args).head? = some ar) (har : ps[0]? = some ar.arg)
    (hfile : ((P.main.file : Str) == file) = true) (htop : (P.main.scope.names.lookup ("super" : Str)).isSome = false) (G2 : FnR P w K mg base CX k f2 sp2) (len : ∀ vs H Q E, sp vs H Q E → vs.length = ps.length)
    (hbody : ∀ (cdv : Value) (cc : Addr) (A : Around) (outer : List Env) (s : Shared) (H : Hp) (vs : List V) (Q : VK) (E : XK), Room k (A.deeper (ksEnv qual scope s.heap.objs.size f cdv cc)) → sp vs H Q E →
      ∃ (t : TA) (tr : TS) (a dx : Addr) (fs : List (Str × V)) (E2 : XK), PA (cxS CX P w K mg base N qual scope f cdv cc A outer s H E) (e :: es) t ∧ PSs (cxS CX P w K mg base N qual scope f cdv cc A outer s H E) rest tr ∧ Passes CX (cxS CX P w K mg base N qual scope f cdv cc A outer s H E) E2 ∧
        vs[0]? = some (.ref a) ∧ H a = some (.ins D dx fs) ∧ t (L2.start N vs) H fun ws H1 => sp2 (.ref a :: ws) H1 (fun _ H2 => tr { nx := fun _ H' => Q .non H', rt := Q } (L2.start N vs) H2) E2)
    (hst : ∀ env, starEach (e :: es) env = (false, eval e env) :: starEach es env := by intro _; rfl) (hpl : ∀ env, (backTo pos (starEach es env)).any (·.1) = false := by intro _; rfl)
    (hev : ∀ env, ∃ pl : Sem Bool, eval (.Call (.Attribute (.Call (.Name "super" p0) [] [] p1) "__init__" apos) (e :: es) [] pos) env = (do
      let ov ← attributeBase (.Call (.Name "super" p0) [] [] p1) "__init__" env (eval (.Call (.Name "super" p0) [] [] p1) env)
      standAt apos.atName
      let (f, first) ← holding [ov] (getMethod ov "__init__" pl)
      callWith pos f first (backTo pos (starEach (e :: es) env)) []) := by intro _; exact ⟨_, rfl⟩) :
    FnOk P w K mg base CX (k + 1) f (fdOf K f) ps sp := by
  obtain ⟨oc, od, dV, kV, doc, pm, an, cda, ct, osl, cc, efd, lk, hcd, _, _, hfil, hcell⟩ := F.ex
  obtain ⟨cd, hD⟩ := F.cls
  refine ⟨len, fun A outer s H args us vs Q E hr e0 hb r hsp => ?_⟩
  have hl := len _ _ _ _ hsp
  have KX : K.In s.heap := e0.mod.kin.keeps fun b o e => (e0.bs b o e).1
  have lim : s.heap.NoLimit := e0.mod.nolimit.keeps fun b o e => (e0.bs b o e).1
  have hloc : ∀ y ∈ ps.zip us, (fdOf K f).scope.names.lookup y.1 = some .local := fun ⟨n, v⟩ hy => by
    rw [efd]; exact S.par n (List.of_mem_zip hy).1
  have ec : callEnv (fdOf K f) s.heap.objs.size f = ksEnv qual scope s.heap.objs.size f (.ref cda) cc := by rw [efd]; rfl
  refine ks_codeAny_call_defAt hr.depth (KX _ _ lk) rfl lim (by rw [efd]; exact codeRec_of KX hcd) (by rw [efd]) hb (by rw [efd]; exact S.nocell) hloc (fun h1 hns hk => ?_) (by rw [efd]; exact S.co) (by rw [efd]; exact S.gen) (by rw [efd]; exact S.kind)
  rw [ec]
  obtain ⟨t, tr, a, dx, fs, E2, hA, hR, hx, hv0, ha, hq⟩ := hbody (.ref cda) cc A outer s H vs Q E (hr.deeper _) hsp
  have I : Inv (cxS CX P w K mg base N qual scope f (.ref cda) cc A outer s H E) [] (L2.start N vs) H { s with heap := h1, toks := s.toks + (ps.zip us).length } := inv_startS S hr.hd e0 hl r hcell hns hk
  obtain ⟨ccl, cdd, vcs, ccs, tf, hcode, hvs⟩ := hfil
  obtain ⟨cl, cld, csl, hcel⟩ := hcell
  have KX1 : K.In h1 := KX.keeps hk
  obtain ⟨pl, he⟩ := hev (ksEnv qual scope s.heap.objs.size f (.ref cda) cc)
  refine ks_wpAt_execs_cons (ks_wpAt_Expr_any (ks_wpAt_MethodCall (pl := pl) ?_ he) (by unfold interactive; simp [S.kind]))
  have hx0 := I.hok _ _ ha
  obtain ⟨_, _, _, hxa, _⟩ := hx0
  obtain ⟨u0, hu0, ru0⟩ := r.get hv0
  obtain rfl : u0 = Value.ref a := ru0
  have ndP : ps.Nodup := by rw [← S.pre]; exact S.nd.sublist (List.take_sublist _ _)
  have hself : (ps.zip us).reverse.lookup ar.arg = some (.ref a) := zip_look ndP har hu0
  obtain ⟨mb, hb1, hb2⟩ := e0.mod.blt
  have bk : ∀ b o, base.get? b = some o → h1.get? b = some o := fun b o z => hk b o (e0.bs b o z).1
  obtain ⟨oD, hD1, hD2⟩ : ∃ oD, h1.get? D = some oD ∧ oD.data = .cls cd := by
    have hD' := hD
    unfold clsIn at hD'
    split at hD'
    · rename_i c1 d1 cd1 sl1 ho1
      cases hD'
      exact ⟨_, KX1 _ _ ho1, rfl⟩
    · cases hD'
  have naD : a ≠ D := fun z => by
    have hD' := hD
    unfold clsIn at hD'
    split at hD'
    · rename_i c1 d1 cd1 sl1 ho1
      have := (e0.bs _ _ (e0.mod.kin _ _ ho1)).2
      rw [z, this] at ha; cases ha
    · cases hD'
  refine ks_wpAt_super_base (env := ksEnv qual scope s.heap.objs.size f (.ref cda) cc) S.sup S.cls (by decide) rfl (KX1 _ _ lk) rfl (by rw [efd]; exact hp) rfl (KX1 _ _ hcode) rfl hvs hfile htop ?_
  refine ks_loadName_global S.kind S.sup (loadGlobal_builtin (env := ksEnv qual scope s.heap.objs.size f (.ref cda) cc) (e0.mod.glob.keeps bk) hms (hb1.keeps bk) ((hb2 "super" (by decide)).trans (by decide +kernel)) ⟨rfl, ?_⟩)
  refine wpAny_loadName_free S.kind S.cls rfl ⟨_, KX1 _ _ hcel, rfl⟩ ?_
  refine wpAny_loadName_local S.kind (S.par _ (List.mem_of_getElem? har)) hns hself ?_
  refine ks_wpAny_isType_cls hD1 hD2 ⟨rfl, ?_⟩
  refine ks_wpAny_call_super hD1 hD2 hxa rfl (fun c z => nomatch z) (looks_mroIn KX1 F.sub) (fun h2 e2 k2 => ?_)
  have I2 := ClX.pin_new (t' := s.toks + (ps.zip us).length) I k2 (Nat.le_refl _) e2 (fun v z => nomatch z)
  have KX2 : K.In h2 := KX1.keeps k2
  have hm := F.met
  unfold ks_superIn at hm
  rw [hD] at hm
  obtain ⟨of2, hof, hofc⟩ : ∃ of, h2.get? f2 = some of ∧ of.cls = .type "function" := by
    have ht' : (K.lookup f2).map (·.cls) = some (.type "function") := F.fty
    cases z : K.lookup f2 with
    | none => rw [z] at ht'; cases ht'
    | some of => rw [z] at ht'; exact ⟨of, KX2 _ _ z, Option.some.inj ht'⟩
  refine ks_wpAny_getMethod_super e2 (looks_opaque KX2 F.any) (l₀ := cd.mro) (fun A Q E s k q => wpAny_bind ((looks_clsIn KX2 hD) A _ E s k (wpAny_pure q))) rfl KX2 hm hof hofc naD (by decide) ?_
  have I3 := ClX.met_new (g := f2) (C := a) I2
  refine ClX.callwith_cm I3 (ClX.base_none I2 (Nat.le_refl _)) F.fi (thn (hA.run pos _ _ _ H _ I3 hq) fun us3 s3 ⟨vs3, H3, I4, rv3, q3⟩ => ⟨⟨ClX.pin_at I4, I4.kIn⟩, ?_⟩) (hst _) (hpl _)
  refine wpAny_mono (ClX.run_cm G2 (hr.deeper _) hx I4 rv3 q3) (fun u s4 h4 => ?_) (fun e s4 h4 => h4)
  obtain ⟨v4, H4, I5, _, q4⟩ := h4
  have I6 := ClX.unpin I5
  refine wpAt_of_wpAny (wpAny_mono (hR.run [] s4 _ H4 _ I6 q4) (fun fl s' hs => ?_) fun e s' hs => hs)
  have fin : ∀ {σ' : L2.St} {H' : Hp} {v : V} {u : Value}, Inv (cxS CX P w K mg base N qual scope f (.ref cda) cc A outer s H E) [] σ' H' s' → RelV v u → Q v H' → CE outer P w H s Q u s' := fun {σ' H' v u} J rv q => ⟨v, H', J.os, J.bare, J.base, J.hok, rv, q⟩
  cases fl with
  | ret u => obtain ⟨v, σ', H', J, rv, q⟩ := hs; exact fin J rv q
  | next => obtain ⟨σ', H', J, q⟩ := hs; exact fin (v := V.non) (u := Value.none) J rfl q
  | brk => obtain ⟨_, _, _, q⟩ := hs; exact False.elim q
  | cont => obtain ⟨_, _, _, q⟩ := hs; exact False.elim q
theorem SupF.bindsN {K : Frag} {x qual : Str} {params : Arguments} {body : List Stmt} {scope : Scope} {file : Str} {f D f2 : Addr} {ps : List Str} (F : SupF K x qual params body scope file f D f2)
    (h : ∀ (doc pm : Value) (an : Option Addr) (cdv ct : Value) (cc : Addr) (us : List Value), us.length = ps.length → bindArgs (ksFn x qual params body scope .none .none doc pm an cdv ct cc) ⟨us, []⟩ = pure (ps.zip us)) : Binds K (fdOf K f) ps [] := by
  obtain ⟨oc, od, dV, kV, doc, pm, an, cda, ct, osl, cc, efd, lk, hcd, rfl, rfl, _⟩ := F.ex
  rw [efd]
  exact .all (h doc pm an (.ref cda) ct cc)
end G
namespace G
open PySem PySem.Spec PyProof.Rows L2
/-- for x in xs, xs a list or a tuple -/
def iSq (K : PySem.W.Frag) (tl : TE) : TI := fun σ H R => tl σ H fun x H1 => ∃ a xs, x = .ref a ∧ ((SqL K H1 a xs ∧ R (Itl K a) H1) ∨ (SqT K H1 a xs ∧ R (Itt K a) H1))
theorem pi_sq {X : Cx} {tg l : Expr} {tl : TE} (hl : PE X l tl) : PI X tg l (iSq X.K tl) := by
  refine ⟨fun pins s σ H R I h => thn (hl.run pins s σ H _ I h) fun v s1 ⟨x, H1, I1, r1, a, xs, e, q⟩ => ?_⟩
  subst e; cases r1
  have nf : ∀ b ∈ [s1.heap.objs.size], FpOk X pins H1 b := by
    intro b hb; obtain rfl := List.mem_singleton.mp hb
    exact I1.fpOk (Nat.le_refl _) (I1.hok.fresh (Nat.le_refl _))
  rcases q with ⟨hq, q⟩ | ⟨hq, q⟩
  · obtain ⟨its, rv, p, hz⟩ := I1.list hq; refine wpAny_pyIter_list p.isList ⟨_, [_], _, _, H1, rfl, I1.kept (t' := s1.toks) fun b o e => Heap.get?_push_of_some _ e, turn_list a _, ⟨_, Heap.get?_push_size _ rfl, rfl, rfl⟩, nf, q⟩
  · obtain ⟨its, rv, p, hz⟩ := I1.tuple hq; refine wpAny_pyIter_tuple (show s1.heap.IsTuple a its.toArray from p) ⟨_, [_], _, _, H1, rfl, I1.kept (t' := s1.toks) fun b o e => Heap.get?_push_of_some _ e, turn_tuple a _, ⟨_, Heap.get?_push_size _ rfl, rfl, rfl⟩, nf, q⟩
theorem kpi_sq {X : Cx} {K : PySem.W.Frag} {tg l : Expr} {tl : TE} (hl : PE X l tl) (h1 : X.K = K := by rfl) : PI X tg l (iSq K tl) := by
  subst h1; exact pi_sq hl
end G
/-! ### own exceptions under OverflowError, with one field -/
namespace G
open PySem PySem.Spec PyProof.Rows L2
abbrev oeTail : List Value := [.type "OverflowError", .type "ArithmeticError", .type "Exception", .type "BaseException", .type "object"]
section
open Builtin Builtin.ObjectAttr PySem.HandSPX
variable {prog : Program} {w : World} {A : Around} {R : Result → Shared → Prop} {hp : Heap} {g : Array GenState} {d : Drawn} {t : Nat} {os : OsState}
theorem osa_O {K : W.Frag} {name : Str} {tk : Tok} {v : Value} {x C : Addr} {fv : Array Value} {cd : ClassData} (X : K.In hp) (hx : hp.get? x = some { cls := .ref C, data := .fields fv }) (hcd : W.clsIn K C = some cd) (hm : cd.mro = .ref C :: oeTail) (hh : cd.hasDict = true) (ha : W.findIn K (.ref C) name = some none)
    (hq : ∀ h' tk' dx, (∀ b o, b ≠ x → hp.get? b = some o → h'.get? b = some o) → hp.objs.size ≤ dx → dx ≠ x → h'.get? x = some { cls := .ref C, dict := some dx, data := .fields fv } → h'.Ns1 dx (fun y => if y = name then some v else none) → R (.ok (.ret .none)) ⟨h', g, d, tk', os⟩) :
    codeAny (model prog w) A (.call (.builtin "object.__setattr__") ⟨[.ref x, .str name tk, v], []⟩) R ⟨hp, g, d, t, os⟩ := by
  have I : W.InstAt hp x { cls := .ref C, data := .fields fv } C none := ⟨hx, rfl, rfl, trivial⟩
  have SF := F.store_object; have ne : cd.mro.isEmpty = false := by rw [hm]; rfl
  have hob : cd.mro.contains (.type "object") = true := by rw [hm, List.contains_cons, show oeTail.contains (.type "object") = true from by decide +kernel, Bool.or_true]
  have hps : refuseLoop (.ref x) "__setattr__" cd.mro = pure () := by
    rw [hm, refuseLoop_ref]; exact F.store_OverflowError.passes (.ref x)
  have hxs : x ≠ hp.objs.size := Nat.ne_of_lt (Heap.lt_size hx); have sub : W.Looks (model prog w) hp (isInstance (.ref x) (.type "object")) true := I.type.andThen (W.looks_mroIn X (by unfold W.mroIn; rw [hcd, Option.bind_some, if_neg (by rw [ne]; decide), hob]))
  refine codeAny_call_builtin SF.slot.plain SF.entry (@W.check_slot (model prog w) _ _ ⟨hp, g, d, t, os⟩ "object.__setattr__" "object" "__setattr__" (.ref x) [.str name tk, v] [] _ SF.kind SF.split sub (SF.args (.ref x) (.str name tk) v) ?_); have hmr : W.Looks (model prog w) hp (mroOf (.ref C)) cd.mro := (W.looks_clsIn X hcd).andThen .now
  have L3 : W.Looks (model prog w) hp (storeTaker? none) none := .now; have hcls : W.Looks (model prog w) hp (classData C) cd := W.looks_clsIn X hcd
  rw [W.osa_eq, refuse_eq]; refine wpAny_bind (wpAny_bind (I.type.at (wpAny_bind (hmr.at ?_))))
  rw [hps]; refine wpAny_pure (wpAny_bind (I.type.at (wpAny_bind ((W.looks_findIn X ha).at (wpAny_bind (L3.at ?_))))))
  show wpAny _ _ (storeInOwnDict (.ref x) (.ref C) (.str name tk) name v false) _ _ _; obtain ⟨nm, bs, mro, ns, qn, hd, sn, sb, ab, col, del⟩ := cd
  dsimp only at hh; subst hh; unfold storeInOwnDict ownDictForStores
  repeat (first | with_reducible refine store_in_new ?_ ?_ | with_reducible refine wpAny_loadPart_at hx ?_ | with_reducible refine hcls.at ?_ | wp_step)
  · exact ⟨_, #[], _, (Heap.get?_update_ne _ _ _ _ hxs.symm).trans (Heap.get?_push_at rfl rfl), rfl, fun e he => absurd he (by simp), fun _ => rfl⟩
  · intro h' tk' hn' hs; have hx₁ : (hp.push { cls := .type "dict", data := .dict #[] }).get? x = some { cls := .ref C, data := .fields fv } := Heap.get?_push_of_some _ hx
    refine hq h' tk' hp.objs.size (fun b o hb ho => (hs.2 b (Nat.ne_of_lt (Heap.lt_size ho))).trans ((Heap.get?_update_ne _ _ _ _ hb).trans (Heap.get?_push_of_some _ ho))) (Nat.le_refl _) hxs.symm ((hs.2 x hxs).trans (Heap.get?_update_self _ hx₁ rfl)) hn'
end
/-- what the written part says of the class -/
structure OexO (K : PySem.W.Frag) (C : Addr) : Prop where
  cls : ∃ nm q N bs sn sub ab col dd k0 k1 k2 k3 k5, K.lookup C = some (excClassObj nm q C N bs oeTail true sn sub ab col dd k0 k1 k2 k3 k5 "OverflowError.__new__")
  sa : PySem.W.findIn K (.ref C) "__setattr__" = some (some (.builtin "object.__setattr__"))
  exC : PySem.W.subIn K (.ref C) (.type "BaseException") = some true
  tyC : PySem.W.typeIn K (.ref C) = some (.type "type")
  kC : PySem.W.keepIn K (.ref C) = true
section
variable {X : Cx} {pins : List (Addr × Obj)} {σ : L2.St} {H : Hp} {s : Shared} {a C dx : Addr} {f : Str} {y : V} {u : Value} {Q : Unit → Shared → Prop} {E : Value → Shared → Prop} {A : Around}
theorem ostO_new (T : OexO X.K C) (I : Inv X pins σ H s) (e : H a = some (exo a C none)) (hno : PySem.W.findIn X.K (.ref C) f = some none) (ry : RelV y u)
    (h : ∀ dx s', H dx = none → dx ≠ a → Inv X pins σ (upd (upd H dx (exd dx [(f, y)])) a (exo a C (some dx))) s' → Q () s') : wpAny (model X.prog X.w) A (setAttr (.ref a) f u) Q E s := by
  obtain ⟨nm, q, N, bs, sn, sub, ab, col, dd, k0, k1, k2, k3, k5, hC⟩ := T.cls
  have hcl : PySem.W.clsIn X.K C = some { name := nm, bases := bs, mro := .ref C :: oeTail, ns := N, qualname := q, hasDict := true, slotNames := sn, subclasses := sub, abstract := ab, collection := col, hasDel := false } := by unfold PySem.W.clsIn; rw [hC] <;> rfl
  obtain ⟨t1, ho⟩ := exo_at I.hok e; obtain ⟨hp, g, d, t, os⟩ := s
  refine PySem.W.set_plain I.kIn (ox := { cls := .ref C, dict := none, data := .fields #[.ref t1, .none, .none, .none, .bool false, .none] }) (od := none) ⟨ho, rfl, rfl, trivial⟩ T.sa (osa_O I.kIn ho hcl rfl rfl hno (fun h' tk' dx k dn dne hx hn => ?_))
  have hnd : H dx = none := I.hok.fresh dn
  have nd : ∀ {b : Addr} {o : Obj}, hp.get? b = some o → b ≠ dx := by
    intro b o q; exact Nat.ne_of_lt (Nat.lt_of_lt_of_le (Heap.lt_size q) dn)
  have na : ∀ {b : Addr}, H b = none → b ≠ a := by
    intro b n z; rw [z, e] at n; cases n
  have Un1 : Un X.fs [] H (upd (upd H dx (exd dx [(f, y)])) a (exo a C (some dx))) hp h' := by
    refine ⟨fun b o q n _ _ => k b o (na n) q, fun b o q n _ _ => ⟨o.slots, k b o (na n) q⟩, fun b o q n _ => by rw [upd_ne (na n), upd_ne (nd q)]; exact n, fun b o q _ => ?_, fun b xs q => by rw [upd_ne (at_ne e q exo_tup), upd_ne (ne_of_none q hnd)]; exact q, fun b o v q => by rw [upd_ne (at_ne e q exo_frz), upd_ne (ne_of_none q hnd)]; exact q, fun b ps q => ⟨#[], by rw [upd_ne (at_ne e q exo_tbl), upd_ne (ne_of_none q hnd), q]; simp⟩⟩
    by_cases hb : b = a
    · exact ⟨_, by rw [hb]; exact hx⟩
    · exact ⟨o, k b o hb q⟩
  refine h dx _ hnd dne (I.un (t' := tk') Un1 fun b o q => ?_)
  by_cases hb : b = a
  · subst hb; rw [upd_same] at q; cases q; exact exo_ok hx
  · rw [upd_ne hb] at q; by_cases hd : b = dx
    · subst hd; rw [upd_same] at q; cases q; exact exd_ok hn (relO_put (fs := []) ry fun g => True.intro)
    · rw [upd_ne hd] at q
      refine (I.hok b o q).stay (fun c v hc z => k c v ?_ z) (fun c hc => by rw [upd_ne (at_ne e hc exo_own), upd_ne (ne_of_none hc hnd)]; exact hc) (fun c xs hc => by rw [upd_ne (at_ne e hc exo_tup), upd_ne (ne_of_none hc hnd)]; exact hc)
      rcases hc with hc | hc
      · rw [hc]; exact hb
      · exact at_ne e hc exo_own
def tOstO (K : PySem.W.Frag) (f : Str) (to te : TE) : TS := fun D σ H => te σ H fun y H1 => to σ H1 fun x H2 => ∃ a C : Addr, x = .ref a ∧ OexO K C ∧ PySem.W.findIn K (.ref C) f = some none ∧ H2 a = some (exo a C none) ∧ ∀ dx, H2 dx = none → dx ≠ a → D.nx σ (upd (upd H2 dx (exd dx [(f, y)])) a (exo a C (some dx)))
theorem ps_ostO {o e : Expr} {to te : TE} {p' pos : Pos} (ho : PE X o to) (he : PE X e te) (hs : swapsWith e (some (.Attribute o f p')) pos.line X.env = pure false := by rfl) : PS X (.Assign [.Attribute o f p'] e pos) (tOstO X.K f to te) := by
  refine ⟨fun pins s σ H D I h => plainObj_wpAny_Assign_Attribute (thn (he.run pins s σ H _ I h) fun v s1 ⟨y, H1, I1, r1, q1⟩ => thn (ho.run pins s1 σ H1 _ I1 q1) fun u s2 ⟨x, H2, I2, r2, a, C, ex, T, hno, ea, q⟩ => ?_) hs⟩
  subst ex; obtain rfl : u = Value.ref a := r2
  exact ostO_new T I2 ea hno r1 fun dx s' n ne J => ⟨σ, _, J, q dx n ne⟩
theorem pmk_oexO {CX : CXT} {x : Str} {C fI : Addr} {k : Nat} {fd : FuncData} {ps : List Str} {sp : Sp} {ds : List Value} {dvs : List V} {e : Expr} {es : List Expr} {ta : TA} {p pos : Pos} (T : OexO X.K C) (iC : PySem.W.findIn X.K (.ref C) "__init__" = some (some (.ref fI))) (tI : PySem.W.typeIn X.K (.ref fI) = some (.type "function"))
    (F1 : FnOk X.prog X.w X.K X.mg X.base CX k fI fd ps sp) (hr : Room (k + 1) X.A) (hb : Binds X.K fd ps ds) (hd : Vals dvs ds) (hx : Passes CX X (fun _ _ _ => False)) (hg : Gl X x) (hm : X.mg x = some (.ref C)) (ha : PA X (e :: es) ta) (hdb : (x == ("__debug__" : Str)) = false := by decide)
    (he : starEach (e :: es) X.env = (false, eval e X.env) :: starEach es X.env := by rfl) (hpl : (backTo pos (starEach es X.env)).any (·.1) = false := by rfl) : PMk X (.Call (.Name x p) (e :: es) [] pos) (tMkO C sp dvs ta) := by
  intro pins s σ H Q I h; obtain ⟨nm, q, N, bs, sn, sub, ab, col, dd, k0, k1, k2, k3, k5, hC⟩ := T.cls
  refine wpAny_Call_Name_kw (ld_glob I hg hm (PySem.W.callWith_K (h₀ := X.base) I.ok.mod.kin T.kC (thn (ha.run pos pins s σ H _ I h) fun us s1 ⟨vs, H1, I1, r1, hz, q1⟩ => ⟨I1.kIn, ?_⟩) he hpl) hdb)
  show wpAny _ _ (call (.ref C) us) _ _ _; obtain ⟨hp, g, dr, tk, os⟩ := s1
  have hsz : hp.objs.size ≤ hp.objs.size + 1 := Nat.le_succ _; have hn : H1 (hp.objs.size + 1) = none := I1.hok.fresh hsz; have hq := q1 (hp.objs.size + 1) hn
  have kk : ∀ b o, hp.get? b = some o → ((hp.push (PySem.W.kdv_tup us)).push (PySem.HandSPX.excO C hp.objs.size)).get? b = some o := by
    intro b o e; exact Heap.get?_push_of_some _ (Heap.get?_push_of_some _ e)
  have hget : ((hp.push (PySem.W.kdv_tup us)).push (PySem.HandSPX.excO C hp.objs.size)).get? (hp.objs.size + 1) = some (PySem.HandSPX.excO C hp.objs.size) := by heap_get
  have I2 : Inv X pins σ (upd H1 (hp.objs.size + 1) (exo (hp.objs.size + 1) C none)) ⟨(hp.push (PySem.W.kdv_tup us)).push (PySem.HandSPX.excO C hp.objs.size), g, dr, tk, os⟩ := I1.laid (t' := tk) (a := hp.objs.size + 1) (o := exo (hp.objs.size + 1) C none) (h' := (hp.push (PySem.W.kdv_tup us)).push (PySem.HandSPX.excO C hp.objs.size)) kk hsz (exo_ok hget)
  have r2 : Vals (V.ref (hp.objs.size + 1) :: (vs ++ dvs)) (Value.ref (hp.objs.size + 1) :: (us ++ ds)) := .cons rfl (r1.append hd)
  have hl : (Value.ref (hp.objs.size + 1) :: us ++ ds).length = ps.length := by
    have e := r2.length; rw [F1.len _ _ _ _ hq] at e; exact e.symm
  have hus : us.length ≤ sizeLine := by rw [← Paired.length r1, sizeLine_eq]; omega
  refine wpAny_call (PySem.HandSPX.call_own F.excBase_OverflowError (fun Y => rfl) (I1.kIn _ _ hC) (PySem.W.looks_findIn I1.kIn iC) (fun self => PySem.W.bind_fn I1.kIn self tI) hus (codeAny_mono (F1.run _ X.stack _ _ ⟨Value.ref (hp.objs.size + 1) :: us, []⟩ (Value.ref (hp.objs.size + 1) :: (us ++ ds)) _ _ (fun _ _ _ => False) (hr.make C us []) (I2.env0.make C us []) (hb _ (Value.ref (hp.objs.size + 1) :: us) I2.kIn hl) r2 hq) fun r s' hq' => ?_))
  cases r with
  | error er => exact hx pins σ _ _ er s' I2 hq'
  | ok fl =>
    cases fl with
    | ret u =>
      obtain ⟨v, H2, os2, bare2, un2, hok2, rv, ev, d, fs, ea, ed, hd1, q2⟩ := hq'; subst ev; obtain ⟨h2, g2, d2, t2, os'⟩ := s'
      exact ⟨rv, mk_end (raises_own T.exC T.tyC) I1 hsz kk un2 hok2 os2 bare2 ea ed hd1 q2⟩
    | _ => exact False.elim hq'
end
/-! what the kernel looks at -/
def oexOClsB (K : PySem.W.Frag) (C : Addr) : Bool := match K.lookup C with
  | some ⟨.type "type", _, .cls cd, sl⟩ => (match cd.mro, sl.toList with
    | .ref C' :: bm, [_, _, _, _, some (.builtin n), _] => C' == C && n == "OverflowError.__new__" && !cd.hasDel && cd.hasDict && bm == oeTail
    | _, _ => false)
  | _ => false
theorem oexOClsB_ok {K : PySem.W.Frag} {C : Addr} (q : oexOClsB K C = true) : ∃ nm q N bs sn sub ab col dd k0 k1 k2 k3 k5, K.lookup C = some (excClassObj nm q C N bs oeTail true sn sub ab col dd k0 k1 k2 k3 k5 "OverflowError.__new__") := by
  unfold oexOClsB at q
  split at q
  · rename_i dd cd sl ho
    split at q
    · rename_i C' bm k0 k1 k2 k3 n k5 hm hs
      simp only [Bool.and_eq_true, beq_iff_eq, Bool.not_eq_true'] at q
      obtain ⟨⟨⟨⟨rfl, rfl⟩, hdel⟩, hdc⟩, ht⟩ := q
      subst ht
      obtain ⟨nm, bs, mro, ns, qn, hd, sn, sub, ab, col, del⟩ := cd
      dsimp only at hm hdel hdc
      subst hm hdel hdc
      have hsl : sl = #[k0, k1, k2, k3, some (.builtin "OverflowError.__new__"), k5] := by
        obtain ⟨l⟩ := sl; simp only at hs; rw [hs]
      subst hsl
      exact ⟨nm, qn, ns, bs, sn, sub, ab, col, dd, k0, k1, k2, k3, k5, ho⟩
    · cases q
  · cases q
/-- such a class at C: its __init__ at fI; its fields fs are no attributes of the class -/
structure OexOF (K : PySem.W.Frag) (C fI : Addr) (fs : List Str) : Prop where
  o : OexO K C
  i : PySem.W.findIn K (.ref C) "__init__" = some (some (.ref fI))
  t : PySem.W.typeIn K (.ref fI) = some (.type "function")
  x : XfC K C
  n : ∀ f ∈ fs, PySem.W.findIn K (.ref C) f = some none
def oexOFB (K : PySem.W.Frag) (C fI : Addr) (fs : List Str) : Bool := oexOClsB K C && (He.eqO (PySem.W.findIn K (.ref C) "__setattr__") (some (some (.builtin "object.__setattr__"))) && (decide (PySem.W.subIn K (.ref C) (.type "BaseException") = some true) && (decide (PySem.W.typeIn K (.ref C) = some (.type "type")) && (PySem.W.keepIn K (.ref C) &&
  (He.eqO (PySem.W.findIn K (.ref C) "__init__") (some (some (.ref fI))) && (decide (PySem.W.typeIn K (.ref fI) = some (.type "function")) && (xfB K C && fs.all fun f => He.eqO (PySem.W.findIn K (.ref C) f) (some none))))))))
theorem oexOFB_ok {K : PySem.W.Frag} {C fI : Addr} {fs : List Str} (c : oexOFB K C fI fs = true) : OexOF K C fI fs := by
  obtain ⟨c1, c⟩ := He.ba c
  obtain ⟨c2, c⟩ := He.ba c
  obtain ⟨c3, c⟩ := He.ba c
  obtain ⟨c4, c⟩ := He.ba c
  obtain ⟨c5, c⟩ := He.ba c
  obtain ⟨c6, c⟩ := He.ba c
  obtain ⟨c7, c⟩ := He.ba c
  obtain ⟨c8, c9⟩ := He.ba c
  exact ⟨⟨oexOClsB_ok c1, He.eqO_ok c2, of_decide_eq_true c3, of_decide_eq_true c4, c5⟩, He.eqO_ok c6, of_decide_eq_true c7, xfB_ok c8, fun f hf => He.eqO_ok (List.all_eq_true.mp c9 f hf)⟩
theorem kOstO {X : Cx} {K : PySem.W.Frag} {st : Stmt} {to te : TE} {f : Str} (h : PS X st (tOstO X.K f to te)) (hK : X.K = K := by rfl) : PS X st (tOstO K f to te) := hK ▸ h
theorem r_ostO {K : PySem.W.Frag} {σ : L2.St} {H : Hp} {D : Ends} {to te : TE} {f : Str} (q : te σ H fun y H1 => to σ H1 fun x H2 => ∃ a C : Addr, x = .ref a ∧ OexO K C ∧ PySem.W.findIn K (.ref C) f = some none ∧ H2 a = some (exo a C none) ∧ ∀ dx, H2 dx = none → dx ≠ a → D.nx σ (upd (upd H2 dx (exd dx [(f, y)])) a (exo a C (some dx)))) : tOstO K f to te D σ H := q
end G
/-! ### sets of points: set(xs) and sorted of such a set -/
namespace G
open PySem PySem.Spec PyProof.Rows L2 PySem.W
section
variable {P : Program} {w : World} {A : Around} {E : Value → Shared → Prop} {s : Shared}
theorem rows_in {L : List (Addr × List Int)} : ∀ vs : List Value, (∀ v ∈ vs, ∃ q ∈ L, v = Value.ref q.1) → ∃ L1 : List (Addr × List Int), vs = L1.map (fun q => Value.ref q.1) ∧ ∀ q ∈ L1, q ∈ L
  | [], _ => ⟨[], rfl, fun _ h => nomatch h⟩
  | v :: vs, hv => by
    obtain ⟨q, hq, e⟩ := hv v List.mem_cons_self
    obtain ⟨L1, e1, hs⟩ := rows_in vs fun u hu => hv u (List.mem_cons_of_mem _ hu)
    refine ⟨q :: L1, by rw [List.map_cons, e, e1], fun r hr => ?_⟩
    rcases List.mem_cons.mp hr with rfl | z
    · exact hq
    · exact hs r z
theorem each_refs {R : Value → (Addr × List Int) → Prop} : ∀ (L : List (Addr × List Int)), (∀ q ∈ L, R (.ref q.1) q) → EachIs R (L.map fun q => Value.ref q.1) L
  | [], _ => .nil
  | q :: L, h => .cons (h q List.mem_cons_self) (each_refs L fun r hr => h r (List.mem_cons_of_mem _ hr))
theorem refs_each : ∀ {us : List Value} {L : List (Addr × List Int)}, EachIs (fun v q => v = Value.ref q.1) us L → us = L.map fun q => Value.ref q.1
  | _, _, .nil => rfl
  | _, _, .cons h r => by rw [h, refs_each r]; rfl
/-- sorted(set) of data told by their ints -/
theorem sorted_setD {a : Addr} {L : List (Addr × List Int)} {es : Array (Int × Value)} {ep : Nat} {t : SetTable} {Q : Value → Shared → Prop} (R : SetTR P w s.heap a L es ep t) (hh : A.handled = none) (enc : List Int → PyData)
    (hrd : ∀ q ∈ L, ∃ as, Reads s.heap (.ref q.1) (enc q.2) as) (hal : ∀ L' : List (Addr × List Int), (∀ q ∈ L', q ∈ L) → AllAlike (L'.map fun q => enc q.2)) (hk : ∀ L' : List (Addr × List Int), (∀ q ∈ L', q ∈ L) → PySem.W.Sortable (L'.map fun q => enc q.2))
    (hu : ∀ q ∈ L, A.units + 2 + (enc q.2).depth < cLine)
    (hQ : ∀ s' p (out : Array Value) (c : Nat) (L1 : List (Addr × List Int)), (∀ b o, s.heap.get? b = some o → s'.heap.get? b = some o) → s'.gens = s.gens → s'.os = s.os → s.heap.objs.size ≤ p →
      s'.heap.get? p = some (seqObj "list" out c) → out.toList = (L1.mergeSort (dataLe false fun q => enc q.2)).map (fun q => Value.ref q.1) → L1.Perm L → Q (.ref p) s') :
    wpAny (model P w) A (call (.builtin "sorted") [.ref a]) Q E s := by
  obtain ⟨o, ho, hex, hd⟩ := R.ob
  have hsz := R.size
  have hfew := R.few
  refine call_function_entry_kw kind_sorted plain_sorted entry_sorted (args_sorted1 _) ?_
  unfold Builtin.«sorted»; refine wpAny_bind (m := checkCount "sorted" 1 1 _) (wpAny_pure (wpAny_bind ?_))
  refine collect_set (A := A.in1) hh ⟨o, ho, hex.1, hd⟩ R.fits (by unfold scanBound; omega) R.tab.ris R.led fun s1 vs k1 hz g1 o1 pm => ?_
  have hes : es.toList.map (·.2) = L.map fun q => Value.ref q.1 := by
    rw [R.rows]; unfold L2.rowsOf; rw [List.map_map] <;> rfl
  rw [hes] at pm
  obtain ⟨L1, eL, hs1⟩ := rows_in (L := L) vs fun v hv => by
    obtain ⟨q, hq, e⟩ := List.mem_map.mp (pm.mem_iff.mp hv)
    exact ⟨q, hq, e.symm⟩
  have one : ∀ q ∈ L, ∀ r ∈ L, q.1 = r.1 → q = r := fun q hq r hr e => by
    have a1 := R.tup q hq
    rw [e] at a1
    exact Prod.ext e (a1.inj (R.tup r hr))
  have pL : L1.Perm L := by
    rw [eL] at pm
    have nL : L.Nodup := nodup_of_map R.nd
    have nref : (L.map fun q => Value.ref q.1).Nodup := by
      refine List.pairwise_map.mpr (List.Pairwise.imp_of_mem (fun {q r} hq hr hne e => ?_) nL)
      injection e with e
      exact hne (one q hq r hr e)
    refine (List.perm_ext_iff_of_nodup (nodup_of_map (pm.nodup_iff.mpr nref)) nL).mpr fun q => ⟨hs1 q, fun hq => ?_⟩
    obtain ⟨r, hr, e⟩ := List.mem_map.mp (pm.mem_iff.mpr (List.mem_map.mpr ⟨q, hq, rfl⟩))
    injection e with e
    rw [← one r (hs1 r hr) q hq e]; exact hr
  have hvl : vs.length ≤ sizeLine := by rw [pm.length_eq, List.length_map, sizeLine_eq]; omega
  refine wpAny_bind (wpAny_newList ?_ hvl)
  have hoL : (s1.heap.push (seqObj "list" vs.toArray 0)).get? s1.heap.objs.size = some (seqObj "list" vs.toArray 0) := Heap.get?_push_size _ rfl
  have e1 : EachIs (fun v q => v = Value.ref q.1) vs L1 := by rw [eL]; exact each_refs L1 fun q _ => rfl
  have er : EachIs (fun v q => ∃ as, Reads (sortingHeap (s1.heap.push (seqObj "list" vs.toArray 0)) s1.heap.objs.size vs) v (enc (Prod.snd q)) as) vs L1 := by
    have := each_refs (R := fun v q => ∃ as, Reads (sortingHeap (s1.heap.push (seqObj "list" vs.toArray 0)) s1.heap.objs.size vs) v (enc q.2) as) L1 fun q hq => by
      obtain ⟨as, r⟩ := hrd q (hs1 q hq)
      refine ⟨as, PyProof.Rows.Reads.keeps (fun b u e => ?_) r⟩
      have q := k1 b u e
      exact sortingHeap_old (Nat.ne_of_lt (Heap.lt_size q)) (Heap.get?_push_of_some _ q)
    rw [← eL] at this
    exact this
  have S := SortsAt.data (prog := P) (w := w) (A := A.in1.in1) (s := { s1 with heap := sortingHeap (s1.heap.push (seqObj "list" vs.toArray 0)) s1.heap.objs.size vs }) (each_map (R := fun v d => ∃ as, Reads (sortingHeap (s1.heap.push (seqObj "list" vs.toArray 0)) s1.heap.objs.size vs) v d as) (fun q : Addr × List Int => enc q.2) er) (hal L1 hs1) (hk L1 hs1) (bound_map fun q hq => hu q (hs1 q hq))
  refine wpAny_bind (wpAny_holding (wpAny_call_entry_kw slot_list_sort ⟨_, hoL, rfl⟩ entry_list_sort ?body (args_list_sort _)))
  case body =>
    refine list_sort_vals (s := { s1 with heap := s1.heap.push (seqObj "list" vs.toArray 0) }) hoL S hvl ?_
    refine ⟨_, rfl, wpAny_pure ⟨_, rfl, ?_⟩⟩
    have ho2 := sortVals_data (h' := sortingHeap (s1.heap.push (seqObj "list" vs.toArray 0)) s1.heap.objs.size vs) (enc := fun q : Addr × List Int => enc q.2) false e1 er (hal L1 hs1)
    obtain ⟨c, hc⟩ := sortedHeap_at (vs := vs) (out := (sortVals (dataKind (sortingHeap (s1.heap.push (seqObj "list" vs.toArray 0)) s1.heap.objs.size vs) (L1.map fun q => enc q.2)) false vs vs).toArray) hoL
    refine hQ _ s1.heap.objs.size _ c L1 (fun b u e => ?_) g1 o1 hz hc (by rw [List.toList_toArray]; exact refs_each ho2) pL
    have q := k1 b u e
    have hlt := Heap.lt_size q
    show (sortedHeap (s1.heap.push (seqObj "list" vs.toArray 0)) s1.heap.objs.size vs _).get? b = some u
    rw [sortedHeap_old (Nat.ne_of_lt hlt) (by rw [size_push']; exact Nat.lt_succ_of_lt hlt)]
    exact Heap.get?_push_of_some _ q
end
end G
/-! ### {x for x in xs}, the x tuples of ints -/
namespace G
open PySem PySem.Spec PyProof.Rows L2
section
variable {X : Cx}
theorem typeIs_setT {P : Program} {w : World} {h : Heap} {a : Addr} {L : List (Addr × List Int)} {es : Array (Int × Value)} {ep : Nat} {t : SetTable} (R : SetTR P w h a L es ep t) : ∃ o, h.get? a = some o ∧ o.cls = .type "set" := by
  obtain ⟨o, ho, hex, _⟩ := R.ob
  exact ⟨o, ho, hex.1⟩
theorem addT_ok {pins : List (Addr × Obj)} {σ : L2.St} {H : Hp} {s : Shared} {E : Value → Shared → Prop} {D x : Addr} {L : List (Addr × List Int)} {k : List Int} {Q : Value → Shared → Prop} (I : Inv X pins σ H s) (hD : H D = some (SetTO X.prog X.w D L))
    (ht : ∀ p ∈ L, SqT X.K H p.1 (p.2.map V.int)) (hx : SqT X.K H x (k.map V.int)) (few : L.length + 1 < 64) (hu : X.A.units + 3 < cLine)
    (h : ∀ L' s', (k ∈ L.map (·.2) → L' = L) → (k ∉ L.map (·.2) → L'.Perm ((x, k) :: L)) → Inv X pins σ (upd H D (SetTO X.prog X.w D L')) s' → Q .none s') : wpAny (model X.prog X.w) X.A (call (.builtin "set.add") [.ref D, .ref x]) Q E s := by
  have R0 : SetT0 X.prog X.w s.heap D L := (I.hok D _ hD).1
  obtain ⟨es, ep, t, R⟩ := R0.full fun p hp => I.isT (ht p hp)
  have hxT := I.isT hx
  refine wpAny_call_entry F.slot_set_add (typeIs_setT R) F.entry_set_add ?_ (F.args_set_add_2 _ _)
  unfold Builtin.«set.add» Builtin.Frozenset.oneOther
  simp only [List.isEmpty_nil, bind_assoc]; unfold Builtin.Frozenset.addrOf setAdd
  refine wpAny_bind (wpAny_pure ?_); try dsimp only
  refine wpAny_bind (wpAny_pure ?_); try dsimp only
  refine wpAny_bind (wpAny_holding (wpAny_bind (wpAny_pyHash_tuple (by show X.A.in1.units < cLine; have : X.A.in1.units = X.A.units + 1 := rfl; omega) hxT ?_)))
  refine add_at (s := { s with toks := s.toks + (k.length + 1) }) R hxT (by have : X.A.in1.units = X.A.units + 1 := rfl; omega) few fun b h' L' es' ep' t' sb R' c1 c2 => ?_
  show wpAny _ _ (ret Value.none) _ _ _
  obtain ⟨o', ho', _⟩ := R'.ob
  exact wpAny_pure ⟨_, rfl, h L' _ c1 c2 (I.write (e := D) (t' := s.toks + (k.length + 1)) (by rw [hD]; trivial) (.inl rfl) (fun b u hb hu => (sb.2 b hb).trans hu) ⟨o', ho'⟩ (setTO_new R'.t0))⟩
/-- D the new set -/
def tScT (P : Program) (w : World) (K : PySem.W.Frag) (wi : TI) (g : TG) (tt : TT) (te : TE) (vs : List Nat) : TE := fun σ H Q => wi σ H fun J H1 => ∀ D, H1 D = none → ∃ W : Nat → Nat → Hp → Prop, (∃ m, W 0 m (upd H1 D (SetTO P w D []))) ∧ ∀ i m H, W i m H →
  (J.stop i H ∧ Q (.ref D) H) ∨ (J.go i H ∧ ∃ Nx : Hp → Prop, (∀ H', Nx H' → ∃ m', m' < m ∧ W (i + 1) m' H') ∧ ∀ x H', J.yld i H x H' → g x (wipe σ vs) H' fun σ2 H2 => wipe σ2 vs = wipe σ vs ∧ tt σ2 H2 fun b H3 =>
    if b = true then te σ2 H3 fun y H4 => ∃ (x : Addr) (k : List Int) (L : List (Addr × List Int)), y = .ref x ∧ H4 D = some (SetTO P w D L) ∧ (∀ p ∈ L, SqT K H4 p.1 (p.2.map V.int)) ∧ SqT K H4 x (k.map V.int) ∧ L.length + 1 < 64 ∧
      ∀ L' : List (Addr × List Int), (k ∈ L.map (·.2) → L' = L) → (k ∉ L.map (·.2) → L'.Perm ((x, k) :: L)) → Nx (upd H4 D (SetTO P w D L')) else Nx H3)
theorem scT_core {pins : List (Addr × Obj)} {s : Shared} {σ : L2.St} {H : Hp} {Q : VK} {elt tg iter : Expr} {ifs : List Expr} {scope : Scope} {own : List (PySem.Str × Nat)} {pos pos' : Pos} {wi : TI} {g : TG} {tt : TT} {te : TE} {use : Option (Value → Sem Unit)} {Qf : Value → Shared → Prop}
    (hu : X.A.units + 3 < cLine) (hc : X.calm = true) (hN : X.N.Nodup) (I : Inv X pins σ H s) (hi : PI X tg iter wi) (ok : BlkOk X.N X.env.scope scope own)
    (hg : ∀ (s : Shared) (H : Hp) (C : Addr) (cl : List (PySem.Str × Addr)) (fp : List Addr), PG (X.blk s H scope (compEnvC scope cl C X.env) fp) tg g) (ht : ∀ (s : Shared) (H : Hp) (C : Addr) (cl : List (PySem.Str × Addr)) (fp : List Addr), PTs (X.blk s H scope (compEnvC scope cl C X.env) fp) ifs tt)
    (he : ∀ (s : Shared) (H : Hp) (C : Addr) (cl : List (PySem.Str × Addr)) (fp : List Addr), PE (X.blk s H scope (compEnvC scope cl C X.env) fp) elt te) (hs : ∀ x, foldedSetIterable iter X.env x = pure x) (h : tScT X.prog X.w X.K wi g tt te (own.map (·.2)) σ H Q)
    (hRR : ∀ D C s' m H', Inv X pins σ H' s' → Q (.ref D) H' → s'.heap.Ns C m → FpOk X pins H' C → compPost (model X.prog X.w) X.A X.xe use Qf (.ref D) C (.ok .next) s') :
    wpAny (model X.prog X.w) X.A (comprehension (.SetComp elt [⟨tg, iter, ifs, 0⟩] scope pos) scope X.env pos' (newSet (.type "set")) false (eval iter X.env) use) Qf X.xe s := by
  have hfree : ∀ y ∈ scope.names, y.2 = .free → ∃ c, X.env.cells.lookup y.1 = some c := by
    intro y hy e; rcases ok.free y hy e with k | k
    · exact I.ok.has _ (.inl k)
    · exact I.ok.has _ (.inr k)
  refine wpAny_comprehension_free (use := use) rfl hs (closure_ok hfree) ok.kind (fun y hy e => by rw [ok.uniq y hy, e]) (thn (hi.run pins s σ H _ I h) fun xv s1 hx => thn hx fun itv s2 h2 => ?_)
  obtain ⟨it, fp, tn, J, H2, e, I2, T, st2, f2, q⟩ := h2; subst e
  refine PpSet.newSet_ok (newEnv_comp ?_); generalize hD : s2.heap.objs.size = D
  have hDn : H2 D = none := I2.hok.fresh (Nat.le_of_eq hD); obtain ⟨W, ⟨m0, w0⟩, turn⟩ := q D hDn
  generalize hs3 : ({ s2 with heap := s2.heap.push { cls := .type "set", dict := none, data := .set #[] 0 (.fresh 0 0 (!X.w.params.followText "set-order")) } } : Shared) = s3
  have I3 : Inv X pins σ (upd H2 D (SetTO X.prog X.w D [])) s3 := by
    rw [← hs3]; refine I2.laid (t' := s2.toks) (fun b o e => Heap.get?_push_of_some _ e) (Nat.le_of_eq hD) ?_
    rw [← hD]; exact setTO_new (setTR_fresh (P := X.prog) (w := X.w) (Heap.get?_push_size _ rfl)).t0
  have h3 : s3.heap = s2.heap.push { cls := .type "set", dict := none, data := .set #[] 0 (.fresh 0 0 (!X.w.params.followText "set-order")) } := by rw [← hs3]
  have sz : ∀ b ∈ fp, b < s2.heap.objs.size := by
    intro b hb; obtain ⟨o, e, _⟩ := T.obj _ _ st2 b hb; exact Heap.lt_size e
  have f3 : ∀ b ∈ fp, FpOk X pins (upd H2 D (SetTO X.prog X.w D [])) b ∧ b < s3.heap.objs.size := by
    intro b hb; have hlt := sz b hb
    refine ⟨⟨?_, (f2 b hb).2⟩, by rw [h3, Heap.size_push]; exact Nat.lt_succ_of_lt hlt⟩
    rw [upd_ne (by rw [← hD]; exact Nat.ne_of_lt hlt)]; exact (f2 b hb).1
  have st3 : tn 0 s3.heap := T.keep _ _ _ st2 fun b _ o e => by rw [h3]; exact Heap.get?_push_of_some _ e
  have I4 := block_start I3 ok hN f3
  have pg := hg s3 (upd H2 D (SetTO X.prog X.w D [])) s3.heap.objs.size (cellsFrom (s3.heap.objs.size + 1) scope.names (cloFrom X.env.cells scope.names [])) fp
  have pt := ht s3 (upd H2 D (SetTO X.prog X.w D [])) s3.heap.objs.size (cellsFrom (s3.heap.objs.size + 1) scope.names (cloFrom X.env.cells scope.names [])) fp
  have pe := he s3 (upd H2 D (SetTO X.prog X.w D [])) s3.heap.objs.size (cellsFrom (s3.heap.objs.size + 1) scope.names (cloFrom X.env.cells scope.names [])) fp
  show codeAny _ _ (.compStart (.SetComp elt [⟨tg, iter, ifs, 0⟩] scope pos) 0 (.ref it) (.ref D) (compEnvC scope (cellsFrom (s3.heap.objs.size + 1) scope.names (cloFrom X.env.cells scope.names [])) s3.heap.objs.size X.env)) (compPost (model X.prog X.w) X.A X.xe use Qf (.ref D) s3.heap.objs.size) { s3 with heap := pushCells (s3.heap.push { cls := .type "dict", data := .dict #[] }) scope.names }
  have nfp : ∀ b ∈ fp, (upd H2 D (SetTO X.prog X.w D [])) b = none := fun b hb => (f3 b hb).1.1
  generalize hce : compEnvC scope (cellsFrom (s3.heap.objs.size + 1) scope.names (cloFrom X.env.cells scope.names [])) s3.heap.objs.size X.env = ce at I4 pg pt pe ⊢; have cL : ce.locals = s3.heap.objs.size := by subst hce; rfl
  generalize hH3 : upd H2 D (SetTO X.prog X.w D []) = H3 at I3 I4 pg pt pe w0 nfp f3
  generalize hs4 : ({ s3 with heap := pushCells (s3.heap.push { cls := .type "dict", data := .dict #[] }) scope.names } : Shared) = s4 at I4 ⊢; have st4 : tn 0 s4.heap := T.keep _ _ _ st3 fun b _ o e => by rw [← hs4]; exact pushCells_keeps _ _ _ _ (Heap.get?_push_of_some _ e)
  have stat : ∀ {σ' : L2.St} {H' : Hp} {s' : Shared}, Inv (X.blk s3 H3 scope ce fp) [] σ' H' s' → (∀ b ∈ fp, H' b = none) → ∀ b ∈ fp, FpOk (X.blk s3 H3 scope ce fp) [] H' b := by
    intro σ' H' s' I' hn b hb; exact ⟨hn b hb, (I'.ok.exf b hb).1, I'.ok.exfs b hb, .inl hb, fun x c e => (I'.ok.exf b hb).2 x c e, fun p hp => absurd (show p ∈ ([] : List (Addr × Obj)) ++ [] from hp) (by simp)⟩
  have loop : codeAny (model X.prog X.w) X.A (.compLoop (.SetComp elt [⟨tg, iter, ifs, 0⟩] scope pos) 0 (.ref it) (.ref D) ce) (compPost (model X.prog X.w) X.A X.xe use Qf (.ref D) s3.heap.objs.size) s4 := by
    refine PpSet.compLoopS_any (fun n s' => ∃ i H', Inv (X.blk s3 H3 scope ce fp) [] (wipe σ (own.map (·.2))) H' s' ∧ tn i s'.heap ∧ (∀ b ∈ fp, H' b = none) ∧ W i n H') ?_ m0 ⟨0, H3, I4, st4, nfp, w0⟩
    rintro n s5 ⟨i, H5, I5, st5, n5, w5⟩; rcases turn i n H5 w5 with ⟨stop, qq⟩ | ⟨go, Nx, hNx, step⟩
    · refine thnF (T.done (X.blk s3 H3 scope ce fp) rfl rfl rfl hc i [] s5 _ H5 (fun _ _ => False) I5 (stat I5 n5) st5 stop) fun r s6 ⟨hr, I6⟩ => ?_
      subst hr; have I7 : Inv X pins σ H5 s6 := I3.call' (ch := fp) I6.os I6.base I6.hok I6.bare fun b hb => ⟨(f3 b hb).1.2.2.2.1, (f3 b hb).1.2.1, (f3 b hb).1.2.2.2.2.1, (f3 b hb).1.2.2.2.2.2⟩
      have nC : H5 ce.locals = none := I6.free
      obtain ⟨m, hn, _⟩ := I6.loc; have hn : s6.heap.Ns ce.locals m := hn
      rw [cL] at hn nC; exact hRR D s3.heap.objs.size s6 m H5 I7 qq hn (I3.fpOk (Nat.le_refl _) nC)
    · refine thnF (T.item (X.blk s3 H3 scope ce fp) rfl rfl rfl hc i [] s5 _ H5 (fun _ _ => False) I5 (stat I5 n5) st5 go) fun r s6 ⟨u, hr, h6⟩ => ?_
      subst hr; refine thnF h6 fun _ s7 ⟨x, H7, I7, r7, y7, st7, n7⟩ => ?_
      have I7' := I7.pinned (stat I7 n7) (T.obj _ _ st7); refine thnF (pg.run _ s7 _ H7 x u _ I7' r7 (step x H7 y7)) fun _ s8 ⟨σ8, H8, I8, hw8, q8⟩ => thnF (pt.run _ s8 σ8 H8 _ I8 q8) fun b s9 ⟨H9, I9, q9⟩ => ?_
      have fin : ∀ {s' : Shared} {H' : Hp}, Inv (X.blk s3 H3 scope ce fp) ([] ++ pinsAt fp s7.heap) σ8 H' s' → Nx H' → ∃ m, m < n ∧ ∃ i H', Inv (X.blk s3 H3 scope ce fp) [] (wipe σ (own.map (·.2))) H' s' ∧ tn i s'.heap ∧ (∀ b ∈ fp, H' b = none) ∧ W i m H' := by
        intro s' H' I' nx; obtain ⟨m', hm, w'⟩ := hNx H' nx
        have pin' : ∀ b ∈ fp, ∀ o, s7.heap.get? b = some o → s'.heap.get? b = some o ∧ H' b = none := by
          intro b hb o e; have z := I'.pin (b, o) (List.mem_append_right _ (List.mem_append_right _ (mem_pinsAt hb e))); exact ⟨z.1, z.2.1⟩
        refine ⟨m', hm, i + 1, H', (I'.unpinned (pins := [])).weak (by rw [← hw8, wipe_length]) (fun j v e => ?_), T.keep _ _ _ st7 fun b hb o e => (pin' b hb o e).1, fun b hb => ?_, w'⟩
        · rw [← hw8] at e; exact (wipe_some e).1
        · obtain ⟨o, e, _⟩ := T.obj _ _ st7 b hb; exact (pin' b hb o e).2
      cases b with
      | false => simp only [Bool.false_eq_true, if_false] at q9 ⊢; exact fin I9 q9
      | true =>
        simp only [if_true] at q9 ⊢; refine thnF (pe.run _ s9 σ8 H9 _ I9 q9) fun z s10 ⟨yv, H10, I10, r10, xa, k0, L0, ey, hD10, hT10, hx10, few, nx⟩ => ?_
        subst ey; cases (show z = Value.ref xa from r10)
        exact addT_ok (X := X.blk s3 H3 scope ce fp) I10 hD10 hT10 hx10 few hu fun L' s11 c1 c2 I11 => fin I11 (nx L' c1 c2)
  exact PpSet.codeAny_compStart_set loop (T.self X.A 0 _ _ _ st4 loop)
theorem pe_scT {elt tg iter : Expr} {ifs : List Expr} {scope : Scope} {own : List (PySem.Str × Nat)} {pos : Pos} {wi : TI} {g : TG} {tt : TT} {te : TE} (hu : X.A.units + 3 < cLine) (hc : X.calm = true) (hN : X.N.Nodup) (hi : PI X tg iter wi) (ok : BlkOk X.N X.env.scope scope own)
    (hg : ∀ (s : Shared) (H : Hp) (C : Addr) (cl : List (PySem.Str × Addr)) (fp : List Addr), PG (X.blk s H scope (compEnvC scope cl C X.env) fp) tg g) (ht : ∀ (s : Shared) (H : Hp) (C : Addr) (cl : List (PySem.Str × Addr)) (fp : List Addr), PTs (X.blk s H scope (compEnvC scope cl C X.env) fp) ifs tt)
    (he : ∀ (s : Shared) (H : Hp) (C : Addr) (cl : List (PySem.Str × Addr)) (fp : List Addr), PE (X.blk s H scope (compEnvC scope cl C X.env) fp) elt te) (hs : ∀ x, foldedSetIterable iter X.env x = pure x := by intro _; rfl) :
    PE X (.SetComp elt [⟨tg, iter, ifs, 0⟩] scope pos) (tScT X.prog X.w X.K wi g tt te (own.map (·.2))) := by
  refine ⟨fun pins s σ H Q I h => ?_⟩; rw [PpSet.eval_SetComp]
  refine scT_core hu hc hN I hi ok hg ht he hs h fun D C s' m H' I' q hn f => ⟨m, hn, fun h'' sb => ?_⟩; obtain ⟨f0, f1, f2, f3, f4, f5⟩ := f
  exact ⟨.ref D, H', I'.turned (t' := s'.toks) (fun b o hb e => (sb.2 b hb).trans e) f0 f1 f3 f4 f5, rfl, q⟩
theorem _root_.L2.Room.u3 {n : Nat} (hr : Room n X.A) : X.A.units + 3 < cLine := by
  have : X.A.units + 64 < cLine := hr.units
  omega
theorem kScT {P : Program} {w : World} {K : PySem.W.Frag} {e : Expr} {wi : TI} {g : TG} {tt : TT} {te : TE} {vs : List Nat} (h : PE X e (tScT X.prog X.w X.K wi g tt te vs)) (h1 : X.K = K := by rfl) (h2 : X.prog = P := by rfl) (h3 : X.w = w := by rfl) : PE X e (tScT P w K wi g tt te vs) := by
  subst h1 h2 h3; exact h
theorem kSetOfT {P : Program} {w : World} {K : PySem.W.Frag} {n : Nat} (hc : X.calm = true) (hr : Room n X.A) (h1 : X.K = K := by rfl) (h2 : X.prog = P := by rfl) (h3 : X.w = w := by rfl) : CallR X (.type "set") (rSetOfT K P w) := by
  subst h1 h2 h3; exact cr_setOfT hc hr.units
end
end G
/-! ### len of an object by its own __len__ -/
namespace G
open PySem PySem.Spec PyProof.Rows L2
structure LenOf (K : PySem.W.Frag) (C f : Addr) : Prop where
  here : PySem.W.findIn K (.ref C) "__len__" = some (some (.ref f))
  fn : PySem.W.isFn K (.ref f) = true
def lenOB (K : PySem.W.Frag) (C f : Addr) : Bool := He.eqO (PySem.W.findIn K (.ref C) "__len__") (some (some (.ref f))) && PySem.W.isFn K (.ref f)
theorem lenOB_ok {K : PySem.W.Frag} {C f : Addr} (c : lenOB K C f = true) : LenOf K C f := by
  obtain ⟨c1, c2⟩ := He.ba c
  exact ⟨He.eqO_ok c1, c2⟩
def rLenO (K : PySem.W.Frag) (f : Addr) (sp : Sp) (E : XK) : List V → Hp → VK → Prop := fun xs H Q => ∃ a C dx fs, xs = [.ref a] ∧ H a = some (.ins C dx fs) ∧ LenOf K C f ∧ sp [.ref a] H (fun v H' => ∃ n : Nat, v = .int n ∧ n < 1000000 ∧ Q (.int n) H') E
section
variable {X : Cx} {CX : CXT} {n : Nat} {C f : Addr} {fd : FuncData} {ps : List Str} {sp : Sp} {E : XK} {K : PySem.W.Frag}
theorem cLenO (F : FnOk X.prog X.w X.K X.mg X.base CX n f fd ps sp) (hr : Room (n + 1) X.A) (hb : Binds X.K fd ps []) (hx : Passes CX X E) (hK : X.K = K := by rfl) : CallR X (.builtin "len") (rLenO K f sp E) := by
  subst hK
  intro pins s σ H xs us Q I r h
  obtain ⟨a, C, dx, fs, rfl, ha, hlen, h⟩ := h
  obtain ⟨u, rfl, ru⟩ := vals1 r
  obtain rfl : u = Value.ref a := ru
  obtain ⟨mA, J, _⟩ := ins_get I.hok ha
  obtain ⟨od, J, _⟩ := J.look
  obtain ⟨m, hF⟩ := I.fr
  refine PySem.W.len_K hF I.ok.mod.kin J hlen.here hlen.fn ?_
  have hl := F.len _ _ _ _ h
  refine wpAny_call (codeAny_mono (F.run X.A.in1 X.stack s H ⟨[.ref a], []⟩ [.ref a] [.ref a] _ E hr.in1 I.env0.in1 (by
    have := hb s [.ref a] I.kIn (by simpa using hl)
    simpa using this) (.cons rfl .nil) h) fun r s' hq => ?_)
  cases r with
  | error e => exact hx pins σ H s e s' I hq
  | ok fl =>
    cases fl with
    | ret w =>
      obtain ⟨v, H', I', rv, k, rfl, hk, q⟩ := I.after hq
      obtain ⟨t, rfl⟩ := rv
      exact ⟨⟨by omega, by omega⟩, ⟨.int k, H', I'.tok _, ⟨_, rfl⟩, q⟩⟩
    | next => exact False.elim hq
    | brk => exact False.elim hq
    | cont => exact False.elim hq
theorem r_lenO {H : Hp} {Q : VK} {a dx : Addr} {fs : List (Str × V)} (ha : H a = some (.ins C dx fs)) (hl : LenOf K C f) (q : sp [.ref a] H (fun v H' => ∃ n : Nat, v = .int n ∧ n < 1000000 ∧ Q (.int n) H') E) : rLenO K f sp E [.ref a] H Q := ⟨a, C, dx, fs, rfl, ha, hl, q⟩
end
end G
/-! ### calls where no repr is under way: the promise may lean on it -/
namespace G
open PySem PySem.Spec PyProof.Rows L2
abbrev Quiet (A : Around) : Prop := A.guards = some []
theorem quiet_deeper {A : Around} {env : Env} (h : Quiet A) : Quiet (A.deeper env) := h
theorem quiet_in1 {A : Around} (h : Quiet A) : Quiet A.in1 := h
structure FnQ (P : Program) (w : World) (K : PySem.W.Frag) (mg : Str → Option Value) (base : Heap) (CX : CXT) (k : Nat) (f : Addr) (fd : FuncData) (ps : List Str) (sp : Sp) : Prop where
  lenQ : ∀ vs H Q E, sp vs H Q E → vs.length = ps.length
  runQ : ∀ (A : Around) (outer : List Env) (s : Shared) (H : Hp) (args : Args) (us : List Value) (vs : List V) (Q : VK) (E : XK), Quiet A → Room k A →
    Env0 P w K mg base A outer s H → BindsTo s fd args (ps.zip us) → Vals vs us → sp vs H Q E → codeAny (model P w) A (.call (.ref f) args) (CR CX outer P w H s Q E) s
section
variable {P : Program} {w : World} {K : PySem.W.Frag} {mg : Str → Option Value} {base : Heap} {CX : CXT} {k : Nat} {f : Addr} {N ps : List Str} {sp : Sp} {name qual : Str} {params : Arguments} {body : List Stmt} {scope : Scope} {dvs : List V} {kws : List (Str × V)} {fd : FuncData}
theorem FnQ.mono {j : Nat} (F : FnQ P w K mg base CX j f fd ps sp) (h : j ≤ k) : FnQ P w K mg base CX k f fd ps sp := ⟨F.lenQ, fun A outer s H args us vs Q E g hr => F.runQ A outer s H args us vs Q E g (hr.mono h)⟩
theorem FunD.okQ (F : FunD K name qual params body scope dvs kws f fd) (S : FnScope N ps scope) (hlen : ∀ vs H Q E, sp vs H Q E → vs.length = ps.length)
    (hb : ∀ (cdv : Value) (A : Around) (outer : List Env) (s : Shared) (H : Hp) (vs : List V) (Q : VK) (E : XK), Quiet (A.deeper (envOfC qual scope s.heap.objs.size f cdv)) → Room k (A.deeper (envOfC qual scope s.heap.objs.size f cdv)) → sp vs H Q E →
      ∃ t, PSs (cxOf CX P w K mg base N qual scope f cdv A outer s H E) body t ∧ t { nx := fun _ H' => Q .non H', rt := Q } (L2.start N vs) H) : FnQ P w K mg base CX (k + 1) f fd ps sp := by
  obtain ⟨oc, od, dV, kV, doc, pm, an, cdv, ct, osl, rfl, lk, hcd, _, _⟩ := F.ex
  refine ⟨hlen, fun A outer s H args us vs Q E hq hr env hbi hv hsp => ?_⟩
  have old : ∀ b o, base.get? b = some o → s.heap.get? b = some o := fun b o e => (env.bs b o e).1
  have inK := env.mod.kin.keeps old; have noL := env.mod.nolimit.keeps old
  have kinds : ∀ y ∈ ps.zip us, scope.names.lookup y.1 = some .local ∨ (scope.names.lookup y.1 = some .cell ∧ ((cellsFrom (s.heap.objs.size + 1) scope.names []).lookup y.1).isSome = true) := by
    rintro ⟨n, v⟩ hy
    have := S.par n (List.of_mem_zip hy).1
    exact this.elim .inl fun q => .inr ⟨q, PySem.W.cellsFrom_some _ _ _ (.inl q)⟩
  refine codeAny_call_function hr.depth (inK _ _ lk) rfl S.co S.gen rfl (PySem.W.codeRec_of inK hcd) (hbi _ _ _ _ (wpAny_newFunctionEnv_cells S.kind kinds fun env' he s1 x => ?_))
  subst he
  obtain ⟨t, ht, hq2⟩ := hb cdv A outer s H vs Q E (quiet_deeper hq) (hr.deeper _) hsp
  refine ⟨noL.keeps x.toInCall.keep, codeAny_func (wpAny_mono (ht.run [] s1 (L2.start N vs) H _ (inv_start S hr.hd env (hlen _ _ _ _ hsp) hv x) hq2) (fun fl s' hs => ?_) fun _ _ z => z)⟩
  cases fl with
  | ret u => obtain ⟨v, σ', H', J, rv, q⟩ := hs; exact ⟨v, H', J.os, J.bare, J.base, J.hok, rv, q⟩
  | next => obtain ⟨σ', H', J, q⟩ := hs; exact ⟨.non, H', J.os, J.bare, J.base, J.hok, rfl, q⟩
  | brk => obtain ⟨_, _, _, q⟩ := hs; exact q.elim
  | cont => obtain ⟨_, _, _, q⟩ := hs; exact q.elim
end
/-! calls of such functions -/
section
variable {X : Cx} {CX : CXT} {k : Nat} {f : Addr} {fd : FuncData} {ps : List Str} {sp : Sp} {dvs : List V} {ds : List Value} {e : Expr} {es : List Expr} {x : Str} {p pos : Pos} {t : TA} {E : XK}
theorem run_fnQ {A : Around} {pins : List (Addr × Obj)} {σ : L2.St} {H : Hp} {s : Shared} {Q : VK} {us : List Value} {vs : List V} (F : FnQ X.prog X.w X.K X.mg X.base CX k f fd ps sp) (hq : Quiet A) (hr : Room k A) (e0 : Env0 X.prog X.w X.K X.mg X.base A X.stack s H) (hb : Binds X.K fd ps ds) (hd : Vals dvs ds) (hx : Passes CX X E)
    (I : Inv X pins σ H s) (r : Vals vs us) (h : sp (vs ++ dvs) H Q E) : wpAny (model X.prog X.w) A (call (.ref f) us) (EP X pins σ Q) X.xe s := by
  have rr := r.append hd
  have hl : (us ++ ds).length = ps.length := rr.length ▸ F.lenQ _ _ _ _ h
  refine wpAny_call (codeAny_mono (F.runQ A X.stack s H ⟨us, []⟩ _ _ Q E hq hr e0 (hb s us I.kIn hl) rr h) fun res s' hz => ?_)
  match res, hz with
  | .error e, hz => exact hx pins σ H s e s' I hz
  | .ok (.ret u), hz => exact I.after hz
  | .ok .next, hz => exact hz.elim
  | .ok .brk, hz => exact hz.elim
  | .ok .cont, hz => exact hz.elim
theorem pe_callQ (F : FnQ X.prog X.w X.K X.mg X.base CX k f fd ps sp) (hq : Quiet X.A) (hr : Room k X.A) (hg : Gl X x) (hm : X.mg x = some (.ref f)) (hk : PySem.W.keepIn X.K (.ref f) = true) (hb : Binds X.K fd ps ds) (hd : Vals dvs ds) (hx : Passes CX X E) (ha : PA X (e :: es) t)
    (hdb : (x == ("__debug__" : Str)) = false := by decide) (he : starEach (e :: es) X.env = (false, eval e X.env) :: starEach es X.env := by rfl) (hpl : (backTo pos (starEach es X.env)).any (·.1) = false := by rfl) : PE X (.Call (.Name x p) (e :: es) [] pos) (tCall sp dvs E t) :=
  ⟨fun pins s σ H Q I h => wpAny_Call_Name_kw (ld_glob I hg hm (PySem.W.callWith_K (h₀ := X.base) I.ok.mod.kin hk (thn (ha.run pos pins s σ H _ I h) fun us s1 ⟨vs, H1, I1, r, q⟩ => ⟨I1.kIn, run_fnQ F hq hr I1.env0 hb hd hx I1 r q⟩) he hpl) hdb)⟩
end
/-! repr of data -/
section
variable {X : Cx} {K : PySem.W.Frag}
def rRepr (K : PySem.W.Frag) : List V → Hp → VK → Prop := fun xs H Q => ∃ (a : Addr) (d : PyData), xs = [.ref a] ∧ Dp K H (.ref a) d ∧ d.showable = true ∧ d.hasDict = false ∧ d.depth ≤ 60 ∧ d.shown.length ≤ sizeLine ∧ Q (.str d.shown) H
theorem cReprD (hq : Quiet X.A) (hu : X.A.units + 64 < cLine) (hK : X.K = K := by rfl) : CallR X (.builtin "repr") (rRepr K) := by
  subst hK
  intro pins s σ H xs us Q I r h
  obtain ⟨a, d, rfl, hd, hs, hn, hdp, hl, q⟩ := h
  obtain ⟨u, rfl, ru⟩ := vals1 r
  obtain rfl : u = Value.ref a := ru
  obtain ⟨as, rd⟩ := Dp.reads I d _ _ hd rfl
  exact repr_of_reads' rd hs (fun z => absurd z (by rw [hn]; decide)) hq (by omega) (fun _ _ z => z) (fun h' u tk hk => ⟨.str _, H, I.kept hk, ⟨_, rfl⟩, q⟩) hl
theorem r_reprD {H : Hp} {Q : VK} {a : Addr} {d : PyData} (hd : Dp K H (.ref a) d) (hs : d.showable = true) (hn : d.hasDict = false) (hdp : d.depth ≤ 60) (hl : d.shown.length ≤ sizeLine) (q : Q (.str d.shown) H) : rRepr K [.ref a] H Q := ⟨a, d, rfl, hd, hs, hn, hdp, hl, q⟩
end
end G
/-! ### the law's own call, where the law's promise leans on Quiet -/
namespace G
open PySem PySem.Spec PyProof.Rows L2
section
variable {P : Program} {w : World} {K : PySem.W.Frag} {mg mb : Str → Option Value} {CX : CXT} {k : Nat} {fa a : Addr} {fd : FuncData} {x : Str} {sp : Sp} {s1 : Shared} {vs : List Value} {ns : List Int}
abbrev LawEnd (s1 : Shared) : Result → Shared → Prop := fun r s' => r = .ok (.ret (.bool true)) ∧ OldK s1.heap s'.heap ∧ s'.os = s1.os ∧ AllBare s'.gens
/-- from a heap in which at most the script is tracked -/
theorem lawQ_core (X0 : K.In s1.heap) (hns : s1.heap.Ns mainGlobals mg) (hbn : s1.heap.Ns builtinsNs mb) (hbb : ∀ x : Str, x ≠ "__name__" → mb x = bootBuiltins x) (hlim : s1.heap.NoLimit) (hgen : s1.gens = #[])
    (ha : s1.heap.get? a = some { cls := .type "list", data := .seq vs.toArray }) (hr : Room k callerA)
    (F : ∀ base : Heap, K.In base → base.Ns mainGlobals mg → FnQ P w K mg base CX k fa fd [x] sp) (hbind : ∀ (s : Shared) (u : Value), BindsTo s fd ⟨[u], []⟩ [(x, u)])
    (hCX : ∀ H e s', CX [] H s1 (fun _ _ _ => False) e s' → False)
    (H : Hp) (hO : Only H) (hp : sp [.ref a] H (fun v _ => v = .bl true) fun _ _ _ => False) (hok : HOk P w H s1.heap) (hA : ∀ b, H b ≠ none → b = a) (hK : H a ≠ none → K.lookup a = none) :
    codeAny (model P w) callerA (.call (.ref fa) ⟨[.ref a], []⟩) (LawEnd s1) s1 := by
  have out : ∀ {b : Addr}, b ≠ a → H b = none := fun {b} n => by
    cases q : H b with
    | none => rfl
    | some u => exact absurd (hA b (by rw [q]; exact fun z => nomatch z)) n
  have inB : ∀ {b : Addr} {o : Obj}, s1.heap.get? b = some o → H b = none → (hidT s1.heap H).get? b = some o := hidT_get
  have nsB : ∀ {b : Addr} {m : Str → Option Value}, s1.heap.Ns b m → (hidT s1.heap H).Ns b m := fun {b m} ⟨o, es, ep, e, d, r⟩ => ⟨o, es, ep, inB e (out fun z => by subst z; rw [ha] at e; cases e; cases d), d, r⟩
  have kinB : K.In (hidT s1.heap H) := fun b o e => inB (X0 b o e) (by
    by_cases z : b = a
    · subst z
      cases q : H b with
      | none => rfl
      | some u => rw [hK (by rw [q]; exact fun z => nomatch z)] at e; cases e
    · exact out z)
  obtain ⟨mc, n1, n2⟩ := hlim
  have env : Env0 P w K mg (hidT s1.heap H) callerA [] s1 H := by
    refine ⟨rfl, ⟨kinB, nsB hns, ⟨mb, nsB hbn, hbb⟩, ⟨mc, nsB n1, n2⟩⟩, fun b o e => of_hidT e, Nat.le_of_eq (hidT_size _ _), trivial, fun b hb => ?_, hok, .of_eq hgen⟩
    exact absurd (show b ∈ ([] : List Addr) from hb) (by simp)
  refine codeAny_mono ((F _ kinB (nsB hns)).runQ callerA [] s1 H ⟨[.ref a], []⟩ [.ref a] [.ref a] _ _ rfl hr env (hbind s1 (.ref a)) (.cons rfl .nil) hp) fun r s' hz => ?_
  match r, hz with
  | .error e, hz => exact (hCX H e s' hz).elim
  | .ok .next, hz => exact hz.elim
  | .ok .brk, hz => exact hz.elim
  | .ok .cont, hz => exact hz.elim
  | .ok (.ret u), hz =>
    obtain ⟨v, H', os, bare, un, hok', rv, (ev : v = .bl true)⟩ := hz
    subst ev
    obtain rfl : u = Value.bool true := rv
    refine ⟨rfl, OldK.of_keep fun b o e => ?_, os, bare⟩
    rcases hO b with z | ⟨ob, xs, z⟩
    · exact un.keep b o e z (fun y => absurd (show b ∈ ([] : List Addr) from y) (by simp)) (by simp)
    · have g1 := (hok b _ z).1; have g2 := (hok' b _ (un.frzs b ob _ z)).1
      rw [g2, ← g1, e]
theorem lawQ (X0 : K.In s1.heap) (hns : s1.heap.Ns mainGlobals mg) (hbn : s1.heap.Ns builtinsNs mb) (hbb : ∀ x : Str, x ≠ "__name__" → mb x = bootBuiltins x) (hlim : s1.heap.NoLimit) (hgen : s1.gens = #[])
    (ha : s1.heap.get? a = some { cls := .type "list", data := .seq vs.toArray }) (hi : IntsAre vs ns) (hl : ns.length ≤ sizeLine) (hr : Room k callerA)
    (F : ∀ base : Heap, K.In base → base.Ns mainGlobals mg → FnQ P w K mg base CX k fa fd [x] sp) (hbind : ∀ (s : Shared) (u : Value), BindsTo s fd ⟨[u], []⟩ [(x, u)])
    (hsp : ∀ H : Hp, Only H → SqL K H a (ns.map V.int) → sp [.ref a] H (fun v _ => v = .bl true) fun _ _ _ => False) (hCX : ∀ H e s', CX [] H s1 (fun _ _ _ => False) e s' → False) :
    codeAny (model P w) callerA (.call (.ref fa) ⟨[.ref a], []⟩) (LawEnd s1) s1 := by
  have rv := vals_ints hi
  have go := lawQ_core X0 hns hbn hbb hlim hgen ha hr F hbind hCX
  cases hk : K.lookup a with
  | some o =>
    obtain rfl : o = { cls := .type "list", data := .seq vs.toArray } := by have e := X0 a o hk; rw [ha] at e; exact (Option.some.inj e).symm
    refine go (fun _ => none) (fun _ => .inl rfl) (hsp _ (fun _ => .inl rfl) (.inr ⟨_, vs.toArray, _, hk, rfl, rfl, rfl, ?_, by simpa using rv⟩)) (fun b u z => nomatch z) (fun b z => absurd rfl z) fun z => absurd rfl z
    rw [List.size_toArray, hi.length]; exact hl
  | none =>
    have only : Only (fun b => if b = a then some (HO.frz { cls := .type "list", data := .seq vs.toArray } (.lst (ns.map V.int))) else none) := fun b => by
      by_cases z : b = a
      · exact .inr ⟨_, _, if_pos z⟩
      · exact .inl (if_neg z)
    refine go _ only (hsp _ only (.inl (.inr ⟨{ cls := .type "list", data := .seq vs.toArray }, if_pos rfl⟩))) (fun b u z => ?_) (fun b z => ?_) fun _ => hk
    · by_cases y : b = a
      · subst y
        cases (if_pos rfl).symm.trans z
        exact ⟨ha, (List.length_map (as := ns) V.int).symm ▸ hl, vs, _, rv, ha⟩
      · cases (if_neg y).symm.trans z
    · exact Decidable.byContradiction fun y => z (if_neg y)
end
theorem walk_ofQ {l : PySem.W.OpenLaw} {n k : Nat} {q : Program} {loose : List Str} {XP : (Str → Option Value) → Heap → Prop} {YP : World → Heap → Prop} {d : DefRec} {CX : CXT} {x : Str}
    (hn : l.most = some n) (hn2 : n ≤ sizeLine) (hdf : d.params.defaults = []) (hr : Room k callerA)
    (F : ∀ (w : World) (mg : Str → Option Value) (fa : Addr) (h : Heap), YP w h → h.Ns mainGlobals mg → mg d.name = some (.ref fa) → ∃ (K : PySem.W.Frag) (fd : FuncData) (sp : Sp), K.In h ∧ (∀ (s : Shared) (u : Value), BindsTo s fd ⟨[u], []⟩ [(x, u)]) ∧
        (∀ (H : Hp) (a : Addr) (ns : List Int), ns.length ≤ n → Only H → SqL K H a (ns.map V.int) → sp [.ref a] H (fun v _ => v = .bl true) fun _ _ _ => False) ∧ ∀ base : Heap, K.In base → base.Ns mainGlobals mg → FnQ l.prog w K mg base CX k fa fd [x] sp)
    (hCX : ∀ (H : Hp) (s : Shared) (e : Value) (s' : Shared), CX [] H s (fun _ _ _ => False) e s' → False) : PySem.W.WalkO q loose XP YP l.row.toRowW d [] (fun f vs => PySem.call f vs) := by
  refine Att.attach_call hn hdf fun w s0 s1 mg mb fa o pm cd doc a vs ns Gr Y ho hd hcd hmg hobj hints hlen hg => ?_
  obtain ⟨K, fd, sp, X0, hb, hsp, hF⟩ := F w mg fa _ Y Gr.T.g hmg
  exact lawQ X0 Gr.T.g Gr.T.b Gr.T.builtins Gr.T.nolimit hg hobj hints (Nat.le_trans hlen hn2) hr hF hb (fun H hO hS => hsp H a ns hlen hO hS) fun H e s' => hCX H s1 e s'
end G
/-! ### static methods; repr of an object by its own __repr__; texts put together -/
namespace G
open PySem PySem.Spec PyProof.Rows L2
/-- C.m is a staticmethod: its record at p, its def at g -/
structure SMet (K : PySem.W.Frag) (C : Addr) (m : Str) (p g : Addr) : Prop where
  here : PySem.W.findCls K (.ref C) (.type "type") m = some (.get (.builtin "staticmethod.__get__") (.ref p) .none (.ref C))
  rc : ∃ rest, PySem.W.recIn K p "staticmethod" = some (.ref g :: rest)
  kp : PySem.W.keepIn K (.ref g) = true
def smetB (K : PySem.W.Frag) (C : Addr) (m : Str) : Bool := He5.wrapB K C "staticmethod" "staticmethod.__get__" m && PySem.W.keepIn K (.ref (He5.wf K C "staticmethod" m))
theorem smetB_ok {K : PySem.W.Frag} {C : Addr} {m : Str} (c : smetB K C m = true) : SMet K C m (He.ma K C m) (He5.wf K C "staticmethod" m) := by
  obtain ⟨c1, c2⟩ := He.ba c
  obtain ⟨h1, h2⟩ := He5.wrapB_ok c1
  exact ⟨h1, h2, c2⟩
section
variable {X : Cx} {CX : CXT} {k : Nat} {C p g : Addr} {m : Str} {sp : Sp} {E : L2.St → XK} {o e : Expr} {es : List Expr} {apos pos : Pos} {ta : TE} {t : TA}
def tSMeth (C : Addr) (sp : Sp) (E : L2.St → XK) (ta : TE) (t : TA) : TE := fun σ H Q => ta σ H fun x H1 => x = .ref C ∧ t σ H1 fun vs H2 => sp vs H2 Q (E σ)
theorem pe_smeth {pl : Sem Bool} (he : PE X o ta) (r : ClX.CRead X.K C (.type "type")) (c : SMet X.K C m p g) (F : FnR X.prog X.w X.K X.mg X.base CX k g sp) (hr : Room k X.A) (hx : ∀ σ, PassesAt CX X σ (E σ)) (ha : PA X (e :: es) t)
    (hst : starEach (e :: es) X.env = (false, eval e X.env) :: starEach es X.env := by rfl) (hpl : (backTo pos (starEach es X.env)).any (·.1) = false := by rfl)
    (ht : eval (.Call (.Attribute o m apos) (e :: es) [] pos) X.env = (do
      let ov ← eval o X.env
      standAt apos.atName
      let (f, first) ← holding [ov] (getMethod ov m pl)
      callWith pos f first (backTo pos (starEach (e :: es) X.env)) (backToKw pos (keywordEach [] X.env))) := by rfl) : PE X (.Call (.Attribute o m apos) (e :: es) [] pos) (tSMeth C sp E ta t) := by
  refine ⟨fun pins s σ H Q I h => ?_⟩
  refine PySem.W.methodCall_KW (pl := pl) (thn (he.run pins s σ H _ I h) fun u s1 ⟨x, H1, I1, rx, ex, q⟩ => ?_) ht
  subst ex; obtain rfl : u = Value.ref C := rx
  obtain ⟨rest, hp⟩ := c.rc
  refine PySem.W.method_cls I1.kIn r.ga (PySem.W.cls_bind I1.kIn r.rd c.here (wpAny_call (PySem.W.sm_get (s := { s1 with toks := s1.toks + 1 }) I1.kIn hp (PySem.W.handed_on rfl ?_))))
  refine PySem.W.callWith_K (first := []) (h₀ := X.base) I.ok.mod.kin c.kp (thn (ha.run pos pins _ σ H1 _ (I1.tok _) q) fun us s2 ⟨vs, H2, I2, r2, q2⟩ => ⟨I2.kIn, ?_⟩) hst hpl
  exact run_fnRS F hr (hx σ) I2 r2 q2
end
theorem r_smeth {C : Addr} {sp : Sp} {E : L2.St → XK} {ta : TE} {t : TA} {σ : L2.St} {H : Hp} {Q : VK} (q : ta σ H fun x H1 => x = .ref C ∧ t σ H1 fun vs H2 => sp vs H2 Q (E σ)) : tSMeth C sp E ta t σ H Q := q
/-! repr of objects -/
structure ReprOf (K : PySem.W.Frag) (C f : Addr) : Prop where
  here : PySem.W.findIn K (.ref C) "__repr__" = some (some (.ref f))
  fn : PySem.W.isFn K (.ref f) = true
def reprOB (K : PySem.W.Frag) (C f : Addr) : Bool := He.eqO (PySem.W.findIn K (.ref C) "__repr__") (some (some (.ref f))) && PySem.W.isFn K (.ref f)
theorem reprOB_ok {K : PySem.W.Frag} {C f : Addr} (c : reprOB K C f = true) : ReprOf K C f := by
  obtain ⟨c1, c2⟩ := He.ba c
  exact ⟨He.eqO_ok c1, c2⟩
theorem FnOk.q {P : Program} {w : World} {K : PySem.W.Frag} {mg : Str → Option Value} {base : Heap} {CX : CXT} {k : Nat} {f : Addr} {fd : FuncData} {ps : List Str} {sp : Sp} (F : FnOk P w K mg base CX k f fd ps sp) : FnQ P w K mg base CX k f fd ps sp :=
  ⟨F.len, fun A outer s H args us vs Q E _ hr e0 hb hv h => F.run A outer s H args us vs Q E hr e0 hb hv h⟩
def rReprO (K : PySem.W.Frag) (f : Addr) (sp : Sp) (E : XK) : List V → Hp → VK → Prop := fun xs H Q => ∃ a C dx fs, xs = [.ref a] ∧ H a = some (.ins C dx fs) ∧ ReprOf K C f ∧ sp [.ref a] H (fun v H' => ∃ z : Str, v = .str z ∧ Q (.str z) H') E
section
variable {X : Cx} {CX : CXT} {n : Nat} {C f : Addr} {fd : FuncData} {ps : List Str} {sp : Sp} {E : XK} {K : PySem.W.Frag}
theorem cReprO (F : FnQ X.prog X.w X.K X.mg X.base CX n f fd ps sp) (hq : Quiet X.A) (hr : Room (n + 1) X.A) (hb : Binds X.K fd ps []) (hx : Passes CX X E) (hK : X.K = K := by rfl) : CallR X (.builtin "repr") (rReprO K f sp E) := by
  subst hK
  intro pins s σ H xs us Q I r h
  obtain ⟨a, C, dx, fs, rfl, ha, hre, h⟩ := h
  obtain ⟨u, rfl, ru⟩ := vals1 r
  obtain rfl : u = Value.ref a := ru
  obtain ⟨mA, J, _⟩ := ins_get I.hok ha
  obtain ⟨od, J, _⟩ := J.look
  obtain ⟨m, hF⟩ := I.fr
  have hu : X.A.in1.units < cLine := by have := hr.un; show X.A.units + 1 < _; omega
  refine PySem.W.repr_K hu hF I.ok.mod.kin J hre.here hre.fn (wpAny_mono (run_fnQ (dvs := []) (ds := []) F (quiet_in1 hq) hr.in1 I.env0.in1 hb .nil hx I (us := [.ref a]) (vs := [.ref a]) (.cons rfl .nil) h) (fun v s' z => ?_) fun _ _ z => z)
  obtain ⟨w', H', I', rw', z, rfl, q⟩ := z
  obtain ⟨t, rfl⟩ := rw'
  exact ⟨.str z, H', I', ⟨t, rfl⟩, q⟩
theorem r_reprO {H : Hp} {Q : VK} {a dx : Addr} {fs : List (Str × V)} (ha : H a = some (.ins C dx fs)) (hl : ReprOf K C f) (q : sp [.ref a] H (fun v H' => ∃ z : Str, v = .str z ∧ Q (.str z) H') E) : rReprO K f sp E [.ref a] H Q := ⟨a, C, dx, fs, rfl, ha, hl, q⟩
/-! f'..' -/
def tJoined (ts : List TE) : TE := fun σ H Q => tJs ts Str.empty σ H fun out H1 => Q (.str out) H1
theorem pe_fstr {v1 v2 : Expr} {rest : List Expr} {ts : List TE} {pos : Pos} (h : PJ X (v1 :: v2 :: rest) ts) : PE X (.JoinedStr (v1 :: v2 :: rest) pos) (tJoined ts) := pe_joined h
theorem r_joined {ts : List TE} {σ : L2.St} {H : Hp} {Q : VK} (q : tJs ts Str.empty σ H fun out H1 => Q (.str out) H1) : tJoined ts σ H Q := q
theorem r_jNil {acc : Str} {σ : L2.St} {H : Hp} {R : Str → Hp → Prop} (q : R acc H) : tJs [] acc σ H R := q
theorem r_jLit {acc x : Str} {ts : List TE} {σ : L2.St} {H : Hp} {R : Str → Hp → Prop} (hl : (acc ++ x).length ≤ sizeLine) (q : tJs ts (acc ++ x) σ H R) : tJs (tC (.str x) :: ts) acc σ H R := ⟨x, rfl, hl, q⟩
theorem r_jInt {acc : Str} {i : Nat} {n : Int} {ts : List TE} {σ : L2.St} {H : Hp} {R : Str → Hp → Prop} (h : σ[i]? = some (some (.int n))) (hn : n.natAbs.log2 < 1920) (hl : (acc ++ (toString n : Str)).length ≤ sizeLine) (q : tJs ts (acc ++ (toString n : Str)) σ H R) : tJs (tFmt (tVar i) :: ts) acc σ H R :=
  ⟨.int n, h, .inr ⟨n, rfl, hn, _, rfl, hl, q⟩⟩
end
/-! arguments by name -/
def pickG (idx : List Nat) {α : Type} (us ds ws : List α) : List α := us ++ idx.filterMap fun i => (ws ++ ds)[i]?
theorem vals_pick (idx : List Nat) {vs ds zs : List V} {us its ws : List Value} (r1 : Vals vs us) (r2 : Vals ds its) (r3 : Vals zs ws) : Vals (pickG idx vs ds zs) (pickG idx us its ws) := by
  refine r1.append ?_
  have r := r3.append r2
  generalize zs ++ ds = a at r ⊢; generalize ws ++ its = b at r ⊢
  induction idx with
  | nil => exact .nil
  | cons i idx ih =>
    rcases Nat.lt_or_ge i a.length with h | h
    · obtain ⟨u, hu, ru⟩ := r.get (List.getElem?_eq_getElem h)
      rw [List.filterMap_cons, List.filterMap_cons, List.getElem?_eq_getElem h, hu]
      exact .cons ru ih
    · rw [List.filterMap_cons, List.filterMap_cons, List.getElem?_eq_none h, List.getElem?_eq_none (by rw [← r.length]; exact h)]
      exact ih
end G
/-! f'{x!r}' of data -/
namespace G
open PySem PySem.Spec PyProof.Rows L2
def tFmtD (K : PySem.W.Frag) (te : TE) : TE := fun σ H Q => te σ H fun x H1 => ∃ (a : Addr) (d : PyData), x = .ref a ∧ Dp K H1 (.ref a) d ∧ d.showable = true ∧ d.hasDict = false ∧ d.depth ≤ 60 ∧ d.shown.length ≤ sizeLine ∧ Q (.str d.shown) H1
theorem kFmtR {X : Cx} {K : PySem.W.Frag} {e : Expr} {te : TE} {pos : Pos} (hq : Quiet X.A) (hu : X.A.units + 64 < cLine) (he : PE X e te) (hK : X.K = K := by rfl) : PE X (.FormattedValue e 114 none pos) (tFmtD K te) := by
  subst hK
  refine ⟨fun pins s σ H Q I h => wpAny_FormattedValue_repr (thn (he.run pins s σ H _ I h) fun v s1 ⟨x, H1, I1, r1, a, d, ex, hd, hs, hn, hdp, hl, q⟩ => ?_)⟩
  subst ex; obtain rfl : v = Value.ref a := r1
  obtain ⟨as, rd⟩ := Dp.reads I1 d _ _ hd rfl
  refine pyReprObj_of_reads rd hs (fun z => absurd z (by rw [hn]; decide)) hq (by omega) (fun _ _ z => z) (fun h' u tk hk => ?_) hl
  have I2 : ∀ t', Inv X pins σ H1 { s1 with heap := h', toks := t' } := fun t' => I1.kept (t' := t') hk
  exact wpAny_formatField_str ⟨.str _, H1, I2 _, ⟨_, rfl⟩, q⟩ ⟨.str _, H1, I2 _, ⟨_, rfl⟩, q⟩ hl
theorem r_jD {K : PySem.W.Frag} {te : TE} {acc : Str} {ts : List TE} {σ : L2.St} {H : Hp} {R : Str → Hp → Prop} (q : te σ H fun x H1 => ∃ (a : Addr) (d : PyData), x = .ref a ∧ Dp K H1 (.ref a) d ∧ d.showable = true ∧ d.hasDict = false ∧ d.depth ≤ 60 ∧ d.shown.length ≤ sizeLine ∧ (acc ++ d.shown).length ≤ sizeLine ∧ tJs ts (acc ++ d.shown) σ H1 R)
    (mono : ∀ Q1 Q2 : VK, (∀ v H', Q1 v H' → Q2 v H') → te σ H Q1 → te σ H Q2) : tJs (tFmtD K te :: ts) acc σ H R := by
  refine mono _ _ (fun v H' z => ?_) q
  obtain ⟨a, d, rfl, h1, h2, h3, h4, h5, h6, h7⟩ := z
  exact ⟨a, d, rfl, h1, h2, h3, h4, h5, _, rfl, h6, h7⟩
end G
/-! ### == and != where the right object's class is a subclass of the left one's: its own method comes first -/
namespace G
open PySem PySem.Spec PyProof.Rows L2
theorem neB_ok {a b : Addr} (h : (!decide (a = b)) = true) : a ≠ b := fun z => by subst z; simp at h
section
variable {prog : Program} {w : World} {A : Around} {E : Value → Shared → Prop} {s : Shared} {K : PySem.W.Frag} {x y C D f : Addr} {ox oy : Obj} {od oe : Option Obj}
theorem first_K {op : CmpOp} {Q : Value → Shared → Prop} (hu : A.units < cLine) (X : K.In s.heap) (I : PySem.W.InstAt s.heap x ox C od) (J : PySem.W.InstAt s.heap y oy D oe) (hne : D ≠ C) (hs : PySem.W.subIn K (.ref D) (.ref C) = some true)
    (one : wpAny (model prog w) A (tryCompare (.ref y) (cmpInfo op).2.2 (.ref x)) (fun r s' => ∃ v, r = some v ∧ Q v s') E s) : wpAny (model prog w) A (richCompare op (.ref x) (.ref y)) Q E s := by
  unfold richCompare
  simp only [oneThing_ref]
  refine wpAny_holding (wpAny_bind (wpAny_cRoomFor hu (wpAny_bind (I.type.here (wpAny_bind (J.type.here ?_))))))
  have q : ((Value.ref C) != (Value.ref D)) = true := by
    rw [bne_iff_ne]; intro z; cases z; exact hne rfl
  rw [if_pos q]
  refine wpAny_bind ((PySem.W.looks_subIn X hs).here ?_)
  simp only [if_true]
  refine wpAny_bind (wpAny_mono one (fun r s' z => ?_) fun _ _ e => e)
  obtain ⟨v, rfl, hq⟩ := z
  first | exact wpAny_pure hq | exact wpAny_bind (wpAny_pure (wpAny_pure hq)) | (repeat (first | exact hq | exact wpAny_pure hq | wp_step))
theorem eqF_K {Q : Value → Shared → Prop} (hu : A.units < cLine) (X : K.In s.heap) (I : PySem.W.InstAt s.heap x ox C od) (J : PySem.W.InstAt s.heap y oy D oe) (hne : D ≠ C) (hs : PySem.W.subIn K (.ref D) (.ref C) = some true)
    (he : PySem.W.findIn K (.ref D) "__eq__" = some (some (.ref f))) (hf : PySem.W.isFn K (.ref f) = true) (hcall : wpAny (model prog w) A (call (.ref f) [.ref y, .ref x]) (fun v s' => ∃ c, v = .bool c ∧ Q (.bool c) s') E s) :
    wpAny (model prog w) A (richCompare .Eq (.ref x) (.ref y)) Q E s := by
  refine first_K (op := .Eq) hu X I J hne hs ?_
  show wpAny (model prog w) A (tryCompare (.ref y) "__eq__" (.ref x)) _ E s
  unfold tryCompare
  refine wpAny_bind (PySem.W.ifBound_K X J he hf (wpAny_mono hcall (fun v s' hv => ?_) fun _ _ e => e))
  obtain ⟨c, rfl, hq⟩ := hv
  exact wpAny_pure ⟨_, rfl, hq⟩
theorem neF_K {Q : Value → Shared → Prop} (hu : A.units + 1 < cLine) (X : K.In s.heap) (I : PySem.W.InstAt s.heap x ox C od) (J : PySem.W.InstAt s.heap y oy D oe) (hne : D ≠ C) (hs : PySem.W.subIn K (.ref D) (.ref C) = some true)
    (hnn : PySem.W.findIn K (.ref D) "__ne__" = some (some (.builtin "object.__ne__"))) (he : PySem.W.findIn K (.ref D) "__eq__" = some (some (.ref f))) (hf : PySem.W.isFn K (.ref f) = true) (hm : PySem.W.mroIn K D (.type "object") = some true)
    (hcall : wpAny (model prog w) A.in1 (call (.ref f) [.ref y, .ref x]) (fun v s' => ∃ c, v = .bool c ∧ Q (.bool (!c)) s') E s) : wpAny (model prog w) A (richCompare .NotEq (.ref x) (.ref y)) Q E s := by
  refine first_K (op := .NotEq) (Nat.lt_of_succ_lt hu) X I J hne hs ?_
  show wpAny (model prog w) A (tryCompare (.ref y) "__ne__" (.ref x)) _ E s
  unfold tryCompare
  refine wpAny_bind (ifBound_ne X J hnn (wpAny_call (codeAny_call_builtin F.cmp_object.ne.plain F.cmpEntry_ne (PySem.W.check_slot F.cmpKind_ne F.cmpSplit_ne (J.type.andThen (PySem.W.looks_mroIn X hm)) (F.cmpArgs_ne _ _)
    (objNe_at (A := A.in1) X J he hf hu (wpAny_mono hcall (fun v s' hv => ?_) fun _ _ e => e))))))
  obtain ⟨c, rfl, hq⟩ := hv
  first | exact ⟨c, rfl, wpAny_pure ⟨_, rfl, hq⟩⟩ | exact ⟨c, rfl, wpAny_pure (wpAny_pure ⟨_, rfl, hq⟩)⟩ | exact ⟨c, rfl, ⟨_, rfl, hq⟩⟩
end
/-- how an object of the class C meets y: the left one's method, or that of the subclass -/
inductive Meets (K : PySem.W.Frag) (H : Hp) (f C : Addr) (a : Addr) : V → List V → Prop where
  | left {y : V} {t : Value} : TyX K H y t → PySem.W.notFirst K C t = true → Meets K H f C a y [.ref a, y]
  | right {b D dy : Addr} {gs : List (Str × V)} : H b = some (.ins D dy gs) → OEq K D f → D ≠ C → PySem.W.subIn K (.ref D) (.ref C) = some true → Meets K H f C a (.ref b) [.ref b, .ref a]
def rEqP (K : PySem.W.Frag) (f : Addr) (sp : Sp) (E : XK) : R2 := fun x y H Q => ∃ a C dx fs vs, x = .ref a ∧ H a = some (.ins C dx fs) ∧ OEq K C f ∧ Meets K H f C a y vs ∧ sp vs H (fun v H' => ∃ b, v = .bl b ∧ Q (.bl b) H') E
def rNeP (K : PySem.W.Frag) (f : Addr) (sp : Sp) (E : XK) : R2 := fun x y H Q => ∃ a C dx fs vs, x = .ref a ∧ H a = some (.ins C dx fs) ∧ OEq K C f ∧ Meets K H f C a y vs ∧ sp vs H (fun v H' => ∃ b, v = .bl b ∧ Q (.bl (!b)) H') E
section
variable {X : Cx} {CX : CXT} {n : Nat} {C f : Addr} {fd : FuncData} {ps : List Str} {sp : Sp} {E : XK} {K : PySem.W.Frag}
theorem op_eqP (F : FnOk X.prog X.w X.K X.mg X.base CX n f fd ps sp) (hr : Room n X.A) (hb : Binds X.K fd ps []) (hx : Passes CX X E) (hK : X.K = K := by rfl) : OpR X (compareOp .Eq) (rEqP K f sp E) := by
  subst hK
  intro pins s σ H x y u v Q I rx ry h
  obtain ⟨a, C, dx, fs, vs, rfl, ha, o, hm, h⟩ := h
  cases rx
  obtain ⟨mA, J, _⟩ := ins_get I.hok ha
  obtain ⟨od, J, _⟩ := J.look
  show wpAny (model X.prog X.w) X.A (richCompare .Eq (.ref a) v) (EP X pins σ Q) X.xe s
  cases hm with
  | left ty hn =>
    obtain ⟨P, Z, p, _⟩ := kit_of I ry ty
    obtain ⟨m, hF⟩ := I.fr
    refine PySem.W.cmp_K (op := .Eq) hr.units0 hF I.ok.mod.kin J (Z.ty _ _ I.kIn p) hn o.eq o.fn ?_
    refine thn (run_eqO (x := .ref a) F hr I.env0 hb hx I rfl ry h) fun r s' z => ?_
    obtain ⟨w, H', I', rw', b, rfl, q⟩ := z
    cases rw'
    exact ⟨.bl b, H', I', rfl, q⟩
  | @right b0 D0 dy0 gs0 hbo oD hne hs =>
    cases ry
    obtain ⟨mB, J2, _⟩ := ins_get I.hok hbo
    obtain ⟨oe, J2, _⟩ := J2.look
    refine eqF_K hr.units0 I.kIn J J2 hne hs oD.eq oD.fn ?_
    refine thn (run_eqO (x := .ref b0) (y := .ref a) F hr I.env0 hb hx I rfl rfl h) fun r s' z => ?_
    obtain ⟨w, H', I', rw', b, rfl, q⟩ := z
    cases rw'
    exact ⟨b, rfl, .bl b, H', I', rfl, q⟩
theorem op_neP (F : FnOk X.prog X.w X.K X.mg X.base CX n f fd ps sp) (hr : Room (n + 1) X.A) (hb : Binds X.K fd ps []) (hx : Passes CX X E) (hK : X.K = K := by rfl) : OpR X (compareOp .NotEq) (rNeP K f sp E) := by
  subst hK
  intro pins s σ H x y u v Q I rx ry h
  obtain ⟨a, C, dx, fs, vs, rfl, ha, o, hm, h⟩ := h
  cases rx
  obtain ⟨mA, J, _⟩ := ins_get I.hok ha
  obtain ⟨od, J, _⟩ := J.look
  have hu : X.A.units + 1 < cLine := Nat.lt_of_le_of_lt (Nat.add_le_add_left (by decide : 1 ≤ 64) _) hr.units
  show wpAny (model X.prog X.w) X.A (richCompare .NotEq (.ref a) v) (EP X pins σ Q) X.xe s
  cases hm with
  | left ty hn =>
    obtain ⟨P, Z, p, _⟩ := kit_of I ry ty
    refine ne_K hu I.kIn J (Z.ty _ _ I.kIn p) hn o.ne o.eq o.fn o.ob ?_
    refine thn (run_eqO (x := .ref a) F hr.in1 I.env0.in1 hb hx I rfl ry h) fun r s' z => ?_
    obtain ⟨w, H', I', rw', b, rfl, q⟩ := z
    cases rw'
    exact ⟨b, rfl, .bl (!b), H', I', rfl, q⟩
  | @right b0 D0 dy0 gs0 hbo oD hne hs =>
    cases ry
    obtain ⟨mB, J2, _⟩ := ins_get I.hok hbo
    obtain ⟨oe, J2, _⟩ := J2.look
    refine neF_K hu I.kIn J J2 hne hs oD.ne oD.eq oD.fn oD.ob ?_
    refine thn (run_eqO (x := .ref b0) (y := .ref a) F hr.in1 I.env0.in1 hb hx I rfl rfl h) fun r s' z => ?_
    obtain ⟨w, H', I', rw', b, rfl, q⟩ := z
    cases rw'
    exact ⟨b, rfl, .bl (!b), H', I', rfl, q⟩
end
end G
/-! ### xs[lo:hi:step] of a list -/
namespace G
open PySem PySem.Spec PyProof.Rows L2
def stepV {α : Type} (xs : List α) (lo hi st : Option Int) : List α := (sliceRange (sliceBounds lo hi st xs.length).1 (sliceBounds lo hi st xs.length).2.1 (sliceBounds lo hi st xs.length).2.2).filterMap (xs[·]?)
def tSlX (K : PySem.W.Frag) (te : TE) (tl th tt : TO) : TE := fun σ H Q => te σ H fun x H1 => tl σ H1 fun l H2 => th σ H2 fun u H3 => tt σ H3 fun s H4 => ∃ a xs, x = .ref a ∧ SqL K H4 a xs ∧ s ≠ some 0 ∧ ∀ p, H4 p = none → Q (.ref p) (upd H4 p (.lst (stepV xs l u s)))
theorem vals_pickL : ∀ (is : List Nat) {vs : List V} {us : List Value}, Vals vs us → Vals (is.filterMap (vs[·]?)) (is.filterMap (us[·]?))
  | [], _, _, _ => .nil
  | i :: is, vs, us, r => by
    have ih := vals_pickL is r
    rw [List.filterMap_cons, List.filterMap_cons]
    cases e : vs[i]? with
    | none =>
      rw [Vals.none_of r e]; exact ih
    | some v =>
      obtain ⟨u, e2, ru⟩ := Vals.get r e
      rw [e2]
      exact .cons ru ih
theorem pe_slx {X : Cx} {K : PySem.W.Frag} {e st : Expr} {lo hi : Option Expr} {te : TE} {tl th tt : TO} {p3 pos : Pos} (he : PE X e te) (hl : PO X lo tl) (hu : PO X hi th) (hst : PO X (some st) tt) (hK : X.K = K := by rfl)
    (hT : ∀ (a b : Addr) , subscripted (.Slice lo hi (some st) p3) false (.ref a) (.ref b) = operate [.ref a, .ref b] (getItem (.ref a) (.ref b)) := by intro _ _; with_unfolding_all rfl) :
    PE X (.Subscript e (.Slice lo hi (some st) p3) pos) (tSlX K te tl th tt) := by
  subst hK
  refine ⟨fun pins s σ H Q I h => ?_⟩
  refine Subscript_ (thn (he.run pins s σ H _ I h) fun v s1 ⟨x, H1, I1, r1, q1⟩ => ?_)
  refine wpAny_Slice (thn (hl.run pins s1 σ H1 _ I1 q1) fun vl s2 ⟨l, H2, I2, pl, q2⟩ => ?_)
  refine thn (hu.run pins s2 σ H2 _ I2 q2) fun vu s3 ⟨u, H3, I3, pu, q3⟩ => ?_
  refine thn (hst.run pins s3 σ H3 _ I3 q3) fun vs s4 ⟨o, H4, I4, ps, q4⟩ => ?_
  obtain ⟨a, xs, ex, hx, h0, q⟩ := q4
  subst ex
  cases r1
  have I5 : Inv X pins σ H4 { s4 with heap := s4.heap.push { cls := .type "slice", data := .fields #[vl, vu, vs] } } := I4.kept (t' := s4.toks) fun b ob q => Heap.get?_push_of_some _ q
  obtain ⟨its, r, ht, hz⟩ := I5.list hx
  have hlen := r.length
  show wpAny (model X.prog X.w) X.A (subscriptTail e (.Slice lo hi (some st) p3) (.ref a) (.ref s4.heap.objs.size)) (EP X pins σ Q) X.xe { s4 with heap := s4.heap.push { cls := .type "slice", data := .fields #[vl, vu, vs] } }
  refine tail_any (ops := [.ref a, .ref s4.heap.objs.size]) ht.isList.typeIs (PySem.slot_list_getitem.lookup) ?_ (hT _ _)
  refine wpAny_getItem_list_slice ht.isList (Heap.IsSliceOf.new _ vl vu vs) pl pu ps h0 ?_ (by rw [List.size_toArray]; omega)
  have eq : (slicePick its.toArray l u o) = ((sliceRange (sliceBounds l u o xs.length).1 (sliceBounds l u o xs.length).2.1 (sliceBounds l u o xs.length).2.2).filterMap (its[·]?)).toArray := by
    unfold slicePick
    rw [List.size_toArray, hlen]
    simp only [List.getElem?_toArray]
  rw [eq]
  have rr := vals_pickL (sliceRange (sliceBounds l u o xs.length).1 (sliceBounds l u o xs.length).2.1 (sliceBounds l u o xs.length).2.2) r
  refine ⟨.ref _, _, I5.laid (t' := s4.toks) (o := .lst (stepV xs l u o)) (fun b ob q => Heap.get?_push_of_some _ q) (Nat.le_refl _) ?_, rfl, q _ (I5.hok.fresh (Nat.le_refl _))⟩
  refine ⟨?_, _, 0, rr, Heap.get?_push_size _ rfl⟩
  have z := slicePick_size_le its.toArray l u o
  rw [eq, List.size_toArray, List.size_toArray] at z
  have z2 := rr.length
  show (stepV xs l u o).length ≤ sizeLine
  unfold stepV
  omega
theorem r_slX {K : PySem.W.Frag} {σ : L2.St} {H : Hp} {te : TE} {tl th tt : TO} {Q : VK} (q : te σ H fun x H1 => tl σ H1 fun l H2 => th σ H2 fun u H3 => tt σ H3 fun s H4 => ∃ a xs, x = .ref a ∧ SqL K H4 a xs ∧ s ≠ some 0 ∧ ∀ p, H4 p = none → Q (.ref p) (upd H4 p (.lst (stepV xs l u s)))) : tSlX K te tl th tt σ H Q := q
end G
/-! ### a method of one of two classes, each with its own -/
namespace G
open PySem PySem.Spec PyProof.Rows L2
section
variable {X : Cx} {CX : CXT} {k1 k2 : Nat} {f1 f2 C1 C2 : Addr} {m : Str} {sp1 sp2 : Sp} {E : L2.St → XK} {e o : Expr} {es : List Expr} {pos apos : Pos} {ta : TE} {t : TA}
def tMeth2 (C1 C2 : Addr) (m : Str) (sp1 sp2 : Sp) (E : L2.St → XK) (ta : TE) (t : TA) : TE := fun σ H Q => ta σ H fun x H1 => ∃ a dx fs, x = .ref a ∧ fs.lookup m = none ∧
  ((H1 a = some (.ins C1 dx fs) ∧ t σ H1 fun vs H2 => sp1 (x :: vs) H2 Q (E σ)) ∨ (H1 a = some (.ins C2 dx fs) ∧ t σ H1 fun vs H2 => sp2 (x :: vs) H2 Q (E σ)))
theorem pe_meth2 {pl : Sem Bool} (he : PE X o ta) (c1 : Cls X.K C1) (c2 : Cls X.K C2) (hm1 : Meth X.K C1 m f1) (hm2 : Meth X.K C2 m f2) (F1 : FnR X.prog X.w X.K X.mg X.base CX k1 f1 sp1) (F2 : FnR X.prog X.w X.K X.mg X.base CX k2 f2 sp2) (hr1 : Room k1 X.A) (hr2 : Room k2 X.A) (hx : ∀ σ, PassesAt CX X σ (E σ)) (ha : PA X (e :: es) t)
    (hst : starEach (e :: es) X.env = (false, eval e X.env) :: starEach es X.env := by rfl) (hpl : (backTo pos (starEach es X.env)).any (·.1) = false := by rfl)
    (ht : eval (.Call (.Attribute o m apos) (e :: es) [] pos) X.env = (do
      let ov ← eval o X.env
      standAt apos.atName
      let (f, first) ← holding [ov] (getMethod ov m pl)
      callWith pos f first (backTo pos (starEach (e :: es) X.env)) (backToKw pos (keywordEach [] X.env))) := by rfl) :
    PE X (.Call (.Attribute o m apos) (e :: es) [] pos) (tMeth2 C1 C2 m sp1 sp2 E ta t) := by
  refine ⟨fun pins s σ H Q I h => ?_⟩
  refine PySem.W.methodCall_KW (pl := pl) (thn (he.run pins s σ H _ I h) fun u s1 ⟨x, H1, I1, rx, a, dx, fs, ex, l, q⟩ => ?_) ht
  subst ex
  obtain rfl : u = Value.ref a := rx
  rcases q with ⟨ea, q⟩ | ⟨ea, q⟩
  · refine getmeth_ok I1 ea c1 hm1 l (PySem.W.callWith_K (first := [.ref a]) (h₀ := X.base) I.ok.mod.kin hm1.kp (thn (ha.run pos pins s1 σ H1 _ I1 q) fun us s2 ⟨vs, H2, I2, r, q2⟩ => ⟨I2.kIn, ?_⟩) hst hpl)
    exact run_fnRS (us := .ref a :: us) (vs := .ref a :: vs) F1 hr1 (hx σ) I2 (.cons rfl r) q2
  · refine getmeth_ok I1 ea c2 hm2 l (PySem.W.callWith_K (first := [.ref a]) (h₀ := X.base) I.ok.mod.kin hm2.kp (thn (ha.run pos pins s1 σ H1 _ I1 q) fun us s2 ⟨vs, H2, I2, r, q2⟩ => ⟨I2.kIn, ?_⟩) hst hpl)
    exact run_fnRS (us := .ref a :: us) (vs := .ref a :: vs) F2 hr2 (hx σ) I2 (.cons rfl r) q2
theorem r_meth2 {σ : L2.St} {H : Hp} {Q : VK} (q : ta σ H fun x H1 => ∃ a dx fs, x = .ref a ∧ fs.lookup m = none ∧
  ((H1 a = some (.ins C1 dx fs) ∧ t σ H1 fun vs H2 => sp1 (x :: vs) H2 Q (E σ)) ∨ (H1 a = some (.ins C2 dx fs) ∧ t σ H1 fun vs H2 => sp2 (x :: vs) H2 Q (E σ)))) : tMeth2 C1 C2 m sp1 sp2 E ta t σ H Q := q
end
end G
/-! ### facts at older heaps, found by themselves -/
namespace G
open PySem PySem.Spec PyProof.Rows L2 PySem.W
section
variable {K : PySem.W.Frag} {H H' H1 : Hp} {l a : Addr} {o : HO} {α : Type} [DecidableEq α] [Datum α]
/-- all but the draws at l stands, and these go on -/
structure Go (l : Addr) (H H' : Hp) : Prop where
  kp : Kp l H H'
  dr : DrAt H l → DrAt H' l
theorem Go.of_same (s : Same H H') : Go l H H' := ⟨Kp.of_same s, fun d => d.same s⟩
theorem Go.drawn (k : Kp l H H') (d : DrAt H' l) : Go l H H' := ⟨k, fun _ => d⟩
theorem Go.trans (a : Go l H H1) (b : Go l H1 H') : Go l H H' := ⟨a.kp.trans b.kp, fun d => b.dr (a.dr d)⟩
theorem DrAt.go (d : DrAt H l) (g : Go l H H') : DrAt H' l := g.dr d
theorem at_same (h : H a = some o) (s : Same H H') : H' a = some o := s _ _ h
theorem at_go (h : H a = some o) (n : a ≠ l) (g : Go l H H') : H' a = some o := g.kp _ _ n h
theorem Hd.go [Imm α] {v : V} {x : α} (h : Hd K H v x) (d : DrAt H l) (g : Go l H H') : Hd K H' v x := h.kp g.kp d
theorem Hds.go [Imm α] {vs : List V} {xs : List α} (h : Hds K H vs xs) (d : DrAt H l) (g : Go l H H') : Hds K H' vs xs := h.kp g.kp d
theorem sqT_go {xs : List V} (h : SqT K H a xs) (d : DrAt H l) (g : Go l H H') : SqT K H' a xs := sqT_dr h g.kp d
theorem sqL_go {xs : List V} (h : SqL K H a xs) (n : a ≠ l) (g : Go l H H') : SqL K H' a xs := g.kp.seq n h
theorem same_go {H0 : Hp} (s : Same H0 H) (hl : H0 l = none) (g : Go l H H') : Same H0 H' := same_kp s hl g.kp
theorem sqT_hd {xs : List V} {ys : List α} (h : SqT K H a xs) (q : Hds K H xs ys) : Hd K H (.ref a) (⟨ys⟩ : Tup α) := hd_tup h q
theorem new_ne {p : Addr} (hp : H p = none) (d : DrAt H l) : p ≠ l := d.ne hp
end
end G
/-! ### comprehensions over generators -/
namespace G
open PySem L2 PyProof.Rows
open Sem (wp)
/-! ### a comprehension over a generator: its block -/
section
variable {X : Cx} {pins : List (Addr × Obj)} {σ : L2.St} {H : Hp} {s : Shared} {L : Nat}
/-- the entry's heap is cut at L -/
theorem inv_rebase (I : Inv X pins σ H s) (hL : L ≤ X.s_0.heap.objs.size) (hbas : X.base.objs.size ≤ L) (hfrm : ∀ b ∈ frs X.outer, b < L) : Inv { X with s_0 := tr L X.s_0 } pins σ H s := by
  have sz : (trH L X.s_0.heap).objs.size = L := trH_size hL
  refine ⟨⟨I.ok.mod, I.ok.kind, I.ok.glob, I.ok.blt, ?_, I.ok.inj, I.ok.has, fun x c h e => ?_, I.ok.hd, I.ok.frames, I.ok.stk, I.ok.exf, fun b o e => ⟨?_, (I.ok.bs b o e).2⟩, ?_, I.ok.noex, I.ok.exfs, trFrames I.ok.funs hfrm, I.ok.frf⟩, I.os, I.bare,
    ⟨fun b o e n hb hx => I.base.keep b o (trH_sub e).1 n hb hx, fun b o e n hb hx => I.base.slot b o (trH_sub e).1 n hb hx, fun b o e n hx => I.base.free b o (trH_sub e).1 n hx, fun b o e hx => I.base.there b o (trH_sub e).1 hx, I.base.tups, I.base.frzs, I.base.tbls⟩, I.loc, I.cell, I.free, I.freeC, I.pin, I.hok, I.len⟩
  · show (trH L X.s_0.heap).objs.size ≤ X.env.locals
    rw [sz]; exact Nat.le_trans hL I.ok.above
  · show (trH L X.s_0.heap).objs.size ≤ c
    rw [sz]; exact Nat.le_trans hL (I.ok.cab x c h e)
  · show (trH L X.s_0.heap).get? b = some o
    rw [trH_get (Nat.lt_of_lt_of_le (Heap.lt_size e) hbas)]; exact (I.ok.bs b o e).1
  · show X.base.objs.size ≤ (trH L X.s_0.heap).objs.size
    rw [sz]; exact hbas
theorem fro_pe {e : Expr} {te : TE} {Q : VK} (hx : XeOk X) (h : PE X e te) (I : Inv X pins σ H s) (q : te σ H Q) :
    wpAny (model X.prog X.w) X.A (eval e X.env) (fun u s' => ∃ v H', Inv X pins σ H' s' ∧ RelV v u ∧ Q v H' ∧ SleepOn s s') X.xe s := by
  refine wpAny_mono (wpAny_thaw (h.run pins (iced s) σ H Q (regens I rfl rfl (iced_bare I.bare)) q)) ?_ ?_
  · rintro u s' ⟨s₁, rfl, I1, v, H', J, r, z⟩
    exact ⟨v, H', inv_thaw I.bare J, r, z, (still_of I1).sleeps⟩
  · rintro e s' ⟨s₁, rfl, I1, z⟩
    exact hx s.gens e s₁ I1 I.bare z
theorem fro_pts {ifs : List Expr} {tt : TT} {Q : Bool → Hp → Prop} (hx : XeOk X) (h : PTs X ifs tt) (I : Inv X pins σ H s) (q : tt σ H Q) :
    wpAny (model X.prog X.w) X.A (forIn ifs true fun c r => if r = true then do let ok ← isTrue c X.env (eval c X.env); pure (ForInStep.yield ok) else pure (ForInStep.yield r)) (fun b s' => ∃ H', Inv X pins σ H' s' ∧ Q b H' ∧ SleepOn s s') X.xe s := by
  refine wpAny_mono (wpAny_thaw (h.run pins (iced s) σ H Q (regens I rfl rfl (iced_bare I.bare)) q)) ?_ ?_
  · rintro b s' ⟨s₁, rfl, I1, H', J, z⟩
    exact ⟨H', inv_thaw I.bare J, z, (still_of I1).sleeps⟩
  · rintro e s' ⟨s₁, rfl, I1, z⟩
    exact hx s.gens e s₁ I1 I.bare z
theorem fro_app {E : Value → Shared → Prop} {D : Addr} {xs : List V} {y : V} {v : Value} {Q : Value → Shared → Prop} (I : Inv X pins σ H s) (hD : H D = some (.lst xs)) (hz : xs.length < sizeLine) (r : RelV y v)
    (h : ∀ s', Inv X pins σ (upd H D (.lst (xs ++ [y]))) s' → SleepOn s s' → Q .none s') : wpAny (model X.prog X.w) X.A (call (.builtin "list.append") [.ref D, v]) Q E s := by
  refine wpAny_mono (wpAny_thaw (app_ok (E := fun _ _ => False) (Q := fun a s' => a = .none ∧ Inv X pins σ (upd H D (.lst (xs ++ [y]))) s') (regens I rfl rfl (iced_bare I.bare)) hD hz r fun s' J => ⟨rfl, J⟩)) ?_ ?_
  · rintro a s' ⟨s₁, rfl, I1, rfl, J⟩
    exact h _ (inv_thaw I.bare J) (still_of I1).sleeps
  · rintro e s' ⟨s₁, rfl, I1, z⟩
    exact z.elim
end
section
variable {X : Cx} {pv ip : List (Addr × Obj)} {σc σ : L2.St} {H H' : Hp} {s s' : Shared} {L f B : Addr} {oB : Obj} {N ps : List Str} {qual : Str} {scope : Scope} {cd : Value} {A : Around}
theorem gin_of2 {pins : List (Addr × Obj)} (I : Inv X pins σc H s) (hbas : X.base.objs.size ≤ L) (hfrm : ∀ b ∈ frs X.stack, b < L) (S : GScp N ps scope) (hh : A.handled = none) (hA : A.frames = some X.stack) (hL : L < s.heap.objs.size) (hL0 : H L = none) (z : Slp N scope L σ s.heap) (hp : Stand X L H s.heap (pv ++ ip)) (hd : ∀ p ∈ pv, ∀ q ∈ ip, p.1 ≠ q.1) :
    GIn X.prog X.w X.K X.mg X.base N qual scope f cd A X.stack L ⟨s, H, pv⟩ ip σ H s := by
  obtain ⟨zl, m, zn, zq⟩ := z
  have sz : (trH L s.heap).objs.size = L := trH_size (Nat.le_of_lt hL)
  have noA : ∀ b : Addr, b ∉ ([] : List Addr) := fun b z => by simp at z
  have noC : ∀ x c, (envOfC qual scope L f cd).cells.lookup x = some c → False := fun x c e => by
    have e : (cellsFrom (L + 1) scope.names []).lookup x = some c := e
    rw [S.nc] at e
    cases e
  refine ⟨⟨hL, hd, fun q hq => (hp q (List.mem_append_right _ hq)).2.2.1⟩, ⟨⟨I.ok.mod, S.kind, rfl, rfl, by show (trH L s.heap).objs.size ≤ L; omega, fun x y c h1 _ => (noC x c h1).elim, fun x hx => (S.kindOf hx).elim, fun x c _ h1 => (noC x c h1).elim, fun _ => hh, Around.frames_deeper hA, .inr ⟨rfl, rfl⟩, fun b hb => absurd hb (noA b), fun b o e => ?_, by show _ ≤ (trH L s.heap).objs.size; rw [sz]; exact hbas, fun b _ _ => noA b, fun b hb => absurd hb (noA b), trFrames I.stack hfrm, I.stkFree⟩,
    rfl, I.bare, ?_, ⟨m, zn, fun i x v e1 e2 e3 => ?_⟩, fun x c h1 => (noC x c h1).elim, hL0, fun x c h1 => (noC x c h1).elim, fun p hq => ?_, I.hok, zl⟩⟩
  · have z := I.bs b o e
    exact ⟨by show (trH L s.heap).get? b = some o; rw [trH_get (Nat.lt_of_lt_of_le (Heap.lt_size e) hbas)]; exact z.1, z.2⟩
  · exact Un.kept fun b u q => (trH_sub q).1
  · obtain ⟨u, r, k, q⟩ := zq i x v e1 e2 e3
    exact ⟨u, r, .inl ⟨k, q⟩⟩
  · have hq : p ∈ pv ++ ip := hq
    obtain ⟨h1, h2, h3, h4⟩ := hp p hq
    exact ⟨h1, h2, Nat.ne_of_gt h3, fun hb => absurd (hfrm p.1 hb) (Nat.lt_asymm h3), h4⟩
/-- what a block knows behind a stretch of the generator: its own frame at B, younger than L, is pinned -/
theorem gin_back2 (I : Inv X [] σc H s) (hB : X.env.locals = B) (hpn : X.pn = []) (hs0 : X.s_0.heap.objs.size ≤ L) (hcel : ∀ x c, X.env.cells.lookup x = some c → c < L) (hb1 : s.heap.get? B = some oB) (hm : (B, oB) ∈ pv) (S : GScp N ps scope) (G : GIn X.prog X.w X.K X.mg X.base N qual scope f cd A X.stack L ⟨s, H, pv⟩ ip σ H' s') :
    Inv X [] σc H' s' ∧ Slp N scope L σ s'.heap ∧ H' L = none ∧ (∀ p ∈ pv ++ ip, s'.heap.get? p.1 = some p.2 ∧ H' p.1 = none ∧ p.1 ≠ L ∧ ∀ v, p.2.data ≠ .cell v) ∧ (∀ p ∈ pv, ∀ q ∈ ip, p.1 ≠ q.1) ∧ (∀ q ∈ ip, L < q.1) := by
  obtain ⟨⟨hL, hd, hy⟩, J⟩ := G
  have U : Un (frs X.stack) [] H H' (trH L s.heap) s'.heap := J.base
  have noA : ∀ b : Addr, b ∉ ([] : List Addr) := fun b z => by simp at z
  have pB := J.pin (B, oB) (show (B, oB) ∈ pv ++ ip from List.mem_append_left _ hm)
  have old : ∀ {b : Addr} {o : Obj}, s.heap.get? b = some o → b ∉ (young L s.heap).filter (fun b => decide (b ≠ B)) → b < L ∨ b = B := fun {b o} e hx => by
    rcases Nat.lt_or_ge b L with l | l
    · exact .inl l
    · by_cases z : b = B
      · exact .inr z
      · exact absurd (List.mem_filter.mpr ⟨mem_young.mpr ⟨Heap.lt_size e, l⟩, by simpa using z⟩) hx
  refine ⟨I.call' (ch := (young L s.heap).filter (fun b => decide (b ≠ B))) (J.os.trans rfl) ⟨fun b o e n hf hx => ?_, fun b o e n hf hx => ?_, fun b o e n hx => ?_, fun b o e hx => ?_, U.tups, U.frzs, U.tbls⟩ J.hok J.bare (fun b hb => ?_), ?_, J.free, fun p hp => ?_, hd, hy⟩
  · rcases old e hx with l | rfl
    · exact U.keep b o (by rw [trH_get l]; exact e) n hf (noA b)
    · rw [hb1] at e; cases e; exact pB.1
  · rcases old e hx with l | rfl
    · exact U.slot b o (by rw [trH_get l]; exact e) n hf (noA b)
    · rw [hb1] at e; cases e; exact ⟨_, pB.1⟩
  · rcases old e hx with l | rfl
    · exact U.free b o (by rw [trH_get l]; exact e) n (noA b)
    · exact pB.2.1
  · rcases old e hx with l | rfl
    · exact U.there b o (by rw [trH_get l]; exact e) (noA b)
    · exact ⟨_, pB.1⟩
  · obtain ⟨hb, hne⟩ := List.mem_filter.mp hb
    have hne : b ≠ B := by simpa using hne
    have hb := (mem_young.mp hb).2
    exact ⟨.inr (Nat.le_trans hs0 hb), by rw [hB]; exact hne, fun x c e => Nat.ne_of_lt (Nat.lt_of_lt_of_le (hcel x c e) hb), fun p hp => by rw [hpn] at hp; cases hp⟩
  · obtain ⟨m, hn, hq⟩ := J.loc
    refine ⟨J.len, m, hn, fun i x v e1 e2 e3 => ?_⟩
    obtain ⟨u, r, q⟩ := hq i x v e1 e2 e3
    rcases q with ⟨q1, q2⟩ | ⟨q1, _⟩
    · exact ⟨u, r, q1, q2⟩
    · exact (S.kindOf q1).elim
  · obtain ⟨h1, h2, h3, h4, h5⟩ := J.pin p hp
    exact ⟨h1, h2, h3, h5⟩
end
section
variable {X : Cx} {A : Around} {C : Ctr} {n m L a g B : Nat} {N ps : List Str} {qual : Str} {scope : Scope} {f : Addr} {cd : Value} {H Hy : Hp} {s : Shared} {gs : GenState} {ip : List (Addr × Obj)} {σ σc : L2.St}
theorem GZ.blk {s3 : Shared} {H3 : Hp} {sc : Scope} {ce : PySem.Env} {fp : List Addr} (Z : GZ X A C m L a g N ps qual scope f cd H s gs ip σ Hy) : GZ (X.blk s3 H3 sc ce fp) A C m L a g N ps qual scope f cd H s gs ip σ Hy :=
  ⟨Z.gst, Z.isg, Z.la, Z.scp, Z.slp, Z.ips, Z.hL, Z.ha, Z.go⟩
/-- it has not begun; the heap has grown -/
theorem GZ.fresh {H3 : Hp} {s3 : Shared} (Z : GZ X A C m L a g N ps qual scope f cd H s gs [] σ Hy) (hg : s3.gens = s.gens) (k1 : ∀ b o, s.heap.get? b = some o → s3.heap.get? b = some o) (k2 : ∀ b, H b = none → b = L ∨ b = a → H3 b = none) : GZ X A C m L a g N ps qual scope f cd H3 s3 gs [] σ Hy := by
  obtain ⟨oa, ea, ca, back⟩ := isGen_obj Z.isg
  exact ⟨by rw [hg]; exact Z.gst, back _ (k1 a _ ea), Z.la, Z.scp, Z.slp.at fun o e => k1 L o e, (fun p hp => nomatch hp), k2 L Z.hL (.inl rfl), k2 a Z.ha (.inr rfl), Z.go⟩
/-- the block wakes the generator -/
theorem blk_item {tg : Expr} (I : Inv X [] σc H s) (hB : X.env.locals = B) (hpn : X.pn = []) (hs0 : X.s_0.heap.objs.size ≤ L) (hcel : ∀ x c, X.env.cells.lookup x = some c → c < L) (hbas : X.base.objs.size ≤ L) (hfrm : ∀ b ∈ frs X.stack, b < L) (hLB : L < B) (haB : B ≠ a) (hr : Room 1 X.A)
    (Z : GZ X X.A.in1 C m L a g N ps qual scope f cd H s gs ip σ Hy) (hok : C.ok m Hy H) (hip : ∀ q ∈ ip, B ≠ q.1) {E : Value → Shared → Prop} {Q : Option Value → Shared → Prop}
    (hP : ∀ H' s', m = 0 → Inv X [] σc H' s' → C.fin H H' → Q none s')
    (hY : ∀ m' x u H' gs' ip' σ' s1, m = m' + 1 → RelV x u → C.yl m H x H' → Inv X [] σc H' s1 → slp gs' = true → GZ X X.A.in1 C m' L a g N ps qual scope f cd H' s1 gs' ip' σ' H' → (∀ q ∈ ip', B ≠ q.1) → Q (some u) s1) :
    wpAny (model X.prog X.w) X.A (pyNext (.ref a)) Q E s := by
  obtain ⟨oa, ea, ca, back⟩ := isGen_obj Z.isg
  have I1 : Inv X [] σc H (s.setGen g .running) := regens I rfl rfl (bare_set I.bare rfl)
  have hLs : L < s.heap.objs.size := let ⟨_, m, hn, _⟩ := Z.slp; hn.lt
  have hgs : g < s.gens.size := (Array.getElem?_eq_some_iff.mp Z.gst).1
  obtain ⟨mB, ⟨oB, esB, epB, hoB, hdB, _⟩, _⟩ := id I.loc
  rw [hB] at hoB
  have hBn : H B = none := by rw [← hB]; exact I.free
  have cB : ∀ v, oB.data ≠ .cell v := fun v q => by rw [hdB] at q; cases q
  have G := gin_of2 (pv := [(a, oa), (B, oB)]) (qual := qual) (f := f) (cd := cd) (A := X.A.in1) I1 hbas hfrm Z.scp hr.hd I.ok.frames hLs Z.hL Z.slp (fun p hp => by
      rcases List.mem_append.mp hp with hp | hp
      · rcases List.mem_cons.mp hp with rfl | hp
        · exact ⟨ea, Z.ha, Z.la, ca⟩
        · obtain rfl := List.mem_singleton.mp hp
          exact ⟨hoB, hBn, hLB, cB⟩
      · obtain ⟨h1, h2, h3, h4, h5⟩ := Z.ips p hp
        exact ⟨h1, h2, h3, h5⟩) (fun p hp q hq => by
      rcases List.mem_cons.mp hp with rfl | hp
      · exact (Z.ips q hq).2.2.2.1.symm
      · obtain rfl := List.mem_singleton.mp hp
        exact hip q hq)
  refine nextS hr.hd I.nolimit hr.depth Z.isg Z.gst (Z.go ⟨s.setGen g .running, H, [(a, oa), (B, oB)]⟩ G hok) (fun r s₁ h => ?_) (fun v d l' k' c p fs s₁ hz h => ?_)
  · obtain ⟨hr1, hm, ip', σ', H', G', hf⟩ := ret_fut h
    have I2 := (gin_back2 I1 hB hpn hs0 hcel hoB (by simp) Z.scp G').1
    refine ⟨hr1, fun h' hk => ?_⟩
    have I3 : Inv X [] σc H' (s₁.setGen g .finished) := regens I2 rfl rfl (bare_set I2.bare rfl)
    exact hP H' _ hm (I3.kept (t' := s₁.toks) hk) hf
  · cases m with
    | zero => exact h.elim
    | succ m' =>
      obtain ⟨hq, ip', x, σ', H', rv, G', hy, hgo⟩ := h
      obtain ⟨I2, z2, l2, p2, d2, y2⟩ := gin_back2 I1 hB hpn hs0 hcel hoB (by simp) Z.scp G'
      have hba : (End.susp v d l' k' c p fs).genState.bare = true := End.bare_of_quiet hq
      have gsz : g < s₁.gens.size := Nat.lt_of_lt_of_le hgs hz
      refine ⟨hq, hY m' x v H' (End.susp v d l' k' c p fs).genState ip' σ' _ rfl rv hy (regens I2 rfl rfl (bare_set I2.bare hba)) rfl ⟨setGen_at gsz, back _ (p2 (a, oa) (by simp)).1, Z.la, Z.scp, z2, fun p hp => ?_, l2, (p2 (a, oa) (by simp)).2.1, fun V' G2 ok2 => hgo V' G2 ok2⟩ fun q hq => d2 (B, oB) (by simp) q hq⟩
      obtain ⟨h1, h2, h3, h4⟩ := p2 p (List.mem_append_right _ hp)
      exact ⟨h1, h2, y2 p hp, (d2 (a, oa) (by simp) p hp).symm, h4⟩
end
/-- [elt for target in gen(..) if ..] -/
def tLcG (wi : TIG) (g : TG) (tt : TT) (te : TE) (vs : List Nat) : TE := fun σ H Q => wi σ H fun n yld ok fin H1 => ∀ D, H1 D = none → ok 0 H1 (upd H1 D (.lst [])) ∧ ∃ W : Nat → Hp → Prop, W 0 (upd H1 D (.lst [])) ∧
  (∀ i H', i < n → W i H' → ∀ x H2 Hy, yld i H' x H2 Hy → g x (wipe σ vs) H2 fun σ2 H3 => wipe σ2 vs = wipe σ vs ∧ tt σ2 H3 fun b H4 =>
    if b = true then te σ2 H4 fun y H5 => ∃ acc, H5 D = some (.lst acc) ∧ acc.length < sizeLine ∧ W (i + 1) (upd H5 D (.lst (acc ++ [y]))) ∧ ok (i + 1) Hy (upd H5 D (.lst (acc ++ [y]))) else W (i + 1) H4 ∧ ok (i + 1) Hy H4) ∧
  ∀ H' H2, W n H' → fin H' H2 → Q (.ref D) H2
section
variable {X : Cx}
theorem lc_coreG {pins : List (Addr × Obj)} {s : Shared} {σ : L2.St} {H : Hp} {Q : VK} {elt tg iter : Expr} {ifs : List Expr} {scope : Scope} {own : List (Str × Nat)} {pos pos' : Pos} {k : Nat} {tc : TGc} {g : TG} {tt : TT} {te : TE} {use : Option (Value → Sem Unit)} {Qf : Value → Shared → Prop}
    (hN : X.N.Nodup) (I : Inv X pins σ H s) (hi : PGm X k iter tc) (hr : Room (k + 1) X.A) (hr1 : Room 1 X.A) (ok : BlkOk X.N X.env.scope scope own) (hnc : ∀ y ∈ scope.names, y.2 ≠ .cell)
    (hg : ∀ (s : Shared) (H : Hp) (C : Addr) (cl : List (Str × Addr)) (fp : List Addr), PG (X.blk s H scope (compEnvC scope cl C X.env) fp) tg g) (ht : ∀ (s : Shared) (H : Hp) (C : Addr) (cl : List (Str × Addr)) (fp : List Addr), PTs (X.blk s H scope (compEnvC scope cl C X.env) fp) ifs tt)
    (he : ∀ (s : Shared) (H : Hp) (C : Addr) (cl : List (Str × Addr)) (fp : List Addr), PE (X.blk s H scope (compEnvC scope cl C X.env) fp) elt te) (hs : ∀ x, foldedSetIterable iter X.env x = pure x)
    (h : tLcG (tIgP tc) g tt te (own.map (·.2)) σ H Q)
    (hRR : ∀ D C s' m H', Inv X pins σ H' s' → Q (.ref D) H' → s'.heap.Ns C m → FpOk X pins H' C → compPost (model X.prog X.w) X.A X.xe use Qf (.ref D) C (.ok .next) s') :
    wpAny (model X.prog X.w) X.A (comprehension (.ListComp elt [⟨tg, iter, ifs, 0⟩] scope pos) scope X.env pos' (newList []) false (eval iter X.env) use) Qf X.xe s := by
  have hfree : ∀ y ∈ scope.names, y.2 = .free → ∃ c, X.env.cells.lookup y.1 = some c := fun y hy e => by
    rcases ok.free y hy e with k | k
    · exact I.ok.has _ (.inl k)
    · exact I.ok.has _ (.inr k)
  refine wpAny_comprehension_free (use := use) rfl hs (closure_ok hfree) ok.kind (fun y hy e => by rw [ok.uniq y hy, e])
    (thn (hi.run pins s σ H _ I h) fun u s2 ⟨n, C, a, gg, N, ps, qual, sc, f, cd, body, σg, H1, s1, eu, ⟨hok, hR⟩, I1, M⟩ => ?_)
  subst eu
  obtain ⟨I2, O, Z⟩ := made (A := X.A.in1) I1 M hr.in1 I1.ok.frames
  refine wpAny_pyIter_gen M.isg ?_
  refine wpAny_newObj_type (newEnv_comp ?_) (by show 0 ≤ sizeLine; decide)
  generalize hLd : s1.heap.objs.size = L at O Z
  obtain ⟨gs0, Z⟩ : ∃ gs, GZ X X.A.in1 C n L a gg N ps qual sc f cd H1 s2 gs [] σg H1 := ⟨_, Z⟩
  have hLs2 : L < s2.heap.objs.size := let ⟨_, m, hn, _⟩ := Z.slp; hn.lt
  have has2 : a < s2.heap.objs.size := by rw [← hLd] at hLs2; exact M.lt
  generalize hD : s2.heap.objs.size = D
  have hDn : H1 D = none := I2.hok.fresh (Nat.le_of_eq hD)
  obtain ⟨hok0, W, w0, step, done⟩ := hR D hDn
  generalize hs3 : ({ s2 with heap := s2.heap.push { cls := .type "list", data := .seq ([] : List Value).toArray } } : Shared) = s3
  have I3 : Inv X pins σ (upd H1 D (.lst [])) s3 := by
    rw [← hs3]
    refine I2.laid (t' := s2.toks) (fun b o e => Heap.get?_push_of_some _ e) (Nat.le_of_eq hD) ⟨Nat.zero_le _, [], 0, .nil, ?_⟩
    rw [← hD]
    exact Heap.get?_push_size _ rfl
  have h3 : s3.heap = s2.heap.push { cls := .type "list", data := .seq ([] : List Value).toArray } := by rw [← hs3]
  have g3 : s3.gens = s2.gens := by rw [← hs3]
  have sz3 : s3.heap.objs.size = D + 1 := by rw [h3, Heap.size_push, hD]
  have hLD : L < D := by rw [← hD]; exact hLs2
  have haD : a < D := by rw [← hD]; exact has2
  have hLS : L < s3.heap.objs.size := by rw [sz3]; exact Nat.lt_succ_of_lt hLD
  have haS : a < s3.heap.objs.size := by rw [sz3]; exact Nat.lt_succ_of_lt haD
  have I4 := block_start (fp := []) I3 ok hN (fun b hb => nomatch hb)
  have hcells : ∀ {y c}, (compEnvC scope (cellsFrom (s3.heap.objs.size + 1) scope.names (cloFrom X.env.cells scope.names [])) s3.heap.objs.size X.env).cells.lookup y = some c → c < L := fun {y c} e => by
    have e : (cellsFrom (s3.heap.objs.size + 1) scope.names (cloFrom X.env.cells scope.names [])).lookup y = some c := e
    rw [← Heap.size_push s3.heap { cls := .type "dict", data := .dict #[] }] at e
    rcases cells_mem (PySem.mem_of_lookup e) with hm | ⟨h1, _, _⟩
    · rcases cloFrom_mem hm with hm | ⟨h1, rfl⟩
      · cases hm
      · obtain ⟨c, hc⟩ := hfree _ h1 rfl
        rw [hc]
        exact O.cel _ _ hc
    · exact absurd rfl (hnc _ h1)
  have st3 : ∀ b ∈ frs X.stack, b < L := O.frm
  have I4 := inv_rebase (L := L) I4 (by show L ≤ s3.heap.objs.size; omega) O.bas O.frm
  have pg := hg (tr L s3) (upd H1 D (.lst [])) s3.heap.objs.size (cellsFrom (s3.heap.objs.size + 1) scope.names (cloFrom X.env.cells scope.names [])) []
  have pt := ht (tr L s3) (upd H1 D (.lst [])) s3.heap.objs.size (cellsFrom (s3.heap.objs.size + 1) scope.names (cloFrom X.env.cells scope.names [])) []
  have pe := he (tr L s3) (upd H1 D (.lst [])) s3.heap.objs.size (cellsFrom (s3.heap.objs.size + 1) scope.names (cloFrom X.env.cells scope.names [])) []
  show codeAny _ _ (.compStart (.ListComp elt [⟨tg, iter, ifs, 0⟩] scope pos) 0 (.ref a) (.ref D) (compEnvC scope (cellsFrom (s3.heap.objs.size + 1) scope.names (cloFrom X.env.cells scope.names [])) s3.heap.objs.size X.env)) (compPost (model X.prog X.w) X.A X.xe use Qf (.ref D) s3.heap.objs.size) { s3 with heap := pushCells (s3.heap.push { cls := .type "dict", data := .dict #[] }) scope.names }
  generalize hce : compEnvC scope (cellsFrom (s3.heap.objs.size + 1) scope.names (cloFrom X.env.cells scope.names [])) s3.heap.objs.size X.env = ce at I4 pg pt pe hcells ⊢
  have cL : ce.locals = s3.heap.objs.size := by subst hce; rfl
  have Z3 : GZ X X.A.in1 C n L a gg N ps qual sc f cd (upd H1 D (.lst [])) { s3 with heap := pushCells (s3.heap.push { cls := .type "dict", data := .dict #[] }) scope.names } gs0 [] σg H1 := Z.fresh g3 (fun b o e => pushCells_keeps _ _ _ _ (Heap.get?_push_of_some _ (by rw [h3]; exact Heap.get?_push_of_some _ e))) fun b hb hh => by
    have : b ≠ D := hh.elim (fun e => by rw [e]; exact Nat.ne_of_lt hLD) fun e => by rw [e]; exact Nat.ne_of_lt haD
    rw [upd_ne this]; exact hb
  generalize hH3 : upd H1 D (.lst []) = H3 at I3 I4 pg pt pe w0 hok0 Z3
  generalize hs4 : ({ s3 with heap := pushCells (s3.heap.push { cls := .type "dict", data := .dict #[] }) scope.names } : Shared) = s4 at I4 Z3 ⊢
  generalize hXb : X.blk (tr L s3) H3 scope ce [] = Xb
  have I4 : Inv Xb [] (wipe σ (own.map (·.2))) H3 s4 := by rw [← hXb]; exact I4
  have Z4 : GZ Xb Xb.A.in1 C n L a gg N ps qual sc f cd H3 s4 gs0 [] σg H1 := by rw [← hXb]; exact Z3.blk
  have eP : Xb.prog = X.prog := by rw [← hXb]
  have eW : Xb.w = X.w := by rw [← hXb]
  have eA : Xb.A = X.A := by rw [← hXb]
  have eE : Xb.env = ce := by rw [← hXb]
  have eB : Xb.env.locals = s3.heap.objs.size := by rw [← hXb]; exact cL
  have ex0 : Xb.ex = [] := by rw [← hXb]
  have epn : Xb.pn = [] := by rw [← hXb]
  have es0 : Xb.s_0.heap.objs.size ≤ L := by rw [← hXb]; show (trH L s3.heap).objs.size ≤ L; rw [trH_size (by omega)]; exact Nat.le_refl _
  have ebas : Xb.base.objs.size ≤ L := by rw [← hXb]; exact O.bas
  have estk : ∀ b ∈ frs Xb.stack, b < L := by rw [← hXb]; exact O.frm
  have ecl : ∀ x c, Xb.env.cells.lookup x = some c → c < L := by rw [← hXb]; exact fun x c e => hcells e
  have exe : XeOk Xb := by rw [← hXb]; exact fun _ _ _ _ _ z => z.elim
  have pg : PG Xb tg g := by rw [← hXb]; rw [← hce]; exact hce ▸ pg
  have pt : PTs Xb ifs tt := by rw [← hXb]; exact pt
  have pe : PE Xb elt te := by rw [← hXb]; exact pe
  have hxe : Xb.xe = fun _ _ => False := by rw [← hXb]
  have efs : ∀ b ∈ Xb.fs, b < L := by rw [← hXb]; exact O.frm
  have hU : ∀ {σ' H' s'}, Inv Xb [] σ' H' s' → Inv X pins σ H' s' := fun {σ' H' s'} I6 => by
    have U : Un (frs X.stack) [] H3 H' (trH L s3.heap) s'.heap := by
      have := I6.base
      rw [← hXb] at this
      exact this
    have os6 : s'.os = s3.os := by
      have := I6.os
      rw [← hXb] at this
      exact this
    have hk : HOk X.prog X.w H' s'.heap := by
      have := I6.hok
      rw [← hXb] at this
      exact this
    have noA : ∀ b : Addr, b ∉ ([] : List Addr) := fun b z => by simp at z
    refine I3.call' (ch := young L s3.heap) os6 ⟨fun b o e n hf hx => ?_, fun b o e n hf hx => ?_, fun b o e n hx => ?_, fun b o e hx => ?_, U.tups, U.frzs, U.tbls⟩ hk I6.bare (fun b hb => ?_)
    · have l : b < L := Nat.lt_of_not_le fun z => hx (mem_young.mpr ⟨Heap.lt_size e, z⟩)
      exact U.keep b o (by rw [trH_get l]; exact e) n hf (noA b)
    · have l : b < L := Nat.lt_of_not_le fun z => hx (mem_young.mpr ⟨Heap.lt_size e, z⟩)
      exact U.slot b o (by rw [trH_get l]; exact e) n hf (noA b)
    · have l : b < L := Nat.lt_of_not_le fun z => hx (mem_young.mpr ⟨Heap.lt_size e, z⟩)
      exact U.free b o (by rw [trH_get l]; exact e) n (noA b)
    · have l : b < L := Nat.lt_of_not_le fun z => hx (mem_young.mpr ⟨Heap.lt_size e, z⟩)
      exact U.there b o (by rw [trH_get l]; exact e) (noA b)
    · have hb := (mem_young.mp hb).2
      exact ⟨.inr (Nat.le_trans O.s0 hb), Nat.ne_of_gt (Nat.lt_of_lt_of_le O.loc hb), fun x c e => Nat.ne_of_lt (Nat.lt_of_lt_of_le (O.cel x c e) hb), fun p hp => Nat.ne_of_lt (Nat.lt_of_lt_of_le (O.pin p hp) hb)⟩
  have loop : codeAny (model X.prog X.w) X.A (.compLoop (.ListComp elt [⟨tg, iter, ifs, 0⟩] scope pos) 0 (.ref a) (.ref D) ce) (compPost (model X.prog X.w) X.A X.xe use Qf (.ref D) s3.heap.objs.size) s4 := by
    refine compLoop_any (fun z s' => ∃ i H' gs ip σg Hy, z = n - i ∧ i ≤ n ∧ Inv Xb [] (wipe σ (own.map (·.2))) H' s' ∧ GZ Xb Xb.A.in1 C (n - i) L a gg N ps qual sc f cd H' s' gs ip σg Hy ∧ C.ok (n - i) Hy H' ∧ (∀ q ∈ ip, s3.heap.objs.size ≠ q.1) ∧ W i H') ?_ n ⟨0, H3, _, [], σg, H1, rfl, Nat.zero_le _, I4, Z4, hok0, (fun q hq => nomatch hq), w0⟩
    rintro z s5 ⟨i, H5, gs, ip, σg5, Hy, rfl, hin, I5, Z5, ok5, hip, w5⟩
    rw [← eP, ← eW, ← eA, ← eE]
    refine blk_item (tg := tg) (E := _) (by exact I5) eB epn es0 ecl ebas estk hLS (Nat.ne_of_gt haS) (by rw [eA]; exact hr1) Z5 ok5 hip (fun H' s' hm I6 hf => ?_) (fun m' x u H7 gs' ip' σ' s6 em rv hy I6 hs6 Z6 hip6 => ?_)
    · have ei : i = n := by omega
      subst ei
      have I7 := hU I6
      have nC : H' s3.heap.objs.size = none := by rw [← eB]; exact I6.free
      obtain ⟨m, hn, _⟩ := I6.loc
      rw [eB] at hn
      rw [eP, eW, eA]
      exact hRR D s3.heap.objs.size s' m H' I7 (done H5 H' w5 hf) hn (I3.fpOk (Nat.le_refl _) nC)
    · have hlt : i < n := by omega
      have e1 : n - (i + 1) = m' := by omega
      obtain ⟨o, nm, qn, ho, hcl, hd, _⟩ := Z6.isg
      refine go_of ho hcl hd (by decide) ?_
      have fpok : ∀ b ∈ L :: a :: ip'.map (·.1), FpOk Xb [] H7 b := fun b hb => by
        obtain ⟨hb1, hb2, _⟩ := Z6.objs b hb
        refine ⟨hb2, ?_, fun hf => absurd (efs b hf) (Nat.not_lt.mpr hb1), .inr (Nat.le_trans es0 hb1), fun x c e => Nat.ne_of_lt (Nat.lt_of_lt_of_le (ecl x c e) hb1), fun p hp => ?_⟩
        · rw [eB]
          rcases List.mem_cons.mp hb with rfl | hb
          · exact Nat.ne_of_lt hLS
          · rcases List.mem_cons.mp hb with rfl | hb
            · exact Nat.ne_of_lt haS
            · obtain ⟨p, hp, rfl⟩ := List.mem_map.mp hb
              exact (hip6 p hp).symm
        · rw [epn] at hp; cases hp
      have I6' := I6.pinned fpok fun b hb => (Z6.objs b hb).2.2
      have hxF : ∀ {α : Type} {t : Sem α} {Q Q' : α → Shared → Prop} {E : Value → Shared → Prop} {s : Shared}, wpAny (model Xb.prog Xb.w) Xb.A t Q Xb.xe s → (∀ a s, Q a s → Q' a s) → wpAny (model Xb.prog Xb.w) Xb.A t Q' E s := fun h hq => by rw [hxe] at h; exact thnF h hq
      have st := step i H5 hlt w5 x H7 H7 ⟨rfl, hy⟩
      refine hxF (fro_goal exe pg I6' rv st) fun _ s8 ⟨σ8, H8, I8, ⟨hw8, q8⟩, so8⟩ => ?_
      refine hxF (fro_pts exe pt I8 q8) fun b s9 ⟨H9, I9, q9, so9⟩ => ?_
      have fin : ∀ {s' : Shared} {H' : Hp}, Inv Xb ([] ++ pinsAt (L :: a :: ip'.map (·.1)) s6.heap) σ8 H' s' → SleepOn s6 s' → W (i + 1) H' → C.ok (n - (i + 1)) H7 H' → ∃ m, m < n - i ∧ ∃ i H' gs ip σg Hy, m = n - i ∧ i ≤ n ∧ Inv Xb [] (wipe σ (own.map (·.2))) H' s' ∧ GZ Xb Xb.A.in1 C (n - i) L a gg N ps qual sc f cd H' s' gs ip σg Hy ∧ C.ok (n - i) Hy H' ∧ (∀ q ∈ ip, s3.heap.objs.size ≠ q.1) ∧ W i H' := fun {s' H'} I' so wn okn => by
        have pin' : ∀ b ∈ L :: a :: ip'.map (·.1), ∀ o, s6.heap.get? b = some o → s'.heap.get? b = some o ∧ H' b = none := fun b hb o e =>
          let z := I'.pin (b, o) (List.mem_append_right _ (List.mem_append_right _ (mem_pinsAt hb e)))
          ⟨z.1, z.2.1⟩
        have hl : (wipe σ (own.map (·.2))).length = σ8.length := by rw [← hw8, wipe_length]
        rw [← e1] at Z6
        refine ⟨n - (i + 1), by omega, i + 1, H', gs', ip', σ', H7, rfl, hlt, (I'.unpinned (pins := [])).weak hl (fun j v e => ?_), ?_, okn, hip6, wn⟩
        · rw [← hw8] at e
          exact (wipe_some e).1
        · refine Z6.on hs6 (fun b hb o e => (pin' b hb o e).1) (fun b hb => ?_) so
          obtain ⟨o, e, _⟩ := (Z6.objs b hb).2.2
          exact (pin' b hb o e).2
      cases b with
      | false =>
        simp only [Bool.false_eq_true, if_false] at q9 ⊢
        exact fin I9 (so8.trans so9) q9.1 q9.2
      | true =>
        simp only [if_true] at q9 ⊢
        refine hxF (fro_pe exe pe I9 q9) fun z s10 ⟨yv, H10, I10, r10, ⟨acc, hD10, hz10, nx, okn⟩, so10⟩ => ?_
        exact fro_app I10 hD10 hz10 r10 fun s11 I11 so11 => fin I11 (((so8.trans so9).trans so10).trans so11) nx okn
  exact codeAny_compStart_list loop (wpAny_pyIter_gen Z4.isg loop)
/-- as a value -/
theorem pe_lcG {elt tg iter : Expr} {ifs : List Expr} {scope : Scope} {own : List (Str × Nat)} {pos : Pos} {k : Nat} {tc : TGc} {g : TG} {tt : TT} {te : TE} (hN : X.N.Nodup) (hi : PGm X k iter tc) (hr : Room (k + 1) X.A) (hr1 : Room 1 X.A) (ok : BlkOk X.N X.env.scope scope own) (hnc : ∀ y ∈ scope.names, y.2 ≠ .cell)
    (hg : ∀ (s : Shared) (H : Hp) (C : Addr) (cl : List (Str × Addr)) (fp : List Addr), PG (X.blk s H scope (compEnvC scope cl C X.env) fp) tg g) (ht : ∀ (s : Shared) (H : Hp) (C : Addr) (cl : List (Str × Addr)) (fp : List Addr), PTs (X.blk s H scope (compEnvC scope cl C X.env) fp) ifs tt)
    (he : ∀ (s : Shared) (H : Hp) (C : Addr) (cl : List (Str × Addr)) (fp : List Addr), PE (X.blk s H scope (compEnvC scope cl C X.env) fp) elt te) (hs : ∀ x, foldedSetIterable iter X.env x = pure x := by intro _; rfl) :
    PE X (.ListComp elt [⟨tg, iter, ifs, 0⟩] scope pos) (tLcG (tIgP tc) g tt te (own.map (·.2))) := by
  refine ⟨fun pins s σ H Q I h => ?_⟩
  rw [eval_ListComp]
  refine lc_coreG hN I hi hr hr1 ok hnc hg ht he hs h fun D C s' m H' I' q hn f => ⟨m, hn, fun h'' sb => ?_⟩
  obtain ⟨f0, f1, f2, f3, f4, f5⟩ := f
  exact ⟨.ref D, H', I'.turned (t' := s'.toks) (fun b o hb e => (sb.2 b hb).trans e) f0 f1 f3 f4 f5, rfl, q⟩
end
section
variable {X : Cx}
/-- name = [.. for .. in gen(..)] on one line, the name a local -/
theorem ps_setLcG {i : Nat} {y : Str} {py : Pos} {elt tg iter : Expr} {ifs : List Expr} {scope : Scope} {own : List (Str × Nat)} {pos spos : Pos} {k : Nat} {tc : TGc} {g : TG} {tt : TT} {te : TE} (hN : X.N.Nodup) (hy : X.N[i]? = some y) (hyl : X.env.scope.names.lookup y = some .local)
    (hsw : swapsWith (.ListComp elt [⟨tg, iter, ifs, 0⟩] scope pos) (some (.Name y py)) spos.line X.env = pure true) (hi : PGm X k iter tc) (hr : Room (k + 1) X.A) (hr1 : Room 1 X.A) (ok : BlkOk X.N X.env.scope scope own) (hnc : ∀ y ∈ scope.names, y.2 ≠ .cell)
    (hg : ∀ (s : Shared) (H : Hp) (C : Addr) (cl : List (Str × Addr)) (fp : List Addr), PG (X.blk s H scope (compEnvC scope cl C X.env) fp) tg g) (ht : ∀ (s : Shared) (H : Hp) (C : Addr) (cl : List (Str × Addr)) (fp : List Addr), PTs (X.blk s H scope (compEnvC scope cl C X.env) fp) ifs tt)
    (he : ∀ (s : Shared) (H : Hp) (C : Addr) (cl : List (Str × Addr)) (fp : List Addr), PE (X.blk s H scope (compEnvC scope cl C X.env) fp) elt te) (hs : ∀ x, foldedSetIterable iter X.env x = pure x := by intro _; rfl) :
    PS X (.Assign [.Name y py] (.ListComp elt [⟨tg, iter, ifs, 0⟩] scope pos) spos) (tAsg (tLcG (tIgP tc) g tt te (own.map (·.2))) (gName i)) := by
  refine ⟨fun pins s σ H D I h => ?_⟩
  rw [exec_Assign_Name_used _ _ _ _ hsw]
  refine wpAny_bind (wpAny_standAt (wpAny_bind ?_))
  show wpAny _ X.A (do let _ ← comprehension (.ListComp elt [⟨tg, iter, ifs, 0⟩] scope pos) scope X.env (firstIterPos [⟨tg, iter, ifs, 0⟩] pos) (newList []) false (eval iter X.env) (some (assign (.Name y py) X.env))) _ _ s
  have h : tLcG (tIgP tc) g tt te (own.map (·.2)) σ H (fun x H1 => gName i x σ H1 D.nx) := h
  refine wpAny_bind (thn (lc_coreG (Qf := fun _ s' => SP X pins D .next s') hN I hi hr hr1 ok hnc hg ht he hs h fun L C s' m H' I' q hn f => ?_) fun _ s' hq => wpAny_pure (wpAny_pure hq))
  show wpAny _ _ (assign (.Name y py) X.env (.ref L)) _ _ _
  refine wpAny_assign_Name (store_ok2 (v := V.ref L) I' hN hy (.inl hyl) rfl (fun s2 I2 ⟨a, sb, ha⟩ => ?_) (.inr hyl))
  obtain ⟨f0, f1, f2, f3, f4, f5⟩ := f
  have haC : C ≠ a := by
    rcases ha with z | z
    · rw [z]; exact f1
    · exact fun e => f4 y a z e.symm
  refine ⟨m, hn.sameBut sb haC, fun h3 sb3 => ?_⟩
  exact ⟨_, H', I2.turned (t' := s2.toks) (fun b o hb e => (sb3.2 b hb).trans e) f0 f1 f3 f4 f5, q⟩
end
end G
/-! ### yield from a new list -/
namespace G
open PySem L2 PyProof.Rows
open Sem (wp)
section
variable {M : Model} {A : Around} {Φ : End → Shared → Prop} {c : Code} {fs : List Frame} {s : Shared}
theorem sg_bind {α : Type} {m : Sem α} {f : α → Sem PySem.Fin} (h : wpAny M (A.over c fs) m (fun a z => Sg M A Φ c (f a) fs z) (fun x z => Sg M A Φ c (.raise x) fs z) s) : Sg M A Φ c (m >>= f) fs s := by
  rw [Sem.bind_eq_wrap']; exact sg_wrap h
end
section
variable {prog : Program} {w : World} {A : Around} {E : Value → Shared → Prop} {s : Shared}
theorem spc_item {it l : Addr} {i : Nat} {items : Array Value} {x : Value} {Q : Option Value → Shared → Prop} (hit : s.heap.IsListIter it l i) (hl : s.heap.IsList l items) (hx : items[i]? = some x)
    (hQ : ∀ h', h'.IsListIter it l (i + 1) → Heap.SameBut it s.heap h' → Q (some x) { s with heap := h' }) : wpAny (model prog w) A (callSpecial? (.ref it) "__next__") Q E s := by
  obtain ⟨o, ho, hc, hd⟩ := id hit; obtain ⟨ol, hol, _, nl, hdl⟩ := hl
  refine wpAny_callSpecial?_slot (name := Str.ofString "__next__") hit.typeIs slot_listiter_next (wpAny_call_entry slot_listiter_next hit.typeIs entry_listiter_next ?_ (args_listiter_next _))
  show wpAny _ _ (field (.ref it) 0 >>= _) _ _ s; refine wpAny_bind (wpAny_field ho hd (x := .ref l) rfl ?_)
  show wpAny _ _ (if (Value.ref l == Value.none) = true then _ else _) _ _ s; rw [if_neg (show ¬ ((Value.ref l == Value.none) = true) from Bool.false_ne_true)]
  show wpAny _ _ (field (.ref it) 1 >>= _) _ _ s; refine wpAny_bind (wpAny_field ho hd (x := .int i 0) rfl ?_)
  show wpAny _ _ (seqItems? (.ref l) >>= _) _ _ s; refine wpAny_bind (wpAny_seqItems hol hdl ?_); simp only [Int.toNat_natCast, hx]
  refine wpAny_bind (wpAny_setField ho hd (by simp) (wpAny_pure ⟨x, rfl, hQ _ ⟨_, Heap.get?_update_self _ ho (Obj.isFreed_of_fields (Obj.data_mapFields hd _)), (Obj.cls_mapFields ..).trans hc, ?_⟩ (Heap.SameBut.update ..)⟩)); rw [Obj.data_mapFields hd]; simp [rawInt]
theorem spc_end {it l : Addr} {i : Nat} {items : Array Value} {Q : Option Value → Shared → Prop} (hh : A.handled = none) (hit : s.heap.IsListIter it l i) (hl : s.heap.IsList l items) (hx : items[i]? = none)
    (hE : ∀ e h', StopX e h' → Heap.ExtBut it s.heap h' → E e { s with heap := h' }) : wpAny (model prog w) A (callSpecial? (.ref it) "__next__") Q E s := by
  obtain ⟨o, ho, hc, hd⟩ := id hit; obtain ⟨ol, hol, _, nl, hdl⟩ := hl
  refine wpAny_callSpecial?_slot (name := Str.ofString "__next__") hit.typeIs slot_listiter_next (wpAny_call_entry slot_listiter_next hit.typeIs entry_listiter_next ?_ (args_listiter_next _))
  show wpAny _ _ (field (.ref it) 0 >>= _) _ _ s; refine wpAny_bind (wpAny_field ho hd (x := .ref l) rfl ?_)
  show wpAny _ _ (if (Value.ref l == Value.none) = true then _ else _) _ _ s; rw [if_neg (show ¬ ((Value.ref l == Value.none) = true) from Bool.false_ne_true)]
  show wpAny _ _ (field (.ref it) 1 >>= _) _ _ s; refine wpAny_bind (wpAny_field ho hd (x := .int i 0) rfl ?_)
  show wpAny _ _ (seqItems? (.ref l) >>= _) _ _ s; refine wpAny_bind (wpAny_seqItems hol hdl ?_); simp only [Int.toNat_natCast, hx]
  refine wpAny_bind (wpAny_rule (wpAny_bind (wpAny_setField ho hd (by simp) ?_))); show wpAny _ _ (newExc (.type "StopIteration") [] >>= _) _ _ _; refine wpAny_bind ?_; simp only [newExc, newTuple]
  refine wpAny_bind (wpAny_newObj_type ?_ (by size_fits)); refine wpAny_bind (m := firstArgMember _ _) (wpAny_of_eq (a := Value.none) (by first | rfl | (simp only [firstArgMember]; rfl)) ?_)
  refine wpAny_newObj_type ?_ (by size_fits); simp only [raiseNew]; refine wpAny_bind (wpAny_handled ?_)
  first | rw [show A.in1.handled = none from hh] | rw [hh]
  refine wpAny_bind (wpAny_pure (wpAny_throw ?_)); refine hE _ _ ⟨_, _, _, rfl, Heap.get?_push_size _ rfl, rfl, rfl, ?_⟩ (((Heap.SameBut.update ..).extBut.push _).push _)
  first | rfl | (rw [Array.getElem?_append_left (by decide)]; rfl) | kernel_rfl
theorem close_lst : typeLookup (.type "list_iterator") "close" = pure none := by rw [typeLookup_type, builtinLookup_eq_fast]; kernel_rfl
end
/-- the list at a is walked and handed out -/
def tGyf (te : TE) : TGm := fun C D m Hr σ H => te σ H fun x H1 => ∃ a xs, x = .ref a ∧ H1 a = some (.lst xs) ∧ ∀ od, ∃ W : Nat → Nat → Hp → Hp → Prop, W 0 m Hr (upd H1 a (.frz od (.lst xs))) ∧
  (∀ i v m Hr H, xs[i]? = some v → W i m Hr H → H a = some (.frz od (.lst xs)) ∧ ∃ m', m = m' + 1 ∧ C.yl m Hr v H ∧ ∀ H2, C.ok m' H H2 → W (i + 1) m' H2 H2) ∧ ∀ m Hr H, W xs.length m Hr H → H a = some (.frz od (.lst xs)) ∧ D.nx m Hr σ H
section
variable {P : Program} {w : World} {K : PySem.W.Frag} {mg : Str → Option Value} {base : Heap} {N : List Str} {qual : Str} {scope : Scope} {f : Addr} {cd : Value} {A : Around} {outer : List PySem.Env} {L : Addr}
theorem gt_yf {e : Expr} {yp pos : Pos} {te : TE} (he : ∀ sb H0, PE (gcx P w K mg base N qual scope f cd A outer L sb H0) e te) (hi : interactive (envOfC qual scope L f cd) = false := by rfl) : GTs P w K mg base N qual scope f cd A outer L (.Expr (.YieldFrom e yp) pos) (tGyf te) := by
  refine ⟨fun C D m V ip c fs Kf J gd lv s σ H g k I ht => ?_⟩
  show Sg _ A _ c ((exec (.Expr (.YieldFrom e yp) pos) (envOfC qual scope L f cd)).wrap Kf J gd lv) fs s
  rw [exec_Expr _ _ pos hi rfl]
  show Sg _ A _ c (.at pos fun _ => ((eval e (envOfC qual scope L f cd) >>= fun v => (standAt yp >>= fun _ => yieldFrom (envOfC qual scope L f cd) v)) >>= fun x => dropValue (.YieldFrom e yp) pos x).wrap Kf J gd lv) fs s
  refine sg_at ?_
  rw [Sem.bind_eq_wrap', Sem.bind_eq_wrap', Sem.wrap_wrap, Sem.wrap_wrap]
  refine sg_wrap ?_
  rw [g.over]
  refine wpAny_mono ((he (tr L V.s) V.H).run _ s σ H _ I.2 ht) (fun v s1 hs => ?_) fun x s' hx => hx.elim
  obtain ⟨x, H1, I1, r1, a, xs, ex, ha, hod⟩ := hs
  subst ex
  obtain rfl : v = Value.ref a := r1
  obtain ⟨od, I2⟩ := I1.lock ha trivial
  obtain ⟨W, w0, step, done⟩ := hod od
  have hfrz : upd H1 a (.frz od (.lst xs)) a = some (.frz od (.lst xs)) := upd_same
  obtain ⟨hgo, hlen, its, nn, rits, hget⟩ := I2.hok a _ hfrz
  have hL : s1.heap.IsList a its.toArray := ⟨_, hget, rfl, nn, rfl⟩
  have eo : od = { cls := .type "list", data := .seq its.toArray nn } := by rw [hgo] at hget; exact Option.some.inj hget
  refine sg_at ?_
  show Sg (model P w) A _ c ((yieldFrom (envOfC qual scope L f cd) (.ref a)).wrap (fun b => (dropValue (.YieldFrom e yp) pos b).wrap Kf J gd lv) _ _ _) fs s1
  unfold yieldFrom
  refine sg_bindW (wpAny_typeOf hL.typeIs ?_)
  rw [if_neg (show ¬ ((Value.type "list" == Value.type "coroutine") = true) from by decide)]
  refine sg_bindW (wpAny_holding ?_)
  rw [g.over]
  refine wpAny_pyIter_list hL ?_
  generalize hit0 : s1.heap.objs.size = it
  have hitn : ∀ {b : Addr} {o : Obj}, s1.heap.get? b = some o → b ≠ it := fun {b o} q => by rw [← hit0]; exact Nat.ne_of_lt (Heap.lt_size q)
  have I3 : Inv (gcx P w K mg base N qual scope f cd A outer L (tr L V.s) V.H) (V.pins ++ ip) σ (upd H1 a (.frz od (.lst xs))) { s1 with heap := s1.heap.push { cls := .type "list_iterator", data := .fields #[.ref a, .int 0 0] } } := I2.kept (t' := s1.toks) fun b o q => Heap.get?_push_of_some _ q
  have hit1 : ({ s1 with heap := s1.heap.push { cls := .type "list_iterator", data := .fields #[.ref a, .int 0 0] } } : Shared).heap.IsListIter it a 0 := by
    rw [← hit0]; exact ⟨_, Heap.get?_push_size _ rfl, rfl, rfl⟩
  have hitN : upd H1 a (.frz od (.lst xs)) it = none := by rw [← hit0]; exact I2.hok.fresh (Nat.le_refl _)
  have hLit : L < it := by
    have := I2.lt
    rw [← hit0]; exact this
  have hpit : ∀ p ∈ V.pins ++ ip, p.1 ≠ it := fun p hp => hitn (I2.pin p (show p ∈ [] ++ (V.pins ++ ip) from hp)).1
  have hipit : ∀ p ∈ ip, p.1 ≠ it := fun p hp => hpit p (List.mem_append_right _ hp)
  have hA : (A.deeper (envOfC qual scope L f cd)).handled = none := I2.ok.hd rfl
  refine sg_call fun q => ?_
  generalize hs2 : ({ s1 with heap := s1.heap.push { cls := .type "list_iterator", data := .fields #[.ref a, .int 0 0] } } : Shared) = s2 at I3 hit1 ⊢
  have rl : its.toArray.size = xs.length := by rw [List.size_toArray]; exact rits.length.symm
  have hden : (model P w).den (.builtin "proto.yield_from" ⟨[.ref it, .bool false, .none], []⟩) = Builtin.«proto.yield_from» ⟨[.ref it, .bool false, .none], []⟩ := den_yf (X := gcx P w K mg base N qual scope f cd A outer L V.s V.H)
  have key : ∀ (kk : Result → Sem PySem.Fin) (lvv : List Value), (∀ m V s', GOut P w K mg base N qual scope f cd A outer L D m V ip .next s' → Sg (model P w) A (Fut P w K mg base N qual scope f cd A outer L C m V) c (kk (.ok (.ret .none))) fs s') →
      ∀ (r j m : Nat) (V : View) (s : Shared) (H : Hp), j + r = xs.length → W j m V.H H → GIn P w K mg base N qual scope f cd A outer L V ip σ H s → s.heap.IsListIter it a j → H it = none → (∀ p ∈ V.pins ++ ip, p.1 ≠ it) →
      Sg (model P w) A (Fut P w K mg base N qual scope f cd A outer L C m V) (.builtin "proto.yield_from" ⟨[.ref it, .bool false, .none], []⟩) ((model P w).den (.builtin "proto.yield_from" ⟨[.ref it, .bool false, .none], []⟩)) (.ret kk none (gd false) lvv c q [] :: fs) s := by
    intro kk lvv hkk r
    have ho : (A.over (.builtin "proto.yield_from" ⟨[.ref it, .bool false, .none], []⟩) (.ret kk none (gd false) lvv c q [] :: fs)).handled = none := by
      show (A.over c fs).handled = none
      rw [g.over]; exact hA
    have turned : ∀ {V : View} {s : Shared} {H : Hp} {h' : Heap} {tk : Nat}, GIn P w K mg base N qual scope f cd A outer L V ip σ H s → H it = none → (∀ p ∈ V.pins ++ ip, p.1 ≠ it) → (∀ b o, b ≠ it → s.heap.get? b = some o → h'.get? b = some o) → GIn P w K mg base N qual scope f cd A outer L V ip σ H { s with heap := h', toks := tk } := fun {V s H h' tk} hI hn hp hk => by
      refine ⟨hI.1, hI.2.turned (it := it) hk hn (Nat.ne_of_gt hLit) (.inr ?_) (fun x c h1 => ?_) hp⟩
      · show (trH L V.s.heap).objs.size ≤ it
        rw [trH_size (Nat.le_of_lt hI.1.1)]; exact Nat.le_of_lt hLit
      · obtain ⟨v, o, ho, hd⟩ := I2.cell x c h1
        exact hitn ho
    obtain ⟨hsp, hgd⟩ : splitAtGen (.ret kk none (gd false) lvv c q [] :: fs) = none ∧ (Frame.ret kk none (gd false) lvv c q [] :: fs).any Frame.guarded = false := by
      constructor
      · show (splitAtGen fs).map _ = none
        rw [g.split]; rfl
      · show (gd false || fs.any Frame.guarded) = false
        rw [g.gd, g.guard]; rfl
    have lst : ∀ {V : View} {s : Shared} {H : Hp}, GIn P w K mg base N qual scope f cd A outer L V ip σ H s → H a = some (.frz od (.lst xs)) → s.heap.IsList a its.toArray := fun {V s H} hI hz => by
      have := (hI.2.hok a _ hz).1
      rw [eo] at this
      exact ⟨_, this, rfl, nn, rfl⟩
    induction r with
    | zero =>
      intro j m V s H hj hw hI hit hn hp
      have hj' : j = xs.length := by omega
      subst hj'
      obtain ⟨hz, hnx⟩ := done m V.H H hw
      have hl := lst hI hz
      rw [hden]
      unfold Builtin.«proto.yield_from»
      try dsimp only
      refine sg_bind (wpAny_pure ?_)
      try dsimp only
      refine sg_bind (wpAny_attempt (wpAny_holding ?_))
      rw [if_neg Bool.false_ne_true, if_pos (show (Value.none == Value.none) = true from rfl)]
      refine wpAny_bind (wpAny_rule (wpAny_bind ?_))
      refine spc_end ho hit hl (by rw [Array.getElem?_eq_none_iff, rl]; exact Nat.le_refl _) fun e' h' hS hk => ?_
      obtain ⟨b, o, vs, rfl, hoa, hcls, hdat, h5⟩ := hS
      try dsimp only
      refine sg_bind (wpAny_endsTurn hoa hcls ?_)
      try dsimp only
      rw [if_pos rfl]
      first
        | refine sg_bind (wpAny_rule ?_)
        | (rw [if_neg Bool.false_ne_true]; refine sg_bind (wpAny_rule ?_))
        | (rw [if_neg Bool.false_ne_true]; refine sg_bind (wpAny_pure ?_); refine sg_bind (wpAny_rule ?_))
      refine sg_bind (wpAny_field hoa hdat h5 ?_)
      have hI' := turned (tk := s.toks) hI hn hp (fun b o hb eb => hk b o hb eb)
      exact sg_leaf (.ok (.ret .none)) (hkk m V _ ⟨hI.1, σ, H, hI'.2, hnx⟩)
    | succ r ih =>
      intro j m V s H hj hw hI hit hn hp
      obtain ⟨x, hx⟩ : ∃ x, xs[j]? = some x := ⟨xs[j]'(by omega), List.getElem?_eq_getElem (by omega)⟩
      obtain ⟨hz, m', rfl, hyl, hnx⟩ := step j x m V.H H hx hw
      have hl := lst hI hz
      obtain ⟨u, hu, ru⟩ := rits.get hx
      rw [hden]
      unfold Builtin.«proto.yield_from»
      try dsimp only
      refine sg_bind (wpAny_pure ?_)
      try dsimp only
      refine sg_bind (wpAny_attempt (wpAny_holding ?_))
      rw [if_neg Bool.false_ne_true, if_pos (show (Value.none == Value.none) = true from rfl)]
      refine wpAny_bind (wpAny_rule (wpAny_bind ?_))
      refine spc_item hit hl (x := u) (by simpa using hu) fun h' hit' hsb => ?_
      have hI' := turned (tk := s.toks) hI hn hp (fun b o hb eb => hsb.extBut b o hb eb)
      obtain ⟨oi, hoi, hoc, hod2⟩ := id hit'
      refine wpAny_pure ?_
      try dsimp only
      refine sg_bind (wpAny_typeOf (T := "list_iterator") ⟨oi, hoi, hoc⟩ ?_)
      try dsimp only
      first
        | (refine sg_bind (wpAny_of_eq close_lst ?_); refine sg_bind (wpAny_pure ?_))
        | refine sg_bind (wpAny_bind (wpAny_of_eq close_lst (wpAny_pure ?_)))
        | refine sg_bind (wpAny_of_eq close_lst ?_)
      try dsimp only
      refine sg_bind (wpAny_sleptOver hoi hoc (by decide) ?_)
      refine sg_yield hsp fun q2 => ?_
      have coi : ∀ v, oi.data ≠ .cell v := fun v z => by rw [hod2] at z; cases z
      have sz : (tr L V.s).heap.objs.size = L := trH_size (Nat.le_of_lt hI.1.1)
      have Ip : Inv (gcx P w K mg base N qual scope f cd A outer L (tr L V.s) V.H) (V.pins ++ (ip ++ [(it, oi)])) σ H { s with heap := h' } := by
        refine hI'.2.pins_of fun p hp2 => ?_
        rcases List.mem_append.mp hp2 with z | z
        · obtain ⟨h1, h2, h3, h4, h5⟩ := hI'.2.pin p (show p ∈ V.pins ++ ip from List.mem_append_left _ z)
          exact ⟨h1, h2, h3, h4, h5⟩
        · rcases List.mem_append.mp z with z | z
          · obtain ⟨h1, h2, h3, h4, h5⟩ := hI'.2.pin p (show p ∈ V.pins ++ ip from List.mem_append_right _ z)
            exact ⟨h1, h2, h3, h4, h5⟩
          · obtain rfl := List.mem_singleton.mp z
            refine ⟨hoi, hn, Nat.ne_of_gt hLit, fun hf => ?_, coi⟩
            obtain ⟨_, o, hfo, _⟩ := hI'.2.ok.funs.mem hf
            have := Heap.lt_size hfo
            have e : (gcx P w K mg base N qual scope f cd A outer L (tr L V.s) V.H).s_0.heap.objs.size = L := sz
            rw [e] at this
            exact absurd this (Nat.not_lt.mpr (Nat.le_of_lt hLit))
      refine ⟨by simp [End.quiet, hgd], ip ++ [(it, oi)], x, σ, H, ru, ⟨⟨hI.1.1, fun p hp2 q3 hq3 => ?_, fun q3 hq3 => ?_⟩, Ip⟩, hyl, fun V' I' h'' => ?_⟩
      · rcases List.mem_append.mp hq3 with z | z
        · exact hI.1.2.1 p hp2 q3 z
        · obtain rfl := List.mem_singleton.mp z
          exact hp p (List.mem_append_left _ hp2)
      · rcases List.mem_append.mp hq3 with z | z
        · exact hI.1.2.2 q3 z
        · obtain rfl := List.mem_singleton.mp z
          exact hLit
      · obtain ⟨⟨g1, g2, g3⟩, J⟩ := I'
        have hpi := J.pin (it, oi) (show (it, oi) ∈ [] ++ (V'.pins ++ (ip ++ [(it, oi)])) by simp)
        have J2 : Inv (gcx P w K mg base N qual scope f cd A outer L (tr L V'.s) V'.H) (V'.pins ++ ip) σ V'.H V'.s := by
          have : Inv (gcx P w K mg base N qual scope f cd A outer L (tr L V'.s) V'.H) ((V'.pins ++ ip) ++ [(it, oi)]) σ V'.H V'.s := by rw [List.append_assoc]; exact J
          exact this.unpinned
        have hit2 : V'.s.heap.IsListIter it a (j + 1) := ⟨oi, hpi.1, hoc, hod2⟩
        show Sg _ _ _ _ (Builtin.Generator.sleptOver (.ref it) false >>= fun _ => _) _ V'.s
        refine sg_bind (wpAny_sleptOver hpi.1 hoc (by decide) ?_)
        try dsimp only
        refine sg_bind (wpAny_pure ?_)
        refine sg_again (plainId_quiet plain_yf _) (ih (j + 1) m' V' V'.s V'.H (by omega) (hnx V'.H h'') ⟨⟨g1, fun p hp2 q3 hq3 => g2 p hp2 q3 (List.mem_append_left _ hq3), fun q3 hq3 => g3 q3 (List.mem_append_left _ hq3)⟩, J2⟩ hit2 hpi.2.1 fun p hp2 => ?_)
        rcases List.mem_append.mp hp2 with z | z
        · exact g2 p z (it, oi) (by simp)
        · exact hipit p z
  exact key _ _ (fun m V s' ho => k m V .next s' ho) xs.length 0 m V s2 _ (Nat.zero_add _) w0 ⟨I.1, I3⟩ hit1 hitN hpit
end
end G
/-! ### data apart from the heap: values, what holds them, steps -/
namespace G
open PySem PySem.Spec PyProof.Rows L2
inductive Da where
  | non | bl (b : Bool) | int (i : Int) | str (s : Str)
  | lst (xs : List Da) | tup (xs : List Da)
  | obj (C : Addr) (fs : List (Str × Da))
  | own (xs : List Da) | dr | scr (ns : List Int) | adr (a : Addr) | ty (n : String)
/-- a list that is never written -/
def SqF (K : PySem.W.Frag) (H : Hp) (a : Addr) (xs : List V) : Prop := (∃ o, H a = some (.frz o (.lst xs))) ∨
    ∃ (o : Obj) (its : Array Value) (n : Nat), K.lookup a = some o ∧ o.cls = .type "list" ∧ o.dict = none ∧ o.data = .seq its n ∧ its.size ≤ sizeLine ∧ Vals xs its.toList
theorem SqF.sq {K : PySem.W.Frag} {H : Hp} {a : Addr} {xs : List V} (h : SqF K H a xs) : SqL K H a xs := by
  rcases h with ⟨o, h⟩ | h
  · exact .inl (.inr ⟨o, h⟩)
  · exact .inr h
mutual
/-- v holds d; no list within it is one of N -/
inductive Rep (K : PySem.W.Frag) (N : Addr → Prop) (H : Hp) : V → Da → Prop where
  | non : Rep K N H .non .non
  | bl (b : Bool) : Rep K N H (.bl b) (.bl b)
  | int (i : Int) : Rep K N H (.int i) (.int i)
  | str (s : Str) : Rep K N H (.str s) (.str s)
  | lst {a : Addr} {vs : List V} {xs : List Da} : ¬ N a → H a = some (.lst vs) → Reps K N H vs xs → Rep K N H (.ref a) (.lst xs)
  | tup {a : Addr} {vs : List V} {xs : List Da} : SqT K H a vs → Reps K N H vs xs → Rep K N H (.ref a) (.tup xs)
  | obj {a C dx : Addr} {fs : List (Str × V)} {ds : List (Str × Da)} : H a = some (.ins C dx fs) → RepF K N H fs ds → Rep K N H (.ref a) (.obj C ds)
  | scr {a : Addr} {ns : List Int} : SqF K H a (ns.map V.int) → Rep K N H (.ref a) (.scr ns)
  | adr (a : Addr) : Rep K N H (.ref a) (.adr a)
  | ty (n : String) : Rep K N H (.ty n) (.ty n)
inductive Reps (K : PySem.W.Frag) (N : Addr → Prop) (H : Hp) : List V → List Da → Prop where
  | nil : Reps K N H [] []
  | cons {v : V} {vs : List V} {d : Da} {ds : List Da} : Rep K N H v d → Reps K N H vs ds → Reps K N H (v :: vs) (d :: ds)
inductive RepF (K : PySem.W.Frag) (N : Addr → Prop) (H : Hp) : List (Str × V) → List (Str × Da) → Prop where
  | nil : RepF K N H [] []
  | cons {n : Str} {v : V} {fs : List (Str × V)} {d : Da} {ds : List (Str × Da)} : Rep K N H v d → RepF K N H fs ds → RepF K N H ((n, v) :: fs) ((n, d) :: ds)
end
def Lists (N : Addr → Prop) (H : Hp) : Prop := ∀ a, N a → ∃ xs, H a = some (.lst xs)
def Stay (N : Addr → Prop) (H H' : Hp) : Prop := ∀ b o, ¬ N b → H b = some o → H' b = some o
section
variable {K : PySem.W.Frag} {N N' : Addr → Prop} {H H' : Hp}
/-- what stands at these is a list -/
def LW (N : Addr → Prop) (H : Hp) : Prop := ∀ a, N a → ∀ o, H a = some o → ∃ xs, o = .lst xs
theorem Lists.lw (h : Lists N H) : LW N H := fun a z o e => by
  obtain ⟨xs, q⟩ := h a z
  rw [e] at q; cases q
  exact ⟨xs, rfl⟩
theorem LW.no {a : Addr} {o : HO} (h : LW N H) (e : H a = some o) (n : ∀ xs, o ≠ .lst xs) : ¬ N a := fun z => by
  obtain ⟨xs, q⟩ := h a z o e
  exact n xs q
theorem sqT_stay {a : Addr} {xs : List V} (hl : LW N H) (s : Stay N H H') (h : SqT K H a xs) : SqT K H' a xs := by
  rcases h with (h | ⟨o, h⟩) | h
  · exact .inl (.inl (s _ _ (hl.no h (fun _ z => nomatch z)) h))
  · exact .inl (.inr ⟨o, s _ _ (hl.no h (fun _ z => nomatch z)) h⟩)
  · exact .inr h
theorem sqF_stay {a : Addr} {xs : List V} (hl : LW N H) (s : Stay N H H') (h : SqF K H a xs) : SqF K H' a xs := by
  rcases h with ⟨o, h⟩ | h
  · exact .inl ⟨o, s _ _ (hl.no h (fun _ z => nomatch z)) h⟩
  · exact .inr h
mutual
theorem Rep.stay (hl : LW N H) (s : Stay N H H') : ∀ {v : V} {d : Da}, Rep K N H v d → Rep K N H' v d
  | _, _, .non => .non
  | _, _, .bl b => .bl b
  | _, _, .int i => .int i
  | _, _, .str x => .str x
  | _, _, .lst n h r => .lst n (s _ _ n h) (Reps.stay hl s r)
  | _, _, .tup h r => .tup (sqT_stay hl s h) (Reps.stay hl s r)
  | _, _, .obj h r => .obj (s _ _ (hl.no h (fun _ z => nomatch z)) h) (RepF.stay hl s r)
  | _, _, .scr h => .scr (sqF_stay hl s h)
  | _, _, .adr a => .adr a
  | _, _, .ty n => .ty n
theorem Reps.stay (hl : LW N H) (s : Stay N H H') : ∀ {vs : List V} {ds : List Da}, Reps K N H vs ds → Reps K N H' vs ds
  | _, _, .nil => .nil
  | _, _, .cons h r => .cons (Rep.stay hl s h) (Reps.stay hl s r)
theorem RepF.stay (hl : LW N H) (s : Stay N H H') : ∀ {fs : List (Str × V)} {ds : List (Str × Da)}, RepF K N H fs ds → RepF K N H' fs ds
  | _, _, .nil => .nil
  | _, _, .cons h r => .cons (Rep.stay hl s h) (RepF.stay hl s r)
end
mutual
/-- other addresses that must not be within: those are no lists here, or were so before -/
theorem Rep.other (h : ∀ a, N' a → N a ∨ ∀ xs, H a ≠ some (.lst xs)) : ∀ {v : V} {d : Da}, Rep K N H v d → Rep K N' H v d
  | _, _, .non => .non
  | _, _, .bl b => .bl b
  | _, _, .int i => .int i
  | _, _, .str x => .str x
  | _, _, .lst n e r => .lst (fun z => (h _ z).elim n fun y => y _ e) e (Reps.other h r)
  | _, _, .tup e r => .tup e (Reps.other h r)
  | _, _, .obj e r => .obj e (RepF.other h r)
  | _, _, .scr e => .scr e
  | _, _, .adr a => .adr a
  | _, _, .ty n => .ty n
theorem Reps.other (h : ∀ a, N' a → N a ∨ ∀ xs, H a ≠ some (.lst xs)) : ∀ {vs : List V} {ds : List Da}, Reps K N H vs ds → Reps K N' H vs ds
  | _, _, .nil => .nil
  | _, _, .cons e r => .cons (Rep.other h e) (Reps.other h r)
theorem RepF.other (h : ∀ a, N' a → N a ∨ ∀ xs, H a ≠ some (.lst xs)) : ∀ {fs : List (Str × V)} {ds : List (Str × Da)}, RepF K N H fs ds → RepF K N' H fs ds
  | _, _, .nil => .nil
  | _, _, .cons e r => .cons (Rep.other h e) (RepF.other h r)
end
mutual
/-- to another heap and other addresses that must not be within -/
theorem Rep.go (hl : LW N H) (s : Stay N H H') (nw : ∀ a, N' a → N a ∨ H a = none) : ∀ {v : V} {d : Da}, Rep K N H v d → Rep K N' H' v d
  | _, _, .non => .non
  | _, _, .bl b => .bl b
  | _, _, .int i => .int i
  | _, _, .str x => .str x
  | _, _, .lst n h r => .lst (fun z => (nw _ z).elim n fun y => by rw [y] at h; cases h) (s _ _ n h) (Reps.go hl s nw r)
  | _, _, .tup h r => .tup (sqT_stay hl s h) (Reps.go hl s nw r)
  | _, _, .obj h r => .obj (s _ _ (hl.no h (fun _ z => nomatch z)) h) (RepF.go hl s nw r)
  | _, _, .scr h => .scr (sqF_stay hl s h)
  | _, _, .adr a => .adr a
  | _, _, .ty n => .ty n
theorem Reps.go (hl : LW N H) (s : Stay N H H') (nw : ∀ a, N' a → N a ∨ H a = none) : ∀ {vs : List V} {ds : List Da}, Reps K N H vs ds → Reps K N' H' vs ds
  | _, _, .nil => .nil
  | _, _, .cons h r => .cons (Rep.go hl s nw h) (Reps.go hl s nw r)
theorem RepF.go (hl : LW N H) (s : Stay N H H') (nw : ∀ a, N' a → N a ∨ H a = none) : ∀ {fs : List (Str × V)} {ds : List (Str × Da)}, RepF K N H fs ds → RepF K N' H' fs ds
  | _, _, .nil => .nil
  | _, _, .cons h r => .cons (Rep.go hl s nw h) (RepF.go hl s nw r)
end
theorem Reps.length : ∀ {vs : List V} {ds : List Da}, Reps K N H vs ds → vs.length = ds.length
  | _, _, .nil => rfl
  | _, _, .cons _ r => congrArg (· + 1) (Reps.length r)
theorem Reps.get : ∀ {vs : List V} {ds : List Da} {i : Nat} {d : Da}, Reps K N H vs ds → ds[i]? = some d → ∃ v, vs[i]? = some v ∧ Rep K N H v d
  | _, _, _, _, .nil, e => by simp at e
  | _, _, 0, _, .cons h _, e => by simp at e; subst e; exact ⟨_, rfl, h⟩
  | _, _, i + 1, _, .cons _ r, e => by
    obtain ⟨v, q⟩ := Reps.get (i := i) r (by simpa using e)
    exact ⟨v, by simpa using q.1, q.2⟩
theorem Reps.get' {vs : List V} {ds : List Da} {i : Nat} {v : V} (r : Reps K N H vs ds) (e : vs[i]? = some v) : ∃ d, ds[i]? = some d ∧ Rep K N H v d := by
  have hl := r.length
  have hi : i < vs.length := (List.getElem?_eq_some_iff.mp e).1
  obtain ⟨w, e1, e2⟩ := r.get (i := i) (d := ds[i]'(by omega)) (by simp)
  rw [e] at e1; cases e1
  exact ⟨_, by simp, e2⟩
theorem Reps.app : ∀ {vs ws : List V} {ds es : List Da}, Reps K N H vs ds → Reps K N H ws es → Reps K N H (vs ++ ws) (ds ++ es)
  | _, _, _, _, .nil, q => q
  | _, _, _, _, .cons h r, q => .cons h (Reps.app r q)
theorem Reps.take : ∀ {vs : List V} {ds : List Da} (n : Nat), Reps K N H vs ds → Reps K N H (vs.take n) (ds.take n)
  | _, _, 0, _ => .nil
  | _, _, _ + 1, .nil => .nil
  | _, _, n + 1, .cons h r => .cons h (Reps.take n r)
theorem Reps.drop : ∀ {vs : List V} {ds : List Da} (n : Nat), Reps K N H vs ds → Reps K N H (vs.drop n) (ds.drop n)
  | _, _, 0, h => h
  | _, _, _ + 1, .nil => .nil
  | _, _, n + 1, .cons _ r => Reps.drop n r
theorem Reps.rev : ∀ {vs : List V} {ds : List Da}, Reps K N H vs ds → Reps K N H vs.reverse ds.reverse
  | _, _, .nil => .nil
  | _, _, .cons h r => by
    rw [List.reverse_cons, List.reverse_cons]
    exact (Reps.rev r).app (.cons h .nil)
theorem Reps.set {v : V} {d : Da} (h : Rep K N H v d) : ∀ {vs : List V} {ds : List Da} (i : Nat), Reps K N H vs ds → Reps K N H (vs.set i v) (ds.set i d)
  | _, _, _, .nil => .nil
  | _, _, 0, .cons _ r => .cons h r
  | _, _, i + 1, .cons e r => .cons e (Reps.set h i r)
theorem Reps.pick : ∀ (is : List Nat) {vs : List V} {ds : List Da}, Reps K N H vs ds → Reps K N H (is.filterMap (vs[·]?)) (is.filterMap (ds[·]?))
  | [], _, _, _ => .nil
  | i :: is, vs, ds, r => by
    have ih := Reps.pick is r
    rw [List.filterMap_cons, List.filterMap_cons]
    cases e : ds[i]? with
    | none =>
      have : vs[i]? = none := by
        have hl := r.length
        rw [List.getElem?_eq_none_iff] at e ⊢; omega
      rw [this]; exact ih
    | some d =>
      obtain ⟨v, e2, rv⟩ := r.get e
      rw [e2]; exact .cons rv ih
theorem Reps.ints : ∀ {vs : List V} {ns : List Int}, Reps K N H vs (ns.map Da.int) → vs = ns.map V.int
  | _, [], h => by cases h; rfl
  | _, n :: ns, h => by
    cases h with
    | cons h r => cases h; rw [Reps.ints r]; rfl
theorem Reps.of_ints : ∀ ns : List Int, Reps K N H (ns.map V.int) (ns.map Da.int)
  | [] => .nil
  | n :: ns => .cons (.int n) (Reps.of_ints ns)
theorem Reps.bls : ∀ {vs : List V} {bs : List Bool}, Reps K N H vs (bs.map Da.bl) → vs = bs.map V.bl
  | _, [], h => by cases h; rfl
  | _, n :: ns, h => by
    cases h with
    | cons h r => cases h; rw [Reps.bls r]; rfl
theorem RepF.look {f : Str} {d : Da} : ∀ {fs : List (Str × V)} {ds : List (Str × Da)}, RepF K N H fs ds → ds.lookup f = some d → ∃ v, fs.lookup f = some v ∧ Rep K N H v d
  | _, _, .nil, e => by simp at e
  | _, _, .cons (n := n) h r, e => by
    rw [List.lookup_cons] at e ⊢
    cases q : f == n with
    | true => rw [q] at e; cases e; exact ⟨_, rfl, h⟩
    | false => rw [q] at e; exact RepF.look r e
theorem RepF.none {f : Str} : ∀ {fs : List (Str × V)} {ds : List (Str × Da)}, RepF K N H fs ds → ds.lookup f = none → fs.lookup f = none
  | _, _, .nil, _ => rfl
  | _, _, .cons (n := n) h r, e => by
    rw [List.lookup_cons] at e ⊢
    cases q : f == n with
    | true => rw [q] at e; cases e
    | false => rw [q] at e; exact RepF.none r e
end
/-! ### steps -/
/-- all but the draws stands -/
structure Mv (l : Option Addr) (H H' : Hp) : Prop where
  kp : ∀ b o, some b ≠ l → H b = some o → H' b = some o
  dr : ∀ a, l = some a → DrAt H a → DrAt H' a
theorem Mv.refl (l : Option Addr) (H : Hp) : Mv l H H := ⟨fun _ _ _ h => h, fun _ _ h => h⟩
theorem Mv.trans {l : Option Addr} {H H1 H2 : Hp} (a : Mv l H H1) (b : Mv l H1 H2) : Mv l H H2 := ⟨fun c o n h => b.kp c o n (a.kp c o n h), fun c e h => b.dr c e (a.dr c e h)⟩
theorem Mv.of_same {l : Option Addr} {H H1 : Hp} (s : Same H H1) : Mv l H H1 := ⟨fun b o _ h => s b o h, fun _ _ d => d.same s⟩
theorem Mv.same {H H1 : Hp} (m : Mv none H H1) : Same H H1 := fun b o h => m.kp b o (fun z => nomatch z) h
theorem Mv.new {l : Option Addr} {H H1 : Hp} {p : Addr} {o : HO} (m : Mv l H H1) (h : H1 p = none) : Mv l H (upd H1 p o) := m.trans (.of_same (same_new (Same.refl _) h))
theorem Mv.kp' {a : Addr} {H H1 : Hp} (m : Mv (some a) H H1) : Kp a H H1 := fun b o n h => m.kp b o (fun z => n (Option.some.inj z)) h
theorem Mv.of_kp {a : Addr} {H H1 : Hp} (k : Kp a H H1) (d : DrAt H1 a) : Mv (some a) H H1 := ⟨fun b o n h => k b o (fun z => n (congrArg some z)) h, fun c e _ => by cases e; exact d⟩
abbrev Env := List (Option Da)
/-- v holds d, or is one of this frame's own lists, or the draws -/
inductive RepT (K : PySem.W.Frag) (H0 : Hp) (l : Option Addr) (N : Addr → Prop) (H : Hp) : V → Da → Prop where
  | dat {v : V} {d : Da} : Rep K N H v d → RepT K H0 l N H v d
  | own {a : Addr} {vs : List V} {xs : List Da} : N a → H0 a = none → some a ≠ l → H a = some (.lst vs) → Reps K N H vs xs → RepT K H0 l N H (.ref a) (.own xs)
  | dr {a : Addr} : l = some a → RepT K H0 l N H (.ref a) .dr
/-- l0, H0, N0: the draws, the heap, the lists not to be had as the frame began -/
structure DOk (K : PySem.W.Frag) (l0 : Option Addr) (H0 : Hp) (N0 : Addr → Prop) (l : Option Addr) (N : Addr → Prop) (H : Hp) (σ : L2.St) (env : Env) : Prop where
  ls : Lists N H
  ln : ∀ a, l = some a → N a
  dl : ∀ a, l = some a → DrAt H a
  kp : ∀ b o, some b ≠ l0 → H0 b = some o → H b = some o
  d0 : ∀ a, l0 = some a → DrAt H0 a ∧ DrAt H a
  n0 : ∀ b, N0 b → N b
  ls0 : Lists N0 H0
  lo : l = l0 ∨ ∀ a, l = some a → H0 a = none
  len : σ.length = env.length
  rd : ∀ (i : Nat) (d : Da), env[i]? = some (some d) → ∃ v, σ[i]? = some (some v) ∧ RepT K H0 l N H v d
  dst : ∀ (i j : Nat) (xs ys : List Da) (a : Addr), i ≠ j → env[i]? = some (some (.own xs)) → env[j]? = some (some (.own ys)) → σ[i]? = some (some (.ref a)) → σ[j]? ≠ some (some (.ref a))
section
variable {K : PySem.W.Frag} {l0 l : Option Addr} {H0 H H' : Hp} {N0 N : Addr → Prop} {σ : L2.St} {env : Env} {v : V} {d : Da}
theorem Mv.stay (m : Mv l H H') (ln : ∀ a, l = some a → N a) : Stay N H H' := fun b o n h => m.kp b o (fun z => n (ln b z.symm)) h
theorem DOk.stay (k : DOk K l0 H0 N0 l N H σ env) (m : Mv l H H') : Stay N H H' := m.stay k.ln
theorem DOk.rep (k : DOk K l0 H0 N0 l N H σ env) (m : Mv l H H') (r : Rep K N H v d) : Rep K N H' v d := r.stay k.ls.lw (k.stay m)
theorem DOk.reps (k : DOk K l0 H0 N0 l N H σ env) (m : Mv l H H') {vs : List V} {ds : List Da} (r : Reps K N H vs ds) : Reps K N H' vs ds := r.stay k.ls.lw (k.stay m)
theorem DOk.repT (k : DOk K l0 H0 N0 l N H σ env) (m : Mv l H H') (r : RepT K H0 l N H v d) : RepT K H0 l N H' v d := by
  cases r with
  | dat r => exact .dat (k.rep m r)
  | own h1 h2 h3 h4 r => exact .own h1 h2 h3 (m.kp _ _ h3 h4) (k.reps m r)
  | dr h => exact .dr h
theorem DOk.mv (k : DOk K l0 H0 N0 l N H σ env) (m : Mv l H H') : DOk K l0 H0 N0 l N H' σ env where
  ls := fun a h => by
    obtain ⟨xs, e⟩ := k.ls a h
    by_cases z : some a = l
    · obtain ⟨x, y, q, _⟩ := m.dr a z.symm (k.dl a z.symm)
      exact ⟨_, q⟩
    · exact ⟨xs, m.kp _ _ z e⟩
  ln := k.ln
  dl := fun a e => m.dr a e (k.dl a e)
  kp := fun b o n h => by
    refine m.kp b o (fun z => ?_) (k.kp b o n h)
    rcases k.lo with e | e
    · exact n (z.trans e)
    · rw [e b z.symm] at h; cases h
  d0 := fun a e => by
    obtain ⟨h, z⟩ := k.d0 a e
    refine ⟨h, ?_⟩
    by_cases q : some a = l
    · exact m.dr a q.symm z
    · obtain ⟨x, y, h1, h2⟩ := z
      exact ⟨x, y, m.kp _ _ q h1, h2⟩
  n0 := k.n0
  ls0 := k.ls0
  lo := k.lo
  len := k.len
  rd := fun i d e => by
    obtain ⟨v, h1, h2⟩ := k.rd i d e
    exact ⟨v, h1, k.repT m h2⟩
  dst := k.dst
/-! ### later: own lists may have turned, new own lists may have come -/
structure Later (N : Addr → Prop) (H : Hp) (N' : Addr → Prop) (H' : Hp) : Prop where
  st : Stay N H H'
  nw : ∀ a, N' a → N a ∨ H a = none
theorem Later.refl (N : Addr → Prop) (H : Hp) : Later N H N H := ⟨fun _ _ _ h => h, fun _ h => .inl h⟩
theorem Later.trans {N1 N2 N3 : Addr → Prop} {H1 H2 H3 : Hp} (a : Later N1 H1 N2 H2) (b : Later N2 H2 N3 H3) : Later N1 H1 N3 H3 where
  st := fun c o n h => by
    refine b.st c o (fun z => ?_) (a.st c o n h)
    rcases a.nw c z with y | y
    · exact n y
    · rw [y] at h; cases h
  nw := fun c h => by
    rcases b.nw c h with z | z
    · exact a.nw c z
    · by_cases y : N1 c
      · exact .inl y
      · right
        cases e : H1 c with
        | none => rfl
        | some o => rw [a.st c o y e] at z; cases z
theorem Later.rep {N N' : Addr → Prop} {H H' : Hp} (a : Later N H N' H') (hl : Lists N H) {v : V} {d : Da} (r : Rep K N H v d) : Rep K N' H' v d := Rep.go hl.lw a.st a.nw r
theorem Later.reps {N N' : Addr → Prop} {H H' : Hp} (a : Later N H N' H') (hl : Lists N H) : ∀ {vs : List V} {ds : List Da}, Reps K N H vs ds → Reps K N' H' vs ds
  | _, _, .nil => .nil
  | _, _, .cons h r => .cons (a.rep hl h) (a.reps hl r)
theorem DOk.later (k : DOk K l0 H0 N0 l N H σ env) (m : Mv l H H') : Later N H N H' := ⟨k.stay m, fun _ h => .inl h⟩
theorem upd_get {p b : Addr} {o u : HO} (hp : H p = none) (h : H b = some u) : upd H p o b = some u := by rw [upd_ne (ne_of_none h hp)]; exact h
/-- a new list, of this frame -/
theorem DOk.grow (k : DOk K l0 H0 N0 l N H σ env) {p : Addr} {vs : List V} (hp : H p = none) : DOk K l0 H0 N0 l (fun a => N a ∨ a = p) (upd H p (.lst vs)) σ env ∧ Later N H (fun a => N a ∨ a = p) (upd H p (.lst vs)) ∧ H0 p = none ∧ some p ≠ l := by
  have sm : Same H (upd H p (.lst vs)) := same_new (Same.refl H) hp
  have lt : Later N H (fun a => N a ∨ a = p) (upd H p (.lst vs)) := ⟨fun b o _ e => sm b o e, fun a h => h.imp id fun z => by rw [z]; exact hp⟩
  have h0 : H0 p = none := by
    cases e : H0 p with
    | none => rfl
    | some o =>
      by_cases z : some p = l0
      · obtain ⟨x, y, q, _⟩ := (k.d0 p z.symm).2
        rw [hp] at q; cases q
      · have := k.kp p o z e
        rw [hp] at this; cases this
  have hl : some p ≠ l := fun z => by
    obtain ⟨x, y, q, _⟩ := k.dl p z.symm
    rw [hp] at q; cases q
  refine ⟨⟨fun a h => ?_, fun a e => .inl (k.ln a e), fun a e => (k.dl a e).same sm, fun b o n e => sm b o (k.kp b o n e), fun a e => ⟨(k.d0 a e).1, (k.d0 a e).2.same sm⟩, fun b h => .inl (k.n0 b h), k.ls0, k.lo, k.len, fun i d e => ?_, k.dst⟩, lt, h0, hl⟩
  · rcases h with h | rfl
    · obtain ⟨xs, e⟩ := k.ls a h
      exact ⟨xs, sm _ _ e⟩
    · exact ⟨vs, upd_same⟩
  · obtain ⟨v, h1, h2⟩ := k.rd i d e
    refine ⟨v, h1, ?_⟩
    cases h2 with
    | dat r => exact .dat (lt.rep k.ls r)
    | own a1 a2 a3 a4 r => exact .own (.inl a1) a2 a3 (sm _ _ a4) (lt.reps k.ls r)
    | dr e' => exact .dr e'
/-- an own list is written; no name holds it -/
theorem DOk.put (k : DOk K l0 H0 N0 l N H σ env) {p : Addr} {vs ws : List V} (hp : N p) (h0 : H0 p = none) (hl : some p ≠ l) (e : H p = some (.lst vs)) (hn : ∀ (i : Nat) xs, env[i]? = some (some (.own xs)) → σ[i]? ≠ some (some (.ref p))) :
    DOk K l0 H0 N0 l N (upd H p (.lst ws)) σ env ∧ Later N H N (upd H p (.lst ws)) := by
  have st : Stay N H (upd H p (.lst ws)) := fun b o n h => by
    have nb : b ≠ p := fun z => by subst z; exact n hp
    rw [upd_ne nb]; exact h
  have lt : Later N H N (upd H p (.lst ws)) := ⟨st, fun _ h => .inl h⟩
  have kn : ∀ b o, b ≠ p → H b = some o → upd H p (.lst ws) b = some o := fun b o n h => by rw [upd_ne n]; exact h
  refine ⟨⟨fun a h => ?_, k.ln, fun a q => ?_, fun b o n h => ?_, fun a q => ⟨(k.d0 a q).1, ?_⟩, k.n0, k.ls0, k.lo, k.len, fun i d q => ?_, k.dst⟩, lt⟩
  · by_cases z : a = p
    · subst z; exact ⟨ws, upd_same⟩
    · obtain ⟨xs, e⟩ := k.ls a h
      exact ⟨xs, kn _ _ z e⟩
  · obtain ⟨x, y, h1, h2⟩ := k.dl a q
    exact ⟨x, y, kn _ _ (fun z => by subst z; exact hl q.symm) h1, h2⟩
  · exact kn _ _ (fun z => by subst z; rw [h0] at h; cases h) (k.kp b o n h)
  · obtain ⟨x, y, h1, h2⟩ := (k.d0 a q).2
    refine ⟨x, y, kn _ _ (fun z => ?_) h1, h2⟩
    subst z
    obtain ⟨x, y, h3, _⟩ := (k.d0 a q).1
    rw [h0] at h3; cases h3
  · obtain ⟨v, h1, h2⟩ := k.rd i d q
    refine ⟨v, h1, ?_⟩
    cases h2 with
    | dat r => exact .dat (lt.rep k.ls r)
    | @own a vs' xs' a1 a2 a3 a4 r => exact .own a1 a2 a3 (kn _ _ (fun z => by subst z; exact hn i _ q h1) a4) (lt.reps k.ls r)
    | dr e' => exact .dr e'
/-- own lists that are not written any more -/
def frz : Option Da → Option Da
  | some (.own xs) => some (.lst xs)
  | o => o
theorem frz_some {o : Option Da} {d : Da} (h : frz o = some d) : (o = some d ∧ ∀ xs, d ≠ .own xs) ∨ ∃ xs, o = some (.own xs) ∧ d = .lst xs := by
  cases o with
  | none => cases h
  | some d' => cases d' <;> first | (cases h; exact .inl ⟨rfl, fun _ z => nomatch z⟩) | (cases h; exact .inr ⟨_, rfl, rfl⟩)
theorem DOk.freeze (k : DOk K l0 H0 N0 l N H σ env) : DOk K l0 H0 N0 l (fun a => N a ∧ (some a = l ∨ H0 a ≠ none)) H σ (env.map frz) ∧ Later N H (fun a => N a ∧ (some a = l ∨ H0 a ≠ none)) H := by
  have lt : Later N H (fun a => N a ∧ (some a = l ∨ H0 a ≠ none)) H := ⟨fun _ _ _ h => h, fun _ h => .inl h.1⟩
  refine ⟨⟨fun a h => k.ls a h.1, fun a e => ⟨k.ln a e, .inl e.symm⟩, k.dl, k.kp, k.d0, fun b h => ⟨k.n0 b h, .inr fun z => ?_⟩, k.ls0, k.lo, by rw [List.length_map]; exact k.len, fun i d e => ?_, fun i j xs ys a n h1 => ?_⟩, lt⟩
  · obtain ⟨xs, e⟩ := k.ls0 b h
    rw [z] at e; cases e
  · rw [List.getElem?_map] at e
    cases q : env[i]? with
    | none => rw [q] at e; cases e
    | some o =>
      rw [q] at e
      rcases frz_some (Option.some.inj e) with ⟨rfl, hn⟩ | ⟨xs, rfl, rfl⟩
      · obtain ⟨v, h1, h2⟩ := k.rd i d q
        refine ⟨v, h1, ?_⟩
        cases h2 with
        | dat r => exact .dat (lt.rep k.ls r)
        | own => exact absurd rfl (hn _)
        | dr e' => exact .dr e'
      · obtain ⟨v, h1, h2⟩ := k.rd i _ q
        refine ⟨v, h1, ?_⟩
        cases h2 with
        | dat r => cases r
        | own a1 a2 a3 a4 r => exact .dat (.lst (fun z => z.2.elim a3 fun y => y a2) a4 (lt.reps k.ls r))
  · rw [List.getElem?_map] at h1
    cases q : env[i]? with
    | none => rw [q] at h1; cases h1
    | some o =>
      rw [q] at h1
      rcases frz_some (Option.some.inj h1) with ⟨_, hn⟩ | ⟨_, _, z⟩
      · exact absurd rfl (hn _)
      · cases z
/-- a name stored -/
theorem DOk.store (k : DOk K l0 H0 N0 l N H σ env) {i : Nat} {v : V} {d : Da} (r : Rep K N H v d) : DOk K l0 H0 N0 l N H (σ.set i (some v)) (env.set i (some d)) := by
  refine ⟨k.ls, k.ln, k.dl, k.kp, k.d0, k.n0, k.ls0, k.lo, by rw [List.length_set, List.length_set]; exact k.len, fun j e q => ?_, fun j j' xs ys a n h1 h2 h3 => ?_⟩
  · rw [List.getElem?_set] at q ⊢
    by_cases z : i = j
    · subst z
      rw [if_pos rfl] at q ⊢
      by_cases y : i < env.length
      · rw [if_pos y] at q
        cases q
        rw [if_pos (by rw [k.len]; exact y)]
        exact ⟨v, rfl, .dat r⟩
      · rw [if_neg y] at q; cases q
    · rw [if_neg z] at q ⊢
      exact k.rd j e q
  · have key : ∀ {j : Nat} {xs : List Da}, (env.set i (some d))[j]? = some (some (.own xs)) → i ≠ j := fun {j xs} h z => by
      subst z
      rw [List.getElem?_set, if_pos rfl] at h
      split at h
      · cases h; cases r
      · cases h
    have n1 := key h1
    have n2 := key h2
    rw [List.getElem?_set, if_neg n1] at h1 h3
    rw [List.getElem?_set, if_neg n2] at h2 ⊢
    exact k.dst j j' xs ys a n h1 h2 h3
/-- a name stored that is to hold an own list -/
theorem DOk.storeOwn (k : DOk K l0 H0 N0 l N H σ env) {i : Nat} {p : Addr} {vs : List V} {xs : List Da} (hp : N p) (h0 : H0 p = none) (hl : some p ≠ l) (e : H p = some (.lst vs)) (r : Reps K N H vs xs) (hn : ∀ (j : Nat) ys, j ≠ i → env[j]? = some (some (.own ys)) → σ[j]? ≠ some (some (.ref p))) :
    DOk K l0 H0 N0 l N H (σ.set i (some (.ref p))) (env.set i (some (.own xs))) := by
  refine ⟨k.ls, k.ln, k.dl, k.kp, k.d0, k.n0, k.ls0, k.lo, by rw [List.length_set, List.length_set]; exact k.len, fun j e' q => ?_, fun j j' xs' ys a n h1 h2 h3 => ?_⟩
  · rw [List.getElem?_set] at q ⊢
    by_cases z : i = j
    · subst z
      rw [if_pos rfl] at q ⊢
      by_cases y : i < env.length
      · rw [if_pos y] at q
        cases q
        rw [if_pos (by rw [k.len]; exact y)]
        exact ⟨_, rfl, .own hp h0 hl e r⟩
      · rw [if_neg y] at q; cases q
    · rw [if_neg z] at q ⊢
      exact k.rd j e' q
  · rw [List.getElem?_set] at h1 h2 h3 ⊢
    by_cases z1 : i = j
    · subst z1
      rw [if_neg n] at h2 ⊢
      rw [if_pos rfl] at h3
      split at h3
      · cases h3; exact hn j' ys (Ne.symm n) h2
      · cases h3
    · rw [if_neg z1] at h1 h3
      by_cases z2 : i = j'
      · subst z2
        rw [if_pos rfl]
        split
        · intro y; cases y
          exact hn j xs' (Ne.symm z1) h1 h3
        · intro y; cases y
      · rw [if_neg z2] at h2 ⊢
        exact k.dst j j' xs' ys a n h1 h2 h3
end
end G
/-! ### readings of data: expressions -/
namespace G
open PySem PySem.Spec PyProof.Rows L2
abbrev DE := Env → (Da → Prop) → Prop
abbrev DT := Env → (Bool → Prop) → Prop
abbrev DA := Env → (List Da → Prop) → Prop
abbrev DO := Env → (Option Int → Prop) → Prop
inductive RepTs (K : PySem.W.Frag) (H0 : Hp) (l : Option Addr) (N : Addr → Prop) (H : Hp) : List V → List Da → Prop where
  | nil : RepTs K H0 l N H [] []
  | cons {v : V} {vs : List V} {d : Da} {ds : List Da} : RepT K H0 l N H v d → RepTs K H0 l N H vs ds → RepTs K H0 l N H (v :: vs) (d :: ds)
/-- neither an own list nor the draws -/
def Da.dat : Da → Bool
  | .own _ => false
  | .dr => false
  | _ => true
section
variable {K : PySem.W.Frag} {l0 l : Option Addr} {H0 H H' : Hp} {N0 N : Addr → Prop} {σ : L2.St} {env : Env} {v : V} {d : Da} {vs : List V} {ds xs : List Da}
theorem RepT.rep (r : RepT K H0 l N H v d) (h : d.dat = true) : Rep K N H v d := by
  cases r with
  | dat r => exact r
  | own => cases h
  | dr => cases h
theorem RepTs.reps (r : RepTs K H0 l N H vs ds) (h : ds.all Da.dat = true) : Reps K N H vs ds := by
  induction r with
  | nil => exact .nil
  | cons r _ ih =>
    rw [List.all_cons, Bool.and_eq_true] at h
    exact .cons (r.rep h.1) (ih h.2)
theorem DOk.repTs (k : DOk K l0 H0 N0 l N H σ env) (m : Mv l H H') (r : RepTs K H0 l N H vs ds) : RepTs K H0 l N H' vs ds := by
  induction r with
  | nil => exact .nil
  | cons r _ ih => exact .cons (k.repT m r) ih
theorem RepTs.of (r : Reps K N H vs ds) : RepTs K H0 l N H vs ds := by
  induction vs generalizing ds with
  | nil => cases r; exact .nil
  | cons v vs ih => cases r with | cons h r => exact .cons (.dat h) (ih r)
theorem RepTs.length (r : RepTs K H0 l N H vs ds) : vs.length = ds.length := by
  induction r with
  | nil => rfl
  | cons _ _ ih => exact congrArg (· + 1) ih
/-- its items, of a list -/
def Da.lits : Da → Option (List Da)
  | .lst xs => some xs
  | .own xs => some xs
  | .scr ns => some (ns.map .int)
  | _ => none
/-- of a list or tuple -/
def Da.its : Da → Option (List Da)
  | .tup xs => some xs
  | d => d.lits
theorem RepT.lits (r : RepT K H0 l N H v d) (h : d.lits = some xs) : ∃ a vs, v = .ref a ∧ SqL K H a vs ∧ Reps K N H vs xs := by
  cases r with
  | dat r =>
    cases r <;> first | (cases h; done) | skip
    · rename_i n e r; cases h; exact ⟨_, _, rfl, SqL.of e, r⟩
    · rename_i e; cases h; exact ⟨_, _, rfl, e.sq, Reps.of_ints _⟩
  | own _ _ _ e r => cases h; exact ⟨_, _, rfl, SqL.of e, r⟩
  | dr => cases h
theorem RepT.tupV (r : RepT K H0 l N H v (.tup xs)) : ∃ a vs, v = .ref a ∧ SqT K H a vs ∧ Reps K N H vs xs := by
  cases r with
  | dat r => cases r with | tup e r => exact ⟨_, _, rfl, e, r⟩
theorem RepT.int_eq {i : Int} (r : RepT K H0 l N H v (.int i)) : v = .int i := by cases r with | dat r => cases r; rfl
theorem RepT.bl_eq {i : Bool} (r : RepT K H0 l N H v (.bl i)) : v = .bl i := by cases r with | dat r => cases r; rfl
theorem RepT.str_eq {i : Str} (r : RepT K H0 l N H v (.str i)) : v = .str i := by cases r with | dat r => cases r; rfl
theorem RepT.non_eq (r : RepT K H0 l N H v .non) : v = .non := by cases r with | dat r => cases r; rfl
end
/-! links -/
def LkE (K : PySem.W.Frag) (te : TE) (de : DE) : Prop := ∀ {l0 l : Option Addr} {H0 H : Hp} {N0 N : Addr → Prop} {σ : L2.St} {env : Env}, DOk K l0 H0 N0 l N H σ env → ∀ {R : Da → Prop}, de env R → ∀ {Q : VK}, (∀ d v H', R d → Mv l H H' → RepT K H0 l N H' v d → Q v H') → te σ H Q
def LkT (K : PySem.W.Frag) (tt : TT) (dt : DT) : Prop := ∀ {l0 l : Option Addr} {H0 H : Hp} {N0 N : Addr → Prop} {σ : L2.St} {env : Env}, DOk K l0 H0 N0 l N H σ env → ∀ {R : Bool → Prop}, dt env R → ∀ {Q : Bool → Hp → Prop}, (∀ b H', R b → Mv l H H' → Q b H') → tt σ H Q
def LkA (K : PySem.W.Frag) (ta : TA) (da : DA) : Prop := ∀ {l0 l : Option Addr} {H0 H : Hp} {N0 N : Addr → Prop} {σ : L2.St} {env : Env}, DOk K l0 H0 N0 l N H σ env → ∀ {R : List Da → Prop}, da env R → ∀ {Q : List V → Hp → Prop}, (∀ ds vs H', R ds → Mv l H H' → RepTs K H0 l N H' vs ds → Q vs H') → ta σ H Q
def LkO (K : PySem.W.Frag) (to : TO) (do_ : DO) : Prop := ∀ {l0 l : Option Addr} {H0 H : Hp} {N0 N : Addr → Prop} {σ : L2.St} {env : Env}, DOk K l0 H0 N0 l N H σ env → ∀ {R : Option Int → Prop}, do_ env R → ∀ {Q : Option Int → Hp → Prop}, (∀ o H', R o → Mv l H H' → Q o H') → to σ H Q
/-- an operator -/
abbrev DR2 := Da → Da → (Da → Prop) → Prop
def LkR (K : PySem.W.Frag) (r : R2) (dr : DR2) : Prop := ∀ {l0 l : Option Addr} {H0 H : Hp} {N0 N : Addr → Prop} {σ : L2.St} {env : Env}, DOk K l0 H0 N0 l N H σ env → ∀ {x y : V} {dx dy : Da} {R : Da → Prop}, RepT K H0 l N H x dx → RepT K H0 l N H y dy → dr dx dy R → ∀ {Q : VK}, (∀ d v H', R d → Mv l H H' → RepT K H0 l N H' v d → Q v H') → r x y H Q
abbrev DC := List Da → (Da → Prop) → Prop
def LkC (K : PySem.W.Frag) (r : List V → Hp → VK → Prop) (dc : DC) : Prop := ∀ {l0 l : Option Addr} {H0 H : Hp} {N0 N : Addr → Prop} {σ : L2.St} {env : Env}, DOk K l0 H0 N0 l N H σ env → ∀ {vs : List V} {ds : List Da} {R : Da → Prop}, RepTs K H0 l N H vs ds → dc ds R → ∀ {Q : VK}, (∀ d v H', R d → Mv l H H' → RepT K H0 l N H' v d → Q v H') → r vs H Q
def dVar (i : Nat) : DE := fun env R => ∃ d, env[i]? = some (some d) ∧ R d
def dC (d : Da) : DE := fun _ R => R d
def dOp (r : DR2) (da db : DE) : DE := fun env R => da env fun x => db env fun y => r x y R
def dUn (f : Int → Int) (da : DE) : DE := fun env R => da env fun x => ∃ i, x = .int i ∧ R (.int (f i))
def dIf (t : DT) (da db : DE) : DE := fun env R => t env fun c => if c = true then da env R else db env R
def dAndV (da db : DE) : DE := fun env R => da env fun x => ∃ c, x = .bl c ∧ if c = true then db env R else R (.bl false)
def dOrV (da db : DE) : DE := fun env R => da env fun x => ∃ c, x = .bl c ∧ if c = true then R (.bl true) else db env R
def dNotV (da : DE) : DE := fun env R => da env fun x => ∃ c, x = .bl c ∧ R (.bl (!c))
def dTest (da : DE) : DT := fun env R => da env fun x => ∃ c, x = .bl c ∧ R c
def dAnd (t u : DT) : DT := fun env R => t env fun c => if c = true then u env R else R false
def dOr (t u : DT) : DT := fun env R => t env fun c => if c = true then R true else u env R
def dNot (t : DT) : DT := fun env R => t env fun c => R (!c)
def dNil : DA := fun _ R => R []
def dCons (da : DE) (dr : DA) : DA := fun env R => da env fun x => dr env fun xs => R (x :: xs)
def dLst (da : DA) : DE := fun env R => da env fun xs => xs.all Da.dat = true ∧ Nat.ble xs.length 1000 = true ∧ R (.lst xs)
def dTup (da : DA) : DE := fun env R => da env fun xs => xs.all Da.dat = true ∧ Nat.ble xs.length 1000 = true ∧ R (.tup xs)
def dCB (r : DC) (da : DA) : DE := fun env R => da env fun xs => r xs R
def dNoPart : DO := fun _ R => R none
def dPart (da : DE) : DO := fun env R => da env fun x => ∃ i, x = .int i ∧ R (some i)
def dChain (r r' : DR2) (da db dc : DE) : DE := fun env R => da env fun x => db env fun y => r x y fun z => ∃ k, z = .bl k ∧ if k = true then dc env fun w => r' y w R else R (.bl false)
section
variable {K : PySem.W.Frag} {ta tb tc te : TE} {da db dc de : DE} {tt tu : TT} {dt du : DT} {t : TA} {dta : DA} {r r' : R2} {dr dr' : DR2}
theorem lk_var {i : Nat} : LkE K (tVar i) (dVar i) := by
  intro l0 l H0 H N0 N σ env k R h Q c
  obtain ⟨d, e, q⟩ := h
  obtain ⟨v, e2, rv⟩ := k.rd i d e
  exact ⟨v, e2, c d v H q (.refl _ _) rv⟩
theorem lk_c {v : V} {d : Da} (h : ∀ N H, Rep K N H v d) : LkE K (tC v) (dC d) := by
  intro l0 l H0 H N0 N σ env k R q Q c
  exact c d v H q (.refl _ _) (.dat (h N H))
theorem lk_int {i : Int} : LkE K (tC (.int i)) (dC (.int i)) := lk_c fun _ _ => .int i
theorem lk_bl {i : Bool} : LkE K (tC (.bl i)) (dC (.bl i)) := lk_c fun _ _ => .bl i
theorem lk_str {i : Str} : LkE K (tC (.str i)) (dC (.str i)) := lk_c fun _ _ => .str i
theorem lk_non : LkE K (tC .non) (dC .non) := lk_c fun _ _ => .non
theorem lk_ref {a : Addr} : LkE K (tC (.ref a)) (dC (.adr a)) := lk_c fun _ _ => .adr a
theorem lk_ty {n : String} : LkE K (tC (.ty n)) (dC (.ty n)) := lk_c fun _ _ => .ty n
theorem lk_op (ha : LkE K ta da) (hb : LkE K tb db) (hr : LkR K r dr) : LkE K (tOp r ta tb) (dOp dr da db) := by
  intro l0 l H0 H N0 N σ env k R h Q c
  refine ha k h fun x v H1 hx m1 r1 => hb (k.mv m1) hx fun y w H2 hy m2 r2 => ?_
  have k1 := k.mv m1
  exact hr (k1.mv m2) (k1.repT m2 r1) r2 hy fun d u H3 hd m3 r3 => c d u H3 hd ((m1.trans m2).trans m3) r3
theorem lk_un {f : Int → Int} (ha : LkE K ta da) : LkE K (tUn (rU fun i => .int (f i)) ta) (dUn f da) := by
  intro l0 l H0 H N0 N σ env k R h Q c
  refine ha k h fun x v H1 hx m1 r1 => ?_
  obtain ⟨i, rfl, q⟩ := hx
  cases r1.int_eq
  exact ⟨i, rfl, c _ _ _ q m1 (.dat (.int _))⟩
theorem lk_if (ht : LkT K tt dt) (ha : LkE K ta da) (hb : LkE K tb db) : LkE K (tIf tt ta tb) (dIf dt da db) := by
  intro l0 l H0 H N0 N σ env k R h Q c
  refine ht k h fun b H1 hb1 m1 => ?_
  cases b with
  | true => exact iteT (ha (k.mv m1) (by simpa using hb1) fun d v H2 hd m2 r2 => c d v H2 hd (m1.trans m2) r2)
  | false => exact iteF (hb (k.mv m1) (by simpa using hb1) fun d v H2 hd m2 r2 => c d v H2 hd (m1.trans m2) r2)
theorem lk_andV (ha : LkE K ta da) (hb : LkE K tb db) : LkE K (tAndV ta tb) (dAndV da db) := by
  intro l0 l H0 H N0 N σ env k R h Q c
  refine ha k h fun x v H1 hx m1 r1 => ?_
  obtain ⟨b, rfl, q⟩ := hx
  cases r1.bl_eq
  refine ⟨b, rfl, ?_⟩
  cases b with
  | true => exact iteT (hb (k.mv m1) (by simpa using q) fun d v H2 hd m2 r2 => c d v H2 hd (m1.trans m2) r2)
  | false => exact iteF (c _ _ _ (by simpa using q) m1 (.dat (.bl _)))
theorem lk_orV (ha : LkE K ta da) (hb : LkE K tb db) : LkE K (tOrV ta tb) (dOrV da db) := by
  intro l0 l H0 H N0 N σ env k R h Q c
  refine ha k h fun x v H1 hx m1 r1 => ?_
  obtain ⟨b, rfl, q⟩ := hx
  cases r1.bl_eq
  refine ⟨b, rfl, ?_⟩
  cases b with
  | true => exact iteT (c _ _ _ (by simpa using q) m1 (.dat (.bl _)))
  | false => exact iteF (hb (k.mv m1) (by simpa using q) fun d v H2 hd m2 r2 => c d v H2 hd (m1.trans m2) r2)
theorem lk_notV (ha : LkE K ta da) : LkE K (tNotV ta) (dNotV da) := by
  intro l0 l H0 H N0 N σ env k R h Q c
  refine ha k h fun x v H1 hx m1 r1 => ?_
  obtain ⟨b, rfl, q⟩ := hx
  cases r1.bl_eq
  exact ⟨b, rfl, c _ _ _ q m1 (.dat (.bl _))⟩
theorem lk_test (ha : LkE K ta da) : LkT K (tTest ta) (dTest da) := by
  intro l0 l H0 H N0 N σ env k R h Q c
  refine ha k h fun x v H1 hx m1 r1 => ?_
  obtain ⟨b, rfl, q⟩ := hx
  cases r1.bl_eq
  exact ⟨b, rfl, c _ _ q m1⟩
theorem lk_tB (ha : LkE K ta da) : LkT K (tB ta) (dTest da) := lk_test ha
theorem lk_and (ht : LkT K tt dt) (hu : LkT K tu du) : LkT K (tAnd tt tu) (dAnd dt du) := by
  intro l0 l H0 H N0 N σ env k R h Q c
  refine ht k h fun b H1 hb m1 => ?_
  cases b with
  | true => exact iteT (hu (k.mv m1) (by simpa using hb) fun d H2 hd m2 => c d H2 hd (m1.trans m2))
  | false => exact iteF (c _ _ (by simpa using hb) m1)
theorem lk_or (ht : LkT K tt dt) (hu : LkT K tu du) : LkT K (tOr tt tu) (dOr dt du) := by
  intro l0 l H0 H N0 N σ env k R h Q c
  refine ht k h fun b H1 hb m1 => ?_
  cases b with
  | true => exact iteT (c _ _ (by simpa using hb) m1)
  | false => exact iteF (hu (k.mv m1) (by simpa using hb) fun d H2 hd m2 => c d H2 hd (m1.trans m2))
theorem lk_not (ht : LkT K tt dt) : LkT K (tNot tt) (dNot dt) := by
  intro l0 l H0 H N0 N σ env k R h Q c
  exact ht k h fun b H1 hb m1 => c _ _ hb m1
theorem lk_nil : LkA K tNil dNil := by
  intro l0 l H0 H N0 N σ env k R h Q c
  exact c [] [] H h (.refl _ _) .nil
theorem lk_cons (ha : LkE K ta da) (ht : LkA K t dta) : LkA K (tCons ta t) (dCons da dta) := by
  intro l0 l H0 H N0 N σ env k R h Q c
  refine ha k h fun x v H1 hx m1 r1 => ht (k.mv m1) hx fun ds vs H2 hd m2 r2 => ?_
  exact c _ _ _ hd (m1.trans m2) (.cons ((k.mv m1).repT m2 r1) r2)
theorem new_rep {H : Hp} {N : Addr → Prop} {vs : List V} {xs : List Da} {p : Addr} {o : HO} (hl : Lists N H) (hp : H p = none) (r : Reps K N H vs xs) : Reps K N (upd H p o) vs xs := r.stay hl.lw fun b u _ e => (same_new (Same.refl H) hp) b u e
theorem not_new {H : Hp} {N : Addr → Prop} {p : Addr} (hl : Lists N H) (hp : H p = none) : ¬ N p := fun z => by
  obtain ⟨xs, e⟩ := hl p z
  rw [hp] at e; cases e
theorem lk_lst (ht : LkA K t dta) : LkE K (tLst t) (dLst dta) := by
  intro l0 l H0 H N0 N σ env k R h Q c
  refine ht k h fun ds vs H1 hd m1 r1 => ?_
  obtain ⟨h1, h2, q⟩ := hd
  refine ⟨Nat.le_trans (by rw [r1.length]; exact Nat.le_of_ble_eq_true h2) (by decide), fun p hp => ?_⟩
  have k1 := k.mv m1
  exact c _ _ _ q (m1.new hp) (.dat (.lst (not_new k1.ls hp) upd_same (new_rep k1.ls hp (r1.reps h1))))
theorem lk_tup (ht : LkA K t dta) : LkE K (tTup t) (dTup dta) := by
  intro l0 l H0 H N0 N σ env k R h Q c
  refine ht k h fun ds vs H1 hd m1 r1 => ?_
  obtain ⟨h1, h2, q⟩ := hd
  refine ⟨Nat.le_trans (by rw [r1.length]; exact Nat.le_of_ble_eq_true h2) (by decide), fun p hp => ?_⟩
  have k1 := k.mv m1
  exact c _ _ _ q (m1.new hp) (.dat (.tup (SqT.of upd_same) (new_rep k1.ls hp (r1.reps h1))))
theorem lk_cb {rr : List V → Hp → VK → Prop} {dc : DC} (ht : LkA K t dta) (hr : LkC K rr dc) : LkE K (tCB rr t) (dCB dc dta) := by
  intro l0 l H0 H N0 N σ env k R h Q c
  refine ht k h fun ds vs H1 hd m1 r1 => ?_
  exact hr (k.mv m1) r1 hd fun d v H2 hd m2 r2 => c d v H2 hd (m1.trans m2) r2
theorem lk_noPart : LkO K tNoPart dNoPart := by
  intro l0 l H0 H N0 N σ env k R h Q c
  exact c _ _ h (.refl _ _)
theorem lk_part (ha : LkE K ta da) : LkO K (tPart ta) (dPart da) := by
  intro l0 l H0 H N0 N σ env k R h Q c
  refine ha k h fun x v H1 hx m1 r1 => ?_
  obtain ⟨i, rfl, q⟩ := hx
  cases r1.int_eq
  exact ⟨i, rfl, c _ _ q m1⟩
theorem lk_chain (ha : LkE K ta da) (hb : LkE K tb db) (hc : LkE K tc dc) (hr : LkR K r dr) (hr' : LkR K r' dr') : LkE K (tChain r r' ta tb tc) (dChain dr dr' da db dc) := by
  intro l0 l H0 H N0 N σ env k R h Q c
  refine ha k h fun x v H1 hx m1 r1 => hb (k.mv m1) hx fun y w H2 hy m2 r2 => ?_
  have k1 := k.mv m1
  have k2 := k1.mv m2
  refine hr k2 (k1.repT m2 r1) r2 hy fun d u H3 hd m3 r3 => ?_
  obtain ⟨b, rfl, q⟩ := hd
  cases r3.bl_eq
  refine ⟨b, rfl, ?_⟩
  cases b with
  | true =>
    refine iteT (hc (k2.mv m3) (by simpa using q) fun z w4 H4 hz m4 r4 => ?_)
    exact hr' ((k2.mv m3).mv m4) ((k2.mv m3).repT m4 (k2.repT m3 r2)) r4 hz fun d u H5 hd m5 r5 => c d u H5 hd ((((m1.trans m2).trans m3).trans m4).trans m5) r5
  | false => exact iteF (c _ _ _ (by simpa using q) ((m1.trans m2).trans m3) (.dat (.bl _)))
end
/-! operators -/
def dII (f : Int → Int → Int) : DR2 := fun x y R => ∃ i j, x = .int i ∧ y = .int j ∧ R (.int (f i j))
def dIB (f : Int → Int → Bool) : DR2 := fun x y R => ∃ i j, x = .int i ∧ y = .int j ∧ R (.bl (f i j))
def dIC (C : Int → Int → Prop) (f : Int → Int → Int) : DR2 := fun x y R => ∃ i j, x = .int i ∧ y = .int j ∧ C i j ∧ R (.int (f i j))
def Da.sv : Da → Option V
  | .non => some .non
  | .bl b => some (.bl b)
  | .int i => some (.int i)
  | .str s => some (.str s)
  | _ => none
def dEqS : DR2 := fun x y R => ∃ u v, x.sv = some u ∧ y.sv = some v ∧ scal u v = true ∧ R (.bl (decide (u = v)))
def dNeS : DR2 := fun x y R => ∃ u v, x.sv = some u ∧ y.sv = some v ∧ scal u v = true ∧ R (.bl (!decide (u = v)))
def dIxL : DR2 := fun x y R => ∃ xs n d, x.lits = some xs ∧ y = .int n ∧ atI xs n = some d ∧ R d
def dIxT : DR2 := fun x y R => ∃ xs n d, x = .tup xs ∧ y = .int n ∧ atI xs n = some d ∧ R d
def dIxQ : DR2 := fun x y R => ∃ xs n d, x.its = some xs ∧ y = .int n ∧ atI xs n = some d ∧ R d
def dCat : DR2 := fun x y R => ∃ xs ys, (x = .lst xs ∨ x = .own xs) ∧ (y = .lst ys ∨ y = .own ys) ∧ xs.length + ys.length ≤ 100000 ∧ R (.lst (xs ++ ys))
def dCatT : DR2 := fun x y R => ∃ xs ys, x = .tup xs ∧ y = .tup ys ∧ xs.length + ys.length ≤ 100000 ∧ R (.tup (xs ++ ys))
def dRepL : DR2 := fun x y R => ∃ xs n, (x = .lst xs ∨ x = .own xs) ∧ y = .int n ∧ xs.length * n.toNat ≤ 100000 ∧ -(2 ^ 63) ≤ n ∧ n < 2 ^ 63 ∧ R (.lst (List.replicate n.toNat xs).flatten)
def dLtT : DR2 := fun x y R => ∃ ns ms : List Int, x = .tup (ns.map .int) ∧ y = .tup (ms.map .int) ∧ R (.bl (HT.lexLt ns ms))
section
variable {K : PySem.W.Frag}
theorem lkr_int0 {f : Int → Int → Int} : LkR K (rI0 fun i j => .int (f i j)) (dII f) := by
  intro l0 l H0 H N0 N σ env k x y dx dy R rx ry h Q c
  obtain ⟨i, j, rfl, rfl, q⟩ := h
  cases rx.int_eq; cases ry.int_eq
  exact ⟨i, j, rfl, rfl, c _ _ _ q (.refl _ _) (.dat (.int _))⟩
theorem lkr_bl0 {f : Int → Int → Bool} : LkR K (rI0 fun i j => .bl (f i j)) (dIB f) := by
  intro l0 l H0 H N0 N σ env k x y dx dy R rx ry h Q c
  obtain ⟨i, j, rfl, rfl, q⟩ := h
  cases rx.int_eq; cases ry.int_eq
  exact ⟨i, j, rfl, rfl, c _ _ _ q (.refl _ _) (.dat (.bl _))⟩
theorem lkr_intC {C : Int → Int → Prop} {f : Int → Int → Int} : LkR K (rI C fun i j => .int (f i j)) (dIC C f) := by
  intro l0 l H0 H N0 N σ env k x y dx dy R rx ry h Q c
  obtain ⟨i, j, rfl, rfl, hc, q⟩ := h
  cases rx.int_eq; cases ry.int_eq
  exact ⟨i, j, rfl, rfl, hc, c _ _ _ q (.refl _ _) (.dat (.int _))⟩
theorem sv_eq {H0 H : Hp} {l : Option Addr} {N : Addr → Prop} {x u : V} {dx : Da} (r : RepT K H0 l N H x dx) (h : dx.sv = some u) : x = u := by
  cases dx <;> first | (cases h; done) | skip
  · cases h; exact r.non_eq
  · cases h; exact r.bl_eq
  · cases h; exact r.int_eq
  · cases h; exact r.str_eq
theorem lkr_eq : LkR K rEq dEqS := by
  intro l0 l H0 H N0 N σ env k x y dx dy R rx ry h Q c
  obtain ⟨u, v, e1, e2, hs, q⟩ := h
  rw [sv_eq rx e1, sv_eq ry e2]
  exact ⟨hs, c _ _ _ q (.refl _ _) (.dat (.bl _))⟩
theorem lkr_ne : LkR K rNe dNeS := by
  intro l0 l H0 H N0 N σ env k x y dx dy R rx ry h Q c
  obtain ⟨u, v, e1, e2, hs, q⟩ := h
  rw [sv_eq rx e1, sv_eq ry e2]
  exact ⟨hs, c _ _ _ q (.refl _ _) (.dat (.bl _))⟩
theorem reps_at {N : Addr → Prop} {H : Hp} {vs : List V} {xs : List Da} {n : Int} {d : Da} (r : Reps K N H vs xs) (e : atI xs n = some d) : ∃ v, atI vs n = some v ∧ Rep K N H v d := by
  unfold atI at e ⊢
  rw [r.length]
  cases q : ixN xs.length n with
  | none => rw [q] at e; cases e
  | some j =>
    rw [q] at e
    exact r.get e
theorem lkr_ixL : LkR K (rIxL K) dIxL := by
  intro l0 l H0 H N0 N σ env k x y dx dy R rx ry h Q c
  obtain ⟨xs, n, d, e, rfl, ha, q⟩ := h
  obtain ⟨a, vs, rfl, hs, r⟩ := rx.lits e
  cases ry.int_eq
  obtain ⟨v, hv, rv⟩ := reps_at r ha
  exact ⟨a, vs, n, v, rfl, rfl, hs, hv, c _ _ _ q (.refl _ _) (.dat rv)⟩
theorem lkr_ixT : LkR K (rIxT K) dIxT := by
  intro l0 l H0 H N0 N σ env k x y dx dy R rx ry h Q c
  obtain ⟨xs, n, d, rfl, rfl, ha, q⟩ := h
  obtain ⟨a, vs, rfl, hs, r⟩ := rx.tupV
  cases ry.int_eq
  obtain ⟨v, hv, rv⟩ := reps_at r ha
  exact ⟨a, vs, n, v, rfl, rfl, hs, hv, c _ _ _ q (.refl _ _) (.dat rv)⟩
theorem RepT.itsV {H0 H : Hp} {l : Option Addr} {N : Addr → Prop} {v : V} {d : Da} {xs : List Da} (r : RepT K H0 l N H v d) (h : d.its = some xs) : ∃ a vs, v = .ref a ∧ (SqL K H a vs ∨ SqT K H a vs) ∧ Reps K N H vs xs := by
  by_cases z : ∃ ys, d = .tup ys
  · obtain ⟨ys, rfl⟩ := z
    cases h
    obtain ⟨a, vs, e, hs, q⟩ := r.tupV
    exact ⟨a, vs, e, .inr hs, q⟩
  · have : d.lits = some xs := by
      cases d <;> first | exact h | exact absurd ⟨_, rfl⟩ z
    obtain ⟨a, vs, e, hs, q⟩ := r.lits this
    exact ⟨a, vs, e, .inl hs, q⟩
theorem lkr_ixQ : LkR K (rIxSq K) dIxQ := by
  intro l0 l H0 H N0 N σ env k x y dx dy R rx ry h Q c
  obtain ⟨xs, n, d, e, rfl, ha, q⟩ := h
  obtain ⟨a, vs, rfl, hs, r⟩ := rx.itsV e
  cases ry.int_eq
  obtain ⟨v, hv, rv⟩ := reps_at r ha
  rcases hs with hs | hs
  · exact .inl ⟨a, vs, n, v, rfl, rfl, hs, hv, c _ _ _ q (.refl _ _) (.dat rv)⟩
  · exact .inr ⟨a, vs, n, v, rfl, rfl, hs, hv, c _ _ _ q (.refl _ _) (.dat rv)⟩
theorem live_of {H0 H : Hp} {l : Option Addr} {N : Addr → Prop} {x : V} {dx : Da} {xs : List Da} (r : RepT K H0 l N H x dx) (h : dx = .lst xs ∨ dx = .own xs) : ∃ a vs, x = .ref a ∧ H a = some (.lst vs) ∧ Reps K N H vs xs := by
  rcases h with rfl | rfl
  · cases r with | dat r => cases r with | lst n e r => exact ⟨_, _, rfl, e, r⟩
  · cases r with
    | own _ _ _ e r => exact ⟨_, _, rfl, e, r⟩
    | dat r => cases r
theorem lkr_cat : LkR K rCat dCat := by
  intro l0 l H0 H N0 N σ env k x y dx dy R rx ry h Q c
  obtain ⟨xs, ys, h1, h2, hl, q⟩ := h
  obtain ⟨a, vs, rfl, ha, r1⟩ := live_of rx h1
  obtain ⟨b, ws, rfl, hb, r2⟩ := live_of ry h2
  refine ⟨a, b, vs, ws, rfl, rfl, ha, hb, Nat.le_trans (by rw [r1.length, r2.length]; exact hl) (by decide), fun p hp => ?_⟩
  exact c _ _ _ q ((Mv.refl _ _).new hp) (.dat (.lst (not_new k.ls hp) upd_same (new_rep k.ls hp (r1.app r2))))
theorem lkr_catT : LkR K (rCatA K) dCatT := by
  intro l0 l H0 H N0 N σ env k x y dx dy R rx ry h Q c
  obtain ⟨xs, ys, rfl, rfl, hl, q⟩ := h
  obtain ⟨a, vs, rfl, ha, r1⟩ := rx.tupV
  obtain ⟨b, ws, rfl, hb, r2⟩ := ry.tupV
  refine ⟨a, b, vs, ws, rfl, rfl, ha, hb, Nat.le_trans (by rw [r1.length, r2.length]; exact hl) (by decide), fun e => ?_, fun _ e => ?_, fun _ _ p hp => ?_⟩
  · subst e
    cases r1
    exact c _ _ _ q (.refl _ _) (.dat (.tup hb r2))
  · subst e
    cases r2
    rw [List.append_nil] at q
    exact c _ _ _ q (.refl _ _) (.dat (.tup ha r1))
  · exact c _ _ _ q ((Mv.refl _ _).new hp) (.dat (.tup (SqT.of upd_same) (new_rep k.ls hp (r1.app r2))))
theorem reps_rep {N : Addr → Prop} {H : Hp} {vs : List V} {xs : List Da} (r : Reps K N H vs xs) : ∀ n : Nat, Reps K N H (List.replicate n vs).flatten (List.replicate n xs).flatten
  | 0 => .nil
  | n + 1 => by
    rw [List.replicate_succ, List.replicate_succ, List.flatten_cons, List.flatten_cons]
    exact r.app (reps_rep r n)
theorem lkr_repL : LkR K rRep dRepL := by
  intro l0 l H0 H N0 N σ env k x y dx dy R rx ry h Q c
  obtain ⟨xs, n, h1, rfl, hl, b1, b2, q⟩ := h
  obtain ⟨a, vs, rfl, ha, r1⟩ := live_of rx h1
  cases ry.int_eq
  refine ⟨a, n, vs, rfl, rfl, ha, b1, b2, Nat.le_trans (by rw [r1.length]; exact hl) (by decide), fun p hp => ?_⟩
  exact c _ _ _ q ((Mv.refl _ _).new hp) (.dat (.lst (not_new k.ls hp) upd_same (new_rep k.ls hp (reps_rep r1 _))))
theorem lkr_ltT : LkR K (rLtT K) dLtT := by
  intro l0 l H0 H N0 N σ env k x y dx dy R rx ry h Q c
  obtain ⟨ns, ms, rfl, rfl, q⟩ := h
  obtain ⟨a, vs, rfl, ha, r1⟩ := rx.tupV
  obtain ⟨b, ws, rfl, hb, r2⟩ := ry.tupV
  rw [r1.ints] at ha
  rw [r2.ints] at hb
  exact ⟨a, b, ns, ms, rfl, rfl, ha, hb, c _ _ _ q (.refl _ _) (.dat (.bl _))⟩
end
end G
/-! ### readings of data: built-ins, equality, slices, calls, objects -/
namespace G
open PySem PySem.Spec PyProof.Rows L2 PySem.W
mutual
def ofP : PyData → Da
  | .none => .non
  | .bool b => .bl b
  | .int i => .int i
  | .str s => .str s
  | .list xs => .lst (ofPs xs)
  | .tuple xs => .tup (ofPs xs)
  | .dict _ => .lst [.dr]
def ofPs : List PyData → List Da
  | [] => []
  | x :: xs => ofP x :: ofPs xs
end
/-- a value of Lean as data -/
def dOf {α : Type} [DecidableEq α] [Datum α] (a : α) : Da := ofP (Datum.toD a)
abbrev pt (p : Int × Int) : Da := .tup [.int p.1, .int p.2]
theorem ofPs_map : ∀ xs : List PyData, ofPs xs = xs.map ofP
  | [] => rfl
  | x :: xs => by rw [ofPs, List.map_cons, ofPs_map xs]
section
variable {K : PySem.W.Frag} {N : Addr → Prop} {H : Hp}
mutual
theorem dp_of : ∀ (p : PyData) {v : V}, Rep K N H v (ofP p) → Dp K H v p
  | .none, _, h => by rw [ofP] at h; cases h; exact .non
  | .bool b, _, h => by rw [ofP] at h; cases h; exact .bl b
  | .int i, _, h => by rw [ofP] at h; cases h; exact .int i
  | .str s, _, h => by rw [ofP] at h; cases h; exact .str s
  | .list xs, _, h => by
    rw [ofP] at h
    cases h with | lst n e r => exact .lst (SqL.of e) (dps_of xs r)
  | .tuple xs, _, h => by
    rw [ofP] at h
    cases h with | tup e r => exact .tup e (dps_of xs r)
  | .dict _, _, h => by
    rw [ofP] at h
    cases h with | lst n e r => cases r with | cons h _ => cases h
theorem dps_of : ∀ (ps : List PyData) {vs : List V}, Reps K N H vs (ofPs ps) → DpAll K H vs ps
  | [], _, h => by rw [ofPs] at h; cases h; exact .nil
  | p :: ps, _, h => by
    rw [ofPs] at h
    cases h with | cons h r => exact .cons (dp_of p h) (dps_of ps r)
end
theorem ofPs_ints : ∀ ns : List Int, ofPs (ns.map PyData.int) = ns.map Da.int
  | [] => rfl
  | n :: ns => by rw [List.map_cons, ofPs, ofP, ofPs_ints ns]; rfl
end
/-- x is the data p -/
def IsP (x : Da) (p : PyData) : Prop := x = ofP p ∨ ∃ ps, p = .list ps ∧ (x = .own (ofPs ps) ∨ ∃ ns : List Int, x = .scr ns ∧ ps = ns.map .int)
theorem IsP.dp {K : PySem.W.Frag} {H0 H : Hp} {l : Option Addr} {N : Addr → Prop} {v : V} {x : Da} {p : PyData} (h : IsP x p) (r : RepT K H0 l N H v x) : Dp K H v p := by
  rcases h with rfl | ⟨ps, rfl, rfl | ⟨ns, rfl, rfl⟩⟩
  · exact dp_of p (r.rep (by cases p <;> (rw [ofP]; rfl)))
  · cases r with
    | dat r => cases r
    | own _ _ _ e r => exact .lst (SqL.of e) (dps_of ps r)
  · cases r with
    | dat r => cases r with | scr e => exact .lst e.sq (dps_of (N := N) _ (by rw [ofPs_ints]; exact Reps.of_ints ns))
def dEqD : DR2 := fun x y R => ∃ p q, IsP x p ∧ IsP y q ∧ SeqAt.shaped p = true ∧ SeqAt.shaped q = true ∧ R (.bl (PyData.eqv p q))
def dNeD : DR2 := fun x y R => ∃ p q, IsP x p ∧ IsP y q ∧ SeqAt.shaped p = true ∧ SeqAt.shaped q = true ∧ R (.bl (!PyData.eqv p q))
section
variable {K : PySem.W.Frag}
theorem lkr_eqD : LkR K (rEqD K) dEqD := by
  intro l0 l H0 H N0 N σ env k x y dx dy R rx ry h Q c
  obtain ⟨p, q, h1, h2, s1, s2, hq⟩ := h
  exact ⟨p, q, h1.dp rx, h2.dp ry, s1, s2, c _ _ _ hq (.refl _ _) (.dat (.bl _))⟩
theorem lkr_neD : LkR K (rNeD K) dNeD := by
  intro l0 l H0 H N0 N σ env k x y dx dy R rx ry h Q c
  obtain ⟨p, q, h1, h2, s1, s2, hq⟩ := h
  exact ⟨p, q, h1.dp rx, h2.dp ry, s1, s2, c _ _ _ hq (.refl _ _) (.dat (.bl _))⟩
/-! is None, is True -/
def dIsN : DR2 := fun x y R => y = .non ∧ ∃ b : Bool, (b = true ↔ x = .non) ∧ R (.bl b)
def dNotN : DR2 := fun x y R => y = .non ∧ ∃ b : Bool, (b = true ↔ x = .non) ∧ R (.bl (!b))
def dIsB : DR2 := fun x y R => ∃ a b, x = .bl a ∧ y = .bl b ∧ R (.bl (decide (a = b)))
def dNotB : DR2 := fun x y R => ∃ a b, x = .bl a ∧ y = .bl b ∧ R (.bl (!decide (a = b)))
theorem non_iff {H0 H : Hp} {l : Option Addr} {N : Addr → Prop} {v : V} {x : Da} (r : RepT K H0 l N H v x) : v = .non ↔ x = .non := by
  constructor
  · rintro rfl
    cases r with
    | dat r => cases r; rfl
  · rintro rfl; exact r.non_eq
theorem lkr_isN : LkR K rIsN dIsN := by
  intro l0 l H0 H N0 N σ env k x y dx dy R rx ry h Q c
  obtain ⟨rfl, b, hb, q⟩ := h
  rw [ry.non_eq]
  have e : decide (x = .non) = b := by
    rw [Bool.eq_iff_iff, decide_eq_true_iff, non_iff rx, hb]
  exact ⟨rfl, by rw [e]; exact c _ _ _ q (.refl _ _) (.dat (.bl _))⟩
theorem lkr_notN : LkR K rNotN dNotN := by
  intro l0 l H0 H N0 N σ env k x y dx dy R rx ry h Q c
  obtain ⟨rfl, b, hb, q⟩ := h
  rw [ry.non_eq]
  have e : decide (x = .non) = b := by
    rw [Bool.eq_iff_iff, decide_eq_true_iff, non_iff rx, hb]
  exact ⟨rfl, by rw [e]; exact c _ _ _ q (.refl _ _) (.dat (.bl _))⟩
theorem lkr_isB : LkR K rIsB dIsB := by
  intro l0 l H0 H N0 N σ env k x y dx dy R rx ry h Q c
  obtain ⟨a, b, rfl, rfl, q⟩ := h
  rw [rx.bl_eq, ry.bl_eq]
  exact ⟨a, b, rfl, rfl, c _ _ _ q (.refl _ _) (.dat (.bl _))⟩
theorem lkr_notB : LkR K rNotB dNotB := by
  intro l0 l H0 H N0 N σ env k x y dx dy R rx ry h Q c
  obtain ⟨a, b, rfl, rfl, q⟩ := h
  rw [rx.bl_eq, ry.bl_eq]
  exact ⟨a, b, rfl, rfl, c _ _ _ q (.refl _ _) (.dat (.bl _))⟩
end
/-! truth -/
def dTru (da : DE) : DT := fun env R => da env fun x => (∃ i, x = .int i ∧ R (decide (i ≠ 0))) ∨ (∃ b, x = .bl b ∧ R b) ∨ (∃ xs, x.lits = some xs ∧ R (!xs.isEmpty))
/-! built-ins -/
def cLenD : DC := fun ds R => ∃ x xs, ds = [x] ∧ x.its = some xs ∧ R (.int (xs.length : Int))
def cAbsD : DC := fun ds R => ∃ i : Int, ds = [.int i] ∧ R (.int (i.natAbs : Int))
def cIntD : DC := fun ds R => (∃ i : Int, ds = [.int i] ∧ R (.int i)) ∨ ∃ b : Bool, ds = [.bl b] ∧ R (.int (if b then 1 else 0))
def cMax2D : DC := fun ds R => ∃ i j : Int, ds = [.int i, .int j] ∧ R (.int (max i j))
def cMin2D : DC := fun ds R => ∃ i j : Int, ds = [.int i, .int j] ∧ R (.int (min i j))
def cSumD : DC := fun ds R => ∃ (x : Da) (ns : List Int), ds = [x] ∧ x.lits = some (ns.map .int) ∧ R (.int ns.sum)
def cMaxD : DC := fun ds R => ∃ (x : Da) (ns : List Int), ds = [x] ∧ x.lits = some (ns.map .int) ∧ 0 < ns.length ∧ ∀ m, m ∈ ns → (∀ y, y ∈ ns → y ≤ m) → R (.int m)
def cMinD : DC := fun ds R => ∃ (x : Da) (ns : List Int), ds = [x] ∧ x.lits = some (ns.map .int) ∧ 0 < ns.length ∧ ∀ m, m ∈ ns → (∀ y, y ∈ ns → m ≤ y) → R (.int m)
def cAllD : DC := fun ds R => ∃ (x : Da) (bs : List Bool), ds = [x] ∧ x.lits = some (bs.map .bl) ∧ R (.bl (bs.all id))
def cAnyD : DC := fun ds R => ∃ (x : Da) (bs : List Bool), ds = [x] ∧ x.lits = some (bs.map .bl) ∧ R (.bl (bs.any id))
def cLstD : DC := fun ds R => ∃ x xs, ds = [x] ∧ x.its = some xs ∧ R (.lst xs)
def cTupD : DC := fun ds R => ∃ x xs, ds = [x] ∧ x.its = some xs ∧ R (.tup xs)
/-- what kind of thing -/
def Da.tyv : Da → Option Value
  | .non => some (.type "NoneType")
  | .bl _ => some (.type "bool")
  | .int _ => some (.type "int")
  | .str _ => some (.type "str")
  | .lst _ => some (.type "list")
  | .own _ => some (.type "list")
  | .scr _ => some (.type "list")
  | .tup _ => some (.type "tuple")
  | .obj C _ => some (.ref C)
  | _ => none
def Da.clv : Da → Option Value
  | .ty n => some (.type n)
  | .adr C => some (.ref C)
  | _ => none
def cIsiD (K : PySem.W.Frag) : DC := fun ds R => ∃ x c t u b, ds = [x, c] ∧ x.tyv = some t ∧ (∀ C fs, x = .obj C fs → InsTy K C) ∧ c.clv = some u ∧ PySem.W.kitOne K t u = some b ∧ R (.bl b)
section
variable {K : PySem.W.Frag} {ta : TE} {da : DE}
theorem rts1 {H0 H : Hp} {l : Option Addr} {N : Addr → Prop} {vs : List V} {x : Da} (r : RepTs K H0 l N H vs [x]) : ∃ v, vs = [v] ∧ RepT K H0 l N H v x := by
  cases r with | cons h r => cases r; exact ⟨_, rfl, h⟩
theorem rts2 {H0 H : Hp} {l : Option Addr} {N : Addr → Prop} {vs : List V} {x y : Da} (r : RepTs K H0 l N H vs [x, y]) : ∃ v w, vs = [v, w] ∧ RepT K H0 l N H v x ∧ RepT K H0 l N H w y := by
  cases r with | cons h r => cases r with | cons h' r => cases r; exact ⟨_, _, rfl, h, h'⟩
theorem lk_tru (ha : LkE K ta da) : LkT K (tTru K ta) (dTru da) := by
  intro l0 l H0 H N0 N σ env k R h Q c
  refine ha k h fun x v H1 hx m1 r1 => ?_
  rcases hx with ⟨i, rfl, q⟩ | ⟨b, rfl, q⟩ | ⟨xs, e, q⟩
  · rw [r1.int_eq]
    refine r_truI ?_
    exact c _ _ q m1
  · rw [r1.bl_eq]
    exact ⟨b, rfl, c _ _ q m1⟩
  · obtain ⟨a, vs, rfl, hs, r⟩ := r1.lits e
    refine ⟨!vs.isEmpty, ?_, c _ _ ?_ m1⟩
    · exact .inl ⟨vs, hs, rfl⟩
    · have : vs.isEmpty = xs.isEmpty := by
        rw [Bool.eq_iff_iff, List.isEmpty_iff_length_eq_zero, List.isEmpty_iff_length_eq_zero, r.length]
      rw [this]; exact q
theorem RepT.ty {H0 H : Hp} {l : Option Addr} {N : Addr → Prop} {v : V} {x : Da} {t : Value} (r : RepT K H0 l N H v x) (h : x.tyv = some t) (hi : ∀ C fs, x = .obj C fs → InsTy K C) : TyX K H v t := by
  cases r with
  | dat r =>
    cases r <;> first | (cases h; done) | skip
    · cases h; exact .base .non
    · cases h; exact .base (.bl _)
    · cases h; exact .base (.int _)
    · cases h; exact .base (.str _)
    · rename_i e _; cases h; exact .base (.lst e)
    · rename_i e _; cases h
      exact (Kd.tup e).ty
    · rename_i e _; cases h
      exact (hi _ _ rfl).ty e
    · rename_i e; cases h
      exact (Kd.lst e.sq).ty
  | own _ _ _ e _ => cases h; exact .base (.lst e)
  | dr => cases h
theorem cls_of {H0 H : Hp} {l : Option Addr} {N : Addr → Prop} {v : V} {c : Da} {u : Value} (r : RepT K H0 l N H v c) (h : c.clv = some u) : ClsV v u := by
  cases r with
  | dat r =>
    cases r <;> first | (cases h; done) | skip
    · cases h; exact .own _
    · cases h; exact .ty _
  | own => cases h
  | dr => cases h
theorem lkc_isi : LkC K (rIsi K) (cIsiD K) := by
  intro l0 l H0 H N0 N σ env k vs ds R r h Q c
  obtain ⟨x, cc, t, u, b, rfl, e1, e2, e3, e4, q⟩ := h
  obtain ⟨v, w, rfl, r1, r2⟩ := rts2 r
  exact ⟨v, w, t, u, b, rfl, cls_of r2 e3, r1.ty e1 e2, e4, c _ _ _ q (.refl _ _) (.dat (.bl _))⟩
theorem lkc_len : LkC K (rLn K) cLenD := by
  intro l0 l H0 H N0 N σ env k vs ds R r h Q c
  obtain ⟨x, xs, rfl, e, q⟩ := h
  obtain ⟨v, rfl, r1⟩ := rts1 r
  obtain ⟨a, ws, rfl, hs, r2⟩ := r1.itsV e
  rw [← r2.length] at q
  rcases hs with hs | hs
  · exact r_lenL hs (c _ _ _ q (.refl _ _) (.dat (.int _)))
  · exact r_lenT hs (c _ _ _ q (.refl _ _) (.dat (.int _)))
theorem lkc_abs : LkC K rAbs cAbsD := by
  intro l0 l H0 H N0 N σ env k vs ds R r h Q c
  obtain ⟨i, rfl, q⟩ := h
  obtain ⟨v, rfl, r1⟩ := rts1 r
  rw [r1.int_eq]
  exact r_abs (c _ _ _ q (.refl _ _) (.dat (.int _)))
theorem lkc_int : LkC K rInt1 cIntD := by
  intro l0 l H0 H N0 N σ env k vs ds R r h Q c
  rcases h with ⟨i, rfl, q⟩ | ⟨b, rfl, q⟩
  · obtain ⟨v, rfl, r1⟩ := rts1 r
    rw [r1.int_eq]
    exact r_intI (c _ _ _ q (.refl _ _) (.dat (.int _)))
  · obtain ⟨v, rfl, r1⟩ := rts1 r
    rw [r1.bl_eq]
    exact r_intB (c _ _ _ q (.refl _ _) (.dat (.int _)))
theorem lkc_max2 : LkC K rMx2 cMax2D := by
  intro l0 l H0 H N0 N σ env k vs ds R r h Q c
  obtain ⟨i, j, rfl, q⟩ := h
  obtain ⟨v, w, rfl, r1, r2⟩ := rts2 r
  rw [r1.int_eq, r2.int_eq]
  exact r_max2 (c _ _ _ q (.refl _ _) (.dat (.int _)))
theorem lkc_min2 : LkC K rMn2 cMin2D := by
  intro l0 l H0 H N0 N σ env k vs ds R r h Q c
  obtain ⟨i, j, rfl, q⟩ := h
  obtain ⟨v, w, rfl, r1, r2⟩ := rts2 r
  rw [r1.int_eq, r2.int_eq]
  exact r_min2 (c _ _ _ q (.refl _ _) (.dat (.int _)))
theorem intsV {H0 H : Hp} {l : Option Addr} {N : Addr → Prop} {v : V} {x : Da} {ns : List Int} (r : RepT K H0 l N H v x) (e : x.lits = some (ns.map .int)) : ∃ a, v = .ref a ∧ SqL K H a (ns.map V.int) := by
  obtain ⟨a, ws, rfl, hs, r2⟩ := r.lits e
  rw [r2.ints] at hs
  exact ⟨a, rfl, hs⟩
theorem blsV {H0 H : Hp} {l : Option Addr} {N : Addr → Prop} {v : V} {x : Da} {ns : List Bool} (r : RepT K H0 l N H v x) (e : x.lits = some (ns.map .bl)) : ∃ a, v = .ref a ∧ SqL K H a (ns.map V.bl) := by
  obtain ⟨a, ws, rfl, hs, r2⟩ := r.lits e
  rw [r2.bls] at hs
  exact ⟨a, rfl, hs⟩
theorem lkc_sum : LkC K (rSum K) cSumD := by
  intro l0 l H0 H N0 N σ env k vs ds R r h Q c
  obtain ⟨x, ns, rfl, e, q⟩ := h
  obtain ⟨v, rfl, r1⟩ := rts1 r
  obtain ⟨a, rfl, hs⟩ := intsV r1 e
  exact ⟨a, ns, rfl, hs, c _ _ _ q (.refl _ _) (.dat (.int _))⟩
theorem lkc_max : LkC K (rMax K) cMaxD := by
  intro l0 l H0 H N0 N σ env k vs ds R r h Q c
  obtain ⟨x, ns, rfl, e, h0, q⟩ := h
  obtain ⟨v, rfl, r1⟩ := rts1 r
  obtain ⟨a, rfl, hs⟩ := intsV r1 e
  exact ⟨a, ns, rfl, hs, h0, fun m h1 h2 => c _ _ _ (q m h1 h2) (.refl _ _) (.dat (.int _))⟩
theorem lkc_min : LkC K (rMin K) cMinD := by
  intro l0 l H0 H N0 N σ env k vs ds R r h Q c
  obtain ⟨x, ns, rfl, e, h0, q⟩ := h
  obtain ⟨v, rfl, r1⟩ := rts1 r
  obtain ⟨a, rfl, hs⟩ := intsV r1 e
  exact ⟨a, ns, rfl, hs, h0, fun m h1 h2 => c _ _ _ (q m h1 h2) (.refl _ _) (.dat (.int _))⟩
theorem lkc_all : LkC K (rAll K) cAllD := by
  intro l0 l H0 H N0 N σ env k vs ds R r h Q c
  obtain ⟨x, ns, rfl, e, q⟩ := h
  obtain ⟨v, rfl, r1⟩ := rts1 r
  obtain ⟨a, rfl, hs⟩ := blsV r1 e
  exact ⟨a, ns, rfl, hs, c _ _ _ q (.refl _ _) (.dat (.bl _))⟩
theorem lkc_any : LkC K (rAny K) cAnyD := by
  intro l0 l H0 H N0 N σ env k vs ds R r h Q c
  obtain ⟨x, ns, rfl, e, q⟩ := h
  obtain ⟨v, rfl, r1⟩ := rts1 r
  obtain ⟨a, rfl, hs⟩ := blsV r1 e
  exact ⟨a, ns, rfl, hs, c _ _ _ q (.refl _ _) (.dat (.bl _))⟩
theorem lkc_tupOf : LkC K (rTupOf K) cTupD := by
  intro l0 l H0 H N0 N σ env k vs ds R r h Q c
  obtain ⟨x, xs, rfl, e, q⟩ := h
  obtain ⟨v, rfl, r1⟩ := rts1 r
  obtain ⟨a, ws, rfl, hs, r2⟩ := r1.itsV e
  rcases hs with hs | hs
  · exact r_tupOfL hs fun p hp => c _ _ _ q ((Mv.refl _ _).new hp) (.dat (.tup (SqT.of upd_same) (new_rep k.ls hp r2)))
  · exact r_tupOfT hs (c _ _ _ q (.refl _ _) (.dat (.tup hs r2)))
theorem lkc_lstOf : LkC K (rLstOf K) cLstD := by
  intro l0 l H0 H N0 N σ env k vs ds R r h Q c
  obtain ⟨x, xs, rfl, e, q⟩ := h
  obtain ⟨v, rfl, r1⟩ := rts1 r
  obtain ⟨a, ws, rfl, hs, r2⟩ := r1.itsV e
  refine ⟨a, ws, rfl, hs, fun p hp => ?_⟩
  exact c _ _ _ q ((Mv.refl _ _).new hp) (.dat (.lst (not_new k.ls hp) upd_same (new_rep k.ls hp r2)))
end
/-! slices -/
def cutD (xs : List Da) (lo hi : Option Int) : List Da := (xs.drop (HT.sIx xs.length 0 lo)).take (HT.sIx xs.length xs.length hi - HT.sIx xs.length 0 lo)
def dSlL (de : DE) (dl dh : DO) : DE := fun env R => de env fun x => dl env fun l => dh env fun u => ∃ xs, x.lits = some xs ∧ R (.lst (cutD xs l u))
def dSlT (de : DE) (dl dh : DO) : DE := fun env R => de env fun x => dl env fun l => dh env fun u => ∃ xs, x = .tup xs ∧ R (.tup (cutD xs l u))
def dRevL (de : DE) : DE := fun env R => de env fun x => ∃ xs, x.lits = some xs ∧ R (.lst xs.reverse)
def dSlX (de : DE) (dl dh dt : DO) : DE := fun env R => de env fun x => dl env fun l => dh env fun u => dt env fun s => ∃ xs, x.lits = some xs ∧ s ≠ some 0 ∧ R (.lst (stepV xs l u s))
section
variable {K : PySem.W.Frag} {te : TE} {de : DE} {tl th tt : TO} {dl dh dt : DO}
theorem reps_cut {N : Addr → Prop} {H : Hp} {vs : List V} {xs : List Da} (r : Reps K N H vs xs) (lo hi : Option Int) : Reps K N H (cutV vs lo hi) (cutD xs lo hi) := by
  unfold cutV cutD
  rw [r.length]
  exact (r.drop _).take _
theorem lk_slL (he : LkE K te de) (hl : LkO K tl dl) (hh : LkO K th dh) : LkE K (tSl (rSlL K) te tl th) (dSlL de dl dh) := by
  intro l0 l H0 H N0 N σ env k R h Q c
  refine he k h fun x v H1 hx m1 r1 => hl (k.mv m1) hx fun lo H2 hlo m2 => hh ((k.mv m1).mv m2) hlo fun hi H3 hhi m3 => ?_
  obtain ⟨xs, e, q⟩ := hhi
  have k3 := ((k.mv m1).mv m2).mv m3
  obtain ⟨a, vs, rfl, hs, r⟩ := ((k.mv m1).repT (m2.trans m3) r1).lits e
  refine ⟨a, vs, rfl, hs, fun p hp => ?_⟩
  exact c _ _ _ q (((m1.trans m2).trans m3).new hp) (.dat (.lst (not_new k3.ls hp) upd_same (new_rep k3.ls hp (reps_cut r lo hi))))
theorem lk_slT (he : LkE K te de) (hl : LkO K tl dl) (hh : LkO K th dh) : LkE K (tSl (rSlA K) te tl th) (dSlT de dl dh) := by
  intro l0 l H0 H N0 N σ env k R h Q c
  refine he k h fun x v H1 hx m1 r1 => hl (k.mv m1) hx fun lo H2 hlo m2 => hh ((k.mv m1).mv m2) hlo fun hi H3 hhi m3 => ?_
  obtain ⟨xs, rfl, q⟩ := hhi
  have k3 := ((k.mv m1).mv m2).mv m3
  obtain ⟨a, vs, rfl, hs, r⟩ := ((k.mv m1).repT (m2.trans m3) r1).tupV
  refine r_slA hs fun p H4 s4 h4 => ?_
  exact c _ _ _ q (((m1.trans m2).trans m3).trans (.of_same s4)) (.dat (.tup h4 ((k3.reps (.of_same s4)) (reps_cut r lo hi))))
theorem lk_revL (he : LkE K te de) : LkE K (tRevL K te) (dRevL de) := by
  intro l0 l H0 H N0 N σ env k R h Q c
  refine he k h fun x v H1 hx m1 r1 => ?_
  obtain ⟨xs, e, q⟩ := hx
  have k1 := k.mv m1
  obtain ⟨a, vs, rfl, hs, r⟩ := r1.lits e
  refine ⟨a, vs, rfl, hs, fun p hp => ?_⟩
  exact c _ _ _ q (m1.new hp) (.dat (.lst (not_new k1.ls hp) upd_same (new_rep k1.ls hp r.rev)))
theorem lk_slX (he : LkE K te de) (hl : LkO K tl dl) (hh : LkO K th dh) (ht : LkO K tt dt) : LkE K (tSlX K te tl th tt) (dSlX de dl dh dt) := by
  intro l0 l H0 H N0 N σ env k R h Q c
  refine he k h fun x v H1 hx m1 r1 => hl (k.mv m1) hx fun lo H2 hlo m2 => hh ((k.mv m1).mv m2) hlo fun hi H3 hhi m3 => ht (((k.mv m1).mv m2).mv m3) hhi fun st H4 hst m4 => ?_
  obtain ⟨xs, e, h0, q⟩ := hst
  have k4 := (((k.mv m1).mv m2).mv m3).mv m4
  obtain ⟨a, vs, rfl, hs, r⟩ := ((k.mv m1).repT ((m2.trans m3).trans m4) r1).lits e
  refine ⟨a, vs, rfl, hs, h0, fun p hp => ?_⟩
  have rr : Reps K N H4 (stepV vs lo hi st) (stepV xs lo hi st) := by
    unfold stepV
    rw [r.length]
    exact r.pick _
  exact c _ _ _ q ((((m1.trans m2).trans m3).trans m4).new hp) (.dat (.lst (not_new k4.ls hp) upd_same (new_rep k4.ls hp rr)))
end
end G
/-! ### calls and objects as data -/
namespace G
open PySem PySem.Spec PyProof.Rows L2
abbrev FD := List Da → (Da → Prop) → Prop
inductive RepA (K : PySem.W.Frag) (l : Option Addr) (N : Addr → Prop) (H : Hp) : V → Da → Prop where
  | dat {v : V} {d : Da} : Rep K N H v d → RepA K l N H v d
  | dr {a : Addr} : l = some a → RepA K l N H (.ref a) .dr
inductive RepAs (K : PySem.W.Frag) (l : Option Addr) (N : Addr → Prop) (H : Hp) : List V → List Da → Prop where
  | nil : RepAs K l N H [] []
  | cons {v : V} {vs : List V} {d : Da} {ds : List Da} : RepA K l N H v d → RepAs K l N H vs ds → RepAs K l N H (v :: vs) (d :: ds)
/-- the promise of a def about data -/
def spD (K : PySem.W.Frag) (ds : FD) : Sp := fun vs H Q _ => ∃ (l : Option Addr) (N : Addr → Prop) (args : List Da) (R : Da → Prop), Lists N H ∧ (∀ a, l = some a → N a ∧ DrAt H a) ∧ RepAs K l N H vs args ∧ ds args R ∧ ∀ d v H', R d → Mv l H H' → Rep K N H' v d → Q v H'
class Br (K : PySem.W.Frag) (sp : Sp) (ds : outParam FD) : Prop where
  br : ∀ {vs : List V} {H : Hp} {Q : VK} {E : XK}, spD K ds vs H Q E → sp vs H Q E
instance {K : PySem.W.Frag} {ds : FD} : Br K (spD K ds) ds := ⟨fun h => h⟩
class BrM (K : PySem.W.Frag) (C : Addr) (sp : Sp) (ds : outParam FD) : Prop where
  br : ∀ {l : Option Addr} {N : Addr → Prop} {H : Hp} {vs : List V} {args : List Da} {R : Da → Prop} {Q : VK} {E : XK}, Lists N H → (∀ a, l = some a → N a ∧ DrAt H a) → RepAs K l N H vs args → ds args R → (∀ d x H', R d → Mv l H H' → Rep K N H' (.ref x) d → Q (.ref x) H') →
    ∀ x dx, H x = none → H dx = none → dx ≠ x → sp (V.ref x :: vs) (upd (upd H dx (.own x)) x (.ins C dx [])) (fun v H2 => v = .non ∧ Q (.ref x) H2) E
mutual
/-- no list within -/
def Da.flat : Da → Bool
  | .lst _ => false
  | .own _ => false
  | .dr => false
  | .tup xs => flatsD xs
  | .obj _ fs => flatFD fs
  | .non => true
  | .bl _ => true
  | .int _ => true
  | .str _ => true
  | .scr _ => true
  | .adr _ => true
  | .ty _ => true
def flatsD : List Da → Bool
  | [] => true
  | x :: xs => x.flat && flatsD xs
def flatFD : List (Str × Da) → Bool
  | [] => true
  | (_, x) :: xs => x.flat && flatFD xs
end
section
variable {K : PySem.W.Frag} {N N' : Addr → Prop} {H : Hp}
mutual
theorem Rep.flat : ∀ {v : V} {d : Da}, Rep K N H v d → d.flat = true → Rep K N' H v d
  | _, _, .non, _ => .non
  | _, _, .bl b, _ => .bl b
  | _, _, .int i, _ => .int i
  | _, _, .str s, _ => .str s
  | _, _, .lst _ _ _, h => by rw [Da.flat] at h; cases h
  | _, _, .tup e r, h => .tup e (Reps.flat r (by rw [Da.flat] at h; exact h))
  | _, _, .obj e r, h => .obj e (RepF.flat r (by rw [Da.flat] at h; exact h))
  | _, _, .scr e, _ => .scr e
  | _, _, .adr a, _ => .adr a
  | _, _, .ty n, _ => .ty n
theorem Reps.flat : ∀ {vs : List V} {ds : List Da}, Reps K N H vs ds → flatsD ds = true → Reps K N' H vs ds
  | _, _, .nil, _ => .nil
  | _, _, .cons h r, e => by
    rw [flatsD, Bool.and_eq_true] at e
    exact .cons (Rep.flat h e.1) (Reps.flat r e.2)
theorem RepF.flat : ∀ {fs : List (Str × V)} {ds : List (Str × Da)}, RepF K N H fs ds → flatFD ds = true → RepF K N' H fs ds
  | _, _, .nil, _ => .nil
  | _, _, .cons h r, e => by
    rw [flatFD, Bool.and_eq_true] at e
    exact .cons (Rep.flat h e.1) (RepF.flat r e.2)
end
end
def Da.noOwn : Da → Bool
  | .own _ => false
  | _ => true
/-- as an argument -/
def Da.arg : Da → Da
  | .own xs => .lst xs
  | d => d
def DCall (ds : FD) (xs : List Da) (R : Da → Prop) : Prop := (xs.all Da.noOwn = true ∧ ds xs R) ∨ ds (xs.map Da.arg) fun d => d.flat = true ∧ R d
def toDa : V → Da
  | .int i => .int i
  | .bl b => .bl b
  | .str s => .str s
  | .non => .non
  | .ty n => .ty n
  | .ref a => .adr a
  | _ => .non
def okV : V → Bool
  | .byt _ => false
  | .flt _ => false
  | _ => true
section
variable {K : PySem.W.Frag} {l0 l : Option Addr} {H0 H : Hp} {N0 N : Addr → Prop} {σ : L2.St} {env : Env} {vs : List V} {xs : List Da} {sp : Sp} {ds : FD} {E : XK}
theorem rep_toDa {v : V} (h : okV v = true) : Rep K N H v (toDa v) := by
  cases v <;> first | (cases h; done) | skip
  · exact .non
  · exact .bl _
  · exact .int _
  · exact .str _
  · exact .adr _
  · exact .ty _
theorem reps_toDa : ∀ {vs : List V}, vs.all okV = true → Reps K N H vs (vs.map toDa)
  | [], _ => .nil
  | v :: vs, h => by
    rw [List.all_cons, Bool.and_eq_true] at h
    exact .cons (rep_toDa h.1) (reps_toDa h.2)
theorem RepTs.app {ws : List V} {ys : List Da} (a : RepTs K H0 l N H vs xs) (b : RepTs K H0 l N H ws ys) : RepTs K H0 l N H (vs ++ ws) (xs ++ ys) := by
  induction a with
  | nil => exact b
  | cons h _ ih => exact .cons h ih
theorem args1 (r : RepTs K H0 l N H vs xs) (h : xs.all Da.noOwn = true) : RepAs K l N H vs xs := by
  induction r with
  | nil => exact .nil
  | cons h' _ ih =>
    rw [List.all_cons, Bool.and_eq_true] at h
    refine .cons ?_ (ih h.2)
    cases h' with
    | dat r => exact .dat r
    | own => exact nomatch h.1
    | dr e => exact .dr e
theorem args2 {N' : Addr → Prop} (hn : ∀ a, N' a → N a) (r : RepTs K H0 l N H vs xs) (h : ∀ a, V.ref a ∈ vs → some a ≠ l → ¬ N' a) : RepAs K l N' H vs (xs.map Da.arg) := by
  induction r with
  | nil => exact .nil
  | cons h' _ ih =>
    refine .cons ?_ (ih fun a ha => h a (List.mem_cons_of_mem _ ha))
    cases h' with
    | dat r =>
      have e : ∀ {v : V} {d : Da}, Rep K N H v d → Da.arg d = d := fun {v d} r => by cases r <;> rfl
      rw [e r]
      exact .dat (r.other fun a z => .inl (hn a z))
    | own _ _ a3 a4 r => exact .dat (.lst (h _ List.mem_cons_self a3) a4 (r.other fun a z => .inl (hn a z)))
    | dr e => exact .dr e
theorem callD [b : Br K sp ds] (k : DOk K l0 H0 N0 l N H σ env) (r : RepTs K H0 l N H vs xs) {R : Da → Prop} (h : DCall ds xs R) {Q : VK} (c : ∀ d v H', R d → Mv l H H' → RepT K H0 l N H' v d → Q v H') : sp vs H Q E := by
  rcases h with ⟨h1, h2⟩ | h
  · exact b.br ⟨l, N, xs, R, k.ls, fun a e => ⟨k.ln a e, k.dl a e⟩, args1 r h1, h2, fun d v H' hd m r => c d v H' hd m (.dat r)⟩
  · refine b.br ⟨l, fun a => N a ∧ (V.ref a ∉ vs ∨ some a = l), xs.map Da.arg, _, fun a z => k.ls a z.1, fun a e => ⟨⟨k.ln a e, .inr e.symm⟩, k.dl a e⟩, args2 (fun a z => z.1) r (fun a ha hl z => ?_), h, fun d v H' hd m r => c d v H' hd.2 m (.dat (r.flat hd.1))⟩
    rcases z.2 with y | y
    · exact y ha
    · exact hl y
theorem makeD {C : Addr} [b : BrM K C sp ds] (k : DOk K l0 H0 N0 l N H σ env) (r : RepTs K H0 l N H vs xs) {R : Da → Prop} (h : DCall ds xs R) {Q : VK} (c : ∀ d v H', R d → Mv l H H' → RepT K H0 l N H' v d → Q v H') :
    ∀ x dx, H x = none → H dx = none → dx ≠ x → sp (V.ref x :: vs) (upd (upd H dx (.own x)) x (.ins C dx [])) (fun v H2 => v = .non ∧ Q (.ref x) H2) E := by
  rcases h with ⟨h1, h2⟩ | h
  · exact b.br k.ls (fun a e => ⟨k.ln a e, k.dl a e⟩) (args1 r h1) h2 fun d x H' hd m r => c d _ H' hd m (.dat r)
  · refine b.br (N := fun a => N a ∧ (V.ref a ∉ vs ∨ some a = l)) (l := l) (fun a z => k.ls a z.1) (fun a e => ⟨⟨k.ln a e, .inr e.symm⟩, k.dl a e⟩) (args2 (fun a z => z.1) r (fun a ha hl z => ?_)) h fun d x H' hd m r => c d _ H' hd.2 m (.dat (r.flat hd.1))
    rcases z.2 with y | y
    · exact y ha
    · exact hl y
end
def dCall (ds : FD) (dd : List Da) (dta : DA) : DE := fun env R => dta env fun xs => DCall ds (xs ++ dd) R
def dMeth (C : Addr) (m : Str) (ds : FD) (da : DE) (dta : DA) : DE := fun env R => da env fun x => ∃ fs, x = .obj C fs ∧ fs.lookup m = none ∧ dta env fun xs => DCall ds (x :: xs) R
def dProp (C : Addr) (ds : FD) (dd : List Da) (da : DE) : DE := fun env R => da env fun x => ∃ fs, x = .obj C fs ∧ DCall ds (x :: dd) R
def dPropG (K : PySem.W.Frag) (m : Str) (p g : Addr) (ds : FD) (dd : List Da) (da : DE) : DE := fun env R => da env fun x => ∃ C fs, x = .obj C fs ∧ Cls K C ∧ PropOf K C m p g ∧ DCall ds (x :: dd) R
def dFld (K : PySem.W.Frag) (f : Str) (da : DE) : DE := fun env R => da env fun x => ∃ C fs d, x = .obj C fs ∧ Cls K C ∧ NoAttr K C f ∧ fs.lookup f = some d ∧ R d
def dMake (ds : FD) (dta : DA) : DE := fun env R => dta env fun xs => DCall ds xs R
def dCVal (K : PySem.W.Frag) (f : Str) (da : DE) : DE := fun env R => da env fun x => ∃ C mc v u, x = .adr C ∧ ClX.CRead K C mc ∧ ClX.CVal K C mc f v u ∧ okV v = true ∧ R (toDa v)
def dCMeth (C : Addr) (ds : FD) (da : DE) : DE := fun env R => da env fun x => x = .adr C ∧ DCall ds [.adr C] R
def dMeth2 (C1 C2 : Addr) (m : Str) (ds1 ds2 : FD) (da : DE) (dta : DA) : DE := fun env R => da env fun x => ∃ fs, fs.lookup m = none ∧ ((x = .obj C1 fs ∧ dta env fun xs => DCall ds1 (x :: xs) R) ∨ (x = .obj C2 fs ∧ dta env fun xs => DCall ds2 (x :: xs) R))
section
variable {K : PySem.W.Frag} {ta : TE} {da : DE} {t : TA} {dta : DA} {sp sp2 : Sp} {ds ds2 : FD} {dvs : List V} {E : XK}
theorem lk_call [Br K sp ds] (ht : LkA K t dta) (hv : dvs.all okV = true := by with_unfolding_all exact rfl) : LkE K (tCall sp dvs E t) (dCall ds (dvs.map toDa) dta) := by
  intro l0 l H0 H N0 N σ env k R h Q c
  refine ht k h fun xs vs H1 hx m1 r1 => ?_
  exact callD (k.mv m1) (r1.app (.of (reps_toDa hv))) hx fun d v H2 hd m2 r2 => c d v H2 hd (m1.trans m2) r2
theorem lk_callR {E : L2.St → XK} [Br K sp ds] (ht : LkA K t dta) : LkE K (tCallR sp E t) (dCall ds [] dta) := by
  intro l0 l H0 H N0 N σ env k R h Q c
  refine ht k h fun xs vs H1 hx m1 r1 => ?_
  rw [List.append_nil] at hx
  exact callD (k.mv m1) r1 hx fun d v H2 hd m2 r2 => c d v H2 hd (m1.trans m2) r2
theorem obj_of {H0 H : Hp} {l : Option Addr} {N : Addr → Prop} {v : V} {C : Addr} {fs : List (Str × Da)} (r : RepT K H0 l N H v (.obj C fs)) : ∃ a dx gs, v = .ref a ∧ H a = some (.ins C dx gs) ∧ RepF K N H gs fs := by
  cases r with | dat r => cases r with | obj e r => exact ⟨_, _, _, rfl, e, r⟩
theorem lk_meth {C : Addr} {m : Str} {E : L2.St → XK} [Br K sp ds] (ha : LkE K ta da) (ht : LkA K t dta) : LkE K (tMethA C m sp E ta t) (dMeth C m ds da dta) := by
  intro l0 l H0 H N0 N σ env k R h Q c
  refine ha k h fun x v H1 hx m1 r1 => ?_
  obtain ⟨fs, rfl, hl, h2⟩ := hx
  obtain ⟨a, dx, gs, rfl, e, rf⟩ := obj_of r1
  refine ⟨a, dx, gs, rfl, e, rf.none hl, ht (k.mv m1) h2 fun xs vs H2 hx m2 r2 => ?_⟩
  exact callD ((k.mv m1).mv m2) (.cons ((k.mv m1).repT m2 r1) r2) hx fun d v H3 hd m3 r3 => c d v H3 hd ((m1.trans m2).trans m3) r3
theorem lk_prop {C : Addr} [Br K sp ds] (ha : LkE K ta da) (hv : dvs.all okV = true := by with_unfolding_all exact rfl) : LkE K (tProp C sp dvs E ta) (dProp C ds (dvs.map toDa) da) := by
  intro l0 l H0 H N0 N σ env k R h Q c
  refine ha k h fun x v H1 hx m1 r1 => ?_
  obtain ⟨fs, rfl, h2⟩ := hx
  obtain ⟨a, dx, gs, rfl, e, rf⟩ := obj_of r1
  exact ⟨a, dx, gs, rfl, e, callD (k.mv m1) (.cons r1 (.of (reps_toDa hv))) h2 fun d v H3 hd m3 r3 => c d v H3 hd (m1.trans m3) r3⟩
theorem lk_propG {m : Str} {p g : Addr} [Br K sp ds] (ha : LkE K ta da) (hv : dvs.all okV = true := by with_unfolding_all exact rfl) : LkE K (tPropG K m p g sp dvs E ta) (dPropG K m p g ds (dvs.map toDa) da) := by
  intro l0 l H0 H N0 N σ env k R h Q c
  refine ha k h fun x v H1 hx m1 r1 => ?_
  obtain ⟨C, fs, rfl, hc, hp, h2⟩ := hx
  obtain ⟨a, dx, gs, rfl, e, rf⟩ := obj_of r1
  exact ⟨C, a, dx, gs, rfl, e, hc, hp, callD (k.mv m1) (.cons r1 (.of (reps_toDa hv))) h2 fun d v H3 hd m3 r3 => c d v H3 hd (m1.trans m3) r3⟩
theorem lk_fld {f : Str} (ha : LkE K ta da) : LkE K (tFld K ta f) (dFld K f da) := by
  intro l0 l H0 H N0 N σ env k R h Q c
  refine ha k h fun x v H1 hx m1 r1 => ?_
  obtain ⟨C, fs, d, rfl, hc, hn, hl, q⟩ := hx
  obtain ⟨a, dx, gs, rfl, e, rf⟩ := obj_of r1
  obtain ⟨w, hw, rw'⟩ := rf.look hl
  exact ⟨a, C, dx, gs, w, rfl, e, hc, hn, hw, c _ _ _ q m1 (.dat rw')⟩
theorem lk_make {C : Addr} {E : L2.St → XK} [BrM K C sp ds] (ht : LkA K t dta) : LkE K (tMakeA C sp E t) (dMake ds dta) := by
  intro l0 l H0 H N0 N σ env k R h Q c
  refine ht k h fun xs vs H1 hx m1 r1 => ?_
  exact makeD (k.mv m1) r1 hx fun d v H2 hd m2 r2 => c d v H2 hd (m1.trans m2) r2
theorem lk_cval {f : Str} (ha : LkE K ta da) : LkE K (ClX.tCVal K ta f) (dCVal K f da) := by
  intro l0 l H0 H N0 N σ env k R h Q c
  refine ha k h fun x v H1 hx m1 r1 => ?_
  obtain ⟨C, mc, w, u, rfl, h1, h2, h3, q⟩ := hx
  have : v = .ref C := by cases r1 with | dat r => cases r; rfl
  subst this
  exact ⟨C, mc, w, u, rfl, h1, h2, c _ _ _ q m1 (.dat (rep_toDa h3))⟩
theorem lk_cmeth {C : Addr} [Br K sp ds] (ha : LkE K ta da) : LkE K (tCMethA C sp E ta) (dCMeth C ds da) := by
  intro l0 l H0 H N0 N σ env k R h Q c
  refine ha k h fun x v H1 hx m1 r1 => ?_
  obtain ⟨rfl, h2⟩ := hx
  have : v = .ref C := by cases r1 with | dat r => cases r; rfl
  subst this
  exact ⟨rfl, callD (k.mv m1) (.cons r1 .nil) h2 fun d v H3 hd m3 r3 => c d v H3 hd (m1.trans m3) r3⟩
theorem lk_meth2 {C1 C2 : Addr} {m : Str} {E : L2.St → XK} [Br K sp ds] [Br K sp2 ds2] (ha : LkE K ta da) (ht : LkA K t dta) : LkE K (tMeth2 C1 C2 m sp sp2 E ta t) (dMeth2 C1 C2 m ds ds2 da dta) := by
  intro l0 l H0 H N0 N σ env k R h Q c
  refine ha k h fun x v H1 hx m1 r1 => ?_
  obtain ⟨fs, hl, ⟨rfl, h2⟩ | ⟨rfl, h2⟩⟩ := hx
  · obtain ⟨a, dx, gs, rfl, e, rf⟩ := obj_of r1
    refine ⟨a, dx, gs, rfl, rf.none hl, .inl ⟨e, ht (k.mv m1) h2 fun xs vs H2 hx m2 r2 => ?_⟩⟩
    exact callD ((k.mv m1).mv m2) (.cons ((k.mv m1).repT m2 r1) r2) hx fun d v H3 hd m3 r3 => c d v H3 hd ((m1.trans m2).trans m3) r3
  · obtain ⟨a, dx, gs, rfl, e, rf⟩ := obj_of r1
    refine ⟨a, dx, gs, rfl, rf.none hl, .inr ⟨e, ht (k.mv m1) h2 fun xs vs H2 hx m2 r2 => ?_⟩⟩
    exact callD ((k.mv m1).mv m2) (.cons ((k.mv m1).repT m2 r1) r2) hx fun d v H3 hd m3 r3 => c d v H3 hd ((m1.trans m2).trans m3) r3
def dMethD (C : Addr) (m : Str) (ds : FD) (dd : List Da) (da : DE) (dta : DA) : DE := fun env R => da env fun x => ∃ fs, x = .obj C fs ∧ fs.lookup m = none ∧ dta env fun xs => DCall ds ((x :: xs) ++ dd) R
def dMeth2D (C1 C2 : Addr) (m : Str) (ds1 ds2 : FD) (da : DE) (dta : DA) : DE := fun env R => da env fun x => ∃ fs, fs.lookup m = none ∧ ((x = .obj C1 fs ∧ dta env fun xs => DCall ds1 ((x :: xs) ++ []) R) ∨ (x = .obj C2 fs ∧ dta env fun xs => DCall ds2 ((x :: xs) ++ []) R))
theorem lk_methD {C : Addr} {m : Str} {E : L2.St → XK} [Br K sp ds] (ha : LkE K ta da) (ht : LkA K t dta) (hv : dvs.all okV = true := by with_unfolding_all exact rfl) : LkE K (tMethA C m (fun vs H Q E => sp (vs ++ dvs) H Q E) E ta t) (dMethD C m ds (dvs.map toDa) da dta) := by
  intro l0 l H0 H N0 N σ env k R h Q c
  refine ha k h fun x v H1 hx m1 r1 => ?_
  obtain ⟨fs, rfl, hl, h2⟩ := hx
  obtain ⟨a, dx, gs, rfl, e, rf⟩ := obj_of r1
  refine ⟨a, dx, gs, rfl, e, rf.none hl, ht (k.mv m1) h2 fun xs vs H2 hx m2 r2 => ?_⟩
  exact callD (sp := sp) ((k.mv m1).mv m2) ((RepTs.cons ((k.mv m1).repT m2 r1) r2).app (.of (reps_toDa hv))) hx fun d v H3 hd m3 r3 => c d v H3 hd ((m1.trans m2).trans m3) r3
theorem lk_makeD {C : Addr} {E : L2.St → XK} [BrM K C sp ds] (ht : LkA K t dta) (hv : dvs.all okV = true := by with_unfolding_all exact rfl) : LkE K (tMakeA C (fun vs H Q E => sp (vs ++ dvs) H Q E) E t) (dCall ds (dvs.map toDa) dta) := by
  intro l0 l H0 H N0 N σ env k R h Q c
  refine ht k h fun xs vs H1 hx m1 r1 => ?_
  exact makeD (sp := sp) (vs := vs ++ dvs) (k.mv m1) (r1.app (.of (reps_toDa hv))) hx fun d v H2 hd m2 r2 => c d v H2 hd (m1.trans m2) r2
theorem lk_meth2D {C1 C2 : Addr} {m : Str} {E : L2.St → XK} [Br K sp ds] [Br K sp2 ds2] (ha : LkE K ta da) (ht : LkA K t dta) : LkE K (tMeth2 C1 C2 m (fun vs H Q E => sp (vs ++ []) H Q E) (fun vs H Q E => sp2 (vs ++ []) H Q E) E ta t) (dMeth2D C1 C2 m ds ds2 da dta) := by
  intro l0 l H0 H N0 N σ env k R h Q c
  refine ha k h fun x v H1 hx m1 r1 => ?_
  obtain ⟨fs, hl, ⟨rfl, h2⟩ | ⟨rfl, h2⟩⟩ := hx
  · obtain ⟨a, dx, gs, rfl, e, rf⟩ := obj_of r1
    refine ⟨a, dx, gs, rfl, rf.none hl, .inl ⟨e, ht (k.mv m1) h2 fun xs vs H2 hx m2 r2 => ?_⟩⟩
    exact callD (sp := sp) ((k.mv m1).mv m2) ((RepTs.cons ((k.mv m1).repT m2 r1) r2).app .nil) hx fun d v H3 hd m3 r3 => c d v H3 hd ((m1.trans m2).trans m3) r3
  · obtain ⟨a, dx, gs, rfl, e, rf⟩ := obj_of r1
    refine ⟨a, dx, gs, rfl, rf.none hl, .inr ⟨e, ht (k.mv m1) h2 fun xs vs H2 hx m2 r2 => ?_⟩⟩
    exact callD (sp := sp2) ((k.mv m1).mv m2) ((RepTs.cons ((k.mv m1).repT m2 r1) r2).app .nil) hx fun d v H3 hd m3 r3 => c d v H3 hd ((m1.trans m2).trans m3) r3
end
end G
/-! ### targets, walks, comprehensions of data -/
namespace G
open PySem PySem.Spec PyProof.Rows L2
abbrev DG := Da → Env → (Env → Prop) → Prop
abbrev DGs := List Da → Env → (Env → Prop) → Prop
def LkG (K : PySem.W.Frag) (g : TG) (is : List Nat) (dg : DG) : Prop := ∀ {l0 l : Option Addr} {H0 H : Hp} {N0 N : Addr → Prop} {σ : L2.St} {env : Env}, DOk K l0 H0 N0 l N H σ env → ∀ {x : V} {d : Da}, Rep K N H x d → ∀ {R : Env → Prop}, dg d env R → ∀ {Q : L2.St → Hp → Prop},
  (∀ σ' env', DOk K l0 H0 N0 l N H σ' env' → R env' → (∀ vs : List Nat, (∀ i ∈ is, i ∈ vs) → wipe σ' vs = wipe σ vs) → Q σ' H) → g x σ H Q
def LkGs (K : PySem.W.Frag) (g : TGs) (is : List Nat) (dg : DGs) : Prop := ∀ {l0 l : Option Addr} {H0 H : Hp} {N0 N : Addr → Prop} {σ : L2.St} {env : Env}, DOk K l0 H0 N0 l N H σ env → ∀ {xs : List V} {ds : List Da}, Reps K N H xs ds → ∀ {R : Env → Prop}, dg ds env R → ∀ {Q : L2.St → Hp → Prop},
  (∀ σ' env', DOk K l0 H0 N0 l N H σ' env' → R env' → (∀ vs : List Nat, (∀ i ∈ is, i ∈ vs) → wipe σ' vs = wipe σ vs) → Q σ' H) → g xs σ H Q
def dName (i : Nat) : DG := fun d env R => R (env.set i (some d))
def dgNil : DGs := fun ds env R => ds = [] ∧ R env
def dgCons (t : DG) (u : DGs) : DGs := fun ds env R => ∃ d r, ds = d :: r ∧ t d env fun env' => u r env' R
def dgTup (n : Nat) (t : DGs) : DG := fun d env R => ∃ xs, d = .tup xs ∧ xs.length = n ∧ t xs env R
theorem wipe_at {σ : L2.St} {i : Nat} : ∀ {vs : List Nat}, i ∈ vs → (wipe σ vs)[i]? = if i < σ.length then some none else none
  | [], h => by cases h
  | v :: vs, h => by
    show ((wipe σ vs).set v none)[i]? = _
    rw [List.getElem?_set, wipe_length]
    by_cases z : v = i
    · subst z; rw [if_pos rfl]
    · rw [if_neg z]
      exact wipe_at ((List.mem_cons.mp h).resolve_left (Ne.symm z))
theorem wipe_set {σ : L2.St} {i : Nat} {o : Option V} {vs : List Nat} (h : i ∈ vs) : wipe (σ.set i o) vs = wipe σ vs := by
  refine List.ext_getElem? fun j => ?_
  by_cases z : j ∈ vs
  · rw [wipe_at z, wipe_at z, List.length_set]
  · rw [wipe_out z, wipe_out z, List.getElem?_set, if_neg (fun y : i = j => by subst y; exact z h)]
section
variable {K : PySem.W.Frag}
theorem lkg_name {i : Nat} : LkG K (gName i) [i] (dName i) := by
  intro l0 l H0 H N0 N σ env k x d r R h Q c
  exact c _ _ (k.store r) h fun vs hv => wipe_set (hv i (by simp))
theorem lkg_nil : LkGs K gNil [] dgNil := by
  intro l0 l H0 H N0 N σ env k xs ds r R h Q c
  obtain ⟨rfl, q⟩ := h
  cases r
  exact ⟨rfl, c _ _ k q fun _ _ => rfl⟩
theorem lkg_cons {t : TG} {u : TGs} {is js : List Nat} {dt : DG} {du : DGs} (ht : LkG K t is dt) (hu : LkGs K u js du) : LkGs K (gCons t u) (is ++ js) (dgCons dt du) := by
  intro l0 l H0 H N0 N σ env k xs ds r R h Q c
  obtain ⟨d, r', rfl, q⟩ := h
  cases r with
  | cons h1 h2 =>
    refine ⟨_, _, rfl, ht k h1 q fun σ1 env1 k1 q1 w1 => hu k1 h2 q1 fun σ2 env2 k2 q2 w2 => ?_⟩
    exact c _ _ k2 q2 fun vs hv => (w2 vs fun i hi => hv i (List.mem_append_right _ hi)).trans (w1 vs fun i hi => hv i (List.mem_append_left _ hi))
theorem lkg_tup {n : Nat} {t : TGs} {is : List Nat} {dt : DGs} (ht : LkGs K t is dt) : LkG K (gTup K n t) is (dgTup n dt) := by
  intro l0 l H0 H N0 N σ env k x d r R h Q c
  obtain ⟨xs, rfl, hl, q⟩ := h
  cases r with
  | tup e r => exact ⟨_, _, rfl, e, by rw [r.length]; exact hl, ht k r q c⟩
end
/-! walks -/
structure ItD (K : PySem.W.Frag) (N : Addr → Prop) (H1 : Hp) (Ow : Addr → Prop) (J : It) (xs : List Da) : Prop where
  go : ∀ {N' : Addr → Prop} {H' : Hp} {i : Nat}, Later N H1 N' H' → (∀ b o, Ow b → H1 b = some o → H' b = some o) → i < xs.length → J.go i H'
  stop : ∀ {N' : Addr → Prop} {H' : Hp}, Later N H1 N' H' → (∀ b o, Ow b → H1 b = some o → H' b = some o) → J.stop xs.length H'
  yld : ∀ {N' : Addr → Prop} {H' H2 : Hp} {i : Nat} {x : V} {d : Da}, Later N H1 N' H' → Lists N' H' → (∀ b o, Ow b → H1 b = some o → H' b = some o) → xs[i]? = some d → J.yld i H' x H2 → Same H' H2 ∧ Rep K N' H2 x d
abbrev DI := Env → (Bool → List Da → Prop) → Prop
def LkI (K : PySem.W.Frag) (wi : TI) (di : DI) : Prop := ∀ {l0 l : Option Addr} {H0 H : Hp} {N0 N : Addr → Prop} {σ : L2.St} {env : Env}, DOk K l0 H0 N0 l N H σ env → ∀ {R : Bool → List Da → Prop}, di env R → ∀ {Rr : It → Hp → Prop},
  (∀ (o : Bool) xs J H' (Ow : Addr → Prop), R o xs → Mv l H H' → ItD K N H' Ow J xs → (∀ b, Ow b → o = true ∧ N b ∧ some b ≠ l) → Rr J H') → wi σ H Rr
def Da.isOwn : Da → Bool
  | .own _ => true
  | _ => false
def diL (da : DE) : DI := fun env R => da env fun x => ∃ xs, x.lits = some xs ∧ R x.isOwn xs
def diT (da : DE) : DI := fun env R => da env fun x => ∃ xs, x = .tup xs ∧ R false xs
def diQ (da : DE) : DI := fun env R => da env fun x => ∃ xs, x.its = some xs ∧ R x.isOwn xs
def rngD (lo : Int) (n : Nat) : List Da := (List.range n).map fun k : Nat => Da.int (lo + (k : Int))
def diR1 (dta : DA) : DI := fun env R => dta env fun ds => ∃ n : Int, ds = [.int n] ∧ -(2 ^ 62) ≤ n ∧ n < 2 ^ 62 ∧ R false (rngD 0 n.toNat)
def diR2 (dta : DA) : DI := fun env R => dta env fun ds => ∃ m n : Int, ds = [.int m, .int n] ∧ (-(2 ^ 62) ≤ m ∧ m < 2 ^ 62 ∧ -(2 ^ 62) ≤ n ∧ n < 2 ^ 62) ∧ R false (rngD m (n - m).toNat)
def enumD (xs : List Da) : List Da := xs.zipIdx.map fun z => .tup [.int (z.2 : Nat), z.1]
def diE (dta : DA) : DI := fun env R => dta env fun ds => ∃ x xs, ds = [x] ∧ x.its = some xs ∧ R x.isOwn (enumD xs)
def zipD (xs ys : List Da) : List Da := (xs.zip ys).map fun z => .tup [z.1, z.2]
def diZ (dta : DA) : DI := fun env R => dta env fun ds => ∃ x y xs ys, ds = [x, y] ∧ x.lits = some xs ∧ y.lits = some ys ∧ R (x.isOwn || y.isOwn) (zipD xs ys)
/-- how a sequence stands on -/
structure Sits (K : PySem.W.Frag) (N : Addr → Prop) (H1 : Hp) (Ow : Addr → Prop) (S : Hp → List V → Prop) (xs : List Da) : Prop where
  on : ∀ {N' : Addr → Prop} {H' : Hp}, Later N H1 N' H' → (∀ b o, Ow b → H1 b = some o → H' b = some o) → ∃ vs, S H' vs ∧ vs.length = xs.length
  rp : ∀ {N' : Addr → Prop} {H' : Hp}, Later N H1 N' H' → Lists N' H' → (∀ b o, Ow b → H1 b = some o → H' b = some o) → ∃ vs, S H' vs ∧ Reps K N' H' vs xs
section
variable {K : PySem.W.Frag} {l : Option Addr} {H0 H : Hp} {N : Addr → Prop}
theorem sits_L {v : V} {x : Da} {xs : List Da} (hl : Lists N H) (r : RepT K H0 l N H v x) (e : x.lits = some xs) : ∃ (a : Addr) (Ow : Addr → Prop) (vs : List V), v = .ref a ∧ SqL K H a vs ∧ Sits K N H Ow (fun H' ws => SqL K H' a ws) xs ∧ ∀ b, Ow b → x.isOwn = true ∧ N b ∧ some b ≠ l := by
  cases r with
  | dat r =>
    cases r <;> first | (cases e; done) | skip
    · rename_i a vs ys n h r
      cases e
      refine ⟨a, fun _ => False, vs, rfl, SqL.of h, ⟨fun lt _ => ⟨vs, SqL.of (lt.st _ _ n h), r.length⟩, fun lt hl' _ => ⟨vs, SqL.of (lt.st _ _ n h), lt.reps hl r⟩⟩, fun b z => z.elim⟩
    · rename_i a ns h
      cases e
      refine ⟨a, fun _ => False, ns.map V.int, rfl, h.sq, ⟨fun lt _ => ⟨_, (sqF_stay hl.lw lt.st h).sq, by simp⟩, fun lt hl' _ => ⟨_, (sqF_stay hl.lw lt.st h).sq, Reps.of_ints ns⟩⟩, fun b z => z.elim⟩
  | @own a vs ys h1 h2 h3 h4 r =>
    cases e
    refine ⟨a, fun b => b = a, vs, rfl, SqL.of h4, ⟨fun lt h => ⟨vs, SqL.of (h a _ rfl h4), r.length⟩, fun lt hl' h => ⟨vs, SqL.of (h a _ rfl h4), lt.reps hl r⟩⟩, fun b z => ?_⟩
    subst z; exact ⟨rfl, h1, h3⟩
  | dr => cases e
theorem sits_T {v : V} {xs : List Da} (hl : Lists N H) (r : RepT K H0 l N H v (.tup xs)) : ∃ (a : Addr) (vs : List V), v = .ref a ∧ SqT K H a vs ∧ Sits K N H (fun _ => False) (fun H' ws => SqT K H' a ws) xs := by
  obtain ⟨a, vs, rfl, h, r⟩ := r.tupV
  exact ⟨a, vs, rfl, h, ⟨fun lt _ => ⟨vs, sqT_stay hl.lw lt.st h, r.length⟩, fun lt hl' _ => ⟨vs, sqT_stay hl.lw lt.st h, lt.reps hl r⟩⟩⟩
theorem its_cases {x : Da} {xs : List Da} (h : x.its = some xs) : x = .tup xs ∨ x.lits = some xs := by
  cases x <;> first | (cases h; exact .inl rfl) | exact .inr h
theorem itl {Ow : Addr → Prop} {xs : List Da} {a : Addr} (S : Sits K N H Ow (fun H' ws => SqL K H' a ws) xs) : ItD K N H Ow (Itl K a) xs where
  go := fun {N' H' i} lt h hi => by
    obtain ⟨vs, hs, hl⟩ := S.on lt h
    exact ⟨vs, vs[i]'(by omega), hs, by simp⟩
  stop := fun lt h => by
    obtain ⟨vs, hs, hl⟩ := S.on lt h
    exact ⟨vs, hs, by omega⟩
  yld := fun lt hl' h e hy => by
    obtain ⟨vs, hs, r⟩ := S.rp lt hl' h
    obtain ⟨rfl, hy⟩ := hy
    obtain ⟨v, e1, r1⟩ := r.get e
    have := hy vs hs
    rw [this] at e1; cases e1
    exact ⟨Same.refl _, r1⟩
theorem itt {Ow : Addr → Prop} {xs : List Da} {a : Addr} (S : Sits K N H Ow (fun H' ws => SqT K H' a ws) xs) : ItD K N H Ow (Itt K a) xs where
  go := fun {N' H' i} lt h hi => by
    obtain ⟨vs, hs, hl⟩ := S.on lt h
    exact ⟨vs, vs[i]'(by omega), hs, by simp⟩
  stop := fun lt h => by
    obtain ⟨vs, hs, hl⟩ := S.on lt h
    exact ⟨vs, hs, by omega⟩
  yld := fun lt hl' h e hy => by
    obtain ⟨vs, hs, r⟩ := S.rp lt hl' h
    obtain ⟨rfl, hy⟩ := hy
    obtain ⟨v, e1, r1⟩ := r.get e
    have := hy vs hs
    rw [this] at e1; cases e1
    exact ⟨Same.refl _, r1⟩
theorem itr {lo : Int} {n : Nat} : ItD K N H (fun _ => False) (Itr lo n) (rngD lo n) where
  go := fun _ _ hi => by
    unfold rngD at hi
    rw [List.length_map, List.length_range] at hi
    exact hi
  stop := fun _ _ => by
    show n ≤ (rngD lo n).length
    unfold rngD
    rw [List.length_map, List.length_range]
    exact Nat.le_refl _
  yld := fun {N' H' H2 i x d} _ _ _ e hy => by
    obtain ⟨rfl, rfl⟩ := hy
    unfold rngD at e
    rw [List.getElem?_map] at e
    cases q : (List.range n)[i]? with
    | none => rw [q] at e; cases e
    | some j =>
      rw [q] at e
      obtain ⟨hi, hj⟩ := List.getElem?_eq_some_iff.mp q
      rw [List.getElem_range] at hj
      subst hj
      cases e
      exact ⟨Same.refl _, .int _⟩
theorem enum_at {xs : List Da} {i : Nat} {d : Da} (h : (enumD xs)[i]? = some d) : ∃ x, xs[i]? = some x ∧ d = .tup [.int (i : Nat), x] := by
  unfold enumD at h
  rw [List.getElem?_map, List.getElem?_zipIdx] at h
  cases e : xs[i]? with
  | none => rw [e] at h; cases h
  | some x =>
    rw [e] at h
    simp only [Option.map_some, Nat.zero_add, Option.some.injEq] at h
    exact ⟨x, rfl, h.symm⟩
theorem enum_len (xs : List Da) : (enumD xs).length = xs.length := by
  unfold enumD
  rw [List.length_map, List.length_zipIdx]
theorem pair_new {N' : Addr → Prop} {H' : Hp} {T : Addr} {v w : V} {d e : Da} (hl : Lists N' H') (hT : H' T = none) (r : Rep K N' H' v d) (q : Rep K N' H' w e) : Same H' (upd H' T (.tup [v, w])) ∧ Rep K N' (upd H' T (.tup [v, w])) (.ref T) (.tup [d, e]) :=
  ⟨same_new (Same.refl _) hT, .tup (SqT.of upd_same) (new_rep hl hT (.cons r (.cons q .nil)))⟩
theorem ite_ {Ow : Addr → Prop} {xs : List Da} {a : Addr} (S : Sits K N H Ow (fun H' ws => SqL K H' a ws) xs) : ItD K N H Ow (Ite K a) (enumD xs) where
  go := fun {N' H' i} lt h hi => by
    rw [enum_len] at hi
    obtain ⟨vs, hs, hl⟩ := S.on lt h
    exact ⟨vs, vs[i]'(by omega), hs, by simp⟩
  stop := fun lt h => by
    obtain ⟨vs, hs, hl⟩ := S.on lt h
    exact ⟨vs, hs, by rw [enum_len]; omega⟩
  yld := fun lt hl' h e hy => by
    obtain ⟨vs, hs, r⟩ := S.rp lt hl' h
    obtain ⟨T, y, rfl, hT, rfl, hy⟩ := hy
    obtain ⟨d, ed, rfl⟩ := enum_at e
    obtain ⟨v, e1, r1⟩ := r.get ed
    have := hy vs hs
    rw [this] at e1; cases e1
    exact pair_new hl' hT (.int _) r1
theorem iteT_ {Ow : Addr → Prop} {xs : List Da} {a : Addr} (S : Sits K N H Ow (fun H' ws => SqT K H' a ws) xs) : ItD K N H Ow (IteT K a) (enumD xs) where
  go := fun {N' H' i} lt h hi => by
    rw [enum_len] at hi
    obtain ⟨vs, hs, hl⟩ := S.on lt h
    exact ⟨vs, vs[i]'(by omega), hs, by simp⟩
  stop := fun lt h => by
    obtain ⟨vs, hs, hl⟩ := S.on lt h
    exact ⟨vs, hs, by rw [enum_len]; omega⟩
  yld := fun lt hl' h e hy => by
    obtain ⟨vs, hs, r⟩ := S.rp lt hl' h
    obtain ⟨T, y, rfl, hT, rfl, hy⟩ := hy
    obtain ⟨d, ed, rfl⟩ := enum_at e
    obtain ⟨v, e1, r1⟩ := r.get ed
    have := hy vs hs
    rw [this] at e1; cases e1
    exact pair_new hl' hT (.int _) r1
theorem zip_at {xs ys : List Da} {i : Nat} {d : Da} (h : (zipD xs ys)[i]? = some d) : ∃ x y, xs[i]? = some x ∧ ys[i]? = some y ∧ d = .tup [x, y] := by
  unfold zipD at h
  rw [List.getElem?_map] at h
  cases e : (xs.zip ys)[i]? with
  | none => rw [e] at h; cases h
  | some z =>
    rw [e] at h
    cases h
    rw [List.getElem?_zip_eq_some] at e
    exact ⟨_, _, e.1, e.2, rfl⟩
theorem zip_len (xs ys : List Da) : (zipD xs ys).length = min xs.length ys.length := by
  unfold zipD
  rw [List.length_map, List.length_zip]
theorem itz_ {O1 O2 : Addr → Prop} {xs ys : List Da} {a b : Addr} (S : Sits K N H O1 (fun H' ws => SqL K H' a ws) xs) (S2 : Sits K N H O2 (fun H' ws => SqL K H' b ws) ys) : ItD K N H (fun c => O1 c ∨ O2 c) (Itz K a b) (zipD xs ys) where
  go := fun {N' H' i} lt h hi => by
    rw [zip_len] at hi
    obtain ⟨vs, hs, hl⟩ := S.on lt fun b o z => h b o (.inl z)
    obtain ⟨ws, ht, hm⟩ := S2.on lt fun b o z => h b o (.inr z)
    exact ⟨vs, ws, vs[i]'(by omega), ws[i]'(by omega), hs, ht, by simp, by simp⟩
  stop := fun lt h => by
    obtain ⟨vs, hs, hl⟩ := S.on lt fun b o z => h b o (.inl z)
    obtain ⟨ws, ht, hm⟩ := S2.on lt fun b o z => h b o (.inr z)
    refine ⟨vs, ws, hs, ht, ?_⟩
    rw [zip_len]; omega
  yld := fun lt hl' h e hy => by
    obtain ⟨vs, hs, r⟩ := S.rp lt hl' fun b o z => h b o (.inl z)
    obtain ⟨ws, ht, r'⟩ := S2.rp lt hl' fun b o z => h b o (.inr z)
    obtain ⟨T, y, z, rfl, hT, rfl, hy, hz⟩ := hy
    obtain ⟨d1, d2, ed1, ed2, rfl⟩ := zip_at e
    obtain ⟨v, e1, r1⟩ := r.get ed1
    obtain ⟨w, e2, r2⟩ := r'.get ed2
    have := hy vs hs
    rw [this] at e1; cases e1
    have := hz ws ht
    rw [this] at e2; cases e2
    exact pair_new hl' hT r1 r2
end
section
variable {K : PySem.W.Frag} {ta : TE} {da : DE} {t : TA} {dta : DA}
theorem lki_list (ha : LkE K ta da) : LkI K (iList K ta) (diL da) := by
  intro l0 l H0 H N0 N σ env k R h Rr c
  refine ha k h fun x v H1 hx m1 r1 => ?_
  obtain ⟨xs, e, q⟩ := hx
  obtain ⟨a, Ow, vs, rfl, hs, S, ho⟩ := sits_L (k.mv m1).ls r1 e
  exact ⟨a, rfl, ⟨vs, hs⟩, c _ _ _ _ Ow q m1 (itl S) ho⟩
theorem lki_tup (ha : LkE K ta da) : LkI K (iTup K ta) (diT da) := by
  intro l0 l H0 H N0 N σ env k R h Rr c
  refine ha k h fun x v H1 hx m1 r1 => ?_
  obtain ⟨xs, rfl, q⟩ := hx
  obtain ⟨a, vs, rfl, hs, S⟩ := sits_T (k.mv m1).ls r1
  exact ⟨a, rfl, ⟨vs, hs⟩, c _ _ _ _ _ q m1 (itt S) fun b z => z.elim⟩
theorem lki_sq (ha : LkE K ta da) : LkI K (iSq K ta) (diQ da) := by
  intro l0 l H0 H N0 N σ env k R h Rr c
  refine ha k h fun x v H1 hx m1 r1 => ?_
  obtain ⟨xs, e, q⟩ := hx
  rcases its_cases e with rfl | e'
  · obtain ⟨a, vs, rfl, hs, S⟩ := sits_T (k.mv m1).ls r1
    exact ⟨a, vs, rfl, .inr ⟨hs, c _ _ _ _ _ q m1 (itt S) fun b z => z.elim⟩⟩
  · obtain ⟨a, Ow, vs, rfl, hs, S, ho⟩ := sits_L (k.mv m1).ls r1 e'
    exact ⟨a, vs, rfl, .inl ⟨hs, c _ _ _ _ Ow q m1 (itl S) ho⟩⟩
theorem lki_r1 (ht : LkA K t dta) : LkI K (iRng1 t) (diR1 dta) := by
  intro l0 l H0 H N0 N σ env k R h Rr c
  refine ht k h fun xs vs H1 hx m1 r1 => ?_
  obtain ⟨n, rfl, b1, b2, q⟩ := hx
  obtain ⟨v, rfl, r⟩ := rts1 r1
  rw [r.int_eq]
  exact ⟨n, rfl, b1, b2, c _ _ _ _ _ q m1 itr fun b z => z.elim⟩
theorem lki_r2 (ht : LkA K t dta) : LkI K (iRng2 t) (diR2 dta) := by
  intro l0 l H0 H N0 N σ env k R h Rr c
  refine ht k h fun xs vs H1 hx m1 r1 => ?_
  obtain ⟨m, n, rfl, hb, q⟩ := hx
  obtain ⟨v, w, rfl, r, r'⟩ := rts2 r1
  rw [r.int_eq, r'.int_eq]
  exact ⟨m, n, rfl, hb, c _ _ _ _ _ q m1 itr fun b z => z.elim⟩
theorem lki_enum (ht : LkA K t dta) : LkI K (iEnumS K t) (diE dta) := by
  intro l0 l H0 H N0 N σ env k R h Rr c
  refine ht k h fun xs vs H1 hx m1 r1 => ?_
  obtain ⟨x, xs, rfl, e, q⟩ := hx
  obtain ⟨v, rfl, r⟩ := rts1 r1
  rcases its_cases e with rfl | e'
  · obtain ⟨a, vs, rfl, hs, S⟩ := sits_T (k.mv m1).ls r
    exact ⟨a, vs, rfl, .inr ⟨hs, c _ _ _ _ _ q m1 (iteT_ S) fun b z => z.elim⟩⟩
  · obtain ⟨a, Ow, vs, rfl, hs, S, ho⟩ := sits_L (k.mv m1).ls r e'
    exact ⟨a, vs, rfl, .inl ⟨hs, c _ _ _ _ Ow q m1 (ite_ S) ho⟩⟩
theorem lki_zip (ht : LkA K t dta) : LkI K (iZip K t) (diZ dta) := by
  intro l0 l H0 H N0 N σ env k R h Rr c
  refine ht k h fun xs vs H1 hx m1 r1 => ?_
  obtain ⟨x, y, xs, ys, rfl, e1, e2, q⟩ := hx
  obtain ⟨v, w, rfl, r, r'⟩ := rts2 r1
  obtain ⟨a, O1, vs, rfl, hs, S, ho⟩ := sits_L (k.mv m1).ls r e1
  obtain ⟨b, O2, ws, rfl, hs2, S2, ho2⟩ := sits_L (k.mv m1).ls r' e2
  refine ⟨a, b, vs, ws, rfl, hs, hs2, c _ _ _ _ _ q m1 (itz_ S S2) fun b z => ?_⟩
  rcases z with z | z
  · exact ⟨by rw [(ho b z).1]; rfl, (ho b z).2⟩
  · exact ⟨by rw [(ho2 b z).1, Bool.or_true], (ho2 b z).2⟩
end
end G
/-! ### new lists; statements of data -/
namespace G
open PySem PySem.Spec PyProof.Rows L2
abbrev With (N : Addr → Prop) (p : Addr) : Addr → Prop := fun a => N a ∨ a = p
/-- a list that is new -/
def LkN (K : PySem.W.Frag) (te : TE) (dn : DA) : Prop := ∀ {l0 l : Option Addr} {H0 H : Hp} {N0 N : Addr → Prop} {σ : L2.St} {env : Env}, DOk K l0 H0 N0 l N H σ env → ∀ {R : List Da → Prop}, dn env R → ∀ {Q : VK},
  (∀ xs vs p H', R xs → DOk K l0 H0 N0 l (With N p) H' σ env → Later N H (With N p) H' → Mv l H H' → H0 p = none → some p ≠ l → ¬ N p → H' p = some (.lst vs) → Reps K (With N p) H' vs xs → Q (.ref p) H') → te σ H Q
def dNew (dn : DA) : DE := fun env R => dn env fun xs => R (.lst xs)
section
variable {K : PySem.W.Frag} {te : TE} {dn : DA}
theorem LkN.lk (h : LkN K te dn) : LkE K te (dNew dn) := by
  intro l0 l H0 H N0 N σ env k R hd Q c
  refine h k hd fun xs vs p H' hx k' lt m h0 hl hn hp r => ?_
  exact c _ _ _ hx m (.dat (.lst hn hp (r.other fun a z => .inl (.inl z))))
/-- a new list laid at H1 -/
theorem new_list {l0 l : Option Addr} {H0 H H1 : Hp} {N0 N : Addr → Prop} {σ : L2.St} {env : Env} {R : List Da → Prop} {Q : VK} {xs : List Da} {vs : List V} {p : Addr} (k : DOk K l0 H0 N0 l N H σ env) (m : Mv l H H1) (hp : H1 p = none) (r : Reps K N H1 vs xs) (hx : R xs)
    (c : ∀ xs vs p H', R xs → DOk K l0 H0 N0 l (With N p) H' σ env → Later N H (With N p) H' → Mv l H H' → H0 p = none → some p ≠ l → ¬ N p → H' p = some (.lst vs) → Reps K (With N p) H' vs xs → Q (.ref p) H') : Q (.ref p) (upd H1 p (.lst vs)) := by
  have k1 := k.mv m
  obtain ⟨k2, lt, h0, hl⟩ := k1.grow (vs := vs) hp
  exact c xs vs p _ hx k2 ((k.later m).trans lt) (m.new hp) h0 hl (not_new k1.ls hp) upd_same (lt.reps k1.ls r)
end
def nLst (da : DA) : DA := fun env R => da env fun xs => xs.all Da.dat = true ∧ Nat.ble xs.length 1000 = true ∧ R xs
def nLstOf (da : DA) : DA := fun env R => da env fun ds => ∃ x xs, ds = [x] ∧ x.its = some xs ∧ R xs
def nSlL (de : DE) (dl dh : DO) : DA := fun env R => de env fun x => dl env fun l => dh env fun u => ∃ xs, x.lits = some xs ∧ R (cutD xs l u)
def nRevL (de : DE) : DA := fun env R => de env fun x => ∃ xs, x.lits = some xs ∧ R xs.reverse
def nCat (da db : DE) : DA := fun env R => da env fun x => db env fun y => ∃ xs ys, (x = .lst xs ∨ x = .own xs) ∧ (y = .lst ys ∨ y = .own ys) ∧ xs.length + ys.length ≤ 100000 ∧ R (xs ++ ys)
def wipeD (env : Env) : List Nat → Env
  | [] => env
  | v :: vs => (wipeD env vs).set v none
def dYes : DT := fun _ R => R true
def nLc (di : DI) (dg : DG) (dt : DT) (de : DE) (vs : List Nat) : DA := fun env R => di env fun _ xs => xs.length ≤ 100000 ∧ ∃ P : Nat → List Da → Prop, P 0 [] ∧
  (∀ i x acc, xs[i]? = some x → P i acc → dg x (wipeD env vs) fun env2 => dt env2 fun b => if b = true then de env2 fun d => d.dat = true ∧ P (i + 1) (acc ++ [d]) else P (i + 1) acc) ∧ ∀ acc, P xs.length acc → R acc
section
variable {K : PySem.W.Frag} {ta tb te : TE} {da db de : DE} {t : TA} {dta : DA} {tl th : TO} {dl dh : DO}
theorem lkn_lst (ht : LkA K t dta) : LkN K (tLst t) (nLst dta) := by
  intro l0 l H0 H N0 N σ env k R h Q c
  refine ht k h fun ds vs H1 hd m1 r1 => ?_
  obtain ⟨h1, h2, q⟩ := hd
  exact ⟨Nat.le_trans (by rw [r1.length]; exact Nat.le_of_ble_eq_true h2) (by decide), fun p hp => new_list k m1 hp (r1.reps h1) q c⟩
theorem lkn_lstOf (ht : LkA K t dta) : LkN K (tCB (rLstOf K) t) (nLstOf dta) := by
  intro l0 l H0 H N0 N σ env k R h Q c
  refine ht k h fun ds vs H1 hd m1 r1 => ?_
  obtain ⟨x, xs, rfl, e, q⟩ := hd
  obtain ⟨v, rfl, r⟩ := rts1 r1
  obtain ⟨a, ws, rfl, hs, r2⟩ := r.itsV e
  exact ⟨a, ws, rfl, hs, fun p hp => new_list k m1 hp r2 q c⟩
theorem lkn_slL (he : LkE K te de) (hl : LkO K tl dl) (hh : LkO K th dh) : LkN K (tSl (rSlL K) te tl th) (nSlL de dl dh) := by
  intro l0 l H0 H N0 N σ env k R h Q c
  refine he k h fun x v H1 hx m1 r1 => hl (k.mv m1) hx fun lo H2 hlo m2 => hh ((k.mv m1).mv m2) hlo fun hi H3 hhi m3 => ?_
  obtain ⟨xs, e, q⟩ := hhi
  obtain ⟨a, vs, rfl, hs, r⟩ := ((k.mv m1).repT (m2.trans m3) r1).lits e
  exact ⟨a, vs, rfl, hs, fun p hp => new_list k ((m1.trans m2).trans m3) hp (reps_cut r lo hi) q c⟩
theorem lkn_revL (he : LkE K te de) : LkN K (tRevL K te) (nRevL de) := by
  intro l0 l H0 H N0 N σ env k R h Q c
  refine he k h fun x v H1 hx m1 r1 => ?_
  obtain ⟨xs, e, q⟩ := hx
  obtain ⟨a, vs, rfl, hs, r⟩ := r1.lits e
  exact ⟨a, vs, rfl, hs, fun p hp => new_list k m1 hp r.rev q c⟩
theorem lkn_cat (ha : LkE K ta da) (hb : LkE K tb db) : LkN K (tOp rCat ta tb) (nCat da db) := by
  intro l0 l H0 H N0 N σ env k R h Q c
  refine ha k h fun x v H1 hx m1 r1 => hb (k.mv m1) hx fun y w H2 hy m2 r2 => ?_
  obtain ⟨xs, ys, h1, h2, hl, q⟩ := hy
  obtain ⟨a, vs, rfl, ha, ra⟩ := live_of ((k.mv m1).repT m2 r1) h1
  obtain ⟨b, ws, rfl, hb, rb⟩ := live_of r2 h2
  exact ⟨a, b, vs, ws, rfl, rfl, ha, hb, Nat.le_trans (by rw [ra.length, rb.length]; exact hl) (by decide), fun p hp => new_list k (m1.trans m2) hp (ra.app rb) q c⟩
theorem wipeD_len (env : Env) : ∀ vs : List Nat, (wipeD env vs).length = env.length
  | [] => rfl
  | v :: vs => by
    show ((wipeD env vs).set v none).length = _
    rw [List.length_set]; exact wipeD_len env vs
theorem wipeD_some {env : Env} {i : Nat} {d : Da} : ∀ {vs : List Nat}, (wipeD env vs)[i]? = some (some d) → env[i]? = some (some d) ∧ i ∉ vs
  | [], h => ⟨h, by simp⟩
  | v :: vs, h => by
    have h : ((wipeD env vs).set v none)[i]? = some (some d) := h
    rw [List.getElem?_set] at h
    by_cases z : v = i
    · subst z
      rw [if_pos rfl] at h
      split at h <;> cases h
    · rw [if_neg z] at h
      obtain ⟨h1, h2⟩ := wipeD_some h
      refine ⟨h1, fun y => ?_⟩
      rcases List.mem_cons.mp y with y | y
      · exact z y.symm
      · exact h2 y
theorem DOk.wipe {l0 l : Option Addr} {H0 H : Hp} {N0 N : Addr → Prop} {σ : L2.St} {env : Env} (k : DOk K l0 H0 N0 l N H σ env) (vs : List Nat) : DOk K l0 H0 N0 l N H (L2.wipe σ vs) (wipeD env vs) where
  ls := k.ls
  ln := k.ln
  dl := k.dl
  kp := k.kp
  d0 := k.d0
  n0 := k.n0
  ls0 := k.ls0
  lo := k.lo
  len := by rw [wipe_length, wipeD_len]; exact k.len
  rd := fun i d e => by
    obtain ⟨h1, h2⟩ := wipeD_some e
    rw [wipe_out h2]
    exact k.rd i d h1
  dst := fun i j xs ys a n h1 h2 h3 => by
    obtain ⟨g1, n1⟩ := wipeD_some h1
    obtain ⟨g2, n2⟩ := wipeD_some h2
    rw [wipe_out n1] at h3
    rw [wipe_out n2]
    exact k.dst i j xs ys a n g1 g2 h3
theorem lkt_yes : LkT K tYes dYes := by
  intro l0 l H0 H N0 N σ env k R h Q c
  exact c _ _ h (.refl _ _)
theorem lkn_lc {wi : TI} {g : TG} {tt : TT} {vs : List Nat} {di : DI} {dg : DG} {dt : DT} {is : List Nat} (hi : LkI K wi di) (hg : LkG K g is dg) (ht : LkT K tt dt) (he : LkE K te de) (hv : ∀ i ∈ is, i ∈ vs := by decide) :
    LkN K (tLc wi g tt te vs) (nLc di dg dt de vs) := by
  intro l0 l H0 H N0 N σ env k R h Q c
  refine hi k h fun ow xs J H1 Ow hx m1 it ho => ?_
  obtain ⟨hlen, P, p0, step, done⟩ := hx
  intro D hD
  have k1 := k.mv m1
  obtain ⟨k2, lt2, h0, hDl⟩ := k1.grow (vs := []) hD
  have hDN : ¬ N D := not_new k1.ls hD
  have keepOw : ∀ {H' : Hp}, Mv l H1 H' → ∀ b o, Ow b → H1 b = some o → H' b = some o := fun m b o z e => m.kp b o (ho b z).2.2 e
  refine ⟨fun i m H' => i + m = xs.length ∧ ∃ accV acc, H' D = some (.lst accV) ∧ Reps K (With N D) H' accV acc ∧ DOk K l0 H0 N0 l (With N D) H' σ env ∧ Later N H1 (With N D) H' ∧ Mv l H1 H' ∧ acc.length ≤ i ∧ P i acc, ⟨xs.length, Nat.zero_add _, [], [], upd_same, .nil, k2, lt2, (Mv.refl _ _).new hD, Nat.le_refl _, p0⟩, ?_⟩
  rintro i m H2 ⟨hm, accV, acc, eD, ra, k3, lt3, mv3, hal, hp⟩
  by_cases hi : i < xs.length
  · right
    refine ⟨it.go lt3 (keepOw mv3) hi, fun H' => ∃ m', m' < m ∧ (i + 1 + m' = xs.length ∧ ∃ accV acc, H' D = some (.lst accV) ∧ Reps K (With N D) H' accV acc ∧ DOk K l0 H0 N0 l (With N D) H' σ env ∧ Later N H1 (With N D) H' ∧ Mv l H1 H' ∧ acc.length ≤ i + 1 ∧ P (i + 1) acc), fun H' z => z, fun x H4 hy => ?_⟩
    obtain ⟨d, ed⟩ : ∃ d, xs[i]? = some d := ⟨xs[i], by simp⟩
    obtain ⟨s4, rx⟩ := it.yld lt3 k3.ls (keepOw mv3) ed hy
    have m4 : Mv l H2 H4 := .of_same s4
    have k4 := k3.mv m4
    refine hg (k4.wipe vs) rx (step i d acc ed hp) fun σ5 env5 k5 q5 w5 => ⟨?_, ht k5 q5 fun b H6 hb m6 => ?_⟩
    · have e5 := w5 vs hv
      rw [e5]
      refine List.ext_getElem? fun j => ?_
      by_cases z : j ∈ vs
      · rw [wipe_at z, wipe_at z, wipe_length]
      · rw [wipe_out z]
    · have back : ∀ {H' : Hp}, Mv l H2 H' → DOk K l0 H0 N0 l (With N D) H' σ env ∧ Reps K (With N D) H' accV acc ∧ H' D = some (.lst accV) ∧ Later N H1 (With N D) H' ∧ Mv l H1 H' := fun m => ⟨k3.mv m, k3.reps m ra, m.kp _ _ hDl eD, lt3.trans (k3.later m), mv3.trans m⟩
      cases b with
      | false =>
        refine iteF ?_
        obtain ⟨b1, b2, b3, b4, b5⟩ := back (m4.trans m6)
        exact ⟨m - 1, by omega, by omega, accV, acc, b3, b2, b1, b4, b5, by omega, by simpa using hb⟩
      | true =>
        refine iteT (he (k5.mv m6) (by simpa using hb) fun y v H7 hy7 m7 r7 => ?_)
        obtain ⟨hdat, hP⟩ := hy7
        obtain ⟨b1, b2, b3, b4, b5⟩ := back ((m4.trans m6).trans m7)
        have al := ra.length
        have hno : ∀ (j : Nat) ys, env[j]? = some (some (.own ys)) → σ[j]? ≠ some (some (.ref D)) := fun j ys ej z => by
          obtain ⟨u, e1, r1⟩ := k.rd j _ ej
          rw [z] at e1; cases e1
          cases r1 with
          | own a1 _ _ _ _ => exact hDN a1
          | dat r => cases r
        obtain ⟨k8, lt8⟩ := b1.put (ws := accV ++ [v]) (.inr rfl) h0 hDl b3 hno
        refine ⟨accV, b3, Nat.lt_of_le_of_lt (show accV.length ≤ 100000 by omega) (by decide), m - 1, by omega, by omega, accV ++ [v], acc ++ [y], upd_same, ?_, k8, b4.trans lt8, ?_, by rw [List.length_append]; simp; omega, hP⟩
        · exact (lt8.reps b1.ls b2).app (.cons (lt8.rep b1.ls (r7.rep hdat)) .nil)
        · refine ⟨fun b o n e => ?_, fun a e d => ?_⟩
          · have : b ≠ D := fun z => by subst z; rw [hD] at e; cases e
            rw [upd_ne this]; exact b5.kp b o n e
          · obtain ⟨x1, y1, e1, e2⟩ := b5.dr a e d
            have : a ≠ D := fun z => by subst z; exact hDl e.symm
            exact ⟨x1, y1, by rw [upd_ne this]; exact e1, e2⟩
  · left
    have e : i = xs.length := by omega
    subst e
    refine ⟨it.stop lt3 (keepOw mv3), ?_⟩
    exact c acc accV D H2 (done acc hp) k3 ((k.later m1).trans lt3) (m1.trans mv3) h0 hDl hDN eD ra
end
end G
/-! ### statements of data -/
namespace G
open PySem PySem.Spec PyProof.Rows L2
structure DEnds where
  nx : Env → Prop
  rt : Da → Prop
  bk : Env → Prop := fun _ => False
  ct : Env → Prop := fun _ => False
abbrev DS := DEnds → Env → Prop
structure EndsOk (K : PySem.W.Frag) (l0 : Option Addr) (H0 : Hp) (N0 : Addr → Prop) (N : Addr → Prop) (H : Hp) (Dd : DEnds) (De : Ends) : Prop where
  nx : ∀ {l' : Option Addr} {N' : Addr → Prop} {H' : Hp} {σ' : L2.St} {env' : Env}, DOk K l0 H0 N0 l' N' H' σ' env' → Later N H N' H' → Dd.nx env' → De.nx σ' H'
  bk : ∀ {l' : Option Addr} {N' : Addr → Prop} {H' : Hp} {σ' : L2.St} {env' : Env}, DOk K l0 H0 N0 l' N' H' σ' env' → Later N H N' H' → Dd.bk env' → De.bk σ' H'
  ct : ∀ {l' : Option Addr} {N' : Addr → Prop} {H' : Hp} {σ' : L2.St} {env' : Env}, DOk K l0 H0 N0 l' N' H' σ' env' → Later N H N' H' → Dd.ct env' → De.ct σ' H'
  rt : ∀ {l' : Option Addr} {N' : Addr → Prop} {H' : Hp} {σ' : L2.St} {env' : Env} {d : Da} {v : V}, DOk K l0 H0 N0 l' N' H' σ' env' → Later N H N' H' → RepT K H0 l' N' H' v d → Dd.rt d → De.rt v H'
def LkS (K : PySem.W.Frag) (ts : TS) (ds : DS) : Prop := ∀ {l0 l : Option Addr} {H0 H : Hp} {N0 N : Addr → Prop} {σ : L2.St} {env : Env}, DOk K l0 H0 N0 l N H σ env → ∀ {Dd : DEnds} {De : Ends}, EndsOk K l0 H0 N0 N H Dd De → ds Dd env → ts De σ H
theorem EndsOk.on {K : PySem.W.Frag} {l0 : Option Addr} {H0 : Hp} {N0 : Addr → Prop} {N N1 : Addr → Prop} {H H1 : Hp} {Dd : DEnds} {De : Ends} (e : EndsOk K l0 H0 N0 N H Dd De) (lt : Later N H N1 H1) : EndsOk K l0 H0 N0 N1 H1 Dd De :=
  ⟨fun k l => e.nx k (lt.trans l), fun k l => e.bk k (lt.trans l), fun k l => e.ct k (lt.trans l), fun k l => e.rt k (lt.trans l)⟩
/-- the rest, from here or with the own lists as data -/
def dFz (u : DS) (D : DEnds) (env : Env) : Prop := u D env ∨ u D (env.map frz)
def dSeq (t u : DS) : DS := fun D env => t { D with nx := dFz u D } env
def dCut (t u : DS) : DS := fun D env => ∃ Mid : Env → Prop, t { D with nx := Mid } env ∧ ∀ env', Mid env' → u D env'
def dNext : DS := fun D env => D.nx env
def dBreak : DS := fun D env => D.bk env
def dCont : DS := fun D env => D.ct env
def dAsg (de : DE) (dg : DG) : DS := fun D env => de env fun d => d.dat = true ∧ dg d env D.nx
def dAsgN (dn : DA) (i : Nat) : DS := fun D env => dn env fun xs => D.nx (env.set i (some (.lst xs))) ∨ D.nx (env.set i (some (.own xs)))
def dIfS (dt : DT) (t u : DS) : DS := fun D env => dt env fun b => if b = true then t D env else u D env
def dRet (de : DE) : DS := fun D env => de env D.rt
def dRetN : DS := fun D _ => D.rt .non
def dDrop (de : DE) : DS := fun D env => de env fun _ => D.nx env
def dAug (i : Nat) (de : DE) (f : Int → Int → Int) : DS := fun D env => ∃ x, env[i]? = some (some (.int x)) ∧ de env fun y => ∃ j, y = .int j ∧ D.nx (env.set i (some (.int (f x j))))
def dPar (i j : Nat) (da : DA) : DS := fun D env => da env fun ds => ∃ x y, ds = [x, y] ∧ x.dat = true ∧ y.dat = true ∧ D.nx ((env.set i (some x)).set j (some y))
def dPar3 (i j m : Nat) (da : DA) : DS := fun D env => da env fun ds => ∃ x y z, ds = [x, y, z] ∧ x.dat = true ∧ y.dat = true ∧ z.dat = true ∧ D.nx (((env.set i (some x)).set j (some y)).set m (some z))
def dApp (i : Nat) (de : DE) : DS := fun D env => ∃ xs, env[i]? = some (some (.own xs)) ∧ xs.length ≤ 100000 ∧ de env fun d => d.dat = true ∧ D.nx (env.set i (some (.own (xs ++ [d]))))
def dPop (i : Nat) : DS := fun D env => ∃ xs, env[i]? = some (some (.own xs)) ∧ xs ≠ [] ∧ D.nx (env.set i (some (.own xs.dropLast)))
def dFor (di : DI) (dg : DG) (tb : DS) : DS := fun D env => di env fun o xs => o = false ∧ ∃ Pv : Nat → Env → Prop, Pv 0 env ∧
  (∀ i x env', xs[i]? = some x → Pv i env' → dg x env' fun env2 => tb { D with nx := Pv (i + 1), ct := Pv (i + 1), bk := D.nx } env2) ∧ ∀ env', Pv xs.length env' → D.nx env'
def dWhile (dt : DT) (tb : DS) : DS := fun D env => ∃ W : Nat → Env → Prop, (∃ m, W m env) ∧ ∀ m env', W m env' → dt env' fun b => if b = true then tb { D with nx := fun e => ∃ m', m' < m ∧ W m' e, ct := fun e => ∃ m', m' < m ∧ W m' e, bk := D.nx } env' else D.nx env'
section
variable {K : PySem.W.Frag} {ts tu : TS} {ds du : DS} {te : TE} {de : DE} {tt : TT} {dt : DT} {t : TA} {dta : DA}
theorem lks_seq (h1 : LkS K ts ds) (h2 : LkS K tu du) : LkS K (tSeq ts tu) (dSeq ds du) := by
  intro l0 l H0 H N0 N σ env k Dd De e h
  refine h1 (Dd := { Dd with nx := dFz du Dd }) (De := { De with nx := tu De }) k ⟨fun k' lt q => ?_, e.bk, e.ct, e.rt⟩ h
  rcases q with q | q
  · exact h2 k' (e.on lt) q
  · exact h2 k'.freeze.1 (e.on (lt.trans k'.freeze.2)) q
theorem lks_cut (h1 : LkS K ts ds) (h2 : LkS K tu du) : LkS K (Evl.tCut ts tu) (dCut ds du) := by
  intro l0 l H0 H N0 N σ env k Dd De e h
  obtain ⟨Mid, q1, q2⟩ := h
  refine ⟨fun σ' H' => ∃ l' N' env', DOk K l0 H0 N0 l' N' H' σ' env' ∧ Later N H N' H' ∧ Mid env', ?_, ?_⟩
  · exact h1 (Dd := { Dd with nx := Mid }) k ⟨fun k' lt q => ⟨_, _, _, k', lt, q⟩, e.bk, e.ct, e.rt⟩ q1
  · rintro σ' H' ⟨l', N', env', k', lt, q⟩
    exact h2 k' (e.on lt) (q2 env' q)
theorem lks_next : LkS K tNext dNext := by
  intro l0 l H0 H N0 N σ env k Dd De e h
  exact e.nx k (.refl _ _) h
theorem lks_break : LkS K tBreak dBreak := by
  intro l0 l H0 H N0 N σ env k Dd De e h
  exact e.bk k (.refl _ _) h
theorem lks_cont : LkS K tCont dCont := by
  intro l0 l H0 H N0 N σ env k Dd De e h
  exact e.ct k (.refl _ _) h
theorem lks_asg {g : TG} {is : List Nat} {dg : DG} (he : LkE K te de) (hg : LkG K g is dg) : LkS K (tAsg te g) (dAsg de dg) := by
  intro l0 l H0 H N0 N σ env k Dd De e h
  refine he k h fun d v H1 hd m1 r1 => ?_
  exact hg (k.mv m1) (r1.rep hd.1) hd.2 fun σ' env' k' q _ => e.nx k' (k.later m1) q
theorem lks_asgN {i : Nat} {dn : DA} (he : LkN K te dn) : LkS K (tAsg te (gName i)) (dAsgN dn i) := by
  intro l0 l H0 H N0 N σ env k Dd De e h
  refine he k h fun xs vs p H' hx k' lt m h0 hl hn hp r => ?_
  show De.nx (σ.set i (some (.ref p))) H'
  rcases hx with q | q
  · exact e.nx ((k.mv m).store (.lst hn hp (r.other fun a z => .inl (.inl z)))) (k.later m) q
  · refine e.nx (k'.storeOwn (.inr rfl) h0 hl hp r fun j ys _ ej z => ?_) lt q
    obtain ⟨u, e1, r1⟩ := k.rd j _ ej
    rw [z] at e1; cases e1
    cases r1 with
    | own a1 _ _ _ _ => exact hn a1
    | dat r => cases r
theorem lks_if (ht : LkT K tt dt) (h1 : LkS K ts ds) (h2 : LkS K tu du) : LkS K (tIfS tt ts tu) (dIfS dt ds du) := by
  intro l0 l H0 H N0 N σ env k Dd De e h
  refine ht k h fun b H1 hb m1 => ?_
  cases b with
  | true => exact iteT (h1 (k.mv m1) (e.on (k.later m1)) (by simpa using hb))
  | false => exact iteF (h2 (k.mv m1) (e.on (k.later m1)) (by simpa using hb))
theorem lks_ret (he : LkE K te de) : LkS K (tRet te) (dRet de) := by
  intro l0 l H0 H N0 N σ env k Dd De e h
  exact he k h fun d v H1 hd m1 r1 => e.rt (k.mv m1) (k.later m1) r1 hd
theorem lks_retN : LkS K tRetN dRetN := by
  intro l0 l H0 H N0 N σ env k Dd De e h
  exact e.rt k (.refl _ _) (.dat .non) h
theorem lks_drop (he : LkE K te de) : LkS K (tDrop te) (dDrop de) := by
  intro l0 l H0 H N0 N σ env k Dd De e h
  exact he k h fun d v H1 hd m1 r1 => e.nx (k.mv m1) (k.later m1) hd
theorem lks_aug {i : Nat} {f : Int → Int → Int} (he : LkE K te de) : LkS K (tAug i te (ipI f)) (dAug i de f) := by
  intro l0 l H0 H N0 N σ env k Dd De e h
  obtain ⟨x, ex, h⟩ := h
  obtain ⟨v, ev, rv⟩ := k.rd i _ ex
  cases rv.int_eq
  refine ⟨_, ev, he k h fun d w H1 hd m1 r1 => ?_⟩
  obtain ⟨j, rfl, q⟩ := hd
  cases r1.int_eq
  exact ⟨x, j, rfl, rfl, e.nx ((k.mv m1).store (.int _)) (k.later m1) q⟩
theorem lks_par {i j : Nat} (ht : LkA K t dta) : LkS K (tPar i j t) (dPar i j dta) := by
  intro l0 l H0 H N0 N σ env k Dd De e h
  refine ht k h fun ds vs H1 hd m1 r1 => ?_
  obtain ⟨x, y, rfl, d1, d2, q⟩ := hd
  obtain ⟨v, w, rfl, r, r'⟩ := rts2 r1
  exact ⟨v, w, rfl, e.nx (((k.mv m1).store (r.rep d1)).store (r'.rep d2)) (k.later m1) q⟩
theorem lks_par3 {i j m : Nat} (ht : LkA K t dta) : LkS K (tPar3 i j m t) (dPar3 i j m dta) := by
  intro l0 l H0 H N0 N σ env k Dd De e h
  refine ht k h fun ds vs H1 hd m1 r1 => ?_
  obtain ⟨x, y, z, rfl, d1, d2, d3, q⟩ := hd
  cases r1 with
  | cons r r1 =>
    obtain ⟨v, w, rfl, r', r''⟩ := rts2 r1
    exact ⟨_, v, w, rfl, e.nx ((((k.mv m1).store (r.rep d1)).store (r'.rep d2)).store (r''.rep d3)) (k.later m1) q⟩
theorem own_at {l0 l : Option Addr} {H0 H : Hp} {N0 N : Addr → Prop} {σ : L2.St} {env : Env} {i : Nat} {xs : List Da} (k : DOk K l0 H0 N0 l N H σ env) (e : env[i]? = some (some (.own xs))) : ∃ p vs, σ[i]? = some (some (.ref p)) ∧ N p ∧ H0 p = none ∧ some p ≠ l ∧ H p = some (.lst vs) ∧ Reps K N H vs xs := by
  obtain ⟨v, ev, rv⟩ := k.rd i _ e
  cases rv with
  | own h1 h2 h3 h4 r => exact ⟨_, _, ev, h1, h2, h3, h4, r⟩
  | dat r => cases r
theorem set_at {σ : L2.St} {i : Nat} {o : Option V} (h : σ[i]? = some o) : σ.set i o = σ := by
  refine List.ext_getElem? fun j => ?_
  rw [List.getElem?_set]
  by_cases z : i = j
  · subst z
    rw [if_pos rfl, h]
    split
    · rfl
    · rename_i y
      rw [List.getElem?_eq_none_iff.mpr (by omega)] at h; cases h
  · rw [if_neg z]
/-- the own list that the name i holds is written -/
theorem DOk.write {l0 l : Option Addr} {H0 H : Hp} {N0 N : Addr → Prop} {σ : L2.St} {env : Env} {i : Nat} {xs ys : List Da} {p : Addr} {vs ws : List V} (k : DOk K l0 H0 N0 l N H σ env) (e : env[i]? = some (some (.own xs))) (es : σ[i]? = some (some (.ref p))) (hN : N p) (h0 : H0 p = none) (hl : some p ≠ l) (hp : H p = some (.lst vs)) (r : Reps K N H ws ys) :
    DOk K l0 H0 N0 l N (upd H p (.lst ws)) σ (env.set i (some (.own ys))) ∧ Later N H N (upd H p (.lst ws)) := by
  have k1 : DOk K l0 H0 N0 l N H σ (env.set i none) := by
    refine ⟨k.ls, k.ln, k.dl, k.kp, k.d0, k.n0, k.ls0, k.lo, by rw [List.length_set]; exact k.len, fun j d q => ?_, fun j j' a b c n h1 h2 h3 => ?_⟩
    · rw [List.getElem?_set] at q
      by_cases z : i = j
      · rw [if_pos z] at q; split at q <;> cases q
      · rw [if_neg z] at q; exact k.rd j d q
    · rw [List.getElem?_set] at h1 h2
      by_cases z : i = j
      · rw [if_pos z] at h1; split at h1 <;> cases h1
      · rw [if_neg z] at h1
        by_cases z' : i = j'
        · rw [if_pos z'] at h2; split at h2 <;> cases h2
        · rw [if_neg z'] at h2
          exact k.dst j j' a b c n h1 h2 h3
  have other : ∀ (j : Nat) zs, (env.set i none)[j]? = some (some (.own zs)) → σ[j]? ≠ some (some (.ref p)) := fun j zs h => by
    rw [List.getElem?_set] at h
    by_cases z : i = j
    · rw [if_pos z] at h; split at h <;> cases h
    · rw [if_neg z] at h
      exact k.dst i j xs zs p z e h es
  obtain ⟨k2, lt⟩ := k1.put (ws := ws) hN h0 hl hp other
  refine ⟨?_, lt⟩
  have k3 := k2.storeOwn (i := i) hN h0 hl upd_same (lt.reps k.ls r) fun j zs _ h => other j zs h
  rw [set_at es, List.set_set] at k3
  exact k3
theorem lks_app {i : Nat} (he : LkE K te de) : LkS K (tDrop (tBM K "list" rAppend (tVar i) (tCons te tNil))) (dApp i de) := by
  intro l0 l H0 H N0 N σ env k Dd De e h
  obtain ⟨xs, ez, hlen, h⟩ := h
  obtain ⟨p, vs, es, hN, h0, hl, hp, r⟩ := own_at k ez
  refine ⟨_, es, .inl ⟨rfl, vs, SqL.of hp⟩, he k h fun d v H1 hd m1 r1 => ?_⟩
  have hp1 := m1.kp _ _ hl hp
  obtain ⟨k2, lt⟩ := (k.mv m1).write ez es hN h0 hl hp1 ((k.reps m1 r).app (.cons (r1.rep hd.1) .nil))
  exact ⟨p, vs, v, rfl, rfl, hp1, Nat.lt_of_le_of_lt (show vs.length ≤ 100000 by rw [r.length]; exact hlen) (by decide), e.nx k2 ((k.later m1).trans lt) hd.2⟩
theorem Reps.dropLast {N : Addr → Prop} {H : Hp} {vs : List V} {xs : List Da} (r : Reps K N H vs xs) : Reps K N H vs.dropLast xs.dropLast := by
  rw [List.dropLast_eq_take, List.dropLast_eq_take, r.length]
  exact r.take _
theorem lks_pop {i : Nat} : LkS K (tDrop (tBM0 K "list" rPop (tVar i))) (dPop i) := by
  intro l0 l H0 H N0 N σ env k Dd De e h
  obtain ⟨xs, ez, hne, q⟩ := h
  obtain ⟨p, vs, es, hN, h0, hl, hp, r⟩ := own_at k ez
  have hlen := r.length
  have hx : 0 < xs.length := List.length_pos_iff.mpr hne
  obtain ⟨k2, lt⟩ := k.write ez es hN h0 hl hp r.dropLast
  refine ⟨_, es, .inl ⟨rfl, vs, SqL.of hp⟩, p, vs, vs[vs.length - 1]'(by omega), rfl, rfl, hp, by simp, e.nx k2 lt q⟩
theorem lks_for {wi : TI} {g : TG} {is : List Nat} {di : DI} {dg : DG} (hi : LkI K wi di) (hg : LkG K g is dg) (hb : LkS K ts ds) : LkS K (tFor wi g ts) (dFor di dg ds) := by
  intro l0 l H0 H N0 N σ env k Dd De e h
  refine hi k h fun ow xs J H1 Ow hx m1 it ho => ?_
  obtain ⟨rfl, Pv, p0, step, done⟩ := hx
  have noOw : ∀ {H' : Hp}, ∀ b o, Ow b → H1 b = some o → H' b = some o := fun b o z => nomatch (ho b z).1
  have k1 := k.mv m1
  refine ⟨fun i m σ' H' => i + m = xs.length ∧ ∃ l' N' env', DOk K l0 H0 N0 l' N' H' σ' env' ∧ Later N H1 N' H' ∧ Pv i env', ⟨xs.length, Nat.zero_add _, l, N, env, k1, .refl _ _, p0⟩, ?_⟩
  rintro i m σ2 H2 ⟨hm, l2, N2, env2, k2, lt2, p2⟩
  by_cases hi : i < xs.length
  · right
    refine ⟨it.go lt2 noOw hi, fun σ' H' => ∃ m', m' < m ∧ (i + 1 + m' = xs.length ∧ ∃ l' N' env', DOk K l0 H0 N0 l' N' H' σ' env' ∧ Later N H1 N' H' ∧ Pv (i + 1) env'), fun σ' H' z => z, fun x H3 hy => ?_⟩
    obtain ⟨d, ed⟩ : ∃ d, xs[i]? = some d := ⟨xs[i], by simp⟩
    obtain ⟨s3, rx⟩ := it.yld lt2 k2.ls noOw ed hy
    have m3 : Mv l2 H2 H3 := .of_same s3
    have k3 := k2.mv m3
    have lt3 := lt2.trans (k2.later m3)
    refine hg k3 rx (step i d env2 ed p2) fun σ4 env4 k4 q4 _ => ?_
    refine hb (Dd := { Dd with nx := Pv (i + 1), ct := Pv (i + 1), bk := Dd.nx }) k4 ⟨fun k5 lt5 q5 => ⟨m - 1, by omega, by omega, _, _, _, k5, lt3.trans lt5, q5⟩, fun k5 lt5 q5 => e.nx k5 ((k.later m1).trans (lt3.trans lt5)) q5, fun k5 lt5 q5 => ⟨m - 1, by omega, by omega, _, _, _, k5, lt3.trans lt5, q5⟩, fun k5 lt5 r5 q5 => e.rt k5 ((k.later m1).trans (lt3.trans lt5)) r5 q5⟩ q4
  · left
    have ei : i = xs.length := by omega
    subst ei
    exact ⟨it.stop lt2 noOw, e.nx k2 ((k.later m1).trans lt2) (done env2 p2)⟩
theorem lks_while (ht : LkT K tt dt) (hb : LkS K ts ds) : LkS K (tWhile tt ts) (dWhile dt ds) := by
  intro l0 l H0 H N0 N σ env k Dd De e h
  obtain ⟨W, ⟨m0, w0⟩, step⟩ := h
  refine ⟨fun m σ' H' => ∃ l' N' env', DOk K l0 H0 N0 l' N' H' σ' env' ∧ Later N H N' H' ∧ W m env', ⟨m0, l, N, env, k, .refl _ _, w0⟩, ?_⟩
  rintro m σ2 H2 ⟨l2, N2, env2, k2, lt2, w2⟩
  refine ht k2 (step m env2 w2) fun b H3 hb3 m3 => ?_
  have k3 := k2.mv m3
  have lt3 := lt2.trans (k2.later m3)
  cases b with
  | false => exact iteF (e.nx k3 lt3 (by simpa using hb3))
  | true =>
    refine iteT ⟨fun σ' H' => ∃ m', m' < m ∧ ∃ l' N' env', DOk K l0 H0 N0 l' N' H' σ' env' ∧ Later N H N' H' ∧ W m' env', fun σ' H' z => z, ?_⟩
    have hb4 : ds { Dd with nx := fun e => ∃ m', m' < m ∧ W m' e, ct := fun e => ∃ m', m' < m ∧ W m' e, bk := Dd.nx } env2 := by simpa using hb3
    refine hb (Dd := { Dd with nx := fun e => ∃ m', m' < m ∧ W m' e, ct := fun e => ∃ m', m' < m ∧ W m' e, bk := Dd.nx }) k3 ⟨fun k5 lt5 q5 => ?_, fun k5 lt5 q5 => e.nx k5 (lt3.trans lt5) q5, fun k5 lt5 q5 => ?_, fun k5 lt5 r5 q5 => e.rt k5 (lt3.trans lt5) r5 q5⟩ hb4
    · obtain ⟨m', hm, w'⟩ := q5
      exact ⟨m', hm, _, _, _, k5, lt3.trans lt5, w'⟩
    · obtain ⟨m', hm, w'⟩ := q5
      exact ⟨m', hm, _, _, _, k5, lt3.trans lt5, w'⟩
end
/-! ### a def's body -/
/-- as it is handed back -/
def Da.out : Da → Da
  | .own xs => .lst xs
  | d => d
def Da.dr? : Da → Bool
  | .dr => true
  | _ => false
def startD (n : Nat) (args : List Da) : Env := args.map some ++ List.replicate (n - args.length) none
section
variable {K : PySem.W.Frag}
theorem args_get {l : Option Addr} {N : Addr → Prop} {H : Hp} {vs : List V} {ds : List Da} (r : RepAs K l N H vs ds) : ∀ (i : Nat) (d : Da), ds[i]? = some d → ∃ v, vs[i]? = some v ∧ RepA K l N H v d := by
  induction r with
  | nil => intro i d h; simp at h
  | cons h _ ih =>
    intro i d e
    cases i with
    | zero => simp at e; subst e; exact ⟨_, rfl, h⟩
    | succ i =>
      obtain ⟨v, e1, e2⟩ := ih i d (by simpa using e)
      exact ⟨v, by simpa using e1, e2⟩
theorem RepAs.length {l : Option Addr} {N : Addr → Prop} {H : Hp} {vs : List V} {ds : List Da} (r : RepAs K l N H vs ds) : vs.length = ds.length := by
  induction r with
  | nil => rfl
  | cons _ _ ih => exact congrArg (· + 1) ih
/-- the body of a def keeps the promise -/
theorem body_ok {ts : TS} {db : DS} {ds : FD} {names : List Str} {vs : List V} {H : Hp} {Q : VK} {E : XK} (h : spD K ds vs H Q E) (hb : LkS K ts db) (hn : ∀ args R, ds args R → args.length ≤ names.length ∧ db { nx := fun _ => R .non, rt := fun d => d.dr? = false ∧ R d.out } (startD names.length args)) :
    ts { nx := fun _ H' => Q .non H', rt := Q } (L2.start names vs) H := by
  obtain ⟨l, N, args, R, hl, hd, ra, h, q⟩ := h
  obtain ⟨hlen, hq⟩ := hn args R h
  have al := ra.length
  have k : DOk K l H N l N H (L2.start names vs) (startD names.length args) := by
    refine ⟨hl, fun a e => (hd a e).1, fun a e => (hd a e).2, fun b o _ e => e, fun a e => ⟨(hd a e).2, (hd a e).2⟩, fun _ z => z, hl, .inl rfl, ?_, fun i d e => ?_, fun i j xs ys a n h1 h2 h3 => ?_⟩
    · unfold startD L2.start; simp [al]
    · have hi : args[i]? = some d := startD_get e
      obtain ⟨v, e1, e2⟩ := args_get ra i d hi
      refine ⟨v, start_get e1, ?_⟩
      cases e2 with
      | dat r => exact .dat r
      | dr z => exact .dr z
    · have hi := startD_get h1
      obtain ⟨v, e1, e2⟩ := args_get ra i _ hi
      cases e2 with | dat r => cases r
  refine hb (Dd := { nx := fun _ => R .non, rt := fun d => d.dr? = false ∧ R d.out }) k ⟨fun k' lt z => ?_, fun _ _ z => z.elim, fun _ _ z => z.elim, fun k' lt r z => ?_⟩ hq
  · exact q _ _ _ z (frame k') .non
  · refine q _ _ _ z.2 (frame k') ?_
    cases r with
    | dat r =>
      have e : ∀ {v : V} {d : Da} {N : Addr → Prop} {H : Hp}, Rep K N H v d → Da.out d = d := fun {v d N H} r => by cases r <;> rfl
      rw [e r]
      exact r.other fun a z => .inl (k'.n0 a z)
    | own a1 a2 a3 a4 r =>
      refine .lst (fun z => ?_) a4 (r.other fun a z => .inl (k'.n0 a z))
      obtain ⟨xs, e⟩ := hl _ z
      rw [a2] at e; cases e
    | dr e => exact absurd z.1 (by simp [Da.dr?])
where
  startD_get {n : Nat} {args : List Da} {i : Nat} {d : Da} (e : (startD n args)[i]? = some (some d)) : args[i]? = some d := by
    unfold startD at e
    rw [List.getElem?_append] at e
    split at e
    · rw [List.getElem?_map] at e
      cases q : args[i]? with
      | none => rw [q] at e; cases e
      | some x => rw [q] at e; cases e; rfl
    · rw [List.getElem?_replicate] at e
      split at e <;> cases e
  start_get {names : List Str} {vs : List V} {i : Nat} {v : V} (e : vs[i]? = some v) : (L2.start names vs)[i]? = some (some v) := by
    unfold L2.start
    have hi := (List.getElem?_eq_some_iff.mp e).1
    rw [List.getElem?_append_left (by rw [List.length_map]; exact hi), List.getElem?_map, e]; rfl
  frame {l l' : Option Addr} {N N' : Addr → Prop} {H H' : Hp} {σ' : L2.St} {env' : Env} (k : DOk K l H N l' N' H' σ' env') : Mv l H H' := ⟨k.kp, fun a e _ => (k.d0 a e).2⟩
end
end G
/-! ### the walk over data: one lemma a step -/
namespace G
open PySem PySem.Spec PyProof.Rows L2
section
variable {env env' : Env} {R : Da → Prop} {d x y : Da} {da db de dc : DE} {dt du : DT} {dta : DA} {i j : Nat} {D : DEnds} {t u : DS} {n m : Int} {b : Bool} {xs ys : List Da}
theorem dw_st (e : env = env') (q : t D env') : t D env := by subst e; exact q
theorem dw_seq (q : t { D with nx := dFz u D } env) : dSeq t u D env := q
theorem dw_fz (q : u D env) : dFz u D env := .inl q
theorem dw_frz (e : env.map frz = env') (q : u D env') : dFz u D env := by subst e; exact .inr q
theorem dw_next (q : D.nx env) : dNext D env := q
theorem dw_brk (q : D.bk env) : dBreak D env := q
theorem dw_cont (q : D.ct env) : dCont D env := q
theorem dw_asg {dg : DG} (q : de env fun d => d.dat = true ∧ dg d env D.nx) : dAsg de dg D env := q
theorem dw_dat {P : Prop} (q : P) (h : Da.dat d = true := by with_unfolding_all exact rfl) : Da.dat d = true ∧ P := ⟨h, q⟩
theorem dw_name {Q : Env → Prop} (e : env.set i (some d) = env') (q : Q env') : dName i d env Q := by subst e; exact q
theorem dw_gtup {k : Nat} {g : DGs} {Q : Env → Prop} (q : g xs env Q) (h : xs.length = k := by with_unfolding_all exact rfl) : dgTup k g (.tup xs) env Q := ⟨xs, rfl, h, q⟩
theorem dw_gcons {g : DG} {gs : DGs} {Q : Env → Prop} (q : g d env fun e => gs xs e Q) : dgCons g gs (d :: xs) env Q := ⟨d, xs, rfl, q⟩
theorem dw_gnil {Q : Env → Prop} (q : Q env) : dgNil [] env Q := ⟨rfl, q⟩
theorem dw_asgN {dn : DA} (q : dn env fun xs => D.nx (env.set i (some (.lst xs))) ∨ D.nx (env.set i (some (.own xs)))) : dAsgN dn i D env := q
theorem dw_put (e : env.set i (some d) = env') {Q : Env → Prop} (q : Q env') : Q (env.set i (some d)) := by subst e; exact q
theorem dw_ifs (q : dt env fun b => if b = true then t D env else u D env) : dIfS dt t u D env := q
theorem dw_ret (q : de env D.rt) : dRet de D env := q
theorem dw_retN (q : D.rt .non) : dRetN D env := q
theorem dw_drop (q : de env fun _ => D.nx env) : dDrop de D env := q
theorem dw_aug {f : Int → Int → Int} (h : env[i]? = some (some (.int n))) (q : de env fun y => ∃ j, y = .int j ∧ D.nx (env.set i (some (.int (f n j))))) : dAug i de f D env := ⟨n, h, q⟩
theorem dw_par (q : dta env fun ds => ∃ x y, ds = [x, y] ∧ x.dat = true ∧ y.dat = true ∧ D.nx ((env.set i (some x)).set j (some y))) : dPar i j dta D env := q
theorem dw_two {P : Da → Da → Prop} (q : P x y) (h1 : x.dat = true := by with_unfolding_all exact rfl) (h2 : y.dat = true := by with_unfolding_all exact rfl) : ∃ a c, [x, y] = [a, c] ∧ a.dat = true ∧ c.dat = true ∧ P a c := ⟨x, y, rfl, h1, h2, q⟩
theorem dw_par3 {k : Nat} (q : dta env fun ds => ∃ x y z, ds = [x, y, z] ∧ x.dat = true ∧ y.dat = true ∧ z.dat = true ∧ D.nx (((env.set i (some x)).set j (some y)).set k (some z))) : dPar3 i j k dta D env := q
theorem dw_three {z : Da} {P : Da → Da → Da → Prop} (q : P x y z) (h1 : x.dat = true := by with_unfolding_all exact rfl) (h2 : y.dat = true := by with_unfolding_all exact rfl) (h3 : z.dat = true := by with_unfolding_all exact rfl) : ∃ a c e, [x, y, z] = [a, c, e] ∧ a.dat = true ∧ c.dat = true ∧ e.dat = true ∧ P a c e := ⟨x, y, z, rfl, h1, h2, h3, q⟩
theorem dw_app (h : env[i]? = some (some (.own xs))) (hl : xs.length ≤ 100000) (q : de env fun d => d.dat = true ∧ D.nx (env.set i (some (.own (xs ++ [d]))))) : dApp i de D env := ⟨xs, h, hl, q⟩
theorem dw_pop (h : env[i]? = some (some (.own xs))) (hl : xs ≠ []) (q : D.nx (env.set i (some (.own xs.dropLast)))) : dPop i D env := ⟨xs, h, hl, q⟩
theorem dw_for {di : DI} {dg : DG} (q : di env fun o xs => o = false ∧ ∃ Pv : Nat → Env → Prop, Pv 0 env ∧ (∀ i x env', xs[i]? = some x → Pv i env' → dg x env' fun env2 => t { D with nx := Pv (i + 1), ct := Pv (i + 1), bk := D.nx } env2) ∧ ∀ env', Pv xs.length env' → D.nx env') : dFor di dg t D env := q
theorem dw_var (h : env[i]? = some (some d)) (q : R d) : dVar i env R := ⟨d, h, q⟩
theorem dw_c (q : R d) : dC d env R := q
theorem dw_op {r : DR2} (q : da env fun x => db env fun y => r x y R) : dOp r da db env R := q
theorem dw_II {f : Int → Int → Int} (q : R (.int (f n m))) : dII f (.int n) (.int m) R := ⟨n, m, rfl, rfl, q⟩
theorem dw_IB {f : Int → Int → Bool} (q : R (.bl (f n m))) : dIB f (.int n) (.int m) R := ⟨n, m, rfl, rfl, q⟩
theorem dw_IC {C : Int → Int → Prop} {f : Int → Int → Int} (h : C n m) (q : R (.int (f n m))) : dIC C f (.int n) (.int m) R := ⟨n, m, rfl, rfl, h, q⟩
theorem dw_un {f : Int → Int} (q : da env fun x => ∃ i, x = .int i ∧ R (.int (f i))) : dUn f da env R := q
theorem dw_exI {P : Int → Prop} (q : P n) : ∃ i, Da.int n = .int i ∧ P i := ⟨n, rfl, q⟩
theorem dw_exB {P : Bool → Prop} (q : P b) : ∃ c, Da.bl b = .bl c ∧ P c := ⟨b, rfl, q⟩
theorem dw_if (q : dt env fun c => if c = true then da env R else db env R) : dIf dt da db env R := q
theorem dw_andV (q : da env fun x => ∃ c, x = .bl c ∧ if c = true then db env R else R (.bl false)) : dAndV da db env R := q
theorem dw_orV (q : da env fun x => ∃ c, x = .bl c ∧ if c = true then R (.bl true) else db env R) : dOrV da db env R := q
theorem dw_notV (q : da env fun x => ∃ c, x = .bl c ∧ R (.bl (!c))) : dNotV da env R := q
theorem dw_test {Q : Bool → Prop} (q : da env fun x => ∃ c, x = .bl c ∧ Q c) : dTest da env Q := q
theorem dw_and {Q : Bool → Prop} (q : dt env fun c => if c = true then du env Q else Q false) : dAnd dt du env Q := q
theorem dw_or {Q : Bool → Prop} (q : dt env fun c => if c = true then Q true else du env Q) : dOr dt du env Q := q
theorem dw_not {Q : Bool → Prop} (q : dt env fun c => Q (!c)) : dNot dt env Q := q
theorem dw_nil {Q : List Da → Prop} (q : Q []) : dNil env Q := q
theorem dw_cons {Q : List Da → Prop} (q : da env fun x => dta env fun xs => Q (x :: xs)) : dCons da dta env Q := q
theorem dw_lst (q : dta env fun xs => xs.all Da.dat = true ∧ Nat.ble xs.length 1000 = true ∧ R (.lst xs)) : dLst dta env R := q
theorem dw_nlst {Q : List Da → Prop} (q : dta env fun xs => xs.all Da.dat = true ∧ Nat.ble xs.length 1000 = true ∧ Q xs) : nLst dta env Q := q
theorem dw_tup (q : dta env fun xs => xs.all Da.dat = true ∧ Nat.ble xs.length 1000 = true ∧ R (.tup xs)) : dTup dta env R := q
theorem dw_all {P : Prop} (q : P) (h1 : xs.all Da.dat = true := by with_unfolding_all exact rfl) (h2 : Nat.ble xs.length 1000 = true := by with_unfolding_all exact rfl) : xs.all Da.dat = true ∧ Nat.ble xs.length 1000 = true ∧ P := ⟨h1, h2, q⟩
theorem dw_cb {r : DC} (q : dta env fun xs => r xs R) : dCB r dta env R := q
theorem dw_noPart {Q : Option Int → Prop} (q : Q none) : dNoPart env Q := q
theorem dw_part {Q : Option Int → Prop} (q : da env fun x => ∃ i, x = .int i ∧ Q (some i)) : dPart da env Q := q
theorem dw_chain {r r' : DR2} (q : da env fun x => db env fun y => r x y fun z => ∃ k, z = .bl k ∧ if k = true then dc env fun w => r' y w R else R (.bl false)) : dChain r r' da db dc env R := q
theorem dw_eqI (q : R (.bl (decide (n = m)))) : dEqS (.int n) (.int m) R := ⟨.int n, .int m, rfl, rfl, rfl, by rw [dec_int]; exact q⟩
theorem dw_neI (q : R (.bl (!decide (n = m)))) : dNeS (.int n) (.int m) R := ⟨.int n, .int m, rfl, rfl, rfl, by rw [dec_int]; exact q⟩
theorem dw_eqS {p r : V} (q : R (.bl (decide (p = r)))) (h1 : x.sv = some p := by with_unfolding_all exact rfl) (h2 : y.sv = some r := by with_unfolding_all exact rfl) (h3 : scal p r = true := by with_unfolding_all exact rfl) : dEqS x y R := ⟨p, r, h1, h2, h3, q⟩
theorem dw_neS {p r : V} (q : R (.bl (!decide (p = r)))) (h1 : x.sv = some p := by with_unfolding_all exact rfl) (h2 : y.sv = some r := by with_unfolding_all exact rfl) (h3 : scal p r = true := by with_unfolding_all exact rfl) : dNeS x y R := ⟨p, r, h1, h2, h3, q⟩
theorem dw_ixT (q : R d) (h : atI xs n = some d := by with_unfolding_all exact rfl) : dIxT (.tup xs) (.int n) R := ⟨xs, n, d, rfl, rfl, h, q⟩
theorem dw_ixL (h : atI xs n = some d) (q : R d) (e : x.lits = some xs := by with_unfolding_all exact rfl) : dIxL x (.int n) R := ⟨xs, n, d, e, rfl, h, q⟩
theorem dw_ixQ (h : atI xs n = some d) (q : R d) (e : x.its = some xs := by with_unfolding_all exact rfl) : dIxQ x (.int n) R := ⟨xs, n, d, e, rfl, h, q⟩
theorem dw_isN (q : R (.bl b)) (h : b = true ↔ x = .non) : dIsN x .non R := ⟨rfl, b, h, q⟩
theorem dw_notN (q : R (.bl (!b))) (h : b = true ↔ x = .non) : dNotN x .non R := ⟨rfl, b, h, q⟩
theorem dw_isB {a c : Bool} (q : R (.bl (decide (a = c)))) : dIsB (.bl a) (.bl c) R := ⟨a, c, rfl, rfl, q⟩
theorem dw_notB {a c : Bool} (q : R (.bl (!decide (a = c)))) : dNotB (.bl a) (.bl c) R := ⟨a, c, rfl, rfl, q⟩
theorem dw_len (q : R (.int (xs.length : Int))) (e : x.its = some xs := by with_unfolding_all exact rfl) : cLenD [x] R := ⟨x, xs, rfl, e, q⟩
theorem dw_abs (q : R (.int (n.natAbs : Int))) : cAbsD [.int n] R := ⟨n, rfl, q⟩
theorem dw_intI (q : R (.int n)) : cIntD [.int n] R := .inl ⟨n, rfl, q⟩
theorem dw_intB (q : R (.int (if b then 1 else 0))) : cIntD [.bl b] R := .inr ⟨b, rfl, q⟩
theorem dw_max2 (q : R (.int (max n m))) : cMax2D [.int n, .int m] R := ⟨n, m, rfl, q⟩
theorem dw_min2 (q : R (.int (min n m))) : cMin2D [.int n, .int m] R := ⟨n, m, rfl, q⟩
theorem dw_lstOf (q : R (.lst xs)) (e : x.its = some xs := by with_unfolding_all exact rfl) : cLstD [x] R := ⟨x, xs, rfl, e, q⟩
theorem dw_nlstOf {Q : List Da → Prop} (q : dta env fun ds => ∃ x xs, ds = [x] ∧ x.its = some xs ∧ Q xs) : nLstOf dta env Q := q
theorem dw_tupOf (q : R (.tup xs)) (e : x.its = some xs := by with_unfolding_all exact rfl) : cTupD [x] R := ⟨x, xs, rfl, e, q⟩
theorem dw_call {f : FD} {dd : List Da} (q : dta env fun xs => DCall f (xs ++ dd) R) : dCall f dd dta env R := q
theorem dw_dc {f : FD} (e : xs ++ ys = zs) (q : f zs R) (h : zs.all Da.noOwn = true := by with_unfolding_all exact rfl) : DCall f (xs ++ ys) R := by subst e; exact .inl ⟨h, q⟩
theorem dw_dc0 {f : FD} (q : f xs R) (h : xs.all Da.noOwn = true := by with_unfolding_all exact rfl) : DCall f xs R := .inl ⟨h, q⟩
theorem dw_dcO {f : FD} (e : (xs ++ ys).map Da.arg = zs) (q : f zs fun d => d.flat = true ∧ R d) : DCall f (xs ++ ys) R := by subst e; exact .inr q
theorem dw_make {f : FD} (q : dta env fun xs => DCall f xs R) : dMake f dta env R := q
theorem dw_meth {C : Addr} {k : Str} {f : FD} (q : da env fun x => ∃ fs, x = .obj C fs ∧ fs.lookup k = none ∧ dta env fun xs => DCall f (x :: xs) R) : dMeth C k f da dta env R := q
theorem dw_recv {C : Addr} {k : Str} {fs : List (Str × Da)} {P : Prop} (h : fs.lookup k = none) (q : P) : ∃ gs, Da.obj C fs = .obj C gs ∧ gs.lookup k = none ∧ P := ⟨fs, rfl, h, q⟩
theorem dw_methD {C : Addr} {k : Str} {f : FD} {dd : List Da} (q : da env fun x => ∃ fs, x = .obj C fs ∧ fs.lookup k = none ∧ dta env fun xs => DCall f ((x :: xs) ++ dd) R) : dMethD C k f dd da dta env R := q
theorem dw_meth2D {C1 C2 : Addr} {k : Str} {f1 f2 : FD} (q : da env fun x => ∃ fs, fs.lookup k = none ∧ ((x = .obj C1 fs ∧ dta env fun xs => DCall f1 ((x :: xs) ++ []) R) ∨ (x = .obj C2 fs ∧ dta env fun xs => DCall f2 ((x :: xs) ++ []) R))) : dMeth2D C1 C2 k f1 f2 da dta env R := q
theorem dw_prop {C : Addr} {f : FD} {dd : List Da} (q : da env fun x => ∃ fs, x = .obj C fs ∧ DCall f (x :: dd) R) : dProp C f dd da env R := q
theorem dw_propG {K : PySem.W.Frag} {k : Str} {p g : Addr} {f : FD} {dd : List Da} (q : da env fun x => ∃ C fs, x = .obj C fs ∧ Cls K C ∧ PropOf K C k p g ∧ DCall f (x :: dd) R) : dPropG K k p g f dd da env R := q
theorem dw_fld {K : PySem.W.Frag} {f : Str} (q : da env fun x => ∃ C fs d, x = .obj C fs ∧ Cls K C ∧ NoAttr K C f ∧ fs.lookup f = some d ∧ R d) : dFld K f da env R := q
theorem dw_cval {K : PySem.W.Frag} {f : Str} (q : da env fun x => ∃ C mc v u, x = .adr C ∧ ClX.CRead K C mc ∧ ClX.CVal K C mc f v u ∧ okV v = true ∧ R (toDa v)) : dCVal K f da env R := q
theorem dw_new {dn : DA} (q : dn env fun xs => R (.lst xs)) : dNew dn env R := q
theorem dw_slL {dl dh : DO} (q : de env fun x => dl env fun l => dh env fun u => ∃ xs, x.lits = some xs ∧ R (.lst (cutD xs l u))) : dSlL de dl dh env R := q
theorem dw_nslL {dl dh : DO} {Q : List Da → Prop} (q : de env fun x => dl env fun l => dh env fun u => ∃ xs, x.lits = some xs ∧ Q (cutD xs l u)) : nSlL de dl dh env Q := q
theorem dw_slT {dl dh : DO} (q : de env fun x => dl env fun l => dh env fun u => ∃ xs, x = .tup xs ∧ R (.tup (cutD xs l u))) : dSlT de dl dh env R := q
theorem dw_revL (q : de env fun x => ∃ xs, x.lits = some xs ∧ R (.lst xs.reverse)) : dRevL de env R := q
theorem dw_nrevL {Q : List Da → Prop} (q : de env fun x => ∃ xs, x.lits = some xs ∧ Q xs.reverse) : nRevL de env Q := q
theorem dw_lits {P : List Da → Prop} (q : P xs) (h : x.lits = some xs := by with_unfolding_all exact rfl) : ∃ ys, x.lits = some ys ∧ P ys := ⟨xs, h, q⟩
theorem dw_its1 {P : List Da → Prop} (q : P xs) (h : x.its = some xs := by with_unfolding_all exact rfl) : ∃ z ys, [x] = [z] ∧ z.its = some ys ∧ P ys := ⟨x, xs, rfl, h, q⟩
theorem dw_tups {P : List Da → Prop} (q : P xs) : ∃ ys, Da.tup xs = .tup ys ∧ P ys := ⟨xs, rfl, q⟩
theorem dw_ncat {Q : List Da → Prop} (q : da env fun x => db env fun y => ∃ xs ys, (x = .lst xs ∨ x = .own xs) ∧ (y = .lst ys ∨ y = .own ys) ∧ xs.length + ys.length ≤ 100000 ∧ Q (xs ++ ys)) : nCat da db env Q := q
theorem dw_diL {Q : Bool → List Da → Prop} (q : da env fun x => ∃ xs, x.lits = some xs ∧ Q x.isOwn xs) : diL da env Q := q
theorem dw_diT {Q : Bool → List Da → Prop} (q : da env fun x => ∃ xs, x = .tup xs ∧ Q false xs) : diT da env Q := q
theorem dw_diQ {Q : Bool → List Da → Prop} (q : da env fun x => ∃ xs, x.its = some xs ∧ Q x.isOwn xs) : diQ da env Q := q
theorem dw_diR1 {Q : Bool → List Da → Prop} (q : dta env fun ds => ∃ n : Int, ds = [.int n] ∧ -(2 ^ 62) ≤ n ∧ n < 2 ^ 62 ∧ Q false (rngD 0 n.toNat)) : diR1 dta env Q := q
theorem dw_diR2 {Q : Bool → List Da → Prop} (q : dta env fun ds => ∃ m n : Int, ds = [.int m, .int n] ∧ (-(2 ^ 62) ≤ m ∧ m < 2 ^ 62 ∧ -(2 ^ 62) ≤ n ∧ n < 2 ^ 62) ∧ Q false (rngD m (n - m).toNat)) : diR2 dta env Q := q
theorem dw_diE {Q : Bool → List Da → Prop} (q : dta env fun ds => ∃ x xs, ds = [x] ∧ x.its = some xs ∧ Q x.isOwn (enumD xs)) : diE dta env Q := q
theorem dw_diZ {Q : Bool → List Da → Prop} (q : dta env fun ds => ∃ x y xs ys, ds = [x, y] ∧ x.lits = some xs ∧ y.lits = some ys ∧ Q (x.isOwn || y.isOwn) (zipD xs ys)) : diZ dta env Q := q
theorem dw_yes {Q : Bool → Prop} (q : Q true) : dYes env Q := q
theorem dw_tt {A B : Prop} (q : A) : if true = true then A else B := by rw [if_pos rfl]; exact q
theorem dw_ff {A B : Prop} (q : B) : if false = true then A else B := by rw [if_neg (by decide)]; exact q
theorem dw_nlc {di : DI} {dg : DG} {vs : List Nat} {Q : List Da → Prop} (q : di env fun _ xs => xs.length ≤ 100000 ∧ ∃ P : Nat → List Da → Prop, P 0 [] ∧
  (∀ i x acc, xs[i]? = some x → P i acc → dg x (wipeD env vs) fun env2 => dt env2 fun b => if b = true then de env2 fun d => d.dat = true ∧ P (i + 1) (acc ++ [d]) else P (i + 1) acc) ∧ ∀ acc, P xs.length acc → Q acc) : nLc di dg dt de vs env Q := q
theorem dw_truI {Q : Bool → Prop} (q : Q (decide (n ≠ 0))) : (∃ i, Da.int n = .int i ∧ Q (decide (i ≠ 0))) ∨ (∃ b, Da.int n = .bl b ∧ Q b) ∨ (∃ xs, (Da.int n).lits = some xs ∧ Q (!xs.isEmpty)) := .inl ⟨n, rfl, q⟩
theorem dw_truL {Q : Bool → Prop} (q : Q (!xs.isEmpty)) (h : x.lits = some xs) : (∃ i, x = .int i ∧ Q (decide (i ≠ 0))) ∨ (∃ b, x = .bl b ∧ Q b) ∨ (∃ xs, x.lits = some xs ∧ Q (!xs.isEmpty)) := .inr (.inr ⟨xs, h, q⟩)
theorem dw_tru {Q : Bool → Prop} (q : da env fun x => (∃ i, x = .int i ∧ Q (decide (i ≠ 0))) ∨ (∃ b, x = .bl b ∧ Q b) ∨ (∃ xs, x.lits = some xs ∧ Q (!xs.isEmpty))) : dTru da env Q := q
theorem rng_at {lo : Int} {k i : Nat} (h : (rngD lo k)[i]? = some x) : i < k ∧ x = .int (lo + (i : Int)) := by
  unfold rngD at h
  rw [List.getElem?_map] at h
  cases q : (List.range k)[i]? with
  | none => rw [q] at h; cases h
  | some j =>
    rw [q] at h
    obtain ⟨hi, hj⟩ := List.getElem?_eq_some_iff.mp q
    rw [List.getElem_range] at hj
    subst hj
    cases h
    exact ⟨by simpa using hi, rfl⟩
theorem rng0_at {k i : Nat} (h : (rngD 0 k)[i]? = some x) : i < k ∧ x = .int (i : Int) := by
  obtain ⟨h1, h2⟩ := rng_at h
  exact ⟨h1, by rw [h2, Int.zero_add]⟩
theorem rng_len (lo : Int) (k : Nat) : (rngD lo k).length = k := by
  unfold rngD; rw [List.length_map, List.length_range]
theorem map_at {α : Type} {f : α → Da} {ps : List α} (h : (ps.map f)[i]? = some x) : ∃ p, ps[i]? = some p ∧ x = f p := by
  rw [List.getElem?_map] at h
  cases e : ps[i]? with
  | none => rw [e] at h; cases h
  | some p => rw [e] at h; cases h; exact ⟨p, rfl, rfl⟩
theorem take_more {α : Type} {f : α → Da} {ps : List α} {p : α} (h : ps[i]? = some p) : (ps.take i).map f ++ [f p] = (ps.take (i + 1)).map f := by
  rw [List.take_succ, h, List.map_append]; rfl
/-- the end of a list that is compared with values of Lean -/
theorem dw_eqD {α : Type} [DecidableEq α] [PySem.W.Datum α] [Lay α] {a c : α} (hx : IsP x (PySem.W.Datum.toD a)) (hy : IsP y (PySem.W.Datum.toD c)) (q : R (.bl (decide (a = c)))) (h : PySem.W.Datum.depth α ≤ 64 := by decide) : dEqD x y R :=
  ⟨_, _, hx, hy, shapedD a h, shapedD c h, by rw [PySem.W.Datum.eqv]; exact q⟩
theorem dw_neD {α : Type} [DecidableEq α] [PySem.W.Datum α] [Lay α] {a c : α} (hx : IsP x (PySem.W.Datum.toD a)) (hy : IsP y (PySem.W.Datum.toD c)) (q : R (.bl (!decide (a = c)))) (h : PySem.W.Datum.depth α ≤ 64 := by decide) : dNeD x y R :=
  ⟨_, _, hx, hy, shapedD a h, shapedD c h, by rw [PySem.W.Datum.eqv]; exact q⟩
theorem ofPs_pts : ∀ ps : List (Int × Int), ofPs (ps.map PySem.W.Datum.toD) = ps.map pt
  | [] => rfl
  | p :: ps => by rw [List.map_cons, ofPs, ofPs_pts ps]; rfl
theorem isP_pt (p : Int × Int) : IsP (pt p) (PySem.W.Datum.toD p) := .inl rfl
theorem isP_pts (ps : List (Int × Int)) : IsP (.lst (ps.map pt)) (PySem.W.Datum.toD ps) := .inl (by show _ = Da.lst (ofPs (ps.map PySem.W.Datum.toD)); rw [ofPs_pts])
theorem isP_own (ps : List (Int × Int)) : IsP (.own (ps.map pt)) (PySem.W.Datum.toD ps) := .inr ⟨_, rfl, .inl (by rw [ofPs_pts])⟩
theorem isP_tpts (ps : List (Int × Int)) : IsP (.tup (ps.map pt)) (PySem.W.Datum.toD (⟨ps⟩ : PySem.W.Tup (Int × Int))) := .inl (by show _ = Da.tup (ofPs (ps.map PySem.W.Datum.toD)); rw [ofPs_pts])
theorem isP_int (n : Int) : IsP (.int n) (PySem.W.Datum.toD n) := .inl rfl
theorem isP_ints (ns : List Int) : IsP (.lst (ns.map .int)) (PySem.W.Datum.toD ns) := .inl (by show _ = Da.lst (ofPs (ns.map PyData.int)); rw [ofPs_ints])
theorem isP_scr (ns : List Int) : IsP (.scr ns) (PySem.W.Datum.toD ns) := .inr ⟨_, rfl, .inr ⟨ns, rfl, rfl⟩⟩
end
end G
/-! ### comprehensions over lists of Lean -/
namespace G
open PySem PySem.Spec PyProof.Rows L2
theorem dw_nt {A B : Prop} (q : B) : if (!true) = true then A else B := q
theorem dw_nf {A B : Prop} (q : A) : if (!false) = true then A else B := q
/-- [.. for x in xs], each item by itself -/
theorem dw_map {α : Type} {dg : DG} {de : DE} {vs : List Nat} {env : Env} {Q : List Da → Prop} {ps : List α} {f : α → Da} (g : α → Da) (hl : ps.length ≤ 100000)
    (step : ∀ p ∈ ps, ∀ R : Da → Prop, R (g p) → dg (f p) (wipeD env vs) fun env2 => dYes env2 fun b => if b = true then de env2 fun d => d.dat = true ∧ R d else False) (q : Q (ps.map g)) :
    (ps.map f).length ≤ 100000 ∧ ∃ P : Nat → List Da → Prop, P 0 [] ∧
      (∀ i x acc, (ps.map f)[i]? = some x → P i acc → dg x (wipeD env vs) fun env2 => dYes env2 fun b => if b = true then de env2 fun d => d.dat = true ∧ P (i + 1) (acc ++ [d]) else P (i + 1) acc) ∧ ∀ acc, P (ps.map f).length acc → Q acc := by
  refine ⟨by rw [List.length_map]; exact hl, fun i acc => acc = (ps.take i).map g, rfl, ?_, ?_⟩
  · rintro i x acc hx rfl
    obtain ⟨p, ep, rfl⟩ := map_at hx
    exact step p (List.mem_of_getElem? ep) (fun d => (ps.take i).map g ++ [d] = (ps.take (i + 1)).map g) (take_more ep)
  · rintro acc rfl
    rw [List.length_map, List.take_length]; exact q
/-- [.. for x in xs if ..] -/
theorem dw_filter {α : Type} {dg : DG} {dt : DT} {de : DE} {vs : List Nat} {env : Env} {Q : List Da → Prop} {ps : List α} {f : α → Da} (c : α → Bool) (g : α → Da) (hl : ps.length ≤ 100000)
    (step : ∀ p ∈ ps, ∀ (R : Da → Prop) (S : Prop), (c p = true → R (g p)) → (c p = false → S) → dg (f p) (wipeD env vs) fun env2 => dt env2 fun b => if b = true then de env2 fun d => d.dat = true ∧ R d else S) (q : Q ((ps.filter c).map g)) :
    (ps.map f).length ≤ 100000 ∧ ∃ P : Nat → List Da → Prop, P 0 [] ∧
      (∀ i x acc, (ps.map f)[i]? = some x → P i acc → dg x (wipeD env vs) fun env2 => dt env2 fun b => if b = true then de env2 fun d => d.dat = true ∧ P (i + 1) (acc ++ [d]) else P (i + 1) acc) ∧ ∀ acc, P (ps.map f).length acc → Q acc := by
  refine ⟨by rw [List.length_map]; exact hl, fun i acc => acc = ((ps.take i).filter c).map g, rfl, ?_, ?_⟩
  · rintro i x acc hx rfl
    obtain ⟨p, ep, rfl⟩ := map_at hx
    have e : ps.take (i + 1) = ps.take i ++ [p] := by rw [List.take_succ, ep]; rfl
    refine step p (List.mem_of_getElem? ep) _ _ (fun h => ?_) (fun h => ?_)
    · show _ = ((ps.take (i + 1)).filter c).map g
      rw [e, List.filter_append, List.map_append]; simp [h]
    · show _ = ((ps.take (i + 1)).filter c).map g
      rw [e, List.filter_append, List.map_append]; simp [h]
  · rintro acc rfl
    rw [List.length_map, List.take_length]; exact q
end G
/-! ### links found by instances -/
namespace G
open PySem PySem.Spec PyProof.Rows L2
class CE (K : PySem.W.Frag) (te : TE) (de : outParam DE) : Prop where h : LkE K te de
class CT (K : PySem.W.Frag) (tt : TT) (dt : outParam DT) : Prop where h : LkT K tt dt
class CA (K : PySem.W.Frag) (t : TA) (dta : outParam DA) : Prop where h : LkA K t dta
class CO (K : PySem.W.Frag) (t : TO) (d : outParam DO) : Prop where h : LkO K t d
class CR (K : PySem.W.Frag) (r : R2) (dr : outParam DR2) : Prop where h : LkR K r dr
class CC (K : PySem.W.Frag) (r : List V → Hp → VK → Prop) (dc : outParam DC) : Prop where h : LkC K r dc
class CG (K : PySem.W.Frag) (g : TG) (is : outParam (List Nat)) (dg : outParam DG) : Prop where h : LkG K g is dg
class CGs (K : PySem.W.Frag) (g : TGs) (is : outParam (List Nat)) (dg : outParam DGs) : Prop where h : LkGs K g is dg
class CI (K : PySem.W.Frag) (w : TI) (di : outParam DI) : Prop where h : LkI K w di
class CN (K : PySem.W.Frag) (te : TE) (dn : outParam DA) : Prop where h : LkN K te dn
class CS (K : PySem.W.Frag) (ts : TS) (ds : outParam DS) : Prop where h : LkS K ts ds
class InL (i : Nat) (vs : List Nat) : Prop where h : i ∈ vs
instance {i : Nat} {vs : List Nat} : InL i (i :: vs) := ⟨List.mem_cons_self⟩
instance {i j : Nat} {vs : List Nat} [a : InL i vs] : InL i (j :: vs) := ⟨List.mem_cons_of_mem _ a.h⟩
instance {a : Str} {i : Nat} {l : List (Str × Nat)} : InL i (((a, i) :: l).map (·.2)) := ⟨List.mem_cons_self⟩
instance {p : Str × Nat} {i : Nat} {l : List (Str × Nat)} [a : InL i (l.map (·.2))] : InL i ((p :: l).map (·.2)) := ⟨List.mem_cons_of_mem _ a.h⟩
class SubL (is vs : List Nat) : Prop where h : ∀ i ∈ is, i ∈ vs
instance {vs : List Nat} : SubL [] vs := ⟨fun _ z => nomatch z⟩
instance {i : Nat} {is vs : List Nat} [a : InL i vs] [b : SubL is vs] : SubL (i :: is) vs := ⟨fun j z => (List.mem_cons.mp z).elim (fun e => e ▸ a.h) (b.h j)⟩
instance {is js vs : List Nat} [a : SubL is vs] [b : SubL js vs] : SubL (is ++ js) vs := ⟨fun j z => (List.mem_append.mp z).elim (a.h j) (b.h j)⟩
class OkVs (dvs : List V) : Prop where h : dvs.all okV = true
instance : OkVs [] := ⟨rfl⟩
instance {dvs : List V} [a : OkVs dvs] : OkVs (.non :: dvs) := ⟨by rw [List.all_cons]; exact (Bool.and_eq_true _ _).mpr ⟨rfl, a.h⟩⟩
instance {dvs : List V} {b : Bool} [a : OkVs dvs] : OkVs (.bl b :: dvs) := ⟨by rw [List.all_cons]; exact (Bool.and_eq_true _ _).mpr ⟨rfl, a.h⟩⟩
instance {dvs : List V} {b : Int} [a : OkVs dvs] : OkVs (.int b :: dvs) := ⟨by rw [List.all_cons]; exact (Bool.and_eq_true _ _).mpr ⟨rfl, a.h⟩⟩
instance {dvs : List V} {b : Str} [a : OkVs dvs] : OkVs (.str b :: dvs) := ⟨by rw [List.all_cons]; exact (Bool.and_eq_true _ _).mpr ⟨rfl, a.h⟩⟩
section
variable {K : PySem.W.Frag} {ta tb tc te : TE} {da db dc de : DE} {tt tu : TT} {dt du : DT} {t : TA} {dta : DA} {r r' : R2} {dr dr' : DR2} {tl th tp : TO} {dl dh dp : DO} {ts ts' : TS} {ds ds' : DS} {sp sp2 : Sp} {fd fd2 : FD} {dvs : List V} {E : XK} {C C1 C2 : Addr} {m : Str} {EE : L2.St → XK}
instance {i : Nat} : CE K (tVar i) (dVar i) := ⟨lk_var⟩
instance {i : Int} : CE K (tC (.int i)) (dC (.int i)) := ⟨lk_int⟩
instance {i : Bool} : CE K (tC (.bl i)) (dC (.bl i)) := ⟨lk_bl⟩
instance {i : Str} : CE K (tC (.str i)) (dC (.str i)) := ⟨lk_str⟩
instance : CE K (tC .non) (dC .non) := ⟨lk_non⟩
instance {a : Addr} : CE K (tC (.ref a)) (dC (.adr a)) := ⟨lk_ref⟩
instance {n : String} : CE K (tC (.ty n)) (dC (.ty n)) := ⟨lk_ty⟩
instance [a : CE K ta da] [b : CE K tb db] [c : CR K r dr] : CE K (tOp r ta tb) (dOp dr da db) := ⟨lk_op a.h b.h c.h⟩
instance {f : Int → Int} [a : CE K ta da] : CE K (tUn (rU fun i => .int (f i)) ta) (dUn f da) := ⟨lk_un a.h⟩
instance [x : CT K tt dt] [a : CE K ta da] [b : CE K tb db] : CE K (tIf tt ta tb) (dIf dt da db) := ⟨lk_if x.h a.h b.h⟩
instance [a : CE K ta da] [b : CE K tb db] : CE K (tAndV ta tb) (dAndV da db) := ⟨lk_andV a.h b.h⟩
instance [a : CE K ta da] [b : CE K tb db] : CE K (tOrV ta tb) (dOrV da db) := ⟨lk_orV a.h b.h⟩
instance [a : CE K ta da] : CE K (tNotV ta) (dNotV da) := ⟨lk_notV a.h⟩
instance [a : CE K ta da] : CT K (tTest ta) (dTest da) := ⟨lk_test a.h⟩
instance [a : CE K ta da] : CT K (tB ta) (dTest da) := ⟨lk_tB a.h⟩
instance [a : CT K tt dt] [b : CT K tu du] : CT K (tAnd tt tu) (dAnd dt du) := ⟨lk_and a.h b.h⟩
instance [a : CT K tt dt] [b : CT K tu du] : CT K (tOr tt tu) (dOr dt du) := ⟨lk_or a.h b.h⟩
instance [a : CT K tt dt] : CT K (tNot tt) (dNot dt) := ⟨lk_not a.h⟩
instance [a : CE K ta da] : CT K (tTru K ta) (dTru da) := ⟨lk_tru a.h⟩
instance : CT K tYes dYes := ⟨lkt_yes⟩
instance : CA K tNil dNil := ⟨lk_nil⟩
instance [a : CE K ta da] [b : CA K t dta] : CA K (tCons ta t) (dCons da dta) := ⟨lk_cons a.h b.h⟩
instance [b : CA K t dta] : CE K (tLst t) (dLst dta) := ⟨lk_lst b.h⟩
instance [b : CA K t dta] : CE K (tTup t) (dTup dta) := ⟨lk_tup b.h⟩
instance {rr : List V → Hp → VK → Prop} {d : DC} [b : CA K t dta] [c : CC K rr d] : CE K (tCB rr t) (dCB d dta) := ⟨lk_cb b.h c.h⟩
instance : CO K tNoPart dNoPart := ⟨lk_noPart⟩
instance [a : CE K ta da] : CO K (tPart ta) (dPart da) := ⟨lk_part a.h⟩
instance [a : CE K ta da] [b : CE K tb db] [c : CE K tc dc] [x : CR K r dr] [y : CR K r' dr'] : CE K (tChain r r' ta tb tc) (dChain dr dr' da db dc) := ⟨lk_chain a.h b.h c.h x.h y.h⟩
instance {f : Int → Int → Int} : CR K (rI0 fun i j => .int (f i j)) (dII f) := ⟨lkr_int0⟩
instance {f : Int → Int → Bool} : CR K (rI0 fun i j => .bl (f i j)) (dIB f) := ⟨lkr_bl0⟩
instance {D : Int → Int → Prop} {f : Int → Int → Int} : CR K (rI D fun i j => .int (f i j)) (dIC D f) := ⟨lkr_intC⟩
instance : CR K rEq dEqS := ⟨lkr_eq⟩
instance : CR K rNe dNeS := ⟨lkr_ne⟩
instance : CR K (rIxL K) dIxL := ⟨lkr_ixL⟩
instance : CR K (rIxT K) dIxT := ⟨lkr_ixT⟩
instance : CR K (rIxSq K) dIxQ := ⟨lkr_ixQ⟩
instance : CR K rCat dCat := ⟨lkr_cat⟩
instance : CR K (rCatA K) dCatT := ⟨lkr_catT⟩
instance : CR K rRep dRepL := ⟨lkr_repL⟩
instance : CR K (rLtT K) dLtT := ⟨lkr_ltT⟩
instance : CR K (rEqD K) dEqD := ⟨lkr_eqD⟩
instance : CR K (rNeD K) dNeD := ⟨lkr_neD⟩
instance : CR K rIsN dIsN := ⟨lkr_isN⟩
instance : CR K rNotN dNotN := ⟨lkr_notN⟩
instance : CR K rIsB dIsB := ⟨lkr_isB⟩
instance : CR K rNotB dNotB := ⟨lkr_notB⟩
instance : CC K (rIsi K) (cIsiD K) := ⟨lkc_isi⟩
instance : CC K (rLn K) cLenD := ⟨lkc_len⟩
instance : CC K rAbs cAbsD := ⟨lkc_abs⟩
instance : CC K rInt1 cIntD := ⟨lkc_int⟩
instance : CC K rMx2 cMax2D := ⟨lkc_max2⟩
instance : CC K rMn2 cMin2D := ⟨lkc_min2⟩
instance : CC K (rSum K) cSumD := ⟨lkc_sum⟩
instance : CC K (rMax K) cMaxD := ⟨lkc_max⟩
instance : CC K (rMin K) cMinD := ⟨lkc_min⟩
instance : CC K (rAll K) cAllD := ⟨lkc_all⟩
instance : CC K (rAny K) cAnyD := ⟨lkc_any⟩
instance : CC K (rTupOf K) cTupD := ⟨lkc_tupOf⟩
instance : CC K (rLstOf K) cLstD := ⟨lkc_lstOf⟩
instance [a : CE K te de] [b : CO K tl dl] [c : CO K th dh] : CE K (tSl (rSlL K) te tl th) (dSlL de dl dh) := ⟨lk_slL a.h b.h c.h⟩
instance [a : CE K te de] [b : CO K tl dl] [c : CO K th dh] : CE K (tSl (rSlA K) te tl th) (dSlT de dl dh) := ⟨lk_slT a.h b.h c.h⟩
instance [a : CE K te de] : CE K (tRevL K te) (dRevL de) := ⟨lk_revL a.h⟩
instance [a : CE K te de] [b : CO K tl dl] [c : CO K th dh] [d : CO K tp dp] : CE K (tSlX K te tl th tp) (dSlX de dl dh dp) := ⟨lk_slX a.h b.h c.h d.h⟩
instance [Br K sp fd] [b : CA K t dta] [o : OkVs dvs] : CE K (tCall sp dvs E t) (dCall fd (dvs.map toDa) dta) := ⟨lk_call b.h o.h⟩
instance [Br K sp fd] [b : CA K t dta] : CE K (tCallR sp EE t) (dCall fd [] dta) := ⟨lk_callR b.h⟩
instance [Br K sp fd] [a : CE K ta da] [b : CA K t dta] [o : OkVs dvs] : CE K (tMethA C m (fun vs H Q E => sp (vs ++ dvs) H Q E) EE ta t) (dMethD C m fd (dvs.map toDa) da dta) := ⟨lk_methD a.h b.h o.h⟩
instance [BrM K C sp fd] [b : CA K t dta] [o : OkVs dvs] : CE K (tMakeA C (fun vs H Q E => sp (vs ++ dvs) H Q E) EE t) (dCall fd (dvs.map toDa) dta) := ⟨lk_makeD b.h o.h⟩
instance [Br K sp fd] [Br K sp2 fd2] [a : CE K ta da] [b : CA K t dta] : CE K (tMeth2 C1 C2 m (fun vs H Q E => sp (vs ++ []) H Q E) (fun vs H Q E => sp2 (vs ++ []) H Q E) EE ta t) (dMeth2D C1 C2 m fd fd2 da dta) := ⟨lk_meth2D a.h b.h⟩
instance [Br K sp fd] [a : CE K ta da] [o : OkVs dvs] : CE K (tProp C sp dvs E ta) (dProp C fd (dvs.map toDa) da) := ⟨lk_prop a.h o.h⟩
instance {p g : Addr} [Br K sp fd] [a : CE K ta da] [o : OkVs dvs] : CE K (tPropG K m p g sp dvs E ta) (dPropG K m p g fd (dvs.map toDa) da) := ⟨lk_propG a.h o.h⟩
instance [a : CE K ta da] : CE K (tFld K ta m) (dFld K m da) := ⟨lk_fld a.h⟩
instance [a : CE K ta da] : CE K (ClX.tCVal K ta m) (dCVal K m da) := ⟨lk_cval a.h⟩
instance [Br K sp fd] [a : CE K ta da] : CE K (tCMethA C sp E ta) (dCMeth C fd da) := ⟨lk_cmeth a.h⟩
instance {wi : TI} {g : TG} {vs : List Nat} {di : DI} {dg : DG} {is : List Nat} [a : CI K wi di] [b : CG K g is dg] [c : CT K tt dt] [d : CE K te de] [e : SubL is vs] : CE K (tLc wi g tt te vs) (dNew (nLc di dg dt de vs)) := ⟨LkN.lk (lkn_lc a.h b.h c.h d.h e.h)⟩
instance {i : Nat} : CG K (gName i) [i] (dName i) := ⟨lkg_name⟩
instance : CGs K gNil [] dgNil := ⟨lkg_nil⟩
instance {g : TG} {u : TGs} {is js : List Nat} {dg : DG} {du : DGs} [a : CG K g is dg] [b : CGs K u js du] : CGs K (gCons g u) (is ++ js) (dgCons dg du) := ⟨lkg_cons a.h b.h⟩
instance {n : Nat} {u : TGs} {is : List Nat} {du : DGs} [a : CGs K u is du] : CG K (gTup K n u) is (dgTup n du) := ⟨lkg_tup a.h⟩
instance [a : CE K ta da] : CI K (iList K ta) (diL da) := ⟨lki_list a.h⟩
instance [a : CE K ta da] : CI K (iTup K ta) (diT da) := ⟨lki_tup a.h⟩
instance [a : CE K ta da] : CI K (iSq K ta) (diQ da) := ⟨lki_sq a.h⟩
instance [a : CA K t dta] : CI K (iRng1 t) (diR1 dta) := ⟨lki_r1 a.h⟩
instance [a : CA K t dta] : CI K (iRng2 t) (diR2 dta) := ⟨lki_r2 a.h⟩
instance [a : CA K t dta] : CI K (iEnumS K t) (diE dta) := ⟨lki_enum a.h⟩
instance [a : CA K t dta] : CI K (iZip K t) (diZ dta) := ⟨lki_zip a.h⟩
instance [a : CA K t dta] : CN K (tLst t) (nLst dta) := ⟨lkn_lst a.h⟩
instance [a : CA K t dta] : CN K (tCB (rLstOf K) t) (nLstOf dta) := ⟨lkn_lstOf a.h⟩
instance [a : CE K te de] [b : CO K tl dl] [c : CO K th dh] : CN K (tSl (rSlL K) te tl th) (nSlL de dl dh) := ⟨lkn_slL a.h b.h c.h⟩
instance [a : CE K te de] : CN K (tRevL K te) (nRevL de) := ⟨lkn_revL a.h⟩
instance [a : CE K ta da] [b : CE K tb db] : CN K (tOp rCat ta tb) (nCat da db) := ⟨lkn_cat a.h b.h⟩
instance {wi : TI} {g : TG} {vs : List Nat} {di : DI} {dg : DG} {is : List Nat} [a : CI K wi di] [b : CG K g is dg] [c : CT K tt dt] [d : CE K te de] [e : SubL is vs] : CN K (tLc wi g tt te vs) (nLc di dg dt de vs) := ⟨lkn_lc a.h b.h c.h d.h e.h⟩
instance [a : CS K ts ds] [b : CS K ts' ds'] : CS K (tSeq ts ts') (dSeq ds ds') := ⟨lks_seq a.h b.h⟩
instance [a : CS K ts ds] [b : CS K ts' ds'] : CS K (Evl.tCut ts ts') (dCut ds ds') := ⟨lks_cut a.h b.h⟩
instance : CS K tNext dNext := ⟨lks_next⟩
instance : CS K tBreak dBreak := ⟨lks_break⟩
instance : CS K tCont dCont := ⟨lks_cont⟩
instance : CS K tRetN dRetN := ⟨lks_retN⟩
instance [a : CE K te de] : CS K (tRet te) (dRet de) := ⟨lks_ret a.h⟩
instance [a : CE K te de] : CS K (tDrop te) (dDrop de) := ⟨lks_drop a.h⟩
instance (priority := high) {i : Nat} [a : CE K te de] : CS K (tDrop (tBM K "list" rAppend (tVar i) (tCons te tNil))) (dApp i de) := ⟨lks_app a.h⟩
instance (priority := high) {i : Nat} : CS K (tDrop (tBM0 K "list" rPop (tVar i))) (dPop i) := ⟨lks_pop⟩
instance {g : TG} {is : List Nat} {dg : DG} [a : CE K te de] [b : CG K g is dg] : CS K (tAsg te g) (dAsg de dg) := ⟨lks_asg a.h b.h⟩
instance (priority := high) {i : Nat} {dn : DA} [a : CN K te dn] : CS K (tAsg te (gName i)) (dAsgN dn i) := ⟨lks_asgN a.h⟩
instance [a : CT K tt dt] [b : CS K ts ds] [c : CS K ts' ds'] : CS K (tIfS tt ts ts') (dIfS dt ds ds') := ⟨lks_if a.h b.h c.h⟩
instance {i : Nat} {f : Int → Int → Int} [a : CE K te de] : CS K (tAug i te (ipI f)) (dAug i de f) := ⟨lks_aug a.h⟩
instance {i j : Nat} [a : CA K t dta] : CS K (tPar i j t) (dPar i j dta) := ⟨lks_par a.h⟩
instance {i j n : Nat} [a : CA K t dta] : CS K (tPar3 i j n t) (dPar3 i j n dta) := ⟨lks_par3 a.h⟩
instance {wi : TI} {g : TG} {is : List Nat} {di : DI} {dg : DG} [a : CI K wi di] [b : CG K g is dg] [c : CS K ts ds] : CS K (tFor wi g ts) (dFor di dg ds) := ⟨lks_for a.h b.h c.h⟩
instance [a : CT K tt dt] [b : CS K ts ds] : CS K (tWhile tt ts) (dWhile dt ds) := ⟨lks_while a.h b.h⟩
instance (priority := low) [Br K sp fd] [a : CE K ta da] [b : CA K t dta] : CE K (tMethA C m sp EE ta t) (dMeth C m fd da dta) := ⟨lk_meth a.h b.h⟩
instance (priority := low) [BrM K C sp fd] [b : CA K t dta] : CE K (tMakeA C sp EE t) (dMake fd dta) := ⟨lk_make b.h⟩
end
end G
/-! ### generators of data -/
namespace G
open PySem PySem.Spec PyProof.Rows L2
abbrev GD := List Da → (List Da → Prop) → Prop
/-- xs is handed out; made at H0 (lists not to be had: N0) -/
def ctrD (K : PySem.W.Frag) (N0 : Addr → Prop) (H0 : Hp) (xs : List Da) : Ctr where
  yl := fun m Hr x H => Same Hr H ∧ ∃ d, xs[xs.length - m]? = some d ∧ ∀ N' : Addr → Prop, Lists N' Hr → Later N0 H0 N' Hr → Rep K N' H x d
  ok := fun _ H1 H2 => (∀ b o, H1 b = some o → (∀ zs, o ≠ .lst zs) → H2 b = some o) ∧ ∀ b o, H0 b = some o → ¬ N0 b → H1 b = some o → H2 b = some o
  fin := fun Hr H => Same Hr H
def spG (K : PySem.W.Frag) (ds : GD) : SpM := fun vs H R => ∃ (N : Addr → Prop) (args xs : List Da), Lists N H ∧ Reps K N H vs args ∧ ds args (fun ys => ys = xs) ∧ R xs.length (ctrD K N H xs)
class BrG (K : PySem.W.Frag) (sp : SpM) (ds : outParam GD) : Prop where
  br : ∀ {vs : List V} {H : Hp} {R : Nat → Ctr → Prop}, spG K ds vs H R → sp vs H R
instance {K : PySem.W.Frag} {ds : GD} : BrG K (spG K ds) ds := ⟨fun h => h⟩
/-- a reading of a generator that is made -/
def LkM (K : PySem.W.Frag) (tc : TGc) (di : DI) : Prop := ∀ {l0 l : Option Addr} {H0 H : Hp} {N0 N : Addr → Prop} {σ : L2.St} {env : Env}, DOk K l0 H0 N0 l N H σ env → ∀ {R : Bool → List Da → Prop}, di env R → ∀ {Q : Nat → Ctr → Hp → Prop},
  (∀ xs H', R false xs → Mv l H H' → Q xs.length (ctrD K N H' xs) H') → tc σ H Q
class CM (K : PySem.W.Frag) (tc : TGc) (di : outParam DI) : Prop where h : LkM K tc di
def dGen (ds : GD) (dta : DA) : DI := fun env R => dta env fun args => args.all Da.dat = true ∧ ∃ xs, ds args (fun ys => ys = xs) ∧ R false xs
def dGenM (C : Addr) (m : Str) (ds : GD) (da : DE) : DI := fun env R => da env fun x => ∃ fs, x = .obj C fs ∧ fs.lookup m = none ∧ ∃ xs, ds [x] (fun ys => ys = xs) ∧ R false xs
section
variable {K : PySem.W.Frag} {t : TA} {dta : DA} {ta te : TE} {da de : DE} {sp : SpM} {gd : GD} {C : Addr} {m : Str} {ts : TS} {ds : DS}
theorem lkm_call [b : BrG K sp gd] (ht : LkA K t dta) : LkM K (tGcall sp t) (dGen gd dta) := by
  intro l0 l H0 H N0 N σ env k R h Q c
  refine ht k h fun as vs H1 hd m1 r1 => ?_
  obtain ⟨h1, xs, h2, q⟩ := hd
  exact b.br ⟨N, as, xs, (k.mv m1).ls, r1.reps h1, h2, c xs H1 q m1⟩
theorem lkm_meth [b : BrG K sp gd] (ha : LkE K ta da) : LkM K (tGmeth C m sp ta) (dGenM C m gd da) := by
  intro l0 l H0 H N0 N σ env k R h Q c
  refine ha k h fun x v H1 hd m1 r1 => ?_
  obtain ⟨fs, rfl, hl, xs, h2, q⟩ := hd
  obtain ⟨a, dx, gs, rfl, e, rf⟩ := obj_of r1
  exact ⟨a, dx, gs, rfl, e, rf.none hl, b.br ⟨N, _, xs, (k.mv m1).ls, .cons (r1.rep rfl) .nil, h2, c xs H1 q m1⟩⟩
instance [BrG K sp gd] [a : CA K t dta] : CM K (tGcall sp t) (dGen gd dta) := ⟨lkm_call a.h⟩
instance [BrG K sp gd] [a : CE K ta da] : CM K (tGmeth C m sp ta) (dGenM C m gd da) := ⟨lkm_meth a.h⟩
/-- the consumer goes on from Hy to H3 -/
theorem ctr_ok {N0 N N' : Addr → Prop} {H0 Hy H3 : Hp} {xs : List Da} {k : Nat} (l1 : Later N0 H0 N Hy) (lN : Lists N Hy) (l2 : Later N Hy N' H3) : (ctrD K N0 H0 xs).ok k Hy H3 := by
  refine ⟨fun b o e n => l2.st b o (fun z => ?_) e, fun b o e n e1 => l2.st b o (fun z => ?_) e1⟩
  · obtain ⟨ys, q⟩ := lN b z
    rw [e] at q; cases q
    exact n _ rfl
  · rcases l1.nw b z with y | y
    · exact n y
    · rw [e] at y; cases y
theorem lks_forG {tc : TGc} {g : TG} {is : List Nat} {di : DI} {dg : DG} (hi : LkM K tc di) (hg : LkG K g is dg) (hb : LkS K ts ds) : LkS K (tForS (tIgP tc) g ts) (dFor di dg ds) := by
  intro l0 l H0 H N0 N σ env k Dd De e h
  refine hi k h fun xs H1 hx m1 => ?_
  obtain ⟨_, Pv, p0, step, done⟩ := hx
  have k1 := k.mv m1
  refine ⟨⟨fun _ _ e _ => e, fun _ _ _ _ e => e⟩, fun i σ' H' => ∃ l' N' env', DOk K l0 H0 N0 l' N' H' σ' env' ∧ Later N H1 N' H' ∧ Pv i env', ⟨l, N, env, k1, .refl _ _, p0⟩, ?_, ?_⟩
  · rintro i σ2 H2 hi ⟨l2, N2, env2, k2, lt2, p2⟩ x H3 Hy ⟨rfl, s3, d, ed, rx⟩
    rw [show xs.length - (xs.length - i) = i by omega] at ed
    have m3 : Mv l2 H2 H3 := .of_same s3
    have k3 := k2.mv m3
    have lt3 := lt2.trans (k2.later m3)
    refine hg k3 (rx N2 k2.ls lt2) (step i d env2 ed p2) fun σ4 env4 k4 q4 _ => ?_
    refine hb (Dd := { Dd with nx := Pv (i + 1), ct := Pv (i + 1), bk := Dd.nx }) k4 ⟨fun k5 lt5 q5 => ⟨⟨_, _, _, k5, lt3.trans lt5, q5⟩, ctr_ok lt3 k4.ls lt5⟩, fun k5 lt5 q5 => e.nx k5 ((k.later m1).trans (lt3.trans lt5)) q5, fun k5 lt5 q5 => ⟨⟨_, _, _, k5, lt3.trans lt5, q5⟩, ctr_ok lt3 k4.ls lt5⟩, fun k5 lt5 r5 q5 => e.rt k5 ((k.later m1).trans (lt3.trans lt5)) r5 q5⟩ q4
  · rintro σ2 H2 H3 ⟨l2, N2, env2, k2, lt2, p2⟩ s3
    have m3 : Mv l2 H2 H3 := .of_same s3
    exact e.nx (k2.mv m3) ((k.later m1).trans (lt2.trans (k2.later m3))) (done env2 p2)
theorem lkn_lcG {tc : TGc} {g : TG} {tt : TT} {vs : List Nat} {di : DI} {dg : DG} {dt : DT} {is : List Nat} (hi : LkM K tc di) (hg : LkG K g is dg) (ht : LkT K tt dt) (he : LkE K te de) (hv : ∀ i ∈ is, i ∈ vs) :
    LkN K (tLcG (tIgP tc) g tt te vs) (nLc di dg dt de vs) := by
  intro l0 l H0 H N0 N σ env k R h Q c
  refine hi k h fun xs H1 hx m1 => ?_
  obtain ⟨hlen, P, p0, step, done⟩ := hx
  refine ⟨⟨fun _ _ e _ => e, fun _ _ _ _ e => e⟩, fun D hD => ?_⟩
  have k1 := k.mv m1
  obtain ⟨k2, lt2, h0, hDl⟩ := k1.grow (vs := []) hD
  have hDN : ¬ N D := not_new k1.ls hD
  refine ⟨ctr_ok (.refl _ _) k1.ls lt2, fun i H' => ∃ accV acc, H' D = some (.lst accV) ∧ Reps K (With N D) H' accV acc ∧ DOk K l0 H0 N0 l (With N D) H' σ env ∧ Later N H1 (With N D) H' ∧ Mv l H1 H' ∧ acc.length ≤ i ∧ P i acc, ⟨[], [], upd_same, .nil, k2, lt2, (Mv.refl _ _).new hD, Nat.le_refl _, p0⟩, ?_, ?_⟩
  · rintro i H2 hi ⟨accV, acc, eD, ra, k3, lt3, mv3, hal, hp⟩ x H4 Hy ⟨rfl, s4, d, ed, rx⟩
    rw [show xs.length - (xs.length - i) = i by omega] at ed
    have m4 : Mv l H2 H4 := .of_same s4
    have k4 := k3.mv m4
    have lt4 := lt3.trans (k3.later m4)
    refine hg (k4.wipe vs) (rx _ k3.ls lt3) (step i d acc ed hp) fun σ5 env5 k5 q5 w5 => ⟨?_, ht k5 q5 fun b H6 hb m6 => ?_⟩
    · have e5 := w5 vs hv
      rw [e5]
      refine List.ext_getElem? fun j => ?_
      by_cases z : j ∈ vs
      · rw [wipe_at z, wipe_at z, wipe_length]
      · rw [wipe_out z]
    · have back : ∀ {H' : Hp}, Mv l H2 H' → DOk K l0 H0 N0 l (With N D) H' σ env ∧ Reps K (With N D) H' accV acc ∧ H' D = some (.lst accV) ∧ Later N H1 (With N D) H' ∧ Mv l H1 H' := fun m => ⟨k3.mv m, k3.reps m ra, m.kp _ _ hDl eD, lt3.trans (k3.later m), mv3.trans m⟩
      cases b with
      | false =>
        refine iteF ?_
        obtain ⟨b1, b2, b3, b4, b5⟩ := back (m4.trans m6)
        exact ⟨⟨accV, acc, b3, b2, b1, b4, b5, by omega, by simpa using hb⟩, ctr_ok lt4 k4.ls (k4.later m6)⟩
      | true =>
        refine iteT (he (k5.mv m6) (by simpa using hb) fun y v H7 hy7 m7 r7 => ?_)
        obtain ⟨hdat, hP⟩ := hy7
        obtain ⟨b1, b2, b3, b4, b5⟩ := back ((m4.trans m6).trans m7)
        have al := ra.length
        have hno : ∀ (j : Nat) ys, env[j]? = some (some (.own ys)) → σ[j]? ≠ some (some (.ref D)) := fun j ys ej z => by
          obtain ⟨u, e1, r1⟩ := k.rd j _ ej
          rw [z] at e1; cases e1
          cases r1 with
          | own a1 _ _ _ _ => exact hDN a1
          | dat r => cases r
        obtain ⟨k8, lt8⟩ := b1.put (ws := accV ++ [v]) (.inr rfl) h0 hDl b3 hno
        refine ⟨accV, b3, Nat.lt_of_le_of_lt (show accV.length ≤ 100000 by omega) (by decide), ⟨accV ++ [v], acc ++ [y], upd_same, ?_, k8, b4.trans lt8, ?_, by rw [List.length_append]; simp; omega, hP⟩, ctr_ok lt4 k4.ls ((k4.later (m6.trans m7)).trans lt8)⟩
        · exact (lt8.reps b1.ls b2).app (.cons (lt8.rep b1.ls (r7.rep hdat)) .nil)
        · refine ⟨fun b o n e => ?_, fun a e d => ?_⟩
          · have : b ≠ D := fun z => by subst z; rw [hD] at e; cases e
            rw [upd_ne this]; exact b5.kp b o n e
          · obtain ⟨x1, y1, e1, e2⟩ := b5.dr a e d
            have : a ≠ D := fun z => by subst z; exact hDl e.symm
            exact ⟨x1, y1, by rw [upd_ne this]; exact e1, e2⟩
  · rintro H2 H3 ⟨accV, acc, eD, ra, k3, lt3, mv3, hal, hp⟩ s3
    have m3 : Mv l H2 H3 := .of_same s3
    exact c acc accV D H3 (done acc hp) (k3.mv m3) (((k.later m1).trans lt3).trans (k3.later m3)) ((m1.trans mv3).trans m3) h0 hDl hDN (s3 _ _ eD) (k3.reps m3 ra)
instance {tc : TGc} {g : TG} {is : List Nat} {di : DI} {dg : DG} [a : CM K tc di] [b : CG K g is dg] [c : CS K ts ds] : CS K (tForS (tIgP tc) g ts) (dFor di dg ds) := ⟨lks_forG a.h b.h c.h⟩
instance {tc : TGc} {g : TG} {tt : TT} {vs : List Nat} {di : DI} {dg : DG} {dt : DT} {is : List Nat} [a : CM K tc di] [b : CG K g is dg] [c : CT K tt dt] [d : CE K te de] [e : SubL is vs] : CN K (tLcG (tIgP tc) g tt te vs) (nLc di dg dt de vs) := ⟨lkn_lcG a.h b.h c.h d.h e.h⟩
instance {tc : TGc} {g : TG} {tt : TT} {vs : List Nat} {di : DI} {dg : DG} {dt : DT} {is : List Nat} [a : CM K tc di] [b : CG K g is dg] [c : CT K tt dt] [d : CE K te de] [e : SubL is vs] : CE K (tLcG (tIgP tc) g tt te vs) (dNew (nLc di dg dt de vs)) := ⟨LkN.lk (lkn_lcG a.h b.h c.h d.h e.h)⟩
end
end G
/-! ### greatest common divisors -/
namespace G
theorem gcd_fmod (a b : Int) : Int.gcd b (a.fmod b) = Int.gcd a b := by
  have e : a.fmod b = a + b * (-(a.fdiv b)) := by
    have := Int.mul_fdiv_add_fmod a b
    rw [Int.mul_neg]; omega
  rw [e, Int.gcd_add_mul_left_right, Int.gcd_comm]
theorem gcd_emod (a b : Int) (h : 0 ≤ b) : Int.gcd b (a % b) = Int.gcd a b := by
  rw [← Int.fmod_eq_emod_of_nonneg a h]; exact gcd_fmod a b
theorem fmod_lt (a b : Int) (h : b ≠ 0) : (a.fmod b).natAbs < b.natAbs := by
  rcases Int.lt_trichotomy b 0 with hb | hb | hb
  · have e := Int.neg_fmod_neg (a := a) (b := b)
    have h1 := Int.fmod_nonneg_of_pos (-a) (b := -b) (by omega)
    have h2 := Int.fmod_lt_of_pos (-a) (b := -b) (by omega)
    omega
  · exact absurd hb h
  · have h1 := Int.fmod_nonneg_of_pos a hb
    have h2 := Int.fmod_lt_of_pos a hb
    omega
end G

/-! ### floor sums -/
namespace G
def fs (a b m : Int) : Nat → Int
  | 0 => 0
  | n + 1 => fs a b m n + (a * (n : Int) + b) / m
/-- n (n - 1) / 2 -/
def tri (n : Int) : Int := n * (n - 1) / 2
theorem tri_succ (n : Nat) : tri ((n + 1 : Nat) : Int) = tri n + n := by
  unfold tri
  have e : ((n + 1 : Nat) : Int) * (((n + 1 : Nat) : Int) - 1) = (n : Int) * ((n : Int) - 1) + (n : Int) * 2 := by grind
  rw [e, Int.add_mul_ediv_right _ _ (by decide)]
theorem fs_add_a (a b m q : Int) (h : 0 < m) : ∀ n : Nat, fs (a + m * q) b m n = fs a b m n + tri n * q
  | 0 => by simp [fs, tri]
  | n + 1 => by
    rw [fs, fs, fs_add_a a b m q h n, tri_succ]
    have e : (a + m * q) * (n : Int) + b = (a * (n : Int) + b) + (q * (n : Int)) * m := by grind
    rw [e, Int.add_mul_ediv_right _ _ (by omega)]
    grind
theorem fs_add_b (a b m q : Int) (h : 0 < m) : ∀ n : Nat, fs a (b + m * q) m n = fs a b m n + (n : Int) * q
  | 0 => by simp [fs]
  | n + 1 => by
    rw [fs, fs, fs_add_b a b m q h n]
    have e : a * (n : Int) + (b + m * q) = (a * (n : Int) + b) + q * m := by grind
    rw [e, Int.add_mul_ediv_right _ _ (by omega)]
    grind
theorem fs_more (a b m : Int) (n : Nat) : ∀ k : Nat, fs a b m (n + k) = fs a b m n + fs a (a * (n : Int) + b) m k
  | 0 => by simp [fs]
  | k + 1 => by
    rw [← Nat.add_assoc, fs, fs_more a b m n k, fs]
    have e : a * ((n + k : Nat) : Int) + b = a * (k : Int) + (a * (n : Int) + b) := by grind
    rw [e]; omega
/-- every term one greater -/
theorem fs_shift (a b m : Int) (h : 0 < m) (n : Nat) : fs a (b + m) m n = fs a b m n + n := by
  have := fs_add_b a b m 1 h n
  rw [Int.mul_one, Int.mul_one] at this
  exact this
/-- the first term apart -/
theorem fs_first (a b m : Int) : ∀ n : Nat, fs a b m (n + 1) = b / m + fs a (b + a) m n
  | 0 => by simp [fs]
  | n + 1 => by
    rw [fs, fs_first a b m n, fs]
    have e : a * ((n + 1 : Nat) : Int) + b = a * (n : Int) + (b + a) := by grind
    rw [e]; omega
/-- rows for columns -/
theorem fs_swap {a b m : Int} (ha : 0 < a) (ham : a < m) (hb : 0 ≤ b) (hbm : b < m) : ∀ n : Nat, fs a b m n = fs m ((a * (n : Int) + b) % m) a ((a * (n : Int) + b) / m).toNat
  | 0 => by
    have e : a * ((0 : Nat) : Int) + b = b := by simp
    rw [e, Int.ediv_eq_zero_of_lt hb hbm]
    rfl
  | n + 1 => by
    have hm : 0 < m := by omega
    have ht : 0 ≤ a * (n : Int) + b := Int.add_nonneg (Int.mul_nonneg (by omega) (by omega)) hb
    rw [fs, fs_swap ha ham hb hbm n]
    have e : a * ((n + 1 : Nat) : Int) + b = (a * (n : Int) + b) + a := by grind
    rw [e]
    generalize a * (n : Int) + b = t at ht ⊢
    have h0 := Int.emod_nonneg t (b := m) (by omega)
    have h1 := Int.emod_lt_of_pos t hm
    have h2 := Int.mul_ediv_add_emod t m
    have h3 : 0 ≤ t / m := Int.ediv_nonneg ht (by omega)
    generalize hK : t / m = K at h2 h3 ⊢
    generalize hr : t % m = r at h0 h1 h2 ⊢
    obtain ⟨k, rfl⟩ : ∃ k : Nat, K = (k : Int) := ⟨K.toNat, by omega⟩
    by_cases c : r + a < m
    · have e1 : (t + a) / m = (k : Int) := by
        have : t + a = (r + a) + (k : Int) * m := by grind
        rw [this, Int.add_mul_ediv_right _ _ (by omega), Int.ediv_eq_zero_of_lt (by omega) c]; omega
      have e2 : (t + a) % m = r + a := by
        have : t + a = (r + a) + m * (k : Int) := by grind
        rw [this, Int.add_mul_emod_self_left, Int.emod_eq_of_lt (by omega) c]
      rw [e1, e2, Int.toNat_natCast, fs_shift m r a ha k]
    · have e1 : (t + a) / m = ((k + 1 : Nat) : Int) := by
        have : t + a = (r + a - m) + ((k + 1 : Nat) : Int) * m := by grind
        rw [this, Int.add_mul_ediv_right _ _ (by omega), Int.ediv_eq_zero_of_lt (by omega) (by omega)]; omega
      have e2 : (t + a) % m = r + a - m := by
        have : t + a = (r + a - m) + m * ((k + 1 : Nat) : Int) := by grind
        rw [this, Int.add_mul_emod_self_left, Int.emod_eq_of_lt (by omega) (by omega)]
      rw [e1, e2, Int.toNat_natCast, Int.toNat_natCast, fs_first, Int.ediv_eq_zero_of_lt (by omega) (by omega)]
      have e3 : r + a - m + m = r + a := by omega
      rw [e3, fs_shift m r a ha k]; omega
/-- one step of the loop: the whole parts are taken off -/
theorem fs_red (a b m : Int) (h : 0 < m) (n : Nat) : fs a b m n = tri n * (a / m) + (n : Int) * (b / m) + fs (a % m) (b % m) m n := by
  have ea : a = a % m + m * (a / m) := by have := Int.mul_ediv_add_emod a m; omega
  have eb : b = b % m + m * (b / m) := by have := Int.mul_ediv_add_emod b m; omega
  have h1 : fs a b m n = fs (a % m + m * (a / m)) (b % m + m * (b / m)) m n := by rw [← ea, ← eb]
  rw [h1, fs_add_a _ _ _ _ h, fs_add_b _ _ _ _ h]; omega
theorem fs_zero {a b m : Int} (hb : 0 ≤ b) (ha : 0 ≤ a) : ∀ n : Nat, a * (n : Int) + b < m → fs a b m n = 0
  | 0, _ => rfl
  | n + 1, h => by
    have e : a * ((n + 1 : Nat) : Int) + b = (a * (n : Int) + b) + a := by grind
    rw [e] at h
    have ht : 0 ≤ a * (n : Int) + b := Int.add_nonneg (Int.mul_nonneg ha (by omega)) hb
    rw [fs, fs_zero hb ha n (by omega), Int.ediv_eq_zero_of_lt ht (by omega)]; rfl
/-- one period -/
theorem fs_period : ∀ (m : Nat) (p : Nat), 0 < m → 2 * fs (p : Int) 0 (m : Int) m = ((p : Int) - 1) * ((m : Int) - 1) + ((Int.gcd p m : Nat) : Int) - 1 := by
  intro m
  induction m using Nat.strongRecOn with
  | ind m ih =>
    intro p hm
    have hr := fs_red (p : Int) 0 (m : Int) (by omega) m
    have e0 : (0 : Int) / (m : Int) = 0 := Int.zero_ediv _
    have e1 : (0 : Int) % (m : Int) = 0 := Int.zero_emod _
    rw [e0, e1, Int.mul_zero, Int.add_zero] at hr
    have h0 := Int.emod_nonneg (p : Int) (b := (m : Int)) (by omega)
    have h1 := Int.emod_lt_of_pos (p : Int) (b := (m : Int)) (by omega)
    have h2 := Int.mul_ediv_add_emod (p : Int) (m : Int)
    have hg : Int.gcd (p : Int) (m : Int) = Int.gcd (m : Int) ((p : Int) % (m : Int)) := (gcd_emod (p : Int) (m : Int) (by omega)).symm
    have ht : 2 * tri (m : Int) = (m : Int) * ((m : Int) - 1) := by
      have : ∀ n : Nat, 2 * tri (n : Int) = (n : Int) * ((n : Int) - 1) := by
        intro n
        induction n with
        | zero => simp [tri]
        | succ n ih2 => rw [tri_succ]; grind
      exact this m
    obtain ⟨r, hr2⟩ : ∃ r : Nat, (p : Int) % (m : Int) = (r : Int) := ⟨((p : Int) % (m : Int)).toNat, by omega⟩
    rw [hr2] at h0 h1 h2 hg hr
    rw [hg, hr]
    generalize (p : Int) / (m : Int) = q at h2 ⊢
    by_cases hz : r = 0
    · subst hz
      have e2 : fs ((0 : Nat) : Int) 0 (m : Int) m = 0 := fs_zero (by omega) (by omega) m (by simp; omega)
      rw [e2]
      have e3 : Int.gcd (m : Int) ((0 : Nat) : Int) = m := by simp
      rw [e3]
      grind
    · have sw := fs_swap (a := (r : Int)) (b := 0) (m := (m : Int)) (by omega) h1 (by omega) (by omega) m
      have e2 : (r : Int) * (m : Int) + 0 = (r : Int) * (m : Int) := Int.add_zero _
      rw [e2, Int.mul_emod_left, Int.mul_ediv_cancel _ (by omega), Int.toNat_natCast] at sw
      rw [sw]
      have := ih r (by omega) m (by omega)
      grind
end G

/-! ### points around a closed path -/
namespace G
open PySem PySem.Spec PyProof.Rows L2
abbrev Pt := Int × Int
def atC (ps : List Pt) (i : Nat) : Pt := ps.getD i (0, 0)
def nxt (ps : List Pt) (i : Nat) : Pt := atC ps ((i + 1) % ps.length)
def prv (ps : List Pt) (i : Nat) : Pt := atC ps ((i + ps.length - 1) % ps.length)
theorem atC_of {ps : List Pt} {i : Nat} {p : Pt} (h : ps[i]? = some p) : atC ps i = p := by
  unfold atC
  rw [List.getD_eq_getElem?_getD, h]; rfl
theorem atC_get {ps : List Pt} {i : Nat} (h : i < ps.length) : ps[i]? = some (atC ps i) := by
  unfold atC
  rw [List.getD_eq_getElem?_getD, List.getElem?_eq_getElem h]; rfl
theorem atC_mem {ps : List Pt} {i : Nat} (h : i < ps.length) : atC ps i ∈ ps := List.mem_of_getElem? (atC_get h)
theorem nxt_mem {ps : List Pt} {i : Nat} (h : 0 < ps.length) : nxt ps i ∈ ps := atC_mem (Nat.mod_lt _ h)
theorem prv_mem {ps : List Pt} {i : Nat} (h : 0 < ps.length) : prv ps i ∈ ps := atC_mem (Nat.mod_lt _ h)
/-- Python's items at i - 1, at (i + 1) % n -/
theorem atI_prv {α : Type} {xs : List α} {i : Nat} (h : i < xs.length) : atI xs ((i : Int) - 1) = xs[(i + xs.length - 1) % xs.length]? := by
  by_cases h0 : i = 0
  · subst h0
    have e : (0 + xs.length - 1) % xs.length = xs.length - 1 := by
      rw [Nat.zero_add]; exact Nat.mod_eq_of_lt (by omega)
    rw [e]
    have hne : xs ≠ [] := fun z => by subst z; simp at h
    have ex : xs = xs.dropLast ++ [xs.getLast hne] := (List.dropLast_concat_getLast hne).symm
    have e1 : xs[xs.length - 1]? = some (xs.getLast hne) := by
      rw [← List.getLast?_eq_getElem?, List.getLast?_eq_some_getLast hne]
    rw [e1, show (((0 : Nat) : Int) - 1) = -1 from rfl]
    have e2 := atI_last xs.dropLast (xs.getLast hne)
    rwa [← ex] at e2
  · have e : (i + xs.length - 1) % xs.length = i - 1 := by
      rw [show i + xs.length - 1 = (i - 1) + xs.length by omega, Nat.add_mod_right]; exact Nat.mod_eq_of_lt (by omega)
    rw [e]
    have e2 : ((i : Int) - 1) = ((i - 1 : Nat) : Int) := by omega
    rw [e2]
    have hx : xs[i - 1]? = some (xs[i - 1]'(by omega)) := List.getElem?_eq_getElem (by omega)
    rw [hx]
    exact atI_nat hx
theorem emod_nat (i n : Nat) : ((i : Int) + 1) % (n : Int) = (((i + 1) % n : Nat) : Int) := by
  rw [Int.natCast_emod]; rfl
theorem atI_nxt {α : Type} {xs : List α} {i : Nat} (h : i < xs.length) : atI xs (((i : Int) + 1) % (xs.length : Int)) = xs[(i + 1) % xs.length]? := by
  rw [emod_nat]
  have hl : (i + 1) % xs.length < xs.length := Nat.mod_lt _ (by omega)
  rw [List.getElem?_eq_getElem hl]
  exact atI_nat (List.getElem?_eq_getElem hl)
/-- all coordinates have fewer than n bits -/
def AllBd (n : Nat) (ps : List Pt) : Prop := ∀ p ∈ ps, PBd n p
theorem PBd.mono {n m : Nat} {p : Pt} (h : PBd n p) (l : n ≤ m) : PBd m p := ⟨h.1.mono l, h.2.mono l⟩
def dif (q p : Pt) : Pt := (q.1 - p.1, q.2 - p.2)
theorem PBd.dif {n : Nat} {p q : Pt} (h : PBd n p) (k : PBd n q) : PBd (n + 1) (dif p q) := ⟨h.1.sub k.1, h.2.sub k.2⟩
section
variable {K : PySem.W.Frag} {H : Hp}
theorem hds_prv {xs : List V} {ps : List Pt} {i : Nat} (h : Hds K H xs ps) (hi : i < xs.length) : ∃ v, atI xs ((i : Int) - 1) = some v ∧ Hd K H v (prv ps i) := by
  have hl := h.length
  have hm : (i + xs.length - 1) % xs.length < xs.length := Nat.mod_lt _ (by omega)
  rw [atI_prv hi]
  refine ⟨xs[(i + xs.length - 1) % xs.length], List.getElem?_eq_getElem hm, ?_⟩
  obtain ⟨p, hp, hv⟩ := h.at' (List.getElem?_eq_getElem hm)
  have e : prv ps i = p := by unfold prv; rw [← hl]; exact atC_of hp
  rw [e]; exact hv
theorem hds_nxt {xs : List V} {ps : List Pt} {i : Nat} (h : Hds K H xs ps) (hi : i < xs.length) : ∃ v, atI xs (((i : Int) + 1) % (xs.length : Int)) = some v ∧ Hd K H v (nxt ps i) := by
  have hl := h.length
  have hm : (i + 1) % xs.length < xs.length := Nat.mod_lt _ (by omega)
  rw [atI_nxt hi]
  refine ⟨xs[(i + 1) % xs.length], List.getElem?_eq_getElem hm, ?_⟩
  obtain ⟨p, hp, hv⟩ := h.at' (List.getElem?_eq_getElem hm)
  have e : nxt ps i = p := by unfold nxt; rw [← hl]; exact atC_of hp
  rw [e]; exact hv
theorem hds_at {xs : List V} {ps : List Pt} {i : Nat} {x : V} (h : Hds K H xs ps) (e : xs[i]? = some x) : Hd K H x (atC ps i) := by
  obtain ⟨p, hp, hv⟩ := h.at' e
  rw [atC_of hp]; exact hv
/-- a list or tuple of points -/
def PSq (K : PySem.W.Frag) (H : Hp) (v : V) (ps : List Pt) : Prop := ∃ a xs, v = .ref a ∧ SqS K H a xs ∧ Hds K H xs ps
theorem PSq.same {H' : Hp} {v : V} {ps : List Pt} (h : PSq K H v ps) (s : Same H H') : PSq K H' v ps := by
  obtain ⟨a, xs, rfl, h1, h2⟩ := h
  exact ⟨a, xs, rfl, h1.same s, h2.same s⟩
end
end G

/-! ### plain facts about closed paths: the order of points, areas, turning and shifting the corners -/
namespace G
open PySem PySem.Spec PyProof.Rows L2 PySem.W
def crsP (a b : Pt) : Int := a.1 * b.2 - a.2 * b.1
/-- consecutive pairs -/
def cons2 : List Pt → List (Pt × Pt)
  | a :: b :: l => (a, b) :: cons2 (b :: l)
  | _ => []
def pth : List Pt → Int
  | a :: b :: l => crsP a b + pth (b :: l)
  | _ => 0
theorem pth_cons2 : ∀ l : List Pt, pth l = ((cons2 l).map fun e => crsP e.1 e.2).sum
  | [] => rfl
  | [_] => rfl
  | a :: b :: l => by
    rw [pth, cons2, List.map_cons, List.sum_cons, pth_cons2 (b :: l)]
theorem pth_app : ∀ (l : List Pt) (a : Pt) (m : List Pt), pth (l ++ a :: m) = pth (l ++ [a]) + pth (a :: m)
  | [], a, m => by
    show pth (a :: m) = pth [a] + _
    rw [show pth [a] = 0 from rfl, Int.zero_add]
  | [b], a, m => by
    show crsP b a + pth (a :: m) = crsP b a + pth [a] + _
    rw [show pth [a] = 0 from rfl, Int.add_zero]
  | b :: c :: l, a, m => by
    show crsP b c + pth (c :: l ++ a :: m) = crsP b c + pth (c :: l ++ [a]) + _
    rw [pth_app (c :: l) a m, Int.add_assoc]
theorem crs_swap (a b : Pt) : crsP b a = -crsP a b := by
  unfold crsP; grind
theorem pth_rev : ∀ l : List Pt, pth l.reverse = -pth l
  | [] => rfl
  | [_] => rfl
  | a :: b :: l => by
    rw [List.reverse_cons, List.reverse_cons, List.append_assoc]
    show pth (l.reverse ++ b :: [a]) = _
    rw [pth_app, ← List.reverse_cons, pth_rev (b :: l)]
    show _ + (crsP b a + 0) = -(crsP a b + _)
    rw [crs_swap a b]; omega
/-- twice the signed area of a closed path -/
def are : List Pt → Int
  | [] => 0
  | p :: l => pth (p :: l ++ [p])
theorem are_rot1 (p : Pt) (l : List Pt) : are (l ++ [p]) = are (p :: l) := by
  cases l with
  | nil => rfl
  | cons q l =>
    show pth (q :: l ++ [p] ++ [q]) = pth (p :: q :: l ++ [p])
    rw [List.append_assoc]
    show pth ((q :: l) ++ p :: [q]) = crsP p q + pth (q :: l ++ [p])
    rw [pth_app]
    show _ + (crsP p q + 0) = _
    omega
theorem are_rot : ∀ (l m : List Pt), are (l ++ m) = are (m ++ l)
  | [], m => by rw [List.nil_append, List.append_nil]
  | p :: l, m => by
    have e := are_rot1 p (l ++ m)
    have i := are_rot l (m ++ [p])
    rw [List.append_assoc, List.singleton_append] at i
    rw [List.cons_append, ← e, List.append_assoc, i]
theorem are_rev : ∀ l : List Pt, are l.reverse = -are l
  | [] => rfl
  | p :: l => by
    rw [List.reverse_cons, are_rot1]
    show pth (p :: l.reverse ++ [p]) = -pth (p :: l ++ [p])
    rw [← pth_rev, List.reverse_append]
    show _ = pth ([p] ++ (p :: l).reverse)
    rw [List.reverse_cons]
    rfl
theorem cons2_len : ∀ l : List Pt, (cons2 l).length = l.length - 1
  | [] => rfl
  | [_] => rfl
  | a :: b :: l => by
    rw [cons2, List.length_cons, cons2_len (b :: l)]
    simp
theorem cons2_get : ∀ (l : List Pt) (i : Nat) (p q : Pt), l[i]? = some p → l[i + 1]? = some q → (cons2 l)[i]? = some (p, q)
  | [], _, _, _, h, _ => by simp at h
  | [_], i, _, _, _, h => by simp at h
  | a :: b :: l, 0, p, q, h1, h2 => by
    simp at h1 h2
    subst h1 h2
    rfl
  | a :: b :: l, i + 1, p, q, h1, h2 => by
    rw [cons2, List.getElem?_cons_succ]
    exact cons2_get (b :: l) i p q (by simpa using h1) (by simpa using h2)
/-- shifted by j places -/
def rot (j : Nat) (l : List Pt) : List Pt := l.drop j ++ l.take j
theorem are_rotj (j : Nat) (l : List Pt) : are (rot j l) = are l := by
  unfold rot
  rw [← are_rot, List.take_append_drop]
theorem rot_perm (j : Nat) (l : List Pt) : (rot j l).Perm l := by
  unfold rot
  have h : (l.drop j ++ l.take j).Perm (l.take j ++ l.drop j) := List.perm_append_comm
  rwa [List.take_append_drop] at h
/-- the first place of p -/
def idx (p : Pt) : List Pt → Nat
  | [] => 0
  | q :: l => if q = p then 0 else idx p l + 1
theorem idx_eq {p : Pt} : ∀ {l : List Pt} {j : Nat}, l[j]? = some p → (∀ m, m < j → l[m]? ≠ some p) → idx p l = j
  | [], j, h, _ => by simp at h
  | q :: l, 0, h, _ => by
    have h : q = p := by simpa using h
    rw [idx, if_pos h]
  | q :: l, j + 1, h, hn => by
    have h0 : q ≠ p := fun z => hn 0 (by omega) (by simp [z])
    rw [idx, if_neg h0, idx_eq (l := l) (j := j) (by simpa using h) fun m hm => by
      have := hn (m + 1) (by omega)
      simpa using this]
theorem idx_mem {p : Pt} : ∀ {l : List Pt}, p ∈ l → l[idx p l]? = some p ∧ ∀ m, m < idx p l → l[m]? ≠ some p
  | q :: l, h => by
    rw [idx]
    by_cases e : q = p
    · rw [if_pos e]
      exact ⟨by simp [e], fun m hm => absurd hm (Nat.not_lt_zero _)⟩
    · rw [if_neg e]
      obtain ⟨h1, h2⟩ := idx_mem (l := l) ((List.mem_cons.mp h).resolve_left fun z => e z.symm)
      refine ⟨by simpa using h1, fun m hm => ?_⟩
      cases m with
      | zero => simpa using e
      | succ m => simpa using h2 m (by omega)
/-! the order of points -/
def ltPt (p q : Pt) : Prop := p.1 < q.1 ∨ (p.1 = q.1 ∧ p.2 < q.2)
instance (p q : Pt) : Decidable (ltPt p q) := by unfold ltPt; infer_instance
theorem dataLt_pt (p q : Pt) : dataLt (Datum.toD p) (Datum.toD q) = decide (ltPt p q) := dataLt_ii p.1 p.2 q.1 q.2
theorem dataLe_pt (p q : Pt) : dataLe false Datum.toD p q = decide (¬ ltPt q p) := by
  show (!dataLt (Datum.toD q) (Datum.toD p)) = _
  rw [dataLt_pt, decide_not]
theorem ltPt_tri {p q : Pt} (h1 : ¬ ltPt p q) (h2 : ¬ ltPt q p) : p = q := by
  unfold ltPt at h1 h2
  exact Prod.ext (by omega) (by omega)
theorem leP_trans (p q r : Pt) (h1 : dataLe false Datum.toD p q = true) (h2 : dataLe false Datum.toD q r = true) : dataLe false Datum.toD p r = true := by
  rw [dataLe_pt] at h1 h2 ⊢
  have h1 := of_decide_eq_true h1
  have h2 := of_decide_eq_true h2
  refine decide_eq_true ?_
  unfold ltPt at *
  omega
theorem leP_total (p q : Pt) : (dataLe false Datum.toD p q || dataLe false Datum.toD q p) = true := by
  rw [dataLe_pt, dataLe_pt]
  by_cases h : ltPt q p
  · have h2 : ¬ ltPt p q := by unfold ltPt at *; omega
    simp [h, h2]
  · simp [h]
theorem perm_sorted {α : Type} {le : α → α → Bool} (anti : ∀ x y, le x y = true → le y x = true → x = y) : ∀ {a b : List α}, a.Perm b → a.Pairwise (fun x y => le x y = true) → b.Pairwise (fun x y => le x y = true) → a = b
  | [], b, h, _, _ => (List.nil_perm.mp h).symm
  | x :: a, [], h, _, _ => absurd h.length_eq (by simp)
  | x :: a, y :: b, h, ha, hb => by
    obtain ⟨a1, a2⟩ := List.pairwise_cons.mp ha
    obtain ⟨b1, b2⟩ := List.pairwise_cons.mp hb
    have e : x = y := by
      rcases List.mem_cons.mp (h.mem_iff.mp List.mem_cons_self) with e | hx
      · exact e
      · rcases List.mem_cons.mp (h.mem_iff.mpr List.mem_cons_self) with e | hy
        · exact e.symm
        · exact anti x y (a1 y hy) (b1 x hx)
    subst e
    rw [perm_sorted anti h.cons_inv a2 b2]
theorem sort_perm {a b : List Pt} (h : a.Perm b) : sortH a = sortH b := by
  refine perm_sorted (le := dataLe false Datum.toD) (fun x y h1 h2 => ?_) (((List.mergeSort_perm a _).trans h).trans (List.mergeSort_perm b _).symm) (List.pairwise_mergeSort leP_trans leP_total a) (List.pairwise_mergeSort leP_trans leP_total b)
  rw [dataLe_pt] at h1 h2
  exact ltPt_tri (of_decide_eq_true h2) (of_decide_eq_true h1)
theorem alike_pt (p q : Pt) : alike (Datum.toD p) (Datum.toD q) = true := by
  show alike (.tuple [.int p.1, .int p.2]) (.tuple [.int q.1, .int q.2]) = true
  simp [alike, alikeAll]
theorem allAlike_pts (ps : List Pt) : AllAlike (ps.map Datum.toD) := by
  intro d hd d' hd'
  obtain ⟨p, _, rfl⟩ := List.mem_map.mp hd
  obtain ⟨q, _, rfl⟩ := List.mem_map.mp hd'
  exact alike_pt p q
theorem sortable_pts (ps : List Pt) : PySem.W.Sortable (ps.map Datum.toD) := by
  refine .inl fun d hd => ?_
  obtain ⟨p, _, rfl⟩ := List.mem_map.mp hd
  exact ⟨.int p.1, [.int p.2], rfl⟩
/-! segments -/
def trnP (a b c : Pt) : Int := (b.1 - a.1) * (c.2 - b.2) - (b.2 - a.2) * (c.1 - b.1)
def inB (x l h : Int) : Bool := decide (min l h ≤ x) && decide (x ≤ max l h)
def onP (p a b : Pt) : Bool := decide (trnP a b p = 0) && (inB p.1 a.1 b.1 && inB p.2 a.2 b.2)
/-- as the laws say it -/
def meetL (a b c d : Pt) : Bool := (onP a c d || (onP b c d || (onP c a b || onP d a b))) || (decide (decide (trnP a b c > 0) ≠ decide (trnP a b d > 0)) && decide (decide (trnP c d a > 0) ≠ decide (trnP c d b > 0)))
/-- as the program says it -/
def meetP (a b c d : Pt) : Bool := (decide (trnP a b c * trnP a b d < 0) && decide (trnP c d a * trnP c d b < 0)) || (onP c a b || (onP d a b || (onP a c d || onP b c d)))
theorem inB_iff {x l h : Int} : inB x l h = true ↔ min l h ≤ x ∧ x ≤ max l h := by
  unfold inB
  rw [Bool.and_eq_true, decide_eq_true_iff, decide_eq_true_iff]
/-- not of one sign, not both 0 -/
def Opp (t s : Int) : Prop := (0 ≤ t ∧ s ≤ 0 ∧ (t ≠ 0 ∨ s ≠ 0)) ∨ (t ≤ 0 ∧ 0 ≤ s ∧ (t ≠ 0 ∨ s ≠ 0))
theorem opp_dec {t s : Int} (h : ¬ decide (t > 0) = decide (s > 0)) : Opp t s := by
  unfold Opp
  by_cases h1 : t > 0 <;> by_cases h2 : s > 0
  · exact absurd (by rw [decide_eq_true h1, decide_eq_true h2]) h
  · omega
  · omega
  · exact absurd (by rw [decide_eq_false h1, decide_eq_false h2]) h
theorem opp1 {t s u v : Int} (ht : 0 ≤ t) (hs : s ≤ 0) (hn : t ≠ 0 ∨ s ≠ 0) (e : t * u = s * v) : ¬ (0 < u ∧ 0 < v) ∧ ¬ (u < 0 ∧ v < 0) := by
  by_cases h0 : t = 0
  · subst h0
    rw [Int.zero_mul] at e
    rcases Int.mul_eq_zero.mp e.symm with z | z
    · omega
    · omega
  have ht : 0 < t := by omega
  constructor
  · rintro ⟨hu, hv⟩
    have h1 : 0 < t * u := Int.mul_pos ht hu
    have h2 : s * v ≤ 0 := Int.mul_nonpos_of_nonpos_of_nonneg hs (by omega)
    omega
  · rintro ⟨hu, hv⟩
    have h1 : t * u < 0 := Int.mul_neg_of_pos_of_neg ht hu
    have h2 : 0 ≤ s * v := Int.mul_nonneg_of_nonpos_of_nonpos hs (by omega)
    omega
theorem opp2 {t s u v : Int} (h : Opp t s) (e : t * u = s * v) : ¬ (0 < u ∧ 0 < v) ∧ ¬ (u < 0 ∧ v < 0) := by
  rcases h with ⟨h1, h2, h3⟩ | ⟨h1, h2, h3⟩
  · exact opp1 h1 h2 h3 e
  · have := opp1 h2 h1 (by omega) e.symm
    omega
theorem side1 (a b c d : Pt) : trnP c d a * (b.1 - c.1) - trnP c d b * (a.1 - c.1) = -(trnP a b c * (d.1 - c.1)) := by
  unfold trnP; grind
theorem side2 (a b c d : Pt) : trnP c d a * (b.2 - c.2) - trnP c d b * (a.2 - c.2) = -(trnP a b c * (d.2 - c.2)) := by
  unfold trnP; grind
theorem on_of_sides {a b c d : Pt} (h0 : trnP a b c = 0) (h : Opp (trnP c d a) (trnP c d b)) : onP c a b = true := by
  have e1 := side1 a b c d
  have e2 := side2 a b c d
  rw [h0, Int.zero_mul] at e1 e2
  have k1 := opp2 h (u := b.1 - c.1) (v := a.1 - c.1) (by omega)
  have k2 := opp2 h (u := b.2 - c.2) (v := a.2 - c.2) (by omega)
  unfold onP
  rw [h0, decide_eq_true rfl, Bool.true_and, Bool.and_eq_true, inB_iff, inB_iff]
  omega
theorem trn_cyc (a b c : Pt) : trnP b a c = -trnP a b c := by
  unfold trnP; grind
theorem inB_swap (x l h : Int) : inB x h l = inB x l h := by
  unfold inB
  rw [Int.min_comm, Int.max_comm]
theorem onP_swap (p a b : Pt) : onP p b a = onP p a b := by
  unfold onP
  rw [inB_swap, inB_swap p.2, trn_cyc]
  congr 1
  exact decide_eq_decide.mpr (by omega)
theorem neg_of_opp {t s : Int} (h : Opp t s) (h1 : t ≠ 0) (h2 : s ≠ 0) : t * s < 0 := by
  rcases h with ⟨a, b, _⟩ | ⟨a, b, _⟩
  · exact Int.mul_neg_of_pos_of_neg (by omega) (by omega)
  · exact Int.mul_neg_of_neg_of_pos (by omega) (by omega)
theorem opp_of_neg {t s : Int} (h : t * s < 0) : ¬ decide (t > 0) = decide (s > 0) := by
  intro e
  by_cases h1 : t > 0 <;> by_cases h2 : s > 0
  · have := Int.mul_pos h1 h2; omega
  · rw [decide_eq_true h1, decide_eq_false h2] at e; cases e
  · rw [decide_eq_false h1, decide_eq_true h2] at e; cases e
  · have := Int.mul_nonneg_of_nonpos_of_nonpos (show t ≤ 0 by omega) (show s ≤ 0 by omega); omega
theorem meet_eq (a b c d : Pt) : meetL a b c d = meetP a b c d := by
  unfold meetL meetP
  cases h1 : onP c a b with
  | true => simp
  | false =>
  cases h2 : onP d a b with
  | true => simp
  | false =>
  cases h3 : onP a c d with
  | true => simp
  | false =>
  cases h4 : onP b c d with
  | true => simp
  | false =>
  simp only [Bool.or_self, Bool.false_or, Bool.or_false]
  rw [Bool.eq_iff_iff, Bool.and_eq_true, Bool.and_eq_true, decide_eq_true_iff, decide_eq_true_iff, decide_eq_true_iff, decide_eq_true_iff]
  constructor
  · rintro ⟨hx, hy⟩
    have ox := opp_dec hx
    have oy := opp_dec hy
    have n1 : trnP a b c ≠ 0 := fun z => by rw [on_of_sides z oy] at h1; cases h1
    have n2 : trnP a b d ≠ 0 := fun z => by
      rw [on_of_sides z (d := c) (by rw [trn_cyc c d a, trn_cyc c d b]; unfold Opp at oy ⊢; omega)] at h2; cases h2
    have n3 : trnP c d a ≠ 0 := fun z => by rw [on_of_sides z ox] at h3; cases h3
    have n4 : trnP c d b ≠ 0 := fun z => by
      rw [on_of_sides z (d := a) (by rw [trn_cyc a b c, trn_cyc a b d]; unfold Opp at ox ⊢; omega)] at h4; cases h4
    exact ⟨neg_of_opp ox n1 n2, neg_of_opp oy n3 n4⟩
  · rintro ⟨hx, hy⟩
    exact ⟨opp_of_neg hx, opp_of_neg hy⟩
end G

/-! ### closed paths: turns, meetings, areas, the corners as they are kept -/
namespace G
open PySem PySem.Spec PyProof.Rows L2
def trn (a b c : Pt) : Int := crs (dif b a) (dif c b)
def tri0 (ps : List Pt) (i : Nat) : Int := trn (prv ps i) (atC ps i) (nxt ps i)
def btw1 (x l h : Int) : Bool := decide (min l h ≤ x) && decide (x ≤ max l h)
def btw (p a b : Pt) : Bool := btw1 p.1 a.1 b.1 && btw1 p.2 a.2 b.2
def onS (p a b : Pt) : Bool := decide (trn a b p = 0) && btw p a b
theorem trn_bd {a b c : Pt} (ha : PBd 40000 a) (hb : PBd 40000 b) (hc : PBd 40000 c) : Bd 90000 (trn a b c) := by
  have h1 := hb.dif ha
  have h2 := hc.dif hb
  exact ((h1.1.mul h2.2).sub (h1.2.mul h2.1)).mono (by decide)
def meetS (a b c d : Pt) : Bool := (decide (trn a b c * trn a b d < 0) && decide (trn c d a * trn c d b < 0)) || (onS c a b || (onS d a b || (onS a c d || onS b c d)))
abbrev Ed := Pt × Pt
def edgs (ps : List Pt) : List Ed := (List.range ps.length).map fun i => (atC ps i, nxt ps i)
def crossB (ps : List Pt) (i j : Nat) : Bool := decide ((j + 1) % ps.length ≠ i) && meetS (atC ps i) (nxt ps i) (atC ps j) (nxt ps j)
def areaL (es : List Ed) : Int := (es.map fun e => crs e.1 e.2).sum
theorem edgs_cons2 (p : Pt) (l : List Pt) : edgs (p :: l) = cons2 (p :: l ++ [p]) := by
  have hl : (edgs (p :: l)).length = l.length + 1 := by unfold edgs; rw [List.length_map, List.length_range, List.length_cons]
  have hc : (cons2 (p :: l ++ [p])).length = l.length + 1 := by rw [cons2_len]; simp
  refine List.ext_getElem? fun i => ?_
  rcases Nat.lt_or_ge i (l.length + 1) with hi | hi
  · have e1 : (edgs (p :: l))[i]? = some (atC (p :: l) i, nxt (p :: l) i) := by
      unfold edgs; rw [List.getElem?_map, List.getElem?_range (by simpa using hi)]; rfl
    rw [e1]
    refine (cons2_get _ i _ _ ?_ ?_).symm
    · rw [List.getElem?_append_left (by simpa using hi)]
      exact atC_get (by simpa using hi)
    · unfold nxt
      rcases Nat.lt_or_ge (i + 1) (l.length + 1) with h | h
      · rw [List.getElem?_append_left (by simpa using h), Nat.mod_eq_of_lt (by simpa using h)]
        exact atC_get (by simpa using h)
      · obtain rfl : i = l.length := by omega
        rw [List.getElem?_append_right (by simp), List.length_cons, Nat.mod_self]
        simp [atC]
  · rw [List.getElem?_eq_none (by omega), List.getElem?_eq_none (by omega)]
theorem area_are (ps : List Pt) : areaL (edgs ps) = are ps := by
  cases ps with
  | nil => rfl
  | cons p l =>
    unfold areaL
    rw [edgs_cons2]
    exact (pth_cons2 (p :: l ++ [p])).symm
def spn (ps : List Pt) : List Pt := if 0 < are ps then ps else ps.reverse
def minPt : List Pt → Pt
  | [] => (0, 0)
  | p :: qs => minP p qs
def arr (ps : List Pt) : List Pt := rot (idx (minPt (spn ps)) (spn ps)) (spn ps)
theorem spn_len (ps : List Pt) : (spn ps).length = ps.length := by
  unfold spn; split
  · rfl
  · exact List.length_reverse
theorem arr_len (ps : List Pt) : (arr ps).length = ps.length := by
  unfold arr
  rw [(rot_perm _ _).length_eq, spn_len]
theorem spn_perm (ps : List Pt) : (spn ps).Perm ps := by
  unfold spn; split
  · exact List.Perm.refl _
  · exact List.reverse_perm ps
theorem arr_perm (ps : List Pt) : (arr ps).Perm ps := (rot_perm _ _).trans (spn_perm ps)
theorem arr_are (ps : List Pt) : are (arr ps) = ((are ps).natAbs : Int) := by
  unfold arr
  rw [are_rotj]
  unfold spn
  split
  · omega
  · rw [are_rev]; omega
theorem arr_bd {n : Nat} {ps : List Pt} (h : AllBd n ps) : AllBd n (arr ps) := fun p hp => h p ((arr_perm ps).mem_iff.mp hp)
theorem minP_mem : ∀ (qs : List Pt) (p : Pt), minP p qs ∈ p :: qs
  | [], p => List.mem_cons_self
  | y :: qs, p => by
    have h := minP_mem qs (if PySem.W.dataLt (PySem.W.Datum.toD y) (PySem.W.Datum.toD p) then y else p)
    show minP (if PySem.W.dataLt (PySem.W.Datum.toD y) (PySem.W.Datum.toD p) then y else p) qs ∈ _
    rcases List.mem_cons.mp h with h | h
    · rw [h]
      split
      · exact List.mem_cons_of_mem _ List.mem_cons_self
      · exact List.mem_cons_self
    · exact List.mem_cons_of_mem _ (List.mem_cons_of_mem _ h)
inductive Cin where
  | pts (ps : List Pt)
  | bad (o : Option Nat)
def posV : Option Nat → V
  | none => .non
  | some i => .int (i : Int)
def NoDeg (ps : List Pt) : Prop := ∀ i, i < ps.length → tri0 ps i ≠ 0
def DegAt (ps : List Pt) (i : Nat) : Prop := i < ps.length ∧ tri0 ps i = 0 ∧ ∀ j, j < i → tri0 ps j ≠ 0
def CrsAt (ps : List Pt) (i j : Nat) : Prop := NoDeg ps ∧ i + 2 ≤ j ∧ j < ps.length ∧ crossB ps i j = true ∧ ∀ i' j', i' + 2 ≤ j' → j' < ps.length → (i' < i ∨ (i' = i ∧ j' < j)) → crossB ps i' j' = false
def Good (ps : List Pt) : Prop := NoDeg ps ∧ ∀ i j, i + 2 ≤ j → j < ps.length → crossB ps i j = false
def reflex (ps : List Pt) : Option Nat := (List.range ps.length).find? fun i => decide (tri0 ps i < 0)
theorem reflex_none {ps : List Pt} (h : ∀ i, i < ps.length → ¬ tri0 ps i < 0) : reflex ps = none := by
  unfold reflex
  rw [List.find?_eq_none]
  intro i hi
  simpa using h i (List.mem_range.mp hi)
theorem find_range {p : Nat → Bool} : ∀ {n i : Nat}, i < n → p i = true → (∀ j, j < i → p j = false) → (List.range n).find? p = some i := by
  intro n i hi h1 h2
  rw [List.find?_eq_some_iff_getElem]
  exact ⟨h1, i, by simpa using hi, by simp, fun j hj => by simp [h2 j hj]⟩
theorem reflex_some {ps : List Pt} {i : Nat} (hi : i < ps.length) (h : tri0 ps i < 0) (hn : ∀ j, j < i → ¬ tri0 ps j < 0) : reflex ps = some i :=
  find_range hi (decide_eq_true h) fun j hj => decide_eq_false (hn j hj)
theorem r_mid {te : TE} {σ : L2.St} {H : Hp} {Q : VK} (M : V → Hp → Prop) (h1 : ∀ Q' : VK, (∀ v H1, M v H1 → Q' v H1) → te σ H Q') (h2 : ∀ v H1, M v H1 → Q v H1) : te σ H Q := h1 Q h2
theorem r_chain {r r' : R2} {ta tb tc : TE} {σ : L2.St} {H : Hp} {Q : VK} (q : ta σ H fun x H1 => tb σ H1 fun y H2 => r x y H2 fun z H3 => ∃ k, z = .bl k ∧ (if k = true then tc σ H3 fun w' H4 => r' y w' H4 Q else Q (.bl false) H3)) : tChain r r' ta tb tc σ H Q := q
theorem if_ff {A B : Prop} (h : B) : if false = true then A else B := h
def co (p : Pt) (i : Nat) : Int := if i = 0 then p.1 else p.2
theorem at_co (p : Pt) {i : Nat} (h : i < 2) : atI [V.int p.1, V.int p.2] (i : Int) = some (.int (co p i)) := by
  rcases (show i = 0 ∨ i = 1 by omega) with rfl | rfl <;> rfl
theorem meetS_eq (a b c d : Pt) : meetS a b c d = meetL a b c d := (meet_eq a b c d).symm
theorem dec_bl (x y : Bool) : decide (V.bl x = V.bl y) = decide (x = y) := by
  cases x <;> cases y <;> rfl
theorem meet_on {a b c d : Pt} (h : onS a c d = true ∨ onS b c d = true ∨ onS c a b = true ∨ onS d a b = true) : meetS a b c d = true := by
  unfold meetS
  rcases h with h | h | h | h <;> simp [h]
theorem meet_off {a b c d : Pt} (h1 : onS a c d = false) (h2 : onS b c d = false) (h3 : onS c a b = false) (h4 : onS d a b = false) : meetS a b c d = (decide (decide (trnP a b c > 0) ≠ decide (trnP a b d > 0)) && decide (decide (trnP c d a > 0) ≠ decide (trnP c d b > 0))) := by
  rw [meetS_eq]
  unfold meetL
  rw [show onP a c d = false from h1, show onP b c d = false from h2, show onP c a b = false from h3, show onP d a b = false from h4]
  rfl
inductive Outc where
  | ok
  | deg (i : Nat)
  | crs (i j : Nat)
def OutIs (ps : List Pt) : Outc → Prop
  | .ok => Good ps
  | .deg i => DegAt ps i
  | .crs i j => CrsAt ps i j
theorem out_uniq {ps : List Pt} : ∀ {o o' : Outc}, OutIs ps o → OutIs ps o' → o = o' := by
  intro o o' h h'
  cases o with
  | ok =>
    cases o' with
    | ok => rfl
    | deg i => exact absurd h'.2.1 (h.1 i h'.1)
    | crs i j => have := h.2 i j h'.2.1 h'.2.2.1; rw [h'.2.2.2.1] at this; cases this
  | deg i =>
    cases o' with
    | ok => exact absurd h.2.1 (h'.1 i h.1)
    | deg j =>
      rcases Nat.lt_trichotomy i j with z | rfl | z
      · exact absurd h.2.1 (h'.2.2 i z)
      · rfl
      · exact absurd h'.2.1 (h.2.2 j z)
    | crs j k => exact absurd h.2.1 (h'.1 i h.1)
  | crs i j =>
    cases o' with
    | ok => have := h'.2 i j h.2.1 h.2.2.1; rw [h.2.2.2.1] at this; cases this
    | deg k => exact absurd h'.2.1 (h.1 k h'.1)
    | crs i' j' =>
      have no : ¬ (i' < i ∨ (i' = i ∧ j' < j)) := fun z => by
        have := h.2.2.2.2 i' j' h'.2.1 h'.2.2.1 z; rw [h'.2.2.2.1] at this; cases this
      have no' : ¬ (i < i' ∨ (i = i' ∧ j < j')) := fun z => by
        have := h'.2.2.2.2 i j h.2.1 h.2.2.1 z; rw [h.2.2.2.1] at this; cases this
      have e1 : i = i' := by omega
      have e2 : j = j' := by omega
      rw [e1, e2]
def outD : Outc → PyData
  | .ok => .list [.str "none"]
  | .deg i => .list [.str "degenerate", .int (i : Int)]
  | .crs i j => .list [.str "crossing", .int (i : Int), .int (j : Int)]
def lawArea (ps : List Pt) (n : Nat) : Int := ((List.range n).map fun j => crs (prv ps j) (atC ps j)).sum
theorem lawArea_succ (ps : List Pt) (n : Nat) : lawArea ps (n + 1) = lawArea ps n + crs (prv ps n) (atC ps n) := by
  unfold lawArea
  rw [List.range_succ, List.map_append, List.sum_append]
  simp
theorem lawArea_eq (ps : List Pt) (h : 0 < ps.length) : lawArea ps ps.length = are ps := by
  have hne : ps ≠ [] := fun z => by subst z; simp at h
  obtain ⟨l, p, rfl⟩ : ∃ l p, ps = l ++ [p] := ⟨ps.dropLast, ps.getLast hne, (List.dropLast_concat_getLast hne).symm⟩
  have key : (List.range (l ++ [p]).length).map (fun j => (prv (l ++ [p]) j, atC (l ++ [p]) j)) = cons2 (p :: (l ++ [p])) := by
    refine List.ext_getElem? fun i => ?_
    have hlen : (l ++ [p]).length = l.length + 1 := by simp
    rcases Nat.lt_or_ge i (l.length + 1) with hi | hi
    · rw [List.getElem?_map, List.getElem?_range (by omega)]
      refine (cons2_get _ i _ _ ?_ ?_).symm
      · unfold prv
        rw [hlen]
        cases i with
        | zero =>
          rw [show (0 + (l.length + 1) - 1) % (l.length + 1) = l.length from by rw [Nat.zero_add, Nat.add_sub_cancel]; exact Nat.mod_eq_of_lt (Nat.lt_succ_self _)]
          rw [atC_of (p := p) (by simp)]; rfl
        | succ i =>
          rw [show (i + 1 + (l.length + 1) - 1) % (l.length + 1) = i from by
            rw [show i + 1 + (l.length + 1) - 1 = i + (l.length + 1) by omega, Nat.add_mod_right]; exact Nat.mod_eq_of_lt (by omega)]
          rw [List.getElem?_cons_succ]
          exact atC_get (by omega)
      · rw [List.getElem?_cons_succ]
        exact atC_get (by omega)
    · rw [List.getElem?_eq_none (by rw [List.length_map, List.length_range]; omega), List.getElem?_eq_none (by rw [cons2_len, List.length_cons]; omega)]
  have e : lawArea (l ++ [p]) (l ++ [p]).length = ((cons2 (p :: (l ++ [p]))).map fun e => crsP e.1 e.2).sum := by
    rw [← key, List.map_map]; rfl
  rw [e, ← pth_cons2, are_rot1]; rfl
theorem dr_put {H : Hp} {l D : Addr} {o : HO} (d : DrAt H l) (ne : D ≠ l) : DrAt (upd H D o) l := by
  obtain ⟨a, b, h, r⟩ := d
  exact ⟨a, b, by rw [upd_ne ne.symm]; exact h, r⟩
end G

/-! ### grid maps as six integers -/
namespace G
open PySem PySem.Spec PyProof.Rows L2
structure M6 where
  a : Int
  b : Int
  c : Int
  d : Int
  e : Int
  f : Int
deriving DecidableEq
namespace M6
def det (m : M6) : Int := m.a * m.d - m.b * m.c
def Ok (m : M6) : Prop := m.det = 1 ∨ m.det = -1
def nums (m : M6) : List Int := [m.a, m.b, m.c, m.d, m.e, m.f]
def vals (m : M6) : List V := [.int m.a, .int m.b, .int m.c, .int m.d, .int m.e, .int m.f]
def one : M6 := ⟨1, 0, 0, 1, 0, 0⟩
/-- first m, then n -/
def comp (m n : M6) : M6 := ⟨n.a * m.a + n.b * m.c, n.a * m.b + n.b * m.d, n.c * m.a + n.d * m.c, n.c * m.b + n.d * m.d, n.a * m.e + n.b * m.f + n.e, n.c * m.e + n.d * m.f + n.f⟩
def inv (m : M6) : M6 := ⟨m.det * m.d, -m.det * m.b, -m.det * m.c, m.det * m.a, -(m.det * m.d * m.e + -m.det * m.b * m.f), -(-m.det * m.c * m.e + m.det * m.a * m.f)⟩
def pow (m : M6) : Nat → M6
  | 0 => one
  | k + 1 => (m.pow k).comp m
def img (m : M6) (p : Int × Int) : Int × Int := (m.a * p.1 + m.b * p.2 + m.e, m.c * p.1 + m.d * p.2 + m.f)
theorem ext' {m n : M6} (h : m.nums = n.nums) : m = n := by
  cases m; cases n
  simp only [nums, List.cons.injEq, and_true] at h
  obtain ⟨h1, h2, h3, h4, h5, h6⟩ := h
  subst h1 h2 h3 h4 h5 h6
  rfl
theorem det_comp (m n : M6) : (m.comp n).det = m.det * n.det := by
  simp only [det, comp]; grind
theorem ok_comp {m n : M6} (h : m.Ok) (k : n.Ok) : (m.comp n).Ok := by
  unfold Ok at *
  rw [det_comp]
  rcases h with h | h <;> rcases k with k | k <;> rw [h, k] <;> decide
theorem ok_sq {m : M6} (h : m.Ok) : m.det * m.det = 1 := by
  rcases h with h | h <;> rw [h] <;> decide
theorem det_inv (m : M6) : m.inv.det = m.det * m.det * m.det := by
  have : m.inv.det = m.det * m.det * (m.a * m.d - m.b * m.c) := by
    simp only [det, inv]; grind
  rw [this]; rfl
theorem ok_inv {m : M6} (h : m.Ok) : m.inv.Ok := by
  unfold Ok
  rw [det_inv, ok_sq h]
  rcases h with h | h <;> rw [h] <;> decide
theorem ok_one : one.Ok := .inl rfl
theorem comp_one (m : M6) : m.comp one = m := by
  cases m; simp [comp, one]
theorem one_comp (m : M6) : one.comp m = m := by
  cases m; simp [comp, one]
theorem comp_assoc (m n k : M6) : (m.comp n).comp k = m.comp (n.comp k) := by
  simp only [comp, mk.injEq]; refine ⟨?_, ?_, ?_, ?_, ?_, ?_⟩ <;> grind
theorem comp_inv {m : M6} (h : m.Ok) : m.comp m.inv = one := by
  have hd := ok_sq h
  simp only [comp, inv, one, mk.injEq]
  generalize e : m.det = s at *
  simp only [det] at e
  refine ⟨?_, ?_, ?_, ?_, ?_, ?_⟩ <;> grind
theorem inv_comp {m : M6} (h : m.Ok) : m.inv.comp m = one := by
  have hd := ok_sq h
  simp only [comp, inv, one, mk.injEq]
  generalize e : m.det = s at *
  simp only [det] at e
  refine ⟨?_, ?_, ?_, ?_, ?_, ?_⟩ <;> grind
theorem ok_pow {m : M6} (h : m.Ok) : ∀ k, (m.pow k).Ok
  | 0 => ok_one
  | k + 1 => ok_comp (ok_pow h k) h
theorem pow_one (m : M6) : m.pow 1 = m := one_comp m
theorem pow_add (m : M6) (i : Nat) : ∀ j, m.pow (i + j) = (m.pow i).comp (m.pow j)
  | 0 => (comp_one _).symm
  | j + 1 => by
    show (m.pow (i + j)).comp m = _
    rw [pow_add m i j, comp_assoc]
    rfl
theorem pow_sq (m : M6) : ∀ k, (m.comp m).pow k = m.pow (2 * k)
  | 0 => rfl
  | k + 1 => by
    show ((m.comp m).pow k).comp (m.comp m) = _
    rw [pow_sq m k, ← comp_assoc]
    rfl
/-- c first, then m, then back -/
def conj (c m : M6) : M6 := (c.comp m).comp c.inv
theorem ok_conj {c m : M6} (h : c.Ok) (k : m.Ok) : (c.conj m).Ok := ok_comp (ok_comp h k) (ok_inv h)
theorem conj_pow {c m : M6} (h : c.Ok) : ∀ k, (c.conj m).pow k = c.conj (m.pow k)
  | 0 => by
    show one = (c.comp one).comp c.inv
    rw [comp_one, comp_inv h]
  | k + 1 => by
    show ((c.conj m).pow k).comp (c.conj m) = _
    rw [conj_pow h k]
    show ((c.comp (m.pow k)).comp c.inv).comp ((c.comp m).comp c.inv) = (c.comp ((m.pow k).comp m)).comp c.inv
    rw [comp_assoc _ c.inv, ← comp_assoc c.inv, ← comp_assoc c.inv, inv_comp h, one_comp, ← comp_assoc, ← comp_assoc]
theorem conj_one {c m : M6} (h : c.Ok) : c.conj m = one ↔ m = one := by
  constructor
  · intro e
    have e2 : c.inv.comp ((c.conj m).comp c) = m := by
      show c.inv.comp (((c.comp m).comp c.inv).comp c) = m
      rw [comp_assoc _ c.inv, inv_comp h, comp_one, ← comp_assoc, inv_comp h, one_comp]
    rw [← e2, e, one_comp, inv_comp h]
  · rintro rfl
    show (c.comp one).comp c.inv = one
    rw [comp_one, comp_inv h]
/-! the least exponent up to n -/
def ordN (m : M6) : Nat → Nat → Option Nat
  | 0, _ => none
  | n + 1, k => if m.pow k = one then some k else ordN m n (k + 1)
theorem ordN_conj {c m : M6} (h : c.Ok) : ∀ n k, (c.conj m).ordN n k = m.ordN n k
  | 0, _ => rfl
  | n + 1, k => by
    unfold ordN
    rw [conj_pow h, ordN_conj h n]
    by_cases e : m.pow k = one
    · rw [if_pos e, if_pos ((conj_one h).mpr e)]
    · rw [if_neg e, if_neg (fun z => e ((conj_one h).mp z))]
theorem ordN_none {m : M6} : ∀ {n k}, (∀ j, k ≤ j → j < k + n → m.pow j ≠ one) → m.ordN n k = none
  | 0, _, _ => rfl
  | n + 1, k, h => by
    unfold ordN
    rw [if_neg (h k (Nat.le_refl _) (by omega))]
    exact ordN_none fun j h1 h2 => h j (by omega) (by omega)
theorem ordN_more {m : M6} : ∀ {n k p}, (∃ j, k ≤ j ∧ j < k + n ∧ m.pow j = one) → m.ordN (n + p) k = m.ordN n k
  | 0, k, p, ⟨j, h1, h2, _⟩ => by omega
  | n + 1, k, p, ⟨j, h1, h2, h3⟩ => by
    rw [show n + 1 + p = (n + p) + 1 by omega]
    unfold ordN
    by_cases e : m.pow k = one
    · rw [if_pos e, if_pos e]
    · rw [if_neg e, if_neg e]
      refine ordN_more ⟨j, ?_, by omega, h3⟩
      rcases Nat.lt_or_ge k j with h | h
      · exact h
      · have : j = k := by omega
        subst this
        exact absurd h3 e
/-! finite orders of integer maps -/
def us (t d : Int) : Nat → Int
  | 0 => 0
  | 1 => 1
  | k + 2 => t * us t d (k + 1) - d * us t d k
theorem lin_pow (m : M6) : ∀ k, (m.pow (k + 1)).a = us (m.a + m.d) m.det (k + 1) * m.a - m.det * us (m.a + m.d) m.det k ∧ (m.pow (k + 1)).b = us (m.a + m.d) m.det (k + 1) * m.b ∧
    (m.pow (k + 1)).c = us (m.a + m.d) m.det (k + 1) * m.c ∧ (m.pow (k + 1)).d = us (m.a + m.d) m.det (k + 1) * m.d - m.det * us (m.a + m.d) m.det k
  | 0 => by
    rw [pow_one]
    simp [us]
  | k + 1 => by
    obtain ⟨h1, h2, h3, h4⟩ := lin_pow m k
    have e : m.pow (k + 1 + 1) = (m.pow (k + 1)).comp m := rfl
    have u : us (m.a + m.d) m.det (k + 1 + 1) = (m.a + m.d) * us (m.a + m.d) m.det (k + 1) - m.det * us (m.a + m.d) m.det k := rfl
    rw [e, u]
    simp only [comp]
    rw [h1, h2, h3, h4]
    generalize us (m.a + m.d) m.det (k + 1) = x
    generalize us (m.a + m.d) m.det k = y
    simp only [det]
    refine ⟨?_, ?_, ?_, ?_⟩ <;> grind
theorem us_far {t : Int} (ht : t ≤ -2 ∨ 2 ≤ t) : ∀ k, (us t 1 k).natAbs < (us t 1 (k + 1)).natAbs
  | 0 => by show (0 : Int).natAbs < (1 : Int).natAbs; decide
  | k + 1 => by
    have h := us_far ht k
    show (us t 1 (k + 1)).natAbs < (t * us t 1 (k + 1) - 1 * us t 1 k).natAbs
    generalize us t 1 (k + 1) = x at *
    generalize us t 1 k = y at *
    have h2 : 2 * x.natAbs ≤ (t * x).natAbs := by
      rw [Int.natAbs_mul]
      exact Nat.mul_le_mul_right _ (by omega)
    omega
theorem us_neg {t : Int} (ht : t ≠ 0) : ∀ k, us t (-1) (k + 1) ≠ 0 ∧ 0 ≤ t * (us t (-1) (k + 1) * us t (-1) k)
  | 0 => ⟨by show (1 : Int) ≠ 0; decide, by show 0 ≤ t * (1 * 0); omega⟩
  | k + 1 => by
    obtain ⟨h1, h2⟩ := us_neg ht k
    have u : us t (-1) (k + 1 + 1) = t * us t (-1) (k + 1) - -1 * us t (-1) k := rfl
    rw [u]
    generalize us t (-1) (k + 1) = x at *
    generalize us t (-1) k = y at *
    have e : t * ((t * x - -1 * y) * x) = (t * x) * (t * x) + t * (x * y) := by grind
    have p : 0 < (t * x) * (t * x) := by
      have hne : t * x ≠ 0 := Int.mul_ne_zero ht h1
      rcases Int.lt_or_gt_of_ne hne with g | g
      · exact Int.mul_pos_of_neg_of_neg g g
      · exact Int.mul_pos g g
    have e2 : 0 < t * ((t * x - -1 * y) * x) := by omega
    refine ⟨fun z => ?_, by omega⟩
    rw [z] at e2
    simp at e2
theorem tr_pow {e f : Int} : ∀ k : Nat, (M6.mk 1 0 0 1 e f).pow k = ⟨1, 0, 0, 1, k * e, k * f⟩
  | 0 => by simp [pow, one]
  | k + 1 => by
    show ((M6.mk 1 0 0 1 e f).pow k).comp ⟨1, 0, 0, 1, e, f⟩ = _
    rw [tr_pow k]
    simp only [comp, mk.injEq]
    refine ⟨by omega, by omega, by omega, by omega, ?_, ?_⟩
    · push_cast; grind
    · push_cast; grind
theorem tr_fin {e f : Int} {k : Nat} (h : (M6.mk 1 0 0 1 e f).pow (k + 1) = one) : e = 0 ∧ f = 0 := by
  rw [tr_pow] at h
  simp only [one, mk.injEq] at h
  obtain ⟨_, _, _, _, h5, h6⟩ := h
  rcases Int.mul_eq_zero.mp h5 with z | z
  · omega
  · rcases Int.mul_eq_zero.mp h6 with y | y
    · omega
    · exact ⟨z, y⟩
theorem finite {m : M6} (hm : m.Ok) {k : Nat} (h : m.pow (k + 1) = one) : ∃ j, 1 ≤ j ∧ j < 7 ∧ m.pow j = one := by
  obtain ⟨h1, h2, h3, h4⟩ := lin_pow m k
  rw [h] at h1 h2 h3 h4
  have scal : m.b = 0 → m.c = 0 → m.a = m.d → ∃ j, 1 ≤ j ∧ j < 7 ∧ m.pow j = one := by
    intro hb hc had
    have hdet : m.det = m.a * m.a := by unfold det; rw [hb, hc, ← had]; omega
    have ha : m.a = 1 ∨ m.a = -1 := by
      have sq : m.a * m.a = 1 := by
        rcases hm with z | z
        · omega
        · have : 0 ≤ m.a * m.a := by
            rcases Int.le_total 0 m.a with g | g
            · exact Int.mul_nonneg g g
            · exact Int.mul_nonneg_of_nonpos_of_nonpos g g
          omega
      have e : (m.a - 1) * (m.a + 1) = 0 := by grind
      rcases Int.mul_eq_zero.mp e with z | z
      · exact .inl (by omega)
      · exact .inr (by omega)
    rcases ha with ha | ha
    · have em : m = ⟨1, 0, 0, 1, m.e, m.f⟩ := by
        cases m; simp only at *; subst hb hc ha; rw [← had]
      rw [em] at h
      obtain ⟨z1, z2⟩ := tr_fin h
      exact ⟨1, by decide, by decide, by rw [pow_one, em, z1, z2]; rfl⟩
    · have em : m = ⟨-1, 0, 0, -1, m.e, m.f⟩ := by
        cases m; simp only at *; subst hb hc ha; rw [← had]
      refine ⟨2, by decide, by decide, ?_⟩
      rw [em]
      simp only [pow, comp, one, mk.injEq]
      refine ⟨by omega, by omega, by omega, by omega, by omega, by omega⟩
  by_cases hu : us (m.a + m.d) m.det (k + 1) = 0
  · rcases hm with hd | hd
    · have ht : ¬ (m.a + m.d ≤ -2 ∨ 2 ≤ m.a + m.d) := fun z => by
        have := us_far z k
        rw [hd] at hu
        rw [hu] at this
        omega
      rcases (show m.a + m.d = -1 ∨ m.a + m.d = 0 ∨ m.a + m.d = 1 by omega) with t | t | t
      · refine ⟨3, by decide, by decide, ?_⟩
        have e : m.d = -1 - m.a := by omega
        simp only [det] at hd
        rw [e] at hd
        simp only [pow, comp, one, mk.injEq]
        rw [e]
        refine ⟨?_, ?_, ?_, ?_, ?_, ?_⟩ <;> grind
      · refine ⟨4, by decide, by decide, ?_⟩
        have e : m.d = - m.a := by omega
        simp only [det] at hd
        rw [e] at hd
        simp only [pow, comp, one, mk.injEq]
        rw [e]
        refine ⟨?_, ?_, ?_, ?_, ?_, ?_⟩ <;> grind
      · refine ⟨6, by decide, by decide, ?_⟩
        have e : m.d = 1 - m.a := by omega
        simp only [det] at hd
        rw [e] at hd
        have p3 : m.pow 3 = ⟨-1, 0, 0, -1, (m.pow 3).e, (m.pow 3).f⟩ := by
          simp only [pow, comp, one, mk.injEq]
          rw [e]
          refine ⟨?_, ?_, ?_, ?_, trivial, trivial⟩ <;> grind
        have : m.pow 6 = (m.pow 3).comp (m.pow 3) := pow_add m 3 3
        rw [this, p3]
        simp only [comp, one, mk.injEq]
        refine ⟨by omega, by omega, by omega, by omega, by omega, by omega⟩
    · have ht : m.a + m.d = 0 := by
        by_cases z : m.a + m.d = 0
        · exact z
        · rw [hd] at hu
          exact absurd hu (us_neg z k).1
      have e : m.d = - m.a := by omega
      simp only [det] at hd
      rw [e] at hd
      have p2 : m.pow 2 = ⟨1, 0, 0, 1, (m.pow 2).e, (m.pow 2).f⟩ := by
        simp only [pow, comp, one, mk.injEq]
        rw [e]
        refine ⟨?_, ?_, ?_, ?_, trivial, trivial⟩ <;> grind
      refine ⟨2, by decide, by decide, ?_⟩
      have q : m.pow (2 * (k + 1)) = one := by
        rw [show 2 * (k + 1) = (k + 1) + (k + 1) by omega, pow_add, h]; rfl
      rw [← pow_sq] at q
      have e2 : m.comp m = m.pow 2 := by
        show m.comp m = (m.pow 1).comp m
        rw [pow_one]
      rw [e2, p2] at q
      obtain ⟨z1, z2⟩ := tr_fin q
      rw [p2, z1, z2]; rfl
  · simp only [one] at h1 h2 h3 h4
    have hb : m.b = 0 := by
      rcases Int.mul_eq_zero.mp h2.symm with z | z
      · exact absurd z hu
      · exact z
    have hc : m.c = 0 := by
      rcases Int.mul_eq_zero.mp h3.symm with z | z
      · exact absurd z hu
      · exact z
    refine scal hb hc ?_
    have e : us (m.a + m.d) m.det (k + 1) * (m.a - m.d) = 0 := by
      rw [Int.mul_sub]; omega
    rcases Int.mul_eq_zero.mp e with z | z
    · exact absurd z hu
    · omega
theorem ord_12 {m : M6} (hm : m.Ok) : m.ordN 12 1 = m.ordN 6 1 := by
  by_cases h : ∃ j, 1 ≤ j ∧ j < 7 ∧ m.pow j = one
  · obtain ⟨j, h1, h2, h3⟩ := h
    exact ordN_more (n := 6) (p := 6) ⟨j, h1, by omega, h3⟩
  · rw [ordN_none, ordN_none]
    · intro j h1 h2 e
      exact h ⟨j, h1, by omega, e⟩
    · intro j h1 h2 e
      obtain ⟨i, rfl⟩ : ∃ i, j = i + 1 := ⟨j - 1, by omega⟩
      exact h (finite hm e)
/-! sizes -/
end M6
def MBd (n : Nat) (m : M6) : Prop := Bd n m.a ∧ Bd n m.b ∧ Bd n m.c ∧ Bd n m.d ∧ Bd n m.e ∧ Bd n m.f
theorem MBd.mono {n k : Nat} {m : M6} (h : MBd n m) (l : n ≤ k) : MBd k m := ⟨h.1.mono l, h.2.1.mono l, h.2.2.1.mono l, h.2.2.2.1.mono l, h.2.2.2.2.1.mono l, h.2.2.2.2.2.mono l⟩
theorem bd_lin {i j : Nat} {a b c d : Int} (h1 : Bd i a) (h2 : Bd j b) (h3 : Bd i c) (h4 : Bd j d) : Bd (i + j + 1) (a * b + c * d) := (h1.mul h2).add (h3.mul h4)
theorem MBd.comp {i j : Nat} {m n : M6} (h : MBd i m) (k : MBd j n) : MBd (i + j + 2) (m.comp n) := by
  obtain ⟨a1, b1, c1, d1, e1, f1⟩ := h
  obtain ⟨a2, b2, c2, d2, e2, f2⟩ := k
  refine ⟨(bd_lin a2 a1 b2 c1).mono (by omega), (bd_lin a2 b1 b2 d1).mono (by omega), (bd_lin c2 a1 d2 c1).mono (by omega), (bd_lin c2 b1 d2 d1).mono (by omega), ?_, ?_⟩
  · exact (((bd_lin a2 e1 b2 f1).mono (by omega : _ ≤ i + j + 1)).add (e2.mono (by omega))).mono (by omega)
  · exact (((bd_lin c2 e1 d2 f1).mono (by omega : _ ≤ i + j + 1)).add (f2.mono (by omega))).mono (by omega)
theorem bd_one : ∀ {n : Nat}, MBd (n + 1) M6.one := by
  intro n
  have h : MBd 1 M6.one := by
    unfold MBd Bd M6.one; decide
  exact h.mono (by omega)
theorem Bd.det {n : Nat} {m : M6} (h : m.Ok) : Bd 1 m.det := by
  rcases h with z | z <;> rw [z] <;> (unfold Bd; decide)
theorem MBd.inv {n : Nat} {m : M6} (o : m.Ok) (h : MBd n m) : MBd (2 * n + 2) m.inv := by
  obtain ⟨a1, b1, c1, d1, e1, f1⟩ := h
  have hd := Bd.det (n := n) o
  have hn := hd.neg
  refine ⟨(hd.mul d1).mono (by omega), (hn.mul b1).mono (by omega), (hn.mul c1).mono (by omega), (hd.mul a1).mono (by omega), ?_, ?_⟩
  · exact ((bd_lin (hd.mul d1) e1 (hn.mul b1) f1).neg).mono (by omega)
  · exact ((bd_lin (hn.mul c1) e1 (hd.mul a1) f1).neg).mono (by omega)
theorem MBd.pow {n : Nat} {m : M6} (h : MBd n m) : ∀ k, MBd (k * (n + 2) + 1) (m.pow k)
  | 0 => bd_one
  | k + 1 => ((MBd.pow h k).comp h).mono (by rw [Nat.succ_mul]; omega)
/-! ### grid maps in the heap -/
def GmAt (K : PySem.W.Frag) (H : Hp) (v : V) (m : M6) : Prop := ∃ a dx t, v = .ref a ∧ H a = some (.ins (He.ga K "GridMap") dx [("six", .ref t)]) ∧ SqT K H t m.vals
theorem GmAt.same {K : PySem.W.Frag} {H H' : Hp} {v : V} {m : M6} (h : GmAt K H v m) (s : Same H H') : GmAt K H' v m := by
  obtain ⟨a, dx, t, rfl, h1, h2⟩ := h
  exact ⟨a, dx, t, rfl, s _ _ h1, sqT_same s h2⟩
theorem GmAt.kp {K : PySem.W.Frag} {H H' : Hp} {v : V} {m : M6} {l : Addr} (h : GmAt K H v m) (k : Kp l H H') (d : DrAt H l) : GmAt K H' v m := by
  obtain ⟨a, dx, t, rfl, h1, h2⟩ := h
  obtain ⟨x, y, e, _⟩ := d
  exact ⟨a, dx, t, rfl, k _ _ (ne_of h1 e (by intro z; cases z)) h1, sqT_kp k ⟨_, e⟩ h2⟩
theorem hds_vals {K : PySem.W.Frag} {H : Hp} (m : M6) : Hds K H m.vals m.nums := hds_ints m.nums
theorem hd_six {K : PySem.W.Frag} {H : Hp} {t : Addr} {m : M6} (h : SqT K H t m.vals) : Hd K H (.ref t) (⟨m.nums⟩ : PySem.W.Tup Int) := hd_tup h (hds_vals m)
theorem nums_iff {m n : M6} : ((⟨m.nums⟩ : PySem.W.Tup Int) = ⟨n.nums⟩) ↔ m = n := ⟨fun h => M6.ext' (PySem.W.Tup.mk.inj h), fun h => by rw [h]⟩
theorem dec_nums {m n : M6} : decide ((⟨m.nums⟩ : PySem.W.Tup Int) = ⟨n.nums⟩) = decide (m = n) := decide_eq_decide.mpr nums_iff
end G
namespace G
open PySem PySem.Spec PyProof.Rows L2
theorem GmAt.of {K : PySem.W.Frag} {H : Hp} {v : V} {m : M6} (h : GmAt K H v m) : ∃ a dx t, v = .ref a ∧ H a = some (.ins (He.ga K "GridMap") dx [("six", .ref t)]) ∧ SqT K H t [.int m.a, .int m.b, .int m.c, .int m.d, .int m.e, .int m.f] := h
end G

/-! ### a path that goes right below the axis and back above it has no crossings -/
namespace G
open PySem PySem.Spec PyProof.Rows L2
/-- four points: the sides weigh them to nothing -/
theorem four1 (a b c d : Pt) : trn c d b * a.1 - trn c d a * b.1 + trn a b d * c.1 - trn a b c * d.1 = 0 := by
  unfold trn crs dif; grind
theorem four2 (a b c d : Pt) : trn c d b * a.2 - trn c d a * b.2 + trn a b d * c.2 - trn a b c * d.2 = 0 := by
  unfold trn crs dif; grind
theorem four0 (a b c d : Pt) : trn c d b - trn c d a + trn a b d - trn a b c = 0 := by
  unfold trn crs dif; grind
theorem nonpos_mul {t f : Int} (ht : 0 < t) (hf : f ≤ 0) : t * f ≤ 0 ∧ (t * f = 0 → f = 0) := by
  constructor
  · exact Int.mul_nonpos_of_nonneg_of_nonpos (by omega) hf
  · intro h
    rcases Int.mul_eq_zero.mp h with z | z <;> omega
theorem sep0 {ta tb tc td fa fb fc fd : Int} (h1 : tb * fa - ta * fb + td * fc - tc * fd = 0) (h2 : tb - ta + td - tc = 0) (p1 : ta * tb < 0) (p2 : tc * td < 0) (sa : fa ≤ 0) (sb : fb ≤ 0) (sc : 0 ≤ fc) (sd : 0 ≤ fd) : fa = 0 ∧ fb = 0 ∧ fc = 0 ∧ fd = 0 := by
  have n1 : ta ≠ 0 := fun z => by rw [z, Int.zero_mul] at p1; omega
  have n2 : tb ≠ 0 := fun z => by rw [z, Int.mul_zero] at p1; omega
  have n3 : tc ≠ 0 := fun z => by rw [z, Int.zero_mul] at p2; omega
  have n4 : td ≠ 0 := fun z => by rw [z, Int.mul_zero] at p2; omega
  have o1 : (0 < ta ∧ tb < 0) ∨ (ta < 0 ∧ 0 < tb) := by
    rcases Int.lt_or_lt_of_ne n1 with x | x <;> rcases Int.lt_or_lt_of_ne n2 with y | y
    · have := Int.mul_pos_of_neg_of_neg x y; omega
    · exact .inr ⟨x, y⟩
    · exact .inl ⟨x, y⟩
    · have := Int.mul_pos x y; omega
  have o2 : (0 < tc ∧ td < 0) ∨ (tc < 0 ∧ 0 < td) := by
    rcases Int.lt_or_lt_of_ne n3 with x | x <;> rcases Int.lt_or_lt_of_ne n4 with y | y
    · have := Int.mul_pos_of_neg_of_neg x y; omega
    · exact .inr ⟨x, y⟩
    · exact .inl ⟨x, y⟩
    · have := Int.mul_pos x y; omega
  have key : ∀ {ta tb tc td : Int}, tb * fa - ta * fb + td * fc - tc * fd = 0 → ta < 0 → 0 < tb → 0 < tc → td < 0 → fa = 0 ∧ fb = 0 ∧ fc = 0 ∧ fd = 0 := by
    intro ta tb tc td h1 x1 x2 x3 x4
    obtain ⟨a1, a2⟩ := nonpos_mul x2 sa
    obtain ⟨b1, b2⟩ := nonpos_mul (show 0 < -ta by omega) sb
    obtain ⟨c1, c2⟩ := nonpos_mul (show 0 < -td by omega) (show -fc ≤ 0 by omega)
    obtain ⟨d1, d2⟩ := nonpos_mul x3 (show -fd ≤ 0 by omega)
    rw [Int.neg_mul] at b1 b2
    rw [Int.neg_mul_neg] at c1 c2
    rw [Int.mul_neg] at d1 d2
    have z1 := a2 (by omega)
    have z2 := b2 (by omega)
    have z3 := c2 (by omega)
    have z4 := d2 (by omega)
    omega
  rcases o1 with ⟨x1, x2⟩ | ⟨x1, x2⟩
  · rcases o2 with ⟨y1, y2⟩ | ⟨y1, y2⟩
    · omega
    · refine key (ta := -ta) (tb := -tb) (tc := -tc) (td := -td) ?_ (by omega) (by omega) (by omega) (by omega)
      simp only [Int.neg_mul]; omega
  · rcases o2 with ⟨y1, y2⟩ | ⟨y1, y2⟩
    · exact key h1 x1 x2 y1 y2
    · omega
theorem sepk {ta tb tc td fa fb fc fd k : Int} (h1 : tb * fa - ta * fb + td * fc - tc * fd = 0) (h2 : tb - ta + td - tc = 0) (p1 : ta * tb < 0) (p2 : tc * td < 0) (sa : fa ≤ k) (sb : fb ≤ k) (sc : k ≤ fc) (sd : k ≤ fd) : fa = k ∧ fb = k ∧ fc = k ∧ fd = k := by
  have h3 : tb * (fa - k) - ta * (fb - k) + td * (fc - k) - tc * (fd - k) = 0 := by
    have e : tb * (fa - k) - ta * (fb - k) + td * (fc - k) - tc * (fd - k) = (tb * fa - ta * fb + td * fc - tc * fd) - (tb - ta + td - tc) * k := by grind
    rw [e, h1, h2]; omega
  have := sep0 h3 h2 p1 p2 (by omega) (by omega) (by omega) (by omega)
  omega
theorem on_box {p a b : Pt} (h : onS p a b = true) : trn a b p = 0 ∧ min a.1 b.1 ≤ p.1 ∧ p.1 ≤ max a.1 b.1 ∧ min a.2 b.2 ≤ p.2 ∧ p.2 ≤ max a.2 b.2 := by
  unfold onS btw btw1 at h
  simp only [Bool.and_eq_true, decide_eq_true_eq] at h
  omega
theorem meet_cases {a b c d : Pt} (h : meetS a b c d = true) : (trn c d a * trn c d b < 0 ∧ trn a b c * trn a b d < 0) ∨ onS c a b = true ∨ onS d a b = true ∨ onS a c d = true ∨ onS b c d = true := by
  unfold meetS at h
  simp only [Bool.or_eq_true, Bool.and_eq_true, decide_eq_true_eq] at h
  rcases h with ⟨h1, h2⟩ | h | h | h | h
  · exact .inl ⟨h2, h1⟩
  · exact .inr (.inl h)
  · exact .inr (.inr (.inl h))
  · exact .inr (.inr (.inr (.inl h)))
  · exact .inr (.inr (.inr (.inr h)))
/-- the one is left of the other -/
theorem meet_left {a b c d : Pt} (h : a.1 < c.1 ∧ a.1 < d.1 ∧ b.1 < c.1 ∧ b.1 < d.1) : meetS a b c d = false := by
  cases e : meetS a b c d with
  | false => rfl
  | true =>
    rcases meet_cases e with ⟨h1, h2⟩ | h1 | h1 | h1 | h1
    · have := sepk (k := max a.1 b.1) (four1 a b c d) (four0 a b c d) h1 h2 (by omega) (by omega) (by omega) (by omega)
      omega
    all_goals
      have := on_box h1
      omega
theorem meet_right {a b c d : Pt} (h : c.1 < a.1 ∧ c.1 < b.1 ∧ d.1 < a.1 ∧ d.1 < b.1) : meetS a b c d = false := by
  cases e : meetS a b c d with
  | false => rfl
  | true =>
    rcases meet_cases e with ⟨h1, h2⟩ | h1 | h1 | h1 | h1
    · have f1 := four1 a b c d
      have f0 := four0 a b c d
      have := sepk (ta := trn a b c) (tb := trn a b d) (tc := trn c d a) (td := trn c d b) (fa := c.1) (fb := d.1) (fc := a.1) (fd := b.1) (k := max c.1 d.1) (by omega) (by omega) h2 h1 (by omega) (by omega) (by omega) (by omega)
      omega
    all_goals
      have := on_box h1
      omega
/-- ps: corner 0 and corner m + 1 on the axis, 1 .. m below it, going right; the others above it, going left -/
structure Mono (ps : List Pt) (m : Nat) : Prop where
  hm : 1 ≤ m
  hn : m + 2 ≤ ps.length
  y0 : (atC ps 0).2 = 0
  yR : (atC ps (m + 1)).2 = 0
  yb : ∀ i, 1 ≤ i → i ≤ m → (atC ps i).2 < 0
  ya : ∀ i, m + 2 ≤ i → i < ps.length → 0 < (atC ps i).2
  xl : ∀ i j, i < j → j ≤ m + 1 → (atC ps i).1 < (atC ps j).1
  xu : ∀ i j, m + 1 ≤ i → i < j → j < ps.length → (atC ps j).1 < (atC ps i).1
  x0 : ∀ i, 1 ≤ i → i < ps.length → (atC ps 0).1 < (atC ps i).1
theorem nxt_in {ps : List Pt} {i : Nat} (h : i + 1 < ps.length) : nxt ps i = atC ps (i + 1) := by
  unfold nxt; rw [Nat.mod_eq_of_lt h]
theorem nxt_last {ps : List Pt} {i : Nat} (h : i + 1 = ps.length) : nxt ps i = atC ps 0 := by
  unfold nxt; rw [h, Nat.mod_self]
theorem trn_00 {a b c : Pt} (h1 : a.2 = 0) (h2 : c.2 = 0) (h : trn a b c = 0) : b.2 = 0 ∨ a.1 = c.1 := by
  have e : trn a b c = -(b.2 * (c.1 - a.1)) := by
    unfold trn crs dif
    show (b.1 - a.1) * (c.2 - b.2) - (b.2 - a.2) * (c.1 - b.1) = _
    rw [h1, h2]; grind
  rw [e] at h
  rcases Int.mul_eq_zero.mp (show b.2 * (c.1 - a.1) = 0 by omega) with z | z <;> omega
theorem trn_0b {a b c : Pt} (h1 : b.2 = 0) (h2 : c.2 = 0) (h : trn a b c = 0) : a.2 = 0 ∨ b.1 = c.1 := by
  have e : trn a b c = a.2 * (c.1 - b.1) := by
    unfold trn crs dif
    show (b.1 - a.1) * (c.2 - b.2) - (b.2 - a.2) * (c.1 - b.1) = _
    rw [h1, h2]; grind
  rw [e] at h
  rcases Int.mul_eq_zero.mp h with z | z <;> omega
theorem Mono.cross {ps : List Pt} {m : Nat} (M : Mono ps m) {i j : Nat} (hij : i + 2 ≤ j) (hj : j < ps.length) : crossB ps i j = false := by
  unfold crossB
  by_cases hc : (j + 1) % ps.length = i
  · rw [decide_eq_false (by omega), Bool.false_and]
  rw [decide_eq_true hc, Bool.true_and]
  have hn := M.hn
  have hm := M.hm
  have hi1 : nxt ps i = atC ps (i + 1) := nxt_in (by omega)
  by_cases hjm : j ≤ m
  · -- both below
    rw [hi1, nxt_in (by omega)]
    refine meet_left ⟨M.xl _ _ (by omega) (by omega), M.xl _ _ (by omega) (by omega), M.xl _ _ (by omega) (by omega), M.xl _ _ (by omega) (by omega)⟩
  by_cases him : m + 1 ≤ i
  · -- both above
    rw [hi1]
    rcases Nat.lt_or_ge (j + 1) ps.length with h | h
    · rw [nxt_in h]
      exact meet_right ⟨M.xu _ _ (by omega) (by omega) (by omega), M.xu _ _ (by omega) (by omega) (by omega), M.xu _ _ (by omega) (by omega) (by omega), M.xu _ _ (by omega) (by omega) (by omega)⟩
    · rw [nxt_last (by omega)]
      exact meet_right ⟨M.xu _ _ (by omega) (by omega) (by omega), M.xu _ _ (by omega) (by omega) (by omega), M.x0 _ (by omega) (by omega), M.x0 _ (by omega) (by omega)⟩
  -- the first below, the second above
  have ya2 : (atC ps i).2 ≤ 0 ∧ ((atC ps i).2 = 0 → i = 0) := by
    rcases Nat.eq_zero_or_pos i with h | h
    · subst h; have := M.y0; omega
    · have := M.yb i h (by omega); omega
  have yb2 : (atC ps (i + 1)).2 ≤ 0 ∧ ((atC ps (i + 1)).2 = 0 → i = m) := by
    rcases Nat.lt_or_ge i m with h | h
    · have := M.yb (i + 1) (by omega) (by omega); omega
    · obtain rfl : i = m := by omega
      have := M.yR; omega
  have yc2 : 0 ≤ (atC ps j).2 ∧ ((atC ps j).2 = 0 → j = m + 1) := by
    rcases Nat.lt_or_ge j (m + 2) with h | h
    · obtain rfl : j = m + 1 := by omega
      have := M.yR; omega
    · have := M.ya j h hj; omega
  have yd2 : 0 ≤ (nxt ps j).2 ∧ ((nxt ps j).2 = 0 → j + 1 = ps.length ∧ nxt ps j = atC ps 0) := by
    rcases Nat.lt_or_ge (j + 1) ps.length with h | h
    · rw [nxt_in h]
      have := M.ya (j + 1) (by omega) h; omega
    · rw [nxt_last (by omega)]
      have := M.y0
      exact ⟨by omega, fun _ => ⟨by omega, rfl⟩⟩
  have wrap : j + 1 = ps.length → i ≠ 0 := fun h z => hc (by rw [h, Nat.mod_self, z])
  rw [hi1]
  cases e : meetS (atC ps i) (atC ps (i + 1)) (atC ps j) (nxt ps j) with
  | false => rfl
  | true =>
    exfalso
    rcases meet_cases e with ⟨h1, h2⟩ | h1 | h1 | h1 | h1
    · have := sepk (k := 0) (four2 _ _ _ _) (four0 _ _ _ _) h1 h2 ya2.1 yb2.1 yc2.1 yd2.1
      have := ya2.2 this.1
      have := yb2.2 (by omega)
      omega
    · have b := on_box h1
      have c0 := yc2.2 (by omega)
      rcases (show (atC ps i).2 = 0 ∨ (atC ps (i + 1)).2 = 0 by omega) with z | z
      · have i0 := ya2.2 z
        rcases trn_00 z (by omega) b.1 with w | w
        · have := yb2.2 w; omega
        · have := M.x0 j (by omega) hj
          rw [i0] at w; omega
      · have := yb2.2 z; omega
    · have b := on_box h1
      obtain ⟨d1, d2⟩ := yd2.2 (by omega)
      have nz := wrap d1
      rcases (show (atC ps i).2 = 0 ∨ (atC ps (i + 1)).2 = 0 by omega) with z | z
      · exact nz (ya2.2 z)
      · have im := yb2.2 z
        rcases trn_0b z (by omega) b.1 with w | w
        · exact nz (ya2.2 w)
        · have := M.x0 (i + 1) (by omega) (by omega)
          rw [d2] at w; omega
    · have b := on_box h1
      have i0 := ya2.2 (by omega)
      rcases (show (atC ps j).2 = 0 ∨ (nxt ps j).2 = 0 by omega) with z | z
      · have jm := yc2.2 z
        rcases trn_00 z (by omega) b.1 with w | w
        · exact wrap (yd2.2 w).1 i0
        · have := M.x0 j (by omega) hj
          rw [i0] at w; omega
      · exact wrap (yd2.2 z).1 i0
    · have b := on_box h1
      have im := yb2.2 (by omega)
      rcases (show (atC ps j).2 = 0 ∨ (nxt ps j).2 = 0 by omega) with z | z
      · have := yc2.2 z; omega
      · obtain ⟨d1, d2⟩ := yd2.2 z
        rcases trn_0b z (by omega) b.1 with w | w
        · have := yc2.2 w; omega
        · have := M.x0 (i + 1) (by omega) (by omega)
          rw [d2] at w; omega
theorem Mono.good {ps : List Pt} {m : Nat} (M : Mono ps m) (h : NoDeg ps) : Good ps := ⟨h, fun _ _ h1 h2 => M.cross h1 h2⟩
end G

/-! ### leaving out corners on a line -/
namespace G
open PySem PySem.Spec PyProof.Rows L2
def shp (L R : Pt) (B A : List Pt) : List Pt := L :: B ++ R :: A
structure ML (L R : Pt) (B A : List Pt) : Prop where
  y0 : L.2 = 0
  yR : R.2 = 0
  hB : B ≠ []
  yb : ∀ p ∈ B, p.2 < 0
  ya : ∀ p ∈ A, 0 < p.2
  xl : (L :: B ++ [R]).Pairwise fun p q => p.1 < q.1
  xu : (R :: A ++ [L]).Pairwise fun p q => q.1 < p.1
theorem shp_len (L R : Pt) (B A : List Pt) : (shp L R B A).length = B.length + 2 + A.length := by
  unfold shp; simp; omega
theorem atC_shp0 (L R : Pt) (B A : List Pt) : atC (shp L R B A) 0 = L := rfl
theorem shp_left (L R : Pt) (B A : List Pt) {i : Nat} (h : i ≤ B.length + 1) : (shp L R B A)[i]? = (L :: B ++ [R])[i]? := by
  have e : shp L R B A = (L :: B ++ [R]) ++ A := by unfold shp; simp
  rw [e, List.getElem?_append_left (by simp; omega)]
theorem shp_right (L R : Pt) (B A : List Pt) {i : Nat} (h : B.length + 1 ≤ i) (h2 : i < B.length + 2 + A.length) : (shp L R B A)[i]? = (R :: A ++ [L])[i - (B.length + 1)]? := by
  unfold shp
  rw [List.getElem?_append_right (by simp; omega), List.getElem?_append_left (by simp; omega)]
  rfl
theorem pw_at {α : Type} {r : α → α → Prop} {l : List α} (h : l.Pairwise r) {i j : Nat} {x y : α} (hij : i < j) (hi : l[i]? = some x) (hj : l[j]? = some y) : r x y := by
  obtain ⟨h1, e1⟩ := List.getElem?_eq_some_iff.mp hi
  obtain ⟨h2, e2⟩ := List.getElem?_eq_some_iff.mp hj
  rw [← e1, ← e2]
  exact List.pairwise_iff_getElem.mp h i j h1 h2 hij
theorem ML.mono {L R : Pt} {B A : List Pt} (h : ML L R B A) : Mono (shp L R B A) B.length := by
  have hl := shp_len L R B A
  have hb : 1 ≤ B.length := by
    cases e : B with
    | nil => exact absurd e h.hB
    | cons b B => simp
  have atL : ∀ i, i ≤ B.length + 1 → (L :: B ++ [R])[i]? = some (atC (shp L R B A) i) := fun i hi => by
    rw [← shp_left L R B A hi]; exact atC_get (by omega)
  have atR : ∀ i, B.length + 1 ≤ i → i < B.length + 2 + A.length → (R :: A ++ [L])[i - (B.length + 1)]? = some (atC (shp L R B A) i) := fun i h1 h2 => by
    rw [← shp_right L R B A h1 h2]; exact atC_get (by omega)
  have lastL : (R :: A ++ [L])[A.length + 1]? = some L := by
    rw [List.getElem?_append_right (by simp)]; simp
  refine ⟨hb, by omega, h.y0, ?_, fun i h1 h2 => ?_, fun i h1 h2 => ?_, fun i j hij hj => ?_, fun i j h1 hij hj => ?_, fun i h1 h2 => ?_⟩
  · have := atL (B.length + 1) (Nat.le_refl _)
    rw [List.getElem?_append_right (by simp)] at this
    simp at this
    rw [← this]; exact h.yR
  · have := atL i (by omega)
    rw [List.getElem?_append_left (by simp; omega)] at this
    obtain ⟨k, rfl⟩ : ∃ k, i = k + 1 := ⟨i - 1, by omega⟩
    rw [List.getElem?_cons_succ] at this
    exact h.yb _ (List.mem_of_getElem? this)
  · have := atR i (by omega) (by omega)
    rw [List.getElem?_append_left (by simp; omega)] at this
    obtain ⟨k, hk⟩ : ∃ k, i - (B.length + 1) = k + 1 := ⟨i - (B.length + 1) - 1, by omega⟩
    rw [hk, List.getElem?_cons_succ] at this
    exact h.ya _ (List.mem_of_getElem? this)
  · exact pw_at h.xl hij (atL i (by omega)) (atL j (by omega))
  · exact pw_at h.xu (show i - (B.length + 1) < j - (B.length + 1) by omega) (atR i (by omega) (by omega)) (atR j (by omega) (by omega))
  · rcases Nat.lt_or_ge i (B.length + 2) with z | z
    · exact pw_at h.xl (show 0 < i by omega) (atL 0 (by omega)) (atL i (by omega))
    · have := pw_at h.xu (show i - (B.length + 1) < A.length + 1 by omega) (atR i (by omega) (by omega)) lastL
      exact this
theorem prv_in {ps : List Pt} {i : Nat} (h0 : 0 < i) (h : i < ps.length) : prv ps i = atC ps (i - 1) := by
  unfold prv
  rw [show i + ps.length - 1 = (i - 1) + ps.length by omega, Nat.add_mod_right, Nat.mod_eq_of_lt (by omega)]
theorem prv_0 {ps : List Pt} (h : 0 < ps.length) : prv ps 0 = atC ps (ps.length - 1) := by
  unfold prv
  rw [Nat.zero_add, Nat.mod_eq_of_lt (by omega)]
theorem trn_b0 {a b c : Pt} (h : b.2 = 0) : trn a b c = (b.1 - a.1) * c.2 + a.2 * (c.1 - b.1) := by
  unfold trn crs dif
  show (b.1 - a.1) * (c.2 - b.2) - (b.2 - a.2) * (c.1 - b.1) = _
  rw [h]; grind
theorem trn_ac0 {a b c : Pt} (h1 : a.2 = 0) (h2 : c.2 = 0) : trn a b c = -(b.2 * (c.1 - a.1)) := by
  unfold trn crs dif
  show (b.1 - a.1) * (c.2 - b.2) - (b.2 - a.2) * (c.1 - b.1) = _
  rw [h1, h2]; grind
theorem Mono.tri0_0 {ps : List Pt} {m : Nat} (M : Mono ps m) : 0 < tri0 ps 0 := by
  have hm := M.hm
  have hn := M.hn
  unfold tri0
  rw [prv_0 (by omega), nxt_in (by omega), trn_b0 M.y0]
  have x1 := M.x0 (ps.length - 1) (by omega) (by omega)
  have x2 := M.x0 (0 + 1) (by omega) (by omega)
  have y1 := M.yb (0 + 1) (by omega) (by omega)
  have y2 : 0 ≤ (atC ps (ps.length - 1)).2 := by
    rcases Nat.lt_or_ge (ps.length - 1) (m + 2) with z | z
    · have e : ps.length - 1 = m + 1 := by omega
      rw [e, M.yR]; exact Int.le_refl _
    · exact Int.le_of_lt (M.ya _ z (by omega))
  have p1 : 0 < ((atC ps 0).1 - (atC ps (ps.length - 1)).1) * (atC ps (0 + 1)).2 := Int.mul_pos_of_neg_of_neg (by omega) y1
  have p2 : 0 ≤ (atC ps (ps.length - 1)).2 * ((atC ps (0 + 1)).1 - (atC ps 0).1) := Int.mul_nonneg y2 (by omega)
  omega
theorem Mono.tri0_R {ps : List Pt} {m : Nat} (M : Mono ps m) : 0 < tri0 ps (m + 1) := by
  have hm := M.hm
  have hn := M.hn
  unfold tri0
  rw [prv_in (by omega) (by omega), trn_b0 M.yR]
  have e : m + 1 - 1 = m := by omega
  rw [e]
  have x1 := M.xl m (m + 1) (by omega) (by omega)
  have y1 := M.yb m hm (by omega)
  have nx : 0 ≤ (nxt ps (m + 1)).2 ∧ (nxt ps (m + 1)).1 < (atC ps (m + 1)).1 := by
    rcases Nat.lt_or_ge (m + 1 + 1) ps.length with z | z
    · rw [nxt_in z]
      exact ⟨Int.le_of_lt (M.ya _ (by omega) z), M.xu _ _ (by omega) (by omega) z⟩
    · rw [nxt_last (by omega), M.y0]
      exact ⟨Int.le_refl _, M.x0 _ (by omega) (by omega)⟩
  have p1 : 0 ≤ ((atC ps (m + 1)).1 - (atC ps m).1) * (nxt ps (m + 1)).2 := Int.mul_nonneg (by omega) nx.1
  have p2 : 0 < (atC ps m).2 * ((nxt ps (m + 1)).1 - (atC ps (m + 1)).1) := Int.mul_pos_of_neg_of_neg y1 (by omega)
  omega
theorem Mono.tri0_1 {ps : List Pt} (M : Mono ps 1) : 0 < tri0 ps 1 := by
  have hn := M.hn
  unfold tri0
  rw [prv_in (by omega) (by omega), nxt_in (by omega)]
  rw [trn_ac0 M.y0 M.yR]
  have y1 := M.yb 1 (by omega) (by omega)
  have x1 := M.x0 (1 + 1) (by omega) (by omega)
  have p : (atC ps 1).2 * ((atC ps (1 + 1)).1 - (atC ps 0).1) < 0 := Int.mul_neg_of_neg_of_pos y1 (by omega)
  omega
theorem ML.erase {L R : Pt} {B A : List Pt} {i : Nat} (h : ML L R B A) (hi : i < (shp L R B A).length) (hz : tri0 (shp L R B A) i = 0) :
    ∃ B' A', (shp L R B A).take i ++ (shp L R B A).drop (i + 1) = shp L R B' A' ∧ ML L R B' A' ∧ (∀ p ∈ B', p ∈ B) ∧ ∀ p ∈ A', p ∈ A := by
  have M := h.mono
  have hl := shp_len L R B A
  have n0 : i ≠ 0 := fun z => by subst z; have := M.tri0_0; omega
  have nR : i ≠ B.length + 1 := fun z => by subst z; have := M.tri0_R; omega
  have n1 : ¬ (B.length = 1 ∧ i = 1) := fun ⟨z1, z2⟩ => by
    subst z2; rw [z1] at M; have := M.tri0_1; omega
  rw [← List.eraseIdx_eq_take_drop_succ]
  obtain ⟨k, rfl⟩ : ∃ k, i = k + 1 := ⟨i - 1, by omega⟩
  rcases Nat.lt_or_ge k B.length with hk | hk
  · refine ⟨B.eraseIdx k, A, ?_, ⟨h.y0, h.yR, ?_, fun p hp => h.yb p (List.mem_of_mem_eraseIdx hp), h.ya, ?_, h.xu⟩, fun p hp => List.mem_of_mem_eraseIdx hp, fun p hp => hp⟩
    · unfold shp
      rw [List.cons_append, List.eraseIdx_cons_succ, List.eraseIdx_append_of_lt_length hk]
      rfl
    · intro z
      have := List.length_eraseIdx_of_lt hk
      rw [z] at this
      simp at this
      omega
    · refine h.xl.sublist ?_
      exact ((List.eraseIdx_sublist B k).append (List.Sublist.refl [R])).cons₂ L
  · obtain ⟨j, hj⟩ : ∃ j, k = B.length + 1 + j := ⟨k - (B.length + 1), by omega⟩
    refine ⟨B, A.eraseIdx j, ?_, ⟨h.y0, h.yR, h.hB, h.yb, fun p hp => h.ya p (List.mem_of_mem_eraseIdx hp), h.xl, ?_⟩, fun p hp => hp, fun p hp => List.mem_of_mem_eraseIdx hp⟩
    · unfold shp
      rw [List.cons_append, List.eraseIdx_cons_succ, List.eraseIdx_append_of_length_le (by omega)]
      have e : k - B.length = j + 1 := by omega
      rw [e, List.eraseIdx_cons_succ]
      rfl
    · refine h.xu.sublist ?_
      exact ((List.eraseIdx_sublist A j).append (List.Sublist.refl [L])).cons₂ R
end G

/-! ### maps keep turns, meetings, areas -/
namespace G
open PySem PySem.Spec PyProof.Rows L2
theorem trn_img (m : M6) (a b c : Pt) : trn (m.img a) (m.img b) (m.img c) = m.det * trn a b c := by
  unfold trn crs dif M6.img M6.det; grind
theorem crs_dif (a b c : Pt) : trn a b c = crs a b + crs b c - crs a c := by
  unfold trn crs dif; grind
/-- a point of a segment: weights -/
theorem on_iff {p a b : Pt} : onS p a b = true ↔ ∃ s t : Int, 0 ≤ s ∧ 0 ≤ t ∧ 0 < s + t ∧ (s + t) * p.1 = s * a.1 + t * b.1 ∧ (s + t) * p.2 = s * a.2 + t * b.2 := by
  constructor
  · intro h
    obtain ⟨h0, h1, h2, h3, h4⟩ := on_box h
    have e0 : (b.1 - a.1) * (p.2 - b.2) - (b.2 - a.2) * (p.1 - b.1) = 0 := h0
    by_cases hx : a.1 = b.1
    · by_cases hy : a.2 = b.2
      · exact ⟨1, 0, by decide, by decide, by decide, by omega, by omega⟩
      · have hp : p.1 = a.1 := by omega
        rcases Int.lt_or_lt_of_ne hy with z | z
        · refine ⟨b.2 - p.2, p.2 - a.2, by omega, by omega, by omega, ?_, ?_⟩
          · rw [hp, ← hx]; grind
          · grind
        · refine ⟨p.2 - b.2, a.2 - p.2, by omega, by omega, by omega, ?_, ?_⟩
          · rw [hp, ← hx]; grind
          · grind
    · rcases Int.lt_or_lt_of_ne hx with z | z
      · refine ⟨b.1 - p.1, p.1 - a.1, by omega, by omega, by omega, ?_, ?_⟩
        · grind
        · grind
      · refine ⟨p.1 - b.1, a.1 - p.1, by omega, by omega, by omega, ?_, ?_⟩
        · grind
        · grind
  · rintro ⟨s, t, hs, ht, hst, e1, e2⟩
    have key : ∀ x l h : Int, (s + t) * x = s * l + t * h → min l h ≤ x ∧ x ≤ max l h := by
      intro x l h e
      have lo : 0 ≤ s * (l - min l h) + t * (h - min l h) := Int.add_nonneg (Int.mul_nonneg hs (by omega)) (Int.mul_nonneg ht (by omega))
      have hi : 0 ≤ s * (max l h - l) + t * (max l h - h) := Int.add_nonneg (Int.mul_nonneg hs (by omega)) (Int.mul_nonneg ht (by omega))
      have l2 : s * (l - min l h) + t * (h - min l h) = (s + t) * (x - min l h) := by grind
      have h2 : s * (max l h - l) + t * (max l h - h) = (s + t) * (max l h - x) := by grind
      rw [l2] at lo
      rw [h2] at hi
      constructor
      · rcases Int.lt_or_le x (min l h) with z | z
        · have := Int.mul_neg_of_pos_of_neg hst (show x - min l h < 0 by omega); omega
        · exact z
      · rcases Int.lt_or_le (max l h) x with z | z
        · have := Int.mul_neg_of_pos_of_neg hst (show max l h - x < 0 by omega); omega
        · exact z
    have k1 := key _ _ _ e1
    have k2 := key _ _ _ e2
    have h0 : trn a b p = 0 := by
      have e : (s + t) * trn a b p = 0 := by
        unfold trn crs dif
        show (s + t) * ((b.1 - a.1) * (p.2 - b.2) - (b.2 - a.2) * (p.1 - b.1)) = 0
        grind
      rcases Int.mul_eq_zero.mp e with z | z <;> omega
    unfold onS btw btw1
    simp only [Bool.and_eq_true, decide_eq_true_eq]
    omega
theorem on_img1 (m : M6) {p a b : Pt} (h : onS p a b = true) : onS (m.img p) (m.img a) (m.img b) = true := by
  obtain ⟨s, t, hs, ht, hst, e1, e2⟩ := on_iff.mp h
  refine on_iff.mpr ⟨s, t, hs, ht, hst, ?_, ?_⟩
  · show (s + t) * (m.a * p.1 + m.b * p.2 + m.e) = s * (m.a * a.1 + m.b * a.2 + m.e) + t * (m.a * b.1 + m.b * b.2 + m.e)
    grind
  · show (s + t) * (m.c * p.1 + m.d * p.2 + m.f) = s * (m.c * a.1 + m.d * a.2 + m.f) + t * (m.c * b.1 + m.d * b.2 + m.f)
    grind
theorem img_comp (m n : M6) (p : Pt) : (m.comp n).img p = n.img (m.img p) := by
  unfold M6.comp M6.img
  refine Prod.ext ?_ ?_
  · show _ = n.a * (m.a * p.1 + m.b * p.2 + m.e) + n.b * (m.c * p.1 + m.d * p.2 + m.f) + n.e
    grind
  · show _ = n.c * (m.a * p.1 + m.b * p.2 + m.e) + n.d * (m.c * p.1 + m.d * p.2 + m.f) + n.f
    grind
theorem img_one (p : Pt) : M6.one.img p = p := by
  unfold M6.one M6.img
  refine Prod.ext ?_ ?_
  · show 1 * p.1 + 0 * p.2 + 0 = p.1; omega
  · show 0 * p.1 + 1 * p.2 + 0 = p.2; omega
theorem img_inv {m : M6} (h : m.Ok) (p : Pt) : m.inv.img (m.img p) = p := by
  rw [← img_comp, M6.comp_inv h, img_one]
theorem img_inv' {m : M6} (h : m.Ok) (p : Pt) : m.img (m.inv.img p) = p := by
  rw [← img_comp, M6.inv_comp h, img_one]
theorem img_inj {m : M6} (h : m.Ok) {p q : Pt} (e : m.img p = m.img q) : p = q := by
  rw [← img_inv h p, e, img_inv h]
theorem on_img {m : M6} (h : m.Ok) (p a b : Pt) : onS (m.img p) (m.img a) (m.img b) = onS p a b := by
  rw [Bool.eq_iff_iff]
  refine ⟨fun z => ?_, on_img1 m⟩
  have := on_img1 m.inv z
  rwa [img_inv h, img_inv h, img_inv h] at this
theorem meet_img {m : M6} (h : m.Ok) (a b c d : Pt) : meetS (m.img a) (m.img b) (m.img c) (m.img d) = meetS a b c d := by
  have key : ∀ x y : Int, m.det * x * (m.det * y) = x * y := fun x y => by
    have e : m.det * x * (m.det * y) = m.det * m.det * (x * y) := by grind
    rw [e, M6.ok_sq h, Int.one_mul]
  unfold meetS
  rw [on_img h, on_img h, on_img h, on_img h, trn_img, trn_img, trn_img, trn_img, key, key]
theorem at_map (f : Pt → Pt) {ps : List Pt} {i : Nat} (h : i < ps.length) : atC (ps.map f) i = f (atC ps i) := by
  refine atC_of ?_
  rw [List.getElem?_map, atC_get h]; rfl
theorem nxt_map (f : Pt → Pt) {ps : List Pt} {i : Nat} (h : 0 < ps.length) : nxt (ps.map f) i = f (nxt ps i) := by
  unfold nxt
  rw [List.length_map]
  exact at_map f (Nat.mod_lt _ h)
theorem prv_map (f : Pt → Pt) {ps : List Pt} {i : Nat} (h : 0 < ps.length) : prv (ps.map f) i = f (prv ps i) := by
  unfold prv
  rw [List.length_map]
  exact at_map f (Nat.mod_lt _ h)
theorem tri_img (m : M6) {ps : List Pt} {i : Nat} (hi : i < ps.length) : tri0 (ps.map m.img) i = m.det * tri0 ps i := by
  unfold tri0
  rw [at_map _ hi, nxt_map _ (by omega), prv_map _ (by omega), trn_img]
theorem cross_img {m : M6} (h : m.Ok) {ps : List Pt} {i j : Nat} (hi : i < ps.length) (hj : j < ps.length) : crossB (ps.map m.img) i j = crossB ps i j := by
  unfold crossB
  rw [at_map _ hi, at_map _ hj, nxt_map _ (by omega), nxt_map _ (by omega), meet_img h, List.length_map]
theorem good_img {m : M6} (h : m.Ok) {ps : List Pt} (g : Good ps) : Good (ps.map m.img) := by
  constructor
  · intro i hi z
    rw [List.length_map] at hi
    rw [tri_img m hi] at z
    rcases Int.mul_eq_zero.mp z with w | w
    · rcases h with h | h <;> omega
    · exact g.1 i hi w
  · intro i j hij hj
    rw [List.length_map] at hj
    rw [cross_img h (by omega) hj]
    exact g.2 i j hij hj
theorem are_img (m : M6) : ∀ ps : List Pt, are (ps.map m.img) = m.det * are ps := by
  have key : ∀ l : List Pt, ∀ p q : Pt, pth ((p :: l ++ [q]).map m.img) = m.det * pth (p :: l ++ [q]) + (crsP (m.e, m.f) (m.img q) - crsP (m.e, m.f) (m.img p)) := by
    intro l
    induction l with
    | nil =>
      intro p q
      show crsP (m.img p) (m.img q) + 0 = m.det * (crsP p q + 0) + _
      unfold crsP M6.img M6.det; grind
    | cons x l ih =>
      intro p q
      have := ih x q
      show crsP (m.img p) (m.img x) + pth ((x :: l ++ [q]).map m.img) = m.det * (crsP p x + pth (x :: l ++ [q])) + _
      rw [this]
      have e : crsP (m.img p) (m.img x) = m.det * crsP p x + (crsP (m.e, m.f) (m.img x) - crsP (m.e, m.f) (m.img p)) := by
        unfold crsP M6.img M6.det; grind
      rw [e, Int.mul_add]; omega
  intro ps
  cases ps with
  | nil => show 0 = m.det * 0; omega
  | cons p l =>
    have := key l p p
    show pth (m.img p :: l.map m.img ++ [m.img p]) = m.det * pth (p :: l ++ [p])
    rw [List.map_append] at this
    rw [show m.img p :: l.map m.img ++ [m.img p] = (p :: l).map m.img ++ [p].map m.img from rfl, this]; omega
theorem PBd.img {n k : Nat} {m : M6} {p : Pt} (hm : MBd n m) (hp : PBd k p) : PBd (n + k + 2) (m.img p) := by
  obtain ⟨h1, h2, h3, h4, h5, h6⟩ := hm
  exact ⟨(bd_lin h1 hp.1 h2 hp.2).add (h5.mono (by omega)), (bd_lin h3 hp.1 h4 hp.2).add (h6.mono (by omega))⟩
end G

/-! ### beginning elsewhere, going the other way round: a simple path stays simple -/
namespace G
open PySem PySem.Spec PyProof.Rows L2
theorem trn_swap (a b c : Pt) : trn b a c = -trn a b c := by
  unfold trn crs dif; grind
theorem trn_back (a b c : Pt) : trn c b a = -trn a b c := by
  unfold trn crs dif; grind
theorem onS_swap (p a b : Pt) : onS p b a = onS p a b := onP_swap p a b
theorem meet_swap (a b c d : Pt) : meetS b a c d = meetS a b c d := by
  unfold meetS
  rw [onS_swap c a b, onS_swap d a b, trn_swap a b c, trn_swap a b d, Int.neg_mul_neg, Int.mul_comm (trn c d b)]
  cases onS a c d <;> cases onS b c d <;> simp
theorem meet_comm (a b c d : Pt) : meetS c d a b = meetS a b c d := by
  unfold meetS
  rw [Bool.and_comm]
  cases onS a c d <;> cases onS b c d <;> cases onS c a b <;> cases onS d a b <;> simp
/-- no two edges that are not neighbours meet -/
def Apart (ps : List Pt) : Prop := ∀ i j, i < ps.length → j < ps.length → i ≠ j → (i + 1) % ps.length ≠ j → (j + 1) % ps.length ≠ i → meetS (atC ps i) (nxt ps i) (atC ps j) (nxt ps j) = false
theorem mod_in {i n : Nat} (h : i + 1 < n) : (i + 1) % n = i + 1 := Nat.mod_eq_of_lt h
theorem mod_last {i n : Nat} (h : i + 1 = n) : (i + 1) % n = 0 := by rw [h, Nat.mod_self]
theorem good_iff {ps : List Pt} : Good ps ↔ NoDeg ps ∧ Apart ps := by
  constructor
  · rintro ⟨h1, h2⟩
    refine ⟨h1, ?_⟩
    have key : ∀ i j, i < j → j < ps.length → (i + 1) % ps.length ≠ j → (j + 1) % ps.length ≠ i → meetS (atC ps i) (nxt ps i) (atC ps j) (nxt ps j) = false := by
      intro i j hij hj n1 n2
      rw [mod_in (by omega)] at n1
      have := h2 i j (by omega) hj
      unfold crossB at this
      rwa [decide_eq_true n2, Bool.true_and] at this
    intro i j hi hj hne n1 n2
    rcases Nat.lt_or_gt_of_ne hne with z | z
    · exact key i j z hj n1 n2
    · rw [meet_comm]
      exact key j i z hi n2 n1
  · rintro ⟨h1, h2⟩
    refine ⟨h1, fun i j hij hj => ?_⟩
    unfold crossB
    by_cases hc : (j + 1) % ps.length = i
    · rw [decide_eq_false (by omega), Bool.false_and]
    · rw [decide_eq_true hc, Bool.true_and]
      exact h2 i j (by omega) hj (by omega) (by rw [mod_in (by omega)]; omega) hc
/-! beginning elsewhere -/
def shf (n k i : Nat) : Nat := if i + k < n then i + k else i + k - n
theorem at_rot {l : List Pt} {k i : Nat} (hk : k ≤ l.length) (hi : i < l.length) : atC (rot k l) i = atC l (shf l.length k i) := by
  unfold rot shf
  refine atC_of ?_
  by_cases h : i + k < l.length
  · rw [if_pos h, List.getElem?_append_left (by rw [List.length_drop]; omega), List.getElem?_drop, Nat.add_comm k i]
    exact atC_get h
  · rw [if_neg h, List.getElem?_append_right (by rw [List.length_drop]; omega), List.length_drop, List.getElem?_take_of_lt (by omega)]
    have e : i - (l.length - k) = i + k - l.length := by omega
    rw [e]
    exact atC_get (by omega)
theorem rot_len (k : Nat) (l : List Pt) : (rot k l).length = l.length := (rot_perm k l).length_eq
theorem shf_lt {n k i : Nat} (hk : k ≤ n) (hi : i < n) : shf n k i < n := by
  unfold shf; split <;> omega
theorem nxt_rot {l : List Pt} {k i : Nat} (hk : k ≤ l.length) (hi : i < l.length) : nxt (rot k l) i = nxt l (shf l.length k i) := by
  have h2 : nxt (rot k l) i = atC l (shf l.length k ((i + 1) % l.length)) := by
    unfold nxt
    rw [rot_len]
    exact at_rot hk (Nat.mod_lt _ (by omega))
  rw [h2]
  unfold nxt
  congr 1
  rcases Nat.lt_or_ge (i + 1) l.length with h | h
  · rw [mod_in h]
    unfold shf
    by_cases a : i + k < l.length
    · rw [if_pos a]
      by_cases b : i + 1 + k < l.length
      · rw [if_pos b, mod_in (by omega)]; omega
      · rw [if_neg b, mod_last (by omega)]; omega
    · rw [if_neg a, if_neg (by omega), mod_in (by omega)]; omega
  · rw [mod_last (by omega)]
    unfold shf
    by_cases a : i + k < l.length
    · rw [if_pos a]
      obtain rfl : k = 0 := by omega
      rw [if_pos (by omega), mod_last (by omega)]
    · rw [if_neg a]
      by_cases b : 0 + k < l.length
      · rw [if_pos b, mod_in (by omega)]; omega
      · rw [if_neg b, mod_last (by omega)]; omega
theorem prv_eq {l : List Pt} {i : Nat} (hi : i < l.length) : prv l i = atC l (if i = 0 then l.length - 1 else i - 1) := by
  split
  · rename_i h; subst h; exact prv_0 (by omega)
  · exact prv_in (by omega) hi
theorem prv_rot {l : List Pt} {k i : Nat} (hk : k ≤ l.length) (hi : i < l.length) : prv (rot k l) i = prv l (shf l.length k i) := by
  rw [prv_eq (by rw [rot_len]; exact hi), prv_eq (shf_lt hk hi), rot_len, at_rot hk (by split <;> omega)]
  congr 1
  unfold shf
  repeat' split
  all_goals omega
theorem good_rot {l : List Pt} {k : Nat} (hk : k ≤ l.length) (h : Good l) : Good (rot k l) := by
  obtain ⟨h1, h2⟩ := good_iff.mp h
  refine good_iff.mpr ⟨fun i hi => ?_, fun i j hi hj hne n1 n2 => ?_⟩
  · rw [rot_len] at hi
    unfold tri0
    rw [at_rot hk hi, nxt_rot hk hi, prv_rot hk hi]
    exact h1 _ (shf_lt hk hi)
  · rw [rot_len] at hi hj n1 n2
    rw [at_rot hk hi, nxt_rot hk hi, at_rot hk hj, nxt_rot hk hj]
    have key : ∀ i j, i < l.length → j < l.length → (i + 1) % l.length ≠ j → (shf l.length k i + 1) % l.length ≠ shf l.length k j := by
      intro i j hi hj n1
      have a := shf_lt hk hi
      rcases Nat.lt_or_ge (shf l.length k i + 1) l.length with z | z
      · rw [mod_in z]
        rcases Nat.lt_or_ge (i + 1) l.length with y | y
        · rw [mod_in y] at n1
          unfold shf at z ⊢
          repeat' split
          all_goals (try split at z) <;> omega
        · rw [mod_last (by omega)] at n1
          unfold shf at z ⊢
          repeat' split
          all_goals (try split at z) <;> omega
      · rw [mod_last (by omega)]
        rcases Nat.lt_or_ge (i + 1) l.length with y | y
        · rw [mod_in y] at n1
          unfold shf at z ⊢
          repeat' split
          all_goals (try split at z) <;> omega
        · rw [mod_last (by omega)] at n1
          unfold shf at z ⊢
          repeat' split
          all_goals (try split at z) <;> omega
    refine h2 _ _ (shf_lt hk hi) (shf_lt hk hj) ?_ (key i j hi hj n1) (key j i hj hi n2)
    unfold shf
    repeat' split
    all_goals omega
/-! the other way round -/
theorem at_rev {l : List Pt} {i : Nat} (hi : i < l.length) : atC l.reverse i = atC l (l.length - 1 - i) := by
  refine atC_of ?_
  rw [List.getElem?_reverse hi]
  exact atC_get (by omega)
theorem nxt_eq {l : List Pt} {i : Nat} (hi : i < l.length) : nxt l i = atC l (if i + 1 = l.length then 0 else i + 1) := by
  split
  · exact nxt_last (by assumption)
  · exact nxt_in (by omega)
theorem nxt_rev {l : List Pt} {i : Nat} (hi : i < l.length) : nxt l.reverse i = prv l (l.length - 1 - i) := by
  rw [nxt_eq (by rw [List.length_reverse]; exact hi), prv_eq (by omega), List.length_reverse, at_rev (by split <;> omega)]
  congr 1
  repeat' split
  all_goals omega
theorem prv_rev {l : List Pt} {i : Nat} (hi : i < l.length) : prv l.reverse i = nxt l (l.length - 1 - i) := by
  rw [prv_eq (by rw [List.length_reverse]; exact hi), nxt_eq (by omega), List.length_reverse, at_rev (by split <;> omega)]
  congr 1
  repeat' split
  all_goals omega
theorem tri_rev {l : List Pt} {i : Nat} (hi : i < l.length) : tri0 l.reverse i = -tri0 l (l.length - 1 - i) := by
  unfold tri0
  rw [at_rev hi, nxt_rev hi, prv_rev hi, trn_back]
/-- the edge of l that is the i-th one of l.reverse, turned -/
def bck (n i : Nat) : Nat := if i + 1 = n then n - 1 else n - 2 - i
theorem edge_rev {l : List Pt} {i : Nat} (hi : i < l.length) : atC l.reverse i = nxt l (bck l.length i) ∧ nxt l.reverse i = atC l (bck l.length i) := by
  unfold bck
  constructor
  · rw [at_rev hi, nxt_eq (by split <;> omega)]
    congr 1
    repeat' split
    all_goals omega
  · rw [nxt_rev hi, prv_eq (by omega)]
    congr 1
    repeat' split
    all_goals omega
theorem good_rev {l : List Pt} (h : Good l) : Good l.reverse := by
  obtain ⟨h1, h2⟩ := good_iff.mp h
  refine good_iff.mpr ⟨fun i hi => ?_, fun i j hi hj hne n1 n2 => ?_⟩
  · rw [List.length_reverse] at hi
    rw [tri_rev hi]
    have := h1 (l.length - 1 - i) (by omega)
    omega
  · rw [List.length_reverse] at hi hj n1 n2
    rw [(edge_rev hi).1, (edge_rev hi).2, (edge_rev hj).1, (edge_rev hj).2, meet_swap, meet_comm, meet_swap, meet_comm]
    have lt : ∀ i, i < l.length → bck l.length i < l.length := fun i hi => by unfold bck; split <;> omega
    have key : ∀ i j, i < l.length → j < l.length → (i + 1) % l.length ≠ j → (bck l.length j + 1) % l.length ≠ bck l.length i := by
      intro i j hi hj n1
      rcases Nat.lt_or_ge (bck l.length j + 1) l.length with z | z
      · rw [mod_in z]
        rcases Nat.lt_or_ge (i + 1) l.length with y | y
        · rw [mod_in y] at n1
          unfold bck at z ⊢
          repeat' split
          all_goals (try split at z) <;> omega
        · rw [mod_last (by omega)] at n1
          unfold bck at z ⊢
          repeat' split
          all_goals (try split at z) <;> omega
      · have zz := lt j hj
        rw [mod_last (by omega)]
        rcases Nat.lt_or_ge (i + 1) l.length with y | y
        · rw [mod_in y] at n1
          unfold bck at z zz ⊢
          repeat' split
          all_goals (try split at z) <;> (try split at zz) <;> omega
        · rw [mod_last (by omega)] at n1
          unfold bck at z zz ⊢
          repeat' split
          all_goals (try split at z) <;> (try split at zz) <;> omega
    refine h2 _ _ (lt i hi) (lt j hj) ?_ (key j i hj hi n2) (key i j hi hj n1)
    unfold bck
    repeat' split
    all_goals omega
theorem good_spn {ps : List Pt} (h : Good ps) : Good (spn ps) := by
  unfold spn; split
  · exact h
  · exact good_rev h
theorem idx_le (p : Pt) : ∀ l : List Pt, idx p l ≤ l.length
  | [] => Nat.le_refl _
  | q :: l => by
    rw [idx]; split
    · exact Nat.zero_le _
    · exact Nat.succ_le_succ (idx_le p l)
theorem good_arr {ps : List Pt} (h : Good ps) : Good (arr ps) := good_rot (idx_le _ _) (good_spn h)
end G

/-! ### sums around a closed path; multiples -/
namespace G
open PySem PySem.Spec PyProof.Rows L2
section
variable (g : Pt → Pt → Int)
def pthG : List Pt → Int
  | a :: b :: l => g a b + pthG (b :: l)
  | _ => 0
theorem pthG_cons2 : ∀ l : List Pt, pthG g l = ((cons2 l).map fun e => g e.1 e.2).sum
  | [] => rfl
  | [_] => rfl
  | a :: b :: l => by
    rw [pthG, cons2, List.map_cons, List.sum_cons, pthG_cons2 (b :: l)]
theorem pthG_app : ∀ (l : List Pt) (a : Pt) (m : List Pt), pthG g (l ++ a :: m) = pthG g (l ++ [a]) + pthG g (a :: m)
  | [], a, m => by
    show pthG g (a :: m) = pthG g [a] + _
    rw [show pthG g [a] = 0 from rfl, Int.zero_add]
  | [b], a, m => by
    show g b a + pthG g (a :: m) = g b a + pthG g [a] + _
    rw [show pthG g [a] = 0 from rfl, Int.add_zero]
  | b :: c :: l, a, m => by
    show g b c + pthG g (c :: l ++ a :: m) = g b c + pthG g (c :: l ++ [a]) + _
    rw [pthG_app (c :: l) a m, Int.add_assoc]
theorem pthG_rev (hs : ∀ a b, g a b = g b a) : ∀ l : List Pt, pthG g l.reverse = pthG g l
  | [] => rfl
  | [_] => rfl
  | a :: b :: l => by
    rw [List.reverse_cons, List.reverse_cons, List.append_assoc]
    show pthG g (l.reverse ++ b :: [a]) = _
    rw [pthG_app, ← List.reverse_cons, pthG_rev hs (b :: l)]
    show _ + (g b a + 0) = g a b + _
    rw [hs b a]; omega
/-- the sum of g over the edges -/
def areG : List Pt → Int
  | [] => 0
  | p :: l => pthG g (p :: l ++ [p])
theorem areG_rot1 (p : Pt) (l : List Pt) : areG g (l ++ [p]) = areG g (p :: l) := by
  cases l with
  | nil => rfl
  | cons q l =>
    show pthG g (q :: l ++ [p] ++ [q]) = pthG g (p :: q :: l ++ [p])
    rw [List.append_assoc]
    show pthG g ((q :: l) ++ p :: [q]) = g p q + pthG g (q :: l ++ [p])
    rw [pthG_app]
    show _ + (g p q + 0) = _
    omega
theorem areG_rot : ∀ (l m : List Pt), areG g (l ++ m) = areG g (m ++ l)
  | [], m => by rw [List.nil_append, List.append_nil]
  | p :: l, m => by
    have e := areG_rot1 g p (l ++ m)
    have i := areG_rot l (m ++ [p])
    rw [List.append_assoc, List.singleton_append] at i
    rw [List.cons_append, ← e, List.append_assoc, i]
theorem areG_rev (hs : ∀ a b, g a b = g b a) : ∀ l : List Pt, areG g l.reverse = areG g l
  | [] => rfl
  | p :: l => by
    rw [List.reverse_cons, areG_rot1]
    show pthG g (p :: l.reverse ++ [p]) = pthG g (p :: l ++ [p])
    rw [← pthG_rev g hs, List.reverse_append]
    have e : (p :: l.reverse).reverse = l ++ [p] := by
      rw [List.reverse_cons, List.reverse_reverse]
    rw [e]
    rfl
theorem areG_rotj (j : Nat) (l : List Pt) : areG g (rot j l) = areG g l := by
  unfold rot
  rw [← areG_rot, List.take_append_drop]
theorem sum_edgs (ps : List Pt) : ((edgs ps).map fun e => g e.1 e.2).sum = areG g ps := by
  cases ps with
  | nil => rfl
  | cons p l =>
    rw [edgs_cons2]
    exact (pthG_cons2 g (p :: l ++ [p])).symm
theorem areG_arr (hs : ∀ a b, g a b = g b a) (ps : List Pt) : areG g (arr ps) = areG g ps := by
  unfold arr
  rw [areG_rotj]
  unfold spn
  split
  · rfl
  · exact areG_rev g hs ps
end
/-- the content of an edge -/
def edc (a b : Pt) : Int := cont (dif b a)
theorem edc_symm (a b : Pt) : edc a b = edc b a := by
  unfold edc cont dif
  show ((Int.gcd (b.1 - a.1) (b.2 - a.2) : Nat) : Int) = ((Int.gcd (a.1 - b.1) (a.2 - b.2) : Nat) : Int)
  have e1 : b.1 - a.1 = -(a.1 - b.1) := by omega
  have e2 : b.2 - a.2 = -(a.2 - b.2) := by omega
  rw [e1, e2, Int.gcd_neg, Int.neg_gcd]
/-- the number of grid points on the border -/
def brd (ps : List Pt) : Int := areG edc ps
theorem brd_arr (ps : List Pt) : brd (arr ps) = brd ps := areG_arr edc edc_symm ps
def mulP (k : Int) (p : Pt) : Pt := (p.1 * k, p.2 * k)
theorem edc_mul {k : Int} (hk : 0 < k) (a b : Pt) : edc (mulP k a) (mulP k b) = k * edc a b := by
  unfold edc cont dif mulP
  show ((Int.gcd (b.1 * k - a.1 * k) (b.2 * k - a.2 * k) : Nat) : Int) = k * ((Int.gcd (b.1 - a.1) (b.2 - a.2) : Nat) : Int)
  rw [← Int.sub_mul, ← Int.sub_mul, Int.gcd_mul_right, Int.natCast_mul]
  have e : ((k.natAbs : Nat) : Int) = k := by omega
  rw [e, Int.mul_comm]
theorem pthG_map {g h : Pt → Pt → Int} {f : Pt → Pt} {c : Int} (e : ∀ a b, h (f a) (f b) = c * g a b) : ∀ l : List Pt, pthG h (l.map f) = c * pthG g l
  | [] => by show 0 = c * 0; omega
  | [_] => by show 0 = c * 0; omega
  | a :: b :: l => by
    show h (f a) (f b) + pthG h ((b :: l).map f) = c * (g a b + pthG g (b :: l))
    rw [e, pthG_map e (b :: l), Int.mul_add]
theorem areG_map {g h : Pt → Pt → Int} {f : Pt → Pt} {c : Int} (e : ∀ a b, h (f a) (f b) = c * g a b) (l : List Pt) : areG h (l.map f) = c * areG g l := by
  cases l with
  | nil => show 0 = c * 0; omega
  | cons p l =>
    have := pthG_map e (p :: l ++ [p])
    rw [List.map_append] at this
    exact this
theorem brd_mul {k : Int} (hk : 0 < k) (ps : List Pt) : brd (ps.map (mulP k)) = k * brd ps := areG_map (edc_mul hk) ps
theorem pth_G (l : List Pt) : pth l = pthG crsP l := by rw [pth_cons2, pthG_cons2]
theorem are_G (l : List Pt) : are l = areG crsP l := by
  cases l with
  | nil => rfl
  | cons p l => exact pth_G _
theorem are_mul (k : Int) (ps : List Pt) : are (ps.map (mulP k)) = k * k * are ps := by
  rw [are_G, are_G]
  refine areG_map (fun a b => ?_) ps
  unfold crsP mulP
  show a.1 * k * (b.2 * k) - a.2 * k * (b.1 * k) = _
  grind
theorem trn_mul (k : Int) (a b c : Pt) : trn (mulP k a) (mulP k b) (mulP k c) = k * k * trn a b c := by
  unfold trn crs dif mulP
  show (b.1 * k - a.1 * k) * (c.2 * k - b.2 * k) - (b.2 * k - a.2 * k) * (c.1 * k - b.1 * k) = k * k * ((b.1 - a.1) * (c.2 - b.2) - (b.2 - a.2) * (c.1 - b.1))
  grind
theorem on_mul {k : Int} (hk : 0 < k) (p a b : Pt) : onS (mulP k p) (mulP k a) (mulP k b) = onS p a b := by
  rw [Bool.eq_iff_iff, on_iff, on_iff]
  constructor
  · rintro ⟨s, t, hs, ht, hst, e1, e2⟩
    refine ⟨s, t, hs, ht, hst, ?_, ?_⟩
    · refine Int.eq_of_mul_eq_mul_right (show k ≠ 0 by omega) ?_
      have e1 : (s + t) * (p.1 * k) = s * (a.1 * k) + t * (b.1 * k) := e1
      grind
    · refine Int.eq_of_mul_eq_mul_right (show k ≠ 0 by omega) ?_
      have e2 : (s + t) * (p.2 * k) = s * (a.2 * k) + t * (b.2 * k) := e2
      grind
  · rintro ⟨s, t, hs, ht, hst, e1, e2⟩
    refine ⟨s, t, hs, ht, hst, ?_, ?_⟩
    · show (s + t) * (p.1 * k) = s * (a.1 * k) + t * (b.1 * k)
      grind
    · show (s + t) * (p.2 * k) = s * (a.2 * k) + t * (b.2 * k)
      grind
theorem neg_mul_pos {c x : Int} (hc : 0 < c) : c * x < 0 ↔ x < 0 := by
  constructor
  · intro h
    rcases Int.lt_or_le x 0 with z | z
    · exact z
    · have := Int.mul_nonneg (show 0 ≤ c by omega) z; omega
  · exact Int.mul_neg_of_pos_of_neg hc
theorem meet_mul {k : Int} (hk : 0 < k) (a b c d : Pt) : meetS (mulP k a) (mulP k b) (mulP k c) (mulP k d) = meetS a b c d := by
  have hk2 : 0 < k * k := Int.mul_pos hk hk
  have key : ∀ x y : Int, decide (k * k * x * (k * k * y) < 0) = decide (x * y < 0) := fun x y => by
    have e : k * k * x * (k * k * y) = (k * k) * (k * k) * (x * y) := by grind
    rw [e]
    exact decide_eq_decide.mpr (neg_mul_pos (Int.mul_pos hk2 hk2))
  unfold meetS
  rw [on_mul hk, on_mul hk, on_mul hk, on_mul hk, trn_mul, trn_mul, trn_mul, trn_mul, key, key]
theorem good_mul {k : Int} (hk : 0 < k) {ps : List Pt} (g : Good ps) : Good (ps.map (mulP k)) := by
  constructor
  · intro i hi z
    rw [List.length_map] at hi
    unfold tri0 at z
    rw [at_map _ hi, nxt_map _ (by omega), prv_map _ (by omega), trn_mul] at z
    rcases Int.mul_eq_zero.mp z with w | w
    · have := Int.mul_pos hk hk; omega
    · exact g.1 i hi w
  · intro i j hij hj
    rw [List.length_map] at hj
    have := g.2 i j hij hj
    unfold crossB at this ⊢
    rwa [at_map _ (show i < ps.length by omega), at_map _ hj, nxt_map _ (by omega), nxt_map _ (by omega), meet_mul hk, List.length_map]
/-! sizes -/
theorem sum_bd {n : Nat} : ∀ {l : List Int}, (∀ x ∈ l, Bd n x) → Bd (n + l.length) l.sum
  | [], _ => by
    show (0 : Int).natAbs < 2 ^ (n + 0)
    exact Nat.two_pow_pos _
  | x :: l, h => by
    have h1 := h x List.mem_cons_self
    have h2 := sum_bd (l := l) fun y hy => h y (List.mem_cons_of_mem _ hy)
    rw [List.sum_cons, List.length_cons]
    exact (h1.mono (show n ≤ n + l.length by omega)).add h2
theorem cont_le {n : Nat} {p : Pt} (b : PBd n p) : Bd (n + 1) (cont p) := by
  unfold cont Bd
  rw [Int.natAbs_natCast]
  have h1 : p.1.natAbs < 2 ^ n := b.1
  have h2 : p.2.natAbs < 2 ^ n := b.2
  have e : 2 ^ (n + 1) = 2 ^ n + 2 ^ n := by rw [Nat.pow_succ]; omega
  by_cases z : p.1 = 0
  · rw [z, Int.gcd_zero_left]; omega
  · have := Int.gcd_le_natAbs_left (b := p.2) z
    omega
theorem edgs_mem {ps : List Pt} {e : Ed} (h : e ∈ edgs ps) : e.1 ∈ ps ∧ e.2 ∈ ps := by
  unfold edgs at h
  obtain ⟨i, hi, rfl⟩ := List.mem_map.mp h
  have hi := List.mem_range.mp hi
  exact ⟨atC_mem hi, nxt_mem (by omega)⟩
theorem edgs_len (ps : List Pt) : (edgs ps).length = ps.length := by unfold edgs; rw [List.length_map, List.length_range]
theorem brd_bd {n : Nat} {ps : List Pt} (h : AllBd n ps) : Bd (n + 2 + ps.length) (brd ps) := by
  unfold brd
  rw [← sum_edgs]
  have := sum_bd (n := n + 2) (l := (edgs ps).map fun e => edc e.1 e.2) fun x hx => by
    obtain ⟨e, he, rfl⟩ := List.mem_map.mp hx
    obtain ⟨m1, m2⟩ := edgs_mem he
    exact cont_le ((h _ m2).dif (h _ m1))
  rwa [List.length_map, edgs_len] at this
theorem are_bd {n : Nat} {ps : List Pt} (h : AllBd n ps) : Bd (n + n + 1 + ps.length) (are ps) := by
  rw [are_G, ← sum_edgs]
  have := sum_bd (n := n + n + 1) (l := (edgs ps).map fun e => crsP e.1 e.2) fun x hx => by
    obtain ⟨e, he, rfl⟩ := List.mem_map.mp hx
    obtain ⟨m1, m2⟩ := edgs_mem he
    exact ((h _ m1).1.mul (h _ m2).2).sub ((h _ m1).2.mul (h _ m2).1)
  rwa [List.length_map, edgs_len] at this
end G

/-! ### where a point lies: borders, crossings of a ray, under maps -/
namespace G
open PySem PySem.Spec PyProof.Rows L2
def dtU (u v : Pt) : Int := u.1 * v.1 + u.2 * v.2
/-- the path from u to v crosses the ray where s changes -/
def cr (s : Pt → Bool) (u v : Pt) : Bool := (s v && !s u && decide (0 < crs u v)) || (s u && !s v && decide (crs u v < 0))
theorem crs_sw (u v : Pt) : crs v u = -crs u v := by unfold crs; grind
theorem cr_symm (s : Pt → Bool) (u v : Pt) : cr s v u = cr s u v := by
  unfold cr
  rw [crs_sw u v, show decide (0 < -crs u v) = decide (crs u v < 0) by rw [decide_eq_decide]; omega, show decide (-crs u v < 0) = decide (0 < crs u v) by rw [decide_eq_decide]; omega, Bool.or_comm]
/-- s is the half plane to the left of d, with its edge or without -/
structure Sd (d : Pt) (s : Pt → Bool) : Prop where
  yes : ∀ w, s w = true → 0 ≤ crs d w
  no : ∀ w, s w = false → crs d w ≤ 0
  same : ∀ u v : Pt, crs u v = 0 → 0 < dtU u v → s u = s v
/-- 0 does not lie between u and v -/
def Nz (u v : Pt) : Prop := crs u v ≠ 0 ∨ 0 < dtU u v
theorem pl (d e u v : Pt) : crs d u * crs e v - crs d v * crs e u = crs d e * crs u v := by unfold crs; grind
theorem mul_nn {a b : Int} (h1 : 0 ≤ a) (h2 : 0 ≤ b) : 0 ≤ a * b := Int.mul_nonneg h1 h2
theorem mul_np {a b : Int} (h1 : a ≤ 0) (h2 : b ≤ 0) : 0 ≤ a * b := by
  have := Int.mul_nonneg (show 0 ≤ -a by omega) (show 0 ≤ -b by omega)
  rwa [Int.neg_mul_neg] at this
theorem mul_pn {a b : Int} (h1 : 0 ≤ a) (h2 : b ≤ 0) : a * b ≤ 0 := by
  have := Int.mul_nonneg h1 (show 0 ≤ -b by omega)
  rw [Int.mul_neg] at this; omega
theorem mul_nq {a b : Int} (h1 : a ≤ 0) (h2 : 0 ≤ b) : a * b ≤ 0 := by rw [Int.mul_comm]; exact mul_pn h2 h1
theorem cr_xor {d e : Pt} {s t : Pt → Bool} (hs : Sd d s) (ht : Sd e t) (hD : 0 < crs d e) {u v : Pt} (hN : Nz u v) :
    (cr s u v ^^ cr t u v) = ((s u && !t u) ^^ (s v && !t v)) := by
  by_cases hc : crs u v = 0
  · have h0 := hN.resolve_left (fun z => z hc)
    have e1 := hs.same u v hc h0
    have e2 := ht.same u v hc h0
    unfold cr
    rw [e1, e2]
    cases s v <;> cases t v <;> rfl
  · have hp := pl d e u v
    have pos : 0 < crs u v → 0 < crs d e * crs u v := fun h => Int.mul_pos hD h
    have neg : crs u v < 0 → crs d e * crs u v < 0 := fun h => by
      have := Int.mul_pos hD (show 0 < -crs u v by omega)
      rw [Int.mul_neg] at this; omega
    unfold cr
    rcases Int.lt_or_gt_of_ne hc with hlt | hgt
    · have hn := neg hlt
      rw [decide_eq_false (show ¬ 0 < crs u v by omega), decide_eq_true hlt]
      cases a1 : s u <;> cases a2 : s v <;> cases a3 : t u <;> cases a4 : t v <;> first | rfl | (
        exfalso
        have b1 := hs.yes u; have b2 := hs.no u; have b3 := hs.yes v; have b4 := hs.no v
        have c1 := ht.yes u; have c2 := ht.no u; have c3 := ht.yes v; have c4 := ht.no v
        simp only [a1, a2, a3, a4, true_implies, false_implies, Bool.true_eq_false, Bool.false_eq_true] at b1 b2 b3 b4 c1 c2 c3 c4
        have z1 : 0 ≤ crs d u * crs e v := by first | exact mul_nn (by assumption) (by assumption) | exact mul_np (by assumption) (by assumption)
        have z2 : crs d v * crs e u ≤ 0 := by first | exact mul_pn (by assumption) (by assumption) | exact mul_nq (by assumption) (by assumption)
        omega)
    · have hn := pos hgt
      rw [decide_eq_true hgt, decide_eq_false (show ¬ crs u v < 0 by omega)]
      cases a1 : s u <;> cases a2 : s v <;> cases a3 : t u <;> cases a4 : t v <;> first | rfl | (
        exfalso
        have b1 := hs.yes u; have b2 := hs.no u; have b3 := hs.yes v; have b4 := hs.no v
        have c1 := ht.yes u; have c2 := ht.no u; have c3 := ht.yes v; have c4 := ht.no v
        simp only [a1, a2, a3, a4, true_implies, false_implies, Bool.true_eq_false, Bool.false_eq_true] at b1 b2 b3 b4 c1 c2 c3 c4
        have z1 : crs d u * crs e v ≤ 0 := by first | exact mul_pn (by assumption) (by assumption) | exact mul_nq (by assumption) (by assumption)
        have z2 : 0 ≤ crs d v * crs e u := by first | exact mul_nn (by assumption) (by assumption) | exact mul_np (by assumption) (by assumption)
        omega)
/-- the half planes themselves -/
theorem same_dir {d u v : Pt} (hc : crs u v = 0) (h : 0 < dtU u v) : (0 < crs d u ↔ 0 < crs d v) ∧ (crs d u < 0 ↔ crs d v < 0) := by
  have hv : 0 < dtU v v := by
    unfold dtU at h ⊢
    have q : ∀ x : Int, 0 ≤ x * x := fun x => by
      rcases Int.le_total 0 x with z | z
      · exact mul_nn z z
      · exact mul_np z z
    have q1 := q v.1
    have q2 := q v.2
    by_cases z : v.1 = 0 ∧ v.2 = 0
    · rw [z.1, z.2] at h; simp at h
    · have q3 : ∀ x : Int, x ≠ 0 → 0 < x * x := fun x hx => by
        rcases Int.lt_or_gt_of_ne hx with y | y
        · have := Int.mul_pos (show 0 < -x by omega) (show 0 < -x by omega)
          rwa [Int.neg_mul_neg] at this
        · exact Int.mul_pos y y
      by_cases z1 : v.1 = 0
      · have := q3 v.2 (fun z2 => z ⟨z1, z2⟩); omega
      · have := q3 v.1 z1; omega
  have e : crs d u * dtU v v = dtU u v * crs d v := by unfold crs dtU at *; grind
  constructor
  · constructor
    · intro z
      have := Int.mul_pos z hv
      rw [e] at this
      exact Int.pos_of_mul_pos_right this (by omega) |> fun w => w
    · intro z
      have := Int.mul_pos h z
      rw [← e] at this
      exact Decidable.byContradiction fun y => absurd (mul_nq (show crs d u ≤ 0 by omega) (show 0 ≤ dtU v v by omega)) (by omega)
  · constructor
    · intro z
      have := Int.mul_pos (show 0 < -crs d u by omega) hv
      rw [Int.neg_mul, e] at this
      exact Decidable.byContradiction fun y => absurd (mul_nn (show 0 ≤ dtU u v by omega) (show 0 ≤ crs d v by omega)) (by omega)
    · intro z
      have := Int.mul_pos h (show 0 < -crs d v by omega)
      rw [Int.mul_neg, ← e] at this
      exact Decidable.byContradiction fun y => absurd (mul_nn (show 0 ≤ crs d u by omega) (show 0 ≤ dtU v v by omega)) (by omega)
def sdO (d w : Pt) : Bool := decide (0 < crs d w)
def sdC (d w : Pt) : Bool := decide (0 ≤ crs d w)
theorem sdO_ok (d : Pt) : Sd d (sdO d) where
  yes w h := by have := of_decide_eq_true h; omega
  no w h := by have := of_decide_eq_false h; omega
  same u v hc h := by unfold sdO; rw [decide_eq_decide]; exact (same_dir hc h).1
theorem sdC_ok (d : Pt) : Sd d (sdC d) where
  yes w h := of_decide_eq_true h
  no w h := by have := of_decide_eq_false h; omega
  same u v hc h := by
    unfold sdC; rw [decide_eq_decide]
    have := (same_dir (d := d) hc h).2; omega
/-- the crossings of a ray from p, edge by edge -/
def rayG (s : Pt → Bool) (p a b : Pt) : Int := if cr s (dif a p) (dif b p) = true then 1 else 0
theorem rayG_symm (s : Pt → Bool) (p a b : Pt) : rayG s p a b = rayG s p b a := by unfold rayG; rw [cr_symm]
theorem pth_par {g h : Pt → Pt → Int} {F : Pt → Int} : ∀ (l : List Pt) (p q : Pt), (∀ e ∈ cons2 (p :: l ++ [q]), ∃ k : Int, g e.1 e.2 + h e.1 e.2 = F e.2 - F e.1 + 2 * k) → ∃ k : Int, pthG g (p :: l ++ [q]) + pthG h (p :: l ++ [q]) = F q - F p + 2 * k
  | [], p, q, H => by
    obtain ⟨k, hk⟩ := H (p, q) (by simp [cons2])
    exact ⟨k, by show g p q + 0 + (h p q + 0) = _; simp only at hk; omega⟩
  | x :: l, p, q, H => by
    obtain ⟨k, hk⟩ := H (p, x) (by simp [cons2])
    obtain ⟨j, hj⟩ := pth_par l x q fun e he => H e (by rw [List.cons_append, List.cons_append]; show e ∈ cons2 (p :: x :: (l ++ [q])); unfold cons2; exact List.mem_cons_of_mem _ he)
    exact ⟨k + j, by show g p x + pthG g (x :: l ++ [q]) + (h p x + pthG h (x :: l ++ [q])) = _; simp only at hk; omega⟩
theorem are_par {g h : Pt → Pt → Int} (F : Pt → Int) (ps : List Pt) (H : ∀ e ∈ edgs ps, ∃ k : Int, g e.1 e.2 + h e.1 e.2 = F e.2 - F e.1 + 2 * k) : ∃ k : Int, areG g ps + areG h ps = 2 * k := by
  cases ps with
  | nil => exact ⟨0, rfl⟩
  | cons p l =>
    rw [edgs_cons2] at H
    obtain ⟨k, hk⟩ := pth_par l p p H
    exact ⟨k, by show pthG g (p :: l ++ [p]) + pthG h (p :: l ++ [p]) = _; omega⟩
theorem ray_two {d e : Pt} {s t : Pt → Bool} (hs : Sd d s) (ht : Sd e t) (hD : 0 < crs d e) {p : Pt} {ps : List Pt} (hN : ∀ x ∈ edgs ps, Nz (dif x.1 p) (dif x.2 p)) : areG (rayG s p) ps % 2 = areG (rayG t p) ps % 2 := by
  obtain ⟨k, hk⟩ := are_par (g := rayG s p) (h := rayG t p) (fun x => if (s (dif x p) && !t (dif x p)) = true then 1 else 0) ps fun x hx => by
    have z := cr_xor hs ht hD (hN x hx)
    unfold rayG
    generalize cr s (dif x.1 p) (dif x.2 p) = c1 at z ⊢
    generalize cr t (dif x.1 p) (dif x.2 p) = c2 at z ⊢
    generalize (s (dif x.1 p) && !t (dif x.1 p)) = w1 at z ⊢
    generalize (s (dif x.2 p) && !t (dif x.2 p)) = w2 at z ⊢
    cases c1 <;> cases c2 <;> cases w1 <;> cases w2 <;> first | (exact absurd z (by decide)) | exact ⟨0, by decide⟩ | exact ⟨1, by decide⟩
  omega
/-- any two rays -/
theorem ray_any {d : Pt} {s : Pt → Bool} (hs : Sd d s) (hd : d ≠ (0, 0)) {p : Pt} {ps : List Pt} (hN : ∀ x ∈ edgs ps, Nz (dif x.1 p) (dif x.2 p)) : areG (rayG s p) ps % 2 = areG (rayG (sdO (1, 0)) p) ps % 2 := by
  have hup := ray_two (sdO_ok (1, 0)) (sdO_ok (0, 1)) (by decide) hN
  have e1 : crs (1, 0) d = d.2 := by unfold crs; simp
  have e2 : crs d (1, 0) = -d.2 := by unfold crs; simp
  have e3 : crs (0, 1) d = -d.1 := by unfold crs; simp
  have e4 : crs d (0, 1) = d.1 := by unfold crs; simp
  rcases Int.lt_trichotomy d.2 0 with h | h | h
  · exact ray_two hs (sdO_ok (1, 0)) (by omega) hN
  · rcases Int.lt_trichotomy d.1 0 with h' | h' | h'
    · exact (ray_two (sdO_ok (0, 1)) hs (by omega) hN).symm.trans hup.symm
    · exact absurd (show d = (0, 0) by cases d; simp only at h h'; rw [h, h']) hd
    · exact (ray_two hs (sdO_ok (0, 1)) (by omega) hN).trans hup.symm
  · exact (ray_two (sdO_ok (1, 0)) hs (by omega) hN).symm
end G

/-! ### a point's place in a polygon; under maps and arrangements; far points -/
namespace G
open PySem PySem.Spec PyProof.Rows L2
theorem trn_crs (a b p : Pt) : trn a b p = crs (dif a p) (dif b p) := by unfold trn crs dif; simp only; grind
theorem nz_of {p a b : Pt} (h : onS p a b = false) : Nz (dif a p) (dif b p) := by
  by_cases hc : crs (dif a p) (dif b p) = 0
  · refine .inr (Decidable.byContradiction fun hd => ?_)
    have hd : dtU (dif a p) (dif b p) ≤ 0 := by omega
    have hon : onS p a b = true := by
      have ht : trn a b p = 0 := by rw [trn_crs]; exact hc
      unfold dtU at hd
      unfold crs at hc
      generalize hu1 : (dif a p).1 = u1 at hc hd
      generalize hu2 : (dif a p).2 = u2 at hc hd
      generalize hv1 : (dif b p).1 = v1 at hc hd
      generalize hv2 : (dif b p).2 = v2 at hc hd
      have hprod : (u1 * v1) * (u2 * v2) = (u1 * v2) * (u1 * v2) := by
        have e : u1 * v2 = u2 * v1 := by omega
        have : (u1 * v1) * (u2 * v2) = (u1 * v2) * (u2 * v1) := by grind
        rw [this, ← e]
      have hsq : 0 ≤ (u1 * v2) * (u1 * v2) := by
        rcases Int.le_total 0 (u1 * v2) with z | z
        · exact mul_nn z z
        · exact mul_np z z
      have neg : ∀ A B : Int, A + B ≤ 0 → 0 ≤ A * B → A ≤ 0 := fun A B h1 h2 => Decidable.byContradiction fun z => by
        have := Int.mul_pos (show 0 < A by omega) (show 0 < -B by omega)
        rw [Int.mul_neg] at this; omega
      have n1 := neg (u1 * v1) (u2 * v2) hd (by rw [hprod]; exact hsq)
      have n2 := neg (u2 * v2) (u1 * v1) (by omega) (by rw [Int.mul_comm, hprod]; exact hsq)
      have bt : ∀ u v x y z : Int, u * v ≤ 0 → x - z = u → y - z = v → btw1 z x y = true := fun u v x y z h e1 e2 => by
        unfold btw1
        have key : (u ≤ 0 ∧ 0 ≤ v) ∨ (0 ≤ u ∧ v ≤ 0) := by
          rcases Int.lt_trichotomy u 0 with a | a | a
          · rcases Int.lt_trichotomy v 0 with b | b | b
            · have := Int.mul_pos (show 0 < -u by omega) (show 0 < -v by omega)
              rw [Int.neg_mul_neg] at this; omega
            · exact .inl ⟨by omega, by omega⟩
            · exact .inl ⟨by omega, by omega⟩
          · rcases Int.le_total 0 v with b | b
            · exact .inl ⟨by omega, b⟩
            · exact .inr ⟨by omega, b⟩
          · rcases Int.lt_trichotomy v 0 with b | b | b
            · exact .inr ⟨by omega, by omega⟩
            · exact .inr ⟨by omega, by omega⟩
            · have := Int.mul_pos a b; omega
        rw [decide_eq_true (by omega), decide_eq_true (by omega)]; rfl
      unfold onS btw
      rw [decide_eq_true ht, bt u1 v1 a.1 b.1 p.1 n1 hu1 hv1, bt u2 v2 a.2 b.2 p.2 n2 hu2 hv2]; rfl
    rw [h] at hon; cases hon
  · exact .inl hc
abbrev up : Pt → Bool := sdO (1, 0)
theorem up_eq (w : Pt) : up w = decide (0 < w.2) := by
  show decide (0 < crs (1, 0) w) = _
  unfold crs; simp
def bdG (p a b : Pt) : Int := if onS p a b = true then 1 else 0
theorem bdG_symm (p a b : Pt) : bdG p a b = bdG p b a := by unfold bdG; rw [onS_swap]
def loc (p : Pt) (ps : List Pt) : Str := if 0 < areG (bdG p) ps then "border" else if areG (rayG up p) ps % 2 = 1 then "inside" else "outside"
theorem loc_arr (p : Pt) (ps : List Pt) : loc p (arr ps) = loc p ps := by
  unfold loc
  rw [areG_arr _ (bdG_symm p), areG_arr _ (rayG_symm up p)]
theorem sum_nn {l : List Int} (h : ∀ x ∈ l, 0 ≤ x) : 0 ≤ l.sum ∧ (l.sum ≤ 0 → ∀ x ∈ l, x = 0) := by
  induction l with
  | nil => exact ⟨Int.le_refl _, fun _ x hx => nomatch hx⟩
  | cons a l ih =>
    obtain ⟨i1, i2⟩ := ih fun x hx => h x (List.mem_cons_of_mem _ hx)
    have h0 := h a List.mem_cons_self
    rw [List.sum_cons]
    refine ⟨by omega, fun z x hx => ?_⟩
    rcases List.mem_cons.mp hx with rfl | hx
    · omega
    · exact i2 (by omega) x hx
theorem bd_none {p : Pt} {ps : List Pt} (h : ¬ 0 < areG (bdG p) ps) : ∀ e ∈ edgs ps, onS p e.1 e.2 = false := by
  intro e he
  rw [← sum_edgs] at h
  have := (sum_nn (l := (edgs ps).map fun e => bdG p e.1 e.2) (fun x hx => by
    obtain ⟨y, _, rfl⟩ := List.mem_map.mp hx
    unfold bdG; split <;> decide)).2 (by omega) _ (List.mem_map.mpr ⟨e, he, rfl⟩)
  unfold bdG at this
  cases hh : onS p e.1 e.2 with
  | false => rfl
  | true => rw [hh] at this; simp at this
theorem bd_some {p : Pt} {ps : List Pt} {e : Ed} (he : e ∈ edgs ps) (h : onS p e.1 e.2 = true) : 0 < areG (bdG p) ps := by
  refine Decidable.byContradiction fun z => ?_
  have := bd_none z e he
  rw [h] at this; cases this
theorem img_dif (m : M6) (a p : Pt) : (dif (m.img a) (m.img p)).2 = crs (m.d, -m.c) (dif a p) := by
  unfold M6.img dif crs; simp only; grind
theorem img_crs (m : M6) (a b p : Pt) : crs (dif (m.img a) (m.img p)) (dif (m.img b) (m.img p)) = m.det * crs (dif a p) (dif b p) := by
  unfold M6.img dif crs M6.det; simp only; grind
theorem loc_img {m : M6} (h : m.Ok) (p : Pt) (ps : List Pt) : loc (m.img p) (ps.map m.img) = loc p ps := by
  have e1 : areG (bdG (m.img p)) (ps.map m.img) = areG (bdG p) ps := by
    have := areG_map (g := bdG p) (h := bdG (m.img p)) (f := m.img) (c := 1) (fun a b => by unfold bdG; rw [on_img h]; simp) ps
    rw [this]; simp
  unfold loc
  rw [e1]
  by_cases hb : 0 < areG (bdG p) ps
  · rw [if_pos hb, if_pos hb]
  · rw [if_neg hb, if_neg hb]
    have hN : ∀ x ∈ edgs ps, Nz (dif x.1 p) (dif x.2 p) := fun x hx => nz_of (bd_none hb x hx)
    have hd : ((m.d, -m.c) : Pt) ≠ (0, 0) := fun z => by
      have z1 : m.d = 0 := congrArg Prod.fst z
      have z2 : -m.c = 0 := congrArg Prod.snd z
      have z3 : m.c = 0 := by omega
      unfold M6.Ok M6.det at h
      rw [z1, z3] at h; simp at h
    have e2 : areG (rayG up (m.img p)) (ps.map m.img) % 2 = areG (rayG up p) ps % 2 := by
      rcases h with h | h
      · have := areG_map (g := rayG (sdO (m.d, -m.c)) p) (h := rayG up (m.img p)) (f := m.img) (c := 1) (fun a b => by
          unfold rayG cr
          rw [img_crs, h, up_eq, up_eq, img_dif, img_dif, Int.one_mul, Int.one_mul]; rfl) ps
        rw [this, Int.one_mul]
        exact ray_any (sdO_ok _) hd hN
      · have := areG_map (g := rayG (sdC (-m.d, m.c)) p) (h := rayG up (m.img p)) (f := m.img) (c := 1) (fun a b => by
          unfold rayG cr
          rw [img_crs, h, up_eq, up_eq, img_dif, img_dif, Int.one_mul]
          have en : ∀ w : Pt, sdC (-m.d, m.c) w = !decide (0 < crs (m.d, -m.c) w) := fun w => by
            have : crs (-m.d, m.c) w = -crs (m.d, -m.c) w := by unfold crs; simp only; grind
            unfold sdC
            rw [this, ← decide_not, decide_eq_decide]; omega
          rw [en, en]
          have f1 : decide (0 < -1 * crs (dif a p) (dif b p)) = decide (crs (dif a p) (dif b p) < 0) := by rw [decide_eq_decide]; omega
          have f2 : decide (-1 * crs (dif a p) (dif b p) < 0) = decide (0 < crs (dif a p) (dif b p)) := by rw [decide_eq_decide]; omega
          rw [f1, f2]
          generalize decide (0 < crs (m.d, -m.c) (dif a p)) = x
          generalize decide (0 < crs (m.d, -m.c) (dif b p)) = y
          generalize decide (crs (dif a p) (dif b p) < 0) = z
          generalize decide (0 < crs (dif a p) (dif b p)) = w
          cases x <;> cases y <;> cases z <;> cases w <;> rfl) ps
        rw [this, Int.one_mul]
        refine ray_any (sdC_ok _) (fun z => hd ?_) hN
        have z1 : -m.d = 0 := congrArg Prod.fst z
        have z2 : m.c = 0 := congrArg Prod.snd z
        rw [show m.d = 0 by omega, z2]; rfl
    rw [e2]
/-- the program's toggle -/
theorem tog_eq {p a b : Pt} (h : onS p a b = false) : ((decide (p.2 < a.2) != decide (p.2 < b.2)) && (decide (0 < trn a b p) == decide (a.2 < b.2))) = cr up (dif a p) (dif b p) := by
  have hn := nz_of h
  have same := (sdO_ok (1, 0)).same (dif a p) (dif b p)
  have e1 : up (dif a p) = decide (p.2 < a.2) := by rw [up_eq, decide_eq_decide]; show 0 < a.2 - p.2 ↔ _; omega
  have e2 : up (dif b p) = decide (p.2 < b.2) := by rw [up_eq, decide_eq_decide]; show 0 < b.2 - p.2 ↔ _; omega
  unfold cr
  rw [e1, e2, trn_crs]
  rw [show sdO (1, 0) (dif a p) = decide (p.2 < a.2) from e1, show sdO (1, 0) (dif b p) = decide (p.2 < b.2) from e2] at same
  by_cases ha : p.2 < a.2 <;> by_cases hb : p.2 < b.2
  · rw [decide_eq_true ha, decide_eq_true hb]; rfl
  · rw [decide_eq_true ha, decide_eq_false hb, decide_eq_false (show ¬ a.2 < b.2 by omega)]
    rw [decide_eq_true ha, decide_eq_false hb] at same
    rcases Int.lt_trichotomy (crs (dif a p) (dif b p)) 0 with z | z | z
    · rw [decide_eq_false (show ¬ 0 < crs (dif a p) (dif b p) by omega), decide_eq_true z]; rfl
    · exact absurd (same z (hn.resolve_left fun y => y z)) (by decide)
    · rw [decide_eq_true z, decide_eq_false (show ¬ crs (dif a p) (dif b p) < 0 by omega)]; rfl
  · rw [decide_eq_false ha, decide_eq_true hb, decide_eq_true (show a.2 < b.2 by omega)]
    cases decide (0 < crs (dif a p) (dif b p)) <;> rfl
  · rw [decide_eq_false ha, decide_eq_false hb]; rfl
/-- the law's toggle: the lower end first -/
theorem tog_low {p s e : Pt} (h : s.2 ≤ e.2) : (decide (s.2 ≤ p.2) && (decide (p.2 < e.2) && decide (0 < trn s e p))) = cr up (dif s p) (dif e p) := by
  have e1 : up (dif s p) = !decide (s.2 ≤ p.2) := by rw [up_eq, ← decide_not, decide_eq_decide]; show 0 < s.2 - p.2 ↔ _; omega
  have e2 : up (dif e p) = decide (p.2 < e.2) := by rw [up_eq, decide_eq_decide]; show 0 < e.2 - p.2 ↔ _; omega
  unfold cr
  rw [e1, e2, trn_crs]
  by_cases h1 : s.2 ≤ p.2 <;> by_cases h2 : p.2 < e.2
  · rw [decide_eq_true h1, decide_eq_true h2]; simp
  · rw [decide_eq_true h1, decide_eq_false h2]; rfl
  · rw [decide_eq_false h1, decide_eq_true h2]; rfl
  · omega
theorem on_low {p s e : Pt} (h : s.2 ≤ e.2) : (decide (trn s e p = 0) && ((decide (s.2 ≤ p.2) && decide (p.2 ≤ e.2)) && (decide (min s.1 e.1 ≤ p.1) && decide (p.1 ≤ max s.1 e.1)))) = onS p s e := by
  unfold onS btw btw1
  rw [show min s.2 e.2 = s.2 by omega, show max s.2 e.2 = e.2 by omega]
  generalize decide (trn s e p = 0) = a
  generalize decide (s.2 ≤ p.2) = b
  generalize decide (p.2 ≤ e.2) = c
  generalize (decide (min s.1 e.1 ≤ p.1) && decide (p.1 ≤ max s.1 e.1)) = d
  cases a <;> cases b <;> cases c <;> cases d <;> rfl
/-- the edges as the law takes them -/
def edgL (ps : List Pt) : List Ed := (List.range ps.length).map fun j => (prv ps j, atC ps j)
theorem sum_edgL (g : Pt → Pt → Int) (ps : List Pt) (h : 0 < ps.length) : ((edgL ps).map fun e => g e.1 e.2).sum = areG g ps := by
  have hne : ps ≠ [] := fun z => by subst z; simp at h
  obtain ⟨l, p, rfl⟩ : ∃ l p, ps = l ++ [p] := ⟨ps.dropLast, ps.getLast hne, (List.dropLast_concat_getLast hne).symm⟩
  have key : edgL (l ++ [p]) = cons2 (p :: (l ++ [p])) := by
    refine List.ext_getElem? fun i => ?_
    have hlen : (l ++ [p]).length = l.length + 1 := by simp
    unfold edgL
    rcases Nat.lt_or_ge i (l.length + 1) with hi | hi
    · rw [List.getElem?_map, List.getElem?_range (by omega)]
      refine (cons2_get _ i _ _ ?_ ?_).symm
      · unfold prv
        rw [hlen]
        cases i with
        | zero =>
          rw [show (0 + (l.length + 1) - 1) % (l.length + 1) = l.length from by rw [Nat.zero_add, Nat.add_sub_cancel]; exact Nat.mod_eq_of_lt (Nat.lt_succ_self _)]
          rw [atC_of (p := p) (by simp)]; rfl
        | succ i =>
          rw [show (i + 1 + (l.length + 1) - 1) % (l.length + 1) = i from by
            rw [show i + 1 + (l.length + 1) - 1 = i + (l.length + 1) by omega, Nat.add_mod_right]; exact Nat.mod_eq_of_lt (by omega)]
          rw [List.getElem?_cons_succ]
          exact atC_get (by omega)
      · rw [List.getElem?_cons_succ]
        exact atC_get (by omega)
    · rw [List.getElem?_eq_none (by rw [List.length_map, List.length_range]; omega), List.getElem?_eq_none (by rw [cons2_len, List.length_cons]; omega)]
  rw [key, ← pthG_cons2 g (p :: (l ++ [p])), areG_rot1]
  rfl
/-! far points -/
theorem on_far {p : Pt} {ps : List Pt} (h : (∀ q ∈ ps, p.1 < q.1) ∨ (∀ q ∈ ps, q.1 < p.1) ∨ (∀ q ∈ ps, p.2 < q.2) ∨ (∀ q ∈ ps, q.2 < p.2)) : ¬ 0 < areG (bdG p) ps := by
  rw [← sum_edgs]
  have z : ∀ x ∈ (edgs ps).map fun e => bdG p e.1 e.2, x = 0 := fun x hx => by
    obtain ⟨e, he, rfl⟩ := List.mem_map.mp hx
    obtain ⟨m1, m2⟩ := edgs_mem he
    unfold bdG
    cases ho : onS p e.1 e.2 with
    | false => rfl
    | true =>
      exfalso
      obtain ⟨_, b1, b2, b3, b4⟩ := on_box ho
      rcases h with h | h | h | h
      · have := h _ m1; have := h _ m2; omega
      · have := h _ m1; have := h _ m2; omega
      · have := h _ m1; have := h _ m2; omega
      · have := h _ m1; have := h _ m2; omega
  have : ∀ l : List Int, (∀ x ∈ l, x = 0) → l.sum = 0 := fun l => by
    induction l with
    | nil => intro _; rfl
    | cons a l ih => intro hl; rw [List.sum_cons, hl a List.mem_cons_self, ih fun x hx => hl x (List.mem_cons_of_mem _ hx)]; rfl
  rw [this _ z]; decide
theorem loc_far {p : Pt} {ps : List Pt} (h : (∀ q ∈ ps, p.1 < q.1) ∨ (∀ q ∈ ps, q.1 < p.1) ∨ (∀ q ∈ ps, p.2 < q.2) ∨ (∀ q ∈ ps, q.2 < p.2)) : loc p ps = "outside" := by
  unfold loc
  rw [if_neg (on_far h)]
  have key : ∀ g : Pt → Int, (∀ e ∈ edgs ps, rayG up p e.1 e.2 = g e.2 - g e.1 ∨ rayG up p e.1 e.2 = g e.1 - g e.2) → areG (rayG up p) ps % 2 = 0 := fun g hg => by
    obtain ⟨k, hk⟩ := are_par (g := rayG up p) (h := fun _ _ => 0) g ps fun e he => by
      rcases hg e he with z | z
      · exact ⟨0, by rw [z]; omega⟩
      · exact ⟨g e.1 - g e.2, by rw [z]; omega⟩
    have z0 : areG (fun _ _ => 0) ps = 0 := by
      rw [← sum_edgs]
      generalize edgs ps = l
      induction l with
      | nil => rfl
      | cons a l ih => rw [List.map_cons, List.sum_cons, ih]; rfl
    omega
  have ev : areG (rayG up p) ps % 2 = 0 := by
    rcases h with h | h | h | h
    · refine key (fun q => if up (dif q p) = true then 1 else 0) fun e he => ?_
      obtain ⟨m1, m2⟩ := edgs_mem he
      have x1 : 0 < (dif e.1 p).1 := by show 0 < e.1.1 - p.1; have := h _ m1; omega
      have x2 : 0 < (dif e.2 p).1 := by show 0 < e.2.1 - p.1; have := h _ m2; omega
      unfold rayG cr
      generalize dif e.1 p = u at x1 ⊢
      generalize dif e.2 p = v at x2 ⊢
      rw [up_eq, up_eq]
      by_cases a1 : 0 < u.2 <;> by_cases a2 : 0 < v.2
      · rw [decide_eq_true a1, decide_eq_true a2]; exact .inl rfl
      · have c : crs u v < 0 := by
          unfold crs
          have := mul_pn (show 0 ≤ u.1 by omega) (show v.2 ≤ 0 by omega)
          have := Int.mul_pos a1 x2
          omega
        rw [decide_eq_true a1, decide_eq_false a2, decide_eq_true c]; exact .inr (by simp)
      · have c : 0 < crs u v := by
          unfold crs
          have := Int.mul_pos x1 a2
          have := mul_nq (show u.2 ≤ 0 by omega) (show 0 ≤ v.1 by omega)
          omega
        rw [decide_eq_false a1, decide_eq_true a2, decide_eq_true c]; exact .inl (by simp)
      · rw [decide_eq_false a1, decide_eq_false a2]; exact .inl rfl
    · refine key (fun _ => 0) fun e he => .inl ?_
      obtain ⟨m1, m2⟩ := edgs_mem he
      have x1 : (dif e.1 p).1 < 0 := by show e.1.1 - p.1 < 0; have := h _ m1; omega
      have x2 : (dif e.2 p).1 < 0 := by show e.2.1 - p.1 < 0; have := h _ m2; omega
      unfold rayG cr
      generalize dif e.1 p = u at x1 ⊢
      generalize dif e.2 p = v at x2 ⊢
      rw [up_eq, up_eq]
      by_cases a1 : 0 < u.2 <;> by_cases a2 : 0 < v.2
      · rw [decide_eq_true a1, decide_eq_true a2]; rfl
      · have c : ¬ crs u v < 0 := by
          unfold crs
          have := mul_np (show u.1 ≤ 0 by omega) (show v.2 ≤ 0 by omega)
          have := mul_pn (show 0 ≤ u.2 by omega) (show v.1 ≤ 0 by omega)
          omega
        rw [decide_eq_true a1, decide_eq_false a2, decide_eq_false c]; simp
      · have c : ¬ 0 < crs u v := by
          unfold crs
          have := mul_nq (show u.1 ≤ 0 by omega) (show 0 ≤ v.2 by omega)
          have := mul_np (show u.2 ≤ 0 by omega) (show v.1 ≤ 0 by omega)
          omega
        rw [decide_eq_false a1, decide_eq_true a2, decide_eq_false c]; simp
      · rw [decide_eq_false a1, decide_eq_false a2]; rfl
    · refine key (fun _ => 0) fun e he => .inl ?_
      obtain ⟨m1, m2⟩ := edgs_mem he
      have u1 : up (dif e.1 p) = true := by rw [up_eq]; exact decide_eq_true (by show 0 < e.1.2 - p.2; have := h _ m1; omega)
      have u2 : up (dif e.2 p) = true := by rw [up_eq]; exact decide_eq_true (by show 0 < e.2.2 - p.2; have := h _ m2; omega)
      unfold rayG cr
      rw [u1, u2]; rfl
    · refine key (fun _ => 0) fun e he => .inl ?_
      obtain ⟨m1, m2⟩ := edgs_mem he
      have u1 : up (dif e.1 p) = false := by rw [up_eq]; exact decide_eq_false (by show ¬ 0 < e.1.2 - p.2; have := h _ m1; omega)
      have u2 : up (dif e.2 p) = false := by rw [up_eq]; exact decide_eq_false (by show ¬ 0 < e.2.2 - p.2; have := h _ m2; omega)
      unfold rayG cr
      rw [u1, u2]; rfl
  rw [if_neg (by omega)]
end G

/-! ### the area of a drawn polygon -/
namespace G
open PySem PySem.Spec PyProof.Rows L2
def hdXY : List Pt → Int
  | [] => 0
  | a :: _ => a.1 * a.2
theorem pth_low {z : Pt} (hz : z.2 = 0) : ∀ l : List Pt, (l ++ [z]).Pairwise (fun p q => 0 ≤ (p.1 - q.1) * (p.2 + q.2)) → -hdXY l ≤ pth (l ++ [z])
  | [], _ => Int.le_refl 0
  | [a], h => by
    have h1 := (List.pairwise_cons.1 h).1 z (List.mem_singleton.2 rfl)
    show -(a.1 * a.2) ≤ crsP a z + 0
    unfold crsP
    rw [hz] at h1 ⊢
    grind
  | a :: b :: l, h => by
    have h1 := (List.pairwise_cons.1 h).1 b (List.mem_cons_self ..)
    have ih := pth_low hz (b :: l) (List.pairwise_cons.1 h).2
    show -(a.1 * a.2) ≤ crsP a b + pth (b :: l ++ [z])
    have ih' : -(b.1 * b.2) ≤ pth (b :: l ++ [z]) := ih
    have e : crsP a b = (a.1 - b.1) * (a.2 + b.2) + (b.1 * b.2 - a.1 * a.2) := by unfold crsP; grind
    omega
theorem ML.are {L R : Pt} {B A : List Pt} (h : ML L R B A) : 0 < G.are (shp L R B A) := by
  have e : G.are (shp L R B A) = pth (L :: B ++ [R]) + pth (R :: A ++ [L]) := by
    show pth (L :: (B ++ R :: A) ++ [L]) = _
    rw [show L :: (B ++ R :: A) ++ [L] = (L :: B) ++ R :: (A ++ [L]) by simp, pth_app]
    rfl
  have up : 0 ≤ pth (R :: A ++ [L]) := by
    have := pth_low h.y0 (R :: A) ((List.Pairwise.and_mem.1 h.xu).imp (S := fun p q => 0 ≤ (p.1 - q.1) * (p.2 + q.2)) fun {p q} ⟨hp, hq, hx⟩ => by
      have y : ∀ r ∈ R :: A ++ [L], 0 ≤ r.2 := fun r hr => by
        rcases List.mem_append.1 hr with z | z
        · rcases List.mem_cons.1 z with rfl | z
          · rw [h.yR]; decide
          · have := h.ya r z; omega
        · rw [List.mem_singleton.1 z, h.y0]; decide
      have := y p hp; have := y q hq
      exact Int.mul_nonneg (by omega) (by omega))
    rwa [show hdXY (R :: A) = R.1 * R.2 from rfl, h.yR, Int.mul_zero] at this
  have lo : 0 < pth (L :: B ++ [R]) := by
    cases B with
    | nil => exact absurd rfl h.hB
    | cons b B =>
      have := pth_low h.yR (b :: B) (List.pairwise_cons.1 ((List.Pairwise.and_mem.1 h.xl).imp (S := fun p q => 0 ≤ (p.1 - q.1) * (p.2 + q.2)) fun {p q} ⟨hp, hq, hx⟩ => by
        have y : ∀ r ∈ L :: (b :: B) ++ [R], r.2 ≤ 0 := fun r hr => by
          rcases List.mem_append.1 hr with z | z
          · rcases List.mem_cons.1 z with rfl | z
            · rw [h.y0]; decide
            · have := h.yb r z; omega
          · rw [List.mem_singleton.1 z, h.yR]; decide
        have := y p hp; have := y q hq
        exact Int.mul_nonneg_of_nonpos_of_nonpos (by omega) (by omega))).2
      have h2 : -(b.1 * b.2) ≤ pth (b :: B ++ [R]) := this
      have hx : L.1 < b.1 := (List.pairwise_cons.1 h.xl).1 b (List.mem_cons_self ..)
      have hy := h.yb b (List.mem_cons_self ..)
      have hp : 0 < (b.1 - L.1) * (-b.2) := Int.mul_pos (by omega) (by omega)
      show 0 < crsP L b + pth (b :: B ++ [R])
      have e2 : crsP L b = (b.1 - L.1) * (-b.2) + b.1 * b.2 := by unfold crsP; rw [h.y0]; grind
      omega
  omega
end G

/-! ### grid points counted column by column -/
namespace G
open PySem PySem.Spec PyProof.Rows L2
/-- f at u, u + 1, .. (n of them) -/
def sI (u : Int) : Nat → (Int → Int) → Int
  | 0, _ => 0
  | n + 1, f => sI u n f + f (u + (n : Int))
theorem sI_add (u : Int) (n : Nat) (f : Int → Int) : ∀ m : Nat, sI u (n + m) f = sI u n f + sI (u + n) m f
  | 0 => by show sI u n f = _ + 0; omega
  | m + 1 => by
    show sI u (n + m) f + f (u + ((n + m : Nat) : Int)) = sI u n f + (sI (u + n) m f + f (u + n + (m : Int)))
    rw [sI_add u n f m, show u + ((n + m : Nat) : Int) = u + n + (m : Int) by omega]; omega
theorem sI_congr {u : Int} {f g : Int → Int} : ∀ {n : Nat}, (∀ k : Nat, k < n → f (u + k) = g (u + k)) → sI u n f = sI u n g
  | 0, _ => rfl
  | n + 1, h => by
    show sI u n f + _ = sI u n g + _
    rw [sI_congr fun k hk => h k (by omega), h n (by omega)]
theorem sI_lin {u c d : Int} {f g : Int → Int} : ∀ n : Nat, sI u n (fun x => c * f x + d * g x) = c * sI u n f + d * sI u n g
  | 0 => by show (0 : Int) = c * 0 + d * 0; omega
  | n + 1 => by
    show sI u n _ + (c * f (u + n) + d * g (u + n)) = c * (sI u n f + f (u + n)) + d * (sI u n g + g (u + n))
    rw [sI_lin n]; grind
theorem sI_lt {u t : Int} : ∀ n : Nat, u ≤ t → t ≤ u + n → sI u n (fun x => if x < t then 1 else 0) = t - u
  | 0, h1, h2 => by show (0 : Int) = t - u; omega
  | n + 1, h1, h2 => by
    show sI u n _ + (if u + (n : Int) < t then 1 else 0) = t - u
    by_cases h : t ≤ u + n
    · rw [sI_lt n h1 h, if_neg (by omega)]; omega
    · have e : t = u + n + 1 := by omega
      rw [if_pos (by omega)]
      have : sI u n (fun x => if x < t then 1 else 0) = sI u n (fun x => if x < u + n then 1 else 0) := sI_congr fun k hk => by rw [if_pos (by omega), if_pos (by omega)]
      rw [this, sI_lt n (by omega) (by omega)]; omega
/-! one edge -/
def inC (a b : Pt) (x : Int) : Bool := decide (a.1 ≤ x) && decide (x < b.1)
def belE (p a b : Pt) : Int := if inC a b p.1 = true ∧ trn a b p < 0 then 1 else 0
def onnE (p a b : Pt) : Int := if inC a b p.1 = true ∧ trn a b p = 0 then 1 else 0
theorem trn_at (a b : Pt) (k y : Int) : trn a b (a.1 + k, y) = (b.1 - a.1) * (y - a.2) - (b.2 - a.2) * k := by
  unfold trn crs dif; simp only; grind
/-- 13 rows from -6 on -/
def sJ (f : Int → Int) : Int := sI (-6) 13 f
theorem row_lt {w q a : Int} (hw : 0 < w) (h1 : -6 ≤ a - (-q) / w) (h2 : a - (-q) / w ≤ 7) : sJ (fun y => if w * (y - a) < q then 1 else 0) = a - (-q) / w + 6 := by
  have e : sJ (fun y => if w * (y - a) < q then 1 else 0) = sJ (fun y => if y < a - (-q) / w then 1 else 0) := sI_congr fun k _ => by
    generalize (-6 + (k : Int)) = y
    have : w * (y - a) < q ↔ y < a - (-q) / w := by
      have := Int.le_ediv_iff_mul_le (a := -(y - a)) (b := -q) hw
      constructor
      · intro h
        refine Decidable.byContradiction fun z => ?_
        have := this.mp (by omega)
        have e2 : -(y - a) * w = -(w * (y - a)) := by grind
        omega
      · intro h
        refine Decidable.byContradiction fun z => ?_
        have e2 : -(y - a) * w = -(w * (y - a)) := by grind
        have := this.mpr (by omega)
        omega
    by_cases hh : w * (y - a) < q
    · rw [if_pos hh, if_pos (this.mp hh)]
    · rw [if_neg hh, if_neg (fun z => hh (this.mpr z))]
  rw [e]
  have := sI_lt (u := -6) (t := a - (-q) / w) 13 h1 (by omega)
  show sI (-6) 13 _ = _
  rw [this]; omega
theorem row_le {w q a : Int} (hw : 0 < w) (h1 : -7 ≤ a + q / w) (h2 : a + q / w ≤ 6) : sJ (fun y => if w * (y - a) ≤ q then 1 else 0) = a + q / w + 7 := by
  have e : sJ (fun y => if w * (y - a) ≤ q then 1 else 0) = sJ (fun y => if y < a + q / w + 1 then 1 else 0) := sI_congr fun k _ => by
    generalize (-6 + (k : Int)) = y
    have : w * (y - a) ≤ q ↔ y < a + q / w + 1 := by
      have := Int.le_ediv_iff_mul_le (a := y - a) (b := q) hw
      rw [Int.mul_comm w, ← this]; omega
    by_cases hh : w * (y - a) ≤ q
    · rw [if_pos hh, if_pos (this.mp hh)]
    · rw [if_neg hh, if_neg (fun z => hh (this.mpr z))]
  rw [e]
  have := sI_lt (u := -6) (t := a + q / w + 1) 13 (by omega) (by omega)
  show sI (-6) 13 _ = _
  rw [this]; omega
/-- the value at k between the ends' values -/
theorem mid_bd {w h k a : Int} (hw : 0 < w) (hk : 0 ≤ k) (hk2 : k < w) (ha : -6 ≤ a ∧ a ≤ 6) (hb : -6 ≤ a + h ∧ a + h ≤ 6) : (-6 ≤ a + h * k / w ∧ a + h * k / w ≤ 6) ∧ -6 ≤ a - -(h * k) / w ∧ a - -(h * k) / w ≤ 6 := by
  have lo : ∀ c : Int, -6 ≤ a + c → -6 ≤ a → c ≤ 0 ∨ 0 ≤ c := fun c _ _ => by omega
  have b1 : ∀ q n : Int, n * w ≤ q → n ≤ q / w := fun q n z => (Int.le_ediv_iff_mul_le hw).mpr z
  have b2 : ∀ q n : Int, q ≤ n * w → q / w ≤ n := fun q n z => by
    have := Int.ediv_le_ediv hw z
    rwa [Int.mul_ediv_cancel _ (by omega)] at this
  rcases Int.le_total 0 h with z | z
  · have m1 : 0 ≤ h * k := Int.mul_nonneg z hk
    have m2 : h * k ≤ h * w := Int.mul_le_mul_of_nonneg_left (by omega) z
    have c1 := b1 (h * k) 0 (by omega)
    have c2 := b2 (h * k) h m2
    have c3 := b1 (-(h * k)) (-h) (by rw [Int.neg_mul]; omega)
    have c4 := b2 (-(h * k)) 0 (by omega)
    omega
  · have m1 : h * k ≤ 0 := Int.mul_nonpos_of_nonpos_of_nonneg z hk
    have m2 : h * w ≤ h * k := by
      have := Int.mul_le_mul_of_nonneg_left (show k ≤ w by omega) (show 0 ≤ -h by omega)
      rw [Int.neg_mul, Int.neg_mul] at this; omega
    have c1 := b1 (h * k) h m2
    have c2 := b2 (h * k) 0 (by omega)
    have c3 := b1 (-(h * k)) 0 (by omega)
    have c4 := b2 (-(h * k)) (-h) (by rw [Int.neg_mul]; omega)
    omega

/-- a period of any slope -/
theorem fs_all (h : Int) {w : Nat} (hw : 0 < w) : 2 * fs h 0 (w : Int) w = (h - 1) * ((w : Int) - 1) + ((Int.gcd h w : Nat) : Int) - 1 := by
  have ht : ∀ n : Nat, 2 * tri (n : Int) = (n : Int) * ((n : Int) - 1) := by
    intro n
    induction n with
    | zero => simp [tri]
    | succ n ih2 => rw [tri_succ]; grind
  obtain ⟨p, hp⟩ : ∃ p : Nat, h % (w : Int) = (p : Int) := ⟨(h % (w : Int)).toNat, by have := Int.emod_nonneg h (b := (w : Int)) (by omega); omega⟩
  have e := Int.emod_add_mul_ediv h (w : Int)
  rw [hp] at e
  have h1 := fs_add_a (p : Int) 0 (w : Int) (h / w) (by omega) w
  rw [e] at h1
  have h2 := fs_period w p hw
  have h3 := ht w
  have hg : Int.gcd h (w : Int) = Int.gcd (p : Int) (w : Int) := by
    rw [← e, Int.gcd_add_mul_left_left]
  rw [h1, hg]
  have e2 : h - 1 = (p : Int) - 1 + (w : Int) * (h / w) := by omega
  rw [e2]
  generalize h / (w : Int) = q at *
  grind
theorem sI_fs (h m : Int) : ∀ n : Nat, sI 0 n (fun k => h * k / m) = fs h 0 m n
  | 0 => rfl
  | n + 1 => by
    show sI 0 n _ + h * (0 + (n : Int)) / m = fs h 0 m n + (h * (n : Int) + 0) / m
    rw [sI_fs h m n, Int.zero_add, Int.add_zero]
theorem sI_shift (u : Int) (f : Int → Int) : ∀ n : Nat, sI u n f = sI 0 n (fun k => f (u + k))
  | 0 => rfl
  | n + 1 => by
    show sI u n f + f (u + n) = sI 0 n _ + f (u + (0 + (n : Int)))
    rw [sI_shift u f n, Int.zero_add]
theorem sI_const (u c : Int) : ∀ n : Nat, sI u n (fun _ => c) = c * n
  | 0 => by show (0 : Int) = _; simp
  | n + 1 => by
    show sI u n _ + c = _
    rw [sI_const u c n]; grind
/-- what one edge's columns hold -/
theorem edge_cols {a b : Pt} (hab : a.1 < b.1) (ha : -6 ≤ a.2 ∧ a.2 ≤ 6) (hb : -6 ≤ b.2 ∧ b.2 ≤ 6) {f : Int → Int → Int} (c d : Int) (hf : ∀ k : Int, 0 ≤ k → k < b.1 - a.1 → ∀ y, f (a.1 + k) y = c * (if (b.1 - a.1) * (y - a.2) < (b.2 - a.2) * k then 1 else 0) + d * (if (b.1 - a.1) * (y - a.2) ≤ (b.2 - a.2) * k then 1 else 0)) :
    sI a.1 (b.1 - a.1).toNat (fun x => sJ (f x)) = c * (fs (b.2 - a.2) 0 (b.1 - a.1) (b.1 - a.1).toNat * 0 - fs (-(b.2 - a.2)) 0 (b.1 - a.1) (b.1 - a.1).toNat + (a.2 + 6) * (b.1 - a.1)) + d * (fs (b.2 - a.2) 0 (b.1 - a.1) (b.1 - a.1).toNat + (a.2 + 7) * (b.1 - a.1)) := by
  obtain ⟨w, hw⟩ : ∃ w : Nat, b.1 - a.1 = (w : Int) := ⟨(b.1 - a.1).toNat, by omega⟩
  rw [hw] at hf ⊢
  rw [Int.toNat_natCast]
  have hb' : -6 ≤ a.2 + (b.2 - a.2) ∧ a.2 + (b.2 - a.2) ≤ 6 := by omega
  generalize b.2 - a.2 = h at hf hb' ⊢
  have hw0 : 0 < w := by omega
  rw [sI_shift]
  have e : ∀ k : Nat, k < w → sJ (f (a.1 + (0 + (k : Int)))) = c * ((fun k => -(-h * k / (w : Int)) + (a.2 + 6)) (0 + (k : Int))) + d * ((fun k => h * k / (w : Int) + (a.2 + 7)) (0 + (k : Int))) := fun k hk => by
    rw [Int.zero_add]
    have hm := mid_bd (w := (w : Int)) (h := h) (k := (k : Int)) (a := a.2) (by omega) (by omega) (by omega) ha hb'
    have e1 : sJ (f (a.1 + (k : Int))) = sJ (fun y => c * (if (w : Int) * (y - a.2) < h * k then 1 else 0) + d * (if (w : Int) * (y - a.2) ≤ h * k then 1 else 0)) := sI_congr fun j _ => hf k (by omega) (by omega) _
    rw [e1]
    have e2 := sI_lin (u := -6) (c := c) (d := d) (f := fun y => if (w : Int) * (y - a.2) < h * k then 1 else 0) (g := fun y => if (w : Int) * (y - a.2) ≤ h * k then 1 else 0) 13
    have r1 := row_lt (w := (w : Int)) (q := h * k) (a := a.2) (by omega) (by omega) (by omega)
    have r2 := row_le (w := (w : Int)) (q := h * k) (a := a.2) (by omega) (by omega) (by omega)
    unfold sJ at r1 r2 ⊢
    rw [e2, r1, r2]
    show c * (a.2 - -(h * ↑k) / ↑w + 6) + d * (a.2 + h * ↑k / ↑w + 7) = c * (-(-h * ↑k / ↑w) + (a.2 + 6)) + d * (h * ↑k / ↑w + (a.2 + 7))
    rw [Int.neg_mul]
    congr 1
    · congr 1; omega
    · congr 1; omega
  rw [sI_congr (g := fun k => c * (fun k => -(-h * k / (w : Int)) + (a.2 + 6)) k + d * (fun k => h * k / (w : Int) + (a.2 + 7)) k) e, sI_lin]
  have l1 := sI_lin (u := 0) (c := -1) (d := 1) (f := fun k => -h * k / (w : Int)) (g := fun _ => a.2 + 6) w
  have l2 := sI_lin (u := 0) (c := 1) (d := 1) (f := fun k => h * k / (w : Int)) (g := fun _ => a.2 + 7) w
  rw [sI_fs, sI_const] at l1 l2
  have m1 : sI 0 w (fun k => -(-h * k / (w : Int)) + (a.2 + 6)) = -1 * fs (-h) 0 (w : Int) w + 1 * ((a.2 + 6) * w) := by
    rw [← l1]; exact sI_congr fun k _ => by simp only [Int.one_mul]; omega
  have m2 : sI 0 w (fun k => h * k / (w : Int) + (a.2 + 7)) = 1 * fs h 0 (w : Int) w + 1 * ((a.2 + 7) * w) := by
    rw [← l2]; exact sI_congr fun k _ => by simp only [Int.one_mul]
  rw [m1, m2]
  grind

/-- 2 below + 1 on; on alone -/
theorem edge_two {a b : Pt} (hab : a.1 < b.1) (ha : -6 ≤ a.2 ∧ a.2 ≤ 6) (hb : -6 ≤ b.2 ∧ b.2 ≤ 6) : sI a.1 (b.1 - a.1).toNat (fun x => sJ fun y => 2 * belE (x, y) a b + onnE (x, y) a b) = (b.1 - a.1) * (a.2 + b.2) + (a.2 - b.2) + 13 * (b.1 - a.1) ∧
    sI a.1 (b.1 - a.1).toNat (fun x => sJ fun y => onnE (x, y) a b) = edc a b := by
  have ind : ∀ k : Int, 0 ≤ k → k < b.1 - a.1 → inC a b (a.1 + k) = true := fun k h1 h2 => by
    unfold inC
    rw [decide_eq_true (show a.1 ≤ a.1 + k by omega), decide_eq_true (show a.1 + k < b.1 by omega)]; rfl
  have lt_le : ∀ k : Int, 0 ≤ k → k < b.1 - a.1 → ∀ y, belE (a.1 + k, y) a b = (if (b.1 - a.1) * (y - a.2) < (b.2 - a.2) * k then 1 else 0) ∧ onnE (a.1 + k, y) a b = (if (b.1 - a.1) * (y - a.2) ≤ (b.2 - a.2) * k then 1 else 0) - (if (b.1 - a.1) * (y - a.2) < (b.2 - a.2) * k then 1 else 0) := fun k h1 h2 y => by
    have i := ind k h1 h2
    have t := trn_at a b k y
    unfold belE onnE
    rw [show ((a.1 + k, y) : Pt).1 = a.1 + k from rfl, i, t]
    generalize (b.1 - a.1) * (y - a.2) = u
    generalize (b.2 - a.2) * k = v
    constructor
    · by_cases z : u < v
      · rw [if_pos ⟨rfl, by omega⟩, if_pos z]
      · rw [if_neg (fun w => z (by omega)), if_neg z]
    · by_cases z : u < v
      · rw [if_neg (fun w => by omega), if_pos (by omega), if_pos z]; rfl
      · by_cases z2 : u ≤ v
        · rw [if_pos ⟨rfl, by omega⟩, if_pos z2, if_neg z]; rfl
        · rw [if_neg (fun w => by omega), if_neg z2, if_neg z]; rfl
  have h1 := edge_cols hab ha hb (f := fun x y => 2 * belE (x, y) a b + onnE (x, y) a b) 1 1 fun k hk hk2 y => by
    obtain ⟨e1, e2⟩ := lt_le k hk hk2 y
    show 2 * belE (a.1 + k, y) a b + onnE (a.1 + k, y) a b = _
    rw [e1, e2]; omega
  have h2 := edge_cols hab ha hb (f := fun x y => onnE (x, y) a b) (-1) 1 fun k hk hk2 y => by
    obtain ⟨e1, e2⟩ := lt_le k hk hk2 y
    show onnE (a.1 + k, y) a b = _
    rw [e2]; omega
  rw [h1, h2]
  obtain ⟨w, hw⟩ : ∃ w : Nat, b.1 - a.1 = (w : Int) := ⟨(b.1 - a.1).toNat, by omega⟩
  have f1 := fs_all (b.2 - a.2) (w := w) (by omega)
  have f2 := fs_all (-(b.2 - a.2)) (w := w) (by omega)
  have hg : Int.gcd (-(b.2 - a.2)) (w : Int) = Int.gcd (b.2 - a.2) (w : Int) := Int.neg_gcd
  have he : edc a b = ((Int.gcd (b.2 - a.2) (w : Int) : Nat) : Int) := by
    show ((Int.gcd (b.1 - a.1) (b.2 - a.2) : Nat) : Int) = _
    rw [hw, Int.gcd_comm]
  rw [hg] at f2
  rw [he, hw, Int.toNat_natCast]
  generalize ((Int.gcd (b.2 - a.2) (w : Int) : Nat) : Int) = gg at *
  generalize fs (b.2 - a.2) 0 (w : Int) w = F1 at *
  generalize fs (-(b.2 - a.2)) 0 (w : Int) w = F2 at *
  constructor
  · have : F1 - F2 = (b.2 - a.2) * ((w : Int) - 1) := by grind
    grind
  · have : F1 + F2 = -((w : Int) - 1) + gg - 1 := by grind
    grind
/-! a chain that goes to the right -/
def lastX : Pt → List Pt → Int
  | a, [] => a.1
  | _, b :: l => lastX b l
def Inc (l : List Pt) : Prop := l.Pairwise fun p q => p.1 < q.1
theorem lastX_ge : ∀ {l : List Pt} {a : Pt}, Inc (a :: l) → a.1 ≤ lastX a l
  | [], _, _ => Int.le_refl _
  | b :: l, a, h => by
    obtain ⟨h1, h2⟩ := List.pairwise_cons.mp h
    have := lastX_ge h2
    have := h1 b List.mem_cons_self
    show a.1 ≤ lastX b l
    omega
theorem belE_out {p a b : Pt} (h : p.1 < a.1 ∨ b.1 ≤ p.1) : belE p a b = 0 ∧ onnE p a b = 0 := by
  have : inC a b p.1 = false := by
    unfold inC
    rcases h with h | h
    · rw [decide_eq_false (show ¬ a.1 ≤ p.1 by omega)]; rfl
    · rw [decide_eq_false (show ¬ p.1 < b.1 by omega), Bool.and_false]
  unfold belE onnE
  rw [this]
  exact ⟨if_neg (fun z => absurd z.1 (by decide)), if_neg (fun z => absurd z.1 (by decide))⟩
theorem chain_out {p : Pt} : ∀ {l : List Pt} {a : Pt}, Inc (a :: l) → p.1 < a.1 → pthG (belE p) (a :: l) = 0 ∧ pthG (onnE p) (a :: l) = 0
  | [], _, _, _ => ⟨rfl, rfl⟩
  | b :: l, a, h, hp => by
    obtain ⟨h1, h2⟩ := List.pairwise_cons.mp h
    have := h1 b List.mem_cons_self
    obtain ⟨i1, i2⟩ := chain_out (p := p) h2 (by omega)
    obtain ⟨e1, e2⟩ := belE_out (p := p) (a := a) (b := b) (.inl hp)
    exact ⟨by show belE p a b + pthG (belE p) (b :: l) = 0; omega, by show onnE p a b + pthG (onnE p) (b :: l) = 0; omega⟩
/-- the edge at a column -/
theorem chain_col {x : Int} : ∀ {l : List Pt} {a : Pt}, Inc (a :: l) → a.1 ≤ x → x < lastX a l → ∃ e ∈ cons2 (a :: l), e.1.1 ≤ x ∧ x < e.2.1 ∧ (x = a.1 → e.1 = a) ∧
    (∀ y, pthG (belE (x, y)) (a :: l) = (if trn e.1 e.2 (x, y) < 0 then 1 else 0) ∧ pthG (onnE (x, y)) (a :: l) = (if trn e.1 e.2 (x, y) = 0 then 1 else 0)) ∧
    ∀ y, ∀ e' ∈ cons2 (a :: l), onS (x, y) e'.1 e'.2 = true → trn e.1 e.2 (x, y) = 0
  | [], a, _, h1, h2 => by have : x < a.1 := h2; omega
  | b :: l, a, h, h1, h2 => by
    obtain ⟨g1, g2⟩ := List.pairwise_cons.mp h
    have hab := g1 b List.mem_cons_self
    by_cases hx : x < b.1
    · refine ⟨(a, b), List.mem_cons_self, h1, hx, fun _ => rfl, fun y => ?_, fun y e' he' ho => ?_⟩
      · obtain ⟨i1, i2⟩ := chain_out (p := (x, y)) g2 hx
        have hin : inC a b x = true := by unfold inC; rw [decide_eq_true h1, decide_eq_true hx]; rfl
        constructor
        · show belE (x, y) a b + pthG _ (b :: l) = _
          rw [i1, Int.add_zero]
          unfold belE
          rw [show ((x, y) : Pt).1 = x from rfl, hin]
          by_cases z : trn a b (x, y) < 0
          · rw [if_pos ⟨rfl, z⟩, if_pos z]
          · rw [if_neg (fun w => z w.2), if_neg z]
        · show onnE (x, y) a b + pthG _ (b :: l) = _
          rw [i2, Int.add_zero]
          unfold onnE
          rw [show ((x, y) : Pt).1 = x from rfl, hin]
          by_cases z : trn a b (x, y) = 0
          · rw [if_pos ⟨rfl, z⟩, if_pos z]
          · rw [if_neg (fun w => z w.2), if_neg z]
      · rcases List.mem_cons.mp he' with rfl | he'
        · exact (on_box ho).1
        · exfalso
          have hm : ∀ (l : List Pt) (b : Pt), Inc (b :: l) → ∀ e ∈ cons2 (b :: l), b.1 ≤ e.1.1 ∧ e.1.1 < e.2.1 := by
            intro l
            induction l with
            | nil => intro b _ e he; cases he
            | cons c l ih =>
              intro b hb e he
              obtain ⟨k1, k2⟩ := List.pairwise_cons.mp hb
              rcases List.mem_cons.mp he with rfl | he
              · exact ⟨Int.le_refl _, k1 c List.mem_cons_self⟩
              · have := ih c k2 e he
                have := k1 c List.mem_cons_self
                omega
          have := hm l b g2 e' he'
          obtain ⟨_, q1, _⟩ := on_box ho
          have q1 : min e'.1.1 e'.2.1 ≤ x := q1
          omega
    · obtain ⟨e, he, i1, i2, i3, i4, i5⟩ := chain_col g2 (by omega) (show x < lastX b l from h2)
      refine ⟨e, List.mem_cons_of_mem _ he, i1, i2, fun z => by omega, fun y => ?_, fun y e' he' ho => ?_⟩
      · obtain ⟨z1, z2⟩ := belE_out (p := (x, y)) (a := a) (b := b) (.inr (show b.1 ≤ x by omega))
        obtain ⟨j1, j2⟩ := i4 y
        exact ⟨by show belE (x, y) a b + pthG _ (b :: l) = _; rw [z1, j1, Int.zero_add], by show onnE (x, y) a b + pthG _ (b :: l) = _; rw [z2, j2, Int.zero_add]⟩
      · rcases List.mem_cons.mp he' with rfl | he'
        · obtain ⟨t0, _, q2, _⟩ := on_box ho
          have q2 : x ≤ max a.1 b.1 := q2
          have hxb : x = b.1 := by omega
          have e1 := i3 hxb
          have hy : y = b.2 := by
            have t0 : trn a b (x, y) = 0 := t0
            have t1 : trn a b (x, y) = (b.1 - a.1) * (y - b.2) := by rw [hxb]; unfold trn crs dif; simp only; grind
            rw [t1] at t0
            rcases Int.mul_eq_zero.mp t0 with z | z <;> omega
          rw [e1, hxb, hy]
          unfold trn crs dif; simp only; grind
        · exact i5 y e' he' ho
theorem chain_sum : ∀ {l : List Pt} {a : Pt}, Inc (a :: l) → (∀ p ∈ a :: l, -6 ≤ p.2 ∧ p.2 ≤ 6) →
    sI a.1 (lastX a l - a.1).toNat (fun x => sJ fun y => 2 * pthG (belE (x, y)) (a :: l) + pthG (onnE (x, y)) (a :: l)) = pthG (fun a b => (b.1 - a.1) * (a.2 + b.2) + (a.2 - b.2) + 13 * (b.1 - a.1)) (a :: l) ∧
    sI a.1 (lastX a l - a.1).toNat (fun x => sJ fun y => pthG (onnE (x, y)) (a :: l)) = pthG edc (a :: l)
  | [], a, _, _ => by
    show sI a.1 (a.1 - a.1).toNat _ = 0 ∧ sI a.1 (a.1 - a.1).toNat _ = 0
    rw [Int.sub_self]; exact ⟨rfl, rfl⟩
  | b :: l, a, h, hy => by
    obtain ⟨g1, g2⟩ := List.pairwise_cons.mp h
    have hab := g1 b List.mem_cons_self
    have hlast := lastX_ge g2
    obtain ⟨i1, i2⟩ := chain_sum g2 fun p hp => hy p (List.mem_cons_of_mem _ hp)
    obtain ⟨e1, e2⟩ := edge_two hab (hy a List.mem_cons_self) (hy b (by simp))
    have hn : (lastX a (b :: l) - a.1).toNat = (b.1 - a.1).toNat + (lastX b l - b.1).toNat := by
      show (lastX b l - a.1).toNat = _
      omega
    have hu : a.1 + ((b.1 - a.1).toNat : Int) = b.1 := by omega
    have fst : ∀ k : Nat, k < (b.1 - a.1).toNat → ∀ y, pthG (belE (a.1 + k, y)) (a :: b :: l) = belE (a.1 + k, y) a b ∧ pthG (onnE (a.1 + k, y)) (a :: b :: l) = onnE (a.1 + k, y) a b := fun k hk y => by
      obtain ⟨z1, z2⟩ := chain_out (p := (a.1 + (k : Int), y)) g2 (show a.1 + (k : Int) < b.1 by omega)
      exact ⟨by show belE _ a b + pthG _ (b :: l) = _; rw [z1, Int.add_zero], by show onnE _ a b + pthG _ (b :: l) = _; rw [z2, Int.add_zero]⟩
    have snd : ∀ k : Nat, ∀ y, pthG (belE (b.1 + k, y)) (a :: b :: l) = pthG (belE (b.1 + k, y)) (b :: l) ∧ pthG (onnE (b.1 + k, y)) (a :: b :: l) = pthG (onnE (b.1 + k, y)) (b :: l) := fun k y => by
      obtain ⟨z1, z2⟩ := belE_out (p := (b.1 + (k : Int), y)) (a := a) (b := b) (.inr (show b.1 ≤ b.1 + (k : Int) by omega))
      exact ⟨by show belE _ a b + pthG _ (b :: l) = _; rw [z1, Int.zero_add], by show onnE _ a b + pthG _ (b :: l) = _; rw [z2, Int.zero_add]⟩
    rw [hn]
    constructor
    · rw [sI_add, hu]
      show _ = (b.1 - a.1) * (a.2 + b.2) + (a.2 - b.2) + 13 * (b.1 - a.1) + pthG _ (b :: l)
      rw [← e1, ← i1]
      congr 1
      · exact sI_congr fun k hk => sI_congr fun j _ => by
          obtain ⟨z1, z2⟩ := fst k hk (-6 + (j : Int))
          rw [z1, z2]
      · exact sI_congr fun k hk => sI_congr fun j _ => by
          obtain ⟨z1, z2⟩ := snd k (-6 + (j : Int))
          rw [z1, z2]
    · rw [sI_add, hu]
      show _ = edc a b + pthG _ (b :: l)
      rw [← e2, ← i2]
      congr 1
      · exact sI_congr fun k hk => sI_congr fun j _ => (fst k hk (-6 + (j : Int))).2
      · exact sI_congr fun k hk => sI_congr fun j _ => (snd k (-6 + (j : Int))).2

/-! the whole shape -/
theorem pthG_inc {g h : Pt → Pt → Int} (e : ∀ a b : Pt, a.1 < b.1 → g a b = h a b) : ∀ {l : List Pt} {a : Pt}, Inc (a :: l) → pthG g (a :: l) = pthG h (a :: l)
  | [], _, _ => rfl
  | b :: l, a, hi => by
    obtain ⟨g1, g2⟩ := List.pairwise_cons.mp hi
    show g a b + pthG g (b :: l) = h a b + pthG h (b :: l)
    rw [e a b (g1 b List.mem_cons_self), pthG_inc e g2]
abbrev lf : Pt → Bool := sdC (0, 1)
theorem lf_eq (w : Pt) : lf w = decide (w.1 ≤ 0) := by
  show decide (0 ≤ crs (0, 1) w) = _
  unfold crs; rw [decide_eq_decide]; simp
theorem ray_bel (p a b : Pt) (h : a.1 < b.1) : rayG lf p a b = belE p a b := by
  unfold rayG cr belE inC
  rw [lf_eq, lf_eq, ← trn_crs]
  show (if (_ || _) = true then (1 : Int) else 0) = _
  rw [show decide ((dif a p).1 ≤ 0) = decide (a.1 ≤ p.1) by rw [decide_eq_decide]; show a.1 - p.1 ≤ 0 ↔ _; omega, show decide ((dif b p).1 ≤ 0) = !decide (p.1 < b.1) by rw [← decide_not, decide_eq_decide]; show b.1 - p.1 ≤ 0 ↔ _; omega]
  by_cases h1 : a.1 ≤ p.1 <;> by_cases h2 : p.1 < b.1 <;> by_cases h3 : trn a b p < 0
  all_goals first
    | (rw [decide_eq_true h1, decide_eq_true h2, decide_eq_true h3]; simp [h3])
    | (rw [decide_eq_true h1, decide_eq_true h2, decide_eq_false h3]; simp [h3])
    | (rw [decide_eq_true h1, decide_eq_false h2]; simp)
    | (rw [decide_eq_false h1, decide_eq_true h2]; simp)
    | (exfalso; omega)
theorem bd_pos {p : Pt} (l : List Pt) : 0 ≤ pthG (bdG p) l ∧ (0 < pthG (bdG p) l ↔ ∃ e ∈ cons2 l, onS p e.1 e.2 = true) := by
  rw [pthG_cons2]
  generalize cons2 l = es
  induction es with
  | nil => exact ⟨Int.le_refl _, ⟨fun h => absurd h (Int.lt_irrefl 0), fun ⟨e, he, _⟩ => nomatch he⟩⟩
  | cons e es ih =>
    obtain ⟨i1, i2⟩ := ih
    rw [List.map_cons, List.sum_cons]
    by_cases ho : onS p e.1 e.2 = true
    · have : bdG p e.1 e.2 = 1 := if_pos ho
      exact ⟨by omega, ⟨fun _ => ⟨e, List.mem_cons_self, ho⟩, fun _ => by omega⟩⟩
    · have : bdG p e.1 e.2 = 0 := if_neg ho
      refine ⟨by omega, ⟨fun h => ?_, fun ⟨e', he, h'⟩ => ?_⟩⟩
      · obtain ⟨e', he, h'⟩ := i2.mp (by omega)
        exact ⟨e', List.mem_cons_of_mem _ he, h'⟩
      · rcases List.mem_cons.mp he with rfl | he
        · exact absurd h' ho
        · have := i2.mpr ⟨e', he, h'⟩; omega
theorem on_of {a b : Pt} {x y : Int} (h1 : a.1 ≤ x) (h2 : x < b.1) (h : trn a b (x, y) = 0) : onS (x, y) a b = true := by
  obtain ⟨k, rfl⟩ : ∃ k, x = a.1 + k := ⟨x - a.1, by omega⟩
  have e := trn_at a b k y
  rw [h] at e
  have hy : min a.2 b.2 ≤ y ∧ y ≤ max a.2 b.2 := by
    have hw : 0 < b.1 - a.1 := by omega
    have hk : 0 ≤ k := by omega
    have hk2 : k < b.1 - a.1 := by omega
    generalize b.1 - a.1 = w at *
    have e1 : w * (y - a.2) = (b.2 - a.2) * k := by omega
    have e2 : w * (y - b.2) = (b.2 - a.2) * (k - w) := by grind
    rcases Int.le_total a.2 b.2 with z | z
    · have m1 : 0 ≤ (b.2 - a.2) * k := Int.mul_nonneg (by omega) hk
      have m2 : (b.2 - a.2) * (k - w) ≤ 0 := Int.mul_nonpos_of_nonneg_of_nonpos (by omega) (by omega)
      have p1 : 0 ≤ y - a.2 := Decidable.byContradiction fun q => by
        have := Int.mul_pos hw (show 0 < -(y - a.2) by omega)
        rw [Int.mul_neg] at this; omega
      have p2 : y - b.2 ≤ 0 := Decidable.byContradiction fun q => by
        have := Int.mul_pos hw (show 0 < y - b.2 by omega); omega
      omega
    · have m1 : (b.2 - a.2) * k ≤ 0 := Int.mul_nonpos_of_nonpos_of_nonneg (by omega) hk
      have m2 : 0 ≤ (b.2 - a.2) * (k - w) := by
        have := Int.mul_nonneg (show 0 ≤ -(b.2 - a.2) by omega) (show 0 ≤ -(k - w) by omega)
        rwa [Int.neg_mul_neg] at this
      have p1 : y - a.2 ≤ 0 := Decidable.byContradiction fun q => by
        have := Int.mul_pos hw (show 0 < y - a.2 by omega); omega
      have p2 : 0 ≤ y - b.2 := Decidable.byContradiction fun q => by
        have := Int.mul_pos hw (show 0 < -(y - b.2) by omega)
        rw [Int.mul_neg] at this; omega
      omega
  unfold onS btw btw1
  rw [decide_eq_true h]
  simp only [Bool.true_and, Bool.and_eq_true, decide_eq_true_eq]
  refine ⟨⟨?_, ?_⟩, hy.1, hy.2⟩
  · omega
  · omega
theorem cons2_gap : ∀ {l : List Pt} {a : Pt}, Inc (a :: l) → ∀ e ∈ cons2 (a :: l), e.1 ∈ a :: l ∧ e.2 ∈ a :: l ∧ e.1.1 < e.2.1 ∧ ∀ z ∈ a :: l, z.1 ≤ e.1.1 ∨ e.2.1 ≤ z.1
  | [], _, _, _, he => nomatch he
  | b :: l, a, h, e, he => by
    obtain ⟨g1, g2⟩ := List.pairwise_cons.mp h
    have hab := g1 b List.mem_cons_self
    rcases List.mem_cons.mp he with rfl | he
    · refine ⟨List.mem_cons_self, by simp, hab, fun z hz => ?_⟩
      rcases List.mem_cons.mp hz with rfl | hz
      · exact .inl (Int.le_refl _)
      · rcases List.mem_cons.mp hz with rfl | hz
        · exact .inr (Int.le_refl _)
        · have := (List.pairwise_cons.mp g2).1 z hz
          exact .inr (by show b.1 ≤ z.1; omega)
    · obtain ⟨i1, i2, i3, i4⟩ := cons2_gap g2 e he
      refine ⟨List.mem_cons_of_mem _ i1, List.mem_cons_of_mem _ i2, i3, fun z hz => ?_⟩
      rcases List.mem_cons.mp hz with rfl | hz
      · have := g1 _ i1; exact .inl (by omega)
      · exact i4 z hz
theorem lastX_snoc (z : Pt) : ∀ (l : List Pt) (a : Pt), lastX a (l ++ [z]) = z.1
  | [], _ => rfl
  | b :: l, a => lastX_snoc z l b
def qF (p : Pt) : Int := p.1 * p.2 - p.2 + 13 * p.1
theorem q_tele (z : Pt) : ∀ (l : List Pt) (a : Pt), pthG (fun a b => (b.1 - a.1) * (a.2 + b.2) + (a.2 - b.2) + 13 * (b.1 - a.1)) (a :: (l ++ [z])) = -pth (a :: (l ++ [z])) + qF z - qF a
  | [], a => by
    show (z.1 - a.1) * (a.2 + z.2) + (a.2 - z.2) + 13 * (z.1 - a.1) + 0 = -(crsP a z + 0) + qF z - qF a
    unfold crsP qF; grind
  | b :: l, a => by
    show (b.1 - a.1) * (a.2 + b.2) + (a.2 - b.2) + 13 * (b.1 - a.1) + pthG _ (b :: (l ++ [z])) = -(crsP a b + pth (b :: (l ++ [z]))) + qF z - qF a
    rw [q_tele z l b]
    unfold crsP qF; grind
theorem sI_zero {u : Int} : ∀ n : Nat, 0 < n → sI u n (fun x => if x = u then 1 else 0) = 1
  | 1, _ => by show (0 : Int) + (if u + 0 = u then 1 else 0) = 1; simp
  | n + 2, _ => by
    show sI u (n + 1) _ + (if u + ((n + 1 : Nat) : Int) = u then 1 else 0) = 1
    rw [sI_zero (n + 1) (by omega), if_neg (by omega)]; rfl
theorem row0 : sJ (fun y => if y = 0 then 1 else 0) = 1 := by decide

def bI (ps : List Pt) (x y : Int) : Int := if loc (x, y) ps = ("border" : Str) then 1 else 0
def iI (ps : List Pt) (x y : Int) : Int := if loc (x, y) ps = ("inside" : Str) then 1 else 0
theorem str_ne : ("border" : Str) ≠ "inside" ∧ ("border" : Str) ≠ "outside" ∧ ("inside" : Str) ≠ "outside" := by decide +kernel
theorem loc_ind {p : Pt} {ps : List Pt} : bI ps p.1 p.2 = (if 0 < areG (bdG p) ps then 1 else 0) ∧ iI ps p.1 p.2 = (if 0 < areG (bdG p) ps then 0 else if areG (rayG up p) ps % 2 = 1 then 1 else 0) := by
  obtain ⟨s1, s2, s3⟩ := str_ne
  unfold bI iI
  show (if loc p ps = _ then (1 : Int) else 0) = _ ∧ (if loc p ps = _ then (1 : Int) else 0) = _
  unfold loc
  by_cases h : 0 < areG (bdG p) ps
  · rw [if_pos h, if_pos h, if_pos h, if_pos rfl, if_neg s1]; exact ⟨rfl, rfl⟩
  · rw [if_neg h, if_neg h, if_neg h]
    by_cases h2 : areG (rayG up p) ps % 2 = 1
    · rw [if_pos h2, if_pos h2, if_neg s1.symm, if_pos rfl]; exact ⟨rfl, rfl⟩
    · rw [if_neg h2, if_neg h2, if_neg s2.symm, if_neg s3.symm]; exact ⟨rfl, rfl⟩
section
variable {X : Int} {B A : List Pt}
abbrev loC (X : Int) (B : List Pt) : List Pt := (0, 0) :: (B ++ [(X, 0)])
abbrev hiC (X : Int) (A : List Pt) : List Pt := (0, 0) :: (A.reverse ++ [(X, 0)])
theorem shp_areG {g : Pt → Pt → Int} (hs : ∀ a b, g a b = g b a) : areG g (shp (0, 0) (X, 0) B A) = pthG g (loC X B) + pthG g (hiC X A) := by
  show pthG g ((0, 0) :: (B ++ (X, 0) :: A) ++ [(0, 0)]) = _
  rw [show ((0, 0) : Pt) :: (B ++ (X, 0) :: A) ++ [(0, 0)] = ((0, 0) :: B) ++ (X, 0) :: (A ++ [(0, 0)]) by simp, pthG_app]
  congr 1
  rw [← pthG_rev g hs]
  congr 1
  simp
theorem ML.inc (h : ML (0, 0) (X, 0) B A) : Inc (loC X B) ∧ Inc (hiC X A) := by
  refine ⟨h.xl, ?_⟩
  have := List.pairwise_reverse.mpr h.xu
  rw [show ((X, 0) :: A ++ [(0, 0)] : List Pt).reverse = hiC X A by simp] at this
  exact this
/-- lower edges lie below 0, upper ones do not -/
theorem ML.low (h : ML (0, 0) (X, 0) B A) {e : Pt × Pt} (he : e ∈ cons2 (loC X B)) {x : Int} (h1 : e.1.1 ≤ x) (h2 : x < e.2.1) (hx : 0 < x) : e.1.2 * (e.2.1 - x) + e.2.2 * (x - e.1.1) < 0 := by
  obtain ⟨m1, m2, hlt, gap⟩ := cons2_gap h.inc.1 e he
  have neg : ∀ p ∈ loC X B, p.2 ≤ 0 ∧ (p.2 = 0 → p = (0, 0) ∨ p = (X, 0)) := fun p hp => by
    rcases List.mem_cons.mp hp with rfl | hp
    · exact ⟨Int.le_refl _, fun _ => .inl rfl⟩
    · rcases List.mem_append.mp hp with hp | hp
      · have := h.yb p hp; exact ⟨by omega, fun z => by omega⟩
      · obtain rfl := List.mem_singleton.mp hp; exact ⟨Int.le_refl _, fun _ => .inr rfl⟩
  obtain ⟨n1, z1⟩ := neg _ m1
  obtain ⟨n2, z2⟩ := neg _ m2
  have t1 : e.1.2 * (e.2.1 - x) ≤ 0 := Int.mul_nonpos_of_nonpos_of_nonneg n1 (by omega)
  have t2 : e.2.2 * (x - e.1.1) ≤ 0 := Int.mul_nonpos_of_nonpos_of_nonneg n2 (by omega)
  refine Decidable.byContradiction fun z => ?_
  have u1 : e.1.2 * (e.2.1 - x) = 0 := by omega
  have u2 : e.2.2 * (x - e.1.1) = 0 := by omega
  have v1 : e.1.2 = 0 := by
    rcases Int.mul_eq_zero.mp u1 with q | q
    · exact q
    · omega
  have xR : e.2.1 ≤ X := by
    rcases List.mem_cons.mp m2 with q | q
    · rw [q] at hlt ⊢
      have h0 := gap (0, 0) List.mem_cons_self
      have : lastX (0, 0) (B ++ [((X, 0) : Pt)]) = X := lastX_snoc _ _ _
      have := lastX_ge h.inc.1
      show (0 : Int) ≤ X
      have e0 : lastX (0, 0) (B ++ [((X, 0) : Pt)]) = X := lastX_snoc _ _ _
      rw [e0] at this; exact this
    · rcases List.mem_append.mp q with q | q
      · have := (List.pairwise_append.mp (List.pairwise_cons.mp h.xl).2).2.2 _ q (X, 0) (by simp)
        have this : e.2.1 < X := this
        omega
      · rw [List.mem_singleton.mp q]; exact Int.le_refl _
  rcases z1 v1 with q | q
  · have e10 : e.1.1 = 0 := by rw [q]
    have v2 : e.2.2 = 0 := by
      rcases Int.mul_eq_zero.mp u2 with w | w
      · exact w
      · omega
    rcases z2 v2 with w | w
    · have : e.2.1 = 0 := by rw [w]
      omega
    · have e21 : e.2.1 = X := by rw [w]
      obtain ⟨b, hb⟩ := List.exists_mem_of_ne_nil B h.hB
      have g0 := (List.pairwise_cons.mp h.xl).1 b (List.mem_append_left _ hb)
      have g1 := (List.pairwise_append.mp (List.pairwise_cons.mp h.xl).2).2.2 b hb (X, 0) (by simp)
      have g0 : (0 : Int) < b.1 := g0
      have g1 : b.1 < X := g1
      rcases gap b (List.mem_cons_of_mem _ (List.mem_append_left _ hb)) with y | y <;> omega
  · have : e.1.1 = X := by rw [q]
    omega
theorem ML.high (h : ML (0, 0) (X, 0) B A) {e : Pt × Pt} (he : e ∈ cons2 (hiC X A)) {x : Int} (h1 : e.1.1 ≤ x) (h2 : x < e.2.1) : 0 ≤ e.1.2 * (e.2.1 - x) + e.2.2 * (x - e.1.1) := by
  obtain ⟨m1, m2, hlt, gap⟩ := cons2_gap h.inc.2 e he
  have nn : ∀ p ∈ hiC X A, 0 ≤ p.2 := fun p hp => by
    rcases List.mem_cons.mp hp with rfl | hp
    · exact Int.le_refl _
    · rcases List.mem_append.mp hp with hp | hp
      · have := h.ya p (List.mem_reverse.mp hp); omega
      · obtain rfl := List.mem_singleton.mp hp; exact Int.le_refl _
  have t1 : 0 ≤ e.1.2 * (e.2.1 - x) := Int.mul_nonneg (nn _ m1) (by omega)
  have t2 : 0 ≤ e.2.2 * (x - e.1.1) := Int.mul_nonneg (nn _ m2) (by omega)
  omega
theorem trn_val (a b : Pt) (x y : Int) : trn a b (x, y) = (b.1 - a.1) * y - (a.2 * (b.1 - x) + b.2 * (x - a.1)) := by
  unfold trn crs dif; simp only; grind
/-- one point of a column ahead of the last -/
theorem ML.point (h : ML (0, 0) (X, 0) B A) {x : Int} (h0 : 0 ≤ x) (hX : x < X) (y : Int) :
    bI (shp (0, 0) (X, 0) B A) x y = pthG (onnE (x, y)) (loC X B) + pthG (onnE (x, y)) (hiC X A) - (if x = 0 then (if y = 0 then 1 else 0) else 0) ∧
    iI (shp (0, 0) (X, 0) B A) x y = pthG (belE (x, y)) (hiC X A) - pthG (belE (x, y)) (loC X B) - pthG (onnE (x, y)) (loC X B) + (if x = 0 then (if y = 0 then 1 else 0) else 0) := by
  obtain ⟨e1, he1, a1, b1, f1, c1, o1⟩ := chain_col (x := x) h.inc.1 h0 (by rw [lastX_snoc]; exact hX)
  obtain ⟨e2, he2, a2, b2, f2, c2, o2⟩ := chain_col (x := x) h.inc.2 h0 (by rw [lastX_snoc]; exact hX)
  obtain ⟨c11, c12⟩ := c1 y
  obtain ⟨c21, c22⟩ := c2 y
  obtain ⟨l1, l2⟩ := loc_ind (p := (x, y)) (ps := shp (0, 0) (X, 0) B A)
  have l1 : bI (shp (0, 0) (X, 0) B A) x y = _ := l1
  have l2 : iI (shp (0, 0) (X, 0) B A) x y = _ := l2
  have hb : 0 < areG (bdG (x, y)) (shp (0, 0) (X, 0) B A) ↔ trn e1.1 e1.2 (x, y) = 0 ∨ trn e2.1 e2.2 (x, y) = 0 := by
    rw [shp_areG (bdG_symm _)]
    obtain ⟨p1, q1⟩ := bd_pos (p := (x, y)) (loC X B)
    obtain ⟨p2, q2⟩ := bd_pos (p := (x, y)) (hiC X A)
    constructor
    · intro z
      rcases (show 0 < pthG (bdG (x, y)) (loC X B) ∨ 0 < pthG (bdG (x, y)) (hiC X A) by omega) with w | w
      · obtain ⟨e, he, ho⟩ := q1.mp w
        exact .inl (o1 y e he ho)
      · obtain ⟨e, he, ho⟩ := q2.mp w
        exact .inr (o2 y e he ho)
    · rintro (z | z)
      · have := q1.mpr ⟨e1, he1, on_of a1 b1 z⟩; omega
      · have := q2.mpr ⟨e2, he2, on_of a2 b2 z⟩; omega
  have hpar : ¬ 0 < areG (bdG (x, y)) (shp (0, 0) (X, 0) B A) → areG (rayG up (x, y)) (shp (0, 0) (X, 0) B A) % 2 = (pthG (belE (x, y)) (loC X B) + pthG (belE (x, y)) (hiC X A)) % 2 := fun z => by
    rw [← ray_any (sdC_ok (0, 1)) (by decide) (fun e he => nz_of (bd_none z e he)), shp_areG (rayG_symm _ _), pthG_inc (ray_bel (x, y)) h.inc.1, pthG_inc (ray_bel (x, y)) h.inc.2]
  have v1 := trn_val e1.1 e1.2 x y
  have v2 := trn_val e2.1 e2.2 x y
  rw [l1, l2, c11, c12, c21, c22]
  have w1 : 0 < e1.2.1 - e1.1.1 := by omega
  have w2 : 0 < e2.2.1 - e2.1.1 := by omega
  by_cases hx : x = 0
  · have k1 : e1.1 = (0, 0) := f1 hx
    have k2 : e2.1 = (0, 0) := f2 hx
    have s1 : trn e1.1 e1.2 (x, y) = e1.2.1 * y := by rw [v1, k1, hx]; simp
    have s2 : trn e2.1 e2.2 (x, y) = e2.2.1 * y := by rw [v2, k2, hx]; simp
    have q1 : 0 < e1.2.1 := by rw [k1] at w1; simp at w1; omega
    have q2 : 0 < e2.2.1 := by rw [k2] at w2; simp at w2; omega
    rw [if_pos hx]
    rcases Int.lt_trichotomy y 0 with hy | hy | hy
    · have t1 : e1.2.1 * y < 0 := Int.mul_neg_of_pos_of_neg q1 hy
      have t2 : e2.2.1 * y < 0 := Int.mul_neg_of_pos_of_neg q2 hy
      have hn : ¬ 0 < areG (bdG (x, y)) (shp (0, 0) (X, 0) B A) := fun z => by
        rcases hb.mp z with w | w
        · rw [s1] at w; omega
        · rw [s2] at w; omega
      rw [if_neg hn, if_neg hn, hpar hn, c11, c21, s1, s2, if_pos t1, if_pos t2, if_neg (by omega : ¬ e1.2.1 * y = 0), if_neg (by omega : ¬ e2.2.1 * y = 0), if_neg (show ¬ y = 0 by omega)]
      exact ⟨by decide, by decide⟩
    · have z1 : e1.2.1 * y = 0 := by rw [hy]; simp
      have z2 : e2.2.1 * y = 0 := by rw [hy]; simp
      have hp := hb.mpr (.inl (by rw [s1]; exact z1))
      rw [if_pos hp, if_pos hp, s1, s2, z1, z2, if_pos rfl, if_neg (Int.lt_irrefl 0), if_pos hy]
      exact ⟨by decide, by decide⟩
    · have t1 : 0 < e1.2.1 * y := Int.mul_pos q1 hy
      have t2 : 0 < e2.2.1 * y := Int.mul_pos q2 hy
      have hn : ¬ 0 < areG (bdG (x, y)) (shp (0, 0) (X, 0) B A) := fun z => by
        rcases hb.mp z with w | w
        · rw [s1] at w; omega
        · rw [s2] at w; omega
      rw [if_neg hn, if_neg hn, hpar hn, c11, c21, s1, s2, if_neg (by omega : ¬ e1.2.1 * y < 0), if_neg (by omega : ¬ e2.2.1 * y < 0), if_neg (by omega : ¬ e1.2.1 * y = 0), if_neg (by omega : ¬ e2.2.1 * y = 0), if_neg (show ¬ y = 0 by omega)]
      exact ⟨by decide, by decide⟩
  · have g1 := h.low he1 a1 b1 (by omega)
    have g2 := h.high he2 a2 b2
    rw [if_neg hx]
    have key : trn e1.1 e1.2 (x, y) ≤ 0 → trn e2.1 e2.2 (x, y) < 0 := fun z => by
      have hy : y < 0 := Decidable.byContradiction fun q => by
        have := Int.mul_nonneg (show 0 ≤ e1.2.1 - e1.1.1 by omega) (show 0 ≤ y by omega)
        omega
      have := Int.mul_neg_of_pos_of_neg w2 hy
      omega
    generalize trn e1.1 e1.2 (x, y) = t1 at *
    generalize trn e2.1 e2.2 (x, y) = t2 at *
    rcases Int.lt_trichotomy t1 0 with z | z | z
    · have k := key (by omega)
      have hn : ¬ 0 < areG (bdG (x, y)) (shp (0, 0) (X, 0) B A) := fun q => by rcases hb.mp q with w | w <;> omega
      rw [if_neg hn, if_neg hn, hpar hn, c11, c21, if_pos z, if_pos k, if_neg (by omega : ¬ t1 = 0), if_neg (by omega : ¬ t2 = 0)]
      exact ⟨by decide, by decide⟩
    · have k := key (by omega)
      have hp := hb.mpr (.inl z)
      rw [if_pos hp, if_pos hp, if_neg (by omega : ¬ t1 < 0), if_pos z, if_pos k, if_neg (by omega : ¬ t2 = 0)]
      exact ⟨by decide, by decide⟩
    · rw [if_neg (by omega : ¬ t1 < 0), if_neg (by omega : ¬ t1 = 0)]
      rcases Int.lt_trichotomy t2 0 with w | w | w
      · have hn : ¬ 0 < areG (bdG (x, y)) (shp (0, 0) (X, 0) B A) := fun q => by rcases hb.mp q with w | w <;> omega
        rw [if_neg hn, if_neg hn, hpar hn, c11, c21, if_neg (by omega : ¬ t1 < 0), if_pos w, if_neg (by omega : ¬ t2 = 0)]
        exact ⟨by decide, by decide⟩
      · have hp := hb.mpr (.inr w)
        rw [if_pos hp, if_pos hp, if_neg (by omega : ¬ t2 < 0), if_pos w]
        exact ⟨by decide, by decide⟩
      · have hn : ¬ 0 < areG (bdG (x, y)) (shp (0, 0) (X, 0) B A) := fun q => by rcases hb.mp q with w | w <;> omega
        rw [if_neg hn, if_neg hn, hpar hn, c11, c21, if_neg (by omega : ¬ t1 < 0), if_neg (by omega : ¬ t2 < 0), if_neg (by omega : ¬ t2 = 0)]
        exact ⟨by decide, by decide⟩
/-- the last column -/
theorem ML.end (h : ML (0, 0) (X, 0) B A) (y : Int) : bI (shp (0, 0) (X, 0) B A) X y = (if y = 0 then 1 else 0) ∧ iI (shp (0, 0) (X, 0) B A) X y = 0 := by
  obtain ⟨l1, l2⟩ := loc_ind (p := (X, y)) (ps := shp (0, 0) (X, 0) B A)
  have l1 : bI (shp (0, 0) (X, 0) B A) X y = _ := l1
  have l2 : iI (shp (0, 0) (X, 0) B A) X y = _ := l2
  have out : ∀ {l : List Pt} {a : Pt}, Inc (a :: l) → (∀ p ∈ a :: l, p.1 ≤ X) → pthG (belE (X, y)) (a :: l) = 0 := by
    intro l
    induction l with
    | nil => intro a _ _; rfl
    | cons b l ih =>
      intro a hi hm
      obtain ⟨g1, g2⟩ := List.pairwise_cons.mp hi
      show belE (X, y) a b + pthG _ (b :: l) = 0
      rw [ih g2 fun p hp => hm p (List.mem_cons_of_mem _ hp), (belE_out (p := (X, y)) (a := a) (b := b) (.inr (hm b (by simp)))).1]; rfl
  have top : ∀ {l : List Pt} {a : Pt}, Inc (a :: (l ++ [(X, 0)])) → (∀ p ∈ a :: (l ++ [((X, 0) : Pt)]), p.1 ≤ X) ∧ ((∃ e ∈ cons2 (a :: (l ++ [((X, 0) : Pt)])), onS (X, y) e.1 e.2 = true) ↔ y = 0) := by
    intro l
    induction l with
    | nil =>
      intro a hi
      have ha := (List.pairwise_cons.mp hi).1 (X, 0) (by simp)
      have ha : a.1 < X := ha
      refine ⟨fun p hp => ?_, fun ⟨e, he, ho⟩ => ?_, fun hy => ⟨(a, (X, 0)), by simp [cons2], ?_⟩⟩
      · rcases List.mem_cons.mp hp with rfl | hp
        · omega
        · rw [List.mem_singleton.mp hp]; exact Int.le_refl _
      · have : e = (a, (X, 0)) := by simpa [cons2] using he
        subst this
        obtain ⟨t0, _⟩ := on_box ho
        rw [trn_val] at t0
        have t0 : (X - a.1) * y - (a.2 * (X - X) + 0 * (X - a.1)) = 0 := t0
        rw [Int.sub_self, Int.mul_zero, Int.zero_mul, Int.add_zero, Int.sub_zero] at t0
        rcases Int.mul_eq_zero.mp t0 with w | w <;> omega
      · subst hy
        rw [onS_swap]
        unfold onS btw btw1 trn crs dif
        simp only [Bool.and_eq_true, decide_eq_true_eq]
        refine ⟨by grind, ⟨by omega, by omega⟩, by omega, by omega⟩
    | cons b l ih =>
      intro a hi
      obtain ⟨g1, g2⟩ := List.pairwise_cons.mp hi
      obtain ⟨i1, i2⟩ := ih g2
      have hab := g1 b (by simp)
      have hbX := (List.pairwise_cons.mp g2).1 (X, 0) (by simp)
      have hbX : b.1 < X := hbX
      refine ⟨fun p hp => ?_, fun ⟨e, he, ho⟩ => ?_, fun hy => ?_⟩
      · rcases List.mem_cons.mp hp with rfl | hp
        · omega
        · exact i1 p hp
      · rcases List.mem_cons.mp he with rfl | he
        · obtain ⟨_, _, q, _⟩ := on_box ho
          have q : X ≤ max a.1 b.1 := q
          omega
        · exact i2.mp ⟨e, he, ho⟩
      · obtain ⟨e, he, ho⟩ := i2.mpr hy
        exact ⟨e, List.mem_cons_of_mem _ he, ho⟩
  obtain ⟨t1, u1⟩ := top h.inc.1
  obtain ⟨t2, u2⟩ := top h.inc.2
  obtain ⟨p1, q1⟩ := bd_pos (p := (X, y)) (loC X B)
  obtain ⟨p2, q2⟩ := bd_pos (p := (X, y)) (hiC X A)
  have hb : 0 < areG (bdG (X, y)) (shp (0, 0) (X, 0) B A) ↔ y = 0 := by
    rw [shp_areG (bdG_symm _)]
    constructor
    · intro z
      rcases (show 0 < pthG (bdG (X, y)) (loC X B) ∨ 0 < pthG (bdG (X, y)) (hiC X A) by omega) with w | w
      · exact u1.mp (q1.mp w)
      · exact u2.mp (q2.mp w)
    · intro z
      have := q1.mpr (u1.mpr z); omega
  rw [l1, l2]
  by_cases hy : y = 0
  · rw [if_pos (hb.mpr hy), if_pos (hb.mpr hy), if_pos hy]; exact ⟨rfl, rfl⟩
  · have hn : ¬ 0 < areG (bdG (X, y)) (shp (0, 0) (X, 0) B A) := fun z => hy (hb.mp z)
    rw [if_neg hn, if_neg hn, if_neg hy, ← ray_any (sdC_ok (0, 1)) (by decide) (fun e he => nz_of (bd_none hn e he)), shp_areG (rayG_symm _ _), pthG_inc (ray_bel (X, y)) h.inc.1, pthG_inc (ray_bel (X, y)) h.inc.2, out h.inc.1 t1, out h.inc.2 t2]
    exact ⟨rfl, rfl⟩
def boxS (X : Int) (f : Int → Int → Int) : Int := sI 0 (X + 1).toNat fun x => sJ (f x)
/-- Pick, for the shapes that the laws draw -/
theorem pick (h : ML (0, 0) (X, 0) B A) (hy : ∀ p ∈ shp (0, 0) (X, 0) B A, -6 ≤ p.2 ∧ p.2 ≤ 6) :
    boxS X (bI (shp (0, 0) (X, 0) B A)) = brd (shp (0, 0) (X, 0) B A) ∧ are (shp (0, 0) (X, 0) B A) = 2 * boxS X (iI (shp (0, 0) (X, 0) B A)) + boxS X (bI (shp (0, 0) (X, 0) B A)) - 2 := by
  have hX : 0 < X := (List.pairwise_cons.mp h.xl).1 (X, 0) (by simp)
  have y1 : ∀ p ∈ loC X B, -6 ≤ p.2 ∧ p.2 ≤ 6 := fun p hp => hy p (by
    unfold shp
    rcases List.mem_cons.mp hp with rfl | hp
    · simp
    · rcases List.mem_append.mp hp with hp | hp
      · exact List.mem_append_left _ (List.mem_cons_of_mem _ hp)
      · rw [List.mem_singleton.mp hp]; simp)
  have y2 : ∀ p ∈ hiC X A, -6 ≤ p.2 ∧ p.2 ≤ 6 := fun p hp => hy p (by
    unfold shp
    rcases List.mem_cons.mp hp with rfl | hp
    · simp
    · rcases List.mem_append.mp hp with hp | hp
      · exact List.mem_append_right _ (List.mem_cons_of_mem _ (List.mem_reverse.mp hp))
      · rw [List.mem_singleton.mp hp]; simp)
  obtain ⟨a1, a2⟩ := chain_sum h.inc.1 y1
  obtain ⟨b1, b2⟩ := chain_sum h.inc.2 y2
  rw [lastX_snoc] at a1 a2 b1 b2
  have e0 : ((X, 0) : Pt).1 - ((0, 0) : Pt).1 = X := by show X - 0 = X; omega
  rw [e0] at a1 a2 b1 b2
  have a1 : sI 0 X.toNat _ = _ := a1
  have a2 : sI 0 X.toNat _ = _ := a2
  have b1 : sI 0 X.toNat _ = _ := b1
  have b2 : sI 0 X.toNat _ = _ := b2
  rw [q_tele] at a1 b1
  have q0 : qF (0, 0) = 0 := by decide
  have hbrd : brd (shp (0, 0) (X, 0) B A) = pthG edc (loC X B) + pthG edc (hiC X A) := shp_areG edc_symm
  have hare : are (shp (0, 0) (X, 0) B A) = pth (loC X B) - pth (hiC X A) := by
    show pth ((0, 0) :: (B ++ (X, 0) :: A) ++ [(0, 0)]) = _
    rw [show ((0, 0) : Pt) :: (B ++ (X, 0) :: A) ++ [(0, 0)] = ((0, 0) :: B) ++ (X, 0) :: (A ++ [(0, 0)]) by simp, pth_app]
    have e : hiC X A = ((X, 0) :: (A ++ [(0, 0)]) : List Pt).reverse := by simp
    rw [e, pth_rev]
    show pth ((0, 0) :: B ++ [(X, 0)]) + _ = pth ((0, 0) :: (B ++ [(X, 0)])) - _
    rw [List.cons_append]; omega
  have hn : (X + 1).toNat = X.toNat + 1 := by omega
  have hx : (0 : Int) + (X.toNat : Int) = X := by omega
  generalize hps : shp (0, 0) (X, 0) B A = ps at *
  have sB : boxS X (bI ps) = sI 0 X.toNat (fun x => sJ (bI ps x)) + 1 := by
    unfold boxS
    rw [hn]
    show _ + sJ (bI ps (0 + (X.toNat : Int))) = _
    rw [hx]
    congr 1
    rw [← row0]
    exact sI_congr fun k _ => by rw [← hps]; exact (h.end _).1
  have sA : boxS X (iI ps) = sI 0 X.toNat (fun x => sJ (iI ps x)) := by
    unfold boxS
    rw [hn]
    show _ + sJ (iI ps (0 + (X.toNat : Int))) = _
    rw [hx]
    have : sJ (iI ps X) = 0 := by
      have e : sJ (iI ps X) = sJ (fun _ => 0) := sI_congr fun k _ => by rw [← hps]; exact (h.end _).2
      rw [e]; decide
    omega
  obtain ⟨OL, hOL⟩ : ∃ f : Int → Int, f = fun x => sJ fun y => pthG (onnE (x, y)) (loC X B) := ⟨_, rfl⟩
  obtain ⟨OH, hOH⟩ : ∃ f : Int → Int, f = fun x => sJ fun y => pthG (onnE (x, y)) (hiC X A) := ⟨_, rfl⟩
  obtain ⟨BL, hBL⟩ : ∃ f : Int → Int, f = fun x => sJ fun y => pthG (belE (x, y)) (loC X B) := ⟨_, rfl⟩
  obtain ⟨BH, hBH⟩ : ∃ f : Int → Int, f = fun x => sJ fun y => pthG (belE (x, y)) (hiC X A) := ⟨_, rfl⟩
  obtain ⟨Z, hZ⟩ : ∃ f : Int → Int, f = fun x => if x = 0 then 1 else 0 := ⟨_, rfl⟩
  have z1 : sI 0 X.toNat Z = 1 := by rw [hZ]; exact sI_zero (u := 0) X.toNat (by omega)
  have a2 : sI 0 X.toNat OL = pthG edc (loC X B) := by rw [hOL]; exact a2
  have b2 : sI 0 X.toNat OH = pthG edc (hiC X A) := by rw [hOH]; exact b2
  have two : ∀ (l : List Pt) (F G : Int → Int), (F = fun x => sJ fun y => pthG (belE (x, y)) l) → (G = fun x => sJ fun y => pthG (onnE (x, y)) l) → sI 0 X.toNat (fun x => sJ fun y => 2 * pthG (belE (x, y)) l + pthG (onnE (x, y)) l) = 2 * sI 0 X.toNat F + 1 * sI 0 X.toNat G := fun l F G hF hG => by
    rw [← sI_lin]
    refine sI_congr fun k _ => ?_
    have l1 := sI_lin (u := -6) (c := 2) (d := 1) (f := fun y => pthG (belE (0 + (k : Int), y)) l) (g := fun y => pthG (onnE (0 + (k : Int), y)) l) 13
    show sJ _ = 2 * F (0 + (k : Int)) + 1 * G (0 + (k : Int))
    rw [hF, hG]
    unfold sJ
    rw [← l1]
    exact sI_congr fun j _ => by simp only [Int.one_mul]
  rw [two _ BL OL hBL hOL] at a1
  rw [two _ BH OH hBH hOH] at b1
  have cB : sI 0 X.toNat (fun x => sJ (bI ps x)) = 1 * (1 * sI 0 X.toNat OL + 1 * sI 0 X.toNat OH) + (-1) * sI 0 X.toNat Z := by
    rw [← sI_lin, ← sI_lin]
    refine sI_congr fun k hk => ?_
    show sJ (bI ps (0 + (k : Int))) = 1 * (1 * OL (0 + (k : Int)) + 1 * OH (0 + (k : Int))) + (-1) * Z (0 + (k : Int))
    have o1 : OL (0 + (k : Int)) = sI (-6) 13 (fun y => pthG (onnE (0 + (k : Int), y)) (loC X B)) := by rw [hOL]; rfl
    have o2 : OH (0 + (k : Int)) = sI (-6) 13 (fun y => pthG (onnE (0 + (k : Int), y)) (hiC X A)) := by rw [hOH]; rfl
    have oz : Z (0 + (k : Int)) = if 0 + (k : Int) = 0 then 1 else 0 := by rw [hZ]
    have r0 : sI (-6) 13 (fun y => if y = 0 then 1 else 0) = 1 := row0
    have r : sJ (bI ps (0 + (k : Int))) = 1 * (1 * OL (0 + (k : Int)) + 1 * OH (0 + (k : Int))) + (-Z (0 + (k : Int))) * sI (-6) 13 (fun y => if y = 0 then 1 else 0) := by
      rw [o1, o2, ← sI_lin, ← sI_lin]
      refine sI_congr fun j _ => ?_
      have := (h.point (x := 0 + (k : Int)) (by omega) (by omega) (-6 + (j : Int))).1
      rw [hps] at this
      rw [this]
      show _ = 1 * (1 * pthG (onnE (0 + (k : Int), -6 + (j : Int))) (loC X B) + 1 * pthG (onnE (0 + (k : Int), -6 + (j : Int))) (hiC X A)) + (-Z (0 + (k : Int))) * (if -6 + (j : Int) = 0 then 1 else 0)
      rw [oz]
      by_cases q : 0 + (k : Int) = 0
      · rw [if_pos q, if_pos q]; omega
      · rw [if_neg q, if_neg q]; omega
    rw [r, r0]; omega
  have cA : sI 0 X.toNat (fun x => sJ (iI ps x)) = 1 * (1 * (1 * sI 0 X.toNat BH + (-1) * sI 0 X.toNat BL) + (-1) * sI 0 X.toNat OL) + 1 * sI 0 X.toNat Z := by
    rw [← sI_lin, ← sI_lin, ← sI_lin]
    refine sI_congr fun k hk => ?_
    show sJ (iI ps (0 + (k : Int))) = 1 * (1 * (1 * BH (0 + (k : Int)) + (-1) * BL (0 + (k : Int))) + (-1) * OL (0 + (k : Int))) + 1 * Z (0 + (k : Int))
    have o1 : OL (0 + (k : Int)) = sI (-6) 13 (fun y => pthG (onnE (0 + (k : Int), y)) (loC X B)) := by rw [hOL]; rfl
    have o2 : BL (0 + (k : Int)) = sI (-6) 13 (fun y => pthG (belE (0 + (k : Int), y)) (loC X B)) := by rw [hBL]; rfl
    have o3 : BH (0 + (k : Int)) = sI (-6) 13 (fun y => pthG (belE (0 + (k : Int), y)) (hiC X A)) := by rw [hBH]; rfl
    have oz : Z (0 + (k : Int)) = if 0 + (k : Int) = 0 then 1 else 0 := by rw [hZ]
    have r0 : sI (-6) 13 (fun y => if y = 0 then 1 else 0) = 1 := row0
    have r : sJ (iI ps (0 + (k : Int))) = 1 * (1 * (1 * BH (0 + (k : Int)) + (-1) * BL (0 + (k : Int))) + (-1) * OL (0 + (k : Int))) + Z (0 + (k : Int)) * sI (-6) 13 (fun y => if y = 0 then 1 else 0) := by
      rw [o1, o2, o3, ← sI_lin, ← sI_lin, ← sI_lin]
      refine sI_congr fun j _ => ?_
      have := (h.point (x := 0 + (k : Int)) (by omega) (by omega) (-6 + (j : Int))).2
      rw [hps] at this
      rw [this]
      show _ = 1 * (1 * (1 * pthG (belE (0 + (k : Int), -6 + (j : Int))) (hiC X A) + (-1) * pthG (belE (0 + (k : Int), -6 + (j : Int))) (loC X B)) + (-1) * pthG (onnE (0 + (k : Int), -6 + (j : Int))) (loC X B)) + Z (0 + (k : Int)) * (if -6 + (j : Int) = 0 then 1 else 0)
      rw [oz]
      by_cases q : 0 + (k : Int) = 0
      · rw [if_pos q, if_pos q]; omega
      · rw [if_neg q, if_neg q]; omega
    rw [r, r0]; omega
  rw [a2] at a1 cB cA
  rw [b2] at b1 cB
  rw [z1] at cB cA
  have a1 : 2 * sI 0 X.toNat BL + 1 * pthG edc (loC X B) = -pth (loC X B) + qF (X, 0) - qF (0, 0) := a1
  have b1 : 2 * sI 0 X.toNat BH + 1 * pthG edc (hiC X A) = -pth (hiC X A) + qF (X, 0) - qF (0, 0) := b1
  rw [sB, sA, cB, cA, hbrd, hare]
  constructor
  · omega
  · omega
end
end G

namespace G
open PySem PySem.Spec PyProof.Rows L2
def top (i : Nat) : Stmt := PySem.Challenge.pw_latticeshapes_k25_grid_points_counted_on.main.body.getD i (.Pass ⟨0, 0, 0, 0⟩)

abbrev s_is_integer : Stmt := top 9
theorem sc_is_integer : FnScope ["value"] ["value"] (defScope s_is_integer) := ⟨rfl, rfl, rfl, by decide +kernel, rfl, by decide +kernel, by decide +kernel⟩
abbrev s_check_integer : Stmt := top 10
theorem sc_check_integer : FnScope ["value", "least"] ["value", "least"] (defScope s_check_integer) := ⟨rfl, rfl, rfl, by decide +kernel, rfl, by decide +kernel, by decide +kernel⟩
abbrev s_common_divisor : Stmt := top 11
theorem sc_common_divisor : FnScope ["first", "second"] ["first", "second"] (defScope s_common_divisor) := ⟨rfl, rfl, rfl, by decide +kernel, rfl, by decide +kernel, by decide +kernel⟩
abbrev s_greatest_divisor : Stmt := top 12
theorem sc_greatest_divisor : FnScope ["numbers", "number", "found"] ["numbers"] (defScope s_greatest_divisor) := ⟨rfl, rfl, rfl, by decide +kernel, rfl, by decide +kernel, by decide +kernel⟩
abbrev s_is_point : Stmt := top 14
theorem sc_is_point : FnScope ["value", "item"] ["value"] (defScope s_is_point) := ⟨rfl, rfl, rfl, by decide +kernel, rfl, by decide +kernel, by decide +kernel⟩
abbrev s_check_point : Stmt := top 15
theorem sc_check_point : FnScope ["value"] ["value"] (defScope s_check_point) := ⟨rfl, rfl, rfl, by decide +kernel, rfl, by decide +kernel, by decide +kernel⟩
abbrev s_cross_of : Stmt := top 16
theorem sc_cross_of : FnScope ["first", "second"] ["first", "second"] (defScope s_cross_of) := ⟨rfl, rfl, rfl, by decide +kernel, rfl, by decide +kernel, by decide +kernel⟩
abbrev s_difference : Stmt := top 17
theorem sc_difference : FnScope ["end", "start"] ["end", "start"] (defScope s_difference) := ⟨rfl, rfl, rfl, by decide +kernel, rfl, by decide +kernel, by decide +kernel⟩
abbrev s_turn_of : Stmt := top 18
theorem sc_turn_of : FnScope ["first", "second", "third"] ["first", "second", "third"] (defScope s_turn_of) := ⟨rfl, rfl, rfl, by decide +kernel, rfl, by decide +kernel, by decide +kernel⟩
abbrev s_InvalidPolygon_init : Stmt := inClass (top 5) 0
theorem sc_InvalidPolygon_init : FnScope ["self", "position"] ["self", "position"] (defScope s_InvalidPolygon_init) := ⟨rfl, rfl, rfl, by decide +kernel, rfl, by decide +kernel, by decide +kernel⟩
abbrev s_DegenerateCorner_init : Stmt := inClass (top 6) 0
theorem sc_DegenerateCorner_init : FnScope ["self", "position"] ["self", "position"] (defScope s_DegenerateCorner_init) := ⟨rfl, rfl, rfl, by decide +kernel, rfl, by decide +kernel, by decide +kernel⟩
abbrev s_CrossingEdges_init : Stmt := inClass (top 7) 0
theorem sc_CrossingEdges_init : FnScope ["self", "first", "second"] ["self", "first", "second"] (defScope s_CrossingEdges_init) := ⟨rfl, rfl, rfl, by decide +kernel, rfl, by decide +kernel, by decide +kernel⟩
abbrev s_check_points : Stmt := top 22
theorem sc_check_points : FnScope ["value", "position", "item"] ["value"] (defScope s_check_points) := ⟨rfl, rfl, rfl, by decide +kernel, rfl, by decide +kernel, by decide +kernel⟩
abbrev s_triples : Stmt := top 23
theorem sc_triples : GScp ["corners", "index", "corner"] ["corners"] (defScope s_triples) := ⟨rfl, rfl, rfl, by decide +kernel, rfl, by decide +kernel, by decide +kernel, fun _ => rfl⟩
abbrev s_check_turns : Stmt := top 24
theorem sc_check_turns : FnScope ["corners", "position", "before", "corner", "after"] ["corners"] (defScope s_check_turns) := ⟨rfl, rfl, rfl, by decide +kernel, rfl, by decide +kernel, by decide +kernel⟩
abbrev s_is_between : Stmt := top 25
theorem sc_is_between : FnScope ["point", "start", "end", "value", "low", "high"] ["point", "start", "end"] (defScope s_is_between) := ⟨rfl, rfl, rfl, by decide +kernel, rfl, by decide +kernel, by decide +kernel⟩
abbrev s_is_on : Stmt := top 26
theorem sc_is_on : FnScope ["point", "start", "end"] ["point", "start", "end"] (defScope s_is_on) := ⟨rfl, rfl, rfl, by decide +kernel, rfl, by decide +kernel, by decide +kernel⟩
abbrev s_have_common_point : Stmt := top 27
theorem sc_have_common_point : FnScope ["first", "second", "a", "b", "c", "d", "sides"] ["first", "second"] (defScope s_have_common_point) := ⟨rfl, rfl, rfl, by decide +kernel, rfl, by decide +kernel, by decide +kernel⟩
abbrev s_edges_of : Stmt := top 28
theorem sc_edges_of : FnScope ["corners", "index", "corner"] ["corners"] (defScope s_edges_of) := ⟨rfl, rfl, rfl, by decide +kernel, rfl, by decide +kernel, by decide +kernel⟩
abbrev s_check_crossings : Stmt := top 29
theorem sc_check_crossings : FnScope ["corners", "edges", "many", "first", "second"] ["corners"] (defScope s_check_crossings) := ⟨rfl, rfl, rfl, by decide +kernel, rfl, by decide +kernel, by decide +kernel⟩
abbrev s_area_of : Stmt := top 30
theorem sc_area_of : FnScope ["corners", "start", "end"] ["corners"] (defScope s_area_of) := ⟨rfl, rfl, rfl, by decide +kernel, rfl, by decide +kernel, by decide +kernel⟩
abbrev s_arranged : Stmt := top 31
theorem sc_arranged : FnScope ["corners", "ordered", "first"] ["corners"] (defScope s_arranged) := ⟨rfl, rfl, rfl, by decide +kernel, rfl, by decide +kernel, by decide +kernel⟩
abbrev s_checked_corners : Stmt := top 32
theorem sc_checked_corners : FnScope ["corners", "limit"] ["corners", "limit"] (defScope s_checked_corners) := ⟨rfl, rfl, rfl, by decide +kernel, rfl, by decide +kernel, by decide +kernel⟩
abbrev s_first_reflex : Stmt := top 34
theorem sc_first_reflex : FnScope ["corners", "position", "before", "corner", "after"] ["corners"] (defScope s_first_reflex) := ⟨rfl, rfl, rfl, by decide +kernel, rfl, by decide +kernel, by decide +kernel⟩
abbrev s_Polygon_init : Stmt := inClass (top 35) 1
theorem sc_Polygon_init : FnScope ["self", "corners"] ["self", "corners"] (defScope s_Polygon_init) := ⟨rfl, rfl, rfl, by decide +kernel, rfl, by decide +kernel, by decide +kernel⟩
abbrev s_Polygon_corners : Stmt := inClass (top 35) 5
theorem sc_Polygon_corners : FnScope ["self"] ["self"] (defScope s_Polygon_corners) := ⟨rfl, rfl, rfl, by decide +kernel, rfl, by decide +kernel, by decide +kernel⟩
abbrev s_content_of : Stmt := top 19
theorem sc_content_of : FnScope ["point"] ["point"] (defScope s_content_of) := ⟨rfl, rfl, rfl, by decide +kernel, rfl, by decide +kernel, by decide +kernel⟩
abbrev s_Polygon_double_area : Stmt := inClass (top 35) 6
theorem sc_Polygon_double_area : FnScope ["self"] ["self"] (defScope s_Polygon_double_area) := ⟨rfl, rfl, rfl, by decide +kernel, rfl, by decide +kernel, by decide +kernel⟩
abbrev s_Polygon_border_points : Stmt := inClass (top 35) 7
theorem sc_Polygon_border_points : FnScope ["self", "start", "end"] ["self"] (defScope s_Polygon_border_points) := ⟨rfl, rfl, rfl, by decide +kernel, rfl, by decide +kernel, by decide +kernel⟩
abbrev s_Polygon_inner_points : Stmt := inClass (top 35) 8
theorem sc_Polygon_inner_points : FnScope ["self"] ["self"] (defScope s_Polygon_inner_points) := ⟨rfl, rfl, rfl, by decide +kernel, rfl, by decide +kernel, by decide +kernel⟩
abbrev s_Polygon_total_points : Stmt := inClass (top 35) 9
theorem sc_Polygon_total_points : FnScope ["self"] ["self"] (defScope s_Polygon_total_points) := ⟨rfl, rfl, rfl, by decide +kernel, rfl, by decide +kernel, by decide +kernel⟩
abbrev s_Polygon_locate : Stmt := inClass (top 35) 13
theorem sc_Polygon_locate : FnScope ["self", "point", "inside", "start", "end", "turn"] ["self", "point"] (defScope s_Polygon_locate) := ⟨rfl, rfl, rfl, by decide +kernel, rfl, by decide +kernel, by decide +kernel⟩
abbrev s_law_draws : Stmt := top 37
theorem sc_law_draws : FnScope ["_law_script", "_law_k", "_law_cell", "_law_seed"] ["_law_script", "_law_k"] (defScope s_law_draws) := ⟨rfl, rfl, rfl, by decide +kernel, rfl, by decide +kernel, by decide +kernel⟩
abbrev s_law_draw : Stmt := top 38
theorem sc_law_draw : FnScope ["_law_draws_here", "_law_upto", "_law_digit"] ["_law_draws_here", "_law_upto"] (defScope s_law_draw) := ⟨rfl, rfl, rfl, by decide +kernel, rfl, by decide +kernel, by decide +kernel⟩
abbrev s_law_turn : Stmt := top 39
theorem sc_law_turn : FnScope ["_law_first", "_law_second", "_law_third", "_law_x", "_law_y"] ["_law_first", "_law_second", "_law_third"] (defScope s_law_turn) := ⟨rfl, rfl, rfl, by decide +kernel, rfl, by decide +kernel, by decide +kernel⟩
abbrev s_law_cleaned : Stmt := top 40
theorem sc_law_cleaned : FnScope ["_law_corners", "_law_turn_here", "_law_flat", "_law_at"] ["_law_corners"] (defScope s_law_cleaned) := ⟨rfl, rfl, rfl, by decide +kernel, rfl, by decide +kernel, by decide +kernel⟩
abbrev s_law_simple : Stmt := top 41
theorem sc_law_simple : FnScope ["_law_draws_here", "_law_most", "_law_x", "_law_below", "_law_above", "_law_turn_here"] ["_law_draws_here", "_law_most"] (defScope s_law_simple) := ⟨rfl, rfl, rfl, by decide +kernel, rfl, by decide +kernel, by decide +kernel⟩
abbrev s_law_divisor : Stmt := top 42
theorem sc_law_divisor : FnScope ["_law_first", "_law_second"] ["_law_first", "_law_second"] (defScope s_law_divisor) := ⟨rfl, rfl, rfl, by decide +kernel, rfl, by decide +kernel, by decide +kernel⟩
abbrev s_Polygon_middle : Stmt := inClass (top 35) 10
theorem sc_Polygon_middle : FnScope ["self", "x", "y", "divisor", "corner"] ["self"] (defScope s_Polygon_middle) := ⟨rfl, rfl, rfl, by decide +kernel, rfl, by decide +kernel, by decide +kernel⟩
abbrev s_law_middle : Stmt := top 43
theorem sc_law_middle : FnScope ["_law_corners", "_law_x", "_law_y", "_law_by", "_law_divisor_here", "_law_corner"] ["_law_corners"] (defScope s_law_middle) := ⟨rfl, rfl, rfl, by decide +kernel, rfl, by decide +kernel, by decide +kernel⟩
abbrev s_law : Stmt := top 44
theorem sc_law : FnScope ["_law_script", "_law_k", "_law_draws_here", "_law_corners", "_law_polygon", "_law_border", "_law_inside", "_law_x", "_law_y", "_law_word", "_law_corner"] ["_law_script"] (defScope s_law) := ⟨rfl, rfl, rfl, by decide +kernel, rfl, by decide +kernel, by decide +kernel⟩
/-! ### what the top has left -/
structure Tx (K : PySem.W.Frag) (mg : Str → Option Value) : Prop where
  n_isinstance : mg "isinstance" = none
  n_int : mg "int" = none
  n_bool : mg "bool" = none
  n_abs : mg "abs" = none
  n_tuple : mg "tuple" = none
  n_all : mg "all" = none
  n_len : mg "len" = none
  n_enumerate : mg "enumerate" = none
  n_list : mg "list" = none
  n_min : mg "min" = none
  n_max : mg "max" = none
  n_zip : mg "zip" = none
  n_range : mg "range" = none
  n_sum : mg "sum" = none
  g_is_integer : mg "is_integer" = some (.ref (He.ga K "is_integer"))
  g_check_integer : mg "check_integer" = some (.ref (He.ga K "check_integer"))
  g_common_divisor : mg "common_divisor" = some (.ref (He.ga K "common_divisor"))
  g_greatest_divisor : mg "greatest_divisor" = some (.ref (He.ga K "greatest_divisor"))
  g_is_point : mg "is_point" = some (.ref (He.ga K "is_point"))
  g_check_point : mg "check_point" = some (.ref (He.ga K "check_point"))
  g_cross_of : mg "cross_of" = some (.ref (He.ga K "cross_of"))
  g_difference : mg "difference" = some (.ref (He.ga K "difference"))
  g_turn_of : mg "turn_of" = some (.ref (He.ga K "turn_of"))
  g_check_points : mg "check_points" = some (.ref (He.ga K "check_points"))
  g_triples : mg "triples" = some (.ref (He.ga K "triples"))
  g_check_turns : mg "check_turns" = some (.ref (He.ga K "check_turns"))
  g_is_between : mg "is_between" = some (.ref (He.ga K "is_between"))
  g_is_on : mg "is_on" = some (.ref (He.ga K "is_on"))
  g_have_common_point : mg "have_common_point" = some (.ref (He.ga K "have_common_point"))
  g_edges_of : mg "edges_of" = some (.ref (He.ga K "edges_of"))
  g_check_crossings : mg "check_crossings" = some (.ref (He.ga K "check_crossings"))
  g_area_of : mg "area_of" = some (.ref (He.ga K "area_of"))
  g_arranged : mg "arranged" = some (.ref (He.ga K "arranged"))
  g_checked_corners : mg "checked_corners" = some (.ref (He.ga K "checked_corners"))
  g_first_reflex : mg "first_reflex" = some (.ref (He.ga K "first_reflex"))
  g_content_of : mg "content_of" = some (.ref (He.ga K "content_of"))
  g_law_draws : mg "_law_draws" = some (.ref (He.ga K "_law_draws"))
  g_law_draw : mg "_law_draw" = some (.ref (He.ga K "_law_draw"))
  g_law_turn : mg "_law_turn" = some (.ref (He.ga K "_law_turn"))
  g_law_cleaned : mg "_law_cleaned" = some (.ref (He.ga K "_law_cleaned"))
  g_law_simple : mg "_law_simple" = some (.ref (He.ga K "_law_simple"))
  g_law_divisor : mg "_law_divisor" = some (.ref (He.ga K "_law_divisor"))
  g_law_middle : mg "_law_middle" = some (.ref (He.ga K "_law_middle"))
  g_law : mg "law" = some (.ref (He.ga K "law"))
  c_MIN_CORNERS : ∃ t, mg "MIN_CORNERS" = some (.int 3 t)
  g_InvalidPolygon : mg "InvalidPolygon" = some (.ref (He.ga K "InvalidPolygon"))
  x_InvalidPolygon : OexF K (He.ga K "InvalidPolygon") (He.ma K (He.ga K "InvalidPolygon") "__init__") ["position"]
  g_DegenerateCorner : mg "DegenerateCorner" = some (.ref (He.ga K "DegenerateCorner"))
  x_DegenerateCorner : OexF K (He.ga K "DegenerateCorner") (He.ma K (He.ga K "DegenerateCorner") "__init__") ["position"]
  g_CrossingEdges : mg "CrossingEdges" = some (.ref (He.ga K "CrossingEdges"))
  x_CrossingEdges : OexF K (He.ga K "CrossingEdges") (He.ma K (He.ga K "CrossingEdges") "__init__") ["first", "second"]
  g_InvalidInteger : mg "InvalidInteger" = some (.ref (He.ga K "InvalidInteger"))
  x_InvalidInteger : ExcF K (He.ga K "InvalidInteger")
  g_InvalidPoint : mg "InvalidPoint" = some (.ref (He.ga K "InvalidPoint"))
  x_InvalidPoint : ExcF K (He.ga K "InvalidPoint")
  m_InvalidInteger_InvalidInteger : PySem.W.exmOne K (.ref (He.ga K "InvalidInteger")) (.ref (He.ga K "InvalidInteger")) = some true
  m_InvalidPoint_InvalidPoint : PySem.W.exmOne K (.ref (He.ga K "InvalidPoint")) (.ref (He.ga K "InvalidPoint")) = some true
  g_Polygon : mg "Polygon" = some (.ref (He.ga K "Polygon"))
  y_Polygon : InsTy K (He.ga K "Polygon")
  k_Polygon : Mk K (He.ga K "Polygon") (He.ma K (He.ga K "Polygon") "__init__")
  a_Polygon_kept : NoAttr K (He.ga K "Polygon") "kept"
  a_Polygon_reflex : NoAttr K (He.ga K "Polygon") "reflex"
  m_Polygon_corners : PropOf K (He.ga K "Polygon") "corners" (He.ma K (He.ga K "Polygon") "corners") (He5.wf K (He.ga K "Polygon") "property" "corners")
  m_Polygon_double_area : PropOf K (He.ga K "Polygon") "double_area" (He.ma K (He.ga K "Polygon") "double_area") (He5.wf K (He.ga K "Polygon") "property" "double_area")
  m_Polygon_border_points : PropOf K (He.ga K "Polygon") "border_points" (He.ma K (He.ga K "Polygon") "border_points") (He5.wf K (He.ga K "Polygon") "property" "border_points")
  m_Polygon_inner_points : PropOf K (He.ga K "Polygon") "inner_points" (He.ma K (He.ga K "Polygon") "inner_points") (He5.wf K (He.ga K "Polygon") "property" "inner_points")
  m_Polygon_total_points : PropOf K (He.ga K "Polygon") "total_points" (He.ma K (He.ga K "Polygon") "total_points") (He5.wf K (He.ga K "Polygon") "property" "total_points")
  m_Polygon_locate : Meth K (He.ga K "Polygon") "locate" (He.ma K (He.ga K "Polygon") "locate")
  m_Polygon_middle : PropOf K (He.ga K "Polygon") "middle" (He.ma K (He.ga K "Polygon") "middle") (He5.wf K (He.ga K "Polygon") "property" "middle")
  cr_Polygon : ClX.CRead K (He.ga K "Polygon") (.type "type")
  cv_Polygon_MAX_CORNERS : ∃ u, ClX.CVal K (He.ga K "Polygon") (.type "type") "MAX_CORNERS" (.int 60) u
  i_Polygon : PySem.W.kitOne K (.ref (He.ga K "Polygon")) (.ref (He.ga K "Polygon")) = some true
  j_Polygon : ∀ k ∈ kds, PySem.W.kitOne K (.type k) (.ref (He.ga K "Polygon")) = some false
  nf_Polygon : PySem.W.notFirst K (He.ga K "Polygon") (.ref (He.ga K "Polygon")) = true
  nk_Polygon : ∀ k ∈ kds, PySem.W.notFirst K (He.ga K "Polygon") (.type k) = true
  d_is_integer : FunD K "is_integer" "is_integer" (defArgs s_is_integer) (defBody s_is_integer) (defScope s_is_integer) [] [] (He.ga K "is_integer") (fdOf K (He.ga K "is_integer"))
  d_check_integer : FunD K "check_integer" "check_integer" (defArgs s_check_integer) (defBody s_check_integer) (defScope s_check_integer) [.non] [] (He.ga K "check_integer") (fdOf K (He.ga K "check_integer"))
  d_common_divisor : FunD K "common_divisor" "common_divisor" (defArgs s_common_divisor) (defBody s_common_divisor) (defScope s_common_divisor) [] [] (He.ga K "common_divisor") (fdOf K (He.ga K "common_divisor"))
  d_greatest_divisor : FunD K "greatest_divisor" "greatest_divisor" (defArgs s_greatest_divisor) (defBody s_greatest_divisor) (defScope s_greatest_divisor) [] [] (He.ga K "greatest_divisor") (fdOf K (He.ga K "greatest_divisor"))
  d_is_point : FunD K "is_point" "is_point" (defArgs s_is_point) (defBody s_is_point) (defScope s_is_point) [] [] (He.ga K "is_point") (fdOf K (He.ga K "is_point"))
  d_check_point : FunD K "check_point" "check_point" (defArgs s_check_point) (defBody s_check_point) (defScope s_check_point) [] [] (He.ga K "check_point") (fdOf K (He.ga K "check_point"))
  d_cross_of : FunD K "cross_of" "cross_of" (defArgs s_cross_of) (defBody s_cross_of) (defScope s_cross_of) [] [] (He.ga K "cross_of") (fdOf K (He.ga K "cross_of"))
  d_difference : FunD K "difference" "difference" (defArgs s_difference) (defBody s_difference) (defScope s_difference) [] [] (He.ga K "difference") (fdOf K (He.ga K "difference"))
  d_turn_of : FunD K "turn_of" "turn_of" (defArgs s_turn_of) (defBody s_turn_of) (defScope s_turn_of) [] [] (He.ga K "turn_of") (fdOf K (He.ga K "turn_of"))
  d_InvalidPolygon_init : FunD K "__init__" "InvalidPolygon.__init__" (defArgs s_InvalidPolygon_init) (defBody s_InvalidPolygon_init) (defScope s_InvalidPolygon_init) [] [] (He.ma K (He.ga K "InvalidPolygon") "__init__") (fdOf K (He.ma K (He.ga K "InvalidPolygon") "__init__"))
  d_DegenerateCorner_init : FunD K "__init__" "DegenerateCorner.__init__" (defArgs s_DegenerateCorner_init) (defBody s_DegenerateCorner_init) (defScope s_DegenerateCorner_init) [] [] (He.ma K (He.ga K "DegenerateCorner") "__init__") (fdOf K (He.ma K (He.ga K "DegenerateCorner") "__init__"))
  d_CrossingEdges_init : FunD K "__init__" "CrossingEdges.__init__" (defArgs s_CrossingEdges_init) (defBody s_CrossingEdges_init) (defScope s_CrossingEdges_init) [] [] (He.ma K (He.ga K "CrossingEdges") "__init__") (fdOf K (He.ma K (He.ga K "CrossingEdges") "__init__"))
  d_check_points : FunD K "check_points" "check_points" (defArgs s_check_points) (defBody s_check_points) (defScope s_check_points) [] [] (He.ga K "check_points") (fdOf K (He.ga K "check_points"))
  d_triples : FunD K "triples" "triples" (defArgs s_triples) (defBody s_triples) (defScope s_triples) [] [] (He.ga K "triples") (fdOf K (He.ga K "triples"))
  d_check_turns : FunD K "check_turns" "check_turns" (defArgs s_check_turns) (defBody s_check_turns) (defScope s_check_turns) [] [] (He.ga K "check_turns") (fdOf K (He.ga K "check_turns"))
  d_is_between : FunD K "is_between" "is_between" (defArgs s_is_between) (defBody s_is_between) (defScope s_is_between) [] [] (He.ga K "is_between") (fdOf K (He.ga K "is_between"))
  d_is_on : FunD K "is_on" "is_on" (defArgs s_is_on) (defBody s_is_on) (defScope s_is_on) [] [] (He.ga K "is_on") (fdOf K (He.ga K "is_on"))
  d_have_common_point : FunD K "have_common_point" "have_common_point" (defArgs s_have_common_point) (defBody s_have_common_point) (defScope s_have_common_point) [] [] (He.ga K "have_common_point") (fdOf K (He.ga K "have_common_point"))
  d_edges_of : FunD K "edges_of" "edges_of" (defArgs s_edges_of) (defBody s_edges_of) (defScope s_edges_of) [] [] (He.ga K "edges_of") (fdOf K (He.ga K "edges_of"))
  d_check_crossings : FunD K "check_crossings" "check_crossings" (defArgs s_check_crossings) (defBody s_check_crossings) (defScope s_check_crossings) [] [] (He.ga K "check_crossings") (fdOf K (He.ga K "check_crossings"))
  d_area_of : FunD K "area_of" "area_of" (defArgs s_area_of) (defBody s_area_of) (defScope s_area_of) [] [] (He.ga K "area_of") (fdOf K (He.ga K "area_of"))
  d_arranged : FunD K "arranged" "arranged" (defArgs s_arranged) (defBody s_arranged) (defScope s_arranged) [] [] (He.ga K "arranged") (fdOf K (He.ga K "arranged"))
  d_checked_corners : FunD K "checked_corners" "checked_corners" (defArgs s_checked_corners) (defBody s_checked_corners) (defScope s_checked_corners) [] [] (He.ga K "checked_corners") (fdOf K (He.ga K "checked_corners"))
  d_first_reflex : FunD K "first_reflex" "first_reflex" (defArgs s_first_reflex) (defBody s_first_reflex) (defScope s_first_reflex) [] [] (He.ga K "first_reflex") (fdOf K (He.ga K "first_reflex"))
  d_Polygon_init : FunD K "__init__" "Polygon.__init__" (defArgs s_Polygon_init) (defBody s_Polygon_init) (defScope s_Polygon_init) [] [] (He.ma K (He.ga K "Polygon") "__init__") (fdOf K (He.ma K (He.ga K "Polygon") "__init__"))
  d_Polygon_corners : FunD K "corners" "Polygon.corners" (defArgs s_Polygon_corners) (defBody s_Polygon_corners) (defScope s_Polygon_corners) [] [] (He5.wf K (He.ga K "Polygon") "property" "corners") (fdOf K (He5.wf K (He.ga K "Polygon") "property" "corners"))
  d_content_of : FunD K "content_of" "content_of" (defArgs s_content_of) (defBody s_content_of) (defScope s_content_of) [] [] (He.ga K "content_of") (fdOf K (He.ga K "content_of"))
  d_Polygon_double_area : FunD K "double_area" "Polygon.double_area" (defArgs s_Polygon_double_area) (defBody s_Polygon_double_area) (defScope s_Polygon_double_area) [] [] (He5.wf K (He.ga K "Polygon") "property" "double_area") (fdOf K (He5.wf K (He.ga K "Polygon") "property" "double_area"))
  d_Polygon_border_points : FunD K "border_points" "Polygon.border_points" (defArgs s_Polygon_border_points) (defBody s_Polygon_border_points) (defScope s_Polygon_border_points) [] [] (He5.wf K (He.ga K "Polygon") "property" "border_points") (fdOf K (He5.wf K (He.ga K "Polygon") "property" "border_points"))
  d_Polygon_inner_points : FunD K "inner_points" "Polygon.inner_points" (defArgs s_Polygon_inner_points) (defBody s_Polygon_inner_points) (defScope s_Polygon_inner_points) [] [] (He5.wf K (He.ga K "Polygon") "property" "inner_points") (fdOf K (He5.wf K (He.ga K "Polygon") "property" "inner_points"))
  d_Polygon_total_points : FunD K "total_points" "Polygon.total_points" (defArgs s_Polygon_total_points) (defBody s_Polygon_total_points) (defScope s_Polygon_total_points) [] [] (He5.wf K (He.ga K "Polygon") "property" "total_points") (fdOf K (He5.wf K (He.ga K "Polygon") "property" "total_points"))
  d_Polygon_locate : FunD K "locate" "Polygon.locate" (defArgs s_Polygon_locate) (defBody s_Polygon_locate) (defScope s_Polygon_locate) [] [] (He.ma K (He.ga K "Polygon") "locate") (fdOf K (He.ma K (He.ga K "Polygon") "locate"))
  d_law_draws : FunD K "_law_draws" "_law_draws" (defArgs s_law_draws) (defBody s_law_draws) (defScope s_law_draws) [] [] (He.ga K "_law_draws") (fdOf K (He.ga K "_law_draws"))
  d_law_draw : FunD K "_law_draw" "_law_draw" (defArgs s_law_draw) (defBody s_law_draw) (defScope s_law_draw) [] [] (He.ga K "_law_draw") (fdOf K (He.ga K "_law_draw"))
  d_law_turn : FunD K "_law_turn" "_law_turn" (defArgs s_law_turn) (defBody s_law_turn) (defScope s_law_turn) [] [] (He.ga K "_law_turn") (fdOf K (He.ga K "_law_turn"))
  d_law_cleaned : FunD K "_law_cleaned" "_law_cleaned" (defArgs s_law_cleaned) (defBody s_law_cleaned) (defScope s_law_cleaned) [] [] (He.ga K "_law_cleaned") (fdOf K (He.ga K "_law_cleaned"))
  d_law_simple : FunD K "_law_simple" "_law_simple" (defArgs s_law_simple) (defBody s_law_simple) (defScope s_law_simple) [] [] (He.ga K "_law_simple") (fdOf K (He.ga K "_law_simple"))
  d_law_divisor : FunD K "_law_divisor" "_law_divisor" (defArgs s_law_divisor) (defBody s_law_divisor) (defScope s_law_divisor) [] [] (He.ga K "_law_divisor") (fdOf K (He.ga K "_law_divisor"))
  d_Polygon_middle : FunD K "middle" "Polygon.middle" (defArgs s_Polygon_middle) (defBody s_Polygon_middle) (defScope s_Polygon_middle) [] [] (He5.wf K (He.ga K "Polygon") "property" "middle") (fdOf K (He5.wf K (He.ga K "Polygon") "property" "middle"))
  d_law_middle : FunD K "_law_middle" "_law_middle" (defArgs s_law_middle) (defBody s_law_middle) (defScope s_law_middle) [] [] (He.ga K "_law_middle") (fdOf K (He.ga K "_law_middle"))
  d_law : FunD K "law" "law" (defArgs s_law) (defBody s_law) (defScope s_law) [] [] (He.ga K "law") (fdOf K (He.ga K "law"))
section
variable {K : PySem.W.Frag} {mg : Str → Option Value}
theorem bn_is_integer (T : Tx K mg) : Binds K (fdOf K (He.ga K "is_integer")) ["value"] [] := T.d_is_integer.bindsN fun _ _ _ _ _ _ us hl => match us, hl with | [_], _ => rfl
theorem bd0_check_integer (T : Tx K mg) : ∃ ds, Vals [] ds ∧ Binds K (fdOf K (He.ga K "check_integer")) ["value", "least"] ds := T.d_check_integer.binds1 2 1 (List.cons_ne_nil _ _) rfl fun _ _ _ _ _ _ _ us its hu hi => match us, its, hu, hi with | [_, _], [_], _, _ => ⟨_, rfl, rfl⟩
theorem bd1_check_integer (T : Tx K mg) : ∃ ds, Vals [.non] ds ∧ Binds K (fdOf K (He.ga K "check_integer")) ["value", "least"] ds := T.d_check_integer.binds1 1 0 (List.cons_ne_nil _ _) rfl fun _ _ _ _ _ _ _ us its hu hi => match us, its, hu, hi with | [_], [_], _, _ => ⟨_, rfl, rfl⟩
theorem bn_common_divisor (T : Tx K mg) : Binds K (fdOf K (He.ga K "common_divisor")) ["first", "second"] [] := T.d_common_divisor.bindsN fun _ _ _ _ _ _ us hl => match us, hl with | [_, _], _ => rfl
theorem bn_is_point (T : Tx K mg) : Binds K (fdOf K (He.ga K "is_point")) ["value"] [] := T.d_is_point.bindsN fun _ _ _ _ _ _ us hl => match us, hl with | [_], _ => rfl
theorem bn_check_point (T : Tx K mg) : Binds K (fdOf K (He.ga K "check_point")) ["value"] [] := T.d_check_point.bindsN fun _ _ _ _ _ _ us hl => match us, hl with | [_], _ => rfl
theorem bn_cross_of (T : Tx K mg) : Binds K (fdOf K (He.ga K "cross_of")) ["first", "second"] [] := T.d_cross_of.bindsN fun _ _ _ _ _ _ us hl => match us, hl with | [_, _], _ => rfl
theorem bn_difference (T : Tx K mg) : Binds K (fdOf K (He.ga K "difference")) ["end", "start"] [] := T.d_difference.bindsN fun _ _ _ _ _ _ us hl => match us, hl with | [_, _], _ => rfl
theorem bn_turn_of (T : Tx K mg) : Binds K (fdOf K (He.ga K "turn_of")) ["first", "second", "third"] [] := T.d_turn_of.bindsN fun _ _ _ _ _ _ us hl => match us, hl with | [_, _, _], _ => rfl
theorem bn_InvalidPolygon_init (T : Tx K mg) : Binds K (fdOf K (He.ma K (He.ga K "InvalidPolygon") "__init__")) ["self", "position"] [] := T.d_InvalidPolygon_init.bindsN fun _ _ _ _ _ _ us hl => match us, hl with | [_, _], _ => rfl
theorem bn_DegenerateCorner_init (T : Tx K mg) : Binds K (fdOf K (He.ma K (He.ga K "DegenerateCorner") "__init__")) ["self", "position"] [] := T.d_DegenerateCorner_init.bindsN fun _ _ _ _ _ _ us hl => match us, hl with | [_, _], _ => rfl
theorem bn_CrossingEdges_init (T : Tx K mg) : Binds K (fdOf K (He.ma K (He.ga K "CrossingEdges") "__init__")) ["self", "first", "second"] [] := T.d_CrossingEdges_init.bindsN fun _ _ _ _ _ _ us hl => match us, hl with | [_, _, _], _ => rfl
theorem bn_check_points (T : Tx K mg) : Binds K (fdOf K (He.ga K "check_points")) ["value"] [] := T.d_check_points.bindsN fun _ _ _ _ _ _ us hl => match us, hl with | [_], _ => rfl
theorem bn_triples (T : Tx K mg) : Binds K (fdOf K (He.ga K "triples")) ["corners"] [] := T.d_triples.bindsN fun _ _ _ _ _ _ us hl => match us, hl with | [_], _ => rfl
theorem bn_check_turns (T : Tx K mg) : Binds K (fdOf K (He.ga K "check_turns")) ["corners"] [] := T.d_check_turns.bindsN fun _ _ _ _ _ _ us hl => match us, hl with | [_], _ => rfl
theorem bn_is_between (T : Tx K mg) : Binds K (fdOf K (He.ga K "is_between")) ["point", "start", "end"] [] := T.d_is_between.bindsN fun _ _ _ _ _ _ us hl => match us, hl with | [_, _, _], _ => rfl
theorem bn_is_on (T : Tx K mg) : Binds K (fdOf K (He.ga K "is_on")) ["point", "start", "end"] [] := T.d_is_on.bindsN fun _ _ _ _ _ _ us hl => match us, hl with | [_, _, _], _ => rfl
theorem bn_have_common_point (T : Tx K mg) : Binds K (fdOf K (He.ga K "have_common_point")) ["first", "second"] [] := T.d_have_common_point.bindsN fun _ _ _ _ _ _ us hl => match us, hl with | [_, _], _ => rfl
theorem bn_edges_of (T : Tx K mg) : Binds K (fdOf K (He.ga K "edges_of")) ["corners"] [] := T.d_edges_of.bindsN fun _ _ _ _ _ _ us hl => match us, hl with | [_], _ => rfl
theorem bn_check_crossings (T : Tx K mg) : Binds K (fdOf K (He.ga K "check_crossings")) ["corners"] [] := T.d_check_crossings.bindsN fun _ _ _ _ _ _ us hl => match us, hl with | [_], _ => rfl
theorem bn_area_of (T : Tx K mg) : Binds K (fdOf K (He.ga K "area_of")) ["corners"] [] := T.d_area_of.bindsN fun _ _ _ _ _ _ us hl => match us, hl with | [_], _ => rfl
theorem bn_arranged (T : Tx K mg) : Binds K (fdOf K (He.ga K "arranged")) ["corners"] [] := T.d_arranged.bindsN fun _ _ _ _ _ _ us hl => match us, hl with | [_], _ => rfl
theorem bn_checked_corners (T : Tx K mg) : Binds K (fdOf K (He.ga K "checked_corners")) ["corners", "limit"] [] := T.d_checked_corners.bindsN fun _ _ _ _ _ _ us hl => match us, hl with | [_, _], _ => rfl
theorem bn_first_reflex (T : Tx K mg) : Binds K (fdOf K (He.ga K "first_reflex")) ["corners"] [] := T.d_first_reflex.bindsN fun _ _ _ _ _ _ us hl => match us, hl with | [_], _ => rfl
theorem bn_Polygon_init (T : Tx K mg) : Binds K (fdOf K (He.ma K (He.ga K "Polygon") "__init__")) ["self", "corners"] [] := T.d_Polygon_init.bindsN fun _ _ _ _ _ _ us hl => match us, hl with | [_, _], _ => rfl
theorem bn_Polygon_corners (T : Tx K mg) : Binds K (fdOf K (He5.wf K (He.ga K "Polygon") "property" "corners")) ["self"] [] := T.d_Polygon_corners.bindsN fun _ _ _ _ _ _ us hl => match us, hl with | [_], _ => rfl
theorem bn_content_of (T : Tx K mg) : Binds K (fdOf K (He.ga K "content_of")) ["point"] [] := T.d_content_of.bindsN fun _ _ _ _ _ _ us hl => match us, hl with | [_], _ => rfl
theorem bn_Polygon_double_area (T : Tx K mg) : Binds K (fdOf K (He5.wf K (He.ga K "Polygon") "property" "double_area")) ["self"] [] := T.d_Polygon_double_area.bindsN fun _ _ _ _ _ _ us hl => match us, hl with | [_], _ => rfl
theorem bn_Polygon_border_points (T : Tx K mg) : Binds K (fdOf K (He5.wf K (He.ga K "Polygon") "property" "border_points")) ["self"] [] := T.d_Polygon_border_points.bindsN fun _ _ _ _ _ _ us hl => match us, hl with | [_], _ => rfl
theorem bn_Polygon_inner_points (T : Tx K mg) : Binds K (fdOf K (He5.wf K (He.ga K "Polygon") "property" "inner_points")) ["self"] [] := T.d_Polygon_inner_points.bindsN fun _ _ _ _ _ _ us hl => match us, hl with | [_], _ => rfl
theorem bn_Polygon_total_points (T : Tx K mg) : Binds K (fdOf K (He5.wf K (He.ga K "Polygon") "property" "total_points")) ["self"] [] := T.d_Polygon_total_points.bindsN fun _ _ _ _ _ _ us hl => match us, hl with | [_], _ => rfl
theorem bn_Polygon_locate (T : Tx K mg) : Binds K (fdOf K (He.ma K (He.ga K "Polygon") "locate")) ["self", "point"] [] := T.d_Polygon_locate.bindsN fun _ _ _ _ _ _ us hl => match us, hl with | [_, _], _ => rfl
theorem bn_law_draws (T : Tx K mg) : Binds K (fdOf K (He.ga K "_law_draws")) ["_law_script", "_law_k"] [] := T.d_law_draws.bindsN fun _ _ _ _ _ _ us hl => match us, hl with | [_, _], _ => rfl
theorem bn_law_draw (T : Tx K mg) : Binds K (fdOf K (He.ga K "_law_draw")) ["_law_draws_here", "_law_upto"] [] := T.d_law_draw.bindsN fun _ _ _ _ _ _ us hl => match us, hl with | [_, _], _ => rfl
theorem bn_law_turn (T : Tx K mg) : Binds K (fdOf K (He.ga K "_law_turn")) ["_law_first", "_law_second", "_law_third"] [] := T.d_law_turn.bindsN fun _ _ _ _ _ _ us hl => match us, hl with | [_, _, _], _ => rfl
theorem bn_law_cleaned (T : Tx K mg) : Binds K (fdOf K (He.ga K "_law_cleaned")) ["_law_corners"] [] := T.d_law_cleaned.bindsN fun _ _ _ _ _ _ us hl => match us, hl with | [_], _ => rfl
theorem bn_law_simple (T : Tx K mg) : Binds K (fdOf K (He.ga K "_law_simple")) ["_law_draws_here", "_law_most"] [] := T.d_law_simple.bindsN fun _ _ _ _ _ _ us hl => match us, hl with | [_, _], _ => rfl
theorem bn_law_divisor (T : Tx K mg) : Binds K (fdOf K (He.ga K "_law_divisor")) ["_law_first", "_law_second"] [] := T.d_law_divisor.bindsN fun _ _ _ _ _ _ us hl => match us, hl with | [_, _], _ => rfl
theorem bn_Polygon_middle (T : Tx K mg) : Binds K (fdOf K (He5.wf K (He.ga K "Polygon") "property" "middle")) ["self"] [] := T.d_Polygon_middle.bindsN fun _ _ _ _ _ _ us hl => match us, hl with | [_], _ => rfl
theorem bn_law_middle (T : Tx K mg) : Binds K (fdOf K (He.ga K "_law_middle")) ["_law_corners"] [] := T.d_law_middle.bindsN fun _ _ _ _ _ _ us hl => match us, hl with | [_], _ => rfl
end
end G
/-! ### the walk: one step; all plain steps -/
open PySem PySem.Spec PyProof.Rows L2 G
local macro_rules | `(tactic| walk_at "g1") => `(tactic| first
  | (with_reducible refine' r_seq ?_)
  | (with_reducible refine' r_asg ?_)
  | (with_reducible refine' r_ifs ?_)
  | (with_reducible refine' r_test ?_)
  | (with_reducible refine' r_op ?_)
  | ((with_reducible refine' r_var ?h ?_); (case h => exact rfl))
  | (with_reducible refine' r_c ?_)
  | (with_reducible refine' r_I0 ?_)
  | (with_reducible refine' r_bl ?_)
  | (with_reducible refine' r_cons ?_)
  | (with_reducible refine' r_nil ?_)
  | (with_reducible refine' r_gname ?_)
  | (with_reducible refine' r_next ?_)
  | (with_reducible refine' r_ret ?_)
  | (with_reducible refine' r_un ?_)
  | (with_reducible refine' r_U ?_)
  | (with_reducible refine' r_cb ?_)
  | (with_reducible refine' r_call ?_)
  | (with_reducible refine' r_callS ?_)
  | (with_reducible refine' r_callR ?_)
  | (with_reducible refine' r_methA ?_)
  | (with_reducible refine' r_makeA ?_)
  | ((with_reducible refine' r_makeL ?h ?_); (case h => exact rfl))
  | (with_reducible refine' r_cmethA ?_)
  | (with_reducible refine' r_cval ?_)
  | (with_reducible refine' r_prop ?_)
  | (with_reducible refine' r_propG ?_)
  | (with_reducible refine' r_methG ?_)
  | (with_reducible refine' r_fld ?_)
  | (with_reducible refine' r_sfld ?_)
  | (with_reducible refine' r_lst ?_)
  | (with_reducible refine' r_tup ?_)
  | (with_reducible refine' r_drop ?_)
  | (with_reducible refine' r_sub ?_)
  | (with_reducible refine' r_and ?_)
  | (with_reducible refine' r_or ?_)
  | (with_reducible refine' r_not ?_)
  | (with_reducible refine' r_andV ?_)
  | (with_reducible refine' r_orV ?_)
  | (with_reducible refine' r_notV ?_)
  | (with_reducible refine' r_if ?_)
  | (with_reducible refine' r_tB ?_)
  | ((with_reducible refine' r_aug ?h ?_); (case h => exact rfl))
  | (with_reducible refine' r_ipI ?_)
  | (with_reducible refine' r_gcons ?_)
  | (with_reducible refine' r_gnil ?_)
  | ((with_reducible refine' r_gtup ?h1 ?_ ?h2); (case h1 => exact SqT.of (by assumption)); (case h2 => exact rfl))
  | ((with_reducible refine' r_gtup ?h1 ?_ ?h2); (case h1 => assumption); (case h2 => exact rfl))
  | (with_reducible refine' r_par ?_)
  | (with_reducible refine' r_two ?_)
  | (with_reducible refine' r_abs ?_)
  | (with_reducible refine' r_intB ?_)
  | (with_reducible refine' r_intI ?_)
  | (with_reducible refine' r_max2 ?_)
  | (with_reducible refine' r_min2 ?_)
  | (with_reducible refine' r_tru ?_)
  | (with_reducible refine' r_truI ?_)
  | (with_reducible refine' r_isN ?_)
  | (with_reducible refine' r_notN ?_)
  | (with_reducible refine' r_isB ?_)
  | (with_reducible refine' r_notB ?_)
  | (with_reducible refine' r_forR1 ?_)
  | (with_reducible refine' r_forR2 ?_)
  | (with_reducible refine' r_forL ?_)
  | (with_reducible refine' r_forT ?_)
  | (with_reducible refine' r_forZ ?_)
  | (with_reducible refine' r_forE ?_)
  | (with_reducible refine' r_lcE ?_)
  | (with_reducible refine' r_lcZ3 ?_)
  | (with_reducible refine' r_ost ?_)
  | (with_reducible refine' r_bm ?_)
  | (with_reducible refine' r_xf ?_)
  | (with_reducible refine' r_sl ?_)
  | (with_reducible refine' r_noPart ?_)
  | (with_reducible refine' r_part ?_)
  | (with_reducible refine' r_partI ?_)
  | (with_reducible refine' r_lcR1 ?_)
  | (with_reducible refine' r_lcR2 ?_)
  | (with_reducible refine' r_lcL ?_)
  | (with_reducible refine' r_lcT ?_)
  | (with_reducible refine' r_eqI ?_)
  | (with_reducible refine' r_neI ?_)
  | ((with_reducible refine' r_eq ?h ?_); (case h => exact rfl))
  | ((with_reducible refine' r_ne ?h ?_); (case h => exact rfl)))
local macro_rules | `(tactic| walk_at "g") => `(tactic| repeat walk_at "g1")
local macro_rules | `(tactic| walk_at "ix") => `(tactic| first
  | ((with_reducible refine' r_ixL ?h1 ?h2 ?_); (case h1 => exact SqL.of (by assumption)); (case h2 => exact rfl))
  | ((with_reducible refine' r_ixT ?h1 ?h2 ?_); (case h1 => exact SqT.of (by assumption)); (case h2 => exact rfl))
  | ((with_reducible refine' r_ixL ?h1 ?h2 ?_); (case h1 => exact SqL.of upd_same); (case h2 => exact rfl))
  | ((with_reducible refine' r_ixL ?h1 ?h2 ?_); (case h1 => assumption); (case h2 => exact rfl))
  | ((with_reducible refine' r_ixT ?h1 ?h2 ?_); (case h1 => assumption); (case h2 => exact rfl)))
local macro_rules | `(tactic| walk_at "gx") => `(tactic| repeat (first | walk_at "g1" | walk_at "ix"))
local macro_rules | `(tactic| walk_at "g0") => `(tactic| repeat (first | (with_reducible refine' r_asg ?_) | (with_reducible refine' r_gname ?_) | (with_reducible refine' r_next ?_)))
local macro_rules | `(tactic| walk_at "st") => `(tactic| ((with_reducible refine' r_gnameS ?h ?_); (case h => simp only [List.set_cons_zero, List.set_cons_succ]; exact rfl)))
local macro_rules | `(tactic| walk_at "gs") => `(tactic| repeat (first | walk_at "st" | walk_at "g1" | walk_at "ix"))
local macro_rules | `(tactic| walk_at "s0") => `(tactic| ((refine' r_st ?h ?_); (case h => simp only [L2.start, List.map_cons, List.map_nil, List.length_cons, List.length_nil, List.replicate, List.cons_append, List.nil_append, Nat.reduceAdd, Nat.reduceSub, Nat.zero_add]; exact rfl)))
namespace G
open PySem PySem.Spec PyProof.Rows L2
section
variable {P : Program} {w : World} {K : PySem.W.Frag} {mg : Str → Option Value} {base : Heap}
/-! #### is_integer -/
def sp_is_integer (K : PySem.W.Frag) : Sp := fun vs H Q _ => ∃ (v : V) (n : String), vs = [v] ∧ Kd K H v n ∧ Q (.bl (isI v)) H
theorem ok_is_integer (T : Tx K mg) : FnOk P w K mg base CX0 1 (He.ga K "is_integer") (fdOf K (He.ga K "is_integer")) ["value"] (sp_is_integer K) := by
  refine T.d_is_integer.ok sc_is_integer (fun vs H Q E h => ?_) (fun cdv A outer s H vs Q E hr h => ?_)
  · obtain ⟨v, n, rfl, _⟩ := h
    rfl
  · obtain ⟨v, n, rfl, kd, q⟩ := h
    refine ⟨_, PSs.nox (pss_one (ps_ret (pe_and (pe_callB (kIsi (K := K)) (by rfl) T.n_isinstance (by decide +kernel) (pa_cons (pv 0) (pa_cons (pe_bltn (v := .ty "int") (by rfl) T.n_int (by decide +kernel) rfl) pa_nil))) (pe_one (pe_not (pe_callB (kIsi (K := K)) (by rfl) T.n_isinstance (by decide +kernel) (pa_cons (pv 0) (pa_cons (pe_bltn (v := .ty "bool") (by rfl) T.n_bool (by decide +kernel) rfl) pa_nil)))))))), ?_⟩
    obtain ⟨k1, k2, _, _, e⟩ := kd.kit
    walk_at "g"
    refine r_isi (.ty "int") kd.ty k1 ?_
    walk_at "g"
    refine r_b (fun hb => ?_) (fun hb => ?_)
    · walk_at "g"
      refine r_isi (.ty "bool") kd.ty k2 ?_
      walk_at "g"
      rw [hb, Bool.true_and] at e
      rw [← e]
      exact q
    · rw [hb, Bool.false_and] at e
      rw [← e]
      exact q
/-! #### check_integer -/
def goodI (v l : V) : Bool := match v with
  | .int i => (match l with | .int m => decide (m ≤ i) | _ => true)
  | _ => false
def sp_check_integer (K : PySem.W.Frag) : Sp := fun vs H Q E => ∃ (v l : V) (n : String), vs = [v, l] ∧ Kd K H v n ∧ (l = .non ∨ ∃ m, l = .int m) ∧ (goodI v l = true → Q .non H) ∧ (goodI v l = false → E (.ref (He.ga K "InvalidInteger")) none H)
theorem ok_check_integer (T : Tx K mg) : FnOk P w K mg base (L2.CX P w) 2 (He.ga K "check_integer") (fdOf K (He.ga K "check_integer")) ["value", "least"] (sp_check_integer K) := by
  refine T.d_check_integer.ok sc_check_integer (fun vs H Q E h => ?_) (fun cdv A outer s H vs Q E hr h => ?_)
  · obtain ⟨v, l, n, rfl, _⟩ := h
    rfl
  · obtain ⟨v, l, n, rfl, kd, hl, q1, q2⟩ := h
    refine ⟨_, (pss_one (ps_if (PW.pt (pw_or (pt_not (pt_val (pe_call (ok_is_integer (K := K) T) (hr.mono (by decide)) rfl T.g_is_integer T.d_is_integer.kp (bn_is_integer T) .nil pass0 (pa_cons (pv 0) pa_nil)))) (pw_or1 (PW.pt (pw_and (pt_cmpR op_notN1 (pv 1) pe_non (nomark _)) (pw_and1 (pt_cmpR op_lt (pv 0) (pv 1) (nomark _)))))))) (pss_one (ps_raise rfl (takes_of rfl rfl rfl rfl) (pmk_own PySem.F.excBase_ValueError T.x_InvalidInteger.x T.g_InvalidInteger T.x_InvalidInteger.k (raises_own T.x_InvalidInteger.b T.x_InvalidInteger.t) rfl))) pss_nil)), ?_⟩
    walk_at "g"
    refine ⟨v, n, rfl, kd, ?_⟩
    walk_at "g"
    cases v with
    | int i =>
      show if (!true) = true then _ else _
      refine iteF ?_
      walk_at "g"
      rcases hl with rfl | ⟨m, rfl⟩
      · exact q1 rfl
      · refine iteT ?_
        walk_at "g"
        refine r_dec (fun h => q2 (decide_eq_false (by omega))) (fun h => q1 (decide_eq_true (by omega)))
    | _ => exact q2 rfl
/-! #### common_divisor -/
def sp_common_divisor : Sp := fun vs H Q _ => ∃ a b : Int, vs = [.int a, .int b] ∧ Q (.int (Int.gcd a b)) H
theorem ok_common_divisor (T : Tx K mg) : FnOk P w K mg base CX0 1 (He.ga K "common_divisor") (fdOf K (He.ga K "common_divisor")) ["first", "second"] (sp_common_divisor) := by
  refine T.d_common_divisor.ok sc_common_divisor (fun vs H Q E h => ?_) (fun cdv A outer s H vs Q E hr h => ?_)
  · obtain ⟨a, b, rfl, _⟩ := h
    rfl
  · obtain ⟨a, b, rfl, q⟩ := h
    refine ⟨_, PSs.nox (pss_cons (ps_par (i := 0) (j := 1) (by rfl) sc_common_divisor.nd rfl rfl (by decide) rfl rfl (pa_cons (pe_callB cAbs (by rfl) T.n_abs (by decide +kernel) (pa_cons (pv 0) pa_nil)) (pa_cons (pe_callB cAbs (by rfl) T.n_abs (by decide +kernel) (pa_cons (pv 1) pa_nil)) pa_nil)) (by rfl))
      (pss_cons (ps_while PassesOwn.never (kTru (K := K) (pv 1))
      (pss_one (ps_par (i := 0) (j := 1) (by rfl) sc_common_divisor.nd rfl rfl (by decide) rfl rfl (pa_cons (pv 1) (pa_cons (pe_op op_mod (pv 0) (pv 1)) pa_nil)) (by rfl))))
      (pss_one (ps_ret (pv 0))))), ?_⟩
    walk_at "g"
    refine r_while (fun m σ' H' => ∃ x y : Int, σ' = [some (.int x), some (.int y)] ∧ H = H' ∧ 0 ≤ x ∧ 0 ≤ y ∧ Int.gcd x y = Int.gcd a b ∧ m = y.toNat) b.natAbs ⟨_, _, rfl, rfl, by omega, by omega, ?_, by omega⟩ ?_
    · show Int.gcd (a.natAbs : Int) (b.natAbs : Int) = Int.gcd a b
      simp [Int.gcd]
    · rintro m σ' H' ⟨x, y, rfl, rfl, hx, hy, hg, rfl⟩
      walk_at "g"
      refine r_dec (fun h => wnext ?_) (fun h => ?_)
      · walk_at "g"
        refine r_I (by show (0 : Int) < y; omega) ?_
        walk_at "g"
        have h1 := Int.emod_nonneg x h
        have h2 := Int.emod_lt_of_pos x (show 0 < y by omega)
        exact ⟨_, by omega, _, _, rfl, rfl, hy, h1, by rw [gcd_emod x y hy]; exact hg, rfl⟩
      · have h0 : y = 0 := Classical.not_not.mp h
        subst h0
        walk_at "g"
        have e : x = ((Int.gcd a b : Nat) : Int) := by
          rw [← hg, Int.gcd_zero_right]; omega
        rw [e]
        exact q
/-! #### greatest_divisor -/
def gcdL (ns : List Int) : Int := ns.foldl (fun a n => ((Int.gcd a n : Nat) : Int)) 0
def sp_greatest_divisor (K : PySem.W.Frag) : Sp := fun vs H Q E => (∀ v ∈ vs, ∃ n, Kd K H v n) ∧ vs.length ≤ 100 ∧ (∀ ns : List Int, vs = ns.map V.int → ∀ H', Same H H' → Q (.int (gcdL ns)) H') ∧
  (vs.all isI = false → ∀ H', Same H H' → E (.ref (He.ga K "InvalidInteger")) none H')
def sq_greatest_divisor (K : PySem.W.Frag) : Sp := fun vs H Q E => ∃ (p : Addr) (xs : List V), vs = [.ref p] ∧ H p = some (.tup xs) ∧ (∀ v ∈ xs, ∃ n, Kd K H v n) ∧ (∀ ns : List Int, xs = ns.map V.int → Q (.int (gcdL ns)) H) ∧ (xs.all isI = false → E (.ref (He.ga K "InvalidInteger")) none H)
theorem isI_int {v : V} (h : isI v = true) : ∃ i, v = .int i := by
  cases v with
  | int i => exact ⟨i, rfl⟩
  | _ => cases h
theorem all_ints : ∀ {xs : List V}, xs.all isI = true → ∃ ns : List Int, xs = ns.map V.int
  | [], _ => ⟨[], rfl⟩
  | x :: xs, h => by
    obtain ⟨h1, h2⟩ := Bool.and_eq_true_iff.mp (show (isI x && xs.all isI) = true from h)
    obtain ⟨i, rfl⟩ := isI_int h1
    obtain ⟨ns, rfl⟩ := all_ints h2
    exact ⟨i :: ns, rfl⟩
theorem gcdL_take {ns : List Int} {i : Nat} {n : Int} (h : ns[i]? = some n) : gcdL (ns.take (i + 1)) = ((Int.gcd (gcdL (ns.take i)) n : Nat) : Int) := by
  unfold gcdL
  have e : ns.take (i + 1) = ns.take i ++ [n] := by rw [List.take_succ, h]; rfl
  rw [e, List.foldl_append]
  rfl
theorem ok_greatest_divisor (T : Tx K mg) : FnR P w K mg base (L2.CX P w) 3 (He.ga K "greatest_divisor") (sp_greatest_divisor K) := by
  obtain ⟨oc, od, dV, kV, doc, pm, an, cdv, ct, osl, efd, lk, hcd, hD, hK⟩ := T.d_greatest_divisor.ex
  have hd0 : dV = .none := by
    rcases hD with ⟨_, e⟩ | ⟨e, _⟩
    · exact e
    · exact absurd rfl e
  subst hd0
  have F := StX.fn_star (CX := L2.CX P w) (P := P) (w := w) (mg := mg) (base := base) (ps := []) (pv := "numbers") (k := 3 - 1) (sp := sq_greatest_divisor K) (efd ▸ lk) hcd sc_greatest_divisor StX.cxUp (fun us rest hl => by
      cases us with
      | nil => cases rest <;> rfl
      | cons a r => cases hl) (fun A outer s H vs Q E hr h => ?_)
  · intro A outer s H us vs Q E hr e0 r h
    refine F A outer s H us vs Q E hr e0 r ?_
    obtain ⟨h1, h2, h3, h4⟩ := h
    refine ⟨[], vs, rfl, rfl, Nat.le_trans h2 (by decide), fun p hp => ⟨p, vs, rfl, upd_same, fun v hv => ?_, fun ns e => h3 ns e _ (same_new (Same.refl H) hp), fun e => h4 e _ (same_new (Same.refl H) hp)⟩⟩
    obtain ⟨n, kd⟩ := h1 v hv
    exact ⟨n, kd.same (same_new (Same.refl H) hp)⟩
  · obtain ⟨p, xs, rfl, hp, hk, q1, q2⟩ := h
    refine ⟨_, (pss_cons (ps_for (passes_of rfl) rfl (kpiT (K := K) (pv 0)) (pg_name (i := 1) sc_greatest_divisor.nd rfl (Or.inl rfl))
      (pss_one (ps_expr (pe_call (ok_check_integer (K := K) T) (hr.mono (by decide)) rfl T.g_check_integer T.d_check_integer.kp (bd1_check_integer T).choose_spec.2 (bd1_check_integer T).choose_spec.1 (passes_call (takes_of rfl rfl rfl rfl) (fun _ _ _ _ h => h)) (pa_cons (pv 1) pa_nil)))))
      (pss_cons (ps_set (i := 2) sc_greatest_divisor.nd rfl (Or.inl rfl) pe_int)
      (pss_cons (ps_for (passes_of rfl) rfl (kpiT (K := K) (pv 0)) (pg_name (i := 1) sc_greatest_divisor.nd rfl (Or.inl rfl))
      (pss_one (ps_set (i := 2) sc_greatest_divisor.nd rfl (Or.inl rfl) (pe_call (ok_common_divisor (K := K) T) (hr.mono (by decide)) rfl T.g_common_divisor T.d_common_divisor.kp (bn_common_divisor T) .nil pass0 (pa_cons (pv 2) (pa_cons (pv 1) pa_nil))))))
      (pss_one (ps_ret (pv 2)))))), ?_⟩
    walk_at "g"
    refine loopT (xs := xs) (fun i σ' H' => H = H' ∧ (xs.take i).all isI = true ∧ ∃ o, σ' = [some (.ref p), o, none]) ⟨rfl, rfl, _, rfl⟩ (fun i σ' H' _ q => by obtain ⟨rfl, _⟩ := q; exact SqT.of hp) ?_ ?_
    · rintro i x σ' H' hi ⟨rfl, ha, o, rfl⟩
      walk_at "g"
      obtain ⟨n, kd⟩ := hk x (List.mem_of_getElem? hi)
      refine ⟨x, .non, n, rfl, kd, .inl rfl, fun g => ?_, fun g => q2 ?_⟩
      · have hx : isI x = true := by
          cases x with
          | int j => rfl
          | _ => cases g
        refine ⟨rfl, ?_, _, rfl⟩
        have e : xs.take (i + 1) = xs.take i ++ [x] := by rw [List.take_succ, hi]; rfl
        rw [e, List.all_append, ha]
        show (isI x && true) = true
        rw [hx] <;> rfl
      · have hx : isI x = false := by
          cases x with
          | int j => cases g
          | _ => rfl
        cases q : xs.all isI with
        | false => rfl
        | true =>
          have := List.all_eq_true.mp q x (List.mem_of_getElem? hi)
          rw [hx] at this
          cases this
    · rintro σ' H' ⟨rfl, ha, o, rfl⟩
      rw [List.take_length] at ha
      obtain ⟨ns, rfl⟩ := all_ints ha
      walk_at "g"
      refine loopT (xs := ns.map V.int) (fun i σ' H' => H = H' ∧ ∃ o, σ' = [some (.ref p), o, some (.int (gcdL (ns.take i)))]) ⟨rfl, _, rfl⟩ (fun i σ' H' _ q => by obtain ⟨rfl, _⟩ := q; exact SqT.of hp) ?_ ?_
      · rintro i x σ' H' hi ⟨rfl, o, rfl⟩
        rw [List.getElem?_map] at hi
        obtain ⟨n, hn, rfl⟩ := Option.map_eq_some_iff.mp hi
        walk_at "g"
        refine ⟨_, _, rfl, ?_⟩
        walk_at "g"
        exact ⟨rfl, _, by rw [gcdL_take hn]; rfl⟩
      · rintro σ' H' ⟨rfl, o, rfl⟩
        walk_at "g"
        have q := q1 ns rfl
        rw [List.length_map, List.take_length]
        exact q
/-! #### is_point -/
def sp_is_point (K : PySem.W.Frag) : Sp := fun vs H Q _ => ∃ (v : V) (b : Bool), vs = [v] ∧ PtB K H v b ∧ ∀ H', Same H H' → Q (.bl b) H'
theorem kd_isi {H : Hp} {v : V} {n : String} (k : Kd K H v n) (c : String) (b : Bool) (hc : kitB n c = some b) {Q : VK} (q : Q (.bl b) H) : rIsi K [v, .ty c] H Q := r_isi (.ty c) k.ty (kit_ty hc) q
theorem ok_is_point (T : Tx K mg) : FnOk P w K mg base CX0 2 (He.ga K "is_point") (fdOf K (He.ga K "is_point")) ["value"] (sp_is_point K) := by
  refine T.d_is_point.ok sc_is_point (fun vs H Q E h => ?_) (fun cdv A outer s H vs Q E hr h => ?_)
  · obtain ⟨v, b, rfl, _⟩ := h
    rfl
  · obtain ⟨v, b, rfl, hb, q⟩ := h
    refine ⟨_, PSs.nox (pss_one (ps_ret (pe_and (pe_callB (kIsi (K := K)) (by rfl) T.n_isinstance (by decide +kernel) (pa_cons (pv 0) (pa_cons (pe_bltn (v := .ty "tuple") (by rfl) T.n_tuple (by decide +kernel) rfl) pa_nil))) (pe_and (pe_cmpR op_eq (pe_callB (kLen (K := K)) (by rfl) T.n_len (by decide +kernel) (pa_cons (pv 0) pa_nil)) pe_int (nomark _)) (pe_one (pe_callB (kAll (K := K) rfl) (by rfl) T.n_all (by decide +kernel) (pa_cons (pe_lc (own := [("item", 1)]) (g := (gName 1)) (tt := tYes) rfl sc_is_point.nd (kpiT (K := K) (pv 0)) (blkOk_by (own := [("item", 1)]) (N := ["value", "item"]) (sc := defScope s_is_point) (by decide +kernel)) (fun _ _ _ _ _ => (pg_name (i := 1) sc_is_point.nd rfl (Or.inl rfl))) (fun _ _ _ _ _ => pts_nil) (fun _ _ _ _ _ => (pe_call (ok_is_integer (K := K) T) (hr.mono (by decide)) rfl T.g_is_integer T.d_is_integer.kp (bn_is_integer T) .nil pass0 (pa_cons (pv 1) pa_nil)))) pa_nil))))))), ?_⟩
    have two : ∀ (p : Addr) (x y : V) (m n : String), SqT K H p [x, y] → Kd K H x m → Kd K H y n → (isI x && isI y) = b → v = .ref p → tAndV (tOp rEq (tCB (rLn K) (tCons (tVar 0) tNil)) (tC (V.int 2))) (tCB (rAll K) (tCons (tLc (iTup K (tVar 0)) (gName 1) tYes (tCall (sp_is_integer K) [] E0 (tCons (tVar 1) tNil)) [1]) tNil)) [some v, none] H Q := by
      rintro p x y m n hs kx ky hi rfl
      walk_at "gx"
      refine r_lenT hs ?_
      walk_at "gx"
      refine r_dec (fun _ => ?_) (fun h => absurd rfl h)
      walk_at "gx"
      refine compT (xs := [x, y]) (by show 2 ≤ 100000; decide) (fun D i acc H' => Same H H' ∧ acc = ([isI x, isI y].take i).map V.bl) hs (fun D hD => ⟨same_new (Same.refl H) hD, rfl⟩) (fun D i acc H' _ p => sqT_same p.1 hs) ?_ ?_
      · rintro D i z acc H1 hD hz hi2 ⟨S1, rfl⟩ hacc hl
        refine r_gname ⟨rfl, ?_⟩
        walk_at "gx"
        have hi2 : i < 2 := hi2
        have kz : ∃ k, Kd K H1 z k := by
          have hz := List.mem_of_getElem? hz
          simp only [List.mem_cons, List.not_mem_nil, or_false] at hz
          rcases hz with rfl | rfl
          · exact ⟨_, kx.same S1⟩
          · exact ⟨_, ky.same S1⟩
        obtain ⟨k, kz⟩ := kz
        refine ⟨_, _, rfl, kz, ?_⟩
        refine cnext hacc hl (by omega) ⟨fun c o e => ?_, ?_⟩
        · rw [upd_ne (ne_of_none e hD)]
          exact S1 c o e
        · rcases (show i = 0 ∨ i = 1 by omega) with rfl | rfl
          · cases hz; rfl
          · cases hz; rfl
      · rintro D acc H1 hD ⟨S1, rfl⟩ hacc hl
        refine ⟨D, [isI x, isI y], rfl, SqL.of hacc, ?_⟩
        have e : [isI x, isI y].all id = b := by
          show (isI x && (isI y && true)) = b
          rw [Bool.and_true]; exact hi
        rw [e]
        exact q H1 S1
    walk_at "gx"
    cases hb with
    | yes p hp =>
      obtain ⟨a, rfl, hs⟩ := hp.pt_of
      refine kd_isi (.tup hs) _ true (by decide +kernel) ?_
      refine ⟨true, rfl, iteT ?_⟩
      exact two a _ _ _ _ hs (.int _) (.int _) rfl rfl
    | kind k hn =>
      refine kd_isi k _ false ?_ ?_
      · cases k with
        | tup e => exact absurd rfl hn
        | non => decide +kernel
        | bl x => decide +kernel
        | int x => decide +kernel
        | str x => decide +kernel
        | lst x => decide +kernel
        | dK x => decide +kernel
      · refine ⟨false, rfl, iteF ?_⟩
        exact q _ (Same.refl H)
    | @len a xs hs hn =>
      refine kd_isi (.tup hs) _ true (by decide +kernel) ?_
      refine ⟨true, rfl, iteT ?_⟩
      walk_at "gx"
      refine r_lenT hs ?_
      walk_at "gx"
      refine r_dec (fun h => absurd h (by omega)) (fun h => ?_)
      exact q _ (Same.refl H)
    | item hs kx ky hi =>
      refine kd_isi (.tup hs) _ true (by decide +kernel) ?_
      refine ⟨true, rfl, iteT ?_⟩
      exact two _ _ _ _ _ hs kx ky hi rfl
/-! #### check_point -/
def sp_check_point (K : PySem.W.Frag) : Sp := fun vs H Q E => ∃ (v : V) (b : Bool), vs = [v] ∧ PtB K H v b ∧ (b = true → ∀ H', Same H H' → Q .non H') ∧ (b = false → ∀ H', Same H H' → E (.ref (He.ga K "InvalidPoint")) none H')
theorem ok_check_point (T : Tx K mg) : FnOk P w K mg base (L2.CX P w) 3 (He.ga K "check_point") (fdOf K (He.ga K "check_point")) ["value"] (sp_check_point K) := by
  refine T.d_check_point.ok sc_check_point (fun vs H Q E h => ?_) (fun cdv A outer s H vs Q E hr h => ?_)
  · obtain ⟨v, b, rfl, _⟩ := h
    rfl
  · obtain ⟨v, b, rfl, hb, q1, q2⟩ := h
    refine ⟨_, (pss_one (ps_if (pt_not (pt_val (pe_call (ok_is_point (K := K) T) (hr.mono (by decide)) rfl T.g_is_point T.d_is_point.kp (bn_is_point T) .nil pass0 (pa_cons (pv 0) pa_nil)))) (pss_one (ps_raise rfl (takes_of rfl rfl rfl rfl) (pmk_own PySem.F.excBase_ValueError T.x_InvalidPoint.x T.g_InvalidPoint T.x_InvalidPoint.k (raises_own T.x_InvalidPoint.b T.x_InvalidPoint.t) rfl))) pss_nil)), ?_⟩
    walk_at "gx"
    refine ⟨v, b, rfl, hb, fun H1 s1 => ?_⟩
    walk_at "gx"
    cases b with
    | true => exact q1 rfl H1 s1
    | false => exact q2 rfl H1 s1
/-! #### cross_of -/
def sp_cross_of (K : PySem.W.Frag) : Sp := fun vs H Q _ => ∃ (v u : V) (p q : Int × Int), vs = [v, u] ∧ Hd K H v p ∧ Hd K H u q ∧ PBd 100000 p ∧ PBd 100000 q ∧ Q (.int (crs p q)) H
theorem ok_cross_of (T : Tx K mg) : FnOk P w K mg base CX0 1 (He.ga K "cross_of") (fdOf K (He.ga K "cross_of")) ["first", "second"] (sp_cross_of K) := by
  refine T.d_cross_of.ok sc_cross_of (fun vs H Q E h => ?_) (fun cdv A outer s H vs Q E hr h => ?_)
  · obtain ⟨v, u, p, q, rfl, _⟩ := h
    rfl
  · obtain ⟨v, u, p, q, rfl, hp, hq, bp, bq, k⟩ := h
    obtain ⟨a, rfl, ha⟩ := hp.pt_of
    obtain ⟨b, rfl, hb⟩ := hq.pt_of
    refine ⟨_, PSs.nox (pss_one (ps_ret (pe_op op_sub (pe_op op_mulA (pe_ix (kIxT (K := K)) (pv 0) pe_int (fun _ _ => rfl)) (pe_ix (kIxT (K := K)) (pv 1) pe_int (fun _ _ => rfl))) (pe_op op_mulA (pe_ix (kIxT (K := K)) (pv 0) pe_int (fun _ _ => rfl)) (pe_ix (kIxT (K := K)) (pv 1) pe_int (fun _ _ => rfl)))))), ?_⟩
    walk_at "gx"
    refine r_I (bp.1.ok bq.2) ?_
    walk_at "gx"
    refine r_I (bp.2.ok bq.1) ?_
    walk_at "gx"
    exact k
/-! #### difference -/
def sp_difference (K : PySem.W.Frag) : Sp := fun vs H Q _ => ∃ (v u : V) (p q : Pt), vs = [v, u] ∧ Hd K H v p ∧ Hd K H u q ∧ ∀ r H', Same H H' → Hd K H' r (dif p q) → Q r H'
theorem ok_difference (T : Tx K mg) : FnOk P w K mg base CX0 1 (He.ga K "difference") (fdOf K (He.ga K "difference")) ["end", "start"] (sp_difference K) := by
  refine T.d_difference.ok sc_difference (fun vs H Q E h => ?_) (fun cdv A outer s H vs Q E hr h => ?_)
  · obtain ⟨v, u, p, q, rfl, _⟩ := h
    rfl
  · obtain ⟨v, u, p, q, rfl, hp, hq, k⟩ := h
    obtain ⟨a, rfl, ha⟩ := hp.pt_of
    obtain ⟨b, rfl, hb⟩ := hq.pt_of
    refine ⟨_, PSs.nox (pss_one (ps_ret (pe_tup (pa_cons (pe_op op_sub (pe_ix (kIxT (K := K)) (pv 0) pe_int (fun _ _ => rfl)) (pe_ix (kIxT (K := K)) (pv 1) pe_int (fun _ _ => rfl))) (pa_cons (pe_op op_sub (pe_ix (kIxT (K := K)) (pv 0) pe_int (fun _ _ => rfl)) (pe_ix (kIxT (K := K)) (pv 1) pe_int (fun _ _ => rfl))) pa_nil))))), ?_⟩
    walk_at "gx"
    refine r_new fun t ht => ?_
    generalize e2 : upd H t _ = H2
    obtain ⟨s2, g2⟩ := fresh ht e2
    exact k _ _ s2 (hd_pair (SqT.of g2) hd_int hd_int)
/-! #### turn_of -/
def sp_turn_of (K : PySem.W.Frag) : Sp := fun vs H Q _ => ∃ (u v w : V) (a b c : Pt), vs = [u, v, w] ∧ Hd K H u a ∧ Hd K H v b ∧ Hd K H w c ∧ PBd 90000 a ∧ PBd 90000 b ∧ PBd 90000 c ∧ ∀ H', Same H H' → Q (.int (trn a b c)) H'
theorem ok_turn_of (T : Tx K mg) : FnOk P w K mg base CX0 2 (He.ga K "turn_of") (fdOf K (He.ga K "turn_of")) ["first", "second", "third"] (sp_turn_of K) := by
  refine T.d_turn_of.ok sc_turn_of (fun vs H Q E h => ?_) (fun cdv A outer s H vs Q E hr h => ?_)
  · obtain ⟨u, v, w, a, b, c, rfl, _⟩ := h
    rfl
  · obtain ⟨u, v, w, a, b, c, rfl, ha, hb, hc, ba, bb, bc, q⟩ := h
    refine ⟨_, PSs.nox (pss_one (ps_ret (pe_call (ok_cross_of (K := K) T) (hr.mono (by decide)) rfl T.g_cross_of T.d_cross_of.kp (bn_cross_of T) .nil pass0 (pa_cons (pe_call (ok_difference (K := K) T) (hr.mono (by decide)) rfl T.g_difference T.d_difference.kp (bn_difference T) .nil pass0 (pa_cons (pv 1) (pa_cons (pv 0) pa_nil))) (pa_cons (pe_call (ok_difference (K := K) T) (hr.mono (by decide)) rfl T.g_difference T.d_difference.kp (bn_difference T) .nil pass0 (pa_cons (pv 2) (pa_cons (pv 1) pa_nil))) pa_nil))))), ?_⟩
    walk_at "gx"
    refine ⟨_, _, b, a, rfl, hb, ha, fun r1 H1 s1 h1 => ?_⟩
    walk_at "gx"
    refine ⟨_, _, c, b, rfl, hc.same s1, hb.same s1, fun r2 H2 s2 h2 => ?_⟩
    walk_at "gx"
    exact ⟨_, _, _, _, rfl, h1.same s2, h2, (bb.dif ba).mono (by decide), (bc.dif bb).mono (by decide), q H2 (s1.trans s2)⟩
/-! #### InvalidPolygon.__init__ -/
theorem ok_InvalidPolygon_init (T : Tx K mg) : FnOk P w K mg base CX0 1 (He.ma K (He.ga K "InvalidPolygon") "__init__") (fdOf K (He.ma K (He.ga K "InvalidPolygon") "__init__")) ["self", "position"] (spX1 (He.ga K "InvalidPolygon") "position") := by
  refine T.d_InvalidPolygon_init.ok sc_InvalidPolygon_init (fun vs H Q E h => ?_) (fun cdv A outer s H vs Q E hr h => ?_)
  · obtain ⟨a, v, rfl, _⟩ := h
    rfl
  · obtain ⟨a, v, rfl, ha, q⟩ := h
    refine ⟨_, PSs.nox (pss_one (kOst (K := K) (ps_ost (pv 0) (pv 1)))), ?_⟩
    walk_at "gx"
    exact ⟨a, _, rfl, T.x_InvalidPolygon.o, T.x_InvalidPolygon.n _ (by simp), .inl ⟨ha, fun dx h1 h2 => q dx h1 h2⟩⟩
/-! #### DegenerateCorner.__init__ -/
theorem ok_DegenerateCorner_init (T : Tx K mg) : FnOk P w K mg base CX0 1 (He.ma K (He.ga K "DegenerateCorner") "__init__") (fdOf K (He.ma K (He.ga K "DegenerateCorner") "__init__")) ["self", "position"] (spX1 (He.ga K "DegenerateCorner") "position") := by
  refine T.d_DegenerateCorner_init.ok sc_DegenerateCorner_init (fun vs H Q E h => ?_) (fun cdv A outer s H vs Q E hr h => ?_)
  · obtain ⟨a, v, rfl, _⟩ := h
    rfl
  · obtain ⟨a, v, rfl, ha, q⟩ := h
    refine ⟨_, PSs.nox (pss_one (kOst (K := K) (ps_ost (pv 0) (pv 1)))), ?_⟩
    walk_at "gx"
    exact ⟨a, _, rfl, T.x_DegenerateCorner.o, T.x_DegenerateCorner.n _ (by simp), .inl ⟨ha, fun dx h1 h2 => q dx h1 h2⟩⟩
/-! #### CrossingEdges.__init__ -/
theorem ok_CrossingEdges_init (T : Tx K mg) : FnOk P w K mg base CX0 1 (He.ma K (He.ga K "CrossingEdges") "__init__") (fdOf K (He.ma K (He.ga K "CrossingEdges") "__init__")) ["self", "first", "second"] (spX2 (He.ga K "CrossingEdges") "first" "second") := by
  refine T.d_CrossingEdges_init.ok sc_CrossingEdges_init (fun vs H Q E h => ?_) (fun cdv A outer s H vs Q E hr h => ?_)
  · obtain ⟨a, v, u, rfl, _⟩ := h
    rfl
  · obtain ⟨a, v, u, rfl, ha, q⟩ := h
    refine ⟨_, PSs.nox (pss_cons (kOst (K := K) (ps_ost (pv 0) (pv 1)))
      (pss_one (kOst (K := K) (ps_ost (pv 0) (pv 2))))), ?_⟩
    walk_at "gx"
    refine ⟨a, _, rfl, T.x_CrossingEdges.o, T.x_CrossingEdges.n _ (by simp), .inl ⟨ha, fun dx h1 h2 => ?_⟩⟩
    walk_at "gx"
    refine ⟨a, _, rfl, T.x_CrossingEdges.o, T.x_CrossingEdges.n _ (by simp), .inr ⟨dx, [("first", v)], upd_same, ?_, (by show 1 ≤ 900; decide), q dx h1 h2⟩⟩
    rw [upd_ne h2, upd_same]
/-! #### check_points -/
theorem kit_lt {H : Hp} {v : V} {n : String} (k : Kd K H v n) : PySem.W.kitAny K (.type n) [.type "list", .type "tuple"] = some (n == "list" || n == "tuple") := by
  obtain ⟨_, _, h3, h4, _⟩ := k.kit
  unfold PySem.W.kitAny
  rw [h4]
  cases e : (n == "list") with
  | true => rfl
  | false =>
    show PySem.W.kitAny K (.type n) [.type "tuple"] = _
    unfold PySem.W.kitAny
    rw [h3]
    cases (n == "tuple") <;> rfl
theorem r_isLT {H : Hp} {v : V} {n : String} {t : Addr} {Q : VK} (ht : H t = some (.tup [.ty "list", .ty "tuple"])) (k : Kd K H v n) (q : Q (.bl (n == "list" || n == "tuple")) H) : rIsiT K [v, .ref t] H Q := r_isiT2 ht (.cons (.ty "list") (.cons (.ty "tuple") .nil)) k.ty (kit_lt k) q
theorem sqs_kd {H : Hp} {a : Addr} {xs : List V} (h : SqS K H a xs) : ∃ n, Kd K H (.ref a) n ∧ (n == "list" || n == "tuple") = true := by
  rcases h with h | h
  · exact ⟨_, .lst h, rfl⟩
  · exact ⟨_, .tup h, rfl⟩
def sp_check_points (K : PySem.W.Frag) : Sp := fun vs H Q E => (∃ (a : Addr) (xs : List V) (f : Nat → Bool), vs = [.ref a] ∧ SqS K H a xs ∧ (∀ i x, xs[i]? = some x → PtB K H x (f i)) ∧
  ((∀ i, i < xs.length → f i = true) → ∀ H', Same H H' → Q .non H') ∧
  (∀ i, i < xs.length → f i = false → (∀ j, j < i → f j = true) → ∀ d H', Same H H' → H d = none → H' d = some (.xd [("position", .int (i : Int))]) → E (.ref (He.ga K "InvalidPolygon")) (some d) H')) ∨
  ∃ (v : V) (n : String), vs = [v] ∧ Kd K H v n ∧ (n == "list" || n == "tuple") = false ∧ ∀ d H', Same H H' → H d = none → H' d = some (.xd [("position", .non)]) → E (.ref (He.ga K "InvalidPolygon")) (some d) H'
theorem ok_check_points (T : Tx K mg) : FnOk P w K mg base (L2.CX P w) 3 (He.ga K "check_points") (fdOf K (He.ga K "check_points")) ["value"] (sp_check_points K) := by
  refine T.d_check_points.ok sc_check_points (fun vs H Q E h => ?_) (fun cdv A outer s H vs Q E hr h => ?_)
  · rcases h with ⟨a, xs, f, rfl, _⟩ | ⟨v, n, rfl, _⟩ <;> rfl
  · refine ⟨_, (pss_cons (ps_if (pt_not (pt_val (pe_callB (kIsiT (K := K)) (by rfl) T.n_isinstance (by decide +kernel) (pa_cons (pv 0) (pa_cons (pe_tup (pa_cons (pe_bltn (v := .ty "list") (by rfl) T.n_list (by decide +kernel) rfl) (pa_cons (pe_bltn (v := .ty "tuple") (by rfl) T.n_tuple (by decide +kernel) rfl) pa_nil))) pa_nil))))) (pss_one (ps_raise rfl (takes_of rfl rfl rfl rfl) (pmk_oex T.x_InvalidPolygon.o T.x_InvalidPolygon.i T.x_InvalidPolygon.t (ok_InvalidPolygon_init (K := K) T) (hr.mono (by decide)) (bn_InvalidPolygon_init T) .nil pass0 rfl T.g_InvalidPolygon (pa_cons pe_non pa_nil)))) pss_nil)
      (pss_one (ps_for (passes_of rfl) rfl (kpiEnumS (K := K) (by rfl) T.n_enumerate (pa_cons (pv 0) pa_nil)) (kpgTup (K := K) (n := 2) rfl (pgs_cons (pg_name (i := 1) sc_check_points.nd rfl (Or.inl rfl)) (pgs_cons (pg_name (i := 2) sc_check_points.nd rfl (Or.inl rfl)) pgs_nil)))
      (pss_one (ps_if (pt_not (pt_val (pe_call (ok_is_point (K := K) T) (hr.mono (by decide)) rfl T.g_is_point T.d_is_point.kp (bn_is_point T) .nil pass0 (pa_cons (pv 2) pa_nil)))) (pss_one (ps_raise rfl (takes_of rfl rfl rfl rfl) (pmk_oex T.x_InvalidPolygon.o T.x_InvalidPolygon.i T.x_InvalidPolygon.t (ok_InvalidPolygon_init (K := K) T) (hr.mono (by decide)) (bn_InvalidPolygon_init T) .nil pass0 rfl T.g_InvalidPolygon (pa_cons (pv 1) pa_nil)))) pss_nil))))), ?_⟩
    rcases h with ⟨a, xs, f, rfl, hS, hf, q1, q2⟩ | ⟨v, n, rfl, kd, hn, q⟩
    case inr =>
      walk_at "gx"
      refine r_new fun t ht => ?_
      generalize e1 : upd H t _ = H1
      obtain ⟨s1, g1⟩ := fresh ht e1
      walk_at "gx"
      refine r_isLT g1 (kd.same s1) ?_
      rw [hn]
      refine ⟨_, rfl, iteT ?_⟩
      refine ⟨(by show 1 ≤ 1000; decide), ?_⟩
      exact r_mkX1 fun d H5 s5 hd h5 => q d H5 (s1.trans s5) (s1.free hd) h5
    walk_at "gx"
    refine r_new fun t ht => ?_
    generalize e1 : upd H t _ = H1
    obtain ⟨s1, g1⟩ := fresh ht e1
    have hS1 := hS.same s1
    obtain ⟨n, kd, hn⟩ := sqs_kd hS1
    walk_at "gx"
    refine r_isLT g1 kd ?_
    rw [hn]
    refine ⟨_, rfl, if_ff ?_⟩
    walk_at "gx"
    refine loopE hS1 (fun i σ' H' => Same H1 H' ∧ (∀ j, j < i → f j = true) ∧ ∃ o1 o2, σ' = [some (.ref a), o1, o2]) ⟨Same.refl _, fun j hj => absurd hj (Nat.not_lt_zero _), _, _, rfl⟩ (fun i σ' H' p => sq_pair p.1) ?_ ?_
    · rintro i x T' σ' H2 hi ⟨S2, hp, o1, o2, rfl⟩ hT
      have hlt : i < xs.length := (List.getElem?_eq_some_iff.mp hi).1
      generalize e3 : upd H2 T' _ = H3
      obtain ⟨s3, g3⟩ := fresh hT e3
      have S3 := (s1.trans S2).trans s3
      walk_at "gx"
      refine ⟨x, f i, rfl, (hf i x hi).same S3, fun H4 s4 => ?_⟩
      have S4 := S3.trans s4
      cases e : f i with
      | true =>
        walk_at "gx"
        refine ⟨(S2.trans s3).trans s4, fun j hj => ?_, _, _, rfl⟩
        rcases Nat.lt_or_ge j i with z | z
        · exact hp j z
        · obtain rfl : j = i := by omega
          exact e
      | false =>
        walk_at "gx"
        refine iteT ?_
        refine ⟨.int (i : Int), rfl, (by show 1 ≤ 1000; decide), ?_⟩
        exact r_mkX1 fun d H5 s5 hd h5 => q2 i hlt e hp d H5 (S4.trans s5) (S4.free hd) h5
    · rintro σ' H2 ⟨S2, hp, o1, o2, rfl⟩
      walk_at "gx"
      exact q1 hp _ (s1.trans S2)
/-! #### triples -/
/-- what triples hands out: with m to come, the triple at n - m -/
def ctrTri (K : PySem.W.Frag) (ps : List Pt) : Ctr where
  yl := fun m Hr x H => Same Hr H ∧ ∃ (a : Addr) (u v w : V), x = .ref a ∧ SqT K H a [u, v, w] ∧ Hd K H u (prv ps (ps.length - m)) ∧ Hd K H v (atC ps (ps.length - m)) ∧ Hd K H w (nxt ps (ps.length - m))
  ok := fun _ H1 H2 => Same H1 H2
  fin := fun Hr H => Same Hr H
def sp_triples (K : PySem.W.Frag) : SpM := fun vs H R => ∃ (v : V) (ps : List Pt), vs = [v] ∧ PSq K H v ps ∧ R ps.length (ctrTri K ps)
theorem ok_triples (T : Tx K mg) : GFm P w K mg base 1 (He.ga K "triples") (fdOf K (He.ga K "triples")) ["corners"] (sp_triples K) := by
  obtain ⟨oc, od, dV, kV, doc, pm, an, cdv, ct, osl, efd, lk, hcd, hD, hK⟩ := T.d_triples.ex
  rw [efd]
  refine gfm_of (k := 0) (efd ▸ lk) hcd sc_triples (fun vs H R h => ?_) (fun _ _ _ H vs R h => ?_)
  · obtain ⟨v, ps, rfl, _⟩ := h
    rfl
  · obtain ⟨v, ps, rfl, hv, hR⟩ := h
    refine ⟨_, _, hR, fun A outer L hr => ?_⟩
    refine ⟨_, (gt_cons (gt_for (fun sb H0 => (kpiEnumS (K := K) (by rfl) T.n_enumerate (pa_cons (pv 0) pa_nil))) (fun sb H0 => (kpgTup (K := K) (n := 2) rfl (pgs_cons (pg_name (i := 1) sc_triples.nd rfl (Or.inl rfl)) (pgs_cons (pg_name (i := 2) sc_triples.nd rfl (Or.inl rfl)) pgs_nil))))
      (gt_cons (gt_yield (fun sb H0 => (pe_tup (pa_cons (pe_ix (kIxS (K := K)) (pv 0) (pe_op op_sub (pv 1) pe_int) (fun _ _ => rfl)) (pa_cons (pv 2) (pa_cons (pe_ix (kIxS (K := K)) (pv 0) (pe_op op_mod (pe_op op_add (pv 1) pe_int) (pe_callB (kLen (K := K)) (by rfl) T.n_len (by decide +kernel) (pa_cons (pv 0) pa_nil))) (fun _ _ => rfl)) pa_nil))))))
      gt_nil))
      gt_nil), ?_⟩
    intro H2 hok
    obtain ⟨a, xs, rfl, hS, hx⟩ := hv
    have S0 : Same H H2 := hok
    have hS := hS.same S0
    have hx := hx.same S0
    have hl := hx.length
    refine q_c ?_
    refine q_forE (a := a) (xs := xs) (fun i m Hr σ' H' => Same H2 Hr ∧ Same Hr H' ∧ m = ps.length - i ∧ i ≤ ps.length ∧ ∃ o1 o2, σ' = [some (.ref a), o1, o2]) ?_ ?_
    · walk_at "gx"
      refine ⟨rfl, hS, ⟨Same.refl _, Same.refl _, rfl, Nat.zero_le _, _, _, rfl⟩, ?_, ?_, ?_⟩
      · rintro i m Hr σ' H' ⟨s1, s2, _⟩
        exact sq_pair (s1.trans s2)
      · rintro i x T m Hr σ' H' hi ⟨s1, s2, rfl, hip, o1, o2, rfl⟩ hT
        have hlt : i < xs.length := (List.getElem?_eq_some_iff.mp hi).1
        generalize e3 : upd H' T _ = H3
        obtain ⟨s3, g3⟩ := fresh hT e3
        have S3 := (s1.trans s2).trans s3
        have hS3 := hS.same S3
        have hx3 := hx.same S3
        obtain ⟨u, eu, hu⟩ := hds_prv hx3 hlt
        obtain ⟨w, ew, hw⟩ := hds_nxt hx3 hlt
        have hv := hds_at hx3 hi
        walk_at "gx"
        refine q_c ?_
        refine q_y ?_
        walk_at "gx"
        refine r_ixS hS3 eu ?_
        walk_at "gx"
        refine r_lenS hS3 ?_
        walk_at "gx"
        refine r_I (by show (0 : Int) < (xs.length : Int); omega) ?_
        walk_at "gx"
        refine r_ixS hS3 ew ?_
        walk_at "gx"
        refine r_new fun p4 hp4 => ?_
        generalize e4 : upd H3 p4 _ = H4
        obtain ⟨s4, g4⟩ := fresh hp4 e4
        have ei : ps.length - (ps.length - i) = i := by omega
        refine ⟨ps.length - (i + 1), by omega, ⟨(s2.trans s3).trans s4, p4, u, x, w, rfl, SqT.of g4, ?_, ?_, ?_⟩, ?_⟩
        · rw [ei]; exact hu.same s4
        · rw [ei]; exact hv.same s4
        · rw [ei]; exact hw.same s4
        · intro H5 ok5
          have ok5 : Same H4 H5 := ok5
          exact ⟨(S3.trans s4).trans ok5, Same.refl _, rfl, by omega, _, _, rfl⟩
      · rintro m Hr σ' H' ⟨s1, s2, rfl, hip, o1, o2, rfl⟩
        exact ⟨by omega, s2⟩
    · rintro R R' h ⟨v, e, q⟩
      exact ⟨v, e, h _ _ q⟩
/-! #### check_turns -/
def sp_check_turns (K : PySem.W.Frag) : Sp := fun vs H Q E => ∃ (v : V) (ps : List Pt), vs = [v] ∧ PSq K H v ps ∧ AllBd 90000 ps ∧ ps.length ≤ 100000 ∧
  ((∀ i, i < ps.length → tri0 ps i ≠ 0) → ∀ H', Same H H' → Q .non H') ∧
  (∀ i, i < ps.length → tri0 ps i = 0 → (∀ j, j < i → tri0 ps j ≠ 0) → ∀ d H', Same H H' → H d = none → H' d = some (.xd [("position", .int (i : Int))]) → E (.ref (He.ga K "DegenerateCorner")) (some d) H')
theorem ok_check_turns (T : Tx K mg) : FnOk P w K mg base (L2.CX P w) 4 (He.ga K "check_turns") (fdOf K (He.ga K "check_turns")) ["corners"] (sp_check_turns K) := by
  refine T.d_check_turns.ok sc_check_turns (fun vs H Q E h => ?_) (fun cdv A outer s H vs Q E hr h => ?_)
  · obtain ⟨v, ps, rfl, _⟩ := h
    rfl
  · obtain ⟨v, ps, rfl, hv, hb, hl, q1, q2⟩ := h
    refine ⟨_, (pss_one (ps_forG (xeok_cx cxok_cx) (passes_of rfl) (pig_enum (pgm_call (ok_triples (K := K) T) (hr.mono (by decide)) rfl T.g_triples T.d_triples.kp (bn_triples T) (pa_cons (pv 0) pa_nil)) (hr.mono (by decide)) (hr.mono (by decide)) (by rfl) T.n_enumerate) (kpgTup (K := K) (n := 2) rfl (pgs_cons (pg_name (i := 1) sc_check_turns.nd rfl (Or.inl rfl)) (pgs_cons (kpgTup (K := K) (n := 3) rfl (pgs_cons (pg_name (i := 2) sc_check_turns.nd rfl (Or.inl rfl)) (pgs_cons (pg_name (i := 3) sc_check_turns.nd rfl (Or.inl rfl)) (pgs_cons (pg_name (i := 4) sc_check_turns.nd rfl (Or.inl rfl)) pgs_nil)))) pgs_nil)))
      (pss_one (ps_if (pt_cmpR op_eq (pe_call (ok_turn_of (K := K) T) (hr.mono (by decide)) rfl T.g_turn_of T.d_turn_of.kp (bn_turn_of T) .nil pass0 (pa_cons (pv 2) (pa_cons (pv 3) (pa_cons (pv 4) pa_nil)))) pe_int (nomark _)) (pss_one (ps_raise rfl (takes_of rfl rfl rfl rfl) (pmk_oex T.x_DegenerateCorner.o T.x_DegenerateCorner.i T.x_DegenerateCorner.t (ok_DegenerateCorner_init (K := K) T) (hr.mono (by decide)) (bn_DegenerateCorner_init T) .nil pass0 rfl T.g_DegenerateCorner (pa_cons (pv 1) pa_nil)))) pss_nil)))), ?_⟩
    walk_at "gx"
    refine r_forGE ?_ ?_
    · refine ⟨v, rfl, ?_⟩
      refine ⟨v, ps, rfl, hv, ?_⟩
      refine ⟨Same.refl _, fun i σ' H' => Same H H' ∧ (∀ j, j < i → tri0 ps j ≠ 0) ∧ ∃ o1 o2 o3 o4, σ' = [some v, o1, o2, o3, o4], ⟨Same.refl _, fun j hj => absurd hj (Nat.not_lt_zero _), _, _, _, _, rfl⟩, ?_, ?_⟩
      · rintro i σ' H' T y Hy hi ⟨S, hn, o1, o2, o3, o4, rfl⟩ ⟨s1, a, u, x, w, rfl, ha, hu, hx, hw⟩ hT
        have ei : ps.length - (ps.length - i) = i := by omega
        rw [ei] at hu hx hw
        generalize e3 : upd Hy T _ = H3
        obtain ⟨s3, g3⟩ := fresh hT e3
        have ha3 := sqT_same s3 ha
        walk_at "gx"
        refine ⟨u, x, w, _, _, _, rfl, hu.same s3, hx.same s3, hw.same s3, hb _ (prv_mem (by omega)), hb _ (atC_mem hi), hb _ (nxt_mem (by omega)), fun H4 s4 => ?_⟩
        have S4 := ((S.trans s1).trans s3).trans s4
        walk_at "gx"
        refine r_dec (fun e => ?_) (fun e => ?_)
        · refine ⟨.int (i : Int), rfl, (by show 1 ≤ 1000; decide), ?_⟩
          exact r_mkX1 fun d H5 s5 hd h5 => q2 i hi e hn d H5 (S4.trans s5) (S4.free hd) h5
        · walk_at "gx"
          refine ⟨⟨S4, fun j hj => ?_, _, _, _, _, rfl⟩, s3.trans s4⟩
          rcases Nat.lt_or_ge j i with z | z
          · exact hn j z
          · obtain rfl : j = i := by omega
            exact e
      · rintro σ' H' H2 ⟨S, hn, _⟩ hf
        exact q1 hn _ (S.trans hf)
    · rintro R R' h ⟨v', e, v2, ps2, e2, hv2, r⟩
      exact ⟨v', e, v2, ps2, e2, hv2, h _ _ _ r⟩
/-! #### is_between -/
def sp_is_between (K : PySem.W.Frag) : Sp := fun vs H Q _ => ∃ (u v w : V) (p a b : Pt), vs = [u, v, w] ∧ Hd K H u p ∧ Hd K H v a ∧ Hd K H w b ∧ ∀ H', Same H H' → Q (.bl (btw p a b)) H'
theorem ok_is_between (T : Tx K mg) : FnOk P w K mg base CX0 1 (He.ga K "is_between") (fdOf K (He.ga K "is_between")) ["point", "start", "end"] (sp_is_between K) := by
  refine T.d_is_between.ok sc_is_between (fun vs H Q E h => ?_) (fun cdv A outer s H vs Q E hr h => ?_)
  · obtain ⟨u, v, w, p, a, b, rfl, _⟩ := h
    rfl
  · obtain ⟨u, v, w, p, a, b, rfl, hu, hv, hw, q⟩ := h
    obtain ⟨a1, rfl, h1⟩ := hu.pt_of
    obtain ⟨a2, rfl, h2⟩ := hv.pt_of
    obtain ⟨a3, rfl, h3⟩ := hw.pt_of
    refine ⟨_, PSs.nox (pss_one (ps_ret (pe_callB (kAll (K := K) rfl) (by rfl) T.n_all (by decide +kernel) (pa_cons (pe_lc (own := [("value", 3), ("low", 4), ("high", 5)]) (g := (gTup K 3 (gCons (gName 3) (gCons (gName 4) (gCons (gName 5) gNil))))) (tt := tYes) rfl sc_is_between.nd (kpiZip3 (K := K) (by rfl) T.n_zip (pa_cons (pv 0) (pa_cons (pv 1) (pa_cons (pv 2) pa_nil)))) (blkOk_by (own := [("value", 3), ("low", 4), ("high", 5)]) (N := ["point", "start", "end", "value", "low", "high"]) (sc := defScope s_is_between) (by decide +kernel)) (fun _ _ _ _ _ => (kpgTup (K := K) (n := 3) rfl (pgs_cons (pg_name (i := 3) sc_is_between.nd rfl (Or.inl rfl)) (pgs_cons (pg_name (i := 4) sc_is_between.nd rfl (Or.inl rfl)) (pgs_cons (pg_name (i := 5) sc_is_between.nd rfl (Or.inl rfl)) pgs_nil))))) (fun _ _ _ _ _ => pts_nil) (fun _ _ _ _ _ => (pe_chain op_le op_le (pe_callB (cMin2 rfl) (by rfl) T.n_min (by decide +kernel) (pa_cons (pv 4) (pa_cons (pv 5) pa_nil))) (pv 3) (pe_callB (cMax2 rfl) (by rfl) T.n_max (by decide +kernel) (pa_cons (pv 4) (pa_cons (pv 5) pa_nil)))))) pa_nil)))), ?_⟩
    walk_at "gx"
    refine compZ3 (xs := [.int p.1, .int p.2]) (ys := [.int a.1, .int a.2]) (zs := [.int b.1, .int b.2]) (by show 2 ≤ 100000; decide) rfl rfl h1 h2 h3 (fun D i acc H' => Same H H' ∧ acc = ([btw1 p.1 a.1 b.1, btw1 p.2 a.2 b.2].take i).map V.bl) (fun D hD => ⟨same_new (Same.refl _) hD, rfl⟩) (fun D i acc H' _ p => p.1) ?_ ?_
    · rintro D i x y z T acc H1 hD hx hy hz hi ⟨S1, rfl⟩ hacc hl hT
      have hi : i < 2 := hi
      obtain ⟨k, l, h, rfl, rfl, rfl, hk⟩ : ∃ k l h : Int, x = .int k ∧ y = .int l ∧ z = .int h ∧ [btw1 p.1 a.1 b.1, btw1 p.2 a.2 b.2][i]? = some (btw1 k l h) := by
        rcases (show i = 0 ∨ i = 1 by omega) with rfl | rfl
        · exact ⟨p.1, a.1, b.1, by simpa using hx.symm, by simpa using hy.symm, by simpa using hz.symm, rfl⟩
        · exact ⟨p.2, a.2, b.2, by simpa using hx.symm, by simpa using hy.symm, by simpa using hz.symm, rfl⟩
      have s2 : Same H1 (upd H1 T (.tup [.int k, .int l, .int h])) := same_new (Same.refl _) hT
      refine r_gtup (SqT.of upd_same) ?_
      generalize upd H1 T _ = H2 at s2 ⊢
      have fin : CNext D (fun i acc H' => Same H H' ∧ acc = ([btw1 p.1 a.1 b.1, btw1 p.2 a.2 b.2].take i).map V.bl) i (.bl (btw1 k l h)) H2 := by
        refine cnext (s2 _ _ hacc) hl (by omega) ⟨same_kp (S1.trans s2) hD ((Kp.of_same (Same.refl _)).put), ?_⟩
        rw [List.take_succ, hk, List.map_append]; rfl
      walk_at "gx"
      refine ⟨rfl, ?_⟩
      refine r_chain ?_
      walk_at "gx"
      have eb : btw1 k l h = (decide (min l h ≤ k) && decide (k ≤ max l h)) := rfl
      rw [eb] at fin
      refine r_dec (fun e => ?_) (fun e => ?_)
      · rw [decide_eq_true e, Bool.true_and] at fin
        walk_at "gx"
        exact fin
      · rw [decide_eq_false e, Bool.false_and] at fin
        exact fin
    · rintro D acc H1 hD ⟨S1, rfl⟩ hacc hl
      walk_at "gx"
      refine ⟨D, [btw1 p.1 a.1 b.1, btw1 p.2 a.2 b.2], rfl, SqL.of hacc, ?_⟩
      have e : [btw1 p.1 a.1 b.1, btw1 p.2 a.2 b.2].all id = btw p a b := by
        unfold btw; simp
      rw [e]
      exact q _ S1
/-! #### is_on -/
def sp_is_on (K : PySem.W.Frag) : Sp := fun vs H Q _ => ∃ (u v w : V) (p a b : Pt), vs = [u, v, w] ∧ Hd K H u p ∧ Hd K H v a ∧ Hd K H w b ∧ PBd 90000 p ∧ PBd 90000 a ∧ PBd 90000 b ∧ ∀ H', Same H H' → Q (.bl (onS p a b)) H'
theorem ok_is_on (T : Tx K mg) : FnOk P w K mg base CX0 3 (He.ga K "is_on") (fdOf K (He.ga K "is_on")) ["point", "start", "end"] (sp_is_on K) := by
  refine T.d_is_on.ok sc_is_on (fun vs H Q E h => ?_) (fun cdv A outer s H vs Q E hr h => ?_)
  · obtain ⟨u, v, w, p, a, b, rfl, _⟩ := h
    rfl
  · obtain ⟨u, v, w, p, a, b, rfl, hu, hv, hw, bp, ba, bb, q⟩ := h
    refine ⟨_, PSs.nox (pss_one (ps_ret (pe_and (pe_cmpR op_eq (pe_call (ok_turn_of (K := K) T) (hr.mono (by decide)) rfl T.g_turn_of T.d_turn_of.kp (bn_turn_of T) .nil pass0 (pa_cons (pv 1) (pa_cons (pv 2) (pa_cons (pv 0) pa_nil)))) pe_int (nomark _)) (pe_one (pe_call (ok_is_between (K := K) T) (hr.mono (by decide)) rfl T.g_is_between T.d_is_between.kp (bn_is_between T) .nil pass0 (pa_cons (pv 0) (pa_cons (pv 1) (pa_cons (pv 2) pa_nil)))))))), ?_⟩
    walk_at "gx"
    refine ⟨v, w, u, _, _, _, rfl, hv, hw, hu, ba, bb, bp, fun H1 s1 => ?_⟩
    have q := fun H' s' => q H' s'
    unfold onS at q
    walk_at "gx"
    refine r_dec (fun e => ?_) (fun e => ?_)
    · rw [decide_eq_true e, Bool.true_and] at q
      walk_at "gx"
      exact ⟨u, v, w, _, _, _, rfl, hu.same s1, hv.same s1, hw.same s1, fun H2 s2 => q H2 (s1.trans s2)⟩
    · rw [decide_eq_false e, Bool.false_and] at q
      walk_at "gx"
      exact q H1 s1
/-! #### have_common_point -/
def sp_have_common_point (K : PySem.W.Frag) : Sp := fun vs H Q _ => ∃ (x y : Addr) (u v w z : V) (a b c d : Pt), vs = [.ref x, .ref y] ∧ SqT K H x [u, v] ∧ SqT K H y [w, z] ∧ Hd K H u a ∧ Hd K H v b ∧ Hd K H w c ∧ Hd K H z d ∧ PBd 40000 a ∧ PBd 40000 b ∧ PBd 40000 c ∧ PBd 40000 d ∧ ∀ H', Same H H' → Q (.bl (meetS a b c d)) H'
theorem ok_have_common_point (T : Tx K mg) : FnOk P w K mg base CX0 4 (He.ga K "have_common_point") (fdOf K (He.ga K "have_common_point")) ["first", "second"] (sp_have_common_point K) := by
  refine T.d_have_common_point.ok sc_have_common_point (fun vs H Q E h => ?_) (fun cdv A outer s H vs Q E hr h => ?_)
  · obtain ⟨x, y, u, v, w, z, a, b, c, d, rfl, _⟩ := h
    rfl
  · obtain ⟨x, y, u, v, w, z, a, b, c, d, rfl, hx, hy, hu, hv, hw, hz, ba, bb, bc, bd, q⟩ := h
    have Ba := ba.mono (show 40000 ≤ 90000 by decide)
    have Bb := bb.mono (show 40000 ≤ 90000 by decide)
    have Bc := bc.mono (show 40000 ≤ 90000 by decide)
    have Bd := bd.mono (show 40000 ≤ 90000 by decide)
    refine ⟨_, PSs.nox (pss_cons (ps_asg (pv 0) (kpgTup (K := K) (n := 2) rfl (pgs_cons (pg_name (i := 2) sc_have_common_point.nd rfl (Or.inl rfl)) (pgs_cons (pg_name (i := 3) sc_have_common_point.nd rfl (Or.inl rfl)) pgs_nil))))
      (pss_cons (ps_asg (pv 1) (kpgTup (K := K) (n := 2) rfl (pgs_cons (pg_name (i := 4) sc_have_common_point.nd rfl (Or.inl rfl)) (pgs_cons (pg_name (i := 5) sc_have_common_point.nd rfl (Or.inl rfl)) pgs_nil))))
      (pss_cons (ps_set (i := 6) sc_have_common_point.nd rfl (Or.inl rfl) (pe_tup (pa_cons (pe_call (ok_turn_of (K := K) T) (hr.mono (by decide)) rfl T.g_turn_of T.d_turn_of.kp (bn_turn_of T) .nil pass0 (pa_cons (pv 2) (pa_cons (pv 3) (pa_cons (pv 4) pa_nil)))) (pa_cons (pe_call (ok_turn_of (K := K) T) (hr.mono (by decide)) rfl T.g_turn_of T.d_turn_of.kp (bn_turn_of T) .nil pass0 (pa_cons (pv 2) (pa_cons (pv 3) (pa_cons (pv 5) pa_nil)))) (pa_cons (pe_call (ok_turn_of (K := K) T) (hr.mono (by decide)) rfl T.g_turn_of T.d_turn_of.kp (bn_turn_of T) .nil pass0 (pa_cons (pv 4) (pa_cons (pv 5) (pa_cons (pv 2) pa_nil)))) (pa_cons (pe_call (ok_turn_of (K := K) T) (hr.mono (by decide)) rfl T.g_turn_of T.d_turn_of.kp (bn_turn_of T) .nil pass0 (pa_cons (pv 4) (pa_cons (pv 5) (pa_cons (pv 3) pa_nil)))) pa_nil))))))
      (pss_cons (ps_if (PW.pt (pw_and (pt_cmpR op_lt (pe_op op_mulA (pe_ix (kIxT (K := K)) (pv 6) pe_int (fun _ _ => rfl)) (pe_ix (kIxT (K := K)) (pv 6) pe_int (fun _ _ => rfl))) pe_int (nomark _)) (pw_and1 (pt_cmpR op_lt (pe_op op_mulA (pe_ix (kIxT (K := K)) (pv 6) pe_int (fun _ _ => rfl)) (pe_ix (kIxT (K := K)) (pv 6) pe_int (fun _ _ => rfl))) pe_int (nomark _))))) (pss_one (ps_ret pe_bl)) pss_nil)
      (pss_one (ps_ret (pe_or (pe_call (ok_is_on (K := K) T) (hr.mono (by decide)) rfl T.g_is_on T.d_is_on.kp (bn_is_on T) .nil pass0 (pa_cons (pv 4) (pa_cons (pv 2) (pa_cons (pv 3) pa_nil)))) (pe_or (pe_call (ok_is_on (K := K) T) (hr.mono (by decide)) rfl T.g_is_on T.d_is_on.kp (bn_is_on T) .nil pass0 (pa_cons (pv 5) (pa_cons (pv 2) (pa_cons (pv 3) pa_nil)))) (pe_or (pe_call (ok_is_on (K := K) T) (hr.mono (by decide)) rfl T.g_is_on T.d_is_on.kp (bn_is_on T) .nil pass0 (pa_cons (pv 2) (pa_cons (pv 4) (pa_cons (pv 5) pa_nil)))) (pe_one (pe_call (ok_is_on (K := K) T) (hr.mono (by decide)) rfl T.g_is_on T.d_is_on.kp (bn_is_on T) .nil pass0 (pa_cons (pv 3) (pa_cons (pv 4) (pa_cons (pv 5) pa_nil)))))))))))))), ?_⟩
    walk_at "gx"
    refine ⟨u, v, w, _, _, _, rfl, hu, hv, hw, Ba, Bb, Bc, fun H1 s1 => ?_⟩
    walk_at "gx"
    refine ⟨u, v, z, _, _, _, rfl, hu.same s1, hv.same s1, hz.same s1, Ba, Bb, Bd, fun H2 s2 => ?_⟩
    have S2 := s1.trans s2
    walk_at "gx"
    refine ⟨w, z, u, _, _, _, rfl, hw.same S2, hz.same S2, hu.same S2, Bc, Bd, Ba, fun H3 s3 => ?_⟩
    have S3 := S2.trans s3
    walk_at "gx"
    refine ⟨w, z, v, _, _, _, rfl, hw.same S3, hz.same S3, hv.same S3, Bc, Bd, Bb, fun H4 s4 => ?_⟩
    have S4 := S3.trans s4
    walk_at "gx"
    refine r_new fun p5 hp5 => ?_
    generalize e5 : upd H4 p5 _ = H5
    obtain ⟨s5, g5⟩ := fresh hp5 e5
    have S5 := S4.trans s5
    walk_at "gx"
    have tail : ∀ H6, Same H H6 → (∀ H', Same H H' → Q (.bl (onS c a b || (onS d a b || (onS a c d || onS b c d)))) H') → tRet (tOrV (tCall (sp_is_on K) [] E0 (tCons (tVar 4) (tCons (tVar 2) (tCons (tVar 3) tNil)))) (tOrV (tCall (sp_is_on K) [] E0 (tCons (tVar 5) (tCons (tVar 2) (tCons (tVar 3) tNil)))) (tOrV (tCall (sp_is_on K) [] E0 (tCons (tVar 2) (tCons (tVar 4) (tCons (tVar 5) tNil)))) (tCall (sp_is_on K) [] E0 (tCons (tVar 3) (tCons (tVar 4) (tCons (tVar 5) tNil))))))) { nx := fun x H' => Q V.non H', rt := Q } [some (.ref x), some (.ref y), some u, some v, some w, some z, some (.ref p5)] H6 := by
      intro H6 S6 q
      walk_at "gx"
      refine ⟨w, u, v, _, _, _, rfl, hw.same S6, hu.same S6, hv.same S6, Bc, Ba, Bb, fun H7 s7 => ⟨_, rfl, ?_⟩⟩
      have S7 := S6.trans s7
      cases e1 : onS c a b with
      | true =>
        rw [e1, Bool.true_or] at q
        refine iteT ?_
        exact q _ S7
      | false =>
        rw [e1, Bool.false_or] at q
        refine if_ff ?_
        walk_at "gx"
        refine ⟨z, u, v, _, _, _, rfl, hz.same S7, hu.same S7, hv.same S7, Bd, Ba, Bb, fun H8 s8 => ⟨_, rfl, ?_⟩⟩
        have S8 := S7.trans s8
        cases e2 : onS d a b with
        | true =>
          rw [e2, Bool.true_or] at q
          refine iteT ?_
          exact q _ S8
        | false =>
          rw [e2, Bool.false_or] at q
          refine if_ff ?_
          walk_at "gx"
          refine ⟨u, w, z, _, _, _, rfl, hu.same S8, hw.same S8, hz.same S8, Ba, Bc, Bd, fun H9 s9 => ⟨_, rfl, ?_⟩⟩
          have S9 := S8.trans s9
          cases e3 : onS a c d with
          | true =>
            rw [e3, Bool.true_or] at q
            refine iteT ?_
            exact q _ S9
          | false =>
            rw [e3, Bool.false_or] at q
            refine if_ff ?_
            walk_at "gx"
            exact ⟨v, w, z, _, _, _, rfl, hv.same S9, hw.same S9, hz.same S9, Bb, Bc, Bd, fun H10 s10 => q _ (S9.trans s10)⟩
    refine r_I ((trn_bd ba bb bc).ok (trn_bd ba bb bd)) ?_
    walk_at "gx"
    refine r_dec (fun e => ?_) (fun e => ?_)
    · walk_at "gx"
      refine r_I ((trn_bd bc bd ba).ok (trn_bd bc bd bb)) ?_
      walk_at "gx"
      refine r_dec (fun e2 => ?_) (fun e2 => ?_)
      · walk_at "gx"
        have em : meetS a b c d = true := by
          unfold meetS; rw [decide_eq_true e, decide_eq_true e2]; rfl
        rw [em] at q
        exact q _ S5
      · refine tail _ S5 ?_
        have em : meetS a b c d = (onS c a b || (onS d a b || (onS a c d || onS b c d))) := by
          unfold meetS; rw [decide_eq_false e2, Bool.and_false, Bool.false_or]
        rwa [em] at q
    · refine tail _ S5 ?_
      have em : meetS a b c d = (onS c a b || (onS d a b || (onS a c d || onS b c d))) := by
        unfold meetS; rw [decide_eq_false e, Bool.false_and, Bool.false_or]
      rwa [em] at q
/-! #### edges_of -/
def sp_edges_of (K : PySem.W.Frag) : Sp := fun vs H Q _ => ∃ (v : V) (ps : List Pt), vs = [v] ∧ PSq K H v ps ∧ ps.length ≤ 100000 ∧ ∀ l ws H', Same H H' → H' l = some (.lst ws) → Hds K H' ws (edgs ps) → Q (.ref l) H'
theorem ok_edges_of (T : Tx K mg) : FnOk P w K mg base CX0 1 (He.ga K "edges_of") (fdOf K (He.ga K "edges_of")) ["corners"] (sp_edges_of K) := by
  refine T.d_edges_of.ok sc_edges_of (fun vs H Q E h => ?_) (fun cdv A outer s H vs Q E hr h => ?_)
  · obtain ⟨v, ps, rfl, _⟩ := h
    rfl
  · obtain ⟨v, ps, rfl, hv, hl, q⟩ := h
    obtain ⟨a, xs, rfl, hS, hx⟩ := hv
    have hlx := hx.length
    refine ⟨_, PSs.nox (pss_one (ps_ret (pe_lc (own := [("index", 1), ("corner", 2)]) (g := (gTup K 2 (gCons (gName 1) (gCons (gName 2) gNil)))) (tt := tYes) rfl sc_edges_of.nd (kpiEnumS (K := K) (by rfl) T.n_enumerate (pa_cons (pv 0) pa_nil)) (blkOk_by (own := [("index", 1), ("corner", 2)]) (N := ["corners", "index", "corner"]) (sc := defScope s_edges_of) (by decide +kernel)) (fun _ _ _ _ _ => (kpgTup (K := K) (n := 2) rfl (pgs_cons (pg_name (i := 1) sc_edges_of.nd rfl (Or.inl rfl)) (pgs_cons (pg_name (i := 2) sc_edges_of.nd rfl (Or.inl rfl)) pgs_nil)))) (fun _ _ _ _ _ => pts_nil) (fun _ _ _ _ _ => (pe_tup (pa_cons (pv 2) (pa_cons (pe_ix (kIxS (K := K)) (pv 0) (pe_op op_mod (pe_op op_add (pv 1) pe_int) (pe_callB (kLen (K := K)) (by rfl) T.n_len (by decide +kernel) (pa_cons (pv 0) pa_nil))) (fun _ _ => rfl)) pa_nil))))))), ?_⟩
    walk_at "gx"
    refine compE (by omega) hS (fun D i acc H' => Same H H' ∧ Hds K H' acc ((edgs ps).take i)) (fun D hD => ⟨same_new (Same.refl _) hD, .nil⟩) (fun D i acc H' _ p => sq_pair p.1) ?_ ?_
    · rintro D i x T acc H1 hD hxi hi ⟨S1, hA⟩ hacc hl1 hT
      refine r_gtup (SqT.of upd_same) ?_
      generalize e2 : upd H1 T _ = H2
      obtain ⟨s2, g2⟩ := fresh hT e2
      have S2 := S1.trans s2
      have hS2 := hS.same S2
      have hx2 := hx.same S2
      obtain ⟨w, ew, hw⟩ := hds_nxt hx2 hi
      have hv := hds_at hx2 hxi
      walk_at "gx"
      refine ⟨rfl, ?_⟩
      walk_at "gx"
      refine r_lenS hS2 ?_
      walk_at "gx"
      refine r_I (by show (0 : Int) < (xs.length : Int); omega) ?_
      walk_at "gx"
      refine r_ixS hS2 ew ?_
      walk_at "gx"
      refine r_new fun p3 hp3 => ?_
      generalize e3 : upd H2 p3 _ = H3
      obtain ⟨s3, g3⟩ := fresh hp3 e3
      have hacc3 := s3 _ _ (s2 _ _ hacc)
      refine cnext hacc3 hl1 (by omega) ⟨same_kp (S2.trans s3) hD ((Kp.of_same (Same.refl _)).put), ?_⟩
      have ee : (edgs ps)[i]? = some (atC ps i, nxt ps i) := by
        unfold edgs
        rw [List.getElem?_map, List.getElem?_range (by omega)]; rfl
      rw [List.take_succ, ee]
      have k3 : Kp D H3 (upd H3 D (.lst (acc ++ [.ref p3]))) := (Kp.of_same (Same.refl _)).put
      have hh : Hds K H3 (acc ++ [.ref p3]) ((edgs ps).take i ++ [(atC ps i, nxt ps i)]) := (hA.same (s2.trans s3)).append (.cons (hd_pair (SqT.of g3) (hv.same s3) (hw.same s3)) .nil)
      exact imms k3 ⟨_, hacc3⟩ hh
    · rintro D acc H1 hD ⟨S1, hA⟩ hacc hl1
      have et : (edgs ps).take xs.length = edgs ps := by
        rw [List.take_of_length_le]; unfold edgs; rw [List.length_map, List.length_range]; omega
      rw [et] at hA
      exact q _ _ _ S1 hacc hA
/-! #### check_crossings -/
def sp_check_crossings (K : PySem.W.Frag) : Sp := fun vs H Q E => ∃ (v : V) (ps : List Pt), vs = [v] ∧ PSq K H v ps ∧ AllBd 40000 ps ∧ ps.length ≤ 100000 ∧
  ((∀ i j, i < j → i + 2 ≤ j → j < ps.length → crossB ps i j = false) → ∀ H', Same H H' → Q .non H') ∧
  (∀ i j : Nat, i + 2 ≤ j → j < ps.length → crossB ps i j = true → (∀ i' j', i' + 2 ≤ j' → j' < ps.length → (i' < i ∨ (i' = i ∧ j' < j)) → crossB ps i' j' = false) → ∀ d H', Same H H' → H d = none → H' d = some (.xd [("second", .int (j : Int)), ("first", .int (i : Int))]) → E (.ref (He.ga K "CrossingEdges")) (some d) H')
theorem ok_check_crossings (T : Tx K mg) : FnOk P w K mg base (L2.CX P w) 5 (He.ga K "check_crossings") (fdOf K (He.ga K "check_crossings")) ["corners"] (sp_check_crossings K) := by
  refine T.d_check_crossings.ok sc_check_crossings (fun vs H Q E h => ?_) (fun cdv A outer s H vs Q E hr h => ?_)
  · obtain ⟨v, ps, rfl, _⟩ := h
    rfl
  · obtain ⟨v, ps, rfl, hv, hb, hl, q1, q2⟩ := h
    refine ⟨_, (pss_cons (ps_set (i := 1) sc_check_crossings.nd rfl (Or.inl rfl) (pe_call (ok_edges_of (K := K) T) (hr.mono (by decide)) rfl T.g_edges_of T.d_edges_of.kp (bn_edges_of T) .nil pass0 (pa_cons (pv 0) pa_nil)))
      (pss_cons (ps_set (i := 2) sc_check_crossings.nd rfl (Or.inl rfl) (pe_callB (kLen (K := K)) (by rfl) T.n_len (by decide +kernel) (pa_cons (pv 1) pa_nil)))
      (pss_one (ps_for (passes_of rfl) rfl (pi_range1 rfl T.n_range (pa_cons (pv 2) pa_nil)) (pg_name (i := 3) sc_check_crossings.nd rfl (Or.inl rfl))
      (pss_one (ps_for (passes_of rfl) rfl (pi_range2 rfl T.n_range (pa_cons (pe_op op_add (pv 3) pe_int) (pa_cons (pv 2) pa_nil))) (pg_name (i := 4) sc_check_crossings.nd rfl (Or.inl rfl))
      (pss_one (ps_if (PW.pt (pw_and (pt_cmpR op_ne (pe_op op_mod (pe_op op_add (pv 4) pe_int) (pv 2)) (pv 3) (nomark _)) (pw_and1 (pt_val (pe_call (ok_have_common_point (K := K) T) (hr.mono (by decide)) rfl T.g_have_common_point T.d_have_common_point.kp (bn_have_common_point T) .nil pass0 (pa_cons (pe_ix (kIxL (K := K)) (pv 1) (pv 3) (fun _ _ => rfl)) (pa_cons (pe_ix (kIxL (K := K)) (pv 1) (pv 4) (fun _ _ => rfl)) pa_nil))))))) (pss_one (ps_raise rfl (takes_of rfl rfl rfl rfl) (pmk_oex T.x_CrossingEdges.o T.x_CrossingEdges.i T.x_CrossingEdges.t (ok_CrossingEdges_init (K := K) T) (hr.mono (by decide)) (bn_CrossingEdges_init T) .nil pass0 rfl T.g_CrossingEdges (pa_cons (pv 3) (pa_cons (pv 4) pa_nil))))) pss_nil)))))))), ?_⟩
    walk_at "gx"
    refine ⟨v, ps, rfl, hv, hl, fun l ws H1 s1 hl1 hw => ?_⟩
    have hlw := hw.length
    have hle : (edgs ps).length = ps.length := by unfold edgs; rw [List.length_map, List.length_range]
    walk_at "gx"
    refine r_lenL (SqL.of hl1) ?_
    walk_at "gx"
    rw [show ws.length = ps.length by omega]
    refine loopR1 (by omega) (fun i σ' H' => Same H1 H' ∧ (∀ i' j', i' + 2 ≤ j' → j' < ps.length → i' < i → crossB ps i' j' = false) ∧ ∃ o3 o4, σ' = [some v, some (.ref l), some (.int (ps.length : Int)), o3, o4]) ⟨Same.refl _, fun i' j' _ _ h => absurd h (Nat.not_lt_zero _), _, _, rfl⟩ ?_ ?_
    · rintro i σ' H2 hi ⟨S2, hn, o3, o4, rfl⟩
      walk_at "gx"
      refine loopR2 ⟨by omega, by omega, by omega, by omega⟩ (fun k σ' H' => Same H1 H' ∧ (∀ j', i + 2 ≤ j' → j' < ps.length → j' < i + 2 + k → crossB ps i j' = false) ∧ ∃ o4, σ' = [some v, some (.ref l), some (.int (ps.length : Int)), some (.int (i : Int)), o4]) ⟨S2, fun j' h1 _ h2 => by omega, _, rfl⟩ ?_ ?_
      · rintro k σ' H3 hk ⟨S3, hm, o4, rfl⟩
        obtain ⟨j, hj⟩ : ∃ j : Nat, j = i + 2 + k := ⟨_, rfl⟩
        have ej : (i : Int) + 2 + (k : Int) = (j : Int) := by omega
        rw [ej]
        have hjn : j < ps.length := by omega
        have hin : i < ps.length := by omega
        have hl3 := S3 _ _ hl1
        have hw3 := hw.same S3
        have next : crossB ps i j = false → ∀ H4, Same H3 H4 → Same H1 H4 ∧ (∀ j', i + 2 ≤ j' → j' < ps.length → j' < i + 2 + (k + 1) → crossB ps i j' = false) ∧ ∃ o4, [some v, some (.ref l), some (.int (ps.length : Int)), some (.int (i : Int)), some (.int (j : Int))] = [some v, some (.ref l), some (.int (ps.length : Int)), some (.int (i : Int)), o4] := by
          intro hc H4 s4
          refine ⟨S3.trans s4, fun j' h1 h2 h3 => ?_, _, rfl⟩
          rcases Nat.lt_or_ge j' j with z | z
          · exact hm j' h1 h2 (by omega)
          · obtain rfl : j' = j := by omega
            exact hc
        walk_at "gx"
        refine r_I (by show (0 : Int) < (ps.length : Int); omega) ?_
        walk_at "gx"
        rw [emod_nat]
        refine r_ndec (fun e => ?_) (fun e => ?_)
        · have e : (j + 1) % ps.length ≠ i := by omega
          obtain ⟨w1, f1, g1⟩ := hw3.at (i := i) (x := (atC ps i, nxt ps i)) (by unfold edgs; rw [List.getElem?_map, List.getElem?_range hin]; rfl)
          obtain ⟨w2, f2, g2⟩ := hw3.at (i := j) (x := (atC ps j, nxt ps j)) (by unfold edgs; rw [List.getElem?_map, List.getElem?_range hjn]; rfl)
          walk_at "gx"
          refine r_ixL (SqL.of hl3) (atI_nat f1) ?_
          walk_at "gx"
          refine r_ixL (SqL.of hl3) (atI_nat f2) ?_
          walk_at "gx"
          obtain ⟨b1, x1, y1, rfl, t1, p1, r1⟩ := g1.pair_of
          obtain ⟨b2, x2, y2, rfl, t2, p2, r2⟩ := g2.pair_of
          refine ⟨b1, b2, x1, y1, x2, y2, _, _, _, _, rfl, t1, t2, p1, r1, p2, r2, hb _ (atC_mem hin), hb _ (nxt_mem (by omega)), hb _ (atC_mem hjn), hb _ (nxt_mem (by omega)), fun H4 s4 => ⟨_, rfl, ?_⟩⟩
          have ec : crossB ps i j = meetS (atC ps i) (nxt ps i) (atC ps j) (nxt ps j) := by
            unfold crossB; rw [decide_eq_true e, Bool.true_and]
          cases em : meetS (atC ps i) (nxt ps i) (atC ps j) (nxt ps j) with
          | true =>
            refine iteT ?_
            refine ⟨.int (i : Int), rfl, .int (j : Int), rfl, (by show 2 ≤ 1000; decide), ?_⟩
            refine r_mkX2 fun d H5 s5 hd h5 => q2 i j (by omega) hjn (by rw [ec]; exact em) (fun i' j' h1 h2 h3 => ?_) d H5 ((s1.trans (S3.trans s4)).trans s5) ((s1.trans (S3.trans s4)).free hd) h5
            rcases h3 with h3 | ⟨rfl, h3⟩
            · exact hn i' j' h1 h2 h3
            · exact hm j' h1 h2 (by omega)
          | false =>
            refine if_ff ?_
            exact next (by rw [ec]; exact em) H4 s4
        · walk_at "gx"
          refine next ?_ H3 (Same.refl _)
          unfold crossB
          rw [decide_eq_false (by omega), Bool.false_and]
      · rintro σ' H3 ⟨S3, hm, o4, rfl⟩
        refine ⟨S3, fun i' j' h1 h2 h3 => ?_, _, _, rfl⟩
        rcases Nat.lt_or_ge i' i with z | z
        · exact hn i' j' h1 h2 z
        · obtain rfl : i' = i := by omega
          exact hm j' h1 h2 (by omega)
    · rintro σ' H2 ⟨S2, hn, o3, o4, rfl⟩
      exact q1 (fun i j _ h1 h2 => hn i j h1 h2 (by omega)) _ (s1.trans S2)
/-! #### area_of -/
def sp_area_of (K : PySem.W.Frag) : Sp := fun vs H Q _ => ∃ (v : V) (ps : List Pt), vs = [v] ∧ PSq K H v ps ∧ AllBd 40000 ps ∧ ps.length ≤ 100000 ∧ ∀ H', Same H H' → Q (.int (areaL (edgs ps))) H'
theorem ok_area_of (T : Tx K mg) : FnOk P w K mg base CX0 2 (He.ga K "area_of") (fdOf K (He.ga K "area_of")) ["corners"] (sp_area_of K) := by
  refine T.d_area_of.ok sc_area_of (fun vs H Q E h => ?_) (fun cdv A outer s H vs Q E hr h => ?_)
  · obtain ⟨v, ps, rfl, _⟩ := h
    rfl
  · obtain ⟨v, ps, rfl, hv, hb, hl, q⟩ := h
    refine ⟨_, PSs.nox (pss_one (ps_ret (pe_callB (kSum (K := K) rfl) (by rfl) T.n_sum (by decide +kernel) (pa_cons (pe_lc (own := [("start", 1), ("end", 2)]) (g := (gTup K 2 (gCons (gName 1) (gCons (gName 2) gNil)))) (tt := tYes) rfl sc_area_of.nd (kpiL (K := K) (pe_call (ok_edges_of (K := K) T) (hr.mono (by decide)) rfl T.g_edges_of T.d_edges_of.kp (bn_edges_of T) .nil pass0 (pa_cons (pv 0) pa_nil))) (blkOk_by (own := [("start", 1), ("end", 2)]) (N := ["corners", "start", "end"]) (sc := defScope s_area_of) (by decide +kernel)) (fun _ _ _ _ _ => (kpgTup (K := K) (n := 2) rfl (pgs_cons (pg_name (i := 1) sc_area_of.nd rfl (Or.inl rfl)) (pgs_cons (pg_name (i := 2) sc_area_of.nd rfl (Or.inl rfl)) pgs_nil)))) (fun _ _ _ _ _ => pts_nil) (fun _ _ _ _ _ => (pe_call (ok_cross_of (K := K) T) (hr.mono (by decide)) rfl T.g_cross_of T.d_cross_of.kp (bn_cross_of T) .nil pass0 (pa_cons (pv 1) (pa_cons (pv 2) pa_nil))))) pa_nil)))), ?_⟩
    walk_at "gx"
    refine ⟨v, ps, rfl, hv, hl, fun l ws H1 s1 hl1 hw => ?_⟩
    walk_at "gx"
    have hle : (edgs ps).length = ps.length := by unfold edgs; rw [List.length_map, List.length_range]
    have hlw := hw.length
    refine compL (xs := ws) (by omega) (fun D i acc H' => Same H1 H' ∧ acc = (((edgs ps).map fun e => crs e.1 e.2).take i).map V.int) (SqL.of hl1) (fun D hD => ⟨same_new (Same.refl _) hD, rfl⟩) (fun D i acc H' _ p => p.1.seq (SqL.of hl1)) ?_ ?_
    · rintro D i z acc H2 hD hz hi ⟨S2, rfl⟩ hacc hl2
      obtain ⟨e, he, hv⟩ := (hw.same S2).at' hz
      obtain ⟨b, x, y, rfl, tb, hx, hy⟩ := hv.pair_of
      have hmem : PBd 40000 e.1 ∧ PBd 40000 e.2 := by
        unfold edgs at he
        rw [List.getElem?_map, List.getElem?_range (by omega)] at he
        obtain rfl := Option.some.inj he
        exact ⟨hb _ (atC_mem (by omega)), hb _ (nxt_mem (by omega))⟩
      walk_at "gx"
      refine ⟨rfl, ?_⟩
      walk_at "gx"
      refine ⟨x, y, _, _, rfl, hx, hy, hmem.1.mono (by decide), hmem.2.mono (by decide), ?_⟩
      refine cnext hacc hl2 (by omega) ⟨same_kp S2 hD ((Kp.of_same (Same.refl _)).put), ?_⟩
      rw [List.take_succ, List.getElem?_map, he, List.map_append]; rfl
    · rintro D acc H2 hD ⟨S2, rfl⟩ hacc hl2
      have et : ((edgs ps).map fun e => crs e.1 e.2).take ws.length = (edgs ps).map fun e => crs e.1 e.2 := by
        rw [List.take_of_length_le]; rw [List.length_map]; omega
      rw [et] at hacc
      walk_at "gx"
      refine ⟨D, _, rfl, SqL.of hacc, ?_⟩
      exact q _ (s1.trans S2)
/-! #### arranged -/
def sp_arranged (K : PySem.W.Frag) : Sp := fun vs H Q _ => ∃ (v : V) (ps : List Pt), vs = [v] ∧ PSq K H v ps ∧ AllBd 40000 ps ∧ 0 < ps.length ∧ ps.length ≤ 1000 ∧
  ∀ (t : Addr) (xs : List V) (H' : Hp), Same H H' → SqT K H' t xs → Hds K H' xs (arr ps) → Q (.ref t) H'
theorem ok_arranged (T : Tx K mg) : FnOk P w K mg base CX0 3 (He.ga K "arranged") (fdOf K (He.ga K "arranged")) ["corners"] (sp_arranged K) := by
  refine T.d_arranged.ok sc_arranged (fun vs H Q E h => ?_) (fun cdv A outer s H vs Q E hr h => ?_)
  · obtain ⟨v, ps, rfl, _⟩ := h
    rfl
  · obtain ⟨v, ps, rfl, hv, hb, h0, hl, q⟩ := h
    refine ⟨_, PSs.nox (pss_cons (ps_set (i := 1) sc_arranged.nd rfl (Or.inl rfl) (pe_ifExp (pt_cmpR op_gt (pe_call (ok_area_of (K := K) T) (hr.mono (by decide)) rfl T.g_area_of T.d_area_of.kp (bn_area_of T) .nil pass0 (pa_cons (pv 0) pa_nil)) pe_int (nomark _)) (pe_callTy (kLstOf (K := K)) (by rfl) T.n_list (by decide +kernel) (pa_cons (pv 0) pa_nil)) (kRevL (K := K) (pe_revL (pe_callTy (kLstOf (K := K)) (by rfl) T.n_list (by decide +kernel) (pa_cons (pv 0) pa_nil))))))
      (pss_cons (ps_set (i := 2) sc_arranged.nd rfl (Or.inl rfl) (kBM (K := K) (pe_bm PySem.F.plainAttrs_list PySem.F.slot_list_index PySem.F.type_list_index (kIndexD (K := K) hr) (pv 1) (pa_cons (pe_callB (kMinD (K := K) rfl hr) (by rfl) T.n_min (by decide +kernel) (pa_cons (pv 1) pa_nil)) pa_nil))))
      (pss_one (ps_ret (pe_callTy (kTupOf (K := K)) (by rfl) T.n_tuple (by decide +kernel) (pa_cons (pe_op op_cat (pe_slice (kSlL (K := K)) (pv 1) (po_some (pv 2)) po_none) (pe_slice (kSlL (K := K)) (pv 1) po_none (po_some (pv 2)))) pa_nil)))))), ?_⟩
    refine r_seq ?_
    refine r_asg ?_
    refine r_mid (fun v H1 => ∃ l ws, v = .ref l ∧ Same H H1 ∧ H1 l = some (.lst ws) ∧ Hds K H1 ws (spn ps)) (fun Q' hQ => ?_) ?_
    · walk_at "gx"
      refine ⟨v, ps, rfl, hv, hb, by omega, fun H1 s1 => ?_⟩
      rw [area_are]
      walk_at "gx"
      obtain ⟨a, xs, rfl, hS, hx⟩ := hv.same s1
      refine r_dec (fun e => ?_) (fun e => ?_)
      · walk_at "gx"
        refine r_lstOfS hS fun l hl1 => ?_
        generalize e2 : upd H1 l _ = H2
        obtain ⟨s2, g2⟩ := fresh hl1 e2
        exact hQ _ _ ⟨l, xs, rfl, s1.trans s2, g2, by unfold spn; rw [if_pos e]; exact hx.same s2⟩
      · refine r_revL ?_
        walk_at "gx"
        refine r_lstOfS hS fun l hl1 => ?_
        generalize e2 : upd H1 l _ = H2
        obtain ⟨s2, g2⟩ := fresh hl1 e2
        refine ⟨l, xs, rfl, SqL.of g2, fun p hp => ?_⟩
        generalize e3 : upd H2 p _ = H3
        obtain ⟨s3, g3⟩ := fresh hp e3
        exact hQ _ _ ⟨p, _, rfl, (s1.trans s2).trans s3, g3, by unfold spn; rw [if_neg e]; exact (hx.same (s2.trans s3)).reverse⟩
    · rintro _ H1 ⟨l, ws, rfl, S1, hl1, hw⟩
      have hlw : ws.length = ps.length := by rw [hw.length, spn_len]
      obtain ⟨p, qs, eo⟩ : ∃ p qs, spn ps = p :: qs := by
        cases e : spn ps with
        | nil => have := spn_len ps; rw [e] at this; simp at this; omega
        | cons p qs => exact ⟨p, qs, rfl⟩
      have hmem : minPt (spn ps) ∈ spn ps := by rw [eo]; exact minP_mem qs p
      obtain ⟨i1, i2⟩ := idx_mem hmem
      generalize hj : idx (minPt (spn ps)) (spn ps) = j at i1 i2
      have ea : arr ps = rot j (spn ps) := by unfold arr; rw [hj]
      rw [ea] at q
      have hjl : j < (spn ps).length := (List.getElem?_eq_some_iff.mp i1).1
      walk_at "gx"
      refine ⟨.inl ⟨rfl, _, SqL.of hl1⟩, ?_⟩
      walk_at "gx"
      have hw' := hw
      rw [eo] at hw'
      refine r_minP (SqL.of hl1) hw' fun i v hi hm => ?_
      obtain ⟨z, hz, hv⟩ := hw.at' hi
      have ez : z = minPt (spn ps) := by
        rw [eo, hm] at hz
        rw [eo]
        exact (Option.some.inj hz).symm
      rw [ez] at hv
      walk_at "gx"
      refine r_indexH (SqL.of hl1) hw hv i1 i2 ?_
      walk_at "gx"
      refine r_slL (SqL.of hl1) fun p1 hp1 => ?_
      rw [cut_from]
      generalize e2 : upd H1 p1 _ = H2
      obtain ⟨s2, g2⟩ := fresh hp1 e2
      walk_at "gx"
      refine r_slL (SqL.of (s2 _ _ hl1)) fun p2 hp2 => ?_
      rw [cut_to]
      generalize e3 : upd H2 p2 _ = H3
      obtain ⟨s3, g3⟩ := fresh hp2 e3
      refine r_cat (s3 _ _ g2) g3 (Nat.le_trans (show _ ≤ 2000 by rw [List.length_drop, List.length_take]; omega) (by decide)) fun p3 hp3 => ?_
      generalize e4 : upd H3 p3 _ = H4
      obtain ⟨s4, g4⟩ := fresh hp3 e4
      walk_at "gx"
      refine r_tupOfL (SqL.of g4) fun p4 hp4 => ?_
      generalize e5 : upd H4 p4 _ = H5
      obtain ⟨s5, g5⟩ := fresh hp4 e5
      have S5 := ((s2.trans s3).trans s4).trans s5
      refine q _ _ _ (S1.trans S5) (SqT.of g5) ?_
      exact ((hw.drop j).append (hw.take j)).same S5
/-! #### checked_corners -/
/-- what an argument is, as corners -/
inductive CIn (K : PySem.W.Frag) (H : Hp) : V → Cin → Prop where
  | pts {a : Addr} {xs : List V} {ps : List Pt} : SqS K H a xs → Hds K H xs ps → 3 ≤ ps.length → ps.length ≤ 60 → CIn K H (.ref a) (.pts ps)
  | kind {v : V} {n : String} : Kd K H v n → (n == "list" || n == "tuple") = false → CIn K H v (.bad none)
  | len {a : Addr} {xs : List V} : SqS K H a xs → ¬ (3 ≤ xs.length ∧ xs.length ≤ 60) → CIn K H (.ref a) (.bad none)
  | item {a : Addr} {xs : List V} {i : Nat} (f : Nat → Bool) : SqS K H a xs → 3 ≤ xs.length → xs.length ≤ 60 → (∀ j x, xs[j]? = some x → PtB K H x (f j)) → i < xs.length → f i = false → (∀ j, j < i → f j = true) → CIn K H (.ref a) (.bad (some i))
theorem CIn.same {H H' : Hp} {v : V} {c : Cin} (h : CIn K H v c) (s : Same H H') : CIn K H' v c := by
  cases h with
  | pts h1 h2 h3 h4 => exact .pts (h1.same s) (h2.same s) h3 h4
  | kind h1 h2 => exact .kind (h1.same s) h2
  | len h1 h2 => exact .len (h1.same s) h2
  | item f h1 h2 h3 h4 h5 h6 h7 => exact .item f (h1.same s) h2 h3 (fun j x e => (h4 j x e).same s) h5 h6 h7
/-- what the checks of corners let out -/
structure ErrW (K : PySem.W.Frag) (H : Hp) (c : Cin) (E : XK) : Prop where
  bad : ∀ o, c = .bad o → ∀ d H', Same H H' → H d = none → H' d = some (.xd [("position", posV o)]) → E (.ref (He.ga K "InvalidPolygon")) (some d) H'
  bd : ∀ ps, c = .pts ps → AllBd 40000 ps
  deg : ∀ ps, c = .pts ps → ∀ i, DegAt ps i → ∀ d H', Same H H' → H d = none → H' d = some (.xd [("position", .int (i : Int))]) → E (.ref (He.ga K "DegenerateCorner")) (some d) H'
  crs : ∀ ps, c = .pts ps → ∀ i j, CrsAt ps i j → ∀ d H', Same H H' → H d = none → H' d = some (.xd [("second", .int (j : Int)), ("first", .int (i : Int))]) → E (.ref (He.ga K "CrossingEdges")) (some d) H'
def sp_checked_corners (K : PySem.W.Frag) : Sp := fun vs H Q E => ∃ (v : V) (c : Cin), vs = [v, .int 60] ∧ CIn K H v c ∧ ErrW K H c E ∧
  ∀ ps, c = .pts ps → Good ps → ∀ (t : Addr) (xs : List V) (H' : Hp), Same H H' → SqT K H' t xs → Hds K H' xs (arr ps) → Q (.ref t) H'
theorem ok_checked_corners (T : Tx K mg) : FnOk P w K mg base (L2.CX P w) 6 (He.ga K "checked_corners") (fdOf K (He.ga K "checked_corners")) ["corners", "limit"] (sp_checked_corners K) := by
  refine T.d_checked_corners.ok sc_checked_corners (fun vs H Q E h => ?_) (fun cdv A outer s H vs Q E hr h => ?_)
  · obtain ⟨v, c, rfl, _⟩ := h
    rfl
  · obtain ⟨v, c, rfl, hc, hE, q⟩ := h
    refine ⟨_, (pss_cons (ps_if (PW.pt (pw_or (pt_not (pt_val (pe_callB (kIsiT (K := K)) (by rfl) T.n_isinstance (by decide +kernel) (pa_cons (pv 0) (pa_cons (pe_tup (pa_cons (pe_bltn (v := .ty "list") (by rfl) T.n_list (by decide +kernel) rfl) (pa_cons (pe_bltn (v := .ty "tuple") (by rfl) T.n_tuple (by decide +kernel) rfl) pa_nil))) pa_nil))))) (pw_or1 (pt_not (pt_chain op_le op_le (pe_glob (v := .int 3) rfl T.c_MIN_CORNERS.choose_spec ⟨_, rfl⟩) (pe_callB (kLen (K := K)) (by rfl) T.n_len (by decide +kernel) (pa_cons (pv 0) pa_nil)) (pv 1)))))) (pss_one (ps_raise rfl (takes_of rfl rfl rfl rfl) (pmk_oex T.x_InvalidPolygon.o T.x_InvalidPolygon.i T.x_InvalidPolygon.t (ok_InvalidPolygon_init (K := K) T) (hr.mono (by decide)) (bn_InvalidPolygon_init T) .nil pass0 rfl T.g_InvalidPolygon (pa_cons pe_non pa_nil)))) pss_nil)
      (pss_cons (ps_expr (pe_call (ok_check_points (K := K) T) (hr.mono (by decide)) rfl T.g_check_points T.d_check_points.kp (bn_check_points T) .nil (passes_call (takes_of rfl rfl rfl rfl) (fun _ _ _ _ h => h)) (pa_cons (pv 0) pa_nil)))
      (pss_cons (ps_expr (pe_call (ok_check_turns (K := K) T) (hr.mono (by decide)) rfl T.g_check_turns T.d_check_turns.kp (bn_check_turns T) .nil (passes_call (takes_of rfl rfl rfl rfl) (fun _ _ _ _ h => h)) (pa_cons (pv 0) pa_nil)))
      (pss_cons (ps_expr (pe_call (ok_check_crossings (K := K) T) (hr.mono (by decide)) rfl T.g_check_crossings T.d_check_crossings.kp (bn_check_crossings T) .nil (passes_call (takes_of rfl rfl rfl rfl) (fun _ _ _ _ h => h)) (pa_cons (pv 0) pa_nil)))
      (pss_one (ps_ret (pe_call (ok_arranged (K := K) T) (hr.mono (by decide)) rfl T.g_arranged T.d_arranged.kp (bn_arranged T) .nil pass0 (pa_cons (pv 0) pa_nil)))))))), ?_⟩
    walk_at "gx"
    refine r_new fun t ht => ?_
    generalize e1 : upd H t _ = H1
    obtain ⟨s1, g1⟩ := fresh ht e1
    have bad0 : ∀ H2, Same H H2 → c = .bad none → tMkO (He.ga K "InvalidPolygon") (spX1 (He.ga K "InvalidPolygon") "position") [] (tCons (tC V.non) tNil) [some v, some (.int 60)] H2 (fun cls d H' => E cls d H') := by
      intro H2 S2 ec
      refine ⟨(by show 1 ≤ 1000; decide), ?_⟩
      exact r_mkX1 fun d H5 s5 hd h5 => hE.bad none ec d H5 (S2.trans s5) (S2.free hd) h5
    cases hc with
    | kind kd hn =>
      walk_at "gx"
      refine r_isLT g1 (kd.same s1) ?_
      rw [hn]
      walk_at "gx"
      refine iteT (iteT ?_)
      exact bad0 H1 s1 rfl
    | len hS hl =>
      have hS1 := hS.same s1
      obtain ⟨n, kd, hn⟩ := sqs_kd hS1
      walk_at "gx"
      refine r_isLT g1 kd ?_
      rw [hn]
      walk_at "gx"
      refine if_ff ?_
      walk_at "gx"
      refine r_chain ?_
      walk_at "gx"
      refine r_lenS hS1 ?_
      walk_at "gx"
      refine r_dec (fun e => ?_) (fun e => ?_)
      · walk_at "gx"
        rw [decide_eq_false (by omega)]
        exact iteT (bad0 H1 s1 rfl)
      · exact ⟨_, rfl, iteT (bad0 H1 s1 rfl)⟩
    | @item a xs i f hS h3 h60 hf hi fi fj =>
      have hS1 := hS.same s1
      obtain ⟨n, kd, hn⟩ := sqs_kd hS1
      walk_at "gx"
      refine r_isLT g1 kd ?_
      rw [hn]
      walk_at "gx"
      refine if_ff ?_
      walk_at "gx"
      refine r_chain ?_
      walk_at "gx"
      refine r_lenS hS1 ?_
      walk_at "gx"
      refine r_dec (fun e => ?_) (fun e => absurd (show (3 : Int) ≤ _ by omega) e)
      walk_at "gx"
      rw [decide_eq_true (by omega)]
      refine if_ff ?_
      walk_at "gx"
      refine .inl ⟨_, _, f, rfl, hS1, fun j x e => (hf j x e).same s1, fun ha => ?_, fun i' hi' fi' fj' d H2 s2 hd hx => ?_⟩
      · rw [ha _ hi] at fi; cases fi
      · have ei : i' = i := by
          rcases Nat.lt_trichotomy i' i with z | z | z
          · rw [fj _ z] at fi'; cases fi'
          · exact z
          · rw [fj' _ z] at fi; cases fi
        subst ei
        exact hE.bad _ rfl d H2 (s1.trans s2) (s1.free hd) hx
    | @pts a xs ps hS hx h3 h60 =>
      have hS1 := hS.same s1
      have hx1 := hx.same s1
      have hlx := hx.length
      obtain ⟨n, kd, hn⟩ := sqs_kd hS1
      have hb := hE.bd ps rfl
      walk_at "gx"
      refine r_isLT g1 kd ?_
      rw [hn]
      walk_at "gx"
      refine if_ff ?_
      walk_at "gx"
      refine r_chain ?_
      walk_at "gx"
      refine r_lenS hS1 ?_
      walk_at "gx"
      refine r_dec (fun e => ?_) (fun e => absurd (show (3 : Int) ≤ _ by omega) e)
      walk_at "gx"
      rw [decide_eq_true (by omega)]
      refine if_ff ?_
      walk_at "gx"
      refine .inl ⟨_, xs, fun _ => true, rfl, hS1, fun j x e => ?_, fun _ H2 s2 => ?_, fun _ _ z => nomatch z⟩
      · obtain ⟨p, _, hp⟩ := hx1.at' e
        exact .yes p hp
      have S2 := s1.trans s2
      walk_at "gx"
      refine ⟨_, ps, rfl, ⟨a, xs, rfl, hS.same S2, hx.same S2⟩, fun p hp => (hb p hp).mono (by decide), by omega, fun nd H3 s3 => ?_, fun i hi h0 hn d H3 s3 hd hxd => hE.deg ps rfl i ⟨hi, h0, hn⟩ d H3 (S2.trans s3) (S2.free hd) hxd⟩
      have S3 := S2.trans s3
      walk_at "gx"
      refine ⟨_, ps, rfl, ⟨a, xs, rfl, hS.same S3, hx.same S3⟩, hb, by omega, fun nc H4 s4 => ?_, fun i j hij hj hc hn d H4 s4 hd hxd => hE.crs ps rfl i j ⟨nd, hij, hj, hc, hn⟩ d H4 (S3.trans s4) (S3.free hd) hxd⟩
      have S4 := S3.trans s4
      walk_at "gx"
      exact ⟨_, ps, rfl, ⟨a, xs, rfl, hS.same S4, hx.same S4⟩, hb, by omega, by omega, fun t' xs' H5 s5 ht' hx' => q ps rfl ⟨nd, fun i j h1 h2 => nc i j (by omega) h1 h2⟩ t' xs' H5 (S4.trans s5) ht' hx'⟩
/-! #### first_reflex -/
def sp_first_reflex (K : PySem.W.Frag) : Sp := fun vs H Q _ => ∃ (v : V) (ps : List Pt), vs = [v] ∧ PSq K H v ps ∧ AllBd 90000 ps ∧ ps.length ≤ 100000 ∧ ∀ H', Same H H' → Q (posV (reflex ps)) H'
theorem ok_first_reflex (T : Tx K mg) : FnOk P w K mg base CX0 4 (He.ga K "first_reflex") (fdOf K (He.ga K "first_reflex")) ["corners"] (sp_first_reflex K) := by
  refine T.d_first_reflex.ok sc_first_reflex (fun vs H Q E h => ?_) (fun cdv A outer s H vs Q E hr h => ?_)
  · obtain ⟨v, ps, rfl, _⟩ := h
    rfl
  · obtain ⟨v, ps, rfl, hv, hb, hl, q⟩ := h
    refine ⟨_, PSs.nox (pss_cons (ps_forG (fun _ _ _ _ _ z => z.elim) PassesOwn.never (pig_enum (pgm_call (ok_triples (K := K) T) (hr.mono (by decide)) rfl T.g_triples T.d_triples.kp (bn_triples T) (pa_cons (pv 0) pa_nil)) (hr.mono (by decide)) (hr.mono (by decide)) (by rfl) T.n_enumerate) (kpgTup (K := K) (n := 2) rfl (pgs_cons (pg_name (i := 1) sc_first_reflex.nd rfl (Or.inl rfl)) (pgs_cons (kpgTup (K := K) (n := 3) rfl (pgs_cons (pg_name (i := 2) sc_first_reflex.nd rfl (Or.inl rfl)) (pgs_cons (pg_name (i := 3) sc_first_reflex.nd rfl (Or.inl rfl)) (pgs_cons (pg_name (i := 4) sc_first_reflex.nd rfl (Or.inl rfl)) pgs_nil)))) pgs_nil)))
      (pss_one (ps_if (pt_cmpR op_lt (pe_call (ok_turn_of (K := K) T) (hr.mono (by decide)) rfl T.g_turn_of T.d_turn_of.kp (bn_turn_of T) .nil pass0 (pa_cons (pv 2) (pa_cons (pv 3) (pa_cons (pv 4) pa_nil)))) pe_int (nomark _)) (pss_one (ps_ret (pv 1))) pss_nil)))
      (pss_one (ps_ret pe_non))), ?_⟩
    walk_at "gx"
    refine r_forGE ?_ ?_
    · refine ⟨v, rfl, ?_⟩
      refine ⟨v, ps, rfl, hv, ?_⟩
      refine ⟨Same.refl _, fun i σ' H' => Same H H' ∧ (∀ j, j < i → ¬ tri0 ps j < 0) ∧ ∃ o1 o2 o3 o4, σ' = [some v, o1, o2, o3, o4], ⟨Same.refl _, fun j hj => absurd hj (Nat.not_lt_zero _), _, _, _, _, rfl⟩, ?_, ?_⟩
      · rintro i σ' H' T y Hy hi ⟨S, hn, o1, o2, o3, o4, rfl⟩ ⟨s1, a, u, x, w, rfl, ha, hu, hx, hw⟩ hT
        have ei : ps.length - (ps.length - i) = i := by omega
        rw [ei] at hu hx hw
        generalize e3 : upd Hy T _ = H3
        obtain ⟨s3, g3⟩ := fresh hT e3
        have ha3 := sqT_same s3 ha
        walk_at "gx"
        refine ⟨u, x, w, _, _, _, rfl, hu.same s3, hx.same s3, hw.same s3, hb _ (prv_mem (by omega)), hb _ (atC_mem hi), hb _ (nxt_mem (by omega)), fun H4 s4 => ?_⟩
        have S4 := ((S.trans s1).trans s3).trans s4
        walk_at "gx"
        refine r_dec (fun e => ?_) (fun e => ?_)
        · walk_at "gx"
          have er := reflex_some hi e hn
          have := q H4 S4
          rw [er] at this
          exact this
        · walk_at "gx"
          refine ⟨⟨S4, fun j hj => ?_, _, _, _, _, rfl⟩, s3.trans s4⟩
          rcases Nat.lt_or_ge j i with z | z
          · exact hn j z
          · obtain rfl : j = i := by omega
            exact e
      · rintro σ' H' H2 ⟨S, hn, o1, o2, o3, o4, rfl⟩ hf
        walk_at "gx"
        have := q H2 (S.trans hf)
        rw [reflex_none hn] at this
        exact this
    · rintro R R' h ⟨v', e, v2, ps2, e2, hv2, r⟩
      exact ⟨v', e, v2, ps2, e2, hv2, h _ _ _ r⟩
/-! #### Polygon.__init__ -/
/-- C is the class of polygons, or one below it -/
structure PgC (K : PySem.W.Frag) (C : Addr) : Prop where
  ins : InsTy K C
  nk : NoAttr K C "kept"
  nr : NoAttr K C "reflex"
  isa : PySem.W.kitOne K (.ref C) (.ref (He.ga K "Polygon")) = some true
theorem pgc (T : Tx K mg) : PgC K (He.ga K "Polygon") := ⟨T.y_Polygon, T.a_Polygon_kept, T.a_Polygon_reflex, T.i_Polygon⟩
/-- v is a polygon of the class C with the corners ps -/
def PgAt (K : PySem.W.Frag) (H : Hp) (v : V) (C : Addr) (ps : List Pt) : Prop := PgC K C ∧ ∃ x dx t xs, v = .ref x ∧ H x = some (.ins C dx [("kept", .ref t), ("reflex", posV (reflex ps))]) ∧ SqT K H t xs ∧ Hds K H xs ps
theorem PgAt.same {H H' : Hp} {v : V} {C : Addr} {ps : List Pt} (h : PgAt K H v C ps) (s : Same H H') : PgAt K H' v C ps := by
  obtain ⟨c, x, dx, t, xs, rfl, h1, h2, h3⟩ := h
  exact ⟨c, x, dx, t, xs, rfl, s _ _ h1, sqT_same s h2, h3.same s⟩
theorem PgAt.kp {H H' : Hp} {v : V} {C : Addr} {ps : List Pt} {l : Addr} (h : PgAt K H v C ps) (k : Kp l H H') (d : DrAt H l) : PgAt K H' v C ps := by
  obtain ⟨c, x, dx, t, xs, rfl, h1, h2, h3⟩ := h
  obtain ⟨a, b, e, _⟩ := id d
  exact ⟨c, x, dx, t, xs, rfl, k _ _ (ne_of h1 e (by intro z; cases z)) h1, sqT_kp k ⟨_, e⟩ h2, h3.kp k d⟩
theorem errW_good {H : Hp} {ps : List Pt} {E : XK} (g : Good ps) (hb : AllBd 40000 ps) : ErrW K H (.pts ps) E := by
  refine ⟨(fun o z => nomatch z), fun ps' e => ?_, fun ps' e i hi => ?_, fun ps' e i j hi => ?_⟩
  · cases e; exact hb
  · cases e; exact absurd hi.2.1 (g.1 i hi.1)
  · cases e
    have := g.2 i j hi.2.1 hi.2.2.1
    rw [hi.2.2.2.1] at this; cases this
def sp_Polygon_init (K : PySem.W.Frag) : Sp := fun vs H Q E => ∃ (x dx C : Addr) (v : V) (c : Cin), vs = [.ref x, v] ∧ PgC K C ∧ H x = some (.ins C dx []) ∧ CIn K H v c ∧ ErrW K H c E ∧
  ∀ ps, c = .pts ps → Good ps → ∀ H', Kp x H H' → PgAt K H' (.ref x) C (arr ps) → Q .non H'
theorem ok_Polygon_init (T : Tx K mg) : FnOk P w K mg base (L2.CX P w) 7 (He.ma K (He.ga K "Polygon") "__init__") (fdOf K (He.ma K (He.ga K "Polygon") "__init__")) ["self", "corners"] (sp_Polygon_init K) := by
  refine T.d_Polygon_init.ok sc_Polygon_init (fun vs H Q E h => ?_) (fun cdv A outer s H vs Q E hr h => ?_)
  · obtain ⟨x, dx, C, v, c, rfl, _⟩ := h
    rfl
  · obtain ⟨x, dx, C, v, c, rfl, pc, hx, hc, hE, q⟩ := h
    have hC := pc.ins.cl
    have nk := pc.nk
    have nr := pc.nr
    refine ⟨_, (pss_cons (kSFld (K := K) (ps_fld (pv 0) (pe_call (ok_checked_corners (K := K) T) (hr.mono (by decide)) rfl T.g_checked_corners T.d_checked_corners.kp (bn_checked_corners T) .nil (passes_call (takes_of rfl rfl rfl rfl) (fun _ _ _ _ h => h)) (pa_cons (pv 1) (pa_cons (kCVal (K := K) (pe_glob (v := .ref (He.ga K "Polygon")) rfl T.g_Polygon rfl)) pa_nil))) rfl))
      (pss_one (kSFld (K := K) (ps_fld (pv 0) (pe_call (ok_first_reflex (K := K) T) (hr.mono (by decide)) rfl T.g_first_reflex T.d_first_reflex.kp (bn_first_reflex T) .nil pass0 (pa_cons (kFld (K := K) (pe_fld (pv 0) rfl)) pa_nil)) rfl)))), ?_⟩
    walk_at "gx"
    refine ⟨_, _, _, _, rfl, T.cr_Polygon, T.cv_Polygon_MAX_CORNERS.choose_spec, ?_⟩
    walk_at "gx"
    refine ⟨v, c, rfl, hc, hE, fun ps ec hg t xs H1 s1 ht hxs => ?_⟩
    subst ec
    have hb := hE.bd ps rfl
    have hl : ps.length ≤ 60 := by
      cases hc with
      | pts _ _ _ h => exact h
    walk_at "gx"
    have hx1 := s1 _ _ hx
    refine ⟨x, C, dx, [], rfl, hx1, hC, nk, by decide, ?_⟩
    generalize e2 : upd H1 x _ = H2
    have hx2 : H2 x = some (.ins C dx [("kept", .ref t)]) := by subst e2; exact upd_same
    have k2 : Kp x H1 H2 := by subst e2; exact (Kp.refl x H1).put
    have n1 := notT_ins hx1
    have n2 := notT_ins hx2
    have ht2 := sqT_kpT k2 n1 ht
    have hxs2 := immsT k2 n1 hxs
    walk_at "gx"
    refine r_fldAt hx2 hC nk rfl ?_
    walk_at "gx"
    refine ⟨.ref t, arr ps, rfl, ⟨t, xs, rfl, .inr ht2, hxs2⟩, fun p hp => (arr_bd hb p hp).mono (by decide), by rw [arr_len]; omega, fun H3 s3 => ?_⟩
    walk_at "gx"
    have hx3 := s3 _ _ hx2
    refine ⟨x, C, dx, _, rfl, hx3, hC, nr, (by show 1 < 1000; decide), ?_⟩
    have k4 : Kp x H3 (upd H3 x (.ins C dx (putF "reflex" (posV (reflex (arr ps))) [("kept", .ref t)]))) := (Kp.refl x H3).put
    have n3 := notT_ins hx3
    refine q ps rfl hg _ ((((Kp.of_same s1).trans k2).trans (Kp.of_same s3)).trans k4) ⟨pc, x, dx, t, xs, rfl, upd_same, sqT_kpT k4 n3 (sqT_same s3 ht2), immsT k4 n3 (hxs2.same s3)⟩
/-- Polygon(..) where it is made -/
theorem mk_poly {H : Hp} {C : Addr} {v : V} {c : Cin} {R : Addr → Hp → Prop} {E : XK} (pc : PgC K C) (hc : CIn K H v c) (hE : ErrW K H c E) (q : ∀ ps, c = .pts ps → Good ps → ∀ x H', Same H H' → PgAt K H' (.ref x) C (arr ps) → R x H') : ∀ x dx, H x = none → H dx = none → dx ≠ x →
    sp_Polygon_init K [V.ref x, v] (upd (upd H dx (.own x)) x (.ins C dx [])) (fun v H2 => v = .non ∧ R x H2) E := by
  intro x dx hx hdx hne
  have s0 : Same H (upd (upd H dx (.own x)) x (.ins C dx [])) := by
    refine same_new (same_new (Same.refl H) hdx) ?_
    rw [upd_ne hne.symm]; exact hx
  refine ⟨x, dx, C, v, c, rfl, pc, upd_same, hc.same s0, ⟨fun o eo d H' s hd h => hE.bad o eo d H' (s0.trans s) (s0.free hd) h, hE.bd, fun ps e i hi d H' s hd h => hE.deg ps e i hi d H' (s0.trans s) (s0.free hd) h, fun ps e i j hi d H' s hd h => hE.crs ps e i j hi d H' (s0.trans s) (s0.free hd) h⟩, fun ps e hg H' k hp => ⟨rfl, q ps e hg _ _ (same_kp s0 hx k) hp⟩⟩
/-! #### Polygon.corners -/
abbrev pCorners (K : PySem.W.Frag) (C : Addr) : Prop := PropOf K C "corners" (He.ma K (He.ga K "Polygon") "corners") (He5.wf K (He.ga K "Polygon") "property" "corners")
def sp_Polygon_corners (K : PySem.W.Frag) : Sp := fun vs H Q _ => ∃ (v : V) (C : Addr) (ps : List Pt), vs = [v] ∧ PgAt K H v C ps ∧ ∀ t xs, SqT K H t xs → Hds K H xs ps → Q (.ref t) H
theorem ok_Polygon_corners (T : Tx K mg) : FnOk P w K mg base CX0 1 (He5.wf K (He.ga K "Polygon") "property" "corners") (fdOf K (He5.wf K (He.ga K "Polygon") "property" "corners")) ["self"] (sp_Polygon_corners K) := by
  refine T.d_Polygon_corners.ok sc_Polygon_corners (fun vs H Q E h => ?_) (fun cdv A outer s H vs Q E hr h => ?_)
  · obtain ⟨v, C, ps, rfl, _⟩ := h
    rfl
  · obtain ⟨v, C, ps, rfl, ⟨pc, x, dx, t, xs, rfl, hx, ht, hxs⟩, q⟩ := h
    refine ⟨_, PSs.nox (pss_one (ps_ret (kFld (K := K) (pe_fld (pv 0) rfl)))), ?_⟩
    walk_at "gx"
    refine r_fldAt hx pc.ins.cl pc.nk rfl ?_
    exact q _ _ ht hxs
/-! #### content_of -/
def sp_content_of (K : PySem.W.Frag) : Sp := fun vs H Q _ => ∃ (v : V) (p : Int × Int), vs = [v] ∧ Hd K H v p ∧ Q (.int (cont p)) H
theorem ok_content_of (T : Tx K mg) : FnOk P w K mg base CX0 2 (He.ga K "content_of") (fdOf K (He.ga K "content_of")) ["point"] (sp_content_of K) := by
  refine T.d_content_of.ok sc_content_of (fun vs H Q E h => ?_) (fun cdv A outer s H vs Q E hr h => ?_)
  · obtain ⟨v, p, rfl, _⟩ := h
    rfl
  · obtain ⟨v, p, rfl, hp, k⟩ := h
    obtain ⟨a, rfl, ha⟩ := hp.pt_of
    refine ⟨_, PSs.nox (pss_one (ps_ret (pe_call (ok_common_divisor (K := K) T) (hr.mono (by decide)) rfl T.g_common_divisor T.d_common_divisor.kp (bn_common_divisor T) .nil pass0 (pa_cons (pe_ix (kIxT (K := K)) (pv 0) pe_int (fun _ _ => rfl)) (pa_cons (pe_ix (kIxT (K := K)) (pv 0) pe_int (fun _ _ => rfl)) pa_nil))))), ?_⟩
    walk_at "gx"
    exact ⟨_, _, rfl, k⟩
/-! #### Polygon.double_area -/
abbrev pArea (K : PySem.W.Frag) (C : Addr) : Prop := PropOf K C "double_area" (He.ma K (He.ga K "Polygon") "double_area") (He5.wf K (He.ga K "Polygon") "property" "double_area")
def sp_Polygon_double_area (K : PySem.W.Frag) : Sp := fun vs H Q _ => ∃ (v : V) (C : Addr) (ps : List Pt), vs = [v] ∧ PgAt K H v C ps ∧ AllBd 40000 ps ∧ ps.length ≤ 1000 ∧ ∀ H', Same H H' → Q (.int (are ps)) H'
theorem ok_Polygon_double_area (T : Tx K mg) : FnOk P w K mg base CX0 3 (He5.wf K (He.ga K "Polygon") "property" "double_area") (fdOf K (He5.wf K (He.ga K "Polygon") "property" "double_area")) ["self"] (sp_Polygon_double_area K) := by
  refine T.d_Polygon_double_area.ok sc_Polygon_double_area (fun vs H Q E h => ?_) (fun cdv A outer s H vs Q E hr h => ?_)
  · obtain ⟨v, C, ps, rfl, _⟩ := h
    rfl
  · obtain ⟨v, C, ps, rfl, ⟨pc, x, dx, t, xs, rfl, hx, ht, hxs⟩, hb, hl, q⟩ := h
    refine ⟨_, PSs.nox (pss_one (ps_ret (pe_call (ok_area_of (K := K) T) (hr.mono (by decide)) rfl T.g_area_of T.d_area_of.kp (bn_area_of T) .nil pass0 (pa_cons (kFld (K := K) (pe_fld (pv 0) rfl)) pa_nil)))), ?_⟩
    walk_at "gx"
    refine r_fldAt hx pc.ins.cl pc.nk rfl ?_
    walk_at "gx"
    refine ⟨_, ps, rfl, ⟨t, xs, rfl, .inr ht, hxs⟩, hb, by omega, fun H1 s1 => ?_⟩
    rw [area_are]
    exact q H1 s1
/-! #### Polygon.border_points -/
abbrev pBorder (K : PySem.W.Frag) (C : Addr) : Prop := PropOf K C "border_points" (He.ma K (He.ga K "Polygon") "border_points") (He5.wf K (He.ga K "Polygon") "property" "border_points")
def sp_Polygon_border_points (K : PySem.W.Frag) : Sp := fun vs H Q _ => ∃ (v : V) (C : Addr) (ps : List Pt), vs = [v] ∧ PgAt K H v C ps ∧ ps.length ≤ 1000 ∧ ∀ H', Same H H' → Q (.int (brd ps)) H'
theorem ok_Polygon_border_points (T : Tx K mg) : FnOk P w K mg base CX0 3 (He5.wf K (He.ga K "Polygon") "property" "border_points") (fdOf K (He5.wf K (He.ga K "Polygon") "property" "border_points")) ["self"] (sp_Polygon_border_points K) := by
  refine T.d_Polygon_border_points.ok sc_Polygon_border_points (fun vs H Q E h => ?_) (fun cdv A outer s H vs Q E hr h => ?_)
  · obtain ⟨v, C, ps, rfl, _⟩ := h
    rfl
  · obtain ⟨v, C, ps, rfl, ⟨pc, x, dx, t, xs, rfl, hx, ht, hxs⟩, hl, q⟩ := h
    refine ⟨_, PSs.nox (pss_one (ps_ret (pe_callB (kSum (K := K) rfl) (by rfl) T.n_sum (by decide +kernel) (pa_cons (pe_lc (own := [("start", 1), ("end", 2)]) (g := (gTup K 2 (gCons (gName 1) (gCons (gName 2) gNil)))) (tt := tYes) rfl sc_Polygon_border_points.nd (kpiL (K := K) (pe_call (ok_edges_of (K := K) T) (hr.mono (by decide)) rfl T.g_edges_of T.d_edges_of.kp (bn_edges_of T) .nil pass0 (pa_cons (kFld (K := K) (pe_fld (pv 0) rfl)) pa_nil))) (blkOk_by (own := [("start", 1), ("end", 2)]) (N := ["self", "start", "end"]) (sc := defScope s_Polygon_border_points) (by decide +kernel)) (fun _ _ _ _ _ => (kpgTup (K := K) (n := 2) rfl (pgs_cons (pg_name (i := 1) sc_Polygon_border_points.nd rfl (Or.inl rfl)) (pgs_cons (pg_name (i := 2) sc_Polygon_border_points.nd rfl (Or.inl rfl)) pgs_nil)))) (fun _ _ _ _ _ => pts_nil) (fun _ _ _ _ _ => (pe_call (ok_content_of (K := K) T) (hr.mono (by decide)) rfl T.g_content_of T.d_content_of.kp (bn_content_of T) .nil pass0 (pa_cons (pe_call (ok_difference (K := K) T) (hr.mono (by decide)) rfl T.g_difference T.d_difference.kp (bn_difference T) .nil pass0 (pa_cons (pv 2) (pa_cons (pv 1) pa_nil))) pa_nil)))) pa_nil)))), ?_⟩
    walk_at "gx"
    refine r_fldAt hx pc.ins.cl pc.nk rfl ?_
    walk_at "gx"
    refine ⟨_, ps, rfl, ⟨t, xs, rfl, .inr ht, hxs⟩, by omega, fun l ws H1 s1 hl1 hw => ?_⟩
    walk_at "gx"
    have hlw := hw.length
    have hle := edgs_len ps
    refine compL (xs := ws) (by omega) (fun D i acc H' => Same H1 H' ∧ acc = (((edgs ps).map fun e => edc e.1 e.2).take i).map V.int) (SqL.of hl1) (fun D hD => ⟨same_new (Same.refl _) hD, rfl⟩) (fun D i acc H' _ p => p.1.seq (SqL.of hl1)) ?_ ?_
    · rintro D i z acc H2 hD hz hi ⟨S2, rfl⟩ hacc hl2
      obtain ⟨e, he, hv⟩ := (hw.same S2).at' hz
      obtain ⟨b, u, w, rfl, tb, hu, hw'⟩ := hv.pair_of
      walk_at "gx"
      refine ⟨rfl, ?_⟩
      walk_at "gx"
      refine ⟨w, u, _, _, rfl, hw', hu, fun r H3 s3 hr => ?_⟩
      walk_at "gx"
      refine ⟨_, _, rfl, hr, ?_⟩
      refine cnext (s3 _ _ hacc) hl2 (by omega) ⟨same_kp (S2.trans s3) hD ((Kp.of_same (Same.refl _)).put), ?_⟩
      rw [List.take_succ, List.getElem?_map, he, List.map_append]; rfl
    · rintro D acc H2 hD ⟨S2, rfl⟩ hacc hl2
      have et : ((edgs ps).map fun e => edc e.1 e.2).take ws.length = (edgs ps).map fun e => edc e.1 e.2 := by
        rw [List.take_of_length_le]; rw [List.length_map]; omega
      rw [et] at hacc
      walk_at "gx"
      refine ⟨D, _, rfl, SqL.of hacc, ?_⟩
      rw [sum_edgs edc ps]
      exact q _ (s1.trans S2)
/-! #### Polygon.inner_points -/
abbrev pInner (K : PySem.W.Frag) (C : Addr) : Prop := PropOf K C "inner_points" (He.ma K (He.ga K "Polygon") "inner_points") (He5.wf K (He.ga K "Polygon") "property" "inner_points")
/-- the numbers of inner points and of all points, by the formula -/
def inN (ps : List Pt) : Int := (are ps - brd ps + 2) / 2
def toN (ps : List Pt) : Int := inN ps + brd ps
def sp_Polygon_inner_points (K : PySem.W.Frag) : Sp := fun vs H Q _ => ∃ (v : V) (C : Addr) (ps : List Pt), vs = [v] ∧ PgAt K H v C ps ∧ pArea K C ∧ pBorder K C ∧ AllBd 40000 ps ∧ ps.length ≤ 1000 ∧ ∀ H', Same H H' → Q (.int (inN ps)) H'
theorem ok_Polygon_inner_points (T : Tx K mg) : FnOk P w K mg base CX0 5 (He5.wf K (He.ga K "Polygon") "property" "inner_points") (fdOf K (He5.wf K (He.ga K "Polygon") "property" "inner_points")) ["self"] (sp_Polygon_inner_points K) := by
  refine T.d_Polygon_inner_points.ok sc_Polygon_inner_points (fun vs H Q E h => ?_) (fun cdv A outer s H vs Q E hr h => ?_)
  · obtain ⟨v, C, ps, rfl, _⟩ := h
    rfl
  · obtain ⟨v, C, ps, rfl, hv, pa, pb, hb, hl, q⟩ := h
    obtain ⟨pc, x, dx, t, xs, rfl, hx, ht, hxs⟩ := id hv
    refine ⟨_, PSs.nox (pss_one (ps_ret (pe_op op_fdivW (pe_op op_add (pe_op op_sub (pe_propG (K := K) (p := He.ma K (He.ga K "Polygon") "double_area") (g := He5.wf K (He.ga K "Polygon") "property" "double_area") (pv 0) (ok_Polygon_double_area (K := K) T) (hr.mono (by decide)) (bn_Polygon_double_area T) .nil pass0) (pe_propG (K := K) (p := He.ma K (He.ga K "Polygon") "border_points") (g := He5.wf K (He.ga K "Polygon") "property" "border_points") (pv 0) (ok_Polygon_border_points (K := K) T) (hr.mono (by decide)) (bn_Polygon_border_points T) .nil pass0)) pe_int) pe_int))), ?_⟩
    walk_at "gx"
    refine ⟨_, x, dx, _, rfl, hx, pc.ins.cl, pa, ?_⟩
    refine ⟨_, C, ps, rfl, hv, hb, hl, fun H1 s1 => ?_⟩
    walk_at "gx"
    refine ⟨_, x, dx, _, rfl, s1 _ _ hx, pc.ins.cl, pb, ?_⟩
    refine ⟨_, C, ps, rfl, hv.same s1, hl, fun H2 s2 => ?_⟩
    walk_at "gx"
    refine r_I (wide_div (by decide) (b := 200) (by decide) (by decide) (by decide)) ?_
    exact q _ (s1.trans s2)
/-! #### Polygon.total_points -/
abbrev pTotal (K : PySem.W.Frag) (C : Addr) : Prop := PropOf K C "total_points" (He.ma K (He.ga K "Polygon") "total_points") (He5.wf K (He.ga K "Polygon") "property" "total_points")
def sp_Polygon_total_points (K : PySem.W.Frag) : Sp := fun vs H Q _ => ∃ (v : V) (C : Addr) (ps : List Pt), vs = [v] ∧ PgAt K H v C ps ∧ pArea K C ∧ pBorder K C ∧ pInner K C ∧ AllBd 40000 ps ∧ ps.length ≤ 1000 ∧ ∀ H', Same H H' → Q (.int (toN ps)) H'
theorem ok_Polygon_total_points (T : Tx K mg) : FnOk P w K mg base CX0 7 (He5.wf K (He.ga K "Polygon") "property" "total_points") (fdOf K (He5.wf K (He.ga K "Polygon") "property" "total_points")) ["self"] (sp_Polygon_total_points K) := by
  refine T.d_Polygon_total_points.ok sc_Polygon_total_points (fun vs H Q E h => ?_) (fun cdv A outer s H vs Q E hr h => ?_)
  · obtain ⟨v, C, ps, rfl, _⟩ := h
    rfl
  · obtain ⟨v, C, ps, rfl, hv, pa, pb, pi, hb, hl, q⟩ := h
    obtain ⟨pc, x, dx, t, xs, rfl, hx, ht, hxs⟩ := id hv
    refine ⟨_, PSs.nox (pss_one (ps_ret (pe_op op_add (pe_propG (K := K) (p := He.ma K (He.ga K "Polygon") "inner_points") (g := He5.wf K (He.ga K "Polygon") "property" "inner_points") (pv 0) (ok_Polygon_inner_points (K := K) T) (hr.mono (by decide)) (bn_Polygon_inner_points T) .nil pass0) (pe_propG (K := K) (p := He.ma K (He.ga K "Polygon") "border_points") (g := He5.wf K (He.ga K "Polygon") "property" "border_points") (pv 0) (ok_Polygon_border_points (K := K) T) (hr.mono (by decide)) (bn_Polygon_border_points T) .nil pass0)))), ?_⟩
    walk_at "gx"
    refine ⟨_, x, dx, _, rfl, hx, pc.ins.cl, pi, ?_⟩
    refine ⟨_, C, ps, rfl, hv, pa, pb, hb, hl, fun H1 s1 => ?_⟩
    walk_at "gx"
    refine ⟨_, x, dx, _, rfl, s1 _ _ hx, pc.ins.cl, pb, ?_⟩
    refine ⟨_, C, ps, rfl, hv.same s1, hl, fun H2 s2 => ?_⟩
    walk_at "gx"
    exact q _ (s1.trans s2)
/-! #### Polygon.locate -/
def rsum (p : Pt) (l : List Ed) : Int := (l.map fun e => rayG up p e.1 e.2).sum
theorem rsum_snoc (p : Pt) (l : List Ed) (e : Ed) : rsum p (l ++ [e]) = rsum p l + rayG up p e.1 e.2 := by unfold rsum; rw [List.map_append, List.sum_append]; simp
theorem odd_tog {n : Int} {b : Bool} : decide ((n + (if b = true then 1 else 0)) % 2 = 1) = (decide (n % 2 = 1) ^^ b) := by
  cases b with
  | false => simp
  | true =>
    rw [if_pos rfl, Bool.xor_true, ← decide_not, decide_eq_decide]; omega
theorem bd_zero {p : Pt} {ps : List Pt} {l : List Ed} (e : (l.map fun e => bdG p e.1 e.2).sum = areG (bdG p) ps) (h : ∀ e ∈ l, onS p e.1 e.2 = false) : ¬ 0 < areG (bdG p) ps := by
  rw [← e]
  have z : (l.map fun e => bdG p e.1 e.2).sum = 0 := by
    clear e
    induction l with
    | nil => rfl
    | cons a l ih =>
      rw [List.map_cons, List.sum_cons, ih fun e he => h e (List.mem_cons_of_mem _ he)]
      unfold bdG
      rw [h a List.mem_cons_self]; rfl
  rw [z]; decide
theorem loc_of {p : Pt} {ps : List Pt} {l : List Ed} (e1 : (l.map fun e => bdG p e.1 e.2).sum = areG (bdG p) ps) (e2 : rsum p l = areG (rayG up p) ps) (h : ∀ e ∈ l, onS p e.1 e.2 = false) : loc p ps = if rsum p l % 2 = 1 then "inside" else "outside" := by
  unfold loc
  rw [if_neg (bd_zero e1 h), e2]
  split <;> rfl
def sp_Polygon_locate (K : PySem.W.Frag) : Sp := fun vs H Q E => ∃ (v u : V) (C : Addr) (ps : List Pt), vs = [v, u] ∧ PgAt K H v C ps ∧ AllBd 40000 ps ∧ ps.length ≤ 1000 ∧ ((PtB K H u false ∧ ∀ H', Same H H' → E (.ref (He.ga K "InvalidPoint")) none H') ∨
  ∃ p : Pt, Hd K H u p ∧ PBd 40000 p ∧ ∀ H', Same H H' → Q (.str (loc p ps)) H')
theorem ok_Polygon_locate (T : Tx K mg) : FnOk P w K mg base (L2.CX P w) 4 (He.ma K (He.ga K "Polygon") "locate") (fdOf K (He.ma K (He.ga K "Polygon") "locate")) ["self", "point"] (sp_Polygon_locate K) := by
  refine T.d_Polygon_locate.ok sc_Polygon_locate (fun vs H Q E h => ?_) (fun cdv A outer s H vs Q E hr h => ?_)
  · obtain ⟨v, u, C, ps, rfl, _⟩ := h
    rfl
  · obtain ⟨v, u, C, ps, rfl, hp0, hb, hl, h⟩ := h
    refine ⟨_, (pss_cons (ps_expr (pe_call (ok_check_point (K := K) T) (hr.mono (by decide)) rfl T.g_check_point T.d_check_point.kp (bn_check_point T) .nil (passes_call (takes_of rfl rfl rfl rfl) (fun _ _ _ _ h => h)) (pa_cons (pv 1) pa_nil)))
      (pss_cons (ps_set (i := 2) sc_Polygon_locate.nd rfl (Or.inl rfl) pe_bl)
      (pss_cons (ps_for (passes_of rfl) rfl (kpiL (K := K) (pe_call (ok_edges_of (K := K) T) (hr.mono (by decide)) rfl T.g_edges_of T.d_edges_of.kp (bn_edges_of T) .nil pass0 (pa_cons (kFld (K := K) (pe_fld (pv 0) rfl)) pa_nil))) (kpgTup (K := K) (n := 2) rfl (pgs_cons (pg_name (i := 3) sc_Polygon_locate.nd rfl (Or.inl rfl)) (pgs_cons (pg_name (i := 4) sc_Polygon_locate.nd rfl (Or.inl rfl)) pgs_nil)))
      (pss_cons (ps_if (pt_val (pe_call (ok_is_on (K := K) T) (hr.mono (by decide)) rfl T.g_is_on T.d_is_on.kp (bn_is_on T) .nil pass0 (pa_cons (pv 1) (pa_cons (pv 3) (pa_cons (pv 4) pa_nil))))) (pss_one (ps_ret pe_str)) pss_nil)
      (pss_one (ps_if (pt_cmpR op_ne (pe_cmpR op_gt (pe_ix (kIxT (K := K)) (pv 3) pe_int (fun _ _ => rfl)) (pe_ix (kIxT (K := K)) (pv 1) pe_int (fun _ _ => rfl)) (nomark _)) (pe_cmpR op_gt (pe_ix (kIxT (K := K)) (pv 4) pe_int (fun _ _ => rfl)) (pe_ix (kIxT (K := K)) (pv 1) pe_int (fun _ _ => rfl)) (nomark _)) (nomark _)) (pss_cons (ps_set (i := 5) sc_Polygon_locate.nd rfl (Or.inl rfl) (pe_call (ok_turn_of (K := K) T) (hr.mono (by decide)) rfl T.g_turn_of T.d_turn_of.kp (bn_turn_of T) .nil pass0 (pa_cons (pv 3) (pa_cons (pv 4) (pa_cons (pv 1) pa_nil)))))
      (pss_one (ps_if (pt_cmpR op_eq (pe_cmpR op_gt (pv 5) pe_int (nomark _)) (pe_cmpR op_gt (pe_ix (kIxT (K := K)) (pv 4) pe_int (fun _ _ => rfl)) (pe_ix (kIxT (K := K)) (pv 3) pe_int (fun _ _ => rfl)) (nomark _)) (nomark _)) (pss_one (ps_set (i := 2) sc_Polygon_locate.nd rfl (Or.inl rfl) (pe_not (pv 2)))) pss_nil))) pss_nil))))
      (pss_one (ps_ret (pe_ifExp (pt_val (pv 2)) pe_str pe_str)))))), ?_⟩
    walk_at "gx"
    rcases h with ⟨hbad, q⟩ | ⟨p, hu, bp, q⟩
    · exact ⟨u, _, rfl, hbad, (fun z => nomatch z), fun _ H' s => q H' s⟩
    refine ⟨u, _, rfl, .yes p hu, fun _ H1 s1 => ?_, fun z => nomatch z⟩
    have hp1 := hp0.same s1
    have hu1 := hu.same s1
    obtain ⟨pc, x, dx, t, xs, rfl, hx, ht, hxs⟩ := id hp1
    walk_at "gx"
    refine r_fldAt hx pc.ins.cl pc.nk rfl ?_
    walk_at "gx"
    refine ⟨_, ps, rfl, ⟨t, xs, rfl, .inr ht, hxs⟩, by omega, fun l ws H2 s2 hl2 hw => ?_⟩
    have hlw := hw.length
    have hle := edgs_len ps
    walk_at "gx"
    refine loopL (xs := ws) (fun i σ' H' => Same H2 H' ∧ (∀ e ∈ (edgs ps).take i, onS p e.1 e.2 = false) ∧ ∃ o3 o4 o5, σ' = [some (.ref x), some u, some (.bl (decide (rsum p ((edgs ps).take i) % 2 = 1))), o3, o4, o5]) ⟨Same.refl _, (fun e he => nomatch he), _, _, _, rfl⟩ (fun i σ' H' _ z => SqL.of (z.1 _ _ hl2)) ?_ ?_
    · rintro i z σ' H3 hz ⟨S3, hoff, o3, o4, o5, rfl⟩
      obtain ⟨e, he, hv⟩ := (hw.same S3).at' hz
      obtain ⟨b, va, vb, rfl, tb, ha, hb'⟩ := hv.pair_of
      have hmem := List.mem_of_getElem? he
      obtain ⟨m1, m2⟩ := edgs_mem hmem
      have et : (edgs ps).take (i + 1) = (edgs ps).take i ++ [e] := by rw [List.take_succ, he]; rfl
      have key : decide (rsum p ((edgs ps).take (i + 1)) % 2 = 1) = (decide (rsum p ((edgs ps).take i) % 2 = 1) ^^ cr up (dif e.1 p) (dif e.2 p)) := by rw [et, rsum_snoc]; exact odd_tog
      have b1 := hb _ m1
      have b2 := hb _ m2
      have hu3 := (hu1.same s2).same S3
      walk_at "gx"
      refine ⟨u, va, vb, p, e.1, e.2, rfl, hu3, ha, hb', bp.mono (by decide), b1.mono (by decide), b2.mono (by decide), fun H4 s4 => ?_⟩
      refine ⟨_, rfl, r_b (fun ho => ?_) (fun ho => ?_)⟩
      · walk_at "gx"
        have el : loc p ps = "border" := by unfold loc; rw [if_pos (bd_some hmem ho)]
        have := q H4 ((s1.trans s2).trans (S3.trans s4))
        rw [el] at this
        exact this
      have hoff' : ∀ e' ∈ (edgs ps).take (i + 1), onS p e'.1 e'.2 = false := fun e' he' => by
        rw [et] at he'
        rcases List.mem_append.mp he' with z | z
        · exact hoff e' z
        · obtain rfl := List.mem_singleton.mp z
          exact ho
      have tg := tog_eq ho
      have hu4 := hu3.same s4
      have ha4 := ha.same s4
      have hb4 := hb'.same s4
      obtain ⟨a1, rfl, h1⟩ := id ha4.pt_of
      obtain ⟨a2, rfl, h2⟩ := id hb4.pt_of
      obtain ⟨a3, rfl, h3⟩ := id hu4.pt_of
      walk_at "gx"
      refine r_ndec (fun hne => ?_) (fun heq => ?_)
      · walk_at "gx"
        refine ⟨_, _, _, e.1, e.2, p, rfl, ha4, hb4, hu4, b1.mono (by decide), b2.mono (by decide), bp.mono (by decide), fun H5 s5 => ?_⟩
        have h15 := sqT_same s5 h1
        have h25 := sqT_same s5 h2
        walk_at "gx"
        refine r_dec (fun he2 => ?_) (fun he2 => ?_)
        · walk_at "gx"
          have hcr : cr up (dif e.1 p) (dif e.2 p) = true := by
            rw [← tg]
            have n1 : decide (p.2 < e.1.2) ≠ decide (p.2 < e.2.2) := fun z => hne (by rw [z])
            have n2 : decide (0 < trn e.1 e.2 p) = decide (e.1.2 < e.2.2) := V.bl.inj he2
            rw [n2]
            generalize decide (p.2 < e.1.2) = c1 at n1 ⊢
            generalize decide (p.2 < e.2.2) = c2 at n1 ⊢
            cases c1 <;> cases c2 <;> simp_all
          rw [hcr, Bool.xor_true] at key
          rw [key]
          exact ⟨(S3.trans s4).trans s5, hoff', _, _, _, rfl⟩
        · walk_at "gx"
          have hcr : cr up (dif e.1 p) (dif e.2 p) = false := by
            rw [← tg]
            have n2 : decide (0 < trn e.1 e.2 p) ≠ decide (e.1.2 < e.2.2) := fun z => he2 (by rw [z])
            generalize decide (0 < trn e.1 e.2 p) = c1 at n2 ⊢
            generalize decide (e.1.2 < e.2.2) = c2 at n2 ⊢
            cases c1 <;> cases c2 <;> simp_all
          rw [hcr, Bool.xor_false] at key
          rw [key]
          exact ⟨(S3.trans s4).trans s5, hoff', _, _, _, rfl⟩
      · walk_at "gx"
        have hcr : cr up (dif e.1 p) (dif e.2 p) = false := by
          rw [← tg, V.bl.inj heq]; simp
        rw [hcr, Bool.xor_false] at key
        rw [key]
        exact ⟨S3.trans s4, hoff', _, _, _, rfl⟩
    · rintro σ' H3 ⟨S3, hoff, o3, o4, o5, rfl⟩
      rw [List.take_of_length_le (show (edgs ps).length ≤ ws.length by omega)] at hoff ⊢
      have el := loc_of (sum_edgs (bdG p) ps) (sum_edgs (rayG up p) ps) hoff
      have qq := q H3 ((s1.trans s2).trans S3)
      walk_at "gx"
      refine r_dec (fun h1 => ?_) (fun h1 => ?_)
      · rw [el, if_pos h1] at qq
        exact qq
      · rw [el, if_neg h1] at qq
        exact qq
/-! #### _law_draws -/
def sp_law_draws (K : PySem.W.Frag) : Sp := fun vs H Q _ => ∃ (a : Addr) (ns : List Int) (k : Int), vs = [.ref a, .int k] ∧ SqL K H a (ns.map V.int) ∧ ns.length ≤ 63 ∧ 0 ≤ k ∧ k < 2 ^ 40 ∧ ∀ p H', H p = none → Same H H' → DrAt H' p → Q (.ref p) H'
theorem ok_law_draws (T : Tx K mg) : FnOk P w K mg base CX0 1 (He.ga K "_law_draws") (fdOf K (He.ga K "_law_draws")) ["_law_script", "_law_k"] (sp_law_draws K) := by
  refine T.d_law_draws.ok sc_law_draws (fun vs H Q E h => ?_) (fun cdv A outer s H vs Q E hr h => ?_)
  · obtain ⟨a, ns, k, rfl, _⟩ := h
    rfl
  · obtain ⟨a, ns, k, rfl, hS, hlen, hk0, hk1, q⟩ := h
    refine ⟨_, PSs.nox (pss_cons (ps_set (i := 2) sc_law_draws.nd rfl (Or.inl rfl) pe_int)
      (Evl.pss_cut (ps_if (pt_cmpR (kNeD (K := K) hr.units) (pv 0) (pe_lst pa_nil) (nomark _)) (pss_one (ps_set (i := 2) sc_law_draws.nd rfl (Or.inl rfl) (pe_ix (kIxL (K := K)) (pv 0) (pe_op op_mod (pv 1) (pe_callB (kLen (K := K)) (by rfl) T.n_len (by decide +kernel) (pa_cons (pv 0) pa_nil))) (fun _ _ => rfl)))) pss_nil)
      (Evl.pss_cut (ps_if (pt_cmpR op_ge (pv 1) (pe_callB (kLen (K := K)) (by rfl) T.n_len (by decide +kernel) (pa_cons (pv 0) pa_nil)) (nomark _)) (pss_one (ps_set (i := 2) sc_law_draws.nd rfl (Or.inl rfl) (pe_op op_mod (pv 2) pe_int))) pss_nil)
      (pss_cons (ps_set (i := 3) sc_law_draws.nd rfl (Or.inl rfl) (pe_op op_mod (pe_op op_mulA (pe_op op_add (pe_op op_add (pe_op op_mod (pv 2) pe_int) (pe_op op_mulA pe_int (pv 1))) pe_int) pe_int) pe_int))
      (pss_one (ps_ret (pe_lst (pa_cons (pe_op op_mulA (pv 2) (pe_callTy cInt1 (by rfl) T.n_int (by decide +kernel) (pa_cons (pe_cmpR op_ge (pv 2) (pe_op op_pow pe_int pe_int) (nomark _)) pa_nil))) (pa_cons (pv 3) pa_nil))))))))), ?_⟩
    walk_at "gx"
    refine r_cut (fun σ' H' => Same H H' ∧ ∃ c, σ' = [some (.ref a), some (.int k), some (.int c), none]) ?_ ?_
    · walk_at "gx"
      refine r_new fun p0 hp0 => ?_
      have s0 : Same H (upd H p0 (.lst [])) := same_new (Same.refl H) hp0
      have hS0 := s0.seq hS
      refine r_neH (α := List Int) (hd_list hS0 (hds_ints ns)) (hd_list (SqL.of upd_same) hds_nil) ?_
      walk_at "gx"
      refine r_ndec (fun h => ?_) (fun h => ?_)
      · walk_at "gx"
        refine r_lenL hS0 ?_
        have hpos : 0 < ns.length := List.length_pos_iff.mpr h
        rw [List.length_map]
        walk_at "gx"
        refine r_I (by show (0 : Int) < (ns.length : Int); omega) ?_
        have h1 := Int.emod_nonneg k (b := (ns.length : Int)) (by omega)
        have h2 := Int.emod_lt_of_pos k (b := (ns.length : Int)) (by omega)
        obtain ⟨j, hj⟩ : ∃ j : Nat, k % (ns.length : Int) = (j : Int) := ⟨(k % (ns.length : Int)).toNat, by omega⟩
        rw [hj] at h1 h2 ⊢
        have hj' : j < ns.length := by omega
        refine r_ixL hS0 (at_of (j := j) rfl (by rw [List.getElem?_map, List.getElem?_eq_getElem hj']; rfl)) ?_
        walk_at "gx"
        exact ⟨s0, _, rfl⟩
      · walk_at "gx"
        exact ⟨s0, _, rfl⟩
    · rintro σ' H1 ⟨s1, c, rfl⟩
      refine r_cut (fun σ' H' => H1 = H' ∧ ∃ c, σ' = [some (.ref a), some (.int k), some (.int c), none]) ?_ ?_
      · walk_at "gx"
        refine r_lenL (s1.seq hS) ?_
        walk_at "gx"
        refine r_dec (fun h => ?_) (fun h => ?_)
        · walk_at "gx"
          refine r_I (by decide) ?_
          walk_at "gx"
          exact ⟨rfl, _, rfl⟩
        · walk_at "gx"
          exact ⟨rfl, _, rfl⟩
      · rintro σ' H' ⟨rfl, c, rfl⟩
        walk_at "gx"
        refine r_I (by decide) ?_
        walk_at "gx"
        refine r_I (mul_okL (by decide) (by decide)) ?_
        walk_at "gx"
        refine r_I (mul_okR (by decide) (by decide)) ?_
        walk_at "gx"
        refine r_I (by decide) ?_
        walk_at "gx"
        refine r_I ⟨by decide, by decide, by decide⟩ ?_
        walk_at "gx"
        refine r_I (mul_okR (by split <;> decide) (by split <;> decide)) ?_
        walk_at "gx"
        refine r_new fun p hp => ?_
        refine q p _ (s1.free hp) (same_new s1 hp) ⟨_, _, upd_same, ?_, Int.emod_nonneg _ (by decide), Int.emod_lt_of_pos _ (by decide)⟩
        split
        · rename_i hc
          have hc := of_decide_eq_true hc
          rw [Int.mul_one]
          exact Int.le_trans (by decide) hc
        · rw [Int.mul_zero]; decide
/-! #### _law_draw -/
def sp_law_draw : Sp := fun vs H Q _ => ∃ (l : Addr) (n : Int), vs = [.ref l, .int n] ∧ DrAt H l ∧ 0 < n ∧ n < 2 ^ 200 ∧ ∀ d H', 0 ≤ d → d < n → Kp l H H' → DrAt H' l → Q (.int d) H'
theorem ok_law_draw (T : Tx K mg) : FnOk P w K mg base CX0 1 (He.ga K "_law_draw") (fdOf K (He.ga K "_law_draw")) ["_law_draws_here", "_law_upto"] (sp_law_draw) := by
  refine T.d_law_draw.ok sc_law_draw (fun vs H Q E h => ?_) (fun cdv A outer s H vs Q E hr h => ?_)
  · obtain ⟨l, n, rfl, _⟩ := h
    rfl
  · obtain ⟨l, n, rfl, ⟨a, b, hl, ha, hb, hb2⟩, hn, hn2, k⟩ := h
    refine ⟨_, PSs.nox (pss_cons (ps_if (pt_cmpR op_gt (pe_ix (kIxL (K := K)) (pv 0) pe_int (fun _ _ => rfl)) pe_int (nomark _)) (pss_cons (ps_set (i := 2) sc_law_draw.nd rfl (Or.inl rfl) (pe_op op_mod (pe_ix (kIxL (K := K)) (pv 0) pe_int (fun _ _ => rfl)) (pv 1)))
      (pss_cons (ps_asg (pe_op op_fdivW (pe_ix (kIxL (K := K)) (pv 0) pe_int (fun _ _ => rfl)) (pv 1)) (pg_sub (pv 0) pe_int set_list))
      (pss_one (ps_ret (pv 2))))) pss_nil)
      (pss_cons (ps_asg (pe_op op_mod (pe_op op_add (pe_op op_mulA (pe_ix (kIxL (K := K)) (pv 0) pe_int (fun _ _ => rfl)) pe_int) pe_int) pe_int) (pg_sub (pv 0) pe_int set_list))
      (pss_one (ps_ret (pe_op op_mod (pe_op op_fdivW (pe_op op_mod (pe_op op_mulA (pe_ix (kIxL (K := K)) (pv 0) pe_int (fun _ _ => rfl)) (pe_ix (kIxL (K := K)) (pv 0) pe_int (fun _ _ => rfl))) pe_int) pe_int) (pv 1)))))), ?_⟩
    walk_at "gx"
    refine r_dec (fun ha0 => ?_) (fun ha0 => ?_)
    · walk_at "gx"
      refine r_I hn ?_
      walk_at "gx"
      refine r_I (wide_div hn (b := 200) (by omega) (by decide) (by decide)) ?_
      walk_at "gx"
      refine r_setL hl rfl ?_
      walk_at "gx"
      refine k _ _ (Int.emod_nonneg _ (by omega)) (Int.emod_lt_of_pos _ hn) (Kp.refl l H).put ⟨_, _, upd_same, Int.ediv_nonneg ha (by omega), hb, hb2⟩
    · walk_at "gx"
      refine r_I (mul_okL (by omega) (by omega)) ?_
      walk_at "gx"
      refine r_I (by decide) ?_
      walk_at "gx"
      refine r_setL hl rfl ?_
      have h1 := Int.emod_nonneg (b * 48271 + 11) (b := 2147483647) (by decide)
      have h2 := Int.emod_lt_of_pos (b * 48271 + 11) (b := 2147483647) (by decide)
      generalize (b * 48271 + 11) % 2147483647 = c at h1 h2 ⊢
      have hl2 : upd H l (.lst [.int a, .int c]) l = some (.lst [.int a, .int c]) := upd_same
      walk_at "gx"
      refine r_I (mul_okL (by omega) (by omega)) ?_
      walk_at "gx"
      refine r_I (by decide) ?_
      walk_at "gx"
      refine r_I (wide_div (by decide) (b := 200) (by decide) (by decide) (by decide)) ?_
      walk_at "gx"
      refine r_I hn ?_
      refine k _ _ (Int.emod_nonneg _ (by omega)) (Int.emod_lt_of_pos _ hn) (Kp.refl l H).put ⟨_, _, hl2, ha, h1, h2⟩
/-- v1: the draws -/
theorem dr_of {l : Option Addr} {N : Addr → Prop} {H : Hp} {v : V} (h : RepA K l N H v .dr) : ∃ a, v = .ref a ∧ l = some a := by
  cases h with
  | dr e => exact ⟨_, rfl, e⟩
  | dat r => cases r
theorem repA_int {l : Option Addr} {N : Addr → Prop} {H : Hp} {v : V} {i : Int} (h : RepA K l N H v (.int i)) : v = .int i := by
  cases h with | dat r => cases r; rfl
theorem repA_dat {l : Option Addr} {N : Addr → Prop} {H : Hp} {v : V} {d : Da} (h : RepA K l N H v d) (e : d.dr? = false) : Rep K N H v d := by
  cases h with
  | dat r => exact r
  | dr => cases e
def ds_law_draw : FD := fun args R => ∃ n : Int, args = [.dr, .int n] ∧ 0 < n ∧ n < 2 ^ 200 ∧ ∀ d : Int, 0 ≤ d → d < n → R (.int d)
instance br_law_draw : Br K sp_law_draw ds_law_draw := ⟨by
  rintro vs H Q E ⟨l, N, args, R, hl, hd, ra, ⟨n, rfl, h0, h1, h2⟩, q⟩
  cases ra with
  | cons a1 ra =>
    cases ra with
    | cons a2 ra =>
      cases ra
      obtain ⟨a, rfl, rfl⟩ := dr_of a1
      cases repA_int a2
      exact ⟨a, n, rfl, (hd a rfl).2, h0, h1, fun d H' d0 d1 k D' => q _ _ _ (h2 d d0 d1) (.of_kp k D') (.int _)⟩⟩
def undr : Option Da → Option Da
  | some .dr => none
  | o => o
def dDraws (i : Nat) (dta : DA) : DS := fun D env => dta env fun args => ∃ (ns : List Int) (k : Int), args = [.scr ns, .int k] ∧ ns.length ≤ 63 ∧ 0 ≤ k ∧ k < 2 ^ 40 ∧ D.nx ((env.map undr).set i (some .dr))
theorem dw_draws {i : Nat} {dta : DA} {D : DEnds} {env : Env} (q : dta env fun args => ∃ (ns : List Int) (k : Int), args = [.scr ns, .int k] ∧ ns.length ≤ 63 ∧ 0 ≤ k ∧ k < 2 ^ 40 ∧ D.nx ((env.map undr).set i (some .dr))) : dDraws i dta D env := q
theorem lks_draws {i : Nat} {t : TA} {dta : DA} {E : XK} (ht : LkA K t dta) : LkS K (tAsg (tCall (sp_law_draws K) [] E t) (gName i)) (dDraws i dta) := by
  intro l0 l H0 H N0 N σ env k Dd De e h
  refine ht k h fun ds vs H1 hd m1 r1 => ?_
  obtain ⟨ns, kk, rfl, b1, b2, b3, q⟩ := hd
  obtain ⟨v, w, rfl, ra, rb⟩ := rts2 r1
  rw [rb.int_eq]
  obtain ⟨a, rfl, hs⟩ := intsV ra rfl
  have k1 := k.mv m1
  refine ⟨a, ns, kk, rfl, hs, b1, b2, b3, fun p H2 hp s2 D2 => ?_⟩
  show De.nx (σ.set i (some (.ref p))) H2
  obtain ⟨x, y, ep, _⟩ := id D2
  have lt : Later N H1 (With N p) H2 := ⟨fun b o _ z => s2 b o z, fun c z => z.imp id fun y => by rw [y]; exact hp⟩
  have h0 : H0 p = none := by
    cases e : H0 p with
    | none => rfl
    | some o =>
      by_cases z : some p = l0
      · obtain ⟨x, y, q, _⟩ := (k1.d0 p z.symm).2
        rw [hp] at q; cases q
      · have := k1.kp p o z e
        rw [hp] at this; cases this
  refine e.nx (l' := some p) (N' := With N p) ⟨fun c z => ?_, fun c z => ?_, fun c z => ?_, fun b o n z => s2 b o (k1.kp b o n z), fun c z => ⟨(k1.d0 c z).1, (k1.d0 c z).2.same s2⟩, fun b z => .inl (k1.n0 b z), k1.ls0, .inr fun c z => ?_, ?_, fun j d z => ?_, fun j j' xs ys c n z1 z2 z3 => ?_⟩ ((k.later m1).trans lt) q
  · rcases z with z | rfl
    · obtain ⟨xs, e⟩ := k1.ls c z
      exact ⟨xs, s2 _ _ e⟩
    · exact ⟨_, ep⟩
  · cases z; exact .inr rfl
  · cases z; exact D2
  · cases z; exact h0
  · rw [List.length_set, List.length_set, List.length_map]; exact k1.len
  · rw [List.getElem?_set] at z ⊢
    by_cases y : i = j
    · subst y
      rw [if_pos rfl] at z ⊢
      split at z
      · rename_i hi
        cases z
        rw [List.length_map] at hi
        rw [if_pos (by rw [k1.len]; exact hi)]
        exact ⟨_, rfl, .dr rfl⟩
      · cases z
    · rw [if_neg y] at z ⊢
      rw [List.getElem?_map] at z
      cases ee : env[j]? with
      | none => rw [ee] at z; cases z
      | some o =>
        rw [ee] at z
        have z : undr o = some d := Option.some.inj z
        have eo : o = some d ∧ d ≠ .dr := by
          cases o with
          | none => cases z
          | some d' => cases d' <;> first | (cases z; exact ⟨rfl, fun q => nomatch q⟩) | (cases z; done)
        rw [eo.1] at ee
        obtain ⟨u, e1, e2⟩ := k1.rd j d ee
        refine ⟨u, e1, ?_⟩
        cases e2 with
        | dat r => exact .dat (lt.rep k1.ls r)
        | @own c vs' xs' a1 a2 a3 a4 r => exact .own (.inl a1) a2 (fun q => by cases q; rw [hp] at a4; cases a4) (s2 _ _ a4) (lt.reps k1.ls r)
        | dr => exact absurd rfl eo.2
  · have key : ∀ {j : Nat} {xs : List Da}, ((env.map undr).set i (some .dr))[j]? = some (some (.own xs)) → i ≠ j ∧ env[j]? = some (some (.own xs)) := fun {j xs} h => by
      rw [List.getElem?_set] at h
      by_cases y : i = j
      · rw [if_pos y] at h; split at h <;> cases h
      · rw [if_neg y, List.getElem?_map] at h
        refine ⟨y, ?_⟩
        cases ee : env[j]? with
        | none => rw [ee] at h; cases h
        | some o =>
          rw [ee] at h
          have z : undr o = some (.own xs) := Option.some.inj h
          cases o with
          | none => cases z
          | some d' => cases d' <;> first | (cases z; rfl) | (cases z; done)
    obtain ⟨n1, g1⟩ := key z1
    obtain ⟨n2, g2⟩ := key z2
    rw [List.getElem?_set, if_neg n1] at z3
    rw [List.getElem?_set, if_neg n2]
    exact k1.dst j j' xs ys c n g1 g2 z3
instance (priority := high + 1) {i : Nat} {t : TA} {dta : DA} {E : XK} [a : CA K t dta] : CS K (tAsg (tCall (sp_law_draws K) [] E t) (gName i)) (dDraws i dta) := ⟨lks_draws a.h⟩
/-! points, polygons and maps as data -/
theorem hd_rep {N : Addr → Prop} {H : Hp} {v : V} {p : Pt} (r : Rep K N H v (pt p)) : Hd K H v p := by
  cases r with
  | tup e r =>
    cases r with
    | cons h1 r =>
      cases r with
      | cons h2 r =>
        cases r; cases h1; cases h2
        exact hd_pair e hd_int hd_int
theorem rep_hd {N : Addr → Prop} {H : Hp} {v : V} {p : Pt} (h : Hd K H v p) : Rep K N H v (pt p) := by
  obtain ⟨a, rfl, e⟩ := h.pt_of
  exact .tup e (.cons (.int _) (.cons (.int _) .nil))
theorem hds_reps {N : Addr → Prop} {H : Hp} : ∀ {vs : List V} {ps : List Pt}, Reps K N H vs (ps.map pt) → Hds K H vs ps
  | _, [], r => by cases r; exact .nil
  | _, p :: ps, r => by
    cases r with | cons h r => exact .cons (hd_rep h) (hds_reps r)
theorem reps_hds {N : Addr → Prop} {H : Hp} : ∀ {vs : List V} {ps : List Pt}, Hds K H vs ps → Reps K N H vs (ps.map pt)
  | _, [], r => by cases r; exact .nil
  | _, p :: ps, r => by
    cases r with | cons h r => exact .cons (rep_hd h) (reps_hds (ps := ps) r)
def posD : Option Nat → Da
  | none => .non
  | some i => .int (i : Int)
/-- a polygon of the class C -/
def pgD (C : Addr) (ps : List Pt) : Da := .obj C [("kept", .tup (ps.map pt)), ("reflex", posD (reflex ps))]
theorem pg_rep {N : Addr → Prop} {H : Hp} {v : V} {C : Addr} {ps : List Pt} (c : PgC K C) (r : Rep K N H v (pgD C ps)) : PgAt K H v C ps := by
  cases r with
  | obj e r =>
    cases r with
    | cons h1 r =>
      cases r with
      | cons h2 r =>
        cases r
        cases h1 with
        | tup et rt =>
          have e2 : ∀ {u : V}, Rep K N H u (posD (reflex ps)) → u = posV (reflex ps) := fun {u} z => by
            cases q : reflex ps with
            | none => rw [q] at z; cases z; rfl
            | some i => rw [q] at z; cases z; rfl
          rw [e2 h2] at e
          exact ⟨c, _, _, _, _, rfl, e, et, hds_reps rt⟩
theorem rep_pg {N : Addr → Prop} {H : Hp} {v : V} {C : Addr} {ps : List Pt} (h : PgAt K H v C ps) : Rep K N H v (pgD C ps) := by
  obtain ⟨c, x, dx, t, xs, rfl, hx, ht, hxs⟩ := h
  refine .obj hx (.cons (.tup ht (reps_hds hxs)) (.cons ?_ .nil))
  cases reflex ps with
  | none => exact .non
  | some i => exact .int _
theorem cin_of {l : Option Addr} {N : Addr → Prop} {H : Hp} {v : V} {x : Da} {ps : List Pt} (r : RepA K l N H v x) (e : x.its = some (ps.map pt)) (h3 : 3 ≤ ps.length) (h60 : ps.length ≤ 60) : CIn K H v (.pts ps) := by
  cases r with
  | dr => cases e
  | dat r =>
    obtain ⟨a, vs, rfl, hs, q⟩ := (RepT.dat (H0 := H) (l := l) r).itsV e
    exact .pts (hs.imp id id) (hds_reps q) h3 h60
def ds_mkPoly (K : PySem.W.Frag) (C : Addr) : FD := fun args R => ∃ (x : Da) (ps : List Pt), args = [x] ∧ x.its = some (ps.map pt) ∧ PgC K C ∧ 3 ≤ ps.length ∧ ps.length ≤ 60 ∧ Good ps ∧ AllBd 40000 ps ∧ R (pgD C (arr ps))
instance brm_Polygon {C : Addr} : BrM K C (sp_Polygon_init K) (ds_mkPoly K C) := ⟨by
  rintro l N H vs args R Q E hl hd ra ⟨x, ps, rfl, e, pc, h3, h60, hg, hb, hr⟩ q
  cases ra with
  | cons a1 ra =>
    cases ra
    refine mk_poly (R := fun x H2 => Q (.ref x) H2) pc (cin_of a1 e h3 h60) (errW_good hg hb) fun ps' e' _ x H' s hp => ?_
    cases e'
    exact q _ _ _ hr (.of_same s) (rep_pg hp)⟩
theorem args1V {l : Option Addr} {N : Addr → Prop} {H : Hp} {vs : List V} {x : Da} (r : RepAs K l N H vs [x]) : ∃ v, vs = [v] ∧ RepA K l N H v x := by
  cases r with | cons h r => cases r; exact ⟨_, rfl, h⟩
theorem args2V {l : Option Addr} {N : Addr → Prop} {H : Hp} {vs : List V} {x y : Da} (r : RepAs K l N H vs [x, y]) : ∃ v w, vs = [v, w] ∧ RepA K l N H v x ∧ RepA K l N H w y := by
  cases r with | cons h r => cases r with | cons h' r => cases r; exact ⟨_, _, rfl, h, h'⟩
theorem args3V {l : Option Addr} {N : Addr → Prop} {H : Hp} {vs : List V} {x y z : Da} (r : RepAs K l N H vs [x, y, z]) : ∃ v w u, vs = [v, w, u] ∧ RepA K l N H v x ∧ RepA K l N H w y ∧ RepA K l N H u z := by
  cases r with | cons h r => cases r with | cons h' r => cases r with | cons h'' r => cases r; exact ⟨_, _, _, rfl, h, h', h''⟩
def ds_corners (K : PySem.W.Frag) : FD := fun args R => ∃ (C : Addr) (ps : List Pt), args = [pgD C ps] ∧ PgC K C ∧ R (.tup (ps.map pt))
instance br_corners : Br K (sp_Polygon_corners K) (ds_corners K) := ⟨by
  rintro vs H Q E ⟨l, N, args, R, hl, hd, ra, ⟨C, ps, rfl, pc, h⟩, q⟩
  obtain ⟨v, rfl, r1⟩ := args1V ra
  exact ⟨v, C, ps, rfl, pg_rep pc (repA_dat r1 rfl), fun t xs ht hxs => q _ _ _ h (.refl _ _) (.tup ht (reps_hds hxs))⟩⟩
/-! #### _law_turn -/
def sp_law_turn (K : PySem.W.Frag) : Sp := fun vs H Q _ => ∃ (u v w : V) (a b c : Pt), vs = [u, v, w] ∧ Hd K H u a ∧ Hd K H v b ∧ Hd K H w c ∧ PBd 90000 a ∧ PBd 90000 b ∧ PBd 90000 c ∧ Q (.int (trn a b c)) H
theorem ok_law_turn (T : Tx K mg) : FnOk P w K mg base CX0 1 (He.ga K "_law_turn") (fdOf K (He.ga K "_law_turn")) ["_law_first", "_law_second", "_law_third"] (sp_law_turn K) := by
  refine T.d_law_turn.ok sc_law_turn (fun vs H Q E h => ?_) (fun cdv A outer s H vs Q E hr h => ?_)
  · obtain ⟨u, v, w, a, b, c, rfl, _⟩ := h
    rfl
  · obtain ⟨u, v, w, a, b, c, rfl, ha, hb, hc, ba, bb, bc, q⟩ := h
    obtain ⟨a1, rfl, h1⟩ := ha.pt_of
    obtain ⟨a2, rfl, h2⟩ := hb.pt_of
    obtain ⟨a3, rfl, h3⟩ := hc.pt_of
    have d1 := bb.dif ba
    have d2 := bc.dif bb
    refine ⟨_, PSs.nox (pss_cons (ps_par (i := 3) (j := 4) (by rfl) sc_law_turn.nd rfl rfl (by decide) rfl rfl (pa_cons (pe_op op_sub (pe_ix (kIxT (K := K)) (pv 1) pe_int (fun _ _ => rfl)) (pe_ix (kIxT (K := K)) (pv 0) pe_int (fun _ _ => rfl))) (pa_cons (pe_op op_sub (pe_ix (kIxT (K := K)) (pv 1) pe_int (fun _ _ => rfl)) (pe_ix (kIxT (K := K)) (pv 0) pe_int (fun _ _ => rfl))) pa_nil)) (by rfl))
      (pss_one (ps_ret (pe_op op_sub (pe_op op_mulA (pv 3) (pe_op op_sub (pe_ix (kIxT (K := K)) (pv 2) pe_int (fun _ _ => rfl)) (pe_ix (kIxT (K := K)) (pv 1) pe_int (fun _ _ => rfl)))) (pe_op op_mulA (pv 4) (pe_op op_sub (pe_ix (kIxT (K := K)) (pv 2) pe_int (fun _ _ => rfl)) (pe_ix (kIxT (K := K)) (pv 1) pe_int (fun _ _ => rfl)))))))), ?_⟩
    walk_at "gx"
    refine r_I (d1.1.ok d2.2) ?_
    walk_at "gx"
    refine r_I (d1.2.ok d2.1) ?_
    walk_at "gx"
    exact q
/-! #### _law_cleaned -/
def flats (ps : List Pt) (n : Nat) : List Int := ((List.range n).filter fun i => decide (tri0 ps i = 0)).map fun (i : Nat) => (i : Int)
theorem flats_succ (ps : List Pt) (n : Nat) : flats ps (n + 1) = if tri0 ps n = 0 then flats ps n ++ [(n : Int)] else flats ps n := by
  unfold flats
  rw [List.range_succ, List.filter_append, List.map_append]
  by_cases h : tri0 ps n = 0
  · simp [h]
  · simp [h]
theorem flats_nil {ps : List Pt} {n : Nat} (h : flats ps n = []) : ∀ i, i < n → tri0 ps i ≠ 0 := by
  intro i hi z
  have hm : (i : Int) ∈ flats ps n := by
    unfold flats
    exact List.mem_map.mpr ⟨i, List.mem_filter.mpr ⟨List.mem_range.mpr hi, decide_eq_true z⟩, rfl⟩
  rw [h] at hm; cases hm
theorem flats_cons {ps : List Pt} {n : Nat} {z : Int} {r : List Int} (h : flats ps n = z :: r) : ∃ i : Nat, z = (i : Int) ∧ i < n ∧ tri0 ps i = 0 := by
  have hm : z ∈ flats ps n := by rw [h]; exact List.mem_cons_self
  obtain ⟨i, hi, rfl⟩ := List.mem_map.mp hm
  obtain ⟨h1, h2⟩ := List.mem_filter.mp hi
  exact ⟨i, rfl, List.mem_range.mp h1, of_decide_eq_true h2⟩
theorem flats_len (ps : List Pt) (n : Nat) : (flats ps n).length ≤ n := by
  unfold flats
  rw [List.length_map]
  exact Nat.le_trans (List.length_filter_le _ _) (by rw [List.length_range]; exact Nat.le_refl _)
theorem ML.three {L R : Pt} {B A : List Pt} (h : ML L R B A) : 3 ≤ (shp L R B A).length := by
  have := h.mono.hm
  have := h.mono.hn
  omega
def sp_law_cleaned (K : PySem.W.Frag) : Sp := fun vs H Q _ => ∃ (a : Addr) (xs : List V) (L R : Pt) (B A : List Pt), vs = [.ref a] ∧ H a = some (.lst xs) ∧ Hds K H xs (shp L R B A) ∧ ML L R B A ∧ AllBd 40000 (shp L R B A) ∧ (shp L R B A).length ≤ 1000 ∧
  ∀ (r : Addr) (ws : List V) (B' A' : List Pt) (H' : Hp), Same H H' → (r = a ∨ H r = none) → H' r = some (.lst ws) → Hds K H' ws (shp L R B' A') → ML L R B' A' → NoDeg (shp L R B' A') → (∀ p ∈ shp L R B' A', p ∈ shp L R B A) → (shp L R B' A').length ≤ (shp L R B A).length → Q (.ref r) H'
theorem ok_law_cleaned (T : Tx K mg) : FnOk P w K mg base CX0 2 (He.ga K "_law_cleaned") (fdOf K (He.ga K "_law_cleaned")) ["_law_corners"] (sp_law_cleaned K) := by
  refine T.d_law_cleaned.ok sc_law_cleaned (fun vs H Q E h => ?_) (fun cdv A outer s H vs Q E hr h => ?_)
  · obtain ⟨a, xs, L, R, B, A, rfl, _⟩ := h
    rfl
  · obtain ⟨a, xs, L, R, B, A, rfl, ha, hx, hM, hb, hl, q⟩ := h
    have hlx := hx.length
    refine ⟨_, PSs.nox (pss_cons (ps_for PassesOwn.never rfl (pi_range1 rfl T.n_range (pa_cons (pe_callB (kLen (K := K)) (by rfl) T.n_len (by decide +kernel) (pa_cons (pv 0) pa_nil)) pa_nil)) (pg_name (i := 1) sc_law_cleaned.nd rfl (Or.inl rfl))
      (pss_cons (ps_set (i := 2) sc_law_cleaned.nd rfl (Or.inl rfl) (pe_lst pa_nil))
      (pss_cons (ps_for PassesOwn.never rfl (pi_range1 rfl T.n_range (pa_cons (pe_callB (kLen (K := K)) (by rfl) T.n_len (by decide +kernel) (pa_cons (pv 0) pa_nil)) pa_nil)) (pg_name (i := 3) sc_law_cleaned.nd rfl (Or.inl rfl))
      (pss_one (ps_if (pt_cmpR op_eq (pe_call (ok_law_turn (K := K) T) (hr.mono (by decide)) rfl T.g_law_turn T.d_law_turn.kp (bn_law_turn T) .nil pass0 (pa_cons (pe_ix (kIxL (K := K)) (pv 0) (pe_op op_sub (pv 3) pe_int) (fun _ _ => rfl)) (pa_cons (pe_ix (kIxL (K := K)) (pv 0) (pv 3) (fun _ _ => rfl)) (pa_cons (pe_ix (kIxL (K := K)) (pv 0) (pe_op op_mod (pe_op op_add (pv 3) pe_int) (pe_callB (kLen (K := K)) (by rfl) T.n_len (by decide +kernel) (pa_cons (pv 0) pa_nil))) (fun _ _ => rfl)) pa_nil)))) pe_int (nomark _)) (pss_one (ps_expr (kBM (K := K) (pe_bm PySem.F.plainAttrs_list PySem.F.slot_list_append PySem.F.type_list_append mt_append (pv 2) (pa_cons (pv 3) pa_nil))))) pss_nil)))
      (pss_cons (ps_if (pt_cmpR (kEqD (K := K) hr.units) (pv 2) (pe_lst pa_nil) (nomark _)) (pss_one (ps_ret (pv 0))) pss_nil)
      (pss_one (ps_set (i := 0) sc_law_cleaned.nd rfl (Or.inl rfl) (pe_op op_cat (pe_slice (kSlL (K := K)) (pv 0) po_none (po_some (pe_ix (kIxL (K := K)) (pv 2) pe_int (fun _ _ => rfl)))) (pe_slice (kSlL (K := K)) (pv 0) (po_some (pe_op op_add (pe_ix (kIxL (K := K)) (pv 2) pe_int (fun _ _ => rfl)) pe_int)) po_none))))))))
      (pss_one (ps_ret (pv 0)))), ?_⟩
    walk_at "gx"
    refine r_lenL (SqL.of ha) ?_
    walk_at "gx"
    refine loopR1 (by omega) (fun i σ' H' => Same H H' ∧ ∃ (r : Addr) (ws : List V) (B' A' : List Pt) (o1 o2 o3 : Option V), σ' = [some (.ref r), o1, o2, o3] ∧ (r = a ∨ H r = none) ∧ H' r = some (.lst ws) ∧ Hds K H' ws (shp L R B' A') ∧ ML L R B' A' ∧ (∀ p ∈ shp L R B' A', p ∈ shp L R B A) ∧ (shp L R B' A').length + i = (shp L R B A).length) ⟨Same.refl _, a, xs, B, A, _, _, _, rfl, .inl rfl, ha, hx, hM, fun p hp => hp, rfl⟩ ?_ ?_
    · rintro i σ' H1 hi ⟨S1, r, ws, B', A', o1, o2, o3, rfl, hr, hw, hx', hM', hsub, hlen⟩
      have hb' : AllBd 90000 (shp L R B' A') := fun p hp => (hb p (hsub p hp)).mono (by decide)
      have hlw := hx'.length
      generalize hps : shp L R B' A' = ps at hx' hb' hlw hlen hsub
      have h3 : 3 ≤ ps.length := by rw [← hps]; exact hM'.three
      walk_at "g"
      refine r_new fun f hf => ?_
      generalize e2 : upd H1 f _ = H2
      obtain ⟨s2, g2⟩ := fresh hf e2
      have hrf : r ≠ f := fun z => by subst z; rw [hf] at hw; cases hw
      have hw2 := s2 _ _ hw
      walk_at "g"
      refine r_lenL (SqL.of hw2) ?_
      walk_at "g"
      refine loopR1 (by omega) (fun j σ' H' => Kp f H2 H' ∧ H' f = some (.lst ((flats ps j).map V.int)) ∧ ∃ o3, σ' = [some (.ref r), some (.int (i : Int)), some (.ref f), o3]) ⟨Kp.refl _ _, g2, _, rfl⟩ ?_ ?_
      · rintro j σ' H3 hj ⟨k3, g3, o3, rfl⟩
        have hj : j < ws.length := by omega
        have hw3 := k3 _ _ hrf hw2
        have hx3 := imms k3 ⟨_, g2⟩ (hx'.same s2)
        obtain ⟨u, eu, hu⟩ := hds_prv hx3 hj
        obtain ⟨w, ew, hw'⟩ := hds_nxt hx3 hj
        have hxj := List.getElem?_eq_getElem hj
        have hv := hds_at hx3 hxj
        walk_at "g"
        refine r_ixL (SqL.of hw3) eu ?_
        walk_at "g"
        refine r_ixL (SqL.of hw3) (atI_nat hxj) ?_
        walk_at "g"
        refine r_lenL (SqL.of hw3) ?_
        walk_at "g"
        refine r_I (by show (0 : Int) < (ws.length : Int); omega) ?_
        refine r_ixL (SqL.of hw3) ew ?_
        walk_at "g"
        refine ⟨u, _, w, _, _, _, rfl, hu, hv, hw', hb' _ (prv_mem (by omega)), hb' _ (atC_mem (by omega)), hb' _ (nxt_mem (by omega)), ?_⟩
        walk_at "g"
        have es := flats_succ ps j
        refine r_dec (fun e => ?_) (fun e => ?_)
        · rw [if_pos (show tri0 ps j = 0 from e)] at es
          walk_at "g"
          refine ⟨ty_lst g3, ?_⟩
          walk_at "g"
          refine r_app g3 (by rw [List.length_map]; have := flats_len ps j; omega) ?_
          refine ⟨k3.put, ?_, _, rfl⟩
          rw [upd_same, es, List.map_append]; rfl
        · rw [if_neg (show ¬ tri0 ps j = 0 from e)] at es
          walk_at "g"
          rw [← es] at g3
          exact ⟨k3, g3, _, rfl⟩
      · rintro σ' H3 ⟨k3, g3, o3, rfl⟩
        have ej : (ws.length : Int).toNat = ps.length := by omega
        rw [ej] at g3
        have S3 : Same H H3 := (S1.trans (same_kp s2 hf k3))
        have hw3 := k3 _ _ hrf hw2
        have hx3 := imms k3 ⟨_, g2⟩ (hx'.same s2)
        walk_at "g"
        refine r_new fun p hp => ?_
        generalize e4 : upd H3 p _ = H4
        obtain ⟨s4, g4⟩ := fresh hp e4
        refine r_eqH (α := List Int) (hd_list (SqL.of (s4 _ _ g3)) (hds_ints _)) (hd_list (SqL.of g4) hds_nil) ?_
        walk_at "g"
        refine r_dec (fun e => ?_) (fun e => ?_)
        · walk_at "g"
          have nd := flats_nil e
          subst hps
          exact q r ws B' A' H4 (S3.trans s4) hr (s4 _ _ hw3) (hx3.same s4) hM' nd hsub (by omega)
        · obtain ⟨z, rest, ez⟩ : ∃ z rest, flats ps ps.length = z :: rest := by
            cases e5 : flats ps ps.length with
            | nil => exact absurd e5 e
            | cons z rest => exact ⟨z, rest, rfl⟩
          obtain ⟨k, rfl, hk, hzk⟩ := flats_cons ez
          rw [ez] at g3
          subst hps
          obtain ⟨B2, A2, e6, hM2, hB2, hA2⟩ := hM'.erase hk hzk
          have g34 := s4 _ _ g3
          have hw4 := s4 _ _ hw3
          walk_at "g"
          refine r_ixL (SqL.of g34) (show atI (List.map V.int ((k : Int) :: rest)) 0 = some (.int (k : Int)) from atI_nat (j := 0) rfl) ?_
          walk_at "g"
          refine r_slL (SqL.of hw4) fun p5 hp5 => ?_
          rw [cut_to]
          generalize e5 : upd H4 p5 _ = H5
          obtain ⟨s5, g5⟩ := fresh hp5 e5
          walk_at "g"
          refine r_ixL (SqL.of (s5 _ _ g34)) (show atI (List.map V.int ((k : Int) :: rest)) 0 = some (.int (k : Int)) from atI_nat (j := 0) rfl) ?_
          walk_at "g"
          refine r_slL (SqL.of (s5 _ _ hw4)) fun p6 hp6 => ?_
          rw [show ((k : Int) + 1) = ((k + 1 : Nat) : Int) from rfl, cut_from]
          generalize e7 : upd H5 p6 _ = H6
          obtain ⟨s6, g6⟩ := fresh hp6 e7
          refine r_cat (s6 _ _ g5) g6 (Nat.le_trans (show _ ≤ 2000 by rw [List.length_take, List.length_drop]; omega) (by decide)) fun p7 hp7 => ?_
          generalize e8 : upd H6 p7 _ = H7
          obtain ⟨s7, g7⟩ := fresh hp7 e8
          have S47 := ((s4.trans s5).trans s6).trans s7
          walk_at "g"
          have hh := ((hx3.take k).append (hx3.drop (k + 1))).same S47
          rw [e6] at hh
          have hfree : H p7 = none := (((S3.trans s4).trans s5).trans s6).free hp7
          refine ⟨S3.trans S47, p7, _, B2, A2, _, _, _, rfl, .inr hfree, g7, hh, hM2, fun p hp => hsub p ?_, ?_⟩
          · rw [← e6] at hp
            rcases List.mem_append.mp hp with hp | hp
            · exact List.mem_of_mem_take hp
            · exact List.mem_of_mem_drop hp
          · rw [← e6, List.length_append, List.length_take, List.length_drop]
            omega
    · rintro σ' H1 ⟨S1, r, ws, B', A', o1, o2, o3, rfl, hr, hw, hx', hM', hsub, hlen⟩
      exfalso
      have := hM'.three
      omega
/-! #### _law_simple -/
/-- the corners of a simple polygon, as the laws draw them -/
def Smp (ps : List Pt) : Prop := Good ps ∧ 3 ≤ ps.length ∧ ps.length ≤ 20 ∧ AllBd 40 ps ∧ ∃ X B A, ps = shp (0, 0) (X, 0) B A ∧ ML (0, 0) (X, 0) B A ∧ 0 ≤ X ∧ X ≤ 1000 ∧ ∀ p ∈ ps, -6 ≤ p.2 ∧ p.2 ≤ 6
structure Drawn (x n : Int) (B A : List Pt) : Prop where
  x0 : 0 ≤ x
  xn : x ≤ n * 7
  pb : B.Pairwise fun p q => p.1 < q.1
  pa : A.Pairwise fun p q => p.1 < q.1
  mb : ∀ p ∈ B, 0 < p.1 ∧ p.1 ≤ x ∧ p.2 < 0 ∧ -6 ≤ p.2
  ma : ∀ p ∈ A, 0 < p.1 ∧ p.1 ≤ x ∧ 0 < p.2 ∧ p.2 ≤ 6
theorem Drawn.nil : Drawn 0 0 [] [] := ⟨by decide, by decide, .nil, .nil, (fun _ h => nomatch h), (fun _ h => nomatch h)⟩
theorem Drawn.below {x n d y : Int} {B A : List Pt} (h : Drawn x n B A) (hd : 0 ≤ d) (hd2 : d < 3) (hy : 0 ≤ y) (hy2 : y < 6) : Drawn (x + 1 + d) (n + 1) (B ++ [(x + 1 + d, -1 - y)]) A ∧ x + 1 + d ≤ n * 7 + 3 := by
  obtain ⟨h1, h2, h3, h4, h5, h6⟩ := h
  refine ⟨⟨by omega, by omega, ?_, h4, ?_, fun p hp => ?_⟩, by omega⟩
  · refine List.pairwise_append.mpr ⟨h3, List.pairwise_singleton _ _, fun p hp q hq => ?_⟩
    obtain rfl := List.mem_singleton.mp hq
    have := h5 p hp
    show p.1 < x + 1 + d
    omega
  · intro p hp
    rcases List.mem_append.mp hp with hp | hp
    · have := h5 p hp; omega
    · obtain rfl := List.mem_singleton.mp hp
      show 0 < x + 1 + d ∧ x + 1 + d ≤ x + 1 + d ∧ -1 - y < 0 ∧ -6 ≤ -1 - y
      omega
  · have := h6 p hp; omega
theorem Drawn.above {x x' n d y : Int} {B A : List Pt} (h : Drawn x' n B A) (ha : ∀ p ∈ A, p.1 ≤ x) (h00 : 0 ≤ x) (hx : x < x') (hx' : x' ≤ (n - 1) * 7 + 3) (hd : 0 ≤ d) (hd2 : d < 3) (hy : 0 ≤ y) (hy2 : y < 6) : Drawn (x' + d) n B (A ++ [(x' + d, 1 + y)]) := by
  obtain ⟨h1, h2, h3, h4, h5, h6⟩ := h
  refine ⟨by omega, by omega, h3, ?_, fun p hp => ?_, ?_⟩
  · refine List.pairwise_append.mpr ⟨h4, List.pairwise_singleton _ _, fun p hp q hq => ?_⟩
    obtain rfl := List.mem_singleton.mp hq
    have := ha p hp
    show p.1 < x' + d
    omega
  · have := h5 p hp; omega
  · intro p hp
    rcases List.mem_append.mp hp with hp | hp
    · have := h6 p hp; omega
    · obtain rfl := List.mem_singleton.mp hp
      show 0 < x' + d ∧ x' + d ≤ x' + d ∧ 0 < 1 + y ∧ 1 + y ≤ 6
      omega
theorem Drawn.ml {x n d : Int} {B A : List Pt} (h : Drawn x n B A) (hB : B ≠ []) (hd : 0 ≤ d) : ML (0, 0) (x + 1 + d, 0) B A.reverse := by
  obtain ⟨h1, h2, h3, h4, h5, h6⟩ := h
  refine ⟨rfl, rfl, hB, fun p hp => (h5 p hp).2.2.1, fun p hp => (h6 p (List.mem_reverse.mp hp)).2.2.1, ?_, ?_⟩
  · refine List.pairwise_cons.mpr ⟨fun p hp => ?_, List.pairwise_append.mpr ⟨h3, List.pairwise_singleton _ _, fun p hp q hq => ?_⟩⟩
    · rcases List.mem_append.mp hp with hp | hp
      · exact (h5 p hp).1
      · obtain rfl := List.mem_singleton.mp hp
        show 0 < x + 1 + d
        omega
    · obtain rfl := List.mem_singleton.mp hq
      have := h5 p hp
      show p.1 < x + 1 + d
      omega
  · refine List.pairwise_cons.mpr ⟨fun p hp => ?_, List.pairwise_append.mpr ⟨List.pairwise_reverse.mpr h4, List.pairwise_singleton _ _, fun p hp q hq => ?_⟩⟩
    · rcases List.mem_append.mp hp with hp | hp
      · have := h6 p (List.mem_reverse.mp hp)
        show p.1 < x + 1 + d
        omega
      · obtain rfl := List.mem_singleton.mp hp
        show 0 < x + 1 + d
        omega
    · obtain rfl := List.mem_singleton.mp hq
      exact (h6 p (List.mem_reverse.mp hp)).1
theorem bd40 {i : Int} (h : -(10 ^ 11) ≤ i ∧ i ≤ 10 ^ 11) : Bd 40 i := Nat.lt_of_le_of_lt (show i.natAbs ≤ 10 ^ 11 by omega) (by decide)
theorem Drawn.bd {x n d : Int} {B A : List Pt} (h : Drawn x n B A) (hn : n ≤ 6) (hd : 0 ≤ d) (hd2 : d < 3) : AllBd 40 (shp (0, 0) (x + 1 + d, 0) B A.reverse) := by
  obtain ⟨h1, h2, h3, h4, h5, h6⟩ := h
  intro p hp
  have hx : x ≤ 42 := by omega
  unfold shp at hp
  rcases List.mem_append.mp hp with hp | hp
  · rcases List.mem_cons.mp hp with rfl | hp
    · exact ⟨bd40 (by decide), bd40 (by decide)⟩
    · have := h5 p hp
      exact ⟨bd40 (by omega), bd40 (by omega)⟩
  · rcases List.mem_cons.mp hp with rfl | hp
    · exact ⟨bd40 (show -(10 ^ 11) ≤ x + 1 + d ∧ x + 1 + d ≤ 10 ^ 11 by omega), bd40 (show -(10 ^ 11) ≤ (0 : Int) ∧ (0 : Int) ≤ 10 ^ 11 by decide)⟩
    · have := h6 p (List.mem_reverse.mp hp)
      exact ⟨bd40 (by omega), bd40 (by omega)⟩
theorem Drawn.ys {x n d : Int} {B A : List Pt} (h : Drawn x n B A) : ∀ p ∈ shp (0, 0) (x + 1 + d, 0) B A.reverse, -6 ≤ p.2 ∧ p.2 ≤ 6 := by
  obtain ⟨h1, h2, h3, h4, h5, h6⟩ := h
  intro p hp
  unfold shp at hp
  rcases List.mem_append.mp hp with hp | hp
  · rcases List.mem_cons.mp hp with rfl | hp
    · exact ⟨by decide, by decide⟩
    · have := h5 p hp; omega
  · rcases List.mem_cons.mp hp with rfl | hp
    · exact ⟨show (-6 : Int) ≤ 0 by decide, show (0 : Int) ≤ 6 by decide⟩
    · have := h6 p (List.mem_reverse.mp hp); omega
theorem r_par3 {i j k : Nat} {ta : TA} {D : Ends} {σ : L2.St} {H : Hp} (q : ta σ H fun vs H1 => ∃ v w u, vs = [v, w, u] ∧ D.nx (((σ.set i (some v)).set j (some w)).set k (some u)) H1) : tPar3 i j k ta D σ H := q
theorem r_three {x y z : V} {R : V → V → V → Prop} (q : R x y z) : ∃ v w u, [x, y, z] = [v, w, u] ∧ R v w u := ⟨x, y, z, rfl, q⟩
/-- two lists of points that grow while numbers are drawn -/
structure Two (K : PySem.W.Frag) (H : Hp) (l lb la : Addr) (H' : Hp) (bs as : List V) (B A : List Pt) : Prop where
  kp : Kp l H H'
  dr : DrAt H' l
  b : H' lb = some (.lst bs)
  a : H' la = some (.lst as)
  xb : Hds K H' bs B
  xa : Hds K H' as A
theorem Two.new {H H' H2 : Hp} {l lb la : Addr} {bs as : List V} {B A : List Pt} (h : Two K H l lb la H' bs as B A) (s : Same H' H2) : Two K H l lb la H2 bs as B A :=
  ⟨h.kp.same s, h.dr.same s, s _ _ h.b, s _ _ h.a, h.xb.same s, h.xa.same s⟩
theorem Two.draw {H H' H2 : Hp} {l lb la : Addr} {bs as : List V} {B A : List Pt} (h : Two K H l lb la H' bs as B A) (nb : lb ≠ l) (na : la ≠ l) (k : Kp l H' H2) (d : DrAt H2 l) : Two K H l lb la H2 bs as B A :=
  ⟨h.kp.trans k, d, k _ _ nb h.b, k _ _ na h.a, h.xb.kp k h.dr, h.xa.kp k h.dr⟩
theorem Two.putB {H H' : Hp} {l lb la : Addr} {bs as : List V} {B A : List Pt} {v : V} {pt : Pt} (h : Two K H l lb la H' bs as B A) (nb : lb ≠ l) (nba : lb ≠ la) (hb : H lb = none) (hv : Hd K H' v pt) : Two K H l lb la (upd H' lb (.lst (bs ++ [v]))) (bs ++ [v]) as (B ++ [pt]) A := by
  have k : Kp lb H' (upd H' lb (.lst (bs ++ [v]))) := (Kp.refl lb H').put
  exact ⟨h.kp.putN hb, dr_put h.dr nb, upd_same, by rw [upd_ne nba.symm]; exact h.a, imms k ⟨_, h.b⟩ (h.xb.append (.cons hv .nil)), imms k ⟨_, h.b⟩ h.xa⟩
theorem Two.putA {H H' : Hp} {l lb la : Addr} {bs as : List V} {B A : List Pt} {v : V} {pt : Pt} (h : Two K H l lb la H' bs as B A) (na : la ≠ l) (nba : lb ≠ la) (hb : H la = none) (hv : Hd K H' v pt) : Two K H l lb la (upd H' la (.lst (as ++ [v]))) bs (as ++ [v]) B (A ++ [pt]) := by
  have k : Kp la H' (upd H' la (.lst (as ++ [v]))) := (Kp.refl la H').put
  exact ⟨h.kp.putN hb, dr_put h.dr na, by rw [upd_ne nba]; exact h.b, upd_same, imms k ⟨_, h.a⟩ h.xb, imms k ⟨_, h.a⟩ (h.xa.append (.cons hv .nil))⟩
def sp_law_simple (K : PySem.W.Frag) : Sp := fun vs H Q _ => ∃ (l : Addr) (N : Int), vs = [.ref l, .int N] ∧ 0 < N ∧ N ≤ 5 ∧ DrAt H l ∧ ∀ (r : Addr) (ws : List V) (ps : List Pt) (H' : Hp), Kp l H H' → DrAt H' l → H r = none → H' r = some (.lst ws) → Hds K H' ws ps → Smp ps → Q (.ref r) H'
theorem ok_law_simple (T : Tx K mg) : FnOk P w K mg base CX0 3 (He.ga K "_law_simple") (fdOf K (He.ga K "_law_simple")) ["_law_draws_here", "_law_most"] (sp_law_simple K) := by
  refine T.d_law_simple.ok sc_law_simple (fun vs H Q E h => ?_) (fun cdv A outer s H vs Q E hr h => ?_)
  · obtain ⟨l, N, rfl, _⟩ := h
    rfl
  · obtain ⟨l, N, rfl, hN0, hN5, D0, q⟩ := h
    refine ⟨_, PSs.nox (pss_cons (ps_par3 (i := 2) (j := 3) (l := 4) (by rfl) sc_law_simple.nd rfl rfl rfl (by decide) (by decide) (by decide) rfl rfl rfl (pa_cons pe_int (pa_cons (pe_lst pa_nil) (pa_cons (pe_lst pa_nil) pa_nil))) (by rfl))
      (pss_cons (ps_for PassesOwn.never rfl (pi_range1 rfl T.n_range (pa_cons (pe_op op_add pe_int (pe_call (ok_law_draw (K := K) T) (hr.mono (by decide)) rfl T.g_law_draw T.d_law_draw.kp (bn_law_draw T) .nil pass0 (pa_cons (pv 0) (pa_cons (pv 1) pa_nil)))) pa_nil)) (pg_name (i := 5) sc_law_simple.nd rfl (Or.inl rfl))
      (pss_cons (ps_set (i := 2) sc_law_simple.nd rfl (Or.inl rfl) (pe_op op_add (pe_op op_add (pv 2) pe_int) (pe_call (ok_law_draw (K := K) T) (hr.mono (by decide)) rfl T.g_law_draw T.d_law_draw.kp (bn_law_draw T) .nil pass0 (pa_cons (pv 0) (pa_cons pe_int pa_nil)))))
      (pss_cons (ps_expr (kBM (K := K) (pe_bm PySem.F.plainAttrs_list PySem.F.slot_list_append PySem.F.type_list_append mt_append (pv 3) (pa_cons (pe_tup (pa_cons (pv 2) (pa_cons (pe_op op_sub (pe_un un_neg pe_int) (pe_call (ok_law_draw (K := K) T) (hr.mono (by decide)) rfl T.g_law_draw T.d_law_draw.kp (bn_law_draw T) .nil pass0 (pa_cons (pv 0) (pa_cons pe_int pa_nil)))) pa_nil))) pa_nil))))
      (pss_one (ps_if (pt_cmpR op_eq (pe_call (ok_law_draw (K := K) T) (hr.mono (by decide)) rfl T.g_law_draw T.d_law_draw.kp (bn_law_draw T) .nil pass0 (pa_cons (pv 0) (pa_cons pe_int pa_nil))) pe_int (nomark _)) (pss_cons (ps_set (i := 2) sc_law_simple.nd rfl (Or.inl rfl) (pe_op op_add (pv 2) (pe_call (ok_law_draw (K := K) T) (hr.mono (by decide)) rfl T.g_law_draw T.d_law_draw.kp (bn_law_draw T) .nil pass0 (pa_cons (pv 0) (pa_cons pe_int pa_nil)))))
      (pss_one (ps_expr (kBM (K := K) (pe_bm PySem.F.plainAttrs_list PySem.F.slot_list_append PySem.F.type_list_append mt_append (pv 4) (pa_cons (pe_tup (pa_cons (pv 2) (pa_cons (pe_op op_add pe_int (pe_call (ok_law_draw (K := K) T) (hr.mono (by decide)) rfl T.g_law_draw T.d_law_draw.kp (bn_law_draw T) .nil pass0 (pa_cons (pv 0) (pa_cons pe_int pa_nil)))) pa_nil))) pa_nil)))))) pss_nil)))))
      (pss_one (ps_ret (pe_call (ok_law_cleaned (K := K) T) (hr.mono (by decide)) rfl T.g_law_cleaned T.d_law_cleaned.kp (bn_law_cleaned T) .nil pass0 (pa_cons (pe_op op_cat (pe_op op_cat (pe_op op_cat (pe_lst (pa_cons (pe_tup (pa_cons pe_int (pa_cons pe_int pa_nil))) pa_nil)) (pv 3)) (pe_lst (pa_cons (pe_tup (pa_cons (pe_op op_add (pe_op op_add (pv 2) pe_int) (pe_call (ok_law_draw (K := K) T) (hr.mono (by decide)) rfl T.g_law_draw T.d_law_draw.kp (bn_law_draw T) .nil pass0 (pa_cons (pv 0) (pa_cons pe_int pa_nil)))) (pa_cons pe_int pa_nil))) pa_nil))) (kRevL (K := K) (pe_revL (pv 4)))) pa_nil)))))), ?_⟩
    refine r_seq ?_
    refine r_par3 ?_
    walk_at "gx"
    refine r_new fun lb hlb => ?_
    generalize e1 : upd H lb _ = H1
    obtain ⟨s1, g1⟩ := fresh hlb e1
    walk_at "gx"
    refine r_new fun la hla => ?_
    generalize e2 : upd H1 la _ = H2
    obtain ⟨s2, g2⟩ := fresh hla e2
    have hlaH : H la = none := s1.free hla
    have nlb : lb ≠ l := D0.ne hlb
    have nla : la ≠ l := (D0.same s1).ne hla
    have nba : lb ≠ la := fun z => by subst z; rw [hla] at g1; cases g1
    have T2 : Two K H l lb la H2 [] [] [] [] := ⟨Kp.of_same (s1.trans s2), D0.same (s1.trans s2), s2 _ _ g1, g2, .nil, .nil⟩
    walk_at "gx"
    refine r_three ?_
    walk_at "gx"
    refine ⟨l, N, rfl, T2.dr, by omega, by omega, fun d8 H8 hd80 hd81 k8 D8 => ?_⟩
    have T8 := T2.draw nlb nla k8 D8
    walk_at "gx"
    refine loopR1 (by omega) (fun i σ' H' => ∃ (x : Int) (B A : List Pt) (bs as : List V) (o7 : Option V), Two K H l lb la H' bs as B A ∧ Drawn x i B A ∧ B.length = i ∧ A.length ≤ i ∧ σ' = [some (.ref l), some (.int N), some (.int x), some (.ref lb), some (.ref la), o7]) ⟨0, [], [], [], [], _, T8, Drawn.nil, rfl, Nat.le_refl _, rfl⟩ ?_ ?_
    · rintro i σ' H1 hi ⟨x, B, A, bs, as, o7, T1, dr, hBl, hAl, rfl⟩
      have hi5 : (i : Int) < 5 := by omega
      walk_at "g"
      refine ⟨l, 3, rfl, T1.dr, by decide, by decide, fun d H2 hd0 hd1 k2 D2 => ?_⟩
      have T2 := T1.draw nlb nla k2 D2
      walk_at "g"
      refine ⟨ty_lst T2.b, ?_⟩
      walk_at "g"
      refine ⟨l, 6, rfl, T2.dr, by decide, by decide, fun y H3 hy0 hy1 k3 D3 => ?_⟩
      have T3 := T2.draw nlb nla k3 D3
      walk_at "g"
      refine r_new fun p hp => ?_
      generalize e4 : upd H3 p _ = H4
      obtain ⟨s4, g4⟩ := fresh hp e4
      have T4 := T3.new s4
      walk_at "g"
      refine r_app T4.b (by rw [T4.xb.length]; omega) ?_
      have T5 := T4.putB (v := .ref p) (pt := (x + 1 + d, -1 - y)) nlb nba hlb (hd_pair (SqT.of g4) hd_int hd_int)
      generalize upd H4 lb _ = H5 at T5 ⊢
      obtain ⟨dr2, hx2⟩ := dr.below hd0 (by omega) hy0 (show y < 6 by omega)
      walk_at "g"
      refine ⟨l, 2, rfl, T5.dr, by decide, by decide, fun z H6 hz0 hz1 k6 D6 => ?_⟩
      have T6 := T5.draw nlb nla k6 D6
      walk_at "g"
      refine r_dec (fun e => ?_) (fun e => ?_)
      · walk_at "g"
        refine ⟨l, 3, rfl, T6.dr, by decide, by decide, fun d' H7 hd0' hd1' k7 D7 => ?_⟩
        have T7 := T6.draw nlb nla k7 D7
        walk_at "g"
        refine ⟨ty_lst T7.a, ?_⟩
        walk_at "g"
        refine ⟨l, 6, rfl, T7.dr, by decide, by decide, fun y' H8 hy0' hy1' k8 D8 => ?_⟩
        have T8 := T7.draw nlb nla k8 D8
        walk_at "g"
        refine r_new fun p' hp' => ?_
        generalize e9 : upd H8 p' _ = H9
        obtain ⟨s9, g9⟩ := fresh hp' e9
        have T9 := T8.new s9
        walk_at "g"
        refine r_app T9.a (by rw [T9.xa.length]; omega) ?_
        have T10 := T9.putA (v := .ref p') (pt := (x + 1 + d + d', 1 + y')) nla nba hlaH (hd_pair (SqT.of g9) hd_int hd_int)
        refine ⟨_, _, _, _, _, _, T10, dr2.above (x := x) (fun q hq => (dr.ma q hq).2.1) dr.x0 (by omega) (by omega) hd0' (by omega) hy0' (by omega), by simp [hBl], by simp; omega, rfl⟩
      · walk_at "g"
        exact ⟨_, _, _, _, _, _, T6, dr2, by simp [hBl], by omega, rfl⟩
    · rintro σ' H1 ⟨x, B, A, bs, as, o7, T1, dr, hBl, hAl, rfl⟩
      have hB : B ≠ [] := fun z => by
        rw [z] at hBl
        simp at hBl
        omega
      walk_at "g"
      refine r_new fun p hp => ?_
      generalize e2 : upd H1 p _ = H2
      obtain ⟨s2, g2⟩ := fresh hp e2
      walk_at "g"
      refine r_new fun p3 hp3 => ?_
      generalize e3 : upd H2 p3 _ = H3
      obtain ⟨s3, g3⟩ := fresh hp3 e3
      have T3 := T1.new (s2.trans s3)
      walk_at "g"
      refine r_cat g3 T3.b (Nat.le_trans (show _ ≤ 100 by rw [T3.xb.length]; show 1 + _ ≤ 100; omega) (by decide)) fun p4 hp4 => ?_
      generalize e4 : upd H3 p4 _ = H4
      obtain ⟨s4, g4⟩ := fresh hp4 e4
      have T4 := T3.new s4
      have np4 : p4 ≠ l := T3.dr.ne hp4
      have x4 : Hds K H4 ([V.ref p] ++ bs) ((0, 0) :: B) := .cons (hd_pair (SqT.of ((s3.trans s4) _ _ g2)) hd_int hd_int) T4.xb
      walk_at "g"
      refine ⟨l, 3, rfl, T4.dr, by decide, by decide, fun d H5 hd0 hd1 k5 D5 => ?_⟩
      have T5 := T4.draw nlb nla k5 D5
      have x5 := x4.kp k5 T4.dr
      have g45 := k5 _ _ np4 g4
      walk_at "g"
      refine r_new fun p6 hp6 => ?_
      generalize e6 : upd H5 p6 _ = H6
      obtain ⟨s6, g6⟩ := fresh hp6 e6
      walk_at "g"
      refine r_new fun p7 hp7 => ?_
      generalize e7 : upd H6 p7 _ = H7
      obtain ⟨s7, g7⟩ := fresh hp7 e7
      have T7 := T5.new (s6.trans s7)
      refine r_cat ((s6.trans s7) _ _ g45) g7 (Nat.le_trans (show _ ≤ 100 by rw [x5.length]; show _ + 1 + 1 ≤ 100; omega) (by decide)) fun p8 hp8 => ?_
      generalize e8 : upd H7 p8 _ = H8
      obtain ⟨s8, g8⟩ := fresh hp8 e8
      have T8 := T7.new s8
      walk_at "g"
      refine r_revL ?_
      walk_at "g"
      refine ⟨la, as, rfl, SqL.of T8.a, fun p9 hp9 => ?_⟩
      generalize e9 : upd H8 p9 _ = H9
      obtain ⟨s9, g9⟩ := fresh hp9 e9
      have T9 := T8.new s9
      refine r_cat (s9 _ _ g8) g9 (Nat.le_trans (show _ ≤ 100 by rw [List.length_append, x5.length, List.length_reverse, T9.xa.length]; show _ + 1 + 1 + _ ≤ 100; omega) (by decide)) fun p10 hp10 => ?_
      generalize e10 : upd H9 p10 _ = H10
      obtain ⟨s10, g10⟩ := fresh hp10 e10
      have T10 := T9.new s10
      have S7 := ((s7.trans s8).trans s9).trans s10
      have x10 : Hds K H10 ([V.ref p] ++ bs ++ [V.ref p6] ++ as.reverse) (shp (0, 0) (x + 1 + d, 0) B A.reverse) := by
        have h1 := x5.same (s6.trans S7)
        have h2 : Hds K H10 [V.ref p6] [((x + 1 + d, 0) : Pt)] := .cons (hd_pair (SqT.of (S7 _ _ g6)) hd_int hd_int) .nil
        have h3 := ((h1.append h2).append T10.xa.reverse)
        have ee : shp (0, 0) (x + 1 + d, 0) B A.reverse = ((0, 0) :: B ++ [((x + 1 + d, 0) : Pt)]) ++ A.reverse := by
          unfold shp; simp
        rw [ee]
        exact h3
      walk_at "g"
      refine ⟨p10, _, _, _, _, _, rfl, g10, x10, dr.ml hB hd0, fun q hq => (dr.bd (by omega) hd0 (by omega) q hq).mono (by decide), by rw [shp_len, List.length_reverse]; omega, fun r ws B' A' H11 s11 hr hw hx' hM' nd hsub hlen => ?_⟩
      have T11 := T10.new s11
      have frR : H r = none := by
        rcases hr with rfl | hr
        · exact T9.kp.free (T9.dr.ne hp10) hp10
        · exact T10.kp.free (T10.dr.ne hr) hr
      refine q r ws _ H11 T11.kp T11.dr frR hw hx' ⟨hM'.mono.good nd, hM'.three, Nat.le_trans hlen (by rw [shp_len, List.length_reverse]; omega), fun q hq => dr.bd (by omega) hd0 (by omega) q (hsub q hq), _, _, _, rfl, hM', by have := dr.x0; omega, by have := dr.xn; omega, fun q hq => dr.ys q (hsub q hq)⟩
/-! #### _law_divisor -/
def sp_law_divisor : Sp := fun vs H Q _ => ∃ a b : Int, vs = [.int a, .int b] ∧ Q (.int (Int.gcd a b)) H
theorem ok_law_divisor (T : Tx K mg) : FnOk P w K mg base CX0 1 (He.ga K "_law_divisor") (fdOf K (He.ga K "_law_divisor")) ["_law_first", "_law_second"] (sp_law_divisor) := by
  refine T.d_law_divisor.ok sc_law_divisor (fun vs H Q E h => ?_) (fun cdv A outer s H vs Q E hr h => ?_)
  · obtain ⟨a, b, rfl, _⟩ := h
    rfl
  · obtain ⟨a, b, rfl, q⟩ := h
    refine ⟨_, PSs.nox (pss_cons (ps_while PassesOwn.never (pt_cmpR op_ne (pv 1) pe_int (nomark _))
      (pss_one (ps_par (i := 0) (j := 1) (by rfl) sc_law_divisor.nd rfl rfl (by decide) rfl rfl (pa_cons (pv 1) (pa_cons (pe_op op_modN (pv 0) (pv 1)) pa_nil)) (by rfl))))
      (pss_one (ps_ret (pe_callB cAbs (by rfl) T.n_abs (by decide +kernel) (pa_cons (pv 0) pa_nil))))), ?_⟩
    walk_at "g"
    refine r_while (fun m σ' H' => ∃ x y : Int, σ' = [some (.int x), some (.int y)] ∧ H = H' ∧ Int.gcd x y = Int.gcd a b ∧ m = y.natAbs) b.natAbs ⟨_, _, rfl, rfl, rfl, rfl⟩ ?_
    rintro m σ' H' ⟨x, y, rfl, rfl, hg, rfl⟩
    walk_at "g"
    refine r_ndec (fun h => wnext ?_) (fun h => ?_)
    · walk_at "g"
      refine r_I h ?_
      walk_at "g"
      exact ⟨_, fmod_lt x y h, _, _, rfl, rfl, by rw [gcd_fmod]; exact hg, rfl⟩
    · subst h
      walk_at "g"
      have e : (x.natAbs : Int) = ((Int.gcd a b : Nat) : Int) := by rw [← hg, Int.gcd_zero_right]
      rw [e]
      exact q
def ds_law_simple : FD := fun args R => args = [.dr, .int 4] ∧ ∀ ps : List Pt, Smp ps → R (.lst (ps.map pt))
instance br_law_simple : Br K (sp_law_simple K) ds_law_simple := ⟨by
  rintro vs H Q E ⟨l, N, args, R, hl, hd, ra, ⟨rfl, h⟩, q⟩
  obtain ⟨v, w, rfl, r1, r2⟩ := args2V ra
  obtain ⟨a, rfl, rfl⟩ := dr_of r1
  cases repA_int r2
  refine ⟨a, _, rfl, by decide, by decide, (hd a rfl).2, fun r ws ps H' k D' hr hr' hw hs => q _ _ _ (h ps hs) (.of_kp k D') (.lst (fun z => ?_) hr' (reps_hds hw))⟩
  obtain ⟨xs, e⟩ := hl r z
  rw [hr] at e; cases e⟩
def ds_locate (K : PySem.W.Frag) : FD := fun args R => ∃ (C : Addr) (ps : List Pt) (p : Pt), args = [pgD C ps, pt p] ∧ PgC K C ∧ AllBd 40000 ps ∧ ps.length ≤ 1000 ∧ PBd 40000 p ∧ R (.str (loc p ps))
instance br_locate : Br K (sp_Polygon_locate K) (ds_locate K) := ⟨by
  rintro vs H Q E ⟨l, N, args, R, hl, hd, ra, ⟨C, ps, p, rfl, pc, hb, hl', hp, h⟩, q⟩
  obtain ⟨v, w, rfl, r1, r2⟩ := args2V ra
  exact ⟨v, w, C, ps, rfl, pg_rep pc (repA_dat r1 rfl), hb, hl', .inr ⟨p, hd_rep (repA_dat r2 rfl), hp, fun H' s => q _ _ _ h (.of_same s) (.str _)⟩⟩⟩
def ds_area (K : PySem.W.Frag) : FD := fun args R => ∃ (C : Addr) (ps : List Pt), args = [pgD C ps] ∧ PgC K C ∧ AllBd 40000 ps ∧ ps.length ≤ 1000 ∧ R (.int (are ps))
instance br_area : Br K (sp_Polygon_double_area K) (ds_area K) := ⟨by
  rintro vs H Q E ⟨l, N, args, R, hl, hd, ra, ⟨C, ps, rfl, pc, hb, hl', h⟩, q⟩
  obtain ⟨v, rfl, r1⟩ := args1V ra
  exact ⟨v, C, ps, rfl, pg_rep pc (repA_dat r1 rfl), hb, hl', fun H' s => q _ _ _ h (.of_same s) (.int _)⟩⟩
def ds_border (K : PySem.W.Frag) : FD := fun args R => ∃ (C : Addr) (ps : List Pt), args = [pgD C ps] ∧ PgC K C ∧ ps.length ≤ 1000 ∧ R (.int (brd ps))
instance br_border : Br K (sp_Polygon_border_points K) (ds_border K) := ⟨by
  rintro vs H Q E ⟨l, N, args, R, hl, hd, ra, ⟨C, ps, rfl, pc, hl', h⟩, q⟩
  obtain ⟨v, rfl, r1⟩ := args1V ra
  exact ⟨v, C, ps, rfl, pg_rep pc (repA_dat r1 rfl), hl', fun H' s => q _ _ _ h (.of_same s) (.int _)⟩⟩
def ds_inner (K : PySem.W.Frag) : FD := fun args R => ∃ (C : Addr) (ps : List Pt), args = [pgD C ps] ∧ PgC K C ∧ pArea K C ∧ pBorder K C ∧ AllBd 40000 ps ∧ ps.length ≤ 1000 ∧ R (.int (inN ps))
instance br_inner : Br K (sp_Polygon_inner_points K) (ds_inner K) := ⟨by
  rintro vs H Q E ⟨l, N, args, R, hl, hd, ra, ⟨C, ps, rfl, pc, pa, pb, hb, hl', h⟩, q⟩
  obtain ⟨v, rfl, r1⟩ := args1V ra
  exact ⟨v, C, ps, rfl, pg_rep pc (repA_dat r1 rfl), pa, pb, hb, hl', fun H' s => q _ _ _ h (.of_same s) (.int _)⟩⟩
def ds_total (K : PySem.W.Frag) : FD := fun args R => ∃ (C : Addr) (ps : List Pt), args = [pgD C ps] ∧ PgC K C ∧ pArea K C ∧ pBorder K C ∧ pInner K C ∧ AllBd 40000 ps ∧ ps.length ≤ 1000 ∧ R (.int (toN ps))
instance br_total : Br K (sp_Polygon_total_points K) (ds_total K) := ⟨by
  rintro vs H Q E ⟨l, N, args, R, hl, hd, ra, ⟨C, ps, rfl, pc, pa, pb, pi, hb, hl', h⟩, q⟩
  obtain ⟨v, rfl, r1⟩ := args1V ra
  exact ⟨v, C, ps, rfl, pg_rep pc (repA_dat r1 rfl), pa, pb, pi, hb, hl', fun H' s => q _ _ _ h (.of_same s) (.int _)⟩⟩
theorem argsInts {l : Option Addr} {N : Addr → Prop} {H : Hp} : ∀ {vs : List V} {ns : List Int}, RepAs K l N H vs (ns.map .int) → vs = ns.map V.int
  | _, [], r => by cases r; rfl
  | _, n :: ns, r => by
    cases r with | cons h r => rw [repA_int h, argsInts r]; rfl
theorem isI_ints : ∀ ns : List Int, (ns.map V.int).all isI = true
  | [] => rfl
  | n :: ns => by
    show (isI (.int n) && (ns.map V.int).all isI) = true
    rw [isI_ints ns]; rfl
def ds_greatest : FD := fun args R => ∃ ns : List Int, args = ns.map .int ∧ ns.length ≤ 100 ∧ R (.int (gcdL ns))
theorem ints_inj : ∀ {ns ms : List Int}, ns.map V.int = ms.map V.int → ns = ms
  | [], [], _ => rfl
  | _ :: _, [], h => nomatch h
  | [], _ :: _, h => nomatch h
  | n :: ns, m :: ms, h => by
    have h1 := List.cons.inj h
    rw [V.int.inj h1.1, ints_inj h1.2]
instance br_greatest : Br K (sp_greatest_divisor K) ds_greatest := ⟨by
  rintro vs H Q E ⟨l, N, args, R, hl, hd, ra, ⟨ns, rfl, hn, h⟩, q⟩
  obtain rfl := argsInts ra
  refine ⟨fun v hv => ?_, by rw [List.length_map]; exact hn, fun ms e H' s => ?_, fun z => ?_⟩
  · obtain ⟨i, _, rfl⟩ := List.mem_map.mp hv
    exact ⟨_, .int i⟩
  · rw [← ints_inj e]
    exact q _ _ _ h (.of_same s) (.int _)
  · rw [isI_ints] at z; cases z⟩
def ds_law_divisor : FD := fun args R => ∃ a b : Int, args = [.int a, .int b] ∧ R (.int (Int.gcd a b))
instance br_law_divisor : Br K sp_law_divisor ds_law_divisor := ⟨by
  rintro vs H Q E ⟨l, N, args, R, hl, hd, ra, ⟨a, b, rfl, h⟩, q⟩
  obtain ⟨v, w, rfl, r1, r2⟩ := args2V ra
  cases repA_int r1; cases repA_int r2
  exact ⟨a, b, rfl, q _ _ _ h (.refl _ _) (.int _)⟩⟩
theorem dw_neR {x y : Da} {p : PyData} {R : Da → Prop} (hx : IsP x p) (hy : IsP y p) (hs : SeqAt.shaped p = true) (q : R (.bl false)) : dNeD x y R := ⟨p, p, hx, hy, hs, hs, by rw [SeqAt.eqv_refl _ (SeqAt.canLay_of_shaped hs)]; exact q⟩
theorem shaped3 (a b c : Int) : SeqAt.shaped (.tuple [.int a, .int b, .int c]) = true := rfl
/-- the middle of corners: their sums and their number, without a common divisor -/
def mid3 (x y n : Int) : List Int := [x / gcdL [x, y, n], y / gcdL [x, y, n], n / gcdL [x, y, n]]
def mid (ps : List Pt) : List Int := mid3 (ps.map Prod.fst).sum (ps.map Prod.snd).sum ps.length
theorem gcd3 (x y n : Int) : gcdL [x, y, n] = ((Int.gcd ((Int.gcd x y : Nat) : Int) n : Nat) : Int) := by
  show ((Int.gcd ((Int.gcd ((Int.gcd 0 x : Nat) : Int) y : Nat) : Int) n : Nat) : Int) = _
  congr 3
  simp [Int.gcd]
theorem gcd3_pos {x y n : Int} (h : 0 < n) : 0 < gcdL [x, y, n] := by
  rw [gcd3]
  have := Int.gcd_pos_of_ne_zero_right ((Int.gcd x y : Nat) : Int) (show n ≠ 0 by omega)
  omega
theorem sum_perm {xs ys : List Int} (h : xs.Perm ys) : xs.sum = ys.sum := by
  induction h with
  | nil => rfl
  | cons x _ ih => rw [List.sum_cons, List.sum_cons, ih]
  | swap x y l => rw [List.sum_cons, List.sum_cons, List.sum_cons, List.sum_cons]; omega
  | trans _ _ h1 h2 => exact h1.trans h2
theorem mid_arr (ps : List Pt) : mid (arr ps) = mid ps := by
  unfold mid
  rw [sum_perm ((arr_perm ps).map Prod.fst), sum_perm ((arr_perm ps).map Prod.snd), arr_len]
theorem bd_sum {n : Nat} : ∀ {xs : List Int}, (∀ x ∈ xs, Bd n x) → Bd (n + xs.length) xs.sum
  | [], _ => by show (0 : Int).natAbs < 2 ^ _; exact Nat.two_pow_pos _
  | x :: xs, h => by
    rw [List.sum_cons]
    have h1 := bd_sum (n := n) fun y hy => h y (List.mem_cons_of_mem _ hy)
    exact ((h x List.mem_cons_self).mono (Nat.le_add_right _ _)).add h1
theorem gcd3_le {x y n : Int} (h : 0 < n) : gcdL [x, y, n] ≤ n := by
  rw [gcd3]
  exact Int.le_of_dvd h (Int.gcd_dvd_right ..)
theorem gcd3_div {x y n i : Int} (h : 0 < n) (hn : n ≤ 1000) : CDivW i (gcdL [x, y, n]) := by
  have h1 := gcd3_pos (x := x) (y := y) h
  have h2 := gcd3_le (x := x) (y := y) h
  exact wide_div h1 (b := 10) (by omega) (by decide) (by decide)
theorem lits_map {α : Type} (ps : List α) (f : α → Int) : (Da.lst (ps.map fun p => Da.int (f p))).lits = some ((ps.map f).map .int) := by rw [List.map_map]; rfl
theorem max_fst {X m : Int} {B A : List Pt} (h : ML (0, 0) (X, 0) B A) (hm : m ∈ (shp (0, 0) (X, 0) B A).map Prod.fst) (hle : ∀ y, y ∈ (shp (0, 0) (X, 0) B A).map Prod.fst → y ≤ m) : m = X := by
  have h1 : X ≤ m := hle X (List.mem_map.mpr ⟨(X, 0), by unfold shp; simp, rfl⟩)
  obtain ⟨p, hp, rfl⟩ := List.mem_map.mp hm
  have h0 : (0 : Int) < X := (List.pairwise_cons.mp h.xl).1 (X, 0) (by simp)
  have h2 : p.1 ≤ X := by
    unfold shp at hp
    rcases List.mem_append.mp hp with hp | hp
    · rcases List.mem_cons.mp hp with rfl | hp
      · show (0 : Int) ≤ X; omega
      · have := (List.pairwise_append.mp h.xl).2.2 p (List.mem_cons_of_mem _ hp) (X, 0) (by simp)
        show p.1 ≤ X
        have : p.1 < X := this
        omega
    · rcases List.mem_cons.mp hp with rfl | hp
      · exact Int.le_refl _
      · have := (List.pairwise_cons.mp h.xu).1 p (List.mem_append_left _ hp)
        have : p.1 < X := this
        omega
  omega
theorem PBd.of {x y : Int} (h : -10000 ≤ x ∧ x ≤ 10000) (h' : -10000 ≤ y ∧ y ≤ 10000) : PBd 40000 (x, y) :=
  ⟨Bd.mono (n := 14) (show x.natAbs < 2 ^ 14 by omega) (by decide), Bd.mono (n := 14) (show y.natAbs < 2 ^ 14 by omega) (by decide)⟩
theorem allBd_mono {n m : Nat} {ps : List Pt} (h : n ≤ m) (hb : AllBd n ps) : AllBd m ps := fun p hp => (hb p hp).mono h
theorem dw_undr {D : DEnds} {env env2 : Env} {i : Nat} (e : (env.map undr).set i (some .dr) = env2) (q : D.nx env2) : D.nx ((env.map undr).set i (some .dr)) := by subst e; exact q
theorem sI_bd {u c : Int} {f : Int → Int} (h : ∀ x, 0 ≤ f x ∧ f x ≤ c) : ∀ n : Nat, 0 ≤ sI u n f ∧ sI u n f ≤ n * c
  | 0 => ⟨Int.le_refl _, by show (0 : Int) ≤ ((0 : Nat) : Int) * c; simp⟩
  | n + 1 => by
    have h1 := sI_bd (u := u) h n
    have h2 := h (u + (n : Int))
    have e : ((n + 1 : Nat) : Int) * c = (n : Int) * c + c := by rw [Int.natCast_add, Int.add_mul]; simp
    constructor
    · show 0 ≤ sI u n f + f (u + n)
      omega
    · show sI u n f + f (u + n) ≤ _
      rw [e]; omega
theorem box_bd {X : Int} {ps : List Pt} (h0 : 0 ≤ X) (h : X ≤ 1000) : 0 ≤ boxS X (iI ps) ∧ boxS X (iI ps) ≤ 20000 := by
  have h1 : ∀ x, 0 ≤ sJ (iI ps x) ∧ sJ (iI ps x) ≤ 13 := fun x => by
    have := sI_bd (u := -6) (c := 1) (f := iI ps x) (fun y => by unfold iI; split <;> decide) 13
    exact ⟨this.1, Int.le_trans this.2 (by decide)⟩
  have h2 := sI_bd (u := 0) (c := 13) (f := fun x => sJ (iI ps x)) h1 (X + 1).toNat
  exact ⟨h2.1, Int.le_trans h2.2 (by omega)⟩
/-! the law's own call -/
def ds_law : FD := fun args R => ∃ ns : List Int, args = [.scr ns] ∧ ns.length ≤ 63 ∧ R (.bl true)
def sp_lawD (K : PySem.W.Frag) : Sp := spD K ds_law
theorem law_start {H : Hp} {a : Addr} {ns : List Int} (hl : ns.length ≤ 63) (hO : Only H) (hS : SqL K H a (ns.map V.int)) : sp_lawD K [.ref a] H (fun v _ => v = .bl true) fun _ _ _ => False := by
  have hF : SqF K H a (ns.map V.int) := by
    rcases hS with (h | h) | h
    · rcases hO a with z | ⟨o, xs, z⟩
      · rw [z] at h; cases h
      · rw [z] at h; cases h
    · exact .inl h
    · exact .inr h
  refine ⟨none, fun _ => False, [.scr ns], fun d => d = .bl true, fun _ z => z.elim, (fun _ z => nomatch z), .cons (.dat (.scr hF)) .nil, ⟨ns, rfl, hl, rfl⟩, fun d v H' hd _ r => ?_⟩
  subst hd
  cases r; rfl
/-! ### links found by themselves; the walk over data -/
local macro_rules | `(tactic| walk_at "len") => `(tactic| first | (intro h; exact congrArg List.length h.1) | (rintro ⟨_, h⟩; revert h; walk_at "len"))
local macro_rules | `(tactic| walk_at "lk1") => `(tactic| first
  | (with_reducible refine' lks_seq ?_ ?_) | (with_reducible refine' lks_cut ?_ ?_) | (with_reducible exact lks_next) | (with_reducible exact lks_break) | (with_reducible exact lks_cont) | (with_reducible exact lks_retN)
  | (with_reducible refine' lks_app ?_) | (with_reducible exact lks_pop) | (with_reducible refine' lks_drop ?_)
  | (with_reducible refine' lks_draws ?_)
  | (with_reducible refine' lks_asgN (lkn_sortset ?_)) | (with_reducible refine' lks_asgN (lkn_lst ?_)) | (with_reducible refine' lks_asgN (lkn_lstOf ?_)) | (with_reducible refine' lks_asgN (lkn_slL ?_ ?_ ?_)) | (with_reducible refine' lks_asgN (lkn_revL ?_)) | (with_reducible refine' lks_asgN (lkn_cat ?_ ?_)) | (with_reducible refine' lks_asgN (lkn_lc (hv := ?_) ?_ ?_ ?_ ?_))
  | (with_reducible refine' lks_asg ?_ ?_) | (with_reducible refine' lks_if ?_ ?_ ?_) | (with_reducible refine' lks_ret ?_) | (with_reducible refine' lks_aug ?_) | (with_reducible refine' lks_par ?_) | (with_reducible refine' lks_par3 ?_)
  | (with_reducible refine' lks_for ?_ ?_ ?_) | (with_reducible refine' lks_while ?_ ?_)
  | (with_reducible exact lk_var) | (with_reducible exact lk_int) | (with_reducible exact lk_bl) | (with_reducible exact lk_str) | (with_reducible exact lk_non) | (with_reducible exact lk_ref) | (with_reducible exact lk_ty)
  | (with_reducible refine' lk_op ?_ ?_ ?_) | (with_reducible refine' lk_un ?_) | (with_reducible refine' lk_if ?_ ?_ ?_) | (with_reducible refine' lk_andV ?_ ?_) | (with_reducible refine' lk_orV ?_ ?_) | (with_reducible refine' lk_notV ?_)
  | (with_reducible refine' lk_test ?_) | (with_reducible refine' lk_tB ?_) | (with_reducible refine' lk_and ?_ ?_) | (with_reducible refine' lk_or ?_ ?_) | (with_reducible refine' lk_not ?_) | (with_reducible refine' lk_tru ?_)
  | (with_reducible exact lk_nil) | (with_reducible refine' lk_cons ?_ ?_) | (with_reducible refine' lk_lst ?_) | (with_reducible refine' lk_tup ?_) | (with_reducible refine' lk_cb ?_ ?_) | (with_reducible exact lk_noPart) | (with_reducible refine' lk_part ?_) | (with_reducible refine' lk_chain ?_ ?_ ?_ ?_ ?_)
  | (with_reducible exact lkr_int0) | (with_reducible exact lkr_bl0) | (with_reducible exact lkr_intC) | (with_reducible exact lkr_eq) | (with_reducible exact lkr_ne) | (with_reducible exact lkr_ixL) | (with_reducible exact lkr_ixT) | (with_reducible exact lkr_ixQ) | (with_reducible exact lkr_cat) | (with_reducible exact lkr_catT) | (with_reducible exact lkr_repL) | (with_reducible exact lkr_ltT) | (with_reducible exact lkr_neP) | (with_reducible exact lkr_eqP) | (with_reducible exact lkr_eqD) | (with_reducible exact lkr_neD) | (with_reducible exact lkr_isN) | (with_reducible exact lkr_notN) | (with_reducible exact lkr_isB) | (with_reducible exact lkr_notB)
  | (with_reducible exact lkc_lenO) | (with_reducible exact lkc_reprO) | (with_reducible exact lkc_reprD) | (with_reducible exact lkr_addS) | (with_reducible exact lkc_len) | (with_reducible exact lkc_abs) | (with_reducible exact lkc_int) | (with_reducible exact lkc_max2) | (with_reducible exact lkc_min2) | (with_reducible exact lkc_sum) | (with_reducible exact lkc_max) | (with_reducible exact lkc_min) | (with_reducible exact lkc_all) | (with_reducible exact lkc_any) | (with_reducible exact lkc_tupOf) | (with_reducible exact lkc_lstOf) | (with_reducible exact lkc_isi)
  | (with_reducible refine' lk_slL ?_ ?_ ?_) | (with_reducible refine' lk_slT ?_ ?_ ?_) | (with_reducible refine' lk_revL ?_) | (with_reducible refine' lk_slX ?_ ?_ ?_ ?_)
  | (with_reducible refine' lk_call ?_) | (with_reducible refine' lk_callR ?_) | (with_reducible refine' lk_methD ?_ ?_) | (with_reducible refine' lk_makeD ?_) | (with_reducible refine' lk_meth2D ?_ ?_) | (with_reducible refine' lk_meth ?_ ?_) | (with_reducible refine' lk_prop ?_) | (with_reducible refine' lk_propG ?_) | (with_reducible refine' lk_fld ?_) | (with_reducible refine' lk_make ?_) | (with_reducible refine' lk_cval ?_) | (with_reducible refine' lk_cmeth ?_) | (with_reducible refine' lk_meth2 ?_ ?_)
  | (with_reducible refine' LkN.lk (lkn_lc (hv := ?_) ?_ ?_ ?_ ?_))
  | (with_reducible exact lkg_name) | (with_reducible exact lkg_nil) | (with_reducible refine' lkg_cons ?_ ?_) | (with_reducible refine' lkg_tup ?_)
  | (with_reducible refine' lki_list ?_) | (with_reducible refine' lki_tup ?_) | (with_reducible refine' lki_sq ?_) | (with_reducible refine' lki_r1 ?_) | (with_reducible refine' lki_r2 ?_) | (with_reducible refine' lki_enum ?_) | (with_reducible refine' lki_zip ?_)
  | (with_reducible exact lkt_yes))
local macro_rules | `(tactic| walk_at "lk") => `(tactic| ((repeat' walk_at "lk1"); (all_goals (try decide))))
local macro_rules | `(tactic| walk_at "env") => `(tactic| ((simp only [startD, List.map_cons, List.map_nil, List.length_cons, List.length_nil, List.replicate, List.cons_append, List.nil_append, Nat.reduceAdd, Nat.reduceSub, Nat.zero_add, List.set_cons_zero, List.set_cons_succ, wipeD, frz, undr]); exact rfl))
local macro_rules | `(tactic| walk_at "d1") => `(tactic| first
  | (with_reducible refine' dw_seq ?_) | (with_reducible refine' dw_fz ?_) | (with_reducible refine' dw_asg ?_) | (with_reducible refine' dw_dat ?_)
  | ((with_reducible refine' dw_name ?h ?_); (case h => walk_at "env"))
  | (with_reducible refine' dw_gtup ?_) | (with_reducible refine' dw_gcons ?_) | (with_reducible refine' dw_gnil ?_)
  | (with_reducible refine' dw_next ?_) | (with_reducible refine' dw_brk ?_) | (with_reducible refine' dw_cont ?_)
  | (with_reducible refine' dw_asgN ?_) | (with_reducible refine' dw_ifs ?_) | (with_reducible refine' dw_ret ?_) | (with_reducible refine' dw_retN ?_) | (with_reducible refine' dw_drop ?_)
  | ((with_reducible refine' dw_aug ?h ?_); (case h => exact rfl))
  | (with_reducible refine' dw_par ?_) | (with_reducible refine' dw_two ?_) | (with_reducible refine' dw_par3 ?_) | (with_reducible refine' dw_three ?_)
  | ((with_reducible refine' dw_app ?h ?l ?_); (case h => exact rfl); (case l => first | omega | (simp; done) | (simp; omega)))
  | (with_reducible refine' dw_for ?_)
  | ((with_reducible refine' dw_var ?h ?_); (case h => exact rfl))
  | (with_reducible refine' dw_c ?_) | (with_reducible refine' dw_op ?_) | (with_reducible refine' dw_II ?_) | (with_reducible refine' dw_IB ?_) | (with_reducible refine' dw_un ?_) | (with_reducible refine' dw_exI ?_) | (with_reducible refine' dw_exB ?_)
  | (with_reducible refine' dw_if ?_) | (with_reducible refine' dw_andV ?_) | (with_reducible refine' dw_orV ?_) | (with_reducible refine' dw_notV ?_) | (with_reducible refine' dw_test ?_) | (with_reducible refine' dw_and ?_) | (with_reducible refine' dw_or ?_) | (with_reducible refine' dw_not ?_)
  | (with_reducible refine' dw_nil ?_) | (with_reducible refine' dw_cons ?_) | (with_reducible refine' dw_lst ?_) | (with_reducible refine' dw_nlst ?_) | (with_reducible refine' dw_tup ?_) | (with_reducible refine' dw_all ?_) | (with_reducible refine' dw_cb ?_) | (with_reducible refine' dw_noPart ?_) | (with_reducible refine' dw_part ?_) | (with_reducible refine' dw_chain ?_)
  | (with_reducible refine' dw_eqI ?_) | (with_reducible refine' dw_neI ?_) | (with_reducible refine' dw_eqS ?_) | (with_reducible refine' dw_neS ?_) | (with_reducible refine' dw_ixT ?_) | (with_reducible refine' dw_isB ?_) | (with_reducible refine' dw_notB ?_)
  | (with_reducible refine' dw_len ?_) | (with_reducible refine' dw_abs ?_) | (with_reducible refine' dw_intI ?_) | (with_reducible refine' dw_intB ?_) | (with_reducible refine' dw_max2 ?_) | (with_reducible refine' dw_min2 ?_) | (with_reducible refine' dw_lstOf ?_) | (with_reducible refine' dw_nlstOf ?_) | (with_reducible refine' dw_tupOf ?_)
  | (with_reducible refine' dw_call ?_) | (with_reducible refine' dw_make ?_) | (with_reducible refine' dw_methD ?_) | (with_reducible refine' dw_meth2D ?_) | (with_reducible refine' dw_draws ?_) | (with_reducible refine' dw_nsort ?_) | (with_reducible refine' dw_meth ?_) | (with_reducible refine' dw_prop ?_) | (with_reducible refine' dw_propG ?_) | (with_reducible refine' dw_fld ?_) | (with_reducible refine' dw_cval ?_)
  | ((with_reducible refine' dw_dc ?h ?_); (case h => (simp only [List.map_nil, List.append_nil, List.map_cons, List.cons_append, List.nil_append, toDa]); exact rfl))
  | (with_reducible refine' dw_dc0 ?_)
  | (with_reducible refine' dw_new ?_) | (with_reducible refine' dw_slL ?_) | (with_reducible refine' dw_nslL ?_) | (with_reducible refine' dw_slT ?_) | (with_reducible refine' dw_revL ?_) | (with_reducible refine' dw_nrevL ?_) | (with_reducible refine' dw_ncat ?_) | (with_reducible refine' dw_lits ?_) | (with_reducible refine' dw_its1 ?_) | (with_reducible refine' dw_tups ?_)
  | (with_reducible refine' dw_diL ?_) | (with_reducible refine' dw_diT ?_) | (with_reducible refine' dw_diQ ?_) | (with_reducible refine' dw_diR1 ?_) | (with_reducible refine' dw_diR2 ?_) | (with_reducible refine' dw_diE ?_) | (with_reducible refine' dw_diZ ?_)
  | (with_reducible refine' dw_nlc ?_) | (with_reducible refine' dw_yes ?_) | (with_reducible refine' dw_tt ?_) | (with_reducible refine' dw_ff ?_) | (with_reducible refine' dw_nt ?_) | (with_reducible refine' dw_nf ?_) | (with_reducible refine' dw_tru ?_) | (with_reducible refine' dw_truI ?_))
local macro_rules | `(tactic| walk_at "d") => `(tactic| repeat walk_at "d1")
/-- the list is data; an own list -/
local macro_rules | `(tactic| walk_at "dl") => `(tactic| (refine Or.inl ?_; (refine' dw_put ?h ?_); (case h => walk_at "env")))
local macro_rules | `(tactic| walk_at "do") => `(tactic| (refine Or.inr ?_; (refine' dw_put ?h ?_); (case h => walk_at "env")))
/-- own lists become data -/
local macro_rules | `(tactic| walk_at "fz") => `(tactic| ((refine' dw_frz ?h ?_); (case h => walk_at "env")))
/-- the names of a body -/
local macro_rules | `(tactic| walk_at "ds") => `(tactic| ((refine ⟨Nat.le_of_ble_eq_true rfl, ?_⟩); (refine' dw_st ?h ?_); (case h => walk_at "env")))

/-! #### Polygon.middle -/
def ds_Polygon_middle (K : PySem.W.Frag) : FD := fun args R => ∃ (C : Addr) (ps : List Pt), args = [pgD C ps] ∧ PgC K C ∧ 0 < ps.length ∧ ps.length ≤ 1000 ∧ R (.tup ((mid ps).map .int))
theorem ok_Polygon_middle (T : Tx K mg) : FnOk P w K mg base (L2.CX P w) 4 (He5.wf K (He.ga K "Polygon") "property" "middle") (fdOf K (He5.wf K (He.ga K "Polygon") "property" "middle")) ["self"] (spD K (ds_Polygon_middle K)) := by
  have hlen : ∀ args R, (ds_Polygon_middle K) args R → args.length = 1 := by
    intro args R
    walk_at "len"
  refine T.d_Polygon_middle.ok sc_Polygon_middle (fun vs H Q E h => ?hl) (fun cdv A outer s H vs Q E hr h => ?hb)
  case hl =>
    obtain ⟨_, _, args, R, _, _, ra, hd, _⟩ := h
    exact ra.length.trans (hlen args R hd)
  case hb =>
  refine ⟨_, (pss_cons (ps_set (i := 1) sc_Polygon_middle.nd rfl (Or.inl rfl) (pe_callB (kSum (K := K) rfl) (by rfl) T.n_sum (by decide +kernel) (pa_cons (pe_lc (own := [("corner", 4)]) (g := (gName 4)) (tt := tYes) rfl sc_Polygon_middle.nd (kpiT (K := K) (kFld (K := K) (pe_fld (pv 0) rfl))) (blkOk_by (own := [("corner", 4)]) (N := ["self", "x", "y", "divisor", "corner"]) (sc := defScope s_Polygon_middle) (by decide +kernel)) (fun _ _ _ _ _ => (pg_name (i := 4) sc_Polygon_middle.nd rfl (Or.inl rfl))) (fun _ _ _ _ _ => pts_nil) (fun _ _ _ _ _ => (pe_ix (kIxT (K := K)) (pv 4) pe_int (fun _ _ => rfl)))) pa_nil)))
      (pss_cons (ps_set (i := 2) sc_Polygon_middle.nd rfl (Or.inl rfl) (pe_callB (kSum (K := K) rfl) (by rfl) T.n_sum (by decide +kernel) (pa_cons (pe_lc (own := [("corner", 4)]) (g := (gName 4)) (tt := tYes) rfl sc_Polygon_middle.nd (kpiT (K := K) (kFld (K := K) (pe_fld (pv 0) rfl))) (blkOk_by (own := [("corner", 4)]) (N := ["self", "x", "y", "divisor", "corner"]) (sc := defScope s_Polygon_middle) (by decide +kernel)) (fun _ _ _ _ _ => (pg_name (i := 4) sc_Polygon_middle.nd rfl (Or.inl rfl))) (fun _ _ _ _ _ => pts_nil) (fun _ _ _ _ _ => (pe_ix (kIxT (K := K)) (pv 4) pe_int (fun _ _ => rfl)))) pa_nil)))
      (pss_cons (ps_set (i := 3) sc_Polygon_middle.nd rfl (Or.inl rfl) (pe_callR (ok_greatest_divisor (K := K) T) (hr.mono (by decide)) rfl T.g_greatest_divisor T.d_greatest_divisor.kp (passAll (passes_call (takes_of rfl rfl rfl rfl) (fun _ _ _ _ h => h))) (pa_cons (pv 1) (pa_cons (pv 2) (pa_cons (pe_callB (kLen (K := K)) (by rfl) T.n_len (by decide +kernel) (pa_cons (kFld (K := K) (pe_fld (pv 0) rfl)) pa_nil)) pa_nil)))))
      (pss_one (ps_ret (pe_tup (pa_cons (pe_op op_fdivW (pv 1) (pv 3)) (pa_cons (pe_op op_fdivW (pv 2) (pv 3)) (pa_cons (pe_op op_fdivW (pe_callB (kLen (K := K)) (by rfl) T.n_len (by decide +kernel) (pa_cons (kFld (K := K) (pe_fld (pv 0) rfl)) pa_nil)) (pv 3)) pa_nil))))))))), ?_⟩
  refine body_ok (names := ["self", "x", "y", "divisor", "corner"]) (db := ?_) h ?lk ?hn
  case lk => exact CS.h
  case hn =>
  intro args R h
  obtain ⟨C, ps, rfl, pc, h0, hl, q⟩ := h
  walk_at "ds"
  walk_at "d"
  refine ⟨_, _, _, rfl, pc.ins.cl, pc.nk, rfl, ?_⟩
  walk_at "d"
  refine dw_map (f := pt) (g := fun p => .int p.1) (by omega) (fun p hp R r => ?_) ?_
  · walk_at "d"
    exact r
  walk_at "d"
  refine ⟨_, _, rfl, lits_map ps Prod.fst, ?_⟩
  walk_at "d"
  refine ⟨_, _, _, rfl, pc.ins.cl, pc.nk, rfl, ?_⟩
  walk_at "d"
  refine dw_map (f := pt) (g := fun p => .int p.2) (by omega) (fun p hp R r => ?_) ?_
  · walk_at "d"
    exact r
  walk_at "d"
  refine ⟨_, _, rfl, lits_map ps Prod.snd, ?_⟩
  walk_at "d"
  refine ⟨_, _, _, rfl, pc.ins.cl, pc.nk, rfl, ?_⟩
  walk_at "d"
  rw [List.length_map]
  refine ⟨[_, _, _], rfl, Nat.le_of_ble_eq_true rfl, ?_⟩
  walk_at "d"
  refine dw_IC (gcd3_div (by omega) (by omega)) ?_
  walk_at "d"
  refine dw_IC (gcd3_div (by omega) (by omega)) ?_
  walk_at "d"
  refine ⟨_, _, _, rfl, pc.ins.cl, pc.nk, rfl, ?_⟩
  walk_at "d"
  rw [List.length_map]
  refine dw_IC (gcd3_div (by omega) (by omega)) ?_
  walk_at "d"
  refine ⟨rfl, q⟩
/-! #### _law_middle -/
def ds_law_middle : FD := fun args R => ∃ ps : List Pt, args = [.lst (ps.map pt)] ∧ 0 < ps.length ∧ ps.length ≤ 1000 ∧ R (.tup ((mid ps).map .int))
theorem ok_law_middle (T : Tx K mg) : FnOk P w K mg base CX0 2 (He.ga K "_law_middle") (fdOf K (He.ga K "_law_middle")) ["_law_corners"] (spD K (ds_law_middle)) := by
  have hlen : ∀ args R, (ds_law_middle) args R → args.length = 1 := by
    intro args R
    walk_at "len"
  refine T.d_law_middle.ok sc_law_middle (fun vs H Q E h => ?hl) (fun cdv A outer s H vs Q E hr h => ?hb)
  case hl =>
    obtain ⟨_, _, args, R, _, _, ra, hd, _⟩ := h
    exact ra.length.trans (hlen args R hd)
  case hb =>
  refine ⟨_, PSs.nox (pss_cons (ps_par3 (i := 1) (j := 2) (l := 3) (by rfl) sc_law_middle.nd rfl rfl rfl (by decide) (by decide) (by decide) rfl rfl rfl (pa_cons (pe_callB (kSum (K := K) rfl) (by rfl) T.n_sum (by decide +kernel) (pa_cons (pe_lc (own := [("_law_corner", 5)]) (g := (gName 5)) (tt := tYes) rfl sc_law_middle.nd (kpiL (K := K) (pv 0)) (blkOk_by (own := [("_law_corner", 5)]) (N := ["_law_corners", "_law_x", "_law_y", "_law_by", "_law_divisor_here", "_law_corner"]) (sc := defScope s_law_middle) (by decide +kernel)) (fun _ _ _ _ _ => (pg_name (i := 5) sc_law_middle.nd rfl (Or.inl rfl))) (fun _ _ _ _ _ => pts_nil) (fun _ _ _ _ _ => (pe_ix (kIxT (K := K)) (pv 5) pe_int (fun _ _ => rfl)))) pa_nil)) (pa_cons (pe_callB (kSum (K := K) rfl) (by rfl) T.n_sum (by decide +kernel) (pa_cons (pe_lc (own := [("_law_corner", 5)]) (g := (gName 5)) (tt := tYes) rfl sc_law_middle.nd (kpiL (K := K) (pv 0)) (blkOk_by (own := [("_law_corner", 5)]) (N := ["_law_corners", "_law_x", "_law_y", "_law_by", "_law_divisor_here", "_law_corner"]) (sc := defScope s_law_middle) (by decide +kernel)) (fun _ _ _ _ _ => (pg_name (i := 5) sc_law_middle.nd rfl (Or.inl rfl))) (fun _ _ _ _ _ => pts_nil) (fun _ _ _ _ _ => (pe_ix (kIxT (K := K)) (pv 5) pe_int (fun _ _ => rfl)))) pa_nil)) (pa_cons (pe_callB (kLen (K := K)) (by rfl) T.n_len (by decide +kernel) (pa_cons (pv 0) pa_nil)) pa_nil))) (by rfl))
      (pss_cons (ps_set (i := 4) sc_law_middle.nd rfl (Or.inl rfl) (pe_call (ok_law_divisor (K := K) T) (hr.mono (by decide)) rfl T.g_law_divisor T.d_law_divisor.kp (bn_law_divisor T) .nil pass0 (pa_cons (pe_call (ok_law_divisor (K := K) T) (hr.mono (by decide)) rfl T.g_law_divisor T.d_law_divisor.kp (bn_law_divisor T) .nil pass0 (pa_cons (pv 1) (pa_cons (pv 2) pa_nil))) (pa_cons (pv 3) pa_nil))))
      (pss_one (ps_ret (pe_tup (pa_cons (pe_op op_fdivW (pv 1) (pv 4)) (pa_cons (pe_op op_fdivW (pv 2) (pv 4)) (pa_cons (pe_op op_fdivW (pv 3) (pv 4)) pa_nil)))))))), ?_⟩
  refine body_ok (names := ["_law_corners", "_law_x", "_law_y", "_law_by", "_law_divisor_here", "_law_corner"]) (db := ?_) h ?lk ?hn
  case lk => exact CS.h
  case hn =>
  intro args R h
  obtain ⟨ps, rfl, h0, hl, q⟩ := h
  walk_at "ds"
  walk_at "d"
  refine dw_map (f := pt) (g := fun p => .int p.1) (by omega) (fun p hp R r => ?_) ?_
  · walk_at "d"
    exact r
  walk_at "d"
  refine ⟨_, _, rfl, lits_map ps Prod.fst, ?_⟩
  walk_at "d"
  refine dw_map (f := pt) (g := fun p => .int p.2) (by omega) (fun p hp R r => ?_) ?_
  · walk_at "d"
    exact r
  walk_at "d"
  refine ⟨_, _, rfl, lits_map ps Prod.snd, ?_⟩
  walk_at "d"
  rw [List.length_map]
  refine ⟨_, _, rfl, ?_⟩
  walk_at "d"
  refine ⟨_, _, rfl, ?_⟩
  rw [← gcd3]
  walk_at "d"
  refine dw_IC (gcd3_div (by omega) (by omega)) ?_
  walk_at "d"
  refine dw_IC (gcd3_div (by omega) (by omega)) ?_
  walk_at "d"
  refine dw_IC (gcd3_div (by omega) (by omega)) ?_
  walk_at "d"
  refine ⟨rfl, q⟩
/-! #### law -/
theorem ok_law (T : Tx K mg) : FnOk P w K mg base CX0 9 (He.ga K "law") (fdOf K (He.ga K "law")) ["_law_script"] (spD K (ds_law)) := by
  have hlen : ∀ args R, (ds_law) args R → args.length = 1 := by
    intro args R
    walk_at "len"
  refine T.d_law.ok sc_law (fun vs H Q E h => ?hl) (fun cdv A outer s H vs Q E hr h => ?hb)
  case hl =>
    obtain ⟨_, _, args, R, _, _, ra, hd, _⟩ := h
    exact ra.length.trans (hlen args R hd)
  case hb =>
  refine ⟨_, PSs.nox (pss_cons (ps_for PassesOwn.never rfl (pi_range1 rfl T.n_range (pa_cons (pe_callB (cMax2 rfl) (by rfl) T.n_max (by decide +kernel) (pa_cons pe_int (pa_cons (pe_callB (cMin2 rfl) (by rfl) T.n_min (by decide +kernel) (pa_cons pe_int (pa_cons (pe_callB (kLen (K := K)) (by rfl) T.n_len (by decide +kernel) (pa_cons (pv 0) pa_nil)) pa_nil))) pa_nil))) pa_nil)) (pg_name (i := 1) sc_law.nd rfl (Or.inl rfl))
      (pss_cons (ps_set (i := 2) sc_law.nd rfl (Or.inl rfl) (pe_call (ok_law_draws (K := K) T) (hr.mono (by decide)) rfl T.g_law_draws T.d_law_draws.kp (bn_law_draws T) .nil pass0 (pa_cons (pv 0) (pa_cons (pv 1) pa_nil))))
      (pss_cons (ps_set (i := 3) sc_law.nd rfl (Or.inl rfl) (pe_call (ok_law_simple (K := K) T) (hr.mono (by decide)) rfl T.g_law_simple T.d_law_simple.kp (bn_law_simple T) .nil pass0 (pa_cons (pv 2) (pa_cons pe_int pa_nil))))
      (pss_cons (ps_set (i := 4) sc_law.nd rfl (Or.inl rfl) (pe_makeA T.k_Polygon (FnOk.raw (ok_Polygon_init (K := K) T) (bn_Polygon_init T) .nil) (hr.mono (by decide)) rfl T.g_Polygon (passAll passL) (pa_cons (pv 3) pa_nil)))
      (pss_cons (ps_asg (pe_tup (pa_cons pe_int (pa_cons pe_int pa_nil))) (kpgTup (K := K) (n := 2) rfl (pgs_cons (pg_name (i := 5) sc_law.nd rfl (Or.inl rfl)) (pgs_cons (pg_name (i := 6) sc_law.nd rfl (Or.inl rfl)) pgs_nil))))
      (pss_cons (ps_for PassesOwn.never rfl (pi_range1 rfl T.n_range (pa_cons (pe_op op_add (pe_callB (kMaxL (K := K) rfl) (by rfl) T.n_max (by decide +kernel) (pa_cons (pe_lc (own := [("_law_corner", 10)]) (g := (gName 10)) (tt := tYes) rfl sc_law.nd (kpiL (K := K) (pv 3)) (blkOk_by (own := [("_law_corner", 10)]) (N := ["_law_script", "_law_k", "_law_draws_here", "_law_corners", "_law_polygon", "_law_border", "_law_inside", "_law_x", "_law_y", "_law_word", "_law_corner"]) (sc := defScope s_law) (by decide +kernel)) (fun _ _ _ _ _ => (pg_name (i := 10) sc_law.nd rfl (Or.inl rfl))) (fun _ _ _ _ _ => pts_nil) (fun _ _ _ _ _ => (pe_ix (kIxT (K := K)) (pv 10) pe_int (fun _ _ => rfl)))) pa_nil)) pe_int) pa_nil)) (pg_name (i := 7) sc_law.nd rfl (Or.inl rfl))
      (pss_one (ps_for PassesOwn.never rfl (pi_range2 rfl T.n_range (pa_cons (pe_un un_neg pe_int) (pa_cons pe_int pa_nil))) (pg_name (i := 8) sc_law.nd rfl (Or.inl rfl))
      (pss_cons (ps_set (i := 9) sc_law.nd rfl (Or.inl rfl) (pe_methA (pv 4) T.y_Polygon.cl T.m_Polygon_locate (FnOk.raw (ok_Polygon_locate (K := K) T) (bn_Polygon_locate T) .nil) (hr.mono (by decide)) (passAll passL) (pa_cons (pe_tup (pa_cons (pv 7) (pa_cons (pv 8) pa_nil))) pa_nil)))
      (pss_cons (ps_set (i := 5) sc_law.nd rfl (Or.inl rfl) (pe_op op_add (pv 5) (pe_callTy cInt1 (by rfl) T.n_int (by decide +kernel) (pa_cons (pe_cmpR op_eq (pv 9) pe_str (nomark _)) pa_nil))))
      (pss_one (ps_set (i := 6) sc_law.nd rfl (Or.inl rfl) (pe_op op_add (pv 6) (pe_callTy cInt1 (by rfl) T.n_int (by decide +kernel) (pa_cons (pe_cmpR op_eq (pv 9) pe_str (nomark _)) pa_nil))))))))))
      (pss_cons (ps_if (pt_cmpR (kNeD (K := K) hr.units) (pe_tup (pa_cons (pe_propG (K := K) (p := He.ma K (He.ga K "Polygon") "border_points") (g := He5.wf K (He.ga K "Polygon") "property" "border_points") (pv 4) (ok_Polygon_border_points (K := K) T) (hr.mono (by decide)) (bn_Polygon_border_points T) .nil pass0) (pa_cons (pe_propG (K := K) (p := He.ma K (He.ga K "Polygon") "inner_points") (g := He5.wf K (He.ga K "Polygon") "property" "inner_points") (pv 4) (ok_Polygon_inner_points (K := K) T) (hr.mono (by decide)) (bn_Polygon_inner_points T) .nil pass0) (pa_cons (pe_propG (K := K) (p := He.ma K (He.ga K "Polygon") "total_points") (g := He5.wf K (He.ga K "Polygon") "property" "total_points") (pv 4) (ok_Polygon_total_points (K := K) T) (hr.mono (by decide)) (bn_Polygon_total_points T) .nil pass0) pa_nil)))) (pe_tup (pa_cons (pv 5) (pa_cons (pv 6) (pa_cons (pe_op op_add (pv 5) (pv 6)) pa_nil)))) (nomark _)) (pss_one (ps_ret pe_bl)) pss_nil)
      (pss_one (ps_if (PW.pt (pw_or (pt_cmpR op_ne (pe_propG (K := K) (p := He.ma K (He.ga K "Polygon") "double_area") (g := He5.wf K (He.ga K "Polygon") "property" "double_area") (pv 4) (ok_Polygon_double_area (K := K) T) (hr.mono (by decide)) (bn_Polygon_double_area T) .nil pass0) (pe_op op_sub (pe_op op_add (pe_op op_mulA pe_int (pv 6)) (pv 5)) pe_int) (nomark _)) (pw_or1 (pt_cmpR (kNeD (K := K) hr.units) (pe_propG (K := K) (p := He.ma K (He.ga K "Polygon") "middle") (g := He5.wf K (He.ga K "Polygon") "property" "middle") (pv 4) (ok_Polygon_middle (K := K) T) (hr.mono (by decide)) (bn_Polygon_middle T) .nil passL) (pe_call (ok_law_middle (K := K) T) (hr.mono (by decide)) rfl T.g_law_middle T.d_law_middle.kp (bn_law_middle T) .nil pass0 (pa_cons (pv 3) pa_nil)) (nomark _))))) (pss_one (ps_ret pe_bl)) pss_nil)))))))))
      (pss_one (ps_ret pe_bl))), ?_⟩
  refine body_ok (names := ["_law_script", "_law_k", "_law_draws_here", "_law_corners", "_law_polygon", "_law_border", "_law_inside", "_law_x", "_law_y", "_law_word", "_law_corner"]) (db := ?_) h ?lk ?hn
  case lk => exact CS.h
  case hn =>
  intro args R h
  obtain ⟨ns, rfl, hlen, q⟩ := h
  walk_at "ds"
  walk_at "d"
  refine ⟨_, rfl, by omega, by omega, rfl, fun _ env' => ∃ (o1 : Option Da) (o2 : Option Da) (o3 : Option Da) (o4 : Option Da) (o5 : Option Da) (o6 : Option Da) (o7 : Option Da) (o8 : Option Da) (o9 : Option Da), env' = [some (.scr ns), o1, o2, o3, o4, o5, o6, o7, o8, o9, none], ⟨_, _, _, _, _, _, _, _, _, rfl⟩, ?_, ?_⟩
  rotate_left
  · rintro env' ⟨o1, o2, o3, o4, o5, o6, o7, o8, o9, rfl⟩
    walk_at "fz"
    walk_at "d"
    refine ⟨rfl, q⟩
  rintro k x env' hx ⟨o1, o2, o3, o4, o5, o6, o7, o8, o9, rfl⟩
  obtain ⟨hi, rfl⟩ := rng0_at hx
  walk_at "d"
  refine ⟨ns, _, rfl, hlen, by omega, by omega, ?_⟩
  with_reducible refine' dw_undr (by simp only [List.map_cons, List.map_nil, List.set_cons_succ, List.set_cons_zero, undr]; exact rfl) ?_
  walk_at "d"
  refine ⟨rfl, fun ps hs => ?_⟩
  obtain ⟨hg, h3, h20, hb, X, B, A, eps, hM, hX0, hX1, hy⟩ := hs
  obtain ⟨pk1, pk2⟩ := pick hM (by rw [← eps]; exact hy)
  have hA := hM.are
  have hmx := @max_fst X
  rw [← eps] at pk1 pk2 hA
  walk_at "d"
  refine ⟨_, ps, rfl, rfl, pgc T, h3, by omega, hg, allBd_mono (by decide) hb, ?_⟩
  walk_at "d"
  refine dw_map (f := pt) (g := fun p => .int p.1) (by omega) (fun p hp R r => ?_) ?_
  · walk_at "d"
    exact r
  walk_at "d"
  refine ⟨_, _, rfl, lits_map ps Prod.fst, by rw [List.length_map]; omega, fun m hm hle => ?_⟩
  obtain rfl : m = X := max_fst hM (by rw [← eps]; exact hm) (by rw [← eps]; exact hle)
  have lA : (arr ps).length = ps.length := arr_len ps
  have bA : AllBd 40000 (arr ps) := arr_bd (allBd_mono (by decide) hb)
  have sS : ∀ (f : Int → Int → Int), boxS m f = sI 0 (m + 1).toNat fun x => sJ (f x) := fun f => rfl
  clear hm hle hmx
  walk_at "d"
  refine ⟨_, rfl, by omega, by omega, rfl, fun i env' => ∃ vb vi : Int, vb = sI 0 i (fun x => sJ (bI ps x)) ∧ vi = sI 0 i (fun x => sJ (iI ps x)) ∧ ∃ (o1 : Option Da) (o2 : Option Da) (o7 : Option Da) (o8 : Option Da) (o9 : Option Da), env' = [some (.scr ns), o1, o2, some (.lst (ps.map pt)), some (pgD (He.ga K "Polygon") (arr ps)), some (.int vb), some (.int vi), o7, o8, o9, none], ⟨_, _, rfl, rfl, ⟨_, _, _, _, _, rfl⟩⟩, ?_, ?_⟩
  · rintro i x env' hx ⟨vb, vi, hvb, hvi, ⟨o1, o2, o7, o8, o9, rfl⟩⟩
    obtain ⟨hi, rfl⟩ := rng0_at hx
    walk_at "d"
    refine ⟨_, _, rfl, by omega, rfl, fun j env' => ∃ wb wi : Int, wb = vb + sI (-6) j (bI ps i) ∧ wi = vi + sI (-6) j (iI ps i) ∧ ∃ (o1 : Option Da) (o2 : Option Da) (o8 : Option Da) (o9 : Option Da), env' = [some (.scr ns), o1, o2, some (.lst (ps.map pt)), some (pgD (He.ga K "Polygon") (arr ps)), some (.int wb), some (.int wi), some (.int (i : Int)), o8, o9, none], ?_, ?_, ?_⟩
    · exact ⟨_, _, (Int.add_zero _).symm, (Int.add_zero _).symm, ⟨_, _, _, _, rfl⟩⟩
    · rintro j y env' hx ⟨wb, wi, hwb, hwi, ⟨o1, o2, o8, o9, rfl⟩⟩
      obtain ⟨hj, rfl⟩ := rng_at hx
      walk_at "d"
      refine ⟨_, rfl, rfl, ?_⟩
      walk_at "d"
      have hi2 : -10000 ≤ (i : Int) ∧ (i : Int) ≤ 10000 := by omega
      have hj2 : -10000 ≤ -6 + (j : Int) ∧ -6 + (j : Int) ≤ 10000 := by omega
      refine ⟨_, arr ps, ((i : Int), -6 + (j : Int)), rfl, pgc T, bA, by omega, PBd.of hi2 hj2, ?_⟩
      rw [loc_arr]
      walk_at "d"
      refine ⟨_, _, ?_, ?_, ⟨_, _, _, _, rfl⟩⟩
      · rw [hwb]
        show _ = vb + (sI (-6) j (bI ps i) + bI ps i (-6 + (j : Int)))
        unfold bI
        simp only [decide_eq_true_eq, V.str.injEq]
        exact Int.add_assoc _ _ _
      · rw [hwi]
        show _ = vi + (sI (-6) j (iI ps i) + iI ps i (-6 + (j : Int)))
        unfold iI
        simp only [decide_eq_true_eq, V.str.injEq]
        exact Int.add_assoc _ _ _
    · rintro env' ⟨wb, wi, hwb, hwi, ⟨o1, o2, o8, o9, rfl⟩⟩
      rw [rng_len] at hwb hwi
      walk_at "d"
      refine ⟨_, _, ?_, ?_, ⟨_, _, _, _, _, rfl⟩⟩
      · rw [hwb, hvb]
        show _ = (sI 0 i fun x => sJ (bI ps x)) + sJ (bI ps (0 + (i : Int)))
        rw [Int.zero_add]; rfl
      · rw [hwi, hvi]
        show _ = (sI 0 i fun x => sJ (iI ps x)) + sJ (iI ps (0 + (i : Int)))
        rw [Int.zero_add]; rfl
  · rintro env' ⟨vb, vi, hvb, hvi, ⟨o1, o2, o7, o8, o9, rfl⟩⟩
    rw [rng_len] at hvb hvi
    have hvb : vb = boxS m (bI ps) := hvb
    have hvi : vi = boxS m (iI ps) := hvi
    have eB : brd (arr ps) = vb := by rw [brd_arr, hvb, pk1]
    have eA : are (arr ps) = 2 * vi + vb - 2 := by
      rw [arr_are, hvi, hvb, ← pk2]; omega
    have eI : inN (arr ps) = vi := by unfold inN; rw [eA, eB]; omega
    walk_at "d"
    refine ⟨_, _, rfl, (pgc T).ins.cl, T.m_Polygon_border_points, ?_⟩
    walk_at "d"
    refine ⟨_, _, rfl, pgc T, by omega, ?_⟩
    walk_at "d"
    refine ⟨_, _, rfl, (pgc T).ins.cl, T.m_Polygon_inner_points, ?_⟩
    walk_at "d"
    refine ⟨_, _, rfl, pgc T, T.m_Polygon_double_area, T.m_Polygon_border_points, bA, by omega, ?_⟩
    walk_at "d"
    refine ⟨_, _, rfl, (pgc T).ins.cl, T.m_Polygon_total_points, ?_⟩
    walk_at "d"
    refine ⟨_, _, rfl, pgc T, T.m_Polygon_double_area, T.m_Polygon_border_points, T.m_Polygon_inner_points, bA, by omega, ?_⟩
    rw [show toN (arr ps) = vb + vi by unfold toN; rw [eI, eB]; omega, eI, eB]
    walk_at "d"
    refine dw_neR (p := .tuple [.int vb, .int vi, .int (vb + vi)]) (.inl rfl) (.inl rfl) rfl ?_
    walk_at "d"
    refine ⟨_, _, rfl, (pgc T).ins.cl, T.m_Polygon_double_area, ?_⟩
    walk_at "d"
    refine ⟨_, _, rfl, pgc T, bA, by omega, ?_⟩
    rw [eA]
    walk_at "d"
    refine dw_IC ?_ ?_
    · have := box_bd (ps := ps) hX0 hX1
      rw [← hvi] at this
      exact Bd.ok (n := 2) (m := 15) (show (2 : Int).natAbs < 2 ^ 2 by decide) (show vi.natAbs < 2 ^ 15 by omega)
    walk_at "d"
    refine r_ndec (fun z => absurd rfl z) (fun _ => ?_)
    walk_at "d"
    refine ⟨_, _, rfl, (pgc T).ins.cl, T.m_Polygon_middle, ?_⟩
    walk_at "d"
    refine ⟨_, _, rfl, pgc T, by omega, by omega, ?_⟩
    walk_at "d"
    refine ⟨ps, rfl, by omega, by omega, ?_⟩
    rw [mid_arr]
    refine dw_neR (p := .tuple ((mid ps).map .int)) (.inl rfl) (.inl rfl) rfl ?_
    walk_at "d"
    exact ⟨_, _, _, _, _, _, _, _, _, rfl⟩

end
end G
namespace G
open PySem PySem.Spec PyProof.Rows L2
def dd_is_integer : He5.DefA := ⟨fun K => (He.ga K "is_integer"), "is_integer", "is_integer", defArgs s_is_integer, defBody s_is_integer, defScope s_is_integer, [], []⟩
def dd_check_integer : He5.DefA := ⟨fun K => (He.ga K "check_integer"), "check_integer", "check_integer", defArgs s_check_integer, defBody s_check_integer, defScope s_check_integer, [.non], []⟩
def dd_common_divisor : He5.DefA := ⟨fun K => (He.ga K "common_divisor"), "common_divisor", "common_divisor", defArgs s_common_divisor, defBody s_common_divisor, defScope s_common_divisor, [], []⟩
def dd_greatest_divisor : He5.DefA := ⟨fun K => (He.ga K "greatest_divisor"), "greatest_divisor", "greatest_divisor", defArgs s_greatest_divisor, defBody s_greatest_divisor, defScope s_greatest_divisor, [], []⟩
def dd_is_point : He5.DefA := ⟨fun K => (He.ga K "is_point"), "is_point", "is_point", defArgs s_is_point, defBody s_is_point, defScope s_is_point, [], []⟩
def dd_check_point : He5.DefA := ⟨fun K => (He.ga K "check_point"), "check_point", "check_point", defArgs s_check_point, defBody s_check_point, defScope s_check_point, [], []⟩
def dd_cross_of : He5.DefA := ⟨fun K => (He.ga K "cross_of"), "cross_of", "cross_of", defArgs s_cross_of, defBody s_cross_of, defScope s_cross_of, [], []⟩
def dd_difference : He5.DefA := ⟨fun K => (He.ga K "difference"), "difference", "difference", defArgs s_difference, defBody s_difference, defScope s_difference, [], []⟩
def dd_turn_of : He5.DefA := ⟨fun K => (He.ga K "turn_of"), "turn_of", "turn_of", defArgs s_turn_of, defBody s_turn_of, defScope s_turn_of, [], []⟩
def dd_InvalidPolygon_init : He5.DefA := ⟨fun K => (He.ma K (He.ga K "InvalidPolygon") "__init__"), "__init__", "InvalidPolygon.__init__", defArgs s_InvalidPolygon_init, defBody s_InvalidPolygon_init, defScope s_InvalidPolygon_init, [], []⟩
def dd_DegenerateCorner_init : He5.DefA := ⟨fun K => (He.ma K (He.ga K "DegenerateCorner") "__init__"), "__init__", "DegenerateCorner.__init__", defArgs s_DegenerateCorner_init, defBody s_DegenerateCorner_init, defScope s_DegenerateCorner_init, [], []⟩
def dd_CrossingEdges_init : He5.DefA := ⟨fun K => (He.ma K (He.ga K "CrossingEdges") "__init__"), "__init__", "CrossingEdges.__init__", defArgs s_CrossingEdges_init, defBody s_CrossingEdges_init, defScope s_CrossingEdges_init, [], []⟩
def dd_check_points : He5.DefA := ⟨fun K => (He.ga K "check_points"), "check_points", "check_points", defArgs s_check_points, defBody s_check_points, defScope s_check_points, [], []⟩
def dd_triples : He5.DefA := ⟨fun K => (He.ga K "triples"), "triples", "triples", defArgs s_triples, defBody s_triples, defScope s_triples, [], []⟩
def dd_check_turns : He5.DefA := ⟨fun K => (He.ga K "check_turns"), "check_turns", "check_turns", defArgs s_check_turns, defBody s_check_turns, defScope s_check_turns, [], []⟩
def dd_is_between : He5.DefA := ⟨fun K => (He.ga K "is_between"), "is_between", "is_between", defArgs s_is_between, defBody s_is_between, defScope s_is_between, [], []⟩
def dd_is_on : He5.DefA := ⟨fun K => (He.ga K "is_on"), "is_on", "is_on", defArgs s_is_on, defBody s_is_on, defScope s_is_on, [], []⟩
def dd_have_common_point : He5.DefA := ⟨fun K => (He.ga K "have_common_point"), "have_common_point", "have_common_point", defArgs s_have_common_point, defBody s_have_common_point, defScope s_have_common_point, [], []⟩
def dd_edges_of : He5.DefA := ⟨fun K => (He.ga K "edges_of"), "edges_of", "edges_of", defArgs s_edges_of, defBody s_edges_of, defScope s_edges_of, [], []⟩
def dd_check_crossings : He5.DefA := ⟨fun K => (He.ga K "check_crossings"), "check_crossings", "check_crossings", defArgs s_check_crossings, defBody s_check_crossings, defScope s_check_crossings, [], []⟩
def dd_area_of : He5.DefA := ⟨fun K => (He.ga K "area_of"), "area_of", "area_of", defArgs s_area_of, defBody s_area_of, defScope s_area_of, [], []⟩
def dd_arranged : He5.DefA := ⟨fun K => (He.ga K "arranged"), "arranged", "arranged", defArgs s_arranged, defBody s_arranged, defScope s_arranged, [], []⟩
def dd_checked_corners : He5.DefA := ⟨fun K => (He.ga K "checked_corners"), "checked_corners", "checked_corners", defArgs s_checked_corners, defBody s_checked_corners, defScope s_checked_corners, [], []⟩
def dd_first_reflex : He5.DefA := ⟨fun K => (He.ga K "first_reflex"), "first_reflex", "first_reflex", defArgs s_first_reflex, defBody s_first_reflex, defScope s_first_reflex, [], []⟩
def dd_Polygon_init : He5.DefA := ⟨fun K => (He.ma K (He.ga K "Polygon") "__init__"), "__init__", "Polygon.__init__", defArgs s_Polygon_init, defBody s_Polygon_init, defScope s_Polygon_init, [], []⟩
def dd_Polygon_corners : He5.DefA := ⟨fun K => (He5.wf K (He.ga K "Polygon") "property" "corners"), "corners", "Polygon.corners", defArgs s_Polygon_corners, defBody s_Polygon_corners, defScope s_Polygon_corners, [], []⟩
def dd_content_of : He5.DefA := ⟨fun K => (He.ga K "content_of"), "content_of", "content_of", defArgs s_content_of, defBody s_content_of, defScope s_content_of, [], []⟩
def dd_Polygon_double_area : He5.DefA := ⟨fun K => (He5.wf K (He.ga K "Polygon") "property" "double_area"), "double_area", "Polygon.double_area", defArgs s_Polygon_double_area, defBody s_Polygon_double_area, defScope s_Polygon_double_area, [], []⟩
def dd_Polygon_border_points : He5.DefA := ⟨fun K => (He5.wf K (He.ga K "Polygon") "property" "border_points"), "border_points", "Polygon.border_points", defArgs s_Polygon_border_points, defBody s_Polygon_border_points, defScope s_Polygon_border_points, [], []⟩
def dd_Polygon_inner_points : He5.DefA := ⟨fun K => (He5.wf K (He.ga K "Polygon") "property" "inner_points"), "inner_points", "Polygon.inner_points", defArgs s_Polygon_inner_points, defBody s_Polygon_inner_points, defScope s_Polygon_inner_points, [], []⟩
def dd_Polygon_total_points : He5.DefA := ⟨fun K => (He5.wf K (He.ga K "Polygon") "property" "total_points"), "total_points", "Polygon.total_points", defArgs s_Polygon_total_points, defBody s_Polygon_total_points, defScope s_Polygon_total_points, [], []⟩
def dd_Polygon_locate : He5.DefA := ⟨fun K => (He.ma K (He.ga K "Polygon") "locate"), "locate", "Polygon.locate", defArgs s_Polygon_locate, defBody s_Polygon_locate, defScope s_Polygon_locate, [], []⟩
def dd_law_draws : He5.DefA := ⟨fun K => (He.ga K "_law_draws"), "_law_draws", "_law_draws", defArgs s_law_draws, defBody s_law_draws, defScope s_law_draws, [], []⟩
def dd_law_draw : He5.DefA := ⟨fun K => (He.ga K "_law_draw"), "_law_draw", "_law_draw", defArgs s_law_draw, defBody s_law_draw, defScope s_law_draw, [], []⟩
def dd_law_turn : He5.DefA := ⟨fun K => (He.ga K "_law_turn"), "_law_turn", "_law_turn", defArgs s_law_turn, defBody s_law_turn, defScope s_law_turn, [], []⟩
def dd_law_cleaned : He5.DefA := ⟨fun K => (He.ga K "_law_cleaned"), "_law_cleaned", "_law_cleaned", defArgs s_law_cleaned, defBody s_law_cleaned, defScope s_law_cleaned, [], []⟩
def dd_law_simple : He5.DefA := ⟨fun K => (He.ga K "_law_simple"), "_law_simple", "_law_simple", defArgs s_law_simple, defBody s_law_simple, defScope s_law_simple, [], []⟩
def dd_law_divisor : He5.DefA := ⟨fun K => (He.ga K "_law_divisor"), "_law_divisor", "_law_divisor", defArgs s_law_divisor, defBody s_law_divisor, defScope s_law_divisor, [], []⟩
def dd_Polygon_middle : He5.DefA := ⟨fun K => (He5.wf K (He.ga K "Polygon") "property" "middle"), "middle", "Polygon.middle", defArgs s_Polygon_middle, defBody s_Polygon_middle, defScope s_Polygon_middle, [], []⟩
def dd_law_middle : He5.DefA := ⟨fun K => (He.ga K "_law_middle"), "_law_middle", "_law_middle", defArgs s_law_middle, defBody s_law_middle, defScope s_law_middle, [], []⟩
def dd_law : He5.DefA := ⟨fun K => (He.ga K "law"), "law", "law", defArgs s_law, defBody s_law, defScope s_law, [], []⟩
def fn : List He5.DefA := [dd_is_integer, dd_check_integer, dd_common_divisor, dd_greatest_divisor, dd_is_point, dd_check_point, dd_cross_of, dd_difference, dd_turn_of, dd_InvalidPolygon_init, dd_DegenerateCorner_init, dd_CrossingEdges_init, dd_check_points, dd_triples, dd_check_turns, dd_is_between, dd_is_on, dd_have_common_point, dd_edges_of, dd_check_crossings, dd_area_of, dd_arranged, dd_checked_corners, dd_first_reflex, dd_Polygon_init, dd_Polygon_corners, dd_content_of, dd_Polygon_double_area, dd_Polygon_border_points, dd_Polygon_inner_points, dd_Polygon_total_points, dd_Polygon_locate, dd_law_draws, dd_law_draw, dd_law_turn, dd_law_cleaned, dd_law_simple, dd_law_divisor, dd_Polygon_middle, dd_law_middle, dd_law]
def gsn : List He5.DefA := []
def fcs : List (PySem.W.Frag → Bool) := [fun K => (He.Fa.free "isinstance").ok K,
  fun K => (He.Fa.free "int").ok K,
  fun K => (He.Fa.free "bool").ok K,
  fun K => (He.Fa.free "abs").ok K,
  fun K => (He.Fa.free "tuple").ok K,
  fun K => (He.Fa.free "all").ok K,
  fun K => (He.Fa.free "len").ok K,
  fun K => (He.Fa.free "enumerate").ok K,
  fun K => (He.Fa.free "list").ok K,
  fun K => (He.Fa.free "min").ok K,
  fun K => (He.Fa.free "max").ok K,
  fun K => (He.Fa.free "zip").ok K,
  fun K => (He.Fa.free "range").ok K,
  fun K => (He.Fa.free "sum").ok K,
  fun K => (He.Fa.glo "is_integer").ok K,
  fun K => (He.Fa.glo "check_integer").ok K,
  fun K => (He.Fa.glo "common_divisor").ok K,
  fun K => (He.Fa.glo "greatest_divisor").ok K,
  fun K => (He.Fa.glo "is_point").ok K,
  fun K => (He.Fa.glo "check_point").ok K,
  fun K => (He.Fa.glo "cross_of").ok K,
  fun K => (He.Fa.glo "difference").ok K,
  fun K => (He.Fa.glo "turn_of").ok K,
  fun K => (He.Fa.glo "check_points").ok K,
  fun K => (He.Fa.glo "triples").ok K,
  fun K => (He.Fa.glo "check_turns").ok K,
  fun K => (He.Fa.glo "is_between").ok K,
  fun K => (He.Fa.glo "is_on").ok K,
  fun K => (He.Fa.glo "have_common_point").ok K,
  fun K => (He.Fa.glo "edges_of").ok K,
  fun K => (He.Fa.glo "check_crossings").ok K,
  fun K => (He.Fa.glo "area_of").ok K,
  fun K => (He.Fa.glo "arranged").ok K,
  fun K => (He.Fa.glo "checked_corners").ok K,
  fun K => (He.Fa.glo "first_reflex").ok K,
  fun K => (He.Fa.glo "content_of").ok K,
  fun K => (He.Fa.glo "_law_draws").ok K,
  fun K => (He.Fa.glo "_law_draw").ok K,
  fun K => (He.Fa.glo "_law_turn").ok K,
  fun K => (He.Fa.glo "_law_cleaned").ok K,
  fun K => (He.Fa.glo "_law_simple").ok K,
  fun K => (He.Fa.glo "_law_divisor").ok K,
  fun K => (He.Fa.glo "_law_middle").ok K,
  fun K => (He.Fa.glo "law").ok K,
  fun K => (He.Fa.int "MIN_CORNERS" 3).ok K,
  fun K => (He.Fa.glo "InvalidPolygon").ok K,
  fun K => oexFB K (He.ga K "InvalidPolygon") (He.ma K (He.ga K "InvalidPolygon") "__init__") ["position"],
  fun K => (He.Fa.glo "DegenerateCorner").ok K,
  fun K => oexFB K (He.ga K "DegenerateCorner") (He.ma K (He.ga K "DegenerateCorner") "__init__") ["position"],
  fun K => (He.Fa.glo "CrossingEdges").ok K,
  fun K => oexFB K (He.ga K "CrossingEdges") (He.ma K (He.ga K "CrossingEdges") "__init__") ["first", "second"],
  fun K => (He.Fa.glo "InvalidInteger").ok K,
  fun K => excFB K (He.ga K "InvalidInteger"),
  fun K => (He.Fa.glo "InvalidPoint").ok K,
  fun K => excFB K (He.ga K "InvalidPoint"),
  fun K => (He.Fa.exm "InvalidInteger" "InvalidInteger" true).ok K,
  fun K => (He.Fa.exm "InvalidPoint" "InvalidPoint" true).ok K,
  fun K => (He.Fa.glo "Polygon").ok K,
  fun K => insTyB K (He.ga K "Polygon"),
  fun K => mkB K (He.ga K "Polygon") (He.ma K (He.ga K "Polygon") "__init__"),
  fun K => (He.Fa.noat "Polygon" "kept").ok K,
  fun K => (He.Fa.noat "Polygon" "reflex").ok K,
  fun K => propB K (He.ga K "Polygon") (He.ga K "Polygon") "corners",
  fun K => propB K (He.ga K "Polygon") (He.ga K "Polygon") "double_area",
  fun K => propB K (He.ga K "Polygon") (He.ga K "Polygon") "border_points",
  fun K => propB K (He.ga K "Polygon") (He.ga K "Polygon") "inner_points",
  fun K => propB K (He.ga K "Polygon") (He.ga K "Polygon") "total_points",
  fun K => methB K (He.ga K "Polygon") (He.ga K "Polygon") "locate",
  fun K => propB K (He.ga K "Polygon") (He.ga K "Polygon") "middle",
  fun K => creadB K (He.ga K "Polygon"),
  fun K => cvalB K (He.ga K "Polygon") "MAX_CORNERS" (.int 60),
  fun K => isiB K (.ref (He.ga K "Polygon")) (.ref (He.ga K "Polygon")) true,
  fun K => kitNoB K (He.ga K "Polygon"),
  fun K => PySem.W.notFirst K (He.ga K "Polygon") (.ref (He.ga K "Polygon")),
  fun K => kitNoB K (He.ga K "Polygon")]
abbrev R : PySem.W.OpenRow := PySem.W.OpenLaw.row PySem.Challenge.rw_latticeshapes_k25_grid_points_counted_on
abbrev hk : PySem.W.Hook := hookM 5 fcs fn gsn
def ob (s : PySem.W.SharedT) : He.AlD := obsMG 5 fcs fn gsn (HandSHeadRun.getT s)
theorem ob_eq (s : PySem.W.SharedT) : ob s = hk.obs s.abs := obsMG_eq (HandSHeadRun.getT_eq s)
def loose : List PySem.Str := (["_wall", "ShapeError", "InvalidInteger", "InvalidPoint", "InvalidPolygon", "DegenerateCorner", "CrossingEdges", "is_integer", "check_integer", "common_divisor", "greatest_divisor", "is_point", "check_point", "cross_of", "difference", "turn_of", "content_of", "MIN_CORNERS", "check_points", "triples", "check_turns", "is_between", "is_on", "have_common_point", "edges_of", "check_crossings", "area_of", "arranged", "checked_corners", "first_reflex"] : List PySem.Str) ++ (["Polygon", "_law_draws", "_law_draw", "_law_turn", "_law_cleaned", "_law_simple", "_law_divisor", "_law_middle"] : List PySem.Str)
theorem run (w : World) : HandSHeadRun.RunEq R (PySem.W.view R.prog [44]) hk ob 9000 loose w := by
  intro os
  kernel_rfl
theorem facts {P : Program} {w : World} {K : PySem.W.Frag} {h : Heap} {mg : Str → Option Value} {f : Addr} (X : K.In h) (G : h.Ns mainGlobals mg) (hfa : mg ("law" : Str) = some (.ref f)) (c : SaysM fcs fn gsn K) :
    ∃ fd : FuncData, (∀ (s : Shared) (v : Value), BindsTo s fd ⟨[v], []⟩ [("_law_script", v)]) ∧ ∀ base : Heap, K.In base → base.Ns mainGlobals mg → FnOk P w K mg base CX0 9 f fd ["_law_script"] (sp_lawD K) := by
  have T : Tx K mg := ⟨(He.free_ok X G (c.fact 0 (f := fun K => (He.Fa.free "isinstance").ok K) rfl)),
    (He.free_ok X G (c.fact 1 (f := fun K => (He.Fa.free "int").ok K) rfl)),
    (He.free_ok X G (c.fact 2 (f := fun K => (He.Fa.free "bool").ok K) rfl)),
    (He.free_ok X G (c.fact 3 (f := fun K => (He.Fa.free "abs").ok K) rfl)),
    (He.free_ok X G (c.fact 4 (f := fun K => (He.Fa.free "tuple").ok K) rfl)),
    (He.free_ok X G (c.fact 5 (f := fun K => (He.Fa.free "all").ok K) rfl)),
    (He.free_ok X G (c.fact 6 (f := fun K => (He.Fa.free "len").ok K) rfl)),
    (He.free_ok X G (c.fact 7 (f := fun K => (He.Fa.free "enumerate").ok K) rfl)),
    (He.free_ok X G (c.fact 8 (f := fun K => (He.Fa.free "list").ok K) rfl)),
    (He.free_ok X G (c.fact 9 (f := fun K => (He.Fa.free "min").ok K) rfl)),
    (He.free_ok X G (c.fact 10 (f := fun K => (He.Fa.free "max").ok K) rfl)),
    (He.free_ok X G (c.fact 11 (f := fun K => (He.Fa.free "zip").ok K) rfl)),
    (He.free_ok X G (c.fact 12 (f := fun K => (He.Fa.free "range").ok K) rfl)),
    (He.free_ok X G (c.fact 13 (f := fun K => (He.Fa.free "sum").ok K) rfl)),
    (He.glo_ok X G (c.fact 14 (f := fun K => (He.Fa.glo "is_integer").ok K) rfl)),
    (He.glo_ok X G (c.fact 15 (f := fun K => (He.Fa.glo "check_integer").ok K) rfl)),
    (He.glo_ok X G (c.fact 16 (f := fun K => (He.Fa.glo "common_divisor").ok K) rfl)),
    (He.glo_ok X G (c.fact 17 (f := fun K => (He.Fa.glo "greatest_divisor").ok K) rfl)),
    (He.glo_ok X G (c.fact 18 (f := fun K => (He.Fa.glo "is_point").ok K) rfl)),
    (He.glo_ok X G (c.fact 19 (f := fun K => (He.Fa.glo "check_point").ok K) rfl)),
    (He.glo_ok X G (c.fact 20 (f := fun K => (He.Fa.glo "cross_of").ok K) rfl)),
    (He.glo_ok X G (c.fact 21 (f := fun K => (He.Fa.glo "difference").ok K) rfl)),
    (He.glo_ok X G (c.fact 22 (f := fun K => (He.Fa.glo "turn_of").ok K) rfl)),
    (He.glo_ok X G (c.fact 23 (f := fun K => (He.Fa.glo "check_points").ok K) rfl)),
    (He.glo_ok X G (c.fact 24 (f := fun K => (He.Fa.glo "triples").ok K) rfl)),
    (He.glo_ok X G (c.fact 25 (f := fun K => (He.Fa.glo "check_turns").ok K) rfl)),
    (He.glo_ok X G (c.fact 26 (f := fun K => (He.Fa.glo "is_between").ok K) rfl)),
    (He.glo_ok X G (c.fact 27 (f := fun K => (He.Fa.glo "is_on").ok K) rfl)),
    (He.glo_ok X G (c.fact 28 (f := fun K => (He.Fa.glo "have_common_point").ok K) rfl)),
    (He.glo_ok X G (c.fact 29 (f := fun K => (He.Fa.glo "edges_of").ok K) rfl)),
    (He.glo_ok X G (c.fact 30 (f := fun K => (He.Fa.glo "check_crossings").ok K) rfl)),
    (He.glo_ok X G (c.fact 31 (f := fun K => (He.Fa.glo "area_of").ok K) rfl)),
    (He.glo_ok X G (c.fact 32 (f := fun K => (He.Fa.glo "arranged").ok K) rfl)),
    (He.glo_ok X G (c.fact 33 (f := fun K => (He.Fa.glo "checked_corners").ok K) rfl)),
    (He.glo_ok X G (c.fact 34 (f := fun K => (He.Fa.glo "first_reflex").ok K) rfl)),
    (He.glo_ok X G (c.fact 35 (f := fun K => (He.Fa.glo "content_of").ok K) rfl)),
    (He.glo_ok X G (c.fact 36 (f := fun K => (He.Fa.glo "_law_draws").ok K) rfl)),
    (He.glo_ok X G (c.fact 37 (f := fun K => (He.Fa.glo "_law_draw").ok K) rfl)),
    (He.glo_ok X G (c.fact 38 (f := fun K => (He.Fa.glo "_law_turn").ok K) rfl)),
    (He.glo_ok X G (c.fact 39 (f := fun K => (He.Fa.glo "_law_cleaned").ok K) rfl)),
    (He.glo_ok X G (c.fact 40 (f := fun K => (He.Fa.glo "_law_simple").ok K) rfl)),
    (He.glo_ok X G (c.fact 41 (f := fun K => (He.Fa.glo "_law_divisor").ok K) rfl)),
    (He.glo_ok X G (c.fact 42 (f := fun K => (He.Fa.glo "_law_middle").ok K) rfl)),
    (He.glo_ok X G (c.fact 43 (f := fun K => (He.Fa.glo "law").ok K) rfl)),
    (He.int_ok X G (c.fact 44 (f := fun K => (He.Fa.int "MIN_CORNERS" 3).ok K) rfl)),
    (He.glo_ok X G (c.fact 45 (f := fun K => (He.Fa.glo "InvalidPolygon").ok K) rfl)),
    (oexFB_ok (c.fact 46 (f := fun K => oexFB K (He.ga K "InvalidPolygon") (He.ma K (He.ga K "InvalidPolygon") "__init__") ["position"]) rfl)),
    (He.glo_ok X G (c.fact 47 (f := fun K => (He.Fa.glo "DegenerateCorner").ok K) rfl)),
    (oexFB_ok (c.fact 48 (f := fun K => oexFB K (He.ga K "DegenerateCorner") (He.ma K (He.ga K "DegenerateCorner") "__init__") ["position"]) rfl)),
    (He.glo_ok X G (c.fact 49 (f := fun K => (He.Fa.glo "CrossingEdges").ok K) rfl)),
    (oexFB_ok (c.fact 50 (f := fun K => oexFB K (He.ga K "CrossingEdges") (He.ma K (He.ga K "CrossingEdges") "__init__") ["first", "second"]) rfl)),
    (He.glo_ok X G (c.fact 51 (f := fun K => (He.Fa.glo "InvalidInteger").ok K) rfl)),
    (excF_ok (c.fact 52 (f := fun K => excFB K (He.ga K "InvalidInteger")) rfl)),
    (He.glo_ok X G (c.fact 53 (f := fun K => (He.Fa.glo "InvalidPoint").ok K) rfl)),
    (excF_ok (c.fact 54 (f := fun K => excFB K (He.ga K "InvalidPoint")) rfl)),
    (He.exm_ok (c.fact 55 (f := fun K => (He.Fa.exm "InvalidInteger" "InvalidInteger" true).ok K) rfl)),
    (He.exm_ok (c.fact 56 (f := fun K => (He.Fa.exm "InvalidPoint" "InvalidPoint" true).ok K) rfl)),
    (He.glo_ok X G (c.fact 57 (f := fun K => (He.Fa.glo "Polygon").ok K) rfl)),
    (insTyB_ok (c.fact 58 (f := fun K => insTyB K (He.ga K "Polygon")) rfl)),
    (mkB_ok (c.fact 59 (f := fun K => mkB K (He.ga K "Polygon") (He.ma K (He.ga K "Polygon") "__init__")) rfl)),
    (He.noat_ok (c.fact 60 (f := fun K => (He.Fa.noat "Polygon" "kept").ok K) rfl)),
    (He.noat_ok (c.fact 61 (f := fun K => (He.Fa.noat "Polygon" "reflex").ok K) rfl)),
    (propB_ok (c.fact 62 (f := fun K => propB K (He.ga K "Polygon") (He.ga K "Polygon") "corners") rfl)),
    (propB_ok (c.fact 63 (f := fun K => propB K (He.ga K "Polygon") (He.ga K "Polygon") "double_area") rfl)),
    (propB_ok (c.fact 64 (f := fun K => propB K (He.ga K "Polygon") (He.ga K "Polygon") "border_points") rfl)),
    (propB_ok (c.fact 65 (f := fun K => propB K (He.ga K "Polygon") (He.ga K "Polygon") "inner_points") rfl)),
    (propB_ok (c.fact 66 (f := fun K => propB K (He.ga K "Polygon") (He.ga K "Polygon") "total_points") rfl)),
    (methB_ok (c.fact 67 (f := fun K => methB K (He.ga K "Polygon") (He.ga K "Polygon") "locate") rfl)),
    (propB_ok (c.fact 68 (f := fun K => propB K (He.ga K "Polygon") (He.ga K "Polygon") "middle") rfl)),
    (creadB_ok (c.fact 69 (f := fun K => creadB K (He.ga K "Polygon")) rfl)),
    (cvalB_ok (c.fact 70 (f := fun K => cvalB K (He.ga K "Polygon") "MAX_CORNERS" (.int 60)) rfl)),
    (isiB_ok (c.fact 71 (f := fun K => isiB K (.ref (He.ga K "Polygon")) (.ref (He.ga K "Polygon")) true) rfl)),
    (kitNoB_ok (c.fact 72 (f := fun K => kitNoB K (He.ga K "Polygon")) rfl)),
    ((c.fact 73 (f := fun K => PySem.W.notFirst K (He.ga K "Polygon") (.ref (He.ga K "Polygon"))) rfl)),
    (kitNoB_nf (c.fact 74 (f := fun K => kitNoB K (He.ga K "Polygon")) rfl)),
    (defAt (c.def_ 0 (d := dd_is_integer) rfl)),
    (defAt (c.def_ 1 (d := dd_check_integer) rfl)),
    (defAt (c.def_ 2 (d := dd_common_divisor) rfl)),
    (defAt (c.def_ 3 (d := dd_greatest_divisor) rfl)),
    (defAt (c.def_ 4 (d := dd_is_point) rfl)),
    (defAt (c.def_ 5 (d := dd_check_point) rfl)),
    (defAt (c.def_ 6 (d := dd_cross_of) rfl)),
    (defAt (c.def_ 7 (d := dd_difference) rfl)),
    (defAt (c.def_ 8 (d := dd_turn_of) rfl)),
    (defAt (c.def_ 9 (d := dd_InvalidPolygon_init) rfl)),
    (defAt (c.def_ 10 (d := dd_DegenerateCorner_init) rfl)),
    (defAt (c.def_ 11 (d := dd_CrossingEdges_init) rfl)),
    (defAt (c.def_ 12 (d := dd_check_points) rfl)),
    (defAt (c.def_ 13 (d := dd_triples) rfl)),
    (defAt (c.def_ 14 (d := dd_check_turns) rfl)),
    (defAt (c.def_ 15 (d := dd_is_between) rfl)),
    (defAt (c.def_ 16 (d := dd_is_on) rfl)),
    (defAt (c.def_ 17 (d := dd_have_common_point) rfl)),
    (defAt (c.def_ 18 (d := dd_edges_of) rfl)),
    (defAt (c.def_ 19 (d := dd_check_crossings) rfl)),
    (defAt (c.def_ 20 (d := dd_area_of) rfl)),
    (defAt (c.def_ 21 (d := dd_arranged) rfl)),
    (defAt (c.def_ 22 (d := dd_checked_corners) rfl)),
    (defAt (c.def_ 23 (d := dd_first_reflex) rfl)),
    (defAt (c.def_ 24 (d := dd_Polygon_init) rfl)),
    (defAt (c.def_ 25 (d := dd_Polygon_corners) rfl)),
    (defAt (c.def_ 26 (d := dd_content_of) rfl)),
    (defAt (c.def_ 27 (d := dd_Polygon_double_area) rfl)),
    (defAt (c.def_ 28 (d := dd_Polygon_border_points) rfl)),
    (defAt (c.def_ 29 (d := dd_Polygon_inner_points) rfl)),
    (defAt (c.def_ 30 (d := dd_Polygon_total_points) rfl)),
    (defAt (c.def_ 31 (d := dd_Polygon_locate) rfl)),
    (defAt (c.def_ 32 (d := dd_law_draws) rfl)),
    (defAt (c.def_ 33 (d := dd_law_draw) rfl)),
    (defAt (c.def_ 34 (d := dd_law_turn) rfl)),
    (defAt (c.def_ 35 (d := dd_law_cleaned) rfl)),
    (defAt (c.def_ 36 (d := dd_law_simple) rfl)),
    (defAt (c.def_ 37 (d := dd_law_divisor) rfl)),
    (defAt (c.def_ 38 (d := dd_Polygon_middle) rfl)),
    (defAt (c.def_ 39 (d := dd_law_middle) rfl)),
    (defAt (c.def_ 40 (d := dd_law) rfl))⟩
  have e := hfa.symm.trans T.g_law
  cases e
  have b := FunD.bindsA (ps := ["_law_script"]) T.d_law fun _ _ _ _ _ _ us hl => match us, hl with | [_], _ => rfl
  exact ⟨_, fun s v => b s [v] rfl, fun base _ _ => ok_law T⟩
end G
open PySem PySem.W PySem.Calls PyProof.Rows
theorem PySem.Challenge.cw_latticeshapes_k25_grid_points_counted_on_holds : PySem.Challenge.rw_latticeshapes_k25_grid_points_counted_on.Holds := by
  w_on; o_law
  refine HandSHeadRun.head_any (r := OpenLaw.row PySem.Challenge.rw_latticeshapes_k25_grid_points_counted_on) (q := view (OpenLaw.row PySem.Challenge.rw_latticeshapes_k25_grid_points_counted_on).prog [44]) (H := G.hk) (ob := G.ob) (M := 9000) (loose := G.loose) (d := HandSHeadRun.topDef (OpenLaw.row PySem.Challenge.rw_latticeshapes_k25_grid_points_counted_on).prog 44) (kwd := []) G.ob_eq
    (by kernel_rfl) (fun s => by kernel_rfl) G.run (by kernel_rfl) (by kernel_rfl) (by kernel_rfl) (by rfl) (by first | assumption | decide +kernel) (by decide +kernel) ⟨rfl, rfl, rfl, rfl, rfl, by decide +kernel⟩ ?hw ?hc
  case hw => w_witness2
  case hc =>
    refine L2.walk_ofE (l := PySem.Challenge.rw_latticeshapes_k25_grid_points_counted_on) (n := 63) (k := 9) (x := "_law_script") (CX := L2.CX0) rfl (by decide) (by kernel_rfl) ⟨rfl, by decide, by decide⟩ ?F (fun _ _ _ _ z => z)
    intro w mg fa h Y Gn hmg0
    obtain ⟨K, KX, c⟩ := Y
    have hmg : mg ("law" : PySem.Str) = some (.ref fa) := by
      have e : (HandSHeadRun.topDef (OpenLaw.row PySem.Challenge.rw_latticeshapes_k25_grid_points_counted_on).prog 44).name = ("law" : PySem.Str) := by kernel_rfl
      rw [← e]
      exact hmg0
    obtain ⟨fd, hb, hF⟩ := G.facts (P := (PySem.Challenge.rw_latticeshapes_k25_grid_points_counted_on).prog) (w := w) KX Gn hmg c
    exact ⟨K, fd, G.sp_lawD K, KX, hb, fun H a ns hl hO hS => G.law_start hl hO hS, hF⟩
