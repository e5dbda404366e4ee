import PyProof.Rows.All
import Wide.All
import OpenK.AllK
import Wide.FinOn
import KE.KStateDown
import HandS.ForMost
import HandS.ForExc
import HandS.Wide
import HandS.IsInst
import HandS.Star
import HandS.Style
import HandS.Flow
import HandS.Defaults
import HandS.Head0
import HandS.Head1
import HandS.Head2
import HandS.HeadEnd
import HandS.HeadHook1
import HandS.HeadHook2
import HandS.HeadHook3
import HandS.CallSlots
import HandS.TupAny
import HandS.Steps
import KE.Datum
import HandS.Evl
import HandS.TupLe
import HandS.TryMany
import HandS.HeadNt
import HandS.Property
import HandS.ClsMeth
import HandS.CallLocal
import HandS.MethStar
import HandS.MakeKw
import KE.DatumMore
import HandS.Zip
import HandS.OwnEq
import HandS.TryOnly
import KE.DataMinMax
import HandS.Deep
import HandS.GenList
import HandS.GenYield
import KE.GoesMore
import KE.GoesZip
import KE.GoesEnum
import HandS.ExcInit
import HandS.ExcField
import KE.SortData
import KE.KSuper
import HandS.TupSets
import HandS.SetBool
import KE.KExcInit
import HandS.FStr
import HandS.ExcValue
import HandS.ExcIs
import HandS.MakeKw
import HandS.MakeKwOnly
import PyProof.RulesMatchSeq
import PyProof.Rows.MatchSeqLen
import PyProof.RulesDelMore
import PyProof.DelItemList
import PyProof.SliceList
import PyProof.StrOps2
import HandS.More
import HandS.Small
import PySem.Challenge.RW_latticeshapes_k76_capacity_assigned
set_option Elab.async false
set_option linter.all false
set_option maxRecDepth 100000
set_option maxHeartbeats 8000000
set_option synthInstance.maxHeartbeats 0
set_option synthInstance.maxSize 100000
/-! ### readings, one constructor a lemma: the symbolic walk's own steps -/
namespace G
open PySem PySem.Spec PyProof.Rows L2
section
variable {K : PySem.W.Frag} {σ : L2.St} {H : Hp} {ta tb te : TE} {Q : VK} {D : Ends} {i : Nat} {v x y : V} {b : Bool}
theorem r_var (h : σ[i]? = some (some v)) (q : Q v H) : tVar i σ H Q := ⟨v, h, q⟩
theorem r_c (q : Q v H) : tC v σ H Q := q
theorem r_op {r : R2} (q : ta σ H fun x H1 => tb σ H1 fun y H2 => r x y H2 Q) : tOp r ta tb σ H Q := q
theorem r_un {r : V → Hp → VK → Prop} (q : ta σ H fun x H1 => r x H1 Q) : tUn r ta σ H Q := q
theorem r_U {g : Int → V} {n : Int} (q : Q (g n) H) : rU g (.int n) H Q := ⟨n, rfl, q⟩
theorem r_I0 {g : Int → Int → V} {n m : Int} (q : Q (g n m) H) : rI0 g (.int n) (.int m) H Q := ⟨n, m, rfl, rfl, q⟩
theorem r_I {C : Int → Int → Prop} {g : Int → Int → V} {n m : Int} (hc : C n m) (q : Q (g n m) H) : rI C g (.int n) (.int m) H Q := ⟨n, m, rfl, rfl, hc, q⟩
theorem r_eq (h : scal x y = true) (q : Q (.bl (decide (x = y))) H) : rEq x y H Q := ⟨h, q⟩
theorem r_ne (h : scal x y = true) (q : Q (.bl (!decide (x = y))) H) : rNe x y H Q := ⟨h, q⟩
theorem r_ixL {p : Addr} {xs : List V} {n : Int} (h : SqL K H p xs) (e : atI xs n = some v) (q : Q v H) : rIxL K (.ref p) (.int n) H Q := ⟨p, xs, n, v, rfl, rfl, h, e, q⟩
theorem r_ixT {p : Addr} {xs : List V} {n : Int} (h : SqT K H p xs) (e : atI xs n = some v) (q : Q v H) : rIxT K (.ref p) (.int n) H Q := ⟨p, xs, n, v, rfl, rfl, h, e, q⟩
theorem r_seq {t u : TS} (q : t { D with nx := u D } σ H) : tSeq t u D σ H := q
theorem r_next (q : D.nx σ H) : tNext D σ H := q
theorem r_asg {g : TG} (q : te σ H fun x H1 => g x σ H1 D.nx) : tAsg te g D σ H := q
theorem r_st {t u : TS} {σ' : L2.St} (e : σ = σ') (q : tSeq t u D σ' H) : tSeq t u D σ H := by
  subst e; exact q
theorem r_gnameS {R : L2.St → Hp → Prop} {σ' : L2.St} (e : σ.set i (some v) = σ') (q : R σ' H) : gName i v σ H R := by
  subst e; exact q
theorem r_gname {R : L2.St → Hp → Prop} (q : R (σ.set i (some v)) H) : gName i v σ H R := q
theorem r_drop (q : te σ H fun _ H1 => D.nx σ H1) : tDrop te D σ H := q
theorem r_ret (q : te σ H D.rt) : tRet te D σ H := q
theorem r_ifs {c : TT} {t u : TS} (q : c σ H fun b H1 => if b = true then t D σ H1 else u D σ H1) : tIfS c t u D σ H := q
theorem r_test {R : Bool → Hp → Prop} (q : te σ H fun x H' => ∃ k, x = .bl k ∧ R k H') : tTest te σ H R := q
theorem r_tB {R : Bool → Hp → Prop} (q : te σ H fun x H' => ∃ k, x = .bl k ∧ R k H') : tB te σ H R := q
theorem r_bl {R : Bool → Prop} (q : R b) : ∃ k, V.bl b = .bl k ∧ R k := ⟨b, rfl, q⟩
theorem r_nil {R : List V → Hp → Prop} (q : R [] H) : tNil σ H R := q
theorem r_cons {tr : TA} {R : List V → Hp → Prop} (q : ta σ H fun x H1 => tr σ H1 fun xs H2 => R (x :: xs) H2) : tCons ta tr σ H R := q
theorem r_cb {r : List V → Hp → VK → Prop} {t : TA} (q : t σ H fun vs H1 => r vs H1 Q) : tCB r t σ H Q := q
theorem r_lst {t : TA} (q : t σ H fun xs H1 => xs.length ≤ sizeLine ∧ ∀ p, H1 p = none → Q (.ref p) (upd H1 p (.lst xs))) : tLst t σ H Q := q
theorem r_tup {t : TA} (q : t σ H fun xs H1 => xs.length ≤ sizeLine ∧ ∀ p, H1 p = none → Q (.ref p) (upd H1 p (.tup xs))) : tTup t σ H Q := q
theorem r_call {sp : Sp} {dvs : List V} {E : XK} {t : TA} (q : t σ H fun vs H1 => sp (vs ++ dvs) H1 Q E) : tCall sp dvs E t σ H Q := q
theorem r_callS {sp : Sp} {E : L2.St → XK} {t : TA} (q : t σ H fun vs H1 => sp vs H1 Q (E σ)) : tCallS sp E t σ H Q := q
theorem r_and {t u : TT} {R : Bool → Hp → Prop} (q : t σ H fun c H1 => if c = true then u σ H1 R else R false H1) : tAnd t u σ H R := q
theorem r_or {t u : TT} {R : Bool → Hp → Prop} (q : t σ H fun c H1 => if c = true then R true H1 else u σ H1 R) : tOr t u σ H R := q
theorem r_not {t : TT} {R : Bool → Hp → Prop} (q : t σ H fun c H1 => R (!c) H1) : tNot t σ H R := q
theorem r_andV (q : ta σ H fun x H1 => ∃ c, x = .bl c ∧ if c = true then tb σ H1 Q else Q (.bl false) H1) : tAndV ta tb σ H Q := q
theorem r_orV (q : ta σ H fun x H1 => ∃ c, x = .bl c ∧ if c = true then Q (.bl true) H1 else tb σ H1 Q) : tOrV ta tb σ H Q := q
theorem r_notV (q : ta σ H fun x H1 => ∃ c, x = .bl c ∧ Q (.bl (!c)) H1) : tNotV ta σ H Q := q
theorem r_if {t : TT} (q : t σ H fun c H1 => if c = true then ta σ H1 Q else tb σ H1 Q) : tIf t ta tb σ H Q := q
theorem r_sub {to ti : TE} {t : TSet} {R : L2.St → Hp → Prop} (q : to σ H fun o H1 => ti σ H1 fun i H2 => t o i v H2 fun H3 => R σ H3) : gSub to ti t v σ H R := q
theorem r_setL {p : Addr} {xs : List V} {n : Int} {j : Nat} {R : Hp → Prop} (h : H p = some (.lst xs)) (e : ixN xs.length n = some j) (q : R (upd H p (.lst (xs.set j v)))) : rSetL (.ref p) (.int n) v H R := ⟨p, xs, n, j, rfl, rfl, h, e, q⟩
theorem r_dec {p : Prop} [Decidable p] {A B : Prop} (h1 : p → A) (h2 : ¬ p → B) : if decide p = true then A else B := by
  by_cases h : p
  · rw [decide_eq_true h]; exact iteT (h1 h)
  · rw [decide_eq_false h]; exact iteF (h2 h)
theorem r_ndec {p : Prop} [Decidable p] {A B : Prop} (h1 : ¬ p → A) (h2 : p → B) : if (!decide p) = true then A else B := by
  by_cases h : p
  · rw [decide_eq_true h]; exact iteF (h2 h)
  · rw [decide_eq_false h]; exact iteT (h1 h)
theorem r_b {A B : Prop} (h1 : b = true → A) (h2 : b = false → B) : if b = true then A else B := by
  cases b with
  | true => exact iteT (h1 rfl)
  | false => exact iteF (h2 rfl)
theorem dec_int (n m : Int) : decide (V.int n = V.int m) = decide (n = m) := by
  by_cases h : n = m
  · subst h; simp
  · rw [decide_eq_false h, decide_eq_false (fun z => h (V.int.inj z))]
theorem r_eqI {n m : Int} (q : Q (.bl (decide (n = m))) H) : rEq (.int n) (.int m) H Q := ⟨rfl, by rw [dec_int]; exact q⟩
theorem r_neI {n m : Int} (q : Q (.bl (!decide (n = m))) H) : rNe (.int n) (.int m) H Q := ⟨rfl, by rw [dec_int]; exact q⟩
end
end G


namespace G
open PySem PySem.Spec PyProof.Rows L2
/-! ### numbers -/
theorem op_mulA {X : Cx} : OpR X (binaryOp .Mult) (rI IntMulOk fun i j => .int (i * j)) := opI fun _ _ _ _ _ _ _ hc q => mul_int q hc
/-- fewer than n bits -/
def Bd (n : Nat) (i : Int) : Prop := i.natAbs < 2 ^ n
theorem Bd.mono {n m : Nat} {i : Int} (h : Bd n i) (l : n ≤ m) : Bd m i := Nat.lt_of_lt_of_le h (Nat.pow_le_pow_right (by decide) l)
theorem Bd.mul {n m : Nat} {i j : Int} (h : Bd n i) (k : Bd m j) : Bd (n + m) (i * j) := wide_lt h k
theorem Bd.add {n : Nat} {i j : Int} (h : Bd n i) (k : Bd n j) : Bd (n + 1) (i + j) := by
  have h1 : i.natAbs < 2 ^ n := h
  have k1 : j.natAbs < 2 ^ n := k
  show (i + j).natAbs < 2 ^ (n + 1)
  have e : 2 ^ (n + 1) = 2 ^ n + 2 ^ n := by rw [Nat.pow_succ]; omega
  omega
theorem Bd.neg {n : Nat} {i : Int} (h : Bd n i) : Bd n (-i) := by
  show (-i).natAbs < 2 ^ n
  rw [Int.natAbs_neg]; exact h
theorem Bd.sub {n : Nat} {i j : Int} (h : Bd n i) (k : Bd n j) : Bd (n + 1) (i - j) := by
  have e : i - j = i + -j := by omega
  rw [e]; exact h.add k.neg
theorem Bd.ok {n m : Nat} {i j : Int} (h : Bd n i) (k : Bd m j) (l : n + m < 900000 := by decide) : IntMulOk i j :=
  CMulW.ok (wide_mul (a := n + 1) (b := m + 1) (h.mono (Nat.le_succ n)) (k.mono (Nat.le_succ m)) (Nat.succ_pos _) (Nat.succ_pos _) (by omega))
theorem mul_okL {i j : Int} (h1 : -(2 ^ 64) < i) (h2 : i < 2 ^ 64) : IntMulOk i j := CMul.ok (.inl ⟨h1, h2⟩)
theorem mul_okR {i j : Int} (h1 : -(2 ^ 64) < j) (h2 : j < 2 ^ 64) : IntMulOk i j := CMul.ok (.inr ⟨h1, h2⟩)
/-! ### heaps: all but the object at l stands -/
def Kp (l : Addr) (H H' : Hp) : Prop := ∀ b o, b ≠ l → H b = some o → H' b = some o
theorem Kp.refl (l : Addr) (H : Hp) : Kp l H H := fun _ _ _ h => h
theorem Kp.trans {l : Addr} {H H1 H2 : Hp} (a : Kp l H H1) (b : Kp l H1 H2) : Kp l H H2 := fun c o n h => b c o n (a c o n h)
theorem Kp.same {l : Addr} {H H1 H2 : Hp} (a : Kp l H H1) (b : Same H1 H2) : Kp l H H2 := fun c o n h => b c o (a c o n h)
theorem Kp.of_same {l : Addr} {H H1 : Hp} (b : Same H H1) : Kp l H H1 := fun c o _ h => b c o h
theorem Kp.new {l p : Addr} {H H1 : Hp} {o : HO} (a : Kp l H H1) (h : H1 p = none) : Kp l H (upd H1 p o) := fun c u n e => by
  have z := a c u n e
  rw [upd_ne (ne_of_none z h)]; exact z
theorem Kp.put {l : Addr} {H H1 : Hp} {o : HO} (a : Kp l H H1) : Kp l H (upd H1 l o) := fun c u n e => by rw [upd_ne n]; exact a c u n e
theorem same_new {p : Addr} {H H1 : Hp} {o : HO} (a : Same H H1) (h : H1 p = none) : Same H (upd H1 p o) := fun c u e => by
  have z := a c u e
  rw [upd_ne (ne_of_none z h)]; exact z
theorem fresh {H : Hp} {p : Addr} {o : HO} {H1 : Hp} (h : H p = none) (e : upd H p o = H1) : Same H H1 ∧ H1 p = some o := by
  subst e; exact ⟨same_new (Same.refl H) h, upd_same⟩
theorem Kp.seq {K : PySem.W.Frag} {l a : Addr} {H H' : Hp} {xs : List V} (e : Kp l H H') (n : a ≠ l) (h : SqL K H a xs) : SqL K H' a xs := by
  rcases h with (h | ⟨o, h⟩) | h
  · exact .inl (.inl (e _ _ n h))
  · exact .inl (.inr ⟨o, e _ _ n h⟩)
  · exact .inr h
theorem same_kp {l : Addr} {H H1 H2 : Hp} (s : Same H H1) (hl : H l = none) (k : Kp l H1 H2) : Same H H2 := fun c o e => k c o (ne_of_none e hl) (s c o e)
/-! ### kinds of values -/
inductive Kd (K : PySem.W.Frag) (H : Hp) : V → String → Prop where
  | non : Kd K H .non "NoneType"
  | bl (x : Bool) : Kd K H (.bl x) "bool"
  | int (i : Int) : Kd K H (.int i) "int"
  | str (x : Str) : Kd K H (.str x) "str"
  | lst {a : Addr} {xs : List V} (e : SqL K H a xs) : Kd K H (.ref a) "list"
  | tup {a : Addr} {xs : List V} (e : SqT K H a xs) : Kd K H (.ref a) "tuple"
  | dK {a : Addr} {kvs : List (Key × V)} (e : H a = some (.dK kvs)) : Kd K H (.ref a) "dict"
theorem Kd.ty {K : PySem.W.Frag} {H : Hp} {v : V} {n : String} (k : Kd K H v n) : TyX K H v (.type n) := by
  cases k with
  | non => exact .base .non
  | bl x => exact .base (.bl x)
  | int i => exact .base (.int i)
  | str x => exact .base (.str x)
  | lst e =>
    rcases e with (e | ⟨o, e⟩) | ⟨o, its, n, e, c, _⟩
    · exact .base (.lst e)
    · exact .base (.frz e)
    · exact .kList e c
  | tup e =>
    rcases e with (e | ⟨o, e⟩) | ⟨o, its, n, e, c, _⟩
    · exact .base (.tup e)
    · exact .fTuple e
    · exact .kTuple e c
  | dK e => exact .base (.dK e)
theorem sqT_same {K : PySem.W.Frag} {H H' : Hp} {a : Addr} {xs : List V} (s : Same H H') (h : SqT K H a xs) : SqT K H' a xs := by
  rcases h with (h | ⟨o, h⟩) | h
  · exact .inl (.inl (s _ _ h))
  · exact .inl (.inr ⟨o, s _ _ h⟩)
  · exact .inr h
theorem Kd.same {K : PySem.W.Frag} {H H' : Hp} {v : V} {n : String} (k : Kd K H v n) (s : Same H H') : Kd K H' v n := by
  cases k with
  | non => exact .non
  | bl x => exact .bl x
  | int i => exact .int i
  | str x => exact .str x
  | lst e => exact .lst (s.seq e)
  | tup e => exact .tup (sqT_same s e)
  | dK e => exact .dK (s _ _ e)
def kds : List String := ["NoneType", "bool", "int", "str", "list", "tuple", "dict"]
theorem Kd.mem {K : PySem.W.Frag} {H : Hp} {v : V} {n : String} (k : Kd K H v n) : n ∈ kds := by
  cases k <;> decide
def isI : V → Bool
  | .int _ => true
  | _ => false
def inty (n : String) : Bool := n == "int" || n == "bool"
theorem Kd.kit {K : PySem.W.Frag} {H : Hp} {v : V} {n : String} (k : Kd K H v n) : PySem.W.kitOne K (.type n) (.type "int") = some (inty n) ∧ PySem.W.kitOne K (.type n) (.type "bool") = some (n == "bool") ∧
    PySem.W.kitOne K (.type n) (.type "tuple") = some (n == "tuple") ∧ PySem.W.kitOne K (.type n) (.type "list") = some (n == "list") ∧ (isI v = (inty n && !(n == "bool"))) := by
  cases k with
  | non => exact ⟨kit_ty (by decide +kernel), kit_ty (by decide +kernel), kit_ty (by decide +kernel), kit_ty (by decide +kernel), rfl⟩
  | bl x => exact ⟨kit_ty (by decide +kernel), kit_ty (by decide +kernel), kit_ty (by decide +kernel), kit_ty (by decide +kernel), rfl⟩
  | int i => exact ⟨kit_ty (by decide +kernel), kit_ty (by decide +kernel), kit_ty (by decide +kernel), kit_ty (by decide +kernel), rfl⟩
  | str x => exact ⟨kit_ty (by decide +kernel), kit_ty (by decide +kernel), kit_ty (by decide +kernel), kit_ty (by decide +kernel), rfl⟩
  | lst e => exact ⟨kit_ty (by decide +kernel), kit_ty (by decide +kernel), kit_ty (by decide +kernel), kit_ty (by decide +kernel), rfl⟩
  | tup e => exact ⟨kit_ty (by decide +kernel), kit_ty (by decide +kernel), kit_ty (by decide +kernel), kit_ty (by decide +kernel), rfl⟩
  | dK e => exact ⟨kit_ty (by decide +kernel), kit_ty (by decide +kernel), kit_ty (by decide +kernel), kit_ty (by decide +kernel), rfl⟩
/-! ### the draws -/
def DrAt (H : Hp) (l : Addr) : Prop := ∃ a b : Int, H l = some (.lst [.int a, .int b]) ∧ 0 ≤ a ∧ 0 ≤ b ∧ b < 2147483647
theorem DrAt.same {H H' : Hp} {l : Addr} (d : DrAt H l) (s : Same H H') : DrAt H' l := by
  obtain ⟨a, b, h, r⟩ := d
  exact ⟨a, b, s _ _ h, r⟩
theorem DrAt.new {H : Hp} {l p : Addr} {o : HO} (d : DrAt H l) (h : H p = none) : DrAt (upd H p o) l := d.same (same_new (Same.refl H) h)
theorem DrAt.ne {H : Hp} {l p : Addr} (d : DrAt H l) (h : H p = none) : p ≠ l := by
  obtain ⟨a, b, e, _⟩ := d
  exact (ne_of_none e h).symm
theorem DrAt.ne_tup {H : Hp} {l p : Addr} {xs : List V} (d : DrAt H l) (h : H p = some (.tup xs)) : p ≠ l := by
  obtain ⟨a, b, e, _⟩ := d
  exact ne_of h e (by intro z; cases z)
end G

namespace G
open PySem PySem.Spec PyProof.Rows L2
/-! ### built-ins by named readings -/
def rAbs : List V → Hp → VK → Prop := fun xs H Q => ∃ i, xs = [.int i] ∧ Q (.int (if i < 0 then -i else i)) H
def rLn (K : PySem.W.Frag) : List V → Hp → VK → Prop := fun xs H Q => ∃ x n, xs = [x] ∧ LenV K x H n ∧ Q (.int n) H
def rInt1 : List V → Hp → VK → Prop := fun xs H Q => (∃ i, xs = [.int i] ∧ Q (.int i) H) ∨ ∃ k, xs = [.bl k] ∧ Q (.int (if k then 1 else 0)) H
def rMx2 : List V → Hp → VK → Prop := fun xs H Q => ∃ i j, xs = [.int i, .int j] ∧ Q (.int (if j > i then j else i)) H
def rMn2 : List V → Hp → VK → Prop := fun xs H Q => ∃ i j, xs = [.int i, .int j] ∧ Q (.int (if j < i then j else i)) H
def rLstOf (K : PySem.W.Frag) : List V → Hp → VK → Prop := fun xs H Q => ∃ p ys, xs = [.ref p] ∧ (SqL K H p ys ∨ SqT K H p ys) ∧ ∀ l, H l = none → Q (.ref l) (upd H l (.lst ys))
def rTupOf (K : PySem.W.Frag) : List V → Hp → VK → Prop := fun xs H Q => ∃ p ys, xs = [.ref p] ∧ ((SqL K H p ys ∧ ∀ l, H l = none → Q (.ref l) (upd H l (.tup ys))) ∨ (SqT K H p ys ∧ Q (.ref p) H))
section
variable {X : Cx}
theorem cAbs : CallR X (.builtin "abs") rAbs := call_abs
theorem cLen : CallR X (.builtin "len") (rLn X.K) := call_len
theorem cInt1 : CallR X (.type "int") rInt1 := call_int1
theorem cMax2 (hc : X.calm = true) : CallR X (.builtin "max") rMx2 := call_max2 hc
theorem cMin2 (hc : X.calm = true) : CallR X (.builtin "min") rMn2 := call_min2 hc
theorem cLstOf : CallR X (.type "list") (rLstOf X.K) := call_list_of
theorem cTupOf : CallR X (.type "tuple") (rTupOf X.K) := call_tuple_of
/-- a truth as a test -/
theorem pt_tru {a : Expr} {ta : TE} (ha : PE X a ta) (he : ∀ whole, isTrue a X.env whole = (do let v ← whole; standAt a.pos; holding [v] (truthy v)) := by intro _; rfl) : PT X a (tTru X.K ta) := pt_truth ha he
end
section
variable {K : PySem.W.Frag} {σ : L2.St} {H : Hp} {ta : TE} {Q : VK} {D : Ends} {i j : Nat} {v x y : V} {b : Bool} {p : Addr} {xs : List V} {n m : Int}
theorem r_abs (q : Q (.int (n.natAbs : Int)) H) : rAbs [.int n] H Q := ⟨n, rfl, by
  have e : (if n < 0 then -n else n) = (n.natAbs : Int) := by split <;> omega
  rw [e]; exact q⟩
theorem r_lenL (h : SqL K H p xs) (q : Q (.int (xs.length : Int)) H) : rLn K [.ref p] H Q := ⟨.ref p, xs.length, rfl, .inl ⟨xs, h, rfl⟩, q⟩
theorem r_lenT (h : SqT K H p xs) (q : Q (.int (xs.length : Int)) H) : rLn K [.ref p] H Q := ⟨.ref p, xs.length, rfl, .inr ⟨xs, h, rfl⟩, q⟩
theorem r_intB (q : Q (.int (if b then 1 else 0)) H) : rInt1 [.bl b] H Q := .inr ⟨b, rfl, q⟩
theorem r_intI (q : Q (.int n) H) : rInt1 [.int n] H Q := .inl ⟨n, rfl, q⟩
theorem r_max2 (q : Q (.int (max n m)) H) : rMx2 [.int n, .int m] H Q := ⟨n, m, rfl, by
  have e : (if m > n then m else n) = max n m := by omega
  rw [e]; exact q⟩
theorem r_min2 (q : Q (.int (min n m)) H) : rMn2 [.int n, .int m] H Q := ⟨n, m, rfl, by
  have e : (if m < n then m else n) = min n m := by omega
  rw [e]; exact q⟩
theorem r_lstOfL (h : SqL K H p xs) (q : ∀ l, H l = none → Q (.ref l) (upd H l (.lst xs))) : rLstOf K [.ref p] H Q := ⟨p, xs, rfl, .inl h, q⟩
theorem r_lstOfT (h : SqT K H p xs) (q : ∀ l, H l = none → Q (.ref l) (upd H l (.lst xs))) : rLstOf K [.ref p] H Q := ⟨p, xs, rfl, .inr h, q⟩
theorem r_tupOfL (h : SqL K H p xs) (q : ∀ l, H l = none → Q (.ref l) (upd H l (.tup xs))) : rTupOf K [.ref p] H Q := ⟨p, xs, rfl, .inl ⟨h, q⟩⟩
theorem r_tupOfT (h : SqT K H p xs) (q : Q (.ref p) H) : rTupOf K [.ref p] H Q := ⟨p, xs, rfl, .inr ⟨h, q⟩⟩
theorem r_new {R : Addr → Prop} (q : ∀ p, H p = none → R p) (h : Nat.ble xs.length 1000 = true := by rfl) : xs.length ≤ sizeLine ∧ ∀ p, H p = none → R p := ⟨Nat.le_trans (Nat.le_of_ble_eq_true h) (by decide), q⟩
theorem r_cut {t u : TS} (Mid : L2.St → Hp → Prop) (h1 : t { D with nx := Mid } σ H) (h2 : ∀ σ' H', Mid σ' H' → u D σ' H') : Evl.tCut t u D σ H := ⟨Mid, h1, h2⟩
theorem r_tru {R : Bool → Hp → Prop} (q : ta σ H fun x H' => ∃ k, TruV K x H' k ∧ R k H') : tTru K ta σ H R := q
theorem r_truI {R : Bool → Prop} (q : R (decide (n ≠ 0))) : ∃ k, TruV K (.int n) H k ∧ R k := ⟨n != 0, rfl, by
  have e : (n != 0) = decide (n ≠ 0) := by
    by_cases h : n = 0
    · subst h; rfl
    · simp [h]
  rw [e]; exact q⟩
theorem r_isN (q : Q (.bl (decide (x = .non))) H) : rIsN x .non H Q := ⟨rfl, q⟩
theorem r_notN (q : Q (.bl (!decide (x = .non))) H) : rNotN x .non H Q := ⟨rfl, q⟩
theorem r_isB {a c : Bool} (q : Q (.bl (decide (a = c))) H) : rIsB (.bl a) (.bl c) H Q := ⟨a, c, rfl, rfl, q⟩
theorem r_notB {a c : Bool} (q : Q (.bl (!decide (a = c))) H) : rNotB (.bl a) (.bl c) H Q := ⟨a, c, rfl, rfl, q⟩
theorem r_isi {c : V} {t u : Value} (k : ClsV c u) (ty : TyX K H x t) (e : PySem.W.kitOne K t u = some b) (q : Q (.bl b) H) : rIsi K [x, c] H Q := ⟨x, c, t, u, b, rfl, k, ty, e, q⟩
theorem r_aug {te : TE} {ti : TIp} (h : σ[i]? = some (some x)) (q : te σ H fun y H1 => ti x y H1 fun z H2 => D.nx (σ.set i (some z)) H2) : tAug i te ti D σ H := ⟨x, h, q⟩
theorem r_ipI {f : Int → Int → Int} (q : Q (.int (f n m)) H) : ipI f (.int n) (.int m) H Q := ⟨n, m, rfl, rfl, q⟩
theorem r_gtup {k : Nat} {t : TGs} {R : L2.St → Hp → Prop} (h : SqT K H p xs) (q : t xs σ H R) (hl : xs.length = k := by rfl) : gTup K k t (.ref p) σ H R := ⟨p, xs, rfl, h, hl, q⟩
theorem r_gcons {t : TG} {u : TGs} {R : L2.St → Hp → Prop} (q : t v σ H fun σ' H' => u xs σ' H' R) : gCons t u (v :: xs) σ H R := ⟨v, xs, rfl, q⟩
theorem r_gnil {R : L2.St → Hp → Prop} (q : R σ H) : gNil [] σ H R := ⟨rfl, q⟩
theorem r_par {ta : TA} (q : ta σ H fun vs H1 => ∃ v w, vs = [v, w] ∧ D.nx ((σ.set i (some v)).set j (some w)) H1) : tPar i j ta D σ H := q
theorem r_two {R : V → V → Prop} (q : R x y) : ∃ v w, [x, y] = [v, w] ∧ R v w := ⟨x, y, rfl, q⟩
theorem r_rep {l : Addr} (h : H l = some (.lst xs)) (h1 : -(2 ^ 63) ≤ n) (h2 : n < 2 ^ 63) (h3 : xs.length * n.toNat ≤ sizeLine) (q : ∀ p, H p = none → Q (.ref p) (upd H p (.lst (List.replicate n.toNat xs).flatten))) : rRep (.ref l) (.int n) H Q := ⟨l, n, xs, rfl, rfl, h, h1, h2, h3, q⟩
theorem r_cat {l l' : Addr} {ys : List V} (h : H l = some (.lst xs)) (h' : H l' = some (.lst ys)) (h3 : xs.length + ys.length ≤ sizeLine) (q : ∀ p, H p = none → Q (.ref p) (upd H p (.lst (xs ++ ys)))) : rCat (.ref l) (.ref l') H Q := ⟨l, l', xs, ys, rfl, rfl, h, h', h3, q⟩
theorem r_eqD {d e : PyData} (hd : Dp K H x d) (he : Dp K H y e) (sd : SeqAt.shaped d = true) (se : SeqAt.shaped e = true) (q : Q (.bl (PyData.eqv d e)) H) : rEqD K x y H Q := ⟨d, e, hd, he, sd, se, q⟩
theorem r_neD {d e : PyData} (hd : Dp K H x d) (he : Dp K H y e) (sd : SeqAt.shaped d = true) (se : SeqAt.shaped e = true) (q : Q (.bl (!PyData.eqv d e)) H) : rNeD K x y H Q := ⟨d, e, hd, he, sd, se, q⟩
end
end G
/-! ### calls of a def with a star parameter; in a try or not -/
namespace G
open PySem PySem.Spec PyProof.Rows L2
section
variable {X : Cx} {CX : CXT} {k : Nat} {f : Addr} {sp : Sp} {E : L2.St → XK} {x : Str} {p pos : Pos} {e : Expr} {es : List Expr} {t : TA}
def tCallR (sp : Sp) (E : L2.St → XK) (t : TA) : TE := fun σ H Q => t σ H fun vs H1 => sp vs H1 Q (E σ)
theorem run_fnRS {pins : List (Addr × Obj)} {σ : L2.St} {H : Hp} {s : Shared} {Q : VK} {us : List Value} {vs : List V} (F : FnR X.prog X.w X.K X.mg X.base CX k f sp) (hr : Room k X.A) (hx : PassesAt CX X σ (E σ))
    (I : Inv X pins σ H s) (r : Vals vs us) (h : sp vs H Q (E σ)) : wpAny (model X.prog X.w) X.A (call (.ref f) us) (EP X pins σ Q) X.xe s := by
  refine wpAny_call (codeAny_mono (F X.A X.stack s H us vs Q (E σ) hr I.env0 r h) fun r s' hq => ?_)
  cases r with
  | error e => exact hx pins H s e s' I hq
  | ok fl =>
    cases fl with
    | ret u => exact I.after hq
    | next => exact False.elim hq
    | brk => exact False.elim hq
    | cont => exact False.elim hq
theorem pe_callR (F : FnR X.prog X.w X.K X.mg X.base CX k f sp) (hr : Room k X.A) (hg : Gl X x) (hm : X.mg x = some (.ref f)) (hk : PySem.W.keepIn X.K (.ref f) = true) (hx : ∀ σ, PassesAt CX X σ (E σ))
    (ha : PA X (e :: es) t) (hdb : (x == ("__debug__" : Str)) = false := by decide) (he : starEach (e :: es) X.env = (false, eval e X.env) :: starEach es X.env := by rfl) (hpl : (backTo pos (starEach es X.env)).any (·.1) = false := by rfl) :
    PE X (.Call (.Name x p) (e :: es) [] pos) (tCallR sp E t) := by
  refine ⟨fun pins s σ H Q I h => ?_⟩
  refine wpAny_Call_Name_kw (ld_glob I hg hm ?_ hdb)
  refine PySem.W.callWith_K (h₀ := X.base) I.ok.mod.kin hk (thn (ha.run pos pins s σ H _ I h) fun us s1 ⟨vs, H1, I1, r, q⟩ => ⟨I1.kIn, ?_⟩) he hpl
  exact run_fnRS F hr (hx σ) I1 r q
theorem pe_callR0 (F : FnR X.prog X.w X.K X.mg X.base CX k f sp) (hr : Room k X.A) (hg : Gl X x) (hm : X.mg x = some (.ref f)) (hk : PySem.W.keepIn X.K (.ref f) = true) (hx : ∀ σ, PassesAt CX X σ (E σ))
    (hdb : (x == ("__debug__" : Str)) = false := by decide) : PE X (.Call (.Name x p) [] [] pos) (tCallR sp E tNil) := by
  refine ⟨fun pins s σ H Q I h => ?_⟩
  refine wpAny_Call_Name_kw (ld_glob I hg hm ?_ hdb)
  exact PySem.W.callWith_K0 I.kIn hk (run_fnRS (us := []) F hr (hx σ) I .nil h)
theorem passAll {E : XK} (hx : Passes CX X E) : ∀ σ, PassesAt CX X σ ((fun _ => E) σ) := fun σ pins H s e s' I c => hx pins σ H s e s' I c
end
section
variable {σ : L2.St} {H : Hp} {Q : VK} {sp : Sp} {E : L2.St → XK} {t : TA}
theorem r_callR (q : t σ H fun vs H1 => sp vs H1 Q (E σ)) : tCallR sp E t σ H Q := q
end
end G
/-! ### == and != of instances by an own __eq__ -/
namespace G
open PySem PySem.Spec PyProof.Rows L2
section
variable {M : Model} {prog : Program} {w : World} {A : Around} {E : Value → Shared → Prop} {s : Shared} {K : PySem.W.Frag} {x C f : Addr} {ox : Obj} {od : Option Obj} {b tb : Value}
theorem ifBound_ne {args : List Value} {Q : Option Value → Shared → Prop} (X : K.In s.heap) (I : PySem.W.InstAt s.heap x ox C od) (hs : PySem.W.findIn K (.ref C) "__ne__" = some (some (.builtin "object.__ne__")))
    (h : wpAny M A (call (.builtin "object.__ne__") (.ref x :: args)) (fun v => Q (some v)) E s) : wpAny M A (callSpecialIfBound? (.ref x) "__ne__" args) Q E s := by
  simp only [callSpecialIfBound?, bindSpecialIfBound?]
  refine wpAny_holding (wpAny_bind (wpAny_bind (wpAny_bind (I.type.here ((PySem.W.looks_findIn X hs).here ?_)))))
  refine wpAny_bind (wpAny_askSetting (wpAny_ite ?_))
  have fin : wpAny M A (call (.builtin "object.__ne__") ([.ref x] ++ args) >>= fun v => pure (some v)) Q E s := wpAny_bind (wpAny_mono h (fun v s' h' => wpAny_pure h') fun _ _ h' => h')
  split
  · exact wpAny_bind (wpAny_of_eq (F.cmp_object.ne.bind _) (wpAny_pure (by exact fin)))
  · exact wpAny_tryCatch (wpAny_bind (wpAny_of_eq (F.cmp_object.ne.bind _) (wpAny_pure (by exact fin))))
theorem objNe_at {Q : Fin → Shared → Prop} (X : K.In s.heap) (I : PySem.W.InstAt s.heap x ox C od) (hs : PySem.W.findIn K (.ref C) "__eq__" = some (some (.ref f))) (hf : PySem.W.isFn K (.ref f) = true) (hu : A.units < cLine)
    (hcall : wpAny (model prog w) A (call (.ref f) [.ref x, b]) (fun v s' => ∃ c, v = .bool c ∧ Q (.done (.ret (.bool (!c)))) s') E s) :
    wpAny (model prog w) A (Builtin.«object.__ne__» ⟨[.ref x, b], []⟩) Q E s := by
  unfold Builtin.«object.__ne__»
  repeat (first
    | with_reducible refine wpAny_cRoomFor hu ?_
    | (refine wpAny_bind (m := callSpecialIfBound? (.ref x) (Str.ofString "__eq__") [b])
        (PySem.W.ifBound_K X I hs hf (wpAny_mono hcall (fun r s' hr => by
          obtain ⟨c, rfl, hq⟩ := hr
          repeat (first | exact hq | exact wpAny_pure hq | exact wpAny_truthy_bool hq | (refine wpAny_bind (m := truthy (.bool _)) (wpAny_truthy_bool ?_)) | wp_step)) fun _ _ e => e)))
    | wp_step)
theorem ne_K {Q : Value → Shared → Prop} (hu : A.units + 1 < cLine) (X : K.In s.heap) (I : PySem.W.InstAt s.heap x ox C od) (hb : PySem.W.Looks (model prog w) s.heap (typeOf b) tb) (hn : PySem.W.notFirst K C tb = true)
    (hne : PySem.W.findIn K (.ref C) "__ne__" = some (some (.builtin "object.__ne__"))) (hs : PySem.W.findIn K (.ref C) "__eq__" = some (some (.ref f))) (hf : PySem.W.isFn K (.ref f) = true) (hm : PySem.W.mroIn K C (.type "object") = some true)
    (hcall : wpAny (model prog w) A.in1 (call (.ref f) [.ref x, b]) (fun v s' => ∃ c, v = .bool c ∧ Q (.bool (!c)) s') E s) : wpAny (model prog w) A (richCompare .NotEq (.ref x) b) Q E s := by
  have one : wpAny (model prog w) A (tryCompare (.ref x) (cmpInfo .NotEq).2.1 b) (fun r s' => ∃ v, r = some v ∧ Q v s') E s := by
    show wpAny (model prog w) A (tryCompare (.ref x) "__ne__" b) _ E s
    unfold tryCompare
    refine wpAny_bind (ifBound_ne X I hne (wpAny_call (codeAny_call_builtin F.cmp_object.ne.plain F.cmpEntry_ne (PySem.W.check_slot F.cmpKind_ne F.cmpSplit_ne (I.type.andThen (PySem.W.looks_mroIn X hm)) (F.cmpArgs_ne _ _)
      (objNe_at (A := A.in1) X I hs hf hu (wpAny_mono hcall (fun v s' hv => ?_) fun _ _ e => e))))))
    obtain ⟨c, rfl, hq⟩ := hv
    first | exact ⟨c, rfl, wpAny_pure ⟨_, rfl, hq⟩⟩ | exact ⟨c, rfl, wpAny_pure (wpAny_pure ⟨_, rfl, hq⟩)⟩ | exact ⟨c, rfl, ⟨_, rfl, hq⟩⟩
  unfold richCompare
  simp only [oneThing_ref]
  refine wpAny_holding (wpAny_bind (wpAny_cRoomFor (Nat.lt_of_succ_lt hu) ?_))
  refine wpAny_bind (I.type.here (wpAny_bind (hb.here ?_)))
  split
  · rename_i q
    have e : PySem.W.subIn K tb (.ref C) = some false := by
      rcases Bool.or_eq_true_iff.mp hn with e | e
      · rw [beq_iff_eq.mp e] at q; simp at q
      · exact beq_iff_eq.mp e
    refine wpAny_bind ((PySem.W.looks_subIn X e).here ?_)
    simp only [Bool.false_eq_true, if_false]
    refine wpAny_bind (wpAny_mono one (fun r s' z => ?_) fun _ _ e => e)
    obtain ⟨v, rfl, hq⟩ := z
    exact wpAny_pure hq
  · refine wpAny_bind (wpAny_pure ?_)
    simp only [Bool.false_eq_true, if_false]
    refine wpAny_bind (wpAny_mono one (fun r s' z => ?_) fun _ _ e => e)
    obtain ⟨v, rfl, hq⟩ := z
    exact wpAny_pure hq
end
/-- the class at C compares by its own __eq__ at f -/
structure OEq (K : PySem.W.Frag) (C f : Addr) : Prop where
  eq : PySem.W.findIn K (.ref C) "__eq__" = some (some (.ref f))
  fn : PySem.W.isFn K (.ref f) = true
  ne : PySem.W.findIn K (.ref C) "__ne__" = some (some (.builtin "object.__ne__"))
  ob : PySem.W.mroIn K C (.type "object") = some true
def oEqB (K : PySem.W.Frag) (C f : Addr) : Bool := He.eqO (PySem.W.findIn K (.ref C) "__eq__") (some (some (.ref f))) && (PySem.W.isFn K (.ref f) && (He.eqO (PySem.W.findIn K (.ref C) "__ne__") (some (some (.builtin "object.__ne__"))) && decide (PySem.W.mroIn K C (.type "object") = some true)))
theorem oEqB_ok {K : PySem.W.Frag} {C f : Addr} (c : oEqB K C f = true) : OEq K C f := by
  obtain ⟨c1, c⟩ := He.ba c
  obtain ⟨c2, c⟩ := He.ba c
  obtain ⟨c3, c4⟩ := He.ba c
  exact ⟨He.eqO_ok c1, c2, He.eqO_ok c3, of_decide_eq_true c4⟩
def rEqO (K : PySem.W.Frag) (C : Addr) (sp : Sp) (E : XK) : R2 := fun x y H Q => ∃ a dx fs t, x = .ref a ∧ H a = some (.ins C dx fs) ∧ TyX K H y t ∧ PySem.W.notFirst K C t = true ∧ sp [x, y] H (fun v H' => ∃ b, v = .bl b ∧ Q (.bl b) H') E
def rNeO (K : PySem.W.Frag) (C : Addr) (sp : Sp) (E : XK) : R2 := fun x y H Q => ∃ a dx fs t, x = .ref a ∧ H a = some (.ins C dx fs) ∧ TyX K H y t ∧ PySem.W.notFirst K C t = true ∧ sp [x, y] H (fun v H' => ∃ b, v = .bl b ∧ Q (.bl (!b)) H') E
section
variable {X : Cx} {CX : CXT} {n : Nat} {C f : Addr} {fd : FuncData} {ps : List Str} {sp : Sp} {E : XK} {K : PySem.W.Frag}
theorem run_eqO {A : Around} {pins : List (Addr × Obj)} {σ : L2.St} {H : Hp} {s : Shared} {Q : VK} {x y : V} {u v : Value} (F : FnOk X.prog X.w X.K X.mg X.base CX n f fd ps sp) (hr : Room n A) (e0 : Env0 X.prog X.w X.K X.mg X.base A X.stack s H) (hb : Binds X.K fd ps []) (hx : Passes CX X E)
    (I : Inv X pins σ H s) (rx : RelV x u) (ry : RelV y v) (h : sp [x, y] H Q E) : wpAny (model X.prog X.w) A (call (.ref f) [u, v]) (EP X pins σ Q) X.xe s := by
  have hl := F.len _ _ _ _ h
  refine wpAny_call (codeAny_mono (F.run A X.stack s H ⟨[u, v], []⟩ [u, v] [x, y] Q E hr e0 (by
    have := hb s [u, v] I.kIn (by simpa using hl)
    simpa using this) (.cons rx (.cons ry .nil)) h) fun r s' hq => ?_)
  cases r with
  | error e => exact hx pins σ H s e s' I hq
  | ok fl =>
    cases fl with
    | ret w => exact I.after hq
    | next => exact False.elim hq
    | brk => exact False.elim hq
    | cont => exact False.elim hq
theorem op_eqO (o : OEq X.K C f) (F : FnOk X.prog X.w X.K X.mg X.base CX n f fd ps sp) (hr : Room n X.A) (hb : Binds X.K fd ps []) (hx : Passes CX X E) (hK : X.K = K := by rfl) : OpR X (compareOp .Eq) (rEqO K C sp E) := by
  subst hK
  intro pins s σ H x y u v Q I rx ry h
  obtain ⟨a, dx, fs, t, rfl, ha, ty, hn, h⟩ := h
  obtain ⟨P, Z, p, _⟩ := kit_of I ry ty
  cases rx
  obtain ⟨mA, J, _⟩ := ins_get I.hok ha
  obtain ⟨od, J, _⟩ := J.look
  obtain ⟨m, hF⟩ := I.fr
  show wpAny (model X.prog X.w) X.A (richCompare .Eq (.ref a) v) (EP X pins σ Q) X.xe s
  refine PySem.W.cmp_K (op := .Eq) hr.units0 hF I.ok.mod.kin J (Z.ty _ _ I.kIn p) hn o.eq o.fn ?_
  refine thn (run_eqO (x := .ref a) F hr I.env0 hb hx I rfl ry h) fun r s' z => ?_
  obtain ⟨w, H', I', rw', b, rfl, q⟩ := z
  cases rw'
  exact ⟨.bl b, H', I', rfl, q⟩
theorem op_neO (o : OEq X.K C f) (F : FnOk X.prog X.w X.K X.mg X.base CX n f fd ps sp) (hr : Room (n + 1) X.A) (hb : Binds X.K fd ps []) (hx : Passes CX X E) (hK : X.K = K := by rfl) : OpR X (compareOp .NotEq) (rNeO K C sp E) := by
  subst hK
  intro pins s σ H x y u v Q I rx ry h
  obtain ⟨a, dx, fs, t, rfl, ha, ty, hn, h⟩ := h
  obtain ⟨P, Z, p, _⟩ := kit_of I ry ty
  cases rx
  obtain ⟨mA, J, _⟩ := ins_get I.hok ha
  obtain ⟨od, J, _⟩ := J.look
  show wpAny (model X.prog X.w) X.A (richCompare .NotEq (.ref a) v) (EP X pins σ Q) X.xe s
  have hu : X.A.units + 1 < cLine := Nat.lt_of_le_of_lt (Nat.add_le_add_left (by decide : 1 ≤ 64) _) hr.units
  refine ne_K hu I.kIn J (Z.ty _ _ I.kIn p) hn o.ne o.eq o.fn o.ob ?_
  refine thn (run_eqO (x := .ref a) F hr.in1 I.env0.in1 hb hx I rfl ry h) fun r s' z => ?_
  obtain ⟨w, H', I', rw', b, rfl, q⟩ := z
  cases rw'
  exact ⟨b, rfl, .bl (!b), H', I', rfl, q⟩
end
section
variable {K : PySem.W.Frag} {H : Hp} {Q : VK} {C a dx : Addr} {fs : List (Str × V)} {sp : Sp} {E : XK} {y : V} {t : Value}
theorem r_eqO (ha : H a = some (.ins C dx fs)) (ty : TyX K H y t) (hn : PySem.W.notFirst K C t = true) (q : sp [.ref a, y] H (fun v H' => ∃ b, v = .bl b ∧ Q (.bl b) H') E) : rEqO K C sp E (.ref a) y H Q := ⟨a, dx, fs, t, rfl, ha, ty, hn, q⟩
theorem r_neO (ha : H a = some (.ins C dx fs)) (ty : TyX K H y t) (hn : PySem.W.notFirst K C t = true) (q : sp [.ref a, y] H (fun v H' => ∃ b, v = .bl b ∧ Q (.bl (!b)) H') E) : rNeO K C sp E (.ref a) y H Q := ⟨a, dx, fs, t, rfl, ha, ty, hn, q⟩
end
end G
/-! ### methods, makings, class methods: the callee by a positional promise, its errors wished for at the caller's slots -/
namespace G
open PySem PySem.Spec PyProof.Rows L2
section
variable {X : Cx} {CX : CXT} {k i : Nat} {f C p g : Addr} {sp : Sp} {E : L2.St → XK} {x m : Str} {np pos apos : Pos} {o e : Expr} {es : List Expr} {ta : TE} {t : TA} {mc : Value}
def tMethA (C : Addr) (m : Str) (sp : Sp) (E : L2.St → XK) (ta : TE) (t : TA) : TE := fun σ H Q => ta σ H fun x H1 => ∃ a dx fs, x = .ref a ∧ H1 a = some (.ins C dx fs) ∧ fs.lookup m = none ∧ t σ H1 fun vs H2 => sp (x :: vs) H2 Q (E σ)
def tMakeA (C : Addr) (sp : Sp) (E : L2.St → XK) (t : TA) : TE := fun σ H Q => t σ H fun vs H1 => ∀ x dx, H1 x = none → H1 dx = none → dx ≠ x →
  sp (V.ref x :: vs) (upd (upd H1 dx (.own x)) x (.ins C dx [])) (fun v H2 => v = .non ∧ Q (.ref x) H2) (E σ)
def tMakeL (i : Nat) (C : Addr) (sp : Sp) (E : L2.St → XK) (t : TA) : TE := fun σ H Q => σ[i]? = some (some (.ref C)) ∧ t σ H fun vs H1 => ∀ x dx, H1 x = none → H1 dx = none → dx ≠ x →
  sp (V.ref x :: vs) (upd (upd H1 dx (.own x)) x (.ins C dx [])) (fun v H2 => v = .non ∧ Q (.ref x) H2) (E σ)
def tCMethA (C : Addr) (sp : Sp) (E : XK) (ta : TE) : TE := fun σ H Q => ta σ H fun x H1 => x = .ref C ∧ sp [.ref C] H1 Q E
theorem pe_methA {pl : Sem Bool} (he : PE X o ta) (c : Cls X.K C) (hm : Meth X.K C m f) (F : FnR X.prog X.w X.K X.mg X.base CX k f sp) (hr : Room k X.A) (hx : ∀ σ, PassesAt CX X σ (E σ)) (ha : PA X (e :: es) t)
    (hst : starEach (e :: es) X.env = (false, eval e X.env) :: starEach es X.env := by rfl) (hpl : (backTo pos (starEach es X.env)).any (·.1) = false := by rfl)
    (ht : eval (.Call (.Attribute o m apos) (e :: es) [] pos) X.env = (do
      let ov ← eval o X.env
      standAt apos.atName
      let (f, first) ← holding [ov] (getMethod ov m pl)
      callWith pos f first (backTo pos (starEach (e :: es) X.env)) (backToKw pos (keywordEach [] X.env))) := by rfl) :
    PE X (.Call (.Attribute o m apos) (e :: es) [] pos) (tMethA C m sp E ta t) := by
  refine ⟨fun pins s σ H Q I h => ?_⟩
  refine PySem.W.methodCall_KW (pl := pl) (thn (he.run pins s σ H _ I h) fun u s1 ⟨x, H1, I1, rx, a, dx, fs, ex, ea, l, q⟩ => ?_) ht
  subst ex
  obtain rfl : u = Value.ref a := rx
  refine getmeth_ok I1 ea c hm l ?_
  refine PySem.W.callWith_K (first := [.ref a]) (h₀ := X.base) I.ok.mod.kin hm.kp (thn (ha.run pos pins s1 σ H1 _ I1 q) fun us s2 ⟨vs, H2, I2, r, q2⟩ => ⟨I2.kIn, ?_⟩) hst hpl
  exact run_fnRS (us := .ref a :: us) (vs := .ref a :: vs) F hr (hx σ) I2 (.cons rfl r) q2
theorem pe_methA0 {pl : Sem Bool} (he : PE X o ta) (c : Cls X.K C) (hm : Meth X.K C m f) (F : FnR X.prog X.w X.K X.mg X.base CX k f sp) (hr : Room k X.A) (hx : ∀ σ, PassesAt CX X σ (E σ))
    (ht : eval (.Call (.Attribute o m apos) [] [] pos) X.env = (do
      let ov ← eval o X.env
      standAt apos.atName
      let (f, first) ← holding [ov] (getMethod ov m pl)
      callWith pos f first (backTo pos (starEach [] X.env)) (backToKw pos (keywordEach [] X.env))) := by rfl) :
    PE X (.Call (.Attribute o m apos) [] [] pos) (tMethA C m sp E ta tNil) := by
  refine ⟨fun pins s σ H Q I h => ?_⟩
  refine PySem.W.methodCall_KW (pl := pl) (thn (he.run pins s σ H _ I h) fun u s1 ⟨x, H1, I1, rx, a, dx, fs, ex, ea, l, q⟩ => ?_) ht
  subst ex
  obtain rfl : u = Value.ref a := rx
  refine getmeth_ok I1 ea c hm l ?_
  exact PySem.W.callWith_K0 (first := [.ref a]) I1.kIn hm.kp (run_fnRS (us := [.ref a]) (vs := [.ref a]) F hr (hx σ) I1 (.cons rfl .nil) q)
theorem run_makeA {pins : List (Addr × Obj)} {σ : L2.St} {H : Hp} {s : Shared} {Q : VK} {us : List Value} {vs : List V} (M : Mk X.K C f) (F : FnR X.prog X.w X.K X.mg X.base CX k f sp) (hr : Room (k + 1) X.A) (hx : PassesAt CX X σ (E σ)) (I : Inv X pins σ H s) (r : Vals vs us)
    (h : ∀ x dx, H x = none → H dx = none → dx ≠ x → sp (V.ref x :: vs) (upd (upd H dx (.own x)) x (.ins C dx [])) (fun v H2 => v = .non ∧ Q (.ref x) H2) (E σ)) :
    wpAny (model X.prog X.w) X.A (call (.ref C) us) (EP X pins σ Q) X.xe s := by
  have hq := h (s.heap.objs.size + 1) s.heap.objs.size (I.hok.fresh (Nat.le_succ _)) (I.hok.fresh (Nat.le_refl _)) (Nat.ne_of_lt (Nat.lt_succ_self _))
  have I2 := Inv.made (C := C) I
  have r2 : Vals (V.ref (s.heap.objs.size + 1) :: vs) (Value.ref (s.heap.objs.size + 1) :: us) := .cons rfl r
  refine wpAny_call (make_map (f := f) I.kIn M.makes M.init (beq_iff_eq.mp M.fn) (codeAny_mono (F _ X.stack _ _ (Value.ref (s.heap.objs.size + 1) :: us) _ _ (E σ) (hr.make C us []) (I2.env0.make C us []) r2 hq) fun r s' hq' => ?_))
  cases r with
  | error e => exact hx pins _ _ e s' I2 hq'
  | ok fl =>
    cases fl with
    | ret u =>
      obtain ⟨v, H', I3, rv, ev, q3⟩ := I2.after hq'
      subst ev
      exact ⟨rv, ⟨V.ref (s.heap.objs.size + 1), H', I3, rfl, q3⟩⟩
    | next => exact False.elim hq'
    | brk => exact False.elim hq'
    | cont => exact False.elim hq'
theorem pe_makeA (M : Mk X.K C f) (F : FnR X.prog X.w X.K X.mg X.base CX k f sp) (hr : Room (k + 1) X.A) (hg : Gl X x) (hm : X.mg x = some (.ref C)) (hx : ∀ σ, PassesAt CX X σ (E σ)) (ha : PA X (e :: es) t) (hdb : (x == ("__debug__" : Str)) = false := by decide)
    (he : starEach (e :: es) X.env = (false, eval e X.env) :: starEach es X.env := by rfl) (hpl : (backTo pos (starEach es X.env)).any (·.1) = false := by rfl) : PE X (.Call (.Name x np) (e :: es) [] pos) (tMakeA C sp E t) := by
  refine ⟨fun pins s σ H Q I h => ?_⟩
  refine wpAny_Call_Name_kw (ld_glob I hg hm ?_ hdb)
  refine PySem.W.callWith_K (h₀ := X.base) I.ok.mod.kin M.kp (thn (ha.run pos pins s σ H _ I h) fun us s1 ⟨vs, H1, I1, r, q⟩ => ⟨I1.kIn, ?_⟩) he hpl
  exact run_makeA M F hr (hx σ) I1 r q
theorem pe_makeL (M : Mk X.K C f) (F : FnR X.prog X.w X.K X.mg X.base CX k f sp) (hr : Room (k + 1) X.A) (hN : X.N[i]? = some x) (hv : Vis X.env.scope x) (hx : ∀ σ, PassesAt CX X σ (E σ)) (ha : PA X (e :: es) t) (hdb : (x == ("__debug__" : Str)) = false := by decide) (hcd : (x == ("__classdict__" : Str)) = false := by decide)
    (he : starEach (e :: es) X.env = (false, eval e X.env) :: starEach es X.env := by rfl) (hpl : (backTo pos (starEach es X.env)).any (·.1) = false := by rfl) : PE X (.Call (.Name x np) (e :: es) [] pos) (tMakeL i C sp E t) := by
  refine ⟨fun pins s σ H Q I h => ?_⟩
  obtain ⟨hs, ht⟩ := h
  refine wpAny_Call_Name_kw (thn ((pe_var (pos := np) hN hv hdb hcd).run pins s σ H (fun v H1 => v = .ref C ∧ H1 = H) I ⟨.ref C, hs, rfl, rfl⟩) fun u s1 ⟨v, H1, I1, r1, q1⟩ => ?_)
  obtain ⟨rfl, rfl⟩ := q1
  cases r1
  refine PySem.W.callWith_K (h₀ := X.base) I.ok.mod.kin M.kp (thn (ha.run pos pins s1 σ _ _ I1 ht) fun us s2 ⟨vs, H2, I2, r, q⟩ => ⟨I2.kIn, ?_⟩) he hpl
  exact run_makeA M F hr (hx σ) I2 r q
/-- C.m(), m a classmethod -/
theorem pe_cmeth0 {pl : Sem Bool} {E : XK} (he : PE X o ta) (r : ClX.CRead X.K C mc) (c : ClX.CMet X.K C mc m p g) (F : FnR X.prog X.w X.K X.mg X.base CX k g sp) (hr : Room k X.A) (hx : Passes CX X E)
    (ht : eval (.Call (.Attribute o m apos) [] [] pos) X.env = (do
      let ov ← eval o X.env
      standAt apos.atName
      let (f, first) ← holding [ov] (getMethod ov m pl)
      callWith pos f first (backTo pos (starEach [] X.env)) (backToKw pos (keywordEach [] X.env))) := by rfl) :
    PE X (.Call (.Attribute o m apos) [] [] pos) (tCMethA C sp E ta) := by
  refine ⟨fun pins s σ H Q I h => ?_⟩
  refine PySem.W.methodCall_KW (pl := pl) (thn (he.run pins s σ H _ I h) fun u s1 ⟨x, H1, I1, rx, ex, q⟩ => ?_) ht
  subst ex
  obtain rfl : u = Value.ref C := rx
  refine ClX.getmethcm_ok I1 r c fun s2 I2 => ?_
  exact PySem.W.callWith_M0 (first := []) ⟨ClX.pin_at I2, I2.kIn⟩ c.fi (ClX.run_cm (us := []) (vs := []) F hr hx I2 .nil q)
theorem kCVal {K : PySem.W.Frag} (he : PE X e ta) (hK : X.K = K := by rfl) (hb : attributeBase e m X.env (eval e X.env) = eval e X.env := by rfl) : PE X (.Attribute e m pos) (ClX.tCVal K ta m) := hK ▸ ClX.pe_cval he hb
end
section
variable {K : PySem.W.Frag} {σ : L2.St} {H : Hp} {Q : VK} {C a dx : Addr} {fs : List (Str × V)} {sp : Sp} {E : L2.St → XK} {ta : TE} {t : TA} {m : Str} {i : Nat} {D : Ends}
theorem r_methA (q : ta σ H fun x H1 => ∃ a dx fs, x = .ref a ∧ H1 a = some (.ins C dx fs) ∧ fs.lookup m = none ∧ t σ H1 fun vs H2 => sp (x :: vs) H2 Q (E σ)) : tMethA C m sp E ta t σ H Q := q
theorem r_recv {R : Prop} (h : H a = some (.ins C dx fs)) (hl : fs.lookup m = none) (q : R) : ∃ b dx fs, V.ref a = .ref b ∧ H b = some (.ins C dx fs) ∧ fs.lookup m = none ∧ R := ⟨a, dx, fs, rfl, h, hl, q⟩
theorem r_makeA (q : t σ H fun vs H1 => ∀ x dx, H1 x = none → H1 dx = none → dx ≠ x → sp (V.ref x :: vs) (upd (upd H1 dx (.own x)) x (.ins C dx [])) (fun v H2 => v = .non ∧ Q (.ref x) H2) (E σ)) : tMakeA C sp E t σ H Q := q
theorem r_makeL (h : σ[i]? = some (some (.ref C))) (q : t σ H fun vs H1 => ∀ x dx, H1 x = none → H1 dx = none → dx ≠ x → sp (V.ref x :: vs) (upd (upd H1 dx (.own x)) x (.ins C dx [])) (fun v H2 => v = .non ∧ Q (.ref x) H2) (E σ)) : tMakeL i C sp E t σ H Q := ⟨h, q⟩
theorem r_cmethA {E : XK} (q : ta σ H fun x H1 => x = .ref C ∧ sp [.ref C] H1 Q E) : tCMethA C sp E ta σ H Q := q
theorem r_cval {f : Str} (q : ta σ H fun x H1 => ∃ C mc v u, x = .ref C ∧ ClX.CRead K C mc ∧ ClX.CVal K C mc f v u ∧ Q v H1) : ClX.tCVal K ta f σ H Q := q
theorem r_prop {sp : Sp} {dvs : List V} {E : XK} (q : ta σ H fun x H1 => ∃ a dx fs, x = .ref a ∧ H1 a = some (.ins C dx fs) ∧ sp (.ref a :: dvs) H1 Q E) : tProp C sp dvs E ta σ H Q := q
theorem r_fld {f : Str} (q : ta σ H fun x H1 => ∃ a C dx fs v, x = .ref a ∧ H1 a = some (.ins C dx fs) ∧ Cls K C ∧ NoAttr K C f ∧ fs.lookup f = some v ∧ Q v H1) : tFld K ta f σ H Q := q
theorem r_sfld {f : Str} {tv : TE} (q : tv σ H fun y H1 => ta σ H1 fun x H2 => ∃ a C dx fs, x = .ref a ∧ H2 a = some (.ins C dx fs) ∧ Cls K C ∧ NoAttr K C f ∧ fs.length < 1000 ∧ D.nx σ (upd H2 a (.ins C dx (putF f y fs)))) : sFld K ta tv f D σ H := q
theorem r_fldAt {f : Str} {v : V} {R : V → Prop} (h : H a = some (.ins C dx fs)) (c : Cls K C) (n : NoAttr K C f) (l : fs.lookup f = some v) (q : R v) : ∃ b C dx fs v, V.ref a = .ref b ∧ H b = some (.ins C dx fs) ∧ Cls K C ∧ NoAttr K C f ∧ fs.lookup f = some v ∧ R v := ⟨a, C, dx, fs, v, rfl, h, c, n, l, q⟩
end
end G
/-! ### the head's facts by a list of tests -/
namespace G
open PySem PySem.Spec PyProof.Rows L2
def fdNo : FuncData := PySem.W.fnOf "" "" { posonlyargs := [], args := [], vararg := none, kwonlyargs := [], kw_defaults := [], kwarg := none, defaults := [] } [] { kind := .function, names := [], isGenerator := false, isCoroutine := false } .none .none .none .none none .none .none
def fdOf (K : PySem.W.Frag) (f : Addr) : FuncData := match K.lookup f with
  | some ⟨_, _, .func fd, _⟩ => fd
  | _ => fdNo
theorem defAt {K : PySem.W.Frag} {x qual : Str} {params : Arguments} {body : List Stmt} {scope : Scope} {dvs : List V} {kws : List (Str × V)} {f : Addr} (h : ∃ fd, FunD K x qual params body scope dvs kws f fd) : FunD K x qual params body scope dvs kws f (fdOf K f) := by
  obtain ⟨fd, F⟩ := h
  have e : fdOf K f = fd := by
    obtain ⟨oc, od, dV, kV, doc, pm, an, cdv, ct, osl, rfl, lk, _⟩ := F.ex
    unfold fdOf
    rw [lk]
  rw [e]
  exact F
/-- a def's words, whatever its closure -/
def fnB (K : PySem.W.Frag) (a : Addr) : He5.FnW := match K.lookup a with
  | some ⟨_, _, .func fd, _⟩ => some (fd.name, fd.qualname, fd.params, fd.body, fd.scope, fd.globals, [], fd.builtins)
  | _ => none
def obsM (fa : List (PySem.W.Frag → Bool)) (fn gs : List He5.DefA) (K : PySem.W.Frag) : He.AlD := ((fa.all fun f => f K) && fn.all fun d => d.ok K, (fn.map fun d => He5.fnA K (d.at_ K)) ++ gs.map fun d => fnB K (d.at_ K))
def valM (fn gs : List He5.DefA) : He.AlD := (true, fn.map He5.DefA.val ++ gs.map He5.DefA.val)
def SaysM (fa : List (PySem.W.Frag → Bool)) (fn gs : List He5.DefA) (K : PySem.W.Frag) : Prop := obsM fa fn gs K = valM fn gs
/-- what is reached from the module's names in n steps, each address once (a number's bits tell what was seen) -/
def addB : List Addr → Nat → List Addr → (List Addr → Nat → List Addr) → List Addr
  | [], m, acc, k => k acc m
  | a :: r, m, acc, k => match Nat.testBit m a with
    | true => addB r m acc k
    | false => addB r (m ||| (1 <<< a)) (a :: acc) k
def growB (g : Addr → Option Obj) : Nat → List Addr → Nat → List Addr → List Addr
  | 0, _, _, acc => acc
  | n + 1, fr, m, acc => addB (fr.flatMap fun a => match g a with
    | some o => He.refsD o
    | none => []) m [] fun fr' m' => growB g n fr' m' (fr' ++ acc)
def asB (g : Addr → Option Obj) (n : Nat) : List Addr := growB g n [PySem.mainGlobals] (1 <<< PySem.mainGlobals) [PySem.mainGlobals] ++ [PySem.cStatics, PySem.sysModules]
def obsMG (n : Nat) (fa : List (PySem.W.Frag → Bool)) (fn gs : List He5.DefA) (g : Addr → Option Obj) : He.AlD := obsM fa fn gs (He.frG g (asB g n))
def hookM (n : Nat) (fa : List (PySem.W.Frag → Bool)) (fn gs : List He5.DefA) : PySem.W.Hook where
  α := He.AlD
  obs := fun s => obsMG n fa fn gs s.heap.get?
  val := fun _ => valM fn gs
  says := fun _ h => ∃ K : PySem.W.Frag, K.In h ∧ SaysM fa fn gs K
  of := fun _ _ e => ⟨_, He.frG_in, e⟩
  keeps := fun _ _ _ ⟨K, hK, c⟩ k => ⟨K, PySem.W.Frag.In.keeps hK k, c⟩
theorem obsMG_eq {n : Nat} {fa : List (PySem.W.Frag → Bool)} {fn gs : List He5.DefA} {g : Addr → Option Obj} {s : Shared} (h : ∀ a, g a = s.heap.get? a) : obsMG n fa fn gs g = (hookM n fa fn gs).obs s := by
  have e : g = s.heap.get? := funext h
  rw [e] <;> rfl
section
variable {fa : List (PySem.W.Frag → Bool)} {fn gs : List He5.DefA} {K : PySem.W.Frag}
theorem SaysM.fact (c : SaysM fa fn gs K) (i : Nat) {f : PySem.W.Frag → Bool} (h : fa[i]? = some f) : f K = true := by
  have c1 := (He.ba (show ((fa.all fun f => f K) && fn.all fun d => d.ok K) = true from congrArg (fun z : He.AlD => z.1) c)).1
  exact List.all_eq_true.mp c1 f (List.mem_of_getElem? h)
theorem SaysM.two (c : SaysM fa fn gs K) : fn.map (fun d => He5.fnA K (d.at_ K)) = fn.map He5.DefA.val ∧ gs.map (fun d => fnB K (d.at_ K)) = gs.map He5.DefA.val :=
  List.append_inj (congrArg (fun z : He.AlD => z.2) c) (by rw [List.length_map, List.length_map])
theorem SaysM.def_ (c : SaysM fa fn gs K) (i : Nat) {d : He5.DefA} (h : fn[i]? = some d) : ∃ fd, FunD K d.name d.qual d.params d.body d.scope (d.dvs K) (d.kws K) (d.at_ K) fd := by
  have c2 := (He.ba (show ((fa.all fun f => f K) && fn.all fun d => d.ok K) = true from congrArg (fun z : He.AlD => z.1) c)).2
  have e2 : (fn.map fun d => He5.fnA K (d.at_ K))[i]? = (fn.map He5.DefA.val)[i]? := by rw [c.two.1]
  rw [List.getElem?_map, List.getElem?_map, h] at e2
  exact He5.DefA.funD (Option.some.inj e2) (List.all_eq_true.mp c2 d (List.mem_of_getElem? h))
theorem SaysM.sup_ (c : SaysM fa fn gs K) (i : Nat) {d : He5.DefA} (h : gs[i]? = some d) : fnB K (d.at_ K) = d.val := by
  have e2 : (gs.map fun d => fnB K (d.at_ K))[i]? = (gs.map He5.DefA.val)[i]? := by rw [c.two.2]
  rw [List.getElem?_map, List.getElem?_map, h] at e2
  exact Option.some.inj e2
end
/-! ### own exceptions without __init__ -/
structure ExcF (K : PySem.W.Frag) (C : Addr) : Prop where
  x : PySem.W.excIn K C He.veBase "ValueError.__new__" = true
  k : PySem.W.keepIn K (.ref C) = true
  b : PySem.W.subIn K (.ref C) (.type "BaseException") = some true
  t : PySem.W.typeIn K (.ref C) = some (.type "type")
def excFB (K : PySem.W.Frag) (C : Addr) : Bool := PySem.W.excIn K C He.veBase "ValueError.__new__" && (PySem.W.keepIn K (.ref C) && (decide (PySem.W.subIn K (.ref C) (.type "BaseException") = some true) && decide (PySem.W.typeIn K (.ref C) = some (.type "type"))))
theorem excF_ok {K : PySem.W.Frag} {C : Addr} (c : excFB K C = true) : ExcF K C := by
  obtain ⟨c1, c⟩ := He.ba c
  obtain ⟨c2, c⟩ := He.ba c
  obtain ⟨c3, c4⟩ := He.ba c
  exact ⟨c1, c2, of_decide_eq_true c3, of_decide_eq_true c4⟩
end G
namespace G
open PySem PySem.Spec PyProof.Rows L2
/-- a law's promise -/
def sp_law (K : PySem.W.Frag) : Sp := fun vs H Q _ => ∃ (a : Addr) (ns : List Int), vs = [.ref a] ∧ SqL K H a (ns.map V.int) ∧ ns.length ≤ 63 ∧ ∀ H', Q (.bl true) H'
end G
/-! ### classes: facts read off the head -/
namespace G
open PySem PySem.Spec PyProof.Rows L2
/-- f is a property of the class at C (found at D): its getter -/
def propB (K : PySem.W.Frag) (C D : Addr) (f : Str) : Bool := He.eqO (PySem.W.findIn K (.ref C) f) (some (some (.ref (He.ma K D f)))) && (He.eqO (PySem.W.specialIn K (.ref (He.ma K D f)) "__get__") (some (some (.builtin "property.__get__"))) &&
  (decide (PySem.W.takesIn K (.ref (He.ma K D f)) = some true) && (match PySem.W.recIn K (He.ma K D f) "property" with
    | some (.ref _ :: _) => true
    | _ => false)))
theorem propB_ok {K : PySem.W.Frag} {C D : Addr} {f : Str} (c : propB K C D f = true) : PropOf K C f (He.ma K D f) (He5.wf K D "property" f) := by
  obtain ⟨c1, c⟩ := He.ba c
  obtain ⟨c2, c⟩ := He.ba c
  obtain ⟨c3, c4⟩ := He.ba c
  refine ⟨He.eqO_ok c1, He.eqO_ok c2, of_decide_eq_true c3, ?_⟩
  unfold He5.wf
  split at c4
  · rename_i g rest e
    rw [e]
    exact ⟨rest, rfl⟩
  · cases c4
/-- m is a method of the class at C, found at D -/
def methB (K : PySem.W.Frag) (C D : Addr) (m : Str) : Bool := He.eqO (PySem.W.findIn K (.ref C) m) (some (some (.ref (He.ma K D m)))) && (PySem.W.isFn K (.ref (He.ma K D m)) && PySem.W.keepIn K (.ref (He.ma K D m)))
theorem methB_ok {K : PySem.W.Frag} {C D : Addr} {m : Str} (c : methB K C D m = true) : Meth K C m (He.ma K D m) := by
  obtain ⟨c1, c⟩ := He.ba c
  obtain ⟨c2, c3⟩ := He.ba c
  exact ⟨He.eqO_ok c1, c2, c3⟩
def creadB (K : PySem.W.Frag) (C : Addr) : Bool := PySem.W.readsIn K C (.type "type") && He.eqO (PySem.W.specialIn K (.ref C) "__getattribute__") (some (some (.builtin "type.__getattribute__")))
theorem creadB_ok {K : PySem.W.Frag} {C : Addr} (c : creadB K C = true) : ClX.CRead K C (.type "type") := by
  obtain ⟨c1, c2⟩ := He.ba c
  exact ⟨c1, He.eqO_ok c2⟩
def cmetB (K : PySem.W.Frag) (C : Addr) (m : Str) : Bool := He5.wrapB K C "classmethod" "classmethod.__get__" m && PySem.W.fnIn K (He5.wf K C "classmethod" m)
theorem cmetB_ok {K : PySem.W.Frag} {C : Addr} {m : Str} (c : cmetB K C m = true) : ClX.CMet K C (.type "type") m (He.ma K C m) (He5.wf K C "classmethod" m) := by
  obtain ⟨c1, c2⟩ := He.ba c
  exact He5.cmet_of c1 c2
def cvalB (K : PySem.W.Frag) (C : Addr) (f : Str) (v : V) : Bool := match PySem.W.findCls K (.ref C) (.type "type") f with
  | some (.val u) => He.relB v u
  | _ => false
theorem cvalB_ok {K : PySem.W.Frag} {C : Addr} {f : Str} {v : V} (c : cvalB K C f v = true) : ∃ u, ClX.CVal K C (.type "type") f v u := by
  unfold cvalB at c
  split at c
  · rename_i u e
    exact ⟨u, e, He.relB_ok c⟩
  · cases c
/-- an instance of the class at C has that type -/
structure InsTy (K : PySem.W.Frag) (C : Addr) : Prop where
  cl : Cls K C
  ha : PySem.W.findIn K (.ref C) "__class__" = some (some (.builtin "object.__class__"))
  hn : PySem.W.specialIn K (.builtin "object.__class__") "__get__" = some (some (.builtin "getset_descriptor.__get__"))
  tk : PySem.W.takesIn K (.builtin "object.__class__") = some true
  ob : PySem.W.mroIn K C (.type "object") = some true
theorem InsTy.ty {K : PySem.W.Frag} {C a dx : Addr} {H : Hp} {fs : List (Str × V)} (t : InsTy K C) (h : H a = some (.ins C dx fs)) : TyX K H (.ref a) (.ref C) := .base (.ins h t.cl t.ha t.hn t.tk t.ob)
def insTyB (K : PySem.W.Frag) (C : Addr) : Bool := PySem.W.plainGet K C Str.empty && (PySem.W.hasDictIn K C && (PySem.W.plainOver K C && (He.eqO (PySem.W.findIn K (.ref C) "__setattr__") (some (some (.builtin "object.__setattr__"))) &&
  (He.eqO (PySem.W.findIn K (.ref C) "__class__") (some (some (.builtin "object.__class__"))) && (He.eqO (PySem.W.specialIn K (.builtin "object.__class__") "__get__") (some (some (.builtin "getset_descriptor.__get__"))) &&
  (decide (PySem.W.takesIn K (.builtin "object.__class__") = some true) && decide (PySem.W.mroIn K C (.type "object") = some true)))))))
theorem insTyB_ok {K : PySem.W.Frag} {C : Addr} (c : insTyB K C = true) : InsTy K C := by
  obtain ⟨c1, c⟩ := He.ba c
  obtain ⟨c2, c⟩ := He.ba c
  obtain ⟨c3, c⟩ := He.ba c
  obtain ⟨c4, c⟩ := He.ba c
  obtain ⟨c5, c⟩ := He.ba c
  obtain ⟨c6, c⟩ := He.ba c
  obtain ⟨c7, c8⟩ := He.ba c
  exact ⟨⟨c1, c2, c3, He.eqO_ok c4⟩, He.eqO_ok c5, He.eqO_ok c6, of_decide_eq_true c7, of_decide_eq_true c8⟩
/-- isinstance of a value of type t against the class at C -/
def isiB (K : PySem.W.Frag) (t u : Value) (b : Bool) : Bool := decide (PySem.W.kitOne K t u = some b)
theorem isiB_ok {K : PySem.W.Frag} {t u : Value} {b : Bool} (c : isiB K t u b = true) : PySem.W.kitOne K t u = some b := of_decide_eq_true c
/-- no value of a built-in kind is an instance of the class at C; none is compared ahead of it -/
def kitNoB (K : PySem.W.Frag) (C : Addr) : Bool := kds.all fun k => isiB K (.type k) (.ref C) false && PySem.W.notFirst K C (.type k)
theorem kitNoB_ok {K : PySem.W.Frag} {C : Addr} (c : kitNoB K C = true) : ∀ k ∈ kds, PySem.W.kitOne K (.type k) (.ref C) = some false := fun k hk => isiB_ok (Bool.and_eq_true_iff.mp (List.all_eq_true.mp c k hk)).1
theorem kitNoB_nf {K : PySem.W.Frag} {C : Addr} (c : kitNoB K C = true) : ∀ k ∈ kds, PySem.W.notFirst K C (.type k) = true := fun k hk => (Bool.and_eq_true_iff.mp (List.all_eq_true.mp c k hk)).2
def mkB (K : PySem.W.Frag) (C f : Addr) : Bool := PySem.W.makesIn K C && (He.eqO (PySem.W.findIn K (.ref C) "__init__") (some (some (.ref f))) && (PySem.W.isFn K (.ref f) && PySem.W.keepIn K (.ref C)))
theorem mkB_ok {K : PySem.W.Frag} {C f : Addr} (c : mkB K C f = true) : Mk K C f := by
  obtain ⟨c1, c⟩ := He.ba c
  obtain ⟨c2, c⟩ := He.ba c
  obtain ⟨c3, c4⟩ := He.ba c
  exact ⟨c1, He.eqO_ok c2, c3, c4⟩
end G
/-! ### in-place operators; != of lists of instances with an own __eq__ -/
namespace G
open PySem PySem.Spec PyProof.Rows L2
section
variable {X : Cx}
theorem kpgLst {K : PySem.W.Frag} {es : List Expr} {k : Nat} {t : TGs} {n : Nat} {pos : Pos} (hc : X.calm = true) (h : PGs X es t) (hK : X.K = K := by rfl)
    (hn : (assignEach es X.env).length = n := by rfl) (hst : (assignEach es X.env).findIdx? (·.1) = none := by rfl) : PG X (.Tuple es k pos) (gLst K n t) := hK ▸ pg_lst hc h hn hst
theorem r_glst {K : PySem.W.Frag} {k : Nat} {t : TGs} {p : Addr} {xs : List V} {σ : L2.St} {H : Hp} {R : L2.St → Hp → Prop} (h : SqL K H p xs) (q : t xs σ H R) (hl : xs.length = k := by rfl) : gLst K k t (.ref p) σ H R := ⟨p, xs, rfl, h, hl, q⟩
theorem ip_fdiv : PIp X .FloorDiv (rI CDivW fun i j => .int (i / j)) := by
  intro pins s σ H x y v u Q I r1 r2 h
  obtain ⟨i, j, e1, e2, hc, q⟩ := h
  subst e1; subst e2; obtain ⟨t, rfl⟩ := r1; obtain ⟨t', rfl⟩ := r2
  have h1 : (0 : Int) < j := hc.1
  exact ifloordiv_int (by omega) (by rw [Int.fdiv_eq_ediv_of_nonneg i (by omega)]; exact ⟨.int _, H, I.tok _, ⟨_, rfl⟩, q⟩) (.inl (PyProof.noPylong_of_log2 hc.2))
end
section
open PySem.SeqAt AutoSeq1 MeetsSeq MeetsSeq2 MeetsSeq3 SeqRoads2
variable {prog : Program} {w : World} {A : Around} {R : Result → Shared → Prop}
theorem ne_loopO (l b : Addr) (N : Nat) (I : Nat → Shared → Prop) (hl : GQ.ListI prog w A (fun e s' => R (.error e) s') l b N I) (fin : ∀ s, I N s → R (.ok (.ret (.bool false))) s) (k : Nat) :
    ∀ i : Nat, N - i = k → i ≤ N → ∀ s, I i s → wpAny (model prog w) A.in1 (Builtin.«list.__eq__.loop» ⟨[.ref l, .ref b, rawInt i, rawInt 3], []⟩) (GQ.FinOf prog w A R) (fun e s' => R (.error e) s') s := by
  induction k with
  | zero =>
    intro i hk hi s h
    obtain ⟨xs, ys, n, n2, gx, gy, sx, sy, _⟩ := hl _ _ h
    have hi' : i = N := by omega
    have hR : R (.ok (.ret (.bool false))) s := fin s (hi' ▸ h)
    obtain ⟨hp, g, d, tk, os⟩ := s; wp_walk using AutoSeq1.wpAny_loadPart' gx, AutoSeq1.wpAny_loadPart' gy
    have hx : xs[((i : Nat) : Int).toNat]? = none := by simp; omega
    have hy : ys[((i : Nat) : Int).toNat]? = none := by simp; omega
    rw [hx, hy]; wp_walk using AutoSeq1.wpAny_loadPart' gx, AutoSeq1.wpAny_loadPart' gy
    show R (.ok (.ret (.bool (xs.size != ys.size)))) _
    rw [sx, sy]
    simpa using hR
  | succ k ih =>
    intro i hk hi s h
    obtain ⟨xs, ys, n, n2, gx, gy, sx, sy, turn⟩ := hl _ _ h
    have lx : i < xs.size := by omega
    have ly : i < ys.size := by omega
    have ht := turn lx ly
    obtain ⟨hp, g, d, tk, os⟩ := s; wp_walk using AutoSeq1.wpAny_loadPart' gx, AutoSeq1.wpAny_loadPart' gy
    have hx : xs[((i : Nat) : Int).toNat]? = some xs[i] := by simp [lx]
    have hy : ys[((i : Nat) : Int).toNat]? = some ys[i] := by simp [ly]
    have hc : ((i : Int) + 1) = ((i + 1 : Nat) : Int) := by push_cast; rfl
    rw [hx, hy]; refine wpAny_bind (wpAny_mono ht (fun r s2 h2 => ?_) fun _ _ x => x)
    obtain ⟨hr, h2⟩ := h2
    subst hr; have hrec := ih (i + 1) (by omega) (by omega) s2 h2
    obtain ⟨hp2, g2, d2, tk2, os2⟩ := s2; wp_walk
    rw [hc]; exact ⟨plainId_quiet plain_eq_loop _, codeAny_builtin entry_eq_loop (by rw [Around.under_plainId plain_eq_loop _]; exact hrec)⟩
theorem list_neO (l b : Addr) (N : Nat) (I : Nat → Shared → Prop) (hl : GQ.ListI prog w A (fun e s' => R (.error e) s') l b N I) (fin : ∀ s, I N s → R (.ok (.ret (.bool false))) s) {s : Shared} (h : I 0 s) :
    wpAny (model prog w) A.in1 (Builtin.«list.__ne__» ⟨[.ref l, .ref b], []⟩) (GQ.FinOf prog w A R) (fun e s' => R (.error e) s') s := by
  obtain ⟨xs, ys, n, n2, gx, gy, sx, sy, _⟩ := hl _ _ h
  have hrec := ne_loopO (A := A) (R := R) l b N I hl fin _ 0 rfl (Nat.zero_le _) s h
  obtain ⟨hp, g, d, tk, os⟩ := s; have f3 := AutoSeq1.sub_list_list
  have hne : ¬ (xs.size != ys.size) = true := by simp [sx, sy]
  wp_walk using AutoSeq1.wpAny_loadPart' gx, AutoSeq1.wpAny_loadPart' gy
  exact ⟨plainId_quiet plain_eq_loop _, codeAny_builtin entry_eq_loop (by rw [Around.under_plainId plain_eq_loop _]; exact hrec)⟩
theorem rc_neO {E : Value → Shared → Prop} {s : Shared} {l b : Addr} {N : Nat} {Q : Value → Shared → Prop} (hu : A.units < cLine) (I : Nat → Shared → Prop) (hl : GQ.ListI prog w A E l b N I)
    (fin : ∀ s, I N s → Q (.bool false) s) (h : I 0 s) : wpAny (model prog w) A (richCompare .NotEq (.ref l) (.ref b)) Q E s := by
  obtain ⟨xs, ys, n, n2, gx, gy, _, _, _⟩ := hl _ _ h
  refine wpAny_richCompare_same_room (op := .NotEq) ⟨_, gx, rfl⟩ ⟨_, gy, rfl⟩ F.slot_list_ne (GQ.call_here F.slot_list_ne ⟨_, gx, rfl⟩ F.entry_list_ne (F.args_list_ne_2 _ _) ?_) hu
  exact list_neO (R := wants (fun v s' => v ≠ .notImplemented ∧ Q v s') E) l b N I hl (fun s' q => ⟨(fun x => nomatch x), fin s' q⟩) h
end
/-- the two are equal, by D -/
def rNeLO (D : Eqv) : R2 := fun x y H Q => DList D x y H ∧ ∀ H', Same H H' → Q (.bl false) H'
theorem op_neLO {X : Cx} {n : Nat} {D : Eqv} (hD : Mon D) (h : EqG X n D) (hr : Room (n + 1) X.A) : OpR X (compareOp .NotEq) (rNeLO D) := by
  intro pins s σ H x y v u Q I rx ry hq
  obtain ⟨⟨a, b, xs, ys, rfl, rfl, ha, hb, p⟩, q⟩ := hq
  cases rx; cases ry
  show wpAny (model X.prog X.w) X.A (richCompare .NotEq (.ref a) (.ref b)) (EP X pins σ Q) X.xe s
  refine rc_neO (N := xs.length) hr.units0 (fun _ s' => LoopI X pins σ H s') (fun i s' q => ?_) (fun s' ⟨H', I', e⟩ => ⟨.bl false, H', I', rfl, q H' e⟩) ⟨H, I, Ext.rfl'⟩
  obtain ⟨H1, I1, e1⟩ := id q
  obtain ⟨z, its, k, r, e⟩ := I1.hok a _ (e1 _ _ ha)
  obtain ⟨z2, its2, k2, r2, e2⟩ := I1.hok b _ (e1 _ _ hb)
  exact ⟨its.toArray, its2.toArray, k, k2, e, e2, by rw [List.size_toArray, ← r.length], by rw [List.size_toArray, ← r2.length, ← p.1], fun h1 h2 => turnG hD h ⟨hr, rfl⟩ p r r2 i h1 h2 s' q⟩
theorem r_neLO {D : Eqv} {H : Hp} {a b : Addr} {xs ys : List V} {Q : VK} (ha : H a = some (.lst xs)) (hb : H b = some (.lst ys)) (p : Prs D xs ys H) (q : ∀ H', Same H H' → Q (.bl false) H') : rNeLO D (.ref a) (.ref b) H Q := ⟨⟨a, b, xs, ys, rfl, rfl, ha, hb, p⟩, q⟩
end G
/-! ### own exceptions with fields -/
namespace G
open PySem PySem.Spec PyProof.Rows L2
def oexClsB (K : PySem.W.Frag) (C : Addr) : Bool := match K.lookup C with
  | some ⟨.type "type", _, .cls cd, sl⟩ => (match cd.mro, sl.toList with
    | .ref C' :: bm, [_, _, _, _, some (.builtin n), _] => C' == C && n == "ValueError.__new__" && !cd.hasDel && cd.hasDict && PySem.HandSPX.refsVE bm
    | _, _ => false)
  | _ => false
theorem oexClsB_ok {K : PySem.W.Frag} {C : Addr} (q : oexClsB K C = true) : ∃ nm q N bs bm sn sub ab col dd k0 k1 k2 k3 k5, K.lookup C = some (excClassObj nm q C N bs bm true sn sub ab col dd k0 k1 k2 k3 k5 "ValueError.__new__") ∧ PySem.HandSPX.refsVE bm = true := by
  unfold oexClsB at q
  split at q
  · rename_i dd cd sl ho
    split at q
    · rename_i C' bm k0 k1 k2 k3 n k5 hm hs
      simp only [Bool.and_eq_true, beq_iff_eq, Bool.not_eq_true'] at q
      obtain ⟨⟨⟨⟨rfl, rfl⟩, hdel⟩, hdc⟩, ht⟩ := q
      obtain ⟨nm, bs, mro, ns, qn, hd, sn, sub, ab, col, del⟩ := cd
      dsimp only at hm hdel hdc
      subst hm hdel hdc
      have hsl : sl = #[k0, k1, k2, k3, some (.builtin "ValueError.__new__"), k5] := by
        obtain ⟨l⟩ := sl; simp only at hs; rw [hs]
      subst hsl
      exact ⟨nm, qn, ns, bs, bm, sn, sub, ab, col, dd, k0, k1, k2, k3, k5, ho, ht⟩
    · cases q
  · cases q
/-- an own exception class at C: its __init__ at fI; its fields fs are no attributes of the class -/
structure OexF (K : PySem.W.Frag) (C fI : Addr) (fs : List Str) : Prop where
  o : OexC K C
  i : PySem.W.findIn K (.ref C) "__init__" = some (some (.ref fI))
  t : PySem.W.typeIn K (.ref fI) = some (.type "function")
  x : XfC K C
  n : ∀ f ∈ fs, PySem.W.findIn K (.ref C) f = some none
def oexFB (K : PySem.W.Frag) (C fI : Addr) (fs : List Str) : Bool := oexClsB K C && (He.eqO (PySem.W.findIn K (.ref C) "__setattr__") (some (some (.builtin "object.__setattr__"))) && (decide (PySem.W.subIn K (.ref C) (.type "BaseException") = some true) && (decide (PySem.W.typeIn K (.ref C) = some (.type "type")) && (PySem.W.keepIn K (.ref C) &&
  (He.eqO (PySem.W.findIn K (.ref C) "__init__") (some (some (.ref fI))) && (decide (PySem.W.typeIn K (.ref fI) = some (.type "function")) && (xfB K C && fs.all fun f => He.eqO (PySem.W.findIn K (.ref C) f) (some none))))))))
theorem oexFB_ok {K : PySem.W.Frag} {C fI : Addr} {fs : List Str} (c : oexFB K C fI fs = true) : OexF K C fI fs := by
  obtain ⟨c1, c⟩ := He.ba c
  obtain ⟨c2, c⟩ := He.ba c
  obtain ⟨c3, c⟩ := He.ba c
  obtain ⟨c4, c⟩ := He.ba c
  obtain ⟨c5, c⟩ := He.ba c
  obtain ⟨c6, c⟩ := He.ba c
  obtain ⟨c7, c⟩ := He.ba c
  obtain ⟨c8, c9⟩ := He.ba c
  exact ⟨⟨oexClsB_ok c1, He.eqO_ok c2, of_decide_eq_true c3, of_decide_eq_true c4, c5⟩, He.eqO_ok c6, of_decide_eq_true c7, xfB_ok c8, fun f hf => He.eqO_ok (List.all_eq_true.mp c9 f hf)⟩
/-- __init__ of an exception with one field -/
def spX1 (C : Addr) (f : Str) : Sp := fun vs H Q _ => ∃ (a : Addr) (v : V), vs = [.ref a, v] ∧ H a = some (exo a C none) ∧ ∀ dx, H dx = none → dx ≠ a → Q .non (upd (upd H dx (exd dx [(f, v)])) a (exo a C (some dx)))
def spX2 (C : Addr) (f g : Str) : Sp := fun vs H Q _ => ∃ (a : Addr) (v u : V), vs = [.ref a, v, u] ∧ H a = some (exo a C none) ∧ ∀ dx, H dx = none → dx ≠ a → Q .non (upd (upd (upd H dx (exd dx [(f, v)])) a (exo a C (some dx))) dx (exd dx [(g, u), (f, v)]))
theorem kOst {X : Cx} {K : PySem.W.Frag} {st : Stmt} {to te : TE} {f : Str} (h : PS X st (tOst X.K f to te)) (hK : X.K = K := by rfl) : PS X st (tOst K f to te) := hK ▸ h
section
variable {K : PySem.W.Frag} {σ : L2.St} {H : Hp} {D : Ends} {to te : TE} {f : Str} {C a : Addr} {y : V}
theorem r_ost (q : te σ H fun y H1 => to σ H1 fun x H2 => ∃ a C : Addr, x = .ref a ∧ OexC K C ∧ PySem.W.findIn K (.ref C) f = some none ∧
  ((H2 a = some (exo a C none) ∧ ∀ dx, H2 dx = none → dx ≠ a → D.nx σ (upd (upd H2 dx (exd dx [(f, y)])) a (exo a C (some dx)))) ∨
    ∃ (dx : Addr) (fs : List (Str × V)), H2 a = some (exo a C (some dx)) ∧ H2 dx = some (exd dx fs) ∧ fs.length ≤ 900 ∧ D.nx σ (upd H2 dx (exd dx ((f, y) :: fs))))) : tOst K f to te D σ H := q
/-- raise C(v): what the def lets out -/
theorem r_mkX1 {v : V} {E : XK} (q : ∀ d H', Same H H' → H d = none → H' d = some (.xd [(f, v)]) → E (.ref C) (some d) H') : ∀ a, H a = none → spX1 C f (.ref a :: ([v] ++ [])) (upd H a (exo a C none))
    (fun u H2 => u = .non ∧ ∃ (d : Addr) (fs : List (Str × V)), H2 a = some (exo a C (some d)) ∧ H2 d = some (exd d fs) ∧ H d = none ∧ E (.ref C) (some d) (upd (del H2 a) d (.xd fs))) (fun _ _ _ => False) := by
  intro a ha
  refine ⟨a, v, rfl, upd_same, fun dx hdx hne => ⟨rfl, dx, [(f, v)], upd_same, ?_, ?_, ?_⟩⟩
  · rw [upd_ne hne, upd_same]
  · rw [upd_ne hne] at hdx; exact hdx
  · have hd0 : H dx = none := by rw [upd_ne hne] at hdx; exact hdx
    refine q dx _ (fun c o e => ?_) hd0 upd_same
    have n1 : c ≠ dx := ne_of_none e hd0
    have n2 : c ≠ a := ne_of_none e ha
    rw [upd_ne n1, del_ne n2, upd_ne n2, upd_ne n1, upd_ne n2]
    exact e
theorem r_mkX2 {g : Str} {v u : V} {E : XK} (q : ∀ d H', Same H H' → H d = none → H' d = some (.xd [(g, u), (f, v)]) → E (.ref C) (some d) H') : ∀ a, H a = none → spX2 C f g (.ref a :: ([v, u] ++ [])) (upd H a (exo a C none))
    (fun z H2 => z = .non ∧ ∃ (d : Addr) (fs : List (Str × V)), H2 a = some (exo a C (some d)) ∧ H2 d = some (exd d fs) ∧ H d = none ∧ E (.ref C) (some d) (upd (del H2 a) d (.xd fs))) (fun _ _ _ => False) := by
  intro a ha
  refine ⟨a, v, u, rfl, upd_same, fun dx hdx hne => ⟨rfl, dx, [(g, u), (f, v)], ?_, upd_same, ?_, ?_⟩⟩
  · rw [upd_ne hne.symm, upd_same]
  · rw [upd_ne hne] at hdx; exact hdx
  · have hd0 : H dx = none := by rw [upd_ne hne] at hdx; exact hdx
    refine q dx _ (fun c o e => ?_) hd0 upd_same
    have n1 : c ≠ dx := ne_of_none e hd0
    have n2 : c ≠ a := ne_of_none e ha
    rw [upd_ne n1, del_ne n2, upd_ne n1, upd_ne n2, upd_ne n1, upd_ne n2]
    exact e
end
end G
/-! ### properties and methods of objects whose class is known at the reading -/
namespace G
open PySem PySem.Spec PyProof.Rows L2
section
variable {X : Cx} {CX : CXT} {k : Nat} {p g f : Addr} {m : Str} {fd : FuncData} {ps : List Str} {sp : Sp} {dvs : List V} {ds : List Value} {e o : Expr} {es : List Expr} {pos apos : Pos} {ta : TE} {t : TA} {K : PySem.W.Frag}
def tPropG (K : PySem.W.Frag) (m : Str) (p g : Addr) (sp : Sp) (dvs : List V) (E : XK) (ta : TE) : TE := fun σ H Q => ta σ H fun x H1 => ∃ C a dx fs, x = .ref a ∧ H1 a = some (.ins C dx fs) ∧ Cls K C ∧ PropOf K C m p g ∧ sp (.ref a :: dvs) H1 Q E
theorem pe_propG {E : XK} (he : PE X e ta) (F : FnOk X.prog X.w X.K X.mg X.base CX k g fd ps sp) (hr : Room (k + 1) X.A) (hb : Binds X.K fd ps ds) (hd : Vals dvs ds) (hx : Passes CX X.nox E) (hK : X.K = K := by rfl)
    (hab : attributeBase e m X.env (eval e X.env) = eval e X.env := by rfl) : PE X (.Attribute e m pos) (tPropG K m p g sp dvs E ta) := by
  subst hK
  refine ⟨fun pins s σ H Q I h => ?_⟩
  refine attr_of hab (thn (he.run pins s σ H _ I h) fun u s1 ⟨x, H1, I1, rx, C, a, dx, fs, ex, ea, c, hp, q⟩ => ?_)
  subst ex; obtain rfl : u = Value.ref a := rx
  exact getprop_ok I1 ea c hp F hr hb hd hx q
def tMethG (K : PySem.W.Frag) (m : Str) (f : Addr) (sp : Sp) (E : L2.St → XK) (ta : TE) (t : TA) : TE := fun σ H Q => ta σ H fun x H1 => ∃ C a dx fs, x = .ref a ∧ H1 a = some (.ins C dx fs) ∧ Cls K C ∧ Meth K C m f ∧ fs.lookup m = none ∧ t σ H1 fun vs H2 => sp (x :: vs) H2 Q (E σ)
theorem pe_methG {E : L2.St → XK} {pl : Sem Bool} (he : PE X o ta) (kp : PySem.W.keepIn X.K (.ref f) = true) (F : FnR X.prog X.w X.K X.mg X.base CX k f sp) (hr : Room k X.A) (hx : ∀ σ, PassesAt CX X σ (E σ)) (ha : PA X (e :: es) t) (hK : X.K = K := by rfl)
    (hst : starEach (e :: es) X.env = (false, eval e X.env) :: starEach es X.env := by rfl) (hpl : (backTo pos (starEach es X.env)).any (·.1) = false := by rfl)
    (ht : eval (.Call (.Attribute o m apos) (e :: es) [] pos) X.env = (do
      let ov ← eval o X.env
      standAt apos.atName
      let (f, first) ← holding [ov] (getMethod ov m pl)
      callWith pos f first (backTo pos (starEach (e :: es) X.env)) (backToKw pos (keywordEach [] X.env))) := by rfl) :
    PE X (.Call (.Attribute o m apos) (e :: es) [] pos) (tMethG K m f sp E ta t) := by
  subst hK
  refine ⟨fun pins s σ H Q I h => ?_⟩
  refine PySem.W.methodCall_KW (pl := pl) (thn (he.run pins s σ H _ I h) fun u s1 ⟨x, H1, I1, rx, C, a, dx, fs, ex, ea, c, hm, l, q⟩ => ?_) ht
  subst ex; obtain rfl : u = Value.ref a := rx
  refine getmeth_ok I1 ea c hm l (PySem.W.callWith_K (first := [.ref a]) (h₀ := X.base) I.ok.mod.kin kp (thn (ha.run pos pins s1 σ H1 _ I1 q) fun us s2 ⟨vs, H2, I2, r, q2⟩ => ⟨I2.kIn, ?_⟩) hst hpl)
  exact run_fnRS (us := .ref a :: us) (vs := .ref a :: vs) F hr (hx σ) I2 (.cons rfl r) q2
end
section
variable {K : PySem.W.Frag} {m : Str} {p g f : Addr} {sp : Sp} {dvs : List V} {ta : TE} {t : TA} {σ : L2.St} {H : Hp} {Q : VK}
theorem r_propG {E : XK} (q : ta σ H fun x H1 => ∃ C a dx fs, x = .ref a ∧ H1 a = some (.ins C dx fs) ∧ Cls K C ∧ PropOf K C m p g ∧ sp (.ref a :: dvs) H1 Q E) : tPropG K m p g sp dvs E ta σ H Q := q
theorem r_methG {E : L2.St → XK} (q : ta σ H fun x H1 => ∃ C a dx fs, x = .ref a ∧ H1 a = some (.ins C dx fs) ∧ Cls K C ∧ Meth K C m f ∧ fs.lookup m = none ∧ t σ H1 fun vs H2 => sp (x :: vs) H2 Q (E σ)) : tMethG K m f sp E ta t σ H Q := q
end
end G
/-! ### super().__init__(..) as the first statement of an __init__ -/
namespace G
open PySem PySem.Spec PyProof.Rows L2 PySem.W PySem.Calls
/-- names: the parameters first; the only free one is __class__ -/
structure SScp (N P : List Str) (sc : Scope) : Prop where
  kind : sc.kind = .function
  co : sc.isCoroutine = false
  gen : sc.isGenerator = false
  nd : N.Nodup
  pre : N.take P.length = P
  par : ∀ x ∈ P, sc.names.lookup x = some .local
  nocell : ∀ y ∈ sc.names, y.2 ≠ .cell
  free : ∀ y ∈ sc.names, y.2 = .free → y.1 = ("__class__" : Str)
  sup : sc.names.lookup ("super" : Str) = some .globalImplicit
  cls : sc.names.lookup ("__class__" : Str) = some .free
/-- what of the text such a method must have: the class D it stands in, the cell cc of that class, its code's record cda, the method f2 above -/
structure SupF (K : Frag) (x qual : Str) (params : Arguments) (body : List Stmt) (scope : Scope) (file : Str) (f D f2 : Addr) : Prop where
  ex : ∃ (oc : Value) (od : Option Addr) (dV kV doc pm : Value) (an : Option Addr) (cda : Addr) (ct : Value) (osl : Array (Option Value)) (cc : Addr), fdOf K f = ksFn x qual params body scope dV kV doc pm an (.ref cda) ct cc ∧
    K.lookup f = some ⟨oc, od, .func (fdOf K f), osl⟩ ∧ codeIn K (.ref cda) qual = true ∧ dV = .none ∧ kV = .none ∧ (∃ ccl cdd vs ccs tf, K.lookup cda = some ⟨ccl, cdd, .fields vs, ccs⟩ ∧ vs[2]? = some (.str file tf)) ∧ ∃ cl cld csl, K.lookup cc = some ⟨cl, cld, .cell (some (.ref D)), csl⟩
  kp : keepIn K (.ref f) = true
  cls : ∃ cd, clsIn K D = some cd
  sub : mroIn K D (.ref D) = some true
  any : nsIn K cStatics "thirdparty.any" = some none
  met : ks_superIn K D D "__init__" = some (some (.ref f2))
  fty : typeIn K (.ref f2) = some (.type "function")
  fi : fnIn K f2 = true
def supFB (K : Frag) (qual file : Str) (f D f2 : Addr) : Bool := (match K.lookup f with
  | some ⟨_, _, .func fd, _⟩ => (match fd.code, fd.closure, fd.defaults, fd.kwdefaults with
    | .ref cda, [(n, cc)], .none, .none => n == ("__class__" : Str) && (codeIn K (.ref cda) qual && ((match K.lookup cda with
      | some ⟨_, _, .fields vs, _⟩ => (match (vs[2]? : Option Value) with
        | some (Value.str z _) => z == file
        | _ => false)
      | _ => false) && (match K.lookup cc with
      | some ⟨_, _, .cell (some (.ref D')), _⟩ => D' == D
      | _ => false)))
    | _, _, _, _ => false)
  | _ => false) && (keepIn K (.ref f) && ((clsIn K D).isSome && (decide (mroIn K D (.ref D) = some true) && (He.eqO (nsIn K cStatics "thirdparty.any") (some none) && (He.eqO (ks_superIn K D D "__init__") (some (some (.ref f2))) && (decide (typeIn K (.ref f2) = some (.type "function")) && fnIn K f2))))))
theorem supFB_ok {K : Frag} {x qual : Str} {params : Arguments} {body : List Stmt} {scope : Scope} {file : Str} {f D f2 : Addr} (e : fnB K f = some (x, qual, params, .stmts body, scope, mainGlobals, [], builtinsNs)) (c : supFB K qual file f D f2 = true) : SupF K x qual params body scope file f D f2 := by
  obtain ⟨c1, c⟩ := He.ba c
  obtain ⟨c2, c⟩ := He.ba c
  obtain ⟨c3, c⟩ := He.ba c
  obtain ⟨c4, c⟩ := He.ba c
  obtain ⟨c5, c⟩ := He.ba c
  obtain ⟨c6, c⟩ := He.ba c
  obtain ⟨c7, c8⟩ := He.ba c
  refine ⟨?_, c2, Option.isSome_iff_exists.mp c3, of_decide_eq_true c4, He.eqO_ok c5, He.eqO_ok c6, of_decide_eq_true c7, c8⟩
  unfold fnB at e
  unfold fdOf
  split at c1
  · rename_i oc od fd osl ho
    rw [ho] at e ⊢
    obtain ⟨fn, fq, fp, fb, fsc, fg, fcl, fdf, fkd, fdoc, fpm, fan, fco, fct, fbl⟩ := fd
    simp only [Option.some.injEq, Prod.mk.injEq] at e
    obtain ⟨rfl, rfl, rfl, rfl, rfl, rfl, _, rfl⟩ := e
    dsimp only at c1 ⊢
    split at c1
    · rename_i cda n cc
      obtain ⟨d1, d⟩ := He.ba c1
      obtain ⟨d2, d⟩ := He.ba d
      obtain ⟨d3, d4⟩ := He.ba d
      obtain rfl := beq_iff_eq.mp d1
      refine ⟨oc, od, _, _, _, _, _, cda, _, osl, cc, rfl, rfl, d2, rfl, rfl, ?_, ?_⟩
      · split at d3
        · rename_i a1 a2 vs a3 h1
          split at d3
          · rename_i z tf h2
            obtain rfl := beq_iff_eq.mp d3
            exact ⟨a1, a2, vs, a3, tf, h1, h2⟩
          · cases d3
        · cases d3
      · split at d4
        · rename_i a1 a2 D' a3 h1
          obtain rfl := beq_iff_eq.mp d4
          exact ⟨a1, a2, a3, h1⟩
        · cases d4
    · cases c1
  · cases c1
/-- the context of such a def's body -/
def cxS (CX : CXT) (P : Program) (w : World) (K : Frag) (mg : Str → Option Value) (base : Heap) (N : List Str) (qual : Str) (scope : Scope) (f : Addr) (cd : Value) (cc : Addr) (A : Around) (outer : List Env) (s : Shared) (H : Hp) (E : XK) : Cx where
  prog := P
  w := w
  K := K
  mg := mg
  base := base
  A := A.deeper (ksEnv qual scope s.heap.objs.size f cd cc)
  N := N
  s_0 := s
  H_0 := H
  env := ksEnv qual scope s.heap.objs.size f cd cc
  outer := outer
  stack := ksEnv qual scope s.heap.objs.size f cd cc :: outer
  ex := []
  calm := true
  fn := fun _ => false
  pn := []
  xe := fun e s' => wpAny (model P w) (A.deeper (ksEnv qual scope s.heap.objs.size f cd cc)) (leaving (ksEnv qual scope s.heap.objs.size f cd cc) e) (fun _ z => CX outer H s E e z) (fun e' z => CX outer H s E e' z) s'
theorem zip_look {x : Str} {u : Value} : ∀ {P : List Str} {us : List Value} {i : Nat}, P.Nodup → P[i]? = some x → us[i]? = some u → (P.zip us).reverse.lookup x = some u := by
  intro P us i nd h1 h2
  have hmem : (x, u) ∈ (P.zip us).reverse := by
    rw [List.mem_reverse]
    refine List.mem_of_getElem? (i := i) ?_
    rw [List.getElem?_zip_eq_some]
    exact ⟨h1, h2⟩
  have uniq : ∀ v, (x, v) ∈ (P.zip us).reverse → v = u := by
    intro v hv
    rw [List.mem_reverse] at hv
    obtain ⟨j, hj⟩ := List.getElem?_of_mem hv
    rw [List.getElem?_zip_eq_some] at hj
    have e : i = j := nodup_ix nd h1 hj.1
    subst e
    rw [h2] at hj
    exact (Option.some.inj hj.2).symm
  cases e : (P.zip us).reverse.lookup x with
  | none =>
    have := List.lookup_eq_none_iff.mp e (x, u) hmem
    simp at this
  | some v => rw [uniq v (PySem.mem_of_lookup e)]
section
variable {CX : CXT} {P : Program} {w : World} {K : Frag} {mg : Str → Option Value} {base : Heap} {N ps : List Str} {qual : Str} {scope : Scope} {f cc : Addr} {cd : Value} {A : Around} {outer : List Env} {s : Shared} {H : Hp} {E : XK} {us : List Value} {vs : List V}
theorem inv_startS {h1 : Heap} {tk : Nat} {D : Addr} (S : SScp N ps scope) (hd : A.handled = none) (e0 : Env0 P w K mg base A outer s H) (hl : vs.length = ps.length) (r : Vals vs us) (hcell : ∃ cl cld csl, K.lookup cc = some ⟨cl, cld, .cell (some (.ref D)), csl⟩)
    (hns : h1.Ns s.heap.objs.size (fun x => (ps.zip us).reverse.lookup x)) (hk : ∀ b o, s.heap.get? b = some o → h1.get? b = some o) : Inv (cxS CX P w K mg base N qual scope f cd cc A outer s H E) [] (start N vs) H { s with heap := h1, toks := tk } := by
  have hpl : ps.length ≤ N.length := by have := congrArg List.length S.pre; rw [List.length_take] at this; omega
  have noA : ∀ b : Addr, b ∉ (cxS CX P w K mg base N qual scope f cd cc A outer s H E).ex := fun b z => absurd (show b ∈ ([] : List Addr) from z) (by simp)
  obtain ⟨cl, cld, csl, hc⟩ := hcell
  have hcc := e0.bs _ _ (e0.mod.kin _ _ hc)
  have one : ∀ y c, (cxS CX P w K mg base N qual scope f cd cc A outer s H E).env.cells.lookup y = some c → y = ("__class__" : Str) ∧ c = cc := by
    intro y c h
    have h : ([(("__class__" : Str), cc)] : List (Str × Addr)).lookup y = some c := h
    have := PySem.mem_of_lookup h
    simpa using this
  refine ⟨⟨e0.mod, S.kind, rfl, rfl, Nat.le_refl _, fun y z c h1 h2 => ?_, fun y hy => ?_, (fun y c z _ => nomatch z), fun _ => hd, Around.frames_deeper e0.frames, .inr ⟨rfl, rfl⟩, fun b z => absurd z (noA b), e0.bs, e0.bsz, fun b _ _ => noA b, fun b z => absurd z (noA b), e0.funs, e0.frf⟩,
    rfl, e0.bare, Un.kept hk, ⟨_, hns, fun i y v h1 h2 h3 => ?_⟩, fun y c h => ?_, e0.hok.fresh (Nat.le_refl _), fun y c h => ?_, fun p hp => absurd (show p ∈ ([] : List (Addr × Obj)) from hp) (by simp), e0.hok.kept hk, ?_⟩
  · rw [(one y c h1).1, (one z c h2).1]
  · have hy : scope.names.lookup y = some .cell ∨ scope.names.lookup y = some .free := hy
    rcases hy with hy | hy
    · exact absurd rfl (S.nocell _ (PySem.mem_of_lookup hy))
    · have e := S.free _ (PySem.mem_of_lookup hy) rfl
      have e : y = ("__class__" : Str) := e
      subst e
      exact ⟨cc, rfl⟩
  · have hi : i < vs.length := by
      unfold L2.start at h2
      by_cases hi : i < vs.length
      · exact hi
      · rw [List.getElem?_append_right (by simpa using hi), List.getElem?_replicate] at h2
        split at h2 <;> cases h2
    have ha : vs[i]? = some v := by
      unfold L2.start at h2
      rw [List.getElem?_append_left (by simpa using hi), List.getElem?_map] at h2
      cases e : vs[i]? with
      | none => rw [e] at h2; cases h2
      | some a => rw [e] at h2; cases h2; rfl
    obtain ⟨u, hu, rv⟩ := r.get ha
    have hp : ps[i]? = some y := by
      rw [← S.pre, List.getElem?_take_of_lt (by omega)]; exact h1
    have ndP : ps.Nodup := by rw [← S.pre]; exact S.nd.sublist (List.take_sublist _ _)
    exact ⟨u, rv, .inl ⟨S.par y (List.mem_of_getElem? hp), zip_look ndP hp hu⟩⟩
  · rw [(one y c h).2]
    exact ⟨_, ⟨_, hk _ _ hcc.1, rfl⟩⟩
  · rw [(one y c h).2]
    exact hcc.2
  · unfold L2.start
    show _ = N.length
    rw [List.length_append, List.length_map, List.length_replicate]
    omega
end
/-- a method whose body is super().__init__(e, ..) and more -/
theorem fn_super {CX : CXT} {P : Program} {w : World} {K : Frag} {mg : Str → Option Value} {base : Heap} {k : Nat} {x qual file : Str} {params : Arguments} {scope : Scope} {N ps : List Str} {f D f2 : Addr} {sp sp2 : Sp} {e : Expr} {es : List Expr} {p0 p1 apos pos epos : Pos} {rest : List Stmt} {ar : Arg}
    (F : SupF K x qual params (.Expr (.Call (.Attribute (.Call (.Name "super" p0) [] [] p1) "__init__" apos) (e :: es) [] pos) epos :: rest) scope file f D f2) (S : SScp N ps scope) (hms : mg "super" = none) (hp : (params.posonlyargs ++ params.args).head? = some ar) (har : ps[0]? = some ar.arg)
    (hfile : ((P.main.file : Str) == file) = true) (htop : (P.main.scope.names.lookup ("super" : Str)).isSome = false) (G2 : FnR P w K mg base CX k f2 sp2) (len : ∀ vs H Q E, sp vs H Q E → vs.length = ps.length)
    (hbody : ∀ (cdv : Value) (cc : Addr) (A : Around) (outer : List Env) (s : Shared) (H : Hp) (vs : List V) (Q : VK) (E : XK), Room k (A.deeper (ksEnv qual scope s.heap.objs.size f cdv cc)) → sp vs H Q E →
      ∃ (t : TA) (tr : TS) (a dx : Addr) (fs : List (Str × V)) (E2 : XK), PA (cxS CX P w K mg base N qual scope f cdv cc A outer s H E) (e :: es) t ∧ PSs (cxS CX P w K mg base N qual scope f cdv cc A outer s H E) rest tr ∧ Passes CX (cxS CX P w K mg base N qual scope f cdv cc A outer s H E) E2 ∧
        vs[0]? = some (.ref a) ∧ H a = some (.ins D dx fs) ∧ t (L2.start N vs) H fun ws H1 => sp2 (.ref a :: ws) H1 (fun _ H2 => tr { nx := fun _ H' => Q .non H', rt := Q } (L2.start N vs) H2) E2)
    (hst : ∀ env, starEach (e :: es) env = (false, eval e env) :: starEach es env := by intro _; rfl) (hpl : ∀ env, (backTo pos (starEach es env)).any (·.1) = false := by intro _; rfl)
    (hev : ∀ env, ∃ pl : Sem Bool, eval (.Call (.Attribute (.Call (.Name "super" p0) [] [] p1) "__init__" apos) (e :: es) [] pos) env = (do
      let ov ← attributeBase (.Call (.Name "super" p0) [] [] p1) "__init__" env (eval (.Call (.Name "super" p0) [] [] p1) env)
      standAt apos.atName
      let (f, first) ← holding [ov] (getMethod ov "__init__" pl)
      callWith pos f first (backTo pos (starEach (e :: es) env)) []) := by intro _; exact ⟨_, rfl⟩) :
    FnOk P w K mg base CX (k + 1) f (fdOf K f) ps sp := by
  obtain ⟨oc, od, dV, kV, doc, pm, an, cda, ct, osl, cc, efd, lk, hcd, _, _, hfil, hcell⟩ := F.ex
  obtain ⟨cd, hD⟩ := F.cls
  refine ⟨len, fun A outer s H args us vs Q E hr e0 hb r hsp => ?_⟩
  have hl := len _ _ _ _ hsp
  have KX : K.In s.heap := e0.mod.kin.keeps fun b o e => (e0.bs b o e).1
  have lim : s.heap.NoLimit := e0.mod.nolimit.keeps fun b o e => (e0.bs b o e).1
  have hloc : ∀ y ∈ ps.zip us, (fdOf K f).scope.names.lookup y.1 = some .local := fun ⟨n, v⟩ hy => by
    rw [efd]; exact S.par n (List.of_mem_zip hy).1
  have ec : callEnv (fdOf K f) s.heap.objs.size f = ksEnv qual scope s.heap.objs.size f (.ref cda) cc := by rw [efd]; rfl
  refine ks_codeAny_call_defAt hr.depth (KX _ _ lk) rfl lim (by rw [efd]; exact codeRec_of KX hcd) (by rw [efd]) hb (by rw [efd]; exact S.nocell) hloc (fun h1 hns hk => ?_) (by rw [efd]; exact S.co) (by rw [efd]; exact S.gen) (by rw [efd]; exact S.kind)
  rw [ec]
  obtain ⟨t, tr, a, dx, fs, E2, hA, hR, hx, hv0, ha, hq⟩ := hbody (.ref cda) cc A outer s H vs Q E (hr.deeper _) hsp
  have I : Inv (cxS CX P w K mg base N qual scope f (.ref cda) cc A outer s H E) [] (L2.start N vs) H { s with heap := h1, toks := s.toks + (ps.zip us).length } := inv_startS S hr.hd e0 hl r hcell hns hk
  obtain ⟨ccl, cdd, vcs, ccs, tf, hcode, hvs⟩ := hfil
  obtain ⟨cl, cld, csl, hcel⟩ := hcell
  have KX1 : K.In h1 := KX.keeps hk
  obtain ⟨pl, he⟩ := hev (ksEnv qual scope s.heap.objs.size f (.ref cda) cc)
  refine ks_wpAt_execs_cons (ks_wpAt_Expr_any (ks_wpAt_MethodCall (pl := pl) ?_ he) (by unfold interactive; simp [S.kind]))
  have hx0 := I.hok _ _ ha
  obtain ⟨_, _, _, hxa, _⟩ := hx0
  obtain ⟨u0, hu0, ru0⟩ := r.get hv0
  obtain rfl : u0 = Value.ref a := ru0
  have ndP : ps.Nodup := by rw [← S.pre]; exact S.nd.sublist (List.take_sublist _ _)
  have hself : (ps.zip us).reverse.lookup ar.arg = some (.ref a) := zip_look ndP har hu0
  obtain ⟨mb, hb1, hb2⟩ := e0.mod.blt
  have bk : ∀ b o, base.get? b = some o → h1.get? b = some o := fun b o z => hk b o (e0.bs b o z).1
  obtain ⟨oD, hD1, hD2⟩ : ∃ oD, h1.get? D = some oD ∧ oD.data = .cls cd := by
    have hD' := hD
    unfold clsIn at hD'
    split at hD'
    · rename_i c1 d1 cd1 sl1 ho1
      cases hD'
      exact ⟨_, KX1 _ _ ho1, rfl⟩
    · cases hD'
  have naD : a ≠ D := fun z => by
    have hD' := hD
    unfold clsIn at hD'
    split at hD'
    · rename_i c1 d1 cd1 sl1 ho1
      have := (e0.bs _ _ (e0.mod.kin _ _ ho1)).2
      rw [z, this] at ha; cases ha
    · cases hD'
  refine ks_wpAt_super_base (env := ksEnv qual scope s.heap.objs.size f (.ref cda) cc) S.sup S.cls (by decide) rfl (KX1 _ _ lk) rfl (by rw [efd]; exact hp) rfl (KX1 _ _ hcode) rfl hvs hfile htop ?_
  refine ks_loadName_global S.kind S.sup (loadGlobal_builtin (env := ksEnv qual scope s.heap.objs.size f (.ref cda) cc) (e0.mod.glob.keeps bk) hms (hb1.keeps bk) ((hb2 "super" (by decide)).trans (by decide +kernel)) ⟨rfl, ?_⟩)
  refine wpAny_loadName_free S.kind S.cls rfl ⟨_, KX1 _ _ hcel, rfl⟩ ?_
  refine wpAny_loadName_local S.kind (S.par _ (List.mem_of_getElem? har)) hns hself ?_
  refine ks_wpAny_isType_cls hD1 hD2 ⟨rfl, ?_⟩
  refine ks_wpAny_call_super hD1 hD2 hxa rfl (fun c z => nomatch z) (looks_mroIn KX1 F.sub) (fun h2 e2 k2 => ?_)
  have I2 := ClX.pin_new (t' := s.toks + (ps.zip us).length) I k2 (Nat.le_refl _) e2 (fun v z => nomatch z)
  have KX2 : K.In h2 := KX1.keeps k2
  have hm := F.met
  unfold ks_superIn at hm
  rw [hD] at hm
  obtain ⟨of2, hof, hofc⟩ : ∃ of, h2.get? f2 = some of ∧ of.cls = .type "function" := by
    have ht' : (K.lookup f2).map (·.cls) = some (.type "function") := F.fty
    cases z : K.lookup f2 with
    | none => rw [z] at ht'; cases ht'
    | some of => rw [z] at ht'; exact ⟨of, KX2 _ _ z, Option.some.inj ht'⟩
  refine ks_wpAny_getMethod_super e2 (looks_opaque KX2 F.any) (l₀ := cd.mro) (fun A Q E s k q => wpAny_bind ((looks_clsIn KX2 hD) A _ E s k (wpAny_pure q))) rfl KX2 hm hof hofc naD (by decide) ?_
  have I3 := ClX.met_new (g := f2) (C := a) I2
  refine ClX.callwith_cm I3 (ClX.base_none I2 (Nat.le_refl _)) F.fi (thn (hA.run pos _ _ _ H _ I3 hq) fun us3 s3 ⟨vs3, H3, I4, rv3, q3⟩ => ⟨⟨ClX.pin_at I4, I4.kIn⟩, ?_⟩) (hst _) (hpl _)
  refine wpAny_mono (ClX.run_cm G2 (hr.deeper _) hx I4 rv3 q3) (fun u s4 h4 => ?_) (fun e s4 h4 => h4)
  obtain ⟨v4, H4, I5, _, q4⟩ := h4
  have I6 := ClX.unpin I5
  refine wpAt_of_wpAny (wpAny_mono (hR.run [] s4 _ H4 _ I6 q4) (fun fl s' hs => ?_) fun e s' hs => hs)
  have fin : ∀ {σ' : L2.St} {H' : Hp} {v : V} {u : Value}, Inv (cxS CX P w K mg base N qual scope f (.ref cda) cc A outer s H E) [] σ' H' s' → RelV v u → Q v H' → CE outer P w H s Q u s' := fun {σ' H' v u} J rv q => ⟨v, H', J.os, J.bare, J.base, J.hok, rv, q⟩
  cases fl with
  | ret u => obtain ⟨v, σ', H', J, rv, q⟩ := hs; exact fin J rv q
  | next => obtain ⟨σ', H', J, q⟩ := hs; exact fin (v := V.non) (u := Value.none) J rfl q
  | brk => obtain ⟨_, _, _, q⟩ := hs; exact False.elim q
  | cont => obtain ⟨_, _, _, q⟩ := hs; exact False.elim q
theorem SupF.bindsN {K : Frag} {x qual : Str} {params : Arguments} {body : List Stmt} {scope : Scope} {file : Str} {f D f2 : Addr} {ps : List Str} (F : SupF K x qual params body scope file f D f2)
    (h : ∀ (doc pm : Value) (an : Option Addr) (cdv ct : Value) (cc : Addr) (us : List Value), us.length = ps.length → bindArgs (ksFn x qual params body scope .none .none doc pm an cdv ct cc) ⟨us, []⟩ = pure (ps.zip us)) : Binds K (fdOf K f) ps [] := by
  obtain ⟨oc, od, dV, kV, doc, pm, an, cda, ct, osl, cc, efd, lk, hcd, rfl, rfl, _⟩ := F.ex
  rw [efd]
  exact .all (h doc pm an (.ref cda) ct cc)
end G
namespace G
open PySem PySem.Spec PyProof.Rows L2
/-- for x in xs, xs a list or a tuple -/
def iSq (K : PySem.W.Frag) (tl : TE) : TI := fun σ H R => tl σ H fun x H1 => ∃ a xs, x = .ref a ∧ ((SqL K H1 a xs ∧ R (Itl K a) H1) ∨ (SqT K H1 a xs ∧ R (Itt K a) H1))
theorem pi_sq {X : Cx} {tg l : Expr} {tl : TE} (hl : PE X l tl) : PI X tg l (iSq X.K tl) := by
  refine ⟨fun pins s σ H R I h => thn (hl.run pins s σ H _ I h) fun v s1 ⟨x, H1, I1, r1, a, xs, e, q⟩ => ?_⟩
  subst e; cases r1
  have nf : ∀ b ∈ [s1.heap.objs.size], FpOk X pins H1 b := by
    intro b hb; obtain rfl := List.mem_singleton.mp hb
    exact I1.fpOk (Nat.le_refl _) (I1.hok.fresh (Nat.le_refl _))
  rcases q with ⟨hq, q⟩ | ⟨hq, q⟩
  · obtain ⟨its, rv, p, hz⟩ := I1.list hq; refine wpAny_pyIter_list p.isList ⟨_, [_], _, _, H1, rfl, I1.kept (t' := s1.toks) fun b o e => Heap.get?_push_of_some _ e, turn_list a _, ⟨_, Heap.get?_push_size _ rfl, rfl, rfl⟩, nf, q⟩
  · obtain ⟨its, rv, p, hz⟩ := I1.tuple hq; refine wpAny_pyIter_tuple (show s1.heap.IsTuple a its.toArray from p) ⟨_, [_], _, _, H1, rfl, I1.kept (t' := s1.toks) fun b o e => Heap.get?_push_of_some _ e, turn_tuple a _, ⟨_, Heap.get?_push_size _ rfl, rfl, rfl⟩, nf, q⟩
theorem kpi_sq {X : Cx} {K : PySem.W.Frag} {tg l : Expr} {tl : TE} (hl : PE X l tl) (h1 : X.K = K := by rfl) : PI X tg l (iSq K tl) := by
  subst h1; exact pi_sq hl
end G
/-! ### own exceptions under OverflowError, with one field -/
namespace G
open PySem PySem.Spec PyProof.Rows L2
abbrev oeTail : List Value := [.type "OverflowError", .type "ArithmeticError", .type "Exception", .type "BaseException", .type "object"]
section
open Builtin Builtin.ObjectAttr PySem.HandSPX
variable {prog : Program} {w : World} {A : Around} {R : Result → Shared → Prop} {hp : Heap} {g : Array GenState} {d : Drawn} {t : Nat} {os : OsState}
theorem osa_O {K : W.Frag} {name : Str} {tk : Tok} {v : Value} {x C : Addr} {fv : Array Value} {cd : ClassData} (X : K.In hp) (hx : hp.get? x = some { cls := .ref C, data := .fields fv }) (hcd : W.clsIn K C = some cd) (hm : cd.mro = .ref C :: oeTail) (hh : cd.hasDict = true) (ha : W.findIn K (.ref C) name = some none)
    (hq : ∀ h' tk' dx, (∀ b o, b ≠ x → hp.get? b = some o → h'.get? b = some o) → hp.objs.size ≤ dx → dx ≠ x → h'.get? x = some { cls := .ref C, dict := some dx, data := .fields fv } → h'.Ns1 dx (fun y => if y = name then some v else none) → R (.ok (.ret .none)) ⟨h', g, d, tk', os⟩) :
    codeAny (model prog w) A (.call (.builtin "object.__setattr__") ⟨[.ref x, .str name tk, v], []⟩) R ⟨hp, g, d, t, os⟩ := by
  have I : W.InstAt hp x { cls := .ref C, data := .fields fv } C none := ⟨hx, rfl, rfl, trivial⟩
  have SF := F.store_object; have ne : cd.mro.isEmpty = false := by rw [hm]; rfl
  have hob : cd.mro.contains (.type "object") = true := by rw [hm, List.contains_cons, show oeTail.contains (.type "object") = true from by decide +kernel, Bool.or_true]
  have hps : refuseLoop (.ref x) "__setattr__" cd.mro = pure () := by
    rw [hm, refuseLoop_ref]; exact F.store_OverflowError.passes (.ref x)
  have hxs : x ≠ hp.objs.size := Nat.ne_of_lt (Heap.lt_size hx); have sub : W.Looks (model prog w) hp (isInstance (.ref x) (.type "object")) true := I.type.andThen (W.looks_mroIn X (by unfold W.mroIn; rw [hcd, Option.bind_some, if_neg (by rw [ne]; decide), hob]))
  refine codeAny_call_builtin SF.slot.plain SF.entry (@W.check_slot (model prog w) _ _ ⟨hp, g, d, t, os⟩ "object.__setattr__" "object" "__setattr__" (.ref x) [.str name tk, v] [] _ SF.kind SF.split sub (SF.args (.ref x) (.str name tk) v) ?_); have hmr : W.Looks (model prog w) hp (mroOf (.ref C)) cd.mro := (W.looks_clsIn X hcd).andThen .now
  have L3 : W.Looks (model prog w) hp (storeTaker? none) none := .now; have hcls : W.Looks (model prog w) hp (classData C) cd := W.looks_clsIn X hcd
  rw [W.osa_eq, refuse_eq]; refine wpAny_bind (wpAny_bind (I.type.at (wpAny_bind (hmr.at ?_))))
  rw [hps]; refine wpAny_pure (wpAny_bind (I.type.at (wpAny_bind ((W.looks_findIn X ha).at (wpAny_bind (L3.at ?_))))))
  show wpAny _ _ (storeInOwnDict (.ref x) (.ref C) (.str name tk) name v false) _ _ _; obtain ⟨nm, bs, mro, ns, qn, hd, sn, sb, ab, col, del⟩ := cd
  dsimp only at hh; subst hh; unfold storeInOwnDict ownDictForStores
  repeat (first | with_reducible refine store_in_new ?_ ?_ | with_reducible refine wpAny_loadPart_at hx ?_ | with_reducible refine hcls.at ?_ | wp_step)
  · exact ⟨_, #[], _, (Heap.get?_update_ne _ _ _ _ hxs.symm).trans (Heap.get?_push_at rfl rfl), rfl, fun e he => absurd he (by simp), fun _ => rfl⟩
  · intro h' tk' hn' hs; have hx₁ : (hp.push { cls := .type "dict", data := .dict #[] }).get? x = some { cls := .ref C, data := .fields fv } := Heap.get?_push_of_some _ hx
    refine hq h' tk' hp.objs.size (fun b o hb ho => (hs.2 b (Nat.ne_of_lt (Heap.lt_size ho))).trans ((Heap.get?_update_ne _ _ _ _ hb).trans (Heap.get?_push_of_some _ ho))) (Nat.le_refl _) hxs.symm ((hs.2 x hxs).trans (Heap.get?_update_self _ hx₁ rfl)) hn'
end
/-- what the written part says of the class -/
structure OexO (K : PySem.W.Frag) (C : Addr) : Prop where
  cls : ∃ nm q N bs sn sub ab col dd k0 k1 k2 k3 k5, K.lookup C = some (excClassObj nm q C N bs oeTail true sn sub ab col dd k0 k1 k2 k3 k5 "OverflowError.__new__")
  sa : PySem.W.findIn K (.ref C) "__setattr__" = some (some (.builtin "object.__setattr__"))
  exC : PySem.W.subIn K (.ref C) (.type "BaseException") = some true
  tyC : PySem.W.typeIn K (.ref C) = some (.type "type")
  kC : PySem.W.keepIn K (.ref C) = true
section
variable {X : Cx} {pins : List (Addr × Obj)} {σ : L2.St} {H : Hp} {s : Shared} {a C dx : Addr} {f : Str} {y : V} {u : Value} {Q : Unit → Shared → Prop} {E : Value → Shared → Prop} {A : Around}
theorem ostO_new (T : OexO X.K C) (I : Inv X pins σ H s) (e : H a = some (exo a C none)) (hno : PySem.W.findIn X.K (.ref C) f = some none) (ry : RelV y u)
    (h : ∀ dx s', H dx = none → dx ≠ a → Inv X pins σ (upd (upd H dx (exd dx [(f, y)])) a (exo a C (some dx))) s' → Q () s') : wpAny (model X.prog X.w) A (setAttr (.ref a) f u) Q E s := by
  obtain ⟨nm, q, N, bs, sn, sub, ab, col, dd, k0, k1, k2, k3, k5, hC⟩ := T.cls
  have hcl : PySem.W.clsIn X.K C = some { name := nm, bases := bs, mro := .ref C :: oeTail, ns := N, qualname := q, hasDict := true, slotNames := sn, subclasses := sub, abstract := ab, collection := col, hasDel := false } := by unfold PySem.W.clsIn; rw [hC] <;> rfl
  obtain ⟨t1, ho⟩ := exo_at I.hok e; obtain ⟨hp, g, d, t, os⟩ := s
  refine PySem.W.set_plain I.kIn (ox := { cls := .ref C, dict := none, data := .fields #[.ref t1, .none, .none, .none, .bool false, .none] }) (od := none) ⟨ho, rfl, rfl, trivial⟩ T.sa (osa_O I.kIn ho hcl rfl rfl hno (fun h' tk' dx k dn dne hx hn => ?_))
  have hnd : H dx = none := I.hok.fresh dn
  have nd : ∀ {b : Addr} {o : Obj}, hp.get? b = some o → b ≠ dx := by
    intro b o q; exact Nat.ne_of_lt (Nat.lt_of_lt_of_le (Heap.lt_size q) dn)
  have na : ∀ {b : Addr}, H b = none → b ≠ a := by
    intro b n z; rw [z, e] at n; cases n
  have Un1 : Un X.fs [] H (upd (upd H dx (exd dx [(f, y)])) a (exo a C (some dx))) hp h' := by
    refine ⟨fun b o q n _ _ => k b o (na n) q, fun b o q n _ _ => ⟨o.slots, k b o (na n) q⟩, fun b o q n _ => by rw [upd_ne (na n), upd_ne (nd q)]; exact n, fun b o q _ => ?_, fun b xs q => by rw [upd_ne (at_ne e q exo_tup), upd_ne (ne_of_none q hnd)]; exact q, fun b o v q => by rw [upd_ne (at_ne e q exo_frz), upd_ne (ne_of_none q hnd)]; exact q, fun b ps q => ⟨#[], by rw [upd_ne (at_ne e q exo_tbl), upd_ne (ne_of_none q hnd), q]; simp⟩⟩
    by_cases hb : b = a
    · exact ⟨_, by rw [hb]; exact hx⟩
    · exact ⟨o, k b o hb q⟩
  refine h dx _ hnd dne (I.un (t' := tk') Un1 fun b o q => ?_)
  by_cases hb : b = a
  · subst hb; rw [upd_same] at q; cases q; exact exo_ok hx
  · rw [upd_ne hb] at q; by_cases hd : b = dx
    · subst hd; rw [upd_same] at q; cases q; exact exd_ok hn (relO_put (fs := []) ry fun g => True.intro)
    · rw [upd_ne hd] at q
      refine (I.hok b o q).stay (fun c v hc z => k c v ?_ z) (fun c hc => by rw [upd_ne (at_ne e hc exo_own), upd_ne (ne_of_none hc hnd)]; exact hc) (fun c xs hc => by rw [upd_ne (at_ne e hc exo_tup), upd_ne (ne_of_none hc hnd)]; exact hc)
      rcases hc with hc | hc
      · rw [hc]; exact hb
      · exact at_ne e hc exo_own
def tOstO (K : PySem.W.Frag) (f : Str) (to te : TE) : TS := fun D σ H => te σ H fun y H1 => to σ H1 fun x H2 => ∃ a C : Addr, x = .ref a ∧ OexO K C ∧ PySem.W.findIn K (.ref C) f = some none ∧ H2 a = some (exo a C none) ∧ ∀ dx, H2 dx = none → dx ≠ a → D.nx σ (upd (upd H2 dx (exd dx [(f, y)])) a (exo a C (some dx)))
theorem ps_ostO {o e : Expr} {to te : TE} {p' pos : Pos} (ho : PE X o to) (he : PE X e te) (hs : swapsWith e (some (.Attribute o f p')) pos.line X.env = pure false := by rfl) : PS X (.Assign [.Attribute o f p'] e pos) (tOstO X.K f to te) := by
  refine ⟨fun pins s σ H D I h => plainObj_wpAny_Assign_Attribute (thn (he.run pins s σ H _ I h) fun v s1 ⟨y, H1, I1, r1, q1⟩ => thn (ho.run pins s1 σ H1 _ I1 q1) fun u s2 ⟨x, H2, I2, r2, a, C, ex, T, hno, ea, q⟩ => ?_) hs⟩
  subst ex; obtain rfl : u = Value.ref a := r2
  exact ostO_new T I2 ea hno r1 fun dx s' n ne J => ⟨σ, _, J, q dx n ne⟩
theorem pmk_oexO {CX : CXT} {x : Str} {C fI : Addr} {k : Nat} {fd : FuncData} {ps : List Str} {sp : Sp} {ds : List Value} {dvs : List V} {e : Expr} {es : List Expr} {ta : TA} {p pos : Pos} (T : OexO X.K C) (iC : PySem.W.findIn X.K (.ref C) "__init__" = some (some (.ref fI))) (tI : PySem.W.typeIn X.K (.ref fI) = some (.type "function"))
    (F1 : FnOk X.prog X.w X.K X.mg X.base CX k fI fd ps sp) (hr : Room (k + 1) X.A) (hb : Binds X.K fd ps ds) (hd : Vals dvs ds) (hx : Passes CX X (fun _ _ _ => False)) (hg : Gl X x) (hm : X.mg x = some (.ref C)) (ha : PA X (e :: es) ta) (hdb : (x == ("__debug__" : Str)) = false := by decide)
    (he : starEach (e :: es) X.env = (false, eval e X.env) :: starEach es X.env := by rfl) (hpl : (backTo pos (starEach es X.env)).any (·.1) = false := by rfl) : PMk X (.Call (.Name x p) (e :: es) [] pos) (tMkO C sp dvs ta) := by
  intro pins s σ H Q I h; obtain ⟨nm, q, N, bs, sn, sub, ab, col, dd, k0, k1, k2, k3, k5, hC⟩ := T.cls
  refine wpAny_Call_Name_kw (ld_glob I hg hm (PySem.W.callWith_K (h₀ := X.base) I.ok.mod.kin T.kC (thn (ha.run pos pins s σ H _ I h) fun us s1 ⟨vs, H1, I1, r1, hz, q1⟩ => ⟨I1.kIn, ?_⟩) he hpl) hdb)
  show wpAny _ _ (call (.ref C) us) _ _ _; obtain ⟨hp, g, dr, tk, os⟩ := s1
  have hsz : hp.objs.size ≤ hp.objs.size + 1 := Nat.le_succ _; have hn : H1 (hp.objs.size + 1) = none := I1.hok.fresh hsz; have hq := q1 (hp.objs.size + 1) hn
  have kk : ∀ b o, hp.get? b = some o → ((hp.push (PySem.W.kdv_tup us)).push (PySem.HandSPX.excO C hp.objs.size)).get? b = some o := by
    intro b o e; exact Heap.get?_push_of_some _ (Heap.get?_push_of_some _ e)
  have hget : ((hp.push (PySem.W.kdv_tup us)).push (PySem.HandSPX.excO C hp.objs.size)).get? (hp.objs.size + 1) = some (PySem.HandSPX.excO C hp.objs.size) := by heap_get
  have I2 : Inv X pins σ (upd H1 (hp.objs.size + 1) (exo (hp.objs.size + 1) C none)) ⟨(hp.push (PySem.W.kdv_tup us)).push (PySem.HandSPX.excO C hp.objs.size), g, dr, tk, os⟩ := I1.laid (t' := tk) (a := hp.objs.size + 1) (o := exo (hp.objs.size + 1) C none) (h' := (hp.push (PySem.W.kdv_tup us)).push (PySem.HandSPX.excO C hp.objs.size)) kk hsz (exo_ok hget)
  have r2 : Vals (V.ref (hp.objs.size + 1) :: (vs ++ dvs)) (Value.ref (hp.objs.size + 1) :: (us ++ ds)) := .cons rfl (r1.append hd)
  have hl : (Value.ref (hp.objs.size + 1) :: us ++ ds).length = ps.length := by
    have e := r2.length; rw [F1.len _ _ _ _ hq] at e; exact e.symm
  have hus : us.length ≤ sizeLine := by rw [← Paired.length r1, sizeLine_eq]; omega
  refine wpAny_call (PySem.HandSPX.call_own F.excBase_OverflowError (fun Y => rfl) (I1.kIn _ _ hC) (PySem.W.looks_findIn I1.kIn iC) (fun self => PySem.W.bind_fn I1.kIn self tI) hus (codeAny_mono (F1.run _ X.stack _ _ ⟨Value.ref (hp.objs.size + 1) :: us, []⟩ (Value.ref (hp.objs.size + 1) :: (us ++ ds)) _ _ (fun _ _ _ => False) (hr.make C us []) (I2.env0.make C us []) (hb _ (Value.ref (hp.objs.size + 1) :: us) I2.kIn hl) r2 hq) fun r s' hq' => ?_))
  cases r with
  | error er => exact hx pins σ _ _ er s' I2 hq'
  | ok fl =>
    cases fl with
    | ret u =>
      obtain ⟨v, H2, os2, bare2, un2, hok2, rv, ev, d, fs, ea, ed, hd1, q2⟩ := hq'; subst ev; obtain ⟨h2, g2, d2, t2, os'⟩ := s'
      exact ⟨rv, mk_end (raises_own T.exC T.tyC) I1 hsz kk un2 hok2 os2 bare2 ea ed hd1 q2⟩
    | _ => exact False.elim hq'
end
/-! what the kernel looks at -/
def oexOClsB (K : PySem.W.Frag) (C : Addr) : Bool := match K.lookup C with
  | some ⟨.type "type", _, .cls cd, sl⟩ => (match cd.mro, sl.toList with
    | .ref C' :: bm, [_, _, _, _, some (.builtin n), _] => C' == C && n == "OverflowError.__new__" && !cd.hasDel && cd.hasDict && bm == oeTail
    | _, _ => false)
  | _ => false
theorem oexOClsB_ok {K : PySem.W.Frag} {C : Addr} (q : oexOClsB K C = true) : ∃ nm q N bs sn sub ab col dd k0 k1 k2 k3 k5, K.lookup C = some (excClassObj nm q C N bs oeTail true sn sub ab col dd k0 k1 k2 k3 k5 "OverflowError.__new__") := by
  unfold oexOClsB at q
  split at q
  · rename_i dd cd sl ho
    split at q
    · rename_i C' bm k0 k1 k2 k3 n k5 hm hs
      simp only [Bool.and_eq_true, beq_iff_eq, Bool.not_eq_true'] at q
      obtain ⟨⟨⟨⟨rfl, rfl⟩, hdel⟩, hdc⟩, ht⟩ := q
      subst ht
      obtain ⟨nm, bs, mro, ns, qn, hd, sn, sub, ab, col, del⟩ := cd
      dsimp only at hm hdel hdc
      subst hm hdel hdc
      have hsl : sl = #[k0, k1, k2, k3, some (.builtin "OverflowError.__new__"), k5] := by
        obtain ⟨l⟩ := sl; simp only at hs; rw [hs]
      subst hsl
      exact ⟨nm, qn, ns, bs, sn, sub, ab, col, dd, k0, k1, k2, k3, k5, ho⟩
    · cases q
  · cases q
/-- such a class at C: its __init__ at fI; its fields fs are no attributes of the class -/
structure OexOF (K : PySem.W.Frag) (C fI : Addr) (fs : List Str) : Prop where
  o : OexO K C
  i : PySem.W.findIn K (.ref C) "__init__" = some (some (.ref fI))
  t : PySem.W.typeIn K (.ref fI) = some (.type "function")
  x : XfC K C
  n : ∀ f ∈ fs, PySem.W.findIn K (.ref C) f = some none
def oexOFB (K : PySem.W.Frag) (C fI : Addr) (fs : List Str) : Bool := oexOClsB K C && (He.eqO (PySem.W.findIn K (.ref C) "__setattr__") (some (some (.builtin "object.__setattr__"))) && (decide (PySem.W.subIn K (.ref C) (.type "BaseException") = some true) && (decide (PySem.W.typeIn K (.ref C) = some (.type "type")) && (PySem.W.keepIn K (.ref C) &&
  (He.eqO (PySem.W.findIn K (.ref C) "__init__") (some (some (.ref fI))) && (decide (PySem.W.typeIn K (.ref fI) = some (.type "function")) && (xfB K C && fs.all fun f => He.eqO (PySem.W.findIn K (.ref C) f) (some none))))))))
theorem oexOFB_ok {K : PySem.W.Frag} {C fI : Addr} {fs : List Str} (c : oexOFB K C fI fs = true) : OexOF K C fI fs := by
  obtain ⟨c1, c⟩ := He.ba c
  obtain ⟨c2, c⟩ := He.ba c
  obtain ⟨c3, c⟩ := He.ba c
  obtain ⟨c4, c⟩ := He.ba c
  obtain ⟨c5, c⟩ := He.ba c
  obtain ⟨c6, c⟩ := He.ba c
  obtain ⟨c7, c⟩ := He.ba c
  obtain ⟨c8, c9⟩ := He.ba c
  exact ⟨⟨oexOClsB_ok c1, He.eqO_ok c2, of_decide_eq_true c3, of_decide_eq_true c4, c5⟩, He.eqO_ok c6, of_decide_eq_true c7, xfB_ok c8, fun f hf => He.eqO_ok (List.all_eq_true.mp c9 f hf)⟩
theorem kOstO {X : Cx} {K : PySem.W.Frag} {st : Stmt} {to te : TE} {f : Str} (h : PS X st (tOstO X.K f to te)) (hK : X.K = K := by rfl) : PS X st (tOstO K f to te) := hK ▸ h
theorem r_ostO {K : PySem.W.Frag} {σ : L2.St} {H : Hp} {D : Ends} {to te : TE} {f : Str} (q : te σ H fun y H1 => to σ H1 fun x H2 => ∃ a C : Addr, x = .ref a ∧ OexO K C ∧ PySem.W.findIn K (.ref C) f = some none ∧ H2 a = some (exo a C none) ∧ ∀ dx, H2 dx = none → dx ≠ a → D.nx σ (upd (upd H2 dx (exd dx [(f, y)])) a (exo a C (some dx)))) : tOstO K f to te D σ H := q
end G
namespace G
open PySem PySem.Spec PyProof.Rows L2
/-! repr of objects -/
structure ReprOf (K : PySem.W.Frag) (C f : Addr) : Prop where
  here : PySem.W.findIn K (.ref C) "__repr__" = some (some (.ref f))
  fn : PySem.W.isFn K (.ref f) = true
def reprOB (K : PySem.W.Frag) (C f : Addr) : Bool := He.eqO (PySem.W.findIn K (.ref C) "__repr__") (some (some (.ref f))) && PySem.W.isFn K (.ref f)
theorem reprOB_ok {K : PySem.W.Frag} {C f : Addr} (c : reprOB K C f = true) : ReprOf K C f := by
  obtain ⟨c1, c2⟩ := He.ba c
  exact ⟨He.eqO_ok c1, c2⟩
end G
/-! ### exceptions as values -/
namespace G
open PySem PySem.Spec PyProof.Rows L2
/-- an exception object of the class cls with the dict d, not raised, at a -/
def exV (a : Addr) (cls : Value) (d : Option Addr) : HO := .ext fun h => ∃ (oe : Obj) (vs : Array Value), h.get? a = some oe ∧ Zc cls d oe ∧ oe.data = .fields vs
theorem exV_ok {P : Program} {w : World} {H : Hp} {h : Heap} {a : Addr} {cls : Value} {d : Option Addr} {oe : Obj} {vs : Array Value} (e : h.get? a = some oe) (z : Zc cls d oe) (hd : oe.data = .fields vs) : ObjOk P w H h a (exV a cls d) :=
  ⟨⟨oe, vs, e, z, hd⟩, ⟨oe, e⟩, fun _ _ ⟨o, v, q, r⟩ k => ⟨o, v, k o q, r⟩⟩
def tVal (t : L2.St → Hp → XK → Prop) : TE := fun σ H Q => t σ H fun cls d H' => ∀ a, H' a = none → Q (.ref a) (upd H' a (exV a cls d))
/-- what makes an exception gives it as a value -/
theorem pe_of_pmk {X : Cx} {e : Expr} {t : L2.St → Hp → XK → Prop} (h : PMk X e t) : PE X e (tVal t) := by
  refine ⟨fun pins s σ H Q I q => thn (h pins s σ H _ I q) fun u s1 hu => ?_⟩
  obtain ⟨a, oe, vs, sI, H', cls, d, rfl, J, k, hne, ha, hz, hd, h1, na, os, ag, r, q⟩ := hu
  have new := exV_ok (P := X.prog) (w := X.w) (H := upd H' a (exV a cls d)) ha hz hd
  have J2 := J.call (ch := []) (g' := s1.gens) (d' := s1.drawn) (t' := s1.toks) (Un.laidN (o := exV a cls d) k hne na) (J.hok.laidN k na new) ag (fun _ z => nomatch z)
  obtain ⟨hp, g, dr, tk, os1⟩ := s1
  obtain ⟨hpI, gI, drI, tkI, osI⟩ := sI
  have os' : os1 = osI := os
  subst os'
  exact ⟨.ref a, _, J2, rfl, q a na⟩
end G
namespace G
open PySem PySem.Spec PySem.Calls PyProof.Rows
section
variable {prog : Program} {w : World} {A : Around} {E : Value → Shared → Prop} {s : Shared} {K : PySem.W.Frag} {x D : Addr} {ox : Obj} {od : Option Obj}
open PySem.W in
/-- e.__class__, e an exception with a dict or none -/
theorem kin_classX {Q : Option Value → Shared → Prop} (C : L2.ExcC K D) (X : K.In s.heap) (I : PySem.W.InstAt s.heap x ox D od) (h : Q (some (.ref D)) { s with toks := s.toks + 1 }) : wpAny (model prog w) A (getAttr? (.ref x) "__class__") Q E s := by
  have hf : findObj K D od "__class__" = some (.bind (.builtin "getset_descriptor.__get__") (.builtin "object.__class__")) := by
    obtain ⟨cd, hc, _⟩ := any_some C.hd
    unfold findObj
    rw [hc, Option.bind_some, C.ha, Option.bind_some]
    simp [C.hn, C.ht]
  obtain ⟨hp, g, d, t, os⟩ := s
  have l0 := I.type (M := model prog w)
  have l1 := looks_findIn (M := model prog w) X C.hg
  have l2 := looks_findIn (M := model prog w) X C.hk
  have l3 := looks_find (M := model prog w) X I hf
  have sub : Looks (model prog w) hp (isInstance (.ref x) (.type "BaseException")) true := l0.andThen (looks_subIn X C.hs)
  have n2 : (Value.builtin "BaseException.__getattribute__" == Value.builtin "object.__getattribute__") = false := by decide +kernel
  have n1 : (onTheHeap (Value.ref D) && Value.builtin "BaseException.__getattribute__" == Value.builtin "object.__getattribute__") = false := by rw [n2]; rfl
  unfold getAttr? getAttrBy? getAttrBy
  refine wpAny_bind (wpAny_mkText (wpAny_bind (wpAny_attempt (wpAny_holding (wpAny_bind (l0.at (wpAny_bind (l1.at ?_))))))))
  show wpAny _ _ (if (onTheHeap (Value.ref D) && Value.builtin "BaseException.__getattribute__" == Value.builtin "object.__getattribute__") = true then _ else _) _ _ _
  rw [n1, if_neg Bool.false_ne_true]
  unfold getAttrByItsOwn hookBefore
  refine wpAny_bind ?_
  rw [if_pos (show onTheHeap (Value.ref D) = true from rfl)]
  refine l2.at (wpAny_bind (wpAny_attempt (wpAny_holding ?_)))
  unfold callGetattribute
  rw [show (false && onTheHeap (Value.builtin "BaseException.__getattribute__")) = false from rfl, if_neg Bool.false_ne_true]
  unfold boundAndCalled
  rw [PySem.F.excAttr_ValueError.ga.bind (.ref x)]
  refine wpAny_bind (wpAny_pure ?_)
  show wpAny _ _ (call (.builtin "BaseException.__getattribute__") [.ref x, .str "__class__" t]) _ _ _
  refine wpAny_call (codeAny_call_builtin PySem.F.excAttr_ValueError.ga.plain PySem.F.entry_bexc_ga ?_)
  refine @check_slot (model prog w) _ _ ⟨hp, g, d, t + 1, os⟩ "BaseException.__getattribute__" "BaseException" "__getattribute__" (.ref x) [.str "__class__" t] [] _ (by decide +kernel) (by decide +kernel) sub (PySem.F.args_bexc_ga (.ref x) (.str "__class__" t)) ?_
  unfold Builtin.«object.__getattribute__»
  refine wpAny_bind (wpAny_of_eq (a := ((Value.ref x : Value), [Value.str "__class__" t])) (by first | rfl | (simp only [slotArgs]; rfl)) ?_)
  refine wpAny_bind (wpAny_pure (wpAny_bind (l0.at (wpAny_bind (l3.at ?_)))))
  show wpAny _ _ (holding [Value.builtin "object.__class__"] (call (.builtin "getset_descriptor.__get__") [.builtin "object.__class__", .ref x, .ref D]) >>= ret) _ _ _
  refine wpAny_bind (wpAny_holding (wpAny_call (class_get (s := ⟨hp, g, d, t + 1, os⟩) (ox := ox) (od := od) X I C.hm ?_)))
  refine wpAny_pure ?_
  show wpAny _ _ (handedOut (.ref D)) _ _ _
  rw [handedOut_of (v := .ref D) rfl]
  first
    | exact wpAny_pure (wpAny_pure h)
    | exact wpAny_pure h
    | exact wpAny_pure (wpAny_bind (wpAny_pure (wpAny_pure h)))
end
end G
namespace G
open PySem PySem.Spec PySem.Calls PyProof.Rows
section
variable {K : PySem.W.Frag} {x D : Addr}
open PySem.W in
theorem cls_there (C : L2.ExcC K D) : ∃ (c : Value) (d : Option Addr) (cd : ClassData) (sl : Array (Option Value)), K.lookup D = some ⟨c, d, .cls cd, sl⟩ := by
  obtain ⟨cd, hc, _⟩ := any_some C.hd
  unfold clsIn at hc
  split at hc
  · exact ⟨_, _, _, _, ‹_›⟩
  · cases hc
open PySem.W in
theorem kitx_excX (C : L2.ExcC K D) : KitX K (.ref x) (.ref D) (fun h => ∃ ox od, InstAt h x ox D od) where
  ty := fun _ _ _ ⟨_, _, I⟩ => I.type
  it := fun _ _ X _ => by
    obtain ⟨_, _, _, _, ho⟩ := cls_there C
    intro A' Q' E' s' k q
    unfold isType loadHead
    exact wpAny_bind (wpAny_loadPart (k _ _ (X _ _ ho)) (wpAny_pure q))
  ne := fun h tp dd its n sl X htp => by
    obtain ⟨_, _, _, _, ho⟩ := cls_there C
    refine Bool.eq_false_iff.mpr fun q => ?_
    have e : D = tp := Value.ref.inj (beq_iff_eq.mp q)
    rw [← e, X _ _ ho] at htp
    cases htp
  ca := fun X ⟨_, _, I⟩ k => kin_classX C X I k
end
end G
namespace G
open PySem PySem.Spec PyProof.Rows L2
/-- v is an exception of the class D with the fields fs (or without a dict) -/
def IsX (H : Hp) (a : Addr) (D : Addr) (fs : Option (List (Str × V))) : Prop := ∃ d : Option Addr, H a = some (exV a (.ref D) d) ∧ ((d = none ∧ fs = none) ∨ ∃ dx l, d = some dx ∧ fs = some l ∧ H dx = some (.xd l))
theorem IsX.same {H H' : Hp} {a D : Addr} {fs : Option (List (Str × V))} (h : IsX H a D fs) (s : Same H H') : IsX H' a D fs := by
  obtain ⟨d, h1, h2⟩ := h
  refine ⟨d, s _ _ h1, h2.imp id ?_⟩
  rintro ⟨dx, l, e1, e2, e3⟩
  exact ⟨dx, l, e1, e2, s _ _ e3⟩
def rIsX (K : PySem.W.Frag) : List V → Hp → VK → Prop := fun xs H Q => ∃ (a D : Addr) (fs : Option (List (Str × V))) (c : V) (cv : Value) (b : Bool), xs = [.ref a, c] ∧ IsX H a D fs ∧ ExcC K D ∧ ClsV c cv ∧ PySem.W.kitOne K (.ref D) cv = some b ∧ Q (.bl b) H
theorem IsX.inst {X : Cx} {pins : List (Addr × Obj)} {σ : L2.St} {H : Hp} {s : Shared} {a D : Addr} {fs : Option (List (Str × V))} (h : IsX H a D fs) (I : Inv X pins σ H s) : ∃ ox od, PySem.W.InstAt s.heap a ox D od := by
  obtain ⟨d, h1, h2⟩ := h
  obtain ⟨⟨oe, vs, e, z, hd⟩, _, _⟩ := I.hok a _ h1
  obtain ⟨oc, odd, oda, osl⟩ := oe
  obtain ⟨z1, z2⟩ := z
  dsimp only at z1 z2 hd
  subst z1 z2 hd
  rcases h2 with ⟨rfl, _⟩ | ⟨dx, l, rfl, _, e3⟩
  · exact ⟨_, none, e, rfl, rfl, trivial⟩
  · obtain ⟨mA, ⟨od, es, ep, e4, c⟩, r⟩ := I.hok dx _ e3
    exact ⟨_, some _, e, rfl, rfl, e4⟩
theorem call_isX {X : Cx} : CallR X (.builtin "isinstance") (rIsX X.K) := by
  intro pins s σ H xs us Q I r h
  obtain ⟨a, D, fs, c, cv, b, rfl, hx, C, hc, e, q⟩ := h
  obtain ⟨u1, u2, rfl, r1, r2⟩ := vals2 r
  have e2 := hc.eq r2
  subst e2
  cases (show u1 = Value.ref a from r1)
  exact PySem.W.kia_one (kitx_excX C) I.kIn (hx.inst I) e (fun z => nomatch z) fun tk => ⟨.bl b, H, I.tok tk, rfl, q⟩
end G
namespace G
open PySem PySem.Spec PyProof.Rows L2
/-- e.n, e an exception that is a value -/
def tXv (K : PySem.W.Frag) (n : Str) (te : TE) : TE := fun σ H Q => te σ H fun x H1 => ∃ (a C : Addr) (fs : List (Str × V)) (v : V), x = .ref a ∧ IsX H1 a C (some fs) ∧ XfC K C ∧ PySem.W.findIn K (.ref C) n = some none ∧ fs.lookup n = some v ∧ Q v H1
theorem pe_xv {X : Cx} {e : Expr} {te : TE} {pos : Pos} {n : Str} (he : PE X e te) (hb : attributeBase e n X.env (eval e X.env) = eval e X.env := by rfl) : PE X (.Attribute e n pos) (tXv X.K n te) := by
  refine ⟨fun pins s σ H Q I h => attr_of hb (thn (he.run pins s σ H _ I h) fun u s1 hh => ?_)⟩
  obtain ⟨x, H1, I1, rx, a, C, fs, v, ex, ⟨d, h1, h2⟩, T, hno, l, q⟩ := hh
  subst ex
  obtain rfl : u = Value.ref a := rx
  rcases h2 with ⟨_, z⟩ | ⟨dx, l', rfl, z, e3⟩
  · cases z
  cases z
  obtain ⟨⟨oe, vs, e, hz, hd⟩, _, _⟩ := I1.hok a _ h1
  obtain ⟨mA, hns, hr⟩ := (show ObjOk X.prog X.w H1 s1.heap dx (.xd fs) from I1.hok dx _ e3)
  obtain ⟨od, ho, hl⟩ := lookIn_ns hns
  obtain ⟨u, hu, ru⟩ := RelO.some_of (v := v) (o := mA n) (by rw [← l]; exact hr n)
  have J : PySem.W.InstAt s1.heap a oe C (some od) := ⟨e, hz.1, by unfold PySem.W.notCls; rw [hd] <;> rfl, by rw [hz.2]; exact ho⟩
  exact HandSPX.exc_get I1.kIn J T.ga T.gg T.exC (PySem.W.findObj_own T.hdC hno rfl (by rw [hl, hu])) (handed_of ru) ⟨v, H1, I1.tok _, ru, q⟩
end G
/-! ### own exceptions made with keywords -/
namespace G
open PySem PySem.HandSPX Builtin Builtin.ObjectAttr
section
variable {M : Model} {prog : Program} {w : World} {A : Around} {E : Value → Shared → Prop} {R : Result → Shared → Prop} {h : Heap} {g : Array GenState} {d : Drawn} {t : Nat} {os : OsState}
variable {nm q : Str} {C N : Addr} {bs bm bmB : List Value} {hdct : Bool} {sn : List Str} {sub : List Value} {ab : Bool} {col : Option Bool} {dd : Option Addr} {k0 k1 k2 k3 k5 : Option Value} {B newId initId : String}
theorem check_newK (F : ExcBaseFacts B newId initId bmB) (hB : (Value.ref C :: bm).contains (.type B) = true) {rest : List Value} {kw : List (Str × Value)} {Q : Unit → Shared → Prop}
    (hC : h.get? C = some (excClassObj nm q C N bs bm hdct sn sub ab col dd k0 k1 k2 k3 k5 newId)) (hq : Q () ⟨h, g, d, t, os⟩) : wpAny M A (checkBuiltinCall newId ⟨.ref C :: rest, kw⟩) Q E ⟨h, g, d, t, os⟩ := by
  have hstar := F.noStar
  simp only [checkBuiltinCall, F.newKind, F.newSplit, F.newRow]
  repeat (first | refine wpAny_loadPart_at hC ?_ | (refine wpAny_isSubtype_exc hC ?_; rw [hB]) | refine wpAny_staticBase_exc hC ?_ | refine wpAny_madeBy_exc hC ?_ | simp only [bne_self_eq_false, Bool.false_eq_true, if_false] | wp_step)
  exact hq
theorem newK (F : ExcBaseFacts B newId initId bmB) (hB : (Value.ref C :: bm).contains (.type B) = true) (hcA : (Value.ref C :: bm).contains (.type "AttributeError") = false) (hcN : (Value.ref C :: bm).contains (.type "NameError") = false) {rest : List Value} {kw : List (Str × Value)}
    (hC : h.get? C = some (excClassObj nm q C N bs bm hdct sn sub ab col dd k0 k1 k2 k3 k5 newId))
    (hq : R (.ok (.ret (.ref (h.objs.size + 1)))) ⟨(h.push { cls := .type "tuple", data := .seq rest.toArray }).push
      { cls := .ref C, data := .fields #[.ref h.objs.size, .none, .none, .none, .bool false, .none] }, g, d, t, os⟩) (hrest : rest.length ≤ sizeLine) :
    codeAny (model prog w) A (.builtin newId ⟨.ref C :: rest, kw⟩) R ⟨h, g, d, t, os⟩ := by
  have hends := F.ends
  refine codeAny_builtinAt F.entry ?_
  unfold Builtin.«BaseException.__new__»
  refine wpAt_bind ?_
  show wpAt _ _ _ (stack >>= _) _ _ _
  refine wpAt_bind (wpAt_stack fun p below => wpAt_of_wpAny ?_)
  wp_walk
  refine wpAt_of_wpAny ?_
  rw [F.owner]
  repeat (first | with_reducible refine wpAny_madeHere_exc F.canon hC ?_ | with_reducible refine wpAny_loadPart_at hC ?_ | (with_reducible refine wpAny_isSubtype_exc hC ?_; first | rw [hB] | rw [hcA] | rw [hcN]) | wp_step)
  show R _ _
  rw [Heap.size_push]
  exact hq
theorem type_callK (F : ExcBaseFacts B newId initId bmB) (hB : (Value.ref C :: bm).contains (.type B) = true) (hcA : (Value.ref C :: bm).contains (.type "AttributeError") = false) (hcN : (Value.ref C :: bm).contains (.type "NameError") = false) {rest : List Value} {kw : List (Str × Value)} {fI : Addr} {Q : Fin → Shared → Prop}
    (hC : h.get? C = some (excClassObj nm q C N bs bm hdct sn sub ab col dd k0 k1 k2 k3 k5 newId))
    (hi : W.Looks (model prog w) h (typeLookup (.ref C) "__init__") (some (.ref fI))) (hb : ∀ self, W.Looks (model prog w) h (bindSpecial (.ref fI) self) (.ref fI, [self])) (hrest : rest.length ≤ sizeLine)
    (hq : codeAny (model prog w) A (.call (.ref fI) ⟨.ref (h.objs.size + 1) :: rest, kw⟩)
      (fun r s' => match r with | .ok (.ret v) => v = .none ∧ Q (.done (.ret (.ref (h.objs.size + 1)))) s' | .ok _ => False | .error e => E e s')
      ⟨(h.push (W.kdv_tup rest)).push (excO C h.objs.size), g, d, t, os⟩) :
    wpAny (model prog w) A (Builtin.«type.__call__» ⟨.ref C :: rest, kw⟩) Q E ⟨h, g, d, t, os⟩ := by
  repeat (first | with_reducible refine wpAny_loadPart_at hC ?_ | with_reducible refine wpAny_madeBy_exc hC ?_ | wp_step)
  refine codeAny_call_builtin_code (Code.quiet_builtin _ F.quiet) (check_newK F hB hC ?_)
  refine newK F hB hcA hcN hC ?_ hrest
  show wpAny _ _ _ _ _ _
  have k : ∀ b o, h.get? b = some o → ((h.push (W.kdv_tup rest)).push (excO C h.objs.size)).get? b = some o := fun b o e => Heap.get?_push_of_some _ (Heap.get?_push_of_some _ e)
  have hC₁ := k _ _ hC
  have hget : ((h.push (W.kdv_tup rest)).push (excO C h.objs.size)).get? (h.objs.size + 1) = some (excO C h.objs.size) := by heap_get
  have hcC : (Value.ref C :: bm).contains (.ref C) = true := by simp
  have i1 := hi.keeps k
  have b1 := (hb (.ref (h.objs.size + 1))).keeps k
  unfold isInstance
  repeat (first | with_reducible refine wpAny_loadPart_at hget ?_ | (with_reducible refine wpAny_isSubtype_exc hC₁ ?_; rw [hcC]) | wp_step)
  show wpAny _ _ (typeLookup (.ref C) _) _ _ _
  refine i1.at ?_
  refine wpAny_holding (wpAny_bind (b1.at ?_))
  refine wpAny_bind (wpAny_call (codeAny_mono hq fun r s' z => ?_))
  rcases r with e | (v | _ | _ | _) <;> first | exact z | exact z.elim | skip
  obtain ⟨rfl, z⟩ := z
  first
    | exact wpAny_pure (wpAny_pure z)
    | (wp_walk; exact z)
theorem callK (F : ExcBaseFacts B newId initId bmB) (hB : (Value.ref C :: bm).contains (.type B) = true) (hcA : (Value.ref C :: bm).contains (.type "AttributeError") = false) (hcN : (Value.ref C :: bm).contains (.type "NameError") = false) {rest : List Value} {kw : List (Str × Value)} {fI : Addr}
    (hC : h.get? C = some (excClassObj nm q C N bs bm hdct sn sub ab col dd k0 k1 k2 k3 k5 newId))
    (hi : W.Looks (model prog w) h (typeLookup (.ref C) "__init__") (some (.ref fI))) (hb : ∀ self, W.Looks (model prog w) h (bindSpecial (.ref fI) self) (.ref fI, [self])) (hrest : rest.length ≤ sizeLine)
    (hq : codeAny (model prog w) (A.under (.builtin "type.__call__" ⟨.ref C :: rest, kw⟩)) (.call (.ref fI) ⟨.ref (h.objs.size + 1) :: rest, kw⟩) (W.InitBack (h.objs.size + 1) R)
      ⟨(h.push (W.kdv_tup rest)).push (excO C h.objs.size), g, d, t, os⟩) :
    codeAny (model prog w) A (.call (.ref C) ⟨rest, kw⟩) R ⟨h, g, d, t, os⟩ := by
  have f1 := tc_lookup
  have f2 := tc_bind (.ref C)
  have hTy : (⟨h, g, d, t, os⟩ : Shared).TypeIs (.ref C) "type" := ⟨_, hC, rfl⟩
  refine codeAny_of_tree ?_
  show wpAny _ _ (callAny (.ref C) _) _ _ _
  repeat (any_goals (first | assumption | with_reducible refine wpAny_loadPart_at hC ?_ | wp_step))
  refine ⟨rfl, ?_⟩
  refine codeAny_call_builtin_at (Code.quiet_builtin _ (by decide +kernel)) entry_typeCall (wpAny_check_type_call_sub hC (type_callK F hB hcA hcN hC hi hb hrest ?_))
  refine codeAny_mono hq fun r s' z => ?_
  rcases r with e | (v | _ | _ | _) <;> exact z
end
end G
namespace G
open PySem PySem.Spec PyProof.Rows L2
section
open Builtin Builtin.ObjectAttr PySem.HandSPX
abbrev leTail : List Value := [.type "LookupError", .type "Exception", .type "BaseException", .type "object"]
abbrev keTail : List Value := [.type "KeyError", .type "LookupError", .type "Exception", .type "BaseException", .type "object"]
theorem keTail_pass (self : Value) : refuseLoop self "__setattr__" keTail = pure () := by kernel_rfl
/-- the built-in bases that the package's errors have -/
def okTail (bm : List Value) : Bool := refsVE bm || bm == leTail || bm == keTail || bm == oeTail
theorem okTail_pass {bm : List Value} (h : okTail bm = true) (self : Value) : refuseLoop self "__setattr__" bm = pure () := by
  unfold okTail at h
  simp only [Bool.or_eq_true, beq_iff_eq] at h
  rcases h with ((h | rfl) | rfl) | rfl
  · exact refsVE_pass self bm h
  · exact F.store_LookupError.passes self
  · exact keTail_pass self
  · exact F.store_OverflowError.passes self
theorem okTail_obj {bm : List Value} (h : okTail bm = true) : bm.contains (.type "object") = true := by
  unfold okTail at h
  simp only [Bool.or_eq_true, beq_iff_eq] at h
  rcases h with ((h | rfl) | rfl) | rfl
  · exact (refsVE_contains "object" _ h).trans (by decide +kernel)
  · decide +kernel
  · decide +kernel
  · decide +kernel
variable {prog : Program} {w : World} {A : Around} {R : Result → Shared → Prop} {hp : Heap} {g : Array GenState} {d : Drawn} {t : Nat} {os : OsState}
theorem osa_G {K : W.Frag} {name : Str} {tk : Tok} {v : Value} {x C : Addr} {fv : Array Value} {cd : ClassData} {bm : List Value} (X : K.In hp) (hx : hp.get? x = some { cls := .ref C, data := .fields fv }) (hcd : W.clsIn K C = some cd) (hm : cd.mro = .ref C :: bm) (ht : okTail bm = true) (hh : cd.hasDict = true) (ha : W.findIn K (.ref C) name = some none)
    (hq : ∀ h' tk' dx, (∀ b o, b ≠ x → hp.get? b = some o → h'.get? b = some o) → hp.objs.size ≤ dx → dx ≠ x → h'.get? x = some { cls := .ref C, dict := some dx, data := .fields fv } → h'.Ns1 dx (fun y => if y = name then some v else none) → R (.ok (.ret .none)) ⟨h', g, d, tk', os⟩) :
    codeAny (model prog w) A (.call (.builtin "object.__setattr__") ⟨[.ref x, .str name tk, v], []⟩) R ⟨hp, g, d, t, os⟩ := by
  have I : W.InstAt hp x { cls := .ref C, data := .fields fv } C none := ⟨hx, rfl, rfl, trivial⟩
  have SF := F.store_object; have ne : cd.mro.isEmpty = false := by rw [hm]; rfl
  have hob : cd.mro.contains (.type "object") = true := by rw [hm, List.contains_cons, okTail_obj ht, Bool.or_true]
  have hps : refuseLoop (.ref x) "__setattr__" cd.mro = pure () := by
    rw [hm, refuseLoop_ref]; exact okTail_pass ht (.ref x)
  have hxs : x ≠ hp.objs.size := Nat.ne_of_lt (Heap.lt_size hx); have sub : W.Looks (model prog w) hp (isInstance (.ref x) (.type "object")) true := I.type.andThen (W.looks_mroIn X (by unfold W.mroIn; rw [hcd, Option.bind_some, if_neg (by rw [ne]; decide), hob]))
  refine codeAny_call_builtin SF.slot.plain SF.entry (@W.check_slot (model prog w) _ _ ⟨hp, g, d, t, os⟩ "object.__setattr__" "object" "__setattr__" (.ref x) [.str name tk, v] [] _ SF.kind SF.split sub (SF.args (.ref x) (.str name tk) v) ?_); have hmr : W.Looks (model prog w) hp (mroOf (.ref C)) cd.mro := (W.looks_clsIn X hcd).andThen .now
  have L3 : W.Looks (model prog w) hp (storeTaker? none) none := .now; have hcls : W.Looks (model prog w) hp (classData C) cd := W.looks_clsIn X hcd
  rw [W.osa_eq, refuse_eq]; refine wpAny_bind (wpAny_bind (I.type.at (wpAny_bind (hmr.at ?_))))
  rw [hps]; refine wpAny_pure (wpAny_bind (I.type.at (wpAny_bind ((W.looks_findIn X ha).at (wpAny_bind (L3.at ?_))))))
  show wpAny _ _ (storeInOwnDict (.ref x) (.ref C) (.str name tk) name v false) _ _ _; obtain ⟨nm, bs, mro, ns, qn, hd, sn, sb, ab, col, del⟩ := cd
  dsimp only at hh; subst hh; unfold storeInOwnDict ownDictForStores
  repeat (first | with_reducible refine store_in_new ?_ ?_ | with_reducible refine wpAny_loadPart_at hx ?_ | with_reducible refine hcls.at ?_ | wp_step)
  · exact ⟨_, #[], _, (Heap.get?_update_ne _ _ _ _ hxs.symm).trans (Heap.get?_push_at rfl rfl), rfl, fun e he => absurd he (by simp), fun _ => rfl⟩
  · intro h' tk' hn' hs; have hx₁ : (hp.push { cls := .type "dict", data := .dict #[] }).get? x = some { cls := .ref C, data := .fields fv } := Heap.get?_push_of_some _ hx
    refine hq h' tk' hp.objs.size (fun b o hb ho => (hs.2 b (Nat.ne_of_lt (Heap.lt_size ho))).trans ((Heap.get?_update_ne _ _ _ _ hb).trans (Heap.get?_push_of_some _ ho))) (Nat.le_refl _) hxs.symm ((hs.2 x hxs).trans (Heap.get?_update_self _ hx₁ rfl)) hn'
end
end G
namespace G
open PySem PySem.Spec PyProof.Rows L2
/-- an own error class under any of the bases -/
structure OexG (K : PySem.W.Frag) (C : Addr) : Prop where
  cls : ∃ nm q N bs bm sn sub ab col dd k0 k1 k2 k3 k5 B newId initId bmB, ExcBaseFacts B newId initId bmB ∧ okTail bm = true ∧ (Value.ref C :: bm).contains (.type B) = true ∧ (Value.ref C :: bm).contains (.type "AttributeError") = false ∧ (Value.ref C :: bm).contains (.type "NameError") = false ∧
    K.lookup C = some (excClassObj nm q C N bs bm true sn sub ab col dd k0 k1 k2 k3 k5 newId)
  sa : PySem.W.findIn K (.ref C) "__setattr__" = some (some (.builtin "object.__setattr__"))
  exC : PySem.W.subIn K (.ref C) (.type "BaseException") = some true
  tyC : PySem.W.typeIn K (.ref C) = some (.type "type")
  kC : PySem.W.keepIn K (.ref C) = true
section
variable {X : Cx} {pins : List (Addr × Obj)} {σ : L2.St} {H : Hp} {s : Shared} {a C dx : Addr} {f : Str} {y : V} {u : Value} {Q : Unit → Shared → Prop} {E : Value → Shared → Prop} {A : Around}
theorem ostG_new (T : OexG X.K C) (I : Inv X pins σ H s) (e : H a = some (exo a C none)) (hno : PySem.W.findIn X.K (.ref C) f = some none) (ry : RelV y u)
    (h : ∀ dx s', H dx = none → dx ≠ a → Inv X pins σ (upd (upd H dx (exd dx [(f, y)])) a (exo a C (some dx))) s' → Q () s') : wpAny (model X.prog X.w) A (setAttr (.ref a) f u) Q E s := by
  obtain ⟨nm, q, N, bs, bm, sn, sub, ab, col, dd, k0, k1, k2, k3, k5, B, newId, initId, bmB, _, ht, _, _, _, hC⟩ := T.cls
  have hcl : PySem.W.clsIn X.K C = some { name := nm, bases := bs, mro := .ref C :: bm, ns := N, qualname := q, hasDict := true, slotNames := sn, subclasses := sub, abstract := ab, collection := col, hasDel := false } := by unfold PySem.W.clsIn; rw [hC] <;> rfl
  obtain ⟨t1, ho⟩ := exo_at I.hok e; obtain ⟨hp, g, d, t, os⟩ := s
  refine PySem.W.set_plain I.kIn (ox := { cls := .ref C, dict := none, data := .fields #[.ref t1, .none, .none, .none, .bool false, .none] }) (od := none) ⟨ho, rfl, rfl, trivial⟩ T.sa (osa_G I.kIn ho hcl rfl ht rfl hno (fun h' tk' dx k dn dne hx hn => ?_))
  have hnd : H dx = none := I.hok.fresh dn
  have nd : ∀ {b : Addr} {o : Obj}, hp.get? b = some o → b ≠ dx := by
    intro b o q; exact Nat.ne_of_lt (Nat.lt_of_lt_of_le (Heap.lt_size q) dn)
  have na : ∀ {b : Addr}, H b = none → b ≠ a := by
    intro b n z; rw [z, e] at n; cases n
  have Un1 : Un X.fs [] H (upd (upd H dx (exd dx [(f, y)])) a (exo a C (some dx))) hp h' := by
    refine ⟨fun b o q n _ _ => k b o (na n) q, fun b o q n _ _ => ⟨o.slots, k b o (na n) q⟩, fun b o q n _ => by rw [upd_ne (na n), upd_ne (nd q)]; exact n, fun b o q _ => ?_, fun b xs q => by rw [upd_ne (at_ne e q exo_tup), upd_ne (ne_of_none q hnd)]; exact q, fun b o v q => by rw [upd_ne (at_ne e q exo_frz), upd_ne (ne_of_none q hnd)]; exact q, fun b ps q => ⟨#[], by rw [upd_ne (at_ne e q exo_tbl), upd_ne (ne_of_none q hnd), q]; simp⟩⟩
    by_cases hb : b = a
    · exact ⟨_, by rw [hb]; exact hx⟩
    · exact ⟨o, k b o hb q⟩
  refine h dx _ hnd dne (I.un (t' := tk') Un1 fun b o q => ?_)
  by_cases hb : b = a
  · subst hb; rw [upd_same] at q; cases q; exact exo_ok hx
  · rw [upd_ne hb] at q; by_cases hd : b = dx
    · subst hd; rw [upd_same] at q; cases q; exact exd_ok hn (relO_put (fs := []) ry fun g => True.intro)
    · rw [upd_ne hd] at q
      refine (I.hok b o q).stay (fun c v hc z => k c v ?_ z) (fun c hc => by rw [upd_ne (at_ne e hc exo_own), upd_ne (ne_of_none hc hnd)]; exact hc) (fun c xs hc => by rw [upd_ne (at_ne e hc exo_tup), upd_ne (ne_of_none hc hnd)]; exact hc)
      rcases hc with hc | hc
      · rw [hc]; exact hb
      · exact at_ne e hc exo_own
def tOstG (K : PySem.W.Frag) (f : Str) (to te : TE) : TS := fun D σ H => te σ H fun y H1 => to σ H1 fun x H2 => ∃ a C : Addr, x = .ref a ∧ OexG K C ∧ PySem.W.findIn K (.ref C) f = some none ∧ H2 a = some (exo a C none) ∧ ∀ dx, H2 dx = none → dx ≠ a → D.nx σ (upd (upd H2 dx (exd dx [(f, y)])) a (exo a C (some dx)))
theorem ps_ostG {o e : Expr} {to te : TE} {p' pos : Pos} (ho : PE X o to) (he : PE X e te) (hs : swapsWith e (some (.Attribute o f p')) pos.line X.env = pure false := by rfl) : PS X (.Assign [.Attribute o f p'] e pos) (tOstG X.K f to te) := by
  refine ⟨fun pins s σ H D I h => plainObj_wpAny_Assign_Attribute (thn (he.run pins s σ H _ I h) fun v s1 ⟨y, H1, I1, r1, q1⟩ => thn (ho.run pins s1 σ H1 _ I1 q1) fun u s2 ⟨x, H2, I2, r2, a, C, ex, T, hno, ea, q⟩ => ?_) hs⟩
  subst ex; obtain rfl : u = Value.ref a := r2
  exact ostG_new T I2 ea hno r1 fun dx s' n ne J => ⟨σ, _, J, q dx n ne⟩
end
end G
/-! ### own exceptions under any of the bases: made by position or by name -/
namespace G
open PySem PySem.Spec PyProof.Rows L2
section
variable {K : PySem.W.Frag} {x qual : Str} {params : Arguments} {body : List Stmt} {scope : Scope} {f : Addr} {fd : FuncData} {ps : List Str}
/-- a def without defaults, called with n positional values and the names ks -/
theorem kbindsN (F : FunD K x qual params body scope [] [] f fd) (n : Nat) (ks : List Str) (g : {α : Type} → List α → List α → List α)
    (hrel : ∀ {vs zs : List V} {us ws : List Value}, Vals vs us → Vals zs ws → Vals (g vs zs) (g us ws))
    (h : ∀ (kV doc pm : Value) (an : Option Addr) (cdv ct : Value) (us ws : List Value), us.length = n → ws.length = ks.length → bindArgs (PySem.W.fnOf x qual params body scope .none kV doc pm an cdv ct) ⟨us, ks.zip ws⟩ = pure (ps.zip (g us ws))) :
    KBn K fd ps n ks (fun us ws => g us ws) (fun vs zs => g vs zs) := by
  obtain ⟨oc, od, dV, kV, doc, pm, an, cdv, ct, osl, rfl, lk, hcd, hD, hK⟩ := F.ex
  rcases hD with ⟨_, rfl⟩ | ⟨e, _⟩
  · exact ⟨fun s us ws X l1 l2 => BindsTo.of_eq (h kV doc pm an cdv ct us ws l1 l2), fun r1 r2 => hrel r1 r2⟩
  · exact absurd rfl e
end
section
variable {X : Cx} {CX : CXT} {x : Str} {C fI : Addr} {k : Nat} {fd : FuncData} {ps ks : List Str} {sp : Sp} {e : Expr} {es : List Expr} {kws : List Keyword} {ta tk : TA} {p pos : Pos} {g : List Value → List Value → List Value} {gV : List V → List V → List V}
/-- an instance of C is made of the values us and the named ones; its own __init__ gets bv -/
theorem mkG {pins : List (Addr × Obj)} {σ : L2.St} {H1 : Hp} {s1 : Shared} {us : List Value} {kw : List (Str × Value)} {Q : XK} (T : OexG X.K C) (iC : PySem.W.findIn X.K (.ref C) "__init__" = some (some (.ref fI))) (tI : PySem.W.typeIn X.K (.ref fI) = some (.type "function"))
    (F1 : FnOk X.prog X.w X.K X.mg X.base CX k fI fd ps sp) (hr : Room (k + 1) X.A) (hx : Passes CX X (fun _ _ _ => False)) (I1 : Inv X pins σ H1 s1) (hus : us.length ≤ sizeLine) (bs : Value → List Value) (bv : V → List V)
    (hb : ∀ (s : Shared) (v : Value), X.K.In s.heap → BindsTo s fd ⟨v :: us, kw⟩ (ps.zip (bs v))) (hv : ∀ a : Addr, Vals (bv (.ref a)) (bs (.ref a)))
    (q1 : ∀ a, H1 a = none → sp (bv (.ref a)) (upd H1 a (exo a C none)) (fun v H2 => v = .non ∧ ∃ (d : Addr) (fs : List (Str × V)), H2 a = some (exo a C (some d)) ∧ H2 d = some (exd d fs) ∧ H1 d = none ∧ Q (.ref C) (some d) (upd (del H2 a) d (.xd fs))) (fun _ _ _ => False)) :
    wpAny (model X.prog X.w) X.A (call (.ref C) us kw) (MkP X pins σ Q) X.xe s1 := by
  obtain ⟨nm, q, N, bss, bm, sn, sub, ab, col, dd, k0, k1, k2, k3, k5, B, newId, initId, bmB, EF, ht, cB, cA, cN, hC⟩ := T.cls
  obtain ⟨hp, gs, dr, t0, os⟩ := s1
  have hsz : hp.objs.size ≤ hp.objs.size + 1 := Nat.le_succ _
  have hn : H1 (hp.objs.size + 1) = none := I1.hok.fresh hsz
  have hq := q1 (hp.objs.size + 1) hn
  have kk : ∀ b o, hp.get? b = some o → ((hp.push (PySem.W.kdv_tup us)).push (PySem.HandSPX.excO C hp.objs.size)).get? b = some o := by
    intro b o e; exact Heap.get?_push_of_some _ (Heap.get?_push_of_some _ e)
  have hget : ((hp.push (PySem.W.kdv_tup us)).push (PySem.HandSPX.excO C hp.objs.size)).get? (hp.objs.size + 1) = some (PySem.HandSPX.excO C hp.objs.size) := by heap_get
  have I2 : Inv X pins σ (upd H1 (hp.objs.size + 1) (exo (hp.objs.size + 1) C none)) ⟨(hp.push (PySem.W.kdv_tup us)).push (PySem.HandSPX.excO C hp.objs.size), gs, dr, t0, os⟩ := I1.laid (t' := t0) (a := hp.objs.size + 1) (o := exo (hp.objs.size + 1) C none) (h' := (hp.push (PySem.W.kdv_tup us)).push (PySem.HandSPX.excO C hp.objs.size)) kk hsz (exo_ok hget)
  refine wpAny_call (callK EF cB cA cN (I1.kIn _ _ hC) (PySem.W.looks_findIn I1.kIn iC) (fun self => PySem.W.bind_fn I1.kIn self tI) hus (codeAny_mono (F1.run _ X.stack _ _ ⟨Value.ref (hp.objs.size + 1) :: us, kw⟩ (bs (.ref (hp.objs.size + 1))) (bv (.ref (hp.objs.size + 1))) _ (fun _ _ _ => False) (hr.make C us kw) (I2.env0.make C us kw) (hb _ _ I2.kIn) (hv _) hq) fun r s' hq' => ?_))
  cases r with
  | error er => exact hx pins σ _ _ er s' I2 hq'
  | ok fl =>
    cases fl with
    | ret u =>
      obtain ⟨v, H2, os2, bare2, un2, hok2, rv, ev, d, fs, ea, ed, hd1, q2⟩ := hq'; subst ev; obtain ⟨h2, g2, d2, t2, os'⟩ := s'
      exact ⟨rv, mk_end (raises_own T.exC T.tyC) I1 hsz kk un2 hok2 os2 bare2 ea ed hd1 q2⟩
    | _ => exact False.elim hq'
/-- C(e, ..) -/
theorem pmk_oexG {ds : List Value} {dvs : List V} (T : OexG X.K C) (iC : PySem.W.findIn X.K (.ref C) "__init__" = some (some (.ref fI))) (tI : PySem.W.typeIn X.K (.ref fI) = some (.type "function"))
    (F1 : FnOk X.prog X.w X.K X.mg X.base CX k fI fd ps sp) (hr : Room (k + 1) X.A) (hb : Binds X.K fd ps ds) (hd : Vals dvs ds) (hx : Passes CX X (fun _ _ _ => False)) (hg : Gl X x) (hm : X.mg x = some (.ref C)) (ha : PA X (e :: es) ta) (hdb : (x == ("__debug__" : Str)) = false := by decide)
    (he : starEach (e :: es) X.env = (false, eval e X.env) :: starEach es X.env := by rfl) (hpl : (backTo pos (starEach es X.env)).any (·.1) = false := by rfl) : PMk X (.Call (.Name x p) (e :: es) [] pos) (tMkO C sp dvs ta) := by
  intro pins s σ H Q I h
  refine wpAny_Call_Name_kw (ld_glob I hg hm (PySem.W.callWith_K (h₀ := X.base) I.ok.mod.kin T.kC (thn (ha.run pos pins s σ H _ I h) fun us s1 ⟨vs, H1, I1, r1, hz, q1⟩ => ⟨I1.kIn, ?_⟩) he hpl) hdb)
  have hus : us.length ≤ sizeLine := by rw [← Paired.length r1, sizeLine_eq]; omega
  have r2 : ∀ a : Addr, Vals (V.ref a :: (vs ++ dvs)) (Value.ref a :: (us ++ ds)) := fun a => .cons rfl (r1.append hd)
  obtain ⟨a0, hn⟩ : ∃ a0 : Addr, H1 a0 = none := ⟨s1.heap.objs.size, I1.hok.fresh (Nat.le_refl _)⟩
  have hl : ∀ v : Value, (v :: us ++ ds).length = ps.length := fun v => by
    have e := (r2 a0).length; rw [F1.len _ _ _ _ (q1 a0 hn)] at e; exact e.symm
  show wpAny _ _ (call (.ref C) us []) _ _ _
  exact mkG T iC tI F1 hr hx I1 hus (fun v => v :: (us ++ ds)) (fun v => v :: (vs ++ dvs)) (fun s v KI => hb s (v :: us) KI (hl v)) r2 q1
/-- C(k = v, ..) -/
def tMkK (C : Addr) (m : Nat) (sp : Sp) (gV : List V → List V → List V) (tk : TA) : L2.St → Hp → XK → Prop := fun σ H Q => tk σ H fun zs H1 => zs.length = m ∧ ∀ a, H1 a = none → sp (gV [.ref a] zs) (upd H1 a (exo a C none))
  (fun v H2 => v = .non ∧ ∃ (d : Addr) (fs : List (Str × V)), H2 a = some (exo a C (some d)) ∧ H2 d = some (exd d fs) ∧ H1 d = none ∧ Q (.ref C) (some d) (upd (del H2 a) d (.xd fs))) (fun _ _ _ => False)
theorem pmk_oexK (T : OexG X.K C) (iC : PySem.W.findIn X.K (.ref C) "__init__" = some (some (.ref fI))) (tI : PySem.W.typeIn X.K (.ref fI) = some (.type "function"))
    (F1 : FnOk X.prog X.w X.K X.mg X.base CX k fI fd ps sp) (hr : Room (k + 1) X.A) (hb : KBn X.K fd ps 1 ks g gV) (hx : Passes CX X (fun _ _ _ => False)) (hg : Gl X x) (hm : X.mg x = some (.ref C)) (hkw : PK X kws tk)
    (hall : (backToKw pos (keywordEach kws X.env)).all (·.1.isSome) = true := by rfl) (hks : (backToKw pos (keywordEach kws X.env)).filterMap (·.1) = ks := by rfl) (hdb : (x == ("__debug__" : Str)) = false := by decide)
    (hpl : ((backTo pos (starEach [] X.env)).any (·.1) || (backToKw pos (keywordEach kws X.env)).any (·.1.isNone)) = false := by rfl) : PMk X (.Call (.Name x p) [] kws pos) (tMkK C ks.length sp gV tk) := by
  intro pins s σ H Q I h
  refine wpAny_Call_Name_kw (ld_glob I hg hm ?_ hdb)
  refine PySem.W.callWith_KW0 (h₀ := X.base) I.ok.mod.kin T.kC hall ?_ hpl
  refine thn (hkw.run pos pins s σ H _ I h) fun ws s2 ⟨zs, H2, I2, rz, l2, q2⟩ => ⟨I2.kIn, ?_⟩
  rw [hks]
  have l3 : ws.length = ks.length := rz.length.symm.trans l2
  show wpAny _ _ (call (.ref C) [] (ks.zip ws)) _ _ _
  exact mkG (us := []) T iC tI F1 hr hx I2 (Nat.zero_le _) (fun v => g [v] ws) (fun v => gV [v] zs) (fun s v KI => hb.to s [v] ws KI rfl l3) (fun a => hb.rel (.cons rfl .nil) rz) q2
end
/-! what the kernel looks at -/
def mroOkB (C : Addr) (bm : List Value) (B : String) : Bool := okTail bm && ((Value.ref C :: bm).contains (.type B) && (!(Value.ref C :: bm).contains (.type "AttributeError") && !(Value.ref C :: bm).contains (.type "NameError")))
def oexGClsB (K : PySem.W.Frag) (C : Addr) : Bool := match K.lookup C with
  | some ⟨.type "type", _, .cls cd, sl⟩ => (match cd.mro, sl.toList with
    | .ref C' :: bm, [_, _, _, _, some (.builtin n), _] => C' == C && !cd.hasDel && cd.hasDict && ((n == "ValueError.__new__" && mroOkB C bm "ValueError") || (n == "LookupError.__new__" && mroOkB C bm "LookupError") || (n == "OverflowError.__new__" && mroOkB C bm "OverflowError"))
    | _, _ => false)
  | _ => false
theorem mroOkB_ok {C : Addr} {bm : List Value} {B : String} (h : mroOkB C bm B = true) : okTail bm = true ∧ (Value.ref C :: bm).contains (.type B) = true ∧ (Value.ref C :: bm).contains (.type "AttributeError") = false ∧ (Value.ref C :: bm).contains (.type "NameError") = false := by
  unfold mroOkB at h
  simp only [Bool.and_eq_true, Bool.not_eq_true'] at h
  exact ⟨h.1, h.2.1, h.2.2.1, h.2.2.2⟩
theorem oexGClsB_ok {K : PySem.W.Frag} {C : Addr} (q : oexGClsB K C = true) : ∃ nm q N bs bm sn sub ab col dd k0 k1 k2 k3 k5 B newId initId bmB, ExcBaseFacts B newId initId bmB ∧ okTail bm = true ∧ (Value.ref C :: bm).contains (.type B) = true ∧ (Value.ref C :: bm).contains (.type "AttributeError") = false ∧ (Value.ref C :: bm).contains (.type "NameError") = false ∧
    K.lookup C = some (excClassObj nm q C N bs bm true sn sub ab col dd k0 k1 k2 k3 k5 newId) := by
  unfold oexGClsB at q
  split at q
  · rename_i dd cd sl ho
    split at q
    · rename_i C' bm k0 k1 k2 k3 n k5 hm hs
      simp only [Bool.and_eq_true, Bool.or_eq_true, beq_iff_eq, Bool.not_eq_true'] at q
      obtain ⟨⟨⟨rfl, hdel⟩, hdc⟩, ht⟩ := q
      obtain ⟨nm, bs, mro, ns, qn, hd, sn, sub, ab, col, del⟩ := cd
      dsimp only at hm hdel hdc
      subst hm hdel hdc
      have hsl : sl = #[k0, k1, k2, k3, some (.builtin n), k5] := by
        obtain ⟨l⟩ := sl; simp only at hs; rw [hs]
      subst hsl
      rcases ht with (⟨rfl, h⟩ | ⟨rfl, h⟩) | ⟨rfl, h⟩
      · obtain ⟨h1, h2, h3, h4⟩ := mroOkB_ok h
        exact ⟨nm, qn, ns, bs, bm, sn, sub, ab, col, dd, k0, k1, k2, k3, k5, _, _, _, _, F.excBase_ValueError, h1, h2, h3, h4, ho⟩
      · obtain ⟨h1, h2, h3, h4⟩ := mroOkB_ok h
        exact ⟨nm, qn, ns, bs, bm, sn, sub, ab, col, dd, k0, k1, k2, k3, k5, _, _, _, _, F.excBase_LookupError, h1, h2, h3, h4, ho⟩
      · obtain ⟨h1, h2, h3, h4⟩ := mroOkB_ok h
        exact ⟨nm, qn, ns, bs, bm, sn, sub, ab, col, dd, k0, k1, k2, k3, k5, _, _, _, _, F.excBase_OverflowError, h1, h2, h3, h4, ho⟩
    · cases q
  · cases q
/-- such a class at C: its __init__ at fI; its fields fs are no attributes of the class -/
structure OexGF (K : PySem.W.Frag) (C fI : Addr) (fs : List Str) : Prop where
  o : OexG K C
  i : PySem.W.findIn K (.ref C) "__init__" = some (some (.ref fI))
  t : PySem.W.typeIn K (.ref fI) = some (.type "function")
  x : XfC K C
  n : ∀ f ∈ fs, PySem.W.findIn K (.ref C) f = some none
def oexGFB (K : PySem.W.Frag) (C fI : Addr) (fs : List Str) : Bool := oexGClsB K C && (He.eqO (PySem.W.findIn K (.ref C) "__setattr__") (some (some (.builtin "object.__setattr__"))) && (decide (PySem.W.subIn K (.ref C) (.type "BaseException") = some true) && (decide (PySem.W.typeIn K (.ref C) = some (.type "type")) && (PySem.W.keepIn K (.ref C) &&
  (He.eqO (PySem.W.findIn K (.ref C) "__init__") (some (some (.ref fI))) && (decide (PySem.W.typeIn K (.ref fI) = some (.type "function")) && (xfB K C && fs.all fun f => He.eqO (PySem.W.findIn K (.ref C) f) (some none))))))))
theorem oexGFB_ok {K : PySem.W.Frag} {C fI : Addr} {fs : List Str} (c : oexGFB K C fI fs = true) : OexGF K C fI fs := by
  obtain ⟨c1, c⟩ := He.ba c
  obtain ⟨c2, c⟩ := He.ba c
  obtain ⟨c3, c⟩ := He.ba c
  obtain ⟨c4, c⟩ := He.ba c
  obtain ⟨c5, c⟩ := He.ba c
  obtain ⟨c6, c⟩ := He.ba c
  obtain ⟨c7, c⟩ := He.ba c
  obtain ⟨c8, c9⟩ := He.ba c
  exact ⟨⟨oexGClsB_ok c1, He.eqO_ok c2, of_decide_eq_true c3, of_decide_eq_true c4, c5⟩, He.eqO_ok c6, of_decide_eq_true c7, xfB_ok c8, fun f hf => He.eqO_ok (List.all_eq_true.mp c9 f hf)⟩
theorem kOstG {X : Cx} {K : PySem.W.Frag} {st : Stmt} {to te : TE} {f : Str} (h : PS X st (tOstG X.K f to te)) (hK : X.K = K := by rfl) : PS X st (tOstG K f to te) := hK ▸ h
theorem r_ostG {K : PySem.W.Frag} {σ : L2.St} {H : Hp} {D : Ends} {to te : TE} {f : Str} (q : te σ H fun y H1 => to σ H1 fun x H2 => ∃ a C : Addr, x = .ref a ∧ OexG K C ∧ PySem.W.findIn K (.ref C) f = some none ∧ H2 a = some (exo a C none) ∧ ∀ dx, H2 dx = none → dx ≠ a → D.nx σ (upd (upd H2 dx (exd dx [(f, y)])) a (exo a C (some dx)))) : tOstG K f to te D σ H := q
/-! own exceptions without __init__ under LookupError -/
abbrev luBase : List Value := [.type "LookupError", .type "Exception", .type "BaseException", .type "object"]
structure ExcL (K : PySem.W.Frag) (C : Addr) : Prop where
  x : PySem.W.excIn K C luBase "LookupError.__new__" = true
  k : PySem.W.keepIn K (.ref C) = true
  b : PySem.W.subIn K (.ref C) (.type "BaseException") = some true
  t : PySem.W.typeIn K (.ref C) = some (.type "type")
def excLB (K : PySem.W.Frag) (C : Addr) : Bool := PySem.W.excIn K C luBase "LookupError.__new__" && (PySem.W.keepIn K (.ref C) && (decide (PySem.W.subIn K (.ref C) (.type "BaseException") = some true) && decide (PySem.W.typeIn K (.ref C) = some (.type "type"))))
theorem excL_ok {K : PySem.W.Frag} {C : Addr} (c : excLB K C = true) : ExcL K C := by
  obtain ⟨c1, c⟩ := He.ba c
  obtain ⟨c2, c⟩ := He.ba c
  obtain ⟨c3, c4⟩ := He.ba c
  exact ⟨c1, c2, of_decide_eq_true c3, of_decide_eq_true c4⟩
/-! the nineteen errors: each is an instance of its own class alone, and of these bases -/
def errNs : List String := ["InvalidInteger", "InvalidPoint", "InvalidDirection", "InvalidMap", "InvalidName", "InvalidTriangulation", "InvalidCommand", "InvalidPolygon", "DegenerateCorner", "NotConvex", "InvalidAction", "RunFailed", "InvalidText", "UnknownName", "NameInUse", "NotFlippable", "LimitExceeded", "CrossingEdges", "NothingToUndo"]
def isShape (i : Nat) : Bool := decide (i < 13) || i == 17
def excCB (K : PySem.W.Frag) (D : Addr) : Bool := decide (PySem.W.findIn K (.ref D) "__getattribute__" = some (some (.builtin "BaseException.__getattribute__"))) && (decide (PySem.W.findIn K (.ref D) "__getattr__" = some none) && (decide (PySem.W.subIn K (.ref D) (.type "BaseException") = some true) && (PySem.W.hasDictIn K D && (decide (PySem.W.findIn K (.ref D) "__class__" = some (some (.builtin "object.__class__"))) &&
  (decide (PySem.W.specialIn K (.builtin "object.__class__") "__get__" = some (some (.builtin "getset_descriptor.__get__"))) && (decide (PySem.W.takesIn K (.builtin "object.__class__") = some true) && decide (PySem.W.mroIn K D (.type "object") = some true)))))))
theorem excCB_ok {K : PySem.W.Frag} {D : Addr} (c : excCB K D = true) : ExcC K D := by
  obtain ⟨c1, c⟩ := He.ba c
  obtain ⟨c2, c⟩ := He.ba c
  obtain ⟨c3, c⟩ := He.ba c
  obtain ⟨c4, c⟩ := He.ba c
  obtain ⟨c5, c⟩ := He.ba c
  obtain ⟨c6, c⟩ := He.ba c
  obtain ⟨c7, c8⟩ := He.ba c
  exact ⟨of_decide_eq_true c1, of_decide_eq_true c2, of_decide_eq_true c3, c4, of_decide_eq_true c5, of_decide_eq_true c6, of_decide_eq_true c7, of_decide_eq_true c8⟩
def errB (K : PySem.W.Frag) (i : Nat) (D : Addr) : Bool := excCB K D && (((List.range 19).all fun j => decide (PySem.W.kitOne K (.ref D) (.ref (He.ga K (errNs.getD j ""))) = some (i == j))) && (decide (PySem.W.kitOne K (.ref D) (.ref (He.ga K "ShapeError")) = some (isShape i)) &&
  (decide (PySem.W.kitOne K (.ref D) (.type "ValueError") = some (isShape i)) && (decide (PySem.W.kitOne K (.ref D) (.type "KeyError") = some (i == 13 || i == 14)) && (decide (PySem.W.kitOne K (.ref D) (.type "LookupError") = some (i == 13 || i == 14 || i == 15 || i == 18)) &&
  (decide (PySem.W.kitOne K (.ref D) (.type "IndexError") = some false) && decide (PySem.W.kitOne K (.ref D) (.type "OverflowError") = some (i == 16))))))))
structure ErrF (K : PySem.W.Frag) (i : Nat) (D : Addr) : Prop where
  c : ExcC K D
  own : ∀ j, j < 19 → PySem.W.kitOne K (.ref D) (.ref (He.ga K (errNs.getD j ""))) = some (i == j)
  sh : PySem.W.kitOne K (.ref D) (.ref (He.ga K "ShapeError")) = some (isShape i)
  ve : PySem.W.kitOne K (.ref D) (.type "ValueError") = some (isShape i)
  ke : PySem.W.kitOne K (.ref D) (.type "KeyError") = some (i == 13 || i == 14)
  le : PySem.W.kitOne K (.ref D) (.type "LookupError") = some (i == 13 || i == 14 || i == 15 || i == 18)
  ie : PySem.W.kitOne K (.ref D) (.type "IndexError") = some false
  oe : PySem.W.kitOne K (.ref D) (.type "OverflowError") = some (i == 16)
theorem errB_ok {K : PySem.W.Frag} {i : Nat} {D : Addr} (c : errB K i D = true) : ErrF K i D := by
  obtain ⟨c1, c⟩ := He.ba c
  obtain ⟨c2, c⟩ := He.ba c
  obtain ⟨c3, c⟩ := He.ba c
  obtain ⟨c4, c⟩ := He.ba c
  obtain ⟨c5, c⟩ := He.ba c
  obtain ⟨c6, c⟩ := He.ba c
  obtain ⟨c7, c8⟩ := He.ba c
  exact ⟨excCB_ok c1, fun j hj => of_decide_eq_true (List.all_eq_true.mp c2 j (List.mem_range.mpr hj)), of_decide_eq_true c3, of_decide_eq_true c4, of_decide_eq_true c5, of_decide_eq_true c6, of_decide_eq_true c7, of_decide_eq_true c8⟩
def Kit19 (K : PySem.W.Frag) : Prop := ∀ i, i < 19 → ErrF K i (He.ga K (errNs.getD i ""))
def kit19B (K : PySem.W.Frag) : Bool := (List.range 19).all fun i => errB K i (He.ga K (errNs.getD i ""))
theorem kit19_ok {K : PySem.W.Frag} (c : kit19B K = true) : Kit19 K := fun i hi => errB_ok (List.all_eq_true.mp c i (List.mem_range.mpr hi))
end G
/-! ### o.f = v where f is a property with a setter -/
namespace G
open PySem PySem.Spec PyProof.Rows L2
/-- the class at C has the property f (at p), whose setter is g -/
structure PSetOf (K : PySem.W.Frag) (C : Addr) (f : Str) (p g : Addr) : Prop where
  sa : PySem.W.findIn K (.ref C) "__setattr__" = some (some (.builtin "object.__setattr__"))
  ov : PySem.W.plainOver K C = true
  tk : PySem.W.takerIn K C f = some (some (.ref p))
  ty : PySem.W.typeIn K (.ref p) = some (.type "property")
  re : ∃ a rest, PySem.W.recIn K p "property" = some (a :: .ref g :: rest)
def psetB (K : PySem.W.Frag) (C : Addr) (f : Str) (p g : Addr) : Bool := He.eqO (PySem.W.findIn K (.ref C) "__setattr__") (some (some (.builtin "object.__setattr__"))) && (PySem.W.plainOver K C && (decide (PySem.W.takerIn K C f = some (some (.ref p))) && (decide (PySem.W.typeIn K (.ref p) = some (.type "property")) && (match PySem.W.recIn K p "property" with
  | some (_ :: .ref h :: _) => h == g
  | _ => false))))
theorem psetB_ok {K : PySem.W.Frag} {C : Addr} {f : Str} {p g : Addr} (c : psetB K C f p g = true) : PSetOf K C f p g := by
  obtain ⟨c1, c⟩ := He.ba c
  obtain ⟨c2, c⟩ := He.ba c
  obtain ⟨c3, c⟩ := He.ba c
  obtain ⟨c4, c5⟩ := He.ba c
  refine ⟨He.eqO_ok c1, c2, of_decide_eq_true c3, of_decide_eq_true c4, ?_⟩
  split at c5
  · rename_i a h rest e
    exact ⟨a, rest, by rw [e, beq_iff_eq.mp c5]⟩
  · cases c5
/-- the setter of the property f of the class at C, as the head has it -/
def psetA (K : PySem.W.Frag) (p : Addr) : Addr := match PySem.W.recIn K p "property" with
  | some (_ :: .ref h :: _) => h
  | _ => 0
def tPSet (K : PySem.W.Frag) (f : Str) (p g : Addr) (sp : Sp) (E : XK) (to te : TE) : TS := fun D σ H => te σ H fun y H1 => to σ H1 fun x H2 => ∃ (a C dx : Addr) (fs : List (Str × V)), x = .ref a ∧ H2 a = some (.ins C dx fs) ∧ PSetOf K C f p g ∧ sp [.ref a, y] H2 (fun _ H3 => D.nx σ H3) E
theorem ps_pset {X : Cx} {CX : CXT} {k : Nat} {p g : Addr} {fd : FuncData} {ps : List Str} {sp : Sp} {E : XK} {o e : Expr} {to te : TE} {f : Str} {p' pos : Pos} (F : FnOk X.prog X.w X.K X.mg X.base CX k g fd ps sp) (hr : Room (k + 2) X.A) (hb : Binds X.K fd ps []) (hx : Passes CX X E)
    (ho : PE X o to) (he : PE X e te) (hs : swapsWith e (some (.Attribute o f p')) pos.line X.env = pure false := by rfl) : PS X (.Assign [.Attribute o f p'] e pos) (tPSet X.K f p g sp E to te) := by
  refine ⟨fun pins s σ H D I h => plainObj_wpAny_Assign_Attribute (thn (he.run pins s σ H _ I h) fun v s1 ⟨y, H1, I1, r1, q1⟩ => thn (ho.run pins s1 σ H1 _ I1 q1) fun u s2 ⟨x, H2, I2, r2, a, C, dx, fs, ex, ea, P, q⟩ => ?_) hs⟩
  subst ex; obtain rfl : u = Value.ref a := r2
  obtain ⟨mA, J, _⟩ := ins_get I2.hok ea
  obtain ⟨od, J, _⟩ := J.look
  obtain ⟨b, rest, hre⟩ := P.re
  obtain ⟨hp, gs, dr, t, os⟩ := s2
  have I3 : Inv X pins σ H2 ⟨hp, gs, dr, t + 1, os⟩ := I2.tok _
  have rr : Vals [V.ref a, y] [Value.ref a, v] := .cons rfl (.cons r1 .nil)
  have hl : ([Value.ref a, v] ++ []).length = ps.length := by
    have e := rr.length; rw [F.len _ _ _ _ q] at e; exact e.symm
  refine PySem.W.set_plain I2.kIn J P.sa (PySem.W.osa_descr (s := ⟨hp, gs, dr, t + 1, os⟩) PySem.W.KF.slot_pset I2.kIn J P.ov P.tk P.ty (PySem.W.prop_set (s := ⟨hp, gs, dr, t + 1, os⟩) I2.kIn hre (codeAny_mono (F.run _ X.stack _ H2 ⟨[Value.ref a, v], []⟩ ([Value.ref a, v] ++ []) _ _ E hr.in1.in1 I3.env0.in1.in1 (hb _ [Value.ref a, v] I3.kIn hl) rr q) fun r s' z => ?_)))
  cases r with
  | error er => exact hx pins σ _ _ er s' I3 z
  | ok fl =>
    cases fl with
    | ret w =>
      obtain ⟨v', H4, I4, _, q4⟩ := I3.after z
      exact ⟨σ, H4, I4, q4⟩
    | _ => exact False.elim z
theorem kPSet {X : Cx} {K : PySem.W.Frag} {st : Stmt} {f : Str} {p g : Addr} {sp : Sp} {E : XK} {to te : TE} (h : PS X st (tPSet X.K f p g sp E to te)) (hK : X.K = K := by rfl) : PS X st (tPSet K f p g sp E to te) := hK ▸ h
theorem r_pset {K : PySem.W.Frag} {f : Str} {p g : Addr} {sp : Sp} {E : XK} {to te : TE} {D : Ends} {σ : L2.St} {H : Hp} (q : te σ H fun y H1 => to σ H1 fun x H2 => ∃ (a C dx : Addr) (fs : List (Str × V)), x = .ref a ∧ H2 a = some (.ins C dx fs) ∧ PSetOf K C f p g ∧ sp [.ref a, y] H2 (fun _ H3 => D.nx σ H3) E) : tPSet K f p g sp E to te D σ H := q
end G
/-! ### isinstance of the exception that a suite holds (needs HandS.ExcIs) -/
namespace G
open PySem PySem.Spec PyProof.Rows L2
structure IsE (K : PySem.W.Frag) (D C : Addr) (b : Bool) : Prop where
  c : ExcC K D
  k : PySem.W.kitOne K (.ref D) (.ref C) = some b
def isEB (K : PySem.W.Frag) (D C : Addr) (b : Bool) : Bool := excCB K D && decide (PySem.W.kitOne K (.ref D) (.ref C) = some b)
theorem isEB_ok {K : PySem.W.Frag} {D C : Addr} {b : Bool} (c : isEB K D C b = true) : IsE K D C b := by
  obtain ⟨c1, c2⟩ := He.ba c
  exact ⟨excCB_ok c1, of_decide_eq_true c2⟩
def rIsEc (K : PySem.W.Frag) (D a : Addr) (cls : Value) (d : Option Addr) : List V → Hp → VK → Prop := fun xs H Q => cls = .ref D ∧ d = none ∧ rIsE K D a xs H Q
theorem kIsE {X : Cx} {a D : Addr} {oe : Obj} {pn : List (Addr × Obj)} {cls : Value} {d : Option Addr} {K : PySem.W.Frag} (C : ExcC K D) (hz : Zc cls d oe) (hf : ∃ vs, oe.data = .fields vs) (hK : X.K = K := by rfl) : CallR (X.suite a ((a, oe) :: pn)) (.builtin "isinstance") (rIsEc K D a cls d) := by
  subst hK
  intro pins s σ H xs us Q I r h
  obtain ⟨rfl, rfl, h⟩ := h
  exact call_isE C hz hf pins s σ H xs us Q I r h
end G
/-! ### len of an object by its own __len__ -/
namespace G
open PySem PySem.Spec PyProof.Rows L2
structure LenOf (K : PySem.W.Frag) (C f : Addr) : Prop where
  here : PySem.W.findIn K (.ref C) "__len__" = some (some (.ref f))
  fn : PySem.W.isFn K (.ref f) = true
def lenOB (K : PySem.W.Frag) (C f : Addr) : Bool := He.eqO (PySem.W.findIn K (.ref C) "__len__") (some (some (.ref f))) && PySem.W.isFn K (.ref f)
theorem lenOB_ok {K : PySem.W.Frag} {C f : Addr} (c : lenOB K C f = true) : LenOf K C f := by
  obtain ⟨c1, c2⟩ := He.ba c
  exact ⟨He.eqO_ok c1, c2⟩
def rLenO (K : PySem.W.Frag) (f : Addr) (sp : Sp) (E : XK) : List V → Hp → VK → Prop := fun xs H Q => ∃ a C dx fs, xs = [.ref a] ∧ H a = some (.ins C dx fs) ∧ LenOf K C f ∧ sp [.ref a] H (fun v H' => ∃ n : Nat, v = .int n ∧ n < 1000000 ∧ Q (.int n) H') E
section
variable {X : Cx} {CX : CXT} {n : Nat} {C f : Addr} {fd : FuncData} {ps : List Str} {sp : Sp} {E : XK} {K : PySem.W.Frag}
theorem cLenO (F : FnOk X.prog X.w X.K X.mg X.base CX n f fd ps sp) (hr : Room (n + 1) X.A) (hb : Binds X.K fd ps []) (hx : Passes CX X E) (hK : X.K = K := by rfl) : CallR X (.builtin "len") (rLenO K f sp E) := by
  subst hK
  intro pins s σ H xs us Q I r h
  obtain ⟨a, C, dx, fs, rfl, ha, hlen, h⟩ := h
  obtain ⟨u, rfl, ru⟩ := vals1 r
  obtain rfl : u = Value.ref a := ru
  obtain ⟨mA, J, _⟩ := ins_get I.hok ha
  obtain ⟨od, J, _⟩ := J.look
  obtain ⟨m, hF⟩ := I.fr
  refine PySem.W.len_K hF I.ok.mod.kin J hlen.here hlen.fn ?_
  have hl := F.len _ _ _ _ h
  refine wpAny_call (codeAny_mono (F.run X.A.in1 X.stack s H ⟨[.ref a], []⟩ [.ref a] [.ref a] _ E hr.in1 I.env0.in1 (by
    have := hb s [.ref a] I.kIn (by simpa using hl)
    simpa using this) (.cons rfl .nil) h) fun r s' hq => ?_)
  cases r with
  | error e => exact hx pins σ H s e s' I hq
  | ok fl =>
    cases fl with
    | ret w =>
      obtain ⟨v, H', I', rv, k, rfl, hk, q⟩ := I.after hq
      obtain ⟨t, rfl⟩ := rv
      exact ⟨⟨by omega, by omega⟩, ⟨.int k, H', I'.tok _, ⟨_, rfl⟩, q⟩⟩
    | next => exact False.elim hq
    | brk => exact False.elim hq
    | cont => exact False.elim hq
theorem r_lenO {H : Hp} {Q : VK} {a dx : Addr} {fs : List (Str × V)} (ha : H a = some (.ins C dx fs)) (hl : LenOf K C f) (q : sp [.ref a] H (fun v H' => ∃ n : Nat, v = .int n ∧ n < 1000000 ∧ Q (.int n) H') E) : rLenO K f sp E [.ref a] H Q := ⟨a, C, dx, fs, rfl, ha, hl, q⟩
end
end G
namespace G
open PySem PySem.Spec PyProof.Rows L2
def top (i : Nat) : Stmt := PySem.Challenge.pw_latticeshapes_k76_capacity_assigned.main.body.getD i (.Pass ⟨0, 0, 0, 0⟩)
def Pg : Program := (PySem.Challenge.rw_latticeshapes_k76_capacity_assigned).prog
theorem sup_top : (Pg.main.scope.names.lookup ("super" : PySem.Str)).isSome = false := by decide +kernel
abbrev s_is_integer : Stmt := top 16
abbrev s_check_integer : Stmt := top 17
abbrev s_is_point : Stmt := top 19
abbrev s_cross_of : Stmt := top 21
abbrev s_difference : Stmt := top 22
abbrev s_turn_of : Stmt := top 23
abbrev s_InvalidPolygon_init : Stmt := inClass (top 7) 0
abbrev s_DegenerateCorner_init : Stmt := inClass (top 8) 0
abbrev s_CrossingEdges_init : Stmt := inClass (top 9) 0
abbrev s_NotConvex_init : Stmt := inClass (top 10) 0
abbrev s_UnknownName_init : Stmt := inClass (top 11) 0
abbrev s_NameInUse_init : Stmt := inClass (top 12) 0
abbrev s_LimitExceeded_init : Stmt := inClass (top 14) 0
abbrev s_check_points : Stmt := top 29
abbrev s_triples : Stmt := top 30
abbrev s_check_turns : Stmt := top 31
abbrev s_is_between : Stmt := top 32
abbrev s_is_on : Stmt := top 33
abbrev s_have_common_point : Stmt := top 34
abbrev s_edges_of : Stmt := top 35
abbrev s_check_crossings : Stmt := top 36
abbrev s_area_of : Stmt := top 37
abbrev s_arranged : Stmt := top 38
abbrev s_checked_corners : Stmt := top 39
abbrev s_first_reflex : Stmt := top 41
abbrev s_Polygon_init : Stmt := inClass (top 42) 1
abbrev s_Polygon_corners : Stmt := inClass (top 42) 5
abbrev s_Polygon_is_convex : Stmt := inClass (top 42) 11
abbrev s_ConvexPolygon_init : Stmt := inClass (top 43) 0
abbrev s_GridMap_init : Stmt := inClass (top 25) 1
abbrev s_GridMap_image : Stmt := inClass (top 25) 9
abbrev s_check_map : Stmt := top 26
abbrev s_Polygon_image_corners : Stmt := inClass (top 42) 14
abbrev s_Polygon_moved : Stmt := inClass (top 42) 15
abbrev s_ConvexPolygon_moved : Stmt := inClass (top 43) 2
abbrev s_check_polygon : Stmt := top 44
abbrev s_to_polygon : Stmt := top 45
abbrev s_is_name : Stmt := top 49
abbrev s_check_name : Stmt := top 50
abbrev s_Collection_init : Stmt := inClass (top 52) 0
abbrev s_Collection_len : Stmt := inClass (top 52) 1
abbrev s_Collection_capacity : Stmt := inClass (top 52) 3
abbrev s_Collection_capacity_set : Stmt := inClass (top 52) 4
abbrev s_Collection_resize : Stmt := inClass (top 52) 5
abbrev s_Collection_knows : Stmt := inClass (top 52) 6
abbrev s_Collection_check_known : Stmt := inClass (top 52) 7
abbrev s_Collection_remember : Stmt := inClass (top 52) 8
abbrev s_Collection_put : Stmt := inClass (top 52) 9
abbrev s_Collection_drop : Stmt := inClass (top 52) 10
abbrev s_Collection_call : Stmt := inClass (top 52) 11
abbrev s_Collection_carry : Stmt := inClass (top 52) 12
abbrev s_Collection_perform : Stmt := inClass (top 52) 13
abbrev s_Collection_change : Stmt := inClass (top 52) 14
abbrev s_Collection_add : Stmt := inClass (top 52) 15
abbrev s_Collection_undo : Stmt := inClass (top 52) 20
abbrev s_law_pool : Stmt := top 54
abbrev s_law_take : Stmt := top 55
abbrev s_law_carry : Stmt := top 57
abbrev s_law_polygon : Stmt := top 58
abbrev s_law_names : Stmt := top 56
abbrev s_law_assigned : Stmt := top 59
abbrev s_law_added : Stmt := top 60
abbrev s_law : Stmt := top 61
end G
namespace G
open PySem PySem.Spec PyProof.Rows L2
def dd_is_integer : He5.DefA := ⟨fun K => (He.ga K "is_integer"), "is_integer", "is_integer", defArgs s_is_integer, defBody s_is_integer, defScope s_is_integer, [], []⟩
def dd_check_integer : He5.DefA := ⟨fun K => (He.ga K "check_integer"), "check_integer", "check_integer", defArgs s_check_integer, defBody s_check_integer, defScope s_check_integer, [.non], []⟩
def dd_is_point : He5.DefA := ⟨fun K => (He.ga K "is_point"), "is_point", "is_point", defArgs s_is_point, defBody s_is_point, defScope s_is_point, [], []⟩
def dd_cross_of : He5.DefA := ⟨fun K => (He.ga K "cross_of"), "cross_of", "cross_of", defArgs s_cross_of, defBody s_cross_of, defScope s_cross_of, [], []⟩
def dd_difference : He5.DefA := ⟨fun K => (He.ga K "difference"), "difference", "difference", defArgs s_difference, defBody s_difference, defScope s_difference, [], []⟩
def dd_turn_of : He5.DefA := ⟨fun K => (He.ga K "turn_of"), "turn_of", "turn_of", defArgs s_turn_of, defBody s_turn_of, defScope s_turn_of, [], []⟩
def dd_InvalidPolygon_init : He5.DefA := ⟨fun K => (He.ma K (He.ga K "InvalidPolygon") "__init__"), "__init__", "InvalidPolygon.__init__", defArgs s_InvalidPolygon_init, defBody s_InvalidPolygon_init, defScope s_InvalidPolygon_init, [], []⟩
def dd_DegenerateCorner_init : He5.DefA := ⟨fun K => (He.ma K (He.ga K "DegenerateCorner") "__init__"), "__init__", "DegenerateCorner.__init__", defArgs s_DegenerateCorner_init, defBody s_DegenerateCorner_init, defScope s_DegenerateCorner_init, [], []⟩
def dd_CrossingEdges_init : He5.DefA := ⟨fun K => (He.ma K (He.ga K "CrossingEdges") "__init__"), "__init__", "CrossingEdges.__init__", defArgs s_CrossingEdges_init, defBody s_CrossingEdges_init, defScope s_CrossingEdges_init, [], []⟩
def dd_NotConvex_init : He5.DefA := ⟨fun K => (He.ma K (He.ga K "NotConvex") "__init__"), "__init__", "NotConvex.__init__", defArgs s_NotConvex_init, defBody s_NotConvex_init, defScope s_NotConvex_init, [], []⟩
def dd_UnknownName_init : He5.DefA := ⟨fun K => (He.ma K (He.ga K "UnknownName") "__init__"), "__init__", "UnknownName.__init__", defArgs s_UnknownName_init, defBody s_UnknownName_init, defScope s_UnknownName_init, [], []⟩
def dd_NameInUse_init : He5.DefA := ⟨fun K => (He.ma K (He.ga K "NameInUse") "__init__"), "__init__", "NameInUse.__init__", defArgs s_NameInUse_init, defBody s_NameInUse_init, defScope s_NameInUse_init, [], []⟩
def dd_LimitExceeded_init : He5.DefA := ⟨fun K => (He.ma K (He.ga K "LimitExceeded") "__init__"), "__init__", "LimitExceeded.__init__", defArgs s_LimitExceeded_init, defBody s_LimitExceeded_init, defScope s_LimitExceeded_init, [], []⟩
def dd_check_points : He5.DefA := ⟨fun K => (He.ga K "check_points"), "check_points", "check_points", defArgs s_check_points, defBody s_check_points, defScope s_check_points, [], []⟩
def dd_triples : He5.DefA := ⟨fun K => (He.ga K "triples"), "triples", "triples", defArgs s_triples, defBody s_triples, defScope s_triples, [], []⟩
def dd_check_turns : He5.DefA := ⟨fun K => (He.ga K "check_turns"), "check_turns", "check_turns", defArgs s_check_turns, defBody s_check_turns, defScope s_check_turns, [], []⟩
def dd_is_between : He5.DefA := ⟨fun K => (He.ga K "is_between"), "is_between", "is_between", defArgs s_is_between, defBody s_is_between, defScope s_is_between, [], []⟩
def dd_is_on : He5.DefA := ⟨fun K => (He.ga K "is_on"), "is_on", "is_on", defArgs s_is_on, defBody s_is_on, defScope s_is_on, [], []⟩
def dd_have_common_point : He5.DefA := ⟨fun K => (He.ga K "have_common_point"), "have_common_point", "have_common_point", defArgs s_have_common_point, defBody s_have_common_point, defScope s_have_common_point, [], []⟩
def dd_edges_of : He5.DefA := ⟨fun K => (He.ga K "edges_of"), "edges_of", "edges_of", defArgs s_edges_of, defBody s_edges_of, defScope s_edges_of, [], []⟩
def dd_check_crossings : He5.DefA := ⟨fun K => (He.ga K "check_crossings"), "check_crossings", "check_crossings", defArgs s_check_crossings, defBody s_check_crossings, defScope s_check_crossings, [], []⟩
def dd_area_of : He5.DefA := ⟨fun K => (He.ga K "area_of"), "area_of", "area_of", defArgs s_area_of, defBody s_area_of, defScope s_area_of, [], []⟩
def dd_arranged : He5.DefA := ⟨fun K => (He.ga K "arranged"), "arranged", "arranged", defArgs s_arranged, defBody s_arranged, defScope s_arranged, [], []⟩
def dd_checked_corners : He5.DefA := ⟨fun K => (He.ga K "checked_corners"), "checked_corners", "checked_corners", defArgs s_checked_corners, defBody s_checked_corners, defScope s_checked_corners, [], []⟩
def dd_first_reflex : He5.DefA := ⟨fun K => (He.ga K "first_reflex"), "first_reflex", "first_reflex", defArgs s_first_reflex, defBody s_first_reflex, defScope s_first_reflex, [], []⟩
def dd_Polygon_init : He5.DefA := ⟨fun K => (He.ma K (He.ga K "Polygon") "__init__"), "__init__", "Polygon.__init__", defArgs s_Polygon_init, defBody s_Polygon_init, defScope s_Polygon_init, [], []⟩
def dd_Polygon_corners : He5.DefA := ⟨fun K => (He5.wf K (He.ga K "Polygon") "property" "corners"), "corners", "Polygon.corners", defArgs s_Polygon_corners, defBody s_Polygon_corners, defScope s_Polygon_corners, [], []⟩
def dd_Polygon_is_convex : He5.DefA := ⟨fun K => (He5.wf K (He.ga K "Polygon") "property" "is_convex"), "is_convex", "Polygon.is_convex", defArgs s_Polygon_is_convex, defBody s_Polygon_is_convex, defScope s_Polygon_is_convex, [], []⟩
def dd_ConvexPolygon_init : He5.DefA := ⟨fun K => (He.ma K (He.ga K "ConvexPolygon") "__init__"), "__init__", "ConvexPolygon.__init__", defArgs s_ConvexPolygon_init, defBody s_ConvexPolygon_init, defScope s_ConvexPolygon_init, [], []⟩
def dd_GridMap_init : He5.DefA := ⟨fun K => (He.ma K (He.ga K "GridMap") "__init__"), "__init__", "GridMap.__init__", defArgs s_GridMap_init, defBody s_GridMap_init, defScope s_GridMap_init, [(.int 0), (.int 0)], []⟩
def dd_GridMap_image : He5.DefA := ⟨fun K => (He.ma K (He.ga K "GridMap") "image"), "image", "GridMap.image", defArgs s_GridMap_image, defBody s_GridMap_image, defScope s_GridMap_image, [], []⟩
def dd_check_map : He5.DefA := ⟨fun K => (He.ga K "check_map"), "check_map", "check_map", defArgs s_check_map, defBody s_check_map, defScope s_check_map, [], []⟩
def dd_Polygon_image_corners : He5.DefA := ⟨fun K => (He.ma K (He.ga K "Polygon") "image_corners"), "image_corners", "Polygon.image_corners", defArgs s_Polygon_image_corners, defBody s_Polygon_image_corners, defScope s_Polygon_image_corners, [], []⟩
def dd_Polygon_moved : He5.DefA := ⟨fun K => (He.ma K (He.ga K "Polygon") "moved"), "moved", "Polygon.moved", defArgs s_Polygon_moved, defBody s_Polygon_moved, defScope s_Polygon_moved, [], []⟩
def dd_ConvexPolygon_moved : He5.DefA := ⟨fun K => (He.ma K (He.ga K "ConvexPolygon") "moved"), "moved", "ConvexPolygon.moved", defArgs s_ConvexPolygon_moved, defBody s_ConvexPolygon_moved, defScope s_ConvexPolygon_moved, [], []⟩
def dd_check_polygon : He5.DefA := ⟨fun K => (He.ga K "check_polygon"), "check_polygon", "check_polygon", defArgs s_check_polygon, defBody s_check_polygon, defScope s_check_polygon, [], []⟩
def dd_to_polygon : He5.DefA := ⟨fun K => (He.ga K "to_polygon"), "to_polygon", "to_polygon", defArgs s_to_polygon, defBody s_to_polygon, defScope s_to_polygon, [], []⟩
def dd_is_name : He5.DefA := ⟨fun K => (He.ga K "is_name"), "is_name", "is_name", defArgs s_is_name, defBody s_is_name, defScope s_is_name, [], []⟩
def dd_check_name : He5.DefA := ⟨fun K => (He.ga K "check_name"), "check_name", "check_name", defArgs s_check_name, defBody s_check_name, defScope s_check_name, [], []⟩
def dd_Collection_init : He5.DefA := ⟨fun K => (He.ma K (He.ga K "Collection") "__init__"), "__init__", "Collection.__init__", defArgs s_Collection_init, defBody s_Collection_init, defScope s_Collection_init, [], [("capacity", (.int 20))]⟩
def dd_Collection_len : He5.DefA := ⟨fun K => (He.ma K (He.ga K "Collection") "__len__"), "__len__", "Collection.__len__", defArgs s_Collection_len, defBody s_Collection_len, defScope s_Collection_len, [], []⟩
def dd_Collection_capacity : He5.DefA := ⟨fun K => (He5.wf K (He.ga K "Collection") "property" "capacity"), "capacity", "Collection.capacity", defArgs s_Collection_capacity, defBody s_Collection_capacity, defScope s_Collection_capacity, [], []⟩
def dd_Collection_capacity_set : He5.DefA := ⟨fun K => (psetA K (He.ma K (He.ga K "Collection") "capacity")), "capacity", "Collection.capacity", defArgs s_Collection_capacity_set, defBody s_Collection_capacity_set, defScope s_Collection_capacity_set, [], []⟩
def dd_Collection_resize : He5.DefA := ⟨fun K => (He.ma K (He.ga K "Collection") "resize"), "resize", "Collection.resize", defArgs s_Collection_resize, defBody s_Collection_resize, defScope s_Collection_resize, [], []⟩
def dd_Collection_knows : He5.DefA := ⟨fun K => (He.ma K (He.ga K "Collection") "knows"), "knows", "Collection.knows", defArgs s_Collection_knows, defBody s_Collection_knows, defScope s_Collection_knows, [], []⟩
def dd_Collection_check_known : He5.DefA := ⟨fun K => (He.ma K (He.ga K "Collection") "check_known"), "check_known", "Collection.check_known", defArgs s_Collection_check_known, defBody s_Collection_check_known, defScope s_Collection_check_known, [], []⟩
def dd_Collection_remember : He5.DefA := ⟨fun K => (He.ma K (He.ga K "Collection") "remember"), "remember", "Collection.remember", defArgs s_Collection_remember, defBody s_Collection_remember, defScope s_Collection_remember, [], []⟩
def dd_Collection_put : He5.DefA := ⟨fun K => (He.ma K (He.ga K "Collection") "put"), "put", "Collection.put", defArgs s_Collection_put, defBody s_Collection_put, defScope s_Collection_put, [], []⟩
def dd_Collection_drop : He5.DefA := ⟨fun K => (He.ma K (He.ga K "Collection") "drop"), "drop", "Collection.drop", defArgs s_Collection_drop, defBody s_Collection_drop, defScope s_Collection_drop, [], []⟩
def dd_Collection_call : He5.DefA := ⟨fun K => (He.ma K (He.ga K "Collection") "call"), "call", "Collection.call", defArgs s_Collection_call, defBody s_Collection_call, defScope s_Collection_call, [], []⟩
def dd_Collection_carry : He5.DefA := ⟨fun K => (He.ma K (He.ga K "Collection") "carry"), "carry", "Collection.carry", defArgs s_Collection_carry, defBody s_Collection_carry, defScope s_Collection_carry, [], []⟩
def dd_Collection_perform : He5.DefA := ⟨fun K => (He.ma K (He.ga K "Collection") "perform"), "perform", "Collection.perform", defArgs s_Collection_perform, defBody s_Collection_perform, defScope s_Collection_perform, [], []⟩
def dd_Collection_change : He5.DefA := ⟨fun K => (He.ma K (He.ga K "Collection") "change"), "change", "Collection.change", defArgs s_Collection_change, defBody s_Collection_change, defScope s_Collection_change, [], []⟩
def dd_Collection_add : He5.DefA := ⟨fun K => (He.ma K (He.ga K "Collection") "add"), "add", "Collection.add", defArgs s_Collection_add, defBody s_Collection_add, defScope s_Collection_add, [], []⟩
def dd_Collection_undo : He5.DefA := ⟨fun K => (He.ma K (He.ga K "Collection") "undo"), "undo", "Collection.undo", defArgs s_Collection_undo, defBody s_Collection_undo, defScope s_Collection_undo, [], [("number", (.int 1))]⟩
def dd_law_pool : He5.DefA := ⟨fun K => (He.ga K "_law_pool"), "_law_pool", "_law_pool", defArgs s_law_pool, defBody s_law_pool, defScope s_law_pool, [], []⟩
def dd_law_take : He5.DefA := ⟨fun K => (He.ga K "_law_take"), "_law_take", "_law_take", defArgs s_law_take, defBody s_law_take, defScope s_law_take, [], []⟩
def dd_law_carry : He5.DefA := ⟨fun K => (He.ga K "_law_carry"), "_law_carry", "_law_carry", defArgs s_law_carry, defBody s_law_carry, defScope s_law_carry, [], []⟩
def dd_law_polygon : He5.DefA := ⟨fun K => (He.ga K "_law_polygon"), "_law_polygon", "_law_polygon", defArgs s_law_polygon, defBody s_law_polygon, defScope s_law_polygon, [], []⟩
def dd_law_names : He5.DefA := ⟨fun K => (He.ga K "_law_names"), "_law_names", "_law_names", defArgs s_law_names, defBody s_law_names, defScope s_law_names, [], []⟩
def dd_law_assigned : He5.DefA := ⟨fun K => (He.ga K "_law_assigned"), "_law_assigned", "_law_assigned", defArgs s_law_assigned, defBody s_law_assigned, defScope s_law_assigned, [], []⟩
def dd_law_added : He5.DefA := ⟨fun K => (He.ga K "_law_added"), "_law_added", "_law_added", defArgs s_law_added, defBody s_law_added, defScope s_law_added, [], []⟩
def dd_law : He5.DefA := ⟨fun K => (He.ga K "law"), "law", "law", defArgs s_law, defBody s_law, defScope s_law, [], []⟩
def fn : List He5.DefA := [dd_is_integer, dd_check_integer, dd_is_point, dd_cross_of, dd_difference, dd_turn_of, dd_InvalidPolygon_init, dd_DegenerateCorner_init, dd_CrossingEdges_init, dd_NotConvex_init, dd_UnknownName_init, dd_NameInUse_init, dd_LimitExceeded_init, dd_check_points, dd_triples, dd_check_turns, dd_is_between, dd_is_on, dd_have_common_point, dd_edges_of, dd_check_crossings, dd_area_of, dd_arranged, dd_checked_corners, dd_first_reflex, dd_Polygon_init, dd_Polygon_corners, dd_Polygon_is_convex, dd_GridMap_init, dd_GridMap_image, dd_check_map, dd_Polygon_image_corners, dd_Polygon_moved, dd_ConvexPolygon_moved, dd_check_polygon, dd_to_polygon, dd_is_name, dd_check_name, dd_Collection_init, dd_Collection_len, dd_Collection_capacity, dd_Collection_capacity_set, dd_Collection_resize, dd_Collection_knows, dd_Collection_check_known, dd_Collection_remember, dd_Collection_put, dd_Collection_drop, dd_Collection_call, dd_Collection_carry, dd_Collection_perform, dd_Collection_change, dd_Collection_add, dd_Collection_undo, dd_law_pool, dd_law_take, dd_law_carry, dd_law_polygon, dd_law_names, dd_law_assigned, dd_law_added, dd_law]
def gsn : List He5.DefA := [dd_ConvexPolygon_init]
def fcs : List (PySem.W.Frag → Bool) := [fun K => (He.Fa.free "isinstance").ok K,
  fun K => (He.Fa.free "int").ok K,
  fun K => (He.Fa.free "bool").ok K,
  fun K => (He.Fa.free "tuple").ok K,
  fun K => (He.Fa.free "all").ok K,
  fun K => (He.Fa.free "len").ok K,
  fun K => (He.Fa.free "enumerate").ok K,
  fun K => (He.Fa.free "list").ok K,
  fun K => (He.Fa.free "min").ok K,
  fun K => (He.Fa.free "max").ok K,
  fun K => (He.Fa.free "zip").ok K,
  fun K => (He.Fa.free "range").ok K,
  fun K => (He.Fa.free "sum").ok K,
  fun K => (He.Fa.free "super").ok K,
  fun K => (He.Fa.free "abs").ok K,
  fun K => (He.Fa.free "str").ok K,
  fun K => (He.Fa.free "dict").ok K,
  fun K => (He.Fa.free "repr").ok K,
  fun K => (He.Fa.glo "is_integer").ok K,
  fun K => (He.Fa.glo "check_integer").ok K,
  fun K => (He.Fa.glo "is_point").ok K,
  fun K => (He.Fa.glo "cross_of").ok K,
  fun K => (He.Fa.glo "difference").ok K,
  fun K => (He.Fa.glo "turn_of").ok K,
  fun K => (He.Fa.glo "check_points").ok K,
  fun K => (He.Fa.glo "triples").ok K,
  fun K => (He.Fa.glo "check_turns").ok K,
  fun K => (He.Fa.glo "is_between").ok K,
  fun K => (He.Fa.glo "is_on").ok K,
  fun K => (He.Fa.glo "have_common_point").ok K,
  fun K => (He.Fa.glo "edges_of").ok K,
  fun K => (He.Fa.glo "check_crossings").ok K,
  fun K => (He.Fa.glo "area_of").ok K,
  fun K => (He.Fa.glo "arranged").ok K,
  fun K => (He.Fa.glo "checked_corners").ok K,
  fun K => (He.Fa.glo "first_reflex").ok K,
  fun K => (He.Fa.glo "check_map").ok K,
  fun K => (He.Fa.glo "check_polygon").ok K,
  fun K => (He.Fa.glo "to_polygon").ok K,
  fun K => (He.Fa.glo "is_name").ok K,
  fun K => (He.Fa.glo "check_name").ok K,
  fun K => (He.Fa.glo "_law_pool").ok K,
  fun K => (He.Fa.glo "_law_take").ok K,
  fun K => (He.Fa.glo "_law_carry").ok K,
  fun K => (He.Fa.glo "_law_polygon").ok K,
  fun K => (He.Fa.glo "_law_names").ok K,
  fun K => (He.Fa.glo "_law_assigned").ok K,
  fun K => (He.Fa.glo "_law_added").ok K,
  fun K => (He.Fa.glo "law").ok K,
  fun K => (He.Fa.int "MIN_CORNERS" 3).ok K,
  fun K => (He.Fa.str "LETTERS" "abcdefghijklmnopqrstuvwxyz").ok K,
  fun K => (He.Fa.int "MAX_LENGTH" 8).ok K,
  fun K => (He.Fa.glo "InvalidPolygon").ok K,
  fun K => oexFB K (He.ga K "InvalidPolygon") (He.ma K (He.ga K "InvalidPolygon") "__init__") ["position"],
  fun K => (He.Fa.glo "DegenerateCorner").ok K,
  fun K => oexFB K (He.ga K "DegenerateCorner") (He.ma K (He.ga K "DegenerateCorner") "__init__") ["position"],
  fun K => (He.Fa.glo "CrossingEdges").ok K,
  fun K => oexFB K (He.ga K "CrossingEdges") (He.ma K (He.ga K "CrossingEdges") "__init__") ["first", "second"],
  fun K => (He.Fa.glo "NotConvex").ok K,
  fun K => oexFB K (He.ga K "NotConvex") (He.ma K (He.ga K "NotConvex") "__init__") ["position"],
  fun K => (He.Fa.glo "LimitExceeded").ok K,
  fun K => oexOFB K (He.ga K "LimitExceeded") (He.ma K (He.ga K "LimitExceeded") "__init__") ["size"],
  fun K => (He.Fa.glo "InvalidInteger").ok K,
  fun K => excFB K (He.ga K "InvalidInteger"),
  fun K => (He.Fa.glo "InvalidMap").ok K,
  fun K => excFB K (He.ga K "InvalidMap"),
  fun K => (He.Fa.glo "InvalidName").ok K,
  fun K => excFB K (He.ga K "InvalidName"),
  fun K => (He.Fa.exm "InvalidInteger" "InvalidInteger" true).ok K,
  fun K => (He.Fa.exm "LimitExceeded" "InvalidInteger" false).ok K,
  fun K => (He.Fa.exm "LimitExceeded" "LimitExceeded" true).ok K,
  fun K => (He.Fa.glo "Polygon").ok K,
  fun K => insTyB K (He.ga K "Polygon"),
  fun K => mkB K (He.ga K "Polygon") (He.ma K (He.ga K "Polygon") "__init__"),
  fun K => (He.Fa.noat "Polygon" "kept").ok K,
  fun K => (He.Fa.noat "Polygon" "reflex").ok K,
  fun K => propB K (He.ga K "Polygon") (He.ga K "Polygon") "corners",
  fun K => propB K (He.ga K "Polygon") (He.ga K "Polygon") "is_convex",
  fun K => methB K (He.ga K "Polygon") (He.ga K "Polygon") "image_corners",
  fun K => methB K (He.ga K "Polygon") (He.ga K "Polygon") "moved",
  fun K => creadB K (He.ga K "Polygon"),
  fun K => cvalB K (He.ga K "Polygon") "MAX_CORNERS" (.int 60),
  fun K => isiB K (.ref (He.ga K "Polygon")) (.ref (He.ga K "Polygon")) true,
  fun K => kitNoB K (He.ga K "Polygon"),
  fun K => PySem.W.notFirst K (He.ga K "Polygon") (.ref (He.ga K "Polygon")),
  fun K => kitNoB K (He.ga K "Polygon"),
  fun K => (He.Fa.glo "ConvexPolygon").ok K,
  fun K => insTyB K (He.ga K "ConvexPolygon"),
  fun K => mkB K (He.ga K "ConvexPolygon") (He.ma K (He.ga K "ConvexPolygon") "__init__"),
  fun K => (He.Fa.noat "ConvexPolygon" "kept").ok K,
  fun K => (He.Fa.noat "ConvexPolygon" "reflex").ok K,
  fun K => methB K (He.ga K "ConvexPolygon") (He.ga K "ConvexPolygon") "moved",
  fun K => propB K (He.ga K "ConvexPolygon") (He.ga K "Polygon") "corners",
  fun K => propB K (He.ga K "ConvexPolygon") (He.ga K "Polygon") "is_convex",
  fun K => methB K (He.ga K "ConvexPolygon") (He.ga K "Polygon") "image_corners",
  fun K => creadB K (He.ga K "ConvexPolygon"),
  fun K => isiB K (.ref (He.ga K "ConvexPolygon")) (.ref (He.ga K "ConvexPolygon")) true,
  fun K => kitNoB K (He.ga K "ConvexPolygon"),
  fun K => isiB K (.ref (He.ga K "ConvexPolygon")) (.ref (He.ga K "Polygon")) true,
  fun K => isiB K (.ref (He.ga K "Polygon")) (.ref (He.ga K "ConvexPolygon")) false,
  fun K => PySem.W.notFirst K (He.ga K "ConvexPolygon") (.ref (He.ga K "ConvexPolygon")),
  fun K => kitNoB K (He.ga K "ConvexPolygon"),
  fun K => (He.Fa.glo "GridMap").ok K,
  fun K => insTyB K (He.ga K "GridMap"),
  fun K => mkB K (He.ga K "GridMap") (He.ma K (He.ga K "GridMap") "__init__"),
  fun K => (He.Fa.noat "GridMap" "six").ok K,
  fun K => methB K (He.ga K "GridMap") (He.ga K "GridMap") "image",
  fun K => creadB K (He.ga K "GridMap"),
  fun K => isiB K (.ref (He.ga K "GridMap")) (.ref (He.ga K "GridMap")) true,
  fun K => kitNoB K (He.ga K "GridMap"),
  fun K => PySem.W.notFirst K (He.ga K "GridMap") (.ref (He.ga K "GridMap")),
  fun K => kitNoB K (He.ga K "GridMap"),
  fun K => (He.Fa.glo "Collection").ok K,
  fun K => insTyB K (He.ga K "Collection"),
  fun K => mkB K (He.ga K "Collection") (He.ma K (He.ga K "Collection") "__init__"),
  fun K => (He.Fa.noat "Collection" "most").ok K,
  fun K => (He.Fa.noat "Collection" "kept").ok K,
  fun K => (He.Fa.noat "Collection" "earlier").ok K,
  fun K => lenOB K (He.ga K "Collection") (He.ma K (He.ga K "Collection") "__len__"),
  fun K => propB K (He.ga K "Collection") (He.ga K "Collection") "capacity",
  fun K => psetB K (He.ga K "Collection") "capacity" (He.ma K (He.ga K "Collection") "capacity") (psetA K (He.ma K (He.ga K "Collection") "capacity")),
  fun K => methB K (He.ga K "Collection") (He.ga K "Collection") "resize",
  fun K => methB K (He.ga K "Collection") (He.ga K "Collection") "knows",
  fun K => methB K (He.ga K "Collection") (He.ga K "Collection") "check_known",
  fun K => methB K (He.ga K "Collection") (He.ga K "Collection") "remember",
  fun K => methB K (He.ga K "Collection") (He.ga K "Collection") "put",
  fun K => methB K (He.ga K "Collection") (He.ga K "Collection") "drop",
  fun K => methB K (He.ga K "Collection") (He.ga K "Collection") "call",
  fun K => methB K (He.ga K "Collection") (He.ga K "Collection") "carry",
  fun K => methB K (He.ga K "Collection") (He.ga K "Collection") "perform",
  fun K => methB K (He.ga K "Collection") (He.ga K "Collection") "change",
  fun K => methB K (He.ga K "Collection") (He.ga K "Collection") "add",
  fun K => methB K (He.ga K "Collection") (He.ga K "Collection") "undo",
  fun K => creadB K (He.ga K "Collection"),
  fun K => isiB K (.ref (He.ga K "Collection")) (.ref (He.ga K "Collection")) true,
  fun K => kitNoB K (He.ga K "Collection"),
  fun K => PySem.W.notFirst K (He.ga K "Collection") (.ref (He.ga K "Collection")),
  fun K => kitNoB K (He.ga K "Collection"),
  fun K => supFB K "ConvexPolygon.__init__" Pg.main.file (He.ma K (He.ga K "ConvexPolygon") "__init__") (He.ga K "ConvexPolygon") (He.ma K (He.ga K "Polygon") "__init__"),
  fun K => oexGFB K (He.ga K "UnknownName") (He.ma K (He.ga K "UnknownName") "__init__") ["name"],
  fun K => (He.Fa.glo "UnknownName").ok K,
  fun K => oexGFB K (He.ga K "NameInUse") (He.ma K (He.ga K "NameInUse") "__init__") ["name"],
  fun K => (He.Fa.glo "NameInUse").ok K,
  fun K => excLB K (He.ga K "NothingToUndo"),
  fun K => (He.Fa.glo "NothingToUndo").ok K,
  fun K => (He.Fa.glo "ShapeError").ok K,
  fun K => isEB K (He.ga K "InvalidInteger") (He.ga K "ShapeError") true]
abbrev R : PySem.W.OpenRow := PySem.W.OpenLaw.row PySem.Challenge.rw_latticeshapes_k76_capacity_assigned
abbrev hk : PySem.W.Hook := hookM 5 fcs fn gsn
def ob (s : PySem.W.SharedT) : He.AlD := obsMG 5 fcs fn gsn (HandSHeadRun.getT s)
theorem ob_eq (s : PySem.W.SharedT) : ob s = hk.obs s.abs := obsMG_eq (HandSHeadRun.getT_eq s)
def loose : List PySem.Str := (["_wall", "ShapeError", "InvalidInteger", "InvalidPoint", "InvalidMap", "InvalidName", "InvalidPolygon", "DegenerateCorner", "CrossingEdges", "NotConvex", "UnknownName", "NameInUse", "NothingToUndo", "LimitExceeded", "is_integer", "check_integer", "is_point", "check_point", "cross_of", "difference", "turn_of", "GridMap", "check_map", "MIN_CORNERS", "check_points", "triples", "check_turns", "is_between", "is_on", "have_common_point"] : List PySem.Str) ++ (["edges_of", "check_crossings", "area_of", "arranged", "checked_corners", "first_reflex", "Polygon", "ConvexPolygon", "check_polygon", "to_polygon", "LETTERS", "MAX_LENGTH", "is_name", "check_name", "Collection", "_law_pool", "_law_take", "_law_names", "_law_carry", "_law_polygon", "_law_assigned", "_law_added"] : List PySem.Str)
theorem run (w : World) : HandSHeadRun.RunEq R (PySem.W.view R.prog [61]) hk ob 9000 loose w := by
  intro os
  kernel_rfl
end G
/-! ### loops and comprehensions: readings by an invariant -/
namespace G
open PySem PySem.Spec PyProof.Rows L2
section
variable {K : PySem.W.Frag} {σ : L2.St} {H : Hp} {ta tb te : TE} {Q : VK} {D : Ends} {i j : Nat} {v x y : V} {b : Bool} {ts : TS} {g : TG} {tt : TT} {vs : List Nat}
/-- the turns of a for over the walk J -/
def Turns (J : It) (g : TG) (ts : TS) (D : Ends) (σ : L2.St) (H : Hp) : Prop := ∃ W : Nat → Nat → L2.St → Hp → Prop, (∃ m, W 0 m σ H) ∧ ∀ i m σ H, W i m σ H →
  (J.stop i H ∧ D.nx σ H) ∨ (J.go i H ∧ ∃ N : L2.St → Hp → Prop, (∀ σ' H', N σ' H' → ∃ m', m' < m ∧ W (i + 1) m' σ' H') ∧ ∀ x H', J.yld i H x H' → g x σ H' fun σ2 H2 => ts { D with nx := N, ct := N, bk := D.nx } σ2 H2)
def LoopR1 (ws : List V) (g : TG) (ts : TS) (D : Ends) (σ : L2.St) (H : Hp) : Prop := ∃ n : Int, ws = [.int n] ∧ -(2 ^ 62) ≤ n ∧ n < 2 ^ 62 ∧ Turns (Itr 0 n.toNat) g ts D σ H
def LoopR2 (ws : List V) (g : TG) (ts : TS) (D : Ends) (σ : L2.St) (H : Hp) : Prop := ∃ m n : Int, ws = [.int m, .int n] ∧ (-(2 ^ 62) ≤ m ∧ m < 2 ^ 62 ∧ -(2 ^ 62) ≤ n ∧ n < 2 ^ 62) ∧ Turns (Itr m (n - m).toNat) g ts D σ H
def LoopL (K : PySem.W.Frag) (w : V) (g : TG) (ts : TS) (D : Ends) (σ : L2.St) (H : Hp) : Prop := ∃ a, w = .ref a ∧ (∃ xs, SqL K H a xs) ∧ Turns (Itl K a) g ts D σ H
def LoopT (K : PySem.W.Frag) (w : V) (g : TG) (ts : TS) (D : Ends) (σ : L2.St) (H : Hp) : Prop := ∃ a, w = .ref a ∧ (∃ xs, SqT K H a xs) ∧ Turns (Itt K a) g ts D σ H
theorem r_forR1 {ta : TA} (q : ta σ H fun ws H1 => LoopR1 ws g ts D σ H1) : tFor (iRng1 ta) g ts D σ H := q
theorem r_forR2 {ta : TA} (q : ta σ H fun ws H1 => LoopR2 ws g ts D σ H1) : tFor (iRng2 ta) g ts D σ H := q
theorem r_forL (q : te σ H fun w H1 => LoopL K w g ts D σ H1) : tFor (iList K te) g ts D σ H := q
theorem r_forT (q : te σ H fun w H1 => LoopT K w g ts D σ H1) : tFor (iTup K te) g ts D σ H := q
theorem loopR1 {n : Int} (h1 : n < 2 ^ 62) (Pv : Nat → L2.St → Hp → Prop) (h0 : Pv 0 σ H) (hs : ∀ (i : Nat) σ' H', (i : Int) < n → Pv i σ' H' → ts { D with nx := Pv (i + 1), ct := Pv (i + 1), bk := D.nx } (σ'.set j (some (.int (i : Int)))) H')
    (hd : ∀ σ' H', Pv n.toNat σ' H' → D.nx σ' H') (h2 : -(2 ^ 62) ≤ n := by omega) : LoopR1 [.int n] (gName j) ts D σ H :=
  ⟨n, rfl, h2, h1, for_range Pv h0 (fun i σ' H' hi p => by
    have e0 : (0 : Int) + (i : Int) = (i : Int) := Int.zero_add _
    show ts _ (σ'.set j (some (.int ((0 : Int) + (i : Int))))) H'
    rw [e0]
    exact hs i σ' H' (by omega) p) hd⟩
theorem loopR2 {m n : Int} (h : -(2 ^ 62) ≤ m ∧ m < 2 ^ 62 ∧ -(2 ^ 62) ≤ n ∧ n < 2 ^ 62) (Pv : Nat → L2.St → Hp → Prop) (h0 : Pv 0 σ H) (hs : ∀ (i : Nat) σ' H', m + (i : Int) < n → Pv i σ' H' → ts { D with nx := Pv (i + 1), ct := Pv (i + 1), bk := D.nx } (σ'.set j (some (.int (m + (i : Int))))) H')
    (hd : ∀ σ' H', Pv (n - m).toNat σ' H' → D.nx σ' H') : LoopR2 [.int m, .int n] (gName j) ts D σ H :=
  ⟨m, n, rfl, h, for_range Pv h0 (fun i σ' H' hi p => hs i σ' H' (by omega) p) hd⟩
theorem loopL {a : Addr} {xs : List V} (Pv : Nat → L2.St → Hp → Prop) (h0 : Pv 0 σ H) (hl : ∀ i σ' H', i ≤ xs.length → Pv i σ' H' → SqL K H' a xs)
    (hs : ∀ i x σ' H', xs[i]? = some x → Pv i σ' H' → g x σ' H' fun σ2 H2 => ts { D with nx := Pv (i + 1), ct := Pv (i + 1), bk := D.nx } σ2 H2) (hd : ∀ σ' H', Pv xs.length σ' H' → D.nx σ' H') : LoopL K (.ref a) g ts D σ H :=
  ⟨a, rfl, ⟨xs, hl 0 σ H (Nat.zero_le _) h0⟩, for_list Pv h0 hl hs hd⟩
theorem loopT {a : Addr} {xs : List V} (Pv : Nat → L2.St → Hp → Prop) (h0 : Pv 0 σ H) (hl : ∀ i σ' H', i ≤ xs.length → Pv i σ' H' → SqT K H' a xs)
    (hs : ∀ i x σ' H', xs[i]? = some x → Pv i σ' H' → g x σ' H' fun σ2 H2 => ts { D with nx := Pv (i + 1), ct := Pv (i + 1), bk := D.nx } σ2 H2) (hd : ∀ σ' H', Pv xs.length σ' H' → D.nx σ' H') : LoopT K (.ref a) g ts D σ H :=
  ⟨a, rfl, ⟨xs, hl 0 σ H (Nat.zero_le _) h0⟩, for_tup Pv h0 hl hs hd⟩
/-- while: the test is read, then the turn or the end -/
def WNext (Pv : Nat → L2.St → Hp → Prop) (m : Nat) (ts : TS) (D : Ends) (σ : L2.St) (H : Hp) : Prop := ∃ N : L2.St → Hp → Prop, (∀ σ' H', N σ' H' → ∃ m', m' < m ∧ Pv m' σ' H') ∧ ts { D with nx := N, ct := N, bk := D.nx } σ H
theorem wnext {Pv : Nat → L2.St → Hp → Prop} {m : Nat} (q : ts { D with nx := fun σ2 H2 => ∃ m', m' < m ∧ Pv m' σ2 H2, ct := fun σ2 H2 => ∃ m', m' < m ∧ Pv m' σ2 H2, bk := D.nx } σ H) : WNext Pv m ts D σ H := ⟨_, fun _ _ z => z, q⟩
theorem r_while {c : TT} (Pv : Nat → L2.St → Hp → Prop) (m0 : Nat) (h0 : Pv m0 σ H)
    (hs : ∀ m σ' H', Pv m σ' H' → c σ' H' fun b H1 => if b = true then WNext Pv m ts D σ' H1 else D.nx σ' H1) : tWhile c ts D σ H := ⟨Pv, ⟨m0, h0⟩, hs⟩
/-! comprehensions -/
def Comp (J : It) (g : TG) (tt : TT) (te : TE) (vs : List Nat) (σ : L2.St) (H1 : Hp) (Q : VK) : Prop := ∀ D, H1 D = none → ∃ W : Nat → Nat → Hp → Prop, (∃ m, W 0 m (upd H1 D (.lst []))) ∧ ∀ i m H, W i m H →
  (J.stop i H ∧ Q (.ref D) H) ∨ (J.go i H ∧ ∃ Nx : Hp → Prop, (∀ H', Nx H' → ∃ m', m' < m ∧ W (i + 1) m' H') ∧ ∀ x H', J.yld i H x H' → g x (wipe σ vs) H' fun σ2 H2 => wipe σ2 vs = wipe σ vs ∧ tt σ2 H2 fun b H3 =>
    if b = true then te σ2 H3 fun y H4 => ∃ acc, H4 D = some (.lst acc) ∧ acc.length < sizeLine ∧ Nx (upd H4 D (.lst (acc ++ [y]))) else Nx H3)
def CompR1 (ws : List V) (g : TG) (tt : TT) (te : TE) (vs : List Nat) (σ : L2.St) (H : Hp) (Q : VK) : Prop := ∃ n : Int, ws = [.int n] ∧ -(2 ^ 62) ≤ n ∧ n < 2 ^ 62 ∧ Comp (Itr 0 n.toNat) g tt te vs σ H Q
def CompR2 (ws : List V) (g : TG) (tt : TT) (te : TE) (vs : List Nat) (σ : L2.St) (H : Hp) (Q : VK) : Prop := ∃ m n : Int, ws = [.int m, .int n] ∧ (-(2 ^ 62) ≤ m ∧ m < 2 ^ 62 ∧ -(2 ^ 62) ≤ n ∧ n < 2 ^ 62) ∧ Comp (Itr m (n - m).toNat) g tt te vs σ H Q
def CompL (K : PySem.W.Frag) (w : V) (g : TG) (tt : TT) (te : TE) (vs : List Nat) (σ : L2.St) (H : Hp) (Q : VK) : Prop := ∃ a, w = .ref a ∧ (∃ xs, SqL K H a xs) ∧ Comp (Itl K a) g tt te vs σ H Q
def CompT (K : PySem.W.Frag) (w : V) (g : TG) (tt : TT) (te : TE) (vs : List Nat) (σ : L2.St) (H : Hp) (Q : VK) : Prop := ∃ a, w = .ref a ∧ (∃ xs, SqT K H a xs) ∧ Comp (Itt K a) g tt te vs σ H Q
theorem r_lcR1 {ta : TA} (q : ta σ H fun ws H1 => CompR1 ws g tt te vs σ H1 Q) : tLc (iRng1 ta) g tt te vs σ H Q := q
theorem r_lcR2 {ta : TA} (q : ta σ H fun ws H1 => CompR2 ws g tt te vs σ H1 Q) : tLc (iRng2 ta) g tt te vs σ H Q := q
theorem r_lcL (q : ta σ H fun w H1 => CompL K w g tt te vs σ H1 Q) : tLc (iList K ta) g tt te vs σ H Q := q
theorem r_lcT (q : ta σ H fun w H1 => CompT K w g tt te vs σ H1 Q) : tLc (iTup K ta) g tt te vs σ H Q := q
/-- a turn's end: the item y goes onto the new list -/
def CNext (D : Addr) (P : Nat → List V → Hp → Prop) (i : Nat) : VK := fun y H4 => ∃ acc, H4 D = some (.lst acc) ∧ acc.length < sizeLine ∧ ∃ acc', P (i + 1) acc' (upd H4 D (.lst (acc ++ [y]))) ∧ (upd H4 D (.lst (acc ++ [y]))) D = some (.lst acc') ∧ acc'.length = i + 1
theorem cnext {D' : Addr} {P : Nat → List V → Hp → Prop} {acc : List V} (h : H D' = some (.lst acc)) (hl : acc.length = i) (hi : i ≤ 100000) (p : P (i + 1) (acc ++ [y]) (upd H D' (.lst (acc ++ [y])))) : CNext D' P i y H :=
  ⟨acc, h, Nat.lt_of_le_of_lt (show acc.length ≤ 100000 by omega) (by decide), acc ++ [y], p, upd_same, by rw [List.length_append, hl]; rfl⟩
/-- no test; P: the new list's address, the turn, what it holds, the heap -/
theorem compR1 {n : Int} (hn : n ≤ 100000) (P : Addr → Nat → List V → Hp → Prop) (h0 : ∀ D, H D = none → P D 0 [] (upd H D (.lst [])))
    (hs : ∀ D (i : Nat) acc H', H D = none → (i : Int) < n → P D i acc H' → H' D = some (.lst acc) → acc.length = i → te ((wipe σ vs).set j (some (.int (i : Int)))) H' (CNext D (P D) i))
    (hd : ∀ D acc H', H D = none → P D n.toNat acc H' → H' D = some (.lst acc) → acc.length = n.toNat → Q (.ref D) H')
    (hw : ∀ x, wipe ((wipe σ vs).set j (some x)) vs = wipe σ vs := by intro _; rfl) (h2 : -(2 ^ 62) ≤ n := by omega) : CompR1 [.int n] (gName j) tYes te vs σ H Q := by
  refine ⟨n, rfl, h2, by omega, fun D hD => lc_range (lo := 0) (n := n.toNat) (fun i H' => ∃ acc, P D i acc H' ∧ H' D = some (.lst acc) ∧ acc.length = i) ⟨[], h0 D hD, upd_same, rfl⟩ (fun i H' hi p => ?_) (fun H' p => ?_)⟩
  · obtain ⟨acc, p, hD', hl⟩ := p
    have e0 : (0 : Int) + (i : Int) = (i : Int) := Int.zero_add _
    show wipe ((wipe σ vs).set j (some (.int ((0 : Int) + (i : Int))))) vs = wipe σ vs ∧ tYes ((wipe σ vs).set j (some (.int ((0 : Int) + (i : Int))))) H' _
    rw [e0]
    exact ⟨hw _, hs D i acc H' hD (by omega) p hD' hl⟩
  · obtain ⟨acc, p, hD', hl⟩ := p
    exact hd D acc H' hD p hD' hl
theorem compR2 {m n : Int} (hm : -(2 ^ 62) ≤ m ∧ m < 2 ^ 62 ∧ -(2 ^ 62) ≤ n ∧ n < 2 ^ 62) (hn : n - m ≤ 100000) (P : Addr → Nat → List V → Hp → Prop) (h0 : ∀ D, H D = none → P D 0 [] (upd H D (.lst [])))
    (hs : ∀ D (i : Nat) acc H', H D = none → m + (i : Int) < n → P D i acc H' → H' D = some (.lst acc) → acc.length = i → te ((wipe σ vs).set j (some (.int (m + (i : Int))))) H' (CNext D (P D) i))
    (hd : ∀ D acc H', H D = none → P D (n - m).toNat acc H' → H' D = some (.lst acc) → acc.length = (n - m).toNat → Q (.ref D) H')
    (hw : ∀ x, wipe ((wipe σ vs).set j (some x)) vs = wipe σ vs := by intro _; rfl) : CompR2 [.int m, .int n] (gName j) tYes te vs σ H Q := by
  refine ⟨m, n, rfl, hm, fun D hD => lc_range (lo := m) (n := (n - m).toNat) (fun i H' => ∃ acc, P D i acc H' ∧ H' D = some (.lst acc) ∧ acc.length = i) ⟨[], h0 D hD, upd_same, rfl⟩ (fun i H' hi p => ?_) (fun H' p => ?_)⟩
  · obtain ⟨acc, p, hD', hl⟩ := p
    exact ⟨hw _, hs D i acc H' hD (by omega) p hD' hl⟩
  · obtain ⟨acc, p, hD', hl⟩ := p
    exact hd D acc H' hD p hD' hl
theorem compL {a : Addr} {xs : List V} (hx : xs.length ≤ 100000) (P : Addr → Nat → List V → Hp → Prop) (hsq : SqL K H a xs) (h0 : ∀ D, H D = none → P D 0 [] (upd H D (.lst []))) (hl : ∀ D i acc H', H D = none → P D i acc H' → SqL K H' a xs)
    (hs : ∀ D i x acc H', H D = none → xs[i]? = some x → i < xs.length → P D i acc H' → H' D = some (.lst acc) → acc.length = i → g x (wipe σ vs) H' fun σ2 H2 => wipe σ2 vs = wipe σ vs ∧ te σ2 H2 (CNext D (P D) i))
    (hd : ∀ D acc H', H D = none → P D xs.length acc H' → H' D = some (.lst acc) → acc.length = xs.length → Q (.ref D) H') : CompL K (.ref a) g tYes te vs σ H Q := by
  refine ⟨a, rfl, ⟨xs, hsq⟩, fun D hD => lc_list (K := K) (a := a) (xs := xs) (fun i H' => ∃ acc, P D i acc H' ∧ H' D = some (.lst acc) ∧ acc.length = i) ⟨[], h0 D hD, upd_same, rfl⟩ (fun i H' _ p => ?_) (fun i x H' hi p => ?_) (fun H' p => ?_)⟩
  · obtain ⟨acc, p, _⟩ := p
    exact hl D i acc H' hD p
  · obtain ⟨acc, p, hD', hlen⟩ := p
    exact hs D i x acc H' hD hi (List.getElem?_eq_some_iff.mp hi).1 p hD' hlen
  · obtain ⟨acc, p, hD', hlen⟩ := p
    exact hd D acc H' hD p hD' hlen
theorem compT {a : Addr} {xs : List V} (hx : xs.length ≤ 100000) (P : Addr → Nat → List V → Hp → Prop) (hsq : SqT K H a xs) (h0 : ∀ D, H D = none → P D 0 [] (upd H D (.lst []))) (hl : ∀ D i acc H', H D = none → P D i acc H' → SqT K H' a xs)
    (hs : ∀ D i x acc H', H D = none → xs[i]? = some x → i < xs.length → P D i acc H' → H' D = some (.lst acc) → acc.length = i → g x (wipe σ vs) H' fun σ2 H2 => wipe σ2 vs = wipe σ vs ∧ te σ2 H2 (CNext D (P D) i))
    (hd : ∀ D acc H', H D = none → P D xs.length acc H' → H' D = some (.lst acc) → acc.length = xs.length → Q (.ref D) H') : CompT K (.ref a) g tYes te vs σ H Q := by
  refine ⟨a, rfl, ⟨xs, hsq⟩, fun D hD => lc_tup (K := K) (a := a) (xs := xs) (fun i H' => ∃ acc, P D i acc H' ∧ H' D = some (.lst acc) ∧ acc.length = i) ⟨[], h0 D hD, upd_same, rfl⟩ (fun i H' _ p => ?_) (fun i x H' hi p => ?_) (fun H' p => ?_)⟩
  · obtain ⟨acc, p, _⟩ := p
    exact hl D i acc H' hD p
  · obtain ⟨acc, p, hD', hlen⟩ := p
    exact hs D i x acc H' hD hi (List.getElem?_eq_some_iff.mp hi).1 p hD' hlen
  · obtain ⟨acc, p, hD', hlen⟩ := p
    exact hd D acc H' hD p hD' hlen
end
section
variable {K : PySem.W.Frag} {σ : L2.St} {H : Hp} {te : TE} {Q : VK} {D : Ends} {v x y : V} {ts : TS} {g : TG} {a b : Addr} {xs ys : List V}
def LoopZ (K : PySem.W.Frag) (ws : List V) (g : TG) (ts : TS) (D : Ends) (σ : L2.St) (H : Hp) : Prop := ∃ a b xs ys, ws = [.ref a, .ref b] ∧ SqL K H a xs ∧ SqL K H b ys ∧ Turns (Itz K a b) g ts D σ H
theorem r_forZ {ta : TA} (q : ta σ H fun ws H1 => LoopZ K ws g ts D σ H1) : tFor (iZip K ta) g ts D σ H := q
theorem loopZ (hl : xs.length = ys.length) (Pv : Nat → L2.St → Hp → Prop) (h0 : Pv 0 σ H) (hq : ∀ i σ H, Pv i σ H → SqL K H a xs ∧ SqL K H b ys)
    (hs : ∀ (i : Nat) (x y : V) (T : Addr) (σ : L2.St) (H : Hp), xs[i]? = some x → ys[i]? = some y → Pv i σ H → H T = none → g (.ref T) σ (upd H T (.tup [x, y])) fun σ2 H2 => ts { D with nx := Pv (i + 1), ct := Pv (i + 1), bk := D.nx } σ2 H2) (hd : ∀ σ H, Pv xs.length σ H → D.nx σ H) :
    LoopZ K [.ref a, .ref b] g ts D σ H := ⟨a, b, xs, ys, rfl, (hq _ _ _ h0).1, (hq _ _ _ h0).2, RZ.for_zipL hl Pv h0 hq hs hd⟩
theorem r_sl {r : V → Option Int → Option Int → Hp → VK → Prop} {tl th : TO} (q : te σ H fun x H1 => tl σ H1 fun l H2 => th σ H2 fun u H3 => r x l u H3 Q) : tSl r te tl th σ H Q := q
theorem r_noPart {R : Option Int → Hp → Prop} (q : R none H) : tNoPart σ H R := q
theorem r_part {R : Option Int → Hp → Prop} (q : te σ H fun x H1 => ∃ i, x = .int i ∧ R (some i) H1) : tPart te σ H R := q
theorem r_partI {n : Int} {R : Int → Prop} (q : R n) : ∃ i, V.int n = .int i ∧ R i := ⟨n, rfl, q⟩
theorem r_slT {lo hi : Option Int} (h : SqT K H a xs) (hw : ¬ (HT.sIx xs.length 0 lo = 0 ∧ HT.sIx xs.length xs.length hi = xs.length)) (q : ∀ p, H p = none → Q (.ref p) (upd H p (.tup (cutV xs lo hi)))) : rSlA K (.ref a) lo hi H Q := ⟨a, xs, rfl, h, fun z => absurd z hw, fun _ => q⟩
/-- a part of a tuple, whatever object it is -/
theorem r_slA {lo hi : Option Int} (h : SqT K H a xs) (q : ∀ p H', Same H H' → SqT K H' p (cutV xs lo hi) → Q (.ref p) H') : rSlA K (.ref a) lo hi H Q := by
  refine ⟨a, xs, rfl, h, fun hw => q a H (fun _ _ z => z) ?_, fun _ p hp => q p _ (fun c o e => ?_) (SqT.of upd_same)⟩
  · have e : cutV xs lo hi = xs := by
      unfold cutV
      rw [hw.1, hw.2, List.drop_zero, Nat.sub_zero, List.take_length]
    rw [e]; exact h
  · rw [upd_ne (ne_of_none e hp)]; exact e
theorem r_catA (h : SqT K H a xs) (h' : SqT K H b ys) (hl : xs.length + ys.length ≤ 1000) (q : ∀ p H', Same H H' → SqT K H' p (xs ++ ys) → Q (.ref p) H') : rCatA K (.ref a) (.ref b) H Q := by
  refine ⟨a, b, xs, ys, rfl, rfl, h, h', Nat.le_trans hl (by decide), fun e => q b H (fun _ _ z => z) ?_, fun _ e => q a H (fun _ _ z => z) ?_, fun _ _ p hp => q p _ (fun c o e => ?_) (SqT.of upd_same)⟩
  · rw [e]; exact h'
  · rw [e, List.append_nil]; exact h
  · rw [upd_ne (ne_of_none e hp)]; exact e
end
end G
/-! ### rules with the written part K said -/
namespace G
open PySem PySem.Spec PyProof.Rows L2
section
variable {X : Cx} {K : PySem.W.Frag}
theorem kIxL (h : X.K = K := by rfl) : IxR X (rIxL K) := h ▸ ix_list
theorem kIxT (h : X.K = K := by rfl) : IxR X (rIxT K) := h ▸ ix_tup
theorem kLen (h : X.K = K := by rfl) : CallR X (.builtin "len") (rLn K) := h ▸ cLen
theorem kLstOf (h : X.K = K := by rfl) : CallR X (.type "list") (rLstOf K) := h ▸ cLstOf
theorem kTupOf (h : X.K = K := by rfl) : CallR X (.type "tuple") (rTupOf K) := h ▸ cTupOf
theorem kIsi (h : X.K = K := by rfl) : CallR X (.builtin "isinstance") (rIsi K) := h ▸ call_isi
theorem kIsiT (h : X.K = K := by rfl) : CallR X (.builtin "isinstance") (rIsiT K) := h ▸ call_isiT
theorem kSum (hc : X.calm = true) (h : X.K = K := by rfl) : CallR X (.builtin "sum") (rSum K) := h ▸ cr_sum hc
theorem kAll (hc : X.calm = true) (h : X.K = K := by rfl) : CallR X (.builtin "all") (rAll K) := h ▸ cr_all hc
theorem kAny (hc : X.calm = true) (h : X.K = K := by rfl) : CallR X (.builtin "any") (rAny K) := h ▸ cr_any hc
theorem kMaxL (hc : X.calm = true) (h : X.K = K := by rfl) : CallR X (.builtin "max") (rMax K) := h ▸ cr_max hc
theorem kMinL (hc : X.calm = true) (h : X.K = K := by rfl) : CallR X (.builtin "min") (rMin K) := h ▸ cr_min hc
theorem kEqD (hu : X.A.units + 64 < cLine) (h : X.K = K := by rfl) : OpR X (compareOp .Eq) (rEqD K) := h ▸ op_eqD hu
theorem kNeD (hu : X.A.units + 64 < cLine) (h : X.K = K := by rfl) : OpR X (compareOp .NotEq) (rNeD K) := h ▸ op_neD hu
theorem kIn (h : X.K = K := by rfl) : OpR X (compareOp .In) (rIn K false) := h ▸ op_in_seq
theorem kNotIn (h : X.K = K := by rfl) : OpR X (compareOp .NotIn) (rIn K true) := h ▸ op_notIn_seq
theorem kLtT (hu : X.A.units < cLine) (h : X.K = K := by rfl) : OpR X (compareOp .Lt) (rLtT K) := h ▸ op_ltT hu
theorem kLeT (hu : X.A.units < cLine) (h : X.K = K := by rfl) : OpR X (compareOp .LtE) (rLeT K) := h ▸ op_leT hu
theorem kCatT (h : X.K = K := by rfl) : OpR X (binaryOp .Add) (rCatA K) := h ▸ op_catA
theorem kSlT (h : X.K = K := by rfl) : SlR X (rSlA K) := h ▸ sl_tupA
theorem kSlL (h : X.K = K := by rfl) : SlR X (rSlL K) := h ▸ sl_list
theorem kTru {a : Expr} {ta : TE} (ha : PE X a ta) (h : X.K = K := by rfl) (he : ∀ whole, isTrue a X.env whole = (do let v ← whole; standAt a.pos; holding [v] (truthy v)) := by intro _; rfl) : PT X a (tTru K ta) := h ▸ pt_tru ha he
theorem kpiL {tg l : Expr} {tl : TE} (hl : PE X l tl) (h : X.K = K := by rfl) : PI X tg l (iList K tl) := h ▸ pi_list hl
theorem kpiT {tg l : Expr} {tl : TE} (hl : PE X l tl) (h : X.K = K := by rfl) : PI X tg l (iTup K tl) := h ▸ pi_tup hl
theorem kpiEnum {e : Expr} {ta : TA} {p pos tpos : Pos} {elts : List Expr} {kk : Nat} (hg : Gl X "enumerate") (hm : X.mg "enumerate" = none) (ha : PA X [e] ta) (h : X.K = K := by rfl) (hs : starEach [e] X.env = [(false, eval e X.env)] := by rfl) :
    PI X (.Tuple elts kk tpos) (.Call (.Name "enumerate" p) [e] [] pos) (iEnum K ta) := h ▸ pi_enum hg hm ha hs
theorem kpiZip {e e2 : Expr} {ta : TA} {p pos tpos : Pos} {elts : List Expr} {kk : Nat} (hg : Gl X "zip") (hm : X.mg "zip" = none) (ha : PA X [e, e2] ta) (h : X.K = K := by rfl)
    (hs : starEach [e, e2] X.env = (false, eval e X.env) :: starEach [e2] X.env := by rfl) (hpl : (backTo pos (starEach [e2] X.env)).any (·.1) = false := by rfl) :
    PI X (.Tuple elts kk tpos) (.Call (.Name "zip" p) [e, e2] [] pos) (iZip K ta) := h ▸ pi_zip hg hm ha hs hpl
theorem kpgTup {es : List Expr} {k : Nat} {t : TGs} {n : Nat} {pos : Pos} (hc : X.calm = true) (h : PGs X es t) (hK : X.K = K := by rfl)
    (hn : (assignEach es X.env).length = n := by rfl) (hst : (assignEach es X.env).findIdx? (·.1) = none := by rfl) : PG X (.Tuple es k pos) (gTup K n t) := hK ▸ pg_tup hc h hn hst
theorem kFld {o : Expr} {ta : TE} {f : Str} {p : Pos} (h : PE X (.Attribute o f p) (tFld X.K ta f)) (hK : X.K = K := by rfl) : PE X (.Attribute o f p) (tFld K ta f) := hK ▸ h
theorem kBM {e : Expr} {T : String} {r : V → List V → Hp → VK → Prop} {to : TE} {t : TA} (h : PE X e (tBM X.K T r to t)) (hK : X.K = K := by rfl) : PE X e (tBM K T r to t) := hK ▸ h
end
end G
namespace G
open PySem PySem.Spec PyProof.Rows L2
theorem kBM0 {X : Cx} {K : PySem.W.Frag} {e : Expr} {T : String} {r : V → List V → Hp → VK → Prop} {to : TE} (h : PE X e (tBM0 X.K T r to)) (hK : X.K = K := by rfl) : PE X e (tBM0 K T r to) := hK ▸ h
theorem kSFld {X : Cx} {K : PySem.W.Frag} {st : Stmt} {ta tv : TE} {f : Str} (h : PS X st (sFld X.K ta tv f)) (hK : X.K = K := by rfl) : PS X st (sFld K ta tv f) := hK ▸ h
end G
/-! ### data with a Lean type, at the layer's level -/
namespace G
open PySem PySem.Spec PyProof.Rows L2 PySem.W
/-- v holds x -/
def Hd {α : Type} [DecidableEq α] [Datum α] (K : PySem.W.Frag) (H : Hp) (v : V) (x : α) : Prop := Dp K H v (Datum.toD x)
def Hds {α : Type} [DecidableEq α] [Datum α] (K : PySem.W.Frag) (H : Hp) (vs : List V) (xs : List α) : Prop := DpAll K H vs (xs.map Datum.toD)
class Lay (α : Type) [DecidableEq α] [Datum α] : Prop where
  lay : ∀ a : α, (Datum.toD a).canLay0 = true
instance : Lay Int := ⟨fun _ => rfl⟩
instance : Lay Bool := ⟨fun _ => rfl⟩
instance : Lay Unit := ⟨fun _ => rfl⟩
section
variable {α β : Type} [DecidableEq α] [Datum α] [DecidableEq β] [Datum β]
theorem layAll [Lay α] : ∀ xs : List α, PyData.canLayAll0 (xs.map Datum.toD) = true
  | [] => rfl
  | x :: xs => by
    rw [List.map_cons, PyData.canLayAll0, Lay.lay x, layAll xs] <;> rfl
instance [Lay α] : Lay (List α) := ⟨fun xs => layAll xs⟩
instance [Lay α] : Lay (Tup α) := ⟨fun t => layAll t.items⟩
instance [Lay α] [Lay β] : Lay (α × β) := ⟨fun p => by
  show PyData.canLayAll0 [Datum.toD p.1, Datum.toD p.2] = true
  rw [PyData.canLayAll0, PyData.canLayAll0, Lay.lay p.1, Lay.lay p.2] <;> rfl⟩
theorem shapedD [Lay α] (x : α) (h : Datum.depth α ≤ 64) : SeqAt.shaped (Datum.toD x) = true := by
  unfold SeqAt.shaped
  rw [Lay.lay x, decide_eq_true (Nat.le_trans (Datum.depth_le x) h)] <;> rfl
end
section
variable {K : PySem.W.Frag} {H H' : Hp} {α β : Type} [DecidableEq α] [Datum α] [DecidableEq β] [Datum β]
mutual
theorem Dp.same (s : Same H H') : ∀ (d : PyData) (v : V), Dp K H v d → Dp K H' v d
  | .none, _, h => by cases h; exact .non
  | .bool b, _, h => by cases h; exact .bl b
  | .int i, _, h => by cases h; exact .int i
  | .str x, _, h => by cases h; exact .str x
  | .list ds, _, h => by
    cases h with
    | lst hs ha => exact .lst (s.seq hs) (DpAll.same s ds _ ha)
  | .tuple ds, _, h => by
    cases h with
    | tup hs ha =>
      refine .tup ?_ (DpAll.same s ds _ ha)
      rcases hs with (hs | ⟨o, hs⟩) | hs
      · exact .inl (.inl (s _ _ hs))
      · exact .inl (.inr ⟨o, s _ _ hs⟩)
      · exact .inr hs
  | .dict _, _, h => by cases h
theorem DpAll.same (s : Same H H') : ∀ (ds : List PyData) (vs : List V), DpAll K H vs ds → DpAll K H' vs ds
  | [], _, h => by cases h; exact .nil
  | d :: ds, _, h => by
    cases h with
    | cons h1 h2 => exact .cons (Dp.same s d _ h1) (DpAll.same s ds _ h2)
end
theorem Hd.same {v : V} {x : α} (h : Hd K H v x) (s : Same H H') : Hd K H' v x := Dp.same s _ _ h
theorem Hds.same {vs : List V} {xs : List α} (h : Hds K H vs xs) (s : Same H H') : Hds K H' vs xs := DpAll.same s _ _ h
/-- no tuple stands at l -/
def NotT (H : Hp) (l : Addr) : Prop := (∀ xs, H l ≠ some (.tup xs)) ∧ ∀ o xs, H l ≠ some (.frz o (.tup xs))
theorem notT_lst {l : Addr} (h : ∃ xs, H l = some (.lst xs)) : NotT H l := by
  obtain ⟨xs, h⟩ := h
  exact ⟨fun _ z => (by rw [h] at z; cases z), fun _ _ z => (by rw [h] at z; cases z)⟩
theorem notT_ins {l C dx : Addr} {fs : List (Str × V)} (h : H l = some (.ins C dx fs)) : NotT H l := ⟨fun _ z => (by rw [h] at z; cases z), fun _ _ z => (by rw [h] at z; cases z)⟩
theorem notT_none {l : Addr} (h : H l = none) : NotT H l := ⟨fun _ z => (by rw [h] at z; cases z), fun _ _ z => (by rw [h] at z; cases z)⟩
/-- no list within -/
class Imm (α : Type) [DecidableEq α] [Datum α] : Prop where
  imm : ∀ {K : PySem.W.Frag} {l : Addr} {H H' : Hp} {v : V} (a : α), Kp l H H' → NotT H l → Hd K H v a → Hd K H' v a
theorem sqT_kpT {l a : Addr} {xs : List V} (k : Kp l H H') (hl : NotT H l) (h : SqT K H a xs) : SqT K H' a xs := by
  rcases h with (h | ⟨o, h⟩) | h
  · exact .inl (.inl (k _ _ (fun z => by subst z; exact hl.1 _ h) h))
  · exact .inl (.inr ⟨o, k _ _ (fun z => by subst z; exact hl.2 _ _ h) h⟩)
  · exact .inr h
theorem sqT_kp {l a : Addr} {xs : List V} (k : Kp l H H') (hl : ∃ xs, H l = some (.lst xs)) (h : SqT K H a xs) : SqT K H' a xs := sqT_kpT k (notT_lst hl) h
instance : Imm Int := ⟨fun i _ _ h => by cases h; exact .int i⟩
instance : Imm Bool := ⟨fun i _ _ h => by cases h; exact .bl i⟩
instance : Imm Unit := ⟨fun _ _ _ h => by cases h; exact .non⟩
instance : Imm Str := ⟨fun i _ _ h => by cases h; exact .str i⟩
theorem immsT [Imm α] {l : Addr} (k : Kp l H H') (hl : NotT H l) : ∀ {xs : List α} {vs : List V}, Hds K H vs xs → Hds K H' vs xs
  | [], _, h => by cases h; exact .nil
  | x :: xs, _, h => by
    cases h with
    | cons h1 h2 => exact .cons (Imm.imm x k hl h1) (immsT (xs := xs) k hl h2)
theorem imms [Imm α] {l : Addr} (k : Kp l H H') (hl : ∃ xs, H l = some (.lst xs)) {xs : List α} {vs : List V} (h : Hds K H vs xs) : Hds K H' vs xs := immsT k (notT_lst hl) h
instance [Imm α] : Imm (Tup α) := ⟨fun t k hl h => by
  cases h with
  | tup hs ha => exact .tup (sqT_kpT k hl hs) (immsT (xs := t.items) k hl ha)⟩
instance [Imm α] [Imm β] : Imm (α × β) := ⟨fun p k hl h => by
  cases h with
  | tup hs ha =>
    cases ha with
    | cons h1 h2 =>
      cases h2 with
      | cons h2 h3 =>
        cases h3
        exact .tup (sqT_kpT k hl hs) (.cons (Imm.imm p.1 k hl h1) (.cons (Imm.imm p.2 k hl h2) .nil))⟩
theorem sqT_dr {l a : Addr} {xs : List V} (h : SqT K H a xs) (k : Kp l H H') (d : DrAt H l) : SqT K H' a xs := by
  obtain ⟨x, y, e, _⟩ := d
  exact sqT_kp k ⟨_, e⟩ h
theorem Hd.kp [Imm α] {l : Addr} {v : V} {x : α} (h : Hd K H v x) (k : Kp l H H') (d : DrAt H l) : Hd K H' v x := by
  obtain ⟨a, b, e, _⟩ := d
  exact Imm.imm x k (notT_lst ⟨_, e⟩) h
theorem Hds.kp [Imm α] {l : Addr} {vs : List V} {xs : List α} (h : Hds K H vs xs) (k : Kp l H H') (d : DrAt H l) : Hds K H' vs xs := by
  obtain ⟨a, b, e, _⟩ := d
  exact imms k ⟨_, e⟩ h
/-! how it is known, what it gives -/
theorem hd_int {i : Int} : Hd K H (.int i) i := .int i
theorem hd_bool {b : Bool} : Hd K H (.bl b) b := .bl b
theorem hd_list {a : Addr} {vs : List V} {xs : List α} (h : SqL K H a vs) (r : Hds K H vs xs) : Hd K H (.ref a) xs := .lst h r
theorem hd_tup {a : Addr} {vs : List V} {xs : List α} (h : SqT K H a vs) (r : Hds K H vs xs) : Hd K H (.ref a) (⟨xs⟩ : Tup α) := .tup h r
theorem hd_pair {a : Addr} {v w : V} {x : α} {y : β} (h : SqT K H a [v, w]) (r : Hd K H v x) (q : Hd K H w y) : Hd K H (.ref a) (x, y) := .tup h (.cons r (.cons q .nil))
theorem hds_nil : Hds K H [] ([] : List α) := .nil
theorem hds_cons {v : V} {vs : List V} {x : α} {xs : List α} (h : Hd K H v x) (r : Hds K H vs xs) : Hds K H (v :: vs) (x :: xs) := .cons h r
theorem hds_ints : ∀ ns : List Int, Hds K H (ns.map V.int) ns
  | [] => .nil
  | n :: ns => .cons (.int n) (hds_ints ns)
theorem Hd.int_eq {v : V} {i : Int} (h : Hd K H v i) : v = .int i := by cases h; rfl
theorem Hd.bool_eq {v : V} {b : Bool} (h : Hd K H v b) : v = .bl b := by cases h; rfl
theorem Hd.list_of {v : V} {xs : List α} (h : Hd K H v xs) : ∃ a vs, v = .ref a ∧ SqL K H a vs ∧ Hds K H vs xs := by
  cases h with
  | lst hs ha => exact ⟨_, _, rfl, hs, ha⟩
theorem Hd.tup_of {v : V} {t : Tup α} (h : Hd K H v t) : ∃ a vs, v = .ref a ∧ SqT K H a vs ∧ Hds K H vs t.items := by
  cases h with
  | tup hs ha => exact ⟨_, _, rfl, hs, ha⟩
theorem Hd.pair_of {v : V} {p : α × β} (h : Hd K H v p) : ∃ a x y, v = .ref a ∧ SqT K H a [x, y] ∧ Hd K H x p.1 ∧ Hd K H y p.2 := by
  cases h with
  | tup hs ha =>
    cases ha with
    | cons h1 h2 =>
      cases h2 with
      | cons h2 h3 =>
        cases h3
        exact ⟨_, _, _, rfl, hs, h1, h2⟩
theorem Hd.pt_of {v : V} {p : Int × Int} (h : Hd K H v p) : ∃ a, v = .ref a ∧ SqT K H a [.int p.1, .int p.2] := by
  obtain ⟨a, x, y, rfl, hs, h1, h2⟩ := h.pair_of
  rw [h1.int_eq, h2.int_eq] at hs
  exact ⟨a, rfl, hs⟩
theorem Hds.ints_eq : ∀ {vs : List V} {ns : List Int}, Hds K H vs ns → vs = ns.map V.int
  | _, [], h => by cases h; rfl
  | _, n :: ns, h => by
    cases h with
    | cons h1 h2 =>
      have e1 := Hd.int_eq (i := n) h1
      have e2 := Hds.ints_eq (ns := ns) h2
      rw [e1, e2]; rfl
theorem Hds.bools_eq : ∀ {vs : List V} {ns : List Bool}, Hds K H vs ns → vs = ns.map V.bl
  | _, [], h => by cases h; rfl
  | _, n :: ns, h => by
    cases h with
    | cons h1 h2 =>
      have e1 := Hd.bool_eq (b := n) h1
      have e2 := Hds.bools_eq (ns := ns) h2
      rw [e1, e2]; rfl
theorem hds_bools : ∀ ns : List Bool, Hds K H (ns.map V.bl) ns
  | [] => .nil
  | n :: ns => .cons (.bl n) (hds_bools ns)
theorem Hds.length : ∀ {vs : List V} {xs : List α}, Hds K H vs xs → vs.length = xs.length
  | _, [], h => by cases h; rfl
  | _, _ :: xs, h => by
    cases h with
    | cons h1 h2 => exact congrArg (· + 1) (Hds.length (xs := xs) h2)
theorem Hds.at : ∀ {vs : List V} {xs : List α} {i : Nat} {x : α}, Hds K H vs xs → xs[i]? = some x → ∃ v, vs[i]? = some v ∧ Hd K H v x
  | _, [], _, _, _, e => by simp at e
  | _, y :: xs, i, x, h, e => by
    cases h with
    | cons h1 h2 =>
      cases i with
      | zero =>
        have e' : y = x := by simpa using e
        subst e'
        exact ⟨_, rfl, h1⟩
      | succ i =>
        obtain ⟨v, e1, e2⟩ := Hds.at (xs := xs) (i := i) (x := x) h2 (by simpa using e)
        exact ⟨v, by simpa using e1, e2⟩
theorem Hds.at' {vs : List V} {xs : List α} {i : Nat} {v : V} (h : Hds K H vs xs) (e : vs[i]? = some v) : ∃ x, xs[i]? = some x ∧ Hd K H v x := by
  have hl := h.length
  have hi : i < vs.length := (List.getElem?_eq_some_iff.mp e).1
  obtain ⟨w, e1, e2⟩ := h.at (i := i) (x := xs[i]'(by omega)) (by simp)
  rw [e] at e1
  cases e1
  exact ⟨_, by simp, e2⟩
theorem Hds.append : ∀ {vs ws : List V} {xs ys : List α}, Hds K H vs xs → Hds K H ws ys → Hds K H (vs ++ ws) (xs ++ ys)
  | _, _, [], _, h, q => by cases h; exact q
  | _, _, x :: xs, _, h, q => by
    cases h with
    | cons h1 h2 => exact .cons h1 (Hds.append (xs := xs) h2 q)
theorem Hds.take : ∀ {vs : List V} {xs : List α} (n : Nat), Hds K H vs xs → Hds K H (vs.take n) (xs.take n)
  | _, _, 0, _ => .nil
  | _, [], n + 1, h => by cases h; exact .nil
  | _, x :: xs, n + 1, h => by
    cases h with
    | cons h1 h2 => exact .cons h1 (Hds.take (xs := xs) n h2)
theorem Hds.drop : ∀ {vs : List V} {xs : List α} (n : Nat), Hds K H vs xs → Hds K H (vs.drop n) (xs.drop n)
  | _, _, 0, h => h
  | _, [], n + 1, h => by cases h; exact .nil
  | _, x :: xs, n + 1, h => by
    cases h with
    | cons h1 h2 => exact Hds.drop (xs := xs) n h2
theorem Hds.reverse : ∀ {vs : List V} {xs : List α}, Hds K H vs xs → Hds K H vs.reverse xs.reverse
  | _, [], h => by cases h; exact .nil
  | _, x :: xs, h => by
    cases h with
    | cons h1 h2 =>
      rw [List.reverse_cons, List.reverse_cons]
      exact (Hds.reverse (xs := xs) h2).append (.cons h1 .nil)
/-- an item of a list at a place within it -/
theorem r_pickI {Q : VK} {p : Addr} {n : Int} (ns : List Int) (h : SqL K H p (ns.map V.int)) (h0 : 0 ≤ n) (h1 : n < ns.length) (q : ∀ z, z ∈ ns → Q (.int z) H) : rIxL K (.ref p) (.int n) H Q := by
  obtain ⟨j, rfl⟩ : ∃ j : Nat, n = (j : Int) := ⟨n.toNat, by omega⟩
  have hj : j < ns.length := by omega
  exact r_ixL h (atI_nat (by rw [List.getElem?_map, List.getElem?_eq_getElem hj]; rfl)) (q _ (List.getElem_mem hj))
theorem r_pick {Q : VK} {p : Addr} {n : Int} {xs : List V} (h : SqL K H p xs) (h0 : 0 ≤ n) (h1 : n < xs.length) (q : ∀ v, v ∈ xs → Q v H) : rIxL K (.ref p) (.int n) H Q := by
  obtain ⟨j, rfl⟩ : ∃ j : Nat, n = (j : Int) := ⟨n.toNat, by omega⟩
  have hj : j < xs.length := by omega
  exact r_ixL h (atI_nat (List.getElem?_eq_getElem hj)) (q _ (List.getElem_mem hj))
/-- a point, or not -/
inductive PtB (K : PySem.W.Frag) (H : Hp) : V → Bool → Prop where
  | yes {v : V} (p : Int × Int) : Hd K H v p → PtB K H v true
  | kind {v : V} {n : String} : Kd K H v n → n ≠ "tuple" → PtB K H v false
  | len {a : Addr} {xs : List V} : SqT K H a xs → xs.length ≠ 2 → PtB K H (.ref a) false
  | item {a : Addr} {x y : V} {m n : String} : SqT K H a [x, y] → Kd K H x m → Kd K H y n → (isI x && isI y) = false → PtB K H (.ref a) false
theorem PtB.same {v : V} {b : Bool} (h : PtB K H v b) (s : Same H H') : PtB K H' v b := by
  cases h with
  | yes p h => exact .yes p (h.same s)
  | kind h e => exact .kind (h.same s) e
  | len h e => exact .len (sqT_same s h) e
  | item h h1 h2 e => exact .item (sqT_same s h) (h1.same s) (h2.same s) e
/-- == of data -/
theorem r_eqH [Lay α] {x y : V} {a b : α} {Q : VK} (hx : Hd K H x a) (hy : Hd K H y b) (q : Q (.bl (decide (a = b))) H) (h : Datum.depth α ≤ 64 := by decide) : rEqD K x y H Q :=
  r_eqD hx hy (shapedD a h) (shapedD b h) (by rw [Datum.eqv]; exact q)
theorem r_neH [Lay α] {x y : V} {a b : α} {Q : VK} (hx : Hd K H x a) (hy : Hd K H y b) (q : Q (.bl (!decide (a = b))) H) (h : Datum.depth α ≤ 64 := by decide) : rNeD K x y H Q :=
  r_neD hx hy (shapedD a h) (shapedD b h) (by rw [Datum.eqv]; exact q)
end
def crs (p q : Int × Int) : Int := p.1 * q.2 - p.2 * q.1
def cont (p : Int × Int) : Int := ((Int.gcd p.1 p.2 : Nat) : Int)
/-- both coordinates have fewer than n bits -/
def PBd (n : Nat) (p : Int × Int) : Prop := Bd n p.1 ∧ Bd n p.2
section
variable {K : PySem.W.Frag} {H H' : Hp} {α : Type} [DecidableEq α] [PySem.W.Datum α] [PySem.W.SomeDatum α]
instance [Lay α] : Lay (Option α) := ⟨fun o => by
  cases o with
  | none => rfl
  | some a => exact Lay.lay a⟩
instance [Imm α] : Imm (Option α) := ⟨fun o k hl h => by
  cases o with
  | none => cases h; exact .non
  | some a => exact Imm.imm a k hl h⟩
/-- None or an integer -/
def optI : Option Int → V
  | none => .non
  | some i => .int i
theorem hd_optI (o : Option Int) : Hd K H (optI o) o := by
  cases o with
  | none => exact .non
  | some i => exact .int i
theorem hds_optI : ∀ os : List (Option Int), Hds K H (os.map optI) os
  | [] => .nil
  | o :: os => .cons (hd_optI o) (hds_optI os)
end
end G
/-! ### code proved at the layer leaves sleeping generators alone -/
namespace G
open PySem L2 PyProof.Rows
open Sem (wp)
/-- a continuation that cannot go on -/
def iceK : Resume → Sem PySem.Fin := fun _ => .unsupported "ice"
/-- a sleeper that cannot be woken; it looks alike -/
def ice : GenState → GenState
  | .suspended _ l c p fs cl => .suspended iceK l c p fs cl
  | x => x
def slp : GenState → Bool
  | .suspended .. => true
  | _ => false
def thawAt (Y : Array GenState) (i : Nat) (x : GenState) : GenState := match Y[i]? with
  | some y => if slp y = true then y else x
  | none => x
def thaw (Y : Array GenState) (s : Shared) : Shared := { s with gens := s.gens.mapIdx (thawAt Y) }
def iced (s : Shared) : Shared := { s with gens := s.gens.map ice }
structure Icy (Y : Array GenState) (s : Shared) : Prop where
  size : Y.size ≤ s.gens.size
  held : ∀ (i : Nat) y, Y[i]? = some y → slp y = true → s.gens[i]? = some (ice y)
  clean : ∀ (i : Nat) k l c p fs cl, s.gens[i]? = some (.suspended k l c p fs cl) → (∃ y, Y[i]? = some y ∧ slp y = true) ∨ splitAtGen fs = none
theorem seen_ice (y : GenState) : (ice y).seen = y.seen := by cases y <;> rfl
theorem slp_ice (y : GenState) : slp (ice y) = slp y := by cases y <;> rfl
theorem bare_ice (y : GenState) : (ice y).bare = y.bare := by cases y <;> rfl
theorem thaw_get {Y : Array GenState} {s : Shared} {i : Nat} : (thaw Y s).gens[i]? = (s.gens[i]?).map (thawAt Y i) := by
  show (s.gens.mapIdx (thawAt Y))[i]? = _
  rw [Array.getElem?_mapIdx]
theorem thaw_size {Y : Array GenState} {s : Shared} : (thaw Y s).gens.size = s.gens.size := by
  show (s.gens.mapIdx (thawAt Y)).size = _
  rw [Array.size_mapIdx]
def NotHeld (Y : Array GenState) (g : Nat) : Prop := ∀ y, Y[g]? = some y → slp y = false
theorem NotHeld.at {Y : Array GenState} {g : Nat} (h : NotHeld Y g) (x : GenState) : thawAt Y g x = x := by
  unfold thawAt
  cases e : Y[g]? with
  | none => rfl
  | some y => simp [h y e]
theorem Icy.awake {Y : Array GenState} {s : Shared} {g : Nat} {x : GenState} (I : Icy Y s) (h : s.gens[g]? = some x) (hx : slp x = false) : NotHeld Y g := fun y hy => by
  cases e : slp y with
  | false => rfl
  | true =>
    have z := I.held g y hy e
    rw [h] at z
    cases z
    rw [slp_ice, e] at hx
    cases hx
theorem thaw_set {Y : Array GenState} {s : Shared} {g : Nat} {x : GenState} (h : NotHeld Y g) : thaw Y (s.setGen g x) = (thaw Y s).setGen g x := by
  have e : (s.gens.setIfInBounds g x).mapIdx (thawAt Y) = (s.gens.mapIdx (thawAt Y)).setIfInBounds g x := by
    refine Array.ext (by simp) fun i h1 h2 => ?_
    have q1 : i < s.gens.size := by simpa using h1
    have e1 : ((s.gens.setIfInBounds g x).mapIdx (thawAt Y))[i]? = ((s.gens.mapIdx (thawAt Y)).setIfInBounds g x)[i]? := by
      rw [Array.getElem?_mapIdx]
      by_cases z : g = i
      · subst z
        rw [Array.getElem?_setIfInBounds, Array.getElem?_setIfInBounds]
        simp [q1, h.at]
      · rw [Array.getElem?_setIfInBounds_ne z, Array.getElem?_setIfInBounds_ne z, Array.getElem?_mapIdx]
    rw [Array.getElem?_eq_getElem h1, Array.getElem?_eq_getElem h2] at e1
    exact Option.some.inj e1
  show ({ s with gens := (s.gens.setIfInBounds g x).mapIdx (thawAt Y) } : Shared) = { s with gens := (s.gens.mapIdx (thawAt Y)).setIfInBounds g x }
  rw [e]
theorem Icy.set {Y : Array GenState} {s : Shared} {g : Nat} {x : GenState} (I : Icy Y s) (h : NotHeld Y g) (hx : ∀ k l c p fs cl, x = .suspended k l c p fs cl → splitAtGen fs = none) : Icy Y (s.setGen g x) where
  size := by
    show Y.size ≤ (s.gens.setIfInBounds g x).size
    rw [Array.size_setIfInBounds]; exact I.size
  held := fun i y hy hs => by
    have ne : g ≠ i := fun z => by
      subst z
      rw [h y hy] at hs
      cases hs
    show (s.gens.setIfInBounds g x)[i]? = _
    rw [Array.getElem?_setIfInBounds_ne ne]
    exact I.held i y hy hs
  clean := fun i k l c p fs cl hi => by
    have hi : (s.gens.setIfInBounds g x)[i]? = some (.suspended k l c p fs cl) := hi
    by_cases ne : g = i
    · subst ne
      rw [Array.getElem?_setIfInBounds] at hi
      split at hi
      · split at hi
        · exact .inr (hx k l c p fs cl (Option.some.inj hi))
        · cases hi
      · exact I.clean g k l c p fs cl hi
    · rw [Array.getElem?_setIfInBounds_ne ne] at hi
      exact I.clean i k l c p fs cl hi
theorem Icy.gens {Y : Array GenState} {s s' : Shared} (I : Icy Y s) (e : s'.gens = s.gens) : Icy Y s' := ⟨by rw [e]; exact I.size, by rw [e]; exact I.held, by rw [e]; exact I.clean⟩
theorem Icy.push {Y : Array GenState} {s : Shared} {c : Code} (I : Icy Y s) : Icy Y { s with gens := s.gens.push (.fresh c) } where
  size := by
    show Y.size ≤ (s.gens.push _).size
    rw [Array.size_push]; have := I.size; omega
  held := fun i y hy hs => by
    have z := I.held i y hy hs
    show (s.gens.push _)[i]? = _
    obtain ⟨hi, z⟩ := Array.getElem?_eq_some_iff.mp z
    rw [Array.getElem?_push_lt hi, z]
  clean := fun i k l c' p fs cl hi => by
    have hi : (s.gens.push (.fresh c))[i]? = some (.suspended k l c' p fs cl) := hi
    rw [Array.getElem?_push] at hi
    split at hi
    · cases hi
    · exact I.clean i k l c' p fs cl hi
theorem thaw_push {Y : Array GenState} {s : Shared} {c : Code} (I : Icy Y s) : thaw Y { s with gens := s.gens.push (.fresh c) } = { thaw Y s with gens := (thaw Y s).gens.push (.fresh c) } := by
  have n : NotHeld Y s.gens.size := fun y hy => by
    have h := (Array.getElem?_eq_some_iff.mp hy).1
    have := I.size
    omega
  have e : (s.gens.push (.fresh c)).mapIdx (thawAt Y) = (s.gens.mapIdx (thawAt Y)).push (.fresh c) := by
    rw [Array.mapIdx_push, n.at]
  show ({ s with gens := (s.gens.push (.fresh c)).mapIdx (thawAt Y) } : Shared) = { s with gens := (s.gens.mapIdx (thawAt Y)).push (.fresh c) }
  rw [e]
theorem split_append : ∀ {fs gs : List Frame}, splitAtGen fs = none → splitAtGen gs = none → splitAtGen (fs ++ gs) = none
  | [], _, _, h => h
  | .gen .. :: _, _, h, _ => by cases h
  | .ret .. :: fs, gs, h, k => by
    have h : (splitAtGen fs).map _ = none := h
    have h := Option.map_eq_none_iff.mp h
    show (splitAtGen (fs ++ gs)).map _ = none
    rw [split_append h k]; rfl
theorem split_tail {k h g l c p kp} {fs : List Frame} (e : splitAtGen (.ret k h g l c p kp :: fs) = none) : splitAtGen fs = none := Option.map_eq_none_iff.mp (show (splitAtGen fs).map _ = none from e)
theorem no_runs {M : Model} {Γ : Ctx} {p : Pos} {w : String} {fs : List Frame} {s s' : Shared} {e : End} (h : Runs M Γ p (.unsupported w) fs s e s') : False := by
  generalize ht : (Sem.unsupported w : Sem PySem.Fin) = t at h
  induction h <;> first | (cases ht; done) | (rename_i ih; exact ih ht) | (rename_i ih _; exact ih ht) | skip
/-- what comes out of a run: frames of its own -/
def SuspOk : End → Prop
  | .ret _ => True
  | .susp _ _ _ _ _ _ fs => splitAtGen fs = none
theorem SuspOk.gs {e : End} (h : SuspOk e) : ∀ k l c p fs cl, e.genState = .suspended k l c p fs cl → splitAtGen fs = none := fun k l c p fs cl q => by
  cases e with
  | ret r => cases q
  | susp v g l' k' c' p' fs' =>
    cases q
    exact h
theorem thaw_seen {Y : Array GenState} {s : Shared} {g : Nat} {st : GenState} (I : Icy Y s) (h : s.gens[g]? = some st) : ∃ st', (thaw Y s).gens[g]? = some st' ∧ st'.seen = st.seen := by
  refine ⟨thawAt Y g st, by rw [thaw_get, h]; rfl, ?_⟩
  unfold thawAt
  cases e : Y[g]? with
  | none => rfl
  | some y =>
    show (if slp y = true then y else st).seen = st.seen
    by_cases hs : slp y = true
    · have z := I.held g y e hs
      rw [h] at z
      cases z
      rw [if_pos hs, seen_ice]
    · rw [if_neg hs]
theorem thaw_same {Y : Array GenState} {s : Shared} {g : Nat} {st : GenState} (n : NotHeld Y g) (h : s.gens[g]? = some st) : (thaw Y s).gens[g]? = some st := by
  rw [thaw_get, h]
  show some (thawAt Y g st) = _
  rw [n.at]
/-- the frozen run is the run -/
theorem lock {M : Model} {Y : Array GenState} {Γ : Ctx} {p : Pos} {t : Sem PySem.Fin} {fs : List Frame} {s s' : Shared} {e : End} (h : Runs M Γ p t fs s e s') : Icy Y s → splitAtGen fs = none →
    Runs M Γ p t fs (thaw Y s) e (thaw Y s') ∧ Icy Y s' ∧ SuspOk e := by
  induction h with
  | done => intro I _; exact ⟨.done, I, trivial⟩
  | raise => intro I _; exact ⟨.raise, I, trivial⟩
  | again hq _ ih => intro I _; obtain ⟨a, b, c⟩ := ih I rfl; exact ⟨.again hq a, b, c⟩
  | rule _ ih => intro I _; obtain ⟨a, b, c⟩ := ih I rfl; exact ⟨.rule a, b, c⟩
  | «at» _ ih => intro I _; obtain ⟨a, b, c⟩ := ih I rfl; exact ⟨.at a, b, c⟩
  | load ho _ ih => intro I _; obtain ⟨a, b, c⟩ := ih I rfl; exact ⟨.load ho a, b, c⟩
  | update ho _ ih => intro I _; obtain ⟨a, b, c⟩ := ih (I.gens rfl) rfl; exact ⟨.update ho a, b, c⟩
  | loadIfAlive _ ih => intro I _; obtain ⟨a, b, c⟩ := ih I rfl; exact ⟨.loadIfAlive a, b, c⟩
  | point _ ih => intro I _; obtain ⟨a, b, c⟩ := ih I rfl; exact ⟨.point a, b, c⟩
  | alloc _ ih => intro I _; obtain ⟨a, b, c⟩ := ih (I.gens rfl) rfl; exact ⟨.alloc a, b, c⟩
  | fresh _ ih => intro I _; obtain ⟨a, b, c⟩ := ih (I.gens rfl) rfl; exact ⟨.fresh a, b, c⟩
  | ask _ ih => intro I _; obtain ⟨a, b, c⟩ := ih I rfl; exact ⟨.ask a, b, c⟩
  | choose hn _ ih => intro I _; obtain ⟨a, b, c⟩ := ih (I.gens rfl) rfl; exact ⟨.choose hn a, b, c⟩
  | os _ ih => intro I _; obtain ⟨a, b, c⟩ := ih (I.gens rfl) rfl; exact ⟨.os a, b, c⟩
  | handled _ ih => intro I _; obtain ⟨a, b, c⟩ := ih I rfl; exact ⟨.handled a, b, c⟩
  | genState hg _ ih =>
    intro I _
    obtain ⟨a, b, c⟩ := ih I rfl
    obtain ⟨st', h1, h2⟩ := thaw_seen I hg
    exact ⟨.genState h1 (by rw [h2]; exact a), b, c⟩
  | stack _ ih => intro I _; obtain ⟨a, b, c⟩ := ih I rfl; exact ⟨.stack a, b, c⟩
  | thread _ ih => intro I _; obtain ⟨a, b, c⟩ := ih I rfl; exact ⟨.thread a, b, c⟩
  | newGen _ ih =>
    intro I _
    obtain ⟨a, b, c⟩ := ih I.push rfl
    rw [thaw_push I, ← thaw_size (Y := Y)] at a
    exact ⟨.newGen a, b, c⟩
  | call _ _ ih1 ih2 =>
    intro I _
    obtain ⟨a, b, _⟩ := ih1 I rfl
    obtain ⟨a2, b2, c2⟩ := ih2 b rfl
    exact ⟨.call a a2, b2, c2⟩
  | callSusp _ ih =>
    intro I _
    obtain ⟨a, b, c⟩ := ih I rfl
    exact ⟨.callSusp a, b, split_append c rfl⟩
  | yield => intro I _; exact ⟨.yield, I, rfl⟩
  | resumeFresh hg _ hq _ ih1 ih2 =>
    intro I _
    have n := I.awake hg rfl
    obtain ⟨a, b, c⟩ := ih1 (I.set n (fun _ _ _ _ _ _ z => nomatch z)) rfl
    obtain ⟨a2, b2, c2⟩ := ih2 (b.set n c.gs) rfl
    rw [thaw_set n] at a a2
    exact ⟨.resumeFresh (thaw_same n hg) a hq a2, b2, c2⟩
  | @resumeSuspended Γ p g r l k s k₀ l₀ c₀ p₀ fs cl e₁ s₁ e s' hg h1 hq _ ih1 ih2 =>
    intro I _
    rcases I.clean _ _ _ _ _ _ _ hg with ⟨y, hy, hs⟩ | hf
    · have z := I.held _ y hy hs
      rw [hg] at z
      cases y with
      | suspended k' l' c' p' fs' cl' =>
        cases z
        exact (no_runs h1).elim
      | _ => cases hs
    · by_cases hh : ∃ y, Y[g]? = some y ∧ slp y = true
      · obtain ⟨y, hy, hs⟩ := hh
        have z := I.held _ y hy hs
        rw [hg] at z
        cases y with
        | suspended k' l' c' p' fs' cl' =>
          cases z
          exact (no_runs h1).elim
        | _ => cases hs
      · have n : NotHeld Y g := fun y hy => by
          cases q : slp y with
          | false => rfl
          | true => exact absurd ⟨y, hy, q⟩ hh
        obtain ⟨a, b, c⟩ := ih1 (I.set n (fun _ _ _ _ _ _ z => nomatch z)) hf
        obtain ⟨a2, b2, c2⟩ := ih2 (b.set n c.gs) rfl
        rw [thaw_set n] at a a2
        exact ⟨.resumeSuspended (thaw_same n hg) a hq a2, b2, c2⟩
  | resumeJustStarted hg hv _ ih =>
    intro I _
    obtain ⟨a, b, c⟩ := ih I rfl
    exact ⟨.resumeJustStarted (thaw_same (I.awake hg rfl) hg) hv a, b, c⟩
  | resumeThrowFresh hg _ ih =>
    intro I _
    have n := I.awake hg rfl
    obtain ⟨a, b, c⟩ := ih (I.set n (fun _ _ _ _ _ _ z => nomatch z)) rfl
    rw [thaw_set n] at a
    exact ⟨.resumeThrowFresh (thaw_same n hg) a, b, c⟩
  | resumeRunning hg _ ih =>
    intro I _
    obtain ⟨a, b, c⟩ := ih I rfl
    exact ⟨.resumeRunning (thaw_same (I.awake hg rfl) hg) a, b, c⟩
  | resumeFinished hg _ ih =>
    intro I _
    obtain ⟨a, b, c⟩ := ih I rfl
    exact ⟨.resumeFinished (thaw_same (I.awake hg rfl) hg) a, b, c⟩
  | segRet _ _ ih1 ih2 =>
    intro I hf
    obtain ⟨a, b, _⟩ := ih1 I rfl
    obtain ⟨a2, b2, c2⟩ := ih2 b (split_tail hf)
    exact ⟨.segRet a a2, b2, c2⟩
  | segGen _ _ _ _ => intro _ hf; cases hf
  | segSuspOut hs _ ih =>
    intro I hf
    obtain ⟨a, b, c⟩ := ih I rfl
    exact ⟨.segSuspOut hs a, b, split_append c hf⟩
  | segSuspGen hs _ _ _ _ _ =>
    intro _ hf
    rw [hf] at hs
    cases hs
theorem wakes_lock {M : Model} {Y : Array GenState} {Γ : Ctx} {p : Pos} {g : Nat} {r : Resume} {s s' : Shared} {res : GenResult} (h : Wakes M Γ p g r s res s') (I : Icy Y s) : Wakes M Γ p g r (thaw Y s) res (thaw Y s') ∧ Icy Y s' := by
  unfold Wakes at h
  cases hg : s.gens[g]? with
  | none => rw [hg] at h; exact h.elim
  | some x =>
    rw [hg] at h
    cases x with
    | fresh c =>
      have n := I.awake hg rfl
      have hT := thaw_same n hg
      cases r with
      | send v =>
        cases v with
        | none =>
          obtain ⟨e₁, s₁, hr, hq, rfl, rfl⟩ := h
          obtain ⟨a, b, c⟩ := lock hr (I.set n (fun _ _ _ _ _ _ z => nomatch z)) rfl
          rw [thaw_set n] at a
          refine ⟨?_, b.set n c.gs⟩
          unfold Wakes
          rw [hT]
          exact ⟨e₁, _, a, hq, rfl, thaw_set n⟩
        | _ =>
          obtain ⟨rfl, rfl⟩ := h
          refine ⟨?_, I⟩
          unfold Wakes
          rw [hT]
          exact ⟨rfl, rfl⟩
      | throw v =>
        obtain ⟨rfl, rfl⟩ := h
        refine ⟨?_, I.set n (fun _ _ _ _ _ _ z => nomatch z)⟩
        unfold Wakes
        rw [hT]
        exact ⟨rfl, thaw_set n⟩
    | suspended k₀ l₀ c₀ p₀ fs cl =>
      obtain ⟨e₁, s₁, hr, hq, rfl, rfl⟩ := h
      have n : NotHeld Y g := fun y hy => by
        cases q : slp y with
        | false => rfl
        | true =>
          have z := I.held _ y hy q
          rw [hg] at z
          cases y with
          | suspended k' l' c' p' fs' cl' =>
            cases z
            exact (no_runs hr).elim
          | _ => cases q
      have hf : splitAtGen fs = none := by
        rcases I.clean _ _ _ _ _ _ _ hg with ⟨y, hy, hs⟩ | hf
        · rw [n y hy] at hs; cases hs
        · exact hf
      obtain ⟨a, b, c⟩ := lock hr (I.set n (fun _ _ _ _ _ _ z => nomatch z)) hf
      rw [thaw_set n] at a
      refine ⟨?_, b.set n c.gs⟩
      unfold Wakes
      rw [thaw_same n hg]
      exact ⟨e₁, _, a, hq, rfl, thaw_set n⟩
    | running =>
      obtain ⟨rfl, rfl⟩ := h
      refine ⟨?_, I⟩
      unfold Wakes
      rw [thaw_same (I.awake hg rfl) hg]
      exact ⟨rfl, rfl⟩
    | finished =>
      obtain ⟨rfl, rfl⟩ := h
      refine ⟨?_, I⟩
      unfold Wakes
      rw [thaw_same (I.awake hg rfl) hg]
      exact ⟨rfl, rfl⟩
/-- behind the run: thawed -/
def Thawed {α : Type} (Y : Array GenState) (Q : α → Pos → Shared → Prop) : α → Pos → Shared → Prop := fun a p s' => ∃ s₁, s' = thaw Y s₁ ∧ Icy Y s₁ ∧ Q a p s₁
theorem wp_lock {α : Type} (M : Model) (Y : Array GenState) (Γ : Ctx) (t : Sem α) : ∀ (Q : α → Pos → Shared → Prop) (E : Value → Pos → Shared → Prop) (p : Pos) (s : Shared), Icy Y s → wp M Γ t Q E p s → wp M Γ t (Thawed Y Q) (Thawed Y E) p (thaw Y s) := by
  induction t with
  | pure a => intro Q E p s I h; exact ⟨s, rfl, I, h⟩
  | raise e => intro Q E p s I h; exact ⟨s, rfl, I, h⟩
  | unsupported _ => intro Q E p s _ h; exact h
  | finish _ => intro Q E p s _ h; exact h
  | rule _ k ih => intro Q E p s I h; exact ih () Q E p s I h
  | «at» p' k ih => intro Q E p s I h; exact ih () Q E p' s I h
  | load a _ k ih => intro Q E p s I h; obtain ⟨o, ho, h⟩ := h; exact ⟨o, ho, ih o Q E p s I h⟩
  | update a _ f k ih => intro Q E p s I h; exact ⟨h.1, ih () Q E p { s with heap := s.heap.update a f } (I.gens rfl) h.2⟩
  | loadIfAlive a k ih => intro Q E p s I h; exact ih _ Q E p s I h
  | point _ k ih => intro Q E p s I h; exact ih () Q E p s I h
  | register _ _ => intro Q E p s _ h; exact h
  | alloc o k ih => intro Q E p s I h; exact ih _ Q E p { s with heap := s.heap.push o } (I.gens rfl) h
  | fresh k ih => intro Q E p s I h; exact ih _ Q E p { s with toks := s.toks + 1 } (I.gens rfl) h
  | ask k ih => intro Q E p s I h; exact ih _ Q E p s I h
  | choose src m k ih => intro Q E p s I h; exact ⟨h.1, ih _ Q E p { s with drawn := s.drawn.bump src } (I.gens rfl) h.2⟩
  | os q _ k ih => intro Q E p s I h; exact ih _ Q E p { s with os := (Os.step s.os q).1 } (I.gens rfl) h
  | call c hd _ _ k ih =>
    intro Q E p s I h
    obtain ⟨r, s', hr, h⟩ := h
    obtain ⟨a, b, _⟩ := lock hr I rfl
    exact ⟨r, _, a, ih r Q E p s' b h⟩
  | handled own k ih => intro Q E p s I h; exact ih _ Q E p s I h
  | genState g k ih =>
    intro Q E p s I h
    obtain ⟨st, hs, h⟩ := h
    obtain ⟨st', h1, h2⟩ := thaw_seen I hs
    exact ⟨st', h1, by rw [h2]; exact ih _ Q E p s I h⟩
  | newGen c k ih =>
    intro Q E p s I h
    have z := ih _ Q E p _ I.push h
    rw [thaw_push I, ← thaw_size (Y := Y)] at z
    exact z
  | resume g r _ k ih =>
    intro Q E p s I h
    obtain ⟨res, s', hw, h⟩ := h
    obtain ⟨a, b⟩ := wakes_lock hw I
    exact ⟨res, _, a, ih res Q E p s' b h⟩
  | yield _ _ _ _ => intro Q E p s _ h; exact h
  | stack k ih => intro Q E p s I h; exact ih _ Q E p s I h
  | fork _ _ => intro Q E p s _ h; exact h
  | thread k ih => intro Q E p s I h; exact ih _ Q E p s I h
  | await _ _ _ _ _ => intro Q E p s _ h; exact h
theorem icy_iced (s : Shared) : Icy s.gens (iced s) where
  size := by
    show _ ≤ (s.gens.map ice).size
    rw [Array.size_map]; exact Nat.le_refl _
  held := fun i y hy _ => by
    show (s.gens.map ice)[i]? = _
    rw [Array.getElem?_map, hy]; rfl
  clean := fun i k l c p fs cl hi => by
    have hi : (s.gens.map ice)[i]? = some (.suspended k l c p fs cl) := hi
    rw [Array.getElem?_map] at hi
    obtain ⟨y, hy, e⟩ := Option.map_eq_some_iff.mp hi
    exact .inl ⟨y, hy, by rw [← slp_ice, e]; rfl⟩
theorem thaw_iced (s : Shared) : thaw s.gens (iced s) = s := by
  have e : (s.gens.map ice).mapIdx (thawAt s.gens) = s.gens := by
    refine Array.ext (by simp) fun i h1 h2 => ?_
    simp only [Array.getElem_mapIdx, Array.getElem_map]
    unfold thawAt
    rw [Array.getElem?_eq_getElem h2]
    show (if slp s.gens[i] = true then s.gens[i] else ice s.gens[i]) = _
    cases s.gens[i] <;> rfl
  show ({ s with gens := (s.gens.map ice).mapIdx (thawAt s.gens) } : Shared) = s
  rw [e]
/-- behind code that knows no sleeper: s' is as the frozen run left it, the sleepers as they were -/
structure Still (s s₁ s' : Shared) : Prop where
  heap : s'.heap = s₁.heap
  os : s'.os = s₁.os
  bare : AllBare s.gens → AllBare s₁.gens → AllBare s'.gens
  sleeps : ∀ (i : Nat) y, s.gens[i]? = some y → slp y = true → s'.gens[i]? = some y
theorem still_of {s s₁ : Shared} (I : Icy s.gens s₁) : Still s s₁ (thaw s.gens s₁) where
  heap := rfl
  os := rfl
  bare := fun h h1 x hx => by
    obtain ⟨i, hi, e⟩ := Array.mem_iff_getElem.mp hx
    have q : (thaw s.gens s₁).gens[i]? = some x := by rw [Array.getElem?_eq_getElem hi, e]
    rw [thaw_get] at q
    obtain ⟨z, hz, e2⟩ := Option.map_eq_some_iff.mp q
    have bz := h1 z (Array.mem_of_getElem? hz)
    rw [← e2]
    unfold thawAt
    cases ey : s.gens[i]? with
    | none => exact bz
    | some y =>
      show (if slp y = true then y else z).bare = true
      split
      · exact h y (Array.mem_of_getElem? ey)
      · exact bz
  sleeps := fun i y hy hs => by
    rw [thaw_get, I.held i y hy hs]
    show some (thawAt s.gens i (ice y)) = some y
    unfold thawAt
    rw [hy]
    show some (if slp y = true then y else ice y) = some y
    rw [if_pos hs]
theorem wpAny_still {α : Type} {M : Model} {A : Around} {t : Sem α} {Q : α → Shared → Prop} {E : Value → Shared → Prop} {s : Shared} (h : wpAny M A t Q E (iced s)) :
    wpAny M A t (fun a s' => ∃ s₁, Still s s₁ s' ∧ Q a s₁) (fun e s' => ∃ s₁, Still s s₁ s' ∧ E e s₁) s := by
  intro Γ p hΓ
  have z := wp_lock M s.gens Γ t _ _ p (iced s) (icy_iced s) (h Γ p hΓ)
  rw [thaw_iced] at z
  refine Sem.wp_mono M Γ t ?_ ?_ p s z
  · rintro a p' s' ⟨s₁, rfl, I, q⟩
    exact ⟨s₁, still_of I, q⟩
  · rintro a p' s' ⟨s₁, rfl, I, q⟩
    exact ⟨s₁, still_of I, q⟩
/-! ### one stretch of a generator's run, and its statements -/
/-- from s the code t over the frames fs comes to an end of which Φ holds -/
def Sg (M : Model) (A : Around) (Φ : End → Shared → Prop) (c : Code) (t : Sem PySem.Fin) (fs : List Frame) (s : Shared) : Prop :=
  ∀ Γ p, Γ.code = c → Γ.Woken A → ∃ e s', Runs M Γ p t fs s e s' ∧ Φ e s'
section
variable {M : Model} {A : Around} {Φ : End → Shared → Prop} {c : Code} {fs : List Frame} {s : Shared}
theorem sg_wrap {α : Type} {m : Sem α} {K : α → Sem PySem.Fin} {J : Value → Sem PySem.Fin} {gd lv} (h : wpAny M (A.over c fs) m (fun a z => Sg M A Φ c (K a) fs z) (fun x z => Sg M A Φ c (J x) fs z) s) : Sg M A Φ c (m.wrap K J gd lv) fs s := by
  rintro Γ q rfl hΓ
  exact runs_wrap_of_wp K J gd lv m (h (Γ.over fs) q (hΓ.over fs)) (fun a q' z y => y Γ q' rfl hΓ) (fun x q' z y => y Γ q' rfl hΓ)
theorem sg_bindW {α β : Type} {m : Sem α} {f : α → Sem β} {K : β → Sem PySem.Fin} {J : Value → Sem PySem.Fin} {gd lv} (h : wpAny M (A.over c fs) m (fun a z => Sg M A Φ c ((f a).wrap K J gd lv) fs z) (fun x z => Sg M A Φ c (J x) fs z) s) : Sg M A Φ c ((m >>= f).wrap K J gd lv) fs s := by
  rw [Sem.bind_eq_wrap', Sem.wrap_wrap]
  exact sg_wrap h
theorem sg_at {p' : Pos} {k : Unit → Sem PySem.Fin} (h : Sg M A Φ c (k ()) fs s) : Sg M A Φ c (.at p' k) fs s :=
  sg_wrap (m := standAt p') (K := k) (J := .raise) (gd := id) (lv := id) (wpAny_standAt h)
theorem sg_point {l : List Value} {k : Unit → Sem PySem.Fin} (h : Sg M A Φ c (k ()) fs s) : Sg M A Φ c (.point l k) fs s :=
  sg_wrap (m := point) (K := k) (J := .raise) (gd := id) (lv := fun _ => l) (wpAny_point h)
theorem sg_call {c' : Code} {h g l} {k : Result → Sem PySem.Fin} (hc : ∀ q, Sg M A Φ c' (M.den c') (.ret k h g l c q [] :: fs) s) : Sg M A Φ c (.call c' h g l k) fs s := by
  rintro Γ q rfl hΓ
  obtain ⟨e, z, hr, he⟩ := hc q (Γ.goto c') q rfl (hΓ.goto c')
  exact ⟨e, z, runs_call_seg hr, he⟩
theorem sg_leaf {k h g l c₁ p₁ kp} (r : Result) (hk : Sg M A Φ c₁ (k r) fs s) : Sg M A Φ c (leafOf r) (.ret k h g l c₁ p₁ kp :: fs) s := by
  rintro Γ q rfl hΓ
  obtain ⟨e, z, hr, he⟩ := hk (Γ.goto c₁) p₁ rfl (hΓ.goto c₁)
  exact ⟨e, z, Runs.pop r hr, he⟩
theorem sg_again {c' : Code} (hq : c'.quiet = true) (hc : Sg M A Φ c' (M.den c') fs s) : Sg M A Φ c (.pure (.again c')) fs s := by
  rintro Γ q rfl hΓ
  obtain ⟨e, z, hr, he⟩ := hc (Γ.goto c') q rfl (hΓ.goto c')
  exact ⟨e, z, Runs.head (c₁ := c') (fun _ _ x => .again hq x) hr, he⟩
theorem sg_end (r : Result) (h : Φ (.ret r) s) : Sg M A Φ c (leafOf r) [] s := by
  rintro Γ q rfl _
  exact ⟨.ret r, s, Runs.leaf r, h⟩
theorem sg_yield {v g l} {k : Resume → Sem PySem.Fin} (hf : splitAtGen fs = none) (h : ∀ q, Φ (.susp v g l k c q fs) s) : Sg M A Φ c (.yield v g l k) fs s := by
  rintro Γ q rfl _
  exact ⟨_, s, Runs.yield' fs hf, h q⟩
end
/-- the heap's first n objects -/
def trH (n : Nat) (h : Heap) : Heap := { h with objs := (h.objs.toList.take n).toArray }
def tr (n : Nat) (s : Shared) : Shared := { s with heap := trH n s.heap }
theorem trH_size {n : Nat} {h : Heap} (l : n ≤ h.objs.size) : (trH n h).objs.size = n := by
  show (h.objs.toList.take n).toArray.size = n
  simp; omega
theorem trH_get {n b : Nat} {h : Heap} (l : b < n) : (trH n h).get? b = h.get? b := by
  have e : ((h.objs.toList.take n).toArray)[b]? = h.objs[b]? := by simp [l]
  unfold Heap.get?
  show (match ((h.objs.toList.take n).toArray)[b]? with | some ⟨_, _, .freed, _⟩ => none | z => z) = _
  rw [e]; rfl
theorem trH_sub {n b : Nat} {h : Heap} {o : Obj} (q : (trH n h).get? b = some o) : h.get? b = some o ∧ b < n := by
  have l : b < n := by
    have z := Heap.lt_size q
    have : ((h.objs.toList.take n).toArray).size ≤ n := by simp; omega
    exact Nat.lt_of_lt_of_le z this
  rw [trH_get l] at q
  exact ⟨q, l⟩
/-- a generator's frame, seen from the state at which it was woken last: sb, H -/
def gcx (P : Program) (w : World) (K : PySem.W.Frag) (mg : Str → Option Value) (base : Heap) (N : List Str) (qual : Str) (scope : Scope) (f : Addr) (cd : Value) (A : Around) (outer : List Env) (L : Addr) (sb : Shared) (H : Hp) : Cx where
  prog := P
  w := w
  K := K
  mg := mg
  base := base
  A := A.deeper (envOfC qual scope L f cd)
  N := N
  s_0 := sb
  H_0 := H
  env := envOfC qual scope L f cd
  outer := outer
  stack := envOfC qual scope L f cd :: outer
  ex := []
  calm := true
  fn := fun _ => true
  pn := []
  xe := fun _ _ => False
/-- the state at which it was woken; the consumer's own objects, to be left alone -/
structure View where
  s : Shared
  H : Hp
  pins : List (Addr × Obj)
/-- what the consumer may count on: with m items to come, woken at Hr, it hands out x, leaving H | it may be woken at H2 (it slept since H1), m to come | it ends -/
structure Ctr where
  yl : Nat → Hp → V → Hp → Prop
  ok : Nat → Hp → Hp → Prop
  fin : Hp → Hp → Prop
section
variable (P : Program) (w : World) (K : PySem.W.Frag) (mg : Str → Option Value) (base : Heap) (N : List Str) (qual : Str) (scope : Scope) (f : Addr) (cd : Value) (A : Around) (outer : List Env) (L : Addr)
/-- the generator's frame runs; ip: its own iterators as they stand -/
def GOk (V : View) (ip : List (Addr × Obj)) : Prop := L < V.s.heap.objs.size ∧ (∀ p ∈ V.pins, ∀ q ∈ ip, p.1 ≠ q.1) ∧ ∀ q ∈ ip, L < q.1
def GIn (V : View) (ip : List (Addr × Obj)) (σ : L2.St) (H : Hp) (s : Shared) : Prop := GOk L V ip ∧ Inv (gcx P w K mg base N qual scope f cd A outer L (tr L V.s) V.H) (V.pins ++ ip) σ H s
def FutRet (C : Ctr) (m : Nat) (V : View) (r : Result) (s' : Shared) : Prop := r = .ok (.ret .none) ∧ m = 0 ∧ ∃ ip σ H, GIn P w K mg base N qual scope f cd A outer L V ip σ H s' ∧ C.fin V.H H
def FutSusp (C : Ctr) (m : Nat) (V : View) (v : Value) (s' : Shared) (go : View → Prop) : Prop :=
  ∃ ip x σ H, RelV x v ∧ GIn P w K mg base N qual scope f cd A outer L V ip σ H s' ∧ C.yl (m + 1) V.H x H ∧ ∀ V' : View, GIn P w K mg base N qual scope f cd A outer L V' ip σ V'.H V'.s → C.ok m H V'.H → go V'
def Fut (C : Ctr) : Nat → View → End → Shared → Prop
  | m, V, .ret r, s' => FutRet P w K mg base N qual scope f cd A outer L C m V r s'
  | 0, _, .susp .., _ => False
  | m + 1, V, .susp v g l k c p fs, s' => (End.susp v g l k c p fs).quiet = true ∧ FutSusp P w K mg base N qual scope f cd A outer L C m V v s' fun V' => Sg (model P w) A (Fut C m V') c (k (.send .none)) fs V'.s
end
theorem fut_ret {P : Program} {w : World} {K : PySem.W.Frag} {mg : Str → Option Value} {base : Heap} {N : List Str} {qual : Str} {scope : Scope} {f : Addr} {cd : Value} {A : Around} {outer : List Env} {L : Addr} {C : Ctr} {m : Nat} {V : View} {r : Result} {s' : Shared} :
    FutRet P w K mg base N qual scope f cd A outer L C m V r s' → Fut P w K mg base N qual scope f cd A outer L C m V (.ret r) s' := fun h => by
  cases m <;> exact h
theorem ret_fut {P : Program} {w : World} {K : PySem.W.Frag} {mg : Str → Option Value} {base : Heap} {N : List Str} {qual : Str} {scope : Scope} {f : Addr} {cd : Value} {A : Around} {outer : List Env} {L : Addr} {C : Ctr} {m : Nat} {V : View} {r : Result} {s' : Shared} :
    Fut P w K mg base N qual scope f cd A outer L C m V (.ret r) s' → FutRet P w K mg base N qual scope f cd A outer L C m V r s' := fun h => by
  cases m <;> exact h
/-- what is wanted behind a statement of a generator: items to come, the heap at which it was woken, slots, heap -/
structure GEn where
  nx : Nat → Hp → L2.St → Hp → Prop
  rt : Nat → Hp → VK
  bk : Nat → Hp → L2.St → Hp → Prop := fun _ _ _ _ => False
  ct : Nat → Hp → L2.St → Hp → Prop := fun _ _ _ _ => False
def GEn.at (D : GEn) (m : Nat) (Hr : Hp) : Ends := { nx := D.nx m Hr, rt := D.rt m Hr, bk := D.bk m Hr, ct := D.ct m Hr }
abbrev TGm := Ctr → GEn → Nat → Hp → L2.St → Hp → Prop
/-- where its code stands -/
structure GPl (X : Around) (A : Around) (c : Code) (fs : List Frame) (gd : Bool → Bool) : Prop where
  over : A.over c fs = X
  split : splitAtGen fs = none
  guard : fs.any Frame.guarded = false
  gd : gd false = false
section
variable {P : Program} {w : World} {K : PySem.W.Frag} {mg : Str → Option Value} {base : Heap} {N : List Str} {qual : Str} {scope : Scope} {f : Addr} {cd : Value} {A : Around} {outer : List Env} {L : Addr}
def GOut (P : Program) (w : World) (K : PySem.W.Frag) (mg : Str → Option Value) (base : Heap) (N : List Str) (qual : Str) (scope : Scope) (f : Addr) (cd : Value) (A : Around) (outer : List Env) (L : Addr) (D : GEn) (m : Nat) (V : View) (ip : List (Addr × Obj)) (fl : Flow) (s : Shared) : Prop := GOk L V ip ∧ SP (gcx P w K mg base N qual scope f cd A outer L (tr L V.s) V.H) (V.pins ++ ip) (D.at m V.H) fl s
structure GT (P : Program) (w : World) (K : PySem.W.Frag) (mg : Str → Option Value) (base : Heap) (N : List Str) (qual : Str) (scope : Scope) (f : Addr) (cd : Value) (A : Around) (outer : List Env) (L : Addr) (ex : Env → Sem Flow) (t : TGm) : Prop where
  run : ∀ (C : Ctr) (D : GEn) (m : Nat) (V : View) (ip : List (Addr × Obj)) (c : Code) (fs : List Frame) (Kf : Flow → Sem PySem.Fin) (J : Value → Sem PySem.Fin) (gd : Bool → Bool) (lv : List Value → List Value) (s : Shared) (σ : L2.St) (H : Hp),
    GPl (A.deeper (envOfC qual scope L f cd)) A c fs gd → (∀ m' V' fl s', GOut P w K mg base N qual scope f cd A outer L D m' V' ip fl s' → Sg (model P w) A (Fut P w K mg base N qual scope f cd A outer L C m' V') c (Kf fl) fs s') →
    GIn P w K mg base N qual scope f cd A outer L V ip σ H s → t C D m V.H σ H → Sg (model P w) A (Fut P w K mg base N qual scope f cd A outer L C m V) c ((ex (envOfC qual scope L f cd)).wrap Kf J gd lv) fs s
abbrev GTs (P : Program) (w : World) (K : PySem.W.Frag) (mg : Str → Option Value) (base : Heap) (N : List Str) (qual : Str) (scope : Scope) (f : Addr) (cd : Value) (A : Around) (outer : List Env) (L : Addr) (st : Stmt) (t : TGm) : Prop := GT P w K mg base N qual scope f cd A outer L (fun e => exec st e) t
abbrev GTb (P : Program) (w : World) (K : PySem.W.Frag) (mg : Str → Option Value) (base : Heap) (N : List Str) (qual : Str) (scope : Scope) (f : Addr) (cd : Value) (A : Around) (outer : List Env) (L : Addr) (st : List Stmt) (t : TGm) : Prop := GT P w K mg base N qual scope f cd A outer L (fun e => execs st e) t
/-- a statement that hands out nothing -/
def tGp (t : TS) : TGm := fun _ D m Hr σ H => t (D.at m Hr) σ H
theorem gt_ps {st : Stmt} {t : TS} (h : ∀ sb H0, PS (gcx P w K mg base N qual scope f cd A outer L sb H0) st t) : GTs P w K mg base N qual scope f cd A outer L st (tGp t) := by
  refine ⟨fun C D m V ip c fs Kf J gd lv s σ H g k I ht => ?_⟩
  refine sg_wrap ?_
  rw [g.over]
  exact wpAny_mono ((h (tr L V.s) V.H).run _ s σ H (D.at m V.H) I.2 ht) (fun fl s' hs => k m V fl s' ⟨I.1, hs⟩) fun x s' hx => hx.elim
theorem gt_pss {st : List Stmt} {t : TS} (h : ∀ sb H0, PSs (gcx P w K mg base N qual scope f cd A outer L sb H0) st t) : GTb P w K mg base N qual scope f cd A outer L st (tGp t) := by
  refine ⟨fun C D m V ip c fs Kf J gd lv s σ H g k I ht => ?_⟩
  refine sg_wrap ?_
  rw [g.over]
  exact wpAny_mono ((h (tr L V.s) V.H).run _ s σ H (D.at m V.H) I.2 ht) (fun fl s' hs => k m V fl s' ⟨I.1, hs⟩) fun x s' hx => hx.elim
def tGn : TGm := fun _ D m Hr σ H => D.nx m Hr σ H
theorem gt_nil : GTb P w K mg base N qual scope f cd A outer L [] tGn := by
  refine ⟨fun C D m V ip c fs Kf J gd lv s σ H g k I ht => ?_⟩
  exact k m V .next s ⟨I.1, σ, H, I.2, ht⟩
def tGc (t u : TGm) : TGm := fun C D m Hr σ H => t C { D with nx := fun m' Hr' σ' H' => u C D m' Hr' σ' H' } m Hr σ H
theorem gt_cons {st : Stmt} {rest : List Stmt} {t u : TGm} (a : GTs P w K mg base N qual scope f cd A outer L st t) (b : GTb P w K mg base N qual scope f cd A outer L rest u) : GTb P w K mg base N qual scope f cd A outer L (st :: rest) (tGc t u) := by
  refine ⟨fun C D m V ip c fs Kf J gd lv s σ H g k I ht => ?_⟩
  show Sg _ A _ c ((execs (st :: rest) _).wrap Kf J gd lv) fs s
  rw [execs_cons_wrap]
  refine a.run C { D with nx := fun m' Hr' σ' H' => u C D m' Hr' σ' H' } m V ip c fs _ J gd lv s σ H g (fun m' V' fl s' hs => ?_) I ht
  cases fl with
  | next =>
    obtain ⟨o, σ', H', I', q⟩ := hs
    exact b.run C D m' V' ip c fs Kf J gd lv s' σ' H' g k ⟨o, I'⟩ q
  | brk => exact k m' V' .brk s' hs
  | cont => exact k m' V' .cont s' hs
  | ret u => exact k m' V' (.ret u) s' hs
def tGy (te : TE) : TGm := fun C D m Hr σ H => te σ H fun x H1 => ∃ m', m = m' + 1 ∧ C.yl m Hr x H1 ∧ ∀ H2, C.ok m' H1 H2 → D.nx m' H2 σ H2
theorem gt_yield {e : Expr} {yp pos : Pos} {te : TE} (he : ∀ sb H0, PE (gcx P w K mg base N qual scope f cd A outer L sb H0) e te) (hco : scope.isCoroutine = false := by rfl) (hi : interactive (envOfC qual scope L f cd) = false := by rfl) : GTs P w K mg base N qual scope f cd A outer L (.Expr (.Yield (some e) yp) pos) (tGy te) := by
  refine ⟨fun C D m V ip c fs Kf J gd lv s σ H g k I ht => ?_⟩
  show Sg _ A _ c ((exec (.Expr (.Yield (some e) yp) pos) (envOfC qual scope L f cd)).wrap Kf J gd lv) fs s
  rw [exec_Expr _ _ pos hi rfl]
  have hy : ∀ v, yieldOut (envOfC qual scope L f cd) v = yieldValue v := fun v => by simp only [yieldOut, show (envOfC qual scope L f cd).scope.isCoroutine = false from hco, Bool.false_eq_true, if_false]
  show Sg _ A _ c (.at pos fun _ => ((eval e (envOfC qual scope L f cd) >>= fun v => (standAt yp >>= fun _ => yieldOut (envOfC qual scope L f cd) v)) >>= fun x => dropValue (.Yield (some e) yp) pos x).wrap Kf J gd lv) fs s
  simp only [hy]
  refine sg_at ?_
  rw [Sem.bind_eq_wrap', Sem.bind_eq_wrap', Sem.wrap_wrap, Sem.wrap_wrap]
  refine sg_wrap ?_
  rw [g.over]
  refine wpAny_mono ((he (tr L V.s) V.H).run _ s σ H _ I.2 ht) (fun v s' hs => ?_) fun x s' hx => hx.elim
  obtain ⟨x, H1, I1, r1, m', rfl, q1, q2⟩ := hs
  refine sg_at (sg_yield g.split fun q => ?_)
  refine ⟨by simp [End.quiet, g.gd, g.guard], ip, x, σ, H1, r1, ⟨I.1, I1⟩, q1, fun V' I' h' => ?_⟩
  exact k m' V' .next V'.s ⟨I'.1, σ, V'.H, I'.2, q2 V'.H h'⟩
def tGi (tc : TT) (t u : TGm) : TGm := fun C D m Hr σ H => tc σ H fun b H1 => if b = true then t C D m Hr σ H1 else u C D m Hr σ H1
theorem gt_if {test : Expr} {body orelse : List Stmt} {pos : Pos} {tc : TT} {t u : TGm} (hc : ∀ sb H0, PT (gcx P w K mg base N qual scope f cd A outer L sb H0) test tc) (a : GTb P w K mg base N qual scope f cd A outer L body t) (b : GTb P w K mg base N qual scope f cd A outer L orelse u) :
    GTs P w K mg base N qual scope f cd A outer L (.If test body orelse pos) (tGi tc t u) := by
  refine ⟨fun C D m V ip c fs Kf J gd lv s σ H g k I ht => ?_⟩
  show Sg _ A _ c ((exec (.If test body orelse pos) (envOfC qual scope L f cd)).wrap Kf J gd lv) fs s
  rw [exec_If]
  refine sg_bindW (wpAny_standAt (sg_bindW ?_))
  rw [g.over]
  refine wpAny_mono ((hc (tr L V.s) V.H).run _ s σ H _ I.2 ht) (fun bb s' hs => ?_) fun x s' hx => hx.elim
  obtain ⟨H1, I1, q⟩ := hs
  cases bb with
  | true => exact a.run C D m V ip c fs Kf J gd lv s' σ H1 g k ⟨I.1, I1⟩ q
  | false => exact b.run C D m V ip c fs Kf J gd lv s' σ H1 g k ⟨I.1, I1⟩ q
/-! for -/
def tGf (wi : TI) (gt : TG) (tb : TGm) : TGm := fun C D m Hr σ H => wi σ H fun J H1 => ∃ W : Nat → Nat → Nat → Hp → L2.St → Hp → Prop, (∃ z, W 0 z m Hr σ H1) ∧ ∀ i z m Hr σ H, W i z m Hr σ H →
  (J.stop i H ∧ D.nx m Hr σ H) ∨ (J.go i H ∧ ∃ Nx : Nat → Hp → L2.St → Hp → Prop, (∀ m' Hr' σ' H', Nx m' Hr' σ' H' → ∃ z', z' < z ∧ W (i + 1) z' m' Hr' σ' H') ∧ ∀ x H', J.yld i H x H' → gt x σ H' fun σ2 H2 => tb C { D with nx := Nx, ct := Nx, bk := D.nx } m Hr σ2 H2)
theorem gpl_loop {X A : Around} {c c' : Code} {fs : List Frame} {gd : Bool → Bool} {k : Result → Sem PySem.Fin} {l kp : List Value} {q : Pos} (g : GPl X A c fs gd) (hw : c'.weight = 0) (hu : c'.cUnits = 0) : GPl X A c' (.ret k none (gd false) l c q kp :: fs) id where
  over := (GenW.over_loop hw hu).trans g.over
  split := by
    show (splitAtGen fs).map _ = none
    rw [g.split]; rfl
  guard := by
    show (gd false || fs.any Frame.guarded) = false
    rw [g.gd, g.guard]; rfl
  gd := rfl
theorem gt_for {tg iter : Expr} {body : List Stmt} {pos : Pos} {wi : TI} {gt : TG} {tb : TGm} (hi : ∀ sb H0, PI (gcx P w K mg base N qual scope f cd A outer L sb H0) tg iter wi) (hg : ∀ sb H0, PG (gcx P w K mg base N qual scope f cd A outer L sb H0) tg gt)
    (hb : GTb P w K mg base N qual scope f cd A outer L body tb) (hs : ∀ x, foldedSetIterable iter (envOfC qual scope L f cd) x = pure x := by intro _; rfl) : GTs P w K mg base N qual scope f cd A outer L (.For tg iter body [] pos) (tGf wi gt tb) := by
  refine ⟨fun C D m V ip c fs Kf J gd lv s σ H g k I ht => ?_⟩
  show Sg _ A _ c ((exec (.For tg iter body [] pos) (envOfC qual scope L f cd)).wrap Kf J gd lv) fs s
  rw [exec_For]
  refine sg_bindW (wpAny_standAt (sg_bindW ?_))
  rw [g.over]
  refine wpAny_mono ((hi (tr L V.s) V.H).run _ s σ H _ I.2 ht) (fun v s1 h1 => ?_) fun x s' hx => hx.elim
  refine sg_bindW (wpAny_of_eq (hs v) (sg_bindW (wpAny_standAt (sg_bindW (wpAny_holding ?_)))))
  rw [g.over]
  refine wpAny_mono h1 (fun itv s2 h2 => ?_) fun x s' hx => hx.elim
  obtain ⟨it, fp, tn, Jt, H2, e, I2, T, st2, f2, W, ⟨z0, w0⟩, turn⟩ := h2
  subst e
  have tsz : ∀ V : View, L < V.s.heap.objs.size → (tr L V.s).heap.objs.size = L := fun V h => trH_size (Nat.le_of_lt h)
  have hLb : ∀ b ∈ fp, L ≤ b := fun b hb => by
    have z := (f2 b hb).2.2.2.1
    rcases z with z | z
    · exact absurd (show b ∈ ([] : List Addr) from z) (by simp)
    · have z : (tr L V.s).heap.objs.size ≤ b := z
      rw [tsz V I.1.1] at z
      exact z
  have stat : ∀ (V : View) {H' : Hp}, L < V.s.heap.objs.size → (∀ b ∈ fp, H' b = none) → (∀ b ∈ fp, ∀ p ∈ V.pins ++ ip, p.1 ≠ b) → ∀ b ∈ fp, FpOk (gcx P w K mg base N qual scope f cd A outer L (tr L V.s) V.H) (V.pins ++ ip) H' b := fun V H' hl hn hp b hb =>
    ⟨hn b hb, (f2 b hb).2.1, (f2 b hb).2.2.1, .inr (by show (tr L V.s).heap.objs.size ≤ b; rw [tsz V hl]; exact hLb b hb), (f2 b hb).2.2.2.2.1, fun p hq => hp b hb p (show p ∈ V.pins ++ ip from hq)⟩
  show Sg _ A _ c ((runOwn (.forLoop tg (.ref it) body [] (envOfC qual scope L f cd)) (envOfC qual scope L f cd)).wrap Kf J gd lv) fs s2
  refine sg_call fun q => ?_
  have loop : ∀ (z i m : Nat) (V : View) (s : Shared) (σ : L2.St) (H : Hp), W i z m V.H σ H → GIn P w K mg base N qual scope f cd A outer L V ip σ H s → tn i s.heap → (∀ b ∈ fp, H b = none) → (∀ b ∈ fp, ∀ p ∈ V.pins ++ ip, p.1 ≠ b) →
      Sg (model P w) A (Fut P w K mg base N qual scope f cd A outer L C m V) (.forLoop tg (.ref it) body [] (envOfC qual scope L f cd)) ((model P w).den (.forLoop tg (.ref it) body [] (envOfC qual scope L f cd)))
        (.ret (fun r => ((match r with | .ok f => (.pure f : Sem Flow) | .error e => .raise e).onRaise fun (x : Value) => do
          if (← field x 1) == Value.none then unsupported "frame.own-activation:exception-without-traceback"
          setFlight x (envOfC qual scope L f cd).frame).wrap Kf J gd lv) none (gd false) (lv []) c q [] :: fs) s := by
    intro z
    induction z using Nat.strongRecOn with
    | ind z ih =>
      intro i m V s σ H hw hI hst hfr hpn
      have gl := fun (kk : Result → Sem PySem.Fin) => gpl_loop (k := kk) (c' := .forLoop tg (.ref it) body [] (envOfC qual scope L f cd)) (l := lv []) (kp := []) (q := q) g rfl rfl
      show Sg _ A _ _ ((forTurn tg (.ref it) body [] (envOfC qual scope L f cd)).onRaise _) _ s
      rw [Sem.onRaise_eq_wrap]
      unfold forTurn
      refine sg_bindW (wpAny_standAt (sg_bindW ?_))
      rw [(gl _).over]
      rcases turn i z m V.H σ H hw with ⟨stop, qn⟩ | ⟨go, Nx, hN, step⟩
      · refine wpAny_onRaise (wpAny_mono (T.done (gcx P w K mg base N qual scope f cd A outer L (tr L V.s) V.H) rfl rfl rfl rfl i _ s σ H (fun _ _ => False) hI.2 (stat V hI.1.1 hfr hpn) hst stop) (fun r s4 ⟨hr, I4⟩ => ?_) fun _ _ hx => hx.elim)
        subst hr
        refine sg_again rfl ?_
        exact sg_leaf (.ok .next) (k m V .next s4 ⟨hI.1, σ, H, I4, qn⟩)
      · refine wpAny_onRaise (wpAny_mono (T.item (gcx P w K mg base N qual scope f cd A outer L (tr L V.s) V.H) rfl rfl rfl rfl i _ s σ H (fun _ _ => False) hI.2 (stat V hI.1.1 hfr hpn) hst go) (fun r s4 ⟨u, hr, h4⟩ => ?_) fun _ _ hx => hx.elim)
        subst hr
        refine sg_bindW ?_
        rw [(gl _).over]
        refine wpAny_mono h4 (fun _ s5 ⟨x, H5, I5, r5, y5, st5, fr5⟩ => ?_) fun _ _ hx => hx.elim
        have I5' := I5.pinned (stat V hI.1.1 fr5 hpn) (T.obj _ _ st5)
        refine sg_bindW ?_
        rw [(gl _).over]
        refine wpAny_mono ((hg (tr L V.s) V.H).run _ s5 σ H5 x u _ I5' r5 (step x H5 y5)) (fun _ s6 ⟨σ6, H6, I6, q6⟩ => ?_) fun _ _ hx => hx.elim
        rw [Sem.bind_eq_wrap', Sem.wrap_wrap]
        have dis : ∀ V' : View, (∀ p ∈ V'.pins, ∀ q ∈ ip ++ pinsAt fp s5.heap, p.1 ≠ q.1) → (∀ b ∈ ip, ∀ c ∈ fp, b.1 ≠ c) → ∀ b ∈ fp, ∀ p ∈ V'.pins ++ ip, p.1 ≠ b := fun V' h1 h2 b hb p hp => by
          rcases List.mem_append.mp hp with hp | hp
          · obtain ⟨o, e, _⟩ := T.obj _ _ st5 b hb
            exact h1 p hp (b, o) (List.mem_append_right _ (mem_pinsAt hb e))
          · exact h2 p hp b hb
        have ipf : ∀ b ∈ ip, ∀ c ∈ fp, b.1 ≠ c := fun b hb c hc => hpn c hc b (List.mem_append_right _ hb)
        have I6' : Inv (gcx P w K mg base N qual scope f cd A outer L (tr L V.s) V.H) (V.pins ++ (ip ++ pinsAt fp s5.heap)) σ6 H6 s6 := by rw [← List.append_assoc]; exact I6
        refine hb.run C { D with nx := Nx, ct := Nx, bk := D.nx } m V (ip ++ pinsAt fp s5.heap) _ _ _ _ _ _ s6 σ6 H6 ⟨(gl _).over, (gl _).split, (gl _).guard, rfl⟩ (fun m' V' fl s7 hs7 => ?_) ⟨⟨hI.1.1, fun p hp q hq => ?_, fun q hq => ?_⟩, I6'⟩ q6
        · obtain ⟨⟨o1, o2, _⟩, hs7⟩ := hs7
          have o3 : GOk L V' ip := ⟨o1, fun p hp q hq => o2 p hp q (List.mem_append_left _ hq), hI.1.2.2⟩
          have un : ∀ {σ' : L2.St} {H' : Hp}, Inv (gcx P w K mg base N qual scope f cd A outer L (tr L V'.s) V'.H) (V'.pins ++ (ip ++ pinsAt fp s5.heap)) σ' H' s7 → Inv (gcx P w K mg base N qual scope f cd A outer L (tr L V'.s) V'.H) (V'.pins ++ ip) σ' H' s7 := fun {σ' H'} I' => by
            rw [← List.append_assoc] at I'
            exact I'.unpinned
          have again : ∀ {σ7 : L2.St} {H7 : Hp}, Inv (gcx P w K mg base N qual scope f cd A outer L (tr L V'.s) V'.H) (V'.pins ++ (ip ++ pinsAt fp s5.heap)) σ7 H7 s7 → Nx m' V'.H σ7 H7 → ∃ z', z' < z ∧ W (i + 1) z' m' V'.H σ7 H7 ∧ tn (i + 1) s7.heap ∧ ∀ b ∈ fp, H7 b = none := fun {σ7 H7} I7 n7 => by
            obtain ⟨z', hz, w7⟩ := hN m' V'.H σ7 H7 n7
            have pin : ∀ b ∈ fp, ∀ o, s5.heap.get? b = some o → s7.heap.get? b = some o ∧ H7 b = none := fun b hb o e => by
              have z := I7.pin (b, o) (List.mem_append_right _ (List.mem_append_right _ (List.mem_append_right _ (mem_pinsAt hb e))))
              exact ⟨z.1, z.2.1⟩
            refine ⟨z', hz, w7, T.keep _ _ _ st5 fun b hb o e => (pin b hb o e).1, fun b hb => ?_⟩
            obtain ⟨o, e, _⟩ := T.obj _ _ st5 b hb
            exact (pin b hb o e).2
          cases fl with
          | next =>
            obtain ⟨σ7, H7, I7, n7⟩ := hs7
            obtain ⟨z', hz, w7, t7, e7⟩ := again I7 n7
            exact sg_again rfl (ih z' hz (i + 1) m' V' s7 σ7 H7 w7 ⟨o3, un I7⟩ t7 e7 (dis V' o2 ipf))
          | cont =>
            obtain ⟨σ7, H7, I7, n7⟩ := hs7
            obtain ⟨z', hz, w7, t7, e7⟩ := again I7 n7
            exact sg_again rfl (ih z' hz (i + 1) m' V' s7 σ7 H7 w7 ⟨o3, un I7⟩ t7 e7 (dis V' o2 ipf))
          | brk => obtain ⟨σ7, H7, I7, n7⟩ := hs7; exact sg_leaf (.ok .next) (k m' V' .next s7 ⟨o3, σ7, H7, un I7, n7⟩)
          | ret v => obtain ⟨x7, σ7, H7, I7, r7, n7⟩ := hs7; exact sg_leaf (.ok (.ret v)) (k m' V' (.ret v) s7 ⟨o3, x7, σ7, H7, un I7, r7, n7⟩)
        · rcases List.mem_append.mp hq with hq | hq
          · exact hI.1.2.1 p hp q hq
          · exact hpn q.1 (of_pinsAt hq).1 p (List.mem_append_left _ hp)
        · rcases List.mem_append.mp hq with hq | hq
          · exact hI.1.2.2 q hq
          · exact Nat.lt_of_le_of_ne (hLb q.1 (of_pinsAt hq).1) (Ne.symm (f2 q.1 (of_pinsAt hq).1).2.1)
  exact loop z0 0 m V s2 σ H2 w0 ⟨I.1, I2⟩ st2 (fun b hb => (f2 b hb).1) fun b hb p hp => (f2 b hb).2.2.2.2.2 p hp
end
/-! ### a generator sleeps; it is woken anew -/
/-- a generator def's names: the parameters first, none of them captured -/
structure GScp (N ps : List Str) (sc : Scope) : Prop where
  kind : sc.kind = .function
  co : sc.isCoroutine = false
  gen : sc.isGenerator = true
  nd : N.Nodup
  pre : N.take ps.length = ps
  par : ∀ x ∈ ps, sc.names.lookup x = some .local
  loc : ∀ y ∈ sc.names, y.2 ≠ .free ∧ y.2 ≠ .cell
  nc : ∀ n, cellsFrom n sc.names [] = []
theorem GScp.kindOf {N ps : List Str} {sc : Scope} (S : GScp N ps sc) {x : Str} (h : sc.names.lookup x = some .cell ∨ sc.names.lookup x = some .free) : False := by
  rcases h with h | h
  · exact (S.loc _ (PySem.mem_of_lookup h)).2 rfl
  · exact (S.loc _ (PySem.mem_of_lookup h)).1 rfl
/-- its slots, as they stand in its frame -/
def Slp (N : List Str) (scope : Scope) (L : Addr) (σ : L2.St) (h : Heap) : Prop :=
  σ.length = N.length ∧ ∃ m, h.Ns L m ∧ ∀ (i : Nat) (x : Str) (v : V), N[i]? = some x → σ[i]? = some (some v) → Vis scope x → ∃ u, RelV v u ∧ scope.names.lookup x = some .local ∧ m x = some u
theorem Slp.at {N : List Str} {scope : Scope} {L : Addr} {σ : L2.St} {h h' : Heap} (z : Slp N scope L σ h) (e : ∀ o, h.get? L = some o → h'.get? L = some o) : Slp N scope L σ h' := by
  obtain ⟨l, m, n, q⟩ := z
  exact ⟨l, m, n.at' e, q⟩
/-- what a def's own things are older than -/
structure OldX (X : Cx) (pins : List (Addr × Obj)) (L : Addr) : Prop where
  loc : X.env.locals < L
  cel : ∀ x c, X.env.cells.lookup x = some c → c < L
  pin : ∀ p ∈ X.pn ++ pins, p.1 < L
  s0 : X.s_0.heap.objs.size ≤ L
  bas : X.base.objs.size ≤ L
  frm : ∀ b ∈ frs X.stack, b < L
theorem old_of {X : Cx} {pins : List (Addr × Obj)} {σ : L2.St} {H : Hp} {s : Shared} {L : Addr} (I : Inv X pins σ H s) (h : s.heap.objs.size ≤ L) : OldX X pins L where
  loc := Nat.lt_of_lt_of_le I.lt h
  cel := fun x c e => by
    obtain ⟨v, q⟩ := I.cell x c e
    exact Nat.lt_of_lt_of_le q.lt h
  pin := fun p hp => Nat.lt_of_lt_of_le (Heap.lt_size (I.pin p hp).1) h
  s0 := Nat.le_trans I.sz h
  bas := Nat.le_trans (Nat.le_trans I.ok.bsz I.sz) h
  frm := fun b hb => by
    obtain ⟨_, o, ho, _⟩ := I.stack.mem hb
    exact Nat.lt_of_lt_of_le (Heap.lt_size ho) h
theorem regens {X : Cx} {pins : List (Addr × Obj)} {σ : L2.St} {H : Hp} {s s' : Shared} (I : Inv X pins σ H s) (h : s'.heap = s.heap) (o : s'.os = s.os) (g : AllBare s'.gens) : Inv X pins σ H s' :=
  ⟨I.ok, o.trans I.os, g, by rw [h]; exact I.base, by rw [h]; exact I.loc, by rw [h]; exact I.cell, I.free, I.freeC, by rw [h]; exact I.pin, by rw [h]; exact I.hok, I.len⟩
theorem trFrames {L : Nat} {h base : Heap} : ∀ {l : List Env}, h.FunFrames base l → (∀ b ∈ frs l, b < L) → (trH L h).FunFrames base l
  | [], _, _ => trivial
  | env :: l, q, hb => by
    obtain ⟨q1, ⟨a, o, e1, e2, e3, e4⟩, q3⟩ := q
    refine ⟨q1, ⟨a, o, e1, e2, ?_, e4⟩, trFrames q3 fun b hm => hb b ?_⟩
    · rw [trH_get (hb a (by unfold frs; simp [e1]))]; exact e3
    · unfold frs at hm ⊢
      rw [List.filterMap_cons, e1]
      exact List.mem_cons_of_mem _ hm
section
variable {X : Cx} {pins pv ip : List (Addr × Obj)} {σc σ : L2.St} {H H' : Hp} {s s' : Shared} {L f : Addr} {N ps : List Str} {qual : Str} {scope : Scope} {cd : Value} {A : Around}
/-- these objects stand, untracked, apart from the frame at L and from the callers' -/
def Stand (X : Cx) (L : Addr) (H : Hp) (h : Heap) (ip : List (Addr × Obj)) : Prop := ∀ p ∈ ip, h.get? p.1 = some p.2 ∧ H p.1 = none ∧ L < p.1 ∧ ∀ v, p.2.data ≠ .cell v
theorem gin_of (I : Inv X pins σc H s) (O : OldX X pins L) (S : GScp N ps scope) (hh : A.handled = none) (hA : A.frames = some X.stack) (hL : L < s.heap.objs.size) (hL0 : H L = none) (z : Slp N scope L σ s.heap) (hp : Stand X L H s.heap (pv ++ ip)) (hd : ∀ p ∈ pv, ∀ q ∈ ip, p.1 ≠ q.1) :
    GIn X.prog X.w X.K X.mg X.base N qual scope f cd A X.stack L ⟨s, H, pv⟩ ip σ H s := by
  obtain ⟨zl, m, zn, zq⟩ := z
  have sz : (trH L s.heap).objs.size = L := trH_size (Nat.le_of_lt hL)
  have noA : ∀ b : Addr, b ∉ ([] : List Addr) := fun b z => by simp at z
  have noC : ∀ x c, (envOfC qual scope L f cd).cells.lookup x = some c → False := fun x c e => by
    have e : (cellsFrom (L + 1) scope.names []).lookup x = some c := e
    rw [S.nc] at e
    cases e
  refine ⟨⟨hL, hd, fun q hq => (hp q (List.mem_append_right _ hq)).2.2.1⟩, ⟨⟨I.ok.mod, S.kind, rfl, rfl, by show (trH L s.heap).objs.size ≤ L; omega, fun x y c h1 _ => (noC x c h1).elim, fun x hx => (S.kindOf hx).elim, fun x c _ h1 => (noC x c h1).elim, fun _ => hh, Around.frames_deeper hA, .inr ⟨rfl, rfl⟩, fun b hb => absurd hb (noA b), fun b o e => ?_, by show _ ≤ (trH L s.heap).objs.size; rw [sz]; exact O.bas, fun b _ _ => noA b, fun b hb => absurd hb (noA b), trFrames I.stack O.frm, I.stkFree⟩,
    rfl, I.bare, ?_, ⟨m, zn, fun i x v e1 e2 e3 => ?_⟩, fun x c h1 => (noC x c h1).elim, hL0, fun x c h1 => (noC x c h1).elim, fun p hq => ?_, I.hok, zl⟩⟩
  · have z := I.bs b o e
    exact ⟨by show (trH L s.heap).get? b = some o; rw [trH_get (Nat.lt_of_lt_of_le (Heap.lt_size e) O.bas)]; exact z.1, z.2⟩
  · exact Un.kept fun b u q => (trH_sub q).1
  · obtain ⟨u, r, k, q⟩ := zq i x v e1 e2 e3
    exact ⟨u, r, .inl ⟨k, q⟩⟩
  · have hq : p ∈ pv ++ ip := hq
    obtain ⟨h1, h2, h3, h4⟩ := hp p hq
    exact ⟨h1, h2, Nat.ne_of_gt h3, fun hb => absurd (O.frm p.1 hb) (Nat.lt_asymm h3), h4⟩
/-- all addresses from L on -/
def young (L : Nat) (h : Heap) : List Addr := (List.range h.objs.size).filter fun b => decide (L ≤ b)
theorem mem_young {L b : Nat} {h : Heap} : b ∈ young L h ↔ b < h.objs.size ∧ L ≤ b := by simp [young]
/-- what the consumer knows behind a stretch -/
theorem gin_back (I : Inv X pins σc H s) (O : OldX X pins L) (S : GScp N ps scope) (G : GIn X.prog X.w X.K X.mg X.base N qual scope f cd A X.stack L ⟨s, H, pv⟩ ip σ H' s') :
    Inv X pins σc H' s' ∧ Slp N scope L σ s'.heap ∧ H' L = none ∧ (∀ p ∈ pv ++ ip, s'.heap.get? p.1 = some p.2 ∧ H' p.1 = none ∧ p.1 ≠ L ∧ ∀ v, p.2.data ≠ .cell v) ∧ (∀ p ∈ pv, ∀ q ∈ ip, p.1 ≠ q.1) ∧ (∀ q ∈ ip, L < q.1) ∧ (∀ b o, b < L → s.heap.get? b = some o → H b = none → b ∉ frs X.stack → s'.heap.get? b = some o) := by
  obtain ⟨⟨hL, hd, hy⟩, J⟩ := G
  have U : Un (frs X.stack) [] H H' (trH L s.heap) s'.heap := J.base
  have noA : ∀ b : Addr, b ∉ ([] : List Addr) := fun b z => by simp at z
  refine ⟨I.call' (ch := young L s.heap) (J.os.trans rfl) ⟨fun b o e n hf hx => ?_, fun b o e n hf hx => ?_, fun b o e n hx => ?_, fun b o e hx => ?_, U.tups, U.frzs, U.tbls⟩ J.hok J.bare (fun b hb => ?_), ?_, J.free, fun p hp => ?_, hd, hy, fun b o l e n hf => ?_⟩
  · have l : b < L := Nat.lt_of_not_le fun z => hx (mem_young.mpr ⟨Heap.lt_size e, z⟩)
    exact U.keep b o (by rw [trH_get l]; exact e) n hf (noA b)
  · have l : b < L := Nat.lt_of_not_le fun z => hx (mem_young.mpr ⟨Heap.lt_size e, z⟩)
    exact U.slot b o (by rw [trH_get l]; exact e) n hf (noA b)
  · have l : b < L := Nat.lt_of_not_le fun z => hx (mem_young.mpr ⟨Heap.lt_size e, z⟩)
    exact U.free b o (by rw [trH_get l]; exact e) n (noA b)
  · have l : b < L := Nat.lt_of_not_le fun z => hx (mem_young.mpr ⟨Heap.lt_size e, z⟩)
    exact U.there b o (by rw [trH_get l]; exact e) (noA b)
  · have hb := (mem_young.mp hb).2
    exact ⟨.inr (Nat.le_trans O.s0 hb), Nat.ne_of_gt (Nat.lt_of_lt_of_le O.loc hb), fun x c e => Nat.ne_of_lt (Nat.lt_of_lt_of_le (O.cel x c e) hb), fun p hp => Nat.ne_of_lt (Nat.lt_of_lt_of_le (O.pin p hp) hb)⟩
  · obtain ⟨m, hn, hq⟩ := J.loc
    refine ⟨J.len, m, hn, fun i x v e1 e2 e3 => ?_⟩
    obtain ⟨u, r, q⟩ := hq i x v e1 e2 e3
    rcases q with ⟨q1, q2⟩ | ⟨q1, _⟩
    · exact ⟨u, r, q1, q2⟩
    · exact (S.kindOf q1).elim
  · obtain ⟨h1, h2, h3, h4, h5⟩ := J.pin p hp
    exact ⟨h1, h2, h3, h5⟩
  · exact U.keep b o (by rw [trH_get l]; exact e) n hf (noA b)
end
/-! ### waking it: next -/
def Go1 (M : Model) (A : Around) (Φ : End → Shared → Prop) (gs : GenState) (s : Shared) : Prop := match gs with
  | .fresh c => Sg M A Φ c (M.den c) [] s
  | .suspended k _ c _ fs _ => Sg M A Φ c (k (.send .none)) fs s
  | _ => False
section
variable {M : Model} {A : Around} {Φ : End → Shared → Prop} {E : Value → Shared → Prop} {s : Shared}
theorem resumeS {α : Type} {k : GenResult → Sem α} {Q : α → Shared → Prop} {l : List Value} {g : Nat} {gs : GenState} (hg : s.gens[g]? = some gs) (go : Go1 M A Φ gs (s.setGen g .running))
    (hR : ∀ r s₁, Φ (.ret r) s₁ → wpAny M A (k (End.ret r).result) Q E (s₁.setGen g .finished))
    (hY : ∀ v d l' k' c p fs s₁, s.gens.size ≤ s₁.gens.size → Φ (.susp v d l' k' c p fs) s₁ → (End.susp v d l' k' c p fs).quiet = true ∧ wpAny M A (k (.yielded v)) Q E (s₁.setGen g (End.susp v d l' k' c p fs).genState)) :
    wpAny M A (.resume g (.send .none) l k) Q E s := by
  intro Γ q hΓ
  rw [Sem.wp_resume]
  have fin : ∀ e₁ s₁, s.gens.size ≤ s₁.gens.size → Φ e₁ s₁ → e₁.quiet = true ∧ wp M Γ (k e₁.result) (fun a _ z => Q a z) (fun x _ z => E x z) q (s₁.setGen g e₁.genState) := fun e₁ s₁ hz he => by
    cases e₁ with
    | ret r => exact ⟨rfl, hR r s₁ he Γ q hΓ⟩
    | susp v d l' k' c p fs =>
      obtain ⟨h1, h2⟩ := hY v d l' k' c p fs s₁ hz he
      exact ⟨h1, h2 Γ q hΓ⟩
  cases gs with
  | fresh c =>
    obtain ⟨e₁, s₁, hr, he⟩ := go (Γ.wake c q) q rfl (hΓ.wake c q)
    have hz : s.gens.size ≤ s₁.gens.size := by have z := GenW.runs_gsz hr; rw [GenW.setGen_size] at z; exact z
    obtain ⟨h1, h2⟩ := fin e₁ s₁ hz he
    exact ⟨_, _, by unfold Wakes; rw [hg]; exact ⟨e₁, s₁, hr, h1, rfl, rfl⟩, h2⟩
  | suspended k₀ l₀ c₀ p₀ fs₀ cl =>
    obtain ⟨e₁, s₁, hr, he⟩ := go (Γ.wake c₀ q) p₀ rfl (hΓ.wake c₀ q)
    have hz : s.gens.size ≤ s₁.gens.size := by have z := GenW.runs_gsz hr; rw [GenW.setGen_size] at z; exact z
    obtain ⟨h1, h2⟩ := fin e₁ s₁ hz he
    exact ⟨_, _, by unfold Wakes; rw [hg]; exact ⟨e₁, s₁, hr, h1, rfl, rfl⟩, h2⟩
  | running => exact go.elim
  | finished => exact go.elim
end
section
variable {P : Program} {w : World} {A : Around} {Φ : End → Shared → Prop} {E : Value → Shared → Prop} {s : Shared}
theorem nextS {a : Addr} {g : Nat} {gs : GenState} {Q : Option Value → Shared → Prop} (hh : A.handled = none) (hl : s.heap.NoLimit) (hroom : A.depth < recursionLimit) (hg : s.heap.IsGen a g) (hgs : s.gens[g]? = some gs)
    (go : Go1 (model P w) A.in1 Φ gs (s.setGen g .running))
    (hP : ∀ r s₁, Φ (.ret r) s₁ → r = .ok (.ret .none) ∧ ∀ h', (∀ b o, s₁.heap.get? b = some o → h'.get? b = some o) → Q none { s₁.setGen g .finished with heap := h' })
    (hY : ∀ v d l' k' c p fs s₁, s.gens.size ≤ s₁.gens.size → Φ (.susp v d l' k' c p fs) s₁ → (End.susp v d l' k' c p fs).quiet = true ∧ Q (some v) (s₁.setGen g (End.susp v d l' k' c p fs).genState)) :
    wpAny (model P w) A (pyNext (.ref a)) Q E s := by
  unfold pyNext
  refine wpAny_bind (wpAny_attempt (wpAny_callSpecial?_slot (name := Str.ofString "__next__") hg.typeIs slot_gen_next (wpAny_call_entry slot_gen_next hg.typeIs entry_gen_next ?_ (args_gen_next _))))
  show wpAny _ A.in1 (Builtin.Generator.genWake (.ref a) (.send .none)) _ _ s
  unfold Builtin.Generator.genWake
  refine wpAny_bind (wpAny_holding (wpAny_genNumber hg (wpAny_bind (wpAny_genState hgs ?_))))
  cases gs with
  | running => exact go.elim
  | finished => exact go.elim
  | _ =>
    refine wpAny_bind (wpAny_roomToWake hl hroom ?_)
    show wpAny _ A.in1 (.resume g (.send .none) [] _) _ _ s
    refine resumeS hgs go (fun r s₁ he => ?_) (fun v d l' k' c p fs s₁ hz he => ?_)
    · obtain ⟨rfl, hq⟩ := hP r s₁ he
      show wpAny _ A.in1 (newExc (.type "StopIteration") [] >>= _) _ _ _
      refine wpAny_bind ?_
      simp only [newExc, newTuple]
      refine wpAny_bind (wpAny_newObj_type ?_ (by size_fits))
      refine wpAny_bind (m := firstArgMember _ _) (wpAny_of_eq (a := Value.none) (by first | rfl | (simp only [firstArgMember]; rfl)) ?_)
      refine wpAny_newObj_type ?_ (by size_fits)
      simp only [raiseNew]
      refine wpAny_bind (wpAny_bind (wpAny_handled ?_))
      first | rw [show A.in1.handled = none from hh] | rw [hh]
      refine wpAny_throw ?_
      refine wpAny_bind (wpAny_isInstance (T := "StopIteration") (b := true) ⟨_, Heap.get?_push_size _ rfl, rfl⟩ isSubtype_stop ?_)
      exact wpAny_pure (hq _ fun b o hb => Heap.get?_push_of_some _ (Heap.get?_push_of_some _ hb))
    · obtain ⟨h1, h2⟩ := hY v d l' k' c p fs s₁ hz he
      exact ⟨h1, wpAny_pure ⟨v, rfl, wpAny_pure h2⟩⟩
end
/-! ### a generator def called -/
/-- a generator that has not begun: a its object, g its number, L its frame, σ its slots; n items by the contract C, made at H -/
structure GMk (P : Program) (w : World) (K : PySem.W.Frag) (mg : Str → Option Value) (base : Heap) (k : Nat) (C : Ctr) (n : Nat) (H : Hp) (outer : List Env) (s : Shared) (a g : Nat) (N ps : List Str) (qual : Str) (scope : Scope) (f : Addr) (cd : Value) (body : List Stmt) (σ : L2.St) (s' : Shared) : Prop where
  la : s.heap.objs.size < a
  lt : a < s'.heap.objs.size
  isg : s'.heap.IsGen a g
  gs : s'.gens[g]? = some (.fresh (.func body (envOfC qual scope s.heap.objs.size f cd)))
  os : s'.os = s.os
  bare : AllBare s'.gens
  keep : ∀ b o, s.heap.get? b = some o → s'.heap.get? b = some o
  slp : Slp N scope s.heap.objs.size σ s'.heap
  scp : GScp N ps scope
  go : ∀ A : Around, Room k A → A.frames = some outer → ∀ V : View, GIn P w K mg base N qual scope f cd A outer s.heap.objs.size V [] σ V.H V.s → C.ok n H V.H →
    Sg (model P w) A (Fut P w K mg base N qual scope f cd A outer s.heap.objs.size C n V) (.func body (envOfC qual scope s.heap.objs.size f cd)) ((model P w).den (.func body (envOfC qual scope s.heap.objs.size f cd))) [] V.s
/-- a generator def's promise: arguments, heap, what is wanted of the number of its items and of its contract -/
abbrev SpM := List V → Hp → (Nat → Ctr → Prop) → Prop
structure GFm (P : Program) (w : World) (K : PySem.W.Frag) (mg : Str → Option Value) (base : Heap) (k : Nat) (f : Addr) (fd : FuncData) (ps : List Str) (sp : SpM) : Prop where
  len : ∀ vs H R, sp vs H R → vs.length = ps.length
  run : ∀ (A : Around) (outer : List Env) (s : Shared) (H : Hp) (args : Args) (us : List Value) (vs : List V) (R : Nat → Ctr → Prop), Room k A → Env0 P w K mg base A outer s H → BindsTo s fd args (ps.zip us) → Vals vs us → sp vs H R →
    codeAny (model P w) A (.call (.ref f) args) (fun r s' => ∃ n C a g N qual scope cd body σ, r = .ok (.ret (.ref a)) ∧ R n C ∧ GMk P w K mg base k C n H outer s a g N ps qual scope f cd body σ s') s
theorem gfm_of {P : Program} {w : World} {K : PySem.W.Frag} {mg : Str → Option Value} {base : Heap} {k : Nat} {f : Addr} {name qual : Str} {params : Arguments} {body : List Stmt} {scope : Scope} {dV kV doc pm cdv ct oc : Value} {an od : Option Addr}
    {osl : Array (Option Value)} {N ps : List Str} {sp : SpM} (lk : K.lookup f = some ⟨oc, od, .func (PySem.W.fnOf name qual params body scope dV kV doc pm an cdv ct), osl⟩) (hcd : PySem.W.codeIn K cdv qual = true) (S : GScp N ps scope)
    (len : ∀ vs H R, sp vs H R → vs.length = ps.length)
    (hbody : ∀ (A : Around) (outer : List Env) (L : Addr) (H : Hp) (vs : List V) (R : Nat → Ctr → Prop), sp vs H R → ∃ n C, R n C ∧ ∀ (A : Around) (outer : List Env) (L : Addr), Room k (A.deeper (envOfC qual scope L f cdv)) → ∃ t, GTb P w K mg base N qual scope f cdv A outer L body t ∧
      ∀ H2, C.ok n H H2 → t C { nx := fun m Hr _ H' => m = 0 ∧ C.fin Hr H', rt := fun m Hr v H' => v = .non ∧ m = 0 ∧ C.fin Hr H' } n H2 (start N vs) H2) :
    GFm P w K mg base (k + 1) f (PySem.W.fnOf name qual params body scope dV kV doc pm an cdv ct) ps sp := by
  refine ⟨len, fun A outer s H args us vs R hr e0 hb r hsp => ?_⟩
  have hl := len _ _ _ hsp
  have KX : K.In s.heap := e0.mod.kin.keeps fun b o e => (e0.bs b o e).1
  have lim : s.heap.NoLimit := e0.mod.nolimit.keeps fun b o e => (e0.bs b o e).1
  have hkind : ∀ y ∈ ps.zip us, scope.names.lookup y.1 = some .local ∨ (scope.names.lookup y.1 = some .cell ∧ ((cellsFrom (s.heap.objs.size + 1) scope.names []).lookup y.1).isSome = true) := fun ⟨n, v⟩ hy => .inl (S.par n (List.of_mem_zip hy).1)
  obtain ⟨n, C, hR, hgo⟩ := hbody A outer s.heap.objs.size H vs R hsp
  refine codeAny_call_generator hr.depth (KX _ _ lk) rfl S.co S.gen rfl (PySem.W.codeRec_of KX hcd) (hb _ _ _ _ ?_)
  refine wpAny_newFunctionEnv_cells S.kind hkind fun env he s1 x => ?_
  subst he
  have lim1 : s1.heap.NoLimit := lim.keeps x.toInCall.keep
  refine ⟨lim1, ?_⟩
  obtain ⟨h1, tk, es1, hk1⟩ := x.done
  have os1 : s1.os = s.os := by rw [es1]
  have gen1 : s1.gens = s.gens := by rw [es1]
  have lt1 : s.heap.objs.size < s1.heap.objs.size := x.toInCall.ns.lt
  have kp1 : ∀ b o, s.heap.get? b = some o → s1.heap.get? b = some o := x.toInCall.keep
  have hpl : ps.length ≤ N.length := by have := congrArg List.length S.pre; rw [List.length_take] at this; omega
  have ndP : ps.Nodup := by rw [← S.pre]; exact S.nd.sublist (List.take_sublist _ _)
  refine ⟨n, C, _, s1.gens.size, N, qual, scope, cdv, body, start N vs, rfl, hR, lt1, ?_, ⟨_, _, _, Heap.get?_push_size _ rfl, rfl, rfl, rfl⟩, Array.getElem?_push_size .., os1, AllBare.push (by rw [gen1]; exact e0.bare) rfl, fun b o e => Heap.get?_push_of_some _ (kp1 b o e), ?_, S, ?_⟩
  · show _ < (s1.heap.push _).objs.size
    rw [Heap.size_push]; exact Nat.lt_succ_self _
  · refine Slp.at (h := s1.heap) ⟨?_, _, x.toInCall.ns, fun i y v h1 h2 h3 => ?_⟩ (fun o e => Heap.get?_push_of_some _ e)
    · unfold L2.start
      rw [List.length_append, List.length_map, List.length_replicate]
      omega
    · have hi : i < vs.length := by
        unfold L2.start at h2
        by_cases hi : i < vs.length
        · exact hi
        · rw [List.getElem?_append_right (by simpa using hi), List.getElem?_replicate] at h2
          split at h2 <;> cases h2
      have ha : vs[i]? = some v := by
        unfold L2.start at h2
        rw [List.getElem?_append_left (by simpa using hi), List.getElem?_map] at h2
        cases e : vs[i]? with
        | none => rw [e] at h2; cases h2
        | some a => rw [e] at h2; cases h2; rfl
      obtain ⟨u, hu, rv⟩ := r.get ha
      have hp : ps[i]? = some y := by
        rw [← S.pre, List.getElem?_take_of_lt (by omega)]; exact h1
      have k := S.par y (List.mem_of_getElem? hp)
      exact ⟨u, rv, k, bindL_get ndP hp hu k⟩
  · intro Aw hrw hfr V G hok
    obtain ⟨t, ht, hq⟩ := hgo Aw outer s.heap.objs.size (hrw.deeper _)
    show Sg _ Aw _ _ (.point [] fun _ => ((execs body (envOfC qual scope s.heap.objs.size f cdv)).onRaise (leaving (envOfC qual scope s.heap.objs.size f cdv))) >>= _) [] V.s
    refine sg_point ?_
    rw [Sem.onRaise_eq_wrap, Sem.bind_eq_wrap', Sem.wrap_wrap]
    refine ht.run C _ n V [] _ [] _ _ _ _ V.s _ V.H ⟨GenW.over_func, rfl, rfl, rfl⟩ (fun m' V' fl s' hs => ?_) G (hq V.H hok)
    obtain ⟨o, hs⟩ := hs
    cases fl with
    | next =>
      obtain ⟨σ', H', I', q⟩ := hs
      exact sg_end (.ok (.ret .none)) (fut_ret ⟨rfl, q.1, [], σ', H', ⟨o, I'⟩, q.2⟩)
    | brk => obtain ⟨_, _, _, q⟩ := hs; exact False.elim q
    | cont => obtain ⟨_, _, _, q⟩ := hs; exact False.elim q
    | ret u =>
      obtain ⟨v, σ', H', I', rv, ev, q⟩ := hs
      subst ev
      have eu : u = Value.none := rv
      subst eu
      exact sg_end (.ok (.ret .none)) (fut_ret ⟨rfl, q.1, [], σ', H', ⟨o, I'⟩, q.2⟩)
/-! ### enumerate over a generator -/
section
variable {P : Program} {w : World} {A : Around} {Φ : End → Shared → Prop} {E : Value → Shared → Prop} {s : Shared}
/-- the protocol's own next: the end is an exception -/
theorem nextOfS {a : Addr} {g : Nat} {gs : GenState} {Q : Value → Shared → Prop} (hh : A.handled = none) (hl : s.heap.NoLimit) (hroom : A.depth < recursionLimit) (hg : s.heap.IsGen a g) (hgs : s.gens[g]? = some gs)
    (go : Go1 (model P w) A.in1 Φ gs (s.setGen g .running))
    (hP : ∀ r s₁, Φ (.ret r) s₁ → r = .ok (.ret .none) ∧ ∀ h' e, (∀ b o, s₁.heap.get? b = some o → h'.get? b = some o) → (∃ o, h'.get? e = some o ∧ o.cls = .type "StopIteration") → E (.ref e) { s₁.setGen g .finished with heap := h' })
    (hY : ∀ v d l' k' c p fs s₁, s.gens.size ≤ s₁.gens.size → Φ (.susp v d l' k' c p fs) s₁ → (End.susp v d l' k' c p fs).quiet = true ∧ Q v (s₁.setGen g (End.susp v d l' k' c p fs).genState)) :
    wpAny (model P w) A (Builtin.SmallTypes.nextOf (.ref a)) Q E s := by
  unfold Builtin.SmallTypes.nextOf
  refine wpAny_bind (wpAny_callSpecial?_slot (name := Str.ofString "__next__") hg.typeIs slot_gen_next (wpAny_call_entry slot_gen_next hg.typeIs entry_gen_next ?_ (args_gen_next _)))
  show wpAny _ A.in1 (Builtin.Generator.genWake (.ref a) (.send .none)) _ _ s; unfold Builtin.Generator.genWake
  refine wpAny_bind (wpAny_holding (wpAny_genNumber hg (wpAny_bind (wpAny_genState hgs ?_))))
  cases gs with
  | running => exact go.elim
  | finished => exact go.elim
  | _ =>
    refine wpAny_bind (wpAny_roomToWake hl hroom ?_)
    show wpAny _ A.in1 (.resume g (.send .none) [] _) _ _ s
    refine resumeS hgs go (fun r s₁ he => ?_) (fun v d l' k' c p fs s₁ hz he => ?_)
    · obtain ⟨rfl, hq⟩ := hP r s₁ he
      show wpAny _ A.in1 (newExc (.type "StopIteration") [] >>= _) _ _ _; refine wpAny_bind ?_; simp only [newExc, newTuple]
      refine wpAny_bind (wpAny_newObj_type ?_ (by size_fits)); refine wpAny_bind (m := firstArgMember _ _) (wpAny_of_eq (a := Value.none) (by first | rfl | (simp only [firstArgMember]; rfl)) ?_)
      refine wpAny_newObj_type ?_ (by size_fits); simp only [raiseNew]; refine wpAny_bind (wpAny_bind (wpAny_handled ?_))
      first | rw [show A.in1.handled = none from hh] | rw [hh]
      refine wpAny_throw ?_
      exact hq _ _ (fun b o hb => Heap.get?_push_of_some _ (Heap.get?_push_of_some _ hb)) ⟨_, Heap.get?_push_size _ rfl, rfl⟩
    · obtain ⟨h1, h2⟩ := hY v d l' k' c p fs s₁ hz he
      exact ⟨h1, wpAny_pure ⟨v, rfl, wpAny_pure h2⟩⟩
/-- one step of enumerate, whatever it walks -/
theorem enumStep {e it : Addr} {c : Int} {old : Value} {Q : Value → Shared → Prop} (he : IsEnum s.heap e it c old)
    (h : wpAny (model P w) A (Builtin.SmallTypes.nextOf (.ref it)) (fun x s₁ => IsEnum s₁.heap e it c old ∧ ∀ h', IsEnumOut h' e it (c + 1) x s₁.heap.objs.size → h'.get? s₁.heap.objs.size = some { cls := .type "tuple", data := .seq #[.int c s₁.toks, x] } →
      (∀ b o, b ≠ e → s₁.heap.get? b = some o → h'.get? b = some o) → Q (.ref s₁.heap.objs.size) { s₁ with heap := h', toks := s₁.toks + 1 }) E s) :
    wpAny (model P w) A (Builtin.«enumerate.__next__» ⟨[.ref e], []⟩) (fun fin s' => ∃ v, fin = .done (.ret v) ∧ Q v s') E s := by
  show wpAny _ _ (field (.ref e) 2 >>= _) _ _ _
  refine wpAny_bind (wpAny_field he rfl (x := .ref it) rfl (wpAny_bind (thn h fun x s₁ hx => ?_)))
  obtain ⟨he₁, hQ⟩ := hx
  obtain ⟨h₁, g, d, tk, os⟩ := s₁
  have he₁ : IsEnum h₁ e it c old := he₁
  show wpAny _ _ (field (.ref e) 3 >>= _) _ _ ⟨h₁, g, d, tk, os⟩; refine wpAny_bind (wpAny_field he₁ rfl (x := rawInt c) rfl ?_)
  show wpAny _ _ (field (.ref e) 4 >>= _) _ _ ⟨h₁, g, d, tk, os⟩; refine wpAny_bind (wpAny_field he₁ rfl (x := .none) rfl ?_)
  show wpAny _ _ (mkInt c >>= _) _ _ ⟨h₁, g, d, tk, os⟩; refine wpAny_bind (wpAny_mkInt ?_)
  show wpAny _ _ (setField (.ref e) 3 (rawInt (c + 1)) >>= _) _ _ ⟨h₁, g, d, tk + 1, os⟩
  refine wpAny_bind (wpAny_setField_rec he₁ (by simp) fun h₂ he₂ hs₂ => ?_)
  replace hs₂ : Heap.SameBut e h₁ h₂ := hs₂
  replace he₂ : IsEnum h₂ e it (c + 1) old := he₂
  show wpAny _ _ (setField (.ref e) 4 .none >>= _) _ _ ⟨h₂, g, d, tk + 1, os⟩; refine wpAny_bind (wpAny_setField_rec he₂ (by simp) fun h₃ he₃ hs₃ => ?_)
  replace hs₃ : Heap.SameBut e h₂ h₃ := hs₃
  replace he₃ : IsEnum h₃ e it (c + 1) old := he₃
  show wpAny _ _ (newTuple [.int c tk, x] >>= _) _ _ ⟨h₃, g, d, tk + 1, os⟩; refine wpAny_bind (wpAny_newTuple ?_)
  have he₄ : IsEnum (h₃.push { cls := .type "tuple", data := .seq #[.int c tk, x] }) e it (c + 1) old := Heap.get?_push_of_some _ he₃
  generalize hh₄ : h₃.push { cls := .type "tuple", data := .seq #[.int c tk, x] } = h₄ at he₄
  have hsz : h₃.objs.size = h₁.objs.size := by rw [hs₃.1, hs₂.1]
  have hel : e < h₁.objs.size := Heap.lt_size he₁
  have ht₄ : h₄.get? h₁.objs.size = some { cls := .type "tuple", data := .seq #[.int c tk, x] } := by rw [← hh₄, ← hsz]; exact Heap.get?_push_size _ rfl
  have hk₄ : ∀ b o, b ≠ e → h₁.get? b = some o → h₄.get? b = some o := fun b o hbe hb => by
    rw [← hh₄]; exact Heap.get?_push_of_some _ (hs₃.extBut b o hbe (hs₂.extBut b o hbe hb))
  show wpAny _ _ (Builtin.SmallTypes.ownedTupleIsFree (.ref e) >>= _) _ _ ⟨h₄, g, d, tk + 1, os⟩
  rw [hsz]
  clear hh₄ he₃ hs₃ he₂ hs₂ hsz h₃ h₂
  refine wpAny_bind ?_
  · unfold Builtin.SmallTypes.ownedTupleIsFree
    refine wpAny_bind (wpAny_field he₄ rfl (x := .none) rfl (wpAny_pure ?_)); simp only [if_true]
    refine wpAny_bind (wpAny_rule (wpAny_bind (wpAny_field he₄ rfl (x := old) rfl (wpAny_bind (wpAny_setField_rec he₄ (by simp) fun h₅ he₅ hs₅ => ?_)))))
    replace hs₅ : Heap.SameBut e h₄ h₅ := hs₅
    replace he₅ : IsEnum h₅ e it (c + 1) x := he₅
    show wpAny _ _ (Builtin.SmallTypes.ownedTupleHandOut (.ref e) (.ref h₁.objs.size) >>= _) _ _ ⟨h₅, g, d, tk + 1, os⟩
    refine wpAny_bind ?_
    · unfold Builtin.SmallTypes.ownedTupleHandOut
      refine wpAny_bind (wpAny_setField_rec he₅ (by simp) fun h₆ he₆ hs₆ => ?_)
      replace hs₆ : Heap.SameBut e h₅ h₆ := hs₆
      replace he₆ : IsEnumOut h₆ e it (c + 1) x h₁.objs.size := he₆
      refine wpAny_setField_rec he₆ (by simp) fun h₇ he₇ hs₇ => ?_
      replace hs₇ : Heap.SameBut e h₆ h₇ := hs₇
      replace he₇ : IsEnumOut h₇ e it (c + 1) x h₁.objs.size := he₇
      refine wpAny_bind (wpAny_letGo (wpAny_pure ⟨_, rfl, hQ h₇ he₇ ?_ ?_⟩))
      · exact hs₇.extBut _ _ (Nat.ne_of_gt hel) (hs₆.extBut _ _ (Nat.ne_of_gt hel) (hs₅.extBut _ _ (Nat.ne_of_gt hel) ht₄))
      · exact fun b o hbe hb => hs₇.extBut b o hbe (hs₆.extBut b o hbe (hs₅.extBut b o hbe (hk₄ b o hbe hb)))
theorem nextEnum {e it : Addr} {c : Int} {old : Value} {Q : Option Value → Shared → Prop} (he : IsEnum s.heap e it c old)
    (h : wpAny (model P w) A.in1 (Builtin.SmallTypes.nextOf (.ref it)) (fun x s₁ => IsEnum s₁.heap e it c old ∧ ∀ h', IsEnumOut h' e it (c + 1) x s₁.heap.objs.size → h'.get? s₁.heap.objs.size = some { cls := .type "tuple", data := .seq #[.int c s₁.toks, x] } →
      (∀ b o, b ≠ e → s₁.heap.get? b = some o → h'.get? b = some o) → Q (some (.ref s₁.heap.objs.size)) { s₁ with heap := h', toks := s₁.toks + 1 }) (fun x s₁ => ∃ b o, x = .ref b ∧ s₁.heap.get? b = some o ∧ o.cls = .type "StopIteration" ∧ Q none s₁) s) :
    wpAny (model P w) A (pyNext (.ref e)) Q E s := by
  have hT : s.TypeIs (.ref e) "enumerate" := ⟨_, he, rfl⟩
  unfold pyNext
  refine wpAny_bind (wpAny_attempt (wpAny_callSpecial?_slot (name := Str.ofString "__next__") hT F.slot_enumerate_next (wpAny_call_entry F.slot_enumerate_next hT F.entry_enumerate_next ?_ (F.args_enumerate_next_1 _))))
  refine wpAny_mono (enumStep (Q := fun v s' => wpAny (model P w) A (pure (some v)) Q E s') he (wpAny_mono h (fun x s₁ hx => ⟨hx.1, fun h' a b c => wpAny_pure (hx.2 h' a b c)⟩) fun _ _ z => z)) (fun _ _ z => z) fun x s₁ hx => ?_
  obtain ⟨b, o, rfl, ho, hc, q⟩ := hx
  refine wpAny_bind (wpAny_isInstance (T := "StopIteration") (b := true) ⟨o, ho, hc⟩ isSubtype_stop ?_)
  exact wpAny_pure q
/-- enumerate(g) -/
theorem newEnumG (a : Addr) (g : Nat) : Meets (Builtin.«enumerate.__new__» ⟨[.type "enumerate", .ref a], []⟩) (fun _ R s => s.heap.IsGen a g ∧
      R (.ok (.ret (.ref s.heap.objs.size))) { s with heap := s.heap.push { cls := .type "enumerate", data := .fields #[.none, .bool false, .ref a, rawInt 0, .none, .none] } }) :=
  .of_wp fun prog w A R s h => by
    obtain ⟨hp, g', d, tk, os⟩ := s; obtain ⟨h1, h⟩ := h
    have hsub := sub_enumerate
    have q1 : ∀ {A' : Around} {E : Value → Shared → Prop} {Q : Value → Shared → Prop}, Q (.ref a) ⟨hp, g', d, tk, os⟩ → wpAny (model prog w) A' (pyIter (.ref a)) Q E ⟨hp, g', d, tk, os⟩ := fun q => wpAny_pyIter_gen (s := ⟨hp, g', d, tk, os⟩) h1 q
    wp_walk using q1
    refine wpAny_stack_any fun st => wpAny_pure ?_
    split
    · rename_i c _ _ _ _ _
      cases (c == Value.type "enumerate")
      · wp_walk using q1
        exact ⟨_, rfl, h⟩
      · wp_walk using q1
        exact ⟨_, rfl, h⟩
    · wp_walk using q1
      exact ⟨_, rfl, h⟩
theorem callEnumG {a : Addr} {g : Nat} {Q : Value → Shared → Prop} (hg : s.heap.IsGen a g)
    (h : ∀ h', IsEnum h' s.heap.objs.size a 0 .none → h'.objs.size = s.heap.objs.size + 1 → (∀ b o, s.heap.get? b = some o → h'.get? b = some o) → Q (.ref s.heap.objs.size) { s with heap := h' }) :
    wpAny (model P w) A (call (.type "enumerate") [.ref a]) Q E s := by
  refine callType_new F.called_enumerate (by decide) (F.typeCall_enumerate_1 _) (F.newCall_enumerate_1 _) (fun obj => F.args_object_init_2 obj _) F.entry_enumerate_new (newEnumG a g) ⟨hg, ?_⟩
  show _ ∧ _
  have he := Heap.get?_push_size s.heap (o := { cls := .type "enumerate", data := .fields #[.none, .bool false, .ref a, rawInt 0, .none, .none] }) rfl
  exact ⟨⟨_, he, rfl⟩, h _ he (Heap.size_push ..) fun b o x => Heap.get?_push_of_some _ x⟩
end
/-! ### a consumer and a sleeping generator -/
structure GZ (X : Cx) (A : Around) (C : Ctr) (m L a g : Nat) (N ps : List Str) (qual : Str) (scope : Scope) (f : Addr) (cd : Value) (H : Hp) (s : Shared) (gs : GenState) (ip : List (Addr × Obj)) (σ : L2.St) (Hy : Hp) : Prop where
  gst : s.gens[g]? = some gs
  isg : s.heap.IsGen a g
  la : L < a
  scp : GScp N ps scope
  slp : Slp N scope L σ s.heap
  ips : ∀ p ∈ ip, s.heap.get? p.1 = some p.2 ∧ H p.1 = none ∧ L < p.1 ∧ p.1 ≠ a ∧ ∀ v, p.2.data ≠ .cell v
  hL : H L = none
  ha : H a = none
  go : ∀ V : View, GIn X.prog X.w X.K X.mg X.base N qual scope f cd A X.stack L V ip σ V.H V.s → C.ok m Hy V.H → Go1 (model X.prog X.w) A (Fut X.prog X.w X.K X.mg X.base N qual scope f cd A X.stack L C m V) gs V.s
theorem bare_set {s : Shared} {g : Nat} {x : GenState} (h : AllBare s.gens) (hx : x.bare = true) : AllBare (s.setGen g x).gens := allBare_setGen h hx
section
variable {X : Cx} {A : Around} {C : Ctr} {m L a g : Nat} {N ps : List Str} {qual : Str} {scope : Scope} {f : Addr} {cd : Value} {H Hy : Hp} {s : Shared} {gs : GenState} {ip pv pins : List (Addr × Obj)} {σ σc : L2.St}
/-- the consumer's own objects at the walk -/
def Own (L a : Nat) (H : Hp) (h : Heap) (ip pv : List (Addr × Obj)) : Prop := ∀ p ∈ pv, h.get? p.1 = some p.2 ∧ H p.1 = none ∧ L < p.1 ∧ p.1 ≠ a ∧ (∀ v, p.2.data ≠ .cell v) ∧ ∀ q ∈ ip, p.1 ≠ q.1
theorem isGen_obj {h : Heap} {a g : Nat} (x : h.IsGen a g) : ∃ o, h.get? a = some o ∧ (∀ v, o.data ≠ .cell v) ∧ ∀ h' : Heap, h'.get? a = some o → h'.IsGen a g := by
  obtain ⟨o, nm, qn, h1, h2, h3, h4⟩ := x
  exact ⟨o, h1, (fun v q => by rw [h3] at q; cases q), fun h' e => ⟨o, nm, qn, e, h2, h3, h4⟩⟩
/-- what comes of waking it -/
def Woke (X : Cx) (A : Around) (C : Ctr) (m L a g : Nat) (N ps : List Str) (qual : Str) (scope : Scope) (f : Addr) (cd : Value) (H : Hp) (pv pins : List (Addr × Obj)) (σc : L2.St) (v : Value) (s' : Shared) : Prop :=
  ∃ m' x H' gs' ip' σ', m = m' + 1 ∧ RelV x v ∧ C.yl m H x H' ∧ Inv X pins σc H' s' ∧ slp gs' = true ∧ GZ X A C m' L a g N ps qual scope f cd H' s' gs' ip' σ' H' ∧ Own L a H' s'.heap ip' pv
theorem woken (I : Inv X pins σc H s) (O : OldX X pins L) (hh : A.handled = none) (hA : A.frames = some X.stack) (Z : GZ X A C m L a g N ps qual scope f cd H s gs ip σ Hy) (hok : C.ok m Hy H) (hpv : Own L a H s.heap ip pv) :
    ∃ Φ, Go1 (model X.prog X.w) A Φ gs (s.setGen g .running) ∧
      (∀ r s₁, Φ (.ret r) s₁ → r = .ok (.ret .none) ∧ m = 0 ∧ ∃ H', C.fin H H' ∧ Inv X pins σc H' s₁) ∧
      (∀ v d l' k' c p fs s₁, s.gens.size ≤ s₁.gens.size → Φ (.susp v d l' k' c p fs) s₁ → (End.susp v d l' k' c p fs).quiet = true ∧ Woke X A C m L a g N ps qual scope f cd H pv pins σc v (s₁.setGen g (End.susp v d l' k' c p fs).genState)) := by
  obtain ⟨oa, ea, ca, back⟩ := isGen_obj Z.isg
  have I1 : Inv X pins σc H (s.setGen g .running) := regens I rfl rfl (bare_set I.bare rfl)
  have hLs : L < s.heap.objs.size := let ⟨_, m, hn, _⟩ := Z.slp; hn.lt
  have hgs : g < s.gens.size := (Array.getElem?_eq_some_iff.mp Z.gst).1
  have G := gin_of (pv := (a, oa) :: pv) (qual := qual) (f := f) (cd := cd) (A := A) I1 O Z.scp hh hA hLs Z.hL Z.slp (fun p hp => by
      rcases List.mem_append.mp hp with hp | hp
      · rcases List.mem_cons.mp hp with rfl | hp
        · exact ⟨ea, Z.ha, Z.la, ca⟩
        · obtain ⟨h1, h2, h3, h4, h5, h6⟩ := hpv p hp
          exact ⟨h1, h2, h3, h5⟩
      · obtain ⟨h1, h2, h3, h4, h5⟩ := Z.ips p hp
        exact ⟨h1, h2, h3, h5⟩) (fun p hp q hq => by
      rcases List.mem_cons.mp hp with rfl | hp
      · exact (Z.ips q hq).2.2.2.1.symm
      · exact (hpv p hp).2.2.2.2.2 q hq)
  refine ⟨_, Z.go ⟨s.setGen g .running, H, (a, oa) :: pv⟩ G hok, fun r s₁ h => ?_, fun v d l' k' c p fs s₁ hz h => ?_⟩
  · obtain ⟨rfl, hm, ip', σ', H', G', hf⟩ := ret_fut h
    exact ⟨rfl, hm, H', hf, (gin_back I1 O Z.scp G').1⟩
  · cases m with
    | zero => exact h.elim
    | succ m' =>
      obtain ⟨hq, ip', x, σ', H', rv, G', hy, hgo⟩ := h
      obtain ⟨I2, z2, l2, p2, d2, y2, _⟩ := gin_back I1 O Z.scp G'
      have st2 : ∀ p ∈ (a, oa) :: pv, s₁.heap.get? p.1 = some p.2 ∧ H' p.1 = none := fun p hp => ⟨(p2 p (List.mem_append_left _ hp)).1, (p2 p (List.mem_append_left _ hp)).2.1⟩
      have hba : (End.susp v d l' k' c p fs).genState.bare = true := End.bare_of_quiet hq
      have gsz : g < s₁.gens.size := Nat.lt_of_lt_of_le hgs hz
      refine ⟨hq, m', x, H', (End.susp v d l' k' c p fs).genState, ip', σ', rfl, rv, hy, regens I2 rfl rfl (bare_set I2.bare hba), rfl, ⟨?_, back _ (st2 _ List.mem_cons_self).1, Z.la, Z.scp, z2, fun p hp => ?_, l2, (st2 _ List.mem_cons_self).2, fun V' G2 ok2 => hgo V' G2 ok2⟩, fun p hp => ?_⟩
      · exact setGen_at gsz
      · obtain ⟨h1, h2, h3, h4⟩ := p2 p (List.mem_append_right _ hp)
        exact ⟨h1, h2, y2 p hp, (d2 _ List.mem_cons_self p hp).symm, h4⟩
      · obtain ⟨h1, h2, h3, h4, h5, h6⟩ := hpv p hp
        exact ⟨(st2 p (List.mem_cons_of_mem _ hp)).1, (st2 p (List.mem_cons_of_mem _ hp)).2, h3, h4, h5, fun q hq => d2 p (List.mem_cons_of_mem _ hp) q hq⟩
end
/-! ### a for over a generator: its body is code of the layer -/
theorem wpAny_thaw {α : Type} {M : Model} {A : Around} {t : Sem α} {Q : α → Shared → Prop} {E : Value → Shared → Prop} {s : Shared} (h : wpAny M A t Q E (iced s)) :
    wpAny M A t (fun a s' => ∃ s₁, s' = thaw s.gens s₁ ∧ Icy s.gens s₁ ∧ Q a s₁) (fun e s' => ∃ s₁, s' = thaw s.gens s₁ ∧ Icy s.gens s₁ ∧ E e s₁) s := by
  intro Γ p hΓ
  have z := wp_lock M s.gens Γ t _ _ p (iced s) (icy_iced s) (h Γ p hΓ)
  rw [thaw_iced] at z
  exact Sem.wp_mono M Γ t (fun a p' s' y => y) (fun a p' s' y => y) p s z
theorem thaw_bare {Y : Array GenState} {s₁ : Shared} (h : AllBare Y) (h1 : AllBare s₁.gens) : AllBare (thaw Y s₁).gens := fun x hx => by
  obtain ⟨i, hi, e⟩ := Array.mem_iff_getElem.mp hx
  have q : (thaw Y s₁).gens[i]? = some x := by rw [Array.getElem?_eq_getElem hi, e]
  rw [thaw_get] at q
  obtain ⟨z, hz, e2⟩ := Option.map_eq_some_iff.mp q
  have bz := h1 z (Array.mem_of_getElem? hz)
  rw [← e2]
  unfold thawAt
  cases ey : Y[i]? with
  | none => exact bz
  | some y =>
    show (if slp y = true then y else z).bare = true
    split
    · exact h y (Array.mem_of_getElem? ey)
    · exact bz
theorem iced_bare {s : Shared} (h : AllBare s.gens) : AllBare (iced s).gens := fun x hx => by
  have hx : x ∈ s.gens.map ice := hx
  obtain ⟨y, hy, rfl⟩ := Array.mem_map.mp hx
  rw [bare_ice]
  exact h y hy
/-- what is wanted of an exception does not look at sleepers -/
def XeOk (X : Cx) : Prop := ∀ (Y : Array GenState) e s₁, Icy Y s₁ → AllBare Y → X.xe e s₁ → X.xe e (thaw Y s₁)
def CXok (CX : CXT) : Prop := ∀ outer H s E u (Y : Array GenState) s₁, Icy Y s₁ → AllBare Y → CX outer H s E u s₁ → CX outer H s E u (thaw Y s₁)
theorem cxok_cx {P : Program} {w : World} : CXok (L2.CX P w) := by
  intro outer H s E u Y s₁ I h c
  obtain ⟨a, B, H', cls, d, z1, fl, z2, ub, z3, z4, z5, z6⟩ := c
  exact ⟨a, B, H', cls, d, z1, fl, z2, ub, z3, z4, thaw_bare h z5, z6⟩
theorem cxok_0 : CXok CX0 := fun _ _ _ _ _ _ _ _ _ c => c.elim
theorem xeok_cx {CX : CXT} {P : Program} {w : World} {K : PySem.W.Frag} {mg : Str → Option Value} {base : Heap} {N : List Str} {qual : Str} {scope : Scope} {f : Addr} {cd : Value} {A : Around} {outer : List Env} {s : Shared} {H : Hp} {E : XK} (h : CXok CX) : XeOk (cxOf CX P w K mg base N qual scope f cd A outer s H E) := by
  intro Y e s₁ I b c Γ p hΓ
  refine Sem.wp_mono _ Γ _ ?_ ?_ p _ (wp_lock _ Y Γ _ _ _ p s₁ I (c Γ p hΓ))
  · rintro _ p' s' ⟨s₂, rfl, I2, q⟩
    exact h _ _ _ _ _ Y s₂ I2 b q
  · rintro _ p' s' ⟨s₂, rfl, I2, q⟩
    exact h _ _ _ _ _ Y s₂ I2 b q
section
variable {X : Cx} {pins : List (Addr × Obj)} {σ : L2.St} {H : Hp} {s : Shared}
/-- the sleepers of s sleep on in s' -/
def SleepOn (s s' : Shared) : Prop := ∀ (i : Nat) y, s.gens[i]? = some y → slp y = true → s'.gens[i]? = some y
theorem SleepOn.trans {s s' s'' : Shared} (a : SleepOn s s') (b : SleepOn s' s'') : SleepOn s s'' := fun i y h q => b i y (a i y h q) q
theorem inv_thaw {s₁ : Shared} (hb : AllBare s.gens) (I : Inv X pins σ H s₁) : Inv X pins σ H (thaw s.gens s₁) := regens I rfl rfl (thaw_bare hb I.bare)
theorem fro_body {body : List Stmt} {tb : TS} {D : Ends} (hx : XeOk X) (h : PSs X body tb) (I : Inv X pins σ H s) (q : tb D σ H) :
    wpAny (model X.prog X.w) X.A (execs body X.env) (fun fl s' => SP X pins D fl s' ∧ SleepOn s s') X.xe s := by
  refine wpAny_mono (wpAny_thaw (h.run pins (iced s) σ H D (regens I rfl rfl (iced_bare I.bare)) q)) ?_ ?_
  · rintro fl s' ⟨s₁, rfl, I1, z⟩
    refine ⟨?_, (still_of I1).sleeps⟩
    cases fl with
    | next => obtain ⟨σ', H', J, z⟩ := z; exact ⟨σ', H', inv_thaw I.bare J, z⟩
    | brk => obtain ⟨σ', H', J, z⟩ := z; exact ⟨σ', H', inv_thaw I.bare J, z⟩
    | cont => obtain ⟨σ', H', J, z⟩ := z; exact ⟨σ', H', inv_thaw I.bare J, z⟩
    | ret u => obtain ⟨v, σ', H', J, z⟩ := z; exact ⟨v, σ', H', inv_thaw I.bare J, z⟩
  · rintro e s' ⟨s₁, rfl, I1, z⟩
    exact hx s.gens e s₁ I1 I.bare z
theorem fro_goal {tg : Expr} {gt : TG} {x : V} {u : Value} {R : L2.St → Hp → Prop} (hx : XeOk X) (h : PG X tg gt) (I : Inv X pins σ H s) (r : RelV x u) (q : gt x σ H R) :
    wpAny (model X.prog X.w) X.A (assign tg X.env u) (fun _ s' => ∃ σ' H', Inv X pins σ' H' s' ∧ R σ' H' ∧ SleepOn s s') X.xe s := by
  refine wpAny_mono (wpAny_thaw (h.run pins (iced s) σ H x u R (regens I rfl rfl (iced_bare I.bare)) r q)) ?_ ?_
  · rintro fl s' ⟨s₁, rfl, I1, σ', H', J, z⟩
    exact ⟨σ', H', inv_thaw I.bare J, z, (still_of I1).sleeps⟩
  · rintro e s' ⟨s₁, rfl, I1, z⟩
    exact hx s.gens e s₁ I1 I.bare z
end
/-- a source of n items whose state may lie outside the heap -/
structure SrcG (X : Cx) (pins : List (Addr × Obj)) (tg : Expr) (it : Addr) (n : Nat) (yld : Nat → Hp → V → Hp → Hp → Prop) (ok : Nat → Hp → Hp → Prop) (fin : Hp → Hp → Prop) (R : Nat → Hp → Shared → Prop) : Prop where
  item : ∀ (i : Nat) (σ : L2.St) (H : Hp) (s : Shared) (E : Value → Shared → Prop), Inv X pins σ H s → R i H s → i < n → wpAny (model X.prog X.w) X.A (pyNext (.ref it)) (fun r s1 => ∃ u, r = some u ∧
    wpAny (model X.prog X.w) X.A (letOwnedTupleGo tg (.ref it) u) (fun _ s2 => ∃ (x : V) (H' Hy : Hp) (fp : List Addr), Inv X pins σ H' s2 ∧ RelV x u ∧ yld i H x H' Hy ∧ (∀ b ∈ fp, FpOk X pins H' b) ∧ (∀ b ∈ fp, ∃ o, s2.heap.get? b = some o ∧ ∀ v, o.data ≠ .cell v) ∧
      ∀ H3 s3, (∀ b ∈ fp, ∀ o, s2.heap.get? b = some o → s3.heap.get? b = some o) → (∀ b ∈ fp, H3 b = none) → SleepOn s2 s3 → ok (i + 1) Hy H3 → R (i + 1) H3 s3) E s1) E s
  done : ∀ (σ : L2.St) (H : Hp) (s : Shared) (E : Value → Shared → Prop), Inv X pins σ H s → R n H s → wpAny (model X.prog X.w) X.A (pyNext (.ref it)) (fun r s1 => r = none ∧ ∃ H', Inv X pins σ H' s1 ∧ fin H H') E s
abbrev TIG := L2.St → Hp → (Nat → (Nat → Hp → V → Hp → Hp → Prop) → (Nat → Hp → Hp → Prop) → (Hp → Hp → Prop) → Hp → Prop) → Prop
structure PIG (X : Cx) (tg iter : Expr) (wi : TIG) : Prop where
  run : ∀ (pins : List (Addr × Obj)) (s : Shared) (σ : L2.St) (H : Hp) (Rr : Nat → (Nat → Hp → V → Hp → Hp → Prop) → (Nat → Hp → Hp → Prop) → (Hp → Hp → Prop) → Hp → Prop), Inv X pins σ H s → wi σ H Rr →
    wpAny (model X.prog X.w) X.A (eval iter X.env) (fun v s1 => wpAny (model X.prog X.w) X.A (pyIter v) (fun itv s2 => ∃ (it : Addr) (n : Nat) (yld : Nat → Hp → V → Hp → Hp → Prop) (ok : Nat → Hp → Hp → Prop) (fin : Hp → Hp → Prop) (R : Nat → Hp → Shared → Prop) (H' : Hp), itv = .ref it ∧ Inv X pins σ H' s2 ∧ SrcG X pins tg it n yld ok fin R ∧ R 0 H' s2 ∧ Rr n yld ok fin H') X.xe s1) X.xe s
def tForS (wi : TIG) (gt : TG) (tb : TS) : TS := fun D σ H => wi σ H fun n yld ok fin H1 => ∃ Pv : Nat → L2.St → Hp → Prop, Pv 0 σ H1 ∧
  (∀ i σ' H', i < n → Pv i σ' H' → ∀ x H2 Hy, yld i H' x H2 Hy → gt x σ' H2 fun σ2 H3 => tb { D with nx := fun σ4 H4 => Pv (i + 1) σ4 H4 ∧ ok (i + 1) Hy H4, ct := fun σ4 H4 => Pv (i + 1) σ4 H4 ∧ ok (i + 1) Hy H4, bk := D.nx } σ2 H3) ∧
  ∀ σ' H' H2, Pv n σ' H' → fin H' H2 → D.nx σ' H2
theorem ps_forG {X : Cx} {tg iter : Expr} {body : List Stmt} {wi : TIG} {gt : TG} {tb : TS} {pos : Pos} (hx : XeOk X) (hp : PassesOwn (model X.prog X.w) X.A X.env X.xe) (hi : PIG X tg iter wi) (hg : PG X tg gt) (hb : PSs X body tb)
    (hs : ∀ x, foldedSetIterable iter X.env x = pure x := by intro _; rfl) : PS X (.For tg iter body [] pos) (tForS wi gt tb) := by
  refine ⟨fun pins s σ H D I h => ?_⟩
  refine wpAny_For (thn (hi.run pins s σ H _ I h) fun v s1 h1 => thn h1 fun itv s2 h2 => ?_) hs
  obtain ⟨it, n, yld, ok, fin, R, H2, rfl, I2, S, r0, Pv, p0, step, done⟩ := h2
  refine codeAny_forLoop_any (fun z s' => ∃ i σ' H', z = n - i ∧ i ≤ n ∧ Inv X pins σ' H' s' ∧ R i H' s' ∧ Pv i σ' H') ?_ n ⟨0, σ, H2, rfl, Nat.zero_le _, I2, r0, p0⟩
  rintro z s3 ⟨i, σ3, H3, rfl, hi3, I3, r3, p3⟩
  by_cases hlt : i < n
  · refine wpAny_passesOwn hp (thn (S.item i σ3 H3 s3 X.xe I3 r3 hlt) fun r s4 ⟨u, hr, h4⟩ => ?_)
    subst hr
    refine wpAny_passesOwn hp (thn h4 fun _ s5 ⟨x, H5, Hy, fp, I5, r5, y5, f5, o5, nxt⟩ => ?_)
    have I5' := I5.pinned f5 o5
    refine wpAny_passesOwn hp (thn (fro_goal hx hg I5' r5 (step i σ3 H3 hlt p3 x H5 Hy y5)) fun _ s6 ⟨σ6, H6, I6, q6, e6⟩ => ?_)
    refine wpAny_passesOwn hp (thn (fro_body hx hb I6 q6) fun fl s7 q7 => ?_)
    obtain ⟨q7, e7⟩ := q7
    have again : ∀ {σ7 : L2.St} {H7 : Hp}, Inv X (pins ++ pinsAt fp s5.heap) σ7 H7 s7 → Pv (i + 1) σ7 H7 ∧ ok (i + 1) Hy H7 → ∃ m, m < n - i ∧ ∃ i σ' H', m = n - i ∧ i ≤ n ∧ Inv X pins σ' H' s7 ∧ R i H' s7 ∧ Pv i σ' H' := fun {σ7 H7} I7 n7 => by
      have pin : ∀ b ∈ fp, ∀ o, s5.heap.get? b = some o → s7.heap.get? b = some o ∧ H7 b = none := fun b hb o e => by
        have z := I7.pin (b, o) (List.mem_append_right _ (List.mem_append_right _ (mem_pinsAt hb e)))
        exact ⟨z.1, z.2.1⟩
      refine ⟨n - (i + 1), by omega, i + 1, σ7, H7, rfl, hlt, I7.unpinned, nxt H7 s7 (fun b hb o e => (pin b hb o e).1) (fun b hb => ?_) (e6.trans e7) n7.2, n7.1⟩
      obtain ⟨o, e, _⟩ := o5 b hb
      exact (pin b hb o e).2
    cases fl with
    | next => obtain ⟨σ7, H7, I7, n7⟩ := q7; exact again I7 n7
    | cont => obtain ⟨σ7, H7, I7, n7⟩ := q7; exact again I7 n7
    | brk => obtain ⟨σ7, H7, I7, q7⟩ := q7; exact ⟨σ7, H7, I7.unpinned, q7⟩
    | ret v => obtain ⟨x7, σ7, H7, I7, r7, q7⟩ := q7; exact ⟨x7, σ7, H7, I7.unpinned, r7, q7⟩
  · have e : i = n := by omega
    subst e
    refine wpAny_passesOwn hp (thn (S.done σ3 H3 s3 X.xe I3 r3) fun r s4 ⟨hr, H4, I4, f4⟩ => ?_)
    subst hr
    exact wpAny_execs_nil ⟨σ3, H4, I4, done σ3 H3 H4 p3 f4⟩
/-! ### sources: f(..), enumerate(f(..)) -/
section
variable {X : Cx} {C : Ctr} {n L a g e : Nat} {N ps : List Str} {qual : Str} {scope : Scope} {f : Addr} {cd : Value} {pins : List (Addr × Obj)} {k : Nat}
theorem fp_young {σ : L2.St} {H : Hp} {s : Shared} (O : OldX X pins L) (I : Inv X pins σ H s) {b : Addr} {H' : Hp} (hb : L ≤ b) (hn : H' b = none) : FpOk X pins H' b := by
  refine ⟨hn, Nat.ne_of_gt (Nat.lt_of_lt_of_le O.loc hb), fun hf => ?_, .inr (Nat.le_trans O.s0 hb), fun x c e => Nat.ne_of_lt (Nat.lt_of_lt_of_le (O.cel x c e) hb), fun p hp => Nat.ne_of_lt (Nat.lt_of_lt_of_le (O.pin p hp) hb)⟩
  obtain ⟨_, o, ho, _⟩ := I.ok.funs.mem hf
  exact absurd (Nat.lt_of_lt_of_le (Heap.lt_size ho) O.s0) (Nat.not_lt.mpr hb)
theorem slp_obj {h : Heap} {σ : L2.St} (z : Slp N scope L σ h) : ∃ o, h.get? L = some o ∧ ∀ v, o.data ≠ .cell v := by
  obtain ⟨_, m, ⟨o, es, ep, ho, hd, _⟩, _⟩ := z
  exact ⟨o, ho, fun v q => by rw [hd] at q; cases q⟩
/-- it sleeps on, at another heap -/
theorem GZ.on {A : Around} {m : Nat} {H H3 Hy : Hp} {s s3 : Shared} {gs : GenState} {ip : List (Addr × Obj)} {σ : L2.St} (Z : GZ X A C m L a g N ps qual scope f cd H s gs ip σ Hy) (hs : G.slp gs = true) (k1 : ∀ b ∈ L :: a :: ip.map (·.1), ∀ o, s.heap.get? b = some o → s3.heap.get? b = some o)
    (k2 : ∀ b ∈ L :: a :: ip.map (·.1), H3 b = none) (so : SleepOn s s3) : GZ X A C m L a g N ps qual scope f cd H3 s3 gs ip σ Hy := by
  obtain ⟨oa, ea, ca, back⟩ := isGen_obj Z.isg
  have hm : ∀ p ∈ ip, p.1 ∈ L :: a :: ip.map (·.1) := fun p hp => List.mem_cons_of_mem _ (List.mem_cons_of_mem _ (List.mem_map_of_mem hp))
  exact ⟨so g gs Z.gst hs, back _ (k1 a (by simp) _ ea), Z.la, Z.scp, Z.slp.at (k1 L List.mem_cons_self), fun p hp => ⟨k1 p.1 (hm p hp) _ (Z.ips p hp).1, k2 p.1 (hm p hp), (Z.ips p hp).2.2⟩, k2 L List.mem_cons_self, k2 a (by simp), Z.go⟩
theorem GZ.objs {A : Around} {m : Nat} {H Hy : Hp} {s : Shared} {gs : GenState} {ip : List (Addr × Obj)} {σ : L2.St} (Z : GZ X A C m L a g N ps qual scope f cd H s gs ip σ Hy) : ∀ b ∈ L :: a :: ip.map (·.1), L ≤ b ∧ H b = none ∧ ∃ o, s.heap.get? b = some o ∧ ∀ v, o.data ≠ .cell v := fun b hb => by
  rcases List.mem_cons.mp hb with rfl | hb
  · exact ⟨Nat.le_refl _, Z.hL, slp_obj Z.slp⟩
  · rcases List.mem_cons.mp hb with rfl | hb
    · obtain ⟨oa, ea, ca, _⟩ := isGen_obj Z.isg
      exact ⟨Nat.le_of_lt Z.la, Z.ha, oa, ea, ca⟩
    · obtain ⟨p, hp, rfl⟩ := List.mem_map.mp hb
      obtain ⟨h1, h2, h3, _, h5⟩ := Z.ips p hp
      exact ⟨Nat.le_of_lt h3, h2, _, h1, h5⟩
def yldP (C : Ctr) (n : Nat) : Nat → Hp → V → Hp → Hp → Prop := fun i H x H' Hy => H' = Hy ∧ C.yl (n - i) H x H'
def okP (C : Ctr) (n : Nat) : Nat → Hp → Hp → Prop := fun i H1 H2 => C.ok (n - i) H1 H2
theorem srcP {tg : Expr} {σ0 : L2.St} {H0 : Hp} {s0 : Shared} (O : OldX X pins L) (I0 : Inv X pins σ0 H0 s0) (hr : Room 1 X.A) :
    SrcG X pins tg a n (yldP C n) (okP C n) C.fin (fun i H s => ∃ gs ip σ Hy, GZ X X.A.in1 C (n - i) L a g N ps qual scope f cd H s gs ip σ Hy ∧ C.ok (n - i) Hy H) where
  item := by
    intro i σc H s E I ⟨gs, ip, σ, Hy, Z, hok⟩ hi
    obtain ⟨Φ, go, hP, hY⟩ := woken (pv := []) I O (A := X.A.in1) hr.hd I.ok.frames Z hok (fun p hp => by cases hp)
    refine nextS hr.hd I.nolimit hr.depth Z.isg Z.gst go (fun r s₁ h => ?_) (fun v d l' k' c p fs s₁ hz h => ?_)
    · obtain ⟨_, hm, _⟩ := hP r s₁ h
      omega
    · obtain ⟨hq, m', x, H', gs', ip', σ', em, rv, hy, I2, hs2, Z2, _⟩ := hY v d l' k' c p fs s₁ hz h
      refine ⟨hq, v, rfl, ?_⟩
      obtain ⟨o, nm, qn, ho, hc, hd, _⟩ := Z2.isg
      refine go_of ho hc hd (by decide) ⟨x, H', H', L :: a :: ip'.map (·.1), I2, rv, ⟨rfl, hy⟩, fun b hb => fp_young O I (Z2.objs b hb).1 (Z2.objs b hb).2.1, fun b hb => (Z2.objs b hb).2.2, fun H3 s3 k1 k2 so hk => ?_⟩
      have e1 : n - (i + 1) = m' := by omega
      have hk : C.ok (n - (i + 1)) H' H3 := hk
      rw [e1] at hk ⊢
      exact ⟨gs', ip', σ', H', Z2.on hs2 k1 k2 so, hk⟩
  done := by
    intro σc H s E I ⟨gs, ip, σ, Hy, Z, hok⟩
    obtain ⟨Φ, go, hP, hY⟩ := woken (pv := []) I O (A := X.A.in1) hr.hd I.ok.frames Z hok (fun p hp => by cases hp)
    refine nextS hr.hd I.nolimit hr.depth Z.isg Z.gst go (fun r s₁ h => ?_) (fun v d l' k' c p fs s₁ hz h => ?_)
    · obtain ⟨hr1, hm, H', hf, I2⟩ := hP r s₁ h
      refine ⟨hr1, fun h' hk => ⟨rfl, H', ?_, hf⟩⟩
      have I3 : Inv X pins σc H' (s₁.setGen g .finished) := regens I2 rfl rfl (bare_set I2.bare rfl)
      exact I3.kept (t' := s₁.toks) hk
    · obtain ⟨hq, m', x, H', gs', ip', σ', em, _⟩ := hY v d l' k' c p fs s₁ hz h
      omega
def yldE (C : Ctr) (n : Nat) : Nat → Hp → V → Hp → Hp → Prop := fun i H x H2 Hy => ∃ T y, C.yl (n - i) H y Hy ∧ x = .ref T ∧ Hy T = none ∧ H2 = upd Hy T (.tup [.int (i : Nat), y])
theorem srcE {elts : List Expr} {kk : Nat} {tpos : Pos} {σ0 : L2.St} {H0 : Hp} {s0 : Shared} (O : OldX X pins L) (I0 : Inv X pins σ0 H0 s0) (hr : Room 2 X.A) (hLe : L < e) (hea : e ≠ a) :
    SrcG X pins (.Tuple elts kk tpos) e n (yldE C n) (okP C n) C.fin (fun i H s => ∃ old gs ip σ Hy, IsEnum s.heap e a (i : Nat) old ∧ H e = none ∧ (∀ q ∈ ip, e ≠ q.1) ∧ GZ X X.A.in1.in1 C (n - i) L a g N ps qual scope f cd H s gs ip σ Hy ∧ C.ok (n - i) Hy H) where
  item := by
    intro i σc H s E I ⟨old, gs, ip, σ, Hy, he, hne, hip, Z, hok⟩ hi
    obtain ⟨Φ, go, hP, hY⟩ := woken (pv := [(e, _)]) I O (A := X.A.in1.in1) hr.hd I.ok.frames Z hok (fun p hp => by
      obtain rfl := List.mem_singleton.mp hp
      exact ⟨he, hne, hLe, hea, fun v q => (by cases q), hip⟩)
    refine nextEnum he (nextOfS (A := X.A.in1) hr.hd I.nolimit hr.in1.depth Z.isg Z.gst go (fun r s₁ h => ?_) (fun v d l' k' c p fs s₁ hz h => ?_))
    · obtain ⟨_, hm, _⟩ := hP r s₁ h
      omega
    · obtain ⟨hq, m', x, H', gs', ip', σ', em, rv, hy, I2, hs2, Z2, ow⟩ := hY v d l' k' c p fs s₁ hz h
      generalize (s₁.setGen g (End.susp v d l' k' c p fs).genState) = s2 at I2 Z2 ow ⊢
      obtain ⟨he2, hne2, _, _, _, hip2⟩ := ow _ (List.mem_singleton.mpr rfl)
      refine ⟨hq, he2, fun h' ho hT hk => ⟨_, rfl, ?_⟩⟩
      have hel : e < s2.heap.objs.size := Heap.lt_size he2
      refine wpAny_letOwnedTupleGo_enum (s := { s2 with heap := h', toks := s2.toks + 1 }) ho fun h'' he' sb => ?_
      have hT2 : h''.get? s2.heap.objs.size = some { cls := .type "tuple", data := .seq #[.int i s2.toks, v] } := (sb.2 _ (Nat.ne_of_gt hel)).trans hT
      have new : ObjOk X.prog X.w (upd H' s2.heap.objs.size (.tup [.int (i : Nat), x])) h'' s2.heap.objs.size (.tup [.int (i : Nat), x]) := ⟨by show 2 ≤ sizeLine; decide, [.int i s2.toks, v], .cons ⟨_, rfl⟩ (.cons rv .nil), ⟨_, hT2, rfl, _, rfl⟩⟩
      have kp : ∀ b o, b ≠ e → s2.heap.get? b = some o → h''.get? b = some o := fun b o hb q => (sb.2 b hb).trans (hk b o hb q)
      have I3 : Inv X pins σc (upd H' s2.heap.objs.size (.tup [.int (i : Nat), x])) { s2 with heap := h'', toks := s2.toks + 1 } :=
        I2.turnedNew (ch := [e]) (fun b ob hb q => kp b ob (fun z => hb (by simp [z])) q) (fun b hb => by rw [List.mem_singleton.mp hb]; exact fp_young O I (Nat.le_of_lt hLe) hne2) (Nat.le_refl _) new
      have nT : ∀ b o, s2.heap.get? b = some o → b ≠ s2.heap.objs.size := fun b o q => Nat.ne_of_lt (Heap.lt_size q)
      have ne_e : ∀ b ∈ L :: a :: ip'.map (·.1), b ≠ e := fun b hb => by
        rcases List.mem_cons.mp hb with rfl | hb
        · exact Nat.ne_of_lt hLe
        · rcases List.mem_cons.mp hb with rfl | hb
          · exact hea.symm
          · obtain ⟨q, hq', rfl⟩ := List.mem_map.mp hb
            exact (hip2 q hq').symm
      refine ⟨.ref s2.heap.objs.size, _, H', e :: L :: a :: ip'.map (·.1), I3, rfl, ⟨_, x, hy, rfl, I2.hok.fresh (Nat.le_refl _), rfl⟩, fun b hb => ?_, fun b hb => ?_, fun H3 s3 k1 k2 so hk3 => ?_⟩
      · rcases List.mem_cons.mp hb with rfl | hb
        · exact fp_young O I (Nat.le_of_lt hLe) (by rw [upd_ne (Nat.ne_of_lt hel)]; exact hne2)
        · obtain ⟨z1, z2, o, z3, z4⟩ := Z2.objs b hb
          exact fp_young O I z1 (by rw [upd_ne (nT b o z3)]; exact z2)
      · rcases List.mem_cons.mp hb with rfl | hb
        · exact ⟨_, he', fun v q => by cases q⟩
        · obtain ⟨z1, z2, o, z3, z4⟩ := Z2.objs b hb
          exact ⟨o, kp b o (ne_e b hb) z3, z4⟩
      · have e1 : n - (i + 1) = m' := by omega
        have hk3 : C.ok (n - (i + 1)) H' H3 := hk3
        rw [e1] at hk3 ⊢
        refine ⟨v, gs', ip', σ', H', ?_, k2 e List.mem_cons_self, hip2, Z2.on hs2 (fun b hb o q => k1 b (List.mem_cons_of_mem _ hb) o (kp b o (ne_e b hb) q)) (fun b hb => k2 b (List.mem_cons_of_mem _ hb)) (fun j y q1 q2 => so j y q1 q2), hk3⟩
        have e2 : ((i + 1 : Nat) : Int) = (i : Int) + 1 := by omega
        rw [e2]
        exact k1 e List.mem_cons_self _ he'
  done := by
    intro σc H s E I ⟨old, gs, ip, σ, Hy, he, hne, hip, Z, hok⟩
    obtain ⟨Φ, go, hP, hY⟩ := woken (pv := [(e, _)]) I O (A := X.A.in1.in1) hr.hd I.ok.frames Z hok (fun p hp => by
      obtain rfl := List.mem_singleton.mp hp
      exact ⟨he, hne, hLe, hea, fun v q => (by cases q), hip⟩)
    refine nextEnum he (nextOfS (A := X.A.in1) hr.hd I.nolimit hr.in1.depth Z.isg Z.gst go (fun r s₁ h => ?_) (fun v d l' k' c p fs s₁ hz h => ?_))
    · obtain ⟨hr1, hm, H', hf, I2⟩ := hP r s₁ h
      refine ⟨hr1, fun h' b hk ⟨o, hb, hc⟩ => ⟨b, o, rfl, hb, hc, rfl, H', ?_, hf⟩⟩
      have I3 : Inv X pins σc H' (s₁.setGen g .finished) := regens I2 rfl rfl (bare_set I2.bare rfl)
      exact I3.kept (t' := s₁.toks) hk
    · obtain ⟨hq, m', x, H', gs', ip', σ', em, _⟩ := hY v d l' k' c p fs s₁ hz h
      omega
end
/-! ### f(..), o.m() of generator defs in a for -/
abbrev TGc := L2.St → Hp → (Nat → Ctr → Hp → Prop) → Prop
structure PGm (X : Cx) (k : Nat) (e : Expr) (t : TGc) : Prop where
  run : ∀ (pins : List (Addr × Obj)) (s : Shared) (σ : L2.St) (H : Hp) (R : Nat → Ctr → Hp → Prop), Inv X pins σ H s → t σ H R → wpAny (model X.prog X.w) X.A (eval e X.env)
    (fun u s' => ∃ n C a g N ps qual scope f cd body σg H1 s1, u = .ref a ∧ R n C H1 ∧ Inv X pins σ H1 s1 ∧ GMk X.prog X.w X.K X.mg X.base k C n H1 X.stack s1 a g N ps qual scope f cd body σg s') X.xe s
section
variable {X : Cx} {k : Nat} {f C : Addr} {fd : FuncData} {ps : List Str} {sp : SpM} {x m : Str} {p pos apos : Pos} {e o : Expr} {es : List Expr} {t : TA} {ta : TE} {tg : TGc}
theorem run_gfm {pins : List (Addr × Obj)} {σ : L2.St} {H : Hp} {s : Shared} {us : List Value} {vs : List V} {R : Nat → Ctr → Hp → Prop} {E1 : Value → Shared → Prop} (F : GFm X.prog X.w X.K X.mg X.base k f fd ps sp) (hr : Room k X.A) (hb : Binds X.K fd ps []) (I : Inv X pins σ H s) (r : Vals vs us) (h : sp vs H fun n C => R n C H) :
    wpAny (model X.prog X.w) X.A (call (.ref f) us) (fun u s' => ∃ n C a g N ps qual scope f cd body σg H1 s1, u = .ref a ∧ R n C H1 ∧ Inv X pins σ H1 s1 ∧ GMk X.prog X.w X.K X.mg X.base k C n H1 X.stack s1 a g N ps qual scope f cd body σg s') E1 s := by
  have hl2 : (us ++ []).length = ps.length := by rw [List.append_nil, ← r.length]; exact F.len _ _ _ h
  have hB := hb s us I.kIn hl2
  rw [List.append_nil] at hB
  refine wpAny_call (codeAny_mono (F.run X.A X.stack s H ⟨us, []⟩ us vs _ hr I.env0 hB r h) fun r s' hq => ?_)
  obtain ⟨n, C, a, g, N, qual, scope, cd, body, σg, rfl, hR, M⟩ := hq
  exact ⟨n, C, a, g, N, ps, qual, scope, f, cd, body, σg, H, s, rfl, hR, I, M⟩
def tGcall (sp : SpM) (t : TA) : TGc := fun σ H R => t σ H fun vs H1 => sp vs H1 fun n C => R n C H1
theorem pgm_call (F : GFm X.prog X.w X.K X.mg X.base k f fd ps sp) (hr : Room k X.A) (hg : Gl X x) (hm : X.mg x = some (.ref f)) (hk : PySem.W.keepIn X.K (.ref f) = true) (hb : Binds X.K fd ps [])
    (ha : PA X (e :: es) t) (hdb : (x == ("__debug__" : Str)) = false := by decide) (he : starEach (e :: es) X.env = (false, eval e X.env) :: starEach es X.env := by rfl) (hpl : (backTo pos (starEach es X.env)).any (·.1) = false := by rfl) :
    PGm X k (.Call (.Name x p) (e :: es) [] pos) (tGcall sp t) := by
  refine ⟨fun pins s σ H R I h => ?_⟩
  refine wpAny_Call_Name_kw (ld_glob I hg hm ?_ hdb)
  refine PySem.W.callWith_K (h₀ := X.base) I.ok.mod.kin hk (thn (ha.run pos pins s σ H _ I h) fun us s1 ⟨vs, H1, I1, r, q⟩ => ⟨I1.kIn, ?_⟩) he hpl
  exact run_gfm F hr hb I1 r q
def tGmeth (C : Addr) (m : Str) (sp : SpM) (ta : TE) : TGc := fun σ H R => ta σ H fun x H1 => ∃ a dx fs, x = .ref a ∧ H1 a = some (.ins C dx fs) ∧ fs.lookup m = none ∧ sp [x] H1 fun n C => R n C H1
theorem pgm_meth0 {pl : Sem Bool} (he : PE X o ta) (c : Cls X.K C) (hm : Meth X.K C m f) (F : GFm X.prog X.w X.K X.mg X.base k f fd ps sp) (hr : Room k X.A) (hb : Binds X.K fd ps [])
    (ht : eval (.Call (.Attribute o m apos) [] [] pos) X.env = (do
      let ov ← eval o X.env
      standAt apos.atName
      let (f, first) ← holding [ov] (getMethod ov m pl)
      callWith pos f first (backTo pos (starEach [] X.env)) (backToKw pos (keywordEach [] X.env))) := by rfl) :
    PGm X k (.Call (.Attribute o m apos) [] [] pos) (tGmeth C m sp ta) := by
  refine ⟨fun pins s σ H R I h => ?_⟩
  refine PySem.W.methodCall_KW (pl := pl) (thn (he.run pins s σ H _ I h) fun u s1 ⟨x, H1, I1, rx, a, dx, fs, ex, ea, l, q⟩ => ?_) ht
  subst ex
  obtain rfl : u = Value.ref a := rx
  refine getmeth_ok I1 ea c hm l ?_
  exact PySem.W.callWith_K0 (first := [.ref a]) I1.kIn hm.kp (run_gfm (us := [.ref a]) (vs := [.ref a]) F hr hb I1 (.cons rfl .nil) q)
theorem made {pins : List (Addr × Obj)} {σ : L2.St} {H1 : Hp} {s1 s' : Shared} {A : Around} {n : Nat} {C : Ctr} {a g : Nat} {N : List Str} {qual : Str} {scope : Scope} {f : Addr} {cd : Value} {body : List Stmt} {σg : L2.St} (I : Inv X pins σ H1 s1) (M : GMk X.prog X.w X.K X.mg X.base k C n H1 X.stack s1 a g N ps qual scope f cd body σg s') (hr : Room k A) (hA : A.frames = some X.stack) :
    Inv X pins σ H1 s' ∧ OldX X pins s1.heap.objs.size ∧ GZ X A C n s1.heap.objs.size a g N ps qual scope f cd H1 s' (.fresh (.func body (envOfC qual scope s1.heap.objs.size f cd))) [] σg H1 :=
  ⟨I.call' (ch := []) M.os (Un.kept M.keep) (I.hok.kept M.keep) M.bare (fun b z => by simp at z), old_of I (Nat.le_refl _), M.gs, M.isg, M.la, M.scp, M.slp, fun p hp => (by cases hp), I.hok.fresh (Nat.le_refl _), I.hok.fresh (Nat.le_of_lt M.la), fun V G ok => M.go A hr hA V G ok⟩
def tIgP (t : TGc) : TIG := fun σ H Rr => t σ H fun n C H1 => C.ok n H1 H1 ∧ Rr n (yldP C n) (okP C n) C.fin H1
theorem pig_gen {tgt : Expr} (h : PGm X k e tg) (hr : Room (k + 1) X.A) (hr1 : Room 1 X.A) : PIG X tgt e (tIgP tg) := by
  refine ⟨fun pins s σ H Rr I q => ?_⟩
  refine thn (h.run pins s σ H _ I q) fun u s' ⟨n, C, a, g, N, ps, qual, scope, f, cd, body, σg, H1, s1, eu, ⟨hok, hR⟩, I1, M⟩ => ?_
  subst eu
  obtain ⟨I2, O, Z⟩ := made (A := X.A.in1) I1 M hr.in1 I1.ok.frames
  exact wpAny_pyIter_gen M.isg ⟨a, n, _, _, _, _, H1, rfl, I2, srcP O I2 hr1, ⟨_, [], σg, H1, Z, hok⟩, hR⟩
def tIgE (t : TGc) : TIG := fun σ H Rr => t σ H fun n C H1 => C.ok n H1 H1 ∧ Rr n (yldE C n) (okP C n) C.fin H1
theorem pig_enum {elts : List Expr} {kk : Nat} {tpos : Pos} (h : PGm X k e tg) (hr : Room (k + 2) X.A) (hr2 : Room 2 X.A) (hg : Gl X "enumerate") (hm : X.mg "enumerate" = none) (he : starEach [e] X.env = (false, eval e X.env) :: starEach [] X.env := by rfl) :
    PIG X (.Tuple elts kk tpos) (.Call (.Name "enumerate" p) [e] [] pos) (tIgE tg) := by
  refine ⟨fun pins s σ H Rr I q => ?_⟩
  refine wpAny_Call_Name_kw (ld_blt I hg hm boot_enumerate ?_)
  refine PyProof.Rows.callWith_type1 ?_ he rfl
  rw [he]
  show wpAny _ _ (spliced ((false, eval e X.env) :: backTo pos (starEach [] X.env))) _ _ s
  refine Calls.spliced_cons (thn (h.run pins s σ H _ I q) fun u s' ⟨n, C, a, g, N, ps, qual, scope, f, cd, body, σg, H1, s1, eu, ⟨hok, hR⟩, I1, M⟩ => ?_)
  subst eu
  refine Calls.spliced_nil ?_
  obtain ⟨I2, O, Z⟩ := made (A := X.A.in1.in1) I1 M hr.in1.in1 I1.ok.frames
  refine callEnumG M.isg fun h' hE hz hk => wpAny_pyIter_enum hE ?_
  have I3 : Inv X pins σ H1 { s' with heap := h' } := I2.kept (t' := s'.toks) hk
  have hea : s'.heap.objs.size ≠ a := Nat.ne_of_gt M.lt
  have Z3 : GZ X X.A.in1.in1 C n s1.heap.objs.size a g N ps qual scope f cd H1 { s' with heap := h' } (.fresh (.func body (envOfC qual scope s1.heap.objs.size f cd))) [] σg H1 := ⟨Z.gst, Z.isg.keeps hk, Z.la, Z.scp, Z.slp.at (fun o q => hk _ o q), fun p hp => (by cases hp), Z.hL, Z.ha, Z.go⟩
  exact ⟨s'.heap.objs.size, n, _, _, _, _, H1, rfl, I3, srcE O I3 hr2 (Nat.lt_trans M.la M.lt) hea, ⟨.none, _, [], σg, H1, hE, I2.hok.fresh (Nat.le_refl _), fun q hq => (by cases hq), Z3, hok⟩, hR⟩
end
/-! ### enumerate over a tuple; zip of three tuples -/
section
variable {X : Cx} {pins : List (Addr × Obj)} {σ : L2.St} {H : Hp} {s : Shared}
/-- the tuple at a, each item in a new pair with its place -/
def IteT (K : PySem.W.Frag) (a : Addr) : It :=
  ⟨fun i H => ∃ (xs : List V) (x : V), SqT K H a xs ∧ xs[i]? = some x, fun i H v H' => ∃ T x, v = .ref T ∧ H T = none ∧ H' = upd H T (.tup [.int (i : Nat), x]) ∧ ∀ xs, SqT K H a xs → xs[i]? = some x, fun i H => ∃ xs : List V, SqT K H a xs ∧ xs.length ≤ i⟩
theorem turn_enumT {P : Program} {w : World} {K : PySem.W.Frag} {elts : List Expr} {kk : Nat} {tpos : Pos} (a e it : Addr) :
    Turn P w K (.Tuple elts kk tpos) (IteT K a) [e, it] e (fun i h => (∃ old, IsEnum h e it ((i : Nat) : Int) old) ∧ h.IsTupleIter it a i ∧ e ≠ it) where
  mem := by simp
  obj := fun i h st b hb => by
    obtain ⟨⟨old, he⟩, ⟨o, ho, hc, hd⟩, _⟩ := st
    have e' : b = e ∨ b = it := by simpa using hb
    rcases e' with z | z
    · rw [z]; exact ⟨_, he, fun v q => nomatch q⟩
    · rw [z]; exact ⟨o, ho, fun v q => by rw [hd] at q; cases q⟩
  keep := fun i h h' st k => by
    obtain ⟨⟨old, he⟩, hi, hne⟩ := st
    exact ⟨⟨old, k e (by simp) _ he⟩, hi.at fun o q => k it (by simp) o q, hne⟩
  item := by
    intro X hP hw hK hc i pins s σ H E I hf st hg
    subst hP hw hK
    obtain ⟨⟨old, he⟩, hit, hne⟩ := st
    obtain ⟨xs, x, hq, hx⟩ := hg
    obtain ⟨its, rv, p, hz⟩ := I.tuple hq
    obtain ⟨u, hu, ru⟩ := rv.get hx
    have hel : e < s.heap.objs.size := Heap.lt_size he
    have hil : it < s.heap.objs.size := by obtain ⟨_, q, _⟩ := hit; exact Heap.lt_size q
    refine nextEnum he (wpAny_nextOf_tuple_item hit p (x := u) (by simpa using hu) fun h₁ hit₁ hs₁ => ⟨(hs₁.2 e hne).trans he, fun h' ho hT hk => ⟨_, rfl, ?_⟩⟩)
    have sz1 : h₁.objs.size = s.heap.objs.size := hs₁.1
    have sz1 : ({ s with heap := h₁ } : Shared).heap.objs.size = s.heap.objs.size := sz1
    rw [sz1] at ho hT ⊢
    refine wpAny_letOwnedTupleGo_enum (s := { s with heap := h', toks := s.toks + 1 }) ho fun h'' he' sb => ?_
    have hT2 : h''.get? s.heap.objs.size = some { cls := .type "tuple", data := .seq #[.int i s.toks, u] } := (sb.2 _ (Nat.ne_of_gt hel)).trans hT
    have new : ObjOk X.prog X.w (upd H s.heap.objs.size (.tup [.int (i : Nat), x])) h'' s.heap.objs.size (.tup [.int (i : Nat), x]) := ⟨by show 2 ≤ sizeLine; decide, [.int i s.toks, u], .cons ⟨_, rfl⟩ (.cons ru .nil), ⟨_, hT2, rfl, _, rfl⟩⟩
    have kp : ∀ b o, b ≠ e → b ≠ it → s.heap.get? b = some o → h''.get? b = some o := fun b o h1 h2 q => (sb.2 b h1).trans (hk b o h1 ((hs₁.2 b h2).trans q))
    have I1 : Inv X pins σ (upd H s.heap.objs.size (.tup [.int (i : Nat), x])) { s with heap := h'', toks := s.toks + 1 } :=
      I.turnedNew (ch := [e, it]) (fun b ob hb q => kp b ob (fun z => hb (by simp [z])) (fun z => hb (by simp [z])) q) hf (Nat.le_refl _) new
    refine ⟨.ref s.heap.objs.size, _, I1, rfl, ⟨_, x, rfl, I.hok.fresh (Nat.le_refl _), rfl, fun ys hy => by rw [I.tuple_inj hy hq]; exact hx⟩, ⟨⟨u, ?_⟩, ?_, hne⟩, fun b hb => ?_⟩
    · have e1 : ((i + 1 : Nat) : Int) = (i : Int) + 1 := by omega
      rw [e1]; exact he'
    · exact hit₁.at fun o q => (sb.2 it (Ne.symm hne)).trans (hk it o (Ne.symm hne) q)
    · have hb' : b < s.heap.objs.size := by
        have e' : b = e ∨ b = it := by simpa using hb
        rcases e' with z | z
        · rw [z]; exact hel
        · rw [z]; exact hil
      rw [upd_ne (Nat.ne_of_lt hb')]
      exact (hf b hb).1
  done := by
    intro X hP hw hK hc i pins s σ H E I hf st hg
    subst hP hw hK
    obtain ⟨⟨old, he⟩, hit, hne⟩ := st
    obtain ⟨xs, hq, hx⟩ := hg
    obtain ⟨its, rv, p, hz⟩ := I.tuple hq
    obtain ⟨f0, f1, f2, f3, f4, f5⟩ := hf it (by simp)
    have hl := rv.length
    refine nextEnum he (wpAny_nextOf_tuple_end (I.ok.hd hc) hit p (by simp; omega) fun h' b eb ⟨o, hb, hcl⟩ => ⟨b, o, rfl, hb, hcl, rfl, I.turned (t' := s.toks) (fun b o hb q => eb b o hb q) f0 f1 f3 f4 f5⟩)
  self := fun A i s Q E st h => by
    obtain ⟨⟨_, he⟩, _⟩ := st
    exact wpAny_pyIter_enum he h
/-- enumerate(v), its two new cells -/
theorem newEnumB {v : Value} {o : Obj} {G : Heap → Prop} (B : Begins v o G) : Meets (Builtin.«enumerate.__new__» ⟨[.type "enumerate", v], []⟩) (fun _ R s => G s.heap ∧
      R (.ok (.ret (.ref (s.heap.push o).objs.size))) { s with heap := (s.heap.push o).push { cls := .type "enumerate", data := .fields #[.none, .bool false, .ref s.heap.objs.size, rawInt 0, .none, .none] } }) :=
  .of_wp fun prog w A R s h => by
    obtain ⟨hp, g', d, tk, os⟩ := s; obtain ⟨h1, h⟩ := h
    have hsub := sub_enumerate
    have q1 : ∀ {A' : Around} {E : Value → Shared → Prop} {Q : Value → Shared → Prop}, Q (.ref hp.objs.size) ⟨hp.push o, g', d, tk, os⟩ → wpAny (model prog w) A' (pyIter v) Q E ⟨hp, g', d, tk, os⟩ := fun q => B.iter prog w _ _ ⟨hp, g', d, tk, os⟩ _ h1 q
    wp_walk using q1
    refine wpAny_stack_any fun st => wpAny_pure ?_
    split
    · rename_i c _ _ _ _ _
      cases (c == Value.type "enumerate")
      · wp_walk using q1
        exact ⟨_, rfl, h⟩
      · wp_walk using q1
        exact ⟨_, rfl, h⟩
    · wp_walk using q1
      exact ⟨_, rfl, h⟩
theorem callEnumB {P : Program} {w : World} {A : Around} {E : Value → Shared → Prop} {v : Value} {o : Obj} {G : Heap → Prop} {Q : Value → Shared → Prop} (B : Begins v o G) (h1 : G s.heap)
    (h : ∀ h', IsEnum h' (s.heap.objs.size + 1) s.heap.objs.size 0 .none → h'.get? s.heap.objs.size = some o → (∀ b o, s.heap.get? b = some o → h'.get? b = some o) → Q (.ref (s.heap.objs.size + 1)) { s with heap := h' }) :
    wpAny (model P w) A (call (.type "enumerate") [v]) Q E s := by
  refine callType_new F.called_enumerate (by decide) (F.typeCall_enumerate_1 _) (F.newCall_enumerate_1 _) (fun obj => F.args_object_init_2 obj _) F.entry_enumerate_new (newEnumB B) ⟨h1, ?_⟩
  have hz : (s.heap.push o).objs.size = s.heap.objs.size + 1 := Heap.size_push ..
  show _ ∧ _
  rw [hz]
  have he : IsEnum ((s.heap.push o).push { cls := .type "enumerate", data := .fields #[.none, .bool false, .ref s.heap.objs.size, rawInt 0, .none, .none] }) (s.heap.objs.size + 1) s.heap.objs.size 0 .none := by
    have z := Heap.get?_push_size (s.heap.push o) (o := { cls := .type "enumerate", data := .fields #[.none, .bool false, .ref s.heap.objs.size, rawInt 0, .none, .none] }) rfl
    rw [hz] at z; exact z
  exact ⟨⟨_, he, rfl⟩, h _ he (Heap.get?_push_of_some _ (Heap.get?_push_size _ B.free)) fun b o x => Heap.get?_push_of_some _ (Heap.get?_push_of_some _ x)⟩
/-- enumerate of a list or of a tuple -/
def iEnumS (K : PySem.W.Frag) (ta : TA) : TI := fun σ H R => ta σ H fun vs H1 => ∃ a xs, vs = [.ref a] ∧ ((SqL K H1 a xs ∧ R (Ite K a) H1) ∨ (SqT K H1 a xs ∧ R (IteT K a) H1))
theorem pi_enumS {e : Expr} {ta : TA} {p pos tpos : Pos} {elts : List Expr} {kk : Nat} (hg : Gl X "enumerate") (hm : X.mg "enumerate" = none) (ha : PA X [e] ta) (hs : starEach [e] X.env = [(false, eval e X.env)] := by rfl) :
    PI X (.Tuple elts kk tpos) (.Call (.Name "enumerate" p) [e] [] pos) (iEnumS X.K ta) := by
  refine ⟨fun pins s σ H R I h => ?_⟩
  refine Call_ (ld_blt I hg hm boot_enumerate (PyProof.Rows.callWith_type1 (thn (ha.run pos pins s σ H _ I h) fun us s1 ⟨vs, H1, I1, r1, q1⟩ => ?_) hs rfl))
  obtain ⟨a, xs, ex, q1⟩ := q1
  subst ex
  cases r1 with
  | cons r rr =>
    cases rr
    cases r
    have fin : ∀ (h' : Heap) (J : It) (tn : Nat → Heap → Prop), (∀ b o, s1.heap.get? b = some o → h'.get? b = some o) → IsEnum h' (s1.heap.objs.size + 1) s1.heap.objs.size 0 .none → Turn X.prog X.w X.K (.Tuple elts kk tpos) J [s1.heap.objs.size + 1, s1.heap.objs.size] (s1.heap.objs.size + 1) tn → tn 0 h' → R J H1 →
        wpAny (model X.prog X.w) X.A (pyIter (.ref (s1.heap.objs.size + 1))) (PIE X pins σ (.Tuple elts kk tpos) R) X.xe { s1 with heap := h' } := fun h' J tn hk he T t0 q => by
      refine wpAny_pyIter_enum (s := { s1 with heap := h' }) he ?_
      refine ⟨s1.heap.objs.size + 1, [s1.heap.objs.size + 1, s1.heap.objs.size], _, J, H1, rfl, I1.kept (t' := s1.toks) hk, T, t0, fun b hb => ?_, q⟩
      have e' : b = s1.heap.objs.size + 1 ∨ b = s1.heap.objs.size := by simpa using hb
      have hle : s1.heap.objs.size ≤ b := by
        rcases e' with z | z
        · rw [z]; exact Nat.le_add_right _ _
        · rw [z]; exact Nat.le_refl _
      exact I1.fpOk hle (I1.hok.fresh hle)
    rcases q1 with ⟨hq, q⟩ | ⟨hq, q⟩
    · obtain ⟨its, rv, p', hz⟩ := I1.list hq
      exact call_enumerate_list p'.isList fun h' he hit hsz hk => fin h' _ _ hk he (turn_enum a _ _) ⟨⟨.none, he⟩, hit, Nat.succ_ne_self _⟩ q
    · obtain ⟨its, rv, p', hz⟩ := I1.tuple hq
      exact callEnumB (begins_tuple a its.toArray) p' fun h' he hit hk => fin h' _ _ hk he (turn_enumT a _ _) ⟨⟨.none, he⟩, ⟨_, hit, rfl, rfl⟩, Nat.succ_ne_self _⟩ q
end
section
variable {X : Cx} {pins : List (Addr × Obj)} {σ : L2.St} {H : Hp} {s : Shared}
def ItZ3 (K : PySem.W.Frag) (a b c : Addr) : It :=
  ⟨fun i H => ∃ (xs ys zs : List V) (x y z : V), SqT K H a xs ∧ SqT K H b ys ∧ SqT K H c zs ∧ xs[i]? = some x ∧ ys[i]? = some y ∧ zs[i]? = some z,
    fun i H v H' => ∃ T x y z, v = .ref T ∧ H T = none ∧ H' = upd H T (.tup [x, y, z]) ∧ (∀ xs, SqT K H a xs → xs[i]? = some x) ∧ (∀ ys, SqT K H b ys → ys[i]? = some y) ∧ ∀ zs, SqT K H c zs → zs[i]? = some z,
    fun i H => ∃ xs ys zs : List V, SqT K H a xs ∧ SqT K H b ys ∧ SqT K H c zs ∧ (i ≤ xs.length ∧ i ≤ ys.length ∧ i ≤ zs.length) ∧ (i = xs.length ∨ i = ys.length ∨ i = zs.length)⟩
theorem turn_zip3 {P : Program} {w : World} {K : PySem.W.Frag} {elts : List Expr} {kk : Nat} {tpos : Pos} {a b c N : Nat} (ha : a < N) (hb : b < N) (hc : c < N) :
    Turn P w K (.Tuple elts kk tpos) (ItZ3 K a b c) [N + 5, N + 3, N + 4, N, N + 1, N + 2] (N + 5) (fun i h => IsZip h (N + 5) (N + 3) (N + 4) .none ∧ IsTupOf3 h (N + 3) (.ref N) (.ref (N + 1)) (.ref (N + 2)) ∧ (∃ x y z, IsTupOf3 h (N + 4) x y z) ∧ h.IsTupleIter N a i ∧ h.IsTupleIter (N + 1) b i ∧ h.IsTupleIter (N + 2) c i) where
  mem := by simp
  obj := fun i h st d hd => by
    obtain ⟨hz, hTI, ⟨x, y, z, hTO⟩, ⟨o1, e1, _, d1⟩, ⟨o2, e2, _, d2⟩, ⟨o3, e3, _, d3⟩⟩ := st
    simp only [List.mem_cons, List.not_mem_nil, or_false] at hd
    rcases hd with q | q | q | q | q | q
    · rw [q]; exact ⟨_, hz, fun v q => nomatch q⟩
    · rw [q]; exact ⟨_, hTI, fun v q => nomatch q⟩
    · rw [q]; exact ⟨_, hTO, fun v q => nomatch q⟩
    · rw [q]; exact ⟨o1, e1, fun v q => by rw [d1] at q; cases q⟩
    · rw [q]; exact ⟨o2, e2, fun v q => by rw [d2] at q; cases q⟩
    · rw [q]; exact ⟨o3, e3, fun v q => by rw [d3] at q; cases q⟩
  keep := fun i h h' st k => by
    obtain ⟨hz, hTI, ⟨x, y, z, hTO⟩, h1, h2, h3⟩ := st
    exact ⟨k _ (by simp) _ hz, k _ (by simp) _ hTI, ⟨x, y, z, k _ (by simp) _ hTO⟩, h1.at fun o q => k _ (by simp) o q, h2.at fun o q => k _ (by simp) o q, h3.at fun o q => k _ (by simp) o q⟩
  item := by
    intro X hP hw hK hcm i pins s σ H E I hf st hg
    subst hP hw hK
    obtain ⟨hz, hTI, ⟨x0, y0, z0, hTO⟩, h1, h2, h3⟩ := st
    obtain ⟨xs, ys, zs, x, y, z, qx, qy, qz, ex, ey, ez⟩ := hg
    obtain ⟨t1, r1, p1, _⟩ := I.tuple qx
    obtain ⟨t2, r2, p2, _⟩ := I.tuple qy
    obtain ⟨t3, r3, p3, _⟩ := I.tuple qz
    obtain ⟨u1, w1, v1⟩ := r1.get ex
    obtain ⟨u2, w2, v2⟩ := r2.get ey
    obtain ⟨u3, w3, v3⟩ := r3.get ez
    have hzl : N + 5 < s.heap.objs.size := Heap.lt_size hz
    have one : ∀ {f : Nat} {d : Addr}, d ∈ [f] → f < N → d < N := fun hd hf => by rw [List.mem_singleton.mp hd]; exact hf
    have S := zip_sep3 (N := N) (fp1 := [a]) (fp2 := [b]) (fp3 := [c]) (fun d hd => one hd ha) (fun d hd => one hd hb) (fun d hd => one hd hc)
    have hA : X.A.in1.handled = none := I.ok.hd hcm
    refine wpAny_pyNext_zipD3_item S (Draws.tuple hA N a (Nat.ne_of_lt ha) t1.toArray) (Draws.tuple hA (N + 1) b (Nat.ne_of_lt (Nat.lt_succ_of_lt hb)) t2.toArray) (Draws.tuple hA (N + 2) c (Nat.ne_of_lt (Nat.lt_succ_of_lt (Nat.lt_succ_of_lt hc))) t3.toArray) hz hTI hTO ⟨h1, p1⟩ ⟨h2, p2⟩ ⟨h3, p3⟩
      (by have := (List.getElem?_eq_some_iff.mp w1).1; simpa using this) (by have := (List.getElem?_eq_some_iff.mp w2).1; simpa using this) (by have := (List.getElem?_eq_some_iff.mp w3).1; simpa using this) fun x1 x2 x3 h' tk y1 y2 y3 z' TO' s1 s2 s3 hT hsz hk => ?_
    have e1 : u1 = x1 := by
      have q : t1[i]? = some x1 := by simpa using y1
      rw [w1] at q; exact Option.some.inj q
    have e2 : u2 = x2 := by
      have q : t2[i]? = some x2 := by simpa using y2
      rw [w2] at q; exact Option.some.inj q
    have e3 : u3 = x3 := by
      have q : t3[i]? = some x3 := by simpa using y3
      rw [w3] at q; exact Option.some.inj q
    subst e1 e2 e3
    refine ⟨_, rfl, wpAny_letOwnedTupleGo_zip (s := { s with heap := h', toks := tk }) z' fun h'' z'' sb => ?_⟩
    have hT2 : h''.get? s.heap.objs.size = some { cls := .type "tuple", data := .seq #[u1, u2, u3] } := (sb.2 _ (Nat.ne_of_gt hzl)).trans hT
    have new : ObjOk X.prog X.w (upd H s.heap.objs.size (.tup [x, y, z])) h'' s.heap.objs.size (.tup [x, y, z]) := ⟨by show 3 ≤ sizeLine; decide, [u1, u2, u3], .cons v1 (.cons v2 (.cons v3 .nil)), ⟨_, hT2, rfl, _, rfl⟩⟩
    have I1 : Inv X pins σ (upd H s.heap.objs.size (.tup [x, y, z])) { s with heap := h'', toks := tk } :=
      I.turnedNew (t' := tk) (ch := [N + 5, N + 3, N + 4, N, N + 1, N + 2]) (fun d o hd q => (sb.2 d (fun q' => hd (by simp [q']))).trans (hk d o (fun q' => hd (by simp [q'])) (fun q' => hd (by simp [q'])) (fun q' => hd (by simp [q'])) (fun q' => hd (by simp [q'])) (fun q' => hd (by simp [q'])) q)) hf (Nat.le_refl _) new
    have n5 : ∀ k : Nat, k < 5 → N + k ≠ N + 5 := fun k hk => by omega
    refine ⟨.ref s.heap.objs.size, _, I1, rfl, ⟨_, x, y, z, rfl, I.hok.fresh (Nat.le_refl _), rfl, fun l hl => by rw [I.tuple_inj hl qx]; exact ex, fun l hl => by rw [I.tuple_inj hl qy]; exact ey, fun l hl => by rw [I.tuple_inj hl qz]; exact ez⟩, ⟨z'', ?_, ⟨u1, u2, u3, ?_⟩, ?_, ?_, ?_⟩, fun d hd => ?_⟩
    · exact (sb.2 _ (n5 3 (by decide))).trans (hk _ _ (n5 3 (by decide)) (show (N + 3 : Nat) ≠ N + 4 by omega) (show (N + 3 : Nat) ≠ N by omega) (show (N + 3 : Nat) ≠ N + 1 by omega) (show (N + 3 : Nat) ≠ N + 2 by omega) hTI)
    · exact (sb.2 _ (n5 4 (by decide))).trans TO'
    · exact s1.1.at fun o q => (sb.2 _ (n5 0 (by decide))).trans q
    · exact s2.1.at fun o q => (sb.2 _ (n5 1 (by decide))).trans q
    · exact s3.1.at fun o q => (sb.2 _ (n5 2 (by decide))).trans q
    · have hlt : d < s.heap.objs.size := by
        simp only [List.mem_cons, List.not_mem_nil, or_false] at hd
        have : d ≤ N + 5 := by
          rcases hd with q | q | q | q | q | q <;> rw [q] <;> first | exact Nat.le_refl _ | exact Nat.add_le_add_left (by decide) N | exact Nat.le_add_right _ _
        exact Nat.lt_of_le_of_lt this hzl
      rw [upd_ne (Nat.ne_of_lt hlt)]
      exact (hf d hd).1
  done := by
    intro X hP hw hK hcm i pins s σ H E I hf st hg
    subst hP hw hK
    obtain ⟨hz, hTI, ⟨x0, y0, z0, hTO⟩, h1, h2, h3⟩ := st
    obtain ⟨xs, ys, zs, qx, qy, qz, ⟨l1, l2, l3⟩, hend⟩ := hg
    obtain ⟨t1, r1, p1, _⟩ := I.tuple qx
    obtain ⟨t2, r2, p2, _⟩ := I.tuple qy
    obtain ⟨t3, r3, p3, _⟩ := I.tuple qz
    have m1 := r1.length
    have m2 := r2.length
    have m3 := r3.length
    have one : ∀ {f : Nat} {d : Addr}, d ∈ [f] → f < N → d < N := fun hd hf => by rw [List.mem_singleton.mp hd]; exact hf
    have S := zip_sep3 (N := N) (fp1 := [a]) (fp2 := [b]) (fp3 := [c]) (fun d hd => one hd ha) (fun d hd => one hd hb) (fun d hd => one hd hc)
    have hA : X.A.in1.handled = none := I.ok.hd hcm
    refine wpAny_pyNext_zipD3_end S (Draws.tuple hA N a (Nat.ne_of_lt ha) t1.toArray) (Draws.tuple hA (N + 1) b (Nat.ne_of_lt (Nat.lt_succ_of_lt hb)) t2.toArray) (Draws.tuple hA (N + 2) c (Nat.ne_of_lt (Nat.lt_succ_of_lt (Nat.lt_succ_of_lt hc))) t3.toArray) hz hTI hTO ⟨h1, p1⟩ ⟨h2, p2⟩ ⟨h3, p3⟩
      (by simp; omega) (by simp; omega) (by simp; omega) (by simp; omega) fun h' tk hk => ⟨rfl, ?_⟩
    exact I.turnedL (t' := tk) (ch := [N + 5, N + 3, N + 4, N, N + 1, N + 2]) (fun d o hd q => hk d o (fun q' => hd (by simp [q'])) (fun q' => hd (by simp [q'])) (fun q' => hd (by simp [q'])) (fun q' => hd (by simp [q'])) (fun q' => hd (by simp [q'])) q) hf
  self := fun A i s Q E st h => wpAny_pyIter_zip st.1 h
def iZip3 (K : PySem.W.Frag) (ta : TA) : TI := fun σ H R => ta σ H fun vs H1 => ∃ a b c xs ys zs, vs = [.ref a, .ref b, .ref c] ∧ SqT K H1 a xs ∧ SqT K H1 b ys ∧ SqT K H1 c zs ∧ R (ItZ3 K a b c) H1
theorem pi_zip3 {e e2 e3 : Expr} {ta : TA} {p pos tpos : Pos} {elts : List Expr} {kk : Nat} (hg : Gl X "zip") (hm : X.mg "zip" = none) (ha : PA X [e, e2, e3] ta)
    (hs : starEach [e, e2, e3] X.env = (false, eval e X.env) :: starEach [e2, e3] X.env := by rfl) (hpl : (backTo pos (starEach [e2, e3] X.env)).any (·.1) = false := by rfl) :
    PI X (.Tuple elts kk tpos) (.Call (.Name "zip" p) [e, e2, e3] [] pos) (iZip3 X.K ta) := by
  refine ⟨fun pins s σ H R I h => ?_⟩
  refine Call_ (ld_blt I hg hm boot_zip (PyProof.Rows.callWith_type1 (thn (ha.run pos pins s σ H _ I h) fun us s1 ⟨vs, H1, I1, r1, q1⟩ => ?_) hs hpl))
  obtain ⟨a, b, c, xs, ys, zs, ex, q1, q2, q3, q⟩ := q1
  subst ex
  cases r1 with
  | cons r rr =>
    cases rr with
    | cons r2 rr =>
      cases rr with
      | cons r3 rr =>
        cases rr
        cases r; cases r2; cases r3
        obtain ⟨t1, v1, p1, _⟩ := I1.tuple q1
        obtain ⟨t2, v2, p2, _⟩ := I1.tuple q2
        obtain ⟨t3, v3, p3, _⟩ := I1.tuple q3
        have lt : ∀ {d : Addr} {its : Array Value}, IsTup s1.heap d its → d < s1.heap.objs.size := fun x => by obtain ⟨o, ho, _⟩ := x; exact Heap.lt_size ho
        refine zip_begins3 (begins_tuple a t1.toArray) (begins_tuple b t2.toArray) (begins_tuple c t3.toArray) p1 p2 p3 fun h' hz hT hO g1 g2 g3 hsz hk => wpAny_pyIter_zip (s := { s1 with heap := h' }) hz ?_
        refine ⟨s1.heap.objs.size + 5, [s1.heap.objs.size + 5, s1.heap.objs.size + 3, s1.heap.objs.size + 4, s1.heap.objs.size, s1.heap.objs.size + 1, s1.heap.objs.size + 2], _, _, H1, rfl, I1.kept (t' := s1.toks) hk, turn_zip3 (lt p1) (lt p2) (lt p3), ⟨hz, hT, ⟨_, _, _, hO⟩, ⟨_, g1, rfl, rfl⟩, ⟨_, g2, rfl, rfl⟩, ⟨_, g3, rfl, rfl⟩⟩, fun d hd => ?_, q⟩
        have hle : s1.heap.objs.size ≤ d := by
          simp only [List.mem_cons, List.not_mem_nil, or_false] at hd
          rcases hd with q | q | q | q | q | q <;> rw [q] <;> first | exact Nat.le_refl _ | exact Nat.le_add_right _ _
        exact I1.fpOk hle (I1.hok.fresh hle)
end
end G
/-! ### a list or a tuple -/
namespace G
open PySem PySem.Spec PyProof.Rows L2
def SqS (K : PySem.W.Frag) (H : Hp) (a : Addr) (xs : List V) : Prop := SqL K H a xs ∨ SqT K H a xs
theorem SqS.same {K : PySem.W.Frag} {H H' : Hp} {a : Addr} {xs : List V} (h : SqS K H a xs) (s : Same H H') : SqS K H' a xs := h.imp (fun z => s.seq z) (fun z => sqT_same s z)
def rIxSq (K : PySem.W.Frag) : V → V → Hp → VK → Prop := fun x y H Q => rIxL K x y H Q ∨ rIxT K x y H Q
section
variable {X : Cx} {K : PySem.W.Frag}
theorem kIxS (h : X.K = K := by rfl) : IxR X (rIxSq K) := by
  subst h
  intro va sl pins s σ H x y u v Q I rx ry q hs
  rcases q with q | q
  · exact ix_list va sl pins s σ H x y u v Q I rx ry q hs
  · exact ix_tup va sl pins s σ H x y u v Q I rx ry q hs
theorem kpiEnumS {e : Expr} {ta : TA} {p pos tpos : Pos} {elts : List Expr} {kk : Nat} (hg : Gl X "enumerate") (hm : X.mg "enumerate" = none) (ha : PA X [e] ta) (h : X.K = K := by rfl) (hs : starEach [e] X.env = [(false, eval e X.env)] := by rfl) :
    PI X (.Tuple elts kk tpos) (.Call (.Name "enumerate" p) [e] [] pos) (iEnumS K ta) := h ▸ pi_enumS hg hm ha hs
theorem kpiZip3 {e e2 e3 : Expr} {ta : TA} {p pos tpos : Pos} {elts : List Expr} {kk : Nat} (hg : Gl X "zip") (hm : X.mg "zip" = none) (ha : PA X [e, e2, e3] ta) (h : X.K = K := by rfl)
    (hs : starEach [e, e2, e3] X.env = (false, eval e X.env) :: starEach [e2, e3] X.env := by rfl) (hpl : (backTo pos (starEach [e2, e3] X.env)).any (·.1) = false := by rfl) :
    PI X (.Tuple elts kk tpos) (.Call (.Name "zip" p) [e, e2, e3] [] pos) (iZip3 K ta) := h ▸ pi_zip3 hg hm ha hs hpl
end
section
variable {K : PySem.W.Frag} {H : Hp} {Q : VK} {a : Addr} {xs : List V} {n : Int} {v x : V} {σ : L2.St} {D : Ends} {ts : TS} {g : TG} {tt : TT} {te : TE} {vs : List Nat}
theorem r_ixS (h : SqS K H a xs) (e : atI xs n = some v) (q : Q v H) : rIxSq K (.ref a) (.int n) H Q := h.imp (fun z => r_ixL z e q) (fun z => r_ixT z e q)
theorem r_lenS (h : SqS K H a xs) (q : Q (.int (xs.length : Int)) H) : rLn K [.ref a] H Q := h.elim (fun z => r_lenL z q) (fun z => r_lenT z q)
theorem r_lstOfS (h : SqS K H a xs) (q : ∀ l, H l = none → Q (.ref l) (upd H l (.lst xs))) : rLstOf K [.ref a] H Q := h.elim (fun z => r_lstOfL z q) (fun z => r_lstOfT z q)
theorem r_isiT2 {cs : List V} {us : List Value} {t : Value} {b : Bool} {tp : Addr} (h : H tp = some (.tup cs)) (k : Paired ClsV cs us) (ty : TyX K H x t) (e : PySem.W.kitAny K t us = some b) (q : Q (.bl b) H) : rIsiT K [x, .ref tp] H Q := ⟨x, tp, cs, t, us, b, rfl, h, k, ty, e, q⟩
/-- a for over enumerate of a list or tuple: one turn binds a new pair -/
def LoopE (K : PySem.W.Frag) (ws : List V) (g : TG) (ts : TS) (D : Ends) (σ : L2.St) (H : Hp) : Prop := ∃ a xs, ws = [.ref a] ∧ ((SqL K H a xs ∧ Turns (Ite K a) g ts D σ H) ∨ (SqT K H a xs ∧ Turns (IteT K a) g ts D σ H))
theorem r_forE {ta : TA} (q : ta σ H fun ws H1 => LoopE K ws g ts D σ H1) : tFor (iEnumS K ta) g ts D σ H := q
theorem loopE (hS : SqS K H a xs) (Pv : Nat → L2.St → Hp → Prop) (h0 : Pv 0 σ H) (hl : ∀ i σ' H', Pv i σ' H' → (SqL K H a xs → SqL K H' a xs) ∧ (SqT K H a xs → SqT K H' a xs))
    (hs : ∀ i x T σ' H', xs[i]? = some x → Pv i σ' H' → H' T = none → g (.ref T) σ' (upd H' T (.tup [.int (i : Nat), x])) fun σ2 H2 => ts { D with nx := Pv (i + 1), ct := Pv (i + 1), bk := D.nx } σ2 H2) (hd : ∀ σ' H', Pv xs.length σ' H' → D.nx σ' H') : LoopE K [.ref a] g ts D σ H := by
  rcases hS with hS | hS
  · refine ⟨a, xs, rfl, .inl ⟨hS, fun i m σ' H' => m = xs.length - i ∧ i ≤ xs.length ∧ Pv i σ' H', ⟨xs.length, by simp, Nat.zero_le _, h0⟩, ?_⟩⟩
    rintro i m σ' H' ⟨rfl, hi, p⟩
    have q := (hl i σ' H' p).1 hS
    by_cases hlt : i < xs.length
    · refine .inr ⟨⟨xs, xs[i], q, by simp [hlt]⟩, Pv (i + 1), fun σ2 H2 p' => ⟨xs.length - (i + 1), by omega, rfl, hlt, p'⟩, ?_⟩
      rintro y H2 ⟨T, x, rfl, hT, rfl, hx⟩
      exact hs i x T σ' H' (hx xs q) p hT
    · have e : i = xs.length := by omega
      subst e
      exact .inl ⟨⟨xs, q, Nat.le_refl _⟩, hd σ' H' p⟩
  · refine ⟨a, xs, rfl, .inr ⟨hS, fun i m σ' H' => m = xs.length - i ∧ i ≤ xs.length ∧ Pv i σ' H', ⟨xs.length, by simp, Nat.zero_le _, h0⟩, ?_⟩⟩
    rintro i m σ' H' ⟨rfl, hi, p⟩
    have q := (hl i σ' H' p).2 hS
    by_cases hlt : i < xs.length
    · refine .inr ⟨⟨xs, xs[i], q, by simp [hlt]⟩, Pv (i + 1), fun σ2 H2 p' => ⟨xs.length - (i + 1), by omega, rfl, hlt, p'⟩, ?_⟩
      rintro y H2 ⟨T, x, rfl, hT, rfl, hx⟩
      exact hs i x T σ' H' (hx xs q) p hT
    · have e : i = xs.length := by omega
      subst e
      exact .inl ⟨⟨xs, q, Nat.le_refl _⟩, hd σ' H' p⟩
theorem sq_pair {H' : Hp} (s : Same H H') : (SqL K H a xs → SqL K H' a xs) ∧ (SqT K H a xs → SqT K H' a xs) := ⟨fun z => s.seq z, fun z => sqT_same s z⟩
/-- a comprehension over enumerate of a list or tuple -/
def CompE (K : PySem.W.Frag) (ws : List V) (g : TG) (tt : TT) (te : TE) (vs : List Nat) (σ : L2.St) (H : Hp) (Q : VK) : Prop := ∃ a xs, ws = [.ref a] ∧ ((SqL K H a xs ∧ Comp (Ite K a) g tt te vs σ H Q) ∨ (SqT K H a xs ∧ Comp (IteT K a) g tt te vs σ H Q))
theorem r_lcE {ta : TA} (q : ta σ H fun ws H1 => CompE K ws g tt te vs σ H1 Q) : tLc (iEnumS K ta) g tt te vs σ H Q := q
theorem compE (hx : xs.length ≤ 100000) (hS : SqS K H a xs) (P : Addr → Nat → List V → Hp → Prop) (h0 : ∀ D, H D = none → P D 0 [] (upd H D (.lst []))) (hl : ∀ D i acc H', H D = none → P D i acc H' → (SqL K H a xs → SqL K H' a xs) ∧ (SqT K H a xs → SqT K H' a xs))
    (hs : ∀ D i x T acc H', H D = none → xs[i]? = some x → i < xs.length → P D i acc H' → H' D = some (.lst acc) → acc.length = i → H' T = none → g (.ref T) (wipe σ vs) (upd H' T (.tup [.int (i : Nat), x])) fun σ2 H2 => wipe σ2 vs = wipe σ vs ∧ te σ2 H2 (CNext D (P D) i))
    (hd : ∀ D acc H', H D = none → P D xs.length acc H' → H' D = some (.lst acc) → acc.length = xs.length → Q (.ref D) H') : CompE K [.ref a] g tYes te vs σ H Q := by
  have key : ∀ J : It, (∀ D i acc H', H D = none → P D i acc H' → i < xs.length → J.go i H') → (∀ D acc H', H D = none → P D xs.length acc H' → J.stop xs.length H') → (∀ D i acc H' y H2, H D = none → P D i acc H' → J.yld i H' y H2 → ∃ T x, y = .ref T ∧ H' T = none ∧ H2 = upd H' T (.tup [.int (i : Nat), x]) ∧ xs[i]? = some x) → Comp J g tYes te vs σ H Q := by
    intro J j1 j2 j3 D hD
    refine ⟨fun i m H' => m = xs.length - i ∧ i ≤ xs.length ∧ ∃ acc, P D i acc H' ∧ H' D = some (.lst acc) ∧ acc.length = i, ⟨xs.length, by simp, Nat.zero_le _, [], h0 D hD, upd_same, rfl⟩, ?_⟩
    rintro i m H' ⟨rfl, hi, acc, p, hD', hlen⟩
    by_cases hlt : i < xs.length
    · refine .inr ⟨j1 D i acc H' hD p hlt, fun H2 => ∃ acc, P D (i + 1) acc H2 ∧ H2 D = some (.lst acc) ∧ acc.length = i + 1, fun H2 p' => ⟨xs.length - (i + 1), by omega, rfl, hlt, p'⟩, ?_⟩
      intro y H2 hy
      obtain ⟨T, x, rfl, hT, rfl, hx'⟩ := j3 D i acc H' y H2 hD p hy
      exact hs D i x T acc H' hD hx' hlt p hD' hlen hT
    · have e : i = xs.length := by omega
      subst e
      exact .inl ⟨j2 D acc H' hD p, hd D acc H' hD p hD' hlen⟩
  rcases hS with hS | hS
  · refine ⟨a, xs, rfl, .inl ⟨hS, key _ (fun D i acc H' hD p hlt => ⟨xs, xs[i], (hl D i acc H' hD p).1 hS, by simp [hlt]⟩) (fun D acc H' hD p => ⟨xs, (hl D _ acc H' hD p).1 hS, Nat.le_refl _⟩) ?_⟩⟩
    rintro D i acc H' y H2 hD p ⟨T, x, rfl, hT, rfl, hx'⟩
    exact ⟨T, x, rfl, hT, rfl, hx' xs ((hl D i acc H' hD p).1 hS)⟩
  · refine ⟨a, xs, rfl, .inr ⟨hS, key _ (fun D i acc H' hD p hlt => ⟨xs, xs[i], (hl D i acc H' hD p).2 hS, by simp [hlt]⟩) (fun D acc H' hD p => ⟨xs, (hl D _ acc H' hD p).2 hS, Nat.le_refl _⟩) ?_⟩⟩
    rintro D i acc H' y H2 hD p ⟨T, x, rfl, hT, rfl, hx'⟩
    exact ⟨T, x, rfl, hT, rfl, hx' xs ((hl D i acc H' hD p).2 hS)⟩
/-- zip of three tuples of n items, in a comprehension -/
def CompZ3 (K : PySem.W.Frag) (ws : List V) (g : TG) (tt : TT) (te : TE) (vs : List Nat) (σ : L2.St) (H : Hp) (Q : VK) : Prop := ∃ a b c xs ys zs, ws = [.ref a, .ref b, .ref c] ∧ SqT K H a xs ∧ SqT K H b ys ∧ SqT K H c zs ∧ Comp (ItZ3 K a b c) g tt te vs σ H Q
theorem r_lcZ3 {ta : TA} (q : ta σ H fun ws H1 => CompZ3 K ws g tt te vs σ H1 Q) : tLc (iZip3 K ta) g tt te vs σ H Q := q
theorem compZ3 {b c : Addr} {ys zs : List V} (hx : xs.length ≤ 100000) (ly : ys.length = xs.length) (lz : zs.length = xs.length) (sa : SqT K H a xs) (sb : SqT K H b ys) (sc : SqT K H c zs) (P : Addr → Nat → List V → Hp → Prop) (h0 : ∀ D, H D = none → P D 0 [] (upd H D (.lst []))) (hl : ∀ D i acc H', H D = none → P D i acc H' → Same H H')
    (hs : ∀ D i x y z T acc H', H D = none → xs[i]? = some x → ys[i]? = some y → zs[i]? = some z → i < xs.length → P D i acc H' → H' D = some (.lst acc) → acc.length = i → H' T = none → g (.ref T) (wipe σ vs) (upd H' T (.tup [x, y, z])) fun σ2 H2 => wipe σ2 vs = wipe σ vs ∧ te σ2 H2 (CNext D (P D) i))
    (hd : ∀ D acc H', H D = none → P D xs.length acc H' → H' D = some (.lst acc) → acc.length = xs.length → Q (.ref D) H') : CompZ3 K [.ref a, .ref b, .ref c] g tYes te vs σ H Q := by
  refine ⟨a, b, c, xs, ys, zs, rfl, sa, sb, sc, fun D hD => ⟨fun i m H' => m = xs.length - i ∧ i ≤ xs.length ∧ ∃ acc, P D i acc H' ∧ H' D = some (.lst acc) ∧ acc.length = i, ⟨xs.length, by simp, Nat.zero_le _, [], h0 D hD, upd_same, rfl⟩, ?_⟩⟩
  rintro i m H' ⟨rfl, hi, acc, p, hD', hlen⟩
  have S := hl D i acc H' hD p
  by_cases hlt : i < xs.length
  · refine .inr ⟨⟨xs, ys, zs, xs[i], ys[i]'(by omega), zs[i]'(by omega), sqT_same S sa, sqT_same S sb, sqT_same S sc, by simp [hlt], by simp [ly, hlt], by simp [lz, hlt]⟩, fun H2 => ∃ acc, P D (i + 1) acc H2 ∧ H2 D = some (.lst acc) ∧ acc.length = i + 1, fun H2 p' => ⟨xs.length - (i + 1), by omega, rfl, hlt, p'⟩, ?_⟩
    rintro v H2 ⟨T, x, y, z, rfl, hT, rfl, e1, e2, e3⟩
    exact hs D i x y z T acc H' hD (e1 xs (sqT_same S sa)) (e2 ys (sqT_same S sb)) (e3 zs (sqT_same S sc)) hlt p hD' hlen hT
  · have e : i = xs.length := by omega
    subst e
    exact .inl ⟨⟨xs, ys, zs, sqT_same S sa, sqT_same S sb, sqT_same S sc, ⟨Nat.le_refl _, by omega, by omega⟩, .inl rfl⟩, hd D acc H' hD p hD' hlen⟩
end
/-! generators: their readings -/
section
variable {K : PySem.W.Frag} {C : Ctr} {D : GEn} {m : Nat} {Hr : Hp} {σ : L2.St} {H : Hp}
theorem q_c {t u : TGm} (q : t C { D with nx := fun m' Hr' σ' H' => u C D m' Hr' σ' H' } m Hr σ H) : tGc t u C D m Hr σ H := q
theorem q_n (q : D.nx m Hr σ H) : tGn C D m Hr σ H := q
theorem q_p {t : TS} (q : t (D.at m Hr) σ H) : tGp t C D m Hr σ H := q
theorem q_y {te : TE} (q : te σ H fun x H1 => ∃ m', m = m' + 1 ∧ C.yl m Hr x H1 ∧ ∀ H2, C.ok m' H1 H2 → D.nx m' H2 σ H2) : tGy te C D m Hr σ H := q
theorem q_i {tc : TT} {t u : TGm} (q : tc σ H fun b H1 => if b = true then t C D m Hr σ H1 else u C D m Hr σ H1) : tGi tc t u C D m Hr σ H := q
/-- for over enumerate of a list or tuple, in a generator -/
theorem q_forE {ta : TA} {gt : TG} {tb : TGm} {a : Addr} {xs : List V} (Pv : Nat → Nat → Hp → L2.St → Hp → Prop) (q : ta σ H fun ws H1 => ws = [.ref a] ∧ SqS K H1 a xs ∧ Pv 0 m Hr σ H1 ∧
      (∀ i m Hr σ' H', Pv i m Hr σ' H' → (SqL K H1 a xs → SqL K H' a xs) ∧ (SqT K H1 a xs → SqT K H' a xs)) ∧
      (∀ i x T m Hr σ' H', xs[i]? = some x → Pv i m Hr σ' H' → H' T = none → gt (.ref T) σ' (upd H' T (.tup [.int (i : Nat), x])) fun σ2 H2 => tb C { D with nx := Pv (i + 1), ct := Pv (i + 1), bk := D.nx } m Hr σ2 H2) ∧
      ∀ m Hr σ' H', Pv xs.length m Hr σ' H' → D.nx m Hr σ' H') (mono : ∀ (R R' : List V → Hp → Prop), (∀ ws H1, R ws H1 → R' ws H1) → ta σ H R → ta σ H R') : tGf (iEnumS K ta) gt tb C D m Hr σ H := by
  refine mono _ _ (fun ws H1 z => ?_) q
  obtain ⟨rfl, hS, p0, hl, hs, hd⟩ := z
  rcases hS with hS | hS
  · refine ⟨a, xs, rfl, .inl ⟨hS, fun i z m Hr σ' H' => z = xs.length - i ∧ i ≤ xs.length ∧ Pv i m Hr σ' H', ⟨xs.length, by simp, Nat.zero_le _, p0⟩, ?_⟩⟩
    rintro i z m Hr σ' H' ⟨rfl, hi, p⟩
    have q := (hl i m Hr σ' H' p).1 hS
    by_cases hlt : i < xs.length
    · refine .inr ⟨⟨xs, xs[i], q, by simp [hlt]⟩, Pv (i + 1), fun m2 Hr2 σ2 H2 p' => ⟨xs.length - (i + 1), by omega, rfl, hlt, p'⟩, ?_⟩
      rintro y H2 ⟨T, x, rfl, hT, rfl, hx⟩
      exact hs i x T m Hr σ' H' (hx xs q) p hT
    · have e : i = xs.length := by omega
      subst e
      exact .inl ⟨⟨xs, q, Nat.le_refl _⟩, hd m Hr σ' H' p⟩
  · refine ⟨a, xs, rfl, .inr ⟨hS, fun i z m Hr σ' H' => z = xs.length - i ∧ i ≤ xs.length ∧ Pv i m Hr σ' H', ⟨xs.length, by simp, Nat.zero_le _, p0⟩, ?_⟩⟩
    rintro i z m Hr σ' H' ⟨rfl, hi, p⟩
    have q := (hl i m Hr σ' H' p).2 hS
    by_cases hlt : i < xs.length
    · refine .inr ⟨⟨xs, xs[i], q, by simp [hlt]⟩, Pv (i + 1), fun m2 Hr2 σ2 H2 p' => ⟨xs.length - (i + 1), by omega, rfl, hlt, p'⟩, ?_⟩
      rintro y H2 ⟨T, x, rfl, hT, rfl, hx⟩
      exact hs i x T m Hr σ' H' (hx xs q) p hT
    · have e : i = xs.length := by omega
      subst e
      exact .inl ⟨⟨xs, q, Nat.le_refl _⟩, hd m Hr σ' H' p⟩
end
/-! a for over a generator: its reading -/
section
variable {σ : L2.St} {H : Hp} {D : Ends} {gt : TG} {tb : TS} {t : TGc} {ta : TA} {sp : SpM}
theorem r_forGE (q : t σ H fun n C H1 => C.ok n H1 H1 ∧ ∃ Pv : Nat → L2.St → Hp → Prop, Pv 0 σ H1 ∧
    (∀ i σ' H' T y Hy, i < n → Pv i σ' H' → C.yl (n - i) H' y Hy → Hy T = none → gt (.ref T) σ' (upd Hy T (.tup [.int (i : Nat), y])) fun σ2 H3 => tb { D with nx := fun σ4 H4 => Pv (i + 1) σ4 H4 ∧ C.ok (n - (i + 1)) Hy H4, ct := fun σ4 H4 => Pv (i + 1) σ4 H4 ∧ C.ok (n - (i + 1)) Hy H4, bk := D.nx } σ2 H3) ∧
    ∀ σ' H' H2, Pv n σ' H' → C.fin H' H2 → D.nx σ' H2) (mono : ∀ (R R' : Nat → Ctr → Hp → Prop), (∀ n C H1, R n C H1 → R' n C H1) → t σ H R → t σ H R') : tForS (tIgE t) gt tb D σ H := by
  refine mono _ _ (fun n C H1 z => ?_) q
  obtain ⟨ok, Pv, p0, hs, hd⟩ := z
  refine ⟨ok, Pv, p0, ?_, hd⟩
  rintro i σ' H' hi p x H2 Hy ⟨T, y, hy, rfl, hT, rfl⟩
  exact hs i σ' H' T y Hy hi p hy hT
end
end G
/-! ### min of a list of data -/
namespace G
open PySem PySem.Spec PyProof.Rows L2 PySem.W
def rMinD (K : PySem.W.Frag) : List V → Hp → VK → Prop := fun vs H Q => ∃ (a : Addr) (xs : List V) (x : PyData) (ds : List PyData), vs = [V.ref a] ∧ SqL K H a xs ∧ DpAll K H xs (x :: ds) ∧ AlikeAll (x :: ds) ∧ PyData.depthAll (x :: ds) ≤ 60 ∧
  ∀ (i : Nat) (v : V), xs[i]? = some v → (x :: ds)[i]? = some (minD x ds) → Q v H
theorem cr_minD {X : Cx} {n : Nat} (hc : X.calm = true) (hr : Room n X.A) : CallR X (.builtin "min") (rMinD X.K) := by
  intro pins s σ H vs us Q I r h
  obtain ⟨a, xs, x, ds, rfl, hs, hd, ha, hdep, q⟩ := h
  obtain ⟨its, rv, hl, _⟩ := I.list hs
  rw [Vals.ref1 r]
  obtain ⟨as, hR⟩ := Dp.readsAll I (x :: ds) xs its hd rv
  have hu : X.A.units + 64 < cLine := hr.units
  refine min_list_data (I.ok.hd hc) hl.isList (by simpa using hR) ha (by omega) fun i v h' tk bs hv hm hk => ?_
  have hv' : its[i]? = some v := by simpa using hv
  have hi : i < its.length := (List.getElem?_eq_some_iff.mp hv').1
  have hix : i < xs.length := by rw [rv.length]; exact hi
  obtain ⟨u, hu', ru⟩ := rv.get (List.getElem?_eq_getElem hix)
  rw [hv'] at hu'
  obtain rfl := Option.some.inj hu'
  obtain ⟨bs2, r2, hlt, _, _⟩ := readsAll_at hR i v hv'
  have e := (reads_det (fun b o e _ => hk b o e) r2 hm).1
  refine ⟨_, H, I.kept hk, ru, q i _ (List.getElem?_eq_getElem hix) ?_⟩
  rw [e, List.getD_eq_getElem?_getD, List.getElem?_eq_getElem hlt]; rfl
theorem kMinD {X : Cx} {n : Nat} {K : PySem.W.Frag} (hc : X.calm = true) (hr : Room n X.A) (h : X.K = K := by rfl) : CallR X (.builtin "min") (rMinD K) := h ▸ cr_minD hc hr
theorem kRevL {X : Cx} {K : PySem.W.Frag} {e : Expr} {te : TE} (h : PE X e (tRevL X.K te)) (hK : X.K = K := by rfl) : PE X e (tRevL K te) := hK ▸ h
theorem r_revL {K : PySem.W.Frag} {te : TE} {σ : L2.St} {H : Hp} {Q : VK} (q : te σ H fun x H1 => ∃ a xs, x = .ref a ∧ SqL K H1 a xs ∧ ∀ p, H1 p = none → Q (.ref p) (upd H1 p (.lst xs.reverse))) : tRevL K te σ H Q := q
/-- the first of the least points -/
def minP (p : Int × Int) (ps : List (Int × Int)) : Int × Int := ps.foldl (fun a y => if dataLt (Datum.toD y) (Datum.toD a) then y else a) p
theorem minD_pts : ∀ (ps : List (Int × Int)) (p : Int × Int), minD (Datum.toD p) (ps.map Datum.toD) = Datum.toD (minP p ps)
  | [], p => rfl
  | y :: ps, p => by
    show minD (if dataLt (Datum.toD y) (Datum.toD p) then Datum.toD y else Datum.toD p) (ps.map Datum.toD) = Datum.toD (minP (if dataLt (Datum.toD y) (Datum.toD p) then y else p) ps)
    split <;> exact minD_pts ps _
theorem alike_pts (ps : List (Int × Int)) : AlikeAll (ps.map Datum.toD) := by
  refine ⟨fun x hx y hy => ?_, fun x hx => ?_⟩
  · obtain ⟨p, _, rfl⟩ := List.mem_map.mp hx
    obtain ⟨q, _, rfl⟩ := List.mem_map.mp hy
    rfl
  · obtain ⟨p, _, rfl⟩ := List.mem_map.mp hx
    intro z; cases z
theorem depth_pts : ∀ ps : List (Int × Int), PyData.depthAll (ps.map Datum.toD) ≤ 60
  | [] => by decide
  | p :: ps => by
    show max (Datum.toD p).depth (PyData.depthAll (ps.map Datum.toD)) ≤ 60
    exact Nat.max_le.mpr ⟨Nat.le_trans (Datum.depth_le p) (by decide), depth_pts ps⟩
theorem r_minP {K : PySem.W.Frag} {H : Hp} {a : Addr} {xs : List V} {p : Int × Int} {ps : List (Int × Int)} {Q : VK} (hs : SqL K H a xs) (hx : Hds K H xs (p :: ps)) (q : ∀ (i : Nat) (v : V), xs[i]? = some v → (p :: ps)[i]? = some (minP p ps) → Q v H) : rMinD K [.ref a] H Q := by
  refine ⟨a, xs, Datum.toD p, ps.map Datum.toD, rfl, hs, hx, alike_pts (p :: ps), depth_pts (p :: ps), fun i v hi hm => q i v hi ?_⟩
  rw [minD_pts, ← List.map_cons, List.getElem?_map] at hm
  obtain ⟨r, hr, e⟩ := Option.map_eq_some_iff.mp hm
  have e2 := Datum.eqv r (minP p ps)
  rw [e, Datum.eqv, decide_eq_true rfl] at e2
  rw [hr, of_decide_eq_true e2.symm]
theorem kIndexD {X : Cx} {n : Nat} {K : PySem.W.Frag} (hr : Room n X.A) (h : X.K = K := by rfl) : MtR X "list.index" (rIndexD K) := h ▸ mt_indexD (by have := hr.un; omega)
/-- l.index(y) -/
theorem r_indexH {K : PySem.W.Frag} {H : Hp} {α : Type} [DecidableEq α] [Datum α] [Lay α] {a : Addr} {xs : List V} {ys : List α} {y : V} {z : α} {j : Nat} {Q : VK} (h : SqL K H a xs) (hx : Hds K H xs ys) (hy : Hd K H y z) (hj : ys[j]? = some z) (hn : ∀ m, m < j → ys[m]? ≠ some z) (q : Q (.int (j : Nat)) H) (hd : Datum.depth (List α) ≤ 64 := by decide) (hd2 : Datum.depth α ≤ 64 := by decide) : rIndexD K (.ref a) [y] H Q := by
  refine ⟨a, y, Datum.toD z, ys.map Datum.toD, j, Datum.toD z, rfl, rfl, .lst h hx, hy, shapedD ys hd, shapedD z hd2, by rw [List.getElem?_map, hj]; rfl, by rw [Datum.eqv, decide_eq_true rfl], fun m z' hm hz => ?_, q⟩
  rw [List.getElem?_map] at hz
  obtain ⟨w, hw, rfl⟩ := Option.map_eq_some_iff.mp hz
  rw [Datum.eqv]
  exact decide_eq_false fun e => hn m hm (by rw [hw, e])
theorem r_bm {K : PySem.W.Frag} {T : String} {r : V → List V → Hp → VK → Prop} {to : TE} {t : TA} {σ : L2.St} {H : Hp} {Q : VK} (q : to σ H fun x H1 => tyV K T x H1 ∧ t σ H1 fun xs H2 => r x xs H2 Q) : tBM K T r to t σ H Q := q
theorem r_slL {K : PySem.W.Frag} {H : Hp} {a : Addr} {xs : List V} {lo hi : Option Int} {Q : VK} (h : SqL K H a xs) (q : ∀ p, H p = none → Q (.ref p) (upd H p (.lst (cutV xs lo hi)))) : rSlL K (.ref a) lo hi H Q := ⟨a, xs, rfl, h, q⟩
theorem cut_from {xs : List V} {j : Nat} : cutV xs (some (j : Int)) none = xs.drop j := by
  unfold cutV
  rw [HT.sIx_none, HT.sIx_nat, List.take_of_length_le (by rw [List.length_drop]; omega)]
  rcases Nat.le_total j xs.length with h | h
  · rw [Nat.min_eq_left h]
  · rw [Nat.min_eq_right h, List.drop_eq_nil_of_le h, List.drop_eq_nil_of_le (Nat.le_refl _)]
theorem cut_to {xs : List V} {j : Nat} : cutV xs none (some (j : Int)) = xs.take j := by
  unfold cutV
  rw [HT.sIx_none, HT.sIx_nat, List.drop_zero, Nat.sub_zero]
  rcases Nat.le_total j xs.length with h | h
  · rw [Nat.min_eq_left h]
  · rw [Nat.min_eq_right h, List.take_of_length_le h, List.take_of_length_le (Nat.le_refl _)]
theorem r_app {H : Hp} {Q : VK} {p : Addr} {xs : List V} {y : V} (h : H p = some (.lst xs)) (hl : xs.length ≤ 100000) (q : Q .non (upd H p (.lst (xs ++ [y])))) : rAppend (.ref p) [y] H Q := ⟨p, xs, y, rfl, rfl, h, Nat.lt_of_le_of_lt hl (by decide), q⟩
theorem ty_lst {K : PySem.W.Frag} {H : Hp} {p : Addr} {xs : List V} (h : H p = some (.lst xs)) : tyV K "list" (.ref p) H := .inl ⟨rfl, xs, SqL.of h⟩
/-- an object that the caller does not know is written -/
theorem Kp.putN {l b : Addr} {H H1 : Hp} {o : HO} (a : Kp l H H1) (hb : H b = none) : Kp l H (upd H1 b o) := fun c u n e => by
  rw [upd_ne (ne_of_none e hb)]; exact a c u n e
theorem Kp.free {l p : Addr} {H H' : Hp} (k : Kp l H H') (ne : p ≠ l) (h : H' p = none) : H p = none := by
  cases e : H p with
  | none => rfl
  | some o => rw [k _ _ ne e] at h; cases h
end G
/-! ### several except clauses, with names or without -/
namespace G
open PySem PySem.Spec PyProof.Rows L2
/-- behind the suite slot i is none -/
def dropN (i : Nat) (D : Ends) : Ends := ⟨fun z G => D.nx (z.set i none) G, D.rt, fun z G => D.bk (z.set i none) G, fun z G => D.ct (z.set i none) G⟩
/-- a suite with a name for the exception -/
def asT (i : Nat) (ts : Addr → Value → Option Addr → TS) : Addr → Value → Option Addr → TS := fun a cls d D σ H => ts a cls d (dropN i D) (σ.set i (some (.ref a))) H
abbrev Cls1 := Value × (Addr → Value → Option Addr → TS)
inductive ClOk (X : Cx) : List ExceptHandler → List Cls1 → Prop
  | nil : ClOk X [] []
  | no {x : Str} {c : Value} {ts : Addr → Value → Option Addr → TS} {b₀ : Stmt} {su : List Stmt} {np po : Pos} {hds : List ExceptHandler} {l : List Cls1} (hc : Names X x c)
      (hsu : ∀ (a : Addr) (oe : Obj) (cls : Value) (d : Option Addr) (pn : List (Addr × Obj)), Zc cls d oe → (∃ vs, oe.data = .fields vs) → PSs (X.suite a ((a, oe) :: pn)) (b₀ :: su) (ts a cls d)) (r : ClOk X hds l) : ClOk X (.ExceptHandler (some (.Name x np)) none (b₀ :: su) po :: hds) ((c, ts) :: l)
  | as {x n : Str} {c : Value} {i : Nat} {ts : Addr → Value → Option Addr → TS} {b₀ : Stmt} {su : List Stmt} {np po : Pos} {hds : List ExceptHandler} {l : List Cls1} (hN : X.N.Nodup) (hi : X.N[i]? = some n) (hln : X.env.kindOf n = some .local) (hc : Names X x c)
      (hsu : ∀ (a : Addr) (oe : Obj) (cls : Value) (d : Option Addr) (pn : List (Addr × Obj)), Zc cls d oe → (∃ vs, oe.data = .fields vs) → PSs (X.suite a ((a, oe) :: pn)) (b₀ :: su) (ts a cls d)) (r : ClOk X hds l) : ClOk X (.ExceptHandler (some (.Name x np)) (some n) (b₀ :: su) po :: hds) ((c, asT i ts) :: l)
theorem ps_try_nm {X : Cx} {body : List Stmt} {h₀ : ExceptHandler} {hds : List ExceptHandler} {l : List Cls1} {pos : Pos} {tb : WX → TS} {Wo : WX} (hs : X.stack = X.env :: X.outer) (hf : X.env.frame = some X.env.locals) (tk : Takes X Wo)
    (hb : ∀ (W : WX) (pn : List (Addr × Obj)) (xe : Value → Shared → Prop), Takes (X.tr pn xe) W → PassesOwn (model X.prog X.w) X.A X.env xe → PSs (X.tr pn xe) body (tb W)) (hh : ClOk X (h₀ :: hds) l) : PS X (.Try body (h₀ :: hds) [] [] pos) (fun D σ H => tb (wMany X.K Wo D l) D σ H) := by
  refine ⟨fun pins s σ H D I h => ?_⟩
  have ok := I.ok; have hfr : X.A.frames = some (X.env :: X.outer) := by
    rw [ok.frames, hs]
  refine wpAny_Try_except (wpAny_mono ((hb (wMany X.K Wo D l) (X.pn ++ pins) (fun e z1 => wpAny (model X.prog X.w) X.A (noteFrame e X.env) (fun _ z2 => wpAny (model X.prog X.w) X.A (setFlight e none) (fun _ z3 => wpAny (model X.prog X.w) X.A (handleBy e X.env (h₀ :: hds)) (SP X pins D) X.xe z3) X.xe z2) X.xe z1) (fun u s' xx => ?_) PassesOwn.looking).run [] s σ H D (I.toTry _) h) (fun f s1 hsp => ?_) (fun e s1 he => he))
  · obtain ⟨a, B, sI, pins', ρ, G, cls, d, rfl, J', nb, up, sky, na, os, ag, w⟩ := xx
    have J : Inv X pins ρ G sI := J'.ofTry ok; have sk2 : Sky B (X.env :: X.outer) a (Zc cls d) X.env.locals s'.heap := by
      rw [← hs]; exact sky
    show wpAny (model X.prog X.w) X.A (noteFrame (.ref a) X.env) _ _ _
    refine Sky.land Zc.steady hfr hf sk2 fun h3 fl3 up3 => ?_
    have J3 : Inv X pins ρ G { s' with heap := h3 } := J.landed nb fl3.1 (up.trans up3) os ag; obtain ⟨oe3, vs3, he3, hz3, hd3⟩ := fl3.there
    have nfr : a ∉ frs (X.env :: X.outer) := fun hm => by
      obtain ⟨_, o', e', hnf⟩ := fl3.2.2.1.mem hm; rw [he3] at e'; cases e'; exact hnf _ hd3
    have nL : a ≠ X.env.locals := fun z => nfr (List.mem_filterMap.mpr ⟨X.env, List.mem_cons_self, by rw [hf, z]⟩); have nF : a ∉ X.fs := fun hm => by
      obtain ⟨e, he, q⟩ := List.mem_filterMap.mp hm; exact nfr (List.mem_filterMap.mpr ⟨e, List.mem_cons_of_mem _ he, q⟩)
    have S3 := J3.suite he3 hd3 na nL nF
    have LT : PySem.W.Looks (model X.prog X.w) h3 (typeOf (.ref a)) cls := fun A Q E s k q => wpAny_typeOf_ref (k _ _ he3) (by
      rw [hz3.1]; exact q)
    have test : ∀ {x : Str} {c : Value} {np : Pos} {Q E : Value → Shared → Prop}, Names X x c → Q c { s' with heap := h3 } → wpAny (model X.prog X.w) (X.A.mark (some (.ref a))) (eval (.Name x np) X.env) Q E { s' with heap := h3 } := fun {x c np Q E} hc q => by
      obtain ⟨hg, hdbg, hm | ⟨hm, hv, hnn⟩⟩ := hc
      · exact ld_glob (X := X.suite a ((a, oe3) :: (X.pn ++ pins))) S3 hg hm q hdbg
      · exact ld_blt (X := X.suite a ((a, oe3) :: (X.pn ++ pins))) S3 hg hm hv q hnn hdbg
    have go : ∀ {hds' : List ExceptHandler} {l' : List Cls1}, ClOk X hds' l' → wMany X.K Wo D l' cls d ρ G → wpAny (model X.prog X.w) X.A (handleBy (.ref a) X.env hds') (SP X pins D) X.xe { s' with heap := h3 } := by
      intro hds' l' hk
      induction hk with
      | nil =>
        intro w; refine wpAny_handleBy_nil ?_
        obtain ⟨k1, k2, k3, oe, vs, T, oT, ts', he, hz, hd, h1, hr⟩ := id fl3; unfold PySem.passOn
        refine wpAny_bind (wpAny_field he hd h1 ?_); rw [if_neg (show ¬ ((Value.ref T == Value.none) = true) from by simp)]
        have fin : wpAny (model X.prog X.w) X.A (setFlight (.ref a) X.env.frame) (fun _ s4 => wpAny (model X.prog X.w) X.A (throw (.ref a) : Sem Flow) (SP X pins D) X.xe s4) X.xe { s' with heap := h3 } := by
          rw [hf]; refine HandSPX.setFlight_upZ fl3 fun h4 hh4 up4 => wpAny_throw (tk _ _ ⟨a, B, sI, pins, ρ, G, cls, d, rfl, J, nb, (up.trans up3).trans up4, .inr (.inr (by rw [hs]; exact hh4)), na, os, ag, w⟩)
        first
          | exact wpAny_bind (wpAny_pure (wpAny_bind fin))
          | exact wpAny_bind fin
      | @no x c ts b₀ su np po hds2 l2 hc hsu r ih =>
        intro w; obtain ⟨b, hb1, hyes, hno⟩ := w
        refine wpAny_handleBy_cons (codeAny_handlers_test ?_) (by intro q; cases q); have LM := PySem.W.exm_one (M := model X.prog X.w) (J3.kIn) LT hb1
        refine test hc (LM.here ?_); cases b with
        | true =>
          refine codeAny_handlers_suite (HandSPX.lands_againZ fl3 fun h4 fl4 up4 => ?_)
          have J4 : Inv X pins ρ G { s' with heap := h4 } := J.landed nb fl4.1 ((up.trans up3).trans up4) os ag; obtain ⟨oe4, vs4, he4, hz4, hd4⟩ := fl4.there
          refine wpAny_mono ((hsu a oe4 cls d (X.pn ++ pins) hz4 ⟨_, hd4⟩).run [] _ _ G _ (J4.suite he4 hd4 na nL nF) (hyes rfl a na)) (fun f s6 hsp => ?_) (fun _ _ z => False.elim z); cases f with
          | next => obtain ⟨z6, H6, S6, q6⟩ := hsp; exact ⟨_, _, S6.unsuite ok, q6⟩
          | brk => obtain ⟨z6, H6, S6, q6⟩ := hsp; exact ⟨_, _, S6.unsuite ok, q6⟩
          | cont => obtain ⟨z6, H6, S6, q6⟩ := hsp; exact ⟨_, _, S6.unsuite ok, q6⟩
          | ret u => obtain ⟨v6, z6, H6, S6, r6, q6⟩ := hsp; exact ⟨_, _, _, S6.unsuite ok, r6, q6⟩
        | false => exact (show wpAny _ X.A (handleBy (.ref a) X.env hds2) _ _ _ from ih (hno rfl))
      | @as x n c i ts b₀ su np po hds2 l2 hN hi hln hc hsu r ih =>
        intro w; obtain ⟨b, hb1, hyes, hno⟩ := w
        refine wpAny_handleBy_cons (codeAny_handlers_test ?_) (by intro q; cases q); have LM := PySem.W.exm_one (M := model X.prog X.w) (J3.kIn) LT hb1
        refine test hc (LM.here ?_); cases b with
        | true =>
          refine codeAny_handlers_suite_as (HandSPX.lands_againZ fl3 fun h4 fl4 up4 => ?_)
          have J4 : Inv X pins ρ G { s' with heap := h4 } := J.landed nb fl4.1 ((up.trans up3).trans up4) os ag; obtain ⟨oe4, vs4, he4, hz4, hd4⟩ := fl4.there
          refine store_ok (X := X.suite a ((a, oe4) :: (X.pn ++ pins))) (v := .ref a) (J4.suite he4 hd4 na nL nF) hN hi (.inl hln) rfl (fun s5 S5 => ?_) (.inr hln)
          refine wpAny_mono ((hsu a oe4 cls d (X.pn ++ pins) hz4 ⟨_, hd4⟩).run [] s5 _ G _ S5 (hyes rfl a na)) (fun f s6 hsp => ?_) (fun _ _ z => False.elim z)
          have fin6 : ∀ {z6 : L2.St} {H6 : Hp} {Q : Shared → Prop}, Inv (X.suite a ((a, oe4) :: (X.pn ++ pins))) [] z6 H6 s6 → (∀ s7, Inv X pins (z6.set i none) H6 s7 → Q s7) → wpAny (model X.prog X.w) X.A (do bindName X.env n .none; unbindBehindTheSuite X.env n po) (fun _ s7 => Q s7) X.xe s6 := fun {z6 H6 Q} S6 hq => gone_ok (S6.unsuite ok) hN hi hln hq
          cases f with
          | next => obtain ⟨z6, H6, S6, q6⟩ := hsp; exact fin6 S6 fun s7 J7 => ⟨_, _, J7, q6⟩
          | brk => obtain ⟨z6, H6, S6, q6⟩ := hsp; exact fin6 S6 fun s7 J7 => ⟨_, _, J7, q6⟩
          | cont => obtain ⟨z6, H6, S6, q6⟩ := hsp; exact fin6 S6 fun s7 J7 => ⟨_, _, J7, q6⟩
          | ret u => obtain ⟨v6, z6, H6, S6, r6, q6⟩ := hsp; exact fin6 S6 fun s7 J7 => ⟨_, _, _, J7, r6, q6⟩
        | false => exact (show wpAny _ X.A (handleBy (.ref a) X.env hds2) _ _ _ from ih (hno rfl))
    exact go hh w
  · cases f with
    | next => obtain ⟨ρ, G, J', q⟩ := hsp; exact wpAny_execs_nil ⟨ρ, G, J'.ofTry ok, q⟩
    | brk => obtain ⟨ρ, G, J', q⟩ := hsp; exact ⟨ρ, G, J'.ofTry ok, q⟩
    | cont => obtain ⟨ρ, G, J', q⟩ := hsp; exact ⟨ρ, G, J'.ofTry ok, q⟩
    | ret u => obtain ⟨v, ρ, G, J', r, q⟩ := hsp; exact ⟨v, ρ, G, J'.ofTry ok, r, q⟩
theorem r_xf {a C : Addr} {cls : Value} {d : Option Addr} {f : Str} {te : TE} {σ : L2.St} {H : Hp} {Q : VK} (q : te σ H fun x H1 => x = .ref a ∧ cls = .ref C ∧ ∃ (dd : Addr) (fs : List (Str × V)) (v : V), d = some dd ∧ H1 dd = some (.xd fs) ∧ fs.lookup f = some v ∧ Q v H1) : tXf a cls d C f te σ H Q := q
theorem r_asT {i : Nat} {ts : Addr → Value → Option Addr → TS} {a : Addr} {cls : Value} {d : Option Addr} {D : Ends} {σ : L2.St} {H : Hp} (q : ts a cls d (dropN i D) (σ.set i (some (.ref a))) H) : asT i ts a cls d D σ H := q
end G
/-! ### sorted of a list or tuple of data -/
namespace G
open PySem PySem.Spec PyProof.Rows L2 PySem.W
section
variable {prog : Program} {w : World} {A : Around} {E : Value → Shared → Prop} {s : Shared}
/-- the heap once the items are collected -/
abbrev cpH (h : Heap) (its : Array Value) : Heap := (h.push { cls := .type "list", data := .seq ([] : List Value).toArray }).update h.objs.size (Obj.mapSeq (· ++ its))
theorem collect_any {Q : List Value → Shared → Prop} (l : Addr) {T : String} {o : Obj} {its : Array Value} {n : Nat} (hT : T = "list" ∨ T = "tuple") (ho : s.heap.get? l = some o) (hc : o.cls = .type T) (hd : o.data = .seq its n) (hQ : Q its.toList { s with heap := cpH s.heap its }) (hz : its.size ≤ sizeLine) : wpAny (model prog w) A (collect (.ref l)) Q E s := by
  unfold collect; refine wpAny_bind (wpAny_runValue (codeAny_builtin F.entry_proto_collect ?_))
  rw [Around.under_plainId F.plain_proto_collect _]; show wpAny _ A.in1 (newList [] >>= fun z => again (.builtin "list.__iadd__" ⟨[z, .ref l], []⟩)) _ _ s
  refine wpAny_bind (wpAny_newObj_type (wpAny_pure ⟨plainId_quiet F.plain_list_iadd _, codeAny_builtin F.entry_list_iadd ?_⟩))
  rw [Around.under_plainId F.plain_list_iadd _]; show wpAny _ A.in1 (Builtin.List.listExtendWith (.ref s.heap.objs.size) (.ref l) (.ref s.heap.objs.size)) _ _ _
  have g0 : (s.heap.push { cls := .type "list", data := .seq ([] : List Value).toArray }).get? s.heap.objs.size = some { cls := .type "list", data := .seq #[] 0 } := Heap.get?_push_size _ rfl; have g1 := Heap.get?_update_self (Obj.mapSeq (· ++ its)) g0 rfl
  have done_ : wpAny (model prog w) A (match Value.ref s.heap.objs.size with
      | Value.ref a => do
        match (← load a).data with
          | Data.seq xs _ => pure xs.toList
          | _ => unsupported "internal:collect"
      | _ => unsupported "internal:collect") Q E { s with heap := cpH s.heap its } := by
    show wpAny _ A (load s.heap.objs.size >>= _) _ _ _; refine wpAny_bind (wpAny_load g1 (wpAny_pure ?_))
    have ee : ((#[] : Array Value) ++ its).toList = its.toList := by
      simp
    show Q ((#[] : Array Value) ++ its).toList _; rw [ee]; exact hQ
  refine wpAny_mono (wpAny_extend_seq (hsz := hz) (A := A) (R := fun r z => r = .ok (.ret (.ref s.heap.objs.size)) ∧ z = { s with heap := cpH s.heap its }) (s := { s with heap := s.heap.push { cls := .type "list", data := .seq ([] : List Value).toArray } }) _ l _ 0 hT g0 (Heap.get?_push_of_some _ ho) hc hd ⟨rfl, rfl⟩) (fun f z h => ?_) (fun e z h => absurd h.1 (by simp))
  cases f with
  | done f => obtain ⟨e, rfl⟩ := h; cases e; exact done_
  | again c' => exact ⟨h.1, codeAny_mono h.2 fun r z hr => by obtain ⟨rfl, rfl⟩ := hr; exact done_⟩
variable {β : Type} {vs : List Value} {bs : List β} {enc : β → PyData} {R : Value → β → Prop}
theorem sorted_seq {l : Addr} {T : String} {o : Obj} {n : Nat} {Q : Value → Shared → Prop} (hT : T = "list" ∨ T = "tuple") (ho : s.heap.get? l = some o) (hc : o.cls = .type T) (hd : o.data = .seq vs.toArray n)
    (e : EachIs R vs bs) (er : EachIs (fun v b => ∃ as, Reads s.heap v (enc b) as) vs bs) (hal : AllAlike (bs.map enc)) (hk : PySem.W.Sortable (bs.map enc)) (hL : bs.length ≤ sizeLine) (hu : ∀ b, b ∈ bs → A.units + 2 + (enc b).depth < cLine)
    (h : ∀ out, out.length = bs.length → EachIs R out (bs.mergeSort (dataLe false enc)) → Q (.ref (s.heap.objs.size + 1)) { s with heap := sortedAll s.heap vs (List.toArray out) }) :
    wpAny (model prog w) A (call (.builtin "sorted") [.ref l]) Q E s := by
  have hLv : vs.length ≤ sizeLine := by rw [e.length]; exact hL
  have er' : EachIs (fun v b => ∃ as, Reads (sortingHeap (copyHeap s.heap vs) (s.heap.objs.size + 1) vs) v (enc b) as) vs bs := er.mono fun _ _ ⟨as, r⟩ => ⟨as, PyProof.Rows.Reads.keeps (fun _ _ => sorting_copy_old) r⟩
  have S := SortsAt.data (prog := prog) (w := w) (A := A.in1.in1) (s := { s with heap := sortingHeap (copyHeap s.heap vs) (s.heap.objs.size + 1) vs }) (each_map (R := fun v d => ∃ as, Reads (sortingHeap (copyHeap s.heap vs) (s.heap.objs.size + 1) vs) v d as) enc er') hal hk (bound_map hu)
  have fin := h _ (by rw [sortVals_length false rfl]; exact e.length) (sortVals_data false e er' hal)
  refine call_function_entry_kw kind_sorted plain_sorted entry_sorted (args_sorted1 _) ?_
  unfold Builtin.«sorted»; refine wpAny_bind (m := checkCount "sorted" 1 1 _) (wpAny_pure (wpAny_bind (collect_any l hT ho hc hd ?_ (by simpa using hLv))))
  refine wpAny_bind (wpAny_newList ?_ hLv)
  have hz1 : (cpH s.heap vs.toArray).objs.size = s.heap.objs.size + 1 := by rw [Heap.size_update, size_push']
  show wpAny _ _ _ _ _ { s with heap := copyHeap s.heap vs }
  rw [hz1]; refine wpAny_bind (wpAny_holding (wpAny_call_entry_kw slot_list_sort ⟨_, copyHeap_at s.heap vs, rfl⟩ entry_list_sort ?body (args_list_sort _)))
  case body =>
    refine wpAny_mono (list_sort_vals (s := { s with heap := copyHeap s.heap vs }) (P := fun f z => f = .done (.ret .none) ∧ Q (.ref (s.heap.objs.size + 1)) z) (copyHeap_at s.heap vs) S hLv ⟨rfl, fin⟩) (fun f z hf => ?_) fun _ _ e => e
    obtain ⟨rfl, hq⟩ := hf; exact ⟨_, rfl, wpAny_pure ⟨_, rfl, hq⟩⟩
end
def rSortD (K : PySem.W.Frag) : List V → Hp → VK → Prop := fun vs H Q => ∃ (a : Addr) (xs : List V) (ds : List PyData), vs = [V.ref a] ∧ SqS K H a xs ∧ DpAll K H xs ds ∧ AllAlike ds ∧ PySem.W.Sortable ds ∧ (∀ d ∈ ds, d.depth ≤ 60) ∧
  ∀ p, H p = none → Q (.ref p) (upd H p (.lst (((xs.zip ds).mergeSort (dataLe false Prod.snd)).map Prod.fst)))
theorem each_zip {K : PySem.W.Frag} {H : Hp} {h : Heap} : ∀ {xs : List V} {ds : List PyData} {us : List Value} {as : List Addr}, DpAll K H xs ds → Vals xs us → ReadsAll h us ds as → EachIs (fun u (b : V × PyData) => RelV b.1 u) us (xs.zip ds) ∧ EachIs (fun u (b : V × PyData) => ∃ as, Reads h u b.2 as) us (xs.zip ds)
  | _, [], _, _, hd, hv, hr => by
    cases hd; cases hv; exact ⟨.nil, .nil⟩
  | _, d :: ds, _, _, hd, hv, hr => by
    cases hd with
    | cons h1 h2 =>
      cases hv with
      | cons r1 r2 =>
        cases hr with
        | cons z1 z2 =>
          obtain ⟨i1, i2⟩ := each_zip h2 r2 z2
          exact ⟨.cons r1 i1, .cons ⟨_, z1⟩ i2⟩
theorem vals_each {β : Type} {f : β → V} : ∀ {us : List Value} {bs : List β}, EachIs (fun u b => RelV (f b) u) us bs → Vals (bs.map f) us
  | _, _, .nil => .nil
  | _, _, .cons h r => .cons h (vals_each r)
theorem dp_len {K : PySem.W.Frag} {H : Hp} : ∀ {xs : List V} {ds : List PyData}, DpAll K H xs ds → xs.length = ds.length
  | _, [], h => by cases h; rfl
  | _, _ :: ds, h => by
    cases h with
    | cons h1 h2 => exact congrArg (· + 1) (dp_len h2)
theorem zip_snd {K : PySem.W.Frag} {H : Hp} {xs : List V} {ds : List PyData} (h : DpAll K H xs ds) : (xs.zip ds).map Prod.snd = ds := List.map_snd_zip (by rw [dp_len h]; exact Nat.le_refl _)
theorem cr_sortD {X : Cx} {n : Nat} (hr : Room n X.A) : CallR X (.builtin "sorted") (rSortD X.K) := by
  intro pins s σ H vs us Q I r h
  obtain ⟨a, xs, ds, rfl, hs, hd, ha, hk, hdep, q⟩ := h
  rw [Vals.ref1 r]
  have hu : X.A.units + 64 < cLine := hr.units
  have key : ∀ (its : List Value) (T : String) (o : Obj) (m : Nat), Vals xs its → xs.length ≤ sizeLine → (T = "list" ∨ T = "tuple") → s.heap.get? a = some o → o.cls = .type T → o.data = .seq its.toArray m → wpAny (model X.prog X.w) X.A (call (.builtin "sorted") [.ref a]) (EP X pins σ Q) X.xe s := by
    intro its T o m rv hz hT ho hc hdt
    obtain ⟨as, hR⟩ := Dp.readsAll I ds xs its hd rv
    obtain ⟨e1, e2⟩ := each_zip hd rv hR
    have em := zip_snd hd
    have hzl : (xs.zip ds).length ≤ sizeLine := by
      rw [List.length_zip, dp_len hd, Nat.min_self, ← dp_len hd]; exact hz
    refine sorted_seq (enc := Prod.snd) hT ho hc hdt e1 e2 (by rw [em]; exact ha) (by rw [em]; exact hk) hzl (fun b hb => ?_) fun out hl ho2 => ?_
    · have hm : b.2 ∈ ds := by rw [← em]; exact List.mem_map.mpr ⟨b, hb, rfl⟩
      have := hdep _ hm
      omega
    · obtain ⟨c, hat⟩ := sortedAll_at s.heap its out.toArray
      refine ⟨.ref (s.heap.objs.size + 1), _, I.laid (t' := s.toks) (fun b u z => sortedAll_old z) (Nat.le_succ _) ?_, rfl, q _ (I.hok.fresh (Nat.le_succ _))⟩
      have hv := vals_each (f := Prod.fst) ho2
      exact (show ObjOk X.prog X.w _ _ _ (.lst _) from ⟨by rw [List.length_map, List.length_mergeSort]; exact hzl, out, c, hv, hat⟩)
  rcases hs with hs | hs
  · obtain ⟨its, rv, pl, hz⟩ := I.list hs
    obtain ⟨o, ho, hc, n, hd⟩ := pl.isList
    exact key its "list" o n rv hz (.inl rfl) ho hc hd
  · obtain ⟨its, rv, ⟨o, ho, hc, n, hd⟩, hz⟩ := I.tuple hs
    exact key its "tuple" o n rv hz (.inr rfl) ho hc hd
theorem kSortD {X : Cx} {n : Nat} {K : PySem.W.Frag} (hr : Room n X.A) (h : X.K = K := by rfl) : CallR X (.builtin "sorted") (rSortD K) := h ▸ cr_sortD hr
/-- THE sorted list -/
def sortH {α : Type} [DecidableEq α] [Datum α] (xs : List α) : List α := xs.mergeSort (dataLe false Datum.toD)
theorem sort_map {α β : Type} (f : α → β) (k : β → PyData) (xs : List α) : (xs.mergeSort (dataLe false fun a => k (f a))).map f = (xs.map f).mergeSort (dataLe false k) := List.map_mergeSort (fun a _ b _ => rfl)
theorem dp_pick {K : PySem.W.Frag} {H : Hp} : ∀ {xs : List V} {ds : List PyData}, DpAll K H xs ds → ∀ b ∈ xs.zip ds, Dp K H b.1 b.2
  | _, [], h, b, hb => by cases h; cases hb
  | _, _ :: ds, h, b, hb => by
    cases h with
    | cons h1 h2 =>
      rcases List.mem_cons.mp hb with rfl | hb
      · exact h1
      · exact dp_pick h2 b hb
theorem dp_all {K : PySem.W.Frag} {H : Hp} : ∀ {zs : List (V × PyData)}, (∀ b ∈ zs, Dp K H b.1 b.2) → DpAll K H (zs.map Prod.fst) (zs.map Prod.snd)
  | [], _ => .nil
  | z :: zs, h => .cons (h z List.mem_cons_self) (dp_all fun b hb => h b (List.mem_cons_of_mem _ hb))
theorem r_sortH {K : PySem.W.Frag} {H : Hp} {α : Type} [DecidableEq α] [Datum α] {a : Addr} {vs : List V} {xs : List α} {Q : VK} (hs : SqS K H a vs) (hx : Hds K H vs xs) (al : AllAlike (xs.map Datum.toD)) (so : PySem.W.Sortable (xs.map Datum.toD)) (q : ∀ ws p, H p = none → Hds K H ws (sortH xs) → Q (.ref p) (upd H p (.lst ws))) (hd : Datum.depth α ≤ 60 := by decide) : rSortD K [.ref a] H Q := by
  refine ⟨a, vs, xs.map Datum.toD, rfl, hs, hx, al, so, fun d hm => ?_, fun p hp => q _ p hp ?_⟩
  · obtain ⟨x, _, rfl⟩ := List.mem_map.mp hm
    exact Nat.le_trans (Datum.depth_le x) hd
  · have h1 := dp_all (K := K) (H := H) (zs := (vs.zip (xs.map Datum.toD)).mergeSort (dataLe false Prod.snd)) fun b hb => dp_pick hx b (List.mem_mergeSort.mp hb)
    have h2 := sort_map (Prod.snd (α := V)) id (vs.zip (xs.map Datum.toD))
    rw [zip_snd hx] at h2
    have h3 := sort_map (α := α) Datum.toD id xs
    show DpAll K H _ ((sortH xs).map Datum.toD)
    unfold sortH
    rw [show (dataLe false (fun a : α => id (Datum.toD a))) = dataLe false Datum.toD from rfl] at h3
    rw [h3, ← h2]
    exact h1
end G
/-! ### sets of points: set(xs) and sorted of such a set -/
namespace G
open PySem PySem.Spec PyProof.Rows L2 PySem.W
section
variable {P : Program} {w : World} {A : Around} {E : Value → Shared → Prop} {s : Shared}
theorem rows_in {L : List (Addr × List Int)} : ∀ vs : List Value, (∀ v ∈ vs, ∃ q ∈ L, v = Value.ref q.1) → ∃ L1 : List (Addr × List Int), vs = L1.map (fun q => Value.ref q.1) ∧ ∀ q ∈ L1, q ∈ L
  | [], _ => ⟨[], rfl, fun _ h => nomatch h⟩
  | v :: vs, hv => by
    obtain ⟨q, hq, e⟩ := hv v List.mem_cons_self
    obtain ⟨L1, e1, hs⟩ := rows_in vs fun u hu => hv u (List.mem_cons_of_mem _ hu)
    refine ⟨q :: L1, by rw [List.map_cons, e, e1], fun r hr => ?_⟩
    rcases List.mem_cons.mp hr with rfl | z
    · exact hq
    · exact hs r z
theorem each_refs {R : Value → (Addr × List Int) → Prop} : ∀ (L : List (Addr × List Int)), (∀ q ∈ L, R (.ref q.1) q) → EachIs R (L.map fun q => Value.ref q.1) L
  | [], _ => .nil
  | q :: L, h => .cons (h q List.mem_cons_self) (each_refs L fun r hr => h r (List.mem_cons_of_mem _ hr))
theorem refs_each : ∀ {us : List Value} {L : List (Addr × List Int)}, EachIs (fun v q => v = Value.ref q.1) us L → us = L.map fun q => Value.ref q.1
  | _, _, .nil => rfl
  | _, _, .cons h r => by rw [h, refs_each r]; rfl
/-- sorted(set) of data told by their ints -/
theorem sorted_setD {a : Addr} {L : List (Addr × List Int)} {es : Array (Int × Value)} {ep : Nat} {t : SetTable} {Q : Value → Shared → Prop} (R : SetTR P w s.heap a L es ep t) (hh : A.handled = none) (enc : List Int → PyData)
    (hrd : ∀ q ∈ L, ∃ as, Reads s.heap (.ref q.1) (enc q.2) as) (hal : ∀ L' : List (Addr × List Int), (∀ q ∈ L', q ∈ L) → AllAlike (L'.map fun q => enc q.2)) (hk : ∀ L' : List (Addr × List Int), (∀ q ∈ L', q ∈ L) → PySem.W.Sortable (L'.map fun q => enc q.2))
    (hu : ∀ q ∈ L, A.units + 2 + (enc q.2).depth < cLine)
    (hQ : ∀ s' p (out : Array Value) (c : Nat) (L1 : List (Addr × List Int)), (∀ b o, s.heap.get? b = some o → s'.heap.get? b = some o) → s'.gens = s.gens → s'.os = s.os → s.heap.objs.size ≤ p →
      s'.heap.get? p = some (seqObj "list" out c) → out.toList = (L1.mergeSort (dataLe false fun q => enc q.2)).map (fun q => Value.ref q.1) → L1.Perm L → Q (.ref p) s') :
    wpAny (model P w) A (call (.builtin "sorted") [.ref a]) Q E s := by
  obtain ⟨o, ho, hex, hd⟩ := R.ob
  have hsz := R.size
  have hfew := R.few
  refine call_function_entry_kw kind_sorted plain_sorted entry_sorted (args_sorted1 _) ?_
  unfold Builtin.«sorted»; refine wpAny_bind (m := checkCount "sorted" 1 1 _) (wpAny_pure (wpAny_bind ?_))
  refine collect_set (A := A.in1) hh ⟨o, ho, hex.1, hd⟩ R.fits (by unfold scanBound; omega) R.tab.ris R.led fun s1 vs k1 hz g1 o1 pm => ?_
  have hes : es.toList.map (·.2) = L.map fun q => Value.ref q.1 := by
    rw [R.rows]; unfold L2.rowsOf; rw [List.map_map] <;> rfl
  rw [hes] at pm
  obtain ⟨L1, eL, hs1⟩ := rows_in (L := L) vs fun v hv => by
    obtain ⟨q, hq, e⟩ := List.mem_map.mp (pm.mem_iff.mp hv)
    exact ⟨q, hq, e.symm⟩
  have one : ∀ q ∈ L, ∀ r ∈ L, q.1 = r.1 → q = r := fun q hq r hr e => by
    have a1 := R.tup q hq
    rw [e] at a1
    exact Prod.ext e (a1.inj (R.tup r hr))
  have pL : L1.Perm L := by
    rw [eL] at pm
    have nL : L.Nodup := nodup_of_map R.nd
    have nref : (L.map fun q => Value.ref q.1).Nodup := by
      refine List.pairwise_map.mpr (List.Pairwise.imp_of_mem (fun {q r} hq hr hne e => ?_) nL)
      injection e with e
      exact hne (one q hq r hr e)
    refine (List.perm_ext_iff_of_nodup (nodup_of_map (pm.nodup_iff.mpr nref)) nL).mpr fun q => ⟨hs1 q, fun hq => ?_⟩
    obtain ⟨r, hr, e⟩ := List.mem_map.mp (pm.mem_iff.mpr (List.mem_map.mpr ⟨q, hq, rfl⟩))
    injection e with e
    rw [← one r (hs1 r hr) q hq e]; exact hr
  have hvl : vs.length ≤ sizeLine := by rw [pm.length_eq, List.length_map, sizeLine_eq]; omega
  refine wpAny_bind (wpAny_newList ?_ hvl)
  have hoL : (s1.heap.push (seqObj "list" vs.toArray 0)).get? s1.heap.objs.size = some (seqObj "list" vs.toArray 0) := Heap.get?_push_size _ rfl
  have e1 : EachIs (fun v q => v = Value.ref q.1) vs L1 := by rw [eL]; exact each_refs L1 fun q _ => rfl
  have er : EachIs (fun v q => ∃ as, Reads (sortingHeap (s1.heap.push (seqObj "list" vs.toArray 0)) s1.heap.objs.size vs) v (enc (Prod.snd q)) as) vs L1 := by
    have := each_refs (R := fun v q => ∃ as, Reads (sortingHeap (s1.heap.push (seqObj "list" vs.toArray 0)) s1.heap.objs.size vs) v (enc q.2) as) L1 fun q hq => by
      obtain ⟨as, r⟩ := hrd q (hs1 q hq)
      refine ⟨as, PyProof.Rows.Reads.keeps (fun b u e => ?_) r⟩
      have q := k1 b u e
      exact sortingHeap_old (Nat.ne_of_lt (Heap.lt_size q)) (Heap.get?_push_of_some _ q)
    rw [← eL] at this
    exact this
  have S := SortsAt.data (prog := P) (w := w) (A := A.in1.in1) (s := { s1 with heap := sortingHeap (s1.heap.push (seqObj "list" vs.toArray 0)) s1.heap.objs.size vs }) (each_map (R := fun v d => ∃ as, Reads (sortingHeap (s1.heap.push (seqObj "list" vs.toArray 0)) s1.heap.objs.size vs) v d as) (fun q : Addr × List Int => enc q.2) er) (hal L1 hs1) (hk L1 hs1) (bound_map fun q hq => hu q (hs1 q hq))
  refine wpAny_bind (wpAny_holding (wpAny_call_entry_kw slot_list_sort ⟨_, hoL, rfl⟩ entry_list_sort ?body (args_list_sort _)))
  case body =>
    refine list_sort_vals (s := { s1 with heap := s1.heap.push (seqObj "list" vs.toArray 0) }) hoL S hvl ?_
    refine ⟨_, rfl, wpAny_pure ⟨_, rfl, ?_⟩⟩
    have ho2 := sortVals_data (h' := sortingHeap (s1.heap.push (seqObj "list" vs.toArray 0)) s1.heap.objs.size vs) (enc := fun q : Addr × List Int => enc q.2) false e1 er (hal L1 hs1)
    obtain ⟨c, hc⟩ := sortedHeap_at (vs := vs) (out := (sortVals (dataKind (sortingHeap (s1.heap.push (seqObj "list" vs.toArray 0)) s1.heap.objs.size vs) (L1.map fun q => enc q.2)) false vs vs).toArray) hoL
    refine hQ _ s1.heap.objs.size _ c L1 (fun b u e => ?_) g1 o1 hz hc (by rw [List.toList_toArray]; exact refs_each ho2) pL
    have q := k1 b u e
    have hlt := Heap.lt_size q
    show (sortedHeap (s1.heap.push (seqObj "list" vs.toArray 0)) s1.heap.objs.size vs _).get? b = some u
    rw [sortedHeap_old (Nat.ne_of_lt hlt) (by rw [size_push']; exact Nat.lt_succ_of_lt hlt)]
    exact Heap.get?_push_of_some _ q
end
end G
/-! ### {x for x in xs}, the x tuples of ints -/
namespace G
open PySem PySem.Spec PyProof.Rows L2
section
variable {X : Cx}
theorem typeIs_setT {P : Program} {w : World} {h : Heap} {a : Addr} {L : List (Addr × List Int)} {es : Array (Int × Value)} {ep : Nat} {t : SetTable} (R : SetTR P w h a L es ep t) : ∃ o, h.get? a = some o ∧ o.cls = .type "set" := by
  obtain ⟨o, ho, hex, _⟩ := R.ob
  exact ⟨o, ho, hex.1⟩
theorem addT_ok {pins : List (Addr × Obj)} {σ : L2.St} {H : Hp} {s : Shared} {E : Value → Shared → Prop} {D x : Addr} {L : List (Addr × List Int)} {k : List Int} {Q : Value → Shared → Prop} (I : Inv X pins σ H s) (hD : H D = some (SetTO X.prog X.w D L))
    (ht : ∀ p ∈ L, SqT X.K H p.1 (p.2.map V.int)) (hx : SqT X.K H x (k.map V.int)) (few : L.length + 1 < 64) (hu : X.A.units + 3 < cLine)
    (h : ∀ L' s', (k ∈ L.map (·.2) → L' = L) → (k ∉ L.map (·.2) → L'.Perm ((x, k) :: L)) → Inv X pins σ (upd H D (SetTO X.prog X.w D L')) s' → Q .none s') : wpAny (model X.prog X.w) X.A (call (.builtin "set.add") [.ref D, .ref x]) Q E s := by
  have R0 : SetT0 X.prog X.w s.heap D L := (I.hok D _ hD).1
  obtain ⟨es, ep, t, R⟩ := R0.full fun p hp => I.isT (ht p hp)
  have hxT := I.isT hx
  refine wpAny_call_entry F.slot_set_add (typeIs_setT R) F.entry_set_add ?_ (F.args_set_add_2 _ _)
  unfold Builtin.«set.add» Builtin.Frozenset.oneOther
  simp only [List.isEmpty_nil, bind_assoc]; unfold Builtin.Frozenset.addrOf setAdd
  refine wpAny_bind (wpAny_pure ?_); try dsimp only
  refine wpAny_bind (wpAny_pure ?_); try dsimp only
  refine wpAny_bind (wpAny_holding (wpAny_bind (wpAny_pyHash_tuple (by show X.A.in1.units < cLine; have : X.A.in1.units = X.A.units + 1 := rfl; omega) hxT ?_)))
  refine add_at (s := { s with toks := s.toks + (k.length + 1) }) R hxT (by have : X.A.in1.units = X.A.units + 1 := rfl; omega) few fun b h' L' es' ep' t' sb R' c1 c2 => ?_
  show wpAny _ _ (ret Value.none) _ _ _
  obtain ⟨o', ho', _⟩ := R'.ob
  exact wpAny_pure ⟨_, rfl, h L' _ c1 c2 (I.write (e := D) (t' := s.toks + (k.length + 1)) (by rw [hD]; trivial) (.inl rfl) (fun b u hb hu => (sb.2 b hb).trans hu) ⟨o', ho'⟩ (setTO_new R'.t0))⟩
/-- D the new set -/
def tScT (P : Program) (w : World) (K : PySem.W.Frag) (wi : TI) (g : TG) (tt : TT) (te : TE) (vs : List Nat) : TE := fun σ H Q => wi σ H fun J H1 => ∀ D, H1 D = none → ∃ W : Nat → Nat → Hp → Prop, (∃ m, W 0 m (upd H1 D (SetTO P w D []))) ∧ ∀ i m H, W i m H →
  (J.stop i H ∧ Q (.ref D) H) ∨ (J.go i H ∧ ∃ Nx : Hp → Prop, (∀ H', Nx H' → ∃ m', m' < m ∧ W (i + 1) m' H') ∧ ∀ x H', J.yld i H x H' → g x (wipe σ vs) H' fun σ2 H2 => wipe σ2 vs = wipe σ vs ∧ tt σ2 H2 fun b H3 =>
    if b = true then te σ2 H3 fun y H4 => ∃ (x : Addr) (k : List Int) (L : List (Addr × List Int)), y = .ref x ∧ H4 D = some (SetTO P w D L) ∧ (∀ p ∈ L, SqT K H4 p.1 (p.2.map V.int)) ∧ SqT K H4 x (k.map V.int) ∧ L.length + 1 < 64 ∧
      ∀ L' : List (Addr × List Int), (k ∈ L.map (·.2) → L' = L) → (k ∉ L.map (·.2) → L'.Perm ((x, k) :: L)) → Nx (upd H4 D (SetTO P w D L')) else Nx H3)
theorem scT_core {pins : List (Addr × Obj)} {s : Shared} {σ : L2.St} {H : Hp} {Q : VK} {elt tg iter : Expr} {ifs : List Expr} {scope : Scope} {own : List (PySem.Str × Nat)} {pos pos' : Pos} {wi : TI} {g : TG} {tt : TT} {te : TE} {use : Option (Value → Sem Unit)} {Qf : Value → Shared → Prop}
    (hu : X.A.units + 3 < cLine) (hc : X.calm = true) (hN : X.N.Nodup) (I : Inv X pins σ H s) (hi : PI X tg iter wi) (ok : BlkOk X.N X.env.scope scope own)
    (hg : ∀ (s : Shared) (H : Hp) (C : Addr) (cl : List (PySem.Str × Addr)) (fp : List Addr), PG (X.blk s H scope (compEnvC scope cl C X.env) fp) tg g) (ht : ∀ (s : Shared) (H : Hp) (C : Addr) (cl : List (PySem.Str × Addr)) (fp : List Addr), PTs (X.blk s H scope (compEnvC scope cl C X.env) fp) ifs tt)
    (he : ∀ (s : Shared) (H : Hp) (C : Addr) (cl : List (PySem.Str × Addr)) (fp : List Addr), PE (X.blk s H scope (compEnvC scope cl C X.env) fp) elt te) (hs : ∀ x, foldedSetIterable iter X.env x = pure x) (h : tScT X.prog X.w X.K wi g tt te (own.map (·.2)) σ H Q)
    (hRR : ∀ D C s' m H', Inv X pins σ H' s' → Q (.ref D) H' → s'.heap.Ns C m → FpOk X pins H' C → compPost (model X.prog X.w) X.A X.xe use Qf (.ref D) C (.ok .next) s') :
    wpAny (model X.prog X.w) X.A (comprehension (.SetComp elt [⟨tg, iter, ifs, 0⟩] scope pos) scope X.env pos' (newSet (.type "set")) false (eval iter X.env) use) Qf X.xe s := by
  have hfree : ∀ y ∈ scope.names, y.2 = .free → ∃ c, X.env.cells.lookup y.1 = some c := by
    intro y hy e; rcases ok.free y hy e with k | k
    · exact I.ok.has _ (.inl k)
    · exact I.ok.has _ (.inr k)
  refine wpAny_comprehension_free (use := use) rfl hs (closure_ok hfree) ok.kind (fun y hy e => by rw [ok.uniq y hy, e]) (thn (hi.run pins s σ H _ I h) fun xv s1 hx => thn hx fun itv s2 h2 => ?_)
  obtain ⟨it, fp, tn, J, H2, e, I2, T, st2, f2, q⟩ := h2; subst e
  refine PpSet.newSet_ok (newEnv_comp ?_); generalize hD : s2.heap.objs.size = D
  have hDn : H2 D = none := I2.hok.fresh (Nat.le_of_eq hD); obtain ⟨W, ⟨m0, w0⟩, turn⟩ := q D hDn
  generalize hs3 : ({ s2 with heap := s2.heap.push { cls := .type "set", dict := none, data := .set #[] 0 (.fresh 0 0 (!X.w.params.followText "set-order")) } } : Shared) = s3
  have I3 : Inv X pins σ (upd H2 D (SetTO X.prog X.w D [])) s3 := by
    rw [← hs3]; refine I2.laid (t' := s2.toks) (fun b o e => Heap.get?_push_of_some _ e) (Nat.le_of_eq hD) ?_
    rw [← hD]; exact setTO_new (setTR_fresh (P := X.prog) (w := X.w) (Heap.get?_push_size _ rfl)).t0
  have h3 : s3.heap = s2.heap.push { cls := .type "set", dict := none, data := .set #[] 0 (.fresh 0 0 (!X.w.params.followText "set-order")) } := by rw [← hs3]
  have sz : ∀ b ∈ fp, b < s2.heap.objs.size := by
    intro b hb; obtain ⟨o, e, _⟩ := T.obj _ _ st2 b hb; exact Heap.lt_size e
  have f3 : ∀ b ∈ fp, FpOk X pins (upd H2 D (SetTO X.prog X.w D [])) b ∧ b < s3.heap.objs.size := by
    intro b hb; have hlt := sz b hb
    refine ⟨⟨?_, (f2 b hb).2⟩, by rw [h3, Heap.size_push]; exact Nat.lt_succ_of_lt hlt⟩
    rw [upd_ne (by rw [← hD]; exact Nat.ne_of_lt hlt)]; exact (f2 b hb).1
  have st3 : tn 0 s3.heap := T.keep _ _ _ st2 fun b _ o e => by rw [h3]; exact Heap.get?_push_of_some _ e
  have I4 := block_start I3 ok hN f3
  have pg := hg s3 (upd H2 D (SetTO X.prog X.w D [])) s3.heap.objs.size (cellsFrom (s3.heap.objs.size + 1) scope.names (cloFrom X.env.cells scope.names [])) fp
  have pt := ht s3 (upd H2 D (SetTO X.prog X.w D [])) s3.heap.objs.size (cellsFrom (s3.heap.objs.size + 1) scope.names (cloFrom X.env.cells scope.names [])) fp
  have pe := he s3 (upd H2 D (SetTO X.prog X.w D [])) s3.heap.objs.size (cellsFrom (s3.heap.objs.size + 1) scope.names (cloFrom X.env.cells scope.names [])) fp
  show codeAny _ _ (.compStart (.SetComp elt [⟨tg, iter, ifs, 0⟩] scope pos) 0 (.ref it) (.ref D) (compEnvC scope (cellsFrom (s3.heap.objs.size + 1) scope.names (cloFrom X.env.cells scope.names [])) s3.heap.objs.size X.env)) (compPost (model X.prog X.w) X.A X.xe use Qf (.ref D) s3.heap.objs.size) { s3 with heap := pushCells (s3.heap.push { cls := .type "dict", data := .dict #[] }) scope.names }
  have nfp : ∀ b ∈ fp, (upd H2 D (SetTO X.prog X.w D [])) b = none := fun b hb => (f3 b hb).1.1
  generalize hce : compEnvC scope (cellsFrom (s3.heap.objs.size + 1) scope.names (cloFrom X.env.cells scope.names [])) s3.heap.objs.size X.env = ce at I4 pg pt pe ⊢; have cL : ce.locals = s3.heap.objs.size := by subst hce; rfl
  generalize hH3 : upd H2 D (SetTO X.prog X.w D []) = H3 at I3 I4 pg pt pe w0 nfp f3
  generalize hs4 : ({ s3 with heap := pushCells (s3.heap.push { cls := .type "dict", data := .dict #[] }) scope.names } : Shared) = s4 at I4 ⊢; have st4 : tn 0 s4.heap := T.keep _ _ _ st3 fun b _ o e => by rw [← hs4]; exact pushCells_keeps _ _ _ _ (Heap.get?_push_of_some _ e)
  have stat : ∀ {σ' : L2.St} {H' : Hp} {s' : Shared}, Inv (X.blk s3 H3 scope ce fp) [] σ' H' s' → (∀ b ∈ fp, H' b = none) → ∀ b ∈ fp, FpOk (X.blk s3 H3 scope ce fp) [] H' b := by
    intro σ' H' s' I' hn b hb; exact ⟨hn b hb, (I'.ok.exf b hb).1, I'.ok.exfs b hb, .inl hb, fun x c e => (I'.ok.exf b hb).2 x c e, fun p hp => absurd (show p ∈ ([] : List (Addr × Obj)) ++ [] from hp) (by simp)⟩
  have loop : codeAny (model X.prog X.w) X.A (.compLoop (.SetComp elt [⟨tg, iter, ifs, 0⟩] scope pos) 0 (.ref it) (.ref D) ce) (compPost (model X.prog X.w) X.A X.xe use Qf (.ref D) s3.heap.objs.size) s4 := by
    refine PpSet.compLoopS_any (fun n s' => ∃ i H', Inv (X.blk s3 H3 scope ce fp) [] (wipe σ (own.map (·.2))) H' s' ∧ tn i s'.heap ∧ (∀ b ∈ fp, H' b = none) ∧ W i n H') ?_ m0 ⟨0, H3, I4, st4, nfp, w0⟩
    rintro n s5 ⟨i, H5, I5, st5, n5, w5⟩; rcases turn i n H5 w5 with ⟨stop, qq⟩ | ⟨go, Nx, hNx, step⟩
    · refine thnF (T.done (X.blk s3 H3 scope ce fp) rfl rfl rfl hc i [] s5 _ H5 (fun _ _ => False) I5 (stat I5 n5) st5 stop) fun r s6 ⟨hr, I6⟩ => ?_
      subst hr; have I7 : Inv X pins σ H5 s6 := I3.call' (ch := fp) I6.os I6.base I6.hok I6.bare fun b hb => ⟨(f3 b hb).1.2.2.2.1, (f3 b hb).1.2.1, (f3 b hb).1.2.2.2.2.1, (f3 b hb).1.2.2.2.2.2⟩
      have nC : H5 ce.locals = none := I6.free
      obtain ⟨m, hn, _⟩ := I6.loc; have hn : s6.heap.Ns ce.locals m := hn
      rw [cL] at hn nC; exact hRR D s3.heap.objs.size s6 m H5 I7 qq hn (I3.fpOk (Nat.le_refl _) nC)
    · refine thnF (T.item (X.blk s3 H3 scope ce fp) rfl rfl rfl hc i [] s5 _ H5 (fun _ _ => False) I5 (stat I5 n5) st5 go) fun r s6 ⟨u, hr, h6⟩ => ?_
      subst hr; refine thnF h6 fun _ s7 ⟨x, H7, I7, r7, y7, st7, n7⟩ => ?_
      have I7' := I7.pinned (stat I7 n7) (T.obj _ _ st7); refine thnF (pg.run _ s7 _ H7 x u _ I7' r7 (step x H7 y7)) fun _ s8 ⟨σ8, H8, I8, hw8, q8⟩ => thnF (pt.run _ s8 σ8 H8 _ I8 q8) fun b s9 ⟨H9, I9, q9⟩ => ?_
      have fin : ∀ {s' : Shared} {H' : Hp}, Inv (X.blk s3 H3 scope ce fp) ([] ++ pinsAt fp s7.heap) σ8 H' s' → Nx H' → ∃ m, m < n ∧ ∃ i H', Inv (X.blk s3 H3 scope ce fp) [] (wipe σ (own.map (·.2))) H' s' ∧ tn i s'.heap ∧ (∀ b ∈ fp, H' b = none) ∧ W i m H' := by
        intro s' H' I' nx; obtain ⟨m', hm, w'⟩ := hNx H' nx
        have pin' : ∀ b ∈ fp, ∀ o, s7.heap.get? b = some o → s'.heap.get? b = some o ∧ H' b = none := by
          intro b hb o e; have z := I'.pin (b, o) (List.mem_append_right _ (List.mem_append_right _ (mem_pinsAt hb e))); exact ⟨z.1, z.2.1⟩
        refine ⟨m', hm, i + 1, H', (I'.unpinned (pins := [])).weak (by rw [← hw8, wipe_length]) (fun j v e => ?_), T.keep _ _ _ st7 fun b hb o e => (pin' b hb o e).1, fun b hb => ?_, w'⟩
        · rw [← hw8] at e; exact (wipe_some e).1
        · obtain ⟨o, e, _⟩ := T.obj _ _ st7 b hb; exact (pin' b hb o e).2
      cases b with
      | false => simp only [Bool.false_eq_true, if_false] at q9 ⊢; exact fin I9 q9
      | true =>
        simp only [if_true] at q9 ⊢; refine thnF (pe.run _ s9 σ8 H9 _ I9 q9) fun z s10 ⟨yv, H10, I10, r10, xa, k0, L0, ey, hD10, hT10, hx10, few, nx⟩ => ?_
        subst ey; cases (show z = Value.ref xa from r10)
        exact addT_ok (X := X.blk s3 H3 scope ce fp) I10 hD10 hT10 hx10 few hu fun L' s11 c1 c2 I11 => fin I11 (nx L' c1 c2)
  exact PpSet.codeAny_compStart_set loop (T.self X.A 0 _ _ _ st4 loop)
theorem pe_scT {elt tg iter : Expr} {ifs : List Expr} {scope : Scope} {own : List (PySem.Str × Nat)} {pos : Pos} {wi : TI} {g : TG} {tt : TT} {te : TE} (hu : X.A.units + 3 < cLine) (hc : X.calm = true) (hN : X.N.Nodup) (hi : PI X tg iter wi) (ok : BlkOk X.N X.env.scope scope own)
    (hg : ∀ (s : Shared) (H : Hp) (C : Addr) (cl : List (PySem.Str × Addr)) (fp : List Addr), PG (X.blk s H scope (compEnvC scope cl C X.env) fp) tg g) (ht : ∀ (s : Shared) (H : Hp) (C : Addr) (cl : List (PySem.Str × Addr)) (fp : List Addr), PTs (X.blk s H scope (compEnvC scope cl C X.env) fp) ifs tt)
    (he : ∀ (s : Shared) (H : Hp) (C : Addr) (cl : List (PySem.Str × Addr)) (fp : List Addr), PE (X.blk s H scope (compEnvC scope cl C X.env) fp) elt te) (hs : ∀ x, foldedSetIterable iter X.env x = pure x := by intro _; rfl) :
    PE X (.SetComp elt [⟨tg, iter, ifs, 0⟩] scope pos) (tScT X.prog X.w X.K wi g tt te (own.map (·.2))) := by
  refine ⟨fun pins s σ H Q I h => ?_⟩; rw [PpSet.eval_SetComp]
  refine scT_core hu hc hN I hi ok hg ht he hs h fun D C s' m H' I' q hn f => ⟨m, hn, fun h'' sb => ?_⟩; obtain ⟨f0, f1, f2, f3, f4, f5⟩ := f
  exact ⟨.ref D, H', I'.turned (t' := s'.toks) (fun b o hb e => (sb.2 b hb).trans e) f0 f1 f3 f4 f5, rfl, q⟩
theorem _root_.L2.Room.u3 {n : Nat} (hr : Room n X.A) : X.A.units + 3 < cLine := by
  have : X.A.units + 64 < cLine := hr.units
  omega
theorem kScT {P : Program} {w : World} {K : PySem.W.Frag} {e : Expr} {wi : TI} {g : TG} {tt : TT} {te : TE} {vs : List Nat} (h : PE X e (tScT X.prog X.w X.K wi g tt te vs)) (h1 : X.K = K := by rfl) (h2 : X.prog = P := by rfl) (h3 : X.w = w := by rfl) : PE X e (tScT P w K wi g tt te vs) := by
  subst h1 h2 h3; exact h
theorem kSetOfT {P : Program} {w : World} {K : PySem.W.Frag} {n : Nat} (hc : X.calm = true) (hr : Room n X.A) (h1 : X.K = K := by rfl) (h2 : X.prog = P := by rfl) (h3 : X.w = w := by rfl) : CallR X (.type "set") (rSetOfT K P w) := by
  subst h1 h2 h3; exact cr_setOfT hc hr.units
end
end G
/-! ### calls where no repr is under way: the promise may lean on it -/
namespace G
open PySem PySem.Spec PyProof.Rows L2
abbrev Quiet (A : Around) : Prop := A.guards = some []
theorem quiet_deeper {A : Around} {env : Env} (h : Quiet A) : Quiet (A.deeper env) := h
theorem quiet_in1 {A : Around} (h : Quiet A) : Quiet A.in1 := h
structure FnQ (P : Program) (w : World) (K : PySem.W.Frag) (mg : Str → Option Value) (base : Heap) (CX : CXT) (k : Nat) (f : Addr) (fd : FuncData) (ps : List Str) (sp : Sp) : Prop where
  lenQ : ∀ vs H Q E, sp vs H Q E → vs.length = ps.length
  runQ : ∀ (A : Around) (outer : List Env) (s : Shared) (H : Hp) (args : Args) (us : List Value) (vs : List V) (Q : VK) (E : XK), Quiet A → Room k A →
    Env0 P w K mg base A outer s H → BindsTo s fd args (ps.zip us) → Vals vs us → sp vs H Q E → codeAny (model P w) A (.call (.ref f) args) (CR CX outer P w H s Q E) s
section
variable {P : Program} {w : World} {K : PySem.W.Frag} {mg : Str → Option Value} {base : Heap} {CX : CXT} {k : Nat} {f : Addr} {N ps : List Str} {sp : Sp} {name qual : Str} {params : Arguments} {body : List Stmt} {scope : Scope} {dvs : List V} {kws : List (Str × V)} {fd : FuncData}
theorem FnQ.mono {j : Nat} (F : FnQ P w K mg base CX j f fd ps sp) (h : j ≤ k) : FnQ P w K mg base CX k f fd ps sp := ⟨F.lenQ, fun A outer s H args us vs Q E g hr => F.runQ A outer s H args us vs Q E g (hr.mono h)⟩
theorem FunD.okQ (F : FunD K name qual params body scope dvs kws f fd) (S : FnScope N ps scope) (hlen : ∀ vs H Q E, sp vs H Q E → vs.length = ps.length)
    (hb : ∀ (cdv : Value) (A : Around) (outer : List Env) (s : Shared) (H : Hp) (vs : List V) (Q : VK) (E : XK), Quiet (A.deeper (envOfC qual scope s.heap.objs.size f cdv)) → Room k (A.deeper (envOfC qual scope s.heap.objs.size f cdv)) → sp vs H Q E →
      ∃ t, PSs (cxOf CX P w K mg base N qual scope f cdv A outer s H E) body t ∧ t { nx := fun _ H' => Q .non H', rt := Q } (L2.start N vs) H) : FnQ P w K mg base CX (k + 1) f fd ps sp := by
  obtain ⟨oc, od, dV, kV, doc, pm, an, cdv, ct, osl, rfl, lk, hcd, _, _⟩ := F.ex
  refine ⟨hlen, fun A outer s H args us vs Q E hq hr env hbi hv hsp => ?_⟩
  have old : ∀ b o, base.get? b = some o → s.heap.get? b = some o := fun b o e => (env.bs b o e).1
  have inK := env.mod.kin.keeps old; have noL := env.mod.nolimit.keeps old
  have kinds : ∀ y ∈ ps.zip us, scope.names.lookup y.1 = some .local ∨ (scope.names.lookup y.1 = some .cell ∧ ((cellsFrom (s.heap.objs.size + 1) scope.names []).lookup y.1).isSome = true) := by
    rintro ⟨n, v⟩ hy
    have := S.par n (List.of_mem_zip hy).1
    exact this.elim .inl fun q => .inr ⟨q, PySem.W.cellsFrom_some _ _ _ (.inl q)⟩
  refine codeAny_call_function hr.depth (inK _ _ lk) rfl S.co S.gen rfl (PySem.W.codeRec_of inK hcd) (hbi _ _ _ _ (wpAny_newFunctionEnv_cells S.kind kinds fun env' he s1 x => ?_))
  subst he
  obtain ⟨t, ht, hq2⟩ := hb cdv A outer s H vs Q E (quiet_deeper hq) (hr.deeper _) hsp
  refine ⟨noL.keeps x.toInCall.keep, codeAny_func (wpAny_mono (ht.run [] s1 (L2.start N vs) H _ (inv_start S hr.hd env (hlen _ _ _ _ hsp) hv x) hq2) (fun fl s' hs => ?_) fun _ _ z => z)⟩
  cases fl with
  | ret u => obtain ⟨v, σ', H', J, rv, q⟩ := hs; exact ⟨v, H', J.os, J.bare, J.base, J.hok, rv, q⟩
  | next => obtain ⟨σ', H', J, q⟩ := hs; exact ⟨.non, H', J.os, J.bare, J.base, J.hok, rfl, q⟩
  | brk => obtain ⟨_, _, _, q⟩ := hs; exact q.elim
  | cont => obtain ⟨_, _, _, q⟩ := hs; exact q.elim
end
/-! calls of such functions -/
section
variable {X : Cx} {CX : CXT} {k : Nat} {f : Addr} {fd : FuncData} {ps : List Str} {sp : Sp} {dvs : List V} {ds : List Value} {e : Expr} {es : List Expr} {x : Str} {p pos : Pos} {t : TA} {E : XK}
theorem run_fnQ {A : Around} {pins : List (Addr × Obj)} {σ : L2.St} {H : Hp} {s : Shared} {Q : VK} {us : List Value} {vs : List V} (F : FnQ X.prog X.w X.K X.mg X.base CX k f fd ps sp) (hq : Quiet A) (hr : Room k A) (e0 : Env0 X.prog X.w X.K X.mg X.base A X.stack s H) (hb : Binds X.K fd ps ds) (hd : Vals dvs ds) (hx : Passes CX X E)
    (I : Inv X pins σ H s) (r : Vals vs us) (h : sp (vs ++ dvs) H Q E) : wpAny (model X.prog X.w) A (call (.ref f) us) (EP X pins σ Q) X.xe s := by
  have rr := r.append hd
  have hl : (us ++ ds).length = ps.length := rr.length ▸ F.lenQ _ _ _ _ h
  refine wpAny_call (codeAny_mono (F.runQ A X.stack s H ⟨us, []⟩ _ _ Q E hq hr e0 (hb s us I.kIn hl) rr h) fun res s' hz => ?_)
  match res, hz with
  | .error e, hz => exact hx pins σ H s e s' I hz
  | .ok (.ret u), hz => exact I.after hz
  | .ok .next, hz => exact hz.elim
  | .ok .brk, hz => exact hz.elim
  | .ok .cont, hz => exact hz.elim
theorem pe_callQ (F : FnQ X.prog X.w X.K X.mg X.base CX k f fd ps sp) (hq : Quiet X.A) (hr : Room k X.A) (hg : Gl X x) (hm : X.mg x = some (.ref f)) (hk : PySem.W.keepIn X.K (.ref f) = true) (hb : Binds X.K fd ps ds) (hd : Vals dvs ds) (hx : Passes CX X E) (ha : PA X (e :: es) t)
    (hdb : (x == ("__debug__" : Str)) = false := by decide) (he : starEach (e :: es) X.env = (false, eval e X.env) :: starEach es X.env := by rfl) (hpl : (backTo pos (starEach es X.env)).any (·.1) = false := by rfl) : PE X (.Call (.Name x p) (e :: es) [] pos) (tCall sp dvs E t) :=
  ⟨fun pins s σ H Q I h => wpAny_Call_Name_kw (ld_glob I hg hm (PySem.W.callWith_K (h₀ := X.base) I.ok.mod.kin hk (thn (ha.run pos pins s σ H _ I h) fun us s1 ⟨vs, H1, I1, r, q⟩ => ⟨I1.kIn, run_fnQ F hq hr I1.env0 hb hd hx I1 r q⟩) he hpl) hdb)⟩
end
/-! repr of data -/
section
variable {X : Cx} {K : PySem.W.Frag}
def rRepr (K : PySem.W.Frag) : List V → Hp → VK → Prop := fun xs H Q => ∃ (a : Addr) (d : PyData), xs = [.ref a] ∧ Dp K H (.ref a) d ∧ d.showable = true ∧ d.hasDict = false ∧ d.depth ≤ 60 ∧ d.shown.length ≤ sizeLine ∧ Q (.str d.shown) H
theorem cReprD (hq : Quiet X.A) (hu : X.A.units + 64 < cLine) (hK : X.K = K := by rfl) : CallR X (.builtin "repr") (rRepr K) := by
  subst hK
  intro pins s σ H xs us Q I r h
  obtain ⟨a, d, rfl, hd, hs, hn, hdp, hl, q⟩ := h
  obtain ⟨u, rfl, ru⟩ := vals1 r
  obtain rfl : u = Value.ref a := ru
  obtain ⟨as, rd⟩ := Dp.reads I d _ _ hd rfl
  exact repr_of_reads' rd hs (fun z => absurd z (by rw [hn]; decide)) hq (by omega) (fun _ _ z => z) (fun h' u tk hk => ⟨.str _, H, I.kept hk, ⟨_, rfl⟩, q⟩) hl
theorem r_reprD {H : Hp} {Q : VK} {a : Addr} {d : PyData} (hd : Dp K H (.ref a) d) (hs : d.showable = true) (hn : d.hasDict = false) (hdp : d.depth ≤ 60) (hl : d.shown.length ≤ sizeLine) (q : Q (.str d.shown) H) : rRepr K [.ref a] H Q := ⟨a, d, rfl, hd, hs, hn, hdp, hl, q⟩
end
end G
/-! ### the law's own call, where the law's promise leans on Quiet -/
namespace G
open PySem PySem.Spec PyProof.Rows L2
section
variable {P : Program} {w : World} {K : PySem.W.Frag} {mg mb : Str → Option Value} {CX : CXT} {k : Nat} {fa a : Addr} {fd : FuncData} {x : Str} {sp : Sp} {s1 : Shared} {vs : List Value} {ns : List Int}
abbrev LawEnd (s1 : Shared) : Result → Shared → Prop := fun r s' => r = .ok (.ret (.bool true)) ∧ OldK s1.heap s'.heap ∧ s'.os = s1.os ∧ AllBare s'.gens
/-- from a heap in which at most the script is tracked -/
theorem lawQ_core (X0 : K.In s1.heap) (hns : s1.heap.Ns mainGlobals mg) (hbn : s1.heap.Ns builtinsNs mb) (hbb : ∀ x : Str, x ≠ "__name__" → mb x = bootBuiltins x) (hlim : s1.heap.NoLimit) (hgen : s1.gens = #[])
    (ha : s1.heap.get? a = some { cls := .type "list", data := .seq vs.toArray }) (hr : Room k callerA)
    (F : ∀ base : Heap, K.In base → base.Ns mainGlobals mg → FnQ P w K mg base CX k fa fd [x] sp) (hbind : ∀ (s : Shared) (u : Value), BindsTo s fd ⟨[u], []⟩ [(x, u)])
    (hCX : ∀ H e s', CX [] H s1 (fun _ _ _ => False) e s' → False)
    (H : Hp) (hO : Only H) (hp : sp [.ref a] H (fun v _ => v = .bl true) fun _ _ _ => False) (hok : HOk P w H s1.heap) (hA : ∀ b, H b ≠ none → b = a) (hK : H a ≠ none → K.lookup a = none) :
    codeAny (model P w) callerA (.call (.ref fa) ⟨[.ref a], []⟩) (LawEnd s1) s1 := by
  have out : ∀ {b : Addr}, b ≠ a → H b = none := fun {b} n => by
    cases q : H b with
    | none => rfl
    | some u => exact absurd (hA b (by rw [q]; exact fun z => nomatch z)) n
  have inB : ∀ {b : Addr} {o : Obj}, s1.heap.get? b = some o → H b = none → (hidT s1.heap H).get? b = some o := hidT_get
  have nsB : ∀ {b : Addr} {m : Str → Option Value}, s1.heap.Ns b m → (hidT s1.heap H).Ns b m := fun {b m} ⟨o, es, ep, e, d, r⟩ => ⟨o, es, ep, inB e (out fun z => by subst z; rw [ha] at e; cases e; cases d), d, r⟩
  have kinB : K.In (hidT s1.heap H) := fun b o e => inB (X0 b o e) (by
    by_cases z : b = a
    · subst z
      cases q : H b with
      | none => rfl
      | some u => rw [hK (by rw [q]; exact fun z => nomatch z)] at e; cases e
    · exact out z)
  obtain ⟨mc, n1, n2⟩ := hlim
  have env : Env0 P w K mg (hidT s1.heap H) callerA [] s1 H := by
    refine ⟨rfl, ⟨kinB, nsB hns, ⟨mb, nsB hbn, hbb⟩, ⟨mc, nsB n1, n2⟩⟩, fun b o e => of_hidT e, Nat.le_of_eq (hidT_size _ _), trivial, fun b hb => ?_, hok, .of_eq hgen⟩
    exact absurd (show b ∈ ([] : List Addr) from hb) (by simp)
  refine codeAny_mono ((F _ kinB (nsB hns)).runQ callerA [] s1 H ⟨[.ref a], []⟩ [.ref a] [.ref a] _ _ rfl hr env (hbind s1 (.ref a)) (.cons rfl .nil) hp) fun r s' hz => ?_
  match r, hz with
  | .error e, hz => exact (hCX H e s' hz).elim
  | .ok .next, hz => exact hz.elim
  | .ok .brk, hz => exact hz.elim
  | .ok .cont, hz => exact hz.elim
  | .ok (.ret u), hz =>
    obtain ⟨v, H', os, bare, un, hok', rv, (ev : v = .bl true)⟩ := hz
    subst ev
    obtain rfl : u = Value.bool true := rv
    refine ⟨rfl, OldK.of_keep fun b o e => ?_, os, bare⟩
    rcases hO b with z | ⟨ob, xs, z⟩
    · exact un.keep b o e z (fun y => absurd (show b ∈ ([] : List Addr) from y) (by simp)) (by simp)
    · have g1 := (hok b _ z).1; have g2 := (hok' b _ (un.frzs b ob _ z)).1
      rw [g2, ← g1, e]
theorem lawQ (X0 : K.In s1.heap) (hns : s1.heap.Ns mainGlobals mg) (hbn : s1.heap.Ns builtinsNs mb) (hbb : ∀ x : Str, x ≠ "__name__" → mb x = bootBuiltins x) (hlim : s1.heap.NoLimit) (hgen : s1.gens = #[])
    (ha : s1.heap.get? a = some { cls := .type "list", data := .seq vs.toArray }) (hi : IntsAre vs ns) (hl : ns.length ≤ sizeLine) (hr : Room k callerA)
    (F : ∀ base : Heap, K.In base → base.Ns mainGlobals mg → FnQ P w K mg base CX k fa fd [x] sp) (hbind : ∀ (s : Shared) (u : Value), BindsTo s fd ⟨[u], []⟩ [(x, u)])
    (hsp : ∀ H : Hp, Only H → SqL K H a (ns.map V.int) → sp [.ref a] H (fun v _ => v = .bl true) fun _ _ _ => False) (hCX : ∀ H e s', CX [] H s1 (fun _ _ _ => False) e s' → False) :
    codeAny (model P w) callerA (.call (.ref fa) ⟨[.ref a], []⟩) (LawEnd s1) s1 := by
  have rv := vals_ints hi
  have go := lawQ_core X0 hns hbn hbb hlim hgen ha hr F hbind hCX
  cases hk : K.lookup a with
  | some o =>
    obtain rfl : o = { cls := .type "list", data := .seq vs.toArray } := by have e := X0 a o hk; rw [ha] at e; exact (Option.some.inj e).symm
    refine go (fun _ => none) (fun _ => .inl rfl) (hsp _ (fun _ => .inl rfl) (.inr ⟨_, vs.toArray, _, hk, rfl, rfl, rfl, ?_, by simpa using rv⟩)) (fun b u z => nomatch z) (fun b z => absurd rfl z) fun z => absurd rfl z
    rw [List.size_toArray, hi.length]; exact hl
  | none =>
    have only : Only (fun b => if b = a then some (HO.frz { cls := .type "list", data := .seq vs.toArray } (.lst (ns.map V.int))) else none) := fun b => by
      by_cases z : b = a
      · exact .inr ⟨_, _, if_pos z⟩
      · exact .inl (if_neg z)
    refine go _ only (hsp _ only (.inl (.inr ⟨{ cls := .type "list", data := .seq vs.toArray }, if_pos rfl⟩))) (fun b u z => ?_) (fun b z => ?_) fun _ => hk
    · by_cases y : b = a
      · subst y
        cases (if_pos rfl).symm.trans z
        exact ⟨ha, (List.length_map (as := ns) V.int).symm ▸ hl, vs, _, rv, ha⟩
      · cases (if_neg y).symm.trans z
    · exact Decidable.byContradiction fun y => z (if_neg y)
end
theorem walk_ofQ {l : PySem.W.OpenLaw} {n k : Nat} {q : Program} {loose : List Str} {XP : (Str → Option Value) → Heap → Prop} {YP : World → Heap → Prop} {d : DefRec} {CX : CXT} {x : Str}
    (hn : l.most = some n) (hn2 : n ≤ sizeLine) (hdf : d.params.defaults = []) (hr : Room k callerA)
    (F : ∀ (w : World) (mg : Str → Option Value) (fa : Addr) (h : Heap), YP w h → h.Ns mainGlobals mg → mg d.name = some (.ref fa) → ∃ (K : PySem.W.Frag) (fd : FuncData) (sp : Sp), K.In h ∧ (∀ (s : Shared) (u : Value), BindsTo s fd ⟨[u], []⟩ [(x, u)]) ∧
        (∀ (H : Hp) (a : Addr) (ns : List Int), ns.length ≤ n → Only H → SqL K H a (ns.map V.int) → sp [.ref a] H (fun v _ => v = .bl true) fun _ _ _ => False) ∧ ∀ base : Heap, K.In base → base.Ns mainGlobals mg → FnQ l.prog w K mg base CX k fa fd [x] sp)
    (hCX : ∀ (H : Hp) (s : Shared) (e : Value) (s' : Shared), CX [] H s (fun _ _ _ => False) e s' → False) : PySem.W.WalkO q loose XP YP l.row.toRowW d [] (fun f vs => PySem.call f vs) := by
  refine Att.attach_call hn hdf fun w s0 s1 mg mb fa o pm cd doc a vs ns Gr Y ho hd hcd hmg hobj hints hlen hg => ?_
  obtain ⟨K, fd, sp, X0, hb, hsp, hF⟩ := F w mg fa _ Y Gr.T.g hmg
  exact lawQ X0 Gr.T.g Gr.T.b Gr.T.builtins Gr.T.nolimit hg hobj hints (Nat.le_trans hlen hn2) hr hF hb (fun H hO hS => hsp H a ns hlen hO hS) fun H e s' => hCX H s1 e s'
end G
/-! ### static methods; repr of an object by its own __repr__; texts put together -/
namespace G
open PySem PySem.Spec PyProof.Rows L2
/-- C.m is a staticmethod: its record at p, its def at g -/
structure SMet (K : PySem.W.Frag) (C : Addr) (m : Str) (p g : Addr) : Prop where
  here : PySem.W.findCls K (.ref C) (.type "type") m = some (.get (.builtin "staticmethod.__get__") (.ref p) .none (.ref C))
  rc : ∃ rest, PySem.W.recIn K p "staticmethod" = some (.ref g :: rest)
  kp : PySem.W.keepIn K (.ref g) = true
def smetB (K : PySem.W.Frag) (C : Addr) (m : Str) : Bool := He5.wrapB K C "staticmethod" "staticmethod.__get__" m && PySem.W.keepIn K (.ref (He5.wf K C "staticmethod" m))
theorem smetB_ok {K : PySem.W.Frag} {C : Addr} {m : Str} (c : smetB K C m = true) : SMet K C m (He.ma K C m) (He5.wf K C "staticmethod" m) := by
  obtain ⟨c1, c2⟩ := He.ba c
  obtain ⟨h1, h2⟩ := He5.wrapB_ok c1
  exact ⟨h1, h2, c2⟩
section
variable {X : Cx} {CX : CXT} {k : Nat} {C p g : Addr} {m : Str} {sp : Sp} {E : L2.St → XK} {o e : Expr} {es : List Expr} {apos pos : Pos} {ta : TE} {t : TA}
def tSMeth (C : Addr) (sp : Sp) (E : L2.St → XK) (ta : TE) (t : TA) : TE := fun σ H Q => ta σ H fun x H1 => x = .ref C ∧ t σ H1 fun vs H2 => sp vs H2 Q (E σ)
theorem pe_smeth {pl : Sem Bool} (he : PE X o ta) (r : ClX.CRead X.K C (.type "type")) (c : SMet X.K C m p g) (F : FnR X.prog X.w X.K X.mg X.base CX k g sp) (hr : Room k X.A) (hx : ∀ σ, PassesAt CX X σ (E σ)) (ha : PA X (e :: es) t)
    (hst : starEach (e :: es) X.env = (false, eval e X.env) :: starEach es X.env := by rfl) (hpl : (backTo pos (starEach es X.env)).any (·.1) = false := by rfl)
    (ht : eval (.Call (.Attribute o m apos) (e :: es) [] pos) X.env = (do
      let ov ← eval o X.env
      standAt apos.atName
      let (f, first) ← holding [ov] (getMethod ov m pl)
      callWith pos f first (backTo pos (starEach (e :: es) X.env)) (backToKw pos (keywordEach [] X.env))) := by rfl) : PE X (.Call (.Attribute o m apos) (e :: es) [] pos) (tSMeth C sp E ta t) := by
  refine ⟨fun pins s σ H Q I h => ?_⟩
  refine PySem.W.methodCall_KW (pl := pl) (thn (he.run pins s σ H _ I h) fun u s1 ⟨x, H1, I1, rx, ex, q⟩ => ?_) ht
  subst ex; obtain rfl : u = Value.ref C := rx
  obtain ⟨rest, hp⟩ := c.rc
  refine PySem.W.method_cls I1.kIn r.ga (PySem.W.cls_bind I1.kIn r.rd c.here (wpAny_call (PySem.W.sm_get (s := { s1 with toks := s1.toks + 1 }) I1.kIn hp (PySem.W.handed_on rfl ?_))))
  refine PySem.W.callWith_K (first := []) (h₀ := X.base) I.ok.mod.kin c.kp (thn (ha.run pos pins _ σ H1 _ (I1.tok _) q) fun us s2 ⟨vs, H2, I2, r2, q2⟩ => ⟨I2.kIn, ?_⟩) hst hpl
  exact run_fnRS F hr (hx σ) I2 r2 q2
end
theorem r_smeth {C : Addr} {sp : Sp} {E : L2.St → XK} {ta : TE} {t : TA} {σ : L2.St} {H : Hp} {Q : VK} (q : ta σ H fun x H1 => x = .ref C ∧ t σ H1 fun vs H2 => sp vs H2 Q (E σ)) : tSMeth C sp E ta t σ H Q := q
theorem FnOk.q {P : Program} {w : World} {K : PySem.W.Frag} {mg : Str → Option Value} {base : Heap} {CX : CXT} {k : Nat} {f : Addr} {fd : FuncData} {ps : List Str} {sp : Sp} (F : FnOk P w K mg base CX k f fd ps sp) : FnQ P w K mg base CX k f fd ps sp :=
  ⟨F.len, fun A outer s H args us vs Q E _ hr e0 hb hv h => F.run A outer s H args us vs Q E hr e0 hb hv h⟩
def rReprO (K : PySem.W.Frag) (f : Addr) (sp : Sp) (E : XK) : List V → Hp → VK → Prop := fun xs H Q => ∃ a C dx fs, xs = [.ref a] ∧ H a = some (.ins C dx fs) ∧ ReprOf K C f ∧ sp [.ref a] H (fun v H' => ∃ z : Str, v = .str z ∧ Q (.str z) H') E
section
variable {X : Cx} {CX : CXT} {n : Nat} {C f : Addr} {fd : FuncData} {ps : List Str} {sp : Sp} {E : XK} {K : PySem.W.Frag}
theorem cReprO (F : FnQ X.prog X.w X.K X.mg X.base CX n f fd ps sp) (hq : Quiet X.A) (hr : Room (n + 1) X.A) (hb : Binds X.K fd ps []) (hx : Passes CX X E) (hK : X.K = K := by rfl) : CallR X (.builtin "repr") (rReprO K f sp E) := by
  subst hK
  intro pins s σ H xs us Q I r h
  obtain ⟨a, C, dx, fs, rfl, ha, hre, h⟩ := h
  obtain ⟨u, rfl, ru⟩ := vals1 r
  obtain rfl : u = Value.ref a := ru
  obtain ⟨mA, J, _⟩ := ins_get I.hok ha
  obtain ⟨od, J, _⟩ := J.look
  obtain ⟨m, hF⟩ := I.fr
  have hu : X.A.in1.units < cLine := by have := hr.un; show X.A.units + 1 < _; omega
  refine PySem.W.repr_K hu hF I.ok.mod.kin J hre.here hre.fn (wpAny_mono (run_fnQ (dvs := []) (ds := []) F (quiet_in1 hq) hr.in1 I.env0.in1 hb .nil hx I (us := [.ref a]) (vs := [.ref a]) (.cons rfl .nil) h) (fun v s' z => ?_) fun _ _ z => z)
  obtain ⟨w', H', I', rw', z, rfl, q⟩ := z
  obtain ⟨t, rfl⟩ := rw'
  exact ⟨.str z, H', I', ⟨t, rfl⟩, q⟩
theorem r_reprO {H : Hp} {Q : VK} {a dx : Addr} {fs : List (Str × V)} (ha : H a = some (.ins C dx fs)) (hl : ReprOf K C f) (q : sp [.ref a] H (fun v H' => ∃ z : Str, v = .str z ∧ Q (.str z) H') E) : rReprO K f sp E [.ref a] H Q := ⟨a, C, dx, fs, rfl, ha, hl, q⟩
/-! f'..' -/
def tJoined (ts : List TE) : TE := fun σ H Q => tJs ts Str.empty σ H fun out H1 => Q (.str out) H1
theorem pe_fstr {v1 v2 : Expr} {rest : List Expr} {ts : List TE} {pos : Pos} (h : PJ X (v1 :: v2 :: rest) ts) : PE X (.JoinedStr (v1 :: v2 :: rest) pos) (tJoined ts) := pe_joined h
theorem r_joined {ts : List TE} {σ : L2.St} {H : Hp} {Q : VK} (q : tJs ts Str.empty σ H fun out H1 => Q (.str out) H1) : tJoined ts σ H Q := q
theorem r_jNil {acc : Str} {σ : L2.St} {H : Hp} {R : Str → Hp → Prop} (q : R acc H) : tJs [] acc σ H R := q
theorem r_jLit {acc x : Str} {ts : List TE} {σ : L2.St} {H : Hp} {R : Str → Hp → Prop} (hl : (acc ++ x).length ≤ sizeLine) (q : tJs ts (acc ++ x) σ H R) : tJs (tC (.str x) :: ts) acc σ H R := ⟨x, rfl, hl, q⟩
theorem r_jInt {acc : Str} {i : Nat} {n : Int} {ts : List TE} {σ : L2.St} {H : Hp} {R : Str → Hp → Prop} (h : σ[i]? = some (some (.int n))) (hn : n.natAbs.log2 < 1920) (hl : (acc ++ (toString n : Str)).length ≤ sizeLine) (q : tJs ts (acc ++ (toString n : Str)) σ H R) : tJs (tFmt (tVar i) :: ts) acc σ H R :=
  ⟨.int n, h, .inr ⟨n, rfl, hn, _, rfl, hl, q⟩⟩
end
/-! arguments by name -/
def pickG (idx : List Nat) {α : Type} (us ds ws : List α) : List α := us ++ idx.filterMap fun i => (ws ++ ds)[i]?
theorem vals_pick (idx : List Nat) {vs ds zs : List V} {us its ws : List Value} (r1 : Vals vs us) (r2 : Vals ds its) (r3 : Vals zs ws) : Vals (pickG idx vs ds zs) (pickG idx us its ws) := by
  refine r1.append ?_
  have r := r3.append r2
  generalize zs ++ ds = a at r ⊢; generalize ws ++ its = b at r ⊢
  induction idx with
  | nil => exact .nil
  | cons i idx ih =>
    rcases Nat.lt_or_ge i a.length with h | h
    · obtain ⟨u, hu, ru⟩ := r.get (List.getElem?_eq_getElem h)
      rw [List.filterMap_cons, List.filterMap_cons, List.getElem?_eq_getElem h, hu]
      exact .cons ru ih
    · rw [List.filterMap_cons, List.filterMap_cons, List.getElem?_eq_none h, List.getElem?_eq_none (by rw [← r.length]; exact h)]
      exact ih
end G
/-! f'{x!r}' of data -/
namespace G
open PySem PySem.Spec PyProof.Rows L2
def tFmtD (K : PySem.W.Frag) (te : TE) : TE := fun σ H Q => te σ H fun x H1 => ∃ (a : Addr) (d : PyData), x = .ref a ∧ Dp K H1 (.ref a) d ∧ d.showable = true ∧ d.hasDict = false ∧ d.depth ≤ 60 ∧ d.shown.length ≤ sizeLine ∧ Q (.str d.shown) H1
theorem kFmtR {X : Cx} {K : PySem.W.Frag} {e : Expr} {te : TE} {pos : Pos} (hq : Quiet X.A) (hu : X.A.units + 64 < cLine) (he : PE X e te) (hK : X.K = K := by rfl) : PE X (.FormattedValue e 114 none pos) (tFmtD K te) := by
  subst hK
  refine ⟨fun pins s σ H Q I h => wpAny_FormattedValue_repr (thn (he.run pins s σ H _ I h) fun v s1 ⟨x, H1, I1, r1, a, d, ex, hd, hs, hn, hdp, hl, q⟩ => ?_)⟩
  subst ex; obtain rfl : v = Value.ref a := r1
  obtain ⟨as, rd⟩ := Dp.reads I1 d _ _ hd rfl
  refine pyReprObj_of_reads rd hs (fun z => absurd z (by rw [hn]; decide)) hq (by omega) (fun _ _ z => z) (fun h' u tk hk => ?_) hl
  have I2 : ∀ t', Inv X pins σ H1 { s1 with heap := h', toks := t' } := fun t' => I1.kept (t' := t') hk
  exact wpAny_formatField_str ⟨.str _, H1, I2 _, ⟨_, rfl⟩, q⟩ ⟨.str _, H1, I2 _, ⟨_, rfl⟩, q⟩ hl
theorem r_jD {K : PySem.W.Frag} {te : TE} {acc : Str} {ts : List TE} {σ : L2.St} {H : Hp} {R : Str → Hp → Prop} (q : te σ H fun x H1 => ∃ (a : Addr) (d : PyData), x = .ref a ∧ Dp K H1 (.ref a) d ∧ d.showable = true ∧ d.hasDict = false ∧ d.depth ≤ 60 ∧ d.shown.length ≤ sizeLine ∧ (acc ++ d.shown).length ≤ sizeLine ∧ tJs ts (acc ++ d.shown) σ H1 R)
    (mono : ∀ Q1 Q2 : VK, (∀ v H', Q1 v H' → Q2 v H') → te σ H Q1 → te σ H Q2) : tJs (tFmtD K te :: ts) acc σ H R := by
  refine mono _ _ (fun v H' z => ?_) q
  obtain ⟨a, d, rfl, h1, h2, h3, h4, h5, h6, h7⟩ := z
  exact ⟨a, d, rfl, h1, h2, h3, h4, h5, _, rfl, h6, h7⟩
end G
/-! ### a method of one of two classes, each with its own -/
namespace G
open PySem PySem.Spec PyProof.Rows L2
section
variable {X : Cx} {CX : CXT} {k1 k2 : Nat} {f1 f2 C1 C2 : Addr} {m : Str} {sp1 sp2 : Sp} {E : L2.St → XK} {e o : Expr} {es : List Expr} {pos apos : Pos} {ta : TE} {t : TA}
def tMeth2 (C1 C2 : Addr) (m : Str) (sp1 sp2 : Sp) (E : L2.St → XK) (ta : TE) (t : TA) : TE := fun σ H Q => ta σ H fun x H1 => ∃ a dx fs, x = .ref a ∧ fs.lookup m = none ∧
  ((H1 a = some (.ins C1 dx fs) ∧ t σ H1 fun vs H2 => sp1 (x :: vs) H2 Q (E σ)) ∨ (H1 a = some (.ins C2 dx fs) ∧ t σ H1 fun vs H2 => sp2 (x :: vs) H2 Q (E σ)))
theorem pe_meth2 {pl : Sem Bool} (he : PE X o ta) (c1 : Cls X.K C1) (c2 : Cls X.K C2) (hm1 : Meth X.K C1 m f1) (hm2 : Meth X.K C2 m f2) (F1 : FnR X.prog X.w X.K X.mg X.base CX k1 f1 sp1) (F2 : FnR X.prog X.w X.K X.mg X.base CX k2 f2 sp2) (hr1 : Room k1 X.A) (hr2 : Room k2 X.A) (hx : ∀ σ, PassesAt CX X σ (E σ)) (ha : PA X (e :: es) t)
    (hst : starEach (e :: es) X.env = (false, eval e X.env) :: starEach es X.env := by rfl) (hpl : (backTo pos (starEach es X.env)).any (·.1) = false := by rfl)
    (ht : eval (.Call (.Attribute o m apos) (e :: es) [] pos) X.env = (do
      let ov ← eval o X.env
      standAt apos.atName
      let (f, first) ← holding [ov] (getMethod ov m pl)
      callWith pos f first (backTo pos (starEach (e :: es) X.env)) (backToKw pos (keywordEach [] X.env))) := by rfl) :
    PE X (.Call (.Attribute o m apos) (e :: es) [] pos) (tMeth2 C1 C2 m sp1 sp2 E ta t) := by
  refine ⟨fun pins s σ H Q I h => ?_⟩
  refine PySem.W.methodCall_KW (pl := pl) (thn (he.run pins s σ H _ I h) fun u s1 ⟨x, H1, I1, rx, a, dx, fs, ex, l, q⟩ => ?_) ht
  subst ex
  obtain rfl : u = Value.ref a := rx
  rcases q with ⟨ea, q⟩ | ⟨ea, q⟩
  · refine getmeth_ok I1 ea c1 hm1 l (PySem.W.callWith_K (first := [.ref a]) (h₀ := X.base) I.ok.mod.kin hm1.kp (thn (ha.run pos pins s1 σ H1 _ I1 q) fun us s2 ⟨vs, H2, I2, r, q2⟩ => ⟨I2.kIn, ?_⟩) hst hpl)
    exact run_fnRS (us := .ref a :: us) (vs := .ref a :: vs) F1 hr1 (hx σ) I2 (.cons rfl r) q2
  · refine getmeth_ok I1 ea c2 hm2 l (PySem.W.callWith_K (first := [.ref a]) (h₀ := X.base) I.ok.mod.kin hm2.kp (thn (ha.run pos pins s1 σ H1 _ I1 q) fun us s2 ⟨vs, H2, I2, r, q2⟩ => ⟨I2.kIn, ?_⟩) hst hpl)
    exact run_fnRS (us := .ref a :: us) (vs := .ref a :: vs) F2 hr2 (hx σ) I2 (.cons rfl r) q2
theorem r_meth2 {σ : L2.St} {H : Hp} {Q : VK} (q : ta σ H fun x H1 => ∃ a dx fs, x = .ref a ∧ fs.lookup m = none ∧
  ((H1 a = some (.ins C1 dx fs) ∧ t σ H1 fun vs H2 => sp1 (x :: vs) H2 Q (E σ)) ∨ (H1 a = some (.ins C2 dx fs) ∧ t σ H1 fun vs H2 => sp2 (x :: vs) H2 Q (E σ)))) : tMeth2 C1 C2 m sp1 sp2 E ta t σ H Q := q
end
end G
/-! ### errors as values: the rest -/
namespace G
open PySem PySem.Spec PyProof.Rows L2
theorem kIsX {X : Cx} {K : PySem.W.Frag} (hK : X.K = K := by rfl) : CallR X (.builtin "isinstance") (rIsX K) := hK ▸ call_isX
theorem kXv {X : Cx} {K : PySem.W.Frag} {e : Expr} {te : TE} {n : Str} (h : PE X e (tXv X.K n te)) (hK : X.K = K := by rfl) : PE X e (tXv K n te) := hK ▸ h
/-! repr of a list with an empty dict in it -/
/-- the values that the law passes -/
inductive Arg (K : PySem.W.Frag) (H : Hp) : V → PyData → Prop
  | non : Arg K H .non .none
  | str (s : Str) : s = "abc" ∨ s = "" → Arg K H (.str s) (.str s)
  | int (i : Int) : i.natAbs < 2 ^ 100 → Arg K H (.int i) (.int i)
  | tup (a : Addr) : SqT K H a [.str "x", .int 1] → Arg K H (.ref a) (.tuple [.str "x", .int 1])
  | lst (a : Addr) : H a = some (.lst [.int 1]) → Arg K H (.ref a) (.list [.int 1])
  | dct (a : Addr) : H a = some (.dK []) → Arg K H (.ref a) (.dict [])
theorem Arg.same {K : PySem.W.Frag} {H H' : Hp} {v : V} {d : PyData} (h : Arg K H v d) (s : Same H H') : Arg K H' v d := by
  cases h with
  | non => exact .non
  | str x l => exact .str x l
  | int i l => exact .int i l
  | tup a h => exact .tup a (sqT_same s h)
  | lst a h => exact .lst a (s _ _ h)
  | dct a h => exact .dct a (s _ _ h)
theorem smFree {X : Cx} {pins : List (Addr × Obj)} {σ : L2.St} {H : Hp} {s : Shared} (sm : (X.K.lookup PySem.sysModules).isSome = true) (I : Inv X pins σ H s) : H PySem.sysModules = none := by
  obtain ⟨o, ho⟩ := Option.isSome_iff_exists.mp sm
  exact (I.bs _ _ (I.ok.mod.kin _ _ ho)).2
theorem Arg.reads {X : Cx} {pins : List (Addr × Obj)} {σ : L2.St} {H : Hp} {s : Shared} {v : V} {u : Value} {d : PyData} (sm : (X.K.lookup PySem.sysModules).isSome = true) (I : Inv X pins σ H s) (h : Arg X.K H v d) (r : RelV v u) : ∃ as, Reads s.heap u d as ∧ PySem.sysModules ∉ as := by
  have hf := smFree sm I
  cases h with
  | non => cases r; exact ⟨_, .none, by simp⟩
  | str x l => obtain ⟨t, rfl⟩ := r; exact ⟨_, .str x t, by simp⟩
  | int i l => obtain ⟨t, rfl⟩ := r; exact ⟨_, .int i t, by simp⟩
  | tup a h =>
    obtain rfl : u = Value.ref a := r
    obtain ⟨its, rv, ⟨o, ho, hc, n, hd⟩, _⟩ := I.tuple h
    cases rv with
    | cons r1 rv =>
      cases rv with
      | cons r2 rv =>
        cases rv
        obtain ⟨t1, rfl⟩ := r1
        obtain ⟨t2, rfl⟩ := r2
        exact ⟨_, .tuple ho hc hd (.cons (.str _ _) (.cons (.int _ _) .nil)), by simp⟩
  | lst a h =>
    obtain rfl : u = Value.ref a := r
    obtain ⟨its, rv, ⟨o, n, ho, hc, _, hd⟩, _⟩ := I.list (SqL.of (K := X.K) h)
    cases rv with
    | cons r1 rv =>
      cases rv
      obtain ⟨t1, rfl⟩ := r1
      refine ⟨_, .list ho hc hd (.cons (.int _ _) .nil), ?_⟩
      simp only [List.append_nil, List.mem_singleton]
      intro z
      rw [z, h] at hf
      cases hf
  | dct a h =>
    obtain rfl : u = Value.ref a := r
    obtain ⟨_, hd, vs, kv, o, es, ep, h1, h2, h3, h4, h5, h6⟩ := dk_of I.hok h
    cases kv
    have e0 : es.toList = [] := by
      generalize es.toList = l at h5
      cases h5; rfl
    refine ⟨_, .dict h1 h2.1 h3 (by rw [e0]; exact .nil) (by rw [e0]; exact .nil), ?_⟩
    simp only [List.append_nil, List.mem_singleton]
    intro z
    rw [← z] at hd
    simp at hd
end G
/-! ### room for a dict's own steps -/
namespace G
open PySem PySem.Spec L2 PyProof.Rows
theorem _root_.L2.Room.units1 {n : Nat} {A : Around} (hr : Room n A) : A.units + 1 < cLine := by
  have := hr.units
  omega
end G
/-! ### match: a tuple against rows of texts and names -/
namespace G
open PySem PySem.Spec PyProof.Rows L2
inductive MP where
  | lit (z : Str)
  | cap (i : Nat)
/-- the slots and their values, where the row fits -/
def fitM : List MP → List V → Option (List (Nat × V))
  | [], [] => some []
  | .lit z :: ps, .str y :: vs => if y = z then fitM ps vs else none
  | .cap i :: ps, v :: vs => (fitM ps vs).map fun bs => (i, v) :: bs
  | _, _ => none
/-- texts stand where texts are asked for -/
def litsOk : List MP → List V → Prop
  | .lit _ :: ps, v :: vs => (∃ y, v = .str y) ∧ litsOk ps vs
  | .cap _ :: ps, _ :: vs => litsOk ps vs
  | _, _ => True
def setM (σ : L2.St) : List (Nat × V) → L2.St
  | [] => σ
  | (i, v) :: bs => setM (σ.set i (some v)) bs
def goM : List (List MP × TS) → List V → TS
  | [], _ => fun D σ H => D.nx σ H
  | (ps, t) :: r, xs => fun D σ H => if ps.length = xs.length then litsOk ps xs ∧ (match fitM ps xs with
    | some bs => t D (setM σ bs) H
    | none => goM r xs D σ H) else goM r xs D σ H
def tMatch (K : PySem.W.Frag) (te : TE) (cs : List (List MP × TS)) : TS := fun D σ H => te σ H fun x H1 => ∃ a xs, x = .ref a ∧ SqT K H1 a xs ∧ goM cs xs D σ H1
section
variable {X : Cx} {pins : List (Addr × Obj)} {σ : L2.St} {H : Hp} {s : Shared}
def NmOk (X : Cx) (x : Str) (i : Nat) : Prop := X.N[i]? = some x ∧ Loc X.env.scope x ∧ (X.fn x = true ∨ X.env.scope.names.lookup x = some .local)
inductive PMp (X : Cx) : Pattern → MP → Prop
  | lit (z : Str) (k pos pos') : PMp X (.MatchValue (.Constant (.str z) k pos) pos') (.lit z)
  | cap (x : Str) (i : Nat) (pos) (h : NmOk X x i) : PMp X (.MatchAs none (some x) pos) (.cap i)
inductive PMs (X : Cx) : List Pattern → List MP → Prop
  | nil : PMs X [] []
  | cons {p : Pattern} {m : MP} {ps : List Pattern} {ms : List MP} : PMp X p m → PMs X ps ms → PMs X (p :: ps) (m :: ms)
theorem PMs.len {ps : List Pattern} {ms : List MP} (h : PMs X ps ms) : ps.length = ms.length := by
  induction h with
  | nil => rfl
  | cons _ _ ih => rw [List.length_cons, List.length_cons, ih]
def BsOk (X : Cx) (bs : List (Str × Value)) (cs : List (Nat × V)) : Prop := Paired (fun b c => NmOk X b.1 c.1 ∧ RelV c.2 b.2) bs cs
theorem runM {ps : List Pattern} {ms : List MP} (h : PMs X ps ms) : ∀ {vs : List V} {us : List Value} {s : Shared} {Q : Option (List (Str × Value)) → Shared → Prop}, Inv X pins σ H s → Vals vs us → ms.length = vs.length → litsOk ms vs →
    (fitM ms vs = none → ∀ s', Inv X pins σ H s' → Q none s') → (∀ cs bs s', fitM ms vs = some cs → BsOk X bs cs → Inv X pins σ H s' → Q (some bs) s') → wpAny (model X.prog X.w) X.A (matchEach ps X.env us) Q X.xe s := by
  induction h with
  | nil =>
    intro vs us s Q I r hl _ _ q
    cases vs with
    | nil => cases r; exact wpAny_matchEach_nil (q [] [] s rfl .nil I)
    | cons v vs => cases hl
  | @cons p m ps ms hp hs ih =>
    intro vs us s Q I r hl ho qn q
    cases vs with
    | nil => cases hl
    | cons v vs =>
      cases r with
      | cons r0 r =>
        have hl' : ms.length = vs.length := by simpa using hl
        cases hp with
        | lit z k pos pos' =>
          obtain ⟨⟨y, rfl⟩, ho⟩ := ho
          refine wpAny_matchEach_cons (wpAny_matchPattern_Value ?_)
          refine thn ((pe_str (X := X) (x := z) (j := k) (pos := pos)).run pins s σ H (fun x H1 => x = .str z ∧ H = H1) I ⟨rfl, rfl⟩) fun u1 s1 ⟨x, H1, I1, rx, ex, eH⟩ => ?_
          subst ex eH
          refine thn (op_eq pins s1 σ H (.str y) (.str z) _ u1 (fun x H1 => x = .bl (decide (V.str y = V.str z)) ∧ H = H1) I1 r0 rx ⟨rfl, rfl, rfl⟩) fun u2 s2 ⟨x, H2, I2, rx2, ex, eH⟩ => ?_
          subst ex eH
          obtain rfl : u2 = Value.bool (decide (V.str y = V.str z)) := rx2
          refine wpAny_pure ?_
          have e0 : decide (V.str y = V.str z) = decide (y = z) := by
            by_cases hyz : y = z
            · subst hyz; simp
            · rw [decide_eq_false hyz, decide_eq_false fun e => hyz (V.str.inj e)]
          rw [e0]
          by_cases hyz : y = z
          · subst hyz
            rw [decide_eq_true rfl]
            have ef : fitM (.lit y :: ms) (.str y :: vs) = fitM ms vs := by show (if y = y then _ else _) = _; rw [if_pos rfl]
            rw [ef] at qn q
            exact ih I2 r hl' ho (fun h s' I' => qn h s' I') fun cs bs s' h1 h2 I' => q cs bs s' h1 h2 I'
          · rw [decide_eq_false hyz]
            exact qn (by show (if y = z then _ else _) = _; rw [if_neg hyz]) s2 I2
        | cap x i pos hn =>
          refine wpAny_matchEach_cons (wpAny_matchPattern_Capture ?_)
          have ef : fitM (.cap i :: ms) (v :: vs) = (fitM ms vs).map fun bs => (i, v) :: bs := rfl
          rw [ef] at qn q
          refine ih I r hl' ho (fun h s' I' => qn (by rw [h]; rfl) s' I') fun cs bs s' h1 h2 I' => ?_
          exact q _ _ s' (by rw [h1]; rfl) (.cons ⟨hn, r0⟩ h2) I'
theorem runB (hN : X.N.Nodup) : ∀ {bs : List (Str × Value)} {cs : List (Nat × V)} {σ : L2.St} {s : Shared} {Q : Unit → Shared → Prop}, BsOk X bs cs → Inv X pins σ H s → (∀ s', Inv X pins (setM σ cs) H s' → Q () s') →
    wpAny (model X.prog X.w) X.A (assignInOrder (bs.map fun (n, _) => bindName X.env n) (bs.map (·.2))) Q X.xe s
  | _, _, _, _, _, .nil, I, q => wpAny_assignInOrder_none (q _ I)
  | _, _, _, _, _, .cons ⟨⟨h1, h2, h3⟩, r⟩ hs, I, q => wpAny_assignInOrder_more (wpAny_bindName (store_ok I hN h1 h2 r (fun s' I' => runB hN hs I' q) h3))
inductive PMc (X : Cx) : List MatchCase → List (List MP × TS) → Prop
  | nil : PMc X [] []
  | cons {ps : List Pattern} {ms : List MP} {body : List Stmt} {t : TS} {cs : List MatchCase} {ts : List (List MP × TS)} {pos : Pos} : PMs X ps ms → PSs X body t → ps.findIdx? (·.isStar) = none → (ps.all fun p => p.isWildcard || (p.isStar && p.names.isEmpty)) = false →
      PMc X cs ts → PMc X (⟨.MatchSequence ps pos, none, body⟩ :: cs) ((ms, t) :: ts)
theorem runC (hc : X.calm = true) (hN : X.N.Nodup) {cs : List MatchCase} {ts : List (List MP × TS)} (h : PMc X cs ts) : ∀ {a : Addr} {xs : List V} {first : Bool} {s : Shared} {D : Ends}, Inv X pins σ H s → SqT X.K H a xs → goM ts xs D σ H →
    wpAny (model X.prog X.w) X.A (matchCases cs X.env (.ref a) first) (SP X pins D) X.xe s := by
  induction h with
  | nil =>
    intro a xs first s D I hq q
    exact wpAny_matchCases_nil ⟨σ, H, I, q⟩
  | @cons ps ms body t cs ts pos hp hb hst hw _ ih =>
    intro a xs first s D I hq q
    obtain ⟨its, rv, ht, hz⟩ := I.tuple hq
    refine wpAny_matchCases_cons (wpAny_matchPattern_Sequence ?_ hst hw)
    refine wpAny_collectionFlag ht.typeIs flag_seq_tuple ?_
    have hlen : its.toArray.size = xs.length := by rw [List.size_toArray]; exact rv.length.symm
    refine pyLen_tuple ht (by rw [hlen]; have := sizeLine_eq; omega) ?_
    rw [hlen]
    have I0 : Inv X pins σ H { s with toks := s.toks + 1 + 1 } := I.tok _
    by_cases hl : ms.length = xs.length
    · have q : litsOk ms xs ∧ (match fitM ms xs with
        | some bs => t D (setM σ bs) H
        | none => goM ts xs D σ H) := by
        have q' : (if ms.length = xs.length then _ else _) := q
        rwa [if_pos hl] at q'
      rw [show (((xs.length : Nat) : Int) != (ps.length : Int)) = false by rw [hp.len, hl]; simp]
      have e1 : ps.length = its.toArray.size := by rw [hp.len, hlen, hl]
      rw [e1]
      refine unpackItems_tuple (I.ok.hd hc) ht fun h' hx => ?_
      have I1 : Inv X pins σ H { s with heap := h', toks := s.toks + 1 + 1 } := I0.kept (t' := s.toks + 1 + 1) fun b o e => hx b o (Nat.ne_of_lt (Heap.lt_size e)) e
      refine runM hp I1 (by simpa using rv) hl q.1 (fun hf s' I' => ?_) fun cs' bs s' hf hbs I' => ?_
      · have q2 := q.2
        rw [hf] at q2
        exact ih I' hq q2
      · have q2 := q.2
        rw [hf] at q2
        exact runB hN hbs I' fun s2 I2 => hb.run pins s2 _ H D I2 q2
    · have q : goM ts xs D σ H := by
        have q' : (if ms.length = xs.length then _ else _) := q
        rwa [if_neg hl] at q'
      rw [show (((xs.length : Nat) : Int) != (ps.length : Int)) = true by
        rw [bne_iff_ne, hp.len]; omega]
      exact ih I0 hq q
theorem ps_match {e : Expr} {te : TE} {cs : List MatchCase} {ts : List (List MP × TS)} {pos : Pos} (hc : X.calm = true) (hN : X.N.Nodup) (he : PE X e te) (h : PMc X cs ts) : PS X (.Match e cs pos) (tMatch X.K te ts) := by
  refine ⟨fun pins s σ H D I q => wpAny_Match (thn (he.run pins s σ H _ I q) fun u s1 ⟨x, H1, I1, rx, a, xs, ex, hq, q1⟩ => ?_)⟩
  subst ex
  obtain rfl : u = Value.ref a := rx
  exact runC hc hN h I1 hq q1
theorem kMatch {K : PySem.W.Frag} {st : Stmt} {te : TE} {ts : List (List MP × TS)} (h : PS X st (tMatch X.K te ts)) (hK : X.K = K := by rfl) : PS X st (tMatch K te ts) := hK ▸ h
end
end G
/-! ### del xs[-k:] of a list -/
namespace G
open PySem PySem.Spec PyProof.Rows L2
section
variable {prog : Program} {w : World} {A : Around} {E : Value → Shared → Prop} {s : Shared}
theorem keep_take {α : Type} (P : Nat → Bool) (m : Nat) : ∀ (xs : List α) (j : Nat), (∀ i, j ≤ i → i < j + xs.length → P i = decide (j + m ≤ i)) → ((xs.zipIdx j).filterMap fun (x, k) => if P k = true then none else some x) = xs.take m := by
  intro xs
  induction xs generalizing m with
  | nil => intro j _; simp
  | cons x xs ih =>
    intro j h
    rw [List.zipIdx_cons, List.filterMap_cons]
    have h0 := h j (Nat.le_refl _) (by rw [List.length_cons]; omega)
    cases m with
    | zero =>
      have e0 : P j = true := by rw [h0]; simp
      simp only [e0, if_true]
      have := ih 0 (j + 1) fun i h1 h2 => by
        rw [h i (by omega) (by rw [List.length_cons]; omega), decide_eq_true (by omega), decide_eq_true (by omega)]
      rw [this]; simp
    | succ m =>
      have e0 : P j = false := by rw [h0]; simp
      simp only [e0, Bool.false_eq_true, if_false]
      have := ih m (j + 1) fun i h1 h2 => by
        rw [h i (by omega) (by rw [List.length_cons]; omega)]
        congr 1
        exact propext ⟨fun z => by omega, fun z => by omega⟩
      rw [this, List.take_succ_cons]
open Builtin.List in
theorem del_tail {l sl : Addr} {its : List Value} {n0 k : Nat} {vl : Value} {Q : Unit → Shared → Prop} (hl : s.heap.get? l = some { cls := .type "list", dict := none, data := .seq its.toArray n0, slots := #[] }) (hs : s.heap.IsSliceOf sl vl .none .none) (pl : IsPart vl (some (-(k : Int))))
    (hk : 1 ≤ k) (hk2 : k ≤ its.length) (hsz : its.length ≤ sizeLine) (h : ∀ g, g its.toArray = (its.take (its.length - k)).toArray → Q () { s with heap := s.heap.update l (Obj.mapSeq g) }) : wpAny (model prog w) A (delItem (.ref l) (.ref sl)) Q E s := by
  obtain ⟨os, hos, hcs, hds⟩ := id hs
  have hTs : s.TypeIs (.ref sl) "slice" := ⟨os, hos, hcs⟩
  have hTl : s.TypeIs (.ref l) "list" := ⟨_, hl, rfl⟩
  refine wpAny_delItem_slot hTl (by decide) F.slot_list_delitem (wpAny_call (codeAny_call_builtin F.slot_list_delitem.plain F.entry_list_delitem (F.slot_list_delitem.check _ _ _ _ _ _ _ _ hTl (F.args_list_delitem_2 _ _) ?_)))
  unfold Builtin.«list.__delitem__»
  refine wpAny_bind (wpAny_of_eq (a := ((Value.ref l : Value), [Value.ref sl])) (by first | rfl | (simp only [slotArgs]; rfl)) ?_)
  show wpAny _ _ (listSubscript? (.ref sl) >>= _) _ _ s
  refine wpAny_bind ?_
  unfold listSubscript?
  refine wpAny_bind (wpAny_specialOf hTs slice_no_index ?_)
  simp only [Option.isNone_none, if_true]
  refine wpAny_pure ?_
  show wpAny _ _ (typeOf (.ref sl) >>= _) _ _ s
  refine wpAny_bind (wpAny_typeOf hTs ?_)
  rw [if_neg (by decide), listSliceParts_eq]
  refine wpAny_bind (wpAny_bind (wpAny_field hos hds (x := Value.none) rfl (wpAny_bind (wpAny_listPart .none ?_))))
  rw [if_neg (show ¬ ((rawPart none == rawInt 0) = true) from Bool.false_ne_true)]
  refine wpAny_bind (wpAny_field hos hds (x := vl) rfl (wpAny_bind (wpAny_listPart pl ?_)))
  refine wpAny_bind (wpAny_field hos hds (x := Value.none) rfl (wpAny_bind (wpAny_listPart .none (wpAny_pure ?_))))
  refine wpAny_bind (m := listItems (.ref l)) ?_
  unfold listItems
  refine wpAny_bind (wpAny_seqItems hl rfl (wpAny_pure ?_))
  refine wpAny_bind (wpAny_of_eq (sliceIndices_raw (some (-(k : Int))) none none its.toArray.size (by simp)) ?_)
  have eb : sliceBounds (some (-(k : Int))) none none its.toArray.size = (((its.length - k : Nat) : Int), (its.length : Int), 1) := by
    simp only [sliceBounds, Option.getD_none, List.size_toArray, show (1 : Int) > 0 from by decide, if_true, show (-(k : Int)) < 0 from by omega]
    congr 1
    omega
  rw [eb]
  have sel : ∀ (P : Nat → Bool), (∀ i, i < its.length → P i = decide (its.length - k ≤ i)) → ((its.toArray.toList.zipIdx.filterMap fun x => if P x.2 = true then none else some x.1).toArray) = (its.take (its.length - k)).toArray := fun P hP => by
    have e1 := keep_take P (its.length - k) its 0 fun i _ h2 => by rw [hP i (by omega), Nat.zero_add]
    exact congrArg List.toArray e1
  refine wpAny_bind (wpAny_rule (wpAny_bind ?_))
  show wpAny _ _ (updateSeq l _) _ _ _
  have fin : ∀ i, i < its.length → (if (1 : Int) > 0 then (decide (((its.length - k : Nat) : Int) ≤ (i : Int)) && decide ((i : Int) < (its.length : Int)) && (((i : Int) - ((its.length - k : Nat) : Int)) % 1 == 0)) else false) = decide (its.length - k ≤ i) := fun i hi => by
    rw [if_pos (by decide), Int.emod_one, decide_eq_true (show (i : Int) < (its.length : Int) by omega)]
    by_cases hh : its.length - k ≤ i
    · rw [decide_eq_true hh, decide_eq_true (by omega)]; rfl
    · rw [decide_eq_false hh, decide_eq_false (by omega)]; rfl
  have key := fun (P : Nat → Bool) (hP : ∀ i, i < its.length → P i = (if (1 : Int) > 0 then (decide (((its.length - k : Nat) : Int) ≤ (i : Int)) && decide ((i : Int) < (its.length : Int)) && (((i : Int) - ((its.length - k : Nat) : Int)) % 1 == 0)) else false)) => sel P fun i hi => (hP i hi).trans (fin i hi)
  refine wpAny_updateSeq hl rfl (wpAny_bind (wpAny_letGo (wpAny_pure (h _ (key _ fun i _ => rfl))))) (by rw [List.size_toArray]; exact hsz) ?_
  rw [List.size_toArray]
  refine Nat.le_trans (List.length_filterMap_le ..) ?_
  rw [List.length_zipIdx, Array.length_toList, List.size_toArray]
  omega
end
/-- del xs[-k:] -/
def tDelTl (to : TE) (tl : TO) : TS := fun D σ H => to σ H fun x H1 => tl σ H1 fun o H2 => ∃ (l : Addr) (xs : List V) (k : Nat), x = .ref l ∧ o = some (-(k : Int)) ∧ H2 l = some (.lst xs) ∧ 1 ≤ k ∧ k ≤ xs.length ∧ D.nx σ (upd H2 l (.lst (xs.take (xs.length - k))))
theorem vals_take : ∀ {vs : List V} {us : List Value} (n : Nat), Vals vs us → Vals (vs.take n) (us.take n)
  | _, _, 0, _ => .nil
  | _, _, _ + 1, .nil => .nil
  | _, _, n + 1, .cons r rs => .cons r (vals_take n rs)
theorem ps_delTl {X : Cx} {o : Expr} {lo : Option Expr} {to : TE} {tl : TO} {p tpos pos : Pos} (ho : PE X o to) (hl : PO X lo tl) : PS X (.Delete [.Subscript o (.Slice lo none none p) tpos] pos) (tDelTl to tl) := by
  refine ⟨fun pins s σ H D I h => ?_⟩
  refine wpAny_Delete (wpAny_deleteEach_cons (wpAny_delete_Subscript (thn (ho.run pins s σ H _ I h) fun u s1 ⟨x, H1, I1, rx, q1⟩ => wpAny_Slice (thn (hl.run pins s1 σ H1 _ I1 q1) fun vl s2 ⟨lo', H2, I2, pl, q2⟩ => ?_))))
  rw [evalPart_none]
  refine wpAny_pure ?_
  refine wpAny_pure ?_
  obtain ⟨l, xs, k, rfl, rfl, hH, h1, h2, q⟩ := q2
  obtain rfl : u = Value.ref l := rx
  have I3 : Inv X pins σ H2 { s2 with heap := s2.heap.push { cls := .type "slice", data := .fields #[vl, .none, .none] } } := I2.kept (t' := s2.toks) fun b ob q => Heap.get?_push_of_some _ q
  obtain ⟨z, its, n, r, hlen, e⟩ := I3.lstM hH
  refine del_tail e (Heap.IsSliceOf.new ..) pl h1 (by rw [← hlen]; exact h2) (by rw [← hlen]; exact z) fun g hg => wpAny_deleteEach_nil ⟨σ, _, I3.lset (its' := its.take (its.length - k)) (t' := s2.toks) hH e hg (by rw [← hlen]; exact vals_take _ r) ?_, q⟩
  have := List.length_take_le (xs.length - k) xs
  omega
theorem r_delTl {to : TE} {tl : TO} {D : Ends} {σ : L2.St} {H : Hp} (q : to σ H fun x H1 => tl σ H1 fun o H2 => ∃ (l : Addr) (xs : List V) (k : Nat), x = .ref l ∧ o = some (-(k : Int)) ∧ H2 l = some (.lst xs) ∧ 1 ≤ k ∧ k ≤ xs.length ∧ D.nx σ (upd H2 l (.lst (xs.take (xs.length - k))))) : tDelTl to tl D σ H := q
end G
/-! ### methods called with keywords; keyword-only parameters that lack -/
namespace G
open PySem PySem.Spec PyProof.Rows L2
/-- what is bound when no keyword is written -/
theorem KBn.binds {K : PySem.W.Frag} {fd : FuncData} {ps : List Str} {n : Nat} {g : List Value → List Value → List Value} {gV : List V → List V → List V} (h : KBn K fd ps n [] g gV) (ds : List Value) (hn : ps.length = n + ds.length) (e : ∀ us : List Value, us.length = n → g us [] = us ++ ds) : Binds K fd ps ds := fun s us X hl => by
  have l : us.length = n := by rw [List.length_append] at hl; omega
  have := h.to s us [] X l rfl
  rwa [e us l] at this
section
variable {X : Cx} {CX : CXT} {k : Nat} {C f : Addr} {m : Str} {fd : FuncData} {ps ks : List Str} {sp : Sp} {E : XK} {o : Expr} {kws : List Keyword} {ta : TE} {tk : TA} {apos pos : Pos} {g : List Value → List Value → List Value} {gV : List V → List V → List V}
/-- o.m(k = v, ..) -/
def tMethK (C : Addr) (m : Str) (j : Nat) (sp : Sp) (gV : List V → List V → List V) (E : XK) (ta : TE) (tk : TA) : TE := fun σ H Q => ta σ H fun x H1 => ∃ (a dx : Addr) (fs : List (Str × V)), x = .ref a ∧ H1 a = some (.ins C dx fs) ∧ fs.lookup m = none ∧ tk σ H1 fun zs H2 => zs.length = j ∧ sp (gV [.ref a] zs) H2 Q E
theorem pe_methK {pl : Sem Bool} (he : PE X o ta) (c : Cls X.K C) (hm : Meth X.K C m f) (F : FnOk X.prog X.w X.K X.mg X.base CX k f fd ps sp) (hr : Room k X.A) (hb : KBn X.K fd ps 1 ks g gV) (hx : Passes CX X E) (hkw : PK X kws tk)
    (hall : (backToKw pos (keywordEach kws X.env)).all (·.1.isSome) = true := by rfl) (hks : (backToKw pos (keywordEach kws X.env)).filterMap (·.1) = ks := by rfl)
    (hpl : ((backTo pos (starEach [] X.env)).any (·.1) || (backToKw pos (keywordEach kws X.env)).any (·.1.isNone)) = false := by rfl)
    (ht : eval (.Call (.Attribute o m apos) [] kws pos) X.env = (do
      let ov ← eval o X.env
      standAt apos.atName
      let (f, first) ← holding [ov] (getMethod ov m pl)
      callWith pos f first (backTo pos (starEach [] X.env)) (backToKw pos (keywordEach kws X.env))) := by rfl) :
    PE X (.Call (.Attribute o m apos) [] kws pos) (tMethK C m ks.length sp gV E ta tk) := by
  refine ⟨fun pins s σ H Q I h => ?_⟩
  refine PySem.W.methodCall_KW (pl := pl) (thn (he.run pins s σ H _ I h) fun u s1 ⟨x, H1, I1, rx, a, dx, fs, ex, ea, l, q⟩ => ?_) ht
  subst ex
  obtain rfl : u = Value.ref a := rx
  refine getmeth_ok I1 ea c hm l ?_
  refine PySem.W.callWith_KW0 (first := [.ref a]) (h₀ := X.base) I1.ok.mod.kin hm.kp hall ?_ hpl
  refine thn (hkw.run pos pins s1 σ H1 _ I1 q) fun ws s2 ⟨zs, H2, I2, rz, l2, q2⟩ => ⟨I2.kIn, ?_⟩
  rw [hks]
  exact run_fnN (n := 1) F hr hb hx I2 (us := [.ref a]) (vs := [.ref a]) (.cons rfl .nil) rz rfl l2 q2
theorem r_methK {j : Nat} {σ : L2.St} {H : Hp} {Q : VK} (q : ta σ H fun x H1 => ∃ (a dx : Addr) (fs : List (Str × V)), x = .ref a ∧ H1 a = some (.ins C dx fs) ∧ fs.lookup m = none ∧ tk σ H1 fun zs H2 => zs.length = j ∧ sp (gV [.ref a] zs) H2 Q E) : tMethK C m j sp gV E ta tk σ H Q := q
end
/-! ### texts: s * n; the signs of a text -/
def repS (z : Str) (n : Nat) : Str := ⟨(List.replicate n z.cps).foldl (· ++ ·) #[]⟩
theorem repS_len (z : Str) (n : Nat) : (repS z n).length = n * z.length := by
  have e : ∀ (m : Nat) (a : Array Nat), ((List.replicate m z.cps).foldl (· ++ ·) a).size = a.size + m * z.cps.size := by
    intro m
    induction m with
    | zero => intro a; simp
    | succ m ih =>
      intro a
      rw [List.replicate_succ, List.foldl_cons, ih, Array.size_append, Nat.succ_mul]
      omega
  show ((List.replicate n z.cps).foldl (· ++ ·) #[]).size = n * z.cps.size
  rw [e]; simp
def rRepS : V → V → Hp → VK → Prop := fun x y H Q => ∃ (z : Str) (n : Nat), x = .str z ∧ y = .int (n : Int) ∧ n < 1000 ∧ z.length ≤ 1000 ∧ Q (.str (repS z n)) H
theorem op_repS {X : Cx} : OpR X (binaryOp .Mult) rRepS := by
  intro pins s σ H x y v u Q I rx ry h
  obtain ⟨z, n, rfl, rfl, h1, hz, q⟩ := h
  obtain ⟨t, rfl⟩ := rx
  obtain ⟨t', rfl⟩ := ry
  have hprod : z.length * n ≤ 1000000 := by
    have := Nat.mul_le_mul hz (Nat.le_of_lt h1)
    omega
  refine PySem.P.mul_str (by rw [decide_eq_false (by omega), decide_eq_false (by omega)]; rfl) (fun a b => ?_) (fun a b => ?_) ?_
  · have hn : (0 : Int) < (n : Int) := by omega
    have : (z.length : Int) ≤ (2 ^ 63 - 1) / (n : Int) := by
      rw [Int.le_ediv_iff_mul_le hn]
      have : ((z.length * n : Nat) : Int) ≤ 1000000 := by omega
      rw [Int.natCast_mul] at this
      omega
    omega
  · rw [Int.toNat_natCast]
    exact decide_eq_false (by rw [sizeLine_eq]; omega)
  · match n, h1 with
    | 0, _ =>
      rw [if_pos (by decide)]
      exact ⟨by decide, ⟨.str (repS z 0), H, I.tok _, ⟨_, rfl⟩, q⟩⟩
    | 1, _ =>
      rw [if_neg (by decide), if_pos (by simp)]
      have e1 : repS z 1 = z := by
        unfold repS
        simp
      rw [e1] at q
      exact ⟨.str z, H, I, ⟨_, rfl⟩, q⟩
    | k + 2, _ =>
      rw [if_neg (by omega)]
      by_cases hz0 : z.length = 0
      · rw [if_pos (by simp [hz0])]
        have ez : z.cps = #[] := Array.eq_empty_of_size_eq_zero hz0
        have e1 : ∀ (m : Nat) (a : Array Nat), (List.replicate m (#[] : Array Nat)).foldl (· ++ ·) a = a := by
          intro m
          induction m with
          | zero => intro a; rfl
          | succ m ih => intro a; rw [List.replicate_succ, List.foldl_cons, Array.append_empty]; exact ih a
        have e2 : repS z (k + 2) = z := by
          unfold repS
          rw [ez, e1, ← ez]
        rw [e2] at q
        exact ⟨.str z, H, I, ⟨_, rfl⟩, q⟩
      · rw [if_neg (by simp; omega), Int.toNat_natCast]
        refine ⟨?_, ⟨.str (repS z (k + 2)), H, I.tok _, ⟨_, rfl⟩, q⟩⟩
        show (repS z (k + 2)).length ≤ sizeLine
        rw [repS_len, sizeLine_eq, Nat.mul_comm]
        omega
theorem r_repS {z : Str} {n : Nat} {H : Hp} {Q : VK} (h1 : n < 1000) (h2 : z.length ≤ 1000) (q : Q (.str (repS z n)) H) : rRepS (.str z) (.int (n : Int)) H Q := ⟨z, n, rfl, rfl, h1, h2, q⟩
section
variable {K : PySem.W.Frag} {σ : L2.St} {H : Hp} {te : TE} {Q : VK} {vs : List Nat} {g : TG}
def CompSg (x : V) (g : TG) (tt : TT) (te : TE) (vs : List Nat) (σ : L2.St) (H : Hp) (Q : VK) : Prop := ∃ z, x = .str z ∧ Comp (Its z) g tt te vs σ H Q
theorem r_lcSg {ta : TE} {tt : TT} (q : ta σ H fun x H1 => CompSg x g tt te vs σ H1 Q) : tLc (iStr ta) g tt te vs σ H Q := q
/-- a comprehension over the signs of a text -/
theorem compSg {z : Str} {j : Nat} (hz : z.cps.size ≤ 100000) (P : Addr → Nat → List V → Hp → Prop) (h0 : ∀ D, H D = none → P D 0 [] (upd H D (.lst [])))
    (hs : ∀ D i c acc H', H D = none → z.cps[i]? = some c → P D i acc H' → H' D = some (.lst acc) → acc.length = i → te ((wipe σ vs).set j (some (.str ⟨#[c]⟩))) H' (CNext D (P D) i))
    (hd : ∀ D acc H', H D = none → P D z.cps.size acc H' → H' D = some (.lst acc) → acc.length = z.cps.size → Q (.ref D) H') (hw : ∀ x, wipe ((wipe σ vs).set j (some x)) vs = wipe σ vs := by intro _; rfl) : CompSg (.str z) (gName j) tYes te vs σ H Q := by
  refine ⟨z, rfl, fun D hD => ⟨fun i m H' => m = z.cps.size - i ∧ i ≤ z.cps.size ∧ ∃ acc, P D i acc H' ∧ H' D = some (.lst acc) ∧ acc.length = i, ⟨z.cps.size, by simp, Nat.zero_le _, [], h0 D hD, upd_same, rfl⟩, ?_⟩⟩
  rintro i m H' ⟨rfl, hi, acc, p, hD', hlen⟩
  by_cases hlt : i < z.cps.size
  · refine .inr ⟨hlt, fun H2 => ∃ acc, P D (i + 1) acc H2 ∧ H2 D = some (.lst acc) ∧ acc.length = i + 1, fun H2 p' => ⟨z.cps.size - (i + 1), by omega, rfl, hlt, p'⟩, ?_⟩
    rintro y H2 ⟨rfl, c, hc, rfl⟩
    exact ⟨hw _, hs D i c acc H2 hD hc p hD' hlen⟩
  · have e : i = z.cps.size := by omega
    subst e
    exact .inl ⟨Nat.le_refl _, hd D acc H' hD p hD' hlen⟩
end
end G
/-! ### dicts with texts as keys: in, not in, len, a copy, the keys in order -/
namespace G
open PySem PySem.Spec PyProof.Rows L2
section
variable {X : Cx} {K : PySem.W.Frag}
def rInDc (neg : Bool) : V → V → Hp → VK → Prop := fun x y H Q => ∃ (a : Addr) (kvs : List (Key × V)) (k : Key), x = kV k ∧ y = .ref a ∧ Rd H a (.dK kvs) ∧ Q (.bl (if neg then !(valV kvs k).isSome else (valV kvs k).isSome)) H
theorem kInDc (hu : X.A.units + 1 < cLine) : OpR X (compareOp .In) (rInDc false) := by
  intro pins s σ H x y v u Q I rx ry h
  obtain ⟨a, kvs, k, rfl, rfl, hd, q⟩ := h
  obtain rfl : u = Value.ref a := ry
  exact d_in hu I (.inl ⟨kvs, k, hd, rfl, rfl⟩) rx fun s' I' => ⟨.bl _, H, I', rfl, q⟩
theorem kNotInDc (hu : X.A.units + 1 < cLine) : OpR X (compareOp .NotIn) (rInDc true) := by
  intro pins s σ H x y v u Q I rx ry h
  obtain ⟨a, kvs, k, rfl, rfl, hd, q⟩ := h
  obtain rfl : u = Value.ref a := ry
  exact d_notIn hu I (.inl ⟨kvs, k, hd, rfl, rfl⟩) rx fun s' I' => ⟨.bl _, H, I', rfl, q⟩
theorem r_inDc {a : Addr} {kvs : List (Key × V)} {k : Key} {H : Hp} {Q : VK} (hd : H a = some (.dK kvs)) (q : Q (.bl (valV kvs k).isSome) H) : rInDc false (kV k) (.ref a) H Q := ⟨a, kvs, k, rfl, rfl, .inl hd, q⟩
theorem r_notInDc {a : Addr} {kvs : List (Key × V)} {k : Key} {H : Hp} {Q : VK} (hd : H a = some (.dK kvs)) (q : Q (.bl (!(valV kvs k).isSome)) H) : rInDc true (kV k) (.ref a) H Q := ⟨a, kvs, k, rfl, rfl, .inl hd, q⟩
def rLenDc : List V → Hp → VK → Prop := fun xs H Q => ∃ (a : Addr) (kvs : List (Key × V)), xs = [.ref a] ∧ Rd H a (.dK kvs) ∧ Q (.int (kvs.length : Int)) H
theorem call_lenDc : CallR X (.builtin "len") rLenDc := by
  intro pins s σ H xs us Q I r h
  obtain ⟨a, kvs, rfl, hd, q⟩ := h
  obtain ⟨u, rfl, ru⟩ := vals1 r
  obtain rfl : u = Value.ref a := ru
  exact d_len I hd fun t s' I' => ⟨.int _, H, I', ⟨_, rfl⟩, q⟩
theorem r_lenDc {a : Addr} {kvs : List (Key × V)} {H : Hp} {Q : VK} (hd : H a = some (.dK kvs)) (q : Q (.int (kvs.length : Int)) H) : rLenDc [.ref a] H Q := ⟨a, kvs, rfl, .inl hd, q⟩
def rDictD : List V → Hp → VK → Prop := fun xs H Q => ∃ (a : Addr) (kvs : List (Key × V)), xs = [.ref a] ∧ Rd H a (.dK kvs) ∧ ∀ p, H p = none → Q (.ref p) (upd H p (.dK kvs))
theorem kDictD : CallR X (.type "dict") rDictD := call_dictD
theorem r_dictD {a : Addr} {kvs : List (Key × V)} {H : Hp} {Q : VK} (hd : H a = some (.dK kvs)) (q : ∀ p, H p = none → Q (.ref p) (upd H p (.dK kvs))) : rDictD [.ref a] H Q := ⟨a, kvs, rfl, .inl hd, q⟩
def rSortDc : List V → Hp → VK → Prop := fun xs H Q => ∃ (a : Addr) (kvs : List (Key × V)) (ks : List Str), xs = [.ref a] ∧ Rd H a (.dK kvs) ∧ kvs.map (·.1) = ks.map Sum.inr ∧ ks.length < 64 ∧
  ∀ ys p, ys.Perm ks → sortedS ys = true → H p = none → Q (.ref p) (upd H p (.lst (ys.map V.str)))
theorem kSortDc (hc : X.calm = true) : CallR X (.builtin "sorted") rSortDc := call_sortedD hc
end
section
variable {σ : L2.St} {H : Hp} {Q : VK} {D : Ends} {td ty tv te : TE}
theorem r_dget (q : td σ H fun x H1 => ty σ H1 fun y H2 => ∃ a v, x = .ref a ∧ DGet H2 a y (some v) ∧ Q v H2) : tDGet td ty σ H Q := q
theorem r_ddel (q : td σ H fun x H1 => ty σ H1 fun y H2 => ∃ a kvs k, x = .ref a ∧ H2 a = some (.dK kvs) ∧ y = kV k ∧ (valV kvs k).isSome = true ∧ D.nx σ (upd H2 a (.dK (dropK kvs k)))) : sDDel td ty D σ H := q
theorem r_setDc {a : Addr} {kvs : List (Key × V)} {k : Key} {v : V} {R : Hp → Prop} (hd : H a = some (.dK kvs)) (hl : kvs.length < 1000) (q : R (upd H a (.dK (putK kvs k v)))) : rSetD (.ref a) (kV k) v H R := ⟨a, _, rfl, .inl ⟨kvs, k, hd, rfl, by rw [sizeLine_eq]; omega, rfl⟩, q⟩
end
end G
/-! ### points around a closed path -/
namespace G
open PySem PySem.Spec PyProof.Rows L2
abbrev Pt := Int × Int
def atC (ps : List Pt) (i : Nat) : Pt := ps.getD i (0, 0)
def nxt (ps : List Pt) (i : Nat) : Pt := atC ps ((i + 1) % ps.length)
def prv (ps : List Pt) (i : Nat) : Pt := atC ps ((i + ps.length - 1) % ps.length)
theorem atC_of {ps : List Pt} {i : Nat} {p : Pt} (h : ps[i]? = some p) : atC ps i = p := by
  unfold atC
  rw [List.getD_eq_getElem?_getD, h]; rfl
theorem atC_get {ps : List Pt} {i : Nat} (h : i < ps.length) : ps[i]? = some (atC ps i) := by
  unfold atC
  rw [List.getD_eq_getElem?_getD, List.getElem?_eq_getElem h]; rfl
theorem atC_mem {ps : List Pt} {i : Nat} (h : i < ps.length) : atC ps i ∈ ps := List.mem_of_getElem? (atC_get h)
theorem nxt_mem {ps : List Pt} {i : Nat} (h : 0 < ps.length) : nxt ps i ∈ ps := atC_mem (Nat.mod_lt _ h)
theorem prv_mem {ps : List Pt} {i : Nat} (h : 0 < ps.length) : prv ps i ∈ ps := atC_mem (Nat.mod_lt _ h)
/-- Python's items at i - 1, at (i + 1) % n -/
theorem atI_prv {α : Type} {xs : List α} {i : Nat} (h : i < xs.length) : atI xs ((i : Int) - 1) = xs[(i + xs.length - 1) % xs.length]? := by
  by_cases h0 : i = 0
  · subst h0
    have e : (0 + xs.length - 1) % xs.length = xs.length - 1 := by
      rw [Nat.zero_add]; exact Nat.mod_eq_of_lt (by omega)
    rw [e]
    have hne : xs ≠ [] := fun z => by subst z; simp at h
    have ex : xs = xs.dropLast ++ [xs.getLast hne] := (List.dropLast_concat_getLast hne).symm
    have e1 : xs[xs.length - 1]? = some (xs.getLast hne) := by
      rw [← List.getLast?_eq_getElem?, List.getLast?_eq_some_getLast hne]
    rw [e1, show (((0 : Nat) : Int) - 1) = -1 from rfl]
    have e2 := atI_last xs.dropLast (xs.getLast hne)
    rwa [← ex] at e2
  · have e : (i + xs.length - 1) % xs.length = i - 1 := by
      rw [show i + xs.length - 1 = (i - 1) + xs.length by omega, Nat.add_mod_right]; exact Nat.mod_eq_of_lt (by omega)
    rw [e]
    have e2 : ((i : Int) - 1) = ((i - 1 : Nat) : Int) := by omega
    rw [e2]
    have hx : xs[i - 1]? = some (xs[i - 1]'(by omega)) := List.getElem?_eq_getElem (by omega)
    rw [hx]
    exact atI_nat hx
theorem emod_nat (i n : Nat) : ((i : Int) + 1) % (n : Int) = (((i + 1) % n : Nat) : Int) := by
  rw [Int.natCast_emod]; rfl
theorem atI_nxt {α : Type} {xs : List α} {i : Nat} (h : i < xs.length) : atI xs (((i : Int) + 1) % (xs.length : Int)) = xs[(i + 1) % xs.length]? := by
  rw [emod_nat]
  have hl : (i + 1) % xs.length < xs.length := Nat.mod_lt _ (by omega)
  rw [List.getElem?_eq_getElem hl]
  exact atI_nat (List.getElem?_eq_getElem hl)
/-- all coordinates have fewer than n bits -/
def AllBd (n : Nat) (ps : List Pt) : Prop := ∀ p ∈ ps, PBd n p
theorem PBd.mono {n m : Nat} {p : Pt} (h : PBd n p) (l : n ≤ m) : PBd m p := ⟨h.1.mono l, h.2.mono l⟩
def dif (q p : Pt) : Pt := (q.1 - p.1, q.2 - p.2)
theorem PBd.dif {n : Nat} {p q : Pt} (h : PBd n p) (k : PBd n q) : PBd (n + 1) (dif p q) := ⟨h.1.sub k.1, h.2.sub k.2⟩
section
variable {K : PySem.W.Frag} {H : Hp}
theorem hds_prv {xs : List V} {ps : List Pt} {i : Nat} (h : Hds K H xs ps) (hi : i < xs.length) : ∃ v, atI xs ((i : Int) - 1) = some v ∧ Hd K H v (prv ps i) := by
  have hl := h.length
  have hm : (i + xs.length - 1) % xs.length < xs.length := Nat.mod_lt _ (by omega)
  rw [atI_prv hi]
  refine ⟨xs[(i + xs.length - 1) % xs.length], List.getElem?_eq_getElem hm, ?_⟩
  obtain ⟨p, hp, hv⟩ := h.at' (List.getElem?_eq_getElem hm)
  have e : prv ps i = p := by unfold prv; rw [← hl]; exact atC_of hp
  rw [e]; exact hv
theorem hds_nxt {xs : List V} {ps : List Pt} {i : Nat} (h : Hds K H xs ps) (hi : i < xs.length) : ∃ v, atI xs (((i : Int) + 1) % (xs.length : Int)) = some v ∧ Hd K H v (nxt ps i) := by
  have hl := h.length
  have hm : (i + 1) % xs.length < xs.length := Nat.mod_lt _ (by omega)
  rw [atI_nxt hi]
  refine ⟨xs[(i + 1) % xs.length], List.getElem?_eq_getElem hm, ?_⟩
  obtain ⟨p, hp, hv⟩ := h.at' (List.getElem?_eq_getElem hm)
  have e : nxt ps i = p := by unfold nxt; rw [← hl]; exact atC_of hp
  rw [e]; exact hv
theorem hds_at {xs : List V} {ps : List Pt} {i : Nat} {x : V} (h : Hds K H xs ps) (e : xs[i]? = some x) : Hd K H x (atC ps i) := by
  obtain ⟨p, hp, hv⟩ := h.at' e
  rw [atC_of hp]; exact hv
/-- a list or tuple of points -/
def PSq (K : PySem.W.Frag) (H : Hp) (v : V) (ps : List Pt) : Prop := ∃ a xs, v = .ref a ∧ SqS K H a xs ∧ Hds K H xs ps
theorem PSq.same {H' : Hp} {v : V} {ps : List Pt} (h : PSq K H v ps) (s : Same H H') : PSq K H' v ps := by
  obtain ⟨a, xs, rfl, h1, h2⟩ := h
  exact ⟨a, xs, rfl, h1.same s, h2.same s⟩
end
end G

/-! ### plain facts about closed paths: the order of points, areas, turning and shifting the corners -/
namespace G
open PySem PySem.Spec PyProof.Rows L2 PySem.W
def crsP (a b : Pt) : Int := a.1 * b.2 - a.2 * b.1
/-- consecutive pairs -/
def cons2 : List Pt → List (Pt × Pt)
  | a :: b :: l => (a, b) :: cons2 (b :: l)
  | _ => []
def pth : List Pt → Int
  | a :: b :: l => crsP a b + pth (b :: l)
  | _ => 0
theorem pth_cons2 : ∀ l : List Pt, pth l = ((cons2 l).map fun e => crsP e.1 e.2).sum
  | [] => rfl
  | [_] => rfl
  | a :: b :: l => by
    rw [pth, cons2, List.map_cons, List.sum_cons, pth_cons2 (b :: l)]
theorem pth_app : ∀ (l : List Pt) (a : Pt) (m : List Pt), pth (l ++ a :: m) = pth (l ++ [a]) + pth (a :: m)
  | [], a, m => by
    show pth (a :: m) = pth [a] + _
    rw [show pth [a] = 0 from rfl, Int.zero_add]
  | [b], a, m => by
    show crsP b a + pth (a :: m) = crsP b a + pth [a] + _
    rw [show pth [a] = 0 from rfl, Int.add_zero]
  | b :: c :: l, a, m => by
    show crsP b c + pth (c :: l ++ a :: m) = crsP b c + pth (c :: l ++ [a]) + _
    rw [pth_app (c :: l) a m, Int.add_assoc]
theorem crs_swap (a b : Pt) : crsP b a = -crsP a b := by
  unfold crsP; grind
theorem pth_rev : ∀ l : List Pt, pth l.reverse = -pth l
  | [] => rfl
  | [_] => rfl
  | a :: b :: l => by
    rw [List.reverse_cons, List.reverse_cons, List.append_assoc]
    show pth (l.reverse ++ b :: [a]) = _
    rw [pth_app, ← List.reverse_cons, pth_rev (b :: l)]
    show _ + (crsP b a + 0) = -(crsP a b + _)
    rw [crs_swap a b]; omega
/-- twice the signed area of a closed path -/
def are : List Pt → Int
  | [] => 0
  | p :: l => pth (p :: l ++ [p])
theorem are_rot1 (p : Pt) (l : List Pt) : are (l ++ [p]) = are (p :: l) := by
  cases l with
  | nil => rfl
  | cons q l =>
    show pth (q :: l ++ [p] ++ [q]) = pth (p :: q :: l ++ [p])
    rw [List.append_assoc]
    show pth ((q :: l) ++ p :: [q]) = crsP p q + pth (q :: l ++ [p])
    rw [pth_app]
    show _ + (crsP p q + 0) = _
    omega
theorem are_rot : ∀ (l m : List Pt), are (l ++ m) = are (m ++ l)
  | [], m => by rw [List.nil_append, List.append_nil]
  | p :: l, m => by
    have e := are_rot1 p (l ++ m)
    have i := are_rot l (m ++ [p])
    rw [List.append_assoc, List.singleton_append] at i
    rw [List.cons_append, ← e, List.append_assoc, i]
theorem are_rev : ∀ l : List Pt, are l.reverse = -are l
  | [] => rfl
  | p :: l => by
    rw [List.reverse_cons, are_rot1]
    show pth (p :: l.reverse ++ [p]) = -pth (p :: l ++ [p])
    rw [← pth_rev, List.reverse_append]
    show _ = pth ([p] ++ (p :: l).reverse)
    rw [List.reverse_cons]
    rfl
theorem cons2_len : ∀ l : List Pt, (cons2 l).length = l.length - 1
  | [] => rfl
  | [_] => rfl
  | a :: b :: l => by
    rw [cons2, List.length_cons, cons2_len (b :: l)]
    simp
theorem cons2_get : ∀ (l : List Pt) (i : Nat) (p q : Pt), l[i]? = some p → l[i + 1]? = some q → (cons2 l)[i]? = some (p, q)
  | [], _, _, _, h, _ => by simp at h
  | [_], i, _, _, _, h => by simp at h
  | a :: b :: l, 0, p, q, h1, h2 => by
    simp at h1 h2
    subst h1 h2
    rfl
  | a :: b :: l, i + 1, p, q, h1, h2 => by
    rw [cons2, List.getElem?_cons_succ]
    exact cons2_get (b :: l) i p q (by simpa using h1) (by simpa using h2)
/-- shifted by j places -/
def rot (j : Nat) (l : List Pt) : List Pt := l.drop j ++ l.take j
theorem are_rotj (j : Nat) (l : List Pt) : are (rot j l) = are l := by
  unfold rot
  rw [← are_rot, List.take_append_drop]
theorem rot_perm (j : Nat) (l : List Pt) : (rot j l).Perm l := by
  unfold rot
  have h : (l.drop j ++ l.take j).Perm (l.take j ++ l.drop j) := List.perm_append_comm
  rwa [List.take_append_drop] at h
/-- the first place of p -/
def idx (p : Pt) : List Pt → Nat
  | [] => 0
  | q :: l => if q = p then 0 else idx p l + 1
theorem idx_eq {p : Pt} : ∀ {l : List Pt} {j : Nat}, l[j]? = some p → (∀ m, m < j → l[m]? ≠ some p) → idx p l = j
  | [], j, h, _ => by simp at h
  | q :: l, 0, h, _ => by
    have h : q = p := by simpa using h
    rw [idx, if_pos h]
  | q :: l, j + 1, h, hn => by
    have h0 : q ≠ p := fun z => hn 0 (by omega) (by simp [z])
    rw [idx, if_neg h0, idx_eq (l := l) (j := j) (by simpa using h) fun m hm => by
      have := hn (m + 1) (by omega)
      simpa using this]
theorem idx_mem {p : Pt} : ∀ {l : List Pt}, p ∈ l → l[idx p l]? = some p ∧ ∀ m, m < idx p l → l[m]? ≠ some p
  | q :: l, h => by
    rw [idx]
    by_cases e : q = p
    · rw [if_pos e]
      exact ⟨by simp [e], fun m hm => absurd hm (Nat.not_lt_zero _)⟩
    · rw [if_neg e]
      obtain ⟨h1, h2⟩ := idx_mem (l := l) ((List.mem_cons.mp h).resolve_left fun z => e z.symm)
      refine ⟨by simpa using h1, fun m hm => ?_⟩
      cases m with
      | zero => simpa using e
      | succ m => simpa using h2 m (by omega)
/-! the order of points -/
def ltPt (p q : Pt) : Prop := p.1 < q.1 ∨ (p.1 = q.1 ∧ p.2 < q.2)
instance (p q : Pt) : Decidable (ltPt p q) := by unfold ltPt; infer_instance
theorem dataLt_pt (p q : Pt) : dataLt (Datum.toD p) (Datum.toD q) = decide (ltPt p q) := dataLt_ii p.1 p.2 q.1 q.2
theorem dataLe_pt (p q : Pt) : dataLe false Datum.toD p q = decide (¬ ltPt q p) := by
  show (!dataLt (Datum.toD q) (Datum.toD p)) = _
  rw [dataLt_pt, decide_not]
theorem ltPt_tri {p q : Pt} (h1 : ¬ ltPt p q) (h2 : ¬ ltPt q p) : p = q := by
  unfold ltPt at h1 h2
  exact Prod.ext (by omega) (by omega)
theorem leP_trans (p q r : Pt) (h1 : dataLe false Datum.toD p q = true) (h2 : dataLe false Datum.toD q r = true) : dataLe false Datum.toD p r = true := by
  rw [dataLe_pt] at h1 h2 ⊢
  have h1 := of_decide_eq_true h1
  have h2 := of_decide_eq_true h2
  refine decide_eq_true ?_
  unfold ltPt at *
  omega
theorem leP_total (p q : Pt) : (dataLe false Datum.toD p q || dataLe false Datum.toD q p) = true := by
  rw [dataLe_pt, dataLe_pt]
  by_cases h : ltPt q p
  · have h2 : ¬ ltPt p q := by unfold ltPt at *; omega
    simp [h, h2]
  · simp [h]
theorem perm_sorted {α : Type} {le : α → α → Bool} (anti : ∀ x y, le x y = true → le y x = true → x = y) : ∀ {a b : List α}, a.Perm b → a.Pairwise (fun x y => le x y = true) → b.Pairwise (fun x y => le x y = true) → a = b
  | [], b, h, _, _ => (List.nil_perm.mp h).symm
  | x :: a, [], h, _, _ => absurd h.length_eq (by simp)
  | x :: a, y :: b, h, ha, hb => by
    obtain ⟨a1, a2⟩ := List.pairwise_cons.mp ha
    obtain ⟨b1, b2⟩ := List.pairwise_cons.mp hb
    have e : x = y := by
      rcases List.mem_cons.mp (h.mem_iff.mp List.mem_cons_self) with e | hx
      · exact e
      · rcases List.mem_cons.mp (h.mem_iff.mpr List.mem_cons_self) with e | hy
        · exact e.symm
        · exact anti x y (a1 y hy) (b1 x hx)
    subst e
    rw [perm_sorted anti h.cons_inv a2 b2]
theorem sort_perm {a b : List Pt} (h : a.Perm b) : sortH a = sortH b := by
  refine perm_sorted (le := dataLe false Datum.toD) (fun x y h1 h2 => ?_) (((List.mergeSort_perm a _).trans h).trans (List.mergeSort_perm b _).symm) (List.pairwise_mergeSort leP_trans leP_total a) (List.pairwise_mergeSort leP_trans leP_total b)
  rw [dataLe_pt] at h1 h2
  exact ltPt_tri (of_decide_eq_true h2) (of_decide_eq_true h1)
theorem alike_pt (p q : Pt) : alike (Datum.toD p) (Datum.toD q) = true := by
  show alike (.tuple [.int p.1, .int p.2]) (.tuple [.int q.1, .int q.2]) = true
  simp [alike, alikeAll]
theorem allAlike_pts (ps : List Pt) : AllAlike (ps.map Datum.toD) := by
  intro d hd d' hd'
  obtain ⟨p, _, rfl⟩ := List.mem_map.mp hd
  obtain ⟨q, _, rfl⟩ := List.mem_map.mp hd'
  exact alike_pt p q
theorem sortable_pts (ps : List Pt) : PySem.W.Sortable (ps.map Datum.toD) := by
  refine .inl fun d hd => ?_
  obtain ⟨p, _, rfl⟩ := List.mem_map.mp hd
  exact ⟨.int p.1, [.int p.2], rfl⟩
/-! segments -/
def trnP (a b c : Pt) : Int := (b.1 - a.1) * (c.2 - b.2) - (b.2 - a.2) * (c.1 - b.1)
def inB (x l h : Int) : Bool := decide (min l h ≤ x) && decide (x ≤ max l h)
def onP (p a b : Pt) : Bool := decide (trnP a b p = 0) && (inB p.1 a.1 b.1 && inB p.2 a.2 b.2)
/-- as the laws say it -/
def meetL (a b c d : Pt) : Bool := (onP a c d || (onP b c d || (onP c a b || onP d a b))) || (decide (decide (trnP a b c > 0) ≠ decide (trnP a b d > 0)) && decide (decide (trnP c d a > 0) ≠ decide (trnP c d b > 0)))
/-- as the program says it -/
def meetP (a b c d : Pt) : Bool := (decide (trnP a b c * trnP a b d < 0) && decide (trnP c d a * trnP c d b < 0)) || (onP c a b || (onP d a b || (onP a c d || onP b c d)))
theorem inB_iff {x l h : Int} : inB x l h = true ↔ min l h ≤ x ∧ x ≤ max l h := by
  unfold inB
  rw [Bool.and_eq_true, decide_eq_true_iff, decide_eq_true_iff]
/-- not of one sign, not both 0 -/
def Opp (t s : Int) : Prop := (0 ≤ t ∧ s ≤ 0 ∧ (t ≠ 0 ∨ s ≠ 0)) ∨ (t ≤ 0 ∧ 0 ≤ s ∧ (t ≠ 0 ∨ s ≠ 0))
theorem opp_dec {t s : Int} (h : ¬ decide (t > 0) = decide (s > 0)) : Opp t s := by
  unfold Opp
  by_cases h1 : t > 0 <;> by_cases h2 : s > 0
  · exact absurd (by rw [decide_eq_true h1, decide_eq_true h2]) h
  · omega
  · omega
  · exact absurd (by rw [decide_eq_false h1, decide_eq_false h2]) h
theorem opp1 {t s u v : Int} (ht : 0 ≤ t) (hs : s ≤ 0) (hn : t ≠ 0 ∨ s ≠ 0) (e : t * u = s * v) : ¬ (0 < u ∧ 0 < v) ∧ ¬ (u < 0 ∧ v < 0) := by
  by_cases h0 : t = 0
  · subst h0
    rw [Int.zero_mul] at e
    rcases Int.mul_eq_zero.mp e.symm with z | z
    · omega
    · omega
  have ht : 0 < t := by omega
  constructor
  · rintro ⟨hu, hv⟩
    have h1 : 0 < t * u := Int.mul_pos ht hu
    have h2 : s * v ≤ 0 := Int.mul_nonpos_of_nonpos_of_nonneg hs (by omega)
    omega
  · rintro ⟨hu, hv⟩
    have h1 : t * u < 0 := Int.mul_neg_of_pos_of_neg ht hu
    have h2 : 0 ≤ s * v := Int.mul_nonneg_of_nonpos_of_nonpos hs (by omega)
    omega
theorem opp2 {t s u v : Int} (h : Opp t s) (e : t * u = s * v) : ¬ (0 < u ∧ 0 < v) ∧ ¬ (u < 0 ∧ v < 0) := by
  rcases h with ⟨h1, h2, h3⟩ | ⟨h1, h2, h3⟩
  · exact opp1 h1 h2 h3 e
  · have := opp1 h2 h1 (by omega) e.symm
    omega
theorem side1 (a b c d : Pt) : trnP c d a * (b.1 - c.1) - trnP c d b * (a.1 - c.1) = -(trnP a b c * (d.1 - c.1)) := by
  unfold trnP; grind
theorem side2 (a b c d : Pt) : trnP c d a * (b.2 - c.2) - trnP c d b * (a.2 - c.2) = -(trnP a b c * (d.2 - c.2)) := by
  unfold trnP; grind
theorem on_of_sides {a b c d : Pt} (h0 : trnP a b c = 0) (h : Opp (trnP c d a) (trnP c d b)) : onP c a b = true := by
  have e1 := side1 a b c d
  have e2 := side2 a b c d
  rw [h0, Int.zero_mul] at e1 e2
  have k1 := opp2 h (u := b.1 - c.1) (v := a.1 - c.1) (by omega)
  have k2 := opp2 h (u := b.2 - c.2) (v := a.2 - c.2) (by omega)
  unfold onP
  rw [h0, decide_eq_true rfl, Bool.true_and, Bool.and_eq_true, inB_iff, inB_iff]
  omega
theorem trn_cyc (a b c : Pt) : trnP b a c = -trnP a b c := by
  unfold trnP; grind
theorem inB_swap (x l h : Int) : inB x h l = inB x l h := by
  unfold inB
  rw [Int.min_comm, Int.max_comm]
theorem onP_swap (p a b : Pt) : onP p b a = onP p a b := by
  unfold onP
  rw [inB_swap, inB_swap p.2, trn_cyc]
  congr 1
  exact decide_eq_decide.mpr (by omega)
theorem neg_of_opp {t s : Int} (h : Opp t s) (h1 : t ≠ 0) (h2 : s ≠ 0) : t * s < 0 := by
  rcases h with ⟨a, b, _⟩ | ⟨a, b, _⟩
  · exact Int.mul_neg_of_pos_of_neg (by omega) (by omega)
  · exact Int.mul_neg_of_neg_of_pos (by omega) (by omega)
theorem opp_of_neg {t s : Int} (h : t * s < 0) : ¬ decide (t > 0) = decide (s > 0) := by
  intro e
  by_cases h1 : t > 0 <;> by_cases h2 : s > 0
  · have := Int.mul_pos h1 h2; omega
  · rw [decide_eq_true h1, decide_eq_false h2] at e; cases e
  · rw [decide_eq_false h1, decide_eq_true h2] at e; cases e
  · have := Int.mul_nonneg_of_nonpos_of_nonpos (show t ≤ 0 by omega) (show s ≤ 0 by omega); omega
theorem meet_eq (a b c d : Pt) : meetL a b c d = meetP a b c d := by
  unfold meetL meetP
  cases h1 : onP c a b with
  | true => simp
  | false =>
  cases h2 : onP d a b with
  | true => simp
  | false =>
  cases h3 : onP a c d with
  | true => simp
  | false =>
  cases h4 : onP b c d with
  | true => simp
  | false =>
  simp only [Bool.or_self, Bool.false_or, Bool.or_false]
  rw [Bool.eq_iff_iff, Bool.and_eq_true, Bool.and_eq_true, decide_eq_true_iff, decide_eq_true_iff, decide_eq_true_iff, decide_eq_true_iff]
  constructor
  · rintro ⟨hx, hy⟩
    have ox := opp_dec hx
    have oy := opp_dec hy
    have n1 : trnP a b c ≠ 0 := fun z => by rw [on_of_sides z oy] at h1; cases h1
    have n2 : trnP a b d ≠ 0 := fun z => by
      rw [on_of_sides z (d := c) (by rw [trn_cyc c d a, trn_cyc c d b]; unfold Opp at oy ⊢; omega)] at h2; cases h2
    have n3 : trnP c d a ≠ 0 := fun z => by rw [on_of_sides z ox] at h3; cases h3
    have n4 : trnP c d b ≠ 0 := fun z => by
      rw [on_of_sides z (d := a) (by rw [trn_cyc a b c, trn_cyc a b d]; unfold Opp at ox ⊢; omega)] at h4; cases h4
    exact ⟨neg_of_opp ox n1 n2, neg_of_opp oy n3 n4⟩
  · rintro ⟨hx, hy⟩
    exact ⟨opp_of_neg hx, opp_of_neg hy⟩
end G

/-! ### closed paths: turns, meetings, areas, the corners as they are kept -/
namespace G
open PySem PySem.Spec PyProof.Rows L2
def trn (a b c : Pt) : Int := crs (dif b a) (dif c b)
def tri0 (ps : List Pt) (i : Nat) : Int := trn (prv ps i) (atC ps i) (nxt ps i)
def btw1 (x l h : Int) : Bool := decide (min l h ≤ x) && decide (x ≤ max l h)
def btw (p a b : Pt) : Bool := btw1 p.1 a.1 b.1 && btw1 p.2 a.2 b.2
def onS (p a b : Pt) : Bool := decide (trn a b p = 0) && btw p a b
theorem trn_bd {a b c : Pt} (ha : PBd 40000 a) (hb : PBd 40000 b) (hc : PBd 40000 c) : Bd 90000 (trn a b c) := by
  have h1 := hb.dif ha
  have h2 := hc.dif hb
  exact ((h1.1.mul h2.2).sub (h1.2.mul h2.1)).mono (by decide)
def meetS (a b c d : Pt) : Bool := (decide (trn a b c * trn a b d < 0) && decide (trn c d a * trn c d b < 0)) || (onS c a b || (onS d a b || (onS a c d || onS b c d)))
abbrev Ed := Pt × Pt
def edgs (ps : List Pt) : List Ed := (List.range ps.length).map fun i => (atC ps i, nxt ps i)
def crossB (ps : List Pt) (i j : Nat) : Bool := decide ((j + 1) % ps.length ≠ i) && meetS (atC ps i) (nxt ps i) (atC ps j) (nxt ps j)
def areaL (es : List Ed) : Int := (es.map fun e => crs e.1 e.2).sum
theorem edgs_cons2 (p : Pt) (l : List Pt) : edgs (p :: l) = cons2 (p :: l ++ [p]) := by
  have hl : (edgs (p :: l)).length = l.length + 1 := by unfold edgs; rw [List.length_map, List.length_range, List.length_cons]
  have hc : (cons2 (p :: l ++ [p])).length = l.length + 1 := by rw [cons2_len]; simp
  refine List.ext_getElem? fun i => ?_
  rcases Nat.lt_or_ge i (l.length + 1) with hi | hi
  · have e1 : (edgs (p :: l))[i]? = some (atC (p :: l) i, nxt (p :: l) i) := by
      unfold edgs; rw [List.getElem?_map, List.getElem?_range (by simpa using hi)]; rfl
    rw [e1]
    refine (cons2_get _ i _ _ ?_ ?_).symm
    · rw [List.getElem?_append_left (by simpa using hi)]
      exact atC_get (by simpa using hi)
    · unfold nxt
      rcases Nat.lt_or_ge (i + 1) (l.length + 1) with h | h
      · rw [List.getElem?_append_left (by simpa using h), Nat.mod_eq_of_lt (by simpa using h)]
        exact atC_get (by simpa using h)
      · obtain rfl : i = l.length := by omega
        rw [List.getElem?_append_right (by simp), List.length_cons, Nat.mod_self]
        simp [atC]
  · rw [List.getElem?_eq_none (by omega), List.getElem?_eq_none (by omega)]
theorem area_are (ps : List Pt) : areaL (edgs ps) = are ps := by
  cases ps with
  | nil => rfl
  | cons p l =>
    unfold areaL
    rw [edgs_cons2]
    exact (pth_cons2 (p :: l ++ [p])).symm
def spn (ps : List Pt) : List Pt := if 0 < are ps then ps else ps.reverse
def minPt : List Pt → Pt
  | [] => (0, 0)
  | p :: qs => minP p qs
def arr (ps : List Pt) : List Pt := rot (idx (minPt (spn ps)) (spn ps)) (spn ps)
theorem spn_len (ps : List Pt) : (spn ps).length = ps.length := by
  unfold spn; split
  · rfl
  · exact List.length_reverse
theorem arr_len (ps : List Pt) : (arr ps).length = ps.length := by
  unfold arr
  rw [(rot_perm _ _).length_eq, spn_len]
theorem spn_perm (ps : List Pt) : (spn ps).Perm ps := by
  unfold spn; split
  · exact List.Perm.refl _
  · exact List.reverse_perm ps
theorem arr_perm (ps : List Pt) : (arr ps).Perm ps := (rot_perm _ _).trans (spn_perm ps)
theorem arr_are (ps : List Pt) : are (arr ps) = ((are ps).natAbs : Int) := by
  unfold arr
  rw [are_rotj]
  unfold spn
  split
  · omega
  · rw [are_rev]; omega
theorem arr_bd {n : Nat} {ps : List Pt} (h : AllBd n ps) : AllBd n (arr ps) := fun p hp => h p ((arr_perm ps).mem_iff.mp hp)
theorem minP_mem : ∀ (qs : List Pt) (p : Pt), minP p qs ∈ p :: qs
  | [], p => List.mem_cons_self
  | y :: qs, p => by
    have h := minP_mem qs (if PySem.W.dataLt (PySem.W.Datum.toD y) (PySem.W.Datum.toD p) then y else p)
    show minP (if PySem.W.dataLt (PySem.W.Datum.toD y) (PySem.W.Datum.toD p) then y else p) qs ∈ _
    rcases List.mem_cons.mp h with h | h
    · rw [h]
      split
      · exact List.mem_cons_of_mem _ List.mem_cons_self
      · exact List.mem_cons_self
    · exact List.mem_cons_of_mem _ (List.mem_cons_of_mem _ h)
inductive Cin where
  | pts (ps : List Pt)
  | bad (o : Option Nat)
def posV : Option Nat → V
  | none => .non
  | some i => .int (i : Int)
def NoDeg (ps : List Pt) : Prop := ∀ i, i < ps.length → tri0 ps i ≠ 0
def DegAt (ps : List Pt) (i : Nat) : Prop := i < ps.length ∧ tri0 ps i = 0 ∧ ∀ j, j < i → tri0 ps j ≠ 0
def CrsAt (ps : List Pt) (i j : Nat) : Prop := NoDeg ps ∧ i + 2 ≤ j ∧ j < ps.length ∧ crossB ps i j = true ∧ ∀ i' j', i' + 2 ≤ j' → j' < ps.length → (i' < i ∨ (i' = i ∧ j' < j)) → crossB ps i' j' = false
def Good (ps : List Pt) : Prop := NoDeg ps ∧ ∀ i j, i + 2 ≤ j → j < ps.length → crossB ps i j = false
def reflex (ps : List Pt) : Option Nat := (List.range ps.length).find? fun i => decide (tri0 ps i < 0)
theorem reflex_none {ps : List Pt} (h : ∀ i, i < ps.length → ¬ tri0 ps i < 0) : reflex ps = none := by
  unfold reflex
  rw [List.find?_eq_none]
  intro i hi
  simpa using h i (List.mem_range.mp hi)
theorem find_range {p : Nat → Bool} : ∀ {n i : Nat}, i < n → p i = true → (∀ j, j < i → p j = false) → (List.range n).find? p = some i := by
  intro n i hi h1 h2
  rw [List.find?_eq_some_iff_getElem]
  exact ⟨h1, i, by simpa using hi, by simp, fun j hj => by simp [h2 j hj]⟩
theorem reflex_some {ps : List Pt} {i : Nat} (hi : i < ps.length) (h : tri0 ps i < 0) (hn : ∀ j, j < i → ¬ tri0 ps j < 0) : reflex ps = some i :=
  find_range hi (decide_eq_true h) fun j hj => decide_eq_false (hn j hj)
theorem r_mid {te : TE} {σ : L2.St} {H : Hp} {Q : VK} (M : V → Hp → Prop) (h1 : ∀ Q' : VK, (∀ v H1, M v H1 → Q' v H1) → te σ H Q') (h2 : ∀ v H1, M v H1 → Q v H1) : te σ H Q := h1 Q h2
theorem r_chain {r r' : R2} {ta tb tc : TE} {σ : L2.St} {H : Hp} {Q : VK} (q : ta σ H fun x H1 => tb σ H1 fun y H2 => r x y H2 fun z H3 => ∃ k, z = .bl k ∧ (if k = true then tc σ H3 fun w' H4 => r' y w' H4 Q else Q (.bl false) H3)) : tChain r r' ta tb tc σ H Q := q
theorem if_ff {A B : Prop} (h : B) : if false = true then A else B := h
def co (p : Pt) (i : Nat) : Int := if i = 0 then p.1 else p.2
theorem at_co (p : Pt) {i : Nat} (h : i < 2) : atI [V.int p.1, V.int p.2] (i : Int) = some (.int (co p i)) := by
  rcases (show i = 0 ∨ i = 1 by omega) with rfl | rfl <;> rfl
theorem meetS_eq (a b c d : Pt) : meetS a b c d = meetL a b c d := (meet_eq a b c d).symm
theorem dec_bl (x y : Bool) : decide (V.bl x = V.bl y) = decide (x = y) := by
  cases x <;> cases y <;> rfl
theorem meet_on {a b c d : Pt} (h : onS a c d = true ∨ onS b c d = true ∨ onS c a b = true ∨ onS d a b = true) : meetS a b c d = true := by
  unfold meetS
  rcases h with h | h | h | h <;> simp [h]
theorem meet_off {a b c d : Pt} (h1 : onS a c d = false) (h2 : onS b c d = false) (h3 : onS c a b = false) (h4 : onS d a b = false) : meetS a b c d = (decide (decide (trnP a b c > 0) ≠ decide (trnP a b d > 0)) && decide (decide (trnP c d a > 0) ≠ decide (trnP c d b > 0))) := by
  rw [meetS_eq]
  unfold meetL
  rw [show onP a c d = false from h1, show onP b c d = false from h2, show onP c a b = false from h3, show onP d a b = false from h4]
  rfl
inductive Outc where
  | ok
  | deg (i : Nat)
  | crs (i j : Nat)
def OutIs (ps : List Pt) : Outc → Prop
  | .ok => Good ps
  | .deg i => DegAt ps i
  | .crs i j => CrsAt ps i j
theorem out_uniq {ps : List Pt} : ∀ {o o' : Outc}, OutIs ps o → OutIs ps o' → o = o' := by
  intro o o' h h'
  cases o with
  | ok =>
    cases o' with
    | ok => rfl
    | deg i => exact absurd h'.2.1 (h.1 i h'.1)
    | crs i j => have := h.2 i j h'.2.1 h'.2.2.1; rw [h'.2.2.2.1] at this; cases this
  | deg i =>
    cases o' with
    | ok => exact absurd h.2.1 (h'.1 i h.1)
    | deg j =>
      rcases Nat.lt_trichotomy i j with z | rfl | z
      · exact absurd h.2.1 (h'.2.2 i z)
      · rfl
      · exact absurd h'.2.1 (h.2.2 j z)
    | crs j k => exact absurd h.2.1 (h'.1 i h.1)
  | crs i j =>
    cases o' with
    | ok => have := h'.2 i j h.2.1 h.2.2.1; rw [h.2.2.2.1] at this; cases this
    | deg k => exact absurd h'.2.1 (h.1 k h'.1)
    | crs i' j' =>
      have no : ¬ (i' < i ∨ (i' = i ∧ j' < j)) := fun z => by
        have := h.2.2.2.2 i' j' h'.2.1 h'.2.2.1 z; rw [h'.2.2.2.1] at this; cases this
      have no' : ¬ (i < i' ∨ (i = i' ∧ j < j')) := fun z => by
        have := h'.2.2.2.2 i j h.2.1 h.2.2.1 z; rw [h.2.2.2.1] at this; cases this
      have e1 : i = i' := by omega
      have e2 : j = j' := by omega
      rw [e1, e2]
def outD : Outc → PyData
  | .ok => .list [.str "none"]
  | .deg i => .list [.str "degenerate", .int (i : Int)]
  | .crs i j => .list [.str "crossing", .int (i : Int), .int (j : Int)]
def lawArea (ps : List Pt) (n : Nat) : Int := ((List.range n).map fun j => crs (prv ps j) (atC ps j)).sum
theorem lawArea_succ (ps : List Pt) (n : Nat) : lawArea ps (n + 1) = lawArea ps n + crs (prv ps n) (atC ps n) := by
  unfold lawArea
  rw [List.range_succ, List.map_append, List.sum_append]
  simp
theorem lawArea_eq (ps : List Pt) (h : 0 < ps.length) : lawArea ps ps.length = are ps := by
  have hne : ps ≠ [] := fun z => by subst z; simp at h
  obtain ⟨l, p, rfl⟩ : ∃ l p, ps = l ++ [p] := ⟨ps.dropLast, ps.getLast hne, (List.dropLast_concat_getLast hne).symm⟩
  have key : (List.range (l ++ [p]).length).map (fun j => (prv (l ++ [p]) j, atC (l ++ [p]) j)) = cons2 (p :: (l ++ [p])) := by
    refine List.ext_getElem? fun i => ?_
    have hlen : (l ++ [p]).length = l.length + 1 := by simp
    rcases Nat.lt_or_ge i (l.length + 1) with hi | hi
    · rw [List.getElem?_map, List.getElem?_range (by omega)]
      refine (cons2_get _ i _ _ ?_ ?_).symm
      · unfold prv
        rw [hlen]
        cases i with
        | zero =>
          rw [show (0 + (l.length + 1) - 1) % (l.length + 1) = l.length from by rw [Nat.zero_add, Nat.add_sub_cancel]; exact Nat.mod_eq_of_lt (Nat.lt_succ_self _)]
          rw [atC_of (p := p) (by simp)]; rfl
        | succ i =>
          rw [show (i + 1 + (l.length + 1) - 1) % (l.length + 1) = i from by
            rw [show i + 1 + (l.length + 1) - 1 = i + (l.length + 1) by omega, Nat.add_mod_right]; exact Nat.mod_eq_of_lt (by omega)]
          rw [List.getElem?_cons_succ]
          exact atC_get (by omega)
      · rw [List.getElem?_cons_succ]
        exact atC_get (by omega)
    · rw [List.getElem?_eq_none (by rw [List.length_map, List.length_range]; omega), List.getElem?_eq_none (by rw [cons2_len, List.length_cons]; omega)]
  have e : lawArea (l ++ [p]) (l ++ [p]).length = ((cons2 (p :: (l ++ [p]))).map fun e => crsP e.1 e.2).sum := by
    rw [← key, List.map_map]; rfl
  rw [e, ← pth_cons2, are_rot1]; rfl
theorem dr_put {H : Hp} {l D : Addr} {o : HO} (d : DrAt H l) (ne : D ≠ l) : DrAt (upd H D o) l := by
  obtain ⟨a, b, h, r⟩ := d
  exact ⟨a, b, by rw [upd_ne ne.symm]; exact h, r⟩
end G

/-! ### grid maps as six integers -/
namespace G
open PySem PySem.Spec PyProof.Rows L2
structure M6 where
  a : Int
  b : Int
  c : Int
  d : Int
  e : Int
  f : Int
deriving DecidableEq
namespace M6
def det (m : M6) : Int := m.a * m.d - m.b * m.c
def Ok (m : M6) : Prop := m.det = 1 ∨ m.det = -1
def nums (m : M6) : List Int := [m.a, m.b, m.c, m.d, m.e, m.f]
def vals (m : M6) : List V := [.int m.a, .int m.b, .int m.c, .int m.d, .int m.e, .int m.f]
def one : M6 := ⟨1, 0, 0, 1, 0, 0⟩
/-- first m, then n -/
def comp (m n : M6) : M6 := ⟨n.a * m.a + n.b * m.c, n.a * m.b + n.b * m.d, n.c * m.a + n.d * m.c, n.c * m.b + n.d * m.d, n.a * m.e + n.b * m.f + n.e, n.c * m.e + n.d * m.f + n.f⟩
def inv (m : M6) : M6 := ⟨m.det * m.d, -m.det * m.b, -m.det * m.c, m.det * m.a, -(m.det * m.d * m.e + -m.det * m.b * m.f), -(-m.det * m.c * m.e + m.det * m.a * m.f)⟩
def pow (m : M6) : Nat → M6
  | 0 => one
  | k + 1 => (m.pow k).comp m
def img (m : M6) (p : Int × Int) : Int × Int := (m.a * p.1 + m.b * p.2 + m.e, m.c * p.1 + m.d * p.2 + m.f)
theorem ext' {m n : M6} (h : m.nums = n.nums) : m = n := by
  cases m; cases n
  simp only [nums, List.cons.injEq, and_true] at h
  obtain ⟨h1, h2, h3, h4, h5, h6⟩ := h
  subst h1 h2 h3 h4 h5 h6
  rfl
theorem det_comp (m n : M6) : (m.comp n).det = m.det * n.det := by
  simp only [det, comp]; grind
theorem ok_comp {m n : M6} (h : m.Ok) (k : n.Ok) : (m.comp n).Ok := by
  unfold Ok at *
  rw [det_comp]
  rcases h with h | h <;> rcases k with k | k <;> rw [h, k] <;> decide
theorem ok_sq {m : M6} (h : m.Ok) : m.det * m.det = 1 := by
  rcases h with h | h <;> rw [h] <;> decide
theorem det_inv (m : M6) : m.inv.det = m.det * m.det * m.det := by
  have : m.inv.det = m.det * m.det * (m.a * m.d - m.b * m.c) := by
    simp only [det, inv]; grind
  rw [this]; rfl
theorem ok_inv {m : M6} (h : m.Ok) : m.inv.Ok := by
  unfold Ok
  rw [det_inv, ok_sq h]
  rcases h with h | h <;> rw [h] <;> decide
theorem ok_one : one.Ok := .inl rfl
theorem comp_one (m : M6) : m.comp one = m := by
  cases m; simp [comp, one]
theorem one_comp (m : M6) : one.comp m = m := by
  cases m; simp [comp, one]
theorem comp_assoc (m n k : M6) : (m.comp n).comp k = m.comp (n.comp k) := by
  simp only [comp, mk.injEq]; refine ⟨?_, ?_, ?_, ?_, ?_, ?_⟩ <;> grind
theorem comp_inv {m : M6} (h : m.Ok) : m.comp m.inv = one := by
  have hd := ok_sq h
  simp only [comp, inv, one, mk.injEq]
  generalize e : m.det = s at *
  simp only [det] at e
  refine ⟨?_, ?_, ?_, ?_, ?_, ?_⟩ <;> grind
theorem inv_comp {m : M6} (h : m.Ok) : m.inv.comp m = one := by
  have hd := ok_sq h
  simp only [comp, inv, one, mk.injEq]
  generalize e : m.det = s at *
  simp only [det] at e
  refine ⟨?_, ?_, ?_, ?_, ?_, ?_⟩ <;> grind
theorem ok_pow {m : M6} (h : m.Ok) : ∀ k, (m.pow k).Ok
  | 0 => ok_one
  | k + 1 => ok_comp (ok_pow h k) h
theorem pow_one (m : M6) : m.pow 1 = m := one_comp m
theorem pow_add (m : M6) (i : Nat) : ∀ j, m.pow (i + j) = (m.pow i).comp (m.pow j)
  | 0 => (comp_one _).symm
  | j + 1 => by
    show (m.pow (i + j)).comp m = _
    rw [pow_add m i j, comp_assoc]
    rfl
theorem pow_sq (m : M6) : ∀ k, (m.comp m).pow k = m.pow (2 * k)
  | 0 => rfl
  | k + 1 => by
    show ((m.comp m).pow k).comp (m.comp m) = _
    rw [pow_sq m k, ← comp_assoc]
    rfl
/-- c first, then m, then back -/
def conj (c m : M6) : M6 := (c.comp m).comp c.inv
theorem ok_conj {c m : M6} (h : c.Ok) (k : m.Ok) : (c.conj m).Ok := ok_comp (ok_comp h k) (ok_inv h)
theorem conj_pow {c m : M6} (h : c.Ok) : ∀ k, (c.conj m).pow k = c.conj (m.pow k)
  | 0 => by
    show one = (c.comp one).comp c.inv
    rw [comp_one, comp_inv h]
  | k + 1 => by
    show ((c.conj m).pow k).comp (c.conj m) = _
    rw [conj_pow h k]
    show ((c.comp (m.pow k)).comp c.inv).comp ((c.comp m).comp c.inv) = (c.comp ((m.pow k).comp m)).comp c.inv
    rw [comp_assoc _ c.inv, ← comp_assoc c.inv, ← comp_assoc c.inv, inv_comp h, one_comp, ← comp_assoc, ← comp_assoc]
theorem conj_one {c m : M6} (h : c.Ok) : c.conj m = one ↔ m = one := by
  constructor
  · intro e
    have e2 : c.inv.comp ((c.conj m).comp c) = m := by
      show c.inv.comp (((c.comp m).comp c.inv).comp c) = m
      rw [comp_assoc _ c.inv, inv_comp h, comp_one, ← comp_assoc, inv_comp h, one_comp]
    rw [← e2, e, one_comp, inv_comp h]
  · rintro rfl
    show (c.comp one).comp c.inv = one
    rw [comp_one, comp_inv h]
/-! the least exponent up to n -/
def ordN (m : M6) : Nat → Nat → Option Nat
  | 0, _ => none
  | n + 1, k => if m.pow k = one then some k else ordN m n (k + 1)
theorem ordN_conj {c m : M6} (h : c.Ok) : ∀ n k, (c.conj m).ordN n k = m.ordN n k
  | 0, _ => rfl
  | n + 1, k => by
    unfold ordN
    rw [conj_pow h, ordN_conj h n]
    by_cases e : m.pow k = one
    · rw [if_pos e, if_pos ((conj_one h).mpr e)]
    · rw [if_neg e, if_neg (fun z => e ((conj_one h).mp z))]
theorem ordN_none {m : M6} : ∀ {n k}, (∀ j, k ≤ j → j < k + n → m.pow j ≠ one) → m.ordN n k = none
  | 0, _, _ => rfl
  | n + 1, k, h => by
    unfold ordN
    rw [if_neg (h k (Nat.le_refl _) (by omega))]
    exact ordN_none fun j h1 h2 => h j (by omega) (by omega)
theorem ordN_more {m : M6} : ∀ {n k p}, (∃ j, k ≤ j ∧ j < k + n ∧ m.pow j = one) → m.ordN (n + p) k = m.ordN n k
  | 0, k, p, ⟨j, h1, h2, _⟩ => by omega
  | n + 1, k, p, ⟨j, h1, h2, h3⟩ => by
    rw [show n + 1 + p = (n + p) + 1 by omega]
    unfold ordN
    by_cases e : m.pow k = one
    · rw [if_pos e, if_pos e]
    · rw [if_neg e, if_neg e]
      refine ordN_more ⟨j, ?_, by omega, h3⟩
      rcases Nat.lt_or_ge k j with h | h
      · exact h
      · have : j = k := by omega
        subst this
        exact absurd h3 e
/-! finite orders of integer maps -/
def us (t d : Int) : Nat → Int
  | 0 => 0
  | 1 => 1
  | k + 2 => t * us t d (k + 1) - d * us t d k
theorem lin_pow (m : M6) : ∀ k, (m.pow (k + 1)).a = us (m.a + m.d) m.det (k + 1) * m.a - m.det * us (m.a + m.d) m.det k ∧ (m.pow (k + 1)).b = us (m.a + m.d) m.det (k + 1) * m.b ∧
    (m.pow (k + 1)).c = us (m.a + m.d) m.det (k + 1) * m.c ∧ (m.pow (k + 1)).d = us (m.a + m.d) m.det (k + 1) * m.d - m.det * us (m.a + m.d) m.det k
  | 0 => by
    rw [pow_one]
    simp [us]
  | k + 1 => by
    obtain ⟨h1, h2, h3, h4⟩ := lin_pow m k
    have e : m.pow (k + 1 + 1) = (m.pow (k + 1)).comp m := rfl
    have u : us (m.a + m.d) m.det (k + 1 + 1) = (m.a + m.d) * us (m.a + m.d) m.det (k + 1) - m.det * us (m.a + m.d) m.det k := rfl
    rw [e, u]
    simp only [comp]
    rw [h1, h2, h3, h4]
    generalize us (m.a + m.d) m.det (k + 1) = x
    generalize us (m.a + m.d) m.det k = y
    simp only [det]
    refine ⟨?_, ?_, ?_, ?_⟩ <;> grind
theorem us_far {t : Int} (ht : t ≤ -2 ∨ 2 ≤ t) : ∀ k, (us t 1 k).natAbs < (us t 1 (k + 1)).natAbs
  | 0 => by show (0 : Int).natAbs < (1 : Int).natAbs; decide
  | k + 1 => by
    have h := us_far ht k
    show (us t 1 (k + 1)).natAbs < (t * us t 1 (k + 1) - 1 * us t 1 k).natAbs
    generalize us t 1 (k + 1) = x at *
    generalize us t 1 k = y at *
    have h2 : 2 * x.natAbs ≤ (t * x).natAbs := by
      rw [Int.natAbs_mul]
      exact Nat.mul_le_mul_right _ (by omega)
    omega
theorem us_neg {t : Int} (ht : t ≠ 0) : ∀ k, us t (-1) (k + 1) ≠ 0 ∧ 0 ≤ t * (us t (-1) (k + 1) * us t (-1) k)
  | 0 => ⟨by show (1 : Int) ≠ 0; decide, by show 0 ≤ t * (1 * 0); omega⟩
  | k + 1 => by
    obtain ⟨h1, h2⟩ := us_neg ht k
    have u : us t (-1) (k + 1 + 1) = t * us t (-1) (k + 1) - -1 * us t (-1) k := rfl
    rw [u]
    generalize us t (-1) (k + 1) = x at *
    generalize us t (-1) k = y at *
    have e : t * ((t * x - -1 * y) * x) = (t * x) * (t * x) + t * (x * y) := by grind
    have p : 0 < (t * x) * (t * x) := by
      have hne : t * x ≠ 0 := Int.mul_ne_zero ht h1
      rcases Int.lt_or_gt_of_ne hne with g | g
      · exact Int.mul_pos_of_neg_of_neg g g
      · exact Int.mul_pos g g
    have e2 : 0 < t * ((t * x - -1 * y) * x) := by omega
    refine ⟨fun z => ?_, by omega⟩
    rw [z] at e2
    simp at e2
theorem tr_pow {e f : Int} : ∀ k : Nat, (M6.mk 1 0 0 1 e f).pow k = ⟨1, 0, 0, 1, k * e, k * f⟩
  | 0 => by simp [pow, one]
  | k + 1 => by
    show ((M6.mk 1 0 0 1 e f).pow k).comp ⟨1, 0, 0, 1, e, f⟩ = _
    rw [tr_pow k]
    simp only [comp, mk.injEq]
    refine ⟨by omega, by omega, by omega, by omega, ?_, ?_⟩
    · push_cast; grind
    · push_cast; grind
theorem tr_fin {e f : Int} {k : Nat} (h : (M6.mk 1 0 0 1 e f).pow (k + 1) = one) : e = 0 ∧ f = 0 := by
  rw [tr_pow] at h
  simp only [one, mk.injEq] at h
  obtain ⟨_, _, _, _, h5, h6⟩ := h
  rcases Int.mul_eq_zero.mp h5 with z | z
  · omega
  · rcases Int.mul_eq_zero.mp h6 with y | y
    · omega
    · exact ⟨z, y⟩
theorem finite {m : M6} (hm : m.Ok) {k : Nat} (h : m.pow (k + 1) = one) : ∃ j, 1 ≤ j ∧ j < 7 ∧ m.pow j = one := by
  obtain ⟨h1, h2, h3, h4⟩ := lin_pow m k
  rw [h] at h1 h2 h3 h4
  have scal : m.b = 0 → m.c = 0 → m.a = m.d → ∃ j, 1 ≤ j ∧ j < 7 ∧ m.pow j = one := by
    intro hb hc had
    have hdet : m.det = m.a * m.a := by unfold det; rw [hb, hc, ← had]; omega
    have ha : m.a = 1 ∨ m.a = -1 := by
      have sq : m.a * m.a = 1 := by
        rcases hm with z | z
        · omega
        · have : 0 ≤ m.a * m.a := by
            rcases Int.le_total 0 m.a with g | g
            · exact Int.mul_nonneg g g
            · exact Int.mul_nonneg_of_nonpos_of_nonpos g g
          omega
      have e : (m.a - 1) * (m.a + 1) = 0 := by grind
      rcases Int.mul_eq_zero.mp e with z | z
      · exact .inl (by omega)
      · exact .inr (by omega)
    rcases ha with ha | ha
    · have em : m = ⟨1, 0, 0, 1, m.e, m.f⟩ := by
        cases m; simp only at *; subst hb hc ha; rw [← had]
      rw [em] at h
      obtain ⟨z1, z2⟩ := tr_fin h
      exact ⟨1, by decide, by decide, by rw [pow_one, em, z1, z2]; rfl⟩
    · have em : m = ⟨-1, 0, 0, -1, m.e, m.f⟩ := by
        cases m; simp only at *; subst hb hc ha; rw [← had]
      refine ⟨2, by decide, by decide, ?_⟩
      rw [em]
      simp only [pow, comp, one, mk.injEq]
      refine ⟨by omega, by omega, by omega, by omega, by omega, by omega⟩
  by_cases hu : us (m.a + m.d) m.det (k + 1) = 0
  · rcases hm with hd | hd
    · have ht : ¬ (m.a + m.d ≤ -2 ∨ 2 ≤ m.a + m.d) := fun z => by
        have := us_far z k
        rw [hd] at hu
        rw [hu] at this
        omega
      rcases (show m.a + m.d = -1 ∨ m.a + m.d = 0 ∨ m.a + m.d = 1 by omega) with t | t | t
      · refine ⟨3, by decide, by decide, ?_⟩
        have e : m.d = -1 - m.a := by omega
        simp only [det] at hd
        rw [e] at hd
        simp only [pow, comp, one, mk.injEq]
        rw [e]
        refine ⟨?_, ?_, ?_, ?_, ?_, ?_⟩ <;> grind
      · refine ⟨4, by decide, by decide, ?_⟩
        have e : m.d = - m.a := by omega
        simp only [det] at hd
        rw [e] at hd
        simp only [pow, comp, one, mk.injEq]
        rw [e]
        refine ⟨?_, ?_, ?_, ?_, ?_, ?_⟩ <;> grind
      · refine ⟨6, by decide, by decide, ?_⟩
        have e : m.d = 1 - m.a := by omega
        simp only [det] at hd
        rw [e] at hd
        have p3 : m.pow 3 = ⟨-1, 0, 0, -1, (m.pow 3).e, (m.pow 3).f⟩ := by
          simp only [pow, comp, one, mk.injEq]
          rw [e]
          refine ⟨?_, ?_, ?_, ?_, trivial, trivial⟩ <;> grind
        have : m.pow 6 = (m.pow 3).comp (m.pow 3) := pow_add m 3 3
        rw [this, p3]
        simp only [comp, one, mk.injEq]
        refine ⟨by omega, by omega, by omega, by omega, by omega, by omega⟩
    · have ht : m.a + m.d = 0 := by
        by_cases z : m.a + m.d = 0
        · exact z
        · rw [hd] at hu
          exact absurd hu (us_neg z k).1
      have e : m.d = - m.a := by omega
      simp only [det] at hd
      rw [e] at hd
      have p2 : m.pow 2 = ⟨1, 0, 0, 1, (m.pow 2).e, (m.pow 2).f⟩ := by
        simp only [pow, comp, one, mk.injEq]
        rw [e]
        refine ⟨?_, ?_, ?_, ?_, trivial, trivial⟩ <;> grind
      refine ⟨2, by decide, by decide, ?_⟩
      have q : m.pow (2 * (k + 1)) = one := by
        rw [show 2 * (k + 1) = (k + 1) + (k + 1) by omega, pow_add, h]; rfl
      rw [← pow_sq] at q
      have e2 : m.comp m = m.pow 2 := by
        show m.comp m = (m.pow 1).comp m
        rw [pow_one]
      rw [e2, p2] at q
      obtain ⟨z1, z2⟩ := tr_fin q
      rw [p2, z1, z2]; rfl
  · simp only [one] at h1 h2 h3 h4
    have hb : m.b = 0 := by
      rcases Int.mul_eq_zero.mp h2.symm with z | z
      · exact absurd z hu
      · exact z
    have hc : m.c = 0 := by
      rcases Int.mul_eq_zero.mp h3.symm with z | z
      · exact absurd z hu
      · exact z
    refine scal hb hc ?_
    have e : us (m.a + m.d) m.det (k + 1) * (m.a - m.d) = 0 := by
      rw [Int.mul_sub]; omega
    rcases Int.mul_eq_zero.mp e with z | z
    · exact absurd z hu
    · omega
theorem ord_12 {m : M6} (hm : m.Ok) : m.ordN 12 1 = m.ordN 6 1 := by
  by_cases h : ∃ j, 1 ≤ j ∧ j < 7 ∧ m.pow j = one
  · obtain ⟨j, h1, h2, h3⟩ := h
    exact ordN_more (n := 6) (p := 6) ⟨j, h1, by omega, h3⟩
  · rw [ordN_none, ordN_none]
    · intro j h1 h2 e
      exact h ⟨j, h1, by omega, e⟩
    · intro j h1 h2 e
      obtain ⟨i, rfl⟩ : ∃ i, j = i + 1 := ⟨j - 1, by omega⟩
      exact h (finite hm e)
/-! sizes -/
end M6
def MBd (n : Nat) (m : M6) : Prop := Bd n m.a ∧ Bd n m.b ∧ Bd n m.c ∧ Bd n m.d ∧ Bd n m.e ∧ Bd n m.f
theorem MBd.mono {n k : Nat} {m : M6} (h : MBd n m) (l : n ≤ k) : MBd k m := ⟨h.1.mono l, h.2.1.mono l, h.2.2.1.mono l, h.2.2.2.1.mono l, h.2.2.2.2.1.mono l, h.2.2.2.2.2.mono l⟩
theorem bd_lin {i j : Nat} {a b c d : Int} (h1 : Bd i a) (h2 : Bd j b) (h3 : Bd i c) (h4 : Bd j d) : Bd (i + j + 1) (a * b + c * d) := (h1.mul h2).add (h3.mul h4)
theorem MBd.comp {i j : Nat} {m n : M6} (h : MBd i m) (k : MBd j n) : MBd (i + j + 2) (m.comp n) := by
  obtain ⟨a1, b1, c1, d1, e1, f1⟩ := h
  obtain ⟨a2, b2, c2, d2, e2, f2⟩ := k
  refine ⟨(bd_lin a2 a1 b2 c1).mono (by omega), (bd_lin a2 b1 b2 d1).mono (by omega), (bd_lin c2 a1 d2 c1).mono (by omega), (bd_lin c2 b1 d2 d1).mono (by omega), ?_, ?_⟩
  · exact (((bd_lin a2 e1 b2 f1).mono (by omega : _ ≤ i + j + 1)).add (e2.mono (by omega))).mono (by omega)
  · exact (((bd_lin c2 e1 d2 f1).mono (by omega : _ ≤ i + j + 1)).add (f2.mono (by omega))).mono (by omega)
theorem bd_one : ∀ {n : Nat}, MBd (n + 1) M6.one := by
  intro n
  have h : MBd 1 M6.one := by
    unfold MBd Bd M6.one; decide
  exact h.mono (by omega)
theorem Bd.det {n : Nat} {m : M6} (h : m.Ok) : Bd 1 m.det := by
  rcases h with z | z <;> rw [z] <;> (unfold Bd; decide)
theorem MBd.inv {n : Nat} {m : M6} (o : m.Ok) (h : MBd n m) : MBd (2 * n + 2) m.inv := by
  obtain ⟨a1, b1, c1, d1, e1, f1⟩ := h
  have hd := Bd.det (n := n) o
  have hn := hd.neg
  refine ⟨(hd.mul d1).mono (by omega), (hn.mul b1).mono (by omega), (hn.mul c1).mono (by omega), (hd.mul a1).mono (by omega), ?_, ?_⟩
  · exact ((bd_lin (hd.mul d1) e1 (hn.mul b1) f1).neg).mono (by omega)
  · exact ((bd_lin (hn.mul c1) e1 (hd.mul a1) f1).neg).mono (by omega)
theorem MBd.pow {n : Nat} {m : M6} (h : MBd n m) : ∀ k, MBd (k * (n + 2) + 1) (m.pow k)
  | 0 => bd_one
  | k + 1 => ((MBd.pow h k).comp h).mono (by rw [Nat.succ_mul]; omega)
/-! ### grid maps in the heap -/
def GmAt (K : PySem.W.Frag) (H : Hp) (v : V) (m : M6) : Prop := ∃ a dx t, v = .ref a ∧ H a = some (.ins (He.ga K "GridMap") dx [("six", .ref t)]) ∧ SqT K H t m.vals
theorem GmAt.same {K : PySem.W.Frag} {H H' : Hp} {v : V} {m : M6} (h : GmAt K H v m) (s : Same H H') : GmAt K H' v m := by
  obtain ⟨a, dx, t, rfl, h1, h2⟩ := h
  exact ⟨a, dx, t, rfl, s _ _ h1, sqT_same s h2⟩
theorem GmAt.kp {K : PySem.W.Frag} {H H' : Hp} {v : V} {m : M6} {l : Addr} (h : GmAt K H v m) (k : Kp l H H') (d : DrAt H l) : GmAt K H' v m := by
  obtain ⟨a, dx, t, rfl, h1, h2⟩ := h
  obtain ⟨x, y, e, _⟩ := d
  exact ⟨a, dx, t, rfl, k _ _ (ne_of h1 e (by intro z; cases z)) h1, sqT_kp k ⟨_, e⟩ h2⟩
theorem hds_vals {K : PySem.W.Frag} {H : Hp} (m : M6) : Hds K H m.vals m.nums := hds_ints m.nums
theorem hd_six {K : PySem.W.Frag} {H : Hp} {t : Addr} {m : M6} (h : SqT K H t m.vals) : Hd K H (.ref t) (⟨m.nums⟩ : PySem.W.Tup Int) := hd_tup h (hds_vals m)
theorem nums_iff {m n : M6} : ((⟨m.nums⟩ : PySem.W.Tup Int) = ⟨n.nums⟩) ↔ m = n := ⟨fun h => M6.ext' (PySem.W.Tup.mk.inj h), fun h => by rw [h]⟩
theorem dec_nums {m n : M6} : decide ((⟨m.nums⟩ : PySem.W.Tup Int) = ⟨n.nums⟩) = decide (m = n) := decide_eq_decide.mpr nums_iff
end G
namespace G
open PySem PySem.Spec PyProof.Rows L2
theorem GmAt.of {K : PySem.W.Frag} {H : Hp} {v : V} {m : M6} (h : GmAt K H v m) : ∃ a dx t, v = .ref a ∧ H a = some (.ins (He.ga K "GridMap") dx [("six", .ref t)]) ∧ SqT K H t [.int m.a, .int m.b, .int m.c, .int m.d, .int m.e, .int m.f] := h
end G

/-! ### a path that goes right below the axis and back above it has no crossings -/
namespace G
open PySem PySem.Spec PyProof.Rows L2
/-- four points: the sides weigh them to nothing -/
theorem four1 (a b c d : Pt) : trn c d b * a.1 - trn c d a * b.1 + trn a b d * c.1 - trn a b c * d.1 = 0 := by
  unfold trn crs dif; grind
theorem four2 (a b c d : Pt) : trn c d b * a.2 - trn c d a * b.2 + trn a b d * c.2 - trn a b c * d.2 = 0 := by
  unfold trn crs dif; grind
theorem four0 (a b c d : Pt) : trn c d b - trn c d a + trn a b d - trn a b c = 0 := by
  unfold trn crs dif; grind
theorem nonpos_mul {t f : Int} (ht : 0 < t) (hf : f ≤ 0) : t * f ≤ 0 ∧ (t * f = 0 → f = 0) := by
  constructor
  · exact Int.mul_nonpos_of_nonneg_of_nonpos (by omega) hf
  · intro h
    rcases Int.mul_eq_zero.mp h with z | z <;> omega
theorem sep0 {ta tb tc td fa fb fc fd : Int} (h1 : tb * fa - ta * fb + td * fc - tc * fd = 0) (h2 : tb - ta + td - tc = 0) (p1 : ta * tb < 0) (p2 : tc * td < 0) (sa : fa ≤ 0) (sb : fb ≤ 0) (sc : 0 ≤ fc) (sd : 0 ≤ fd) : fa = 0 ∧ fb = 0 ∧ fc = 0 ∧ fd = 0 := by
  have n1 : ta ≠ 0 := fun z => by rw [z, Int.zero_mul] at p1; omega
  have n2 : tb ≠ 0 := fun z => by rw [z, Int.mul_zero] at p1; omega
  have n3 : tc ≠ 0 := fun z => by rw [z, Int.zero_mul] at p2; omega
  have n4 : td ≠ 0 := fun z => by rw [z, Int.mul_zero] at p2; omega
  have o1 : (0 < ta ∧ tb < 0) ∨ (ta < 0 ∧ 0 < tb) := by
    rcases Int.lt_or_lt_of_ne n1 with x | x <;> rcases Int.lt_or_lt_of_ne n2 with y | y
    · have := Int.mul_pos_of_neg_of_neg x y; omega
    · exact .inr ⟨x, y⟩
    · exact .inl ⟨x, y⟩
    · have := Int.mul_pos x y; omega
  have o2 : (0 < tc ∧ td < 0) ∨ (tc < 0 ∧ 0 < td) := by
    rcases Int.lt_or_lt_of_ne n3 with x | x <;> rcases Int.lt_or_lt_of_ne n4 with y | y
    · have := Int.mul_pos_of_neg_of_neg x y; omega
    · exact .inr ⟨x, y⟩
    · exact .inl ⟨x, y⟩
    · have := Int.mul_pos x y; omega
  have key : ∀ {ta tb tc td : Int}, tb * fa - ta * fb + td * fc - tc * fd = 0 → ta < 0 → 0 < tb → 0 < tc → td < 0 → fa = 0 ∧ fb = 0 ∧ fc = 0 ∧ fd = 0 := by
    intro ta tb tc td h1 x1 x2 x3 x4
    obtain ⟨a1, a2⟩ := nonpos_mul x2 sa
    obtain ⟨b1, b2⟩ := nonpos_mul (show 0 < -ta by omega) sb
    obtain ⟨c1, c2⟩ := nonpos_mul (show 0 < -td by omega) (show -fc ≤ 0 by omega)
    obtain ⟨d1, d2⟩ := nonpos_mul x3 (show -fd ≤ 0 by omega)
    rw [Int.neg_mul] at b1 b2
    rw [Int.neg_mul_neg] at c1 c2
    rw [Int.mul_neg] at d1 d2
    have z1 := a2 (by omega)
    have z2 := b2 (by omega)
    have z3 := c2 (by omega)
    have z4 := d2 (by omega)
    omega
  rcases o1 with ⟨x1, x2⟩ | ⟨x1, x2⟩
  · rcases o2 with ⟨y1, y2⟩ | ⟨y1, y2⟩
    · omega
    · refine key (ta := -ta) (tb := -tb) (tc := -tc) (td := -td) ?_ (by omega) (by omega) (by omega) (by omega)
      simp only [Int.neg_mul]; omega
  · rcases o2 with ⟨y1, y2⟩ | ⟨y1, y2⟩
    · exact key h1 x1 x2 y1 y2
    · omega
theorem sepk {ta tb tc td fa fb fc fd k : Int} (h1 : tb * fa - ta * fb + td * fc - tc * fd = 0) (h2 : tb - ta + td - tc = 0) (p1 : ta * tb < 0) (p2 : tc * td < 0) (sa : fa ≤ k) (sb : fb ≤ k) (sc : k ≤ fc) (sd : k ≤ fd) : fa = k ∧ fb = k ∧ fc = k ∧ fd = k := by
  have h3 : tb * (fa - k) - ta * (fb - k) + td * (fc - k) - tc * (fd - k) = 0 := by
    have e : tb * (fa - k) - ta * (fb - k) + td * (fc - k) - tc * (fd - k) = (tb * fa - ta * fb + td * fc - tc * fd) - (tb - ta + td - tc) * k := by grind
    rw [e, h1, h2]; omega
  have := sep0 h3 h2 p1 p2 (by omega) (by omega) (by omega) (by omega)
  omega
theorem on_box {p a b : Pt} (h : onS p a b = true) : trn a b p = 0 ∧ min a.1 b.1 ≤ p.1 ∧ p.1 ≤ max a.1 b.1 ∧ min a.2 b.2 ≤ p.2 ∧ p.2 ≤ max a.2 b.2 := by
  unfold onS btw btw1 at h
  simp only [Bool.and_eq_true, decide_eq_true_eq] at h
  omega
theorem meet_cases {a b c d : Pt} (h : meetS a b c d = true) : (trn c d a * trn c d b < 0 ∧ trn a b c * trn a b d < 0) ∨ onS c a b = true ∨ onS d a b = true ∨ onS a c d = true ∨ onS b c d = true := by
  unfold meetS at h
  simp only [Bool.or_eq_true, Bool.and_eq_true, decide_eq_true_eq] at h
  rcases h with ⟨h1, h2⟩ | h | h | h | h
  · exact .inl ⟨h2, h1⟩
  · exact .inr (.inl h)
  · exact .inr (.inr (.inl h))
  · exact .inr (.inr (.inr (.inl h)))
  · exact .inr (.inr (.inr (.inr h)))
/-- the one is left of the other -/
theorem meet_left {a b c d : Pt} (h : a.1 < c.1 ∧ a.1 < d.1 ∧ b.1 < c.1 ∧ b.1 < d.1) : meetS a b c d = false := by
  cases e : meetS a b c d with
  | false => rfl
  | true =>
    rcases meet_cases e with ⟨h1, h2⟩ | h1 | h1 | h1 | h1
    · have := sepk (k := max a.1 b.1) (four1 a b c d) (four0 a b c d) h1 h2 (by omega) (by omega) (by omega) (by omega)
      omega
    all_goals
      have := on_box h1
      omega
theorem meet_right {a b c d : Pt} (h : c.1 < a.1 ∧ c.1 < b.1 ∧ d.1 < a.1 ∧ d.1 < b.1) : meetS a b c d = false := by
  cases e : meetS a b c d with
  | false => rfl
  | true =>
    rcases meet_cases e with ⟨h1, h2⟩ | h1 | h1 | h1 | h1
    · have f1 := four1 a b c d
      have f0 := four0 a b c d
      have := sepk (ta := trn a b c) (tb := trn a b d) (tc := trn c d a) (td := trn c d b) (fa := c.1) (fb := d.1) (fc := a.1) (fd := b.1) (k := max c.1 d.1) (by omega) (by omega) h2 h1 (by omega) (by omega) (by omega) (by omega)
      omega
    all_goals
      have := on_box h1
      omega
/-- ps: corner 0 and corner m + 1 on the axis, 1 .. m below it, going right; the others above it, going left -/
structure Mono (ps : List Pt) (m : Nat) : Prop where
  hm : 1 ≤ m
  hn : m + 2 ≤ ps.length
  y0 : (atC ps 0).2 = 0
  yR : (atC ps (m + 1)).2 = 0
  yb : ∀ i, 1 ≤ i → i ≤ m → (atC ps i).2 < 0
  ya : ∀ i, m + 2 ≤ i → i < ps.length → 0 < (atC ps i).2
  xl : ∀ i j, i < j → j ≤ m + 1 → (atC ps i).1 < (atC ps j).1
  xu : ∀ i j, m + 1 ≤ i → i < j → j < ps.length → (atC ps j).1 < (atC ps i).1
  x0 : ∀ i, 1 ≤ i → i < ps.length → (atC ps 0).1 < (atC ps i).1
theorem nxt_in {ps : List Pt} {i : Nat} (h : i + 1 < ps.length) : nxt ps i = atC ps (i + 1) := by
  unfold nxt; rw [Nat.mod_eq_of_lt h]
theorem nxt_last {ps : List Pt} {i : Nat} (h : i + 1 = ps.length) : nxt ps i = atC ps 0 := by
  unfold nxt; rw [h, Nat.mod_self]
theorem trn_00 {a b c : Pt} (h1 : a.2 = 0) (h2 : c.2 = 0) (h : trn a b c = 0) : b.2 = 0 ∨ a.1 = c.1 := by
  have e : trn a b c = -(b.2 * (c.1 - a.1)) := by
    unfold trn crs dif
    show (b.1 - a.1) * (c.2 - b.2) - (b.2 - a.2) * (c.1 - b.1) = _
    rw [h1, h2]; grind
  rw [e] at h
  rcases Int.mul_eq_zero.mp (show b.2 * (c.1 - a.1) = 0 by omega) with z | z <;> omega
theorem trn_0b {a b c : Pt} (h1 : b.2 = 0) (h2 : c.2 = 0) (h : trn a b c = 0) : a.2 = 0 ∨ b.1 = c.1 := by
  have e : trn a b c = a.2 * (c.1 - b.1) := by
    unfold trn crs dif
    show (b.1 - a.1) * (c.2 - b.2) - (b.2 - a.2) * (c.1 - b.1) = _
    rw [h1, h2]; grind
  rw [e] at h
  rcases Int.mul_eq_zero.mp h with z | z <;> omega
theorem Mono.cross {ps : List Pt} {m : Nat} (M : Mono ps m) {i j : Nat} (hij : i + 2 ≤ j) (hj : j < ps.length) : crossB ps i j = false := by
  unfold crossB
  by_cases hc : (j + 1) % ps.length = i
  · rw [decide_eq_false (by omega), Bool.false_and]
  rw [decide_eq_true hc, Bool.true_and]
  have hn := M.hn
  have hm := M.hm
  have hi1 : nxt ps i = atC ps (i + 1) := nxt_in (by omega)
  by_cases hjm : j ≤ m
  · -- both below
    rw [hi1, nxt_in (by omega)]
    refine meet_left ⟨M.xl _ _ (by omega) (by omega), M.xl _ _ (by omega) (by omega), M.xl _ _ (by omega) (by omega), M.xl _ _ (by omega) (by omega)⟩
  by_cases him : m + 1 ≤ i
  · -- both above
    rw [hi1]
    rcases Nat.lt_or_ge (j + 1) ps.length with h | h
    · rw [nxt_in h]
      exact meet_right ⟨M.xu _ _ (by omega) (by omega) (by omega), M.xu _ _ (by omega) (by omega) (by omega), M.xu _ _ (by omega) (by omega) (by omega), M.xu _ _ (by omega) (by omega) (by omega)⟩
    · rw [nxt_last (by omega)]
      exact meet_right ⟨M.xu _ _ (by omega) (by omega) (by omega), M.xu _ _ (by omega) (by omega) (by omega), M.x0 _ (by omega) (by omega), M.x0 _ (by omega) (by omega)⟩
  -- the first below, the second above
  have ya2 : (atC ps i).2 ≤ 0 ∧ ((atC ps i).2 = 0 → i = 0) := by
    rcases Nat.eq_zero_or_pos i with h | h
    · subst h; have := M.y0; omega
    · have := M.yb i h (by omega); omega
  have yb2 : (atC ps (i + 1)).2 ≤ 0 ∧ ((atC ps (i + 1)).2 = 0 → i = m) := by
    rcases Nat.lt_or_ge i m with h | h
    · have := M.yb (i + 1) (by omega) (by omega); omega
    · obtain rfl : i = m := by omega
      have := M.yR; omega
  have yc2 : 0 ≤ (atC ps j).2 ∧ ((atC ps j).2 = 0 → j = m + 1) := by
    rcases Nat.lt_or_ge j (m + 2) with h | h
    · obtain rfl : j = m + 1 := by omega
      have := M.yR; omega
    · have := M.ya j h hj; omega
  have yd2 : 0 ≤ (nxt ps j).2 ∧ ((nxt ps j).2 = 0 → j + 1 = ps.length ∧ nxt ps j = atC ps 0) := by
    rcases Nat.lt_or_ge (j + 1) ps.length with h | h
    · rw [nxt_in h]
      have := M.ya (j + 1) (by omega) h; omega
    · rw [nxt_last (by omega)]
      have := M.y0
      exact ⟨by omega, fun _ => ⟨by omega, rfl⟩⟩
  have wrap : j + 1 = ps.length → i ≠ 0 := fun h z => hc (by rw [h, Nat.mod_self, z])
  rw [hi1]
  cases e : meetS (atC ps i) (atC ps (i + 1)) (atC ps j) (nxt ps j) with
  | false => rfl
  | true =>
    exfalso
    rcases meet_cases e with ⟨h1, h2⟩ | h1 | h1 | h1 | h1
    · have := sepk (k := 0) (four2 _ _ _ _) (four0 _ _ _ _) h1 h2 ya2.1 yb2.1 yc2.1 yd2.1
      have := ya2.2 this.1
      have := yb2.2 (by omega)
      omega
    · have b := on_box h1
      have c0 := yc2.2 (by omega)
      rcases (show (atC ps i).2 = 0 ∨ (atC ps (i + 1)).2 = 0 by omega) with z | z
      · have i0 := ya2.2 z
        rcases trn_00 z (by omega) b.1 with w | w
        · have := yb2.2 w; omega
        · have := M.x0 j (by omega) hj
          rw [i0] at w; omega
      · have := yb2.2 z; omega
    · have b := on_box h1
      obtain ⟨d1, d2⟩ := yd2.2 (by omega)
      have nz := wrap d1
      rcases (show (atC ps i).2 = 0 ∨ (atC ps (i + 1)).2 = 0 by omega) with z | z
      · exact nz (ya2.2 z)
      · have im := yb2.2 z
        rcases trn_0b z (by omega) b.1 with w | w
        · exact nz (ya2.2 w)
        · have := M.x0 (i + 1) (by omega) (by omega)
          rw [d2] at w; omega
    · have b := on_box h1
      have i0 := ya2.2 (by omega)
      rcases (show (atC ps j).2 = 0 ∨ (nxt ps j).2 = 0 by omega) with z | z
      · have jm := yc2.2 z
        rcases trn_00 z (by omega) b.1 with w | w
        · exact wrap (yd2.2 w).1 i0
        · have := M.x0 j (by omega) hj
          rw [i0] at w; omega
      · exact wrap (yd2.2 z).1 i0
    · have b := on_box h1
      have im := yb2.2 (by omega)
      rcases (show (atC ps j).2 = 0 ∨ (nxt ps j).2 = 0 by omega) with z | z
      · have := yc2.2 z; omega
      · obtain ⟨d1, d2⟩ := yd2.2 z
        rcases trn_0b z (by omega) b.1 with w | w
        · have := yc2.2 w; omega
        · have := M.x0 (i + 1) (by omega) (by omega)
          rw [d2] at w; omega
theorem Mono.good {ps : List Pt} {m : Nat} (M : Mono ps m) (h : NoDeg ps) : Good ps := ⟨h, fun _ _ h1 h2 => M.cross h1 h2⟩
end G

/-! ### leaving out corners on a line -/
namespace G
open PySem PySem.Spec PyProof.Rows L2
def shp (L R : Pt) (B A : List Pt) : List Pt := L :: B ++ R :: A
structure ML (L R : Pt) (B A : List Pt) : Prop where
  y0 : L.2 = 0
  yR : R.2 = 0
  hB : B ≠ []
  yb : ∀ p ∈ B, p.2 < 0
  ya : ∀ p ∈ A, 0 < p.2
  xl : (L :: B ++ [R]).Pairwise fun p q => p.1 < q.1
  xu : (R :: A ++ [L]).Pairwise fun p q => q.1 < p.1
theorem shp_len (L R : Pt) (B A : List Pt) : (shp L R B A).length = B.length + 2 + A.length := by
  unfold shp; simp; omega
theorem atC_shp0 (L R : Pt) (B A : List Pt) : atC (shp L R B A) 0 = L := rfl
theorem shp_left (L R : Pt) (B A : List Pt) {i : Nat} (h : i ≤ B.length + 1) : (shp L R B A)[i]? = (L :: B ++ [R])[i]? := by
  have e : shp L R B A = (L :: B ++ [R]) ++ A := by unfold shp; simp
  rw [e, List.getElem?_append_left (by simp; omega)]
theorem shp_right (L R : Pt) (B A : List Pt) {i : Nat} (h : B.length + 1 ≤ i) (h2 : i < B.length + 2 + A.length) : (shp L R B A)[i]? = (R :: A ++ [L])[i - (B.length + 1)]? := by
  unfold shp
  rw [List.getElem?_append_right (by simp; omega), List.getElem?_append_left (by simp; omega)]
  rfl
theorem pw_at {α : Type} {r : α → α → Prop} {l : List α} (h : l.Pairwise r) {i j : Nat} {x y : α} (hij : i < j) (hi : l[i]? = some x) (hj : l[j]? = some y) : r x y := by
  obtain ⟨h1, e1⟩ := List.getElem?_eq_some_iff.mp hi
  obtain ⟨h2, e2⟩ := List.getElem?_eq_some_iff.mp hj
  rw [← e1, ← e2]
  exact List.pairwise_iff_getElem.mp h i j h1 h2 hij
theorem ML.mono {L R : Pt} {B A : List Pt} (h : ML L R B A) : Mono (shp L R B A) B.length := by
  have hl := shp_len L R B A
  have hb : 1 ≤ B.length := by
    cases e : B with
    | nil => exact absurd e h.hB
    | cons b B => simp
  have atL : ∀ i, i ≤ B.length + 1 → (L :: B ++ [R])[i]? = some (atC (shp L R B A) i) := fun i hi => by
    rw [← shp_left L R B A hi]; exact atC_get (by omega)
  have atR : ∀ i, B.length + 1 ≤ i → i < B.length + 2 + A.length → (R :: A ++ [L])[i - (B.length + 1)]? = some (atC (shp L R B A) i) := fun i h1 h2 => by
    rw [← shp_right L R B A h1 h2]; exact atC_get (by omega)
  have lastL : (R :: A ++ [L])[A.length + 1]? = some L := by
    rw [List.getElem?_append_right (by simp)]; simp
  refine ⟨hb, by omega, h.y0, ?_, fun i h1 h2 => ?_, fun i h1 h2 => ?_, fun i j hij hj => ?_, fun i j h1 hij hj => ?_, fun i h1 h2 => ?_⟩
  · have := atL (B.length + 1) (Nat.le_refl _)
    rw [List.getElem?_append_right (by simp)] at this
    simp at this
    rw [← this]; exact h.yR
  · have := atL i (by omega)
    rw [List.getElem?_append_left (by simp; omega)] at this
    obtain ⟨k, rfl⟩ : ∃ k, i = k + 1 := ⟨i - 1, by omega⟩
    rw [List.getElem?_cons_succ] at this
    exact h.yb _ (List.mem_of_getElem? this)
  · have := atR i (by omega) (by omega)
    rw [List.getElem?_append_left (by simp; omega)] at this
    obtain ⟨k, hk⟩ : ∃ k, i - (B.length + 1) = k + 1 := ⟨i - (B.length + 1) - 1, by omega⟩
    rw [hk, List.getElem?_cons_succ] at this
    exact h.ya _ (List.mem_of_getElem? this)
  · exact pw_at h.xl hij (atL i (by omega)) (atL j (by omega))
  · exact pw_at h.xu (show i - (B.length + 1) < j - (B.length + 1) by omega) (atR i (by omega) (by omega)) (atR j (by omega) (by omega))
  · rcases Nat.lt_or_ge i (B.length + 2) with z | z
    · exact pw_at h.xl (show 0 < i by omega) (atL 0 (by omega)) (atL i (by omega))
    · have := pw_at h.xu (show i - (B.length + 1) < A.length + 1 by omega) (atR i (by omega) (by omega)) lastL
      exact this
theorem prv_in {ps : List Pt} {i : Nat} (h0 : 0 < i) (h : i < ps.length) : prv ps i = atC ps (i - 1) := by
  unfold prv
  rw [show i + ps.length - 1 = (i - 1) + ps.length by omega, Nat.add_mod_right, Nat.mod_eq_of_lt (by omega)]
theorem prv_0 {ps : List Pt} (h : 0 < ps.length) : prv ps 0 = atC ps (ps.length - 1) := by
  unfold prv
  rw [Nat.zero_add, Nat.mod_eq_of_lt (by omega)]
theorem trn_b0 {a b c : Pt} (h : b.2 = 0) : trn a b c = (b.1 - a.1) * c.2 + a.2 * (c.1 - b.1) := by
  unfold trn crs dif
  show (b.1 - a.1) * (c.2 - b.2) - (b.2 - a.2) * (c.1 - b.1) = _
  rw [h]; grind
theorem trn_ac0 {a b c : Pt} (h1 : a.2 = 0) (h2 : c.2 = 0) : trn a b c = -(b.2 * (c.1 - a.1)) := by
  unfold trn crs dif
  show (b.1 - a.1) * (c.2 - b.2) - (b.2 - a.2) * (c.1 - b.1) = _
  rw [h1, h2]; grind
theorem Mono.tri0_0 {ps : List Pt} {m : Nat} (M : Mono ps m) : 0 < tri0 ps 0 := by
  have hm := M.hm
  have hn := M.hn
  unfold tri0
  rw [prv_0 (by omega), nxt_in (by omega), trn_b0 M.y0]
  have x1 := M.x0 (ps.length - 1) (by omega) (by omega)
  have x2 := M.x0 (0 + 1) (by omega) (by omega)
  have y1 := M.yb (0 + 1) (by omega) (by omega)
  have y2 : 0 ≤ (atC ps (ps.length - 1)).2 := by
    rcases Nat.lt_or_ge (ps.length - 1) (m + 2) with z | z
    · have e : ps.length - 1 = m + 1 := by omega
      rw [e, M.yR]; exact Int.le_refl _
    · exact Int.le_of_lt (M.ya _ z (by omega))
  have p1 : 0 < ((atC ps 0).1 - (atC ps (ps.length - 1)).1) * (atC ps (0 + 1)).2 := Int.mul_pos_of_neg_of_neg (by omega) y1
  have p2 : 0 ≤ (atC ps (ps.length - 1)).2 * ((atC ps (0 + 1)).1 - (atC ps 0).1) := Int.mul_nonneg y2 (by omega)
  omega
theorem Mono.tri0_R {ps : List Pt} {m : Nat} (M : Mono ps m) : 0 < tri0 ps (m + 1) := by
  have hm := M.hm
  have hn := M.hn
  unfold tri0
  rw [prv_in (by omega) (by omega), trn_b0 M.yR]
  have e : m + 1 - 1 = m := by omega
  rw [e]
  have x1 := M.xl m (m + 1) (by omega) (by omega)
  have y1 := M.yb m hm (by omega)
  have nx : 0 ≤ (nxt ps (m + 1)).2 ∧ (nxt ps (m + 1)).1 < (atC ps (m + 1)).1 := by
    rcases Nat.lt_or_ge (m + 1 + 1) ps.length with z | z
    · rw [nxt_in z]
      exact ⟨Int.le_of_lt (M.ya _ (by omega) z), M.xu _ _ (by omega) (by omega) z⟩
    · rw [nxt_last (by omega), M.y0]
      exact ⟨Int.le_refl _, M.x0 _ (by omega) (by omega)⟩
  have p1 : 0 ≤ ((atC ps (m + 1)).1 - (atC ps m).1) * (nxt ps (m + 1)).2 := Int.mul_nonneg (by omega) nx.1
  have p2 : 0 < (atC ps m).2 * ((nxt ps (m + 1)).1 - (atC ps (m + 1)).1) := Int.mul_pos_of_neg_of_neg y1 (by omega)
  omega
theorem Mono.tri0_1 {ps : List Pt} (M : Mono ps 1) : 0 < tri0 ps 1 := by
  have hn := M.hn
  unfold tri0
  rw [prv_in (by omega) (by omega), nxt_in (by omega)]
  rw [trn_ac0 M.y0 M.yR]
  have y1 := M.yb 1 (by omega) (by omega)
  have x1 := M.x0 (1 + 1) (by omega) (by omega)
  have p : (atC ps 1).2 * ((atC ps (1 + 1)).1 - (atC ps 0).1) < 0 := Int.mul_neg_of_neg_of_pos y1 (by omega)
  omega
theorem ML.erase {L R : Pt} {B A : List Pt} {i : Nat} (h : ML L R B A) (hi : i < (shp L R B A).length) (hz : tri0 (shp L R B A) i = 0) :
    ∃ B' A', (shp L R B A).take i ++ (shp L R B A).drop (i + 1) = shp L R B' A' ∧ ML L R B' A' ∧ (∀ p ∈ B', p ∈ B) ∧ ∀ p ∈ A', p ∈ A := by
  have M := h.mono
  have hl := shp_len L R B A
  have n0 : i ≠ 0 := fun z => by subst z; have := M.tri0_0; omega
  have nR : i ≠ B.length + 1 := fun z => by subst z; have := M.tri0_R; omega
  have n1 : ¬ (B.length = 1 ∧ i = 1) := fun ⟨z1, z2⟩ => by
    subst z2; rw [z1] at M; have := M.tri0_1; omega
  rw [← List.eraseIdx_eq_take_drop_succ]
  obtain ⟨k, rfl⟩ : ∃ k, i = k + 1 := ⟨i - 1, by omega⟩
  rcases Nat.lt_or_ge k B.length with hk | hk
  · refine ⟨B.eraseIdx k, A, ?_, ⟨h.y0, h.yR, ?_, fun p hp => h.yb p (List.mem_of_mem_eraseIdx hp), h.ya, ?_, h.xu⟩, fun p hp => List.mem_of_mem_eraseIdx hp, fun p hp => hp⟩
    · unfold shp
      rw [List.cons_append, List.eraseIdx_cons_succ, List.eraseIdx_append_of_lt_length hk]
      rfl
    · intro z
      have := List.length_eraseIdx_of_lt hk
      rw [z] at this
      simp at this
      omega
    · refine h.xl.sublist ?_
      exact ((List.eraseIdx_sublist B k).append (List.Sublist.refl [R])).cons₂ L
  · obtain ⟨j, hj⟩ : ∃ j, k = B.length + 1 + j := ⟨k - (B.length + 1), by omega⟩
    refine ⟨B, A.eraseIdx j, ?_, ⟨h.y0, h.yR, h.hB, h.yb, fun p hp => h.ya p (List.mem_of_mem_eraseIdx hp), h.xl, ?_⟩, fun p hp => hp, fun p hp => List.mem_of_mem_eraseIdx hp⟩
    · unfold shp
      rw [List.cons_append, List.eraseIdx_cons_succ, List.eraseIdx_append_of_length_le (by omega)]
      have e : k - B.length = j + 1 := by omega
      rw [e, List.eraseIdx_cons_succ]
      rfl
    · refine h.xu.sublist ?_
      exact ((List.eraseIdx_sublist A j).append (List.Sublist.refl [L])).cons₂ R
end G

/-! ### maps keep turns, meetings, areas -/
namespace G
open PySem PySem.Spec PyProof.Rows L2
theorem trn_img (m : M6) (a b c : Pt) : trn (m.img a) (m.img b) (m.img c) = m.det * trn a b c := by
  unfold trn crs dif M6.img M6.det; grind
theorem crs_dif (a b c : Pt) : trn a b c = crs a b + crs b c - crs a c := by
  unfold trn crs dif; grind
/-- a point of a segment: weights -/
theorem on_iff {p a b : Pt} : onS p a b = true ↔ ∃ s t : Int, 0 ≤ s ∧ 0 ≤ t ∧ 0 < s + t ∧ (s + t) * p.1 = s * a.1 + t * b.1 ∧ (s + t) * p.2 = s * a.2 + t * b.2 := by
  constructor
  · intro h
    obtain ⟨h0, h1, h2, h3, h4⟩ := on_box h
    have e0 : (b.1 - a.1) * (p.2 - b.2) - (b.2 - a.2) * (p.1 - b.1) = 0 := h0
    by_cases hx : a.1 = b.1
    · by_cases hy : a.2 = b.2
      · exact ⟨1, 0, by decide, by decide, by decide, by omega, by omega⟩
      · have hp : p.1 = a.1 := by omega
        rcases Int.lt_or_lt_of_ne hy with z | z
        · refine ⟨b.2 - p.2, p.2 - a.2, by omega, by omega, by omega, ?_, ?_⟩
          · rw [hp, ← hx]; grind
          · grind
        · refine ⟨p.2 - b.2, a.2 - p.2, by omega, by omega, by omega, ?_, ?_⟩
          · rw [hp, ← hx]; grind
          · grind
    · rcases Int.lt_or_lt_of_ne hx with z | z
      · refine ⟨b.1 - p.1, p.1 - a.1, by omega, by omega, by omega, ?_, ?_⟩
        · grind
        · grind
      · refine ⟨p.1 - b.1, a.1 - p.1, by omega, by omega, by omega, ?_, ?_⟩
        · grind
        · grind
  · rintro ⟨s, t, hs, ht, hst, e1, e2⟩
    have key : ∀ x l h : Int, (s + t) * x = s * l + t * h → min l h ≤ x ∧ x ≤ max l h := by
      intro x l h e
      have lo : 0 ≤ s * (l - min l h) + t * (h - min l h) := Int.add_nonneg (Int.mul_nonneg hs (by omega)) (Int.mul_nonneg ht (by omega))
      have hi : 0 ≤ s * (max l h - l) + t * (max l h - h) := Int.add_nonneg (Int.mul_nonneg hs (by omega)) (Int.mul_nonneg ht (by omega))
      have l2 : s * (l - min l h) + t * (h - min l h) = (s + t) * (x - min l h) := by grind
      have h2 : s * (max l h - l) + t * (max l h - h) = (s + t) * (max l h - x) := by grind
      rw [l2] at lo
      rw [h2] at hi
      constructor
      · rcases Int.lt_or_le x (min l h) with z | z
        · have := Int.mul_neg_of_pos_of_neg hst (show x - min l h < 0 by omega); omega
        · exact z
      · rcases Int.lt_or_le (max l h) x with z | z
        · have := Int.mul_neg_of_pos_of_neg hst (show max l h - x < 0 by omega); omega
        · exact z
    have k1 := key _ _ _ e1
    have k2 := key _ _ _ e2
    have h0 : trn a b p = 0 := by
      have e : (s + t) * trn a b p = 0 := by
        unfold trn crs dif
        show (s + t) * ((b.1 - a.1) * (p.2 - b.2) - (b.2 - a.2) * (p.1 - b.1)) = 0
        grind
      rcases Int.mul_eq_zero.mp e with z | z <;> omega
    unfold onS btw btw1
    simp only [Bool.and_eq_true, decide_eq_true_eq]
    omega
theorem on_img1 (m : M6) {p a b : Pt} (h : onS p a b = true) : onS (m.img p) (m.img a) (m.img b) = true := by
  obtain ⟨s, t, hs, ht, hst, e1, e2⟩ := on_iff.mp h
  refine on_iff.mpr ⟨s, t, hs, ht, hst, ?_, ?_⟩
  · show (s + t) * (m.a * p.1 + m.b * p.2 + m.e) = s * (m.a * a.1 + m.b * a.2 + m.e) + t * (m.a * b.1 + m.b * b.2 + m.e)
    grind
  · show (s + t) * (m.c * p.1 + m.d * p.2 + m.f) = s * (m.c * a.1 + m.d * a.2 + m.f) + t * (m.c * b.1 + m.d * b.2 + m.f)
    grind
theorem img_comp (m n : M6) (p : Pt) : (m.comp n).img p = n.img (m.img p) := by
  unfold M6.comp M6.img
  refine Prod.ext ?_ ?_
  · show _ = n.a * (m.a * p.1 + m.b * p.2 + m.e) + n.b * (m.c * p.1 + m.d * p.2 + m.f) + n.e
    grind
  · show _ = n.c * (m.a * p.1 + m.b * p.2 + m.e) + n.d * (m.c * p.1 + m.d * p.2 + m.f) + n.f
    grind
theorem img_one (p : Pt) : M6.one.img p = p := by
  unfold M6.one M6.img
  refine Prod.ext ?_ ?_
  · show 1 * p.1 + 0 * p.2 + 0 = p.1; omega
  · show 0 * p.1 + 1 * p.2 + 0 = p.2; omega
theorem img_inv {m : M6} (h : m.Ok) (p : Pt) : m.inv.img (m.img p) = p := by
  rw [← img_comp, M6.comp_inv h, img_one]
theorem img_inv' {m : M6} (h : m.Ok) (p : Pt) : m.img (m.inv.img p) = p := by
  rw [← img_comp, M6.inv_comp h, img_one]
theorem img_inj {m : M6} (h : m.Ok) {p q : Pt} (e : m.img p = m.img q) : p = q := by
  rw [← img_inv h p, e, img_inv h]
theorem on_img {m : M6} (h : m.Ok) (p a b : Pt) : onS (m.img p) (m.img a) (m.img b) = onS p a b := by
  rw [Bool.eq_iff_iff]
  refine ⟨fun z => ?_, on_img1 m⟩
  have := on_img1 m.inv z
  rwa [img_inv h, img_inv h, img_inv h] at this
theorem meet_img {m : M6} (h : m.Ok) (a b c d : Pt) : meetS (m.img a) (m.img b) (m.img c) (m.img d) = meetS a b c d := by
  have key : ∀ x y : Int, m.det * x * (m.det * y) = x * y := fun x y => by
    have e : m.det * x * (m.det * y) = m.det * m.det * (x * y) := by grind
    rw [e, M6.ok_sq h, Int.one_mul]
  unfold meetS
  rw [on_img h, on_img h, on_img h, on_img h, trn_img, trn_img, trn_img, trn_img, key, key]
theorem at_map (f : Pt → Pt) {ps : List Pt} {i : Nat} (h : i < ps.length) : atC (ps.map f) i = f (atC ps i) := by
  refine atC_of ?_
  rw [List.getElem?_map, atC_get h]; rfl
theorem nxt_map (f : Pt → Pt) {ps : List Pt} {i : Nat} (h : 0 < ps.length) : nxt (ps.map f) i = f (nxt ps i) := by
  unfold nxt
  rw [List.length_map]
  exact at_map f (Nat.mod_lt _ h)
theorem prv_map (f : Pt → Pt) {ps : List Pt} {i : Nat} (h : 0 < ps.length) : prv (ps.map f) i = f (prv ps i) := by
  unfold prv
  rw [List.length_map]
  exact at_map f (Nat.mod_lt _ h)
theorem tri_img (m : M6) {ps : List Pt} {i : Nat} (hi : i < ps.length) : tri0 (ps.map m.img) i = m.det * tri0 ps i := by
  unfold tri0
  rw [at_map _ hi, nxt_map _ (by omega), prv_map _ (by omega), trn_img]
theorem cross_img {m : M6} (h : m.Ok) {ps : List Pt} {i j : Nat} (hi : i < ps.length) (hj : j < ps.length) : crossB (ps.map m.img) i j = crossB ps i j := by
  unfold crossB
  rw [at_map _ hi, at_map _ hj, nxt_map _ (by omega), nxt_map _ (by omega), meet_img h, List.length_map]
theorem good_img {m : M6} (h : m.Ok) {ps : List Pt} (g : Good ps) : Good (ps.map m.img) := by
  constructor
  · intro i hi z
    rw [List.length_map] at hi
    rw [tri_img m hi] at z
    rcases Int.mul_eq_zero.mp z with w | w
    · rcases h with h | h <;> omega
    · exact g.1 i hi w
  · intro i j hij hj
    rw [List.length_map] at hj
    rw [cross_img h (by omega) hj]
    exact g.2 i j hij hj
theorem are_img (m : M6) : ∀ ps : List Pt, are (ps.map m.img) = m.det * are ps := by
  have key : ∀ l : List Pt, ∀ p q : Pt, pth ((p :: l ++ [q]).map m.img) = m.det * pth (p :: l ++ [q]) + (crsP (m.e, m.f) (m.img q) - crsP (m.e, m.f) (m.img p)) := by
    intro l
    induction l with
    | nil =>
      intro p q
      show crsP (m.img p) (m.img q) + 0 = m.det * (crsP p q + 0) + _
      unfold crsP M6.img M6.det; grind
    | cons x l ih =>
      intro p q
      have := ih x q
      show crsP (m.img p) (m.img x) + pth ((x :: l ++ [q]).map m.img) = m.det * (crsP p x + pth (x :: l ++ [q])) + _
      rw [this]
      have e : crsP (m.img p) (m.img x) = m.det * crsP p x + (crsP (m.e, m.f) (m.img x) - crsP (m.e, m.f) (m.img p)) := by
        unfold crsP M6.img M6.det; grind
      rw [e, Int.mul_add]; omega
  intro ps
  cases ps with
  | nil => show 0 = m.det * 0; omega
  | cons p l =>
    have := key l p p
    show pth (m.img p :: l.map m.img ++ [m.img p]) = m.det * pth (p :: l ++ [p])
    rw [List.map_append] at this
    rw [show m.img p :: l.map m.img ++ [m.img p] = (p :: l).map m.img ++ [p].map m.img from rfl, this]; omega
theorem PBd.img {n k : Nat} {m : M6} {p : Pt} (hm : MBd n m) (hp : PBd k p) : PBd (n + k + 2) (m.img p) := by
  obtain ⟨h1, h2, h3, h4, h5, h6⟩ := hm
  exact ⟨(bd_lin h1 hp.1 h2 hp.2).add (h5.mono (by omega)), (bd_lin h3 hp.1 h4 hp.2).add (h6.mono (by omega))⟩
end G

/-! ### beginning elsewhere, going the other way round: a simple path stays simple -/
namespace G
open PySem PySem.Spec PyProof.Rows L2
theorem trn_swap (a b c : Pt) : trn b a c = -trn a b c := by
  unfold trn crs dif; grind
theorem trn_back (a b c : Pt) : trn c b a = -trn a b c := by
  unfold trn crs dif; grind
theorem onS_swap (p a b : Pt) : onS p b a = onS p a b := onP_swap p a b
theorem meet_swap (a b c d : Pt) : meetS b a c d = meetS a b c d := by
  unfold meetS
  rw [onS_swap c a b, onS_swap d a b, trn_swap a b c, trn_swap a b d, Int.neg_mul_neg, Int.mul_comm (trn c d b)]
  cases onS a c d <;> cases onS b c d <;> simp
theorem meet_comm (a b c d : Pt) : meetS c d a b = meetS a b c d := by
  unfold meetS
  rw [Bool.and_comm]
  cases onS a c d <;> cases onS b c d <;> cases onS c a b <;> cases onS d a b <;> simp
/-- no two edges that are not neighbours meet -/
def Apart (ps : List Pt) : Prop := ∀ i j, i < ps.length → j < ps.length → i ≠ j → (i + 1) % ps.length ≠ j → (j + 1) % ps.length ≠ i → meetS (atC ps i) (nxt ps i) (atC ps j) (nxt ps j) = false
theorem mod_in {i n : Nat} (h : i + 1 < n) : (i + 1) % n = i + 1 := Nat.mod_eq_of_lt h
theorem mod_last {i n : Nat} (h : i + 1 = n) : (i + 1) % n = 0 := by rw [h, Nat.mod_self]
theorem good_iff {ps : List Pt} : Good ps ↔ NoDeg ps ∧ Apart ps := by
  constructor
  · rintro ⟨h1, h2⟩
    refine ⟨h1, ?_⟩
    have key : ∀ i j, i < j → j < ps.length → (i + 1) % ps.length ≠ j → (j + 1) % ps.length ≠ i → meetS (atC ps i) (nxt ps i) (atC ps j) (nxt ps j) = false := by
      intro i j hij hj n1 n2
      rw [mod_in (by omega)] at n1
      have := h2 i j (by omega) hj
      unfold crossB at this
      rwa [decide_eq_true n2, Bool.true_and] at this
    intro i j hi hj hne n1 n2
    rcases Nat.lt_or_gt_of_ne hne with z | z
    · exact key i j z hj n1 n2
    · rw [meet_comm]
      exact key j i z hi n2 n1
  · rintro ⟨h1, h2⟩
    refine ⟨h1, fun i j hij hj => ?_⟩
    unfold crossB
    by_cases hc : (j + 1) % ps.length = i
    · rw [decide_eq_false (by omega), Bool.false_and]
    · rw [decide_eq_true hc, Bool.true_and]
      exact h2 i j (by omega) hj (by omega) (by rw [mod_in (by omega)]; omega) hc
/-! beginning elsewhere -/
def shf (n k i : Nat) : Nat := if i + k < n then i + k else i + k - n
theorem at_rot {l : List Pt} {k i : Nat} (hk : k ≤ l.length) (hi : i < l.length) : atC (rot k l) i = atC l (shf l.length k i) := by
  unfold rot shf
  refine atC_of ?_
  by_cases h : i + k < l.length
  · rw [if_pos h, List.getElem?_append_left (by rw [List.length_drop]; omega), List.getElem?_drop, Nat.add_comm k i]
    exact atC_get h
  · rw [if_neg h, List.getElem?_append_right (by rw [List.length_drop]; omega), List.length_drop, List.getElem?_take_of_lt (by omega)]
    have e : i - (l.length - k) = i + k - l.length := by omega
    rw [e]
    exact atC_get (by omega)
theorem rot_len (k : Nat) (l : List Pt) : (rot k l).length = l.length := (rot_perm k l).length_eq
theorem shf_lt {n k i : Nat} (hk : k ≤ n) (hi : i < n) : shf n k i < n := by
  unfold shf; split <;> omega
theorem nxt_rot {l : List Pt} {k i : Nat} (hk : k ≤ l.length) (hi : i < l.length) : nxt (rot k l) i = nxt l (shf l.length k i) := by
  have h2 : nxt (rot k l) i = atC l (shf l.length k ((i + 1) % l.length)) := by
    unfold nxt
    rw [rot_len]
    exact at_rot hk (Nat.mod_lt _ (by omega))
  rw [h2]
  unfold nxt
  congr 1
  rcases Nat.lt_or_ge (i + 1) l.length with h | h
  · rw [mod_in h]
    unfold shf
    by_cases a : i + k < l.length
    · rw [if_pos a]
      by_cases b : i + 1 + k < l.length
      · rw [if_pos b, mod_in (by omega)]; omega
      · rw [if_neg b, mod_last (by omega)]; omega
    · rw [if_neg a, if_neg (by omega), mod_in (by omega)]; omega
  · rw [mod_last (by omega)]
    unfold shf
    by_cases a : i + k < l.length
    · rw [if_pos a]
      obtain rfl : k = 0 := by omega
      rw [if_pos (by omega), mod_last (by omega)]
    · rw [if_neg a]
      by_cases b : 0 + k < l.length
      · rw [if_pos b, mod_in (by omega)]; omega
      · rw [if_neg b, mod_last (by omega)]; omega
theorem prv_eq {l : List Pt} {i : Nat} (hi : i < l.length) : prv l i = atC l (if i = 0 then l.length - 1 else i - 1) := by
  split
  · rename_i h; subst h; exact prv_0 (by omega)
  · exact prv_in (by omega) hi
theorem prv_rot {l : List Pt} {k i : Nat} (hk : k ≤ l.length) (hi : i < l.length) : prv (rot k l) i = prv l (shf l.length k i) := by
  rw [prv_eq (by rw [rot_len]; exact hi), prv_eq (shf_lt hk hi), rot_len, at_rot hk (by split <;> omega)]
  congr 1
  unfold shf
  repeat' split
  all_goals omega
theorem good_rot {l : List Pt} {k : Nat} (hk : k ≤ l.length) (h : Good l) : Good (rot k l) := by
  obtain ⟨h1, h2⟩ := good_iff.mp h
  refine good_iff.mpr ⟨fun i hi => ?_, fun i j hi hj hne n1 n2 => ?_⟩
  · rw [rot_len] at hi
    unfold tri0
    rw [at_rot hk hi, nxt_rot hk hi, prv_rot hk hi]
    exact h1 _ (shf_lt hk hi)
  · rw [rot_len] at hi hj n1 n2
    rw [at_rot hk hi, nxt_rot hk hi, at_rot hk hj, nxt_rot hk hj]
    have key : ∀ i j, i < l.length → j < l.length → (i + 1) % l.length ≠ j → (shf l.length k i + 1) % l.length ≠ shf l.length k j := by
      intro i j hi hj n1
      have a := shf_lt hk hi
      rcases Nat.lt_or_ge (shf l.length k i + 1) l.length with z | z
      · rw [mod_in z]
        rcases Nat.lt_or_ge (i + 1) l.length with y | y
        · rw [mod_in y] at n1
          unfold shf at z ⊢
          repeat' split
          all_goals (try split at z) <;> omega
        · rw [mod_last (by omega)] at n1
          unfold shf at z ⊢
          repeat' split
          all_goals (try split at z) <;> omega
      · rw [mod_last (by omega)]
        rcases Nat.lt_or_ge (i + 1) l.length with y | y
        · rw [mod_in y] at n1
          unfold shf at z ⊢
          repeat' split
          all_goals (try split at z) <;> omega
        · rw [mod_last (by omega)] at n1
          unfold shf at z ⊢
          repeat' split
          all_goals (try split at z) <;> omega
    refine h2 _ _ (shf_lt hk hi) (shf_lt hk hj) ?_ (key i j hi hj n1) (key j i hj hi n2)
    unfold shf
    repeat' split
    all_goals omega
/-! the other way round -/
theorem at_rev {l : List Pt} {i : Nat} (hi : i < l.length) : atC l.reverse i = atC l (l.length - 1 - i) := by
  refine atC_of ?_
  rw [List.getElem?_reverse hi]
  exact atC_get (by omega)
theorem nxt_eq {l : List Pt} {i : Nat} (hi : i < l.length) : nxt l i = atC l (if i + 1 = l.length then 0 else i + 1) := by
  split
  · exact nxt_last (by assumption)
  · exact nxt_in (by omega)
theorem nxt_rev {l : List Pt} {i : Nat} (hi : i < l.length) : nxt l.reverse i = prv l (l.length - 1 - i) := by
  rw [nxt_eq (by rw [List.length_reverse]; exact hi), prv_eq (by omega), List.length_reverse, at_rev (by split <;> omega)]
  congr 1
  repeat' split
  all_goals omega
theorem prv_rev {l : List Pt} {i : Nat} (hi : i < l.length) : prv l.reverse i = nxt l (l.length - 1 - i) := by
  rw [prv_eq (by rw [List.length_reverse]; exact hi), nxt_eq (by omega), List.length_reverse, at_rev (by split <;> omega)]
  congr 1
  repeat' split
  all_goals omega
theorem tri_rev {l : List Pt} {i : Nat} (hi : i < l.length) : tri0 l.reverse i = -tri0 l (l.length - 1 - i) := by
  unfold tri0
  rw [at_rev hi, nxt_rev hi, prv_rev hi, trn_back]
/-- the edge of l that is the i-th one of l.reverse, turned -/
def bck (n i : Nat) : Nat := if i + 1 = n then n - 1 else n - 2 - i
theorem edge_rev {l : List Pt} {i : Nat} (hi : i < l.length) : atC l.reverse i = nxt l (bck l.length i) ∧ nxt l.reverse i = atC l (bck l.length i) := by
  unfold bck
  constructor
  · rw [at_rev hi, nxt_eq (by split <;> omega)]
    congr 1
    repeat' split
    all_goals omega
  · rw [nxt_rev hi, prv_eq (by omega)]
    congr 1
    repeat' split
    all_goals omega
theorem good_rev {l : List Pt} (h : Good l) : Good l.reverse := by
  obtain ⟨h1, h2⟩ := good_iff.mp h
  refine good_iff.mpr ⟨fun i hi => ?_, fun i j hi hj hne n1 n2 => ?_⟩
  · rw [List.length_reverse] at hi
    rw [tri_rev hi]
    have := h1 (l.length - 1 - i) (by omega)
    omega
  · rw [List.length_reverse] at hi hj n1 n2
    rw [(edge_rev hi).1, (edge_rev hi).2, (edge_rev hj).1, (edge_rev hj).2, meet_swap, meet_comm, meet_swap, meet_comm]
    have lt : ∀ i, i < l.length → bck l.length i < l.length := fun i hi => by unfold bck; split <;> omega
    have key : ∀ i j, i < l.length → j < l.length → (i + 1) % l.length ≠ j → (bck l.length j + 1) % l.length ≠ bck l.length i := by
      intro i j hi hj n1
      rcases Nat.lt_or_ge (bck l.length j + 1) l.length with z | z
      · rw [mod_in z]
        rcases Nat.lt_or_ge (i + 1) l.length with y | y
        · rw [mod_in y] at n1
          unfold bck at z ⊢
          repeat' split
          all_goals (try split at z) <;> omega
        · rw [mod_last (by omega)] at n1
          unfold bck at z ⊢
          repeat' split
          all_goals (try split at z) <;> omega
      · have zz := lt j hj
        rw [mod_last (by omega)]
        rcases Nat.lt_or_ge (i + 1) l.length with y | y
        · rw [mod_in y] at n1
          unfold bck at z zz ⊢
          repeat' split
          all_goals (try split at z) <;> (try split at zz) <;> omega
        · rw [mod_last (by omega)] at n1
          unfold bck at z zz ⊢
          repeat' split
          all_goals (try split at z) <;> (try split at zz) <;> omega
    refine h2 _ _ (lt i hi) (lt j hj) ?_ (key j i hj hi n2) (key i j hi hj n1)
    unfold bck
    repeat' split
    all_goals omega
theorem good_spn {ps : List Pt} (h : Good ps) : Good (spn ps) := by
  unfold spn; split
  · exact h
  · exact good_rev h
theorem idx_le (p : Pt) : ∀ l : List Pt, idx p l ≤ l.length
  | [] => Nat.le_refl _
  | q :: l => by
    rw [idx]; split
    · exact Nat.zero_le _
    · exact Nat.succ_le_succ (idx_le p l)
theorem good_arr {ps : List Pt} (h : Good ps) : Good (arr ps) := good_rot (idx_le _ _) (good_spn h)
end G

/-! ### sums around a closed path; multiples -/
namespace G
open PySem PySem.Spec PyProof.Rows L2
section
variable (g : Pt → Pt → Int)
def pthG : List Pt → Int
  | a :: b :: l => g a b + pthG (b :: l)
  | _ => 0
theorem pthG_cons2 : ∀ l : List Pt, pthG g l = ((cons2 l).map fun e => g e.1 e.2).sum
  | [] => rfl
  | [_] => rfl
  | a :: b :: l => by
    rw [pthG, cons2, List.map_cons, List.sum_cons, pthG_cons2 (b :: l)]
theorem pthG_app : ∀ (l : List Pt) (a : Pt) (m : List Pt), pthG g (l ++ a :: m) = pthG g (l ++ [a]) + pthG g (a :: m)
  | [], a, m => by
    show pthG g (a :: m) = pthG g [a] + _
    rw [show pthG g [a] = 0 from rfl, Int.zero_add]
  | [b], a, m => by
    show g b a + pthG g (a :: m) = g b a + pthG g [a] + _
    rw [show pthG g [a] = 0 from rfl, Int.add_zero]
  | b :: c :: l, a, m => by
    show g b c + pthG g (c :: l ++ a :: m) = g b c + pthG g (c :: l ++ [a]) + _
    rw [pthG_app (c :: l) a m, Int.add_assoc]
theorem pthG_rev (hs : ∀ a b, g a b = g b a) : ∀ l : List Pt, pthG g l.reverse = pthG g l
  | [] => rfl
  | [_] => rfl
  | a :: b :: l => by
    rw [List.reverse_cons, List.reverse_cons, List.append_assoc]
    show pthG g (l.reverse ++ b :: [a]) = _
    rw [pthG_app, ← List.reverse_cons, pthG_rev hs (b :: l)]
    show _ + (g b a + 0) = g a b + _
    rw [hs b a]; omega
/-- the sum of g over the edges -/
def areG : List Pt → Int
  | [] => 0
  | p :: l => pthG g (p :: l ++ [p])
theorem areG_rot1 (p : Pt) (l : List Pt) : areG g (l ++ [p]) = areG g (p :: l) := by
  cases l with
  | nil => rfl
  | cons q l =>
    show pthG g (q :: l ++ [p] ++ [q]) = pthG g (p :: q :: l ++ [p])
    rw [List.append_assoc]
    show pthG g ((q :: l) ++ p :: [q]) = g p q + pthG g (q :: l ++ [p])
    rw [pthG_app]
    show _ + (g p q + 0) = _
    omega
theorem areG_rot : ∀ (l m : List Pt), areG g (l ++ m) = areG g (m ++ l)
  | [], m => by rw [List.nil_append, List.append_nil]
  | p :: l, m => by
    have e := areG_rot1 g p (l ++ m)
    have i := areG_rot l (m ++ [p])
    rw [List.append_assoc, List.singleton_append] at i
    rw [List.cons_append, ← e, List.append_assoc, i]
theorem areG_rev (hs : ∀ a b, g a b = g b a) : ∀ l : List Pt, areG g l.reverse = areG g l
  | [] => rfl
  | p :: l => by
    rw [List.reverse_cons, areG_rot1]
    show pthG g (p :: l.reverse ++ [p]) = pthG g (p :: l ++ [p])
    rw [← pthG_rev g hs, List.reverse_append]
    have e : (p :: l.reverse).reverse = l ++ [p] := by
      rw [List.reverse_cons, List.reverse_reverse]
    rw [e]
    rfl
theorem areG_rotj (j : Nat) (l : List Pt) : areG g (rot j l) = areG g l := by
  unfold rot
  rw [← areG_rot, List.take_append_drop]
theorem sum_edgs (ps : List Pt) : ((edgs ps).map fun e => g e.1 e.2).sum = areG g ps := by
  cases ps with
  | nil => rfl
  | cons p l =>
    rw [edgs_cons2]
    exact (pthG_cons2 g (p :: l ++ [p])).symm
theorem areG_arr (hs : ∀ a b, g a b = g b a) (ps : List Pt) : areG g (arr ps) = areG g ps := by
  unfold arr
  rw [areG_rotj]
  unfold spn
  split
  · rfl
  · exact areG_rev g hs ps
end
/-- the content of an edge -/
def edc (a b : Pt) : Int := cont (dif b a)
theorem edc_symm (a b : Pt) : edc a b = edc b a := by
  unfold edc cont dif
  show ((Int.gcd (b.1 - a.1) (b.2 - a.2) : Nat) : Int) = ((Int.gcd (a.1 - b.1) (a.2 - b.2) : Nat) : Int)
  have e1 : b.1 - a.1 = -(a.1 - b.1) := by omega
  have e2 : b.2 - a.2 = -(a.2 - b.2) := by omega
  rw [e1, e2, Int.gcd_neg, Int.neg_gcd]
/-- the number of grid points on the border -/
def brd (ps : List Pt) : Int := areG edc ps
theorem brd_arr (ps : List Pt) : brd (arr ps) = brd ps := areG_arr edc edc_symm ps
def mulP (k : Int) (p : Pt) : Pt := (p.1 * k, p.2 * k)
theorem edc_mul {k : Int} (hk : 0 < k) (a b : Pt) : edc (mulP k a) (mulP k b) = k * edc a b := by
  unfold edc cont dif mulP
  show ((Int.gcd (b.1 * k - a.1 * k) (b.2 * k - a.2 * k) : Nat) : Int) = k * ((Int.gcd (b.1 - a.1) (b.2 - a.2) : Nat) : Int)
  rw [← Int.sub_mul, ← Int.sub_mul, Int.gcd_mul_right, Int.natCast_mul]
  have e : ((k.natAbs : Nat) : Int) = k := by omega
  rw [e, Int.mul_comm]
theorem pthG_map {g h : Pt → Pt → Int} {f : Pt → Pt} {c : Int} (e : ∀ a b, h (f a) (f b) = c * g a b) : ∀ l : List Pt, pthG h (l.map f) = c * pthG g l
  | [] => by show 0 = c * 0; omega
  | [_] => by show 0 = c * 0; omega
  | a :: b :: l => by
    show h (f a) (f b) + pthG h ((b :: l).map f) = c * (g a b + pthG g (b :: l))
    rw [e, pthG_map e (b :: l), Int.mul_add]
theorem areG_map {g h : Pt → Pt → Int} {f : Pt → Pt} {c : Int} (e : ∀ a b, h (f a) (f b) = c * g a b) (l : List Pt) : areG h (l.map f) = c * areG g l := by
  cases l with
  | nil => show 0 = c * 0; omega
  | cons p l =>
    have := pthG_map e (p :: l ++ [p])
    rw [List.map_append] at this
    exact this
theorem brd_mul {k : Int} (hk : 0 < k) (ps : List Pt) : brd (ps.map (mulP k)) = k * brd ps := areG_map (edc_mul hk) ps
theorem pth_G (l : List Pt) : pth l = pthG crsP l := by rw [pth_cons2, pthG_cons2]
theorem are_G (l : List Pt) : are l = areG crsP l := by
  cases l with
  | nil => rfl
  | cons p l => exact pth_G _
theorem are_mul (k : Int) (ps : List Pt) : are (ps.map (mulP k)) = k * k * are ps := by
  rw [are_G, are_G]
  refine areG_map (fun a b => ?_) ps
  unfold crsP mulP
  show a.1 * k * (b.2 * k) - a.2 * k * (b.1 * k) = _
  grind
theorem trn_mul (k : Int) (a b c : Pt) : trn (mulP k a) (mulP k b) (mulP k c) = k * k * trn a b c := by
  unfold trn crs dif mulP
  show (b.1 * k - a.1 * k) * (c.2 * k - b.2 * k) - (b.2 * k - a.2 * k) * (c.1 * k - b.1 * k) = k * k * ((b.1 - a.1) * (c.2 - b.2) - (b.2 - a.2) * (c.1 - b.1))
  grind
theorem on_mul {k : Int} (hk : 0 < k) (p a b : Pt) : onS (mulP k p) (mulP k a) (mulP k b) = onS p a b := by
  rw [Bool.eq_iff_iff, on_iff, on_iff]
  constructor
  · rintro ⟨s, t, hs, ht, hst, e1, e2⟩
    refine ⟨s, t, hs, ht, hst, ?_, ?_⟩
    · refine Int.eq_of_mul_eq_mul_right (show k ≠ 0 by omega) ?_
      have e1 : (s + t) * (p.1 * k) = s * (a.1 * k) + t * (b.1 * k) := e1
      grind
    · refine Int.eq_of_mul_eq_mul_right (show k ≠ 0 by omega) ?_
      have e2 : (s + t) * (p.2 * k) = s * (a.2 * k) + t * (b.2 * k) := e2
      grind
  · rintro ⟨s, t, hs, ht, hst, e1, e2⟩
    refine ⟨s, t, hs, ht, hst, ?_, ?_⟩
    · show (s + t) * (p.1 * k) = s * (a.1 * k) + t * (b.1 * k)
      grind
    · show (s + t) * (p.2 * k) = s * (a.2 * k) + t * (b.2 * k)
      grind
theorem neg_mul_pos {c x : Int} (hc : 0 < c) : c * x < 0 ↔ x < 0 := by
  constructor
  · intro h
    rcases Int.lt_or_le x 0 with z | z
    · exact z
    · have := Int.mul_nonneg (show 0 ≤ c by omega) z; omega
  · exact Int.mul_neg_of_pos_of_neg hc
theorem meet_mul {k : Int} (hk : 0 < k) (a b c d : Pt) : meetS (mulP k a) (mulP k b) (mulP k c) (mulP k d) = meetS a b c d := by
  have hk2 : 0 < k * k := Int.mul_pos hk hk
  have key : ∀ x y : Int, decide (k * k * x * (k * k * y) < 0) = decide (x * y < 0) := fun x y => by
    have e : k * k * x * (k * k * y) = (k * k) * (k * k) * (x * y) := by grind
    rw [e]
    exact decide_eq_decide.mpr (neg_mul_pos (Int.mul_pos hk2 hk2))
  unfold meetS
  rw [on_mul hk, on_mul hk, on_mul hk, on_mul hk, trn_mul, trn_mul, trn_mul, trn_mul, key, key]
theorem good_mul {k : Int} (hk : 0 < k) {ps : List Pt} (g : Good ps) : Good (ps.map (mulP k)) := by
  constructor
  · intro i hi z
    rw [List.length_map] at hi
    unfold tri0 at z
    rw [at_map _ hi, nxt_map _ (by omega), prv_map _ (by omega), trn_mul] at z
    rcases Int.mul_eq_zero.mp z with w | w
    · have := Int.mul_pos hk hk; omega
    · exact g.1 i hi w
  · intro i j hij hj
    rw [List.length_map] at hj
    have := g.2 i j hij hj
    unfold crossB at this ⊢
    rwa [at_map _ (show i < ps.length by omega), at_map _ hj, nxt_map _ (by omega), nxt_map _ (by omega), meet_mul hk, List.length_map]
/-! sizes -/
theorem sum_bd {n : Nat} : ∀ {l : List Int}, (∀ x ∈ l, Bd n x) → Bd (n + l.length) l.sum
  | [], _ => by
    show (0 : Int).natAbs < 2 ^ (n + 0)
    exact Nat.two_pow_pos _
  | x :: l, h => by
    have h1 := h x List.mem_cons_self
    have h2 := sum_bd (l := l) fun y hy => h y (List.mem_cons_of_mem _ hy)
    rw [List.sum_cons, List.length_cons]
    exact (h1.mono (show n ≤ n + l.length by omega)).add h2
theorem cont_le {n : Nat} {p : Pt} (b : PBd n p) : Bd (n + 1) (cont p) := by
  unfold cont Bd
  rw [Int.natAbs_natCast]
  have h1 : p.1.natAbs < 2 ^ n := b.1
  have h2 : p.2.natAbs < 2 ^ n := b.2
  have e : 2 ^ (n + 1) = 2 ^ n + 2 ^ n := by rw [Nat.pow_succ]; omega
  by_cases z : p.1 = 0
  · rw [z, Int.gcd_zero_left]; omega
  · have := Int.gcd_le_natAbs_left (b := p.2) z
    omega
theorem edgs_mem {ps : List Pt} {e : Ed} (h : e ∈ edgs ps) : e.1 ∈ ps ∧ e.2 ∈ ps := by
  unfold edgs at h
  obtain ⟨i, hi, rfl⟩ := List.mem_map.mp h
  have hi := List.mem_range.mp hi
  exact ⟨atC_mem hi, nxt_mem (by omega)⟩
theorem edgs_len (ps : List Pt) : (edgs ps).length = ps.length := by unfold edgs; rw [List.length_map, List.length_range]
theorem brd_bd {n : Nat} {ps : List Pt} (h : AllBd n ps) : Bd (n + 2 + ps.length) (brd ps) := by
  unfold brd
  rw [← sum_edgs]
  have := sum_bd (n := n + 2) (l := (edgs ps).map fun e => edc e.1 e.2) fun x hx => by
    obtain ⟨e, he, rfl⟩ := List.mem_map.mp hx
    obtain ⟨m1, m2⟩ := edgs_mem he
    exact cont_le ((h _ m2).dif (h _ m1))
  rwa [List.length_map, edgs_len] at this
theorem are_bd {n : Nat} {ps : List Pt} (h : AllBd n ps) : Bd (n + n + 1 + ps.length) (are ps) := by
  rw [are_G, ← sum_edgs]
  have := sum_bd (n := n + n + 1) (l := (edgs ps).map fun e => crsP e.1 e.2) fun x hx => by
    obtain ⟨e, he, rfl⟩ := List.mem_map.mp hx
    obtain ⟨m1, m2⟩ := edgs_mem he
    exact ((h _ m1).1.mul (h _ m2).2).sub ((h _ m1).2.mul (h _ m2).1)
  rwa [List.length_map, edgs_len] at this
/-- the numbers of inner points and of all points, by the formula -/
def inN (ps : List Pt) : Int := (are ps - brd ps + 2) / 2
def toN (ps : List Pt) : Int := inN ps + brd ps
end G

/-! ### corners on a convex curve -/
namespace G
open PySem PySem.Spec PyProof.Rows L2
/-- every three corners turn left -/
def Cvx : List Pt → Prop
  | [] => True
  | p :: l => l.Pairwise (fun q r => 0 < trn p q r) ∧ Cvx l
theorem Cvx.sub {l m : List Pt} (s : l.Sublist m) : Cvx m → Cvx l := by
  induction s with
  | slnil => exact fun h => h
  | cons a s ih => exact fun h => ih h.2
  | cons_cons a s ih => exact fun h => ⟨h.1.sublist s, ih h.2⟩
theorem at_succ (p : Pt) (l : List Pt) (i : Nat) : atC (p :: l) (i + 1) = atC l i := by
  unfold atC
  rw [List.getD_eq_getElem?_getD, List.getD_eq_getElem?_getD, List.getElem?_cons_succ]
theorem Cvx.at : ∀ {l : List Pt} {i j k : Nat}, Cvx l → i < j → j < k → k < l.length → 0 < trn (atC l i) (atC l j) (atC l k)
  | [], _, _, _, _, _, _, h => absurd h (Nat.not_lt_zero _)
  | p :: l, 0, j + 1, k + 1, h, hij, hjk, hk => by
    rw [at_succ, at_succ]
    exact pw_at h.1 (show j < k by omega) (atC_get (by simp at hk; omega)) (atC_get (by simpa using hk))
  | p :: l, i + 1, j + 1, k + 1, h, hij, hjk, hk => by
    rw [at_succ, at_succ, at_succ]
    exact Cvx.at h.2 (by omega) (by omega) (by simpa using hk)
  | p :: l, _, 0, _, _, hij, _, _ => absurd hij (Nat.not_lt_zero _)
  | p :: l, _, _, 0, _, _, hjk, _ => absurd hjk (Nat.not_lt_zero _)
theorem trn_rot (a b c : Pt) : trn c a b = trn a b c := by
  unfold trn crs dif; grind
/-- every other corner is left of an edge -/
theorem Cvx.left {l : List Pt} (h : Cvx l) {i k : Nat} (hi : i < l.length) (hk : k < l.length) (n1 : k ≠ i) (n2 : (i + 1) % l.length ≠ k) : 0 < trn (atC l i) (nxt l i) (atC l k) := by
  rcases Nat.lt_or_ge (i + 1) l.length with z | z
  · rw [mod_in z] at n2
    rw [nxt_in z]
    rcases Nat.lt_or_ge k i with y | y
    · rw [← trn_rot]; exact h.at y (by omega) z
    · exact h.at (by omega) (by omega) hk
  · rw [mod_last (by omega)] at n2
    rw [nxt_last (by omega), trn_rot]
    exact h.at (show 0 < k by omega) (show k < i by omega) hi
theorem Cvx.tri {l : List Pt} (h : Cvx l) (h3 : 3 ≤ l.length) {i : Nat} (hi : i < l.length) : 0 < tri0 l i := by
  unfold tri0
  rw [prv_eq hi, nxt_eq hi]
  by_cases a : i = 0
  · subst a
    rw [if_pos rfl, if_neg (by omega), trn_rot]
    exact h.at (by omega) (by omega) (by omega)
  · rw [if_neg a]
    by_cases b : i + 1 = l.length
    · rw [if_pos b, ← trn_rot]
      exact h.at (by omega) (by omega) hi
    · rw [if_neg b]
      exact h.at (by omega) (by omega) (by omega)
theorem Cvx.good {l : List Pt} (h : Cvx l) (h3 : 3 ≤ l.length) : Good l := by
  refine good_iff.mpr ⟨fun i hi => ?_, fun i j hi hj hne n1 n2 => ?_⟩
  · have := h.tri h3 hi; omega
  · have mj : (j + 1) % l.length < l.length := Nat.mod_lt _ (by omega)
    have mi : (i + 1) % l.length < l.length := Nat.mod_lt _ (by omega)
    have inj : (i + 1) % l.length ≠ (j + 1) % l.length := by
      intro z
      rcases Nat.lt_or_ge (i + 1) l.length with y | y
      · rw [mod_in y] at z
        rcases Nat.lt_or_ge (j + 1) l.length with x | x
        · rw [mod_in x] at z; omega
        · rw [mod_last (by omega)] at z; omega
      · rw [mod_last (by omega)] at z
        rcases Nat.lt_or_ge (j + 1) l.length with x | x
        · rw [mod_in x] at z; omega
        · omega
    have t1 := h.left hi hj (by omega) n1
    have t2 : 0 < trn (atC l i) (nxt l i) (nxt l j) := h.left hi mj n2 inj
    have t3 := h.left hj hi hne n2
    have t4 : 0 < trn (atC l j) (nxt l j) (nxt l i) := h.left hj mi n1 (Ne.symm inj)
    cases e : meetS (atC l i) (nxt l i) (atC l j) (nxt l j) with
    | false => rfl
    | true =>
      rcases meet_cases e with ⟨h1, _⟩ | h1 | h1 | h1 | h1
      · have := Int.mul_pos t3 t4; omega
      · have := (on_box h1).1; omega
      · have := (on_box h1).1; omega
      · have := (on_box h1).1; omega
      · have := (on_box h1).1; omega
/-- triangles from p -/
def fan (p : Pt) : List Pt → Int
  | q :: r :: l => trn p q r + fan p (r :: l)
  | _ => 0
theorem fan_pth (p : Pt) : ∀ (l : List Pt) (q : Pt), pth (q :: l ++ [p]) + crs p q = fan p (q :: l)
  | [], q => by
    show crsP q p + 0 + crs p q = 0
    unfold crsP crs; grind
  | r :: l, q => by
    show crsP q r + pth (r :: l ++ [p]) + crs p q = trn p q r + fan p (r :: l)
    rw [← fan_pth p l r, crs_dif]
    have : crsP q r = crs q r := rfl
    rw [this]; omega
theorem are_fan (p q : Pt) (l : List Pt) : are (p :: q :: l) = fan p (q :: l) := by
  rw [← fan_pth]
  show crsP p q + pth (q :: l ++ [p]) = _
  have : crsP p q = crs p q := rfl
  omega
theorem fan_pos {p : Pt} : ∀ {l : List Pt} {q : Pt}, (q :: l).Pairwise (fun q r => 0 < trn p q r) → 0 ≤ fan p (q :: l) ∧ (l ≠ [] → 0 < fan p (q :: l))
  | [], q, _ => ⟨Int.le_refl _, fun h => absurd rfl h⟩
  | r :: l, q, h => by
    obtain ⟨h1, h2⟩ := List.pairwise_cons.mp h
    have := (fan_pos h2).1
    have t := h1 r List.mem_cons_self
    show 0 ≤ trn p q r + fan p (r :: l) ∧ (_ → 0 < trn p q r + fan p (r :: l))
    constructor
    · omega
    · intro _; omega
theorem Cvx.are {l : List Pt} (h : Cvx l) (h3 : 3 ≤ l.length) : 0 < G.are l := by
  match l, h, h3 with
  | p :: q :: r :: l, h, _ =>
    rw [are_fan]
    exact (fan_pos h.1).2 (by simp)
/-- all turns left, a positive area: such corners are kept as a convex polygon, also of an image -/
theorem reflex_img {ps : List Pt} (ht : ∀ i, i < ps.length → 0 < tri0 ps i) (ha : 0 < G.are ps) {m : M6} (hm : m.Ok) : reflex (arr (ps.map m.img)) = none := by
  have hl : (ps.map m.img).length = ps.length := List.length_map _
  refine reflex_none fun i hi => ?_
  rw [arr_len, hl] at hi
  have key : ∀ j, j < ps.length → 0 < tri0 (spn (ps.map m.img)) j := by
    intro j hj
    unfold spn
    rw [are_img]
    rcases hm with e | e
    · rw [e, if_pos (by omega), tri_img m hj, e]
      have := ht j hj; omega
    · rw [e, if_neg (by omega), tri_rev (by omega), hl, tri_img m (by omega), e]
      have := ht (ps.length - 1 - j) (by omega); omega
  have hs : (spn (ps.map m.img)).length = ps.length := by rw [spn_len, hl]
  unfold arr
  generalize hk : idx (minPt (spn (ps.map m.img))) (spn (ps.map m.img)) = k
  have hkl : k ≤ (spn (ps.map m.img)).length := by rw [← hk]; exact idx_le _ _
  have e : tri0 (rot k (spn (ps.map m.img))) i = tri0 (spn (ps.map m.img)) (shf ps.length k i) := by
    unfold tri0
    rw [at_rot hkl (by omega), nxt_rot hkl (by omega), prv_rot hkl (by omega), hs]
  rw [e]
  have := key (shf ps.length k i) (shf_lt (by omega) hi)
  omega
/-! contents under maps; parities; cutting apart -/
theorem edc_img {m : M6} (h : m.Ok) (a b : Pt) : edc (m.img a) (m.img b) = edc a b := by
  have key : ∀ (n : M6) (x y : Pt), (Int.gcd (y.1 - x.1) (y.2 - x.2)) ∣ Int.gcd ((n.img y).1 - (n.img x).1) ((n.img y).2 - (n.img x).2) := by
    intro n x y
    have d1 : ((Int.gcd (y.1 - x.1) (y.2 - x.2) : Nat) : Int) ∣ y.1 - x.1 := Int.gcd_dvd_left ..
    have d2 : ((Int.gcd (y.1 - x.1) (y.2 - x.2) : Nat) : Int) ∣ y.2 - x.2 := Int.gcd_dvd_right ..
    have e1 : (n.img y).1 - (n.img x).1 = n.a * (y.1 - x.1) + n.b * (y.2 - x.2) := by
      show (n.a * y.1 + n.b * y.2 + n.e) - (n.a * x.1 + n.b * x.2 + n.e) = _
      grind
    have e2 : (n.img y).2 - (n.img x).2 = n.c * (y.1 - x.1) + n.d * (y.2 - x.2) := by
      show (n.c * y.1 + n.d * y.2 + n.f) - (n.c * x.1 + n.d * x.2 + n.f) = _
      grind
    rw [e1, e2]
    refine Int.dvd_gcd (Int.dvd_add ?_ ?_) (Int.dvd_add ?_ ?_)
    · exact Int.dvd_trans d1 (Int.dvd_mul_left _ _)
    · exact Int.dvd_trans d2 (Int.dvd_mul_left _ _)
    · exact Int.dvd_trans d1 (Int.dvd_mul_left _ _)
    · exact Int.dvd_trans d2 (Int.dvd_mul_left _ _)
  unfold edc cont dif
  show ((Int.gcd ((m.img b).1 - (m.img a).1) ((m.img b).2 - (m.img a).2) : Nat) : Int) = ((Int.gcd (b.1 - a.1) (b.2 - a.2) : Nat) : Int)
  have h2 := key m.inv (m.img a) (m.img b)
  rw [img_inv h, img_inv h] at h2
  rw [Nat.dvd_antisymm h2 (key m a b)]
theorem brd_img {m : M6} (h : m.Ok) (ps : List Pt) : brd (ps.map m.img) = brd ps := by
  have := areG_map (g := edc) (h := edc) (f := m.img) (c := 1) (fun a b => by rw [edc_img h, Int.one_mul]) ps
  rw [Int.one_mul] at this
  exact this
theorem gcd_par (x y : Int) : ∃ k : Int, ((Int.gcd x y : Nat) : Int) = x + y + x * y + 2 * k := by
  have d1 : ((Int.gcd x y : Nat) : Int) ∣ x := Int.gcd_dvd_left ..
  have d2 : ((Int.gcd x y : Nat) : Int) ∣ y := Int.gcd_dvd_right ..
  obtain ⟨a, ha⟩ := d1
  obtain ⟨b, hb⟩ := d2
  generalize hg : ((Int.gcd x y : Nat) : Int) = g at ha hb
  rcases Int.emod_two_eq x with hx | hx
  · rcases Int.emod_two_eq y with hy | hy
    · have d : (2 : Int) ∣ g := by
        rw [← hg]
        exact Int.natCast_dvd_natCast.mpr (Int.dvd_gcd (c := 2) (Int.dvd_of_emod_eq_zero hx) (Int.dvd_of_emod_eq_zero hy))
      obtain ⟨c, hc⟩ := d
      obtain ⟨u, hu⟩ := Int.dvd_of_emod_eq_zero hx
      obtain ⟨v, hv⟩ := Int.dvd_of_emod_eq_zero hy
      exact ⟨c - u - v - 2 * u * v, by rw [hc, hu, hv]; grind⟩
    · obtain ⟨u, hu⟩ := Int.dvd_of_emod_eq_zero hx
      obtain ⟨v, hv⟩ : ∃ v, y = 2 * v + 1 := ⟨y / 2, by omega⟩
      have go : g % 2 = 1 := by
        rcases Int.emod_two_eq g with z | z
        · exfalso
          obtain ⟨c, hc⟩ := Int.dvd_of_emod_eq_zero z
          have : y = 2 * (c * b) := by rw [hb, hc]; grind
          omega
        · exact z
      obtain ⟨c, hc⟩ : ∃ c, g = 2 * c + 1 := ⟨g / 2, by omega⟩
      exact ⟨c - u - v - u * (2 * v + 1), by rw [hc, hu, hv]; grind⟩
  · obtain ⟨u, hu⟩ : ∃ u, x = 2 * u + 1 := ⟨x / 2, by omega⟩
    have go : g % 2 = 1 := by
      rcases Int.emod_two_eq g with z | z
      · exfalso
        obtain ⟨c, hc⟩ := Int.dvd_of_emod_eq_zero z
        have : x = 2 * (c * a) := by rw [ha, hc]; grind
        omega
      · exact z
    obtain ⟨c, hc⟩ : ∃ c, g = 2 * c + 1 := ⟨g / 2, by omega⟩
    exact ⟨c - u - y - u * y, by rw [hc, hu]; grind⟩
/-- twice the area and the border are of one parity -/
theorem par_step (a b : Pt) : ∃ k : Int, crsP a b + edc a b = (b.1 * b.2 + b.1 + b.2) - (a.1 * a.2 + a.1 + a.2) + 2 * k := by
  obtain ⟨k, hk⟩ := gcd_par (b.1 - a.1) (b.2 - a.2)
  refine ⟨k - a.2 * (b.1 - a.1), ?_⟩
  have e : edc a b = ((Int.gcd (b.1 - a.1) (b.2 - a.2) : Nat) : Int) := rfl
  rw [e, hk]
  unfold crsP
  grind
theorem par_pth : ∀ (l : List Pt) (p q : Pt), ∃ k : Int, pthG crsP (p :: l ++ [q]) + pthG edc (p :: l ++ [q]) = (q.1 * q.2 + q.1 + q.2) - (p.1 * p.2 + p.1 + p.2) + 2 * k
  | [], p, q => by
    obtain ⟨k, hk⟩ := par_step p q
    exact ⟨k, by show crsP p q + 0 + (edc p q + 0) = _; omega⟩
  | x :: l, p, q => by
    obtain ⟨k, hk⟩ := par_step p x
    obtain ⟨j, hj⟩ := par_pth l x q
    exact ⟨k + j, by show crsP p x + pthG crsP (x :: l ++ [q]) + (edc p x + pthG edc (x :: l ++ [q])) = _; omega⟩
theorem par (ps : List Pt) : ∃ k : Int, G.are ps + brd ps = 2 * k := by
  cases ps with
  | nil => exact ⟨0, rfl⟩
  | cons p l =>
    obtain ⟨k, hk⟩ := par_pth l p p
    refine ⟨k, ?_⟩
    rw [are_G]
    show pthG crsP (p :: l ++ [p]) + pthG edc (p :: l ++ [p]) = _
    omega
/-- cut along u v -/
theorem areG_cut (g : Pt → Pt → Int) (X Y Z : List Pt) (u v : Pt) : areG g (u :: Y ++ [v]) + areG g (X ++ u :: v :: Z) = areG g (X ++ u :: Y ++ v :: Z) + (g u v + g v u) := by
  have e1 : areG g (u :: Y ++ [v]) = pthG g (u :: Y ++ [v]) + g v u := by
    show pthG g (u :: (Y ++ [v]) ++ [u]) = _
    have : u :: (Y ++ [v]) ++ [u] = (u :: Y) ++ v :: [u] := by simp
    rw [this, pthG_app]
    show _ + (g v u + 0) = _
    omega
  have e2 : areG g (X ++ u :: v :: Z) = g u v + pthG g (v :: (Z ++ X) ++ [u]) := by
    rw [areG_rot]
    show pthG g (u :: v :: Z ++ X ++ [u]) = _
    have : u :: v :: Z ++ X ++ [u] = u :: v :: (Z ++ X ++ [u]) := by simp
    rw [this]
    show g u v + pthG g (v :: (Z ++ X ++ [u])) = _
    rfl
  have e3 : areG g (X ++ u :: Y ++ v :: Z) = pthG g (u :: Y ++ [v]) + pthG g (v :: (Z ++ X) ++ [u]) := by
    rw [List.append_assoc, areG_rot]
    show pthG g (u :: (Y ++ v :: Z) ++ X ++ [u]) = _
    have : u :: (Y ++ v :: Z) ++ X ++ [u] = (u :: Y) ++ v :: (Z ++ X ++ [u]) := by simp
    rw [this, pthG_app]
    rfl
  rw [e1, e2, e3]; omega
end G

/-! ### texts -/
namespace G
open PySem PySem.Spec PyProof.Rows L2
theorem str_ext {a b : Str} (h : a.cps.toList = b.cps.toList) : a = b := by
  cases a; cases b
  congr 1
  exact Array.toList_inj.mp h
theorem cps_app (a b : Str) : (a ++ b).cps.toList = a.cps.toList ++ b.cps.toList := by
  show (a.cps ++ b.cps).toList = _
  exact Array.toList_append
theorem str_assoc (a b c : Str) : a ++ b ++ c = a ++ (b ++ c) := str_ext (by rw [cps_app, cps_app, cps_app, cps_app, List.append_assoc])
theorem str_e (a : Str) : Str.empty ++ a = a := str_ext (by rw [cps_app]; rfl)
theorem log_lt {n : Int} {k : Nat} (hk : 0 < k) (h : Bd k n) : n.natAbs.log2 < k := by
  by_cases z : n.natAbs = 0
  · rw [z]; exact hk
  · exact (Nat.log2_lt z).mpr h
theorem txt_len {n : Int} {k : Nat} (hk : 0 < k) (h : Bd k n) : (Str.ofString (toString n)).length ≤ k + 1 := by
  rw [PySem.ofString_length]; exact int_text_length_le hk (log_lt hk h)
end G

/-! ### corners as kept: the same whatever was given -/
namespace G
open PySem PySem.Spec PyProof.Rows L2
theorem minPt_mem : ∀ {ps : List Pt}, ps ≠ [] → minPt ps ∈ ps
  | [], h => absurd rfl h
  | p :: qs, _ => minP_mem qs p
theorem minP_least : ∀ (qs : List Pt) (p : Pt), ¬ ltPt p (minP p qs) ∧ ∀ q ∈ qs, ¬ ltPt q (minP p qs)
  | [], p => ⟨by show ¬ ltPt p p; unfold ltPt; omega, fun q h => nomatch h⟩
  | y :: qs, p => by
    have hs := dataLt_pt y p
    show ¬ ltPt p (minP (if PySem.W.dataLt (PySem.W.Datum.toD y) (PySem.W.Datum.toD p) then y else p) qs) ∧ ∀ q ∈ y :: qs, ¬ ltPt q (minP (if PySem.W.dataLt (PySem.W.Datum.toD y) (PySem.W.Datum.toD p) then y else p) qs)
    by_cases h : ltPt y p
    · rw [hs, decide_eq_true h, if_pos rfl]
      obtain ⟨h1, h2⟩ := minP_least qs y
      refine ⟨fun z => ?_, fun q hq => ?_⟩
      · unfold ltPt at *; omega
      · rcases List.mem_cons.mp hq with rfl | hq
        · exact h1
        · exact h2 q hq
    · rw [hs, decide_eq_false h, if_neg (by decide)]
      obtain ⟨h1, h2⟩ := minP_least qs p
      refine ⟨h1, fun q hq => ?_⟩
      rcases List.mem_cons.mp hq with rfl | hq
      · intro z; unfold ltPt at *; omega
      · exact h2 q hq
theorem minPt_least {ps : List Pt} {q : Pt} (h : q ∈ ps) : ¬ ltPt q (minPt ps) := by
  cases ps with
  | nil => cases h
  | cons p qs =>
    obtain ⟨h1, h2⟩ := minP_least qs p
    rcases List.mem_cons.mp h with rfl | h
    · exact h1
    · exact h2 q h
theorem minPt_perm {ps qs : List Pt} (h : ps.Perm qs) : minPt ps = minPt qs := by
  by_cases hn : ps = []
  · subst hn; rw [List.nil_perm.mp h]
  · have hq : qs ≠ [] := fun z => hn (by rw [z] at h; exact List.perm_nil.mp h)
    exact ltPt_tri (minPt_least (h.symm.mem_iff.mp (h.mem_iff.mp (minPt_mem hn)) |> h.mem_iff.mp)) (minPt_least (h.mem_iff.mpr (minPt_mem hq)))
theorem idx_split {p : Pt} : ∀ {l : List Pt}, p ∈ l → ∃ A B, l = A ++ p :: B ∧ idx p l = A.length ∧ p ∉ A
  | q :: l, h => by
    by_cases e : q = p
    · subst e
      exact ⟨[], l, rfl, by rw [idx, if_pos rfl]; rfl, by simp⟩
    · obtain ⟨A, B, h1, h2, h3⟩ := idx_split ((List.mem_cons.mp h).resolve_left fun z => e z.symm)
      refine ⟨q :: A, B, by rw [h1]; rfl, by rw [idx, if_neg e, h2]; rfl, fun z => ?_⟩
      rcases List.mem_cons.mp z with z | z
      · exact e z.symm
      · exact h3 z
theorem idx_app {p : Pt} {A B : List Pt} (h : p ∉ A) : idx p (A ++ p :: B) = A.length := by
  induction A with
  | nil => show idx p (p :: B) = 0; rw [idx, if_pos rfl]
  | cons q A ih =>
    show idx p (q :: (A ++ p :: B)) = _
    rw [idx, if_neg (fun z => h (by rw [z]; simp)), ih fun z => h (List.mem_cons_of_mem _ z)]; rfl
theorem rot_split (A B : List Pt) (p : Pt) : rot A.length (A ++ p :: B) = p :: B ++ A := by
  unfold rot
  rw [List.drop_left, List.take_left]
/-- the turn that begins with p is one, however the list was turned -/
theorem rot_idx {l : List Pt} {p : Pt} (hp : p ∈ l) (hn : l.Nodup) (k : Nat) : rot (idx p (rot k l)) (rot k l) = rot (idx p l) l := by
  obtain ⟨A, B, rfl, h2, h3⟩ := idx_split hp
  have hB : p ∉ B := by
    have := (List.nodup_append.mp hn).2.1
    exact (List.nodup_cons.mp this).1
  rw [h2, rot_split]
  by_cases hk : k ≤ A.length
  · obtain ⟨A1, A2, rfl, rfl⟩ : ∃ A1 A2, A = A1 ++ A2 ∧ k = A1.length := ⟨A.take k, A.drop k, (List.take_append_drop k A).symm, by rw [List.length_take]; omega⟩
    have e : rot A1.length (A1 ++ A2 ++ p :: B) = A2 ++ p :: (B ++ A1) := by
      unfold rot
      rw [List.append_assoc, List.drop_left, List.take_left]; simp
    rw [e, idx_app (fun z => h3 (List.mem_append_right _ z)), rot_split]
    simp
  · by_cases hk2 : (A ++ p :: B).length ≤ k
    · have e : rot k (A ++ p :: B) = A ++ p :: B := by
        unfold rot
        rw [List.drop_of_length_le hk2, List.take_of_length_le hk2]; rfl
      rw [e, h2, rot_split]
    · obtain ⟨B1, B2, rfl, hk3⟩ : ∃ B1 B2, B = B1 ++ B2 ∧ k = A.length + 1 + B1.length := by
        refine ⟨B.take (k - A.length - 1), B.drop (k - A.length - 1), (List.take_append_drop _ B).symm, ?_⟩
        rw [List.length_take]
        rw [List.length_append, List.length_cons] at hk2
        omega
      have e0 : A ++ p :: (B1 ++ B2) = (A ++ p :: B1) ++ B2 := by simp
      have e : rot k (A ++ p :: (B1 ++ B2)) = (B2 ++ A) ++ p :: B1 := by
        unfold rot
        have hl : k = (A ++ p :: B1).length := by rw [List.length_append, List.length_cons]; omega
        rw [e0, hl, List.drop_left, List.take_left]; simp
      rw [e, idx_app, rot_split]
      · simp
      · intro z
        rcases List.mem_append.mp z with z | z
        · exact hB (List.mem_append_right _ z)
        · exact h3 z
theorem spn_rot {ps : List Pt} (k : Nat) (h : are ps ≠ 0) : ∃ j, spn (rot k ps) = rot j (spn ps) := by
  unfold spn
  rw [are_rotj]
  split
  · exact ⟨k, rfl⟩
  · refine ⟨ps.length - k, ?_⟩
    unfold rot
    rw [List.reverse_append, List.drop_reverse, List.take_reverse]
    by_cases hk : k ≤ ps.length
    · rw [show ps.length - (ps.length - k) = k by omega]
    · rw [show ps.length - (ps.length - k) = ps.length by omega, List.drop_of_length_le (show ps.length ≤ k by omega), List.take_of_length_le (show ps.length ≤ k by omega), List.drop_length, List.take_length]
theorem spn_ne {ps : List Pt} (h : ps ≠ []) : spn ps ≠ [] := by
  unfold spn
  split
  · exact h
  · simpa using h
theorem spn_nodup {ps : List Pt} (h : ps.Nodup) : (spn ps).Nodup := (spn_perm ps).nodup_iff.mpr h
theorem arr_rot {ps : List Pt} (hn : ps.Nodup) (ha : are ps ≠ 0) (h0 : ps ≠ []) (k : Nat) : arr (rot k ps) = arr ps := by
  obtain ⟨j, e⟩ := spn_rot k ha
  unfold arr
  rw [e, minPt_perm (rot_perm j (spn ps))]
  exact rot_idx (minPt_mem (spn_ne h0)) (spn_nodup hn) j
theorem arr_rev {ps : List Pt} (ha : are ps ≠ 0) : arr ps.reverse = arr ps := by
  have e : spn ps.reverse = spn ps := by
    unfold spn
    rw [are_rev, List.reverse_reverse]
    by_cases h : 0 < are ps
    · rw [if_neg (by omega), if_pos h]
    · rw [if_pos (by omega), if_neg h]
  unfold arr
  rw [e]
theorem arr_eq_rot (ps : List Pt) : ∃ j, arr ps = rot j (spn ps) := ⟨_, rfl⟩
theorem arr_arr {ps : List Pt} (hn : ps.Nodup) (ha : are ps ≠ 0) (h0 : ps ≠ []) : arr (arr ps) = arr ps := by
  obtain ⟨j, e⟩ := arr_eq_rot ps
  rw [e]
  have e1 : arr (spn ps) = arr ps := by
    unfold spn
    split
    · rfl
    · exact arr_rev ha
  have ha' : are (spn ps) ≠ 0 := by
    unfold spn
    split
    · exact ha
    · rw [are_rev]; omega
  rw [arr_rot (spn_nodup hn) ha' (spn_ne h0), e1, e]
theorem good_nodup {ps : List Pt} (h3 : 3 ≤ ps.length) (hg : Good ps) : ps.Nodup := by
  have key : ∀ i j, i < j → j < ps.length → atC ps i ≠ atC ps j := fun i j hij hj e => by
    by_cases h1 : j = i + 1
    · subst h1
      refine hg.1 i (by omega) ?_
      have en : nxt ps i = atC ps (i + 1) := by unfold nxt; rw [Nat.mod_eq_of_lt (by omega)]
      unfold tri0
      rw [en, ← e]
      unfold trn crs dif; simp
    · by_cases h2 : i = 0 ∧ j = ps.length - 1
      · obtain ⟨rfl, rfl⟩ := h2
        refine hg.1 0 (by omega) ?_
        have ep : prv ps 0 = atC ps (ps.length - 1) := by unfold prv; rw [Nat.zero_add, Nat.mod_eq_of_lt (by omega)]
        unfold tri0
        rw [ep, ← e]
        unfold trn crs dif; simp
      · have hc := hg.2 i j (by omega) hj
        have hm : (j + 1) % ps.length ≠ i := by
          by_cases hl : j + 1 = ps.length
          · rw [hl, Nat.mod_self]; omega
          · rw [Nat.mod_eq_of_lt (by omega)]; omega
        unfold crossB at hc
        rw [decide_eq_true hm, Bool.true_and, ← e] at hc
        have : meetS (atC ps i) (nxt ps i) (atC ps i) (nxt ps j) = true := by
          unfold meetS
          have on : onS (atC ps i) (atC ps i) (nxt ps i) = true := by
            unfold onS btw btw1
            rw [Bool.and_eq_true, decide_eq_true_iff, Bool.and_eq_true, Bool.and_eq_true, Bool.and_eq_true, decide_eq_true_iff, decide_eq_true_iff, decide_eq_true_iff, decide_eq_true_iff]
            refine ⟨by unfold trn crs dif; dsimp only; grind, ⟨by omega, by omega⟩, by omega, by omega⟩
          rw [on]; simp
        rw [this] at hc; cases hc
  refine List.pairwise_iff_getElem.mpr fun i j hi hj hij z => key i j hij hj ?_
  have e1 := atC_get hi
  have e2 := atC_get hj
  rw [List.getElem?_eq_getElem hi] at e1
  rw [List.getElem?_eq_getElem hj] at e2
  rw [← Option.some.inj e1, ← Option.some.inj e2]
  exact z
end G

/-! ### the area of a drawn polygon -/
namespace G
open PySem PySem.Spec PyProof.Rows L2
def hdXY : List Pt → Int
  | [] => 0
  | a :: _ => a.1 * a.2
theorem pth_low {z : Pt} (hz : z.2 = 0) : ∀ l : List Pt, (l ++ [z]).Pairwise (fun p q => 0 ≤ (p.1 - q.1) * (p.2 + q.2)) → -hdXY l ≤ pth (l ++ [z])
  | [], _ => Int.le_refl 0
  | [a], h => by
    have h1 := (List.pairwise_cons.1 h).1 z (List.mem_singleton.2 rfl)
    show -(a.1 * a.2) ≤ crsP a z + 0
    unfold crsP
    rw [hz] at h1 ⊢
    grind
  | a :: b :: l, h => by
    have h1 := (List.pairwise_cons.1 h).1 b (List.mem_cons_self ..)
    have ih := pth_low hz (b :: l) (List.pairwise_cons.1 h).2
    show -(a.1 * a.2) ≤ crsP a b + pth (b :: l ++ [z])
    have ih' : -(b.1 * b.2) ≤ pth (b :: l ++ [z]) := ih
    have e : crsP a b = (a.1 - b.1) * (a.2 + b.2) + (b.1 * b.2 - a.1 * a.2) := by unfold crsP; grind
    omega
theorem ML.are {L R : Pt} {B A : List Pt} (h : ML L R B A) : 0 < G.are (shp L R B A) := by
  have e : G.are (shp L R B A) = pth (L :: B ++ [R]) + pth (R :: A ++ [L]) := by
    show pth (L :: (B ++ R :: A) ++ [L]) = _
    rw [show L :: (B ++ R :: A) ++ [L] = (L :: B) ++ R :: (A ++ [L]) by simp, pth_app]
    rfl
  have up : 0 ≤ pth (R :: A ++ [L]) := by
    have := pth_low h.y0 (R :: A) ((List.Pairwise.and_mem.1 h.xu).imp (S := fun p q => 0 ≤ (p.1 - q.1) * (p.2 + q.2)) fun {p q} ⟨hp, hq, hx⟩ => by
      have y : ∀ r ∈ R :: A ++ [L], 0 ≤ r.2 := fun r hr => by
        rcases List.mem_append.1 hr with z | z
        · rcases List.mem_cons.1 z with rfl | z
          · rw [h.yR]; decide
          · have := h.ya r z; omega
        · rw [List.mem_singleton.1 z, h.y0]; decide
      have := y p hp; have := y q hq
      exact Int.mul_nonneg (by omega) (by omega))
    rwa [show hdXY (R :: A) = R.1 * R.2 from rfl, h.yR, Int.mul_zero] at this
  have lo : 0 < pth (L :: B ++ [R]) := by
    cases B with
    | nil => exact absurd rfl h.hB
    | cons b B =>
      have := pth_low h.yR (b :: B) (List.pairwise_cons.1 ((List.Pairwise.and_mem.1 h.xl).imp (S := fun p q => 0 ≤ (p.1 - q.1) * (p.2 + q.2)) fun {p q} ⟨hp, hq, hx⟩ => by
        have y : ∀ r ∈ L :: (b :: B) ++ [R], r.2 ≤ 0 := fun r hr => by
          rcases List.mem_append.1 hr with z | z
          · rcases List.mem_cons.1 z with rfl | z
            · rw [h.y0]; decide
            · have := h.yb r z; omega
          · rw [List.mem_singleton.1 z, h.yR]; decide
        have := y p hp; have := y q hq
        exact Int.mul_nonneg_of_nonpos_of_nonpos (by omega) (by omega))).2
      have h2 : -(b.1 * b.2) ≤ pth (b :: B ++ [R]) := this
      have hx : L.1 < b.1 := (List.pairwise_cons.1 h.xl).1 b (List.mem_cons_self ..)
      have hy := h.yb b (List.mem_cons_self ..)
      have hp : 0 < (b.1 - L.1) * (-b.2) := Int.mul_pos (by omega) (by omega)
      show 0 < crsP L b + pth (b :: B ++ [R])
      have e2 : crsP L b = (b.1 - L.1) * (-b.2) + b.1 * b.2 := by unfold crsP; rw [h.y0]; grind
      omega
  omega
end G

namespace G
open PySem PySem.Spec PyProof.Rows L2
theorem sc_is_integer : FnScope ["value"] ["value"] (defScope s_is_integer) := ⟨rfl, rfl, rfl, by decide +kernel, rfl, by decide +kernel, by decide +kernel⟩
theorem sc_check_integer : FnScope ["value", "least"] ["value", "least"] (defScope s_check_integer) := ⟨rfl, rfl, rfl, by decide +kernel, rfl, by decide +kernel, by decide +kernel⟩
theorem sc_is_point : FnScope ["value", "item"] ["value"] (defScope s_is_point) := ⟨rfl, rfl, rfl, by decide +kernel, rfl, by decide +kernel, by decide +kernel⟩
theorem sc_cross_of : FnScope ["first", "second"] ["first", "second"] (defScope s_cross_of) := ⟨rfl, rfl, rfl, by decide +kernel, rfl, by decide +kernel, by decide +kernel⟩
theorem sc_difference : FnScope ["end", "start"] ["end", "start"] (defScope s_difference) := ⟨rfl, rfl, rfl, by decide +kernel, rfl, by decide +kernel, by decide +kernel⟩
theorem sc_turn_of : FnScope ["first", "second", "third"] ["first", "second", "third"] (defScope s_turn_of) := ⟨rfl, rfl, rfl, by decide +kernel, rfl, by decide +kernel, by decide +kernel⟩
theorem sc_InvalidPolygon_init : FnScope ["self", "position"] ["self", "position"] (defScope s_InvalidPolygon_init) := ⟨rfl, rfl, rfl, by decide +kernel, rfl, by decide +kernel, by decide +kernel⟩
theorem sc_DegenerateCorner_init : FnScope ["self", "position"] ["self", "position"] (defScope s_DegenerateCorner_init) := ⟨rfl, rfl, rfl, by decide +kernel, rfl, by decide +kernel, by decide +kernel⟩
theorem sc_CrossingEdges_init : FnScope ["self", "first", "second"] ["self", "first", "second"] (defScope s_CrossingEdges_init) := ⟨rfl, rfl, rfl, by decide +kernel, rfl, by decide +kernel, by decide +kernel⟩
theorem sc_NotConvex_init : FnScope ["self", "position"] ["self", "position"] (defScope s_NotConvex_init) := ⟨rfl, rfl, rfl, by decide +kernel, rfl, by decide +kernel, by decide +kernel⟩
theorem sc_UnknownName_init : FnScope ["self", "name"] ["self", "name"] (defScope s_UnknownName_init) := ⟨rfl, rfl, rfl, by decide +kernel, rfl, by decide +kernel, by decide +kernel⟩
theorem sc_NameInUse_init : FnScope ["self", "name"] ["self", "name"] (defScope s_NameInUse_init) := ⟨rfl, rfl, rfl, by decide +kernel, rfl, by decide +kernel, by decide +kernel⟩
theorem sc_LimitExceeded_init : FnScope ["self", "size"] ["self", "size"] (defScope s_LimitExceeded_init) := ⟨rfl, rfl, rfl, by decide +kernel, rfl, by decide +kernel, by decide +kernel⟩
theorem sc_check_points : FnScope ["value", "position", "item"] ["value"] (defScope s_check_points) := ⟨rfl, rfl, rfl, by decide +kernel, rfl, by decide +kernel, by decide +kernel⟩
theorem sc_triples : GScp ["corners", "index", "corner"] ["corners"] (defScope s_triples) := ⟨rfl, rfl, rfl, by decide +kernel, rfl, by decide +kernel, by decide +kernel, fun _ => rfl⟩
theorem sc_check_turns : FnScope ["corners", "position", "before", "corner", "after"] ["corners"] (defScope s_check_turns) := ⟨rfl, rfl, rfl, by decide +kernel, rfl, by decide +kernel, by decide +kernel⟩
theorem sc_is_between : FnScope ["point", "start", "end", "value", "low", "high"] ["point", "start", "end"] (defScope s_is_between) := ⟨rfl, rfl, rfl, by decide +kernel, rfl, by decide +kernel, by decide +kernel⟩
theorem sc_is_on : FnScope ["point", "start", "end"] ["point", "start", "end"] (defScope s_is_on) := ⟨rfl, rfl, rfl, by decide +kernel, rfl, by decide +kernel, by decide +kernel⟩
theorem sc_have_common_point : FnScope ["first", "second", "a", "b", "c", "d", "sides"] ["first", "second"] (defScope s_have_common_point) := ⟨rfl, rfl, rfl, by decide +kernel, rfl, by decide +kernel, by decide +kernel⟩
theorem sc_edges_of : FnScope ["corners", "index", "corner"] ["corners"] (defScope s_edges_of) := ⟨rfl, rfl, rfl, by decide +kernel, rfl, by decide +kernel, by decide +kernel⟩
theorem sc_check_crossings : FnScope ["corners", "edges", "many", "first", "second"] ["corners"] (defScope s_check_crossings) := ⟨rfl, rfl, rfl, by decide +kernel, rfl, by decide +kernel, by decide +kernel⟩
theorem sc_area_of : FnScope ["corners", "start", "end"] ["corners"] (defScope s_area_of) := ⟨rfl, rfl, rfl, by decide +kernel, rfl, by decide +kernel, by decide +kernel⟩
theorem sc_arranged : FnScope ["corners", "ordered", "first"] ["corners"] (defScope s_arranged) := ⟨rfl, rfl, rfl, by decide +kernel, rfl, by decide +kernel, by decide +kernel⟩
theorem sc_checked_corners : FnScope ["corners", "limit"] ["corners", "limit"] (defScope s_checked_corners) := ⟨rfl, rfl, rfl, by decide +kernel, rfl, by decide +kernel, by decide +kernel⟩
theorem sc_first_reflex : FnScope ["corners", "position", "before", "corner", "after"] ["corners"] (defScope s_first_reflex) := ⟨rfl, rfl, rfl, by decide +kernel, rfl, by decide +kernel, by decide +kernel⟩
theorem sc_Polygon_init : FnScope ["self", "corners"] ["self", "corners"] (defScope s_Polygon_init) := ⟨rfl, rfl, rfl, by decide +kernel, rfl, by decide +kernel, by decide +kernel⟩
theorem sc_Polygon_corners : FnScope ["self"] ["self"] (defScope s_Polygon_corners) := ⟨rfl, rfl, rfl, by decide +kernel, rfl, by decide +kernel, by decide +kernel⟩
theorem sc_Polygon_is_convex : FnScope ["self"] ["self"] (defScope s_Polygon_is_convex) := ⟨rfl, rfl, rfl, by decide +kernel, rfl, by decide +kernel, by decide +kernel⟩
theorem sc_ConvexPolygon_init : SScp ["self", "corners"] ["self", "corners"] (defScope s_ConvexPolygon_init) := ⟨rfl, rfl, rfl, by decide +kernel, rfl, by decide +kernel, by decide +kernel, by decide +kernel, rfl, rfl⟩
theorem sc_GridMap_init : FnScope ["self", "a", "b", "c", "d", "e", "f", "number"] ["self", "a", "b", "c", "d", "e", "f"] (defScope s_GridMap_init) := ⟨rfl, rfl, rfl, by decide +kernel, rfl, by decide +kernel, by decide +kernel⟩
theorem sc_GridMap_image : FnScope ["self", "point", "a", "b", "c", "d", "e", "f"] ["self", "point"] (defScope s_GridMap_image) := ⟨rfl, rfl, rfl, by decide +kernel, rfl, by decide +kernel, by decide +kernel⟩
theorem sc_check_map : FnScope ["value"] ["value"] (defScope s_check_map) := ⟨rfl, rfl, rfl, by decide +kernel, rfl, by decide +kernel, by decide +kernel⟩
theorem sc_Polygon_image_corners : FnScope ["self", "grid_map", "corner"] ["self", "grid_map"] (defScope s_Polygon_image_corners) := ⟨rfl, rfl, rfl, by decide +kernel, rfl, by decide +kernel, by decide +kernel⟩
theorem sc_Polygon_moved : FnScope ["self", "grid_map"] ["self", "grid_map"] (defScope s_Polygon_moved) := ⟨rfl, rfl, rfl, by decide +kernel, rfl, by decide +kernel, by decide +kernel⟩
theorem sc_ConvexPolygon_moved : FnScope ["self", "grid_map"] ["self", "grid_map"] (defScope s_ConvexPolygon_moved) := ⟨rfl, rfl, rfl, by decide +kernel, rfl, by decide +kernel, by decide +kernel⟩
theorem sc_check_polygon : FnScope ["value"] ["value"] (defScope s_check_polygon) := ⟨rfl, rfl, rfl, by decide +kernel, rfl, by decide +kernel, by decide +kernel⟩
theorem sc_to_polygon : FnScope ["corners", "polygon"] ["corners"] (defScope s_to_polygon) := ⟨rfl, rfl, rfl, by decide +kernel, rfl, by decide +kernel, by decide +kernel⟩
theorem sc_is_name : FnScope ["value", "sign"] ["value"] (defScope s_is_name) := ⟨rfl, rfl, rfl, by decide +kernel, rfl, by decide +kernel, by decide +kernel⟩
theorem sc_check_name : FnScope ["value"] ["value"] (defScope s_check_name) := ⟨rfl, rfl, rfl, by decide +kernel, rfl, by decide +kernel, by decide +kernel⟩
theorem sc_Collection_init : FnScope ["self", "capacity"] ["self", "capacity"] (defScope s_Collection_init) := ⟨rfl, rfl, rfl, by decide +kernel, rfl, by decide +kernel, by decide +kernel⟩
theorem sc_Collection_len : FnScope ["self"] ["self"] (defScope s_Collection_len) := ⟨rfl, rfl, rfl, by decide +kernel, rfl, by decide +kernel, by decide +kernel⟩
theorem sc_Collection_capacity : FnScope ["self"] ["self"] (defScope s_Collection_capacity) := ⟨rfl, rfl, rfl, by decide +kernel, rfl, by decide +kernel, by decide +kernel⟩
theorem sc_Collection_capacity_set : FnScope ["self", "value"] ["self", "value"] (defScope s_Collection_capacity_set) := ⟨rfl, rfl, rfl, by decide +kernel, rfl, by decide +kernel, by decide +kernel⟩
theorem sc_Collection_resize : FnScope ["self", "capacity"] ["self", "capacity"] (defScope s_Collection_resize) := ⟨rfl, rfl, rfl, by decide +kernel, rfl, by decide +kernel, by decide +kernel⟩
theorem sc_Collection_knows : FnScope ["self", "name"] ["self", "name"] (defScope s_Collection_knows) := ⟨rfl, rfl, rfl, by decide +kernel, rfl, by decide +kernel, by decide +kernel⟩
theorem sc_Collection_check_known : FnScope ["self", "name"] ["self", "name"] (defScope s_Collection_check_known) := ⟨rfl, rfl, rfl, by decide +kernel, rfl, by decide +kernel, by decide +kernel⟩
theorem sc_Collection_remember : FnScope ["self", "situation"] ["self", "situation"] (defScope s_Collection_remember) := ⟨rfl, rfl, rfl, by decide +kernel, rfl, by decide +kernel, by decide +kernel⟩
theorem sc_Collection_put : FnScope ["self", "name", "polygon"] ["self", "name", "polygon"] (defScope s_Collection_put) := ⟨rfl, rfl, rfl, by decide +kernel, rfl, by decide +kernel, by decide +kernel⟩
theorem sc_Collection_drop : FnScope ["self", "name"] ["self", "name"] (defScope s_Collection_drop) := ⟨rfl, rfl, rfl, by decide +kernel, rfl, by decide +kernel, by decide +kernel⟩
theorem sc_Collection_call : FnScope ["self", "old", "new"] ["self", "old", "new"] (defScope s_Collection_call) := ⟨rfl, rfl, rfl, by decide +kernel, rfl, by decide +kernel, by decide +kernel⟩
theorem sc_Collection_carry : FnScope ["self", "name", "grid_map"] ["self", "name", "grid_map"] (defScope s_Collection_carry) := ⟨rfl, rfl, rfl, by decide +kernel, rfl, by decide +kernel, by decide +kernel⟩
theorem sc_Collection_perform : FnScope ["self", "action", "name", "polygon", "old", "new", "word", "grid_map"] ["self", "action"] (defScope s_Collection_perform) := ⟨rfl, rfl, rfl, by decide +kernel, rfl, by decide +kernel, by decide +kernel⟩
theorem sc_Collection_change : FnScope ["self", "action", "before"] ["self", "action"] (defScope s_Collection_change) := ⟨rfl, rfl, rfl, by decide +kernel, rfl, by decide +kernel, by decide +kernel⟩
theorem sc_Collection_add : FnScope ["self", "name", "polygon"] ["self", "name", "polygon"] (defScope s_Collection_add) := ⟨rfl, rfl, rfl, by decide +kernel, rfl, by decide +kernel, by decide +kernel⟩
theorem sc_Collection_undo : FnScope ["self", "number"] ["self", "number"] (defScope s_Collection_undo) := ⟨rfl, rfl, rfl, by decide +kernel, rfl, by decide +kernel, by decide +kernel⟩
theorem sc_law_pool : FnScope ["_law_script", "_law_k", "_law_cell", "_law_seed"] ["_law_script", "_law_k"] (defScope s_law_pool) := ⟨rfl, rfl, rfl, by decide +kernel, rfl, by decide +kernel, by decide +kernel⟩
theorem sc_law_take : FnScope ["_law_pool_here", "_law_bound", "_law_digit"] ["_law_pool_here", "_law_bound"] (defScope s_law_take) := ⟨rfl, rfl, rfl, by decide +kernel, rfl, by decide +kernel, by decide +kernel⟩
theorem sc_law_carry : FnScope ["_law_pool_here", "_law_bound", "_law_k", "_law_m", "_law_sign"] ["_law_pool_here", "_law_bound"] (defScope s_law_carry) := ⟨rfl, rfl, rfl, by decide +kernel, rfl, by decide +kernel, by decide +kernel⟩
theorem sc_law_polygon : FnScope ["_law_pool_here", "_law_shapes"] ["_law_pool_here"] (defScope s_law_polygon) := ⟨rfl, rfl, rfl, by decide +kernel, rfl, by decide +kernel, by decide +kernel⟩
theorem sc_law_names : FnScope ["_law_pool_here", "_law_many", "_law_letters", "_law_step", "_law_start", "_law_more", "_law_at"] ["_law_pool_here", "_law_many"] (defScope s_law_names) := ⟨rfl, rfl, rfl, by decide +kernel, rfl, by decide +kernel, by decide +kernel⟩
theorem sc_law_assigned : FnScope ["_law_some", "_law_value", "e"] ["_law_some", "_law_value"] (defScope s_law_assigned) := ⟨rfl, rfl, rfl, by decide +kernel, rfl, by decide +kernel, by decide +kernel⟩
theorem sc_law_added : FnScope ["_law_some", "_law_name", "_law_polygon_here", "e"] ["_law_some", "_law_name", "_law_polygon_here"] (defScope s_law_added) := ⟨rfl, rfl, rfl, by decide +kernel, rfl, by decide +kernel, by decide +kernel⟩
theorem sc_law : FnScope ["_law_script", "_law_k", "_law_pool_here", "_law_most", "_law_many", "_law_some", "_law_names_here", "_law_name", "_law_turn", "_law_value", "_law_due"] ["_law_script"] (defScope s_law) := ⟨rfl, rfl, rfl, by decide +kernel, rfl, by decide +kernel, by decide +kernel⟩
/-! ### what the top has left -/
structure Tx (K : PySem.W.Frag) (mg : Str → Option Value) : Prop where
  n_isinstance : mg "isinstance" = none
  n_int : mg "int" = none
  n_bool : mg "bool" = none
  n_tuple : mg "tuple" = none
  n_all : mg "all" = none
  n_len : mg "len" = none
  n_enumerate : mg "enumerate" = none
  n_list : mg "list" = none
  n_min : mg "min" = none
  n_max : mg "max" = none
  n_zip : mg "zip" = none
  n_range : mg "range" = none
  n_sum : mg "sum" = none
  n_super : mg "super" = none
  n_abs : mg "abs" = none
  n_str : mg "str" = none
  n_dict : mg "dict" = none
  n_repr : mg "repr" = none
  g_is_integer : mg "is_integer" = some (.ref (He.ga K "is_integer"))
  g_check_integer : mg "check_integer" = some (.ref (He.ga K "check_integer"))
  g_is_point : mg "is_point" = some (.ref (He.ga K "is_point"))
  g_cross_of : mg "cross_of" = some (.ref (He.ga K "cross_of"))
  g_difference : mg "difference" = some (.ref (He.ga K "difference"))
  g_turn_of : mg "turn_of" = some (.ref (He.ga K "turn_of"))
  g_check_points : mg "check_points" = some (.ref (He.ga K "check_points"))
  g_triples : mg "triples" = some (.ref (He.ga K "triples"))
  g_check_turns : mg "check_turns" = some (.ref (He.ga K "check_turns"))
  g_is_between : mg "is_between" = some (.ref (He.ga K "is_between"))
  g_is_on : mg "is_on" = some (.ref (He.ga K "is_on"))
  g_have_common_point : mg "have_common_point" = some (.ref (He.ga K "have_common_point"))
  g_edges_of : mg "edges_of" = some (.ref (He.ga K "edges_of"))
  g_check_crossings : mg "check_crossings" = some (.ref (He.ga K "check_crossings"))
  g_area_of : mg "area_of" = some (.ref (He.ga K "area_of"))
  g_arranged : mg "arranged" = some (.ref (He.ga K "arranged"))
  g_checked_corners : mg "checked_corners" = some (.ref (He.ga K "checked_corners"))
  g_first_reflex : mg "first_reflex" = some (.ref (He.ga K "first_reflex"))
  g_check_map : mg "check_map" = some (.ref (He.ga K "check_map"))
  g_check_polygon : mg "check_polygon" = some (.ref (He.ga K "check_polygon"))
  g_to_polygon : mg "to_polygon" = some (.ref (He.ga K "to_polygon"))
  g_is_name : mg "is_name" = some (.ref (He.ga K "is_name"))
  g_check_name : mg "check_name" = some (.ref (He.ga K "check_name"))
  g_law_pool : mg "_law_pool" = some (.ref (He.ga K "_law_pool"))
  g_law_take : mg "_law_take" = some (.ref (He.ga K "_law_take"))
  g_law_carry : mg "_law_carry" = some (.ref (He.ga K "_law_carry"))
  g_law_polygon : mg "_law_polygon" = some (.ref (He.ga K "_law_polygon"))
  g_law_names : mg "_law_names" = some (.ref (He.ga K "_law_names"))
  g_law_assigned : mg "_law_assigned" = some (.ref (He.ga K "_law_assigned"))
  g_law_added : mg "_law_added" = some (.ref (He.ga K "_law_added"))
  g_law : mg "law" = some (.ref (He.ga K "law"))
  c_MIN_CORNERS : ∃ t, mg "MIN_CORNERS" = some (.int 3 t)
  c_LETTERS : ∃ t, mg "LETTERS" = some (.str "abcdefghijklmnopqrstuvwxyz" t)
  c_MAX_LENGTH : ∃ t, mg "MAX_LENGTH" = some (.int 8 t)
  g_InvalidPolygon : mg "InvalidPolygon" = some (.ref (He.ga K "InvalidPolygon"))
  x_InvalidPolygon : OexF K (He.ga K "InvalidPolygon") (He.ma K (He.ga K "InvalidPolygon") "__init__") ["position"]
  g_DegenerateCorner : mg "DegenerateCorner" = some (.ref (He.ga K "DegenerateCorner"))
  x_DegenerateCorner : OexF K (He.ga K "DegenerateCorner") (He.ma K (He.ga K "DegenerateCorner") "__init__") ["position"]
  g_CrossingEdges : mg "CrossingEdges" = some (.ref (He.ga K "CrossingEdges"))
  x_CrossingEdges : OexF K (He.ga K "CrossingEdges") (He.ma K (He.ga K "CrossingEdges") "__init__") ["first", "second"]
  g_NotConvex : mg "NotConvex" = some (.ref (He.ga K "NotConvex"))
  x_NotConvex : OexF K (He.ga K "NotConvex") (He.ma K (He.ga K "NotConvex") "__init__") ["position"]
  g_LimitExceeded : mg "LimitExceeded" = some (.ref (He.ga K "LimitExceeded"))
  x_LimitExceeded : OexOF K (He.ga K "LimitExceeded") (He.ma K (He.ga K "LimitExceeded") "__init__") ["size"]
  g_InvalidInteger : mg "InvalidInteger" = some (.ref (He.ga K "InvalidInteger"))
  x_InvalidInteger : ExcF K (He.ga K "InvalidInteger")
  g_InvalidMap : mg "InvalidMap" = some (.ref (He.ga K "InvalidMap"))
  x_InvalidMap : ExcF K (He.ga K "InvalidMap")
  g_InvalidName : mg "InvalidName" = some (.ref (He.ga K "InvalidName"))
  x_InvalidName : ExcF K (He.ga K "InvalidName")
  m_InvalidInteger_InvalidInteger : PySem.W.exmOne K (.ref (He.ga K "InvalidInteger")) (.ref (He.ga K "InvalidInteger")) = some true
  m_LimitExceeded_InvalidInteger : PySem.W.exmOne K (.ref (He.ga K "LimitExceeded")) (.ref (He.ga K "InvalidInteger")) = some false
  m_LimitExceeded_LimitExceeded : PySem.W.exmOne K (.ref (He.ga K "LimitExceeded")) (.ref (He.ga K "LimitExceeded")) = some true
  g_Polygon : mg "Polygon" = some (.ref (He.ga K "Polygon"))
  y_Polygon : InsTy K (He.ga K "Polygon")
  k_Polygon : Mk K (He.ga K "Polygon") (He.ma K (He.ga K "Polygon") "__init__")
  a_Polygon_kept : NoAttr K (He.ga K "Polygon") "kept"
  a_Polygon_reflex : NoAttr K (He.ga K "Polygon") "reflex"
  m_Polygon_corners : PropOf K (He.ga K "Polygon") "corners" (He.ma K (He.ga K "Polygon") "corners") (He5.wf K (He.ga K "Polygon") "property" "corners")
  m_Polygon_is_convex : PropOf K (He.ga K "Polygon") "is_convex" (He.ma K (He.ga K "Polygon") "is_convex") (He5.wf K (He.ga K "Polygon") "property" "is_convex")
  m_Polygon_image_corners : Meth K (He.ga K "Polygon") "image_corners" (He.ma K (He.ga K "Polygon") "image_corners")
  m_Polygon_moved : Meth K (He.ga K "Polygon") "moved" (He.ma K (He.ga K "Polygon") "moved")
  cr_Polygon : ClX.CRead K (He.ga K "Polygon") (.type "type")
  cv_Polygon_MAX_CORNERS : ∃ u, ClX.CVal K (He.ga K "Polygon") (.type "type") "MAX_CORNERS" (.int 60) u
  i_Polygon : PySem.W.kitOne K (.ref (He.ga K "Polygon")) (.ref (He.ga K "Polygon")) = some true
  j_Polygon : ∀ k ∈ kds, PySem.W.kitOne K (.type k) (.ref (He.ga K "Polygon")) = some false
  nf_Polygon : PySem.W.notFirst K (He.ga K "Polygon") (.ref (He.ga K "Polygon")) = true
  nk_Polygon : ∀ k ∈ kds, PySem.W.notFirst K (He.ga K "Polygon") (.type k) = true
  g_ConvexPolygon : mg "ConvexPolygon" = some (.ref (He.ga K "ConvexPolygon"))
  y_ConvexPolygon : InsTy K (He.ga K "ConvexPolygon")
  k_ConvexPolygon : Mk K (He.ga K "ConvexPolygon") (He.ma K (He.ga K "ConvexPolygon") "__init__")
  a_ConvexPolygon_kept : NoAttr K (He.ga K "ConvexPolygon") "kept"
  a_ConvexPolygon_reflex : NoAttr K (He.ga K "ConvexPolygon") "reflex"
  m_ConvexPolygon_moved : Meth K (He.ga K "ConvexPolygon") "moved" (He.ma K (He.ga K "ConvexPolygon") "moved")
  m_ConvexPolygon_corners : PropOf K (He.ga K "ConvexPolygon") "corners" (He.ma K (He.ga K "Polygon") "corners") (He5.wf K (He.ga K "Polygon") "property" "corners")
  m_ConvexPolygon_is_convex : PropOf K (He.ga K "ConvexPolygon") "is_convex" (He.ma K (He.ga K "Polygon") "is_convex") (He5.wf K (He.ga K "Polygon") "property" "is_convex")
  m_ConvexPolygon_image_corners : Meth K (He.ga K "ConvexPolygon") "image_corners" (He.ma K (He.ga K "Polygon") "image_corners")
  cr_ConvexPolygon : ClX.CRead K (He.ga K "ConvexPolygon") (.type "type")
  i_ConvexPolygon : PySem.W.kitOne K (.ref (He.ga K "ConvexPolygon")) (.ref (He.ga K "ConvexPolygon")) = some true
  j_ConvexPolygon : ∀ k ∈ kds, PySem.W.kitOne K (.type k) (.ref (He.ga K "ConvexPolygon")) = some false
  i_ConvexPolygon_Polygon : PySem.W.kitOne K (.ref (He.ga K "ConvexPolygon")) (.ref (He.ga K "Polygon")) = some true
  i_Polygon_ConvexPolygon : PySem.W.kitOne K (.ref (He.ga K "Polygon")) (.ref (He.ga K "ConvexPolygon")) = some false
  nf_ConvexPolygon : PySem.W.notFirst K (He.ga K "ConvexPolygon") (.ref (He.ga K "ConvexPolygon")) = true
  nk_ConvexPolygon : ∀ k ∈ kds, PySem.W.notFirst K (He.ga K "ConvexPolygon") (.type k) = true
  g_GridMap : mg "GridMap" = some (.ref (He.ga K "GridMap"))
  y_GridMap : InsTy K (He.ga K "GridMap")
  k_GridMap : Mk K (He.ga K "GridMap") (He.ma K (He.ga K "GridMap") "__init__")
  a_GridMap_six : NoAttr K (He.ga K "GridMap") "six"
  m_GridMap_image : Meth K (He.ga K "GridMap") "image" (He.ma K (He.ga K "GridMap") "image")
  cr_GridMap : ClX.CRead K (He.ga K "GridMap") (.type "type")
  i_GridMap : PySem.W.kitOne K (.ref (He.ga K "GridMap")) (.ref (He.ga K "GridMap")) = some true
  j_GridMap : ∀ k ∈ kds, PySem.W.kitOne K (.type k) (.ref (He.ga K "GridMap")) = some false
  nf_GridMap : PySem.W.notFirst K (He.ga K "GridMap") (.ref (He.ga K "GridMap")) = true
  nk_GridMap : ∀ k ∈ kds, PySem.W.notFirst K (He.ga K "GridMap") (.type k) = true
  g_Collection : mg "Collection" = some (.ref (He.ga K "Collection"))
  y_Collection : InsTy K (He.ga K "Collection")
  k_Collection : Mk K (He.ga K "Collection") (He.ma K (He.ga K "Collection") "__init__")
  a_Collection_most : NoAttr K (He.ga K "Collection") "most"
  a_Collection_kept : NoAttr K (He.ga K "Collection") "kept"
  a_Collection_earlier : NoAttr K (He.ga K "Collection") "earlier"
  l_Collection : LenOf K (He.ga K "Collection") (He.ma K (He.ga K "Collection") "__len__")
  m_Collection_capacity : PropOf K (He.ga K "Collection") "capacity" (He.ma K (He.ga K "Collection") "capacity") (He5.wf K (He.ga K "Collection") "property" "capacity")
  m_Collection_capacity_set : PSetOf K (He.ga K "Collection") "capacity" (He.ma K (He.ga K "Collection") "capacity") (psetA K (He.ma K (He.ga K "Collection") "capacity"))
  m_Collection_resize : Meth K (He.ga K "Collection") "resize" (He.ma K (He.ga K "Collection") "resize")
  m_Collection_knows : Meth K (He.ga K "Collection") "knows" (He.ma K (He.ga K "Collection") "knows")
  m_Collection_check_known : Meth K (He.ga K "Collection") "check_known" (He.ma K (He.ga K "Collection") "check_known")
  m_Collection_remember : Meth K (He.ga K "Collection") "remember" (He.ma K (He.ga K "Collection") "remember")
  m_Collection_put : Meth K (He.ga K "Collection") "put" (He.ma K (He.ga K "Collection") "put")
  m_Collection_drop : Meth K (He.ga K "Collection") "drop" (He.ma K (He.ga K "Collection") "drop")
  m_Collection_call : Meth K (He.ga K "Collection") "call" (He.ma K (He.ga K "Collection") "call")
  m_Collection_carry : Meth K (He.ga K "Collection") "carry" (He.ma K (He.ga K "Collection") "carry")
  m_Collection_perform : Meth K (He.ga K "Collection") "perform" (He.ma K (He.ga K "Collection") "perform")
  m_Collection_change : Meth K (He.ga K "Collection") "change" (He.ma K (He.ga K "Collection") "change")
  m_Collection_add : Meth K (He.ga K "Collection") "add" (He.ma K (He.ga K "Collection") "add")
  m_Collection_undo : Meth K (He.ga K "Collection") "undo" (He.ma K (He.ga K "Collection") "undo")
  cr_Collection : ClX.CRead K (He.ga K "Collection") (.type "type")
  i_Collection : PySem.W.kitOne K (.ref (He.ga K "Collection")) (.ref (He.ga K "Collection")) = some true
  j_Collection : ∀ k ∈ kds, PySem.W.kitOne K (.type k) (.ref (He.ga K "Collection")) = some false
  nf_Collection : PySem.W.notFirst K (He.ga K "Collection") (.ref (He.ga K "Collection")) = true
  nk_Collection : ∀ k ∈ kds, PySem.W.notFirst K (He.ga K "Collection") (.type k) = true
  sb_ConvexPolygon_init : supFB K "ConvexPolygon.__init__" Pg.main.file (He.ma K (He.ga K "ConvexPolygon") "__init__") (He.ga K "ConvexPolygon") (He.ma K (He.ga K "Polygon") "__init__") = true
  xg_UnknownName : OexGF K (He.ga K "UnknownName") (He.ma K (He.ga K "UnknownName") "__init__") ["name"]
  g_UnknownName : mg "UnknownName" = some (.ref (He.ga K "UnknownName"))
  xg_NameInUse : OexGF K (He.ga K "NameInUse") (He.ma K (He.ga K "NameInUse") "__init__") ["name"]
  g_NameInUse : mg "NameInUse" = some (.ref (He.ga K "NameInUse"))
  x_NothingToUndo : ExcL K (He.ga K "NothingToUndo")
  g_NothingToUndo : mg "NothingToUndo" = some (.ref (He.ga K "NothingToUndo"))
  g_ShapeError : mg "ShapeError" = some (.ref (He.ga K "ShapeError"))
  ei_InvalidInteger : IsE K (He.ga K "InvalidInteger") (He.ga K "ShapeError") true
  d_is_integer : FunD K "is_integer" "is_integer" (defArgs s_is_integer) (defBody s_is_integer) (defScope s_is_integer) [] [] (He.ga K "is_integer") (fdOf K (He.ga K "is_integer"))
  d_check_integer : FunD K "check_integer" "check_integer" (defArgs s_check_integer) (defBody s_check_integer) (defScope s_check_integer) [.non] [] (He.ga K "check_integer") (fdOf K (He.ga K "check_integer"))
  d_is_point : FunD K "is_point" "is_point" (defArgs s_is_point) (defBody s_is_point) (defScope s_is_point) [] [] (He.ga K "is_point") (fdOf K (He.ga K "is_point"))
  d_cross_of : FunD K "cross_of" "cross_of" (defArgs s_cross_of) (defBody s_cross_of) (defScope s_cross_of) [] [] (He.ga K "cross_of") (fdOf K (He.ga K "cross_of"))
  d_difference : FunD K "difference" "difference" (defArgs s_difference) (defBody s_difference) (defScope s_difference) [] [] (He.ga K "difference") (fdOf K (He.ga K "difference"))
  d_turn_of : FunD K "turn_of" "turn_of" (defArgs s_turn_of) (defBody s_turn_of) (defScope s_turn_of) [] [] (He.ga K "turn_of") (fdOf K (He.ga K "turn_of"))
  d_InvalidPolygon_init : FunD K "__init__" "InvalidPolygon.__init__" (defArgs s_InvalidPolygon_init) (defBody s_InvalidPolygon_init) (defScope s_InvalidPolygon_init) [] [] (He.ma K (He.ga K "InvalidPolygon") "__init__") (fdOf K (He.ma K (He.ga K "InvalidPolygon") "__init__"))
  d_DegenerateCorner_init : FunD K "__init__" "DegenerateCorner.__init__" (defArgs s_DegenerateCorner_init) (defBody s_DegenerateCorner_init) (defScope s_DegenerateCorner_init) [] [] (He.ma K (He.ga K "DegenerateCorner") "__init__") (fdOf K (He.ma K (He.ga K "DegenerateCorner") "__init__"))
  d_CrossingEdges_init : FunD K "__init__" "CrossingEdges.__init__" (defArgs s_CrossingEdges_init) (defBody s_CrossingEdges_init) (defScope s_CrossingEdges_init) [] [] (He.ma K (He.ga K "CrossingEdges") "__init__") (fdOf K (He.ma K (He.ga K "CrossingEdges") "__init__"))
  d_NotConvex_init : FunD K "__init__" "NotConvex.__init__" (defArgs s_NotConvex_init) (defBody s_NotConvex_init) (defScope s_NotConvex_init) [] [] (He.ma K (He.ga K "NotConvex") "__init__") (fdOf K (He.ma K (He.ga K "NotConvex") "__init__"))
  d_UnknownName_init : FunD K "__init__" "UnknownName.__init__" (defArgs s_UnknownName_init) (defBody s_UnknownName_init) (defScope s_UnknownName_init) [] [] (He.ma K (He.ga K "UnknownName") "__init__") (fdOf K (He.ma K (He.ga K "UnknownName") "__init__"))
  d_NameInUse_init : FunD K "__init__" "NameInUse.__init__" (defArgs s_NameInUse_init) (defBody s_NameInUse_init) (defScope s_NameInUse_init) [] [] (He.ma K (He.ga K "NameInUse") "__init__") (fdOf K (He.ma K (He.ga K "NameInUse") "__init__"))
  d_LimitExceeded_init : FunD K "__init__" "LimitExceeded.__init__" (defArgs s_LimitExceeded_init) (defBody s_LimitExceeded_init) (defScope s_LimitExceeded_init) [] [] (He.ma K (He.ga K "LimitExceeded") "__init__") (fdOf K (He.ma K (He.ga K "LimitExceeded") "__init__"))
  d_check_points : FunD K "check_points" "check_points" (defArgs s_check_points) (defBody s_check_points) (defScope s_check_points) [] [] (He.ga K "check_points") (fdOf K (He.ga K "check_points"))
  d_triples : FunD K "triples" "triples" (defArgs s_triples) (defBody s_triples) (defScope s_triples) [] [] (He.ga K "triples") (fdOf K (He.ga K "triples"))
  d_check_turns : FunD K "check_turns" "check_turns" (defArgs s_check_turns) (defBody s_check_turns) (defScope s_check_turns) [] [] (He.ga K "check_turns") (fdOf K (He.ga K "check_turns"))
  d_is_between : FunD K "is_between" "is_between" (defArgs s_is_between) (defBody s_is_between) (defScope s_is_between) [] [] (He.ga K "is_between") (fdOf K (He.ga K "is_between"))
  d_is_on : FunD K "is_on" "is_on" (defArgs s_is_on) (defBody s_is_on) (defScope s_is_on) [] [] (He.ga K "is_on") (fdOf K (He.ga K "is_on"))
  d_have_common_point : FunD K "have_common_point" "have_common_point" (defArgs s_have_common_point) (defBody s_have_common_point) (defScope s_have_common_point) [] [] (He.ga K "have_common_point") (fdOf K (He.ga K "have_common_point"))
  d_edges_of : FunD K "edges_of" "edges_of" (defArgs s_edges_of) (defBody s_edges_of) (defScope s_edges_of) [] [] (He.ga K "edges_of") (fdOf K (He.ga K "edges_of"))
  d_check_crossings : FunD K "check_crossings" "check_crossings" (defArgs s_check_crossings) (defBody s_check_crossings) (defScope s_check_crossings) [] [] (He.ga K "check_crossings") (fdOf K (He.ga K "check_crossings"))
  d_area_of : FunD K "area_of" "area_of" (defArgs s_area_of) (defBody s_area_of) (defScope s_area_of) [] [] (He.ga K "area_of") (fdOf K (He.ga K "area_of"))
  d_arranged : FunD K "arranged" "arranged" (defArgs s_arranged) (defBody s_arranged) (defScope s_arranged) [] [] (He.ga K "arranged") (fdOf K (He.ga K "arranged"))
  d_checked_corners : FunD K "checked_corners" "checked_corners" (defArgs s_checked_corners) (defBody s_checked_corners) (defScope s_checked_corners) [] [] (He.ga K "checked_corners") (fdOf K (He.ga K "checked_corners"))
  d_first_reflex : FunD K "first_reflex" "first_reflex" (defArgs s_first_reflex) (defBody s_first_reflex) (defScope s_first_reflex) [] [] (He.ga K "first_reflex") (fdOf K (He.ga K "first_reflex"))
  d_Polygon_init : FunD K "__init__" "Polygon.__init__" (defArgs s_Polygon_init) (defBody s_Polygon_init) (defScope s_Polygon_init) [] [] (He.ma K (He.ga K "Polygon") "__init__") (fdOf K (He.ma K (He.ga K "Polygon") "__init__"))
  d_Polygon_corners : FunD K "corners" "Polygon.corners" (defArgs s_Polygon_corners) (defBody s_Polygon_corners) (defScope s_Polygon_corners) [] [] (He5.wf K (He.ga K "Polygon") "property" "corners") (fdOf K (He5.wf K (He.ga K "Polygon") "property" "corners"))
  d_Polygon_is_convex : FunD K "is_convex" "Polygon.is_convex" (defArgs s_Polygon_is_convex) (defBody s_Polygon_is_convex) (defScope s_Polygon_is_convex) [] [] (He5.wf K (He.ga K "Polygon") "property" "is_convex") (fdOf K (He5.wf K (He.ga K "Polygon") "property" "is_convex"))
  d_ConvexPolygon_init : SupF K "__init__" "ConvexPolygon.__init__" (defArgs s_ConvexPolygon_init) (defBody s_ConvexPolygon_init) (defScope s_ConvexPolygon_init) Pg.main.file (He.ma K (He.ga K "ConvexPolygon") "__init__") (He.ga K "ConvexPolygon") (He.ma K (He.ga K "Polygon") "__init__")
  d_GridMap_init : FunD K "__init__" "GridMap.__init__" (defArgs s_GridMap_init) (defBody s_GridMap_init) (defScope s_GridMap_init) [(.int 0), (.int 0)] [] (He.ma K (He.ga K "GridMap") "__init__") (fdOf K (He.ma K (He.ga K "GridMap") "__init__"))
  d_GridMap_image : FunD K "image" "GridMap.image" (defArgs s_GridMap_image) (defBody s_GridMap_image) (defScope s_GridMap_image) [] [] (He.ma K (He.ga K "GridMap") "image") (fdOf K (He.ma K (He.ga K "GridMap") "image"))
  d_check_map : FunD K "check_map" "check_map" (defArgs s_check_map) (defBody s_check_map) (defScope s_check_map) [] [] (He.ga K "check_map") (fdOf K (He.ga K "check_map"))
  d_Polygon_image_corners : FunD K "image_corners" "Polygon.image_corners" (defArgs s_Polygon_image_corners) (defBody s_Polygon_image_corners) (defScope s_Polygon_image_corners) [] [] (He.ma K (He.ga K "Polygon") "image_corners") (fdOf K (He.ma K (He.ga K "Polygon") "image_corners"))
  d_Polygon_moved : FunD K "moved" "Polygon.moved" (defArgs s_Polygon_moved) (defBody s_Polygon_moved) (defScope s_Polygon_moved) [] [] (He.ma K (He.ga K "Polygon") "moved") (fdOf K (He.ma K (He.ga K "Polygon") "moved"))
  d_ConvexPolygon_moved : FunD K "moved" "ConvexPolygon.moved" (defArgs s_ConvexPolygon_moved) (defBody s_ConvexPolygon_moved) (defScope s_ConvexPolygon_moved) [] [] (He.ma K (He.ga K "ConvexPolygon") "moved") (fdOf K (He.ma K (He.ga K "ConvexPolygon") "moved"))
  d_check_polygon : FunD K "check_polygon" "check_polygon" (defArgs s_check_polygon) (defBody s_check_polygon) (defScope s_check_polygon) [] [] (He.ga K "check_polygon") (fdOf K (He.ga K "check_polygon"))
  d_to_polygon : FunD K "to_polygon" "to_polygon" (defArgs s_to_polygon) (defBody s_to_polygon) (defScope s_to_polygon) [] [] (He.ga K "to_polygon") (fdOf K (He.ga K "to_polygon"))
  d_is_name : FunD K "is_name" "is_name" (defArgs s_is_name) (defBody s_is_name) (defScope s_is_name) [] [] (He.ga K "is_name") (fdOf K (He.ga K "is_name"))
  d_check_name : FunD K "check_name" "check_name" (defArgs s_check_name) (defBody s_check_name) (defScope s_check_name) [] [] (He.ga K "check_name") (fdOf K (He.ga K "check_name"))
  d_Collection_init : FunD K "__init__" "Collection.__init__" (defArgs s_Collection_init) (defBody s_Collection_init) (defScope s_Collection_init) [] [("capacity", (.int 20))] (He.ma K (He.ga K "Collection") "__init__") (fdOf K (He.ma K (He.ga K "Collection") "__init__"))
  d_Collection_len : FunD K "__len__" "Collection.__len__" (defArgs s_Collection_len) (defBody s_Collection_len) (defScope s_Collection_len) [] [] (He.ma K (He.ga K "Collection") "__len__") (fdOf K (He.ma K (He.ga K "Collection") "__len__"))
  d_Collection_capacity : FunD K "capacity" "Collection.capacity" (defArgs s_Collection_capacity) (defBody s_Collection_capacity) (defScope s_Collection_capacity) [] [] (He5.wf K (He.ga K "Collection") "property" "capacity") (fdOf K (He5.wf K (He.ga K "Collection") "property" "capacity"))
  d_Collection_capacity_set : FunD K "capacity" "Collection.capacity" (defArgs s_Collection_capacity_set) (defBody s_Collection_capacity_set) (defScope s_Collection_capacity_set) [] [] (psetA K (He.ma K (He.ga K "Collection") "capacity")) (fdOf K (psetA K (He.ma K (He.ga K "Collection") "capacity")))
  d_Collection_resize : FunD K "resize" "Collection.resize" (defArgs s_Collection_resize) (defBody s_Collection_resize) (defScope s_Collection_resize) [] [] (He.ma K (He.ga K "Collection") "resize") (fdOf K (He.ma K (He.ga K "Collection") "resize"))
  d_Collection_knows : FunD K "knows" "Collection.knows" (defArgs s_Collection_knows) (defBody s_Collection_knows) (defScope s_Collection_knows) [] [] (He.ma K (He.ga K "Collection") "knows") (fdOf K (He.ma K (He.ga K "Collection") "knows"))
  d_Collection_check_known : FunD K "check_known" "Collection.check_known" (defArgs s_Collection_check_known) (defBody s_Collection_check_known) (defScope s_Collection_check_known) [] [] (He.ma K (He.ga K "Collection") "check_known") (fdOf K (He.ma K (He.ga K "Collection") "check_known"))
  d_Collection_remember : FunD K "remember" "Collection.remember" (defArgs s_Collection_remember) (defBody s_Collection_remember) (defScope s_Collection_remember) [] [] (He.ma K (He.ga K "Collection") "remember") (fdOf K (He.ma K (He.ga K "Collection") "remember"))
  d_Collection_put : FunD K "put" "Collection.put" (defArgs s_Collection_put) (defBody s_Collection_put) (defScope s_Collection_put) [] [] (He.ma K (He.ga K "Collection") "put") (fdOf K (He.ma K (He.ga K "Collection") "put"))
  d_Collection_drop : FunD K "drop" "Collection.drop" (defArgs s_Collection_drop) (defBody s_Collection_drop) (defScope s_Collection_drop) [] [] (He.ma K (He.ga K "Collection") "drop") (fdOf K (He.ma K (He.ga K "Collection") "drop"))
  d_Collection_call : FunD K "call" "Collection.call" (defArgs s_Collection_call) (defBody s_Collection_call) (defScope s_Collection_call) [] [] (He.ma K (He.ga K "Collection") "call") (fdOf K (He.ma K (He.ga K "Collection") "call"))
  d_Collection_carry : FunD K "carry" "Collection.carry" (defArgs s_Collection_carry) (defBody s_Collection_carry) (defScope s_Collection_carry) [] [] (He.ma K (He.ga K "Collection") "carry") (fdOf K (He.ma K (He.ga K "Collection") "carry"))
  d_Collection_perform : FunD K "perform" "Collection.perform" (defArgs s_Collection_perform) (defBody s_Collection_perform) (defScope s_Collection_perform) [] [] (He.ma K (He.ga K "Collection") "perform") (fdOf K (He.ma K (He.ga K "Collection") "perform"))
  d_Collection_change : FunD K "change" "Collection.change" (defArgs s_Collection_change) (defBody s_Collection_change) (defScope s_Collection_change) [] [] (He.ma K (He.ga K "Collection") "change") (fdOf K (He.ma K (He.ga K "Collection") "change"))
  d_Collection_add : FunD K "add" "Collection.add" (defArgs s_Collection_add) (defBody s_Collection_add) (defScope s_Collection_add) [] [] (He.ma K (He.ga K "Collection") "add") (fdOf K (He.ma K (He.ga K "Collection") "add"))
  d_Collection_undo : FunD K "undo" "Collection.undo" (defArgs s_Collection_undo) (defBody s_Collection_undo) (defScope s_Collection_undo) [] [("number", (.int 1))] (He.ma K (He.ga K "Collection") "undo") (fdOf K (He.ma K (He.ga K "Collection") "undo"))
  d_law_pool : FunD K "_law_pool" "_law_pool" (defArgs s_law_pool) (defBody s_law_pool) (defScope s_law_pool) [] [] (He.ga K "_law_pool") (fdOf K (He.ga K "_law_pool"))
  d_law_take : FunD K "_law_take" "_law_take" (defArgs s_law_take) (defBody s_law_take) (defScope s_law_take) [] [] (He.ga K "_law_take") (fdOf K (He.ga K "_law_take"))
  d_law_carry : FunD K "_law_carry" "_law_carry" (defArgs s_law_carry) (defBody s_law_carry) (defScope s_law_carry) [] [] (He.ga K "_law_carry") (fdOf K (He.ga K "_law_carry"))
  d_law_polygon : FunD K "_law_polygon" "_law_polygon" (defArgs s_law_polygon) (defBody s_law_polygon) (defScope s_law_polygon) [] [] (He.ga K "_law_polygon") (fdOf K (He.ga K "_law_polygon"))
  d_law_names : FunD K "_law_names" "_law_names" (defArgs s_law_names) (defBody s_law_names) (defScope s_law_names) [] [] (He.ga K "_law_names") (fdOf K (He.ga K "_law_names"))
  d_law_assigned : FunD K "_law_assigned" "_law_assigned" (defArgs s_law_assigned) (defBody s_law_assigned) (defScope s_law_assigned) [] [] (He.ga K "_law_assigned") (fdOf K (He.ga K "_law_assigned"))
  d_law_added : FunD K "_law_added" "_law_added" (defArgs s_law_added) (defBody s_law_added) (defScope s_law_added) [] [] (He.ga K "_law_added") (fdOf K (He.ga K "_law_added"))
  d_law : FunD K "law" "law" (defArgs s_law) (defBody s_law) (defScope s_law) [] [] (He.ga K "law") (fdOf K (He.ga K "law"))
section
variable {K : PySem.W.Frag} {mg : Str → Option Value}
theorem bn_is_integer (T : Tx K mg) : Binds K (fdOf K (He.ga K "is_integer")) ["value"] [] := T.d_is_integer.bindsN fun _ _ _ _ _ _ us hl => match us, hl with | [_], _ => rfl
theorem bd0_check_integer (T : Tx K mg) : ∃ ds, Vals [] ds ∧ Binds K (fdOf K (He.ga K "check_integer")) ["value", "least"] ds := T.d_check_integer.binds1 2 1 (List.cons_ne_nil _ _) rfl fun _ _ _ _ _ _ _ us its hu hi => match us, its, hu, hi with | [_, _], [_], _, _ => ⟨_, rfl, rfl⟩
theorem bd1_check_integer (T : Tx K mg) : ∃ ds, Vals [.non] ds ∧ Binds K (fdOf K (He.ga K "check_integer")) ["value", "least"] ds := T.d_check_integer.binds1 1 0 (List.cons_ne_nil _ _) rfl fun _ _ _ _ _ _ _ us its hu hi => match us, its, hu, hi with | [_], [_], _, _ => ⟨_, rfl, rfl⟩
theorem bn_is_point (T : Tx K mg) : Binds K (fdOf K (He.ga K "is_point")) ["value"] [] := T.d_is_point.bindsN fun _ _ _ _ _ _ us hl => match us, hl with | [_], _ => rfl
theorem bn_cross_of (T : Tx K mg) : Binds K (fdOf K (He.ga K "cross_of")) ["first", "second"] [] := T.d_cross_of.bindsN fun _ _ _ _ _ _ us hl => match us, hl with | [_, _], _ => rfl
theorem bn_difference (T : Tx K mg) : Binds K (fdOf K (He.ga K "difference")) ["end", "start"] [] := T.d_difference.bindsN fun _ _ _ _ _ _ us hl => match us, hl with | [_, _], _ => rfl
theorem bn_turn_of (T : Tx K mg) : Binds K (fdOf K (He.ga K "turn_of")) ["first", "second", "third"] [] := T.d_turn_of.bindsN fun _ _ _ _ _ _ us hl => match us, hl with | [_, _, _], _ => rfl
theorem bn_InvalidPolygon_init (T : Tx K mg) : Binds K (fdOf K (He.ma K (He.ga K "InvalidPolygon") "__init__")) ["self", "position"] [] := T.d_InvalidPolygon_init.bindsN fun _ _ _ _ _ _ us hl => match us, hl with | [_, _], _ => rfl
theorem bn_DegenerateCorner_init (T : Tx K mg) : Binds K (fdOf K (He.ma K (He.ga K "DegenerateCorner") "__init__")) ["self", "position"] [] := T.d_DegenerateCorner_init.bindsN fun _ _ _ _ _ _ us hl => match us, hl with | [_, _], _ => rfl
theorem bn_CrossingEdges_init (T : Tx K mg) : Binds K (fdOf K (He.ma K (He.ga K "CrossingEdges") "__init__")) ["self", "first", "second"] [] := T.d_CrossingEdges_init.bindsN fun _ _ _ _ _ _ us hl => match us, hl with | [_, _, _], _ => rfl
theorem bn_NotConvex_init (T : Tx K mg) : Binds K (fdOf K (He.ma K (He.ga K "NotConvex") "__init__")) ["self", "position"] [] := T.d_NotConvex_init.bindsN fun _ _ _ _ _ _ us hl => match us, hl with | [_, _], _ => rfl
theorem bn_UnknownName_init (T : Tx K mg) : Binds K (fdOf K (He.ma K (He.ga K "UnknownName") "__init__")) ["self", "name"] [] := T.d_UnknownName_init.bindsN fun _ _ _ _ _ _ us hl => match us, hl with | [_, _], _ => rfl
theorem bn_NameInUse_init (T : Tx K mg) : Binds K (fdOf K (He.ma K (He.ga K "NameInUse") "__init__")) ["self", "name"] [] := T.d_NameInUse_init.bindsN fun _ _ _ _ _ _ us hl => match us, hl with | [_, _], _ => rfl
theorem bn_LimitExceeded_init (T : Tx K mg) : Binds K (fdOf K (He.ma K (He.ga K "LimitExceeded") "__init__")) ["self", "size"] [] := T.d_LimitExceeded_init.bindsN fun _ _ _ _ _ _ us hl => match us, hl with | [_, _], _ => rfl
theorem bn_check_points (T : Tx K mg) : Binds K (fdOf K (He.ga K "check_points")) ["value"] [] := T.d_check_points.bindsN fun _ _ _ _ _ _ us hl => match us, hl with | [_], _ => rfl
theorem bn_triples (T : Tx K mg) : Binds K (fdOf K (He.ga K "triples")) ["corners"] [] := T.d_triples.bindsN fun _ _ _ _ _ _ us hl => match us, hl with | [_], _ => rfl
theorem bn_check_turns (T : Tx K mg) : Binds K (fdOf K (He.ga K "check_turns")) ["corners"] [] := T.d_check_turns.bindsN fun _ _ _ _ _ _ us hl => match us, hl with | [_], _ => rfl
theorem bn_is_between (T : Tx K mg) : Binds K (fdOf K (He.ga K "is_between")) ["point", "start", "end"] [] := T.d_is_between.bindsN fun _ _ _ _ _ _ us hl => match us, hl with | [_, _, _], _ => rfl
theorem bn_is_on (T : Tx K mg) : Binds K (fdOf K (He.ga K "is_on")) ["point", "start", "end"] [] := T.d_is_on.bindsN fun _ _ _ _ _ _ us hl => match us, hl with | [_, _, _], _ => rfl
theorem bn_have_common_point (T : Tx K mg) : Binds K (fdOf K (He.ga K "have_common_point")) ["first", "second"] [] := T.d_have_common_point.bindsN fun _ _ _ _ _ _ us hl => match us, hl with | [_, _], _ => rfl
theorem bn_edges_of (T : Tx K mg) : Binds K (fdOf K (He.ga K "edges_of")) ["corners"] [] := T.d_edges_of.bindsN fun _ _ _ _ _ _ us hl => match us, hl with | [_], _ => rfl
theorem bn_check_crossings (T : Tx K mg) : Binds K (fdOf K (He.ga K "check_crossings")) ["corners"] [] := T.d_check_crossings.bindsN fun _ _ _ _ _ _ us hl => match us, hl with | [_], _ => rfl
theorem bn_area_of (T : Tx K mg) : Binds K (fdOf K (He.ga K "area_of")) ["corners"] [] := T.d_area_of.bindsN fun _ _ _ _ _ _ us hl => match us, hl with | [_], _ => rfl
theorem bn_arranged (T : Tx K mg) : Binds K (fdOf K (He.ga K "arranged")) ["corners"] [] := T.d_arranged.bindsN fun _ _ _ _ _ _ us hl => match us, hl with | [_], _ => rfl
theorem bn_checked_corners (T : Tx K mg) : Binds K (fdOf K (He.ga K "checked_corners")) ["corners", "limit"] [] := T.d_checked_corners.bindsN fun _ _ _ _ _ _ us hl => match us, hl with | [_, _], _ => rfl
theorem bn_first_reflex (T : Tx K mg) : Binds K (fdOf K (He.ga K "first_reflex")) ["corners"] [] := T.d_first_reflex.bindsN fun _ _ _ _ _ _ us hl => match us, hl with | [_], _ => rfl
theorem bn_Polygon_init (T : Tx K mg) : Binds K (fdOf K (He.ma K (He.ga K "Polygon") "__init__")) ["self", "corners"] [] := T.d_Polygon_init.bindsN fun _ _ _ _ _ _ us hl => match us, hl with | [_, _], _ => rfl
theorem bn_Polygon_corners (T : Tx K mg) : Binds K (fdOf K (He5.wf K (He.ga K "Polygon") "property" "corners")) ["self"] [] := T.d_Polygon_corners.bindsN fun _ _ _ _ _ _ us hl => match us, hl with | [_], _ => rfl
theorem bn_Polygon_is_convex (T : Tx K mg) : Binds K (fdOf K (He5.wf K (He.ga K "Polygon") "property" "is_convex")) ["self"] [] := T.d_Polygon_is_convex.bindsN fun _ _ _ _ _ _ us hl => match us, hl with | [_], _ => rfl
theorem bn_ConvexPolygon_init (T : Tx K mg) : Binds K (fdOf K (He.ma K (He.ga K "ConvexPolygon") "__init__")) ["self", "corners"] [] := T.d_ConvexPolygon_init.bindsN fun _ _ _ _ _ _ us hl => match us, hl with | [_, _], _ => rfl
theorem bd0_GridMap_init (T : Tx K mg) : ∃ ds, Vals [] ds ∧ Binds K (fdOf K (He.ma K (He.ga K "GridMap") "__init__")) ["self", "a", "b", "c", "d", "e", "f"] ds := T.d_GridMap_init.binds1 7 2 (List.cons_ne_nil _ _) rfl fun _ _ _ _ _ _ _ us its hu hi => match us, its, hu, hi with | [_, _, _, _, _, _, _], [_, _], _, _ => ⟨_, rfl, rfl⟩
theorem bd1_GridMap_init (T : Tx K mg) : ∃ ds, Vals [(.int 0)] ds ∧ Binds K (fdOf K (He.ma K (He.ga K "GridMap") "__init__")) ["self", "a", "b", "c", "d", "e", "f"] ds := T.d_GridMap_init.binds1 6 1 (List.cons_ne_nil _ _) rfl fun _ _ _ _ _ _ _ us its hu hi => match us, its, hu, hi with | [_, _, _, _, _, _], [_, _], _, _ => ⟨_, rfl, rfl⟩
theorem bd2_GridMap_init (T : Tx K mg) : ∃ ds, Vals [(.int 0), (.int 0)] ds ∧ Binds K (fdOf K (He.ma K (He.ga K "GridMap") "__init__")) ["self", "a", "b", "c", "d", "e", "f"] ds := T.d_GridMap_init.binds1 5 0 (List.cons_ne_nil _ _) rfl fun _ _ _ _ _ _ _ us its hu hi => match us, its, hu, hi with | [_, _, _, _, _], [_, _], _, _ => ⟨_, rfl, rfl⟩
theorem bn_GridMap_image (T : Tx K mg) : Binds K (fdOf K (He.ma K (He.ga K "GridMap") "image")) ["self", "point"] [] := T.d_GridMap_image.bindsN fun _ _ _ _ _ _ us hl => match us, hl with | [_, _], _ => rfl
theorem bn_check_map (T : Tx K mg) : Binds K (fdOf K (He.ga K "check_map")) ["value"] [] := T.d_check_map.bindsN fun _ _ _ _ _ _ us hl => match us, hl with | [_], _ => rfl
theorem bn_Polygon_image_corners (T : Tx K mg) : Binds K (fdOf K (He.ma K (He.ga K "Polygon") "image_corners")) ["self", "grid_map"] [] := T.d_Polygon_image_corners.bindsN fun _ _ _ _ _ _ us hl => match us, hl with | [_, _], _ => rfl
theorem bn_Polygon_moved (T : Tx K mg) : Binds K (fdOf K (He.ma K (He.ga K "Polygon") "moved")) ["self", "grid_map"] [] := T.d_Polygon_moved.bindsN fun _ _ _ _ _ _ us hl => match us, hl with | [_, _], _ => rfl
theorem bn_ConvexPolygon_moved (T : Tx K mg) : Binds K (fdOf K (He.ma K (He.ga K "ConvexPolygon") "moved")) ["self", "grid_map"] [] := T.d_ConvexPolygon_moved.bindsN fun _ _ _ _ _ _ us hl => match us, hl with | [_, _], _ => rfl
theorem bn_check_polygon (T : Tx K mg) : Binds K (fdOf K (He.ga K "check_polygon")) ["value"] [] := T.d_check_polygon.bindsN fun _ _ _ _ _ _ us hl => match us, hl with | [_], _ => rfl
theorem bn_to_polygon (T : Tx K mg) : Binds K (fdOf K (He.ga K "to_polygon")) ["corners"] [] := T.d_to_polygon.bindsN fun _ _ _ _ _ _ us hl => match us, hl with | [_], _ => rfl
theorem bn_is_name (T : Tx K mg) : Binds K (fdOf K (He.ga K "is_name")) ["value"] [] := T.d_is_name.bindsN fun _ _ _ _ _ _ us hl => match us, hl with | [_], _ => rfl
theorem bn_check_name (T : Tx K mg) : Binds K (fdOf K (He.ga K "check_name")) ["value"] [] := T.d_check_name.bindsN fun _ _ _ _ _ _ us hl => match us, hl with | [_], _ => rfl
theorem bn_Collection_len (T : Tx K mg) : Binds K (fdOf K (He.ma K (He.ga K "Collection") "__len__")) ["self"] [] := T.d_Collection_len.bindsN fun _ _ _ _ _ _ us hl => match us, hl with | [_], _ => rfl
theorem bn_Collection_capacity (T : Tx K mg) : Binds K (fdOf K (He5.wf K (He.ga K "Collection") "property" "capacity")) ["self"] [] := T.d_Collection_capacity.bindsN fun _ _ _ _ _ _ us hl => match us, hl with | [_], _ => rfl
theorem bn_Collection_capacity_set (T : Tx K mg) : Binds K (fdOf K (psetA K (He.ma K (He.ga K "Collection") "capacity"))) ["self", "value"] [] := T.d_Collection_capacity_set.bindsN fun _ _ _ _ _ _ us hl => match us, hl with | [_, _], _ => rfl
theorem bn_Collection_resize (T : Tx K mg) : Binds K (fdOf K (He.ma K (He.ga K "Collection") "resize")) ["self", "capacity"] [] := T.d_Collection_resize.bindsN fun _ _ _ _ _ _ us hl => match us, hl with | [_, _], _ => rfl
theorem bn_Collection_knows (T : Tx K mg) : Binds K (fdOf K (He.ma K (He.ga K "Collection") "knows")) ["self", "name"] [] := T.d_Collection_knows.bindsN fun _ _ _ _ _ _ us hl => match us, hl with | [_, _], _ => rfl
theorem bn_Collection_check_known (T : Tx K mg) : Binds K (fdOf K (He.ma K (He.ga K "Collection") "check_known")) ["self", "name"] [] := T.d_Collection_check_known.bindsN fun _ _ _ _ _ _ us hl => match us, hl with | [_, _], _ => rfl
theorem bn_Collection_remember (T : Tx K mg) : Binds K (fdOf K (He.ma K (He.ga K "Collection") "remember")) ["self", "situation"] [] := T.d_Collection_remember.bindsN fun _ _ _ _ _ _ us hl => match us, hl with | [_, _], _ => rfl
theorem bn_Collection_put (T : Tx K mg) : Binds K (fdOf K (He.ma K (He.ga K "Collection") "put")) ["self", "name", "polygon"] [] := T.d_Collection_put.bindsN fun _ _ _ _ _ _ us hl => match us, hl with | [_, _, _], _ => rfl
theorem bn_Collection_drop (T : Tx K mg) : Binds K (fdOf K (He.ma K (He.ga K "Collection") "drop")) ["self", "name"] [] := T.d_Collection_drop.bindsN fun _ _ _ _ _ _ us hl => match us, hl with | [_, _], _ => rfl
theorem bn_Collection_call (T : Tx K mg) : Binds K (fdOf K (He.ma K (He.ga K "Collection") "call")) ["self", "old", "new"] [] := T.d_Collection_call.bindsN fun _ _ _ _ _ _ us hl => match us, hl with | [_, _, _], _ => rfl
theorem bn_Collection_carry (T : Tx K mg) : Binds K (fdOf K (He.ma K (He.ga K "Collection") "carry")) ["self", "name", "grid_map"] [] := T.d_Collection_carry.bindsN fun _ _ _ _ _ _ us hl => match us, hl with | [_, _, _], _ => rfl
theorem bn_Collection_perform (T : Tx K mg) : Binds K (fdOf K (He.ma K (He.ga K "Collection") "perform")) ["self", "action"] [] := T.d_Collection_perform.bindsN fun _ _ _ _ _ _ us hl => match us, hl with | [_, _], _ => rfl
theorem bn_Collection_change (T : Tx K mg) : Binds K (fdOf K (He.ma K (He.ga K "Collection") "change")) ["self", "action"] [] := T.d_Collection_change.bindsN fun _ _ _ _ _ _ us hl => match us, hl with | [_, _], _ => rfl
theorem bn_Collection_add (T : Tx K mg) : Binds K (fdOf K (He.ma K (He.ga K "Collection") "add")) ["self", "name", "polygon"] [] := T.d_Collection_add.bindsN fun _ _ _ _ _ _ us hl => match us, hl with | [_, _, _], _ => rfl
theorem bn_law_pool (T : Tx K mg) : Binds K (fdOf K (He.ga K "_law_pool")) ["_law_script", "_law_k"] [] := T.d_law_pool.bindsN fun _ _ _ _ _ _ us hl => match us, hl with | [_, _], _ => rfl
theorem bn_law_take (T : Tx K mg) : Binds K (fdOf K (He.ga K "_law_take")) ["_law_pool_here", "_law_bound"] [] := T.d_law_take.bindsN fun _ _ _ _ _ _ us hl => match us, hl with | [_, _], _ => rfl
theorem bn_law_carry (T : Tx K mg) : Binds K (fdOf K (He.ga K "_law_carry")) ["_law_pool_here", "_law_bound"] [] := T.d_law_carry.bindsN fun _ _ _ _ _ _ us hl => match us, hl with | [_, _], _ => rfl
theorem bn_law_polygon (T : Tx K mg) : Binds K (fdOf K (He.ga K "_law_polygon")) ["_law_pool_here"] [] := T.d_law_polygon.bindsN fun _ _ _ _ _ _ us hl => match us, hl with | [_], _ => rfl
theorem bn_law_names (T : Tx K mg) : Binds K (fdOf K (He.ga K "_law_names")) ["_law_pool_here", "_law_many"] [] := T.d_law_names.bindsN fun _ _ _ _ _ _ us hl => match us, hl with | [_, _], _ => rfl
theorem bn_law_assigned (T : Tx K mg) : Binds K (fdOf K (He.ga K "_law_assigned")) ["_law_some", "_law_value"] [] := T.d_law_assigned.bindsN fun _ _ _ _ _ _ us hl => match us, hl with | [_, _], _ => rfl
theorem bn_law_added (T : Tx K mg) : Binds K (fdOf K (He.ga K "_law_added")) ["_law_some", "_law_name", "_law_polygon_here"] [] := T.d_law_added.bindsN fun _ _ _ _ _ _ us hl => match us, hl with | [_, _, _], _ => rfl
theorem kb_Collection_init_ (T : Tx K mg) : ∃ mv : List Value, KBn K (fdOf K (He.ma K (He.ga K "Collection") "__init__")) ["self", "capacity"] 1 [] (fun us ws => us ++ mv) (fun vs zs => vs ++ [(.int 20)]) :=
  FunD.kbinds0 T.d_Collection_init 1 [] [("capacity", (.int 20))] (fun us mv ws => us ++ mv) (List.cons_ne_nil _ _) (by simp) (fun r1 r2 r3 => r1.append r2) fun _ _ _ _ _ _ us mv ws hu hm hw => match us, mv, ws, hu, hm, hw with | [_], [_], [], _, _, _ => ⟨_, _, _, _, _, _, rfl, rfl, rfl⟩
theorem bk_Collection_init (T : Tx K mg) : ∃ ds : List Value, Vals [(.int 20)] ds ∧ Binds K (fdOf K (He.ma K (He.ga K "Collection") "__init__")) ["self", "capacity"] ds := T.d_Collection_init.binds0 1 (List.cons_ne_nil _ _) rfl fun _ _ _ _ _ _ us mv hu hm => match us, mv, hu, hm with | [_], [_], _, _ => ⟨_, _, _, _, _, _, rfl, rfl, rfl⟩
theorem kb_Collection_init_capacity (T : Tx K mg) : ∃ mv : List Value, KBn K (fdOf K (He.ma K (He.ga K "Collection") "__init__")) ["self", "capacity"] 1 ["capacity"] (fun us ws => us ++ ws) (fun vs zs => vs ++ zs) :=
  FunD.kbinds0 T.d_Collection_init 1 ["capacity"] [] (fun us mv ws => us ++ ws) (List.cons_ne_nil _ _) (by simp) (fun r1 r2 r3 => r1.append r3) fun _ _ _ _ _ _ us mv ws hu hm hw => match us, mv, ws, hu, hm, hw with | [_], [], [_], _, _, _ => rfl
theorem kb_Collection_undo_ (T : Tx K mg) : ∃ mv : List Value, KBn K (fdOf K (He.ma K (He.ga K "Collection") "undo")) ["self", "number"] 1 [] (fun us ws => us ++ mv) (fun vs zs => vs ++ [(.int 1)]) :=
  FunD.kbinds0 T.d_Collection_undo 1 [] [("number", (.int 1))] (fun us mv ws => us ++ mv) (List.cons_ne_nil _ _) (by simp) (fun r1 r2 r3 => r1.append r2) fun _ _ _ _ _ _ us mv ws hu hm hw => match us, mv, ws, hu, hm, hw with | [_], [_], [], _, _, _ => ⟨_, _, _, _, _, _, rfl, rfl, rfl⟩
theorem bk_Collection_undo (T : Tx K mg) : ∃ ds : List Value, Vals [(.int 1)] ds ∧ Binds K (fdOf K (He.ma K (He.ga K "Collection") "undo")) ["self", "number"] ds := T.d_Collection_undo.binds0 1 (List.cons_ne_nil _ _) rfl fun _ _ _ _ _ _ us mv hu hm => match us, mv, hu, hm with | [_], [_], _, _ => ⟨_, _, _, _, _, _, rfl, rfl, rfl⟩
end
end G
/-! ### the walk: one step; all plain steps -/
open PySem PySem.Spec PyProof.Rows L2 G
local macro_rules | `(tactic| walk_at "g1") => `(tactic| first
  | (with_reducible refine' r_seq ?_)
  | (with_reducible refine' r_asg ?_)
  | (with_reducible refine' r_ifs ?_)
  | (with_reducible refine' r_test ?_)
  | (with_reducible refine' r_op ?_)
  | ((with_reducible refine' r_var ?h ?_); (case h => exact rfl))
  | (with_reducible refine' r_c ?_)
  | (with_reducible refine' r_I0 ?_)
  | (with_reducible refine' r_bl ?_)
  | (with_reducible refine' r_cons ?_)
  | (with_reducible refine' r_nil ?_)
  | (with_reducible refine' r_gname ?_)
  | (with_reducible refine' r_next ?_)
  | (with_reducible refine' r_ret ?_)
  | (with_reducible refine' r_un ?_)
  | (with_reducible refine' r_U ?_)
  | (with_reducible refine' r_cb ?_)
  | (with_reducible refine' r_call ?_)
  | (with_reducible refine' r_callS ?_)
  | (with_reducible refine' r_callR ?_)
  | (with_reducible refine' r_methA ?_)
  | (with_reducible refine' r_makeA ?_)
  | ((with_reducible refine' r_makeL ?h ?_); (case h => exact rfl))
  | (with_reducible refine' r_cmethA ?_)
  | (with_reducible refine' r_cval ?_)
  | (with_reducible refine' r_prop ?_)
  | (with_reducible refine' r_propG ?_)
  | (with_reducible refine' r_methG ?_)
  | (with_reducible refine' r_fld ?_)
  | (with_reducible refine' r_sfld ?_)
  | (with_reducible refine' r_lst ?_)
  | (with_reducible refine' r_tup ?_)
  | (with_reducible refine' r_drop ?_)
  | (with_reducible refine' r_sub ?_)
  | (with_reducible refine' r_and ?_)
  | (with_reducible refine' r_or ?_)
  | (with_reducible refine' r_not ?_)
  | (with_reducible refine' r_andV ?_)
  | (with_reducible refine' r_orV ?_)
  | (with_reducible refine' r_notV ?_)
  | (with_reducible refine' r_if ?_)
  | (with_reducible refine' r_tB ?_)
  | ((with_reducible refine' r_aug ?h ?_); (case h => exact rfl))
  | (with_reducible refine' r_ipI ?_)
  | (with_reducible refine' r_gcons ?_)
  | (with_reducible refine' r_gnil ?_)
  | ((with_reducible refine' r_gtup ?h1 ?_ ?h2); (case h1 => exact SqT.of (by assumption)); (case h2 => exact rfl))
  | ((with_reducible refine' r_gtup ?h1 ?_ ?h2); (case h1 => assumption); (case h2 => exact rfl))
  | (with_reducible refine' r_par ?_)
  | (with_reducible refine' r_two ?_)
  | (with_reducible refine' r_abs ?_)
  | (with_reducible refine' r_intB ?_)
  | (with_reducible refine' r_intI ?_)
  | (with_reducible refine' r_max2 ?_)
  | (with_reducible refine' r_min2 ?_)
  | (with_reducible refine' r_tru ?_)
  | (with_reducible refine' r_truI ?_)
  | (with_reducible refine' r_isN ?_)
  | (with_reducible refine' r_notN ?_)
  | (with_reducible refine' r_isB ?_)
  | (with_reducible refine' r_notB ?_)
  | (with_reducible refine' r_forR1 ?_)
  | (with_reducible refine' r_forR2 ?_)
  | (with_reducible refine' r_forL ?_)
  | (with_reducible refine' r_forT ?_)
  | (with_reducible refine' r_forZ ?_)
  | (with_reducible refine' r_forE ?_)
  | (with_reducible refine' r_lcE ?_)
  | (with_reducible refine' r_lcZ3 ?_)
  | (with_reducible refine' r_ost ?_)
  | (with_reducible refine' r_bm ?_)
  | (with_reducible refine' r_xf ?_)
  | (with_reducible refine' r_sl ?_)
  | (with_reducible refine' r_noPart ?_)
  | (with_reducible refine' r_part ?_)
  | (with_reducible refine' r_partI ?_)
  | (with_reducible refine' r_lcR1 ?_)
  | (with_reducible refine' r_lcR2 ?_)
  | (with_reducible refine' r_lcL ?_)
  | (with_reducible refine' r_lcT ?_)
  | (with_reducible refine' r_eqI ?_)
  | (with_reducible refine' r_neI ?_)
  | ((with_reducible refine' r_eq ?h ?_); (case h => exact rfl))
  | ((with_reducible refine' r_ne ?h ?_); (case h => exact rfl)))
local macro_rules | `(tactic| walk_at "g") => `(tactic| repeat walk_at "g1")
local macro_rules | `(tactic| walk_at "ix") => `(tactic| first
  | ((with_reducible refine' r_ixL ?h1 ?h2 ?_); (case h1 => exact SqL.of (by assumption)); (case h2 => exact rfl))
  | ((with_reducible refine' r_ixT ?h1 ?h2 ?_); (case h1 => exact SqT.of (by assumption)); (case h2 => exact rfl))
  | ((with_reducible refine' r_ixL ?h1 ?h2 ?_); (case h1 => exact SqL.of upd_same); (case h2 => exact rfl))
  | ((with_reducible refine' r_ixL ?h1 ?h2 ?_); (case h1 => assumption); (case h2 => exact rfl))
  | ((with_reducible refine' r_ixT ?h1 ?h2 ?_); (case h1 => assumption); (case h2 => exact rfl)))
local macro_rules | `(tactic| walk_at "gx") => `(tactic| repeat (first | walk_at "g1" | walk_at "ix"))
local macro_rules | `(tactic| walk_at "g0") => `(tactic| repeat (first | (with_reducible refine' r_asg ?_) | (with_reducible refine' r_gname ?_) | (with_reducible refine' r_next ?_)))
local macro_rules | `(tactic| walk_at "st") => `(tactic| ((with_reducible refine' r_gnameS ?h ?_); (case h => simp only [List.set_cons_zero, List.set_cons_succ]; exact rfl)))
local macro_rules | `(tactic| walk_at "gs") => `(tactic| repeat (first | walk_at "st" | walk_at "g1" | walk_at "ix"))
local macro_rules | `(tactic| walk_at "s0") => `(tactic| ((refine' r_st ?h ?_); (case h => simp only [L2.start, List.map_cons, List.map_nil, List.length_cons, List.length_nil, List.replicate, List.cons_append, List.nil_append, Nat.reduceAdd, Nat.reduceSub, Nat.zero_add]; exact rfl)))
namespace G
open PySem PySem.Spec PyProof.Rows L2
section
variable {w : World} {K : PySem.W.Frag} {mg : Str → Option Value} {base : Heap}
/-! #### is_integer -/
def sp_is_integer (K : PySem.W.Frag) : Sp := fun vs H Q _ => ∃ (v : V) (n : String), vs = [v] ∧ Kd K H v n ∧ Q (.bl (isI v)) H
theorem ok_is_integer (T : Tx K mg) : FnOk Pg w K mg base CX0 1 (He.ga K "is_integer") (fdOf K (He.ga K "is_integer")) ["value"] (sp_is_integer K) := by
  refine T.d_is_integer.ok sc_is_integer (fun vs H Q E h => ?_) (fun cdv A outer s H vs Q E hr h => ?_)
  · obtain ⟨v, n, rfl, _⟩ := h
    rfl
  · obtain ⟨v, n, rfl, kd, q⟩ := h
    refine ⟨_, PSs.nox (pss_one (ps_ret (pe_and (pe_callB (kIsi (K := K)) (by rfl) T.n_isinstance (by decide +kernel) (pa_cons (pv 0) (pa_cons (pe_bltn (v := .ty "int") (by rfl) T.n_int (by decide +kernel) rfl) pa_nil))) (pe_one (pe_not (pe_callB (kIsi (K := K)) (by rfl) T.n_isinstance (by decide +kernel) (pa_cons (pv 0) (pa_cons (pe_bltn (v := .ty "bool") (by rfl) T.n_bool (by decide +kernel) rfl) pa_nil)))))))), ?_⟩
    obtain ⟨k1, k2, _, _, e⟩ := kd.kit
    walk_at "g"
    refine r_isi (.ty "int") kd.ty k1 ?_
    walk_at "g"
    refine r_b (fun hb => ?_) (fun hb => ?_)
    · walk_at "g"
      refine r_isi (.ty "bool") kd.ty k2 ?_
      walk_at "g"
      rw [hb, Bool.true_and] at e
      rw [← e]
      exact q
    · rw [hb, Bool.false_and] at e
      rw [← e]
      exact q
/-! #### check_integer -/
def goodI (v l : V) : Bool := match v with
  | .int i => (match l with | .int m => decide (m ≤ i) | _ => true)
  | _ => false
def sp_check_integer (K : PySem.W.Frag) : Sp := fun vs H Q E => ∃ (v l : V) (n : String), vs = [v, l] ∧ Kd K H v n ∧ (l = .non ∨ ∃ m, l = .int m) ∧ (goodI v l = true → Q .non H) ∧ (goodI v l = false → E (.ref (He.ga K "InvalidInteger")) none H)
theorem ok_check_integer (T : Tx K mg) : FnOk Pg w K mg base (L2.CX Pg w) 2 (He.ga K "check_integer") (fdOf K (He.ga K "check_integer")) ["value", "least"] (sp_check_integer K) := by
  refine T.d_check_integer.ok sc_check_integer (fun vs H Q E h => ?_) (fun cdv A outer s H vs Q E hr h => ?_)
  · obtain ⟨v, l, n, rfl, _⟩ := h
    rfl
  · obtain ⟨v, l, n, rfl, kd, hl, q1, q2⟩ := h
    refine ⟨_, (pss_one (ps_if (PW.pt (pw_or (pt_not (pt_val (pe_call (ok_is_integer (K := K) T) (hr.mono (by decide)) rfl T.g_is_integer T.d_is_integer.kp (bn_is_integer T) .nil pass0 (pa_cons (pv 0) pa_nil)))) (pw_or1 (PW.pt (pw_and (pt_cmpR op_notN1 (pv 1) pe_non (nomark _)) (pw_and1 (pt_cmpR op_lt (pv 0) (pv 1) (nomark _)))))))) (pss_one (ps_raise rfl (takes_of rfl rfl rfl rfl) (pmk_own PySem.F.excBase_ValueError T.x_InvalidInteger.x T.g_InvalidInteger T.x_InvalidInteger.k (raises_own T.x_InvalidInteger.b T.x_InvalidInteger.t) rfl))) pss_nil)), ?_⟩
    walk_at "g"
    refine ⟨v, n, rfl, kd, ?_⟩
    walk_at "g"
    cases v with
    | int i =>
      show if (!true) = true then _ else _
      refine iteF ?_
      walk_at "g"
      rcases hl with rfl | ⟨m, rfl⟩
      · exact q1 rfl
      · refine iteT ?_
        walk_at "g"
        refine r_dec (fun h => q2 (decide_eq_false (by omega))) (fun h => q1 (decide_eq_true (by omega)))
    | _ => exact q2 rfl
/-! #### is_point -/
def sp_is_point (K : PySem.W.Frag) : Sp := fun vs H Q _ => ∃ (v : V) (b : Bool), vs = [v] ∧ PtB K H v b ∧ ∀ H', Same H H' → Q (.bl b) H'
theorem kd_isi {H : Hp} {v : V} {n : String} (k : Kd K H v n) (c : String) (b : Bool) (hc : kitB n c = some b) {Q : VK} (q : Q (.bl b) H) : rIsi K [v, .ty c] H Q := r_isi (.ty c) k.ty (kit_ty hc) q
theorem ok_is_point (T : Tx K mg) : FnOk Pg w K mg base CX0 2 (He.ga K "is_point") (fdOf K (He.ga K "is_point")) ["value"] (sp_is_point K) := by
  refine T.d_is_point.ok sc_is_point (fun vs H Q E h => ?_) (fun cdv A outer s H vs Q E hr h => ?_)
  · obtain ⟨v, b, rfl, _⟩ := h
    rfl
  · obtain ⟨v, b, rfl, hb, q⟩ := h
    refine ⟨_, PSs.nox (pss_one (ps_ret (pe_and (pe_callB (kIsi (K := K)) (by rfl) T.n_isinstance (by decide +kernel) (pa_cons (pv 0) (pa_cons (pe_bltn (v := .ty "tuple") (by rfl) T.n_tuple (by decide +kernel) rfl) pa_nil))) (pe_and (pe_cmpR op_eq (pe_callB (kLen (K := K)) (by rfl) T.n_len (by decide +kernel) (pa_cons (pv 0) pa_nil)) pe_int (nomark _)) (pe_one (pe_callB (kAll (K := K) rfl) (by rfl) T.n_all (by decide +kernel) (pa_cons (pe_lc (own := [("item", 1)]) (g := (gName 1)) (tt := tYes) rfl sc_is_point.nd (kpiT (K := K) (pv 0)) (blkOk_by (own := [("item", 1)]) (N := ["value", "item"]) (sc := defScope s_is_point) (by decide +kernel)) (fun _ _ _ _ _ => (pg_name (i := 1) sc_is_point.nd rfl (Or.inl rfl))) (fun _ _ _ _ _ => pts_nil) (fun _ _ _ _ _ => (pe_call (ok_is_integer (K := K) T) (hr.mono (by decide)) rfl T.g_is_integer T.d_is_integer.kp (bn_is_integer T) .nil pass0 (pa_cons (pv 1) pa_nil)))) pa_nil))))))), ?_⟩
    have two : ∀ (p : Addr) (x y : V) (m n : String), SqT K H p [x, y] → Kd K H x m → Kd K H y n → (isI x && isI y) = b → v = .ref p → tAndV (tOp rEq (tCB (rLn K) (tCons (tVar 0) tNil)) (tC (V.int 2))) (tCB (rAll K) (tCons (tLc (iTup K (tVar 0)) (gName 1) tYes (tCall (sp_is_integer K) [] E0 (tCons (tVar 1) tNil)) [1]) tNil)) [some v, none] H Q := by
      rintro p x y m n hs kx ky hi rfl
      walk_at "gx"
      refine r_lenT hs ?_
      walk_at "gx"
      refine r_dec (fun _ => ?_) (fun h => absurd rfl h)
      walk_at "gx"
      refine compT (xs := [x, y]) (by show 2 ≤ 100000; decide) (fun D i acc H' => Same H H' ∧ acc = ([isI x, isI y].take i).map V.bl) hs (fun D hD => ⟨same_new (Same.refl H) hD, rfl⟩) (fun D i acc H' _ p => sqT_same p.1 hs) ?_ ?_
      · rintro D i z acc H1 hD hz hi2 ⟨S1, rfl⟩ hacc hl
        refine r_gname ⟨rfl, ?_⟩
        walk_at "gx"
        have hi2 : i < 2 := hi2
        have kz : ∃ k, Kd K H1 z k := by
          have hz := List.mem_of_getElem? hz
          simp only [List.mem_cons, List.not_mem_nil, or_false] at hz
          rcases hz with rfl | rfl
          · exact ⟨_, kx.same S1⟩
          · exact ⟨_, ky.same S1⟩
        obtain ⟨k, kz⟩ := kz
        refine ⟨_, _, rfl, kz, ?_⟩
        refine cnext hacc hl (by omega) ⟨fun c o e => ?_, ?_⟩
        · rw [upd_ne (ne_of_none e hD)]
          exact S1 c o e
        · rcases (show i = 0 ∨ i = 1 by omega) with rfl | rfl
          · cases hz; rfl
          · cases hz; rfl
      · rintro D acc H1 hD ⟨S1, rfl⟩ hacc hl
        refine ⟨D, [isI x, isI y], rfl, SqL.of hacc, ?_⟩
        have e : [isI x, isI y].all id = b := by
          show (isI x && (isI y && true)) = b
          rw [Bool.and_true]; exact hi
        rw [e]
        exact q H1 S1
    walk_at "gx"
    cases hb with
    | yes p hp =>
      obtain ⟨a, rfl, hs⟩ := hp.pt_of
      refine kd_isi (.tup hs) _ true (by decide +kernel) ?_
      refine ⟨true, rfl, iteT ?_⟩
      exact two a _ _ _ _ hs (.int _) (.int _) rfl rfl
    | kind k hn =>
      refine kd_isi k _ false ?_ ?_
      · cases k with
        | tup e => exact absurd rfl hn
        | non => decide +kernel
        | bl x => decide +kernel
        | int x => decide +kernel
        | str x => decide +kernel
        | lst x => decide +kernel
        | dK x => decide +kernel
      · refine ⟨false, rfl, iteF ?_⟩
        exact q _ (Same.refl H)
    | @len a xs hs hn =>
      refine kd_isi (.tup hs) _ true (by decide +kernel) ?_
      refine ⟨true, rfl, iteT ?_⟩
      walk_at "gx"
      refine r_lenT hs ?_
      walk_at "gx"
      refine r_dec (fun h => absurd h (by omega)) (fun h => ?_)
      exact q _ (Same.refl H)
    | item hs kx ky hi =>
      refine kd_isi (.tup hs) _ true (by decide +kernel) ?_
      refine ⟨true, rfl, iteT ?_⟩
      exact two _ _ _ _ _ hs kx ky hi rfl
/-! #### cross_of -/
def sp_cross_of (K : PySem.W.Frag) : Sp := fun vs H Q _ => ∃ (v u : V) (p q : Int × Int), vs = [v, u] ∧ Hd K H v p ∧ Hd K H u q ∧ PBd 100000 p ∧ PBd 100000 q ∧ Q (.int (crs p q)) H
theorem ok_cross_of (T : Tx K mg) : FnOk Pg w K mg base CX0 1 (He.ga K "cross_of") (fdOf K (He.ga K "cross_of")) ["first", "second"] (sp_cross_of K) := by
  refine T.d_cross_of.ok sc_cross_of (fun vs H Q E h => ?_) (fun cdv A outer s H vs Q E hr h => ?_)
  · obtain ⟨v, u, p, q, rfl, _⟩ := h
    rfl
  · obtain ⟨v, u, p, q, rfl, hp, hq, bp, bq, k⟩ := h
    obtain ⟨a, rfl, ha⟩ := hp.pt_of
    obtain ⟨b, rfl, hb⟩ := hq.pt_of
    refine ⟨_, PSs.nox (pss_one (ps_ret (pe_op op_sub (pe_op op_mulA (pe_ix (kIxT (K := K)) (pv 0) pe_int (fun _ _ => rfl)) (pe_ix (kIxT (K := K)) (pv 1) pe_int (fun _ _ => rfl))) (pe_op op_mulA (pe_ix (kIxT (K := K)) (pv 0) pe_int (fun _ _ => rfl)) (pe_ix (kIxT (K := K)) (pv 1) pe_int (fun _ _ => rfl)))))), ?_⟩
    walk_at "gx"
    refine r_I (bp.1.ok bq.2) ?_
    walk_at "gx"
    refine r_I (bp.2.ok bq.1) ?_
    walk_at "gx"
    exact k
/-! #### difference -/
def sp_difference (K : PySem.W.Frag) : Sp := fun vs H Q _ => ∃ (v u : V) (p q : Pt), vs = [v, u] ∧ Hd K H v p ∧ Hd K H u q ∧ ∀ r H', Same H H' → Hd K H' r (dif p q) → Q r H'
theorem ok_difference (T : Tx K mg) : FnOk Pg w K mg base CX0 1 (He.ga K "difference") (fdOf K (He.ga K "difference")) ["end", "start"] (sp_difference K) := by
  refine T.d_difference.ok sc_difference (fun vs H Q E h => ?_) (fun cdv A outer s H vs Q E hr h => ?_)
  · obtain ⟨v, u, p, q, rfl, _⟩ := h
    rfl
  · obtain ⟨v, u, p, q, rfl, hp, hq, k⟩ := h
    obtain ⟨a, rfl, ha⟩ := hp.pt_of
    obtain ⟨b, rfl, hb⟩ := hq.pt_of
    refine ⟨_, PSs.nox (pss_one (ps_ret (pe_tup (pa_cons (pe_op op_sub (pe_ix (kIxT (K := K)) (pv 0) pe_int (fun _ _ => rfl)) (pe_ix (kIxT (K := K)) (pv 1) pe_int (fun _ _ => rfl))) (pa_cons (pe_op op_sub (pe_ix (kIxT (K := K)) (pv 0) pe_int (fun _ _ => rfl)) (pe_ix (kIxT (K := K)) (pv 1) pe_int (fun _ _ => rfl))) pa_nil))))), ?_⟩
    walk_at "gx"
    refine r_new fun t ht => ?_
    generalize e2 : upd H t _ = H2
    obtain ⟨s2, g2⟩ := fresh ht e2
    exact k _ _ s2 (hd_pair (SqT.of g2) hd_int hd_int)
/-! #### turn_of -/
def sp_turn_of (K : PySem.W.Frag) : Sp := fun vs H Q _ => ∃ (u v w : V) (a b c : Pt), vs = [u, v, w] ∧ Hd K H u a ∧ Hd K H v b ∧ Hd K H w c ∧ PBd 90000 a ∧ PBd 90000 b ∧ PBd 90000 c ∧ ∀ H', Same H H' → Q (.int (trn a b c)) H'
theorem ok_turn_of (T : Tx K mg) : FnOk Pg w K mg base CX0 2 (He.ga K "turn_of") (fdOf K (He.ga K "turn_of")) ["first", "second", "third"] (sp_turn_of K) := by
  refine T.d_turn_of.ok sc_turn_of (fun vs H Q E h => ?_) (fun cdv A outer s H vs Q E hr h => ?_)
  · obtain ⟨u, v, w, a, b, c, rfl, _⟩ := h
    rfl
  · obtain ⟨u, v, w, a, b, c, rfl, ha, hb, hc, ba, bb, bc, q⟩ := h
    refine ⟨_, PSs.nox (pss_one (ps_ret (pe_call (ok_cross_of (K := K) T) (hr.mono (by decide)) rfl T.g_cross_of T.d_cross_of.kp (bn_cross_of T) .nil pass0 (pa_cons (pe_call (ok_difference (K := K) T) (hr.mono (by decide)) rfl T.g_difference T.d_difference.kp (bn_difference T) .nil pass0 (pa_cons (pv 1) (pa_cons (pv 0) pa_nil))) (pa_cons (pe_call (ok_difference (K := K) T) (hr.mono (by decide)) rfl T.g_difference T.d_difference.kp (bn_difference T) .nil pass0 (pa_cons (pv 2) (pa_cons (pv 1) pa_nil))) pa_nil))))), ?_⟩
    walk_at "gx"
    refine ⟨_, _, b, a, rfl, hb, ha, fun r1 H1 s1 h1 => ?_⟩
    walk_at "gx"
    refine ⟨_, _, c, b, rfl, hc.same s1, hb.same s1, fun r2 H2 s2 h2 => ?_⟩
    walk_at "gx"
    exact ⟨_, _, _, _, rfl, h1.same s2, h2, (bb.dif ba).mono (by decide), (bc.dif bb).mono (by decide), q H2 (s1.trans s2)⟩
/-! #### InvalidPolygon.__init__ -/
theorem ok_InvalidPolygon_init (T : Tx K mg) : FnOk Pg w K mg base CX0 1 (He.ma K (He.ga K "InvalidPolygon") "__init__") (fdOf K (He.ma K (He.ga K "InvalidPolygon") "__init__")) ["self", "position"] (spX1 (He.ga K "InvalidPolygon") "position") := by
  refine T.d_InvalidPolygon_init.ok sc_InvalidPolygon_init (fun vs H Q E h => ?_) (fun cdv A outer s H vs Q E hr h => ?_)
  · obtain ⟨a, v, rfl, _⟩ := h
    rfl
  · obtain ⟨a, v, rfl, ha, q⟩ := h
    refine ⟨_, PSs.nox (pss_one (kOst (K := K) (ps_ost (pv 0) (pv 1)))), ?_⟩
    walk_at "gx"
    exact ⟨a, _, rfl, T.x_InvalidPolygon.o, T.x_InvalidPolygon.n _ (by simp), .inl ⟨ha, fun dx h1 h2 => q dx h1 h2⟩⟩
/-! #### DegenerateCorner.__init__ -/
theorem ok_DegenerateCorner_init (T : Tx K mg) : FnOk Pg w K mg base CX0 1 (He.ma K (He.ga K "DegenerateCorner") "__init__") (fdOf K (He.ma K (He.ga K "DegenerateCorner") "__init__")) ["self", "position"] (spX1 (He.ga K "DegenerateCorner") "position") := by
  refine T.d_DegenerateCorner_init.ok sc_DegenerateCorner_init (fun vs H Q E h => ?_) (fun cdv A outer s H vs Q E hr h => ?_)
  · obtain ⟨a, v, rfl, _⟩ := h
    rfl
  · obtain ⟨a, v, rfl, ha, q⟩ := h
    refine ⟨_, PSs.nox (pss_one (kOst (K := K) (ps_ost (pv 0) (pv 1)))), ?_⟩
    walk_at "gx"
    exact ⟨a, _, rfl, T.x_DegenerateCorner.o, T.x_DegenerateCorner.n _ (by simp), .inl ⟨ha, fun dx h1 h2 => q dx h1 h2⟩⟩
/-! #### CrossingEdges.__init__ -/
theorem ok_CrossingEdges_init (T : Tx K mg) : FnOk Pg w K mg base CX0 1 (He.ma K (He.ga K "CrossingEdges") "__init__") (fdOf K (He.ma K (He.ga K "CrossingEdges") "__init__")) ["self", "first", "second"] (spX2 (He.ga K "CrossingEdges") "first" "second") := by
  refine T.d_CrossingEdges_init.ok sc_CrossingEdges_init (fun vs H Q E h => ?_) (fun cdv A outer s H vs Q E hr h => ?_)
  · obtain ⟨a, v, u, rfl, _⟩ := h
    rfl
  · obtain ⟨a, v, u, rfl, ha, q⟩ := h
    refine ⟨_, PSs.nox (pss_cons (kOst (K := K) (ps_ost (pv 0) (pv 1)))
      (pss_one (kOst (K := K) (ps_ost (pv 0) (pv 2))))), ?_⟩
    walk_at "gx"
    refine ⟨a, _, rfl, T.x_CrossingEdges.o, T.x_CrossingEdges.n _ (by simp), .inl ⟨ha, fun dx h1 h2 => ?_⟩⟩
    walk_at "gx"
    refine ⟨a, _, rfl, T.x_CrossingEdges.o, T.x_CrossingEdges.n _ (by simp), .inr ⟨dx, [("first", v)], upd_same, ?_, (by show 1 ≤ 900; decide), q dx h1 h2⟩⟩
    rw [upd_ne h2, upd_same]
/-! #### NotConvex.__init__ -/
theorem ok_NotConvex_init (T : Tx K mg) : FnOk Pg w K mg base CX0 1 (He.ma K (He.ga K "NotConvex") "__init__") (fdOf K (He.ma K (He.ga K "NotConvex") "__init__")) ["self", "position"] (spX1 (He.ga K "NotConvex") "position") := by
  refine T.d_NotConvex_init.ok sc_NotConvex_init (fun vs H Q E h => ?_) (fun cdv A outer s H vs Q E hr h => ?_)
  · obtain ⟨a, v, rfl, _⟩ := h
    rfl
  · obtain ⟨a, v, rfl, ha, q⟩ := h
    refine ⟨_, PSs.nox (pss_one (kOst (K := K) (ps_ost (pv 0) (pv 1)))), ?_⟩
    walk_at "gx"
    exact ⟨a, _, rfl, T.x_NotConvex.o, T.x_NotConvex.n _ (by simp), .inl ⟨ha, fun dx h1 h2 => q dx h1 h2⟩⟩
/-! #### UnknownName.__init__ -/
theorem ok_UnknownName_init (T : Tx K mg) : FnOk Pg w K mg base CX0 1 (He.ma K (He.ga K "UnknownName") "__init__") (fdOf K (He.ma K (He.ga K "UnknownName") "__init__")) ["self", "name"] (spX1 (He.ga K "UnknownName") "name") := by
  refine T.d_UnknownName_init.ok sc_UnknownName_init (fun vs H Q E h => ?_) (fun cdv A outer s H vs Q E hr h => ?_)
  · obtain ⟨a, v, rfl, _⟩ := h
    rfl
  · obtain ⟨a, v, rfl, ha, q⟩ := h
    refine ⟨_, PSs.nox (pss_one (kOstG (K := K) (ps_ostG (pv 0) (pv 1)))), ?_⟩
    walk_at "gx"
    refine r_ostG ?_
    walk_at "gx"
    exact ⟨a, _, rfl, T.xg_UnknownName.o, T.xg_UnknownName.n _ (by simp), ha, fun dx h1 h2 => q dx h1 h2⟩
/-! #### NameInUse.__init__ -/
theorem ok_NameInUse_init (T : Tx K mg) : FnOk Pg w K mg base CX0 1 (He.ma K (He.ga K "NameInUse") "__init__") (fdOf K (He.ma K (He.ga K "NameInUse") "__init__")) ["self", "name"] (spX1 (He.ga K "NameInUse") "name") := by
  refine T.d_NameInUse_init.ok sc_NameInUse_init (fun vs H Q E h => ?_) (fun cdv A outer s H vs Q E hr h => ?_)
  · obtain ⟨a, v, rfl, _⟩ := h
    rfl
  · obtain ⟨a, v, rfl, ha, q⟩ := h
    refine ⟨_, PSs.nox (pss_one (kOstG (K := K) (ps_ostG (pv 0) (pv 1)))), ?_⟩
    walk_at "gx"
    refine r_ostG ?_
    walk_at "gx"
    exact ⟨a, _, rfl, T.xg_NameInUse.o, T.xg_NameInUse.n _ (by simp), ha, fun dx h1 h2 => q dx h1 h2⟩
/-! #### LimitExceeded.__init__ -/
theorem ok_LimitExceeded_init (T : Tx K mg) : FnOk Pg w K mg base CX0 1 (He.ma K (He.ga K "LimitExceeded") "__init__") (fdOf K (He.ma K (He.ga K "LimitExceeded") "__init__")) ["self", "size"] (spX1 (He.ga K "LimitExceeded") "size") := by
  refine T.d_LimitExceeded_init.ok sc_LimitExceeded_init (fun vs H Q E h => ?_) (fun cdv A outer s H vs Q E hr h => ?_)
  · obtain ⟨a, v, rfl, _⟩ := h
    rfl
  · obtain ⟨a, v, rfl, ha, q⟩ := h
    refine ⟨_, PSs.nox (pss_one (kOstO (K := K) (ps_ostO (pv 0) (pv 1)))), ?_⟩
    refine r_ostO ?_
    walk_at "gx"
    exact ⟨a, _, rfl, T.x_LimitExceeded.o, T.x_LimitExceeded.n _ (by simp), ha, fun dx h1 h2 => q dx h1 h2⟩
/-! #### check_points -/
theorem kit_lt {H : Hp} {v : V} {n : String} (k : Kd K H v n) : PySem.W.kitAny K (.type n) [.type "list", .type "tuple"] = some (n == "list" || n == "tuple") := by
  obtain ⟨_, _, h3, h4, _⟩ := k.kit
  unfold PySem.W.kitAny
  rw [h4]
  cases e : (n == "list") with
  | true => rfl
  | false =>
    show PySem.W.kitAny K (.type n) [.type "tuple"] = _
    unfold PySem.W.kitAny
    rw [h3]
    cases (n == "tuple") <;> rfl
theorem r_isLT {H : Hp} {v : V} {n : String} {t : Addr} {Q : VK} (ht : H t = some (.tup [.ty "list", .ty "tuple"])) (k : Kd K H v n) (q : Q (.bl (n == "list" || n == "tuple")) H) : rIsiT K [v, .ref t] H Q := r_isiT2 ht (.cons (.ty "list") (.cons (.ty "tuple") .nil)) k.ty (kit_lt k) q
theorem sqs_kd {H : Hp} {a : Addr} {xs : List V} (h : SqS K H a xs) : ∃ n, Kd K H (.ref a) n ∧ (n == "list" || n == "tuple") = true := by
  rcases h with h | h
  · exact ⟨_, .lst h, rfl⟩
  · exact ⟨_, .tup h, rfl⟩
def sp_check_points (K : PySem.W.Frag) : Sp := fun vs H Q E => (∃ (a : Addr) (xs : List V) (f : Nat → Bool), vs = [.ref a] ∧ SqS K H a xs ∧ (∀ i x, xs[i]? = some x → PtB K H x (f i)) ∧
  ((∀ i, i < xs.length → f i = true) → ∀ H', Same H H' → Q .non H') ∧
  (∀ i, i < xs.length → f i = false → (∀ j, j < i → f j = true) → ∀ d H', Same H H' → H d = none → H' d = some (.xd [("position", .int (i : Int))]) → E (.ref (He.ga K "InvalidPolygon")) (some d) H')) ∨
  ∃ (v : V) (n : String), vs = [v] ∧ Kd K H v n ∧ (n == "list" || n == "tuple") = false ∧ ∀ d H', Same H H' → H d = none → H' d = some (.xd [("position", .non)]) → E (.ref (He.ga K "InvalidPolygon")) (some d) H'
theorem ok_check_points (T : Tx K mg) : FnOk Pg w K mg base (L2.CX Pg w) 3 (He.ga K "check_points") (fdOf K (He.ga K "check_points")) ["value"] (sp_check_points K) := by
  refine T.d_check_points.ok sc_check_points (fun vs H Q E h => ?_) (fun cdv A outer s H vs Q E hr h => ?_)
  · rcases h with ⟨a, xs, f, rfl, _⟩ | ⟨v, n, rfl, _⟩ <;> rfl
  · refine ⟨_, (pss_cons (ps_if (pt_not (pt_val (pe_callB (kIsiT (K := K)) (by rfl) T.n_isinstance (by decide +kernel) (pa_cons (pv 0) (pa_cons (pe_tup (pa_cons (pe_bltn (v := .ty "list") (by rfl) T.n_list (by decide +kernel) rfl) (pa_cons (pe_bltn (v := .ty "tuple") (by rfl) T.n_tuple (by decide +kernel) rfl) pa_nil))) pa_nil))))) (pss_one (ps_raise rfl (takes_of rfl rfl rfl rfl) (pmk_oex T.x_InvalidPolygon.o T.x_InvalidPolygon.i T.x_InvalidPolygon.t (ok_InvalidPolygon_init (K := K) T) (hr.mono (by decide)) (bn_InvalidPolygon_init T) .nil pass0 rfl T.g_InvalidPolygon (pa_cons pe_non pa_nil)))) pss_nil)
      (pss_one (ps_for (passes_of rfl) rfl (kpiEnumS (K := K) (by rfl) T.n_enumerate (pa_cons (pv 0) pa_nil)) (kpgTup (K := K) (n := 2) rfl (pgs_cons (pg_name (i := 1) sc_check_points.nd rfl (Or.inl rfl)) (pgs_cons (pg_name (i := 2) sc_check_points.nd rfl (Or.inl rfl)) pgs_nil)))
      (pss_one (ps_if (pt_not (pt_val (pe_call (ok_is_point (K := K) T) (hr.mono (by decide)) rfl T.g_is_point T.d_is_point.kp (bn_is_point T) .nil pass0 (pa_cons (pv 2) pa_nil)))) (pss_one (ps_raise rfl (takes_of rfl rfl rfl rfl) (pmk_oex T.x_InvalidPolygon.o T.x_InvalidPolygon.i T.x_InvalidPolygon.t (ok_InvalidPolygon_init (K := K) T) (hr.mono (by decide)) (bn_InvalidPolygon_init T) .nil pass0 rfl T.g_InvalidPolygon (pa_cons (pv 1) pa_nil)))) pss_nil))))), ?_⟩
    rcases h with ⟨a, xs, f, rfl, hS, hf, q1, q2⟩ | ⟨v, n, rfl, kd, hn, q⟩
    case inr =>
      walk_at "gx"
      refine r_new fun t ht => ?_
      generalize e1 : upd H t _ = H1
      obtain ⟨s1, g1⟩ := fresh ht e1
      walk_at "gx"
      refine r_isLT g1 (kd.same s1) ?_
      rw [hn]
      refine ⟨_, rfl, iteT ?_⟩
      refine ⟨(by show 1 ≤ 1000; decide), ?_⟩
      exact r_mkX1 fun d H5 s5 hd h5 => q d H5 (s1.trans s5) (s1.free hd) h5
    walk_at "gx"
    refine r_new fun t ht => ?_
    generalize e1 : upd H t _ = H1
    obtain ⟨s1, g1⟩ := fresh ht e1
    have hS1 := hS.same s1
    obtain ⟨n, kd, hn⟩ := sqs_kd hS1
    walk_at "gx"
    refine r_isLT g1 kd ?_
    rw [hn]
    refine ⟨_, rfl, if_ff ?_⟩
    walk_at "gx"
    refine loopE hS1 (fun i σ' H' => Same H1 H' ∧ (∀ j, j < i → f j = true) ∧ ∃ o1 o2, σ' = [some (.ref a), o1, o2]) ⟨Same.refl _, fun j hj => absurd hj (Nat.not_lt_zero _), _, _, rfl⟩ (fun i σ' H' p => sq_pair p.1) ?_ ?_
    · rintro i x T' σ' H2 hi ⟨S2, hp, o1, o2, rfl⟩ hT
      have hlt : i < xs.length := (List.getElem?_eq_some_iff.mp hi).1
      generalize e3 : upd H2 T' _ = H3
      obtain ⟨s3, g3⟩ := fresh hT e3
      have S3 := (s1.trans S2).trans s3
      walk_at "gx"
      refine ⟨x, f i, rfl, (hf i x hi).same S3, fun H4 s4 => ?_⟩
      have S4 := S3.trans s4
      cases e : f i with
      | true =>
        walk_at "gx"
        refine ⟨(S2.trans s3).trans s4, fun j hj => ?_, _, _, rfl⟩
        rcases Nat.lt_or_ge j i with z | z
        · exact hp j z
        · obtain rfl : j = i := by omega
          exact e
      | false =>
        walk_at "gx"
        refine iteT ?_
        refine ⟨.int (i : Int), rfl, (by show 1 ≤ 1000; decide), ?_⟩
        exact r_mkX1 fun d H5 s5 hd h5 => q2 i hlt e hp d H5 (S4.trans s5) (S4.free hd) h5
    · rintro σ' H2 ⟨S2, hp, o1, o2, rfl⟩
      walk_at "gx"
      exact q1 hp _ (s1.trans S2)
/-! #### triples -/
/-- what triples hands out: with m to come, the triple at n - m -/
def ctrTri (K : PySem.W.Frag) (ps : List Pt) : Ctr where
  yl := fun m Hr x H => Same Hr H ∧ ∃ (a : Addr) (u v w : V), x = .ref a ∧ SqT K H a [u, v, w] ∧ Hd K H u (prv ps (ps.length - m)) ∧ Hd K H v (atC ps (ps.length - m)) ∧ Hd K H w (nxt ps (ps.length - m))
  ok := fun _ H1 H2 => Same H1 H2
  fin := fun Hr H => Same Hr H
def sp_triples (K : PySem.W.Frag) : SpM := fun vs H R => ∃ (v : V) (ps : List Pt), vs = [v] ∧ PSq K H v ps ∧ R ps.length (ctrTri K ps)
theorem ok_triples (T : Tx K mg) : GFm Pg w K mg base 1 (He.ga K "triples") (fdOf K (He.ga K "triples")) ["corners"] (sp_triples K) := by
  obtain ⟨oc, od, dV, kV, doc, pm, an, cdv, ct, osl, efd, lk, hcd, hD, hK⟩ := T.d_triples.ex
  rw [efd]
  refine gfm_of (k := 0) (efd ▸ lk) hcd sc_triples (fun vs H R h => ?_) (fun _ _ _ H vs R h => ?_)
  · obtain ⟨v, ps, rfl, _⟩ := h
    rfl
  · obtain ⟨v, ps, rfl, hv, hR⟩ := h
    refine ⟨_, _, hR, fun A outer L hr => ?_⟩
    refine ⟨_, (gt_cons (gt_for (fun sb H0 => (kpiEnumS (K := K) (by rfl) T.n_enumerate (pa_cons (pv 0) pa_nil))) (fun sb H0 => (kpgTup (K := K) (n := 2) rfl (pgs_cons (pg_name (i := 1) sc_triples.nd rfl (Or.inl rfl)) (pgs_cons (pg_name (i := 2) sc_triples.nd rfl (Or.inl rfl)) pgs_nil))))
      (gt_cons (gt_yield (fun sb H0 => (pe_tup (pa_cons (pe_ix (kIxS (K := K)) (pv 0) (pe_op op_sub (pv 1) pe_int) (fun _ _ => rfl)) (pa_cons (pv 2) (pa_cons (pe_ix (kIxS (K := K)) (pv 0) (pe_op op_mod (pe_op op_add (pv 1) pe_int) (pe_callB (kLen (K := K)) (by rfl) T.n_len (by decide +kernel) (pa_cons (pv 0) pa_nil))) (fun _ _ => rfl)) pa_nil))))))
      gt_nil))
      gt_nil), ?_⟩
    intro H2 hok
    obtain ⟨a, xs, rfl, hS, hx⟩ := hv
    have S0 : Same H H2 := hok
    have hS := hS.same S0
    have hx := hx.same S0
    have hl := hx.length
    refine q_c ?_
    refine q_forE (a := a) (xs := xs) (fun i m Hr σ' H' => Same H2 Hr ∧ Same Hr H' ∧ m = ps.length - i ∧ i ≤ ps.length ∧ ∃ o1 o2, σ' = [some (.ref a), o1, o2]) ?_ ?_
    · walk_at "gx"
      refine ⟨rfl, hS, ⟨Same.refl _, Same.refl _, rfl, Nat.zero_le _, _, _, rfl⟩, ?_, ?_, ?_⟩
      · rintro i m Hr σ' H' ⟨s1, s2, _⟩
        exact sq_pair (s1.trans s2)
      · rintro i x T m Hr σ' H' hi ⟨s1, s2, rfl, hip, o1, o2, rfl⟩ hT
        have hlt : i < xs.length := (List.getElem?_eq_some_iff.mp hi).1
        generalize e3 : upd H' T _ = H3
        obtain ⟨s3, g3⟩ := fresh hT e3
        have S3 := (s1.trans s2).trans s3
        have hS3 := hS.same S3
        have hx3 := hx.same S3
        obtain ⟨u, eu, hu⟩ := hds_prv hx3 hlt
        obtain ⟨w, ew, hw⟩ := hds_nxt hx3 hlt
        have hv := hds_at hx3 hi
        walk_at "gx"
        refine q_c ?_
        refine q_y ?_
        walk_at "gx"
        refine r_ixS hS3 eu ?_
        walk_at "gx"
        refine r_lenS hS3 ?_
        walk_at "gx"
        refine r_I (by show (0 : Int) < (xs.length : Int); omega) ?_
        walk_at "gx"
        refine r_ixS hS3 ew ?_
        walk_at "gx"
        refine r_new fun p4 hp4 => ?_
        generalize e4 : upd H3 p4 _ = H4
        obtain ⟨s4, g4⟩ := fresh hp4 e4
        have ei : ps.length - (ps.length - i) = i := by omega
        refine ⟨ps.length - (i + 1), by omega, ⟨(s2.trans s3).trans s4, p4, u, x, w, rfl, SqT.of g4, ?_, ?_, ?_⟩, ?_⟩
        · rw [ei]; exact hu.same s4
        · rw [ei]; exact hv.same s4
        · rw [ei]; exact hw.same s4
        · intro H5 ok5
          have ok5 : Same H4 H5 := ok5
          exact ⟨(S3.trans s4).trans ok5, Same.refl _, rfl, by omega, _, _, rfl⟩
      · rintro m Hr σ' H' ⟨s1, s2, rfl, hip, o1, o2, rfl⟩
        exact ⟨by omega, s2⟩
    · rintro R R' h ⟨v, e, q⟩
      exact ⟨v, e, h _ _ q⟩
/-! #### check_turns -/
def sp_check_turns (K : PySem.W.Frag) : Sp := fun vs H Q E => ∃ (v : V) (ps : List Pt), vs = [v] ∧ PSq K H v ps ∧ AllBd 90000 ps ∧ ps.length ≤ 100000 ∧
  ((∀ i, i < ps.length → tri0 ps i ≠ 0) → ∀ H', Same H H' → Q .non H') ∧
  (∀ i, i < ps.length → tri0 ps i = 0 → (∀ j, j < i → tri0 ps j ≠ 0) → ∀ d H', Same H H' → H d = none → H' d = some (.xd [("position", .int (i : Int))]) → E (.ref (He.ga K "DegenerateCorner")) (some d) H')
theorem ok_check_turns (T : Tx K mg) : FnOk Pg w K mg base (L2.CX Pg w) 4 (He.ga K "check_turns") (fdOf K (He.ga K "check_turns")) ["corners"] (sp_check_turns K) := by
  refine T.d_check_turns.ok sc_check_turns (fun vs H Q E h => ?_) (fun cdv A outer s H vs Q E hr h => ?_)
  · obtain ⟨v, ps, rfl, _⟩ := h
    rfl
  · obtain ⟨v, ps, rfl, hv, hb, hl, q1, q2⟩ := h
    refine ⟨_, (pss_one (ps_forG (xeok_cx cxok_cx) (passes_of rfl) (pig_enum (pgm_call (ok_triples (K := K) T) (hr.mono (by decide)) rfl T.g_triples T.d_triples.kp (bn_triples T) (pa_cons (pv 0) pa_nil)) (hr.mono (by decide)) (hr.mono (by decide)) (by rfl) T.n_enumerate) (kpgTup (K := K) (n := 2) rfl (pgs_cons (pg_name (i := 1) sc_check_turns.nd rfl (Or.inl rfl)) (pgs_cons (kpgTup (K := K) (n := 3) rfl (pgs_cons (pg_name (i := 2) sc_check_turns.nd rfl (Or.inl rfl)) (pgs_cons (pg_name (i := 3) sc_check_turns.nd rfl (Or.inl rfl)) (pgs_cons (pg_name (i := 4) sc_check_turns.nd rfl (Or.inl rfl)) pgs_nil)))) pgs_nil)))
      (pss_one (ps_if (pt_cmpR op_eq (pe_call (ok_turn_of (K := K) T) (hr.mono (by decide)) rfl T.g_turn_of T.d_turn_of.kp (bn_turn_of T) .nil pass0 (pa_cons (pv 2) (pa_cons (pv 3) (pa_cons (pv 4) pa_nil)))) pe_int (nomark _)) (pss_one (ps_raise rfl (takes_of rfl rfl rfl rfl) (pmk_oex T.x_DegenerateCorner.o T.x_DegenerateCorner.i T.x_DegenerateCorner.t (ok_DegenerateCorner_init (K := K) T) (hr.mono (by decide)) (bn_DegenerateCorner_init T) .nil pass0 rfl T.g_DegenerateCorner (pa_cons (pv 1) pa_nil)))) pss_nil)))), ?_⟩
    walk_at "gx"
    refine r_forGE ?_ ?_
    · refine ⟨v, rfl, ?_⟩
      refine ⟨v, ps, rfl, hv, ?_⟩
      refine ⟨Same.refl _, fun i σ' H' => Same H H' ∧ (∀ j, j < i → tri0 ps j ≠ 0) ∧ ∃ o1 o2 o3 o4, σ' = [some v, o1, o2, o3, o4], ⟨Same.refl _, fun j hj => absurd hj (Nat.not_lt_zero _), _, _, _, _, rfl⟩, ?_, ?_⟩
      · rintro i σ' H' T y Hy hi ⟨S, hn, o1, o2, o3, o4, rfl⟩ ⟨s1, a, u, x, w, rfl, ha, hu, hx, hw⟩ hT
        have ei : ps.length - (ps.length - i) = i := by omega
        rw [ei] at hu hx hw
        generalize e3 : upd Hy T _ = H3
        obtain ⟨s3, g3⟩ := fresh hT e3
        have ha3 := sqT_same s3 ha
        walk_at "gx"
        refine ⟨u, x, w, _, _, _, rfl, hu.same s3, hx.same s3, hw.same s3, hb _ (prv_mem (by omega)), hb _ (atC_mem hi), hb _ (nxt_mem (by omega)), fun H4 s4 => ?_⟩
        have S4 := ((S.trans s1).trans s3).trans s4
        walk_at "gx"
        refine r_dec (fun e => ?_) (fun e => ?_)
        · refine ⟨.int (i : Int), rfl, (by show 1 ≤ 1000; decide), ?_⟩
          exact r_mkX1 fun d H5 s5 hd h5 => q2 i hi e hn d H5 (S4.trans s5) (S4.free hd) h5
        · walk_at "gx"
          refine ⟨⟨S4, fun j hj => ?_, _, _, _, _, rfl⟩, s3.trans s4⟩
          rcases Nat.lt_or_ge j i with z | z
          · exact hn j z
          · obtain rfl : j = i := by omega
            exact e
      · rintro σ' H' H2 ⟨S, hn, _⟩ hf
        exact q1 hn _ (S.trans hf)
    · rintro R R' h ⟨v', e, v2, ps2, e2, hv2, r⟩
      exact ⟨v', e, v2, ps2, e2, hv2, h _ _ _ r⟩
/-! #### is_between -/
def sp_is_between (K : PySem.W.Frag) : Sp := fun vs H Q _ => ∃ (u v w : V) (p a b : Pt), vs = [u, v, w] ∧ Hd K H u p ∧ Hd K H v a ∧ Hd K H w b ∧ ∀ H', Same H H' → Q (.bl (btw p a b)) H'
theorem ok_is_between (T : Tx K mg) : FnOk Pg w K mg base CX0 1 (He.ga K "is_between") (fdOf K (He.ga K "is_between")) ["point", "start", "end"] (sp_is_between K) := by
  refine T.d_is_between.ok sc_is_between (fun vs H Q E h => ?_) (fun cdv A outer s H vs Q E hr h => ?_)
  · obtain ⟨u, v, w, p, a, b, rfl, _⟩ := h
    rfl
  · obtain ⟨u, v, w, p, a, b, rfl, hu, hv, hw, q⟩ := h
    obtain ⟨a1, rfl, h1⟩ := hu.pt_of
    obtain ⟨a2, rfl, h2⟩ := hv.pt_of
    obtain ⟨a3, rfl, h3⟩ := hw.pt_of
    refine ⟨_, PSs.nox (pss_one (ps_ret (pe_callB (kAll (K := K) rfl) (by rfl) T.n_all (by decide +kernel) (pa_cons (pe_lc (own := [("value", 3), ("low", 4), ("high", 5)]) (g := (gTup K 3 (gCons (gName 3) (gCons (gName 4) (gCons (gName 5) gNil))))) (tt := tYes) rfl sc_is_between.nd (kpiZip3 (K := K) (by rfl) T.n_zip (pa_cons (pv 0) (pa_cons (pv 1) (pa_cons (pv 2) pa_nil)))) (blkOk_by (own := [("value", 3), ("low", 4), ("high", 5)]) (N := ["point", "start", "end", "value", "low", "high"]) (sc := defScope s_is_between) (by decide +kernel)) (fun _ _ _ _ _ => (kpgTup (K := K) (n := 3) rfl (pgs_cons (pg_name (i := 3) sc_is_between.nd rfl (Or.inl rfl)) (pgs_cons (pg_name (i := 4) sc_is_between.nd rfl (Or.inl rfl)) (pgs_cons (pg_name (i := 5) sc_is_between.nd rfl (Or.inl rfl)) pgs_nil))))) (fun _ _ _ _ _ => pts_nil) (fun _ _ _ _ _ => (pe_chain op_le op_le (pe_callB (cMin2 rfl) (by rfl) T.n_min (by decide +kernel) (pa_cons (pv 4) (pa_cons (pv 5) pa_nil))) (pv 3) (pe_callB (cMax2 rfl) (by rfl) T.n_max (by decide +kernel) (pa_cons (pv 4) (pa_cons (pv 5) pa_nil)))))) pa_nil)))), ?_⟩
    walk_at "gx"
    refine compZ3 (xs := [.int p.1, .int p.2]) (ys := [.int a.1, .int a.2]) (zs := [.int b.1, .int b.2]) (by show 2 ≤ 100000; decide) rfl rfl h1 h2 h3 (fun D i acc H' => Same H H' ∧ acc = ([btw1 p.1 a.1 b.1, btw1 p.2 a.2 b.2].take i).map V.bl) (fun D hD => ⟨same_new (Same.refl _) hD, rfl⟩) (fun D i acc H' _ p => p.1) ?_ ?_
    · rintro D i x y z T acc H1 hD hx hy hz hi ⟨S1, rfl⟩ hacc hl hT
      have hi : i < 2 := hi
      obtain ⟨k, l, h, rfl, rfl, rfl, hk⟩ : ∃ k l h : Int, x = .int k ∧ y = .int l ∧ z = .int h ∧ [btw1 p.1 a.1 b.1, btw1 p.2 a.2 b.2][i]? = some (btw1 k l h) := by
        rcases (show i = 0 ∨ i = 1 by omega) with rfl | rfl
        · exact ⟨p.1, a.1, b.1, by simpa using hx.symm, by simpa using hy.symm, by simpa using hz.symm, rfl⟩
        · exact ⟨p.2, a.2, b.2, by simpa using hx.symm, by simpa using hy.symm, by simpa using hz.symm, rfl⟩
      have s2 : Same H1 (upd H1 T (.tup [.int k, .int l, .int h])) := same_new (Same.refl _) hT
      refine r_gtup (SqT.of upd_same) ?_
      generalize upd H1 T _ = H2 at s2 ⊢
      have fin : CNext D (fun i acc H' => Same H H' ∧ acc = ([btw1 p.1 a.1 b.1, btw1 p.2 a.2 b.2].take i).map V.bl) i (.bl (btw1 k l h)) H2 := by
        refine cnext (s2 _ _ hacc) hl (by omega) ⟨same_kp (S1.trans s2) hD ((Kp.of_same (Same.refl _)).put), ?_⟩
        rw [List.take_succ, hk, List.map_append]; rfl
      walk_at "gx"
      refine ⟨rfl, ?_⟩
      refine r_chain ?_
      walk_at "gx"
      have eb : btw1 k l h = (decide (min l h ≤ k) && decide (k ≤ max l h)) := rfl
      rw [eb] at fin
      refine r_dec (fun e => ?_) (fun e => ?_)
      · rw [decide_eq_true e, Bool.true_and] at fin
        walk_at "gx"
        exact fin
      · rw [decide_eq_false e, Bool.false_and] at fin
        exact fin
    · rintro D acc H1 hD ⟨S1, rfl⟩ hacc hl
      walk_at "gx"
      refine ⟨D, [btw1 p.1 a.1 b.1, btw1 p.2 a.2 b.2], rfl, SqL.of hacc, ?_⟩
      have e : [btw1 p.1 a.1 b.1, btw1 p.2 a.2 b.2].all id = btw p a b := by
        unfold btw; simp
      rw [e]
      exact q _ S1
/-! #### is_on -/
def sp_is_on (K : PySem.W.Frag) : Sp := fun vs H Q _ => ∃ (u v w : V) (p a b : Pt), vs = [u, v, w] ∧ Hd K H u p ∧ Hd K H v a ∧ Hd K H w b ∧ PBd 90000 p ∧ PBd 90000 a ∧ PBd 90000 b ∧ ∀ H', Same H H' → Q (.bl (onS p a b)) H'
theorem ok_is_on (T : Tx K mg) : FnOk Pg w K mg base CX0 3 (He.ga K "is_on") (fdOf K (He.ga K "is_on")) ["point", "start", "end"] (sp_is_on K) := by
  refine T.d_is_on.ok sc_is_on (fun vs H Q E h => ?_) (fun cdv A outer s H vs Q E hr h => ?_)
  · obtain ⟨u, v, w, p, a, b, rfl, _⟩ := h
    rfl
  · obtain ⟨u, v, w, p, a, b, rfl, hu, hv, hw, bp, ba, bb, q⟩ := h
    refine ⟨_, PSs.nox (pss_one (ps_ret (pe_and (pe_cmpR op_eq (pe_call (ok_turn_of (K := K) T) (hr.mono (by decide)) rfl T.g_turn_of T.d_turn_of.kp (bn_turn_of T) .nil pass0 (pa_cons (pv 1) (pa_cons (pv 2) (pa_cons (pv 0) pa_nil)))) pe_int (nomark _)) (pe_one (pe_call (ok_is_between (K := K) T) (hr.mono (by decide)) rfl T.g_is_between T.d_is_between.kp (bn_is_between T) .nil pass0 (pa_cons (pv 0) (pa_cons (pv 1) (pa_cons (pv 2) pa_nil)))))))), ?_⟩
    walk_at "gx"
    refine ⟨v, w, u, _, _, _, rfl, hv, hw, hu, ba, bb, bp, fun H1 s1 => ?_⟩
    have q := fun H' s' => q H' s'
    unfold onS at q
    walk_at "gx"
    refine r_dec (fun e => ?_) (fun e => ?_)
    · rw [decide_eq_true e, Bool.true_and] at q
      walk_at "gx"
      exact ⟨u, v, w, _, _, _, rfl, hu.same s1, hv.same s1, hw.same s1, fun H2 s2 => q H2 (s1.trans s2)⟩
    · rw [decide_eq_false e, Bool.false_and] at q
      walk_at "gx"
      exact q H1 s1
/-! #### have_common_point -/
def sp_have_common_point (K : PySem.W.Frag) : Sp := fun vs H Q _ => ∃ (x y : Addr) (u v w z : V) (a b c d : Pt), vs = [.ref x, .ref y] ∧ SqT K H x [u, v] ∧ SqT K H y [w, z] ∧ Hd K H u a ∧ Hd K H v b ∧ Hd K H w c ∧ Hd K H z d ∧ PBd 40000 a ∧ PBd 40000 b ∧ PBd 40000 c ∧ PBd 40000 d ∧ ∀ H', Same H H' → Q (.bl (meetS a b c d)) H'
theorem ok_have_common_point (T : Tx K mg) : FnOk Pg w K mg base CX0 4 (He.ga K "have_common_point") (fdOf K (He.ga K "have_common_point")) ["first", "second"] (sp_have_common_point K) := by
  refine T.d_have_common_point.ok sc_have_common_point (fun vs H Q E h => ?_) (fun cdv A outer s H vs Q E hr h => ?_)
  · obtain ⟨x, y, u, v, w, z, a, b, c, d, rfl, _⟩ := h
    rfl
  · obtain ⟨x, y, u, v, w, z, a, b, c, d, rfl, hx, hy, hu, hv, hw, hz, ba, bb, bc, bd, q⟩ := h
    have Ba := ba.mono (show 40000 ≤ 90000 by decide)
    have Bb := bb.mono (show 40000 ≤ 90000 by decide)
    have Bc := bc.mono (show 40000 ≤ 90000 by decide)
    have Bd := bd.mono (show 40000 ≤ 90000 by decide)
    refine ⟨_, PSs.nox (pss_cons (ps_asg (pv 0) (kpgTup (K := K) (n := 2) rfl (pgs_cons (pg_name (i := 2) sc_have_common_point.nd rfl (Or.inl rfl)) (pgs_cons (pg_name (i := 3) sc_have_common_point.nd rfl (Or.inl rfl)) pgs_nil))))
      (pss_cons (ps_asg (pv 1) (kpgTup (K := K) (n := 2) rfl (pgs_cons (pg_name (i := 4) sc_have_common_point.nd rfl (Or.inl rfl)) (pgs_cons (pg_name (i := 5) sc_have_common_point.nd rfl (Or.inl rfl)) pgs_nil))))
      (pss_cons (ps_set (i := 6) sc_have_common_point.nd rfl (Or.inl rfl) (pe_tup (pa_cons (pe_call (ok_turn_of (K := K) T) (hr.mono (by decide)) rfl T.g_turn_of T.d_turn_of.kp (bn_turn_of T) .nil pass0 (pa_cons (pv 2) (pa_cons (pv 3) (pa_cons (pv 4) pa_nil)))) (pa_cons (pe_call (ok_turn_of (K := K) T) (hr.mono (by decide)) rfl T.g_turn_of T.d_turn_of.kp (bn_turn_of T) .nil pass0 (pa_cons (pv 2) (pa_cons (pv 3) (pa_cons (pv 5) pa_nil)))) (pa_cons (pe_call (ok_turn_of (K := K) T) (hr.mono (by decide)) rfl T.g_turn_of T.d_turn_of.kp (bn_turn_of T) .nil pass0 (pa_cons (pv 4) (pa_cons (pv 5) (pa_cons (pv 2) pa_nil)))) (pa_cons (pe_call (ok_turn_of (K := K) T) (hr.mono (by decide)) rfl T.g_turn_of T.d_turn_of.kp (bn_turn_of T) .nil pass0 (pa_cons (pv 4) (pa_cons (pv 5) (pa_cons (pv 3) pa_nil)))) pa_nil))))))
      (pss_cons (ps_if (PW.pt (pw_and (pt_cmpR op_lt (pe_op op_mulA (pe_ix (kIxT (K := K)) (pv 6) pe_int (fun _ _ => rfl)) (pe_ix (kIxT (K := K)) (pv 6) pe_int (fun _ _ => rfl))) pe_int (nomark _)) (pw_and1 (pt_cmpR op_lt (pe_op op_mulA (pe_ix (kIxT (K := K)) (pv 6) pe_int (fun _ _ => rfl)) (pe_ix (kIxT (K := K)) (pv 6) pe_int (fun _ _ => rfl))) pe_int (nomark _))))) (pss_one (ps_ret pe_bl)) pss_nil)
      (pss_one (ps_ret (pe_or (pe_call (ok_is_on (K := K) T) (hr.mono (by decide)) rfl T.g_is_on T.d_is_on.kp (bn_is_on T) .nil pass0 (pa_cons (pv 4) (pa_cons (pv 2) (pa_cons (pv 3) pa_nil)))) (pe_or (pe_call (ok_is_on (K := K) T) (hr.mono (by decide)) rfl T.g_is_on T.d_is_on.kp (bn_is_on T) .nil pass0 (pa_cons (pv 5) (pa_cons (pv 2) (pa_cons (pv 3) pa_nil)))) (pe_or (pe_call (ok_is_on (K := K) T) (hr.mono (by decide)) rfl T.g_is_on T.d_is_on.kp (bn_is_on T) .nil pass0 (pa_cons (pv 2) (pa_cons (pv 4) (pa_cons (pv 5) pa_nil)))) (pe_one (pe_call (ok_is_on (K := K) T) (hr.mono (by decide)) rfl T.g_is_on T.d_is_on.kp (bn_is_on T) .nil pass0 (pa_cons (pv 3) (pa_cons (pv 4) (pa_cons (pv 5) pa_nil)))))))))))))), ?_⟩
    walk_at "gx"
    refine ⟨u, v, w, _, _, _, rfl, hu, hv, hw, Ba, Bb, Bc, fun H1 s1 => ?_⟩
    walk_at "gx"
    refine ⟨u, v, z, _, _, _, rfl, hu.same s1, hv.same s1, hz.same s1, Ba, Bb, Bd, fun H2 s2 => ?_⟩
    have S2 := s1.trans s2
    walk_at "gx"
    refine ⟨w, z, u, _, _, _, rfl, hw.same S2, hz.same S2, hu.same S2, Bc, Bd, Ba, fun H3 s3 => ?_⟩
    have S3 := S2.trans s3
    walk_at "gx"
    refine ⟨w, z, v, _, _, _, rfl, hw.same S3, hz.same S3, hv.same S3, Bc, Bd, Bb, fun H4 s4 => ?_⟩
    have S4 := S3.trans s4
    walk_at "gx"
    refine r_new fun p5 hp5 => ?_
    generalize e5 : upd H4 p5 _ = H5
    obtain ⟨s5, g5⟩ := fresh hp5 e5
    have S5 := S4.trans s5
    walk_at "gx"
    have tail : ∀ H6, Same H H6 → (∀ H', Same H H' → Q (.bl (onS c a b || (onS d a b || (onS a c d || onS b c d)))) H') → tRet (tOrV (tCall (sp_is_on K) [] E0 (tCons (tVar 4) (tCons (tVar 2) (tCons (tVar 3) tNil)))) (tOrV (tCall (sp_is_on K) [] E0 (tCons (tVar 5) (tCons (tVar 2) (tCons (tVar 3) tNil)))) (tOrV (tCall (sp_is_on K) [] E0 (tCons (tVar 2) (tCons (tVar 4) (tCons (tVar 5) tNil)))) (tCall (sp_is_on K) [] E0 (tCons (tVar 3) (tCons (tVar 4) (tCons (tVar 5) tNil))))))) { nx := fun x H' => Q V.non H', rt := Q } [some (.ref x), some (.ref y), some u, some v, some w, some z, some (.ref p5)] H6 := by
      intro H6 S6 q
      walk_at "gx"
      refine ⟨w, u, v, _, _, _, rfl, hw.same S6, hu.same S6, hv.same S6, Bc, Ba, Bb, fun H7 s7 => ⟨_, rfl, ?_⟩⟩
      have S7 := S6.trans s7
      cases e1 : onS c a b with
      | true =>
        rw [e1, Bool.true_or] at q
        refine iteT ?_
        exact q _ S7
      | false =>
        rw [e1, Bool.false_or] at q
        refine if_ff ?_
        walk_at "gx"
        refine ⟨z, u, v, _, _, _, rfl, hz.same S7, hu.same S7, hv.same S7, Bd, Ba, Bb, fun H8 s8 => ⟨_, rfl, ?_⟩⟩
        have S8 := S7.trans s8
        cases e2 : onS d a b with
        | true =>
          rw [e2, Bool.true_or] at q
          refine iteT ?_
          exact q _ S8
        | false =>
          rw [e2, Bool.false_or] at q
          refine if_ff ?_
          walk_at "gx"
          refine ⟨u, w, z, _, _, _, rfl, hu.same S8, hw.same S8, hz.same S8, Ba, Bc, Bd, fun H9 s9 => ⟨_, rfl, ?_⟩⟩
          have S9 := S8.trans s9
          cases e3 : onS a c d with
          | true =>
            rw [e3, Bool.true_or] at q
            refine iteT ?_
            exact q _ S9
          | false =>
            rw [e3, Bool.false_or] at q
            refine if_ff ?_
            walk_at "gx"
            exact ⟨v, w, z, _, _, _, rfl, hv.same S9, hw.same S9, hz.same S9, Bb, Bc, Bd, fun H10 s10 => q _ (S9.trans s10)⟩
    refine r_I ((trn_bd ba bb bc).ok (trn_bd ba bb bd)) ?_
    walk_at "gx"
    refine r_dec (fun e => ?_) (fun e => ?_)
    · walk_at "gx"
      refine r_I ((trn_bd bc bd ba).ok (trn_bd bc bd bb)) ?_
      walk_at "gx"
      refine r_dec (fun e2 => ?_) (fun e2 => ?_)
      · walk_at "gx"
        have em : meetS a b c d = true := by
          unfold meetS; rw [decide_eq_true e, decide_eq_true e2]; rfl
        rw [em] at q
        exact q _ S5
      · refine tail _ S5 ?_
        have em : meetS a b c d = (onS c a b || (onS d a b || (onS a c d || onS b c d))) := by
          unfold meetS; rw [decide_eq_false e2, Bool.and_false, Bool.false_or]
        rwa [em] at q
    · refine tail _ S5 ?_
      have em : meetS a b c d = (onS c a b || (onS d a b || (onS a c d || onS b c d))) := by
        unfold meetS; rw [decide_eq_false e, Bool.false_and, Bool.false_or]
      rwa [em] at q
/-! #### edges_of -/
def sp_edges_of (K : PySem.W.Frag) : Sp := fun vs H Q _ => ∃ (v : V) (ps : List Pt), vs = [v] ∧ PSq K H v ps ∧ ps.length ≤ 100000 ∧ ∀ l ws H', Same H H' → H l = none → H' l = some (.lst ws) → Hds K H' ws (edgs ps) → Q (.ref l) H'
theorem ok_edges_of (T : Tx K mg) : FnOk Pg w K mg base CX0 1 (He.ga K "edges_of") (fdOf K (He.ga K "edges_of")) ["corners"] (sp_edges_of K) := by
  refine T.d_edges_of.ok sc_edges_of (fun vs H Q E h => ?_) (fun cdv A outer s H vs Q E hr h => ?_)
  · obtain ⟨v, ps, rfl, _⟩ := h
    rfl
  · obtain ⟨v, ps, rfl, hv, hl, q⟩ := h
    obtain ⟨a, xs, rfl, hS, hx⟩ := hv
    have hlx := hx.length
    refine ⟨_, PSs.nox (pss_one (ps_ret (pe_lc (own := [("index", 1), ("corner", 2)]) (g := (gTup K 2 (gCons (gName 1) (gCons (gName 2) gNil)))) (tt := tYes) rfl sc_edges_of.nd (kpiEnumS (K := K) (by rfl) T.n_enumerate (pa_cons (pv 0) pa_nil)) (blkOk_by (own := [("index", 1), ("corner", 2)]) (N := ["corners", "index", "corner"]) (sc := defScope s_edges_of) (by decide +kernel)) (fun _ _ _ _ _ => (kpgTup (K := K) (n := 2) rfl (pgs_cons (pg_name (i := 1) sc_edges_of.nd rfl (Or.inl rfl)) (pgs_cons (pg_name (i := 2) sc_edges_of.nd rfl (Or.inl rfl)) pgs_nil)))) (fun _ _ _ _ _ => pts_nil) (fun _ _ _ _ _ => (pe_tup (pa_cons (pv 2) (pa_cons (pe_ix (kIxS (K := K)) (pv 0) (pe_op op_mod (pe_op op_add (pv 1) pe_int) (pe_callB (kLen (K := K)) (by rfl) T.n_len (by decide +kernel) (pa_cons (pv 0) pa_nil))) (fun _ _ => rfl)) pa_nil))))))), ?_⟩
    walk_at "gx"
    refine compE (by omega) hS (fun D i acc H' => Same H H' ∧ Hds K H' acc ((edgs ps).take i)) (fun D hD => ⟨same_new (Same.refl _) hD, .nil⟩) (fun D i acc H' _ p => sq_pair p.1) ?_ ?_
    · rintro D i x T acc H1 hD hxi hi ⟨S1, hA⟩ hacc hl1 hT
      refine r_gtup (SqT.of upd_same) ?_
      generalize e2 : upd H1 T _ = H2
      obtain ⟨s2, g2⟩ := fresh hT e2
      have S2 := S1.trans s2
      have hS2 := hS.same S2
      have hx2 := hx.same S2
      obtain ⟨w, ew, hw⟩ := hds_nxt hx2 hi
      have hv := hds_at hx2 hxi
      walk_at "gx"
      refine ⟨rfl, ?_⟩
      walk_at "gx"
      refine r_lenS hS2 ?_
      walk_at "gx"
      refine r_I (by show (0 : Int) < (xs.length : Int); omega) ?_
      walk_at "gx"
      refine r_ixS hS2 ew ?_
      walk_at "gx"
      refine r_new fun p3 hp3 => ?_
      generalize e3 : upd H2 p3 _ = H3
      obtain ⟨s3, g3⟩ := fresh hp3 e3
      have hacc3 := s3 _ _ (s2 _ _ hacc)
      refine cnext hacc3 hl1 (by omega) ⟨same_kp (S2.trans s3) hD ((Kp.of_same (Same.refl _)).put), ?_⟩
      have ee : (edgs ps)[i]? = some (atC ps i, nxt ps i) := by
        unfold edgs
        rw [List.getElem?_map, List.getElem?_range (by omega)]; rfl
      rw [List.take_succ, ee]
      have k3 : Kp D H3 (upd H3 D (.lst (acc ++ [.ref p3]))) := (Kp.of_same (Same.refl _)).put
      have hh : Hds K H3 (acc ++ [.ref p3]) ((edgs ps).take i ++ [(atC ps i, nxt ps i)]) := (hA.same (s2.trans s3)).append (.cons (hd_pair (SqT.of g3) (hv.same s3) (hw.same s3)) .nil)
      exact imms k3 ⟨_, hacc3⟩ hh
    · rintro D acc H1 hD ⟨S1, hA⟩ hacc hl1
      have et : (edgs ps).take xs.length = edgs ps := by
        rw [List.take_of_length_le]; unfold edgs; rw [List.length_map, List.length_range]; omega
      rw [et] at hA
      exact q _ _ _ S1 hD hacc hA
/-! #### check_crossings -/
def sp_check_crossings (K : PySem.W.Frag) : Sp := fun vs H Q E => ∃ (v : V) (ps : List Pt), vs = [v] ∧ PSq K H v ps ∧ AllBd 40000 ps ∧ ps.length ≤ 100000 ∧
  ((∀ i j, i < j → i + 2 ≤ j → j < ps.length → crossB ps i j = false) → ∀ H', Same H H' → Q .non H') ∧
  (∀ i j : Nat, i + 2 ≤ j → j < ps.length → crossB ps i j = true → (∀ i' j', i' + 2 ≤ j' → j' < ps.length → (i' < i ∨ (i' = i ∧ j' < j)) → crossB ps i' j' = false) → ∀ d H', Same H H' → H d = none → H' d = some (.xd [("second", .int (j : Int)), ("first", .int (i : Int))]) → E (.ref (He.ga K "CrossingEdges")) (some d) H')
theorem ok_check_crossings (T : Tx K mg) : FnOk Pg w K mg base (L2.CX Pg w) 5 (He.ga K "check_crossings") (fdOf K (He.ga K "check_crossings")) ["corners"] (sp_check_crossings K) := by
  refine T.d_check_crossings.ok sc_check_crossings (fun vs H Q E h => ?_) (fun cdv A outer s H vs Q E hr h => ?_)
  · obtain ⟨v, ps, rfl, _⟩ := h
    rfl
  · obtain ⟨v, ps, rfl, hv, hb, hl, q1, q2⟩ := h
    refine ⟨_, (pss_cons (ps_set (i := 1) sc_check_crossings.nd rfl (Or.inl rfl) (pe_call (ok_edges_of (K := K) T) (hr.mono (by decide)) rfl T.g_edges_of T.d_edges_of.kp (bn_edges_of T) .nil pass0 (pa_cons (pv 0) pa_nil)))
      (pss_cons (ps_set (i := 2) sc_check_crossings.nd rfl (Or.inl rfl) (pe_callB (kLen (K := K)) (by rfl) T.n_len (by decide +kernel) (pa_cons (pv 1) pa_nil)))
      (pss_one (ps_for (passes_of rfl) rfl (pi_range1 rfl T.n_range (pa_cons (pv 2) pa_nil)) (pg_name (i := 3) sc_check_crossings.nd rfl (Or.inl rfl))
      (pss_one (ps_for (passes_of rfl) rfl (pi_range2 rfl T.n_range (pa_cons (pe_op op_add (pv 3) pe_int) (pa_cons (pv 2) pa_nil))) (pg_name (i := 4) sc_check_crossings.nd rfl (Or.inl rfl))
      (pss_one (ps_if (PW.pt (pw_and (pt_cmpR op_ne (pe_op op_mod (pe_op op_add (pv 4) pe_int) (pv 2)) (pv 3) (nomark _)) (pw_and1 (pt_val (pe_call (ok_have_common_point (K := K) T) (hr.mono (by decide)) rfl T.g_have_common_point T.d_have_common_point.kp (bn_have_common_point T) .nil pass0 (pa_cons (pe_ix (kIxL (K := K)) (pv 1) (pv 3) (fun _ _ => rfl)) (pa_cons (pe_ix (kIxL (K := K)) (pv 1) (pv 4) (fun _ _ => rfl)) pa_nil))))))) (pss_one (ps_raise rfl (takes_of rfl rfl rfl rfl) (pmk_oex T.x_CrossingEdges.o T.x_CrossingEdges.i T.x_CrossingEdges.t (ok_CrossingEdges_init (K := K) T) (hr.mono (by decide)) (bn_CrossingEdges_init T) .nil pass0 rfl T.g_CrossingEdges (pa_cons (pv 3) (pa_cons (pv 4) pa_nil))))) pss_nil)))))))), ?_⟩
    walk_at "gx"
    refine ⟨v, ps, rfl, hv, hl, fun l ws H1 s1 _ hl1 hw => ?_⟩
    have hlw := hw.length
    have hle : (edgs ps).length = ps.length := by unfold edgs; rw [List.length_map, List.length_range]
    walk_at "gx"
    refine r_lenL (SqL.of hl1) ?_
    walk_at "gx"
    rw [show ws.length = ps.length by omega]
    refine loopR1 (by omega) (fun i σ' H' => Same H1 H' ∧ (∀ i' j', i' + 2 ≤ j' → j' < ps.length → i' < i → crossB ps i' j' = false) ∧ ∃ o3 o4, σ' = [some v, some (.ref l), some (.int (ps.length : Int)), o3, o4]) ⟨Same.refl _, fun i' j' _ _ h => absurd h (Nat.not_lt_zero _), _, _, rfl⟩ ?_ ?_
    · rintro i σ' H2 hi ⟨S2, hn, o3, o4, rfl⟩
      walk_at "gx"
      refine loopR2 ⟨by omega, by omega, by omega, by omega⟩ (fun k σ' H' => Same H1 H' ∧ (∀ j', i + 2 ≤ j' → j' < ps.length → j' < i + 2 + k → crossB ps i j' = false) ∧ ∃ o4, σ' = [some v, some (.ref l), some (.int (ps.length : Int)), some (.int (i : Int)), o4]) ⟨S2, fun j' h1 _ h2 => by omega, _, rfl⟩ ?_ ?_
      · rintro k σ' H3 hk ⟨S3, hm, o4, rfl⟩
        obtain ⟨j, hj⟩ : ∃ j : Nat, j = i + 2 + k := ⟨_, rfl⟩
        have ej : (i : Int) + 2 + (k : Int) = (j : Int) := by omega
        rw [ej]
        have hjn : j < ps.length := by omega
        have hin : i < ps.length := by omega
        have hl3 := S3 _ _ hl1
        have hw3 := hw.same S3
        have next : crossB ps i j = false → ∀ H4, Same H3 H4 → Same H1 H4 ∧ (∀ j', i + 2 ≤ j' → j' < ps.length → j' < i + 2 + (k + 1) → crossB ps i j' = false) ∧ ∃ o4, [some v, some (.ref l), some (.int (ps.length : Int)), some (.int (i : Int)), some (.int (j : Int))] = [some v, some (.ref l), some (.int (ps.length : Int)), some (.int (i : Int)), o4] := by
          intro hc H4 s4
          refine ⟨S3.trans s4, fun j' h1 h2 h3 => ?_, _, rfl⟩
          rcases Nat.lt_or_ge j' j with z | z
          · exact hm j' h1 h2 (by omega)
          · obtain rfl : j' = j := by omega
            exact hc
        walk_at "gx"
        refine r_I (by show (0 : Int) < (ps.length : Int); omega) ?_
        walk_at "gx"
        rw [emod_nat]
        refine r_ndec (fun e => ?_) (fun e => ?_)
        · have e : (j + 1) % ps.length ≠ i := by omega
          obtain ⟨w1, f1, g1⟩ := hw3.at (i := i) (x := (atC ps i, nxt ps i)) (by unfold edgs; rw [List.getElem?_map, List.getElem?_range hin]; rfl)
          obtain ⟨w2, f2, g2⟩ := hw3.at (i := j) (x := (atC ps j, nxt ps j)) (by unfold edgs; rw [List.getElem?_map, List.getElem?_range hjn]; rfl)
          walk_at "gx"
          refine r_ixL (SqL.of hl3) (atI_nat f1) ?_
          walk_at "gx"
          refine r_ixL (SqL.of hl3) (atI_nat f2) ?_
          walk_at "gx"
          obtain ⟨b1, x1, y1, rfl, t1, p1, r1⟩ := g1.pair_of
          obtain ⟨b2, x2, y2, rfl, t2, p2, r2⟩ := g2.pair_of
          refine ⟨b1, b2, x1, y1, x2, y2, _, _, _, _, rfl, t1, t2, p1, r1, p2, r2, hb _ (atC_mem hin), hb _ (nxt_mem (by omega)), hb _ (atC_mem hjn), hb _ (nxt_mem (by omega)), fun H4 s4 => ⟨_, rfl, ?_⟩⟩
          have ec : crossB ps i j = meetS (atC ps i) (nxt ps i) (atC ps j) (nxt ps j) := by
            unfold crossB; rw [decide_eq_true e, Bool.true_and]
          cases em : meetS (atC ps i) (nxt ps i) (atC ps j) (nxt ps j) with
          | true =>
            refine iteT ?_
            refine ⟨.int (i : Int), rfl, .int (j : Int), rfl, (by show 2 ≤ 1000; decide), ?_⟩
            refine r_mkX2 fun d H5 s5 hd h5 => q2 i j (by omega) hjn (by rw [ec]; exact em) (fun i' j' h1 h2 h3 => ?_) d H5 ((s1.trans (S3.trans s4)).trans s5) ((s1.trans (S3.trans s4)).free hd) h5
            rcases h3 with h3 | ⟨rfl, h3⟩
            · exact hn i' j' h1 h2 h3
            · exact hm j' h1 h2 (by omega)
          | false =>
            refine if_ff ?_
            exact next (by rw [ec]; exact em) H4 s4
        · walk_at "gx"
          refine next ?_ H3 (Same.refl _)
          unfold crossB
          rw [decide_eq_false (by omega), Bool.false_and]
      · rintro σ' H3 ⟨S3, hm, o4, rfl⟩
        refine ⟨S3, fun i' j' h1 h2 h3 => ?_, _, _, rfl⟩
        rcases Nat.lt_or_ge i' i with z | z
        · exact hn i' j' h1 h2 z
        · obtain rfl : i' = i := by omega
          exact hm j' h1 h2 (by omega)
    · rintro σ' H2 ⟨S2, hn, o3, o4, rfl⟩
      exact q1 (fun i j _ h1 h2 => hn i j h1 h2 (by omega)) _ (s1.trans S2)
/-! #### area_of -/
def sp_area_of (K : PySem.W.Frag) : Sp := fun vs H Q _ => ∃ (v : V) (ps : List Pt), vs = [v] ∧ PSq K H v ps ∧ AllBd 40000 ps ∧ ps.length ≤ 100000 ∧ ∀ H', Same H H' → Q (.int (areaL (edgs ps))) H'
theorem ok_area_of (T : Tx K mg) : FnOk Pg w K mg base CX0 2 (He.ga K "area_of") (fdOf K (He.ga K "area_of")) ["corners"] (sp_area_of K) := by
  refine T.d_area_of.ok sc_area_of (fun vs H Q E h => ?_) (fun cdv A outer s H vs Q E hr h => ?_)
  · obtain ⟨v, ps, rfl, _⟩ := h
    rfl
  · obtain ⟨v, ps, rfl, hv, hb, hl, q⟩ := h
    refine ⟨_, PSs.nox (pss_one (ps_ret (pe_callB (kSum (K := K) rfl) (by rfl) T.n_sum (by decide +kernel) (pa_cons (pe_lc (own := [("start", 1), ("end", 2)]) (g := (gTup K 2 (gCons (gName 1) (gCons (gName 2) gNil)))) (tt := tYes) rfl sc_area_of.nd (kpiL (K := K) (pe_call (ok_edges_of (K := K) T) (hr.mono (by decide)) rfl T.g_edges_of T.d_edges_of.kp (bn_edges_of T) .nil pass0 (pa_cons (pv 0) pa_nil))) (blkOk_by (own := [("start", 1), ("end", 2)]) (N := ["corners", "start", "end"]) (sc := defScope s_area_of) (by decide +kernel)) (fun _ _ _ _ _ => (kpgTup (K := K) (n := 2) rfl (pgs_cons (pg_name (i := 1) sc_area_of.nd rfl (Or.inl rfl)) (pgs_cons (pg_name (i := 2) sc_area_of.nd rfl (Or.inl rfl)) pgs_nil)))) (fun _ _ _ _ _ => pts_nil) (fun _ _ _ _ _ => (pe_call (ok_cross_of (K := K) T) (hr.mono (by decide)) rfl T.g_cross_of T.d_cross_of.kp (bn_cross_of T) .nil pass0 (pa_cons (pv 1) (pa_cons (pv 2) pa_nil))))) pa_nil)))), ?_⟩
    walk_at "gx"
    refine ⟨v, ps, rfl, hv, hl, fun l ws H1 s1 _ hl1 hw => ?_⟩
    walk_at "gx"
    have hle : (edgs ps).length = ps.length := by unfold edgs; rw [List.length_map, List.length_range]
    have hlw := hw.length
    refine compL (xs := ws) (by omega) (fun D i acc H' => Same H1 H' ∧ acc = (((edgs ps).map fun e => crs e.1 e.2).take i).map V.int) (SqL.of hl1) (fun D hD => ⟨same_new (Same.refl _) hD, rfl⟩) (fun D i acc H' _ p => p.1.seq (SqL.of hl1)) ?_ ?_
    · rintro D i z acc H2 hD hz hi ⟨S2, rfl⟩ hacc hl2
      obtain ⟨e, he, hv⟩ := (hw.same S2).at' hz
      obtain ⟨b, x, y, rfl, tb, hx, hy⟩ := hv.pair_of
      have hmem : PBd 40000 e.1 ∧ PBd 40000 e.2 := by
        unfold edgs at he
        rw [List.getElem?_map, List.getElem?_range (by omega)] at he
        obtain rfl := Option.some.inj he
        exact ⟨hb _ (atC_mem (by omega)), hb _ (nxt_mem (by omega))⟩
      walk_at "gx"
      refine ⟨rfl, ?_⟩
      walk_at "gx"
      refine ⟨x, y, _, _, rfl, hx, hy, hmem.1.mono (by decide), hmem.2.mono (by decide), ?_⟩
      refine cnext hacc hl2 (by omega) ⟨same_kp S2 hD ((Kp.of_same (Same.refl _)).put), ?_⟩
      rw [List.take_succ, List.getElem?_map, he, List.map_append]; rfl
    · rintro D acc H2 hD ⟨S2, rfl⟩ hacc hl2
      have et : ((edgs ps).map fun e => crs e.1 e.2).take ws.length = (edgs ps).map fun e => crs e.1 e.2 := by
        rw [List.take_of_length_le]; rw [List.length_map]; omega
      rw [et] at hacc
      walk_at "gx"
      refine ⟨D, _, rfl, SqL.of hacc, ?_⟩
      exact q _ (s1.trans S2)
/-! #### arranged -/
def sp_arranged (K : PySem.W.Frag) : Sp := fun vs H Q _ => ∃ (v : V) (ps : List Pt), vs = [v] ∧ PSq K H v ps ∧ AllBd 40000 ps ∧ 0 < ps.length ∧ ps.length ≤ 1000 ∧
  ∀ (t : Addr) (xs : List V) (H' : Hp), Same H H' → SqT K H' t xs → Hds K H' xs (arr ps) → Q (.ref t) H'
theorem ok_arranged (T : Tx K mg) : FnOk Pg w K mg base CX0 3 (He.ga K "arranged") (fdOf K (He.ga K "arranged")) ["corners"] (sp_arranged K) := by
  refine T.d_arranged.ok sc_arranged (fun vs H Q E h => ?_) (fun cdv A outer s H vs Q E hr h => ?_)
  · obtain ⟨v, ps, rfl, _⟩ := h
    rfl
  · obtain ⟨v, ps, rfl, hv, hb, h0, hl, q⟩ := h
    refine ⟨_, PSs.nox (pss_cons (ps_set (i := 1) sc_arranged.nd rfl (Or.inl rfl) (pe_ifExp (pt_cmpR op_gt (pe_call (ok_area_of (K := K) T) (hr.mono (by decide)) rfl T.g_area_of T.d_area_of.kp (bn_area_of T) .nil pass0 (pa_cons (pv 0) pa_nil)) pe_int (nomark _)) (pe_callTy (kLstOf (K := K)) (by rfl) T.n_list (by decide +kernel) (pa_cons (pv 0) pa_nil)) (kRevL (K := K) (pe_revL (pe_callTy (kLstOf (K := K)) (by rfl) T.n_list (by decide +kernel) (pa_cons (pv 0) pa_nil))))))
      (pss_cons (ps_set (i := 2) sc_arranged.nd rfl (Or.inl rfl) (kBM (K := K) (pe_bm PySem.F.plainAttrs_list PySem.F.slot_list_index PySem.F.type_list_index (kIndexD (K := K) hr) (pv 1) (pa_cons (pe_callB (kMinD (K := K) rfl hr) (by rfl) T.n_min (by decide +kernel) (pa_cons (pv 1) pa_nil)) pa_nil))))
      (pss_one (ps_ret (pe_callTy (kTupOf (K := K)) (by rfl) T.n_tuple (by decide +kernel) (pa_cons (pe_op op_cat (pe_slice (kSlL (K := K)) (pv 1) (po_some (pv 2)) po_none) (pe_slice (kSlL (K := K)) (pv 1) po_none (po_some (pv 2)))) pa_nil)))))), ?_⟩
    refine r_seq ?_
    refine r_asg ?_
    refine r_mid (fun v H1 => ∃ l ws, v = .ref l ∧ Same H H1 ∧ H1 l = some (.lst ws) ∧ Hds K H1 ws (spn ps)) (fun Q' hQ => ?_) ?_
    · walk_at "gx"
      refine ⟨v, ps, rfl, hv, hb, by omega, fun H1 s1 => ?_⟩
      rw [area_are]
      walk_at "gx"
      obtain ⟨a, xs, rfl, hS, hx⟩ := hv.same s1
      refine r_dec (fun e => ?_) (fun e => ?_)
      · walk_at "gx"
        refine r_lstOfS hS fun l hl1 => ?_
        generalize e2 : upd H1 l _ = H2
        obtain ⟨s2, g2⟩ := fresh hl1 e2
        exact hQ _ _ ⟨l, xs, rfl, s1.trans s2, g2, by unfold spn; rw [if_pos e]; exact hx.same s2⟩
      · refine r_revL ?_
        walk_at "gx"
        refine r_lstOfS hS fun l hl1 => ?_
        generalize e2 : upd H1 l _ = H2
        obtain ⟨s2, g2⟩ := fresh hl1 e2
        refine ⟨l, xs, rfl, SqL.of g2, fun p hp => ?_⟩
        generalize e3 : upd H2 p _ = H3
        obtain ⟨s3, g3⟩ := fresh hp e3
        exact hQ _ _ ⟨p, _, rfl, (s1.trans s2).trans s3, g3, by unfold spn; rw [if_neg e]; exact (hx.same (s2.trans s3)).reverse⟩
    · rintro _ H1 ⟨l, ws, rfl, S1, hl1, hw⟩
      have hlw : ws.length = ps.length := by rw [hw.length, spn_len]
      obtain ⟨p, qs, eo⟩ : ∃ p qs, spn ps = p :: qs := by
        cases e : spn ps with
        | nil => have := spn_len ps; rw [e] at this; simp at this; omega
        | cons p qs => exact ⟨p, qs, rfl⟩
      have hmem : minPt (spn ps) ∈ spn ps := by rw [eo]; exact minP_mem qs p
      obtain ⟨i1, i2⟩ := idx_mem hmem
      generalize hj : idx (minPt (spn ps)) (spn ps) = j at i1 i2
      have ea : arr ps = rot j (spn ps) := by unfold arr; rw [hj]
      rw [ea] at q
      have hjl : j < (spn ps).length := (List.getElem?_eq_some_iff.mp i1).1
      walk_at "gx"
      refine ⟨.inl ⟨rfl, _, SqL.of hl1⟩, ?_⟩
      walk_at "gx"
      have hw' := hw
      rw [eo] at hw'
      refine r_minP (SqL.of hl1) hw' fun i v hi hm => ?_
      obtain ⟨z, hz, hv⟩ := hw.at' hi
      have ez : z = minPt (spn ps) := by
        rw [eo, hm] at hz
        rw [eo]
        exact (Option.some.inj hz).symm
      rw [ez] at hv
      walk_at "gx"
      refine r_indexH (SqL.of hl1) hw hv i1 i2 ?_
      walk_at "gx"
      refine r_slL (SqL.of hl1) fun p1 hp1 => ?_
      rw [cut_from]
      generalize e2 : upd H1 p1 _ = H2
      obtain ⟨s2, g2⟩ := fresh hp1 e2
      walk_at "gx"
      refine r_slL (SqL.of (s2 _ _ hl1)) fun p2 hp2 => ?_
      rw [cut_to]
      generalize e3 : upd H2 p2 _ = H3
      obtain ⟨s3, g3⟩ := fresh hp2 e3
      refine r_cat (s3 _ _ g2) g3 (Nat.le_trans (show _ ≤ 2000 by rw [List.length_drop, List.length_take]; omega) (by decide)) fun p3 hp3 => ?_
      generalize e4 : upd H3 p3 _ = H4
      obtain ⟨s4, g4⟩ := fresh hp3 e4
      walk_at "gx"
      refine r_tupOfL (SqL.of g4) fun p4 hp4 => ?_
      generalize e5 : upd H4 p4 _ = H5
      obtain ⟨s5, g5⟩ := fresh hp4 e5
      have S5 := ((s2.trans s3).trans s4).trans s5
      refine q _ _ _ (S1.trans S5) (SqT.of g5) ?_
      exact ((hw.drop j).append (hw.take j)).same S5
/-! #### checked_corners -/
/-- what an argument is, as corners -/
inductive CIn (K : PySem.W.Frag) (H : Hp) : V → Cin → Prop where
  | pts {a : Addr} {xs : List V} {ps : List Pt} : SqS K H a xs → Hds K H xs ps → 3 ≤ ps.length → ps.length ≤ 60 → CIn K H (.ref a) (.pts ps)
  | kind {v : V} {n : String} : Kd K H v n → (n == "list" || n == "tuple") = false → CIn K H v (.bad none)
  | len {a : Addr} {xs : List V} : SqS K H a xs → ¬ (3 ≤ xs.length ∧ xs.length ≤ 60) → CIn K H (.ref a) (.bad none)
  | item {a : Addr} {xs : List V} {i : Nat} (f : Nat → Bool) : SqS K H a xs → 3 ≤ xs.length → xs.length ≤ 60 → (∀ j x, xs[j]? = some x → PtB K H x (f j)) → i < xs.length → f i = false → (∀ j, j < i → f j = true) → CIn K H (.ref a) (.bad (some i))
theorem CIn.same {H H' : Hp} {v : V} {c : Cin} (h : CIn K H v c) (s : Same H H') : CIn K H' v c := by
  cases h with
  | pts h1 h2 h3 h4 => exact .pts (h1.same s) (h2.same s) h3 h4
  | kind h1 h2 => exact .kind (h1.same s) h2
  | len h1 h2 => exact .len (h1.same s) h2
  | item f h1 h2 h3 h4 h5 h6 h7 => exact .item f (h1.same s) h2 h3 (fun j x e => (h4 j x e).same s) h5 h6 h7
/-- what the checks of corners let out -/
structure ErrW (K : PySem.W.Frag) (H : Hp) (c : Cin) (E : XK) : Prop where
  bad : ∀ o, c = .bad o → ∀ d H', Same H H' → H d = none → H' d = some (.xd [("position", posV o)]) → E (.ref (He.ga K "InvalidPolygon")) (some d) H'
  bd : ∀ ps, c = .pts ps → AllBd 40000 ps
  deg : ∀ ps, c = .pts ps → ∀ i, DegAt ps i → ∀ d H', Same H H' → H d = none → H' d = some (.xd [("position", .int (i : Int))]) → E (.ref (He.ga K "DegenerateCorner")) (some d) H'
  crs : ∀ ps, c = .pts ps → ∀ i j, CrsAt ps i j → ∀ d H', Same H H' → H d = none → H' d = some (.xd [("second", .int (j : Int)), ("first", .int (i : Int))]) → E (.ref (He.ga K "CrossingEdges")) (some d) H'
def sp_checked_corners (K : PySem.W.Frag) : Sp := fun vs H Q E => ∃ (v : V) (c : Cin), vs = [v, .int 60] ∧ CIn K H v c ∧ ErrW K H c E ∧
  ∀ ps, c = .pts ps → Good ps → ∀ (t : Addr) (xs : List V) (H' : Hp), Same H H' → SqT K H' t xs → Hds K H' xs (arr ps) → Q (.ref t) H'
theorem ok_checked_corners (T : Tx K mg) : FnOk Pg w K mg base (L2.CX Pg w) 6 (He.ga K "checked_corners") (fdOf K (He.ga K "checked_corners")) ["corners", "limit"] (sp_checked_corners K) := by
  refine T.d_checked_corners.ok sc_checked_corners (fun vs H Q E h => ?_) (fun cdv A outer s H vs Q E hr h => ?_)
  · obtain ⟨v, c, rfl, _⟩ := h
    rfl
  · obtain ⟨v, c, rfl, hc, hE, q⟩ := h
    refine ⟨_, (pss_cons (ps_if (PW.pt (pw_or (pt_not (pt_val (pe_callB (kIsiT (K := K)) (by rfl) T.n_isinstance (by decide +kernel) (pa_cons (pv 0) (pa_cons (pe_tup (pa_cons (pe_bltn (v := .ty "list") (by rfl) T.n_list (by decide +kernel) rfl) (pa_cons (pe_bltn (v := .ty "tuple") (by rfl) T.n_tuple (by decide +kernel) rfl) pa_nil))) pa_nil))))) (pw_or1 (pt_not (pt_chain op_le op_le (pe_glob (v := .int 3) rfl T.c_MIN_CORNERS.choose_spec ⟨_, rfl⟩) (pe_callB (kLen (K := K)) (by rfl) T.n_len (by decide +kernel) (pa_cons (pv 0) pa_nil)) (pv 1)))))) (pss_one (ps_raise rfl (takes_of rfl rfl rfl rfl) (pmk_oex T.x_InvalidPolygon.o T.x_InvalidPolygon.i T.x_InvalidPolygon.t (ok_InvalidPolygon_init (K := K) T) (hr.mono (by decide)) (bn_InvalidPolygon_init T) .nil pass0 rfl T.g_InvalidPolygon (pa_cons pe_non pa_nil)))) pss_nil)
      (pss_cons (ps_expr (pe_call (ok_check_points (K := K) T) (hr.mono (by decide)) rfl T.g_check_points T.d_check_points.kp (bn_check_points T) .nil (passes_call (takes_of rfl rfl rfl rfl) (fun _ _ _ _ h => h)) (pa_cons (pv 0) pa_nil)))
      (pss_cons (ps_expr (pe_call (ok_check_turns (K := K) T) (hr.mono (by decide)) rfl T.g_check_turns T.d_check_turns.kp (bn_check_turns T) .nil (passes_call (takes_of rfl rfl rfl rfl) (fun _ _ _ _ h => h)) (pa_cons (pv 0) pa_nil)))
      (pss_cons (ps_expr (pe_call (ok_check_crossings (K := K) T) (hr.mono (by decide)) rfl T.g_check_crossings T.d_check_crossings.kp (bn_check_crossings T) .nil (passes_call (takes_of rfl rfl rfl rfl) (fun _ _ _ _ h => h)) (pa_cons (pv 0) pa_nil)))
      (pss_one (ps_ret (pe_call (ok_arranged (K := K) T) (hr.mono (by decide)) rfl T.g_arranged T.d_arranged.kp (bn_arranged T) .nil pass0 (pa_cons (pv 0) pa_nil)))))))), ?_⟩
    walk_at "gx"
    refine r_new fun t ht => ?_
    generalize e1 : upd H t _ = H1
    obtain ⟨s1, g1⟩ := fresh ht e1
    have bad0 : ∀ H2, Same H H2 → c = .bad none → tMkO (He.ga K "InvalidPolygon") (spX1 (He.ga K "InvalidPolygon") "position") [] (tCons (tC V.non) tNil) [some v, some (.int 60)] H2 (fun cls d H' => E cls d H') := by
      intro H2 S2 ec
      refine ⟨(by show 1 ≤ 1000; decide), ?_⟩
      exact r_mkX1 fun d H5 s5 hd h5 => hE.bad none ec d H5 (S2.trans s5) (S2.free hd) h5
    cases hc with
    | kind kd hn =>
      walk_at "gx"
      refine r_isLT g1 (kd.same s1) ?_
      rw [hn]
      walk_at "gx"
      refine iteT (iteT ?_)
      exact bad0 H1 s1 rfl
    | len hS hl =>
      have hS1 := hS.same s1
      obtain ⟨n, kd, hn⟩ := sqs_kd hS1
      walk_at "gx"
      refine r_isLT g1 kd ?_
      rw [hn]
      walk_at "gx"
      refine if_ff ?_
      walk_at "gx"
      refine r_chain ?_
      walk_at "gx"
      refine r_lenS hS1 ?_
      walk_at "gx"
      refine r_dec (fun e => ?_) (fun e => ?_)
      · walk_at "gx"
        rw [decide_eq_false (by omega)]
        exact iteT (bad0 H1 s1 rfl)
      · exact ⟨_, rfl, iteT (bad0 H1 s1 rfl)⟩
    | @item a xs i f hS h3 h60 hf hi fi fj =>
      have hS1 := hS.same s1
      obtain ⟨n, kd, hn⟩ := sqs_kd hS1
      walk_at "gx"
      refine r_isLT g1 kd ?_
      rw [hn]
      walk_at "gx"
      refine if_ff ?_
      walk_at "gx"
      refine r_chain ?_
      walk_at "gx"
      refine r_lenS hS1 ?_
      walk_at "gx"
      refine r_dec (fun e => ?_) (fun e => absurd (show (3 : Int) ≤ _ by omega) e)
      walk_at "gx"
      rw [decide_eq_true (by omega)]
      refine if_ff ?_
      walk_at "gx"
      refine .inl ⟨_, _, f, rfl, hS1, fun j x e => (hf j x e).same s1, fun ha => ?_, fun i' hi' fi' fj' d H2 s2 hd hx => ?_⟩
      · rw [ha _ hi] at fi; cases fi
      · have ei : i' = i := by
          rcases Nat.lt_trichotomy i' i with z | z | z
          · rw [fj _ z] at fi'; cases fi'
          · exact z
          · rw [fj' _ z] at fi; cases fi
        subst ei
        exact hE.bad _ rfl d H2 (s1.trans s2) (s1.free hd) hx
    | @pts a xs ps hS hx h3 h60 =>
      have hS1 := hS.same s1
      have hx1 := hx.same s1
      have hlx := hx.length
      obtain ⟨n, kd, hn⟩ := sqs_kd hS1
      have hb := hE.bd ps rfl
      walk_at "gx"
      refine r_isLT g1 kd ?_
      rw [hn]
      walk_at "gx"
      refine if_ff ?_
      walk_at "gx"
      refine r_chain ?_
      walk_at "gx"
      refine r_lenS hS1 ?_
      walk_at "gx"
      refine r_dec (fun e => ?_) (fun e => absurd (show (3 : Int) ≤ _ by omega) e)
      walk_at "gx"
      rw [decide_eq_true (by omega)]
      refine if_ff ?_
      walk_at "gx"
      refine .inl ⟨_, xs, fun _ => true, rfl, hS1, fun j x e => ?_, fun _ H2 s2 => ?_, fun _ _ z => nomatch z⟩
      · obtain ⟨p, _, hp⟩ := hx1.at' e
        exact .yes p hp
      have S2 := s1.trans s2
      walk_at "gx"
      refine ⟨_, ps, rfl, ⟨a, xs, rfl, hS.same S2, hx.same S2⟩, fun p hp => (hb p hp).mono (by decide), by omega, fun nd H3 s3 => ?_, fun i hi h0 hn d H3 s3 hd hxd => hE.deg ps rfl i ⟨hi, h0, hn⟩ d H3 (S2.trans s3) (S2.free hd) hxd⟩
      have S3 := S2.trans s3
      walk_at "gx"
      refine ⟨_, ps, rfl, ⟨a, xs, rfl, hS.same S3, hx.same S3⟩, hb, by omega, fun nc H4 s4 => ?_, fun i j hij hj hc hn d H4 s4 hd hxd => hE.crs ps rfl i j ⟨nd, hij, hj, hc, hn⟩ d H4 (S3.trans s4) (S3.free hd) hxd⟩
      have S4 := S3.trans s4
      walk_at "gx"
      exact ⟨_, ps, rfl, ⟨a, xs, rfl, hS.same S4, hx.same S4⟩, hb, by omega, by omega, fun t' xs' H5 s5 ht' hx' => q ps rfl ⟨nd, fun i j h1 h2 => nc i j (by omega) h1 h2⟩ t' xs' H5 (S4.trans s5) ht' hx'⟩
/-! #### first_reflex -/
def sp_first_reflex (K : PySem.W.Frag) : Sp := fun vs H Q _ => ∃ (v : V) (ps : List Pt), vs = [v] ∧ PSq K H v ps ∧ AllBd 90000 ps ∧ ps.length ≤ 100000 ∧ ∀ H', Same H H' → Q (posV (reflex ps)) H'
theorem ok_first_reflex (T : Tx K mg) : FnOk Pg w K mg base CX0 4 (He.ga K "first_reflex") (fdOf K (He.ga K "first_reflex")) ["corners"] (sp_first_reflex K) := by
  refine T.d_first_reflex.ok sc_first_reflex (fun vs H Q E h => ?_) (fun cdv A outer s H vs Q E hr h => ?_)
  · obtain ⟨v, ps, rfl, _⟩ := h
    rfl
  · obtain ⟨v, ps, rfl, hv, hb, hl, q⟩ := h
    refine ⟨_, PSs.nox (pss_cons (ps_forG (fun _ _ _ _ _ z => z.elim) PassesOwn.never (pig_enum (pgm_call (ok_triples (K := K) T) (hr.mono (by decide)) rfl T.g_triples T.d_triples.kp (bn_triples T) (pa_cons (pv 0) pa_nil)) (hr.mono (by decide)) (hr.mono (by decide)) (by rfl) T.n_enumerate) (kpgTup (K := K) (n := 2) rfl (pgs_cons (pg_name (i := 1) sc_first_reflex.nd rfl (Or.inl rfl)) (pgs_cons (kpgTup (K := K) (n := 3) rfl (pgs_cons (pg_name (i := 2) sc_first_reflex.nd rfl (Or.inl rfl)) (pgs_cons (pg_name (i := 3) sc_first_reflex.nd rfl (Or.inl rfl)) (pgs_cons (pg_name (i := 4) sc_first_reflex.nd rfl (Or.inl rfl)) pgs_nil)))) pgs_nil)))
      (pss_one (ps_if (pt_cmpR op_lt (pe_call (ok_turn_of (K := K) T) (hr.mono (by decide)) rfl T.g_turn_of T.d_turn_of.kp (bn_turn_of T) .nil pass0 (pa_cons (pv 2) (pa_cons (pv 3) (pa_cons (pv 4) pa_nil)))) pe_int (nomark _)) (pss_one (ps_ret (pv 1))) pss_nil)))
      (pss_one (ps_ret pe_non))), ?_⟩
    walk_at "gx"
    refine r_forGE ?_ ?_
    · refine ⟨v, rfl, ?_⟩
      refine ⟨v, ps, rfl, hv, ?_⟩
      refine ⟨Same.refl _, fun i σ' H' => Same H H' ∧ (∀ j, j < i → ¬ tri0 ps j < 0) ∧ ∃ o1 o2 o3 o4, σ' = [some v, o1, o2, o3, o4], ⟨Same.refl _, fun j hj => absurd hj (Nat.not_lt_zero _), _, _, _, _, rfl⟩, ?_, ?_⟩
      · rintro i σ' H' T y Hy hi ⟨S, hn, o1, o2, o3, o4, rfl⟩ ⟨s1, a, u, x, w, rfl, ha, hu, hx, hw⟩ hT
        have ei : ps.length - (ps.length - i) = i := by omega
        rw [ei] at hu hx hw
        generalize e3 : upd Hy T _ = H3
        obtain ⟨s3, g3⟩ := fresh hT e3
        have ha3 := sqT_same s3 ha
        walk_at "gx"
        refine ⟨u, x, w, _, _, _, rfl, hu.same s3, hx.same s3, hw.same s3, hb _ (prv_mem (by omega)), hb _ (atC_mem hi), hb _ (nxt_mem (by omega)), fun H4 s4 => ?_⟩
        have S4 := ((S.trans s1).trans s3).trans s4
        walk_at "gx"
        refine r_dec (fun e => ?_) (fun e => ?_)
        · walk_at "gx"
          have er := reflex_some hi e hn
          have := q H4 S4
          rw [er] at this
          exact this
        · walk_at "gx"
          refine ⟨⟨S4, fun j hj => ?_, _, _, _, _, rfl⟩, s3.trans s4⟩
          rcases Nat.lt_or_ge j i with z | z
          · exact hn j z
          · obtain rfl : j = i := by omega
            exact e
      · rintro σ' H' H2 ⟨S, hn, o1, o2, o3, o4, rfl⟩ hf
        walk_at "gx"
        have := q H2 (S.trans hf)
        rw [reflex_none hn] at this
        exact this
    · rintro R R' h ⟨v', e, v2, ps2, e2, hv2, r⟩
      exact ⟨v', e, v2, ps2, e2, hv2, h _ _ _ r⟩
/-! #### Polygon.__init__ -/
/-- C is the class of polygons, or one below it -/
structure PgC (K : PySem.W.Frag) (C : Addr) : Prop where
  ins : InsTy K C
  nk : NoAttr K C "kept"
  nr : NoAttr K C "reflex"
  isa : PySem.W.kitOne K (.ref C) (.ref (He.ga K "Polygon")) = some true
theorem pgc (T : Tx K mg) : PgC K (He.ga K "Polygon") := ⟨T.y_Polygon, T.a_Polygon_kept, T.a_Polygon_reflex, T.i_Polygon⟩
/-- v is a polygon of the class C with the corners ps -/
def PgAt (K : PySem.W.Frag) (H : Hp) (v : V) (C : Addr) (ps : List Pt) : Prop := PgC K C ∧ ∃ x dx t xs, v = .ref x ∧ H x = some (.ins C dx [("kept", .ref t), ("reflex", posV (reflex ps))]) ∧ SqT K H t xs ∧ Hds K H xs ps
theorem PgAt.same {H H' : Hp} {v : V} {C : Addr} {ps : List Pt} (h : PgAt K H v C ps) (s : Same H H') : PgAt K H' v C ps := by
  obtain ⟨c, x, dx, t, xs, rfl, h1, h2, h3⟩ := h
  exact ⟨c, x, dx, t, xs, rfl, s _ _ h1, sqT_same s h2, h3.same s⟩
theorem PgAt.kp {H H' : Hp} {v : V} {C : Addr} {ps : List Pt} {l : Addr} (h : PgAt K H v C ps) (k : Kp l H H') (d : DrAt H l) : PgAt K H' v C ps := by
  obtain ⟨c, x, dx, t, xs, rfl, h1, h2, h3⟩ := h
  obtain ⟨a, b, e, _⟩ := id d
  exact ⟨c, x, dx, t, xs, rfl, k _ _ (ne_of h1 e (by intro z; cases z)) h1, sqT_kp k ⟨_, e⟩ h2, h3.kp k d⟩
theorem errW_good {H : Hp} {ps : List Pt} {E : XK} (g : Good ps) (hb : AllBd 40000 ps) : ErrW K H (.pts ps) E := by
  refine ⟨(fun o z => nomatch z), fun ps' e => ?_, fun ps' e i hi => ?_, fun ps' e i j hi => ?_⟩
  · cases e; exact hb
  · cases e; exact absurd hi.2.1 (g.1 i hi.1)
  · cases e
    have := g.2 i j hi.2.1 hi.2.2.1
    rw [hi.2.2.2.1] at this; cases this
def sp_Polygon_init (K : PySem.W.Frag) : Sp := fun vs H Q E => ∃ (x dx C : Addr) (v : V) (c : Cin), vs = [.ref x, v] ∧ PgC K C ∧ H x = some (.ins C dx []) ∧ CIn K H v c ∧ ErrW K H c E ∧
  ∀ ps, c = .pts ps → Good ps → ∀ H', Kp x H H' → PgAt K H' (.ref x) C (arr ps) → Q .non H'
theorem ok_Polygon_init (T : Tx K mg) : FnOk Pg w K mg base (L2.CX Pg w) 7 (He.ma K (He.ga K "Polygon") "__init__") (fdOf K (He.ma K (He.ga K "Polygon") "__init__")) ["self", "corners"] (sp_Polygon_init K) := by
  refine T.d_Polygon_init.ok sc_Polygon_init (fun vs H Q E h => ?_) (fun cdv A outer s H vs Q E hr h => ?_)
  · obtain ⟨x, dx, C, v, c, rfl, _⟩ := h
    rfl
  · obtain ⟨x, dx, C, v, c, rfl, pc, hx, hc, hE, q⟩ := h
    have hC := pc.ins.cl
    have nk := pc.nk
    have nr := pc.nr
    refine ⟨_, (pss_cons (kSFld (K := K) (ps_fld (pv 0) (pe_call (ok_checked_corners (K := K) T) (hr.mono (by decide)) rfl T.g_checked_corners T.d_checked_corners.kp (bn_checked_corners T) .nil (passes_call (takes_of rfl rfl rfl rfl) (fun _ _ _ _ h => h)) (pa_cons (pv 1) (pa_cons (kCVal (K := K) (pe_glob (v := .ref (He.ga K "Polygon")) rfl T.g_Polygon rfl)) pa_nil))) rfl))
      (pss_one (kSFld (K := K) (ps_fld (pv 0) (pe_call (ok_first_reflex (K := K) T) (hr.mono (by decide)) rfl T.g_first_reflex T.d_first_reflex.kp (bn_first_reflex T) .nil pass0 (pa_cons (kFld (K := K) (pe_fld (pv 0) rfl)) pa_nil)) rfl)))), ?_⟩
    walk_at "gx"
    refine ⟨_, _, _, _, rfl, T.cr_Polygon, T.cv_Polygon_MAX_CORNERS.choose_spec, ?_⟩
    walk_at "gx"
    refine ⟨v, c, rfl, hc, hE, fun ps ec hg t xs H1 s1 ht hxs => ?_⟩
    subst ec
    have hb := hE.bd ps rfl
    have hl : ps.length ≤ 60 := by
      cases hc with
      | pts _ _ _ h => exact h
    walk_at "gx"
    have hx1 := s1 _ _ hx
    refine ⟨x, C, dx, [], rfl, hx1, hC, nk, by decide, ?_⟩
    generalize e2 : upd H1 x _ = H2
    have hx2 : H2 x = some (.ins C dx [("kept", .ref t)]) := by subst e2; exact upd_same
    have k2 : Kp x H1 H2 := by subst e2; exact (Kp.refl x H1).put
    have n1 := notT_ins hx1
    have n2 := notT_ins hx2
    have ht2 := sqT_kpT k2 n1 ht
    have hxs2 := immsT k2 n1 hxs
    walk_at "gx"
    refine r_fldAt hx2 hC nk rfl ?_
    walk_at "gx"
    refine ⟨.ref t, arr ps, rfl, ⟨t, xs, rfl, .inr ht2, hxs2⟩, fun p hp => (arr_bd hb p hp).mono (by decide), by rw [arr_len]; omega, fun H3 s3 => ?_⟩
    walk_at "gx"
    have hx3 := s3 _ _ hx2
    refine ⟨x, C, dx, _, rfl, hx3, hC, nr, (by show 1 < 1000; decide), ?_⟩
    have k4 : Kp x H3 (upd H3 x (.ins C dx (putF "reflex" (posV (reflex (arr ps))) [("kept", .ref t)]))) := (Kp.refl x H3).put
    have n3 := notT_ins hx3
    refine q ps rfl hg _ ((((Kp.of_same s1).trans k2).trans (Kp.of_same s3)).trans k4) ⟨pc, x, dx, t, xs, rfl, upd_same, sqT_kpT k4 n3 (sqT_same s3 ht2), immsT k4 n3 (hxs2.same s3)⟩
/-- Polygon(..) where it is made -/
theorem mk_poly {H : Hp} {C : Addr} {v : V} {c : Cin} {R : Addr → Hp → Prop} {E : XK} (pc : PgC K C) (hc : CIn K H v c) (hE : ErrW K H c E) (q : ∀ ps, c = .pts ps → Good ps → ∀ x H', Same H H' → PgAt K H' (.ref x) C (arr ps) → R x H') : ∀ x dx, H x = none → H dx = none → dx ≠ x →
    sp_Polygon_init K [V.ref x, v] (upd (upd H dx (.own x)) x (.ins C dx [])) (fun v H2 => v = .non ∧ R x H2) E := by
  intro x dx hx hdx hne
  have s0 : Same H (upd (upd H dx (.own x)) x (.ins C dx [])) := by
    refine same_new (same_new (Same.refl H) hdx) ?_
    rw [upd_ne hne.symm]; exact hx
  refine ⟨x, dx, C, v, c, rfl, pc, upd_same, hc.same s0, ⟨fun o eo d H' s hd h => hE.bad o eo d H' (s0.trans s) (s0.free hd) h, hE.bd, fun ps e i hi d H' s hd h => hE.deg ps e i hi d H' (s0.trans s) (s0.free hd) h, fun ps e i j hi d H' s hd h => hE.crs ps e i j hi d H' (s0.trans s) (s0.free hd) h⟩, fun ps e hg H' k hp => ⟨rfl, q ps e hg _ _ (same_kp s0 hx k) hp⟩⟩
/-! #### Polygon.corners -/
abbrev pCorners (K : PySem.W.Frag) (C : Addr) : Prop := PropOf K C "corners" (He.ma K (He.ga K "Polygon") "corners") (He5.wf K (He.ga K "Polygon") "property" "corners")
def sp_Polygon_corners (K : PySem.W.Frag) : Sp := fun vs H Q _ => ∃ (v : V) (C : Addr) (ps : List Pt), vs = [v] ∧ PgAt K H v C ps ∧ ∀ t xs, SqT K H t xs → Hds K H xs ps → Q (.ref t) H
theorem ok_Polygon_corners (T : Tx K mg) : FnOk Pg w K mg base CX0 1 (He5.wf K (He.ga K "Polygon") "property" "corners") (fdOf K (He5.wf K (He.ga K "Polygon") "property" "corners")) ["self"] (sp_Polygon_corners K) := by
  refine T.d_Polygon_corners.ok sc_Polygon_corners (fun vs H Q E h => ?_) (fun cdv A outer s H vs Q E hr h => ?_)
  · obtain ⟨v, C, ps, rfl, _⟩ := h
    rfl
  · obtain ⟨v, C, ps, rfl, ⟨pc, x, dx, t, xs, rfl, hx, ht, hxs⟩, q⟩ := h
    refine ⟨_, PSs.nox (pss_one (ps_ret (kFld (K := K) (pe_fld (pv 0) rfl)))), ?_⟩
    walk_at "gx"
    refine r_fldAt hx pc.ins.cl pc.nk rfl ?_
    exact q _ _ ht hxs
/-! #### Polygon.is_convex -/
abbrev pConvex (K : PySem.W.Frag) (C : Addr) : Prop := PropOf K C "is_convex" (He.ma K (He.ga K "Polygon") "is_convex") (He5.wf K (He.ga K "Polygon") "property" "is_convex")
def sp_Polygon_is_convex (K : PySem.W.Frag) : Sp := fun vs H Q _ => ∃ (v : V) (C : Addr) (ps : List Pt), vs = [v] ∧ PgAt K H v C ps ∧ Q (.bl (decide (reflex ps = none))) H
theorem ok_Polygon_is_convex (T : Tx K mg) : FnOk Pg w K mg base CX0 1 (He5.wf K (He.ga K "Polygon") "property" "is_convex") (fdOf K (He5.wf K (He.ga K "Polygon") "property" "is_convex")) ["self"] (sp_Polygon_is_convex K) := by
  refine T.d_Polygon_is_convex.ok sc_Polygon_is_convex (fun vs H Q E h => ?_) (fun cdv A outer s H vs Q E hr h => ?_)
  · obtain ⟨v, C, ps, rfl, _⟩ := h
    rfl
  · obtain ⟨v, C, ps, rfl, ⟨pc, x, dx, t, xs, rfl, hx, ht, hxs⟩, q⟩ := h
    refine ⟨_, PSs.nox (pss_one (ps_ret (pe_cmpR op_isN1 (kFld (K := K) (pe_fld (pv 0) rfl)) pe_non (nomark _)))), ?_⟩
    walk_at "gx"
    refine r_fldAt hx pc.ins.cl pc.nr rfl ?_
    walk_at "gx"
    cases er : reflex ps with
    | none => rw [er] at q; exact q
    | some i => rw [er] at q; exact q
/-! #### ConvexPolygon.__init__ -/
theorem pgcC (T : Tx K mg) : PgC K (He.ga K "ConvexPolygon") := ⟨T.y_ConvexPolygon, T.a_ConvexPolygon_kept, T.a_ConvexPolygon_reflex, T.i_ConvexPolygon_Polygon⟩
def sp_ConvexPolygon_init (K : PySem.W.Frag) : Sp := fun vs H Q E => ∃ (x dx : Addr) (v : V) (c : Cin), vs = [.ref x, v] ∧ H x = some (.ins (He.ga K "ConvexPolygon") dx []) ∧ CIn K H v c ∧ ErrW K H c E ∧
  (∀ ps, c = .pts ps → Good ps → reflex (arr ps) = none → ∀ H', Kp x H H' → PgAt K H' (.ref x) (He.ga K "ConvexPolygon") (arr ps) → Q .non H') ∧
  (∀ ps i, c = .pts ps → Good ps → reflex (arr ps) = some i → ∀ d H', Kp x H H' → H d = none → H' d = some (.xd [("position", .int (i : Int))]) → E (.ref (He.ga K "NotConvex")) (some d) H')
theorem ok_ConvexPolygon_init (T : Tx K mg) : FnOk Pg w K mg base (L2.CX Pg w) 8 (He.ma K (He.ga K "ConvexPolygon") "__init__") (fdOf K (He.ma K (He.ga K "ConvexPolygon") "__init__")) ["self", "corners"] (sp_ConvexPolygon_init K) := by
  refine fn_super (k := 7) T.d_ConvexPolygon_init sc_ConvexPolygon_init T.n_super rfl rfl (by exact beq_self_eq_true _) sup_top (FnOk.raw ((ok_Polygon_init T).mono (by decide)) (bn_Polygon_init T) .nil) (fun vs H Q E h => ?_) (fun cdv cc A outer s H vs Q E hr h => ?_)
  · obtain ⟨x, dx, v, c, rfl, _⟩ := h
    rfl
  · obtain ⟨x, dx, v, c, rfl, hx, hc, hE, q1, q2⟩ := h
    refine ⟨_, _, x, dx, [], E, (pa_cons (pv 1) pa_nil), (pss_one (ps_if (pt_cmpR op_notN1 (kFld (K := K) (pe_fld (pv 0) rfl)) pe_non (nomark _)) (pss_one (ps_raise rfl (takes_of rfl rfl rfl rfl) (pmk_oex T.x_NotConvex.o T.x_NotConvex.i T.x_NotConvex.t (ok_NotConvex_init (K := K) T) (hr.mono (by decide)) (bn_NotConvex_init T) .nil pass0 rfl T.g_NotConvex (pa_cons (kFld (K := K) (pe_fld (pv 0) rfl)) pa_nil)))) pss_nil)), (passes_call (takes_of rfl rfl rfl rfl) (fun _ _ _ _ h => h)), rfl, hx, ?_⟩
    walk_at "gx"
    refine ⟨x, dx, _, v, c, rfl, pgcC T, hx, hc, hE, fun ps e hg H1 k1 hp => ?_⟩
    obtain ⟨pc, x', dx', t, xs, e', hxo, ht, hxs⟩ := id hp
    cases e'
    walk_at "gx"
    refine r_fldAt hxo pc.ins.cl pc.nr rfl ?_
    walk_at "gx"
    cases er : reflex (arr ps) with
    | none =>
      refine r_ndec (fun z => absurd rfl z) (fun _ => ?_)
      walk_at "gx"
      exact q1 ps e hg er H1 k1 hp
    | some i =>
      refine r_ndec (fun _ => ?_) (fun z => nomatch z)
      rw [er] at hxo
      unfold tMkO
      walk_at "gx"
      refine r_fldAt hxo pc.ins.cl pc.nr rfl ?_
      walk_at "gx"
      refine ⟨(by show 1 ≤ 1000; decide), ?_⟩
      refine r_mkX1 fun d H5 s5 hd h5 => q2 ps i e hg er d H5 (k1.same s5) (k1.free (fun z => ?_) hd) h5
      rw [z, hxo] at hd; cases hd
/-- ConvexPolygon(..) where it is made -/
theorem mk_conv {H : Hp} {v : V} {c : Cin} {R : Addr → Hp → Prop} {E : XK} (hc : CIn K H v c) (hE : ErrW K H c E) (q1 : ∀ ps, c = .pts ps → Good ps → reflex (arr ps) = none → ∀ x H', Same H H' → PgAt K H' (.ref x) (He.ga K "ConvexPolygon") (arr ps) → R x H')
    (q2 : ∀ ps i, c = .pts ps → Good ps → reflex (arr ps) = some i → ∀ d H', Same H H' → H d = none → H' d = some (.xd [("position", .int (i : Int))]) → E (.ref (He.ga K "NotConvex")) (some d) H') : ∀ x dx, H x = none → H dx = none → dx ≠ x →
    sp_ConvexPolygon_init K [V.ref x, v] (upd (upd H dx (.own x)) x (.ins (He.ga K "ConvexPolygon") dx [])) (fun v H2 => v = .non ∧ R x H2) E := by
  intro x dx hx hdx hne
  have s0 : Same H (upd (upd H dx (.own x)) x (.ins (He.ga K "ConvexPolygon") dx [])) := by
    refine same_new (same_new (Same.refl H) hdx) ?_
    rw [upd_ne hne.symm]; exact hx
  refine ⟨x, dx, v, c, rfl, upd_same, hc.same s0, ⟨fun o eo d H' s hd h => hE.bad o eo d H' (s0.trans s) (s0.free hd) h, hE.bd, fun ps e i hi d H' s hd h => hE.deg ps e i hi d H' (s0.trans s) (s0.free hd) h, fun ps e i j hi d H' s hd h => hE.crs ps e i j hi d H' (s0.trans s) (s0.free hd) h⟩, fun ps e hg hr H' k hp => ⟨rfl, q1 ps e hg hr _ _ (same_kp s0 hx k) hp⟩, fun ps i e hg hr d H' k hd h => q2 ps i e hg hr d H' (same_kp s0 hx k) (s0.free hd) h⟩

/-! #### GridMap.__init__ -/
def sp_GridMap_init (K : PySem.W.Frag) : Sp := fun vs H Q E => ∃ (x dx : Addr) (v1 v2 v3 v4 v5 v6 : V), vs = [.ref x, v1, v2, v3, v4, v5, v6] ∧ H x = some (.ins (He.ga K "GridMap") dx []) ∧ (∀ v ∈ [v1, v2, v3, v4, v5, v6], ∃ n, Kd K H v n) ∧
  ([v1, v2, v3, v4, v5, v6].all isI = false → ∀ H', Same H H' → E (.ref (He.ga K "InvalidInteger")) none H') ∧
  ∀ m : M6, [v1, v2, v3, v4, v5, v6] = m.vals → MBd 100000 m ∧ (m.Ok → ∀ t H', Kp x H H' → H' x = some (.ins (He.ga K "GridMap") dx [("six", .ref t)]) → SqT K H' t m.vals → Q .non H') ∧ (¬ m.Ok → ∀ H', Same H H' → E (.ref (He.ga K "InvalidMap")) none H')
theorem all_six {v1 v2 v3 v4 v5 v6 : V} (h : [v1, v2, v3, v4, v5, v6].all isI = true) : ∃ m : M6, [v1, v2, v3, v4, v5, v6] = m.vals := by
  have one : ∀ v, isI v = true → ∃ i, v = .int i := fun v hv => by
    cases v with
    | int i => exact ⟨i, rfl⟩
    | _ => cases hv
  have all := List.all_eq_true.mp h
  obtain ⟨a, rfl⟩ := one v1 (all _ (by simp))
  obtain ⟨b, rfl⟩ := one v2 (all _ (by simp))
  obtain ⟨c, rfl⟩ := one v3 (all _ (by simp))
  obtain ⟨d, rfl⟩ := one v4 (all _ (by simp))
  obtain ⟨e, rfl⟩ := one v5 (all _ (by simp))
  obtain ⟨f, rfl⟩ := one v6 (all _ (by simp))
  exact ⟨⟨a, b, c, d, e, f⟩, rfl⟩
theorem ok_iff {m : M6} : m.Ok ↔ ((m.a * m.d - m.b * m.c).natAbs : Int) = 1 := by
  unfold M6.Ok M6.det
  omega
theorem ok_GridMap_init (T : Tx K mg) : FnOk Pg w K mg base (L2.CX Pg w) 3 (He.ma K (He.ga K "GridMap") "__init__") (fdOf K (He.ma K (He.ga K "GridMap") "__init__")) ["self", "a", "b", "c", "d", "e", "f"] (sp_GridMap_init K) := by
  refine T.d_GridMap_init.ok sc_GridMap_init (fun vs H Q E h => ?_) (fun cdv A outer s H vs Q E hr h => ?_)
  · obtain ⟨x, dx, v1, v2, v3, v4, v5, v6, rfl, _⟩ := h
    rfl
  · obtain ⟨x, dx, v1, v2, v3, v4, v5, v6, rfl, hx, hk, q2, q1⟩ := h
    refine ⟨_, (pss_cons (ps_for (passes_of rfl) rfl (kpiT (K := K) (pe_tup (pa_cons (pv 1) (pa_cons (pv 2) (pa_cons (pv 3) (pa_cons (pv 4) (pa_cons (pv 5) (pa_cons (pv 6) pa_nil)))))))) (pg_name (i := 7) sc_GridMap_init.nd rfl (Or.inl rfl))
      (pss_one (ps_expr (pe_call (ok_check_integer (K := K) T) (hr.mono (by decide)) rfl T.g_check_integer T.d_check_integer.kp (bd1_check_integer T).choose_spec.2 (bd1_check_integer T).choose_spec.1 (passes_call (takes_of rfl rfl rfl rfl) (fun _ _ _ _ h => h)) (pa_cons (pv 7) pa_nil)))))
      (pss_cons (ps_if (pt_cmpR op_ne (pe_callB cAbs (by rfl) T.n_abs (by decide +kernel) (pa_cons (pe_op op_sub (pe_op op_mulA (pv 1) (pv 4)) (pe_op op_mulA (pv 2) (pv 3))) pa_nil)) pe_int (nomark _)) (pss_one (ps_raise rfl (takes_of rfl rfl rfl rfl) (pmk_own PySem.F.excBase_ValueError T.x_InvalidMap.x T.g_InvalidMap T.x_InvalidMap.k (raises_own T.x_InvalidMap.b T.x_InvalidMap.t) rfl))) pss_nil)
      (pss_one (kSFld (K := K) (ps_fld (pv 0) (pe_tup (pa_cons (pv 1) (pa_cons (pv 2) (pa_cons (pv 3) (pa_cons (pv 4) (pa_cons (pv 5) (pa_cons (pv 6) pa_nil))))))) rfl))))), ?_⟩
    walk_at "gx"
    refine r_new fun t ht => ?_
    generalize e1 : upd H t _ = H1
    obtain ⟨s1, g1⟩ := fresh ht e1
    walk_at "gx"
    refine loopT (xs := [v1, v2, v3, v4, v5, v6]) (fun i σ' H' => H1 = H' ∧ ([v1, v2, v3, v4, v5, v6].take i).all isI = true ∧ ∃ o, σ' = [some (.ref x), some v1, some v2, some v3, some v4, some v5, some v6, o]) ⟨rfl, rfl, _, rfl⟩ (fun i σ' H' _ q => by obtain ⟨rfl, _⟩ := q; exact SqT.of g1) ?_ ?_
    · rintro i z σ' H' hi ⟨rfl, ha, o, rfl⟩
      walk_at "gx"
      have hm := List.mem_of_getElem? hi
      obtain ⟨n, kd⟩ := hk z hm
      refine ⟨z, .non, n, rfl, kd.same s1, .inl rfl, fun g => ?_, fun g => q2 ?_ _ s1⟩
      · have hz : isI z = true := by
          cases z with
          | int j => rfl
          | _ => cases g
        refine ⟨rfl, ?_, _, rfl⟩
        have e : [v1, v2, v3, v4, v5, v6].take (i + 1) = [v1, v2, v3, v4, v5, v6].take i ++ [z] := by rw [List.take_succ, hi]; rfl
        rw [e, List.all_append, ha]
        show (isI z && true) = true
        rw [hz] <;> rfl
      · have hz : isI z = false := by
          cases z with
          | int j => cases g
          | _ => rfl
        cases q : [v1, v2, v3, v4, v5, v6].all isI with
        | false => rfl
        | true =>
          have := List.all_eq_true.mp q z hm
          rw [hz] at this
          cases this
    · rintro σ' H' ⟨rfl, ha, o, rfl⟩
      obtain ⟨m, em⟩ := all_six (v1 := v1) (v2 := v2) (v3 := v3) (v4 := v4) (v5 := v5) (v6 := v6) ha
      obtain ⟨bd, q1b, q3⟩ := q1 m em
      simp only [M6.vals, List.cons.injEq, and_true] at em
      obtain ⟨rfl, rfl, rfl, rfl, rfl, rfl⟩ := em
      obtain ⟨ba, bb, bc, bd, be, bf⟩ := bd
      walk_at "gx"
      refine r_I (ba.ok bd) ?_
      walk_at "gx"
      refine r_I (bb.ok bc) ?_
      walk_at "gx"
      refine r_ndec (fun hn => q3 (fun z => hn (ok_iff.mp z)) _ s1) (fun hn => ?_)
      walk_at "gx"
      refine r_new fun t2 ht2 => ?_
      generalize e2 : upd H1 t2 _ = H2
      obtain ⟨s2, g2⟩ := fresh ht2 e2
      walk_at "gx"
      have hx2 := s2 _ _ (s1 _ _ hx)
      refine ⟨x, _, dx, [], rfl, hx2, T.y_GridMap.cl, T.a_GridMap_six, by decide, ?_⟩
      have ne : t2 ≠ x := fun z => by
        subst z
        have := s1 _ _ hx
        rw [ht2] at this
        cases this
      refine q1b (ok_iff.mpr hn) t2 _ ((Kp.of_same (s1.trans s2)).put) upd_same ?_
      refine SqT.of ?_
      rw [upd_ne ne]
      exact g2
theorem mk_good {H : Hp} {m : M6} {Q : VK} {E : XK} (ok : m.Ok) (bd : MBd 100000 m) (q : ∀ v H', Same H H' → GmAt K H' v m → Q v H') : ∀ x dx, H x = none → H dx = none → dx ≠ x →
    sp_GridMap_init K [V.ref x, .int m.a, .int m.b, .int m.c, .int m.d, .int m.e, .int m.f] (upd (upd H dx (.own x)) x (.ins (He.ga K "GridMap") dx [])) (fun v H2 => v = .non ∧ Q (.ref x) H2) E := by
  intro x dx hx hdx hne
  have s0 : Same H (upd (upd H dx (.own x)) x (.ins (He.ga K "GridMap") dx [])) := by
    refine same_new (same_new (Same.refl H) hdx) ?_
    rw [upd_ne hne.symm]; exact hx
  refine ⟨x, dx, _, _, _, _, _, _, rfl, upd_same, ?_, (fun h => ?_), fun m' em => ?_⟩
  · intro v hv
    simp only [List.mem_cons, List.not_mem_nil, or_false] at hv
    rcases hv with rfl | rfl | rfl | rfl | rfl | rfl <;> exact ⟨_, .int _⟩
  · simp [isI] at h
  · have e : m' = m := by
      simp only [M6.vals, List.cons.injEq, and_true, V.int.injEq] at em
      obtain ⟨h1, h2, h3, h4, h5, h6⟩ := em
      cases m; cases m'
      simp only at *
      subst h1 h2 h3 h4 h5 h6
      rfl
    subst e
    refine ⟨bd, fun _ t H' k h1 h2 => ⟨rfl, ?_⟩, fun h => absurd ok h⟩
    exact q _ _ (same_kp s0 hx k) ⟨x, dx, t, rfl, h1, h2⟩
theorem mk_map {H : Hp} {m : M6} {R : Addr → Hp → Prop} {E : XK} (ok : m.Ok) (bd : MBd 100000 m) (q : ∀ x H', Same H H' → GmAt K H' (.ref x) m → R x H') : ∀ x dx, H x = none → H dx = none → dx ≠ x →
    sp_GridMap_init K [V.ref x, .int m.a, .int m.b, .int m.c, .int m.d, .int m.e, .int m.f] (upd (upd H dx (.own x)) x (.ins (He.ga K "GridMap") dx [])) (fun v H2 => v = .non ∧ R x H2) E := by
  intro x dx hx hdx hne
  have h := mk_good (K := K) (H := H) (Q := fun v H2 => ∀ y, v = .ref y → R y H2) (E := E) ok bd (fun v H' s h => fun y e => by subst e; exact q y H' s h) x dx hx hdx hne
  obtain ⟨x', dx', v1, v2, v3, v4, v5, v6, e, hx', hk, q2, q1⟩ := h
  refine ⟨x', dx', v1, v2, v3, v4, v5, v6, e, hx', hk, q2, fun m' em => ?_⟩
  obtain ⟨b, q3, q4⟩ := q1 m' em
  exact ⟨b, fun o t H' k h1 h2 => ⟨(q3 o t H' k h1 h2).1, (q3 o t H' k h1 h2).2 x rfl⟩, q4⟩
/-! #### GridMap.image -/
def sp_GridMap_image (K : PySem.W.Frag) : Sp := fun vs H Q _ => ∃ (v u : V) (m : M6) (p : Int × Int), vs = [v, u] ∧ GmAt K H v m ∧ Hd K H u p ∧ MBd 100000 m ∧ PBd 100000 p ∧ ∀ r H', Same H H' → Hd K H' r (m.img p) → Q r H'
theorem ok_GridMap_image (T : Tx K mg) : FnOk Pg w K mg base CX0 1 (He.ma K (He.ga K "GridMap") "image") (fdOf K (He.ma K (He.ga K "GridMap") "image")) ["self", "point"] (sp_GridMap_image K) := by
  refine T.d_GridMap_image.ok sc_GridMap_image (fun vs H Q E h => ?_) (fun cdv A outer s H vs Q E hr h => ?_)
  · obtain ⟨v, u, m, p, rfl, _⟩ := h
    rfl
  · obtain ⟨v, u, m, p, rfl, hv, hu, bd, bp, q⟩ := h
    obtain ⟨a, dx, t, rfl, ha, ht⟩ := hv.of
    obtain ⟨a2, rfl, ha2⟩ := hu.pt_of
    obtain ⟨b1, b2, b3, b4, b5, b6⟩ := bd
    refine ⟨_, PSs.nox (pss_cons (ps_asg (kFld (K := K) (pe_fld (pv 0) rfl)) (kpgTup (K := K) (n := 6) rfl (pgs_cons (pg_name (i := 2) sc_GridMap_image.nd rfl (Or.inl rfl)) (pgs_cons (pg_name (i := 3) sc_GridMap_image.nd rfl (Or.inl rfl)) (pgs_cons (pg_name (i := 4) sc_GridMap_image.nd rfl (Or.inl rfl)) (pgs_cons (pg_name (i := 5) sc_GridMap_image.nd rfl (Or.inl rfl)) (pgs_cons (pg_name (i := 6) sc_GridMap_image.nd rfl (Or.inl rfl)) (pgs_cons (pg_name (i := 7) sc_GridMap_image.nd rfl (Or.inl rfl)) pgs_nil))))))))
      (pss_one (ps_ret (pe_tup (pa_cons (pe_op op_add (pe_op op_add (pe_op op_mulA (pv 2) (pe_ix (kIxT (K := K)) (pv 1) pe_int (fun _ _ => rfl))) (pe_op op_mulA (pv 3) (pe_ix (kIxT (K := K)) (pv 1) pe_int (fun _ _ => rfl)))) (pv 6)) (pa_cons (pe_op op_add (pe_op op_add (pe_op op_mulA (pv 4) (pe_ix (kIxT (K := K)) (pv 1) pe_int (fun _ _ => rfl))) (pe_op op_mulA (pv 5) (pe_ix (kIxT (K := K)) (pv 1) pe_int (fun _ _ => rfl)))) (pv 7)) pa_nil)))))), ?_⟩
    walk_at "gx"
    refine r_fldAt ha T.y_GridMap.cl T.a_GridMap_six rfl ?_
    walk_at "gx"
    refine r_I (b1.ok bp.1) ?_
    walk_at "gx"
    refine r_I (b2.ok bp.2) ?_
    walk_at "gx"
    refine r_I (b3.ok bp.1) ?_
    walk_at "gx"
    refine r_I (b4.ok bp.2) ?_
    walk_at "gx"
    refine r_new fun t2 ht2 => ?_
    generalize e2 : upd H t2 _ = H2
    obtain ⟨s2, g2⟩ := fresh ht2 e2
    exact q _ _ s2 (hd_pair (SqT.of g2) hd_int hd_int)
/-! #### check_map -/
/-- a grid map, or a value of another kind -/
inductive MapB (K : PySem.W.Frag) (H : Hp) : V → Bool → Prop where
  | yes {v : V} (m : M6) : GmAt K H v m → MapB K H v true
  | kind {v : V} {n : String} : Kd K H v n → MapB K H v false
theorem MapB.same {H H' : Hp} {v : V} {b : Bool} (h : MapB K H v b) (s : Same H H') : MapB K H' v b := by
  cases h with
  | yes m h => exact .yes m (h.same s)
  | kind h => exact .kind (h.same s)
def sp_check_map (K : PySem.W.Frag) : Sp := fun vs H Q E => ∃ (v : V) (b : Bool), vs = [v] ∧ MapB K H v b ∧ (b = true → Q .non H) ∧ (b = false → E (.ref (He.ga K "InvalidMap")) none H)
theorem ok_check_map (T : Tx K mg) : FnOk Pg w K mg base (L2.CX Pg w) 2 (He.ga K "check_map") (fdOf K (He.ga K "check_map")) ["value"] (sp_check_map K) := by
  refine T.d_check_map.ok sc_check_map (fun vs H Q E h => ?_) (fun cdv A outer s H vs Q E hr h => ?_)
  · obtain ⟨v, b, rfl, _⟩ := h
    rfl
  · obtain ⟨v, b, rfl, hb, q1, q2⟩ := h
    refine ⟨_, (pss_one (ps_if (pt_not (pt_val (pe_callB (kIsi (K := K)) (by rfl) T.n_isinstance (by decide +kernel) (pa_cons (pv 0) (pa_cons (pe_glob (v := .ref (He.ga K "GridMap")) rfl T.g_GridMap rfl) pa_nil))))) (pss_one (ps_raise rfl (takes_of rfl rfl rfl rfl) (pmk_own PySem.F.excBase_ValueError T.x_InvalidMap.x T.g_InvalidMap T.x_InvalidMap.k (raises_own T.x_InvalidMap.b T.x_InvalidMap.t) rfl))) pss_nil)), ?_⟩
    walk_at "gx"
    cases hb with
    | yes m hv =>
      obtain ⟨a, dx, t, rfl, ha, ht⟩ := hv.of
      refine r_isi (.own _) (T.y_GridMap.ty ha) T.i_GridMap ?_
      walk_at "gx"
      exact q1 rfl
    | kind hu =>
      refine r_isi (.own _) hu.ty (T.j_GridMap _ hu.mem) ?_
      walk_at "gx"
      exact q2 rfl
/-! #### Polygon.image_corners -/
def sp_Polygon_image_corners (K : PySem.W.Frag) : Sp := fun vs H Q E => ∃ (v u : V) (C : Addr) (ps : List Pt), vs = [v, u] ∧ PgAt K H v C ps ∧ ps.length ≤ 1000 ∧
  ((∃ m, GmAt K H u m ∧ MBd 10000 m ∧ AllBd 10000 ps ∧ ∀ l ws H', Same H H' → H' l = some (.lst ws) → Hds K H' ws (ps.map m.img) → Q (.ref l) H') ∨ (∃ n, Kd K H u n ∧ E (.ref (He.ga K "InvalidMap")) none H))
theorem ok_Polygon_image_corners (T : Tx K mg) : FnOk Pg w K mg base (L2.CX Pg w) 3 (He.ma K (He.ga K "Polygon") "image_corners") (fdOf K (He.ma K (He.ga K "Polygon") "image_corners")) ["self", "grid_map"] (sp_Polygon_image_corners K) := by
  refine T.d_Polygon_image_corners.ok sc_Polygon_image_corners (fun vs H Q E h => ?_) (fun cdv A outer s H vs Q E hr h => ?_)
  · obtain ⟨v, u, C, ps, rfl, _⟩ := h
    rfl
  · obtain ⟨v, u, C, ps, rfl, hv, hl, h⟩ := h
    refine ⟨_, (pss_cons (ps_expr (pe_call (ok_check_map (K := K) T) (hr.mono (by decide)) rfl T.g_check_map T.d_check_map.kp (bn_check_map T) .nil (passes_call (takes_of rfl rfl rfl rfl) (fun _ _ _ _ h => h)) (pa_cons (pv 1) pa_nil)))
      (pss_one (ps_ret (pe_lc (own := [("corner", 2)]) (g := (gName 2)) (tt := tYes) rfl sc_Polygon_image_corners.nd (kpiT (K := K) (kFld (K := K) (pe_fld (pv 0) rfl))) (blkOk_by (own := [("corner", 2)]) (N := ["self", "grid_map", "corner"]) (sc := defScope s_Polygon_image_corners) (by decide +kernel)) (fun _ _ _ _ _ => (pg_name (i := 2) sc_Polygon_image_corners.nd rfl (Or.inl rfl))) (fun _ _ _ _ _ => pts_nil) (fun _ _ _ _ _ => (pe_methA (pv 1) T.y_GridMap.cl T.m_GridMap_image (FnOk.raw (ok_GridMap_image (K := K) T) (bn_GridMap_image T) .nil) (hr.mono (by decide)) (passAll pass0) (pa_cons (pv 2) pa_nil))))))), ?_⟩
    walk_at "gx"
    rcases h with ⟨m, hu, bm, bp, q⟩ | ⟨n, hk, q⟩
    · refine ⟨u, true, rfl, .yes m hu, fun _ => ?_, fun z => nomatch z⟩
      obtain ⟨pc, x, dx, t, xs, rfl, hx, ht, hxs⟩ := id hv
      have hlx := hxs.length
      obtain ⟨ga, gdx, gt, rfl, hga, hgt⟩ := id hu
      walk_at "gx"
      refine r_fldAt hx pc.ins.cl pc.nk rfl ?_
      refine compT (xs := xs) (by omega) (fun D i acc H' => Same H H' ∧ Hds K H' acc ((ps.map m.img).take i)) ht (fun D hD => ⟨same_new (Same.refl _) hD, .nil⟩) (fun D i acc H' _ p => sqT_same p.1 ht) ?_ ?_
      · rintro D i x' acc H1 hD hxi hi ⟨S1, hA⟩ hacc hl1
        obtain ⟨p, hp, hv'⟩ := (hxs.same S1).at' hxi
        walk_at "gx"
        refine ⟨rfl, ?_⟩
        walk_at "gx"
        refine ⟨ga, gdx, _, rfl, S1 _ _ hga, rfl, ?_⟩
        walk_at "gx"
        refine ⟨_, _, m, p, rfl, hu.same S1, hv', bm.mono (by decide), (bp p (List.mem_of_getElem? hp)).mono (by decide), fun r H2 s2 hr => ?_⟩
        have hacc2 := s2 _ _ hacc
        have k3 : Kp D H2 (upd H2 D (.lst (acc ++ [r]))) := (Kp.refl D H2).put
        refine cnext hacc2 hl1 (by omega) ⟨same_kp (S1.trans s2) hD k3, ?_⟩
        rw [List.take_succ, List.getElem?_map, hp]
        exact imms k3 ⟨_, hacc2⟩ ((hA.same s2).append (.cons hr .nil))
      · rintro D acc H1 hD ⟨S1, hA⟩ hacc hl1
        have et : (ps.map m.img).take xs.length = ps.map m.img := by
          rw [List.take_of_length_le]; rw [List.length_map]; omega
        rw [et] at hA
        exact q _ _ _ S1 hacc hA
    · exact ⟨u, false, rfl, .kind hk, (fun z => nomatch z), fun _ => q⟩
/-! #### Polygon.moved -/
def sp_Polygon_moved (K : PySem.W.Frag) : Sp := fun vs H Q E => ∃ (v u : V) (ps : List Pt), vs = [v, u] ∧ PgAt K H v (He.ga K "Polygon") ps ∧ Good ps ∧ 3 ≤ ps.length ∧ ps.length ≤ 60 ∧
  ((∃ m, GmAt K H u m ∧ m.Ok ∧ MBd 10000 m ∧ AllBd 10000 ps ∧ ∀ r H', Same H H' → PgAt K H' r (He.ga K "Polygon") (arr (ps.map m.img)) → Q r H') ∨ (∃ n, Kd K H u n ∧ E (.ref (He.ga K "InvalidMap")) none H))
theorem ok_Polygon_moved (T : Tx K mg) : FnOk Pg w K mg base (L2.CX Pg w) 9 (He.ma K (He.ga K "Polygon") "moved") (fdOf K (He.ma K (He.ga K "Polygon") "moved")) ["self", "grid_map"] (sp_Polygon_moved K) := by
  refine T.d_Polygon_moved.ok sc_Polygon_moved (fun vs H Q E h => ?_) (fun cdv A outer s H vs Q E hr h => ?_)
  · obtain ⟨v, u, ps, rfl, _⟩ := h
    rfl
  · obtain ⟨v, u, ps, rfl, hv, hg, h3, hl, h⟩ := h
    obtain ⟨pc, x, dx, t, xs, rfl, hx, ht, hxs⟩ := id hv
    refine ⟨_, (pss_one (ps_ret (pe_makeA T.k_Polygon (FnOk.raw (ok_Polygon_init (K := K) T) (bn_Polygon_init T) .nil) (hr.mono (by decide)) rfl T.g_Polygon (passAll (passes_call (takes_of rfl rfl rfl rfl) (fun _ _ _ _ h => h))) (pa_cons (pe_methA (pv 0) T.y_Polygon.cl T.m_Polygon_image_corners (FnOk.raw (ok_Polygon_image_corners (K := K) T) (bn_Polygon_image_corners T) .nil) (hr.mono (by decide)) (passAll (passes_call (takes_of rfl rfl rfl rfl) (fun _ _ _ _ h => h))) (pa_cons (pv 1) pa_nil)) pa_nil)))), ?_⟩
    walk_at "gx"
    refine ⟨x, dx, _, rfl, hx, rfl, ?_⟩
    walk_at "gx"
    refine ⟨_, u, _, ps, rfl, hv, by omega, ?_⟩
    rcases h with ⟨m, hu, om, bm, bp, q⟩ | ⟨n, hk, q⟩
    · refine .inl ⟨m, hu, bm, bp, fun l ws H1 s1 hl1 hw => ?_⟩
      walk_at "gx"
      refine mk_poly (pgc T) (.pts (.inl (SqL.of hl1)) hw (by rw [List.length_map]; exact h3) (by rw [List.length_map]; exact hl)) (errW_good (good_img om hg) fun p hp => ?_) fun ps' e hg' u0 H2 s2 hu2 => ?_
      · obtain ⟨p', hp', rfl⟩ := List.mem_map.mp hp
        exact (PBd.img bm (bp p' hp')).mono (by decide)
      · cases e
        exact q _ _ (s1.trans s2) hu2
    · exact .inr ⟨n, hk, q⟩

/-! #### ConvexPolygon.moved -/
def sp_ConvexPolygon_moved (K : PySem.W.Frag) : Sp := fun vs H Q E => ∃ (v u : V) (ps : List Pt) (m : M6), vs = [v, u] ∧ PgAt K H v (He.ga K "ConvexPolygon") ps ∧ Good ps ∧ 3 ≤ ps.length ∧ ps.length ≤ 60 ∧
  GmAt K H u m ∧ m.Ok ∧ MBd 10000 m ∧ AllBd 10000 ps ∧ reflex (arr (ps.map m.img)) = none ∧ ∀ r H', Same H H' → PgAt K H' r (He.ga K "ConvexPolygon") (arr (ps.map m.img)) → Q r H'
theorem ok_ConvexPolygon_moved (T : Tx K mg) : FnOk Pg w K mg base (L2.CX Pg w) 10 (He.ma K (He.ga K "ConvexPolygon") "moved") (fdOf K (He.ma K (He.ga K "ConvexPolygon") "moved")) ["self", "grid_map"] (sp_ConvexPolygon_moved K) := by
  refine T.d_ConvexPolygon_moved.ok sc_ConvexPolygon_moved (fun vs H Q E h => ?_) (fun cdv A outer s H vs Q E hr h => ?_)
  · obtain ⟨v, u, ps, m, rfl, _⟩ := h
    rfl
  · obtain ⟨v, u, ps, m, rfl, hv, hg, h3, hl, hu, om, bm, bp, hrf, q⟩ := h
    obtain ⟨pc, x, dx, t, xs, rfl, hx, ht, hxs⟩ := id hv
    refine ⟨_, (pss_one (ps_ret (pe_makeA T.k_ConvexPolygon (FnOk.raw (ok_ConvexPolygon_init (K := K) T) (bn_ConvexPolygon_init T) .nil) (hr.mono (by decide)) rfl T.g_ConvexPolygon (passAll (passes_call (takes_of rfl rfl rfl rfl) (fun _ _ _ _ h => h))) (pa_cons (pe_methA (pv 0) T.y_ConvexPolygon.cl T.m_ConvexPolygon_image_corners (FnOk.raw (ok_Polygon_image_corners (K := K) T) (bn_Polygon_image_corners T) .nil) (hr.mono (by decide)) (passAll (passes_call (takes_of rfl rfl rfl rfl) (fun _ _ _ _ h => h))) (pa_cons (pv 1) pa_nil)) pa_nil)))), ?_⟩
    walk_at "gx"
    refine ⟨x, dx, _, rfl, hx, rfl, ?_⟩
    walk_at "gx"
    refine ⟨_, u, _, ps, rfl, hv, by omega, .inl ⟨m, hu, bm, bp, fun l ws H1 s1 hl1 hw => ?_⟩⟩
    walk_at "gx"
    refine mk_conv (.pts (.inl (SqL.of hl1)) hw (by rw [List.length_map]; exact h3) (by rw [List.length_map]; exact hl)) (errW_good (good_img om hg) fun p hp => ?_) (fun ps' e hg' _ u0 H2 s2 hu2 => ?_) (fun ps' i e _ z => ?_)
    · obtain ⟨p', hp', rfl⟩ := List.mem_map.mp hp
      exact (PBd.img bm (bp p' hp')).mono (by decide)
    · cases e
      exact q _ _ (s1.trans s2) hu2
    · cases e; rw [hrf] at z; cases z
/-! #### check_polygon -/
/-- a polygon, or a value of another kind -/
inductive PolB (K : PySem.W.Frag) (H : Hp) : V → Bool → Prop where
  | yes {v : V} {C : Addr} {ps : List Pt} : PgAt K H v C ps → PolB K H v true
  | kind {v : V} {n : String} : Kd K H v n → PolB K H v false
def sp_check_polygon (K : PySem.W.Frag) : Sp := fun vs H Q E => ∃ (v : V) (b : Bool), vs = [v] ∧ PolB K H v b ∧ (b = true → Q .non H) ∧ (b = false → ∀ d H', Same H H' → H d = none → H' d = some (.xd [("position", .non)]) → E (.ref (He.ga K "InvalidPolygon")) (some d) H')
theorem ok_check_polygon (T : Tx K mg) : FnOk Pg w K mg base (L2.CX Pg w) 3 (He.ga K "check_polygon") (fdOf K (He.ga K "check_polygon")) ["value"] (sp_check_polygon K) := by
  refine T.d_check_polygon.ok sc_check_polygon (fun vs H Q E h => ?_) (fun cdv A outer s H vs Q E hr h => ?_)
  · obtain ⟨v, b, rfl, _⟩ := h
    rfl
  · obtain ⟨v, b, rfl, hv, q1, q2⟩ := h
    refine ⟨_, (pss_one (ps_if (pt_not (pt_val (pe_callB (kIsi (K := K)) (by rfl) T.n_isinstance (by decide +kernel) (pa_cons (pv 0) (pa_cons (pe_glob (v := .ref (He.ga K "Polygon")) rfl T.g_Polygon rfl) pa_nil))))) (pss_one (ps_raise rfl (takes_of rfl rfl rfl rfl) (pmk_oex T.x_InvalidPolygon.o T.x_InvalidPolygon.i T.x_InvalidPolygon.t (ok_InvalidPolygon_init (K := K) T) (hr.mono (by decide)) (bn_InvalidPolygon_init T) .nil pass0 rfl T.g_InvalidPolygon (pa_cons pe_non pa_nil)))) pss_nil)), ?_⟩
    walk_at "gx"
    cases hv with
    | yes hv =>
      obtain ⟨pc, x, dx, t, xs, rfl, hx, ht, hxs⟩ := hv
      refine r_isi (.own _) (pc.ins.ty hx) pc.isa ?_
      walk_at "gx"
      exact q1 rfl
    | kind hk =>
      refine r_isi (.own _) hk.ty (T.j_Polygon _ hk.mem) ?_
      walk_at "gx"
      refine iteT ?_
      refine ⟨(by show 1 ≤ 1000; decide), ?_⟩
      exact r_mkX1 fun d H5 s5 hd h5 => q2 rfl d H5 s5 hd h5
/-! #### to_polygon -/
def sp_to_polygon (K : PySem.W.Frag) : Sp := fun vs H Q E => ∃ (v : V) (c : Cin), vs = [v] ∧ CIn K H v c ∧ ErrW K H c E ∧ (∀ ps, c = .pts ps → Good ps → reflex (arr ps) = none → arr (arr ps) = arr ps ∧ Good (arr ps)) ∧
  (∀ ps, c = .pts ps → Good ps → reflex (arr ps) = none → ∀ x H', Same H H' → PgAt K H' (.ref x) (He.ga K "ConvexPolygon") (arr ps) → Q (.ref x) H') ∧
  (∀ ps, c = .pts ps → Good ps → reflex (arr ps) ≠ none → ∀ x H', Same H H' → PgAt K H' (.ref x) (He.ga K "Polygon") (arr ps) → Q (.ref x) H')
theorem ok_to_polygon (T : Tx K mg) : FnOk Pg w K mg base (L2.CX Pg w) 10 (He.ga K "to_polygon") (fdOf K (He.ga K "to_polygon")) ["corners"] (sp_to_polygon K) := by
  refine T.d_to_polygon.ok sc_to_polygon (fun vs H Q E h => ?_) (fun cdv A outer s H vs Q E hr h => ?_)
  · obtain ⟨v, c, rfl, _⟩ := h
    rfl
  · obtain ⟨v, c, rfl, hc, hE, hA, q1, q2⟩ := h
    refine ⟨_, (pss_cons (ps_set (i := 1) sc_to_polygon.nd rfl (Or.inl rfl) (pe_makeA T.k_Polygon (FnOk.raw (ok_Polygon_init (K := K) T) (bn_Polygon_init T) .nil) (hr.mono (by decide)) rfl T.g_Polygon (passAll (passes_call (takes_of rfl rfl rfl rfl) (fun _ _ _ _ h => h))) (pa_cons (pv 0) pa_nil)))
      (pss_one (ps_ret (pe_ifExp (pt_val (pe_propG (K := K) (p := He.ma K (He.ga K "Polygon") "is_convex") (g := He5.wf K (He.ga K "Polygon") "property" "is_convex") (pv 1) (ok_Polygon_is_convex (K := K) T) (hr.mono (by decide)) (bn_Polygon_is_convex T) .nil pass0)) (pe_makeA T.k_ConvexPolygon (FnOk.raw (ok_ConvexPolygon_init (K := K) T) (bn_ConvexPolygon_init T) .nil) (hr.mono (by decide)) rfl T.g_ConvexPolygon (passAll (passes_call (takes_of rfl rfl rfl rfl) (fun _ _ _ _ h => h))) (pa_cons (pe_propG (K := K) (p := He.ma K (He.ga K "Polygon") "corners") (g := He5.wf K (He.ga K "Polygon") "property" "corners") (pv 1) (ok_Polygon_corners (K := K) T) (hr.mono (by decide)) (bn_Polygon_corners T) .nil pass0) pa_nil)) (pv 1))))), ?_⟩
    walk_at "gx"
    refine mk_poly (pgc T) hc hE fun ps e hg x H1 s1 hp => ?_
    subst e
    obtain ⟨pc, x', dx, t, xs, ex, hx, ht, hxs⟩ := id hp
    cases ex
    walk_at "gx"
    refine ⟨_, _, dx, _, rfl, hx, pc.ins.cl, T.m_Polygon_is_convex, ?_⟩
    refine ⟨_, _, arr ps, rfl, hp, ?_⟩
    walk_at "gx"
    have hlen : 3 ≤ ps.length ∧ ps.length ≤ 60 := by
      cases hc with
      | pts _ _ h3 h60 => exact ⟨h3, h60⟩
    refine r_dec (fun hr => ?_) (fun hr => ?_)
    · obtain ⟨ha, hga⟩ := hA ps rfl hg hr
      walk_at "gx"
      refine ⟨_, _, dx, _, rfl, hx, pc.ins.cl, T.m_Polygon_corners, ?_⟩
      refine ⟨_, _, arr ps, rfl, hp, fun t2 ws2 ht2 hws2 => ?_⟩
      walk_at "gx"
      refine mk_conv (.pts (.inr ht2) hws2 (by rw [arr_len]; exact hlen.1) (by rw [arr_len]; exact hlen.2)) (errW_good hga (arr_bd (hE.bd ps rfl))) (fun ps' e _ hr' x2 H2 s2 hp2 => ?_) (fun ps' i e _ hr' => ?_)
      · cases e
        rw [ha] at hp2
        exact q1 ps rfl hg hr x2 H2 (s1.trans s2) hp2
      · cases e
        rw [ha, hr] at hr'; cases hr'
    · walk_at "gx"
      exact q2 ps rfl hg hr x H1 s1 hp
/-! #### names; collections as they stand in the heap -/
def LET : Str := "abcdefghijklmnopqrstuvwxyz"
def isNm (z : Str) : Bool := decide (1 ≤ z.length) && (decide (z.length ≤ 8) && z.cps.toList.all fun c => decide (c ∈ LET.cps.toList))
inductive NmB (K : PySem.W.Frag) (H : Hp) : V → Bool → Prop
  | str (z : Str) : z.length ≤ 1000 → NmB K H (.str z) (isNm z)
  | kind {v : V} {n : String} : Kd K H v n → n ≠ "str" → NmB K H v false
theorem NmB.same {K : PySem.W.Frag} {H H' : Hp} {v : V} {b : Bool} (h : NmB K H v b) (s : Same H H') : NmB K H' v b := by
  cases h with
  | str z hl => exact .str z hl
  | kind k hn => exact .kind (k.same s) hn
theorem Kd.kitS {K : PySem.W.Frag} {H : Hp} {v : V} {n : String} (k : Kd K H v n) : PySem.W.kitOne K (.type n) (.type "str") = some (n == "str") := by
  cases k <;> exact kit_ty (by decide +kernel)
def kv1 (p : Str × V) : Key × V := (Sum.inr p.1, p.2)
def lkS (kvs : List (Str × V)) (z : Str) : Option V := valV (kvs.map kv1) (Sum.inr z)
theorem lkS_nil (z : Str) : lkS [] z = none := rfl
theorem lkS_cons (p : Str × V) (kvs : List (Str × V)) (z : Str) : lkS (p :: kvs) z = if p.1 = z then some p.2 else lkS kvs z := by
  unfold lkS
  rw [List.map_cons]
  by_cases h : p.1 = z
  · rw [if_pos h]; exact valV_pos (congrArg Sum.inr h)
  · rw [if_neg h]; exact valV_neg fun e => h (Sum.inr.inj e)
theorem putS_new {kvs : List (Str × V)} {z : Str} {v : V} (h : lkS kvs z = none) : putK (kvs.map kv1) (Sum.inr z) v = (kvs ++ [(z, v)]).map kv1 := by
  unfold putK
  rw [valV_any, show valV (kvs.map kv1) (Sum.inr z) = none from h, if_neg (by simp), List.map_append]; rfl
def dropS (kvs : List (Str × V)) (z : Str) : List (Str × V) := kvs.filter fun p => decide (p.1 ≠ z)
theorem dropS_eq (kvs : List (Str × V)) (z : Str) : dropK (kvs.map kv1) (Sum.inr z) = (dropS kvs z).map kv1 := by
  unfold dropK dropS
  rw [List.filter_map]
  congr 1
  apply List.filter_congr
  intro p _
  show decide ((Sum.inr p.1 : Key) ≠ Sum.inr z) = decide (p.1 ≠ z)
  by_cases h : p.1 = z
  · have e1 : ¬ ((Sum.inr p.1 : Key) ≠ Sum.inr z) := fun x => x (by rw [h])
    have e2 : ¬ (p.1 ≠ z) := fun x => x h
    rw [decide_eq_false_iff_not.mpr e1, decide_eq_false_iff_not.mpr e2]
  · have e1 : ((Sum.inr p.1 : Key) ≠ Sum.inr z) := fun x => h (Sum.inr.inj x)
    rw [decide_eq_true_iff.mpr e1, decide_eq_true_iff.mpr h]
structure ColAt (K : PySem.W.Frag) (H : Hp) (c kd el : Addr) (m : Int) (kvs : List (Str × V)) (es : List (List (Str × V))) : Prop where
  ob : ∃ dx, H c = some (.ins (He.ga K "Collection") dx [("most", .int m), ("kept", .ref kd), ("earlier", .ref el)])
  hd : H kd = some (.dK (kvs.map kv1))
  hl : ∃ as : List Addr, H el = some (.lst (as.map V.ref)) ∧ Paired (fun a d => H a = some (.dK (d.map kv1))) as es ∧ kd ∉ as
theorem paired_app {α β : Type} {R : α → β → Prop} : ∀ {xs xs' : List α} {ys ys' : List β}, Paired R xs ys → Paired R xs' ys' → Paired R (xs ++ xs') (ys ++ ys')
  | _, _, _, _, .nil, k => k
  | _, _, _, _, .cons h hs, k => .cons h (paired_app hs k)
theorem paired_mono {α β : Type} {R S : α → β → Prop} : ∀ {xs : List α} {ys : List β}, (∀ x y, x ∈ xs → R x y → S x y) → Paired R xs ys → Paired S xs ys
  | _, _, _, .nil => .nil
  | _, _, f, .cons h hs => .cons (f _ _ List.mem_cons_self h) (paired_mono (fun x y hx => f x y (List.mem_cons_of_mem _ hx)) hs)
theorem paired_snoc {α β : Type} {R : α → β → Prop} {y : β} : ∀ {xs : List α} {ys : List β}, Paired R xs (ys ++ [y]) → ∃ us u, xs = us ++ [u] ∧ Paired R us ys ∧ R u y
  | _, [], .cons h .nil => ⟨[], _, rfl, .nil, h⟩
  | _, _ :: _, .cons h hs => by
    obtain ⟨us, u, rfl, h1, h2⟩ := paired_snoc hs
    exact ⟨_ :: us, u, rfl, .cons h h1, h2⟩
theorem paired_none {H : Hp} {k : Addr} (hk : H k = none) : ∀ {as : List Addr} {es : List (List (Str × V))}, Paired (fun a d => H a = some (.dK (d.map kv1))) as es → k ∉ as
  | _, _, .nil => by simp
  | _, _, .cons h hs => fun w => by
    cases w with
    | head => rw [hk] at h; cases h
    | tail _ w => exact paired_none hk hs w
theorem ColAt.same {K : PySem.W.Frag} {H H' : Hp} {c kd el : Addr} {m : Int} {kvs : List (Str × V)} {es : List (List (Str × V))} (h : ColAt K H c kd el m kvs es) (s : Same H H') : ColAt K H' c kd el m kvs es := by
  obtain ⟨⟨dx, h1⟩, h2, as, h3, h4, h5⟩ := h
  exact ⟨⟨dx, s _ _ h1⟩, s _ _ h2, as, s _ _ h3, paired_mono (fun a d _ e => s _ _ e) h4, h5⟩
theorem putF_m {a b c u : V} : putF "most" u [(("most" : Str), a), ("kept", b), ("earlier", c)] = [(("most" : Str), u), ("kept", b), ("earlier", c)] := by
  simp only [putF]; rw [if_pos trivial]
theorem putF_k {a b c u : V} : putF "kept" u [(("most" : Str), a), ("kept", b), ("earlier", c)] = [(("most" : Str), a), ("kept", u), ("earlier", c)] := by
  simp only [putF]; rw [if_neg (by decide +kernel), if_pos trivial]
theorem putF_b {a u : V} : putF "kept" u [(("most" : Str), a)] = [(("most" : Str), a), ("kept", u)] := by
  simp only [putF]; rw [if_neg (by decide +kernel)]
theorem putF_c {a b u : V} : putF "earlier" u [(("most" : Str), a), ("kept", b)] = [(("most" : Str), a), ("kept", b), ("earlier", u)] := by
  simp only [putF]; rw [if_neg (by decide +kernel), if_neg (by decide +kernel)]
/-- all but what is at the given places stands -/
def KpL (ls : List Addr) (H H' : Hp) : Prop := ∀ b o, b ∉ ls → H b = some o → H' b = some o
theorem KpL.of_same {ls : List Addr} {H H' : Hp} (s : Same H H') : KpL ls H H' := fun b o _ e => s b o e
theorem KpL.of_kp {l : Addr} {H H' : Hp} (k : Kp l H H') : KpL [l] H H' := fun b o n e => k b o (by simpa using n) e
theorem KpL.trans {ls : List Addr} {H H1 H2 : Hp} (a : KpL ls H H1) (b : KpL ls H1 H2) : KpL ls H H2 := fun c o n e => b c o n (a c o n e)
theorem KpL.upd {ls : List Addr} {H H1 : Hp} {a : Addr} {o : HO} (k : KpL ls H H1) (ha : a ∈ ls) : KpL ls H (upd H1 a o) := fun c u n e => by
  have ne : c ≠ a := fun z => n (by rw [z]; exact ha)
  rw [upd_ne ne]; exact k c u n e
theorem KpL.mono {ls ms : List Addr} {H H' : Hp} (k : KpL ls H H') (h : ∀ a ∈ ls, a ∈ ms) : KpL ms H H' := fun b o n e => k b o (fun z => n (h b z)) e
theorem PolB.same {K : PySem.W.Frag} {H H' : Hp} {p : V} {b : Bool} (h : PolB K H p b) (s : Same H H') : PolB K H' p b := by
  cases h with
  | yes h => exact .yes (h.same s)
  | kind k => exact .kind (k.same s)
/-! #### is_name -/
def sp_is_name (K : PySem.W.Frag) : Sp := fun vs H Q _ => ∃ (v : V) (b : Bool), vs = [v] ∧ NmB K H v b ∧ ∀ H', Same H H' → Q (.bl b) H'
theorem ok_is_name (T : Tx K mg) : FnOk Pg w K mg base CX0 1 (He.ga K "is_name") (fdOf K (He.ga K "is_name")) ["value"] (sp_is_name K) := by
  refine T.d_is_name.ok sc_is_name (fun vs H Q E h => ?_) (fun cdv A outer s H vs Q E hr h => ?_)
  · obtain ⟨v, b, rfl, _⟩ := h
    rfl
  · obtain ⟨v, b, rfl, hv, q⟩ := h
    refine ⟨_, PSs.nox (pss_one (ps_ret (pe_and (pe_callB (kIsi (K := K)) (by rfl) T.n_isinstance (by decide +kernel) (pa_cons (pv 0) (pa_cons (pe_bltn (v := .ty "str") (by rfl) T.n_str (by decide +kernel) rfl) pa_nil))) (pe_and (pe_chain op_le op_le pe_int (pe_callB call_len_str (by rfl) T.n_len (by decide +kernel) (pa_cons (pv 0) pa_nil)) (pe_glob (v := .int 8) rfl T.c_MAX_LENGTH.choose_spec ⟨_, rfl⟩)) (pe_one (pe_callB (kAll (K := K) rfl) (by rfl) T.n_all (by decide +kernel) (pa_cons (pe_lc (own := [("sign", 1)]) (g := (gName 1)) (tt := tYes) rfl sc_is_name.nd (pi_str (pv 0)) (blkOk_by (own := [("sign", 1)]) (N := ["value", "sign"]) (sc := defScope s_is_name) (by decide +kernel)) (fun _ _ _ _ _ => (pg_name (i := 1) sc_is_name.nd rfl (Or.inl rfl))) (fun _ _ _ _ _ => pts_nil) (fun _ _ _ _ _ => (pe_cmpR op_in_sign (pv 1) (pe_glob (v := .str "abcdefghijklmnopqrstuvwxyz") rfl T.c_LETTERS.choose_spec ⟨_, rfl⟩) (by rfl)))) pa_nil))))))), ?_⟩
    walk_at "gx"
    cases hv with
    | kind k hn =>
      refine r_isi (.ty "str") k.ty k.kitS ?_
      rw [beq_false_of_ne hn]
      refine ⟨_, rfl, ?_⟩
      rw [if_neg Bool.false_ne_true]
      exact q H (Same.refl H)
    | str z hl =>
      refine r_isi (.ty "str") (Kd.str (K := K) (H := H) z).ty (Kd.kitS (K := K) (H := H) (.str z)) ?_
      refine ⟨_, rfl, ?_⟩
      rw [if_pos (show ("str" == "str") = true from rfl)]
      unfold tChain
      walk_at "gx"
      refine ⟨z, rfl, by rw [sizeLine_eq]; omega, ?_⟩
      walk_at "gx"
      have qf : ∀ b : Bool, isNm z = b → ∀ H', Same H H' → Q (.bl b) H' := fun b e => e ▸ q
      refine r_dec (fun h1 => ?_) (fun h1 => ?_)
      · walk_at "gx"
        refine r_dec (fun h2 => ?_) (fun h2 => ?_)
        · walk_at "gx"
          refine r_lcSg ?_
          walk_at "gx"
          have hsz : z.cps.size ≤ 8 := Int.ofNat_le.mp h2
          refine compSg (by omega) (fun D i acc H' => Same H H' ∧ acc = (z.cps.toList.take i).map fun c => V.bl (decide (c ∈ LET.cps.toList))) (fun D hD => ⟨same_new (Same.refl _) hD, rfl⟩) ?_ ?_
          · rintro D i c acc H1 hD hc ⟨s1, rfl⟩ ha hl
            walk_at "gx"
            refine ⟨c, LET, rfl, rfl, ?_⟩
            have hlt : i < z.cps.size := (Array.getElem?_eq_some_iff.mp hc).1
            refine cnext ha hl (by omega) ⟨fun b o e => ?_, ?_⟩
            · rw [upd_ne (ne_of_none e hD)]
              exact s1 b o e
            · rw [List.take_succ, Array.getElem?_toList, hc, List.map_append]; rfl
          · rintro D acc H1 hD ⟨s1, rfl⟩ ha hl
            walk_at "gx"
            have e1 : z.cps.toList.take z.cps.size = z.cps.toList := List.take_of_length_le (by simp)
            rw [e1] at ha
            refine ⟨D, z.cps.toList.map fun c => decide (c ∈ LET.cps.toList), rfl, SqL.of (by rw [List.map_map]; exact ha), ?_⟩
            refine qf _ ?_ H1 s1
            unfold isNm
            rw [decide_eq_true (Int.ofNat_le.mp h1), decide_eq_true (Int.ofNat_le.mp h2), List.all_map]; rfl
        · exact qf false (by unfold isNm; rw [decide_eq_false (fun x => h2 (Int.ofNat_le.mpr x)), Bool.false_and, Bool.and_false]) H (Same.refl H)
      · refine ⟨false, rfl, ?_⟩
        rw [if_neg Bool.false_ne_true]
        exact qf false (by unfold isNm; rw [decide_eq_false (fun x => h1 (Int.ofNat_le.mpr x)), Bool.false_and]) H (Same.refl H)
/-! #### check_name -/
def sp_check_name (K : PySem.W.Frag) : Sp := fun vs H Q E => ∃ (v : V) (b : Bool), vs = [v] ∧ NmB K H v b ∧ (b = true → ∀ H', Same H H' → Q .non H') ∧ (b = false → ∀ H', Same H H' → E (.ref (He.ga K "InvalidName")) none H')
theorem ok_check_name (T : Tx K mg) : FnOk Pg w K mg base (L2.CX Pg w) 2 (He.ga K "check_name") (fdOf K (He.ga K "check_name")) ["value"] (sp_check_name K) := by
  refine T.d_check_name.ok sc_check_name (fun vs H Q E h => ?_) (fun cdv A outer s H vs Q E hr h => ?_)
  · obtain ⟨v, b, rfl, _⟩ := h
    rfl
  · obtain ⟨v, b, rfl, hv, q1, q2⟩ := h
    refine ⟨_, (pss_one (ps_if (pt_not (pt_val (pe_call (ok_is_name (K := K) T) (hr.mono (by decide)) rfl T.g_is_name T.d_is_name.kp (bn_is_name T) .nil pass0 (pa_cons (pv 0) pa_nil)))) (pss_one (ps_raise rfl (takes_of rfl rfl rfl rfl) (pmk_own PySem.F.excBase_ValueError T.x_InvalidName.x T.g_InvalidName T.x_InvalidName.k (raises_own T.x_InvalidName.b T.x_InvalidName.t) rfl))) pss_nil)), ?_⟩
    walk_at "gx"
    refine ⟨v, b, rfl, hv, fun H1 s1 => ?_⟩
    walk_at "gx"
    cases b with
    | true => exact q1 rfl H1 s1
    | false => exact q2 rfl H1 s1
/-! #### Collection.__init__ -/
def sp_col_init (K : PySem.W.Frag) : Sp := fun vs H Q E => ∃ (x dx : Addr) (v : V) (n : String), vs = [.ref x, v] ∧ H x = some (.ins (He.ga K "Collection") dx []) ∧ Kd K H v n ∧ (goodI v (.int 1) = false → E (.ref (He.ga K "InvalidInteger")) none H) ∧
  ∀ m, v = .int m → goodI v (.int 1) = true → ∀ kd el H', Kp x H H' → H kd = none → H el = none → kd ≠ el → ColAt K H' x kd el m [] [] → Q .non H'
theorem ok_Collection_init (T : Tx K mg) : FnOk Pg w K mg base (L2.CX Pg w) 3 (He.ma K (He.ga K "Collection") "__init__") (fdOf K (He.ma K (He.ga K "Collection") "__init__")) ["self", "capacity"] (sp_col_init K) := by
  refine T.d_Collection_init.ok sc_Collection_init (fun vs H Q E h => ?_) (fun cdv A outer s H vs Q E hr h => ?_)
  · obtain ⟨x, dx, v, n, rfl, _⟩ := h
    rfl
  · obtain ⟨x, dx, v, n, rfl, hx, k, q1, q2⟩ := h
    refine ⟨_, (pss_cons (ps_expr (pe_call (ok_check_integer (K := K) T) (hr.mono (by decide)) rfl T.g_check_integer T.d_check_integer.kp (bd0_check_integer T).choose_spec.2 (bd0_check_integer T).choose_spec.1 (passes_call (takes_of rfl rfl rfl rfl) (fun _ _ _ _ h => h)) (pa_cons (pv 1) (pa_cons pe_int pa_nil))))
      (pss_cons (kSFld (K := K) (ps_fld (pv 0) (pv 1) rfl))
      (pss_cons (kSFld (K := K) (ps_fld (pv 0) pe_dnewK rfl))
      (pss_one (kSFld (K := K) (ps_fld (pv 0) (pe_lst pa_nil) rfl)))))), ?_⟩
    walk_at "gx"
    refine ⟨v, _, n, rfl, k, .inr ⟨1, rfl⟩, fun hg => ?_, fun hg => q1 hg⟩
    obtain ⟨m, rfl⟩ : ∃ m, v = .int m := by
      cases v <;> first | exact ⟨_, rfl⟩ | cases hg
    walk_at "gx"
    refine ⟨x, _, dx, [], rfl, hx, T.y_Collection.cl, T.a_Collection_most, by decide, ?_⟩
    generalize e1 : upd H x _ = H1
    have hx1 : H1 x = some (.ins (He.ga K "Collection") dx [("most", .int m)]) := e1 ▸ upd_same
    have k1 : Kp x H H1 := e1 ▸ (Kp.refl x H).put
    walk_at "gx"
    intro kd hkd
    generalize e2 : upd H1 kd _ = H2
    obtain ⟨s2, g2⟩ := fresh hkd e2
    have nk : kd ≠ x := fun z => by rw [z, hx1] at hkd; cases hkd
    walk_at "gx"
    refine ⟨x, _, dx, [("most", .int m)], rfl, s2 _ _ hx1, T.y_Collection.cl, T.a_Collection_kept, by simp, ?_⟩
    rw [putF_b]
    generalize e3 : upd H2 x _ = H3
    have hx3 : H3 x = some (.ins (He.ga K "Collection") dx [("most", .int m), ("kept", .ref kd)]) := e3 ▸ upd_same
    have k3 : Kp x H2 H3 := e3 ▸ (Kp.refl x H2).put
    have g3 := k3 _ _ nk g2
    walk_at "gx"
    refine r_new fun el hel => ?_
    generalize e4 : upd H3 el _ = H4
    obtain ⟨s4, g4⟩ := fresh hel e4
    have nel : el ≠ x := fun z => by rw [z, hx3] at hel; cases hel
    have nke : kd ≠ el := fun z => by rw [← z, g3] at hel; cases hel
    walk_at "gx"
    refine ⟨x, _, dx, [("most", .int m), ("kept", .ref kd)], rfl, s4 _ _ hx3, T.y_Collection.cl, T.a_Collection_earlier, by simp, ?_⟩
    rw [putF_c]
    generalize e5 : upd H4 x _ = H5
    have hx5 : H5 x = some (.ins (He.ga K "Collection") dx [("most", .int m), ("kept", .ref kd), ("earlier", .ref el)]) := e5 ▸ upd_same
    have k5 : Kp x H4 H5 := e5 ▸ (Kp.refl x H4).put
    refine q2 m rfl hg kd el H5 (((k1.same s2).trans k3).trans ((Kp.of_same s4).trans k5)) (k1.free nk hkd) ((((k1.same s2).trans k3)).free nel hel) nke ?_
    exact ⟨⟨dx, hx5⟩, k5 _ _ nk (s4 _ _ g3), [], k5 _ _ nel g4, .nil, by simp⟩
/-! #### what the methods raise -/
inductive CErr where
  | name
  | polygon
  | unknown (v : V)
  | used (v : V)
  | limit (n : Int)
  | map
def RaisesC (K : PySem.W.Frag) (H : Hp) (E : XK) : CErr → Prop
  | .name => ∀ H', Same H H' → E (.ref (He.ga K "InvalidName")) none H'
  | .polygon => ∀ d H', Same H H' → H d = none → H' d = some (.xd [("position", .non)]) → E (.ref (He.ga K "InvalidPolygon")) (some d) H'
  | .unknown v => ∀ d H', Same H H' → H d = none → H' d = some (.xd [("name", v)]) → E (.ref (He.ga K "UnknownName")) (some d) H'
  | .used v => ∀ d H', Same H H' → H d = none → H' d = some (.xd [("name", v)]) → E (.ref (He.ga K "NameInUse")) (some d) H'
  | .limit n => ∀ d H', Same H H' → H d = none → H' d = some (.xd [("size", .int n)]) → E (.ref (He.ga K "LimitExceeded")) (some d) H'
  | .map => ∀ H', Same H H' → E (.ref (He.ga K "InvalidMap")) none H'
theorem RaisesC.same {K : PySem.W.Frag} {H H' : Hp} {E : XK} {e : CErr} (h : RaisesC K H E e) (s : Same H H') : RaisesC K H' E e := by
  cases e with
  | name => exact fun H2 s2 => h H2 (s.trans s2)
  | map => exact fun H2 s2 => h H2 (s.trans s2)
  | polygon => exact fun d H2 s2 hd hx => h d H2 (s.trans s2) (s.free hd) hx
  | unknown v => exact fun d H2 s2 hd hx => h d H2 (s.trans s2) (s.free hd) hx
  | used v => exact fun d H2 s2 hd hx => h d H2 (s.trans s2) (s.free hd) hx
  | limit n => exact fun d H2 s2 hd hx => h d H2 (s.trans s2) (s.free hd) hx
def hasV (kvs : List (Str × V)) : V → Bool
  | .str z => (lkS kvs z).isSome
  | _ => false
section
variable {K : PySem.W.Frag} {H : Hp} {c kd el : Addr} {m : Int} {kvs : List (Str × V)} {es : List (List (Str × V))}
theorem ColAt.ne (h : ColAt K H c kd el m kvs es) : c ≠ kd ∧ c ≠ el ∧ kd ≠ el := by
  obtain ⟨⟨dx, h1⟩, h2, as, h3, _⟩ := h
  refine ⟨fun z => ?_, fun z => ?_, fun z => ?_⟩
  · rw [z, h2] at h1; cases h1
  · rw [z, h3] at h1; cases h1
  · rw [z, h3] at h2; cases h2
end
/-! #### Collection.__len__ -/
def sp_col_len (K : PySem.W.Frag) : Sp := fun vs H Q _ => ∃ (c kd el : Addr) (m : Int) (kvs : List (Str × V)) (es : List (List (Str × V))), vs = [.ref c] ∧ ColAt K H c kd el m kvs es ∧ Q (.int (kvs.length : Int)) H
theorem ok_Collection_len (T : Tx K mg) : FnOk Pg w K mg base CX0 1 (He.ma K (He.ga K "Collection") "__len__") (fdOf K (He.ma K (He.ga K "Collection") "__len__")) ["self"] (sp_col_len K) := by
  refine T.d_Collection_len.ok sc_Collection_len (fun vs H Q E h => ?_) (fun cdv A outer s H vs Q E hr h => ?_)
  · obtain ⟨c, kd, el, m, kvs, es, rfl, _⟩ := h
    rfl
  · obtain ⟨c, kd, el, m, kvs, es, rfl, hc, q⟩ := h
    obtain ⟨dx, ho⟩ := hc.ob
    refine ⟨_, PSs.nox (pss_one (ps_ret (pe_callB call_lenDc (by rfl) T.n_len (by decide +kernel) (pa_cons (kFld (K := K) (pe_fld (pv 0) rfl)) pa_nil)))), ?_⟩
    walk_at "gx"
    refine r_fldAt ho T.y_Collection.cl T.a_Collection_kept rfl ?_
    walk_at "gx"
    refine r_lenDc hc.hd ?_
    rw [List.length_map]
    exact q
/-! #### Collection.capacity -/
def sp_col_cap (K : PySem.W.Frag) : Sp := fun vs H Q _ => ∃ (c kd el : Addr) (m : Int) (kvs : List (Str × V)) (es : List (List (Str × V))), vs = [.ref c] ∧ ColAt K H c kd el m kvs es ∧ Q (.int m) H
theorem ok_Collection_capacity (T : Tx K mg) : FnOk Pg w K mg base CX0 1 (He5.wf K (He.ga K "Collection") "property" "capacity") (fdOf K (He5.wf K (He.ga K "Collection") "property" "capacity")) ["self"] (sp_col_cap K) := by
  refine T.d_Collection_capacity.ok sc_Collection_capacity (fun vs H Q E h => ?_) (fun cdv A outer s H vs Q E hr h => ?_)
  · obtain ⟨c, kd, el, m, kvs, es, rfl, _⟩ := h
    rfl
  · obtain ⟨c, kd, el, m, kvs, es, rfl, hc, q⟩ := h
    obtain ⟨dx, ho⟩ := hc.ob
    refine ⟨_, PSs.nox (pss_one (ps_ret (kFld (K := K) (pe_fld (pv 0) rfl)))), ?_⟩
    walk_at "gx"
    exact r_fldAt ho T.y_Collection.cl T.a_Collection_most rfl q
/-! #### Collection.capacity#set -/
def sp_col_set (K : PySem.W.Frag) : Sp := fun vs H Q E => ∃ (c kd el : Addr) (m : Int) (kvs : List (Str × V)) (es : List (List (Str × V))) (v : V) (n : String), vs = [.ref c, v] ∧ ColAt K H c kd el m kvs es ∧ Kd K H v n ∧
  (goodI v (.int 1) = false → E (.ref (He.ga K "InvalidInteger")) none H) ∧
  (∀ k, v = .int k → goodI v (.int 1) = true → k < (kvs.length : Int) → RaisesC K H E (.limit (kvs.length : Int))) ∧
  (∀ k, v = .int k → goodI v (.int 1) = true → (kvs.length : Int) ≤ k → ∀ H', Kp c H H' → ColAt K H' c kd el k kvs es → Q .non H')
theorem ok_Collection_capacity_set (T : Tx K mg) : FnOk Pg w K mg base (L2.CX Pg w) 3 (psetA K (He.ma K (He.ga K "Collection") "capacity")) (fdOf K (psetA K (He.ma K (He.ga K "Collection") "capacity"))) ["self", "value"] (sp_col_set K) := by
  refine T.d_Collection_capacity_set.ok sc_Collection_capacity_set (fun vs H Q E h => ?_) (fun cdv A outer s H vs Q E hr h => ?_)
  · obtain ⟨c, kd, el, m, kvs, es, v, n, rfl, _⟩ := h
    rfl
  · obtain ⟨c, kd, el, m, kvs, es, v, n, rfl, hc, k, q1, q2, q3⟩ := h
    obtain ⟨dx, ho⟩ := hc.ob
    refine ⟨_, (pss_cons (ps_expr (pe_call (ok_check_integer (K := K) T) (hr.mono (by decide)) rfl T.g_check_integer T.d_check_integer.kp (bd0_check_integer T).choose_spec.2 (bd0_check_integer T).choose_spec.1 (passes_call (takes_of rfl rfl rfl rfl) (fun _ _ _ _ h => h)) (pa_cons (pv 1) (pa_cons pe_int pa_nil))))
      (pss_cons (ps_if (pt_cmpR op_lt (pv 1) (pe_callB call_lenDc (by rfl) T.n_len (by decide +kernel) (pa_cons (kFld (K := K) (pe_fld (pv 0) rfl)) pa_nil)) (nomark _)) (pss_one (ps_raise rfl (takes_of rfl rfl rfl rfl) (pmk_oexO T.x_LimitExceeded.o T.x_LimitExceeded.i T.x_LimitExceeded.t (ok_LimitExceeded_init (K := K) T) (hr.mono (by decide)) (bn_LimitExceeded_init T) .nil pass0 rfl T.g_LimitExceeded (pa_cons (pe_callB call_lenDc (by rfl) T.n_len (by decide +kernel) (pa_cons (kFld (K := K) (pe_fld (pv 0) rfl)) pa_nil)) pa_nil)))) pss_nil)
      (pss_one (kSFld (K := K) (ps_fld (pv 0) (pv 1) rfl))))), ?_⟩
    walk_at "gx"
    refine ⟨v, _, n, rfl, k, .inr ⟨1, rfl⟩, fun hg => ?_, fun hg => q1 hg⟩
    obtain ⟨j, rfl⟩ : ∃ m, v = .int m := by
      cases v <;> first | exact ⟨_, rfl⟩ | cases hg
    walk_at "gx"
    refine r_fldAt ho T.y_Collection.cl T.a_Collection_kept rfl ?_
    walk_at "gx"
    refine r_lenDc hc.hd ?_
    rw [List.length_map]
    walk_at "gx"
    refine r_dec (fun hl => ?_) (fun hl => ?_)
    · walk_at "gx"
      unfold tMkO
      walk_at "gx"
      refine r_fldAt ho T.y_Collection.cl T.a_Collection_kept rfl ?_
      walk_at "gx"
      refine r_lenDc hc.hd ?_
      rw [List.length_map]
      walk_at "gx"
      refine ⟨by simp, ?_⟩
      exact r_mkX1 fun d H1 s1 hd h1 => q2 j rfl hg hl d H1 s1 hd h1
    · walk_at "gx"
      refine ⟨c, _, dx, _, rfl, ho, T.y_Collection.cl, T.a_Collection_most, by simp, ?_⟩
      rw [putF_m]
      obtain ⟨n1, n2, n3⟩ := hc.ne
      obtain ⟨as, h3, h4, h5⟩ := hc.hl
      refine q3 j rfl hg (by omega) _ (Kp.refl c H).put ⟨⟨dx, upd_same⟩, by rw [upd_ne n1.symm]; exact hc.hd, as, by rw [upd_ne n2.symm]; exact h3, paired_mono (fun a d _ e => ?_) h4, h5⟩
      rw [upd_ne (fun z => by rw [z, ho] at e; cases e)]
      exact e
/-! #### Collection.resize -/
def sp_col_resize (K : PySem.W.Frag) : Sp := fun vs H Q E => sp_col_set K vs H Q E
theorem ok_Collection_resize (T : Tx K mg) : FnOk Pg w K mg base (L2.CX Pg w) 6 (He.ma K (He.ga K "Collection") "resize") (fdOf K (He.ma K (He.ga K "Collection") "resize")) ["self", "capacity"] (sp_col_resize K) := by
  refine T.d_Collection_resize.ok sc_Collection_resize (fun vs H Q E h => ?_) (fun cdv A outer s H vs Q E hr h => ?_)
  · obtain ⟨c, kd, el, m, kvs, es, v, n, rfl, _⟩ := h
    rfl
  · obtain ⟨c, kd, el, m, kvs, es, v, n, rfl, hc, hk, hh⟩ := h
    obtain ⟨dx, ho⟩ := hc.ob
    refine ⟨_, (pss_one (kPSet (K := K) (ps_pset (p := He.ma K (He.ga K "Collection") "capacity") (ok_Collection_capacity_set (K := K) T) (hr.mono (by decide)) (bn_Collection_capacity_set T) (passes_call (takes_of rfl rfl rfl rfl) (fun _ _ _ _ h => h)) (pv 0) (pv 1)))), ?_⟩
    walk_at "gx"
    refine r_pset ?_
    walk_at "gx"
    exact ⟨c, _, dx, _, rfl, ho, T.m_Collection_capacity_set, c, kd, el, m, kvs, es, v, n, rfl, hc, hk, hh⟩
/-! #### Collection.knows -/
def sp_col_knows (K : PySem.W.Frag) : Sp := fun vs H Q _ => ∃ (c kd el : Addr) (m : Int) (kvs : List (Str × V)) (es : List (List (Str × V))) (v : V) (b : Bool), vs = [.ref c, v] ∧ ColAt K H c kd el m kvs es ∧ NmB K H v b ∧ ∀ H', Same H H' → Q (.bl (b && hasV kvs v)) H'
theorem ok_Collection_knows (T : Tx K mg) : FnOk Pg w K mg base CX0 2 (He.ma K (He.ga K "Collection") "knows") (fdOf K (He.ma K (He.ga K "Collection") "knows")) ["self", "name"] (sp_col_knows K) := by
  refine T.d_Collection_knows.ok sc_Collection_knows (fun vs H Q E h => ?_) (fun cdv A outer s H vs Q E hr h => ?_)
  · obtain ⟨c, kd, el, m, kvs, es, v, b, rfl, _⟩ := h
    rfl
  · obtain ⟨c, kd, el, m, kvs, es, v, b, rfl, hc, hv, q⟩ := h
    refine ⟨_, PSs.nox (pss_one (ps_ret (pe_and (pe_call (ok_is_name (K := K) T) (hr.mono (by decide)) rfl T.g_is_name T.d_is_name.kp (bn_is_name T) .nil pass0 (pa_cons (pv 1) pa_nil)) (pe_one (pe_cmpR (kInDc hr.units1) (pv 1) (kFld (K := K) (pe_fld (pv 0) rfl)) (by rfl)))))), ?_⟩
    walk_at "gx"
    refine ⟨v, b, rfl, hv, fun H1 s1 => ?_⟩
    have hc := hc.same s1
    obtain ⟨dx, ho⟩ := hc.ob
    walk_at "gx"
    cases b with
    | false =>
      rw [if_neg Bool.false_ne_true]
      exact q H1 s1
    | true =>
      rw [if_pos rfl]
      obtain ⟨z, rfl⟩ : ∃ z, v = .str z := by
        generalize eb : true = b at hv
        cases hv with
        | str z _ => exact ⟨z, rfl⟩
        | kind _ _ => cases eb
      walk_at "gx"
      refine r_fldAt ho T.y_Collection.cl T.a_Collection_kept rfl ?_
      exact r_inDc (k := Sum.inr z) hc.hd (q H1 s1)
/-! #### Collection.check_known -/
def sp_col_known (K : PySem.W.Frag) : Sp := fun vs H Q E => ∃ (c kd el : Addr) (m : Int) (kvs : List (Str × V)) (es : List (List (Str × V))) (v : V) (b : Bool), vs = [.ref c, v] ∧ ColAt K H c kd el m kvs es ∧ NmB K H v b ∧ ((b && hasV kvs v) = true → ∀ H', Same H H' → Q .non H') ∧ ((b && hasV kvs v) = false → RaisesC K H E (.unknown v))
theorem ok_Collection_check_known (T : Tx K mg) : FnOk Pg w K mg base (L2.CX Pg w) 3 (He.ma K (He.ga K "Collection") "check_known") (fdOf K (He.ma K (He.ga K "Collection") "check_known")) ["self", "name"] (sp_col_known K) := by
  refine T.d_Collection_check_known.ok sc_Collection_check_known (fun vs H Q E h => ?_) (fun cdv A outer s H vs Q E hr h => ?_)
  · obtain ⟨c, kd, el, m, kvs, es, v, b, rfl, _⟩ := h
    rfl
  · obtain ⟨c, kd, el, m, kvs, es, v, b, rfl, hc, hv, q1, q2⟩ := h
    obtain ⟨dx, ho⟩ := hc.ob
    refine ⟨_, (pss_one (ps_if (pt_not (pt_val (pe_methA (pv 0) T.y_Collection.cl T.m_Collection_knows (FnOk.raw (ok_Collection_knows (K := K) T) (bn_Collection_knows T) .nil) (hr.mono (by decide)) (passAll pass0) (pa_cons (pv 1) pa_nil)))) (pss_one (ps_raise rfl (takes_of rfl rfl rfl rfl) (pmk_oexG T.xg_UnknownName.o T.xg_UnknownName.i T.xg_UnknownName.t (ok_UnknownName_init (K := K) T) (hr.mono (by decide)) (bn_UnknownName_init T) .nil pass0 rfl T.g_UnknownName (pa_cons (pv 1) pa_nil)))) pss_nil)), ?_⟩
    walk_at "gx"
    refine ⟨c, dx, _, rfl, ho, rfl, ?_⟩
    walk_at "gx"
    refine ⟨c, kd, el, m, kvs, es, v, b, rfl, hc, hv, fun H1 s1 => ?_⟩
    walk_at "gx"
    generalize (b && hasV kvs v) = e at q1 q2 ⊢
    cases e with
    | true => exact q1 rfl H1 s1
    | false =>
      rw [if_pos (show (!false) = true from rfl)]
      unfold tMkO
      walk_at "gx"
      exact ⟨by simp, r_mkX1 fun d H2 s2 hd h2 => q2 rfl d H2 (s1.trans s2) (s1.free hd) h2⟩
/-! #### Collection.remember -/
def sp_col_rem (K : PySem.W.Frag) : Sp := fun vs H Q _ => ∃ (c kd el d : Addr) (m : Int) (kvs sn : List (Str × V)) (es : List (List (Str × V))), vs = [.ref c, .ref d] ∧ ColAt K H c kd el m kvs es ∧ d ≠ kd ∧ H d = some (.dK (sn.map kv1)) ∧ es.length < 1000 ∧ ∀ H', KpL [el] H H' → ColAt K H' c kd el m kvs (es ++ [sn]) → Q .non H'
theorem ok_Collection_remember (T : Tx K mg) : FnOk Pg w K mg base CX0 1 (He.ma K (He.ga K "Collection") "remember") (fdOf K (He.ma K (He.ga K "Collection") "remember")) ["self", "situation"] (sp_col_rem K) := by
  refine T.d_Collection_remember.ok sc_Collection_remember (fun vs H Q E h => ?_) (fun cdv A outer s H vs Q E hr h => ?_)
  · obtain ⟨c, kd, el, d, m, kvs, sn, es, rfl, _⟩ := h
    rfl
  · obtain ⟨c, kd, el, d, m, kvs, sn, es, rfl, hc, hne, hd, hl, q⟩ := h
    obtain ⟨dx, ho⟩ := hc.ob
    obtain ⟨as, h3, h4, h5⟩ := hc.hl
    refine ⟨_, PSs.nox (pss_one (ps_expr (kBM (K := K) (pe_bm PySem.F.plainAttrs_list PySem.F.slot_list_append PySem.F.type_list_append mt_append (kFld (K := K) (pe_fld (pv 0) rfl)) (pa_cons (pv 1) pa_nil))))), ?_⟩
    walk_at "gx"
    refine r_fldAt ho T.y_Collection.cl T.a_Collection_earlier rfl ?_
    refine ⟨ty_lst h3, ?_⟩
    walk_at "gx"
    refine r_app h3 (by rw [List.length_map, h4.length]; omega) ?_
    have n1 : kd ≠ el := hc.ne.2.2
    have n2 := hc.ne.2.1
    walk_at "gx"
    refine q _ ((KpL.of_same (Same.refl H)).upd (by simp)) ⟨⟨dx, by rw [upd_ne n2]; exact ho⟩, by rw [upd_ne n1]; exact hc.hd, as ++ [d], by rw [upd_same, List.map_append]; rfl, ?_, ?_⟩
    · refine paired_app (paired_mono (fun a x ha e => ?_) h4) (.cons ?_ .nil)
      · rw [upd_ne (fun z => by rw [z, h3] at e; cases e)]; exact e
      · rw [upd_ne (fun z => by rw [z, h3] at hd; cases hd)]; exact hd
    · rw [List.mem_append, List.mem_singleton]
      exact fun z => z.elim h5 fun z => hne z.symm
/-! #### Collection.put -/
def sp_col_put (K : PySem.W.Frag) : Sp := fun vs H Q E => ∃ (c kd el : Addr) (m : Int) (kvs : List (Str × V)) (es : List (List (Str × V))) (v p : V) (b bp : Bool), vs = [.ref c, v, p] ∧ ColAt K H c kd el m kvs es ∧ NmB K H v b ∧ PolB K H p bp ∧ kvs.length < 900 ∧
  (b = false → RaisesC K H E .name) ∧ (b = true → bp = false → RaisesC K H E .polygon) ∧
  (b = true → bp = true → hasV kvs v = true → RaisesC K H E (.used v)) ∧
  (b = true → bp = true → hasV kvs v = false → m ≤ (kvs.length : Int) → RaisesC K H E (.limit ((kvs.length : Int) + 1))) ∧
  (∀ z, v = .str z → b = true → bp = true → lkS kvs z = none → (kvs.length : Int) < m → ∀ H', KpL [kd] H H' → ColAt K H' c kd el m (kvs ++ [(z, p)]) es → Q .non H')
theorem ok_Collection_put (T : Tx K mg) : FnOk Pg w K mg base (L2.CX Pg w) 4 (He.ma K (He.ga K "Collection") "put") (fdOf K (He.ma K (He.ga K "Collection") "put")) ["self", "name", "polygon"] (sp_col_put K) := by
  refine T.d_Collection_put.ok sc_Collection_put (fun vs H Q E h => ?_) (fun cdv A outer s H vs Q E hr h => ?_)
  · obtain ⟨c, kd, el, m, kvs, es, v, p, b, bp, rfl, _⟩ := h
    rfl
  · obtain ⟨c, kd, el, m, kvs, es, v, p, b, bp, rfl, hc, hv, hp, hl, q1, q2, q3, q4, q5⟩ := h
    refine ⟨_, (pss_cons (ps_expr (pe_call (ok_check_name (K := K) T) (hr.mono (by decide)) rfl T.g_check_name T.d_check_name.kp (bn_check_name T) .nil (passes_call (takes_of rfl rfl rfl rfl) (fun _ _ _ _ h => h)) (pa_cons (pv 1) pa_nil)))
      (pss_cons (ps_expr (pe_call (ok_check_polygon (K := K) T) (hr.mono (by decide)) rfl T.g_check_polygon T.d_check_polygon.kp (bn_check_polygon T) .nil (passes_call (takes_of rfl rfl rfl rfl) (fun _ _ _ _ h => h)) (pa_cons (pv 2) pa_nil)))
      (pss_cons (ps_if (pt_cmpR (kInDc hr.units1) (pv 1) (kFld (K := K) (pe_fld (pv 0) rfl)) (by rfl)) (pss_one (ps_raise rfl (takes_of rfl rfl rfl rfl) (pmk_oexG T.xg_NameInUse.o T.xg_NameInUse.i T.xg_NameInUse.t (ok_NameInUse_init (K := K) T) (hr.mono (by decide)) (bn_NameInUse_init T) .nil pass0 rfl T.g_NameInUse (pa_cons (pv 1) pa_nil)))) pss_nil)
      (pss_cons (ps_if (pt_cmpR op_ge (pe_callB call_lenDc (by rfl) T.n_len (by decide +kernel) (pa_cons (kFld (K := K) (pe_fld (pv 0) rfl)) pa_nil)) (kFld (K := K) (pe_fld (pv 0) rfl)) (nomark _)) (pss_one (ps_raise rfl (takes_of rfl rfl rfl rfl) (pmk_oexO T.x_LimitExceeded.o T.x_LimitExceeded.i T.x_LimitExceeded.t (ok_LimitExceeded_init (K := K) T) (hr.mono (by decide)) (bn_LimitExceeded_init T) .nil pass0 rfl T.g_LimitExceeded (pa_cons (pe_op op_add (pe_callB call_lenDc (by rfl) T.n_len (by decide +kernel) (pa_cons (kFld (K := K) (pe_fld (pv 0) rfl)) pa_nil)) pe_int) pa_nil)))) pss_nil)
      (pss_one (ps_asg (pv 2) (pg_sub (kFld (K := K) (pe_fld (pv 0) rfl)) (pv 1) (set_dict hr.units1)))))))), ?_⟩
    walk_at "gx"
    refine ⟨v, b, rfl, hv, fun hb H1 s1 => ?_, fun hb => fun H1 s1 => q1 hb H1 s1⟩
    subst hb
    have hc := hc.same s1
    obtain ⟨dx, ho⟩ := hc.ob
    obtain ⟨as, h3, h4, h5⟩ := hc.hl
    obtain ⟨z, rfl⟩ : ∃ z, v = .str z := by
      generalize eb : true = b at hv
      cases hv with
      | str z _ => exact ⟨z, rfl⟩
      | kind _ _ => cases eb
    have q2 := fun hbp => (q2 rfl hbp).same s1
    have q3 := fun x y => (q3 rfl x y).same s1
    have q4 := fun x y t => (q4 rfl x y t).same s1
    have hp := hp.same s1
    walk_at "gx"
    refine ⟨p, bp, rfl, hp, fun hbp => ?_, fun hbp => fun d H2 s2 hd h2 => q2 hbp d H2 s2 hd h2⟩
    walk_at "gx"
    refine r_fldAt ho T.y_Collection.cl T.a_Collection_kept rfl ?_
    refine r_inDc (k := Sum.inr z) hc.hd ?_
    walk_at "gx"
    show (if (lkS kvs z).isSome = true then _ else _)
    by_cases hin : (lkS kvs z).isSome = true
    · rw [if_pos hin]
      unfold tMkO
      walk_at "gx"
      exact ⟨by simp, r_mkX1 fun d H2 s2 hd h2 => q3 hbp hin d H2 s2 hd h2⟩
    rw [if_neg hin]
    have hno : lkS kvs z = none := by
      cases e : lkS kvs z with
      | none => rfl
      | some _ => rw [e] at hin; exact absurd rfl hin
    walk_at "gx"
    refine r_fldAt ho T.y_Collection.cl T.a_Collection_kept rfl ?_
    walk_at "gx"
    refine r_lenDc hc.hd ?_
    rw [List.length_map]
    walk_at "gx"
    refine r_fldAt ho T.y_Collection.cl T.a_Collection_most rfl ?_
    walk_at "gx"
    refine r_dec (fun hm => ?_) (fun hm => ?_)
    · walk_at "gx"
      unfold tMkO
      walk_at "gx"
      refine r_fldAt ho T.y_Collection.cl T.a_Collection_kept rfl ?_
      walk_at "gx"
      refine r_lenDc hc.hd ?_
      rw [List.length_map]
      walk_at "gx"
      refine ⟨by simp, ?_⟩
      exact r_mkX1 fun d H2 s2 hd h2 => q4 hbp (Bool.eq_false_iff.mpr hin) hm d H2 s2 hd h2
    · walk_at "gx"
      refine r_fldAt ho T.y_Collection.cl T.a_Collection_kept rfl ?_
      walk_at "gx"
      refine r_setDc (k := Sum.inr z) hc.hd (by rw [List.length_map]; omega) ?_
      rw [putS_new hno]
      walk_at "gx"
      obtain ⟨n1, n2, n3⟩ := hc.ne
      refine q5 z rfl rfl hbp hno (by omega) _ ((KpL.of_same s1).trans ((KpL.of_same (Same.refl _)).upd (by simp))) ⟨⟨dx, by rw [upd_ne n1]; exact ho⟩, upd_same, as, by rw [upd_ne n3.symm]; exact h3, paired_mono (fun a d ha e => ?_) h4, h5⟩
      rw [upd_ne (fun w => h5 (by rw [← w]; exact ha))]
      exact e
/-! #### Collection.drop -/
def sp_col_drop (K : PySem.W.Frag) : Sp := fun vs H Q E => ∃ (c kd el : Addr) (m : Int) (kvs : List (Str × V)) (es : List (List (Str × V))) (v : V) (b : Bool), vs = [.ref c, v] ∧ ColAt K H c kd el m kvs es ∧ NmB K H v b ∧ ((b && hasV kvs v) = false → RaisesC K H E (.unknown v)) ∧
  (∀ z, v = .str z → (b && hasV kvs v) = true → ∀ H', KpL [kd] H H' → ColAt K H' c kd el m (dropS kvs z) es → Q .non H')
theorem ok_Collection_drop (T : Tx K mg) : FnOk Pg w K mg base (L2.CX Pg w) 4 (He.ma K (He.ga K "Collection") "drop") (fdOf K (He.ma K (He.ga K "Collection") "drop")) ["self", "name"] (sp_col_drop K) := by
  refine T.d_Collection_drop.ok sc_Collection_drop (fun vs H Q E h => ?_) (fun cdv A outer s H vs Q E hr h => ?_)
  · obtain ⟨c, kd, el, m, kvs, es, v, b, rfl, _⟩ := h
    rfl
  · obtain ⟨c, kd, el, m, kvs, es, v, b, rfl, hc, hv, q1, q2⟩ := h
    obtain ⟨dx, ho⟩ := hc.ob
    refine ⟨_, (pss_cons (ps_expr (pe_methA (pv 0) T.y_Collection.cl T.m_Collection_check_known (FnOk.raw (ok_Collection_check_known (K := K) T) (bn_Collection_check_known T) .nil) (hr.mono (by decide)) (passAll (passes_call (takes_of rfl rfl rfl rfl) (fun _ _ _ _ h => h))) (pa_cons (pv 1) pa_nil)))
      (pss_one (ps_ddel (kFld (K := K) (pe_fld (pv 0) rfl)) (pv 1)))), ?_⟩
    walk_at "gx"
    refine ⟨c, dx, _, rfl, ho, rfl, ?_⟩
    walk_at "gx"
    refine ⟨c, kd, el, m, kvs, es, v, b, rfl, hc, hv, fun hb H1 s1 => ?_, q1⟩
    have hc := hc.same s1
    obtain ⟨dx, ho⟩ := hc.ob
    obtain ⟨as, h3, h4, h5⟩ := hc.hl
    walk_at "gx"
    obtain ⟨z, rfl⟩ : ∃ z, v = .str z := by
      cases v <;> first | exact ⟨_, rfl⟩ | (rw [show hasV kvs _ = false from rfl, Bool.and_false] at hb; cases hb)
    dsimp only
    refine r_ddel ?_
    walk_at "gx"
    refine r_fldAt ho T.y_Collection.cl T.a_Collection_kept rfl ?_
    walk_at "gx"
    have hs : (lkS kvs z).isSome = true := (Bool.and_eq_true _ _ ▸ hb).2
    refine ⟨kd, _, Sum.inr z, rfl, hc.hd, rfl, hs, ?_⟩
    rw [dropS_eq]
    obtain ⟨n1, n2, n3⟩ := hc.ne
    refine q2 z rfl hb _ ((KpL.of_same s1).trans ((KpL.of_same (Same.refl _)).upd (by simp))) ⟨⟨dx, by rw [upd_ne n1]; exact ho⟩, upd_same, as, by rw [upd_ne n3.symm]; exact h3, paired_mono (fun a d ha e => ?_) h4, h5⟩
    rw [upd_ne (fun w => h5 (by rw [← w]; exact ha))]
    exact e

/-! #### Collection.call -/
def sp_col_call (_ : PySem.W.Frag) : Sp := fun _ _ _ _ => False
theorem ok_Collection_call (T : Tx K mg) : FnOk Pg w K mg base (L2.CX Pg w) 4 (He.ma K (He.ga K "Collection") "call") (fdOf K (He.ma K (He.ga K "Collection") "call")) ["self", "old", "new"] (sp_col_call K) := by
  refine T.d_Collection_call.ok sc_Collection_call (fun vs H Q E h => ?_) (fun cdv A outer s H vs Q E hr h => ?_)
  · exact h.elim
  · exact h.elim
/-! #### Collection.carry -/
def sp_col_carry (_ : PySem.W.Frag) : Sp := fun _ _ _ _ => False
theorem ok_Collection_carry (T : Tx K mg) : FnOk Pg w K mg base (L2.CX Pg w) 11 (He.ma K (He.ga K "Collection") "carry") (fdOf K (He.ma K (He.ga K "Collection") "carry")) ["self", "name", "grid_map"] (sp_col_carry K) := by
  refine T.d_Collection_carry.ok sc_Collection_carry (fun vs H Q E h => ?_) (fun cdv A outer s H vs Q E hr h => ?_)
  · exact h.elim
  · exact h.elim
/-! #### Collection.perform -/
def sp_col_perform (K : PySem.W.Frag) : Sp := fun vs H Q E => ∃ (c t : Addr) (v p : V), vs = [.ref c, .ref t] ∧ H t = some (.tup [.str "add", v, p]) ∧ sp_col_put K [.ref c, v, p] H Q E
theorem ok_Collection_perform (T : Tx K mg) : FnOk Pg w K mg base (L2.CX Pg w) 12 (He.ma K (He.ga K "Collection") "perform") (fdOf K (He.ma K (He.ga K "Collection") "perform")) ["self", "action"] (sp_col_perform K) := by
  refine T.d_Collection_perform.ok sc_Collection_perform (fun vs H Q E h => ?_) (fun cdv A outer s H vs Q E hr h => ?_)
  · obtain ⟨c, t, v, p, rfl, _⟩ := h
    rfl
  · obtain ⟨c, t, v, p, rfl, ht, q⟩ := h
    have q0 := q
    obtain ⟨c', kd, el, m, kvs, es, v', p', b, bp, e0, hc, _⟩ := q
    cases e0
    obtain ⟨dx, ho⟩ := hc.ob
    refine ⟨_, (pss_one (kMatch (K := K) (ps_match rfl sc_Collection_perform.nd (pv 1) (.cons (.cons (.lit _ _ _ _) (.cons (.cap _ 2 _ ⟨rfl, Or.inl rfl, Or.inr rfl⟩) (.cons (.cap _ 3 _ ⟨rfl, Or.inl rfl, Or.inr rfl⟩) .nil))) (pss_one (ps_expr (pe_methA (pv 0) T.y_Collection.cl T.m_Collection_put (FnOk.raw (ok_Collection_put (K := K) T) (bn_Collection_put T) .nil) (hr.mono (by decide)) (passAll (passes_call (takes_of rfl rfl rfl rfl) (fun _ _ _ _ h => h))) (pa_cons (pv 2) (pa_cons (pv 3) pa_nil))))) rfl rfl (.cons (.cons (.lit _ _ _ _) (.cons (.cap _ 2 _ ⟨rfl, Or.inl rfl, Or.inr rfl⟩) .nil)) (pss_one (ps_expr (pe_methA (pv 0) T.y_Collection.cl T.m_Collection_drop (FnOk.raw (ok_Collection_drop (K := K) T) (bn_Collection_drop T) .nil) (hr.mono (by decide)) (passAll (passes_call (takes_of rfl rfl rfl rfl) (fun _ _ _ _ h => h))) (pa_cons (pv 2) pa_nil)))) rfl rfl (.cons (.cons (.lit _ _ _ _) (.cons (.cap _ 4 _ ⟨rfl, Or.inl rfl, Or.inr rfl⟩) (.cons (.cap _ 5 _ ⟨rfl, Or.inl rfl, Or.inr rfl⟩) .nil))) (pss_one (ps_expr (pe_methA (pv 0) T.y_Collection.cl T.m_Collection_call (FnOk.raw (ok_Collection_call (K := K) T) (bn_Collection_call T) .nil) (hr.mono (by decide)) (passAll (passes_call (takes_of rfl rfl rfl rfl) (fun _ _ _ _ h => h))) (pa_cons (pv 4) (pa_cons (pv 5) pa_nil))))) rfl rfl (.cons (.cons (.cap _ 6 _ ⟨rfl, Or.inl rfl, Or.inr rfl⟩) (.cons (.cap _ 2 _ ⟨rfl, Or.inl rfl, Or.inr rfl⟩) (.cons (.cap _ 7 _ ⟨rfl, Or.inl rfl, Or.inr rfl⟩) .nil))) (pss_one (ps_expr (pe_methA (pv 0) T.y_Collection.cl T.m_Collection_carry (FnOk.raw (ok_Collection_carry (K := K) T) (bn_Collection_carry T) .nil) (hr.mono (by decide)) (passAll (passes_call (takes_of rfl rfl rfl rfl) (fun _ _ _ _ h => h))) (pa_cons (pv 2) (pa_cons (pv 7) pa_nil))))) rfl rfl .nil))))))), ?_⟩
    walk_at "gx"
    show tVar 1 _ _ _
    walk_at "gx"
    refine ⟨t, _, rfl, SqT.of ht, ?_⟩
    simp only [goM, fitM, litsOk]
    rw [if_pos (by rfl), if_pos trivial]
    refine ⟨⟨⟨_, rfl⟩, trivial⟩, ?_⟩
    simp only [Option.map_some, setM]
    walk_at "gx"
    refine ⟨c, dx, _, rfl, ho, rfl, ?_⟩
    walk_at "gx"
    exact q0
/-! #### Collection.change -/
def AddP (K : PySem.W.Frag) (H : Hp) (Q : VK) (E : XK) (c : Addr) (z : Str) (p : V) : Prop := ∃ (kd el : Addr) (m : Int) (kvs : List (Str × V)) (es : List (List (Str × V))), ColAt K H c kd el m kvs es ∧ z.length ≤ 1000 ∧ isNm z = true ∧ PolB K H p true ∧ kvs.length < 900 ∧ es.length < 1000 ∧ lkS kvs z = none ∧
  (m ≤ (kvs.length : Int) → RaisesC K H E (.limit ((kvs.length : Int) + 1))) ∧
  ((kvs.length : Int) < m → ∀ H', KpL [kd, el] H H' → ColAt K H' c kd el m (kvs ++ [(z, p)]) (es ++ [kvs]) → Q .non H')
def sp_col_change (K : PySem.W.Frag) : Sp := fun vs H Q E => ∃ (c t : Addr) (z : Str) (p : V), vs = [.ref c, .ref t] ∧ H t = some (.tup [.str "add", .str z, p]) ∧ AddP K H Q E c z p
theorem ok_Collection_change (T : Tx K mg) : FnOk Pg w K mg base (L2.CX Pg w) 13 (He.ma K (He.ga K "Collection") "change") (fdOf K (He.ma K (He.ga K "Collection") "change")) ["self", "action"] (sp_col_change K) := by
  refine T.d_Collection_change.ok sc_Collection_change (fun vs H Q E h => ?_) (fun cdv A outer s H vs Q E hr h => ?_)
  · obtain ⟨c, t, z, p, rfl, _⟩ := h
    rfl
  · obtain ⟨c, t, z, p, rfl, ht, kd, el, m, kvs, es, hc, hz, hn, hp, hl, hle, hk, q1, q2⟩ := h
    obtain ⟨dx, ho⟩ := hc.ob
    refine ⟨_, (pss_cons (ps_set (i := 2) sc_Collection_change.nd rfl (Or.inl rfl) (pe_callTy kDictD (by rfl) T.n_dict (by decide +kernel) (pa_cons (kFld (K := K) (pe_fld (pv 0) rfl)) pa_nil)))
      (pss_cons (ps_expr (pe_methA (pv 0) T.y_Collection.cl T.m_Collection_perform (FnOk.raw (ok_Collection_perform (K := K) T) (bn_Collection_perform T) .nil) (hr.mono (by decide)) (passAll (passes_call (takes_of rfl rfl rfl rfl) (fun _ _ _ _ h => h))) (pa_cons (pv 1) pa_nil)))
      (pss_one (ps_expr (pe_methA (pv 0) T.y_Collection.cl T.m_Collection_remember (FnOk.raw (ok_Collection_remember (K := K) T) (bn_Collection_remember T) .nil) (hr.mono (by decide)) (passAll pass0) (pa_cons (pv 2) pa_nil)))))), ?_⟩
    walk_at "gx"
    refine r_fldAt ho T.y_Collection.cl T.a_Collection_kept rfl ?_
    walk_at "gx"
    refine r_dictD hc.hd fun d hd => ?_
    generalize e1 : upd H d _ = H1
    obtain ⟨s1, g1⟩ := fresh hd e1
    obtain ⟨n1, n2, n3⟩ := hc.ne
    have nd : d ≠ kd := fun w => by rw [w, hc.hd] at hd; cases hd
    walk_at "gx"
    refine ⟨c, dx, _, rfl, s1 _ _ ho, rfl, ?_⟩
    walk_at "gx"
    refine ⟨c, t, .str z, p, rfl, s1 _ _ ht, c, kd, el, m, kvs, es, .str z, p, true, true, rfl, hc.same s1, hn ▸ .str z hz, hp.same s1, hl, fun w => (by cases w), fun _ w => (by cases w), fun _ _ w => ?_, fun _ _ _ w => (q1 w).same s1, fun z' ez _ _ hk' hm H2 k2 c2 => ?_⟩
    · rw [show hasV kvs (.str z) = (lkS kvs z).isSome from rfl, hk] at w; cases w
    · cases ez
      obtain ⟨dx2, ho2⟩ := c2.ob
      walk_at "gx"
      refine ⟨c, dx2, _, rfl, ho2, rfl, ?_⟩
      walk_at "gx"
      refine ⟨c, kd, el, d, m, kvs ++ [(z, p)], kvs, es, rfl, c2, nd, k2 _ _ (by simpa using nd) g1, hle, fun H3 k3 c3 => ?_⟩
      walk_at "gx"
      exact q2 hm H3 ((KpL.of_same s1).trans ((k2.mono (by simp)).trans (k3.mono (by simp)))) c3
/-! #### Collection.add -/
def sp_col_add (K : PySem.W.Frag) : Sp := fun vs H Q E => ∃ (c : Addr) (z : Str) (p : V), vs = [.ref c, .str z, p] ∧ AddP K H Q E c z p
theorem ok_Collection_add (T : Tx K mg) : FnOk Pg w K mg base (L2.CX Pg w) 14 (He.ma K (He.ga K "Collection") "add") (fdOf K (He.ma K (He.ga K "Collection") "add")) ["self", "name", "polygon"] (sp_col_add K) := by
  refine T.d_Collection_add.ok sc_Collection_add (fun vs H Q E h => ?_) (fun cdv A outer s H vs Q E hr h => ?_)
  · obtain ⟨c, z, p, rfl, _⟩ := h
    rfl
  · obtain ⟨c, z, p, rfl, kd, el, m, kvs, es, hc, hz, hn, hp, hl, hle, hk, q1, q2⟩ := h
    obtain ⟨dx, ho⟩ := hc.ob
    refine ⟨_, (pss_one (ps_expr (pe_methA (pv 0) T.y_Collection.cl T.m_Collection_change (FnOk.raw (ok_Collection_change (K := K) T) (bn_Collection_change T) .nil) (hr.mono (by decide)) (passAll (passes_call (takes_of rfl rfl rfl rfl) (fun _ _ _ _ h => h))) (pa_cons (pe_tup (pa_cons pe_str (pa_cons (pv 1) (pa_cons (pv 2) pa_nil)))) pa_nil)))), ?_⟩
    walk_at "gx"
    refine ⟨c, dx, _, rfl, ho, rfl, ?_⟩
    walk_at "gx"
    refine r_new fun t ht => ?_
    generalize e1 : upd H t _ = H1
    obtain ⟨s1, g1⟩ := fresh ht e1
    walk_at "gx"
    refine ⟨c, t, z, p, rfl, g1, kd, el, m, kvs, es, hc.same s1, hz, hn, hp.same s1, hl, hle, hk, fun h => (q1 h).same s1, fun h H2 k2 c2 => ?_⟩
    walk_at "gx"
    exact q2 h H2 ((KpL.of_same s1).trans k2) c2
/-! #### Collection.undo -/
def sp_col_undo (K : PySem.W.Frag) : Sp := fun vs H Q _ => ∃ (c kd el : Addr) (m : Int) (kvs sn : List (Str × V)) (es : List (List (Str × V))), vs = [.ref c, .int 1] ∧ ColAt K H c kd el m kvs (es ++ [sn]) ∧ es.length < 1000 ∧ ∀ ke H', KpL [c, el] H H' → H ke = none → ColAt K H' c ke el m sn es → Q .non H'
theorem ok_Collection_undo (T : Tx K mg) : FnOk Pg w K mg base (L2.CX Pg w) 2 (He.ma K (He.ga K "Collection") "undo") (fdOf K (He.ma K (He.ga K "Collection") "undo")) ["self", "number"] (sp_col_undo K) := by
  refine T.d_Collection_undo.ok sc_Collection_undo (fun vs H Q E h => ?_) (fun cdv A outer s H vs Q E hr h => ?_)
  · obtain ⟨c, kd, el, m, kvs, sn, es, rfl, _⟩ := h
    rfl
  · obtain ⟨c, kd, el, m, kvs, sn, es, rfl, hc, hl, q⟩ := h
    obtain ⟨dx, ho⟩ := hc.ob
    obtain ⟨as, h3, h4, h5⟩ := hc.hl
    refine ⟨_, (pss_cons (ps_if (PW.pt (pw_or (pt_not (pt_val (pe_call (ok_is_integer (K := K) T) (hr.mono (by decide)) rfl T.g_is_integer T.d_is_integer.kp (bn_is_integer T) .nil pass0 (pa_cons (pv 1) pa_nil)))) (pw_or1 (pt_not (pt_chain op_le op_le pe_int (pv 1) (pe_callB (kLen (K := K)) (by rfl) T.n_len (by decide +kernel) (pa_cons (kFld (K := K) (pe_fld (pv 0) rfl)) pa_nil))))))) (pss_one (ps_raise rfl (takes_of rfl rfl rfl rfl) (pmk_own PySem.F.excBase_LookupError T.x_NothingToUndo.x T.g_NothingToUndo T.x_NothingToUndo.k (raises_own T.x_NothingToUndo.b T.x_NothingToUndo.t) rfl))) pss_nil)
      (pss_cons (kSFld (K := K) (ps_fld (pv 0) (pe_callTy kDictD (by rfl) T.n_dict (by decide +kernel) (pa_cons (pe_ix (kIxL (K := K)) (kFld (K := K) (pe_fld (pv 0) rfl)) (pe_un un_neg (pv 1)) (fun _ _ => rfl)) pa_nil)) rfl))
      (pss_one (ps_delTl (kFld (K := K) (pe_fld (pv 0) rfl)) (po_some (pe_un un_neg (pv 1))))))), ?_⟩
    walk_at "gx"
    refine ⟨_, _, rfl, .int 1, ?_⟩
    refine ⟨_, rfl, ?_⟩
    rw [if_neg (by decide)]
    unfold tChain
    walk_at "gx"
    refine r_dec (fun _ => ?_) (fun w => absurd (by decide) w)
    walk_at "gx"
    refine r_fldAt ho T.y_Collection.cl T.a_Collection_earlier rfl ?_
    walk_at "gx"
    refine r_lenL (SqL.of h3) ?_
    have hla : as.length = es.length + 1 := by rw [h4.length, List.length_append]; rfl
    rw [List.length_map]
    refine ⟨1, _, rfl, rfl, ?_⟩
    refine ⟨_, rfl, ?_⟩
    rw [decide_eq_true (by omega : (1 : Int) ≤ (as.length : Int)), if_neg (by decide)]
    obtain ⟨us, u, rfl, h4, hu⟩ := paired_snoc h4
    rw [List.map_append] at h3
    walk_at "gx"
    refine r_fldAt ho T.y_Collection.cl T.a_Collection_earlier rfl ?_
    walk_at "gx"
    refine r_ixL (SqL.of h3) (atI_last _ _) ?_
    walk_at "gx"
    refine r_dictD hu fun ke hke => ?_
    generalize e1 : upd H ke _ = H1
    obtain ⟨s1, g1⟩ := fresh hke e1
    walk_at "gx"
    refine ⟨c, _, dx, _, rfl, s1 _ _ ho, T.y_Collection.cl, T.a_Collection_kept, by simp, ?_⟩
    rw [putF_k]
    obtain ⟨n1, n2, n3⟩ := hc.ne
    have nc : ke ≠ c := fun w => by rw [w, ho] at hke; cases hke
    have ne : ke ≠ el := fun w => by rw [w, h3] at hke; cases hke
    have nu : ∀ a o, H a = some o → ke ≠ a := fun a o e w => by rw [w, e] at hke; cases hke
    generalize e2 : upd H1 c _ = H2
    have hc2 : H2 c = some (.ins (He.ga K "Collection") dx [("most", .int m), ("kept", .ref ke), ("earlier", .ref el)]) := e2 ▸ upd_same
    have k2 : Kp c H1 H2 := e2 ▸ (Kp.refl c H1).put
    have g2 := k2 _ _ nc g1
    have h32 := k2 _ _ n2.symm (s1 _ _ h3)
    walk_at "gx"
    dsimp only
    refine r_delTl ?_
    walk_at "gx"
    refine r_fldAt hc2 T.y_Collection.cl T.a_Collection_earlier rfl ?_
    walk_at "gx"
    refine ⟨el, _, 1, rfl, rfl, h32, by decide, by simp, ?_⟩
    have e3 : (List.map V.ref us ++ List.map V.ref [u]).take ((List.map V.ref us).length + (List.map V.ref [u]).length - 1) = us.map V.ref := by
      rw [show (List.map V.ref [u]).length = 1 from rfl, Nat.add_sub_cancel, List.take_left' rfl]
    rw [List.length_append, e3]
    show Q V.non _
    refine q ke _ ((KpL.of_same s1).trans (((KpL.of_kp k2).mono (by simp)).trans ((KpL.of_same (Same.refl _)).upd (by simp)))) hke ⟨⟨dx, by rw [upd_ne n2]; exact hc2⟩, by rw [upd_ne ne]; exact g2, us, upd_same, paired_mono (fun a d ha e => ?_) h4, ?_⟩
    · have na1 : a ≠ c := fun w => by rw [w, ho] at e; cases e
      have na2 : a ≠ el := fun w => by rw [w, h3] at e; cases e
      rw [upd_ne na2]
      exact k2 _ _ na1 (s1 _ _ e)
    · intro w
      exact paired_none hke h4 w
/-! #### _law_pool -/
def sp_law_draws (K : PySem.W.Frag) : Sp := fun vs H Q _ => ∃ (a : Addr) (ns : List Int) (k : Int), vs = [.ref a, .int k] ∧ SqL K H a (ns.map V.int) ∧ ns.length ≤ 63 ∧ 0 ≤ k ∧ k < 2 ^ 40 ∧ ∀ p H', H p = none → Same H H' → DrAt H' p → Q (.ref p) H'
theorem ok_law_pool (T : Tx K mg) : FnOk Pg w K mg base CX0 1 (He.ga K "_law_pool") (fdOf K (He.ga K "_law_pool")) ["_law_script", "_law_k"] (sp_law_draws K) := by
  refine T.d_law_pool.ok sc_law_pool (fun vs H Q E h => ?_) (fun cdv A outer s H vs Q E hr h => ?_)
  · obtain ⟨a, ns, k, rfl, _⟩ := h
    rfl
  · obtain ⟨a, ns, k, rfl, hS, hlen, hk0, hk1, q⟩ := h
    refine ⟨_, PSs.nox (pss_cons (ps_set (i := 2) sc_law_pool.nd rfl (Or.inl rfl) pe_int)
      (Evl.pss_cut (ps_if (pt_cmpR (kNeD (K := K) hr.units) (pv 0) (pe_lst pa_nil) (nomark _)) (pss_one (ps_set (i := 2) sc_law_pool.nd rfl (Or.inl rfl) (pe_ix (kIxL (K := K)) (pv 0) (pe_op op_mod (pv 1) (pe_callB (kLen (K := K)) (by rfl) T.n_len (by decide +kernel) (pa_cons (pv 0) pa_nil))) (fun _ _ => rfl)))) pss_nil)
      (pss_cons (ps_set (i := 3) sc_law_pool.nd rfl (Or.inl rfl) (pe_op op_mod (pe_op op_mulA (pe_op op_add (pe_op op_add (pe_op op_mod (pv 2) pe_int) (pe_op op_mulA pe_int (pv 1))) pe_int) pe_int) pe_int))
      (pss_one (ps_ret (pe_lst (pa_cons (pe_op op_mulA (pe_callB cAbs (by rfl) T.n_abs (by decide +kernel) (pa_cons (pv 2) pa_nil)) (pe_callTy cInt1 (by rfl) T.n_int (by decide +kernel) (pa_cons (pe_cmpR op_ge (pe_callB cAbs (by rfl) T.n_abs (by decide +kernel) (pa_cons (pv 2) pa_nil)) (pe_op op_pow pe_int pe_int) (nomark _)) pa_nil))) (pa_cons (pv 3) pa_nil)))))))), ?_⟩
    walk_at "gx"
    refine r_cut (fun σ' H' => Same H H' ∧ ∃ c, σ' = [some (.ref a), some (.int k), some (.int c), none]) ?_ ?_
    · walk_at "gx"
      refine r_new fun p0 hp0 => ?_
      have s0 : Same H (upd H p0 (.lst [])) := same_new (Same.refl H) hp0
      have hS0 := s0.seq hS
      refine r_neH (α := List Int) (hd_list hS0 (hds_ints ns)) (hd_list (SqL.of upd_same) hds_nil) ?_
      walk_at "gx"
      refine r_ndec (fun h => ?_) (fun h => ?_)
      · walk_at "gx"
        refine r_lenL hS0 ?_
        have hpos : 0 < ns.length := List.length_pos_iff.mpr h
        rw [List.length_map]
        walk_at "gx"
        refine r_I (by show (0 : Int) < (ns.length : Int); omega) ?_
        have h1 := Int.emod_nonneg k (b := (ns.length : Int)) (by omega)
        have h2 := Int.emod_lt_of_pos k (b := (ns.length : Int)) (by omega)
        obtain ⟨j, hj⟩ : ∃ j : Nat, k % (ns.length : Int) = (j : Int) := ⟨(k % (ns.length : Int)).toNat, by omega⟩
        rw [hj] at h1 h2 ⊢
        have hj' : j < ns.length := by omega
        refine r_ixL hS0 (at_of (j := j) rfl (by rw [List.getElem?_map, List.getElem?_eq_getElem hj']; rfl)) ?_
        walk_at "gx"
        exact ⟨s0, _, rfl⟩
      · walk_at "gx"
        exact ⟨s0, _, rfl⟩
    · rintro σ' H1 ⟨s1, c, rfl⟩
      walk_at "gx"
      refine r_I (by decide) ?_
      walk_at "gx"
      refine r_I (mul_okL (by decide) (by decide)) ?_
      walk_at "gx"
      refine r_I (mul_okR (by decide) (by decide)) ?_
      walk_at "gx"
      refine r_I (by decide) ?_
      walk_at "gx"
      refine r_I ⟨by decide, by decide, by decide⟩ ?_
      walk_at "gx"
      refine r_I (mul_okR (by split <;> decide) (by split <;> decide)) ?_
      walk_at "gx"
      refine r_new fun p hp => ?_
      exact q p _ (s1.free hp) (same_new s1 hp) ⟨_, _, upd_same, Int.mul_nonneg (by omega) (by split <;> decide), Int.emod_nonneg _ (by decide), Int.emod_lt_of_pos _ (by decide)⟩
/-! #### _law_take -/
def sp_law_draw : Sp := fun vs H Q _ => ∃ (l : Addr) (n : Int), vs = [.ref l, .int n] ∧ DrAt H l ∧ 0 < n ∧ n < 2 ^ 200 ∧ ∀ d H', 0 ≤ d → d < n → Kp l H H' → DrAt H' l → Q (.int d) H'
theorem ok_law_take (T : Tx K mg) : FnOk Pg w K mg base CX0 1 (He.ga K "_law_take") (fdOf K (He.ga K "_law_take")) ["_law_pool_here", "_law_bound"] (sp_law_draw) := by
  refine T.d_law_take.ok sc_law_take (fun vs H Q E h => ?_) (fun cdv A outer s H vs Q E hr h => ?_)
  · obtain ⟨l, n, rfl, _⟩ := h
    rfl
  · obtain ⟨l, n, rfl, ⟨a, b, hl, ha, hb, hb2⟩, hn, hn2, k⟩ := h
    refine ⟨_, PSs.nox (pss_cons (ps_if (pt_cmpR op_gt (pe_ix (kIxL (K := K)) (pv 0) pe_int (fun _ _ => rfl)) pe_int (nomark _)) (pss_cons (ps_set (i := 2) sc_law_take.nd rfl (Or.inl rfl) (pe_op op_mod (pe_ix (kIxL (K := K)) (pv 0) pe_int (fun _ _ => rfl)) (pv 1)))
      (pss_cons (ps_asg (pe_op op_fdivW (pe_ix (kIxL (K := K)) (pv 0) pe_int (fun _ _ => rfl)) (pv 1)) (pg_sub (pv 0) pe_int set_list))
      (pss_one (ps_ret (pv 2))))) pss_nil)
      (pss_cons (ps_asg (pe_op op_mod (pe_op op_add (pe_op op_mulA (pe_ix (kIxL (K := K)) (pv 0) pe_int (fun _ _ => rfl)) pe_int) pe_int) pe_int) (pg_sub (pv 0) pe_int set_list))
      (pss_one (ps_ret (pe_op op_mod (pe_op op_fdivW (pe_op op_mod (pe_op op_mulA (pe_ix (kIxL (K := K)) (pv 0) pe_int (fun _ _ => rfl)) (pe_ix (kIxL (K := K)) (pv 0) pe_int (fun _ _ => rfl))) pe_int) pe_int) (pv 1)))))), ?_⟩
    walk_at "gx"
    refine r_dec (fun ha0 => ?_) (fun ha0 => ?_)
    · walk_at "gx"
      refine r_I hn ?_
      walk_at "gx"
      refine r_I (wide_div hn (b := 200) (by omega) (by decide) (by decide)) ?_
      walk_at "gx"
      refine r_setL hl rfl ?_
      walk_at "gx"
      refine k _ _ (Int.emod_nonneg _ (by omega)) (Int.emod_lt_of_pos _ hn) (Kp.refl l H).put ⟨_, _, upd_same, Int.ediv_nonneg ha (by omega), hb, hb2⟩
    · walk_at "gx"
      refine r_I (mul_okL (by omega) (by omega)) ?_
      walk_at "gx"
      refine r_I (by decide) ?_
      walk_at "gx"
      refine r_setL hl rfl ?_
      have h1 := Int.emod_nonneg (b * 48271 + 11) (b := 2147483647) (by decide)
      have h2 := Int.emod_lt_of_pos (b * 48271 + 11) (b := 2147483647) (by decide)
      generalize (b * 48271 + 11) % 2147483647 = c at h1 h2 ⊢
      have hl2 : upd H l (.lst [.int a, .int c]) l = some (.lst [.int a, .int c]) := upd_same
      walk_at "gx"
      refine r_I (mul_okL (by omega) (by omega)) ?_
      walk_at "gx"
      refine r_I (by decide) ?_
      walk_at "gx"
      refine r_I (wide_div (by decide) (b := 200) (by decide) (by decide) (by decide)) ?_
      walk_at "gx"
      refine r_I hn ?_
      refine k _ _ (Int.emod_nonneg _ (by omega)) (Int.emod_lt_of_pos _ hn) (Kp.refl l H).put ⟨_, _, hl2, ha, h1, h2⟩

/-! #### the shapes that the law moves -/
def goodB (ps : List Pt) : Bool := (List.range ps.length).all fun i => decide (tri0 ps i ≠ 0) && (List.range ps.length).all fun j => decide (j < i + 2) || !crossB ps i j
theorem goodB_ok {ps : List Pt} (h : goodB ps = true) : Good ps := by
  unfold goodB at h
  rw [List.all_eq_true] at h
  refine ⟨fun i hi => ?_, fun i j hij hj => ?_⟩
  · have := h i (List.mem_range.mpr hi)
    rw [Bool.and_eq_true] at this
    exact of_decide_eq_true this.1
  · have := h i (List.mem_range.mpr (by omega))
    rw [Bool.and_eq_true, List.all_eq_true] at this
    have := this.2 j (List.mem_range.mpr hj)
    rw [decide_eq_false (by omega), Bool.false_or] at this
    simpa using this
def shpA : List (List Pt) := [[(0, 0), (2, 0), (0, 1)], [(0, 0), (3, 0), (1, 1), (0, 3)], [(0, 0), (1, 0), (1, 1), (0, 1)]]
def shpB : List (List Pt) := [[(0, 0), (5, 2), (2, 1)], [(0, 0), (4, 0), (3, 2), (0, 1)], [(0, 0), (2, 0), (0, 2)]]
def okShp (ps : List Pt) : Bool := goodB ps && (decide (3 ≤ ps.length) && (decide (ps.length ≤ 60) && ((ps.all fun p => decide (p.1.natAbs < 8) && decide (p.2.natAbs < 8)) &&
  ((reflex (arr ps)).isSome || (decide (arr (arr ps) = arr ps) && ((List.range (arr ps).length).all (fun i => decide (0 < tri0 (arr ps) i)) && decide (0 < G.are (arr ps))))))))
theorem shp_all : (shpA ++ shpB).all okShp = true := by decide +kernel
structure Shp (ps : List Pt) : Prop where
  good : Good ps
  h3 : 3 ≤ ps.length
  h60 : ps.length ≤ 60
  bd : AllBd 1000 ps
  cv : reflex (arr ps) ≠ none ∨ (arr (arr ps) = arr ps ∧ (∀ i, i < (arr ps).length → 0 < tri0 (arr ps) i) ∧ 0 < G.are (arr ps))
theorem okShp_ok {ps : List Pt} (h : okShp ps = true) : Shp ps := by
  unfold okShp at h
  simp only [Bool.and_eq_true, Bool.or_eq_true, List.all_eq_true, decide_eq_true_eq, List.mem_range] at h
  obtain ⟨h1, h2, h3, h4, h5⟩ := h
  refine ⟨goodB_ok h1, h2, h3, fun p hp => ⟨Nat.lt_of_lt_of_le (h4 p hp).1 (by decide), Nat.lt_of_lt_of_le (h4 p hp).2 (by decide)⟩, h5.imp (fun z w => ?_) id⟩
  rw [w] at z; cases z
theorem shp_at {d : Int} {ps : List Pt} (h : atI (shpA ++ shpB) d = some ps) : Shp ps := by
  refine okShp_ok (List.all_eq_true.mp shp_all ps ?_)
  obtain ⟨j, _, h2, _⟩ := atI_get h
  exact List.mem_of_getElem? h2
/-- readings of constants -/
class BldE {α : Type} [DecidableEq α] [PySem.W.Datum α] [PySem.W.SomeDatum α] (K : PySem.W.Frag) (te : TE) (x : outParam α) : Prop where
  h : ∀ {σ : L2.St} {H : Hp} {Q : VK}, (∀ v H', Same H H' → Hd K H' v x → Q v H') → te σ H Q
class BldA {α : Type} [DecidableEq α] [PySem.W.Datum α] [PySem.W.SomeDatum α] (K : PySem.W.Frag) (ta : TA) (xs : outParam (List α)) : Prop where
  h : ∀ {σ : L2.St} {H : Hp} {Q : List V → Hp → Prop}, (∀ vs H', Same H H' → Hds K H' vs xs → Q vs H') → ta σ H Q
  l : xs.length ≤ 100
section
variable {K : PySem.W.Frag} {α : Type} [DecidableEq α] [PySem.W.Datum α] [PySem.W.SomeDatum α] [Lay α]
theorem bA_nil : BldA K tNil ([] : List α) := ⟨fun q => q [] _ (Same.refl _) hds_nil, Nat.zero_le _⟩
theorem bA_cons {te : TE} {ta : TA} {x : α} {xs : List α} (h1 : BldE K te x) (h2 : BldA K ta xs) (hl : xs.length < 100) : BldA K (tCons te ta) (x :: xs) :=
  ⟨fun q => h1.h fun v H1 s1 d1 => h2.h fun vs H2 s2 d2 => q _ H2 (s1.trans s2) (hds_cons (d1.same s2) d2), hl⟩
theorem bE_lst {ta : TA} {xs : List α} (h : BldA K ta xs) : BldE K (tLst ta) xs :=
  ⟨fun {_ _ _} q => h.h fun vs H1 s1 d1 => ⟨by rw [d1.length]; exact Nat.le_trans h.l (by decide), fun p hp => q _ _ (s1.trans (same_new (Same.refl _) hp)) (hd_list (SqL.of upd_same) (d1.same (same_new (Same.refl _) hp)))⟩⟩
theorem bE_pt {a b : Int} : BldE K (tTup (tCons (tC (.int a)) (tCons (tC (.int b)) tNil))) ((a, b) : Pt) :=
  ⟨fun q => ⟨by rw [sizeLine_eq]; simp, fun p hp => q _ _ (same_new (Same.refl _) hp) (hd_pair (SqT.of upd_same) hd_int hd_int)⟩⟩
end
section
variable {K : PySem.W.Frag}
theorem mk_goodK {H : Hp} {m : M6} {R : Addr → Hp → Prop} {E : XK} (ok : m.Ok) (bd : MBd 100000 m) (q : ∀ x H', Same H H' → GmAt K H' (.ref x) m → R x H') : ∀ x dx, H x = none → H dx = none → dx ≠ x →
    sp_GridMap_init K [V.ref x, .int m.a, .int m.b, .int m.c, .int m.d, .int m.e, .int m.f] (upd (upd H dx (.own x)) x (.ins (He.ga K "GridMap") dx [])) (fun v H2 => v = .non ∧ R x H2) E := by
  intro x dx hx hdx hne
  have s0 : Same H (upd (upd H dx (.own x)) x (.ins (He.ga K "GridMap") dx [])) := by
    refine same_new (same_new (Same.refl H) hdx) ?_
    rw [upd_ne hne.symm]; exact hx
  refine ⟨x, dx, _, _, _, _, _, _, rfl, upd_same, ?_, (fun h => ?_), fun m' em => ?_⟩
  · intro v hv
    simp only [List.mem_cons, List.not_mem_nil, or_false] at hv
    rcases hv with rfl | rfl | rfl | rfl | rfl | rfl <;> exact ⟨_, .int _⟩
  · simp [isI] at h
  · have e : m' = m := by
      simp only [M6.vals, List.cons.injEq, and_true, V.int.injEq] at em
      obtain ⟨h1, h2, h3, h4, h5, h6⟩ := em
      cases m; cases m'
      simp only at *
      subst h1 h2 h3 h4 h5 h6
      rfl
    subst e
    refine ⟨bd, fun _ t H' k h1 h2 => ⟨rfl, ?_⟩, fun h => absurd ok h⟩
    exact q _ _ (same_kp s0 hx k) ⟨x, dx, t, rfl, h1, h2⟩
end
theorem bdK {n : Nat} {i k : Int} (h : -k ≤ i ∧ i ≤ k) (hk : k.toNat < 2 ^ n) : Bd n i := Nat.lt_of_le_of_lt (show i.natAbs ≤ k.toNat by omega) hk
theorem hd_listP {K : PySem.W.Frag} {H H' : Hp} {l : Addr} {v : V} {ps : List Pt} (h : Hd K H v ps) (h0 : ps ≠ []) (k : Kp l H H') (d : DrAt H l) : Hd K H' v ps := by
  obtain ⟨a, vs, rfl, hs, hp⟩ := h.list_of
  have hp' := hp.kp k d
  obtain ⟨x, y, e, _⟩ := d
  have ne : Rd H a (.lst vs) → a ≠ l := by
    intro hs w
    subst w
    have ev : vs = [.int x, .int y] := by
      rcases hs with h | ⟨o, h⟩
      · rw [e] at h; cases h; rfl
      · rw [e] at h; cases h
    subst ev
    cases ps with
    | nil => exact h0 rfl
    | cons p ps =>
      cases hp with
      | cons h1 _ => cases h1
  refine hd_list ?_ hp'
  rcases hs with h | h
  · have ne := ne h
    rcases h with h | ⟨o, h⟩
    · exact .inl (.inl (k _ _ ne h))
    · exact .inl (.inr ⟨o, k _ _ ne h⟩)
  · exact .inr h
/-! #### _law_carry -/
def sp_law_carry (K : PySem.W.Frag) : Sp := fun vs H Q _ => ∃ (l : Addr) (n : Int), vs = [.ref l, .int n] ∧ DrAt H l ∧ 0 < n ∧ n ≤ 1000 ∧ ∀ r m H', Kp l H H' → DrAt H' l → GmAt K H' r m → m.Ok → MBd 1000 m → Q r H'
theorem ok_law_carry (T : Tx K mg) : FnOk Pg w K mg base CX0 5 (He.ga K "_law_carry") (fdOf K (He.ga K "_law_carry")) ["_law_pool_here", "_law_bound"] (sp_law_carry K) := by
  refine T.d_law_carry.ok sc_law_carry (fun vs H Q E h => ?_) (fun cdv A outer s H vs Q E hr h => ?_)
  · obtain ⟨l, n, rfl, _⟩ := h
    rfl
  · obtain ⟨l, n, rfl, hd, h0, h1, q⟩ := h
    refine ⟨_, PSs.nox (pss_cons (ps_par (i := 2) (j := 3) (by rfl) sc_law_carry.nd rfl rfl (by decide) rfl rfl (pa_cons (pe_call (ok_law_take (K := K) T) (hr.mono (by decide)) rfl T.g_law_take T.d_law_take.kp (bn_law_take T) .nil pass0 (pa_cons (pv 0) (pa_cons (pv 1) pa_nil))) (pa_cons (pe_call (ok_law_take (K := K) T) (hr.mono (by decide)) rfl T.g_law_take T.d_law_take.kp (bn_law_take T) .nil pass0 (pa_cons (pv 0) (pa_cons (pv 1) pa_nil))) pa_nil)) (by rfl))
      (pss_cons (ps_set (i := 4) sc_law_carry.nd rfl (Or.inl rfl) (pe_ix (kIxL (K := K)) (pe_lst (pa_cons pe_int (pa_cons (pe_un un_neg pe_int) pa_nil))) (pe_call (ok_law_take (K := K) T) (hr.mono (by decide)) rfl T.g_law_take T.d_law_take.kp (bn_law_take T) .nil pass0 (pa_cons (pv 0) (pa_cons pe_int pa_nil))) (fun _ _ => rfl)))
      (pss_one (ps_ret (pe_makeA T.k_GridMap (FnOk.raw (ok_GridMap_init (K := K) T) (bd0_GridMap_init T).choose_spec.2 (bd0_GridMap_init T).choose_spec.1) (hr.mono (by decide)) rfl T.g_GridMap (passAll passL) (pa_cons (pe_op op_add pe_int (pe_op op_mulA (pv 2) (pv 3))) (pa_cons (pe_op op_mulA (pv 4) (pv 2)) (pa_cons (pv 3) (pa_cons (pv 4) (pa_cons (pe_op op_sub (pe_call (ok_law_take (K := K) T) (hr.mono (by decide)) rfl T.g_law_take T.d_law_take.kp (bn_law_take T) .nil pass0 (pa_cons (pv 0) (pa_cons pe_int pa_nil))) pe_int) (pa_cons pe_int pa_nil))))))))))), ?_⟩
    walk_at "gx"
    refine ⟨l, n, rfl, hd, h0, by omega, fun k H1 a1 a2 k1 hd1 => ?_⟩
    walk_at "gx"
    refine ⟨l, n, rfl, hd1, h0, by omega, fun m H2 b1 b2 k2 hd2 => ?_⟩
    walk_at "gx"
    refine r_new fun p hp => ?_
    generalize e3 : upd H2 p _ = H3
    obtain ⟨s3, g3⟩ := fresh hp e3
    have hd3 := hd2.same s3
    walk_at "gx"
    refine ⟨l, 2, rfl, hd3, by decide, by decide, fun t H4 t1 t2 k4 hd4 => ?_⟩
    have np : p ≠ l := fun w => by obtain ⟨_, _, e, _⟩ := hd2; rw [← w, hp] at e; cases e
    have g4 := k4 _ _ np g3
    obtain ⟨sg, hsg, hat⟩ : ∃ sg : Int, (sg = 1 ∨ sg = -1) ∧ atI [V.int 1, V.int (-1)] t = some (.int sg) := by
      rcases (show t = 0 ∨ t = 1 by omega) with rfl | rfl
      · exact ⟨1, .inl rfl, rfl⟩
      · exact ⟨-1, .inr rfl, rfl⟩
    refine r_ixL (SqL.of g4) hat ?_
    walk_at "gx"
    refine r_I (mul_okL (by omega) (by omega)) ?_
    walk_at "gx"
    refine r_I (mul_okL (by omega) (by omega)) ?_
    walk_at "gx"
    refine ⟨l, 100, rfl, hd4, by decide, by decide, fun u H5 u1 u2 k5 hd5 => ?_⟩
    walk_at "gx"
    have hok : (M6.mk (1 + k * m) (sg * k) m sg (u - 50) 7).Ok := by
      unfold M6.Ok M6.det
      rcases hsg with rfl | rfl
      · left; show (1 + k * m) * 1 - 1 * k * m = 1; simp [Int.add_sub_cancel]
      · right; show (1 + k * m) * (-1) - (-1) * k * m = -1; rw [Int.neg_one_mul, Int.neg_mul]; omega
    have hb : MBd 1000 (M6.mk (1 + k * m) (sg * k) m sg (u - 50) 7) := by
      have h1 : 0 ≤ k * m := Int.mul_nonneg a1 b1
      have h2 : k * m ≤ 1000 * 1000 := Int.mul_le_mul (by omega) (by omega) b1 (by decide)
      have e10 : Int.toNat 10000000 < 2 ^ 1000 := by decide +kernel
      refine ⟨bdK (k := 10000000) (by show -10000000 ≤ 1 + k * m ∧ 1 + k * m ≤ 10000000; omega) e10, bdK (k := 10000000) (by show -10000000 ≤ sg * k ∧ sg * k ≤ 10000000; rcases hsg with rfl | rfl <;> omega) e10, bdK (k := 10000000) (by show -10000000 ≤ m ∧ m ≤ 10000000; omega) e10, bdK (k := 10000000) (by show -10000000 ≤ sg ∧ sg ≤ 10000000; omega) e10, bdK (k := 10000000) (by show -10000000 ≤ u - 50 ∧ u - 50 ≤ 10000000; omega) e10, bdK (k := 10000000) (by show -10000000 ≤ (7 : Int) ∧ (7 : Int) ≤ 10000000; decide) e10⟩
    refine mk_goodK (m := ⟨1 + k * m, sg * k, m, sg, u - 50, 7⟩) hok ?_ fun x H6 s6 hx => ?_
    · exact hb.mono (by decide)
    · exact q _ _ H6 ((((k1.trans k2).same s3).trans (k4.trans k5)).same s6) (hd5.same s6) hx hok hb
/-! #### _law_polygon -/
def sp_law_poly (K : PySem.W.Frag) : Sp := fun vs H Q _ => ∃ (l : Addr), vs = [.ref l] ∧ DrAt H l ∧ ∀ r H', Kp l H H' → DrAt H' l → PolB K H' r true → Q r H'
theorem ok_law_polygon (T : Tx K mg) : FnOk Pg w K mg base CX0 11 (He.ga K "_law_polygon") (fdOf K (He.ga K "_law_polygon")) ["_law_pool_here"] (sp_law_poly K) := by
  refine T.d_law_polygon.ok sc_law_polygon (fun vs H Q E h => ?_) (fun cdv A outer s H vs Q E hr h => ?_)
  · obtain ⟨l, rfl, _⟩ := h
    rfl
  · obtain ⟨l, rfl, hd, q⟩ := h
    refine ⟨_, PSs.nox (pss_cons (ps_set (i := 1) sc_law_polygon.nd rfl (Or.inl rfl) (pe_lst (pa_cons (pe_lst (pa_cons (pe_tup (pa_cons pe_int (pa_cons pe_int pa_nil))) (pa_cons (pe_tup (pa_cons pe_int (pa_cons pe_int pa_nil))) (pa_cons (pe_tup (pa_cons pe_int (pa_cons pe_int pa_nil))) pa_nil)))) (pa_cons (pe_lst (pa_cons (pe_tup (pa_cons pe_int (pa_cons pe_int pa_nil))) (pa_cons (pe_tup (pa_cons pe_int (pa_cons pe_int pa_nil))) (pa_cons (pe_tup (pa_cons pe_int (pa_cons pe_int pa_nil))) (pa_cons (pe_tup (pa_cons pe_int (pa_cons pe_int pa_nil))) pa_nil))))) (pa_cons (pe_lst (pa_cons (pe_tup (pa_cons pe_int (pa_cons pe_int pa_nil))) (pa_cons (pe_tup (pa_cons pe_int (pa_cons pe_int pa_nil))) (pa_cons (pe_tup (pa_cons pe_int (pa_cons pe_int pa_nil))) (pa_cons (pe_tup (pa_cons pe_int (pa_cons pe_int pa_nil))) pa_nil))))) pa_nil)))))
      (pss_cons (ps_set (i := 1) sc_law_polygon.nd rfl (Or.inl rfl) (pe_op op_cat (pv 1) (pe_lst (pa_cons (pe_lst (pa_cons (pe_tup (pa_cons pe_int (pa_cons pe_int pa_nil))) (pa_cons (pe_tup (pa_cons pe_int (pa_cons pe_int pa_nil))) (pa_cons (pe_tup (pa_cons pe_int (pa_cons pe_int pa_nil))) pa_nil)))) (pa_cons (pe_lst (pa_cons (pe_tup (pa_cons pe_int (pa_cons pe_int pa_nil))) (pa_cons (pe_tup (pa_cons pe_int (pa_cons pe_int pa_nil))) (pa_cons (pe_tup (pa_cons pe_int (pa_cons pe_int pa_nil))) (pa_cons (pe_tup (pa_cons pe_int (pa_cons pe_int pa_nil))) pa_nil))))) (pa_cons (pe_lst (pa_cons (pe_tup (pa_cons pe_int (pa_cons pe_int pa_nil))) (pa_cons (pe_tup (pa_cons pe_int (pa_cons pe_int pa_nil))) (pa_cons (pe_tup (pa_cons pe_int (pa_cons pe_int pa_nil))) pa_nil)))) pa_nil))))))
      (pss_one (ps_ret (pe_meth2 (pe_call (ok_to_polygon (K := K) T) (hr.mono (by decide)) rfl T.g_to_polygon T.d_to_polygon.kp (bn_to_polygon T) .nil passL (pa_cons (pe_ix (kIxL (K := K)) (pv 1) (pe_call (ok_law_take (K := K) T) (hr.mono (by decide)) rfl T.g_law_take T.d_law_take.kp (bn_law_take T) .nil pass0 (pa_cons (pv 0) (pa_cons pe_int pa_nil))) (fun _ _ => rfl)) pa_nil)) T.y_Polygon.cl T.y_ConvexPolygon.cl T.m_Polygon_moved T.m_ConvexPolygon_moved (FnOk.raw (ok_Polygon_moved (K := K) T) (bn_Polygon_moved T) .nil) (FnOk.raw (ok_ConvexPolygon_moved (K := K) T) (bn_ConvexPolygon_moved T) .nil) (hr.mono (by decide)) (hr.mono (by decide)) (passAll passL) (pa_cons (pe_call (ok_law_carry (K := K) T) (hr.mono (by decide)) rfl T.g_law_carry T.d_law_carry.kp (bn_law_carry T) .nil pass0 (pa_cons (pv 0) (pa_cons pe_int pa_nil))) pa_nil)))))), ?_⟩
    walk_at "g1"
    walk_at "g1"
    walk_at "g1"
    refine (bA_cons (bE_lst (bA_cons bE_pt (bA_cons bE_pt (bA_cons bE_pt bA_nil (by decide)) (by decide)) (by decide))) (bA_cons (bE_lst (bA_cons bE_pt (bA_cons bE_pt (bA_cons bE_pt (bA_cons bE_pt bA_nil (by decide)) (by decide)) (by decide)) (by decide))) (bA_cons (bE_lst (bA_cons bE_pt (bA_cons bE_pt (bA_cons bE_pt (bA_cons bE_pt bA_nil (by decide)) (by decide)) (by decide)) (by decide))) bA_nil (by decide)) (by decide)) (by decide) : BldA K _ shpA).h fun vs H1 s1 d1 => ?_
    refine ⟨by rw [d1.length]; decide, fun p hp => ?_⟩
    generalize e2 : upd H1 p _ = H2
    obtain ⟨s2, g2⟩ := fresh hp e2
    iterate 6 (walk_at "g1")
    refine (bA_cons (bE_lst (bA_cons bE_pt (bA_cons bE_pt (bA_cons bE_pt bA_nil (by decide)) (by decide)) (by decide))) (bA_cons (bE_lst (bA_cons bE_pt (bA_cons bE_pt (bA_cons bE_pt (bA_cons bE_pt bA_nil (by decide)) (by decide)) (by decide)) (by decide))) (bA_cons (bE_lst (bA_cons bE_pt (bA_cons bE_pt (bA_cons bE_pt bA_nil (by decide)) (by decide)) (by decide))) bA_nil (by decide)) (by decide)) (by decide) : BldA K _ shpB).h fun ws H3 s3 d3 => ?_
    refine ⟨by rw [d3.length]; decide, fun p2 hp2 => ?_⟩
    generalize e4 : upd H3 p2 _ = H4
    obtain ⟨s4, g4⟩ := fresh hp2 e4
    walk_at "gx"
    refine r_cat (s4 _ _ (s3 _ _ g2)) g4 (by rw [d1.length, d3.length, sizeLine_eq]; decide) fun pp hpp => ?_
    generalize e5 : upd H4 pp _ = H5
    obtain ⟨s5, g5⟩ := fresh hpp e5
    have d5 : Hds K H5 (vs ++ ws) (shpA ++ shpB) := (d1.same (s2.trans (s3.trans (s4.trans s5)))).append (d3.same (s4.trans s5))
    have S5 : Same H H5 := s1.trans (s2.trans (s3.trans (s4.trans s5)))
    have hd5 := hd.same S5
    walk_at "gx"
    refine r_meth2 ?_
    walk_at "gx"
    refine ⟨l, 6, rfl, hd5, by decide, by decide, fun d H6 a1 a2 k6 hd6 => ?_⟩
    obtain ⟨j, rfl⟩ : ∃ j : Nat, d = (j : Int) := ⟨d.toNat, by omega⟩
    have np : pp ≠ l := fun w => by obtain ⟨_, _, e, _⟩ := (hd.same (s1.trans (s2.trans (s3.trans s4)))); rw [← w, hpp] at e; cases e
    have hj : j < (shpA ++ shpB).length := by show j < 6; omega
    obtain ⟨v, hv, hdv⟩ := d5.at (List.getElem?_eq_getElem hj)
    generalize hps : (shpA ++ shpB)[j] = ps at hdv
    have hS : Shp ps := shp_at (d := (j : Int)) (by rw [atI_nat (List.getElem?_eq_getElem hj), hps])
    have hdv := hd_listP hdv (fun z => by have := hS.h3; rw [z] at this; exact absurd this (by decide)) k6 hd5
    refine r_ixL (SqL.of (k6 _ _ np g5)) (atI_nat hv) ?_
    obtain ⟨a, us, rfl, ha, hus⟩ := hdv.list_of
    have h3 := hS.h3
    have h60 := hS.h60
    have hK : Kp l H H6 := (Kp.of_same S5).trans k6
    walk_at "gx"
    refine ⟨_, _, rfl, .pts (.inl ha) hus h3 h60, errW_good hS.good fun p hp => (hS.bd p hp).mono (by decide), fun ps' e hg hr => ?_, fun ps' e hg hr x H7 s7 hx => ?_, fun ps' e hg hr x H7 s7 hx => ?_⟩
    · cases e
      rcases hS.cv with w | ⟨w, _⟩
      · exact absurd hr w
      · exact ⟨w, good_arr hg⟩
    · cases e
      obtain ⟨w1, w2, w3⟩ := hS.cv.resolve_left (fun w => w hr)
      obtain ⟨pc, x', dx, t, xs, ex, ho, ht, hxs⟩ := id hx
      cases ex
      walk_at "gx"
      refine ⟨x, dx, _, rfl, rfl, .inr ⟨ho, ?_⟩⟩
      walk_at "gx"
      refine ⟨l, 30, rfl, hd6.same s7, by decide, by decide, fun r m H8 k8 hd8 hm om bm => ?_⟩
      walk_at "gx"
      refine ⟨_, _, arr ps, m, rfl, hx.kp k8 (hd6.same s7), good_arr hg, by rw [arr_len]; exact h3, by rw [arr_len]; exact h60, hm, om, bm.mono (by decide), arr_bd fun p hp => (hS.bd p hp).mono (by decide), reflex_img w2 w3 om, fun r H9 s9 hr9 => ?_⟩
      exact q _ _ (((hK.same s7).trans k8).same s9) (hd8.same s9) (.yes hr9)
    · cases e
      obtain ⟨pc, x', dx, t, xs, ex, ho, ht, hxs⟩ := id hx
      cases ex
      walk_at "gx"
      refine ⟨x, dx, _, rfl, rfl, .inl ⟨ho, ?_⟩⟩
      walk_at "gx"
      refine ⟨l, 30, rfl, hd6.same s7, by decide, by decide, fun r m H8 k8 hd8 hm om bm => ?_⟩
      walk_at "gx"
      refine ⟨_, _, arr ps, rfl, hx.kp k8 (hd6.same s7), good_arr hg, by rw [arr_len]; exact h3, by rw [arr_len]; exact h60, .inl ⟨m, hm, om, bm.mono (by decide), arr_bd fun p hp => (hS.bd p hp).mono (by decide), fun r H9 s9 hr9 => ?_⟩⟩
      exact q _ _ (((hK.same s7).trans k8).same s9) (hd8.same s9) (.yes hr9)
/-! #### the law's names -/
def nmZ (s st mo i : Nat) : Str := (⟨#[LET.cps.toList.getD ((s + i * st) % 26) 97]⟩ : Str) ++ repS "m" mo
def nms (s st mo : Nat) : List Str := (List.range 7).map (nmZ s st mo)
theorem let_len : LET.cps.toList.length = 26 := by decide +kernel
theorem let_nd : LET.cps.toList.Nodup := by decide +kernel
theorem rep_ok : (List.range 8).all (fun mo => (repS "m" mo).cps.toList.all fun c => decide (c ∈ LET.cps.toList)) = true := by decide +kernel
theorem let_at {n : Nat} (h : n < 26) : LET.cps.toList[n]? = some (LET.cps.toList.getD n 97) := by
  rw [List.getD_eq_getElem?_getD, List.getElem?_eq_getElem (by rw [let_len]; exact h)]; rfl
theorem nmZ_toL (s st mo i : Nat) : (nmZ s st mo i).cps.toList = LET.cps.toList.getD ((s + i * st) % 26) 97 :: (repS "m" mo).cps.toList := by
  show ((#[LET.cps.toList.getD ((s + i * st) % 26) 97] : Array Nat) ++ (repS "m" mo).cps).toList = _
  rw [Array.toList_append]; rfl
theorem nmZ_len (s st mo i : Nat) : (nmZ s st mo i).length = mo + 1 := by
  have h1 : (nmZ s st mo i).length = (nmZ s st mo i).cps.toList.length := (Array.length_toList).symm
  have h2 : (repS "m" mo).cps.toList.length = mo * ("m" : Str).length := Eq.trans Array.length_toList (repS_len "m" mo)
  rw [h1, nmZ_toL, List.length_cons, h2, show ("m" : Str).length = 1 from by decide +kernel, Nat.mul_one]
theorem nmZ_nm {s st mo i : Nat} (h : mo < 8) : isNm (nmZ s st mo i) = true := by
  unfold isNm
  rw [nmZ_len, decide_eq_true (by omega), decide_eq_true (by omega), nmZ_toL, Bool.true_and, Bool.true_and, List.all_cons, Bool.and_eq_true]
  exact ⟨decide_eq_true (List.mem_of_getElem? (let_at (Nat.mod_lt _ (by decide)))), List.all_eq_true.mp rep_ok mo (List.mem_range.mpr h)⟩
theorem nmZ_inj {s st mo i j : Nat} (hst : st = 1 ∨ st = 3 ∨ st = 5 ∨ st = 7 ∨ st = 11) (hi : i < 7) (hj : j < 7) (h : nmZ s st mo i = nmZ s st mo j) : i = j := by
  have e := congrArg (fun z : Str => z.cps.toList.head?) h
  simp only [nmZ_toL, List.head?_cons, Option.some.injEq] at e
  have l1 : (s + i * st) % 26 < 26 := Nat.mod_lt _ (by decide)
  have l2 : (s + j * st) % 26 < 26 := Nat.mod_lt _ (by decide)
  have e2 : (s + i * st) % 26 = (s + j * st) % 26 := by
    refine (List.getElem?_inj (by rw [let_len]; exact l1) let_nd).mp ?_
    rw [let_at l1, let_at l2, e]
  rcases hst with rfl | rfl | rfl | rfl | rfl <;> omega
theorem nms_len (s st mo : Nat) : (nms s st mo).length = 7 := by unfold nms; rw [List.length_map, List.length_range]
theorem nms_nd {s st mo : Nat} (hst : st = 1 ∨ st = 3 ∨ st = 5 ∨ st = 7 ∨ st = 11) : (nms s st mo).Nodup := by
  unfold nms
  rw [List.Nodup, List.pairwise_map]
  refine List.Pairwise.imp_of_mem (fun hi hj hne e => hne (nmZ_inj hst (List.mem_range.mp hi) (List.mem_range.mp hj) e)) List.nodup_range
/-! #### _law_names -/
/-- names: one letter each, and the same number of m behind it -/
structure NmsL (zs : List Str) : Prop where
  nd : zs.Nodup
  ok : ∀ z ∈ zs, isNm z = true ∧ z.length ≤ 1000
def sp_law_names (K : PySem.W.Frag) : Sp := fun vs H Q _ => ∃ (l : Addr), vs = [.ref l, .int 7] ∧ DrAt H l ∧ ∀ p zs H', Kp l H H' → H p = none → p ≠ l → DrAt H' l → H' p = some (.lst (zs.map V.str)) → zs.length = 7 → NmsL zs → Q (.ref p) H'
theorem ok_law_names (T : Tx K mg) : FnOk Pg w K mg base CX0 2 (He.ga K "_law_names") (fdOf K (He.ga K "_law_names")) ["_law_pool_here", "_law_many"] (sp_law_names K) := by
  refine T.d_law_names.ok sc_law_names (fun vs H Q E h => ?_) (fun cdv A outer s H vs Q E hr h => ?_)
  · obtain ⟨l, rfl, _⟩ := h
    rfl
  · obtain ⟨l, rfl, hd, q⟩ := h
    refine ⟨_, PSs.nox (pss_cons (ps_asg (pe_tup (pa_cons pe_str (pa_cons (pe_ix (kIxL (K := K)) (pe_lst (pa_cons pe_int (pa_cons pe_int (pa_cons pe_int (pa_cons pe_int (pa_cons pe_int pa_nil)))))) (pe_call (ok_law_take (K := K) T) (hr.mono (by decide)) rfl T.g_law_take T.d_law_take.kp (bn_law_take T) .nil pass0 (pa_cons (pv 0) (pa_cons pe_int pa_nil))) (fun _ _ => rfl)) pa_nil))) (kpgTup (K := K) (n := 2) rfl (pgs_cons (pg_name (i := 2) sc_law_names.nd rfl (Or.inr rfl)) (pgs_cons (pg_name (i := 3) sc_law_names.nd rfl (Or.inr rfl)) pgs_nil))))
      (pss_cons (ps_asg (pe_tup (pa_cons (pe_call (ok_law_take (K := K) T) (hr.mono (by decide)) rfl T.g_law_take T.d_law_take.kp (bn_law_take T) .nil pass0 (pa_cons (pv 0) (pa_cons pe_int pa_nil))) (pa_cons (pe_call (ok_law_take (K := K) T) (hr.mono (by decide)) rfl T.g_law_take T.d_law_take.kp (bn_law_take T) .nil pass0 (pa_cons (pv 0) (pa_cons pe_int pa_nil))) pa_nil))) (kpgTup (K := K) (n := 2) rfl (pgs_cons (pg_name (i := 4) sc_law_names.nd rfl (Or.inr rfl)) (pgs_cons (pg_name (i := 5) sc_law_names.nd rfl (Or.inr rfl)) pgs_nil))))
      (pss_one (ps_ret (pe_lc (own := [("_law_at", 6)]) (g := (gName 6)) (tt := tYes) rfl sc_law_names.nd (pi_range1 rfl T.n_range (pa_cons (pv 1) pa_nil)) (blkOk_by (own := [("_law_at", 6)]) (N := ["_law_pool_here", "_law_many", "_law_letters", "_law_step", "_law_start", "_law_more", "_law_at"]) (sc := defScope s_law_names) (by decide +kernel)) (fun _ _ _ _ _ => (pg_name (i := 6) sc_law_names.nd rfl (Or.inl rfl))) (fun _ _ _ _ _ => pts_nil) (fun _ _ _ _ _ => (pe_op op_add_str (pe_ix ix_str (pv 2) (pe_op op_mod (pe_op op_add (pv 4) (pe_op op_mulA (pv 6) (pv 3))) pe_int) (fun _ _ => rfl)) (pe_op op_repS pe_str (pv 5))))))))), ?_⟩
    walk_at "gx"
    refine r_new fun p1 hp1 => ?_
    generalize e1 : upd H p1 _ = H1
    obtain ⟨s1, g1⟩ := fresh hp1 e1
    have hd1 := hd.same s1
    walk_at "gx"
    refine ⟨l, 5, rfl, hd1, by decide, by decide, fun d H2 a1 a2 k2 hd2 => ?_⟩
    have np : p1 ≠ l := fun w => by obtain ⟨_, _, e, _⟩ := hd; rw [← w, hp1] at e; cases e
    have g2 := k2 _ _ np g1
    obtain ⟨st, hst, hat⟩ : ∃ st : Nat, (st = 1 ∨ st = 3 ∨ st = 5 ∨ st = 7 ∨ st = 11) ∧ atI [V.int 1, V.int 3, V.int 5, V.int 7, V.int 11] d = some (.int (st : Int)) := by
      rcases (show d = 0 ∨ d = 1 ∨ d = 2 ∨ d = 3 ∨ d = 4 by omega) with rfl | rfl | rfl | rfl | rfl
      · exact ⟨1, by omega, rfl⟩
      · exact ⟨3, by omega, rfl⟩
      · exact ⟨5, by omega, rfl⟩
      · exact ⟨7, by omega, rfl⟩
      · exact ⟨11, by omega, rfl⟩
    refine r_ixL (SqL.of g2) hat ?_
    walk_at "gx"
    refine r_new fun t1 ht1 => ?_
    generalize e3 : upd H2 t1 _ = H3
    obtain ⟨s3, g3⟩ := fresh ht1 e3
    walk_at "gx"
    refine ⟨l, 26, rfl, hd2.same s3, by decide, by decide, fun s0 H4 b1 b2 k4 hd4 => ?_⟩
    walk_at "gx"
    refine ⟨l, 8, rfl, hd4, by decide, by decide, fun m0 H5 c1 c2 k5 hd5 => ?_⟩
    walk_at "gx"
    refine r_new fun t2 ht2 => ?_
    generalize e6 : upd H5 t2 _ = H6
    obtain ⟨s6, g6⟩ := fresh ht2 e6
    have hd6 := hd5.same s6
    have K6 : Kp l H H6 := (((((Kp.of_same s1).trans k2).same s3).trans k4).trans k5).same s6
    obtain ⟨s, rfl⟩ : ∃ s : Nat, s0 = (s : Int) := ⟨s0.toNat, by omega⟩
    obtain ⟨mo, rfl⟩ : ∃ s : Nat, m0 = (s : Int) := ⟨m0.toNat, by omega⟩
    walk_at "gx"
    simp only [List.set_cons_zero, List.set_cons_succ]
    refine compR1 (n := 7) (by decide) (fun D i acc H' => Same H6 H' ∧ acc = ((List.range i).map (nmZ s st mo)).map V.str) (fun D hD => ⟨same_new (Same.refl _) hD, rfl⟩) ?_ ?_
    · rintro D i acc H7 hD hi ⟨s7, rfl⟩ ha hl
      walk_at "gx"
      refine r_I (mul_okL (by omega) (by omega)) ?_
      walk_at "gx"
      refine r_I (by decide) ?_
      have e26 : ((s : Int) + (i : Int) * (st : Int)) % 26 = (((s + i * st) % 26 : Nat) : Int) := by
        rw [Int.natCast_emod, Int.natCast_add, Int.natCast_mul]; rfl
      rw [e26]
      refine ⟨LET, _, LET.cps.toList.getD ((s + i * st) % 26) 97, rfl, rfl, by decide +kernel, atI_nat (let_at (Nat.mod_lt _ (by decide))), ?_⟩
      walk_at "gx"
      refine r_repS (n := mo) (by omega) (by decide +kernel) ?_
      refine ⟨_, _, rfl, rfl, by rw [repS_len, sizeLine_eq, show ("m" : Str).length = 1 from by decide +kernel]; show 1 + _ ≤ _; omega, ?_⟩
      refine cnext ha hl (by omega) ⟨fun b o e => ?_, ?_⟩
      · rw [upd_ne (ne_of_none e hD)]
        exact s7 b o e
      · rw [List.range_succ, List.map_append, List.map_append]; rfl
    · rintro D acc H7 hD ⟨s7, rfl⟩ ha hl
      walk_at "gx"
      have nD : D ≠ l := fun w => by obtain ⟨_, _, e, _⟩ := hd6; rw [← w, hD] at e; cases e
      exact q D (nms s st mo) H7 (K6.same s7) (K6.free nD hD) nD (hd6.same s7) ha (nms_len s st mo) ⟨nms_nd hst, fun z hz => by
        obtain ⟨i, _, rfl⟩ := List.mem_map.mp hz
        exact ⟨nmZ_nm (by omega), by rw [nmZ_len]; omega⟩⟩
/-! #### _law_assigned -/
def sp_law_asgd (K : PySem.W.Frag) : Sp := fun vs H Q _ => ∃ (c kd el : Addr) (m : Int) (kvs : List (Str × V)) (es : List (List (Str × V))) (v : V) (n : String), vs = [.ref c, v] ∧ ColAt K H c kd el m kvs es ∧ Kd K H v n ∧
  (goodI v (.int 1) = false → ∀ r H', Same H H' → Dp K H' r (.list [.str "integer", .bool true]) → Q r H') ∧
  (∀ k, v = .int k → goodI v (.int 1) = true → k < (kvs.length : Int) → ∀ r H', Same H H' → Dp K H' r (.list [.str "limit", .int (kvs.length : Int)]) → Q r H') ∧
  (∀ k, v = .int k → goodI v (.int 1) = true → (kvs.length : Int) ≤ k → ∀ H', Kp c H H' → ColAt K H' c kd el k kvs es → Q .non H')
theorem ok_law_assigned (T : Tx K mg) : FnOk Pg w K mg base CX0 7 (He.ga K "_law_assigned") (fdOf K (He.ga K "_law_assigned")) ["_law_some", "_law_value"] (sp_law_asgd K) := by
  refine T.d_law_assigned.ok sc_law_assigned (fun vs H Q E h => ?_) (fun cdv A outer s H vs Q E hr h => ?_)
  · obtain ⟨c, kd, el, m, kvs, es, v, n, rfl, _⟩ := h
    rfl
  · obtain ⟨c, kd, el, m, kvs, es, v, n, rfl, hc, hk, q1, q2, q3⟩ := h
    obtain ⟨dx, ho⟩ := hc.ob
    refine ⟨_, PSs.nox (pss_cons (ps_try_nm rfl rfl takes0 (fun W pn xe tk pn_own => (pss_one (ps_expr (pe_methA (pv 0) T.y_Collection.cl T.m_Collection_resize (FnOk.raw (ok_Collection_resize (K := K) T) (bn_Collection_resize T) .nil) (hr.mono (by decide)) (fun σ => passAt tk σ) (pa_cons (pv 1) pa_nil))))) (.as (i := 2) sc_law_assigned.nd rfl rfl ⟨rfl, by decide, .inl T.g_InvalidInteger⟩ (fun a oe cls d pn hz hf => (pss_one (ps_ret (pe_lst (pa_cons pe_str (pa_cons (pe_callB (kIsE (K := K) T.ei_InvalidInteger.c hz hf) (by rfl) T.n_isinstance (by decide +kernel) (pa_cons (pv 2) (pa_cons (pe_glob (v := .ref (He.ga K "ShapeError")) rfl T.g_ShapeError rfl) pa_nil))) pa_nil)))))) (.as (i := 2) sc_law_assigned.nd rfl rfl ⟨rfl, by decide, .inl T.g_LimitExceeded⟩ (fun a oe cls d pn hz hf => (pss_one (ps_ret (pe_lst (pa_cons pe_str (pa_cons (pe_xf T.x_LimitExceeded.x (T.x_LimitExceeded.n _ (by simp)) hz hf (pv 2)) pa_nil)))))) .nil)))
      (pss_one (ps_ret pe_non))), ?_⟩
    walk_at "gx"
    refine ⟨c, dx, _, rfl, ho, rfl, ?_⟩
    walk_at "gx"
    refine ⟨c, kd, el, m, kvs, es, v, n, rfl, hc, hk, fun hg => ?_, fun k ek hg hl d H1 s1 hd hxd => ?_, fun k ek hg hl H1 k1 c1 => ?_⟩
    · refine ⟨true, T.m_InvalidInteger_InvalidInteger, fun _ a ha => ?_, fun z => nomatch z⟩
      refine r_asT ?_
      walk_at "gx"
      refine ⟨rfl, rfl, .ref _, .ref _, true, rfl, fun u r => by cases r; rfl, T.ei_InvalidInteger.k, ?_⟩
      walk_at "gx"
      refine r_new fun p hp => ?_
      generalize e5 : upd H p _ = H2
      obtain ⟨s2, g2⟩ := fresh hp e5
      exact q1 hg _ _ s2 (.lst (SqL.of g2) (.cons (.str _) (.cons (.bl _) .nil)))
    · refine ⟨false, T.m_LimitExceeded_InvalidInteger, (fun z => nomatch z), fun _ => ⟨true, T.m_LimitExceeded_LimitExceeded, fun _ a ha => ?_, fun z => nomatch z⟩⟩
      refine r_asT ?_
      walk_at "gx"
      refine ⟨rfl, rfl, d, _, _, rfl, hxd, rfl, ?_⟩
      walk_at "gx"
      refine r_new fun p hp => ?_
      generalize e5 : upd H1 p _ = H2
      obtain ⟨s2, g2⟩ := fresh hp e5
      exact q2 k ek hg hl _ _ (s1.trans s2) (.lst (SqL.of g2) (.cons (.str _) (.cons (.int _) .nil)))
    · walk_at "gx"
      exact q3 k ek hg hl H1 k1 c1
/-! #### _law_added -/
def sp_law_addd (K : PySem.W.Frag) : Sp := fun vs H Q _ => ∃ (c : Addr) (z : Str) (p : V) (kd el : Addr) (m : Int) (kvs : List (Str × V)) (es : List (List (Str × V))), vs = [.ref c, .str z, p] ∧ ColAt K H c kd el m kvs es ∧ z.length ≤ 1000 ∧ isNm z = true ∧ PolB K H p true ∧ kvs.length < 900 ∧ es.length < 1000 ∧ lkS kvs z = none ∧
  (m ≤ (kvs.length : Int) → ∀ H', Same H H' → Q (.int ((kvs.length : Int) + 1)) H') ∧
  ((kvs.length : Int) < m → ∀ H', KpL [kd, el] H H' → ColAt K H' c kd el m (kvs ++ [(z, p)]) (es ++ [kvs]) → Q .non H')
theorem ok_law_added (T : Tx K mg) : FnOk Pg w K mg base CX0 15 (He.ga K "_law_added") (fdOf K (He.ga K "_law_added")) ["_law_some", "_law_name", "_law_polygon_here"] (sp_law_addd K) := by
  refine T.d_law_added.ok sc_law_added (fun vs H Q E h => ?_) (fun cdv A outer s H vs Q E hr h => ?_)
  · obtain ⟨c, z, p, kd, el, m, kvs, es, rfl, _⟩ := h
    rfl
  · obtain ⟨c, z, p, kd, el, m, kvs, es, rfl, hc, h1, h2, h3, h4, h5, h6, q1, q2⟩ := h
    obtain ⟨dx, ho⟩ := hc.ob
    refine ⟨_, PSs.nox (pss_cons (ps_try_nm rfl rfl takes0 (fun W pn xe tk pn_own => (pss_one (ps_expr (pe_methA (pv 0) T.y_Collection.cl T.m_Collection_add (FnOk.raw (ok_Collection_add (K := K) T) (bn_Collection_add T) .nil) (hr.mono (by decide)) (fun σ => passAt tk σ) (pa_cons (pv 1) (pa_cons (pv 2) pa_nil)))))) (.as (i := 3) sc_law_added.nd rfl rfl ⟨rfl, by decide, .inl T.g_LimitExceeded⟩ (fun a oe cls d pn hz hf => (pss_one (ps_ret (pe_xf T.x_LimitExceeded.x (T.x_LimitExceeded.n _ (by simp)) hz hf (pv 3))))) .nil))
      (pss_one (ps_ret pe_non))), ?_⟩
    walk_at "gx"
    refine ⟨c, dx, _, rfl, ho, rfl, ?_⟩
    walk_at "gx"
    refine ⟨c, z, p, rfl, kd, el, m, kvs, es, hc, h1, h2, h3, h4, h5, h6, fun hm d H1 s1 hd hxd => ?_, fun hm H1 k1 c1 => ?_⟩
    · refine ⟨true, T.m_LimitExceeded_LimitExceeded, fun _ a ha => ?_, fun z => nomatch z⟩
      refine r_asT ?_
      walk_at "gx"
      refine ⟨rfl, rfl, d, _, _, rfl, hxd, rfl, ?_⟩
      walk_at "gx"
      exact q1 hm H1 s1
    · walk_at "gx"
      exact q2 hm H1 k1 c1
/-- repr of an int -/
def rReprI : List V → Hp → VK → Prop := fun xs H Q => ∃ i : Int, xs = [.int i] ∧ i.natAbs.log2 < 1920 ∧ Q (.str (Str.ofString (toString i))) H
theorem kReprI {X : Cx} : CallR X (.builtin "repr") rReprI := by
  intro pins s σ H xs us Q I r h
  obtain ⟨i, rfl, hz, q⟩ := h
  obtain ⟨u, rfl, t, rfl⟩ := vals1 r
  exact PySem.P.repr_of_int hz ⟨.str _, H, I.tok _, ⟨_, rfl⟩, q⟩
theorem mk_col {K : PySem.W.Frag} {H : Hp} {m : Int} (hm : goodI (.int m) (.int 1) = true) {R : Addr → Hp → Prop} {E : XK} (q : ∀ c kd el H', Same H H' → H c = none → H kd = none → H el = none → ColAt K H' c kd el m [] [] → R c H') : ∀ x dx, H x = none → H dx = none → dx ≠ x →
    sp_col_init K [.ref x, .int m] (upd (upd H dx (.own x)) x (.ins (He.ga K "Collection") dx [])) (fun v H3 => v = .non ∧ R x H3) E := by
  intro x dx hx hdx hne
  have s0 : Same H (upd (upd H dx (.own x)) x (.ins (He.ga K "Collection") dx [])) := by
    refine same_new (same_new (Same.refl H) hdx) ?_
    rw [upd_ne hne.symm]; exact hx
  refine ⟨x, dx, .int m, "int", rfl, upd_same, .int m, fun w => (by rw [hm] at w; cases w), fun m' e _ kd el H' k hkd hel hke hc => ⟨rfl, ?_⟩⟩
  cases e
  exact q x kd el H' (same_kp s0 hx k) hx (s0.free hkd) (s0.free hel) hc
theorem same_kpl {ls : List Addr} {H H1 H2 : Hp} (s : Same H H1) (k : KpL ls H1 H2) (h : ∀ l ∈ ls, H l = none) : Same H H2 := fun b o e => k b o (fun z => by rw [h b z] at e; cases e) (s b o e)
theorem ColAt.kp {K : PySem.W.Frag} {H H' : Hp} {l c kd el : Addr} {m : Int} {kvs : List (Str × V)} {es : List (List (Str × V))} (h : ColAt K H c kd el m kvs es) (k : Kp l H H') (d : DrAt H l) : ColAt K H' c kd el m kvs es := by
  obtain ⟨⟨dx, h1⟩, h2, as, h3, h4, h5⟩ := h
  obtain ⟨x, y, e, _⟩ := d
  refine ⟨⟨dx, k _ _ (fun w => by rw [w, e] at h1; cases h1) h1⟩, k _ _ (fun w => by rw [w, e] at h2; cases h2) h2, as, k _ _ (fun w => ?_) h3, paired_mono (fun a d _ h => k _ _ (fun w => by rw [w, e] at h; cases h) h) h4, h5⟩
  rw [w, e] at h3
  cases as with
  | nil => cases h3
  | cons a as => cases h3
theorem Kd.kitI {K : PySem.W.Frag} {H : Hp} {v : V} {n : String} (k : Kd K H v n) : PySem.W.kitOne K (.type n) (.type "int") = some (n == "int" || n == "bool") := by
  cases k <;> exact kit_ty (by decide +kernel)
theorem Kd.kitB {K : PySem.W.Frag} {H : Hp} {v : V} {n : String} (k : Kd K H v n) : PySem.W.kitOne K (.type n) (.type "bool") = some (n == "bool") := by
  cases k <;> exact kit_ty (by decide +kernel)
theorem lkS_none {z : Str} : ∀ {kvs : List (Str × V)}, z ∉ kvs.map (·.1) → lkS kvs z = none
  | [], _ => rfl
  | p :: kvs, h => by
    rw [lkS_cons, if_neg (fun e => h (by rw [List.map_cons, e]; exact List.mem_cons_self))]
    exact lkS_none fun w => h (by rw [List.map_cons]; exact List.mem_cons_of_mem _ w)
theorem dr_kpl {ls : List Addr} {H H' : Hp} {l : Addr} (d : DrAt H l) (k : KpL ls H H') (n : l ∉ ls) : DrAt H' l := by
  obtain ⟨x, y, e, r⟩ := d
  exact ⟨x, y, k _ _ n e, r⟩
theorem nd_take {α : Type} {zs : List α} (h : zs.Nodup) {k j : Nat} {z : α} (hj : zs[j]? = some z) (hk : k ≤ j) : z ∉ zs.take k := fun w => by
  obtain ⟨i, hi, e⟩ := List.mem_iff_getElem.mp w
  rw [List.length_take] at hi
  rw [List.getElem_take] at e
  obtain ⟨hj', e2⟩ := List.getElem?_eq_some_iff.mp hj
  have := (List.getElem_inj (h₀ := by omega) (h₁ := hj') h).mp (e.trans e2.symm)
  omega
theorem asgd_mono {K : PySem.W.Frag} {vs : List V} {H : Hp} {M Q : VK} {E : XK} (h : sp_law_asgd K vs H M E) (q : ∀ v H1, M v H1 → Q v H1) : sp_law_asgd K vs H Q E := by
  obtain ⟨c, kd, el, m, kvs, es, v, n, e, hc, hk, q1, q2, q3⟩ := h
  exact ⟨c, kd, el, m, kvs, es, v, n, e, hc, hk, fun a b H' s d => q _ _ (q1 a b H' s d), fun k e2 g l r H' s d => q _ _ (q2 k e2 g l r H' s d), fun k e2 g l H' kk cc => q _ _ (q3 k e2 g l H' kk cc)⟩
theorem shpI : SeqAt.shaped (.list [.str "integer", .bool true]) = true := by
  simp [SeqAt.shaped, PyData.canLay0, PyData.canLayAll0, PyData.depth, PyData.depthAll] <;> decide +kernel
theorem shpN (n : Int) : SeqAt.shaped (.list [.str "limit", .int n]) = true := by
  simp [SeqAt.shaped, PyData.canLay0, PyData.canLayAll0, PyData.depth, PyData.depthAll] <;> decide +kernel
/-! #### law -/
theorem ok_law (T : Tx K mg) : FnQ Pg w K mg base CX0 16 (He.ga K "law") (fdOf K (He.ga K "law")) ["_law_script"] (sp_law K) := by
  refine FunD.okQ T.d_law sc_law (fun vs H Q E h => ?_) (fun cdv A outer s H vs Q E hq hr h => ?_)
  · obtain ⟨a, ns, rfl, _⟩ := h
    rfl
  · obtain ⟨a, ns, rfl, hS, hlen, q⟩ := h
    refine ⟨_, PSs.nox (pss_cons (ps_if (pt_cmpR op_ne (pe_prop (pe_makeK0 T.k_Collection (ok_Collection_init (K := K) T) (hr.mono (by decide)) rfl T.g_Collection (kb_Collection_init_ T).choose_spec passL pk_nil) T.y_Collection.cl T.m_Collection_capacity (ok_Collection_capacity (K := K) T) (hr.mono (by decide)) (bn_Collection_capacity T) .nil pass0 rfl) pe_int (nomark _)) (pss_one (ps_ret pe_bl)) pss_nil)
      (pss_cons (ps_for PassesOwn.never rfl (pi_range1 rfl T.n_range (pa_cons (pe_callB (cMax2 rfl) (by rfl) T.n_max (by decide +kernel) (pa_cons pe_int (pa_cons (pe_callB (cMin2 rfl) (by rfl) T.n_min (by decide +kernel) (pa_cons pe_int (pa_cons (pe_callB (kLen (K := K)) (by rfl) T.n_len (by decide +kernel) (pa_cons (pv 0) pa_nil)) pa_nil))) pa_nil))) pa_nil)) (pg_name (i := 1) sc_law.nd rfl (Or.inl rfl))
      (pss_cons (ps_set (i := 2) sc_law.nd rfl (Or.inl rfl) (pe_call (ok_law_pool (K := K) T) (hr.mono (by decide)) rfl T.g_law_pool T.d_law_pool.kp (bn_law_pool T) .nil pass0 (pa_cons (pv 0) (pa_cons (pv 1) pa_nil))))
      (pss_cons (ps_par (i := 3) (j := 4) (by rfl) sc_law.nd rfl rfl (by decide) rfl rfl (pa_cons (pe_op op_add pe_int (pe_call (ok_law_take (K := K) T) (hr.mono (by decide)) rfl T.g_law_take T.d_law_take.kp (bn_law_take T) .nil pass0 (pa_cons (pv 2) (pa_cons pe_int pa_nil)))) (pa_cons (pe_call (ok_law_take (K := K) T) (hr.mono (by decide)) rfl T.g_law_take T.d_law_take.kp (bn_law_take T) .nil pass0 (pa_cons (pv 2) (pa_cons pe_int pa_nil))) pa_nil)) (by rfl))
      (pss_cons (ps_par (i := 5) (j := 6) (by rfl) sc_law.nd rfl rfl (by decide) rfl rfl (pa_cons (pe_makeK0 T.k_Collection (ok_Collection_init (K := K) T) (hr.mono (by decide)) rfl T.g_Collection (kb_Collection_init_capacity T).choose_spec passL (pk_cons (pv 3) pk_nil)) (pa_cons (pe_call (ok_law_names (K := K) T) (hr.mono (by decide)) rfl T.g_law_names T.d_law_names.kp (bn_law_names T) .nil pass0 (pa_cons (pv 2) (pa_cons pe_int pa_nil))) pa_nil)) (by rfl))
      (pss_cons (ps_for PassesOwn.never rfl (kpiL (K := K) (pe_slice (kSlL (K := K)) (pv 6) po_none (po_some (pv 4)))) (pg_name (i := 7) sc_law.nd rfl (Or.inl rfl))
      (pss_one (ps_expr (pe_methA (pv 5) T.y_Collection.cl T.m_Collection_add (FnOk.raw (ok_Collection_add (K := K) T) (bn_Collection_add T) .nil) (hr.mono (by decide)) (passAll passL) (pa_cons (pv 7) (pa_cons (pe_call (ok_law_polygon (K := K) T) (hr.mono (by decide)) rfl T.g_law_polygon T.d_law_polygon.kp (bn_law_polygon T) .nil pass0 (pa_cons (pv 2) pa_nil)) pa_nil))))))
      (pss_cons (ps_if (pt_cmpR op_ne (pe_prop (pv 5) T.y_Collection.cl T.m_Collection_capacity (ok_Collection_capacity (K := K) T) (hr.mono (by decide)) (bn_Collection_capacity T) .nil pass0 rfl) (pv 3) (nomark _)) (pss_one (ps_ret pe_bl)) pss_nil)
      (pss_cons (ps_for PassesOwn.never rfl (pi_range1 rfl T.n_range (pa_cons pe_int pa_nil)) (pg_name (i := 8) sc_law.nd rfl (Or.inl rfl))
      (pss_cons (ps_set (i := 9) sc_law.nd rfl (Or.inl rfl) (pe_ix (kIxL (K := K)) (pe_lst (pa_cons pe_int (pa_cons (pe_un un_neg pe_int) (pa_cons pe_non (pa_cons pe_bl (pa_cons pe_str (pa_cons (pe_tup (pa_cons pe_int pa_nil)) (pa_cons (pe_op op_add pe_int (pe_call (ok_law_take (K := K) T) (hr.mono (by decide)) rfl T.g_law_take T.d_law_take.kp (bn_law_take T) .nil pass0 (pa_cons (pv 2) (pa_cons pe_int pa_nil)))) (pa_cons (pv 4) pa_nil))))))))) (pe_call (ok_law_take (K := K) T) (hr.mono (by decide)) rfl T.g_law_take T.d_law_take.kp (bn_law_take T) .nil pass0 (pa_cons (pv 2) (pa_cons pe_int pa_nil))) (fun _ _ => rfl)))
      (pss_cons (ps_set (i := 10) sc_law.nd rfl (Or.inl rfl) pe_non)
      (Evl.pss_cut (ps_if (PW.pt (pw_or (pt_not (pt_val (pe_callB (kIsi (K := K)) (by rfl) T.n_isinstance (by decide +kernel) (pa_cons (pv 9) (pa_cons (pe_bltn (v := .ty "int") (by rfl) T.n_int (by decide +kernel) rfl) pa_nil))))) (pw_or (pt_val (pe_callB (kIsi (K := K)) (by rfl) T.n_isinstance (by decide +kernel) (pa_cons (pv 9) (pa_cons (pe_bltn (v := .ty "bool") (by rfl) T.n_bool (by decide +kernel) rfl) pa_nil)))) (pw_or1 (pt_cmpR op_lt (pv 9) pe_int (nomark _)))))) (pss_one (ps_set (i := 10) sc_law.nd rfl (Or.inl rfl) (pe_lst (pa_cons pe_str (pa_cons pe_bl pa_nil))))) (pss_one (ps_if (pt_cmpR op_lt (pv 9) (pv 4) (nomark _)) (pss_one (ps_set (i := 10) sc_law.nd rfl (Or.inl rfl) (pe_lst (pa_cons pe_str (pa_cons (pv 4) pa_nil))))) (pss_one (ps_set (i := 3) sc_law.nd rfl (Or.inl rfl) (pv 9))))))
      (pss_one (ps_if (PW.pt (pw_or (pt_cmpR (kNeD (K := K) hr.units) (pe_call (ok_law_assigned (K := K) T) (hr.mono (by decide)) rfl T.g_law_assigned T.d_law_assigned.kp (bn_law_assigned T) .nil pass0 (pa_cons (pv 5) (pa_cons (pv 9) pa_nil))) (pv 10) (nomark _)) (pw_or1 (pt_cmpR op_ne (pe_callB kReprI (by rfl) T.n_repr (by decide +kernel) (pa_cons (pe_prop (pv 5) T.y_Collection.cl T.m_Collection_capacity (ok_Collection_capacity (K := K) T) (hr.mono (by decide)) (bn_Collection_capacity T) .nil pass0 rfl) pa_nil)) (pe_callB kReprI (by rfl) T.n_repr (by decide +kernel) (pa_cons (pv 3) pa_nil)) (nomark _))))) (pss_one (ps_ret pe_bl)) pss_nil))))))
      (pss_cons (ps_expr (pe_methA (pv 5) T.y_Collection.cl T.m_Collection_resize (FnOk.raw (ok_Collection_resize (K := K) T) (bn_Collection_resize T) .nil) (hr.mono (by decide)) (passAll passL) (pa_cons (pe_op op_add (pv 4) pe_int) pa_nil)))
      (pss_cons (ps_if (pt_cmpR op_notN1 (pe_call (ok_law_added (K := K) T) (hr.mono (by decide)) rfl T.g_law_added T.d_law_added.kp (bn_law_added T) .nil pass0 (pa_cons (pv 5) (pa_cons (pe_ix (kIxL (K := K)) (pv 6) pe_int (fun _ _ => rfl)) (pa_cons (pe_call (ok_law_polygon (K := K) T) (hr.mono (by decide)) rfl T.g_law_polygon T.d_law_polygon.kp (bn_law_polygon T) .nil pass0 (pa_cons (pv 2) pa_nil)) pa_nil)))) pe_non (nomark _)) (pss_one (ps_ret pe_bl)) pss_nil)
      (pss_cons (ps_if (pt_cmpR (kNeD (K := K) hr.units) (pe_call (ok_law_added (K := K) T) (hr.mono (by decide)) rfl T.g_law_added T.d_law_added.kp (bn_law_added T) .nil pass0 (pa_cons (pv 5) (pa_cons (pe_ix (kIxL (K := K)) (pv 6) pe_int (fun _ _ => rfl)) (pa_cons (pe_call (ok_law_polygon (K := K) T) (hr.mono (by decide)) rfl T.g_law_polygon T.d_law_polygon.kp (bn_law_polygon T) .nil pass0 (pa_cons (pv 2) pa_nil)) pa_nil)))) (pe_op op_add (pv 4) pe_int) (nomark _)) (pss_one (ps_ret pe_bl)) pss_nil)
      (pss_cons (ps_expr (pe_methA0 (pv 5) T.y_Collection.cl T.m_Collection_undo (FnOk.raw (ok_Collection_undo (K := K) T) (bk_Collection_undo T).choose_spec.2 (bk_Collection_undo T).choose_spec.1) (hr.mono (by decide)) (passAll passL)))
      (pss_one (ps_if (PW.pt (pw_or (pt_cmpR op_ne (pe_prop (pv 5) T.y_Collection.cl T.m_Collection_capacity (ok_Collection_capacity (K := K) T) (hr.mono (by decide)) (bn_Collection_capacity T) .nil pass0 rfl) (pe_op op_add (pv 4) pe_int) (nomark _)) (pw_or1 (pt_cmpR op_ne (pe_callB (cLenO (K := K) (ok_Collection_len (K := K) T) (hr.mono (by decide)) (bn_Collection_len T) pass0) (by rfl) T.n_len (by decide +kernel) (pa_cons (pv 5) pa_nil)) (pv 4) (nomark _))))) (pss_one (ps_ret pe_bl)) pss_nil)))))))))))))
      (pss_one (ps_ret pe_bl)))), ?_⟩
    walk_at "gx"
    unfold tMakeK
    walk_at "gx"
    refine ⟨rfl, rfl, mk_col (by decide) fun c kd el H1 s1 hc0 hkd0 hel0 hc => ?_⟩
    obtain ⟨dx, ho⟩ := hc.ob
    refine ⟨c, dx, _, rfl, ho, c, kd, el, 20, [], [], rfl, hc, ?_⟩
    walk_at "gx"
    rw [if_neg (by decide)]
    walk_at "gx"
    have hS1 := s1.seq hS
    refine r_lenL hS1 ?_
    rw [List.length_map]
    walk_at "gx"
    refine loopR1 (by omega) (fun i σ' H' => Same H H' ∧ ∃ o1 o2 o3 o4 o5 o6 o7 o8 o9 o10, σ' = [some (.ref a), o1, o2, o3, o4, o5, o6, o7, o8, o9, o10]) ⟨s1, _, _, _, _, _, _, _, _, _, _, rfl⟩ ?_ ?_
    · rintro i σ' H2 hi ⟨s2, o1, o2, o3, o4, o5, o6, o7, o8, o9, o10, rfl⟩
      clear hc ho hc0 hkd0 hel0 hS1 s1
      clear c kd el dx H1
      walk_at "gx"
      refine ⟨a, ns, _, rfl, s2.seq hS, hlen, by omega, by omega, fun l H3 hl0 s3 hd3 => ?_⟩
      have hl1 : H l = none := s2.free hl0
      have S3 := s2.trans s3
      walk_at "gx"
      refine ⟨l, 10, rfl, hd3, by decide, by decide, fun m0 H4 a1 a2 k4 hd4 => ?_⟩
      walk_at "gx"
      refine ⟨l, 6, rfl, hd4, by decide, by decide, fun n0 H5 b1 b2 k5 hd5 => ?_⟩
      have S5 : Same H H5 := same_kp S3 hl1 (k4.trans k5)
      walk_at "gx"
      refine ⟨rfl, rfl, mk_col (decide_eq_true (by omega)) fun c kd el H6 s6 hc0 hkd0 hel0 hc => ?_⟩
      have S6 := S5.trans s6
      have hd6 := hd5.same s6
      walk_at "gx"
      refine ⟨l, rfl, hd6, fun p zs H7 k7 hp0 hpl hd7 hp7 hzl hzn => ?_⟩
      obtain ⟨n, rfl⟩ : ∃ n : Nat, n0 = (n : Int) := ⟨n0.toNat, by omega⟩
      have hn5 : n ≤ 5 := by omega
      have S7 : Same H H7 := same_kp S6 hl1 k7
      have hc7 := hc.kp k7 hd6
      obtain ⟨y1, y2, hly, hyr⟩ := id hd5
      have nlc : l ≠ c := fun w => by rw [← w, hly] at hc0; cases hc0
      have nlk : l ≠ kd := fun w => by rw [← w, hly] at hkd0; cases hkd0
      have nle : l ≠ el := fun w => by rw [← w, hly] at hel0; cases hel0
      have npc : p ≠ c := fun w => by obtain ⟨⟨dx, e⟩, _⟩ := hc; rw [← w, hp0] at e; cases e
      have npk : p ≠ kd := fun w => by obtain ⟨_, e, _⟩ := hc; rw [← w, hp0] at e; cases e
      have npe : p ≠ el := fun w => by obtain ⟨_, _, as, e, _⟩ := hc; rw [← w, hp0] at e; cases e
      have hpN : p ∉ [l, c, kd, el] := by simp [hpl, npc, npk, npe]
      have hN0 : ∀ x ∈ [l, c, kd, el], H x = none := by
        intro x hx
        simp only [List.mem_cons, List.not_mem_nil, or_false] at hx
        rcases hx with rfl | rfl | rfl | rfl
        · exact hl1
        · exact S5.free hc0
        · exact S5.free hkd0
        · exact S5.free hel0
      walk_at "gx"
      refine r_slL (SqL.of hp7) fun p8 hp8 => ?_
      generalize e8 : upd H7 p8 _ = H8
      obtain ⟨s8, g8⟩ := fresh hp8 e8
      rw [cut_to, ← List.map_take] at g8
      have S8 := S7.trans s8
      have hpN8 : p8 ∉ [l, c, kd, el] := by
        intro hx
        simp only [List.mem_cons, List.not_mem_nil, or_false] at hx
        rcases hx with rfl | rfl | rfl | rfl
        · obtain ⟨_, _, e, _⟩ := hd7; rw [hp8] at e; cases e
        · obtain ⟨⟨dx, e⟩, _⟩ := hc7; rw [hp8] at e; cases e
        · obtain ⟨_, e, _⟩ := hc7; rw [hp8] at e; cases e
        · obtain ⟨_, _, as, e, _⟩ := hc7; rw [hp8] at e; cases e
      simp only [List.set_cons_zero, List.set_cons_succ]
      refine loopL (xs := (zs.take n).map V.str) (fun k σ' H' => KpL [l, c, kd, el] H8 H' ∧ DrAt H' l ∧ (∃ kvs es, ColAt K H' c kd el (5 + m0) kvs es ∧ kvs.map (·.1) = zs.take k ∧ es.length = k) ∧ ∃ o7, σ' = [some (.ref a), some (.int (i : Int)), some (.ref l), some (.int (5 + m0)), some (.int (n : Int)), some (.ref c), some (.ref p), o7, o8, o9, o10]) ⟨KpL.of_same (Same.refl _), hd7.same s8, ⟨[], [], hc7.same s8, rfl, rfl⟩, _, rfl⟩ (fun k σ' H' _ h => SqL.of (h.1 _ _ hpN8 g8)) ?_ ?_
      · rintro k x σ' H9 hx ⟨k9, hd9, ⟨kvs, es, hc9, hkm, hel9⟩, o7, rfl⟩
        rw [List.getElem?_map] at hx
        obtain ⟨z, hz, rfl⟩ := Option.map_eq_some_iff.mp hx
        have hkn : k < n := by
          have := (List.getElem?_eq_some_iff.mp hz).1
          rw [List.length_take] at this; omega
        have hz7 : zs[k]? = some z := by
          rw [List.getElem?_take_of_lt hkn] at hz; exact hz
        obtain ⟨dx, ho⟩ := hc9.ob
        walk_at "gx"
        refine ⟨c, dx, _, rfl, ho, rfl, ?_⟩
        walk_at "gx"
        refine ⟨l, rfl, hd9, fun r H10 k10 hd10 hp10 => ?_⟩
        have hc10 := hc9.kp k10 hd9
        have hkl : kvs.length = k := by
          have := congrArg List.length hkm
          rw [List.length_map, List.length_take] at this; omega
        have hzo := hzn.ok z (List.mem_of_getElem? hz7)
        walk_at "gx"
        refine ⟨c, z, r, rfl, kd, el, 5 + m0, kvs, es, hc10, hzo.2, hzo.1, hp10, by omega, by omega, lkS_none (by rw [hkm]; exact nd_take hzn.nd hz7 (Nat.le_refl _)), fun w => by omega, fun _ H11 k11 c11 => ?_⟩
        have K11 : KpL [l, c, kd, el] H8 H11 := k9.trans (((KpL.of_kp k10).mono (by simp)).trans (k11.mono (by simp)))
        walk_at "gx"
        refine ⟨K11, dr_kpl hd10 k11 (by simp [nlk, nle]), ⟨_, _, c11, ?_, by simp [hel9]⟩, _, rfl⟩
        rw [List.map_append, hkm, List.take_succ, hz7]; rfl
      · rintro σ' H9 ⟨k9, hd9, ⟨kvs, es, hc9, hkm, hel9⟩, o7, rfl⟩
        have htl : ((zs.take n).map V.str).length = n := by rw [List.length_map, List.length_take]; omega
        rw [htl] at hkm hel9
        have hkl : kvs.length = n := by
          have := congrArg List.length hkm
          rw [List.length_map, List.length_take] at this; omega
        obtain ⟨dx, ho⟩ := hc9.ob
        walk_at "gx"
        refine ⟨c, dx, _, rfl, ho, c, kd, el, _, kvs, es, rfl, hc9, ?_⟩
        walk_at "gx"
        rw [if_neg (by rw [decide_eq_true rfl]; decide)]
        walk_at "gx"
        simp only [List.set_cons_zero, List.set_cons_succ]
        refine loopR1 (by decide) (fun j σ' H' => KpL [l, c, kd, el] H8 H' ∧ DrAt H' l ∧ ∃ mo : Int, 0 ≤ mo ∧ mo ≤ 20 ∧ ColAt K H' c kd el mo kvs es ∧ ∃ o8 o9 o10, σ' = [some (.ref a), some (.int (i : Int)), some (.ref l), some (.int mo), some (.int (n : Int)), some (.ref c), some (.ref p), o7, o8, o9, o10]) ⟨k9, hd9, 5 + m0, by omega, by omega, hc9, _, _, _, rfl⟩ ?_ ?_
        · rintro j σ' H10 hj ⟨k10, hd10, mo, hm1, hm2, hc10, o8, o9, o10, rfl⟩
          walk_at "gx"
          refine r_new fun t1 ht1 => ?_
          generalize e11 : upd H10 t1 _ = H11
          obtain ⟨s11, g11⟩ := fresh ht1 e11
          have hd11 := hd10.same s11
          walk_at "gx"
          refine ⟨l, 8, rfl, hd11, by decide, by decide, fun u H12 u1 u2 k12 hd12 => ?_⟩
          walk_at "gx"
          refine r_new fun t2 ht2 => ?_
          generalize e13 : upd H12 t2 _ = H13
          obtain ⟨s13, g13⟩ := fresh ht2 e13
          have hd13 := hd12.same s13
          walk_at "gx"
          refine ⟨l, 8, rfl, hd13, by decide, by decide, fun d H14 d1 d2 k14 hd14 => ?_⟩
          have nt2 : t2 ≠ l := fun w => by obtain ⟨_, _, e, _⟩ := hd12; rw [← w, ht2] at e; cases e
          have nt1 : t1 ≠ l := fun w => by obtain ⟨_, _, e, _⟩ := hd10; rw [← w, ht1] at e; cases e
          have g14 := k14 _ _ nt2 g13
          have gt14 := k14 _ _ nt1 (s13 _ _ (k12 _ _ nt1 g11))
          have K14 : KpL [l, c, kd, el] H8 H14 := k10.trans ((KpL.of_kp ((((Kp.of_same s11).trans k12).same s13).trans k14)).mono (by simp))
          have hc14 := (((hc10.same s11).kp k12 hd11).same s13).kp k14 hd13
          obtain ⟨v, kn, hat, hkd, hvv⟩ : ∃ (v : V) (kn : String), atI [V.int 0, V.int (-1), V.non, V.bl true, V.str "7", V.ref t1, V.int (1 + u), V.int (n : Int)] d = some v ∧ Kd K H14 v kn ∧ ((∃ k : Int, v = .int k ∧ k ≤ 20) ∨ (∃ b, v = .bl b) ∨ (kn ≠ "int" ∧ kn ≠ "bool")) := by
            rcases (show d = 0 ∨ d = 1 ∨ d = 2 ∨ d = 3 ∨ d = 4 ∨ d = 5 ∨ d = 6 ∨ d = 7 by omega) with rfl | rfl | rfl | rfl | rfl | rfl | rfl | rfl
            · exact ⟨_, _, rfl, .int _, .inl ⟨_, rfl, by decide⟩⟩
            · exact ⟨_, _, rfl, .int _, .inl ⟨_, rfl, by decide⟩⟩
            · exact ⟨_, _, rfl, .non, .inr (.inr (by decide))⟩
            · exact ⟨_, _, rfl, .bl _, .inr (.inl ⟨_, rfl⟩)⟩
            · exact ⟨_, _, rfl, .str _, .inr (.inr (by decide))⟩
            · exact ⟨_, _, rfl, .tup (SqT.of gt14), .inr (.inr (by decide))⟩
            · exact ⟨_, _, rfl, .int _, .inl ⟨_, rfl, by omega⟩⟩
            · exact ⟨_, _, rfl, .int _, .inl ⟨_, rfl, by omega⟩⟩
          refine r_ixL (SqL.of g14) hat ?_
          walk_at "gx"
          simp only [List.set_cons_zero, List.set_cons_succ]
          refine r_cut (fun σ' H' => Same H14 H' ∧ ∃ (mo' : Int) (r : V), 0 ≤ mo' ∧ mo' ≤ 20 ∧ ((goodI v (.int 1) = false ∧ mo' = mo ∧ Dp K H' r (.list [.str "integer", .bool true])) ∨ (∃ k : Int, v = .int k ∧ goodI v (.int 1) = true ∧ k < (n : Int) ∧ mo' = mo ∧ Dp K H' r (.list [.str "limit", .int (n : Int)])) ∨ (∃ k : Int, v = .int k ∧ goodI v (.int 1) = true ∧ (n : Int) ≤ k ∧ mo' = k ∧ r = .non)) ∧
            σ' = [some (.ref a), some (.int (i : Int)), some (.ref l), some (.int mo'), some (.int (n : Int)), some (.ref c), some (.ref p), o7, some (.int (j : Int)), some v, some r]) ?_ ?_
          · walk_at "gx"
            refine r_isi (.ty "int") hkd.ty hkd.kitI ?_
            refine ⟨_, rfl, ?_⟩
            rcases hvv with ⟨k, rfl, hk⟩ | ⟨b, rfl⟩ | ⟨h1, h2⟩
            · cases hkd
              rw [if_neg (by decide)]
              walk_at "gx"
              refine r_isi (.ty "bool") (Kd.int (K := K) (H := H14) k).ty (Kd.kitB (K := K) (H := H14) (.int k)) ?_
              refine ⟨_, rfl, ?_⟩
              rw [if_neg (by decide)]
              walk_at "gx"
              refine r_dec (fun hk1 => ?_) (fun hk1 => ?_)
              · walk_at "gx"
                refine r_new fun p9 hp9 => ?_
                generalize e15 : upd H14 p9 _ = H15
                obtain ⟨s15, g15⟩ := fresh hp9 e15
                walk_at "gx"
                exact ⟨s15, mo, .ref p9, hm1, hm2, .inl ⟨decide_eq_false (by omega), rfl, .lst (SqL.of g15) (.cons (.str _) (.cons (.bl _) .nil))⟩, rfl⟩
              · walk_at "gx"
                refine r_dec (fun hkn => ?_) (fun hkn => ?_)
                · walk_at "gx"
                  refine r_new fun p9 hp9 => ?_
                  generalize e15 : upd H14 p9 _ = H15
                  obtain ⟨s15, g15⟩ := fresh hp9 e15
                  walk_at "gx"
                  exact ⟨s15, mo, .ref p9, hm1, hm2, .inr (.inl ⟨k, rfl, decide_eq_true (by omega), hkn, rfl, .lst (SqL.of g15) (.cons (.str _) (.cons (.int _) .nil))⟩), rfl⟩
                · walk_at "gx"
                  exact ⟨Same.refl _, k, .non, by omega, hk, .inr (.inr ⟨k, rfl, decide_eq_true (by omega), by omega, rfl, rfl⟩), rfl⟩
            · cases hkd
              rw [if_neg (by decide)]
              walk_at "gx"
              refine r_isi (.ty "bool") (Kd.bl (K := K) (H := H14) b).ty (Kd.kitB (K := K) (H := H14) (.bl b)) ?_
              refine ⟨_, rfl, ?_⟩
              rw [if_pos (by decide)]
              walk_at "gx"
              refine r_new fun p9 hp9 => ?_
              generalize e15 : upd H14 p9 _ = H15
              obtain ⟨s15, g15⟩ := fresh hp9 e15
              walk_at "gx"
              exact ⟨s15, mo, .ref p9, hm1, hm2, .inl ⟨rfl, rfl, .lst (SqL.of g15) (.cons (.str _) (.cons (.bl _) .nil))⟩, rfl⟩
            · rw [if_pos (by rw [beq_false_of_ne h1, beq_false_of_ne h2]; rfl)]
              have hb : goodI v (.int 1) = false := by
                cases hkd <;> first | rfl | exact absurd rfl h1
              walk_at "gx"
              refine r_new fun p9 hp9 => ?_
              generalize e15 : upd H14 p9 _ = H15
              obtain ⟨s15, g15⟩ := fresh hp9 e15
              walk_at "gx"
              exact ⟨s15, mo, .ref p9, hm1, hm2, .inl ⟨hb, rfl, .lst (SqL.of g15) (.cons (.str _) (.cons (.bl _) .nil))⟩, rfl⟩
          · rintro σ' H15 ⟨s15, mo', r, hm1', hm2', hdue, rfl⟩
            walk_at "gx"
            have hc15 := hc14.same s15
            have hd15 := hd14.same s15
            have K15 := K14.trans (KpL.of_same s15 (ls := [l, c, kd, el]))
            refine asgd_mono (M := fun r2 H16 => KpL [l, c, kd, el] H8 H16 ∧ DrAt H16 l ∧ ColAt K H16 c kd el mo' kvs es ∧ ∃ D : PyData, SeqAt.shaped D = true ∧ Dp K H16 r2 D ∧ Dp K H16 r D) ?_ ?_
            · refine ⟨c, kd, el, mo, kvs, es, v, kn, rfl, hc15, hkd.same s15, fun hb r2 H16 s16 h2 => ?_, fun k ek hg hl r2 H16 s16 h2 => ?_, fun k ek hg hl H16 k16 c16 => ?_⟩
              · rcases hdue with ⟨_, rfl, hD⟩ | ⟨_, _, hg', _⟩ | ⟨_, _, hg', _⟩
                · exact ⟨K15.trans (KpL.of_same s16), hd15.same s16, hc15.same s16, _, shpI, h2, Dp.same s16 _ _ hD⟩
                · rw [hb] at hg'; cases hg'
                · rw [hb] at hg'; cases hg'
              · rw [hkl] at hl h2
                rcases hdue with ⟨hb, _⟩ | ⟨_, _, _, _, rfl, hD⟩ | ⟨k', ek', _, hl', _⟩
                · rw [hb] at hg; cases hg
                · exact ⟨K15.trans (KpL.of_same s16), hd15.same s16, hc15.same s16, _, shpN _, h2, Dp.same s16 _ _ hD⟩
                · rw [ek] at ek'; cases ek'; omega
              · rw [hkl] at hl
                rcases hdue with ⟨hb, _⟩ | ⟨k', ek', _, hl', _⟩ | ⟨k', ek', _, _, rfl, rfl⟩
                · rw [hb] at hg; cases hg
                · rw [ek] at ek'; cases ek'; omega
                · rw [ek] at ek'; cases ek'
                  exact ⟨K15.trans ((KpL.of_kp k16).mono (by simp)), dr_kpl hd15 (KpL.of_kp k16) (by simp [nlc]), c16, .none, rfl, .non, .non⟩
            · rintro r2 H16 ⟨K16, hd16, hc16, D, hsh, h1, h2⟩
              walk_at "gx"
              refine r_neD h1 h2 hsh hsh ?_
              rw [SeqAt.eqv_refl D (SeqAt.canLay_of_shaped hsh)]
              walk_at "gx"
              rw [if_neg (by decide)]
              obtain ⟨dx2, ho2⟩ := hc16.ob
              have hlog : mo'.natAbs.log2 < 1920 := Nat.lt_of_le_of_lt (Nat.log2_le_self _) (by omega)
              walk_at "gx"
              refine ⟨c, dx2, _, rfl, ho2, c, kd, el, _, kvs, es, rfl, hc16, ?_⟩
              walk_at "gx"
              refine ⟨mo', rfl, hlog, ?_⟩
              walk_at "gx"
              refine ⟨mo', rfl, hlog, ?_⟩
              walk_at "gx"
              rw [if_neg (by rw [decide_eq_true rfl]; decide)]
              walk_at "gx"
              exact ⟨K16, hd16, mo', hm1', hm2', hc16, _, _, _, rfl⟩
        · rintro σ' H10 ⟨k10, hd10, mo, hm1, hm2, hc10, o8, o9, o10, rfl⟩
          obtain ⟨dx, ho⟩ := hc10.ob
          walk_at "gx"
          refine ⟨c, dx, _, rfl, ho, rfl, ?_⟩
          walk_at "gx"
          refine ⟨c, kd, el, mo, kvs, es, .int ((n : Int) + 1), "int", rfl, hc10, .int _, fun w => ?_, fun k ek _ hl => ?_, fun k ek _ _ H11 k11 c11 => ?_⟩
          · rw [show goodI (.int ((n : Int) + 1)) (.int 1) = true from decide_eq_true (by omega)] at w; cases w
          · cases ek; omega
          · cases ek
            have K11 := k10.trans ((KpL.of_kp k11).mono (ms := [l, c, kd, el]) (by simp))
            have hd11 := dr_kpl hd10 (KpL.of_kp k11) (by simp [nlc])
            obtain ⟨z5, hz5⟩ : ∃ z, zs[5]? = some z := ⟨_, List.getElem?_eq_getElem (by omega)⟩
            obtain ⟨z6, hz6⟩ : ∃ z, zs[6]? = some z := ⟨_, List.getElem?_eq_getElem (by omega)⟩
            walk_at "gx"
            refine r_ixL (SqL.of (K11 _ _ hpN (s8 _ _ hp7))) (atI_nat (j := 5) (v := .str z5) (by rw [List.getElem?_map, hz5]; rfl)) ?_
            walk_at "gx"
            refine ⟨l, rfl, hd11, fun r H12 k12 hd12 hp12 => ?_⟩
            have hc12 := c11.kp k12 hd11
            have K12 := K11.trans ((KpL.of_kp k12).mono (ms := [l, c, kd, el]) (by simp))
            have h5 := hzn.ok z5 (List.mem_of_getElem? hz5)
            have h6 := hzn.ok z6 (List.mem_of_getElem? hz6)
            walk_at "gx"
            refine ⟨c, z5, r, kd, el, (n : Int) + 1, kvs, es, rfl, hc12, h5.2, h5.1, hp12, by omega, by omega, lkS_none (by rw [hkm]; exact nd_take hzn.nd hz5 hn5), fun w => by omega, fun _ H13 k13 c13 => ?_⟩
            have K13 := K12.trans (k13.mono (ms := [l, c, kd, el]) (by simp))
            have hd13 := dr_kpl hd12 k13 (by simp [nlk, nle])
            walk_at "gx"
            rw [if_neg (by decide)]
            walk_at "gx"
            refine r_ixL (SqL.of (K13 _ _ hpN (s8 _ _ hp7))) (atI_nat (j := 6) (v := .str z6) (by rw [List.getElem?_map, hz6]; rfl)) ?_
            walk_at "gx"
            refine ⟨l, rfl, hd13, fun r2 H14 k14 hd14 hp14 => ?_⟩
            have hc14 := c13.kp k14 hd13
            have K14 := K13.trans ((KpL.of_kp k14).mono (ms := [l, c, kd, el]) (by simp))
            have hl1 : (kvs ++ [(z5, r)]).length = n + 1 := by rw [List.length_append, hkl]; rfl
            have hkm1 : (kvs ++ [(z5, r)]).map (·.1) = zs.take n ++ [z5] := by rw [List.map_append, hkm]; rfl
            have hno6 : lkS (kvs ++ [(z5, r)]) z6 = none := by
              refine lkS_none ?_
              rw [hkm1, List.mem_append, List.mem_singleton]
              rintro (w | w)
              · exact nd_take hzn.nd hz6 (by omega) w
              · rw [w] at hz6
                have := (List.getElem?_inj (by omega) hzn.nd).mp (hz6.trans hz5.symm)
                omega
            walk_at "gx"
            refine ⟨c, z6, r2, kd, el, (n : Int) + 1, _, _, rfl, hc14, h6.2, h6.1, hp14, by omega, by rw [List.length_append, hel9]; simp; omega, hno6, fun _ H15 s15 => ?_, fun w => by omega⟩
            rw [hl1]
            walk_at "gx"
            refine r_neD (.int _) (.int _) rfl rfl ?_
            rw [show ((n + 1 : Nat) : Int) + 1 = (n : Int) + 2 by omega, SeqAt.eqv_refl _ rfl]
            walk_at "gx"
            rw [if_neg (by decide)]
            have c15 := hc14.same s15
            obtain ⟨dx3, ho3⟩ := c15.ob
            walk_at "gx"
            refine ⟨c, dx3, _, rfl, ho3, rfl, ?_⟩
            walk_at "gx"
            refine ⟨c, kd, el, (n : Int) + 1, _, kvs, es, rfl, c15, by omega, fun ke H16 k16 hke c16 => ?_⟩
            have K16 := (K14.trans (KpL.of_same s15)).trans (k16.mono (ms := [l, c, kd, el]) (by simp))
            obtain ⟨dx4, ho4⟩ := c16.ob
            walk_at "gx"
            refine ⟨c, dx4, _, rfl, ho4, c, ke, el, _, kvs, es, rfl, c16, ?_⟩
            walk_at "gx"
            rw [if_neg (by rw [decide_eq_true rfl]; decide)]
            walk_at "gx"
            refine r_lenO ho4 T.l_Collection ⟨c, ke, el, _, kvs, es, rfl, c16, kvs.length, rfl, by omega, ?_⟩
            rw [hkl]
            walk_at "gx"
            rw [if_neg (by rw [decide_eq_true rfl]; decide)]
            walk_at "gx"
            exact ⟨same_kpl S8 K16 hN0, _, _, _, _, _, _, _, _, _, _, rfl⟩
    · rintro σ' H2 ⟨s2, o1, o2, o3, o4, o5, o6, o7, o8, o9, o10, rfl⟩
      walk_at "gx"
      exact q H2

end
end G
namespace G
open PySem PySem.Spec PyProof.Rows L2
theorem facts {w : World} {K : PySem.W.Frag} {h : Heap} {mg : Str → Option Value} {f : Addr} (X : K.In h) (G : h.Ns mainGlobals mg) (hfa : mg ("law" : Str) = some (.ref f)) (c : SaysM fcs fn gsn K) :
    ∃ fd : FuncData, (∀ (s : Shared) (v : Value), BindsTo s fd ⟨[v], []⟩ [("_law_script", v)]) ∧ ∀ base : Heap, K.In base → base.Ns mainGlobals mg → FnQ Pg w K mg base CX0 16 f fd ["_law_script"] (sp_law K) := by
  have T : Tx K mg := ⟨(He.free_ok X G (c.fact 0 (f := fun K => (He.Fa.free "isinstance").ok K) rfl)),
    (He.free_ok X G (c.fact 1 (f := fun K => (He.Fa.free "int").ok K) rfl)),
    (He.free_ok X G (c.fact 2 (f := fun K => (He.Fa.free "bool").ok K) rfl)),
    (He.free_ok X G (c.fact 3 (f := fun K => (He.Fa.free "tuple").ok K) rfl)),
    (He.free_ok X G (c.fact 4 (f := fun K => (He.Fa.free "all").ok K) rfl)),
    (He.free_ok X G (c.fact 5 (f := fun K => (He.Fa.free "len").ok K) rfl)),
    (He.free_ok X G (c.fact 6 (f := fun K => (He.Fa.free "enumerate").ok K) rfl)),
    (He.free_ok X G (c.fact 7 (f := fun K => (He.Fa.free "list").ok K) rfl)),
    (He.free_ok X G (c.fact 8 (f := fun K => (He.Fa.free "min").ok K) rfl)),
    (He.free_ok X G (c.fact 9 (f := fun K => (He.Fa.free "max").ok K) rfl)),
    (He.free_ok X G (c.fact 10 (f := fun K => (He.Fa.free "zip").ok K) rfl)),
    (He.free_ok X G (c.fact 11 (f := fun K => (He.Fa.free "range").ok K) rfl)),
    (He.free_ok X G (c.fact 12 (f := fun K => (He.Fa.free "sum").ok K) rfl)),
    (He.free_ok X G (c.fact 13 (f := fun K => (He.Fa.free "super").ok K) rfl)),
    (He.free_ok X G (c.fact 14 (f := fun K => (He.Fa.free "abs").ok K) rfl)),
    (He.free_ok X G (c.fact 15 (f := fun K => (He.Fa.free "str").ok K) rfl)),
    (He.free_ok X G (c.fact 16 (f := fun K => (He.Fa.free "dict").ok K) rfl)),
    (He.free_ok X G (c.fact 17 (f := fun K => (He.Fa.free "repr").ok K) rfl)),
    (He.glo_ok X G (c.fact 18 (f := fun K => (He.Fa.glo "is_integer").ok K) rfl)),
    (He.glo_ok X G (c.fact 19 (f := fun K => (He.Fa.glo "check_integer").ok K) rfl)),
    (He.glo_ok X G (c.fact 20 (f := fun K => (He.Fa.glo "is_point").ok K) rfl)),
    (He.glo_ok X G (c.fact 21 (f := fun K => (He.Fa.glo "cross_of").ok K) rfl)),
    (He.glo_ok X G (c.fact 22 (f := fun K => (He.Fa.glo "difference").ok K) rfl)),
    (He.glo_ok X G (c.fact 23 (f := fun K => (He.Fa.glo "turn_of").ok K) rfl)),
    (He.glo_ok X G (c.fact 24 (f := fun K => (He.Fa.glo "check_points").ok K) rfl)),
    (He.glo_ok X G (c.fact 25 (f := fun K => (He.Fa.glo "triples").ok K) rfl)),
    (He.glo_ok X G (c.fact 26 (f := fun K => (He.Fa.glo "check_turns").ok K) rfl)),
    (He.glo_ok X G (c.fact 27 (f := fun K => (He.Fa.glo "is_between").ok K) rfl)),
    (He.glo_ok X G (c.fact 28 (f := fun K => (He.Fa.glo "is_on").ok K) rfl)),
    (He.glo_ok X G (c.fact 29 (f := fun K => (He.Fa.glo "have_common_point").ok K) rfl)),
    (He.glo_ok X G (c.fact 30 (f := fun K => (He.Fa.glo "edges_of").ok K) rfl)),
    (He.glo_ok X G (c.fact 31 (f := fun K => (He.Fa.glo "check_crossings").ok K) rfl)),
    (He.glo_ok X G (c.fact 32 (f := fun K => (He.Fa.glo "area_of").ok K) rfl)),
    (He.glo_ok X G (c.fact 33 (f := fun K => (He.Fa.glo "arranged").ok K) rfl)),
    (He.glo_ok X G (c.fact 34 (f := fun K => (He.Fa.glo "checked_corners").ok K) rfl)),
    (He.glo_ok X G (c.fact 35 (f := fun K => (He.Fa.glo "first_reflex").ok K) rfl)),
    (He.glo_ok X G (c.fact 36 (f := fun K => (He.Fa.glo "check_map").ok K) rfl)),
    (He.glo_ok X G (c.fact 37 (f := fun K => (He.Fa.glo "check_polygon").ok K) rfl)),
    (He.glo_ok X G (c.fact 38 (f := fun K => (He.Fa.glo "to_polygon").ok K) rfl)),
    (He.glo_ok X G (c.fact 39 (f := fun K => (He.Fa.glo "is_name").ok K) rfl)),
    (He.glo_ok X G (c.fact 40 (f := fun K => (He.Fa.glo "check_name").ok K) rfl)),
    (He.glo_ok X G (c.fact 41 (f := fun K => (He.Fa.glo "_law_pool").ok K) rfl)),
    (He.glo_ok X G (c.fact 42 (f := fun K => (He.Fa.glo "_law_take").ok K) rfl)),
    (He.glo_ok X G (c.fact 43 (f := fun K => (He.Fa.glo "_law_carry").ok K) rfl)),
    (He.glo_ok X G (c.fact 44 (f := fun K => (He.Fa.glo "_law_polygon").ok K) rfl)),
    (He.glo_ok X G (c.fact 45 (f := fun K => (He.Fa.glo "_law_names").ok K) rfl)),
    (He.glo_ok X G (c.fact 46 (f := fun K => (He.Fa.glo "_law_assigned").ok K) rfl)),
    (He.glo_ok X G (c.fact 47 (f := fun K => (He.Fa.glo "_law_added").ok K) rfl)),
    (He.glo_ok X G (c.fact 48 (f := fun K => (He.Fa.glo "law").ok K) rfl)),
    (He.int_ok X G (c.fact 49 (f := fun K => (He.Fa.int "MIN_CORNERS" 3).ok K) rfl)),
    (He.str_ok X G (c.fact 50 (f := fun K => (He.Fa.str "LETTERS" "abcdefghijklmnopqrstuvwxyz").ok K) rfl)),
    (He.int_ok X G (c.fact 51 (f := fun K => (He.Fa.int "MAX_LENGTH" 8).ok K) rfl)),
    (He.glo_ok X G (c.fact 52 (f := fun K => (He.Fa.glo "InvalidPolygon").ok K) rfl)),
    (oexFB_ok (c.fact 53 (f := fun K => oexFB K (He.ga K "InvalidPolygon") (He.ma K (He.ga K "InvalidPolygon") "__init__") ["position"]) rfl)),
    (He.glo_ok X G (c.fact 54 (f := fun K => (He.Fa.glo "DegenerateCorner").ok K) rfl)),
    (oexFB_ok (c.fact 55 (f := fun K => oexFB K (He.ga K "DegenerateCorner") (He.ma K (He.ga K "DegenerateCorner") "__init__") ["position"]) rfl)),
    (He.glo_ok X G (c.fact 56 (f := fun K => (He.Fa.glo "CrossingEdges").ok K) rfl)),
    (oexFB_ok (c.fact 57 (f := fun K => oexFB K (He.ga K "CrossingEdges") (He.ma K (He.ga K "CrossingEdges") "__init__") ["first", "second"]) rfl)),
    (He.glo_ok X G (c.fact 58 (f := fun K => (He.Fa.glo "NotConvex").ok K) rfl)),
    (oexFB_ok (c.fact 59 (f := fun K => oexFB K (He.ga K "NotConvex") (He.ma K (He.ga K "NotConvex") "__init__") ["position"]) rfl)),
    (He.glo_ok X G (c.fact 60 (f := fun K => (He.Fa.glo "LimitExceeded").ok K) rfl)),
    (oexOFB_ok (c.fact 61 (f := fun K => oexOFB K (He.ga K "LimitExceeded") (He.ma K (He.ga K "LimitExceeded") "__init__") ["size"]) rfl)),
    (He.glo_ok X G (c.fact 62 (f := fun K => (He.Fa.glo "InvalidInteger").ok K) rfl)),
    (excF_ok (c.fact 63 (f := fun K => excFB K (He.ga K "InvalidInteger")) rfl)),
    (He.glo_ok X G (c.fact 64 (f := fun K => (He.Fa.glo "InvalidMap").ok K) rfl)),
    (excF_ok (c.fact 65 (f := fun K => excFB K (He.ga K "InvalidMap")) rfl)),
    (He.glo_ok X G (c.fact 66 (f := fun K => (He.Fa.glo "InvalidName").ok K) rfl)),
    (excF_ok (c.fact 67 (f := fun K => excFB K (He.ga K "InvalidName")) rfl)),
    (He.exm_ok (c.fact 68 (f := fun K => (He.Fa.exm "InvalidInteger" "InvalidInteger" true).ok K) rfl)),
    (He.exm_ok (c.fact 69 (f := fun K => (He.Fa.exm "LimitExceeded" "InvalidInteger" false).ok K) rfl)),
    (He.exm_ok (c.fact 70 (f := fun K => (He.Fa.exm "LimitExceeded" "LimitExceeded" true).ok K) rfl)),
    (He.glo_ok X G (c.fact 71 (f := fun K => (He.Fa.glo "Polygon").ok K) rfl)),
    (insTyB_ok (c.fact 72 (f := fun K => insTyB K (He.ga K "Polygon")) rfl)),
    (mkB_ok (c.fact 73 (f := fun K => mkB K (He.ga K "Polygon") (He.ma K (He.ga K "Polygon") "__init__")) rfl)),
    (He.noat_ok (c.fact 74 (f := fun K => (He.Fa.noat "Polygon" "kept").ok K) rfl)),
    (He.noat_ok (c.fact 75 (f := fun K => (He.Fa.noat "Polygon" "reflex").ok K) rfl)),
    (propB_ok (c.fact 76 (f := fun K => propB K (He.ga K "Polygon") (He.ga K "Polygon") "corners") rfl)),
    (propB_ok (c.fact 77 (f := fun K => propB K (He.ga K "Polygon") (He.ga K "Polygon") "is_convex") rfl)),
    (methB_ok (c.fact 78 (f := fun K => methB K (He.ga K "Polygon") (He.ga K "Polygon") "image_corners") rfl)),
    (methB_ok (c.fact 79 (f := fun K => methB K (He.ga K "Polygon") (He.ga K "Polygon") "moved") rfl)),
    (creadB_ok (c.fact 80 (f := fun K => creadB K (He.ga K "Polygon")) rfl)),
    (cvalB_ok (c.fact 81 (f := fun K => cvalB K (He.ga K "Polygon") "MAX_CORNERS" (.int 60)) rfl)),
    (isiB_ok (c.fact 82 (f := fun K => isiB K (.ref (He.ga K "Polygon")) (.ref (He.ga K "Polygon")) true) rfl)),
    (kitNoB_ok (c.fact 83 (f := fun K => kitNoB K (He.ga K "Polygon")) rfl)),
    ((c.fact 84 (f := fun K => PySem.W.notFirst K (He.ga K "Polygon") (.ref (He.ga K "Polygon"))) rfl)),
    (kitNoB_nf (c.fact 85 (f := fun K => kitNoB K (He.ga K "Polygon")) rfl)),
    (He.glo_ok X G (c.fact 86 (f := fun K => (He.Fa.glo "ConvexPolygon").ok K) rfl)),
    (insTyB_ok (c.fact 87 (f := fun K => insTyB K (He.ga K "ConvexPolygon")) rfl)),
    (mkB_ok (c.fact 88 (f := fun K => mkB K (He.ga K "ConvexPolygon") (He.ma K (He.ga K "ConvexPolygon") "__init__")) rfl)),
    (He.noat_ok (c.fact 89 (f := fun K => (He.Fa.noat "ConvexPolygon" "kept").ok K) rfl)),
    (He.noat_ok (c.fact 90 (f := fun K => (He.Fa.noat "ConvexPolygon" "reflex").ok K) rfl)),
    (methB_ok (c.fact 91 (f := fun K => methB K (He.ga K "ConvexPolygon") (He.ga K "ConvexPolygon") "moved") rfl)),
    (propB_ok (c.fact 92 (f := fun K => propB K (He.ga K "ConvexPolygon") (He.ga K "Polygon") "corners") rfl)),
    (propB_ok (c.fact 93 (f := fun K => propB K (He.ga K "ConvexPolygon") (He.ga K "Polygon") "is_convex") rfl)),
    (methB_ok (c.fact 94 (f := fun K => methB K (He.ga K "ConvexPolygon") (He.ga K "Polygon") "image_corners") rfl)),
    (creadB_ok (c.fact 95 (f := fun K => creadB K (He.ga K "ConvexPolygon")) rfl)),
    (isiB_ok (c.fact 96 (f := fun K => isiB K (.ref (He.ga K "ConvexPolygon")) (.ref (He.ga K "ConvexPolygon")) true) rfl)),
    (kitNoB_ok (c.fact 97 (f := fun K => kitNoB K (He.ga K "ConvexPolygon")) rfl)),
    (isiB_ok (c.fact 98 (f := fun K => isiB K (.ref (He.ga K "ConvexPolygon")) (.ref (He.ga K "Polygon")) true) rfl)),
    (isiB_ok (c.fact 99 (f := fun K => isiB K (.ref (He.ga K "Polygon")) (.ref (He.ga K "ConvexPolygon")) false) rfl)),
    ((c.fact 100 (f := fun K => PySem.W.notFirst K (He.ga K "ConvexPolygon") (.ref (He.ga K "ConvexPolygon"))) rfl)),
    (kitNoB_nf (c.fact 101 (f := fun K => kitNoB K (He.ga K "ConvexPolygon")) rfl)),
    (He.glo_ok X G (c.fact 102 (f := fun K => (He.Fa.glo "GridMap").ok K) rfl)),
    (insTyB_ok (c.fact 103 (f := fun K => insTyB K (He.ga K "GridMap")) rfl)),
    (mkB_ok (c.fact 104 (f := fun K => mkB K (He.ga K "GridMap") (He.ma K (He.ga K "GridMap") "__init__")) rfl)),
    (He.noat_ok (c.fact 105 (f := fun K => (He.Fa.noat "GridMap" "six").ok K) rfl)),
    (methB_ok (c.fact 106 (f := fun K => methB K (He.ga K "GridMap") (He.ga K "GridMap") "image") rfl)),
    (creadB_ok (c.fact 107 (f := fun K => creadB K (He.ga K "GridMap")) rfl)),
    (isiB_ok (c.fact 108 (f := fun K => isiB K (.ref (He.ga K "GridMap")) (.ref (He.ga K "GridMap")) true) rfl)),
    (kitNoB_ok (c.fact 109 (f := fun K => kitNoB K (He.ga K "GridMap")) rfl)),
    ((c.fact 110 (f := fun K => PySem.W.notFirst K (He.ga K "GridMap") (.ref (He.ga K "GridMap"))) rfl)),
    (kitNoB_nf (c.fact 111 (f := fun K => kitNoB K (He.ga K "GridMap")) rfl)),
    (He.glo_ok X G (c.fact 112 (f := fun K => (He.Fa.glo "Collection").ok K) rfl)),
    (insTyB_ok (c.fact 113 (f := fun K => insTyB K (He.ga K "Collection")) rfl)),
    (mkB_ok (c.fact 114 (f := fun K => mkB K (He.ga K "Collection") (He.ma K (He.ga K "Collection") "__init__")) rfl)),
    (He.noat_ok (c.fact 115 (f := fun K => (He.Fa.noat "Collection" "most").ok K) rfl)),
    (He.noat_ok (c.fact 116 (f := fun K => (He.Fa.noat "Collection" "kept").ok K) rfl)),
    (He.noat_ok (c.fact 117 (f := fun K => (He.Fa.noat "Collection" "earlier").ok K) rfl)),
    (lenOB_ok (c.fact 118 (f := fun K => lenOB K (He.ga K "Collection") (He.ma K (He.ga K "Collection") "__len__")) rfl)),
    (propB_ok (c.fact 119 (f := fun K => propB K (He.ga K "Collection") (He.ga K "Collection") "capacity") rfl)),
    (psetB_ok (c.fact 120 (f := fun K => psetB K (He.ga K "Collection") "capacity" (He.ma K (He.ga K "Collection") "capacity") (psetA K (He.ma K (He.ga K "Collection") "capacity"))) rfl)),
    (methB_ok (c.fact 121 (f := fun K => methB K (He.ga K "Collection") (He.ga K "Collection") "resize") rfl)),
    (methB_ok (c.fact 122 (f := fun K => methB K (He.ga K "Collection") (He.ga K "Collection") "knows") rfl)),
    (methB_ok (c.fact 123 (f := fun K => methB K (He.ga K "Collection") (He.ga K "Collection") "check_known") rfl)),
    (methB_ok (c.fact 124 (f := fun K => methB K (He.ga K "Collection") (He.ga K "Collection") "remember") rfl)),
    (methB_ok (c.fact 125 (f := fun K => methB K (He.ga K "Collection") (He.ga K "Collection") "put") rfl)),
    (methB_ok (c.fact 126 (f := fun K => methB K (He.ga K "Collection") (He.ga K "Collection") "drop") rfl)),
    (methB_ok (c.fact 127 (f := fun K => methB K (He.ga K "Collection") (He.ga K "Collection") "call") rfl)),
    (methB_ok (c.fact 128 (f := fun K => methB K (He.ga K "Collection") (He.ga K "Collection") "carry") rfl)),
    (methB_ok (c.fact 129 (f := fun K => methB K (He.ga K "Collection") (He.ga K "Collection") "perform") rfl)),
    (methB_ok (c.fact 130 (f := fun K => methB K (He.ga K "Collection") (He.ga K "Collection") "change") rfl)),
    (methB_ok (c.fact 131 (f := fun K => methB K (He.ga K "Collection") (He.ga K "Collection") "add") rfl)),
    (methB_ok (c.fact 132 (f := fun K => methB K (He.ga K "Collection") (He.ga K "Collection") "undo") rfl)),
    (creadB_ok (c.fact 133 (f := fun K => creadB K (He.ga K "Collection")) rfl)),
    (isiB_ok (c.fact 134 (f := fun K => isiB K (.ref (He.ga K "Collection")) (.ref (He.ga K "Collection")) true) rfl)),
    (kitNoB_ok (c.fact 135 (f := fun K => kitNoB K (He.ga K "Collection")) rfl)),
    ((c.fact 136 (f := fun K => PySem.W.notFirst K (He.ga K "Collection") (.ref (He.ga K "Collection"))) rfl)),
    (kitNoB_nf (c.fact 137 (f := fun K => kitNoB K (He.ga K "Collection")) rfl)),
    ((c.fact 138 (f := fun K => supFB K "ConvexPolygon.__init__" Pg.main.file (He.ma K (He.ga K "ConvexPolygon") "__init__") (He.ga K "ConvexPolygon") (He.ma K (He.ga K "Polygon") "__init__")) rfl)),
    (oexGFB_ok (c.fact 139 (f := fun K => oexGFB K (He.ga K "UnknownName") (He.ma K (He.ga K "UnknownName") "__init__") ["name"]) rfl)),
    (He.glo_ok X G (c.fact 140 (f := fun K => (He.Fa.glo "UnknownName").ok K) rfl)),
    (oexGFB_ok (c.fact 141 (f := fun K => oexGFB K (He.ga K "NameInUse") (He.ma K (He.ga K "NameInUse") "__init__") ["name"]) rfl)),
    (He.glo_ok X G (c.fact 142 (f := fun K => (He.Fa.glo "NameInUse").ok K) rfl)),
    (excL_ok (c.fact 143 (f := fun K => excLB K (He.ga K "NothingToUndo")) rfl)),
    (He.glo_ok X G (c.fact 144 (f := fun K => (He.Fa.glo "NothingToUndo").ok K) rfl)),
    (He.glo_ok X G (c.fact 145 (f := fun K => (He.Fa.glo "ShapeError").ok K) rfl)),
    (isEB_ok (c.fact 146 (f := fun K => isEB K (He.ga K "InvalidInteger") (He.ga K "ShapeError") true) rfl)),
    (defAt (c.def_ 0 (d := dd_is_integer) rfl)),
    (defAt (c.def_ 1 (d := dd_check_integer) rfl)),
    (defAt (c.def_ 2 (d := dd_is_point) rfl)),
    (defAt (c.def_ 3 (d := dd_cross_of) rfl)),
    (defAt (c.def_ 4 (d := dd_difference) rfl)),
    (defAt (c.def_ 5 (d := dd_turn_of) rfl)),
    (defAt (c.def_ 6 (d := dd_InvalidPolygon_init) rfl)),
    (defAt (c.def_ 7 (d := dd_DegenerateCorner_init) rfl)),
    (defAt (c.def_ 8 (d := dd_CrossingEdges_init) rfl)),
    (defAt (c.def_ 9 (d := dd_NotConvex_init) rfl)),
    (defAt (c.def_ 10 (d := dd_UnknownName_init) rfl)),
    (defAt (c.def_ 11 (d := dd_NameInUse_init) rfl)),
    (defAt (c.def_ 12 (d := dd_LimitExceeded_init) rfl)),
    (defAt (c.def_ 13 (d := dd_check_points) rfl)),
    (defAt (c.def_ 14 (d := dd_triples) rfl)),
    (defAt (c.def_ 15 (d := dd_check_turns) rfl)),
    (defAt (c.def_ 16 (d := dd_is_between) rfl)),
    (defAt (c.def_ 17 (d := dd_is_on) rfl)),
    (defAt (c.def_ 18 (d := dd_have_common_point) rfl)),
    (defAt (c.def_ 19 (d := dd_edges_of) rfl)),
    (defAt (c.def_ 20 (d := dd_check_crossings) rfl)),
    (defAt (c.def_ 21 (d := dd_area_of) rfl)),
    (defAt (c.def_ 22 (d := dd_arranged) rfl)),
    (defAt (c.def_ 23 (d := dd_checked_corners) rfl)),
    (defAt (c.def_ 24 (d := dd_first_reflex) rfl)),
    (defAt (c.def_ 25 (d := dd_Polygon_init) rfl)),
    (defAt (c.def_ 26 (d := dd_Polygon_corners) rfl)),
    (defAt (c.def_ 27 (d := dd_Polygon_is_convex) rfl)),
    (supFB_ok (c.sup_ 0 (d := dd_ConvexPolygon_init) rfl) (c.fact 138 (f := fun K => supFB K "ConvexPolygon.__init__" Pg.main.file (He.ma K (He.ga K "ConvexPolygon") "__init__") (He.ga K "ConvexPolygon") (He.ma K (He.ga K "Polygon") "__init__")) rfl)),
    (defAt (c.def_ 28 (d := dd_GridMap_init) rfl)),
    (defAt (c.def_ 29 (d := dd_GridMap_image) rfl)),
    (defAt (c.def_ 30 (d := dd_check_map) rfl)),
    (defAt (c.def_ 31 (d := dd_Polygon_image_corners) rfl)),
    (defAt (c.def_ 32 (d := dd_Polygon_moved) rfl)),
    (defAt (c.def_ 33 (d := dd_ConvexPolygon_moved) rfl)),
    (defAt (c.def_ 34 (d := dd_check_polygon) rfl)),
    (defAt (c.def_ 35 (d := dd_to_polygon) rfl)),
    (defAt (c.def_ 36 (d := dd_is_name) rfl)),
    (defAt (c.def_ 37 (d := dd_check_name) rfl)),
    (defAt (c.def_ 38 (d := dd_Collection_init) rfl)),
    (defAt (c.def_ 39 (d := dd_Collection_len) rfl)),
    (defAt (c.def_ 40 (d := dd_Collection_capacity) rfl)),
    (defAt (c.def_ 41 (d := dd_Collection_capacity_set) rfl)),
    (defAt (c.def_ 42 (d := dd_Collection_resize) rfl)),
    (defAt (c.def_ 43 (d := dd_Collection_knows) rfl)),
    (defAt (c.def_ 44 (d := dd_Collection_check_known) rfl)),
    (defAt (c.def_ 45 (d := dd_Collection_remember) rfl)),
    (defAt (c.def_ 46 (d := dd_Collection_put) rfl)),
    (defAt (c.def_ 47 (d := dd_Collection_drop) rfl)),
    (defAt (c.def_ 48 (d := dd_Collection_call) rfl)),
    (defAt (c.def_ 49 (d := dd_Collection_carry) rfl)),
    (defAt (c.def_ 50 (d := dd_Collection_perform) rfl)),
    (defAt (c.def_ 51 (d := dd_Collection_change) rfl)),
    (defAt (c.def_ 52 (d := dd_Collection_add) rfl)),
    (defAt (c.def_ 53 (d := dd_Collection_undo) rfl)),
    (defAt (c.def_ 54 (d := dd_law_pool) rfl)),
    (defAt (c.def_ 55 (d := dd_law_take) rfl)),
    (defAt (c.def_ 56 (d := dd_law_carry) rfl)),
    (defAt (c.def_ 57 (d := dd_law_polygon) rfl)),
    (defAt (c.def_ 58 (d := dd_law_names) rfl)),
    (defAt (c.def_ 59 (d := dd_law_assigned) rfl)),
    (defAt (c.def_ 60 (d := dd_law_added) rfl)),
    (defAt (c.def_ 61 (d := dd_law) rfl))⟩
  have e := hfa.symm.trans T.g_law
  cases e
  have b := FunD.bindsA (ps := ["_law_script"]) T.d_law fun _ _ _ _ _ _ us hl => match us, hl with | [_], _ => rfl
  exact ⟨_, fun s v => b s [v] rfl, fun base _ _ => ok_law T⟩
end G
open PySem PySem.W PySem.Calls PyProof.Rows
theorem PySem.Challenge.cw_latticeshapes_k76_capacity_assigned_holds : PySem.Challenge.rw_latticeshapes_k76_capacity_assigned.Holds := by
  w_on; o_law
  refine HandSHeadRun.head_any (r := OpenLaw.row PySem.Challenge.rw_latticeshapes_k76_capacity_assigned) (q := view (OpenLaw.row PySem.Challenge.rw_latticeshapes_k76_capacity_assigned).prog [61]) (H := G.hk) (ob := G.ob) (M := 9000) (loose := G.loose) (d := HandSHeadRun.topDef (OpenLaw.row PySem.Challenge.rw_latticeshapes_k76_capacity_assigned).prog 61) (kwd := []) G.ob_eq
    (by kernel_rfl) (fun s => by kernel_rfl) G.run (by kernel_rfl) (by kernel_rfl) (by kernel_rfl) (by rfl) (by first | assumption | decide +kernel) (by decide +kernel) ⟨rfl, rfl, rfl, rfl, rfl, by decide +kernel⟩ ?hw ?hc
  case hw => w_witness2
  case hc =>
    refine G.walk_ofQ (l := PySem.Challenge.rw_latticeshapes_k76_capacity_assigned) (n := 63) (k := 16) (x := "_law_script") (CX := L2.CX0) rfl (by decide) (by kernel_rfl) ⟨rfl, by decide, by decide⟩ ?F (fun _ _ _ _ z => z)
    intro w mg fa h Y Gn hmg0
    obtain ⟨K, KX, c⟩ := Y
    have hmg : mg ("law" : PySem.Str) = some (.ref fa) := by
      have e : (HandSHeadRun.topDef (OpenLaw.row PySem.Challenge.rw_latticeshapes_k76_capacity_assigned).prog 61).name = ("law" : PySem.Str) := by kernel_rfl
      rw [← e]
      exact hmg0
    obtain ⟨fd, hb, hF⟩ := G.facts (w := w) KX Gn hmg c
    exact ⟨K, fd, G.sp_law K, KX, hb, fun H a ns hl hO hS => ⟨a, ns, rfl, hS, hl, fun _ => rfl⟩, hF⟩
