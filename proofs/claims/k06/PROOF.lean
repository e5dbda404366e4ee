import PyProof.Rows.All
import Wide.All
import OpenK.AllK
import Wide.FinOn
import KE.KStateDown
import HandS.ForMost
import HandS.ForExc
import HandS.Wide
import HandS.IsInst
import HandS.Star
import HandS.Style
import HandS.Flow
import HandS.Defaults
import HandS.Head0
import HandS.Head1
import HandS.Head2
import HandS.HeadEnd
import HandS.HeadHook1
import HandS.HeadHook2
import HandS.HeadHook3
import HandS.CallSlots
import HandS.TupAny
import HandS.Steps
import KE.Datum
import HandS.Evl
import HandS.TupLe
import HandS.TryMany
import HandS.HeadNt
import HandS.Property
import HandS.ClsMeth
import HandS.CallLocal
import HandS.MethStar
import HandS.MakeKw
import KE.DatumMore
import HandS.Zip
import HandS.OwnEq
import HandS.TryOnly
import KE.DataMinMax
import HandS.Deep
import HandS.GenList
import HandS.GenYield
import KE.GoesMore
import KE.GoesZip
import KE.GoesEnum
import HandS.ExcInit
import HandS.ExcField
import KE.SortData
import KE.KSuper
import HandS.FStr
import PySem.Challenge.RW_latticeshapes_k06_grid_maps_created
set_option Elab.async false
set_option linter.all false
set_option maxRecDepth 100000
set_option maxHeartbeats 8000000
/-! ### readings, one constructor a lemma: the symbolic walk's own steps -/
namespace G
open PySem PySem.Spec PyProof.Rows L2
section
variable {K : PySem.W.Frag} {σ : L2.St} {H : Hp} {ta tb te : TE} {Q : VK} {D : Ends} {i : Nat} {v x y : V} {b : Bool}
theorem r_var (h : σ[i]? = some (some v)) (q : Q v H) : tVar i σ H Q := ⟨v, h, q⟩
theorem r_c (q : Q v H) : tC v σ H Q := q
theorem r_op {r : R2} (q : ta σ H fun x H1 => tb σ H1 fun y H2 => r x y H2 Q) : tOp r ta tb σ H Q := q
theorem r_un {r : V → Hp → VK → Prop} (q : ta σ H fun x H1 => r x H1 Q) : tUn r ta σ H Q := q
theorem r_U {g : Int → V} {n : Int} (q : Q (g n) H) : rU g (.int n) H Q := ⟨n, rfl, q⟩
theorem r_I0 {g : Int → Int → V} {n m : Int} (q : Q (g n m) H) : rI0 g (.int n) (.int m) H Q := ⟨n, m, rfl, rfl, q⟩
theorem r_I {C : Int → Int → Prop} {g : Int → Int → V} {n m : Int} (hc : C n m) (q : Q (g n m) H) : rI C g (.int n) (.int m) H Q := ⟨n, m, rfl, rfl, hc, q⟩
theorem r_eq (h : scal x y = true) (q : Q (.bl (decide (x = y))) H) : rEq x y H Q := ⟨h, q⟩
theorem r_ne (h : scal x y = true) (q : Q (.bl (!decide (x = y))) H) : rNe x y H Q := ⟨h, q⟩
theorem r_ixL {p : Addr} {xs : List V} {n : Int} (h : SqL K H p xs) (e : atI xs n = some v) (q : Q v H) : rIxL K (.ref p) (.int n) H Q := ⟨p, xs, n, v, rfl, rfl, h, e, q⟩
theorem r_ixT {p : Addr} {xs : List V} {n : Int} (h : SqT K H p xs) (e : atI xs n = some v) (q : Q v H) : rIxT K (.ref p) (.int n) H Q := ⟨p, xs, n, v, rfl, rfl, h, e, q⟩
theorem r_seq {t u : TS} (q : t { D with nx := u D } σ H) : tSeq t u D σ H := q
theorem r_next (q : D.nx σ H) : tNext D σ H := q
theorem r_asg {g : TG} (q : te σ H fun x H1 => g x σ H1 D.nx) : tAsg te g D σ H := q
theorem r_st {t u : TS} {σ' : L2.St} (e : σ = σ') (q : tSeq t u D σ' H) : tSeq t u D σ H := by
  subst e; exact q
theorem r_gnameS {R : L2.St → Hp → Prop} {σ' : L2.St} (e : σ.set i (some v) = σ') (q : R σ' H) : gName i v σ H R := by
  subst e; exact q
theorem r_gname {R : L2.St → Hp → Prop} (q : R (σ.set i (some v)) H) : gName i v σ H R := q
theorem r_drop (q : te σ H fun _ H1 => D.nx σ H1) : tDrop te D σ H := q
theorem r_ret (q : te σ H D.rt) : tRet te D σ H := q
theorem r_ifs {c : TT} {t u : TS} (q : c σ H fun b H1 => if b = true then t D σ H1 else u D σ H1) : tIfS c t u D σ H := q
theorem r_test {R : Bool → Hp → Prop} (q : te σ H fun x H' => ∃ k, x = .bl k ∧ R k H') : tTest te σ H R := q
theorem r_tB {R : Bool → Hp → Prop} (q : te σ H fun x H' => ∃ k, x = .bl k ∧ R k H') : tB te σ H R := q
theorem r_bl {R : Bool → Prop} (q : R b) : ∃ k, V.bl b = .bl k ∧ R k := ⟨b, rfl, q⟩
theorem r_nil {R : List V → Hp → Prop} (q : R [] H) : tNil σ H R := q
theorem r_cons {tr : TA} {R : List V → Hp → Prop} (q : ta σ H fun x H1 => tr σ H1 fun xs H2 => R (x :: xs) H2) : tCons ta tr σ H R := q
theorem r_cb {r : List V → Hp → VK → Prop} {t : TA} (q : t σ H fun vs H1 => r vs H1 Q) : tCB r t σ H Q := q
theorem r_lst {t : TA} (q : t σ H fun xs H1 => xs.length ≤ sizeLine ∧ ∀ p, H1 p = none → Q (.ref p) (upd H1 p (.lst xs))) : tLst t σ H Q := q
theorem r_tup {t : TA} (q : t σ H fun xs H1 => xs.length ≤ sizeLine ∧ ∀ p, H1 p = none → Q (.ref p) (upd H1 p (.tup xs))) : tTup t σ H Q := q
theorem r_call {sp : Sp} {dvs : List V} {E : XK} {t : TA} (q : t σ H fun vs H1 => sp (vs ++ dvs) H1 Q E) : tCall sp dvs E t σ H Q := q
theorem r_callS {sp : Sp} {E : L2.St → XK} {t : TA} (q : t σ H fun vs H1 => sp vs H1 Q (E σ)) : tCallS sp E t σ H Q := q
theorem r_and {t u : TT} {R : Bool → Hp → Prop} (q : t σ H fun c H1 => if c = true then u σ H1 R else R false H1) : tAnd t u σ H R := q
theorem r_or {t u : TT} {R : Bool → Hp → Prop} (q : t σ H fun c H1 => if c = true then R true H1 else u σ H1 R) : tOr t u σ H R := q
theorem r_not {t : TT} {R : Bool → Hp → Prop} (q : t σ H fun c H1 => R (!c) H1) : tNot t σ H R := q
theorem r_andV (q : ta σ H fun x H1 => ∃ c, x = .bl c ∧ if c = true then tb σ H1 Q else Q (.bl false) H1) : tAndV ta tb σ H Q := q
theorem r_orV (q : ta σ H fun x H1 => ∃ c, x = .bl c ∧ if c = true then Q (.bl true) H1 else tb σ H1 Q) : tOrV ta tb σ H Q := q
theorem r_notV (q : ta σ H fun x H1 => ∃ c, x = .bl c ∧ Q (.bl (!c)) H1) : tNotV ta σ H Q := q
theorem r_if {t : TT} (q : t σ H fun c H1 => if c = true then ta σ H1 Q else tb σ H1 Q) : tIf t ta tb σ H Q := q
theorem r_sub {to ti : TE} {t : TSet} {R : L2.St → Hp → Prop} (q : to σ H fun o H1 => ti σ H1 fun i H2 => t o i v H2 fun H3 => R σ H3) : gSub to ti t v σ H R := q
theorem r_setL {p : Addr} {xs : List V} {n : Int} {j : Nat} {R : Hp → Prop} (h : H p = some (.lst xs)) (e : ixN xs.length n = some j) (q : R (upd H p (.lst (xs.set j v)))) : rSetL (.ref p) (.int n) v H R := ⟨p, xs, n, j, rfl, rfl, h, e, q⟩
theorem r_dec {p : Prop} [Decidable p] {A B : Prop} (h1 : p → A) (h2 : ¬ p → B) : if decide p = true then A else B := by
  by_cases h : p
  · rw [decide_eq_true h]; exact iteT (h1 h)
  · rw [decide_eq_false h]; exact iteF (h2 h)
theorem r_ndec {p : Prop} [Decidable p] {A B : Prop} (h1 : ¬ p → A) (h2 : p → B) : if (!decide p) = true then A else B := by
  by_cases h : p
  · rw [decide_eq_true h]; exact iteF (h2 h)
  · rw [decide_eq_false h]; exact iteT (h1 h)
theorem r_b {A B : Prop} (h1 : b = true → A) (h2 : b = false → B) : if b = true then A else B := by
  cases b with
  | true => exact iteT (h1 rfl)
  | false => exact iteF (h2 rfl)
theorem dec_int (n m : Int) : decide (V.int n = V.int m) = decide (n = m) := by
  by_cases h : n = m
  · subst h; simp
  · rw [decide_eq_false h, decide_eq_false (fun z => h (V.int.inj z))]
theorem r_eqI {n m : Int} (q : Q (.bl (decide (n = m))) H) : rEq (.int n) (.int m) H Q := ⟨rfl, by rw [dec_int]; exact q⟩
theorem r_neI {n m : Int} (q : Q (.bl (!decide (n = m))) H) : rNe (.int n) (.int m) H Q := ⟨rfl, by rw [dec_int]; exact q⟩
end
end G


namespace G
open PySem PySem.Spec PyProof.Rows L2
/-! ### numbers -/
theorem op_mulA {X : Cx} : OpR X (binaryOp .Mult) (rI IntMulOk fun i j => .int (i * j)) := opI fun _ _ _ _ _ _ _ hc q => mul_int q hc
/-- fewer than n bits -/
def Bd (n : Nat) (i : Int) : Prop := i.natAbs < 2 ^ n
theorem Bd.mono {n m : Nat} {i : Int} (h : Bd n i) (l : n ≤ m) : Bd m i := Nat.lt_of_lt_of_le h (Nat.pow_le_pow_right (by decide) l)
theorem Bd.mul {n m : Nat} {i j : Int} (h : Bd n i) (k : Bd m j) : Bd (n + m) (i * j) := wide_lt h k
theorem Bd.add {n : Nat} {i j : Int} (h : Bd n i) (k : Bd n j) : Bd (n + 1) (i + j) := by
  have h1 : i.natAbs < 2 ^ n := h
  have k1 : j.natAbs < 2 ^ n := k
  show (i + j).natAbs < 2 ^ (n + 1)
  have e : 2 ^ (n + 1) = 2 ^ n + 2 ^ n := by rw [Nat.pow_succ]; omega
  omega
theorem Bd.neg {n : Nat} {i : Int} (h : Bd n i) : Bd n (-i) := by
  show (-i).natAbs < 2 ^ n
  rw [Int.natAbs_neg]; exact h
theorem Bd.sub {n : Nat} {i j : Int} (h : Bd n i) (k : Bd n j) : Bd (n + 1) (i - j) := by
  have e : i - j = i + -j := by omega
  rw [e]; exact h.add k.neg
theorem Bd.ok {n m : Nat} {i j : Int} (h : Bd n i) (k : Bd m j) (l : n + m < 900000 := by decide) : IntMulOk i j :=
  CMulW.ok (wide_mul (a := n + 1) (b := m + 1) (h.mono (Nat.le_succ n)) (k.mono (Nat.le_succ m)) (Nat.succ_pos _) (Nat.succ_pos _) (by omega))
theorem mul_okL {i j : Int} (h1 : -(2 ^ 64) < i) (h2 : i < 2 ^ 64) : IntMulOk i j := CMul.ok (.inl ⟨h1, h2⟩)
theorem mul_okR {i j : Int} (h1 : -(2 ^ 64) < j) (h2 : j < 2 ^ 64) : IntMulOk i j := CMul.ok (.inr ⟨h1, h2⟩)
/-! ### heaps: all but the object at l stands -/
def Kp (l : Addr) (H H' : Hp) : Prop := ∀ b o, b ≠ l → H b = some o → H' b = some o
theorem Kp.refl (l : Addr) (H : Hp) : Kp l H H := fun _ _ _ h => h
theorem Kp.trans {l : Addr} {H H1 H2 : Hp} (a : Kp l H H1) (b : Kp l H1 H2) : Kp l H H2 := fun c o n h => b c o n (a c o n h)
theorem Kp.same {l : Addr} {H H1 H2 : Hp} (a : Kp l H H1) (b : Same H1 H2) : Kp l H H2 := fun c o n h => b c o (a c o n h)
theorem Kp.of_same {l : Addr} {H H1 : Hp} (b : Same H H1) : Kp l H H1 := fun c o _ h => b c o h
theorem Kp.new {l p : Addr} {H H1 : Hp} {o : HO} (a : Kp l H H1) (h : H1 p = none) : Kp l H (upd H1 p o) := fun c u n e => by
  have z := a c u n e
  rw [upd_ne (ne_of_none z h)]; exact z
theorem Kp.put {l : Addr} {H H1 : Hp} {o : HO} (a : Kp l H H1) : Kp l H (upd H1 l o) := fun c u n e => by rw [upd_ne n]; exact a c u n e
theorem same_new {p : Addr} {H H1 : Hp} {o : HO} (a : Same H H1) (h : H1 p = none) : Same H (upd H1 p o) := fun c u e => by
  have z := a c u e
  rw [upd_ne (ne_of_none z h)]; exact z
theorem fresh {H : Hp} {p : Addr} {o : HO} {H1 : Hp} (h : H p = none) (e : upd H p o = H1) : Same H H1 ∧ H1 p = some o := by
  subst e; exact ⟨same_new (Same.refl H) h, upd_same⟩
theorem Kp.seq {K : PySem.W.Frag} {l a : Addr} {H H' : Hp} {xs : List V} (e : Kp l H H') (n : a ≠ l) (h : SqL K H a xs) : SqL K H' a xs := by
  rcases h with (h | ⟨o, h⟩) | h
  · exact .inl (.inl (e _ _ n h))
  · exact .inl (.inr ⟨o, e _ _ n h⟩)
  · exact .inr h
theorem same_kp {l : Addr} {H H1 H2 : Hp} (s : Same H H1) (hl : H l = none) (k : Kp l H1 H2) : Same H H2 := fun c o e => k c o (ne_of_none e hl) (s c o e)
/-! ### kinds of values -/
inductive Kd (K : PySem.W.Frag) (H : Hp) : V → String → Prop where
  | non : Kd K H .non "NoneType"
  | bl (x : Bool) : Kd K H (.bl x) "bool"
  | int (i : Int) : Kd K H (.int i) "int"
  | str (x : Str) : Kd K H (.str x) "str"
  | lst {a : Addr} {xs : List V} (e : SqL K H a xs) : Kd K H (.ref a) "list"
  | tup {a : Addr} {xs : List V} (e : SqT K H a xs) : Kd K H (.ref a) "tuple"
  | dK {a : Addr} {kvs : List (Key × V)} (e : H a = some (.dK kvs)) : Kd K H (.ref a) "dict"
theorem Kd.ty {K : PySem.W.Frag} {H : Hp} {v : V} {n : String} (k : Kd K H v n) : TyX K H v (.type n) := by
  cases k with
  | non => exact .base .non
  | bl x => exact .base (.bl x)
  | int i => exact .base (.int i)
  | str x => exact .base (.str x)
  | lst e =>
    rcases e with (e | ⟨o, e⟩) | ⟨o, its, n, e, c, _⟩
    · exact .base (.lst e)
    · exact .base (.frz e)
    · exact .kList e c
  | tup e =>
    rcases e with (e | ⟨o, e⟩) | ⟨o, its, n, e, c, _⟩
    · exact .base (.tup e)
    · exact .fTuple e
    · exact .kTuple e c
  | dK e => exact .base (.dK e)
theorem sqT_same {K : PySem.W.Frag} {H H' : Hp} {a : Addr} {xs : List V} (s : Same H H') (h : SqT K H a xs) : SqT K H' a xs := by
  rcases h with (h | ⟨o, h⟩) | h
  · exact .inl (.inl (s _ _ h))
  · exact .inl (.inr ⟨o, s _ _ h⟩)
  · exact .inr h
theorem Kd.same {K : PySem.W.Frag} {H H' : Hp} {v : V} {n : String} (k : Kd K H v n) (s : Same H H') : Kd K H' v n := by
  cases k with
  | non => exact .non
  | bl x => exact .bl x
  | int i => exact .int i
  | str x => exact .str x
  | lst e => exact .lst (s.seq e)
  | tup e => exact .tup (sqT_same s e)
  | dK e => exact .dK (s _ _ e)
def kds : List String := ["NoneType", "bool", "int", "str", "list", "tuple", "dict"]
theorem Kd.mem {K : PySem.W.Frag} {H : Hp} {v : V} {n : String} (k : Kd K H v n) : n ∈ kds := by
  cases k <;> decide
def isI : V → Bool
  | .int _ => true
  | _ => false
def inty (n : String) : Bool := n == "int" || n == "bool"
theorem Kd.kit {K : PySem.W.Frag} {H : Hp} {v : V} {n : String} (k : Kd K H v n) : PySem.W.kitOne K (.type n) (.type "int") = some (inty n) ∧ PySem.W.kitOne K (.type n) (.type "bool") = some (n == "bool") ∧
    PySem.W.kitOne K (.type n) (.type "tuple") = some (n == "tuple") ∧ PySem.W.kitOne K (.type n) (.type "list") = some (n == "list") ∧ (isI v = (inty n && !(n == "bool"))) := by
  cases k with
  | non => exact ⟨kit_ty (by decide +kernel), kit_ty (by decide +kernel), kit_ty (by decide +kernel), kit_ty (by decide +kernel), rfl⟩
  | bl x => exact ⟨kit_ty (by decide +kernel), kit_ty (by decide +kernel), kit_ty (by decide +kernel), kit_ty (by decide +kernel), rfl⟩
  | int i => exact ⟨kit_ty (by decide +kernel), kit_ty (by decide +kernel), kit_ty (by decide +kernel), kit_ty (by decide +kernel), rfl⟩
  | str x => exact ⟨kit_ty (by decide +kernel), kit_ty (by decide +kernel), kit_ty (by decide +kernel), kit_ty (by decide +kernel), rfl⟩
  | lst e => exact ⟨kit_ty (by decide +kernel), kit_ty (by decide +kernel), kit_ty (by decide +kernel), kit_ty (by decide +kernel), rfl⟩
  | tup e => exact ⟨kit_ty (by decide +kernel), kit_ty (by decide +kernel), kit_ty (by decide +kernel), kit_ty (by decide +kernel), rfl⟩
  | dK e => exact ⟨kit_ty (by decide +kernel), kit_ty (by decide +kernel), kit_ty (by decide +kernel), kit_ty (by decide +kernel), rfl⟩
/-! ### the draws -/
def DrAt (H : Hp) (l : Addr) : Prop := ∃ a b : Int, H l = some (.lst [.int a, .int b]) ∧ 0 ≤ a ∧ 0 ≤ b ∧ b < 2147483647
theorem DrAt.same {H H' : Hp} {l : Addr} (d : DrAt H l) (s : Same H H') : DrAt H' l := by
  obtain ⟨a, b, h, r⟩ := d
  exact ⟨a, b, s _ _ h, r⟩
theorem DrAt.new {H : Hp} {l p : Addr} {o : HO} (d : DrAt H l) (h : H p = none) : DrAt (upd H p o) l := d.same (same_new (Same.refl H) h)
theorem DrAt.ne {H : Hp} {l p : Addr} (d : DrAt H l) (h : H p = none) : p ≠ l := by
  obtain ⟨a, b, e, _⟩ := d
  exact (ne_of_none e h).symm
theorem DrAt.ne_tup {H : Hp} {l p : Addr} {xs : List V} (d : DrAt H l) (h : H p = some (.tup xs)) : p ≠ l := by
  obtain ⟨a, b, e, _⟩ := d
  exact ne_of h e (by intro z; cases z)
end G

namespace G
open PySem PySem.Spec PyProof.Rows L2
/-! ### built-ins by named readings -/
def rAbs : List V → Hp → VK → Prop := fun xs H Q => ∃ i, xs = [.int i] ∧ Q (.int (if i < 0 then -i else i)) H
def rLn (K : PySem.W.Frag) : List V → Hp → VK → Prop := fun xs H Q => ∃ x n, xs = [x] ∧ LenV K x H n ∧ Q (.int n) H
def rInt1 : List V → Hp → VK → Prop := fun xs H Q => (∃ i, xs = [.int i] ∧ Q (.int i) H) ∨ ∃ k, xs = [.bl k] ∧ Q (.int (if k then 1 else 0)) H
def rMx2 : List V → Hp → VK → Prop := fun xs H Q => ∃ i j, xs = [.int i, .int j] ∧ Q (.int (if j > i then j else i)) H
def rMn2 : List V → Hp → VK → Prop := fun xs H Q => ∃ i j, xs = [.int i, .int j] ∧ Q (.int (if j < i then j else i)) H
def rLstOf (K : PySem.W.Frag) : List V → Hp → VK → Prop := fun xs H Q => ∃ p ys, xs = [.ref p] ∧ (SqL K H p ys ∨ SqT K H p ys) ∧ ∀ l, H l = none → Q (.ref l) (upd H l (.lst ys))
def rTupOf (K : PySem.W.Frag) : List V → Hp → VK → Prop := fun xs H Q => ∃ p ys, xs = [.ref p] ∧ ((SqL K H p ys ∧ ∀ l, H l = none → Q (.ref l) (upd H l (.tup ys))) ∨ (SqT K H p ys ∧ Q (.ref p) H))
section
variable {X : Cx}
theorem cAbs : CallR X (.builtin "abs") rAbs := call_abs
theorem cLen : CallR X (.builtin "len") (rLn X.K) := call_len
theorem cInt1 : CallR X (.type "int") rInt1 := call_int1
theorem cMax2 (hc : X.calm = true) : CallR X (.builtin "max") rMx2 := call_max2 hc
theorem cMin2 (hc : X.calm = true) : CallR X (.builtin "min") rMn2 := call_min2 hc
theorem cLstOf : CallR X (.type "list") (rLstOf X.K) := call_list_of
theorem cTupOf : CallR X (.type "tuple") (rTupOf X.K) := call_tuple_of
/-- a truth as a test -/
theorem pt_tru {a : Expr} {ta : TE} (ha : PE X a ta) (he : ∀ whole, isTrue a X.env whole = (do let v ← whole; standAt a.pos; holding [v] (truthy v)) := by intro _; rfl) : PT X a (tTru X.K ta) := pt_truth ha he
end
section
variable {K : PySem.W.Frag} {σ : L2.St} {H : Hp} {ta : TE} {Q : VK} {D : Ends} {i j : Nat} {v x y : V} {b : Bool} {p : Addr} {xs : List V} {n m : Int}
theorem r_abs (q : Q (.int (n.natAbs : Int)) H) : rAbs [.int n] H Q := ⟨n, rfl, by
  have e : (if n < 0 then -n else n) = (n.natAbs : Int) := by split <;> omega
  rw [e]; exact q⟩
theorem r_lenL (h : SqL K H p xs) (q : Q (.int (xs.length : Int)) H) : rLn K [.ref p] H Q := ⟨.ref p, xs.length, rfl, .inl ⟨xs, h, rfl⟩, q⟩
theorem r_lenT (h : SqT K H p xs) (q : Q (.int (xs.length : Int)) H) : rLn K [.ref p] H Q := ⟨.ref p, xs.length, rfl, .inr ⟨xs, h, rfl⟩, q⟩
theorem r_intB (q : Q (.int (if b then 1 else 0)) H) : rInt1 [.bl b] H Q := .inr ⟨b, rfl, q⟩
theorem r_intI (q : Q (.int n) H) : rInt1 [.int n] H Q := .inl ⟨n, rfl, q⟩
theorem r_max2 (q : Q (.int (max n m)) H) : rMx2 [.int n, .int m] H Q := ⟨n, m, rfl, by
  have e : (if m > n then m else n) = max n m := by omega
  rw [e]; exact q⟩
theorem r_min2 (q : Q (.int (min n m)) H) : rMn2 [.int n, .int m] H Q := ⟨n, m, rfl, by
  have e : (if m < n then m else n) = min n m := by omega
  rw [e]; exact q⟩
theorem r_lstOfL (h : SqL K H p xs) (q : ∀ l, H l = none → Q (.ref l) (upd H l (.lst xs))) : rLstOf K [.ref p] H Q := ⟨p, xs, rfl, .inl h, q⟩
theorem r_lstOfT (h : SqT K H p xs) (q : ∀ l, H l = none → Q (.ref l) (upd H l (.lst xs))) : rLstOf K [.ref p] H Q := ⟨p, xs, rfl, .inr h, q⟩
theorem r_tupOfL (h : SqL K H p xs) (q : ∀ l, H l = none → Q (.ref l) (upd H l (.tup xs))) : rTupOf K [.ref p] H Q := ⟨p, xs, rfl, .inl ⟨h, q⟩⟩
theorem r_tupOfT (h : SqT K H p xs) (q : Q (.ref p) H) : rTupOf K [.ref p] H Q := ⟨p, xs, rfl, .inr ⟨h, q⟩⟩
theorem r_new {R : Addr → Prop} (q : ∀ p, H p = none → R p) (h : Nat.ble xs.length 1000 = true := by rfl) : xs.length ≤ sizeLine ∧ ∀ p, H p = none → R p := ⟨Nat.le_trans (Nat.le_of_ble_eq_true h) (by decide), q⟩
theorem r_cut {t u : TS} (Mid : L2.St → Hp → Prop) (h1 : t { D with nx := Mid } σ H) (h2 : ∀ σ' H', Mid σ' H' → u D σ' H') : Evl.tCut t u D σ H := ⟨Mid, h1, h2⟩
theorem r_tru {R : Bool → Hp → Prop} (q : ta σ H fun x H' => ∃ k, TruV K x H' k ∧ R k H') : tTru K ta σ H R := q
theorem r_truI {R : Bool → Prop} (q : R (decide (n ≠ 0))) : ∃ k, TruV K (.int n) H k ∧ R k := ⟨n != 0, rfl, by
  have e : (n != 0) = decide (n ≠ 0) := by
    by_cases h : n = 0
    · subst h; rfl
    · simp [h]
  rw [e]; exact q⟩
theorem r_isN (q : Q (.bl (decide (x = .non))) H) : rIsN x .non H Q := ⟨rfl, q⟩
theorem r_notN (q : Q (.bl (!decide (x = .non))) H) : rNotN x .non H Q := ⟨rfl, q⟩
theorem r_isB {a c : Bool} (q : Q (.bl (decide (a = c))) H) : rIsB (.bl a) (.bl c) H Q := ⟨a, c, rfl, rfl, q⟩
theorem r_notB {a c : Bool} (q : Q (.bl (!decide (a = c))) H) : rNotB (.bl a) (.bl c) H Q := ⟨a, c, rfl, rfl, q⟩
theorem r_isi {c : V} {t u : Value} (k : ClsV c u) (ty : TyX K H x t) (e : PySem.W.kitOne K t u = some b) (q : Q (.bl b) H) : rIsi K [x, c] H Q := ⟨x, c, t, u, b, rfl, k, ty, e, q⟩
theorem r_aug {te : TE} {ti : TIp} (h : σ[i]? = some (some x)) (q : te σ H fun y H1 => ti x y H1 fun z H2 => D.nx (σ.set i (some z)) H2) : tAug i te ti D σ H := ⟨x, h, q⟩
theorem r_ipI {f : Int → Int → Int} (q : Q (.int (f n m)) H) : ipI f (.int n) (.int m) H Q := ⟨n, m, rfl, rfl, q⟩
theorem r_gtup {k : Nat} {t : TGs} {R : L2.St → Hp → Prop} (h : SqT K H p xs) (q : t xs σ H R) (hl : xs.length = k := by rfl) : gTup K k t (.ref p) σ H R := ⟨p, xs, rfl, h, hl, q⟩
theorem r_gcons {t : TG} {u : TGs} {R : L2.St → Hp → Prop} (q : t v σ H fun σ' H' => u xs σ' H' R) : gCons t u (v :: xs) σ H R := ⟨v, xs, rfl, q⟩
theorem r_gnil {R : L2.St → Hp → Prop} (q : R σ H) : gNil [] σ H R := ⟨rfl, q⟩
theorem r_par {ta : TA} (q : ta σ H fun vs H1 => ∃ v w, vs = [v, w] ∧ D.nx ((σ.set i (some v)).set j (some w)) H1) : tPar i j ta D σ H := q
theorem r_two {R : V → V → Prop} (q : R x y) : ∃ v w, [x, y] = [v, w] ∧ R v w := ⟨x, y, rfl, q⟩
theorem r_rep {l : Addr} (h : H l = some (.lst xs)) (h1 : -(2 ^ 63) ≤ n) (h2 : n < 2 ^ 63) (h3 : xs.length * n.toNat ≤ sizeLine) (q : ∀ p, H p = none → Q (.ref p) (upd H p (.lst (List.replicate n.toNat xs).flatten))) : rRep (.ref l) (.int n) H Q := ⟨l, n, xs, rfl, rfl, h, h1, h2, h3, q⟩
theorem r_cat {l l' : Addr} {ys : List V} (h : H l = some (.lst xs)) (h' : H l' = some (.lst ys)) (h3 : xs.length + ys.length ≤ sizeLine) (q : ∀ p, H p = none → Q (.ref p) (upd H p (.lst (xs ++ ys)))) : rCat (.ref l) (.ref l') H Q := ⟨l, l', xs, ys, rfl, rfl, h, h', h3, q⟩
theorem r_eqD {d e : PyData} (hd : Dp K H x d) (he : Dp K H y e) (sd : SeqAt.shaped d = true) (se : SeqAt.shaped e = true) (q : Q (.bl (PyData.eqv d e)) H) : rEqD K x y H Q := ⟨d, e, hd, he, sd, se, q⟩
theorem r_neD {d e : PyData} (hd : Dp K H x d) (he : Dp K H y e) (sd : SeqAt.shaped d = true) (se : SeqAt.shaped e = true) (q : Q (.bl (!PyData.eqv d e)) H) : rNeD K x y H Q := ⟨d, e, hd, he, sd, se, q⟩
end
end G
/-! ### loops and comprehensions: readings by an invariant -/
namespace G
open PySem PySem.Spec PyProof.Rows L2
section
variable {K : PySem.W.Frag} {σ : L2.St} {H : Hp} {ta tb te : TE} {Q : VK} {D : Ends} {i j : Nat} {v x y : V} {b : Bool} {ts : TS} {g : TG} {tt : TT} {vs : List Nat}
/-- the turns of a for over the walk J -/
def Turns (J : It) (g : TG) (ts : TS) (D : Ends) (σ : L2.St) (H : Hp) : Prop := ∃ W : Nat → Nat → L2.St → Hp → Prop, (∃ m, W 0 m σ H) ∧ ∀ i m σ H, W i m σ H →
  (J.stop i H ∧ D.nx σ H) ∨ (J.go i H ∧ ∃ N : L2.St → Hp → Prop, (∀ σ' H', N σ' H' → ∃ m', m' < m ∧ W (i + 1) m' σ' H') ∧ ∀ x H', J.yld i H x H' → g x σ H' fun σ2 H2 => ts { D with nx := N, ct := N, bk := D.nx } σ2 H2)
def LoopR1 (ws : List V) (g : TG) (ts : TS) (D : Ends) (σ : L2.St) (H : Hp) : Prop := ∃ n : Int, ws = [.int n] ∧ -(2 ^ 62) ≤ n ∧ n < 2 ^ 62 ∧ Turns (Itr 0 n.toNat) g ts D σ H
def LoopR2 (ws : List V) (g : TG) (ts : TS) (D : Ends) (σ : L2.St) (H : Hp) : Prop := ∃ m n : Int, ws = [.int m, .int n] ∧ (-(2 ^ 62) ≤ m ∧ m < 2 ^ 62 ∧ -(2 ^ 62) ≤ n ∧ n < 2 ^ 62) ∧ Turns (Itr m (n - m).toNat) g ts D σ H
def LoopL (K : PySem.W.Frag) (w : V) (g : TG) (ts : TS) (D : Ends) (σ : L2.St) (H : Hp) : Prop := ∃ a, w = .ref a ∧ (∃ xs, SqL K H a xs) ∧ Turns (Itl K a) g ts D σ H
def LoopT (K : PySem.W.Frag) (w : V) (g : TG) (ts : TS) (D : Ends) (σ : L2.St) (H : Hp) : Prop := ∃ a, w = .ref a ∧ (∃ xs, SqT K H a xs) ∧ Turns (Itt K a) g ts D σ H
theorem r_forR1 {ta : TA} (q : ta σ H fun ws H1 => LoopR1 ws g ts D σ H1) : tFor (iRng1 ta) g ts D σ H := q
theorem r_forR2 {ta : TA} (q : ta σ H fun ws H1 => LoopR2 ws g ts D σ H1) : tFor (iRng2 ta) g ts D σ H := q
theorem r_forL (q : te σ H fun w H1 => LoopL K w g ts D σ H1) : tFor (iList K te) g ts D σ H := q
theorem r_forT (q : te σ H fun w H1 => LoopT K w g ts D σ H1) : tFor (iTup K te) g ts D σ H := q
theorem loopR1 {n : Int} (h1 : n < 2 ^ 62) (Pv : Nat → L2.St → Hp → Prop) (h0 : Pv 0 σ H) (hs : ∀ (i : Nat) σ' H', (i : Int) < n → Pv i σ' H' → ts { D with nx := Pv (i + 1), ct := Pv (i + 1), bk := D.nx } (σ'.set j (some (.int (i : Int)))) H')
    (hd : ∀ σ' H', Pv n.toNat σ' H' → D.nx σ' H') (h2 : -(2 ^ 62) ≤ n := by omega) : LoopR1 [.int n] (gName j) ts D σ H :=
  ⟨n, rfl, h2, h1, for_range Pv h0 (fun i σ' H' hi p => by
    have e0 : (0 : Int) + (i : Int) = (i : Int) := Int.zero_add _
    show ts _ (σ'.set j (some (.int ((0 : Int) + (i : Int))))) H'
    rw [e0]
    exact hs i σ' H' (by omega) p) hd⟩
theorem loopR2 {m n : Int} (h : -(2 ^ 62) ≤ m ∧ m < 2 ^ 62 ∧ -(2 ^ 62) ≤ n ∧ n < 2 ^ 62) (Pv : Nat → L2.St → Hp → Prop) (h0 : Pv 0 σ H) (hs : ∀ (i : Nat) σ' H', m + (i : Int) < n → Pv i σ' H' → ts { D with nx := Pv (i + 1), ct := Pv (i + 1), bk := D.nx } (σ'.set j (some (.int (m + (i : Int))))) H')
    (hd : ∀ σ' H', Pv (n - m).toNat σ' H' → D.nx σ' H') : LoopR2 [.int m, .int n] (gName j) ts D σ H :=
  ⟨m, n, rfl, h, for_range Pv h0 (fun i σ' H' hi p => hs i σ' H' (by omega) p) hd⟩
theorem loopL {a : Addr} {xs : List V} (Pv : Nat → L2.St → Hp → Prop) (h0 : Pv 0 σ H) (hl : ∀ i σ' H', i ≤ xs.length → Pv i σ' H' → SqL K H' a xs)
    (hs : ∀ i x σ' H', xs[i]? = some x → Pv i σ' H' → g x σ' H' fun σ2 H2 => ts { D with nx := Pv (i + 1), ct := Pv (i + 1), bk := D.nx } σ2 H2) (hd : ∀ σ' H', Pv xs.length σ' H' → D.nx σ' H') : LoopL K (.ref a) g ts D σ H :=
  ⟨a, rfl, ⟨xs, hl 0 σ H (Nat.zero_le _) h0⟩, for_list Pv h0 hl hs hd⟩
theorem loopT {a : Addr} {xs : List V} (Pv : Nat → L2.St → Hp → Prop) (h0 : Pv 0 σ H) (hl : ∀ i σ' H', i ≤ xs.length → Pv i σ' H' → SqT K H' a xs)
    (hs : ∀ i x σ' H', xs[i]? = some x → Pv i σ' H' → g x σ' H' fun σ2 H2 => ts { D with nx := Pv (i + 1), ct := Pv (i + 1), bk := D.nx } σ2 H2) (hd : ∀ σ' H', Pv xs.length σ' H' → D.nx σ' H') : LoopT K (.ref a) g ts D σ H :=
  ⟨a, rfl, ⟨xs, hl 0 σ H (Nat.zero_le _) h0⟩, for_tup Pv h0 hl hs hd⟩
/-- while: the test is read, then the turn or the end -/
def WNext (Pv : Nat → L2.St → Hp → Prop) (m : Nat) (ts : TS) (D : Ends) (σ : L2.St) (H : Hp) : Prop := ∃ N : L2.St → Hp → Prop, (∀ σ' H', N σ' H' → ∃ m', m' < m ∧ Pv m' σ' H') ∧ ts { D with nx := N, ct := N, bk := D.nx } σ H
theorem wnext {Pv : Nat → L2.St → Hp → Prop} {m : Nat} (q : ts { D with nx := fun σ2 H2 => ∃ m', m' < m ∧ Pv m' σ2 H2, ct := fun σ2 H2 => ∃ m', m' < m ∧ Pv m' σ2 H2, bk := D.nx } σ H) : WNext Pv m ts D σ H := ⟨_, fun _ _ z => z, q⟩
theorem r_while {c : TT} (Pv : Nat → L2.St → Hp → Prop) (m0 : Nat) (h0 : Pv m0 σ H)
    (hs : ∀ m σ' H', Pv m σ' H' → c σ' H' fun b H1 => if b = true then WNext Pv m ts D σ' H1 else D.nx σ' H1) : tWhile c ts D σ H := ⟨Pv, ⟨m0, h0⟩, hs⟩
/-! comprehensions -/
def Comp (J : It) (g : TG) (tt : TT) (te : TE) (vs : List Nat) (σ : L2.St) (H1 : Hp) (Q : VK) : Prop := ∀ D, H1 D = none → ∃ W : Nat → Nat → Hp → Prop, (∃ m, W 0 m (upd H1 D (.lst []))) ∧ ∀ i m H, W i m H →
  (J.stop i H ∧ Q (.ref D) H) ∨ (J.go i H ∧ ∃ Nx : Hp → Prop, (∀ H', Nx H' → ∃ m', m' < m ∧ W (i + 1) m' H') ∧ ∀ x H', J.yld i H x H' → g x (wipe σ vs) H' fun σ2 H2 => wipe σ2 vs = wipe σ vs ∧ tt σ2 H2 fun b H3 =>
    if b = true then te σ2 H3 fun y H4 => ∃ acc, H4 D = some (.lst acc) ∧ acc.length < sizeLine ∧ Nx (upd H4 D (.lst (acc ++ [y]))) else Nx H3)
def CompR1 (ws : List V) (g : TG) (tt : TT) (te : TE) (vs : List Nat) (σ : L2.St) (H : Hp) (Q : VK) : Prop := ∃ n : Int, ws = [.int n] ∧ -(2 ^ 62) ≤ n ∧ n < 2 ^ 62 ∧ Comp (Itr 0 n.toNat) g tt te vs σ H Q
def CompR2 (ws : List V) (g : TG) (tt : TT) (te : TE) (vs : List Nat) (σ : L2.St) (H : Hp) (Q : VK) : Prop := ∃ m n : Int, ws = [.int m, .int n] ∧ (-(2 ^ 62) ≤ m ∧ m < 2 ^ 62 ∧ -(2 ^ 62) ≤ n ∧ n < 2 ^ 62) ∧ Comp (Itr m (n - m).toNat) g tt te vs σ H Q
def CompL (K : PySem.W.Frag) (w : V) (g : TG) (tt : TT) (te : TE) (vs : List Nat) (σ : L2.St) (H : Hp) (Q : VK) : Prop := ∃ a, w = .ref a ∧ (∃ xs, SqL K H a xs) ∧ Comp (Itl K a) g tt te vs σ H Q
def CompT (K : PySem.W.Frag) (w : V) (g : TG) (tt : TT) (te : TE) (vs : List Nat) (σ : L2.St) (H : Hp) (Q : VK) : Prop := ∃ a, w = .ref a ∧ (∃ xs, SqT K H a xs) ∧ Comp (Itt K a) g tt te vs σ H Q
theorem r_lcR1 {ta : TA} (q : ta σ H fun ws H1 => CompR1 ws g tt te vs σ H1 Q) : tLc (iRng1 ta) g tt te vs σ H Q := q
theorem r_lcR2 {ta : TA} (q : ta σ H fun ws H1 => CompR2 ws g tt te vs σ H1 Q) : tLc (iRng2 ta) g tt te vs σ H Q := q
theorem r_lcL (q : ta σ H fun w H1 => CompL K w g tt te vs σ H1 Q) : tLc (iList K ta) g tt te vs σ H Q := q
theorem r_lcT (q : ta σ H fun w H1 => CompT K w g tt te vs σ H1 Q) : tLc (iTup K ta) g tt te vs σ H Q := q
/-- a turn's end: the item y goes onto the new list -/
def CNext (D : Addr) (P : Nat → List V → Hp → Prop) (i : Nat) : VK := fun y H4 => ∃ acc, H4 D = some (.lst acc) ∧ acc.length < sizeLine ∧ ∃ acc', P (i + 1) acc' (upd H4 D (.lst (acc ++ [y]))) ∧ (upd H4 D (.lst (acc ++ [y]))) D = some (.lst acc') ∧ acc'.length = i + 1
theorem cnext {D' : Addr} {P : Nat → List V → Hp → Prop} {acc : List V} (h : H D' = some (.lst acc)) (hl : acc.length = i) (hi : i ≤ 100000) (p : P (i + 1) (acc ++ [y]) (upd H D' (.lst (acc ++ [y])))) : CNext D' P i y H :=
  ⟨acc, h, Nat.lt_of_le_of_lt (show acc.length ≤ 100000 by omega) (by decide), acc ++ [y], p, upd_same, by rw [List.length_append, hl]; rfl⟩
/-- no test; P: the new list's address, the turn, what it holds, the heap -/
theorem compR1 {n : Int} (hn : n ≤ 100000) (P : Addr → Nat → List V → Hp → Prop) (h0 : ∀ D, H D = none → P D 0 [] (upd H D (.lst [])))
    (hs : ∀ D (i : Nat) acc H', H D = none → (i : Int) < n → P D i acc H' → H' D = some (.lst acc) → acc.length = i → te ((wipe σ vs).set j (some (.int (i : Int)))) H' (CNext D (P D) i))
    (hd : ∀ D acc H', H D = none → P D n.toNat acc H' → H' D = some (.lst acc) → acc.length = n.toNat → Q (.ref D) H')
    (hw : ∀ x, wipe ((wipe σ vs).set j (some x)) vs = wipe σ vs := by intro _; rfl) (h2 : -(2 ^ 62) ≤ n := by omega) : CompR1 [.int n] (gName j) tYes te vs σ H Q := by
  refine ⟨n, rfl, h2, by omega, fun D hD => lc_range (lo := 0) (n := n.toNat) (fun i H' => ∃ acc, P D i acc H' ∧ H' D = some (.lst acc) ∧ acc.length = i) ⟨[], h0 D hD, upd_same, rfl⟩ (fun i H' hi p => ?_) (fun H' p => ?_)⟩
  · obtain ⟨acc, p, hD', hl⟩ := p
    have e0 : (0 : Int) + (i : Int) = (i : Int) := Int.zero_add _
    show wipe ((wipe σ vs).set j (some (.int ((0 : Int) + (i : Int))))) vs = wipe σ vs ∧ tYes ((wipe σ vs).set j (some (.int ((0 : Int) + (i : Int))))) H' _
    rw [e0]
    exact ⟨hw _, hs D i acc H' hD (by omega) p hD' hl⟩
  · obtain ⟨acc, p, hD', hl⟩ := p
    exact hd D acc H' hD p hD' hl
theorem compR2 {m n : Int} (hm : -(2 ^ 62) ≤ m ∧ m < 2 ^ 62 ∧ -(2 ^ 62) ≤ n ∧ n < 2 ^ 62) (hn : n - m ≤ 100000) (P : Addr → Nat → List V → Hp → Prop) (h0 : ∀ D, H D = none → P D 0 [] (upd H D (.lst [])))
    (hs : ∀ D (i : Nat) acc H', H D = none → m + (i : Int) < n → P D i acc H' → H' D = some (.lst acc) → acc.length = i → te ((wipe σ vs).set j (some (.int (m + (i : Int))))) H' (CNext D (P D) i))
    (hd : ∀ D acc H', H D = none → P D (n - m).toNat acc H' → H' D = some (.lst acc) → acc.length = (n - m).toNat → Q (.ref D) H')
    (hw : ∀ x, wipe ((wipe σ vs).set j (some x)) vs = wipe σ vs := by intro _; rfl) : CompR2 [.int m, .int n] (gName j) tYes te vs σ H Q := by
  refine ⟨m, n, rfl, hm, fun D hD => lc_range (lo := m) (n := (n - m).toNat) (fun i H' => ∃ acc, P D i acc H' ∧ H' D = some (.lst acc) ∧ acc.length = i) ⟨[], h0 D hD, upd_same, rfl⟩ (fun i H' hi p => ?_) (fun H' p => ?_)⟩
  · obtain ⟨acc, p, hD', hl⟩ := p
    exact ⟨hw _, hs D i acc H' hD (by omega) p hD' hl⟩
  · obtain ⟨acc, p, hD', hl⟩ := p
    exact hd D acc H' hD p hD' hl
theorem compL {a : Addr} {xs : List V} (hx : xs.length ≤ 100000) (P : Addr → Nat → List V → Hp → Prop) (hsq : SqL K H a xs) (h0 : ∀ D, H D = none → P D 0 [] (upd H D (.lst []))) (hl : ∀ D i acc H', H D = none → P D i acc H' → SqL K H' a xs)
    (hs : ∀ D i x acc H', H D = none → xs[i]? = some x → i < xs.length → P D i acc H' → H' D = some (.lst acc) → acc.length = i → g x (wipe σ vs) H' fun σ2 H2 => wipe σ2 vs = wipe σ vs ∧ te σ2 H2 (CNext D (P D) i))
    (hd : ∀ D acc H', H D = none → P D xs.length acc H' → H' D = some (.lst acc) → acc.length = xs.length → Q (.ref D) H') : CompL K (.ref a) g tYes te vs σ H Q := by
  refine ⟨a, rfl, ⟨xs, hsq⟩, fun D hD => lc_list (K := K) (a := a) (xs := xs) (fun i H' => ∃ acc, P D i acc H' ∧ H' D = some (.lst acc) ∧ acc.length = i) ⟨[], h0 D hD, upd_same, rfl⟩ (fun i H' _ p => ?_) (fun i x H' hi p => ?_) (fun H' p => ?_)⟩
  · obtain ⟨acc, p, _⟩ := p
    exact hl D i acc H' hD p
  · obtain ⟨acc, p, hD', hlen⟩ := p
    exact hs D i x acc H' hD hi (List.getElem?_eq_some_iff.mp hi).1 p hD' hlen
  · obtain ⟨acc, p, hD', hlen⟩ := p
    exact hd D acc H' hD p hD' hlen
theorem compT {a : Addr} {xs : List V} (hx : xs.length ≤ 100000) (P : Addr → Nat → List V → Hp → Prop) (hsq : SqT K H a xs) (h0 : ∀ D, H D = none → P D 0 [] (upd H D (.lst []))) (hl : ∀ D i acc H', H D = none → P D i acc H' → SqT K H' a xs)
    (hs : ∀ D i x acc H', H D = none → xs[i]? = some x → i < xs.length → P D i acc H' → H' D = some (.lst acc) → acc.length = i → g x (wipe σ vs) H' fun σ2 H2 => wipe σ2 vs = wipe σ vs ∧ te σ2 H2 (CNext D (P D) i))
    (hd : ∀ D acc H', H D = none → P D xs.length acc H' → H' D = some (.lst acc) → acc.length = xs.length → Q (.ref D) H') : CompT K (.ref a) g tYes te vs σ H Q := by
  refine ⟨a, rfl, ⟨xs, hsq⟩, fun D hD => lc_tup (K := K) (a := a) (xs := xs) (fun i H' => ∃ acc, P D i acc H' ∧ H' D = some (.lst acc) ∧ acc.length = i) ⟨[], h0 D hD, upd_same, rfl⟩ (fun i H' _ p => ?_) (fun i x H' hi p => ?_) (fun H' p => ?_)⟩
  · obtain ⟨acc, p, _⟩ := p
    exact hl D i acc H' hD p
  · obtain ⟨acc, p, hD', hlen⟩ := p
    exact hs D i x acc H' hD hi (List.getElem?_eq_some_iff.mp hi).1 p hD' hlen
  · obtain ⟨acc, p, hD', hlen⟩ := p
    exact hd D acc H' hD p hD' hlen
end
section
variable {K : PySem.W.Frag} {σ : L2.St} {H : Hp} {te : TE} {Q : VK} {D : Ends} {v x y : V} {ts : TS} {g : TG} {a b : Addr} {xs ys : List V}
def LoopZ (K : PySem.W.Frag) (ws : List V) (g : TG) (ts : TS) (D : Ends) (σ : L2.St) (H : Hp) : Prop := ∃ a b xs ys, ws = [.ref a, .ref b] ∧ SqL K H a xs ∧ SqL K H b ys ∧ Turns (Itz K a b) g ts D σ H
theorem r_forZ {ta : TA} (q : ta σ H fun ws H1 => LoopZ K ws g ts D σ H1) : tFor (iZip K ta) g ts D σ H := q
theorem loopZ (hl : xs.length = ys.length) (Pv : Nat → L2.St → Hp → Prop) (h0 : Pv 0 σ H) (hq : ∀ i σ H, Pv i σ H → SqL K H a xs ∧ SqL K H b ys)
    (hs : ∀ (i : Nat) (x y : V) (T : Addr) (σ : L2.St) (H : Hp), xs[i]? = some x → ys[i]? = some y → Pv i σ H → H T = none → g (.ref T) σ (upd H T (.tup [x, y])) fun σ2 H2 => ts { D with nx := Pv (i + 1), ct := Pv (i + 1), bk := D.nx } σ2 H2) (hd : ∀ σ H, Pv xs.length σ H → D.nx σ H) :
    LoopZ K [.ref a, .ref b] g ts D σ H := ⟨a, b, xs, ys, rfl, (hq _ _ _ h0).1, (hq _ _ _ h0).2, RZ.for_zipL hl Pv h0 hq hs hd⟩
theorem r_sl {r : V → Option Int → Option Int → Hp → VK → Prop} {tl th : TO} (q : te σ H fun x H1 => tl σ H1 fun l H2 => th σ H2 fun u H3 => r x l u H3 Q) : tSl r te tl th σ H Q := q
theorem r_noPart {R : Option Int → Hp → Prop} (q : R none H) : tNoPart σ H R := q
theorem r_part {R : Option Int → Hp → Prop} (q : te σ H fun x H1 => ∃ i, x = .int i ∧ R (some i) H1) : tPart te σ H R := q
theorem r_partI {n : Int} {R : Int → Prop} (q : R n) : ∃ i, V.int n = .int i ∧ R i := ⟨n, rfl, q⟩
theorem r_slT {lo hi : Option Int} (h : SqT K H a xs) (hw : ¬ (HT.sIx xs.length 0 lo = 0 ∧ HT.sIx xs.length xs.length hi = xs.length)) (q : ∀ p, H p = none → Q (.ref p) (upd H p (.tup (cutV xs lo hi)))) : rSlA K (.ref a) lo hi H Q := ⟨a, xs, rfl, h, fun z => absurd z hw, fun _ => q⟩
/-- a part of a tuple, whatever object it is -/
theorem r_slA {lo hi : Option Int} (h : SqT K H a xs) (q : ∀ p H', Same H H' → SqT K H' p (cutV xs lo hi) → Q (.ref p) H') : rSlA K (.ref a) lo hi H Q := by
  refine ⟨a, xs, rfl, h, fun hw => q a H (fun _ _ z => z) ?_, fun _ p hp => q p _ (fun c o e => ?_) (SqT.of upd_same)⟩
  · have e : cutV xs lo hi = xs := by
      unfold cutV
      rw [hw.1, hw.2, List.drop_zero, Nat.sub_zero, List.take_length]
    rw [e]; exact h
  · rw [upd_ne (ne_of_none e hp)]; exact e
theorem r_catA (h : SqT K H a xs) (h' : SqT K H b ys) (hl : xs.length + ys.length ≤ 1000) (q : ∀ p H', Same H H' → SqT K H' p (xs ++ ys) → Q (.ref p) H') : rCatA K (.ref a) (.ref b) H Q := by
  refine ⟨a, b, xs, ys, rfl, rfl, h, h', Nat.le_trans hl (by decide), fun e => q b H (fun _ _ z => z) ?_, fun _ e => q a H (fun _ _ z => z) ?_, fun _ _ p hp => q p _ (fun c o e => ?_) (SqT.of upd_same)⟩
  · rw [e]; exact h'
  · rw [e, List.append_nil]; exact h
  · rw [upd_ne (ne_of_none e hp)]; exact e
end
end G
/-! ### calls of a def with a star parameter; in a try or not -/
namespace G
open PySem PySem.Spec PyProof.Rows L2
section
variable {X : Cx} {CX : CXT} {k : Nat} {f : Addr} {sp : Sp} {E : L2.St → XK} {x : Str} {p pos : Pos} {e : Expr} {es : List Expr} {t : TA}
def tCallR (sp : Sp) (E : L2.St → XK) (t : TA) : TE := fun σ H Q => t σ H fun vs H1 => sp vs H1 Q (E σ)
theorem run_fnRS {pins : List (Addr × Obj)} {σ : L2.St} {H : Hp} {s : Shared} {Q : VK} {us : List Value} {vs : List V} (F : FnR X.prog X.w X.K X.mg X.base CX k f sp) (hr : Room k X.A) (hx : PassesAt CX X σ (E σ))
    (I : Inv X pins σ H s) (r : Vals vs us) (h : sp vs H Q (E σ)) : wpAny (model X.prog X.w) X.A (call (.ref f) us) (EP X pins σ Q) X.xe s := by
  refine wpAny_call (codeAny_mono (F X.A X.stack s H us vs Q (E σ) hr I.env0 r h) fun r s' hq => ?_)
  cases r with
  | error e => exact hx pins H s e s' I hq
  | ok fl =>
    cases fl with
    | ret u => exact I.after hq
    | next => exact False.elim hq
    | brk => exact False.elim hq
    | cont => exact False.elim hq
theorem pe_callR (F : FnR X.prog X.w X.K X.mg X.base CX k f sp) (hr : Room k X.A) (hg : Gl X x) (hm : X.mg x = some (.ref f)) (hk : PySem.W.keepIn X.K (.ref f) = true) (hx : ∀ σ, PassesAt CX X σ (E σ))
    (ha : PA X (e :: es) t) (hdb : (x == ("__debug__" : Str)) = false := by decide) (he : starEach (e :: es) X.env = (false, eval e X.env) :: starEach es X.env := by rfl) (hpl : (backTo pos (starEach es X.env)).any (·.1) = false := by rfl) :
    PE X (.Call (.Name x p) (e :: es) [] pos) (tCallR sp E t) := by
  refine ⟨fun pins s σ H Q I h => ?_⟩
  refine wpAny_Call_Name_kw (ld_glob I hg hm ?_ hdb)
  refine PySem.W.callWith_K (h₀ := X.base) I.ok.mod.kin hk (thn (ha.run pos pins s σ H _ I h) fun us s1 ⟨vs, H1, I1, r, q⟩ => ⟨I1.kIn, ?_⟩) he hpl
  exact run_fnRS F hr (hx σ) I1 r q
theorem pe_callR0 (F : FnR X.prog X.w X.K X.mg X.base CX k f sp) (hr : Room k X.A) (hg : Gl X x) (hm : X.mg x = some (.ref f)) (hk : PySem.W.keepIn X.K (.ref f) = true) (hx : ∀ σ, PassesAt CX X σ (E σ))
    (hdb : (x == ("__debug__" : Str)) = false := by decide) : PE X (.Call (.Name x p) [] [] pos) (tCallR sp E tNil) := by
  refine ⟨fun pins s σ H Q I h => ?_⟩
  refine wpAny_Call_Name_kw (ld_glob I hg hm ?_ hdb)
  exact PySem.W.callWith_K0 I.kIn hk (run_fnRS (us := []) F hr (hx σ) I .nil h)
theorem passAll {E : XK} (hx : Passes CX X E) : ∀ σ, PassesAt CX X σ ((fun _ => E) σ) := fun σ pins H s e s' I c => hx pins σ H s e s' I c
end
section
variable {σ : L2.St} {H : Hp} {Q : VK} {sp : Sp} {E : L2.St → XK} {t : TA}
theorem r_callR (q : t σ H fun vs H1 => sp vs H1 Q (E σ)) : tCallR sp E t σ H Q := q
end
end G
/-! ### rules with the written part K said -/
namespace G
open PySem PySem.Spec PyProof.Rows L2
section
variable {X : Cx} {K : PySem.W.Frag}
theorem kIxL (h : X.K = K := by rfl) : IxR X (rIxL K) := h ▸ ix_list
theorem kIxT (h : X.K = K := by rfl) : IxR X (rIxT K) := h ▸ ix_tup
theorem kLen (h : X.K = K := by rfl) : CallR X (.builtin "len") (rLn K) := h ▸ cLen
theorem kLstOf (h : X.K = K := by rfl) : CallR X (.type "list") (rLstOf K) := h ▸ cLstOf
theorem kTupOf (h : X.K = K := by rfl) : CallR X (.type "tuple") (rTupOf K) := h ▸ cTupOf
theorem kIsi (h : X.K = K := by rfl) : CallR X (.builtin "isinstance") (rIsi K) := h ▸ call_isi
theorem kIsiT (h : X.K = K := by rfl) : CallR X (.builtin "isinstance") (rIsiT K) := h ▸ call_isiT
theorem kSum (hc : X.calm = true) (h : X.K = K := by rfl) : CallR X (.builtin "sum") (rSum K) := h ▸ cr_sum hc
theorem kAll (hc : X.calm = true) (h : X.K = K := by rfl) : CallR X (.builtin "all") (rAll K) := h ▸ cr_all hc
theorem kAny (hc : X.calm = true) (h : X.K = K := by rfl) : CallR X (.builtin "any") (rAny K) := h ▸ cr_any hc
theorem kMaxL (hc : X.calm = true) (h : X.K = K := by rfl) : CallR X (.builtin "max") (rMax K) := h ▸ cr_max hc
theorem kMinL (hc : X.calm = true) (h : X.K = K := by rfl) : CallR X (.builtin "min") (rMin K) := h ▸ cr_min hc
theorem kEqD (hu : X.A.units + 64 < cLine) (h : X.K = K := by rfl) : OpR X (compareOp .Eq) (rEqD K) := h ▸ op_eqD hu
theorem kNeD (hu : X.A.units + 64 < cLine) (h : X.K = K := by rfl) : OpR X (compareOp .NotEq) (rNeD K) := h ▸ op_neD hu
theorem kIn (h : X.K = K := by rfl) : OpR X (compareOp .In) (rIn K false) := h ▸ op_in_seq
theorem kNotIn (h : X.K = K := by rfl) : OpR X (compareOp .NotIn) (rIn K true) := h ▸ op_notIn_seq
theorem kLtT (hu : X.A.units < cLine) (h : X.K = K := by rfl) : OpR X (compareOp .Lt) (rLtT K) := h ▸ op_ltT hu
theorem kLeT (hu : X.A.units < cLine) (h : X.K = K := by rfl) : OpR X (compareOp .LtE) (rLeT K) := h ▸ op_leT hu
theorem kCatT (h : X.K = K := by rfl) : OpR X (binaryOp .Add) (rCatA K) := h ▸ op_catA
theorem kSlT (h : X.K = K := by rfl) : SlR X (rSlA K) := h ▸ sl_tupA
theorem kSlL (h : X.K = K := by rfl) : SlR X (rSlL K) := h ▸ sl_list
theorem kTru {a : Expr} {ta : TE} (ha : PE X a ta) (h : X.K = K := by rfl) (he : ∀ whole, isTrue a X.env whole = (do let v ← whole; standAt a.pos; holding [v] (truthy v)) := by intro _; rfl) : PT X a (tTru K ta) := h ▸ pt_tru ha he
theorem kpiL {tg l : Expr} {tl : TE} (hl : PE X l tl) (h : X.K = K := by rfl) : PI X tg l (iList K tl) := h ▸ pi_list hl
theorem kpiT {tg l : Expr} {tl : TE} (hl : PE X l tl) (h : X.K = K := by rfl) : PI X tg l (iTup K tl) := h ▸ pi_tup hl
theorem kpiEnum {e : Expr} {ta : TA} {p pos tpos : Pos} {elts : List Expr} {kk : Nat} (hg : Gl X "enumerate") (hm : X.mg "enumerate" = none) (ha : PA X [e] ta) (h : X.K = K := by rfl) (hs : starEach [e] X.env = [(false, eval e X.env)] := by rfl) :
    PI X (.Tuple elts kk tpos) (.Call (.Name "enumerate" p) [e] [] pos) (iEnum K ta) := h ▸ pi_enum hg hm ha hs
theorem kpiZip {e e2 : Expr} {ta : TA} {p pos tpos : Pos} {elts : List Expr} {kk : Nat} (hg : Gl X "zip") (hm : X.mg "zip" = none) (ha : PA X [e, e2] ta) (h : X.K = K := by rfl)
    (hs : starEach [e, e2] X.env = (false, eval e X.env) :: starEach [e2] X.env := by rfl) (hpl : (backTo pos (starEach [e2] X.env)).any (·.1) = false := by rfl) :
    PI X (.Tuple elts kk tpos) (.Call (.Name "zip" p) [e, e2] [] pos) (iZip K ta) := h ▸ pi_zip hg hm ha hs hpl
theorem kpgTup {es : List Expr} {k : Nat} {t : TGs} {n : Nat} {pos : Pos} (hc : X.calm = true) (h : PGs X es t) (hK : X.K = K := by rfl)
    (hn : (assignEach es X.env).length = n := by rfl) (hst : (assignEach es X.env).findIdx? (·.1) = none := by rfl) : PG X (.Tuple es k pos) (gTup K n t) := hK ▸ pg_tup hc h hn hst
theorem kFld {o : Expr} {ta : TE} {f : Str} {p : Pos} (h : PE X (.Attribute o f p) (tFld X.K ta f)) (hK : X.K = K := by rfl) : PE X (.Attribute o f p) (tFld K ta f) := hK ▸ h
theorem kBM {e : Expr} {T : String} {r : V → List V → Hp → VK → Prop} {to : TE} {t : TA} (h : PE X e (tBM X.K T r to t)) (hK : X.K = K := by rfl) : PE X e (tBM K T r to t) := hK ▸ h
end
end G
namespace G
open PySem PySem.Spec PyProof.Rows L2
theorem kBM0 {X : Cx} {K : PySem.W.Frag} {e : Expr} {T : String} {r : V → List V → Hp → VK → Prop} {to : TE} (h : PE X e (tBM0 X.K T r to)) (hK : X.K = K := by rfl) : PE X e (tBM0 K T r to) := hK ▸ h
theorem kSFld {X : Cx} {K : PySem.W.Frag} {st : Stmt} {ta tv : TE} {f : Str} (h : PS X st (sFld X.K ta tv f)) (hK : X.K = K := by rfl) : PS X st (sFld K ta tv f) := hK ▸ h
end G
/-! ### data with a Lean type, at the layer's level -/
namespace G
open PySem PySem.Spec PyProof.Rows L2 PySem.W
/-- v holds x -/
def Hd {α : Type} [DecidableEq α] [Datum α] (K : PySem.W.Frag) (H : Hp) (v : V) (x : α) : Prop := Dp K H v (Datum.toD x)
def Hds {α : Type} [DecidableEq α] [Datum α] (K : PySem.W.Frag) (H : Hp) (vs : List V) (xs : List α) : Prop := DpAll K H vs (xs.map Datum.toD)
class Lay (α : Type) [DecidableEq α] [Datum α] : Prop where
  lay : ∀ a : α, (Datum.toD a).canLay0 = true
instance : Lay Int := ⟨fun _ => rfl⟩
instance : Lay Bool := ⟨fun _ => rfl⟩
instance : Lay Unit := ⟨fun _ => rfl⟩
section
variable {α β : Type} [DecidableEq α] [Datum α] [DecidableEq β] [Datum β]
theorem layAll [Lay α] : ∀ xs : List α, PyData.canLayAll0 (xs.map Datum.toD) = true
  | [] => rfl
  | x :: xs => by
    rw [List.map_cons, PyData.canLayAll0, Lay.lay x, layAll xs] <;> rfl
instance [Lay α] : Lay (List α) := ⟨fun xs => layAll xs⟩
instance [Lay α] : Lay (Tup α) := ⟨fun t => layAll t.items⟩
instance [Lay α] [Lay β] : Lay (α × β) := ⟨fun p => by
  show PyData.canLayAll0 [Datum.toD p.1, Datum.toD p.2] = true
  rw [PyData.canLayAll0, PyData.canLayAll0, Lay.lay p.1, Lay.lay p.2] <;> rfl⟩
theorem shapedD [Lay α] (x : α) (h : Datum.depth α ≤ 64) : SeqAt.shaped (Datum.toD x) = true := by
  unfold SeqAt.shaped
  rw [Lay.lay x, decide_eq_true (Nat.le_trans (Datum.depth_le x) h)] <;> rfl
end
section
variable {K : PySem.W.Frag} {H H' : Hp} {α β : Type} [DecidableEq α] [Datum α] [DecidableEq β] [Datum β]
mutual
theorem Dp.same (s : Same H H') : ∀ (d : PyData) (v : V), Dp K H v d → Dp K H' v d
  | .none, _, h => by cases h; exact .non
  | .bool b, _, h => by cases h; exact .bl b
  | .int i, _, h => by cases h; exact .int i
  | .str x, _, h => by cases h; exact .str x
  | .list ds, _, h => by
    cases h with
    | lst hs ha => exact .lst (s.seq hs) (DpAll.same s ds _ ha)
  | .tuple ds, _, h => by
    cases h with
    | tup hs ha =>
      refine .tup ?_ (DpAll.same s ds _ ha)
      rcases hs with (hs | ⟨o, hs⟩) | hs
      · exact .inl (.inl (s _ _ hs))
      · exact .inl (.inr ⟨o, s _ _ hs⟩)
      · exact .inr hs
  | .dict _, _, h => by cases h
theorem DpAll.same (s : Same H H') : ∀ (ds : List PyData) (vs : List V), DpAll K H vs ds → DpAll K H' vs ds
  | [], _, h => by cases h; exact .nil
  | d :: ds, _, h => by
    cases h with
    | cons h1 h2 => exact .cons (Dp.same s d _ h1) (DpAll.same s ds _ h2)
end
theorem Hd.same {v : V} {x : α} (h : Hd K H v x) (s : Same H H') : Hd K H' v x := Dp.same s _ _ h
theorem Hds.same {vs : List V} {xs : List α} (h : Hds K H vs xs) (s : Same H H') : Hds K H' vs xs := DpAll.same s _ _ h
/-- no tuple stands at l -/
def NotT (H : Hp) (l : Addr) : Prop := (∀ xs, H l ≠ some (.tup xs)) ∧ ∀ o xs, H l ≠ some (.frz o (.tup xs))
theorem notT_lst {l : Addr} (h : ∃ xs, H l = some (.lst xs)) : NotT H l := by
  obtain ⟨xs, h⟩ := h
  exact ⟨fun _ z => (by rw [h] at z; cases z), fun _ _ z => (by rw [h] at z; cases z)⟩
theorem notT_ins {l C dx : Addr} {fs : List (Str × V)} (h : H l = some (.ins C dx fs)) : NotT H l := ⟨fun _ z => (by rw [h] at z; cases z), fun _ _ z => (by rw [h] at z; cases z)⟩
theorem notT_none {l : Addr} (h : H l = none) : NotT H l := ⟨fun _ z => (by rw [h] at z; cases z), fun _ _ z => (by rw [h] at z; cases z)⟩
/-- no list within -/
class Imm (α : Type) [DecidableEq α] [Datum α] : Prop where
  imm : ∀ {K : PySem.W.Frag} {l : Addr} {H H' : Hp} {v : V} (a : α), Kp l H H' → NotT H l → Hd K H v a → Hd K H' v a
theorem sqT_kpT {l a : Addr} {xs : List V} (k : Kp l H H') (hl : NotT H l) (h : SqT K H a xs) : SqT K H' a xs := by
  rcases h with (h | ⟨o, h⟩) | h
  · exact .inl (.inl (k _ _ (fun z => by subst z; exact hl.1 _ h) h))
  · exact .inl (.inr ⟨o, k _ _ (fun z => by subst z; exact hl.2 _ _ h) h⟩)
  · exact .inr h
theorem sqT_kp {l a : Addr} {xs : List V} (k : Kp l H H') (hl : ∃ xs, H l = some (.lst xs)) (h : SqT K H a xs) : SqT K H' a xs := sqT_kpT k (notT_lst hl) h
instance : Imm Int := ⟨fun i _ _ h => by cases h; exact .int i⟩
instance : Imm Bool := ⟨fun i _ _ h => by cases h; exact .bl i⟩
instance : Imm Unit := ⟨fun _ _ _ h => by cases h; exact .non⟩
instance : Imm Str := ⟨fun i _ _ h => by cases h; exact .str i⟩
theorem immsT [Imm α] {l : Addr} (k : Kp l H H') (hl : NotT H l) : ∀ {xs : List α} {vs : List V}, Hds K H vs xs → Hds K H' vs xs
  | [], _, h => by cases h; exact .nil
  | x :: xs, _, h => by
    cases h with
    | cons h1 h2 => exact .cons (Imm.imm x k hl h1) (immsT (xs := xs) k hl h2)
theorem imms [Imm α] {l : Addr} (k : Kp l H H') (hl : ∃ xs, H l = some (.lst xs)) {xs : List α} {vs : List V} (h : Hds K H vs xs) : Hds K H' vs xs := immsT k (notT_lst hl) h
instance [Imm α] : Imm (Tup α) := ⟨fun t k hl h => by
  cases h with
  | tup hs ha => exact .tup (sqT_kpT k hl hs) (immsT (xs := t.items) k hl ha)⟩
instance [Imm α] [Imm β] : Imm (α × β) := ⟨fun p k hl h => by
  cases h with
  | tup hs ha =>
    cases ha with
    | cons h1 h2 =>
      cases h2 with
      | cons h2 h3 =>
        cases h3
        exact .tup (sqT_kpT k hl hs) (.cons (Imm.imm p.1 k hl h1) (.cons (Imm.imm p.2 k hl h2) .nil))⟩
theorem sqT_dr {l a : Addr} {xs : List V} (h : SqT K H a xs) (k : Kp l H H') (d : DrAt H l) : SqT K H' a xs := by
  obtain ⟨x, y, e, _⟩ := d
  exact sqT_kp k ⟨_, e⟩ h
theorem Hd.kp [Imm α] {l : Addr} {v : V} {x : α} (h : Hd K H v x) (k : Kp l H H') (d : DrAt H l) : Hd K H' v x := by
  obtain ⟨a, b, e, _⟩ := d
  exact Imm.imm x k (notT_lst ⟨_, e⟩) h
theorem Hds.kp [Imm α] {l : Addr} {vs : List V} {xs : List α} (h : Hds K H vs xs) (k : Kp l H H') (d : DrAt H l) : Hds K H' vs xs := by
  obtain ⟨a, b, e, _⟩ := d
  exact imms k ⟨_, e⟩ h
/-! how it is known, what it gives -/
theorem hd_int {i : Int} : Hd K H (.int i) i := .int i
theorem hd_bool {b : Bool} : Hd K H (.bl b) b := .bl b
theorem hd_list {a : Addr} {vs : List V} {xs : List α} (h : SqL K H a vs) (r : Hds K H vs xs) : Hd K H (.ref a) xs := .lst h r
theorem hd_tup {a : Addr} {vs : List V} {xs : List α} (h : SqT K H a vs) (r : Hds K H vs xs) : Hd K H (.ref a) (⟨xs⟩ : Tup α) := .tup h r
theorem hd_pair {a : Addr} {v w : V} {x : α} {y : β} (h : SqT K H a [v, w]) (r : Hd K H v x) (q : Hd K H w y) : Hd K H (.ref a) (x, y) := .tup h (.cons r (.cons q .nil))
theorem hds_nil : Hds K H [] ([] : List α) := .nil
theorem hds_cons {v : V} {vs : List V} {x : α} {xs : List α} (h : Hd K H v x) (r : Hds K H vs xs) : Hds K H (v :: vs) (x :: xs) := .cons h r
theorem hds_ints : ∀ ns : List Int, Hds K H (ns.map V.int) ns
  | [] => .nil
  | n :: ns => .cons (.int n) (hds_ints ns)
theorem Hd.int_eq {v : V} {i : Int} (h : Hd K H v i) : v = .int i := by cases h; rfl
theorem Hd.bool_eq {v : V} {b : Bool} (h : Hd K H v b) : v = .bl b := by cases h; rfl
theorem Hd.list_of {v : V} {xs : List α} (h : Hd K H v xs) : ∃ a vs, v = .ref a ∧ SqL K H a vs ∧ Hds K H vs xs := by
  cases h with
  | lst hs ha => exact ⟨_, _, rfl, hs, ha⟩
theorem Hd.tup_of {v : V} {t : Tup α} (h : Hd K H v t) : ∃ a vs, v = .ref a ∧ SqT K H a vs ∧ Hds K H vs t.items := by
  cases h with
  | tup hs ha => exact ⟨_, _, rfl, hs, ha⟩
theorem Hd.pair_of {v : V} {p : α × β} (h : Hd K H v p) : ∃ a x y, v = .ref a ∧ SqT K H a [x, y] ∧ Hd K H x p.1 ∧ Hd K H y p.2 := by
  cases h with
  | tup hs ha =>
    cases ha with
    | cons h1 h2 =>
      cases h2 with
      | cons h2 h3 =>
        cases h3
        exact ⟨_, _, _, rfl, hs, h1, h2⟩
theorem Hd.pt_of {v : V} {p : Int × Int} (h : Hd K H v p) : ∃ a, v = .ref a ∧ SqT K H a [.int p.1, .int p.2] := by
  obtain ⟨a, x, y, rfl, hs, h1, h2⟩ := h.pair_of
  rw [h1.int_eq, h2.int_eq] at hs
  exact ⟨a, rfl, hs⟩
theorem Hds.ints_eq : ∀ {vs : List V} {ns : List Int}, Hds K H vs ns → vs = ns.map V.int
  | _, [], h => by cases h; rfl
  | _, n :: ns, h => by
    cases h with
    | cons h1 h2 =>
      have e1 := Hd.int_eq (i := n) h1
      have e2 := Hds.ints_eq (ns := ns) h2
      rw [e1, e2]; rfl
theorem Hds.bools_eq : ∀ {vs : List V} {ns : List Bool}, Hds K H vs ns → vs = ns.map V.bl
  | _, [], h => by cases h; rfl
  | _, n :: ns, h => by
    cases h with
    | cons h1 h2 =>
      have e1 := Hd.bool_eq (b := n) h1
      have e2 := Hds.bools_eq (ns := ns) h2
      rw [e1, e2]; rfl
theorem hds_bools : ∀ ns : List Bool, Hds K H (ns.map V.bl) ns
  | [] => .nil
  | n :: ns => .cons (.bl n) (hds_bools ns)
theorem Hds.length : ∀ {vs : List V} {xs : List α}, Hds K H vs xs → vs.length = xs.length
  | _, [], h => by cases h; rfl
  | _, _ :: xs, h => by
    cases h with
    | cons h1 h2 => exact congrArg (· + 1) (Hds.length (xs := xs) h2)
theorem Hds.at : ∀ {vs : List V} {xs : List α} {i : Nat} {x : α}, Hds K H vs xs → xs[i]? = some x → ∃ v, vs[i]? = some v ∧ Hd K H v x
  | _, [], _, _, _, e => by simp at e
  | _, y :: xs, i, x, h, e => by
    cases h with
    | cons h1 h2 =>
      cases i with
      | zero =>
        have e' : y = x := by simpa using e
        subst e'
        exact ⟨_, rfl, h1⟩
      | succ i =>
        obtain ⟨v, e1, e2⟩ := Hds.at (xs := xs) (i := i) (x := x) h2 (by simpa using e)
        exact ⟨v, by simpa using e1, e2⟩
theorem Hds.at' {vs : List V} {xs : List α} {i : Nat} {v : V} (h : Hds K H vs xs) (e : vs[i]? = some v) : ∃ x, xs[i]? = some x ∧ Hd K H v x := by
  have hl := h.length
  have hi : i < vs.length := (List.getElem?_eq_some_iff.mp e).1
  obtain ⟨w, e1, e2⟩ := h.at (i := i) (x := xs[i]'(by omega)) (by simp)
  rw [e] at e1
  cases e1
  exact ⟨_, by simp, e2⟩
theorem Hds.append : ∀ {vs ws : List V} {xs ys : List α}, Hds K H vs xs → Hds K H ws ys → Hds K H (vs ++ ws) (xs ++ ys)
  | _, _, [], _, h, q => by cases h; exact q
  | _, _, x :: xs, _, h, q => by
    cases h with
    | cons h1 h2 => exact .cons h1 (Hds.append (xs := xs) h2 q)
theorem Hds.take : ∀ {vs : List V} {xs : List α} (n : Nat), Hds K H vs xs → Hds K H (vs.take n) (xs.take n)
  | _, _, 0, _ => .nil
  | _, [], n + 1, h => by cases h; exact .nil
  | _, x :: xs, n + 1, h => by
    cases h with
    | cons h1 h2 => exact .cons h1 (Hds.take (xs := xs) n h2)
theorem Hds.drop : ∀ {vs : List V} {xs : List α} (n : Nat), Hds K H vs xs → Hds K H (vs.drop n) (xs.drop n)
  | _, _, 0, h => h
  | _, [], n + 1, h => by cases h; exact .nil
  | _, x :: xs, n + 1, h => by
    cases h with
    | cons h1 h2 => exact Hds.drop (xs := xs) n h2
theorem Hds.reverse : ∀ {vs : List V} {xs : List α}, Hds K H vs xs → Hds K H vs.reverse xs.reverse
  | _, [], h => by cases h; exact .nil
  | _, x :: xs, h => by
    cases h with
    | cons h1 h2 =>
      rw [List.reverse_cons, List.reverse_cons]
      exact (Hds.reverse (xs := xs) h2).append (.cons h1 .nil)
/-- an item of a list at a place within it -/
theorem r_pickI {Q : VK} {p : Addr} {n : Int} (ns : List Int) (h : SqL K H p (ns.map V.int)) (h0 : 0 ≤ n) (h1 : n < ns.length) (q : ∀ z, z ∈ ns → Q (.int z) H) : rIxL K (.ref p) (.int n) H Q := by
  obtain ⟨j, rfl⟩ : ∃ j : Nat, n = (j : Int) := ⟨n.toNat, by omega⟩
  have hj : j < ns.length := by omega
  exact r_ixL h (atI_nat (by rw [List.getElem?_map, List.getElem?_eq_getElem hj]; rfl)) (q _ (List.getElem_mem hj))
theorem r_pick {Q : VK} {p : Addr} {n : Int} {xs : List V} (h : SqL K H p xs) (h0 : 0 ≤ n) (h1 : n < xs.length) (q : ∀ v, v ∈ xs → Q v H) : rIxL K (.ref p) (.int n) H Q := by
  obtain ⟨j, rfl⟩ : ∃ j : Nat, n = (j : Int) := ⟨n.toNat, by omega⟩
  have hj : j < xs.length := by omega
  exact r_ixL h (atI_nat (List.getElem?_eq_getElem hj)) (q _ (List.getElem_mem hj))
/-- a point, or not -/
inductive PtB (K : PySem.W.Frag) (H : Hp) : V → Bool → Prop where
  | yes {v : V} (p : Int × Int) : Hd K H v p → PtB K H v true
  | kind {v : V} {n : String} : Kd K H v n → n ≠ "tuple" → PtB K H v false
  | len {a : Addr} {xs : List V} : SqT K H a xs → xs.length ≠ 2 → PtB K H (.ref a) false
  | item {a : Addr} {x y : V} {m n : String} : SqT K H a [x, y] → Kd K H x m → Kd K H y n → (isI x && isI y) = false → PtB K H (.ref a) false
theorem PtB.same {v : V} {b : Bool} (h : PtB K H v b) (s : Same H H') : PtB K H' v b := by
  cases h with
  | yes p h => exact .yes p (h.same s)
  | kind h e => exact .kind (h.same s) e
  | len h e => exact .len (sqT_same s h) e
  | item h h1 h2 e => exact .item (sqT_same s h) (h1.same s) (h2.same s) e
/-- == of data -/
theorem r_eqH [Lay α] {x y : V} {a b : α} {Q : VK} (hx : Hd K H x a) (hy : Hd K H y b) (q : Q (.bl (decide (a = b))) H) (h : Datum.depth α ≤ 64 := by decide) : rEqD K x y H Q :=
  r_eqD hx hy (shapedD a h) (shapedD b h) (by rw [Datum.eqv]; exact q)
theorem r_neH [Lay α] {x y : V} {a b : α} {Q : VK} (hx : Hd K H x a) (hy : Hd K H y b) (q : Q (.bl (!decide (a = b))) H) (h : Datum.depth α ≤ 64 := by decide) : rNeD K x y H Q :=
  r_neD hx hy (shapedD a h) (shapedD b h) (by rw [Datum.eqv]; exact q)
end
def crs (p q : Int × Int) : Int := p.1 * q.2 - p.2 * q.1
def cont (p : Int × Int) : Int := ((Int.gcd p.1 p.2 : Nat) : Int)
/-- both coordinates have fewer than n bits -/
def PBd (n : Nat) (p : Int × Int) : Prop := Bd n p.1 ∧ Bd n p.2
section
variable {K : PySem.W.Frag} {H H' : Hp} {α : Type} [DecidableEq α] [PySem.W.Datum α] [PySem.W.SomeDatum α]
instance [Lay α] : Lay (Option α) := ⟨fun o => by
  cases o with
  | none => rfl
  | some a => exact Lay.lay a⟩
instance [Imm α] : Imm (Option α) := ⟨fun o k hl h => by
  cases o with
  | none => cases h; exact .non
  | some a => exact Imm.imm a k hl h⟩
/-- None or an integer -/
def optI : Option Int → V
  | none => .non
  | some i => .int i
theorem hd_optI (o : Option Int) : Hd K H (optI o) o := by
  cases o with
  | none => exact .non
  | some i => exact .int i
theorem hds_optI : ∀ os : List (Option Int), Hds K H (os.map optI) os
  | [] => .nil
  | o :: os => .cons (hd_optI o) (hds_optI os)
end
end G
/-! ### == and != of instances by an own __eq__ -/
namespace G
open PySem PySem.Spec PyProof.Rows L2
section
variable {M : Model} {prog : Program} {w : World} {A : Around} {E : Value → Shared → Prop} {s : Shared} {K : PySem.W.Frag} {x C f : Addr} {ox : Obj} {od : Option Obj} {b tb : Value}
theorem ifBound_ne {args : List Value} {Q : Option Value → Shared → Prop} (X : K.In s.heap) (I : PySem.W.InstAt s.heap x ox C od) (hs : PySem.W.findIn K (.ref C) "__ne__" = some (some (.builtin "object.__ne__")))
    (h : wpAny M A (call (.builtin "object.__ne__") (.ref x :: args)) (fun v => Q (some v)) E s) : wpAny M A (callSpecialIfBound? (.ref x) "__ne__" args) Q E s := by
  simp only [callSpecialIfBound?, bindSpecialIfBound?]
  refine wpAny_holding (wpAny_bind (wpAny_bind (wpAny_bind (I.type.here ((PySem.W.looks_findIn X hs).here ?_)))))
  refine wpAny_bind (wpAny_askSetting (wpAny_ite ?_))
  have fin : wpAny M A (call (.builtin "object.__ne__") ([.ref x] ++ args) >>= fun v => pure (some v)) Q E s := wpAny_bind (wpAny_mono h (fun v s' h' => wpAny_pure h') fun _ _ h' => h')
  split
  · exact wpAny_bind (wpAny_of_eq (F.cmp_object.ne.bind _) (wpAny_pure (by exact fin)))
  · exact wpAny_tryCatch (wpAny_bind (wpAny_of_eq (F.cmp_object.ne.bind _) (wpAny_pure (by exact fin))))
theorem objNe_at {Q : Fin → Shared → Prop} (X : K.In s.heap) (I : PySem.W.InstAt s.heap x ox C od) (hs : PySem.W.findIn K (.ref C) "__eq__" = some (some (.ref f))) (hf : PySem.W.isFn K (.ref f) = true) (hu : A.units < cLine)
    (hcall : wpAny (model prog w) A (call (.ref f) [.ref x, b]) (fun v s' => ∃ c, v = .bool c ∧ Q (.done (.ret (.bool (!c)))) s') E s) :
    wpAny (model prog w) A (Builtin.«object.__ne__» ⟨[.ref x, b], []⟩) Q E s := by
  unfold Builtin.«object.__ne__»
  repeat (first
    | with_reducible refine wpAny_cRoomFor hu ?_
    | (refine wpAny_bind (m := callSpecialIfBound? (.ref x) (Str.ofString "__eq__") [b])
        (PySem.W.ifBound_K X I hs hf (wpAny_mono hcall (fun r s' hr => by
          obtain ⟨c, rfl, hq⟩ := hr
          repeat (first | exact hq | exact wpAny_pure hq | exact wpAny_truthy_bool hq | (refine wpAny_bind (m := truthy (.bool _)) (wpAny_truthy_bool ?_)) | wp_step)) fun _ _ e => e)))
    | wp_step)
theorem ne_K {Q : Value → Shared → Prop} (hu : A.units + 1 < cLine) (X : K.In s.heap) (I : PySem.W.InstAt s.heap x ox C od) (hb : PySem.W.Looks (model prog w) s.heap (typeOf b) tb) (hn : PySem.W.notFirst K C tb = true)
    (hne : PySem.W.findIn K (.ref C) "__ne__" = some (some (.builtin "object.__ne__"))) (hs : PySem.W.findIn K (.ref C) "__eq__" = some (some (.ref f))) (hf : PySem.W.isFn K (.ref f) = true) (hm : PySem.W.mroIn K C (.type "object") = some true)
    (hcall : wpAny (model prog w) A.in1 (call (.ref f) [.ref x, b]) (fun v s' => ∃ c, v = .bool c ∧ Q (.bool (!c)) s') E s) : wpAny (model prog w) A (richCompare .NotEq (.ref x) b) Q E s := by
  have one : wpAny (model prog w) A (tryCompare (.ref x) (cmpInfo .NotEq).2.1 b) (fun r s' => ∃ v, r = some v ∧ Q v s') E s := by
    show wpAny (model prog w) A (tryCompare (.ref x) "__ne__" b) _ E s
    unfold tryCompare
    refine wpAny_bind (ifBound_ne X I hne (wpAny_call (codeAny_call_builtin F.cmp_object.ne.plain F.cmpEntry_ne (PySem.W.check_slot F.cmpKind_ne F.cmpSplit_ne (I.type.andThen (PySem.W.looks_mroIn X hm)) (F.cmpArgs_ne _ _)
      (objNe_at (A := A.in1) X I hs hf hu (wpAny_mono hcall (fun v s' hv => ?_) fun _ _ e => e))))))
    obtain ⟨c, rfl, hq⟩ := hv
    first | exact ⟨c, rfl, wpAny_pure ⟨_, rfl, hq⟩⟩ | exact ⟨c, rfl, wpAny_pure (wpAny_pure ⟨_, rfl, hq⟩)⟩ | exact ⟨c, rfl, ⟨_, rfl, hq⟩⟩
  unfold richCompare
  simp only [oneThing_ref]
  refine wpAny_holding (wpAny_bind (wpAny_cRoomFor (Nat.lt_of_succ_lt hu) ?_))
  refine wpAny_bind (I.type.here (wpAny_bind (hb.here ?_)))
  split
  · rename_i q
    have e : PySem.W.subIn K tb (.ref C) = some false := by
      rcases Bool.or_eq_true_iff.mp hn with e | e
      · rw [beq_iff_eq.mp e] at q; simp at q
      · exact beq_iff_eq.mp e
    refine wpAny_bind ((PySem.W.looks_subIn X e).here ?_)
    simp only [Bool.false_eq_true, if_false]
    refine wpAny_bind (wpAny_mono one (fun r s' z => ?_) fun _ _ e => e)
    obtain ⟨v, rfl, hq⟩ := z
    exact wpAny_pure hq
  · refine wpAny_bind (wpAny_pure ?_)
    simp only [Bool.false_eq_true, if_false]
    refine wpAny_bind (wpAny_mono one (fun r s' z => ?_) fun _ _ e => e)
    obtain ⟨v, rfl, hq⟩ := z
    exact wpAny_pure hq
end
/-- the class at C compares by its own __eq__ at f -/
structure OEq (K : PySem.W.Frag) (C f : Addr) : Prop where
  eq : PySem.W.findIn K (.ref C) "__eq__" = some (some (.ref f))
  fn : PySem.W.isFn K (.ref f) = true
  ne : PySem.W.findIn K (.ref C) "__ne__" = some (some (.builtin "object.__ne__"))
  ob : PySem.W.mroIn K C (.type "object") = some true
def oEqB (K : PySem.W.Frag) (C f : Addr) : Bool := He.eqO (PySem.W.findIn K (.ref C) "__eq__") (some (some (.ref f))) && (PySem.W.isFn K (.ref f) && (He.eqO (PySem.W.findIn K (.ref C) "__ne__") (some (some (.builtin "object.__ne__"))) && decide (PySem.W.mroIn K C (.type "object") = some true)))
theorem oEqB_ok {K : PySem.W.Frag} {C f : Addr} (c : oEqB K C f = true) : OEq K C f := by
  obtain ⟨c1, c⟩ := He.ba c
  obtain ⟨c2, c⟩ := He.ba c
  obtain ⟨c3, c4⟩ := He.ba c
  exact ⟨He.eqO_ok c1, c2, He.eqO_ok c3, of_decide_eq_true c4⟩
def rEqO (K : PySem.W.Frag) (C : Addr) (sp : Sp) (E : XK) : R2 := fun x y H Q => ∃ a dx fs t, x = .ref a ∧ H a = some (.ins C dx fs) ∧ TyX K H y t ∧ PySem.W.notFirst K C t = true ∧ sp [x, y] H (fun v H' => ∃ b, v = .bl b ∧ Q (.bl b) H') E
def rNeO (K : PySem.W.Frag) (C : Addr) (sp : Sp) (E : XK) : R2 := fun x y H Q => ∃ a dx fs t, x = .ref a ∧ H a = some (.ins C dx fs) ∧ TyX K H y t ∧ PySem.W.notFirst K C t = true ∧ sp [x, y] H (fun v H' => ∃ b, v = .bl b ∧ Q (.bl (!b)) H') E
section
variable {X : Cx} {CX : CXT} {n : Nat} {C f : Addr} {fd : FuncData} {ps : List Str} {sp : Sp} {E : XK} {K : PySem.W.Frag}
theorem run_eqO {A : Around} {pins : List (Addr × Obj)} {σ : L2.St} {H : Hp} {s : Shared} {Q : VK} {x y : V} {u v : Value} (F : FnOk X.prog X.w X.K X.mg X.base CX n f fd ps sp) (hr : Room n A) (e0 : Env0 X.prog X.w X.K X.mg X.base A X.stack s H) (hb : Binds X.K fd ps []) (hx : Passes CX X E)
    (I : Inv X pins σ H s) (rx : RelV x u) (ry : RelV y v) (h : sp [x, y] H Q E) : wpAny (model X.prog X.w) A (call (.ref f) [u, v]) (EP X pins σ Q) X.xe s := by
  have hl := F.len _ _ _ _ h
  refine wpAny_call (codeAny_mono (F.run A X.stack s H ⟨[u, v], []⟩ [u, v] [x, y] Q E hr e0 (by
    have := hb s [u, v] I.kIn (by simpa using hl)
    simpa using this) (.cons rx (.cons ry .nil)) h) fun r s' hq => ?_)
  cases r with
  | error e => exact hx pins σ H s e s' I hq
  | ok fl =>
    cases fl with
    | ret w => exact I.after hq
    | next => exact False.elim hq
    | brk => exact False.elim hq
    | cont => exact False.elim hq
theorem op_eqO (o : OEq X.K C f) (F : FnOk X.prog X.w X.K X.mg X.base CX n f fd ps sp) (hr : Room n X.A) (hb : Binds X.K fd ps []) (hx : Passes CX X E) (hK : X.K = K := by rfl) : OpR X (compareOp .Eq) (rEqO K C sp E) := by
  subst hK
  intro pins s σ H x y u v Q I rx ry h
  obtain ⟨a, dx, fs, t, rfl, ha, ty, hn, h⟩ := h
  obtain ⟨P, Z, p, _⟩ := kit_of I ry ty
  cases rx
  obtain ⟨mA, J, _⟩ := ins_get I.hok ha
  obtain ⟨od, J, _⟩ := J.look
  obtain ⟨m, hF⟩ := I.fr
  show wpAny (model X.prog X.w) X.A (richCompare .Eq (.ref a) v) (EP X pins σ Q) X.xe s
  refine PySem.W.cmp_K (op := .Eq) hr.units0 hF I.ok.mod.kin J (Z.ty _ _ I.kIn p) hn o.eq o.fn ?_
  refine thn (run_eqO (x := .ref a) F hr I.env0 hb hx I rfl ry h) fun r s' z => ?_
  obtain ⟨w, H', I', rw', b, rfl, q⟩ := z
  cases rw'
  exact ⟨.bl b, H', I', rfl, q⟩
theorem op_neO (o : OEq X.K C f) (F : FnOk X.prog X.w X.K X.mg X.base CX n f fd ps sp) (hr : Room (n + 1) X.A) (hb : Binds X.K fd ps []) (hx : Passes CX X E) (hK : X.K = K := by rfl) : OpR X (compareOp .NotEq) (rNeO K C sp E) := by
  subst hK
  intro pins s σ H x y u v Q I rx ry h
  obtain ⟨a, dx, fs, t, rfl, ha, ty, hn, h⟩ := h
  obtain ⟨P, Z, p, _⟩ := kit_of I ry ty
  cases rx
  obtain ⟨mA, J, _⟩ := ins_get I.hok ha
  obtain ⟨od, J, _⟩ := J.look
  show wpAny (model X.prog X.w) X.A (richCompare .NotEq (.ref a) v) (EP X pins σ Q) X.xe s
  have hu : X.A.units + 1 < cLine := Nat.lt_of_le_of_lt (Nat.add_le_add_left (by decide : 1 ≤ 64) _) hr.units
  refine ne_K hu I.kIn J (Z.ty _ _ I.kIn p) hn o.ne o.eq o.fn o.ob ?_
  refine thn (run_eqO (x := .ref a) F hr.in1 I.env0.in1 hb hx I rfl ry h) fun r s' z => ?_
  obtain ⟨w, H', I', rw', b, rfl, q⟩ := z
  cases rw'
  exact ⟨b, rfl, .bl (!b), H', I', rfl, q⟩
end
section
variable {K : PySem.W.Frag} {H : Hp} {Q : VK} {C a dx : Addr} {fs : List (Str × V)} {sp : Sp} {E : XK} {y : V} {t : Value}
theorem r_eqO (ha : H a = some (.ins C dx fs)) (ty : TyX K H y t) (hn : PySem.W.notFirst K C t = true) (q : sp [.ref a, y] H (fun v H' => ∃ b, v = .bl b ∧ Q (.bl b) H') E) : rEqO K C sp E (.ref a) y H Q := ⟨a, dx, fs, t, rfl, ha, ty, hn, q⟩
theorem r_neO (ha : H a = some (.ins C dx fs)) (ty : TyX K H y t) (hn : PySem.W.notFirst K C t = true) (q : sp [.ref a, y] H (fun v H' => ∃ b, v = .bl b ∧ Q (.bl (!b)) H') E) : rNeO K C sp E (.ref a) y H Q := ⟨a, dx, fs, t, rfl, ha, ty, hn, q⟩
end
end G
/-! ### methods, makings, class methods: the callee by a positional promise, its errors wished for at the caller's slots -/
namespace G
open PySem PySem.Spec PyProof.Rows L2
section
variable {X : Cx} {CX : CXT} {k i : Nat} {f C p g : Addr} {sp : Sp} {E : L2.St → XK} {x m : Str} {np pos apos : Pos} {o e : Expr} {es : List Expr} {ta : TE} {t : TA} {mc : Value}
def tMethA (C : Addr) (m : Str) (sp : Sp) (E : L2.St → XK) (ta : TE) (t : TA) : TE := fun σ H Q => ta σ H fun x H1 => ∃ a dx fs, x = .ref a ∧ H1 a = some (.ins C dx fs) ∧ fs.lookup m = none ∧ t σ H1 fun vs H2 => sp (x :: vs) H2 Q (E σ)
def tMakeA (C : Addr) (sp : Sp) (E : L2.St → XK) (t : TA) : TE := fun σ H Q => t σ H fun vs H1 => ∀ x dx, H1 x = none → H1 dx = none → dx ≠ x →
  sp (V.ref x :: vs) (upd (upd H1 dx (.own x)) x (.ins C dx [])) (fun v H2 => v = .non ∧ Q (.ref x) H2) (E σ)
def tMakeL (i : Nat) (C : Addr) (sp : Sp) (E : L2.St → XK) (t : TA) : TE := fun σ H Q => σ[i]? = some (some (.ref C)) ∧ t σ H fun vs H1 => ∀ x dx, H1 x = none → H1 dx = none → dx ≠ x →
  sp (V.ref x :: vs) (upd (upd H1 dx (.own x)) x (.ins C dx [])) (fun v H2 => v = .non ∧ Q (.ref x) H2) (E σ)
def tCMethA (C : Addr) (sp : Sp) (E : XK) (ta : TE) : TE := fun σ H Q => ta σ H fun x H1 => x = .ref C ∧ sp [.ref C] H1 Q E
theorem pe_methA {pl : Sem Bool} (he : PE X o ta) (c : Cls X.K C) (hm : Meth X.K C m f) (F : FnR X.prog X.w X.K X.mg X.base CX k f sp) (hr : Room k X.A) (hx : ∀ σ, PassesAt CX X σ (E σ)) (ha : PA X (e :: es) t)
    (hst : starEach (e :: es) X.env = (false, eval e X.env) :: starEach es X.env := by rfl) (hpl : (backTo pos (starEach es X.env)).any (·.1) = false := by rfl)
    (ht : eval (.Call (.Attribute o m apos) (e :: es) [] pos) X.env = (do
      let ov ← eval o X.env
      standAt apos.atName
      let (f, first) ← holding [ov] (getMethod ov m pl)
      callWith pos f first (backTo pos (starEach (e :: es) X.env)) (backToKw pos (keywordEach [] X.env))) := by rfl) :
    PE X (.Call (.Attribute o m apos) (e :: es) [] pos) (tMethA C m sp E ta t) := by
  refine ⟨fun pins s σ H Q I h => ?_⟩
  refine PySem.W.methodCall_KW (pl := pl) (thn (he.run pins s σ H _ I h) fun u s1 ⟨x, H1, I1, rx, a, dx, fs, ex, ea, l, q⟩ => ?_) ht
  subst ex
  obtain rfl : u = Value.ref a := rx
  refine getmeth_ok I1 ea c hm l ?_
  refine PySem.W.callWith_K (first := [.ref a]) (h₀ := X.base) I.ok.mod.kin hm.kp (thn (ha.run pos pins s1 σ H1 _ I1 q) fun us s2 ⟨vs, H2, I2, r, q2⟩ => ⟨I2.kIn, ?_⟩) hst hpl
  exact run_fnRS (us := .ref a :: us) (vs := .ref a :: vs) F hr (hx σ) I2 (.cons rfl r) q2
theorem pe_methA0 {pl : Sem Bool} (he : PE X o ta) (c : Cls X.K C) (hm : Meth X.K C m f) (F : FnR X.prog X.w X.K X.mg X.base CX k f sp) (hr : Room k X.A) (hx : ∀ σ, PassesAt CX X σ (E σ))
    (ht : eval (.Call (.Attribute o m apos) [] [] pos) X.env = (do
      let ov ← eval o X.env
      standAt apos.atName
      let (f, first) ← holding [ov] (getMethod ov m pl)
      callWith pos f first (backTo pos (starEach [] X.env)) (backToKw pos (keywordEach [] X.env))) := by rfl) :
    PE X (.Call (.Attribute o m apos) [] [] pos) (tMethA C m sp E ta tNil) := by
  refine ⟨fun pins s σ H Q I h => ?_⟩
  refine PySem.W.methodCall_KW (pl := pl) (thn (he.run pins s σ H _ I h) fun u s1 ⟨x, H1, I1, rx, a, dx, fs, ex, ea, l, q⟩ => ?_) ht
  subst ex
  obtain rfl : u = Value.ref a := rx
  refine getmeth_ok I1 ea c hm l ?_
  exact PySem.W.callWith_K0 (first := [.ref a]) I1.kIn hm.kp (run_fnRS (us := [.ref a]) (vs := [.ref a]) F hr (hx σ) I1 (.cons rfl .nil) q)
theorem run_makeA {pins : List (Addr × Obj)} {σ : L2.St} {H : Hp} {s : Shared} {Q : VK} {us : List Value} {vs : List V} (M : Mk X.K C f) (F : FnR X.prog X.w X.K X.mg X.base CX k f sp) (hr : Room (k + 1) X.A) (hx : PassesAt CX X σ (E σ)) (I : Inv X pins σ H s) (r : Vals vs us)
    (h : ∀ x dx, H x = none → H dx = none → dx ≠ x → sp (V.ref x :: vs) (upd (upd H dx (.own x)) x (.ins C dx [])) (fun v H2 => v = .non ∧ Q (.ref x) H2) (E σ)) :
    wpAny (model X.prog X.w) X.A (call (.ref C) us) (EP X pins σ Q) X.xe s := by
  have hq := h (s.heap.objs.size + 1) s.heap.objs.size (I.hok.fresh (Nat.le_succ _)) (I.hok.fresh (Nat.le_refl _)) (Nat.ne_of_lt (Nat.lt_succ_self _))
  have I2 := Inv.made (C := C) I
  have r2 : Vals (V.ref (s.heap.objs.size + 1) :: vs) (Value.ref (s.heap.objs.size + 1) :: us) := .cons rfl r
  refine wpAny_call (make_map (f := f) I.kIn M.makes M.init (beq_iff_eq.mp M.fn) (codeAny_mono (F _ X.stack _ _ (Value.ref (s.heap.objs.size + 1) :: us) _ _ (E σ) (hr.make C us []) (I2.env0.make C us []) r2 hq) fun r s' hq' => ?_))
  cases r with
  | error e => exact hx pins _ _ e s' I2 hq'
  | ok fl =>
    cases fl with
    | ret u =>
      obtain ⟨v, H', I3, rv, ev, q3⟩ := I2.after hq'
      subst ev
      exact ⟨rv, ⟨V.ref (s.heap.objs.size + 1), H', I3, rfl, q3⟩⟩
    | next => exact False.elim hq'
    | brk => exact False.elim hq'
    | cont => exact False.elim hq'
theorem pe_makeA (M : Mk X.K C f) (F : FnR X.prog X.w X.K X.mg X.base CX k f sp) (hr : Room (k + 1) X.A) (hg : Gl X x) (hm : X.mg x = some (.ref C)) (hx : ∀ σ, PassesAt CX X σ (E σ)) (ha : PA X (e :: es) t) (hdb : (x == ("__debug__" : Str)) = false := by decide)
    (he : starEach (e :: es) X.env = (false, eval e X.env) :: starEach es X.env := by rfl) (hpl : (backTo pos (starEach es X.env)).any (·.1) = false := by rfl) : PE X (.Call (.Name x np) (e :: es) [] pos) (tMakeA C sp E t) := by
  refine ⟨fun pins s σ H Q I h => ?_⟩
  refine wpAny_Call_Name_kw (ld_glob I hg hm ?_ hdb)
  refine PySem.W.callWith_K (h₀ := X.base) I.ok.mod.kin M.kp (thn (ha.run pos pins s σ H _ I h) fun us s1 ⟨vs, H1, I1, r, q⟩ => ⟨I1.kIn, ?_⟩) he hpl
  exact run_makeA M F hr (hx σ) I1 r q
theorem pe_makeL (M : Mk X.K C f) (F : FnR X.prog X.w X.K X.mg X.base CX k f sp) (hr : Room (k + 1) X.A) (hN : X.N[i]? = some x) (hv : Vis X.env.scope x) (hx : ∀ σ, PassesAt CX X σ (E σ)) (ha : PA X (e :: es) t) (hdb : (x == ("__debug__" : Str)) = false := by decide) (hcd : (x == ("__classdict__" : Str)) = false := by decide)
    (he : starEach (e :: es) X.env = (false, eval e X.env) :: starEach es X.env := by rfl) (hpl : (backTo pos (starEach es X.env)).any (·.1) = false := by rfl) : PE X (.Call (.Name x np) (e :: es) [] pos) (tMakeL i C sp E t) := by
  refine ⟨fun pins s σ H Q I h => ?_⟩
  obtain ⟨hs, ht⟩ := h
  refine wpAny_Call_Name_kw (thn ((pe_var (pos := np) hN hv hdb hcd).run pins s σ H (fun v H1 => v = .ref C ∧ H1 = H) I ⟨.ref C, hs, rfl, rfl⟩) fun u s1 ⟨v, H1, I1, r1, q1⟩ => ?_)
  obtain ⟨rfl, rfl⟩ := q1
  cases r1
  refine PySem.W.callWith_K (h₀ := X.base) I.ok.mod.kin M.kp (thn (ha.run pos pins s1 σ _ _ I1 ht) fun us s2 ⟨vs, H2, I2, r, q⟩ => ⟨I2.kIn, ?_⟩) he hpl
  exact run_makeA M F hr (hx σ) I2 r q
/-- C.m(), m a classmethod -/
theorem pe_cmeth0 {pl : Sem Bool} {E : XK} (he : PE X o ta) (r : ClX.CRead X.K C mc) (c : ClX.CMet X.K C mc m p g) (F : FnR X.prog X.w X.K X.mg X.base CX k g sp) (hr : Room k X.A) (hx : Passes CX X E)
    (ht : eval (.Call (.Attribute o m apos) [] [] pos) X.env = (do
      let ov ← eval o X.env
      standAt apos.atName
      let (f, first) ← holding [ov] (getMethod ov m pl)
      callWith pos f first (backTo pos (starEach [] X.env)) (backToKw pos (keywordEach [] X.env))) := by rfl) :
    PE X (.Call (.Attribute o m apos) [] [] pos) (tCMethA C sp E ta) := by
  refine ⟨fun pins s σ H Q I h => ?_⟩
  refine PySem.W.methodCall_KW (pl := pl) (thn (he.run pins s σ H _ I h) fun u s1 ⟨x, H1, I1, rx, ex, q⟩ => ?_) ht
  subst ex
  obtain rfl : u = Value.ref C := rx
  refine ClX.getmethcm_ok I1 r c fun s2 I2 => ?_
  exact PySem.W.callWith_M0 (first := []) ⟨ClX.pin_at I2, I2.kIn⟩ c.fi (ClX.run_cm (us := []) (vs := []) F hr hx I2 .nil q)
theorem kCVal {K : PySem.W.Frag} (he : PE X e ta) (hK : X.K = K := by rfl) (hb : attributeBase e m X.env (eval e X.env) = eval e X.env := by rfl) : PE X (.Attribute e m pos) (ClX.tCVal K ta m) := hK ▸ ClX.pe_cval he hb
end
section
variable {K : PySem.W.Frag} {σ : L2.St} {H : Hp} {Q : VK} {C a dx : Addr} {fs : List (Str × V)} {sp : Sp} {E : L2.St → XK} {ta : TE} {t : TA} {m : Str} {i : Nat} {D : Ends}
theorem r_methA (q : ta σ H fun x H1 => ∃ a dx fs, x = .ref a ∧ H1 a = some (.ins C dx fs) ∧ fs.lookup m = none ∧ t σ H1 fun vs H2 => sp (x :: vs) H2 Q (E σ)) : tMethA C m sp E ta t σ H Q := q
theorem r_recv {R : Prop} (h : H a = some (.ins C dx fs)) (hl : fs.lookup m = none) (q : R) : ∃ b dx fs, V.ref a = .ref b ∧ H b = some (.ins C dx fs) ∧ fs.lookup m = none ∧ R := ⟨a, dx, fs, rfl, h, hl, q⟩
theorem r_makeA (q : t σ H fun vs H1 => ∀ x dx, H1 x = none → H1 dx = none → dx ≠ x → sp (V.ref x :: vs) (upd (upd H1 dx (.own x)) x (.ins C dx [])) (fun v H2 => v = .non ∧ Q (.ref x) H2) (E σ)) : tMakeA C sp E t σ H Q := q
theorem r_makeL (h : σ[i]? = some (some (.ref C))) (q : t σ H fun vs H1 => ∀ x dx, H1 x = none → H1 dx = none → dx ≠ x → sp (V.ref x :: vs) (upd (upd H1 dx (.own x)) x (.ins C dx [])) (fun v H2 => v = .non ∧ Q (.ref x) H2) (E σ)) : tMakeL i C sp E t σ H Q := ⟨h, q⟩
theorem r_cmethA {E : XK} (q : ta σ H fun x H1 => x = .ref C ∧ sp [.ref C] H1 Q E) : tCMethA C sp E ta σ H Q := q
theorem r_cval {f : Str} (q : ta σ H fun x H1 => ∃ C mc v u, x = .ref C ∧ ClX.CRead K C mc ∧ ClX.CVal K C mc f v u ∧ Q v H1) : ClX.tCVal K ta f σ H Q := q
theorem r_prop {sp : Sp} {dvs : List V} {E : XK} (q : ta σ H fun x H1 => ∃ a dx fs, x = .ref a ∧ H1 a = some (.ins C dx fs) ∧ sp (.ref a :: dvs) H1 Q E) : tProp C sp dvs E ta σ H Q := q
theorem r_fld {f : Str} (q : ta σ H fun x H1 => ∃ a C dx fs v, x = .ref a ∧ H1 a = some (.ins C dx fs) ∧ Cls K C ∧ NoAttr K C f ∧ fs.lookup f = some v ∧ Q v H1) : tFld K ta f σ H Q := q
theorem r_sfld {f : Str} {tv : TE} (q : tv σ H fun y H1 => ta σ H1 fun x H2 => ∃ a C dx fs, x = .ref a ∧ H2 a = some (.ins C dx fs) ∧ Cls K C ∧ NoAttr K C f ∧ fs.length < 1000 ∧ D.nx σ (upd H2 a (.ins C dx (putF f y fs)))) : sFld K ta tv f D σ H := q
theorem r_fldAt {f : Str} {v : V} {R : V → Prop} (h : H a = some (.ins C dx fs)) (c : Cls K C) (n : NoAttr K C f) (l : fs.lookup f = some v) (q : R v) : ∃ b C dx fs v, V.ref a = .ref b ∧ H b = some (.ins C dx fs) ∧ Cls K C ∧ NoAttr K C f ∧ fs.lookup f = some v ∧ R v := ⟨a, C, dx, fs, v, rfl, h, c, n, l, q⟩
end
end G
/-! ### the head's facts by a list of tests -/
namespace G
open PySem PySem.Spec PyProof.Rows L2
def fdNo : FuncData := PySem.W.fnOf "" "" { posonlyargs := [], args := [], vararg := none, kwonlyargs := [], kw_defaults := [], kwarg := none, defaults := [] } [] { kind := .function, names := [], isGenerator := false, isCoroutine := false } .none .none .none .none none .none .none
def fdOf (K : PySem.W.Frag) (f : Addr) : FuncData := match K.lookup f with
  | some ⟨_, _, .func fd, _⟩ => fd
  | _ => fdNo
theorem defAt {K : PySem.W.Frag} {x qual : Str} {params : Arguments} {body : List Stmt} {scope : Scope} {dvs : List V} {kws : List (Str × V)} {f : Addr} (h : ∃ fd, FunD K x qual params body scope dvs kws f fd) : FunD K x qual params body scope dvs kws f (fdOf K f) := by
  obtain ⟨fd, F⟩ := h
  have e : fdOf K f = fd := by
    obtain ⟨oc, od, dV, kV, doc, pm, an, cdv, ct, osl, rfl, lk, _⟩ := F.ex
    unfold fdOf
    rw [lk]
  rw [e]
  exact F
/-- a def's words, whatever its closure -/
def fnB (K : PySem.W.Frag) (a : Addr) : He5.FnW := match K.lookup a with
  | some ⟨_, _, .func fd, _⟩ => some (fd.name, fd.qualname, fd.params, fd.body, fd.scope, fd.globals, [], fd.builtins)
  | _ => none
def obsM (fa : List (PySem.W.Frag → Bool)) (fn gs : List He5.DefA) (K : PySem.W.Frag) : He.AlD := ((fa.all fun f => f K) && fn.all fun d => d.ok K, (fn.map fun d => He5.fnA K (d.at_ K)) ++ gs.map fun d => fnB K (d.at_ K))
def valM (fn gs : List He5.DefA) : He.AlD := (true, fn.map He5.DefA.val ++ gs.map He5.DefA.val)
def SaysM (fa : List (PySem.W.Frag → Bool)) (fn gs : List He5.DefA) (K : PySem.W.Frag) : Prop := obsM fa fn gs K = valM fn gs
def obsMG (n : Nat) (fa : List (PySem.W.Frag → Bool)) (fn gs : List He5.DefA) (g : Addr → Option Obj) : He.AlD := obsM fa fn gs (He.frG g (He5.asA g n))
def hookM (n : Nat) (fa : List (PySem.W.Frag → Bool)) (fn gs : List He5.DefA) : PySem.W.Hook where
  α := He.AlD
  obs := fun s => obsMG n fa fn gs s.heap.get?
  val := fun _ => valM fn gs
  says := fun _ h => ∃ K : PySem.W.Frag, K.In h ∧ SaysM fa fn gs K
  of := fun _ _ e => ⟨_, He.frG_in, e⟩
  keeps := fun _ _ _ ⟨K, hK, c⟩ k => ⟨K, PySem.W.Frag.In.keeps hK k, c⟩
theorem obsMG_eq {n : Nat} {fa : List (PySem.W.Frag → Bool)} {fn gs : List He5.DefA} {g : Addr → Option Obj} {s : Shared} (h : ∀ a, g a = s.heap.get? a) : obsMG n fa fn gs g = (hookM n fa fn gs).obs s := by
  have e : g = s.heap.get? := funext h
  rw [e] <;> rfl
section
variable {fa : List (PySem.W.Frag → Bool)} {fn gs : List He5.DefA} {K : PySem.W.Frag}
theorem SaysM.fact (c : SaysM fa fn gs K) (i : Nat) {f : PySem.W.Frag → Bool} (h : fa[i]? = some f) : f K = true := by
  have c1 := (He.ba (show ((fa.all fun f => f K) && fn.all fun d => d.ok K) = true from congrArg (fun z : He.AlD => z.1) c)).1
  exact List.all_eq_true.mp c1 f (List.mem_of_getElem? h)
theorem SaysM.two (c : SaysM fa fn gs K) : fn.map (fun d => He5.fnA K (d.at_ K)) = fn.map He5.DefA.val ∧ gs.map (fun d => fnB K (d.at_ K)) = gs.map He5.DefA.val :=
  List.append_inj (congrArg (fun z : He.AlD => z.2) c) (by rw [List.length_map, List.length_map])
theorem SaysM.def_ (c : SaysM fa fn gs K) (i : Nat) {d : He5.DefA} (h : fn[i]? = some d) : ∃ fd, FunD K d.name d.qual d.params d.body d.scope (d.dvs K) (d.kws K) (d.at_ K) fd := by
  have c2 := (He.ba (show ((fa.all fun f => f K) && fn.all fun d => d.ok K) = true from congrArg (fun z : He.AlD => z.1) c)).2
  have e2 : (fn.map fun d => He5.fnA K (d.at_ K))[i]? = (fn.map He5.DefA.val)[i]? := by rw [c.two.1]
  rw [List.getElem?_map, List.getElem?_map, h] at e2
  exact He5.DefA.funD (Option.some.inj e2) (List.all_eq_true.mp c2 d (List.mem_of_getElem? h))
theorem SaysM.sup_ (c : SaysM fa fn gs K) (i : Nat) {d : He5.DefA} (h : gs[i]? = some d) : fnB K (d.at_ K) = d.val := by
  have e2 : (gs.map fun d => fnB K (d.at_ K))[i]? = (gs.map He5.DefA.val)[i]? := by rw [c.two.2]
  rw [List.getElem?_map, List.getElem?_map, h] at e2
  exact Option.some.inj e2
end
/-! ### own exceptions without __init__ -/
structure ExcF (K : PySem.W.Frag) (C : Addr) : Prop where
  x : PySem.W.excIn K C He.veBase "ValueError.__new__" = true
  k : PySem.W.keepIn K (.ref C) = true
  b : PySem.W.subIn K (.ref C) (.type "BaseException") = some true
  t : PySem.W.typeIn K (.ref C) = some (.type "type")
def excFB (K : PySem.W.Frag) (C : Addr) : Bool := PySem.W.excIn K C He.veBase "ValueError.__new__" && (PySem.W.keepIn K (.ref C) && (decide (PySem.W.subIn K (.ref C) (.type "BaseException") = some true) && decide (PySem.W.typeIn K (.ref C) = some (.type "type"))))
theorem excF_ok {K : PySem.W.Frag} {C : Addr} (c : excFB K C = true) : ExcF K C := by
  obtain ⟨c1, c⟩ := He.ba c
  obtain ⟨c2, c⟩ := He.ba c
  obtain ⟨c3, c4⟩ := He.ba c
  exact ⟨c1, c2, of_decide_eq_true c3, of_decide_eq_true c4⟩
end G
namespace G
open PySem PySem.Spec PyProof.Rows L2
/-- a law's promise -/
def sp_law (K : PySem.W.Frag) : Sp := fun vs H Q _ => ∃ (a : Addr) (ns : List Int), vs = [.ref a] ∧ SqL K H a (ns.map V.int) ∧ ns.length ≤ 63 ∧ ∀ H', Q (.bl true) H'
end G
/-! ### classes: facts read off the head -/
namespace G
open PySem PySem.Spec PyProof.Rows L2
/-- f is a property of the class at C (found at D): its getter -/
def propB (K : PySem.W.Frag) (C D : Addr) (f : Str) : Bool := He.eqO (PySem.W.findIn K (.ref C) f) (some (some (.ref (He.ma K D f)))) && (He.eqO (PySem.W.specialIn K (.ref (He.ma K D f)) "__get__") (some (some (.builtin "property.__get__"))) &&
  (decide (PySem.W.takesIn K (.ref (He.ma K D f)) = some true) && (match PySem.W.recIn K (He.ma K D f) "property" with
    | some (.ref _ :: _) => true
    | _ => false)))
theorem propB_ok {K : PySem.W.Frag} {C D : Addr} {f : Str} (c : propB K C D f = true) : PropOf K C f (He.ma K D f) (He5.wf K D "property" f) := by
  obtain ⟨c1, c⟩ := He.ba c
  obtain ⟨c2, c⟩ := He.ba c
  obtain ⟨c3, c4⟩ := He.ba c
  refine ⟨He.eqO_ok c1, He.eqO_ok c2, of_decide_eq_true c3, ?_⟩
  unfold He5.wf
  split at c4
  · rename_i g rest e
    rw [e]
    exact ⟨rest, rfl⟩
  · cases c4
/-- m is a method of the class at C, found at D -/
def methB (K : PySem.W.Frag) (C D : Addr) (m : Str) : Bool := He.eqO (PySem.W.findIn K (.ref C) m) (some (some (.ref (He.ma K D m)))) && (PySem.W.isFn K (.ref (He.ma K D m)) && PySem.W.keepIn K (.ref (He.ma K D m)))
theorem methB_ok {K : PySem.W.Frag} {C D : Addr} {m : Str} (c : methB K C D m = true) : Meth K C m (He.ma K D m) := by
  obtain ⟨c1, c⟩ := He.ba c
  obtain ⟨c2, c3⟩ := He.ba c
  exact ⟨He.eqO_ok c1, c2, c3⟩
def creadB (K : PySem.W.Frag) (C : Addr) : Bool := PySem.W.readsIn K C (.type "type") && He.eqO (PySem.W.specialIn K (.ref C) "__getattribute__") (some (some (.builtin "type.__getattribute__")))
theorem creadB_ok {K : PySem.W.Frag} {C : Addr} (c : creadB K C = true) : ClX.CRead K C (.type "type") := by
  obtain ⟨c1, c2⟩ := He.ba c
  exact ⟨c1, He.eqO_ok c2⟩
def cmetB (K : PySem.W.Frag) (C : Addr) (m : Str) : Bool := He5.wrapB K C "classmethod" "classmethod.__get__" m && PySem.W.fnIn K (He5.wf K C "classmethod" m)
theorem cmetB_ok {K : PySem.W.Frag} {C : Addr} {m : Str} (c : cmetB K C m = true) : ClX.CMet K C (.type "type") m (He.ma K C m) (He5.wf K C "classmethod" m) := by
  obtain ⟨c1, c2⟩ := He.ba c
  exact He5.cmet_of c1 c2
def cvalB (K : PySem.W.Frag) (C : Addr) (f : Str) (v : V) : Bool := match PySem.W.findCls K (.ref C) (.type "type") f with
  | some (.val u) => He.relB v u
  | _ => false
theorem cvalB_ok {K : PySem.W.Frag} {C : Addr} {f : Str} {v : V} (c : cvalB K C f v = true) : ∃ u, ClX.CVal K C (.type "type") f v u := by
  unfold cvalB at c
  split at c
  · rename_i u e
    exact ⟨u, e, He.relB_ok c⟩
  · cases c
/-- an instance of the class at C has that type -/
structure InsTy (K : PySem.W.Frag) (C : Addr) : Prop where
  cl : Cls K C
  ha : PySem.W.findIn K (.ref C) "__class__" = some (some (.builtin "object.__class__"))
  hn : PySem.W.specialIn K (.builtin "object.__class__") "__get__" = some (some (.builtin "getset_descriptor.__get__"))
  tk : PySem.W.takesIn K (.builtin "object.__class__") = some true
  ob : PySem.W.mroIn K C (.type "object") = some true
theorem InsTy.ty {K : PySem.W.Frag} {C a dx : Addr} {H : Hp} {fs : List (Str × V)} (t : InsTy K C) (h : H a = some (.ins C dx fs)) : TyX K H (.ref a) (.ref C) := .base (.ins h t.cl t.ha t.hn t.tk t.ob)
def insTyB (K : PySem.W.Frag) (C : Addr) : Bool := PySem.W.plainGet K C Str.empty && (PySem.W.hasDictIn K C && (PySem.W.plainOver K C && (He.eqO (PySem.W.findIn K (.ref C) "__setattr__") (some (some (.builtin "object.__setattr__"))) &&
  (He.eqO (PySem.W.findIn K (.ref C) "__class__") (some (some (.builtin "object.__class__"))) && (He.eqO (PySem.W.specialIn K (.builtin "object.__class__") "__get__") (some (some (.builtin "getset_descriptor.__get__"))) &&
  (decide (PySem.W.takesIn K (.builtin "object.__class__") = some true) && decide (PySem.W.mroIn K C (.type "object") = some true)))))))
theorem insTyB_ok {K : PySem.W.Frag} {C : Addr} (c : insTyB K C = true) : InsTy K C := by
  obtain ⟨c1, c⟩ := He.ba c
  obtain ⟨c2, c⟩ := He.ba c
  obtain ⟨c3, c⟩ := He.ba c
  obtain ⟨c4, c⟩ := He.ba c
  obtain ⟨c5, c⟩ := He.ba c
  obtain ⟨c6, c⟩ := He.ba c
  obtain ⟨c7, c8⟩ := He.ba c
  exact ⟨⟨c1, c2, c3, He.eqO_ok c4⟩, He.eqO_ok c5, He.eqO_ok c6, of_decide_eq_true c7, of_decide_eq_true c8⟩
/-- isinstance of a value of type t against the class at C -/
def isiB (K : PySem.W.Frag) (t u : Value) (b : Bool) : Bool := decide (PySem.W.kitOne K t u = some b)
theorem isiB_ok {K : PySem.W.Frag} {t u : Value} {b : Bool} (c : isiB K t u b = true) : PySem.W.kitOne K t u = some b := of_decide_eq_true c
/-- no value of a built-in kind is an instance of the class at C; none is compared ahead of it -/
def kitNoB (K : PySem.W.Frag) (C : Addr) : Bool := kds.all fun k => isiB K (.type k) (.ref C) false && PySem.W.notFirst K C (.type k)
theorem kitNoB_ok {K : PySem.W.Frag} {C : Addr} (c : kitNoB K C = true) : ∀ k ∈ kds, PySem.W.kitOne K (.type k) (.ref C) = some false := fun k hk => isiB_ok (Bool.and_eq_true_iff.mp (List.all_eq_true.mp c k hk)).1
theorem kitNoB_nf {K : PySem.W.Frag} {C : Addr} (c : kitNoB K C = true) : ∀ k ∈ kds, PySem.W.notFirst K C (.type k) = true := fun k hk => (Bool.and_eq_true_iff.mp (List.all_eq_true.mp c k hk)).2
def mkB (K : PySem.W.Frag) (C f : Addr) : Bool := PySem.W.makesIn K C && (He.eqO (PySem.W.findIn K (.ref C) "__init__") (some (some (.ref f))) && (PySem.W.isFn K (.ref f) && PySem.W.keepIn K (.ref C)))
theorem mkB_ok {K : PySem.W.Frag} {C f : Addr} (c : mkB K C f = true) : Mk K C f := by
  obtain ⟨c1, c⟩ := He.ba c
  obtain ⟨c2, c⟩ := He.ba c
  obtain ⟨c3, c4⟩ := He.ba c
  exact ⟨c1, He.eqO_ok c2, c3, c4⟩
end G
/-! ### in-place operators; != of lists of instances with an own __eq__ -/
namespace G
open PySem PySem.Spec PyProof.Rows L2
section
variable {X : Cx}
theorem kpgLst {K : PySem.W.Frag} {es : List Expr} {k : Nat} {t : TGs} {n : Nat} {pos : Pos} (hc : X.calm = true) (h : PGs X es t) (hK : X.K = K := by rfl)
    (hn : (assignEach es X.env).length = n := by rfl) (hst : (assignEach es X.env).findIdx? (·.1) = none := by rfl) : PG X (.Tuple es k pos) (gLst K n t) := hK ▸ pg_lst hc h hn hst
theorem r_glst {K : PySem.W.Frag} {k : Nat} {t : TGs} {p : Addr} {xs : List V} {σ : L2.St} {H : Hp} {R : L2.St → Hp → Prop} (h : SqL K H p xs) (q : t xs σ H R) (hl : xs.length = k := by rfl) : gLst K k t (.ref p) σ H R := ⟨p, xs, rfl, h, hl, q⟩
theorem ip_fdiv : PIp X .FloorDiv (rI CDivW fun i j => .int (i / j)) := by
  intro pins s σ H x y v u Q I r1 r2 h
  obtain ⟨i, j, e1, e2, hc, q⟩ := h
  subst e1; subst e2; obtain ⟨t, rfl⟩ := r1; obtain ⟨t', rfl⟩ := r2
  have h1 : (0 : Int) < j := hc.1
  exact ifloordiv_int (by omega) (by rw [Int.fdiv_eq_ediv_of_nonneg i (by omega)]; exact ⟨.int _, H, I.tok _, ⟨_, rfl⟩, q⟩) (.inl (PyProof.noPylong_of_log2 hc.2))
end
section
open PySem.SeqAt AutoSeq1 MeetsSeq MeetsSeq2 MeetsSeq3 SeqRoads2
variable {prog : Program} {w : World} {A : Around} {R : Result → Shared → Prop}
theorem ne_loopO (l b : Addr) (N : Nat) (I : Nat → Shared → Prop) (hl : GQ.ListI prog w A (fun e s' => R (.error e) s') l b N I) (fin : ∀ s, I N s → R (.ok (.ret (.bool false))) s) (k : Nat) :
    ∀ i : Nat, N - i = k → i ≤ N → ∀ s, I i s → wpAny (model prog w) A.in1 (Builtin.«list.__eq__.loop» ⟨[.ref l, .ref b, rawInt i, rawInt 3], []⟩) (GQ.FinOf prog w A R) (fun e s' => R (.error e) s') s := by
  induction k with
  | zero =>
    intro i hk hi s h
    obtain ⟨xs, ys, n, n2, gx, gy, sx, sy, _⟩ := hl _ _ h
    have hi' : i = N := by omega
    have hR : R (.ok (.ret (.bool false))) s := fin s (hi' ▸ h)
    obtain ⟨hp, g, d, tk, os⟩ := s; wp_walk using AutoSeq1.wpAny_loadPart' gx, AutoSeq1.wpAny_loadPart' gy
    have hx : xs[((i : Nat) : Int).toNat]? = none := by simp; omega
    have hy : ys[((i : Nat) : Int).toNat]? = none := by simp; omega
    rw [hx, hy]; wp_walk using AutoSeq1.wpAny_loadPart' gx, AutoSeq1.wpAny_loadPart' gy
    show R (.ok (.ret (.bool (xs.size != ys.size)))) _
    rw [sx, sy]
    simpa using hR
  | succ k ih =>
    intro i hk hi s h
    obtain ⟨xs, ys, n, n2, gx, gy, sx, sy, turn⟩ := hl _ _ h
    have lx : i < xs.size := by omega
    have ly : i < ys.size := by omega
    have ht := turn lx ly
    obtain ⟨hp, g, d, tk, os⟩ := s; wp_walk using AutoSeq1.wpAny_loadPart' gx, AutoSeq1.wpAny_loadPart' gy
    have hx : xs[((i : Nat) : Int).toNat]? = some xs[i] := by simp [lx]
    have hy : ys[((i : Nat) : Int).toNat]? = some ys[i] := by simp [ly]
    have hc : ((i : Int) + 1) = ((i + 1 : Nat) : Int) := by push_cast; rfl
    rw [hx, hy]; refine wpAny_bind (wpAny_mono ht (fun r s2 h2 => ?_) fun _ _ x => x)
    obtain ⟨hr, h2⟩ := h2
    subst hr; have hrec := ih (i + 1) (by omega) (by omega) s2 h2
    obtain ⟨hp2, g2, d2, tk2, os2⟩ := s2; wp_walk
    rw [hc]; exact ⟨plainId_quiet plain_eq_loop _, codeAny_builtin entry_eq_loop (by rw [Around.under_plainId plain_eq_loop _]; exact hrec)⟩
theorem list_neO (l b : Addr) (N : Nat) (I : Nat → Shared → Prop) (hl : GQ.ListI prog w A (fun e s' => R (.error e) s') l b N I) (fin : ∀ s, I N s → R (.ok (.ret (.bool false))) s) {s : Shared} (h : I 0 s) :
    wpAny (model prog w) A.in1 (Builtin.«list.__ne__» ⟨[.ref l, .ref b], []⟩) (GQ.FinOf prog w A R) (fun e s' => R (.error e) s') s := by
  obtain ⟨xs, ys, n, n2, gx, gy, sx, sy, _⟩ := hl _ _ h
  have hrec := ne_loopO (A := A) (R := R) l b N I hl fin _ 0 rfl (Nat.zero_le _) s h
  obtain ⟨hp, g, d, tk, os⟩ := s; have f3 := AutoSeq1.sub_list_list
  have hne : ¬ (xs.size != ys.size) = true := by simp [sx, sy]
  wp_walk using AutoSeq1.wpAny_loadPart' gx, AutoSeq1.wpAny_loadPart' gy
  exact ⟨plainId_quiet plain_eq_loop _, codeAny_builtin entry_eq_loop (by rw [Around.under_plainId plain_eq_loop _]; exact hrec)⟩
theorem rc_neO {E : Value → Shared → Prop} {s : Shared} {l b : Addr} {N : Nat} {Q : Value → Shared → Prop} (hu : A.units < cLine) (I : Nat → Shared → Prop) (hl : GQ.ListI prog w A E l b N I)
    (fin : ∀ s, I N s → Q (.bool false) s) (h : I 0 s) : wpAny (model prog w) A (richCompare .NotEq (.ref l) (.ref b)) Q E s := by
  obtain ⟨xs, ys, n, n2, gx, gy, _, _, _⟩ := hl _ _ h
  refine wpAny_richCompare_same_room (op := .NotEq) ⟨_, gx, rfl⟩ ⟨_, gy, rfl⟩ F.slot_list_ne (GQ.call_here F.slot_list_ne ⟨_, gx, rfl⟩ F.entry_list_ne (F.args_list_ne_2 _ _) ?_) hu
  exact list_neO (R := wants (fun v s' => v ≠ .notImplemented ∧ Q v s') E) l b N I hl (fun s' q => ⟨(fun x => nomatch x), fin s' q⟩) h
end
/-- the two are equal, by D -/
def rNeLO (D : Eqv) : R2 := fun x y H Q => DList D x y H ∧ ∀ H', Same H H' → Q (.bl false) H'
theorem op_neLO {X : Cx} {n : Nat} {D : Eqv} (hD : Mon D) (h : EqG X n D) (hr : Room (n + 1) X.A) : OpR X (compareOp .NotEq) (rNeLO D) := by
  intro pins s σ H x y v u Q I rx ry hq
  obtain ⟨⟨a, b, xs, ys, rfl, rfl, ha, hb, p⟩, q⟩ := hq
  cases rx; cases ry
  show wpAny (model X.prog X.w) X.A (richCompare .NotEq (.ref a) (.ref b)) (EP X pins σ Q) X.xe s
  refine rc_neO (N := xs.length) hr.units0 (fun _ s' => LoopI X pins σ H s') (fun i s' q => ?_) (fun s' ⟨H', I', e⟩ => ⟨.bl false, H', I', rfl, q H' e⟩) ⟨H, I, Ext.rfl'⟩
  obtain ⟨H1, I1, e1⟩ := id q
  obtain ⟨z, its, k, r, e⟩ := I1.hok a _ (e1 _ _ ha)
  obtain ⟨z2, its2, k2, r2, e2⟩ := I1.hok b _ (e1 _ _ hb)
  exact ⟨its.toArray, its2.toArray, k, k2, e, e2, by rw [List.size_toArray, ← r.length], by rw [List.size_toArray, ← r2.length, ← p.1], fun h1 h2 => turnG hD h ⟨hr, rfl⟩ p r r2 i h1 h2 s' q⟩
theorem r_neLO {D : Eqv} {H : Hp} {a b : Addr} {xs ys : List V} {Q : VK} (ha : H a = some (.lst xs)) (hb : H b = some (.lst ys)) (p : Prs D xs ys H) (q : ∀ H', Same H H' → Q (.bl false) H') : rNeLO D (.ref a) (.ref b) H Q := ⟨⟨a, b, xs, ys, rfl, rfl, ha, hb, p⟩, q⟩
end G
/-! ### calls where no repr is under way: the promise may lean on it -/
namespace G
open PySem PySem.Spec PyProof.Rows L2
abbrev Quiet (A : Around) : Prop := A.guards = some []
theorem quiet_deeper {A : Around} {env : Env} (h : Quiet A) : Quiet (A.deeper env) := h
theorem quiet_in1 {A : Around} (h : Quiet A) : Quiet A.in1 := h
structure FnQ (P : Program) (w : World) (K : PySem.W.Frag) (mg : Str → Option Value) (base : Heap) (CX : CXT) (k : Nat) (f : Addr) (fd : FuncData) (ps : List Str) (sp : Sp) : Prop where
  lenQ : ∀ vs H Q E, sp vs H Q E → vs.length = ps.length
  runQ : ∀ (A : Around) (outer : List Env) (s : Shared) (H : Hp) (args : Args) (us : List Value) (vs : List V) (Q : VK) (E : XK), Quiet A → Room k A →
    Env0 P w K mg base A outer s H → BindsTo s fd args (ps.zip us) → Vals vs us → sp vs H Q E → codeAny (model P w) A (.call (.ref f) args) (CR CX outer P w H s Q E) s
section
variable {P : Program} {w : World} {K : PySem.W.Frag} {mg : Str → Option Value} {base : Heap} {CX : CXT} {k : Nat} {f : Addr} {N ps : List Str} {sp : Sp} {name qual : Str} {params : Arguments} {body : List Stmt} {scope : Scope} {dvs : List V} {kws : List (Str × V)} {fd : FuncData}
theorem FnQ.mono {j : Nat} (F : FnQ P w K mg base CX j f fd ps sp) (h : j ≤ k) : FnQ P w K mg base CX k f fd ps sp := ⟨F.lenQ, fun A outer s H args us vs Q E g hr => F.runQ A outer s H args us vs Q E g (hr.mono h)⟩
theorem FunD.okQ (F : FunD K name qual params body scope dvs kws f fd) (S : FnScope N ps scope) (hlen : ∀ vs H Q E, sp vs H Q E → vs.length = ps.length)
    (hb : ∀ (cdv : Value) (A : Around) (outer : List Env) (s : Shared) (H : Hp) (vs : List V) (Q : VK) (E : XK), Quiet (A.deeper (envOfC qual scope s.heap.objs.size f cdv)) → Room k (A.deeper (envOfC qual scope s.heap.objs.size f cdv)) → sp vs H Q E →
      ∃ t, PSs (cxOf CX P w K mg base N qual scope f cdv A outer s H E) body t ∧ t { nx := fun _ H' => Q .non H', rt := Q } (L2.start N vs) H) : FnQ P w K mg base CX (k + 1) f fd ps sp := by
  obtain ⟨oc, od, dV, kV, doc, pm, an, cdv, ct, osl, rfl, lk, hcd, _, _⟩ := F.ex
  refine ⟨hlen, fun A outer s H args us vs Q E hq hr env hbi hv hsp => ?_⟩
  have old : ∀ b o, base.get? b = some o → s.heap.get? b = some o := fun b o e => (env.bs b o e).1
  have inK := env.mod.kin.keeps old; have noL := env.mod.nolimit.keeps old
  have kinds : ∀ y ∈ ps.zip us, scope.names.lookup y.1 = some .local ∨ (scope.names.lookup y.1 = some .cell ∧ ((cellsFrom (s.heap.objs.size + 1) scope.names []).lookup y.1).isSome = true) := by
    rintro ⟨n, v⟩ hy
    have := S.par n (List.of_mem_zip hy).1
    exact this.elim .inl fun q => .inr ⟨q, PySem.W.cellsFrom_some _ _ _ (.inl q)⟩
  refine codeAny_call_function hr.depth (inK _ _ lk) rfl S.co S.gen rfl (PySem.W.codeRec_of inK hcd) (hbi _ _ _ _ (wpAny_newFunctionEnv_cells S.kind kinds fun env' he s1 x => ?_))
  subst he
  obtain ⟨t, ht, hq2⟩ := hb cdv A outer s H vs Q E (quiet_deeper hq) (hr.deeper _) hsp
  refine ⟨noL.keeps x.toInCall.keep, codeAny_func (wpAny_mono (ht.run [] s1 (L2.start N vs) H _ (inv_start S hr.hd env (hlen _ _ _ _ hsp) hv x) hq2) (fun fl s' hs => ?_) fun _ _ z => z)⟩
  cases fl with
  | ret u => obtain ⟨v, σ', H', J, rv, q⟩ := hs; exact ⟨v, H', J.os, J.bare, J.base, J.hok, rv, q⟩
  | next => obtain ⟨σ', H', J, q⟩ := hs; exact ⟨.non, H', J.os, J.bare, J.base, J.hok, rfl, q⟩
  | brk => obtain ⟨_, _, _, q⟩ := hs; exact q.elim
  | cont => obtain ⟨_, _, _, q⟩ := hs; exact q.elim
end
/-! calls of such functions -/
section
variable {X : Cx} {CX : CXT} {k : Nat} {f : Addr} {fd : FuncData} {ps : List Str} {sp : Sp} {dvs : List V} {ds : List Value} {e : Expr} {es : List Expr} {x : Str} {p pos : Pos} {t : TA} {E : XK}
theorem run_fnQ {A : Around} {pins : List (Addr × Obj)} {σ : L2.St} {H : Hp} {s : Shared} {Q : VK} {us : List Value} {vs : List V} (F : FnQ X.prog X.w X.K X.mg X.base CX k f fd ps sp) (hq : Quiet A) (hr : Room k A) (e0 : Env0 X.prog X.w X.K X.mg X.base A X.stack s H) (hb : Binds X.K fd ps ds) (hd : Vals dvs ds) (hx : Passes CX X E)
    (I : Inv X pins σ H s) (r : Vals vs us) (h : sp (vs ++ dvs) H Q E) : wpAny (model X.prog X.w) A (call (.ref f) us) (EP X pins σ Q) X.xe s := by
  have rr := r.append hd
  have hl : (us ++ ds).length = ps.length := rr.length ▸ F.lenQ _ _ _ _ h
  refine wpAny_call (codeAny_mono (F.runQ A X.stack s H ⟨us, []⟩ _ _ Q E hq hr e0 (hb s us I.kIn hl) rr h) fun res s' hz => ?_)
  match res, hz with
  | .error e, hz => exact hx pins σ H s e s' I hz
  | .ok (.ret u), hz => exact I.after hz
  | .ok .next, hz => exact hz.elim
  | .ok .brk, hz => exact hz.elim
  | .ok .cont, hz => exact hz.elim
theorem pe_callQ (F : FnQ X.prog X.w X.K X.mg X.base CX k f fd ps sp) (hq : Quiet X.A) (hr : Room k X.A) (hg : Gl X x) (hm : X.mg x = some (.ref f)) (hk : PySem.W.keepIn X.K (.ref f) = true) (hb : Binds X.K fd ps ds) (hd : Vals dvs ds) (hx : Passes CX X E) (ha : PA X (e :: es) t)
    (hdb : (x == ("__debug__" : Str)) = false := by decide) (he : starEach (e :: es) X.env = (false, eval e X.env) :: starEach es X.env := by rfl) (hpl : (backTo pos (starEach es X.env)).any (·.1) = false := by rfl) : PE X (.Call (.Name x p) (e :: es) [] pos) (tCall sp dvs E t) :=
  ⟨fun pins s σ H Q I h => wpAny_Call_Name_kw (ld_glob I hg hm (PySem.W.callWith_K (h₀ := X.base) I.ok.mod.kin hk (thn (ha.run pos pins s σ H _ I h) fun us s1 ⟨vs, H1, I1, r, q⟩ => ⟨I1.kIn, run_fnQ F hq hr I1.env0 hb hd hx I1 r q⟩) he hpl) hdb)⟩
end
/-! repr of data -/
section
variable {X : Cx} {K : PySem.W.Frag}
def rRepr (K : PySem.W.Frag) : List V → Hp → VK → Prop := fun xs H Q => ∃ (a : Addr) (d : PyData), xs = [.ref a] ∧ Dp K H (.ref a) d ∧ d.showable = true ∧ d.hasDict = false ∧ d.depth ≤ 60 ∧ d.shown.length ≤ sizeLine ∧ Q (.str d.shown) H
theorem cReprD (hq : Quiet X.A) (hu : X.A.units + 64 < cLine) (hK : X.K = K := by rfl) : CallR X (.builtin "repr") (rRepr K) := by
  subst hK
  intro pins s σ H xs us Q I r h
  obtain ⟨a, d, rfl, hd, hs, hn, hdp, hl, q⟩ := h
  obtain ⟨u, rfl, ru⟩ := vals1 r
  obtain rfl : u = Value.ref a := ru
  obtain ⟨as, rd⟩ := Dp.reads I d _ _ hd rfl
  exact repr_of_reads' rd hs (fun z => absurd z (by rw [hn]; decide)) hq (by omega) (fun _ _ z => z) (fun h' u tk hk => ⟨.str _, H, I.kept hk, ⟨_, rfl⟩, q⟩) hl
theorem r_reprD {H : Hp} {Q : VK} {a : Addr} {d : PyData} (hd : Dp K H (.ref a) d) (hs : d.showable = true) (hn : d.hasDict = false) (hdp : d.depth ≤ 60) (hl : d.shown.length ≤ sizeLine) (q : Q (.str d.shown) H) : rRepr K [.ref a] H Q := ⟨a, d, rfl, hd, hs, hn, hdp, hl, q⟩
end
end G
/-! ### the law's own call, where the law's promise leans on Quiet -/
namespace G
open PySem PySem.Spec PyProof.Rows L2
section
variable {P : Program} {w : World} {K : PySem.W.Frag} {mg mb : Str → Option Value} {CX : CXT} {k : Nat} {fa a : Addr} {fd : FuncData} {x : Str} {sp : Sp} {s1 : Shared} {vs : List Value} {ns : List Int}
abbrev LawEnd (s1 : Shared) : Result → Shared → Prop := fun r s' => r = .ok (.ret (.bool true)) ∧ OldK s1.heap s'.heap ∧ s'.os = s1.os ∧ AllBare s'.gens
/-- from a heap in which at most the script is tracked -/
theorem lawQ_core (X0 : K.In s1.heap) (hns : s1.heap.Ns mainGlobals mg) (hbn : s1.heap.Ns builtinsNs mb) (hbb : ∀ x : Str, x ≠ "__name__" → mb x = bootBuiltins x) (hlim : s1.heap.NoLimit) (hgen : s1.gens = #[])
    (ha : s1.heap.get? a = some { cls := .type "list", data := .seq vs.toArray }) (hr : Room k callerA)
    (F : ∀ base : Heap, K.In base → base.Ns mainGlobals mg → FnQ P w K mg base CX k fa fd [x] sp) (hbind : ∀ (s : Shared) (u : Value), BindsTo s fd ⟨[u], []⟩ [(x, u)])
    (hCX : ∀ H e s', CX [] H s1 (fun _ _ _ => False) e s' → False)
    (H : Hp) (hO : Only H) (hp : sp [.ref a] H (fun v _ => v = .bl true) fun _ _ _ => False) (hok : HOk P w H s1.heap) (hA : ∀ b, H b ≠ none → b = a) (hK : H a ≠ none → K.lookup a = none) :
    codeAny (model P w) callerA (.call (.ref fa) ⟨[.ref a], []⟩) (LawEnd s1) s1 := by
  have out : ∀ {b : Addr}, b ≠ a → H b = none := fun {b} n => by
    cases q : H b with
    | none => rfl
    | some u => exact absurd (hA b (by rw [q]; exact fun z => nomatch z)) n
  have inB : ∀ {b : Addr} {o : Obj}, s1.heap.get? b = some o → H b = none → (hidT s1.heap H).get? b = some o := hidT_get
  have nsB : ∀ {b : Addr} {m : Str → Option Value}, s1.heap.Ns b m → (hidT s1.heap H).Ns b m := fun {b m} ⟨o, es, ep, e, d, r⟩ => ⟨o, es, ep, inB e (out fun z => by subst z; rw [ha] at e; cases e; cases d), d, r⟩
  have kinB : K.In (hidT s1.heap H) := fun b o e => inB (X0 b o e) (by
    by_cases z : b = a
    · subst z
      cases q : H b with
      | none => rfl
      | some u => rw [hK (by rw [q]; exact fun z => nomatch z)] at e; cases e
    · exact out z)
  obtain ⟨mc, n1, n2⟩ := hlim
  have env : Env0 P w K mg (hidT s1.heap H) callerA [] s1 H := by
    refine ⟨rfl, ⟨kinB, nsB hns, ⟨mb, nsB hbn, hbb⟩, ⟨mc, nsB n1, n2⟩⟩, fun b o e => of_hidT e, Nat.le_of_eq (hidT_size _ _), trivial, fun b hb => ?_, hok, .of_eq hgen⟩
    exact absurd (show b ∈ ([] : List Addr) from hb) (by simp)
  refine codeAny_mono ((F _ kinB (nsB hns)).runQ callerA [] s1 H ⟨[.ref a], []⟩ [.ref a] [.ref a] _ _ rfl hr env (hbind s1 (.ref a)) (.cons rfl .nil) hp) fun r s' hz => ?_
  match r, hz with
  | .error e, hz => exact (hCX H e s' hz).elim
  | .ok .next, hz => exact hz.elim
  | .ok .brk, hz => exact hz.elim
  | .ok .cont, hz => exact hz.elim
  | .ok (.ret u), hz =>
    obtain ⟨v, H', os, bare, un, hok', rv, (ev : v = .bl true)⟩ := hz
    subst ev
    obtain rfl : u = Value.bool true := rv
    refine ⟨rfl, OldK.of_keep fun b o e => ?_, os, bare⟩
    rcases hO b with z | ⟨ob, xs, z⟩
    · exact un.keep b o e z (fun y => absurd (show b ∈ ([] : List Addr) from y) (by simp)) (by simp)
    · have g1 := (hok b _ z).1; have g2 := (hok' b _ (un.frzs b ob _ z)).1
      rw [g2, ← g1, e]
theorem lawQ (X0 : K.In s1.heap) (hns : s1.heap.Ns mainGlobals mg) (hbn : s1.heap.Ns builtinsNs mb) (hbb : ∀ x : Str, x ≠ "__name__" → mb x = bootBuiltins x) (hlim : s1.heap.NoLimit) (hgen : s1.gens = #[])
    (ha : s1.heap.get? a = some { cls := .type "list", data := .seq vs.toArray }) (hi : IntsAre vs ns) (hl : ns.length ≤ sizeLine) (hr : Room k callerA)
    (F : ∀ base : Heap, K.In base → base.Ns mainGlobals mg → FnQ P w K mg base CX k fa fd [x] sp) (hbind : ∀ (s : Shared) (u : Value), BindsTo s fd ⟨[u], []⟩ [(x, u)])
    (hsp : ∀ H : Hp, Only H → SqL K H a (ns.map V.int) → sp [.ref a] H (fun v _ => v = .bl true) fun _ _ _ => False) (hCX : ∀ H e s', CX [] H s1 (fun _ _ _ => False) e s' → False) :
    codeAny (model P w) callerA (.call (.ref fa) ⟨[.ref a], []⟩) (LawEnd s1) s1 := by
  have rv := vals_ints hi
  have go := lawQ_core X0 hns hbn hbb hlim hgen ha hr F hbind hCX
  cases hk : K.lookup a with
  | some o =>
    obtain rfl : o = { cls := .type "list", data := .seq vs.toArray } := by have e := X0 a o hk; rw [ha] at e; exact (Option.some.inj e).symm
    refine go (fun _ => none) (fun _ => .inl rfl) (hsp _ (fun _ => .inl rfl) (.inr ⟨_, vs.toArray, _, hk, rfl, rfl, rfl, ?_, by simpa using rv⟩)) (fun b u z => nomatch z) (fun b z => absurd rfl z) fun z => absurd rfl z
    rw [List.size_toArray, hi.length]; exact hl
  | none =>
    have only : Only (fun b => if b = a then some (HO.frz { cls := .type "list", data := .seq vs.toArray } (.lst (ns.map V.int))) else none) := fun b => by
      by_cases z : b = a
      · exact .inr ⟨_, _, if_pos z⟩
      · exact .inl (if_neg z)
    refine go _ only (hsp _ only (.inl (.inr ⟨{ cls := .type "list", data := .seq vs.toArray }, if_pos rfl⟩))) (fun b u z => ?_) (fun b z => ?_) fun _ => hk
    · by_cases y : b = a
      · subst y
        cases (if_pos rfl).symm.trans z
        exact ⟨ha, (List.length_map (as := ns) V.int).symm ▸ hl, vs, _, rv, ha⟩
      · cases (if_neg y).symm.trans z
    · exact Decidable.byContradiction fun y => z (if_neg y)
end
theorem walk_ofQ {l : PySem.W.OpenLaw} {n k : Nat} {q : Program} {loose : List Str} {XP : (Str → Option Value) → Heap → Prop} {YP : World → Heap → Prop} {d : DefRec} {CX : CXT} {x : Str}
    (hn : l.most = some n) (hn2 : n ≤ sizeLine) (hdf : d.params.defaults = []) (hr : Room k callerA)
    (F : ∀ (w : World) (mg : Str → Option Value) (fa : Addr) (h : Heap), YP w h → h.Ns mainGlobals mg → mg d.name = some (.ref fa) → ∃ (K : PySem.W.Frag) (fd : FuncData) (sp : Sp), K.In h ∧ (∀ (s : Shared) (u : Value), BindsTo s fd ⟨[u], []⟩ [(x, u)]) ∧
        (∀ (H : Hp) (a : Addr) (ns : List Int), ns.length ≤ n → Only H → SqL K H a (ns.map V.int) → sp [.ref a] H (fun v _ => v = .bl true) fun _ _ _ => False) ∧ ∀ base : Heap, K.In base → base.Ns mainGlobals mg → FnQ l.prog w K mg base CX k fa fd [x] sp)
    (hCX : ∀ (H : Hp) (s : Shared) (e : Value) (s' : Shared), CX [] H s (fun _ _ _ => False) e s' → False) : PySem.W.WalkO q loose XP YP l.row.toRowW d [] (fun f vs => PySem.call f vs) := by
  refine Att.attach_call hn hdf fun w s0 s1 mg mb fa o pm cd doc a vs ns Gr Y ho hd hcd hmg hobj hints hlen hg => ?_
  obtain ⟨K, fd, sp, X0, hb, hsp, hF⟩ := F w mg fa _ Y Gr.T.g hmg
  exact lawQ X0 Gr.T.g Gr.T.b Gr.T.builtins Gr.T.nolimit hg hobj hints (Nat.le_trans hlen hn2) hr hF hb (fun H hO hS => hsp H a ns hlen hO hS) fun H e s' => hCX H s1 e s'
end G
/-! ### static methods; repr of an object by its own __repr__; texts put together -/
namespace G
open PySem PySem.Spec PyProof.Rows L2
/-- C.m is a staticmethod: its record at p, its def at g -/
structure SMet (K : PySem.W.Frag) (C : Addr) (m : Str) (p g : Addr) : Prop where
  here : PySem.W.findCls K (.ref C) (.type "type") m = some (.get (.builtin "staticmethod.__get__") (.ref p) .none (.ref C))
  rc : ∃ rest, PySem.W.recIn K p "staticmethod" = some (.ref g :: rest)
  kp : PySem.W.keepIn K (.ref g) = true
def smetB (K : PySem.W.Frag) (C : Addr) (m : Str) : Bool := He5.wrapB K C "staticmethod" "staticmethod.__get__" m && PySem.W.keepIn K (.ref (He5.wf K C "staticmethod" m))
theorem smetB_ok {K : PySem.W.Frag} {C : Addr} {m : Str} (c : smetB K C m = true) : SMet K C m (He.ma K C m) (He5.wf K C "staticmethod" m) := by
  obtain ⟨c1, c2⟩ := He.ba c
  obtain ⟨h1, h2⟩ := He5.wrapB_ok c1
  exact ⟨h1, h2, c2⟩
section
variable {X : Cx} {CX : CXT} {k : Nat} {C p g : Addr} {m : Str} {sp : Sp} {E : L2.St → XK} {o e : Expr} {es : List Expr} {apos pos : Pos} {ta : TE} {t : TA}
def tSMeth (C : Addr) (sp : Sp) (E : L2.St → XK) (ta : TE) (t : TA) : TE := fun σ H Q => ta σ H fun x H1 => x = .ref C ∧ t σ H1 fun vs H2 => sp vs H2 Q (E σ)
theorem pe_smeth {pl : Sem Bool} (he : PE X o ta) (r : ClX.CRead X.K C (.type "type")) (c : SMet X.K C m p g) (F : FnR X.prog X.w X.K X.mg X.base CX k g sp) (hr : Room k X.A) (hx : ∀ σ, PassesAt CX X σ (E σ)) (ha : PA X (e :: es) t)
    (hst : starEach (e :: es) X.env = (false, eval e X.env) :: starEach es X.env := by rfl) (hpl : (backTo pos (starEach es X.env)).any (·.1) = false := by rfl)
    (ht : eval (.Call (.Attribute o m apos) (e :: es) [] pos) X.env = (do
      let ov ← eval o X.env
      standAt apos.atName
      let (f, first) ← holding [ov] (getMethod ov m pl)
      callWith pos f first (backTo pos (starEach (e :: es) X.env)) (backToKw pos (keywordEach [] X.env))) := by rfl) : PE X (.Call (.Attribute o m apos) (e :: es) [] pos) (tSMeth C sp E ta t) := by
  refine ⟨fun pins s σ H Q I h => ?_⟩
  refine PySem.W.methodCall_KW (pl := pl) (thn (he.run pins s σ H _ I h) fun u s1 ⟨x, H1, I1, rx, ex, q⟩ => ?_) ht
  subst ex; obtain rfl : u = Value.ref C := rx
  obtain ⟨rest, hp⟩ := c.rc
  refine PySem.W.method_cls I1.kIn r.ga (PySem.W.cls_bind I1.kIn r.rd c.here (wpAny_call (PySem.W.sm_get (s := { s1 with toks := s1.toks + 1 }) I1.kIn hp (PySem.W.handed_on rfl ?_))))
  refine PySem.W.callWith_K (first := []) (h₀ := X.base) I.ok.mod.kin c.kp (thn (ha.run pos pins _ σ H1 _ (I1.tok _) q) fun us s2 ⟨vs, H2, I2, r2, q2⟩ => ⟨I2.kIn, ?_⟩) hst hpl
  exact run_fnRS F hr (hx σ) I2 r2 q2
end
theorem r_smeth {C : Addr} {sp : Sp} {E : L2.St → XK} {ta : TE} {t : TA} {σ : L2.St} {H : Hp} {Q : VK} (q : ta σ H fun x H1 => x = .ref C ∧ t σ H1 fun vs H2 => sp vs H2 Q (E σ)) : tSMeth C sp E ta t σ H Q := q
/-! repr of objects -/
structure ReprOf (K : PySem.W.Frag) (C f : Addr) : Prop where
  here : PySem.W.findIn K (.ref C) "__repr__" = some (some (.ref f))
  fn : PySem.W.isFn K (.ref f) = true
def reprOB (K : PySem.W.Frag) (C f : Addr) : Bool := He.eqO (PySem.W.findIn K (.ref C) "__repr__") (some (some (.ref f))) && PySem.W.isFn K (.ref f)
theorem reprOB_ok {K : PySem.W.Frag} {C f : Addr} (c : reprOB K C f = true) : ReprOf K C f := by
  obtain ⟨c1, c2⟩ := He.ba c
  exact ⟨He.eqO_ok c1, c2⟩
theorem FnOk.q {P : Program} {w : World} {K : PySem.W.Frag} {mg : Str → Option Value} {base : Heap} {CX : CXT} {k : Nat} {f : Addr} {fd : FuncData} {ps : List Str} {sp : Sp} (F : FnOk P w K mg base CX k f fd ps sp) : FnQ P w K mg base CX k f fd ps sp :=
  ⟨F.len, fun A outer s H args us vs Q E _ hr e0 hb hv h => F.run A outer s H args us vs Q E hr e0 hb hv h⟩
def rReprO (K : PySem.W.Frag) (f : Addr) (sp : Sp) (E : XK) : List V → Hp → VK → Prop := fun xs H Q => ∃ a C dx fs, xs = [.ref a] ∧ H a = some (.ins C dx fs) ∧ ReprOf K C f ∧ sp [.ref a] H (fun v H' => ∃ z : Str, v = .str z ∧ Q (.str z) H') E
section
variable {X : Cx} {CX : CXT} {n : Nat} {C f : Addr} {fd : FuncData} {ps : List Str} {sp : Sp} {E : XK} {K : PySem.W.Frag}
theorem cReprO (F : FnQ X.prog X.w X.K X.mg X.base CX n f fd ps sp) (hq : Quiet X.A) (hr : Room (n + 1) X.A) (hb : Binds X.K fd ps []) (hx : Passes CX X E) (hK : X.K = K := by rfl) : CallR X (.builtin "repr") (rReprO K f sp E) := by
  subst hK
  intro pins s σ H xs us Q I r h
  obtain ⟨a, C, dx, fs, rfl, ha, hre, h⟩ := h
  obtain ⟨u, rfl, ru⟩ := vals1 r
  obtain rfl : u = Value.ref a := ru
  obtain ⟨mA, J, _⟩ := ins_get I.hok ha
  obtain ⟨od, J, _⟩ := J.look
  obtain ⟨m, hF⟩ := I.fr
  have hu : X.A.in1.units < cLine := by have := hr.un; show X.A.units + 1 < _; omega
  refine PySem.W.repr_K hu hF I.ok.mod.kin J hre.here hre.fn (wpAny_mono (run_fnQ (dvs := []) (ds := []) F (quiet_in1 hq) hr.in1 I.env0.in1 hb .nil hx I (us := [.ref a]) (vs := [.ref a]) (.cons rfl .nil) h) (fun v s' z => ?_) fun _ _ z => z)
  obtain ⟨w', H', I', rw', z, rfl, q⟩ := z
  obtain ⟨t, rfl⟩ := rw'
  exact ⟨.str z, H', I', ⟨t, rfl⟩, q⟩
theorem r_reprO {H : Hp} {Q : VK} {a dx : Addr} {fs : List (Str × V)} (ha : H a = some (.ins C dx fs)) (hl : ReprOf K C f) (q : sp [.ref a] H (fun v H' => ∃ z : Str, v = .str z ∧ Q (.str z) H') E) : rReprO K f sp E [.ref a] H Q := ⟨a, C, dx, fs, rfl, ha, hl, q⟩
/-! f'..' -/
def tJoined (ts : List TE) : TE := fun σ H Q => tJs ts Str.empty σ H fun out H1 => Q (.str out) H1
theorem pe_fstr {v1 v2 : Expr} {rest : List Expr} {ts : List TE} {pos : Pos} (h : PJ X (v1 :: v2 :: rest) ts) : PE X (.JoinedStr (v1 :: v2 :: rest) pos) (tJoined ts) := pe_joined h
theorem r_joined {ts : List TE} {σ : L2.St} {H : Hp} {Q : VK} (q : tJs ts Str.empty σ H fun out H1 => Q (.str out) H1) : tJoined ts σ H Q := q
theorem r_jNil {acc : Str} {σ : L2.St} {H : Hp} {R : Str → Hp → Prop} (q : R acc H) : tJs [] acc σ H R := q
theorem r_jLit {acc x : Str} {ts : List TE} {σ : L2.St} {H : Hp} {R : Str → Hp → Prop} (hl : (acc ++ x).length ≤ sizeLine) (q : tJs ts (acc ++ x) σ H R) : tJs (tC (.str x) :: ts) acc σ H R := ⟨x, rfl, hl, q⟩
theorem r_jInt {acc : Str} {i : Nat} {n : Int} {ts : List TE} {σ : L2.St} {H : Hp} {R : Str → Hp → Prop} (h : σ[i]? = some (some (.int n))) (hn : n.natAbs.log2 < 1920) (hl : (acc ++ (toString n : Str)).length ≤ sizeLine) (q : tJs ts (acc ++ (toString n : Str)) σ H R) : tJs (tFmt (tVar i) :: ts) acc σ H R :=
  ⟨.int n, h, .inr ⟨n, rfl, hn, _, rfl, hl, q⟩⟩
end
/-! arguments by name -/
def pickG (idx : List Nat) {α : Type} (us ds ws : List α) : List α := us ++ idx.filterMap fun i => (ws ++ ds)[i]?
theorem vals_pick (idx : List Nat) {vs ds zs : List V} {us its ws : List Value} (r1 : Vals vs us) (r2 : Vals ds its) (r3 : Vals zs ws) : Vals (pickG idx vs ds zs) (pickG idx us its ws) := by
  refine r1.append ?_
  have r := r3.append r2
  generalize zs ++ ds = a at r ⊢; generalize ws ++ its = b at r ⊢
  induction idx with
  | nil => exact .nil
  | cons i idx ih =>
    rcases Nat.lt_or_ge i a.length with h | h
    · obtain ⟨u, hu, ru⟩ := r.get (List.getElem?_eq_getElem h)
      rw [List.filterMap_cons, List.filterMap_cons, List.getElem?_eq_getElem h, hu]
      exact .cons ru ih
    · rw [List.filterMap_cons, List.filterMap_cons, List.getElem?_eq_none h, List.getElem?_eq_none (by rw [← r.length]; exact h)]
      exact ih
end G
/-! ### grid maps as six integers -/
namespace G
open PySem PySem.Spec PyProof.Rows L2
structure M6 where
  a : Int
  b : Int
  c : Int
  d : Int
  e : Int
  f : Int
deriving DecidableEq
namespace M6
def det (m : M6) : Int := m.a * m.d - m.b * m.c
def Ok (m : M6) : Prop := m.det = 1 ∨ m.det = -1
def nums (m : M6) : List Int := [m.a, m.b, m.c, m.d, m.e, m.f]
def vals (m : M6) : List V := [.int m.a, .int m.b, .int m.c, .int m.d, .int m.e, .int m.f]
def one : M6 := ⟨1, 0, 0, 1, 0, 0⟩
/-- first m, then n -/
def comp (m n : M6) : M6 := ⟨n.a * m.a + n.b * m.c, n.a * m.b + n.b * m.d, n.c * m.a + n.d * m.c, n.c * m.b + n.d * m.d, n.a * m.e + n.b * m.f + n.e, n.c * m.e + n.d * m.f + n.f⟩
def inv (m : M6) : M6 := ⟨m.det * m.d, -m.det * m.b, -m.det * m.c, m.det * m.a, -(m.det * m.d * m.e + -m.det * m.b * m.f), -(-m.det * m.c * m.e + m.det * m.a * m.f)⟩
def pow (m : M6) : Nat → M6
  | 0 => one
  | k + 1 => (m.pow k).comp m
def img (m : M6) (p : Int × Int) : Int × Int := (m.a * p.1 + m.b * p.2 + m.e, m.c * p.1 + m.d * p.2 + m.f)
theorem ext' {m n : M6} (h : m.nums = n.nums) : m = n := by
  cases m; cases n
  simp only [nums, List.cons.injEq, and_true] at h
  obtain ⟨h1, h2, h3, h4, h5, h6⟩ := h
  subst h1 h2 h3 h4 h5 h6
  rfl
theorem det_comp (m n : M6) : (m.comp n).det = m.det * n.det := by
  simp only [det, comp]; grind
theorem ok_comp {m n : M6} (h : m.Ok) (k : n.Ok) : (m.comp n).Ok := by
  unfold Ok at *
  rw [det_comp]
  rcases h with h | h <;> rcases k with k | k <;> rw [h, k] <;> decide
theorem ok_sq {m : M6} (h : m.Ok) : m.det * m.det = 1 := by
  rcases h with h | h <;> rw [h] <;> decide
theorem det_inv (m : M6) : m.inv.det = m.det * m.det * m.det := by
  have : m.inv.det = m.det * m.det * (m.a * m.d - m.b * m.c) := by
    simp only [det, inv]; grind
  rw [this]; rfl
theorem ok_inv {m : M6} (h : m.Ok) : m.inv.Ok := by
  unfold Ok
  rw [det_inv, ok_sq h]
  rcases h with h | h <;> rw [h] <;> decide
theorem ok_one : one.Ok := .inl rfl
theorem comp_one (m : M6) : m.comp one = m := by
  cases m; simp [comp, one]
theorem one_comp (m : M6) : one.comp m = m := by
  cases m; simp [comp, one]
theorem comp_assoc (m n k : M6) : (m.comp n).comp k = m.comp (n.comp k) := by
  simp only [comp, mk.injEq]; refine ⟨?_, ?_, ?_, ?_, ?_, ?_⟩ <;> grind
theorem comp_inv {m : M6} (h : m.Ok) : m.comp m.inv = one := by
  have hd := ok_sq h
  simp only [comp, inv, one, mk.injEq]
  generalize e : m.det = s at *
  simp only [det] at e
  refine ⟨?_, ?_, ?_, ?_, ?_, ?_⟩ <;> grind
theorem inv_comp {m : M6} (h : m.Ok) : m.inv.comp m = one := by
  have hd := ok_sq h
  simp only [comp, inv, one, mk.injEq]
  generalize e : m.det = s at *
  simp only [det] at e
  refine ⟨?_, ?_, ?_, ?_, ?_, ?_⟩ <;> grind
theorem ok_pow {m : M6} (h : m.Ok) : ∀ k, (m.pow k).Ok
  | 0 => ok_one
  | k + 1 => ok_comp (ok_pow h k) h
theorem pow_one (m : M6) : m.pow 1 = m := one_comp m
theorem pow_add (m : M6) (i : Nat) : ∀ j, m.pow (i + j) = (m.pow i).comp (m.pow j)
  | 0 => (comp_one _).symm
  | j + 1 => by
    show (m.pow (i + j)).comp m = _
    rw [pow_add m i j, comp_assoc]
    rfl
theorem pow_sq (m : M6) : ∀ k, (m.comp m).pow k = m.pow (2 * k)
  | 0 => rfl
  | k + 1 => by
    show ((m.comp m).pow k).comp (m.comp m) = _
    rw [pow_sq m k, ← comp_assoc]
    rfl
/-- c first, then m, then back -/
def conj (c m : M6) : M6 := (c.comp m).comp c.inv
theorem ok_conj {c m : M6} (h : c.Ok) (k : m.Ok) : (c.conj m).Ok := ok_comp (ok_comp h k) (ok_inv h)
theorem conj_pow {c m : M6} (h : c.Ok) : ∀ k, (c.conj m).pow k = c.conj (m.pow k)
  | 0 => by
    show one = (c.comp one).comp c.inv
    rw [comp_one, comp_inv h]
  | k + 1 => by
    show ((c.conj m).pow k).comp (c.conj m) = _
    rw [conj_pow h k]
    show ((c.comp (m.pow k)).comp c.inv).comp ((c.comp m).comp c.inv) = (c.comp ((m.pow k).comp m)).comp c.inv
    rw [comp_assoc _ c.inv, ← comp_assoc c.inv, ← comp_assoc c.inv, inv_comp h, one_comp, ← comp_assoc, ← comp_assoc]
theorem conj_one {c m : M6} (h : c.Ok) : c.conj m = one ↔ m = one := by
  constructor
  · intro e
    have e2 : c.inv.comp ((c.conj m).comp c) = m := by
      show c.inv.comp (((c.comp m).comp c.inv).comp c) = m
      rw [comp_assoc _ c.inv, inv_comp h, comp_one, ← comp_assoc, inv_comp h, one_comp]
    rw [← e2, e, one_comp, inv_comp h]
  · rintro rfl
    show (c.comp one).comp c.inv = one
    rw [comp_one, comp_inv h]
/-! the least exponent up to n -/
def ordN (m : M6) : Nat → Nat → Option Nat
  | 0, _ => none
  | n + 1, k => if m.pow k = one then some k else ordN m n (k + 1)
theorem ordN_conj {c m : M6} (h : c.Ok) : ∀ n k, (c.conj m).ordN n k = m.ordN n k
  | 0, _ => rfl
  | n + 1, k => by
    unfold ordN
    rw [conj_pow h, ordN_conj h n]
    by_cases e : m.pow k = one
    · rw [if_pos e, if_pos ((conj_one h).mpr e)]
    · rw [if_neg e, if_neg (fun z => e ((conj_one h).mp z))]
theorem ordN_none {m : M6} : ∀ {n k}, (∀ j, k ≤ j → j < k + n → m.pow j ≠ one) → m.ordN n k = none
  | 0, _, _ => rfl
  | n + 1, k, h => by
    unfold ordN
    rw [if_neg (h k (Nat.le_refl _) (by omega))]
    exact ordN_none fun j h1 h2 => h j (by omega) (by omega)
theorem ordN_more {m : M6} : ∀ {n k p}, (∃ j, k ≤ j ∧ j < k + n ∧ m.pow j = one) → m.ordN (n + p) k = m.ordN n k
  | 0, k, p, ⟨j, h1, h2, _⟩ => by omega
  | n + 1, k, p, ⟨j, h1, h2, h3⟩ => by
    rw [show n + 1 + p = (n + p) + 1 by omega]
    unfold ordN
    by_cases e : m.pow k = one
    · rw [if_pos e, if_pos e]
    · rw [if_neg e, if_neg e]
      refine ordN_more ⟨j, ?_, by omega, h3⟩
      rcases Nat.lt_or_ge k j with h | h
      · exact h
      · have : j = k := by omega
        subst this
        exact absurd h3 e
/-! finite orders of integer maps -/
def us (t d : Int) : Nat → Int
  | 0 => 0
  | 1 => 1
  | k + 2 => t * us t d (k + 1) - d * us t d k
theorem lin_pow (m : M6) : ∀ k, (m.pow (k + 1)).a = us (m.a + m.d) m.det (k + 1) * m.a - m.det * us (m.a + m.d) m.det k ∧ (m.pow (k + 1)).b = us (m.a + m.d) m.det (k + 1) * m.b ∧
    (m.pow (k + 1)).c = us (m.a + m.d) m.det (k + 1) * m.c ∧ (m.pow (k + 1)).d = us (m.a + m.d) m.det (k + 1) * m.d - m.det * us (m.a + m.d) m.det k
  | 0 => by
    rw [pow_one]
    simp [us]
  | k + 1 => by
    obtain ⟨h1, h2, h3, h4⟩ := lin_pow m k
    have e : m.pow (k + 1 + 1) = (m.pow (k + 1)).comp m := rfl
    have u : us (m.a + m.d) m.det (k + 1 + 1) = (m.a + m.d) * us (m.a + m.d) m.det (k + 1) - m.det * us (m.a + m.d) m.det k := rfl
    rw [e, u]
    simp only [comp]
    rw [h1, h2, h3, h4]
    generalize us (m.a + m.d) m.det (k + 1) = x
    generalize us (m.a + m.d) m.det k = y
    simp only [det]
    refine ⟨?_, ?_, ?_, ?_⟩ <;> grind
theorem us_far {t : Int} (ht : t ≤ -2 ∨ 2 ≤ t) : ∀ k, (us t 1 k).natAbs < (us t 1 (k + 1)).natAbs
  | 0 => by show (0 : Int).natAbs < (1 : Int).natAbs; decide
  | k + 1 => by
    have h := us_far ht k
    show (us t 1 (k + 1)).natAbs < (t * us t 1 (k + 1) - 1 * us t 1 k).natAbs
    generalize us t 1 (k + 1) = x at *
    generalize us t 1 k = y at *
    have h2 : 2 * x.natAbs ≤ (t * x).natAbs := by
      rw [Int.natAbs_mul]
      exact Nat.mul_le_mul_right _ (by omega)
    omega
theorem us_neg {t : Int} (ht : t ≠ 0) : ∀ k, us t (-1) (k + 1) ≠ 0 ∧ 0 ≤ t * (us t (-1) (k + 1) * us t (-1) k)
  | 0 => ⟨by show (1 : Int) ≠ 0; decide, by show 0 ≤ t * (1 * 0); omega⟩
  | k + 1 => by
    obtain ⟨h1, h2⟩ := us_neg ht k
    have u : us t (-1) (k + 1 + 1) = t * us t (-1) (k + 1) - -1 * us t (-1) k := rfl
    rw [u]
    generalize us t (-1) (k + 1) = x at *
    generalize us t (-1) k = y at *
    have e : t * ((t * x - -1 * y) * x) = (t * x) * (t * x) + t * (x * y) := by grind
    have p : 0 < (t * x) * (t * x) := by
      have hne : t * x ≠ 0 := Int.mul_ne_zero ht h1
      rcases Int.lt_or_gt_of_ne hne with g | g
      · exact Int.mul_pos_of_neg_of_neg g g
      · exact Int.mul_pos g g
    have e2 : 0 < t * ((t * x - -1 * y) * x) := by omega
    refine ⟨fun z => ?_, by omega⟩
    rw [z] at e2
    simp at e2
theorem tr_pow {e f : Int} : ∀ k : Nat, (M6.mk 1 0 0 1 e f).pow k = ⟨1, 0, 0, 1, k * e, k * f⟩
  | 0 => by simp [pow, one]
  | k + 1 => by
    show ((M6.mk 1 0 0 1 e f).pow k).comp ⟨1, 0, 0, 1, e, f⟩ = _
    rw [tr_pow k]
    simp only [comp, mk.injEq]
    refine ⟨by omega, by omega, by omega, by omega, ?_, ?_⟩
    · push_cast; grind
    · push_cast; grind
theorem tr_fin {e f : Int} {k : Nat} (h : (M6.mk 1 0 0 1 e f).pow (k + 1) = one) : e = 0 ∧ f = 0 := by
  rw [tr_pow] at h
  simp only [one, mk.injEq] at h
  obtain ⟨_, _, _, _, h5, h6⟩ := h
  rcases Int.mul_eq_zero.mp h5 with z | z
  · omega
  · rcases Int.mul_eq_zero.mp h6 with y | y
    · omega
    · exact ⟨z, y⟩
theorem finite {m : M6} (hm : m.Ok) {k : Nat} (h : m.pow (k + 1) = one) : ∃ j, 1 ≤ j ∧ j < 7 ∧ m.pow j = one := by
  obtain ⟨h1, h2, h3, h4⟩ := lin_pow m k
  rw [h] at h1 h2 h3 h4
  have scal : m.b = 0 → m.c = 0 → m.a = m.d → ∃ j, 1 ≤ j ∧ j < 7 ∧ m.pow j = one := by
    intro hb hc had
    have hdet : m.det = m.a * m.a := by unfold det; rw [hb, hc, ← had]; omega
    have ha : m.a = 1 ∨ m.a = -1 := by
      have sq : m.a * m.a = 1 := by
        rcases hm with z | z
        · omega
        · have : 0 ≤ m.a * m.a := by
            rcases Int.le_total 0 m.a with g | g
            · exact Int.mul_nonneg g g
            · exact Int.mul_nonneg_of_nonpos_of_nonpos g g
          omega
      have e : (m.a - 1) * (m.a + 1) = 0 := by grind
      rcases Int.mul_eq_zero.mp e with z | z
      · exact .inl (by omega)
      · exact .inr (by omega)
    rcases ha with ha | ha
    · have em : m = ⟨1, 0, 0, 1, m.e, m.f⟩ := by
        cases m; simp only at *; subst hb hc ha; rw [← had]
      rw [em] at h
      obtain ⟨z1, z2⟩ := tr_fin h
      exact ⟨1, by decide, by decide, by rw [pow_one, em, z1, z2]; rfl⟩
    · have em : m = ⟨-1, 0, 0, -1, m.e, m.f⟩ := by
        cases m; simp only at *; subst hb hc ha; rw [← had]
      refine ⟨2, by decide, by decide, ?_⟩
      rw [em]
      simp only [pow, comp, one, mk.injEq]
      refine ⟨by omega, by omega, by omega, by omega, by omega, by omega⟩
  by_cases hu : us (m.a + m.d) m.det (k + 1) = 0
  · rcases hm with hd | hd
    · have ht : ¬ (m.a + m.d ≤ -2 ∨ 2 ≤ m.a + m.d) := fun z => by
        have := us_far z k
        rw [hd] at hu
        rw [hu] at this
        omega
      rcases (show m.a + m.d = -1 ∨ m.a + m.d = 0 ∨ m.a + m.d = 1 by omega) with t | t | t
      · refine ⟨3, by decide, by decide, ?_⟩
        have e : m.d = -1 - m.a := by omega
        simp only [det] at hd
        rw [e] at hd
        simp only [pow, comp, one, mk.injEq]
        rw [e]
        refine ⟨?_, ?_, ?_, ?_, ?_, ?_⟩ <;> grind
      · refine ⟨4, by decide, by decide, ?_⟩
        have e : m.d = - m.a := by omega
        simp only [det] at hd
        rw [e] at hd
        simp only [pow, comp, one, mk.injEq]
        rw [e]
        refine ⟨?_, ?_, ?_, ?_, ?_, ?_⟩ <;> grind
      · refine ⟨6, by decide, by decide, ?_⟩
        have e : m.d = 1 - m.a := by omega
        simp only [det] at hd
        rw [e] at hd
        have p3 : m.pow 3 = ⟨-1, 0, 0, -1, (m.pow 3).e, (m.pow 3).f⟩ := by
          simp only [pow, comp, one, mk.injEq]
          rw [e]
          refine ⟨?_, ?_, ?_, ?_, trivial, trivial⟩ <;> grind
        have : m.pow 6 = (m.pow 3).comp (m.pow 3) := pow_add m 3 3
        rw [this, p3]
        simp only [comp, one, mk.injEq]
        refine ⟨by omega, by omega, by omega, by omega, by omega, by omega⟩
    · have ht : m.a + m.d = 0 := by
        by_cases z : m.a + m.d = 0
        · exact z
        · rw [hd] at hu
          exact absurd hu (us_neg z k).1
      have e : m.d = - m.a := by omega
      simp only [det] at hd
      rw [e] at hd
      have p2 : m.pow 2 = ⟨1, 0, 0, 1, (m.pow 2).e, (m.pow 2).f⟩ := by
        simp only [pow, comp, one, mk.injEq]
        rw [e]
        refine ⟨?_, ?_, ?_, ?_, trivial, trivial⟩ <;> grind
      refine ⟨2, by decide, by decide, ?_⟩
      have q : m.pow (2 * (k + 1)) = one := by
        rw [show 2 * (k + 1) = (k + 1) + (k + 1) by omega, pow_add, h]; rfl
      rw [← pow_sq] at q
      have e2 : m.comp m = m.pow 2 := by
        show m.comp m = (m.pow 1).comp m
        rw [pow_one]
      rw [e2, p2] at q
      obtain ⟨z1, z2⟩ := tr_fin q
      rw [p2, z1, z2]; rfl
  · simp only [one] at h1 h2 h3 h4
    have hb : m.b = 0 := by
      rcases Int.mul_eq_zero.mp h2.symm with z | z
      · exact absurd z hu
      · exact z
    have hc : m.c = 0 := by
      rcases Int.mul_eq_zero.mp h3.symm with z | z
      · exact absurd z hu
      · exact z
    refine scal hb hc ?_
    have e : us (m.a + m.d) m.det (k + 1) * (m.a - m.d) = 0 := by
      rw [Int.mul_sub]; omega
    rcases Int.mul_eq_zero.mp e with z | z
    · exact absurd z hu
    · omega
theorem ord_12 {m : M6} (hm : m.Ok) : m.ordN 12 1 = m.ordN 6 1 := by
  by_cases h : ∃ j, 1 ≤ j ∧ j < 7 ∧ m.pow j = one
  · obtain ⟨j, h1, h2, h3⟩ := h
    exact ordN_more (n := 6) (p := 6) ⟨j, h1, by omega, h3⟩
  · rw [ordN_none, ordN_none]
    · intro j h1 h2 e
      exact h ⟨j, h1, by omega, e⟩
    · intro j h1 h2 e
      obtain ⟨i, rfl⟩ : ∃ i, j = i + 1 := ⟨j - 1, by omega⟩
      exact h (finite hm e)
/-! sizes -/
end M6
def MBd (n : Nat) (m : M6) : Prop := Bd n m.a ∧ Bd n m.b ∧ Bd n m.c ∧ Bd n m.d ∧ Bd n m.e ∧ Bd n m.f
theorem MBd.mono {n k : Nat} {m : M6} (h : MBd n m) (l : n ≤ k) : MBd k m := ⟨h.1.mono l, h.2.1.mono l, h.2.2.1.mono l, h.2.2.2.1.mono l, h.2.2.2.2.1.mono l, h.2.2.2.2.2.mono l⟩
theorem bd_lin {i j : Nat} {a b c d : Int} (h1 : Bd i a) (h2 : Bd j b) (h3 : Bd i c) (h4 : Bd j d) : Bd (i + j + 1) (a * b + c * d) := (h1.mul h2).add (h3.mul h4)
theorem MBd.comp {i j : Nat} {m n : M6} (h : MBd i m) (k : MBd j n) : MBd (i + j + 2) (m.comp n) := by
  obtain ⟨a1, b1, c1, d1, e1, f1⟩ := h
  obtain ⟨a2, b2, c2, d2, e2, f2⟩ := k
  refine ⟨(bd_lin a2 a1 b2 c1).mono (by omega), (bd_lin a2 b1 b2 d1).mono (by omega), (bd_lin c2 a1 d2 c1).mono (by omega), (bd_lin c2 b1 d2 d1).mono (by omega), ?_, ?_⟩
  · exact (((bd_lin a2 e1 b2 f1).mono (by omega : _ ≤ i + j + 1)).add (e2.mono (by omega))).mono (by omega)
  · exact (((bd_lin c2 e1 d2 f1).mono (by omega : _ ≤ i + j + 1)).add (f2.mono (by omega))).mono (by omega)
theorem bd_one : ∀ {n : Nat}, MBd (n + 1) M6.one := by
  intro n
  have h : MBd 1 M6.one := by
    unfold MBd Bd M6.one; decide
  exact h.mono (by omega)
theorem Bd.det {n : Nat} {m : M6} (h : m.Ok) : Bd 1 m.det := by
  rcases h with z | z <;> rw [z] <;> (unfold Bd; decide)
theorem MBd.inv {n : Nat} {m : M6} (o : m.Ok) (h : MBd n m) : MBd (2 * n + 2) m.inv := by
  obtain ⟨a1, b1, c1, d1, e1, f1⟩ := h
  have hd := Bd.det (n := n) o
  have hn := hd.neg
  refine ⟨(hd.mul d1).mono (by omega), (hn.mul b1).mono (by omega), (hn.mul c1).mono (by omega), (hd.mul a1).mono (by omega), ?_, ?_⟩
  · exact ((bd_lin (hd.mul d1) e1 (hn.mul b1) f1).neg).mono (by omega)
  · exact ((bd_lin (hn.mul c1) e1 (hd.mul a1) f1).neg).mono (by omega)
theorem MBd.pow {n : Nat} {m : M6} (h : MBd n m) : ∀ k, MBd (k * (n + 2) + 1) (m.pow k)
  | 0 => bd_one
  | k + 1 => ((MBd.pow h k).comp h).mono (by rw [Nat.succ_mul]; omega)
/-! ### grid maps in the heap -/
def GmAt (K : PySem.W.Frag) (H : Hp) (v : V) (m : M6) : Prop := ∃ a dx t, v = .ref a ∧ H a = some (.ins (He.ga K "GridMap") dx [("six", .ref t)]) ∧ SqT K H t m.vals
theorem GmAt.same {K : PySem.W.Frag} {H H' : Hp} {v : V} {m : M6} (h : GmAt K H v m) (s : Same H H') : GmAt K H' v m := by
  obtain ⟨a, dx, t, rfl, h1, h2⟩ := h
  exact ⟨a, dx, t, rfl, s _ _ h1, sqT_same s h2⟩
theorem GmAt.kp {K : PySem.W.Frag} {H H' : Hp} {v : V} {m : M6} {l : Addr} (h : GmAt K H v m) (k : Kp l H H') (d : DrAt H l) : GmAt K H' v m := by
  obtain ⟨a, dx, t, rfl, h1, h2⟩ := h
  obtain ⟨x, y, e, _⟩ := d
  exact ⟨a, dx, t, rfl, k _ _ (ne_of h1 e (by intro z; cases z)) h1, sqT_kp k ⟨_, e⟩ h2⟩
theorem hds_vals {K : PySem.W.Frag} {H : Hp} (m : M6) : Hds K H m.vals m.nums := hds_ints m.nums
theorem hd_six {K : PySem.W.Frag} {H : Hp} {t : Addr} {m : M6} (h : SqT K H t m.vals) : Hd K H (.ref t) (⟨m.nums⟩ : PySem.W.Tup Int) := hd_tup h (hds_vals m)
theorem nums_iff {m n : M6} : ((⟨m.nums⟩ : PySem.W.Tup Int) = ⟨n.nums⟩) ↔ m = n := ⟨fun h => M6.ext' (PySem.W.Tup.mk.inj h), fun h => by rw [h]⟩
theorem dec_nums {m n : M6} : decide ((⟨m.nums⟩ : PySem.W.Tup Int) = ⟨n.nums⟩) = decide (m = n) := decide_eq_decide.mpr nums_iff
end G
namespace G
open PySem PySem.Spec PyProof.Rows L2
theorem GmAt.of {K : PySem.W.Frag} {H : Hp} {v : V} {m : M6} (h : GmAt K H v m) : ∃ a dx t, v = .ref a ∧ H a = some (.ins (He.ga K "GridMap") dx [("six", .ref t)]) ∧ SqT K H t [.int m.a, .int m.b, .int m.c, .int m.d, .int m.e, .int m.f] := h
end G

/-! ### texts -/
namespace G
open PySem PySem.Spec PyProof.Rows L2
theorem str_ext {a b : Str} (h : a.cps.toList = b.cps.toList) : a = b := by
  cases a; cases b
  congr 1
  exact Array.toList_inj.mp h
theorem cps_app (a b : Str) : (a ++ b).cps.toList = a.cps.toList ++ b.cps.toList := by
  show (a.cps ++ b.cps).toList = _
  exact Array.toList_append
theorem str_assoc (a b c : Str) : a ++ b ++ c = a ++ (b ++ c) := str_ext (by rw [cps_app, cps_app, cps_app, cps_app, List.append_assoc])
theorem str_e (a : Str) : Str.empty ++ a = a := str_ext (by rw [cps_app]; rfl)
theorem log_lt {n : Int} {k : Nat} (hk : 0 < k) (h : Bd k n) : n.natAbs.log2 < k := by
  by_cases z : n.natAbs = 0
  · rw [z]; exact hk
  · exact (Nat.log2_lt z).mpr h
theorem txt_len {n : Int} {k : Nat} (hk : 0 < k) (h : Bd k n) : (Str.ofString (toString n)).length ≤ k + 1 := by
  rw [PySem.ofString_length]; exact int_text_length_le hk (log_lt hk h)
end G

namespace G
open PySem PySem.Spec PyProof.Rows L2
def top (i : Nat) : Stmt := PySem.Challenge.pw_latticeshapes_k06_grid_maps_created.main.body.getD i (.Pass ⟨0, 0, 0, 0⟩)

abbrev s_is_integer : Stmt := top 7
theorem sc_is_integer : FnScope ["value"] ["value"] (defScope s_is_integer) := ⟨rfl, rfl, rfl, by decide +kernel, rfl, by decide +kernel, by decide +kernel⟩
abbrev s_check_integer : Stmt := top 8
theorem sc_check_integer : FnScope ["value", "least"] ["value", "least"] (defScope s_check_integer) := ⟨rfl, rfl, rfl, by decide +kernel, rfl, by decide +kernel, by decide +kernel⟩
abbrev s_is_point : Stmt := top 10
theorem sc_is_point : FnScope ["value", "item"] ["value"] (defScope s_is_point) := ⟨rfl, rfl, rfl, by decide +kernel, rfl, by decide +kernel, by decide +kernel⟩
abbrev s_check_point : Stmt := top 11
theorem sc_check_point : FnScope ["value"] ["value"] (defScope s_check_point) := ⟨rfl, rfl, rfl, by decide +kernel, rfl, by decide +kernel, by decide +kernel⟩
abbrev s_GridMap_init : Stmt := inClass (top 13) 1
theorem sc_GridMap_init : FnScope ["self", "a", "b", "c", "d", "e", "f", "number"] ["self", "a", "b", "c", "d", "e", "f"] (defScope s_GridMap_init) := ⟨rfl, rfl, rfl, by decide +kernel, rfl, by decide +kernel, by decide +kernel⟩
abbrev s_GridMap_eq : Stmt := inClass (top 13) 2
theorem sc_GridMap_eq : FnScope ["self", "other"] ["self", "other"] (defScope s_GridMap_eq) := ⟨rfl, rfl, rfl, by decide +kernel, rfl, by decide +kernel, by decide +kernel⟩
abbrev s_GridMap_repr : Stmt := inClass (top 13) 3
theorem sc_GridMap_repr : FnScope ["self", "a", "b", "c", "d", "e", "f"] ["self"] (defScope s_GridMap_repr) := ⟨rfl, rfl, rfl, by decide +kernel, rfl, by decide +kernel, by decide +kernel⟩
abbrev s_GridMap_identity : Stmt := inClass (top 13) 4
theorem sc_GridMap_identity : FnScope ["cls"] ["cls"] (defScope s_GridMap_identity) := ⟨rfl, rfl, rfl, by decide +kernel, rfl, by decide +kernel, by decide +kernel⟩
abbrev s_GridMap_shift : Stmt := inClass (top 13) 5
theorem sc_GridMap_shift : FnScope ["point"] ["point"] (defScope s_GridMap_shift) := ⟨rfl, rfl, rfl, by decide +kernel, rfl, by decide +kernel, by decide +kernel⟩
abbrev s_GridMap_numbers : Stmt := inClass (top 13) 6
theorem sc_GridMap_numbers : FnScope ["self"] ["self"] (defScope s_GridMap_numbers) := ⟨rfl, rfl, rfl, by decide +kernel, rfl, by decide +kernel, by decide +kernel⟩
abbrev s_GridMap_determinant : Stmt := inClass (top 13) 7
theorem sc_GridMap_determinant : FnScope ["self", "a", "b", "c", "d", "e", "f"] ["self"] (defScope s_GridMap_determinant) := ⟨rfl, rfl, rfl, by decide +kernel, rfl, by decide +kernel, by decide +kernel⟩
abbrev s_GridMap_is_proper : Stmt := inClass (top 13) 8
theorem sc_GridMap_is_proper : FnScope ["self"] ["self"] (defScope s_GridMap_is_proper) := ⟨rfl, rfl, rfl, by decide +kernel, rfl, by decide +kernel, by decide +kernel⟩
abbrev s_GridMap_image : Stmt := inClass (top 13) 9
theorem sc_GridMap_image : FnScope ["self", "point", "a", "b", "c", "d", "e", "f"] ["self", "point"] (defScope s_GridMap_image) := ⟨rfl, rfl, rfl, by decide +kernel, rfl, by decide +kernel, by decide +kernel⟩
abbrev s_GridMap_apply : Stmt := inClass (top 13) 10
theorem sc_GridMap_apply : FnScope ["self", "point"] ["self", "point"] (defScope s_GridMap_apply) := ⟨rfl, rfl, rfl, by decide +kernel, rfl, by decide +kernel, by decide +kernel⟩
abbrev s_law_draws : Stmt := top 15
theorem sc_law_draws : FnScope ["_law_script", "_law_k", "_law_cell", "_law_seed"] ["_law_script", "_law_k"] (defScope s_law_draws) := ⟨rfl, rfl, rfl, by decide +kernel, rfl, by decide +kernel, by decide +kernel⟩
abbrev s_law_draw : Stmt := top 16
theorem sc_law_draw : FnScope ["_law_draws_here", "_law_upto", "_law_digit"] ["_law_draws_here", "_law_upto"] (defScope s_law_draw) := ⟨rfl, rfl, rfl, by decide +kernel, rfl, by decide +kernel, by decide +kernel⟩
abbrev s_law_integer : Stmt := top 17
theorem sc_law_integer : FnScope ["_law_draws_here", "_law_size", "_law_high", "_law_value"] ["_law_draws_here"] (defScope s_law_integer) := ⟨rfl, rfl, rfl, by decide +kernel, rfl, by decide +kernel, by decide +kernel⟩
abbrev s_law_product : Stmt := top 18
theorem sc_law_product : FnScope ["_law_first", "_law_second", "_law_a", "_law_b", "_law_c", "_law_d", "_law_p", "_law_q", "_law_r", "_law_s"] ["_law_first", "_law_second"] (defScope s_law_product) := ⟨rfl, rfl, rfl, by decide +kernel, rfl, by decide +kernel, by decide +kernel⟩
abbrev s_law_numbers : Stmt := top 19
theorem sc_law_numbers : FnScope ["_law_draws_here", "_law_found", "_law_turn", "_law_k", "_law_factors", "_law_shift"] ["_law_draws_here"] (defScope s_law_numbers) := ⟨rfl, rfl, rfl, by decide +kernel, rfl, by decide +kernel, by decide +kernel⟩
abbrev s_law_image : Stmt := top 20
theorem sc_law_image : FnScope ["_law_numbers_here", "_law_point", "_law_a", "_law_b", "_law_c", "_law_d", "_law_right_here", "_law_up"] ["_law_numbers_here", "_law_point"] (defScope s_law_image) := ⟨rfl, rfl, rfl, by decide +kernel, rfl, by decide +kernel, by decide +kernel⟩
abbrev s_law_error : Stmt := top 21
theorem sc_law_error : FnScope ["_law_numbers_here"] ["_law_numbers_here"] (defScope s_law_error) := ⟨rfl, rfl, rfl, by decide +kernel, rfl, by decide +kernel, by decide +kernel⟩
abbrev s_law_no_point : Stmt := top 22
theorem sc_law_no_point : FnScope ["_law_grid", "_law_value", "_law_found", "_law_function"] ["_law_grid", "_law_value"] (defScope s_law_no_point) := ⟨rfl, rfl, rfl, by decide +kernel, rfl, by decide +kernel, by decide +kernel⟩
abbrev s_law_right : Stmt := top 23
theorem sc_law_right : FnScope ["_law_numbers_here", "_law_point", "_law_a", "_law_b", "_law_c", "_law_d", "_law_right_here", "_law_up", "_law_grid", "_law_told"] ["_law_numbers_here", "_law_point"] (defScope s_law_right) := ⟨rfl, rfl, rfl, by decide +kernel, rfl, by decide +kernel, by decide +kernel⟩
abbrev s_law : Stmt := top 24
theorem sc_law : FnScope ["_law_script", "_law_k", "_law_draws_here", "_law_numbers_here", "_law_point", "_law_at", "_law_odd", "_law_other", "_law_changed", "_law_valid"] ["_law_script"] (defScope s_law) := ⟨rfl, rfl, rfl, by decide +kernel, rfl, by decide +kernel, by decide +kernel⟩
/-! ### what the top has left -/
structure Tx (K : PySem.W.Frag) (mg : Str → Option Value) : Prop where
  n_isinstance : mg "isinstance" = none
  n_int : mg "int" = none
  n_bool : mg "bool" = none
  n_tuple : mg "tuple" = none
  n_all : mg "all" = none
  n_len : mg "len" = none
  n_abs : mg "abs" = none
  n_range : mg "range" = none
  n_repr : mg "repr" = none
  n_max : mg "max" = none
  n_min : mg "min" = none
  g_is_integer : mg "is_integer" = some (.ref (He.ga K "is_integer"))
  g_check_integer : mg "check_integer" = some (.ref (He.ga K "check_integer"))
  g_is_point : mg "is_point" = some (.ref (He.ga K "is_point"))
  g_check_point : mg "check_point" = some (.ref (He.ga K "check_point"))
  g_law_draws : mg "_law_draws" = some (.ref (He.ga K "_law_draws"))
  g_law_draw : mg "_law_draw" = some (.ref (He.ga K "_law_draw"))
  g_law_integer : mg "_law_integer" = some (.ref (He.ga K "_law_integer"))
  g_law_product : mg "_law_product" = some (.ref (He.ga K "_law_product"))
  g_law_numbers : mg "_law_numbers" = some (.ref (He.ga K "_law_numbers"))
  g_law_image : mg "_law_image" = some (.ref (He.ga K "_law_image"))
  g_law_error : mg "_law_error" = some (.ref (He.ga K "_law_error"))
  g_law_no_point : mg "_law_no_point" = some (.ref (He.ga K "_law_no_point"))
  g_law_right : mg "_law_right" = some (.ref (He.ga K "_law_right"))
  g_law : mg "law" = some (.ref (He.ga K "law"))
  g_InvalidInteger : mg "InvalidInteger" = some (.ref (He.ga K "InvalidInteger"))
  x_InvalidInteger : ExcF K (He.ga K "InvalidInteger")
  g_InvalidMap : mg "InvalidMap" = some (.ref (He.ga K "InvalidMap"))
  x_InvalidMap : ExcF K (He.ga K "InvalidMap")
  g_InvalidPoint : mg "InvalidPoint" = some (.ref (He.ga K "InvalidPoint"))
  x_InvalidPoint : ExcF K (He.ga K "InvalidPoint")
  m_InvalidMap_InvalidMap : PySem.W.exmOne K (.ref (He.ga K "InvalidMap")) (.ref (He.ga K "InvalidMap")) = some true
  m_InvalidMap_InvalidInteger : PySem.W.exmOne K (.ref (He.ga K "InvalidMap")) (.ref (He.ga K "InvalidInteger")) = some false
  m_InvalidInteger_InvalidInteger : PySem.W.exmOne K (.ref (He.ga K "InvalidInteger")) (.ref (He.ga K "InvalidInteger")) = some true
  m_InvalidPoint_InvalidPoint : PySem.W.exmOne K (.ref (He.ga K "InvalidPoint")) (.ref (He.ga K "InvalidPoint")) = some true
  g_GridMap : mg "GridMap" = some (.ref (He.ga K "GridMap"))
  y_GridMap : InsTy K (He.ga K "GridMap")
  k_GridMap : Mk K (He.ga K "GridMap") (He.ma K (He.ga K "GridMap") "__init__")
  a_GridMap_six : NoAttr K (He.ga K "GridMap") "six"
  o_GridMap : OEq K (He.ga K "GridMap") (He.ma K (He.ga K "GridMap") "__eq__")
  re_GridMap : ReprOf K (He.ga K "GridMap") (He.ma K (He.ga K "GridMap") "__repr__")
  m_GridMap_identity : ClX.CMet K (He.ga K "GridMap") (.type "type") "identity" (He.ma K (He.ga K "GridMap") "identity") (He5.wf K (He.ga K "GridMap") "classmethod" "identity")
  m_GridMap_shift : SMet K (He.ga K "GridMap") "shift" (He.ma K (He.ga K "GridMap") "shift") (He5.wf K (He.ga K "GridMap") "staticmethod" "shift")
  m_GridMap_numbers : PropOf K (He.ga K "GridMap") "numbers" (He.ma K (He.ga K "GridMap") "numbers") (He5.wf K (He.ga K "GridMap") "property" "numbers")
  m_GridMap_determinant : PropOf K (He.ga K "GridMap") "determinant" (He.ma K (He.ga K "GridMap") "determinant") (He5.wf K (He.ga K "GridMap") "property" "determinant")
  m_GridMap_is_proper : PropOf K (He.ga K "GridMap") "is_proper" (He.ma K (He.ga K "GridMap") "is_proper") (He5.wf K (He.ga K "GridMap") "property" "is_proper")
  m_GridMap_image : Meth K (He.ga K "GridMap") "image" (He.ma K (He.ga K "GridMap") "image")
  m_GridMap_apply : Meth K (He.ga K "GridMap") "apply" (He.ma K (He.ga K "GridMap") "apply")
  cr_GridMap : ClX.CRead K (He.ga K "GridMap") (.type "type")
  cv_GridMap_MAX_ORDER : ∃ u, ClX.CVal K (He.ga K "GridMap") (.type "type") "MAX_ORDER" (.int 6) u
  i_GridMap : PySem.W.kitOne K (.ref (He.ga K "GridMap")) (.ref (He.ga K "GridMap")) = some true
  j_GridMap : ∀ k ∈ kds, PySem.W.kitOne K (.type k) (.ref (He.ga K "GridMap")) = some false
  nf_GridMap : PySem.W.notFirst K (He.ga K "GridMap") (.ref (He.ga K "GridMap")) = true
  nk_GridMap : ∀ k ∈ kds, PySem.W.notFirst K (He.ga K "GridMap") (.type k) = true
  d_is_integer : FunD K "is_integer" "is_integer" (defArgs s_is_integer) (defBody s_is_integer) (defScope s_is_integer) [] [] (He.ga K "is_integer") (fdOf K (He.ga K "is_integer"))
  d_check_integer : FunD K "check_integer" "check_integer" (defArgs s_check_integer) (defBody s_check_integer) (defScope s_check_integer) [.non] [] (He.ga K "check_integer") (fdOf K (He.ga K "check_integer"))
  d_is_point : FunD K "is_point" "is_point" (defArgs s_is_point) (defBody s_is_point) (defScope s_is_point) [] [] (He.ga K "is_point") (fdOf K (He.ga K "is_point"))
  d_check_point : FunD K "check_point" "check_point" (defArgs s_check_point) (defBody s_check_point) (defScope s_check_point) [] [] (He.ga K "check_point") (fdOf K (He.ga K "check_point"))
  d_GridMap_init : FunD K "__init__" "GridMap.__init__" (defArgs s_GridMap_init) (defBody s_GridMap_init) (defScope s_GridMap_init) [(.int 0), (.int 0)] [] (He.ma K (He.ga K "GridMap") "__init__") (fdOf K (He.ma K (He.ga K "GridMap") "__init__"))
  d_GridMap_eq : FunD K "__eq__" "GridMap.__eq__" (defArgs s_GridMap_eq) (defBody s_GridMap_eq) (defScope s_GridMap_eq) [] [] (He.ma K (He.ga K "GridMap") "__eq__") (fdOf K (He.ma K (He.ga K "GridMap") "__eq__"))
  d_GridMap_repr : FunD K "__repr__" "GridMap.__repr__" (defArgs s_GridMap_repr) (defBody s_GridMap_repr) (defScope s_GridMap_repr) [] [] (He.ma K (He.ga K "GridMap") "__repr__") (fdOf K (He.ma K (He.ga K "GridMap") "__repr__"))
  d_GridMap_identity : FunD K "identity" "GridMap.identity" (defArgs s_GridMap_identity) (defBody s_GridMap_identity) (defScope s_GridMap_identity) [] [] (He5.wf K (He.ga K "GridMap") "classmethod" "identity") (fdOf K (He5.wf K (He.ga K "GridMap") "classmethod" "identity"))
  d_GridMap_shift : FunD K "shift" "GridMap.shift" (defArgs s_GridMap_shift) (defBody s_GridMap_shift) (defScope s_GridMap_shift) [] [] (He5.wf K (He.ga K "GridMap") "staticmethod" "shift") (fdOf K (He5.wf K (He.ga K "GridMap") "staticmethod" "shift"))
  d_GridMap_numbers : FunD K "numbers" "GridMap.numbers" (defArgs s_GridMap_numbers) (defBody s_GridMap_numbers) (defScope s_GridMap_numbers) [] [] (He5.wf K (He.ga K "GridMap") "property" "numbers") (fdOf K (He5.wf K (He.ga K "GridMap") "property" "numbers"))
  d_GridMap_determinant : FunD K "determinant" "GridMap.determinant" (defArgs s_GridMap_determinant) (defBody s_GridMap_determinant) (defScope s_GridMap_determinant) [] [] (He5.wf K (He.ga K "GridMap") "property" "determinant") (fdOf K (He5.wf K (He.ga K "GridMap") "property" "determinant"))
  d_GridMap_is_proper : FunD K "is_proper" "GridMap.is_proper" (defArgs s_GridMap_is_proper) (defBody s_GridMap_is_proper) (defScope s_GridMap_is_proper) [] [] (He5.wf K (He.ga K "GridMap") "property" "is_proper") (fdOf K (He5.wf K (He.ga K "GridMap") "property" "is_proper"))
  d_GridMap_image : FunD K "image" "GridMap.image" (defArgs s_GridMap_image) (defBody s_GridMap_image) (defScope s_GridMap_image) [] [] (He.ma K (He.ga K "GridMap") "image") (fdOf K (He.ma K (He.ga K "GridMap") "image"))
  d_GridMap_apply : FunD K "apply" "GridMap.apply" (defArgs s_GridMap_apply) (defBody s_GridMap_apply) (defScope s_GridMap_apply) [] [] (He.ma K (He.ga K "GridMap") "apply") (fdOf K (He.ma K (He.ga K "GridMap") "apply"))
  d_law_draws : FunD K "_law_draws" "_law_draws" (defArgs s_law_draws) (defBody s_law_draws) (defScope s_law_draws) [] [] (He.ga K "_law_draws") (fdOf K (He.ga K "_law_draws"))
  d_law_draw : FunD K "_law_draw" "_law_draw" (defArgs s_law_draw) (defBody s_law_draw) (defScope s_law_draw) [] [] (He.ga K "_law_draw") (fdOf K (He.ga K "_law_draw"))
  d_law_integer : FunD K "_law_integer" "_law_integer" (defArgs s_law_integer) (defBody s_law_integer) (defScope s_law_integer) [] [] (He.ga K "_law_integer") (fdOf K (He.ga K "_law_integer"))
  d_law_product : FunD K "_law_product" "_law_product" (defArgs s_law_product) (defBody s_law_product) (defScope s_law_product) [] [] (He.ga K "_law_product") (fdOf K (He.ga K "_law_product"))
  d_law_numbers : FunD K "_law_numbers" "_law_numbers" (defArgs s_law_numbers) (defBody s_law_numbers) (defScope s_law_numbers) [] [] (He.ga K "_law_numbers") (fdOf K (He.ga K "_law_numbers"))
  d_law_image : FunD K "_law_image" "_law_image" (defArgs s_law_image) (defBody s_law_image) (defScope s_law_image) [] [] (He.ga K "_law_image") (fdOf K (He.ga K "_law_image"))
  d_law_error : FunD K "_law_error" "_law_error" (defArgs s_law_error) (defBody s_law_error) (defScope s_law_error) [] [] (He.ga K "_law_error") (fdOf K (He.ga K "_law_error"))
  d_law_no_point : FunD K "_law_no_point" "_law_no_point" (defArgs s_law_no_point) (defBody s_law_no_point) (defScope s_law_no_point) [] [] (He.ga K "_law_no_point") (fdOf K (He.ga K "_law_no_point"))
  d_law_right : FunD K "_law_right" "_law_right" (defArgs s_law_right) (defBody s_law_right) (defScope s_law_right) [] [] (He.ga K "_law_right") (fdOf K (He.ga K "_law_right"))
  d_law : FunD K "law" "law" (defArgs s_law) (defBody s_law) (defScope s_law) [] [] (He.ga K "law") (fdOf K (He.ga K "law"))
section
variable {K : PySem.W.Frag} {mg : Str → Option Value}
theorem bn_is_integer (T : Tx K mg) : Binds K (fdOf K (He.ga K "is_integer")) ["value"] [] := T.d_is_integer.bindsN fun _ _ _ _ _ _ us hl => match us, hl with | [_], _ => rfl
theorem bd0_check_integer (T : Tx K mg) : ∃ ds, Vals [] ds ∧ Binds K (fdOf K (He.ga K "check_integer")) ["value", "least"] ds := T.d_check_integer.binds1 2 1 (List.cons_ne_nil _ _) rfl fun _ _ _ _ _ _ _ us its hu hi => match us, its, hu, hi with | [_, _], [_], _, _ => ⟨_, rfl, rfl⟩
theorem bd1_check_integer (T : Tx K mg) : ∃ ds, Vals [.non] ds ∧ Binds K (fdOf K (He.ga K "check_integer")) ["value", "least"] ds := T.d_check_integer.binds1 1 0 (List.cons_ne_nil _ _) rfl fun _ _ _ _ _ _ _ us its hu hi => match us, its, hu, hi with | [_], [_], _, _ => ⟨_, rfl, rfl⟩
theorem bn_is_point (T : Tx K mg) : Binds K (fdOf K (He.ga K "is_point")) ["value"] [] := T.d_is_point.bindsN fun _ _ _ _ _ _ us hl => match us, hl with | [_], _ => rfl
theorem bn_check_point (T : Tx K mg) : Binds K (fdOf K (He.ga K "check_point")) ["value"] [] := T.d_check_point.bindsN fun _ _ _ _ _ _ us hl => match us, hl with | [_], _ => rfl
theorem bd0_GridMap_init (T : Tx K mg) : ∃ ds, Vals [] ds ∧ Binds K (fdOf K (He.ma K (He.ga K "GridMap") "__init__")) ["self", "a", "b", "c", "d", "e", "f"] ds := T.d_GridMap_init.binds1 7 2 (List.cons_ne_nil _ _) rfl fun _ _ _ _ _ _ _ us its hu hi => match us, its, hu, hi with | [_, _, _, _, _, _, _], [_, _], _, _ => ⟨_, rfl, rfl⟩
theorem bd1_GridMap_init (T : Tx K mg) : ∃ ds, Vals [(.int 0)] ds ∧ Binds K (fdOf K (He.ma K (He.ga K "GridMap") "__init__")) ["self", "a", "b", "c", "d", "e", "f"] ds := T.d_GridMap_init.binds1 6 1 (List.cons_ne_nil _ _) rfl fun _ _ _ _ _ _ _ us its hu hi => match us, its, hu, hi with | [_, _, _, _, _, _], [_, _], _, _ => ⟨_, rfl, rfl⟩
theorem bd2_GridMap_init (T : Tx K mg) : ∃ ds, Vals [(.int 0), (.int 0)] ds ∧ Binds K (fdOf K (He.ma K (He.ga K "GridMap") "__init__")) ["self", "a", "b", "c", "d", "e", "f"] ds := T.d_GridMap_init.binds1 5 0 (List.cons_ne_nil _ _) rfl fun _ _ _ _ _ _ _ us its hu hi => match us, its, hu, hi with | [_, _, _, _, _], [_, _], _, _ => ⟨_, rfl, rfl⟩
theorem bn_GridMap_eq (T : Tx K mg) : Binds K (fdOf K (He.ma K (He.ga K "GridMap") "__eq__")) ["self", "other"] [] := T.d_GridMap_eq.bindsN fun _ _ _ _ _ _ us hl => match us, hl with | [_, _], _ => rfl
theorem bn_GridMap_repr (T : Tx K mg) : Binds K (fdOf K (He.ma K (He.ga K "GridMap") "__repr__")) ["self"] [] := T.d_GridMap_repr.bindsN fun _ _ _ _ _ _ us hl => match us, hl with | [_], _ => rfl
theorem bn_GridMap_identity (T : Tx K mg) : Binds K (fdOf K (He5.wf K (He.ga K "GridMap") "classmethod" "identity")) ["cls"] [] := T.d_GridMap_identity.bindsN fun _ _ _ _ _ _ us hl => match us, hl with | [_], _ => rfl
theorem bn_GridMap_shift (T : Tx K mg) : Binds K (fdOf K (He5.wf K (He.ga K "GridMap") "staticmethod" "shift")) ["point"] [] := T.d_GridMap_shift.bindsN fun _ _ _ _ _ _ us hl => match us, hl with | [_], _ => rfl
theorem bn_GridMap_numbers (T : Tx K mg) : Binds K (fdOf K (He5.wf K (He.ga K "GridMap") "property" "numbers")) ["self"] [] := T.d_GridMap_numbers.bindsN fun _ _ _ _ _ _ us hl => match us, hl with | [_], _ => rfl
theorem bn_GridMap_determinant (T : Tx K mg) : Binds K (fdOf K (He5.wf K (He.ga K "GridMap") "property" "determinant")) ["self"] [] := T.d_GridMap_determinant.bindsN fun _ _ _ _ _ _ us hl => match us, hl with | [_], _ => rfl
theorem bn_GridMap_is_proper (T : Tx K mg) : Binds K (fdOf K (He5.wf K (He.ga K "GridMap") "property" "is_proper")) ["self"] [] := T.d_GridMap_is_proper.bindsN fun _ _ _ _ _ _ us hl => match us, hl with | [_], _ => rfl
theorem bn_GridMap_image (T : Tx K mg) : Binds K (fdOf K (He.ma K (He.ga K "GridMap") "image")) ["self", "point"] [] := T.d_GridMap_image.bindsN fun _ _ _ _ _ _ us hl => match us, hl with | [_, _], _ => rfl
theorem bn_GridMap_apply (T : Tx K mg) : Binds K (fdOf K (He.ma K (He.ga K "GridMap") "apply")) ["self", "point"] [] := T.d_GridMap_apply.bindsN fun _ _ _ _ _ _ us hl => match us, hl with | [_, _], _ => rfl
theorem bn_law_draws (T : Tx K mg) : Binds K (fdOf K (He.ga K "_law_draws")) ["_law_script", "_law_k"] [] := T.d_law_draws.bindsN fun _ _ _ _ _ _ us hl => match us, hl with | [_, _], _ => rfl
theorem bn_law_draw (T : Tx K mg) : Binds K (fdOf K (He.ga K "_law_draw")) ["_law_draws_here", "_law_upto"] [] := T.d_law_draw.bindsN fun _ _ _ _ _ _ us hl => match us, hl with | [_, _], _ => rfl
theorem bn_law_integer (T : Tx K mg) : Binds K (fdOf K (He.ga K "_law_integer")) ["_law_draws_here"] [] := T.d_law_integer.bindsN fun _ _ _ _ _ _ us hl => match us, hl with | [_], _ => rfl
theorem bn_law_product (T : Tx K mg) : Binds K (fdOf K (He.ga K "_law_product")) ["_law_first", "_law_second"] [] := T.d_law_product.bindsN fun _ _ _ _ _ _ us hl => match us, hl with | [_, _], _ => rfl
theorem bn_law_numbers (T : Tx K mg) : Binds K (fdOf K (He.ga K "_law_numbers")) ["_law_draws_here"] [] := T.d_law_numbers.bindsN fun _ _ _ _ _ _ us hl => match us, hl with | [_], _ => rfl
theorem bn_law_image (T : Tx K mg) : Binds K (fdOf K (He.ga K "_law_image")) ["_law_numbers_here", "_law_point"] [] := T.d_law_image.bindsN fun _ _ _ _ _ _ us hl => match us, hl with | [_, _], _ => rfl
theorem bn_law_error (T : Tx K mg) : Binds K (fdOf K (He.ga K "_law_error")) ["_law_numbers_here"] [] := T.d_law_error.bindsN fun _ _ _ _ _ _ us hl => match us, hl with | [_], _ => rfl
theorem bn_law_no_point (T : Tx K mg) : Binds K (fdOf K (He.ga K "_law_no_point")) ["_law_grid", "_law_value"] [] := T.d_law_no_point.bindsN fun _ _ _ _ _ _ us hl => match us, hl with | [_, _], _ => rfl
theorem bn_law_right (T : Tx K mg) : Binds K (fdOf K (He.ga K "_law_right")) ["_law_numbers_here", "_law_point"] [] := T.d_law_right.bindsN fun _ _ _ _ _ _ us hl => match us, hl with | [_, _], _ => rfl
theorem kb_GridMap_init_f_e (T : Tx K mg) : ∃ its : List Value, KBn K (fdOf K (He.ma K (He.ga K "GridMap") "__init__")) ["self", "a", "b", "c", "d", "e", "f"] 5 ["f", "e"] (fun us ws => pickG [1, 0] us its ws) (fun vs zs => pickG [1, 0] vs [(.int 0), (.int 0)] zs) :=
  FunD.kbindsD T.d_GridMap_init 5 ["f", "e"] (pickG [1, 0]) (List.cons_ne_nil _ _) (fun r1 r2 r3 => vals_pick [1, 0] r1 r2 r3) fun _ _ _ _ _ _ _ us its ws hu hi hw => match us, its, ws, hu, hi, hw with | [_, _, _, _, _], [_, _], [_, _], _, _, _ => ⟨_, rfl, rfl⟩
end
end G
/-! ### the walk: one step; all plain steps -/
open PySem PySem.Spec PyProof.Rows L2 G
local macro_rules | `(tactic| walk_at "g1") => `(tactic| first
  | (with_reducible refine' r_seq ?_)
  | (with_reducible refine' r_asg ?_)
  | (with_reducible refine' r_ifs ?_)
  | (with_reducible refine' r_test ?_)
  | (with_reducible refine' r_op ?_)
  | ((with_reducible refine' r_var ?h ?_); (case h => exact rfl))
  | (with_reducible refine' r_c ?_)
  | (with_reducible refine' r_I0 ?_)
  | (with_reducible refine' r_bl ?_)
  | (with_reducible refine' r_cons ?_)
  | (with_reducible refine' r_nil ?_)
  | (with_reducible refine' r_gname ?_)
  | (with_reducible refine' r_next ?_)
  | (with_reducible refine' r_ret ?_)
  | (with_reducible refine' r_un ?_)
  | (with_reducible refine' r_U ?_)
  | (with_reducible refine' r_cb ?_)
  | (with_reducible refine' r_call ?_)
  | (with_reducible refine' r_callS ?_)
  | (with_reducible refine' r_callR ?_)
  | (with_reducible refine' r_methA ?_)
  | (with_reducible refine' r_makeA ?_)
  | ((with_reducible refine' r_makeL ?h ?_); (case h => exact rfl))
  | (with_reducible refine' r_cmethA ?_)
  | (with_reducible refine' r_cval ?_)
  | (with_reducible refine' r_prop ?_)
  | (with_reducible refine' r_fld ?_)
  | (with_reducible refine' r_sfld ?_)
  | (with_reducible refine' r_lst ?_)
  | (with_reducible refine' r_tup ?_)
  | (with_reducible refine' r_drop ?_)
  | (with_reducible refine' r_sub ?_)
  | (with_reducible refine' r_and ?_)
  | (with_reducible refine' r_or ?_)
  | (with_reducible refine' r_not ?_)
  | (with_reducible refine' r_andV ?_)
  | (with_reducible refine' r_orV ?_)
  | (with_reducible refine' r_notV ?_)
  | (with_reducible refine' r_if ?_)
  | (with_reducible refine' r_tB ?_)
  | ((with_reducible refine' r_aug ?h ?_); (case h => exact rfl))
  | (with_reducible refine' r_ipI ?_)
  | (with_reducible refine' r_gcons ?_)
  | (with_reducible refine' r_gnil ?_)
  | ((with_reducible refine' r_gtup ?h1 ?_ ?h2); (case h1 => exact SqT.of (by assumption)); (case h2 => exact rfl))
  | ((with_reducible refine' r_gtup ?h1 ?_ ?h2); (case h1 => assumption); (case h2 => exact rfl))
  | (with_reducible refine' r_par ?_)
  | (with_reducible refine' r_two ?_)
  | (with_reducible refine' r_abs ?_)
  | (with_reducible refine' r_intB ?_)
  | (with_reducible refine' r_intI ?_)
  | (with_reducible refine' r_max2 ?_)
  | (with_reducible refine' r_min2 ?_)
  | (with_reducible refine' r_tru ?_)
  | (with_reducible refine' r_truI ?_)
  | (with_reducible refine' r_isN ?_)
  | (with_reducible refine' r_notN ?_)
  | (with_reducible refine' r_isB ?_)
  | (with_reducible refine' r_notB ?_)
  | (with_reducible refine' r_forR1 ?_)
  | (with_reducible refine' r_forR2 ?_)
  | (with_reducible refine' r_forL ?_)
  | (with_reducible refine' r_forT ?_)
  | (with_reducible refine' r_forZ ?_)
  | (with_reducible refine' r_sl ?_)
  | (with_reducible refine' r_noPart ?_)
  | (with_reducible refine' r_part ?_)
  | (with_reducible refine' r_partI ?_)
  | (with_reducible refine' r_lcR1 ?_)
  | (with_reducible refine' r_lcR2 ?_)
  | (with_reducible refine' r_lcL ?_)
  | (with_reducible refine' r_lcT ?_)
  | (with_reducible refine' r_eqI ?_)
  | (with_reducible refine' r_neI ?_)
  | ((with_reducible refine' r_eq ?h ?_); (case h => exact rfl))
  | ((with_reducible refine' r_ne ?h ?_); (case h => exact rfl)))
local macro_rules | `(tactic| walk_at "g") => `(tactic| repeat walk_at "g1")
local macro_rules | `(tactic| walk_at "ix") => `(tactic| first
  | ((with_reducible refine' r_ixL ?h1 ?h2 ?_); (case h1 => exact SqL.of (by assumption)); (case h2 => exact rfl))
  | ((with_reducible refine' r_ixT ?h1 ?h2 ?_); (case h1 => exact SqT.of (by assumption)); (case h2 => exact rfl))
  | ((with_reducible refine' r_ixL ?h1 ?h2 ?_); (case h1 => exact SqL.of upd_same); (case h2 => exact rfl))
  | ((with_reducible refine' r_ixL ?h1 ?h2 ?_); (case h1 => assumption); (case h2 => exact rfl))
  | ((with_reducible refine' r_ixT ?h1 ?h2 ?_); (case h1 => assumption); (case h2 => exact rfl)))
local macro_rules | `(tactic| walk_at "gx") => `(tactic| repeat (first | walk_at "g1" | walk_at "ix"))
local macro_rules | `(tactic| walk_at "g0") => `(tactic| repeat (first | (with_reducible refine' r_asg ?_) | (with_reducible refine' r_gname ?_) | (with_reducible refine' r_next ?_)))
local macro_rules | `(tactic| walk_at "st") => `(tactic| ((with_reducible refine' r_gnameS ?h ?_); (case h => simp only [List.set_cons_zero, List.set_cons_succ]; exact rfl)))
local macro_rules | `(tactic| walk_at "gs") => `(tactic| repeat (first | walk_at "st" | walk_at "g1" | walk_at "ix"))
local macro_rules | `(tactic| walk_at "s0") => `(tactic| ((refine' r_st ?h ?_); (case h => simp only [L2.start, List.map_cons, List.map_nil, List.length_cons, List.length_nil, List.replicate, List.cons_append, List.nil_append, Nat.reduceAdd, Nat.reduceSub, Nat.zero_add]; exact rfl)))
namespace G
open PySem PySem.Spec PyProof.Rows L2
section
variable {P : Program} {w : World} {K : PySem.W.Frag} {mg : Str → Option Value} {base : Heap}
/-! #### is_integer -/
def sp_is_integer (K : PySem.W.Frag) : Sp := fun vs H Q _ => ∃ (v : V) (n : String), vs = [v] ∧ Kd K H v n ∧ Q (.bl (isI v)) H
theorem ok_is_integer (T : Tx K mg) : FnOk P w K mg base CX0 1 (He.ga K "is_integer") (fdOf K (He.ga K "is_integer")) ["value"] (sp_is_integer K) := by
  refine T.d_is_integer.ok sc_is_integer (fun vs H Q E h => ?_) (fun cdv A outer s H vs Q E hr h => ?_)
  · obtain ⟨v, n, rfl, _⟩ := h
    rfl
  · obtain ⟨v, n, rfl, kd, q⟩ := h
    refine ⟨_, PSs.nox (pss_one (ps_ret (pe_and (pe_callB (kIsi (K := K)) (by rfl) T.n_isinstance (by decide +kernel) (pa_cons (pv 0) (pa_cons (pe_bltn (v := .ty "int") (by rfl) T.n_int (by decide +kernel) rfl) pa_nil))) (pe_one (pe_not (pe_callB (kIsi (K := K)) (by rfl) T.n_isinstance (by decide +kernel) (pa_cons (pv 0) (pa_cons (pe_bltn (v := .ty "bool") (by rfl) T.n_bool (by decide +kernel) rfl) pa_nil)))))))), ?_⟩
    obtain ⟨k1, k2, _, _, e⟩ := kd.kit
    walk_at "g"
    refine r_isi (.ty "int") kd.ty k1 ?_
    walk_at "g"
    refine r_b (fun hb => ?_) (fun hb => ?_)
    · walk_at "g"
      refine r_isi (.ty "bool") kd.ty k2 ?_
      walk_at "g"
      rw [hb, Bool.true_and] at e
      rw [← e]
      exact q
    · rw [hb, Bool.false_and] at e
      rw [← e]
      exact q
/-! #### check_integer -/
def goodI (v l : V) : Bool := match v with
  | .int i => (match l with | .int m => decide (m ≤ i) | _ => true)
  | _ => false
def sp_check_integer (K : PySem.W.Frag) : Sp := fun vs H Q E => ∃ (v l : V) (n : String), vs = [v, l] ∧ Kd K H v n ∧ (l = .non ∨ ∃ m, l = .int m) ∧ (goodI v l = true → Q .non H) ∧ (goodI v l = false → E (.ref (He.ga K "InvalidInteger")) none H)
theorem ok_check_integer (T : Tx K mg) : FnOk P w K mg base (L2.CX P w) 2 (He.ga K "check_integer") (fdOf K (He.ga K "check_integer")) ["value", "least"] (sp_check_integer K) := by
  refine T.d_check_integer.ok sc_check_integer (fun vs H Q E h => ?_) (fun cdv A outer s H vs Q E hr h => ?_)
  · obtain ⟨v, l, n, rfl, _⟩ := h
    rfl
  · obtain ⟨v, l, n, rfl, kd, hl, q1, q2⟩ := h
    refine ⟨_, (pss_one (ps_if (PW.pt (pw_or (pt_not (pt_val (pe_call (ok_is_integer T) (hr.mono (by decide)) rfl T.g_is_integer T.d_is_integer.kp (bn_is_integer T) .nil pass0 (pa_cons (pv 0) pa_nil)))) (pw_or1 (PW.pt (pw_and (pt_cmpR op_notN1 (pv 1) pe_non (nomark _)) (pw_and1 (pt_cmpR op_lt (pv 0) (pv 1) (nomark _)))))))) (pss_one (ps_raise rfl (takes_of rfl rfl rfl rfl) (pmk_own PySem.F.excBase_ValueError T.x_InvalidInteger.x T.g_InvalidInteger T.x_InvalidInteger.k (raises_own T.x_InvalidInteger.b T.x_InvalidInteger.t) rfl))) pss_nil)), ?_⟩
    walk_at "g"
    refine ⟨v, n, rfl, kd, ?_⟩
    walk_at "g"
    cases v with
    | int i =>
      show if (!true) = true then _ else _
      refine iteF ?_
      walk_at "g"
      rcases hl with rfl | ⟨m, rfl⟩
      · exact q1 rfl
      · refine iteT ?_
        walk_at "g"
        refine r_dec (fun h => q2 (decide_eq_false (by omega))) (fun h => q1 (decide_eq_true (by omega)))
    | _ => exact q2 rfl
/-! #### is_point -/
def sp_is_point (K : PySem.W.Frag) : Sp := fun vs H Q _ => ∃ (v : V) (b : Bool), vs = [v] ∧ PtB K H v b ∧ ∀ H', Same H H' → Q (.bl b) H'
theorem kd_isi {H : Hp} {v : V} {n : String} (k : Kd K H v n) (c : String) (b : Bool) (hc : kitB n c = some b) {Q : VK} (q : Q (.bl b) H) : rIsi K [v, .ty c] H Q := r_isi (.ty c) k.ty (kit_ty hc) q
theorem ok_is_point (T : Tx K mg) : FnOk P w K mg base CX0 2 (He.ga K "is_point") (fdOf K (He.ga K "is_point")) ["value"] (sp_is_point K) := by
  refine T.d_is_point.ok sc_is_point (fun vs H Q E h => ?_) (fun cdv A outer s H vs Q E hr h => ?_)
  · obtain ⟨v, b, rfl, _⟩ := h
    rfl
  · obtain ⟨v, b, rfl, hb, q⟩ := h
    refine ⟨_, PSs.nox (pss_one (ps_ret (pe_and (pe_callB (kIsi (K := K)) (by rfl) T.n_isinstance (by decide +kernel) (pa_cons (pv 0) (pa_cons (pe_bltn (v := .ty "tuple") (by rfl) T.n_tuple (by decide +kernel) rfl) pa_nil))) (pe_and (pe_cmpR op_eq (pe_callB (kLen (K := K)) (by rfl) T.n_len (by decide +kernel) (pa_cons (pv 0) pa_nil)) pe_int (nomark _)) (pe_one (pe_callB (kAll (K := K) rfl) (by rfl) T.n_all (by decide +kernel) (pa_cons (pe_lc (own := [("item", 1)]) (g := (gName 1)) (tt := tYes) rfl sc_is_point.nd (kpiT (K := K) (pv 0)) (blkOk_by (own := [("item", 1)]) (N := ["value", "item"]) (sc := defScope s_is_point) (by decide +kernel)) (fun _ _ _ _ _ => (pg_name (i := 1) sc_is_point.nd rfl (Or.inl rfl))) (fun _ _ _ _ _ => pts_nil) (fun _ _ _ _ _ => (pe_call (ok_is_integer T) (hr.mono (by decide)) rfl T.g_is_integer T.d_is_integer.kp (bn_is_integer T) .nil pass0 (pa_cons (pv 1) pa_nil)))) pa_nil))))))), ?_⟩
    have two : ∀ (p : Addr) (x y : V) (m n : String), SqT K H p [x, y] → Kd K H x m → Kd K H y n → (isI x && isI y) = b → v = .ref p → tAndV (tOp rEq (tCB (rLn K) (tCons (tVar 0) tNil)) (tC (V.int 2))) (tCB (rAll K) (tCons (tLc (iTup K (tVar 0)) (gName 1) tYes (tCall (sp_is_integer K) [] E0 (tCons (tVar 1) tNil)) [1]) tNil)) [some v, none] H Q := by
      rintro p x y m n hs kx ky hi rfl
      walk_at "gx"
      refine r_lenT hs ?_
      walk_at "gx"
      refine r_dec (fun _ => ?_) (fun h => absurd rfl h)
      walk_at "gx"
      refine compT (xs := [x, y]) (by show 2 ≤ 100000; decide) (fun D i acc H' => Same H H' ∧ acc = ([isI x, isI y].take i).map V.bl) hs (fun D hD => ⟨same_new (Same.refl H) hD, rfl⟩) (fun D i acc H' _ p => sqT_same p.1 hs) ?_ ?_
      · rintro D i z acc H1 hD hz hi2 ⟨S1, rfl⟩ hacc hl
        refine r_gname ⟨rfl, ?_⟩
        walk_at "gx"
        have hi2 : i < 2 := hi2
        have kz : ∃ k, Kd K H1 z k := by
          have hz := List.mem_of_getElem? hz
          simp only [List.mem_cons, List.not_mem_nil, or_false] at hz
          rcases hz with rfl | rfl
          · exact ⟨_, kx.same S1⟩
          · exact ⟨_, ky.same S1⟩
        obtain ⟨k, kz⟩ := kz
        refine ⟨_, _, rfl, kz, ?_⟩
        refine cnext hacc hl (by omega) ⟨fun c o e => ?_, ?_⟩
        · rw [upd_ne (ne_of_none e hD)]
          exact S1 c o e
        · rcases (show i = 0 ∨ i = 1 by omega) with rfl | rfl
          · cases hz; rfl
          · cases hz; rfl
      · rintro D acc H1 hD ⟨S1, rfl⟩ hacc hl
        refine ⟨D, [isI x, isI y], rfl, SqL.of hacc, ?_⟩
        have e : [isI x, isI y].all id = b := by
          show (isI x && (isI y && true)) = b
          rw [Bool.and_true]; exact hi
        rw [e]
        exact q H1 S1
    walk_at "gx"
    cases hb with
    | yes p hp =>
      obtain ⟨a, rfl, hs⟩ := hp.pt_of
      refine kd_isi (.tup hs) _ true (by decide +kernel) ?_
      refine ⟨true, rfl, iteT ?_⟩
      exact two a _ _ _ _ hs (.int _) (.int _) rfl rfl
    | kind k hn =>
      refine kd_isi k _ false ?_ ?_
      · cases k with
        | tup e => exact absurd rfl hn
        | non => decide +kernel
        | bl x => decide +kernel
        | int x => decide +kernel
        | str x => decide +kernel
        | lst x => decide +kernel
        | dK x => decide +kernel
      · refine ⟨false, rfl, iteF ?_⟩
        exact q _ (Same.refl H)
    | @len a xs hs hn =>
      refine kd_isi (.tup hs) _ true (by decide +kernel) ?_
      refine ⟨true, rfl, iteT ?_⟩
      walk_at "gx"
      refine r_lenT hs ?_
      walk_at "gx"
      refine r_dec (fun h => absurd h (by omega)) (fun h => ?_)
      exact q _ (Same.refl H)
    | item hs kx ky hi =>
      refine kd_isi (.tup hs) _ true (by decide +kernel) ?_
      refine ⟨true, rfl, iteT ?_⟩
      exact two _ _ _ _ _ hs kx ky hi rfl
/-! #### check_point -/
def sp_check_point (K : PySem.W.Frag) : Sp := fun vs H Q E => ∃ (v : V) (b : Bool), vs = [v] ∧ PtB K H v b ∧ (b = true → ∀ H', Same H H' → Q .non H') ∧ (b = false → ∀ H', Same H H' → E (.ref (He.ga K "InvalidPoint")) none H')
theorem ok_check_point (T : Tx K mg) : FnOk P w K mg base (L2.CX P w) 3 (He.ga K "check_point") (fdOf K (He.ga K "check_point")) ["value"] (sp_check_point K) := by
  refine T.d_check_point.ok sc_check_point (fun vs H Q E h => ?_) (fun cdv A outer s H vs Q E hr h => ?_)
  · obtain ⟨v, b, rfl, _⟩ := h
    rfl
  · obtain ⟨v, b, rfl, hb, q1, q2⟩ := h
    refine ⟨_, (pss_one (ps_if (pt_not (pt_val (pe_call (ok_is_point T) (hr.mono (by decide)) rfl T.g_is_point T.d_is_point.kp (bn_is_point T) .nil pass0 (pa_cons (pv 0) pa_nil)))) (pss_one (ps_raise rfl (takes_of rfl rfl rfl rfl) (pmk_own PySem.F.excBase_ValueError T.x_InvalidPoint.x T.g_InvalidPoint T.x_InvalidPoint.k (raises_own T.x_InvalidPoint.b T.x_InvalidPoint.t) rfl))) pss_nil)), ?_⟩
    walk_at "gx"
    refine ⟨v, b, rfl, hb, fun H1 s1 => ?_⟩
    walk_at "gx"
    cases b with
    | true => exact q1 rfl H1 s1
    | false => exact q2 rfl H1 s1
/-! #### GridMap.__init__ -/
def sp_GridMap_init (K : PySem.W.Frag) : Sp := fun vs H Q E => ∃ (x dx : Addr) (v1 v2 v3 v4 v5 v6 : V), vs = [.ref x, v1, v2, v3, v4, v5, v6] ∧ H x = some (.ins (He.ga K "GridMap") dx []) ∧ (∀ v ∈ [v1, v2, v3, v4, v5, v6], ∃ n, Kd K H v n) ∧
  ([v1, v2, v3, v4, v5, v6].all isI = false → ∀ H', Same H H' → E (.ref (He.ga K "InvalidInteger")) none H') ∧
  ∀ m : M6, [v1, v2, v3, v4, v5, v6] = m.vals → MBd 100000 m ∧ (m.Ok → ∀ t H', Kp x H H' → H' x = some (.ins (He.ga K "GridMap") dx [("six", .ref t)]) → SqT K H' t m.vals → Q .non H') ∧ (¬ m.Ok → ∀ H', Same H H' → E (.ref (He.ga K "InvalidMap")) none H')
theorem all_six {v1 v2 v3 v4 v5 v6 : V} (h : [v1, v2, v3, v4, v5, v6].all isI = true) : ∃ m : M6, [v1, v2, v3, v4, v5, v6] = m.vals := by
  have one : ∀ v, isI v = true → ∃ i, v = .int i := fun v hv => by
    cases v with
    | int i => exact ⟨i, rfl⟩
    | _ => cases hv
  have all := List.all_eq_true.mp h
  obtain ⟨a, rfl⟩ := one v1 (all _ (by simp))
  obtain ⟨b, rfl⟩ := one v2 (all _ (by simp))
  obtain ⟨c, rfl⟩ := one v3 (all _ (by simp))
  obtain ⟨d, rfl⟩ := one v4 (all _ (by simp))
  obtain ⟨e, rfl⟩ := one v5 (all _ (by simp))
  obtain ⟨f, rfl⟩ := one v6 (all _ (by simp))
  exact ⟨⟨a, b, c, d, e, f⟩, rfl⟩
theorem ok_iff {m : M6} : m.Ok ↔ ((m.a * m.d - m.b * m.c).natAbs : Int) = 1 := by
  unfold M6.Ok M6.det
  omega
theorem ok_GridMap_init (T : Tx K mg) : FnOk P w K mg base (L2.CX P w) 3 (He.ma K (He.ga K "GridMap") "__init__") (fdOf K (He.ma K (He.ga K "GridMap") "__init__")) ["self", "a", "b", "c", "d", "e", "f"] (sp_GridMap_init K) := by
  refine T.d_GridMap_init.ok sc_GridMap_init (fun vs H Q E h => ?_) (fun cdv A outer s H vs Q E hr h => ?_)
  · obtain ⟨x, dx, v1, v2, v3, v4, v5, v6, rfl, _⟩ := h
    rfl
  · obtain ⟨x, dx, v1, v2, v3, v4, v5, v6, rfl, hx, hk, q2, q1⟩ := h
    refine ⟨_, (pss_cons (ps_for (passes_of rfl) rfl (kpiT (K := K) (pe_tup (pa_cons (pv 1) (pa_cons (pv 2) (pa_cons (pv 3) (pa_cons (pv 4) (pa_cons (pv 5) (pa_cons (pv 6) pa_nil)))))))) (pg_name (i := 7) sc_GridMap_init.nd rfl (Or.inl rfl))
      (pss_one (ps_expr (pe_call (ok_check_integer T) (hr.mono (by decide)) rfl T.g_check_integer T.d_check_integer.kp (bd1_check_integer T).choose_spec.2 (bd1_check_integer T).choose_spec.1 (passes_call (takes_of rfl rfl rfl rfl) (fun _ _ _ _ h => h)) (pa_cons (pv 7) pa_nil)))))
      (pss_cons (ps_if (pt_cmpR op_ne (pe_callB cAbs (by rfl) T.n_abs (by decide +kernel) (pa_cons (pe_op op_sub (pe_op op_mulA (pv 1) (pv 4)) (pe_op op_mulA (pv 2) (pv 3))) pa_nil)) pe_int (nomark _)) (pss_one (ps_raise rfl (takes_of rfl rfl rfl rfl) (pmk_own PySem.F.excBase_ValueError T.x_InvalidMap.x T.g_InvalidMap T.x_InvalidMap.k (raises_own T.x_InvalidMap.b T.x_InvalidMap.t) rfl))) pss_nil)
      (pss_one (kSFld (K := K) (ps_fld (pv 0) (pe_tup (pa_cons (pv 1) (pa_cons (pv 2) (pa_cons (pv 3) (pa_cons (pv 4) (pa_cons (pv 5) (pa_cons (pv 6) pa_nil))))))) rfl))))), ?_⟩
    walk_at "gx"
    refine r_new fun t ht => ?_
    generalize e1 : upd H t _ = H1
    obtain ⟨s1, g1⟩ := fresh ht e1
    walk_at "gx"
    refine loopT (xs := [v1, v2, v3, v4, v5, v6]) (fun i σ' H' => H1 = H' ∧ ([v1, v2, v3, v4, v5, v6].take i).all isI = true ∧ ∃ o, σ' = [some (.ref x), some v1, some v2, some v3, some v4, some v5, some v6, o]) ⟨rfl, rfl, _, rfl⟩ (fun i σ' H' _ q => by obtain ⟨rfl, _⟩ := q; exact SqT.of g1) ?_ ?_
    · rintro i z σ' H' hi ⟨rfl, ha, o, rfl⟩
      walk_at "gx"
      have hm := List.mem_of_getElem? hi
      obtain ⟨n, kd⟩ := hk z hm
      refine ⟨z, .non, n, rfl, kd.same s1, .inl rfl, fun g => ?_, fun g => q2 ?_ _ s1⟩
      · have hz : isI z = true := by
          cases z with
          | int j => rfl
          | _ => cases g
        refine ⟨rfl, ?_, _, rfl⟩
        have e : [v1, v2, v3, v4, v5, v6].take (i + 1) = [v1, v2, v3, v4, v5, v6].take i ++ [z] := by rw [List.take_succ, hi]; rfl
        rw [e, List.all_append, ha]
        show (isI z && true) = true
        rw [hz] <;> rfl
      · have hz : isI z = false := by
          cases z with
          | int j => cases g
          | _ => rfl
        cases q : [v1, v2, v3, v4, v5, v6].all isI with
        | false => rfl
        | true =>
          have := List.all_eq_true.mp q z hm
          rw [hz] at this
          cases this
    · rintro σ' H' ⟨rfl, ha, o, rfl⟩
      obtain ⟨m, em⟩ := all_six (v1 := v1) (v2 := v2) (v3 := v3) (v4 := v4) (v5 := v5) (v6 := v6) ha
      obtain ⟨bd, q1b, q3⟩ := q1 m em
      simp only [M6.vals, List.cons.injEq, and_true] at em
      obtain ⟨rfl, rfl, rfl, rfl, rfl, rfl⟩ := em
      obtain ⟨ba, bb, bc, bd, be, bf⟩ := bd
      walk_at "gx"
      refine r_I (ba.ok bd) ?_
      walk_at "gx"
      refine r_I (bb.ok bc) ?_
      walk_at "gx"
      refine r_ndec (fun hn => q3 (fun z => hn (ok_iff.mp z)) _ s1) (fun hn => ?_)
      walk_at "gx"
      refine r_new fun t2 ht2 => ?_
      generalize e2 : upd H1 t2 _ = H2
      obtain ⟨s2, g2⟩ := fresh ht2 e2
      walk_at "gx"
      have hx2 := s2 _ _ (s1 _ _ hx)
      refine ⟨x, _, dx, [], rfl, hx2, T.y_GridMap.cl, T.a_GridMap_six, by decide, ?_⟩
      have ne : t2 ≠ x := fun z => by
        subst z
        have := s1 _ _ hx
        rw [ht2] at this
        cases this
      refine q1b (ok_iff.mpr hn) t2 _ ((Kp.of_same (s1.trans s2)).put) upd_same ?_
      refine SqT.of ?_
      rw [upd_ne ne]
      exact g2
theorem mk_good {H : Hp} {m : M6} {Q : VK} {E : XK} (ok : m.Ok) (bd : MBd 100000 m) (q : ∀ v H', Same H H' → GmAt K H' v m → Q v H') : ∀ x dx, H x = none → H dx = none → dx ≠ x →
    sp_GridMap_init K [V.ref x, .int m.a, .int m.b, .int m.c, .int m.d, .int m.e, .int m.f] (upd (upd H dx (.own x)) x (.ins (He.ga K "GridMap") dx [])) (fun v H2 => v = .non ∧ Q (.ref x) H2) E := by
  intro x dx hx hdx hne
  have s0 : Same H (upd (upd H dx (.own x)) x (.ins (He.ga K "GridMap") dx [])) := by
    refine same_new (same_new (Same.refl H) hdx) ?_
    rw [upd_ne hne.symm]; exact hx
  refine ⟨x, dx, _, _, _, _, _, _, rfl, upd_same, ?_, (fun h => ?_), fun m' em => ?_⟩
  · intro v hv
    simp only [List.mem_cons, List.not_mem_nil, or_false] at hv
    rcases hv with rfl | rfl | rfl | rfl | rfl | rfl <;> exact ⟨_, .int _⟩
  · simp [isI] at h
  · have e : m' = m := by
      simp only [M6.vals, List.cons.injEq, and_true, V.int.injEq] at em
      obtain ⟨h1, h2, h3, h4, h5, h6⟩ := em
      cases m; cases m'
      simp only at *
      subst h1 h2 h3 h4 h5 h6
      rfl
    subst e
    refine ⟨bd, fun _ t H' k h1 h2 => ⟨rfl, ?_⟩, fun h => absurd ok h⟩
    exact q _ _ (same_kp s0 hx k) ⟨x, dx, t, rfl, h1, h2⟩
theorem mk_map {H : Hp} {m : M6} {R : Addr → Hp → Prop} {E : XK} (ok : m.Ok) (bd : MBd 100000 m) (q : ∀ x H', Same H H' → GmAt K H' (.ref x) m → R x H') : ∀ x dx, H x = none → H dx = none → dx ≠ x →
    sp_GridMap_init K [V.ref x, .int m.a, .int m.b, .int m.c, .int m.d, .int m.e, .int m.f] (upd (upd H dx (.own x)) x (.ins (He.ga K "GridMap") dx [])) (fun v H2 => v = .non ∧ R x H2) E := by
  intro x dx hx hdx hne
  have h := mk_good (K := K) (H := H) (Q := fun v H2 => ∀ y, v = .ref y → R y H2) (E := E) ok bd (fun v H' s h => fun y e => by subst e; exact q y H' s h) x dx hx hdx hne
  obtain ⟨x', dx', v1, v2, v3, v4, v5, v6, e, hx', hk, q2, q1⟩ := h
  refine ⟨x', dx', v1, v2, v3, v4, v5, v6, e, hx', hk, q2, fun m' em => ?_⟩
  obtain ⟨b, q3, q4⟩ := q1 m' em
  exact ⟨b, fun o t H' k h1 h2 => ⟨(q3 o t H' k h1 h2).1, (q3 o t H' k h1 h2).2 x rfl⟩, q4⟩
/-! #### GridMap.__eq__ -/
def sp_GridMap_eq (K : PySem.W.Frag) : Sp := fun vs H Q _ => ∃ (v u : V) (m : M6), vs = [v, u] ∧ GmAt K H v m ∧ ((∃ n, GmAt K H u n ∧ Q (.bl (decide (m = n))) H) ∨ (∃ k, Kd K H u k ∧ Q (.bl false) H))
theorem ok_GridMap_eq (T : Tx K mg) : FnOk P w K mg base CX0 1 (He.ma K (He.ga K "GridMap") "__eq__") (fdOf K (He.ma K (He.ga K "GridMap") "__eq__")) ["self", "other"] (sp_GridMap_eq K) := by
  refine T.d_GridMap_eq.ok sc_GridMap_eq (fun vs H Q E h => ?_) (fun cdv A outer s H vs Q E hr h => ?_)
  · obtain ⟨v, u, m, rfl, _⟩ := h
    rfl
  · obtain ⟨v, u, m, rfl, hv, h⟩ := h
    obtain ⟨a, dx, t, rfl, ha, ht⟩ := hv.of
    refine ⟨_, PSs.nox (pss_one (ps_ret (pe_and (pe_callB (kIsi (K := K)) (by rfl) T.n_isinstance (by decide +kernel) (pa_cons (pv 1) (pa_cons (pe_glob (v := .ref (He.ga K "GridMap")) rfl T.g_GridMap rfl) pa_nil))) (pe_one (pe_cmpR (kEqD (K := K) hr.units) (kFld (K := K) (pe_fld (pv 0) rfl)) (kFld (K := K) (pe_fld (pv 1) rfl)) (nomark _)))))), ?_⟩
    rcases h with ⟨n, hu, q⟩ | ⟨k, hu, q⟩
    · obtain ⟨b, dy, t2, rfl, hb, ht2⟩ := hu.of
      walk_at "gx"
      refine r_isi (.own _) (T.y_GridMap.ty hb) T.i_GridMap ?_
      walk_at "gx"
      refine iteT ?_
      walk_at "gx"
      refine r_fldAt ha T.y_GridMap.cl T.a_GridMap_six rfl ?_
      walk_at "gx"
      refine r_fldAt hb T.y_GridMap.cl T.a_GridMap_six rfl ?_
      refine r_eqH (hd_six ht) (hd_six ht2) ?_
      rw [dec_nums]
      exact q
    · walk_at "gx"
      refine r_isi (.own _) hu.ty (T.j_GridMap _ hu.mem) ?_
      walk_at "gx"
      exact q
def RGm (K : PySem.W.Frag) (a b : Addr) (H : Hp) : Prop := ∃ m, GmAt K H (.ref a) m ∧ GmAt K H (.ref b) m
abbrev EqvGm (K : PySem.W.Frag) : Eqv := DIns (He.ga K "GridMap") (RGm K)
theorem mon_GridMap : Mon (EqvGm K) := mon_ins fun a b H H' e ⟨m, h1, h2⟩ => ⟨m, h1.same e, h2.same e⟩
theorem imp_GridMap (vs : List V) (H : Hp) (Q : VK) (E : XK) (h : spEq (RGm K) vs H Q E) : sp_GridMap_eq K vs H Q E := by
  obtain ⟨a, b, rfl, ⟨m, h1, h2⟩, q⟩ := h
  refine ⟨_, _, m, rfl, h1, .inl ⟨m, h2, ?_⟩⟩
  rw [decide_eq_true rfl]; exact q H (Same.refl H)
theorem eqv_gm {H : Hp} {u v : V} {m : M6} (h1 : GmAt K H u m) (h2 : GmAt K H v m) : EqvGm K u v H := by
  obtain ⟨a, dx, t, rfl, ha, ht⟩ := h1.of
  obtain ⟨b, dy, t2, rfl, hb, ht2⟩ := h2.of
  exact ⟨a, b, dx, dy, _, _, rfl, rfl, ha, hb, m, h1, h2⟩
/-! #### GridMap.__repr__ -/
def textM (m : M6) : Str := ("GridMap(" : Str) ++ toString m.a ++ ", " ++ toString m.b ++ ", " ++ toString m.c ++ ", " ++ toString m.d ++ ", " ++ toString m.e ++ ", " ++ toString m.f ++ ")"
def sp_GridMap_repr (K : PySem.W.Frag) : Sp := fun vs H Q _ => ∃ (v : V) (m : M6), vs = [v] ∧ GmAt K H v m ∧ MBd 1000 m ∧ Q (.str (textM m)) H
theorem ok_GridMap_repr (T : Tx K mg) : FnOk P w K mg base CX0 1 (He.ma K (He.ga K "GridMap") "__repr__") (fdOf K (He.ma K (He.ga K "GridMap") "__repr__")) ["self"] (sp_GridMap_repr K) := by
  refine T.d_GridMap_repr.ok sc_GridMap_repr (fun vs H Q E h => ?_) (fun cdv A outer s H vs Q E hr h => ?_)
  · obtain ⟨v, m, rfl, _⟩ := h
    rfl
  · obtain ⟨v, m, rfl, ⟨a, dx, t, rfl, ha, ht⟩, ⟨b1, b2, b3, b4, b5, b6⟩, q⟩ := h
    refine ⟨_, PSs.nox (pss_cons (ps_asg (kFld (K := K) (pe_fld (pv 0) rfl)) (kpgTup (K := K) (n := 6) rfl (pgs_cons (pg_name (i := 1) sc_GridMap_repr.nd rfl (Or.inl rfl)) (pgs_cons (pg_name (i := 2) sc_GridMap_repr.nd rfl (Or.inl rfl)) (pgs_cons (pg_name (i := 3) sc_GridMap_repr.nd rfl (Or.inl rfl)) (pgs_cons (pg_name (i := 4) sc_GridMap_repr.nd rfl (Or.inl rfl)) (pgs_cons (pg_name (i := 5) sc_GridMap_repr.nd rfl (Or.inl rfl)) (pgs_cons (pg_name (i := 6) sc_GridMap_repr.nd rfl (Or.inl rfl)) pgs_nil))))))))
      (pss_one (ps_ret (pe_fstr (.cons pe_str (.cons (pe_fmt (pv 1)) (.cons pe_str (.cons (pe_fmt (pv 2)) (.cons pe_str (.cons (pe_fmt (pv 3)) (.cons pe_str (.cons (pe_fmt (pv 4)) (.cons pe_str (.cons (pe_fmt (pv 5)) (.cons pe_str (.cons (pe_fmt (pv 6)) (.cons pe_str .nil))))))))))))))))), ?_⟩
    walk_at "gx"
    refine r_fldAt ha T.y_GridMap.cl T.a_GridMap_six rfl ?_
    refine r_gtup ht ?_
    unfold M6.vals
    walk_at "gx"
    have l1 := txt_len (by decide) b1
    have l2 := txt_len (by decide) b2
    have l3 := txt_len (by decide) b3
    have l4 := txt_len (by decide) b4
    have l5 := txt_len (by decide) b5
    have l6 := txt_len (by decide) b6
    have z1 : (Str.ofString "GridMap(").length = 8 := by decide +kernel
    have z2 : (Str.ofString ", ").length = 2 := by decide +kernel
    have z3 : (Str.ofString ")").length = 1 := by decide +kernel
    have zl : sizeLine = 16777216 := rfl
    have ll := @Str.length_append
    have lg : ∀ {n : Int}, Bd 1000 n → n.natAbs.log2 < 1920 := fun h => Nat.lt_trans (log_lt (by decide) h) (by decide)
    refine r_joined ?_
    rw [show tJs _ Str.empty = tJs _ Str.empty from rfl]
    refine r_jLit (by rw [str_e, z1, zl]; decide) ?_
    rw [str_e]
    refine r_jInt rfl (lg b1) (by simp only [ll]; omega) ?_
    refine r_jLit (by simp only [ll]; omega) ?_
    refine r_jInt rfl (lg b2) (by simp only [ll]; omega) ?_
    refine r_jLit (by simp only [ll]; omega) ?_
    refine r_jInt rfl (lg b3) (by simp only [ll]; omega) ?_
    refine r_jLit (by simp only [ll]; omega) ?_
    refine r_jInt rfl (lg b4) (by simp only [ll]; omega) ?_
    refine r_jLit (by simp only [ll]; omega) ?_
    refine r_jInt rfl (lg b5) (by simp only [ll]; omega) ?_
    refine r_jLit (by simp only [ll]; omega) ?_
    refine r_jInt rfl (lg b6) (by simp only [ll]; omega) ?_
    refine r_jLit (by simp only [ll]; omega) ?_
    exact r_jNil q
/-! #### GridMap.identity -/
def sp_GridMap_identity (K : PySem.W.Frag) : Sp := fun vs H Q _ => vs = [.ref (He.ga K "GridMap")] ∧ ∀ v H', Same H H' → GmAt K H' v M6.one → Q v H'
theorem ok_GridMap_identity (T : Tx K mg) : FnOk P w K mg base CX0 5 (He5.wf K (He.ga K "GridMap") "classmethod" "identity") (fdOf K (He5.wf K (He.ga K "GridMap") "classmethod" "identity")) ["cls"] (sp_GridMap_identity K) := by
  refine T.d_GridMap_identity.ok sc_GridMap_identity (fun vs H Q E h => ?_) (fun cdv A outer s H vs Q E hr h => ?_)
  · obtain ⟨rfl, _⟩ := h
    rfl
  · obtain ⟨rfl, q⟩ := h
    refine ⟨_, PSs.nox (pss_one (ps_ret (pe_makeL (i := 0) T.k_GridMap (FnOk.raw (ok_GridMap_init T) (bd2_GridMap_init T).choose_spec.2 (bd2_GridMap_init T).choose_spec.1) (hr.mono (by decide)) rfl (Or.inl rfl) (passAll passL) (pa_cons pe_int (pa_cons pe_int (pa_cons pe_int (pa_cons pe_int pa_nil))))))), ?_⟩
    walk_at "gx"
    exact mk_good M6.ok_one bd_one q
/-! #### GridMap.shift -/
def sp_GridMap_shift (K : PySem.W.Frag) : Sp := fun vs H Q E => ∃ (u : V), vs = [u] ∧ ((PtB K H u false ∧ ∀ H', Same H H' → E (.ref (He.ga K "InvalidPoint")) none H') ∨
  (∃ p : Int × Int, Hd K H u p ∧ PBd 100000 p ∧ ∀ r H', Same H H' → GmAt K H' (.ref r) ⟨1, 0, 0, 1, p.1, p.2⟩ → Q (.ref r) H'))
theorem ok_GridMap_shift (T : Tx K mg) : FnOk P w K mg base (L2.CX P w) 5 (He5.wf K (He.ga K "GridMap") "staticmethod" "shift") (fdOf K (He5.wf K (He.ga K "GridMap") "staticmethod" "shift")) ["point"] (sp_GridMap_shift K) := by
  refine T.d_GridMap_shift.ok sc_GridMap_shift (fun vs H Q E h => ?_) (fun cdv A outer s H vs Q E hr h => ?_)
  · obtain ⟨u, rfl, _⟩ := h
    rfl
  · obtain ⟨u, rfl, h⟩ := h
    refine ⟨_, (pss_cons (ps_expr (pe_call (ok_check_point T) (hr.mono (by decide)) rfl T.g_check_point T.d_check_point.kp (bn_check_point T) .nil (passes_call (takes_of rfl rfl rfl rfl) (fun _ _ _ _ h => h)) (pa_cons (pv 0) pa_nil)))
      (pss_one (ps_ret (pe_makeA T.k_GridMap (FnOk.raw (ok_GridMap_init T) (bd0_GridMap_init T).choose_spec.2 (bd0_GridMap_init T).choose_spec.1) (hr.mono (by decide)) rfl T.g_GridMap (passAll (passes_call (takes_of rfl rfl rfl rfl) (fun _ _ _ _ h => h))) (pa_cons pe_int (pa_cons pe_int (pa_cons pe_int (pa_cons pe_int (pa_cons (pe_ix (kIxT (K := K)) (pv 0) pe_int (fun _ _ => rfl)) (pa_cons (pe_ix (kIxT (K := K)) (pv 0) pe_int (fun _ _ => rfl)) pa_nil)))))))))), ?_⟩
    walk_at "gx"
    rcases h with ⟨hb, q⟩ | ⟨p, hp, bp, q⟩
    · exact ⟨u, _, rfl, hb, (fun z => nomatch z), fun _ H' s => q H' s⟩
    · refine ⟨u, _, rfl, .yes p hp, fun _ H1 s1 => ?_, fun z => nomatch z⟩
      obtain ⟨a, rfl, hsq⟩ := (hp.same s1).pt_of
      walk_at "gx"
      have bd : MBd 100000 ⟨1, 0, 0, 1, p.1, p.2⟩ := ⟨show (1 : Int).natAbs < 2 ^ 100000 from Nat.lt_of_lt_of_le (show 1 < 2 ^ 1 by decide) (Nat.pow_le_pow_right (by decide) (by decide)), Nat.two_pow_pos _, Nat.two_pow_pos _, show (1 : Int).natAbs < 2 ^ 100000 from Nat.lt_of_lt_of_le (show 1 < 2 ^ 1 by decide) (Nat.pow_le_pow_right (by decide) (by decide)), bp.1, bp.2⟩
      exact mk_map (m := ⟨1, 0, 0, 1, p.1, p.2⟩) (.inl (by show (1 : Int) * 1 - 0 * 0 = 1; decide)) bd fun x H2 s2 hx => q x H2 (s1.trans s2) hx
/-! #### GridMap.numbers -/
def sp_GridMap_numbers (K : PySem.W.Frag) : Sp := fun vs H Q _ => ∃ (v : V) (m : M6), vs = [v] ∧ GmAt K H v m ∧ ∀ t, SqT K H t m.vals → Q (.ref t) H
theorem ok_GridMap_numbers (T : Tx K mg) : FnOk P w K mg base CX0 1 (He5.wf K (He.ga K "GridMap") "property" "numbers") (fdOf K (He5.wf K (He.ga K "GridMap") "property" "numbers")) ["self"] (sp_GridMap_numbers K) := by
  refine T.d_GridMap_numbers.ok sc_GridMap_numbers (fun vs H Q E h => ?_) (fun cdv A outer s H vs Q E hr h => ?_)
  · obtain ⟨v, m, rfl, _⟩ := h
    rfl
  · obtain ⟨v, m, rfl, hv, q⟩ := h
    obtain ⟨a, dx, t, rfl, ha, ht⟩ := hv.of
    refine ⟨_, PSs.nox (pss_one (ps_ret (kFld (K := K) (pe_fld (pv 0) rfl)))), ?_⟩
    walk_at "gx"
    refine r_fldAt ha T.y_GridMap.cl T.a_GridMap_six rfl ?_
    exact q _ ht
/-! #### GridMap.determinant -/
def sp_GridMap_determinant (K : PySem.W.Frag) : Sp := fun vs H Q _ => ∃ (v : V) (m : M6), vs = [v] ∧ GmAt K H v m ∧ MBd 100000 m ∧ Q (.int m.det) H
theorem ok_GridMap_determinant (T : Tx K mg) : FnOk P w K mg base CX0 1 (He5.wf K (He.ga K "GridMap") "property" "determinant") (fdOf K (He5.wf K (He.ga K "GridMap") "property" "determinant")) ["self"] (sp_GridMap_determinant K) := by
  refine T.d_GridMap_determinant.ok sc_GridMap_determinant (fun vs H Q E h => ?_) (fun cdv A outer s H vs Q E hr h => ?_)
  · obtain ⟨v, m, rfl, _⟩ := h
    rfl
  · obtain ⟨v, m, rfl, hv, bd, q⟩ := h
    obtain ⟨a, dx, t, rfl, ha, ht⟩ := hv.of
    obtain ⟨b1, b2, b3, b4, b5, b6⟩ := bd
    refine ⟨_, PSs.nox (pss_cons (ps_asg (kFld (K := K) (pe_fld (pv 0) rfl)) (kpgTup (K := K) (n := 6) rfl (pgs_cons (pg_name (i := 1) sc_GridMap_determinant.nd rfl (Or.inl rfl)) (pgs_cons (pg_name (i := 2) sc_GridMap_determinant.nd rfl (Or.inl rfl)) (pgs_cons (pg_name (i := 3) sc_GridMap_determinant.nd rfl (Or.inl rfl)) (pgs_cons (pg_name (i := 4) sc_GridMap_determinant.nd rfl (Or.inl rfl)) (pgs_cons (pg_name (i := 5) sc_GridMap_determinant.nd rfl (Or.inl rfl)) (pgs_cons (pg_name (i := 6) sc_GridMap_determinant.nd rfl (Or.inl rfl)) pgs_nil))))))))
      (pss_one (ps_ret (pe_op op_sub (pe_op op_mulA (pv 1) (pv 4)) (pe_op op_mulA (pv 2) (pv 3)))))), ?_⟩
    walk_at "gx"
    refine r_fldAt ha T.y_GridMap.cl T.a_GridMap_six rfl ?_
    walk_at "gx"
    refine r_I (b1.ok b4) ?_
    walk_at "gx"
    refine r_I (b2.ok b3) ?_
    walk_at "gx"
    exact q
/-! #### GridMap.is_proper -/
def sp_GridMap_is_proper (K : PySem.W.Frag) : Sp := fun vs H Q _ => ∃ (v : V) (m : M6), vs = [v] ∧ GmAt K H v m ∧ MBd 100000 m ∧ Q (.bl (decide (m.det = 1))) H
theorem ok_GridMap_is_proper (T : Tx K mg) : FnOk P w K mg base CX0 3 (He5.wf K (He.ga K "GridMap") "property" "is_proper") (fdOf K (He5.wf K (He.ga K "GridMap") "property" "is_proper")) ["self"] (sp_GridMap_is_proper K) := by
  refine T.d_GridMap_is_proper.ok sc_GridMap_is_proper (fun vs H Q E h => ?_) (fun cdv A outer s H vs Q E hr h => ?_)
  · obtain ⟨v, m, rfl, _⟩ := h
    rfl
  · obtain ⟨v, m, rfl, hv, bd, q⟩ := h
    obtain ⟨a, dx, t, rfl, ha, ht⟩ := hv.of
    refine ⟨_, PSs.nox (pss_one (ps_ret (pe_cmpR op_eq (pe_prop (pv 0) T.y_GridMap.cl T.m_GridMap_determinant (ok_GridMap_determinant T) (hr.mono (by decide)) (bn_GridMap_determinant T) .nil pass0 rfl) pe_int (nomark _)))), ?_⟩
    walk_at "gx"
    refine ⟨a, dx, _, rfl, ha, ?_⟩
    refine ⟨_, m, rfl, hv, bd, ?_⟩
    walk_at "gx"
    exact q
/-! #### GridMap.image -/
def sp_GridMap_image (K : PySem.W.Frag) : Sp := fun vs H Q _ => ∃ (v u : V) (m : M6) (p : Int × Int), vs = [v, u] ∧ GmAt K H v m ∧ Hd K H u p ∧ MBd 100000 m ∧ PBd 100000 p ∧ ∀ r H', Same H H' → Hd K H' r (m.img p) → Q r H'
theorem ok_GridMap_image (T : Tx K mg) : FnOk P w K mg base CX0 1 (He.ma K (He.ga K "GridMap") "image") (fdOf K (He.ma K (He.ga K "GridMap") "image")) ["self", "point"] (sp_GridMap_image K) := by
  refine T.d_GridMap_image.ok sc_GridMap_image (fun vs H Q E h => ?_) (fun cdv A outer s H vs Q E hr h => ?_)
  · obtain ⟨v, u, m, p, rfl, _⟩ := h
    rfl
  · obtain ⟨v, u, m, p, rfl, hv, hu, bd, bp, q⟩ := h
    obtain ⟨a, dx, t, rfl, ha, ht⟩ := hv.of
    obtain ⟨a2, rfl, ha2⟩ := hu.pt_of
    obtain ⟨b1, b2, b3, b4, b5, b6⟩ := bd
    refine ⟨_, PSs.nox (pss_cons (ps_asg (kFld (K := K) (pe_fld (pv 0) rfl)) (kpgTup (K := K) (n := 6) rfl (pgs_cons (pg_name (i := 2) sc_GridMap_image.nd rfl (Or.inl rfl)) (pgs_cons (pg_name (i := 3) sc_GridMap_image.nd rfl (Or.inl rfl)) (pgs_cons (pg_name (i := 4) sc_GridMap_image.nd rfl (Or.inl rfl)) (pgs_cons (pg_name (i := 5) sc_GridMap_image.nd rfl (Or.inl rfl)) (pgs_cons (pg_name (i := 6) sc_GridMap_image.nd rfl (Or.inl rfl)) (pgs_cons (pg_name (i := 7) sc_GridMap_image.nd rfl (Or.inl rfl)) pgs_nil))))))))
      (pss_one (ps_ret (pe_tup (pa_cons (pe_op op_add (pe_op op_add (pe_op op_mulA (pv 2) (pe_ix (kIxT (K := K)) (pv 1) pe_int (fun _ _ => rfl))) (pe_op op_mulA (pv 3) (pe_ix (kIxT (K := K)) (pv 1) pe_int (fun _ _ => rfl)))) (pv 6)) (pa_cons (pe_op op_add (pe_op op_add (pe_op op_mulA (pv 4) (pe_ix (kIxT (K := K)) (pv 1) pe_int (fun _ _ => rfl))) (pe_op op_mulA (pv 5) (pe_ix (kIxT (K := K)) (pv 1) pe_int (fun _ _ => rfl)))) (pv 7)) pa_nil)))))), ?_⟩
    walk_at "gx"
    refine r_fldAt ha T.y_GridMap.cl T.a_GridMap_six rfl ?_
    walk_at "gx"
    refine r_I (b1.ok bp.1) ?_
    walk_at "gx"
    refine r_I (b2.ok bp.2) ?_
    walk_at "gx"
    refine r_I (b3.ok bp.1) ?_
    walk_at "gx"
    refine r_I (b4.ok bp.2) ?_
    walk_at "gx"
    refine r_new fun t2 ht2 => ?_
    generalize e2 : upd H t2 _ = H2
    obtain ⟨s2, g2⟩ := fresh ht2 e2
    exact q _ _ s2 (hd_pair (SqT.of g2) hd_int hd_int)
/-! #### GridMap.apply -/
def sp_GridMap_apply (K : PySem.W.Frag) : Sp := fun vs H Q E => ∃ (v u : V) (m : M6), vs = [v, u] ∧ GmAt K H v m ∧ MBd 100000 m ∧ ((PtB K H u false ∧ ∀ H', Same H H' → E (.ref (He.ga K "InvalidPoint")) none H') ∨
  (∃ p : Int × Int, Hd K H u p ∧ PBd 100000 p ∧ ∀ r H', Same H H' → Hd K H' r (m.img p) → Q r H'))
theorem ok_GridMap_apply (T : Tx K mg) : FnOk P w K mg base (L2.CX P w) 4 (He.ma K (He.ga K "GridMap") "apply") (fdOf K (He.ma K (He.ga K "GridMap") "apply")) ["self", "point"] (sp_GridMap_apply K) := by
  refine T.d_GridMap_apply.ok sc_GridMap_apply (fun vs H Q E h => ?_) (fun cdv A outer s H vs Q E hr h => ?_)
  · obtain ⟨v, u, m, rfl, _⟩ := h
    rfl
  · obtain ⟨v, u, m, rfl, hv, bd, h⟩ := h
    refine ⟨_, (pss_cons (ps_expr (pe_call (ok_check_point T) (hr.mono (by decide)) rfl T.g_check_point T.d_check_point.kp (bn_check_point T) .nil (passes_call (takes_of rfl rfl rfl rfl) (fun _ _ _ _ h => h)) (pa_cons (pv 1) pa_nil)))
      (pss_one (ps_ret (pe_methA (pv 0) T.y_GridMap.cl T.m_GridMap_image (FnOk.raw (ok_GridMap_image T) (bn_GridMap_image T) .nil) (hr.mono (by decide)) (passAll pass0) (pa_cons (pv 1) pa_nil))))), ?_⟩
    walk_at "gx"
    rcases h with ⟨hb, q⟩ | ⟨p, hp, bp, q⟩
    · exact ⟨u, false, rfl, hb, (fun eb => nomatch eb), fun eb H1 s1 => q H1 s1⟩
    · refine ⟨u, true, rfl, .yes p hp, fun eb H1 s1 => ?_, fun eb => nomatch eb⟩
      have hv1 := hv.same s1
      obtain ⟨a, dx, t, rfl, ha, ht⟩ := hv1.of
      walk_at "gx"
      refine r_recv ha rfl ?_
      walk_at "gx"
      exact ⟨_, _, m, p, rfl, hv1, hp.same s1, bd, bp, fun r H' s2 hr => q r H' (s1.trans s2) hr⟩
/-! #### _law_draws -/
def sp_law_draws (K : PySem.W.Frag) : Sp := fun vs H Q _ => ∃ (a : Addr) (ns : List Int) (k : Int), vs = [.ref a, .int k] ∧ SqL K H a (ns.map V.int) ∧ ns.length ≤ 63 ∧ 0 ≤ k ∧ k < 2 ^ 40 ∧ ∀ p H', H p = none → Same H H' → DrAt H' p → Q (.ref p) H'
theorem ok_law_draws (T : Tx K mg) : FnOk P w K mg base CX0 1 (He.ga K "_law_draws") (fdOf K (He.ga K "_law_draws")) ["_law_script", "_law_k"] (sp_law_draws K) := by
  refine T.d_law_draws.ok sc_law_draws (fun vs H Q E h => ?_) (fun cdv A outer s H vs Q E hr h => ?_)
  · obtain ⟨a, ns, k, rfl, _⟩ := h
    rfl
  · obtain ⟨a, ns, k, rfl, hS, hlen, hk0, hk1, q⟩ := h
    refine ⟨_, PSs.nox (pss_cons (ps_set (i := 2) sc_law_draws.nd rfl (Or.inl rfl) pe_int)
      (Evl.pss_cut (ps_if (pt_cmpR (kNeD (K := K) hr.units) (pv 0) (pe_lst pa_nil) (nomark _)) (pss_one (ps_set (i := 2) sc_law_draws.nd rfl (Or.inl rfl) (pe_ix (kIxL (K := K)) (pv 0) (pe_op op_mod (pv 1) (pe_callB (kLen (K := K)) (by rfl) T.n_len (by decide +kernel) (pa_cons (pv 0) pa_nil))) (fun _ _ => rfl)))) pss_nil)
      (Evl.pss_cut (ps_if (pt_cmpR op_ge (pv 1) (pe_callB (kLen (K := K)) (by rfl) T.n_len (by decide +kernel) (pa_cons (pv 0) pa_nil)) (nomark _)) (pss_one (ps_set (i := 2) sc_law_draws.nd rfl (Or.inl rfl) (pe_op op_mod (pv 2) pe_int))) pss_nil)
      (pss_cons (ps_set (i := 3) sc_law_draws.nd rfl (Or.inl rfl) (pe_op op_mod (pe_op op_mulA (pe_op op_add (pe_op op_add (pe_op op_mod (pv 2) pe_int) (pe_op op_mulA pe_int (pv 1))) pe_int) pe_int) pe_int))
      (pss_one (ps_ret (pe_lst (pa_cons (pe_op op_mulA (pv 2) (pe_callTy cInt1 (by rfl) T.n_int (by decide +kernel) (pa_cons (pe_cmpR op_ge (pv 2) (pe_op op_pow pe_int pe_int) (nomark _)) pa_nil))) (pa_cons (pv 3) pa_nil))))))))), ?_⟩
    walk_at "gx"
    refine r_cut (fun σ' H' => Same H H' ∧ ∃ c, σ' = [some (.ref a), some (.int k), some (.int c), none]) ?_ ?_
    · walk_at "gx"
      refine r_new fun p0 hp0 => ?_
      have s0 : Same H (upd H p0 (.lst [])) := same_new (Same.refl H) hp0
      have hS0 := s0.seq hS
      refine r_neH (α := List Int) (hd_list hS0 (hds_ints ns)) (hd_list (SqL.of upd_same) hds_nil) ?_
      walk_at "gx"
      refine r_ndec (fun h => ?_) (fun h => ?_)
      · walk_at "gx"
        refine r_lenL hS0 ?_
        have hpos : 0 < ns.length := List.length_pos_iff.mpr h
        rw [List.length_map]
        walk_at "gx"
        refine r_I (by show (0 : Int) < (ns.length : Int); omega) ?_
        have h1 := Int.emod_nonneg k (b := (ns.length : Int)) (by omega)
        have h2 := Int.emod_lt_of_pos k (b := (ns.length : Int)) (by omega)
        obtain ⟨j, hj⟩ : ∃ j : Nat, k % (ns.length : Int) = (j : Int) := ⟨(k % (ns.length : Int)).toNat, by omega⟩
        rw [hj] at h1 h2 ⊢
        have hj' : j < ns.length := by omega
        refine r_ixL hS0 (at_of (j := j) rfl (by rw [List.getElem?_map, List.getElem?_eq_getElem hj']; rfl)) ?_
        walk_at "gx"
        exact ⟨s0, _, rfl⟩
      · walk_at "gx"
        exact ⟨s0, _, rfl⟩
    · rintro σ' H1 ⟨s1, c, rfl⟩
      refine r_cut (fun σ' H' => H1 = H' ∧ ∃ c, σ' = [some (.ref a), some (.int k), some (.int c), none]) ?_ ?_
      · walk_at "gx"
        refine r_lenL (s1.seq hS) ?_
        walk_at "gx"
        refine r_dec (fun h => ?_) (fun h => ?_)
        · walk_at "gx"
          refine r_I (by decide) ?_
          walk_at "gx"
          exact ⟨rfl, _, rfl⟩
        · walk_at "gx"
          exact ⟨rfl, _, rfl⟩
      · rintro σ' H' ⟨rfl, c, rfl⟩
        walk_at "gx"
        refine r_I (by decide) ?_
        walk_at "gx"
        refine r_I (mul_okL (by decide) (by decide)) ?_
        walk_at "gx"
        refine r_I (mul_okR (by decide) (by decide)) ?_
        walk_at "gx"
        refine r_I (by decide) ?_
        walk_at "gx"
        refine r_I ⟨by decide, by decide, by decide⟩ ?_
        walk_at "gx"
        refine r_I (mul_okR (by split <;> decide) (by split <;> decide)) ?_
        walk_at "gx"
        refine r_new fun p hp => ?_
        refine q p _ (s1.free hp) (same_new s1 hp) ⟨_, _, upd_same, ?_, Int.emod_nonneg _ (by decide), Int.emod_lt_of_pos _ (by decide)⟩
        split
        · rename_i hc
          have hc := of_decide_eq_true hc
          rw [Int.mul_one]
          exact Int.le_trans (by decide) hc
        · rw [Int.mul_zero]; decide
/-! #### _law_draw -/
def sp_law_draw : Sp := fun vs H Q _ => ∃ (l : Addr) (n : Int), vs = [.ref l, .int n] ∧ DrAt H l ∧ 0 < n ∧ n < 2 ^ 200 ∧ ∀ d H', 0 ≤ d → d < n → Kp l H H' → DrAt H' l → Q (.int d) H'
theorem ok_law_draw (T : Tx K mg) : FnOk P w K mg base CX0 1 (He.ga K "_law_draw") (fdOf K (He.ga K "_law_draw")) ["_law_draws_here", "_law_upto"] (sp_law_draw) := by
  refine T.d_law_draw.ok sc_law_draw (fun vs H Q E h => ?_) (fun cdv A outer s H vs Q E hr h => ?_)
  · obtain ⟨l, n, rfl, _⟩ := h
    rfl
  · obtain ⟨l, n, rfl, ⟨a, b, hl, ha, hb, hb2⟩, hn, hn2, k⟩ := h
    refine ⟨_, PSs.nox (pss_cons (ps_if (pt_cmpR op_gt (pe_ix (kIxL (K := K)) (pv 0) pe_int (fun _ _ => rfl)) pe_int (nomark _)) (pss_cons (ps_set (i := 2) sc_law_draw.nd rfl (Or.inl rfl) (pe_op op_mod (pe_ix (kIxL (K := K)) (pv 0) pe_int (fun _ _ => rfl)) (pv 1)))
      (pss_cons (ps_asg (pe_op op_fdivW (pe_ix (kIxL (K := K)) (pv 0) pe_int (fun _ _ => rfl)) (pv 1)) (pg_sub (pv 0) pe_int set_list))
      (pss_one (ps_ret (pv 2))))) pss_nil)
      (pss_cons (ps_asg (pe_op op_mod (pe_op op_add (pe_op op_mulA (pe_ix (kIxL (K := K)) (pv 0) pe_int (fun _ _ => rfl)) pe_int) pe_int) pe_int) (pg_sub (pv 0) pe_int set_list))
      (pss_one (ps_ret (pe_op op_mod (pe_op op_fdivW (pe_op op_mod (pe_op op_mulA (pe_ix (kIxL (K := K)) (pv 0) pe_int (fun _ _ => rfl)) (pe_ix (kIxL (K := K)) (pv 0) pe_int (fun _ _ => rfl))) pe_int) pe_int) (pv 1)))))), ?_⟩
    walk_at "gx"
    refine r_dec (fun ha0 => ?_) (fun ha0 => ?_)
    · walk_at "gx"
      refine r_I hn ?_
      walk_at "gx"
      refine r_I (wide_div hn (b := 200) (by omega) (by decide) (by decide)) ?_
      walk_at "gx"
      refine r_setL hl rfl ?_
      walk_at "gx"
      refine k _ _ (Int.emod_nonneg _ (by omega)) (Int.emod_lt_of_pos _ hn) (Kp.refl l H).put ⟨_, _, upd_same, Int.ediv_nonneg ha (by omega), hb, hb2⟩
    · walk_at "gx"
      refine r_I (mul_okL (by omega) (by omega)) ?_
      walk_at "gx"
      refine r_I (by decide) ?_
      walk_at "gx"
      refine r_setL hl rfl ?_
      have h1 := Int.emod_nonneg (b * 48271 + 11) (b := 2147483647) (by decide)
      have h2 := Int.emod_lt_of_pos (b * 48271 + 11) (b := 2147483647) (by decide)
      generalize (b * 48271 + 11) % 2147483647 = c at h1 h2 ⊢
      have hl2 : upd H l (.lst [.int a, .int c]) l = some (.lst [.int a, .int c]) := upd_same
      walk_at "gx"
      refine r_I (mul_okL (by omega) (by omega)) ?_
      walk_at "gx"
      refine r_I (by decide) ?_
      walk_at "gx"
      refine r_I (wide_div (by decide) (b := 200) (by decide) (by decide) (by decide)) ?_
      walk_at "gx"
      refine r_I hn ?_
      refine k _ _ (Int.emod_nonneg _ (by omega)) (Int.emod_lt_of_pos _ hn) (Kp.refl l H).put ⟨_, _, hl2, ha, h1, h2⟩
/-! #### _law_integer -/
def sp_law_integer : Sp := fun vs H Q _ => ∃ l : Addr, vs = [.ref l] ∧ DrAt H l ∧ ∀ z H', -(10 ^ 24) < z → z < 10 ^ 24 → Kp l H H' → DrAt H' l → Q (.int z) H'
theorem pow_eq (a b : Int) (n : Nat) (h : b.toNat = n := by rfl) : a ^ b.toNat = a ^ n := by rw [h]
theorem ok_law_integer (T : Tx K mg) : FnOk P w K mg base CX0 2 (He.ga K "_law_integer") (fdOf K (He.ga K "_law_integer")) ["_law_draws_here"] (sp_law_integer) := by
  refine T.d_law_integer.ok sc_law_integer (fun vs H Q E h => ?_) (fun cdv A outer s H vs Q E hr h => ?_)
  · obtain ⟨l, rfl, _⟩ := h
    rfl
  · obtain ⟨l, rfl, hD, k⟩ := h
    refine ⟨_, PSs.nox (pss_cons (ps_set (i := 1) sc_law_integer.nd rfl (Or.inl rfl) (pe_ix (kIxL (K := K)) (pe_lst (pa_cons pe_int (pa_cons pe_int (pa_cons pe_int (pa_cons (pe_op op_pow pe_int pe_int) (pa_cons (pe_op op_pow pe_int pe_int) pa_nil)))))) (pe_call (ok_law_draw T) (hr.mono (by decide)) rfl T.g_law_draw T.d_law_draw.kp (bn_law_draw T) .nil pass0 (pa_cons (pv 0) (pa_cons pe_int pa_nil))) (fun _ _ => rfl)))
      (pss_cons (ps_set (i := 2) sc_law_integer.nd rfl (Or.inl rfl) (pe_op op_add (pe_op op_mulA (pe_call (ok_law_draw T) (hr.mono (by decide)) rfl T.g_law_draw T.d_law_draw.kp (bn_law_draw T) .nil pass0 (pa_cons (pv 0) (pa_cons (pe_op op_pow pe_int pe_int) pa_nil))) (pe_op op_pow pe_int pe_int)) (pe_call (ok_law_draw T) (hr.mono (by decide)) rfl T.g_law_draw T.d_law_draw.kp (bn_law_draw T) .nil pass0 (pa_cons (pv 0) (pa_cons (pe_op op_pow pe_int pe_int) pa_nil)))))
      (pss_cons (ps_set (i := 3) sc_law_integer.nd rfl (Or.inl rfl) (pe_ix (kIxL (K := K)) (pe_lst (pa_cons (pe_call (ok_law_draw T) (hr.mono (by decide)) rfl T.g_law_draw T.d_law_draw.kp (bn_law_draw T) .nil pass0 (pa_cons (pv 0) (pa_cons (pe_op op_pow pe_int pe_int) pa_nil))) (pa_cons (pv 2) pa_nil))) (pe_callTy cInt1 (by rfl) T.n_int (by decide +kernel) (pa_cons (pe_cmpR op_eq (pv 1) (pe_op op_pow pe_int pe_int) (nomark _)) pa_nil)) (fun _ _ => rfl)))
      (pss_one (ps_ret (pe_op op_mulA (pe_op op_mod (pv 3) (pv 1)) (pe_ix (kIxL (K := K)) (pe_lst (pa_cons pe_int (pa_cons (pe_un un_neg pe_int) pa_nil))) (pe_call (ok_law_draw T) (hr.mono (by decide)) rfl T.g_law_draw T.d_law_draw.kp (bn_law_draw T) .nil pass0 (pa_cons (pv 0) (pa_cons pe_int pa_nil))) (fun _ _ => rfl)))))))), ?_⟩
    walk_at "gx"
    refine r_I ⟨by decide, by decide, by decide⟩ ?_
    walk_at "gx"
    refine r_I ⟨by decide, by decide, by decide⟩ ?_
    walk_at "gx"
    refine r_new fun p hp => ?_
    walk_at "gx"
    refine ⟨l, 5, rfl, hD.new hp, by decide, by decide, fun d H1 hd0 hd1 k1 D1 => ?_⟩
    have hpl : p ≠ l := hD.ne hp
    refine r_pickI [7, 7, 1001, 10 ^ 9, 10 ^ 24] (SqL.of (k1 _ _ hpl upd_same)) hd0 (by exact hd1) fun sz hsz => ?_
    have K1 : Kp l H H1 := ((Kp.refl l H).new hp).trans k1
    have hs0 : 0 < sz ∧ sz ≤ 10 ^ 24 := by
      simp only [List.mem_cons, List.not_mem_nil, or_false] at hsz
      omega
    walk_at "gx"
    refine r_I ⟨by decide, by decide, by decide⟩ ?_
    walk_at "gx"
    refine ⟨l, _, rfl, D1, by decide, by decide, fun d2 H2 hd20 hd21 k2 D2 => ?_⟩
    walk_at "gx"
    refine r_I ⟨by decide, by decide, by decide⟩ ?_
    have hd21 : d2 < 10 ^ 9 := hd21
    refine r_I (mul_okL (by omega) (by omega)) ?_
    walk_at "gx"
    refine r_I ⟨by decide, by decide, by decide⟩ ?_
    walk_at "gx"
    refine ⟨l, _, rfl, D2, by decide, by decide, fun d3 H3 hd30 hd31 k3 D3 => ?_⟩
    have hd31 : d3 < 10 ^ 9 := hd31
    walk_at "gx"
    refine r_I ⟨by decide, by decide, by decide⟩ ?_
    walk_at "gx"
    refine ⟨l, _, rfl, D3, by decide, by decide, fun d4 H4 hd40 hd41 k4 D4 => ?_⟩
    walk_at "gx"
    refine r_new fun p2 hp2 => ?_
    walk_at "gx"
    refine r_I ⟨by decide, by decide, by decide⟩ ?_
    walk_at "gx"
    refine r_pickI [d4, d2 * 10 ^ 15 + d3] (SqL.of upd_same) (by split <;> decide) (by show _ < (2 : Int); split <;> decide) fun z hz => ?_
    walk_at "gx"
    refine r_I (by exact hs0.1) ?_
    walk_at "gx"
    refine r_new fun p3 hp3 => ?_
    walk_at "gx"
    have K4 : Kp l H (upd H4 p2 (.lst [.int d4, .int (d2 * 10 ^ 15 + d3)])) := (((K1.trans k2).trans k3).trans k4).new hp2
    have D5 := D4.new (o := .lst [.int d4, .int (d2 * 10 ^ 15 + d3)]) hp2
    refine ⟨l, 2, rfl, D5.new hp3, by decide, by decide, fun d5 H5 hd50 hd51 k5 D5' => ?_⟩
    refine r_pickI [1, -1] (SqL.of (k5 _ _ (D5.ne hp3) upd_same)) hd50 (by exact hd51) fun u hu => ?_
    have hu : u = 1 ∨ u = -1 := by simpa using hu
    have m0 := Int.emod_nonneg z (b := sz) (by omega)
    have m1 := Int.emod_lt_of_pos z hs0.1
    refine r_I (mul_okR (by omega) (by omega)) ?_
    refine k _ _ ?_ ?_ ((K4.new hp3).trans k5) D5'
    · rcases hu with rfl | rfl <;> omega
    · rcases hu with rfl | rfl <;> omega

/-! #### _law_product -/
/-- four integers, held by a tuple -/
structure Q4 where
  a : Int
  b : Int
  c : Int
  d : Int
def Q4.vals (q : Q4) : List V := [.int q.a, .int q.b, .int q.c, .int q.d]
def Q4.det (q : Q4) : Int := q.a * q.d - q.b * q.c
def Q4.Ok (q : Q4) : Prop := q.det = 1 ∨ q.det = -1
def Q4.comp (m n : Q4) : Q4 := ⟨n.a * m.a + n.b * m.c, n.a * m.b + n.b * m.d, n.c * m.a + n.d * m.c, n.c * m.b + n.d * m.d⟩
def QBd (n : Nat) (q : Q4) : Prop := Bd n q.a ∧ Bd n q.b ∧ Bd n q.c ∧ Bd n q.d
theorem QBd.mono {n k : Nat} {q : Q4} (h : QBd n q) (l : n ≤ k) : QBd k q := ⟨h.1.mono l, h.2.1.mono l, h.2.2.1.mono l, h.2.2.2.mono l⟩
theorem QBd.comp {i j : Nat} {m n : Q4} (h : QBd i m) (k : QBd j n) : QBd (i + j + 1) (m.comp n) := by
  obtain ⟨a1, b1, c1, d1⟩ := h
  obtain ⟨a2, b2, c2, d2⟩ := k
  exact ⟨(bd_lin a2 a1 b2 c1).mono (by omega), (bd_lin a2 b1 b2 d1).mono (by omega), (bd_lin c2 a1 d2 c1).mono (by omega), (bd_lin c2 b1 d2 d1).mono (by omega)⟩
theorem Q4.det_comp (m n : Q4) : (m.comp n).det = m.det * n.det := by
  simp only [det, comp]; grind
theorem Q4.ok_comp {m n : Q4} (h : m.Ok) (k : n.Ok) : (m.comp n).Ok := by
  unfold Ok at *
  rw [det_comp]
  rcases h with h | h <;> rcases k with k | k <;> rw [h, k] <;> decide
def sp_law_product (K : PySem.W.Frag) : Sp := fun vs H Q _ => ∃ (x y : Addr) (m n : Q4), vs = [.ref x, .ref y] ∧ SqT K H x m.vals ∧ SqT K H y n.vals ∧ QBd 1000 m ∧ QBd 1000 n ∧ ∀ t H', Same H H' → SqT K H' t (m.comp n).vals → Q (.ref t) H'
theorem ok_law_product (T : Tx K mg) : FnOk P w K mg base CX0 1 (He.ga K "_law_product") (fdOf K (He.ga K "_law_product")) ["_law_first", "_law_second"] (sp_law_product K) := by
  refine T.d_law_product.ok sc_law_product (fun vs H Q E h => ?_) (fun cdv A outer s H vs Q E hr h => ?_)
  · obtain ⟨x, y, m, n, rfl, _⟩ := h
    rfl
  · obtain ⟨x, y, m, n, rfl, hx, hy, ⟨a1, b1, c1, d1⟩, ⟨a2, b2, c2, d2⟩, q⟩ := h
    have hx : SqT K H x [.int m.a, .int m.b, .int m.c, .int m.d] := hx
    have hy : SqT K H y [.int n.a, .int n.b, .int n.c, .int n.d] := hy
    refine ⟨_, PSs.nox (pss_cons (ps_asg (pv 0) (kpgTup (K := K) (n := 4) rfl (pgs_cons (pg_name (i := 2) sc_law_product.nd rfl (Or.inl rfl)) (pgs_cons (pg_name (i := 3) sc_law_product.nd rfl (Or.inl rfl)) (pgs_cons (pg_name (i := 4) sc_law_product.nd rfl (Or.inl rfl)) (pgs_cons (pg_name (i := 5) sc_law_product.nd rfl (Or.inl rfl)) pgs_nil))))))
      (pss_cons (ps_asg (pv 1) (kpgTup (K := K) (n := 4) rfl (pgs_cons (pg_name (i := 6) sc_law_product.nd rfl (Or.inl rfl)) (pgs_cons (pg_name (i := 7) sc_law_product.nd rfl (Or.inl rfl)) (pgs_cons (pg_name (i := 8) sc_law_product.nd rfl (Or.inl rfl)) (pgs_cons (pg_name (i := 9) sc_law_product.nd rfl (Or.inl rfl)) pgs_nil))))))
      (pss_one (ps_ret (pe_tup (pa_cons (pe_op op_add (pe_op op_mulA (pv 6) (pv 2)) (pe_op op_mulA (pv 7) (pv 4))) (pa_cons (pe_op op_add (pe_op op_mulA (pv 6) (pv 3)) (pe_op op_mulA (pv 7) (pv 5))) (pa_cons (pe_op op_add (pe_op op_mulA (pv 8) (pv 2)) (pe_op op_mulA (pv 9) (pv 4))) (pa_cons (pe_op op_add (pe_op op_mulA (pv 8) (pv 3)) (pe_op op_mulA (pv 9) (pv 5))) pa_nil))))))))), ?_⟩
    walk_at "s0"
    walk_at "gs"
    refine r_I (a2.ok a1) ?_
    walk_at "gs"
    refine r_I (b2.ok c1) ?_
    walk_at "gs"
    refine r_I (a2.ok b1) ?_
    walk_at "gs"
    refine r_I (b2.ok d1) ?_
    walk_at "gs"
    refine r_I (c2.ok a1) ?_
    walk_at "gs"
    refine r_I (d2.ok c1) ?_
    walk_at "gs"
    refine r_I (c2.ok b1) ?_
    walk_at "gs"
    refine r_I (d2.ok d1) ?_
    walk_at "gs"
    refine r_new fun t ht => ?_
    generalize e2 : upd H t _ = H2
    obtain ⟨s2, g2⟩ := fresh ht e2
    exact q _ _ s2 (SqT.of g2)
/-! #### _law_numbers -/
def sp_law_numbers (K : PySem.W.Frag) : Sp := fun vs H Q _ => ∃ l : Addr, vs = [.ref l] ∧ DrAt H l ∧ ∀ (t : Addr) (m : M6) (H' : Hp), Kp l H H' → DrAt H' l → SqT K H' t m.vals → m.Ok → MBd 100 m → Q (.ref t) H'
theorem bd_lit' {n : Nat} {i k : Int} (h : -k ≤ i ∧ i ≤ k) (hk : k.toNat < 2 ^ n) : Bd n i := Nat.lt_of_le_of_lt (show i.natAbs ≤ k.toNat by omega) hk
def factorsQ (k : Int) : List Q4 := [⟨1, k, 0, 1⟩, ⟨1, 0, k, 1⟩, ⟨0, -1, 1, 0⟩, ⟨1, 0, 0, -1⟩, ⟨0, 1, 1, 0⟩]
theorem factorsQ_ok {k : Int} (hk : -30 ≤ k ∧ k ≤ 30) : ∀ q ∈ factorsQ k, q.Ok ∧ QBd 5 q := by
  have bk : Bd 5 k := bd_lit' (k := 30) hk (by decide)
  have b0 : Bd 5 0 := by show 0 < 2 ^ 5; decide
  have b1 : Bd 5 1 := by show 1 < 2 ^ 5; decide
  have b2 : Bd 5 (-1) := by show 1 < 2 ^ 5; decide
  intro q hq
  simp only [factorsQ, List.mem_cons, List.not_mem_nil, or_false] at hq
  rcases hq with rfl | rfl | rfl | rfl | rfl
  · exact ⟨.inl (by show 1 * 1 - k * 0 = 1; omega), b1, bk, b0, b1⟩
  · exact ⟨.inl (by show 1 * 1 - 0 * k = 1; omega), b1, b0, bk, b1⟩
  · exact ⟨.inl (by decide), b0, b2, b1, b0⟩
  · exact ⟨.inr (by decide), b1, b0, b0, b2⟩
  · exact ⟨.inr (by decide), b0, b1, b1, b0⟩
theorem ok_law_numbers (T : Tx K mg) : FnOk P w K mg base CX0 2 (He.ga K "_law_numbers") (fdOf K (He.ga K "_law_numbers")) ["_law_draws_here"] (sp_law_numbers K) := by
  refine T.d_law_numbers.ok sc_law_numbers (fun vs H Q E h => ?_) (fun cdv A outer s H vs Q E hr h => ?_)
  · obtain ⟨l, rfl, _⟩ := h
    rfl
  · obtain ⟨l, rfl, D0, q⟩ := h
    refine ⟨_, PSs.nox (pss_cons (ps_set (i := 1) sc_law_numbers.nd rfl (Or.inl rfl) (pe_tup (pa_cons pe_int (pa_cons pe_int (pa_cons pe_int (pa_cons pe_int pa_nil))))))
      (pss_cons (ps_for PassesOwn.never rfl (pi_range1 rfl T.n_range (pa_cons (pe_call (ok_law_draw T) (hr.mono (by decide)) rfl T.g_law_draw T.d_law_draw.kp (bn_law_draw T) .nil pass0 (pa_cons (pv 0) (pa_cons pe_int pa_nil))) pa_nil)) (pg_name (i := 2) sc_law_numbers.nd rfl (Or.inl rfl))
      (pss_cons (ps_set (i := 3) sc_law_numbers.nd rfl (Or.inl rfl) (pe_ix (kIxL (K := K)) (pe_lst (pa_cons (pe_op op_sub (pe_call (ok_law_draw T) (hr.mono (by decide)) rfl T.g_law_draw T.d_law_draw.kp (bn_law_draw T) .nil pass0 (pa_cons (pv 0) (pa_cons pe_int pa_nil))) pe_int) (pa_cons (pe_op op_sub (pe_call (ok_law_draw T) (hr.mono (by decide)) rfl T.g_law_draw T.d_law_draw.kp (bn_law_draw T) .nil pass0 (pa_cons (pv 0) (pa_cons pe_int pa_nil))) pe_int) pa_nil))) (pe_call (ok_law_draw T) (hr.mono (by decide)) rfl T.g_law_draw T.d_law_draw.kp (bn_law_draw T) .nil pass0 (pa_cons (pv 0) (pa_cons pe_int pa_nil))) (fun _ _ => rfl)))
      (pss_cons (ps_set (i := 4) sc_law_numbers.nd rfl (Or.inl rfl) (pe_lst (pa_cons (pe_tup (pa_cons pe_int (pa_cons (pv 3) (pa_cons pe_int (pa_cons pe_int pa_nil))))) (pa_cons (pe_tup (pa_cons pe_int (pa_cons pe_int (pa_cons (pv 3) (pa_cons pe_int pa_nil))))) (pa_cons (pe_tup (pa_cons pe_int (pa_cons (pe_un un_neg pe_int) (pa_cons pe_int (pa_cons pe_int pa_nil))))) (pa_cons (pe_tup (pa_cons pe_int (pa_cons pe_int (pa_cons pe_int (pa_cons (pe_un un_neg pe_int) pa_nil))))) (pa_cons (pe_tup (pa_cons pe_int (pa_cons pe_int (pa_cons pe_int (pa_cons pe_int pa_nil))))) pa_nil)))))))
      (pss_one (ps_set (i := 1) sc_law_numbers.nd rfl (Or.inl rfl) (pe_call (ok_law_product T) (hr.mono (by decide)) rfl T.g_law_product T.d_law_product.kp (bn_law_product T) .nil pass0 (pa_cons (pv 1) (pa_cons (pe_ix (kIxL (K := K)) (pv 4) (pe_call (ok_law_draw T) (hr.mono (by decide)) rfl T.g_law_draw T.d_law_draw.kp (bn_law_draw T) .nil pass0 (pa_cons (pv 0) (pa_cons pe_int pa_nil))) (fun _ _ => rfl)) pa_nil))))))))
      (pss_cons (ps_set (i := 5) sc_law_numbers.nd rfl (Or.inl rfl) (pe_lst (pa_cons (pe_op op_sub (pe_call (ok_law_draw T) (hr.mono (by decide)) rfl T.g_law_draw T.d_law_draw.kp (bn_law_draw T) .nil pass0 (pa_cons (pv 0) (pa_cons pe_int pa_nil))) pe_int) (pa_cons (pe_op op_mulA (pe_call (ok_law_draw T) (hr.mono (by decide)) rfl T.g_law_draw T.d_law_draw.kp (bn_law_draw T) .nil pass0 (pa_cons (pv 0) (pa_cons (pe_op op_pow pe_int pe_int) pa_nil))) (pe_op op_pow pe_int pe_int)) (pa_cons (pe_op op_sub pe_int (pe_call (ok_law_draw T) (hr.mono (by decide)) rfl T.g_law_draw T.d_law_draw.kp (bn_law_draw T) .nil pass0 (pa_cons (pv 0) (pa_cons (pe_op op_pow pe_int pe_int) pa_nil)))) pa_nil)))))
      (pss_one (ps_ret (pe_op (kCatT (K := K)) (pv 1) (pe_tup (pa_cons (pe_ix (kIxL (K := K)) (pv 5) (pe_call (ok_law_draw T) (hr.mono (by decide)) rfl T.g_law_draw T.d_law_draw.kp (bn_law_draw T) .nil pass0 (pa_cons (pv 0) (pa_cons pe_int pa_nil))) (fun _ _ => rfl)) (pa_cons (pe_ix (kIxL (K := K)) (pv 5) (pe_call (ok_law_draw T) (hr.mono (by decide)) rfl T.g_law_draw T.d_law_draw.kp (bn_law_draw T) .nil pass0 (pa_cons (pv 0) (pa_cons pe_int pa_nil))) (fun _ _ => rfl)) pa_nil))))))))), ?_⟩
    walk_at "gx"
    refine r_new fun t0 ht0 => ?_
    generalize e0 : upd H t0 _ = H0
    obtain ⟨s0, g0⟩ := fresh ht0 e0
    have K0 : Kp l H H0 := Kp.of_same s0
    have D0 := D0.same s0
    walk_at "gx"
    refine ⟨l, 5, rfl, D0, by decide, by decide, fun d H1 hd0 hd1 k1 D1 => ?_⟩
    have K1 := K0.trans k1
    have S1 := sqT_dr (K := K) (SqT.of g0) k1 D0
    walk_at "gx"
    refine loopR1 (by omega) (fun i σ' H' => Kp l H H' ∧ DrAt H' l ∧ ∃ (t : Addr) (m : Q4) (o2 o3 o4 : Option V), σ' = [some (.ref l), some (.ref t), o2, o3, o4, none] ∧ SqT K H' t m.vals ∧ m.Ok ∧ QBd (2 + 7 * i) m) ⟨K1, D1, t0, ⟨1, 0, 0, 1⟩, _, _, _, rfl, S1, .inl rfl, by unfold QBd Bd; decide⟩ ?_ ?_
    · clear K1 D1 S1 K0 D0 g0 s0 k1 e0
      rintro i σ' H1 hi ⟨K1, D1, t, m, o2, o3, o4, rfl, S1, om, bm⟩
      walk_at "gx"
      refine ⟨l, 7, rfl, D1, by decide, by decide, fun d1 H2 h10 h11 k2 D2 => ?_⟩
      have K2 := K1.trans k2
      have S2 := sqT_dr S1 k2 D1
      walk_at "gx"
      refine ⟨l, 61, rfl, D2, by decide, by decide, fun d2 H3 h20 h21 k3 D3 => ?_⟩
      have K3 := K2.trans k3
      have S3 := sqT_dr S2 k3 D2
      walk_at "gx"
      refine r_new fun p4 hp4 => ?_
      generalize e4 : upd H3 p4 _ = H4
      obtain ⟨s4, g4⟩ := fresh hp4 e4
      have K4 := K3.same s4
      have S4 := sqT_same s4 S3
      have D4 := D3.same s4
      have ne4 : p4 ≠ l := D3.ne hp4
      walk_at "gx"
      refine ⟨l, 2, rfl, D4, by decide, by decide, fun d3 H5 h30 h31 k5 D5 => ?_⟩
      have K5 := K4.trans k5
      have S5 := sqT_dr S4 k5 D4
      refine r_pickI [d1 - 3, d2 - 30] (SqL.of (k5 _ _ ne4 g4)) h30 (by exact h31) fun k hk => ?_
      have hk : -30 ≤ k ∧ k ≤ 30 := by
        simp only [List.mem_cons, List.not_mem_nil, or_false] at hk
        omega
      clear K1 K2 K3 K4 S1 S2 S3 S4 D1 D2 D3 D4 k2 k3 k5 g4 s4 e4
      walk_at "gx"
      refine r_new fun a6 ha6 => ?_
      generalize e6 : upd H5 a6 _ = H6
      obtain ⟨s6, g6⟩ := fresh ha6 e6
      walk_at "gx"
      refine r_new fun a7 ha7 => ?_
      generalize e7 : upd H6 a7 _ = H7
      obtain ⟨s7, g7⟩ := fresh ha7 e7
      walk_at "gx"
      refine r_new fun a8 ha8 => ?_
      generalize e8 : upd H7 a8 _ = H8
      obtain ⟨s8, g8⟩ := fresh ha8 e8
      walk_at "gx"
      refine r_new fun a9 ha9 => ?_
      generalize e9 : upd H8 a9 _ = H9
      obtain ⟨s9, g9⟩ := fresh ha9 e9
      walk_at "gx"
      refine r_new fun a10 ha10 => ?_
      generalize e10 : upd H9 a10 _ = H10
      obtain ⟨s10, g10⟩ := fresh ha10 e10
      walk_at "gx"
      refine r_new fun a11 ha11 => ?_
      generalize e11 : upd H10 a11 _ = H11
      obtain ⟨s11, g11⟩ := fresh ha11 e11
      have S67 := s10.trans s11
      have S57 := s9.trans S67
      have S47 := s8.trans S57
      have S37 := s7.trans S47
      have S27 := s6.trans S37
      have K11 := K5.same S27
      have D11 := D5.same S27
      have S11 := sqT_same S27 S5
      have hfa : ∀ v ∈ [V.ref a6, .ref a7, .ref a8, .ref a9, .ref a10], ∃ (a : Addr) (n : Q4), v = .ref a ∧ n ∈ factorsQ k ∧ SqT K H11 a n.vals := by
        intro v hv
        simp only [List.mem_cons, List.not_mem_nil, or_false] at hv
        rcases hv with rfl | rfl | rfl | rfl | rfl
        · exact ⟨_, ⟨1, k, 0, 1⟩, rfl, by simp [factorsQ], SqT.of (S37 _ _ g6)⟩
        · exact ⟨_, ⟨1, 0, k, 1⟩, rfl, by simp [factorsQ], SqT.of (S47 _ _ g7)⟩
        · exact ⟨_, ⟨0, -1, 1, 0⟩, rfl, by simp [factorsQ], SqT.of (S57 _ _ g8)⟩
        · exact ⟨_, ⟨1, 0, 0, -1⟩, rfl, by simp [factorsQ], SqT.of (S67 _ _ g9)⟩
        · exact ⟨_, ⟨0, 1, 1, 0⟩, rfl, by simp [factorsQ], SqT.of (s11 _ _ g10)⟩
      have ne11 : a11 ≠ l := (D5.same ((((s6.trans s7).trans s8).trans s9).trans s10)).ne ha11
      clear S67 S57 S47 S37 S27 g6 g7 g8 g9 g10 e6 e7 e8 e9 e10 e11 s6 s7 s8 s9 s10 s11 K5 D5 S5
      have hfl : [V.ref a6, .ref a7, .ref a8, .ref a9, .ref a10].length = 5 := rfl
      generalize [V.ref a6, .ref a7, .ref a8, .ref a9, .ref a10] = fl at hfa g11 hfl
      walk_at "gx"
      refine ⟨l, 5, rfl, D11, by decide, by decide, fun d4 H12 h40 h41 k12 D12 => ?_⟩
      have K12 := K11.trans k12
      have S12 := sqT_dr S11 k12 D11
      refine r_pick (SqL.of (k12 _ _ ne11 g11)) h40 (by rw [hfl]; exact h41) fun v hv => ?_
      obtain ⟨a, n, rfl, hn, hS⟩ := hfa v hv
      obtain ⟨on, bn⟩ := factorsQ_ok hk n hn
      walk_at "gx"
      refine ⟨t, a, m, n, rfl, S12, sqT_dr hS k12 D11, bm.mono (by omega), bn.mono (by decide), fun t2 H13 s13 hS13 => ?_⟩
      walk_at "gx"
      exact ⟨K12.same s13, D12.same s13, t2, _, _, _, _, rfl, hS13, Q4.ok_comp om on, (bm.comp bn).mono (by omega)⟩
    · rintro σ' H2 ⟨K2, D2, t, m, o2, o3, o4, rfl, S2, om, bm⟩
      have bm : QBd 40 m := bm.mono (by omega)
      clear K1 D1 S1 K0 D0 g0 s0 k1 e0
      walk_at "gx"
      refine ⟨l, 21, rfl, D2, by decide, by decide, fun d1 H3 h10 h11 k3 D3 => ?_⟩
      have K3 := K2.trans k3
      have S3 := sqT_dr S2 k3 D2
      walk_at "gx"
      refine r_I ⟨by decide, by decide, by decide⟩ ?_
      walk_at "gx"
      refine ⟨l, _, rfl, D3, by decide, by decide, fun d2 H4 h20 h21 k4 D4 => ?_⟩
      have h21 : d2 < 10 ^ 9 := h21
      have K4 := K3.trans k4
      have S4 := sqT_dr S3 k4 D3
      walk_at "gx"
      refine r_I ⟨by decide, by decide, by decide⟩ ?_
      refine r_I (mul_okL (by omega) (by omega)) ?_
      walk_at "gx"
      refine r_I ⟨by decide, by decide, by decide⟩ ?_
      walk_at "gx"
      refine ⟨l, _, rfl, D4, by decide, by decide, fun d3 H5 h30 h31 k5 D5 => ?_⟩
      have h31 : d3 < 10 ^ 9 := h31
      have K5 := K4.trans k5
      have S5 := sqT_dr S4 k5 D4
      walk_at "gx"
      refine r_new fun a6 ha6 => ?_
      have ne6 : a6 ≠ l := D5.ne ha6
      generalize e6 : upd H5 a6 _ = H6
      obtain ⟨s6, g6⟩ := fresh ha6 e6
      have K6 := K5.same s6
      have S6 := sqT_same s6 S5
      have D6 := D5.same s6
      have hb : ∀ z ∈ [d1 - 10, d2 * 10 ^ 9, 0 - d3], Bd 100 z := by
        intro z hz
        simp only [List.mem_cons, List.not_mem_nil, or_false] at hz
        exact bd_lit' (k := 10 ^ 18) (by omega) (by decide)
      generalize hns : [d1 - 10, d2 * 10 ^ 9, 0 - d3] = ns at hb
      have g6 : H6 a6 = some (.lst (ns.map V.int)) := by rw [← hns]; exact g6
      have hl3 : ns.length = 3 := by rw [← hns]; rfl
      walk_at "gx"
      refine ⟨l, 3, rfl, D6, by decide, by decide, fun d4 H7 h40 h41 k7 D7 => ?_⟩
      have g7 := k7 _ _ ne6 g6
      have K7 := K6.trans k7
      have S7 := sqT_dr S6 k7 D6
      refine r_pickI ns (SqL.of g7) h40 (by rw [hl3]; exact h41) fun z1 hz1 => ?_
      walk_at "gx"
      refine ⟨l, 3, rfl, D7, by decide, by decide, fun d5 H8 h50 h51 k8 D8 => ?_⟩
      have g8 := k8 _ _ ne6 g7
      have K8 := K7.trans k8
      have S8 := sqT_dr S7 k8 D7
      refine r_pickI ns (SqL.of g8) h50 (by rw [hl3]; exact h51) fun z2 hz2 => ?_
      walk_at "gx"
      refine r_new fun a9 ha9 => ?_
      generalize e9 : upd H8 a9 _ = H9
      obtain ⟨s9, g9⟩ := fresh ha9 e9
      refine r_catA (sqT_same s9 S8) (SqT.of g9) (by show 4 + 2 ≤ 1000; decide) fun p H10 s10 hS10 => ?_
      exact q p ⟨m.a, m.b, m.c, m.d, z1, z2⟩ H10 ((K8.same s9).same s10) ((D8.same s9).same s10) hS10 om ⟨bm.1.mono (by decide), bm.2.1.mono (by decide), bm.2.2.1.mono (by decide), bm.2.2.2.mono (by decide), hb _ hz1, hb _ hz2⟩
/-! #### _law_image -/
def sp_law_image (K : PySem.W.Frag) : Sp := fun vs H Q _ => ∃ (x : Addr) (u : V) (m : M6) (p : Int × Int), vs = [.ref x, u] ∧ SqT K H x m.vals ∧ Hd K H u p ∧ MBd 100000 m ∧ PBd 100000 p ∧ ∀ r H', Same H H' → Hd K H' r (m.img p) → Q r H'
theorem ok_law_image (T : Tx K mg) : FnOk P w K mg base CX0 1 (He.ga K "_law_image") (fdOf K (He.ga K "_law_image")) ["_law_numbers_here", "_law_point"] (sp_law_image K) := by
  refine T.d_law_image.ok sc_law_image (fun vs H Q E h => ?_) (fun cdv A outer s H vs Q E hr h => ?_)
  · obtain ⟨x, u, m, p, rfl, _⟩ := h
    rfl
  · obtain ⟨x, u, m, p, rfl, hx, hu, bd, bp, q⟩ := h
    have hx : SqT K H x [.int m.a, .int m.b, .int m.c, .int m.d, .int m.e, .int m.f] := hx
    obtain ⟨a2, rfl, ha2⟩ := hu.pt_of
    obtain ⟨b1, b2, b3, b4, b5, b6⟩ := bd
    refine ⟨_, PSs.nox (pss_cons (ps_asg (pv 0) (kpgTup (K := K) (n := 6) rfl (pgs_cons (pg_name (i := 2) sc_law_image.nd rfl (Or.inl rfl)) (pgs_cons (pg_name (i := 3) sc_law_image.nd rfl (Or.inl rfl)) (pgs_cons (pg_name (i := 4) sc_law_image.nd rfl (Or.inl rfl)) (pgs_cons (pg_name (i := 5) sc_law_image.nd rfl (Or.inl rfl)) (pgs_cons (pg_name (i := 6) sc_law_image.nd rfl (Or.inl rfl)) (pgs_cons (pg_name (i := 7) sc_law_image.nd rfl (Or.inl rfl)) pgs_nil))))))))
      (pss_one (ps_ret (pe_tup (pa_cons (pe_op op_add (pe_op op_add (pe_op op_mulA (pv 2) (pe_ix (kIxT (K := K)) (pv 1) pe_int (fun _ _ => rfl))) (pe_op op_mulA (pv 3) (pe_ix (kIxT (K := K)) (pv 1) pe_int (fun _ _ => rfl)))) (pv 6)) (pa_cons (pe_op op_add (pe_op op_add (pe_op op_mulA (pv 4) (pe_ix (kIxT (K := K)) (pv 1) pe_int (fun _ _ => rfl))) (pe_op op_mulA (pv 5) (pe_ix (kIxT (K := K)) (pv 1) pe_int (fun _ _ => rfl)))) (pv 7)) pa_nil)))))), ?_⟩
    walk_at "s0"
    walk_at "gs"
    refine r_I (b1.ok bp.1) ?_
    walk_at "gs"
    refine r_I (b2.ok bp.2) ?_
    walk_at "gs"
    refine r_I (b3.ok bp.1) ?_
    walk_at "gs"
    refine r_I (b4.ok bp.2) ?_
    walk_at "gs"
    refine r_new fun t2 ht2 => ?_
    generalize e2 : upd H t2 _ = H2
    obtain ⟨s2, g2⟩ := fresh ht2 e2
    exact q _ _ s2 (hd_pair (SqT.of g2) hd_int hd_int)
/-! #### _law_error -/
def sp_law_error (K : PySem.W.Frag) : Sp := fun vs H Q _ => ∃ (a : Addr) (v1 v2 v3 v4 v5 v6 : V), vs = [.ref a] ∧ SqT K H a [v1, v2, v3, v4, v5, v6] ∧ (∀ v ∈ [v1, v2, v3, v4, v5, v6], ∃ n, Kd K H v n) ∧
  ([v1, v2, v3, v4, v5, v6].all isI = false → ∀ H', Same H H' → Q (.str "integer") H') ∧
  ∀ m : M6, [v1, v2, v3, v4, v5, v6] = m.vals → MBd 100000 m ∧ (m.Ok → ∀ H', Same H H' → Q (.str "none") H') ∧ (¬ m.Ok → ∀ H', Same H H' → Q (.str "map") H')
theorem ok_law_error (T : Tx K mg) : FnOk P w K mg base CX0 5 (He.ga K "_law_error") (fdOf K (He.ga K "_law_error")) ["_law_numbers_here"] (sp_law_error K) := by
  refine T.d_law_error.ok sc_law_error (fun vs H Q E h => ?_) (fun cdv A outer s H vs Q E hr h => ?_)
  · obtain ⟨a, v1, v2, v3, v4, v5, v6, rfl, _⟩ := h
    rfl
  · obtain ⟨a, v1, v2, v3, v4, v5, v6, rfl, hq, hk, q2, q1⟩ := h
    refine ⟨_, PSs.nox (pss_cons (ps_try_many rfl rfl takes0 (fun W pn xe tk pn_own => (pss_one (ps_expr (pe_makeA T.k_GridMap (FnOk.raw (ok_GridMap_init T) (bd0_GridMap_init T).choose_spec.2 (bd0_GridMap_init T).choose_spec.1) (hr.mono (by decide)) rfl T.g_GridMap (fun σ => passAt tk σ) (pa_cons (pe_ix (kIxT (K := K)) (pv 0) pe_int (fun _ _ => rfl)) (pa_cons (pe_ix (kIxT (K := K)) (pv 0) pe_int (fun _ _ => rfl)) (pa_cons (pe_ix (kIxT (K := K)) (pv 0) pe_int (fun _ _ => rfl)) (pa_cons (pe_ix (kIxT (K := K)) (pv 0) pe_int (fun _ _ => rfl)) (pa_cons (pe_ix (kIxT (K := K)) (pv 0) pe_int (fun _ _ => rfl)) (pa_cons (pe_ix (kIxT (K := K)) (pv 0) pe_int (fun _ _ => rfl)) pa_nil)))))))))) (.cons ⟨rfl, by decide, .inl T.g_InvalidInteger⟩ (fun a oe cls d pn hz hf => (pss_one (ps_ret pe_str))) (.cons ⟨rfl, by decide, .inl T.g_InvalidMap⟩ (fun a oe cls d pn hz hf => (pss_one (ps_ret pe_str))) .nil)))
      (pss_one (ps_ret pe_str))), ?_⟩
    walk_at "gx"
    intro x dx hx hdx hne
    have s0 : Same H (upd (upd H dx (.own x)) x (.ins (He.ga K "GridMap") dx [])) := by
      refine same_new (same_new (Same.refl H) hdx) ?_
      rw [upd_ne hne.symm]; exact hx
    refine ⟨x, dx, v1, v2, v3, v4, v5, v6, rfl, upd_same, fun v hv => ?_, fun hz H' s => ?_, fun m em => ?_⟩
    · obtain ⟨n, kd⟩ := hk v hv
      exact ⟨n, kd.same s0⟩
    · refine ⟨true, T.m_InvalidInteger_InvalidInteger, fun _ a ha => ?_, fun z => nomatch z⟩
      walk_at "gx"
      exact q2 hz H' (s0.trans s)
    · obtain ⟨bd, c1, c2⟩ := q1 m em
      refine ⟨bd, fun ok t H' k h1 h2 => ⟨rfl, ?_⟩, fun no H' s => ?_⟩
      · walk_at "gx"
        exact c1 ok H' (same_kp s0 hx k)
      · refine ⟨false, T.m_InvalidMap_InvalidInteger, (fun z => nomatch z), fun _ => ⟨true, T.m_InvalidMap_InvalidMap, fun _ a ha => ?_, fun z => nomatch z⟩⟩
        walk_at "gx"
        exact c2 no H' (s0.trans s)
/-! #### _law_no_point -/
theorem r_app6 {H : Hp} {Q : VK} {p : Addr} {xs : List V} {y : V} (h : H p = some (.lst xs)) (hl : xs.length ≤ 100000) (q : Q .non (upd H p (.lst (xs ++ [y])))) : rAppend (.ref p) [y] H Q := ⟨p, xs, y, rfl, rfl, h, Nat.lt_of_le_of_lt hl (by decide), q⟩
theorem ty_lst6 {H : Hp} {p : Addr} {xs : List V} (h : H p = some (.lst xs)) : tyV K "list" (.ref p) H := .inl ⟨rfl, xs, SqL.of h⟩
def sp_law_no_point (K : PySem.W.Frag) : Sp := fun vs H Q _ => ∃ (v u : V) (m : M6), vs = [v, u] ∧ GmAt K H v m ∧ MBd 1000 m ∧ PtB K H u false ∧ ∀ H', Same H H' → Q (.bl true) H'
theorem ok_law_no_point (T : Tx K mg) : FnOk P w K mg base CX0 6 (He.ga K "_law_no_point") (fdOf K (He.ga K "_law_no_point")) ["_law_grid", "_law_value"] (sp_law_no_point K) := by
  refine T.d_law_no_point.ok sc_law_no_point (fun vs H Q E h => ?_) (fun cdv A outer s H vs Q E hr h => ?_)
  · obtain ⟨v, u, m, rfl, _⟩ := h
    rfl
  · obtain ⟨v, u, m, rfl, hm, hb, hu, q⟩ := h
    refine ⟨_, PSs.nox (pss_cons (ps_set (i := 2) sc_law_no_point.nd rfl (Or.inl rfl) (pe_lst pa_nil))
      (pss_cons (ps_for PassesOwn.never rfl (pi_range1 rfl T.n_range (pa_cons pe_int pa_nil)) (pg_name (i := 3) sc_law_no_point.nd rfl (Or.inl rfl))
      (pss_one (ps_try_only rfl rfl ⟨rfl, by decide, .inl T.g_InvalidPoint⟩ takes0 (fun W pn xe tk pn_own => (pss_one (ps_if (pt_cmpR op_eq (pv 3) pe_int (nomark _)) (pss_one (ps_expr (pe_methA (pv 0) T.y_GridMap.cl T.m_GridMap_apply (FnOk.raw (ok_GridMap_apply T) (bn_GridMap_apply T) .nil) (hr.mono (by decide)) (fun σ => passAt tk σ) (pa_cons (pv 1) pa_nil)))) (pss_one (ps_expr (pe_smeth (C := He.ga K "GridMap") (pe_glob (v := .ref (He.ga K "GridMap")) rfl T.g_GridMap rfl) T.cr_GridMap T.m_GridMap_shift (FnOk.raw (ok_GridMap_shift T) (bn_GridMap_shift T) .nil) (hr.mono (by decide)) (fun σ => passAt tk σ) (pa_cons (pv 1) pa_nil))))))) (fun a oe cls d pn hz hf => (pss_one (ps_expr (kBM (K := K) (pe_bm PySem.F.plainAttrs_list PySem.F.slot_list_append PySem.F.type_list_append mt_append (pv 2) (pa_cons (pv 3) pa_nil)))))))))
      (pss_one (ps_ret (pe_cmpR (kEqD (K := K) hr.units) (pv 2) (pe_lst (pa_cons pe_int (pa_cons pe_int pa_nil))) (nomark _)))))), ?_⟩
    walk_at "gx"
    refine r_new fun p hp => ?_
    generalize e1 : upd H p _ = H1
    obtain ⟨s1, g1⟩ := fresh hp e1
    walk_at "gx"
    refine loopR1 (by decide) (fun i σ' H' => Same H H' ∧ H' p = some (.lst ((List.range i).map fun j : Nat => V.int (j : Int))) ∧ ∃ o, σ' = [some v, some u, some (.ref p), o]) ⟨s1, g1, _, rfl⟩ ?_ ?_
    · rintro i σ' H2 hi ⟨S2, G2, o, rfl⟩
      have hm2 := hm.same S2
      have hu2 := hu.same S2
      obtain ⟨a, dx, t, rfl, ha, ht⟩ := id hm2
      have fin : ∀ H3, Same H2 H3 → Same H (upd H3 p (.lst ((List.range i).map (fun j : Nat => V.int (j : Int)) ++ [.int (i : Int)]))) ∧ (upd H3 p (.lst ((List.range i).map (fun j : Nat => V.int (j : Int)) ++ [.int (i : Int)]))) p = some (.lst ((List.range (i + 1)).map fun j : Nat => V.int (j : Int))) := fun H3 s3 => by
        refine ⟨same_kp (S2.trans s3) hp ((Kp.of_same (Same.refl _)).put), ?_⟩
        rw [upd_same, List.range_succ, List.map_append]; rfl
      have ln : ((List.range i).map fun j : Nat => V.int (j : Int)).length ≤ 100000 := by rw [List.length_map, List.length_range]; omega
      walk_at "gx"
      refine r_dec (fun e => ?_) (fun e => ?_)
      · walk_at "gx"
        refine ⟨a, dx, _, rfl, ha, rfl, ?_⟩
        walk_at "gx"
        refine ⟨_, _, m, rfl, hm2, hb.mono (by decide), .inl ⟨hu2, fun H3 s3 => ?_⟩⟩
        refine ⟨true, T.m_InvalidPoint_InvalidPoint, fun _ a' ha' => ?_, fun z => nomatch z⟩
        walk_at "gx"
        refine ⟨.ref p, rfl, ty_lst6 (s3 _ _ G2), ?_⟩
        walk_at "gx"
        refine r_app6 (s3 _ _ G2) ln ?_
        exact ⟨(fin H3 s3).1, (fin H3 s3).2, _, rfl⟩
      · walk_at "gx"
        refine r_smeth ?_
        walk_at "gx"
        refine ⟨rfl, ?_⟩
        walk_at "gx"
        refine ⟨u, rfl, .inl ⟨hu2, fun H3 s3 => ?_⟩⟩
        refine ⟨true, T.m_InvalidPoint_InvalidPoint, fun _ a' ha' => ?_, fun z => nomatch z⟩
        walk_at "gx"
        refine ⟨.ref p, rfl, ty_lst6 (s3 _ _ G2), ?_⟩
        walk_at "gx"
        refine r_app6 (s3 _ _ G2) ln ?_
        exact ⟨(fin H3 s3).1, (fin H3 s3).2, _, rfl⟩
    · rintro σ' H2 ⟨S2, G2, o, rfl⟩
      walk_at "gx"
      refine r_new fun p3 hp3 => ?_
      generalize e3 : upd H2 p3 _ = H3
      obtain ⟨s3, g3⟩ := fresh hp3 e3
      refine r_eqH (α := List Int) (hd_list (SqL.of (s3 _ _ G2)) (hds_ints [0, 1])) (hd_list (SqL.of g3) (hds_ints [0, 1])) ?_
      exact q H3 (S2.trans s3)
/-! #### _law_right -/
theorem if_ff6 {A B : Prop} (q : B) : if false = true then A else B := by rw [if_neg (by decide)]; exact q
theorem r_makeN {C : Addr} {n m : Nat} {sp : Sp} {gV : List V → List V → List V} {E : XK} {t tk : TA} {σ : L2.St} {H : Hp} {Q : VK} (q : t σ H fun vs H1 => tk σ H1 fun zs H2 => vs.length = n ∧ zs.length = m ∧
  ∀ x dx, H2 x = none → H2 dx = none → dx ≠ x → sp (gV (.ref x :: vs) zs) (upd (upd H2 dx (.own x)) x (.ins C dx [])) (fun v H3 => v = .non ∧ Q (.ref x) H3) E) : tMakeN C n m sp gV E t tk σ H Q := q
def d6 (m : M6) : PyData := .tuple [.int m.a, .int m.b, .int m.c, .int m.d, .int m.e, .int m.f]
theorem dp6 {H : Hp} {t : Addr} {m : M6} (h : SqT K H t m.vals) : Dp K H (.ref t) (d6 m) := .tup h (.cons (.int _) (.cons (.int _) (.cons (.int _) (.cons (.int _) (.cons (.int _) (.cons (.int _) .nil))))))
theorem shp6 (m : M6) : SeqAt.shaped (d6 m) = true := by
  simp [SeqAt.shaped, d6, PyData.canLay0, PyData.canLayAll0, PyData.depth, PyData.depthAll]
def told6 (m : M6) : PyData := .list [d6 m, .int m.det, .bool (decide (m.det = 1))]
theorem lg6 {n : Int} {k : Nat} (hk : 0 < k) (hl : k ≤ 1920) (h : Bd k n) : n.natAbs.log2 < 1920 := Nat.lt_of_lt_of_le (log_lt hk h) hl
theorem det_bd {m : M6} {k : Nat} (h : MBd k m) : Bd (k + k + 1) m.det := (h.1.mul h.2.2.2.1).sub (h.2.1.mul h.2.2.1)
theorem show6 {m : M6} (h : MBd 100 m) : (d6 m).showable = true ∧ (d6 m).shown.length ≤ 1000 := by
  obtain ⟨b1, b2, b3, b4, b5, b6⟩ := h
  have g1 := lg6 (by decide) (by decide) b1
  have g2 := lg6 (by decide) (by decide) b2
  have g3 := lg6 (by decide) (by decide) b3
  have g4 := lg6 (by decide) (by decide) b4
  have g5 := lg6 (by decide) (by decide) b5
  have g6 := lg6 (by decide) (by decide) b6
  have l1 := txt_len (by decide) b1
  have l2 := txt_len (by decide) b2
  have l3 := txt_len (by decide) b3
  have l4 := txt_len (by decide) b4
  have l5 := txt_len (by decide) b5
  have l6 := txt_len (by decide) b6
  have z1 : (Str.ofString "(").length = 1 := by decide +kernel
  have z2 : (Str.ofString ", ").length = 2 := by decide +kernel
  have z3 : (Str.ofString ")").length = 1 := by decide +kernel
  constructor
  · simp only [d6, PyData.showable, PyData.showableAll, decide_eq_true g1, decide_eq_true g2, decide_eq_true g3, decide_eq_true g4, decide_eq_true g5, decide_eq_true g6]; rfl
  · show (tupleText [Str.ofString (toString m.a), Str.ofString (toString m.b), Str.ofString (toString m.c), Str.ofString (toString m.d), Str.ofString (toString m.e), Str.ofString (toString m.f)]).length ≤ 1000
    show (Str.ofString "(" ++ (Str.ofString (toString m.a) ++ Str.ofString ", " ++ (Str.ofString (toString m.b) ++ Str.ofString ", " ++ (Str.ofString (toString m.c) ++ Str.ofString ", " ++ (Str.ofString (toString m.d) ++ Str.ofString ", " ++ (Str.ofString (toString m.e) ++ Str.ofString ", " ++ Str.ofString (toString m.f)))))) ++ Str.ofString ")").length ≤ 1000
    simp only [Str.length_append]
    omega
theorem text_eq (m : M6) : textM m = Str.ofString "GridMap" ++ (d6 m).shown := by
  have e : Str.ofString "GridMap(" = Str.ofString "GridMap" ++ Str.ofString "(" := by decide +kernel
  show textM m = Str.ofString "GridMap" ++ (Str.ofString "(" ++ (Str.ofString (toString m.a) ++ Str.ofString ", " ++ (Str.ofString (toString m.b) ++ Str.ofString ", " ++ (Str.ofString (toString m.c) ++ Str.ofString ", " ++ (Str.ofString (toString m.d) ++ Str.ofString ", " ++ (Str.ofString (toString m.e) ++ Str.ofString ", " ++ Str.ofString (toString m.f)))))) ++ Str.ofString ")")
  unfold textM
  rw [e]
  simp only [str_assoc]
theorem showT {m : M6} (h : MBd 100 m) : (told6 m).showable = true ∧ (told6 m).shown.length ≤ sizeLine := by
  obtain ⟨s1, l1⟩ := show6 h
  have bd := det_bd h
  have g := lg6 (by decide) (by decide) bd
  have l2 := txt_len (by decide) bd
  have zl : sizeLine = 16777216 := rfl
  have z1 : (Str.ofString "[").length = 1 := by decide +kernel
  have z2 : (Str.ofString ", ").length = 2 := by decide +kernel
  have z3 : (Str.ofString "]").length = 1 := by decide +kernel
  have z4 : (Str.ofString "").length = 0 := by decide +kernel
  have z5 : ∀ b : Bool, (PyData.shown (.bool b)).length ≤ 5 := by intro b; cases b <;> decide +kernel
  constructor
  · show ((d6 m).showable && (decide (m.det.natAbs.log2 < 1920) && (true && true))) = true
    rw [s1, decide_eq_true g]; rfl
  · have z := z5 (decide (m.det = 1))
    show (Str.ofString "[" ++ Str.ofString "" ++ (d6 m).shown ++ Str.ofString ", " ++ Str.ofString (toString m.det) ++ Str.ofString ", " ++ PyData.shown (.bool (decide (m.det = 1))) ++ Str.ofString "]").length ≤ sizeLine
    simp only [Str.length_append]
    omega
def sp_law_right (K : PySem.W.Frag) : Sp := fun vs H Q _ => ∃ (t : Addr) (u : V) (m : M6) (p : Int × Int), vs = [.ref t, u] ∧ SqT K H t m.vals ∧ m.Ok ∧ MBd 100 m ∧ Hd K H u p ∧ PBd 1000 p ∧ ∀ H', Same H H' → Q (.bl true) H'
theorem ok_law_right (T : Tx K mg) : FnQ P w K mg base CX0 7 (He.ga K "_law_right") (fdOf K (He.ga K "_law_right")) ["_law_numbers_here", "_law_point"] (sp_law_right K) := by
  refine FunD.okQ T.d_law_right sc_law_right (fun vs H Q E h => ?_) (fun cdv A outer s H vs Q E hq hr h => ?_)
  · obtain ⟨t, u, m, p, rfl, _⟩ := h
    rfl
  · obtain ⟨t, u, m, p, rfl, ht, om, bm, hu, bp, q⟩ := h
    refine ⟨_, PSs.nox (pss_cons (ps_asg (pv 0) (kpgTup (K := K) (n := 6) rfl (pgs_cons (pg_name (i := 2) sc_law_right.nd rfl (Or.inl rfl)) (pgs_cons (pg_name (i := 3) sc_law_right.nd rfl (Or.inl rfl)) (pgs_cons (pg_name (i := 4) sc_law_right.nd rfl (Or.inl rfl)) (pgs_cons (pg_name (i := 5) sc_law_right.nd rfl (Or.inl rfl)) (pgs_cons (pg_name (i := 6) sc_law_right.nd rfl (Or.inl rfl)) (pgs_cons (pg_name (i := 7) sc_law_right.nd rfl (Or.inl rfl)) pgs_nil))))))))
      (pss_cons (ps_set (i := 8) sc_law_right.nd rfl (Or.inl rfl) (pe_makeA T.k_GridMap (FnOk.raw (ok_GridMap_init T) (bd0_GridMap_init T).choose_spec.2 (bd0_GridMap_init T).choose_spec.1) (hr.mono (by decide)) rfl T.g_GridMap (passAll passL) (pa_cons (pv 2) (pa_cons (pv 3) (pa_cons (pv 4) (pa_cons (pv 5) (pa_cons (pv 6) (pa_cons (pv 7) pa_nil))))))))
      (pss_cons (ps_set (i := 9) sc_law_right.nd rfl (Or.inl rfl) (pe_lst (pa_cons (pe_prop (pv 8) T.y_GridMap.cl T.m_GridMap_numbers (ok_GridMap_numbers T) (hr.mono (by decide)) (bn_GridMap_numbers T) .nil pass0 rfl) (pa_cons (pe_prop (pv 8) T.y_GridMap.cl T.m_GridMap_determinant (ok_GridMap_determinant T) (hr.mono (by decide)) (bn_GridMap_determinant T) .nil pass0 rfl) (pa_cons (pe_prop (pv 8) T.y_GridMap.cl T.m_GridMap_is_proper (ok_GridMap_is_proper T) (hr.mono (by decide)) (bn_GridMap_is_proper T) .nil pass0 rfl) pa_nil)))))
      (pss_cons (ps_if (pt_cmpR op_ne (pe_callB (cReprD (K := K) hq hr.units) (by rfl) T.n_repr (by decide +kernel) (pa_cons (pv 9) pa_nil)) (pe_callB (cReprD (K := K) hq hr.units) (by rfl) T.n_repr (by decide +kernel) (pa_cons (pe_lst (pa_cons (pv 0) (pa_cons (pe_op op_sub (pe_op op_mulA (pv 2) (pv 5)) (pe_op op_mulA (pv 3) (pv 4))) (pa_cons (pe_cmpR op_eq (pe_op op_sub (pe_op op_mulA (pv 2) (pv 5)) (pe_op op_mulA (pv 3) (pv 4))) pe_int (nomark _)) pa_nil)))) pa_nil)) (nomark _)) (pss_one (ps_ret pe_bl)) pss_nil)
      (pss_cons (ps_if (PW.pt (pw_or (pt_cmpR op_ne (pe_callB (cReprO (K := K) (FnOk.q (ok_GridMap_repr T)) hq (hr.mono (by decide)) (bn_GridMap_repr T) pass0) (by rfl) T.n_repr (by decide +kernel) (pa_cons (pv 8) pa_nil)) (pe_op op_add_str pe_str (pe_callB (cReprD (K := K) hq hr.units) (by rfl) T.n_repr (by decide +kernel) (pa_cons (pv 0) pa_nil))) (nomark _)) (pw_or1 (pt_cmpR (kNeD (K := K) hr.units) (pe_methA (pv 8) T.y_GridMap.cl T.m_GridMap_apply (FnOk.raw (ok_GridMap_apply T) (bn_GridMap_apply T) .nil) (hr.mono (by decide)) (passAll passL) (pa_cons (pv 1) pa_nil)) (pe_call (ok_law_image T) (hr.mono (by decide)) rfl T.g_law_image T.d_law_image.kp (bn_law_image T) .nil pass0 (pa_cons (pv 0) (pa_cons (pv 1) pa_nil))) (nomark _))))) (pss_one (ps_ret pe_bl)) pss_nil)
      (pss_cons (ps_if (PW.pt (pw_or (pt_cmpR (op_neO (K := K) T.o_GridMap (ok_GridMap_eq T) (hr.mono (by decide)) (bn_GridMap_eq T) pass0) (pv 8) (pe_makeN T.k_GridMap (ok_GridMap_init T) (hr.mono (by decide)) rfl T.g_GridMap (kb_GridMap_init_f_e T).choose_spec passL (pa_cons (pv 2) (pa_cons (pv 3) (pa_cons (pv 4) (pa_cons (pv 5) pa_nil)))) (pk_cons (pv 7) (pk_cons (pv 6) pk_nil))) (nomark _)) (pw_or (pt_cmpR (op_eqO (K := K) T.o_GridMap (ok_GridMap_eq T) (hr.mono (by decide)) (bn_GridMap_eq T) pass0) (pv 8) (pe_makeA T.k_GridMap (FnOk.raw (ok_GridMap_init T) (bd0_GridMap_init T).choose_spec.2 (bd0_GridMap_init T).choose_spec.1) (hr.mono (by decide)) rfl T.g_GridMap (passAll passL) (pa_cons (pv 2) (pa_cons (pv 3) (pa_cons (pv 4) (pa_cons (pv 5) (pa_cons (pe_op op_add (pv 6) pe_int) (pa_cons (pv 7) pa_nil))))))) (nomark _)) (pw_or1 (pt_cmpR (op_eqO (K := K) T.o_GridMap (ok_GridMap_eq T) (hr.mono (by decide)) (bn_GridMap_eq T) pass0) (pv 8) (pv 0) (nomark _)))))) (pss_one (ps_ret pe_bl)) pss_nil)
      (pss_one (ps_ret (pe_and (pe_cmpR (kEqD (K := K) hr.units) (pe_prop (pe_makeA T.k_GridMap (FnOk.raw (ok_GridMap_init T) (bd2_GridMap_init T).choose_spec.2 (bd2_GridMap_init T).choose_spec.1) (hr.mono (by decide)) rfl T.g_GridMap (passAll passL) (pa_cons (pv 2) (pa_cons (pv 3) (pa_cons (pv 4) (pa_cons (pv 5) pa_nil))))) T.y_GridMap.cl T.m_GridMap_numbers (ok_GridMap_numbers T) (hr.mono (by decide)) (bn_GridMap_numbers T) .nil pass0 rfl) (pe_tup (pa_cons (pv 2) (pa_cons (pv 3) (pa_cons (pv 4) (pa_cons (pv 5) (pa_cons pe_int (pa_cons pe_int pa_nil))))))) (nomark _)) (pe_one (pe_call (ok_law_no_point T) (hr.mono (by decide)) rfl T.g_law_no_point T.d_law_no_point.kp (bn_law_no_point T) .nil pass0 (pa_cons (pv 8) (pa_cons (pe_lst (pa_cons pe_int (pa_cons pe_int pa_nil))) pa_nil))))))))))))), ?_⟩
    walk_at "gx"
    unfold M6.vals
    walk_at "gx"
    refine mk_map om (bm.mono (by decide)) fun x H1 s1 hg => ?_
    obtain ⟨a, dx, t1, ea, ha, ht1⟩ := id hg
    cases ea
    walk_at "gx"
    refine ⟨_, dx, _, rfl, ha, ?_⟩
    refine ⟨_, m, rfl, hg, fun t2 ht2 => ?_⟩
    walk_at "gx"
    refine ⟨_, dx, _, rfl, ha, ?_⟩
    refine ⟨_, m, rfl, hg, bm.mono (by decide), ?_⟩
    walk_at "gx"
    refine ⟨_, dx, _, rfl, ha, ?_⟩
    refine ⟨_, m, rfl, hg, bm.mono (by decide), ?_⟩
    walk_at "gx"
    refine r_new fun p2 hp2 => ?_
    generalize e2 : upd H1 p2 _ = H2
    obtain ⟨s2, g2⟩ := fresh hp2 e2
    walk_at "gx"
    refine r_reprD (d := told6 m) (.lst (SqL.of g2) (.cons (dp6 (sqT_same s2 ht2)) (.cons (.int _) (.cons (.bl _) .nil)))) (showT bm).1 rfl (by show 2 ≤ 60; decide) (showT bm).2 ?_
    walk_at "gx"
    refine r_I (bm.1.ok bm.2.2.2.1) ?_
    walk_at "gx"
    refine r_I (bm.2.1.ok bm.2.2.1) ?_
    walk_at "gx"
    refine r_I (bm.1.ok bm.2.2.2.1) ?_
    walk_at "gx"
    refine r_I (bm.2.1.ok bm.2.2.1) ?_
    walk_at "gx"
    refine r_new fun p3 hp3 => ?_
    generalize e3 : upd H2 p3 _ = H3
    obtain ⟨s3, g3⟩ := fresh hp3 e3
    have s13 := s2.trans s3
    have s03 := s1.trans s13
    walk_at "gx"
    refine r_reprD (d := told6 m) (.lst (SqL.of g3) (.cons (dp6 (sqT_same s03 ht)) (.cons (.int _) (.cons (.bl _) .nil)))) (showT bm).1 rfl (by show 2 ≤ 60; decide) (showT bm).2 ?_
    walk_at "gx"
    refine r_ndec (fun z => absurd rfl z) (fun _ => ?_)
    have hg3 := hg.same s13
    have ha3 := s13 _ _ ha
    walk_at "gx"
    refine r_reprO ha3 T.re_GridMap ⟨_, m, rfl, hg3, bm.mono (by decide), _, rfl, ?_⟩
    walk_at "gx"
    refine r_reprD (dp6 (sqT_same s03 ht)) (show6 bm).1 rfl (by show 1 ≤ 60; decide) (Nat.le_trans (show6 bm).2 (by decide)) ?_
    refine ⟨_, _, rfl, rfl, ?_, ?_⟩
    · have := (show6 bm).2
      have z1 : (Str.ofString "GridMap").length = 7 := by decide +kernel
      have zl : sizeLine = 16777216 := rfl
      omega
    have et := text_eq m
    generalize textM m = z1 at et ⊢
    generalize Str.ofString "GridMap" ++ (d6 m).shown = z2 at et ⊢
    subst et
    walk_at "gx"
    refine r_ndec (fun z => absurd rfl z) (fun _ => ?_)
    walk_at "gx"
    refine ⟨_, dx, _, rfl, ha3, rfl, ?_⟩
    walk_at "gx"
    refine ⟨_, _, m, rfl, hg3, bm.mono (by decide), .inr ⟨p, hu.same s03, ⟨bp.1.mono (by decide), bp.2.mono (by decide)⟩, fun r1 H4 s4 hr1 => ?_⟩⟩
    have s04 := s03.trans s4
    walk_at "gx"
    refine ⟨t, u, m, p, rfl, sqT_same s04 ht, hu.same s04, bm.mono (by decide), ⟨bp.1.mono (by decide), bp.2.mono (by decide)⟩, fun r2 H5 s5 hr2 => ?_⟩
    refine r_neH (α := Int × Int) (hr1.same s5) hr2 ?_
    walk_at "gx"
    refine r_ndec (fun z => absurd rfl z) (fun _ => ?_)
    have s05 := s04.trans s5
    have hg5 := (hg3.same s4).same s5
    have ha5 := s5 _ _ (s4 _ _ ha3)
    walk_at "gx"
    refine r_makeN ?_
    walk_at "gx"
    refine ⟨rfl, rfl, ?_⟩
    refine mk_map om (bm.mono (by decide)) fun x6 H6 s6 hg6 => ?_
    obtain ⟨a6, dx6, t6, ea6, ha6, ht6⟩ := id hg6
    cases ea6
    refine r_neO (s6 _ _ ha5) (T.y_GridMap.ty ha6) T.nf_GridMap ⟨_, _, _, rfl, hg5.same s6, .inl ⟨_, hg6, _, rfl, ?_⟩⟩
    walk_at "gx"
    refine r_ndec (fun z => absurd rfl z) (fun _ => ?_)
    have ha6 := s6 _ _ ha5
    have hg6 := hg5.same s6
    walk_at "gx"
    have om7 : ({ m with e := m.e + 1 } : M6).Ok := om
    have bm7 : MBd 100000 ({ m with e := m.e + 1 } : M6) := ⟨bm.1.mono (by decide), bm.2.1.mono (by decide), bm.2.2.1.mono (by decide), bm.2.2.2.1.mono (by decide), (bm.2.2.2.2.1.add (show Bd 100 1 from Nat.lt_of_lt_of_le (show 1 < 2 ^ 1 by decide) (Nat.pow_le_pow_right (by decide) (by decide)))).mono (by decide), bm.2.2.2.2.2.mono (by decide)⟩
    refine mk_map om7 bm7 fun x7 H7 s7 hg7 => ?_
    obtain ⟨a7, dx7, t7, ea7, ha7, ht7⟩ := id hg7
    cases ea7
    refine r_eqO (s7 _ _ ha6) (T.y_GridMap.ty ha7) T.nf_GridMap ⟨_, _, _, rfl, hg6.same s7, .inl ⟨_, hg7, _, rfl, ?_⟩⟩
    have hne : m ≠ { m with e := m.e + 1 } := fun z => by
      have := congrArg M6.e z
      simp only at this; omega
    rw [decide_eq_false hne]
    walk_at "gx"
    refine if_ff6 ?_
    have s07 := (s05.trans s6).trans s7
    have ha7 := s7 _ _ ha6
    have hg7 := hg6.same s7
    walk_at "gx"
    refine r_eqO ha7 (Kd.tup (sqT_same s07 ht)).ty (T.nk_GridMap _ (Kd.tup (sqT_same s07 ht)).mem) ⟨_, _, _, rfl, hg7, .inr ⟨_, .tup (sqT_same s07 ht), _, rfl, ?_⟩⟩
    walk_at "gx"
    refine if_ff6 ?_
    walk_at "gx"
    have om8 : ({ m with e := 0, f := 0 } : M6).Ok := om
    have bm8 : MBd 100000 ({ m with e := 0, f := 0 } : M6) := ⟨bm.1.mono (by decide), bm.2.1.mono (by decide), bm.2.2.1.mono (by decide), bm.2.2.2.1.mono (by decide), Nat.two_pow_pos _, Nat.two_pow_pos _⟩
    refine mk_map om8 bm8 fun x8 H8 s8 hg8 => ?_
    obtain ⟨a8, dx8, t8, ea8, ha8, ht8⟩ := id hg8
    cases ea8
    walk_at "gx"
    refine ⟨_, dx8, _, rfl, ha8, ?_⟩
    refine ⟨_, _, rfl, hg8, fun t9 ht9 => ?_⟩
    walk_at "gx"
    refine r_new fun p10 hp10 => ?_
    generalize e10 : upd H8 p10 _ = H10
    obtain ⟨s10, g10⟩ := fresh hp10 e10
    refine r_eqD (dp6 (sqT_same s10 ht9)) (dp6 (m := { m with e := 0, f := 0 }) (SqT.of g10)) (shp6 _) (shp6 _) ?_
    rw [SeqAt.eqv_refl _ (SeqAt.canLay_of_shaped (shp6 _))]
    walk_at "gx"
    refine iteT ?_
    walk_at "gx"
    refine r_new fun p11 hp11 => ?_
    generalize e11 : upd H10 p11 _ = H11
    obtain ⟨s11, g11⟩ := fresh hp11 e11
    have s711 := (s8.trans s10).trans s11
    exact ⟨_, _, m, rfl, hg7.same s711, bm.mono (by decide), .kind (.lst (SqL.of g11)) (by decide), fun H12 s12 => q H12 ((s07.trans s711).trans s12)⟩
/-! #### law -/
theorem tup_put (m : M6) {n : Int} (h0 : 0 ≤ n) (h6 : n < 6) (w : V) : ∃ v1 v2 v3 v4 v5 v6, cutV m.vals none (some n) ++ [w] ++ cutV m.vals (some (n + 1)) none = [v1, v2, v3, v4, v5, v6] ∧ (∀ v ∈ [v1, v2, v3, v4, v5, v6], v = w ∨ ∃ i, v = .int i) ∧ w ∈ [v1, v2, v3, v4, v5, v6] := by
  rcases (show n = 0 ∨ n = 1 ∨ n = 2 ∨ n = 3 ∨ n = 4 ∨ n = 5 by omega) with rfl | rfl | rfl | rfl | rfl | rfl <;> exact ⟨_, _, _, _, _, _, rfl, by simp, by simp⟩
theorem tup_int (m : M6) {n : Int} (h0 : 0 ≤ n) (h4 : n < 4) (z : Int) {k : Nat} (bm : MBd k m) (bz : Bd k z) : ∃ m' : M6, cutV m.vals none (some n) ++ [.int z] ++ cutV m.vals (some (n + 1)) none = m'.vals ∧ MBd k m' := by
  obtain ⟨b1, b2, b3, b4, b5, b6⟩ := bm
  rcases (show n = 0 ∨ n = 1 ∨ n = 2 ∨ n = 3 by omega) with rfl | rfl | rfl | rfl
  · exact ⟨{ m with a := z }, rfl, ⟨bz, b2, b3, b4, b5, b6⟩⟩
  · exact ⟨{ m with b := z }, rfl, ⟨b1, bz, b3, b4, b5, b6⟩⟩
  · exact ⟨{ m with c := z }, rfl, ⟨b1, b2, bz, b4, b5, b6⟩⟩
  · exact ⟨{ m with d := z }, rfl, ⟨b1, b2, b3, bz, b5, b6⟩⟩
theorem tup_at (m : M6) {n : Int} (h0 : 0 ≤ n) (h4 : n < 4) {k : Nat} (bm : MBd k m) : ∃ z, atI m.vals n = some (.int z) ∧ Bd k z := by
  obtain ⟨b1, b2, b3, b4, b5, b6⟩ := bm
  rcases (show n = 0 ∨ n = 1 ∨ n = 2 ∨ n = 3 by omega) with rfl | rfl | rfl | rfl
  · exact ⟨_, rfl, b1⟩
  · exact ⟨_, rfl, b2⟩
  · exact ⟨_, rfl, b3⟩
  · exact ⟨_, rfl, b4⟩
theorem bad_all {K : PySem.W.Frag} {H : Hp} {w : V} {n : String} (kd : Kd K H w n) (hw : isI w = false) {l : List V} (h : ∀ v ∈ l, v = w ∨ ∃ i, v = .int i) (hm : w ∈ l) : (∀ v ∈ l, ∃ n, Kd K H v n) ∧ l.all isI = false := by
  refine ⟨fun v hv => ?_, ?_⟩
  · rcases h v hv with rfl | ⟨i, rfl⟩
    · exact ⟨n, kd⟩
    · exact ⟨_, .int i⟩
  · cases e : l.all isI with
    | false => rfl
    | true => rw [List.all_eq_true.mp e w hm] at hw; cases hw
theorem ok_law (T : Tx K mg) : FnQ P w K mg base CX0 8 (He.ga K "law") (fdOf K (He.ga K "law")) ["_law_script"] (sp_law K) := by
  refine FunD.okQ T.d_law sc_law (fun vs H Q E h => ?_) (fun cdv A outer s H vs Q E hq hr h => ?_)
  · obtain ⟨a, ns, rfl, _⟩ := h
    rfl
  · obtain ⟨a, ns, rfl, hS, hlen, q⟩ := h
    refine ⟨_, PSs.nox (pss_cons (ps_if (PW.pt (pw_or (pt_cmpR op_ne (kCVal (K := K) (pe_glob (v := .ref (He.ga K "GridMap")) rfl T.g_GridMap rfl)) pe_int (nomark _)) (pw_or1 (pt_cmpR (kNeD (K := K) hr.units) (pe_prop (pe_cmeth0 (C := He.ga K "GridMap") (pe_glob (v := .ref (He.ga K "GridMap")) rfl T.g_GridMap rfl) T.cr_GridMap T.m_GridMap_identity (FnOk.raw (ok_GridMap_identity T) (bn_GridMap_identity T) .nil) (hr.mono (by decide)) pass0) T.y_GridMap.cl T.m_GridMap_numbers (ok_GridMap_numbers T) (hr.mono (by decide)) (bn_GridMap_numbers T) .nil pass0 rfl) (pe_tup (pa_cons pe_int (pa_cons pe_int (pa_cons pe_int (pa_cons pe_int (pa_cons pe_int (pa_cons pe_int pa_nil))))))) (nomark _))))) (pss_one (ps_ret pe_bl)) pss_nil)
      (pss_cons (ps_for PassesOwn.never rfl (pi_range1 rfl T.n_range (pa_cons (pe_callB (cMax2 rfl) (by rfl) T.n_max (by decide +kernel) (pa_cons pe_int (pa_cons (pe_callB (cMin2 rfl) (by rfl) T.n_min (by decide +kernel) (pa_cons pe_int (pa_cons (pe_callB (kLen (K := K)) (by rfl) T.n_len (by decide +kernel) (pa_cons (pv 0) pa_nil)) pa_nil))) pa_nil))) pa_nil)) (pg_name (i := 1) sc_law.nd rfl (Or.inl rfl))
      (pss_cons (ps_set (i := 2) sc_law.nd rfl (Or.inl rfl) (pe_call (ok_law_draws T) (hr.mono (by decide)) rfl T.g_law_draws T.d_law_draws.kp (bn_law_draws T) .nil pass0 (pa_cons (pv 0) (pa_cons (pv 1) pa_nil))))
      (pss_cons (ps_set (i := 3) sc_law.nd rfl (Or.inl rfl) (pe_call (ok_law_numbers T) (hr.mono (by decide)) rfl T.g_law_numbers T.d_law_numbers.kp (bn_law_numbers T) .nil pass0 (pa_cons (pv 2) pa_nil)))
      (pss_cons (ps_set (i := 4) sc_law.nd rfl (Or.inl rfl) (pe_tup (pa_cons (pe_call (ok_law_integer T) (hr.mono (by decide)) rfl T.g_law_integer T.d_law_integer.kp (bn_law_integer T) .nil pass0 (pa_cons (pv 2) pa_nil)) (pa_cons (pe_call (ok_law_integer T) (hr.mono (by decide)) rfl T.g_law_integer T.d_law_integer.kp (bn_law_integer T) .nil pass0 (pa_cons (pv 2) pa_nil)) pa_nil))))
      (pss_cons (ps_if (PW.pt (pw_or (pt_not (pt_val (pe_callQ (ok_law_right T) hq (hr.mono (by decide)) rfl T.g_law_right T.d_law_right.kp (bn_law_right T) .nil pass0 (pa_cons (pv 3) (pa_cons (pv 4) pa_nil))))) (pw_or1 (pt_cmpR (kNeD (K := K) hr.units) (pe_prop (pe_smeth (C := He.ga K "GridMap") (pe_glob (v := .ref (He.ga K "GridMap")) rfl T.g_GridMap rfl) T.cr_GridMap T.m_GridMap_shift (FnOk.raw (ok_GridMap_shift T) (bn_GridMap_shift T) .nil) (hr.mono (by decide)) (passAll passL) (pa_cons (pv 4) pa_nil)) T.y_GridMap.cl T.m_GridMap_numbers (ok_GridMap_numbers T) (hr.mono (by decide)) (bn_GridMap_numbers T) .nil pass0 rfl) (pe_op (kCatT (K := K)) (pe_tup (pa_cons pe_int (pa_cons pe_int (pa_cons pe_int (pa_cons pe_int pa_nil))))) (pv 4)) (nomark _))))) (pss_one (ps_ret pe_bl)) pss_nil)
      (pss_cons (ps_set (i := 5) sc_law.nd rfl (Or.inl rfl) (pe_call (ok_law_draw T) (hr.mono (by decide)) rfl T.g_law_draw T.d_law_draw.kp (bn_law_draw T) .nil pass0 (pa_cons (pv 2) (pa_cons pe_int pa_nil))))
      (pss_cons (ps_set (i := 6) sc_law.nd rfl (Or.inl rfl) (pe_ix (kIxL (K := K)) (pe_lst (pa_cons pe_non (pa_cons pe_bl (pa_cons pe_str (pa_cons (pe_tup (pa_cons pe_int pa_nil)) pa_nil))))) (pe_call (ok_law_draw T) (hr.mono (by decide)) rfl T.g_law_draw T.d_law_draw.kp (bn_law_draw T) .nil pass0 (pa_cons (pv 2) (pa_cons pe_int pa_nil))) (fun _ _ => rfl)))
      (pss_cons (ps_if (pt_cmpR op_ne (pe_call (ok_law_error T) (hr.mono (by decide)) rfl T.g_law_error T.d_law_error.kp (bn_law_error T) .nil pass0 (pa_cons (pe_op (kCatT (K := K)) (pe_op (kCatT (K := K)) (pe_slice (kSlT (K := K)) (pv 3) po_none (po_some (pv 5))) (pe_tup (pa_cons (pv 6) pa_nil))) (pe_slice (kSlT (K := K)) (pv 3) (po_some (pe_op op_add (pv 5) pe_int)) po_none)) pa_nil)) pe_str (nomark _)) (pss_one (ps_ret pe_bl)) pss_nil)
      (pss_cons (ps_if (pt_cmpR op_ne (pe_call (ok_law_error T) (hr.mono (by decide)) rfl T.g_law_error T.d_law_error.kp (bn_law_error T) .nil pass0 (pa_cons (pe_op (kCatT (K := K)) (pe_tup (pa_cons pe_int (pa_cons pe_int (pa_cons pe_int (pa_cons pe_int pa_nil))))) (pe_tup (pa_cons (pv 6) (pa_cons pe_int pa_nil)))) pa_nil)) pe_str (nomark _)) (pss_one (ps_ret pe_bl)) pss_nil)
      (pss_cons (ps_set (i := 5) sc_law.nd rfl (Or.inl rfl) (pe_op op_mod (pv 5) pe_int))
      (pss_cons (ps_set (i := 7) sc_law.nd rfl (Or.inl rfl) (pe_op op_add (pe_ix (kIxT (K := K)) (pv 3) (pv 5) (fun _ _ => rfl)) (pe_ix (kIxL (K := K)) (pe_lst (pa_cons pe_int (pa_cons (pe_un un_neg pe_int) (pa_cons pe_int pa_nil)))) (pe_call (ok_law_draw T) (hr.mono (by decide)) rfl T.g_law_draw T.d_law_draw.kp (bn_law_draw T) .nil pass0 (pa_cons (pv 2) (pa_cons pe_int pa_nil))) (fun _ _ => rfl))))
      (pss_cons (ps_set (i := 8) sc_law.nd rfl (Or.inl rfl) (pe_op (kCatT (K := K)) (pe_op (kCatT (K := K)) (pe_slice (kSlT (K := K)) (pv 3) po_none (po_some (pv 5))) (pe_tup (pa_cons (pv 7) pa_nil))) (pe_slice (kSlT (K := K)) (pv 3) (po_some (pe_op op_add (pv 5) pe_int)) po_none)))
      (pss_cons (ps_set (i := 9) sc_law.nd rfl (Or.inl rfl) (pe_cmpR op_eq (pe_callB cAbs (by rfl) T.n_abs (by decide +kernel) (pa_cons (pe_op op_sub (pe_op op_mulA (pe_ix (kIxT (K := K)) (pv 8) pe_int (fun _ _ => rfl)) (pe_ix (kIxT (K := K)) (pv 8) pe_int (fun _ _ => rfl))) (pe_op op_mulA (pe_ix (kIxT (K := K)) (pv 8) pe_int (fun _ _ => rfl)) (pe_ix (kIxT (K := K)) (pv 8) pe_int (fun _ _ => rfl)))) pa_nil)) pe_int (nomark _)))
      (pss_one (ps_if (pt_cmpR op_ne (pe_call (ok_law_error T) (hr.mono (by decide)) rfl T.g_law_error T.d_law_error.kp (bn_law_error T) .nil pass0 (pa_cons (pv 8) pa_nil)) (pe_ix (kIxL (K := K)) (pe_lst (pa_cons pe_str (pa_cons pe_str pa_nil))) (pe_callTy cInt1 (by rfl) T.n_int (by decide +kernel) (pa_cons (pv 9) pa_nil)) (fun _ _ => rfl)) (nomark _)) (pss_one (ps_ret pe_bl)) pss_nil)))))))))))))))
      (pss_one (ps_ret pe_bl)))), ?_⟩
    walk_at "gx"
    refine ⟨_, _, _, _, rfl, T.cr_GridMap, T.cv_GridMap_MAX_ORDER.choose_spec, ?_⟩
    walk_at "gx"
    refine r_ndec (fun z => absurd rfl z) (fun _ => ?_)
    walk_at "gx"
    refine ⟨rfl, rfl, fun v H1 s1 hv => ?_⟩
    obtain ⟨a1, dx1, t1, rfl, ha1, ht1⟩ := id hv
    refine ⟨_, dx1, _, rfl, ha1, ?_⟩
    refine ⟨_, M6.one, rfl, hv, fun t2 ht2 => ?_⟩
    walk_at "gx"
    refine r_new fun p3 hp3 => ?_
    generalize e3 : upd H1 p3 _ = H3
    obtain ⟨s3, g3⟩ := fresh hp3 e3
    refine r_neD (dp6 (sqT_same s3 ht2)) (dp6 (m := M6.one) (SqT.of g3)) (shp6 _) (shp6 _) ?_
    rw [SeqAt.eqv_refl _ (SeqAt.canLay_of_shaped (shp6 _))]
    walk_at "gx"
    refine if_ff6 ?_
    walk_at "gx"
    refine r_lenL ((s1.trans s3).seq hS) ?_
    rw [List.length_map]
    walk_at "gx"
    refine loopR1 (by omega) (fun i σ' H' => Same H H' ∧ ∃ o1 o2 o3 o4 o5 o6 o7 o8 o9, σ' = [some (.ref a), o1, o2, o3, o4, o5, o6, o7, o8, o9]) ⟨s1.trans s3, _, _, _, _, _, _, _, _, _, rfl⟩ ?_ ?_
    · rintro i σ' H4 hi ⟨S4, o1, o2, o3, o4, o5, o6, o7, o8, o9, rfl⟩
      walk_at "gs"
      refine ⟨a, ns, _, rfl, S4.seq hS, hlen, by omega, by omega, fun l H5 hl0 s5 D5 => ?_⟩
      have hlH : H l = none := S4.free hl0
      have S5 := S4.trans s5
      walk_at "gs"
      refine ⟨l, rfl, D5, fun t m H6 k6 D6 ht om bm => ?_⟩
      have S6 := same_kp S5 hlH k6
      walk_at "gs"
      refine ⟨l, rfl, D6, fun x H7 hx0 hx1 k7 D7 => ?_⟩
      walk_at "gs"
      refine ⟨l, rfl, D7, fun y H8 hy0 hy1 k8 D8 => ?_⟩
      have lst : ∀ {H : Hp}, DrAt H l → ∃ xs, H l = some (.lst xs) := fun ⟨_, _, z, _⟩ => ⟨_, z⟩
      have ht8 := sqT_kp k8 (lst D7) (sqT_kp k7 (lst D6) ht)
      have S8 := same_kp (same_kp S6 hlH k7) hlH k8
      have bx : Bd 80 x := show x.natAbs < 2 ^ 80 by omega
      have byy : Bd 80 y := show y.natAbs < 2 ^ 80 by omega
      walk_at "gs"
      refine r_new fun p9 hp9 => ?_
      generalize e9 : upd H8 p9 _ = H9
      obtain ⟨s9, g9⟩ := fresh hp9 e9
      have ht9 := sqT_same s9 ht8
      have S9 := S8.trans s9
      have D9 := D8.same s9
      have hpt9 : Hd K H9 (.ref p9) ((x, y) : Int × Int) := hd_pair (SqT.of g9) hd_int hd_int
      walk_at "gs"
      refine ⟨t, _, m, (x, y), rfl, ht9, om, bm, hpt9, ⟨bx.mono (by decide), byy.mono (by decide)⟩, fun H10 s10 => ?_⟩
      walk_at "gs"
      refine if_ff6 ?_
      walk_at "gs"
      refine r_smeth ?_
      walk_at "gs"
      refine ⟨rfl, ?_⟩
      walk_at "gs"
      refine ⟨_, rfl, .inr ⟨(x, y), hpt9.same s10, ⟨bx.mono (by decide), byy.mono (by decide)⟩, fun r H11 s11 hr => ?_⟩⟩
      obtain ⟨a11, dx11, t11, ea, ha11, ht11⟩ := id hr
      cases ea
      refine ⟨_, dx11, _, rfl, ha11, ?_⟩
      refine ⟨_, _, rfl, hr, fun t12 ht12 => ?_⟩
      walk_at "gs"
      refine r_new fun p13 hp13 => ?_
      generalize e13 : upd H11 p13 _ = H13
      obtain ⟨s13, g13⟩ := fresh hp13 e13
      walk_at "gs"
      refine r_catA (SqT.of g13) (SqT.of (s13 _ _ (s11 _ _ (s10 _ _ g9)))) (by show 4 + 2 ≤ 1000; decide) fun p14 H14 s14 h14 => ?_
      refine r_neD (dp6 (sqT_same (s13.trans s14) ht12)) (dp6 (m := ⟨1, 0, 0, 1, x, y⟩) h14) (shp6 _) (shp6 _) ?_
      rw [SeqAt.eqv_refl _ (SeqAt.canLay_of_shaped (shp6 _))]
      walk_at "gs"
      refine if_ff6 ?_
      have s914 := (s10.trans s11).trans (s13.trans s14)
      have ht14 := sqT_same s914 ht9
      have S14 := S9.trans s914
      have D14 := D9.same s914
      clear ht9 S9 D9 s914 ht8 S8 s13 s14 g13 h14 hpt9 g9 ht12 ht11 ha11 hr s10 s11 D8 k8 k7 k6 D7 D6 ht S6 D5 S5 s5 hp13 e13 hp9 e9 s9
      walk_at "gs"
      refine ⟨l, 6, rfl, D14, by decide, by decide, fun n H15 hn0 hn1 k15 D15 => ?_⟩
      have ht15 := sqT_kp k15 (lst D14) ht14
      have S15 := same_kp S14 hlH k15
      walk_at "gs"
      refine r_new fun p16 hp16 => ?_
      generalize e16 : upd H15 p16 _ = H16
      obtain ⟨s16, g16⟩ := fresh hp16 e16
      walk_at "gs"
      refine r_new fun p17 hp17 => ?_
      generalize e17 : upd H16 p17 _ = H17
      obtain ⟨s17, g17⟩ := fresh hp17 e17
      have D17 := D15.same (s16.trans s17)
      walk_at "gs"
      refine ⟨l, 4, rfl, D17, by decide, by decide, fun d H18 hd0 hd1 k18 D18 => ?_⟩
      have n16 : p16 ≠ l := D15.ne hp16
      have n17 : p17 ≠ l := (D15.same s16).ne hp17
      have ht18 := sqT_kp k18 (lst D17) (sqT_same (s16.trans s17) ht15)
      have S18 := same_kp (S15.trans (s16.trans s17)) hlH k18
      obtain ⟨odd, kn, hod, kd, hno⟩ : ∃ v kn, atI [V.non, V.bl true, V.str "1", V.ref p16] d = some v ∧ Kd K H18 v kn ∧ isI v = false := by
        rcases (show d = 0 ∨ d = 1 ∨ d = 2 ∨ d = 3 by omega) with rfl | rfl | rfl | rfl
        · exact ⟨_, _, rfl, .non, rfl⟩
        · exact ⟨_, _, rfl, .bl _, rfl⟩
        · exact ⟨_, _, rfl, .str _, rfl⟩
        · exact ⟨_, _, rfl, .tup (SqT.of (k18 _ _ n16 (s17 _ _ g16))), rfl⟩
      refine r_ixL (SqL.of (k18 _ _ n17 g17)) hod ?_
      clear ht15 S15 D15 k15 D17 k18 s16 s17 g16 g17 e16 e17 hp16 hp17 n16 n17 hod ht14 S14 D14
      walk_at "gs"
      refine r_slA ht18 fun p19 H19 s19 h19 => ?_
      walk_at "gs"
      refine r_new fun p20 hp20 => ?_
      generalize e20 : upd H19 p20 _ = H20
      obtain ⟨s20, g20⟩ := fresh hp20 e20
      have cl : ∀ lo hi, (cutV m.vals lo hi).length ≤ 6 := fun lo hi => by unfold cutV; rw [List.length_take, List.length_drop]; show _ ≤ 6; have : m.vals.length = 6 := rfl; omega
      walk_at "gs"
      refine r_catA (sqT_same s20 h19) (SqT.of g20) (by have := cl none (some n); simp only [List.length_cons, List.length_nil]; omega) fun p21 H21 s21 h21 => ?_
      walk_at "gs"
      refine r_slA (sqT_same ((s19.trans s20).trans s21) ht18) fun p22 H22 s22 h22 => ?_
      walk_at "gs"
      refine r_catA (sqT_same s22 h21) h22 (by have := cl none (some n); have := cl (some (n + 1)) none; simp only [List.length_append, List.length_cons, List.length_nil]; omega) fun p23 H23 s23 h23 => ?_
      have s1823 := ((s19.trans s20).trans s21).trans (s22.trans s23)
      obtain ⟨v1, v2, v3, v4, v5, v6, ev, hv, hw⟩ := tup_put m hn0 hn1 odd
      rw [ev] at h23
      obtain ⟨hk, hall⟩ := bad_all (kd.same s1823) hno hv hw
      walk_at "gs"
      refine ⟨p23, v1, v2, v3, v4, v5, v6, rfl, h23, hk, fun _ H24 s24 => ?_, fun m' em => ?_⟩
      rotate_left
      · rw [em] at hall
        exact absurd hall (by simp [M6.vals, isI])
      walk_at "gs"
      refine r_ndec (fun z => absurd rfl z) (fun _ => ?_)
      have s1824 := s1823.trans s24
      have kd24 := kd.same s1824
      have ht24 := sqT_same s1824 ht18
      have S24 := S18.trans s1824
      have D24 := D18.same s1824
      clear ht18 S18 D18 s1823 s1824 h23 hk hall ev hv hw h22 h21 h19 g20 e20 hp20 s19 s20 s21 s22 s23 s24 kd
      walk_at "gs"
      refine r_new fun p25 hp25 => ?_
      generalize e25 : upd H24 p25 _ = H25
      obtain ⟨s25, g25⟩ := fresh hp25 e25
      walk_at "gs"
      refine r_new fun p26 hp26 => ?_
      generalize e26 : upd H25 p26 _ = H26
      obtain ⟨s26, g26⟩ := fresh hp26 e26
      walk_at "gs"
      refine r_catA (SqT.of (s26 _ _ g25)) (SqT.of g26) (by show 4 + 2 ≤ 1000; decide) fun p27 H27 s27 h27 => ?_
      have s2427 := (s25.trans s26).trans s27
      obtain ⟨hk, hall⟩ := bad_all (l := [.int 2, .int 0, .int 0, .int 2, odd, .int 0]) (kd24.same s2427) hno (by simp) (by simp)
      walk_at "gs"
      refine ⟨p27, _, _, _, _, _, _, rfl, h27, hk, fun _ H28 s28 => ?_, fun m' em => ?_⟩
      rotate_left
      · rw [em] at hall
        exact absurd hall (by simp [M6.vals, isI])
      walk_at "gs"
      refine r_ndec (fun z => absurd rfl z) (fun _ => ?_)
      have s2428 := s2427.trans s28
      have ht28 := sqT_same s2428 ht24
      have S28 := S24.trans s2428
      have D28 := D24.same s2428
      clear ht24 S24 D24 s2427 s2428 h27 hk hall s25 s26 s27 g25 g26 e25 e26 hp25 hp26 s28 kd24
      walk_at "gs"
      refine r_I (by decide) ?_
      have hn4 : 0 ≤ n % 4 ∧ n % 4 < 4 := by omega
      generalize n % 4 = n4 at hn4 ⊢
      obtain ⟨hm0, hm1⟩ := hn4
      obtain ⟨z0, hz0, bz0⟩ := tup_at m hm0 hm1 bm
      walk_at "gs"
      refine r_ixT ht28 hz0 ?_
      walk_at "gs"
      refine r_new fun p29 hp29 => ?_
      generalize e29 : upd H28 p29 _ = H29
      obtain ⟨s29, g29⟩ := fresh hp29 e29
      have D29 := D28.same s29
      walk_at "gs"
      refine ⟨l, 3, rfl, D29, by decide, by decide, fun d3 H30 hd30 hd31 k30 D30 => ?_⟩
      obtain ⟨z1, hz1, bz1⟩ : ∃ z1 : Int, atI [V.int 1, V.int (-1), V.int 2] d3 = some (.int z1) ∧ Bd 100 z1 := by
        have key : ∀ z : Int, z.natAbs ≤ 2 → Bd 100 z := fun z hz => Nat.lt_of_le_of_lt hz (Nat.lt_of_lt_of_le (show 2 < 2 ^ 2 by decide) (Nat.pow_le_pow_right (by decide) (by decide)))
        rcases (show d3 = 0 ∨ d3 = 1 ∨ d3 = 2 by omega) with rfl | rfl | rfl
        · exact ⟨_, rfl, key 1 (by decide)⟩
        · exact ⟨_, rfl, key (-1) (by decide)⟩
        · exact ⟨_, rfl, key 2 (by decide)⟩
      refine r_ixL (SqL.of (k30 _ _ (D28.ne hp29) g29)) hz1 ?_
      have bz := bz0.add bz1
      have ht30 := sqT_kp k30 (lst D29) (sqT_same s29 ht28)
      have S30 := same_kp (S28.trans s29) hlH k30
      clear ht28 S28 D28 D29 k30 s29 g29 e29 hp29 hz0 hz1 bz0 bz1
      walk_at "gs"
      generalize z0 + z1 = zz at bz ⊢
      obtain ⟨m', em', bm'⟩ := tup_int m hm0 hm1 zz (bm.mono (show 100 ≤ 100 + 1 by decide)) bz
      have cl : ∀ lo hi, (cutV m.vals lo hi).length ≤ 6 := fun lo hi => by unfold cutV; rw [List.length_take, List.length_drop]; show _ ≤ 6; have : m.vals.length = 6 := rfl; omega
      refine r_slA ht30 fun p31 H31 s31 h31 => ?_
      walk_at "gs"
      refine r_new fun p32 hp32 => ?_
      generalize e32 : upd H31 p32 _ = H32
      obtain ⟨s32, g32⟩ := fresh hp32 e32
      walk_at "gs"
      refine r_catA (sqT_same s32 h31) (SqT.of g32) (by have := cl none (some n4); simp only [List.length_cons, List.length_nil]; omega) fun p33 H33 s33 h33 => ?_
      walk_at "gs"
      refine r_slA (sqT_same ((s31.trans s32).trans s33) ht30) fun p34 H34 s34 h34 => ?_
      walk_at "gs"
      refine r_catA (sqT_same s34 h33) h34 (by have := cl none (some n4); have := cl (some (n4 + 1)) none; simp only [List.length_append, List.length_cons, List.length_nil]; omega) fun p35 H35 s35 h35 => ?_
      rw [em'] at h35
      have s3035 := ((s31.trans s32).trans s33).trans (s34.trans s35)
      have S35 := S30.trans s3035
      clear h34 h33 h31 g32 e32 hp32 s31 s32 s33 s34 s35 s3035 S30 ht30
      walk_at "gs"
      refine r_I (bm'.1.ok bm'.2.2.2.1) ?_
      walk_at "gs"
      refine r_I (bm'.2.1.ok bm'.2.2.1) ?_
      walk_at "gs"
      have hk : ∀ v ∈ m'.vals, ∃ n, Kd K H35 v n := by
        intro v hv
        simp only [M6.vals, List.mem_cons, List.not_mem_nil, or_false] at hv
        rcases hv with rfl | rfl | rfl | rfl | rfl | rfl <;> exact ⟨_, .int _⟩
      have inj : ∀ m2 : M6, m'.vals = m2.vals → m2 = m' := fun m2 e => by
        simp only [M6.vals, List.cons.injEq, V.int.injEq, and_true] at e
        obtain ⟨h1, h2, h3, h4, h5, h6⟩ := e
        cases m'; cases m2
        simp only at *
        subst h1 h2 h3 h4 h5 h6
        rfl
      refine ⟨p35, _, _, _, _, _, _, rfl, h35, hk, fun z => ?_, fun m2 e2 => ?_⟩
      · exact absurd z (by simp [isI])
      obtain rfl := inj m2 e2
      refine ⟨bm'.mono (by decide), fun ok H36 s36 => ?_, fun no H36 s36 => ?_⟩
      · walk_at "gs"
        refine r_new fun p37 hp37 => ?_
        generalize e37 : upd H36 p37 _ = H37
        obtain ⟨s37, g37⟩ := fresh hp37 e37
        walk_at "gs"
        have ev : decide (((m2.a * m2.d - m2.b * m2.c).natAbs : Int) = 1) = true := decide_eq_true (ok_iff.mp ok)
        rw [ev]
        refine r_ixL (SqL.of g37) (v := .str "none") rfl ?_
        walk_at "gs"
        refine r_ndec (fun z => absurd rfl z) (fun _ => ?_)
        walk_at "gs"
        exact ⟨S35.trans (s36.trans s37), _, _, _, _, _, _, _, _, _, rfl⟩
      · walk_at "gs"
        refine r_new fun p37 hp37 => ?_
        generalize e37 : upd H36 p37 _ = H37
        obtain ⟨s37, g37⟩ := fresh hp37 e37
        walk_at "gs"
        have ev : decide (((m2.a * m2.d - m2.b * m2.c).natAbs : Int) = 1) = false := decide_eq_false fun z => no (ok_iff.mpr z)
        rw [ev]
        refine r_ixL (SqL.of g37) (v := .str "map") rfl ?_
        walk_at "gs"
        refine r_ndec (fun z => absurd rfl z) (fun _ => ?_)
        walk_at "gs"
        exact ⟨S35.trans (s36.trans s37), _, _, _, _, _, _, _, _, _, rfl⟩
    · rintro σ' H4 ⟨S4, o1, o2, o3, o4, o5, o6, o7, o8, o9, rfl⟩
      walk_at "gs"
      exact q _

end
end G
namespace G
open PySem PySem.Spec PyProof.Rows L2
def dd_is_integer : He5.DefA := ⟨fun K => (He.ga K "is_integer"), "is_integer", "is_integer", defArgs s_is_integer, defBody s_is_integer, defScope s_is_integer, [], []⟩
def dd_check_integer : He5.DefA := ⟨fun K => (He.ga K "check_integer"), "check_integer", "check_integer", defArgs s_check_integer, defBody s_check_integer, defScope s_check_integer, [.non], []⟩
def dd_is_point : He5.DefA := ⟨fun K => (He.ga K "is_point"), "is_point", "is_point", defArgs s_is_point, defBody s_is_point, defScope s_is_point, [], []⟩
def dd_check_point : He5.DefA := ⟨fun K => (He.ga K "check_point"), "check_point", "check_point", defArgs s_check_point, defBody s_check_point, defScope s_check_point, [], []⟩
def dd_GridMap_init : He5.DefA := ⟨fun K => (He.ma K (He.ga K "GridMap") "__init__"), "__init__", "GridMap.__init__", defArgs s_GridMap_init, defBody s_GridMap_init, defScope s_GridMap_init, [(.int 0), (.int 0)], []⟩
def dd_GridMap_eq : He5.DefA := ⟨fun K => (He.ma K (He.ga K "GridMap") "__eq__"), "__eq__", "GridMap.__eq__", defArgs s_GridMap_eq, defBody s_GridMap_eq, defScope s_GridMap_eq, [], []⟩
def dd_GridMap_repr : He5.DefA := ⟨fun K => (He.ma K (He.ga K "GridMap") "__repr__"), "__repr__", "GridMap.__repr__", defArgs s_GridMap_repr, defBody s_GridMap_repr, defScope s_GridMap_repr, [], []⟩
def dd_GridMap_identity : He5.DefA := ⟨fun K => (He5.wf K (He.ga K "GridMap") "classmethod" "identity"), "identity", "GridMap.identity", defArgs s_GridMap_identity, defBody s_GridMap_identity, defScope s_GridMap_identity, [], []⟩
def dd_GridMap_shift : He5.DefA := ⟨fun K => (He5.wf K (He.ga K "GridMap") "staticmethod" "shift"), "shift", "GridMap.shift", defArgs s_GridMap_shift, defBody s_GridMap_shift, defScope s_GridMap_shift, [], []⟩
def dd_GridMap_numbers : He5.DefA := ⟨fun K => (He5.wf K (He.ga K "GridMap") "property" "numbers"), "numbers", "GridMap.numbers", defArgs s_GridMap_numbers, defBody s_GridMap_numbers, defScope s_GridMap_numbers, [], []⟩
def dd_GridMap_determinant : He5.DefA := ⟨fun K => (He5.wf K (He.ga K "GridMap") "property" "determinant"), "determinant", "GridMap.determinant", defArgs s_GridMap_determinant, defBody s_GridMap_determinant, defScope s_GridMap_determinant, [], []⟩
def dd_GridMap_is_proper : He5.DefA := ⟨fun K => (He5.wf K (He.ga K "GridMap") "property" "is_proper"), "is_proper", "GridMap.is_proper", defArgs s_GridMap_is_proper, defBody s_GridMap_is_proper, defScope s_GridMap_is_proper, [], []⟩
def dd_GridMap_image : He5.DefA := ⟨fun K => (He.ma K (He.ga K "GridMap") "image"), "image", "GridMap.image", defArgs s_GridMap_image, defBody s_GridMap_image, defScope s_GridMap_image, [], []⟩
def dd_GridMap_apply : He5.DefA := ⟨fun K => (He.ma K (He.ga K "GridMap") "apply"), "apply", "GridMap.apply", defArgs s_GridMap_apply, defBody s_GridMap_apply, defScope s_GridMap_apply, [], []⟩
def dd_law_draws : He5.DefA := ⟨fun K => (He.ga K "_law_draws"), "_law_draws", "_law_draws", defArgs s_law_draws, defBody s_law_draws, defScope s_law_draws, [], []⟩
def dd_law_draw : He5.DefA := ⟨fun K => (He.ga K "_law_draw"), "_law_draw", "_law_draw", defArgs s_law_draw, defBody s_law_draw, defScope s_law_draw, [], []⟩
def dd_law_integer : He5.DefA := ⟨fun K => (He.ga K "_law_integer"), "_law_integer", "_law_integer", defArgs s_law_integer, defBody s_law_integer, defScope s_law_integer, [], []⟩
def dd_law_product : He5.DefA := ⟨fun K => (He.ga K "_law_product"), "_law_product", "_law_product", defArgs s_law_product, defBody s_law_product, defScope s_law_product, [], []⟩
def dd_law_numbers : He5.DefA := ⟨fun K => (He.ga K "_law_numbers"), "_law_numbers", "_law_numbers", defArgs s_law_numbers, defBody s_law_numbers, defScope s_law_numbers, [], []⟩
def dd_law_image : He5.DefA := ⟨fun K => (He.ga K "_law_image"), "_law_image", "_law_image", defArgs s_law_image, defBody s_law_image, defScope s_law_image, [], []⟩
def dd_law_error : He5.DefA := ⟨fun K => (He.ga K "_law_error"), "_law_error", "_law_error", defArgs s_law_error, defBody s_law_error, defScope s_law_error, [], []⟩
def dd_law_no_point : He5.DefA := ⟨fun K => (He.ga K "_law_no_point"), "_law_no_point", "_law_no_point", defArgs s_law_no_point, defBody s_law_no_point, defScope s_law_no_point, [], []⟩
def dd_law_right : He5.DefA := ⟨fun K => (He.ga K "_law_right"), "_law_right", "_law_right", defArgs s_law_right, defBody s_law_right, defScope s_law_right, [], []⟩
def dd_law : He5.DefA := ⟨fun K => (He.ga K "law"), "law", "law", defArgs s_law, defBody s_law, defScope s_law, [], []⟩
def fn : List He5.DefA := [dd_is_integer, dd_check_integer, dd_is_point, dd_check_point, dd_GridMap_init, dd_GridMap_eq, dd_GridMap_repr, dd_GridMap_identity, dd_GridMap_shift, dd_GridMap_numbers, dd_GridMap_determinant, dd_GridMap_is_proper, dd_GridMap_image, dd_GridMap_apply, dd_law_draws, dd_law_draw, dd_law_integer, dd_law_product, dd_law_numbers, dd_law_image, dd_law_error, dd_law_no_point, dd_law_right, dd_law]
def gsn : List He5.DefA := []
def fcs : List (PySem.W.Frag → Bool) := [fun K => (He.Fa.free "isinstance").ok K,
  fun K => (He.Fa.free "int").ok K,
  fun K => (He.Fa.free "bool").ok K,
  fun K => (He.Fa.free "tuple").ok K,
  fun K => (He.Fa.free "all").ok K,
  fun K => (He.Fa.free "len").ok K,
  fun K => (He.Fa.free "abs").ok K,
  fun K => (He.Fa.free "range").ok K,
  fun K => (He.Fa.free "repr").ok K,
  fun K => (He.Fa.free "max").ok K,
  fun K => (He.Fa.free "min").ok K,
  fun K => (He.Fa.glo "is_integer").ok K,
  fun K => (He.Fa.glo "check_integer").ok K,
  fun K => (He.Fa.glo "is_point").ok K,
  fun K => (He.Fa.glo "check_point").ok K,
  fun K => (He.Fa.glo "_law_draws").ok K,
  fun K => (He.Fa.glo "_law_draw").ok K,
  fun K => (He.Fa.glo "_law_integer").ok K,
  fun K => (He.Fa.glo "_law_product").ok K,
  fun K => (He.Fa.glo "_law_numbers").ok K,
  fun K => (He.Fa.glo "_law_image").ok K,
  fun K => (He.Fa.glo "_law_error").ok K,
  fun K => (He.Fa.glo "_law_no_point").ok K,
  fun K => (He.Fa.glo "_law_right").ok K,
  fun K => (He.Fa.glo "law").ok K,
  fun K => (He.Fa.glo "InvalidInteger").ok K,
  fun K => excFB K (He.ga K "InvalidInteger"),
  fun K => (He.Fa.glo "InvalidMap").ok K,
  fun K => excFB K (He.ga K "InvalidMap"),
  fun K => (He.Fa.glo "InvalidPoint").ok K,
  fun K => excFB K (He.ga K "InvalidPoint"),
  fun K => (He.Fa.exm "InvalidMap" "InvalidMap" true).ok K,
  fun K => (He.Fa.exm "InvalidMap" "InvalidInteger" false).ok K,
  fun K => (He.Fa.exm "InvalidInteger" "InvalidInteger" true).ok K,
  fun K => (He.Fa.exm "InvalidPoint" "InvalidPoint" true).ok K,
  fun K => (He.Fa.glo "GridMap").ok K,
  fun K => insTyB K (He.ga K "GridMap"),
  fun K => mkB K (He.ga K "GridMap") (He.ma K (He.ga K "GridMap") "__init__"),
  fun K => (He.Fa.noat "GridMap" "six").ok K,
  fun K => oEqB K (He.ga K "GridMap") (He.ma K (He.ga K "GridMap") "__eq__"),
  fun K => reprOB K (He.ga K "GridMap") (He.ma K (He.ga K "GridMap") "__repr__"),
  fun K => cmetB K (He.ga K "GridMap") "identity",
  fun K => smetB K (He.ga K "GridMap") "shift",
  fun K => propB K (He.ga K "GridMap") (He.ga K "GridMap") "numbers",
  fun K => propB K (He.ga K "GridMap") (He.ga K "GridMap") "determinant",
  fun K => propB K (He.ga K "GridMap") (He.ga K "GridMap") "is_proper",
  fun K => methB K (He.ga K "GridMap") (He.ga K "GridMap") "image",
  fun K => methB K (He.ga K "GridMap") (He.ga K "GridMap") "apply",
  fun K => creadB K (He.ga K "GridMap"),
  fun K => cvalB K (He.ga K "GridMap") "MAX_ORDER" (.int 6),
  fun K => isiB K (.ref (He.ga K "GridMap")) (.ref (He.ga K "GridMap")) true,
  fun K => kitNoB K (He.ga K "GridMap"),
  fun K => PySem.W.notFirst K (He.ga K "GridMap") (.ref (He.ga K "GridMap")),
  fun K => kitNoB K (He.ga K "GridMap")]
abbrev R : PySem.W.OpenRow := PySem.W.OpenLaw.row PySem.Challenge.rw_latticeshapes_k06_grid_maps_created
abbrev hk : PySem.W.Hook := hookM 5 fcs fn gsn
def ob (s : PySem.W.SharedT) : He.AlD := obsMG 5 fcs fn gsn (HandSHeadRun.getT s)
theorem ob_eq (s : PySem.W.SharedT) : ob s = hk.obs s.abs := obsMG_eq (HandSHeadRun.getT_eq s)
def loose : List PySem.Str := (["_wall", "ShapeError", "InvalidInteger", "InvalidPoint", "InvalidMap", "is_integer", "check_integer", "is_point", "check_point", "GridMap", "_law_draws", "_law_draw", "_law_integer", "_law_product", "_law_numbers", "_law_image", "_law_error", "_law_no_point", "_law_right"] : List PySem.Str)
theorem run (w : World) : HandSHeadRun.RunEq R (PySem.W.view R.prog [24]) hk ob 9000 loose w := by
  intro os
  kernel_rfl
theorem facts {P : Program} {w : World} {K : PySem.W.Frag} {h : Heap} {mg : Str → Option Value} {f : Addr} (X : K.In h) (G : h.Ns mainGlobals mg) (hfa : mg ("law" : Str) = some (.ref f)) (c : SaysM fcs fn gsn K) :
    ∃ fd : FuncData, (∀ (s : Shared) (v : Value), BindsTo s fd ⟨[v], []⟩ [("_law_script", v)]) ∧ ∀ base : Heap, K.In base → base.Ns mainGlobals mg → FnQ P w K mg base CX0 8 f fd ["_law_script"] (sp_law K) := by
  have T : Tx K mg := ⟨(He.free_ok X G (c.fact 0 (f := fun K => (He.Fa.free "isinstance").ok K) rfl)),
    (He.free_ok X G (c.fact 1 (f := fun K => (He.Fa.free "int").ok K) rfl)),
    (He.free_ok X G (c.fact 2 (f := fun K => (He.Fa.free "bool").ok K) rfl)),
    (He.free_ok X G (c.fact 3 (f := fun K => (He.Fa.free "tuple").ok K) rfl)),
    (He.free_ok X G (c.fact 4 (f := fun K => (He.Fa.free "all").ok K) rfl)),
    (He.free_ok X G (c.fact 5 (f := fun K => (He.Fa.free "len").ok K) rfl)),
    (He.free_ok X G (c.fact 6 (f := fun K => (He.Fa.free "abs").ok K) rfl)),
    (He.free_ok X G (c.fact 7 (f := fun K => (He.Fa.free "range").ok K) rfl)),
    (He.free_ok X G (c.fact 8 (f := fun K => (He.Fa.free "repr").ok K) rfl)),
    (He.free_ok X G (c.fact 9 (f := fun K => (He.Fa.free "max").ok K) rfl)),
    (He.free_ok X G (c.fact 10 (f := fun K => (He.Fa.free "min").ok K) rfl)),
    (He.glo_ok X G (c.fact 11 (f := fun K => (He.Fa.glo "is_integer").ok K) rfl)),
    (He.glo_ok X G (c.fact 12 (f := fun K => (He.Fa.glo "check_integer").ok K) rfl)),
    (He.glo_ok X G (c.fact 13 (f := fun K => (He.Fa.glo "is_point").ok K) rfl)),
    (He.glo_ok X G (c.fact 14 (f := fun K => (He.Fa.glo "check_point").ok K) rfl)),
    (He.glo_ok X G (c.fact 15 (f := fun K => (He.Fa.glo "_law_draws").ok K) rfl)),
    (He.glo_ok X G (c.fact 16 (f := fun K => (He.Fa.glo "_law_draw").ok K) rfl)),
    (He.glo_ok X G (c.fact 17 (f := fun K => (He.Fa.glo "_law_integer").ok K) rfl)),
    (He.glo_ok X G (c.fact 18 (f := fun K => (He.Fa.glo "_law_product").ok K) rfl)),
    (He.glo_ok X G (c.fact 19 (f := fun K => (He.Fa.glo "_law_numbers").ok K) rfl)),
    (He.glo_ok X G (c.fact 20 (f := fun K => (He.Fa.glo "_law_image").ok K) rfl)),
    (He.glo_ok X G (c.fact 21 (f := fun K => (He.Fa.glo "_law_error").ok K) rfl)),
    (He.glo_ok X G (c.fact 22 (f := fun K => (He.Fa.glo "_law_no_point").ok K) rfl)),
    (He.glo_ok X G (c.fact 23 (f := fun K => (He.Fa.glo "_law_right").ok K) rfl)),
    (He.glo_ok X G (c.fact 24 (f := fun K => (He.Fa.glo "law").ok K) rfl)),
    (He.glo_ok X G (c.fact 25 (f := fun K => (He.Fa.glo "InvalidInteger").ok K) rfl)),
    (excF_ok (c.fact 26 (f := fun K => excFB K (He.ga K "InvalidInteger")) rfl)),
    (He.glo_ok X G (c.fact 27 (f := fun K => (He.Fa.glo "InvalidMap").ok K) rfl)),
    (excF_ok (c.fact 28 (f := fun K => excFB K (He.ga K "InvalidMap")) rfl)),
    (He.glo_ok X G (c.fact 29 (f := fun K => (He.Fa.glo "InvalidPoint").ok K) rfl)),
    (excF_ok (c.fact 30 (f := fun K => excFB K (He.ga K "InvalidPoint")) rfl)),
    (He.exm_ok (c.fact 31 (f := fun K => (He.Fa.exm "InvalidMap" "InvalidMap" true).ok K) rfl)),
    (He.exm_ok (c.fact 32 (f := fun K => (He.Fa.exm "InvalidMap" "InvalidInteger" false).ok K) rfl)),
    (He.exm_ok (c.fact 33 (f := fun K => (He.Fa.exm "InvalidInteger" "InvalidInteger" true).ok K) rfl)),
    (He.exm_ok (c.fact 34 (f := fun K => (He.Fa.exm "InvalidPoint" "InvalidPoint" true).ok K) rfl)),
    (He.glo_ok X G (c.fact 35 (f := fun K => (He.Fa.glo "GridMap").ok K) rfl)),
    (insTyB_ok (c.fact 36 (f := fun K => insTyB K (He.ga K "GridMap")) rfl)),
    (mkB_ok (c.fact 37 (f := fun K => mkB K (He.ga K "GridMap") (He.ma K (He.ga K "GridMap") "__init__")) rfl)),
    (He.noat_ok (c.fact 38 (f := fun K => (He.Fa.noat "GridMap" "six").ok K) rfl)),
    (oEqB_ok (c.fact 39 (f := fun K => oEqB K (He.ga K "GridMap") (He.ma K (He.ga K "GridMap") "__eq__")) rfl)),
    (reprOB_ok (c.fact 40 (f := fun K => reprOB K (He.ga K "GridMap") (He.ma K (He.ga K "GridMap") "__repr__")) rfl)),
    (cmetB_ok (c.fact 41 (f := fun K => cmetB K (He.ga K "GridMap") "identity") rfl)),
    (smetB_ok (c.fact 42 (f := fun K => smetB K (He.ga K "GridMap") "shift") rfl)),
    (propB_ok (c.fact 43 (f := fun K => propB K (He.ga K "GridMap") (He.ga K "GridMap") "numbers") rfl)),
    (propB_ok (c.fact 44 (f := fun K => propB K (He.ga K "GridMap") (He.ga K "GridMap") "determinant") rfl)),
    (propB_ok (c.fact 45 (f := fun K => propB K (He.ga K "GridMap") (He.ga K "GridMap") "is_proper") rfl)),
    (methB_ok (c.fact 46 (f := fun K => methB K (He.ga K "GridMap") (He.ga K "GridMap") "image") rfl)),
    (methB_ok (c.fact 47 (f := fun K => methB K (He.ga K "GridMap") (He.ga K "GridMap") "apply") rfl)),
    (creadB_ok (c.fact 48 (f := fun K => creadB K (He.ga K "GridMap")) rfl)),
    (cvalB_ok (c.fact 49 (f := fun K => cvalB K (He.ga K "GridMap") "MAX_ORDER" (.int 6)) rfl)),
    (isiB_ok (c.fact 50 (f := fun K => isiB K (.ref (He.ga K "GridMap")) (.ref (He.ga K "GridMap")) true) rfl)),
    (kitNoB_ok (c.fact 51 (f := fun K => kitNoB K (He.ga K "GridMap")) rfl)),
    ((c.fact 52 (f := fun K => PySem.W.notFirst K (He.ga K "GridMap") (.ref (He.ga K "GridMap"))) rfl)),
    (kitNoB_nf (c.fact 53 (f := fun K => kitNoB K (He.ga K "GridMap")) rfl)),
    (defAt (c.def_ 0 (d := dd_is_integer) rfl)),
    (defAt (c.def_ 1 (d := dd_check_integer) rfl)),
    (defAt (c.def_ 2 (d := dd_is_point) rfl)),
    (defAt (c.def_ 3 (d := dd_check_point) rfl)),
    (defAt (c.def_ 4 (d := dd_GridMap_init) rfl)),
    (defAt (c.def_ 5 (d := dd_GridMap_eq) rfl)),
    (defAt (c.def_ 6 (d := dd_GridMap_repr) rfl)),
    (defAt (c.def_ 7 (d := dd_GridMap_identity) rfl)),
    (defAt (c.def_ 8 (d := dd_GridMap_shift) rfl)),
    (defAt (c.def_ 9 (d := dd_GridMap_numbers) rfl)),
    (defAt (c.def_ 10 (d := dd_GridMap_determinant) rfl)),
    (defAt (c.def_ 11 (d := dd_GridMap_is_proper) rfl)),
    (defAt (c.def_ 12 (d := dd_GridMap_image) rfl)),
    (defAt (c.def_ 13 (d := dd_GridMap_apply) rfl)),
    (defAt (c.def_ 14 (d := dd_law_draws) rfl)),
    (defAt (c.def_ 15 (d := dd_law_draw) rfl)),
    (defAt (c.def_ 16 (d := dd_law_integer) rfl)),
    (defAt (c.def_ 17 (d := dd_law_product) rfl)),
    (defAt (c.def_ 18 (d := dd_law_numbers) rfl)),
    (defAt (c.def_ 19 (d := dd_law_image) rfl)),
    (defAt (c.def_ 20 (d := dd_law_error) rfl)),
    (defAt (c.def_ 21 (d := dd_law_no_point) rfl)),
    (defAt (c.def_ 22 (d := dd_law_right) rfl)),
    (defAt (c.def_ 23 (d := dd_law) rfl))⟩
  have e := hfa.symm.trans T.g_law
  cases e
  have b := FunD.bindsA (ps := ["_law_script"]) T.d_law fun _ _ _ _ _ _ us hl => match us, hl with | [_], _ => rfl
  exact ⟨_, fun s v => b s [v] rfl, fun base _ _ => ok_law T⟩
end G
open PySem PySem.W PySem.Calls PyProof.Rows
theorem PySem.Challenge.cw_latticeshapes_k06_grid_maps_created_holds : PySem.Challenge.rw_latticeshapes_k06_grid_maps_created.Holds := by
  w_on; o_law
  refine HandSHeadRun.head_any (r := OpenLaw.row PySem.Challenge.rw_latticeshapes_k06_grid_maps_created) (q := view (OpenLaw.row PySem.Challenge.rw_latticeshapes_k06_grid_maps_created).prog [24]) (H := G.hk) (ob := G.ob) (M := 9000) (loose := G.loose) (d := HandSHeadRun.topDef (OpenLaw.row PySem.Challenge.rw_latticeshapes_k06_grid_maps_created).prog 24) (kwd := []) G.ob_eq
    (by kernel_rfl) (fun s => by kernel_rfl) G.run (by kernel_rfl) (by kernel_rfl) (by kernel_rfl) (by rfl) (by first | assumption | decide +kernel) (by decide +kernel) ⟨rfl, rfl, rfl, rfl, rfl, by decide +kernel⟩ ?hw ?hc
  case hw => w_witness2
  case hc =>
    refine G.walk_ofQ (l := PySem.Challenge.rw_latticeshapes_k06_grid_maps_created) (n := 63) (k := 8) (x := "_law_script") (CX := L2.CX0) rfl (by decide) (by kernel_rfl) ⟨rfl, by decide, by decide⟩ ?F (fun _ _ _ _ z => z)
    intro w mg fa h Y Gn hmg0
    obtain ⟨K, KX, c⟩ := Y
    have hmg : mg ("law" : PySem.Str) = some (.ref fa) := by
      have e : (HandSHeadRun.topDef (OpenLaw.row PySem.Challenge.rw_latticeshapes_k06_grid_maps_created).prog 24).name = ("law" : PySem.Str) := by kernel_rfl
      rw [← e]
      exact hmg0
    obtain ⟨fd, hb, hF⟩ := G.facts (P := (PySem.Challenge.rw_latticeshapes_k06_grid_maps_created).prog) (w := w) KX Gn hmg c
    exact ⟨K, fd, G.sp_law K, KX, hb, fun H a ns hl _ hS => ⟨a, ns, rfl, hS, hl, fun _ => rfl⟩, hF⟩
