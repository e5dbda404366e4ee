import PyProof.Rows.All
import Wide.All
import OpenK.AllK
import Wide.FinOn
import KE.KStateDown
import HandS.ForMost
import HandS.ForExc
import HandS.Wide
import HandS.IsInst
import HandS.Star
import HandS.Style
import HandS.Flow
import HandS.Defaults
import HandS.Head0
import HandS.Head1
import HandS.Head2
import HandS.HeadEnd
import HandS.HeadHook1
import HandS.HeadHook2
import HandS.HeadHook3
import HandS.CallSlots
import HandS.TupAny
import HandS.Steps
import KE.Datum
import HandS.Evl
import HandS.TupLe
import HandS.TryMany
import HandS.HeadNt
import HandS.Property
import HandS.ClsMeth
import HandS.CallLocal
import HandS.MethStar
import HandS.MakeKw
import KE.DatumMore
import HandS.Zip
import HandS.OwnEq
import HandS.TryOnly
import HandS.GenList
import HandS.GenYield
import KE.GoesMore
import KE.GoesZip
import KE.GoesEnum
import HandS.ExcInit
import HandS.ExcField
import PySem.Challenge.RW_latticeshapes_k07_whole_maps_composed
set_option Elab.async false
set_option linter.all false
set_option maxRecDepth 100000
set_option maxHeartbeats 8000000
/-! ### readings, one constructor a lemma: the symbolic walk's own steps -/
namespace G
open PySem PySem.Spec PyProof.Rows L2
section
variable {K : PySem.W.Frag} {σ : L2.St} {H : Hp} {ta tb te : TE} {Q : VK} {D : Ends} {i : Nat} {v x y : V} {b : Bool}
theorem r_var (h : σ[i]? = some (some v)) (q : Q v H) : tVar i σ H Q := ⟨v, h, q⟩
theorem r_c (q : Q v H) : tC v σ H Q := q
theorem r_op {r : R2} (q : ta σ H fun x H1 => tb σ H1 fun y H2 => r x y H2 Q) : tOp r ta tb σ H Q := q
theorem r_un {r : V → Hp → VK → Prop} (q : ta σ H fun x H1 => r x H1 Q) : tUn r ta σ H Q := q
theorem r_U {g : Int → V} {n : Int} (q : Q (g n) H) : rU g (.int n) H Q := ⟨n, rfl, q⟩
theorem r_I0 {g : Int → Int → V} {n m : Int} (q : Q (g n m) H) : rI0 g (.int n) (.int m) H Q := ⟨n, m, rfl, rfl, q⟩
theorem r_I {C : Int → Int → Prop} {g : Int → Int → V} {n m : Int} (hc : C n m) (q : Q (g n m) H) : rI C g (.int n) (.int m) H Q := ⟨n, m, rfl, rfl, hc, q⟩
theorem r_eq (h : scal x y = true) (q : Q (.bl (decide (x = y))) H) : rEq x y H Q := ⟨h, q⟩
theorem r_ne (h : scal x y = true) (q : Q (.bl (!decide (x = y))) H) : rNe x y H Q := ⟨h, q⟩
theorem r_ixL {p : Addr} {xs : List V} {n : Int} (h : SqL K H p xs) (e : atI xs n = some v) (q : Q v H) : rIxL K (.ref p) (.int n) H Q := ⟨p, xs, n, v, rfl, rfl, h, e, q⟩
theorem r_ixT {p : Addr} {xs : List V} {n : Int} (h : SqT K H p xs) (e : atI xs n = some v) (q : Q v H) : rIxT K (.ref p) (.int n) H Q := ⟨p, xs, n, v, rfl, rfl, h, e, q⟩
theorem r_seq {t u : TS} (q : t { D with nx := u D } σ H) : tSeq t u D σ H := q
theorem r_next (q : D.nx σ H) : tNext D σ H := q
theorem r_asg {g : TG} (q : te σ H fun x H1 => g x σ H1 D.nx) : tAsg te g D σ H := q
theorem r_st {t u : TS} {σ' : L2.St} (e : σ = σ') (q : tSeq t u D σ' H) : tSeq t u D σ H := by
  subst e; exact q
theorem r_gnameS {R : L2.St → Hp → Prop} {σ' : L2.St} (e : σ.set i (some v) = σ') (q : R σ' H) : gName i v σ H R := by
  subst e; exact q
theorem r_gname {R : L2.St → Hp → Prop} (q : R (σ.set i (some v)) H) : gName i v σ H R := q
theorem r_drop (q : te σ H fun _ H1 => D.nx σ H1) : tDrop te D σ H := q
theorem r_ret (q : te σ H D.rt) : tRet te D σ H := q
theorem r_ifs {c : TT} {t u : TS} (q : c σ H fun b H1 => if b = true then t D σ H1 else u D σ H1) : tIfS c t u D σ H := q
theorem r_test {R : Bool → Hp → Prop} (q : te σ H fun x H' => ∃ k, x = .bl k ∧ R k H') : tTest te σ H R := q
theorem r_tB {R : Bool → Hp → Prop} (q : te σ H fun x H' => ∃ k, x = .bl k ∧ R k H') : tB te σ H R := q
theorem r_bl {R : Bool → Prop} (q : R b) : ∃ k, V.bl b = .bl k ∧ R k := ⟨b, rfl, q⟩
theorem r_nil {R : List V → Hp → Prop} (q : R [] H) : tNil σ H R := q
theorem r_cons {tr : TA} {R : List V → Hp → Prop} (q : ta σ H fun x H1 => tr σ H1 fun xs H2 => R (x :: xs) H2) : tCons ta tr σ H R := q
theorem r_cb {r : List V → Hp → VK → Prop} {t : TA} (q : t σ H fun vs H1 => r vs H1 Q) : tCB r t σ H Q := q
theorem r_lst {t : TA} (q : t σ H fun xs H1 => xs.length ≤ sizeLine ∧ ∀ p, H1 p = none → Q (.ref p) (upd H1 p (.lst xs))) : tLst t σ H Q := q
theorem r_tup {t : TA} (q : t σ H fun xs H1 => xs.length ≤ sizeLine ∧ ∀ p, H1 p = none → Q (.ref p) (upd H1 p (.tup xs))) : tTup t σ H Q := q
theorem r_call {sp : Sp} {dvs : List V} {E : XK} {t : TA} (q : t σ H fun vs H1 => sp (vs ++ dvs) H1 Q E) : tCall sp dvs E t σ H Q := q
theorem r_callS {sp : Sp} {E : L2.St → XK} {t : TA} (q : t σ H fun vs H1 => sp vs H1 Q (E σ)) : tCallS sp E t σ H Q := q
theorem r_and {t u : TT} {R : Bool → Hp → Prop} (q : t σ H fun c H1 => if c = true then u σ H1 R else R false H1) : tAnd t u σ H R := q
theorem r_or {t u : TT} {R : Bool → Hp → Prop} (q : t σ H fun c H1 => if c = true then R true H1 else u σ H1 R) : tOr t u σ H R := q
theorem r_not {t : TT} {R : Bool → Hp → Prop} (q : t σ H fun c H1 => R (!c) H1) : tNot t σ H R := q
theorem r_andV (q : ta σ H fun x H1 => ∃ c, x = .bl c ∧ if c = true then tb σ H1 Q else Q (.bl false) H1) : tAndV ta tb σ H Q := q
theorem r_orV (q : ta σ H fun x H1 => ∃ c, x = .bl c ∧ if c = true then Q (.bl true) H1 else tb σ H1 Q) : tOrV ta tb σ H Q := q
theorem r_notV (q : ta σ H fun x H1 => ∃ c, x = .bl c ∧ Q (.bl (!c)) H1) : tNotV ta σ H Q := q
theorem r_if {t : TT} (q : t σ H fun c H1 => if c = true then ta σ H1 Q else tb σ H1 Q) : tIf t ta tb σ H Q := q
theorem r_sub {to ti : TE} {t : TSet} {R : L2.St → Hp → Prop} (q : to σ H fun o H1 => ti σ H1 fun i H2 => t o i v H2 fun H3 => R σ H3) : gSub to ti t v σ H R := q
theorem r_setL {p : Addr} {xs : List V} {n : Int} {j : Nat} {R : Hp → Prop} (h : H p = some (.lst xs)) (e : ixN xs.length n = some j) (q : R (upd H p (.lst (xs.set j v)))) : rSetL (.ref p) (.int n) v H R := ⟨p, xs, n, j, rfl, rfl, h, e, q⟩
theorem r_dec {p : Prop} [Decidable p] {A B : Prop} (h1 : p → A) (h2 : ¬ p → B) : if decide p = true then A else B := by
  by_cases h : p
  · rw [decide_eq_true h]; exact iteT (h1 h)
  · rw [decide_eq_false h]; exact iteF (h2 h)
theorem r_ndec {p : Prop} [Decidable p] {A B : Prop} (h1 : ¬ p → A) (h2 : p → B) : if (!decide p) = true then A else B := by
  by_cases h : p
  · rw [decide_eq_true h]; exact iteF (h2 h)
  · rw [decide_eq_false h]; exact iteT (h1 h)
theorem r_b {A B : Prop} (h1 : b = true → A) (h2 : b = false → B) : if b = true then A else B := by
  cases b with
  | true => exact iteT (h1 rfl)
  | false => exact iteF (h2 rfl)
theorem dec_int (n m : Int) : decide (V.int n = V.int m) = decide (n = m) := by
  by_cases h : n = m
  · subst h; simp
  · rw [decide_eq_false h, decide_eq_false (fun z => h (V.int.inj z))]
theorem r_eqI {n m : Int} (q : Q (.bl (decide (n = m))) H) : rEq (.int n) (.int m) H Q := ⟨rfl, by rw [dec_int]; exact q⟩
theorem r_neI {n m : Int} (q : Q (.bl (!decide (n = m))) H) : rNe (.int n) (.int m) H Q := ⟨rfl, by rw [dec_int]; exact q⟩
end
end G


namespace G
open PySem PySem.Spec PyProof.Rows L2
/-! ### numbers -/
theorem op_mulA {X : Cx} : OpR X (binaryOp .Mult) (rI IntMulOk fun i j => .int (i * j)) := opI fun _ _ _ _ _ _ _ hc q => mul_int q hc
/-- fewer than n bits -/
def Bd (n : Nat) (i : Int) : Prop := i.natAbs < 2 ^ n
theorem Bd.mono {n m : Nat} {i : Int} (h : Bd n i) (l : n ≤ m) : Bd m i := Nat.lt_of_lt_of_le h (Nat.pow_le_pow_right (by decide) l)
theorem Bd.mul {n m : Nat} {i j : Int} (h : Bd n i) (k : Bd m j) : Bd (n + m) (i * j) := wide_lt h k
theorem Bd.add {n : Nat} {i j : Int} (h : Bd n i) (k : Bd n j) : Bd (n + 1) (i + j) := by
  have h1 : i.natAbs < 2 ^ n := h
  have k1 : j.natAbs < 2 ^ n := k
  show (i + j).natAbs < 2 ^ (n + 1)
  have e : 2 ^ (n + 1) = 2 ^ n + 2 ^ n := by rw [Nat.pow_succ]; omega
  omega
theorem Bd.neg {n : Nat} {i : Int} (h : Bd n i) : Bd n (-i) := by
  show (-i).natAbs < 2 ^ n
  rw [Int.natAbs_neg]; exact h
theorem Bd.sub {n : Nat} {i j : Int} (h : Bd n i) (k : Bd n j) : Bd (n + 1) (i - j) := by
  have e : i - j = i + -j := by omega
  rw [e]; exact h.add k.neg
theorem Bd.ok {n m : Nat} {i j : Int} (h : Bd n i) (k : Bd m j) (l : n + m < 900000 := by decide) : IntMulOk i j :=
  CMulW.ok (wide_mul (a := n + 1) (b := m + 1) (h.mono (Nat.le_succ n)) (k.mono (Nat.le_succ m)) (Nat.succ_pos _) (Nat.succ_pos _) (by omega))
theorem mul_okL {i j : Int} (h1 : -(2 ^ 64) < i) (h2 : i < 2 ^ 64) : IntMulOk i j := CMul.ok (.inl ⟨h1, h2⟩)
theorem mul_okR {i j : Int} (h1 : -(2 ^ 64) < j) (h2 : j < 2 ^ 64) : IntMulOk i j := CMul.ok (.inr ⟨h1, h2⟩)
/-! ### heaps: all but the object at l stands -/
def Kp (l : Addr) (H H' : Hp) : Prop := ∀ b o, b ≠ l → H b = some o → H' b = some o
theorem Kp.refl (l : Addr) (H : Hp) : Kp l H H := fun _ _ _ h => h
theorem Kp.trans {l : Addr} {H H1 H2 : Hp} (a : Kp l H H1) (b : Kp l H1 H2) : Kp l H H2 := fun c o n h => b c o n (a c o n h)
theorem Kp.same {l : Addr} {H H1 H2 : Hp} (a : Kp l H H1) (b : Same H1 H2) : Kp l H H2 := fun c o n h => b c o (a c o n h)
theorem Kp.of_same {l : Addr} {H H1 : Hp} (b : Same H H1) : Kp l H H1 := fun c o _ h => b c o h
theorem Kp.new {l p : Addr} {H H1 : Hp} {o : HO} (a : Kp l H H1) (h : H1 p = none) : Kp l H (upd H1 p o) := fun c u n e => by
  have z := a c u n e
  rw [upd_ne (ne_of_none z h)]; exact z
theorem Kp.put {l : Addr} {H H1 : Hp} {o : HO} (a : Kp l H H1) : Kp l H (upd H1 l o) := fun c u n e => by rw [upd_ne n]; exact a c u n e
theorem same_new {p : Addr} {H H1 : Hp} {o : HO} (a : Same H H1) (h : H1 p = none) : Same H (upd H1 p o) := fun c u e => by
  have z := a c u e
  rw [upd_ne (ne_of_none z h)]; exact z
theorem fresh {H : Hp} {p : Addr} {o : HO} {H1 : Hp} (h : H p = none) (e : upd H p o = H1) : Same H H1 ∧ H1 p = some o := by
  subst e; exact ⟨same_new (Same.refl H) h, upd_same⟩
theorem Kp.seq {K : PySem.W.Frag} {l a : Addr} {H H' : Hp} {xs : List V} (e : Kp l H H') (n : a ≠ l) (h : SqL K H a xs) : SqL K H' a xs := by
  rcases h with (h | ⟨o, h⟩) | h
  · exact .inl (.inl (e _ _ n h))
  · exact .inl (.inr ⟨o, e _ _ n h⟩)
  · exact .inr h
theorem same_kp {l : Addr} {H H1 H2 : Hp} (s : Same H H1) (hl : H l = none) (k : Kp l H1 H2) : Same H H2 := fun c o e => k c o (ne_of_none e hl) (s c o e)
/-! ### kinds of values -/
inductive Kd (K : PySem.W.Frag) (H : Hp) : V → String → Prop where
  | non : Kd K H .non "NoneType"
  | bl (x : Bool) : Kd K H (.bl x) "bool"
  | int (i : Int) : Kd K H (.int i) "int"
  | str (x : Str) : Kd K H (.str x) "str"
  | lst {a : Addr} {xs : List V} (e : SqL K H a xs) : Kd K H (.ref a) "list"
  | tup {a : Addr} {xs : List V} (e : SqT K H a xs) : Kd K H (.ref a) "tuple"
  | dK {a : Addr} {kvs : List (Key × V)} (e : H a = some (.dK kvs)) : Kd K H (.ref a) "dict"
theorem Kd.ty {K : PySem.W.Frag} {H : Hp} {v : V} {n : String} (k : Kd K H v n) : TyX K H v (.type n) := by
  cases k with
  | non => exact .base .non
  | bl x => exact .base (.bl x)
  | int i => exact .base (.int i)
  | str x => exact .base (.str x)
  | lst e =>
    rcases e with (e | ⟨o, e⟩) | ⟨o, its, n, e, c, _⟩
    · exact .base (.lst e)
    · exact .base (.frz e)
    · exact .kList e c
  | tup e =>
    rcases e with (e | ⟨o, e⟩) | ⟨o, its, n, e, c, _⟩
    · exact .base (.tup e)
    · exact .fTuple e
    · exact .kTuple e c
  | dK e => exact .base (.dK e)
theorem sqT_same {K : PySem.W.Frag} {H H' : Hp} {a : Addr} {xs : List V} (s : Same H H') (h : SqT K H a xs) : SqT K H' a xs := by
  rcases h with (h | ⟨o, h⟩) | h
  · exact .inl (.inl (s _ _ h))
  · exact .inl (.inr ⟨o, s _ _ h⟩)
  · exact .inr h
theorem Kd.same {K : PySem.W.Frag} {H H' : Hp} {v : V} {n : String} (k : Kd K H v n) (s : Same H H') : Kd K H' v n := by
  cases k with
  | non => exact .non
  | bl x => exact .bl x
  | int i => exact .int i
  | str x => exact .str x
  | lst e => exact .lst (s.seq e)
  | tup e => exact .tup (sqT_same s e)
  | dK e => exact .dK (s _ _ e)
def kds : List String := ["NoneType", "bool", "int", "str", "list", "tuple", "dict"]
theorem Kd.mem {K : PySem.W.Frag} {H : Hp} {v : V} {n : String} (k : Kd K H v n) : n ∈ kds := by
  cases k <;> decide
def isI : V → Bool
  | .int _ => true
  | _ => false
def inty (n : String) : Bool := n == "int" || n == "bool"
theorem Kd.kit {K : PySem.W.Frag} {H : Hp} {v : V} {n : String} (k : Kd K H v n) : PySem.W.kitOne K (.type n) (.type "int") = some (inty n) ∧ PySem.W.kitOne K (.type n) (.type "bool") = some (n == "bool") ∧
    PySem.W.kitOne K (.type n) (.type "tuple") = some (n == "tuple") ∧ PySem.W.kitOne K (.type n) (.type "list") = some (n == "list") ∧ (isI v = (inty n && !(n == "bool"))) := by
  cases k with
  | non => exact ⟨kit_ty (by decide +kernel), kit_ty (by decide +kernel), kit_ty (by decide +kernel), kit_ty (by decide +kernel), rfl⟩
  | bl x => exact ⟨kit_ty (by decide +kernel), kit_ty (by decide +kernel), kit_ty (by decide +kernel), kit_ty (by decide +kernel), rfl⟩
  | int i => exact ⟨kit_ty (by decide +kernel), kit_ty (by decide +kernel), kit_ty (by decide +kernel), kit_ty (by decide +kernel), rfl⟩
  | str x => exact ⟨kit_ty (by decide +kernel), kit_ty (by decide +kernel), kit_ty (by decide +kernel), kit_ty (by decide +kernel), rfl⟩
  | lst e => exact ⟨kit_ty (by decide +kernel), kit_ty (by decide +kernel), kit_ty (by decide +kernel), kit_ty (by decide +kernel), rfl⟩
  | tup e => exact ⟨kit_ty (by decide +kernel), kit_ty (by decide +kernel), kit_ty (by decide +kernel), kit_ty (by decide +kernel), rfl⟩
  | dK e => exact ⟨kit_ty (by decide +kernel), kit_ty (by decide +kernel), kit_ty (by decide +kernel), kit_ty (by decide +kernel), rfl⟩
/-! ### the draws -/
def DrAt (H : Hp) (l : Addr) : Prop := ∃ a b : Int, H l = some (.lst [.int a, .int b]) ∧ 0 ≤ a ∧ 0 ≤ b ∧ b < 2147483647
theorem DrAt.same {H H' : Hp} {l : Addr} (d : DrAt H l) (s : Same H H') : DrAt H' l := by
  obtain ⟨a, b, h, r⟩ := d
  exact ⟨a, b, s _ _ h, r⟩
theorem DrAt.new {H : Hp} {l p : Addr} {o : HO} (d : DrAt H l) (h : H p = none) : DrAt (upd H p o) l := d.same (same_new (Same.refl H) h)
theorem DrAt.ne {H : Hp} {l p : Addr} (d : DrAt H l) (h : H p = none) : p ≠ l := by
  obtain ⟨a, b, e, _⟩ := d
  exact (ne_of_none e h).symm
theorem DrAt.ne_tup {H : Hp} {l p : Addr} {xs : List V} (d : DrAt H l) (h : H p = some (.tup xs)) : p ≠ l := by
  obtain ⟨a, b, e, _⟩ := d
  exact ne_of h e (by intro z; cases z)
end G

namespace G
open PySem PySem.Spec PyProof.Rows L2
/-! ### built-ins by named readings -/
def rAbs : List V → Hp → VK → Prop := fun xs H Q => ∃ i, xs = [.int i] ∧ Q (.int (if i < 0 then -i else i)) H
def rLn (K : PySem.W.Frag) : List V → Hp → VK → Prop := fun xs H Q => ∃ x n, xs = [x] ∧ LenV K x H n ∧ Q (.int n) H
def rInt1 : List V → Hp → VK → Prop := fun xs H Q => (∃ i, xs = [.int i] ∧ Q (.int i) H) ∨ ∃ k, xs = [.bl k] ∧ Q (.int (if k then 1 else 0)) H
def rMx2 : List V → Hp → VK → Prop := fun xs H Q => ∃ i j, xs = [.int i, .int j] ∧ Q (.int (if j > i then j else i)) H
def rMn2 : List V → Hp → VK → Prop := fun xs H Q => ∃ i j, xs = [.int i, .int j] ∧ Q (.int (if j < i then j else i)) H
def rLstOf (K : PySem.W.Frag) : List V → Hp → VK → Prop := fun xs H Q => ∃ p ys, xs = [.ref p] ∧ (SqL K H p ys ∨ SqT K H p ys) ∧ ∀ l, H l = none → Q (.ref l) (upd H l (.lst ys))
def rTupOf (K : PySem.W.Frag) : List V → Hp → VK → Prop := fun xs H Q => ∃ p ys, xs = [.ref p] ∧ ((SqL K H p ys ∧ ∀ l, H l = none → Q (.ref l) (upd H l (.tup ys))) ∨ (SqT K H p ys ∧ Q (.ref p) H))
section
variable {X : Cx}
theorem cAbs : CallR X (.builtin "abs") rAbs := call_abs
theorem cLen : CallR X (.builtin "len") (rLn X.K) := call_len
theorem cInt1 : CallR X (.type "int") rInt1 := call_int1
theorem cMax2 (hc : X.calm = true) : CallR X (.builtin "max") rMx2 := call_max2 hc
theorem cMin2 (hc : X.calm = true) : CallR X (.builtin "min") rMn2 := call_min2 hc
theorem cLstOf : CallR X (.type "list") (rLstOf X.K) := call_list_of
theorem cTupOf : CallR X (.type "tuple") (rTupOf X.K) := call_tuple_of
/-- a truth as a test -/
theorem pt_tru {a : Expr} {ta : TE} (ha : PE X a ta) (he : ∀ whole, isTrue a X.env whole = (do let v ← whole; standAt a.pos; holding [v] (truthy v)) := by intro _; rfl) : PT X a (tTru X.K ta) := pt_truth ha he
end
section
variable {K : PySem.W.Frag} {σ : L2.St} {H : Hp} {ta : TE} {Q : VK} {D : Ends} {i j : Nat} {v x y : V} {b : Bool} {p : Addr} {xs : List V} {n m : Int}
theorem r_abs (q : Q (.int (n.natAbs : Int)) H) : rAbs [.int n] H Q := ⟨n, rfl, by
  have e : (if n < 0 then -n else n) = (n.natAbs : Int) := by split <;> omega
  rw [e]; exact q⟩
theorem r_lenL (h : SqL K H p xs) (q : Q (.int (xs.length : Int)) H) : rLn K [.ref p] H Q := ⟨.ref p, xs.length, rfl, .inl ⟨xs, h, rfl⟩, q⟩
theorem r_lenT (h : SqT K H p xs) (q : Q (.int (xs.length : Int)) H) : rLn K [.ref p] H Q := ⟨.ref p, xs.length, rfl, .inr ⟨xs, h, rfl⟩, q⟩
theorem r_intB (q : Q (.int (if b then 1 else 0)) H) : rInt1 [.bl b] H Q := .inr ⟨b, rfl, q⟩
theorem r_intI (q : Q (.int n) H) : rInt1 [.int n] H Q := .inl ⟨n, rfl, q⟩
theorem r_max2 (q : Q (.int (max n m)) H) : rMx2 [.int n, .int m] H Q := ⟨n, m, rfl, by
  have e : (if m > n then m else n) = max n m := by omega
  rw [e]; exact q⟩
theorem r_min2 (q : Q (.int (min n m)) H) : rMn2 [.int n, .int m] H Q := ⟨n, m, rfl, by
  have e : (if m < n then m else n) = min n m := by omega
  rw [e]; exact q⟩
theorem r_lstOfL (h : SqL K H p xs) (q : ∀ l, H l = none → Q (.ref l) (upd H l (.lst xs))) : rLstOf K [.ref p] H Q := ⟨p, xs, rfl, .inl h, q⟩
theorem r_lstOfT (h : SqT K H p xs) (q : ∀ l, H l = none → Q (.ref l) (upd H l (.lst xs))) : rLstOf K [.ref p] H Q := ⟨p, xs, rfl, .inr h, q⟩
theorem r_tupOfL (h : SqL K H p xs) (q : ∀ l, H l = none → Q (.ref l) (upd H l (.tup xs))) : rTupOf K [.ref p] H Q := ⟨p, xs, rfl, .inl ⟨h, q⟩⟩
theorem r_tupOfT (h : SqT K H p xs) (q : Q (.ref p) H) : rTupOf K [.ref p] H Q := ⟨p, xs, rfl, .inr ⟨h, q⟩⟩
theorem r_new {R : Addr → Prop} (q : ∀ p, H p = none → R p) (h : Nat.ble xs.length 1000 = true := by rfl) : xs.length ≤ sizeLine ∧ ∀ p, H p = none → R p := ⟨Nat.le_trans (Nat.le_of_ble_eq_true h) (by decide), q⟩
theorem r_cut {t u : TS} (Mid : L2.St → Hp → Prop) (h1 : t { D with nx := Mid } σ H) (h2 : ∀ σ' H', Mid σ' H' → u D σ' H') : Evl.tCut t u D σ H := ⟨Mid, h1, h2⟩
theorem r_tru {R : Bool → Hp → Prop} (q : ta σ H fun x H' => ∃ k, TruV K x H' k ∧ R k H') : tTru K ta σ H R := q
theorem r_truI {R : Bool → Prop} (q : R (decide (n ≠ 0))) : ∃ k, TruV K (.int n) H k ∧ R k := ⟨n != 0, rfl, by
  have e : (n != 0) = decide (n ≠ 0) := by
    by_cases h : n = 0
    · subst h; rfl
    · simp [h]
  rw [e]; exact q⟩
theorem r_isN (q : Q (.bl (decide (x = .non))) H) : rIsN x .non H Q := ⟨rfl, q⟩
theorem r_notN (q : Q (.bl (!decide (x = .non))) H) : rNotN x .non H Q := ⟨rfl, q⟩
theorem r_isB {a c : Bool} (q : Q (.bl (decide (a = c))) H) : rIsB (.bl a) (.bl c) H Q := ⟨a, c, rfl, rfl, q⟩
theorem r_notB {a c : Bool} (q : Q (.bl (!decide (a = c))) H) : rNotB (.bl a) (.bl c) H Q := ⟨a, c, rfl, rfl, q⟩
theorem r_isi {c : V} {t u : Value} (k : ClsV c u) (ty : TyX K H x t) (e : PySem.W.kitOne K t u = some b) (q : Q (.bl b) H) : rIsi K [x, c] H Q := ⟨x, c, t, u, b, rfl, k, ty, e, q⟩
theorem r_aug {te : TE} {ti : TIp} (h : σ[i]? = some (some x)) (q : te σ H fun y H1 => ti x y H1 fun z H2 => D.nx (σ.set i (some z)) H2) : tAug i te ti D σ H := ⟨x, h, q⟩
theorem r_ipI {f : Int → Int → Int} (q : Q (.int (f n m)) H) : ipI f (.int n) (.int m) H Q := ⟨n, m, rfl, rfl, q⟩
theorem r_gtup {k : Nat} {t : TGs} {R : L2.St → Hp → Prop} (h : SqT K H p xs) (q : t xs σ H R) (hl : xs.length = k := by rfl) : gTup K k t (.ref p) σ H R := ⟨p, xs, rfl, h, hl, q⟩
theorem r_gcons {t : TG} {u : TGs} {R : L2.St → Hp → Prop} (q : t v σ H fun σ' H' => u xs σ' H' R) : gCons t u (v :: xs) σ H R := ⟨v, xs, rfl, q⟩
theorem r_gnil {R : L2.St → Hp → Prop} (q : R σ H) : gNil [] σ H R := ⟨rfl, q⟩
theorem r_par {ta : TA} (q : ta σ H fun vs H1 => ∃ v w, vs = [v, w] ∧ D.nx ((σ.set i (some v)).set j (some w)) H1) : tPar i j ta D σ H := q
theorem r_two {R : V → V → Prop} (q : R x y) : ∃ v w, [x, y] = [v, w] ∧ R v w := ⟨x, y, rfl, q⟩
theorem r_rep {l : Addr} (h : H l = some (.lst xs)) (h1 : -(2 ^ 63) ≤ n) (h2 : n < 2 ^ 63) (h3 : xs.length * n.toNat ≤ sizeLine) (q : ∀ p, H p = none → Q (.ref p) (upd H p (.lst (List.replicate n.toNat xs).flatten))) : rRep (.ref l) (.int n) H Q := ⟨l, n, xs, rfl, rfl, h, h1, h2, h3, q⟩
theorem r_cat {l l' : Addr} {ys : List V} (h : H l = some (.lst xs)) (h' : H l' = some (.lst ys)) (h3 : xs.length + ys.length ≤ sizeLine) (q : ∀ p, H p = none → Q (.ref p) (upd H p (.lst (xs ++ ys)))) : rCat (.ref l) (.ref l') H Q := ⟨l, l', xs, ys, rfl, rfl, h, h', h3, q⟩
theorem r_eqD {d e : PyData} (hd : Dp K H x d) (he : Dp K H y e) (sd : SeqAt.shaped d = true) (se : SeqAt.shaped e = true) (q : Q (.bl (PyData.eqv d e)) H) : rEqD K x y H Q := ⟨d, e, hd, he, sd, se, q⟩
theorem r_neD {d e : PyData} (hd : Dp K H x d) (he : Dp K H y e) (sd : SeqAt.shaped d = true) (se : SeqAt.shaped e = true) (q : Q (.bl (!PyData.eqv d e)) H) : rNeD K x y H Q := ⟨d, e, hd, he, sd, se, q⟩
end
end G
/-! ### loops and comprehensions: readings by an invariant -/
namespace G
open PySem PySem.Spec PyProof.Rows L2
section
variable {K : PySem.W.Frag} {σ : L2.St} {H : Hp} {ta tb te : TE} {Q : VK} {D : Ends} {i j : Nat} {v x y : V} {b : Bool} {ts : TS} {g : TG} {tt : TT} {vs : List Nat}
/-- the turns of a for over the walk J -/
def Turns (J : It) (g : TG) (ts : TS) (D : Ends) (σ : L2.St) (H : Hp) : Prop := ∃ W : Nat → Nat → L2.St → Hp → Prop, (∃ m, W 0 m σ H) ∧ ∀ i m σ H, W i m σ H →
  (J.stop i H ∧ D.nx σ H) ∨ (J.go i H ∧ ∃ N : L2.St → Hp → Prop, (∀ σ' H', N σ' H' → ∃ m', m' < m ∧ W (i + 1) m' σ' H') ∧ ∀ x H', J.yld i H x H' → g x σ H' fun σ2 H2 => ts { D with nx := N, ct := N, bk := D.nx } σ2 H2)
def LoopR1 (ws : List V) (g : TG) (ts : TS) (D : Ends) (σ : L2.St) (H : Hp) : Prop := ∃ n : Int, ws = [.int n] ∧ -(2 ^ 62) ≤ n ∧ n < 2 ^ 62 ∧ Turns (Itr 0 n.toNat) g ts D σ H
def LoopR2 (ws : List V) (g : TG) (ts : TS) (D : Ends) (σ : L2.St) (H : Hp) : Prop := ∃ m n : Int, ws = [.int m, .int n] ∧ (-(2 ^ 62) ≤ m ∧ m < 2 ^ 62 ∧ -(2 ^ 62) ≤ n ∧ n < 2 ^ 62) ∧ Turns (Itr m (n - m).toNat) g ts D σ H
def LoopL (K : PySem.W.Frag) (w : V) (g : TG) (ts : TS) (D : Ends) (σ : L2.St) (H : Hp) : Prop := ∃ a, w = .ref a ∧ (∃ xs, SqL K H a xs) ∧ Turns (Itl K a) g ts D σ H
def LoopT (K : PySem.W.Frag) (w : V) (g : TG) (ts : TS) (D : Ends) (σ : L2.St) (H : Hp) : Prop := ∃ a, w = .ref a ∧ (∃ xs, SqT K H a xs) ∧ Turns (Itt K a) g ts D σ H
theorem r_forR1 {ta : TA} (q : ta σ H fun ws H1 => LoopR1 ws g ts D σ H1) : tFor (iRng1 ta) g ts D σ H := q
theorem r_forR2 {ta : TA} (q : ta σ H fun ws H1 => LoopR2 ws g ts D σ H1) : tFor (iRng2 ta) g ts D σ H := q
theorem r_forL (q : te σ H fun w H1 => LoopL K w g ts D σ H1) : tFor (iList K te) g ts D σ H := q
theorem r_forT (q : te σ H fun w H1 => LoopT K w g ts D σ H1) : tFor (iTup K te) g ts D σ H := q
theorem loopR1 {n : Int} (h1 : n < 2 ^ 62) (Pv : Nat → L2.St → Hp → Prop) (h0 : Pv 0 σ H) (hs : ∀ (i : Nat) σ' H', (i : Int) < n → Pv i σ' H' → ts { D with nx := Pv (i + 1), ct := Pv (i + 1), bk := D.nx } (σ'.set j (some (.int (i : Int)))) H')
    (hd : ∀ σ' H', Pv n.toNat σ' H' → D.nx σ' H') (h2 : -(2 ^ 62) ≤ n := by omega) : LoopR1 [.int n] (gName j) ts D σ H :=
  ⟨n, rfl, h2, h1, for_range Pv h0 (fun i σ' H' hi p => by
    have e0 : (0 : Int) + (i : Int) = (i : Int) := Int.zero_add _
    show ts _ (σ'.set j (some (.int ((0 : Int) + (i : Int))))) H'
    rw [e0]
    exact hs i σ' H' (by omega) p) hd⟩
theorem loopR2 {m n : Int} (h : -(2 ^ 62) ≤ m ∧ m < 2 ^ 62 ∧ -(2 ^ 62) ≤ n ∧ n < 2 ^ 62) (Pv : Nat → L2.St → Hp → Prop) (h0 : Pv 0 σ H) (hs : ∀ (i : Nat) σ' H', m + (i : Int) < n → Pv i σ' H' → ts { D with nx := Pv (i + 1), ct := Pv (i + 1), bk := D.nx } (σ'.set j (some (.int (m + (i : Int))))) H')
    (hd : ∀ σ' H', Pv (n - m).toNat σ' H' → D.nx σ' H') : LoopR2 [.int m, .int n] (gName j) ts D σ H :=
  ⟨m, n, rfl, h, for_range Pv h0 (fun i σ' H' hi p => hs i σ' H' (by omega) p) hd⟩
theorem loopL {a : Addr} {xs : List V} (Pv : Nat → L2.St → Hp → Prop) (h0 : Pv 0 σ H) (hl : ∀ i σ' H', i ≤ xs.length → Pv i σ' H' → SqL K H' a xs)
    (hs : ∀ i x σ' H', xs[i]? = some x → Pv i σ' H' → g x σ' H' fun σ2 H2 => ts { D with nx := Pv (i + 1), ct := Pv (i + 1), bk := D.nx } σ2 H2) (hd : ∀ σ' H', Pv xs.length σ' H' → D.nx σ' H') : LoopL K (.ref a) g ts D σ H :=
  ⟨a, rfl, ⟨xs, hl 0 σ H (Nat.zero_le _) h0⟩, for_list Pv h0 hl hs hd⟩
theorem loopT {a : Addr} {xs : List V} (Pv : Nat → L2.St → Hp → Prop) (h0 : Pv 0 σ H) (hl : ∀ i σ' H', i ≤ xs.length → Pv i σ' H' → SqT K H' a xs)
    (hs : ∀ i x σ' H', xs[i]? = some x → Pv i σ' H' → g x σ' H' fun σ2 H2 => ts { D with nx := Pv (i + 1), ct := Pv (i + 1), bk := D.nx } σ2 H2) (hd : ∀ σ' H', Pv xs.length σ' H' → D.nx σ' H') : LoopT K (.ref a) g ts D σ H :=
  ⟨a, rfl, ⟨xs, hl 0 σ H (Nat.zero_le _) h0⟩, for_tup Pv h0 hl hs hd⟩
/-- while: the test is read, then the turn or the end -/
def WNext (Pv : Nat → L2.St → Hp → Prop) (m : Nat) (ts : TS) (D : Ends) (σ : L2.St) (H : Hp) : Prop := ∃ N : L2.St → Hp → Prop, (∀ σ' H', N σ' H' → ∃ m', m' < m ∧ Pv m' σ' H') ∧ ts { D with nx := N, ct := N, bk := D.nx } σ H
theorem wnext {Pv : Nat → L2.St → Hp → Prop} {m : Nat} (q : ts { D with nx := fun σ2 H2 => ∃ m', m' < m ∧ Pv m' σ2 H2, ct := fun σ2 H2 => ∃ m', m' < m ∧ Pv m' σ2 H2, bk := D.nx } σ H) : WNext Pv m ts D σ H := ⟨_, fun _ _ z => z, q⟩
theorem r_while {c : TT} (Pv : Nat → L2.St → Hp → Prop) (m0 : Nat) (h0 : Pv m0 σ H)
    (hs : ∀ m σ' H', Pv m σ' H' → c σ' H' fun b H1 => if b = true then WNext Pv m ts D σ' H1 else D.nx σ' H1) : tWhile c ts D σ H := ⟨Pv, ⟨m0, h0⟩, hs⟩
/-! comprehensions -/
def Comp (J : It) (g : TG) (tt : TT) (te : TE) (vs : List Nat) (σ : L2.St) (H1 : Hp) (Q : VK) : Prop := ∀ D, H1 D = none → ∃ W : Nat → Nat → Hp → Prop, (∃ m, W 0 m (upd H1 D (.lst []))) ∧ ∀ i m H, W i m H →
  (J.stop i H ∧ Q (.ref D) H) ∨ (J.go i H ∧ ∃ Nx : Hp → Prop, (∀ H', Nx H' → ∃ m', m' < m ∧ W (i + 1) m' H') ∧ ∀ x H', J.yld i H x H' → g x (wipe σ vs) H' fun σ2 H2 => wipe σ2 vs = wipe σ vs ∧ tt σ2 H2 fun b H3 =>
    if b = true then te σ2 H3 fun y H4 => ∃ acc, H4 D = some (.lst acc) ∧ acc.length < sizeLine ∧ Nx (upd H4 D (.lst (acc ++ [y]))) else Nx H3)
def CompR1 (ws : List V) (g : TG) (tt : TT) (te : TE) (vs : List Nat) (σ : L2.St) (H : Hp) (Q : VK) : Prop := ∃ n : Int, ws = [.int n] ∧ -(2 ^ 62) ≤ n ∧ n < 2 ^ 62 ∧ Comp (Itr 0 n.toNat) g tt te vs σ H Q
def CompR2 (ws : List V) (g : TG) (tt : TT) (te : TE) (vs : List Nat) (σ : L2.St) (H : Hp) (Q : VK) : Prop := ∃ m n : Int, ws = [.int m, .int n] ∧ (-(2 ^ 62) ≤ m ∧ m < 2 ^ 62 ∧ -(2 ^ 62) ≤ n ∧ n < 2 ^ 62) ∧ Comp (Itr m (n - m).toNat) g tt te vs σ H Q
def CompL (K : PySem.W.Frag) (w : V) (g : TG) (tt : TT) (te : TE) (vs : List Nat) (σ : L2.St) (H : Hp) (Q : VK) : Prop := ∃ a, w = .ref a ∧ (∃ xs, SqL K H a xs) ∧ Comp (Itl K a) g tt te vs σ H Q
def CompT (K : PySem.W.Frag) (w : V) (g : TG) (tt : TT) (te : TE) (vs : List Nat) (σ : L2.St) (H : Hp) (Q : VK) : Prop := ∃ a, w = .ref a ∧ (∃ xs, SqT K H a xs) ∧ Comp (Itt K a) g tt te vs σ H Q
theorem r_lcR1 {ta : TA} (q : ta σ H fun ws H1 => CompR1 ws g tt te vs σ H1 Q) : tLc (iRng1 ta) g tt te vs σ H Q := q
theorem r_lcR2 {ta : TA} (q : ta σ H fun ws H1 => CompR2 ws g tt te vs σ H1 Q) : tLc (iRng2 ta) g tt te vs σ H Q := q
theorem r_lcL (q : ta σ H fun w H1 => CompL K w g tt te vs σ H1 Q) : tLc (iList K ta) g tt te vs σ H Q := q
theorem r_lcT (q : ta σ H fun w H1 => CompT K w g tt te vs σ H1 Q) : tLc (iTup K ta) g tt te vs σ H Q := q
/-- a turn's end: the item y goes onto the new list -/
def CNext (D : Addr) (P : Nat → List V → Hp → Prop) (i : Nat) : VK := fun y H4 => ∃ acc, H4 D = some (.lst acc) ∧ acc.length < sizeLine ∧ ∃ acc', P (i + 1) acc' (upd H4 D (.lst (acc ++ [y]))) ∧ (upd H4 D (.lst (acc ++ [y]))) D = some (.lst acc') ∧ acc'.length = i + 1
theorem cnext {D' : Addr} {P : Nat → List V → Hp → Prop} {acc : List V} (h : H D' = some (.lst acc)) (hl : acc.length = i) (hi : i ≤ 100000) (p : P (i + 1) (acc ++ [y]) (upd H D' (.lst (acc ++ [y])))) : CNext D' P i y H :=
  ⟨acc, h, Nat.lt_of_le_of_lt (show acc.length ≤ 100000 by omega) (by decide), acc ++ [y], p, upd_same, by rw [List.length_append, hl]; rfl⟩
/-- no test; P: the new list's address, the turn, what it holds, the heap -/
theorem compR1 {n : Int} (hn : n ≤ 100000) (P : Addr → Nat → List V → Hp → Prop) (h0 : ∀ D, H D = none → P D 0 [] (upd H D (.lst [])))
    (hs : ∀ D (i : Nat) acc H', H D = none → (i : Int) < n → P D i acc H' → H' D = some (.lst acc) → acc.length = i → te ((wipe σ vs).set j (some (.int (i : Int)))) H' (CNext D (P D) i))
    (hd : ∀ D acc H', H D = none → P D n.toNat acc H' → H' D = some (.lst acc) → acc.length = n.toNat → Q (.ref D) H')
    (hw : ∀ x, wipe ((wipe σ vs).set j (some x)) vs = wipe σ vs := by intro _; rfl) (h2 : -(2 ^ 62) ≤ n := by omega) : CompR1 [.int n] (gName j) tYes te vs σ H Q := by
  refine ⟨n, rfl, h2, by omega, fun D hD => lc_range (lo := 0) (n := n.toNat) (fun i H' => ∃ acc, P D i acc H' ∧ H' D = some (.lst acc) ∧ acc.length = i) ⟨[], h0 D hD, upd_same, rfl⟩ (fun i H' hi p => ?_) (fun H' p => ?_)⟩
  · obtain ⟨acc, p, hD', hl⟩ := p
    have e0 : (0 : Int) + (i : Int) = (i : Int) := Int.zero_add _
    show wipe ((wipe σ vs).set j (some (.int ((0 : Int) + (i : Int))))) vs = wipe σ vs ∧ tYes ((wipe σ vs).set j (some (.int ((0 : Int) + (i : Int))))) H' _
    rw [e0]
    exact ⟨hw _, hs D i acc H' hD (by omega) p hD' hl⟩
  · obtain ⟨acc, p, hD', hl⟩ := p
    exact hd D acc H' hD p hD' hl
theorem compR2 {m n : Int} (hm : -(2 ^ 62) ≤ m ∧ m < 2 ^ 62 ∧ -(2 ^ 62) ≤ n ∧ n < 2 ^ 62) (hn : n - m ≤ 100000) (P : Addr → Nat → List V → Hp → Prop) (h0 : ∀ D, H D = none → P D 0 [] (upd H D (.lst [])))
    (hs : ∀ D (i : Nat) acc H', H D = none → m + (i : Int) < n → P D i acc H' → H' D = some (.lst acc) → acc.length = i → te ((wipe σ vs).set j (some (.int (m + (i : Int))))) H' (CNext D (P D) i))
    (hd : ∀ D acc H', H D = none → P D (n - m).toNat acc H' → H' D = some (.lst acc) → acc.length = (n - m).toNat → Q (.ref D) H')
    (hw : ∀ x, wipe ((wipe σ vs).set j (some x)) vs = wipe σ vs := by intro _; rfl) : CompR2 [.int m, .int n] (gName j) tYes te vs σ H Q := by
  refine ⟨m, n, rfl, hm, fun D hD => lc_range (lo := m) (n := (n - m).toNat) (fun i H' => ∃ acc, P D i acc H' ∧ H' D = some (.lst acc) ∧ acc.length = i) ⟨[], h0 D hD, upd_same, rfl⟩ (fun i H' hi p => ?_) (fun H' p => ?_)⟩
  · obtain ⟨acc, p, hD', hl⟩ := p
    exact ⟨hw _, hs D i acc H' hD (by omega) p hD' hl⟩
  · obtain ⟨acc, p, hD', hl⟩ := p
    exact hd D acc H' hD p hD' hl
theorem compL {a : Addr} {xs : List V} (hx : xs.length ≤ 100000) (P : Addr → Nat → List V → Hp → Prop) (hsq : SqL K H a xs) (h0 : ∀ D, H D = none → P D 0 [] (upd H D (.lst []))) (hl : ∀ D i acc H', H D = none → P D i acc H' → SqL K H' a xs)
    (hs : ∀ D i x acc H', H D = none → xs[i]? = some x → i < xs.length → P D i acc H' → H' D = some (.lst acc) → acc.length = i → g x (wipe σ vs) H' fun σ2 H2 => wipe σ2 vs = wipe σ vs ∧ te σ2 H2 (CNext D (P D) i))
    (hd : ∀ D acc H', H D = none → P D xs.length acc H' → H' D = some (.lst acc) → acc.length = xs.length → Q (.ref D) H') : CompL K (.ref a) g tYes te vs σ H Q := by
  refine ⟨a, rfl, ⟨xs, hsq⟩, fun D hD => lc_list (K := K) (a := a) (xs := xs) (fun i H' => ∃ acc, P D i acc H' ∧ H' D = some (.lst acc) ∧ acc.length = i) ⟨[], h0 D hD, upd_same, rfl⟩ (fun i H' _ p => ?_) (fun i x H' hi p => ?_) (fun H' p => ?_)⟩
  · obtain ⟨acc, p, _⟩ := p
    exact hl D i acc H' hD p
  · obtain ⟨acc, p, hD', hlen⟩ := p
    exact hs D i x acc H' hD hi (List.getElem?_eq_some_iff.mp hi).1 p hD' hlen
  · obtain ⟨acc, p, hD', hlen⟩ := p
    exact hd D acc H' hD p hD' hlen
theorem compT {a : Addr} {xs : List V} (hx : xs.length ≤ 100000) (P : Addr → Nat → List V → Hp → Prop) (hsq : SqT K H a xs) (h0 : ∀ D, H D = none → P D 0 [] (upd H D (.lst []))) (hl : ∀ D i acc H', H D = none → P D i acc H' → SqT K H' a xs)
    (hs : ∀ D i x acc H', H D = none → xs[i]? = some x → i < xs.length → P D i acc H' → H' D = some (.lst acc) → acc.length = i → g x (wipe σ vs) H' fun σ2 H2 => wipe σ2 vs = wipe σ vs ∧ te σ2 H2 (CNext D (P D) i))
    (hd : ∀ D acc H', H D = none → P D xs.length acc H' → H' D = some (.lst acc) → acc.length = xs.length → Q (.ref D) H') : CompT K (.ref a) g tYes te vs σ H Q := by
  refine ⟨a, rfl, ⟨xs, hsq⟩, fun D hD => lc_tup (K := K) (a := a) (xs := xs) (fun i H' => ∃ acc, P D i acc H' ∧ H' D = some (.lst acc) ∧ acc.length = i) ⟨[], h0 D hD, upd_same, rfl⟩ (fun i H' _ p => ?_) (fun i x H' hi p => ?_) (fun H' p => ?_)⟩
  · obtain ⟨acc, p, _⟩ := p
    exact hl D i acc H' hD p
  · obtain ⟨acc, p, hD', hlen⟩ := p
    exact hs D i x acc H' hD hi (List.getElem?_eq_some_iff.mp hi).1 p hD' hlen
  · obtain ⟨acc, p, hD', hlen⟩ := p
    exact hd D acc H' hD p hD' hlen
end
section
variable {K : PySem.W.Frag} {σ : L2.St} {H : Hp} {te : TE} {Q : VK} {D : Ends} {v x y : V} {ts : TS} {g : TG} {a b : Addr} {xs ys : List V}
def LoopZ (K : PySem.W.Frag) (ws : List V) (g : TG) (ts : TS) (D : Ends) (σ : L2.St) (H : Hp) : Prop := ∃ a b xs ys, ws = [.ref a, .ref b] ∧ SqL K H a xs ∧ SqL K H b ys ∧ Turns (Itz K a b) g ts D σ H
theorem r_forZ {ta : TA} (q : ta σ H fun ws H1 => LoopZ K ws g ts D σ H1) : tFor (iZip K ta) g ts D σ H := q
theorem loopZ (hl : xs.length = ys.length) (Pv : Nat → L2.St → Hp → Prop) (h0 : Pv 0 σ H) (hq : ∀ i σ H, Pv i σ H → SqL K H a xs ∧ SqL K H b ys)
    (hs : ∀ (i : Nat) (x y : V) (T : Addr) (σ : L2.St) (H : Hp), xs[i]? = some x → ys[i]? = some y → Pv i σ H → H T = none → g (.ref T) σ (upd H T (.tup [x, y])) fun σ2 H2 => ts { D with nx := Pv (i + 1), ct := Pv (i + 1), bk := D.nx } σ2 H2) (hd : ∀ σ H, Pv xs.length σ H → D.nx σ H) :
    LoopZ K [.ref a, .ref b] g ts D σ H := ⟨a, b, xs, ys, rfl, (hq _ _ _ h0).1, (hq _ _ _ h0).2, RZ.for_zipL hl Pv h0 hq hs hd⟩
theorem r_sl {r : V → Option Int → Option Int → Hp → VK → Prop} {tl th : TO} (q : te σ H fun x H1 => tl σ H1 fun l H2 => th σ H2 fun u H3 => r x l u H3 Q) : tSl r te tl th σ H Q := q
theorem r_noPart {R : Option Int → Hp → Prop} (q : R none H) : tNoPart σ H R := q
theorem r_part {R : Option Int → Hp → Prop} (q : te σ H fun x H1 => ∃ i, x = .int i ∧ R (some i) H1) : tPart te σ H R := q
theorem r_partI {n : Int} {R : Int → Prop} (q : R n) : ∃ i, V.int n = .int i ∧ R i := ⟨n, rfl, q⟩
theorem r_slT {lo hi : Option Int} (h : SqT K H a xs) (hw : ¬ (HT.sIx xs.length 0 lo = 0 ∧ HT.sIx xs.length xs.length hi = xs.length)) (q : ∀ p, H p = none → Q (.ref p) (upd H p (.tup (cutV xs lo hi)))) : rSlA K (.ref a) lo hi H Q := ⟨a, xs, rfl, h, fun z => absurd z hw, fun _ => q⟩
/-- a part of a tuple, whatever object it is -/
theorem r_slA {lo hi : Option Int} (h : SqT K H a xs) (q : ∀ p H', Same H H' → SqT K H' p (cutV xs lo hi) → Q (.ref p) H') : rSlA K (.ref a) lo hi H Q := by
  refine ⟨a, xs, rfl, h, fun hw => q a H (fun _ _ z => z) ?_, fun _ p hp => q p _ (fun c o e => ?_) (SqT.of upd_same)⟩
  · have e : cutV xs lo hi = xs := by
      unfold cutV
      rw [hw.1, hw.2, List.drop_zero, Nat.sub_zero, List.take_length]
    rw [e]; exact h
  · rw [upd_ne (ne_of_none e hp)]; exact e
theorem r_catA (h : SqT K H a xs) (h' : SqT K H b ys) (hl : xs.length + ys.length ≤ 1000) (q : ∀ p H', Same H H' → SqT K H' p (xs ++ ys) → Q (.ref p) H') : rCatA K (.ref a) (.ref b) H Q := by
  refine ⟨a, b, xs, ys, rfl, rfl, h, h', Nat.le_trans hl (by decide), fun e => q b H (fun _ _ z => z) ?_, fun _ e => q a H (fun _ _ z => z) ?_, fun _ _ p hp => q p _ (fun c o e => ?_) (SqT.of upd_same)⟩
  · rw [e]; exact h'
  · rw [e, List.append_nil]; exact h
  · rw [upd_ne (ne_of_none e hp)]; exact e
end
end G
/-! ### calls of a def with a star parameter; in a try or not -/
namespace G
open PySem PySem.Spec PyProof.Rows L2
section
variable {X : Cx} {CX : CXT} {k : Nat} {f : Addr} {sp : Sp} {E : L2.St → XK} {x : Str} {p pos : Pos} {e : Expr} {es : List Expr} {t : TA}
def tCallR (sp : Sp) (E : L2.St → XK) (t : TA) : TE := fun σ H Q => t σ H fun vs H1 => sp vs H1 Q (E σ)
theorem run_fnRS {pins : List (Addr × Obj)} {σ : L2.St} {H : Hp} {s : Shared} {Q : VK} {us : List Value} {vs : List V} (F : FnR X.prog X.w X.K X.mg X.base CX k f sp) (hr : Room k X.A) (hx : PassesAt CX X σ (E σ))
    (I : Inv X pins σ H s) (r : Vals vs us) (h : sp vs H Q (E σ)) : wpAny (model X.prog X.w) X.A (call (.ref f) us) (EP X pins σ Q) X.xe s := by
  refine wpAny_call (codeAny_mono (F X.A X.stack s H us vs Q (E σ) hr I.env0 r h) fun r s' hq => ?_)
  cases r with
  | error e => exact hx pins H s e s' I hq
  | ok fl =>
    cases fl with
    | ret u => exact I.after hq
    | next => exact False.elim hq
    | brk => exact False.elim hq
    | cont => exact False.elim hq
theorem pe_callR (F : FnR X.prog X.w X.K X.mg X.base CX k f sp) (hr : Room k X.A) (hg : Gl X x) (hm : X.mg x = some (.ref f)) (hk : PySem.W.keepIn X.K (.ref f) = true) (hx : ∀ σ, PassesAt CX X σ (E σ))
    (ha : PA X (e :: es) t) (hdb : (x == ("__debug__" : Str)) = false := by decide) (he : starEach (e :: es) X.env = (false, eval e X.env) :: starEach es X.env := by rfl) (hpl : (backTo pos (starEach es X.env)).any (·.1) = false := by rfl) :
    PE X (.Call (.Name x p) (e :: es) [] pos) (tCallR sp E t) := by
  refine ⟨fun pins s σ H Q I h => ?_⟩
  refine wpAny_Call_Name_kw (ld_glob I hg hm ?_ hdb)
  refine PySem.W.callWith_K (h₀ := X.base) I.ok.mod.kin hk (thn (ha.run pos pins s σ H _ I h) fun us s1 ⟨vs, H1, I1, r, q⟩ => ⟨I1.kIn, ?_⟩) he hpl
  exact run_fnRS F hr (hx σ) I1 r q
theorem pe_callR0 (F : FnR X.prog X.w X.K X.mg X.base CX k f sp) (hr : Room k X.A) (hg : Gl X x) (hm : X.mg x = some (.ref f)) (hk : PySem.W.keepIn X.K (.ref f) = true) (hx : ∀ σ, PassesAt CX X σ (E σ))
    (hdb : (x == ("__debug__" : Str)) = false := by decide) : PE X (.Call (.Name x p) [] [] pos) (tCallR sp E tNil) := by
  refine ⟨fun pins s σ H Q I h => ?_⟩
  refine wpAny_Call_Name_kw (ld_glob I hg hm ?_ hdb)
  exact PySem.W.callWith_K0 I.kIn hk (run_fnRS (us := []) F hr (hx σ) I .nil h)
theorem passAll {E : XK} (hx : Passes CX X E) : ∀ σ, PassesAt CX X σ ((fun _ => E) σ) := fun σ pins H s e s' I c => hx pins σ H s e s' I c
end
section
variable {σ : L2.St} {H : Hp} {Q : VK} {sp : Sp} {E : L2.St → XK} {t : TA}
theorem r_callR (q : t σ H fun vs H1 => sp vs H1 Q (E σ)) : tCallR sp E t σ H Q := q
end
end G
/-! ### rules with the written part K said -/
namespace G
open PySem PySem.Spec PyProof.Rows L2
section
variable {X : Cx} {K : PySem.W.Frag}
theorem kIxL (h : X.K = K := by rfl) : IxR X (rIxL K) := h ▸ ix_list
theorem kIxT (h : X.K = K := by rfl) : IxR X (rIxT K) := h ▸ ix_tup
theorem kLen (h : X.K = K := by rfl) : CallR X (.builtin "len") (rLn K) := h ▸ cLen
theorem kLstOf (h : X.K = K := by rfl) : CallR X (.type "list") (rLstOf K) := h ▸ cLstOf
theorem kTupOf (h : X.K = K := by rfl) : CallR X (.type "tuple") (rTupOf K) := h ▸ cTupOf
theorem kIsi (h : X.K = K := by rfl) : CallR X (.builtin "isinstance") (rIsi K) := h ▸ call_isi
theorem kIsiT (h : X.K = K := by rfl) : CallR X (.builtin "isinstance") (rIsiT K) := h ▸ call_isiT
theorem kSum (hc : X.calm = true) (h : X.K = K := by rfl) : CallR X (.builtin "sum") (rSum K) := h ▸ cr_sum hc
theorem kAll (hc : X.calm = true) (h : X.K = K := by rfl) : CallR X (.builtin "all") (rAll K) := h ▸ cr_all hc
theorem kAny (hc : X.calm = true) (h : X.K = K := by rfl) : CallR X (.builtin "any") (rAny K) := h ▸ cr_any hc
theorem kMaxL (hc : X.calm = true) (h : X.K = K := by rfl) : CallR X (.builtin "max") (rMax K) := h ▸ cr_max hc
theorem kMinL (hc : X.calm = true) (h : X.K = K := by rfl) : CallR X (.builtin "min") (rMin K) := h ▸ cr_min hc
theorem kEqD (hu : X.A.units + 64 < cLine) (h : X.K = K := by rfl) : OpR X (compareOp .Eq) (rEqD K) := h ▸ op_eqD hu
theorem kNeD (hu : X.A.units + 64 < cLine) (h : X.K = K := by rfl) : OpR X (compareOp .NotEq) (rNeD K) := h ▸ op_neD hu
theorem kIn (h : X.K = K := by rfl) : OpR X (compareOp .In) (rIn K false) := h ▸ op_in_seq
theorem kNotIn (h : X.K = K := by rfl) : OpR X (compareOp .NotIn) (rIn K true) := h ▸ op_notIn_seq
theorem kLtT (hu : X.A.units < cLine) (h : X.K = K := by rfl) : OpR X (compareOp .Lt) (rLtT K) := h ▸ op_ltT hu
theorem kLeT (hu : X.A.units < cLine) (h : X.K = K := by rfl) : OpR X (compareOp .LtE) (rLeT K) := h ▸ op_leT hu
theorem kCatT (h : X.K = K := by rfl) : OpR X (binaryOp .Add) (rCatA K) := h ▸ op_catA
theorem kSlT (h : X.K = K := by rfl) : SlR X (rSlA K) := h ▸ sl_tupA
theorem kSlL (h : X.K = K := by rfl) : SlR X (rSlL K) := h ▸ sl_list
theorem kTru {a : Expr} {ta : TE} (ha : PE X a ta) (h : X.K = K := by rfl) (he : ∀ whole, isTrue a X.env whole = (do let v ← whole; standAt a.pos; holding [v] (truthy v)) := by intro _; rfl) : PT X a (tTru K ta) := h ▸ pt_tru ha he
theorem kpiL {tg l : Expr} {tl : TE} (hl : PE X l tl) (h : X.K = K := by rfl) : PI X tg l (iList K tl) := h ▸ pi_list hl
theorem kpiT {tg l : Expr} {tl : TE} (hl : PE X l tl) (h : X.K = K := by rfl) : PI X tg l (iTup K tl) := h ▸ pi_tup hl
theorem kpiEnum {e : Expr} {ta : TA} {p pos tpos : Pos} {elts : List Expr} {kk : Nat} (hg : Gl X "enumerate") (hm : X.mg "enumerate" = none) (ha : PA X [e] ta) (h : X.K = K := by rfl) (hs : starEach [e] X.env = [(false, eval e X.env)] := by rfl) :
    PI X (.Tuple elts kk tpos) (.Call (.Name "enumerate" p) [e] [] pos) (iEnum K ta) := h ▸ pi_enum hg hm ha hs
theorem kpiZip {e e2 : Expr} {ta : TA} {p pos tpos : Pos} {elts : List Expr} {kk : Nat} (hg : Gl X "zip") (hm : X.mg "zip" = none) (ha : PA X [e, e2] ta) (h : X.K = K := by rfl)
    (hs : starEach [e, e2] X.env = (false, eval e X.env) :: starEach [e2] X.env := by rfl) (hpl : (backTo pos (starEach [e2] X.env)).any (·.1) = false := by rfl) :
    PI X (.Tuple elts kk tpos) (.Call (.Name "zip" p) [e, e2] [] pos) (iZip K ta) := h ▸ pi_zip hg hm ha hs hpl
theorem kpgTup {es : List Expr} {k : Nat} {t : TGs} {n : Nat} {pos : Pos} (hc : X.calm = true) (h : PGs X es t) (hK : X.K = K := by rfl)
    (hn : (assignEach es X.env).length = n := by rfl) (hst : (assignEach es X.env).findIdx? (·.1) = none := by rfl) : PG X (.Tuple es k pos) (gTup K n t) := hK ▸ pg_tup hc h hn hst
theorem kFld {o : Expr} {ta : TE} {f : Str} {p : Pos} (h : PE X (.Attribute o f p) (tFld X.K ta f)) (hK : X.K = K := by rfl) : PE X (.Attribute o f p) (tFld K ta f) := hK ▸ h
theorem kBM {e : Expr} {T : String} {r : V → List V → Hp → VK → Prop} {to : TE} {t : TA} (h : PE X e (tBM X.K T r to t)) (hK : X.K = K := by rfl) : PE X e (tBM K T r to t) := hK ▸ h
end
end G
namespace G
open PySem PySem.Spec PyProof.Rows L2
theorem kBM0 {X : Cx} {K : PySem.W.Frag} {e : Expr} {T : String} {r : V → List V → Hp → VK → Prop} {to : TE} (h : PE X e (tBM0 X.K T r to)) (hK : X.K = K := by rfl) : PE X e (tBM0 K T r to) := hK ▸ h
theorem kSFld {X : Cx} {K : PySem.W.Frag} {st : Stmt} {ta tv : TE} {f : Str} (h : PS X st (sFld X.K ta tv f)) (hK : X.K = K := by rfl) : PS X st (sFld K ta tv f) := hK ▸ h
end G
/-! ### data with a Lean type, at the layer's level -/
namespace G
open PySem PySem.Spec PyProof.Rows L2 PySem.W
/-- v holds x -/
def Hd {α : Type} [DecidableEq α] [Datum α] (K : PySem.W.Frag) (H : Hp) (v : V) (x : α) : Prop := Dp K H v (Datum.toD x)
def Hds {α : Type} [DecidableEq α] [Datum α] (K : PySem.W.Frag) (H : Hp) (vs : List V) (xs : List α) : Prop := DpAll K H vs (xs.map Datum.toD)
class Lay (α : Type) [DecidableEq α] [Datum α] : Prop where
  lay : ∀ a : α, (Datum.toD a).canLay0 = true
instance : Lay Int := ⟨fun _ => rfl⟩
instance : Lay Bool := ⟨fun _ => rfl⟩
instance : Lay Unit := ⟨fun _ => rfl⟩
section
variable {α β : Type} [DecidableEq α] [Datum α] [DecidableEq β] [Datum β]
theorem layAll [Lay α] : ∀ xs : List α, PyData.canLayAll0 (xs.map Datum.toD) = true
  | [] => rfl
  | x :: xs => by
    rw [List.map_cons, PyData.canLayAll0, Lay.lay x, layAll xs] <;> rfl
instance [Lay α] : Lay (List α) := ⟨fun xs => layAll xs⟩
instance [Lay α] : Lay (Tup α) := ⟨fun t => layAll t.items⟩
instance [Lay α] [Lay β] : Lay (α × β) := ⟨fun p => by
  show PyData.canLayAll0 [Datum.toD p.1, Datum.toD p.2] = true
  rw [PyData.canLayAll0, PyData.canLayAll0, Lay.lay p.1, Lay.lay p.2] <;> rfl⟩
theorem shapedD [Lay α] (x : α) (h : Datum.depth α ≤ 64) : SeqAt.shaped (Datum.toD x) = true := by
  unfold SeqAt.shaped
  rw [Lay.lay x, decide_eq_true (Nat.le_trans (Datum.depth_le x) h)] <;> rfl
end
section
variable {K : PySem.W.Frag} {H H' : Hp} {α β : Type} [DecidableEq α] [Datum α] [DecidableEq β] [Datum β]
mutual
theorem Dp.same (s : Same H H') : ∀ (d : PyData) (v : V), Dp K H v d → Dp K H' v d
  | .none, _, h => by cases h; exact .non
  | .bool b, _, h => by cases h; exact .bl b
  | .int i, _, h => by cases h; exact .int i
  | .str x, _, h => by cases h; exact .str x
  | .list ds, _, h => by
    cases h with
    | lst hs ha => exact .lst (s.seq hs) (DpAll.same s ds _ ha)
  | .tuple ds, _, h => by
    cases h with
    | tup hs ha =>
      refine .tup ?_ (DpAll.same s ds _ ha)
      rcases hs with (hs | ⟨o, hs⟩) | hs
      · exact .inl (.inl (s _ _ hs))
      · exact .inl (.inr ⟨o, s _ _ hs⟩)
      · exact .inr hs
  | .dict _, _, h => by cases h
theorem DpAll.same (s : Same H H') : ∀ (ds : List PyData) (vs : List V), DpAll K H vs ds → DpAll K H' vs ds
  | [], _, h => by cases h; exact .nil
  | d :: ds, _, h => by
    cases h with
    | cons h1 h2 => exact .cons (Dp.same s d _ h1) (DpAll.same s ds _ h2)
end
theorem Hd.same {v : V} {x : α} (h : Hd K H v x) (s : Same H H') : Hd K H' v x := Dp.same s _ _ h
theorem Hds.same {vs : List V} {xs : List α} (h : Hds K H vs xs) (s : Same H H') : Hds K H' vs xs := DpAll.same s _ _ h
/-- no list within -/
class Imm (α : Type) [DecidableEq α] [Datum α] : Prop where
  imm : ∀ {K : PySem.W.Frag} {l : Addr} {H H' : Hp} {v : V} (a : α), Kp l H H' → (∃ xs, H l = some (.lst xs)) → Hd K H v a → Hd K H' v a
theorem sqT_kp {l a : Addr} {xs : List V} (k : Kp l H H') (hl : ∃ xs, H l = some (.lst xs)) (h : SqT K H a xs) : SqT K H' a xs := by
  obtain ⟨ys, hl⟩ := hl
  rcases h with (h | ⟨o, h⟩) | h
  · exact .inl (.inl (k _ _ (ne_of h hl (by intro z; cases z)) h))
  · exact .inl (.inr ⟨o, k _ _ (ne_of h hl (by intro z; cases z)) h⟩)
  · exact .inr h
instance : Imm Int := ⟨fun i _ _ h => by cases h; exact .int i⟩
instance : Imm Bool := ⟨fun i _ _ h => by cases h; exact .bl i⟩
instance : Imm Unit := ⟨fun _ _ _ h => by cases h; exact .non⟩
instance : Imm Str := ⟨fun i _ _ h => by cases h; exact .str i⟩
theorem imms [Imm α] {l : Addr} (k : Kp l H H') (hl : ∃ xs, H l = some (.lst xs)) : ∀ {xs : List α} {vs : List V}, Hds K H vs xs → Hds K H' vs xs
  | [], _, h => by cases h; exact .nil
  | x :: xs, _, h => by
    cases h with
    | cons h1 h2 => exact .cons (Imm.imm x k hl h1) (imms (xs := xs) k hl h2)
instance [Imm α] : Imm (Tup α) := ⟨fun t k hl h => by
  cases h with
  | tup hs ha => exact .tup (sqT_kp k hl hs) (imms (xs := t.items) k hl ha)⟩
instance [Imm α] [Imm β] : Imm (α × β) := ⟨fun p k hl h => by
  cases h with
  | tup hs ha =>
    cases ha with
    | cons h1 h2 =>
      cases h2 with
      | cons h2 h3 =>
        cases h3
        exact .tup (sqT_kp k hl hs) (.cons (Imm.imm p.1 k hl h1) (.cons (Imm.imm p.2 k hl h2) .nil))⟩
theorem Hd.kp [Imm α] {l : Addr} {v : V} {x : α} (h : Hd K H v x) (k : Kp l H H') (d : DrAt H l) : Hd K H' v x := by
  obtain ⟨a, b, e, _⟩ := d
  exact Imm.imm x k ⟨_, e⟩ h
theorem Hds.kp [Imm α] {l : Addr} {vs : List V} {xs : List α} (h : Hds K H vs xs) (k : Kp l H H') (d : DrAt H l) : Hds K H' vs xs := by
  obtain ⟨a, b, e, _⟩ := d
  exact imms k ⟨_, e⟩ h
/-! how it is known, what it gives -/
theorem hd_int {i : Int} : Hd K H (.int i) i := .int i
theorem hd_bool {b : Bool} : Hd K H (.bl b) b := .bl b
theorem hd_list {a : Addr} {vs : List V} {xs : List α} (h : SqL K H a vs) (r : Hds K H vs xs) : Hd K H (.ref a) xs := .lst h r
theorem hd_tup {a : Addr} {vs : List V} {xs : List α} (h : SqT K H a vs) (r : Hds K H vs xs) : Hd K H (.ref a) (⟨xs⟩ : Tup α) := .tup h r
theorem hd_pair {a : Addr} {v w : V} {x : α} {y : β} (h : SqT K H a [v, w]) (r : Hd K H v x) (q : Hd K H w y) : Hd K H (.ref a) (x, y) := .tup h (.cons r (.cons q .nil))
theorem hds_nil : Hds K H [] ([] : List α) := .nil
theorem hds_cons {v : V} {vs : List V} {x : α} {xs : List α} (h : Hd K H v x) (r : Hds K H vs xs) : Hds K H (v :: vs) (x :: xs) := .cons h r
theorem hds_ints : ∀ ns : List Int, Hds K H (ns.map V.int) ns
  | [] => .nil
  | n :: ns => .cons (.int n) (hds_ints ns)
theorem Hd.int_eq {v : V} {i : Int} (h : Hd K H v i) : v = .int i := by cases h; rfl
theorem Hd.bool_eq {v : V} {b : Bool} (h : Hd K H v b) : v = .bl b := by cases h; rfl
theorem Hd.list_of {v : V} {xs : List α} (h : Hd K H v xs) : ∃ a vs, v = .ref a ∧ SqL K H a vs ∧ Hds K H vs xs := by
  cases h with
  | lst hs ha => exact ⟨_, _, rfl, hs, ha⟩
theorem Hd.tup_of {v : V} {t : Tup α} (h : Hd K H v t) : ∃ a vs, v = .ref a ∧ SqT K H a vs ∧ Hds K H vs t.items := by
  cases h with
  | tup hs ha => exact ⟨_, _, rfl, hs, ha⟩
theorem Hd.pair_of {v : V} {p : α × β} (h : Hd K H v p) : ∃ a x y, v = .ref a ∧ SqT K H a [x, y] ∧ Hd K H x p.1 ∧ Hd K H y p.2 := by
  cases h with
  | tup hs ha =>
    cases ha with
    | cons h1 h2 =>
      cases h2 with
      | cons h2 h3 =>
        cases h3
        exact ⟨_, _, _, rfl, hs, h1, h2⟩
theorem Hd.pt_of {v : V} {p : Int × Int} (h : Hd K H v p) : ∃ a, v = .ref a ∧ SqT K H a [.int p.1, .int p.2] := by
  obtain ⟨a, x, y, rfl, hs, h1, h2⟩ := h.pair_of
  rw [h1.int_eq, h2.int_eq] at hs
  exact ⟨a, rfl, hs⟩
theorem Hds.ints_eq : ∀ {vs : List V} {ns : List Int}, Hds K H vs ns → vs = ns.map V.int
  | _, [], h => by cases h; rfl
  | _, n :: ns, h => by
    cases h with
    | cons h1 h2 =>
      have e1 := Hd.int_eq (i := n) h1
      have e2 := Hds.ints_eq (ns := ns) h2
      rw [e1, e2]; rfl
theorem Hds.bools_eq : ∀ {vs : List V} {ns : List Bool}, Hds K H vs ns → vs = ns.map V.bl
  | _, [], h => by cases h; rfl
  | _, n :: ns, h => by
    cases h with
    | cons h1 h2 =>
      have e1 := Hd.bool_eq (b := n) h1
      have e2 := Hds.bools_eq (ns := ns) h2
      rw [e1, e2]; rfl
theorem hds_bools : ∀ ns : List Bool, Hds K H (ns.map V.bl) ns
  | [] => .nil
  | n :: ns => .cons (.bl n) (hds_bools ns)
theorem Hds.length : ∀ {vs : List V} {xs : List α}, Hds K H vs xs → vs.length = xs.length
  | _, [], h => by cases h; rfl
  | _, _ :: xs, h => by
    cases h with
    | cons h1 h2 => exact congrArg (· + 1) (Hds.length (xs := xs) h2)
theorem Hds.at : ∀ {vs : List V} {xs : List α} {i : Nat} {x : α}, Hds K H vs xs → xs[i]? = some x → ∃ v, vs[i]? = some v ∧ Hd K H v x
  | _, [], _, _, _, e => by simp at e
  | _, y :: xs, i, x, h, e => by
    cases h with
    | cons h1 h2 =>
      cases i with
      | zero =>
        have e' : y = x := by simpa using e
        subst e'
        exact ⟨_, rfl, h1⟩
      | succ i =>
        obtain ⟨v, e1, e2⟩ := Hds.at (xs := xs) (i := i) (x := x) h2 (by simpa using e)
        exact ⟨v, by simpa using e1, e2⟩
theorem Hds.at' {vs : List V} {xs : List α} {i : Nat} {v : V} (h : Hds K H vs xs) (e : vs[i]? = some v) : ∃ x, xs[i]? = some x ∧ Hd K H v x := by
  have hl := h.length
  have hi : i < vs.length := (List.getElem?_eq_some_iff.mp e).1
  obtain ⟨w, e1, e2⟩ := h.at (i := i) (x := xs[i]'(by omega)) (by simp)
  rw [e] at e1
  cases e1
  exact ⟨_, by simp, e2⟩
theorem Hds.append : ∀ {vs ws : List V} {xs ys : List α}, Hds K H vs xs → Hds K H ws ys → Hds K H (vs ++ ws) (xs ++ ys)
  | _, _, [], _, h, q => by cases h; exact q
  | _, _, x :: xs, _, h, q => by
    cases h with
    | cons h1 h2 => exact .cons h1 (Hds.append (xs := xs) h2 q)
theorem Hds.take : ∀ {vs : List V} {xs : List α} (n : Nat), Hds K H vs xs → Hds K H (vs.take n) (xs.take n)
  | _, _, 0, _ => .nil
  | _, [], n + 1, h => by cases h; exact .nil
  | _, x :: xs, n + 1, h => by
    cases h with
    | cons h1 h2 => exact .cons h1 (Hds.take (xs := xs) n h2)
theorem Hds.drop : ∀ {vs : List V} {xs : List α} (n : Nat), Hds K H vs xs → Hds K H (vs.drop n) (xs.drop n)
  | _, _, 0, h => h
  | _, [], n + 1, h => by cases h; exact .nil
  | _, x :: xs, n + 1, h => by
    cases h with
    | cons h1 h2 => exact Hds.drop (xs := xs) n h2
theorem Hds.reverse : ∀ {vs : List V} {xs : List α}, Hds K H vs xs → Hds K H vs.reverse xs.reverse
  | _, [], h => by cases h; exact .nil
  | _, x :: xs, h => by
    cases h with
    | cons h1 h2 =>
      rw [List.reverse_cons, List.reverse_cons]
      exact (Hds.reverse (xs := xs) h2).append (.cons h1 .nil)
/-- an item of a list at a place within it -/
theorem r_pickI {Q : VK} {p : Addr} {n : Int} (ns : List Int) (h : SqL K H p (ns.map V.int)) (h0 : 0 ≤ n) (h1 : n < ns.length) (q : ∀ z, z ∈ ns → Q (.int z) H) : rIxL K (.ref p) (.int n) H Q := by
  obtain ⟨j, rfl⟩ : ∃ j : Nat, n = (j : Int) := ⟨n.toNat, by omega⟩
  have hj : j < ns.length := by omega
  exact r_ixL h (atI_nat (by rw [List.getElem?_map, List.getElem?_eq_getElem hj]; rfl)) (q _ (List.getElem_mem hj))
theorem r_pick {Q : VK} {p : Addr} {n : Int} {xs : List V} (h : SqL K H p xs) (h0 : 0 ≤ n) (h1 : n < xs.length) (q : ∀ v, v ∈ xs → Q v H) : rIxL K (.ref p) (.int n) H Q := by
  obtain ⟨j, rfl⟩ : ∃ j : Nat, n = (j : Int) := ⟨n.toNat, by omega⟩
  have hj : j < xs.length := by omega
  exact r_ixL h (atI_nat (List.getElem?_eq_getElem hj)) (q _ (List.getElem_mem hj))
/-- a point, or not -/
inductive PtB (K : PySem.W.Frag) (H : Hp) : V → Bool → Prop where
  | yes {v : V} (p : Int × Int) : Hd K H v p → PtB K H v true
  | kind {v : V} {n : String} : Kd K H v n → n ≠ "tuple" → PtB K H v false
  | len {a : Addr} {xs : List V} : SqT K H a xs → xs.length ≠ 2 → PtB K H (.ref a) false
  | item {a : Addr} {x y : V} {m n : String} : SqT K H a [x, y] → Kd K H x m → Kd K H y n → (isI x && isI y) = false → PtB K H (.ref a) false
theorem PtB.same {v : V} {b : Bool} (h : PtB K H v b) (s : Same H H') : PtB K H' v b := by
  cases h with
  | yes p h => exact .yes p (h.same s)
  | kind h e => exact .kind (h.same s) e
  | len h e => exact .len (sqT_same s h) e
  | item h h1 h2 e => exact .item (sqT_same s h) (h1.same s) (h2.same s) e
/-- == of data -/
theorem r_eqH [Lay α] {x y : V} {a b : α} {Q : VK} (hx : Hd K H x a) (hy : Hd K H y b) (q : Q (.bl (decide (a = b))) H) (h : Datum.depth α ≤ 64 := by decide) : rEqD K x y H Q :=
  r_eqD hx hy (shapedD a h) (shapedD b h) (by rw [Datum.eqv]; exact q)
theorem r_neH [Lay α] {x y : V} {a b : α} {Q : VK} (hx : Hd K H x a) (hy : Hd K H y b) (q : Q (.bl (!decide (a = b))) H) (h : Datum.depth α ≤ 64 := by decide) : rNeD K x y H Q :=
  r_neD hx hy (shapedD a h) (shapedD b h) (by rw [Datum.eqv]; exact q)
end
/-- both coordinates have fewer than n bits -/
def PBd (n : Nat) (p : Int × Int) : Prop := Bd n p.1 ∧ Bd n p.2
section
variable {K : PySem.W.Frag} {H H' : Hp} {α : Type} [DecidableEq α] [PySem.W.Datum α] [PySem.W.SomeDatum α]
instance [Lay α] : Lay (Option α) := ⟨fun o => by
  cases o with
  | none => rfl
  | some a => exact Lay.lay a⟩
instance [Imm α] : Imm (Option α) := ⟨fun o k hl h => by
  cases o with
  | none => cases h; exact .non
  | some a => exact Imm.imm a k hl h⟩
/-- None or an integer -/
def optI : Option Int → V
  | none => .non
  | some i => .int i
theorem hd_optI (o : Option Int) : Hd K H (optI o) o := by
  cases o with
  | none => exact .non
  | some i => exact .int i
theorem hds_optI : ∀ os : List (Option Int), Hds K H (os.map optI) os
  | [] => .nil
  | o :: os => .cons (hd_optI o) (hds_optI os)
end
end G
/-! ### == and != of instances by an own __eq__ -/
namespace G
open PySem PySem.Spec PyProof.Rows L2
section
variable {M : Model} {prog : Program} {w : World} {A : Around} {E : Value → Shared → Prop} {s : Shared} {K : PySem.W.Frag} {x C f : Addr} {ox : Obj} {od : Option Obj} {b tb : Value}
theorem ifBound_ne {args : List Value} {Q : Option Value → Shared → Prop} (X : K.In s.heap) (I : PySem.W.InstAt s.heap x ox C od) (hs : PySem.W.findIn K (.ref C) "__ne__" = some (some (.builtin "object.__ne__")))
    (h : wpAny M A (call (.builtin "object.__ne__") (.ref x :: args)) (fun v => Q (some v)) E s) : wpAny M A (callSpecialIfBound? (.ref x) "__ne__" args) Q E s := by
  simp only [callSpecialIfBound?, bindSpecialIfBound?]
  refine wpAny_holding (wpAny_bind (wpAny_bind (wpAny_bind (I.type.here ((PySem.W.looks_findIn X hs).here ?_)))))
  refine wpAny_bind (wpAny_askSetting (wpAny_ite ?_))
  have fin : wpAny M A (call (.builtin "object.__ne__") ([.ref x] ++ args) >>= fun v => pure (some v)) Q E s := wpAny_bind (wpAny_mono h (fun v s' h' => wpAny_pure h') fun _ _ h' => h')
  split
  · exact wpAny_bind (wpAny_of_eq (F.cmp_object.ne.bind _) (wpAny_pure (by exact fin)))
  · exact wpAny_tryCatch (wpAny_bind (wpAny_of_eq (F.cmp_object.ne.bind _) (wpAny_pure (by exact fin))))
theorem objNe_at {Q : Fin → Shared → Prop} (X : K.In s.heap) (I : PySem.W.InstAt s.heap x ox C od) (hs : PySem.W.findIn K (.ref C) "__eq__" = some (some (.ref f))) (hf : PySem.W.isFn K (.ref f) = true) (hu : A.units < cLine)
    (hcall : wpAny (model prog w) A (call (.ref f) [.ref x, b]) (fun v s' => ∃ c, v = .bool c ∧ Q (.done (.ret (.bool (!c)))) s') E s) :
    wpAny (model prog w) A (Builtin.«object.__ne__» ⟨[.ref x, b], []⟩) Q E s := by
  unfold Builtin.«object.__ne__»
  repeat (first
    | with_reducible refine wpAny_cRoomFor hu ?_
    | (refine wpAny_bind (m := callSpecialIfBound? (.ref x) (Str.ofString "__eq__") [b])
        (PySem.W.ifBound_K X I hs hf (wpAny_mono hcall (fun r s' hr => by
          obtain ⟨c, rfl, hq⟩ := hr
          repeat (first | exact hq | exact wpAny_pure hq | exact wpAny_truthy_bool hq | (refine wpAny_bind (m := truthy (.bool _)) (wpAny_truthy_bool ?_)) | wp_step)) fun _ _ e => e)))
    | wp_step)
theorem ne_K {Q : Value → Shared → Prop} (hu : A.units + 1 < cLine) (X : K.In s.heap) (I : PySem.W.InstAt s.heap x ox C od) (hb : PySem.W.Looks (model prog w) s.heap (typeOf b) tb) (hn : PySem.W.notFirst K C tb = true)
    (hne : PySem.W.findIn K (.ref C) "__ne__" = some (some (.builtin "object.__ne__"))) (hs : PySem.W.findIn K (.ref C) "__eq__" = some (some (.ref f))) (hf : PySem.W.isFn K (.ref f) = true) (hm : PySem.W.mroIn K C (.type "object") = some true)
    (hcall : wpAny (model prog w) A.in1 (call (.ref f) [.ref x, b]) (fun v s' => ∃ c, v = .bool c ∧ Q (.bool (!c)) s') E s) : wpAny (model prog w) A (richCompare .NotEq (.ref x) b) Q E s := by
  have one : wpAny (model prog w) A (tryCompare (.ref x) (cmpInfo .NotEq).2.1 b) (fun r s' => ∃ v, r = some v ∧ Q v s') E s := by
    show wpAny (model prog w) A (tryCompare (.ref x) "__ne__" b) _ E s
    unfold tryCompare
    refine wpAny_bind (ifBound_ne X I hne (wpAny_call (codeAny_call_builtin F.cmp_object.ne.plain F.cmpEntry_ne (PySem.W.check_slot F.cmpKind_ne F.cmpSplit_ne (I.type.andThen (PySem.W.looks_mroIn X hm)) (F.cmpArgs_ne _ _)
      (objNe_at (A := A.in1) X I hs hf hu (wpAny_mono hcall (fun v s' hv => ?_) fun _ _ e => e))))))
    obtain ⟨c, rfl, hq⟩ := hv
    first | exact ⟨c, rfl, wpAny_pure ⟨_, rfl, hq⟩⟩ | exact ⟨c, rfl, wpAny_pure (wpAny_pure ⟨_, rfl, hq⟩)⟩ | exact ⟨c, rfl, ⟨_, rfl, hq⟩⟩
  unfold richCompare
  simp only [oneThing_ref]
  refine wpAny_holding (wpAny_bind (wpAny_cRoomFor (Nat.lt_of_succ_lt hu) ?_))
  refine wpAny_bind (I.type.here (wpAny_bind (hb.here ?_)))
  split
  · rename_i q
    have e : PySem.W.subIn K tb (.ref C) = some false := by
      rcases Bool.or_eq_true_iff.mp hn with e | e
      · rw [beq_iff_eq.mp e] at q; simp at q
      · exact beq_iff_eq.mp e
    refine wpAny_bind ((PySem.W.looks_subIn X e).here ?_)
    simp only [Bool.false_eq_true, if_false]
    refine wpAny_bind (wpAny_mono one (fun r s' z => ?_) fun _ _ e => e)
    obtain ⟨v, rfl, hq⟩ := z
    exact wpAny_pure hq
  · refine wpAny_bind (wpAny_pure ?_)
    simp only [Bool.false_eq_true, if_false]
    refine wpAny_bind (wpAny_mono one (fun r s' z => ?_) fun _ _ e => e)
    obtain ⟨v, rfl, hq⟩ := z
    exact wpAny_pure hq
end
/-- the class at C compares by its own __eq__ at f -/
structure OEq (K : PySem.W.Frag) (C f : Addr) : Prop where
  eq : PySem.W.findIn K (.ref C) "__eq__" = some (some (.ref f))
  fn : PySem.W.isFn K (.ref f) = true
  ne : PySem.W.findIn K (.ref C) "__ne__" = some (some (.builtin "object.__ne__"))
  ob : PySem.W.mroIn K C (.type "object") = some true
def oEqB (K : PySem.W.Frag) (C f : Addr) : Bool := He.eqO (PySem.W.findIn K (.ref C) "__eq__") (some (some (.ref f))) && (PySem.W.isFn K (.ref f) && (He.eqO (PySem.W.findIn K (.ref C) "__ne__") (some (some (.builtin "object.__ne__"))) && decide (PySem.W.mroIn K C (.type "object") = some true)))
theorem oEqB_ok {K : PySem.W.Frag} {C f : Addr} (c : oEqB K C f = true) : OEq K C f := by
  obtain ⟨c1, c⟩ := He.ba c
  obtain ⟨c2, c⟩ := He.ba c
  obtain ⟨c3, c4⟩ := He.ba c
  exact ⟨He.eqO_ok c1, c2, He.eqO_ok c3, of_decide_eq_true c4⟩
def rEqO (K : PySem.W.Frag) (C : Addr) (sp : Sp) (E : XK) : R2 := fun x y H Q => ∃ a dx fs t, x = .ref a ∧ H a = some (.ins C dx fs) ∧ TyX K H y t ∧ PySem.W.notFirst K C t = true ∧ sp [x, y] H (fun v H' => ∃ b, v = .bl b ∧ Q (.bl b) H') E
def rNeO (K : PySem.W.Frag) (C : Addr) (sp : Sp) (E : XK) : R2 := fun x y H Q => ∃ a dx fs t, x = .ref a ∧ H a = some (.ins C dx fs) ∧ TyX K H y t ∧ PySem.W.notFirst K C t = true ∧ sp [x, y] H (fun v H' => ∃ b, v = .bl b ∧ Q (.bl (!b)) H') E
section
variable {X : Cx} {CX : CXT} {n : Nat} {C f : Addr} {fd : FuncData} {ps : List Str} {sp : Sp} {E : XK} {K : PySem.W.Frag}
theorem run_eqO {A : Around} {pins : List (Addr × Obj)} {σ : L2.St} {H : Hp} {s : Shared} {Q : VK} {x y : V} {u v : Value} (F : FnOk X.prog X.w X.K X.mg X.base CX n f fd ps sp) (hr : Room n A) (e0 : Env0 X.prog X.w X.K X.mg X.base A X.stack s H) (hb : Binds X.K fd ps []) (hx : Passes CX X E)
    (I : Inv X pins σ H s) (rx : RelV x u) (ry : RelV y v) (h : sp [x, y] H Q E) : wpAny (model X.prog X.w) A (call (.ref f) [u, v]) (EP X pins σ Q) X.xe s := by
  have hl := F.len _ _ _ _ h
  refine wpAny_call (codeAny_mono (F.run A X.stack s H ⟨[u, v], []⟩ [u, v] [x, y] Q E hr e0 (by
    have := hb s [u, v] I.kIn (by simpa using hl)
    simpa using this) (.cons rx (.cons ry .nil)) h) fun r s' hq => ?_)
  cases r with
  | error e => exact hx pins σ H s e s' I hq
  | ok fl =>
    cases fl with
    | ret w => exact I.after hq
    | next => exact False.elim hq
    | brk => exact False.elim hq
    | cont => exact False.elim hq
theorem op_eqO (o : OEq X.K C f) (F : FnOk X.prog X.w X.K X.mg X.base CX n f fd ps sp) (hr : Room n X.A) (hb : Binds X.K fd ps []) (hx : Passes CX X E) (hK : X.K = K := by rfl) : OpR X (compareOp .Eq) (rEqO K C sp E) := by
  subst hK
  intro pins s σ H x y u v Q I rx ry h
  obtain ⟨a, dx, fs, t, rfl, ha, ty, hn, h⟩ := h
  obtain ⟨P, Z, p, _⟩ := kit_of I ry ty
  cases rx
  obtain ⟨mA, J, _⟩ := ins_get I.hok ha
  obtain ⟨od, J, _⟩ := J.look
  obtain ⟨m, hF⟩ := I.fr
  show wpAny (model X.prog X.w) X.A (richCompare .Eq (.ref a) v) (EP X pins σ Q) X.xe s
  refine PySem.W.cmp_K (op := .Eq) hr.units0 hF I.ok.mod.kin J (Z.ty _ _ I.kIn p) hn o.eq o.fn ?_
  refine thn (run_eqO (x := .ref a) F hr I.env0 hb hx I rfl ry h) fun r s' z => ?_
  obtain ⟨w, H', I', rw', b, rfl, q⟩ := z
  cases rw'
  exact ⟨.bl b, H', I', rfl, q⟩
theorem op_neO (o : OEq X.K C f) (F : FnOk X.prog X.w X.K X.mg X.base CX n f fd ps sp) (hr : Room (n + 1) X.A) (hb : Binds X.K fd ps []) (hx : Passes CX X E) (hK : X.K = K := by rfl) : OpR X (compareOp .NotEq) (rNeO K C sp E) := by
  subst hK
  intro pins s σ H x y u v Q I rx ry h
  obtain ⟨a, dx, fs, t, rfl, ha, ty, hn, h⟩ := h
  obtain ⟨P, Z, p, _⟩ := kit_of I ry ty
  cases rx
  obtain ⟨mA, J, _⟩ := ins_get I.hok ha
  obtain ⟨od, J, _⟩ := J.look
  show wpAny (model X.prog X.w) X.A (richCompare .NotEq (.ref a) v) (EP X pins σ Q) X.xe s
  have hu : X.A.units + 1 < cLine := Nat.lt_of_le_of_lt (Nat.add_le_add_left (by decide : 1 ≤ 64) _) hr.units
  refine ne_K hu I.kIn J (Z.ty _ _ I.kIn p) hn o.ne o.eq o.fn o.ob ?_
  refine thn (run_eqO (x := .ref a) F hr.in1 I.env0.in1 hb hx I rfl ry h) fun r s' z => ?_
  obtain ⟨w, H', I', rw', b, rfl, q⟩ := z
  cases rw'
  exact ⟨b, rfl, .bl (!b), H', I', rfl, q⟩
end
section
variable {K : PySem.W.Frag} {H : Hp} {Q : VK} {C a dx : Addr} {fs : List (Str × V)} {sp : Sp} {E : XK} {y : V} {t : Value}
theorem r_eqO (ha : H a = some (.ins C dx fs)) (ty : TyX K H y t) (hn : PySem.W.notFirst K C t = true) (q : sp [.ref a, y] H (fun v H' => ∃ b, v = .bl b ∧ Q (.bl b) H') E) : rEqO K C sp E (.ref a) y H Q := ⟨a, dx, fs, t, rfl, ha, ty, hn, q⟩
theorem r_neO (ha : H a = some (.ins C dx fs)) (ty : TyX K H y t) (hn : PySem.W.notFirst K C t = true) (q : sp [.ref a, y] H (fun v H' => ∃ b, v = .bl b ∧ Q (.bl (!b)) H') E) : rNeO K C sp E (.ref a) y H Q := ⟨a, dx, fs, t, rfl, ha, ty, hn, q⟩
end
end G
/-! ### methods, makings, class methods: the callee by a positional promise, its errors wished for at the caller's slots -/
namespace G
open PySem PySem.Spec PyProof.Rows L2
section
variable {X : Cx} {CX : CXT} {k i : Nat} {f C p g : Addr} {sp : Sp} {E : L2.St → XK} {x m : Str} {np pos apos : Pos} {o e : Expr} {es : List Expr} {ta : TE} {t : TA} {mc : Value}
def tMethA (C : Addr) (m : Str) (sp : Sp) (E : L2.St → XK) (ta : TE) (t : TA) : TE := fun σ H Q => ta σ H fun x H1 => ∃ a dx fs, x = .ref a ∧ H1 a = some (.ins C dx fs) ∧ fs.lookup m = none ∧ t σ H1 fun vs H2 => sp (x :: vs) H2 Q (E σ)
def tMakeA (C : Addr) (sp : Sp) (E : L2.St → XK) (t : TA) : TE := fun σ H Q => t σ H fun vs H1 => ∀ x dx, H1 x = none → H1 dx = none → dx ≠ x →
  sp (V.ref x :: vs) (upd (upd H1 dx (.own x)) x (.ins C dx [])) (fun v H2 => v = .non ∧ Q (.ref x) H2) (E σ)
def tMakeL (i : Nat) (C : Addr) (sp : Sp) (E : L2.St → XK) (t : TA) : TE := fun σ H Q => σ[i]? = some (some (.ref C)) ∧ t σ H fun vs H1 => ∀ x dx, H1 x = none → H1 dx = none → dx ≠ x →
  sp (V.ref x :: vs) (upd (upd H1 dx (.own x)) x (.ins C dx [])) (fun v H2 => v = .non ∧ Q (.ref x) H2) (E σ)
def tCMethA (C : Addr) (sp : Sp) (E : XK) (ta : TE) : TE := fun σ H Q => ta σ H fun x H1 => x = .ref C ∧ sp [.ref C] H1 Q E
theorem pe_methA {pl : Sem Bool} (he : PE X o ta) (c : Cls X.K C) (hm : Meth X.K C m f) (F : FnR X.prog X.w X.K X.mg X.base CX k f sp) (hr : Room k X.A) (hx : ∀ σ, PassesAt CX X σ (E σ)) (ha : PA X (e :: es) t)
    (hst : starEach (e :: es) X.env = (false, eval e X.env) :: starEach es X.env := by rfl) (hpl : (backTo pos (starEach es X.env)).any (·.1) = false := by rfl)
    (ht : eval (.Call (.Attribute o m apos) (e :: es) [] pos) X.env = (do
      let ov ← eval o X.env
      standAt apos.atName
      let (f, first) ← holding [ov] (getMethod ov m pl)
      callWith pos f first (backTo pos (starEach (e :: es) X.env)) (backToKw pos (keywordEach [] X.env))) := by rfl) :
    PE X (.Call (.Attribute o m apos) (e :: es) [] pos) (tMethA C m sp E ta t) := by
  refine ⟨fun pins s σ H Q I h => ?_⟩
  refine PySem.W.methodCall_KW (pl := pl) (thn (he.run pins s σ H _ I h) fun u s1 ⟨x, H1, I1, rx, a, dx, fs, ex, ea, l, q⟩ => ?_) ht
  subst ex
  obtain rfl : u = Value.ref a := rx
  refine getmeth_ok I1 ea c hm l ?_
  refine PySem.W.callWith_K (first := [.ref a]) (h₀ := X.base) I.ok.mod.kin hm.kp (thn (ha.run pos pins s1 σ H1 _ I1 q) fun us s2 ⟨vs, H2, I2, r, q2⟩ => ⟨I2.kIn, ?_⟩) hst hpl
  exact run_fnRS (us := .ref a :: us) (vs := .ref a :: vs) F hr (hx σ) I2 (.cons rfl r) q2
theorem pe_methA0 {pl : Sem Bool} (he : PE X o ta) (c : Cls X.K C) (hm : Meth X.K C m f) (F : FnR X.prog X.w X.K X.mg X.base CX k f sp) (hr : Room k X.A) (hx : ∀ σ, PassesAt CX X σ (E σ))
    (ht : eval (.Call (.Attribute o m apos) [] [] pos) X.env = (do
      let ov ← eval o X.env
      standAt apos.atName
      let (f, first) ← holding [ov] (getMethod ov m pl)
      callWith pos f first (backTo pos (starEach [] X.env)) (backToKw pos (keywordEach [] X.env))) := by rfl) :
    PE X (.Call (.Attribute o m apos) [] [] pos) (tMethA C m sp E ta tNil) := by
  refine ⟨fun pins s σ H Q I h => ?_⟩
  refine PySem.W.methodCall_KW (pl := pl) (thn (he.run pins s σ H _ I h) fun u s1 ⟨x, H1, I1, rx, a, dx, fs, ex, ea, l, q⟩ => ?_) ht
  subst ex
  obtain rfl : u = Value.ref a := rx
  refine getmeth_ok I1 ea c hm l ?_
  exact PySem.W.callWith_K0 (first := [.ref a]) I1.kIn hm.kp (run_fnRS (us := [.ref a]) (vs := [.ref a]) F hr (hx σ) I1 (.cons rfl .nil) q)
theorem run_makeA {pins : List (Addr × Obj)} {σ : L2.St} {H : Hp} {s : Shared} {Q : VK} {us : List Value} {vs : List V} (M : Mk X.K C f) (F : FnR X.prog X.w X.K X.mg X.base CX k f sp) (hr : Room (k + 1) X.A) (hx : PassesAt CX X σ (E σ)) (I : Inv X pins σ H s) (r : Vals vs us)
    (h : ∀ x dx, H x = none → H dx = none → dx ≠ x → sp (V.ref x :: vs) (upd (upd H dx (.own x)) x (.ins C dx [])) (fun v H2 => v = .non ∧ Q (.ref x) H2) (E σ)) :
    wpAny (model X.prog X.w) X.A (call (.ref C) us) (EP X pins σ Q) X.xe s := by
  have hq := h (s.heap.objs.size + 1) s.heap.objs.size (I.hok.fresh (Nat.le_succ _)) (I.hok.fresh (Nat.le_refl _)) (Nat.ne_of_lt (Nat.lt_succ_self _))
  have I2 := Inv.made (C := C) I
  have r2 : Vals (V.ref (s.heap.objs.size + 1) :: vs) (Value.ref (s.heap.objs.size + 1) :: us) := .cons rfl r
  refine wpAny_call (make_map (f := f) I.kIn M.makes M.init (beq_iff_eq.mp M.fn) (codeAny_mono (F _ X.stack _ _ (Value.ref (s.heap.objs.size + 1) :: us) _ _ (E σ) (hr.make C us []) (I2.env0.make C us []) r2 hq) fun r s' hq' => ?_))
  cases r with
  | error e => exact hx pins _ _ e s' I2 hq'
  | ok fl =>
    cases fl with
    | ret u =>
      obtain ⟨v, H', I3, rv, ev, q3⟩ := I2.after hq'
      subst ev
      exact ⟨rv, ⟨V.ref (s.heap.objs.size + 1), H', I3, rfl, q3⟩⟩
    | next => exact False.elim hq'
    | brk => exact False.elim hq'
    | cont => exact False.elim hq'
theorem pe_makeA (M : Mk X.K C f) (F : FnR X.prog X.w X.K X.mg X.base CX k f sp) (hr : Room (k + 1) X.A) (hg : Gl X x) (hm : X.mg x = some (.ref C)) (hx : ∀ σ, PassesAt CX X σ (E σ)) (ha : PA X (e :: es) t) (hdb : (x == ("__debug__" : Str)) = false := by decide)
    (he : starEach (e :: es) X.env = (false, eval e X.env) :: starEach es X.env := by rfl) (hpl : (backTo pos (starEach es X.env)).any (·.1) = false := by rfl) : PE X (.Call (.Name x np) (e :: es) [] pos) (tMakeA C sp E t) := by
  refine ⟨fun pins s σ H Q I h => ?_⟩
  refine wpAny_Call_Name_kw (ld_glob I hg hm ?_ hdb)
  refine PySem.W.callWith_K (h₀ := X.base) I.ok.mod.kin M.kp (thn (ha.run pos pins s σ H _ I h) fun us s1 ⟨vs, H1, I1, r, q⟩ => ⟨I1.kIn, ?_⟩) he hpl
  exact run_makeA M F hr (hx σ) I1 r q
theorem pe_makeL (M : Mk X.K C f) (F : FnR X.prog X.w X.K X.mg X.base CX k f sp) (hr : Room (k + 1) X.A) (hN : X.N[i]? = some x) (hv : Vis X.env.scope x) (hx : ∀ σ, PassesAt CX X σ (E σ)) (ha : PA X (e :: es) t) (hdb : (x == ("__debug__" : Str)) = false := by decide) (hcd : (x == ("__classdict__" : Str)) = false := by decide)
    (he : starEach (e :: es) X.env = (false, eval e X.env) :: starEach es X.env := by rfl) (hpl : (backTo pos (starEach es X.env)).any (·.1) = false := by rfl) : PE X (.Call (.Name x np) (e :: es) [] pos) (tMakeL i C sp E t) := by
  refine ⟨fun pins s σ H Q I h => ?_⟩
  obtain ⟨hs, ht⟩ := h
  refine wpAny_Call_Name_kw (thn ((pe_var (pos := np) hN hv hdb hcd).run pins s σ H (fun v H1 => v = .ref C ∧ H1 = H) I ⟨.ref C, hs, rfl, rfl⟩) fun u s1 ⟨v, H1, I1, r1, q1⟩ => ?_)
  obtain ⟨rfl, rfl⟩ := q1
  cases r1
  refine PySem.W.callWith_K (h₀ := X.base) I.ok.mod.kin M.kp (thn (ha.run pos pins s1 σ _ _ I1 ht) fun us s2 ⟨vs, H2, I2, r, q⟩ => ⟨I2.kIn, ?_⟩) he hpl
  exact run_makeA M F hr (hx σ) I2 r q
/-- C.m(), m a classmethod -/
theorem pe_cmeth0 {pl : Sem Bool} {E : XK} (he : PE X o ta) (r : ClX.CRead X.K C mc) (c : ClX.CMet X.K C mc m p g) (F : FnR X.prog X.w X.K X.mg X.base CX k g sp) (hr : Room k X.A) (hx : Passes CX X E)
    (ht : eval (.Call (.Attribute o m apos) [] [] pos) X.env = (do
      let ov ← eval o X.env
      standAt apos.atName
      let (f, first) ← holding [ov] (getMethod ov m pl)
      callWith pos f first (backTo pos (starEach [] X.env)) (backToKw pos (keywordEach [] X.env))) := by rfl) :
    PE X (.Call (.Attribute o m apos) [] [] pos) (tCMethA C sp E ta) := by
  refine ⟨fun pins s σ H Q I h => ?_⟩
  refine PySem.W.methodCall_KW (pl := pl) (thn (he.run pins s σ H _ I h) fun u s1 ⟨x, H1, I1, rx, ex, q⟩ => ?_) ht
  subst ex
  obtain rfl : u = Value.ref C := rx
  refine ClX.getmethcm_ok I1 r c fun s2 I2 => ?_
  exact PySem.W.callWith_M0 (first := []) ⟨ClX.pin_at I2, I2.kIn⟩ c.fi (ClX.run_cm (us := []) (vs := []) F hr hx I2 .nil q)
theorem kCVal {K : PySem.W.Frag} (he : PE X e ta) (hK : X.K = K := by rfl) (hb : attributeBase e m X.env (eval e X.env) = eval e X.env := by rfl) : PE X (.Attribute e m pos) (ClX.tCVal K ta m) := hK ▸ ClX.pe_cval he hb
end
section
variable {K : PySem.W.Frag} {σ : L2.St} {H : Hp} {Q : VK} {C a dx : Addr} {fs : List (Str × V)} {sp : Sp} {E : L2.St → XK} {ta : TE} {t : TA} {m : Str} {i : Nat} {D : Ends}
theorem r_methA (q : ta σ H fun x H1 => ∃ a dx fs, x = .ref a ∧ H1 a = some (.ins C dx fs) ∧ fs.lookup m = none ∧ t σ H1 fun vs H2 => sp (x :: vs) H2 Q (E σ)) : tMethA C m sp E ta t σ H Q := q
theorem r_recv {R : Prop} (h : H a = some (.ins C dx fs)) (hl : fs.lookup m = none) (q : R) : ∃ b dx fs, V.ref a = .ref b ∧ H b = some (.ins C dx fs) ∧ fs.lookup m = none ∧ R := ⟨a, dx, fs, rfl, h, hl, q⟩
theorem r_makeA (q : t σ H fun vs H1 => ∀ x dx, H1 x = none → H1 dx = none → dx ≠ x → sp (V.ref x :: vs) (upd (upd H1 dx (.own x)) x (.ins C dx [])) (fun v H2 => v = .non ∧ Q (.ref x) H2) (E σ)) : tMakeA C sp E t σ H Q := q
theorem r_makeL (h : σ[i]? = some (some (.ref C))) (q : t σ H fun vs H1 => ∀ x dx, H1 x = none → H1 dx = none → dx ≠ x → sp (V.ref x :: vs) (upd (upd H1 dx (.own x)) x (.ins C dx [])) (fun v H2 => v = .non ∧ Q (.ref x) H2) (E σ)) : tMakeL i C sp E t σ H Q := ⟨h, q⟩
theorem r_cmethA {E : XK} (q : ta σ H fun x H1 => x = .ref C ∧ sp [.ref C] H1 Q E) : tCMethA C sp E ta σ H Q := q
theorem r_cval {f : Str} (q : ta σ H fun x H1 => ∃ C mc v u, x = .ref C ∧ ClX.CRead K C mc ∧ ClX.CVal K C mc f v u ∧ Q v H1) : ClX.tCVal K ta f σ H Q := q
theorem r_prop {sp : Sp} {dvs : List V} {E : XK} (q : ta σ H fun x H1 => ∃ a dx fs, x = .ref a ∧ H1 a = some (.ins C dx fs) ∧ sp (.ref a :: dvs) H1 Q E) : tProp C sp dvs E ta σ H Q := q
theorem r_fld {f : Str} (q : ta σ H fun x H1 => ∃ a C dx fs v, x = .ref a ∧ H1 a = some (.ins C dx fs) ∧ Cls K C ∧ NoAttr K C f ∧ fs.lookup f = some v ∧ Q v H1) : tFld K ta f σ H Q := q
theorem r_sfld {f : Str} {tv : TE} (q : tv σ H fun y H1 => ta σ H1 fun x H2 => ∃ a C dx fs, x = .ref a ∧ H2 a = some (.ins C dx fs) ∧ Cls K C ∧ NoAttr K C f ∧ fs.length < 1000 ∧ D.nx σ (upd H2 a (.ins C dx (putF f y fs)))) : sFld K ta tv f D σ H := q
theorem r_fldAt {f : Str} {v : V} {R : V → Prop} (h : H a = some (.ins C dx fs)) (c : Cls K C) (n : NoAttr K C f) (l : fs.lookup f = some v) (q : R v) : ∃ b C dx fs v, V.ref a = .ref b ∧ H b = some (.ins C dx fs) ∧ Cls K C ∧ NoAttr K C f ∧ fs.lookup f = some v ∧ R v := ⟨a, C, dx, fs, v, rfl, h, c, n, l, q⟩
end
end G
/-! ### the head's facts by a list of tests -/
namespace G
open PySem PySem.Spec PyProof.Rows L2
def fdNo : FuncData := PySem.W.fnOf "" "" { posonlyargs := [], args := [], vararg := none, kwonlyargs := [], kw_defaults := [], kwarg := none, defaults := [] } [] { kind := .function, names := [], isGenerator := false, isCoroutine := false } .none .none .none .none none .none .none
def fdOf (K : PySem.W.Frag) (f : Addr) : FuncData := match K.lookup f with
  | some ⟨_, _, .func fd, _⟩ => fd
  | _ => fdNo
theorem defAt {K : PySem.W.Frag} {x qual : Str} {params : Arguments} {body : List Stmt} {scope : Scope} {dvs : List V} {kws : List (Str × V)} {f : Addr} (h : ∃ fd, FunD K x qual params body scope dvs kws f fd) : FunD K x qual params body scope dvs kws f (fdOf K f) := by
  obtain ⟨fd, F⟩ := h
  have e : fdOf K f = fd := by
    obtain ⟨oc, od, dV, kV, doc, pm, an, cdv, ct, osl, rfl, lk, _⟩ := F.ex
    unfold fdOf
    rw [lk]
  rw [e]
  exact F
def obsM (fa : List (PySem.W.Frag → Bool)) (fn : List He5.DefA) (K : PySem.W.Frag) : He.AlD := ((fa.all fun f => f K) && fn.all fun d => d.ok K, fn.map fun d => He5.fnA K (d.at_ K))
def SaysM (fa : List (PySem.W.Frag → Bool)) (fn : List He5.DefA) (K : PySem.W.Frag) : Prop := obsM fa fn K = He5.valA fn
def obsMG (n : Nat) (fa : List (PySem.W.Frag → Bool)) (fn : List He5.DefA) (g : Addr → Option Obj) : He.AlD := obsM fa fn (He.frG g (He5.asA g n))
def hookM (n : Nat) (fa : List (PySem.W.Frag → Bool)) (fn : List He5.DefA) : PySem.W.Hook where
  α := He.AlD
  obs := fun s => obsMG n fa fn s.heap.get?
  val := fun _ => He5.valA fn
  says := fun _ h => ∃ K : PySem.W.Frag, K.In h ∧ SaysM fa fn K
  of := fun _ _ e => ⟨_, He.frG_in, e⟩
  keeps := fun _ _ _ ⟨K, hK, c⟩ k => ⟨K, PySem.W.Frag.In.keeps hK k, c⟩
theorem obsMG_eq {n : Nat} {fa : List (PySem.W.Frag → Bool)} {fn : List He5.DefA} {g : Addr → Option Obj} {s : Shared} (h : ∀ a, g a = s.heap.get? a) : obsMG n fa fn g = (hookM n fa fn).obs s := by
  have e : g = s.heap.get? := funext h
  rw [e] <;> rfl
section
variable {fa : List (PySem.W.Frag → Bool)} {fn : List He5.DefA} {K : PySem.W.Frag}
theorem SaysM.fact (c : SaysM fa fn K) (i : Nat) {f : PySem.W.Frag → Bool} (h : fa[i]? = some f) : f K = true := by
  have c1 := (He.ba (show ((fa.all fun f => f K) && fn.all fun d => d.ok K) = true from congrArg (fun z : He.AlD => z.1) c)).1
  exact List.all_eq_true.mp c1 f (List.mem_of_getElem? h)
theorem SaysM.def_ (c : SaysM fa fn K) (i : Nat) {d : He5.DefA} (h : fn[i]? = some d) : ∃ fd, FunD K d.name d.qual d.params d.body d.scope (d.dvs K) (d.kws K) (d.at_ K) fd := by
  have c2 := (He.ba (show ((fa.all fun f => f K) && fn.all fun d => d.ok K) = true from congrArg (fun z : He.AlD => z.1) c)).2
  have e : fn.map (fun d => He5.fnA K (d.at_ K)) = fn.map He5.DefA.val := congrArg (fun z : He.AlD => z.2) c
  have e2 : (fn.map fun d => He5.fnA K (d.at_ K))[i]? = (fn.map He5.DefA.val)[i]? := by rw [e]
  rw [List.getElem?_map, List.getElem?_map, h] at e2
  exact He5.DefA.funD (Option.some.inj e2) (List.all_eq_true.mp c2 d (List.mem_of_getElem? h))
end
/-! ### own exceptions without __init__ -/
structure ExcF (K : PySem.W.Frag) (C : Addr) : Prop where
  x : PySem.W.excIn K C He.veBase "ValueError.__new__" = true
  k : PySem.W.keepIn K (.ref C) = true
  b : PySem.W.subIn K (.ref C) (.type "BaseException") = some true
  t : PySem.W.typeIn K (.ref C) = some (.type "type")
def excFB (K : PySem.W.Frag) (C : Addr) : Bool := PySem.W.excIn K C He.veBase "ValueError.__new__" && (PySem.W.keepIn K (.ref C) && (decide (PySem.W.subIn K (.ref C) (.type "BaseException") = some true) && decide (PySem.W.typeIn K (.ref C) = some (.type "type"))))
theorem excF_ok {K : PySem.W.Frag} {C : Addr} (c : excFB K C = true) : ExcF K C := by
  obtain ⟨c1, c⟩ := He.ba c
  obtain ⟨c2, c⟩ := He.ba c
  obtain ⟨c3, c4⟩ := He.ba c
  exact ⟨c1, c2, of_decide_eq_true c3, of_decide_eq_true c4⟩
end G
namespace G
open PySem PySem.Spec PyProof.Rows L2
/-- a law's promise -/
def sp_law (K : PySem.W.Frag) : Sp := fun vs H Q _ => ∃ (a : Addr) (ns : List Int), vs = [.ref a] ∧ SqL K H a (ns.map V.int) ∧ ns.length ≤ 63 ∧ ∀ H', Q (.bl true) H'
end G
/-! ### classes: facts read off the head -/
namespace G
open PySem PySem.Spec PyProof.Rows L2
/-- f is a property of the class at C (found at D): its getter -/
def propB (K : PySem.W.Frag) (C D : Addr) (f : Str) : Bool := He.eqO (PySem.W.findIn K (.ref C) f) (some (some (.ref (He.ma K D f)))) && (He.eqO (PySem.W.specialIn K (.ref (He.ma K D f)) "__get__") (some (some (.builtin "property.__get__"))) &&
  (decide (PySem.W.takesIn K (.ref (He.ma K D f)) = some true) && (match PySem.W.recIn K (He.ma K D f) "property" with
    | some (.ref _ :: _) => true
    | _ => false)))
theorem propB_ok {K : PySem.W.Frag} {C D : Addr} {f : Str} (c : propB K C D f = true) : PropOf K C f (He.ma K D f) (He5.wf K D "property" f) := by
  obtain ⟨c1, c⟩ := He.ba c
  obtain ⟨c2, c⟩ := He.ba c
  obtain ⟨c3, c4⟩ := He.ba c
  refine ⟨He.eqO_ok c1, He.eqO_ok c2, of_decide_eq_true c3, ?_⟩
  unfold He5.wf
  split at c4
  · rename_i g rest e
    rw [e]
    exact ⟨rest, rfl⟩
  · cases c4
/-- m is a method of the class at C, found at D -/
def methB (K : PySem.W.Frag) (C D : Addr) (m : Str) : Bool := He.eqO (PySem.W.findIn K (.ref C) m) (some (some (.ref (He.ma K D m)))) && (PySem.W.isFn K (.ref (He.ma K D m)) && PySem.W.keepIn K (.ref (He.ma K D m)))
theorem methB_ok {K : PySem.W.Frag} {C D : Addr} {m : Str} (c : methB K C D m = true) : Meth K C m (He.ma K D m) := by
  obtain ⟨c1, c⟩ := He.ba c
  obtain ⟨c2, c3⟩ := He.ba c
  exact ⟨He.eqO_ok c1, c2, c3⟩
def creadB (K : PySem.W.Frag) (C : Addr) : Bool := PySem.W.readsIn K C (.type "type") && He.eqO (PySem.W.specialIn K (.ref C) "__getattribute__") (some (some (.builtin "type.__getattribute__")))
theorem creadB_ok {K : PySem.W.Frag} {C : Addr} (c : creadB K C = true) : ClX.CRead K C (.type "type") := by
  obtain ⟨c1, c2⟩ := He.ba c
  exact ⟨c1, He.eqO_ok c2⟩
def cmetB (K : PySem.W.Frag) (C : Addr) (m : Str) : Bool := He5.wrapB K C "classmethod" "classmethod.__get__" m && PySem.W.fnIn K (He5.wf K C "classmethod" m)
theorem cmetB_ok {K : PySem.W.Frag} {C : Addr} {m : Str} (c : cmetB K C m = true) : ClX.CMet K C (.type "type") m (He.ma K C m) (He5.wf K C "classmethod" m) := by
  obtain ⟨c1, c2⟩ := He.ba c
  exact He5.cmet_of c1 c2
def cvalB (K : PySem.W.Frag) (C : Addr) (f : Str) (v : V) : Bool := match PySem.W.findCls K (.ref C) (.type "type") f with
  | some (.val u) => He.relB v u
  | _ => false
theorem cvalB_ok {K : PySem.W.Frag} {C : Addr} {f : Str} {v : V} (c : cvalB K C f v = true) : ∃ u, ClX.CVal K C (.type "type") f v u := by
  unfold cvalB at c
  split at c
  · rename_i u e
    exact ⟨u, e, He.relB_ok c⟩
  · cases c
/-- an instance of the class at C has that type -/
structure InsTy (K : PySem.W.Frag) (C : Addr) : Prop where
  cl : Cls K C
  ha : PySem.W.findIn K (.ref C) "__class__" = some (some (.builtin "object.__class__"))
  hn : PySem.W.specialIn K (.builtin "object.__class__") "__get__" = some (some (.builtin "getset_descriptor.__get__"))
  tk : PySem.W.takesIn K (.builtin "object.__class__") = some true
  ob : PySem.W.mroIn K C (.type "object") = some true
theorem InsTy.ty {K : PySem.W.Frag} {C a dx : Addr} {H : Hp} {fs : List (Str × V)} (t : InsTy K C) (h : H a = some (.ins C dx fs)) : TyX K H (.ref a) (.ref C) := .base (.ins h t.cl t.ha t.hn t.tk t.ob)
def insTyB (K : PySem.W.Frag) (C : Addr) : Bool := PySem.W.plainGet K C Str.empty && (PySem.W.hasDictIn K C && (PySem.W.plainOver K C && (He.eqO (PySem.W.findIn K (.ref C) "__setattr__") (some (some (.builtin "object.__setattr__"))) &&
  (He.eqO (PySem.W.findIn K (.ref C) "__class__") (some (some (.builtin "object.__class__"))) && (He.eqO (PySem.W.specialIn K (.builtin "object.__class__") "__get__") (some (some (.builtin "getset_descriptor.__get__"))) &&
  (decide (PySem.W.takesIn K (.builtin "object.__class__") = some true) && decide (PySem.W.mroIn K C (.type "object") = some true)))))))
theorem insTyB_ok {K : PySem.W.Frag} {C : Addr} (c : insTyB K C = true) : InsTy K C := by
  obtain ⟨c1, c⟩ := He.ba c
  obtain ⟨c2, c⟩ := He.ba c
  obtain ⟨c3, c⟩ := He.ba c
  obtain ⟨c4, c⟩ := He.ba c
  obtain ⟨c5, c⟩ := He.ba c
  obtain ⟨c6, c⟩ := He.ba c
  obtain ⟨c7, c8⟩ := He.ba c
  exact ⟨⟨c1, c2, c3, He.eqO_ok c4⟩, He.eqO_ok c5, He.eqO_ok c6, of_decide_eq_true c7, of_decide_eq_true c8⟩
/-- isinstance of a value of type t against the class at C -/
def isiB (K : PySem.W.Frag) (t u : Value) (b : Bool) : Bool := decide (PySem.W.kitOne K t u = some b)
theorem isiB_ok {K : PySem.W.Frag} {t u : Value} {b : Bool} (c : isiB K t u b = true) : PySem.W.kitOne K t u = some b := of_decide_eq_true c
/-- no value of a built-in kind is an instance of the class at C; none is compared ahead of it -/
def kitNoB (K : PySem.W.Frag) (C : Addr) : Bool := kds.all fun k => isiB K (.type k) (.ref C) false && PySem.W.notFirst K C (.type k)
theorem kitNoB_ok {K : PySem.W.Frag} {C : Addr} (c : kitNoB K C = true) : ∀ k ∈ kds, PySem.W.kitOne K (.type k) (.ref C) = some false := fun k hk => isiB_ok (Bool.and_eq_true_iff.mp (List.all_eq_true.mp c k hk)).1
theorem kitNoB_nf {K : PySem.W.Frag} {C : Addr} (c : kitNoB K C = true) : ∀ k ∈ kds, PySem.W.notFirst K C (.type k) = true := fun k hk => (Bool.and_eq_true_iff.mp (List.all_eq_true.mp c k hk)).2
def mkB (K : PySem.W.Frag) (C f : Addr) : Bool := PySem.W.makesIn K C && (He.eqO (PySem.W.findIn K (.ref C) "__init__") (some (some (.ref f))) && (PySem.W.isFn K (.ref f) && PySem.W.keepIn K (.ref C)))
theorem mkB_ok {K : PySem.W.Frag} {C f : Addr} (c : mkB K C f = true) : Mk K C f := by
  obtain ⟨c1, c⟩ := He.ba c
  obtain ⟨c2, c⟩ := He.ba c
  obtain ⟨c3, c4⟩ := He.ba c
  exact ⟨c1, He.eqO_ok c2, c3, c4⟩
end G
/-! ### in-place operators; != of lists of instances with an own __eq__ -/
namespace G
open PySem PySem.Spec PyProof.Rows L2
section
variable {X : Cx}
theorem kpgLst {K : PySem.W.Frag} {es : List Expr} {k : Nat} {t : TGs} {n : Nat} {pos : Pos} (hc : X.calm = true) (h : PGs X es t) (hK : X.K = K := by rfl)
    (hn : (assignEach es X.env).length = n := by rfl) (hst : (assignEach es X.env).findIdx? (·.1) = none := by rfl) : PG X (.Tuple es k pos) (gLst K n t) := hK ▸ pg_lst hc h hn hst
theorem r_glst {K : PySem.W.Frag} {k : Nat} {t : TGs} {p : Addr} {xs : List V} {σ : L2.St} {H : Hp} {R : L2.St → Hp → Prop} (h : SqL K H p xs) (q : t xs σ H R) (hl : xs.length = k := by rfl) : gLst K k t (.ref p) σ H R := ⟨p, xs, rfl, h, hl, q⟩
theorem ip_fdiv : PIp X .FloorDiv (rI CDivW fun i j => .int (i / j)) := by
  intro pins s σ H x y v u Q I r1 r2 h
  obtain ⟨i, j, e1, e2, hc, q⟩ := h
  subst e1; subst e2; obtain ⟨t, rfl⟩ := r1; obtain ⟨t', rfl⟩ := r2
  have h1 : (0 : Int) < j := hc.1
  exact ifloordiv_int (by omega) (by rw [Int.fdiv_eq_ediv_of_nonneg i (by omega)]; exact ⟨.int _, H, I.tok _, ⟨_, rfl⟩, q⟩) (.inl (PyProof.noPylong_of_log2 hc.2))
end
section
open PySem.SeqAt AutoSeq1 MeetsSeq MeetsSeq2 MeetsSeq3 SeqRoads2
variable {prog : Program} {w : World} {A : Around} {R : Result → Shared → Prop}
theorem ne_loopO (l b : Addr) (N : Nat) (I : Nat → Shared → Prop) (hl : GQ.ListI prog w A (fun e s' => R (.error e) s') l b N I) (fin : ∀ s, I N s → R (.ok (.ret (.bool false))) s) (k : Nat) :
    ∀ i : Nat, N - i = k → i ≤ N → ∀ s, I i s → wpAny (model prog w) A.in1 (Builtin.«list.__eq__.loop» ⟨[.ref l, .ref b, rawInt i, rawInt 3], []⟩) (GQ.FinOf prog w A R) (fun e s' => R (.error e) s') s := by
  induction k with
  | zero =>
    intro i hk hi s h
    obtain ⟨xs, ys, n, n2, gx, gy, sx, sy, _⟩ := hl _ _ h
    have hi' : i = N := by omega
    have hR : R (.ok (.ret (.bool false))) s := fin s (hi' ▸ h)
    obtain ⟨hp, g, d, tk, os⟩ := s; wp_walk using AutoSeq1.wpAny_loadPart' gx, AutoSeq1.wpAny_loadPart' gy
    have hx : xs[((i : Nat) : Int).toNat]? = none := by simp; omega
    have hy : ys[((i : Nat) : Int).toNat]? = none := by simp; omega
    rw [hx, hy]; wp_walk using AutoSeq1.wpAny_loadPart' gx, AutoSeq1.wpAny_loadPart' gy
    show R (.ok (.ret (.bool (xs.size != ys.size)))) _
    rw [sx, sy]
    simpa using hR
  | succ k ih =>
    intro i hk hi s h
    obtain ⟨xs, ys, n, n2, gx, gy, sx, sy, turn⟩ := hl _ _ h
    have lx : i < xs.size := by omega
    have ly : i < ys.size := by omega
    have ht := turn lx ly
    obtain ⟨hp, g, d, tk, os⟩ := s; wp_walk using AutoSeq1.wpAny_loadPart' gx, AutoSeq1.wpAny_loadPart' gy
    have hx : xs[((i : Nat) : Int).toNat]? = some xs[i] := by simp [lx]
    have hy : ys[((i : Nat) : Int).toNat]? = some ys[i] := by simp [ly]
    have hc : ((i : Int) + 1) = ((i + 1 : Nat) : Int) := by push_cast; rfl
    rw [hx, hy]; refine wpAny_bind (wpAny_mono ht (fun r s2 h2 => ?_) fun _ _ x => x)
    obtain ⟨hr, h2⟩ := h2
    subst hr; have hrec := ih (i + 1) (by omega) (by omega) s2 h2
    obtain ⟨hp2, g2, d2, tk2, os2⟩ := s2; wp_walk
    rw [hc]; exact ⟨plainId_quiet plain_eq_loop _, codeAny_builtin entry_eq_loop (by rw [Around.under_plainId plain_eq_loop _]; exact hrec)⟩
theorem list_neO (l b : Addr) (N : Nat) (I : Nat → Shared → Prop) (hl : GQ.ListI prog w A (fun e s' => R (.error e) s') l b N I) (fin : ∀ s, I N s → R (.ok (.ret (.bool false))) s) {s : Shared} (h : I 0 s) :
    wpAny (model prog w) A.in1 (Builtin.«list.__ne__» ⟨[.ref l, .ref b], []⟩) (GQ.FinOf prog w A R) (fun e s' => R (.error e) s') s := by
  obtain ⟨xs, ys, n, n2, gx, gy, sx, sy, _⟩ := hl _ _ h
  have hrec := ne_loopO (A := A) (R := R) l b N I hl fin _ 0 rfl (Nat.zero_le _) s h
  obtain ⟨hp, g, d, tk, os⟩ := s; have f3 := AutoSeq1.sub_list_list
  have hne : ¬ (xs.size != ys.size) = true := by simp [sx, sy]
  wp_walk using AutoSeq1.wpAny_loadPart' gx, AutoSeq1.wpAny_loadPart' gy
  exact ⟨plainId_quiet plain_eq_loop _, codeAny_builtin entry_eq_loop (by rw [Around.under_plainId plain_eq_loop _]; exact hrec)⟩
theorem rc_neO {E : Value → Shared → Prop} {s : Shared} {l b : Addr} {N : Nat} {Q : Value → Shared → Prop} (hu : A.units < cLine) (I : Nat → Shared → Prop) (hl : GQ.ListI prog w A E l b N I)
    (fin : ∀ s, I N s → Q (.bool false) s) (h : I 0 s) : wpAny (model prog w) A (richCompare .NotEq (.ref l) (.ref b)) Q E s := by
  obtain ⟨xs, ys, n, n2, gx, gy, _, _, _⟩ := hl _ _ h
  refine wpAny_richCompare_same_room (op := .NotEq) ⟨_, gx, rfl⟩ ⟨_, gy, rfl⟩ F.slot_list_ne (GQ.call_here F.slot_list_ne ⟨_, gx, rfl⟩ F.entry_list_ne (F.args_list_ne_2 _ _) ?_) hu
  exact list_neO (R := wants (fun v s' => v ≠ .notImplemented ∧ Q v s') E) l b N I hl (fun s' q => ⟨(fun x => nomatch x), fin s' q⟩) h
end
/-- the two are equal, by D -/
def rNeLO (D : Eqv) : R2 := fun x y H Q => DList D x y H ∧ ∀ H', Same H H' → Q (.bl false) H'
theorem op_neLO {X : Cx} {n : Nat} {D : Eqv} (hD : Mon D) (h : EqG X n D) (hr : Room (n + 1) X.A) : OpR X (compareOp .NotEq) (rNeLO D) := by
  intro pins s σ H x y v u Q I rx ry hq
  obtain ⟨⟨a, b, xs, ys, rfl, rfl, ha, hb, p⟩, q⟩ := hq
  cases rx; cases ry
  show wpAny (model X.prog X.w) X.A (richCompare .NotEq (.ref a) (.ref b)) (EP X pins σ Q) X.xe s
  refine rc_neO (N := xs.length) hr.units0 (fun _ s' => LoopI X pins σ H s') (fun i s' q => ?_) (fun s' ⟨H', I', e⟩ => ⟨.bl false, H', I', rfl, q H' e⟩) ⟨H, I, Ext.rfl'⟩
  obtain ⟨H1, I1, e1⟩ := id q
  obtain ⟨z, its, k, r, e⟩ := I1.hok a _ (e1 _ _ ha)
  obtain ⟨z2, its2, k2, r2, e2⟩ := I1.hok b _ (e1 _ _ hb)
  exact ⟨its.toArray, its2.toArray, k, k2, e, e2, by rw [List.size_toArray, ← r.length], by rw [List.size_toArray, ← r2.length, ← p.1], fun h1 h2 => turnG hD h ⟨hr, rfl⟩ p r r2 i h1 h2 s' q⟩
theorem r_neLO {D : Eqv} {H : Hp} {a b : Addr} {xs ys : List V} {Q : VK} (ha : H a = some (.lst xs)) (hb : H b = some (.lst ys)) (p : Prs D xs ys H) (q : ∀ H', Same H H' → Q (.bl false) H') : rNeLO D (.ref a) (.ref b) H Q := ⟨⟨a, b, xs, ys, rfl, rfl, ha, hb, p⟩, q⟩
end G
/-! ### grid maps as six integers -/
namespace G
open PySem PySem.Spec PyProof.Rows L2
structure M6 where
  a : Int
  b : Int
  c : Int
  d : Int
  e : Int
  f : Int
deriving DecidableEq
namespace M6
def det (m : M6) : Int := m.a * m.d - m.b * m.c
def Ok (m : M6) : Prop := m.det = 1 ∨ m.det = -1
def nums (m : M6) : List Int := [m.a, m.b, m.c, m.d, m.e, m.f]
def vals (m : M6) : List V := [.int m.a, .int m.b, .int m.c, .int m.d, .int m.e, .int m.f]
def one : M6 := ⟨1, 0, 0, 1, 0, 0⟩
/-- first m, then n -/
def comp (m n : M6) : M6 := ⟨n.a * m.a + n.b * m.c, n.a * m.b + n.b * m.d, n.c * m.a + n.d * m.c, n.c * m.b + n.d * m.d, n.a * m.e + n.b * m.f + n.e, n.c * m.e + n.d * m.f + n.f⟩
def inv (m : M6) : M6 := ⟨m.det * m.d, -m.det * m.b, -m.det * m.c, m.det * m.a, -(m.det * m.d * m.e + -m.det * m.b * m.f), -(-m.det * m.c * m.e + m.det * m.a * m.f)⟩
def pow (m : M6) : Nat → M6
  | 0 => one
  | k + 1 => (m.pow k).comp m
def img (m : M6) (p : Int × Int) : Int × Int := (m.a * p.1 + m.b * p.2 + m.e, m.c * p.1 + m.d * p.2 + m.f)
theorem ext' {m n : M6} (h : m.nums = n.nums) : m = n := by
  cases m; cases n
  simp only [nums, List.cons.injEq, and_true] at h
  obtain ⟨h1, h2, h3, h4, h5, h6⟩ := h
  subst h1 h2 h3 h4 h5 h6
  rfl
theorem det_comp (m n : M6) : (m.comp n).det = m.det * n.det := by
  simp only [det, comp]; grind
theorem ok_comp {m n : M6} (h : m.Ok) (k : n.Ok) : (m.comp n).Ok := by
  unfold Ok at *
  rw [det_comp]
  rcases h with h | h <;> rcases k with k | k <;> rw [h, k] <;> decide
theorem ok_sq {m : M6} (h : m.Ok) : m.det * m.det = 1 := by
  rcases h with h | h <;> rw [h] <;> decide
theorem det_inv (m : M6) : m.inv.det = m.det * m.det * m.det := by
  have : m.inv.det = m.det * m.det * (m.a * m.d - m.b * m.c) := by
    simp only [det, inv]; grind
  rw [this]; rfl
theorem ok_inv {m : M6} (h : m.Ok) : m.inv.Ok := by
  unfold Ok
  rw [det_inv, ok_sq h]
  rcases h with h | h <;> rw [h] <;> decide
theorem ok_one : one.Ok := .inl rfl
theorem comp_one (m : M6) : m.comp one = m := by
  cases m; simp [comp, one]
theorem one_comp (m : M6) : one.comp m = m := by
  cases m; simp [comp, one]
theorem comp_assoc (m n k : M6) : (m.comp n).comp k = m.comp (n.comp k) := by
  simp only [comp, mk.injEq]; refine ⟨?_, ?_, ?_, ?_, ?_, ?_⟩ <;> grind
theorem comp_inv {m : M6} (h : m.Ok) : m.comp m.inv = one := by
  have hd := ok_sq h
  simp only [comp, inv, one, mk.injEq]
  generalize e : m.det = s at *
  simp only [det] at e
  refine ⟨?_, ?_, ?_, ?_, ?_, ?_⟩ <;> grind
theorem inv_comp {m : M6} (h : m.Ok) : m.inv.comp m = one := by
  have hd := ok_sq h
  simp only [comp, inv, one, mk.injEq]
  generalize e : m.det = s at *
  simp only [det] at e
  refine ⟨?_, ?_, ?_, ?_, ?_, ?_⟩ <;> grind
theorem ok_pow {m : M6} (h : m.Ok) : ∀ k, (m.pow k).Ok
  | 0 => ok_one
  | k + 1 => ok_comp (ok_pow h k) h
theorem pow_one (m : M6) : m.pow 1 = m := one_comp m
theorem pow_add (m : M6) (i : Nat) : ∀ j, m.pow (i + j) = (m.pow i).comp (m.pow j)
  | 0 => (comp_one _).symm
  | j + 1 => by
    show (m.pow (i + j)).comp m = _
    rw [pow_add m i j, comp_assoc]
    rfl
theorem pow_sq (m : M6) : ∀ k, (m.comp m).pow k = m.pow (2 * k)
  | 0 => rfl
  | k + 1 => by
    show ((m.comp m).pow k).comp (m.comp m) = _
    rw [pow_sq m k, ← comp_assoc]
    rfl
/-- c first, then m, then back -/
def conj (c m : M6) : M6 := (c.comp m).comp c.inv
theorem ok_conj {c m : M6} (h : c.Ok) (k : m.Ok) : (c.conj m).Ok := ok_comp (ok_comp h k) (ok_inv h)
theorem conj_pow {c m : M6} (h : c.Ok) : ∀ k, (c.conj m).pow k = c.conj (m.pow k)
  | 0 => by
    show one = (c.comp one).comp c.inv
    rw [comp_one, comp_inv h]
  | k + 1 => by
    show ((c.conj m).pow k).comp (c.conj m) = _
    rw [conj_pow h k]
    show ((c.comp (m.pow k)).comp c.inv).comp ((c.comp m).comp c.inv) = (c.comp ((m.pow k).comp m)).comp c.inv
    rw [comp_assoc _ c.inv, ← comp_assoc c.inv, ← comp_assoc c.inv, inv_comp h, one_comp, ← comp_assoc, ← comp_assoc]
theorem conj_one {c m : M6} (h : c.Ok) : c.conj m = one ↔ m = one := by
  constructor
  · intro e
    have e2 : c.inv.comp ((c.conj m).comp c) = m := by
      show c.inv.comp (((c.comp m).comp c.inv).comp c) = m
      rw [comp_assoc _ c.inv, inv_comp h, comp_one, ← comp_assoc, inv_comp h, one_comp]
    rw [← e2, e, one_comp, inv_comp h]
  · rintro rfl
    show (c.comp one).comp c.inv = one
    rw [comp_one, comp_inv h]
/-! the least exponent up to n -/
def ordN (m : M6) : Nat → Nat → Option Nat
  | 0, _ => none
  | n + 1, k => if m.pow k = one then some k else ordN m n (k + 1)
theorem ordN_conj {c m : M6} (h : c.Ok) : ∀ n k, (c.conj m).ordN n k = m.ordN n k
  | 0, _ => rfl
  | n + 1, k => by
    unfold ordN
    rw [conj_pow h, ordN_conj h n]
    by_cases e : m.pow k = one
    · rw [if_pos e, if_pos ((conj_one h).mpr e)]
    · rw [if_neg e, if_neg (fun z => e ((conj_one h).mp z))]
theorem ordN_none {m : M6} : ∀ {n k}, (∀ j, k ≤ j → j < k + n → m.pow j ≠ one) → m.ordN n k = none
  | 0, _, _ => rfl
  | n + 1, k, h => by
    unfold ordN
    rw [if_neg (h k (Nat.le_refl _) (by omega))]
    exact ordN_none fun j h1 h2 => h j (by omega) (by omega)
theorem ordN_more {m : M6} : ∀ {n k p}, (∃ j, k ≤ j ∧ j < k + n ∧ m.pow j = one) → m.ordN (n + p) k = m.ordN n k
  | 0, k, p, ⟨j, h1, h2, _⟩ => by omega
  | n + 1, k, p, ⟨j, h1, h2, h3⟩ => by
    rw [show n + 1 + p = (n + p) + 1 by omega]
    unfold ordN
    by_cases e : m.pow k = one
    · rw [if_pos e, if_pos e]
    · rw [if_neg e, if_neg e]
      refine ordN_more ⟨j, ?_, by omega, h3⟩
      rcases Nat.lt_or_ge k j with h | h
      · exact h
      · have : j = k := by omega
        subst this
        exact absurd h3 e
/-! finite orders of integer maps -/
def us (t d : Int) : Nat → Int
  | 0 => 0
  | 1 => 1
  | k + 2 => t * us t d (k + 1) - d * us t d k
theorem lin_pow (m : M6) : ∀ k, (m.pow (k + 1)).a = us (m.a + m.d) m.det (k + 1) * m.a - m.det * us (m.a + m.d) m.det k ∧ (m.pow (k + 1)).b = us (m.a + m.d) m.det (k + 1) * m.b ∧
    (m.pow (k + 1)).c = us (m.a + m.d) m.det (k + 1) * m.c ∧ (m.pow (k + 1)).d = us (m.a + m.d) m.det (k + 1) * m.d - m.det * us (m.a + m.d) m.det k
  | 0 => by
    rw [pow_one]
    simp [us]
  | k + 1 => by
    obtain ⟨h1, h2, h3, h4⟩ := lin_pow m k
    have e : m.pow (k + 1 + 1) = (m.pow (k + 1)).comp m := rfl
    have u : us (m.a + m.d) m.det (k + 1 + 1) = (m.a + m.d) * us (m.a + m.d) m.det (k + 1) - m.det * us (m.a + m.d) m.det k := rfl
    rw [e, u]
    simp only [comp]
    rw [h1, h2, h3, h4]
    generalize us (m.a + m.d) m.det (k + 1) = x
    generalize us (m.a + m.d) m.det k = y
    simp only [det]
    refine ⟨?_, ?_, ?_, ?_⟩ <;> grind
theorem us_far {t : Int} (ht : t ≤ -2 ∨ 2 ≤ t) : ∀ k, (us t 1 k).natAbs < (us t 1 (k + 1)).natAbs
  | 0 => by show (0 : Int).natAbs < (1 : Int).natAbs; decide
  | k + 1 => by
    have h := us_far ht k
    show (us t 1 (k + 1)).natAbs < (t * us t 1 (k + 1) - 1 * us t 1 k).natAbs
    generalize us t 1 (k + 1) = x at *
    generalize us t 1 k = y at *
    have h2 : 2 * x.natAbs ≤ (t * x).natAbs := by
      rw [Int.natAbs_mul]
      exact Nat.mul_le_mul_right _ (by omega)
    omega
theorem us_neg {t : Int} (ht : t ≠ 0) : ∀ k, us t (-1) (k + 1) ≠ 0 ∧ 0 ≤ t * (us t (-1) (k + 1) * us t (-1) k)
  | 0 => ⟨by show (1 : Int) ≠ 0; decide, by show 0 ≤ t * (1 * 0); omega⟩
  | k + 1 => by
    obtain ⟨h1, h2⟩ := us_neg ht k
    have u : us t (-1) (k + 1 + 1) = t * us t (-1) (k + 1) - -1 * us t (-1) k := rfl
    rw [u]
    generalize us t (-1) (k + 1) = x at *
    generalize us t (-1) k = y at *
    have e : t * ((t * x - -1 * y) * x) = (t * x) * (t * x) + t * (x * y) := by grind
    have p : 0 < (t * x) * (t * x) := by
      have hne : t * x ≠ 0 := Int.mul_ne_zero ht h1
      rcases Int.lt_or_gt_of_ne hne with g | g
      · exact Int.mul_pos_of_neg_of_neg g g
      · exact Int.mul_pos g g
    have e2 : 0 < t * ((t * x - -1 * y) * x) := by omega
    refine ⟨fun z => ?_, by omega⟩
    rw [z] at e2
    simp at e2
theorem tr_pow {e f : Int} : ∀ k : Nat, (M6.mk 1 0 0 1 e f).pow k = ⟨1, 0, 0, 1, k * e, k * f⟩
  | 0 => by simp [pow, one]
  | k + 1 => by
    show ((M6.mk 1 0 0 1 e f).pow k).comp ⟨1, 0, 0, 1, e, f⟩ = _
    rw [tr_pow k]
    simp only [comp, mk.injEq]
    refine ⟨by omega, by omega, by omega, by omega, ?_, ?_⟩
    · push_cast; grind
    · push_cast; grind
theorem tr_fin {e f : Int} {k : Nat} (h : (M6.mk 1 0 0 1 e f).pow (k + 1) = one) : e = 0 ∧ f = 0 := by
  rw [tr_pow] at h
  simp only [one, mk.injEq] at h
  obtain ⟨_, _, _, _, h5, h6⟩ := h
  rcases Int.mul_eq_zero.mp h5 with z | z
  · omega
  · rcases Int.mul_eq_zero.mp h6 with y | y
    · omega
    · exact ⟨z, y⟩
theorem finite {m : M6} (hm : m.Ok) {k : Nat} (h : m.pow (k + 1) = one) : ∃ j, 1 ≤ j ∧ j < 7 ∧ m.pow j = one := by
  obtain ⟨h1, h2, h3, h4⟩ := lin_pow m k
  rw [h] at h1 h2 h3 h4
  have scal : m.b = 0 → m.c = 0 → m.a = m.d → ∃ j, 1 ≤ j ∧ j < 7 ∧ m.pow j = one := by
    intro hb hc had
    have hdet : m.det = m.a * m.a := by unfold det; rw [hb, hc, ← had]; omega
    have ha : m.a = 1 ∨ m.a = -1 := by
      have sq : m.a * m.a = 1 := by
        rcases hm with z | z
        · omega
        · have : 0 ≤ m.a * m.a := by
            rcases Int.le_total 0 m.a with g | g
            · exact Int.mul_nonneg g g
            · exact Int.mul_nonneg_of_nonpos_of_nonpos g g
          omega
      have e : (m.a - 1) * (m.a + 1) = 0 := by grind
      rcases Int.mul_eq_zero.mp e with z | z
      · exact .inl (by omega)
      · exact .inr (by omega)
    rcases ha with ha | ha
    · have em : m = ⟨1, 0, 0, 1, m.e, m.f⟩ := by
        cases m; simp only at *; subst hb hc ha; rw [← had]
      rw [em] at h
      obtain ⟨z1, z2⟩ := tr_fin h
      exact ⟨1, by decide, by decide, by rw [pow_one, em, z1, z2]; rfl⟩
    · have em : m = ⟨-1, 0, 0, -1, m.e, m.f⟩ := by
        cases m; simp only at *; subst hb hc ha; rw [← had]
      refine ⟨2, by decide, by decide, ?_⟩
      rw [em]
      simp only [pow, comp, one, mk.injEq]
      refine ⟨by omega, by omega, by omega, by omega, by omega, by omega⟩
  by_cases hu : us (m.a + m.d) m.det (k + 1) = 0
  · rcases hm with hd | hd
    · have ht : ¬ (m.a + m.d ≤ -2 ∨ 2 ≤ m.a + m.d) := fun z => by
        have := us_far z k
        rw [hd] at hu
        rw [hu] at this
        omega
      rcases (show m.a + m.d = -1 ∨ m.a + m.d = 0 ∨ m.a + m.d = 1 by omega) with t | t | t
      · refine ⟨3, by decide, by decide, ?_⟩
        have e : m.d = -1 - m.a := by omega
        simp only [det] at hd
        rw [e] at hd
        simp only [pow, comp, one, mk.injEq]
        rw [e]
        refine ⟨?_, ?_, ?_, ?_, ?_, ?_⟩ <;> grind
      · refine ⟨4, by decide, by decide, ?_⟩
        have e : m.d = - m.a := by omega
        simp only [det] at hd
        rw [e] at hd
        simp only [pow, comp, one, mk.injEq]
        rw [e]
        refine ⟨?_, ?_, ?_, ?_, ?_, ?_⟩ <;> grind
      · refine ⟨6, by decide, by decide, ?_⟩
        have e : m.d = 1 - m.a := by omega
        simp only [det] at hd
        rw [e] at hd
        have p3 : m.pow 3 = ⟨-1, 0, 0, -1, (m.pow 3).e, (m.pow 3).f⟩ := by
          simp only [pow, comp, one, mk.injEq]
          rw [e]
          refine ⟨?_, ?_, ?_, ?_, trivial, trivial⟩ <;> grind
        have : m.pow 6 = (m.pow 3).comp (m.pow 3) := pow_add m 3 3
        rw [this, p3]
        simp only [comp, one, mk.injEq]
        refine ⟨by omega, by omega, by omega, by omega, by omega, by omega⟩
    · have ht : m.a + m.d = 0 := by
        by_cases z : m.a + m.d = 0
        · exact z
        · rw [hd] at hu
          exact absurd hu (us_neg z k).1
      have e : m.d = - m.a := by omega
      simp only [det] at hd
      rw [e] at hd
      have p2 : m.pow 2 = ⟨1, 0, 0, 1, (m.pow 2).e, (m.pow 2).f⟩ := by
        simp only [pow, comp, one, mk.injEq]
        rw [e]
        refine ⟨?_, ?_, ?_, ?_, trivial, trivial⟩ <;> grind
      refine ⟨2, by decide, by decide, ?_⟩
      have q : m.pow (2 * (k + 1)) = one := by
        rw [show 2 * (k + 1) = (k + 1) + (k + 1) by omega, pow_add, h]; rfl
      rw [← pow_sq] at q
      have e2 : m.comp m = m.pow 2 := by
        show m.comp m = (m.pow 1).comp m
        rw [pow_one]
      rw [e2, p2] at q
      obtain ⟨z1, z2⟩ := tr_fin q
      rw [p2, z1, z2]; rfl
  · simp only [one] at h1 h2 h3 h4
    have hb : m.b = 0 := by
      rcases Int.mul_eq_zero.mp h2.symm with z | z
      · exact absurd z hu
      · exact z
    have hc : m.c = 0 := by
      rcases Int.mul_eq_zero.mp h3.symm with z | z
      · exact absurd z hu
      · exact z
    refine scal hb hc ?_
    have e : us (m.a + m.d) m.det (k + 1) * (m.a - m.d) = 0 := by
      rw [Int.mul_sub]; omega
    rcases Int.mul_eq_zero.mp e with z | z
    · exact absurd z hu
    · omega
theorem ord_12 {m : M6} (hm : m.Ok) : m.ordN 12 1 = m.ordN 6 1 := by
  by_cases h : ∃ j, 1 ≤ j ∧ j < 7 ∧ m.pow j = one
  · obtain ⟨j, h1, h2, h3⟩ := h
    exact ordN_more (n := 6) (p := 6) ⟨j, h1, by omega, h3⟩
  · rw [ordN_none, ordN_none]
    · intro j h1 h2 e
      exact h ⟨j, h1, by omega, e⟩
    · intro j h1 h2 e
      obtain ⟨i, rfl⟩ : ∃ i, j = i + 1 := ⟨j - 1, by omega⟩
      exact h (finite hm e)
/-! sizes -/
end M6
def MBd (n : Nat) (m : M6) : Prop := Bd n m.a ∧ Bd n m.b ∧ Bd n m.c ∧ Bd n m.d ∧ Bd n m.e ∧ Bd n m.f
theorem MBd.mono {n k : Nat} {m : M6} (h : MBd n m) (l : n ≤ k) : MBd k m := ⟨h.1.mono l, h.2.1.mono l, h.2.2.1.mono l, h.2.2.2.1.mono l, h.2.2.2.2.1.mono l, h.2.2.2.2.2.mono l⟩
theorem bd_lin {i j : Nat} {a b c d : Int} (h1 : Bd i a) (h2 : Bd j b) (h3 : Bd i c) (h4 : Bd j d) : Bd (i + j + 1) (a * b + c * d) := (h1.mul h2).add (h3.mul h4)
theorem MBd.comp {i j : Nat} {m n : M6} (h : MBd i m) (k : MBd j n) : MBd (i + j + 2) (m.comp n) := by
  obtain ⟨a1, b1, c1, d1, e1, f1⟩ := h
  obtain ⟨a2, b2, c2, d2, e2, f2⟩ := k
  refine ⟨(bd_lin a2 a1 b2 c1).mono (by omega), (bd_lin a2 b1 b2 d1).mono (by omega), (bd_lin c2 a1 d2 c1).mono (by omega), (bd_lin c2 b1 d2 d1).mono (by omega), ?_, ?_⟩
  · exact (((bd_lin a2 e1 b2 f1).mono (by omega : _ ≤ i + j + 1)).add (e2.mono (by omega))).mono (by omega)
  · exact (((bd_lin c2 e1 d2 f1).mono (by omega : _ ≤ i + j + 1)).add (f2.mono (by omega))).mono (by omega)
theorem bd_one : ∀ {n : Nat}, MBd (n + 1) M6.one := by
  intro n
  have h : MBd 1 M6.one := by
    unfold MBd Bd M6.one; decide
  exact h.mono (by omega)
theorem Bd.det {n : Nat} {m : M6} (h : m.Ok) : Bd 1 m.det := by
  rcases h with z | z <;> rw [z] <;> (unfold Bd; decide)
theorem MBd.inv {n : Nat} {m : M6} (o : m.Ok) (h : MBd n m) : MBd (2 * n + 2) m.inv := by
  obtain ⟨a1, b1, c1, d1, e1, f1⟩ := h
  have hd := Bd.det (n := n) o
  have hn := hd.neg
  refine ⟨(hd.mul d1).mono (by omega), (hn.mul b1).mono (by omega), (hn.mul c1).mono (by omega), (hd.mul a1).mono (by omega), ?_, ?_⟩
  · exact ((bd_lin (hd.mul d1) e1 (hn.mul b1) f1).neg).mono (by omega)
  · exact ((bd_lin (hn.mul c1) e1 (hd.mul a1) f1).neg).mono (by omega)
theorem MBd.pow {n : Nat} {m : M6} (h : MBd n m) : ∀ k, MBd (k * (n + 2) + 1) (m.pow k)
  | 0 => bd_one
  | k + 1 => ((MBd.pow h k).comp h).mono (by rw [Nat.succ_mul]; omega)
/-! ### grid maps in the heap -/
def GmAt (K : PySem.W.Frag) (H : Hp) (v : V) (m : M6) : Prop := ∃ a dx t, v = .ref a ∧ H a = some (.ins (He.ga K "GridMap") dx [("six", .ref t)]) ∧ SqT K H t m.vals
theorem GmAt.same {K : PySem.W.Frag} {H H' : Hp} {v : V} {m : M6} (h : GmAt K H v m) (s : Same H H') : GmAt K H' v m := by
  obtain ⟨a, dx, t, rfl, h1, h2⟩ := h
  exact ⟨a, dx, t, rfl, s _ _ h1, sqT_same s h2⟩
theorem GmAt.kp {K : PySem.W.Frag} {H H' : Hp} {v : V} {m : M6} {l : Addr} (h : GmAt K H v m) (k : Kp l H H') (d : DrAt H l) : GmAt K H' v m := by
  obtain ⟨a, dx, t, rfl, h1, h2⟩ := h
  obtain ⟨x, y, e, _⟩ := d
  exact ⟨a, dx, t, rfl, k _ _ (ne_of h1 e (by intro z; cases z)) h1, sqT_kp k ⟨_, e⟩ h2⟩
theorem hds_vals {K : PySem.W.Frag} {H : Hp} (m : M6) : Hds K H m.vals m.nums := hds_ints m.nums
theorem hd_six {K : PySem.W.Frag} {H : Hp} {t : Addr} {m : M6} (h : SqT K H t m.vals) : Hd K H (.ref t) (⟨m.nums⟩ : PySem.W.Tup Int) := hd_tup h (hds_vals m)
theorem nums_iff {m n : M6} : ((⟨m.nums⟩ : PySem.W.Tup Int) = ⟨n.nums⟩) ↔ m = n := ⟨fun h => M6.ext' (PySem.W.Tup.mk.inj h), fun h => by rw [h]⟩
theorem dec_nums {m n : M6} : decide ((⟨m.nums⟩ : PySem.W.Tup Int) = ⟨n.nums⟩) = decide (m = n) := decide_eq_decide.mpr nums_iff
end G
namespace G
open PySem PySem.Spec PyProof.Rows L2
theorem GmAt.of {K : PySem.W.Frag} {H : Hp} {v : V} {m : M6} (h : GmAt K H v m) : ∃ a dx t, v = .ref a ∧ H a = some (.ins (He.ga K "GridMap") dx [("six", .ref t)]) ∧ SqT K H t [.int m.a, .int m.b, .int m.c, .int m.d, .int m.e, .int m.f] := h
end G

namespace G
open PySem PySem.Spec PyProof.Rows L2
def top (i : Nat) : Stmt := PySem.Challenge.pw_latticeshapes_k07_whole_maps_composed.main.body.getD i (.Pass ⟨0, 0, 0, 0⟩)
abbrev s_is_integer : Stmt := top 7
theorem sc_is_integer : FnScope ["value"] ["value"] (defScope s_is_integer) := ⟨rfl, rfl, rfl, by decide +kernel, rfl, by decide +kernel, by decide +kernel⟩
abbrev s_check_integer : Stmt := top 8
theorem sc_check_integer : FnScope ["value", "least"] ["value", "least"] (defScope s_check_integer) := ⟨rfl, rfl, rfl, by decide +kernel, rfl, by decide +kernel, by decide +kernel⟩
abbrev s_is_point : Stmt := top 10
theorem sc_is_point : FnScope ["value", "item"] ["value"] (defScope s_is_point) := ⟨rfl, rfl, rfl, by decide +kernel, rfl, by decide +kernel, by decide +kernel⟩
abbrev s_check_point : Stmt := top 11
theorem sc_check_point : FnScope ["value"] ["value"] (defScope s_check_point) := ⟨rfl, rfl, rfl, by decide +kernel, rfl, by decide +kernel, by decide +kernel⟩
abbrev s_GridMap_init : Stmt := inClass (top 13) 1
theorem sc_GridMap_init : FnScope ["self", "a", "b", "c", "d", "e", "f", "number"] ["self", "a", "b", "c", "d", "e", "f"] (defScope s_GridMap_init) := ⟨rfl, rfl, rfl, by decide +kernel, rfl, by decide +kernel, by decide +kernel⟩
abbrev s_GridMap_eq : Stmt := inClass (top 13) 2
theorem sc_GridMap_eq : FnScope ["self", "other"] ["self", "other"] (defScope s_GridMap_eq) := ⟨rfl, rfl, rfl, by decide +kernel, rfl, by decide +kernel, by decide +kernel⟩
abbrev s_GridMap_identity : Stmt := inClass (top 13) 4
theorem sc_GridMap_identity : FnScope ["cls"] ["cls"] (defScope s_GridMap_identity) := ⟨rfl, rfl, rfl, by decide +kernel, rfl, by decide +kernel, by decide +kernel⟩
abbrev s_GridMap_numbers : Stmt := inClass (top 13) 6
theorem sc_GridMap_numbers : FnScope ["self"] ["self"] (defScope s_GridMap_numbers) := ⟨rfl, rfl, rfl, by decide +kernel, rfl, by decide +kernel, by decide +kernel⟩
abbrev s_GridMap_determinant : Stmt := inClass (top 13) 7
theorem sc_GridMap_determinant : FnScope ["self", "a", "b", "c", "d", "e", "f"] ["self"] (defScope s_GridMap_determinant) := ⟨rfl, rfl, rfl, by decide +kernel, rfl, by decide +kernel, by decide +kernel⟩
abbrev s_GridMap_image : Stmt := inClass (top 13) 9
theorem sc_GridMap_image : FnScope ["self", "point", "a", "b", "c", "d", "e", "f"] ["self", "point"] (defScope s_GridMap_image) := ⟨rfl, rfl, rfl, by decide +kernel, rfl, by decide +kernel, by decide +kernel⟩
abbrev s_GridMap_apply : Stmt := inClass (top 13) 10
theorem sc_GridMap_apply : FnScope ["self", "point"] ["self", "point"] (defScope s_GridMap_apply) := ⟨rfl, rfl, rfl, by decide +kernel, rfl, by decide +kernel, by decide +kernel⟩
abbrev s_GridMap_followed_by : Stmt := inClass (top 13) 11
theorem sc_GridMap_followed_by : FnScope ["self", "other", "a", "b", "c", "d", "e", "f", "p", "q", "r", "s", "t", "u", "shift"] ["self", "other"] (defScope s_GridMap_followed_by) := ⟨rfl, rfl, rfl, by decide +kernel, rfl, by decide +kernel, by decide +kernel⟩
abbrev s_check_map : Stmt := top 14
theorem sc_check_map : FnScope ["value"] ["value"] (defScope s_check_map) := ⟨rfl, rfl, rfl, by decide +kernel, rfl, by decide +kernel, by decide +kernel⟩
abbrev s_GridMap_then : Stmt := inClass (top 13) 12
theorem sc_GridMap_then : FnScope ["self", "others", "other", "found"] ["self", "others"] (defScope s_GridMap_then) := ⟨rfl, rfl, rfl, by decide +kernel, rfl, by decide +kernel, by decide +kernel⟩
abbrev s_GridMap_inverse : Stmt := inClass (top 13) 13
theorem sc_GridMap_inverse : FnScope ["self", "a", "b", "c", "d", "e", "f", "sign", "p", "q", "r", "s"] ["self"] (defScope s_GridMap_inverse) := ⟨rfl, rfl, rfl, by decide +kernel, rfl, by decide +kernel, by decide +kernel⟩
abbrev s_GridMap_power : Stmt := inClass (top 13) 14
theorem sc_GridMap_power : FnScope ["self", "exponent", "factor", "left", "found"] ["self", "exponent"] (defScope s_GridMap_power) := ⟨rfl, rfl, rfl, by decide +kernel, rfl, by decide +kernel, by decide +kernel⟩
abbrev s_law_draws : Stmt := top 16
theorem sc_law_draws : FnScope ["_law_script", "_law_k", "_law_cell", "_law_seed"] ["_law_script", "_law_k"] (defScope s_law_draws) := ⟨rfl, rfl, rfl, by decide +kernel, rfl, by decide +kernel, by decide +kernel⟩
abbrev s_law_draw : Stmt := top 17
theorem sc_law_draw : FnScope ["_law_draws_here", "_law_upto", "_law_digit"] ["_law_draws_here", "_law_upto"] (defScope s_law_draw) := ⟨rfl, rfl, rfl, by decide +kernel, rfl, by decide +kernel, by decide +kernel⟩
abbrev s_law_product : Stmt := top 18
theorem sc_law_product : FnScope ["_law_first", "_law_second", "_law_a", "_law_b", "_law_c", "_law_d", "_law_p", "_law_q", "_law_r", "_law_s"] ["_law_first", "_law_second"] (defScope s_law_product) := ⟨rfl, rfl, rfl, by decide +kernel, rfl, by decide +kernel, by decide +kernel⟩
abbrev s_law_numbers : Stmt := top 19
theorem sc_law_numbers : FnScope ["_law_draws_here", "_law_found", "_law_turn", "_law_k", "_law_factors", "_law_shift"] ["_law_draws_here"] (defScope s_law_numbers) := ⟨rfl, rfl, rfl, by decide +kernel, rfl, by decide +kernel, by decide +kernel⟩
abbrev s_law_image : Stmt := top 20
theorem sc_law_image : FnScope ["_law_numbers_here", "_law_point", "_law_a", "_law_b", "_law_c", "_law_d", "_law_e", "_law_f"] ["_law_numbers_here", "_law_point"] (defScope s_law_image) := ⟨rfl, rfl, rfl, by decide +kernel, rfl, by decide +kernel, by decide +kernel⟩
abbrev s_law_grid : Stmt := top 21
theorem sc_law_grid : FnScope ["_law_numbers_here", "_law_a", "_law_b", "_law_c", "_law_d", "_law_e", "_law_f"] ["_law_numbers_here"] (defScope s_law_grid) := ⟨rfl, rfl, rfl, by decide +kernel, rfl, by decide +kernel, by decide +kernel⟩
abbrev s_law_rejected : Stmt := top 22
theorem sc_law_rejected : FnScope ["_law_grid_here", "_law_value", "_law_found", "_law_function"] ["_law_grid_here", "_law_value"] (defScope s_law_rejected) := ⟨rfl, rfl, rfl, by decide +kernel, rfl, by decide +kernel, by decide +kernel⟩
abbrev s_law_powers_right : Stmt := top 23
theorem sc_law_powers_right : FnScope ["_law_grid_here", "_law_point", "_law_back", "_law_image_here", "_law_start", "_law_exponent"] ["_law_grid_here", "_law_point"] (defScope s_law_powers_right) := ⟨rfl, rfl, rfl, by decide +kernel, rfl, by decide +kernel, by decide +kernel⟩
abbrev s_law : Stmt := top 24
theorem sc_law : FnScope ["_law_script", "_law_k", "_law_draws_here", "_law_some", "_law_grids", "_law_point", "_law_image_here", "_law_numbers_here", "_law_one", "_law_two", "_law_three", "_law_four", "_law_identity", "_law_small", "_law_far", "_law_turn"] ["_law_script"] (defScope s_law) := ⟨rfl, rfl, rfl, by decide +kernel, rfl, by decide +kernel, by decide +kernel⟩
/-! ### what the top has left -/
structure Tx (K : PySem.W.Frag) (mg : Str → Option Value) : Prop where
  n_isinstance : mg "isinstance" = none
  n_int : mg "int" = none
  n_bool : mg "bool" = none
  n_tuple : mg "tuple" = none
  n_all : mg "all" = none
  n_len : mg "len" = none
  n_abs : mg "abs" = none
  n_range : mg "range" = none
  n_max : mg "max" = none
  n_min : mg "min" = none
  g_is_integer : mg "is_integer" = some (.ref (He.ga K "is_integer"))
  g_check_integer : mg "check_integer" = some (.ref (He.ga K "check_integer"))
  g_is_point : mg "is_point" = some (.ref (He.ga K "is_point"))
  g_check_point : mg "check_point" = some (.ref (He.ga K "check_point"))
  g_check_map : mg "check_map" = some (.ref (He.ga K "check_map"))
  g_law_draws : mg "_law_draws" = some (.ref (He.ga K "_law_draws"))
  g_law_draw : mg "_law_draw" = some (.ref (He.ga K "_law_draw"))
  g_law_product : mg "_law_product" = some (.ref (He.ga K "_law_product"))
  g_law_numbers : mg "_law_numbers" = some (.ref (He.ga K "_law_numbers"))
  g_law_image : mg "_law_image" = some (.ref (He.ga K "_law_image"))
  g_law_grid : mg "_law_grid" = some (.ref (He.ga K "_law_grid"))
  g_law_rejected : mg "_law_rejected" = some (.ref (He.ga K "_law_rejected"))
  g_law_powers_right : mg "_law_powers_right" = some (.ref (He.ga K "_law_powers_right"))
  g_law : mg "law" = some (.ref (He.ga K "law"))
  g_InvalidInteger : mg "InvalidInteger" = some (.ref (He.ga K "InvalidInteger"))
  x_InvalidInteger : ExcF K (He.ga K "InvalidInteger")
  g_InvalidMap : mg "InvalidMap" = some (.ref (He.ga K "InvalidMap"))
  x_InvalidMap : ExcF K (He.ga K "InvalidMap")
  g_InvalidPoint : mg "InvalidPoint" = some (.ref (He.ga K "InvalidPoint"))
  x_InvalidPoint : ExcF K (He.ga K "InvalidPoint")
  m_InvalidMap_InvalidMap : PySem.W.exmOne K (.ref (He.ga K "InvalidMap")) (.ref (He.ga K "InvalidMap")) = some true
  m_InvalidInteger_InvalidMap : PySem.W.exmOne K (.ref (He.ga K "InvalidInteger")) (.ref (He.ga K "InvalidMap")) = some false
  m_InvalidInteger_InvalidInteger : PySem.W.exmOne K (.ref (He.ga K "InvalidInteger")) (.ref (He.ga K "InvalidInteger")) = some true
  g_GridMap : mg "GridMap" = some (.ref (He.ga K "GridMap"))
  y_GridMap : InsTy K (He.ga K "GridMap")
  k_GridMap : Mk K (He.ga K "GridMap") (He.ma K (He.ga K "GridMap") "__init__")
  a_GridMap_six : NoAttr K (He.ga K "GridMap") "six"
  o_GridMap : OEq K (He.ga K "GridMap") (He.ma K (He.ga K "GridMap") "__eq__")
  m_GridMap_identity : ClX.CMet K (He.ga K "GridMap") (.type "type") "identity" (He.ma K (He.ga K "GridMap") "identity") (He5.wf K (He.ga K "GridMap") "classmethod" "identity")
  m_GridMap_numbers : PropOf K (He.ga K "GridMap") "numbers" (He.ma K (He.ga K "GridMap") "numbers") (He5.wf K (He.ga K "GridMap") "property" "numbers")
  m_GridMap_determinant : PropOf K (He.ga K "GridMap") "determinant" (He.ma K (He.ga K "GridMap") "determinant") (He5.wf K (He.ga K "GridMap") "property" "determinant")
  m_GridMap_image : Meth K (He.ga K "GridMap") "image" (He.ma K (He.ga K "GridMap") "image")
  m_GridMap_apply : Meth K (He.ga K "GridMap") "apply" (He.ma K (He.ga K "GridMap") "apply")
  m_GridMap_followed_by : Meth K (He.ga K "GridMap") "followed_by" (He.ma K (He.ga K "GridMap") "followed_by")
  m_GridMap_then : Meth K (He.ga K "GridMap") "then" (He.ma K (He.ga K "GridMap") "then")
  m_GridMap_inverse : Meth K (He.ga K "GridMap") "inverse" (He.ma K (He.ga K "GridMap") "inverse")
  m_GridMap_power : Meth K (He.ga K "GridMap") "power" (He.ma K (He.ga K "GridMap") "power")
  cr_GridMap : ClX.CRead K (He.ga K "GridMap") (.type "type")
  i_GridMap : PySem.W.kitOne K (.ref (He.ga K "GridMap")) (.ref (He.ga K "GridMap")) = some true
  j_GridMap : ∀ k ∈ kds, PySem.W.kitOne K (.type k) (.ref (He.ga K "GridMap")) = some false
  nf_GridMap : PySem.W.notFirst K (He.ga K "GridMap") (.ref (He.ga K "GridMap")) = true
  nk_GridMap : ∀ k ∈ kds, PySem.W.notFirst K (He.ga K "GridMap") (.type k) = true
  d_is_integer : FunD K "is_integer" "is_integer" (defArgs s_is_integer) (defBody s_is_integer) (defScope s_is_integer) [] [] (He.ga K "is_integer") (fdOf K (He.ga K "is_integer"))
  d_check_integer : FunD K "check_integer" "check_integer" (defArgs s_check_integer) (defBody s_check_integer) (defScope s_check_integer) [.non] [] (He.ga K "check_integer") (fdOf K (He.ga K "check_integer"))
  d_is_point : FunD K "is_point" "is_point" (defArgs s_is_point) (defBody s_is_point) (defScope s_is_point) [] [] (He.ga K "is_point") (fdOf K (He.ga K "is_point"))
  d_check_point : FunD K "check_point" "check_point" (defArgs s_check_point) (defBody s_check_point) (defScope s_check_point) [] [] (He.ga K "check_point") (fdOf K (He.ga K "check_point"))
  d_GridMap_init : FunD K "__init__" "GridMap.__init__" (defArgs s_GridMap_init) (defBody s_GridMap_init) (defScope s_GridMap_init) [(.int 0), (.int 0)] [] (He.ma K (He.ga K "GridMap") "__init__") (fdOf K (He.ma K (He.ga K "GridMap") "__init__"))
  d_GridMap_eq : FunD K "__eq__" "GridMap.__eq__" (defArgs s_GridMap_eq) (defBody s_GridMap_eq) (defScope s_GridMap_eq) [] [] (He.ma K (He.ga K "GridMap") "__eq__") (fdOf K (He.ma K (He.ga K "GridMap") "__eq__"))
  d_GridMap_identity : FunD K "identity" "GridMap.identity" (defArgs s_GridMap_identity) (defBody s_GridMap_identity) (defScope s_GridMap_identity) [] [] (He5.wf K (He.ga K "GridMap") "classmethod" "identity") (fdOf K (He5.wf K (He.ga K "GridMap") "classmethod" "identity"))
  d_GridMap_numbers : FunD K "numbers" "GridMap.numbers" (defArgs s_GridMap_numbers) (defBody s_GridMap_numbers) (defScope s_GridMap_numbers) [] [] (He5.wf K (He.ga K "GridMap") "property" "numbers") (fdOf K (He5.wf K (He.ga K "GridMap") "property" "numbers"))
  d_GridMap_determinant : FunD K "determinant" "GridMap.determinant" (defArgs s_GridMap_determinant) (defBody s_GridMap_determinant) (defScope s_GridMap_determinant) [] [] (He5.wf K (He.ga K "GridMap") "property" "determinant") (fdOf K (He5.wf K (He.ga K "GridMap") "property" "determinant"))
  d_GridMap_image : FunD K "image" "GridMap.image" (defArgs s_GridMap_image) (defBody s_GridMap_image) (defScope s_GridMap_image) [] [] (He.ma K (He.ga K "GridMap") "image") (fdOf K (He.ma K (He.ga K "GridMap") "image"))
  d_GridMap_apply : FunD K "apply" "GridMap.apply" (defArgs s_GridMap_apply) (defBody s_GridMap_apply) (defScope s_GridMap_apply) [] [] (He.ma K (He.ga K "GridMap") "apply") (fdOf K (He.ma K (He.ga K "GridMap") "apply"))
  d_GridMap_followed_by : FunD K "followed_by" "GridMap.followed_by" (defArgs s_GridMap_followed_by) (defBody s_GridMap_followed_by) (defScope s_GridMap_followed_by) [] [] (He.ma K (He.ga K "GridMap") "followed_by") (fdOf K (He.ma K (He.ga K "GridMap") "followed_by"))
  d_check_map : FunD K "check_map" "check_map" (defArgs s_check_map) (defBody s_check_map) (defScope s_check_map) [] [] (He.ga K "check_map") (fdOf K (He.ga K "check_map"))
  d_GridMap_then : FunD K "then" "GridMap.then" (defArgs s_GridMap_then) (defBody s_GridMap_then) (defScope s_GridMap_then) [] [] (He.ma K (He.ga K "GridMap") "then") (fdOf K (He.ma K (He.ga K "GridMap") "then"))
  d_GridMap_inverse : FunD K "inverse" "GridMap.inverse" (defArgs s_GridMap_inverse) (defBody s_GridMap_inverse) (defScope s_GridMap_inverse) [] [] (He.ma K (He.ga K "GridMap") "inverse") (fdOf K (He.ma K (He.ga K "GridMap") "inverse"))
  d_GridMap_power : FunD K "power" "GridMap.power" (defArgs s_GridMap_power) (defBody s_GridMap_power) (defScope s_GridMap_power) [] [] (He.ma K (He.ga K "GridMap") "power") (fdOf K (He.ma K (He.ga K "GridMap") "power"))
  d_law_draws : FunD K "_law_draws" "_law_draws" (defArgs s_law_draws) (defBody s_law_draws) (defScope s_law_draws) [] [] (He.ga K "_law_draws") (fdOf K (He.ga K "_law_draws"))
  d_law_draw : FunD K "_law_draw" "_law_draw" (defArgs s_law_draw) (defBody s_law_draw) (defScope s_law_draw) [] [] (He.ga K "_law_draw") (fdOf K (He.ga K "_law_draw"))
  d_law_product : FunD K "_law_product" "_law_product" (defArgs s_law_product) (defBody s_law_product) (defScope s_law_product) [] [] (He.ga K "_law_product") (fdOf K (He.ga K "_law_product"))
  d_law_numbers : FunD K "_law_numbers" "_law_numbers" (defArgs s_law_numbers) (defBody s_law_numbers) (defScope s_law_numbers) [] [] (He.ga K "_law_numbers") (fdOf K (He.ga K "_law_numbers"))
  d_law_image : FunD K "_law_image" "_law_image" (defArgs s_law_image) (defBody s_law_image) (defScope s_law_image) [] [] (He.ga K "_law_image") (fdOf K (He.ga K "_law_image"))
  d_law_grid : FunD K "_law_grid" "_law_grid" (defArgs s_law_grid) (defBody s_law_grid) (defScope s_law_grid) [] [] (He.ga K "_law_grid") (fdOf K (He.ga K "_law_grid"))
  d_law_rejected : FunD K "_law_rejected" "_law_rejected" (defArgs s_law_rejected) (defBody s_law_rejected) (defScope s_law_rejected) [] [] (He.ga K "_law_rejected") (fdOf K (He.ga K "_law_rejected"))
  d_law_powers_right : FunD K "_law_powers_right" "_law_powers_right" (defArgs s_law_powers_right) (defBody s_law_powers_right) (defScope s_law_powers_right) [] [] (He.ga K "_law_powers_right") (fdOf K (He.ga K "_law_powers_right"))
  d_law : FunD K "law" "law" (defArgs s_law) (defBody s_law) (defScope s_law) [] [] (He.ga K "law") (fdOf K (He.ga K "law"))
section
variable {K : PySem.W.Frag} {mg : Str → Option Value}
theorem bn_is_integer (T : Tx K mg) : Binds K (fdOf K (He.ga K "is_integer")) ["value"] [] := T.d_is_integer.bindsN fun _ _ _ _ _ _ us hl => match us, hl with | [_], _ => rfl
theorem bd0_check_integer (T : Tx K mg) : ∃ ds, Vals [] ds ∧ Binds K (fdOf K (He.ga K "check_integer")) ["value", "least"] ds := T.d_check_integer.binds1 2 1 (List.cons_ne_nil _ _) rfl fun _ _ _ _ _ _ _ us its hu hi => match us, its, hu, hi with | [_, _], [_], _, _ => ⟨_, rfl, rfl⟩
theorem bd1_check_integer (T : Tx K mg) : ∃ ds, Vals [.non] ds ∧ Binds K (fdOf K (He.ga K "check_integer")) ["value", "least"] ds := T.d_check_integer.binds1 1 0 (List.cons_ne_nil _ _) rfl fun _ _ _ _ _ _ _ us its hu hi => match us, its, hu, hi with | [_], [_], _, _ => ⟨_, rfl, rfl⟩
theorem bn_is_point (T : Tx K mg) : Binds K (fdOf K (He.ga K "is_point")) ["value"] [] := T.d_is_point.bindsN fun _ _ _ _ _ _ us hl => match us, hl with | [_], _ => rfl
theorem bn_check_point (T : Tx K mg) : Binds K (fdOf K (He.ga K "check_point")) ["value"] [] := T.d_check_point.bindsN fun _ _ _ _ _ _ us hl => match us, hl with | [_], _ => rfl
theorem bd0_GridMap_init (T : Tx K mg) : ∃ ds, Vals [] ds ∧ Binds K (fdOf K (He.ma K (He.ga K "GridMap") "__init__")) ["self", "a", "b", "c", "d", "e", "f"] ds := T.d_GridMap_init.binds1 7 2 (List.cons_ne_nil _ _) rfl fun _ _ _ _ _ _ _ us its hu hi => match us, its, hu, hi with | [_, _, _, _, _, _, _], [_, _], _, _ => ⟨_, rfl, rfl⟩
theorem bd1_GridMap_init (T : Tx K mg) : ∃ ds, Vals [(.int 0)] ds ∧ Binds K (fdOf K (He.ma K (He.ga K "GridMap") "__init__")) ["self", "a", "b", "c", "d", "e", "f"] ds := T.d_GridMap_init.binds1 6 1 (List.cons_ne_nil _ _) rfl fun _ _ _ _ _ _ _ us its hu hi => match us, its, hu, hi with | [_, _, _, _, _, _], [_, _], _, _ => ⟨_, rfl, rfl⟩
theorem bd2_GridMap_init (T : Tx K mg) : ∃ ds, Vals [(.int 0), (.int 0)] ds ∧ Binds K (fdOf K (He.ma K (He.ga K "GridMap") "__init__")) ["self", "a", "b", "c", "d", "e", "f"] ds := T.d_GridMap_init.binds1 5 0 (List.cons_ne_nil _ _) rfl fun _ _ _ _ _ _ _ us its hu hi => match us, its, hu, hi with | [_, _, _, _, _], [_, _], _, _ => ⟨_, rfl, rfl⟩
theorem bn_GridMap_eq (T : Tx K mg) : Binds K (fdOf K (He.ma K (He.ga K "GridMap") "__eq__")) ["self", "other"] [] := T.d_GridMap_eq.bindsN fun _ _ _ _ _ _ us hl => match us, hl with | [_, _], _ => rfl
theorem bn_GridMap_identity (T : Tx K mg) : Binds K (fdOf K (He5.wf K (He.ga K "GridMap") "classmethod" "identity")) ["cls"] [] := T.d_GridMap_identity.bindsN fun _ _ _ _ _ _ us hl => match us, hl with | [_], _ => rfl
theorem bn_GridMap_numbers (T : Tx K mg) : Binds K (fdOf K (He5.wf K (He.ga K "GridMap") "property" "numbers")) ["self"] [] := T.d_GridMap_numbers.bindsN fun _ _ _ _ _ _ us hl => match us, hl with | [_], _ => rfl
theorem bn_GridMap_determinant (T : Tx K mg) : Binds K (fdOf K (He5.wf K (He.ga K "GridMap") "property" "determinant")) ["self"] [] := T.d_GridMap_determinant.bindsN fun _ _ _ _ _ _ us hl => match us, hl with | [_], _ => rfl
theorem bn_GridMap_image (T : Tx K mg) : Binds K (fdOf K (He.ma K (He.ga K "GridMap") "image")) ["self", "point"] [] := T.d_GridMap_image.bindsN fun _ _ _ _ _ _ us hl => match us, hl with | [_, _], _ => rfl
theorem bn_GridMap_apply (T : Tx K mg) : Binds K (fdOf K (He.ma K (He.ga K "GridMap") "apply")) ["self", "point"] [] := T.d_GridMap_apply.bindsN fun _ _ _ _ _ _ us hl => match us, hl with | [_, _], _ => rfl
theorem bn_GridMap_followed_by (T : Tx K mg) : Binds K (fdOf K (He.ma K (He.ga K "GridMap") "followed_by")) ["self", "other"] [] := T.d_GridMap_followed_by.bindsN fun _ _ _ _ _ _ us hl => match us, hl with | [_, _], _ => rfl
theorem bn_check_map (T : Tx K mg) : Binds K (fdOf K (He.ga K "check_map")) ["value"] [] := T.d_check_map.bindsN fun _ _ _ _ _ _ us hl => match us, hl with | [_], _ => rfl
theorem bn_GridMap_inverse (T : Tx K mg) : Binds K (fdOf K (He.ma K (He.ga K "GridMap") "inverse")) ["self"] [] := T.d_GridMap_inverse.bindsN fun _ _ _ _ _ _ us hl => match us, hl with | [_], _ => rfl
theorem bn_GridMap_power (T : Tx K mg) : Binds K (fdOf K (He.ma K (He.ga K "GridMap") "power")) ["self", "exponent"] [] := T.d_GridMap_power.bindsN fun _ _ _ _ _ _ us hl => match us, hl with | [_, _], _ => rfl
theorem bn_law_draws (T : Tx K mg) : Binds K (fdOf K (He.ga K "_law_draws")) ["_law_script", "_law_k"] [] := T.d_law_draws.bindsN fun _ _ _ _ _ _ us hl => match us, hl with | [_, _], _ => rfl
theorem bn_law_draw (T : Tx K mg) : Binds K (fdOf K (He.ga K "_law_draw")) ["_law_draws_here", "_law_upto"] [] := T.d_law_draw.bindsN fun _ _ _ _ _ _ us hl => match us, hl with | [_, _], _ => rfl
theorem bn_law_product (T : Tx K mg) : Binds K (fdOf K (He.ga K "_law_product")) ["_law_first", "_law_second"] [] := T.d_law_product.bindsN fun _ _ _ _ _ _ us hl => match us, hl with | [_, _], _ => rfl
theorem bn_law_numbers (T : Tx K mg) : Binds K (fdOf K (He.ga K "_law_numbers")) ["_law_draws_here"] [] := T.d_law_numbers.bindsN fun _ _ _ _ _ _ us hl => match us, hl with | [_], _ => rfl
theorem bn_law_image (T : Tx K mg) : Binds K (fdOf K (He.ga K "_law_image")) ["_law_numbers_here", "_law_point"] [] := T.d_law_image.bindsN fun _ _ _ _ _ _ us hl => match us, hl with | [_, _], _ => rfl
theorem bn_law_grid (T : Tx K mg) : Binds K (fdOf K (He.ga K "_law_grid")) ["_law_numbers_here"] [] := T.d_law_grid.bindsN fun _ _ _ _ _ _ us hl => match us, hl with | [_], _ => rfl
theorem bn_law_rejected (T : Tx K mg) : Binds K (fdOf K (He.ga K "_law_rejected")) ["_law_grid_here", "_law_value"] [] := T.d_law_rejected.bindsN fun _ _ _ _ _ _ us hl => match us, hl with | [_, _], _ => rfl
theorem bn_law_powers_right (T : Tx K mg) : Binds K (fdOf K (He.ga K "_law_powers_right")) ["_law_grid_here", "_law_point"] [] := T.d_law_powers_right.bindsN fun _ _ _ _ _ _ us hl => match us, hl with | [_, _], _ => rfl
end
end G
/-! ### the walk: one step; all plain steps -/
open PySem PySem.Spec PyProof.Rows L2 G
local macro_rules | `(tactic| walk_at "g1") => `(tactic| first
  | (with_reducible refine' r_seq ?_)
  | (with_reducible refine' r_asg ?_)
  | (with_reducible refine' r_ifs ?_)
  | (with_reducible refine' r_test ?_)
  | (with_reducible refine' r_op ?_)
  | ((with_reducible refine' r_var ?h ?_); (case h => exact rfl))
  | (with_reducible refine' r_c ?_)
  | (with_reducible refine' r_I0 ?_)
  | (with_reducible refine' r_bl ?_)
  | (with_reducible refine' r_cons ?_)
  | (with_reducible refine' r_nil ?_)
  | (with_reducible refine' r_gname ?_)
  | (with_reducible refine' r_next ?_)
  | (with_reducible refine' r_ret ?_)
  | (with_reducible refine' r_un ?_)
  | (with_reducible refine' r_U ?_)
  | (with_reducible refine' r_cb ?_)
  | (with_reducible refine' r_call ?_)
  | (with_reducible refine' r_callS ?_)
  | (with_reducible refine' r_callR ?_)
  | (with_reducible refine' r_methA ?_)
  | (with_reducible refine' r_makeA ?_)
  | ((with_reducible refine' r_makeL ?h ?_); (case h => exact rfl))
  | (with_reducible refine' r_cmethA ?_)
  | (with_reducible refine' r_cval ?_)
  | (with_reducible refine' r_prop ?_)
  | (with_reducible refine' r_fld ?_)
  | (with_reducible refine' r_sfld ?_)
  | (with_reducible refine' r_lst ?_)
  | (with_reducible refine' r_tup ?_)
  | (with_reducible refine' r_drop ?_)
  | (with_reducible refine' r_sub ?_)
  | (with_reducible refine' r_and ?_)
  | (with_reducible refine' r_or ?_)
  | (with_reducible refine' r_not ?_)
  | (with_reducible refine' r_andV ?_)
  | (with_reducible refine' r_orV ?_)
  | (with_reducible refine' r_notV ?_)
  | (with_reducible refine' r_if ?_)
  | (with_reducible refine' r_tB ?_)
  | ((with_reducible refine' r_aug ?h ?_); (case h => exact rfl))
  | (with_reducible refine' r_ipI ?_)
  | (with_reducible refine' r_gcons ?_)
  | (with_reducible refine' r_gnil ?_)
  | ((with_reducible refine' r_gtup ?h1 ?_ ?h2); (case h1 => exact SqT.of (by assumption)); (case h2 => exact rfl))
  | ((with_reducible refine' r_gtup ?h1 ?_ ?h2); (case h1 => assumption); (case h2 => exact rfl))
  | (with_reducible refine' r_par ?_)
  | (with_reducible refine' r_two ?_)
  | (with_reducible refine' r_abs ?_)
  | (with_reducible refine' r_intB ?_)
  | (with_reducible refine' r_intI ?_)
  | (with_reducible refine' r_max2 ?_)
  | (with_reducible refine' r_min2 ?_)
  | (with_reducible refine' r_tru ?_)
  | (with_reducible refine' r_truI ?_)
  | (with_reducible refine' r_isN ?_)
  | (with_reducible refine' r_notN ?_)
  | (with_reducible refine' r_isB ?_)
  | (with_reducible refine' r_notB ?_)
  | (with_reducible refine' r_forR1 ?_)
  | (with_reducible refine' r_forR2 ?_)
  | (with_reducible refine' r_forL ?_)
  | (with_reducible refine' r_forT ?_)
  | (with_reducible refine' r_forZ ?_)
  | (with_reducible refine' r_sl ?_)
  | (with_reducible refine' r_noPart ?_)
  | (with_reducible refine' r_part ?_)
  | (with_reducible refine' r_partI ?_)
  | (with_reducible refine' r_lcR1 ?_)
  | (with_reducible refine' r_lcR2 ?_)
  | (with_reducible refine' r_lcL ?_)
  | (with_reducible refine' r_lcT ?_)
  | (with_reducible refine' r_eqI ?_)
  | (with_reducible refine' r_neI ?_)
  | ((with_reducible refine' r_eq ?h ?_); (case h => exact rfl))
  | ((with_reducible refine' r_ne ?h ?_); (case h => exact rfl)))
local macro_rules | `(tactic| walk_at "g") => `(tactic| repeat walk_at "g1")
local macro_rules | `(tactic| walk_at "ix") => `(tactic| first
  | ((with_reducible refine' r_ixL ?h1 ?h2 ?_); (case h1 => exact SqL.of (by assumption)); (case h2 => exact rfl))
  | ((with_reducible refine' r_ixT ?h1 ?h2 ?_); (case h1 => exact SqT.of (by assumption)); (case h2 => exact rfl))
  | ((with_reducible refine' r_ixL ?h1 ?h2 ?_); (case h1 => exact SqL.of upd_same); (case h2 => exact rfl))
  | ((with_reducible refine' r_ixL ?h1 ?h2 ?_); (case h1 => assumption); (case h2 => exact rfl))
  | ((with_reducible refine' r_ixT ?h1 ?h2 ?_); (case h1 => assumption); (case h2 => exact rfl)))
local macro_rules | `(tactic| walk_at "gx") => `(tactic| repeat (first | walk_at "g1" | walk_at "ix"))
local macro_rules | `(tactic| walk_at "g0") => `(tactic| repeat (first | (with_reducible refine' r_asg ?_) | (with_reducible refine' r_gname ?_) | (with_reducible refine' r_next ?_)))
local macro_rules | `(tactic| walk_at "st") => `(tactic| ((with_reducible refine' r_gnameS ?h ?_); (case h => simp only [List.set_cons_zero, List.set_cons_succ]; exact rfl)))
local macro_rules | `(tactic| walk_at "gs") => `(tactic| repeat (first | walk_at "st" | walk_at "g1" | walk_at "ix"))
local macro_rules | `(tactic| walk_at "s0") => `(tactic| ((refine' r_st ?h ?_); (case h => simp only [L2.start, List.map_cons, List.map_nil, List.length_cons, List.length_nil, List.replicate, List.cons_append, List.nil_append, Nat.reduceAdd, Nat.reduceSub, Nat.zero_add]; exact rfl)))
namespace G
open PySem PySem.Spec PyProof.Rows L2
section
variable {P : Program} {w : World} {K : PySem.W.Frag} {mg : Str → Option Value} {base : Heap}
/-! #### is_integer -/
def sp_is_integer (K : PySem.W.Frag) : Sp := fun vs H Q _ => ∃ (v : V) (n : String), vs = [v] ∧ Kd K H v n ∧ Q (.bl (isI v)) H
theorem ok_is_integer (T : Tx K mg) : FnOk P w K mg base CX0 1 (He.ga K "is_integer") (fdOf K (He.ga K "is_integer")) ["value"] (sp_is_integer K) := by
  refine T.d_is_integer.ok sc_is_integer (fun vs H Q E h => ?_) (fun cdv A outer s H vs Q E hr h => ?_)
  · obtain ⟨v, n, rfl, _⟩ := h
    rfl
  · obtain ⟨v, n, rfl, kd, q⟩ := h
    refine ⟨_, PSs.nox (pss_one (ps_ret (pe_and (pe_callB (kIsi (K := K)) (by rfl) T.n_isinstance (by decide +kernel) (pa_cons (pv 0) (pa_cons (pe_bltn (v := .ty "int") (by rfl) T.n_int (by decide +kernel) rfl) pa_nil))) (pe_one (pe_not (pe_callB (kIsi (K := K)) (by rfl) T.n_isinstance (by decide +kernel) (pa_cons (pv 0) (pa_cons (pe_bltn (v := .ty "bool") (by rfl) T.n_bool (by decide +kernel) rfl) pa_nil)))))))), ?_⟩
    obtain ⟨k1, k2, _, _, e⟩ := kd.kit
    walk_at "g"
    refine r_isi (.ty "int") kd.ty k1 ?_
    walk_at "g"
    refine r_b (fun hb => ?_) (fun hb => ?_)
    · walk_at "g"
      refine r_isi (.ty "bool") kd.ty k2 ?_
      walk_at "g"
      rw [hb, Bool.true_and] at e
      rw [← e]
      exact q
    · rw [hb, Bool.false_and] at e
      rw [← e]
      exact q
/-! #### check_integer -/
def goodI (v l : V) : Bool := match v with
  | .int i => (match l with | .int m => decide (m ≤ i) | _ => true)
  | _ => false
def sp_check_integer (K : PySem.W.Frag) : Sp := fun vs H Q E => ∃ (v l : V) (n : String), vs = [v, l] ∧ Kd K H v n ∧ (l = .non ∨ ∃ m, l = .int m) ∧ (goodI v l = true → Q .non H) ∧ (goodI v l = false → E (.ref (He.ga K "InvalidInteger")) none H)
theorem ok_check_integer (T : Tx K mg) : FnOk P w K mg base (L2.CX P w) 2 (He.ga K "check_integer") (fdOf K (He.ga K "check_integer")) ["value", "least"] (sp_check_integer K) := by
  refine T.d_check_integer.ok sc_check_integer (fun vs H Q E h => ?_) (fun cdv A outer s H vs Q E hr h => ?_)
  · obtain ⟨v, l, n, rfl, _⟩ := h
    rfl
  · obtain ⟨v, l, n, rfl, kd, hl, q1, q2⟩ := h
    refine ⟨_, (pss_one (ps_if (PW.pt (pw_or (pt_not (pt_val (pe_call (ok_is_integer T) (hr.mono (by decide)) rfl T.g_is_integer T.d_is_integer.kp (bn_is_integer T) .nil pass0 (pa_cons (pv 0) pa_nil)))) (pw_or1 (PW.pt (pw_and (pt_cmpR op_notN1 (pv 1) pe_non (nomark _)) (pw_and1 (pt_cmpR op_lt (pv 0) (pv 1) (nomark _)))))))) (pss_one (ps_raise rfl (takes_of rfl rfl rfl rfl) (pmk_own PySem.F.excBase_ValueError T.x_InvalidInteger.x T.g_InvalidInteger T.x_InvalidInteger.k (raises_own T.x_InvalidInteger.b T.x_InvalidInteger.t) rfl))) pss_nil)), ?_⟩
    walk_at "g"
    refine ⟨v, n, rfl, kd, ?_⟩
    walk_at "g"
    cases v with
    | int i =>
      show if (!true) = true then _ else _
      refine iteF ?_
      walk_at "g"
      rcases hl with rfl | ⟨m, rfl⟩
      · exact q1 rfl
      · refine iteT ?_
        walk_at "g"
        refine r_dec (fun h => q2 (decide_eq_false (by omega))) (fun h => q1 (decide_eq_true (by omega)))
    | _ => exact q2 rfl
/-! #### is_point -/
def sp_is_point (K : PySem.W.Frag) : Sp := fun vs H Q _ => ∃ (v : V) (b : Bool), vs = [v] ∧ PtB K H v b ∧ ∀ H', Same H H' → Q (.bl b) H'
theorem kd_isi {H : Hp} {v : V} {n : String} (k : Kd K H v n) (c : String) (b : Bool) (hc : kitB n c = some b) {Q : VK} (q : Q (.bl b) H) : rIsi K [v, .ty c] H Q := r_isi (.ty c) k.ty (kit_ty hc) q
theorem ok_is_point (T : Tx K mg) : FnOk P w K mg base CX0 2 (He.ga K "is_point") (fdOf K (He.ga K "is_point")) ["value"] (sp_is_point K) := by
  refine T.d_is_point.ok sc_is_point (fun vs H Q E h => ?_) (fun cdv A outer s H vs Q E hr h => ?_)
  · obtain ⟨v, b, rfl, _⟩ := h
    rfl
  · obtain ⟨v, b, rfl, hb, q⟩ := h
    refine ⟨_, PSs.nox (pss_one (ps_ret (pe_and (pe_callB (kIsi (K := K)) (by rfl) T.n_isinstance (by decide +kernel) (pa_cons (pv 0) (pa_cons (pe_bltn (v := .ty "tuple") (by rfl) T.n_tuple (by decide +kernel) rfl) pa_nil))) (pe_and (pe_cmpR op_eq (pe_callB (kLen (K := K)) (by rfl) T.n_len (by decide +kernel) (pa_cons (pv 0) pa_nil)) pe_int (nomark _)) (pe_one (pe_callB (kAll (K := K) rfl) (by rfl) T.n_all (by decide +kernel) (pa_cons (pe_lc (own := [("item", 1)]) (g := (gName 1)) (tt := tYes) rfl sc_is_point.nd (kpiT (K := K) (pv 0)) (blkOk_by (own := [("item", 1)]) (N := ["value", "item"]) (sc := defScope s_is_point) (by decide +kernel)) (fun _ _ _ _ _ => (pg_name (i := 1) sc_is_point.nd rfl (Or.inl rfl))) (fun _ _ _ _ _ => pts_nil) (fun _ _ _ _ _ => (pe_call (ok_is_integer T) (hr.mono (by decide)) rfl T.g_is_integer T.d_is_integer.kp (bn_is_integer T) .nil pass0 (pa_cons (pv 1) pa_nil)))) pa_nil))))))), ?_⟩
    have two : ∀ (p : Addr) (x y : V) (m n : String), SqT K H p [x, y] → Kd K H x m → Kd K H y n → (isI x && isI y) = b → v = .ref p → tAndV (tOp rEq (tCB (rLn K) (tCons (tVar 0) tNil)) (tC (V.int 2))) (tCB (rAll K) (tCons (tLc (iTup K (tVar 0)) (gName 1) tYes (tCall (sp_is_integer K) [] E0 (tCons (tVar 1) tNil)) [1]) tNil)) [some v, none] H Q := by
      rintro p x y m n hs kx ky hi rfl
      walk_at "gx"
      refine r_lenT hs ?_
      walk_at "gx"
      refine r_dec (fun _ => ?_) (fun h => absurd rfl h)
      walk_at "gx"
      refine compT (xs := [x, y]) (by show 2 ≤ 100000; decide) (fun D i acc H' => Same H H' ∧ acc = ([isI x, isI y].take i).map V.bl) hs (fun D hD => ⟨same_new (Same.refl H) hD, rfl⟩) (fun D i acc H' _ p => sqT_same p.1 hs) ?_ ?_
      · rintro D i z acc H1 hD hz hi2 ⟨S1, rfl⟩ hacc hl
        refine r_gname ⟨rfl, ?_⟩
        walk_at "gx"
        have hi2 : i < 2 := hi2
        have kz : ∃ k, Kd K H1 z k := by
          have hz := List.mem_of_getElem? hz
          simp only [List.mem_cons, List.not_mem_nil, or_false] at hz
          rcases hz with rfl | rfl
          · exact ⟨_, kx.same S1⟩
          · exact ⟨_, ky.same S1⟩
        obtain ⟨k, kz⟩ := kz
        refine ⟨_, _, rfl, kz, ?_⟩
        refine cnext hacc hl (by omega) ⟨fun c o e => ?_, ?_⟩
        · rw [upd_ne (ne_of_none e hD)]
          exact S1 c o e
        · rcases (show i = 0 ∨ i = 1 by omega) with rfl | rfl
          · cases hz; rfl
          · cases hz; rfl
      · rintro D acc H1 hD ⟨S1, rfl⟩ hacc hl
        refine ⟨D, [isI x, isI y], rfl, SqL.of hacc, ?_⟩
        have e : [isI x, isI y].all id = b := by
          show (isI x && (isI y && true)) = b
          rw [Bool.and_true]; exact hi
        rw [e]
        exact q H1 S1
    walk_at "gx"
    cases hb with
    | yes p hp =>
      obtain ⟨a, rfl, hs⟩ := hp.pt_of
      refine kd_isi (.tup hs) _ true (by decide +kernel) ?_
      refine ⟨true, rfl, iteT ?_⟩
      exact two a _ _ _ _ hs (.int _) (.int _) rfl rfl
    | kind k hn =>
      refine kd_isi k _ false ?_ ?_
      · cases k with
        | tup e => exact absurd rfl hn
        | non => decide +kernel
        | bl x => decide +kernel
        | int x => decide +kernel
        | str x => decide +kernel
        | lst x => decide +kernel
        | dK x => decide +kernel
      · refine ⟨false, rfl, iteF ?_⟩
        exact q _ (Same.refl H)
    | @len a xs hs hn =>
      refine kd_isi (.tup hs) _ true (by decide +kernel) ?_
      refine ⟨true, rfl, iteT ?_⟩
      walk_at "gx"
      refine r_lenT hs ?_
      walk_at "gx"
      refine r_dec (fun h => absurd h (by omega)) (fun h => ?_)
      exact q _ (Same.refl H)
    | item hs kx ky hi =>
      refine kd_isi (.tup hs) _ true (by decide +kernel) ?_
      refine ⟨true, rfl, iteT ?_⟩
      exact two _ _ _ _ _ hs kx ky hi rfl
/-! #### check_point -/
def sp_check_point (K : PySem.W.Frag) : Sp := fun vs H Q E => ∃ (v : V) (b : Bool), vs = [v] ∧ PtB K H v b ∧ (b = true → ∀ H', Same H H' → Q .non H') ∧ (b = false → ∀ H', Same H H' → E (.ref (He.ga K "InvalidPoint")) none H')
theorem ok_check_point (T : Tx K mg) : FnOk P w K mg base (L2.CX P w) 3 (He.ga K "check_point") (fdOf K (He.ga K "check_point")) ["value"] (sp_check_point K) := by
  refine T.d_check_point.ok sc_check_point (fun vs H Q E h => ?_) (fun cdv A outer s H vs Q E hr h => ?_)
  · obtain ⟨v, b, rfl, _⟩ := h
    rfl
  · obtain ⟨v, b, rfl, hb, q1, q2⟩ := h
    refine ⟨_, (pss_one (ps_if (pt_not (pt_val (pe_call (ok_is_point T) (hr.mono (by decide)) rfl T.g_is_point T.d_is_point.kp (bn_is_point T) .nil pass0 (pa_cons (pv 0) pa_nil)))) (pss_one (ps_raise rfl (takes_of rfl rfl rfl rfl) (pmk_own PySem.F.excBase_ValueError T.x_InvalidPoint.x T.g_InvalidPoint T.x_InvalidPoint.k (raises_own T.x_InvalidPoint.b T.x_InvalidPoint.t) rfl))) pss_nil)), ?_⟩
    walk_at "gx"
    refine ⟨v, b, rfl, hb, fun H1 s1 => ?_⟩
    walk_at "gx"
    cases b with
    | true => exact q1 rfl H1 s1
    | false => exact q2 rfl H1 s1
/-! #### GridMap.__init__ -/
def sp_GridMap_init (K : PySem.W.Frag) : Sp := fun vs H Q E => ∃ (x dx : Addr) (v1 v2 v3 v4 v5 v6 : V), vs = [.ref x, v1, v2, v3, v4, v5, v6] ∧ H x = some (.ins (He.ga K "GridMap") dx []) ∧ (∀ v ∈ [v1, v2, v3, v4, v5, v6], ∃ n, Kd K H v n) ∧
  ([v1, v2, v3, v4, v5, v6].all isI = false → ∀ H', Same H H' → E (.ref (He.ga K "InvalidInteger")) none H') ∧
  ∀ m : M6, [v1, v2, v3, v4, v5, v6] = m.vals → MBd 100000 m ∧ (m.Ok → ∀ t H', Kp x H H' → H' x = some (.ins (He.ga K "GridMap") dx [("six", .ref t)]) → SqT K H' t m.vals → Q .non H') ∧ (¬ m.Ok → ∀ H', Same H H' → E (.ref (He.ga K "InvalidMap")) none H')
theorem all_six {v1 v2 v3 v4 v5 v6 : V} (h : [v1, v2, v3, v4, v5, v6].all isI = true) : ∃ m : M6, [v1, v2, v3, v4, v5, v6] = m.vals := by
  have one : ∀ v, isI v = true → ∃ i, v = .int i := fun v hv => by
    cases v with
    | int i => exact ⟨i, rfl⟩
    | _ => cases hv
  have all := List.all_eq_true.mp h
  obtain ⟨a, rfl⟩ := one v1 (all _ (by simp))
  obtain ⟨b, rfl⟩ := one v2 (all _ (by simp))
  obtain ⟨c, rfl⟩ := one v3 (all _ (by simp))
  obtain ⟨d, rfl⟩ := one v4 (all _ (by simp))
  obtain ⟨e, rfl⟩ := one v5 (all _ (by simp))
  obtain ⟨f, rfl⟩ := one v6 (all _ (by simp))
  exact ⟨⟨a, b, c, d, e, f⟩, rfl⟩
theorem ok_iff {m : M6} : m.Ok ↔ ((m.a * m.d - m.b * m.c).natAbs : Int) = 1 := by
  unfold M6.Ok M6.det
  omega
theorem ok_GridMap_init (T : Tx K mg) : FnOk P w K mg base (L2.CX P w) 3 (He.ma K (He.ga K "GridMap") "__init__") (fdOf K (He.ma K (He.ga K "GridMap") "__init__")) ["self", "a", "b", "c", "d", "e", "f"] (sp_GridMap_init K) := by
  refine T.d_GridMap_init.ok sc_GridMap_init (fun vs H Q E h => ?_) (fun cdv A outer s H vs Q E hr h => ?_)
  · obtain ⟨x, dx, v1, v2, v3, v4, v5, v6, rfl, _⟩ := h
    rfl
  · obtain ⟨x, dx, v1, v2, v3, v4, v5, v6, rfl, hx, hk, q2, q1⟩ := h
    refine ⟨_, (pss_cons (ps_for (passes_of rfl) rfl (kpiT (K := K) (pe_tup (pa_cons (pv 1) (pa_cons (pv 2) (pa_cons (pv 3) (pa_cons (pv 4) (pa_cons (pv 5) (pa_cons (pv 6) pa_nil)))))))) (pg_name (i := 7) sc_GridMap_init.nd rfl (Or.inl rfl))
      (pss_one (ps_expr (pe_call (ok_check_integer T) (hr.mono (by decide)) rfl T.g_check_integer T.d_check_integer.kp (bd1_check_integer T).choose_spec.2 (bd1_check_integer T).choose_spec.1 (passes_call (takes_of rfl rfl rfl rfl) (fun _ _ _ _ h => h)) (pa_cons (pv 7) pa_nil)))))
      (pss_cons (ps_if (pt_cmpR op_ne (pe_callB cAbs (by rfl) T.n_abs (by decide +kernel) (pa_cons (pe_op op_sub (pe_op op_mulA (pv 1) (pv 4)) (pe_op op_mulA (pv 2) (pv 3))) pa_nil)) pe_int (nomark _)) (pss_one (ps_raise rfl (takes_of rfl rfl rfl rfl) (pmk_own PySem.F.excBase_ValueError T.x_InvalidMap.x T.g_InvalidMap T.x_InvalidMap.k (raises_own T.x_InvalidMap.b T.x_InvalidMap.t) rfl))) pss_nil)
      (pss_one (kSFld (K := K) (ps_fld (pv 0) (pe_tup (pa_cons (pv 1) (pa_cons (pv 2) (pa_cons (pv 3) (pa_cons (pv 4) (pa_cons (pv 5) (pa_cons (pv 6) pa_nil))))))) rfl))))), ?_⟩
    walk_at "gx"
    refine r_new fun t ht => ?_
    generalize e1 : upd H t _ = H1
    obtain ⟨s1, g1⟩ := fresh ht e1
    walk_at "gx"
    refine loopT (xs := [v1, v2, v3, v4, v5, v6]) (fun i σ' H' => H1 = H' ∧ ([v1, v2, v3, v4, v5, v6].take i).all isI = true ∧ ∃ o, σ' = [some (.ref x), some v1, some v2, some v3, some v4, some v5, some v6, o]) ⟨rfl, rfl, _, rfl⟩ (fun i σ' H' _ q => by obtain ⟨rfl, _⟩ := q; exact SqT.of g1) ?_ ?_
    · rintro i z σ' H' hi ⟨rfl, ha, o, rfl⟩
      walk_at "gx"
      have hm := List.mem_of_getElem? hi
      obtain ⟨n, kd⟩ := hk z hm
      refine ⟨z, .non, n, rfl, kd.same s1, .inl rfl, fun g => ?_, fun g => q2 ?_ _ s1⟩
      · have hz : isI z = true := by
          cases z with
          | int j => rfl
          | _ => cases g
        refine ⟨rfl, ?_, _, rfl⟩
        have e : [v1, v2, v3, v4, v5, v6].take (i + 1) = [v1, v2, v3, v4, v5, v6].take i ++ [z] := by rw [List.take_succ, hi]; rfl
        rw [e, List.all_append, ha]
        show (isI z && true) = true
        rw [hz] <;> rfl
      · have hz : isI z = false := by
          cases z with
          | int j => cases g
          | _ => rfl
        cases q : [v1, v2, v3, v4, v5, v6].all isI with
        | false => rfl
        | true =>
          have := List.all_eq_true.mp q z hm
          rw [hz] at this
          cases this
    · rintro σ' H' ⟨rfl, ha, o, rfl⟩
      obtain ⟨m, em⟩ := all_six (v1 := v1) (v2 := v2) (v3 := v3) (v4 := v4) (v5 := v5) (v6 := v6) ha
      obtain ⟨bd, q1b, q3⟩ := q1 m em
      simp only [M6.vals, List.cons.injEq, and_true] at em
      obtain ⟨rfl, rfl, rfl, rfl, rfl, rfl⟩ := em
      obtain ⟨ba, bb, bc, bd, be, bf⟩ := bd
      walk_at "gx"
      refine r_I (ba.ok bd) ?_
      walk_at "gx"
      refine r_I (bb.ok bc) ?_
      walk_at "gx"
      refine r_ndec (fun hn => q3 (fun z => hn (ok_iff.mp z)) _ s1) (fun hn => ?_)
      walk_at "gx"
      refine r_new fun t2 ht2 => ?_
      generalize e2 : upd H1 t2 _ = H2
      obtain ⟨s2, g2⟩ := fresh ht2 e2
      walk_at "gx"
      have hx2 := s2 _ _ (s1 _ _ hx)
      refine ⟨x, _, dx, [], rfl, hx2, T.y_GridMap.cl, T.a_GridMap_six, by decide, ?_⟩
      have ne : t2 ≠ x := fun z => by
        subst z
        have := s1 _ _ hx
        rw [ht2] at this
        cases this
      refine q1b (ok_iff.mpr hn) t2 _ ((Kp.of_same (s1.trans s2)).put) upd_same ?_
      refine SqT.of ?_
      rw [upd_ne ne]
      exact g2
theorem mk_good {H : Hp} {m : M6} {Q : VK} {E : XK} (ok : m.Ok) (bd : MBd 100000 m) (q : ∀ v H', Same H H' → GmAt K H' v m → Q v H') : ∀ x dx, H x = none → H dx = none → dx ≠ x →
    sp_GridMap_init K [V.ref x, .int m.a, .int m.b, .int m.c, .int m.d, .int m.e, .int m.f] (upd (upd H dx (.own x)) x (.ins (He.ga K "GridMap") dx [])) (fun v H2 => v = .non ∧ Q (.ref x) H2) E := by
  intro x dx hx hdx hne
  have s0 : Same H (upd (upd H dx (.own x)) x (.ins (He.ga K "GridMap") dx [])) := by
    refine same_new (same_new (Same.refl H) hdx) ?_
    rw [upd_ne hne.symm]; exact hx
  refine ⟨x, dx, _, _, _, _, _, _, rfl, upd_same, ?_, (fun h => ?_), fun m' em => ?_⟩
  · intro v hv
    simp only [List.mem_cons, List.not_mem_nil, or_false] at hv
    rcases hv with rfl | rfl | rfl | rfl | rfl | rfl <;> exact ⟨_, .int _⟩
  · simp [isI] at h
  · have e : m' = m := by
      simp only [M6.vals, List.cons.injEq, and_true, V.int.injEq] at em
      obtain ⟨h1, h2, h3, h4, h5, h6⟩ := em
      cases m; cases m'
      simp only at *
      subst h1 h2 h3 h4 h5 h6
      rfl
    subst e
    refine ⟨bd, fun _ t H' k h1 h2 => ⟨rfl, ?_⟩, fun h => absurd ok h⟩
    exact q _ _ (same_kp s0 hx k) ⟨x, dx, t, rfl, h1, h2⟩
/-! #### GridMap.__eq__ -/
def sp_GridMap_eq (K : PySem.W.Frag) : Sp := fun vs H Q _ => ∃ (v u : V) (m : M6), vs = [v, u] ∧ GmAt K H v m ∧ ((∃ n, GmAt K H u n ∧ Q (.bl (decide (m = n))) H) ∨ (∃ k, Kd K H u k ∧ Q (.bl false) H))
theorem ok_GridMap_eq (T : Tx K mg) : FnOk P w K mg base CX0 1 (He.ma K (He.ga K "GridMap") "__eq__") (fdOf K (He.ma K (He.ga K "GridMap") "__eq__")) ["self", "other"] (sp_GridMap_eq K) := by
  refine T.d_GridMap_eq.ok sc_GridMap_eq (fun vs H Q E h => ?_) (fun cdv A outer s H vs Q E hr h => ?_)
  · obtain ⟨v, u, m, rfl, _⟩ := h
    rfl
  · obtain ⟨v, u, m, rfl, hv, h⟩ := h
    obtain ⟨a, dx, t, rfl, ha, ht⟩ := hv.of
    refine ⟨_, PSs.nox (pss_one (ps_ret (pe_and (pe_callB (kIsi (K := K)) (by rfl) T.n_isinstance (by decide +kernel) (pa_cons (pv 1) (pa_cons (pe_glob (v := .ref (He.ga K "GridMap")) rfl T.g_GridMap rfl) pa_nil))) (pe_one (pe_cmpR (kEqD (K := K) hr.units) (kFld (K := K) (pe_fld (pv 0) rfl)) (kFld (K := K) (pe_fld (pv 1) rfl)) (nomark _)))))), ?_⟩
    rcases h with ⟨n, hu, q⟩ | ⟨k, hu, q⟩
    · obtain ⟨b, dy, t2, rfl, hb, ht2⟩ := hu.of
      walk_at "gx"
      refine r_isi (.own _) (T.y_GridMap.ty hb) T.i_GridMap ?_
      walk_at "gx"
      refine iteT ?_
      walk_at "gx"
      refine r_fldAt ha T.y_GridMap.cl T.a_GridMap_six rfl ?_
      walk_at "gx"
      refine r_fldAt hb T.y_GridMap.cl T.a_GridMap_six rfl ?_
      refine r_eqH (hd_six ht) (hd_six ht2) ?_
      rw [dec_nums]
      exact q
    · walk_at "gx"
      refine r_isi (.own _) hu.ty (T.j_GridMap _ hu.mem) ?_
      walk_at "gx"
      exact q
def RGm (K : PySem.W.Frag) (a b : Addr) (H : Hp) : Prop := ∃ m, GmAt K H (.ref a) m ∧ GmAt K H (.ref b) m
abbrev EqvGm (K : PySem.W.Frag) : Eqv := DIns (He.ga K "GridMap") (RGm K)
theorem mon_GridMap : Mon (EqvGm K) := mon_ins fun a b H H' e ⟨m, h1, h2⟩ => ⟨m, h1.same e, h2.same e⟩
theorem imp_GridMap (vs : List V) (H : Hp) (Q : VK) (E : XK) (h : spEq (RGm K) vs H Q E) : sp_GridMap_eq K vs H Q E := by
  obtain ⟨a, b, rfl, ⟨m, h1, h2⟩, q⟩ := h
  refine ⟨_, _, m, rfl, h1, .inl ⟨m, h2, ?_⟩⟩
  rw [decide_eq_true rfl]; exact q H (Same.refl H)
theorem eqv_gm {H : Hp} {u v : V} {m : M6} (h1 : GmAt K H u m) (h2 : GmAt K H v m) : EqvGm K u v H := by
  obtain ⟨a, dx, t, rfl, ha, ht⟩ := h1.of
  obtain ⟨b, dy, t2, rfl, hb, ht2⟩ := h2.of
  exact ⟨a, b, dx, dy, _, _, rfl, rfl, ha, hb, m, h1, h2⟩
/-! #### GridMap.identity -/
def sp_GridMap_identity (K : PySem.W.Frag) : Sp := fun vs H Q _ => vs = [.ref (He.ga K "GridMap")] ∧ ∀ v H', Same H H' → GmAt K H' v M6.one → Q v H'
theorem ok_GridMap_identity (T : Tx K mg) : FnOk P w K mg base CX0 5 (He5.wf K (He.ga K "GridMap") "classmethod" "identity") (fdOf K (He5.wf K (He.ga K "GridMap") "classmethod" "identity")) ["cls"] (sp_GridMap_identity K) := by
  refine T.d_GridMap_identity.ok sc_GridMap_identity (fun vs H Q E h => ?_) (fun cdv A outer s H vs Q E hr h => ?_)
  · obtain ⟨rfl, _⟩ := h
    rfl
  · obtain ⟨rfl, q⟩ := h
    refine ⟨_, PSs.nox (pss_one (ps_ret (pe_makeL (i := 0) T.k_GridMap (FnOk.raw (ok_GridMap_init T) (bd2_GridMap_init T).choose_spec.2 (bd2_GridMap_init T).choose_spec.1) (hr.mono (by decide)) rfl (Or.inl rfl) (passAll passL) (pa_cons pe_int (pa_cons pe_int (pa_cons pe_int (pa_cons pe_int pa_nil))))))), ?_⟩
    walk_at "gx"
    exact mk_good M6.ok_one bd_one q
/-! #### GridMap.numbers -/
def sp_GridMap_numbers (K : PySem.W.Frag) : Sp := fun vs H Q _ => ∃ (v : V) (m : M6), vs = [v] ∧ GmAt K H v m ∧ ∀ t, SqT K H t m.vals → Q (.ref t) H
theorem ok_GridMap_numbers (T : Tx K mg) : FnOk P w K mg base CX0 1 (He5.wf K (He.ga K "GridMap") "property" "numbers") (fdOf K (He5.wf K (He.ga K "GridMap") "property" "numbers")) ["self"] (sp_GridMap_numbers K) := by
  refine T.d_GridMap_numbers.ok sc_GridMap_numbers (fun vs H Q E h => ?_) (fun cdv A outer s H vs Q E hr h => ?_)
  · obtain ⟨v, m, rfl, _⟩ := h
    rfl
  · obtain ⟨v, m, rfl, hv, q⟩ := h
    obtain ⟨a, dx, t, rfl, ha, ht⟩ := hv.of
    refine ⟨_, PSs.nox (pss_one (ps_ret (kFld (K := K) (pe_fld (pv 0) rfl)))), ?_⟩
    walk_at "gx"
    refine r_fldAt ha T.y_GridMap.cl T.a_GridMap_six rfl ?_
    exact q _ ht
/-! #### GridMap.determinant -/
def sp_GridMap_determinant (K : PySem.W.Frag) : Sp := fun vs H Q _ => ∃ (v : V) (m : M6), vs = [v] ∧ GmAt K H v m ∧ MBd 100000 m ∧ Q (.int m.det) H
theorem ok_GridMap_determinant (T : Tx K mg) : FnOk P w K mg base CX0 1 (He5.wf K (He.ga K "GridMap") "property" "determinant") (fdOf K (He5.wf K (He.ga K "GridMap") "property" "determinant")) ["self"] (sp_GridMap_determinant K) := by
  refine T.d_GridMap_determinant.ok sc_GridMap_determinant (fun vs H Q E h => ?_) (fun cdv A outer s H vs Q E hr h => ?_)
  · obtain ⟨v, m, rfl, _⟩ := h
    rfl
  · obtain ⟨v, m, rfl, hv, bd, q⟩ := h
    obtain ⟨a, dx, t, rfl, ha, ht⟩ := hv.of
    obtain ⟨b1, b2, b3, b4, b5, b6⟩ := bd
    refine ⟨_, PSs.nox (pss_cons (ps_asg (kFld (K := K) (pe_fld (pv 0) rfl)) (kpgTup (K := K) rfl (pgs_cons (pg_name (i := 1) sc_GridMap_determinant.nd rfl (Or.inl rfl)) (pgs_cons (pg_name (i := 2) sc_GridMap_determinant.nd rfl (Or.inl rfl)) (pgs_cons (pg_name (i := 3) sc_GridMap_determinant.nd rfl (Or.inl rfl)) (pgs_cons (pg_name (i := 4) sc_GridMap_determinant.nd rfl (Or.inl rfl)) (pgs_cons (pg_name (i := 5) sc_GridMap_determinant.nd rfl (Or.inl rfl)) (pgs_cons (pg_name (i := 6) sc_GridMap_determinant.nd rfl (Or.inl rfl)) pgs_nil))))))))
      (pss_one (ps_ret (pe_op op_sub (pe_op op_mulA (pv 1) (pv 4)) (pe_op op_mulA (pv 2) (pv 3)))))), ?_⟩
    walk_at "gx"
    refine r_fldAt ha T.y_GridMap.cl T.a_GridMap_six rfl ?_
    walk_at "gx"
    refine r_I (b1.ok b4) ?_
    walk_at "gx"
    refine r_I (b2.ok b3) ?_
    walk_at "gx"
    exact q
/-! #### GridMap.image -/
def sp_GridMap_image (K : PySem.W.Frag) : Sp := fun vs H Q _ => ∃ (v u : V) (m : M6) (p : Int × Int), vs = [v, u] ∧ GmAt K H v m ∧ Hd K H u p ∧ MBd 100000 m ∧ PBd 100000 p ∧ ∀ r H', Same H H' → Hd K H' r (m.img p) → Q r H'
theorem ok_GridMap_image (T : Tx K mg) : FnOk P w K mg base CX0 1 (He.ma K (He.ga K "GridMap") "image") (fdOf K (He.ma K (He.ga K "GridMap") "image")) ["self", "point"] (sp_GridMap_image K) := by
  refine T.d_GridMap_image.ok sc_GridMap_image (fun vs H Q E h => ?_) (fun cdv A outer s H vs Q E hr h => ?_)
  · obtain ⟨v, u, m, p, rfl, _⟩ := h
    rfl
  · obtain ⟨v, u, m, p, rfl, hv, hu, bd, bp, q⟩ := h
    obtain ⟨a, dx, t, rfl, ha, ht⟩ := hv.of
    obtain ⟨a2, rfl, ha2⟩ := hu.pt_of
    obtain ⟨b1, b2, b3, b4, b5, b6⟩ := bd
    refine ⟨_, PSs.nox (pss_cons (ps_asg (kFld (K := K) (pe_fld (pv 0) rfl)) (kpgTup (K := K) rfl (pgs_cons (pg_name (i := 2) sc_GridMap_image.nd rfl (Or.inl rfl)) (pgs_cons (pg_name (i := 3) sc_GridMap_image.nd rfl (Or.inl rfl)) (pgs_cons (pg_name (i := 4) sc_GridMap_image.nd rfl (Or.inl rfl)) (pgs_cons (pg_name (i := 5) sc_GridMap_image.nd rfl (Or.inl rfl)) (pgs_cons (pg_name (i := 6) sc_GridMap_image.nd rfl (Or.inl rfl)) (pgs_cons (pg_name (i := 7) sc_GridMap_image.nd rfl (Or.inl rfl)) pgs_nil))))))))
      (pss_one (ps_ret (pe_tup (pa_cons (pe_op op_add (pe_op op_add (pe_op op_mulA (pv 2) (pe_ix (kIxT (K := K)) (pv 1) pe_int (fun _ _ => rfl))) (pe_op op_mulA (pv 3) (pe_ix (kIxT (K := K)) (pv 1) pe_int (fun _ _ => rfl)))) (pv 6)) (pa_cons (pe_op op_add (pe_op op_add (pe_op op_mulA (pv 4) (pe_ix (kIxT (K := K)) (pv 1) pe_int (fun _ _ => rfl))) (pe_op op_mulA (pv 5) (pe_ix (kIxT (K := K)) (pv 1) pe_int (fun _ _ => rfl)))) (pv 7)) pa_nil)))))), ?_⟩
    walk_at "gx"
    refine r_fldAt ha T.y_GridMap.cl T.a_GridMap_six rfl ?_
    walk_at "gx"
    refine r_I (b1.ok bp.1) ?_
    walk_at "gx"
    refine r_I (b2.ok bp.2) ?_
    walk_at "gx"
    refine r_I (b3.ok bp.1) ?_
    walk_at "gx"
    refine r_I (b4.ok bp.2) ?_
    walk_at "gx"
    refine r_new fun t2 ht2 => ?_
    generalize e2 : upd H t2 _ = H2
    obtain ⟨s2, g2⟩ := fresh ht2 e2
    exact q _ _ s2 (hd_pair (SqT.of g2) hd_int hd_int)
/-! #### GridMap.apply -/
def sp_GridMap_apply (K : PySem.W.Frag) : Sp := fun vs H Q E => ∃ (v u : V) (m : M6), vs = [v, u] ∧ GmAt K H v m ∧ MBd 100000 m ∧ ((PtB K H u false ∧ ∀ H', Same H H' → E (.ref (He.ga K "InvalidPoint")) none H') ∨
  (∃ p : Int × Int, Hd K H u p ∧ PBd 100000 p ∧ ∀ r H', Same H H' → Hd K H' r (m.img p) → Q r H'))
theorem ok_GridMap_apply (T : Tx K mg) : FnOk P w K mg base (L2.CX P w) 4 (He.ma K (He.ga K "GridMap") "apply") (fdOf K (He.ma K (He.ga K "GridMap") "apply")) ["self", "point"] (sp_GridMap_apply K) := by
  refine T.d_GridMap_apply.ok sc_GridMap_apply (fun vs H Q E h => ?_) (fun cdv A outer s H vs Q E hr h => ?_)
  · obtain ⟨v, u, m, rfl, _⟩ := h
    rfl
  · obtain ⟨v, u, m, rfl, hv, bd, h⟩ := h
    refine ⟨_, (pss_cons (ps_expr (pe_call (ok_check_point T) (hr.mono (by decide)) rfl T.g_check_point T.d_check_point.kp (bn_check_point T) .nil (passes_call (takes_of rfl rfl rfl rfl) (fun _ _ _ _ h => h)) (pa_cons (pv 1) pa_nil)))
      (pss_one (ps_ret (pe_methA (pv 0) T.y_GridMap.cl T.m_GridMap_image (FnOk.raw (ok_GridMap_image T) (bn_GridMap_image T) .nil) (hr.mono (by decide)) (passAll pass0) (pa_cons (pv 1) pa_nil))))), ?_⟩
    walk_at "gx"
    rcases h with ⟨hb, q⟩ | ⟨p, hp, bp, q⟩
    · exact ⟨u, false, rfl, hb, (fun eb => nomatch eb), fun eb H1 s1 => q H1 s1⟩
    · refine ⟨u, true, rfl, .yes p hp, fun eb H1 s1 => ?_, fun eb => nomatch eb⟩
      have hv1 := hv.same s1
      obtain ⟨a, dx, t, rfl, ha, ht⟩ := hv1.of
      walk_at "gx"
      refine r_recv ha rfl ?_
      walk_at "gx"
      exact ⟨_, _, m, p, rfl, hv1, hp.same s1, bd, bp, fun r H' s2 hr => q r H' (s1.trans s2) hr⟩
/-! #### GridMap.followed_by -/
def sp_GridMap_followed_by (K : PySem.W.Frag) : Sp := fun vs H Q _ => ∃ (v u : V) (m n : M6), vs = [v, u] ∧ GmAt K H v m ∧ GmAt K H u n ∧ m.Ok ∧ n.Ok ∧ MBd 40000 m ∧ MBd 40000 n ∧ ∀ r H', Same H H' → GmAt K H' r (m.comp n) → Q r H'
theorem ok_GridMap_followed_by (T : Tx K mg) : FnOk P w K mg base CX0 5 (He.ma K (He.ga K "GridMap") "followed_by") (fdOf K (He.ma K (He.ga K "GridMap") "followed_by")) ["self", "other"] (sp_GridMap_followed_by K) := by
  refine T.d_GridMap_followed_by.ok sc_GridMap_followed_by (fun vs H Q E h => ?_) (fun cdv A outer s H vs Q E hr h => ?_)
  · obtain ⟨v, u, m, n, rfl, _⟩ := h
    rfl
  · obtain ⟨v, u, m, n, rfl, hv, hu, om, on, bm, bn, q⟩ := h
    obtain ⟨a, dx, t, rfl, ha, ht⟩ := hv.of
    obtain ⟨b, dy, t2, rfl, hb, ht2⟩ := hu.of
    have bc := bm.comp bn
    obtain ⟨a1, b1, c1, d1, e1, f1⟩ := bm
    obtain ⟨a2, b2, c2, d2, e2, f2⟩ := bn
    refine ⟨_, PSs.nox (pss_cons (ps_asg (kFld (K := K) (pe_fld (pv 0) rfl)) (kpgTup (K := K) rfl (pgs_cons (pg_name (i := 2) sc_GridMap_followed_by.nd rfl (Or.inl rfl)) (pgs_cons (pg_name (i := 3) sc_GridMap_followed_by.nd rfl (Or.inl rfl)) (pgs_cons (pg_name (i := 4) sc_GridMap_followed_by.nd rfl (Or.inl rfl)) (pgs_cons (pg_name (i := 5) sc_GridMap_followed_by.nd rfl (Or.inl rfl)) (pgs_cons (pg_name (i := 6) sc_GridMap_followed_by.nd rfl (Or.inl rfl)) (pgs_cons (pg_name (i := 7) sc_GridMap_followed_by.nd rfl (Or.inl rfl)) pgs_nil))))))))
      (pss_cons (ps_asg (pe_prop (pv 1) T.y_GridMap.cl T.m_GridMap_numbers (ok_GridMap_numbers T) (hr.mono (by decide)) (bn_GridMap_numbers T) .nil pass0 rfl) (kpgTup (K := K) rfl (pgs_cons (pg_name (i := 8) sc_GridMap_followed_by.nd rfl (Or.inl rfl)) (pgs_cons (pg_name (i := 9) sc_GridMap_followed_by.nd rfl (Or.inl rfl)) (pgs_cons (pg_name (i := 10) sc_GridMap_followed_by.nd rfl (Or.inl rfl)) (pgs_cons (pg_name (i := 11) sc_GridMap_followed_by.nd rfl (Or.inl rfl)) (pgs_cons (pg_name (i := 12) sc_GridMap_followed_by.nd rfl (Or.inl rfl)) (pgs_cons (pg_name (i := 13) sc_GridMap_followed_by.nd rfl (Or.inl rfl)) pgs_nil))))))))
      (pss_cons (ps_set (i := 14) sc_GridMap_followed_by.nd rfl (Or.inl rfl) (pe_methA (pv 1) T.y_GridMap.cl T.m_GridMap_image (FnOk.raw (ok_GridMap_image T) (bn_GridMap_image T) .nil) (hr.mono (by decide)) (passAll pass0) (pa_cons (pe_tup (pa_cons (pv 6) (pa_cons (pv 7) pa_nil))) pa_nil)))
      (pss_one (ps_ret (pe_makeA T.k_GridMap (FnOk.raw (ok_GridMap_init T) (bd0_GridMap_init T).choose_spec.2 (bd0_GridMap_init T).choose_spec.1) (hr.mono (by decide)) rfl T.g_GridMap (passAll passL) (pa_cons (pe_op op_add (pe_op op_mulA (pv 8) (pv 2)) (pe_op op_mulA (pv 9) (pv 4))) (pa_cons (pe_op op_add (pe_op op_mulA (pv 8) (pv 3)) (pe_op op_mulA (pv 9) (pv 5))) (pa_cons (pe_op op_add (pe_op op_mulA (pv 10) (pv 2)) (pe_op op_mulA (pv 11) (pv 4))) (pa_cons (pe_op op_add (pe_op op_mulA (pv 10) (pv 3)) (pe_op op_mulA (pv 11) (pv 5))) (pa_cons (pe_ix (kIxT (K := K)) (pv 14) pe_int (fun _ _ => rfl)) (pa_cons (pe_ix (kIxT (K := K)) (pv 14) pe_int (fun _ _ => rfl)) pa_nil)))))))))))), ?_⟩
    walk_at "s0"
    walk_at "gs"
    refine r_fldAt ha T.y_GridMap.cl T.a_GridMap_six rfl ?_
    walk_at "gs"
    refine ⟨b, dy, _, rfl, hb, ?_⟩
    refine ⟨_, n, rfl, hu, fun t3 ht3 => ?_⟩
    have ht3 : SqT K H t3 [.int n.a, .int n.b, .int n.c, .int n.d, .int n.e, .int n.f] := ht3
    walk_at "gs"
    refine r_recv hb rfl ?_
    walk_at "gs"
    refine r_new fun t4 ht4 => ?_
    generalize e4 : upd H t4 _ = H4
    obtain ⟨s4, g4⟩ := fresh ht4 e4
    walk_at "gs"
    refine ⟨_, _, n, (m.e, m.f), rfl, hu.same s4, hd_pair (SqT.of g4) hd_int hd_int, ⟨a2.mono (by decide), b2.mono (by decide), c2.mono (by decide), d2.mono (by decide), e2.mono (by decide), f2.mono (by decide)⟩, ⟨e1.mono (by decide), f1.mono (by decide)⟩, fun r H5 s5 hr5 => ?_⟩
    obtain ⟨a5, rfl, h5⟩ := hr5.pt_of
    walk_at "gs"
    refine r_I (a2.ok a1) ?_
    walk_at "gs"
    refine r_I (b2.ok c1) ?_
    walk_at "gs"
    refine r_I (a2.ok b1) ?_
    walk_at "gs"
    refine r_I (b2.ok d1) ?_
    walk_at "gs"
    refine r_I (c2.ok a1) ?_
    walk_at "gs"
    refine r_I (d2.ok c1) ?_
    walk_at "gs"
    refine r_I (c2.ok b1) ?_
    walk_at "gs"
    refine r_I (d2.ok d1) ?_
    walk_at "gs"
    exact mk_good (m := m.comp n) (M6.ok_comp om on) (bc.mono (by decide)) fun v H6 s6 h6 => q v H6 ((s4.trans s5).trans s6) h6
/-! #### check_map -/
/-- a grid map, or a value of another kind -/
inductive MapB (K : PySem.W.Frag) (H : Hp) : V → Bool → Prop where
  | yes {v : V} (m : M6) : GmAt K H v m → MapB K H v true
  | kind {v : V} {n : String} : Kd K H v n → MapB K H v false
theorem MapB.same {H H' : Hp} {v : V} {b : Bool} (h : MapB K H v b) (s : Same H H') : MapB K H' v b := by
  cases h with
  | yes m h => exact .yes m (h.same s)
  | kind h => exact .kind (h.same s)
def sp_check_map (K : PySem.W.Frag) : Sp := fun vs H Q E => ∃ (v : V) (b : Bool), vs = [v] ∧ MapB K H v b ∧ (b = true → Q .non H) ∧ (b = false → E (.ref (He.ga K "InvalidMap")) none H)
theorem ok_check_map (T : Tx K mg) : FnOk P w K mg base (L2.CX P w) 2 (He.ga K "check_map") (fdOf K (He.ga K "check_map")) ["value"] (sp_check_map K) := by
  refine T.d_check_map.ok sc_check_map (fun vs H Q E h => ?_) (fun cdv A outer s H vs Q E hr h => ?_)
  · obtain ⟨v, b, rfl, _⟩ := h
    rfl
  · obtain ⟨v, b, rfl, hb, q1, q2⟩ := h
    refine ⟨_, (pss_one (ps_if (pt_not (pt_val (pe_callB (kIsi (K := K)) (by rfl) T.n_isinstance (by decide +kernel) (pa_cons (pv 0) (pa_cons (pe_glob (v := .ref (He.ga K "GridMap")) rfl T.g_GridMap rfl) pa_nil))))) (pss_one (ps_raise rfl (takes_of rfl rfl rfl rfl) (pmk_own PySem.F.excBase_ValueError T.x_InvalidMap.x T.g_InvalidMap T.x_InvalidMap.k (raises_own T.x_InvalidMap.b T.x_InvalidMap.t) rfl))) pss_nil)), ?_⟩
    walk_at "gx"
    cases hb with
    | yes m hv =>
      obtain ⟨a, dx, t, rfl, ha, ht⟩ := hv.of
      refine r_isi (.own _) (T.y_GridMap.ty ha) T.i_GridMap ?_
      walk_at "gx"
      exact q1 rfl
    | kind hu =>
      refine r_isi (.own _) hu.ty (T.j_GridMap _ hu.mem) ?_
      walk_at "gx"
      exact q2 rfl
/-! #### GridMap.then -/
/-- us are grid maps with the numbers ns -/
def GmAll (K : PySem.W.Frag) (H : Hp) (us : List V) (ns : List M6) : Prop := us.length = ns.length ∧ ∀ (i : Nat) (u : V) (n : M6), us[i]? = some u → ns[i]? = some n → GmAt K H u n
theorem GmAll.same {H H' : Hp} {us : List V} {ns : List M6} (h : GmAll K H us ns) (s : Same H H') : GmAll K H' us ns := ⟨h.1, fun i u n e1 e2 => (h.2 i u n e1 e2).same s⟩
theorem gmAll_nil {H : Hp} : GmAll K H [] [] := ⟨rfl, fun i u n e => by simp at e⟩
theorem gmAll_cons {H : Hp} {u : V} {n : M6} {us : List V} {ns : List M6} (h : GmAt K H u n) (r : GmAll K H us ns) : GmAll K H (u :: us) (n :: ns) := by
  refine ⟨congrArg (· + 1) r.1, fun i x y e1 e2 => ?_⟩
  cases i with
  | zero => cases e1; cases e2; exact h
  | succ i => exact r.2 i x y (by simpa using e1) (by simpa using e2)
theorem GmAll.at {H : Hp} {us : List V} {ns : List M6} {i : Nat} {u : V} (h : GmAll K H us ns) (e : us[i]? = some u) : ∃ n, ns[i]? = some n ∧ GmAt K H u n := by
  have hi : i < us.length := (List.getElem?_eq_some_iff.mp e).1
  have hj : i < ns.length := by rw [← h.1]; exact hi
  exact ⟨ns[i], List.getElem?_eq_getElem hj, h.2 i u _ e (List.getElem?_eq_getElem hj)⟩
def thenM (m : M6) (ns : List M6) : M6 := ns.foldl M6.comp m
theorem thenM_take {m : M6} {ns : List M6} {i : Nat} {n : M6} (h : ns[i]? = some n) : thenM m (ns.take (i + 1)) = (thenM m (ns.take i)).comp n := by
  unfold thenM
  have e : ns.take (i + 1) = ns.take i ++ [n] := by rw [List.take_succ, h]; rfl
  rw [e, List.foldl_append]
  rfl
theorem thenM_ok {m : M6} {ns : List M6} (h : m.Ok) (k : ∀ n ∈ ns, n.Ok) : (thenM m ns).Ok := by
  unfold thenM
  induction ns generalizing m with
  | nil => exact h
  | cons n ns ih => exact ih (M6.ok_comp h (k n (by simp))) (fun x hx => k x (by simp [hx]))
def MapBs (K : PySem.W.Frag) (H : Hp) (us : List V) (bs : List Bool) : Prop := us.length = bs.length ∧ ∀ (i : Nat) (u : V) (b : Bool), us[i]? = some u → bs[i]? = some b → MapB K H u b
theorem MapBs.same {H H' : Hp} {us : List V} {bs : List Bool} (h : MapBs K H us bs) (s : Same H H') : MapBs K H' us bs := ⟨h.1, fun i u n e1 e2 => (h.2 i u n e1 e2).same s⟩
theorem MapBs.at {H : Hp} {us : List V} {bs : List Bool} {i : Nat} {u : V} (h : MapBs K H us bs) (e : us[i]? = some u) : ∃ n, bs[i]? = some n ∧ MapB K H u n := by
  have hi : i < us.length := (List.getElem?_eq_some_iff.mp e).1
  have hj : i < bs.length := by rw [← h.1]; exact hi
  exact ⟨bs[i], List.getElem?_eq_getElem hj, h.2 i u _ e (List.getElem?_eq_getElem hj)⟩
def sp_GridMap_then (K : PySem.W.Frag) : Sp := fun vs H Q E => ∃ (v : V) (us : List V) (m : M6), vs = v :: us ∧ us.length ≤ 100 ∧ GmAt K H v m ∧ ((∃ bs, MapBs K H us bs ∧ bs.all id = false ∧ ∀ H', Same H H' → E (.ref (He.ga K "InvalidMap")) none H') ∨
  (∃ ns : List M6, GmAll K H us ns ∧ m.Ok ∧ (∀ n ∈ ns, n.Ok ∧ MBd 40000 n) ∧ (∀ i, i < ns.length → MBd 40000 (thenM m (ns.take i))) ∧ ∀ r H', Same H H' → GmAt K H' r (thenM m ns) → Q r H'))
def sq_GridMap_then (K : PySem.W.Frag) : Sp := fun vs H Q E => ∃ (v : V) (p : Addr) (us : List V) (m : M6), vs = [v, .ref p] ∧ SqT K H p us ∧ GmAt K H v m ∧ ((∃ bs, MapBs K H us bs ∧ bs.all id = false ∧ E (.ref (He.ga K "InvalidMap")) none H) ∨
  (∃ ns : List M6, GmAll K H us ns ∧ m.Ok ∧ (∀ n ∈ ns, n.Ok ∧ MBd 40000 n) ∧ (∀ i, i < ns.length → MBd 40000 (thenM m (ns.take i))) ∧ ∀ r H', Same H H' → GmAt K H' r (thenM m ns) → Q r H'))
theorem all_take {bs : List Bool} {i : Nat} {b : Bool} (h : bs[i]? = some b) (hb : b = true) (ha : (bs.take i).all id = true) : (bs.take (i + 1)).all id = true := by
  have e : bs.take (i + 1) = bs.take i ++ [b] := by rw [List.take_succ, h]; rfl
  rw [e, List.all_append, ha, hb] <;> rfl
theorem ok_GridMap_then (T : Tx K mg) : FnR P w K mg base (L2.CX P w) 6 (He.ma K (He.ga K "GridMap") "then") (sp_GridMap_then K) := by
  obtain ⟨oc, od, dV, kV, doc, pm, an, cdv, ct, osl, efd, lk, hcd, hD, hK⟩ := T.d_GridMap_then.ex
  have hd0 : dV = .none := by
    rcases hD with ⟨_, e⟩ | ⟨e, _⟩
    · exact e
    · exact absurd rfl e
  subst hd0
  have F := StX.fn_star (CX := L2.CX P w) (P := P) (w := w) (mg := mg) (base := base) (ps := ["self"]) (pv := "others") (k := 6 - 1) (sp := sq_GridMap_then K) (efd ▸ lk) hcd sc_GridMap_then StX.cxUp (fun us rest hl => by
      match us, hl with
      | [a], _ => cases rest <;> rfl) (fun A outer s H vs Q E hr h => ?_)
  · intro A outer s H us vs Q E hr e0 r h
    refine F A outer s H us vs Q E hr e0 r ?_
    obtain ⟨v, us, m, rfl, h2, h3, h4⟩ := h
    refine ⟨[v], us, rfl, rfl, Nat.le_trans h2 (by decide), fun p hp => ⟨v, p, us, m, rfl, SqT.of upd_same, h3.same (same_new (Same.refl H) hp), ?_⟩⟩
    rcases h4 with ⟨bs, hb, ha, q⟩ | ⟨ns, hn, ho, hs, hm, q⟩
    · exact .inl ⟨bs, hb.same (same_new (Same.refl H) hp), ha, q _ (same_new (Same.refl H) hp)⟩
    · exact .inr ⟨ns, hn.same (same_new (Same.refl H) hp), ho, hs, hm, fun r H' s => q r H' ((same_new (Same.refl H) hp).trans s)⟩
  · obtain ⟨v, p, us, m, rfl, hp, hv, h⟩ := h
    refine ⟨_, (pss_cons (ps_for (passes_of rfl) rfl (kpiT (K := K) (pv 1)) (pg_name (i := 2) sc_GridMap_then.nd rfl (Or.inl rfl))
      (pss_one (ps_expr (pe_call (ok_check_map T) (hr.mono (by decide)) rfl T.g_check_map T.d_check_map.kp (bn_check_map T) .nil (passes_call (takes_of rfl rfl rfl rfl) (fun _ _ _ _ h => h)) (pa_cons (pv 2) pa_nil)))))
      (pss_cons (ps_set (i := 3) sc_GridMap_then.nd rfl (Or.inl rfl) (pv 0))
      (pss_cons (ps_for (passes_of rfl) rfl (kpiT (K := K) (pv 1)) (pg_name (i := 2) sc_GridMap_then.nd rfl (Or.inl rfl))
      (pss_one (ps_set (i := 3) sc_GridMap_then.nd rfl (Or.inl rfl) (pe_methA (pv 3) T.y_GridMap.cl T.m_GridMap_followed_by (FnOk.raw (ok_GridMap_followed_by T) (bn_GridMap_followed_by T) .nil) (hr.mono (by decide)) (passAll pass0) (pa_cons (pv 2) pa_nil)))))
      (pss_one (ps_ret (pv 3)))))), ?_⟩
    walk_at "g"
    rcases h with ⟨bs, hb, ha, q⟩ | ⟨ns, hn, ho, hs, hm, q⟩
    · refine loopT (xs := us) (fun i σ' H' => H = H' ∧ (bs.take i).all id = true ∧ ∃ o o2, σ' = [some v, some (.ref p), o, o2]) ⟨rfl, rfl, _, _, rfl⟩ (fun i σ' H' _ q => by obtain ⟨rfl, _⟩ := q; exact hp) ?_ ?_
      · rintro i x σ' H' hi ⟨rfl, ht, o, o2, rfl⟩
        walk_at "g"
        obtain ⟨b, eb, hx⟩ := hb.at hi
        refine ⟨x, b, rfl, hx, fun z => ?_, fun z => q⟩
        exact ⟨rfl, all_take eb z ht, _, _, rfl⟩
      · rintro σ' H' ⟨rfl, ht, _⟩
        rw [hb.1, List.take_length, ha] at ht
        cases ht
    · refine loopT (xs := us) (fun i σ' H' => H = H' ∧ ∃ o, σ' = [some v, some (.ref p), o, none]) ⟨rfl, _, rfl⟩ (fun i σ' H' _ q => by obtain ⟨rfl, _⟩ := q; exact hp) ?_ ?_
      · rintro i x σ' H' hi ⟨rfl, o, rfl⟩
        walk_at "g"
        obtain ⟨n, en, hx⟩ := hn.at hi
        exact ⟨x, true, rfl, .yes n hx, fun _ => ⟨rfl, _, rfl⟩, fun z => nomatch z⟩
      · rintro σ' H' ⟨rfl, o, rfl⟩
        walk_at "g"
        refine loopT (xs := us) (fun i σ' H' => Same H H' ∧ ∃ o f, σ' = [some v, some (.ref p), o, some f] ∧ GmAt K H' f (thenM m (ns.take i))) ⟨Same.refl H, _, _, rfl, hv⟩ (fun i σ' H' _ q => sqT_same q.1 hp) ?_ ?_
        · rintro i x σ' H1 hi ⟨S1, o, f, rfl, hf⟩
          obtain ⟨n, en, hx⟩ := hn.at hi
          have hil : i < ns.length := (List.getElem?_eq_some_iff.mp en).1
          obtain ⟨on, bn⟩ := hs n (List.mem_of_getElem? en)
          have of : (thenM m (ns.take i)).Ok := thenM_ok ho fun y hy => (hs y (List.mem_of_mem_take hy)).1
          obtain ⟨fa, dx, t, rfl, hfa, ht⟩ := hf.of
          walk_at "g"
          refine r_recv hfa rfl ?_
          walk_at "g"
          refine ⟨_, _, _, n, rfl, hf, hx.same S1, of, on, hm i hil, bn, fun r H2 s2 hr2 => ?_⟩
          walk_at "g"
          exact ⟨S1.trans s2, _, _, rfl, by rw [thenM_take en]; exact hr2⟩
        · rintro σ' H1 ⟨S1, o, f, rfl, hf⟩
          walk_at "g"
          rw [hn.1, List.take_length] at hf
          exact q _ _ S1 hf
/-! #### GridMap.inverse -/
def sp_GridMap_inverse (K : PySem.W.Frag) : Sp := fun vs H Q _ => ∃ (v : V) (m : M6), vs = [v] ∧ GmAt K H v m ∧ m.Ok ∧ MBd 30000 m ∧ ∀ r H', Same H H' → GmAt K H' r m.inv → Q r H'
theorem ok_GridMap_inverse (T : Tx K mg) : FnOk P w K mg base CX0 5 (He.ma K (He.ga K "GridMap") "inverse") (fdOf K (He.ma K (He.ga K "GridMap") "inverse")) ["self"] (sp_GridMap_inverse K) := by
  refine T.d_GridMap_inverse.ok sc_GridMap_inverse (fun vs H Q E h => ?_) (fun cdv A outer s H vs Q E hr h => ?_)
  · obtain ⟨v, m, rfl, _⟩ := h
    rfl
  · obtain ⟨v, m, rfl, hv, om, bm, q⟩ := h
    obtain ⟨a, dx, t, rfl, ha, ht⟩ := hv.of
    have bi := bm.inv om
    have b2 := bm.mono (k := 100000) (by decide)
    have hd := Bd.det (n := 0) om
    have hn := hd.neg
    obtain ⟨a1, b1, c1, d1, e1, f1⟩ := bm
    refine ⟨_, PSs.nox (pss_cons (ps_asg (kFld (K := K) (pe_fld (pv 0) rfl)) (kpgTup (K := K) rfl (pgs_cons (pg_name (i := 1) sc_GridMap_inverse.nd rfl (Or.inl rfl)) (pgs_cons (pg_name (i := 2) sc_GridMap_inverse.nd rfl (Or.inl rfl)) (pgs_cons (pg_name (i := 3) sc_GridMap_inverse.nd rfl (Or.inl rfl)) (pgs_cons (pg_name (i := 4) sc_GridMap_inverse.nd rfl (Or.inl rfl)) (pgs_cons (pg_name (i := 5) sc_GridMap_inverse.nd rfl (Or.inl rfl)) (pgs_cons (pg_name (i := 6) sc_GridMap_inverse.nd rfl (Or.inl rfl)) pgs_nil))))))))
      (pss_cons (ps_set (i := 7) sc_GridMap_inverse.nd rfl (Or.inl rfl) (pe_prop (pv 0) T.y_GridMap.cl T.m_GridMap_determinant (ok_GridMap_determinant T) (hr.mono (by decide)) (bn_GridMap_determinant T) .nil pass0 rfl))
      (pss_cons (ps_asg (pe_tup (pa_cons (pe_op op_mulA (pv 7) (pv 4)) (pa_cons (pe_op op_mulA (pe_un un_neg (pv 7)) (pv 2)) (pa_cons (pe_op op_mulA (pe_un un_neg (pv 7)) (pv 3)) (pa_cons (pe_op op_mulA (pv 7) (pv 1)) pa_nil))))) (kpgTup (K := K) rfl (pgs_cons (pg_name (i := 8) sc_GridMap_inverse.nd rfl (Or.inl rfl)) (pgs_cons (pg_name (i := 9) sc_GridMap_inverse.nd rfl (Or.inl rfl)) (pgs_cons (pg_name (i := 10) sc_GridMap_inverse.nd rfl (Or.inl rfl)) (pgs_cons (pg_name (i := 11) sc_GridMap_inverse.nd rfl (Or.inl rfl)) pgs_nil))))))
      (pss_one (ps_ret (pe_makeA T.k_GridMap (FnOk.raw (ok_GridMap_init T) (bd0_GridMap_init T).choose_spec.2 (bd0_GridMap_init T).choose_spec.1) (hr.mono (by decide)) rfl T.g_GridMap (passAll passL) (pa_cons (pv 8) (pa_cons (pv 9) (pa_cons (pv 10) (pa_cons (pv 11) (pa_cons (pe_un un_neg (pe_op op_add (pe_op op_mulA (pv 8) (pv 5)) (pe_op op_mulA (pv 9) (pv 6)))) (pa_cons (pe_un un_neg (pe_op op_add (pe_op op_mulA (pv 10) (pv 5)) (pe_op op_mulA (pv 11) (pv 6)))) pa_nil)))))))))))), ?_⟩
    walk_at "s0"
    walk_at "gs"
    refine r_fldAt ha T.y_GridMap.cl T.a_GridMap_six rfl ?_
    walk_at "gs"
    refine ⟨a, dx, _, rfl, ha, ?_⟩
    refine ⟨_, m, rfl, hv, b2, ?_⟩
    walk_at "gs"
    refine r_I (hd.ok d1) ?_
    walk_at "gs"
    refine r_I (hn.ok b1) ?_
    walk_at "gs"
    refine r_I (hn.ok c1) ?_
    walk_at "gs"
    refine r_I (hd.ok a1) ?_
    walk_at "gs"
    refine r_new fun t4 ht4 => ?_
    generalize e4 : upd H t4 _ = H4
    obtain ⟨s4, g4⟩ := fresh ht4 e4
    walk_at "gs"
    refine r_I ((hd.mul d1).ok e1) ?_
    walk_at "gs"
    refine r_I ((hn.mul b1).ok f1) ?_
    walk_at "gs"
    refine r_I ((hn.mul c1).ok e1) ?_
    walk_at "gs"
    refine r_I ((hd.mul a1).ok f1) ?_
    walk_at "gs"
    exact mk_good (m := m.inv) (M6.ok_inv om) (bi.mono (by decide)) fun v H6 s6 h6 => q v H6 (s4.trans s6) h6
/-! #### GridMap.power -/
theorem r_ifQ {t : TT} {ta tb : TE} {σ : L2.St} {H : Hp} {Q : VK} {R : V → Hp → Prop} (key : ∀ v H', R v H' → Q v H') (h : ∀ Q' : VK, (∀ v H', R v H' → Q' v H') → tIf t ta tb σ H Q') : tIf t ta tb σ H Q := h Q key
def baseM (m : M6) (e : Int) : M6 := if 0 ≤ e then m else m.inv
def powM (m : M6) (e : Int) : M6 := (baseM m e).pow e.natAbs
theorem baseM_ok {m : M6} {e : Int} (h : m.Ok) : (baseM m e).Ok := by
  unfold baseM
  split
  · exact h
  · exact M6.ok_inv h
def sp_GridMap_power (K : PySem.W.Frag) : Sp := fun vs H Q E => ∃ (v u : V) (m : M6), vs = [v, u] ∧ GmAt K H v m ∧ m.Ok ∧ MBd 30000 m ∧ ((∃ n, Kd K H u n ∧ isI u = false ∧ E (.ref (He.ga K "InvalidInteger")) none H) ∨
  (∃ e : Int, u = .int e ∧ (∀ j, j ≤ e.natAbs → MBd 40000 ((baseM m e).pow j)) ∧ ∀ r H', Same H H' → GmAt K H' r (powM m e) → Q r H'))
theorem ok_GridMap_power (T : Tx K mg) : FnOk P w K mg base (L2.CX P w) 6 (He.ma K (He.ga K "GridMap") "power") (fdOf K (He.ma K (He.ga K "GridMap") "power")) ["self", "exponent"] (sp_GridMap_power K) := by
  refine T.d_GridMap_power.ok sc_GridMap_power (fun vs H Q E h => ?_) (fun cdv A outer s H vs Q E hr h => ?_)
  · obtain ⟨v, u, m, rfl, _⟩ := h
    rfl
  · obtain ⟨v, u, m, rfl, hv, om, bm, h⟩ := h
    refine ⟨_, (pss_cons (ps_expr (pe_call (ok_check_integer T) (hr.mono (by decide)) rfl T.g_check_integer T.d_check_integer.kp (bd1_check_integer T).choose_spec.2 (bd1_check_integer T).choose_spec.1 (passes_call (takes_of rfl rfl rfl rfl) (fun _ _ _ _ h => h)) (pa_cons (pv 1) pa_nil)))
      (pss_cons (ps_set (i := 2) sc_GridMap_power.nd rfl (Or.inl rfl) (pe_ifExp (pt_cmpR op_ge (pv 1) pe_int (nomark _)) (pv 0) (pe_methA0 (pv 0) T.y_GridMap.cl T.m_GridMap_inverse (FnOk.raw (ok_GridMap_inverse T) (bn_GridMap_inverse T) .nil) (hr.mono (by decide)) (passAll pass0))))
      (pss_cons (ps_set (i := 3) sc_GridMap_power.nd rfl (Or.inl rfl) (pe_callB cAbs (by rfl) T.n_abs (by decide +kernel) (pa_cons (pv 1) pa_nil)))
      (pss_cons (ps_set (i := 4) sc_GridMap_power.nd rfl (Or.inl rfl) (pe_cmeth0 (C := He.ga K "GridMap") (pe_glob (v := .ref (He.ga K "GridMap")) rfl T.g_GridMap rfl) T.cr_GridMap T.m_GridMap_identity (FnOk.raw (ok_GridMap_identity T) (bn_GridMap_identity T) .nil) (hr.mono (by decide)) pass0))
      (pss_cons (ps_while (passes_of rfl) (kTru (K := K) (pv 3))
      (Evl.pss_cut (ps_if (pt_cmpR op_eq (pe_op op_mod (pv 3) pe_int) pe_int (nomark _)) (pss_one (ps_set (i := 4) sc_GridMap_power.nd rfl (Or.inl rfl) (pe_methA (pv 4) T.y_GridMap.cl T.m_GridMap_followed_by (FnOk.raw (ok_GridMap_followed_by T) (bn_GridMap_followed_by T) .nil) (hr.mono (by decide)) (passAll pass0) (pa_cons (pv 2) pa_nil)))) pss_nil)
      (pss_cons (ps_set (i := 2) sc_GridMap_power.nd rfl (Or.inl rfl) (pe_methA (pv 2) T.y_GridMap.cl T.m_GridMap_followed_by (FnOk.raw (ok_GridMap_followed_by T) (bn_GridMap_followed_by T) .nil) (hr.mono (by decide)) (passAll pass0) (pa_cons (pv 2) pa_nil)))
      (pss_one (ps_aug (i := 3) sc_GridMap_power.nd rfl (.inl rfl) pe_int ip_fdiv)))))
      (pss_one (ps_ret (pv 4)))))))), ?_⟩
    walk_at "gx"
    rcases h with ⟨n, kd, hi, q⟩ | ⟨e, rfl, bd, q⟩
    · refine ⟨u, .non, n, rfl, kd, .inl rfl, fun g => ?_, fun g => q⟩
      cases u with
      | int j => cases hi
      | _ => cases g
    · refine ⟨.int e, .non, _, rfl, .int e, .inl rfl, fun g => ?_, fun g => nomatch g⟩
      with_reducible refine' r_seq ?_
      with_reducible refine' r_asg ?_
      with_reducible refine r_ifQ (R := fun f H1 => Same H H1 ∧ GmAt K H1 f (baseM m e)) ?_ ?_
      · rintro f H1 ⟨S1, hf⟩
        walk_at "gx"
        refine ⟨rfl, rfl, fun o H2 s2 ho => ?_⟩
        have S2 := S1.trans s2
        have hf := hf.same s2
        walk_at "gx"
        refine r_while (fun k σ' H' => ∃ (f o : V) (j i l : Nat), σ' = [some v, some (.int e), some f, some (.int (l : Int)), some o] ∧ Same H H' ∧ GmAt K H' f ((baseM m e).pow j) ∧ GmAt K H' o ((baseM m e).pow i) ∧ i + j * l = e.natAbs ∧ (0 < l → i < j) ∧ 0 < j ∧ k = l) e.natAbs ⟨f, o, 1, 0, e.natAbs, rfl, S2, by rw [M6.pow_one]; exact hf, ho, by omega, fun _ => by omega, by omega, rfl⟩ ?_
        clear hf ho S1 S2 s2
        rintro l σ' H3 ⟨f, o, j, i, k, rfl, S3, hf, ho, hs, hij, hj, rfl⟩
        walk_at "gx"
        refine r_dec (fun h => wnext ?_) (fun h => ?_)
        · have hl : 0 < l := by omega
          have hij := hij hl
          have hjl : j * 1 ≤ j * l := Nat.mul_le_mul_left _ hl
          have bj := bd j (by omega)
          have bi := bd i (by omega)
          have ob := baseM_ok (e := e) om
          refine r_cut (fun σ' H' => Same H H' ∧ ∃ o2, σ' = [some v, some (.int e), some f, some (.int (l : Int)), some o2] ∧ GmAt K H' f ((baseM m e).pow j) ∧ GmAt K H' o2 ((baseM m e).pow (i + j * (l % 2)))) ?_ ?_
          · walk_at "gx"
            refine r_I (by show (0 : Int) < 2; decide) ?_
            walk_at "gx"
            refine r_dec (fun h1 => ?_) (fun h1 => ?_)
            · have h2 : l % 2 = 1 := by omega
              have ho0 := ho
              obtain ⟨a, dx, t, rfl, ha, ht⟩ := ho0.of
              walk_at "gx"
              refine r_recv ha rfl ?_
              walk_at "gx"
              refine ⟨_, _, _, _, rfl, ho, hf, M6.ok_pow ob _, M6.ok_pow ob _, bi, bj, fun r H4 s4 hr4 => ?_⟩
              walk_at "gx"
              refine ⟨S3.trans s4, _, rfl, hf.same s4, ?_⟩
              rw [h2, Nat.mul_one, M6.pow_add]; exact hr4
            · have h2 : l % 2 = 0 := by omega
              walk_at "gx"
              refine ⟨S3, _, rfl, hf, ?_⟩
              rw [h2]; exact ho
          · clear hf ho
            rintro σ' H4 ⟨S4, o2, rfl, hf, ho⟩
            have hf0 := hf
            obtain ⟨a, dx, t, rfl, ha, ht⟩ := hf0.of
            walk_at "gx"
            refine r_recv ha rfl ?_
            walk_at "gx"
            refine ⟨_, _, _, _, rfl, hf, hf, M6.ok_pow ob _, M6.ok_pow ob _, bj, bj, fun r H5 s5 hr5 => ?_⟩
            rw [← M6.pow_add] at hr5
            walk_at "gx"
            refine r_I (C := CDivW) ⟨by decide, by decide⟩ ?_
            walk_at "gx"
            have em : j * l = j * (l % 2) + (j + j) * (l / 2) := by
              have h3 := Nat.mod_add_div l 2
              have h4 : j * l = j * (l % 2 + 2 * (l / 2)) := by rw [h3]
              rw [h4, Nat.mul_add, ← Nat.mul_assoc, Nat.mul_comm j 2, Nat.two_mul]
            have hm : l % 2 < 2 := Nat.mod_lt _ (by decide)
            have hjm : j * (l % 2) ≤ j * 1 := Nat.mul_le_mul_left _ (by omega)
            exact ⟨l / 2, by omega, r, o2, j + j, i + j * (l % 2), l / 2, rfl, S4.trans s5, hr5, ho.same s5, by omega, fun _ => by omega, by omega, rfl⟩
        · have h0 : l = 0 := by omega
          subst h0
          walk_at "gx"
          refine q _ _ S3 ?_
          have hi : i = e.natAbs := by omega
          rw [hi] at ho
          exact ho
      · intro Q' key
        walk_at "gx"
        refine r_dec (fun h => ?_) (fun h => ?_)
        · walk_at "gx"
          exact key _ _ ⟨Same.refl H, by unfold baseM; rw [if_pos h]; exact hv⟩
        · obtain ⟨a, dx, t, rfl, ha, ht⟩ := hv.of
          walk_at "gx"
          refine r_recv ha rfl ?_
          refine ⟨_, m, rfl, hv, om, bm, fun r H' s' hr' => key _ _ ⟨s', ?_⟩⟩
          unfold baseM; rw [if_neg h]; exact hr'

/-! #### _law_draws -/
def sp_law_draws (K : PySem.W.Frag) : Sp := fun vs H Q _ => ∃ (a : Addr) (ns : List Int) (k : Int), vs = [.ref a, .int k] ∧ SqL K H a (ns.map V.int) ∧ ns.length ≤ 63 ∧ 0 ≤ k ∧ k < 2 ^ 40 ∧ ∀ p H', H p = none → Same H H' → DrAt H' p → Q (.ref p) H'
theorem ok_law_draws (T : Tx K mg) : FnOk P w K mg base CX0 1 (He.ga K "_law_draws") (fdOf K (He.ga K "_law_draws")) ["_law_script", "_law_k"] (sp_law_draws K) := by
  refine T.d_law_draws.ok sc_law_draws (fun vs H Q E h => ?_) (fun cdv A outer s H vs Q E hr h => ?_)
  · obtain ⟨a, ns, k, rfl, _⟩ := h
    rfl
  · obtain ⟨a, ns, k, rfl, hS, hlen, hk0, hk1, q⟩ := h
    refine ⟨_, PSs.nox (pss_cons (ps_set (i := 2) sc_law_draws.nd rfl (Or.inl rfl) pe_int)
      (Evl.pss_cut (ps_if (pt_cmpR (kNeD (K := K) hr.units) (pv 0) (pe_lst pa_nil) (nomark _)) (pss_one (ps_set (i := 2) sc_law_draws.nd rfl (Or.inl rfl) (pe_ix (kIxL (K := K)) (pv 0) (pe_op op_mod (pv 1) (pe_callB (kLen (K := K)) (by rfl) T.n_len (by decide +kernel) (pa_cons (pv 0) pa_nil))) (fun _ _ => rfl)))) pss_nil)
      (Evl.pss_cut (ps_if (pt_cmpR op_ge (pv 1) (pe_callB (kLen (K := K)) (by rfl) T.n_len (by decide +kernel) (pa_cons (pv 0) pa_nil)) (nomark _)) (pss_one (ps_set (i := 2) sc_law_draws.nd rfl (Or.inl rfl) (pe_op op_mod (pv 2) pe_int))) pss_nil)
      (pss_cons (ps_set (i := 3) sc_law_draws.nd rfl (Or.inl rfl) (pe_op op_mod (pe_op op_mulA (pe_op op_add (pe_op op_add (pe_op op_mod (pv 2) pe_int) (pe_op op_mulA pe_int (pv 1))) pe_int) pe_int) pe_int))
      (pss_one (ps_ret (pe_lst (pa_cons (pe_op op_mulA (pv 2) (pe_callTy cInt1 (by rfl) T.n_int (by decide +kernel) (pa_cons (pe_cmpR op_ge (pv 2) (pe_op op_pow pe_int pe_int) (nomark _)) pa_nil))) (pa_cons (pv 3) pa_nil))))))))), ?_⟩
    walk_at "gx"
    refine r_cut (fun σ' H' => Same H H' ∧ ∃ c, σ' = [some (.ref a), some (.int k), some (.int c), none]) ?_ ?_
    · walk_at "gx"
      refine r_new fun p0 hp0 => ?_
      have s0 : Same H (upd H p0 (.lst [])) := same_new (Same.refl H) hp0
      have hS0 := s0.seq hS
      refine r_neH (α := List Int) (hd_list hS0 (hds_ints ns)) (hd_list (SqL.of upd_same) hds_nil) ?_
      walk_at "gx"
      refine r_ndec (fun h => ?_) (fun h => ?_)
      · walk_at "gx"
        refine r_lenL hS0 ?_
        have hpos : 0 < ns.length := List.length_pos_iff.mpr h
        rw [List.length_map]
        walk_at "gx"
        refine r_I (by show (0 : Int) < (ns.length : Int); omega) ?_
        have h1 := Int.emod_nonneg k (b := (ns.length : Int)) (by omega)
        have h2 := Int.emod_lt_of_pos k (b := (ns.length : Int)) (by omega)
        obtain ⟨j, hj⟩ : ∃ j : Nat, k % (ns.length : Int) = (j : Int) := ⟨(k % (ns.length : Int)).toNat, by omega⟩
        rw [hj] at h1 h2 ⊢
        have hj' : j < ns.length := by omega
        refine r_ixL hS0 (at_of (j := j) rfl (by rw [List.getElem?_map, List.getElem?_eq_getElem hj']; rfl)) ?_
        walk_at "gx"
        exact ⟨s0, _, rfl⟩
      · walk_at "gx"
        exact ⟨s0, _, rfl⟩
    · rintro σ' H1 ⟨s1, c, rfl⟩
      refine r_cut (fun σ' H' => H1 = H' ∧ ∃ c, σ' = [some (.ref a), some (.int k), some (.int c), none]) ?_ ?_
      · walk_at "gx"
        refine r_lenL (s1.seq hS) ?_
        walk_at "gx"
        refine r_dec (fun h => ?_) (fun h => ?_)
        · walk_at "gx"
          refine r_I (by decide) ?_
          walk_at "gx"
          exact ⟨rfl, _, rfl⟩
        · walk_at "gx"
          exact ⟨rfl, _, rfl⟩
      · rintro σ' H' ⟨rfl, c, rfl⟩
        walk_at "gx"
        refine r_I (by decide) ?_
        walk_at "gx"
        refine r_I (mul_okL (by decide) (by decide)) ?_
        walk_at "gx"
        refine r_I (mul_okR (by decide) (by decide)) ?_
        walk_at "gx"
        refine r_I (by decide) ?_
        walk_at "gx"
        refine r_I ⟨by decide, by decide, by decide⟩ ?_
        walk_at "gx"
        refine r_I (mul_okR (by split <;> decide) (by split <;> decide)) ?_
        walk_at "gx"
        refine r_new fun p hp => ?_
        refine q p _ (s1.free hp) (same_new s1 hp) ⟨_, _, upd_same, ?_, Int.emod_nonneg _ (by decide), Int.emod_lt_of_pos _ (by decide)⟩
        split
        · rename_i hc
          have hc := of_decide_eq_true hc
          rw [Int.mul_one]
          exact Int.le_trans (by decide) hc
        · rw [Int.mul_zero]; decide
/-! #### _law_draw -/
def sp_law_draw : Sp := fun vs H Q _ => ∃ (l : Addr) (n : Int), vs = [.ref l, .int n] ∧ DrAt H l ∧ 0 < n ∧ n < 2 ^ 200 ∧ ∀ d H', 0 ≤ d → d < n → Kp l H H' → DrAt H' l → Q (.int d) H'
theorem ok_law_draw (T : Tx K mg) : FnOk P w K mg base CX0 1 (He.ga K "_law_draw") (fdOf K (He.ga K "_law_draw")) ["_law_draws_here", "_law_upto"] (sp_law_draw) := by
  refine T.d_law_draw.ok sc_law_draw (fun vs H Q E h => ?_) (fun cdv A outer s H vs Q E hr h => ?_)
  · obtain ⟨l, n, rfl, _⟩ := h
    rfl
  · obtain ⟨l, n, rfl, ⟨a, b, hl, ha, hb, hb2⟩, hn, hn2, k⟩ := h
    refine ⟨_, PSs.nox (pss_cons (ps_if (pt_cmpR op_gt (pe_ix (kIxL (K := K)) (pv 0) pe_int (fun _ _ => rfl)) pe_int (nomark _)) (pss_cons (ps_set (i := 2) sc_law_draw.nd rfl (Or.inl rfl) (pe_op op_mod (pe_ix (kIxL (K := K)) (pv 0) pe_int (fun _ _ => rfl)) (pv 1)))
      (pss_cons (ps_asg (pe_op op_fdivW (pe_ix (kIxL (K := K)) (pv 0) pe_int (fun _ _ => rfl)) (pv 1)) (pg_sub (pv 0) pe_int set_list))
      (pss_one (ps_ret (pv 2))))) pss_nil)
      (pss_cons (ps_asg (pe_op op_mod (pe_op op_add (pe_op op_mulA (pe_ix (kIxL (K := K)) (pv 0) pe_int (fun _ _ => rfl)) pe_int) pe_int) pe_int) (pg_sub (pv 0) pe_int set_list))
      (pss_one (ps_ret (pe_op op_mod (pe_op op_fdivW (pe_op op_mod (pe_op op_mulA (pe_ix (kIxL (K := K)) (pv 0) pe_int (fun _ _ => rfl)) (pe_ix (kIxL (K := K)) (pv 0) pe_int (fun _ _ => rfl))) pe_int) pe_int) (pv 1)))))), ?_⟩
    walk_at "gx"
    refine r_dec (fun ha0 => ?_) (fun ha0 => ?_)
    · walk_at "gx"
      refine r_I hn ?_
      walk_at "gx"
      refine r_I (wide_div hn (b := 200) (by omega) (by decide) (by decide)) ?_
      walk_at "gx"
      refine r_setL hl rfl ?_
      walk_at "gx"
      refine k _ _ (Int.emod_nonneg _ (by omega)) (Int.emod_lt_of_pos _ hn) (Kp.refl l H).put ⟨_, _, upd_same, Int.ediv_nonneg ha (by omega), hb, hb2⟩
    · walk_at "gx"
      refine r_I (mul_okL (by omega) (by omega)) ?_
      walk_at "gx"
      refine r_I (by decide) ?_
      walk_at "gx"
      refine r_setL hl rfl ?_
      have h1 := Int.emod_nonneg (b * 48271 + 11) (b := 2147483647) (by decide)
      have h2 := Int.emod_lt_of_pos (b * 48271 + 11) (b := 2147483647) (by decide)
      generalize (b * 48271 + 11) % 2147483647 = c at h1 h2 ⊢
      have hl2 : upd H l (.lst [.int a, .int c]) l = some (.lst [.int a, .int c]) := upd_same
      walk_at "gx"
      refine r_I (mul_okL (by omega) (by omega)) ?_
      walk_at "gx"
      refine r_I (by decide) ?_
      walk_at "gx"
      refine r_I (wide_div (by decide) (b := 200) (by decide) (by decide) (by decide)) ?_
      walk_at "gx"
      refine r_I hn ?_
      refine k _ _ (Int.emod_nonneg _ (by omega)) (Int.emod_lt_of_pos _ hn) (Kp.refl l H).put ⟨_, _, hl2, ha, h1, h2⟩
/-! #### _law_product -/
/-- four integers, held by a tuple -/
structure Q4 where
  a : Int
  b : Int
  c : Int
  d : Int
def Q4.vals (q : Q4) : List V := [.int q.a, .int q.b, .int q.c, .int q.d]
def Q4.det (q : Q4) : Int := q.a * q.d - q.b * q.c
def Q4.Ok (q : Q4) : Prop := q.det = 1 ∨ q.det = -1
def Q4.comp (m n : Q4) : Q4 := ⟨n.a * m.a + n.b * m.c, n.a * m.b + n.b * m.d, n.c * m.a + n.d * m.c, n.c * m.b + n.d * m.d⟩
def QBd (n : Nat) (q : Q4) : Prop := Bd n q.a ∧ Bd n q.b ∧ Bd n q.c ∧ Bd n q.d
theorem QBd.mono {n k : Nat} {q : Q4} (h : QBd n q) (l : n ≤ k) : QBd k q := ⟨h.1.mono l, h.2.1.mono l, h.2.2.1.mono l, h.2.2.2.mono l⟩
theorem QBd.comp {i j : Nat} {m n : Q4} (h : QBd i m) (k : QBd j n) : QBd (i + j + 1) (m.comp n) := by
  obtain ⟨a1, b1, c1, d1⟩ := h
  obtain ⟨a2, b2, c2, d2⟩ := k
  exact ⟨(bd_lin a2 a1 b2 c1).mono (by omega), (bd_lin a2 b1 b2 d1).mono (by omega), (bd_lin c2 a1 d2 c1).mono (by omega), (bd_lin c2 b1 d2 d1).mono (by omega)⟩
theorem Q4.det_comp (m n : Q4) : (m.comp n).det = m.det * n.det := by
  simp only [det, comp]; grind
theorem Q4.ok_comp {m n : Q4} (h : m.Ok) (k : n.Ok) : (m.comp n).Ok := by
  unfold Ok at *
  rw [det_comp]
  rcases h with h | h <;> rcases k with k | k <;> rw [h, k] <;> decide
def sp_law_product (K : PySem.W.Frag) : Sp := fun vs H Q _ => ∃ (x y : Addr) (m n : Q4), vs = [.ref x, .ref y] ∧ SqT K H x m.vals ∧ SqT K H y n.vals ∧ QBd 1000 m ∧ QBd 1000 n ∧ ∀ t H', Same H H' → SqT K H' t (m.comp n).vals → Q (.ref t) H'
theorem ok_law_product (T : Tx K mg) : FnOk P w K mg base CX0 1 (He.ga K "_law_product") (fdOf K (He.ga K "_law_product")) ["_law_first", "_law_second"] (sp_law_product K) := by
  refine T.d_law_product.ok sc_law_product (fun vs H Q E h => ?_) (fun cdv A outer s H vs Q E hr h => ?_)
  · obtain ⟨x, y, m, n, rfl, _⟩ := h
    rfl
  · obtain ⟨x, y, m, n, rfl, hx, hy, ⟨a1, b1, c1, d1⟩, ⟨a2, b2, c2, d2⟩, q⟩ := h
    have hx : SqT K H x [.int m.a, .int m.b, .int m.c, .int m.d] := hx
    have hy : SqT K H y [.int n.a, .int n.b, .int n.c, .int n.d] := hy
    refine ⟨_, PSs.nox (pss_cons (ps_asg (pv 0) (kpgTup (K := K) rfl (pgs_cons (pg_name (i := 2) sc_law_product.nd rfl (Or.inl rfl)) (pgs_cons (pg_name (i := 3) sc_law_product.nd rfl (Or.inl rfl)) (pgs_cons (pg_name (i := 4) sc_law_product.nd rfl (Or.inl rfl)) (pgs_cons (pg_name (i := 5) sc_law_product.nd rfl (Or.inl rfl)) pgs_nil))))))
      (pss_cons (ps_asg (pv 1) (kpgTup (K := K) rfl (pgs_cons (pg_name (i := 6) sc_law_product.nd rfl (Or.inl rfl)) (pgs_cons (pg_name (i := 7) sc_law_product.nd rfl (Or.inl rfl)) (pgs_cons (pg_name (i := 8) sc_law_product.nd rfl (Or.inl rfl)) (pgs_cons (pg_name (i := 9) sc_law_product.nd rfl (Or.inl rfl)) pgs_nil))))))
      (pss_one (ps_ret (pe_tup (pa_cons (pe_op op_add (pe_op op_mulA (pv 6) (pv 2)) (pe_op op_mulA (pv 7) (pv 4))) (pa_cons (pe_op op_add (pe_op op_mulA (pv 6) (pv 3)) (pe_op op_mulA (pv 7) (pv 5))) (pa_cons (pe_op op_add (pe_op op_mulA (pv 8) (pv 2)) (pe_op op_mulA (pv 9) (pv 4))) (pa_cons (pe_op op_add (pe_op op_mulA (pv 8) (pv 3)) (pe_op op_mulA (pv 9) (pv 5))) pa_nil))))))))), ?_⟩
    walk_at "s0"
    walk_at "gs"
    refine r_I (a2.ok a1) ?_
    walk_at "gs"
    refine r_I (b2.ok c1) ?_
    walk_at "gs"
    refine r_I (a2.ok b1) ?_
    walk_at "gs"
    refine r_I (b2.ok d1) ?_
    walk_at "gs"
    refine r_I (c2.ok a1) ?_
    walk_at "gs"
    refine r_I (d2.ok c1) ?_
    walk_at "gs"
    refine r_I (c2.ok b1) ?_
    walk_at "gs"
    refine r_I (d2.ok d1) ?_
    walk_at "gs"
    refine r_new fun t ht => ?_
    generalize e2 : upd H t _ = H2
    obtain ⟨s2, g2⟩ := fresh ht e2
    exact q _ _ s2 (SqT.of g2)
/-! #### _law_numbers -/
theorem sqT_dr {H H' : Hp} {l a : Addr} {xs : List V} (h : SqT K H a xs) (k : Kp l H H') (d : DrAt H l) : SqT K H' a xs := by
  obtain ⟨x, y, e, _⟩ := d
  exact sqT_kp k ⟨_, e⟩ h
def sp_law_numbers (K : PySem.W.Frag) : Sp := fun vs H Q _ => ∃ l : Addr, vs = [.ref l] ∧ DrAt H l ∧ ∀ (t : Addr) (m : M6) (H' : Hp), Kp l H H' → DrAt H' l → SqT K H' t m.vals → m.Ok → MBd 100 m → Q (.ref t) H'
theorem bd_lit' {n : Nat} {i k : Int} (h : -k ≤ i ∧ i ≤ k) (hk : k.toNat < 2 ^ n) : Bd n i := Nat.lt_of_le_of_lt (show i.natAbs ≤ k.toNat by omega) hk
def factorsQ (k : Int) : List Q4 := [⟨1, k, 0, 1⟩, ⟨1, 0, k, 1⟩, ⟨0, -1, 1, 0⟩, ⟨1, 0, 0, -1⟩, ⟨0, 1, 1, 0⟩]
theorem factorsQ_ok {k : Int} (hk : -30 ≤ k ∧ k ≤ 30) : ∀ q ∈ factorsQ k, q.Ok ∧ QBd 5 q := by
  have bk : Bd 5 k := bd_lit' (k := 30) hk (by decide)
  have b0 : Bd 5 0 := by show 0 < 2 ^ 5; decide
  have b1 : Bd 5 1 := by show 1 < 2 ^ 5; decide
  have b2 : Bd 5 (-1) := by show 1 < 2 ^ 5; decide
  intro q hq
  simp only [factorsQ, List.mem_cons, List.not_mem_nil, or_false] at hq
  rcases hq with rfl | rfl | rfl | rfl | rfl
  · exact ⟨.inl (by show 1 * 1 - k * 0 = 1; omega), b1, bk, b0, b1⟩
  · exact ⟨.inl (by show 1 * 1 - 0 * k = 1; omega), b1, b0, bk, b1⟩
  · exact ⟨.inl (by decide), b0, b2, b1, b0⟩
  · exact ⟨.inr (by decide), b1, b0, b0, b2⟩
  · exact ⟨.inr (by decide), b0, b1, b1, b0⟩
theorem ok_law_numbers (T : Tx K mg) : FnOk P w K mg base CX0 2 (He.ga K "_law_numbers") (fdOf K (He.ga K "_law_numbers")) ["_law_draws_here"] (sp_law_numbers K) := by
  refine T.d_law_numbers.ok sc_law_numbers (fun vs H Q E h => ?_) (fun cdv A outer s H vs Q E hr h => ?_)
  · obtain ⟨l, rfl, _⟩ := h
    rfl
  · obtain ⟨l, rfl, D0, q⟩ := h
    refine ⟨_, PSs.nox (pss_cons (ps_set (i := 1) sc_law_numbers.nd rfl (Or.inl rfl) (pe_tup (pa_cons pe_int (pa_cons pe_int (pa_cons pe_int (pa_cons pe_int pa_nil))))))
      (pss_cons (ps_for PassesOwn.never rfl (pi_range1 rfl T.n_range (pa_cons (pe_call (ok_law_draw T) (hr.mono (by decide)) rfl T.g_law_draw T.d_law_draw.kp (bn_law_draw T) .nil pass0 (pa_cons (pv 0) (pa_cons pe_int pa_nil))) pa_nil)) (pg_name (i := 2) sc_law_numbers.nd rfl (Or.inl rfl))
      (pss_cons (ps_set (i := 3) sc_law_numbers.nd rfl (Or.inl rfl) (pe_ix (kIxL (K := K)) (pe_lst (pa_cons (pe_op op_sub (pe_call (ok_law_draw T) (hr.mono (by decide)) rfl T.g_law_draw T.d_law_draw.kp (bn_law_draw T) .nil pass0 (pa_cons (pv 0) (pa_cons pe_int pa_nil))) pe_int) (pa_cons (pe_op op_sub (pe_call (ok_law_draw T) (hr.mono (by decide)) rfl T.g_law_draw T.d_law_draw.kp (bn_law_draw T) .nil pass0 (pa_cons (pv 0) (pa_cons pe_int pa_nil))) pe_int) pa_nil))) (pe_call (ok_law_draw T) (hr.mono (by decide)) rfl T.g_law_draw T.d_law_draw.kp (bn_law_draw T) .nil pass0 (pa_cons (pv 0) (pa_cons pe_int pa_nil))) (fun _ _ => rfl)))
      (pss_cons (ps_set (i := 4) sc_law_numbers.nd rfl (Or.inl rfl) (pe_lst (pa_cons (pe_tup (pa_cons pe_int (pa_cons (pv 3) (pa_cons pe_int (pa_cons pe_int pa_nil))))) (pa_cons (pe_tup (pa_cons pe_int (pa_cons pe_int (pa_cons (pv 3) (pa_cons pe_int pa_nil))))) (pa_cons (pe_tup (pa_cons pe_int (pa_cons (pe_un un_neg pe_int) (pa_cons pe_int (pa_cons pe_int pa_nil))))) (pa_cons (pe_tup (pa_cons pe_int (pa_cons pe_int (pa_cons pe_int (pa_cons (pe_un un_neg pe_int) pa_nil))))) (pa_cons (pe_tup (pa_cons pe_int (pa_cons pe_int (pa_cons pe_int (pa_cons pe_int pa_nil))))) pa_nil)))))))
      (pss_one (ps_set (i := 1) sc_law_numbers.nd rfl (Or.inl rfl) (pe_call (ok_law_product T) (hr.mono (by decide)) rfl T.g_law_product T.d_law_product.kp (bn_law_product T) .nil pass0 (pa_cons (pv 1) (pa_cons (pe_ix (kIxL (K := K)) (pv 4) (pe_call (ok_law_draw T) (hr.mono (by decide)) rfl T.g_law_draw T.d_law_draw.kp (bn_law_draw T) .nil pass0 (pa_cons (pv 0) (pa_cons pe_int pa_nil))) (fun _ _ => rfl)) pa_nil))))))))
      (pss_cons (ps_set (i := 5) sc_law_numbers.nd rfl (Or.inl rfl) (pe_lst (pa_cons (pe_op op_sub (pe_call (ok_law_draw T) (hr.mono (by decide)) rfl T.g_law_draw T.d_law_draw.kp (bn_law_draw T) .nil pass0 (pa_cons (pv 0) (pa_cons pe_int pa_nil))) pe_int) (pa_cons (pe_op op_mulA (pe_call (ok_law_draw T) (hr.mono (by decide)) rfl T.g_law_draw T.d_law_draw.kp (bn_law_draw T) .nil pass0 (pa_cons (pv 0) (pa_cons (pe_op op_pow pe_int pe_int) pa_nil))) (pe_op op_pow pe_int pe_int)) (pa_cons (pe_op op_sub pe_int (pe_call (ok_law_draw T) (hr.mono (by decide)) rfl T.g_law_draw T.d_law_draw.kp (bn_law_draw T) .nil pass0 (pa_cons (pv 0) (pa_cons (pe_op op_pow pe_int pe_int) pa_nil)))) pa_nil)))))
      (pss_one (ps_ret (pe_op (kCatT (K := K)) (pv 1) (pe_tup (pa_cons (pe_ix (kIxL (K := K)) (pv 5) (pe_call (ok_law_draw T) (hr.mono (by decide)) rfl T.g_law_draw T.d_law_draw.kp (bn_law_draw T) .nil pass0 (pa_cons (pv 0) (pa_cons pe_int pa_nil))) (fun _ _ => rfl)) (pa_cons (pe_ix (kIxL (K := K)) (pv 5) (pe_call (ok_law_draw T) (hr.mono (by decide)) rfl T.g_law_draw T.d_law_draw.kp (bn_law_draw T) .nil pass0 (pa_cons (pv 0) (pa_cons pe_int pa_nil))) (fun _ _ => rfl)) pa_nil))))))))), ?_⟩
    walk_at "gx"
    refine r_new fun t0 ht0 => ?_
    generalize e0 : upd H t0 _ = H0
    obtain ⟨s0, g0⟩ := fresh ht0 e0
    have K0 : Kp l H H0 := Kp.of_same s0
    have D0 := D0.same s0
    walk_at "gx"
    refine ⟨l, 5, rfl, D0, by decide, by decide, fun d H1 hd0 hd1 k1 D1 => ?_⟩
    have K1 := K0.trans k1
    have S1 := sqT_dr (K := K) (SqT.of g0) k1 D0
    walk_at "gx"
    refine loopR1 (by omega) (fun i σ' H' => Kp l H H' ∧ DrAt H' l ∧ ∃ (t : Addr) (m : Q4) (o2 o3 o4 : Option V), σ' = [some (.ref l), some (.ref t), o2, o3, o4, none] ∧ SqT K H' t m.vals ∧ m.Ok ∧ QBd (2 + 7 * i) m) ⟨K1, D1, t0, ⟨1, 0, 0, 1⟩, _, _, _, rfl, S1, .inl rfl, by unfold QBd Bd; decide⟩ ?_ ?_
    · clear K1 D1 S1 K0 D0 g0 s0 k1 e0
      rintro i σ' H1 hi ⟨K1, D1, t, m, o2, o3, o4, rfl, S1, om, bm⟩
      walk_at "gx"
      refine ⟨l, 7, rfl, D1, by decide, by decide, fun d1 H2 h10 h11 k2 D2 => ?_⟩
      have K2 := K1.trans k2
      have S2 := sqT_dr S1 k2 D1
      walk_at "gx"
      refine ⟨l, 61, rfl, D2, by decide, by decide, fun d2 H3 h20 h21 k3 D3 => ?_⟩
      have K3 := K2.trans k3
      have S3 := sqT_dr S2 k3 D2
      walk_at "gx"
      refine r_new fun p4 hp4 => ?_
      generalize e4 : upd H3 p4 _ = H4
      obtain ⟨s4, g4⟩ := fresh hp4 e4
      have K4 := K3.same s4
      have S4 := sqT_same s4 S3
      have D4 := D3.same s4
      have ne4 : p4 ≠ l := D3.ne hp4
      walk_at "gx"
      refine ⟨l, 2, rfl, D4, by decide, by decide, fun d3 H5 h30 h31 k5 D5 => ?_⟩
      have K5 := K4.trans k5
      have S5 := sqT_dr S4 k5 D4
      refine r_pickI [d1 - 3, d2 - 30] (SqL.of (k5 _ _ ne4 g4)) h30 (by exact h31) fun k hk => ?_
      have hk : -30 ≤ k ∧ k ≤ 30 := by
        simp only [List.mem_cons, List.not_mem_nil, or_false] at hk
        omega
      clear K1 K2 K3 K4 S1 S2 S3 S4 D1 D2 D3 D4 k2 k3 k5 g4 s4 e4
      walk_at "gx"
      refine r_new fun a6 ha6 => ?_
      generalize e6 : upd H5 a6 _ = H6
      obtain ⟨s6, g6⟩ := fresh ha6 e6
      walk_at "gx"
      refine r_new fun a7 ha7 => ?_
      generalize e7 : upd H6 a7 _ = H7
      obtain ⟨s7, g7⟩ := fresh ha7 e7
      walk_at "gx"
      refine r_new fun a8 ha8 => ?_
      generalize e8 : upd H7 a8 _ = H8
      obtain ⟨s8, g8⟩ := fresh ha8 e8
      walk_at "gx"
      refine r_new fun a9 ha9 => ?_
      generalize e9 : upd H8 a9 _ = H9
      obtain ⟨s9, g9⟩ := fresh ha9 e9
      walk_at "gx"
      refine r_new fun a10 ha10 => ?_
      generalize e10 : upd H9 a10 _ = H10
      obtain ⟨s10, g10⟩ := fresh ha10 e10
      walk_at "gx"
      refine r_new fun a11 ha11 => ?_
      generalize e11 : upd H10 a11 _ = H11
      obtain ⟨s11, g11⟩ := fresh ha11 e11
      have S67 := s10.trans s11
      have S57 := s9.trans S67
      have S47 := s8.trans S57
      have S37 := s7.trans S47
      have S27 := s6.trans S37
      have K11 := K5.same S27
      have D11 := D5.same S27
      have S11 := sqT_same S27 S5
      have hfa : ∀ v ∈ [V.ref a6, .ref a7, .ref a8, .ref a9, .ref a10], ∃ (a : Addr) (n : Q4), v = .ref a ∧ n ∈ factorsQ k ∧ SqT K H11 a n.vals := by
        intro v hv
        simp only [List.mem_cons, List.not_mem_nil, or_false] at hv
        rcases hv with rfl | rfl | rfl | rfl | rfl
        · exact ⟨_, ⟨1, k, 0, 1⟩, rfl, by simp [factorsQ], SqT.of (S37 _ _ g6)⟩
        · exact ⟨_, ⟨1, 0, k, 1⟩, rfl, by simp [factorsQ], SqT.of (S47 _ _ g7)⟩
        · exact ⟨_, ⟨0, -1, 1, 0⟩, rfl, by simp [factorsQ], SqT.of (S57 _ _ g8)⟩
        · exact ⟨_, ⟨1, 0, 0, -1⟩, rfl, by simp [factorsQ], SqT.of (S67 _ _ g9)⟩
        · exact ⟨_, ⟨0, 1, 1, 0⟩, rfl, by simp [factorsQ], SqT.of (s11 _ _ g10)⟩
      have ne11 : a11 ≠ l := (D5.same ((((s6.trans s7).trans s8).trans s9).trans s10)).ne ha11
      clear S67 S57 S47 S37 S27 g6 g7 g8 g9 g10 e6 e7 e8 e9 e10 e11 s6 s7 s8 s9 s10 s11 K5 D5 S5
      have hfl : [V.ref a6, .ref a7, .ref a8, .ref a9, .ref a10].length = 5 := rfl
      generalize [V.ref a6, .ref a7, .ref a8, .ref a9, .ref a10] = fl at hfa g11 hfl
      walk_at "gx"
      refine ⟨l, 5, rfl, D11, by decide, by decide, fun d4 H12 h40 h41 k12 D12 => ?_⟩
      have K12 := K11.trans k12
      have S12 := sqT_dr S11 k12 D11
      refine r_pick (SqL.of (k12 _ _ ne11 g11)) h40 (by rw [hfl]; exact h41) fun v hv => ?_
      obtain ⟨a, n, rfl, hn, hS⟩ := hfa v hv
      obtain ⟨on, bn⟩ := factorsQ_ok hk n hn
      walk_at "gx"
      refine ⟨t, a, m, n, rfl, S12, sqT_dr hS k12 D11, bm.mono (by omega), bn.mono (by decide), fun t2 H13 s13 hS13 => ?_⟩
      walk_at "gx"
      exact ⟨K12.same s13, D12.same s13, t2, _, _, _, _, rfl, hS13, Q4.ok_comp om on, (bm.comp bn).mono (by omega)⟩
    · rintro σ' H2 ⟨K2, D2, t, m, o2, o3, o4, rfl, S2, om, bm⟩
      have bm : QBd 40 m := bm.mono (by omega)
      clear K1 D1 S1 K0 D0 g0 s0 k1 e0
      walk_at "gx"
      refine ⟨l, 21, rfl, D2, by decide, by decide, fun d1 H3 h10 h11 k3 D3 => ?_⟩
      have K3 := K2.trans k3
      have S3 := sqT_dr S2 k3 D2
      walk_at "gx"
      refine r_I ⟨by decide, by decide, by decide⟩ ?_
      walk_at "gx"
      refine ⟨l, _, rfl, D3, by decide, by decide, fun d2 H4 h20 h21 k4 D4 => ?_⟩
      have h21 : d2 < 10 ^ 9 := h21
      have K4 := K3.trans k4
      have S4 := sqT_dr S3 k4 D3
      walk_at "gx"
      refine r_I ⟨by decide, by decide, by decide⟩ ?_
      refine r_I (mul_okL (by omega) (by omega)) ?_
      walk_at "gx"
      refine r_I ⟨by decide, by decide, by decide⟩ ?_
      walk_at "gx"
      refine ⟨l, _, rfl, D4, by decide, by decide, fun d3 H5 h30 h31 k5 D5 => ?_⟩
      have h31 : d3 < 10 ^ 9 := h31
      have K5 := K4.trans k5
      have S5 := sqT_dr S4 k5 D4
      walk_at "gx"
      refine r_new fun a6 ha6 => ?_
      have ne6 : a6 ≠ l := D5.ne ha6
      generalize e6 : upd H5 a6 _ = H6
      obtain ⟨s6, g6⟩ := fresh ha6 e6
      have K6 := K5.same s6
      have S6 := sqT_same s6 S5
      have D6 := D5.same s6
      have hb : ∀ z ∈ [d1 - 10, d2 * 10 ^ 9, 0 - d3], Bd 100 z := by
        intro z hz
        simp only [List.mem_cons, List.not_mem_nil, or_false] at hz
        exact bd_lit' (k := 10 ^ 18) (by omega) (by decide)
      generalize hns : [d1 - 10, d2 * 10 ^ 9, 0 - d3] = ns at hb
      have g6 : H6 a6 = some (.lst (ns.map V.int)) := by rw [← hns]; exact g6
      have hl3 : ns.length = 3 := by rw [← hns]; rfl
      walk_at "gx"
      refine ⟨l, 3, rfl, D6, by decide, by decide, fun d4 H7 h40 h41 k7 D7 => ?_⟩
      have g7 := k7 _ _ ne6 g6
      have K7 := K6.trans k7
      have S7 := sqT_dr S6 k7 D6
      refine r_pickI ns (SqL.of g7) h40 (by rw [hl3]; exact h41) fun z1 hz1 => ?_
      walk_at "gx"
      refine ⟨l, 3, rfl, D7, by decide, by decide, fun d5 H8 h50 h51 k8 D8 => ?_⟩
      have g8 := k8 _ _ ne6 g7
      have K8 := K7.trans k8
      have S8 := sqT_dr S7 k8 D7
      refine r_pickI ns (SqL.of g8) h50 (by rw [hl3]; exact h51) fun z2 hz2 => ?_
      walk_at "gx"
      refine r_new fun a9 ha9 => ?_
      generalize e9 : upd H8 a9 _ = H9
      obtain ⟨s9, g9⟩ := fresh ha9 e9
      refine r_catA (sqT_same s9 S8) (SqT.of g9) (by show 4 + 2 ≤ 1000; decide) fun p H10 s10 hS10 => ?_
      exact q p ⟨m.a, m.b, m.c, m.d, z1, z2⟩ H10 ((K8.same s9).same s10) ((D8.same s9).same s10) hS10 om ⟨bm.1.mono (by decide), bm.2.1.mono (by decide), bm.2.2.1.mono (by decide), bm.2.2.2.mono (by decide), hb _ hz1, hb _ hz2⟩
/-! #### _law_image -/
def sp_law_image (K : PySem.W.Frag) : Sp := fun vs H Q _ => ∃ (x : Addr) (u : V) (m : M6) (p : Int × Int), vs = [.ref x, u] ∧ SqT K H x m.vals ∧ Hd K H u p ∧ MBd 100000 m ∧ PBd 100000 p ∧ ∀ r H', Same H H' → Hd K H' r (m.img p) → Q r H'
theorem ok_law_image (T : Tx K mg) : FnOk P w K mg base CX0 1 (He.ga K "_law_image") (fdOf K (He.ga K "_law_image")) ["_law_numbers_here", "_law_point"] (sp_law_image K) := by
  refine T.d_law_image.ok sc_law_image (fun vs H Q E h => ?_) (fun cdv A outer s H vs Q E hr h => ?_)
  · obtain ⟨x, u, m, p, rfl, _⟩ := h
    rfl
  · obtain ⟨x, u, m, p, rfl, hx, hu, bd, bp, q⟩ := h
    have hx : SqT K H x [.int m.a, .int m.b, .int m.c, .int m.d, .int m.e, .int m.f] := hx
    obtain ⟨a2, rfl, ha2⟩ := hu.pt_of
    obtain ⟨b1, b2, b3, b4, b5, b6⟩ := bd
    refine ⟨_, PSs.nox (pss_cons (ps_asg (pv 0) (kpgTup (K := K) rfl (pgs_cons (pg_name (i := 2) sc_law_image.nd rfl (Or.inl rfl)) (pgs_cons (pg_name (i := 3) sc_law_image.nd rfl (Or.inl rfl)) (pgs_cons (pg_name (i := 4) sc_law_image.nd rfl (Or.inl rfl)) (pgs_cons (pg_name (i := 5) sc_law_image.nd rfl (Or.inl rfl)) (pgs_cons (pg_name (i := 6) sc_law_image.nd rfl (Or.inl rfl)) (pgs_cons (pg_name (i := 7) sc_law_image.nd rfl (Or.inl rfl)) pgs_nil))))))))
      (pss_one (ps_ret (pe_tup (pa_cons (pe_op op_add (pe_op op_add (pe_op op_mulA (pv 2) (pe_ix (kIxT (K := K)) (pv 1) pe_int (fun _ _ => rfl))) (pe_op op_mulA (pv 3) (pe_ix (kIxT (K := K)) (pv 1) pe_int (fun _ _ => rfl)))) (pv 6)) (pa_cons (pe_op op_add (pe_op op_add (pe_op op_mulA (pv 4) (pe_ix (kIxT (K := K)) (pv 1) pe_int (fun _ _ => rfl))) (pe_op op_mulA (pv 5) (pe_ix (kIxT (K := K)) (pv 1) pe_int (fun _ _ => rfl)))) (pv 7)) pa_nil)))))), ?_⟩
    walk_at "s0"
    walk_at "gs"
    refine r_I (b1.ok bp.1) ?_
    walk_at "gs"
    refine r_I (b2.ok bp.2) ?_
    walk_at "gs"
    refine r_I (b3.ok bp.1) ?_
    walk_at "gs"
    refine r_I (b4.ok bp.2) ?_
    walk_at "gs"
    refine r_new fun t2 ht2 => ?_
    generalize e2 : upd H t2 _ = H2
    obtain ⟨s2, g2⟩ := fresh ht2 e2
    exact q _ _ s2 (hd_pair (SqT.of g2) hd_int hd_int)
/-! #### _law_grid -/
def sp_law_grid (K : PySem.W.Frag) : Sp := fun vs H Q _ => ∃ (x : Addr) (m : M6), vs = [.ref x] ∧ SqT K H x m.vals ∧ m.Ok ∧ MBd 100000 m ∧ ∀ v H', Same H H' → GmAt K H' v m → Q v H'
theorem ok_law_grid (T : Tx K mg) : FnOk P w K mg base CX0 5 (He.ga K "_law_grid") (fdOf K (He.ga K "_law_grid")) ["_law_numbers_here"] (sp_law_grid K) := by
  refine T.d_law_grid.ok sc_law_grid (fun vs H Q E h => ?_) (fun cdv A outer s H vs Q E hr h => ?_)
  · obtain ⟨x, m, rfl, _⟩ := h
    rfl
  · obtain ⟨x, m, rfl, hx, om, bm, q⟩ := h
    have hx : SqT K H x [.int m.a, .int m.b, .int m.c, .int m.d, .int m.e, .int m.f] := hx
    refine ⟨_, PSs.nox (pss_cons (ps_asg (pv 0) (kpgTup (K := K) rfl (pgs_cons (pg_name (i := 1) sc_law_grid.nd rfl (Or.inl rfl)) (pgs_cons (pg_name (i := 2) sc_law_grid.nd rfl (Or.inl rfl)) (pgs_cons (pg_name (i := 3) sc_law_grid.nd rfl (Or.inl rfl)) (pgs_cons (pg_name (i := 4) sc_law_grid.nd rfl (Or.inl rfl)) (pgs_cons (pg_name (i := 5) sc_law_grid.nd rfl (Or.inl rfl)) (pgs_cons (pg_name (i := 6) sc_law_grid.nd rfl (Or.inl rfl)) pgs_nil))))))))
      (pss_one (ps_ret (pe_makeA T.k_GridMap (FnOk.raw (ok_GridMap_init T) (bd0_GridMap_init T).choose_spec.2 (bd0_GridMap_init T).choose_spec.1) (hr.mono (by decide)) rfl T.g_GridMap (passAll passL) (pa_cons (pv 1) (pa_cons (pv 2) (pa_cons (pv 3) (pa_cons (pv 4) (pa_cons (pv 5) (pa_cons (pv 6) pa_nil)))))))))), ?_⟩
    walk_at "s0"
    walk_at "gs"
    exact mk_good om bm q
/-! #### _law_rejected -/
theorem mapBs_nil {H : Hp} : MapBs K H [] [] := ⟨rfl, fun i u n e => by simp at e⟩
theorem mapBs_cons {H : Hp} {u : V} {n : Bool} {us : List V} {ns : List Bool} (h : MapB K H u n) (r : MapBs K H us ns) : MapBs K H (u :: us) (n :: ns) := by
  refine ⟨congrArg (· + 1) r.1, fun i x y e1 e2 => ?_⟩
  cases i with
  | zero => cases e1; cases e2; exact h
  | succ i => exact r.2 i x y (by simpa using e1) (by simpa using e2)
def words3 : List Str := ["map", "map", "integer"]
theorem r_bmL {to : TE} {ta : TA} {r : V → List V → Hp → VK → Prop} {σ : L2.St} {H : Hp} {Q : VK} (q : to σ H fun x H1 => tyV K "list" x H1 ∧ ta σ H1 fun xs H2 => r x xs H2 Q) : tBM K "list" r to ta σ H Q := q
theorem r_append {H : Hp} {Q : VK} {p : Addr} {xs : List V} {y : V} (h : H p = some (.lst xs)) (hl : xs.length ≤ 100000) (q : Q .non (upd H p (.lst (xs ++ [y])))) : rAppend (.ref p) [y] H Q := ⟨p, xs, y, rfl, rfl, h, Nat.lt_of_le_of_lt hl (by decide), q⟩
theorem ty_list {H : Hp} {p : Addr} {xs : List V} (h : H p = some (.lst xs)) : tyV K "list" (.ref p) H := .inl ⟨rfl, xs, SqL.of h⟩
def sp_law_rejected (K : PySem.W.Frag) : Sp := fun vs H Q _ => ∃ (v u : V) (m : M6) (n : String), vs = [v, u] ∧ GmAt K H v m ∧ m.Ok ∧ MBd 30000 m ∧ Kd K H u n ∧ isI u = false ∧ ∀ H', Same H H' → Q (.bl true) H'
theorem ok_law_rejected (T : Tx K mg) : FnOk P w K mg base CX0 7 (He.ga K "_law_rejected") (fdOf K (He.ga K "_law_rejected")) ["_law_grid_here", "_law_value"] (sp_law_rejected K) := by
  refine T.d_law_rejected.ok sc_law_rejected (fun vs H Q E h => ?_) (fun cdv A outer s H vs Q E hr h => ?_)
  · obtain ⟨v, u, m, n, rfl, _⟩ := h
    rfl
  · obtain ⟨v, u, m, n, rfl, hv, om, bm, kd, hi, q⟩ := h
    refine ⟨_, PSs.nox (pss_cons (ps_set (i := 2) sc_law_rejected.nd rfl (Or.inl rfl) (pe_lst pa_nil))
      (pss_cons (ps_for PassesOwn.never rfl (pi_range1 rfl T.n_range (pa_cons pe_int pa_nil)) (pg_name (i := 3) sc_law_rejected.nd rfl (Or.inl rfl))
      (pss_one (ps_try_many rfl rfl takes0 (fun W pn xe tk pn_own => (pss_one (ps_if (pt_cmpR op_eq (pv 3) pe_int (nomark _)) (pss_one (ps_expr (pe_methA (pv 0) T.y_GridMap.cl T.m_GridMap_then (ok_GridMap_then T) (hr.mono (by decide)) (fun σ => passAt tk σ) (pa_cons (pv 1) pa_nil)))) (pss_one (ps_if (pt_cmpR op_eq (pv 3) pe_int (nomark _)) (pss_one (ps_expr (pe_methA (pv 0) T.y_GridMap.cl T.m_GridMap_then (ok_GridMap_then T) (hr.mono (by decide)) (fun σ => passAt tk σ) (pa_cons (pv 0) (pa_cons (pv 1) pa_nil))))) (pss_one (ps_expr (pe_methA (pv 0) T.y_GridMap.cl T.m_GridMap_power (FnOk.raw (ok_GridMap_power T) (bn_GridMap_power T) .nil) (hr.mono (by decide)) (fun σ => passAt tk σ) (pa_cons (pv 1) pa_nil))))))))) (.cons ⟨rfl, by decide, .inl T.g_InvalidMap⟩ (fun a oe cls d pn hz hf => (pss_one (ps_expr (kBM (K := K) (pe_bm PySem.F.plainAttrs_list PySem.F.slot_list_append PySem.F.type_list_append mt_append (pv 2) (pa_cons pe_str pa_nil)))))) (.cons ⟨rfl, by decide, .inl T.g_InvalidInteger⟩ (fun a oe cls d pn hz hf => (pss_one (ps_expr (kBM (K := K) (pe_bm PySem.F.plainAttrs_list PySem.F.slot_list_append PySem.F.type_list_append mt_append (pv 2) (pa_cons pe_str pa_nil)))))) .nil)))))
      (pss_one (ps_ret (pe_cmpR (kEqD (K := K) hr.units) (pv 2) (pe_lst (pa_cons pe_str (pa_cons pe_str (pa_cons pe_str pa_nil)))) (nomark _)))))), ?_⟩
    walk_at "gx"
    refine r_new fun p hp => ?_
    generalize e1 : upd H p _ = H1
    obtain ⟨s1, g1⟩ := fresh hp e1
    walk_at "gx"
    refine loopR1 (by decide) (fun i σ' H' => Same H H' ∧ H' p = some (.lst ((words3.take i).map V.str)) ∧ ∃ o, σ' = [some v, some u, some (.ref p), o]) ⟨s1, g1, _, rfl⟩ ?_ ?_
    · rintro i σ' H2 hi3 ⟨S2, G2, o, rfl⟩
      have hv2 := hv.same S2
      have kd2 := kd.same S2
      have hv0 := hv2
      obtain ⟨a, dx, t, rfl, ha, ht⟩ := hv0.of
      have fin : ∀ (y : Str) (H3 : Hp), Same H2 H3 → words3[i]? = some y → Same H (upd H3 p (.lst ((words3.take i).map V.str ++ [.str y]))) ∧ (upd H3 p (.lst ((words3.take i).map V.str ++ [.str y]))) p = some (.lst ((words3.take (i + 1)).map V.str)) := fun y H3 s3 hy => by
        refine ⟨same_kp (S2.trans s3) hp ((Kp.of_same (Same.refl _)).put), ?_⟩
        rw [upd_same, List.take_succ, hy, List.map_append]; rfl
      have ln : ((words3.take i).map V.str).length ≤ 100000 := by
        rw [List.length_map, List.length_take]; exact Nat.le_trans (Nat.min_le_right _ _) (by decide)
      walk_at "gx"
      refine r_dec (fun e => ?_) (fun e0 => ?_)
      · obtain rfl : i = 0 := by omega
        walk_at "gx"
        refine r_recv ha rfl ?_
        walk_at "gx"
        refine ⟨_, [u], m, rfl, (by show 1 ≤ 100; decide), hv2, .inl ⟨[false], mapBs_cons (.kind kd2) mapBs_nil, rfl, fun H3 s3 => ?_⟩⟩
        refine ⟨true, T.m_InvalidMap_InvalidMap, fun _ x hx => ?_, fun z => nomatch z⟩
        walk_at "gx"
        refine r_bmL ?_
        walk_at "gx"
        refine ⟨ty_list (s3 _ _ G2), ?_⟩
        walk_at "gx"
        refine r_append (s3 _ _ G2) ln ?_
        obtain ⟨f1, f2⟩ := fin "map" H3 s3 rfl
        exact ⟨f1, f2, _, rfl⟩
      walk_at "gx"
      refine r_dec (fun e => ?_) (fun e1 => ?_)
      · obtain rfl : i = 1 := by omega
        walk_at "gx"
        refine r_recv ha rfl ?_
        walk_at "gx"
        refine ⟨_, [.ref a, u], m, rfl, (by show 2 ≤ 100; decide), hv2, .inl ⟨[true, false], mapBs_cons (.yes m hv2) (mapBs_cons (.kind kd2) mapBs_nil), rfl, fun H3 s3 => ?_⟩⟩
        refine ⟨true, T.m_InvalidMap_InvalidMap, fun _ x hx => ?_, fun z => nomatch z⟩
        walk_at "gx"
        refine r_bmL ?_
        walk_at "gx"
        refine ⟨ty_list (s3 _ _ G2), ?_⟩
        walk_at "gx"
        refine r_append (s3 _ _ G2) ln ?_
        obtain ⟨f1, f2⟩ := fin "map" H3 s3 rfl
        exact ⟨f1, f2, _, rfl⟩
      · obtain rfl : i = 2 := by omega
        walk_at "gx"
        refine r_recv ha rfl ?_
        walk_at "gx"
        refine ⟨_, u, m, rfl, hv2, om, bm, .inl ⟨n, kd2, hi, ?_⟩⟩
        refine ⟨false, T.m_InvalidInteger_InvalidMap, (fun z => nomatch z), fun _ => ⟨true, T.m_InvalidInteger_InvalidInteger, fun _ x hx => ?_, fun z => nomatch z⟩⟩
        walk_at "gx"
        refine r_bmL ?_
        walk_at "gx"
        refine ⟨ty_list G2, ?_⟩
        walk_at "gx"
        refine r_append G2 ln ?_
        obtain ⟨f1, f2⟩ := fin "integer" H2 (Same.refl _) rfl
        exact ⟨f1, f2, _, rfl⟩
    · rintro σ' H2 ⟨S2, G2, o, rfl⟩
      walk_at "gx"
      refine r_new fun p2 hp2 => ?_
      generalize e3 : upd H2 p2 _ = H3
      obtain ⟨s3, g3⟩ := fresh hp2 e3
      refine r_eqD (d := .list [.str "map", .str "map", .str "integer"]) (e := .list [.str "map", .str "map", .str "integer"]) (.lst (SqL.of (s3 _ _ G2)) (.cons (.str _) (.cons (.str _) (.cons (.str _) .nil)))) (.lst (SqL.of g3) (.cons (.str _) (.cons (.str _) (.cons (.str _) .nil)))) (by decide +kernel) (by decide +kernel) ?_
      exact q _ (S2.trans s3)
/-! #### _law_powers_right -/
def itI (m : M6) (p : Int × Int) : Nat → Int × Int
  | 0 => p
  | k + 1 => m.img (itI m p k)
theorem img_comp (m n : M6) (p : Int × Int) : (m.comp n).img p = n.img (m.img p) := by
  simp only [M6.img, M6.comp, Prod.mk.injEq]
  constructor <;> grind
theorem img_one (p : Int × Int) : M6.one.img p = p := by
  simp [M6.img, M6.one]
theorem img_pow (m : M6) (p : Int × Int) : ∀ k, (m.pow k).img p = itI m p k
  | 0 => img_one p
  | k + 1 => by
    show ((m.pow k).comp m).img p = m.img (itI m p k)
    rw [img_comp, img_pow m p k]
theorem PBd.mono {n k : Nat} {p : Int × Int} (h : PBd n p) (l : n ≤ k) : PBd k p := ⟨h.1.mono l, h.2.mono l⟩
theorem img_bd {i j : Nat} {m : M6} {p : Int × Int} (h : MBd i m) (k : PBd j p) : PBd (i + j + 2) (m.img p) := by
  obtain ⟨a1, b1, c1, d1, e1, f1⟩ := h
  obtain ⟨x, y⟩ := k
  refine ⟨?_, ?_⟩
  · exact (((bd_lin a1 x b1 y).mono (by omega : _ ≤ i + j + 1)).add (e1.mono (by omega))).mono (by omega)
  · exact (((bd_lin c1 x d1 y).mono (by omega : _ ≤ i + j + 1)).add (f1.mono (by omega))).mono (by omega)
theorem it_bd {i j : Nat} {m : M6} {p : Int × Int} (h : MBd i m) (k : PBd j p) : ∀ n, PBd (j + n * (i + 2)) (itI m p n)
  | 0 => k.mono (by omega)
  | n + 1 => (img_bd h (it_bd h k n)).mono (by rw [Nat.succ_mul]; omega)
theorem pow_small {b n k : Nat} {m : M6} (h : MBd n m) (hk : k ≤ 5) (hb : 5 * (n + 2) + 1 ≤ b) : MBd b (m.pow k) := (MBd.pow h k).mono (Nat.le_trans (Nat.add_le_add_right (Nat.mul_le_mul_right _ hk) 1) hb)
theorem powM_nat (m : M6) (k : Nat) : powM m (k : Int) = m.pow k := by
  unfold powM baseM
  rw [if_pos (by omega)]; rfl
theorem baseM_nat (m : M6) (k : Nat) : baseM m (k : Int) = m := by
  unfold baseM
  rw [if_pos (by omega)]
theorem powM_neg (m : M6) (k : Nat) : powM m (0 - (k : Int)) = m.inv.pow k := by
  unfold powM baseM
  have e : (0 - (k : Int)).natAbs = k := by omega
  rw [e]
  by_cases h : k = 0
  · subst h; rfl
  · rw [if_neg (by omega)]
theorem gm_ne (T : Tx K mg) {H : Hp} {u v : V} {m n : M6} {E : XK} {Q : VK} (h1 : GmAt K H u m) (h2 : GmAt K H v n) (q : Q (.bl (!decide (m = n))) H) : rNeO K (He.ga K "GridMap") (sp_GridMap_eq K) E u v H Q := by
  have h0 := h1
  obtain ⟨a, dx, t, rfl, ha, ht⟩ := h0.of
  have h0 := h2
  obtain ⟨b, dy, t2, rfl, hb, ht2⟩ := h0.of
  exact r_neO ha (T.y_GridMap.ty hb) T.nf_GridMap ⟨_, _, _, rfl, h1, .inl ⟨_, h2, _, rfl, q⟩⟩
theorem baseM_neg {m : M6} {e : Int} : baseM m e = m ∨ baseM m e = m.inv := by
  unfold baseM
  split
  · exact .inl rfl
  · exact .inr rfl
def sp_law_powers_right (K : PySem.W.Frag) : Sp := fun vs H Q _ => ∃ (v u : V) (m : M6) (p : Int × Int), vs = [v, u] ∧ GmAt K H v m ∧ m.Ok ∧ MBd 100 m ∧ Hd K H u p ∧ PBd 100 p ∧ ∀ H', Same H H' → Q (.bl true) H'
theorem ok_law_powers_right (T : Tx K mg) : FnOk P w K mg base CX0 7 (He.ga K "_law_powers_right") (fdOf K (He.ga K "_law_powers_right")) ["_law_grid_here", "_law_point"] (sp_law_powers_right K) := by
  refine T.d_law_powers_right.ok sc_law_powers_right (fun vs H Q E h => ?_) (fun cdv A outer s H vs Q E hr h => ?_)
  · obtain ⟨v, u, m, p, rfl, _⟩ := h
    rfl
  · obtain ⟨v, u, m, p, rfl, hv, om, bm, hp, bp, q⟩ := h
    have hv0 := hv
    obtain ⟨a, dx, t, rfl, ha, ht⟩ := hv0.of
    have bi : MBd 202 m.inv := bm.inv om
    have oi : m.inv.Ok := M6.ok_inv om
    refine ⟨_, PSs.nox (pss_cons (ps_set (i := 2) sc_law_powers_right.nd rfl (Or.inl rfl) (pe_methA0 (pv 0) T.y_GridMap.cl T.m_GridMap_inverse (FnOk.raw (ok_GridMap_inverse T) (bn_GridMap_inverse T) .nil) (hr.mono (by decide)) (passAll pass0)))
      (pss_cons (ps_par (i := 3) (j := 4) (by rfl) sc_law_powers_right.nd rfl rfl (by decide) rfl rfl (pa_cons (pv 1) (pa_cons (pv 1) pa_nil)) (by rfl))
      (pss_cons (ps_for PassesOwn.never rfl (pi_range1 rfl T.n_range (pa_cons pe_int pa_nil)) (pg_name (i := 5) sc_law_powers_right.nd rfl (Or.inl rfl))
      (pss_cons (ps_if (PW.pt (pw_or (pt_cmpR (kNeD (K := K) hr.units) (pe_methA (pe_methA (pv 0) T.y_GridMap.cl T.m_GridMap_power (FnOk.raw (ok_GridMap_power T) (bn_GridMap_power T) .nil) (hr.mono (by decide)) (passAll passL) (pa_cons (pv 5) pa_nil)) T.y_GridMap.cl T.m_GridMap_apply (FnOk.raw (ok_GridMap_apply T) (bn_GridMap_apply T) .nil) (hr.mono (by decide)) (passAll passL) (pa_cons (pv 1) pa_nil)) (pv 3) (nomark _)) (pw_or1 (pt_cmpR (kNeD (K := K) hr.units) (pe_methA (pe_methA (pv 2) T.y_GridMap.cl T.m_GridMap_power (FnOk.raw (ok_GridMap_power T) (bn_GridMap_power T) .nil) (hr.mono (by decide)) (passAll passL) (pa_cons (pv 5) pa_nil)) T.y_GridMap.cl T.m_GridMap_apply (FnOk.raw (ok_GridMap_apply T) (bn_GridMap_apply T) .nil) (hr.mono (by decide)) (passAll passL) (pa_cons (pv 1) pa_nil)) (pv 4) (nomark _))))) (pss_one (ps_ret pe_bl)) pss_nil)
      (pss_cons (ps_if (pt_cmpR (op_neO (K := K) T.o_GridMap (ok_GridMap_eq T) (hr.mono (by decide)) (bn_GridMap_eq T) pass0) (pe_methA (pv 0) T.y_GridMap.cl T.m_GridMap_power (FnOk.raw (ok_GridMap_power T) (bn_GridMap_power T) .nil) (hr.mono (by decide)) (passAll passL) (pa_cons (pe_op op_sub pe_int (pv 5)) pa_nil)) (pe_methA (pv 2) T.y_GridMap.cl T.m_GridMap_power (FnOk.raw (ok_GridMap_power T) (bn_GridMap_power T) .nil) (hr.mono (by decide)) (passAll passL) (pa_cons (pv 5) pa_nil)) (nomark _)) (pss_one (ps_ret pe_bl)) pss_nil)
      (pss_one (ps_if (pt_cmpR op_lt (pv 5) pe_int (nomark _)) (pss_one (ps_par (i := 3) (j := 4) (by rfl) sc_law_powers_right.nd rfl rfl (by decide) rfl rfl (pa_cons (pe_methA (pv 0) T.y_GridMap.cl T.m_GridMap_apply (FnOk.raw (ok_GridMap_apply T) (bn_GridMap_apply T) .nil) (hr.mono (by decide)) (passAll passL) (pa_cons (pv 3) pa_nil)) (pa_cons (pe_methA (pv 2) T.y_GridMap.cl T.m_GridMap_apply (FnOk.raw (ok_GridMap_apply T) (bn_GridMap_apply T) .nil) (hr.mono (by decide)) (passAll passL) (pa_cons (pv 4) pa_nil)) pa_nil)) (by rfl))) pss_nil)))))
      (pss_one (ps_ret pe_bl))))), ?_⟩
    walk_at "gx"
    refine r_recv ha rfl ?_
    refine ⟨_, m, rfl, hv, om, bm.mono (by decide), fun w H1 s1 hw => ?_⟩
    have hw0 := hw
    obtain ⟨wa, wd, wt, rfl, hwa, hwt⟩ := hw0.of
    walk_at "gx"
    have hp1 := hp.same s1
    refine loopR1 (by decide) (fun i σ' H' => Same H1 H' ∧ ∃ x y o, σ' = [some (.ref a), some u, some (.ref wa), some x, some y, o] ∧ (i ≤ 5 → Hd K H' x (itI m p i) ∧ Hd K H' y (itI m.inv p i))) ⟨Same.refl _, _, _, _, rfl, fun _ => ⟨hp1, hp1⟩⟩ ?_ ?_
    · rintro i σ' H2 hi ⟨S2, x, y, o, rfl, hxy⟩
      have hi5 : i ≤ 5 := by omega
      obtain ⟨hx, hy⟩ := hxy hi5
      have S02 := s1.trans S2
      walk_at "gx"
      refine r_recv (S02 _ _ ha) rfl ?_
      walk_at "gx"
      refine ⟨_, _, m, rfl, hv.same S02, om, bm.mono (by decide), .inr ⟨_, rfl, fun j hj => ?_, fun r H3 s3 hr3 => ?_⟩⟩
      · rw [baseM_nat]; exact pow_small bm (by omega) (by decide)
      rw [powM_nat] at hr3
      have hr0 := hr3
      obtain ⟨ra, rd, rt, rfl, hra, hrt⟩ := hr0.of
      walk_at "gx"
      refine r_recv hra rfl ?_
      walk_at "gx"
      refine ⟨_, _, _, rfl, hr3, pow_small bm hi5 (by decide), .inr ⟨p, hp.same (S02.trans s3), bp.mono (by decide), fun r4 H4 s4 hr4 => ?_⟩⟩
      rw [img_pow] at hr4
      walk_at "gx"
      have S4 := s3.trans s4
      refine r_neH (α := Int × Int) hr4 (hx.same S4) ?_
      walk_at "gx"
      refine r_ndec (fun h => absurd rfl h) (fun _ => ?_)
      have S24 := S2.trans S4
      have hx := hx.same S4
      have hy := hy.same S4
      clear hr3 hr4 hra hrt S4 s3 s4 S2 S02
      walk_at "gx"
      refine r_recv (S24 _ _ hwa) rfl ?_
      walk_at "gx"
      refine ⟨_, _, m.inv, rfl, hw.same S24, oi, bi.mono (by decide), .inr ⟨_, rfl, fun j hj => ?_, fun r H5 s5 hr5 => ?_⟩⟩
      · rw [baseM_nat]; exact pow_small bi (by omega) (by decide)
      rw [powM_nat] at hr5
      have hr0 := hr5
      obtain ⟨rb, rd, rt, rfl, hra, hrt⟩ := hr0.of
      walk_at "gx"
      refine r_recv hra rfl ?_
      walk_at "gx"
      refine ⟨_, _, _, rfl, hr5, pow_small bi hi5 (by decide), .inr ⟨p, hp1.same (S24.trans s5), bp.mono (by decide), fun r6 H6 s6 hr6 => ?_⟩⟩
      rw [img_pow] at hr6
      walk_at "gx"
      have S6 := s5.trans s6
      refine r_neH (α := Int × Int) hr6 (hy.same S6) ?_
      walk_at "gx"
      refine r_ndec (fun h => absurd rfl h) (fun _ => ?_)
      have S16 := S24.trans S6
      have hx := hx.same S6
      have hy := hy.same S6
      clear hr5 hr6 hra hrt S6 s5 s6 S24
      walk_at "gx"
      have S06 := s1.trans S16
      refine r_recv (S06 _ _ ha) rfl ?_
      walk_at "gx"
      refine ⟨_, _, m, rfl, hv.same S06, om, bm.mono (by decide), .inr ⟨_, rfl, fun j hj => ?_, fun r7 H7 s7 hr7 => ?_⟩⟩
      · have hj : j ≤ 5 := by omega
        rcases baseM_neg (m := m) (e := 0 - (i : Int)) with z | z <;> rw [z]
        · exact pow_small bm hj (by decide)
        · exact pow_small bi hj (by decide)
      rw [powM_neg] at hr7
      have S17 := S16.trans s7
      walk_at "gx"
      refine r_recv (S17 _ _ hwa) rfl ?_
      walk_at "gx"
      refine ⟨_, _, m.inv, rfl, hw.same S17, oi, bi.mono (by decide), .inr ⟨_, rfl, fun j hj => ?_, fun r8 H8 s8 hr8 => ?_⟩⟩
      · rw [baseM_nat]; exact pow_small bi (by omega) (by decide)
      rw [powM_nat] at hr8
      refine gm_ne T (hr7.same s8) hr8 ?_
      walk_at "gx"
      refine r_ndec (fun h => absurd rfl h) (fun _ => ?_)
      have S18 := S17.trans s8
      have hx := hx.same (s7.trans s8)
      have hy := hy.same (s7.trans s8)
      clear hr7 hr8 s7 s8 S17 S16 S06
      walk_at "gx"
      refine r_dec (fun h5 => ?_) (fun h5 => ?_)
      · walk_at "gx"
        have S08 := s1.trans S18
        refine r_recv (S08 _ _ ha) rfl ?_
        walk_at "gx"
        refine ⟨_, _, m, rfl, hv.same S08, bm.mono (by decide), .inr ⟨_, hx, (it_bd bm bp i).mono ?_, fun r9 H9 s9 hr9 => ?_⟩⟩
        · have := Nat.mul_le_mul_right (100 + 2) hi5
          omega
        walk_at "gx"
        refine r_recv (s9 _ _ (S18 _ _ hwa)) rfl ?_
        walk_at "gx"
        refine ⟨_, _, m.inv, rfl, hw.same (S18.trans s9), bi.mono (by decide), .inr ⟨_, hy.same s9, (it_bd bi bp i).mono ?_, fun r10 H10 s10 hr10 => ?_⟩⟩
        · have := Nat.mul_le_mul_right (202 + 2) hi5
          omega
        walk_at "gx"
        exact ⟨S18.trans (s9.trans s10), _, _, _, rfl, fun _ => ⟨hr9.same s10, hr10⟩⟩
      · walk_at "gx"
        exact ⟨S18, _, _, _, rfl, fun h6 => absurd h6 (by omega)⟩
    · rintro σ' H2 ⟨S2, x, y, o, rfl, hxy⟩
      walk_at "gx"
      exact q _ (s1.trans S2)
/-! #### law -/
/-! lists of numbers of maps, lists of maps -/
def Al (R : V → M6 → Prop) (vs : List V) (ms : List M6) : Prop := vs.length = ms.length ∧ ∀ (i : Nat) (v : V) (m : M6), vs[i]? = some v → ms[i]? = some m → R v m
theorem Al.imp {R R' : V → M6 → Prop} {vs : List V} {ms : List M6} (h : Al R vs ms) (f : ∀ v m, R v m → R' v m) : Al R' vs ms := ⟨h.1, fun i v m e1 e2 => f v m (h.2 i v m e1 e2)⟩
theorem Al.nil {R : V → M6 → Prop} : Al R [] [] := ⟨rfl, fun i v m e => by simp at e⟩
theorem Al.snoc {R : V → M6 → Prop} {vs : List V} {ms : List M6} {v : V} {m : M6} (h : Al R vs ms) (k : R v m) : Al R (vs ++ [v]) (ms ++ [m]) := by
  refine ⟨by simp [h.1], fun i x y e1 e2 => ?_⟩
  rcases Nat.lt_or_ge i vs.length with hi | hi
  · rw [List.getElem?_append_left hi] at e1
    rw [List.getElem?_append_left (by rw [← h.1]; exact hi)] at e2
    exact h.2 i x y e1 e2
  · rw [List.getElem?_append_right hi] at e1
    rw [List.getElem?_append_right (by rw [← h.1]; exact hi), ← h.1] at e2
    cases hn : i - vs.length with
    | zero =>
      rw [hn] at e1 e2
      cases e1; cases e2; exact k
    | succ n => rw [hn] at e1; simp at e1
theorem Al.at {R : V → M6 → Prop} {vs : List V} {ms : List M6} {i : Nat} {v : V} (h : Al R vs ms) (e : vs[i]? = some v) : ∃ m, ms[i]? = some m ∧ R v m := by
  have hi : i < vs.length := (List.getElem?_eq_some_iff.mp e).1
  have hj : i < ms.length := by rw [← h.1]; exact hi
  exact ⟨ms[i], List.getElem?_eq_getElem hj, h.2 i v _ e (List.getElem?_eq_getElem hj)⟩
def SixAt (K : PySem.W.Frag) (H : Hp) (v : V) (m : M6) : Prop := ∃ a, v = .ref a ∧ SqT K H a m.vals
theorem SixAt.same {H H' : Hp} {v : V} {m : M6} (h : SixAt K H v m) (s : Same H H') : SixAt K H' v m := by
  obtain ⟨a, rfl, h⟩ := h
  exact ⟨a, rfl, sqT_same s h⟩
theorem SixAt.kp {H H' : Hp} {l : Addr} {v : V} {m : M6} (h : SixAt K H v m) (k : Kp l H H') (hl : ∃ xs, H l = some (.lst xs)) : SixAt K H' v m := by
  obtain ⟨a, rfl, h⟩ := h
  exact ⟨a, rfl, sqT_kp k hl h⟩
theorem gmAt_kp {H H' : Hp} {v : V} {m : M6} {l : Addr} (h : GmAt K H v m) (k : Kp l H H') (hl : ∃ xs, H l = some (.lst xs)) : GmAt K H' v m := by
  obtain ⟨a, dx, t, rfl, h1, h2⟩ := h
  obtain ⟨xs, e⟩ := hl
  exact ⟨a, dx, t, rfl, k _ _ (ne_of h1 e (by intro z; cases z)) h1, sqT_kp k ⟨_, e⟩ h2⟩
theorem drAt_lst {H : Hp} {l : Addr} (d : DrAt H l) : ∃ xs, H l = some (.lst xs) := by
  obtain ⟨x, y, e, _⟩ := d
  exact ⟨_, e⟩
theorem drAt_put {H : Hp} {l p : Addr} {o : HO} (d : DrAt H l) (h : p ≠ l) : DrAt (upd H p o) l := by
  obtain ⟨x, y, e, r⟩ := d
  exact ⟨x, y, by rw [upd_ne h.symm]; exact e, r⟩
theorem kp_put {H : Hp} {p : Addr} {o : HO} : Kp p H (upd H p o) := (Kp.of_same (Same.refl H)).put
theorem four {α : Type} {xs : List α} (h : xs.length = 4) : ∃ a b c d, xs = [a, b, c, d] := by
  match xs, h with
  | [a, b, c, d], _ => exact ⟨a, b, c, d, rfl⟩
def foldI (ms : List M6) (p : Int × Int) : Int × Int := ms.foldl (fun p m => m.img p) p
theorem foldI_take {ms : List M6} {p : Int × Int} {i : Nat} {m : M6} (h : ms[i]? = some m) : foldI (ms.take (i + 1)) p = m.img (foldI (ms.take i) p) := by
  unfold foldI
  have e : ms.take (i + 1) = ms.take i ++ [m] := by rw [List.take_succ, h]; rfl
  rw [e, List.foldl_append]; rfl
theorem foldI_bd {ms : List M6} (h : ∀ m ∈ ms, MBd 100 m) : ∀ {j : Nat} {p : Int × Int}, PBd j p → PBd (j + ms.length * 102) (foldI ms p) := by
  induction ms with
  | nil => intro j p hp; exact hp.mono (by simp)
  | cons m ms ih =>
    intro j p hp
    have h1 := img_bd (h m (by simp)) hp
    have h2 := ih (fun x hx => h x (by simp [hx])) h1
    exact h2.mono (by rw [List.length_cons, Nat.succ_mul]; omega)
theorem then_bd {c : Nat} {ns : List M6} (h : ∀ n ∈ ns, MBd c n) : ∀ {b : Nat} {m : M6}, MBd b m → MBd (b + ns.length * (c + 2)) (thenM m ns) := by
  induction ns with
  | nil => intro b m hm; exact hm.mono (by simp)
  | cons n ns ih =>
    intro b m hm
    have h2 := ih (fun x hx => h x (by simp [hx])) (hm.comp (h n (by simp)))
    exact h2.mono (by rw [List.length_cons, Nat.succ_mul]; omega)
theorem gm_then {H : Hp} {v : V} {us : List V} {m : M6} {ns : List M6} {Q : VK} {E : XK} (hv : GmAt K H v m) (hu : GmAll K H us ns) (om : m.Ok) (bm : MBd 2000 m) (hn : ∀ n ∈ ns, n.Ok ∧ MBd 2000 n) (q : ∀ r H', Same H H' → GmAt K H' r (thenM m ns) → Q r H') (hb : Nat.ble ns.length 3 = true := by rfl) : sp_GridMap_then K (v :: us) H Q E := by
  have hl := Nat.le_of_ble_eq_true hb
  refine ⟨v, us, m, rfl, by rw [hu.1]; omega, hv, .inr ⟨ns, hu, om, fun n h => ⟨(hn n h).1, (hn n h).2.mono (by decide)⟩, fun i hi => ?_, q⟩⟩
  refine (then_bd (c := 2000) (fun n h => (hn n (List.mem_of_mem_take h)).2) bm).mono ?_
  have h1 : (ns.take i).length ≤ 3 := by rw [List.length_take]; omega
  have := Nat.mul_le_mul_right (2000 + 2) h1
  omega
theorem ok1 {i : Nat} {m : M6} (o : m.Ok) (b : MBd i m) (hi : i ≤ 2000 := by decide) : ∀ n ∈ [m], n.Ok ∧ MBd 2000 n := by
  intro n hn
  obtain rfl : n = m := by simpa using hn
  exact ⟨o, b.mono hi⟩
theorem okC {i : Nat} {m : M6} {ns : List M6} (o : m.Ok) (b : MBd i m) (h : ∀ n ∈ ns, n.Ok ∧ MBd 2000 n) (hi : i ≤ 2000 := by decide) : ∀ n ∈ m :: ns, n.Ok ∧ MBd 2000 n := by
  intro n hn
  rcases List.mem_cons.mp hn with rfl | hn
  · exact ⟨o, b.mono hi⟩
  · exact h n hn
theorem ok0 : ∀ n ∈ ([] : List M6), n.Ok ∧ MBd 2000 n := by simp
theorem inv_comp_rev {m n : M6} (h : m.Ok) (k : n.Ok) : (m.comp n).inv = n.inv.comp m.inv := by
  have e1 : (m.comp n).comp (n.inv.comp m.inv) = M6.one := by
    rw [M6.comp_assoc, ← M6.comp_assoc n, M6.comp_inv k, M6.one_comp, M6.comp_inv h]
  have e2 := M6.inv_comp (M6.ok_comp h k)
  have e3 : (m.comp n).inv.comp ((m.comp n).comp (n.inv.comp m.inv)) = n.inv.comp m.inv := by
    rw [← M6.comp_assoc, e2, M6.one_comp]
  rw [← e3, e1, M6.comp_one]
theorem fold_then (m1 m2 m3 m4 : M6) (p : Int × Int) : (thenM m1 [m2, m3, m4]).img p = foldI [m1, m2, m3, m4] p := by
  show (((m1.comp m2).comp m3).comp m4).img p = m4.img (m3.img (m2.img (m1.img p)))
  rw [img_comp, img_comp, img_comp]
theorem sh_pow (k : Int) : ∀ n : Nat, (M6.mk 1 k 0 1 3 0).pow n = ⟨1, k * n, 0, 1, 3 * n, 0⟩
  | 0 => by simp [M6.pow, M6.one]
  | n + 1 => by
    show ((M6.mk 1 k 0 1 3 0).pow n).comp ⟨1, k, 0, 1, 3, 0⟩ = _
    rw [sh_pow k n]
    simp only [M6.comp, M6.mk.injEq]
    refine ⟨by omega, ?_, by omega, by omega, ?_, by omega⟩
    · push_cast; grind
    · push_cast; grind
def rotM : M6 := ⟨0, -1, 1, 0, 0, 0⟩
def torM : M6 := ⟨0, 1, -1, 0, 0, 0⟩
theorem rot_inv : rotM.inv = torM := by decide
theorem per4 {m : M6} (h : m.pow 4 = M6.one) (n : Nat) : m.pow n = m.pow (n % 4) := by
  have e : ∀ k r : Nat, m.pow (4 * k + r) = m.pow r := by
    intro k r
    induction k with
    | zero => rw [Nat.mul_zero, Nat.zero_add]
    | succ k ih => rw [show 4 * (k + 1) + r = 4 + (4 * k + r) by omega, M6.pow_add, h, M6.one_comp, ih]
  have := e (n / 4) (n % 4)
  rwa [Nat.div_add_mod] at this
theorem per_bd {m : M6} (h : m.pow 4 = M6.one) (b : ∀ r, r < 4 → MBd 10 (m.pow r)) (n : Nat) : MBd 40000 (m.pow n) := by
  rw [per4 h]; exact (b _ (Nat.mod_lt _ (by decide))).mono (by decide)
theorem rot4 : rotM.pow 4 = M6.one := by decide
theorem tor4 : torM.pow 4 = M6.one := by decide
theorem rot_bd (n : Nat) : MBd 40000 (rotM.pow n) := per_bd rot4 (by unfold MBd Bd; decide) n
theorem tor_bd (n : Nat) : MBd 40000 (torM.pow n) := per_bd tor4 (by unfold MBd Bd; decide) n
theorem rot_far {d : Int} (h : 0 ≤ d) : powM rotM (0 - d) = powM torM (d % 4) := by
  obtain ⟨k, rfl⟩ : ∃ k : Nat, d = (k : Int) := ⟨d.toNat, by omega⟩
  rw [powM_neg, rot_inv, per4 tor4, show ((k : Int) % 4) = ((k % 4 : Nat) : Int) by omega, powM_nat]
theorem rot_base {e : Int} (j : Nat) : MBd 40000 ((baseM rotM e).pow j) := by
  rcases baseM_neg (m := rotM) (e := e) with z | z <;> rw [z]
  · exact rot_bd j
  · rw [rot_inv]; exact tor_bd j
theorem tor_inv : torM.inv = rotM := by decide
theorem tor_base {e : Int} (j : Nat) : MBd 40000 ((baseM torM e).pow j) := by
  rcases baseM_neg (m := torM) (e := e) with z | z <;> rw [z]
  · exact tor_bd j
  · rw [tor_inv]; exact rot_bd j
theorem sh_bd {k : Int} {d : Int} (hk : -1000 ≤ k ∧ k ≤ 1000) (hd : 0 ≤ d ∧ d < 10 ^ 9) (j : Nat) (hj : j ≤ d.natAbs) : MBd 40000 ((baseM (M6.mk 1 k 0 1 3 0) d).pow j) := by
  have e : baseM (M6.mk 1 k 0 1 3 0) d = M6.mk 1 k 0 1 3 0 := by unfold baseM; rw [if_pos hd.1]
  rw [e, sh_pow]
  have bk : Bd 20 k := bd_lit' (k := 1000) hk (by decide)
  have bj : Bd 40 (j : Int) := bd_lit' (k := 10 ^ 9) (by omega) (by decide)
  have b3 : Bd 20 (3 : Int) := by show 3 < 2 ^ 20; decide
  have b1 : Bd 20 (1 : Int) := by show 1 < 2 ^ 20; decide
  have b0 : Bd 20 (0 : Int) := by show 0 < 2 ^ 20; decide
  exact ⟨b1.mono (by decide), (bk.mul bj).mono (by decide), b0.mono (by decide), b1.mono (by decide), (b3.mul bj).mono (by decide), b0.mono (by decide)⟩
theorem sh_eq {k d : Int} (hd : 0 ≤ d) : powM (M6.mk 1 k 0 1 3 0) d = ⟨1, k * d, 0, 1, 3 * d, 0⟩ := by
  obtain ⟨n, rfl⟩ : ∃ n : Nat, d = (n : Int) := ⟨d.toNat, by omega⟩
  rw [powM_nat, sh_pow]
theorem sh_ok (k : Int) : (M6.mk 1 k 0 1 3 0).Ok := .inl (by show 1 * 1 - k * 0 = 1; omega)
theorem sh_b {k : Int} (hk : -1000 ≤ k ∧ k ≤ 1000) : MBd 20 (M6.mk 1 k 0 1 3 0) := by
  have bk : Bd 20 k := bd_lit' (k := 1000) hk (by decide)
  have b3 : Bd 20 (3 : Int) := by show 3 < 2 ^ 20; decide
  have b1 : Bd 20 (1 : Int) := by show 1 < 2 ^ 20; decide
  have b0 : Bd 20 (0 : Int) := by show 0 < 2 ^ 20; decide
  exact ⟨b1, bk, b0, b1, b3, b0⟩
theorem small_ok {m : M6} {x y : Int} (o : m.Ok) (b : MBd 100 m) : (M6.mk m.a m.b m.c m.d (x % 1000) (y % 1000)).Ok ∧ MBd 100 (M6.mk m.a m.b m.c m.d (x % 1000) (y % 1000)) :=
  ⟨o, b.1, b.2.1, b.2.2.1, b.2.2.2.1, bd_lit' (k := 1000) (by show -1000 ≤ x % 1000 ∧ x % 1000 ≤ 1000; omega) (by decide), bd_lit' (k := 1000) (by show -1000 ≤ y % 1000 ∧ y % 1000 ≤ 1000; omega) (by decide)⟩
theorem ite_f {A B : Prop} (h : B) : if false = true then A else B := h
theorem ite_nt {A B : Prop} (h : B) : if (!true) = true then A else B := h
theorem mk_goodA {H : Hp} {m : M6} {R : Addr → Hp → Prop} {E : XK} (ok : m.Ok) (bd : MBd 100000 m) (q : ∀ x H', Same H H' → GmAt K H' (.ref x) m → R x H') : ∀ x dx, H x = none → H dx = none → dx ≠ x →
    sp_GridMap_init K [V.ref x, .int m.a, .int m.b, .int m.c, .int m.d, .int m.e, .int m.f] (upd (upd H dx (.own x)) x (.ins (He.ga K "GridMap") dx [])) (fun v H2 => v = .non ∧ R x H2) E := by
  intro x dx hx hdx hne
  have s0 : Same H (upd (upd H dx (.own x)) x (.ins (He.ga K "GridMap") dx [])) := by
    refine same_new (same_new (Same.refl H) hdx) ?_
    rw [upd_ne hne.symm]; exact hx
  refine ⟨x, dx, _, _, _, _, _, _, rfl, upd_same, ?_, (fun h => ?_), fun m' em => ?_⟩
  · intro v hv
    simp only [List.mem_cons, List.not_mem_nil, or_false] at hv
    rcases hv with rfl | rfl | rfl | rfl | rfl | rfl <;> exact ⟨_, .int _⟩
  · simp [isI] at h
  · have e : m' = m := by
      simp only [M6.vals, List.cons.injEq, and_true, V.int.injEq] at em
      obtain ⟨h1, h2, h3, h4, h5, h6⟩ := em
      cases m; cases m'
      simp only at *
      subst h1 h2 h3 h4 h5 h6
      rfl
    subst e
    refine ⟨bd, fun _ t H' k h1 h2 => ⟨rfl, ?_⟩, fun h => absurd ok h⟩
    exact q _ _ (same_kp s0 hx k) ⟨x, dx, t, rfl, h1, h2⟩
theorem ok_law (T : Tx K mg) : FnOk P w K mg base CX0 8 (He.ga K "law") (fdOf K (He.ga K "law")) ["_law_script"] (sp_law K) := by
  refine T.d_law.ok sc_law (fun vs H Q E h => ?_) (fun cdv A outer s H vs Q E hr h => ?_)
  · obtain ⟨a, ns, rfl, _⟩ := h
    rfl
  · obtain ⟨a, ns, rfl, hS, hlen, q⟩ := h
    refine ⟨_, PSs.nox (pss_cons (ps_for PassesOwn.never rfl (pi_range1 rfl T.n_range (pa_cons (pe_callB (cMax2 rfl) (by rfl) T.n_max (by decide +kernel) (pa_cons pe_int (pa_cons (pe_callB (cMin2 rfl) (by rfl) T.n_min (by decide +kernel) (pa_cons pe_int (pa_cons (pe_callB (kLen (K := K)) (by rfl) T.n_len (by decide +kernel) (pa_cons (pv 0) pa_nil)) pa_nil))) pa_nil))) pa_nil)) (pg_name (i := 1) sc_law.nd rfl (Or.inl rfl))
      (pss_cons (ps_set (i := 2) sc_law.nd rfl (Or.inr rfl) (pe_call (ok_law_draws T) (hr.mono (by decide)) rfl T.g_law_draws T.d_law_draws.kp (bn_law_draws T) .nil pass0 (pa_cons (pv 0) (pa_cons (pv 1) pa_nil))))
      (pss_cons (ps_setLc (i := 3) (own := [("_law_turn", 15)]) (g := (gName 15)) (tt := tYes) rfl sc_law.nd rfl rfl (sw_true rfl rfl rfl (by decide +kernel)) (pi_range1 rfl T.n_range (pa_cons pe_int pa_nil)) (blkOk_by (own := [("_law_turn", 15)]) (N := ["_law_script", "_law_k", "_law_draws_here", "_law_some", "_law_grids", "_law_point", "_law_image_here", "_law_numbers_here", "_law_one", "_law_two", "_law_three", "_law_four", "_law_identity", "_law_small", "_law_far", "_law_turn"]) (sc := defScope s_law) (by decide +kernel)) (fun _ _ _ _ _ => (pg_name (i := 15) sc_law.nd rfl (Or.inl rfl))) (fun _ _ _ _ _ => pts_nil) (fun _ _ _ _ _ => (pe_call (ok_law_numbers T) (hr.mono (by decide)) rfl T.g_law_numbers T.d_law_numbers.kp (bn_law_numbers T) .nil pass0 (pa_cons (pv 2) pa_nil))))
      (pss_cons (ps_setLc (i := 4) (own := [("_law_numbers_here", 7)]) (g := (gName 7)) (tt := tYes) rfl sc_law.nd rfl rfl (sw_true rfl rfl rfl (by decide +kernel)) (kpiL (K := K) (pv 3)) (blkOk_by (own := [("_law_numbers_here", 7)]) (N := ["_law_script", "_law_k", "_law_draws_here", "_law_some", "_law_grids", "_law_point", "_law_image_here", "_law_numbers_here", "_law_one", "_law_two", "_law_three", "_law_four", "_law_identity", "_law_small", "_law_far", "_law_turn"]) (sc := defScope s_law) (by decide +kernel)) (fun _ _ _ _ _ => (pg_name (i := 7) sc_law.nd rfl (Or.inl rfl))) (fun _ _ _ _ _ => pts_nil) (fun _ _ _ _ _ => (pe_call (ok_law_grid T) (hr.mono (by decide)) rfl T.g_law_grid T.d_law_grid.kp (bn_law_grid T) .nil pass0 (pa_cons (pv 7) pa_nil))))
      (pss_cons (ps_set (i := 5) sc_law.nd rfl (Or.inl rfl) (pe_tup (pa_cons (pe_op op_sub (pe_call (ok_law_draw T) (hr.mono (by decide)) rfl T.g_law_draw T.d_law_draw.kp (bn_law_draw T) .nil pass0 (pa_cons (pv 2) (pa_cons pe_int pa_nil))) pe_int) (pa_cons (pe_op op_sub (pe_call (ok_law_draw T) (hr.mono (by decide)) rfl T.g_law_draw T.d_law_draw.kp (bn_law_draw T) .nil pass0 (pa_cons (pv 2) (pa_cons pe_int pa_nil))) pe_int) pa_nil))))
      (pss_cons (ps_set (i := 6) sc_law.nd rfl (Or.inl rfl) (pv 5))
      (pss_cons (ps_for PassesOwn.never rfl (kpiL (K := K) (pv 3)) (pg_name (i := 7) sc_law.nd rfl (Or.inl rfl))
      (pss_one (ps_set (i := 6) sc_law.nd rfl (Or.inl rfl) (pe_call (ok_law_image T) (hr.mono (by decide)) rfl T.g_law_image T.d_law_image.kp (bn_law_image T) .nil pass0 (pa_cons (pv 7) (pa_cons (pv 6) pa_nil))))))
      (pss_cons (ps_asg (pv 4) (kpgLst (K := K) rfl (pgs_cons (pg_name (i := 8) sc_law.nd rfl (Or.inl rfl)) (pgs_cons (pg_name (i := 9) sc_law.nd rfl (Or.inl rfl)) (pgs_cons (pg_name (i := 10) sc_law.nd rfl (Or.inl rfl)) (pgs_cons (pg_name (i := 11) sc_law.nd rfl (Or.inl rfl)) pgs_nil))))))
      (pss_cons (ps_if (PW.pt (pw_or (pt_cmpR (kNeD (K := K) hr.units) (pe_methA (pe_methA (pv 8) T.y_GridMap.cl T.m_GridMap_then (ok_GridMap_then T) (hr.mono (by decide)) (passAll passL) (pa_cons (pv 9) (pa_cons (pv 10) (pa_cons (pv 11) pa_nil)))) T.y_GridMap.cl T.m_GridMap_apply (FnOk.raw (ok_GridMap_apply T) (bn_GridMap_apply T) .nil) (hr.mono (by decide)) (passAll passL) (pa_cons (pv 5) pa_nil)) (pv 6) (nomark _)) (pw_or1 (pt_cmpR (op_neO (K := K) T.o_GridMap (ok_GridMap_eq T) (hr.mono (by decide)) (bn_GridMap_eq T) pass0) (pe_methA0 (pv 8) T.y_GridMap.cl T.m_GridMap_then (ok_GridMap_then T) (hr.mono (by decide)) (passAll passL)) (pv 8) (nomark _))))) (pss_one (ps_ret pe_bl)) pss_nil)
      (pss_cons (ps_if (pt_cmpR (op_neO (K := K) T.o_GridMap (ok_GridMap_eq T) (hr.mono (by decide)) (bn_GridMap_eq T) pass0) (pe_methA (pe_methA (pv 8) T.y_GridMap.cl T.m_GridMap_then (ok_GridMap_then T) (hr.mono (by decide)) (passAll passL) (pa_cons (pv 9) pa_nil)) T.y_GridMap.cl T.m_GridMap_then (ok_GridMap_then T) (hr.mono (by decide)) (passAll passL) (pa_cons (pv 10) (pa_cons (pv 11) pa_nil))) (pe_methA (pe_methA (pv 8) T.y_GridMap.cl T.m_GridMap_then (ok_GridMap_then T) (hr.mono (by decide)) (passAll passL) (pa_cons (pv 9) (pa_cons (pv 10) pa_nil))) T.y_GridMap.cl T.m_GridMap_then (ok_GridMap_then T) (hr.mono (by decide)) (passAll passL) (pa_cons (pv 11) pa_nil)) (nomark _)) (pss_one (ps_ret pe_bl)) pss_nil)
      (pss_cons (ps_set (i := 12) sc_law.nd rfl (Or.inl rfl) (pe_cmeth0 (C := He.ga K "GridMap") (pe_glob (v := .ref (He.ga K "GridMap")) rfl T.g_GridMap rfl) T.cr_GridMap T.m_GridMap_identity (FnOk.raw (ok_GridMap_identity T) (bn_GridMap_identity T) .nil) (hr.mono (by decide)) pass0))
      (pss_cons (ps_if (PW.pt (pw_or (pt_cmpR (op_neO (K := K) T.o_GridMap (ok_GridMap_eq T) (hr.mono (by decide)) (bn_GridMap_eq T) pass0) (pe_methA (pv 8) T.y_GridMap.cl T.m_GridMap_then (ok_GridMap_then T) (hr.mono (by decide)) (passAll passL) (pa_cons (pe_methA0 (pv 8) T.y_GridMap.cl T.m_GridMap_inverse (FnOk.raw (ok_GridMap_inverse T) (bn_GridMap_inverse T) .nil) (hr.mono (by decide)) (passAll pass0)) pa_nil)) (pv 12) (nomark _)) (pw_or1 (pt_cmpR (op_neO (K := K) T.o_GridMap (ok_GridMap_eq T) (hr.mono (by decide)) (bn_GridMap_eq T) pass0) (pe_methA (pe_methA0 (pv 8) T.y_GridMap.cl T.m_GridMap_inverse (FnOk.raw (ok_GridMap_inverse T) (bn_GridMap_inverse T) .nil) (hr.mono (by decide)) (passAll pass0)) T.y_GridMap.cl T.m_GridMap_then (ok_GridMap_then T) (hr.mono (by decide)) (passAll passL) (pa_cons (pv 8) pa_nil)) (pv 12) (nomark _))))) (pss_one (ps_ret pe_bl)) pss_nil)
      (pss_cons (ps_if (pt_cmpR (op_neO (K := K) T.o_GridMap (ok_GridMap_eq T) (hr.mono (by decide)) (bn_GridMap_eq T) pass0) (pe_methA0 (pe_methA (pv 8) T.y_GridMap.cl T.m_GridMap_then (ok_GridMap_then T) (hr.mono (by decide)) (passAll passL) (pa_cons (pv 9) pa_nil)) T.y_GridMap.cl T.m_GridMap_inverse (FnOk.raw (ok_GridMap_inverse T) (bn_GridMap_inverse T) .nil) (hr.mono (by decide)) (passAll pass0)) (pe_methA (pe_methA0 (pv 9) T.y_GridMap.cl T.m_GridMap_inverse (FnOk.raw (ok_GridMap_inverse T) (bn_GridMap_inverse T) .nil) (hr.mono (by decide)) (passAll pass0)) T.y_GridMap.cl T.m_GridMap_then (ok_GridMap_then T) (hr.mono (by decide)) (passAll passL) (pa_cons (pe_methA0 (pv 8) T.y_GridMap.cl T.m_GridMap_inverse (FnOk.raw (ok_GridMap_inverse T) (bn_GridMap_inverse T) .nil) (hr.mono (by decide)) (passAll pass0)) pa_nil)) (nomark _)) (pss_one (ps_ret pe_bl)) pss_nil)
      (pss_cons (ps_set (i := 13) sc_law.nd rfl (Or.inl rfl) (pe_call (ok_law_grid T) (hr.mono (by decide)) rfl T.g_law_grid T.d_law_grid.kp (bn_law_grid T) .nil pass0 (pa_cons (pe_op (kCatT (K := K)) (pe_slice (kSlT (K := K)) (pe_ix (kIxL (K := K)) (pv 3) pe_int (fun _ _ => rfl)) po_none (po_some pe_int)) (pe_tup (pa_cons (pe_op op_mod (pe_ix (kIxT (K := K)) (pe_ix (kIxL (K := K)) (pv 3) pe_int (fun _ _ => rfl)) pe_int (fun _ _ => rfl)) pe_int) (pa_cons (pe_op op_mod (pe_ix (kIxT (K := K)) (pe_ix (kIxL (K := K)) (pv 3) pe_int (fun _ _ => rfl)) pe_int (fun _ _ => rfl)) pe_int) pa_nil)))) pa_nil)))
      (pss_cons (ps_if (PW.pt (pw_or (pt_not (pt_val (pe_call (ok_law_powers_right T) (hr.mono (by decide)) rfl T.g_law_powers_right T.d_law_powers_right.kp (bn_law_powers_right T) .nil pass0 (pa_cons (pv 13) (pa_cons (pv 5) pa_nil))))) (pw_or1 (pt_not (pt_val (pe_call (ok_law_rejected T) (hr.mono (by decide)) rfl T.g_law_rejected T.d_law_rejected.kp (bn_law_rejected T) .nil pass0 (pa_cons (pv 8) (pa_cons (pe_ix (kIxL (K := K)) (pe_lst (pa_cons pe_non (pa_cons (pe_ix (kIxL (K := K)) (pv 3) pe_int (fun _ _ => rfl)) (pa_cons pe_str pa_nil)))) (pe_call (ok_law_draw T) (hr.mono (by decide)) rfl T.g_law_draw T.d_law_draw.kp (bn_law_draw T) .nil pass0 (pa_cons (pv 2) (pa_cons pe_int pa_nil))) (fun _ _ => rfl)) pa_nil)))))))) (pss_one (ps_ret pe_bl)) pss_nil)
      (pss_cons (ps_if (pt_cmpR (op_neLO mon_GridMap (eqG_ins ((ok_GridMap_eq T).imp imp_GridMap) T.o_GridMap.eq T.o_GridMap.fn (bn_GridMap_eq T) pass0) (hr.mono (by decide))) (pe_lc (own := [("_law_numbers_here", 7)]) (g := (gName 7)) (tt := tYes) rfl sc_law.nd (kpiL (K := K) (pv 3)) (blkOk_by (own := [("_law_numbers_here", 7)]) (N := ["_law_script", "_law_k", "_law_draws_here", "_law_some", "_law_grids", "_law_point", "_law_image_here", "_law_numbers_here", "_law_one", "_law_two", "_law_three", "_law_four", "_law_identity", "_law_small", "_law_far", "_law_turn"]) (sc := defScope s_law) (by decide +kernel)) (fun _ _ _ _ _ => (pg_name (i := 7) sc_law.nd rfl (Or.inl rfl))) (fun _ _ _ _ _ => pts_nil) (fun _ _ _ _ _ => (pe_call (ok_law_grid T) (hr.mono (by decide)) rfl T.g_law_grid T.d_law_grid.kp (bn_law_grid T) .nil pass0 (pa_cons (pv 7) pa_nil)))) (pv 4) (nomark _)) (pss_one (ps_ret pe_bl)) pss_nil)
      (pss_cons (ps_par (i := 14) (j := 1) (by rfl) sc_law.nd rfl rfl (by decide) rfl rfl (pa_cons (pe_call (ok_law_draw T) (hr.mono (by decide)) rfl T.g_law_draw T.d_law_draw.kp (bn_law_draw T) .nil pass0 (pa_cons (pv 2) (pa_cons (pe_op op_pow pe_int pe_int) pa_nil))) (pa_cons (pe_op op_sub (pe_call (ok_law_draw T) (hr.mono (by decide)) rfl T.g_law_draw T.d_law_draw.kp (bn_law_draw T) .nil pass0 (pa_cons (pv 2) (pa_cons pe_int pa_nil))) pe_int) pa_nil)) (by rfl))
      (pss_cons (ps_if (pt_cmpR (kNeD (K := K) hr.units) (pe_prop (pe_methA (pe_makeA T.k_GridMap (FnOk.raw (ok_GridMap_init T) (bd1_GridMap_init T).choose_spec.2 (bd1_GridMap_init T).choose_spec.1) (hr.mono (by decide)) rfl T.g_GridMap (passAll passL) (pa_cons pe_int (pa_cons (pv 1) (pa_cons pe_int (pa_cons pe_int (pa_cons pe_int pa_nil)))))) T.y_GridMap.cl T.m_GridMap_power (FnOk.raw (ok_GridMap_power T) (bn_GridMap_power T) .nil) (hr.mono (by decide)) (passAll passL) (pa_cons (pv 14) pa_nil)) T.y_GridMap.cl T.m_GridMap_numbers (ok_GridMap_numbers T) (hr.mono (by decide)) (bn_GridMap_numbers T) .nil pass0 rfl) (pe_tup (pa_cons pe_int (pa_cons (pe_op op_mulA (pv 1) (pv 14)) (pa_cons pe_int (pa_cons pe_int (pa_cons (pe_op op_mulA pe_int (pv 14)) (pa_cons pe_int pa_nil))))))) (nomark _)) (pss_one (ps_ret pe_bl)) pss_nil)
      (pss_one (ps_if (pt_cmpR (op_neO (K := K) T.o_GridMap (ok_GridMap_eq T) (hr.mono (by decide)) (bn_GridMap_eq T) pass0) (pe_methA (pe_makeA T.k_GridMap (FnOk.raw (ok_GridMap_init T) (bd2_GridMap_init T).choose_spec.2 (bd2_GridMap_init T).choose_spec.1) (hr.mono (by decide)) rfl T.g_GridMap (passAll passL) (pa_cons pe_int (pa_cons (pe_un un_neg pe_int) (pa_cons pe_int (pa_cons pe_int pa_nil))))) T.y_GridMap.cl T.m_GridMap_power (FnOk.raw (ok_GridMap_power T) (bn_GridMap_power T) .nil) (hr.mono (by decide)) (passAll passL) (pa_cons (pe_op op_sub pe_int (pv 14)) pa_nil)) (pe_methA (pe_makeA T.k_GridMap (FnOk.raw (ok_GridMap_init T) (bd2_GridMap_init T).choose_spec.2 (bd2_GridMap_init T).choose_spec.1) (hr.mono (by decide)) rfl T.g_GridMap (passAll passL) (pa_cons pe_int (pa_cons pe_int (pa_cons (pe_un un_neg pe_int) (pa_cons pe_int pa_nil))))) T.y_GridMap.cl T.m_GridMap_power (FnOk.raw (ok_GridMap_power T) (bn_GridMap_power T) .nil) (hr.mono (by decide)) (passAll passL) (pa_cons (pe_op op_mod (pv 14) pe_int) pa_nil)) (nomark _)) (pss_one (ps_ret pe_bl)) pss_nil))))))))))))))))))))
      (pss_one (ps_ret pe_bl))), ?_⟩
    walk_at "gx"
    refine r_lenL hS ?_
    rw [List.length_map]
    walk_at "gx"
    refine loopR1 (by omega) (fun i σ' H' => Same H H' ∧ ∃ o1 o2 o3 o4 o5 o6 o7 o8 o9 o10 o11 o12 o13 o14, σ' = [some (.ref a), o1, o2, o3, o4, o5, o6, o7, o8, o9, o10, o11, o12, o13, o14, none]) ⟨Same.refl _, _, _, _, _, _, _, _, _, _, _, _, _, _, _, rfl⟩ ?_ ?_
    · rintro i σ' H1 hi ⟨S1, o1, o2, o3, o4, o5, o6, o7, o8, o9, o10, o11, o12, o13, o14, rfl⟩
      walk_at "gx"
      refine ⟨a, ns, _, rfl, S1.seq hS, hlen, by omega, by omega, fun l H2 hl0 s2 D2 => ?_⟩
      have hl1 : H l = none := S1.free hl0
      have S2 := S1.trans s2
      walk_at "gx"
      refine compR1 (by decide) (fun D i acc H' => Same H H' ∧ DrAt H' l ∧ ∃ ms : List M6, ms.length = i ∧ Al (SixAt K H') acc ms ∧ ∀ m ∈ ms, m.Ok ∧ MBd 100 m) (fun D hD => ⟨same_new S2 hD, D2.new hD, [], rfl, Al.nil, by simp⟩) ?_ ?_
      · rintro D j acc H3 hD hj ⟨S3, D3, ms, hml, hal, hok⟩ hacc hl
        have ne : D ≠ l := D2.ne hD
        have hDH : H D = none := S2.free hD
        walk_at "gx"
        refine ⟨l, rfl, D3, fun t m H4 k4 D4 ht om bm => ?_⟩
        have hacc4 := k4 _ _ ne hacc
        have e4 : ∃ xs, H4 D = some (.lst xs) := ⟨_, hacc4⟩
        refine cnext hacc4 hl (by omega) ⟨same_kp (same_kp S3 hl1 k4) hDH kp_put, drAt_put D4 ne, ms ++ [m], by simp [hml], Al.snoc (hal.imp fun v m h => (h.kp k4 (drAt_lst D3)).kp kp_put e4) ⟨t, rfl, sqT_kp kp_put e4 ht⟩, ?_⟩
        intro n hn
        rcases List.mem_append.mp hn with hn | hn
        · exact hok n hn
        · obtain rfl : n = m := by simpa using hn
          exact ⟨om, bm⟩
      · rintro aS vS H3 hD ⟨S3, D3, ms, hml, hal, hok⟩ hacc hl
        have hml : ms.length = 4 := hml
        have hl : vS.length = 4 := hl
        walk_at "gx"
        refine compL (xs := vS) (by rw [hl]; decide) (fun D i acc H' => Same H3 H' ∧ Al (GmAt K H') acc (ms.take i)) (SqL.of hacc) (fun D hD => ⟨same_new (Same.refl _) hD, Al.nil⟩) (fun D i acc H' _ p => p.1.seq (SqL.of hacc)) ?_ ?_
        · rintro D j z acc H4 hD4 hz hj ⟨S4, hg⟩ hacc4 hl4
          refine r_gname ⟨rfl, ?_⟩
          obtain ⟨m, hm, hs⟩ := hal.at hz
          obtain ⟨b, rfl, hb⟩ := hs.same S4
          obtain ⟨om, bm⟩ := hok m (List.mem_of_getElem? hm)
          walk_at "gx"
          refine ⟨b, m, rfl, hb, om, bm.mono (by decide), fun v H5 s5 hv => ?_⟩
          have hacc5 := s5 _ _ hacc4
          have e5 : ∃ xs, H5 D = some (.lst xs) := ⟨_, hacc5⟩
          refine cnext hacc5 hl4 (by omega) ⟨same_kp (S4.trans s5) hD4 kp_put, ?_⟩
          rw [List.take_succ, hm]
          exact Al.snoc (hg.imp fun v m h => gmAt_kp (h.same s5) kp_put e5) (gmAt_kp hv kp_put e5)
        · rintro aG vG H4 hD4 ⟨S4, hg⟩ hacc4 hl4
          rw [hl, show ms.take 4 = ms by rw [← hml, List.take_length]] at hg
          have hG : GmAll K H4 vG ms := hg
          have D4 := D3.same S4
          have hacc := S4 _ _ hacc
          have hal := hal.imp fun v m h => h.same S4
          have S4 := S3.trans S4
          rw [hl] at hl4
          clear hg S3 S2 S1 s2 D2 D3 hD hD4
          walk_at "gx"
          refine ⟨l, 2001, rfl, D4, by decide, by decide, fun d1 H5 h10 h11 k5 D5 => ?_⟩
          have neS : aS ≠ l := fun z => by
            subst z
            obtain ⟨x, y, e, _⟩ := D4
            rw [hacc] at e
            injection e with e; injection e with e
            rw [e] at hl; cases hl
          have neG : aG ≠ l := fun z => by
            subst z
            obtain ⟨x, y, e, _⟩ := D4
            rw [hacc4] at e
            injection e with e; injection e with e
            rw [e] at hl4; cases hl4
          have S5 := same_kp S4 hl1 k5
          have cS5 := k5 _ _ neS hacc
          have cG5 := k5 _ _ neG hacc4
          have hal5 := hal.imp fun v m h => h.kp k5 (drAt_lst D4)
          have hG5 : GmAll K H5 vG ms := ⟨hG.1, fun i u n e1 e2 => gmAt_kp (hG.2 i u n e1 e2) k5 (drAt_lst D4)⟩
          walk_at "gx"
          refine ⟨l, 2001, rfl, D5, by decide, by decide, fun d2 H6 h20 h21 k6 D6 => ?_⟩
          have S6 := same_kp S5 hl1 k6
          have cS6 := k6 _ _ neS cS5
          have cG6 := k6 _ _ neG cG5
          have hal6 := hal5.imp fun v m h => h.kp k6 (drAt_lst D5)
          have hG6 : GmAll K H6 vG ms := ⟨hG5.1, fun i u n e1 e2 => gmAt_kp (hG5.2 i u n e1 e2) k6 (drAt_lst D5)⟩
          clear hal hal5 hG hG5 hacc hacc4 cS5 cG5 S4 S5 D4 D5 k5 k6
          walk_at "gx"
          refine r_new fun p7 hp7 => ?_
          generalize e7 : upd H6 p7 _ = H7
          obtain ⟨s7, g7⟩ := fresh hp7 e7
          have S7 := S6.trans s7
          have D7 := D6.same s7
          have cS := s7 _ _ cS6
          have cG := s7 _ _ cG6
          have hal := hal6.imp fun v m h => h.same s7
          have hG := hG6.same s7
          have hp : Hd K H7 (.ref p7) ((d1 - 1000, d2 - 1000) : Int × Int) := hd_pair (SqT.of g7) hd_int hd_int
          have bp : PBd 100 ((d1 - 1000, d2 - 1000) : Int × Int) := ⟨bd_lit' (k := 2000) (by omega) (by decide), bd_lit' (k := 2000) (by omega) (by decide)⟩
          generalize ((d1 - 1000, d2 - 1000) : Int × Int) = p at hp bp
          clear hal6 hG6 S6 D6 cS6 cG6 g7 e7 s7 hp7
          walk_at "gx"
          refine loopL (xs := vS) (fun j σ' H' => Same H7 H' ∧ ∃ x o, σ' = [some (.ref a), some (.int (i : Int)), some (.ref l), some (.ref aS), some (.ref aG), some (.ref p7), some x, o, o8, o9, o10, o11, o12, o13, o14, none] ∧ Hd K H' x (foldI (ms.take j) p)) ⟨Same.refl _, _, _, rfl, hp⟩ (fun j σ' H' _ q => q.1.seq (SqL.of cS)) ?_ ?_
          · rintro j z σ' H8 hz ⟨S8, x, o, rfl, hx⟩
            obtain ⟨m, hm, hs⟩ := hal.at hz
            obtain ⟨b, rfl, hb⟩ := hs.same S8
            obtain ⟨om, bm⟩ := hok m (List.mem_of_getElem? hm)
            walk_at "gx"
            refine ⟨b, x, m, _, rfl, hb, hx, bm.mono (by decide), (foldI_bd (fun n hn => (hok n (List.mem_of_mem_take hn)).2) bp).mono ?_, fun r H9 s9 hr9 => ?_⟩
            · have h1 : (ms.take j).length ≤ 4 := by rw [List.length_take]; omega
              have := Nat.mul_le_mul_right 102 h1
              omega
            walk_at "gx"
            refine ⟨S8.trans s9, _, _, rfl, ?_⟩
            rw [foldI_take hm]; exact hr9
          · rintro σ' H8 ⟨S8, x, o, rfl, hx⟩
            rw [hl, show ms.take 4 = ms by rw [← hml, List.take_length]] at hx
            obtain ⟨m1, m2, m3, m4, rfl⟩ := four hml
            obtain ⟨g1, g2, g3, g4, rfl⟩ := four hl4
            obtain ⟨t1, t2, t3, t4, rfl⟩ := four hl
            have D8 := D7.same S8
            have cS8 := S8 _ _ cS
            have cG8 := S8 _ _ cG
            have hp := hp.same S8
            have G1 := (hG.2 0 g1 m1 rfl rfl).same S8
            have G2 := (hG.2 1 g2 m2 rfl rfl).same S8
            have G3 := (hG.2 2 g3 m3 rfl rfl).same S8
            have G4 := (hG.2 3 g4 m4 rfl rfl).same S8
            have hal := hal.imp fun v m h => h.same S8
            obtain ⟨q1, b1⟩ := hok m1 (by simp)
            obtain ⟨q2, b2⟩ := hok m2 (by simp)
            obtain ⟨q3, b3⟩ := hok m3 (by simp)
            obtain ⟨q4, b4⟩ := hok m4 (by simp)
            have S8 := S7.trans S8
            clear cS cG hG S7 D7
            walk_at "gx"
            refine r_glst (SqL.of cG8) ?_
            walk_at "gx"
            have z0 := G1
            obtain ⟨a1, x1, u1, rfl, ha1, hu1⟩ := z0.of
            have z0 := G2
            obtain ⟨a2, x2, u2, rfl, ha2, hu2⟩ := z0.of
            refine r_recv ha1 rfl ?_
            walk_at "gx"
            refine gm_then G1 (gmAll_cons G2 (gmAll_cons G3 (gmAll_cons G4 gmAll_nil))) q1 (b1.mono (by decide)) (okC q2 b2 (okC q3 b3 (okC q4 b4 ok0))) fun r H9 s9 hr9 => ?_
            have z0 := hr9
            obtain ⟨ra, rd, rt, rfl, hra, hrt⟩ := z0.of
            walk_at "gx"
            refine r_recv hra rfl ?_
            walk_at "gx"
            refine ⟨_, _, _, rfl, hr9, ((((b1.comp b2).comp b3).comp b4).mono (by decide) : MBd 100000 (thenM m1 [m2, m3, m4])), .inr ⟨p, hp.same s9, bp.mono (by decide), fun r10 H10 s10 hr10 => ?_⟩⟩
            walk_at "gx"
            refine r_neH (α := Int × Int) hr10 (hx.same (s9.trans s10)) ?_
            walk_at "gx"
            refine r_ndec (fun h => absurd (fold_then ..) h) (fun _ => ?_)
            have T10 := s9.trans s10
            clear hr9 hr10 hra hrt s9 s10
            walk_at "gx"
            refine r_recv (T10 _ _ ha1) rfl ?_
            walk_at "gx"
            refine gm_then (us := []) (G1.same T10) gmAll_nil q1 (b1.mono (by decide)) ok0 fun r H11 s11 hr11 => ?_
            have T11 := T10.trans s11
            walk_at "gx"
            refine gm_ne T hr11 (G1.same T11) ?_
            walk_at "gx"
            refine r_ndec (fun h => absurd rfl h) (fun _ => ?_)
            clear hr11 s11 T10
            walk_at "gx"
            refine r_recv (T11 _ _ ha1) rfl ?_
            walk_at "gx"
            refine gm_then (G1.same T11) (gmAll_cons (G2.same T11) gmAll_nil) q1 (b1.mono (by decide)) (ok1 q2 b2) fun r H12 s12 hr12 => ?_
            have T12 := T11.trans s12
            have z0 := hr12
            obtain ⟨ra, rd, rt, rfl, hra, hrt⟩ := z0.of
            walk_at "gx"
            refine r_recv hra rfl ?_
            walk_at "gx"
            have b12 : MBd 202 (thenM m1 [m2]) := b1.comp b2
            have q12 : (thenM m1 [m2]).Ok := M6.ok_comp q1 q2
            refine gm_then hr12 (gmAll_cons (G3.same T12) (gmAll_cons (G4.same T12) gmAll_nil)) q12 (b12.mono (by decide)) (okC q3 b3 (ok1 q4 b4)) fun r2 H13 s13 hr13 => ?_
            have T13 := T12.trans s13
            walk_at "gx"
            refine r_recv (T13 _ _ ha1) rfl ?_
            walk_at "gx"
            refine gm_then (G1.same T13) (gmAll_cons (G2.same T13) (gmAll_cons (G3.same T13) gmAll_nil)) q1 (b1.mono (by decide)) (okC q2 b2 (ok1 q3 b3)) fun r3 H14 s14 hr14 => ?_
            have T14 := T13.trans s14
            have z0 := hr14
            obtain ⟨rb, rd, rt, rfl, hrb, hrt⟩ := z0.of
            walk_at "gx"
            refine r_recv hrb rfl ?_
            walk_at "gx"
            refine gm_then hr14 (gmAll_cons (G4.same T14) gmAll_nil) (M6.ok_comp (M6.ok_comp q1 q2) q3) (((b1.comp b2).comp b3).mono (by decide)) (ok1 q4 b4) fun r4 H15 s15 hr15 => ?_
            have T15 := T14.trans s15
            walk_at "gx"
            refine gm_ne T (hr13.same (s14.trans s15)) hr15 ?_
            walk_at "gx"
            refine r_ndec (fun h => absurd rfl h) (fun _ => ?_)
            clear hr12 hr13 hr14 hr15 hra hrb s12 s13 s14 s15 T11 T12 T13 T14
            walk_at "gx"
            refine ⟨rfl, rfl, fun o H16 s16 ho => ?_⟩
            have T16 := T15.trans s16
            walk_at "gx"
            have i1 : MBd 202 m1.inv := b1.inv q1
            have i2 : MBd 202 m2.inv := b2.inv q2
            have k1 := M6.ok_inv q1
            have k2 := M6.ok_inv q2
            refine r_recv (T16 _ _ ha1) rfl ?_
            walk_at "gx"
            refine r_recv (T16 _ _ ha1) rfl ?_
            refine ⟨_, m1, rfl, G1.same T16, q1, b1.mono (by decide), fun r H17 s17 hr17 => ?_⟩
            have T17 := T16.trans s17
            walk_at "gx"
            refine gm_then (G1.same T17) (gmAll_cons hr17 gmAll_nil) q1 (b1.mono (by decide)) (ok1 k1 i1) fun r2 H18 s18 hr18 => ?_
            have T18 := T17.trans s18
            walk_at "gx"
            refine gm_ne T hr18 (ho.same (s17.trans s18)) ?_
            walk_at "gx"
            refine r_ndec (fun h => absurd (M6.comp_inv q1) h) (fun _ => ?_)
            walk_at "gx"
            refine r_recv (T18 _ _ ha1) rfl ?_
            refine ⟨_, m1, rfl, G1.same T18, q1, b1.mono (by decide), fun r3 H19 s19 hr19 => ?_⟩
            have T19 := T18.trans s19
            have z0 := hr19
            obtain ⟨ra, rd, rt, rfl, hra, hrt⟩ := z0.of
            walk_at "gx"
            refine r_recv hra rfl ?_
            walk_at "gx"
            refine gm_then hr19 (gmAll_cons (G1.same T19) gmAll_nil) k1 (i1.mono (by decide)) (ok1 q1 b1) fun r4 H20 s20 hr20 => ?_
            have T20 := T19.trans s20
            walk_at "gx"
            refine gm_ne T hr20 (ho.same (((s17.trans s18).trans s19).trans s20)) ?_
            walk_at "gx"
            refine r_ndec (fun h => absurd (M6.inv_comp q1) h) (fun _ => ?_)
            clear hr17 hr18 hr19 hr20 hra s16 s17 s18 s19 s20 T15 T16 T17 T18 T19 ho
            walk_at "gx"
            refine r_recv (T20 _ _ ha1) rfl ?_
            walk_at "gx"
            refine gm_then (G1.same T20) (gmAll_cons (G2.same T20) gmAll_nil) q1 (b1.mono (by decide)) (ok1 q2 b2) fun r H21 s21 hr21 => ?_
            have T21 := T20.trans s21
            have z0 := hr21
            obtain ⟨rc, rd, rt, rfl, hrc, hrt⟩ := z0.of
            walk_at "gx"
            refine r_recv hrc rfl ?_
            refine ⟨_, _, rfl, hr21, q12, b12.mono (by decide), fun r2 H22 s22 hr22 => ?_⟩
            have T22 := T21.trans s22
            walk_at "gx"
            refine r_recv (T22 _ _ ha2) rfl ?_
            refine ⟨_, m2, rfl, G2.same T22, q2, b2.mono (by decide), fun r3 H23 s23 hr23 => ?_⟩
            have T23 := T22.trans s23
            have z0 := hr23
            obtain ⟨re, rd, rt, rfl, hre, hrt⟩ := z0.of
            walk_at "gx"
            refine r_recv hre rfl ?_
            walk_at "gx"
            refine r_recv (T23 _ _ ha1) rfl ?_
            refine ⟨_, m1, rfl, G1.same T23, q1, b1.mono (by decide), fun r4 H24 s24 hr24 => ?_⟩
            have T24 := T23.trans s24
            walk_at "gx"
            refine gm_then (hr23.same s24) (gmAll_cons hr24 gmAll_nil) k2 (i2.mono (by decide)) (ok1 k1 i1) fun r5 H25 s25 hr25 => ?_
            have T25 := T24.trans s25
            walk_at "gx"
            refine gm_ne T (hr22.same ((s23.trans s24).trans s25)) hr25 ?_
            walk_at "gx"
            refine r_ndec (fun h => absurd (inv_comp_rev q1 q2) h) (fun _ => ?_)
            clear hr21 hr22 hr23 hr24 hr25 hrc hre s21 s22 s23 s24 s25 T20 T21 T22 T23 T24
            have cS25 := T25 _ _ cS8
            have cG25 := T25 _ _ cG8
            have D25 := D8.same T25
            have S25 := S8.trans T25
            have hal := hal.imp fun v m h => h.same T25
            have G1 := G1.same T25
            have G2 := G2.same T25
            have G3 := G3.same T25
            have G4 := G4.same T25
            have hp := hp.same T25
            clear T25 cS8 cG8 D8 S8 hx ha1 ha2 hu1 hu2
            obtain ⟨c1, rfl, hc1⟩ := hal.2 0 t1 m1 rfl rfl
            obtain ⟨c2, rfl, hc2⟩ := hal.2 1 t2 m2 rfl rfl
            walk_at "gx"
            have hc1 : SqT K H25 c1 [.int m1.a, .int m1.b, .int m1.c, .int m1.d, .int m1.e, .int m1.f] := hc1
            refine r_slA hc1 fun p26 H26 s26 hp26 => ?_
            have cS26 := s26 _ _ cS25
            have hc26 := sqT_same s26 hc1
            walk_at "gx"
            refine r_I (by show (0 : Int) < 1000; decide) ?_
            walk_at "gx"
            refine r_I (by show (0 : Int) < 1000; decide) ?_
            walk_at "gx"
            refine r_new fun p27 hp27 => ?_
            generalize e27 : upd H26 p27 _ = H27
            obtain ⟨s27, g27⟩ := fresh hp27 e27
            refine r_catA (sqT_same s27 hp26) (SqT.of g27) (by show 4 + 2 ≤ 1000; decide) fun p28 H28 s28 hp28 => ?_
            have hp28 : SqT K H28 p28 (M6.mk m1.a m1.b m1.c m1.d (m1.e % 1000) (m1.f % 1000)).vals := hp28
            obtain ⟨os, bs⟩ := small_ok (x := m1.e) (y := m1.f) q1 b1
            generalize M6.mk m1.a m1.b m1.c m1.d (m1.e % 1000) (m1.f % 1000) = sm at hp28 os bs
            have T28 := (s26.trans s27).trans s28
            clear hc26 cS26 hp26 g27 e27 s26 s27 s28
            walk_at "gx"
            refine ⟨p28, sm, rfl, hp28, os, bs.mono (by decide), fun vs H29 s29 hsm => ?_⟩
            have T29 := T28.trans s29
            walk_at "gx"
            refine ⟨_, _, sm, p, rfl, hsm, os, bs, hp.same T29, bp, fun H30 s30 => ?_⟩
            have T30 := T29.trans s30
            walk_at "gx"
            have cS30 := T30 _ _ cS25
            have cG30 := T30 _ _ cG25
            have D30 := D25.same T30
            have S30 := S25.trans T30
            have hal := hal.imp fun v m h => h.same T30
            have G1 := G1.same T30
            have G2 := G2.same T30
            have G3 := G3.same T30
            have G4 := G4.same T30
            have hc2 := sqT_same T30 hc2
            clear T28 T29 T30 hsm hp28 s29 s30 cS25 cG25 D25 S25 hp hc1
            refine ite_nt ?_
            walk_at "gx"
            refine r_new fun a31 ha31 => ?_
            generalize e31 : upd H30 a31 _ = H31
            obtain ⟨s31, g31⟩ := fresh ha31 e31
            have ne31 : a31 ≠ l := D30.ne ha31
            have D31 := D30.same s31
            have S31 := S30.trans s31
            have hc2 := sqT_same s31 hc2
            walk_at "gx"
            refine ⟨l, 3, rfl, D31, by decide, by decide, fun d3 H32 h30 h31 k32 D32 => ?_⟩
            have S32 := same_kp S31 hl1 k32
            have g32 := k32 _ _ ne31 g31
            have cS32 := k32 _ _ neS (s31 _ _ cS30)
            have cG32 := k32 _ _ neG (s31 _ _ cG30)
            have L31 := drAt_lst D31
            have hal := hal.imp fun v m h => (h.same s31).kp k32 L31
            have G1 := gmAt_kp (G1.same s31) k32 L31
            have G2 := gmAt_kp (G2.same s31) k32 L31
            have G3 := gmAt_kp (G3.same s31) k32 L31
            have G4 := gmAt_kp (G4.same s31) k32 L31
            have hc2 := sqT_kp k32 L31 hc2
            refine r_pick (SqL.of g32) h30 (by exact h31) fun v hv => ?_
            have hkd : ∃ n, Kd K H32 v n ∧ isI v = false := by
              simp only [List.mem_cons, List.not_mem_nil, or_false] at hv
              rcases hv with rfl | rfl | rfl
              · exact ⟨_, .non, rfl⟩
              · exact ⟨_, .tup hc2, rfl⟩
              · exact ⟨_, .str _, rfl⟩
            obtain ⟨nk, kd, hni⟩ := hkd
            walk_at "gx"
            refine ⟨_, v, m1, nk, rfl, G1, q1, b1.mono (by decide), kd, hni, fun H33 s33 => ?_⟩
            walk_at "gx"
            refine ite_nt ?_
            have cS33 := s33 _ _ cS32
            have cG33 := s33 _ _ cG32
            have D33 := D32.same s33
            have S33 := S32.trans s33
            have hal := hal.imp fun v m h => h.same s33
            have hG : GmAll K H33 [V.ref a1, .ref a2, g3, g4] [m1, m2, m3, m4] := gmAll_cons (G1.same s33) (gmAll_cons (G2.same s33) (gmAll_cons (G3.same s33) (gmAll_cons (G4.same s33) gmAll_nil)))
            clear G1 G2 G3 G4 cS32 cG32 cS30 cG30 D30 D31 D32 S30 S31 S32 g31 g32 e31 s31 s33 k32 kd hc2 hv
            walk_at "gx"
            refine compL (xs := [V.ref c1, .ref c2, t3, t4]) (by show 4 ≤ 100000; decide) (fun D i acc H' => Same H33 H' ∧ Al (GmAt K H') acc ([m1, m2, m3, m4].take i)) (SqL.of cS33) (fun D hD => ⟨same_new (Same.refl _) hD, Al.nil⟩) (fun D i acc H' _ p => p.1.seq (SqL.of cS33)) ?_ ?_
            · rintro D j z acc H4 hD4 hz hj ⟨S4, hg⟩ hacc4 hl4
              refine r_gname ⟨rfl, ?_⟩
              obtain ⟨m, hm, hs⟩ := hal.at hz
              obtain ⟨b, rfl, hb⟩ := hs.same S4
              obtain ⟨om, bm⟩ := hok m (List.mem_of_getElem? hm)
              walk_at "gx"
              refine ⟨b, m, rfl, hb, om, bm.mono (by decide), fun v H5 s5 hv => ?_⟩
              have hacc5 := s5 _ _ hacc4
              have e5 : ∃ xs, H5 D = some (.lst xs) := ⟨_, hacc5⟩
              have hj : j < 4 := hj
              refine cnext hacc5 hl4 (by omega) ⟨same_kp (S4.trans s5) hD4 kp_put, ?_⟩
              rw [List.take_succ, hm]
              exact Al.snoc (hg.imp fun v m h => gmAt_kp (h.same s5) kp_put e5) (gmAt_kp hv kp_put e5)
            · rintro aN vN H34 hD4 ⟨S34, hg⟩ hacc34 hl34
              have hg : Al (GmAt K H34) vN [m1, m2, m3, m4] := hg
              have D34 := D33.same S34
              have S34' := S33.trans S34
              walk_at "gx"
              refine r_neLO hacc34 (S34 _ _ cG33) ⟨by rw [hl34]; rfl, fun i x y ex ey => ?_⟩ fun H35 s35 => ?_
              · obtain ⟨n, en, hx⟩ := hg.at ex
                exact eqv_gm hx ((hG.2 i y n ey en).same S34)
              have S35 := S34'.trans s35
              have D35 := D34.same s35
              clear hg hG hal cS33 cG33 D33 D34 S33 S34 S34' hacc34 s35
              walk_at "gx"
              refine ite_f ?_
              walk_at "gx"
              refine r_I ⟨by decide, by decide, by decide⟩ ?_
              walk_at "gx"
              refine ⟨l, _, rfl, D35, by decide, by decide, fun d4 H36 h40 h41 k36 D36 => ?_⟩
              have h41 : d4 < 10 ^ 9 := h41
              have S36 := same_kp S35 hl1 k36
              walk_at "gx"
              refine ⟨l, 2001, rfl, D36, by decide, by decide, fun d5 H37 h50 h51 k37 D37 => ?_⟩
              have S37 := same_kp S36 hl1 k37
              walk_at "gx"
              have hk : -1000 ≤ d5 - 1000 ∧ d5 - 1000 ≤ 1000 := by omega
              generalize d5 - 1000 = k at hk ⊢
              refine mk_goodA (m := ⟨1, k, 0, 1, 3, 0⟩) (sh_ok k) ((sh_b hk).mono (by decide)) fun ra0 H38 s38 hr38 => ?_
              have z0 := hr38
              obtain ⟨ra, rd, rt, er, hra, hrt⟩ := z0.of
              cases er
              walk_at "gx"
              refine r_recv hra rfl ?_
              walk_at "gx"
              refine ⟨_, _, _, rfl, hr38, sh_ok k, (sh_b hk).mono (by decide), .inr ⟨_, rfl, sh_bd hk ⟨h40, h41⟩, fun r2 H39 s39 hr39 => ?_⟩⟩
              rw [sh_eq h40] at hr39
              have z0 := hr39
              obtain ⟨rb, re, ru, rfl, hrb, hru⟩ := z0.of
              walk_at "gx"
              refine ⟨rb, re, _, rfl, hrb, ?_⟩
              refine ⟨_, _, rfl, hr39, fun t9 ht9 => ?_⟩
              have bk : Bd 20 k := bd_lit' (k := 1000) hk (by decide)
              have bd4 : Bd 40 d4 := bd_lit' (k := 10 ^ 9) (by omega) (by decide)
              have b3 : Bd 20 (3 : Int) := by show 3 < 2 ^ 20; decide
              walk_at "gx"
              refine r_I (bk.ok bd4) ?_
              walk_at "gx"
              refine r_I (b3.ok bd4) ?_
              walk_at "gx"
              refine r_new fun p40 hp40 => ?_
              generalize e40 : upd H39 p40 _ = H40
              obtain ⟨s40, g40⟩ := fresh hp40 e40
              refine r_neH (hd_six (sqT_same s40 ht9)) (hd_six (m := ⟨1, k * d4, 0, 1, 3 * d4, 0⟩) (SqT.of g40)) ?_
              rw [dec_nums]
              walk_at "gx"
              refine r_ndec (fun h => absurd rfl h) (fun _ => ?_)
              have S40 := ((S37.trans s38).trans s39).trans s40
              clear ht9 hr38 hr39 hra hrb g40 e40 s38 s39 s40 S35 S36 S37 D35 D36 D37 k36 k37
              walk_at "gx"
              refine mk_goodA (m := rotM) (.inl (by decide)) ((by unfold MBd Bd; decide : MBd 10 rotM).mono (by decide)) fun ra0 H41 s41 hr41 => ?_
              have z0 := hr41
              obtain ⟨ra, rd, rt, er, hra, hrt⟩ := z0.of
              cases er
              walk_at "gx"
              refine r_recv hra rfl ?_
              walk_at "gx"
              refine ⟨_, _, _, rfl, hr41, .inl (by decide), ((by unfold MBd Bd; decide : MBd 10 rotM).mono (by decide)), .inr ⟨_, rfl, fun j _ => rot_base j, fun r2 H42 s42 hr42 => ?_⟩⟩
              rw [rot_far h40] at hr42
              walk_at "gx"
              refine mk_goodA (m := torM) (.inl (by decide)) ((by unfold MBd Bd; decide : MBd 10 torM).mono (by decide)) fun rc0 H43 s43 hr43 => ?_
              have z0 := hr43
              obtain ⟨rc, rd, rt, er, hrc, hrt⟩ := z0.of
              cases er
              walk_at "gx"
              refine r_recv hrc rfl ?_
              walk_at "gx"
              refine r_I (by show (0 : Int) < 4; decide) ?_
              walk_at "gx"
              refine ⟨_, _, _, rfl, hr43, .inl (by decide), ((by unfold MBd Bd; decide : MBd 10 torM).mono (by decide)), .inr ⟨_, rfl, fun j _ => tor_base j, fun r3 H44 s44 hr44 => ?_⟩⟩
              walk_at "gx"
              refine gm_ne T (hr42.same (s43.trans s44)) hr44 ?_
              walk_at "gx"
              refine r_ndec (fun h => absurd rfl h) (fun _ => ?_)
              walk_at "gx"
              exact ⟨S40.trans (((s41.trans s42).trans s43).trans s44), _, _, _, _, _, _, _, _, _, _, _, _, _, _, rfl⟩
    · rintro σ' H2 ⟨S2, o1, o2, o3, o4, o5, o6, o7, o8, o9, o10, o11, o12, o13, o14, rfl⟩
      walk_at "gx"
      exact q _

end
end G
namespace G
open PySem PySem.Spec PyProof.Rows L2
def dd_is_integer : He5.DefA := ⟨fun K => (He.ga K "is_integer"), "is_integer", "is_integer", defArgs s_is_integer, defBody s_is_integer, defScope s_is_integer, [], []⟩
def dd_check_integer : He5.DefA := ⟨fun K => (He.ga K "check_integer"), "check_integer", "check_integer", defArgs s_check_integer, defBody s_check_integer, defScope s_check_integer, [.non], []⟩
def dd_is_point : He5.DefA := ⟨fun K => (He.ga K "is_point"), "is_point", "is_point", defArgs s_is_point, defBody s_is_point, defScope s_is_point, [], []⟩
def dd_check_point : He5.DefA := ⟨fun K => (He.ga K "check_point"), "check_point", "check_point", defArgs s_check_point, defBody s_check_point, defScope s_check_point, [], []⟩
def dd_GridMap_init : He5.DefA := ⟨fun K => (He.ma K (He.ga K "GridMap") "__init__"), "__init__", "GridMap.__init__", defArgs s_GridMap_init, defBody s_GridMap_init, defScope s_GridMap_init, [(.int 0), (.int 0)], []⟩
def dd_GridMap_eq : He5.DefA := ⟨fun K => (He.ma K (He.ga K "GridMap") "__eq__"), "__eq__", "GridMap.__eq__", defArgs s_GridMap_eq, defBody s_GridMap_eq, defScope s_GridMap_eq, [], []⟩
def dd_GridMap_identity : He5.DefA := ⟨fun K => (He5.wf K (He.ga K "GridMap") "classmethod" "identity"), "identity", "GridMap.identity", defArgs s_GridMap_identity, defBody s_GridMap_identity, defScope s_GridMap_identity, [], []⟩
def dd_GridMap_numbers : He5.DefA := ⟨fun K => (He5.wf K (He.ga K "GridMap") "property" "numbers"), "numbers", "GridMap.numbers", defArgs s_GridMap_numbers, defBody s_GridMap_numbers, defScope s_GridMap_numbers, [], []⟩
def dd_GridMap_determinant : He5.DefA := ⟨fun K => (He5.wf K (He.ga K "GridMap") "property" "determinant"), "determinant", "GridMap.determinant", defArgs s_GridMap_determinant, defBody s_GridMap_determinant, defScope s_GridMap_determinant, [], []⟩
def dd_GridMap_image : He5.DefA := ⟨fun K => (He.ma K (He.ga K "GridMap") "image"), "image", "GridMap.image", defArgs s_GridMap_image, defBody s_GridMap_image, defScope s_GridMap_image, [], []⟩
def dd_GridMap_apply : He5.DefA := ⟨fun K => (He.ma K (He.ga K "GridMap") "apply"), "apply", "GridMap.apply", defArgs s_GridMap_apply, defBody s_GridMap_apply, defScope s_GridMap_apply, [], []⟩
def dd_GridMap_followed_by : He5.DefA := ⟨fun K => (He.ma K (He.ga K "GridMap") "followed_by"), "followed_by", "GridMap.followed_by", defArgs s_GridMap_followed_by, defBody s_GridMap_followed_by, defScope s_GridMap_followed_by, [], []⟩
def dd_check_map : He5.DefA := ⟨fun K => (He.ga K "check_map"), "check_map", "check_map", defArgs s_check_map, defBody s_check_map, defScope s_check_map, [], []⟩
def dd_GridMap_then : He5.DefA := ⟨fun K => (He.ma K (He.ga K "GridMap") "then"), "then", "GridMap.then", defArgs s_GridMap_then, defBody s_GridMap_then, defScope s_GridMap_then, [], []⟩
def dd_GridMap_inverse : He5.DefA := ⟨fun K => (He.ma K (He.ga K "GridMap") "inverse"), "inverse", "GridMap.inverse", defArgs s_GridMap_inverse, defBody s_GridMap_inverse, defScope s_GridMap_inverse, [], []⟩
def dd_GridMap_power : He5.DefA := ⟨fun K => (He.ma K (He.ga K "GridMap") "power"), "power", "GridMap.power", defArgs s_GridMap_power, defBody s_GridMap_power, defScope s_GridMap_power, [], []⟩
def dd_law_draws : He5.DefA := ⟨fun K => (He.ga K "_law_draws"), "_law_draws", "_law_draws", defArgs s_law_draws, defBody s_law_draws, defScope s_law_draws, [], []⟩
def dd_law_draw : He5.DefA := ⟨fun K => (He.ga K "_law_draw"), "_law_draw", "_law_draw", defArgs s_law_draw, defBody s_law_draw, defScope s_law_draw, [], []⟩
def dd_law_product : He5.DefA := ⟨fun K => (He.ga K "_law_product"), "_law_product", "_law_product", defArgs s_law_product, defBody s_law_product, defScope s_law_product, [], []⟩
def dd_law_numbers : He5.DefA := ⟨fun K => (He.ga K "_law_numbers"), "_law_numbers", "_law_numbers", defArgs s_law_numbers, defBody s_law_numbers, defScope s_law_numbers, [], []⟩
def dd_law_image : He5.DefA := ⟨fun K => (He.ga K "_law_image"), "_law_image", "_law_image", defArgs s_law_image, defBody s_law_image, defScope s_law_image, [], []⟩
def dd_law_grid : He5.DefA := ⟨fun K => (He.ga K "_law_grid"), "_law_grid", "_law_grid", defArgs s_law_grid, defBody s_law_grid, defScope s_law_grid, [], []⟩
def dd_law_rejected : He5.DefA := ⟨fun K => (He.ga K "_law_rejected"), "_law_rejected", "_law_rejected", defArgs s_law_rejected, defBody s_law_rejected, defScope s_law_rejected, [], []⟩
def dd_law_powers_right : He5.DefA := ⟨fun K => (He.ga K "_law_powers_right"), "_law_powers_right", "_law_powers_right", defArgs s_law_powers_right, defBody s_law_powers_right, defScope s_law_powers_right, [], []⟩
def dd_law : He5.DefA := ⟨fun K => (He.ga K "law"), "law", "law", defArgs s_law, defBody s_law, defScope s_law, [], []⟩
def fn : List He5.DefA := [dd_is_integer, dd_check_integer, dd_is_point, dd_check_point, dd_GridMap_init, dd_GridMap_eq, dd_GridMap_identity, dd_GridMap_numbers, dd_GridMap_determinant, dd_GridMap_image, dd_GridMap_apply, dd_GridMap_followed_by, dd_check_map, dd_GridMap_then, dd_GridMap_inverse, dd_GridMap_power, dd_law_draws, dd_law_draw, dd_law_product, dd_law_numbers, dd_law_image, dd_law_grid, dd_law_rejected, dd_law_powers_right, dd_law]
def fcs : List (PySem.W.Frag → Bool) := [fun K => (He.Fa.free "isinstance").ok K,
  fun K => (He.Fa.free "int").ok K,
  fun K => (He.Fa.free "bool").ok K,
  fun K => (He.Fa.free "tuple").ok K,
  fun K => (He.Fa.free "all").ok K,
  fun K => (He.Fa.free "len").ok K,
  fun K => (He.Fa.free "abs").ok K,
  fun K => (He.Fa.free "range").ok K,
  fun K => (He.Fa.free "max").ok K,
  fun K => (He.Fa.free "min").ok K,
  fun K => (He.Fa.glo "is_integer").ok K,
  fun K => (He.Fa.glo "check_integer").ok K,
  fun K => (He.Fa.glo "is_point").ok K,
  fun K => (He.Fa.glo "check_point").ok K,
  fun K => (He.Fa.glo "check_map").ok K,
  fun K => (He.Fa.glo "_law_draws").ok K,
  fun K => (He.Fa.glo "_law_draw").ok K,
  fun K => (He.Fa.glo "_law_product").ok K,
  fun K => (He.Fa.glo "_law_numbers").ok K,
  fun K => (He.Fa.glo "_law_image").ok K,
  fun K => (He.Fa.glo "_law_grid").ok K,
  fun K => (He.Fa.glo "_law_rejected").ok K,
  fun K => (He.Fa.glo "_law_powers_right").ok K,
  fun K => (He.Fa.glo "law").ok K,
  fun K => (He.Fa.glo "InvalidInteger").ok K,
  fun K => excFB K (He.ga K "InvalidInteger"),
  fun K => (He.Fa.glo "InvalidMap").ok K,
  fun K => excFB K (He.ga K "InvalidMap"),
  fun K => (He.Fa.glo "InvalidPoint").ok K,
  fun K => excFB K (He.ga K "InvalidPoint"),
  fun K => (He.Fa.exm "InvalidMap" "InvalidMap" true).ok K,
  fun K => (He.Fa.exm "InvalidInteger" "InvalidMap" false).ok K,
  fun K => (He.Fa.exm "InvalidInteger" "InvalidInteger" true).ok K,
  fun K => (He.Fa.glo "GridMap").ok K,
  fun K => insTyB K (He.ga K "GridMap"),
  fun K => mkB K (He.ga K "GridMap") (He.ma K (He.ga K "GridMap") "__init__"),
  fun K => (He.Fa.noat "GridMap" "six").ok K,
  fun K => oEqB K (He.ga K "GridMap") (He.ma K (He.ga K "GridMap") "__eq__"),
  fun K => cmetB K (He.ga K "GridMap") "identity",
  fun K => propB K (He.ga K "GridMap") (He.ga K "GridMap") "numbers",
  fun K => propB K (He.ga K "GridMap") (He.ga K "GridMap") "determinant",
  fun K => methB K (He.ga K "GridMap") (He.ga K "GridMap") "image",
  fun K => methB K (He.ga K "GridMap") (He.ga K "GridMap") "apply",
  fun K => methB K (He.ga K "GridMap") (He.ga K "GridMap") "followed_by",
  fun K => methB K (He.ga K "GridMap") (He.ga K "GridMap") "then",
  fun K => methB K (He.ga K "GridMap") (He.ga K "GridMap") "inverse",
  fun K => methB K (He.ga K "GridMap") (He.ga K "GridMap") "power",
  fun K => creadB K (He.ga K "GridMap"),
  fun K => isiB K (.ref (He.ga K "GridMap")) (.ref (He.ga K "GridMap")) true,
  fun K => kitNoB K (He.ga K "GridMap"),
  fun K => PySem.W.notFirst K (He.ga K "GridMap") (.ref (He.ga K "GridMap")),
  fun K => kitNoB K (He.ga K "GridMap")]
abbrev R : PySem.W.OpenRow := PySem.W.OpenLaw.row PySem.Challenge.rw_latticeshapes_k07_whole_maps_composed
abbrev hk : PySem.W.Hook := hookM 5 fcs fn
def ob (s : PySem.W.SharedT) : He.AlD := obsMG 5 fcs fn (HandSHeadRun.getT s)
theorem ob_eq (s : PySem.W.SharedT) : ob s = hk.obs s.abs := obsMG_eq (HandSHeadRun.getT_eq s)
def loose : List PySem.Str := (["_wall", "ShapeError", "InvalidInteger", "InvalidPoint", "InvalidMap", "is_integer", "check_integer", "is_point", "check_point", "GridMap", "check_map", "_law_draws", "_law_draw", "_law_product", "_law_numbers", "_law_image", "_law_grid", "_law_rejected", "_law_powers_right"] : List PySem.Str)
theorem run (w : World) : HandSHeadRun.RunEq R (PySem.W.view R.prog [24]) hk ob 9000 loose w := by
  intro os
  kernel_rfl
theorem facts {P : Program} {w : World} {K : PySem.W.Frag} {h : Heap} {mg : Str → Option Value} {f : Addr} (X : K.In h) (G : h.Ns mainGlobals mg) (hfa : mg ("law" : Str) = some (.ref f)) (c : SaysM fcs fn K) :
    ∃ fd : FuncData, (∀ (s : Shared) (v : Value), BindsTo s fd ⟨[v], []⟩ [("_law_script", v)]) ∧ ∀ base : Heap, K.In base → base.Ns mainGlobals mg → FnOk P w K mg base CX0 8 f fd ["_law_script"] (sp_law K) := by
  have T : Tx K mg := ⟨(He.free_ok X G (c.fact 0 (f := fun K => (He.Fa.free "isinstance").ok K) rfl)),
    (He.free_ok X G (c.fact 1 (f := fun K => (He.Fa.free "int").ok K) rfl)),
    (He.free_ok X G (c.fact 2 (f := fun K => (He.Fa.free "bool").ok K) rfl)),
    (He.free_ok X G (c.fact 3 (f := fun K => (He.Fa.free "tuple").ok K) rfl)),
    (He.free_ok X G (c.fact 4 (f := fun K => (He.Fa.free "all").ok K) rfl)),
    (He.free_ok X G (c.fact 5 (f := fun K => (He.Fa.free "len").ok K) rfl)),
    (He.free_ok X G (c.fact 6 (f := fun K => (He.Fa.free "abs").ok K) rfl)),
    (He.free_ok X G (c.fact 7 (f := fun K => (He.Fa.free "range").ok K) rfl)),
    (He.free_ok X G (c.fact 8 (f := fun K => (He.Fa.free "max").ok K) rfl)),
    (He.free_ok X G (c.fact 9 (f := fun K => (He.Fa.free "min").ok K) rfl)),
    (He.glo_ok X G (c.fact 10 (f := fun K => (He.Fa.glo "is_integer").ok K) rfl)),
    (He.glo_ok X G (c.fact 11 (f := fun K => (He.Fa.glo "check_integer").ok K) rfl)),
    (He.glo_ok X G (c.fact 12 (f := fun K => (He.Fa.glo "is_point").ok K) rfl)),
    (He.glo_ok X G (c.fact 13 (f := fun K => (He.Fa.glo "check_point").ok K) rfl)),
    (He.glo_ok X G (c.fact 14 (f := fun K => (He.Fa.glo "check_map").ok K) rfl)),
    (He.glo_ok X G (c.fact 15 (f := fun K => (He.Fa.glo "_law_draws").ok K) rfl)),
    (He.glo_ok X G (c.fact 16 (f := fun K => (He.Fa.glo "_law_draw").ok K) rfl)),
    (He.glo_ok X G (c.fact 17 (f := fun K => (He.Fa.glo "_law_product").ok K) rfl)),
    (He.glo_ok X G (c.fact 18 (f := fun K => (He.Fa.glo "_law_numbers").ok K) rfl)),
    (He.glo_ok X G (c.fact 19 (f := fun K => (He.Fa.glo "_law_image").ok K) rfl)),
    (He.glo_ok X G (c.fact 20 (f := fun K => (He.Fa.glo "_law_grid").ok K) rfl)),
    (He.glo_ok X G (c.fact 21 (f := fun K => (He.Fa.glo "_law_rejected").ok K) rfl)),
    (He.glo_ok X G (c.fact 22 (f := fun K => (He.Fa.glo "_law_powers_right").ok K) rfl)),
    (He.glo_ok X G (c.fact 23 (f := fun K => (He.Fa.glo "law").ok K) rfl)),
    (He.glo_ok X G (c.fact 24 (f := fun K => (He.Fa.glo "InvalidInteger").ok K) rfl)),
    (excF_ok (c.fact 25 (f := fun K => excFB K (He.ga K "InvalidInteger")) rfl)),
    (He.glo_ok X G (c.fact 26 (f := fun K => (He.Fa.glo "InvalidMap").ok K) rfl)),
    (excF_ok (c.fact 27 (f := fun K => excFB K (He.ga K "InvalidMap")) rfl)),
    (He.glo_ok X G (c.fact 28 (f := fun K => (He.Fa.glo "InvalidPoint").ok K) rfl)),
    (excF_ok (c.fact 29 (f := fun K => excFB K (He.ga K "InvalidPoint")) rfl)),
    (He.exm_ok (c.fact 30 (f := fun K => (He.Fa.exm "InvalidMap" "InvalidMap" true).ok K) rfl)),
    (He.exm_ok (c.fact 31 (f := fun K => (He.Fa.exm "InvalidInteger" "InvalidMap" false).ok K) rfl)),
    (He.exm_ok (c.fact 32 (f := fun K => (He.Fa.exm "InvalidInteger" "InvalidInteger" true).ok K) rfl)),
    (He.glo_ok X G (c.fact 33 (f := fun K => (He.Fa.glo "GridMap").ok K) rfl)),
    (insTyB_ok (c.fact 34 (f := fun K => insTyB K (He.ga K "GridMap")) rfl)),
    (mkB_ok (c.fact 35 (f := fun K => mkB K (He.ga K "GridMap") (He.ma K (He.ga K "GridMap") "__init__")) rfl)),
    (He.noat_ok (c.fact 36 (f := fun K => (He.Fa.noat "GridMap" "six").ok K) rfl)),
    (oEqB_ok (c.fact 37 (f := fun K => oEqB K (He.ga K "GridMap") (He.ma K (He.ga K "GridMap") "__eq__")) rfl)),
    (cmetB_ok (c.fact 38 (f := fun K => cmetB K (He.ga K "GridMap") "identity") rfl)),
    (propB_ok (c.fact 39 (f := fun K => propB K (He.ga K "GridMap") (He.ga K "GridMap") "numbers") rfl)),
    (propB_ok (c.fact 40 (f := fun K => propB K (He.ga K "GridMap") (He.ga K "GridMap") "determinant") rfl)),
    (methB_ok (c.fact 41 (f := fun K => methB K (He.ga K "GridMap") (He.ga K "GridMap") "image") rfl)),
    (methB_ok (c.fact 42 (f := fun K => methB K (He.ga K "GridMap") (He.ga K "GridMap") "apply") rfl)),
    (methB_ok (c.fact 43 (f := fun K => methB K (He.ga K "GridMap") (He.ga K "GridMap") "followed_by") rfl)),
    (methB_ok (c.fact 44 (f := fun K => methB K (He.ga K "GridMap") (He.ga K "GridMap") "then") rfl)),
    (methB_ok (c.fact 45 (f := fun K => methB K (He.ga K "GridMap") (He.ga K "GridMap") "inverse") rfl)),
    (methB_ok (c.fact 46 (f := fun K => methB K (He.ga K "GridMap") (He.ga K "GridMap") "power") rfl)),
    (creadB_ok (c.fact 47 (f := fun K => creadB K (He.ga K "GridMap")) rfl)),
    (isiB_ok (c.fact 48 (f := fun K => isiB K (.ref (He.ga K "GridMap")) (.ref (He.ga K "GridMap")) true) rfl)),
    (kitNoB_ok (c.fact 49 (f := fun K => kitNoB K (He.ga K "GridMap")) rfl)),
    ((c.fact 50 (f := fun K => PySem.W.notFirst K (He.ga K "GridMap") (.ref (He.ga K "GridMap"))) rfl)),
    (kitNoB_nf (c.fact 51 (f := fun K => kitNoB K (He.ga K "GridMap")) rfl)),
    (defAt (c.def_ 0 (d := dd_is_integer) rfl)),
    (defAt (c.def_ 1 (d := dd_check_integer) rfl)),
    (defAt (c.def_ 2 (d := dd_is_point) rfl)),
    (defAt (c.def_ 3 (d := dd_check_point) rfl)),
    (defAt (c.def_ 4 (d := dd_GridMap_init) rfl)),
    (defAt (c.def_ 5 (d := dd_GridMap_eq) rfl)),
    (defAt (c.def_ 6 (d := dd_GridMap_identity) rfl)),
    (defAt (c.def_ 7 (d := dd_GridMap_numbers) rfl)),
    (defAt (c.def_ 8 (d := dd_GridMap_determinant) rfl)),
    (defAt (c.def_ 9 (d := dd_GridMap_image) rfl)),
    (defAt (c.def_ 10 (d := dd_GridMap_apply) rfl)),
    (defAt (c.def_ 11 (d := dd_GridMap_followed_by) rfl)),
    (defAt (c.def_ 12 (d := dd_check_map) rfl)),
    (defAt (c.def_ 13 (d := dd_GridMap_then) rfl)),
    (defAt (c.def_ 14 (d := dd_GridMap_inverse) rfl)),
    (defAt (c.def_ 15 (d := dd_GridMap_power) rfl)),
    (defAt (c.def_ 16 (d := dd_law_draws) rfl)),
    (defAt (c.def_ 17 (d := dd_law_draw) rfl)),
    (defAt (c.def_ 18 (d := dd_law_product) rfl)),
    (defAt (c.def_ 19 (d := dd_law_numbers) rfl)),
    (defAt (c.def_ 20 (d := dd_law_image) rfl)),
    (defAt (c.def_ 21 (d := dd_law_grid) rfl)),
    (defAt (c.def_ 22 (d := dd_law_rejected) rfl)),
    (defAt (c.def_ 23 (d := dd_law_powers_right) rfl)),
    (defAt (c.def_ 24 (d := dd_law) rfl))⟩
  have e := hfa.symm.trans T.g_law
  cases e
  have b := FunD.bindsA (ps := ["_law_script"]) T.d_law fun _ _ _ _ _ _ us hl => match us, hl with | [_], _ => rfl
  exact ⟨_, fun s v => b s [v] rfl, fun base _ _ => ok_law T⟩
end G
open PySem PySem.W PySem.Calls PyProof.Rows
theorem PySem.Challenge.cw_latticeshapes_k07_whole_maps_composed_holds : PySem.Challenge.rw_latticeshapes_k07_whole_maps_composed.Holds := by
  w_on; o_law
  refine HandSHeadRun.head_any (r := OpenLaw.row PySem.Challenge.rw_latticeshapes_k07_whole_maps_composed) (q := view (OpenLaw.row PySem.Challenge.rw_latticeshapes_k07_whole_maps_composed).prog [24]) (H := G.hk) (ob := G.ob) (M := 9000) (loose := G.loose) (d := HandSHeadRun.topDef (OpenLaw.row PySem.Challenge.rw_latticeshapes_k07_whole_maps_composed).prog 24) (kwd := []) G.ob_eq
    (by kernel_rfl) (fun s => by kernel_rfl) G.run (by kernel_rfl) (by kernel_rfl) (by kernel_rfl) (by rfl) (by first | assumption | decide +kernel) (by decide +kernel) ⟨rfl, rfl, rfl, rfl, rfl, by decide +kernel⟩ ?hw ?hc
  case hw => w_witness2
  case hc =>
    refine L2.walk_ofE (l := PySem.Challenge.rw_latticeshapes_k07_whole_maps_composed) (n := 63) (k := 8) (x := "_law_script") (CX := L2.CX0) rfl (by decide) (by kernel_rfl) ⟨rfl, by decide, by decide⟩ ?F (fun _ _ _ _ z => z)
    intro w mg fa h Y Gn hmg0
    obtain ⟨K, KX, c⟩ := Y
    have hmg : mg ("law" : PySem.Str) = some (.ref fa) := by
      have e : (HandSHeadRun.topDef (OpenLaw.row PySem.Challenge.rw_latticeshapes_k07_whole_maps_composed).prog 24).name = ("law" : PySem.Str) := by kernel_rfl
      rw [← e]
      exact hmg0
    obtain ⟨fd, hb, hF⟩ := G.facts (P := (PySem.Challenge.rw_latticeshapes_k07_whole_maps_composed).prog) (w := w) KX Gn hmg c
    exact ⟨K, fd, G.sp_law K, KX, hb, fun H a ns hl _ hS => ⟨a, ns, rfl, hS, hl, fun _ => rfl⟩, hF⟩
