import PyProof.Rows.All
import Wide.All
import OpenK.AllK
import Wide.FinOn
import KE.KStateDown
import HandS.ForMost
import HandS.ForExc
import HandS.Wide
import HandS.IsInst
import HandS.Star
import HandS.Style
import HandS.Flow
import HandS.Defaults
import HandS.Head0
import HandS.Head1
import HandS.Head2
import HandS.HeadEnd
import HandS.HeadHook1
import HandS.HeadHook2
import HandS.HeadHook3
import HandS.CallSlots
import HandS.TupAny
import HandS.Steps
import KE.Datum
import HandS.Evl
import HandS.TupLe
import HandS.TryMany
import PySem.Challenge.RW_latticeshapes_k05_points_and_directions
set_option Elab.async false
set_option linter.all false
set_option maxRecDepth 100000
set_option maxHeartbeats 1000000
/-! ### readings, one constructor a lemma: the symbolic walk's own steps -/
namespace G
open PySem PySem.Spec PyProof.Rows L2
section
variable {K : PySem.W.Frag} {σ : L2.St} {H : Hp} {ta tb te : TE} {Q : VK} {D : Ends} {i : Nat} {v x y : V} {b : Bool}
theorem r_var (h : σ[i]? = some (some v)) (q : Q v H) : tVar i σ H Q := ⟨v, h, q⟩
theorem r_c (q : Q v H) : tC v σ H Q := q
theorem r_op {r : R2} (q : ta σ H fun x H1 => tb σ H1 fun y H2 => r x y H2 Q) : tOp r ta tb σ H Q := q
theorem r_un {r : V → Hp → VK → Prop} (q : ta σ H fun x H1 => r x H1 Q) : tUn r ta σ H Q := q
theorem r_U {g : Int → V} {n : Int} (q : Q (g n) H) : rU g (.int n) H Q := ⟨n, rfl, q⟩
theorem r_I0 {g : Int → Int → V} {n m : Int} (q : Q (g n m) H) : rI0 g (.int n) (.int m) H Q := ⟨n, m, rfl, rfl, q⟩
theorem r_I {C : Int → Int → Prop} {g : Int → Int → V} {n m : Int} (hc : C n m) (q : Q (g n m) H) : rI C g (.int n) (.int m) H Q := ⟨n, m, rfl, rfl, hc, q⟩
theorem r_eq (h : scal x y = true) (q : Q (.bl (decide (x = y))) H) : rEq x y H Q := ⟨h, q⟩
theorem r_ne (h : scal x y = true) (q : Q (.bl (!decide (x = y))) H) : rNe x y H Q := ⟨h, q⟩
theorem r_ixL {p : Addr} {xs : List V} {n : Int} (h : SqL K H p xs) (e : atI xs n = some v) (q : Q v H) : rIxL K (.ref p) (.int n) H Q := ⟨p, xs, n, v, rfl, rfl, h, e, q⟩
theorem r_ixT {p : Addr} {xs : List V} {n : Int} (h : SqT K H p xs) (e : atI xs n = some v) (q : Q v H) : rIxT K (.ref p) (.int n) H Q := ⟨p, xs, n, v, rfl, rfl, h, e, q⟩
theorem r_seq {t u : TS} (q : t { D with nx := u D } σ H) : tSeq t u D σ H := q
theorem r_next (q : D.nx σ H) : tNext D σ H := q
theorem r_asg {g : TG} (q : te σ H fun x H1 => g x σ H1 D.nx) : tAsg te g D σ H := q
theorem r_gname {R : L2.St → Hp → Prop} (q : R (σ.set i (some v)) H) : gName i v σ H R := q
theorem r_drop (q : te σ H fun _ H1 => D.nx σ H1) : tDrop te D σ H := q
theorem r_ret (q : te σ H D.rt) : tRet te D σ H := q
theorem r_ifs {c : TT} {t u : TS} (q : c σ H fun b H1 => if b = true then t D σ H1 else u D σ H1) : tIfS c t u D σ H := q
theorem r_test {R : Bool → Hp → Prop} (q : te σ H fun x H' => ∃ k, x = .bl k ∧ R k H') : tTest te σ H R := q
theorem r_tB {R : Bool → Hp → Prop} (q : te σ H fun x H' => ∃ k, x = .bl k ∧ R k H') : tB te σ H R := q
theorem r_bl {R : Bool → Prop} (q : R b) : ∃ k, V.bl b = .bl k ∧ R k := ⟨b, rfl, q⟩
theorem r_nil {R : List V → Hp → Prop} (q : R [] H) : tNil σ H R := q
theorem r_cons {tr : TA} {R : List V → Hp → Prop} (q : ta σ H fun x H1 => tr σ H1 fun xs H2 => R (x :: xs) H2) : tCons ta tr σ H R := q
theorem r_cb {r : List V → Hp → VK → Prop} {t : TA} (q : t σ H fun vs H1 => r vs H1 Q) : tCB r t σ H Q := q
theorem r_lst {t : TA} (q : t σ H fun xs H1 => xs.length ≤ sizeLine ∧ ∀ p, H1 p = none → Q (.ref p) (upd H1 p (.lst xs))) : tLst t σ H Q := q
theorem r_tup {t : TA} (q : t σ H fun xs H1 => xs.length ≤ sizeLine ∧ ∀ p, H1 p = none → Q (.ref p) (upd H1 p (.tup xs))) : tTup t σ H Q := q
theorem r_call {sp : Sp} {dvs : List V} {E : XK} {t : TA} (q : t σ H fun vs H1 => sp (vs ++ dvs) H1 Q E) : tCall sp dvs E t σ H Q := q
theorem r_callS {sp : Sp} {E : L2.St → XK} {t : TA} (q : t σ H fun vs H1 => sp vs H1 Q (E σ)) : tCallS sp E t σ H Q := q
theorem r_and {t u : TT} {R : Bool → Hp → Prop} (q : t σ H fun c H1 => if c = true then u σ H1 R else R false H1) : tAnd t u σ H R := q
theorem r_or {t u : TT} {R : Bool → Hp → Prop} (q : t σ H fun c H1 => if c = true then R true H1 else u σ H1 R) : tOr t u σ H R := q
theorem r_not {t : TT} {R : Bool → Hp → Prop} (q : t σ H fun c H1 => R (!c) H1) : tNot t σ H R := q
theorem r_andV (q : ta σ H fun x H1 => ∃ c, x = .bl c ∧ if c = true then tb σ H1 Q else Q (.bl false) H1) : tAndV ta tb σ H Q := q
theorem r_orV (q : ta σ H fun x H1 => ∃ c, x = .bl c ∧ if c = true then Q (.bl true) H1 else tb σ H1 Q) : tOrV ta tb σ H Q := q
theorem r_notV (q : ta σ H fun x H1 => ∃ c, x = .bl c ∧ Q (.bl (!c)) H1) : tNotV ta σ H Q := q
theorem r_if {t : TT} (q : t σ H fun c H1 => if c = true then ta σ H1 Q else tb σ H1 Q) : tIf t ta tb σ H Q := q
theorem r_sub {to ti : TE} {t : TSet} {R : L2.St → Hp → Prop} (q : to σ H fun o H1 => ti σ H1 fun i H2 => t o i v H2 fun H3 => R σ H3) : gSub to ti t v σ H R := q
theorem r_setL {p : Addr} {xs : List V} {n : Int} {j : Nat} {R : Hp → Prop} (h : H p = some (.lst xs)) (e : ixN xs.length n = some j) (q : R (upd H p (.lst (xs.set j v)))) : rSetL (.ref p) (.int n) v H R := ⟨p, xs, n, j, rfl, rfl, h, e, q⟩
theorem r_dec {p : Prop} [Decidable p] {A B : Prop} (h1 : p → A) (h2 : ¬ p → B) : if decide p = true then A else B := by
  by_cases h : p
  · rw [decide_eq_true h]; exact iteT (h1 h)
  · rw [decide_eq_false h]; exact iteF (h2 h)
theorem r_ndec {p : Prop} [Decidable p] {A B : Prop} (h1 : ¬ p → A) (h2 : p → B) : if (!decide p) = true then A else B := by
  by_cases h : p
  · rw [decide_eq_true h]; exact iteF (h2 h)
  · rw [decide_eq_false h]; exact iteT (h1 h)
theorem r_b {A B : Prop} (h1 : b = true → A) (h2 : b = false → B) : if b = true then A else B := by
  cases b with
  | true => exact iteT (h1 rfl)
  | false => exact iteF (h2 rfl)
theorem dec_int (n m : Int) : decide (V.int n = V.int m) = decide (n = m) := by
  by_cases h : n = m
  · subst h; simp
  · rw [decide_eq_false h, decide_eq_false (fun z => h (V.int.inj z))]
theorem r_eqI {n m : Int} (q : Q (.bl (decide (n = m))) H) : rEq (.int n) (.int m) H Q := ⟨rfl, by rw [dec_int]; exact q⟩
theorem r_neI {n m : Int} (q : Q (.bl (!decide (n = m))) H) : rNe (.int n) (.int m) H Q := ⟨rfl, by rw [dec_int]; exact q⟩
end
end G


namespace G
open PySem PySem.Spec PyProof.Rows L2
/-! ### numbers -/
theorem op_mulA {X : Cx} : OpR X (binaryOp .Mult) (rI IntMulOk fun i j => .int (i * j)) := opI fun _ _ _ _ _ _ _ hc q => mul_int q hc
/-- fewer than n bits -/
def Bd (n : Nat) (i : Int) : Prop := i.natAbs < 2 ^ n
theorem Bd.mono {n m : Nat} {i : Int} (h : Bd n i) (l : n ≤ m) : Bd m i := Nat.lt_of_lt_of_le h (Nat.pow_le_pow_right (by decide) l)
theorem Bd.mul {n m : Nat} {i j : Int} (h : Bd n i) (k : Bd m j) : Bd (n + m) (i * j) := wide_lt h k
theorem Bd.add {n : Nat} {i j : Int} (h : Bd n i) (k : Bd n j) : Bd (n + 1) (i + j) := by
  have h1 : i.natAbs < 2 ^ n := h
  have k1 : j.natAbs < 2 ^ n := k
  show (i + j).natAbs < 2 ^ (n + 1)
  have e : 2 ^ (n + 1) = 2 ^ n + 2 ^ n := by rw [Nat.pow_succ]; omega
  omega
theorem Bd.neg {n : Nat} {i : Int} (h : Bd n i) : Bd n (-i) := by
  show (-i).natAbs < 2 ^ n
  rw [Int.natAbs_neg]; exact h
theorem Bd.sub {n : Nat} {i j : Int} (h : Bd n i) (k : Bd n j) : Bd (n + 1) (i - j) := by
  have e : i - j = i + -j := by omega
  rw [e]; exact h.add k.neg
theorem Bd.ok {n m : Nat} {i j : Int} (h : Bd n i) (k : Bd m j) (l : n + m < 900000 := by decide) : IntMulOk i j :=
  CMulW.ok (wide_mul (a := n + 1) (b := m + 1) (h.mono (Nat.le_succ n)) (k.mono (Nat.le_succ m)) (Nat.succ_pos _) (Nat.succ_pos _) (by omega))
theorem mul_okL {i j : Int} (h1 : -(2 ^ 64) < i) (h2 : i < 2 ^ 64) : IntMulOk i j := CMul.ok (.inl ⟨h1, h2⟩)
theorem mul_okR {i j : Int} (h1 : -(2 ^ 64) < j) (h2 : j < 2 ^ 64) : IntMulOk i j := CMul.ok (.inr ⟨h1, h2⟩)
/-! ### heaps: all but the object at l stands -/
def Kp (l : Addr) (H H' : Hp) : Prop := ∀ b o, b ≠ l → H b = some o → H' b = some o
theorem Kp.refl (l : Addr) (H : Hp) : Kp l H H := fun _ _ _ h => h
theorem Kp.trans {l : Addr} {H H1 H2 : Hp} (a : Kp l H H1) (b : Kp l H1 H2) : Kp l H H2 := fun c o n h => b c o n (a c o n h)
theorem Kp.same {l : Addr} {H H1 H2 : Hp} (a : Kp l H H1) (b : Same H1 H2) : Kp l H H2 := fun c o n h => b c o (a c o n h)
theorem Kp.of_same {l : Addr} {H H1 : Hp} (b : Same H H1) : Kp l H H1 := fun c o _ h => b c o h
theorem Kp.new {l p : Addr} {H H1 : Hp} {o : HO} (a : Kp l H H1) (h : H1 p = none) : Kp l H (upd H1 p o) := fun c u n e => by
  have z := a c u n e
  rw [upd_ne (ne_of_none z h)]; exact z
theorem Kp.put {l : Addr} {H H1 : Hp} {o : HO} (a : Kp l H H1) : Kp l H (upd H1 l o) := fun c u n e => by rw [upd_ne n]; exact a c u n e
theorem same_new {p : Addr} {H H1 : Hp} {o : HO} (a : Same H H1) (h : H1 p = none) : Same H (upd H1 p o) := fun c u e => by
  have z := a c u e
  rw [upd_ne (ne_of_none z h)]; exact z
theorem fresh {H : Hp} {p : Addr} {o : HO} {H1 : Hp} (h : H p = none) (e : upd H p o = H1) : Same H H1 ∧ H1 p = some o := by
  subst e; exact ⟨same_new (Same.refl H) h, upd_same⟩
theorem Kp.seq {K : PySem.W.Frag} {l a : Addr} {H H' : Hp} {xs : List V} (e : Kp l H H') (n : a ≠ l) (h : SqL K H a xs) : SqL K H' a xs := by
  rcases h with (h | ⟨o, h⟩) | h
  · exact .inl (.inl (e _ _ n h))
  · exact .inl (.inr ⟨o, e _ _ n h⟩)
  · exact .inr h
theorem same_kp {l : Addr} {H H1 H2 : Hp} (s : Same H H1) (hl : H l = none) (k : Kp l H1 H2) : Same H H2 := fun c o e => k c o (ne_of_none e hl) (s c o e)
/-! ### kinds of values -/
inductive Kd (K : PySem.W.Frag) (H : Hp) : V → String → Prop where
  | non : Kd K H .non "NoneType"
  | bl (x : Bool) : Kd K H (.bl x) "bool"
  | int (i : Int) : Kd K H (.int i) "int"
  | str (x : Str) : Kd K H (.str x) "str"
  | lst {a : Addr} {xs : List V} (e : SqL K H a xs) : Kd K H (.ref a) "list"
  | tup {a : Addr} {xs : List V} (e : SqT K H a xs) : Kd K H (.ref a) "tuple"
  | dK {a : Addr} {kvs : List (Key × V)} (e : H a = some (.dK kvs)) : Kd K H (.ref a) "dict"
theorem Kd.ty {K : PySem.W.Frag} {H : Hp} {v : V} {n : String} (k : Kd K H v n) : TyX K H v (.type n) := by
  cases k with
  | non => exact .base .non
  | bl x => exact .base (.bl x)
  | int i => exact .base (.int i)
  | str x => exact .base (.str x)
  | lst e =>
    rcases e with (e | ⟨o, e⟩) | ⟨o, its, n, e, c, _⟩
    · exact .base (.lst e)
    · exact .base (.frz e)
    · exact .kList e c
  | tup e =>
    rcases e with (e | ⟨o, e⟩) | ⟨o, its, n, e, c, _⟩
    · exact .base (.tup e)
    · exact .fTuple e
    · exact .kTuple e c
  | dK e => exact .base (.dK e)
theorem sqT_same {K : PySem.W.Frag} {H H' : Hp} {a : Addr} {xs : List V} (s : Same H H') (h : SqT K H a xs) : SqT K H' a xs := by
  rcases h with (h | ⟨o, h⟩) | h
  · exact .inl (.inl (s _ _ h))
  · exact .inl (.inr ⟨o, s _ _ h⟩)
  · exact .inr h
theorem Kd.same {K : PySem.W.Frag} {H H' : Hp} {v : V} {n : String} (k : Kd K H v n) (s : Same H H') : Kd K H' v n := by
  cases k with
  | non => exact .non
  | bl x => exact .bl x
  | int i => exact .int i
  | str x => exact .str x
  | lst e => exact .lst (s.seq e)
  | tup e => exact .tup (sqT_same s e)
  | dK e => exact .dK (s _ _ e)
def isI : V → Bool
  | .int _ => true
  | _ => false
def inty (n : String) : Bool := n == "int" || n == "bool"
theorem Kd.kit {K : PySem.W.Frag} {H : Hp} {v : V} {n : String} (k : Kd K H v n) : PySem.W.kitOne K (.type n) (.type "int") = some (inty n) ∧ PySem.W.kitOne K (.type n) (.type "bool") = some (n == "bool") ∧
    PySem.W.kitOne K (.type n) (.type "tuple") = some (n == "tuple") ∧ PySem.W.kitOne K (.type n) (.type "list") = some (n == "list") ∧ (isI v = (inty n && !(n == "bool"))) := by
  cases k with
  | non => exact ⟨kit_ty (by decide +kernel), kit_ty (by decide +kernel), kit_ty (by decide +kernel), kit_ty (by decide +kernel), rfl⟩
  | bl x => exact ⟨kit_ty (by decide +kernel), kit_ty (by decide +kernel), kit_ty (by decide +kernel), kit_ty (by decide +kernel), rfl⟩
  | int i => exact ⟨kit_ty (by decide +kernel), kit_ty (by decide +kernel), kit_ty (by decide +kernel), kit_ty (by decide +kernel), rfl⟩
  | str x => exact ⟨kit_ty (by decide +kernel), kit_ty (by decide +kernel), kit_ty (by decide +kernel), kit_ty (by decide +kernel), rfl⟩
  | lst e => exact ⟨kit_ty (by decide +kernel), kit_ty (by decide +kernel), kit_ty (by decide +kernel), kit_ty (by decide +kernel), rfl⟩
  | tup e => exact ⟨kit_ty (by decide +kernel), kit_ty (by decide +kernel), kit_ty (by decide +kernel), kit_ty (by decide +kernel), rfl⟩
  | dK e => exact ⟨kit_ty (by decide +kernel), kit_ty (by decide +kernel), kit_ty (by decide +kernel), kit_ty (by decide +kernel), rfl⟩
/-! ### the draws -/
def DrAt (H : Hp) (l : Addr) : Prop := ∃ a b : Int, H l = some (.lst [.int a, .int b]) ∧ 0 ≤ a ∧ 0 ≤ b ∧ b < 2147483647
theorem DrAt.same {H H' : Hp} {l : Addr} (d : DrAt H l) (s : Same H H') : DrAt H' l := by
  obtain ⟨a, b, h, r⟩ := d
  exact ⟨a, b, s _ _ h, r⟩
theorem DrAt.new {H : Hp} {l p : Addr} {o : HO} (d : DrAt H l) (h : H p = none) : DrAt (upd H p o) l := d.same (same_new (Same.refl H) h)
theorem DrAt.ne {H : Hp} {l p : Addr} (d : DrAt H l) (h : H p = none) : p ≠ l := by
  obtain ⟨a, b, e, _⟩ := d
  exact (ne_of_none e h).symm
theorem DrAt.ne_tup {H : Hp} {l p : Addr} {xs : List V} (d : DrAt H l) (h : H p = some (.tup xs)) : p ≠ l := by
  obtain ⟨a, b, e, _⟩ := d
  exact ne_of h e (by intro z; cases z)
end G

namespace G
open PySem PySem.Spec PyProof.Rows L2
/-! ### built-ins by named readings -/
def rAbs : List V → Hp → VK → Prop := fun xs H Q => ∃ i, xs = [.int i] ∧ Q (.int (if i < 0 then -i else i)) H
def rLn (K : PySem.W.Frag) : List V → Hp → VK → Prop := fun xs H Q => ∃ x n, xs = [x] ∧ LenV K x H n ∧ Q (.int n) H
def rInt1 : List V → Hp → VK → Prop := fun xs H Q => (∃ i, xs = [.int i] ∧ Q (.int i) H) ∨ ∃ k, xs = [.bl k] ∧ Q (.int (if k then 1 else 0)) H
def rMx2 : List V → Hp → VK → Prop := fun xs H Q => ∃ i j, xs = [.int i, .int j] ∧ Q (.int (if j > i then j else i)) H
def rMn2 : List V → Hp → VK → Prop := fun xs H Q => ∃ i j, xs = [.int i, .int j] ∧ Q (.int (if j < i then j else i)) H
def rLstOf (K : PySem.W.Frag) : List V → Hp → VK → Prop := fun xs H Q => ∃ p ys, xs = [.ref p] ∧ (SqL K H p ys ∨ SqT K H p ys) ∧ ∀ l, H l = none → Q (.ref l) (upd H l (.lst ys))
def rTupOf (K : PySem.W.Frag) : List V → Hp → VK → Prop := fun xs H Q => ∃ p ys, xs = [.ref p] ∧ ((SqL K H p ys ∧ ∀ l, H l = none → Q (.ref l) (upd H l (.tup ys))) ∨ (SqT K H p ys ∧ Q (.ref p) H))
section
variable {X : Cx}
theorem cAbs : CallR X (.builtin "abs") rAbs := call_abs
theorem cLen : CallR X (.builtin "len") (rLn X.K) := call_len
theorem cInt1 : CallR X (.type "int") rInt1 := call_int1
theorem cMax2 (hc : X.calm = true) : CallR X (.builtin "max") rMx2 := call_max2 hc
theorem cMin2 (hc : X.calm = true) : CallR X (.builtin "min") rMn2 := call_min2 hc
theorem cLstOf : CallR X (.type "list") (rLstOf X.K) := call_list_of
theorem cTupOf : CallR X (.type "tuple") (rTupOf X.K) := call_tuple_of
/-- a truth as a test -/
theorem pt_tru {a : Expr} {ta : TE} (ha : PE X a ta) (he : ∀ whole, isTrue a X.env whole = (do let v ← whole; standAt a.pos; holding [v] (truthy v)) := by intro _; rfl) : PT X a (tTru X.K ta) := pt_truth ha he
end
section
variable {K : PySem.W.Frag} {σ : L2.St} {H : Hp} {ta : TE} {Q : VK} {D : Ends} {i j : Nat} {v x y : V} {b : Bool} {p : Addr} {xs : List V} {n m : Int}
theorem r_abs (q : Q (.int (n.natAbs : Int)) H) : rAbs [.int n] H Q := ⟨n, rfl, by
  have e : (if n < 0 then -n else n) = (n.natAbs : Int) := by split <;> omega
  rw [e]; exact q⟩
theorem r_lenL (h : SqL K H p xs) (q : Q (.int (xs.length : Int)) H) : rLn K [.ref p] H Q := ⟨.ref p, xs.length, rfl, .inl ⟨xs, h, rfl⟩, q⟩
theorem r_lenT (h : SqT K H p xs) (q : Q (.int (xs.length : Int)) H) : rLn K [.ref p] H Q := ⟨.ref p, xs.length, rfl, .inr ⟨xs, h, rfl⟩, q⟩
theorem r_intB (q : Q (.int (if b then 1 else 0)) H) : rInt1 [.bl b] H Q := .inr ⟨b, rfl, q⟩
theorem r_intI (q : Q (.int n) H) : rInt1 [.int n] H Q := .inl ⟨n, rfl, q⟩
theorem r_max2 (q : Q (.int (max n m)) H) : rMx2 [.int n, .int m] H Q := ⟨n, m, rfl, by
  have e : (if m > n then m else n) = max n m := by omega
  rw [e]; exact q⟩
theorem r_min2 (q : Q (.int (min n m)) H) : rMn2 [.int n, .int m] H Q := ⟨n, m, rfl, by
  have e : (if m < n then m else n) = min n m := by omega
  rw [e]; exact q⟩
theorem r_lstOfL (h : SqL K H p xs) (q : ∀ l, H l = none → Q (.ref l) (upd H l (.lst xs))) : rLstOf K [.ref p] H Q := ⟨p, xs, rfl, .inl h, q⟩
theorem r_lstOfT (h : SqT K H p xs) (q : ∀ l, H l = none → Q (.ref l) (upd H l (.lst xs))) : rLstOf K [.ref p] H Q := ⟨p, xs, rfl, .inr h, q⟩
theorem r_tupOfL (h : SqL K H p xs) (q : ∀ l, H l = none → Q (.ref l) (upd H l (.tup xs))) : rTupOf K [.ref p] H Q := ⟨p, xs, rfl, .inl ⟨h, q⟩⟩
theorem r_tupOfT (h : SqT K H p xs) (q : Q (.ref p) H) : rTupOf K [.ref p] H Q := ⟨p, xs, rfl, .inr ⟨h, q⟩⟩
theorem r_new {R : Addr → Prop} (q : ∀ p, H p = none → R p) (h : Nat.ble xs.length 1000 = true := by rfl) : xs.length ≤ sizeLine ∧ ∀ p, H p = none → R p := ⟨Nat.le_trans (Nat.le_of_ble_eq_true h) (by decide), q⟩
theorem r_cut {t u : TS} (Mid : L2.St → Hp → Prop) (h1 : t { D with nx := Mid } σ H) (h2 : ∀ σ' H', Mid σ' H' → u D σ' H') : Evl.tCut t u D σ H := ⟨Mid, h1, h2⟩
theorem r_tru {R : Bool → Hp → Prop} (q : ta σ H fun x H' => ∃ k, TruV K x H' k ∧ R k H') : tTru K ta σ H R := q
theorem r_truI {R : Bool → Prop} (q : R (decide (n ≠ 0))) : ∃ k, TruV K (.int n) H k ∧ R k := ⟨n != 0, rfl, by
  have e : (n != 0) = decide (n ≠ 0) := by
    by_cases h : n = 0
    · subst h; rfl
    · simp [h]
  rw [e]; exact q⟩
theorem r_isN (q : Q (.bl (decide (x = .non))) H) : rIsN x .non H Q := ⟨rfl, q⟩
theorem r_notN (q : Q (.bl (!decide (x = .non))) H) : rNotN x .non H Q := ⟨rfl, q⟩
theorem r_isB {a c : Bool} (q : Q (.bl (decide (a = c))) H) : rIsB (.bl a) (.bl c) H Q := ⟨a, c, rfl, rfl, q⟩
theorem r_notB {a c : Bool} (q : Q (.bl (!decide (a = c))) H) : rNotB (.bl a) (.bl c) H Q := ⟨a, c, rfl, rfl, q⟩
theorem r_isi {c : V} {t u : Value} (k : ClsV c u) (ty : TyX K H x t) (e : PySem.W.kitOne K t u = some b) (q : Q (.bl b) H) : rIsi K [x, c] H Q := ⟨x, c, t, u, b, rfl, k, ty, e, q⟩
theorem r_aug {te : TE} {ti : TIp} (h : σ[i]? = some (some x)) (q : te σ H fun y H1 => ti x y H1 fun z H2 => D.nx (σ.set i (some z)) H2) : tAug i te ti D σ H := ⟨x, h, q⟩
theorem r_ipI {f : Int → Int → Int} (q : Q (.int (f n m)) H) : ipI f (.int n) (.int m) H Q := ⟨n, m, rfl, rfl, q⟩
theorem r_gtup {k : Nat} {t : TGs} {R : L2.St → Hp → Prop} (h : SqT K H p xs) (q : t xs σ H R) (hl : xs.length = k := by rfl) : gTup K k t (.ref p) σ H R := ⟨p, xs, rfl, h, hl, q⟩
theorem r_gcons {t : TG} {u : TGs} {R : L2.St → Hp → Prop} (q : t v σ H fun σ' H' => u xs σ' H' R) : gCons t u (v :: xs) σ H R := ⟨v, xs, rfl, q⟩
theorem r_gnil {R : L2.St → Hp → Prop} (q : R σ H) : gNil [] σ H R := ⟨rfl, q⟩
theorem r_par {ta : TA} (q : ta σ H fun vs H1 => ∃ v w, vs = [v, w] ∧ D.nx ((σ.set i (some v)).set j (some w)) H1) : tPar i j ta D σ H := q
theorem r_two {R : V → V → Prop} (q : R x y) : ∃ v w, [x, y] = [v, w] ∧ R v w := ⟨x, y, rfl, q⟩
theorem r_rep {l : Addr} (h : H l = some (.lst xs)) (h1 : -(2 ^ 63) ≤ n) (h2 : n < 2 ^ 63) (h3 : xs.length * n.toNat ≤ sizeLine) (q : ∀ p, H p = none → Q (.ref p) (upd H p (.lst (List.replicate n.toNat xs).flatten))) : rRep (.ref l) (.int n) H Q := ⟨l, n, xs, rfl, rfl, h, h1, h2, h3, q⟩
theorem r_cat {l l' : Addr} {ys : List V} (h : H l = some (.lst xs)) (h' : H l' = some (.lst ys)) (h3 : xs.length + ys.length ≤ sizeLine) (q : ∀ p, H p = none → Q (.ref p) (upd H p (.lst (xs ++ ys)))) : rCat (.ref l) (.ref l') H Q := ⟨l, l', xs, ys, rfl, rfl, h, h', h3, q⟩
theorem r_eqD {d e : PyData} (hd : Dp K H x d) (he : Dp K H y e) (sd : SeqAt.shaped d = true) (se : SeqAt.shaped e = true) (q : Q (.bl (PyData.eqv d e)) H) : rEqD K x y H Q := ⟨d, e, hd, he, sd, se, q⟩
theorem r_neD {d e : PyData} (hd : Dp K H x d) (he : Dp K H y e) (sd : SeqAt.shaped d = true) (se : SeqAt.shaped e = true) (q : Q (.bl (!PyData.eqv d e)) H) : rNeD K x y H Q := ⟨d, e, hd, he, sd, se, q⟩
end
end G
/-! ### loops and comprehensions: readings by an invariant -/
namespace G
open PySem PySem.Spec PyProof.Rows L2
section
variable {K : PySem.W.Frag} {σ : L2.St} {H : Hp} {ta tb te : TE} {Q : VK} {D : Ends} {i j : Nat} {v x y : V} {b : Bool} {ts : TS} {g : TG} {tt : TT} {vs : List Nat}
/-- the turns of a for over the walk J -/
def Turns (J : It) (g : TG) (ts : TS) (D : Ends) (σ : L2.St) (H : Hp) : Prop := ∃ W : Nat → Nat → L2.St → Hp → Prop, (∃ m, W 0 m σ H) ∧ ∀ i m σ H, W i m σ H →
  (J.stop i H ∧ D.nx σ H) ∨ (J.go i H ∧ ∃ N : L2.St → Hp → Prop, (∀ σ' H', N σ' H' → ∃ m', m' < m ∧ W (i + 1) m' σ' H') ∧ ∀ x H', J.yld i H x H' → g x σ H' fun σ2 H2 => ts { D with nx := N, ct := N, bk := D.nx } σ2 H2)
def LoopR1 (ws : List V) (g : TG) (ts : TS) (D : Ends) (σ : L2.St) (H : Hp) : Prop := ∃ n : Int, ws = [.int n] ∧ -(2 ^ 62) ≤ n ∧ n < 2 ^ 62 ∧ Turns (Itr 0 n.toNat) g ts D σ H
def LoopR2 (ws : List V) (g : TG) (ts : TS) (D : Ends) (σ : L2.St) (H : Hp) : Prop := ∃ m n : Int, ws = [.int m, .int n] ∧ (-(2 ^ 62) ≤ m ∧ m < 2 ^ 62 ∧ -(2 ^ 62) ≤ n ∧ n < 2 ^ 62) ∧ Turns (Itr m (n - m).toNat) g ts D σ H
def LoopL (K : PySem.W.Frag) (w : V) (g : TG) (ts : TS) (D : Ends) (σ : L2.St) (H : Hp) : Prop := ∃ a, w = .ref a ∧ (∃ xs, SqL K H a xs) ∧ Turns (Itl K a) g ts D σ H
def LoopT (K : PySem.W.Frag) (w : V) (g : TG) (ts : TS) (D : Ends) (σ : L2.St) (H : Hp) : Prop := ∃ a, w = .ref a ∧ (∃ xs, SqT K H a xs) ∧ Turns (Itt K a) g ts D σ H
theorem r_forR1 {ta : TA} (q : ta σ H fun ws H1 => LoopR1 ws g ts D σ H1) : tFor (iRng1 ta) g ts D σ H := q
theorem r_forR2 {ta : TA} (q : ta σ H fun ws H1 => LoopR2 ws g ts D σ H1) : tFor (iRng2 ta) g ts D σ H := q
theorem r_forL (q : te σ H fun w H1 => LoopL K w g ts D σ H1) : tFor (iList K te) g ts D σ H := q
theorem r_forT (q : te σ H fun w H1 => LoopT K w g ts D σ H1) : tFor (iTup K te) g ts D σ H := q
theorem loopR1 {n : Int} (h1 : n < 2 ^ 62) (Pv : Nat → L2.St → Hp → Prop) (h0 : Pv 0 σ H) (hs : ∀ (i : Nat) σ' H', (i : Int) < n → Pv i σ' H' → ts { D with nx := Pv (i + 1), ct := Pv (i + 1), bk := D.nx } (σ'.set j (some (.int (i : Int)))) H')
    (hd : ∀ σ' H', Pv n.toNat σ' H' → D.nx σ' H') (h2 : -(2 ^ 62) ≤ n := by omega) : LoopR1 [.int n] (gName j) ts D σ H :=
  ⟨n, rfl, h2, h1, for_range Pv h0 (fun i σ' H' hi p => by
    have e0 : (0 : Int) + (i : Int) = (i : Int) := Int.zero_add _
    show ts _ (σ'.set j (some (.int ((0 : Int) + (i : Int))))) H'
    rw [e0]
    exact hs i σ' H' (by omega) p) hd⟩
theorem loopR2 {m n : Int} (h : -(2 ^ 62) ≤ m ∧ m < 2 ^ 62 ∧ -(2 ^ 62) ≤ n ∧ n < 2 ^ 62) (Pv : Nat → L2.St → Hp → Prop) (h0 : Pv 0 σ H) (hs : ∀ (i : Nat) σ' H', m + (i : Int) < n → Pv i σ' H' → ts { D with nx := Pv (i + 1), ct := Pv (i + 1), bk := D.nx } (σ'.set j (some (.int (m + (i : Int))))) H')
    (hd : ∀ σ' H', Pv (n - m).toNat σ' H' → D.nx σ' H') : LoopR2 [.int m, .int n] (gName j) ts D σ H :=
  ⟨m, n, rfl, h, for_range Pv h0 (fun i σ' H' hi p => hs i σ' H' (by omega) p) hd⟩
theorem loopL {a : Addr} {xs : List V} (Pv : Nat → L2.St → Hp → Prop) (h0 : Pv 0 σ H) (hl : ∀ i σ' H', i ≤ xs.length → Pv i σ' H' → SqL K H' a xs)
    (hs : ∀ i x σ' H', xs[i]? = some x → Pv i σ' H' → g x σ' H' fun σ2 H2 => ts { D with nx := Pv (i + 1), ct := Pv (i + 1), bk := D.nx } σ2 H2) (hd : ∀ σ' H', Pv xs.length σ' H' → D.nx σ' H') : LoopL K (.ref a) g ts D σ H :=
  ⟨a, rfl, ⟨xs, hl 0 σ H (Nat.zero_le _) h0⟩, for_list Pv h0 hl hs hd⟩
theorem loopT {a : Addr} {xs : List V} (Pv : Nat → L2.St → Hp → Prop) (h0 : Pv 0 σ H) (hl : ∀ i σ' H', i ≤ xs.length → Pv i σ' H' → SqT K H' a xs)
    (hs : ∀ i x σ' H', xs[i]? = some x → Pv i σ' H' → g x σ' H' fun σ2 H2 => ts { D with nx := Pv (i + 1), ct := Pv (i + 1), bk := D.nx } σ2 H2) (hd : ∀ σ' H', Pv xs.length σ' H' → D.nx σ' H') : LoopT K (.ref a) g ts D σ H :=
  ⟨a, rfl, ⟨xs, hl 0 σ H (Nat.zero_le _) h0⟩, for_tup Pv h0 hl hs hd⟩
/-- while: the test is read, then the turn or the end -/
def WNext (Pv : Nat → L2.St → Hp → Prop) (m : Nat) (ts : TS) (D : Ends) (σ : L2.St) (H : Hp) : Prop := ∃ N : L2.St → Hp → Prop, (∀ σ' H', N σ' H' → ∃ m', m' < m ∧ Pv m' σ' H') ∧ ts { D with nx := N, ct := N, bk := D.nx } σ H
theorem wnext {Pv : Nat → L2.St → Hp → Prop} {m : Nat} (q : ts { D with nx := fun σ2 H2 => ∃ m', m' < m ∧ Pv m' σ2 H2, ct := fun σ2 H2 => ∃ m', m' < m ∧ Pv m' σ2 H2, bk := D.nx } σ H) : WNext Pv m ts D σ H := ⟨_, fun _ _ z => z, q⟩
theorem r_while {c : TT} (Pv : Nat → L2.St → Hp → Prop) (m0 : Nat) (h0 : Pv m0 σ H)
    (hs : ∀ m σ' H', Pv m σ' H' → c σ' H' fun b H1 => if b = true then WNext Pv m ts D σ' H1 else D.nx σ' H1) : tWhile c ts D σ H := ⟨Pv, ⟨m0, h0⟩, hs⟩
/-! comprehensions -/
def Comp (J : It) (g : TG) (tt : TT) (te : TE) (vs : List Nat) (σ : L2.St) (H1 : Hp) (Q : VK) : Prop := ∀ D, H1 D = none → ∃ W : Nat → Nat → Hp → Prop, (∃ m, W 0 m (upd H1 D (.lst []))) ∧ ∀ i m H, W i m H →
  (J.stop i H ∧ Q (.ref D) H) ∨ (J.go i H ∧ ∃ Nx : Hp → Prop, (∀ H', Nx H' → ∃ m', m' < m ∧ W (i + 1) m' H') ∧ ∀ x H', J.yld i H x H' → g x (wipe σ vs) H' fun σ2 H2 => wipe σ2 vs = wipe σ vs ∧ tt σ2 H2 fun b H3 =>
    if b = true then te σ2 H3 fun y H4 => ∃ acc, H4 D = some (.lst acc) ∧ acc.length < sizeLine ∧ Nx (upd H4 D (.lst (acc ++ [y]))) else Nx H3)
def CompR1 (ws : List V) (g : TG) (tt : TT) (te : TE) (vs : List Nat) (σ : L2.St) (H : Hp) (Q : VK) : Prop := ∃ n : Int, ws = [.int n] ∧ -(2 ^ 62) ≤ n ∧ n < 2 ^ 62 ∧ Comp (Itr 0 n.toNat) g tt te vs σ H Q
def CompR2 (ws : List V) (g : TG) (tt : TT) (te : TE) (vs : List Nat) (σ : L2.St) (H : Hp) (Q : VK) : Prop := ∃ m n : Int, ws = [.int m, .int n] ∧ (-(2 ^ 62) ≤ m ∧ m < 2 ^ 62 ∧ -(2 ^ 62) ≤ n ∧ n < 2 ^ 62) ∧ Comp (Itr m (n - m).toNat) g tt te vs σ H Q
def CompL (K : PySem.W.Frag) (w : V) (g : TG) (tt : TT) (te : TE) (vs : List Nat) (σ : L2.St) (H : Hp) (Q : VK) : Prop := ∃ a, w = .ref a ∧ (∃ xs, SqL K H a xs) ∧ Comp (Itl K a) g tt te vs σ H Q
def CompT (K : PySem.W.Frag) (w : V) (g : TG) (tt : TT) (te : TE) (vs : List Nat) (σ : L2.St) (H : Hp) (Q : VK) : Prop := ∃ a, w = .ref a ∧ (∃ xs, SqT K H a xs) ∧ Comp (Itt K a) g tt te vs σ H Q
theorem r_lcR1 {ta : TA} (q : ta σ H fun ws H1 => CompR1 ws g tt te vs σ H1 Q) : tLc (iRng1 ta) g tt te vs σ H Q := q
theorem r_lcR2 {ta : TA} (q : ta σ H fun ws H1 => CompR2 ws g tt te vs σ H1 Q) : tLc (iRng2 ta) g tt te vs σ H Q := q
theorem r_lcL (q : ta σ H fun w H1 => CompL K w g tt te vs σ H1 Q) : tLc (iList K ta) g tt te vs σ H Q := q
theorem r_lcT (q : ta σ H fun w H1 => CompT K w g tt te vs σ H1 Q) : tLc (iTup K ta) g tt te vs σ H Q := q
/-- a turn's end: the item y goes onto the new list -/
def CNext (D : Addr) (P : Nat → List V → Hp → Prop) (i : Nat) : VK := fun y H4 => ∃ acc, H4 D = some (.lst acc) ∧ acc.length < sizeLine ∧ ∃ acc', P (i + 1) acc' (upd H4 D (.lst (acc ++ [y]))) ∧ (upd H4 D (.lst (acc ++ [y]))) D = some (.lst acc') ∧ acc'.length = i + 1
theorem cnext {D' : Addr} {P : Nat → List V → Hp → Prop} {acc : List V} (h : H D' = some (.lst acc)) (hl : acc.length = i) (hi : i ≤ 100000) (p : P (i + 1) (acc ++ [y]) (upd H D' (.lst (acc ++ [y])))) : CNext D' P i y H :=
  ⟨acc, h, Nat.lt_of_le_of_lt (show acc.length ≤ 100000 by omega) (by decide), acc ++ [y], p, upd_same, by rw [List.length_append, hl]; rfl⟩
/-- no test; P: the new list's address, the turn, what it holds, the heap -/
theorem compR1 {n : Int} (hn : n ≤ 100000) (P : Addr → Nat → List V → Hp → Prop) (h0 : ∀ D, H D = none → P D 0 [] (upd H D (.lst [])))
    (hs : ∀ D (i : Nat) acc H', H D = none → (i : Int) < n → P D i acc H' → H' D = some (.lst acc) → acc.length = i → te ((wipe σ vs).set j (some (.int (i : Int)))) H' (CNext D (P D) i))
    (hd : ∀ D acc H', H D = none → P D n.toNat acc H' → H' D = some (.lst acc) → acc.length = n.toNat → Q (.ref D) H')
    (hw : ∀ x, wipe ((wipe σ vs).set j (some x)) vs = wipe σ vs := by intro _; rfl) (h2 : -(2 ^ 62) ≤ n := by omega) : CompR1 [.int n] (gName j) tYes te vs σ H Q := by
  refine ⟨n, rfl, h2, by omega, fun D hD => lc_range (lo := 0) (n := n.toNat) (fun i H' => ∃ acc, P D i acc H' ∧ H' D = some (.lst acc) ∧ acc.length = i) ⟨[], h0 D hD, upd_same, rfl⟩ (fun i H' hi p => ?_) (fun H' p => ?_)⟩
  · obtain ⟨acc, p, hD', hl⟩ := p
    have e0 : (0 : Int) + (i : Int) = (i : Int) := Int.zero_add _
    show wipe ((wipe σ vs).set j (some (.int ((0 : Int) + (i : Int))))) vs = wipe σ vs ∧ tYes ((wipe σ vs).set j (some (.int ((0 : Int) + (i : Int))))) H' _
    rw [e0]
    exact ⟨hw _, hs D i acc H' hD (by omega) p hD' hl⟩
  · obtain ⟨acc, p, hD', hl⟩ := p
    exact hd D acc H' hD p hD' hl
theorem compR2 {m n : Int} (hm : -(2 ^ 62) ≤ m ∧ m < 2 ^ 62 ∧ -(2 ^ 62) ≤ n ∧ n < 2 ^ 62) (hn : n - m ≤ 100000) (P : Addr → Nat → List V → Hp → Prop) (h0 : ∀ D, H D = none → P D 0 [] (upd H D (.lst [])))
    (hs : ∀ D (i : Nat) acc H', H D = none → m + (i : Int) < n → P D i acc H' → H' D = some (.lst acc) → acc.length = i → te ((wipe σ vs).set j (some (.int (m + (i : Int))))) H' (CNext D (P D) i))
    (hd : ∀ D acc H', H D = none → P D (n - m).toNat acc H' → H' D = some (.lst acc) → acc.length = (n - m).toNat → Q (.ref D) H')
    (hw : ∀ x, wipe ((wipe σ vs).set j (some x)) vs = wipe σ vs := by intro _; rfl) : CompR2 [.int m, .int n] (gName j) tYes te vs σ H Q := by
  refine ⟨m, n, rfl, hm, fun D hD => lc_range (lo := m) (n := (n - m).toNat) (fun i H' => ∃ acc, P D i acc H' ∧ H' D = some (.lst acc) ∧ acc.length = i) ⟨[], h0 D hD, upd_same, rfl⟩ (fun i H' hi p => ?_) (fun H' p => ?_)⟩
  · obtain ⟨acc, p, hD', hl⟩ := p
    exact ⟨hw _, hs D i acc H' hD (by omega) p hD' hl⟩
  · obtain ⟨acc, p, hD', hl⟩ := p
    exact hd D acc H' hD p hD' hl
theorem compL {a : Addr} {xs : List V} (hx : xs.length ≤ 100000) (P : Addr → Nat → List V → Hp → Prop) (hsq : SqL K H a xs) (h0 : ∀ D, H D = none → P D 0 [] (upd H D (.lst []))) (hl : ∀ D i acc H', H D = none → P D i acc H' → SqL K H' a xs)
    (hs : ∀ D i x acc H', H D = none → xs[i]? = some x → i < xs.length → P D i acc H' → H' D = some (.lst acc) → acc.length = i → g x (wipe σ vs) H' fun σ2 H2 => wipe σ2 vs = wipe σ vs ∧ te σ2 H2 (CNext D (P D) i))
    (hd : ∀ D acc H', H D = none → P D xs.length acc H' → H' D = some (.lst acc) → acc.length = xs.length → Q (.ref D) H') : CompL K (.ref a) g tYes te vs σ H Q := by
  refine ⟨a, rfl, ⟨xs, hsq⟩, fun D hD => lc_list (K := K) (a := a) (xs := xs) (fun i H' => ∃ acc, P D i acc H' ∧ H' D = some (.lst acc) ∧ acc.length = i) ⟨[], h0 D hD, upd_same, rfl⟩ (fun i H' _ p => ?_) (fun i x H' hi p => ?_) (fun H' p => ?_)⟩
  · obtain ⟨acc, p, _⟩ := p
    exact hl D i acc H' hD p
  · obtain ⟨acc, p, hD', hlen⟩ := p
    exact hs D i x acc H' hD hi (List.getElem?_eq_some_iff.mp hi).1 p hD' hlen
  · obtain ⟨acc, p, hD', hlen⟩ := p
    exact hd D acc H' hD p hD' hlen
theorem compT {a : Addr} {xs : List V} (hx : xs.length ≤ 100000) (P : Addr → Nat → List V → Hp → Prop) (hsq : SqT K H a xs) (h0 : ∀ D, H D = none → P D 0 [] (upd H D (.lst []))) (hl : ∀ D i acc H', H D = none → P D i acc H' → SqT K H' a xs)
    (hs : ∀ D i x acc H', H D = none → xs[i]? = some x → i < xs.length → P D i acc H' → H' D = some (.lst acc) → acc.length = i → g x (wipe σ vs) H' fun σ2 H2 => wipe σ2 vs = wipe σ vs ∧ te σ2 H2 (CNext D (P D) i))
    (hd : ∀ D acc H', H D = none → P D xs.length acc H' → H' D = some (.lst acc) → acc.length = xs.length → Q (.ref D) H') : CompT K (.ref a) g tYes te vs σ H Q := by
  refine ⟨a, rfl, ⟨xs, hsq⟩, fun D hD => lc_tup (K := K) (a := a) (xs := xs) (fun i H' => ∃ acc, P D i acc H' ∧ H' D = some (.lst acc) ∧ acc.length = i) ⟨[], h0 D hD, upd_same, rfl⟩ (fun i H' _ p => ?_) (fun i x H' hi p => ?_) (fun H' p => ?_)⟩
  · obtain ⟨acc, p, _⟩ := p
    exact hl D i acc H' hD p
  · obtain ⟨acc, p, hD', hlen⟩ := p
    exact hs D i x acc H' hD hi (List.getElem?_eq_some_iff.mp hi).1 p hD' hlen
  · obtain ⟨acc, p, hD', hlen⟩ := p
    exact hd D acc H' hD p hD' hlen
end
end G
/-! ### calls of a def with a star parameter; in a try or not -/
namespace G
open PySem PySem.Spec PyProof.Rows L2
section
variable {X : Cx} {CX : CXT} {k : Nat} {f : Addr} {sp : Sp} {E : L2.St → XK} {x : Str} {p pos : Pos} {e : Expr} {es : List Expr} {t : TA}
def tCallR (sp : Sp) (E : L2.St → XK) (t : TA) : TE := fun σ H Q => t σ H fun vs H1 => sp vs H1 Q (E σ)
theorem run_fnRS {pins : List (Addr × Obj)} {σ : L2.St} {H : Hp} {s : Shared} {Q : VK} {us : List Value} {vs : List V} (F : FnR X.prog X.w X.K X.mg X.base CX k f sp) (hr : Room k X.A) (hx : PassesAt CX X σ (E σ))
    (I : Inv X pins σ H s) (r : Vals vs us) (h : sp vs H Q (E σ)) : wpAny (model X.prog X.w) X.A (call (.ref f) us) (EP X pins σ Q) X.xe s := by
  refine wpAny_call (codeAny_mono (F X.A X.stack s H us vs Q (E σ) hr I.env0 r h) fun r s' hq => ?_)
  cases r with
  | error e => exact hx pins H s e s' I hq
  | ok fl =>
    cases fl with
    | ret u => exact I.after hq
    | next => exact False.elim hq
    | brk => exact False.elim hq
    | cont => exact False.elim hq
theorem pe_callR (F : FnR X.prog X.w X.K X.mg X.base CX k f sp) (hr : Room k X.A) (hg : Gl X x) (hm : X.mg x = some (.ref f)) (hk : PySem.W.keepIn X.K (.ref f) = true) (hx : ∀ σ, PassesAt CX X σ (E σ))
    (ha : PA X (e :: es) t) (hdb : (x == ("__debug__" : Str)) = false := by decide) (he : starEach (e :: es) X.env = (false, eval e X.env) :: starEach es X.env := by rfl) (hpl : (backTo pos (starEach es X.env)).any (·.1) = false := by rfl) :
    PE X (.Call (.Name x p) (e :: es) [] pos) (tCallR sp E t) := by
  refine ⟨fun pins s σ H Q I h => ?_⟩
  refine wpAny_Call_Name_kw (ld_glob I hg hm ?_ hdb)
  refine PySem.W.callWith_K (h₀ := X.base) I.ok.mod.kin hk (thn (ha.run pos pins s σ H _ I h) fun us s1 ⟨vs, H1, I1, r, q⟩ => ⟨I1.kIn, ?_⟩) he hpl
  exact run_fnRS F hr (hx σ) I1 r q
theorem pe_callR0 (F : FnR X.prog X.w X.K X.mg X.base CX k f sp) (hr : Room k X.A) (hg : Gl X x) (hm : X.mg x = some (.ref f)) (hk : PySem.W.keepIn X.K (.ref f) = true) (hx : ∀ σ, PassesAt CX X σ (E σ))
    (hdb : (x == ("__debug__" : Str)) = false := by decide) : PE X (.Call (.Name x p) [] [] pos) (tCallR sp E tNil) := by
  refine ⟨fun pins s σ H Q I h => ?_⟩
  refine wpAny_Call_Name_kw (ld_glob I hg hm ?_ hdb)
  exact PySem.W.callWith_K0 I.kIn hk (run_fnRS (us := []) F hr (hx σ) I .nil h)
theorem passAll {E : XK} (hx : Passes CX X E) : ∀ σ, PassesAt CX X σ ((fun _ => E) σ) := fun σ pins H s e s' I c => hx pins σ H s e s' I c
end
section
variable {σ : L2.St} {H : Hp} {Q : VK} {sp : Sp} {E : L2.St → XK} {t : TA}
theorem r_callR (q : t σ H fun vs H1 => sp vs H1 Q (E σ)) : tCallR sp E t σ H Q := q
end
end G
/-! ### rules with the written part K said -/
namespace G
open PySem PySem.Spec PyProof.Rows L2
section
variable {X : Cx} {K : PySem.W.Frag}
theorem kIxL (h : X.K = K := by rfl) : IxR X (rIxL K) := h ▸ ix_list
theorem kIxT (h : X.K = K := by rfl) : IxR X (rIxT K) := h ▸ ix_tup
theorem kLen (h : X.K = K := by rfl) : CallR X (.builtin "len") (rLn K) := h ▸ cLen
theorem kLstOf (h : X.K = K := by rfl) : CallR X (.type "list") (rLstOf K) := h ▸ cLstOf
theorem kTupOf (h : X.K = K := by rfl) : CallR X (.type "tuple") (rTupOf K) := h ▸ cTupOf
theorem kIsi (h : X.K = K := by rfl) : CallR X (.builtin "isinstance") (rIsi K) := h ▸ call_isi
theorem kIsiT (h : X.K = K := by rfl) : CallR X (.builtin "isinstance") (rIsiT K) := h ▸ call_isiT
theorem kSum (hc : X.calm = true) (h : X.K = K := by rfl) : CallR X (.builtin "sum") (rSum K) := h ▸ cr_sum hc
theorem kAll (hc : X.calm = true) (h : X.K = K := by rfl) : CallR X (.builtin "all") (rAll K) := h ▸ cr_all hc
theorem kAny (hc : X.calm = true) (h : X.K = K := by rfl) : CallR X (.builtin "any") (rAny K) := h ▸ cr_any hc
theorem kMaxL (hc : X.calm = true) (h : X.K = K := by rfl) : CallR X (.builtin "max") (rMax K) := h ▸ cr_max hc
theorem kMinL (hc : X.calm = true) (h : X.K = K := by rfl) : CallR X (.builtin "min") (rMin K) := h ▸ cr_min hc
theorem kEqD (hu : X.A.units + 64 < cLine) (h : X.K = K := by rfl) : OpR X (compareOp .Eq) (rEqD K) := h ▸ op_eqD hu
theorem kNeD (hu : X.A.units + 64 < cLine) (h : X.K = K := by rfl) : OpR X (compareOp .NotEq) (rNeD K) := h ▸ op_neD hu
theorem kIn (h : X.K = K := by rfl) : OpR X (compareOp .In) (rIn K false) := h ▸ op_in_seq
theorem kNotIn (h : X.K = K := by rfl) : OpR X (compareOp .NotIn) (rIn K true) := h ▸ op_notIn_seq
theorem kLtT (hu : X.A.units < cLine) (h : X.K = K := by rfl) : OpR X (compareOp .Lt) (rLtT K) := h ▸ op_ltT hu
theorem kLeT (hu : X.A.units < cLine) (h : X.K = K := by rfl) : OpR X (compareOp .LtE) (rLeT K) := h ▸ op_leT hu
theorem kCatT (h : X.K = K := by rfl) : OpR X (binaryOp .Add) (rCatA K) := h ▸ op_catA
theorem kSlT (h : X.K = K := by rfl) : SlR X (rSlA K) := h ▸ sl_tupA
theorem kSlL (h : X.K = K := by rfl) : SlR X (rSlL K) := h ▸ sl_list
theorem kTru {a : Expr} {ta : TE} (ha : PE X a ta) (h : X.K = K := by rfl) (he : ∀ whole, isTrue a X.env whole = (do let v ← whole; standAt a.pos; holding [v] (truthy v)) := by intro _; rfl) : PT X a (tTru K ta) := h ▸ pt_tru ha he
theorem kpiL {tg l : Expr} {tl : TE} (hl : PE X l tl) (h : X.K = K := by rfl) : PI X tg l (iList K tl) := h ▸ pi_list hl
theorem kpiT {tg l : Expr} {tl : TE} (hl : PE X l tl) (h : X.K = K := by rfl) : PI X tg l (iTup K tl) := h ▸ pi_tup hl
theorem kpiEnum {e : Expr} {ta : TA} {p pos tpos : Pos} {elts : List Expr} {kk : Nat} (hg : Gl X "enumerate") (hm : X.mg "enumerate" = none) (ha : PA X [e] ta) (h : X.K = K := by rfl) (hs : starEach [e] X.env = [(false, eval e X.env)] := by rfl) :
    PI X (.Tuple elts kk tpos) (.Call (.Name "enumerate" p) [e] [] pos) (iEnum K ta) := h ▸ pi_enum hg hm ha hs
theorem kpiZip {e e2 : Expr} {ta : TA} {p pos tpos : Pos} {elts : List Expr} {kk : Nat} (hg : Gl X "zip") (hm : X.mg "zip" = none) (ha : PA X [e, e2] ta) (h : X.K = K := by rfl)
    (hs : starEach [e, e2] X.env = (false, eval e X.env) :: starEach [e2] X.env := by rfl) (hpl : (backTo pos (starEach [e2] X.env)).any (·.1) = false := by rfl) :
    PI X (.Tuple elts kk tpos) (.Call (.Name "zip" p) [e, e2] [] pos) (iZip K ta) := h ▸ pi_zip hg hm ha hs hpl
theorem kpgTup {es : List Expr} {k : Nat} {t : TGs} {n : Nat} {pos : Pos} (hc : X.calm = true) (h : PGs X es t) (hK : X.K = K := by rfl)
    (hn : (assignEach es X.env).length = n := by rfl) (hst : (assignEach es X.env).findIdx? (·.1) = none := by rfl) : PG X (.Tuple es k pos) (gTup K n t) := hK ▸ pg_tup hc h hn hst
theorem kFld {o : Expr} {ta : TE} {f : Str} {p : Pos} (h : PE X (.Attribute o f p) (tFld X.K ta f)) (hK : X.K = K := by rfl) : PE X (.Attribute o f p) (tFld K ta f) := hK ▸ h
theorem kBM {e : Expr} {T : String} {r : V → List V → Hp → VK → Prop} {to : TE} {t : TA} (h : PE X e (tBM X.K T r to t)) (hK : X.K = K := by rfl) : PE X e (tBM K T r to t) := hK ▸ h
end
end G
namespace G
open PySem PySem.Spec PyProof.Rows L2
theorem kBM0 {X : Cx} {K : PySem.W.Frag} {e : Expr} {T : String} {r : V → List V → Hp → VK → Prop} {to : TE} (h : PE X e (tBM0 X.K T r to)) (hK : X.K = K := by rfl) : PE X e (tBM0 K T r to) := hK ▸ h
end G
/-! ### data with a Lean type, at the layer's level -/
namespace G
open PySem PySem.Spec PyProof.Rows L2 PySem.W
/-- v holds x -/
def Hd {α : Type} [DecidableEq α] [Datum α] (K : PySem.W.Frag) (H : Hp) (v : V) (x : α) : Prop := Dp K H v (Datum.toD x)
def Hds {α : Type} [DecidableEq α] [Datum α] (K : PySem.W.Frag) (H : Hp) (vs : List V) (xs : List α) : Prop := DpAll K H vs (xs.map Datum.toD)
class Lay (α : Type) [DecidableEq α] [Datum α] : Prop where
  lay : ∀ a : α, (Datum.toD a).canLay0 = true
instance : Lay Int := ⟨fun _ => rfl⟩
instance : Lay Bool := ⟨fun _ => rfl⟩
instance : Lay Unit := ⟨fun _ => rfl⟩
section
variable {α β : Type} [DecidableEq α] [Datum α] [DecidableEq β] [Datum β]
theorem layAll [Lay α] : ∀ xs : List α, PyData.canLayAll0 (xs.map Datum.toD) = true
  | [] => rfl
  | x :: xs => by
    rw [List.map_cons, PyData.canLayAll0, Lay.lay x, layAll xs] <;> rfl
instance [Lay α] : Lay (List α) := ⟨fun xs => layAll xs⟩
instance [Lay α] : Lay (Tup α) := ⟨fun t => layAll t.items⟩
instance [Lay α] [Lay β] : Lay (α × β) := ⟨fun p => by
  show PyData.canLayAll0 [Datum.toD p.1, Datum.toD p.2] = true
  rw [PyData.canLayAll0, PyData.canLayAll0, Lay.lay p.1, Lay.lay p.2] <;> rfl⟩
theorem shapedD [Lay α] (x : α) (h : Datum.depth α ≤ 64) : SeqAt.shaped (Datum.toD x) = true := by
  unfold SeqAt.shaped
  rw [Lay.lay x, decide_eq_true (Nat.le_trans (Datum.depth_le x) h)] <;> rfl
end
section
variable {K : PySem.W.Frag} {H H' : Hp} {α β : Type} [DecidableEq α] [Datum α] [DecidableEq β] [Datum β]
mutual
theorem Dp.same (s : Same H H') : ∀ (d : PyData) (v : V), Dp K H v d → Dp K H' v d
  | .none, _, h => by cases h; exact .non
  | .bool b, _, h => by cases h; exact .bl b
  | .int i, _, h => by cases h; exact .int i
  | .str x, _, h => by cases h; exact .str x
  | .list ds, _, h => by
    cases h with
    | lst hs ha => exact .lst (s.seq hs) (DpAll.same s ds _ ha)
  | .tuple ds, _, h => by
    cases h with
    | tup hs ha =>
      refine .tup ?_ (DpAll.same s ds _ ha)
      rcases hs with (hs | ⟨o, hs⟩) | hs
      · exact .inl (.inl (s _ _ hs))
      · exact .inl (.inr ⟨o, s _ _ hs⟩)
      · exact .inr hs
  | .dict _, _, h => by cases h
theorem DpAll.same (s : Same H H') : ∀ (ds : List PyData) (vs : List V), DpAll K H vs ds → DpAll K H' vs ds
  | [], _, h => by cases h; exact .nil
  | d :: ds, _, h => by
    cases h with
    | cons h1 h2 => exact .cons (Dp.same s d _ h1) (DpAll.same s ds _ h2)
end
theorem Hd.same {v : V} {x : α} (h : Hd K H v x) (s : Same H H') : Hd K H' v x := Dp.same s _ _ h
theorem Hds.same {vs : List V} {xs : List α} (h : Hds K H vs xs) (s : Same H H') : Hds K H' vs xs := DpAll.same s _ _ h
/-- no list within -/
class Imm (α : Type) [DecidableEq α] [Datum α] : Prop where
  imm : ∀ {K : PySem.W.Frag} {l : Addr} {H H' : Hp} {v : V} (a : α), Kp l H H' → (∃ xs, H l = some (.lst xs)) → Hd K H v a → Hd K H' v a
theorem sqT_kp {l a : Addr} {xs : List V} (k : Kp l H H') (hl : ∃ xs, H l = some (.lst xs)) (h : SqT K H a xs) : SqT K H' a xs := by
  obtain ⟨ys, hl⟩ := hl
  rcases h with (h | ⟨o, h⟩) | h
  · exact .inl (.inl (k _ _ (ne_of h hl (by intro z; cases z)) h))
  · exact .inl (.inr ⟨o, k _ _ (ne_of h hl (by intro z; cases z)) h⟩)
  · exact .inr h
instance : Imm Int := ⟨fun i _ _ h => by cases h; exact .int i⟩
instance : Imm Bool := ⟨fun i _ _ h => by cases h; exact .bl i⟩
instance : Imm Unit := ⟨fun _ _ _ h => by cases h; exact .non⟩
instance : Imm Str := ⟨fun i _ _ h => by cases h; exact .str i⟩
theorem imms [Imm α] {l : Addr} (k : Kp l H H') (hl : ∃ xs, H l = some (.lst xs)) : ∀ {xs : List α} {vs : List V}, Hds K H vs xs → Hds K H' vs xs
  | [], _, h => by cases h; exact .nil
  | x :: xs, _, h => by
    cases h with
    | cons h1 h2 => exact .cons (Imm.imm x k hl h1) (imms (xs := xs) k hl h2)
instance [Imm α] : Imm (Tup α) := ⟨fun t k hl h => by
  cases h with
  | tup hs ha => exact .tup (sqT_kp k hl hs) (imms (xs := t.items) k hl ha)⟩
instance [Imm α] [Imm β] : Imm (α × β) := ⟨fun p k hl h => by
  cases h with
  | tup hs ha =>
    cases ha with
    | cons h1 h2 =>
      cases h2 with
      | cons h2 h3 =>
        cases h3
        exact .tup (sqT_kp k hl hs) (.cons (Imm.imm p.1 k hl h1) (.cons (Imm.imm p.2 k hl h2) .nil))⟩
theorem Hd.kp [Imm α] {l : Addr} {v : V} {x : α} (h : Hd K H v x) (k : Kp l H H') (d : DrAt H l) : Hd K H' v x := by
  obtain ⟨a, b, e, _⟩ := d
  exact Imm.imm x k ⟨_, e⟩ h
theorem Hds.kp [Imm α] {l : Addr} {vs : List V} {xs : List α} (h : Hds K H vs xs) (k : Kp l H H') (d : DrAt H l) : Hds K H' vs xs := by
  obtain ⟨a, b, e, _⟩ := d
  exact imms k ⟨_, e⟩ h
/-! how it is known, what it gives -/
theorem hd_int {i : Int} : Hd K H (.int i) i := .int i
theorem hd_bool {b : Bool} : Hd K H (.bl b) b := .bl b
theorem hd_list {a : Addr} {vs : List V} {xs : List α} (h : SqL K H a vs) (r : Hds K H vs xs) : Hd K H (.ref a) xs := .lst h r
theorem hd_tup {a : Addr} {vs : List V} {xs : List α} (h : SqT K H a vs) (r : Hds K H vs xs) : Hd K H (.ref a) (⟨xs⟩ : Tup α) := .tup h r
theorem hd_pair {a : Addr} {v w : V} {x : α} {y : β} (h : SqT K H a [v, w]) (r : Hd K H v x) (q : Hd K H w y) : Hd K H (.ref a) (x, y) := .tup h (.cons r (.cons q .nil))
theorem hds_nil : Hds K H [] ([] : List α) := .nil
theorem hds_cons {v : V} {vs : List V} {x : α} {xs : List α} (h : Hd K H v x) (r : Hds K H vs xs) : Hds K H (v :: vs) (x :: xs) := .cons h r
theorem hds_ints : ∀ ns : List Int, Hds K H (ns.map V.int) ns
  | [] => .nil
  | n :: ns => .cons (.int n) (hds_ints ns)
theorem Hd.int_eq {v : V} {i : Int} (h : Hd K H v i) : v = .int i := by cases h; rfl
theorem Hd.bool_eq {v : V} {b : Bool} (h : Hd K H v b) : v = .bl b := by cases h; rfl
theorem Hd.list_of {v : V} {xs : List α} (h : Hd K H v xs) : ∃ a vs, v = .ref a ∧ SqL K H a vs ∧ Hds K H vs xs := by
  cases h with
  | lst hs ha => exact ⟨_, _, rfl, hs, ha⟩
theorem Hd.tup_of {v : V} {t : Tup α} (h : Hd K H v t) : ∃ a vs, v = .ref a ∧ SqT K H a vs ∧ Hds K H vs t.items := by
  cases h with
  | tup hs ha => exact ⟨_, _, rfl, hs, ha⟩
theorem Hd.pair_of {v : V} {p : α × β} (h : Hd K H v p) : ∃ a x y, v = .ref a ∧ SqT K H a [x, y] ∧ Hd K H x p.1 ∧ Hd K H y p.2 := by
  cases h with
  | tup hs ha =>
    cases ha with
    | cons h1 h2 =>
      cases h2 with
      | cons h2 h3 =>
        cases h3
        exact ⟨_, _, _, rfl, hs, h1, h2⟩
theorem Hd.pt_of {v : V} {p : Int × Int} (h : Hd K H v p) : ∃ a, v = .ref a ∧ SqT K H a [.int p.1, .int p.2] := by
  obtain ⟨a, x, y, rfl, hs, h1, h2⟩ := h.pair_of
  rw [h1.int_eq, h2.int_eq] at hs
  exact ⟨a, rfl, hs⟩
theorem Hds.ints_eq : ∀ {vs : List V} {ns : List Int}, Hds K H vs ns → vs = ns.map V.int
  | _, [], h => by cases h; rfl
  | _, n :: ns, h => by
    cases h with
    | cons h1 h2 =>
      have e1 := Hd.int_eq (i := n) h1
      have e2 := Hds.ints_eq (ns := ns) h2
      rw [e1, e2]; rfl
theorem Hds.bools_eq : ∀ {vs : List V} {ns : List Bool}, Hds K H vs ns → vs = ns.map V.bl
  | _, [], h => by cases h; rfl
  | _, n :: ns, h => by
    cases h with
    | cons h1 h2 =>
      have e1 := Hd.bool_eq (b := n) h1
      have e2 := Hds.bools_eq (ns := ns) h2
      rw [e1, e2]; rfl
theorem hds_bools : ∀ ns : List Bool, Hds K H (ns.map V.bl) ns
  | [] => .nil
  | n :: ns => .cons (.bl n) (hds_bools ns)
theorem Hds.length : ∀ {vs : List V} {xs : List α}, Hds K H vs xs → vs.length = xs.length
  | _, [], h => by cases h; rfl
  | _, _ :: xs, h => by
    cases h with
    | cons h1 h2 => exact congrArg (· + 1) (Hds.length (xs := xs) h2)
theorem Hds.at : ∀ {vs : List V} {xs : List α} {i : Nat} {x : α}, Hds K H vs xs → xs[i]? = some x → ∃ v, vs[i]? = some v ∧ Hd K H v x
  | _, [], _, _, _, e => by simp at e
  | _, y :: xs, i, x, h, e => by
    cases h with
    | cons h1 h2 =>
      cases i with
      | zero =>
        have e' : y = x := by simpa using e
        subst e'
        exact ⟨_, rfl, h1⟩
      | succ i =>
        obtain ⟨v, e1, e2⟩ := Hds.at (xs := xs) (i := i) (x := x) h2 (by simpa using e)
        exact ⟨v, by simpa using e1, e2⟩
theorem Hds.at' {vs : List V} {xs : List α} {i : Nat} {v : V} (h : Hds K H vs xs) (e : vs[i]? = some v) : ∃ x, xs[i]? = some x ∧ Hd K H v x := by
  have hl := h.length
  have hi : i < vs.length := (List.getElem?_eq_some_iff.mp e).1
  obtain ⟨w, e1, e2⟩ := h.at (i := i) (x := xs[i]'(by omega)) (by simp)
  rw [e] at e1
  cases e1
  exact ⟨_, by simp, e2⟩
theorem Hds.append : ∀ {vs ws : List V} {xs ys : List α}, Hds K H vs xs → Hds K H ws ys → Hds K H (vs ++ ws) (xs ++ ys)
  | _, _, [], _, h, q => by cases h; exact q
  | _, _, x :: xs, _, h, q => by
    cases h with
    | cons h1 h2 => exact .cons h1 (Hds.append (xs := xs) h2 q)
theorem Hds.take : ∀ {vs : List V} {xs : List α} (n : Nat), Hds K H vs xs → Hds K H (vs.take n) (xs.take n)
  | _, _, 0, _ => .nil
  | _, [], n + 1, h => by cases h; exact .nil
  | _, x :: xs, n + 1, h => by
    cases h with
    | cons h1 h2 => exact .cons h1 (Hds.take (xs := xs) n h2)
theorem Hds.drop : ∀ {vs : List V} {xs : List α} (n : Nat), Hds K H vs xs → Hds K H (vs.drop n) (xs.drop n)
  | _, _, 0, h => h
  | _, [], n + 1, h => by cases h; exact .nil
  | _, x :: xs, n + 1, h => by
    cases h with
    | cons h1 h2 => exact Hds.drop (xs := xs) n h2
theorem Hds.reverse : ∀ {vs : List V} {xs : List α}, Hds K H vs xs → Hds K H vs.reverse xs.reverse
  | _, [], h => by cases h; exact .nil
  | _, x :: xs, h => by
    cases h with
    | cons h1 h2 =>
      rw [List.reverse_cons, List.reverse_cons]
      exact (Hds.reverse (xs := xs) h2).append (.cons h1 .nil)
/-- an item of a list at a place within it -/
theorem r_pickI {Q : VK} {p : Addr} {n : Int} (ns : List Int) (h : SqL K H p (ns.map V.int)) (h0 : 0 ≤ n) (h1 : n < ns.length) (q : ∀ z, z ∈ ns → Q (.int z) H) : rIxL K (.ref p) (.int n) H Q := by
  obtain ⟨j, rfl⟩ : ∃ j : Nat, n = (j : Int) := ⟨n.toNat, by omega⟩
  have hj : j < ns.length := by omega
  exact r_ixL h (atI_nat (by rw [List.getElem?_map, List.getElem?_eq_getElem hj]; rfl)) (q _ (List.getElem_mem hj))
theorem r_pick {Q : VK} {p : Addr} {n : Int} {xs : List V} (h : SqL K H p xs) (h0 : 0 ≤ n) (h1 : n < xs.length) (q : ∀ v, v ∈ xs → Q v H) : rIxL K (.ref p) (.int n) H Q := by
  obtain ⟨j, rfl⟩ : ∃ j : Nat, n = (j : Int) := ⟨n.toNat, by omega⟩
  have hj : j < xs.length := by omega
  exact r_ixL h (atI_nat (List.getElem?_eq_getElem hj)) (q _ (List.getElem_mem hj))
/-- a point, or not -/
inductive PtB (K : PySem.W.Frag) (H : Hp) : V → Bool → Prop where
  | yes {v : V} (p : Int × Int) : Hd K H v p → PtB K H v true
  | kind {v : V} {n : String} : Kd K H v n → n ≠ "tuple" → PtB K H v false
  | len {a : Addr} {xs : List V} : SqT K H a xs → xs.length ≠ 2 → PtB K H (.ref a) false
  | item {a : Addr} {x y : V} {m n : String} : SqT K H a [x, y] → Kd K H x m → Kd K H y n → (isI x && isI y) = false → PtB K H (.ref a) false
theorem PtB.same {v : V} {b : Bool} (h : PtB K H v b) (s : Same H H') : PtB K H' v b := by
  cases h with
  | yes p h => exact .yes p (h.same s)
  | kind h e => exact .kind (h.same s) e
  | len h e => exact .len (sqT_same s h) e
  | item h h1 h2 e => exact .item (sqT_same s h) (h1.same s) (h2.same s) e
/-- == of data -/
theorem r_eqH [Lay α] {x y : V} {a b : α} {Q : VK} (hx : Hd K H x a) (hy : Hd K H y b) (q : Q (.bl (decide (a = b))) H) (h : Datum.depth α ≤ 64 := by decide) : rEqD K x y H Q :=
  r_eqD hx hy (shapedD a h) (shapedD b h) (by rw [Datum.eqv]; exact q)
theorem r_neH [Lay α] {x y : V} {a b : α} {Q : VK} (hx : Hd K H x a) (hy : Hd K H y b) (q : Q (.bl (!decide (a = b))) H) (h : Datum.depth α ≤ 64 := by decide) : rNeD K x y H Q :=
  r_neD hx hy (shapedD a h) (shapedD b h) (by rw [Datum.eqv]; exact q)
end
end G
/-! ### the head's facts by a list of tests -/
namespace G
open PySem PySem.Spec PyProof.Rows L2
def fdNo : FuncData := PySem.W.fnOf "" "" { posonlyargs := [], args := [], vararg := none, kwonlyargs := [], kw_defaults := [], kwarg := none, defaults := [] } [] { kind := .function, names := [], isGenerator := false, isCoroutine := false } .none .none .none .none none .none .none
def fdOf (K : PySem.W.Frag) (f : Addr) : FuncData := match K.lookup f with
  | some ⟨_, _, .func fd, _⟩ => fd
  | _ => fdNo
theorem defAt {K : PySem.W.Frag} {x qual : Str} {params : Arguments} {body : List Stmt} {scope : Scope} {dvs : List V} {kws : List (Str × V)} {f : Addr} (h : ∃ fd, FunD K x qual params body scope dvs kws f fd) : FunD K x qual params body scope dvs kws f (fdOf K f) := by
  obtain ⟨fd, F⟩ := h
  have e : fdOf K f = fd := by
    obtain ⟨oc, od, dV, kV, doc, pm, an, cdv, ct, osl, rfl, lk, _⟩ := F.ex
    unfold fdOf
    rw [lk]
  rw [e]
  exact F
def obsM (fa : List (PySem.W.Frag → Bool)) (fn : List He.DefD) (K : PySem.W.Frag) : He.AlD := ((fa.all fun f => f K) && fn.all fun d => d.ok K, fn.map fun d => He.fnW K d.at_)
def SaysM (fa : List (PySem.W.Frag → Bool)) (fn : List He.DefD) (K : PySem.W.Frag) : Prop := obsM fa fn K = He.valD fn
def obsMG (n : Nat) (fa : List (PySem.W.Frag → Bool)) (fn : List He.DefD) (g : Addr → Option Obj) : He.AlD := obsM fa fn (He.frG g (He.asD g n))
def hookM (n : Nat) (fa : List (PySem.W.Frag → Bool)) (fn : List He.DefD) : PySem.W.Hook where
  α := He.AlD
  obs := fun s => obsMG n fa fn s.heap.get?
  val := fun _ => He.valD fn
  says := fun _ h => ∃ K : PySem.W.Frag, K.In h ∧ SaysM fa fn K
  of := fun _ _ e => ⟨_, He.frG_in, e⟩
  keeps := fun _ _ _ ⟨K, hK, c⟩ k => ⟨K, PySem.W.Frag.In.keeps hK k, c⟩
theorem obsMG_eq {n : Nat} {fa : List (PySem.W.Frag → Bool)} {fn : List He.DefD} {g : Addr → Option Obj} {s : Shared} (h : ∀ a, g a = s.heap.get? a) : obsMG n fa fn g = (hookM n fa fn).obs s := by
  have e : g = s.heap.get? := funext h
  rw [e] <;> rfl
section
variable {fa : List (PySem.W.Frag → Bool)} {fn : List He.DefD} {K : PySem.W.Frag}
theorem SaysM.fact (c : SaysM fa fn K) (i : Nat) {f : PySem.W.Frag → Bool} (h : fa[i]? = some f) : f K = true := by
  have c1 := (He.ba (show ((fa.all fun f => f K) && fn.all fun d => d.ok K) = true from congrArg (fun z : He.AlD => z.1) c)).1
  exact List.all_eq_true.mp c1 f (List.mem_of_getElem? h)
theorem SaysM.def_ (c : SaysM fa fn K) (i : Nat) {d : He.DefD} (h : fn[i]? = some d) : ∃ fd, FunD K d.name d.qual d.params d.body d.scope (d.dvs K) (d.kws K) (He.fAd K d.at_) fd := by
  have c2 := (He.ba (show ((fa.all fun f => f K) && fn.all fun d => d.ok K) = true from congrArg (fun z : He.AlD => z.1) c)).2
  have e : fn.map (fun d => He.fnW K d.at_) = fn.map He.DefD.val := congrArg (fun z : He.AlD => z.2) c
  have e2 : (fn.map fun d => He.fnW K d.at_)[i]? = (fn.map He.DefD.val)[i]? := by rw [e]
  rw [List.getElem?_map, List.getElem?_map, h] at e2
  exact He.DefD.funD (Option.some.inj e2) (List.all_eq_true.mp c2 d (List.mem_of_getElem? h))
end
/-! ### own exceptions without __init__ -/
structure ExcF (K : PySem.W.Frag) (C : Addr) : Prop where
  x : PySem.W.excIn K C He.veBase "ValueError.__new__" = true
  k : PySem.W.keepIn K (.ref C) = true
  b : PySem.W.subIn K (.ref C) (.type "BaseException") = some true
  t : PySem.W.typeIn K (.ref C) = some (.type "type")
def excFB (K : PySem.W.Frag) (C : Addr) : Bool := PySem.W.excIn K C He.veBase "ValueError.__new__" && (PySem.W.keepIn K (.ref C) && (decide (PySem.W.subIn K (.ref C) (.type "BaseException") = some true) && decide (PySem.W.typeIn K (.ref C) = some (.type "type"))))
theorem excF_ok {K : PySem.W.Frag} {C : Addr} (c : excFB K C = true) : ExcF K C := by
  obtain ⟨c1, c⟩ := He.ba c
  obtain ⟨c2, c⟩ := He.ba c
  obtain ⟨c3, c4⟩ := He.ba c
  exact ⟨c1, c2, of_decide_eq_true c3, of_decide_eq_true c4⟩
end G
namespace G
open PySem PySem.Spec PyProof.Rows L2
/-- a law's promise -/
def sp_law (K : PySem.W.Frag) : Sp := fun vs H Q _ => ∃ (a : Addr) (ns : List Int), vs = [.ref a] ∧ SqL K H a (ns.map V.int) ∧ ns.length ≤ 63 ∧ ∀ H', Q (.bl true) H'
end G
/-! ### greatest common divisors -/
namespace G
theorem gcd_fmod (a b : Int) : Int.gcd b (a.fmod b) = Int.gcd a b := by
  have e : a.fmod b = a + b * (-(a.fdiv b)) := by
    have := Int.mul_fdiv_add_fmod a b
    rw [Int.mul_neg]; omega
  rw [e, Int.gcd_add_mul_left_right, Int.gcd_comm]
theorem gcd_emod (a b : Int) (h : 0 ≤ b) : Int.gcd b (a % b) = Int.gcd a b := by
  rw [← Int.fmod_eq_emod_of_nonneg a h]; exact gcd_fmod a b
theorem fmod_lt (a b : Int) (h : b ≠ 0) : (a.fmod b).natAbs < b.natAbs := by
  rcases Int.lt_trichotomy b 0 with hb | hb | hb
  · have e := Int.neg_fmod_neg (a := a) (b := b)
    have h1 := Int.fmod_nonneg_of_pos (-a) (b := -b) (by omega)
    have h2 := Int.fmod_lt_of_pos (-a) (b := -b) (by omega)
    omega
  · exact absurd hb h
  · have h1 := Int.fmod_nonneg_of_pos a hb
    have h2 := Int.fmod_lt_of_pos a hb
    omega
end G

namespace G
open PySem PySem.Spec PyProof.Rows L2
def top (i : Nat) : Stmt := PySem.Challenge.pw_latticeshapes_k05_points_and_directions.main.body.getD i (.Pass ⟨0, 0, 0, 0⟩)
abbrev s_is_integer : Stmt := top 5
theorem sc_is_integer : FnScope ["value"] ["value"] (defScope s_is_integer) := ⟨rfl, rfl, rfl, by decide +kernel, rfl, by decide +kernel, by decide +kernel⟩
abbrev s_common_divisor : Stmt := top 6
theorem sc_common_divisor : FnScope ["first", "second"] ["first", "second"] (defScope s_common_divisor) := ⟨rfl, rfl, rfl, by decide +kernel, rfl, by decide +kernel, by decide +kernel⟩
abbrev s_is_point : Stmt := top 8
theorem sc_is_point : FnScope ["value", "item"] ["value"] (defScope s_is_point) := ⟨rfl, rfl, rfl, by decide +kernel, rfl, by decide +kernel, by decide +kernel⟩
abbrev s_check_point : Stmt := top 9
theorem sc_check_point : FnScope ["value"] ["value"] (defScope s_check_point) := ⟨rfl, rfl, rfl, by decide +kernel, rfl, by decide +kernel, by decide +kernel⟩
abbrev s_check_direction : Stmt := top 10
theorem sc_check_direction : FnScope ["value"] ["value"] (defScope s_check_direction) := ⟨rfl, rfl, rfl, by decide +kernel, rfl, by decide +kernel, by decide +kernel⟩
abbrev s_cross_of : Stmt := top 11
theorem sc_cross_of : FnScope ["first", "second"] ["first", "second"] (defScope s_cross_of) := ⟨rfl, rfl, rfl, by decide +kernel, rfl, by decide +kernel, by decide +kernel⟩
abbrev s_content_of : Stmt := top 12
theorem sc_content_of : FnScope ["point"] ["point"] (defScope s_content_of) := ⟨rfl, rfl, rfl, by decide +kernel, rfl, by decide +kernel, by decide +kernel⟩
abbrev s_cross : Stmt := top 13
theorem sc_cross : FnScope ["first", "second"] ["first", "second"] (defScope s_cross) := ⟨rfl, rfl, rfl, by decide +kernel, rfl, by decide +kernel, by decide +kernel⟩
abbrev s_content : Stmt := top 14
theorem sc_content : FnScope ["point"] ["point"] (defScope s_content) := ⟨rfl, rfl, rfl, by decide +kernel, rfl, by decide +kernel, by decide +kernel⟩
abbrev s_primitive_part : Stmt := top 15
theorem sc_primitive_part : FnScope ["direction", "divisor"] ["direction"] (defScope s_primitive_part) := ⟨rfl, rfl, rfl, by decide +kernel, rfl, by decide +kernel, by decide +kernel⟩
abbrev s_law_draws : Stmt := top 17
theorem sc_law_draws : FnScope ["_law_script", "_law_k", "_law_cell", "_law_seed"] ["_law_script", "_law_k"] (defScope s_law_draws) := ⟨rfl, rfl, rfl, by decide +kernel, rfl, by decide +kernel, by decide +kernel⟩
abbrev s_law_draw : Stmt := top 18
theorem sc_law_draw : FnScope ["_law_draws_here", "_law_upto", "_law_digit"] ["_law_draws_here", "_law_upto"] (defScope s_law_draw) := ⟨rfl, rfl, rfl, by decide +kernel, rfl, by decide +kernel, by decide +kernel⟩
abbrev s_law_integer : Stmt := top 19
theorem sc_law_integer : FnScope ["_law_draws_here", "_law_size", "_law_high", "_law_value"] ["_law_draws_here"] (defScope s_law_integer) := ⟨rfl, rfl, rfl, by decide +kernel, rfl, by decide +kernel, by decide +kernel⟩
abbrev s_law_divisor : Stmt := top 20
theorem sc_law_divisor : FnScope ["_law_first", "_law_second"] ["_law_first", "_law_second"] (defScope s_law_divisor) := ⟨rfl, rfl, rfl, by decide +kernel, rfl, by decide +kernel, by decide +kernel⟩
abbrev s_law_error : Stmt := top 21
theorem sc_law_error : FnScope ["_law_function", "_law_value"] ["_law_function", "_law_value"] (defScope s_law_error) := ⟨rfl, rfl, rfl, by decide +kernel, rfl, by decide +kernel, by decide +kernel⟩
abbrev s_law : Stmt := top 22
theorem sc_law : FnScope ["_law_script", "_law_value", "_law_k", "_law_draws_here", "_law_one", "_law_two", "_law_factor", "_law_many", "_law_divisor_here", "_law_found", "_law_function"] ["_law_script"] (defScope s_law) := ⟨rfl, rfl, rfl, by decide +kernel, rfl, by decide +kernel, by decide +kernel⟩
/-! ### what the top has left -/
structure Tx (K : PySem.W.Frag) (mg : Str → Option Value) : Prop where
  n_isinstance : mg "isinstance" = none
  n_int : mg "int" = none
  n_bool : mg "bool" = none
  n_abs : mg "abs" = none
  n_tuple : mg "tuple" = none
  n_all : mg "all" = none
  n_len : mg "len" = none
  n_range : mg "range" = none
  n_max : mg "max" = none
  g_is_integer : mg "is_integer" = some (.ref (He.ga K "is_integer"))
  g_common_divisor : mg "common_divisor" = some (.ref (He.ga K "common_divisor"))
  g_is_point : mg "is_point" = some (.ref (He.ga K "is_point"))
  g_check_point : mg "check_point" = some (.ref (He.ga K "check_point"))
  g_check_direction : mg "check_direction" = some (.ref (He.ga K "check_direction"))
  g_cross_of : mg "cross_of" = some (.ref (He.ga K "cross_of"))
  g_content_of : mg "content_of" = some (.ref (He.ga K "content_of"))
  g_cross : mg "cross" = some (.ref (He.ga K "cross"))
  g_content : mg "content" = some (.ref (He.ga K "content"))
  g_primitive_part : mg "primitive_part" = some (.ref (He.ga K "primitive_part"))
  g_law_draws : mg "_law_draws" = some (.ref (He.ga K "_law_draws"))
  g_law_draw : mg "_law_draw" = some (.ref (He.ga K "_law_draw"))
  g_law_integer : mg "_law_integer" = some (.ref (He.ga K "_law_integer"))
  g_law_divisor : mg "_law_divisor" = some (.ref (He.ga K "_law_divisor"))
  g_law_error : mg "_law_error" = some (.ref (He.ga K "_law_error"))
  g_law : mg "law" = some (.ref (He.ga K "law"))
  g_InvalidPoint : mg "InvalidPoint" = some (.ref (He.ga K "InvalidPoint"))
  x_InvalidPoint : ExcF K (He.ga K "InvalidPoint")
  g_InvalidDirection : mg "InvalidDirection" = some (.ref (He.ga K "InvalidDirection"))
  x_InvalidDirection : ExcF K (He.ga K "InvalidDirection")
  m_InvalidPoint_InvalidPoint : PySem.W.exmOne K (.ref (He.ga K "InvalidPoint")) (.ref (He.ga K "InvalidPoint")) = some true
  m_InvalidDirection_InvalidPoint : PySem.W.exmOne K (.ref (He.ga K "InvalidDirection")) (.ref (He.ga K "InvalidPoint")) = some false
  m_InvalidDirection_InvalidDirection : PySem.W.exmOne K (.ref (He.ga K "InvalidDirection")) (.ref (He.ga K "InvalidDirection")) = some true
  d_is_integer : FunD K "is_integer" "is_integer" (defArgs s_is_integer) (defBody s_is_integer) (defScope s_is_integer) [] [] (He.ga K "is_integer") (fdOf K (He.ga K "is_integer"))
  d_common_divisor : FunD K "common_divisor" "common_divisor" (defArgs s_common_divisor) (defBody s_common_divisor) (defScope s_common_divisor) [] [] (He.ga K "common_divisor") (fdOf K (He.ga K "common_divisor"))
  d_is_point : FunD K "is_point" "is_point" (defArgs s_is_point) (defBody s_is_point) (defScope s_is_point) [] [] (He.ga K "is_point") (fdOf K (He.ga K "is_point"))
  d_check_point : FunD K "check_point" "check_point" (defArgs s_check_point) (defBody s_check_point) (defScope s_check_point) [] [] (He.ga K "check_point") (fdOf K (He.ga K "check_point"))
  d_check_direction : FunD K "check_direction" "check_direction" (defArgs s_check_direction) (defBody s_check_direction) (defScope s_check_direction) [] [] (He.ga K "check_direction") (fdOf K (He.ga K "check_direction"))
  d_cross_of : FunD K "cross_of" "cross_of" (defArgs s_cross_of) (defBody s_cross_of) (defScope s_cross_of) [] [] (He.ga K "cross_of") (fdOf K (He.ga K "cross_of"))
  d_content_of : FunD K "content_of" "content_of" (defArgs s_content_of) (defBody s_content_of) (defScope s_content_of) [] [] (He.ga K "content_of") (fdOf K (He.ga K "content_of"))
  d_cross : FunD K "cross" "cross" (defArgs s_cross) (defBody s_cross) (defScope s_cross) [] [] (He.ga K "cross") (fdOf K (He.ga K "cross"))
  d_content : FunD K "content" "content" (defArgs s_content) (defBody s_content) (defScope s_content) [] [] (He.ga K "content") (fdOf K (He.ga K "content"))
  d_primitive_part : FunD K "primitive_part" "primitive_part" (defArgs s_primitive_part) (defBody s_primitive_part) (defScope s_primitive_part) [] [] (He.ga K "primitive_part") (fdOf K (He.ga K "primitive_part"))
  d_law_draws : FunD K "_law_draws" "_law_draws" (defArgs s_law_draws) (defBody s_law_draws) (defScope s_law_draws) [] [] (He.ga K "_law_draws") (fdOf K (He.ga K "_law_draws"))
  d_law_draw : FunD K "_law_draw" "_law_draw" (defArgs s_law_draw) (defBody s_law_draw) (defScope s_law_draw) [] [] (He.ga K "_law_draw") (fdOf K (He.ga K "_law_draw"))
  d_law_integer : FunD K "_law_integer" "_law_integer" (defArgs s_law_integer) (defBody s_law_integer) (defScope s_law_integer) [] [] (He.ga K "_law_integer") (fdOf K (He.ga K "_law_integer"))
  d_law_divisor : FunD K "_law_divisor" "_law_divisor" (defArgs s_law_divisor) (defBody s_law_divisor) (defScope s_law_divisor) [] [] (He.ga K "_law_divisor") (fdOf K (He.ga K "_law_divisor"))
  d_law_error : FunD K "_law_error" "_law_error" (defArgs s_law_error) (defBody s_law_error) (defScope s_law_error) [] [] (He.ga K "_law_error") (fdOf K (He.ga K "_law_error"))
  d_law : FunD K "law" "law" (defArgs s_law) (defBody s_law) (defScope s_law) [] [] (He.ga K "law") (fdOf K (He.ga K "law"))
section
variable {K : PySem.W.Frag} {mg : Str → Option Value}
theorem bn_is_integer (T : Tx K mg) : Binds K (fdOf K (He.ga K "is_integer")) ["value"] [] := T.d_is_integer.bindsN fun _ _ _ _ _ _ us hl => match us, hl with | [_], _ => rfl
theorem bn_common_divisor (T : Tx K mg) : Binds K (fdOf K (He.ga K "common_divisor")) ["first", "second"] [] := T.d_common_divisor.bindsN fun _ _ _ _ _ _ us hl => match us, hl with | [_, _], _ => rfl
theorem bn_is_point (T : Tx K mg) : Binds K (fdOf K (He.ga K "is_point")) ["value"] [] := T.d_is_point.bindsN fun _ _ _ _ _ _ us hl => match us, hl with | [_], _ => rfl
theorem bn_check_point (T : Tx K mg) : Binds K (fdOf K (He.ga K "check_point")) ["value"] [] := T.d_check_point.bindsN fun _ _ _ _ _ _ us hl => match us, hl with | [_], _ => rfl
theorem bn_check_direction (T : Tx K mg) : Binds K (fdOf K (He.ga K "check_direction")) ["value"] [] := T.d_check_direction.bindsN fun _ _ _ _ _ _ us hl => match us, hl with | [_], _ => rfl
theorem bn_cross_of (T : Tx K mg) : Binds K (fdOf K (He.ga K "cross_of")) ["first", "second"] [] := T.d_cross_of.bindsN fun _ _ _ _ _ _ us hl => match us, hl with | [_, _], _ => rfl
theorem bn_content_of (T : Tx K mg) : Binds K (fdOf K (He.ga K "content_of")) ["point"] [] := T.d_content_of.bindsN fun _ _ _ _ _ _ us hl => match us, hl with | [_], _ => rfl
theorem bn_cross (T : Tx K mg) : Binds K (fdOf K (He.ga K "cross")) ["first", "second"] [] := T.d_cross.bindsN fun _ _ _ _ _ _ us hl => match us, hl with | [_, _], _ => rfl
theorem bn_content (T : Tx K mg) : Binds K (fdOf K (He.ga K "content")) ["point"] [] := T.d_content.bindsN fun _ _ _ _ _ _ us hl => match us, hl with | [_], _ => rfl
theorem bn_primitive_part (T : Tx K mg) : Binds K (fdOf K (He.ga K "primitive_part")) ["direction"] [] := T.d_primitive_part.bindsN fun _ _ _ _ _ _ us hl => match us, hl with | [_], _ => rfl
theorem bn_law_draws (T : Tx K mg) : Binds K (fdOf K (He.ga K "_law_draws")) ["_law_script", "_law_k"] [] := T.d_law_draws.bindsN fun _ _ _ _ _ _ us hl => match us, hl with | [_, _], _ => rfl
theorem bn_law_draw (T : Tx K mg) : Binds K (fdOf K (He.ga K "_law_draw")) ["_law_draws_here", "_law_upto"] [] := T.d_law_draw.bindsN fun _ _ _ _ _ _ us hl => match us, hl with | [_, _], _ => rfl
theorem bn_law_integer (T : Tx K mg) : Binds K (fdOf K (He.ga K "_law_integer")) ["_law_draws_here"] [] := T.d_law_integer.bindsN fun _ _ _ _ _ _ us hl => match us, hl with | [_], _ => rfl
theorem bn_law_divisor (T : Tx K mg) : Binds K (fdOf K (He.ga K "_law_divisor")) ["_law_first", "_law_second"] [] := T.d_law_divisor.bindsN fun _ _ _ _ _ _ us hl => match us, hl with | [_, _], _ => rfl
theorem bn_law_error (T : Tx K mg) : Binds K (fdOf K (He.ga K "_law_error")) ["_law_function", "_law_value"] [] := T.d_law_error.bindsN fun _ _ _ _ _ _ us hl => match us, hl with | [_, _], _ => rfl
end
end G
/-! ### the walk: one step; all plain steps -/
open PySem PySem.Spec PyProof.Rows L2 G
local macro_rules | `(tactic| walk_at "g1") => `(tactic| first
  | (with_reducible refine' r_seq ?_)
  | (with_reducible refine' r_asg ?_)
  | (with_reducible refine' r_ifs ?_)
  | (with_reducible refine' r_test ?_)
  | (with_reducible refine' r_op ?_)
  | ((with_reducible refine' r_var ?h ?_); (case h => exact rfl))
  | (with_reducible refine' r_c ?_)
  | (with_reducible refine' r_I0 ?_)
  | (with_reducible refine' r_bl ?_)
  | (with_reducible refine' r_cons ?_)
  | (with_reducible refine' r_nil ?_)
  | (with_reducible refine' r_gname ?_)
  | (with_reducible refine' r_next ?_)
  | (with_reducible refine' r_ret ?_)
  | (with_reducible refine' r_un ?_)
  | (with_reducible refine' r_U ?_)
  | (with_reducible refine' r_cb ?_)
  | (with_reducible refine' r_call ?_)
  | (with_reducible refine' r_callS ?_)
  | (with_reducible refine' r_callR ?_)
  | (with_reducible refine' r_lst ?_)
  | (with_reducible refine' r_tup ?_)
  | (with_reducible refine' r_drop ?_)
  | (with_reducible refine' r_sub ?_)
  | (with_reducible refine' r_and ?_)
  | (with_reducible refine' r_or ?_)
  | (with_reducible refine' r_not ?_)
  | (with_reducible refine' r_andV ?_)
  | (with_reducible refine' r_orV ?_)
  | (with_reducible refine' r_notV ?_)
  | (with_reducible refine' r_if ?_)
  | (with_reducible refine' r_tB ?_)
  | ((with_reducible refine' r_aug ?h ?_); (case h => exact rfl))
  | (with_reducible refine' r_ipI ?_)
  | (with_reducible refine' r_gcons ?_)
  | (with_reducible refine' r_gnil ?_)
  | ((with_reducible refine' r_gtup ?h1 ?_ ?h2); (case h1 => exact SqT.of (by assumption)); (case h2 => exact rfl))
  | ((with_reducible refine' r_gtup ?h1 ?_ ?h2); (case h1 => assumption); (case h2 => exact rfl))
  | (with_reducible refine' r_par ?_)
  | (with_reducible refine' r_two ?_)
  | (with_reducible refine' r_abs ?_)
  | (with_reducible refine' r_intB ?_)
  | (with_reducible refine' r_intI ?_)
  | (with_reducible refine' r_max2 ?_)
  | (with_reducible refine' r_min2 ?_)
  | (with_reducible refine' r_tru ?_)
  | (with_reducible refine' r_truI ?_)
  | (with_reducible refine' r_isN ?_)
  | (with_reducible refine' r_notN ?_)
  | (with_reducible refine' r_isB ?_)
  | (with_reducible refine' r_notB ?_)
  | (with_reducible refine' r_forR1 ?_)
  | (with_reducible refine' r_forR2 ?_)
  | (with_reducible refine' r_forL ?_)
  | (with_reducible refine' r_forT ?_)
  | (with_reducible refine' r_lcR1 ?_)
  | (with_reducible refine' r_lcR2 ?_)
  | (with_reducible refine' r_lcL ?_)
  | (with_reducible refine' r_lcT ?_)
  | (with_reducible refine' r_eqI ?_)
  | (with_reducible refine' r_neI ?_)
  | ((with_reducible refine' r_eq ?h ?_); (case h => exact rfl))
  | ((with_reducible refine' r_ne ?h ?_); (case h => exact rfl)))
local macro_rules | `(tactic| walk_at "g") => `(tactic| repeat walk_at "g1")
local macro_rules | `(tactic| walk_at "ix") => `(tactic| first
  | ((with_reducible refine' r_ixL ?h1 ?h2 ?_); (case h1 => exact SqL.of (by assumption)); (case h2 => exact rfl))
  | ((with_reducible refine' r_ixT ?h1 ?h2 ?_); (case h1 => exact SqT.of (by assumption)); (case h2 => exact rfl))
  | ((with_reducible refine' r_ixL ?h1 ?h2 ?_); (case h1 => exact SqL.of upd_same); (case h2 => exact rfl))
  | ((with_reducible refine' r_ixL ?h1 ?h2 ?_); (case h1 => assumption); (case h2 => exact rfl))
  | ((with_reducible refine' r_ixT ?h1 ?h2 ?_); (case h1 => assumption); (case h2 => exact rfl)))
local macro_rules | `(tactic| walk_at "gx") => `(tactic| repeat (first | walk_at "g1" | walk_at "ix"))
local macro_rules | `(tactic| walk_at "g0") => `(tactic| repeat (first | (with_reducible refine' r_asg ?_) | (with_reducible refine' r_gname ?_) | (with_reducible refine' r_next ?_)))
namespace G
open PySem PySem.Spec PyProof.Rows L2
section
variable {P : Program} {w : World} {K : PySem.W.Frag} {mg : Str → Option Value} {base : Heap}
/-! #### is_integer -/
def sp_is_integer (K : PySem.W.Frag) : Sp := fun vs H Q _ => ∃ (v : V) (n : String), vs = [v] ∧ Kd K H v n ∧ Q (.bl (isI v)) H
theorem ok_is_integer (T : Tx K mg) : FnOk P w K mg base CX0 1 (He.ga K "is_integer") (fdOf K (He.ga K "is_integer")) ["value"] (sp_is_integer K) := by
  refine T.d_is_integer.ok sc_is_integer (fun vs H Q E h => ?_) (fun cdv A outer s H vs Q E hr h => ?_)
  · obtain ⟨v, n, rfl, _⟩ := h
    rfl
  · obtain ⟨v, n, rfl, kd, q⟩ := h
    refine ⟨_, PSs.nox (pss_one (ps_ret (pe_and (pe_callB (kIsi (K := K)) (by rfl) T.n_isinstance (by decide +kernel) (pa_cons (pv 0) (pa_cons (pe_bltn (v := .ty "int") (by rfl) T.n_int (by decide +kernel) rfl) pa_nil))) (pe_one (pe_not (pe_callB (kIsi (K := K)) (by rfl) T.n_isinstance (by decide +kernel) (pa_cons (pv 0) (pa_cons (pe_bltn (v := .ty "bool") (by rfl) T.n_bool (by decide +kernel) rfl) pa_nil)))))))), ?_⟩
    obtain ⟨k1, k2, _, _, e⟩ := kd.kit
    walk_at "g"
    refine r_isi (.ty "int") kd.ty k1 ?_
    walk_at "g"
    refine r_b (fun hb => ?_) (fun hb => ?_)
    · walk_at "g"
      refine r_isi (.ty "bool") kd.ty k2 ?_
      walk_at "g"
      rw [hb, Bool.true_and] at e
      rw [← e]
      exact q
    · rw [hb, Bool.false_and] at e
      rw [← e]
      exact q
/-! #### common_divisor -/
def sp_common_divisor : Sp := fun vs H Q _ => ∃ a b : Int, vs = [.int a, .int b] ∧ Q (.int (Int.gcd a b)) H
theorem ok_common_divisor (T : Tx K mg) : FnOk P w K mg base CX0 1 (He.ga K "common_divisor") (fdOf K (He.ga K "common_divisor")) ["first", "second"] (sp_common_divisor) := by
  refine T.d_common_divisor.ok sc_common_divisor (fun vs H Q E h => ?_) (fun cdv A outer s H vs Q E hr h => ?_)
  · obtain ⟨a, b, rfl, _⟩ := h
    rfl
  · obtain ⟨a, b, rfl, q⟩ := h
    refine ⟨_, PSs.nox (pss_cons (ps_par (i := 0) (j := 1) (by rfl) sc_common_divisor.nd rfl rfl (by decide) rfl rfl (pa_cons (pe_callB cAbs (by rfl) T.n_abs (by decide +kernel) (pa_cons (pv 0) pa_nil)) (pa_cons (pe_callB cAbs (by rfl) T.n_abs (by decide +kernel) (pa_cons (pv 1) pa_nil)) pa_nil)) (by rfl))
      (pss_cons (ps_while PassesOwn.never (kTru (K := K) (pv 1))
      (pss_one (ps_par (i := 0) (j := 1) (by rfl) sc_common_divisor.nd rfl rfl (by decide) rfl rfl (pa_cons (pv 1) (pa_cons (pe_op op_mod (pv 0) (pv 1)) pa_nil)) (by rfl))))
      (pss_one (ps_ret (pv 0))))), ?_⟩
    walk_at "g"
    refine r_while (fun m σ' H' => ∃ x y : Int, σ' = [some (.int x), some (.int y)] ∧ H = H' ∧ 0 ≤ x ∧ 0 ≤ y ∧ Int.gcd x y = Int.gcd a b ∧ m = y.toNat) b.natAbs ⟨_, _, rfl, rfl, by omega, by omega, ?_, by omega⟩ ?_
    · show Int.gcd (a.natAbs : Int) (b.natAbs : Int) = Int.gcd a b
      simp [Int.gcd]
    · rintro m σ' H' ⟨x, y, rfl, rfl, hx, hy, hg, rfl⟩
      walk_at "g"
      refine r_dec (fun h => wnext ?_) (fun h => ?_)
      · walk_at "g"
        refine r_I (by show (0 : Int) < y; omega) ?_
        walk_at "g"
        have h1 := Int.emod_nonneg x h
        have h2 := Int.emod_lt_of_pos x (show 0 < y by omega)
        exact ⟨_, by omega, _, _, rfl, rfl, hy, h1, by rw [gcd_emod x y hy]; exact hg, rfl⟩
      · have h0 : y = 0 := Classical.not_not.mp h
        subst h0
        walk_at "g"
        have e : x = ((Int.gcd a b : Nat) : Int) := by
          rw [← hg, Int.gcd_zero_right]; omega
        rw [e]
        exact q
/-! #### is_point -/
def sp_is_point (K : PySem.W.Frag) : Sp := fun vs H Q _ => ∃ (v : V) (b : Bool), vs = [v] ∧ PtB K H v b ∧ ∀ H', Same H H' → Q (.bl b) H'
theorem kd_isi {H : Hp} {v : V} {n : String} (k : Kd K H v n) (c : String) (b : Bool) (hc : kitB n c = some b) {Q : VK} (q : Q (.bl b) H) : rIsi K [v, .ty c] H Q := r_isi (.ty c) k.ty (kit_ty hc) q
theorem ok_is_point (T : Tx K mg) : FnOk P w K mg base CX0 2 (He.ga K "is_point") (fdOf K (He.ga K "is_point")) ["value"] (sp_is_point K) := by
  refine T.d_is_point.ok sc_is_point (fun vs H Q E h => ?_) (fun cdv A outer s H vs Q E hr h => ?_)
  · obtain ⟨v, b, rfl, _⟩ := h
    rfl
  · obtain ⟨v, b, rfl, hb, q⟩ := h
    refine ⟨_, PSs.nox (pss_one (ps_ret (pe_and (pe_callB (kIsi (K := K)) (by rfl) T.n_isinstance (by decide +kernel) (pa_cons (pv 0) (pa_cons (pe_bltn (v := .ty "tuple") (by rfl) T.n_tuple (by decide +kernel) rfl) pa_nil))) (pe_and (pe_cmpR op_eq (pe_callB (kLen (K := K)) (by rfl) T.n_len (by decide +kernel) (pa_cons (pv 0) pa_nil)) pe_int (nomark _)) (pe_one (pe_callB (kAll (K := K) rfl) (by rfl) T.n_all (by decide +kernel) (pa_cons (pe_lc (own := [("item", 1)]) (g := (gName 1)) (tt := tYes) rfl sc_is_point.nd (kpiT (K := K) (pv 0)) (blkOk_by (own := [("item", 1)]) (N := ["value", "item"]) (sc := defScope s_is_point) (by decide +kernel)) (fun _ _ _ _ _ => (pg_name (i := 1) sc_is_point.nd rfl (Or.inl rfl))) (fun _ _ _ _ _ => pts_nil) (fun _ _ _ _ _ => (pe_call (ok_is_integer T) (hr.mono (by decide)) rfl T.g_is_integer T.d_is_integer.kp (bn_is_integer T) .nil pass0 (pa_cons (pv 1) pa_nil)))) pa_nil))))))), ?_⟩
    have two : ∀ (p : Addr) (x y : V) (m n : String), SqT K H p [x, y] → Kd K H x m → Kd K H y n → (isI x && isI y) = b → v = .ref p → tAndV (tOp rEq (tCB (rLn K) (tCons (tVar 0) tNil)) (tC (V.int 2))) (tCB (rAll K) (tCons (tLc (iTup K (tVar 0)) (gName 1) tYes (tCall (sp_is_integer K) [] E0 (tCons (tVar 1) tNil)) [1]) tNil)) [some v, none] H Q := by
      rintro p x y m n hs kx ky hi rfl
      walk_at "gx"
      refine r_lenT hs ?_
      walk_at "gx"
      refine r_dec (fun _ => ?_) (fun h => absurd rfl h)
      walk_at "gx"
      refine compT (xs := [x, y]) (by show 2 ≤ 100000; decide) (fun D i acc H' => Same H H' ∧ acc = ([isI x, isI y].take i).map V.bl) hs (fun D hD => ⟨same_new (Same.refl H) hD, rfl⟩) (fun D i acc H' _ p => sqT_same p.1 hs) ?_ ?_
      · rintro D i z acc H1 hD hz hi2 ⟨S1, rfl⟩ hacc hl
        refine r_gname ⟨rfl, ?_⟩
        walk_at "gx"
        have hi2 : i < 2 := hi2
        have kz : ∃ k, Kd K H1 z k := by
          have hz := List.mem_of_getElem? hz
          simp only [List.mem_cons, List.not_mem_nil, or_false] at hz
          rcases hz with rfl | rfl
          · exact ⟨_, kx.same S1⟩
          · exact ⟨_, ky.same S1⟩
        obtain ⟨k, kz⟩ := kz
        refine ⟨_, _, rfl, kz, ?_⟩
        refine cnext hacc hl (by omega) ⟨fun c o e => ?_, ?_⟩
        · rw [upd_ne (ne_of_none e hD)]
          exact S1 c o e
        · rcases (show i = 0 ∨ i = 1 by omega) with rfl | rfl
          · cases hz; rfl
          · cases hz; rfl
      · rintro D acc H1 hD ⟨S1, rfl⟩ hacc hl
        refine ⟨D, [isI x, isI y], rfl, SqL.of hacc, ?_⟩
        have e : [isI x, isI y].all id = b := by
          show (isI x && (isI y && true)) = b
          rw [Bool.and_true]; exact hi
        rw [e]
        exact q H1 S1
    walk_at "gx"
    cases hb with
    | yes p hp =>
      obtain ⟨a, rfl, hs⟩ := hp.pt_of
      refine kd_isi (.tup hs) _ true (by decide +kernel) ?_
      refine ⟨true, rfl, iteT ?_⟩
      exact two a _ _ _ _ hs (.int _) (.int _) rfl rfl
    | kind k hn =>
      refine kd_isi k _ false ?_ ?_
      · cases k with
        | tup e => exact absurd rfl hn
        | non => decide +kernel
        | bl x => decide +kernel
        | int x => decide +kernel
        | str x => decide +kernel
        | lst x => decide +kernel
        | dK x => decide +kernel
      · refine ⟨false, rfl, iteF ?_⟩
        exact q _ (Same.refl H)
    | @len a xs hs hn =>
      refine kd_isi (.tup hs) _ true (by decide +kernel) ?_
      refine ⟨true, rfl, iteT ?_⟩
      walk_at "gx"
      refine r_lenT hs ?_
      walk_at "gx"
      refine r_dec (fun h => absurd h (by omega)) (fun h => ?_)
      exact q _ (Same.refl H)
    | item hs kx ky hi =>
      refine kd_isi (.tup hs) _ true (by decide +kernel) ?_
      refine ⟨true, rfl, iteT ?_⟩
      exact two _ _ _ _ _ hs kx ky hi rfl
/-! #### check_point -/
def sp_check_point (K : PySem.W.Frag) : Sp := fun vs H Q E => ∃ (v : V) (b : Bool), vs = [v] ∧ PtB K H v b ∧ (b = true → ∀ H', Same H H' → Q .non H') ∧ (b = false → ∀ H', Same H H' → E (.ref (He.ga K "InvalidPoint")) none H')
theorem ok_check_point (T : Tx K mg) : FnOk P w K mg base (L2.CX P w) 3 (He.ga K "check_point") (fdOf K (He.ga K "check_point")) ["value"] (sp_check_point K) := by
  refine T.d_check_point.ok sc_check_point (fun vs H Q E h => ?_) (fun cdv A outer s H vs Q E hr h => ?_)
  · obtain ⟨v, b, rfl, _⟩ := h
    rfl
  · obtain ⟨v, b, rfl, hb, q1, q2⟩ := h
    refine ⟨_, (pss_one (ps_if (pt_not (pt_val (pe_call (ok_is_point T) (hr.mono (by decide)) rfl T.g_is_point T.d_is_point.kp (bn_is_point T) .nil pass0 (pa_cons (pv 0) pa_nil)))) (pss_one (ps_raise rfl (takes_of rfl rfl rfl rfl) (pmk_own PySem.F.excBase_ValueError T.x_InvalidPoint.x T.g_InvalidPoint T.x_InvalidPoint.k (raises_own T.x_InvalidPoint.b T.x_InvalidPoint.t) rfl))) pss_nil)), ?_⟩
    walk_at "gx"
    refine ⟨v, b, rfl, hb, fun H1 s1 => ?_⟩
    walk_at "gx"
    cases b with
    | true => exact q1 rfl H1 s1
    | false => exact q2 rfl H1 s1
/-! #### check_direction -/
inductive DirB (K : PySem.W.Frag) (H : Hp) : V → Bool → Prop where
  | yes {v : V} (p : Int × Int) : Hd K H v p → p ≠ (0, 0) → DirB K H v true
  | zero {v : V} : Hd K H v ((0, 0) : Int × Int) → DirB K H v false
  | no {v : V} : PtB K H v false → DirB K H v false
def sp_check_direction (K : PySem.W.Frag) : Sp := fun vs H Q E => ∃ (v : V) (b : Bool), vs = [v] ∧ DirB K H v b ∧ (b = true → ∀ H', Same H H' → Q .non H') ∧ (b = false → ∀ H', Same H H' → E (.ref (He.ga K "InvalidDirection")) none H')
theorem ok_check_direction (T : Tx K mg) : FnOk P w K mg base (L2.CX P w) 3 (He.ga K "check_direction") (fdOf K (He.ga K "check_direction")) ["value"] (sp_check_direction K) := by
  refine T.d_check_direction.ok sc_check_direction (fun vs H Q E h => ?_) (fun cdv A outer s H vs Q E hr h => ?_)
  · obtain ⟨v, b, rfl, _⟩ := h
    rfl
  · obtain ⟨v, b, rfl, hb, q1, q2⟩ := h
    refine ⟨_, (pss_one (ps_if (PW.pt (pw_or (pt_not (pt_val (pe_call (ok_is_point T) (hr.mono (by decide)) rfl T.g_is_point T.d_is_point.kp (bn_is_point T) .nil pass0 (pa_cons (pv 0) pa_nil)))) (pw_or1 (pt_cmpR (kEqD (K := K) hr.units) (pv 0) (pe_tup (pa_cons pe_int (pa_cons pe_int pa_nil))) (nomark _))))) (pss_one (ps_raise rfl (takes_of rfl rfl rfl rfl) (pmk_own PySem.F.excBase_ValueError T.x_InvalidDirection.x T.g_InvalidDirection T.x_InvalidDirection.k (raises_own T.x_InvalidDirection.b T.x_InvalidDirection.t) rfl))) pss_nil)), ?_⟩
    walk_at "gx"
    cases hb with
    | no hb =>
      refine ⟨v, false, rfl, hb, fun H1 s1 => ?_⟩
      walk_at "gx"
      exact q2 rfl H1 s1
    | zero hp =>
      refine ⟨v, true, rfl, .yes _ hp, fun H1 s1 => ?_⟩
      walk_at "gx"
      refine iteF ?_
      walk_at "gx"
      refine r_new fun t ht => ?_
      generalize e2 : upd H1 t _ = H2
      obtain ⟨s2, g2⟩ := fresh ht e2
      refine r_eqH (α := Int × Int) (hp.same (s1.trans s2)) (hd_pair (SqT.of g2) hd_int hd_int) ?_
      walk_at "gx"
      refine r_dec (fun _ => ?_) (fun h => absurd rfl h)
      exact q2 rfl H2 (s1.trans s2)
    | yes p hp hne =>
      refine ⟨v, true, rfl, .yes _ hp, fun H1 s1 => ?_⟩
      walk_at "gx"
      refine iteF ?_
      walk_at "gx"
      refine r_new fun t ht => ?_
      generalize e2 : upd H1 t _ = H2
      obtain ⟨s2, g2⟩ := fresh ht e2
      refine r_eqH (α := Int × Int) (hp.same (s1.trans s2)) (hd_pair (SqT.of g2) hd_int hd_int) ?_
      walk_at "gx"
      refine r_dec (fun h => absurd h hne) (fun h => ?_)
      exact q1 rfl H2 (s1.trans s2)
/-! #### cross_of -/
def crs (p q : Int × Int) : Int := p.1 * q.2 - p.2 * q.1
/-- both coordinates have fewer than n bits -/
def PBd (n : Nat) (p : Int × Int) : Prop := Bd n p.1 ∧ Bd n p.2
def sp_cross_of (K : PySem.W.Frag) : Sp := fun vs H Q _ => ∃ (v u : V) (p q : Int × Int), vs = [v, u] ∧ Hd K H v p ∧ Hd K H u q ∧ PBd 100000 p ∧ PBd 100000 q ∧ Q (.int (crs p q)) H
theorem ok_cross_of (T : Tx K mg) : FnOk P w K mg base CX0 1 (He.ga K "cross_of") (fdOf K (He.ga K "cross_of")) ["first", "second"] (sp_cross_of K) := by
  refine T.d_cross_of.ok sc_cross_of (fun vs H Q E h => ?_) (fun cdv A outer s H vs Q E hr h => ?_)
  · obtain ⟨v, u, p, q, rfl, _⟩ := h
    rfl
  · obtain ⟨v, u, p, q, rfl, hp, hq, bp, bq, k⟩ := h
    obtain ⟨a, rfl, ha⟩ := hp.pt_of
    obtain ⟨b, rfl, hb⟩ := hq.pt_of
    refine ⟨_, PSs.nox (pss_one (ps_ret (pe_op op_sub (pe_op op_mulA (pe_ix (kIxT (K := K)) (pv 0) pe_int (fun _ _ => rfl)) (pe_ix (kIxT (K := K)) (pv 1) pe_int (fun _ _ => rfl))) (pe_op op_mulA (pe_ix (kIxT (K := K)) (pv 0) pe_int (fun _ _ => rfl)) (pe_ix (kIxT (K := K)) (pv 1) pe_int (fun _ _ => rfl)))))), ?_⟩
    walk_at "gx"
    refine r_I (bp.1.ok bq.2) ?_
    walk_at "gx"
    refine r_I (bp.2.ok bq.1) ?_
    walk_at "gx"
    exact k
/-! #### content_of -/
def cont (p : Int × Int) : Int := ((Int.gcd p.1 p.2 : Nat) : Int)
def sp_content_of (K : PySem.W.Frag) : Sp := fun vs H Q _ => ∃ (v : V) (p : Int × Int), vs = [v] ∧ Hd K H v p ∧ Q (.int (cont p)) H
theorem ok_content_of (T : Tx K mg) : FnOk P w K mg base CX0 2 (He.ga K "content_of") (fdOf K (He.ga K "content_of")) ["point"] (sp_content_of K) := by
  refine T.d_content_of.ok sc_content_of (fun vs H Q E h => ?_) (fun cdv A outer s H vs Q E hr h => ?_)
  · obtain ⟨v, p, rfl, _⟩ := h
    rfl
  · obtain ⟨v, p, rfl, hp, k⟩ := h
    obtain ⟨a, rfl, ha⟩ := hp.pt_of
    refine ⟨_, PSs.nox (pss_one (ps_ret (pe_call (ok_common_divisor T) (hr.mono (by decide)) rfl T.g_common_divisor T.d_common_divisor.kp (bn_common_divisor T) .nil pass0 (pa_cons (pe_ix (kIxT (K := K)) (pv 0) pe_int (fun _ _ => rfl)) (pa_cons (pe_ix (kIxT (K := K)) (pv 0) pe_int (fun _ _ => rfl)) pa_nil))))), ?_⟩
    walk_at "gx"
    exact ⟨_, _, rfl, k⟩
/-! #### cross -/
def sp_cross (K : PySem.W.Frag) : Sp := fun vs H Q E => ∃ v u : V, vs = [v, u] ∧ ((∃ b c, PtB K H v b ∧ PtB K H u c ∧ (b && c) = false ∧ ∀ H', Same H H' → E (.ref (He.ga K "InvalidPoint")) none H') ∨
  (∃ p q : Int × Int, Hd K H v p ∧ Hd K H u q ∧ PBd 100000 p ∧ PBd 100000 q ∧ ∀ H', Same H H' → Q (.int (crs p q)) H'))
theorem ok_cross (T : Tx K mg) : FnOk P w K mg base (L2.CX P w) 4 (He.ga K "cross") (fdOf K (He.ga K "cross")) ["first", "second"] (sp_cross K) := by
  refine T.d_cross.ok sc_cross (fun vs H Q E h => ?_) (fun cdv A outer s H vs Q E hr h => ?_)
  · obtain ⟨v, u, rfl, _⟩ := h
    rfl
  · obtain ⟨v, u, rfl, h⟩ := h
    refine ⟨_, (pss_cons (ps_expr (pe_call (ok_check_point T) (hr.mono (by decide)) rfl T.g_check_point T.d_check_point.kp (bn_check_point T) .nil (passes_call (takes_of rfl rfl rfl rfl) (fun _ _ _ _ h => h)) (pa_cons (pv 0) pa_nil)))
      (pss_cons (ps_expr (pe_call (ok_check_point T) (hr.mono (by decide)) rfl T.g_check_point T.d_check_point.kp (bn_check_point T) .nil (passes_call (takes_of rfl rfl rfl rfl) (fun _ _ _ _ h => h)) (pa_cons (pv 1) pa_nil)))
      (pss_one (ps_ret (pe_call (ok_cross_of T) (hr.mono (by decide)) rfl T.g_cross_of T.d_cross_of.kp (bn_cross_of T) .nil pass0 (pa_cons (pv 0) (pa_cons (pv 1) pa_nil))))))), ?_⟩
    walk_at "gx"
    rcases h with ⟨b, c, hb, hc, hbc, q⟩ | ⟨p, r, hp, hr2, bp, br, q⟩
    · refine ⟨v, b, rfl, hb, fun eb H1 s1 => ?_, fun eb H1 s1 => q H1 s1⟩
      walk_at "gx"
      refine ⟨u, c, rfl, hc.same s1, fun ec H2 s2 => ?_, fun ec H2 s2 => q H2 (s1.trans s2)⟩
      rw [eb, ec] at hbc
      cases hbc
    · refine ⟨v, true, rfl, .yes p hp, fun eb H1 s1 => ?_, fun eb => nomatch eb⟩
      walk_at "gx"
      refine ⟨u, true, rfl, .yes r (hr2.same s1), fun ec H2 s2 => ?_, fun eb => nomatch eb⟩
      walk_at "gx"
      exact ⟨_, _, p, r, rfl, hp.same (s1.trans s2), hr2.same (s1.trans s2), bp, br, q H2 (s1.trans s2)⟩
/-! #### content -/
def sp_content (K : PySem.W.Frag) : Sp := fun vs H Q E => ∃ v : V, vs = [v] ∧ ((PtB K H v false ∧ ∀ H', Same H H' → E (.ref (He.ga K "InvalidPoint")) none H') ∨ (∃ p : Int × Int, Hd K H v p ∧ ∀ H', Same H H' → Q (.int (cont p)) H'))
theorem ok_content (T : Tx K mg) : FnOk P w K mg base (L2.CX P w) 4 (He.ga K "content") (fdOf K (He.ga K "content")) ["point"] (sp_content K) := by
  refine T.d_content.ok sc_content (fun vs H Q E h => ?_) (fun cdv A outer s H vs Q E hr h => ?_)
  · obtain ⟨v, rfl, _⟩ := h
    rfl
  · obtain ⟨v, rfl, h⟩ := h
    refine ⟨_, (pss_cons (ps_expr (pe_call (ok_check_point T) (hr.mono (by decide)) rfl T.g_check_point T.d_check_point.kp (bn_check_point T) .nil (passes_call (takes_of rfl rfl rfl rfl) (fun _ _ _ _ h => h)) (pa_cons (pv 0) pa_nil)))
      (pss_one (ps_ret (pe_call (ok_content_of T) (hr.mono (by decide)) rfl T.g_content_of T.d_content_of.kp (bn_content_of T) .nil pass0 (pa_cons (pv 0) pa_nil))))), ?_⟩
    walk_at "gx"
    rcases h with ⟨hb, q⟩ | ⟨p, hp, q⟩
    · exact ⟨v, false, rfl, hb, (fun eb => nomatch eb), fun eb H1 s1 => q H1 s1⟩
    · refine ⟨v, true, rfl, .yes p hp, fun eb H1 s1 => ?_, fun eb => nomatch eb⟩
      walk_at "gx"
      exact ⟨_, p, rfl, hp.same s1, q H1 s1⟩
/-! #### primitive_part -/
def sp_primitive_part (K : PySem.W.Frag) : Sp := fun vs H Q E => ∃ v : V, vs = [v] ∧ ((DirB K H v false ∧ ∀ H', Same H H' → E (.ref (He.ga K "InvalidDirection")) none H') ∨
  (∃ p : Int × Int, Hd K H v p ∧ p ≠ (0, 0) ∧ PBd 8000 p ∧ ∀ u H', Same H H' → Hd K H' u (p.1 / cont p, p.2 / cont p) → Q u H'))
theorem cont_pos {p : Int × Int} (h : p ≠ (0, 0)) : 0 < cont p := by
  unfold cont
  have : Int.gcd p.1 p.2 ≠ 0 := fun e => by
    have h1 : p.1 = 0 := (Int.gcd_eq_zero_iff.mp e).1
    have h2 : p.2 = 0 := (Int.gcd_eq_zero_iff.mp e).2
    exact h (Prod.ext h1 h2)
  omega
theorem cont_bd {n : Nat} {p : Int × Int} (h : p ≠ (0, 0)) (b : PBd n p) : Bd n (cont p) := by
  unfold cont Bd
  rw [Int.natAbs_natCast]
  by_cases h1 : p.1 = 0
  · have h2 : p.2 ≠ 0 := fun e => h (Prod.ext h1 e)
    refine Nat.lt_of_le_of_lt (Nat.le_of_dvd (Int.natAbs_pos.mpr h2) ?_) b.2
    exact Nat.gcd_dvd_right _ _
  · refine Nat.lt_of_le_of_lt (Nat.le_of_dvd (Int.natAbs_pos.mpr h1) ?_) b.1
    exact Nat.gcd_dvd_left _ _
theorem ok_primitive_part (T : Tx K mg) : FnOk P w K mg base (L2.CX P w) 4 (He.ga K "primitive_part") (fdOf K (He.ga K "primitive_part")) ["direction"] (sp_primitive_part K) := by
  refine T.d_primitive_part.ok sc_primitive_part (fun vs H Q E h => ?_) (fun cdv A outer s H vs Q E hr h => ?_)
  · obtain ⟨v, rfl, _⟩ := h
    rfl
  · obtain ⟨v, rfl, h⟩ := h
    refine ⟨_, (pss_cons (ps_expr (pe_call (ok_check_direction T) (hr.mono (by decide)) rfl T.g_check_direction T.d_check_direction.kp (bn_check_direction T) .nil (passes_call (takes_of rfl rfl rfl rfl) (fun _ _ _ _ h => h)) (pa_cons (pv 0) pa_nil)))
      (pss_cons (ps_set (i := 1) sc_primitive_part.nd rfl (Or.inl rfl) (pe_call (ok_content_of T) (hr.mono (by decide)) rfl T.g_content_of T.d_content_of.kp (bn_content_of T) .nil pass0 (pa_cons (pv 0) pa_nil)))
      (pss_one (ps_ret (pe_tup (pa_cons (pe_op op_fdivW (pe_ix (kIxT (K := K)) (pv 0) pe_int (fun _ _ => rfl)) (pv 1)) (pa_cons (pe_op op_fdivW (pe_ix (kIxT (K := K)) (pv 0) pe_int (fun _ _ => rfl)) (pv 1)) pa_nil))))))), ?_⟩
    walk_at "gx"
    rcases h with ⟨hb, q⟩ | ⟨p, hp, hne, bp, q⟩
    · exact ⟨v, false, rfl, hb, (fun eb => nomatch eb), fun eb H1 s1 => q H1 s1⟩
    · refine ⟨v, true, rfl, .yes p hp hne, fun eb H1 s1 => ?_, fun eb => nomatch eb⟩
      have c0 := cont_pos hne
      have cb := cont_bd hne bp
      have hp1 := hp.same s1
      obtain ⟨a, rfl, ha⟩ := hp1.pt_of
      walk_at "gx"
      refine ⟨_, p, rfl, hp1, ?_⟩
      walk_at "gx"
      refine r_I (wide_div (b := 8000) c0 cb (by decide) (by decide)) ?_
      walk_at "gx"
      refine r_I (wide_div (b := 8000) c0 cb (by decide) (by decide)) ?_
      walk_at "gx"
      refine r_new fun t ht => ?_
      generalize e2 : upd H1 t _ = H2
      obtain ⟨s2, g2⟩ := fresh ht e2
      exact q _ _ (s1.trans s2) (hd_pair (SqT.of g2) hd_int hd_int)

/-! #### _law_draws -/
def sp_law_draws (K : PySem.W.Frag) : Sp := fun vs H Q _ => ∃ (a : Addr) (ns : List Int) (k : Int), vs = [.ref a, .int k] ∧ SqL K H a (ns.map V.int) ∧ ns.length ≤ 63 ∧ 0 ≤ k ∧ k < 2 ^ 40 ∧ ∀ p H', H p = none → Same H H' → DrAt H' p → Q (.ref p) H'
theorem ok_law_draws (T : Tx K mg) : FnOk P w K mg base CX0 1 (He.ga K "_law_draws") (fdOf K (He.ga K "_law_draws")) ["_law_script", "_law_k"] (sp_law_draws K) := by
  refine T.d_law_draws.ok sc_law_draws (fun vs H Q E h => ?_) (fun cdv A outer s H vs Q E hr h => ?_)
  · obtain ⟨a, ns, k, rfl, _⟩ := h
    rfl
  · obtain ⟨a, ns, k, rfl, hS, hlen, hk0, hk1, q⟩ := h
    refine ⟨_, PSs.nox (pss_cons (ps_set (i := 2) sc_law_draws.nd rfl (Or.inl rfl) pe_int)
      (Evl.pss_cut (ps_if (pt_cmpR (kNeD (K := K) hr.units) (pv 0) (pe_lst pa_nil) (nomark _)) (pss_one (ps_set (i := 2) sc_law_draws.nd rfl (Or.inl rfl) (pe_ix (kIxL (K := K)) (pv 0) (pe_op op_mod (pv 1) (pe_callB (kLen (K := K)) (by rfl) T.n_len (by decide +kernel) (pa_cons (pv 0) pa_nil))) (fun _ _ => rfl)))) pss_nil)
      (Evl.pss_cut (ps_if (pt_cmpR op_ge (pv 1) (pe_callB (kLen (K := K)) (by rfl) T.n_len (by decide +kernel) (pa_cons (pv 0) pa_nil)) (nomark _)) (pss_one (ps_set (i := 2) sc_law_draws.nd rfl (Or.inl rfl) (pe_op op_mod (pv 2) pe_int))) pss_nil)
      (pss_cons (ps_set (i := 3) sc_law_draws.nd rfl (Or.inl rfl) (pe_op op_mod (pe_op op_mulA (pe_op op_add (pe_op op_add (pe_op op_mod (pv 2) pe_int) (pe_op op_mulA pe_int (pv 1))) pe_int) pe_int) pe_int))
      (pss_one (ps_ret (pe_lst (pa_cons (pe_op op_mulA (pv 2) (pe_callTy cInt1 (by rfl) T.n_int (by decide +kernel) (pa_cons (pe_cmpR op_ge (pv 2) (pe_op op_pow pe_int pe_int) (nomark _)) pa_nil))) (pa_cons (pv 3) pa_nil))))))))), ?_⟩
    walk_at "gx"
    refine r_cut (fun σ' H' => Same H H' ∧ ∃ c, σ' = [some (.ref a), some (.int k), some (.int c), none]) ?_ ?_
    · walk_at "gx"
      refine r_new fun p0 hp0 => ?_
      have s0 : Same H (upd H p0 (.lst [])) := same_new (Same.refl H) hp0
      have hS0 := s0.seq hS
      refine r_neH (α := List Int) (hd_list hS0 (hds_ints ns)) (hd_list (SqL.of upd_same) hds_nil) ?_
      walk_at "gx"
      refine r_ndec (fun h => ?_) (fun h => ?_)
      · walk_at "gx"
        refine r_lenL hS0 ?_
        have hpos : 0 < ns.length := List.length_pos_iff.mpr h
        rw [List.length_map]
        walk_at "gx"
        refine r_I (by show (0 : Int) < (ns.length : Int); omega) ?_
        have h1 := Int.emod_nonneg k (b := (ns.length : Int)) (by omega)
        have h2 := Int.emod_lt_of_pos k (b := (ns.length : Int)) (by omega)
        obtain ⟨j, hj⟩ : ∃ j : Nat, k % (ns.length : Int) = (j : Int) := ⟨(k % (ns.length : Int)).toNat, by omega⟩
        rw [hj] at h1 h2 ⊢
        have hj' : j < ns.length := by omega
        refine r_ixL hS0 (at_of (j := j) rfl (by rw [List.getElem?_map, List.getElem?_eq_getElem hj']; rfl)) ?_
        walk_at "gx"
        exact ⟨s0, _, rfl⟩
      · walk_at "gx"
        exact ⟨s0, _, rfl⟩
    · rintro σ' H1 ⟨s1, c, rfl⟩
      refine r_cut (fun σ' H' => H1 = H' ∧ ∃ c, σ' = [some (.ref a), some (.int k), some (.int c), none]) ?_ ?_
      · walk_at "gx"
        refine r_lenL (s1.seq hS) ?_
        walk_at "gx"
        refine r_dec (fun h => ?_) (fun h => ?_)
        · walk_at "gx"
          refine r_I (by decide) ?_
          walk_at "gx"
          exact ⟨rfl, _, rfl⟩
        · walk_at "gx"
          exact ⟨rfl, _, rfl⟩
      · rintro σ' H' ⟨rfl, c, rfl⟩
        walk_at "gx"
        refine r_I (by decide) ?_
        walk_at "gx"
        refine r_I (mul_okL (by decide) (by decide)) ?_
        walk_at "gx"
        refine r_I (mul_okR (by decide) (by decide)) ?_
        walk_at "gx"
        refine r_I (by decide) ?_
        walk_at "gx"
        refine r_I ⟨by decide, by decide, by decide⟩ ?_
        walk_at "gx"
        refine r_I (mul_okR (by split <;> decide) (by split <;> decide)) ?_
        walk_at "gx"
        refine r_new fun p hp => ?_
        refine q p _ (s1.free hp) (same_new s1 hp) ⟨_, _, upd_same, ?_, Int.emod_nonneg _ (by decide), Int.emod_lt_of_pos _ (by decide)⟩
        split
        · rename_i hc
          have hc := of_decide_eq_true hc
          rw [Int.mul_one]
          exact Int.le_trans (by decide) hc
        · rw [Int.mul_zero]; decide
/-! #### _law_draw -/
def sp_law_draw : Sp := fun vs H Q _ => ∃ (l : Addr) (n : Int), vs = [.ref l, .int n] ∧ DrAt H l ∧ 0 < n ∧ n < 2 ^ 200 ∧ ∀ d H', 0 ≤ d → d < n → Kp l H H' → DrAt H' l → Q (.int d) H'
theorem ok_law_draw (T : Tx K mg) : FnOk P w K mg base CX0 1 (He.ga K "_law_draw") (fdOf K (He.ga K "_law_draw")) ["_law_draws_here", "_law_upto"] (sp_law_draw) := by
  refine T.d_law_draw.ok sc_law_draw (fun vs H Q E h => ?_) (fun cdv A outer s H vs Q E hr h => ?_)
  · obtain ⟨l, n, rfl, _⟩ := h
    rfl
  · obtain ⟨l, n, rfl, ⟨a, b, hl, ha, hb, hb2⟩, hn, hn2, k⟩ := h
    refine ⟨_, PSs.nox (pss_cons (ps_if (pt_cmpR op_gt (pe_ix (kIxL (K := K)) (pv 0) pe_int (fun _ _ => rfl)) pe_int (nomark _)) (pss_cons (ps_set (i := 2) sc_law_draw.nd rfl (Or.inl rfl) (pe_op op_mod (pe_ix (kIxL (K := K)) (pv 0) pe_int (fun _ _ => rfl)) (pv 1)))
      (pss_cons (ps_asg (pe_op op_fdivW (pe_ix (kIxL (K := K)) (pv 0) pe_int (fun _ _ => rfl)) (pv 1)) (pg_sub (pv 0) pe_int set_list))
      (pss_one (ps_ret (pv 2))))) pss_nil)
      (pss_cons (ps_asg (pe_op op_mod (pe_op op_add (pe_op op_mulA (pe_ix (kIxL (K := K)) (pv 0) pe_int (fun _ _ => rfl)) pe_int) pe_int) pe_int) (pg_sub (pv 0) pe_int set_list))
      (pss_one (ps_ret (pe_op op_mod (pe_op op_fdivW (pe_op op_mod (pe_op op_mulA (pe_ix (kIxL (K := K)) (pv 0) pe_int (fun _ _ => rfl)) (pe_ix (kIxL (K := K)) (pv 0) pe_int (fun _ _ => rfl))) pe_int) pe_int) (pv 1)))))), ?_⟩
    walk_at "gx"
    refine r_dec (fun ha0 => ?_) (fun ha0 => ?_)
    · walk_at "gx"
      refine r_I hn ?_
      walk_at "gx"
      refine r_I (wide_div hn (b := 200) (by omega) (by decide) (by decide)) ?_
      walk_at "gx"
      refine r_setL hl rfl ?_
      walk_at "gx"
      refine k _ _ (Int.emod_nonneg _ (by omega)) (Int.emod_lt_of_pos _ hn) (Kp.refl l H).put ⟨_, _, upd_same, Int.ediv_nonneg ha (by omega), hb, hb2⟩
    · walk_at "gx"
      refine r_I (mul_okL (by omega) (by omega)) ?_
      walk_at "gx"
      refine r_I (by decide) ?_
      walk_at "gx"
      refine r_setL hl rfl ?_
      have h1 := Int.emod_nonneg (b * 48271 + 11) (b := 2147483647) (by decide)
      have h2 := Int.emod_lt_of_pos (b * 48271 + 11) (b := 2147483647) (by decide)
      generalize (b * 48271 + 11) % 2147483647 = c at h1 h2 ⊢
      have hl2 : upd H l (.lst [.int a, .int c]) l = some (.lst [.int a, .int c]) := upd_same
      walk_at "gx"
      refine r_I (mul_okL (by omega) (by omega)) ?_
      walk_at "gx"
      refine r_I (by decide) ?_
      walk_at "gx"
      refine r_I (wide_div (by decide) (b := 200) (by decide) (by decide) (by decide)) ?_
      walk_at "gx"
      refine r_I hn ?_
      refine k _ _ (Int.emod_nonneg _ (by omega)) (Int.emod_lt_of_pos _ hn) (Kp.refl l H).put ⟨_, _, hl2, ha, h1, h2⟩
/-! #### _law_integer -/
def sp_law_integer : Sp := fun vs H Q _ => ∃ l : Addr, vs = [.ref l] ∧ DrAt H l ∧ ∀ z H', -(10 ^ 24) < z → z < 10 ^ 24 → Kp l H H' → DrAt H' l → Q (.int z) H'
theorem pow_eq (a b : Int) (n : Nat) (h : b.toNat = n := by rfl) : a ^ b.toNat = a ^ n := by rw [h]
theorem ok_law_integer (T : Tx K mg) : FnOk P w K mg base CX0 2 (He.ga K "_law_integer") (fdOf K (He.ga K "_law_integer")) ["_law_draws_here"] (sp_law_integer) := by
  refine T.d_law_integer.ok sc_law_integer (fun vs H Q E h => ?_) (fun cdv A outer s H vs Q E hr h => ?_)
  · obtain ⟨l, rfl, _⟩ := h
    rfl
  · obtain ⟨l, rfl, hD, k⟩ := h
    refine ⟨_, PSs.nox (pss_cons (ps_set (i := 1) sc_law_integer.nd rfl (Or.inl rfl) (pe_ix (kIxL (K := K)) (pe_lst (pa_cons pe_int (pa_cons pe_int (pa_cons pe_int (pa_cons (pe_op op_pow pe_int pe_int) (pa_cons (pe_op op_pow pe_int pe_int) pa_nil)))))) (pe_call (ok_law_draw T) (hr.mono (by decide)) rfl T.g_law_draw T.d_law_draw.kp (bn_law_draw T) .nil pass0 (pa_cons (pv 0) (pa_cons pe_int pa_nil))) (fun _ _ => rfl)))
      (pss_cons (ps_set (i := 2) sc_law_integer.nd rfl (Or.inl rfl) (pe_op op_add (pe_op op_mulA (pe_call (ok_law_draw T) (hr.mono (by decide)) rfl T.g_law_draw T.d_law_draw.kp (bn_law_draw T) .nil pass0 (pa_cons (pv 0) (pa_cons (pe_op op_pow pe_int pe_int) pa_nil))) (pe_op op_pow pe_int pe_int)) (pe_call (ok_law_draw T) (hr.mono (by decide)) rfl T.g_law_draw T.d_law_draw.kp (bn_law_draw T) .nil pass0 (pa_cons (pv 0) (pa_cons (pe_op op_pow pe_int pe_int) pa_nil)))))
      (pss_cons (ps_set (i := 3) sc_law_integer.nd rfl (Or.inl rfl) (pe_ix (kIxL (K := K)) (pe_lst (pa_cons (pe_call (ok_law_draw T) (hr.mono (by decide)) rfl T.g_law_draw T.d_law_draw.kp (bn_law_draw T) .nil pass0 (pa_cons (pv 0) (pa_cons (pe_op op_pow pe_int pe_int) pa_nil))) (pa_cons (pv 2) pa_nil))) (pe_callTy cInt1 (by rfl) T.n_int (by decide +kernel) (pa_cons (pe_cmpR op_eq (pv 1) (pe_op op_pow pe_int pe_int) (nomark _)) pa_nil)) (fun _ _ => rfl)))
      (pss_one (ps_ret (pe_op op_mulA (pe_op op_mod (pv 3) (pv 1)) (pe_ix (kIxL (K := K)) (pe_lst (pa_cons pe_int (pa_cons (pe_un un_neg pe_int) pa_nil))) (pe_call (ok_law_draw T) (hr.mono (by decide)) rfl T.g_law_draw T.d_law_draw.kp (bn_law_draw T) .nil pass0 (pa_cons (pv 0) (pa_cons pe_int pa_nil))) (fun _ _ => rfl)))))))), ?_⟩
    walk_at "gx"
    refine r_I ⟨by decide, by decide, by decide⟩ ?_
    walk_at "gx"
    refine r_I ⟨by decide, by decide, by decide⟩ ?_
    walk_at "gx"
    refine r_new fun p hp => ?_
    walk_at "gx"
    refine ⟨l, 5, rfl, hD.new hp, by decide, by decide, fun d H1 hd0 hd1 k1 D1 => ?_⟩
    have hpl : p ≠ l := hD.ne hp
    refine r_pickI [7, 7, 1001, 10 ^ 9, 10 ^ 24] (SqL.of (k1 _ _ hpl upd_same)) hd0 (by exact hd1) fun sz hsz => ?_
    have K1 : Kp l H H1 := ((Kp.refl l H).new hp).trans k1
    have hs0 : 0 < sz ∧ sz ≤ 10 ^ 24 := by
      simp only [List.mem_cons, List.not_mem_nil, or_false] at hsz
      omega
    walk_at "gx"
    refine r_I ⟨by decide, by decide, by decide⟩ ?_
    walk_at "gx"
    refine ⟨l, _, rfl, D1, by decide, by decide, fun d2 H2 hd20 hd21 k2 D2 => ?_⟩
    walk_at "gx"
    refine r_I ⟨by decide, by decide, by decide⟩ ?_
    have hd21 : d2 < 10 ^ 9 := hd21
    refine r_I (mul_okL (by omega) (by omega)) ?_
    walk_at "gx"
    refine r_I ⟨by decide, by decide, by decide⟩ ?_
    walk_at "gx"
    refine ⟨l, _, rfl, D2, by decide, by decide, fun d3 H3 hd30 hd31 k3 D3 => ?_⟩
    have hd31 : d3 < 10 ^ 9 := hd31
    walk_at "gx"
    refine r_I ⟨by decide, by decide, by decide⟩ ?_
    walk_at "gx"
    refine ⟨l, _, rfl, D3, by decide, by decide, fun d4 H4 hd40 hd41 k4 D4 => ?_⟩
    walk_at "gx"
    refine r_new fun p2 hp2 => ?_
    walk_at "gx"
    refine r_I ⟨by decide, by decide, by decide⟩ ?_
    walk_at "gx"
    refine r_pickI [d4, d2 * 10 ^ 15 + d3] (SqL.of upd_same) (by split <;> decide) (by show _ < (2 : Int); split <;> decide) fun z hz => ?_
    walk_at "gx"
    refine r_I (by exact hs0.1) ?_
    walk_at "gx"
    refine r_new fun p3 hp3 => ?_
    walk_at "gx"
    have K4 : Kp l H (upd H4 p2 (.lst [.int d4, .int (d2 * 10 ^ 15 + d3)])) := (((K1.trans k2).trans k3).trans k4).new hp2
    have D5 := D4.new (o := .lst [.int d4, .int (d2 * 10 ^ 15 + d3)]) hp2
    refine ⟨l, 2, rfl, D5.new hp3, by decide, by decide, fun d5 H5 hd50 hd51 k5 D5' => ?_⟩
    refine r_pickI [1, -1] (SqL.of (k5 _ _ (D5.ne hp3) upd_same)) hd50 (by exact hd51) fun u hu => ?_
    have hu : u = 1 ∨ u = -1 := by simpa using hu
    have m0 := Int.emod_nonneg z (b := sz) (by omega)
    have m1 := Int.emod_lt_of_pos z hs0.1
    refine r_I (mul_okR (by omega) (by omega)) ?_
    refine k _ _ ?_ ?_ ((K4.new hp3).trans k5) D5'
    · rcases hu with rfl | rfl <;> omega
    · rcases hu with rfl | rfl <;> omega

/-! #### _law_divisor -/
def sp_law_divisor : Sp := fun vs H Q _ => ∃ a b : Int, vs = [.int a, .int b] ∧ Q (.int (Int.gcd a b)) H
theorem ok_law_divisor (T : Tx K mg) : FnOk P w K mg base CX0 1 (He.ga K "_law_divisor") (fdOf K (He.ga K "_law_divisor")) ["_law_first", "_law_second"] (sp_law_divisor) := by
  refine T.d_law_divisor.ok sc_law_divisor (fun vs H Q E h => ?_) (fun cdv A outer s H vs Q E hr h => ?_)
  · obtain ⟨a, b, rfl, _⟩ := h
    rfl
  · obtain ⟨a, b, rfl, q⟩ := h
    refine ⟨_, PSs.nox (pss_cons (ps_while PassesOwn.never (pt_cmpR op_ne (pv 1) pe_int (nomark _))
      (pss_one (ps_par (i := 0) (j := 1) (by rfl) sc_law_divisor.nd rfl rfl (by decide) rfl rfl (pa_cons (pv 1) (pa_cons (pe_op op_modN (pv 0) (pv 1)) pa_nil)) (by rfl))))
      (pss_one (ps_ret (pe_callB cAbs (by rfl) T.n_abs (by decide +kernel) (pa_cons (pv 0) pa_nil))))), ?_⟩
    walk_at "g"
    refine r_while (fun m σ' H' => ∃ x y : Int, σ' = [some (.int x), some (.int y)] ∧ H = H' ∧ Int.gcd x y = Int.gcd a b ∧ m = y.natAbs) b.natAbs ⟨_, _, rfl, rfl, rfl, rfl⟩ ?_
    rintro m σ' H' ⟨x, y, rfl, rfl, hg, rfl⟩
    walk_at "g"
    refine r_ndec (fun h => wnext ?_) (fun h => ?_)
    · walk_at "g"
      refine r_I h ?_
      walk_at "g"
      exact ⟨_, fmod_lt x y h, _, _, rfl, rfl, by rw [gcd_fmod]; exact hg, rfl⟩
    · subst h
      walk_at "g"
      have e : (x.natAbs : Int) = ((Int.gcd a b : Nat) : Int) := by rw [← hg, Int.gcd_zero_right]
      rw [e]
      exact q
/-! #### _law_error -/
def sp_law_error (K : PySem.W.Frag) : Sp := fun vs H Q _ => ∃ (f : Int) (v : V), vs = [.int f, v] ∧ ((0 ≤ f ∧ f < 3 ∧ PtB K H v false ∧ ∀ H', Same H H' → Q (.str "point") H') ∨ (f = 3 ∧ DirB K H v false ∧ ∀ H', Same H H' → Q (.str "direction") H'))
theorem ok_law_error (T : Tx K mg) : FnOk P w K mg base CX0 5 (He.ga K "_law_error") (fdOf K (He.ga K "_law_error")) ["_law_function", "_law_value"] (sp_law_error K) := by
  refine T.d_law_error.ok sc_law_error (fun vs H Q E h => ?_) (fun cdv A outer s H vs Q E hr h => ?_)
  · obtain ⟨f, v, rfl, _⟩ := h
    rfl
  · obtain ⟨f, v, rfl, h⟩ := h
    refine ⟨_, PSs.nox (pss_cons (ps_try_many rfl rfl takes0 (fun W pn xe tk pn_own => (pss_one (ps_if (pt_cmpR op_eq (pv 0) pe_int (nomark _)) (pss_one (ps_expr (pe_callS (ok_cross T) (hr.mono (by decide)) rfl T.g_cross T.d_cross.kp (bn_cross T)  (fun σ => passAt tk σ) (pa_cons (pv 1) (pa_cons (pe_tup (pa_cons pe_int (pa_cons pe_int pa_nil))) pa_nil))))) (pss_one (ps_if (pt_cmpR op_eq (pv 0) pe_int (nomark _)) (pss_one (ps_expr (pe_callS (ok_cross T) (hr.mono (by decide)) rfl T.g_cross T.d_cross.kp (bn_cross T)  (fun σ => passAt tk σ) (pa_cons (pe_tup (pa_cons pe_int (pa_cons pe_int pa_nil))) (pa_cons (pv 1) pa_nil))))) (pss_one (ps_if (pt_cmpR op_eq (pv 0) pe_int (nomark _)) (pss_one (ps_expr (pe_callS (ok_content T) (hr.mono (by decide)) rfl T.g_content T.d_content.kp (bn_content T)  (fun σ => passAt tk σ) (pa_cons (pv 1) pa_nil)))) (pss_one (ps_expr (pe_callS (ok_primitive_part T) (hr.mono (by decide)) rfl T.g_primitive_part T.d_primitive_part.kp (bn_primitive_part T)  (fun σ => passAt tk σ) (pa_cons (pv 1) pa_nil))))))))))) (.cons ⟨rfl, by decide, .inl T.g_InvalidPoint⟩ (fun a oe cls d pn hz hf => (pss_one (ps_ret pe_str))) (.cons ⟨rfl, by decide, .inl T.g_InvalidDirection⟩ (fun a oe cls d pn hz hf => (pss_one (ps_ret pe_str))) .nil)))
      (pss_one (ps_ret pe_str))), ?_⟩
    walk_at "gx"
    refine r_dec (fun e => ?_) (fun e0 => ?_)
    · subst e
      walk_at "gx"
      refine r_new fun t ht => ?_
      generalize e2 : upd H t _ = H2
      obtain ⟨s2, g2⟩ := fresh ht e2
      rcases h with ⟨_, _, hv, q⟩ | ⟨h, _⟩
      · refine ⟨_, _, rfl, .inl ⟨_, _, hv.same s2, .yes (1, 2) (hd_pair (SqT.of g2) hd_int hd_int), rfl, fun H3 s3 => ?_⟩⟩
        refine ⟨true, T.m_InvalidPoint_InvalidPoint, fun _ a ha => ?_, fun z => nomatch z⟩
        walk_at "gx"
        exact q _ (s2.trans s3)
      · exact absurd h (by decide)
    walk_at "gx"
    refine r_dec (fun e => ?_) (fun e1 => ?_)
    · subst e
      walk_at "gx"
      refine r_new fun t ht => ?_
      generalize e2 : upd H t _ = H2
      obtain ⟨s2, g2⟩ := fresh ht e2
      walk_at "gx"
      rcases h with ⟨_, _, hv, q⟩ | ⟨h, _⟩
      · refine ⟨_, _, rfl, .inl ⟨_, _, .yes (1, 2) (hd_pair (SqT.of g2) hd_int hd_int), hv.same s2, rfl, fun H3 s3 => ?_⟩⟩
        refine ⟨true, T.m_InvalidPoint_InvalidPoint, fun _ a ha => ?_, fun z => nomatch z⟩
        walk_at "gx"
        exact q _ (s2.trans s3)
      · exact absurd h (by decide)
    walk_at "gx"
    refine r_dec (fun e => ?_) (fun e2 => ?_)
    · subst e
      walk_at "gx"
      rcases h with ⟨_, _, hv, q⟩ | ⟨h, _⟩
      · refine ⟨_, rfl, .inl ⟨hv, fun H3 s3 => ?_⟩⟩
        refine ⟨true, T.m_InvalidPoint_InvalidPoint, fun _ a ha => ?_, fun z => nomatch z⟩
        walk_at "gx"
        exact q _ s3
      · exact absurd h (by decide)
    walk_at "gx"
    rcases h with ⟨_, _, hv, q⟩ | ⟨h, hv, q⟩
    · omega
    · refine ⟨_, rfl, .inl ⟨hv, fun H3 s3 => ?_⟩⟩
      refine ⟨false, T.m_InvalidDirection_InvalidPoint, (fun z => nomatch z), fun _ => ⟨true, T.m_InvalidDirection_InvalidDirection, fun _ a ha => ?_, fun z => nomatch z⟩⟩
      walk_at "gx"
      exact q _ s3
/-! #### law -/
theorem bd_lit {n : Nat} {i k : Int} (h : -k ≤ i ∧ i ≤ k) (hk : k.toNat < 2 ^ n) : Bd n i := Nat.lt_of_le_of_lt (show i.natAbs ≤ k.toNat by omega) hk
theorem Bd.div {n : Nat} {i j : Int} (h : Bd n i) (hj : 0 < j) : Bd n (i / j) := Nat.lt_of_le_of_lt (Int.natAbs_ediv_le_natAbs i j) h
theorem prim_facts {x y f : Int} (hne : ((x, y) : Int × Int) ≠ (0, 0)) (hf : 0 < f) : x * f / (((Int.gcd x y : Nat) : Int) * f) * ((Int.gcd x y : Nat) : Int) = x ∧ y * f / (((Int.gcd x y : Nat) : Int) * f) * ((Int.gcd x y : Nat) : Int) = y ∧
    ((Int.gcd (x * f / (((Int.gcd x y : Nat) : Int) * f)) (y * f / (((Int.gcd x y : Nat) : Int) * f)) : Nat) : Int) = 1 := by
  have hg : 0 < Int.gcd x y := by
    have h : 0 < ((Int.gcd x y : Nat) : Int) := cont_pos hne
    omega
  have d1 : ((Int.gcd x y : Nat) : Int) ∣ x := Int.gcd_dvd_left ..
  have d2 : ((Int.gcd x y : Nat) : Int) ∣ y := Int.gcd_dvd_right ..
  rw [Int.mul_ediv_mul_of_pos_left _ _ hf, Int.mul_ediv_mul_of_pos_left _ _ hf]
  refine ⟨Int.ediv_mul_cancel d1, Int.ediv_mul_cancel d2, ?_⟩
  rw [Int.gcd_ediv d1 d2, Int.natAbs_natCast, Nat.div_self hg]; rfl
theorem ok_law (T : Tx K mg) : FnOk P w K mg base CX0 6 (He.ga K "law") (fdOf K (He.ga K "law")) ["_law_script"] (sp_law K) := by
  refine T.d_law.ok sc_law (fun vs H Q E h => ?_) (fun cdv A outer s H vs Q E hr h => ?_)
  · obtain ⟨a, ns, rfl, _⟩ := h
    rfl
  · obtain ⟨a, ns, rfl, hS, hlen, q⟩ := h
    refine ⟨_, PSs.nox (pss_cons (ps_for PassesOwn.never rfl (kpiL (K := K) (pe_lst (pa_cons pe_non (pa_cons (pe_tup pa_nil) (pa_cons (pe_tup (pa_cons pe_int pa_nil)) (pa_cons (pe_tup (pa_cons pe_int (pa_cons pe_int (pa_cons pe_int pa_nil)))) (pa_cons (pe_lst (pa_cons pe_int (pa_cons pe_int pa_nil))) (pa_cons (pe_tup (pa_cons pe_int (pa_cons pe_bl pa_nil))) (pa_cons (pe_tup (pa_cons pe_str (pa_cons pe_int pa_nil))) (pa_cons pe_int (pa_cons pe_str (pa_cons pe_dnewK pa_nil)))))))))))) (pg_name (i := 1) sc_law.nd rfl (Or.inr rfl))
      (pss_cons (ps_if (pt_cmpR op_notBl (pe_call (ok_is_point T) (hr.mono (by decide)) rfl T.g_is_point T.d_is_point.kp (bn_is_point T) .nil pass0 (pa_cons (pv 1) pa_nil)) pe_bl (nomark _)) (pss_one (ps_ret pe_bl)) pss_nil)
      (pss_one (ps_if (pt_cmpR (kNeD (K := K) hr.units) (pe_lc (own := [("_law_function", 10)]) (g := (gName 10)) (tt := tYes) rfl sc_law.nd (pi_range1 rfl T.n_range (pa_cons pe_int pa_nil)) (blkOk_by (own := [("_law_function", 10)]) (N := ["_law_script", "_law_value", "_law_k", "_law_draws_here", "_law_one", "_law_two", "_law_factor", "_law_many", "_law_divisor_here", "_law_found", "_law_function"]) (sc := defScope s_law) (by decide +kernel)) (fun _ _ _ _ _ => (pg_name (i := 10) sc_law.nd rfl (Or.inl rfl))) (fun _ _ _ _ _ => pts_nil) (fun _ _ _ _ _ => (pe_call (ok_law_error T) (hr.mono (by decide)) rfl T.g_law_error T.d_law_error.kp (bn_law_error T) .nil pass0 (pa_cons (pv 10) (pa_cons (pv 1) pa_nil))))) (pe_lst (pa_cons pe_str (pa_cons pe_str (pa_cons pe_str (pa_cons pe_str pa_nil))))) (nomark _)) (pss_one (ps_ret pe_bl)) pss_nil))))
      (pss_cons (ps_if (PW.pt (pw_or (pt_cmpR op_ne (pe_call (ok_law_error T) (hr.mono (by decide)) rfl T.g_law_error T.d_law_error.kp (bn_law_error T) .nil pass0 (pa_cons pe_int (pa_cons (pe_tup (pa_cons pe_int (pa_cons pe_int pa_nil))) pa_nil))) pe_str (nomark _)) (pw_or1 (pt_cmpR op_ne (pe_call (ok_content T) (hr.mono (by decide)) rfl T.g_content T.d_content.kp (bn_content T) .nil passL (pa_cons (pe_tup (pa_cons pe_int (pa_cons pe_int pa_nil))) pa_nil)) pe_int (nomark _))))) (pss_one (ps_ret pe_bl)) pss_nil)
      (pss_cons (ps_for PassesOwn.never rfl (pi_range1 rfl T.n_range (pa_cons (pe_callB (cMax2 rfl) (by rfl) T.n_max (by decide +kernel) (pa_cons pe_int (pa_cons (pe_callB (kLen (K := K)) (by rfl) T.n_len (by decide +kernel) (pa_cons (pv 0) pa_nil)) pa_nil))) pa_nil)) (pg_name (i := 2) sc_law.nd rfl (Or.inl rfl))
      (pss_cons (ps_set (i := 3) sc_law.nd rfl (Or.inl rfl) (pe_call (ok_law_draws T) (hr.mono (by decide)) rfl T.g_law_draws T.d_law_draws.kp (bn_law_draws T) .nil pass0 (pa_cons (pv 0) (pa_cons (pv 2) pa_nil))))
      (pss_cons (ps_par (i := 4) (j := 5) (by rfl) sc_law.nd rfl rfl (by decide) rfl rfl (pa_cons (pe_tup (pa_cons (pe_call (ok_law_integer T) (hr.mono (by decide)) rfl T.g_law_integer T.d_law_integer.kp (bn_law_integer T) .nil pass0 (pa_cons (pv 3) pa_nil)) (pa_cons (pe_call (ok_law_integer T) (hr.mono (by decide)) rfl T.g_law_integer T.d_law_integer.kp (bn_law_integer T) .nil pass0 (pa_cons (pv 3) pa_nil)) pa_nil))) (pa_cons (pe_tup (pa_cons (pe_call (ok_law_integer T) (hr.mono (by decide)) rfl T.g_law_integer T.d_law_integer.kp (bn_law_integer T) .nil pass0 (pa_cons (pv 3) pa_nil)) (pa_cons (pe_call (ok_law_integer T) (hr.mono (by decide)) rfl T.g_law_integer T.d_law_integer.kp (bn_law_integer T) .nil pass0 (pa_cons (pv 3) pa_nil)) pa_nil))) pa_nil)) (by rfl))
      (pss_cons (ps_set (i := 6) sc_law.nd rfl (Or.inl rfl) (pe_op op_add pe_int (pe_call (ok_law_draw T) (hr.mono (by decide)) rfl T.g_law_draw T.d_law_draw.kp (bn_law_draw T) .nil pass0 (pa_cons (pv 3) (pa_cons (pe_op op_pow pe_int pe_int) pa_nil)))))
      (pss_cons (ps_set (i := 7) sc_law.nd rfl (Or.inl rfl) (pe_tup (pa_cons (pe_op op_mulA (pe_ix (kIxT (K := K)) (pv 4) pe_int (fun _ _ => rfl)) (pv 6)) (pa_cons (pe_op op_mulA (pe_ix (kIxT (K := K)) (pv 4) pe_int (fun _ _ => rfl)) (pv 6)) pa_nil))))
      (pss_cons (ps_if (PW.pt (pw_or (pt_cmpR op_notBl (pe_call (ok_is_point T) (hr.mono (by decide)) rfl T.g_is_point T.d_is_point.kp (bn_is_point T) .nil pass0 (pa_cons (pv 4) pa_nil)) pe_bl (nomark _)) (pw_or1 (pt_cmpR op_ne (pe_call (ok_cross T) (hr.mono (by decide)) rfl T.g_cross T.d_cross.kp (bn_cross T) .nil passL (pa_cons (pv 4) (pa_cons (pv 5) pa_nil))) (pe_op op_sub (pe_op op_mulA (pe_ix (kIxT (K := K)) (pv 4) pe_int (fun _ _ => rfl)) (pe_ix (kIxT (K := K)) (pv 5) pe_int (fun _ _ => rfl))) (pe_op op_mulA (pe_ix (kIxT (K := K)) (pv 4) pe_int (fun _ _ => rfl)) (pe_ix (kIxT (K := K)) (pv 5) pe_int (fun _ _ => rfl)))) (nomark _))))) (pss_one (ps_ret pe_bl)) pss_nil)
      (pss_cons (ps_if (PW.pt (pw_or (pt_cmpR op_ne (pe_call (ok_cross T) (hr.mono (by decide)) rfl T.g_cross T.d_cross.kp (bn_cross T) .nil passL (pa_cons (pv 5) (pa_cons (pv 4) pa_nil))) (pe_op op_sub pe_int (pe_call (ok_cross T) (hr.mono (by decide)) rfl T.g_cross T.d_cross.kp (bn_cross T) .nil passL (pa_cons (pv 4) (pa_cons (pv 5) pa_nil)))) (nomark _)) (pw_or1 (pt_cmpR op_ne (pe_call (ok_cross T) (hr.mono (by decide)) rfl T.g_cross T.d_cross.kp (bn_cross T) .nil passL (pa_cons (pv 4) (pa_cons (pv 7) pa_nil))) pe_int (nomark _))))) (pss_one (ps_ret pe_bl)) pss_nil)
      (pss_cons (ps_set (i := 8) sc_law.nd rfl (Or.inl rfl) (pe_call (ok_law_divisor T) (hr.mono (by decide)) rfl T.g_law_divisor T.d_law_divisor.kp (bn_law_divisor T) .nil pass0 (pa_cons (pe_ix (kIxT (K := K)) (pv 4) pe_int (fun _ _ => rfl)) (pa_cons (pe_ix (kIxT (K := K)) (pv 4) pe_int (fun _ _ => rfl)) pa_nil))))
      (pss_cons (ps_if (PW.pt (pw_or (pt_cmpR op_ne (pe_call (ok_content T) (hr.mono (by decide)) rfl T.g_content T.d_content.kp (bn_content T) .nil passL (pa_cons (pv 4) pa_nil)) (pv 8) (nomark _)) (pw_or1 (pt_cmpR op_ne (pe_call (ok_content T) (hr.mono (by decide)) rfl T.g_content T.d_content.kp (bn_content T) .nil passL (pa_cons (pv 7) pa_nil)) (pe_op op_mulA (pv 8) (pv 6)) (nomark _))))) (pss_one (ps_ret pe_bl)) pss_nil)
      (pss_one (ps_if (pt_cmpR (kNeD (K := K) hr.units) (pv 4) (pe_tup (pa_cons pe_int (pa_cons pe_int pa_nil))) (nomark _)) (pss_cons (ps_set (i := 9) sc_law.nd rfl (Or.inl rfl) (pe_call (ok_primitive_part T) (hr.mono (by decide)) rfl T.g_primitive_part T.d_primitive_part.kp (bn_primitive_part T) .nil passL (pa_cons (pv 7) pa_nil)))
      (pss_one (ps_if (PW.pt (pw_or (pt_cmpR op_ne (pe_call (ok_content T) (hr.mono (by decide)) rfl T.g_content T.d_content.kp (bn_content T) .nil passL (pa_cons (pv 9) pa_nil)) pe_int (nomark _)) (pw_or1 (pt_cmpR (kNeD (K := K) hr.units) (pe_tup (pa_cons (pe_op op_mulA (pe_ix (kIxT (K := K)) (pv 9) pe_int (fun _ _ => rfl)) (pv 8)) (pa_cons (pe_op op_mulA (pe_ix (kIxT (K := K)) (pv 9) pe_int (fun _ _ => rfl)) (pv 8)) pa_nil))) (pv 4) (nomark _))))) (pss_one (ps_ret pe_bl)) pss_nil))) pss_nil)))))))))))
      (pss_one (ps_ret pe_bl))))), ?_⟩
    walk_at "gx"
    refine r_new fun t0 ht0 => ?_
    generalize e0 : upd H t0 _ = H0
    obtain ⟨s0, g0⟩ := fresh ht0 e0
    walk_at "gx"
    refine r_new fun t1 ht1 => ?_
    generalize e1 : upd H0 t1 _ = H1
    obtain ⟨s1, g1⟩ := fresh ht1 e1
    walk_at "gx"
    refine r_new fun t2 ht2 => ?_
    generalize e2 : upd H1 t2 _ = H2
    obtain ⟨s2, g2⟩ := fresh ht2 e2
    walk_at "gx"
    refine r_new fun t3 ht3 => ?_
    generalize e3 : upd H2 t3 _ = H3
    obtain ⟨s3, g3⟩ := fresh ht3 e3
    walk_at "gx"
    refine r_new fun t4 ht4 => ?_
    generalize e4 : upd H3 t4 _ = H4
    obtain ⟨s4, g4⟩ := fresh ht4 e4
    walk_at "gx"
    refine r_new fun t5 ht5 => ?_
    generalize e5 : upd H4 t5 _ = H5
    obtain ⟨s5, g5⟩ := fresh ht5 e5
    walk_at "gx"
    intro t6 ht6
    generalize e6 : upd H5 t6 _ = H6
    obtain ⟨s6, g6⟩ := fresh ht6 e6
    refine r_new fun t7 ht7 => ?_
    generalize hL : [V.non, .ref t0, .ref t1, .ref t2, .ref t3, .ref t4, .ref t5, .int 5, .str "12", .ref t6] = xs
    generalize e7 : upd H6 t7 _ = H7
    obtain ⟨s7, hx⟩ := fresh ht7 e7
    have S7 := ((((((s0.trans s1).trans s2).trans s3).trans s4).trans s5).trans s6).trans s7
    have G6 := s7 _ _ g6
    have S67 := s6.trans s7
    have G5 := S67 _ _ g5
    have S57 := s5.trans S67
    have G4 := S57 _ _ g4
    have S47 := s4.trans S57
    have G3 := S47 _ _ g3
    have S37 := s3.trans S47
    have G2 := S37 _ _ g2
    have S27 := s2.trans S37
    have G1 := S27 _ _ g1
    have S17 := s1.trans S27
    have G0 := S17 _ _ g0
    have hk : ∀ v ∈ xs, PtB K H7 v false := by
      subst hL
      simp only [List.mem_cons, List.not_mem_nil, or_false]
      rintro v (rfl | rfl | rfl | rfl | rfl | rfl | rfl | rfl | rfl | rfl)
      · exact .kind .non (by decide)
      · exact .len (SqT.of G0) (by decide)
      · exact .len (SqT.of G1) (by decide)
      · exact .len (SqT.of G2) (by decide)
      · exact .kind (.lst (SqL.of G3)) (by decide)
      · exact .item (SqT.of G4) (.int 1) (.bl true) rfl
      · exact .item (SqT.of G5) (.str _) (.int 2) rfl
      · exact .kind (.int 5) (by decide)
      · exact .kind (.str _) (by decide)
      · exact .kind (.dK G6) (by decide)
    clear hL e0 e1 e2 e3 e4 e5 e6 e7 s0 s1 s2 s3 s4 s5 s6 s7 S67 S57 S47 S37 S27 S17 G0 G1 G2 G3 G4 G5 G6 g0 g1 g2 g3 g4 g5 g6
    refine loopL (xs := xs) (fun i σ' H' => Same H7 H' ∧ ∃ o, σ' = [some (.ref a), o, none, none, none, none, none, none, none, none, none]) ⟨Same.refl _, _, rfl⟩ (fun i σ' H' _ q => q.1.seq (SqL.of hx)) ?_ ?_
    · rintro i x σ' H8 hi ⟨sm, o, rfl⟩
      have hv := (hk x (List.mem_of_getElem? hi)).same sm
      walk_at "gx"
      refine ⟨x, false, rfl, hv, fun H9 s9 => ?_⟩
      walk_at "gx"
      refine r_ndec (fun h => absurd rfl h) (fun _ => ?_)
      have hv := hv.same s9
      walk_at "gx"
      refine compR1 (by decide) (fun D i acc H' => Same H9 H' ∧ acc = (([("point" : Str), "point", "point", "direction"] : List Str).take i).map V.str) (fun D hD => ⟨same_new (Same.refl _) hD, rfl⟩) ?_ ?_
      · rintro D i acc H10 hD hi ⟨S10, rfl⟩ hacc hl
        have fin : ∀ (y : Str) H', Same H10 H' → ([("point" : Str), "point", "point", "direction"] : List Str)[i]? = some y → CNext D (fun i acc H' => Same H9 H' ∧ acc = (([("point" : Str), "point", "point", "direction"] : List Str).take i).map V.str) i (.str y) H' := fun y H' s' hy => by
          refine cnext (s' _ _ hacc) hl (by omega) ⟨fun c o e => ?_, ?_⟩
          · rw [upd_ne (ne_of_none e hD)]
            exact s' _ _ (S10 c o e)
          · rw [List.take_succ, hy, List.map_append]; rfl
        walk_at "gx"
        refine ⟨_, x, rfl, ?_⟩
        by_cases h3 : i = 3
        · subst h3
          exact .inr ⟨rfl, .no (hv.same S10), fun H' s' => fin _ _ s' rfl⟩
        · refine .inl ⟨by omega, by omega, hv.same S10, fun H' s' => fin _ _ s' ?_⟩
          rcases (show i = 0 ∨ i = 1 ∨ i = 2 by omega) with rfl | rfl | rfl <;> rfl
      · rintro D acc H10 hD ⟨S10, rfl⟩ hacc hl
        walk_at "gx"
        refine r_new fun p hp => ?_
        generalize e11 : upd H10 p _ = H11
        obtain ⟨s11, g11⟩ := fresh hp e11
        refine r_neD (d := .list [.str "point", .str "point", .str "point", .str "direction"]) (e := .list [.str "point", .str "point", .str "point", .str "direction"]) (.lst (SqL.of (s11 _ _ hacc)) (.cons (.str _) (.cons (.str _) (.cons (.str _) (.cons (.str _) .nil))))) (.lst (SqL.of g11) (.cons (.str _) (.cons (.str _) (.cons (.str _) (.cons (.str _) .nil))))) (by decide +kernel) (by decide +kernel) ?_
        walk_at "gx"
        exact ⟨((sm.trans s9).trans S10).trans s11, _, rfl⟩
    · rintro σ' H8 ⟨sm, o, rfl⟩
      have S8 := S7.trans sm
      walk_at "gx"
      refine r_new fun p hp => ?_
      generalize e9 : upd H8 p _ = H9
      obtain ⟨s9, g9⟩ := fresh hp e9
      have S9 := S8.trans s9
      walk_at "gx"
      refine ⟨3, .ref p, rfl, .inr ⟨rfl, .zero (hd_pair (SqT.of g9) hd_int hd_int), fun H10 s10 => ?_⟩⟩
      have S10 := S9.trans s10
      walk_at "gx"
      refine r_ndec (fun h => absurd rfl h) (fun _ => ?_)
      walk_at "gx"
      refine r_new fun p2 hp2 => ?_
      generalize e11 : upd H10 p2 _ = H11
      obtain ⟨s11, g11⟩ := fresh hp2 e11
      have S11 := S10.trans s11
      walk_at "gx"
      refine ⟨.ref p2, rfl, .inr ⟨(0, 0), hd_pair (SqT.of g11) hd_int hd_int, fun H12 s12 => ?_⟩⟩
      have S12 := S11.trans s12
      walk_at "gx"
      refine r_ndec (fun h => absurd rfl h) (fun _ => ?_)
      walk_at "gx"
      refine r_lenL (S12.seq hS) ?_
      rw [List.length_map]
      walk_at "gx"
      refine loopR1 (by omega) (fun i σ' H' => Same H H' ∧ ∃ o1 o2 o3 o4 o5 o6 o7 o8 o9, σ' = [some (.ref a), o1, o2, o3, o4, o5, o6, o7, o8, o9, none]) ⟨S12, _, _, _, _, _, _, _, _, _, rfl⟩ ?_ ?_
      · clear S7 S8 S9 S10 S11 S12 g9 g11 e9 e11
        rintro i σ' H1 hi ⟨S1, o1, o2, o3, o4, o5, o6, o7, o8, o9, rfl⟩
        walk_at "gx"
        refine ⟨a, ns, _, rfl, S1.seq hS, hlen, by omega, by omega, fun l H2 hl0 s2 D2 => ?_⟩
        have hlH : H l = none := S1.free hl0
        have S2 := S1.trans s2
        walk_at "gx"
        refine ⟨l, rfl, D2, fun x H3 hx0 hx1 k3 D3 => ?_⟩
        have S3 := same_kp S2 hlH k3
        walk_at "gx"
        refine ⟨l, rfl, D3, fun y H4 hy0 hy1 k4 D4 => ?_⟩
        have S4 := same_kp S3 hlH k4
        walk_at "gx"
        refine r_new fun p1 hp1 => ?_
        generalize e5 : upd H4 p1 _ = H5
        obtain ⟨s5, g5⟩ := fresh hp1 e5
        have S5 := S4.trans s5
        have D5 := D4.same s5
        have P5 : Hd K H5 (.ref p1) ((x, y) : Int × Int) := hd_pair (SqT.of g5) hd_int hd_int
        walk_at "gx"
        refine ⟨l, rfl, D5, fun u H6 hu0 hu1 k6 D6 => ?_⟩
        have S6 := same_kp S5 hlH k6
        have P6 := P5.kp k6 D5
        walk_at "gx"
        refine ⟨l, rfl, D6, fun v H7 hv0 hv1 k7 D7 => ?_⟩
        have S7 := same_kp S6 hlH k7
        have P7 := P6.kp k7 D6
        walk_at "gx"
        refine r_new fun p2 hp2 => ?_
        generalize e8 : upd H7 p2 _ = H8
        obtain ⟨s8, g8⟩ := fresh hp2 e8
        have S8 := S7.trans s8
        have D8 := D7.same s8
        have P8 := P7.same s8
        have R8 : Hd K H8 (.ref p2) ((u, v) : Int × Int) := hd_pair (SqT.of g8) hd_int hd_int
        walk_at "gx"
        refine r_I ⟨by decide, by decide, by decide⟩ ?_
        walk_at "gx"
        refine ⟨l, _, rfl, D8, by decide, by decide, fun d H9 hd0 hd1 k9 D9 => ?_⟩
        have hd1 : d < 10 ^ 5 := hd1
        have S9 := same_kp S8 hlH k9
        have P9 := P8.kp k9 D8
        have R9 := R8.kp k9 D8
        have hf : 1 ≤ 1 + d ∧ 1 + d ≤ 10 ^ 5 := by omega
        walk_at "gx"
        generalize 1 + d = f at hf ⊢
        obtain ⟨_, z1, T9⟩ := P9.pt_of
        cases z1
        obtain ⟨_, z1, U9⟩ := R9.pt_of
        cases z1
        walk_at "gx"
        refine r_I (mul_okR (by omega) (by omega)) ?_
        walk_at "gx"
        refine r_I (mul_okR (by omega) (by omega)) ?_
        walk_at "gx"
        refine r_new fun p3 hp3 => ?_
        generalize e10 : upd H9 p3 _ = H10
        obtain ⟨s10, g10⟩ := fresh hp3 e10
        have S10 := S9.trans s10
        have P10 := P9.same s10
        have R10 := R9.same s10
        have M10 : Hd K H10 (.ref p3) ((x * f, y * f) : Int × Int) := hd_pair (SqT.of g10) hd_int hd_int
        clear T9 U9 S2 S3 S4 S5 S6 S7 S8 S9 P5 P6 P7 P8 P9 R8 R9 g5 g8 g10 s2 s5 s8 s10 k3 k4 k6 k7 k9 D2 D3 D4 D5 D6 D7 D8 D9 e5 e8 e10
        have bx : Bd 90 x := bd_lit (k := 10 ^ 24) (by omega) (by decide +kernel)
        have by_ : Bd 90 y := bd_lit (k := 10 ^ 24) (by omega) (by decide +kernel)
        have bu : Bd 90 u := bd_lit (k := 10 ^ 24) (by omega) (by decide +kernel)
        have bv : Bd 90 v := bd_lit (k := 10 ^ 24) (by omega) (by decide +kernel)
        have bf : Bd 90 f := bd_lit (k := 10 ^ 24) (by omega) (by decide +kernel)
        have B1 : PBd 100000 (x, y) := ⟨bx.mono (by decide), by_.mono (by decide)⟩
        have B2 : PBd 100000 (u, v) := ⟨bu.mono (by decide), bv.mono (by decide)⟩
        have B3 : PBd 100000 (x * f, y * f) := ⟨(bx.mul bf).mono (by decide), (by_.mul bf).mono (by decide)⟩
        walk_at "gx"
        refine ⟨_, true, rfl, .yes _ P10, fun H11 s11 => ?_⟩
        have S11 := S10.trans s11
        have P11 := P10.same s11
        have R11 := R10.same s11
        have M11 := M10.same s11
        clear S10 P10 R10 M10 s11
        walk_at "gx"
        refine r_ndec (fun h => absurd rfl h) (fun _ => ?_)
        walk_at "gx"
        refine ⟨_, _, rfl, .inr ⟨_, _, P11, R11, B1, B2, fun H12 s12 => ?_⟩⟩
        have S12 := S11.trans s12
        have P12 := P11.same s12
        have R12 := R11.same s12
        have M12 := M11.same s12
        clear S11 P11 R11 M11 s12
        obtain ⟨_, z1, T12⟩ := P12.pt_of
        cases z1
        obtain ⟨_, z1, U12⟩ := R12.pt_of
        cases z1
        walk_at "gx"
        refine r_I (bx.ok bv) ?_
        walk_at "gx"
        refine r_I (by_.ok bu) ?_
        walk_at "gx"
        refine r_ndec (fun h => absurd rfl h) (fun _ => ?_)
        walk_at "gx"
        refine ⟨_, _, rfl, .inr ⟨_, _, R12, P12, B2, B1, fun H13 s13 => ?_⟩⟩
        walk_at "gx"
        have P13 := P12.same s13
        have R13 := R12.same s13
        have M13 := M12.same s13
        have S13 := S12.trans s13
        clear S12 P12 R12 M12 s13 T12 U12
        refine ⟨_, _, rfl, .inr ⟨_, _, P13, R13, B1, B2, fun H14 s14 => ?_⟩⟩
        walk_at "gx"
        refine r_ndec (fun h => absurd (show crs (u, v) (x, y) = 0 - crs (x, y) (u, v) by unfold crs; grind) h) (fun _ => ?_)
        walk_at "gx"
        refine ⟨_, _, rfl, .inr ⟨_, _, P13.same s14, M13.same s14, B1, B3, fun H15 s15 => ?_⟩⟩
        walk_at "gx"
        refine r_ndec (fun h => absurd (show crs (x, y) (x * f, y * f) = 0 by unfold crs; grind) h) (fun _ => ?_)
        have P15 := P13.same (s14.trans s15)
        have M15 := M13.same (s14.trans s15)
        have S15 := S13.trans (s14.trans s15)
        clear S13 P13 R13 M13 s14 s15
        obtain ⟨_, z1, T15⟩ := P15.pt_of
        cases z1
        walk_at "gx"
        refine ⟨_, _, rfl, ?_⟩
        walk_at "gx"
        refine ⟨_, rfl, .inr ⟨_, P15, fun H16 s16 => ?_⟩⟩
        walk_at "gx"
        refine r_ndec (fun h => absurd rfl h) (fun _ => ?_)
        walk_at "gx"
        refine ⟨_, rfl, .inr ⟨_, M15.same s16, fun H17 s17 => ?_⟩⟩
        have gf : cont (x * f, y * f) = ((Int.gcd x y : Nat) : Int) * f := by
          show ((Int.gcd (x * f) (y * f) : Nat) : Int) = _
          rw [Int.gcd_mul_right]
          have : ((f.natAbs : Nat) : Int) = f := by omega
          rw [Int.natCast_mul, this]
        have P17 := P15.same (s16.trans s17)
        have M17 := M15.same (s16.trans s17)
        have S17 := S15.trans (s16.trans s17)
        clear S15 P15 M15 s16 s17 T15
        have bg : Bd 200 ((Int.gcd x y : Nat) : Int) := by
          by_cases hz : ((x, y) : Int × Int) = (0, 0)
          · injection hz with z1 z2
            rw [z1, z2]
            show _ < _
            decide +kernel
          · exact (cont_bd (n := 90) hz ⟨bx, by_⟩).mono (by decide)
        walk_at "gx"
        refine r_I (bg.ok bf) ?_
        walk_at "gx"
        refine r_ndec (fun h => absurd gf h) (fun _ => ?_)
        walk_at "gx"
        refine r_new fun p4 hp4 => ?_
        generalize e18 : upd H17 p4 _ = H18
        obtain ⟨s18, g18⟩ := fresh hp4 e18
        refine r_neH (α := Int × Int) (P17.same s18) (hd_pair (SqT.of g18) hd_int hd_int) ?_
        have P18 := P17.same s18
        have M18 := M17.same s18
        have S18 := S17.trans s18
        clear S17 P17 M17 s18 g18 e18
        walk_at "gx"
        refine r_ndec (fun hne => ?_) (fun _ => ?_)
        · have hne2 : ((x * f, y * f) : Int × Int) ≠ (0, 0) := fun z => by
            injection z with z1 z2
            rcases Int.mul_eq_zero.mp z1 with z1 | z1
            · rcases Int.mul_eq_zero.mp z2 with z2 | z2
              · exact hne (by rw [z1, z2])
              · omega
            · omega
          walk_at "gx"
          refine ⟨_, rfl, .inr ⟨_, M18, hne2, ⟨(bx.mul bf).mono (by decide), (by_.mul bf).mono (by decide)⟩, fun w H19 s19 F19 => ?_⟩⟩
          rw [gf] at F19
          obtain ⟨c1, c2, c3⟩ := prim_facts (f := f) hne (by omega)
          have gpos : 0 < ((Int.gcd x y : Nat) : Int) * f := by rw [← gf]; exact cont_pos hne2
          have bX : Bd 180 (x * f / (((Int.gcd x y : Nat) : Int) * f)) := (bx.mul bf).div gpos
          have bY : Bd 180 (y * f / (((Int.gcd x y : Nat) : Int) * f)) := (by_.mul bf).div gpos
          generalize x * f / (((Int.gcd x y : Nat) : Int) * f) = X at F19 c1 c3 bX
          generalize y * f / (((Int.gcd x y : Nat) : Int) * f) = Y at F19 c2 c3 bY
          walk_at "gx"
          refine ⟨_, rfl, .inr ⟨_, F19, fun H20 s20 => ?_⟩⟩
          walk_at "gx"
          refine r_ndec (fun h => absurd (show cont (X, Y) = 1 from c3) h) (fun _ => ?_)
          have F20 := F19.same s20
          obtain ⟨fa, rfl, T20⟩ := F20.pt_of
          walk_at "gx"
          refine r_I (bX.ok bg) ?_
          walk_at "gx"
          refine r_I (bY.ok bg) ?_
          walk_at "gx"
          refine r_new fun p5 hp5 => ?_
          generalize e21 : upd H20 p5 _ = H21
          obtain ⟨s21, g21⟩ := fresh hp5 e21
          have e22 : ((X * ((Int.gcd x y : Nat) : Int), Y * ((Int.gcd x y : Nat) : Int)) : Int × Int) = (x, y) := Prod.ext c1 c2
          walk_at "gx"
          refine r_neH (α := Int × Int) (hd_pair (SqT.of g21) hd_int hd_int) (P18.same ((s19.trans s20).trans s21)) ?_
          walk_at "gx"
          refine r_ndec (fun h => absurd e22 h) (fun _ => ?_)
          walk_at "gx"
          exact ⟨S18.trans ((s19.trans s20).trans s21), _, _, _, _, _, _, _, _, _, rfl⟩
        · walk_at "gx"
          exact ⟨S18, _, _, _, _, _, _, _, _, _, rfl⟩
      · rintro σ' H2 ⟨S2, o1, o2, o3, o4, o5, o6, o7, o8, o9, rfl⟩
        walk_at "gx"
        exact q _

end
end G
namespace G
open PySem PySem.Spec PyProof.Rows L2
def dd_is_integer : He.DefD := ⟨("is_integer", none), "is_integer", "is_integer", defArgs s_is_integer, defBody s_is_integer, defScope s_is_integer, [], []⟩
def dd_common_divisor : He.DefD := ⟨("common_divisor", none), "common_divisor", "common_divisor", defArgs s_common_divisor, defBody s_common_divisor, defScope s_common_divisor, [], []⟩
def dd_is_point : He.DefD := ⟨("is_point", none), "is_point", "is_point", defArgs s_is_point, defBody s_is_point, defScope s_is_point, [], []⟩
def dd_check_point : He.DefD := ⟨("check_point", none), "check_point", "check_point", defArgs s_check_point, defBody s_check_point, defScope s_check_point, [], []⟩
def dd_check_direction : He.DefD := ⟨("check_direction", none), "check_direction", "check_direction", defArgs s_check_direction, defBody s_check_direction, defScope s_check_direction, [], []⟩
def dd_cross_of : He.DefD := ⟨("cross_of", none), "cross_of", "cross_of", defArgs s_cross_of, defBody s_cross_of, defScope s_cross_of, [], []⟩
def dd_content_of : He.DefD := ⟨("content_of", none), "content_of", "content_of", defArgs s_content_of, defBody s_content_of, defScope s_content_of, [], []⟩
def dd_cross : He.DefD := ⟨("cross", none), "cross", "cross", defArgs s_cross, defBody s_cross, defScope s_cross, [], []⟩
def dd_content : He.DefD := ⟨("content", none), "content", "content", defArgs s_content, defBody s_content, defScope s_content, [], []⟩
def dd_primitive_part : He.DefD := ⟨("primitive_part", none), "primitive_part", "primitive_part", defArgs s_primitive_part, defBody s_primitive_part, defScope s_primitive_part, [], []⟩
def dd_law_draws : He.DefD := ⟨("_law_draws", none), "_law_draws", "_law_draws", defArgs s_law_draws, defBody s_law_draws, defScope s_law_draws, [], []⟩
def dd_law_draw : He.DefD := ⟨("_law_draw", none), "_law_draw", "_law_draw", defArgs s_law_draw, defBody s_law_draw, defScope s_law_draw, [], []⟩
def dd_law_integer : He.DefD := ⟨("_law_integer", none), "_law_integer", "_law_integer", defArgs s_law_integer, defBody s_law_integer, defScope s_law_integer, [], []⟩
def dd_law_divisor : He.DefD := ⟨("_law_divisor", none), "_law_divisor", "_law_divisor", defArgs s_law_divisor, defBody s_law_divisor, defScope s_law_divisor, [], []⟩
def dd_law_error : He.DefD := ⟨("_law_error", none), "_law_error", "_law_error", defArgs s_law_error, defBody s_law_error, defScope s_law_error, [], []⟩
def dd_law : He.DefD := ⟨("law", none), "law", "law", defArgs s_law, defBody s_law, defScope s_law, [], []⟩
def fn : List He.DefD := [dd_is_integer, dd_common_divisor, dd_is_point, dd_check_point, dd_check_direction, dd_cross_of, dd_content_of, dd_cross, dd_content, dd_primitive_part, dd_law_draws, dd_law_draw, dd_law_integer, dd_law_divisor, dd_law_error, dd_law]
def fcs : List (PySem.W.Frag → Bool) := [fun K => (He.Fa.free "isinstance").ok K,
  fun K => (He.Fa.free "int").ok K,
  fun K => (He.Fa.free "bool").ok K,
  fun K => (He.Fa.free "abs").ok K,
  fun K => (He.Fa.free "tuple").ok K,
  fun K => (He.Fa.free "all").ok K,
  fun K => (He.Fa.free "len").ok K,
  fun K => (He.Fa.free "range").ok K,
  fun K => (He.Fa.free "max").ok K,
  fun K => (He.Fa.glo "is_integer").ok K,
  fun K => (He.Fa.glo "common_divisor").ok K,
  fun K => (He.Fa.glo "is_point").ok K,
  fun K => (He.Fa.glo "check_point").ok K,
  fun K => (He.Fa.glo "check_direction").ok K,
  fun K => (He.Fa.glo "cross_of").ok K,
  fun K => (He.Fa.glo "content_of").ok K,
  fun K => (He.Fa.glo "cross").ok K,
  fun K => (He.Fa.glo "content").ok K,
  fun K => (He.Fa.glo "primitive_part").ok K,
  fun K => (He.Fa.glo "_law_draws").ok K,
  fun K => (He.Fa.glo "_law_draw").ok K,
  fun K => (He.Fa.glo "_law_integer").ok K,
  fun K => (He.Fa.glo "_law_divisor").ok K,
  fun K => (He.Fa.glo "_law_error").ok K,
  fun K => (He.Fa.glo "law").ok K,
  fun K => (He.Fa.glo "InvalidPoint").ok K,
  fun K => excFB K (He.ga K "InvalidPoint"),
  fun K => (He.Fa.glo "InvalidDirection").ok K,
  fun K => excFB K (He.ga K "InvalidDirection"),
  fun K => (He.Fa.exm "InvalidPoint" "InvalidPoint" true).ok K,
  fun K => (He.Fa.exm "InvalidDirection" "InvalidPoint" false).ok K,
  fun K => (He.Fa.exm "InvalidDirection" "InvalidDirection" true).ok K]
abbrev R : PySem.W.OpenRow := PySem.W.OpenLaw.row PySem.Challenge.rw_latticeshapes_k05_points_and_directions
abbrev hk : PySem.W.Hook := hookM 5 fcs fn
def ob (s : PySem.W.SharedT) : He.AlD := obsMG 5 fcs fn (HandSHeadRun.getT s)
theorem ob_eq (s : PySem.W.SharedT) : ob s = hk.obs s.abs := obsMG_eq (HandSHeadRun.getT_eq s)
def loose : List PySem.Str := (["ShapeError", "InvalidPoint", "InvalidDirection", "is_integer", "common_divisor", "is_point", "check_point", "check_direction", "cross_of", "content_of", "cross", "content", "primitive_part", "_law_draws", "_law_draw", "_law_integer", "_law_divisor", "_law_error"] : List PySem.Str)
theorem run (w : World) : HandSHeadRun.RunEq R (PySem.W.view R.prog [22]) hk ob 2000 loose w := by
  intro os
  kernel_rfl
theorem facts {P : Program} {w : World} {K : PySem.W.Frag} {h : Heap} {mg : Str → Option Value} {f : Addr} (X : K.In h) (G : h.Ns mainGlobals mg) (hfa : mg ("law" : Str) = some (.ref f)) (c : SaysM fcs fn K) :
    ∃ fd : FuncData, (∀ (s : Shared) (v : Value), BindsTo s fd ⟨[v], []⟩ [("_law_script", v)]) ∧ ∀ base : Heap, K.In base → base.Ns mainGlobals mg → FnOk P w K mg base CX0 6 f fd ["_law_script"] (sp_law K) := by
  have T : Tx K mg := ⟨(He.free_ok X G (c.fact 0 (f := fun K => (He.Fa.free "isinstance").ok K) rfl)),
    (He.free_ok X G (c.fact 1 (f := fun K => (He.Fa.free "int").ok K) rfl)),
    (He.free_ok X G (c.fact 2 (f := fun K => (He.Fa.free "bool").ok K) rfl)),
    (He.free_ok X G (c.fact 3 (f := fun K => (He.Fa.free "abs").ok K) rfl)),
    (He.free_ok X G (c.fact 4 (f := fun K => (He.Fa.free "tuple").ok K) rfl)),
    (He.free_ok X G (c.fact 5 (f := fun K => (He.Fa.free "all").ok K) rfl)),
    (He.free_ok X G (c.fact 6 (f := fun K => (He.Fa.free "len").ok K) rfl)),
    (He.free_ok X G (c.fact 7 (f := fun K => (He.Fa.free "range").ok K) rfl)),
    (He.free_ok X G (c.fact 8 (f := fun K => (He.Fa.free "max").ok K) rfl)),
    (He.glo_ok X G (c.fact 9 (f := fun K => (He.Fa.glo "is_integer").ok K) rfl)),
    (He.glo_ok X G (c.fact 10 (f := fun K => (He.Fa.glo "common_divisor").ok K) rfl)),
    (He.glo_ok X G (c.fact 11 (f := fun K => (He.Fa.glo "is_point").ok K) rfl)),
    (He.glo_ok X G (c.fact 12 (f := fun K => (He.Fa.glo "check_point").ok K) rfl)),
    (He.glo_ok X G (c.fact 13 (f := fun K => (He.Fa.glo "check_direction").ok K) rfl)),
    (He.glo_ok X G (c.fact 14 (f := fun K => (He.Fa.glo "cross_of").ok K) rfl)),
    (He.glo_ok X G (c.fact 15 (f := fun K => (He.Fa.glo "content_of").ok K) rfl)),
    (He.glo_ok X G (c.fact 16 (f := fun K => (He.Fa.glo "cross").ok K) rfl)),
    (He.glo_ok X G (c.fact 17 (f := fun K => (He.Fa.glo "content").ok K) rfl)),
    (He.glo_ok X G (c.fact 18 (f := fun K => (He.Fa.glo "primitive_part").ok K) rfl)),
    (He.glo_ok X G (c.fact 19 (f := fun K => (He.Fa.glo "_law_draws").ok K) rfl)),
    (He.glo_ok X G (c.fact 20 (f := fun K => (He.Fa.glo "_law_draw").ok K) rfl)),
    (He.glo_ok X G (c.fact 21 (f := fun K => (He.Fa.glo "_law_integer").ok K) rfl)),
    (He.glo_ok X G (c.fact 22 (f := fun K => (He.Fa.glo "_law_divisor").ok K) rfl)),
    (He.glo_ok X G (c.fact 23 (f := fun K => (He.Fa.glo "_law_error").ok K) rfl)),
    (He.glo_ok X G (c.fact 24 (f := fun K => (He.Fa.glo "law").ok K) rfl)),
    (He.glo_ok X G (c.fact 25 (f := fun K => (He.Fa.glo "InvalidPoint").ok K) rfl)),
    (excF_ok (c.fact 26 (f := fun K => excFB K (He.ga K "InvalidPoint")) rfl)),
    (He.glo_ok X G (c.fact 27 (f := fun K => (He.Fa.glo "InvalidDirection").ok K) rfl)),
    (excF_ok (c.fact 28 (f := fun K => excFB K (He.ga K "InvalidDirection")) rfl)),
    (He.exm_ok (c.fact 29 (f := fun K => (He.Fa.exm "InvalidPoint" "InvalidPoint" true).ok K) rfl)),
    (He.exm_ok (c.fact 30 (f := fun K => (He.Fa.exm "InvalidDirection" "InvalidPoint" false).ok K) rfl)),
    (He.exm_ok (c.fact 31 (f := fun K => (He.Fa.exm "InvalidDirection" "InvalidDirection" true).ok K) rfl)),
    (defAt (c.def_ 0 (d := dd_is_integer) rfl)),
    (defAt (c.def_ 1 (d := dd_common_divisor) rfl)),
    (defAt (c.def_ 2 (d := dd_is_point) rfl)),
    (defAt (c.def_ 3 (d := dd_check_point) rfl)),
    (defAt (c.def_ 4 (d := dd_check_direction) rfl)),
    (defAt (c.def_ 5 (d := dd_cross_of) rfl)),
    (defAt (c.def_ 6 (d := dd_content_of) rfl)),
    (defAt (c.def_ 7 (d := dd_cross) rfl)),
    (defAt (c.def_ 8 (d := dd_content) rfl)),
    (defAt (c.def_ 9 (d := dd_primitive_part) rfl)),
    (defAt (c.def_ 10 (d := dd_law_draws) rfl)),
    (defAt (c.def_ 11 (d := dd_law_draw) rfl)),
    (defAt (c.def_ 12 (d := dd_law_integer) rfl)),
    (defAt (c.def_ 13 (d := dd_law_divisor) rfl)),
    (defAt (c.def_ 14 (d := dd_law_error) rfl)),
    (defAt (c.def_ 15 (d := dd_law) rfl))⟩
  have e := hfa.symm.trans T.g_law
  cases e
  have b := FunD.bindsA (ps := ["_law_script"]) T.d_law fun _ _ _ _ _ _ us hl => match us, hl with | [_], _ => rfl
  exact ⟨_, fun s v => b s [v] rfl, fun base _ _ => ok_law T⟩
end G
open PySem PySem.W PySem.Calls PyProof.Rows
theorem PySem.Challenge.cw_latticeshapes_k05_points_and_directions_holds : PySem.Challenge.rw_latticeshapes_k05_points_and_directions.Holds := by
  w_on; o_law
  refine HandSHeadRun.head_any (r := OpenLaw.row PySem.Challenge.rw_latticeshapes_k05_points_and_directions) (q := view (OpenLaw.row PySem.Challenge.rw_latticeshapes_k05_points_and_directions).prog [22]) (H := G.hk) (ob := G.ob) (M := 2000) (loose := G.loose) (d := HandSHeadRun.topDef (OpenLaw.row PySem.Challenge.rw_latticeshapes_k05_points_and_directions).prog 22) (kwd := []) G.ob_eq
    (by kernel_rfl) (fun s => by kernel_rfl) G.run (by kernel_rfl) (by kernel_rfl) (by kernel_rfl) (by rfl) (by first | assumption | decide +kernel) (by decide +kernel) ⟨rfl, rfl, rfl, rfl, rfl, by decide +kernel⟩ ?hw ?hc
  case hw => w_witness2
  case hc =>
    refine L2.walk_ofE (l := PySem.Challenge.rw_latticeshapes_k05_points_and_directions) (n := 63) (k := 6) (x := "_law_script") (CX := L2.CX0) rfl (by decide) (by kernel_rfl) ⟨rfl, by decide, by decide⟩ ?F (fun _ _ _ _ z => z)
    intro w mg fa h Y Gn hmg0
    obtain ⟨K, KX, c⟩ := Y
    have hmg : mg ("law" : PySem.Str) = some (.ref fa) := by
      have e : (HandSHeadRun.topDef (OpenLaw.row PySem.Challenge.rw_latticeshapes_k05_points_and_directions).prog 22).name = ("law" : PySem.Str) := by kernel_rfl
      rw [← e]
      exact hmg0
    obtain ⟨fd, hb, hF⟩ := G.facts (P := (PySem.Challenge.rw_latticeshapes_k05_points_and_directions).prog) (w := w) KX Gn hmg c
    exact ⟨K, fd, G.sp_law K, KX, hb, fun H a ns hl _ hS => ⟨a, ns, rfl, hS, hl, fun _ => rfl⟩, hF⟩
