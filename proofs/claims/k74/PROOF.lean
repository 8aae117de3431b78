import PyProof.Rows.All
import HandS.ForMost
import HandS.ForExc
import HandS.Codes
import HandS.Defaults
import HandS.Wide
import HandS.Style
import HandS.Rev
import HandS.RevRange
import HandS.Conv
import HandS.TupAny
import HandS.TupMul
import HandS.SortInts
import HandS.IsInst
import HandS.NoneIn
import HandS.EndTab
import HandS.ExcInit
import HandS.FStr
import KE.SortKeyHeap
import PySem.Challenge.RW_sparedproducts_k74_whole_taps_come_apart
import KE.GoesMore
import KE.GoesEnum
import HandS.ExcField
import HandS.Lambda
set_option Elab.async false
set_option linter.all false
set_option maxRecDepth 100000
set_option maxHeartbeats 4000000
/-! the base of the walk: the text by places, short steps -/
namespace Kw
open PySem PySem.Spec PyProof.Rows L2

def topS (i : Nat) : Stmt := PySem.Challenge.pw_sparedproducts_k74_whole_taps_come_apart.main.body.getD i (.Pass ⟨0, 0, 0, 0⟩)

/-- the built-in names are not the module's own -/
structure Bn (mg : Str → Option Value) : Prop where
  isinstance_ : mg "isinstance" = none
  bool_ : mg "bool" = none
  int_ : mg "int" = none
  abs_ : mg "abs" = none
  len_ : mg "len" = none
  tuple_ : mg "tuple" = none
  list_ : mg "list" = none
  range_ : mg "range" = none
  enumerate_ : mg "enumerate" = none
  reversed_ : mg "reversed" = none
  max_ : mg "max" = none
  sorted_ : mg "sorted" = none

/-! ### rules under names of their own -/
def rAbs : List V → Hp → VK → Prop := fun xs H Q => ∃ i, xs = [.int i] ∧ Q (.int (if i < 0 then -i else i)) H
def rMx : List V → Hp → VK → Prop := fun xs H Q => ∃ i j, xs = [.int i, .int j] ∧ Q (.int (if j > i then j else i)) H
def rIsN : R2 := fun x y H Q => y = .non ∧ Q (.bl (decide (x = .non))) H
def rNotN : R2 := fun x y H Q => y = .non ∧ Q (.bl (!decide (x = .non))) H
def rInt : List V → Hp → VK → Prop := fun xs H Q => (∃ i, xs = [.int i] ∧ Q (.int i) H) ∨ ∃ k, xs = [.bl k] ∧ Q (.int (if k then 1 else 0)) H
def rLen (K : PySem.W.Frag) : List V → Hp → VK → Prop := fun xs H Q => ∃ p ys, xs = [.ref p] ∧ (SqL K H p ys ∨ SqT K H p ys) ∧ Q (.int ys.length) H
section
variable {X : Cx}
theorem call_abs_ : CallR X (.builtin "abs") rAbs := call_abs
theorem call_max2_ (hc : X.calm = true) : CallR X (.builtin "max") rMx := call_max2 hc
theorem op_isN_ : OpR X (compareOp .Is) rIsN := op_isN
theorem op_notN_ : OpR X (compareOp .IsNot) rNotN := op_notN
theorem call_int_ : CallR X (.type "int") rInt := call_int1
theorem call_len_ : CallR X (.builtin "len") (rLen X.K) := call_len_seq
end

/-- // of great ints by any divisor but 0 -/
def CDx (_ j : Int) : Prop := j ≠ 0 ∧ j.natAbs.log2 < 9000
section
variable {X : Cx}
theorem op_fdivX : OpR X (binaryOp .FloorDiv) (rI CDx fun i j => .int (i.fdiv j)) := opI fun i j _ _ _ _ _ hc q =>
  floordiv_int hc.1 q (.inl (PyProof.noPylong_of_log2 hc.2))
end
theorem cdx {i j : Int} {b : Nat} (h : j ≠ 0) (hb : j.natAbs < 2 ^ b) (h0 : 0 < b) (h9 : b ≤ 9000) : CDx i j := ⟨h, Nat.lt_of_lt_of_le (PySem.Flt.log2_lt_of h0 hb) h9⟩
/-- a rational number as a tuple of two ints -/
def Rt (H : Hp) (v : V) (q : Rat) : Prop := ∃ a, v = .ref a ∧ H a = some (.tup [.int q.num, .int (q.den : Int)])
theorem Rt.up {H H' : Hp} {v : V} {q : Rat} (h : Rt H v q) (e : Same H H') : Rt H' v q := let ⟨a, h1, h2⟩ := h; ⟨a, h1, e _ _ h2⟩
def Sz (n : Nat) (q : Rat) : Prop := q.num.natAbs < 2 ^ n ∧ q.den < 2 ^ n
theorem same_new {H : Hp} {p : Addr} {o : HO} (h : H p = none) : Same H (upd H p o) := fun b x e => by
  rw [upd_ne (ne_of_none e h)]
  exact e
/-! ### steps of a reading -/
section
variable {K : PySem.W.Frag} {σ : L2.St} {H H' : Hp} {ta tb te tc : TE} {t u : TT} {x y z v : V} {r r' : R2} {Q : VK} {QB : Bool → Hp → Prop} {QA : List V → Hp → Prop} {D : Ends} {su sv sw : TS} {tA tr : TA} {g : TG}
theorem g_var {i : Nat} (h : σ[i]? = some (some v)) (q : Q v H) : tVar i σ H Q := ⟨v, h, q⟩
theorem g_c (q : Q v H) : tC v σ H Q := q
theorem g_op (h : ta σ H fun x H1 => tb σ H1 fun y H2 => r x y H2 Q) : tOp r ta tb σ H Q := h
theorem g_un {r : V → Hp → VK → Prop} (h : ta σ H fun x H1 => r x H1 Q) : tUn r ta σ H Q := h
theorem g_rU {g : Int → V} {i : Int} (q : Q (g i) H) : rU g (.int i) H Q := ⟨i, rfl, q⟩
theorem g_I0 {g : Int → Int → V} {i j : Int} (q : Q (g i j) H) : rI0 g (.int i) (.int j) H Q := ⟨i, j, rfl, rfl, q⟩
theorem g_I {C : Int → Int → Prop} {g : Int → Int → V} {i j : Int} (c : C i j) (q : Q (g i j) H) : rI C g (.int i) (.int j) H Q := ⟨i, j, rfl, rfl, c, q⟩
theorem g_eq (h : scal x y = true) (q : Q (.bl (decide (x = y))) H) : rEq x y H Q := ⟨h, q⟩
theorem g_ne (h : scal x y = true) (q : Q (.bl (!decide (x = y))) H) : rNe x y H Q := ⟨h, q⟩
theorem g_eqi {i j : Int} (q : Q (.bl (decide (i = j))) H) : rEq (.int i) (.int j) H Q := ⟨rfl, by
  rw [show decide (V.int i = V.int j) = decide (i = j) from decide_eq_decide.mpr ⟨fun e => V.int.inj e, fun e => congrArg V.int e⟩]
  exact q⟩
theorem g_nei {i j : Int} (q : Q (.bl (!decide (i = j))) H) : rNe (.int i) (.int j) H Q := ⟨rfl, by
  rw [show decide (V.int i = V.int j) = decide (i = j) from decide_eq_decide.mpr ⟨fun e => V.int.inj e, fun e => congrArg V.int e⟩]
  exact q⟩
theorem g_ixT {p : Addr} {xs : List V} {i : Int} (h : H p = some (.tup xs)) (ha : atI xs i = some v) (q : Q v H) : rIxT K (.ref p) (.int i) H Q := ⟨p, xs, i, v, rfl, rfl, SqT.of h, ha, q⟩
theorem g_ixL {p : Addr} {xs : List V} {i : Int} (h : H p = some (.lst xs)) (ha : atI xs i = some v) (q : Q v H) : rIxL K (.ref p) (.int i) H Q := ⟨p, xs, i, v, rfl, rfl, SqL.of h, ha, q⟩
theorem g_test (h : te σ H fun x H1 => ∃ k, x = .bl k ∧ QB k H1) : tTest te σ H QB := h
theorem g_B (h : te σ H fun x H1 => ∃ k, x = .bl k ∧ QB k H1) : tB te σ H QB := h
theorem g_bl {b : Bool} {P : Bool → Prop} (q : P b) : ∃ k, V.bl b = .bl k ∧ P k := ⟨b, rfl, q⟩
theorem g_and (h : t σ H fun c H1 => if c = true then u σ H1 QB else QB false H1) : tAnd t u σ H QB := h
theorem g_or (h : t σ H fun c H1 => if c = true then QB true H1 else u σ H1 QB) : tOr t u σ H QB := h
theorem g_not (h : t σ H fun c H1 => QB (!c) H1) : tNot t σ H QB := h
theorem g_andV (h : ta σ H fun x H1 => ∃ c, x = .bl c ∧ if c = true then tb σ H1 Q else Q (.bl false) H1) : tAndV ta tb σ H Q := h
theorem g_orV (h : ta σ H fun x H1 => ∃ c, x = .bl c ∧ if c = true then Q (.bl true) H1 else tb σ H1 Q) : tOrV ta tb σ H Q := h
theorem g_notV (h : ta σ H fun x H1 => ∃ c, x = .bl c ∧ Q (.bl (!c)) H1) : tNotV ta σ H Q := h
theorem g_ifE (h : t σ H fun c H1 => if c = true then ta σ H1 Q else tb σ H1 Q) : tIf t ta tb σ H Q := h
theorem g_ifS (h : t σ H fun b H1 => if b = true then su D σ H1 else sv D σ H1) : tIfS t su sv D σ H := h
theorem g_seq (h : su { D with nx := sv D } σ H) : tSeq su sv D σ H := h
theorem g_ret (h : te σ H D.rt) : tRet te D σ H := h
theorem g_asg (h : te σ H fun x H1 => g x σ H1 D.nx) : tAsg te g D σ H := h
theorem g_name {i : Nat} {P : L2.St → Hp → Prop} (q : P (σ.set i (some v)) H) : gName i v σ H P := q
theorem g_nx (q : D.nx σ H) : tNext D σ H := q
theorem g_drop (h : te σ H fun _ H1 => D.nx σ H1) : tDrop te D σ H := h
theorem g_cb {r : List V → Hp → VK → Prop} (h : tA σ H fun vs H1 => r vs H1 Q) : tCB r tA σ H Q := h
theorem g_call {sp : Sp} {dvs : List V} {E : XK} (h : tA σ H fun vs H1 => sp (vs ++ dvs) H1 Q E) : tCall sp dvs E tA σ H Q := h
theorem g_cons (h : ta σ H fun x H1 => tr σ H1 fun xs H2 => QA (x :: xs) H2) : tCons ta tr σ H QA := h
theorem g_nil (q : QA [] H) : tNil σ H QA := q
theorem g_par {i j : Nat} (h : tA σ H fun vs H1 => ∃ v w, vs = [v, w] ∧ D.nx ((σ.set i (some v)).set j (some w)) H1) : tPar i j tA D σ H := h
theorem g_two {P : V → V → Prop} (q : P x y) : ∃ v w, [x, y] = [v, w] ∧ P v w := ⟨x, y, rfl, q⟩
theorem g_abs {i : Int} (q : Q (.int (if i < 0 then -i else i)) H) : rAbs [.int i] H Q := ⟨i, rfl, q⟩
theorem g_mx {i j : Int} (q : Q (.int (if j > i then j else i)) H) : rMx [.int i, .int j] H Q := ⟨i, j, rfl, q⟩
theorem g_int {i : Int} (q : Q (.int i) H) : rInt [.int i] H Q := .inl ⟨i, rfl, q⟩
theorem g_intb {k : Bool} (q : Q (.int (if k then 1 else 0)) H) : rInt [.bl k] H Q := .inr ⟨k, rfl, q⟩
theorem g_lenL {p : Addr} {xs : List V} (h : H p = some (.lst xs)) (q : Q (.int xs.length) H) : rLen K [.ref p] H Q := ⟨p, xs, rfl, .inl (SqL.of h), q⟩
theorem g_lenT {p : Addr} {xs : List V} (h : H p = some (.tup xs)) (q : Q (.int xs.length) H) : rLen K [.ref p] H Q := ⟨p, xs, rfl, .inr (SqT.of h), q⟩
theorem g_tup (h : tA σ H fun xs H1 => xs.length ≤ sizeLine ∧ ∀ p, H1 p = none → Q (.ref p) (upd H1 p (.tup xs))) : tTup tA σ H Q := h
theorem g_lst (h : tA σ H fun xs H1 => xs.length ≤ sizeLine ∧ ∀ p, H1 p = none → Q (.ref p) (upd H1 p (.lst xs))) : tLst tA σ H Q := h
theorem g_meth {C : Addr} {m : Str} {sp : Sp} {dvs : List V} {E : XK} (h : ta σ H fun x H1 => ∃ a dx fs, x = .ref a ∧ H1 a = some (.ins C dx fs) ∧ fs.lookup m = none ∧ tA σ H1 fun vs H2 => sp (x :: (vs ++ dvs)) H2 Q E) : tMeth C m sp dvs E ta tA σ H Q := h
theorem g_fld {f : Str} (h : ta σ H fun x H1 => ∃ a C dx fs v, x = .ref a ∧ H1 a = some (.ins C dx fs) ∧ Cls K C ∧ NoAttr K C f ∧ fs.lookup f = some v ∧ Q v H1) : tFld K ta f σ H Q := h
theorem g_chain (h : ta σ H fun x H1 => tb σ H1 fun y H2 => r x y H2 fun z H3 => ∃ k, z = .bl k ∧ (if k = true then tc σ H3 fun w' H4 => r' y w' H4 Q else Q (.bl false) H3)) : tChain r r' ta tb tc σ H Q := h
theorem g_isN_n (q : Q (.bl true) H) : rIsN .non .non H Q := ⟨rfl, q⟩
theorem g_isN_i {i : Int} (q : Q (.bl false) H) : rIsN (.int i) .non H Q := ⟨rfl, q⟩
theorem g_isN_r {a : Addr} (q : Q (.bl false) H) : rIsN (.ref a) .non H Q := ⟨rfl, q⟩
theorem g_notN_n (q : Q (.bl false) H) : rNotN .non .non H Q := ⟨rfl, q⟩
theorem g_notN_i {i : Int} (q : Q (.bl true) H) : rNotN (.int i) .non H Q := ⟨rfl, q⟩
theorem g_notN_r {a : Addr} (q : Q (.bl true) H) : rNotN (.ref a) .non H Q := ⟨rfl, q⟩
theorem ite_t {A B : Prop} (h : A) : if true = true then A else B := iteT h
theorem ite_f {A B : Prop} (h : B) : if false = true then A else B := iteF h
theorem ite_nt {A B : Prop} (h : B) : if (!true) = true then A else B := iteF h
theorem ite_nf {A B : Prop} (h : A) : if (!false) = true then A else B := iteT h
theorem ite_d {P A B : Prop} [Decidable P] (h1 : P → A) (h2 : ¬P → B) : if decide P = true then A else B := by
  by_cases h : P
  · rw [decide_eq_true h]; exact iteT (h1 h)
  · rw [decide_eq_false h]; exact iteF (h2 h)
theorem ite_n {P A B : Prop} [Decidable P] (h1 : ¬P → A) (h2 : P → B) : if (!decide P) = true then A else B := by
  by_cases h : P
  · rw [decide_eq_true h]; exact iteF (h2 h)
  · rw [decide_eq_false h]; exact iteT (h1 h)
theorem ite_b {b : Bool} {A B : Prop} (h1 : b = true → A) (h2 : b = false → B) : if b = true then A else B := by
  cases b with
  | true => exact iteT (h1 rfl)
  | false => exact iteF (h2 rfl)
end
/-! ### the start, whiles, isinstance -/
section
variable {K : PySem.W.Frag} {σ σ' : L2.St} {H H' : Hp} {t : TT} {x : V} {Q : VK} {D : Ends} {ts tb : TS}
theorem go_start (e : σ = σ') (h : ts D σ' H) : ts D σ H := e ▸ h
theorem g_while (W : Nat → L2.St → Hp → Prop) (m : Nat) (h0 : W m σ H)
    (hs : ∀ m σ H, W m σ H → t σ H fun b H1 => if b = true then ∃ N : L2.St → Hp → Prop, (∀ σ' H', N σ' H' → ∃ m', m' < m ∧ W m' σ' H') ∧ tb { D with nx := N, ct := N, bk := D.nx } σ H1 else D.nx σ H1) : tWhile t tb D σ H :=
  ⟨W, ⟨m, h0⟩, hs⟩
theorem g_turn {W : Nat → L2.St → Hp → Prop} {m : Nat} (h : tb { D with nx := fun σ' H' => ∃ m', m' < m ∧ W m' σ' H', ct := fun σ' H' => ∃ m', m' < m ∧ W m' σ' H', bk := D.nx } σ H) :
    ∃ N : L2.St → Hp → Prop, (∀ σ' H', N σ' H' → ∃ m', m' < m ∧ W m' σ' H') ∧ tb { D with nx := N, ct := N, bk := D.nx } σ H := ⟨_, fun _ _ n => n, h⟩
theorem g_isi {c : String} {t : Value} {b : Bool} (ty : TyX K H x t) (e : PySem.W.kitOne K t (.type c) = some b) (q : Q (.bl b) H) : rIsi K [x, .ty c] H Q := ⟨x, .ty c, t, _, b, rfl, .ty c, ty, e, q⟩
theorem g_isi_ib {i : Int} (q : Q (.bl false) H) : rIsi K [.int i, .ty "bool"] H Q := g_isi (.base (.int i)) (kit_ty (by decide +kernel)) q
theorem g_isi_ii {i : Int} (q : Q (.bl true) H) : rIsi K [.int i, .ty "int"] H Q := g_isi (.base (.int i)) (kit_ty (by decide +kernel)) q
theorem g_isi_it {i : Int} (q : Q (.bl false) H) : rIsi K [.int i, .ty "tuple"] H Q := g_isi (.base (.int i)) (kit_ty (by decide +kernel)) q
theorem g_isi_nt (q : Q (.bl false) H) : rIsi K [.non, .ty "tuple"] H Q := g_isi (.base .non) (kit_ty (by decide +kernel)) q
theorem g_isi_tt {a : Addr} {xs : List V} (h : H a = some (.tup xs)) (q : Q (.bl true) H) : rIsi K [.ref a, .ty "tuple"] H Q := g_isi (.base (.tup h)) (kit_ty (by decide +kernel)) q
theorem kit_lt {T : String} {b : Bool} (h1 : kitB T "list" = some false) (h2 : kitB T "tuple" = some b) : PySem.W.kitAny K (.type T) [.type "list", .type "tuple"] = some b :=
  kitAny_cons (kit_ty h1) (fun _ => kitAny_cons (kit_ty h2) (fun e => by rw [e]; exact kitAny_nil) (fun e => e)) (fun e => Bool.noConfusion e)
theorem g_isiT {tp : Addr} {t : Value} {b : Bool} (hT : H tp = some (.tup [.ty "list", .ty "tuple"])) (ty : TyX K H x t) (e : PySem.W.kitAny K t [.type "list", .type "tuple"] = some b) (q : Q (.bl b) H) : rIsiT K [x, .ref tp] H Q :=
  ⟨x, tp, _, t, _, b, rfl, hT, .cons (.ty _) (.cons (.ty _) .nil), ty, e, q⟩
theorem g_isiT_t {tp a : Addr} {xs : List V} (hT : H tp = some (.tup [.ty "list", .ty "tuple"])) (h : H a = some (.tup xs)) (q : Q (.bl true) H) : rIsiT K [.ref a, .ref tp] H Q :=
  g_isiT hT (.base (.tup h)) (kit_lt (by decide +kernel) (by decide +kernel)) q
theorem g_isiT_l {tp a : Addr} {xs : List V} (hT : H tp = some (.tup [.ty "list", .ty "tuple"])) (h : H a = some (.lst xs)) (q : Q (.bl true) H) : rIsiT K [.ref a, .ref tp] H Q :=
  g_isiT hT (.base (.lst h)) (kitAny_cons (kit_ty (by decide +kernel)) (fun e => Bool.noConfusion e) (fun e => e)) q
theorem g_isiT_n {tp : Addr} (hT : H tp = some (.tup [.ty "list", .ty "tuple"])) (q : Q (.bl false) H) : rIsiT K [.non, .ref tp] H Q :=
  g_isiT hT (.base .non) (kit_lt (by decide +kernel) (by decide +kernel)) q
end
end Kw
/-! the numbers in plain Lean: a ring whose numbers are told by one or two ints -/
namespace Kw
class NumC (R : Type) extends Lean.Grind.CommRing R where
  dec : DecidableEq R
  /-- the prime, 0 for fractions -/
  p : Nat
  code : R → Int × Option Int
  inj : ∀ x y, code x = code y → x = y
  /-- a bound by stages -/
  Bd : Nat → R → Prop
  bd_mono : ∀ {n m : Nat} {x : R}, n ≤ m → Bd n x → Bd m x
  bd_plus : ∀ {n : Nat} {x y : R}, Bd n x → Bd n y → Bd (n + 1) (x + y)
  bd_times : ∀ {n m : Nat} {x y : R}, Bd n x → Bd m y → Bd (n + m) (x * y)
  bd_neg : ∀ {n : Nat} {x : R}, Bd n x → Bd n (-x)
  bd_0 : Bd 0 (0 : R)
  bd_1 : Bd 0 (1 : R)
  /-- an int as a number -/
  of : Int → R
  of_0 : of 0 = 0
  of_1 : of 1 = 1
  hk : ∀ x, (code x).2.isSome = decide (p = 0)
instance {R : Type} [NumC R] : DecidableEq R := NumC.dec
/-- fractions: over 6 ^ n, the top at most 24 ^ n -/
def BdQ (n : Nat) (q : Rat) : Prop := ∃ a : Int, q * (6 : Rat) ^ n = a ∧ a.natAbs ≤ 24 ^ n
theorem bq_plus {n : Nat} {x y : Rat} : BdQ n x → BdQ n y → BdQ (n + 1) (x + y) := by
  rintro ⟨a, ha, la⟩ ⟨b, hb, lb⟩
  refine ⟨6 * (a + b), ?_, ?_⟩
  · have e : ((6 * (a + b) : Int) : Rat) = 6 * ((a : Rat) + b) := by simp [Rat.intCast_mul, Rat.intCast_add]
    rw [e, ← ha, ← hb, Rat.pow_succ]
    grind
  · rw [Nat.pow_succ]
    omega
theorem bq_times {n m : Nat} {x y : Rat} : BdQ n x → BdQ m y → BdQ (n + m) (x * y) := by
  rintro ⟨a, ha, la⟩ ⟨b, hb, lb⟩
  refine ⟨a * b, ?_, ?_⟩
  · rw [Rat.intCast_mul, ← ha, ← hb, Lean.Grind.Semiring.pow_add]
    grind
  · rw [Int.natAbs_mul, Nat.pow_add]
    exact Nat.mul_le_mul la lb
theorem bq_step {n : Nat} {x : Rat} : BdQ n x → BdQ (n + 1) x := by
  rintro ⟨a, ha, la⟩
  refine ⟨6 * a, ?_, ?_⟩
  · rw [Rat.intCast_mul, ← ha, Rat.pow_succ]
    have : ((6 : Int) : Rat) = 6 := rfl
    grind
  · rw [Nat.pow_succ]
    omega
theorem bq_mono {n m : Nat} {x : Rat} (h : n ≤ m) (b : BdQ n x) : BdQ m x := by
  obtain ⟨k, rfl⟩ := Nat.exists_eq_add_of_le h
  induction k with
  | zero => exact b
  | succ k ih => exact bq_step (ih (by omega))
theorem bq_neg {n : Nat} {x : Rat} : BdQ n x → BdQ n (-x) := by
  rintro ⟨a, ha, la⟩
  refine ⟨-a, ?_, by omega⟩
  rw [Rat.intCast_neg, ← ha]
  grind
theorem bq_0 : BdQ 0 0 := ⟨0, by simp, by simp⟩
theorem bq_1 : BdQ 0 1 := ⟨1, by simp, by simp⟩
instance ratNum : NumC Rat where
  dec := inferInstance
  p := 0
  code q := (q.num, some (q.den : Int))
  inj := fun x y h => by
    have h1 : x.num = y.num := congrArg Prod.fst h
    have h2 : (x.den : Int) = y.den := Option.some.inj (congrArg Prod.snd h)
    exact Rat.ext h1 (by omega)
  Bd := BdQ
  bd_mono := bq_mono
  bd_plus := bq_plus
  bd_times := bq_times
  bd_neg := bq_neg
  bd_0 := bq_0
  bd_1 := bq_1
  of := fun i => (i : Rat)
  of_0 := by simp
  of_1 := by simp
  hk := fun _ => rfl
theorem bq_div {n : Nat} {x : Rat} {a : Int} (h : x * (6 : Rat) ^ n = a) : x = Rat.divInt a (6 ^ n) := by
  have e : ((6 ^ n : Int) : Rat) = (6 : Rat) ^ n := by
    rw [Rat.intCast_pow]
    rfl
  have nz : (6 : Rat) ^ n ≠ 0 := by
    rw [← e]
    intro z
    have z2 : (6 ^ n : Int) = 0 := by exact_mod_cast z
    exact absurd z2 (Int.pow_ne_zero (by decide))
  rw [Rat.divInt_eq_div, e, ← h]
  grind
theorem bq_size {n : Nat} {x : Rat} (h : BdQ n x) : x.num.natAbs ≤ 24 ^ n ∧ x.den ≤ 6 ^ n ∧ x.den ∣ 6 ^ n := by
  obtain ⟨a, ha, la⟩ := h
  have e := bq_div ha
  have h6 : (6 ^ n : Int) ≠ 0 := Int.pow_ne_zero (by decide)
  have h0 : (6 ^ n : Int).natAbs = 6 ^ n := by rw [Int.natAbs_pow]; rfl
  have hd : x.den ∣ 6 ^ n := by
    rw [e, Rat.den_divInt, if_neg h6, h0]
    have h := Int.gcd_dvd_natAbs_left (6 ^ n : Int) a
    rw [h0] at h
    exact Nat.div_dvd_of_dvd h
  refine ⟨?_, Nat.le_of_dvd (Nat.pow_pos (by decide)) hd, hd⟩
  rw [e, Rat.num_divInt]
  have hs : (6 ^ n : Int).sign = 1 := Int.sign_eq_one_of_pos (by have : (0:Int) ≤ 6 ^ n := Int.pow_nonneg (by decide); omega)
  rw [hs, Int.one_mul]
  exact Nat.le_trans (Int.natAbs_ediv_le_natAbs _ _) la
/-- the rests by n -/
instance finNum (n : Nat) [NeZero n] : NumC (Fin n) where
  toCommRing := inferInstance
  dec := inferInstance
  p := n
  code x := ((x.val : Nat), none)
  inj := fun x y h => by
    have h1 : ((x.val : Nat) : Int) = (y.val : Nat) := congrArg Prod.fst h
    exact Fin.ext (by omega)
  Bd := fun _ _ => True
  bd_mono := fun _ _ => trivial
  bd_plus := fun _ _ => trivial
  bd_times := fun _ _ => trivial
  bd_neg := fun _ => trivial
  bd_0 := trivial
  bd_1 := trivial
  of := fun i => Fin.ofNat n (i % n).toNat
  of_0 := by
    rw [Int.zero_emod]
    rfl
  of_1 := Fin.ext (by
    show ((1 : Int) % n).toNat % n = 1 % n
    have : ((1 : Int) % n).toNat = 1 % n := by
      have e : (1 : Int) % n = ((1 % n : Nat) : Int) := by simp
      rw [e, Int.toNat_natCast]
    rw [this, Nat.mod_mod])
  hk := fun _ => (decide_eq_false (NeZero.ne n)).symm
set_option linter.unusedSectionVars false
section
variable {n : Nat} [NeZero n]
theorem fin_of (i : Int) : (((NumC.of i : Fin n).val : Nat) : Int) = i % (n : Int) := by
  show ((((i % n).toNat % n : Nat)) : Int) = i % n
  have h0 : (0 : Int) < n := by have := NeZero.ne n; omega
  have h1 := Int.emod_nonneg i (show (n : Int) ≠ 0 by omega)
  have h2 := Int.emod_lt_of_pos i h0
  rw [Nat.mod_eq_of_lt (by omega)]
  omega
theorem fin_add (x y : Fin n) : (((x + y : Fin n).val : Nat) : Int) = (x.val + y.val : Int) % n := by
  rw [Fin.val_add]; simp
theorem fin_mul (x y : Fin n) : (((x * y : Fin n).val : Nat) : Int) = (x.val * y.val : Int) % n := by
  rw [Fin.val_mul]; simp
theorem fin_neg (x : Fin n) : (((-x : Fin n).val : Nat) : Int) = (-(x.val : Int)) % n := by
  have h := x.isLt
  rw [Fin.val_neg]
  split
  · rename_i h0
    subst h0
    simp
  · rename_i h0
    have : x.val ≠ 0 := fun e => h0 (Fin.ext (by simpa using e))
    have e : (-(x.val : Int)) % n = (n : Int) - x.val := by
      rw [← Int.add_emod_right]
      rw [Int.emod_eq_of_lt (by omega) (by omega)]
      omega
    omega
theorem fin_sub (x y : Fin n) : (((x - y : Fin n).val : Nat) : Int) = ((x.val : Int) - y.val) % n := by
  have h := x.isLt
  have h2 := y.isLt
  rw [Fin.val_sub]
  have : ((n : Nat) - y.val + x.val : Nat) = ((x.val : Int) - y.val) + n := by omega
  rw [Int.natCast_emod, this, Int.add_emod_right]
theorem fin_one : (((1 : Fin n).val : Nat) : Int) = 1 % (n : Int) := by
  have : (1 : Fin n).val = 1 % n := rfl
  rw [this]
  simp
theorem fin_zero : (((0 : Fin n).val : Nat) : Int) = 0 := rfl
end
theorem bq_fit {n : Nat} {x : Rat} (hn : n ≤ 800) (h : BdQ n x) : x.num.natAbs < 2 ^ 4000 ∧ x.den < 2 ^ 4000 := by
  obtain ⟨h1, h2, _⟩ := bq_size (bq_mono hn h)
  have e : (2 : Nat) ^ 4000 = 32 ^ 800 := by
    rw [show (4000 : Nat) = 5 * 800 from rfl, Nat.pow_mul]
  have h3 : (24 : Nat) ^ 800 < 32 ^ 800 := Nat.pow_lt_pow_left (by decide) (by decide)
  have h4 : (6 : Nat) ^ 800 < 32 ^ 800 := Nat.pow_lt_pow_left (by decide) (by decide)
  rw [e]
  exact ⟨Nat.lt_of_le_of_lt h1 h3, Nat.lt_of_le_of_lt h2 h4⟩
end Kw
set_option maxHeartbeats 4000000
/-! loops by their readings; enumerate of a tuple; a tuple a number of times -/
namespace Kw
open PySem PySem.Spec PyProof.Rows L2 RT

/-! ### what a for asks -/
def Lp (J : It) (g : TG) (tb : TS) (D : Ends) (σ : L2.St) (H : Hp) : Prop := ∃ W : Nat → Nat → L2.St → Hp → Prop, (∃ m, W 0 m σ H) ∧ ∀ i m σ H, W i m σ H →
  (J.stop i H ∧ D.nx σ H) ∨ (J.go i H ∧ ∃ N : L2.St → Hp → Prop, (∀ σ' H', N σ' H' → ∃ m', m' < m ∧ W (i + 1) m' σ' H') ∧ ∀ x H', J.yld i H x H' → g x σ H' fun σ2 H2 => tb { D with nx := N, ct := N, bk := D.nx } σ2 H2)
section
variable {K : PySem.W.Frag} {σ : L2.St} {H : Hp} {ta : TA} {te : TE} {g : TG} {tb : TS} {D : Ends}
theorem g_forR1 (h : ta σ H fun vs H1 => ∃ j : Int, vs = [.int j] ∧ -(2 ^ 62) ≤ j ∧ j < 2 ^ 62 ∧ Lp (Itr 0 j.toNat) g tb D σ H1) : tFor (iRng1 ta) g tb D σ H := h
theorem g_forR2 (h : ta σ H fun vs H1 => ∃ i j : Int, vs = [.int i, .int j] ∧ (-(2 ^ 62) ≤ i ∧ i < 2 ^ 62 ∧ -(2 ^ 62) ≤ j ∧ j < 2 ^ 62) ∧ Lp (Itr i (j - i).toNat) g tb D σ H1) : tFor (iRng2 ta) g tb D σ H := h
theorem g_forR3 (h : ta σ H fun vs H1 => ∃ (i j c : Int) (n : Nat), vs = [.int i, .int j, .int c] ∧ RgC i j c n ∧ Lp (Itc i c n) g tb D σ H1) : tFor (iRng3 ta) g tb D σ H := h
theorem g_forL (h : te σ H fun x H1 => ∃ a, x = .ref a ∧ (∃ xs, SqL K H1 a xs) ∧ Lp (Itl K a) g tb D σ H1) : tFor (iList K te) g tb D σ H := h
theorem g_forT (h : te σ H fun x H1 => ∃ a, x = .ref a ∧ (∃ xs, SqT K H1 a xs) ∧ Lp (Itt K a) g tb D σ H1) : tFor (iTup K te) g tb D σ H := h
theorem g_forV (h : te σ H fun v H1 => ∃ (a : Addr) (xs : List V), v = .ref a ∧ ((SqL K H1 a xs ∧ Lp (Itv K a xs.length) g tb D σ H1) ∨ (SqT K H1 a xs ∧ Lp (ItvT K a xs.length) g tb D σ H1))) : tFor (iRevA K te) g tb D σ H := h
theorem g_forVR (h : te σ H fun x H1 => ∃ n, x = .int n ∧ -(2 ^ 62) ≤ (0 : Int) ∧ (0 : Int) < 2 ^ 62 ∧ -(2 ^ 62) ≤ n ∧ n < 2 ^ 62 ∧ Lp (Itc (0 + (((n - 0).toNat : Nat) : Int) - 1) (-1) (n - 0).toNat) g tb D σ H1) : tFor (iRevR (tRg1 te)) g tb D σ H := h
theorem lp_range {lo : Int} {n : Nat} (Pv : Nat → L2.St → Hp → Prop) (h0 : Pv 0 σ H) (hs : ∀ i σ H, i < n → Pv i σ H → g (.int (lo + i)) σ H fun σ2 H2 => tb { D with nx := Pv (i + 1), ct := Pv (i + 1), bk := D.nx } σ2 H2)
    (hd : ∀ σ H, Pv n σ H → D.nx σ H) : Lp (Itr lo n) g tb D σ H := for_range Pv h0 hs hd
theorem lp_rangeC {lo c : Int} {n : Nat} (Pv : Nat → L2.St → Hp → Prop) (h0 : Pv 0 σ H) (hs : ∀ i σ H, i < n → Pv i σ H → g (.int (lo + (i : Nat) * c)) σ H fun σ2 H2 => tb { D with nx := Pv (i + 1), ct := Pv (i + 1), bk := D.nx } σ2 H2)
    (hd : ∀ σ H, Pv n σ H → D.nx σ H) : Lp (Itc lo c n) g tb D σ H := for_rangeC Pv h0 hs hd
theorem lp_list {a : Addr} {xs : List V} (Pv : Nat → L2.St → Hp → Prop) (h0 : Pv 0 σ H) (hl : ∀ i σ H, i ≤ xs.length → Pv i σ H → SqL K H a xs)
    (hs : ∀ i x σ H, xs[i]? = some x → Pv i σ H → g x σ H fun σ2 H2 => tb { D with nx := Pv (i + 1), ct := Pv (i + 1), bk := D.nx } σ2 H2) (hd : ∀ σ H, Pv xs.length σ H → D.nx σ H) : Lp (Itl K a) g tb D σ H := for_list Pv h0 hl hs hd
theorem lp_tup {a : Addr} {xs : List V} (Pv : Nat → L2.St → Hp → Prop) (h0 : Pv 0 σ H) (hl : ∀ i σ H, i ≤ xs.length → Pv i σ H → SqT K H a xs)
    (hs : ∀ i x σ H, xs[i]? = some x → Pv i σ H → g x σ H fun σ2 H2 => tb { D with nx := Pv (i + 1), ct := Pv (i + 1), bk := D.nx } σ2 H2) (hd : ∀ σ H, Pv xs.length σ H → D.nx σ H) : Lp (Itt K a) g tb D σ H := for_tup Pv h0 hl hs hd
end

/-! ### enumerate of a tuple -/
set_option maxHeartbeats 1000000 in
theorem meets_enum1 {v : Value} {o : Obj} {HH : Heap → Prop} (B : Begins v o HH) :
    Meets (Builtin.«enumerate.__new__» ⟨[.type "enumerate", v], []⟩) (fun _ R s => HH s.heap ∧
      R (.ok (.ret (.ref (s.heap.push o).objs.size))) { s with heap := (s.heap.push o).push { cls := .type "enumerate", data := .fields #[.none, .bool false, .ref s.heap.objs.size, rawInt 0, .none, .none] } }) :=
  .of_wp fun prog w A R s hs0 => by
    obtain ⟨hp, gn, dr, tk, os⟩ := s; obtain ⟨hH, hR⟩ := hs0
    have hsub := sub_enumerate
    have it1 : ∀ {A' : Around} {E : Value → Shared → Prop} {Q : Value → Shared → Prop}, Q (.ref hp.objs.size) ⟨hp.push o, gn, dr, tk, os⟩ → wpAny (model prog w) A' (pyIter v) Q E ⟨hp, gn, dr, tk, os⟩ :=
      fun q => B.iter prog w _ _ ⟨hp, gn, dr, tk, os⟩ _ hH q
    wp_walk using it1
    refine wpAny_stack_any fun st => wpAny_pure ?_
    split
    · rename_i c _ _ _ _ _
      cases (c == Value.type "enumerate")
      · wp_walk using it1
        exact ⟨_, rfl, hR⟩
      · wp_walk using it1
        exact ⟨_, rfl, hR⟩
    · wp_walk using it1
      exact ⟨_, rfl, hR⟩
theorem call_enumB {prog : Program} {w : World} {A : Around} {E : Value → Shared → Prop} {s : Shared} {v : Value} {o : Obj} {HH : Heap → Prop} {Q : Value → Shared → Prop} (B : Begins v o HH) (hH : HH s.heap)
    (hq : ∀ h', IsEnum h' (s.heap.objs.size + 1) s.heap.objs.size 0 .none → h'.get? s.heap.objs.size = some o → (∀ b u, s.heap.get? b = some u → h'.get? b = some u) → Q (.ref (s.heap.objs.size + 1)) { s with heap := h' }) :
    wpAny (model prog w) A (call (.type "enumerate") [v]) Q E s := by
  refine callType_new F.called_enumerate (by decide) (F.typeCall_enumerate_1 _) (F.newCall_enumerate_1 _) (fun ob => F.args_object_init_2 ob _) F.entry_enumerate_new (meets_enum1 B) ⟨hH, ?_⟩
  have sz : (s.heap.push o).objs.size = s.heap.objs.size + 1 := Heap.size_push ..
  show _ ∧ _
  rw [sz]
  have he : IsEnum ((s.heap.push o).push { cls := .type "enumerate", data := .fields #[.none, .bool false, .ref s.heap.objs.size, rawInt 0, .none, .none] }) (s.heap.objs.size + 1) s.heap.objs.size 0 .none := by
    have z := Heap.get?_push_size (s.heap.push o) (o := { cls := .type "enumerate", data := .fields #[.none, .bool false, .ref s.heap.objs.size, rawInt 0, .none, .none] }) rfl
    rw [sz] at z
    exact z
  exact ⟨⟨_, he, rfl⟩, hq _ he (Heap.get?_push_of_some _ (Heap.get?_push_size _ B.free)) fun b u x => Heap.get?_push_of_some _ (Heap.get?_push_of_some _ x)⟩
/-- the tuple at a, each item in a new pair with its place -/
def IteT (K : PySem.W.Frag) (a : Addr) : It :=
  ⟨fun i H => ∃ (xs : List V) (x : V), SqT K H a xs ∧ xs[i]? = some x, fun i H v H' => ∃ T x, v = .ref T ∧ H T = none ∧ H' = upd H T (.tup [.int (i : Nat), x]) ∧ ∀ xs, SqT K H a xs → xs[i]? = some x, fun i H => ∃ xs : List V, SqT K H a xs ∧ xs.length ≤ i⟩
theorem turn_enumT {P : Program} {w : World} {K : PySem.W.Frag} {elts : List Expr} {kk : Nat} {tpos : Pos} (a e it : Addr) :
    Turn P w K (.Tuple elts kk tpos) (IteT K a) [e, it] e (fun i h => (∃ old, IsEnum h e it ((i : Nat) : Int) old) ∧ h.IsTupleIter it a i ∧ e ≠ it) where
  mem := by simp
  obj := fun i h st b hb => by
    obtain ⟨⟨old, he⟩, ⟨ob, h1, _, h3⟩, _⟩ := st
    have z : b = e ∨ b = it := by simpa using hb
    rcases z with z | z
    · subst z
      exact ⟨_, he, fun v q => nomatch q⟩
    · subst z
      exact ⟨ob, h1, fun v q => by rw [h3] at q; cases q⟩
  keep := fun i h h' st k => by
    obtain ⟨⟨old, he⟩, ht, hne⟩ := st
    exact ⟨⟨old, k e (by simp) _ he⟩, ht.at fun u q => k it (by simp) u q, hne⟩
  item := by
    intro X hP hw hK hc i pins s σ H E I hf st hg
    subst hP hw hK
    obtain ⟨⟨old, he⟩, hit, hne⟩ := st
    obtain ⟨xs, x, hq, hx⟩ := hg
    obtain ⟨its, rv, p, hz⟩ := I.tuple hq
    obtain ⟨u, hu, ru⟩ := rv.get hx
    have hel : e < s.heap.objs.size := Heap.lt_size he
    have hil : it < s.heap.objs.size := by
      obtain ⟨_, q, _⟩ := hit
      exact Heap.lt_size q
    have hpa : s.heap.IsTuple a its.toArray := p
    have hai : a ≠ it := fun z => by
      obtain ⟨o1, e1, c1, _⟩ := hpa
      obtain ⟨o2, e2, c2, _⟩ := hit
      rw [z, e2] at e1
      cases e1
      rw [c1] at c2
      injection c2 with z2
      exact absurd z2 (by decide)
    have hae : a ≠ e := fun z => by
      obtain ⟨o1, e1, c1, _⟩ := hpa
      rw [z] at e1
      have e2 := e1.symm.trans he
      have e3 := Option.some.inj e2
      rw [e3] at c1
      injection c1 with z2
      exact absurd z2 (by decide)
    have hlt : i < its.toArray.size := by
      rw [List.size_toArray, ← rv.length]
      exact (List.getElem?_eq_some_iff.mp hx).1
    refine wpAny_pyNext_enum_itemD (Draws.tuple (A := X.A.in1) (I.ok.hd hc) it a hai its.toArray) he ⟨hit, hpa⟩ hlt hne (by simp [hne, Ne.symm hae]) fun y h' tk hy ho hst hT hsz hk => ?_
    have ey : y = u := by
      have : its.toArray[i]? = some u := by simpa using hu
      rw [this] at hy
      exact (Option.some.inj hy).symm
    subst ey
    refine ⟨_, rfl, wpAny_letOwnedTupleGo_enum (s := { s with heap := h', toks := tk + 1 }) ho fun h'' he' sb => ?_⟩
    have hT2 : h''.get? s.heap.objs.size = some { cls := .type "tuple", data := .seq #[.int i tk, y] } := (sb.2 _ (Nat.ne_of_gt hel)).trans hT
    have new : ObjOk X.prog X.w (upd H s.heap.objs.size (.tup [.int (i : Nat), x])) h'' s.heap.objs.size (.tup [.int (i : Nat), x]) :=
      ⟨by show 2 ≤ sizeLine; decide, [.int i tk, y], .cons ⟨_, rfl⟩ (.cons ru .nil), ⟨_, hT2, rfl, _, rfl⟩⟩
    have J : Inv X pins σ (upd H s.heap.objs.size (.tup [.int (i : Nat), x])) { s with heap := h'', toks := tk + 1 } :=
      I.turnedNew (t' := tk + 1) (ch := [e, it]) (fun b ob hb q => (sb.2 b (fun z => hb (by simp [z]))).trans (hk b ob (fun z => hb (by simp [z])) (fun z => hb (by simp [z])) q)) hf (Nat.le_refl _) new
    refine ⟨.ref s.heap.objs.size, _, J, rfl, ⟨_, x, rfl, I.hok.fresh (Nat.le_refl _), rfl, fun ys hy => by rw [I.tuple_inj hy hq]; exact hx⟩, ⟨⟨y, ?_⟩, hst.1.at fun o q => (sb.2 it (Ne.symm hne)).trans q, hne⟩, fun b hb => ?_⟩
    · have e1 : ((i + 1 : Nat) : Int) = (i : Int) + 1 := by omega
      rw [e1]
      exact he'
    · have hb' : b < s.heap.objs.size := by
        have z : b = e ∨ b = it := by simpa using hb
        rcases z with z | z <;> subst z <;> assumption
      rw [upd_ne (Nat.ne_of_lt hb')]
      exact (hf b hb).1
  done := by
    intro X hP hw hK hc i pins s σ H E I hf st hg
    subst hP hw hK
    obtain ⟨⟨old, he⟩, hit, hne⟩ := st
    obtain ⟨xs, hq, hx⟩ := hg
    obtain ⟨its, rv, p, hz⟩ := I.tuple hq
    obtain ⟨f0, f1, f2, f3, f4, f5⟩ := hf it (by simp)
    have hpa : s.heap.IsTuple a its.toArray := p
    have hend : its.toArray[i]? = none := by
      rw [List.getElem?_toArray, List.getElem?_eq_none_iff, ← rv.length]
      exact hx
    have Dr : Draws X.prog X.w X.A.in1 it [it, a] i (fun _ _ => True) (fun j h => j = i ∧ h.IsTupleIter it a i ∧ h.IsTuple a its.toArray) := {
      live := fun _ _ st => let ⟨o, ho, _⟩ := st.2.1; ⟨o, ho⟩
      frame := fun _ _ _ st hk => ⟨st.1, st.2.1.at fun o e => hk it (by simp) o e, st.2.2.at fun o e => hk a (by simp) o e⟩
      item := fun j s Q E hj st _ => absurd st.1 (Nat.ne_of_lt hj)
      done := fun s Q E st hE => wpAny_nextOf_tuple_end (I.ok.hd hc) st.2.1 st.2.2 hend hE }
    exact wpAny_pyNext_enum_endD Dr he ⟨rfl, hit, hpa⟩ fun h' eb => ⟨rfl, I.turned (t' := s.toks) (fun b o hb e => eb b o hb e) f0 f1 f3 f4 f5⟩
  self := fun A i s Q E st h => by
    obtain ⟨⟨_, he⟩, _⟩ := st
    exact wpAny_pyIter_enum he h
def iEnumT (K : PySem.W.Frag) (ta : TA) : TI := fun σ H R => ta σ H fun vs H1 => ∃ a xs, vs = [.ref a] ∧ ((SqL K H1 a xs ∧ R (Ite K a) H1) ∨ (SqT K H1 a xs ∧ R (IteT K a) H1))
theorem pi_enumT {X : Cx} {e : Expr} {ta : TA} {p pos tpos : Pos} {elts : List Expr} {kk : Nat} (hg : Gl X "enumerate") (hm : X.mg "enumerate" = none) (ha : PA X [e] ta) (hs : starEach [e] X.env = [(false, eval e X.env)] := by rfl) :
    PI X (.Tuple elts kk tpos) (.Call (.Name "enumerate" p) [e] [] pos) (iEnumT X.K ta) := by
  refine ⟨fun pins s σ H R I h => ?_⟩
  refine Call_ (ld_blt I hg hm boot_enumerate (PyProof.Rows.callWith_type1 (thn (ha.run pos pins s σ H _ I h) fun us s1 ⟨vs, H1, I1, r1, q1⟩ => ?_) hs rfl))
  obtain ⟨a, xs, ev, q1⟩ := q1
  subst ev
  cases r1 with
  | cons r rr =>
    cases rr
    cases r
    have fresh2 : ∀ b, b ∈ [s1.heap.objs.size + 1, s1.heap.objs.size] → FpOk X pins H1 b := fun b hb => by
      have hle : s1.heap.objs.size ≤ b := by
        have z : b = s1.heap.objs.size + 1 ∨ b = s1.heap.objs.size := by simpa using hb
        rcases z with z | z
        · rw [z]
          exact Nat.le_add_right _ _
        · rw [z]
          exact Nat.le_refl _
      exact I1.fpOk hle (I1.hok.fresh hle)
    rcases q1 with ⟨hq, q⟩ | ⟨hq, q⟩
    · obtain ⟨its, rv, pl, _⟩ := I1.list hq
      refine call_enumerate_list pl.isList fun h' he hit _ hk => wpAny_pyIter_enum he ?_
      exact ⟨s1.heap.objs.size + 1, [s1.heap.objs.size + 1, s1.heap.objs.size], _, _, H1, rfl, I1.kept (t' := s1.toks) hk, turn_enum a (s1.heap.objs.size + 1) s1.heap.objs.size, ⟨⟨.none, he⟩, hit, Nat.succ_ne_self _⟩, fresh2, q⟩
    · obtain ⟨its, rv, pt, _⟩ := I1.tuple hq
      refine call_enumB (begins_tuple a its.toArray) pt fun h' he hit hk => wpAny_pyIter_enum he ?_
      exact ⟨s1.heap.objs.size + 1, [s1.heap.objs.size + 1, s1.heap.objs.size], _, _, H1, rfl, I1.kept (t' := s1.toks) hk, turn_enumT a (s1.heap.objs.size + 1) s1.heap.objs.size, ⟨⟨.none, he⟩, ⟨_, hit, rfl, rfl⟩, Nat.succ_ne_self _⟩, fresh2, q⟩
section
variable {K : PySem.W.Frag} {σ : L2.St} {H : Hp} {ta : TA} {g : TG} {tb : TS} {D : Ends}
theorem g_forE (h : ta σ H fun vs H1 => ∃ a xs, vs = [.ref a] ∧ ((SqL K H1 a xs ∧ Lp (Ite K a) g tb D σ H1) ∨ (SqT K H1 a xs ∧ Lp (IteT K a) g tb D σ H1))) : tFor (iEnumT K ta) g tb D σ H := h
/-- over a list or a tuple that stands still, with the place -/
theorem lp_enumT {a : Addr} {xs : List V} (Pv : Nat → L2.St → Hp → Prop) (h0 : Pv 0 σ H) (hl : ∀ i σ H, i ≤ xs.length → Pv i σ H → SqT K H a xs)
    (hs : ∀ i x T σ H, xs[i]? = some x → Pv i σ H → H T = none → g (.ref T) σ (upd H T (.tup [.int (i : Nat), x])) fun σ2 H2 => tb { D with nx := Pv (i + 1), ct := Pv (i + 1), bk := D.nx } σ2 H2) (hd : ∀ σ H, Pv xs.length σ H → D.nx σ H) : Lp (IteT K a) g tb D σ H := by
  refine ⟨fun i m σ H => m = xs.length - i ∧ i ≤ xs.length ∧ Pv i σ H, ⟨_, rfl, Nat.zero_le _, h0⟩, ?_⟩
  rintro i m σ H ⟨rfl, hi, p⟩
  have q := hl i σ H hi p
  by_cases hlt : i < xs.length
  · refine .inr ⟨⟨xs, _, q, List.getElem?_eq_getElem hlt⟩, Pv (i + 1), fun σ' H' p' => ⟨xs.length - (i + 1), by omega, rfl, hlt, p'⟩, fun v H' y => ?_⟩
    obtain ⟨T, x, rfl, hT, rfl, hx⟩ := y
    exact hs i x T σ H (hx xs q) p hT
  · have e : i = xs.length := by omega
    refine .inl ⟨⟨xs, q, by omega⟩, ?_⟩
    rw [e] at p
    exact hd σ H p
theorem lp_enumL {a : Addr} {xs : List V} (Pv : Nat → L2.St → Hp → Prop) (h0 : Pv 0 σ H) (hl : ∀ i σ H, i ≤ xs.length → Pv i σ H → SqL K H a xs)
    (hs : ∀ i x T σ H, xs[i]? = some x → Pv i σ H → H T = none → g (.ref T) σ (upd H T (.tup [.int (i : Nat), x])) fun σ2 H2 => tb { D with nx := Pv (i + 1), ct := Pv (i + 1), bk := D.nx } σ2 H2) (hd : ∀ σ H, Pv xs.length σ H → D.nx σ H) : Lp (Ite K a) g tb D σ H := by
  refine ⟨fun i m σ H => m = xs.length - i ∧ i ≤ xs.length ∧ Pv i σ H, ⟨_, rfl, Nat.zero_le _, h0⟩, ?_⟩
  rintro i m σ H ⟨rfl, hi, p⟩
  have q := hl i σ H hi p
  by_cases hlt : i < xs.length
  · refine .inr ⟨⟨xs, _, q, List.getElem?_eq_getElem hlt⟩, Pv (i + 1), fun σ' H' p' => ⟨xs.length - (i + 1), by omega, rfl, hlt, p'⟩, fun v H' y => ?_⟩
    obtain ⟨T, x, rfl, hT, rfl, hx⟩ := y
    exact hs i x T σ H (hx xs q) p hT
  · have e : i = xs.length := by omega
    refine .inl ⟨⟨xs, q, by omega⟩, ?_⟩
    rw [e] at p
    exact hd σ H p
end
/-! ### further steps -/
def rTupOf (K : PySem.W.Frag) : List V → Hp → VK → Prop := fun xs H Q => ∃ p ys, xs = [.ref p] ∧ ((SqL K H p ys ∧ ∀ l, H l = none → Q (.ref l) (upd H l (.tup ys))) ∨ (SqT K H p ys ∧ Q (.ref p) H))
def rLstOf (K : PySem.W.Frag) : List V → Hp → VK → Prop := fun xs H Q => ∃ p ys, xs = [.ref p] ∧ (SqL K H p ys ∨ SqT K H p ys) ∧ ∀ l, H l = none → Q (.ref l) (upd H l (.lst ys))
theorem call_tuple_of_ {X : Cx} : CallR X (.type "tuple") (rTupOf X.K) := call_tuple_of
theorem call_list_of_ {X : Cx} : CallR X (.type "list") (rLstOf X.K) := call_list_of
theorem small5 {n : Nat} (h : n ≤ 100000) : n ≤ sizeLine := Nat.le_trans h (by decide)
theorem small5' {n : Nat} (h : n ≤ 100000) : n < sizeLine := Nat.lt_of_le_of_lt h (by decide)
section
variable {K : PySem.W.Frag} {σ : L2.St} {H : Hp} {ta te : TE} {tA : TA} {Q : VK} {D : Ends} {v w x y : V} {tl th : TO}
theorem g_sl {r : V → Option Int → Option Int → Hp → VK → Prop} (h : te σ H fun x H1 => tl σ H1 fun l H2 => th σ H2 fun u H3 => r x l u H3 Q) : tSl r te tl th σ H Q := h
theorem g_nopart {QO : Option Int → Hp → Prop} (q : QO none H) : tNoPart σ H QO := q
theorem g_part {QO : Option Int → Hp → Prop} (h : te σ H fun x H1 => ∃ i, x = .int i ∧ QO (some i) H1) : tPart te σ H QO := h
theorem g_partI {P : Int → Prop} {i : Int} (q : P i) : ∃ j, V.int i = .int j ∧ P j := ⟨i, rfl, q⟩
theorem g_slL {a : Addr} {xs : List V} {lo hi : Option Int} (h : H a = some (.lst xs)) (q : ∀ p, H p = none → Q (.ref p) (upd H p (.lst (cutV xs lo hi)))) : rSlL K (.ref a) lo hi H Q := ⟨a, xs, rfl, SqL.of h, q⟩
theorem g_bm {T : String} {r : V → List V → Hp → VK → Prop} (h : ta σ H fun x H1 => tyV K T x H1 ∧ tA σ H1 fun xs H2 => r x xs H2 Q) : tBM K T r ta tA σ H Q := h
theorem g_tyL {l : Addr} {xs : List V} {P : Prop} (h : H l = some (.lst xs)) (q : P) : tyV K "list" (.ref l) H ∧ P := ⟨.inl ⟨rfl, _, SqL.of h⟩, q⟩
theorem g_app {l : Addr} {xs : List V} (h : H l = some (.lst xs)) (hz : xs.length ≤ 100000) (q : Q .non (upd H l (.lst (xs ++ [y])))) : rAppend (.ref l) [y] H Q := ⟨l, xs, y, rfl, rfl, h, small5' hz, q⟩
theorem g_sub {to ti : TE} {t : TSet} {P : L2.St → Hp → Prop} (h : to σ H fun o H1 => ti σ H1 fun i H2 => t o i v H2 fun H3 => P σ H3) : gSub to ti t v σ H P := h
theorem g_setL {l : Addr} {xs : List V} {j : Nat} {i : Int} {QH : Hp → Prop} (h : H l = some (.lst xs)) (hi : i = (j : Int)) (hj : j < xs.length) (q : QH (upd H l (.lst (xs.set j v)))) : rSetL (.ref l) (.int i) v H QH :=
  ⟨l, xs, i, j, rfl, rfl, h, by unfold ixN; rw [hi, if_pos (by omega), if_pos (by omega)]; simp, q⟩
theorem g_tup2 {T : Addr} {i j : Nat} {P : L2.St → Hp → Prop} (h : H T = some (.tup [x, y])) (q : P ((σ.set i (some x)).set j (some y)) H) : gTup K 2 (gCons (gName i) (gCons (gName j) gNil)) (.ref T) σ H P :=
  ⟨T, [x, y], rfl, SqT.of h, rfl, x, [y], rfl, y, [], rfl, rfl, q⟩
theorem g_unl2 {T : Addr} {i j : Nat} {P : L2.St → Hp → Prop} (h : H T = some (.lst [x, y])) (q : P ((σ.set i (some x)).set j (some y)) H) : gUnl K 2 (gCons (gName i) (gCons (gName j) gNil)) (.ref T) σ H P :=
  ⟨T, [x, y], rfl, SqL.of h, rfl, x, [y], rfl, y, [], rfl, rfl, q⟩
theorem g_aug {i : Nat} {f : Int → Int → Int} {a : Int} (hx : σ[i]? = some (some (.int a))) (h : te σ H fun y H1 => ipI f (.int a) y H1 fun z H2 => D.nx (σ.set i (some z)) H2) : tAug i te (ipI f) D σ H := ⟨_, hx, h⟩
theorem g_ip {f : Int → Int → Int} {i j : Int} (q : Q (.int (f i j)) H) : ipI f (.int i) (.int j) H Q := ⟨i, j, rfl, rfl, q⟩
theorem g_make {C : Addr} {sp : Sp} {dvs : List V} {E : XK} (h : tA σ H fun vs H1 => ∀ x dx, H1 x = none → H1 dx = none → dx ≠ x → sp (.ref x :: (vs ++ dvs)) (upd (upd H1 dx (.own x)) x (.ins C dx [])) (fun v H2 => v = .non ∧ Q (.ref x) H2) E) : tMake C sp dvs E tA σ H Q := h
theorem g_tupOfL {p : Addr} {ys : List V} (h : H p = some (.lst ys)) (q : ∀ l, H l = none → Q (.ref l) (upd H l (.tup ys))) : rTupOf K [.ref p] H Q := ⟨p, ys, rfl, .inl ⟨SqL.of h, q⟩⟩
theorem g_tupOfT {p : Addr} {ys : List V} (h : H p = some (.tup ys)) (q : Q (.ref p) H) : rTupOf K [.ref p] H Q := ⟨p, ys, rfl, .inr ⟨SqT.of h, q⟩⟩
theorem g_lstOfL {p : Addr} {ys : List V} (h : H p = some (.lst ys)) (q : ∀ l, H l = none → Q (.ref l) (upd H l (.lst ys))) : rLstOf K [.ref p] H Q := ⟨p, ys, rfl, .inl (SqL.of h), q⟩
theorem g_lstOfT {p : Addr} {ys : List V} (h : H p = some (.tup ys)) (q : ∀ l, H l = none → Q (.ref l) (upd H l (.lst ys))) : rLstOf K [.ref p] H Q := ⟨p, ys, rfl, .inr (SqT.of h), q⟩
theorem g_ixTn {p : Addr} {xs : List V} {i : Int} {j : Nat} (h : H p = some (.tup xs)) (hi : i = (j : Int)) (ha : xs[j]? = some v) (q : Q v H) : rIxT K (.ref p) (.int i) H Q := ⟨p, xs, i, v, rfl, rfl, SqT.of h, hi ▸ atI_nat ha, q⟩
theorem g_ixLn {p : Addr} {xs : List V} {i : Int} {j : Nat} (h : H p = some (.lst xs)) (hi : i = (j : Int)) (ha : xs[j]? = some v) (q : Q v H) : rIxL K (.ref p) (.int i) H Q := ⟨p, xs, i, v, rfl, rfl, SqL.of h, hi ▸ atI_nat ha, q⟩
theorem g_rRep {l : Addr} {xs : List V} {k : Int} (h : H l = some (.lst xs)) (hk : k ≤ 1000) (hk0 : -1000 ≤ k) (hz : xs.length ≤ 1) (q : ∀ p, H p = none → Q (.ref p) (upd H p (.lst (List.replicate k.toNat xs).flatten))) : rRep (.ref l) (.int k) H Q :=
  ⟨l, k, xs, rfl, rfl, h, by omega, by omega, small5 (Nat.le_trans (Nat.mul_le_mul hz (show k.toNat ≤ 1000 by omega)) (by decide)), q⟩
theorem flat_rep {α : Type} (x : α) : ∀ n, (List.replicate n [x]).flatten = List.replicate n x
  | 0 => rfl
  | n + 1 => by rw [List.replicate_succ, List.flatten_cons, flat_rep x n]; rfl
theorem atI_last' {α : Type} {xs : List α} {v : α} (h : xs.getLast? = some v) : atI xs (-1) = some v := by
  have hne : xs ≠ [] := fun e => by rw [e] at h; cases h
  have e := List.dropLast_concat_getLast hne
  have e2 : xs.getLast hne = v := by
    rw [List.getLast?_eq_some_getLast hne] at h
    exact Option.some.inj h
  rw [← e, e2]
  exact atI_last _ _
theorem lp_revT {g : TG} {tb : TS} {a : Addr} {xs : List V} (Pv : Nat → L2.St → Hp → Prop) (h0 : Pv 0 σ H) (hq : ∀ i σ H, Pv i σ H → SqT K H a xs)
    (hs : ∀ (i : Nat) (x : V) (σ : L2.St) (H : Hp), i < xs.length → xs[xs.length - 1 - i]? = some x → Pv i σ H → g x σ H fun σ2 H2 => tb { D with nx := Pv (i + 1), ct := Pv (i + 1), bk := D.nx } σ2 H2) (hd : ∀ σ H, Pv xs.length σ H → D.nx σ H) : Lp (ItvT K a xs.length) g tb D σ H := for_ItvT Pv h0 hq hs hd
theorem lp_revL {g : TG} {tb : TS} {a : Addr} {xs : List V} (Pv : Nat → L2.St → Hp → Prop) (h0 : Pv 0 σ H) (hq : ∀ i σ H, Pv i σ H → SqL K H a xs)
    (hs : ∀ (i : Nat) (x : V) (σ : L2.St) (H : Hp), i < xs.length → xs[xs.length - 1 - i]? = some x → Pv i σ H → g x σ H fun σ2 H2 => tb { D with nx := Pv (i + 1), ct := Pv (i + 1), bk := D.nx } σ2 H2) (hd : ∀ σ H, Pv xs.length σ H → D.nx σ H) : Lp (Itv K a xs.length) g tb D σ H := for_Itv Pv h0 hq hs hd
end
/-! within a comprehension: the same rules, the written part told -/
section
variable {X : Cx} {K : PySem.W.Frag}
theorem ix_tupK (hK : X.K = K := by rfl) : IxR X (rIxT K) := hK ▸ ix_tup
theorem ix_listK (hK : X.K = K := by rfl) : IxR X (rIxL K) := hK ▸ ix_list
theorem op_eqDK (hu : X.A.units + 64 < cLine) (hK : X.K = K := by rfl) : OpR X (compareOp .Eq) (rEqD K) := hK ▸ op_eqD hu
theorem pe_fldK {e : Expr} {f : Str} {pos : Pos} {ta : TE} (he : PE X e ta) (hb : attributeBase e f X.env (eval e X.env) = eval e X.env) (hK : X.K = K := by rfl) : PE X (.Attribute e f pos) (tFld K ta f) := hK ▸ pe_fld he hb
end
/-! ### comprehensions -/
/-- all but the lists stand -/
def Im (H H' : Hp) : Prop := ∀ b o, H b = some o → (∀ xs, o ≠ .lst xs) → H' b = some o
theorem Im.refl (H : Hp) : Im H H := fun _ _ h _ => h
theorem Im.trans {H H1 H2 : Hp} (a : Im H H1) (b : Im H1 H2) : Im H H2 := fun x o h n => b x o (a x o h n) n
theorem Same.im {H H' : Hp} (e : Same H H') : Im H H' := fun x o h _ => e x o h
theorem im_upd {H : Hp} {l : Addr} {xs : List V} {o : HO} (h : H l = some (.lst xs)) : Im H (upd H l o) := fun b u e n => by
  have hb : b ≠ l := fun z => by
    rw [z, h] at e
    exact n xs (Option.some.inj e).symm
  rw [upd_ne hb]
  exact e
theorem same_mut {H H' : Hp} {l : Addr} {o : HO} (e : Same H H') (h : H l = none) : Same H (upd H' l o) := fun b x hx => by
  rw [upd_ne (ne_of_none hx h)]
  exact e b x hx
def Lc (J : It) (g : TG) (tt : TT) (te : TE) (vs : List Nat) (D : Addr) (σ : L2.St) (H1 : Hp) (Q : VK) : Prop := ∃ W : Nat → Nat → Hp → Prop, (∃ m, W 0 m (upd H1 D (.lst []))) ∧ ∀ i m H, W i m H →
  (J.stop i H ∧ Q (.ref D) H) ∨ (J.go i H ∧ ∃ Nx : Hp → Prop, (∀ H', Nx H' → ∃ m', m' < m ∧ W (i + 1) m' H') ∧ ∀ x H', J.yld i H x H' → g x (wipe σ vs) H' fun σ2 H2 => wipe σ2 vs = wipe σ vs ∧ tt σ2 H2 fun b H3 =>
    if b = true then te σ2 H3 fun y H4 => ∃ acc, H4 D = some (.lst acc) ∧ acc.length < sizeLine ∧ Nx (upd H4 D (.lst (acc ++ [y]))) else Nx H3)
section
variable {K : PySem.W.Frag} {σ : L2.St} {H : Hp} {tA : TA} {tl te : TE} {g : TG} {tt : TT} {vs : List Nat} {Q : VK}
theorem g_lcL (h : tl σ H fun x H1 => ∃ a, x = .ref a ∧ (∃ xs, SqL K H1 a xs) ∧ ∀ D, H1 D = none → Lc (Itl K a) g tt te vs D σ H1 Q) : tLc (iList K tl) g tt te vs σ H Q := h
theorem g_lcT (h : tl σ H fun x H1 => ∃ a, x = .ref a ∧ (∃ xs, SqT K H1 a xs) ∧ ∀ D, H1 D = none → Lc (Itt K a) g tt te vs D σ H1 Q) : tLc (iTup K tl) g tt te vs σ H Q := h
theorem g_lcR1 (h : tA σ H fun vs' H1 => ∃ j : Int, vs' = [.int j] ∧ -(2 ^ 62) ≤ j ∧ j < 2 ^ 62 ∧ ∀ D, H1 D = none → Lc (Itr 0 j.toNat) g tt te vs D σ H1 Q) : tLc (iRng1 tA) g tt te vs σ H Q := h
theorem g_lcR2 (h : tA σ H fun vs' H1 => ∃ i j : Int, vs' = [.int i, .int j] ∧ (-(2 ^ 62) ≤ i ∧ i < 2 ^ 62 ∧ -(2 ^ 62) ≤ j ∧ j < 2 ^ 62) ∧ ∀ D, H1 D = none → Lc (Itr i (j - i).toNat) g tt te vs D σ H1 Q) : tLc (iRng2 tA) g tt te vs σ H Q := h
variable {D : Addr} {H1 : Hp}
/-- what a turn is asked: x the item, from ys so far -/
def LcTurn (g : TG) (tt : TT) (te : TE) (vs : List Nat) (σ : L2.St) (Hc : Hp) (x : V) (Sk : V → Hp → Prop) (Sn : Hp → Prop) : Prop :=
  ∀ (Qk : VK) (Qn : Hp → Prop), (∀ y H4, Same Hc H4 → Sk y H4 → Qk y H4) → (∀ H3, Same Hc H3 → Sn H3 → Qn H3) →
    g x (wipe σ vs) Hc fun σ2 H2 => wipe σ2 vs = wipe σ vs ∧ tt σ2 H2 fun b H3 => if b = true then te σ2 H3 Qk else Qn H3
theorem lc_word {J : It} (n : Nat) (item : Nat → V → Prop) (hgo : ∀ i Hc, i < n → Same H1 Hc → J.go i Hc) (hstop : ∀ Hc, Same H1 Hc → J.stop n Hc) (hy : ∀ i Hc x H', i < n → Same H1 Hc → J.yld i Hc x H' → H' = Hc ∧ item i x)
    (S : Nat → List V → Hp → Prop) (hS : ∀ i ys Ha Hb, S i ys Ha → Im Ha Hb → S i ys Hb) (hz : ∀ i ys Ha, S i ys Ha → ys.length ≤ 100000) (hD : H1 D = none) (h0 : S 0 [] H1)
    (hs : ∀ i x ys Hc, i < n → item i x → Same H1 Hc → S i ys Hc → LcTurn g tt te vs σ Hc x (fun y H4 => S (i + 1) (ys ++ [y]) H4) (fun H3 => S (i + 1) ys H3))
    (hd : ∀ ys H', Same H1 H' → H' D = some (.lst ys) → S n ys H' → Q (.ref D) H') : Lc J g tt te vs D σ H1 Q := by
  refine ⟨fun i m Hc => m = n - i ∧ i ≤ n ∧ Same H1 Hc ∧ ∃ ys, Hc D = some (.lst ys) ∧ S i ys Hc, ⟨n, by omega, Nat.zero_le _, same_new hD, [], upd_same, hS _ _ _ _ h0 (Same.im (same_new hD))⟩, ?_⟩
  rintro i m Hc ⟨rfl, hi, ec, ys, hys, hq⟩
  by_cases hlt : i < n
  · refine .inr ⟨hgo i Hc hlt ec, fun H' => i + 1 ≤ n ∧ Same H1 H' ∧ ∃ ys, H' D = some (.lst ys) ∧ S (i + 1) ys H', fun H' p => ⟨n - (i + 1), by omega, rfl, p⟩, fun x H' yl => ?_⟩
    obtain ⟨rfl, hx⟩ := hy i Hc x H' hlt ec yl
    refine hs i x ys H' hlt hx ec hq _ _ (fun y H4 e4 s4 => ?_) (fun H3 e3 s3 => ⟨hlt, ec.trans e3, ys, e3 _ _ hys, s3⟩)
    have h4 := e4 _ _ hys
    exact ⟨ys, h4, small5' (hz _ _ _ hq), hlt, same_mut (ec.trans e4) hD, _, upd_same, hS _ _ _ _ s4 (im_upd h4)⟩
  · have e : i = n := by omega
    subst e
    exact .inl ⟨hstop Hc ec, hd ys Hc ec hys hq⟩
theorem lc_wordT {a : Addr} {xs : List V} (S : Nat → List V → Hp → Prop) (ha : H1 a = some (.tup xs)) (hS : ∀ i ys Ha Hb, S i ys Ha → Im Ha Hb → S i ys Hb) (hz : ∀ i ys Ha, S i ys Ha → ys.length ≤ 100000) (hD : H1 D = none) (h0 : S 0 [] H1)
    (hs : ∀ i x ys Hc, xs[i]? = some x → Same H1 Hc → S i ys Hc → LcTurn g tt te vs σ Hc x (fun y H4 => S (i + 1) (ys ++ [y]) H4) (fun H3 => S (i + 1) ys H3))
    (hd : ∀ ys H', Same H1 H' → H' D = some (.lst ys) → S xs.length ys H' → Q (.ref D) H') : Lc (Itt K a) g tt te vs D σ H1 Q :=
  lc_word xs.length (fun i x => xs[i]? = some x) (fun i Hc hi e => ⟨xs, xs[i], SqT.of (e _ _ ha), List.getElem?_eq_getElem hi⟩) (fun Hc e => ⟨xs, SqT.of (e _ _ ha), Nat.le_refl _⟩)
    (fun i Hc x H' _ e y => ⟨y.1, y.2 xs (SqT.of (e _ _ ha))⟩) S hS hz hD h0 (fun i x ys Hc _ hx => hs i x ys Hc hx) hd
theorem lc_wordL {a : Addr} {xs : List V} (S : Nat → List V → Hp → Prop) (ha : H1 a = some (.lst xs)) (hS : ∀ i ys Ha Hb, S i ys Ha → Im Ha Hb → S i ys Hb) (hz : ∀ i ys Ha, S i ys Ha → ys.length ≤ 100000) (hD : H1 D = none) (h0 : S 0 [] H1)
    (hs : ∀ i x ys Hc, xs[i]? = some x → Same H1 Hc → S i ys Hc → LcTurn g tt te vs σ Hc x (fun y H4 => S (i + 1) (ys ++ [y]) H4) (fun H3 => S (i + 1) ys H3))
    (hd : ∀ ys H', Same H1 H' → H' D = some (.lst ys) → S xs.length ys H' → Q (.ref D) H') : Lc (Itl K a) g tt te vs D σ H1 Q :=
  lc_word xs.length (fun i x => xs[i]? = some x) (fun i Hc hi e => ⟨xs, xs[i], SqL.of (e _ _ ha), List.getElem?_eq_getElem hi⟩) (fun Hc e => ⟨xs, SqL.of (e _ _ ha), Nat.le_refl _⟩)
    (fun i Hc x H' _ e y => ⟨y.1, y.2 xs (SqL.of (e _ _ ha))⟩) S hS hz hD h0 (fun i x ys Hc _ hx => hs i x ys Hc hx) hd
theorem lc_wordR {lo : Int} {n : Nat} (S : Nat → List V → Hp → Prop) (hS : ∀ i ys Ha Hb, S i ys Ha → Im Ha Hb → S i ys Hb) (hz : ∀ i ys Ha, S i ys Ha → ys.length ≤ 100000) (hD : H1 D = none) (h0 : S 0 [] H1)
    (hs : ∀ (i : Nat) ys Hc, i < n → Same H1 Hc → S i ys Hc → LcTurn g tt te vs σ Hc (.int (lo + (i : Nat))) (fun y H4 => S (i + 1) (ys ++ [y]) H4) (fun H3 => S (i + 1) ys H3))
    (hd : ∀ ys H', Same H1 H' → H' D = some (.lst ys) → S n ys H' → Q (.ref D) H') : Lc (Itr lo n) g tt te vs D σ H1 Q :=
  lc_word n (fun i x => x = .int (lo + (i : Nat))) (fun i Hc hi e => hi) (fun Hc e => Nat.le_refl _) (fun i Hc x H' _ e y => y) S hS hz hD h0 (fun i x ys Hc hi hx => by
    subst hx
    exact hs i ys Hc hi) hd
end
theorem g_yes {σ : L2.St} {H : Hp} {QB : Bool → Hp → Prop} (q : QB true H) : tYes σ H QB := q
theorem lc_in {A B : Prop} {σ : L2.St} {H : Hp} {tt : TT} {Q : Bool → Hp → Prop} {vs : List Nat} {σ0 : L2.St} (e : wipe σ vs = σ0) (h : tt σ H Q) : wipe σ vs = σ0 ∧ tt σ H Q := ⟨e, h⟩
end Kw
set_option maxHeartbeats 4000000
/-! a tuple a number of times: none, one -/
namespace Kw
open PySem PySem.Spec PyProof.Rows L2 RT
open PySem.AutoSeq1 (wpAny_loadPart')
theorem tmul_none (l : Addr) (items : Array Value) (n : Nat) (dd : Option Addr) (sl : Array (Option Value)) (x : Int) (u : Tok) (hx : -(2 ^ 63) ≤ x ∧ x ≤ 0) (hi : items.isEmpty = false) :
    Meets (Builtin.«tuple.__mul__» ⟨[.ref l, .int x u], []⟩) (fun _ R s => s.heap.get? l = some { cls := .type "tuple", dict := dd, data := .seq items n, slots := sl } ∧
      R (.ok (.ret (Value.ref s.heap.objs.size))) { s with heap := s.heap.push { cls := Value.type "tuple", data := Data.seq #[] }, toks := s.toks }) :=
  .of_wp fun prog w A R s h0 => by
    obtain ⟨hp, gn, dr, tk, os⟩ := s
    obtain ⟨hl, h1⟩ := h0
    have f1 := AutoSeq1.idx_int
    have c0 : (decide (x < -(2 ^ 63)) || decide (x ≥ 2 ^ 63)) = false := by rw [decide_eq_false (by omega), decide_eq_false (by omega)]; rfl
    have c1 : (items.isEmpty || x == 1) = false := by
      rw [hi, Bool.false_or]
      exact beq_eq_false_iff_ne.mpr (by omega)
    have c2 : (decide (x ≤ 0) || items.isEmpty) = true := by rw [decide_eq_true hx.2]; rfl
    wp_walk using wpAny_loadPart' hl
    refine wpAny_ite_false (decide_eq_false (by rw [c0]; decide)) ?_
    wp_walk using wpAny_loadPart' hl
    refine wpAny_ite_false (decide_eq_false (by rw [c1]; decide)) ?_
    wp_walk using wpAny_loadPart' hl
    exact ⟨_, rfl, h1⟩
theorem tmul_once (l : Addr) (items : Array Value) (n : Nat) (dd : Option Addr) (sl : Array (Option Value)) (u : Tok) (hi : items.isEmpty = false) :
    Meets (Builtin.«tuple.__mul__» ⟨[.ref l, .int 1 u], []⟩) (fun _ R s => s.heap.get? l = some { cls := .type "tuple", dict := dd, data := .seq items n, slots := sl } ∧ R (.ok (.ret (Value.ref l))) s) :=
  .of_wp fun prog w A R s h0 => by
    obtain ⟨hp, gn, dr, tk, os⟩ := s
    obtain ⟨hl, h1⟩ := h0
    have f1 := AutoSeq1.idx_int
    have c0 : (decide ((1 : Int) < -(2 ^ 63)) || decide ((1 : Int) ≥ 2 ^ 63)) = false := by decide
    have c1 : (items.isEmpty || (1 : Int) == 1) = true := by rw [hi]; rfl
    wp_walk using wpAny_loadPart' hl
    exact ⟨_, rfl, h1⟩
def rRepA (K : PySem.W.Frag) : R2 := fun x y H Q => ∃ (l : Addr) (k : Int) (xs : List V), x = .ref l ∧ y = .int k ∧ SqT K H l xs ∧ xs ≠ [] ∧ 0 ≤ k ∧ k ≤ 1000 ∧ xs.length ≤ 1000 ∧ (k = 1 → Q (.ref l) H) ∧ (k ≠ 1 → ∀ p, H p = none → Q (.ref p) (upd H p (.tup (List.replicate k.toNat xs).flatten)))
theorem op_repA {X : Cx} : OpR X (binaryOp .Mult) (rRepA X.K) := by
  intro pins s σ H x y v u Q I rx ry h
  obtain ⟨l, k, xs, rfl, rfl, hT, hne, k0, k1, hz, q1, q2⟩ := h
  by_cases hk : 2 ≤ k
  · exact op_repT pins s σ H _ _ v u Q I rx ry ⟨l, k, xs, rfl, rfl, hT, hne, hk, k1, hz, q2 (by omega)⟩
  cases rx
  obtain ⟨t, rfl⟩ := ry
  obtain ⟨its, r, ⟨⟨cls, dd, data, sl⟩, ho, hc, n, hd⟩, hs⟩ := I.tuple hT
  simp only at hc hd
  subst hc hd
  have hi : its.toArray.isEmpty = false := by
    cases its with
    | nil =>
      cases r
      exact absurd rfl hne
    | cons a b => rfl
  by_cases h1 : k = 1
  · subst h1
    refine wpAny_binaryOp_repeat_ref (T := "tuple") (U := "int") (by decide) ⟨_, ho, rfl⟩ (fun s' => typeIs_int s' 1 t) noFill_tuple_mul F.fills_int_mul F.slot_int_rmul repeat_tuple F.slot_int_index.lookup
      (call_meets F.slot_int_rmul (typeIs_int s 1 t) F.entry_int_rmul (F.args_int_rmul_2 _ _) (int_rmul_tuple 1 t l its.toArray n dd sl)
        ⟨ho, rfl, ⟨_, ho, rfl⟩, call_meets F.slot_tuple_mul ⟨_, ho, rfl⟩ F.entry_tuple_mul (F.args_tuple_mul_2 _ _) (tmul_once l its.toArray n dd sl t hi) ⟨ho, ?_⟩⟩)
    exact ⟨.ref l, H, I, rfl, q1 rfl⟩
  · have e0 : k = 0 := by omega
    subst e0
    refine wpAny_binaryOp_repeat_ref (T := "tuple") (U := "int") (by decide) ⟨_, ho, rfl⟩ (fun s' => typeIs_int s' 0 t) noFill_tuple_mul F.fills_int_mul F.slot_int_rmul repeat_tuple F.slot_int_index.lookup
      (call_meets F.slot_int_rmul (typeIs_int s 0 t) F.entry_int_rmul (F.args_int_rmul_2 _ _) (int_rmul_tuple 0 t l its.toArray n dd sl)
        ⟨ho, rfl, ⟨_, ho, rfl⟩, call_meets F.slot_tuple_mul ⟨_, ho, rfl⟩ F.entry_tuple_mul (F.args_tuple_mul_2 _ _) (tmul_none l its.toArray n dd sl 0 t (by omega) hi) ⟨ho, ?_⟩⟩)
    refine ⟨.ref s.heap.objs.size, _, I.laid (t' := s.toks) (o := .tup []) (fun b ob q => Heap.get?_push_of_some _ q) (Nat.le_refl _) ?_, rfl, q2 h1 _ (I.hok.fresh (Nat.le_refl _))⟩
    exact ⟨by rw [sizeLine_eq]; exact Nat.zero_le _, _, .nil, IsTup.new _ _⟩
end Kw
set_option maxHeartbeats 4000000
namespace Kw
open PySem PySem.Spec PyProof.Rows L2
local macro_rules | `(tactic| walk_at "step") => `(tactic| with_reducible first
  | refine g_op ?_ | refine g_c ?_ | refine g_test ?_ | refine g_bl ?_ | refine g_seq ?_ | refine g_ifS ?_ | refine g_cons ?_ | refine g_nil ?_ | refine g_I0 ?_ | refine g_asg ?_ | refine g_name ?_
  | refine g_ret ?_ | refine g_nx ?_ | refine g_cb ?_ | refine g_call ?_ | refine g_un ?_ | refine g_rU ?_ | refine g_B ?_ | refine g_and ?_ | refine g_or ?_ | refine g_not ?_ | refine g_andV ?_ | refine g_orV ?_
  | refine g_notV ?_ | refine g_ifE ?_ | refine g_drop ?_ | refine g_par ?_ | refine g_two ?_ | refine g_abs ?_ | refine g_mx ?_ | refine g_int ?_ | refine g_tup ?_ | refine g_lst ?_ | refine g_chain ?_
  | refine g_sl ?_ | refine g_nopart ?_ | refine g_part ?_ | refine g_partI ?_ | refine g_bm ?_ | refine g_sub ?_ | refine g_ip ?_ | refine g_make ?_ | refine g_forR1 ?_ | refine g_forR2 ?_ | refine g_forR3 ?_ | refine g_forL ?_ | refine g_forT ?_ | refine g_forV ?_ | refine g_forVR ?_ | refine g_forE ?_ | refine g_lcL ?_ | refine g_lcT ?_ | refine g_lcR1 ?_ | refine g_lcR2 ?_ | refine g_fld ?_ | refine g_meth ?_ | refine ite_t ?_ | refine ite_nt ?_ | refine ite_nf ?_ | refine g_eqi ?_ | refine g_nei ?_ | refine ite_f ?_ | refine g_isN_n ?_ | refine g_isN_i ?_ | refine g_isN_r ?_ | refine g_notN_n ?_ | refine g_notN_i ?_ | refine g_notN_r ?_ | refine g_isi_ib ?_ | refine g_isi_ii ?_ | refine g_isi_it ?_ | refine g_isi_nt ?_)
local macro_rules | `(tactic| walk_at "var") => `(tactic| ((with_reducible refine' g_var ?hvar ?_); (case hvar => rfl)))
local macro_rules | `(tactic| walk_at "fact") => `(tactic| first
  | ((with_reducible refine' g_ixT ?hfact ?hat ?_); (case hfact => assumption); (case hat => rfl))
  | ((with_reducible refine' g_ixL ?hfact ?hat ?_); (case hfact => assumption); (case hat => rfl)))
local macro_rules | `(tactic| walk_at "fact1") => `(tactic| first
  | ((with_reducible refine' g_lenT ?hfact ?_); (case hfact => assumption))
  | ((with_reducible refine' g_lenL ?hfact ?_); (case hfact => assumption))
  | ((with_reducible refine' g_isi_tt ?hfact ?_); (case hfact => assumption)))
local macro_rules | `(tactic| walk_at "go") => `(tactic| repeat (first | walk_at "step" | walk_at "var" | walk_at "fact" | walk_at "fact1"))
local macro_rules | `(tactic| walk_at "if") => `(tactic| with_reducible first | refine ite_d ?_ ?_ | refine ite_n ?_ ?_ | refine ite_b ?_ ?_)
local macro_rules | `(tactic| walk_at "prime") => `(tactic| refine fig_prime (by assumption) (by assumption) ?_)
local macro_rules | `(tactic| walk_at "zero") => `(tactic| refine fig_zero (by assumption) (by assumption) ?_)
local macro_rules | `(tactic| walk_at "one") => `(tactic| refine fig_one (by assumption) (by assumption) ?_)
local macro_rules | `(tactic| walk_at "meth") => `(tactic| refine fig_meth (by assumption) (by decide +kernel) ?_)
abbrev s_is_whole : Stmt := topS 9
theorem sc_is_whole : FnScope ["thing", "low", "high"] ["thing", "low", "high"] (C8.fnScope s_is_whole) := C8.fnScope_by (by decide +kernel)
abbrev s_common_divisor : Stmt := topS 11
theorem sc_common_divisor : FnScope ["one", "other", "low", "high"] ["one", "other"] (C8.fnScope s_common_divisor) := C8.fnScope_by (by decide +kernel)
abbrev s_is_sequence : Stmt := topS 10
theorem sc_is_sequence : FnScope ["thing"] ["thing"] (C8.fnScope s_is_sequence) := C8.fnScope_by (by decide +kernel)
abbrev s_is_ratio : Stmt := topS 12
theorem sc_is_ratio : FnScope ["thing"] ["thing"] (C8.fnScope s_is_ratio) := C8.fnScope_by (by decide +kernel)
abbrev s_lowest_terms : Stmt := topS 13
theorem sc_lowest_terms : FnScope ["top", "bottom", "common"] ["top", "bottom"] (C8.fnScope s_lowest_terms) := C8.fnScope_by (by decide +kernel)
abbrev s_make_ratio : Stmt := topS 14
theorem sc_make_ratio : FnScope ["top", "bottom"] ["top", "bottom"] (C8.fnScope s_make_ratio) := C8.fnScope_by (by decide +kernel)
abbrev s_ratio_plus : Stmt := topS 15
theorem sc_ratio_plus : FnScope ["one", "other"] ["one", "other"] (C8.fnScope s_ratio_plus) := C8.fnScope_by (by decide +kernel)
abbrev s_ratio_minus : Stmt := topS 16
theorem sc_ratio_minus : FnScope ["one", "other"] ["one", "other"] (C8.fnScope s_ratio_minus) := C8.fnScope_by (by decide +kernel)
abbrev s_ratio_times : Stmt := topS 17
theorem sc_ratio_times : FnScope ["one", "other"] ["one", "other"] (C8.fnScope s_ratio_times) := C8.fnScope_by (by decide +kernel)
abbrev s_ratio_over : Stmt := topS 18
theorem sc_ratio_over : FnScope ["one", "other"] ["one", "other"] (C8.fnScope s_ratio_over) := C8.fnScope_by (by decide +kernel)
/-! ### the mathematics -/
theorem gcd_step (x y : Int) : Int.gcd (y % x) x = Int.gcd x y := by
  rw [Int.emod_def, Int.gcd_comm]
  exact Int.gcd_sub_mul_left_right x y (y / x)
theorem gcd_abs (a b : Int) : Int.gcd (if a < 0 then -a else a) (if b < 0 then -b else b) = Int.gcd a b := by
  split <;> split <;> simp
theorem fdiv_exact {a g : Int} (h : g ∣ a) : a.fdiv g = a / g := by
  obtain ⟨k, rfl⟩ := h
  by_cases hg : g = 0
  · subst hg
    simp
  · rw [Int.mul_fdiv_cancel_left _ hg, Int.mul_ediv_cancel_left _ hg]
/-- lowest terms as the program makes them -/
theorem low_pos {t b : Int} (hb : 0 < b) : (Rat.divInt t b).num = t.fdiv (Int.gcd t b : Nat) ∧ ((Rat.divInt t b).den : Int) = b.fdiv (Int.gcd t b : Nat) := by
  rw [fdiv_exact (Int.gcd_dvd_left ..), fdiv_exact (Int.gcd_dvd_right ..), Rat.num_divInt, Rat.den_divInt, if_neg (by omega), Int.sign_eq_one_of_pos hb, Int.one_mul, Int.gcd_comm b t]
  refine ⟨rfl, ?_⟩
  rw [Int.natCast_ediv]
  congr 1
  omega
theorem low_neg {t b : Int} (hb : b < 0) : (Rat.divInt t b).num = t.fdiv (-(Int.gcd t b : Nat)) ∧ ((Rat.divInt t b).den : Int) = b.fdiv (-(Int.gcd t b : Nat)) := by
  rw [fdiv_exact (Int.neg_dvd.mpr (Int.gcd_dvd_left ..)), fdiv_exact (Int.neg_dvd.mpr (Int.gcd_dvd_right ..)), Rat.num_divInt, Rat.den_divInt, if_neg (by omega), Int.sign_eq_neg_one_of_neg hb, Int.gcd_comm b t, Int.ediv_neg, Int.ediv_neg]
  refine ⟨?_, ?_⟩
  · rw [Int.neg_mul, Int.one_mul, Int.neg_ediv_of_dvd (Int.gcd_dvd_left ..)]
  · rw [Int.natCast_ediv, ← Int.neg_ediv_of_dvd (Int.gcd_dvd_right ..)]
    congr 1
    omega
theorem rat_plus_same (x y : Rat) (h : x.den = y.den) : Rat.divInt (x.num + y.num) x.den = x + y := by
  have e1 := Rat.num_divInt_den x
  have e2 := Rat.num_divInt_den y
  rw [Rat.divInt_eq_div] at e1 e2
  rw [← h] at e2
  have : ((x.num + y.num : Int) : Rat) = (x.num : Rat) + (y.num : Rat) := by simp
  rw [Rat.divInt_eq_div, this]
  grind
theorem rat_plus (x y : Rat) : Rat.divInt (x.num * y.den + y.num * x.den) (x.den * y.den) = x + y := by
  have e1 := Rat.num_divInt_den x
  have e2 := Rat.num_divInt_den y
  have h1 : (x.den : Int) ≠ 0 := by have := x.den_pos; omega
  have h2 : (y.den : Int) ≠ 0 := by have := y.den_pos; omega
  have := Rat.divInt_add_divInt x.num y.num h1 h2
  rw [e1, e2] at this
  exact this.symm
theorem rat_times (x y : Rat) : Rat.divInt (x.num * y.num) (x.den * y.den) = x * y := by
  have := Rat.divInt_mul_divInt x.num y.num (d₁ := x.den) (d₂ := y.den)
  rw [Rat.num_divInt_den, Rat.num_divInt_den] at this
  exact this.symm
theorem rat_over (x y : Rat) (hy : y ≠ 0) : Rat.divInt (x.num * y.den) (x.den * y.num) = x / y := by
  have e1 := Rat.num_divInt_den x
  have e2 := Rat.num_divInt_den y
  rw [Rat.divInt_eq_div] at e1 e2
  have h1 : ((x.den : Int) : Rat) ≠ 0 := by have := x.den_pos; simp; omega
  have h2 : ((y.den : Int) : Rat) ≠ 0 := by have := y.den_pos; simp; omega
  rw [Rat.divInt_eq_div, Rat.intCast_mul, Rat.intCast_mul]
  generalize ((x.den : Int) : Rat) = dx at *
  generalize ((y.den : Int) : Rat) = dy at *
  have h3 : (y.num : Rat) ≠ 0 := by
    intro e
    apply hy
    rw [e] at e2
    grind
  have b1 : (x.num : Rat) = x * dx := by grind
  have b2 : (y.num : Rat) = y * dy := by grind
  rw [b1, b2]
  grind
theorem den_nz (x : Rat) : (x.den : Int) ≠ 0 := by have := x.den_pos; omega
theorem mul_lt {i j : Int} {a b c : Nat} (ha : i.natAbs < 2 ^ a) (hb : j.natAbs < 2 ^ b) (h : a + b ≤ c) : (i * j).natAbs < 2 ^ c :=
  Nat.lt_of_lt_of_le (wide_lt ha hb) (Nat.pow_le_pow_right (by decide) h)
theorem natAbs_den (x : Rat) : ((x.den : Int)).natAbs = x.den := rfl
section
variable {P : Program} {w : World} {K : PySem.W.Frag} {mg : Str → Option Value} {base : Heap} {f : Addr} {fd : FuncData}
def inB (i : Int) (lo hi : V) : Bool := (match lo with | .int a => decide (a ≤ i) | _ => true) && (match hi with | .int b => decide (i ≤ b) | _ => true)
def isO (v : V) : Prop := v = .non ∨ ∃ a, v = .int a
def spIsWhole : Sp := fun vs H Q _ => ∃ (i : Int) (lo hi : V), vs = [.int i, lo, hi] ∧ isO lo ∧ isO hi ∧ Q (.bl (inB i lo hi)) H
theorem ok_is_whole (F : C8.Fun K "is_whole" "is_whole" s_is_whole f fd) (B : Bn mg) : FnOk P w K mg base C8.CX0 1 f fd ["thing", "low", "high"] spIsWhole := by
  refine C8.fn0 F sc_is_whole (fun vs H Q E h => ?_) (fun cdv A outer s H vs Q E hr h => ?_)
  · obtain ⟨i, lo, hi, rfl, _⟩ := h
    rfl
  · obtain ⟨i, lo, hi, rfl, hlo, hhi, q⟩ := h
    refine ⟨_, (pss_cons (ps_if (PW.pt (pw_or (pt_val (pe_callB call_isi (by rfl) B.isinstance_ (by decide +kernel) (pa_cons (pv 0) (pa_cons (pe_bltn (v := .ty "bool") (by rfl) B.bool_ (by decide +kernel) rfl) pa_nil)))) (pw_or1 (pt_not (pt_val (pe_callB call_isi (by rfl) B.isinstance_ (by decide +kernel) (pa_cons (pv 0) (pa_cons (pe_bltn (v := .ty "int") (by rfl) B.int_ (by decide +kernel) rfl) pa_nil))))))))
    ((pss_one (ps_ret pe_bl))) pss_nil)
    (pss_cons (ps_if (PW.pt (pw_and (pt_cmpR op_notN_ (pv 1) pe_non (nomark _)) (pw_and1 (pt_cmpR op_lt (pv 0) (pv 1) (nomark _)))))
    ((pss_one (ps_ret pe_bl))) pss_nil)
    (pss_one (ps_ret (pe_or (pe_cmpR op_isN_ (pv 2) pe_non (nomark _)) (pe_one (pe_cmpR op_le (pv 0) (pv 2) (nomark _)))))))), ?_⟩
    refine go_start (show _ = [some _, some _, some _] from rfl) ?_
    have hq : ∀ b : Bool, inB i lo hi = b → Q (.bl b) H := fun b e => e ▸ q
    rcases hlo with rfl | ⟨a, rfl⟩
    · rcases hhi with rfl | ⟨b, rfl⟩
      · walk_at "go"
        exact q
      · walk_at "go"
        exact q
    · rcases hhi with rfl | ⟨b, rfl⟩
      · walk_at "go"
        walk_at "if"
        · intro hc
          walk_at "go"
          exact hq _ (by show (decide (a ≤ i) && true) = false; rw [decide_eq_false (by omega)]; rfl)
        · intro hc
          walk_at "go"
          exact hq _ (by show (decide (a ≤ i) && true) = true; rw [decide_eq_true (by omega)]; rfl)
      · walk_at "go"
        walk_at "if"
        · intro hc
          walk_at "go"
          exact hq _ (by show (decide (a ≤ i) && _) = false; rw [decide_eq_false (by omega)]; rfl)
        · intro hc
          walk_at "go"
          exact hq _ (by show (decide (a ≤ i) && decide (i ≤ b)) = decide (i ≤ b); rw [decide_eq_true (by omega)]; rfl)
def spGcd : Sp := fun vs H Q _ => ∃ (a b : Int), vs = [.int a, .int b] ∧ Q (.int (Int.gcd a b : Nat)) H
theorem ok_common_divisor (F : C8.Fun K "common_divisor" "common_divisor" s_common_divisor f fd) (B : Bn mg) : FnOk P w K mg base C8.CX0 1 f fd ["one", "other"] spGcd := by
  refine C8.fn0 F sc_common_divisor (fun vs H Q E h => ?_) (fun cdv A outer s H vs Q E hr h => ?_)
  · obtain ⟨i, lo, rfl, _⟩ := h
    rfl
  · obtain ⟨a, b, rfl, q⟩ := h
    refine ⟨_, (pss_cons (ps_set (i := 2) sc_common_divisor.nd rfl (by first | exact .inl rfl | exact .inr rfl) (pe_callB call_abs_ (by rfl) B.abs_ (by decide +kernel) (pa_cons (pv 0) pa_nil)))
    (pss_cons (ps_set (i := 3) sc_common_divisor.nd rfl (by first | exact .inl rfl | exact .inr rfl) (pe_callB call_abs_ (by rfl) B.abs_ (by decide +kernel) (pa_cons (pv 1) pa_nil)))
    (pss_cons (ps_while PassesOwn.never (pt_cmpR op_ne (pv 2) pe_int (nomark _))
    ((pss_one (ps_par (i := 2) (j := 3) (by rfl) sc_common_divisor.nd rfl rfl (by decide) rfl rfl (pa_cons (pe_op op_mod (pv 3) (pv 2)) (pa_cons (pv 2) pa_nil)) (by rfl)))))
    (pss_one (ps_ret (pv 3)))))), ?_⟩
    refine go_start (show _ = [some _, some _, none, none] from rfl) ?_
    walk_at "go"
    refine g_while (fun m σ' H' => ∃ x y : Int, σ' = [some (.int a), some (.int b), some (.int x), some (.int y)] ∧ 0 ≤ x ∧ 0 ≤ y ∧ Int.gcd x y = Int.gcd a b ∧ H' = H ∧ m = x.toNat) a.natAbs ⟨_, _, rfl, by split <;> omega, by split <;> omega, gcd_abs a b, rfl, by split <;> omega⟩ ?_
    rintro m σ' H' ⟨x, y, rfl, hx, hy, e, rfl, rfl⟩
    walk_at "go"
    walk_at "if"
    · intro hc
      refine g_turn ?_
      walk_at "go"
      refine g_I (by omega) ?_
      walk_at "go"
      have hl : y % x < x := Int.emod_lt_of_pos _ (by omega)
      have h0 : 0 ≤ y % x := Int.emod_nonneg _ (by omega)
      exact ⟨(y % x).toNat, by omega, _, _, rfl, h0, hx, (gcd_step x y).trans e, rfl, rfl⟩
    · intro hc
      walk_at "go"
      have : y = (Int.gcd a b : Nat) := by
        subst hc
        rw [← e, Int.gcd_zero_left]
        omega
      rw [← this] at q
      exact q
def spIsRatio : Sp := fun vs H Q _ => ∃ v, vs = [v] ∧ ((∃ q, Rt H v q ∧ Q (.bl true) H) ∨ ∃ i, v = .int i ∧ Q (.bl false) H)
theorem ok_is_ratio (F : C8.Fun K "is_ratio" "is_ratio" s_is_ratio f fd) (B : Bn mg) (c_is_whole1 : C8.Cal P w K mg base 1 "is_whole" spIsWhole [.non, .non]) (c_is_whole2 : C8.Cal P w K mg base 1 "is_whole" spIsWhole [.non])
    (c_common_divisor : C8.Cal P w K mg base 1 "common_divisor" spGcd []) : FnOk P w K mg base C8.CX0 2 f fd ["thing"] spIsRatio := by
  refine C8.fn0 F sc_is_ratio (fun vs H Q E h => ?_) (fun cdv A outer s H vs Q E hr h => ?_)
  · obtain ⟨v, rfl, _⟩ := h
    rfl
  · obtain ⟨v, rfl, h⟩ := h
    refine ⟨_, (pss_cons (ps_if (PW.pt (pw_or (pt_not (pt_val (pe_callB call_isi (by rfl) B.isinstance_ (by decide +kernel) (pa_cons (pv 0) (pa_cons (pe_bltn (v := .ty "tuple") (by rfl) B.tuple_ (by decide +kernel) rfl) pa_nil))))) (pw_or1 (pt_cmpR op_ne (pe_callB call_len_ (by rfl) B.len_ (by decide +kernel) (pa_cons (pv 0) pa_nil)) pe_int (nomark _)))))
    ((pss_one (ps_ret pe_bl))) pss_nil)
    (pss_cons (ps_if (PW.pt (pw_or (pt_not (pt_val (C8.pe_c c_is_whole1 hr (by decide) (by rfl) (pa_cons (pe_ix ix_tup (pv 0) pe_int (fun _ _ => rfl)) pa_nil)))) (pw_or1 (pt_not (pt_val (C8.pe_c c_is_whole2 hr (by decide) (by rfl) (pa_cons (pe_ix ix_tup (pv 0) pe_int (fun _ _ => rfl)) (pa_cons pe_int pa_nil))))))))
    ((pss_one (ps_ret pe_bl))) pss_nil)
    (pss_one (ps_ret (pe_cmpR op_eq (C8.pe_c c_common_divisor hr (by decide) (by rfl) (pa_cons (pe_ix ix_tup (pv 0) pe_int (fun _ _ => rfl)) (pa_cons (pe_ix ix_tup (pv 0) pe_int (fun _ _ => rfl)) pa_nil))) pe_int (nomark _)))))), ?_⟩
    refine go_start (show _ = [some _] from rfl) ?_
    rcases h with ⟨x, ⟨a, rfl, ha⟩, q⟩ | ⟨i, rfl, q⟩
    · walk_at "go"
      rw [show decide ((([V.int x.num, V.int (x.den : Int)] : List V).length : Int) = 2) = true from rfl]
      walk_at "go"
      refine ⟨_, _, _, rfl, .inl rfl, .inl rfl, ?_⟩
      walk_at "go"
      rw [show inB x.num .non .non = true from rfl]
      walk_at "go"
      refine ⟨_, _, _, rfl, .inr ⟨1, rfl⟩, .inl rfl, ?_⟩
      have h1 : inB (x.den : Int) (.int 1) .non = true := by
        show (decide ((1 : Int) ≤ x.den) && true) = true
        rw [decide_eq_true (by have := x.den_pos; omega)]
        rfl
      rw [h1]
      walk_at "go"
      refine ⟨_, _, rfl, ?_⟩
      walk_at "go"
      have h2 : decide (((Int.gcd x.num x.den : Nat) : Int) = 1) = true := decide_eq_true (by
        have h3 : Int.gcd x.num x.den = 1 := x.reduced
        rw [h3]
        rfl)
      rw [h2]
      exact q
    · walk_at "go"
      exact q
def spLow : Sp := fun vs H Q _ => ∃ (t b : Int), vs = [.int t, .int b] ∧ b ≠ 0 ∧ b.natAbs < 2 ^ 8001 ∧ ∀ v H', Same H H' → Rt H' v (Rat.divInt t b) → Q v H'
theorem ok_lowest_terms (F : C8.Fun K "lowest_terms" "lowest_terms" s_lowest_terms f fd) (c_common_divisor : C8.Cal P w K mg base 1 "common_divisor" spGcd []) : FnOk P w K mg base C8.CX0 2 f fd ["top", "bottom"] spLow := by
  refine C8.fn0 F sc_lowest_terms (fun vs H Q E h => ?_) (fun cdv A outer s H vs Q E hr h => ?_)
  · obtain ⟨i, lo, rfl, _⟩ := h
    rfl
  · obtain ⟨t, b, rfl, hb, hz, q⟩ := h
    have hg : ((Int.gcd t b : Nat) : Int) ≠ 0 := by
      intro e
      have : Int.gcd t b = 0 := by omega
      rw [Int.gcd_eq_zero_iff] at this
      exact hb this.2
    have hg2 : ((Int.gcd t b : Nat) : Int).natAbs < 2 ^ 8001 := by
      have h1 : Int.gcd t b ∣ b.natAbs := Int.gcd_dvd_natAbs_right ..
      have h2 := Nat.le_of_dvd (by omega) h1
      exact Nat.lt_of_le_of_lt h2 hz
    refine ⟨_, (pss_cons (ps_if (pt_cmpR op_eq (pv 1) pe_int (nomark _))
    ((pss_one (ps_ret (pe_tup (pa_cons (pv 0) (pa_cons pe_int pa_nil)))))) pss_nil)
    (pss_cons (ps_set (i := 2) sc_lowest_terms.nd rfl (by first | exact .inl rfl | exact .inr rfl) (C8.pe_c c_common_divisor hr (by decide) (by rfl) (pa_cons (pv 0) (pa_cons (pv 1) pa_nil))))
    (pss_cons (ps_if (pt_cmpR op_lt (pv 1) pe_int (nomark _))
    ((pss_one (ps_set (i := 2) sc_lowest_terms.nd rfl (by first | exact .inl rfl | exact .inr rfl) (pe_un un_neg (pv 2))))) pss_nil)
    (pss_one (ps_ret (pe_tup (pa_cons (pe_op op_fdivX (pv 0) (pv 2)) (pa_cons (pe_op op_fdivX (pv 1) (pv 2)) pa_nil)))))))), ?_⟩
    refine go_start (show _ = [some _, some _, none] from rfl) ?_
    walk_at "go"
    walk_at "if"
    · intro hc
      subst hc
      walk_at "go"
      refine ⟨(by show 2 ≤ sizeLine; decide), fun p hp => ?_⟩
      refine q _ _ (same_new hp) ⟨p, rfl, ?_⟩
      have h := low_pos (t := t) (b := 1) (by decide)
      rw [h.1, h.2, Int.gcd_one_right, upd_same]
      simp
    · intro hc
      walk_at "go"
      refine ⟨_, _, rfl, ?_⟩
      walk_at "go"
      walk_at "if"
      · intro hn
        walk_at "go"
        refine g_I (cdx (b := 8001) (by omega) (by omega) (by omega) (by omega)) ?_
        walk_at "go"
        refine g_I (cdx (b := 8001) (by omega) (by omega) (by omega) (by omega)) ?_
        walk_at "go"
        refine ⟨(by show 2 ≤ sizeLine; decide), fun p hp => ?_⟩
        refine q _ _ (same_new hp) ⟨p, rfl, ?_⟩
        have h := low_neg (t := t) hn
        rw [h.1, h.2, upd_same]
      · intro hn
        walk_at "go"
        refine g_I (cdx (b := 8001) (by omega) (by omega) (by omega) (by omega)) ?_
        walk_at "go"
        refine g_I (cdx (b := 8001) (by omega) (by omega) (by omega) (by omega)) ?_
        walk_at "go"
        refine ⟨(by show 2 ≤ sizeLine; decide), fun p hp => ?_⟩
        refine q _ _ (same_new hp) ⟨p, rfl, ?_⟩
        have h := low_pos (t := t) (b := b) (by omega)
        rw [h.1, h.2, upd_same]
def spMake : Sp := fun vs H Q _ => ∃ (t b : Int), vs = [.int t, .int b] ∧ b ≠ 0 ∧ b.natAbs < 2 ^ 8001 ∧ ∀ v H', Same H H' → Rt H' v (Rat.divInt t b) → Q v H'
theorem ok_make_ratio (F : C8.Fun K "make_ratio" "make_ratio" s_make_ratio f fd) (c_is_whole1 : C8.Cal P w K mg base 1 "is_whole" spIsWhole [.non, .non]) (c_lowest_terms : C8.Cal P w K mg base 2 "lowest_terms" spLow []) :
    FnOk P w K mg base C8.CX0 3 f fd ["top", "bottom"] spMake := by
  refine C8.fn0 F sc_make_ratio (fun vs H Q E h => ?_) (fun cdv A outer s H vs Q E hr h => ?_)
  · obtain ⟨i, lo, rfl, _⟩ := h
    rfl
  · obtain ⟨t, b, rfl, hb, hz, q⟩ := h
    refine ⟨_, (pss_cons (ps_if (pt_not (pt_val (C8.pe_c c_is_whole1 hr (by decide) (by rfl) (pa_cons (pv 0) pa_nil))))
    ((pss_one ps_never)) pss_nil)
    (pss_cons (ps_if (PW.pt (pw_or (pt_not (pt_val (C8.pe_c c_is_whole1 hr (by decide) (by rfl) (pa_cons (pv 1) pa_nil)))) (pw_or1 (pt_cmpR op_eq (pv 1) pe_int (nomark _)))))
    ((pss_one ps_never)) pss_nil)
    (pss_one (ps_ret (C8.pe_c c_lowest_terms hr (by decide) (by rfl) (pa_cons (pv 0) (pa_cons (pv 1) pa_nil))))))), ?_⟩
    refine go_start (show _ = [some _, some _] from rfl) ?_
    walk_at "go"
    refine ⟨_, _, _, rfl, .inl rfl, .inl rfl, ?_⟩
    rw [show inB t .non .non = true from rfl]
    walk_at "go"
    refine ⟨_, _, _, rfl, .inl rfl, .inl rfl, ?_⟩
    rw [show inB b .non .non = true from rfl]
    walk_at "go"
    rw [decide_eq_false hb]
    walk_at "go"
    exact ⟨_, _, rfl, hb, hz, q⟩
/-- two ratios in, one out -/
def spRat2 (C : Rat → Rat → Prop) (g : Rat → Rat → Rat) : Sp := fun vs H Q _ => ∃ (a b : V) (x y : Rat), vs = [a, b] ∧ Rt H a x ∧ Rt H b y ∧ Sz 4000 x ∧ Sz 4000 y ∧ C x y ∧ ∀ v H', Same H H' → Rt H' v (g x y) → Q v H'
theorem ok_ratio_plus (F : C8.Fun K "ratio_plus" "ratio_plus" s_ratio_plus f fd) (c_lowest_terms : C8.Cal P w K mg base 2 "lowest_terms" spLow []) : FnOk P w K mg base C8.CX0 3 f fd ["one", "other"] (spRat2 (fun _ _ => True) fun x y => x + y) := by
  refine C8.fn0 F sc_ratio_plus (fun vs H Q E h => ?_) (fun cdv A outer s H vs Q E hr h => ?_)
  · obtain ⟨i, lo, x, y, rfl, _⟩ := h
    rfl
  · obtain ⟨_, _, x, y, rfl, ⟨a, rfl, ha⟩, ⟨b, rfl, hb⟩, sx, sy, _, q⟩ := h
    refine ⟨_, (pss_cons (ps_if (pt_cmpR op_eq (pe_ix ix_tup (pv 0) pe_int (fun _ _ => rfl)) (pe_ix ix_tup (pv 1) pe_int (fun _ _ => rfl)) (nomark _))
    ((pss_one (ps_ret (C8.pe_c c_lowest_terms hr (by decide) (by rfl) (pa_cons (pe_op op_add (pe_ix ix_tup (pv 0) pe_int (fun _ _ => rfl)) (pe_ix ix_tup (pv 1) pe_int (fun _ _ => rfl))) (pa_cons (pe_ix ix_tup (pv 0) pe_int (fun _ _ => rfl)) pa_nil)))))) pss_nil)
    (pss_one (ps_ret (C8.pe_c c_lowest_terms hr (by decide) (by rfl) (pa_cons (pe_op op_add (pe_op op_mulW (pe_ix ix_tup (pv 0) pe_int (fun _ _ => rfl)) (pe_ix ix_tup (pv 1) pe_int (fun _ _ => rfl))) (pe_op op_mulW (pe_ix ix_tup (pv 1) pe_int (fun _ _ => rfl)) (pe_ix ix_tup (pv 0) pe_int (fun _ _ => rfl)))) (pa_cons (pe_op op_mulW (pe_ix ix_tup (pv 0) pe_int (fun _ _ => rfl)) (pe_ix ix_tup (pv 1) pe_int (fun _ _ => rfl))) pa_nil)))))), ?_⟩
    refine go_start (show _ = [some _, some _] from rfl) ?_
    walk_at "go"
    walk_at "if"
    · intro hc
      walk_at "go"
      refine ⟨_, _, rfl, den_nz x, Nat.lt_of_lt_of_le sx.2 (Nat.pow_le_pow_right (by decide) (by decide)), ?_⟩
      rw [rat_plus_same x y (by omega)]
      exact q
    · intro hc
      walk_at "go"
      refine g_I (wide_mul (a := 4000) (b := 4000) sx.1 sy.2 (by decide) (by decide) (by decide)) ?_
      walk_at "go"
      refine g_I (wide_mul (a := 4000) (b := 4000) sy.1 sx.2 (by decide) (by decide) (by decide)) ?_
      walk_at "go"
      refine g_I (wide_mul (a := 4000) (b := 4000) sx.2 sy.2 (by decide) (by decide) (by decide)) ?_
      walk_at "go"
      refine ⟨_, _, rfl, Int.mul_ne_zero (den_nz x) (den_nz y), mul_lt (a := 4000) (b := 4000) sx.2 sy.2 (by decide), ?_⟩
      rw [rat_plus]
      exact q
theorem ok_ratio_minus (F : C8.Fun K "ratio_minus" "ratio_minus" s_ratio_minus f fd) (c_ratio_plus : C8.Cal P w K mg base 3 "ratio_plus" (spRat2 (fun _ _ => True) fun x y => x + y) []) : FnOk P w K mg base C8.CX0 4 f fd ["one", "other"] (spRat2 (fun _ _ => True) fun x y => x - y) := by
  refine C8.fn0 F sc_ratio_minus (fun vs H Q E h => ?_) (fun cdv A outer s H vs Q E hr h => ?_)
  · obtain ⟨i, lo, x, y, rfl, _⟩ := h
    rfl
  · obtain ⟨_, _, x, y, rfl, ⟨a, rfl, ha⟩, ⟨b, rfl, hb⟩, sx, sy, _, q⟩ := h
    refine ⟨_, (pss_one (ps_ret (C8.pe_c c_ratio_plus hr (by decide) (by rfl) (pa_cons (pv 0) (pa_cons (pe_tup (pa_cons (pe_un un_neg (pe_ix ix_tup (pv 1) pe_int (fun _ _ => rfl))) (pa_cons (pe_ix ix_tup (pv 1) pe_int (fun _ _ => rfl)) pa_nil))) pa_nil))))), ?_⟩
    refine go_start (show _ = [some _, some _] from rfl) ?_
    walk_at "go"
    refine ⟨(by show 2 ≤ sizeLine; decide), fun p hp => ?_⟩
    walk_at "go"
    have e := same_new (o := HO.tup [V.int (-y.num), V.int (y.den : Int)]) hp
    refine ⟨_, _, x, -y, rfl, ⟨a, rfl, e _ _ ha⟩, ⟨p, rfl, ?_⟩, sx, ?_, trivial, fun v H' e' hv => q v H' (e.trans e') ?_⟩
    · rw [upd_same, Rat.neg_num, Rat.neg_den]
    · refine ⟨?_, ?_⟩
      · rw [Rat.neg_num, Int.natAbs_neg]
        exact sy.1
      · rw [Rat.neg_den]
        exact sy.2
    · show Rt H' v (x - y)
      rw [Rat.sub_eq_add_neg]
      exact hv
theorem ok_ratio_times (F : C8.Fun K "ratio_times" "ratio_times" s_ratio_times f fd) (c_lowest_terms : C8.Cal P w K mg base 2 "lowest_terms" spLow []) : FnOk P w K mg base C8.CX0 3 f fd ["one", "other"] (spRat2 (fun _ _ => True) fun x y => x * y) := by
  refine C8.fn0 F sc_ratio_times (fun vs H Q E h => ?_) (fun cdv A outer s H vs Q E hr h => ?_)
  · obtain ⟨i, lo, x, y, rfl, _⟩ := h
    rfl
  · obtain ⟨_, _, x, y, rfl, ⟨a, rfl, ha⟩, ⟨b, rfl, hb⟩, sx, sy, _, q⟩ := h
    refine ⟨_, (pss_one (ps_ret (C8.pe_c c_lowest_terms hr (by decide) (by rfl) (pa_cons (pe_op op_mulW (pe_ix ix_tup (pv 0) pe_int (fun _ _ => rfl)) (pe_ix ix_tup (pv 1) pe_int (fun _ _ => rfl))) (pa_cons (pe_op op_mulW (pe_ix ix_tup (pv 0) pe_int (fun _ _ => rfl)) (pe_ix ix_tup (pv 1) pe_int (fun _ _ => rfl))) pa_nil))))), ?_⟩
    refine go_start (show _ = [some _, some _] from rfl) ?_
    walk_at "go"
    refine g_I (wide_mul (a := 4000) (b := 4000) sx.1 sy.1 (by decide) (by decide) (by decide)) ?_
    walk_at "go"
    refine g_I (wide_mul (a := 4000) (b := 4000) sx.2 sy.2 (by decide) (by decide) (by decide)) ?_
    walk_at "go"
    refine ⟨_, _, rfl, Int.mul_ne_zero (den_nz x) (den_nz y), mul_lt (a := 4000) (b := 4000) sx.2 sy.2 (by decide), ?_⟩
    rw [rat_times]
    exact q
theorem num_nz {y : Rat} (h : y ≠ 0) : y.num ≠ 0 := fun e => h (Rat.num_eq_zero.mp e)
theorem ok_ratio_over (F : C8.Fun K "ratio_over" "ratio_over" s_ratio_over f fd) (c_lowest_terms : C8.Cal P w K mg base 2 "lowest_terms" spLow []) : FnOk P w K mg base C8.CX0 3 f fd ["one", "other"] (spRat2 (fun _ y => y ≠ 0) fun x y => x / y) := by
  refine C8.fn0 F sc_ratio_over (fun vs H Q E h => ?_) (fun cdv A outer s H vs Q E hr h => ?_)
  · obtain ⟨i, lo, x, y, rfl, _⟩ := h
    rfl
  · obtain ⟨_, _, x, y, rfl, ⟨a, rfl, ha⟩, ⟨b, rfl, hb⟩, sx, sy, hy, q⟩ := h
    refine ⟨_, (pss_cons (ps_if (pt_cmpR op_eq (pe_ix ix_tup (pv 1) pe_int (fun _ _ => rfl)) pe_int (nomark _))
    ((pss_one ps_never)) pss_nil)
    (pss_one (ps_ret (C8.pe_c c_lowest_terms hr (by decide) (by rfl) (pa_cons (pe_op op_mulW (pe_ix ix_tup (pv 0) pe_int (fun _ _ => rfl)) (pe_ix ix_tup (pv 1) pe_int (fun _ _ => rfl))) (pa_cons (pe_op op_mulW (pe_ix ix_tup (pv 0) pe_int (fun _ _ => rfl)) (pe_ix ix_tup (pv 1) pe_int (fun _ _ => rfl))) pa_nil)))))), ?_⟩
    refine go_start (show _ = [some _, some _] from rfl) ?_
    walk_at "go"
    rw [decide_eq_false (num_nz hy)]
    walk_at "go"
    refine g_I (wide_mul (a := 4000) (b := 4000) sx.1 sy.2 (by decide) (by decide) (by decide)) ?_
    walk_at "go"
    refine g_I (wide_mul (a := 4000) (b := 4000) sx.2 sy.1 (by decide) (by decide) (by decide)) ?_
    walk_at "go"
    refine ⟨_, _, rfl, Int.mul_ne_zero (den_nz x) (num_nz hy), mul_lt (a := 4000) (b := 4000) sx.2 sy.1 (by decide), ?_⟩
    rw [rat_over x y hy]
    exact q
end
end Kw
set_option maxHeartbeats 4000000
namespace Kw
open PySem PySem.Spec PyProof.Rows L2
local macro_rules | `(tactic| walk_at "step") => `(tactic| with_reducible first
  | refine g_op ?_ | refine g_c ?_ | refine g_test ?_ | refine g_bl ?_ | refine g_seq ?_ | refine g_ifS ?_ | refine g_cons ?_ | refine g_nil ?_ | refine g_I0 ?_ | refine g_asg ?_ | refine g_name ?_
  | refine g_ret ?_ | refine g_nx ?_ | refine g_cb ?_ | refine g_call ?_ | refine g_un ?_ | refine g_rU ?_ | refine g_B ?_ | refine g_and ?_ | refine g_or ?_ | refine g_not ?_ | refine g_andV ?_ | refine g_orV ?_
  | refine g_notV ?_ | refine g_ifE ?_ | refine g_drop ?_ | refine g_par ?_ | refine g_two ?_ | refine g_abs ?_ | refine g_mx ?_ | refine g_int ?_ | refine g_tup ?_ | refine g_lst ?_ | refine g_chain ?_
  | refine g_sl ?_ | refine g_nopart ?_ | refine g_part ?_ | refine g_partI ?_ | refine g_bm ?_ | refine g_sub ?_ | refine g_ip ?_ | refine g_make ?_ | refine g_forR1 ?_ | refine g_forR2 ?_ | refine g_forR3 ?_ | refine g_forL ?_ | refine g_forT ?_ | refine g_forV ?_ | refine g_forVR ?_ | refine g_forE ?_ | refine g_lcL ?_ | refine g_lcT ?_ | refine g_lcR1 ?_ | refine g_lcR2 ?_ | refine g_fld ?_ | refine g_meth ?_ | refine ite_t ?_ | refine ite_nt ?_ | refine ite_nf ?_ | refine g_eqi ?_ | refine g_nei ?_ | refine ite_f ?_ | refine g_isN_n ?_ | refine g_isN_i ?_ | refine g_isN_r ?_ | refine g_notN_n ?_ | refine g_notN_i ?_ | refine g_notN_r ?_ | refine g_isi_ib ?_ | refine g_isi_ii ?_ | refine g_isi_it ?_ | refine g_isi_nt ?_)
local macro_rules | `(tactic| walk_at "var") => `(tactic| ((with_reducible refine' g_var ?hvar ?_); (case hvar => rfl)))
local macro_rules | `(tactic| walk_at "fact") => `(tactic| first
  | ((with_reducible refine' g_ixT ?hfact ?hat ?_); (case hfact => assumption); (case hat => rfl))
  | ((with_reducible refine' g_ixL ?hfact ?hat ?_); (case hfact => assumption); (case hat => rfl)))
local macro_rules | `(tactic| walk_at "fact1") => `(tactic| first
  | ((with_reducible refine' g_lenT ?hfact ?_); (case hfact => assumption))
  | ((with_reducible refine' g_lenL ?hfact ?_); (case hfact => assumption))
  | ((with_reducible refine' g_isi_tt ?hfact ?_); (case hfact => assumption)))
local macro_rules | `(tactic| walk_at "go") => `(tactic| repeat (first | walk_at "step" | walk_at "var" | walk_at "fact" | walk_at "fact1"))
local macro_rules | `(tactic| walk_at "if") => `(tactic| with_reducible first | refine ite_d ?_ ?_ | refine ite_n ?_ ?_ | refine ite_b ?_ ?_)
local macro_rules | `(tactic| walk_at "prime") => `(tactic| refine fig_prime (by assumption) (by assumption) ?_)
local macro_rules | `(tactic| walk_at "zero") => `(tactic| refine fig_zero (by assumption) (by assumption) ?_)
local macro_rules | `(tactic| walk_at "one") => `(tactic| refine fig_one (by assumption) (by assumption) ?_)
local macro_rules | `(tactic| walk_at "meth") => `(tactic| refine fig_meth (by assumption) (by decide +kernel) ?_)
/-! ### numbers in the heap -/
def RepC (H : Hp) (v : V) : Int × Option Int → Prop
  | (i, none) => v = .int i
  | (t, some b) => ∃ a, v = .ref a ∧ H a = some (.tup [.int t, .int b])
def datC : Int × Option Int → PyData
  | (i, none) => .int i
  | (t, some b) => .tuple [.int t, .int b]
theorem im_tup {H H' : Hp} (e : Im H H') {a : Addr} {xs : List V} (h : H a = some (.tup xs)) : H' a = some (.tup xs) := e _ _ h (fun _ z => nomatch z)
theorem im_ins {H H' : Hp} (e : Im H H') {a C dx : Addr} {fs : List (Str × V)} (h : H a = some (.ins C dx fs)) : H' a = some (.ins C dx fs) := e _ _ h (fun _ z => nomatch z)
/-- data that may be compared -/
def Okd (n : Nat) (d : PyData) : Prop := d.canLay0 = true ∧ d.depth ≤ n
theorem Okd.shaped {n : Nat} {d : PyData} (h : Okd n d) (hn : n ≤ 64) : SeqAt.shaped d = true := by
  show (d.canLay0 && decide (d.depth ≤ 64)) = true
  rw [h.1, decide_eq_true (Nat.le_trans h.2 hn)]
  rfl
theorem okd_all {n : Nat} : ∀ {ds : List PyData}, (∀ d ∈ ds, Okd n d) → PyData.canLayAll0 ds = true ∧ PyData.depthAll ds ≤ n
  | [], _ => ⟨rfl, Nat.zero_le _⟩
  | d :: ds, h => by
    have h1 := h d (List.mem_cons_self ..)
    have h2 := okd_all (ds := ds) fun x hx => h x (List.mem_cons_of_mem _ hx)
    refine ⟨?_, ?_⟩
    · show (d.canLay0 && PyData.canLayAll0 ds) = true
      rw [h1.1, h2.1]
      rfl
    · show max d.depth (PyData.depthAll ds) ≤ n
      exact Nat.max_le.mpr ⟨h1.2, h2.2⟩
theorem okd_tup {n : Nat} {ds : List PyData} (h : ∀ d ∈ ds, Okd n d) : Okd (n + 1) (.tuple ds) := ⟨(okd_all h).1, Nat.succ_le_succ (okd_all h).2⟩
theorem okd_lst {n : Nat} {ds : List PyData} (h : ∀ d ∈ ds, Okd n d) : Okd (n + 1) (.list ds) := ⟨(okd_all h).1, Nat.succ_le_succ (okd_all h).2⟩
section
variable {R : Type} [NumC R]
def Rep (H : Hp) (v : V) (x : R) : Prop := RepC H v (NumC.code x)
theorem Rep.im {H H' : Hp} {v : V} {x : R} (h : Rep H v x) (e : Im H H') : Rep H' v x := by
  unfold Rep at h ⊢
  generalize NumC.code x = c at h ⊢
  obtain ⟨t, b⟩ := c
  cases b with
  | none => exact h
  | some b =>
    obtain ⟨a, h1, h2⟩ := h
    exact ⟨a, h1, im_tup e h2⟩
theorem Rep.up {H H' : Hp} {v : V} {x : R} (h : Rep H v x) (e : Same H H') : Rep H' v x := h.im (Same.im e)
theorem Rep.dp {K : PySem.W.Frag} {H : Hp} {v : V} {x : R} (h : Rep H v x) : Dp K H v (datC (NumC.code x)) := by
  unfold Rep at h
  generalize NumC.code x = c at h ⊢
  obtain ⟨t, b⟩ := c
  cases b with
  | none =>
    have e : v = .int t := h
    rw [e]
    exact .int t
  | some b =>
    obtain ⟨a, h1, h2⟩ := h
    rw [h1]
    exact .tup (SqT.of h2) (.cons (.int t) (.cons (.int b) .nil))
theorem shapedC (c : Int × Option Int) : SeqAt.shaped (datC c) = true := by
  obtain ⟨t, b⟩ := c
  cases b <;> rfl
theorem eqvC {c d : Int × Option Int} (h : c.2.isSome = d.2.isSome) : PyData.eqv (datC c) (datC d) = decide (c = d) := by
  obtain ⟨t, b⟩ := c
  obtain ⟨u, e⟩ := d
  cases b with
  | none =>
    cases e with
    | none =>
      show (t == u) = decide ((t, none) = (u, none))
      by_cases z : t = u
      · simp [z]
      · simp [z]
    | some e => cases h
  | some b =>
    cases e with
    | none => cases h
    | some e =>
      show ((t == u) && ((b == e) && true)) = decide ((t, some b) = (u, some e))
      by_cases z : t = u
      · by_cases y : b = e
        · simp [z, y]
        · simp [z, y]
      · simp [z]
theorem code_eq {x y : R} : decide (NumC.code x = NumC.code y) = decide (x = y) := decide_eq_decide.mpr ⟨NumC.inj x y, fun e => e ▸ rfl⟩
theorem eqv_num (x y : R) : PyData.eqv (datC (NumC.code x)) (datC (NumC.code y)) = decide (x = y) := by
  rw [eqvC ((NumC.hk x).trans (NumC.hk y).symm), code_eq]
theorem g_eqR {K : PySem.W.Frag} {H : Hp} {u v : V} {x y : R} {Q : VK} (hu : Rep H u x) (hv : Rep H v y) (q : Q (.bl (decide (x = y))) H) : rEqD K u v H Q :=
  ⟨_, _, hu.dp, hv.dp, shapedC _, shapedC _, by rw [eqv_num]; exact q⟩
theorem Rep.tyx {K : PySem.W.Frag} {H : Hp} {v : V} {x : R} (h : Rep H v x) : TyX K H v (.type "int") ∨ TyX K H v (.type "tuple") := by
  unfold Rep at h
  generalize NumC.code x = c at h
  obtain ⟨t, b⟩ := c
  cases b with
  | none =>
    have e : v = .int t := h
    rw [e]
    exact .inl (.base (.int t))
  | some b =>
    obtain ⟨a, h1, h2⟩ := h
    rw [h1]
    exact .inr (.base (.tup h2))
/-! rows of numbers -/
def Reps (H : Hp) (vs : List V) (xs : List R) : Prop := Paired (Rep H) vs xs
theorem Reps.im {H H' : Hp} {vs : List V} {xs : List R} (h : Reps H vs xs) (e : Im H H') : Reps H' vs xs := Paired.mapP h fun _ _ r => r.im e
theorem Reps.up {H H' : Hp} {vs : List V} {xs : List R} (h : Reps H vs xs) (e : Same H H') : Reps H' vs xs := h.im (Same.im e)
theorem Reps.len {H : Hp} {vs : List V} {xs : List R} (h : Reps H vs xs) : vs.length = xs.length := Paired.length h
theorem Reps.get {H : Hp} : ∀ {vs : List V} {xs : List R} {i : Nat} {x : R}, Reps H vs xs → xs[i]? = some x → ∃ v, vs[i]? = some v ∧ Rep H v x
  | _, _, i, x, .nil, h => by simp at h
  | _, _, 0, x, .cons r _, h => by
    have e := Option.some.inj h
    exact ⟨_, rfl, e ▸ r⟩
  | _, _, i + 1, x, .cons _ t, h => by
    obtain ⟨v, h1, h2⟩ := Reps.get (i := i) t h
    exact ⟨v, h1, h2⟩
theorem Reps.get' {H : Hp} {vs : List V} {xs : List R} {i : Nat} {v : V} (h : Reps H vs xs) (hv : vs[i]? = some v) : ∃ x, xs[i]? = some x ∧ Rep H v x := by
  have hi : i < xs.length := by
    rw [← h.len]
    exact (List.getElem?_eq_some_iff.mp hv).1
  obtain ⟨u, h1, h2⟩ := h.get (List.getElem?_eq_getElem hi)
  rw [hv] at h1
  cases h1
  exact ⟨_, List.getElem?_eq_getElem hi, h2⟩
theorem Reps.set {H : Hp} {v : V} {x : R} (r : Rep H v x) : ∀ {vs : List V} {xs : List R} (i : Nat), Reps H vs xs → Reps H (vs.set i v) (xs.set i x)
  | _, _, _, .nil => .nil
  | _, _, 0, .cons _ t => .cons r t
  | _, _, i + 1, .cons q t => .cons q (Reps.set r i t)
theorem Reps.snoc {H : Hp} {vs : List V} {xs : List R} {v : V} {x : R} (h : Reps H vs xs) (r : Rep H v x) : Reps H (vs ++ [v]) (xs ++ [x]) := Paired.snoc h r
theorem Reps.app {H : Hp} {vs : List V} {xs : List R} {us : List V} {ys : List R} (h : Reps H vs xs) (r : Reps H us ys) : Reps H (vs ++ us) (xs ++ ys) := by
  induction h with
  | nil => exact r
  | cons a _ ih => exact .cons a ih
theorem Reps.rep {H : Hp} {v : V} {x : R} (r : Rep H v x) : ∀ n, Reps H (List.replicate n v) (List.replicate n x)
  | 0 => .nil
  | n + 1 => .cons r (Reps.rep r n)
theorem Reps.take {H : Hp} : ∀ {vs : List V} {xs : List R} (n : Nat), Reps H vs xs → Reps H (vs.take n) (xs.take n)
  | _, _, 0, _ => .nil
  | _, _, _ + 1, .nil => .nil
  | _, _, n + 1, .cons r t => .cons r (Reps.take n t)
theorem Reps.drop {H : Hp} : ∀ {vs : List V} {xs : List R} (n : Nat), Reps H vs xs → Reps H (vs.drop n) (xs.drop n)
  | _, _, 0, h => h
  | _, _, _ + 1, .nil => .nil
  | _, _, n + 1, .cons _ t => Reps.drop n t
theorem Reps.dp {K : PySem.W.Frag} {H : Hp} {vs : List V} {xs : List R} (h : Reps H vs xs) : DpAll K H vs (xs.map fun x => datC (NumC.code x)) := by
  induction h with
  | nil => exact .nil
  | cons a _ ih => exact .cons a.dp ih
theorem okdC (c : Int × Option Int) : Okd 1 (datC c) := by
  obtain ⟨t, b⟩ := c
  cases b with
  | none => exact ⟨rfl, Nat.zero_le _⟩
  | some b => exact ⟨rfl, Nat.le_refl _⟩
theorem shaped_all (xs : List R) : SeqAt.shaped (.tuple (xs.map fun x => datC (NumC.code x))) = true ∧ SeqAt.shaped (.list (xs.map fun x => datC (NumC.code x))) = true := by
  have h : ∀ d ∈ xs.map (fun x => datC (NumC.code x)), Okd 1 d := fun d hd => by
    obtain ⟨x, _, rfl⟩ := List.mem_map.mp hd
    exact okdC _
  exact ⟨(okd_tup h).shaped (by decide), (okd_lst h).shaped (by decide)⟩
theorem g_eqNil {K : PySem.W.Frag} {H : Hp} {a e : Addr} {vs : List V} {xs : List R} {Q : VK} (h : H a = some (.tup vs)) (r : Reps H vs xs) (he : H e = some (.tup [])) (q : Q (.bl xs.isEmpty) H) : rEqD K (.ref a) (.ref e) H Q :=
  ⟨_, _, .tup (SqT.of h) r.dp, .tup (SqT.of he) .nil, (shaped_all xs).1, rfl, by
    cases xs with
    | nil => exact q
    | cons x xs => exact q⟩
def TRep (H : Hp) (v : V) (xs : List R) : Prop := ∃ a vs, v = .ref a ∧ H a = some (.tup vs) ∧ Reps H vs xs
theorem TRep.im {H H' : Hp} {v : V} {xs : List R} (h : TRep H v xs) (e : Im H H') : TRep H' v xs := let ⟨a, vs, h1, h2, h3⟩ := h; ⟨a, vs, h1, im_tup e h2, h3.im e⟩
theorem TRep.up {H H' : Hp} {v : V} {xs : List R} (h : TRep H v xs) (e : Same H H') : TRep H' v xs := h.im (Same.im e)
def LRep (H : Hp) (l : Addr) (xs : List R) : Prop := ∃ vs, H l = some (.lst vs) ∧ Reps H vs xs
theorem LRep.up {H H' : Hp} {l : Addr} {xs : List R} (h : LRep H l xs) (e : Same H H') : LRep H' l xs := let ⟨vs, h1, h2⟩ := h; ⟨vs, e _ _ h1, h2.up e⟩
/-! ### the figures -/
def figF (p : Nat) (z o : V) : List (Str × V) := [("prime", .int p), ("zero", z), ("one", o)]
variable (R)
def FigAt (C : Addr) (H : Hp) (fa : Addr) : Prop := ∃ dx z o, H fa = some (.ins C dx (figF (NumC.p R) z o)) ∧ Rep H z (0 : R) ∧ Rep H o (1 : R)
variable {R}
theorem FigAt.im {C : Addr} {H H' : Hp} {fa : Addr} (h : FigAt R C H fa) (e : Im H H') : FigAt R C H' fa := let ⟨dx, z, o, h1, h2, h3⟩ := h; ⟨dx, z, o, im_ins e h1, h2.im e, h3.im e⟩
theorem FigAt.up {C : Addr} {H H' : Hp} {fa : Addr} (h : FigAt R C H fa) (e : Same H H') : FigAt R C H' fa := h.im (Same.im e)
structure FgT (K : PySem.W.Frag) (C : Addr) : Prop where
  cl : Cls K C
  np : NoAttr K C "prime"
  nz : NoAttr K C "zero"
  no : NoAttr K C "one"
theorem look_p (p : Nat) (z o : V) : (figF p z o).lookup ("prime" : Str) = some (.int p) := rfl
theorem look_z (p : Nat) (z o : V) : (figF p z o).lookup ("zero" : Str) = some z := rfl
theorem look_o (p : Nat) (z o : V) : (figF p z o).lookup ("one" : Str) = some o := rfl
variable {K : PySem.W.Frag} {C fa : Addr} {H : Hp} {Q : VK}
theorem fig_prime {P : V → Prop} (T : FgT K C) (h : FigAt R C H fa) (q : P (.int (NumC.p R))) : ∃ a C dx fs v, V.ref fa = .ref a ∧ H a = some (.ins C dx fs) ∧ Cls K C ∧ NoAttr K C "prime" ∧ fs.lookup ("prime" : Str) = some v ∧ P v :=
  let ⟨dx, z, o, h1, _, _⟩ := h; ⟨fa, C, dx, _, _, rfl, h1, T.cl, T.np, look_p _ z o, q⟩
theorem fig_zero {P : V → Prop} (T : FgT K C) (h : FigAt R C H fa) (q : ∀ z, Rep H z (0 : R) → P z) : ∃ a C dx fs v, V.ref fa = .ref a ∧ H a = some (.ins C dx fs) ∧ Cls K C ∧ NoAttr K C "zero" ∧ fs.lookup ("zero" : Str) = some v ∧ P v :=
  let ⟨dx, z, o, h1, h2, _⟩ := h; ⟨fa, C, dx, _, _, rfl, h1, T.cl, T.nz, look_z _ z o, q z h2⟩
theorem fig_one {P : V → Prop} (T : FgT K C) (h : FigAt R C H fa) (q : ∀ z, Rep H z (1 : R) → P z) : ∃ a C dx fs v, V.ref fa = .ref a ∧ H a = some (.ins C dx fs) ∧ Cls K C ∧ NoAttr K C "one" ∧ fs.lookup ("one" : Str) = some v ∧ P v :=
  let ⟨dx, z, o, h1, _, h3⟩ := h; ⟨fa, C, dx, _, _, rfl, h1, T.cl, T.no, look_o _ z o, q o h3⟩
theorem fig_meth {m : Str} {P : Prop} (h : FigAt R C H fa) (hm : (m == ("prime" : Str)) = false ∧ (m == ("zero" : Str)) = false ∧ (m == ("one" : Str)) = false) (q : P) : ∃ a dx fs, V.ref fa = .ref a ∧ H a = some (.ins C dx fs) ∧ fs.lookup m = none ∧ P :=
  let ⟨dx, z, o, h1, _, _⟩ := h; ⟨fa, dx, _, rfl, h1, by simp [figF, List.lookup, hm.1, hm.2.1, hm.2.2], q⟩
end
end Kw
/-! polys as rows of numbers: values, division by a straight factor -/
namespace Kw
section
variable {R : Type} [NumC R]
open NumC
/-- the value of a row of numbers at r -/
def ev : List R → R → R
  | [], _ => 0
  | c :: t, r => ev t r * r + c
/-- the quotient by t - r -/
def quot (r : R) : List R → List R
  | [] => []
  | [_] => []
  | _ :: d :: t => ev (d :: t) r :: quot r (d :: t)
theorem quot_len (r : R) : ∀ f : List R, (quot r f).length = f.length - 1
  | [] => rfl
  | [_] => rfl
  | c :: d :: t => by
    show (quot r (d :: t)).length + 1 = t.length + 1 + 1 - 1
    rw [quot_len r (d :: t)]
    simp
theorem quot_get (r : R) : ∀ (f : List R) (j : Nat), j + 1 < f.length → (quot r f)[j]? = some (ev (f.drop (j + 1)) r)
  | [], _, h => by simp at h
  | [_], _, h => by simp at h
  | _ :: d :: t, 0, _ => rfl
  | _ :: d :: t, j + 1, h => by
    show (quot r (d :: t))[j]? = some (ev ((d :: t).drop (j + 1)) r)
    exact quot_get r (d :: t) j (by simpa using h)
theorem ev_drop (f : List R) (r : R) (j : Nat) (c : R) (h : f[j]? = some c) : ev (f.drop j) r = ev (f.drop (j + 1)) r * r + c := by
  obtain ⟨hj, e⟩ := List.getElem?_eq_some_iff.mp h
  rw [List.drop_eq_getElem_cons hj, e]
  rfl
/-- the value by the quotient -/
theorem ev_quot (r x : R) : ∀ f : List R, ev f x = (x - r) * ev (quot r f) x + ev f r
  | [] => by simp only [ev, quot]; grind
  | [c] => by simp only [ev, quot]; grind
  | c :: d :: t => by
    have h := ev_quot r x (d :: t)
    show ev (d :: t) x * x + c = (x - r) * (ev (quot r (d :: t)) x * x + ev (d :: t) r) + (ev (d :: t) r * r + c)
    rw [h]
    grind
def Bds (n : Nat) (f : List R) : Prop := ∀ c ∈ f, Bd n c
theorem bd_ev {n : Nat} {r : R} (hr : Bd 1 r) : ∀ f : List R, Bds n f → Bd (n + 2 * f.length) (ev f r)
  | [], _ => bd_mono (Nat.zero_le _) bd_0
  | c :: t, h => by
    have h1 := bd_ev hr t fun x hx => h x (List.mem_cons_of_mem _ hx)
    have h2 := bd_times h1 hr
    have h3 : Bd (n + 2 * t.length + 1) c := bd_mono (by omega) (h c (List.mem_cons_self ..))
    exact bd_mono (by simp only [List.length_cons]; omega) (bd_plus h2 h3)
theorem bds_drop {n : Nat} {f : List R} (h : Bds n f) (j : Nat) : Bds n (f.drop j) := fun c hc => h c (List.mem_of_mem_drop hc)
theorem bds_mono {n m : Nat} {f : List R} (hn : n ≤ m) (h : Bds n f) : Bds m f := fun c hc => bd_mono hn (h c hc)
theorem bd_ev_drop {n : Nat} {r : R} (hr : Bd 1 r) {f : List R} (hl : f.length ≤ 12) (h : Bds n f) (j : Nat) : Bd (n + 24) (ev (f.drop j) r) :=
  bd_mono (by have := List.length_drop (l := f) (i := j); omega) (bd_ev hr _ (bds_drop h j))
theorem bds_quot {n : Nat} {r : R} (hr : Bd 1 r) {f : List R} (hl : f.length ≤ 12) (h : Bds n f) : Bds (n + 24) (quot r f) := fun c hc => by
  obtain ⟨j, hj, e⟩ := List.getElem_of_mem hc
  have h1 := quot_get r f j (by have := quot_len r f; omega)
  rw [List.getElem?_eq_getElem hj, e] at h1
  rw [Option.some.inj h1]
  exact bd_ev_drop hr hl h _
/-- the last number is not 0 -/
def Led (f : List R) : Prop := ∃ c, f.getLast? = some c ∧ c ≠ 0
theorem Led.pos {f : List R} (h : Led f) : 0 < f.length := by
  obtain ⟨c, h, _⟩ := h
  cases f with
  | nil => simp at h
  | cons a t => simp
theorem quot_last (r : R) : ∀ f : List R, 2 ≤ f.length → (quot r f).getLast? = f.getLast?
  | [], h => by simp at h
  | [_], h => by simp at h
  | [c, d], _ => by
    show some (ev [d] r) = some d
    simp only [ev]
    congr 1
    grind
  | c :: d :: e :: t, _ => by
    have h := quot_last r (d :: e :: t) (by simp)
    show (ev (d :: e :: t) r :: quot r (d :: e :: t)).getLast? = _
    have h2 : quot r (d :: e :: t) ≠ [] := by
      intro z
      have := quot_len r (d :: e :: t)
      rw [z] at this
      simp at this
    rw [List.getLast?_cons_cons, ← h]
    cases hq : quot r (d :: e :: t) with
    | nil => exact absurd hq h2
    | cons a l => rw [List.getLast?_cons_cons]
theorem quot_led {r : R} {f : List R} (h : Led f) (h2 : 2 ≤ f.length) : Led (quot r f) := by
  obtain ⟨c, h, hc⟩ := h
  exact ⟨c, (quot_last r f h2).trans h, hc⟩
/-- a led row of one number has no root -/
theorem led_one {r : R} {f : List R} (h : Led f) (h1 : f.length = 1) : ev f r ≠ 0 := by
  obtain ⟨c, h, hc⟩ := h
  match f, h1 with
  | [a], _ =>
    have e : a = c := Option.some.inj h
    subst e
    simp only [ev]
    intro z
    apply hc
    grind
/-- divided by t - r as often as it goes -/
def divOut (r : R) : Nat → List R → List R × Nat
  | 0, f => (f, 0)
  | k + 1, f => if ev f r = 0 then ((divOut r k (quot r f)).1, (divOut r k (quot r f)).2 + 1) else (f, 0)
/-! the rows of the division's loop: below j as they were, at j the value so far, above 0 -/
def rstL (f : List R) (r : R) (j : Nat) : List R := (List.range f.length).map fun i => if i < j then f.getD i 0 else if i = j then ev (f.drop j) r else 0
def quoL (f : List R) (r : R) (j : Nat) : List R := (List.range (f.length - 1)).map fun i => if i < j then 0 else ev (f.drop (i + 1)) r
theorem rstL_len (f : List R) (r : R) (j : Nat) : (rstL f r j).length = f.length := by simp [rstL]
theorem quoL_len (f : List R) (r : R) (j : Nat) : (quoL f r j).length = f.length - 1 := by simp [quoL]
theorem rstL_get (f : List R) (r : R) (j i : Nat) (h : i < f.length) : (rstL f r j)[i]? = some (if i < j then f.getD i 0 else if i = j then ev (f.drop j) r else 0) := by
  unfold rstL
  rw [List.getElem?_map, List.getElem?_range h]
  rfl
theorem quoL_get (f : List R) (r : R) (j i : Nat) (h : i < f.length - 1) : (quoL f r j)[i]? = some (if i < j then 0 else ev (f.drop (i + 1)) r) := by
  unfold quoL
  rw [List.getElem?_map, List.getElem?_range h]
  rfl
theorem getD_get {α : Type} {f : List α} {i : Nat} {d : α} (h : i < f.length) : f.getD i d = f[i] := by
  rw [List.getD_eq_getElem?_getD, List.getElem?_eq_getElem h]
  rfl
theorem ev_one (c r : R) : ev [c] r = c := by
  simp only [ev]
  grind
theorem ev_drop_getD (f : List R) (r : R) (j : Nat) (h : j < f.length) : ev (f.drop j) r = ev (f.drop (j + 1)) r * r + f.getD j 0 := by
  rw [getD_get h]
  exact ev_drop f r j _ (List.getElem?_eq_getElem h)
theorem rstL_top (f : List R) (r : R) (h : 0 < f.length) : rstL f r (f.length - 1) = f := by
  refine List.ext_getElem? fun i => ?_
  by_cases hi : i < f.length
  · rw [rstL_get f r _ i hi, List.getElem?_eq_getElem hi]
    by_cases h1 : i < f.length - 1
    · rw [if_pos h1, getD_get hi]
    · have e : i = f.length - 1 := by omega
      rw [if_neg h1, if_pos e, ← e, ev_drop f r i _ (List.getElem?_eq_getElem hi), List.drop_eq_nil_of_le (by omega)]
      congr 1
      simp only [ev]
      grind
  · rw [List.getElem?_eq_none (by rw [rstL_len]; omega), List.getElem?_eq_none (by omega)]
theorem quoL_top (f : List R) (r : R) : quoL f r (f.length - 1) = List.replicate (f.length - 1) 0 := by
  refine List.ext_getElem? fun i => ?_
  by_cases hi : i < f.length - 1
  · rw [quoL_get f r _ i hi, if_pos hi, List.getElem?_replicate, if_pos hi]
  · rw [List.getElem?_eq_none (by rw [quoL_len]; omega), List.getElem?_eq_none (by simp; omega)]
theorem quoL_end (f : List R) (r : R) : quoL f r 0 = quot r f := by
  refine List.ext_getElem? fun i => ?_
  by_cases hi : i < f.length - 1
  · rw [quoL_get f r _ i hi, if_neg (Nat.not_lt_zero i), quot_get r f i (by omega)]
  · rw [List.getElem?_eq_none (by rw [quoL_len]; omega), List.getElem?_eq_none (by rw [quot_len]; omega)]
theorem rstL_end (f : List R) (r : R) (h : 0 < f.length) : (rstL f r 0)[0]? = some (ev f r) ∧ ∀ i, 0 < i → i < f.length → (rstL f r 0)[i]? = some 0 := by
  refine ⟨?_, fun i h0 hi => ?_⟩
  · rw [rstL_get f r 0 0 h]
    rfl
  · rw [rstL_get f r 0 i hi, if_neg (Nat.not_lt_zero i), if_neg (by omega)]
theorem quoL_step (f : List R) (r : R) (j : Nat) (h : j + 1 < f.length) : (quoL f r (j + 1)).set j (ev (f.drop (j + 1)) r) = quoL f r j := by
  refine List.ext_getElem? fun i => ?_
  by_cases hi : i < f.length - 1
  · by_cases e : j = i
    · subst e
      rw [List.getElem?_set_self (by rw [quoL_len]; omega), quoL_get f r j j hi, if_neg (by omega)]
    · rw [List.getElem?_set_ne e, quoL_get f r _ i hi, quoL_get f r _ i hi]
      by_cases h1 : i < j
      · rw [if_pos h1, if_pos (by omega)]
      · rw [if_neg h1, if_neg (by omega)]
  · rw [List.getElem?_eq_none (by rw [List.length_set, quoL_len]; omega), List.getElem?_eq_none (by rw [quoL_len]; omega)]
theorem rstL_same (f : List R) (r : R) (j : Nat) (h : j + 1 < f.length) (h0 : ev (f.drop (j + 1)) r = 0) : rstL f r (j + 1) = rstL f r j := by
  refine List.ext_getElem? fun i => ?_
  by_cases hi : i < f.length
  · rw [rstL_get f r _ i hi, rstL_get f r _ i hi]
    by_cases h1 : i < j
    · rw [if_pos h1, if_pos (by omega)]
    · by_cases h2 : i = j
      · subst h2
        rw [if_pos (by omega), if_neg (by omega), if_pos rfl, ev_drop_getD f r i hi, h0]
        congr 1
        grind
      · rw [if_neg (show ¬ i < j + 1 by omega), if_neg h1, if_neg h2]
        by_cases h3 : i = j + 1
        · rw [if_pos h3, h0]
        · rw [if_neg h3]
  · rw [List.getElem?_eq_none (by rw [rstL_len]; omega), List.getElem?_eq_none (by rw [rstL_len]; omega)]
theorem rstL_step (f : List R) (r : R) (j : Nat) (h : j + 1 < f.length) : ((rstL f r (j + 1)).set j (ev (f.drop j) r)).set (j + 1) 0 = rstL f r j := by
  refine List.ext_getElem? fun i => ?_
  by_cases hi : i < f.length
  · rw [rstL_get f r j i hi]
    by_cases h3 : j + 1 = i
    · subst h3
      rw [List.getElem?_set_self (by rw [List.length_set, rstL_len]; omega), if_neg (by omega), if_neg (by omega)]
    · rw [List.getElem?_set_ne h3]
      by_cases h2 : j = i
      · subst h2
        rw [List.getElem?_set_self (by rw [rstL_len]; omega), if_neg (by omega), if_pos rfl]
      · rw [List.getElem?_set_ne h2, rstL_get f r _ i hi]
        by_cases h1 : i < j
        · rw [if_pos h1, if_pos (by omega)]
        · rw [if_neg h1, if_neg (by omega), if_neg (by omega), if_neg (by omega)]
  · rw [List.getElem?_eq_none (by rw [List.length_set, List.length_set, rstL_len]; omega), List.getElem?_eq_none (by rw [rstL_len]; omega)]
/-- within a turn: behind k of the divisor's two numbers -/
def innL (f : List R) (r : R) (j : Nat) : Nat → List R
  | 0 => rstL f r (j + 1)
  | 1 => (rstL f r (j + 1)).set j (ev (f.drop j) r)
  | _ => rstL f r j
theorem innL_turn (f : List R) (r : R) (j k : Nat) (y : R) (h : j + 1 < f.length) (hk : ([-r, 1] : List R)[k]? = some y) :
    ∃ cur, (innL f r j k)[j + k]? = some cur ∧ (cur = f.getD j 0 ∨ cur = ev (f.drop (j + 1)) r) ∧ (y = -r ∨ y = 1) ∧ (innL f r j k).set (j + k) (cur - ev (f.drop (j + 1)) r * y) = innL f r j (k + 1) := by
  match k, hk with
  | 0, hk =>
    have e : y = -r := (Option.some.inj hk).symm
    refine ⟨f.getD j 0, ?_, .inl rfl, .inl e, ?_⟩
    · show (rstL f r (j + 1))[j]? = _
      rw [rstL_get f r _ j (by omega), if_pos (by omega)]
    · show (rstL f r (j + 1)).set j _ = (rstL f r (j + 1)).set j _
      rw [e, ev_drop_getD f r j (by omega)]
      congr 1
      grind
  | 1, hk =>
    have e : y = 1 := (Option.some.inj hk).symm
    refine ⟨ev (f.drop (j + 1)) r, ?_, .inr rfl, .inr e, ?_⟩
    · show ((rstL f r (j + 1)).set j _)[j + 1]? = _
      rw [List.getElem?_set_ne (by omega), rstL_get f r _ (j + 1) h, if_neg (by omega), if_pos rfl]
    · show ((rstL f r (j + 1)).set j _).set (j + 1) _ = rstL f r j
      rw [e, ← rstL_step f r j h]
      congr 1
      grind
  | k + 2, hk => simp at hk
theorem innL_end (f : List R) (r : R) (j : Nat) : innL f r j 2 = rstL f r j := rfl
theorem divOut_props {r : R} (hr : Bd 1 r) : ∀ (m : Nat) (g : List R) (n : Nat), g.length = m → Led g → g.length ≤ 12 → Bds n g →
    Led (divOut r g.length g).1 ∧ (divOut r g.length g).1.length + (divOut r g.length g).2 = g.length ∧ Bds (n + 24 * (divOut r g.length g).2) (divOut r g.length g).1
  | 0, g, n, hm, hl, _, _ => absurd hl.pos (by omega)
  | m + 1, g, n, hm, hl, h12, hb => by
    rw [hm]
    by_cases h0 : ev g r = 0
    · have h2 : 2 ≤ g.length := by
        by_cases h1 : g.length = 1
        · exact absurd h0 (led_one hl h1)
        · omega
      have hq : (quot r g).length = m := by rw [quot_len]; omega
      obtain ⟨a1, a2, a3⟩ := divOut_props hr m (quot r g) (n + 24) hq (quot_led hl h2) (by omega) (bds_quot hr h12 hb)
      rw [hq] at a1 a2 a3
      have e : divOut r (m + 1) g = ((divOut r m (quot r g)).1, (divOut r m (quot r g)).2 + 1) := if_pos h0
      rw [e]
      refine ⟨a1, ?_, ?_⟩
      · show (divOut r m (quot r g)).1.length + ((divOut r m (quot r g)).2 + 1) = m + 1
        omega
      · show Bds (n + 24 * ((divOut r m (quot r g)).2 + 1)) (divOut r m (quot r g)).1
        exact bds_mono (by omega) a3
    · have e : divOut r (m + 1) g = (g, 0) := if_neg h0
      rw [e]
      exact ⟨hl, hm, hb⟩
/-- the parts: one root behind another divided out -/
def partF : List R → List R → List R × List (R × Nat)
  | g, [] => (g, [])
  | g, r :: rs => ((partF (divOut r g.length g).1 rs).1, (r, (divOut r g.length g).2) :: (partF (divOut r g.length g).1 rs).2)
end
end Kw
set_option maxHeartbeats 4000000
namespace Kw
open PySem PySem.Spec PyProof.Rows L2 RT
local macro_rules | `(tactic| walk_at "step") => `(tactic| with_reducible first
  | refine g_op ?_ | refine g_c ?_ | refine g_test ?_ | refine g_bl ?_ | refine g_seq ?_ | refine g_ifS ?_ | refine g_cons ?_ | refine g_nil ?_ | refine g_I0 ?_ | refine g_asg ?_ | refine g_name ?_
  | refine g_ret ?_ | refine g_nx ?_ | refine g_cb ?_ | refine g_call ?_ | refine g_un ?_ | refine g_rU ?_ | refine g_B ?_ | refine g_and ?_ | refine g_or ?_ | refine g_not ?_ | refine g_andV ?_ | refine g_orV ?_
  | refine g_notV ?_ | refine g_ifE ?_ | refine g_drop ?_ | refine g_par ?_ | refine g_two ?_ | refine g_abs ?_ | refine g_mx ?_ | refine g_int ?_ | refine g_tup ?_ | refine g_lst ?_ | refine g_chain ?_
  | refine g_sl ?_ | refine g_nopart ?_ | refine g_part ?_ | refine g_partI ?_ | refine g_bm ?_ | refine g_sub ?_ | refine g_ip ?_ | refine g_make ?_ | refine g_forR1 ?_ | refine g_forR2 ?_ | refine g_forR3 ?_ | refine g_forL ?_ | refine g_forT ?_ | refine g_forV ?_ | refine g_forVR ?_ | refine g_forE ?_ | refine g_lcL ?_ | refine g_lcT ?_ | refine g_lcR1 ?_ | refine g_lcR2 ?_ | refine g_fld ?_ | refine g_meth ?_ | refine ite_t ?_ | refine ite_nt ?_ | refine ite_nf ?_ | refine g_eqi ?_ | refine g_nei ?_ | refine ite_f ?_ | refine g_isN_n ?_ | refine g_isN_i ?_ | refine g_isN_r ?_ | refine g_notN_n ?_ | refine g_notN_i ?_ | refine g_notN_r ?_ | refine g_isi_ib ?_ | refine g_isi_ii ?_ | refine g_isi_it ?_ | refine g_isi_nt ?_)
local macro_rules | `(tactic| walk_at "var") => `(tactic| ((with_reducible refine' g_var ?hvar ?_); (case hvar => rfl)))
local macro_rules | `(tactic| walk_at "fact") => `(tactic| first
  | ((with_reducible refine' g_ixT ?hfact ?hat ?_); (case hfact => assumption); (case hat => rfl))
  | ((with_reducible refine' g_ixL ?hfact ?hat ?_); (case hfact => assumption); (case hat => rfl)))
local macro_rules | `(tactic| walk_at "fact1") => `(tactic| first
  | ((with_reducible refine' g_lenT ?hfact ?_); (case hfact => assumption))
  | ((with_reducible refine' g_lenL ?hfact ?_); (case hfact => assumption))
  | ((with_reducible refine' g_isi_tt ?hfact ?_); (case hfact => assumption)))
local macro_rules | `(tactic| walk_at "go") => `(tactic| repeat (first | walk_at "step" | walk_at "var" | walk_at "fact" | walk_at "fact1"))
local macro_rules | `(tactic| walk_at "if") => `(tactic| with_reducible first | refine ite_d ?_ ?_ | refine ite_n ?_ ?_ | refine ite_b ?_ ?_)
local macro_rules | `(tactic| walk_at "prime") => `(tactic| refine fig_prime (by assumption) (by assumption) ?_)
local macro_rules | `(tactic| walk_at "zero") => `(tactic| refine fig_zero (by assumption) (by assumption) ?_)
local macro_rules | `(tactic| walk_at "one") => `(tactic| refine fig_one (by assumption) (by assumption) ?_)
local macro_rules | `(tactic| walk_at "meth") => `(tactic| refine fig_meth (by assumption) (by decide +kernel) ?_)
abbrev s_rest_undone : Stmt := topS 21
theorem sc_rest_undone : FnScope ["number", "prime", "told", "k"] ["number", "prime"] (C8.fnScope s_rest_undone) := C8.fnScope_by (by decide +kernel)
abbrev s_Figures___init__ : Stmt := inClass (topS 22) 0
theorem sc_Figures___init__ : FnScope ["self", "prime"] ["self", "prime"] (C8.fnScope s_Figures___init__) := C8.fnScope_by (by decide +kernel)
abbrev s_Figures_plus : Stmt := inClass (topS 22) 2
theorem sc_Figures_plus : FnScope ["self", "one", "other"] ["self", "one", "other"] (C8.fnScope s_Figures_plus) := C8.fnScope_by (by decide +kernel)
abbrev s_Figures_minus : Stmt := inClass (topS 22) 3
theorem sc_Figures_minus : FnScope ["self", "one", "other"] ["self", "one", "other"] (C8.fnScope s_Figures_minus) := C8.fnScope_by (by decide +kernel)
abbrev s_Figures_times : Stmt := inClass (topS 22) 4
theorem sc_Figures_times : FnScope ["self", "one", "other"] ["self", "one", "other"] (C8.fnScope s_Figures_times) := C8.fnScope_by (by decide +kernel)
abbrev s_Figures_over : Stmt := inClass (topS 22) 5
theorem sc_Figures_over : FnScope ["self", "one", "other"] ["self", "one", "other"] (C8.fnScope s_Figures_over) := C8.fnScope_by (by decide +kernel)
abbrev s_Figures_negative : Stmt := inClass (topS 22) 6
theorem sc_Figures_negative : FnScope ["self", "one"] ["self", "one"] (C8.fnScope s_Figures_negative) := C8.fnScope_by (by decide +kernel)
abbrev s_Figures_is_number : Stmt := inClass (topS 22) 10
theorem sc_Figures_is_number : FnScope ["self", "thing"] ["self", "thing"] (C8.fnScope s_Figures_is_number) := C8.fnScope_by (by decide +kernel)
abbrev s_Figures_all_numbers : Stmt := inClass (topS 22) 11
theorem sc_Figures_all_numbers : FnScope ["self"] ["self"] (C8.fnScope s_Figures_all_numbers) := C8.fnScope_by (by decide +kernel)
section
variable {P : Program} {w : World} {K : PySem.W.Frag} {mg : Str → Option Value} {base : Heap} {f : Addr} {fd : FuncData}
/-! ### the promises of the figures' methods -/
def LIM : Nat := 800
section
variable (R : Type) [NumC R] (C : Addr)
def spF2 (g : R → R → R) : Sp := fun vs H Q _ => ∃ (fa : Addr) (a b : V) (x y : R), vs = [.ref fa, a, b] ∧ FigAt R C H fa ∧ Rep H a x ∧ Rep H b y ∧ NumC.Bd LIM x ∧ NumC.Bd LIM y ∧ ∀ v H', Same H H' → Rep H' v (g x y) → Q v H'
def spF1 (g : R → R) : Sp := fun vs H Q _ => ∃ (fa : Addr) (a : V) (x : R), vs = [.ref fa, a] ∧ FigAt R C H fa ∧ Rep H a x ∧ ∀ v H', Same H H' → Rep H' v (g x) → Q v H'
/-- one over another, told where the other is one -/
def spFo : Sp := fun vs H Q _ => ∃ (fa : Addr) (a b : V) (x y : R), vs = [.ref fa, a, b] ∧ FigAt R C H fa ∧ Rep H a x ∧ Rep H b y ∧ NumC.Bd LIM x ∧ NumC.Bd LIM y ∧ y ≠ 0 ∧ ∀ v H' z, Same H H' → Rep H' v z → (y = 1 → z = x) → Q v H'
/-- what is no number -/
def badN : Int := if NumC.p R = 0 then 1 else NumC.p R
def spFn : Sp := fun vs H Q _ => ∃ (fa : Addr) (v : V), vs = [.ref fa, v] ∧ FigAt R C H fa ∧ ((∃ x : R, Rep H v x ∧ Q (.bl true) H) ∨ (v = .int (badN R) ∧ Q (.bl false) H))
end
theorem rt_rep {H : Hp} {v : V} {q : Rat} : Rt H v q = Rep H v q := rfl
theorem pR : decide (((NumC.p Rat : Nat) : Int) = 0) = true := rfl
theorem sz_of {q : Rat} (h : NumC.Bd LIM q) : Sz 4000 q := bq_fit (Nat.le_refl _) h
def spUndone : Sp := fun vs H Q _ => ∃ (a n : Nat), vs = [.int a, .int n] ∧ a < n ∧ 2 ≤ n ∧ n ≤ 13 ∧ ∀ r : Nat, r < n → (a = 1 → r = 1) → Q (.int r) H
theorem und_step {a n t : Nat} (hn : 0 < n) : ((t : Int) * a) % n = ((t * a % n : Nat) : Int) := by
  rw [Int.natCast_emod, Int.natCast_mul]
theorem ok_rest_undone (F : C8.Fun K "rest_undone" "rest_undone" s_rest_undone f fd) (B : Bn mg) : FnOk P w K mg base C8.CX0 1 f fd ["number", "prime"] spUndone := by
  refine C8.fn0 F sc_rest_undone (fun vs H Q E h => ?_) (fun cdv A outer s H vs Q E hr h => ?_)
  · obtain ⟨i, lo, rfl, _⟩ := h
    rfl
  · obtain ⟨a, n, rfl, ha, h2, hn, q⟩ := h
    refine ⟨_, (pss_cons (ps_set (i := 2) sc_rest_undone.nd rfl (by first | exact .inl rfl | exact .inr rfl) pe_int)
    (pss_cons (ps_for PassesOwn.never rfl (pi_range1 (by rfl) B.range_ (pa_cons (pe_op op_sub (pv 1) pe_int) pa_nil)) (pg_name (i := 3) sc_rest_undone.nd rfl (by first | exact .inl rfl | exact .inr rfl))
    ((pss_one (ps_set (i := 2) sc_rest_undone.nd rfl (by first | exact .inl rfl | exact .inr rfl) (pe_op op_mod (pe_op op_mulW (pv 2) (pv 0)) (pv 1))))))
    (pss_one (ps_ret (pv 2))))), ?_⟩
    refine go_start (show _ = [some _, some _, none, none] from rfl) ?_
    walk_at "go"
    refine ⟨_, rfl, by omega, by omega, lp_range (fun _ σ' H' => ∃ (t : Nat) (z : Option V), σ' = [some (.int a), some (.int n), some (.int t), z] ∧ t < n ∧ (a = 1 → t = 1) ∧ H' = H) ⟨1, none, rfl, by omega, fun _ => rfl, rfl⟩ ?_ ?_⟩
    · rintro i σ' H' hi ⟨t, z, rfl, ht, h1, rfl⟩
      walk_at "go"
      refine g_I (wide_mul (a := 64) (b := 64) (by omega) (by omega) (by decide) (by decide) (by decide)) ?_
      walk_at "go"
      refine g_I (by omega) ?_
      walk_at "go"
      rw [und_step (by omega)]
      refine ⟨_, _, rfl, Nat.mod_lt _ (by omega), fun e => ?_, rfl⟩
      rw [e, h1 e]
      exact Nat.mod_eq_of_lt (by omega)
    · rintro σ' H' ⟨t, z, rfl, ht, h1, rfl⟩
      walk_at "go"
      exact q t ht h1
theorem okQ_plus {C : Addr} (T : FgT K C) (F : C8.Fun K "plus" "Figures.plus" s_Figures_plus f fd) (c_ratio_plus : C8.Cal P w K mg base 3 "ratio_plus" (spRat2 (fun _ _ => True) fun x y => x + y) []) :
    FnOk P w K mg base C8.CX0 4 f fd ["self", "one", "other"] (spF2 Rat C (fun x y => x + y)) := by
  refine C8.fn0 F sc_Figures_plus (fun vs H Q E h => ?_) (fun cdv A outer s H vs Q E hr h => ?_)
  · obtain ⟨i, lo, x, y, z, rfl, _⟩ := h
    rfl
  · obtain ⟨fa, a, b, x, y, rfl, hF, ha, hb, bx, by_, q⟩ := h
    refine ⟨_, (pss_cons (ps_if (pt_cmpR op_eq (pe_fld (pv 0) rfl) pe_int (nomark _))
    ((pss_one (ps_ret (C8.pe_c c_ratio_plus hr (by decide) (by rfl) (pa_cons (pv 1) (pa_cons (pv 2) pa_nil)))))) pss_nil)
    (pss_one (ps_ret (pe_op op_mod (pe_op op_add (pv 1) (pv 2)) (pe_fld (pv 0) rfl))))), ?_⟩
    refine go_start (show _ = [some _, some _, some _] from rfl) ?_
    walk_at "go"
    walk_at "prime"
    walk_at "go"
    rw [pR]
    walk_at "go"
    exact ⟨_, _, x, y, rfl, ha, hb, sz_of bx, sz_of by_, trivial, q⟩
theorem okQ_minus {C : Addr} (T : FgT K C) (F : C8.Fun K "minus" "Figures.minus" s_Figures_minus f fd) (c_ratio_minus : C8.Cal P w K mg base 4 "ratio_minus" (spRat2 (fun _ _ => True) fun x y => x - y) []) :
    FnOk P w K mg base C8.CX0 5 f fd ["self", "one", "other"] (spF2 Rat C (fun x y => x - y)) := by
  refine C8.fn0 F sc_Figures_minus (fun vs H Q E h => ?_) (fun cdv A outer s H vs Q E hr h => ?_)
  · obtain ⟨i, lo, x, y, z, rfl, _⟩ := h
    rfl
  · obtain ⟨fa, a, b, x, y, rfl, hF, ha, hb, bx, by_, q⟩ := h
    refine ⟨_, (pss_cons (ps_if (pt_cmpR op_eq (pe_fld (pv 0) rfl) pe_int (nomark _))
    ((pss_one (ps_ret (C8.pe_c c_ratio_minus hr (by decide) (by rfl) (pa_cons (pv 1) (pa_cons (pv 2) pa_nil)))))) pss_nil)
    (pss_one (ps_ret (pe_op op_mod (pe_op op_sub (pv 1) (pv 2)) (pe_fld (pv 0) rfl))))), ?_⟩
    refine go_start (show _ = [some _, some _, some _] from rfl) ?_
    walk_at "go"
    walk_at "prime"
    walk_at "go"
    rw [pR]
    walk_at "go"
    exact ⟨_, _, x, y, rfl, ha, hb, sz_of bx, sz_of by_, trivial, q⟩
theorem okQ_times {C : Addr} (T : FgT K C) (F : C8.Fun K "times" "Figures.times" s_Figures_times f fd) (c_ratio_times : C8.Cal P w K mg base 3 "ratio_times" (spRat2 (fun _ _ => True) fun x y => x * y) []) :
    FnOk P w K mg base C8.CX0 4 f fd ["self", "one", "other"] (spF2 Rat C (fun x y => x * y)) := by
  refine C8.fn0 F sc_Figures_times (fun vs H Q E h => ?_) (fun cdv A outer s H vs Q E hr h => ?_)
  · obtain ⟨i, lo, x, y, z, rfl, _⟩ := h
    rfl
  · obtain ⟨fa, a, b, x, y, rfl, hF, ha, hb, bx, by_, q⟩ := h
    refine ⟨_, (pss_cons (ps_if (pt_cmpR op_eq (pe_fld (pv 0) rfl) pe_int (nomark _))
    ((pss_one (ps_ret (C8.pe_c c_ratio_times hr (by decide) (by rfl) (pa_cons (pv 1) (pa_cons (pv 2) pa_nil)))))) pss_nil)
    (pss_one (ps_ret (pe_op op_mod (pe_op op_mulW (pv 1) (pv 2)) (pe_fld (pv 0) rfl))))), ?_⟩
    refine go_start (show _ = [some _, some _, some _] from rfl) ?_
    walk_at "go"
    walk_at "prime"
    walk_at "go"
    rw [pR]
    walk_at "go"
    exact ⟨_, _, x, y, rfl, ha, hb, sz_of bx, sz_of by_, trivial, q⟩
theorem okQ_over {C : Addr} (T : FgT K C) (F : C8.Fun K "over" "Figures.over" s_Figures_over f fd) (c_ratio_over : C8.Cal P w K mg base 3 "ratio_over" (spRat2 (fun _ y => y ≠ 0) fun x y => x / y) []) (c_rest_undone : C8.Cal P w K mg base 1 "rest_undone" spUndone []) :
    FnOk P w K mg base C8.CX0 4 f fd ["self", "one", "other"] (spFo Rat C) := by
  refine C8.fn0 F sc_Figures_over (fun vs H Q E h => ?_) (fun cdv A outer s H vs Q E hr h => ?_)
  · obtain ⟨i, lo, x, y, z, rfl, _⟩ := h
    rfl
  · obtain ⟨fa, a, b, x, y, rfl, hF, ha, hb, bx, by_, hy, q⟩ := h
    refine ⟨_, (pss_cons (ps_if (pt_cmpR op_eq (pe_fld (pv 0) rfl) pe_int (nomark _))
    ((pss_one (ps_ret (C8.pe_c c_ratio_over hr (by decide) (by rfl) (pa_cons (pv 1) (pa_cons (pv 2) pa_nil)))))) pss_nil)
    (pss_cons (ps_if (pt_cmpR op_eq (pv 2) pe_int (nomark _))
    ((pss_one ps_never)) pss_nil)
    (pss_one (ps_ret (pe_op op_mod (pe_op op_mulW (pv 1) (C8.pe_c c_rest_undone hr (by decide) (by rfl) (pa_cons (pv 2) (pa_cons (pe_fld (pv 0) rfl) pa_nil)))) (pe_fld (pv 0) rfl)))))), ?_⟩
    refine go_start (show _ = [some _, some _, some _] from rfl) ?_
    walk_at "go"
    walk_at "prime"
    walk_at "go"
    rw [pR]
    walk_at "go"
    refine ⟨_, _, x, y, rfl, ha, hb, sz_of bx, sz_of by_, hy, fun v H' e hv => q v H' _ e hv fun e1 => ?_⟩
    show x / y = x
    rw [e1]
    grind
theorem okQ_negative {C : Addr} (T : FgT K C) (F : C8.Fun K "negative" "Figures.negative" s_Figures_negative f fd) : FnOk P w K mg base C8.CX0 1 f fd ["self", "one"] (spF1 Rat C (fun x => -x)) := by
  refine C8.fn0 F sc_Figures_negative (fun vs H Q E h => ?_) (fun cdv A outer s H vs Q E hr h => ?_)
  · obtain ⟨i, lo, x, rfl, _⟩ := h
    rfl
  · obtain ⟨fa, _, x, rfl, hF, ⟨a, rfl, ha⟩, q⟩ := h
    refine ⟨_, (pss_cons (ps_if (pt_cmpR op_eq (pe_fld (pv 0) rfl) pe_int (nomark _))
    ((pss_one (ps_ret (pe_tup (pa_cons (pe_un un_neg (pe_ix ix_tup (pv 1) pe_int (fun _ _ => rfl))) (pa_cons (pe_ix ix_tup (pv 1) pe_int (fun _ _ => rfl)) pa_nil)))))) pss_nil)
    (pss_one (ps_ret (pe_op op_mod (pe_un un_neg (pv 1)) (pe_fld (pv 0) rfl))))), ?_⟩
    refine go_start (show _ = [some _, some _] from rfl) ?_
    walk_at "go"
    walk_at "prime"
    walk_at "go"
    rw [pR]
    walk_at "go"
    refine ⟨(by show 2 ≤ sizeLine; decide), fun p hp => ?_⟩
    refine q _ _ (same_new hp) ⟨p, rfl, ?_⟩
    show _ = some (HO.tup [V.int (-x).num, V.int ((-x).den : Int)])
    rw [upd_same, Rat.neg_num, Rat.neg_den]
theorem okQ_is_number {C : Addr} (T : FgT K C) (F : C8.Fun K "is_number" "Figures.is_number" s_Figures_is_number f fd) (c_is_ratio : C8.Cal P w K mg base 2 "is_ratio" spIsRatio []) (c_is_whole3 : C8.Cal P w K mg base 1 "is_whole" spIsWhole []) :
    FnOk P w K mg base C8.CX0 3 f fd ["self", "thing"] (spFn Rat C) := by
  refine C8.fn0 F sc_Figures_is_number (fun vs H Q E h => ?_) (fun cdv A outer s H vs Q E hr h => ?_)
  · obtain ⟨i, lo, rfl, _⟩ := h
    rfl
  · obtain ⟨fa, v, rfl, hF, h⟩ := h
    refine ⟨_, (pss_cons (ps_if (pt_cmpR op_eq (pe_fld (pv 0) rfl) pe_int (nomark _))
    ((pss_one (ps_ret (C8.pe_c c_is_ratio hr (by decide) (by rfl) (pa_cons (pv 1) pa_nil))))) pss_nil)
    (pss_one (ps_ret (C8.pe_c c_is_whole3 hr (by decide) (by rfl) (pa_cons (pv 1) (pa_cons pe_int (pa_cons (pe_op op_sub (pe_fld (pv 0) rfl) pe_int) pa_nil))))))), ?_⟩
    refine go_start (show _ = [some _, some _] from rfl) ?_
    walk_at "go"
    walk_at "prime"
    walk_at "go"
    rw [pR]
    walk_at "go"
    refine ⟨v, rfl, ?_⟩
    rcases h with ⟨x, hx, q⟩ | ⟨rfl, q⟩
    · exact .inl ⟨x, hx, q⟩
    · exact .inr ⟨_, rfl, q⟩
/-! ### the rests -/
section
variable {n : Nat} [NeZero n]
theorem pF : ((NumC.p (Fin n) : Nat) : Int) = n := rfl
theorem pF0 : decide (((NumC.p (Fin n) : Nat) : Int) = 0) = false := decide_eq_false (by have := NeZero.ne n; show ¬ (n : Int) = 0; omega)
theorem npos : (0 : Int) < n := by have := NeZero.ne n; omega
theorem fin_rep {H : Hp} {v : V} {x : Fin n} : Rep H v x ↔ v = .int (x.val : Nat) := Iff.rfl
theorem okF_plus {C : Addr} (hn : n ≤ 13) (T : FgT K C) (F : C8.Fun K "plus" "Figures.plus" s_Figures_plus f fd) (c_ratio_plus : C8.Cal P w K mg base 3 "ratio_plus" (spRat2 (fun _ _ => True) fun x y => x + y) []) :
    FnOk P w K mg base C8.CX0 4 f fd ["self", "one", "other"] (spF2 (Fin n) C (fun x y => x + y)) := by
  refine C8.fn0 F sc_Figures_plus (fun vs H Q E h => ?_) (fun cdv A outer s H vs Q E hr h => ?_)
  · obtain ⟨i, lo, x, y, z, rfl, _⟩ := h
    rfl
  · obtain ⟨fa, a, b, x, y, rfl, hF, ha, hb, bx, by_, q⟩ := h
    obtain rfl := fin_rep.mp ha
    obtain rfl := fin_rep.mp hb
    have hx := x.isLt
    have hy := y.isLt
    refine ⟨_, (pss_cons (ps_if (pt_cmpR op_eq (pe_fld (pv 0) rfl) pe_int (nomark _))
    ((pss_one (ps_ret (C8.pe_c c_ratio_plus hr (by decide) (by rfl) (pa_cons (pv 1) (pa_cons (pv 2) pa_nil)))))) pss_nil)
    (pss_one (ps_ret (pe_op op_mod (pe_op op_add (pv 1) (pv 2)) (pe_fld (pv 0) rfl))))), ?_⟩
    refine go_start (show _ = [some _, some _, some _] from rfl) ?_
    walk_at "go"
    walk_at "prime"
    walk_at "go"
    rw [pF0]
    walk_at "go"
    walk_at "prime"
    refine g_I (by rw [pF]; exact npos) ?_
    exact q _ _ (Same.refl _) (fin_rep.mpr (by rw [fin_add]; rfl))
theorem okF_minus {C : Addr} (hn : n ≤ 13) (T : FgT K C) (F : C8.Fun K "minus" "Figures.minus" s_Figures_minus f fd) (c_ratio_minus : C8.Cal P w K mg base 4 "ratio_minus" (spRat2 (fun _ _ => True) fun x y => x - y) []) :
    FnOk P w K mg base C8.CX0 5 f fd ["self", "one", "other"] (spF2 (Fin n) C (fun x y => x - y)) := by
  refine C8.fn0 F sc_Figures_minus (fun vs H Q E h => ?_) (fun cdv A outer s H vs Q E hr h => ?_)
  · obtain ⟨i, lo, x, y, z, rfl, _⟩ := h
    rfl
  · obtain ⟨fa, a, b, x, y, rfl, hF, ha, hb, bx, by_, q⟩ := h
    obtain rfl := fin_rep.mp ha
    obtain rfl := fin_rep.mp hb
    have hx := x.isLt
    have hy := y.isLt
    refine ⟨_, (pss_cons (ps_if (pt_cmpR op_eq (pe_fld (pv 0) rfl) pe_int (nomark _))
    ((pss_one (ps_ret (C8.pe_c c_ratio_minus hr (by decide) (by rfl) (pa_cons (pv 1) (pa_cons (pv 2) pa_nil)))))) pss_nil)
    (pss_one (ps_ret (pe_op op_mod (pe_op op_sub (pv 1) (pv 2)) (pe_fld (pv 0) rfl))))), ?_⟩
    refine go_start (show _ = [some _, some _, some _] from rfl) ?_
    walk_at "go"
    walk_at "prime"
    walk_at "go"
    rw [pF0]
    walk_at "go"
    walk_at "prime"
    refine g_I (by rw [pF]; exact npos) ?_
    exact q _ _ (Same.refl _) (fin_rep.mpr (by rw [fin_sub]; rfl))
theorem okF_times {C : Addr} (hn : n ≤ 13) (T : FgT K C) (F : C8.Fun K "times" "Figures.times" s_Figures_times f fd) (c_ratio_times : C8.Cal P w K mg base 3 "ratio_times" (spRat2 (fun _ _ => True) fun x y => x * y) []) :
    FnOk P w K mg base C8.CX0 4 f fd ["self", "one", "other"] (spF2 (Fin n) C (fun x y => x * y)) := by
  refine C8.fn0 F sc_Figures_times (fun vs H Q E h => ?_) (fun cdv A outer s H vs Q E hr h => ?_)
  · obtain ⟨i, lo, x, y, z, rfl, _⟩ := h
    rfl
  · obtain ⟨fa, a, b, x, y, rfl, hF, ha, hb, bx, by_, q⟩ := h
    obtain rfl := fin_rep.mp ha
    obtain rfl := fin_rep.mp hb
    have hx := x.isLt
    have hy := y.isLt
    refine ⟨_, (pss_cons (ps_if (pt_cmpR op_eq (pe_fld (pv 0) rfl) pe_int (nomark _))
    ((pss_one (ps_ret (C8.pe_c c_ratio_times hr (by decide) (by rfl) (pa_cons (pv 1) (pa_cons (pv 2) pa_nil)))))) pss_nil)
    (pss_one (ps_ret (pe_op op_mod (pe_op op_mulW (pv 1) (pv 2)) (pe_fld (pv 0) rfl))))), ?_⟩
    refine go_start (show _ = [some _, some _, some _] from rfl) ?_
    walk_at "go"
    walk_at "prime"
    walk_at "go"
    rw [pF0]
    walk_at "go"
    refine g_I (wide_mul (a := 64) (b := 64) (by omega) (by omega) (by decide) (by decide) (by decide)) ?_
    walk_at "go"
    walk_at "prime"
    refine g_I (by rw [pF]; exact npos) ?_
    exact q _ _ (Same.refl _) (fin_rep.mpr (by rw [fin_mul]; rfl))
theorem okF_over {C : Addr} (h2 : 2 ≤ n) (hn : n ≤ 13) (T : FgT K C) (F : C8.Fun K "over" "Figures.over" s_Figures_over f fd) (c_ratio_over : C8.Cal P w K mg base 3 "ratio_over" (spRat2 (fun _ y => y ≠ 0) fun x y => x / y) []) (c_rest_undone : C8.Cal P w K mg base 1 "rest_undone" spUndone []) :
    FnOk P w K mg base C8.CX0 4 f fd ["self", "one", "other"] (spFo (Fin n) C) := by
  refine C8.fn0 F sc_Figures_over (fun vs H Q E h => ?_) (fun cdv A outer s H vs Q E hr h => ?_)
  · obtain ⟨i, lo, x, y, z, rfl, _⟩ := h
    rfl
  · obtain ⟨fa, a, b, x, y, rfl, hF, ha, hb, bx, by_, hy0, q⟩ := h
    obtain rfl := fin_rep.mp ha
    obtain rfl := fin_rep.mp hb
    have hx := x.isLt
    have hy := y.isLt
    refine ⟨_, (pss_cons (ps_if (pt_cmpR op_eq (pe_fld (pv 0) rfl) pe_int (nomark _))
    ((pss_one (ps_ret (C8.pe_c c_ratio_over hr (by decide) (by rfl) (pa_cons (pv 1) (pa_cons (pv 2) pa_nil)))))) pss_nil)
    (pss_cons (ps_if (pt_cmpR op_eq (pv 2) pe_int (nomark _))
    ((pss_one ps_never)) pss_nil)
    (pss_one (ps_ret (pe_op op_mod (pe_op op_mulW (pv 1) (C8.pe_c c_rest_undone hr (by decide) (by rfl) (pa_cons (pv 2) (pa_cons (pe_fld (pv 0) rfl) pa_nil)))) (pe_fld (pv 0) rfl)))))), ?_⟩
    refine go_start (show _ = [some _, some _, some _] from rfl) ?_
    walk_at "go"
    walk_at "prime"
    walk_at "go"
    rw [pF0]
    walk_at "go"
    rw [decide_eq_false (show ¬ ((y.val : Nat) : Int) = 0 from fun e => hy0 (Fin.ext (by have : y.val = 0 := by omega
                                                                                         rw [this]; rfl)))]
    walk_at "go"
    walk_at "prime"
    walk_at "go"
    refine ⟨y.val, n, rfl, hy, h2, hn, fun r hr1 hr2 => ?_⟩
    walk_at "go"
    refine g_I (wide_mul (a := 64) (b := 64) (by omega) (by omega) (by decide) (by decide) (by decide)) ?_
    walk_at "go"
    walk_at "prime"
    refine g_I (by rw [pF]; exact npos) ?_
    rw [pF]
    refine q _ _ (NumC.of ((x.val : Int) * r)) (Same.refl _) (fin_rep.mpr (by rw [fin_of])) fun e => ?_
    have e1 : y.val = 1 := by
      rw [e]
      show 1 % n = 1
      exact Nat.mod_eq_of_lt (by omega)
    rw [hr2 e1]
    refine Fin.ext ?_
    have e2 := fin_of (n := n) ((x.val : Int) * ((1 : Nat) : Int))
    have e3 : ((x.val : Int) * ((1 : Nat) : Int)) % n = x.val := by
      rw [Int.emod_eq_of_lt (by omega) (by omega)]
      omega
    omega
theorem okF_negative {C : Addr} (hn : n ≤ 13) (T : FgT K C) (F : C8.Fun K "negative" "Figures.negative" s_Figures_negative f fd) : FnOk P w K mg base C8.CX0 1 f fd ["self", "one"] (spF1 (Fin n) C (fun x => -x)) := by
  refine C8.fn0 F sc_Figures_negative (fun vs H Q E h => ?_) (fun cdv A outer s H vs Q E hr h => ?_)
  · obtain ⟨i, lo, x, rfl, _⟩ := h
    rfl
  · obtain ⟨fa, a, x, rfl, hF, ha, q⟩ := h
    obtain rfl := fin_rep.mp ha
    refine ⟨_, (pss_cons (ps_if (pt_cmpR op_eq (pe_fld (pv 0) rfl) pe_int (nomark _))
    ((pss_one (ps_ret (pe_tup (pa_cons (pe_un un_neg (pe_ix ix_tup (pv 1) pe_int (fun _ _ => rfl))) (pa_cons (pe_ix ix_tup (pv 1) pe_int (fun _ _ => rfl)) pa_nil)))))) pss_nil)
    (pss_one (ps_ret (pe_op op_mod (pe_un un_neg (pv 1)) (pe_fld (pv 0) rfl))))), ?_⟩
    refine go_start (show _ = [some _, some _] from rfl) ?_
    walk_at "go"
    walk_at "prime"
    walk_at "go"
    rw [pF0]
    walk_at "go"
    walk_at "prime"
    refine g_I (by rw [pF]; exact npos) ?_
    exact q _ _ (Same.refl _) (fin_rep.mpr (by rw [fin_neg]; rfl))
theorem okF_is_number {C : Addr} (T : FgT K C) (F : C8.Fun K "is_number" "Figures.is_number" s_Figures_is_number f fd) (c_is_ratio : C8.Cal P w K mg base 2 "is_ratio" spIsRatio []) (c_is_whole3 : C8.Cal P w K mg base 1 "is_whole" spIsWhole []) :
    FnOk P w K mg base C8.CX0 3 f fd ["self", "thing"] (spFn (Fin n) C) := by
  refine C8.fn0 F sc_Figures_is_number (fun vs H Q E h => ?_) (fun cdv A outer s H vs Q E hr h => ?_)
  · obtain ⟨i, lo, rfl, _⟩ := h
    rfl
  · obtain ⟨fa, v, rfl, hF, h⟩ := h
    have hv : ∃ i b, v = .int i ∧ inB i (.int 0) (.int ((n : Int) - 1)) = b ∧ Q (.bl b) H := by
      rcases h with ⟨x, hx, q⟩ | ⟨rfl, q⟩
      · have := x.isLt
        refine ⟨_, _, fin_rep.mp hx, ?_, q⟩
        show (decide ((0 : Int) ≤ (x.val : Nat)) && decide (((x.val : Nat) : Int) ≤ (n : Int) - 1)) = true
        rw [decide_eq_true (by omega), decide_eq_true (by omega)]
        rfl
      · refine ⟨_, _, rfl, ?_, q⟩
        have e : badN (Fin n) = n := if_neg (NeZero.ne n)
        rw [e]
        show (decide ((0 : Int) ≤ n) && decide ((n : Int) ≤ (n : Int) - 1)) = false
        rw [decide_eq_false (by omega : ¬ (n : Int) ≤ (n : Int) - 1), Bool.and_false]
    obtain ⟨i, b, rfl, hb, q⟩ := hv
    refine ⟨_, (pss_cons (ps_if (pt_cmpR op_eq (pe_fld (pv 0) rfl) pe_int (nomark _))
    ((pss_one (ps_ret (C8.pe_c c_is_ratio hr (by decide) (by rfl) (pa_cons (pv 1) pa_nil))))) pss_nil)
    (pss_one (ps_ret (C8.pe_c c_is_whole3 hr (by decide) (by rfl) (pa_cons (pv 1) (pa_cons pe_int (pa_cons (pe_op op_sub (pe_fld (pv 0) rfl) pe_int) pa_nil))))))), ?_⟩
    refine go_start (show _ = [some _, some _] from rfl) ?_
    walk_at "go"
    walk_at "prime"
    walk_at "go"
    rw [pF0]
    walk_at "go"
    walk_at "prime"
    walk_at "go"
    rw [pF]
    refine ⟨_, _, _, rfl, .inr ⟨_, rfl⟩, .inr ⟨_, rfl⟩, ?_⟩
    rw [hb]
    exact q
/-- all rests, ascending -/
def spAll (C : Addr) : Sp := fun vs H Q _ => ∃ (fa : Addr), vs = [.ref fa] ∧ FigAt (Fin n) C H fa ∧ ∀ v H', Same H H' → TRep H' v (List.finRange n) → Q v H'
theorem reps_of {R : Type} [NumC R] {H : Hp} : ∀ {vs : List V} {xs : List R}, vs.length = xs.length → (∀ (i : Nat) (v : V) (x : R), vs[i]? = some v → xs[i]? = some x → Rep H v x) → Reps H vs xs
  | [], [], _, _ => .nil
  | v :: vs, x :: xs, hl, h => .cons (h 0 v x rfl rfl) (reps_of (by simpa using hl) fun i v x a b => h (i + 1) v x a b)
theorem reps_all {H : Hp} : Reps H (rgV 0 n) (List.finRange n) := by
  refine reps_of (by simp [rgV]) fun i v x hv hx => ?_
  rw [List.getElem?_eq_some_iff] at hx
  obtain ⟨hi, rfl⟩ := hx
  rw [rgV, List.getElem?_map] at hv
  have hi' : i < n := by simpa using hi
  have e : (List.range ((n : Int) - 0).toNat)[i]? = some i := by
    rw [List.getElem?_range (by omega)]
  rw [e] at hv
  have := (Option.some.inj hv).symm
  subst this
  refine fin_rep.mpr ?_
  simp
theorem okF_all {C : Addr} (hn : n ≤ 13) (T : FgT K C) (B : Bn mg) (F : C8.Fun K "all_numbers" "Figures.all_numbers" s_Figures_all_numbers f fd) : FnOk P w K mg base C8.CX0 1 f fd ["self"] (spAll (n := n) C) := by
  refine C8.fn0 F sc_Figures_all_numbers (fun vs H Q E h => ?_) (fun cdv A outer s H vs Q E hr h => ?_)
  · obtain ⟨i, rfl, _⟩ := h
    rfl
  · obtain ⟨fa, rfl, hF, q⟩ := h
    refine ⟨_, (pss_one (ps_ret (pe_tupRg rfl (by rfl) B.tuple_ (prg_1 (by rfl) B.range_ (pe_fld (pv 0) rfl))))), ?_⟩
    refine go_start (show _ = [some _] from rfl) ?_
    walk_at "go"
    refine ⟨_, rfl, ?_⟩
    walk_at "prime"
    refine ⟨_, rfl, ?_⟩
    rw [pF]
    refine ⟨⟨by omega, by omega, by omega, by omega, by omega⟩, fun p hp => ?_⟩
    exact q _ _ (same_new hp) ⟨p, _, rfl, upd_same, reps_all⟩
end
end
end Kw
set_option maxHeartbeats 4000000
namespace Kw
open PySem PySem.Spec PyProof.Rows L2 RT
local macro_rules | `(tactic| walk_at "step") => `(tactic| with_reducible first
  | refine g_op ?_ | refine g_c ?_ | refine g_test ?_ | refine g_bl ?_ | refine g_seq ?_ | refine g_ifS ?_ | refine g_cons ?_ | refine g_nil ?_ | refine g_I0 ?_ | refine g_asg ?_ | refine g_name ?_
  | refine g_ret ?_ | refine g_nx ?_ | refine g_cb ?_ | refine g_call ?_ | refine g_un ?_ | refine g_rU ?_ | refine g_B ?_ | refine g_and ?_ | refine g_or ?_ | refine g_not ?_ | refine g_andV ?_ | refine g_orV ?_
  | refine g_notV ?_ | refine g_ifE ?_ | refine g_drop ?_ | refine g_par ?_ | refine g_two ?_ | refine g_abs ?_ | refine g_mx ?_ | refine g_int ?_ | refine g_tup ?_ | refine g_lst ?_ | refine g_chain ?_
  | refine g_sl ?_ | refine g_nopart ?_ | refine g_part ?_ | refine g_partI ?_ | refine g_bm ?_ | refine g_sub ?_ | refine g_ip ?_ | refine g_make ?_ | refine g_forR1 ?_ | refine g_forR2 ?_ | refine g_forR3 ?_ | refine g_forL ?_ | refine g_forT ?_ | refine g_forV ?_ | refine g_forVR ?_ | refine g_forE ?_ | refine g_lcL ?_ | refine g_lcT ?_ | refine g_lcR1 ?_ | refine g_lcR2 ?_ | refine g_fld ?_ | refine g_meth ?_ | refine ite_t ?_ | refine ite_nt ?_ | refine ite_nf ?_ | refine g_eqi ?_ | refine g_nei ?_ | refine ite_f ?_ | refine g_isN_n ?_ | refine g_isN_i ?_ | refine g_isN_r ?_ | refine g_notN_n ?_ | refine g_notN_i ?_ | refine g_notN_r ?_ | refine g_isi_ib ?_ | refine g_isi_ii ?_ | refine g_isi_it ?_ | refine g_isi_nt ?_)
local macro_rules | `(tactic| walk_at "var") => `(tactic| ((with_reducible refine' g_var ?hvar ?_); (case hvar => rfl)))
local macro_rules | `(tactic| walk_at "fact") => `(tactic| first
  | ((with_reducible refine' g_ixT ?hfact ?hat ?_); (case hfact => assumption); (case hat => rfl))
  | ((with_reducible refine' g_ixL ?hfact ?hat ?_); (case hfact => assumption); (case hat => rfl)))
local macro_rules | `(tactic| walk_at "fact1") => `(tactic| first
  | ((with_reducible refine' g_lenT ?hfact ?_); (case hfact => assumption))
  | ((with_reducible refine' g_lenL ?hfact ?_); (case hfact => assumption))
  | ((with_reducible refine' g_isi_tt ?hfact ?_); (case hfact => assumption)))
local macro_rules | `(tactic| walk_at "go") => `(tactic| repeat (first | walk_at "step" | walk_at "var" | walk_at "fact" | walk_at "fact1"))
local macro_rules | `(tactic| walk_at "if") => `(tactic| with_reducible first | refine ite_d ?_ ?_ | refine ite_n ?_ ?_ | refine ite_b ?_ ?_)
local macro_rules | `(tactic| walk_at "prime") => `(tactic| refine fig_prime (by assumption) (by assumption) ?_)
local macro_rules | `(tactic| walk_at "zero") => `(tactic| refine fig_zero (by assumption) (by assumption) ?_)
local macro_rules | `(tactic| walk_at "one") => `(tactic| refine fig_one (by assumption) (by assumption) ?_)
local macro_rules | `(tactic| walk_at "meth") => `(tactic| refine fig_meth (by assumption) (by decide +kernel) ?_)
abbrev s_check_poly : Stmt := topS 25
theorem sc_check_poly : FnScope ["figures", "poly", "place", "number"] ["figures", "poly"] (C8.fnScope s_check_poly) := C8.fnScope_by (by decide +kernel)
abbrev s_without_zeros : Stmt := topS 26
theorem sc_without_zeros : FnScope ["figures", "numbers", "many"] ["figures", "numbers"] (C8.fnScope s_without_zeros) := C8.fnScope_by (by decide +kernel)
abbrev s_plain_over : Stmt := topS 27
theorem sc_plain_over : FnScope ["figures", "one", "other", "rest", "top", "quotient", "place", "factor", "by", "number"] ["figures", "one", "other"] (C8.fnScope s_plain_over) := C8.fnScope_by (by decide +kernel)
abbrev s_plain_led : Stmt := topS 28
theorem sc_plain_led : FnScope ["figures", "poly", "number"] ["figures", "poly"] (C8.fnScope s_plain_led) := C8.fnScope_by (by decide +kernel)
abbrev s_value_at : Stmt := topS 29
theorem sc_value_at : FnScope ["figures", "poly", "number", "total", "one"] ["figures", "poly", "number"] (C8.fnScope s_value_at) := C8.fnScope_by (by decide +kernel)
/-- a global int -/
def GI (mg : Str → Option Value) (x : Str) (i : Int) : Prop := ∃ u, mg x = some u ∧ RelV (.int i) u
section
variable {P : Program} {w : World} {K : PySem.W.Frag} {mg : Str → Option Value} {base : Heap} {f : Addr} {fd : FuncData}
/-- the figures' methods keep their promises -/
structure FgM (R : Type) [NumC R] (P : Program) (w : World) (K : PySem.W.Frag) (mg : Str → Option Value) (base : Heap) (C : Addr) : Prop where
  T : FgT K C
  h10 : (1 : R) ≠ 0
  c_plus : C8.Met P w K mg base 4 C "plus" (spF2 R C (fun x y => x + y)) []
  c_minus : C8.Met P w K mg base 5 C "minus" (spF2 R C (fun x y => x - y)) []
  c_times : C8.Met P w K mg base 4 C "times" (spF2 R C (fun x y => x * y)) []
  c_over : C8.Met P w K mg base 4 C "over" (spFo R C) []
  c_negative : C8.Met P w K mg base 1 C "negative" (spF1 R C (fun x => -x)) []
  c_is_number : C8.Met P w K mg base 3 C "is_number" (spFn R C) []
variable {R : Type} [NumC R] {C : Addr}
theorem reps_last {H : Hp} {vs : List V} {xs : List R} {c : R} (r : Reps H vs xs) (h : xs.getLast? = some c) : ∃ v, atI vs (-1) = some v ∧ Rep H v c := by
  have hp : 0 < xs.length := by
    cases xs with
    | nil => cases h
    | cons a t => simp
  rw [List.getLast?_eq_getElem?] at h
  obtain ⟨v, h1, h2⟩ := r.get h
  refine ⟨v, atI_last' ?_, h2⟩
  rw [List.getLast?_eq_getElem?, r.len]
  exact h1
theorem cut_to {xs : List V} {k : Nat} (h : k ≤ xs.length) : cutV xs none (some (k : Nat)) = xs.take k := by
  unfold cutV
  rw [HT.sIx_none, HT.sIx_nat]
  simp [Nat.min_eq_left h]
theorem Same.up {H H' : Hp} (e : Same H H') {p : Addr} {o : HO} (h : H' p = none) : Same H (upd H' p o) := e.trans (same_new h)
/-! ### check_poly -/
def spCheckPoly (R : Type) [NumC R] (C : Addr) : Sp := fun vs H Q _ => ∃ (fa : Addr) (v : V) (f : List R), vs = [.ref fa, v] ∧ FigAt R C H fa ∧ TRep H v f ∧ f.length ≤ 12 ∧ Led f ∧ ∀ H', Same H H' → Q v H'
theorem ok_check_poly (M : FgM R P w K mg base C) (B : Bn mg) (g_MOST_NUMBERS : GI mg "MOST_NUMBERS" 12) (F : C8.Fun K "check_poly" "check_poly" s_check_poly f fd) :
    FnOk P w K mg base C8.CX0 4 f fd ["figures", "poly"] (spCheckPoly R C) := by
  refine C8.fn0 F sc_check_poly (fun vs H Q E h => ?_) (fun cdv A outer s H vs Q E hr h => ?_)
  · obtain ⟨i, lo, x, rfl, _⟩ := h
    rfl
  · obtain ⟨fa, _, xs, rfl, hF, ⟨a, vs, rfl, ha, hv⟩, hl, ⟨c, hc, hc0⟩, q⟩ := h
    have T := M.T
    refine ⟨_, (pss_cons (ps_if (PW.pt (pw_or (pt_not (pt_val (pe_callB call_isiT (by rfl) B.isinstance_ (by decide +kernel) (pa_cons (pv 1) (pa_cons (pe_tup (pa_cons (pe_bltn (v := .ty "list") (by rfl) B.list_ (by decide +kernel) rfl) (pa_cons (pe_bltn (v := .ty "tuple") (by rfl) B.tuple_ (by decide +kernel) rfl) pa_nil))) pa_nil))))) (pw_or1 (pt_cmpR op_gt (pe_callB call_len_ (by rfl) B.len_ (by decide +kernel) (pa_cons (pv 1) pa_nil)) (C8.pe_gc (by rfl) g_MOST_NUMBERS) (nomark _)))))
    ((pss_one ps_never)) pss_nil)
    (pss_cons (ps_for PassesOwn.never rfl (pi_enumT (by rfl) B.enumerate_ (pa_cons (pv 1) pa_nil)) (pg_tup (n := 2) rfl (pgs_cons (pg_name (i := 2) sc_check_poly.nd rfl (by first | exact .inl rfl | exact .inr rfl)) (pgs_cons (pg_name (i := 3) sc_check_poly.nd rfl (by first | exact .inl rfl | exact .inr rfl)) pgs_nil)))
    ((pss_one (ps_if (pt_not (pt_val (C8.pe_mt M.c_is_number hr (by decide) (pv 0) (pa_cons (pv 3) pa_nil))))
    ((pss_one ps_never)) pss_nil))))
    (pss_cons (ps_if (PW.pt (pw_and (pt_cmpR op_gt (pe_callB call_len_ (by rfl) B.len_ (by decide +kernel) (pa_cons (pv 1) pa_nil)) pe_int (nomark _)) (pw_and1 (pt_cmpR (op_eqD hr.units) (pe_ix ix_tup (pv 1) (pe_un un_neg pe_int) (fun _ _ => rfl)) (pe_fld (pv 0) rfl) (nomark _)))))
    ((pss_one ps_never)) pss_nil)
    (pss_one (ps_ret (pe_callTy call_tuple_of_ (by rfl) B.tuple_ (by decide +kernel) (pa_cons (pv 1) pa_nil))))))), ?_⟩
    refine go_start (show _ = [some _, some _, none, none] from rfl) ?_
    walk_at "go"
    refine ⟨small5 (by decide), fun p hp => ?_⟩
    have e1 := same_new (o := HO.tup [V.ty "list", V.ty "tuple"]) hp
    have ha1 := e1 _ _ ha
    have hF1 := hF.up e1
    have hv1 := hv.up e1
    walk_at "go"
    refine g_isiT_t upd_same ha1 ?_
    walk_at "go"
    rw [decide_eq_false (by have := hv.len; omega)]
    walk_at "go"
    refine ⟨a, vs, rfl, .inr ⟨SqT.of ha1, lp_enumT (xs := vs) (fun _ σ' H' => ∃ x y, σ' = [some (.ref fa), some (.ref a), x, y] ∧ Same H H') ⟨_, _, rfl, e1⟩ (fun i σ' H' _ h => ?_) (fun i x T' σ' H' hx h hT => ?_) (fun σ' H' h => ?_)⟩⟩
    · obtain ⟨_, _, _, e⟩ := h
      exact SqT.of (e _ _ ha)
    · obtain ⟨_, _, rfl, e⟩ := h
      have e2 := Same.up (o := HO.tup [V.int (i : Nat), x]) e hT
      refine g_tup2 upd_same ?_
      walk_at "go"
      refine fig_meth (hF.up e2) (by decide +kernel) ?_
      walk_at "go"
      obtain ⟨y, _, hy⟩ := hv.get' hx
      refine ⟨fa, x, rfl, hF.up e2, .inl ⟨y, hy.up e2, ?_⟩⟩
      walk_at "go"
      exact ⟨_, _, rfl, e2⟩
    · obtain ⟨_, _, rfl, e⟩ := h
      have ha2 := e _ _ ha
      walk_at "go"
      have hp0 : 0 < vs.length := by
        rw [hv.len]
        exact Led.pos ⟨c, hc, hc0⟩
      rw [decide_eq_true (show (0 : Int) < vs.length by omega)]
      walk_at "go"
      obtain ⟨u, hu, hr2⟩ := reps_last (hv.up e) hc
      refine g_ixT ha2 hu ?_
      walk_at "go"
      refine fig_zero T (hF.up e) fun z hz => ?_
      refine g_eqR hr2 hz ?_
      rw [decide_eq_false hc0]
      walk_at "go"
      exact g_tupOfT ha2 (q _ e)
/-! ### without_zeros -/
/-- the first m numbers are kept -/
def TrimAt (xs : List R) (m : Nat) : Prop := m ≤ xs.length ∧ (∀ i, m ≤ i → i < xs.length → xs[i]? = some 0) ∧ (m = 0 ∨ ∃ c, xs[m - 1]? = some c ∧ c ≠ 0)
def spTrim (R : Type) [NumC R] (C : Addr) : Sp := fun vs H Q _ => ∃ (fa l : Addr) (xs : List R) (m : Nat), vs = [.ref fa, .ref l] ∧ FigAt R C H fa ∧ LRep H l xs ∧ xs.length ≤ 100 ∧ TrimAt xs m ∧ ∀ v H', Same H H' → TRep H' v (xs.take m) → Q v H'
theorem ok_without_zeros (M : FgM R P w K mg base C) (B : Bn mg) (F : C8.Fun K "without_zeros" "without_zeros" s_without_zeros f fd) :
    FnOk P w K mg base C8.CX0 1 f fd ["figures", "numbers"] (spTrim R C) := by
  refine C8.fn0 F sc_without_zeros (fun vs H Q E h => ?_) (fun cdv A outer s H vs Q E hr h => ?_)
  · obtain ⟨i, lo, x, m, rfl, _⟩ := h
    rfl
  · obtain ⟨fa, l, xs, m, rfl, hF, ⟨vs, hl, hv⟩, hz, ⟨hm, h0, h1⟩, q⟩ := h
    have T := M.T
    have hvl := hv.len
    refine ⟨_, (pss_cons (ps_set (i := 2) sc_without_zeros.nd rfl (by first | exact .inl rfl | exact .inr rfl) (pe_callB call_len_ (by rfl) B.len_ (by decide +kernel) (pa_cons (pv 1) pa_nil)))
    (pss_cons (ps_while PassesOwn.never (PW.pt (pw_and (pt_cmpR op_gt (pv 2) pe_int (nomark _)) (pw_and1 (pt_cmpR (op_eqD hr.units) (pe_ix ix_list (pv 1) (pe_op op_sub (pv 2) pe_int) (fun _ _ => rfl)) (pe_fld (pv 0) rfl) (nomark _)))))
    ((pss_one (ps_aug (i := 2) sc_without_zeros.nd rfl (.inl rfl) pe_int ip_sub))))
    (pss_one (ps_ret (pe_callTy call_tuple_of_ (by rfl) B.tuple_ (by decide +kernel) (pa_cons (pe_slice sl_list (pv 1) po_none (po_some (pv 2))) pa_nil)))))), ?_⟩
    refine go_start (show _ = [some _, some _, none] from rfl) ?_
    walk_at "go"
    refine g_while (fun k σ' H' => σ' = [some (.ref fa), some (.ref l), some (.int (k : Nat))] ∧ m ≤ k ∧ k ≤ vs.length ∧ H' = H) vs.length ⟨rfl, by omega, Nat.le_refl _, rfl⟩ ?_
    rintro k σ' H' ⟨rfl, hj1, hj2, rfl⟩
    have fin : k = m → ∀ p, H' p = none → ∀ t, upd H' p (.lst (cutV vs none (some (k : Nat)))) t = none → Q (.ref t) (upd (upd H' p (.lst (cutV vs none (some (k : Nat))))) t (.tup (cutV vs none (some (k : Nat))))) := by
      rintro rfl p hp t ht
      have e2 := Same.up (o := HO.tup (cutV vs none (some (k : Nat)))) (same_new (o := HO.lst (cutV vs none (some (k : Nat)))) hp) ht
      refine q _ _ e2 ⟨t, _, rfl, upd_same, ?_⟩
      have h2 := (hv.up e2).take k
      rw [cut_to (by omega)] at h2 ⊢
      exact h2
    walk_at "go"
    walk_at "if"
    · intro hc
      walk_at "go"
      have hk : k - 1 < xs.length := by omega
      obtain ⟨v, hv1, hv2⟩ := hv.get (List.getElem?_eq_getElem hk)
      refine g_ixLn (j := k - 1) hl (by omega) hv1 ?_
      walk_at "go"
      refine fig_zero T hF fun z hz => ?_
      refine g_eqR hv2 hz ?_
      walk_at "go"
      walk_at "if"
      · intro hx
        refine g_turn ?_
        refine g_aug rfl ?_
        walk_at "go"
        refine ⟨k - 1, by omega, ?_, ?_, by omega, rfl⟩
        · show [some (V.ref fa), some (V.ref l), some (V.int ((k : Nat) - 1))] = _
          rw [show ((k : Int) - 1) = ((k - 1 : Nat) : Int) by omega]
        · by_cases z : m ≤ k - 1
          · exact z
          · exfalso
            rcases h1 with h1 | ⟨c, h2, h3⟩
            · omega
            · have e : m = k := by omega
              rw [e, List.getElem?_eq_getElem hk] at h2
              exact h3 ((Option.some.inj h2).symm.trans hx)
      · intro hx
        walk_at "go"
        refine g_slL hl fun p hp => ?_
        walk_at "go"
        refine g_tupOfL upd_same fun t ht => fin ?_ p hp t ht
        by_cases z : m ≤ k - 1
        · have := h0 (k - 1) z hk
          rw [List.getElem?_eq_getElem hk] at this
          exact absurd (Option.some.inj this) hx
        · omega
    · intro hc
      walk_at "go"
      refine g_slL hl fun p hp => ?_
      walk_at "go"
      exact g_tupOfL upd_same fun t ht => fin (by omega) p hp t ht
end
end Kw
set_option maxHeartbeats 4000000
namespace Kw
open PySem PySem.Spec PyProof.Rows L2 RT
local macro_rules | `(tactic| walk_at "step") => `(tactic| with_reducible first
  | refine g_op ?_ | refine g_c ?_ | refine g_test ?_ | refine g_bl ?_ | refine g_seq ?_ | refine g_ifS ?_ | refine g_cons ?_ | refine g_nil ?_ | refine g_I0 ?_ | refine g_asg ?_ | refine g_name ?_
  | refine g_ret ?_ | refine g_nx ?_ | refine g_cb ?_ | refine g_call ?_ | refine g_un ?_ | refine g_rU ?_ | refine g_B ?_ | refine g_and ?_ | refine g_or ?_ | refine g_not ?_ | refine g_andV ?_ | refine g_orV ?_
  | refine g_notV ?_ | refine g_ifE ?_ | refine g_drop ?_ | refine g_par ?_ | refine g_two ?_ | refine g_abs ?_ | refine g_mx ?_ | refine g_int ?_ | refine g_tup ?_ | refine g_lst ?_ | refine g_chain ?_
  | refine g_sl ?_ | refine g_nopart ?_ | refine g_part ?_ | refine g_partI ?_ | refine g_bm ?_ | refine g_sub ?_ | refine g_ip ?_ | refine g_make ?_ | refine g_forR1 ?_ | refine g_forR2 ?_ | refine g_forR3 ?_ | refine g_forL ?_ | refine g_forT ?_ | refine g_forV ?_ | refine g_forVR ?_ | refine g_forE ?_ | refine g_lcL ?_ | refine g_lcT ?_ | refine g_lcR1 ?_ | refine g_lcR2 ?_ | refine g_fld ?_ | refine g_meth ?_ | refine ite_t ?_ | refine ite_nt ?_ | refine ite_nf ?_ | refine g_eqi ?_ | refine g_nei ?_ | refine ite_f ?_ | refine g_isN_n ?_ | refine g_isN_i ?_ | refine g_isN_r ?_ | refine g_notN_n ?_ | refine g_notN_i ?_ | refine g_notN_r ?_ | refine g_isi_ib ?_ | refine g_isi_ii ?_ | refine g_isi_it ?_ | refine g_isi_nt ?_)
local macro_rules | `(tactic| walk_at "var") => `(tactic| ((with_reducible refine' g_var ?hvar ?_); (case hvar => rfl)))
local macro_rules | `(tactic| walk_at "fact") => `(tactic| first
  | ((with_reducible refine' g_ixT ?hfact ?hat ?_); (case hfact => assumption); (case hat => rfl))
  | ((with_reducible refine' g_ixL ?hfact ?hat ?_); (case hfact => assumption); (case hat => rfl)))
local macro_rules | `(tactic| walk_at "fact1") => `(tactic| first
  | ((with_reducible refine' g_lenT ?hfact ?_); (case hfact => assumption))
  | ((with_reducible refine' g_lenL ?hfact ?_); (case hfact => assumption))
  | ((with_reducible refine' g_isi_tt ?hfact ?_); (case hfact => assumption)))
local macro_rules | `(tactic| walk_at "go") => `(tactic| repeat (first | walk_at "step" | walk_at "var" | walk_at "fact" | walk_at "fact1"))
local macro_rules | `(tactic| walk_at "if") => `(tactic| with_reducible first | refine ite_d ?_ ?_ | refine ite_n ?_ ?_ | refine ite_b ?_ ?_)
local macro_rules | `(tactic| walk_at "prime") => `(tactic| refine fig_prime (by assumption) (by assumption) ?_)
local macro_rules | `(tactic| walk_at "zero") => `(tactic| refine fig_zero (by assumption) (by assumption) ?_)
local macro_rules | `(tactic| walk_at "one") => `(tactic| refine fig_one (by assumption) (by assumption) ?_)
local macro_rules | `(tactic| walk_at "meth") => `(tactic| refine fig_meth (by assumption) (by decide +kernel) ?_)
section
variable {P : Program} {w : World} {K : PySem.W.Frag} {mg : Str → Option Value} {base : Heap} {f : Addr} {fd : FuncData}
variable {R : Type} [NumC R] {C : Addr}
theorem lt_lim {n : Nat} {x : R} (h : NumC.Bd n x) (hn : n ≤ 800) : NumC.Bd LIM x := NumC.bd_mono hn h
theorem lp_down {σ : L2.St} {H : Hp} {g : TG} {tb : TS} {D : Ends} {k : Int} (n : Nat) (hk : k = n) (Pv : Nat → L2.St → Hp → Prop) (h0 : Pv 0 σ H)
    (hs : ∀ i σ H, i < n → Pv i σ H → g (.int ((n - 1 - i : Nat) : Int)) σ H fun σ2 H2 => tb { D with nx := Pv (i + 1), ct := Pv (i + 1), bk := D.nx } σ2 H2)
    (hd : ∀ σ H, Pv n σ H → D.nx σ H) : Lp (Itc (0 + (((k - 0).toNat : Nat) : Int) - 1) (-1) (k - 0).toNat) g tb D σ H := by
  subst hk
  have e : ((n : Int) - 0).toNat = n := by omega
  rw [e]
  refine lp_rangeC Pv h0 (fun i σ H hi p => ?_) hd
  have h := hs i σ H hi p
  have e2 : (0 + (n : Int) - 1 + (i : Nat) * (-1)) = ((n - 1 - i : Nat) : Int) := by omega
  rw [e2]
  exact h
/-! ### plain_over by a straight factor -/
structure Fine (f : List R) (r : R) : Prop where
  led : Led f
  len : f.length ≤ 12
  br : NumC.Bd 1 r
  bf : Bds 700 f
  bv : ∀ k, NumC.Bd 700 (ev (f.drop k) r)
def spOver (R : Type) [NumC R] (C : Addr) : Sp := fun vs H Q _ => ∃ (fa : Addr) (v1 v2 : V) (g : List R) (r : R), vs = [.ref fa, v1, v2] ∧ FigAt R C H fa ∧ TRep H v1 g ∧ TRep H v2 [-r, 1] ∧ Fine g r ∧
  ∀ p H' vq vr, Same H H' → H' p = some (.tup [vq, vr]) → TRep H' vq (quot r g) → TRep H' vr (if ev g r = 0 then [] else [ev g r]) → Q (.ref p) H'
theorem ok_plain_over (M : FgM R P w K mg base C) (B : Bn mg) (c_without_zeros : C8.Cal P w K mg base 1 "without_zeros" (spTrim R C) []) (F : C8.Fun K "plain_over" "plain_over" s_plain_over f fd) :
    FnOk P w K mg base C8.CX0 6 f fd ["figures", "one", "other"] (spOver R C) := by
  refine C8.fn0 F sc_plain_over (fun vs H Q E h => ?_) (fun cdv A outer s H vs Q E hr h => ?_)
  · obtain ⟨i, lo, x, m, n, rfl, _⟩ := h
    rfl
  · obtain ⟨fa, _, _, g, r, rfl, hF, ⟨a1, vs1, rfl, ha1, hv1⟩, ⟨a2, vs2, rfl, ha2, hv2⟩, fine, q⟩ := h
    have T := M.T
    have hgl := fine.len
    have hgp := fine.led.pos
    have hl1 := hv1.len
    have hl2 : vs2.length = 2 := hv2.len
    refine ⟨_, (pss_cons (ps_set (i := 3) sc_plain_over.nd rfl (by first | exact .inl rfl | exact .inr rfl) (pe_callTy call_list_of_ (by rfl) B.list_ (by decide +kernel) (pa_cons (pv 1) pa_nil)))
    (pss_cons (ps_set (i := 4) sc_plain_over.nd rfl (by first | exact .inl rfl | exact .inr rfl) (pe_op op_sub (pe_callB call_len_ (by rfl) B.len_ (by decide +kernel) (pa_cons (pv 2) pa_nil)) pe_int))
    (pss_cons (ps_set (i := 5) sc_plain_over.nd rfl (by first | exact .inl rfl | exact .inr rfl) (pe_op op_rep (pe_lst (pa_cons (pe_fld (pv 0) rfl) pa_nil)) (pe_callB (call_max2_ rfl) (by rfl) B.max_ (by decide +kernel) (pa_cons pe_int (pa_cons (pe_op op_sub (pe_callB call_len_ (by rfl) B.len_ (by decide +kernel) (pa_cons (pv 1) pa_nil)) (pv 4)) pa_nil)))))
    (pss_cons (ps_for PassesOwn.never rfl (pi_revR (by rfl) B.reversed_ (prg_1 (by rfl) B.range_ (pe_callB call_len_ (by rfl) B.len_ (by decide +kernel) (pa_cons (pv 5) pa_nil)))) (pg_name (i := 6) sc_plain_over.nd rfl (by first | exact .inl rfl | exact .inr rfl))
    ((pss_cons (ps_set (i := 7) sc_plain_over.nd rfl (by first | exact .inl rfl | exact .inr rfl) (C8.pe_mt M.c_over hr (by decide) (pv 0) (pa_cons (pe_ix ix_list (pv 3) (pe_op op_add (pv 6) (pv 4)) (fun _ _ => rfl)) (pa_cons (pe_ix ix_tup (pv 2) (pe_un un_neg pe_int) (fun _ _ => rfl)) pa_nil))))
    (pss_cons (ps_asg (pv 7) (pg_sub (pv 5) (pv 6) set_list))
    (pss_cons (ps_if (pt_cmpR (op_eqD hr.units) (pv 7) (pe_fld (pv 0) rfl) (nomark _))
    ((pss_one ps_continue)) pss_nil)
    (pss_one (ps_for PassesOwn.never rfl (pi_enumT (by rfl) B.enumerate_ (pa_cons (pv 2) pa_nil)) (pg_tup (n := 2) rfl (pgs_cons (pg_name (i := 8) sc_plain_over.nd rfl (by first | exact .inl rfl | exact .inr rfl)) (pgs_cons (pg_name (i := 9) sc_plain_over.nd rfl (by first | exact .inl rfl | exact .inr rfl)) pgs_nil)))
    ((pss_one (ps_asg (C8.pe_mt M.c_minus hr (by decide) (pv 0) (pa_cons (pe_ix ix_list (pv 3) (pe_op op_add (pv 6) (pv 8)) (fun _ _ => rfl)) (pa_cons (C8.pe_mt M.c_times hr (by decide) (pv 0) (pa_cons (pv 7) (pa_cons (pv 9) pa_nil))) pa_nil))) (pg_sub (pv 3) (pe_op op_add (pv 6) (pv 8)) set_list)))))))))))
    (pss_one (ps_ret (pe_tup (pa_cons (C8.pe_c c_without_zeros hr (by decide) (by rfl) (pa_cons (pv 0) (pa_cons (pv 5) pa_nil))) (pa_cons (C8.pe_c c_without_zeros hr (by decide) (by rfl) (pa_cons (pv 0) (pa_cons (pv 3) pa_nil))) pa_nil))))))))), ?_⟩
    refine go_start (show _ = [some _, some _, some _, none, none, none, none, none, none, none] from rfl) ?_
    walk_at "go"
    -- rest = list(one)
    refine g_lstOfT ha1 fun l3 n3 => ?_
    have e1 := same_new (o := HO.lst vs1) n3
    have hl3 : upd H l3 (.lst vs1) l3 = some (.lst vs1) := upd_same
    walk_at "go"
    -- top
    refine g_lenT (e1 _ _ ha2) ?_
    walk_at "go"
    refine fig_zero T (hF.up e1) fun z hz => ?_
    walk_at "go"
    refine ⟨(by show 1 ≤ sizeLine; decide), fun l4 n4 => ?_⟩
    have e2 := Same.up (o := HO.lst [z]) e1 n4
    have hl4 : (upd (upd H l3 (.lst vs1)) l4 (.lst [z])) l4 = some (.lst [z]) := upd_same
    walk_at "go"
    refine g_lenT (e2 _ _ ha1) ?_
    walk_at "go"
    rw [show (if ((vs1.length : Nat) : Int) - ((vs2.length : Nat) - 1) > 0 then ((vs1.length : Nat) : Int) - ((vs2.length : Nat) - 1) else 0) = ((g.length - 1 : Nat) : Int) by split <;> omega,
      show (((vs2.length : Nat) : Int) - 1) = 1 by omega]
    refine g_rRep hl4 (by omega) (by omega) (Nat.le_refl _) fun l5 n5 => ?_
    rw [Int.toNat_natCast, flat_rep]
    have e3 := Same.up (o := HO.lst (List.replicate (g.length - 1) z)) e2 n5
    have n4' : H l4 = none := Same.free e1 n4
    have n5' : H l5 = none := Same.free e2 n5
    have hl3b := same_new (o := HO.lst (List.replicate (g.length - 1) z)) n5 _ _ (same_new (o := HO.lst [z]) n4 _ _ hl3)
    have hl5 : (upd (upd (upd H l3 (.lst vs1)) l4 (.lst [z])) l5 (.lst (List.replicate (g.length - 1) z))) l5 = some (.lst (List.replicate (g.length - 1) z)) := upd_same
    have ne35 : l3 ≠ l5 := ne_of_none (same_new (o := HO.lst [z]) n4 _ _ hl3) n5
    have hz3 := hz.up ((same_new (o := HO.lst [z]) n4).trans (same_new (o := HO.lst (List.replicate (g.length - 1) z)) n5))
    have hv3 := hv1.up e3
    generalize (upd (upd (upd H l3 (.lst vs1)) l4 (.lst [z])) l5 (.lst (List.replicate (g.length - 1) z))) = H3 at *
    walk_at "go"
    refine ⟨by decide, by decide, by rw [List.length_replicate]; omega, by rw [List.length_replicate]; omega, lp_down (g.length - 1) (by rw [List.length_replicate])
      (fun i σ' Hc => ∃ (vr vq : List V) (x6 x7 x8 x9 : Option V), σ' = [some (.ref fa), some (.ref a1), some (.ref a2), some (.ref l3), some (.int 1), some (.ref l5), x6, x7, x8, x9] ∧ Same H Hc ∧
        Hc l3 = some (.lst vr) ∧ Hc l5 = some (.lst vq) ∧ Reps Hc vr (rstL g r (g.length - 1 - i)) ∧ Reps Hc vq (quoL g r (g.length - 1 - i)))
      ⟨vs1, _, none, none, none, none, rfl, e3, hl3b, hl5, ?_, ?_⟩ (fun i σ' Hc hi h => ?_) (fun σ' Hc h => ?_)⟩
    · rw [Nat.sub_zero, rstL_top g r hgp]
      exact hv3
    · rw [Nat.sub_zero, quoL_top]
      exact Reps.rep hz3 _
    · obtain ⟨vr, vq, x6, x7, x8, x9, rfl, ec, hr3, hr5, rr, rq⟩ := h
      obtain ⟨j, hj⟩ : ∃ j, g.length - 1 - i = j + 1 := ⟨g.length - 1 - i - 1, by omega⟩
      rw [hj] at rr rq
      rw [show g.length - 1 - 1 - i = j by omega]
      walk_at "go"
      refine fig_meth (hF.up ec) (by decide +kernel) ?_
      walk_at "go"
      obtain ⟨u, hu, ru⟩ := rr.get (rstL_get g r (j + 1) (j + 1) (by omega))
      rw [if_neg (by omega), if_pos rfl] at ru
      refine g_ixLn (j := j + 1) hr3 (by omega) hu ?_
      walk_at "go"
      obtain ⟨o, ho, ro⟩ := reps_last (c := (1 : R)) (hv2.up ec) rfl
      refine g_ixT (ec _ _ ha2) ho ?_
      walk_at "go"
      refine ⟨fa, u, o, _, _, rfl, hF.up ec, ru, ro, lt_lim (fine.bv (j + 1)) (by decide), lt_lim NumC.bd_1 (by decide), M.h10, fun v H4 x0 e4 hv4 h1 => ?_⟩
      obtain rfl := h1 rfl
      have hr3b := e4 _ _ hr3
      have hr5b := e4 _ _ hr5
      have rrb := rr.up e4
      have rqb := rq.up e4
      have ec4 := ec.trans e4
      walk_at "go"
      -- quotient[place] = factor
      refine g_setL (j := j) hr5b rfl (by rw [rqb.len, quoL_len]; omega) ?_
      have i5 : Im H4 (upd H4 l5 (.lst (vq.set j v))) := im_upd hr5b
      have ec5 := same_mut (o := HO.lst (vq.set j v)) ec4 n5'
      have hr3c : (upd H4 l5 (.lst (vq.set j v))) l3 = some (.lst vr) := by rw [upd_ne ne35]; exact hr3b
      have hr5c : (upd H4 l5 (.lst (vq.set j v))) l5 = some (.lst (vq.set j v)) := upd_same
      have rrc := rrb.im i5
      have rqc : Reps (upd H4 l5 (.lst (vq.set j v))) (vq.set j v) (quoL g r j) := by
        have h := Reps.set (hv4.im i5) j (rqb.im i5)
        rw [quoL_step g r j (by omega)] at h
        exact h
      have hvc := hv4.im i5
      generalize (upd H4 l5 (.lst (vq.set j v))) = H5 at *
      walk_at "go"
      refine fig_zero T (hF.up ec5) fun z1 hz1 => ?_
      refine g_eqR hvc hz1 ?_
      walk_at "go"
      walk_at "if"
      · intro h0
        refine ⟨vr, _, _, _, _, _, rfl, ec5, hr3c, hr5c, ?_, ?_⟩
        · rw [rstL_same g r j (by omega) h0] at rrc
          rw [show g.length - 1 - (i + 1) = j by omega]
          exact rrc
        · rw [show g.length - 1 - (i + 1) = j by omega]
          exact rqc
      · intro h0
        walk_at "go"
        refine ⟨a2, vs2, rfl, .inr ⟨SqT.of (ec5 _ _ ha2), lp_enumT (xs := vs2) (fun k σ' Hd => ∃ (vd : List V) (x8 x9 : Option V), σ' = [some (.ref fa), some (.ref a1), some (.ref a2), some (.ref l3), some (.int 1), some (.ref l5), some (.int (j : Nat)), some v, x8, x9] ∧ Same H Hd ∧
          Hd l3 = some (.lst vd) ∧ Hd l5 = some (.lst (vq.set j v)) ∧ Im H5 Hd ∧ Reps Hd vd (innL g r j k))
          ⟨vr, _, _, rfl, ec5, hr3c, hr5c, Im.refl _, rrc⟩ (fun k σ' Hd _ h => ?_) (fun k x T' σ' Hd hx h hT => ?_) (fun σ' Hd h => ?_)⟩⟩
        · obtain ⟨_, _, _, _, e, _⟩ := h
          exact SqT.of (e _ _ ha2)
        · obtain ⟨vd, x8, x9, rfl, ed, h3, h5, imd, rd⟩ := h
          refine g_tup2 upd_same ?_
          have ee := same_new (o := HO.tup [V.int (k : Nat), x]) hT
          have ed6 := ed.trans ee
          have h36 := ee _ _ h3
          have h56 := ee _ _ h5
          have rd6 := rd.up ee
          have im6 := imd.trans (Same.im ee)
          generalize (upd Hd T' (.tup [V.int (k : Nat), x])) = H6 at *
          obtain ⟨y, hy, ry⟩ := (hv2.up ed6).get' hx
          have hvd := hvc.im im6
          obtain ⟨cur, hcur, hc1, hc2, hnext⟩ := innL_turn g r j k y (by omega) hy
          have hbc : NumC.Bd 700 cur := by
            rcases hc1 with e | e
            · rw [e, getD_get (by omega)]
              exact fine.bf _ (List.getElem_mem _)
            · rw [e]
              exact fine.bv _
          have hby : NumC.Bd 1 y := by
            rcases hc2 with e | e
            · rw [e]
              exact NumC.bd_neg fine.br
            · rw [e]
              exact NumC.bd_mono (Nat.zero_le _) NumC.bd_1
          walk_at "go"
          refine fig_meth (hF.up ed6) (by decide +kernel) ?_
          walk_at "go"
          obtain ⟨u2, hu2, ru2⟩ := rd6.get hcur
          refine g_ixLn (j := j + k) h36 (by omega) hu2 ?_
          walk_at "go"
          refine fig_meth (hF.up ed6) (by decide +kernel) ?_
          walk_at "go"
          refine ⟨fa, v, x, _, _, rfl, hF.up ed6, hvd, ry, lt_lim (fine.bv (j + 1)) (by decide), lt_lim hby (by decide), fun v7 H7 e7 hv7 => ?_⟩
          walk_at "go"
          refine ⟨fa, u2, v7, _, _, rfl, hF.up (ed6.trans e7), ru2.up e7, hv7, lt_lim hbc (by decide), lt_lim (NumC.bd_times (fine.bv (j + 1)) hby) (by decide), fun v8 H8 e8 hv8 => ?_⟩
          walk_at "go"
          have e78 := e7.trans e8
          refine g_setL (j := j + k) (e78 _ _ h36) (by omega) (by rw [rd6.len]; exact (List.getElem?_eq_some_iff.mp hcur).1) ?_
          have i8 : Im H8 (upd H8 l3 (.lst (vd.set (j + k) v8))) := im_upd (e78 _ _ h36)
          refine ⟨_, _, _, rfl, same_mut (ed6.trans e78) n3, upd_same, ?_, im6.trans ((Same.im e78).trans i8), ?_⟩
          · rw [upd_ne ne35.symm]
            exact e78 _ _ h56
          · rw [← hnext]
            exact Reps.set (hv8.im i8) (j + k) ((rd6.up e78).im i8)
        · obtain ⟨vd, x8, x9, rfl, ed, h3, h5, imd, rd⟩ := h
          rw [hl2] at rd
          walk_at "go"
          refine ⟨vd, _, _, _, _, _, rfl, ed, h3, h5, ?_, ?_⟩
          · rw [show g.length - 1 - (i + 1) = j by omega]
            exact rd
          · rw [show g.length - 1 - (i + 1) = j by omega]
            exact rqc.im imd
    · obtain ⟨vr, vq, x6, x7, x8, x9, rfl, ec, hr3, hr5, rr, rq⟩ := h
      rw [Nat.sub_self] at rr rq
      rw [quoL_end] at rq
      walk_at "go"
      refine ⟨fa, l5, quot r g, (quot r g).length, rfl, hF.up ec, ⟨vq, hr5, rq⟩, by rw [quot_len]; omega, ⟨Nat.le_refl _, fun k h1 h2 => absurd h2 (by omega), ?_⟩, fun v1 H1 e1' hv1' => ?_⟩
      · by_cases h2 : 2 ≤ g.length
        · obtain ⟨c, hc, hc0⟩ := quot_led fine.led h2 (r := r)
          rw [List.getLast?_eq_getElem?] at hc
          exact .inr ⟨c, hc, hc0⟩
        · exact .inl (by rw [quot_len]; omega)
      · rw [List.take_length] at hv1'
        walk_at "go"
        obtain ⟨he0, he1⟩ := rstL_end g r hgp
        by_cases h0 : ev g r = 0
        · refine ⟨fa, l3, rstL g r 0, 0, rfl, hF.up (ec.trans e1'), ⟨vr, e1' _ _ hr3, rr.up e1'⟩, by rw [rstL_len]; omega, ⟨Nat.zero_le _, fun k _ hk => ?_, .inl rfl⟩, fun v2 H2 e2' hv2' => ?_⟩
          · by_cases hk0 : 0 < k
            · exact he1 k hk0 (by rw [rstL_len] at hk; exact hk)
            · have : k = 0 := by omega
              rw [this, he0, h0]
          · walk_at "go"
            refine ⟨(by show 2 ≤ sizeLine; decide), fun p hp => ?_⟩
            have e3' := same_new (o := HO.tup [v1, v2]) hp
            refine q p _ v1 v2 ((ec.trans (e1'.trans e2')).trans e3') upd_same (hv1'.up (e2'.trans e3')) ?_
            rw [if_pos h0]
            exact hv2'.up e3'
        · refine ⟨fa, l3, rstL g r 0, 1, rfl, hF.up (ec.trans e1'), ⟨vr, e1' _ _ hr3, rr.up e1'⟩, by rw [rstL_len]; omega, ⟨by rw [rstL_len]; omega, fun k h1 hk => he1 k (by omega) (by rw [rstL_len] at hk; exact hk), .inr ⟨_, he0, h0⟩⟩, fun v2 H2 e2' hv2' => ?_⟩
          walk_at "go"
          refine ⟨(by show 2 ≤ sizeLine; decide), fun p hp => ?_⟩
          have e3' := same_new (o := HO.tup [v1, v2]) hp
          refine q p _ v1 v2 ((ec.trans (e1'.trans e2')).trans e3') upd_same (hv1'.up (e2'.trans e3')) ?_
          rw [if_neg h0]
          have e4' : (rstL g r 0).take 1 = [ev g r] := by
            cases hq : rstL g r 0 with
            | nil =>
              rw [hq] at he0
              cases he0
            | cons a t =>
              rw [hq] at he0
              rw [Option.some.inj he0]
              rfl
          rw [e4'] at hv2'
          exact hv2'.up e3'
end
end Kw
set_option maxHeartbeats 4000000
namespace Kw
open PySem PySem.Spec PyProof.Rows L2 RT
local macro_rules | `(tactic| walk_at "step") => `(tactic| with_reducible first
  | refine g_op ?_ | refine g_c ?_ | refine g_test ?_ | refine g_bl ?_ | refine g_seq ?_ | refine g_ifS ?_ | refine g_cons ?_ | refine g_nil ?_ | refine g_I0 ?_ | refine g_asg ?_ | refine g_name ?_
  | refine g_ret ?_ | refine g_nx ?_ | refine g_cb ?_ | refine g_call ?_ | refine g_un ?_ | refine g_rU ?_ | refine g_B ?_ | refine g_and ?_ | refine g_or ?_ | refine g_not ?_ | refine g_andV ?_ | refine g_orV ?_
  | refine g_notV ?_ | refine g_ifE ?_ | refine g_drop ?_ | refine g_par ?_ | refine g_two ?_ | refine g_abs ?_ | refine g_mx ?_ | refine g_int ?_ | refine g_tup ?_ | refine g_lst ?_ | refine g_chain ?_
  | refine g_sl ?_ | refine g_nopart ?_ | refine g_part ?_ | refine g_partI ?_ | refine g_bm ?_ | refine g_sub ?_ | refine g_ip ?_ | refine g_make ?_ | refine g_forR1 ?_ | refine g_forR2 ?_ | refine g_forR3 ?_ | refine g_forL ?_ | refine g_forT ?_ | refine g_forV ?_ | refine g_forVR ?_ | refine g_forE ?_ | refine g_lcL ?_ | refine g_lcT ?_ | refine g_lcR1 ?_ | refine g_lcR2 ?_ | refine g_fld ?_ | refine g_meth ?_ | refine ite_t ?_ | refine ite_nt ?_ | refine ite_nf ?_ | refine g_eqi ?_ | refine g_nei ?_ | refine ite_f ?_ | refine g_isN_n ?_ | refine g_isN_i ?_ | refine g_isN_r ?_ | refine g_notN_n ?_ | refine g_notN_i ?_ | refine g_notN_r ?_ | refine g_isi_ib ?_ | refine g_isi_ii ?_ | refine g_isi_it ?_ | refine g_isi_nt ?_)
local macro_rules | `(tactic| walk_at "var") => `(tactic| ((with_reducible refine' g_var ?hvar ?_); (case hvar => rfl)))
local macro_rules | `(tactic| walk_at "fact") => `(tactic| first
  | ((with_reducible refine' g_ixT ?hfact ?hat ?_); (case hfact => assumption); (case hat => rfl))
  | ((with_reducible refine' g_ixL ?hfact ?hat ?_); (case hfact => assumption); (case hat => rfl)))
local macro_rules | `(tactic| walk_at "fact1") => `(tactic| first
  | ((with_reducible refine' g_lenT ?hfact ?_); (case hfact => assumption))
  | ((with_reducible refine' g_lenL ?hfact ?_); (case hfact => assumption))
  | ((with_reducible refine' g_isi_tt ?hfact ?_); (case hfact => assumption)))
local macro_rules | `(tactic| walk_at "go") => `(tactic| repeat (first | walk_at "step" | walk_at "var" | walk_at "fact" | walk_at "fact1"))
local macro_rules | `(tactic| walk_at "if") => `(tactic| with_reducible first | refine ite_d ?_ ?_ | refine ite_n ?_ ?_ | refine ite_b ?_ ?_)
local macro_rules | `(tactic| walk_at "prime") => `(tactic| refine fig_prime (by assumption) (by assumption) ?_)
local macro_rules | `(tactic| walk_at "zero") => `(tactic| refine fig_zero (by assumption) (by assumption) ?_)
local macro_rules | `(tactic| walk_at "one") => `(tactic| refine fig_one (by assumption) (by assumption) ?_)
local macro_rules | `(tactic| walk_at "meth") => `(tactic| refine fig_meth (by assumption) (by decide +kernel) ?_)
abbrev s_Parts___init__ : Stmt := inClass (topS 31) 0
theorem sc_Parts___init__ : FnScope ["self", "lead", "roots", "rest"] ["self", "lead", "roots", "rest"] (C8.fnScope s_Parts___init__) := C8.fnScope_by (by decide +kernel)
abbrev s_check_not_zero : Stmt := topS 32
theorem sc_check_not_zero : FnScope ["figures", "poly", "checked"] ["figures", "poly"] (C8.fnScope s_check_not_zero) := C8.fnScope_by (by decide +kernel)
abbrev s_plain_roots : Stmt := topS 40
theorem sc_plain_roots : FnScope ["figures", "poly", "number"] ["figures", "poly"] (C8.fnScope s_plain_roots) := C8.fnScope_by (by decide +kernel)
abbrev s_divided_out : Stmt := topS 41
theorem sc_divided_out : FnScope ["figures", "poly", "root", "straight", "times", "kept", "quotient", "rest"] ["figures", "poly", "root"] (C8.fnScope s_divided_out) := C8.fnScope_by (by decide +kernel)
abbrev s_parts_of : Stmt := topS 42
theorem sc_parts_of : FnScope ["figures", "poly", "kept", "lead", "told", "root", "times"] ["figures", "poly"] (C8.fnScope s_parts_of) := C8.fnScope_by (by decide +kernel)
section
variable {P : Program} {w : World} {K : PySem.W.Frag} {mg : Str → Option Value} {base : Heap} {f : Addr} {fd : FuncData}
variable {R : Type} [NumC R] {C : Addr}
/-! ### plain_led: told by its length alone -/
def spLed (R : Type) [NumC R] (C : Addr) : Sp := fun vs H Q _ => ∃ (fa : Addr) (v : V) (g : List R), vs = [.ref fa, v] ∧ FigAt R C H fa ∧ TRep H v g ∧ g.length ≤ 12 ∧ Led g ∧ Bds LIM g ∧ ∀ a us H', Same H H' → H' a = some (.tup us) → us.length = g.length → Q (.ref a) H'
theorem ok_plain_led (M : FgM R P w K mg base C) (B : Bn mg) (F : C8.Fun K "plain_led" "plain_led" s_plain_led f fd) :
    FnOk P w K mg base C8.CX0 5 f fd ["figures", "poly"] (spLed R C) := by
  refine C8.fn0 F sc_plain_led (fun vs H Q E h => ?_) (fun cdv A outer s H vs Q E hr h => ?_)
  · obtain ⟨i, lo, x, rfl, _⟩ := h
    rfl
  · obtain ⟨fa, _, g, rfl, hF, ⟨a, vs, rfl, ha, hv⟩, hl, ⟨c, hc, hc0⟩, hb, q⟩ := h
    have T := M.T
    have hp0 : 0 < g.length := Led.pos ⟨c, hc, hc0⟩
    refine ⟨_, (pss_cons (ps_if (PW.pt (pw_or (pt_cmpR (op_eqD hr.units) (pv 1) (pe_tup pa_nil) (nomark _)) (pw_or1 (pt_cmpR (op_eqD hr.units) (pe_ix ix_tup (pv 1) (pe_un un_neg pe_int) (fun _ _ => rfl)) (pe_fld (pv 0) rfl) (nomark _)))))
    ((pss_one (ps_ret (pv 1)))) pss_nil)
    (pss_one (ps_ret (pe_callTy call_tuple_of_ (by rfl) B.tuple_ (by decide +kernel) (pa_cons (pe_lc (own := [("number", 2)]) rfl sc_plain_led.nd (pi_tup (pv 1)) (blkOk_by (own := [("number", 2)]) (N := ["figures", "poly", "number"]) (sc := C8.fnScope s_plain_led) (by decide +kernel)) (fun _ _ _ _ _ => (pg_name (i := 2) sc_plain_led.nd rfl (by first | exact .inl rfl | exact .inr rfl))) (fun _ _ _ _ _ => pts_nil) (fun _ _ _ _ _ => (C8.pe_mt M.c_over hr (by decide) (pv 0) (pa_cons (pv 2) (pa_cons (pe_ix (ix_tupK (K := K)) (pv 1) (pe_un un_neg pe_int) (fun _ _ => rfl)) pa_nil))))) pa_nil))))), ?_⟩
    refine go_start (show _ = [some _, some _, none] from rfl) ?_
    walk_at "go"
    refine ⟨(by show 0 ≤ sizeLine; decide), fun p hp => ?_⟩
    have e1 := same_new (o := HO.tup []) hp
    refine g_eqNil (e1 _ _ ha) (hv.up e1) upd_same ?_
    rw [show g.isEmpty = false by cases g with | nil => cases hc | cons a t => rfl]
    walk_at "go"
    obtain ⟨u, hu, ru⟩ := reps_last (hv.up e1) hc
    refine g_ixT (e1 _ _ ha) hu ?_
    walk_at "go"
    refine fig_one T (hF.up e1) fun o ho => ?_
    refine g_eqR ru ho ?_
    walk_at "go"
    walk_at "if"
    · intro _
      walk_at "go"
      exact q a vs _ e1 (e1 _ _ ha) hv.len
    · intro hne
      walk_at "go"
      refine ⟨a, rfl, ⟨vs, SqT.of (e1 _ _ ha)⟩, fun Dl hD => lc_wordT (fun i ys _ => i ≤ vs.length ∧ ys.length = i) (e1 _ _ ha) (fun _ _ _ _ h _ => h) (fun i ys _ h => by have := hv.len; omega) hD ⟨Nat.zero_le _, rfl⟩ (fun i x ys Hc hx ec h => ?_) (fun ys Hc ec hys h => ?_)⟩
      · intro Qk Qn hk hn
        have e2 := e1.trans ec
        have hi := (List.getElem?_eq_some_iff.mp hx).1
        walk_at "go"
        refine ⟨rfl, g_yes (ite_t ?_)⟩
        walk_at "go"
        refine fig_meth (hF.up e2) (by decide +kernel) ?_
        walk_at "go"
        obtain ⟨u2, hu2, ru2⟩ := reps_last (hv.up e2) hc
        refine g_ixT (e2 _ _ ha) hu2 ?_
        walk_at "go"
        obtain ⟨y, hy, ry⟩ := (hv.up e2).get' hx
        have hmem : y ∈ g := List.mem_of_getElem? hy
        have hmc : c ∈ g := by
          rw [List.getLast?_eq_getElem?] at hc
          exact List.mem_of_getElem? hc
        refine ⟨fa, x, u2, y, c, rfl, hF.up e2, ry, ru2, hb _ hmem, hb _ hmc, hc0, fun v H2 z e3 hz _ => ?_⟩
        exact hk _ _ e3 ⟨hi, by rw [List.length_append, h.2]; rfl⟩
      · walk_at "go"
        refine g_tupOfL hys fun l hl => ?_
        exact q l ys _ (Same.up (e1.trans ec) hl) upd_same (h.2.trans hv.len)
end
end Kw
set_option maxHeartbeats 4000000
namespace Kw
open PySem PySem.Spec PyProof.Rows L2 RT
local macro_rules | `(tactic| walk_at "step") => `(tactic| with_reducible first
  | refine g_op ?_ | refine g_c ?_ | refine g_test ?_ | refine g_bl ?_ | refine g_seq ?_ | refine g_ifS ?_ | refine g_cons ?_ | refine g_nil ?_ | refine g_I0 ?_ | refine g_asg ?_ | refine g_name ?_
  | refine g_ret ?_ | refine g_nx ?_ | refine g_cb ?_ | refine g_call ?_ | refine g_un ?_ | refine g_rU ?_ | refine g_B ?_ | refine g_and ?_ | refine g_or ?_ | refine g_not ?_ | refine g_andV ?_ | refine g_orV ?_
  | refine g_notV ?_ | refine g_ifE ?_ | refine g_drop ?_ | refine g_par ?_ | refine g_two ?_ | refine g_abs ?_ | refine g_mx ?_ | refine g_int ?_ | refine g_tup ?_ | refine g_lst ?_ | refine g_chain ?_
  | refine g_sl ?_ | refine g_nopart ?_ | refine g_part ?_ | refine g_partI ?_ | refine g_bm ?_ | refine g_sub ?_ | refine g_ip ?_ | refine g_make ?_ | refine g_forR1 ?_ | refine g_forR2 ?_ | refine g_forR3 ?_ | refine g_forL ?_ | refine g_forT ?_ | refine g_forV ?_ | refine g_forVR ?_ | refine g_forE ?_ | refine g_lcL ?_ | refine g_lcT ?_ | refine g_lcR1 ?_ | refine g_lcR2 ?_ | refine g_fld ?_ | refine g_meth ?_ | refine ite_t ?_ | refine ite_nt ?_ | refine ite_nf ?_ | refine g_eqi ?_ | refine g_nei ?_ | refine ite_f ?_ | refine g_isN_n ?_ | refine g_isN_i ?_ | refine g_isN_r ?_ | refine g_notN_n ?_ | refine g_notN_i ?_ | refine g_notN_r ?_ | refine g_isi_ib ?_ | refine g_isi_ii ?_ | refine g_isi_it ?_ | refine g_isi_nt ?_)
local macro_rules | `(tactic| walk_at "var") => `(tactic| ((with_reducible refine' g_var ?hvar ?_); (case hvar => rfl)))
local macro_rules | `(tactic| walk_at "fact") => `(tactic| first
  | ((with_reducible refine' g_ixT ?hfact ?hat ?_); (case hfact => assumption); (case hat => rfl))
  | ((with_reducible refine' g_ixL ?hfact ?hat ?_); (case hfact => assumption); (case hat => rfl)))
local macro_rules | `(tactic| walk_at "fact1") => `(tactic| first
  | ((with_reducible refine' g_lenT ?hfact ?_); (case hfact => assumption))
  | ((with_reducible refine' g_lenL ?hfact ?_); (case hfact => assumption))
  | ((with_reducible refine' g_isi_tt ?hfact ?_); (case hfact => assumption)))
local macro_rules | `(tactic| walk_at "go") => `(tactic| repeat (first | walk_at "step" | walk_at "var" | walk_at "fact" | walk_at "fact1"))
local macro_rules | `(tactic| walk_at "if") => `(tactic| with_reducible first | refine ite_d ?_ ?_ | refine ite_n ?_ ?_ | refine ite_b ?_ ?_)
local macro_rules | `(tactic| walk_at "prime") => `(tactic| refine fig_prime (by assumption) (by assumption) ?_)
local macro_rules | `(tactic| walk_at "zero") => `(tactic| refine fig_zero (by assumption) (by assumption) ?_)
local macro_rules | `(tactic| walk_at "one") => `(tactic| refine fig_one (by assumption) (by assumption) ?_)
local macro_rules | `(tactic| walk_at "meth") => `(tactic| refine fig_meth (by assumption) (by decide +kernel) ?_)
section
variable {P : Program} {w : World} {K : PySem.W.Frag} {mg : Str → Option Value} {base : Heap} {f : Addr} {fd : FuncData}
variable {R : Type} [NumC R] {C : Addr}
theorem ok_check_not_zero (M : FgM R P w K mg base C) (c_check_poly : C8.Cal P w K mg base 4 "check_poly" (spCheckPoly R C) []) (F : C8.Fun K "check_not_zero" "check_not_zero" s_check_not_zero f fd) :
    FnOk P w K mg base C8.CX0 5 f fd ["figures", "poly"] (spCheckPoly R C) := by
  refine C8.fn0 F sc_check_not_zero (fun vs H Q E h => ?_) (fun cdv A outer s H vs Q E hr h => ?_)
  · obtain ⟨i, lo, x, rfl, _⟩ := h
    rfl
  · obtain ⟨fa, _, g, rfl, hF, ⟨a, vs, rfl, ha, hv⟩, hl, hled, q⟩ := h
    refine ⟨_, (pss_cons (ps_set (i := 2) sc_check_not_zero.nd rfl (by first | exact .inl rfl | exact .inr rfl) (C8.pe_c c_check_poly hr (by decide) (by rfl) (pa_cons (pv 0) (pa_cons (pv 1) pa_nil))))
    (pss_cons (ps_if (pt_cmpR (op_eqD hr.units) (pv 2) (pe_tup pa_nil) (nomark _))
    ((pss_one ps_never)) pss_nil)
    (pss_one (ps_ret (pv 2))))), ?_⟩
    refine go_start (show _ = [some _, some _, none] from rfl) ?_
    walk_at "go"
    refine ⟨fa, _, g, rfl, hF, ⟨a, vs, rfl, ha, hv⟩, hl, hled, fun H1 e1 => ?_⟩
    walk_at "go"
    refine ⟨(by show 0 ≤ sizeLine; decide), fun p hp => ?_⟩
    have e2 := Same.up (o := HO.tup []) e1 hp
    refine g_eqNil (e2 _ _ ha) (hv.up e2) upd_same ?_
    rw [show g.isEmpty = false by cases g with | nil => exact absurd hled.pos (by simp) | cons a t => rfl]
    walk_at "go"
    exact q _ e2
/-! ### value_at -/
def spValue (R : Type) [NumC R] (C : Addr) : Sp := fun vs H Q _ => ∃ (fa : Addr) (v x : V) (g : List R) (r : R), vs = [.ref fa, v, x] ∧ FigAt R C H fa ∧ TRep H v g ∧ Rep H x r ∧ Fine g r ∧ ∀ v' H', Same H H' → Rep H' v' (ev g r) → Q v' H'
theorem ok_value_at (M : FgM R P w K mg base C) (B : Bn mg) (c_check_poly : C8.Cal P w K mg base 4 "check_poly" (spCheckPoly R C) []) (F : C8.Fun K "value_at" "value_at" s_value_at f fd) :
    FnOk P w K mg base C8.CX0 5 f fd ["figures", "poly", "number"] (spValue R C) := by
  refine C8.fn0 F sc_value_at (fun vs H Q E h => ?_) (fun cdv A outer s H vs Q E hr h => ?_)
  · obtain ⟨i, lo, x, y, z, rfl, _⟩ := h
    rfl
  · obtain ⟨fa, _, vx, g, r, rfl, hF, ⟨a, vs, rfl, ha, hv⟩, hx, fine, q⟩ := h
    have T := M.T
    have hvl := hv.len
    refine ⟨_, (pss_cons (ps_set (i := 3) sc_value_at.nd rfl (by first | exact .inl rfl | exact .inr rfl) (pe_fld (pv 0) rfl))
    (pss_cons (ps_for PassesOwn.never rfl (pi_revA (by rfl) B.reversed_ (C8.pe_c c_check_poly hr (by decide) (by rfl) (pa_cons (pv 0) (pa_cons (pv 1) pa_nil)))) (pg_name (i := 4) sc_value_at.nd rfl (by first | exact .inl rfl | exact .inr rfl))
    ((pss_one (ps_set (i := 3) sc_value_at.nd rfl (by first | exact .inl rfl | exact .inr rfl) (C8.pe_mt M.c_plus hr (by decide) (pv 0) (pa_cons (C8.pe_mt M.c_times hr (by decide) (pv 0) (pa_cons (pv 3) (pa_cons (pv 2) pa_nil))) (pa_cons (pv 4) pa_nil)))))))
    (pss_one (ps_ret (pv 3))))), ?_⟩
    refine go_start (show _ = [some _, some _, some _, none, none] from rfl) ?_
    walk_at "go"
    refine fig_zero T hF fun z hz => ?_
    walk_at "go"
    refine ⟨fa, _, g, rfl, hF, ⟨a, vs, rfl, ha, hv⟩, fine.len, fine.led, fun H1 e1 => ?_⟩
    refine ⟨a, vs, rfl, .inr ⟨SqT.of (e1 _ _ ha), lp_revT (fun i σ' Hc => ∃ (t : V) (x4 : Option V), σ' = [some (.ref fa), some (.ref a), some vx, some t, x4] ∧ Same H Hc ∧ Rep Hc t (ev (g.drop (g.length - i)) r)) ⟨z, none, rfl, e1, ?_⟩ (fun i σ' Hc h => ?_) (fun i x σ' Hc hi hxi h => ?_) (fun σ' Hc h => ?_)⟩⟩
    · rw [Nat.sub_zero, List.drop_length]
      exact hz.up e1
    · obtain ⟨_, _, _, e, _⟩ := h
      exact SqT.of (e _ _ ha)
    · obtain ⟨t, x4, rfl, ec, rt⟩ := h
      walk_at "go"
      refine fig_meth (hF.up ec) (by decide +kernel) ?_
      walk_at "go"
      refine fig_meth (hF.up ec) (by decide +kernel) ?_
      walk_at "go"
      refine ⟨fa, t, vx, _, r, rfl, hF.up ec, rt, hx.up ec, lt_lim (fine.bv _) (by decide), lt_lim fine.br (by decide), fun v2 H2 e2 h2 => ?_⟩
      walk_at "go"
      obtain ⟨y, hy, ry⟩ := (hv.up (ec.trans e2)).get' hxi
      have hmem : y ∈ g := List.mem_of_getElem? hy
      refine ⟨fa, v2, x, _, y, rfl, hF.up (ec.trans e2), h2, ry, lt_lim (NumC.bd_times (fine.bv _) fine.br) (by decide), lt_lim (fine.bf _ hmem) (by decide), fun v3 H3 e3 h3 => ?_⟩
      walk_at "go"
      refine ⟨v3, _, rfl, ec.trans (e2.trans e3), ?_⟩
      have hj : g.length - (i + 1) < g.length := by omega
      rw [ev_drop g r (g.length - (i + 1)) y (by rw [← hy, ← hvl]; congr 1; omega), show g.length - (i + 1) + 1 = g.length - i by omega]
      exact h3
    · obtain ⟨t, x4, rfl, ec, rt⟩ := h
      walk_at "go"
      rw [hvl, Nat.sub_self, List.drop_zero] at rt
      exact q _ _ ec rt
/-! ### divided_out -/
def spDiv (R : Type) [NumC R] (C : Addr) : Sp := fun vs H Q _ => ∃ (fa : Addr) (v x : V) (g : List R) (r : R) (n : Nat), vs = [.ref fa, v, x] ∧ FigAt R C H fa ∧ TRep H v g ∧ Rep H x r ∧ Led g ∧ g.length ≤ 12 ∧ NumC.Bd 1 r ∧ Bds n g ∧ n ≤ 412 ∧
  ∀ p vk H', Same H H' → H' p = some (.tup [vk, .int ((divOut r g.length g).2 : Nat)]) → TRep H' vk (divOut r g.length g).1 → Q (.ref p) H'
theorem fine_of {g : List R} {r : R} {n : Nat} (h1 : Led g) (h2 : g.length ≤ 12) (h3 : NumC.Bd 1 r) (h4 : Bds n g) (hn : n ≤ 676) : Fine g r :=
  ⟨h1, h2, h3, bds_mono (by omega) h4, fun k => NumC.bd_mono (by omega) (bd_ev_drop h3 h2 h4 k)⟩
theorem divOut_step {r : R} {k : List R} {m : Nat} (hm : k.length = m + 1) (h0 : ev k r = 0) (hl : Led k) : 2 ≤ k.length ∧ (quot r k).length = m ∧ (divOut r k.length k).1 = (divOut r (quot r k).length (quot r k)).1 ∧ (divOut r k.length k).2 = (divOut r (quot r k).length (quot r k)).2 + 1 := by
  have h2 : 2 ≤ k.length := by
    by_cases h1 : k.length = 1
    · exact absurd h0 (led_one hl h1)
    · have := hl.pos
      omega
  have hq : (quot r k).length = m := by rw [quot_len]; omega
  refine ⟨h2, hq, ?_, ?_⟩
  · rw [hm, hq]
    show (if ev k r = 0 then _ else _ : List R × Nat).1 = _
    rw [if_pos h0]
  · rw [hm, hq]
    show (if ev k r = 0 then _ else _ : List R × Nat).2 = _
    rw [if_pos h0]
theorem divOut_stop {r : R} {k : List R} (h0 : ev k r ≠ 0) : divOut r k.length k = (k, 0) := by
  cases hk : k.length with
  | zero => rfl
  | succ m =>
    show (if ev k r = 0 then _ else _) = _
    rw [if_neg h0]
theorem ok_divided_out (M : FgM R P w K mg base C) (c_plain_over : C8.Cal P w K mg base 6 "plain_over" (spOver R C) []) (F : C8.Fun K "divided_out" "divided_out" s_divided_out f fd) :
    FnOk P w K mg base C8.CX0 7 f fd ["figures", "poly", "root"] (spDiv R C) := by
  refine C8.fn0 F sc_divided_out (fun vs H Q E h => ?_) (fun cdv A outer s H vs Q E hr h => ?_)
  · obtain ⟨i, lo, x, y, z, n, rfl, _⟩ := h
    rfl
  · obtain ⟨fa, _, vx, g, r, n, rfl, hF, ⟨a, vs, rfl, ha, hv⟩, hx, hled, hl, hbr, hbg, hn, q⟩ := h
    have T := M.T
    refine ⟨_, (pss_cons (ps_set (i := 3) sc_divided_out.nd rfl (by first | exact .inl rfl | exact .inr rfl) (pe_tup (pa_cons (C8.pe_mt M.c_negative hr (by decide) (pv 0) (pa_cons (pv 2) pa_nil)) (pa_cons (pe_fld (pv 0) rfl) pa_nil))))
    (pss_cons (ps_set (i := 4) sc_divided_out.nd rfl (by first | exact .inl rfl | exact .inr rfl) pe_int)
    (pss_cons (ps_set (i := 5) sc_divided_out.nd rfl (by first | exact .inl rfl | exact .inr rfl) (pv 1))
    (pss_cons (ps_asg (C8.pe_c c_plain_over hr (by decide) (by rfl) (pa_cons (pv 0) (pa_cons (pv 5) (pa_cons (pv 3) pa_nil)))) (pg_tup (n := 2) rfl (pgs_cons (pg_name (i := 6) sc_divided_out.nd rfl (by first | exact .inl rfl | exact .inr rfl)) (pgs_cons (pg_name (i := 7) sc_divided_out.nd rfl (by first | exact .inl rfl | exact .inr rfl)) pgs_nil))))
    (pss_cons (ps_while PassesOwn.never (pt_cmpR (op_eqD hr.units) (pv 7) (pe_tup pa_nil) (nomark _))
    ((pss_cons (ps_aug (i := 4) sc_divided_out.nd rfl (.inl rfl) pe_int ip_add)
    (pss_cons (ps_set (i := 5) sc_divided_out.nd rfl (by first | exact .inl rfl | exact .inr rfl) (pv 6))
    (pss_one (ps_asg (C8.pe_c c_plain_over hr (by decide) (by rfl) (pa_cons (pv 0) (pa_cons (pv 5) (pa_cons (pv 3) pa_nil)))) (pg_tup (n := 2) rfl (pgs_cons (pg_name (i := 6) sc_divided_out.nd rfl (by first | exact .inl rfl | exact .inr rfl)) (pgs_cons (pg_name (i := 7) sc_divided_out.nd rfl (by first | exact .inl rfl | exact .inr rfl)) pgs_nil)))))))))
    (pss_one (ps_ret (pe_tup (pa_cons (pv 5) (pa_cons (pv 4) pa_nil)))))))))), ?_⟩
    refine go_start (show _ = [some _, some _, some _, none, none, none, none, none] from rfl) ?_
    walk_at "go"
    refine fig_meth hF (by decide +kernel) ?_
    walk_at "go"
    refine ⟨fa, vx, r, rfl, hF, hx, fun v1 H1 e1 h1 => ?_⟩
    walk_at "go"
    refine fig_one T (hF.up e1) fun o ho => ?_
    walk_at "go"
    refine ⟨(by show 2 ≤ sizeLine; decide), fun p3 n3 => ?_⟩
    have e2 := Same.up (o := HO.tup [v1, o]) e1 n3
    have hst : TRep (upd H1 p3 (.tup [v1, o])) (.ref p3) [-r, (1 : R)] := ⟨p3, _, rfl, upd_same, .cons (h1.up (same_new n3)) (.cons (ho.up (same_new n3)) .nil)⟩
    have n3' : H p3 = none := Same.free e1 n3
    generalize (upd H1 p3 (.tup [v1, o])) = H2 at *
    walk_at "go"
    refine ⟨fa, _, _, g, r, rfl, hF.up e2, ⟨a, vs, rfl, e2 _ _ ha, hv.up e2⟩, hst, fine_of hled hl hbr hbg (by omega), fun p H3 vq vr e3 hp hq hrr => ?_⟩
    refine g_tup2 hp ?_
    have e23 := e2.trans e3
    walk_at "go"
    refine g_while (fun m σ' Hc => ∃ (t : Nat) (vk vq vr : V) (k : List R), σ' = [some (.ref fa), some (.ref a), some vx, some (.ref p3), some (.int (t : Nat)), some vk, some vq, some vr] ∧ Same H Hc ∧ Same H2 Hc ∧ TRep Hc vk k ∧ TRep Hc vq (quot r k) ∧
      TRep Hc vr (if ev k r = 0 then [] else [ev k r]) ∧ Led k ∧ k.length + t = g.length ∧ Bds (n + 24 * t) k ∧ (divOut r g.length g).1 = (divOut r k.length k).1 ∧ (divOut r g.length g).2 = (divOut r k.length k).2 + t ∧ m = k.length)
      g.length ⟨0, _, vq, vr, g, rfl, e23, e3, ⟨a, vs, rfl, e23 _ _ ha, hv.up e23⟩, hq, hrr, hled, rfl, hbg, rfl, rfl, rfl⟩ ?_
    rintro m σ' Hc ⟨t, vk, vq, vr, k, rfl, ec, ec2, hk, hqk, ⟨ar, vsr, rfl, har, hvr⟩, kled, kl, kb, d1, d2, rfl⟩
    walk_at "go"
    refine ⟨(by show 0 ≤ sizeLine; decide), fun pe hpe => ?_⟩
    have e4 := same_new (o := HO.tup []) hpe
    refine g_eqNil (e4 _ _ har) (hvr.up e4) upd_same ?_
    have ec4 := ec.trans e4
    have ec24 := ec2.trans e4
    by_cases h0 : ev k r = 0
    · rw [if_pos h0]
      walk_at "go"
      refine g_turn ?_
      walk_at "go"
      refine g_aug rfl ?_
      walk_at "go"
      obtain ⟨m, hm⟩ : ∃ m, k.length = m + 1 := ⟨k.length - 1, by have := kled.pos; omega⟩
      obtain ⟨s1, s2, s3, s4⟩ := divOut_step hm h0 kled
      have ql := quot_led (r := r) kled s1
      have qb := bds_quot hbr (by omega) kb
      refine ⟨fa, _, _, quot r k, r, rfl, hF.up ec4, hqk.up e4, hst.up ec24, fine_of ql (by omega) hbr qb (by omega), fun p5 H5 vq5 vr5 e5 hp5 hq5 hr5 => ?_⟩
      refine g_tup2 hp5 ?_
      refine ⟨m, by omega, t + 1, vq, vq5, vr5, quot r k, rfl, ec4.trans e5, ec24.trans e5, hqk.up (e4.trans e5), hq5, hr5, ql, by omega, ?_, by rw [d1, s3], by rw [d2, s4]; omega, s2.symm⟩
      rw [show n + 24 * (t + 1) = n + 24 * t + 24 by omega]
      exact qb
    · rw [if_neg h0, show ([ev k r] : List R).isEmpty = false from rfl]
      walk_at "go"
      refine ⟨(by show 2 ≤ sizeLine; decide), fun p5 hp5 => ?_⟩
      have e5 := same_new (o := HO.tup [vk, V.int (t : Nat)]) hp5
      rw [divOut_stop h0] at d1 d2
      refine q p5 vk _ (ec4.trans e5) ?_ ?_
      · rw [upd_same, d2, Nat.zero_add]
      · rw [d1]
        exact hk.up (e4.trans e5)
end
end Kw
set_option maxHeartbeats 4000000
namespace Kw
open PySem PySem.Spec PyProof.Rows L2 RT
local macro_rules | `(tactic| walk_at "step") => `(tactic| with_reducible first
  | refine g_op ?_ | refine g_c ?_ | refine g_test ?_ | refine g_bl ?_ | refine g_seq ?_ | refine g_ifS ?_ | refine g_cons ?_ | refine g_nil ?_ | refine g_I0 ?_ | refine g_asg ?_ | refine g_name ?_
  | refine g_ret ?_ | refine g_nx ?_ | refine g_cb ?_ | refine g_call ?_ | refine g_un ?_ | refine g_rU ?_ | refine g_B ?_ | refine g_and ?_ | refine g_or ?_ | refine g_not ?_ | refine g_andV ?_ | refine g_orV ?_
  | refine g_notV ?_ | refine g_ifE ?_ | refine g_drop ?_ | refine g_par ?_ | refine g_two ?_ | refine g_abs ?_ | refine g_mx ?_ | refine g_int ?_ | refine g_tup ?_ | refine g_lst ?_ | refine g_chain ?_
  | refine g_sl ?_ | refine g_nopart ?_ | refine g_part ?_ | refine g_partI ?_ | refine g_bm ?_ | refine g_sub ?_ | refine g_ip ?_ | refine g_make ?_ | refine g_forR1 ?_ | refine g_forR2 ?_ | refine g_forR3 ?_ | refine g_forL ?_ | refine g_forT ?_ | refine g_forV ?_ | refine g_forVR ?_ | refine g_forE ?_ | refine g_lcL ?_ | refine g_lcT ?_ | refine g_lcR1 ?_ | refine g_lcR2 ?_ | refine g_fld ?_ | refine g_meth ?_ | refine ite_t ?_ | refine ite_nt ?_ | refine ite_nf ?_ | refine g_eqi ?_ | refine g_nei ?_ | refine ite_f ?_ | refine g_isN_n ?_ | refine g_isN_i ?_ | refine g_isN_r ?_ | refine g_notN_n ?_ | refine g_notN_i ?_ | refine g_notN_r ?_ | refine g_isi_ib ?_ | refine g_isi_ii ?_ | refine g_isi_it ?_ | refine g_isi_nt ?_)
local macro_rules | `(tactic| walk_at "var") => `(tactic| ((with_reducible refine' g_var ?hvar ?_); (case hvar => rfl)))
local macro_rules | `(tactic| walk_at "fact") => `(tactic| first
  | ((with_reducible refine' g_ixT ?hfact ?hat ?_); (case hfact => assumption); (case hat => rfl))
  | ((with_reducible refine' g_ixL ?hfact ?hat ?_); (case hfact => assumption); (case hat => rfl)))
local macro_rules | `(tactic| walk_at "fact1") => `(tactic| first
  | ((with_reducible refine' g_lenT ?hfact ?_); (case hfact => assumption))
  | ((with_reducible refine' g_lenL ?hfact ?_); (case hfact => assumption))
  | ((with_reducible refine' g_isi_tt ?hfact ?_); (case hfact => assumption)))
local macro_rules | `(tactic| walk_at "go") => `(tactic| repeat (first | walk_at "step" | walk_at "var" | walk_at "fact" | walk_at "fact1"))
local macro_rules | `(tactic| walk_at "if") => `(tactic| with_reducible first | refine ite_d ?_ ?_ | refine ite_n ?_ ?_ | refine ite_b ?_ ?_)
local macro_rules | `(tactic| walk_at "prime") => `(tactic| refine fig_prime (by assumption) (by assumption) ?_)
local macro_rules | `(tactic| walk_at "zero") => `(tactic| refine fig_zero (by assumption) (by assumption) ?_)
local macro_rules | `(tactic| walk_at "one") => `(tactic| refine fig_one (by assumption) (by assumption) ?_)
local macro_rules | `(tactic| walk_at "meth") => `(tactic| refine fig_meth (by assumption) (by decide +kernel) ?_)
theorem g_sfld {K : PySem.W.Frag} {ta tv : TE} {f : Str} {D : Ends} {σ : L2.St} {H : Hp} (h : tv σ H fun y H1 => ta σ H1 fun x H2 => ∃ a C dx fs, x = .ref a ∧ H2 a = some (.ins C dx fs) ∧ Cls K C ∧ NoAttr K C f ∧ fs.length < 1000 ∧ D.nx σ (upd H2 a (.ins C dx (putF f y fs)))) : sFld K ta tv f D σ H := h
section
variable {P : Program} {w : World} {K : PySem.W.Frag} {mg : Str → Option Value} {base : Heap} {f : Addr} {fd : FuncData}
variable {R : Type} [NumC R] {C C2 : Addr}
/-! ### Parts -/
structure PaT (K : PySem.W.Frag) (C : Addr) : Prop where
  cl : Cls K C
  n1 : NoAttr K C "lead"
  n2 : NoAttr K C "roots"
  n3 : NoAttr K C "rest"
def paF (a b c : V) : List (Str × V) := [("lead", a), ("roots", b), ("rest", c)]
def spPInit (C2 : Addr) : Sp := fun vs H Q _ => ∃ (p dx : Addr) (a b c : V), vs = [.ref p, a, b, c] ∧ H p = some (.ins C2 dx []) ∧ Q .non (upd H p (.ins C2 dx (paF a b c)))
theorem ok_Parts (T2 : PaT K C2) (F : C8.Fun K "__init__" "Parts.__init__" s_Parts___init__ f fd) : FnOk P w K mg base C8.CX0 1 f fd ["self", "lead", "roots", "rest"] (spPInit C2) := by
  refine C8.fn0 F sc_Parts___init__ (fun vs H Q E h => ?_) (fun cdv A outer s H vs Q E hr h => ?_)
  · obtain ⟨p, dx, a, b, c, rfl, _⟩ := h
    rfl
  · obtain ⟨p, dx, a, b, c, rfl, hp, q⟩ := h
    refine ⟨_, (pss_cons (ps_fld (pv 0) (pv 1) rfl)
    (pss_cons (ps_fld (pv 0) (pv 2) rfl)
    (pss_one (ps_fld (pv 0) (pv 3) rfl)))), ?_⟩
    refine go_start (show _ = [some _, some _, some _, some _] from rfl) ?_
    walk_at "go"
    refine g_sfld ?_
    walk_at "go"
    refine ⟨p, C2, dx, _, rfl, hp, T2.cl, T2.n1, (by decide), ?_⟩
    walk_at "go"
    refine g_sfld ?_
    walk_at "go"
    refine ⟨p, C2, dx, _, rfl, upd_same, T2.cl, T2.n2, (by show 1 < 1000; decide), ?_⟩
    with_reducible refine g_sfld ?_
    walk_at "go"
    refine ⟨p, C2, dx, _, rfl, upd_same, T2.cl, T2.n3, (by show 2 < 1000; decide), ?_⟩
    rw [upd_upd, upd_upd]
    exact q
/-! ### roots -/
def spRoots (R : Type) [NumC R] (C : Addr) (Pre : List R → Prop) (G : List R → List R → Prop) : Sp := fun vs H Q _ => ∃ (fa : Addr) (v : V) (g : List R), vs = [.ref fa, v] ∧ FigAt R C H fa ∧ TRep H v g ∧ Led g ∧ g.length ≤ 12 ∧ Pre g ∧
  ∀ v' H' rs, Same H H' → TRep H' v' rs → G g rs → Q v' H'
def RtRep (H : Hp) (v : V) (x : R × Nat) : Prop := ∃ p u, v = .ref p ∧ H p = some (.tup [u, .int (x.2 : Nat)]) ∧ Rep H u x.1
theorem RtRep.im {H H' : Hp} {v : V} {x : R × Nat} (h : RtRep H v x) (e : Im H H') : RtRep H' v x := let ⟨p, u, h1, h2, h3⟩ := h; ⟨p, u, h1, im_tup e h2, h3.im e⟩
def RtReps (H : Hp) (vs : List V) (xs : List (R × Nat)) : Prop := Paired (RtRep H) vs xs
theorem RtReps.im {H H' : Hp} {vs : List V} {xs : List (R × Nat)} (h : RtReps H vs xs) (e : Im H H') : RtReps H' vs xs := Paired.mapP h fun _ _ r => r.im e
def PartsAt (C2 : Addr) (H : Hp) (o : Addr) (c : R) (told : List (R × Nat)) (m : Nat) : Prop := ∃ dx vl a b us ws, H o = some (.ins C2 dx (paF vl (.ref a) (.ref b))) ∧ Rep H vl c ∧ H a = some (.tup us) ∧ RtReps H us told ∧ H b = some (.tup ws) ∧ ws.length = m
def spParts (R : Type) [NumC R] (C C2 : Addr) (Pre : List R → Prop) (G : List R → List R → Prop) : Sp := fun vs H Q _ => ∃ (fa : Addr) (v : V) (g : List R) (c : R), vs = [.ref fa, v] ∧ FigAt R C H fa ∧ TRep H v g ∧ g.length ≤ 12 ∧ g.getLast? = some c ∧ c ≠ 0 ∧ Bds 100 g ∧ (∀ r, ev g r = 0 → NumC.Bd 1 r) ∧ Pre g ∧
  ∀ o H' rs, Same H H' → G g rs → PartsAt C2 H' o c (partF g rs).2 (partF g rs).1.length → Q (.ref o) H'
theorem ok_parts_of {Pre : List R → Prop} {G : List R → List R → Prop} (hG : ∀ g rs, G g rs → ∀ r ∈ rs, ev g r = 0) (hGl : ∀ g rs, G g rs → rs.length ≤ 100000) (M : FgM R P w K mg base C) (T2 : PaT K C2) (B : Bn mg) (L : Nat) (hL : 7 ≤ L) (c_check_not_zero : C8.Cal P w K mg base 5 "check_not_zero" (spCheckPoly R C) [])
    (c_plain_roots : C8.Cal P w K mg base 12 "plain_roots" (spRoots R C Pre G) []) (c_divided_out : C8.Cal P w K mg base 7 "divided_out" (spDiv R C) []) (c_plain_led : C8.Cal P w K mg base 5 "plain_led" (spLed R C) [])
    (c_Parts : C8.Mak P w K mg base 1 "Parts" C2 (spPInit C2) []) (F : C8.Fun K "parts_of" "parts_of" s_parts_of f fd) : FnOk P w K mg base C8.CX0 13 f fd ["figures", "poly"] (spParts R C C2 Pre G) := by
  refine C8.fn0 F sc_parts_of (fun vs H Q E h => ?_) (fun cdv A outer s H vs Q E hr h => ?_)
  · obtain ⟨i, lo, x, y, rfl, _⟩ := h
    rfl
  · obtain ⟨fa, _, g, c, rfl, hF, ⟨a, vs, rfl, ha, hv⟩, hl, hc, hc0, hb, hr1, hpre, q⟩ := h
    have hled : Led g := ⟨c, hc, hc0⟩
    refine ⟨_, (pss_cons (ps_set (i := 2) sc_parts_of.nd rfl (by first | exact .inl rfl | exact .inr rfl) (C8.pe_c c_check_not_zero hr (by decide) (by rfl) (pa_cons (pv 0) (pa_cons (pv 1) pa_nil))))
    (pss_cons (ps_set (i := 3) sc_parts_of.nd rfl (by first | exact .inl rfl | exact .inr rfl) (pe_ix ix_tup (pv 2) (pe_un un_neg pe_int) (fun _ _ => rfl)))
    (pss_cons (ps_set (i := 4) sc_parts_of.nd rfl (by first | exact .inl rfl | exact .inr rfl) (pe_lst pa_nil))
    (pss_cons (ps_for PassesOwn.never rfl (pi_tup (C8.pe_c c_plain_roots hr (by decide) (by rfl) (pa_cons (pv 0) (pa_cons (pv 2) pa_nil)))) (pg_name (i := 5) sc_parts_of.nd rfl (by first | exact .inl rfl | exact .inr rfl))
    ((pss_cons (ps_asg (C8.pe_c c_divided_out hr (by decide) (by rfl) (pa_cons (pv 0) (pa_cons (pv 2) (pa_cons (pv 5) pa_nil)))) (pg_tup (n := 2) rfl (pgs_cons (pg_name (i := 2) sc_parts_of.nd rfl (by first | exact .inl rfl | exact .inr rfl)) (pgs_cons (pg_name (i := 6) sc_parts_of.nd rfl (by first | exact .inl rfl | exact .inr rfl)) pgs_nil))))
    (pss_one (ps_expr (pe_bm PySem.F.plainAttrs_list PySem.F.slot_list_append PySem.F.type_list_append mt_append (pv 4) (pa_cons (pe_tup (pa_cons (pv 5) (pa_cons (pv 6) pa_nil))) pa_nil)))))))
    (pss_one (ps_ret (C8.pe_mk c_Parts hr (by decide) (by rfl) (pa_cons (pv 3) (pa_cons (pe_callTy call_tuple_of_ (by rfl) B.tuple_ (by decide +kernel) (pa_cons (pv 4) pa_nil)) (pa_cons (C8.pe_c c_plain_led hr (by decide) (by rfl) (pa_cons (pv 0) (pa_cons (pv 2) pa_nil))) pa_nil)))))))))), ?_⟩
    refine go_start (show _ = [some _, some _, none, none, none, none, none] from rfl) ?_
    walk_at "go"
    refine ⟨fa, _, g, rfl, hF, ⟨a, vs, rfl, ha, hv⟩, hl, hled, fun H1 e1 => ?_⟩
    have ha1 := e1 _ _ ha
    walk_at "go"
    obtain ⟨u, hu, ru⟩ := reps_last (hv.up e1) hc
    refine g_ixT ha1 hu ?_
    walk_at "go"
    refine ⟨(by show 0 ≤ sizeLine; decide), fun l4 n4 => ?_⟩
    have e2 := Same.up (o := HO.lst []) e1 n4
    have n4' : H l4 = none := Same.free e1 n4
    have hl4 : (upd H1 l4 (.lst [])) l4 = some (.lst []) := upd_same
    have ru2 := ru.up (same_new (o := HO.lst []) n4)
    generalize (upd H1 l4 (.lst [])) = H2 at *
    walk_at "go"
    refine ⟨fa, _, g, rfl, hF.up e2, ⟨a, vs, rfl, e2 _ _ ha, hv.up e2⟩, hled, hl, hpre, fun v3 H3 rs e3 hrs hg => ?_⟩
    obtain ⟨a3, vs3, rfl, ha3, hv3⟩ := hrs
    have e23 := e2.trans e3
    refine ⟨a3, rfl, ⟨vs3, SqT.of ha3⟩, lp_tup (xs := vs3) (fun i σ' Hc => ∃ (vk : V) (k : List R) (ts : List V) (l : List (R × Nat)) (x5 x6 : Option V), σ' = [some (.ref fa), some (.ref a), some vk, some u, some (.ref l4), x5, x6] ∧ Same H Hc ∧ Im H3 Hc ∧ TRep Hc vk k ∧ Hc l4 = some (.lst ts) ∧ RtReps Hc ts l ∧
        ts.length = i ∧ i ≤ vs3.length ∧ Led k ∧ k.length ≤ g.length ∧ Bds (100 + 24 * (g.length - k.length)) k ∧ (partF g rs).1 = (partF k (rs.drop i)).1 ∧ (partF g rs).2 = l ++ (partF k (rs.drop i)).2)
      ⟨_, g, [], [], none, none, rfl, e23, Im.refl _, ⟨a, vs, rfl, e23 _ _ ha, hv.up e23⟩, e3 _ _ hl4, .nil, rfl, Nat.zero_le _, hled, Nat.le_refl _, bds_mono (by omega) hb, rfl, rfl⟩ (fun i σ' Hc _ h => ?_) (fun i x σ' Hc hx h => ?_) (fun σ' Hc h => ?_)⟩
    · obtain ⟨_, _, _, _, _, _, _, _, im, _⟩ := h
      exact SqT.of (im_tup im ha3)
    · obtain ⟨vk, k, ts, l, x5, x6, rfl, ec, im, hk, hts, hl', htl, hil, kled, klen, kb, p1, p2⟩ := h
      walk_at "go"
      obtain ⟨y, hy, ry⟩ := (hv3.im im).get' hx
      have hmem : y ∈ rs := List.mem_of_getElem? hy
      have hby := hr1 _ (hG g rs hg _ hmem)
      refine ⟨fa, _, x, k, y, _, rfl, hF.up ec, hk, ry, kled, by omega, hby, kb, by omega, fun p vk' H4 e4 hp hk' => ?_⟩
      refine g_tup2 hp ?_
      obtain ⟨d1, d2, d3⟩ := divOut_props hby _ k _ rfl kled (by omega) kb
      walk_at "go"
      refine g_tyL (e4 _ _ hts) ?_
      walk_at "go"
      refine ⟨(by show 2 ≤ sizeLine; decide), fun p7 hp7 => ?_⟩
      have e7 := same_new (o := HO.tup [x, V.int ((divOut y k.length k).2 : Nat)]) hp7
      have e47 := e4.trans e7
      have hts7 := e47 _ _ hts
      walk_at "go"
      have hvl := hv3.len
      have hi' := (List.getElem?_eq_some_iff.mp hx).1
      refine g_app hts7 (by
        have := (List.getElem?_eq_some_iff.mp hx).1
        have h5 : rs.length ≤ 100000 := hGl _ _ hg
        omega) ?_
      have im8 : Im (upd H4 p7 (.tup [x, V.int ((divOut y k.length k).2 : Nat)])) (upd (upd H4 p7 (.tup [x, V.int ((divOut y k.length k).2 : Nat)])) l4 (.lst (ts ++ [V.ref p7]))) := im_upd hts7
      have ed : rs.drop i = y :: rs.drop (i + 1) := by
        obtain ⟨hlt, e⟩ := List.getElem?_eq_some_iff.mp hy
        rw [List.drop_eq_getElem_cons hlt, e]
      rw [ed] at p1 p2
      refine ⟨vk', (divOut y k.length k).1, _, l ++ [(y, (divOut y k.length k).2)], _, _, rfl, same_mut (ec.trans e47) n4', im.trans ((Same.im e47).trans im8), (hk'.up e7).im im8, upd_same, ?_, by rw [List.length_append, htl]; rfl, hi', d1, by omega, bds_mono (by omega) d3, p1, ?_⟩
      · refine Paired.snoc ((hl'.im (Same.im e47)).im im8) ⟨p7, x, rfl, im_tup im8 upd_same, (ry.up e47).im im8⟩
      · rw [p2, List.append_assoc]
        rfl
    · obtain ⟨vk, k, ts, l, x5, x6, rfl, ec, im, hk, hts, hl', htl, hil, kled, klen, kb, p1, p2⟩ := h
      rw [hv3.len, List.drop_length] at p1 p2
      walk_at "go"
      refine g_tupOfL hts fun p5 hp5 => ?_
      have e5 := same_new (o := HO.tup ts) hp5
      walk_at "go"
      refine ⟨fa, vk, k, rfl, hF.up (ec.trans e5), hk.up e5, by omega, kled, bds_mono (by show _ ≤ 800; omega) kb, fun p6 ws H6 e6 hp6 hwl => ?_⟩
      walk_at "go"
      intro o dx no ndx hne
      have e7 : Same H6 (upd (upd H6 dx (.own o)) o (.ins C2 dx [])) := (same_new ndx).trans (same_new (by rw [upd_ne hne.symm]; exact no))
      refine ⟨o, dx, u, .ref p5, .ref p6, rfl, upd_same, rfl, ?_⟩
      rw [upd_upd]
      have e8 : Same H6 (upd (upd H6 dx (.own o)) o (.ins C2 dx (paF u (.ref p5) (.ref p6)))) := (same_new ndx).trans (same_new (by rw [upd_ne hne.symm]; exact no))
      have im6 : Im H3 _ := im.trans (Same.im (e5.trans (e6.trans e8)))
      refine q o _ rs (ec.trans (e5.trans (e6.trans e8))) hg ⟨dx, u, p5, p6, ts, ws, upd_same, ?_, e8 _ _ (e6 _ _ upd_same), ?_, e8 _ _ hp6, ?_⟩
      · exact (ru2.up e3).im im6
      · rw [p2]
        show RtReps _ ts (l ++ [])
        rw [List.append_nil]
        exact hl'.im (Same.im (e5.trans (e6.trans e8)))
      · rw [p1]
        exact hwl
end
end Kw
/-! roots of whole polys between whole places, without reals -/
namespace Kw
def q1 : List Rat → Rat → Rat → Rat
  | [], _, _ => 0
  | _ :: t, x, y => q1 t x y * y + ev t x
def q2 : List Rat → Rat → Rat → Rat
  | [], _, _ => 0
  | _ :: t, x, y => q2 t x y * y + q1 t x x
theorem ev_q1 : ∀ (f : List Rat) (x y : Rat), ev f y = ev f x + (y - x) * q1 f x y
  | [], x, y => by simp only [ev, q1]; grind
  | c :: t, x, y => by
    have h := ev_q1 t x y
    simp only [ev, q1]
    rw [h]
    grind
theorem q1_q2 : ∀ (f : List Rat) (x y : Rat), q1 f x y = q1 f x x + (y - x) * q2 f x y
  | [], x, y => by simp only [q1, q2]; grind
  | c :: t, x, y => by
    have h := q1_q2 t x y
    simp only [q1, q2]
    rw [h]
    grind
theorem taylor (f : List Rat) (x y : Rat) : ev f y = ev f x + (y - x) * q1 f x x + (y - x) * ((y - x) * q2 f x y) := by
  rw [ev_q1 f x y, q1_q2 f x y]
  grind
/-- the slopes -/
def derF : Rat → List Rat → List Rat
  | _, [] => []
  | k, c :: t => k * c :: derF (k + 1) t
def der (f : List Rat) : List Rat := derF 1 f.tail
theorem ev_derF : ∀ (t : List Rat) (k x : Rat), ev (derF k t) x = k * ev t x + x * q1 t x x
  | [], k, x => by simp only [derF, ev, q1]; grind
  | c :: t, k, x => by
    have h := ev_derF t (k + 1) x
    simp only [derF, ev, q1]
    rw [h]
    grind
theorem ev_der (f : List Rat) (x : Rat) : ev (der f) x = q1 f x x := by
  cases f with
  | nil => rfl
  | cons c t =>
    show ev (derF 1 t) x = q1 t x x * x + ev t x
    rw [ev_derF]
    grind
/-- bounds -/
theorem le_mul {a b M B : Rat} (h1 : -M ≤ a) (h2 : a ≤ M) (h3 : -B ≤ b) (h4 : b ≤ B) : -(M * B) ≤ a * b ∧ a * b ≤ M * B := by
  have p1 := Rat.mul_nonneg (show 0 ≤ M - a by grind) (show 0 ≤ B + b by grind)
  have p2 := Rat.mul_nonneg (show 0 ≤ M + a by grind) (show 0 ≤ B - b by grind)
  have p3 := Rat.mul_nonneg (show 0 ≤ M + a by grind) (show 0 ≤ B + b by grind)
  have p4 := Rat.mul_nonneg (show 0 ≤ M - a by grind) (show 0 ≤ B - b by grind)
  constructor <;> grind
theorem bounded {B : Rat} (hB : 0 ≤ B) : ∀ f : List Rat, ∃ M, 0 ≤ M ∧ ∀ x y, -B ≤ x → x ≤ B → -B ≤ y → y ≤ B → (-M ≤ ev f x ∧ ev f x ≤ M) ∧ (-M ≤ q1 f x y ∧ q1 f x y ≤ M) ∧ (-M ≤ q2 f x y ∧ q2 f x y ≤ M)
  | [] => ⟨0, by grind, fun x y _ _ _ _ => by simp only [ev, q1, q2]; grind⟩
  | c :: t => by
    obtain ⟨M, h0, h⟩ := bounded hB t
    refine ⟨M * B + M + (if c < 0 then -c else c), ?_, fun x y h1 h2 h3 h4 => ?_⟩
    · have := Rat.mul_nonneg h0 hB
      split <;> grind
    · obtain ⟨⟨a1, a2⟩, ⟨a3, a4⟩, a5, a6⟩ := h x y h1 h2 h3 h4
      obtain ⟨_, ⟨b3, b4⟩, _⟩ := h x x h1 h2 h1 h2
      have p1 := le_mul a1 a2 h1 h2
      have p3 := le_mul a3 a4 h3 h4
      have p5 := le_mul a5 a6 h3 h4
      simp only [ev, q1, q2]
      split <;> grind
/-- a sign on a stretch -/
def PosOn (s : Rat) (f : List Rat) (a b : Rat) : Prop := ∀ x, a ≤ x → x < b → 0 < s * ev f x
def IncOn (s : Rat) (f : List Rat) (a b : Rat) : Prop := ∀ x y, a ≤ x → x < y → y ≤ b → s * ev f x < s * ev f y
def Sg (s : Rat) : Prop := s = 1 ∨ s = -1
theorem box (a b : Rat) : ∃ B : Rat, 0 ≤ B ∧ -B ≤ a ∧ b ≤ B := by
  refine ⟨(if a < 0 then -a else a) + (if b < 0 then -b else b), ?_, ?_, ?_⟩ <;> (split <;> split <;> grind)
/-- the step at a slope -/
theorem step_up {f : List Rat} {s a b : Rat} (hs : Sg s) : ∃ M, 0 < M ∧ ∀ x y, a ≤ x → x ≤ y → y ≤ b → s * ev f x + (y - x) * (s * ev (der f) x) - M * ((y - x) * (y - x)) ≤ s * ev f y ∧ s * ev f y ≤ s * ev f x + (y - x) * M := by
  obtain ⟨B, hB, h1, h2⟩ := box a b
  obtain ⟨M, h0, h⟩ := bounded hB f
  refine ⟨M + 1, by grind (ematch := 0), fun x y hx hxy hy => ?_⟩
  obtain ⟨_, ⟨d1, d2⟩, c1, c2⟩ := h x y (by grind (ematch := 0)) (by grind (ematch := 0)) (by grind (ematch := 0)) (by grind (ematch := 0))
  have hd : 0 ≤ y - x := by grind (ematch := 0)
  have hdd := Rat.mul_nonneg hd hd
  have p1 := Rat.mul_nonneg hdd (show 0 ≤ M - q2 f x y by grind (ematch := 0))
  have p2 := Rat.mul_nonneg hdd (show 0 ≤ M + q2 f x y by grind (ematch := 0))
  have p3 := Rat.mul_nonneg hd (show 0 ≤ M - q1 f x y by grind (ematch := 0))
  have p4 := Rat.mul_nonneg hd (show 0 ≤ M + q1 f x y by grind (ematch := 0))
  have t := taylor f x y
  have t1 := ev_q1 f x y
  rw [ev_der]
  rcases hs with rfl | rfl
  · constructor <;> grind (ematch := 0)
  · constructor <;> grind (ematch := 0)
theorem chop {f : List Rat} {s a b M : Rat} (h : ∀ x y, a ≤ x → x ≤ y → y ≤ b → s * ev f x + (y - x) * (s * ev (der f) x) - M * ((y - x) * (y - x)) ≤ s * ev f y) (hp : PosOn s (der f) a b) {x d : Rat} (hd : 0 < d) (hx : a ≤ x) :
    ∀ n : Nat, x + n * d ≤ b → s * ev f x - n * (M * (d * d)) ≤ s * ev f (x + n * d)
  | 0, _ => by
    have e : x + ((0 : Nat) : Rat) * d = x := by grind (ematch := 0)
    rw [e]
    grind (ematch := 0)
  | n + 1, hn => by
    have e : ((n + 1 : Nat) : Rat) = (n : Rat) + 1 := by grind (ematch := 0)
    rw [e] at hn ⊢
    have h1 := chop h hp hd hx n (by grind (ematch := 0))
    have hn0 : (0 : Rat) ≤ (n : Rat) := by
      have := (Rat.intCast_le_intCast (a := 0) (b := (n : Int))).mpr (by omega)
      grind (ematch := 0)
    have hnd := Rat.mul_nonneg hn0 (show 0 ≤ d by grind (ematch := 0))
    have h2 := h (x + n * d) (x + (n + 1) * d) (by grind (ematch := 0)) (by grind (ematch := 0)) hn
    have h3 := hp (x + n * d) (by grind (ematch := 0)) (by grind (ematch := 0))
    have h4 := Rat.mul_pos hd h3
    have e2 : x + ((n : Rat) + 1) * d - (x + n * d) = d := by grind (ematch := 0)
    rw [e2] at h2
    grind (ematch := 0)
theorem cast_ni (n : Nat) : (((n : Int)) : Rat) = (n : Rat) := Rat.intCast_natCast n
theorem nat_above (q : Rat) : ∃ n : Nat, q < n ∧ 0 < n := by
  refine ⟨(q.floor + 1).toNat + 1, ?_, by omega⟩
  have h := Rat.lt_floor_add_one q
  have h2 : q.floor + 1 ≤ (((q.floor + 1).toNat + 1 : Nat) : Int) := by omega
  have h3 := Rat.intCast_le_intCast.mpr h2
  rw [cast_ni] at h3
  grind (ematch := 0)
theorem weak_up {f : List Rat} {s a b M : Rat} (hM : 0 < M) (h : ∀ x y, a ≤ x → x ≤ y → y ≤ b → s * ev f x + (y - x) * (s * ev (der f) x) - M * ((y - x) * (y - x)) ≤ s * ev f y) (hp : PosOn s (der f) a b) {x y : Rat} (hx : a ≤ x) (hxy : x < y) (hy : y ≤ b) : s * ev f x ≤ s * ev f y := by
  apply Classical.byContradiction
  intro hn
  have hg : 0 < s * ev f x - s * ev f y := by grind (ematch := 0)
  generalize hG : s * ev f x - s * ev f y = G at hg
  obtain ⟨n, h1, h0⟩ := nat_above (M * ((y - x) * (y - x)) / G)
  have hn0 : (0 : Rat) < (n : Rat) := by
    have := (Rat.intCast_lt_intCast (a := 0) (b := (n : Int))).mpr (by omega)
    rw [cast_ni] at this
    exact this
  have hne : (n : Rat) ≠ 0 := by grind (ematch := 0)
  have hd : 0 < (y - x) / n := by
    have := Rat.mul_pos (show 0 < y - x by grind (ematch := 0)) (Rat.inv_pos.mpr hn0)
    rw [Rat.div_def]
    exact this
  have e : (n : Rat) * ((y - x) / n) = y - x := by grind (ematch := 0)
  have k := chop h hp hd hx n (by rw [e]; grind (ematch := 0))
  have e1 : x + (n : Rat) * ((y - x) / n) = y := by rw [e]; grind (ematch := 0)
  rw [e1] at k
  have e2 : (n : Rat) * (M * ((y - x) / n * ((y - x) / n))) = M * ((y - x) * (y - x)) / n := by grind (ematch := 0)
  rw [e2] at k
  have k2 : G ≤ M * ((y - x) * (y - x)) / n := by grind (ematch := 0)
  have k3 := Rat.mul_le_mul_of_nonneg_left k2 (Rat.le_of_lt hn0)
  have e3 : (n : Rat) * (M * ((y - x) * (y - x)) / n) = M * ((y - x) * (y - x)) := by grind (ematch := 0)
  rw [e3] at k3
  have k4 := Rat.mul_pos hg (show 0 < n - M * ((y - x) * (y - x)) / G by grind (ematch := 0))
  have e4 : G * (n - M * ((y - x) * (y - x)) / G) = G * n - M * ((y - x) * (y - x)) := by grind (ematch := 0)
  rw [e4] at k4
  grind (ematch := 0)
theorem inc_of_pos {f : List Rat} {s a b : Rat} (hs : Sg s) (hp : PosOn s (der f) a b) : IncOn s f a b := by
  intro x y hx hxy hy
  obtain ⟨M, hM, h⟩ := step_up (f := f) (a := a) (b := b) hs
  have h' : ∀ x y, a ≤ x → x ≤ y → y ≤ b → s * ev f x + (y - x) * (s * ev (der f) x) - M * ((y - x) * (y - x)) ≤ s * ev f y := fun x y p q r => (h x y p q r).1
  have hd := hp x hx (by grind (ematch := 0))
  generalize hD : s * ev (der f) x = D at hd
  -- a small step
  have hMi := Rat.inv_pos.mpr hM
  have hDM := Rat.mul_pos hd hMi
  have eM : M * M⁻¹ = 1 := by grind (ematch := 0)
  obtain ⟨d, d0, d1, d2⟩ : ∃ d, 0 < d ∧ d < y - x ∧ M * d < D := by
    by_cases c : D * M⁻¹ < y - x
    · refine ⟨D * M⁻¹ / 2, by grind (ematch := 0), by grind (ematch := 0), ?_⟩
      have : M * (D * M⁻¹ / 2) = D / 2 := by grind (ematch := 0)
      rw [this]
      grind (ematch := 0)
    · refine ⟨(y - x) / 2, by grind (ematch := 0), by grind (ematch := 0), ?_⟩
      have := Rat.mul_le_mul_of_nonneg_left (show y - x ≤ D * M⁻¹ by grind (ematch := 0)) (Rat.le_of_lt hM)
      have e : M * (D * M⁻¹) = D := by grind (ematch := 0)
      rw [e] at this
      grind (ematch := 0)
  have k1 := (h x (x + d) hx (by grind (ematch := 0)) (by grind (ematch := 0))).1
  have e : x + d - x = d := by grind (ematch := 0)
  rw [e, hD] at k1
  have k2 := Rat.mul_pos d0 (show 0 < D - M * d by grind (ematch := 0))
  have k3 := weak_up hM h' hp (x := x + d) (y := y) (by grind (ematch := 0)) (by grind (ematch := 0)) hy
  grind (ematch := 0)
/-- one sign on the cell of m -/
def OneOn (f : List Rat) (m : Int) : Prop := ∃ s, Sg s ∧ PosOn s f m (m + 1)
theorem meet {f : List Rat} {s s' a b c : Rat} (hs : Sg s) (hs' : Sg s') (hab : a < b) (hbc : b < c) (h : PosOn s f a b) (h' : PosOn s' f b c) : s = s' := by
  apply Classical.byContradiction
  intro hn
  have hss : s' = -s := by rcases hs with rfl | rfl <;> rcases hs' with rfl | rfl <;> grind
  obtain ⟨M, hM, hst⟩ := step_up (f := f) (a := a) (b := b) hs'
  have hD := h' b (by grind (ematch := 0)) hbc
  generalize hDe : s' * ev f b = D at hD
  have hMi := Rat.inv_pos.mpr hM
  have hDM := Rat.mul_pos hD hMi
  obtain ⟨d, d0, d1, d2⟩ : ∃ d, 0 < d ∧ d < b - a ∧ M * d < D := by
    by_cases c : D * M⁻¹ < b - a
    · refine ⟨D * M⁻¹ / 2, by grind (ematch := 0), by grind (ematch := 0), ?_⟩
      have : M * (D * M⁻¹ / 2) = D / 2 := by grind (ematch := 0)
      rw [this]
      grind (ematch := 0)
    · refine ⟨(b - a) / 2, by grind (ematch := 0), by grind (ematch := 0), ?_⟩
      have := Rat.mul_le_mul_of_nonneg_left (show b - a ≤ D * M⁻¹ by grind (ematch := 0)) (Rat.le_of_lt hM)
      have e : M * (D * M⁻¹) = D := by grind (ematch := 0)
      rw [e] at this
      grind (ematch := 0)
  have k1 := (hst (b - d) b (by grind (ematch := 0)) (by grind (ematch := 0)) (by grind (ematch := 0))).2
  have k2 := h (b - d) (by grind (ematch := 0)) (by grind (ematch := 0))
  have e : b - (b - d) = d := by grind (ematch := 0)
  rw [e, hDe, hss] at k1
  grind (ematch := 0)
theorem glue {f : List Rat} (a : Int) : ∀ n : Nat, (∀ m : Int, a ≤ m → m < a + (n : Int) + 1 → OneOn f m) → ∃ s, Sg s ∧ PosOn s f a ((a + (n : Int) + 1 : Int) : Rat)
  | 0, h => by
    obtain ⟨s, hs, hp⟩ := h a (by omega) (by omega)
    refine ⟨s, hs, ?_⟩
    have e : ((a + ((0 : Nat) : Int) + 1 : Int) : Rat) = (a : Rat) + 1 := by
      rw [show a + ((0 : Nat) : Int) + 1 = a + 1 by omega, Rat.intCast_add]
      rfl
    rw [e]
    exact hp
  | n + 1, h => by
    obtain ⟨s, hs, hp⟩ := glue a n fun m h1 h2 => h m h1 (by omega)
    obtain ⟨s', hs', hp'⟩ := h (a + (n : Int) + 1) (by omega) (by omega)
    have e : ((a + ((n + 1 : Nat) : Int) + 1 : Int) : Rat) = ((a + (n : Int) + 1 : Int) : Rat) + 1 := by
      rw [show a + ((n + 1 : Nat) : Int) + 1 = (a + (n : Int) + 1) + 1 by omega, Rat.intCast_add]
      rfl
    have hab : (a : Rat) < ((a + (n : Int) + 1 : Int) : Rat) := Rat.intCast_lt_intCast.mpr (by omega)
    rw [e]
    generalize ((a + (n : Int) + 1 : Int) : Rat) = b at *
    have ess := meet hs hs' hab (by grind (ematch := 0)) hp hp'
    refine ⟨s, hs, fun x h1 h2 => ?_⟩
    by_cases hb : x < b
    · exact hp x h1 hb
    · rw [ess]
      exact hp' x (by grind (ematch := 0)) h2
theorem glue' {f : List Rat} {a b : Int} (hab : a ≤ b) (h : ∀ m : Int, a ≤ m → m < b → OneOn f m) : ∃ s, Sg s ∧ PosOn s f a b := by
  by_cases c : a = b
  · subst c
    exact ⟨1, .inl rfl, fun x h1 h2 => by grind⟩
  · obtain ⟨s, h1, h2⟩ := glue a (b - a - 1).toNat fun m h1 h2 => h m h1 (by omega)
    rw [show a + ((b - a - 1).toNat : Int) + 1 = b by omega] at h2
    exact ⟨s, h1, h2⟩
theorem Sg.neg {s : Rat} (h : Sg s) : Sg (-s) := by
  rcases h with rfl | rfl
  · exact .inr rfl
  · exact .inl (by grind)
theorem cast_lt {a b : Int} (h : a < b) : (a : Rat) + 1 ≤ (b : Rat) := by
  have := Rat.intCast_le_intCast.mpr (show a + 1 ≤ b by omega)
  rw [Rat.intCast_add] at this
  exact this
theorem inc_low {f : List Rat} {s : Rat} {a b t : Int} (hs : Sg s) (h : IncOn s f a b) (htb : t ≤ b) (h0 : s * ev f t ≤ 0) {m : Int} (h1 : a ≤ m) (h2 : m < t) : OneOn f m := by
  refine ⟨-s, hs.neg, fun x hx hy => ?_⟩
  have k1 := Rat.intCast_le_intCast.mpr h1
  have k2 := cast_lt h2
  have k3 := Rat.intCast_le_intCast.mpr htb
  have := h x t (by grind (ematch := 0)) (by grind (ematch := 0)) k3
  grind (ematch := 0)
theorem inc_high {f : List Rat} {s : Rat} {a b t : Int} (hs : Sg s) (h : IncOn s f a b) (hat : a ≤ t) (h0 : 0 ≤ s * ev f t) {m : Int} (h1 : t < m) (h2 : m < b) : OneOn f m := by
  refine ⟨s, hs, fun x hx hy => ?_⟩
  have k1 := cast_lt h1
  have k2 := cast_lt h2
  have k3 := Rat.intCast_le_intCast.mpr hat
  have := h t x k3 (by grind (ematch := 0)) (by grind (ematch := 0))
  grind (ematch := 0)
theorem inc_from {f : List Rat} {s : Rat} {a b t : Int} (hs : Sg s) (h : IncOn s f a b) (hat : a ≤ t) (h0 : 0 < s * ev f t) {m : Int} (h1 : t ≤ m) (h2 : m < b) : OneOn f m := by
  by_cases c : t = m
  · subst c
    refine ⟨s, hs, fun x hx hy => ?_⟩
    by_cases e : x = (t : Rat)
    · rw [e]
      exact h0
    · have k2 := cast_lt h2
      have k3 := Rat.intCast_le_intCast.mpr hat
      have := h t x k3 (by grind (ematch := 0)) (by grind (ematch := 0))
      grind (ematch := 0)
  · exact inc_high hs h hat (Rat.le_of_lt h0) (by omega) h2
/-! whole rows -/
def evZ : List Int → Int → Int
  | [], _ => 0
  | c :: t, m => evZ t m * m + c
def zq (f : List Int) : List Rat := f.map fun (i : Int) => (i : Rat)
theorem ev_zq : ∀ (f : List Int) (m : Int), ev (zq f) (m : Rat) = ((evZ f m : Int) : Rat)
  | [], m => by
    show (0 : Rat) = ((0 : Int) : Rat)
    simp
  | c :: t, m => by
    have h := ev_zq t m
    show ev (zq t) (m : Rat) * (m : Rat) + (c : Rat) = ((evZ t m * m + c : Int) : Rat)
    rw [h, Rat.intCast_add, Rat.intCast_mul]
def derZF : Int → List Int → List Int
  | _, [] => []
  | k, c :: t => k * c :: derZF (k + 1) t
def derZ (f : List Int) : List Int := derZF 1 f.tail
theorem zq_derF : ∀ (t : List Int) (k : Int), zq (derZF k t) = derF (k : Rat) (zq t)
  | [], k => rfl
  | c :: t, k => by
    have h := zq_derF t (k + 1)
    show ((k * c : Int) : Rat) :: zq (derZF (k + 1) t) = (k : Rat) * (c : Rat) :: derF ((k : Rat) + 1) (zq t)
    rw [h, Rat.intCast_mul, Rat.intCast_add]
    rfl
theorem zq_der (f : List Int) : zq (derZ f) = der (zq f) := by
  unfold derZ der
  rw [zq_derF]
  cases f <;> rfl
/-- every cell but those of Q has one sign -/
def CellInv (f : List Int) (Q : List Int) : Prop := ∀ m : Int, m ∈ Q ∨ OneOn (zq f) m
/-- how a turning place answers on [a, b] -/
def Turn (f : List Int) (a b : Int) (t : Option Int) : Prop := ∀ m : Int, a ≤ m → m < b → t = some m ∨ OneOn (zq f) m
def MonoOn (f : List Int) (a b : Int) : Prop := ∃ s, Sg s ∧ IncOn s (zq f) a b
theorem mono_of {f : List Int} {a b : Int} (hab : a ≤ b) (h : ∀ m : Int, a ≤ m → m < b → OneOn (zq (derZ f)) m) : MonoOn f a b := by
  obtain ⟨s, hs, hp⟩ := glue' hab h
  rw [zq_der] at hp
  exact ⟨s, hs, inc_of_pos hs hp⟩
theorem cast_pos {i : Int} (h : 0 < i) : (1 : Rat) ≤ (i : Rat) := by
  have := cast_lt h
  have e : ((0 : Int) : Rat) = 0 := rfl
  rw [e] at this
  grind
theorem cast_neg {i : Int} (h : i < 0) : (i : Rat) ≤ -1 := by
  have := cast_lt h
  have e : ((0 : Int) : Rat) = 0 := rfl
  rw [e] at this
  grind
theorem turn_zero {f : List Int} {a b t : Int} (h : MonoOn f a b) (h1 : a ≤ t) (h2 : t ≤ b) (h0 : evZ f t = 0) : Turn f a b (some t) := by
  obtain ⟨s, hs, hi⟩ := h
  have e : s * ev (zq f) t = 0 := by
    rw [ev_zq, h0]
    have : ((0 : Int) : Rat) = 0 := rfl
    rw [this]
    grind
  intro m m1 m2
  by_cases c : m = t
  · exact .inl (by rw [c])
  · right
    by_cases c2 : m < t
    · exact inc_low hs hi h2 (by grind) m1 c2
    · exact inc_high hs hi h1 (by grind) (by omega) m2
theorem turn_same {f : List Int} {a b : Int} (hab : a ≤ b) (h : MonoOn f a b) (ha : evZ f a ≠ 0) (hb : evZ f b ≠ 0) (hs' : decide (evZ f a < 0) = decide (evZ f b < 0)) : Turn f a b none := by
  obtain ⟨s, hs, hi⟩ := h
  have hs'' := decide_eq_decide.mp hs'
  intro m m1 m2
  right
  have ea := ev_zq f a
  have eb := ev_zq f b
  by_cases c : 0 < s * ev (zq f) a
  · exact inc_from hs hi (Int.le_refl _) c m1 m2
  · refine inc_low hs hi (Int.le_refl _) ?_ m1 m2
    rw [ea] at c
    rw [eb]
    by_cases n : evZ f a < 0
    · have h1 := cast_neg n
      have h2 := cast_neg (hs''.mp n)
      rcases hs with rfl | rfl <;> grind
    · have h1 := cast_pos (show 0 < evZ f a by omega)
      have h2 := cast_pos (show 0 < evZ f b by omega)
      rcases hs with rfl | rfl <;> grind
theorem turn_cut {f : List Int} {a b u : Int} (h : MonoOn f a b) (h1 : a ≤ u) (h2 : u + 1 ≤ b) (hu : evZ f u ≠ 0) (hv : evZ f (u + 1) ≠ 0) (ha : evZ f a ≠ 0) (hb : evZ f b ≠ 0)
    (hab : decide (evZ f a < 0) ≠ decide (evZ f b < 0)) (hua : decide (evZ f u < 0) = decide (evZ f a < 0)) (hvb : decide (evZ f (u + 1) < 0) = decide (evZ f b < 0)) : Turn f a b (some u) := by
  obtain ⟨s, hs, hi⟩ := h
  rw [← hua, ← hvb] at hab
  have hd : ¬ (evZ f u < 0 ↔ evZ f (u + 1) < 0) := fun z => hab (decide_eq_decide.mpr z)
  intro m m1 m2
  by_cases c : m = u
  · exact .inl (by rw [c])
  · right
    have eu := ev_zq f u
    have ev' := ev_zq f (u + 1)
    have hlt := hi u (u + 1 : Int) (Rat.intCast_le_intCast.mpr h1) (Rat.intCast_lt_intCast.mpr (by omega)) (Rat.intCast_le_intCast.mpr h2)
    have key : s * ev (zq f) u ≤ 0 ∧ 0 ≤ s * ev (zq f) ((u + 1 : Int) : Rat) := by
      rw [eu, ev'] at hlt ⊢
      by_cases n : evZ f u < 0
      · have n2 : 0 < evZ f (u + 1) := by
          by_cases z : evZ f (u + 1) < 0
          · exact absurd ⟨fun _ => z, fun _ => n⟩ hd
          · omega
        have k1 := cast_neg n
        have k2 := cast_pos n2
        rcases hs with rfl | rfl <;> grind
      · have n2 : evZ f (u + 1) < 0 := by
          by_cases z : evZ f (u + 1) < 0
          · exact z
          · exact absurd ⟨fun y => absurd y n, fun y => absurd y z⟩ hd
        have k1 := cast_pos (show 0 < evZ f u by omega)
        have k2 := cast_neg n2
        rcases hs with rfl | rfl <;> grind
    by_cases c2 : m < u
    · exact inc_low hs hi (by omega) key.1 m1 c2
    · by_cases c3 : m = u + 1
      · subst c3
        have hpos : 0 < s * ev (zq f) ((u + 1 : Int) : Rat) := by
          have hne : ((evZ f (u + 1) : Int) : Rat) ≠ 0 := fun z => hv (Rat.intCast_inj.mp z)
          rw [ev'] at key ⊢
          rcases hs with rfl | rfl <;> grind
        exact inc_from hs hi (by omega) hpos (Int.le_refl _) m2
      · exact inc_high hs hi (by omega) key.2 (by omega) m2
/-- far out -/
theorem far {N : Rat} (hN : 0 ≤ N) : ∀ f : List Int, (∃ c, f.getLast? = some c ∧ c ≠ 0) → (∀ c ∈ f, -N ≤ (c : Rat) ∧ (c : Rat) ≤ N) →
    (∃ s, Sg s ∧ ∀ x : Rat, 1 + N ≤ x → 1 ≤ s * ev (zq f) x) ∧ (∃ s, Sg s ∧ ∀ x : Rat, x ≤ -(1 + N) → 1 ≤ s * ev (zq f) x)
  | [], h, _ => by
    obtain ⟨c, h, _⟩ := h
    cases h
  | [c], h, hb => by
    obtain ⟨d, hd, h0⟩ := h
    have e : c = d := Option.some.inj hd
    subst e
    have key : ∃ s, Sg s ∧ ∀ x : Rat, 1 ≤ s * ev (zq [c]) x := by
      have ee : ∀ x : Rat, ev (zq [c]) x = (c : Rat) := fun x => by
        show (0 : Rat) * x + (c : Rat) = c
        grind
      by_cases n : c < 0
      · have := cast_neg n
        exact ⟨-1, .inr rfl, fun x => by rw [ee]; grind⟩
      · have := cast_pos (show 0 < c by omega)
        exact ⟨1, .inl rfl, fun x => by rw [ee]; grind⟩
    obtain ⟨s, hs, hk⟩ := key
    exact ⟨⟨s, hs, fun x _ => hk x⟩, ⟨s, hs, fun x _ => hk x⟩⟩
  | c :: d :: t, h, hb => by
    rw [List.getLast?_cons_cons] at h
    obtain ⟨⟨s, hs, hk⟩, s', hs', hk'⟩ := far hN (d :: t) h fun x hx => hb x (List.mem_cons_of_mem _ hx)
    obtain ⟨c1, c2⟩ := hb c (List.mem_cons_self ..)
    refine ⟨⟨s, hs, fun x hx => ?_⟩, -s', hs'.neg, fun x hx => ?_⟩
    · show 1 ≤ s * (ev (zq (d :: t)) x * x + (c : Rat))
      have k := hk x hx
      generalize ev (zq (d :: t)) x = v at k
      have p := Rat.mul_nonneg (show 0 ≤ s * v - 1 by grind (ematch := 0)) (show 0 ≤ x by grind (ematch := 0))
      rcases hs with rfl | rfl <;> grind (ematch := 0)
    · show 1 ≤ -s' * (ev (zq (d :: t)) x * x + (c : Rat))
      have k := hk' x hx
      generalize ev (zq (d :: t)) x = v at k
      have p := Rat.mul_nonneg (show 0 ≤ s' * v - 1 by grind (ematch := 0)) (show 0 ≤ -x by grind (ematch := 0))
      rcases hs' with rfl | rfl <;> grind (ematch := 0)
theorem one_far {N : Int} {f : List Int} (hN : 0 ≤ N) (hl : ∃ c, f.getLast? = some c ∧ c ≠ 0) (hb : ∀ c ∈ f, (c.natAbs : Int) ≤ N) {m : Int} (hm : m < -(1 + N) ∨ 1 + N ≤ m) : OneOn (zq f) m := by
  have hN' : (0 : Rat) ≤ (N : Rat) := Rat.intCast_le_intCast.mpr hN
  obtain ⟨⟨s, hs, hk⟩, s', hs', hk'⟩ := far hN' f hl fun c hc => by
    have h := hb c hc
    have h1 := Rat.intCast_le_intCast.mpr (show c ≤ N by omega)
    have h2 := Rat.intCast_le_intCast.mpr (show -N ≤ c by omega)
    rw [Rat.intCast_neg] at h2
    exact ⟨h2, h1⟩
  rcases hm with hm | hm
  · refine ⟨s', hs', fun x h1 h2 => ?_⟩
    have k := cast_lt hm
    rw [Rat.intCast_neg, Rat.intCast_add] at k
    have e1 : ((1 : Int) : Rat) = 1 := rfl
    rw [e1] at k
    have := hk' x (by grind (ematch := 0))
    grind (ematch := 0)
  · refine ⟨s, hs, fun x h1 h2 => ?_⟩
    have k := Rat.intCast_le_intCast.mpr hm
    rw [Rat.intCast_add] at k
    have e1 : ((1 : Int) : Rat) = 1 := rfl
    rw [e1] at k
    have := hk x (by grind (ematch := 0))
    grind (ematch := 0)
/-- a row of one number that is not 0 -/
theorem inv_const {c : Int} (hc : c ≠ 0) : CellInv [c] [] := fun m => by
  right
  have ee : ∀ x : Rat, ev (zq [c]) x = (c : Rat) := fun x => by
    show (0 : Rat) * x + (c : Rat) = c
    grind
  by_cases n : c < 0
  · have := cast_neg n
    exact ⟨-1, .inr rfl, fun x _ _ => by rw [ee]; grind⟩
  · have := cast_pos (show 0 < c by omega)
    exact ⟨1, .inl rfl, fun x _ _ => by rw [ee]; grind⟩
/-- whole roots lie in Q -/
theorem inv_root {f : List Int} {Q : List Int} (h : CellInv f Q) {m : Int} (h0 : evZ f m = 0) : m ∈ Q := by
  rcases h m with h | ⟨s, hs, hp⟩
  · exact h
  · have := hp m (by grind) (by grind)
    rw [ev_zq, h0] at this
    have e : ((0 : Int) : Rat) = 0 := rfl
    rw [e] at this
    grind
end Kw
/-! cleared, stretched; whole roots of a monic row; sizes -/
namespace Kw
def lcmL (g : List Rat) : Nat := g.foldl (fun b q => Nat.lcm b q.den) 1
def clearF (g : List Rat) : List Int := g.map fun q => q.num * ((lcmL g / q.den : Nat) : Int)
theorem lcm_from : ∀ (g : List Rat) (b : Nat), b ∣ g.foldl (fun b q => Nat.lcm b q.den) b ∧ (∀ q ∈ g, q.den ∣ g.foldl (fun b q => Nat.lcm b q.den) b) ∧ (0 < b → 0 < g.foldl (fun b q => Nat.lcm b q.den) b)
  | [], b => ⟨Nat.dvd_refl b, fun q h => by simp at h, fun h => h⟩
  | q :: g, b => by
    obtain ⟨h1, h2, h3⟩ := lcm_from g (Nat.lcm b q.den)
    refine ⟨Nat.dvd_trans (Nat.dvd_lcm_left b q.den) h1, fun x hx => ?_, fun hb => h3 (Nat.lcm_pos hb q.den_pos)⟩
    rcases List.mem_cons.mp hx with rfl | hx
    · exact Nat.dvd_trans (Nat.dvd_lcm_right b x.den) h1
    · exact h2 x hx
theorem lcm_dvd : ∀ (g : List Rat) (b n : Nat), b ∣ n → (∀ q ∈ g, q.den ∣ n) → g.foldl (fun b q => Nat.lcm b q.den) b ∣ n
  | [], _, _, h, _ => h
  | q :: g, b, n, h, hg => lcm_dvd g _ n (Nat.lcm_dvd h (hg q (List.mem_cons_self ..))) fun x hx => hg x (List.mem_cons_of_mem _ hx)
theorem lcm_pos (g : List Rat) : 0 < lcmL g := (lcm_from g 1).2.2 (by decide)
theorem num_den (q : Rat) : (q.num : Rat) = q * (q.den : Rat) := by
  have h := Rat.mkRat_self q
  have h2 : q = (q.num : Rat) / (q.den : Rat) := by
    conv => lhs; rw [← h]
    exact Rat.mkRat_eq_div ..
  have h3 : (q.den : Rat) ≠ 0 := by
    intro z
    have := q.den_pos
    have z2 : ((q.den : Int) : Rat) = ((0 : Int) : Rat) := by
      rw [cast_ni]
      exact z
    have := Rat.intCast_inj.mp z2
    omega
  generalize (q.num : Rat) = a at *
  generalize (q.den : Rat) = b at *
  rw [h2]
  grind
theorem clear_one {q : Rat} {B : Nat} (h : q.den ∣ B) : ((q.num * ((B / q.den : Nat) : Int) : Int) : Rat) = (B : Rat) * q := by
  obtain ⟨k, rfl⟩ := h
  rw [Nat.mul_div_cancel_left k q.den_pos, Rat.intCast_mul, num_den, cast_ni]
  have : ((q.den * k : Nat) : Rat) = (q.den : Rat) * (k : Rat) := by simp
  rw [this]
  grind
theorem ev_smul (b x : Rat) : ∀ g : List Rat, ev (g.map fun q => b * q) x = b * ev g x
  | [] => by
    show (0 : Rat) = b * 0
    grind
  | c :: t => by
    have h := ev_smul b x t
    show ev (t.map fun q => b * q) x * x + b * c = b * (ev t x * x + c)
    rw [h]
    grind
theorem zq_clear (g : List Rat) : zq (clearF g) = g.map fun q => (lcmL g : Rat) * q := by
  unfold zq clearF
  rw [List.map_map]
  exact List.map_congr_left fun q hq => clear_one ((lcm_from g 1).2.1 q hq)
theorem nat_ne {n : Nat} (h : 0 < n) : (n : Rat) ≠ 0 := by
  intro z
  have z2 : ((n : Int) : Rat) = ((0 : Int) : Rat) := by
    rw [cast_ni]
    exact z
  have := Rat.intCast_inj.mp z2
  omega
theorem clear_root (g : List Rat) (x : Rat) : ev (zq (clearF g)) x = 0 ↔ ev g x = 0 := by
  have := nat_ne (lcm_pos g)
  rw [zq_clear, ev_smul]
  generalize (lcmL g : Rat) = b at *
  constructor
  · intro h
    grind
  · intro h
    rw [h]
    grind
/-- stretched by the lead -/
def strF (L : Int) : List Int → List Int
  | [] => [1]
  | c :: t => c * L ^ t.length :: strF L t
theorem str_ev (L : Int) (x : Rat) : ∀ t : List Int, ev (zq (strF L t)) ((L : Rat) * x) * (L : Rat) = (L : Rat) ^ t.length * ev (zq (t ++ [L])) x
  | [] => by
    show ((0 : Rat) * _ + ((1 : Int) : Rat)) * (L : Rat) = (L : Rat) ^ 0 * ((0 : Rat) * x + (L : Rat))
    have : ((1 : Int) : Rat) = 1 := rfl
    rw [this]
    grind
  | c :: t => by
    have h := str_ev L x t
    show (ev (zq (strF L t)) ((L : Rat) * x) * ((L : Rat) * x) + ((c * L ^ t.length : Int) : Rat)) * (L : Rat) = (L : Rat) ^ (t.length + 1) * (ev (zq (t ++ [L])) x * x + (c : Rat))
    rw [Rat.intCast_mul, Rat.intCast_pow]
    generalize ev (zq (t ++ [L])) x = u at *
    generalize ev (zq (strF L t)) ((L : Rat) * x) = v at *
    generalize hk : (L : Rat) ^ t.length = k at *
    have : (L : Rat) ^ (t.length + 1) = k * (L : Rat) := by rw [← hk]; exact Rat.pow_succ ..
    rw [this]
    grind
theorem str_root {L : Int} (hL : L ≠ 0) (t : List Int) (x : Rat) : ev (zq (strF L t)) ((L : Rat) * x) = 0 ↔ ev (zq (t ++ [L])) x = 0 := by
  have h := str_ev L x t
  have h0 : (L : Rat) ≠ 0 := fun z => hL (Rat.intCast_inj.mp z)
  have hp : (L : Rat) ^ t.length ≠ 0 := by
    generalize t.length = n
    induction n with
    | zero => grind
    | succ n ih =>
      rw [Rat.pow_succ]
      grind
  generalize ev (zq (t ++ [L])) x = u at *
  generalize ev (zq (strF L t)) ((L : Rat) * x) = v at *
  generalize (L : Rat) ^ t.length = k at *
  constructor
  · intro z
    grind
  · intro z
    grind
theorem str_last (L : Int) : ∀ t : List Int, (strF L t).getLast? = some 1
  | [] => rfl
  | c :: t => by
    have h := str_last L t
    show (_ :: strF L t).getLast? = _
    cases hs : strF L t with
    | nil => rw [hs] at h; cases h
    | cons a l => rw [List.getLast?_cons_cons, ← hs, h]
theorem str_len (L : Int) : ∀ t : List Int, (strF L t).length = t.length + 1
  | [] => rfl
  | c :: t => by
    show (strF L t).length + 1 = _
    rw [str_len L t]
    rfl
/-- the value over the bottom's power -/
theorem ev_hom (x : Rat) : ∀ (f : List Int) (l : Int), f.getLast? = some l → ∃ k : Int, ev (zq f) x * (x.den : Rat) ^ (f.length - 1) = (((x.num) ^ (f.length - 1) * l + x.den * k : Int) : Rat)
  | [], l, h => by cases h
  | [c], l, h => by
    have e : c = l := Option.some.inj h
    refine ⟨0, ?_⟩
    show ((0 : Rat) * x + (c : Rat)) * (x.den : Rat) ^ 0 = ((x.num ^ 0 * l + x.den * 0 : Int) : Rat)
    rw [e, show (x.num ^ 0 * l + x.den * 0 : Int) = l by simp]
    grind
  | c :: d :: t, l, h => by
    rw [List.getLast?_cons_cons] at h
    obtain ⟨k, hk⟩ := ev_hom x (d :: t) l h
    have e1 : (d :: t).length - 1 = t.length := rfl
    rw [e1] at hk
    refine ⟨k * x.num + c * (x.den : Int) ^ t.length, ?_⟩
    show (ev (zq (d :: t)) x * x + (c : Rat)) * (x.den : Rat) ^ (t.length + 1) = ((x.num ^ (t.length + 1) * l + x.den * (k * x.num + c * (x.den : Int) ^ t.length) : Int) : Rat)
    have e2 : (x.num ^ (t.length + 1) * l + x.den * (k * x.num + c * (x.den : Int) ^ t.length) : Int) = (x.num ^ t.length * l + x.den * k) * x.num + c * ((x.den : Int) ^ t.length * x.den) := by
      rw [Int.pow_succ]
      grind
    rw [e2, Rat.intCast_add, Rat.intCast_mul, Rat.intCast_mul, ← hk, Rat.intCast_mul, Rat.intCast_pow, cast_ni, num_den, Rat.pow_succ]
    grind
theorem den_one {f : List Int} (h1 : f.getLast? = some 1) {x : Rat} (h0 : ev (zq f) x = 0) : x.den = 1 := by
  obtain ⟨k, hk⟩ := ev_hom x f 1 h1
  rw [h0] at hk
  have z : (((x.num) ^ (f.length - 1) * 1 + x.den * k : Int) : Rat) = ((0 : Int) : Rat) := by
    rw [← hk]
    show (0 : Rat) * _ = 0
    grind
  have z2 := Rat.intCast_inj.mp z
  have hd : ((x.den : Nat) : Int) ∣ x.num ^ (f.length - 1) := ⟨-k, by grind⟩
  have hd2 : x.den ∣ x.num.natAbs ^ (f.length - 1) := by
    have := Int.natAbs_dvd_natAbs.mpr hd
    rw [Int.natAbs_pow] at this
    simpa using this
  exact (Nat.Coprime.pow_left (f.length - 1) x.reduced).symm.eq_one_of_dvd hd2
theorem whole_of {x : Rat} (h : x.den = 1) : x = (x.num : Rat) := by
  rw [num_den, h]
  grind
/-- the roots told from the whole roots of the stretched row -/
def topsF (S : List Int) (Q : List Int) : List Int := Q.filter fun m => decide (evZ S m = 0)
def rsF (L : Int) (tops : List Int) : List Rat := (if L < 0 then tops.reverse else tops).map fun t => Rat.divInt t L
theorem divInt_val {t L : Int} (hL : L ≠ 0) : (L : Rat) * Rat.divInt t L = (t : Rat) := by
  have h0 : (L : Rat) ≠ 0 := fun z => hL (Rat.intCast_inj.mp z)
  rw [Rat.divInt_eq_div]
  grind
theorem roots_right {t : List Int} {L : Int} (hL : L ≠ 0) {Q : List Int} (hQ : CellInv (strF L t) Q) (x : Rat) : x ∈ rsF L (topsF (strF L t) Q) ↔ ev (zq (t ++ [L])) x = 0 := by
  have hm : x ∈ rsF L (topsF (strF L t) Q) ↔ ∃ m, m ∈ topsF (strF L t) Q ∧ Rat.divInt m L = x := by
    unfold rsF
    rw [List.mem_map]
    split
    · simp only [List.mem_reverse]
    · exact Iff.rfl
  rw [hm, ← str_root hL]
  constructor
  · rintro ⟨m, h1, h2⟩
    have h3 := of_decide_eq_true (List.mem_filter.mp h1).2
    rw [← h2, divInt_val hL, ev_zq, h3]
    rfl
  · intro h
    have hd := den_one (str_last L t) h
    have hw := whole_of hd
    rw [hw, ev_zq] at h
    have h0 : evZ (strF L t) ((L : Rat) * x).num = 0 := Rat.intCast_inj.mp h
    refine ⟨((L : Rat) * x).num, List.mem_filter.mpr ⟨inv_root hQ h0, decide_eq_true h0⟩, ?_⟩
    have e := divInt_val (t := ((L : Rat) * x).num) hL
    rw [← hw] at e
    have hL0 : (L : Rat) ≠ 0 := fun z => hL (Rat.intCast_inj.mp z)
    grind
theorem divInt_le {a b L : Int} (h : a ≤ b) (hL : 0 < L) : Rat.divInt a L ≤ Rat.divInt b L := by
  have e1 := divInt_val (t := a) (L := L) (by omega)
  have e2 := divInt_val (t := b) (L := L) (by omega)
  have k := Rat.intCast_le_intCast.mpr h
  have hp := cast_pos hL
  rw [← e1, ← e2] at k
  apply Classical.byContradiction
  intro n
  have := Rat.mul_pos (show (0 : Rat) < (L : Rat) by grind) (show 0 < Rat.divInt a L - Rat.divInt b L by grind)
  grind
theorem divInt_ge {a b L : Int} (h : a ≤ b) (hL : L < 0) : Rat.divInt b L ≤ Rat.divInt a L := by
  have e1 := divInt_val (t := a) (L := L) (by omega)
  have e2 := divInt_val (t := b) (L := L) (by omega)
  have k := Rat.intCast_le_intCast.mpr h
  have hp := cast_neg hL
  rw [← e1, ← e2] at k
  apply Classical.byContradiction
  intro n
  have := Rat.mul_pos (show (0 : Rat) < -(L : Rat) by grind) (show 0 < Rat.divInt b L - Rat.divInt a L by grind)
  grind
theorem rs_sorted {S Q : List Int} {L : Int} (hL : L ≠ 0) (hQ : Q.Pairwise (· ≤ ·)) : (rsF L (topsF S Q)).Pairwise (· ≤ ·) := by
  have h1 : (topsF S Q).Pairwise (· ≤ ·) := hQ.filter _
  unfold rsF
  rw [List.pairwise_map]
  split
  · rename_i h
    rw [List.pairwise_reverse]
    exact h1.imp fun h2 => divInt_ge h2 h
  · rename_i h
    exact h1.imp fun h2 => divInt_le h2 (by omega)
theorem rs_len (L : Int) (S Q : List Int) : (rsF L (topsF S Q)).length ≤ Q.length := by
  unfold rsF
  rw [List.length_map]
  have h := List.length_filter_le (fun m => decide (evZ S m = 0)) Q
  split
  · rw [List.length_reverse]
    exact h
  · exact h
/-! sizes -/
def Big (b : Nat) (f : List Int) : Prop := ∀ c ∈ f, c.natAbs < 2 ^ b
theorem evZ_size {b : Nat} {m : Int} (hm : m.natAbs ≤ 2 ^ b) : ∀ f : List Int, Big b f → (evZ f m).natAbs < 2 ^ ((b + 1) * f.length)
  | [], _ => by simp [evZ]
  | c :: t, h => by
    have h1 := evZ_size hm t fun x hx => h x (List.mem_cons_of_mem _ hx)
    have h2 := h c (List.mem_cons_self ..)
    show (evZ t m * m + c).natAbs < 2 ^ ((b + 1) * (t.length + 1))
    have h3 : (evZ t m * m + c).natAbs ≤ (evZ t m).natAbs * m.natAbs + c.natAbs := by
      have := Int.natAbs_add_le (evZ t m * m) c
      rw [Int.natAbs_mul] at this
      exact this
    have h4 := Nat.mul_le_mul (Nat.le_of_lt_succ (Nat.lt_succ_of_lt h1)) hm
    have e : (2 : Nat) ^ ((b + 1) * (t.length + 1)) = 2 * (2 ^ ((b + 1) * t.length) * 2 ^ b) := by
      rw [Nat.mul_add, Nat.mul_one, Nat.pow_add, Nat.pow_add, Nat.pow_one]
      simp [Nat.mul_comm, Nat.mul_left_comm, Nat.mul_assoc]
    have h5 : 2 ^ b ≤ 2 ^ ((b + 1) * t.length) * 2 ^ b := Nat.le_mul_of_pos_left _ (Nat.pow_pos (by decide))
    omega
theorem big_drop {b : Nat} {f : List Int} (h : Big b f) (k : Nat) : Big b (f.drop k) := fun c hc => h c (List.mem_of_mem_drop hc)
theorem derZF_big {b : Nat} : ∀ (t : List Int) (k : Nat), k + t.length ≤ 16 → Big b t → Big (b + 4) (derZF k t)
  | [], _, _, _ => fun c hc => by simp [derZF] at hc
  | c :: t, k, hk, h => by
    intro x hx
    rw [List.length_cons] at hk
    rcases List.mem_cons.mp hx with rfl | hx
    · rw [Int.natAbs_mul, Nat.pow_add]
      have h1 := h c (List.mem_cons_self ..)
      have h2 : (k : Int).natAbs < 16 := by omega
      have : 2 ^ b * 2 ^ 4 = 16 * 2 ^ b := by omega
      rw [this]
      exact Nat.mul_lt_mul'' h2 h1
    · have e : ((k : Int) + 1) = ((k + 1 : Nat) : Int) := by omega
      rw [e] at hx
      exact derZF_big t (k + 1) (by omega) (fun y hy => h y (List.mem_cons_of_mem _ hy)) x hx
theorem derZF_len : ∀ (t : List Int) (k : Int), (derZF k t).length = t.length
  | [], _ => rfl
  | c :: t, k => by
    show (derZF (k + 1) t).length + 1 = _
    rw [derZF_len t]
    rfl
theorem derZ_len (f : List Int) : (derZ f).length = f.length - 1 := by
  unfold derZ
  rw [derZF_len, List.length_tail]
theorem derZ_big {b : Nat} {f : List Int} (hl : f.length ≤ 12) (h : Big b f) : Big (b + 4) (derZ f) := by
  have e : derZ f = derZF ((1 : Nat) : Int) f.tail := rfl
  rw [e]
  exact derZF_big _ _ (by rw [List.length_tail]; omega) fun c hc => h c (List.mem_of_mem_tail hc)
theorem derZF_last : ∀ (t : List Int) (k : Int), 0 < k → (∃ c, t.getLast? = some c ∧ c ≠ 0) → ∃ c, (derZF k t).getLast? = some c ∧ c ≠ 0
  | [], _, _, h => by
    obtain ⟨c, h, _⟩ := h
    cases h
  | [c], k, hk, h => by
    obtain ⟨d, h, h0⟩ := h
    have e : c = d := Option.some.inj h
    subst e
    exact ⟨k * c, rfl, Int.mul_ne_zero (by omega) h0⟩
  | c :: d :: t, k, hk, h => by
    rw [List.getLast?_cons_cons] at h
    obtain ⟨x, h1, h2⟩ := derZF_last (d :: t) (k + 1) (by omega) h
    refine ⟨x, ?_, h2⟩
    show (k * c :: (k + 1) * d :: derZF (k + 1 + 1) t).getLast? = _
    rw [List.getLast?_cons_cons]
    exact h1
theorem derZ_last {f : List Int} (h2 : 2 ≤ f.length) (h : ∃ c, f.getLast? = some c ∧ c ≠ 0) : ∃ c, (derZ f).getLast? = some c ∧ c ≠ 0 := by
  match f, h2 with
  | c :: d :: t, _ =>
    rw [List.getLast?_cons_cons] at h
    exact derZF_last (d :: t) 1 (by decide) h
/-- the k-th slopes -/
def dn (f : List Int) : Nat → List Int
  | 0 => f
  | k + 1 => derZ (dn f k)
theorem dn_len (f : List Int) : ∀ k, (dn f k).length = f.length - k
  | 0 => rfl
  | k + 1 => by
    show (derZ (dn f k)).length = _
    rw [derZ_len, dn_len f k]
    omega
theorem dn_big {b : Nat} {f : List Int} (hl : f.length ≤ 12) (h : Big b f) : ∀ k, Big (b + 4 * k) (dn f k)
  | 0 => h
  | k + 1 => derZ_big (by rw [dn_len]; omega) (dn_big hl h k)
theorem dn_last {f : List Int} (h : ∃ c, f.getLast? = some c ∧ c ≠ 0) : ∀ k, k < f.length → ∃ c, (dn f k).getLast? = some c ∧ c ≠ 0
  | 0, _ => h
  | k + 1, hk => derZ_last (by rw [dn_len]; omega) (dn_last h k (by omega))
theorem big_mono {b c : Nat} {f : List Int} (h : b ≤ c) (hf : Big b f) : Big c f := fun x hx => Nat.lt_of_lt_of_le (hf x hx) (Nat.pow_le_pow_right (by decide) h)
theorem str_big {b : Nat} {L : Int} (hL : L.natAbs < 2 ^ b) : ∀ t : List Int, Big b t → Big (b * t.length + 1) (strF L t)
  | [], _ => fun c hc => by
    have e : c = 1 := by simpa [strF] using hc
    rw [e]
    show 1 < 2 ^ (b * 0 + 1)
    simp
  | c :: t, h => by
    have h1 := str_big hL t fun x hx => h x (List.mem_cons_of_mem _ hx)
    intro x hx
    rcases List.mem_cons.mp hx with rfl | hx
    · rw [Int.natAbs_mul, Int.natAbs_pow]
      have h2 := h c (List.mem_cons_self ..)
      have h3 : L.natAbs ^ t.length ≤ 2 ^ (b * t.length) := by
        rw [Nat.pow_mul]
        exact Nat.pow_le_pow_left (by omega) _
      have h4 : c.natAbs * L.natAbs ^ t.length ≤ 2 ^ b * 2 ^ (b * t.length) := Nat.mul_le_mul (by omega) h3
      rw [List.length_cons, Nat.pow_succ, Nat.mul_add, Nat.mul_one, Nat.pow_add]
      have : 0 < 2 ^ (b * t.length) * 2 ^ b := Nat.mul_pos (Nat.pow_pos (by decide)) (Nat.pow_pos (by decide))
      rw [Nat.mul_comm (2 ^ b)] at h4
      omega
    · refine big_mono ?_ h1 x hx
      rw [List.length_cons, Nat.mul_add]
      omega
theorem pow_up {a c n : Nat} (h : a < 2 ^ c) (hn : n ≠ 0) : a ^ n < 2 ^ (c * n) := by
  rw [Nat.pow_mul]
  exact Nat.pow_lt_pow_left h hn
theorem clear_big {g : List Rat} (h : Bds 100 g) : Big 800 (clearF g) ∧ lcmL g < 2 ^ 300 := by
  have hd : lcmL g ∣ 6 ^ 100 := lcm_dvd g 1 _ (Nat.one_dvd _) fun q hq => (bq_size (h q hq)).2.2
  have hle : lcmL g ≤ 6 ^ 100 := Nat.le_of_dvd (Nat.pow_pos (by decide)) hd
  have h6 : 6 ^ 100 < 2 ^ (3 * 100) := pow_up (by decide) (by decide)
  have h24 : 24 ^ 100 < 2 ^ (5 * 100) := pow_up (by decide) (by decide)
  refine ⟨fun c hc => ?_, Nat.lt_of_le_of_lt hle h6⟩
  obtain ⟨q, hq, rfl⟩ := List.mem_map.mp hc
  rw [Int.natAbs_mul]
  have h1 := (bq_size (h q hq)).1
  have h2 : (((lcmL g / q.den : Nat) : Int)).natAbs ≤ 6 ^ 100 := by
    rw [Int.natAbs_natCast]
    exact Nat.le_trans (Nat.div_le_self ..) hle
  rw [show 800 = 5 * 100 + 3 * 100 from rfl, Nat.pow_add]
  exact Nat.mul_lt_mul'' (Nat.lt_of_le_of_lt h1 h24) (Nat.lt_of_le_of_lt h2 h6)
end Kw
set_option maxHeartbeats 4000000
namespace Kw
open PySem PySem.Spec PyProof.Rows L2 RT
local macro_rules | `(tactic| walk_at "step") => `(tactic| with_reducible first
  | refine g_op ?_ | refine g_c ?_ | refine g_test ?_ | refine g_bl ?_ | refine g_seq ?_ | refine g_ifS ?_ | refine g_cons ?_ | refine g_nil ?_ | refine g_I0 ?_ | refine g_asg ?_ | refine g_name ?_
  | refine g_ret ?_ | refine g_nx ?_ | refine g_cb ?_ | refine g_call ?_ | refine g_un ?_ | refine g_rU ?_ | refine g_B ?_ | refine g_and ?_ | refine g_or ?_ | refine g_not ?_ | refine g_andV ?_ | refine g_orV ?_
  | refine g_notV ?_ | refine g_ifE ?_ | refine g_drop ?_ | refine g_par ?_ | refine g_two ?_ | refine g_abs ?_ | refine g_mx ?_ | refine g_int ?_ | refine g_tup ?_ | refine g_lst ?_ | refine g_chain ?_
  | refine g_sl ?_ | refine g_nopart ?_ | refine g_part ?_ | refine g_partI ?_ | refine g_bm ?_ | refine g_sub ?_ | refine g_ip ?_ | refine g_make ?_ | refine g_forR1 ?_ | refine g_forR2 ?_ | refine g_forR3 ?_ | refine g_forL ?_ | refine g_forT ?_ | refine g_forV ?_ | refine g_forVR ?_ | refine g_forE ?_ | refine g_lcL ?_ | refine g_lcT ?_ | refine g_lcR1 ?_ | refine g_lcR2 ?_ | refine g_fld ?_ | refine g_meth ?_ | refine ite_t ?_ | refine ite_nt ?_ | refine ite_nf ?_ | refine g_eqi ?_ | refine g_nei ?_ | refine ite_f ?_ | refine g_isN_n ?_ | refine g_isN_i ?_ | refine g_isN_r ?_ | refine g_notN_n ?_ | refine g_notN_i ?_ | refine g_notN_r ?_ | refine g_isi_ib ?_ | refine g_isi_ii ?_ | refine g_isi_it ?_ | refine g_isi_nt ?_)
local macro_rules | `(tactic| walk_at "var") => `(tactic| ((with_reducible refine' g_var ?hvar ?_); (case hvar => rfl)))
local macro_rules | `(tactic| walk_at "fact") => `(tactic| first
  | ((with_reducible refine' g_ixT ?hfact ?hat ?_); (case hfact => assumption); (case hat => rfl))
  | ((with_reducible refine' g_ixL ?hfact ?hat ?_); (case hfact => assumption); (case hat => rfl)))
local macro_rules | `(tactic| walk_at "fact1") => `(tactic| first
  | ((with_reducible refine' g_lenT ?hfact ?_); (case hfact => assumption))
  | ((with_reducible refine' g_lenL ?hfact ?_); (case hfact => assumption))
  | ((with_reducible refine' g_isi_tt ?hfact ?_); (case hfact => assumption)))
local macro_rules | `(tactic| walk_at "go") => `(tactic| repeat (first | walk_at "step" | walk_at "var" | walk_at "fact" | walk_at "fact1"))
local macro_rules | `(tactic| walk_at "if") => `(tactic| with_reducible first | refine ite_d ?_ ?_ | refine ite_n ?_ ?_ | refine ite_b ?_ ?_)
local macro_rules | `(tactic| walk_at "prime") => `(tactic| refine fig_prime (by assumption) (by assumption) ?_)
local macro_rules | `(tactic| walk_at "zero") => `(tactic| refine fig_zero (by assumption) (by assumption) ?_)
local macro_rules | `(tactic| walk_at "one") => `(tactic| refine fig_one (by assumption) (by assumption) ?_)
local macro_rules | `(tactic| walk_at "meth") => `(tactic| refine fig_meth (by assumption) (by decide +kernel) ?_)
abbrev s_whole_value : Stmt := topS 33
theorem sc_whole_value : FnScope ["numbers", "place", "total", "one"] ["numbers", "place"] (C8.fnScope s_whole_value) := C8.fnScope_by (by decide +kernel)
abbrev s_cleared_numbers : Stmt := topS 34
theorem sc_cleared_numbers : FnScope ["poly", "bottom", "one"] ["poly"] (C8.fnScope s_cleared_numbers) := C8.fnScope_by (by decide +kernel)
abbrev s_stretched_numbers : Stmt := topS 35
theorem sc_stretched_numbers : FnScope ["numbers", "lead", "stretched", "factor", "one"] ["numbers"] (C8.fnScope s_stretched_numbers) := C8.fnScope_by (by decide +kernel)
abbrev s_slopes_of : Stmt := topS 36
theorem sc_slopes_of : FnScope ["numbers", "rows", "last", "power"] ["numbers"] (C8.fnScope s_slopes_of) := C8.fnScope_by (by decide +kernel)
abbrev s_turning_place : Stmt := topS 37
theorem sc_turning_place : FnScope ["numbers", "low", "high", "left", "right", "middle", "value"] ["numbers", "low", "high"] (C8.fnScope s_turning_place) := C8.fnScope_by (by decide +kernel)
abbrev s_root_places : Stmt := topS 38
theorem sc_root_places : FnScope ["numbers", "places", "poly", "wide", "one", "found", "low", "place", "met"] ["numbers"] (C8.fnScope s_root_places) := C8.fnScope_by (by decide +kernel)
abbrev s_fraction_roots : Stmt := topS 39
theorem sc_fraction_roots : FnScope ["poly", "numbers", "stretched", "lead", "tops", "place", "top"] ["poly"] (C8.fnScope s_fraction_roots) := C8.fnScope_by (by decide +kernel)
section
variable {P : Program} {w : World} {K : PySem.W.Frag} {mg : Str → Option Value} {base : Heap} {f : Addr} {fd : FuncData}
theorem g_revL {K : PySem.W.Frag} {te : TE} {σ : L2.St} {H : Hp} {Q : VK} (h : te σ H fun x H1 => ∃ a xs, x = .ref a ∧ SqL K H1 a xs ∧ ∀ p, H1 p = none → Q (.ref p) (upd H1 p (.lst xs.reverse))) : tRevL K te σ H Q := h
def LI (H : Hp) (l : Addr) (xs : List Int) : Prop := H l = some (.lst (xs.map V.int))
theorem LI.up {H H' : Hp} {l : Addr} {xs : List Int} (h : LI H l xs) (e : Same H H') : LI H' l xs := e _ _ h
theorem map_get {xs : List Int} {i : Nat} {v : V} (h : (xs.map V.int)[i]? = some v) : ∃ c, xs[i]? = some c ∧ v = .int c := by
  rw [List.getElem?_map] at h
  cases hx : xs[i]? with
  | none => rw [hx] at h; cases h
  | some c => rw [hx] at h; exact ⟨c, rfl, (Option.some.inj h).symm⟩
theorem get_map {xs : List Int} {i : Nat} {c : Int} (h : xs[i]? = some c) : (xs.map V.int)[i]? = some (.int c) := by
  rw [List.getElem?_map, h]
  rfl
theorem evZ_drop (f : List Int) (x : Int) (j : Nat) (c : Int) (h : f[j]? = some c) : evZ (f.drop j) x = evZ (f.drop (j + 1)) x * x + c := by
  obtain ⟨hj, e⟩ := List.getElem?_eq_some_iff.mp h
  rw [List.drop_eq_getElem_cons hj, e]
  rfl
/-! ### whole_value -/
def spWV : Sp := fun vs H Q _ => ∃ (l : Addr) (x : Int) (xs : List Int) (b : Nat), vs = [.ref l, .int x] ∧ LI H l xs ∧ xs.length ≤ 12 ∧ b ≤ 9000 ∧ Big b xs ∧ x.natAbs ≤ 2 ^ b ∧ Q (.int (evZ xs x)) H
theorem ok_whole_value (B : Bn mg) (F : C8.Fun K "whole_value" "whole_value" s_whole_value f fd) : FnOk P w K mg base C8.CX0 1 f fd ["numbers", "place"] spWV := by
  refine C8.fn0 F sc_whole_value (fun vs H Q E h => ?_) (fun cdv A outer s H vs Q E hr h => ?_)
  · obtain ⟨i, lo, x, y, rfl, _⟩ := h
    rfl
  · obtain ⟨l, x, xs, b, rfl, hl, hlen, hb, hbig, hx, q⟩ := h
    refine ⟨_, (pss_cons (ps_set (i := 2) sc_whole_value.nd rfl (by first | exact .inl rfl | exact .inr rfl) pe_int)
    (pss_cons (ps_for PassesOwn.never rfl (pi_revA (by rfl) B.reversed_ (pv 0)) (pg_name (i := 3) sc_whole_value.nd rfl (by first | exact .inl rfl | exact .inr rfl))
    ((pss_one (ps_set (i := 2) sc_whole_value.nd rfl (by first | exact .inl rfl | exact .inr rfl) (pe_op op_add (pe_op op_mulW (pv 2) (pv 1)) (pv 3))))))
    (pss_one (ps_ret (pv 2))))), ?_⟩
    refine go_start (show _ = [some _, some _, none, none] from rfl) ?_
    walk_at "go"
    have hml : (xs.map V.int).length = xs.length := List.length_map ..
    refine ⟨l, _, rfl, .inl ⟨SqL.of hl, lp_revL (fun i σ' Hc => ∃ x4 : Option V, σ' = [some (.ref l), some (.int x), some (.int (evZ (xs.drop (xs.length - i)) x)), x4] ∧ Hc = H) ⟨none, ?_, rfl⟩ (fun i σ' Hc h => ?_) (fun i y σ' Hc hi hy h => ?_) (fun σ' Hc h => ?_)⟩⟩
    · rw [Nat.sub_zero, List.drop_length]
      rfl
    · obtain ⟨_, _, rfl⟩ := h
      exact SqL.of hl
    · obtain ⟨x4, rfl, rfl⟩ := h
      obtain ⟨c, hc, rfl⟩ := map_get hy
      walk_at "go"
      have h1 := evZ_size hx (xs.drop (xs.length - i)) (big_drop hbig _)
      refine g_I (wide_mul (a := (b + 1) * 12) (b := b + 1) (Nat.lt_of_lt_of_le h1 (Nat.pow_le_pow_right (by decide) (Nat.mul_le_mul_left _ (by rw [List.length_drop]; omega)))) (Nat.lt_of_le_of_lt hx (Nat.pow_lt_pow_right (by decide) (by omega))) (by omega) (by omega) (by omega)) ?_
      walk_at "go"
      refine ⟨some (.int c), ?_, rfl⟩
      rw [hml] at hc hi
      have e := evZ_drop xs x (xs.length - (i + 1)) c (by rw [← hc]; congr 1; omega)
      rw [e, show xs.length - (i + 1) + 1 = xs.length - i by omega]
      rfl
    · obtain ⟨x4, rfl, rfl⟩ := h
      walk_at "go"
      rw [hml, Nat.sub_self, List.drop_zero]
      exact q
/-! ### cleared_numbers -/
def lcU (g : List Rat) (i : Nat) : Nat := (g.take i).foldl (fun b q => Nat.lcm b q.den) 1
theorem lcU_step {g : List Rat} {i : Nat} {q : Rat} (h : g[i]? = some q) : lcU g (i + 1) = Nat.lcm (lcU g i) q.den := by
  unfold lcU
  rw [List.take_add_one, h, List.foldl_append]
  rfl
theorem lcU_big {g : List Rat} (h : Bds 100 g) (i : Nat) : lcU g i < 2 ^ 300 ∧ 0 < lcU g i := by
  have hd : lcU g i ∣ 6 ^ 100 := lcm_dvd _ 1 _ (Nat.one_dvd _) fun q hq => (bq_size (h q (List.mem_of_mem_take hq))).2.2
  exact ⟨Nat.lt_of_le_of_lt (Nat.le_of_dvd (Nat.pow_pos (by decide)) hd) (pow_up (a := 6) (c := 3) (n := 100) (by decide) (by decide)), (lcm_from _ 1).2.2 (by decide)⟩
theorem den_big {g : List Rat} (h : Bds 100 g) {q : Rat} (hq : q ∈ g) : q.den < 2 ^ 300 ∧ q.num.natAbs < 2 ^ 500 :=
  ⟨Nat.lt_of_le_of_lt (bq_size (h q hq)).2.1 (pow_up (a := 6) (c := 3) (n := 100) (by decide) (by decide)), Nat.lt_of_le_of_lt (bq_size (h q hq)).1 (pow_up (a := 24) (c := 5) (n := 100) (by decide) (by decide))⟩
theorem lcm_fdiv (a b : Nat) (hb : 0 < b) : ((a : Int) * b).fdiv ((Int.gcd a b : Nat) : Int) = (Nat.lcm a b : Nat) := by
  have hg : (Int.gcd (a : Int) (b : Int) : Nat) = Nat.gcd a b := rfl
  rw [hg]
  have hp : 0 < Nat.gcd a b := Nat.gcd_pos_of_pos_right _ hb
  rw [Int.fdiv_eq_ediv_of_nonneg _ (by omega), ← Int.natCast_mul, ← Int.natCast_ediv]
  rfl
def spClear : Sp := fun vs H Q _ => ∃ (v : V) (g : List Rat), vs = [v] ∧ TRep H v g ∧ g.length ≤ 12 ∧ Bds 100 g ∧ ∀ l H', Same H H' → H l = none → LI H' l (clearF g) → Q (.ref l) H'
theorem ok_cleared_numbers (B : Bn mg) (c_common_divisor : C8.Cal P w K mg base 1 "common_divisor" spGcd []) (F : C8.Fun K "cleared_numbers" "cleared_numbers" s_cleared_numbers f fd) : FnOk P w K mg base C8.CX0 2 f fd ["poly"] spClear := by
  refine C8.fn0 F sc_cleared_numbers (fun vs H Q E h => ?_) (fun cdv A outer s H vs Q E hr h => ?_)
  · obtain ⟨i, lo, rfl, _⟩ := h
    rfl
  · obtain ⟨_, g, rfl, ⟨a, vs, rfl, ha, hv⟩, hl, hb, q⟩ := h
    have hvl := hv.len
    refine ⟨_, (pss_cons (ps_set (i := 1) sc_cleared_numbers.nd rfl (by first | exact .inl rfl | exact .inr rfl) pe_int)
    (pss_cons (ps_for PassesOwn.never rfl (pi_tup (pv 0)) (pg_name (i := 2) sc_cleared_numbers.nd rfl (by first | exact .inl rfl | exact .inr rfl))
    ((pss_one (ps_set (i := 1) sc_cleared_numbers.nd rfl (by first | exact .inl rfl | exact .inr rfl) (pe_op op_fdivX (pe_op op_mulW (pv 1) (pe_ix ix_tup (pv 2) pe_int (fun _ _ => rfl))) (C8.pe_c c_common_divisor hr (by decide) (by rfl) (pa_cons (pv 1) (pa_cons (pe_ix ix_tup (pv 2) pe_int (fun _ _ => rfl)) pa_nil))))))))
    (pss_one (ps_ret (pe_lc (own := [("one", 2)]) rfl sc_cleared_numbers.nd (pi_tup (pv 0)) (blkOk_by (own := [("one", 2)]) (N := ["poly", "bottom", "one"]) (sc := C8.fnScope s_cleared_numbers) (by decide +kernel)) (fun _ _ _ _ _ => (pg_name (i := 2) sc_cleared_numbers.nd rfl (by first | exact .inl rfl | exact .inr rfl))) (fun _ _ _ _ _ => pts_nil) (fun _ _ _ _ _ => (pe_op op_mulW (pe_ix (ix_tupK (K := K)) (pv 2) pe_int (fun _ _ => rfl)) (pe_op op_fdivX (pv 1) (pe_ix (ix_tupK (K := K)) (pv 2) pe_int (fun _ _ => rfl)))))))))), ?_⟩
    refine go_start (show _ = [some _, none, none] from rfl) ?_
    walk_at "go"
    refine ⟨a, rfl, ⟨vs, SqT.of ha⟩, lp_tup (xs := vs) (fun i σ' Hc => ∃ x3 : Option V, σ' = [some (.ref a), some (.int (lcU g i : Nat)), x3] ∧ Hc = H) ⟨none, rfl, rfl⟩ (fun i σ' Hc _ h => ?_) (fun i x σ' Hc hx h => ?_) (fun σ' Hc h => ?_)⟩
    · obtain ⟨_, _, rfl⟩ := h
      exact SqT.of ha
    · obtain ⟨x3, rfl, rfl⟩ := h
      obtain ⟨y, hy, ry⟩ := hv.get' hx
      have hmem : y ∈ g := List.mem_of_getElem? hy
      obtain ⟨p, rfl, hp⟩ := rt_rep ▸ ry
      have hd := den_big hb hmem
      have hu := lcU_big hb i
      walk_at "go"
      refine g_I (wide_mul (a := 300) (b := 300) (by rw [Int.natAbs_natCast]; exact hu.1) (by rw [Int.natAbs_natCast]; exact hd.1) (by decide) (by decide) (by decide)) ?_
      walk_at "go"
      refine ⟨_, _, rfl, ?_⟩
      have hgp : 0 < Int.gcd ((lcU g i : Nat) : Int) (y.den : Int) := by
        show 0 < Nat.gcd _ _
        exact Nat.gcd_pos_of_pos_right _ y.den_pos
      have hgs : (Int.gcd ((lcU g i : Nat) : Int) (y.den : Int)) < 2 ^ 300 := by
        show Nat.gcd _ _ < _
        exact Nat.lt_of_le_of_lt (Nat.gcd_le_right _ y.den_pos) hd.1
      refine g_I (cdx (b := 300) (by omega) (by rw [Int.natAbs_natCast]; exact hgs) (by decide) (by decide)) ?_
      walk_at "go"
      rw [lcm_fdiv _ _ y.den_pos, ← lcU_step hy]
      exact ⟨_, rfl, rfl⟩
    · obtain ⟨x3, rfl, rfl⟩ := h
      have eL : lcU g vs.length = lcmL g := by
        unfold lcU lcmL
        rw [hvl, List.take_length]
      rw [eL]
      have hL : lcmL g < 2 ^ 300 ∧ 0 < lcmL g := eL ▸ lcU_big hb vs.length
      walk_at "go"
      refine ⟨a, rfl, ⟨vs, SqT.of ha⟩, fun Dl hD => lc_wordT (fun i ys _ => i ≤ vs.length ∧ ys = ((clearF g).take i).map V.int) ha (fun _ _ _ _ h _ => h) (fun i ys _ h => by rw [h.2, List.length_map, List.length_take]; omega) hD ⟨Nat.zero_le _, rfl⟩ (fun i x ys Hc hx ec h => ?_) (fun ys Hc ec hys h => ?_)⟩
      · intro Qk Qn hk hn
        have hi := (List.getElem?_eq_some_iff.mp hx).1
        obtain ⟨y, hy, ry⟩ := (hv.up ec).get' hx
        have hmem : y ∈ g := List.mem_of_getElem? hy
        obtain ⟨p, rfl, hp⟩ := rt_rep ▸ ry
        have hd := den_big hb hmem
        walk_at "go"
        refine ⟨rfl, g_yes (ite_t ?_)⟩
        walk_at "go"
        refine g_I (cdx (b := 300) (by have := y.den_pos; omega) (by rw [Int.natAbs_natCast]; exact hd.1) (by decide) (by decide)) ?_
        have e1 : ((lcmL g : Nat) : Int).fdiv (y.den : Int) = ((lcmL g / y.den : Nat) : Int) := by
          rw [Int.fdiv_eq_ediv_of_nonneg _ (by omega), Int.natCast_ediv]
        rw [e1]
        refine g_I (wide_mul (a := 500) (b := 300) hd.2 (by rw [Int.natAbs_natCast]; exact Nat.lt_of_le_of_lt (Nat.div_le_self ..) hL.1) (by decide) (by decide) (by decide)) ?_
        refine hk _ _ (Same.refl _) ⟨hi, ?_⟩
        have hc : (clearF g)[i]? = some (y.num * ((lcmL g / y.den : Nat) : Int)) := by
          unfold clearF
          rw [List.getElem?_map, hy]
          rfl
        rw [h.2, List.take_add_one, hc, List.map_append]
        rfl
      · have hfull : ys = (clearF g).map V.int := by
          rw [h.2, List.take_of_length_le]
          show (List.map _ g).length ≤ _
          rw [List.length_map]
          omega
        exact q _ _ ec hD (by rw [hfull] at hys; exact hys)
/-! ### stretched_numbers -/
theorem cut_init {xs : List V} {m : Nat} (h : xs.length = m + 1) : cutV xs none (some (-1)) = xs.take m := by
  unfold cutV
  rw [HT.sIx_none]
  have e : HT.sIx xs.length xs.length (some (-1)) = m := by
    have := HT.clip_eq (-1) xs.length xs.length
    rw [if_pos (by decide)] at this
    omega
  rw [e]
  rfl
def spStr : Sp := fun vs H Q _ => ∃ (l : Addr) (t : List Int) (L : Int), vs = [.ref l] ∧ LI H l (t ++ [L]) ∧ t.length ≤ 11 ∧ Big 800 (t ++ [L]) ∧ ∀ l' H', Same H H' → H l' = none → LI H' l' (strF L t) → Q (.ref l') H'
theorem ok_stretched_numbers (B : Bn mg) (F : C8.Fun K "stretched_numbers" "stretched_numbers" s_stretched_numbers f fd) : FnOk P w K mg base C8.CX0 1 f fd ["numbers"] spStr := by
  refine C8.fn0 F sc_stretched_numbers (fun vs H Q E h => ?_) (fun cdv A outer s H vs Q E hr h => ?_)
  · obtain ⟨i, lo, x, rfl, _⟩ := h
    rfl
  · obtain ⟨l, t, L, rfl, hl, hlen, hb, q⟩ := h
    have hLb : L.natAbs < 2 ^ 800 := hb L (by simp)
    refine ⟨_, (pss_cons (ps_set (i := 1) sc_stretched_numbers.nd rfl (by first | exact .inl rfl | exact .inr rfl) (pe_ix ix_list (pv 0) (pe_un un_neg pe_int) (fun _ _ => rfl)))
    (pss_cons (ps_set (i := 2) sc_stretched_numbers.nd rfl (by first | exact .inl rfl | exact .inr rfl) (pe_lst (pa_cons pe_int pa_nil)))
    (pss_cons (ps_set (i := 3) sc_stretched_numbers.nd rfl (by first | exact .inl rfl | exact .inr rfl) pe_int)
    (pss_cons (ps_for PassesOwn.never rfl (pi_revA (by rfl) B.reversed_ (pe_slice sl_list (pv 0) po_none (po_some (pe_un un_neg pe_int)))) (pg_name (i := 4) sc_stretched_numbers.nd rfl (by first | exact .inl rfl | exact .inr rfl))
    ((pss_cons (ps_expr (pe_bm PySem.F.plainAttrs_list PySem.F.slot_list_append PySem.F.type_list_append mt_append (pv 2) (pa_cons (pe_op op_mulW (pv 4) (pv 3)) pa_nil)))
    (pss_one (ps_set (i := 3) sc_stretched_numbers.nd rfl (by first | exact .inl rfl | exact .inr rfl) (pe_op op_mulW (pv 3) (pv 1)))))))
    (pss_one (ps_ret (pe_revL (pv 2)))))))), ?_⟩
    refine go_start (show _ = [some _, none, none, none, none] from rfl) ?_
    walk_at "go"
    refine g_ixL (xs := (t ++ [L]).map V.int) (v := .int L) hl (atI_last' (by simp)) ?_
    walk_at "go"
    refine ⟨(by show 1 ≤ sizeLine; decide), fun s hs => ?_⟩
    have e1 := same_new (o := HO.lst [V.int 1]) hs
    have hl1 := hl.up e1
    walk_at "go"
    refine g_slL hl1 fun p hp => ?_
    rw [cut_init (m := t.length) (by simp)]
    have ecut : ((t ++ [L]).map V.int).take t.length = t.map V.int := by
      rw [List.map_append, List.take_append_of_le_length (by simp), List.take_of_length_le (by simp)]
    rw [ecut]
    have e2 := Same.up (o := HO.lst (t.map V.int)) e1 hp
    have hps : p ≠ s := fun z => by rw [z, upd_same] at hp; cases hp
    have hpl : (upd (upd H s (.lst [V.int 1])) p (.lst (t.map V.int))) p = some (.lst (t.map V.int)) := upd_same
    have hsl : (upd (upd H s (.lst [V.int 1])) p (.lst (t.map V.int))) s = some (.lst [V.int 1]) := by rw [upd_ne hps.symm, upd_same]
    generalize (upd (upd H s (.lst [V.int 1])) p (.lst (t.map V.int))) = H2 at *
    have hml : (t.map V.int).length = t.length := List.length_map ..
    refine ⟨p, _, rfl, .inl ⟨SqL.of hpl, lp_revL (fun i σ' Hc => ∃ x5 : Option V, σ' = [some (.ref l), some (.int L), some (.ref s), some (.int (L ^ i)), x5] ∧ i ≤ t.length ∧ Same H Hc ∧ Hc p = some (.lst (t.map V.int)) ∧ Hc s = some (.lst ((strF L (t.drop (t.length - i))).reverse.map V.int))) ⟨none, by rw [Int.pow_zero]; rfl, Nat.zero_le _, e2, hpl, ?_⟩ (fun i σ' Hc h => ?_) (fun i y σ' Hc hi hy h => ?_) (fun σ' Hc h => ?_)⟩⟩
    · rw [Nat.sub_zero, List.drop_length]
      exact hsl
    · obtain ⟨_, _, _, _, hp, _⟩ := h
      exact SqL.of hp
    · obtain ⟨x5, rfl, hi', ec, hcp, hcs⟩ := h
      obtain ⟨c, hc, rfl⟩ := map_get hy
      rw [hml] at hc hi
      walk_at "go"
      refine g_tyL hcs ?_
      walk_at "go"
      have hcb : c.natAbs < 2 ^ 800 := hb c (List.mem_append_left _ (List.mem_of_getElem? hc))
      have hpw : (L ^ i).natAbs < 2 ^ (800 * 11 + 1) := by
        rw [Int.natAbs_pow]
        have h3 : L.natAbs ^ i ≤ 2 ^ (800 * i) := by
          rw [Nat.pow_mul]
          exact Nat.pow_le_pow_left (by omega) _
        exact Nat.lt_of_le_of_lt h3 (Nat.pow_lt_pow_right (by decide) (by omega))
      refine g_I (wide_mul (a := 800) (b := 8801) hcb hpw (by decide) (by decide) (by decide)) ?_
      walk_at "go"
      refine g_app hcs (by
        rw [List.length_map, List.length_reverse, str_len, List.length_drop]
        omega) ?_
      walk_at "go"
      refine g_I (wide_mul (a := 8801) (b := 800) hpw hLb (by decide) (by decide) (by decide)) ?_
      walk_at "go"
      refine ⟨some (.int c), ?_, hi, same_mut ec hs, ?_, ?_⟩
      · rw [Int.pow_succ]
        rfl
      · rw [upd_ne hps]
        exact hcp
      · rw [upd_same]
        have hj : t.length - (i + 1) < t.length := by omega
        have e := List.drop_eq_getElem_cons hj
        have hcc : t[t.length - (i + 1)] = c := by
          have hc2 : t[t.length - (i + 1)]? = some c := by
            rw [← hc]
            congr 1
            omega
          obtain ⟨_, e'⟩ := List.getElem?_eq_some_iff.mp hc2
          exact e'
        rw [e, hcc, show t.length - (i + 1) + 1 = t.length - i by omega]
        show _ = some (HO.lst (((_ :: strF L (t.drop (t.length - i))).reverse).map V.int))
        rw [List.reverse_cons, List.map_append, List.length_drop, show t.length - (t.length - i) = i by omega]
        rfl
    · obtain ⟨x5, rfl, _, ec, hcp, hcs⟩ := h
      rw [hml, Nat.sub_self, List.drop_zero] at hcs
      walk_at "go"
      refine g_revL ?_
      walk_at "go"
      refine ⟨s, _, rfl, SqL.of hcs, fun p3 hp3 => ?_⟩
      refine q _ _ (Same.up (o := HO.lst _) ec hp3) (Same.free ec hp3) ?_
      show upd Hc p3 _ p3 = _
      rw [upd_same, ← List.map_reverse, List.reverse_reverse]
end
end Kw
set_option maxHeartbeats 4000000
namespace Kw
open PySem PySem.Spec PyProof.Rows L2 RT
local macro_rules | `(tactic| walk_at "step") => `(tactic| with_reducible first
  | refine g_op ?_ | refine g_c ?_ | refine g_test ?_ | refine g_bl ?_ | refine g_seq ?_ | refine g_ifS ?_ | refine g_cons ?_ | refine g_nil ?_ | refine g_I0 ?_ | refine g_asg ?_ | refine g_name ?_
  | refine g_ret ?_ | refine g_nx ?_ | refine g_cb ?_ | refine g_call ?_ | refine g_un ?_ | refine g_rU ?_ | refine g_B ?_ | refine g_and ?_ | refine g_or ?_ | refine g_not ?_ | refine g_andV ?_ | refine g_orV ?_
  | refine g_notV ?_ | refine g_ifE ?_ | refine g_drop ?_ | refine g_par ?_ | refine g_two ?_ | refine g_abs ?_ | refine g_mx ?_ | refine g_int ?_ | refine g_tup ?_ | refine g_lst ?_ | refine g_chain ?_
  | refine g_sl ?_ | refine g_nopart ?_ | refine g_part ?_ | refine g_partI ?_ | refine g_bm ?_ | refine g_sub ?_ | refine g_ip ?_ | refine g_make ?_ | refine g_forR1 ?_ | refine g_forR2 ?_ | refine g_forR3 ?_ | refine g_forL ?_ | refine g_forT ?_ | refine g_forV ?_ | refine g_forVR ?_ | refine g_forE ?_ | refine g_lcL ?_ | refine g_lcT ?_ | refine g_lcR1 ?_ | refine g_lcR2 ?_ | refine g_fld ?_ | refine g_meth ?_ | refine ite_t ?_ | refine ite_nt ?_ | refine ite_nf ?_ | refine g_eqi ?_ | refine g_nei ?_ | refine ite_f ?_ | refine g_isN_n ?_ | refine g_isN_i ?_ | refine g_isN_r ?_ | refine g_notN_n ?_ | refine g_notN_i ?_ | refine g_notN_r ?_ | refine g_isi_ib ?_ | refine g_isi_ii ?_ | refine g_isi_it ?_ | refine g_isi_nt ?_)
local macro_rules | `(tactic| walk_at "var") => `(tactic| ((with_reducible refine' g_var ?hvar ?_); (case hvar => rfl)))
local macro_rules | `(tactic| walk_at "fact") => `(tactic| first
  | ((with_reducible refine' g_ixT ?hfact ?hat ?_); (case hfact => assumption); (case hat => rfl))
  | ((with_reducible refine' g_ixL ?hfact ?hat ?_); (case hfact => assumption); (case hat => rfl)))
local macro_rules | `(tactic| walk_at "fact1") => `(tactic| first
  | ((with_reducible refine' g_lenT ?hfact ?_); (case hfact => assumption))
  | ((with_reducible refine' g_lenL ?hfact ?_); (case hfact => assumption))
  | ((with_reducible refine' g_isi_tt ?hfact ?_); (case hfact => assumption)))
local macro_rules | `(tactic| walk_at "go") => `(tactic| repeat (first | walk_at "step" | walk_at "var" | walk_at "fact" | walk_at "fact1"))
local macro_rules | `(tactic| walk_at "if") => `(tactic| with_reducible first | refine ite_d ?_ ?_ | refine ite_n ?_ ?_ | refine ite_b ?_ ?_)
local macro_rules | `(tactic| walk_at "prime") => `(tactic| refine fig_prime (by assumption) (by assumption) ?_)
local macro_rules | `(tactic| walk_at "zero") => `(tactic| refine fig_zero (by assumption) (by assumption) ?_)
local macro_rules | `(tactic| walk_at "one") => `(tactic| refine fig_one (by assumption) (by assumption) ?_)
local macro_rules | `(tactic| walk_at "meth") => `(tactic| refine fig_meth (by assumption) (by decide +kernel) ?_)
section
variable {P : Program} {w : World} {K : PySem.W.Frag} {mg : Str → Option Value} {base : Heap} {f : Addr} {fd : FuncData}
theorem derZF_get : ∀ (t : List Int) (k : Int) (i : Nat) (c : Int), t[i]? = some c → (derZF k t)[i]? = some ((k + i) * c)
  | [], _, _, _, h => by simp at h
  | d :: t, k, 0, c, h => by
    have e : d = c := Option.some.inj h
    subst e
    show some (k * d) = _
    simp
  | d :: t, k, i + 1, c, h => by
    have := derZF_get t (k + 1) i c h
    show (derZF (k + 1) t)[i]? = _
    rw [this]
    congr 2
    omega
theorem derZ_get {f : List Int} {i : Nat} {c : Int} (h : f[i + 1]? = some c) : (derZ f)[i]? = some ((1 + i) * c) :=
  derZF_get f.tail 1 i c (by rw [List.getElem?_tail]; exact h)
theorem LI.keep {H : Hp} {l r a : Addr} {xs : List Int} {ws : List V} {o : HO} (h : LI H l xs) (hr : H r = some (.lst ws)) (h0 : ws[0]? = some (.ref a)) : LI (upd H r o) l xs := by
  by_cases e : l = r
  · subst e
    have h2 : H l = some (.lst (xs.map V.int)) := h
    rw [h2] at hr
    have := HO.lst.inj (Option.some.inj hr)
    rw [← this] at h0
    obtain ⟨c, _, h3⟩ := map_get h0
    cases h3
  · show upd H r o l = _
    rw [upd_ne e]
    exact h
def RowsAt (H : Hp) (ws : List V) (f : List Int) (k : Nat) : Prop := ws.length = k + 1 ∧ ∀ j, j ≤ k → ∃ l, ws[j]? = some (.ref l) ∧ LI H l (dn f j)
def spSlopes : Sp := fun vs H Q _ => ∃ (l : Addr) (g : List Int) (b : Nat), vs = [.ref l] ∧ LI H l g ∧ 2 ≤ g.length ∧ g.length ≤ 12 ∧ b ≤ 8900 ∧ Big b g ∧
  ∀ p ws H', Same H H' → H' p = some (.lst ws) → ws.length = g.length - 1 → (∀ j, j < g.length - 1 → ∃ l, ws[j]? = some (.ref l) ∧ LI H' l (dn g (g.length - 2 - j))) → Q (.ref p) H'
theorem ok_slopes_of (B : Bn mg) (F : C8.Fun K "slopes_of" "slopes_of" s_slopes_of f fd) : FnOk P w K mg base C8.CX0 1 f fd ["numbers"] spSlopes := by
  refine C8.fn0 F sc_slopes_of (fun vs H Q E h => ?_) (fun cdv A outer s H vs Q E hr h => ?_)
  · obtain ⟨i, lo, x, rfl, _⟩ := h
    rfl
  · obtain ⟨l, g, b, rfl, hl, hl2, hl12, hb, hbig, q⟩ := h
    refine ⟨_, (pss_cons (ps_set (i := 1) sc_slopes_of.nd rfl (by first | exact .inl rfl | exact .inr rfl) (pe_lst (pa_cons (pv 0) pa_nil)))
    (pss_cons (ps_while PassesOwn.never (pt_cmpR op_gt (pe_callB call_len_ (by rfl) B.len_ (by decide +kernel) (pa_cons (pe_ix ix_list (pv 1) (pe_un un_neg pe_int) (fun _ _ => rfl)) pa_nil)) pe_int (nomark _))
    ((pss_cons (ps_set (i := 2) sc_slopes_of.nd rfl (by first | exact .inl rfl | exact .inr rfl) (pe_ix ix_list (pv 1) (pe_un un_neg pe_int) (fun _ _ => rfl)))
    (pss_one (ps_expr (pe_bm PySem.F.plainAttrs_list PySem.F.slot_list_append PySem.F.type_list_append mt_append (pv 1) (pa_cons (pe_lc (own := [("power", 3)]) rfl sc_slopes_of.nd (pi_range2 (by rfl) B.range_ (pa_cons pe_int (pa_cons (pe_callB call_len_ (by rfl) B.len_ (by decide +kernel) (pa_cons (pv 2) pa_nil)) pa_nil))) (blkOk_by (own := [("power", 3)]) (N := ["numbers", "rows", "last", "power"]) (sc := C8.fnScope s_slopes_of) (by decide +kernel)) (fun _ _ _ _ _ => (pg_name (i := 3) sc_slopes_of.nd rfl (by first | exact .inl rfl | exact .inr rfl))) (fun _ _ _ _ _ => pts_nil) (fun _ _ _ _ _ => (pe_op op_mulW (pv 3) (pe_ix (ix_listK (K := K)) (pv 2) (pv 3) (fun _ _ => rfl))))) pa_nil)))))))
    (pss_one (ps_ret (pe_revL (pv 1)))))), ?_⟩
    refine go_start (show _ = [some _, none, none, none] from rfl) ?_
    walk_at "go"
    refine ⟨(by show 1 ≤ sizeLine; decide), fun r hr0 => ?_⟩
    have e1 := same_new (o := HO.lst [V.ref l]) hr0
    have hl1 := hl.up e1
    walk_at "go"
    refine g_while (fun m σ' Hc => ∃ (k : Nat) (ws : List V) (x2 x3 : Option V), σ' = [some (.ref l), some (.ref r), x2, x3] ∧ Same H Hc ∧ Hc r = some (.lst ws) ∧ RowsAt Hc ws g k ∧ k + 2 ≤ g.length ∧ m = g.length - k)
      g.length ⟨0, _, none, none, rfl, e1, upd_same, ⟨rfl, fun j hj => ?_⟩, by omega, rfl⟩ ?_
    · have : j = 0 := by omega
      subst this
      exact ⟨l, rfl, hl1⟩
    rintro m σ' Hc ⟨k, ws, x2, x3, rfl, ec, hws, hrows, hk, rfl⟩
    have hwl := hrows.1
    obtain ⟨lk, hwk, hlk⟩ := hrows.2 k (Nat.le_refl _)
    obtain ⟨l0, hw0, _⟩ := hrows.2 0 (Nat.zero_le _)
    have hlast : atI ws (-1) = some (.ref lk) := atI_last' (by rw [List.getLast?_eq_getElem?, hwl]; exact hwk)
    have hml : ((dn g k).map V.int).length = g.length - k := by rw [List.length_map, dn_len]
    walk_at "go"
    refine g_ixL hws hlast ?_
    walk_at "step"
    refine g_lenL hlk ?_
    walk_at "go"
    rw [hml]
    walk_at "if"
    · intro hc
      refine g_turn ?_
      walk_at "go"
      refine g_ixL hws hlast ?_
      walk_at "go"
      refine g_tyL hws ?_
      walk_at "go"
      rw [hml]
      refine ⟨_, _, rfl, ⟨by omega, by omega, by omega, by omega⟩, fun Dl hD => ?_⟩
      rw [show (((g.length - k : Nat) : Int) - 1).toNat = g.length - k - 1 by omega]
      refine lc_wordR (fun i ys _ => i ≤ g.length - k - 1 ∧ ys = ((derZ (dn g k)).take i).map V.int) (fun _ _ _ _ h _ => h) (fun i ys _ h => by rw [h.2, List.length_map, List.length_take]; omega) hD ⟨Nat.zero_le _, rfl⟩ (fun i ys Hd hi ed h => ?_) (fun ys Hd ed hys h => ?_)
      · intro Qk Qn hk' hn
        obtain ⟨c, hc'⟩ : ∃ c, (dn g k)[i + 1]? = some c := ⟨_, List.getElem?_eq_getElem (by rw [dn_len]; omega)⟩
        have hcb : c.natAbs < 2 ^ 9000 := big_mono (by omega) (dn_big hl12 hbig k) c (List.mem_of_getElem? hc')
        walk_at "go"
        refine ⟨rfl, g_yes (ite_t ?_)⟩
        walk_at "go"
        refine g_ixLn (j := i + 1) (hlk.up ed) (by omega) (get_map hc') ?_
        refine g_I (wide_mul (a := 64) (b := 9000) (by omega) hcb (by decide) (by decide) (by decide)) ?_
        refine hk' _ _ (Same.refl _) ⟨by omega, ?_⟩
        rw [h.2, List.take_add_one, derZ_get hc', List.map_append]
        rfl
      · have hfull : ys = (dn g (k + 1)).map V.int := by
          rw [h.2, List.take_of_length_le]
          · rfl
          · rw [derZ_len, dn_len]
            omega
        rw [hfull] at hys
        have hws2 := ed _ _ hws
        walk_at "go"
        refine g_app hws2 (by omega) ?_
        refine ⟨g.length - (k + 1), by omega, k + 1, _, _, _, rfl, same_mut (ec.trans ed) hr0, upd_same, ⟨by rw [List.length_append, hwl]; rfl, fun j hj => ?_⟩, by omega, rfl⟩
        by_cases hjk : j ≤ k
        · obtain ⟨lj, h1, h2⟩ := hrows.2 j hjk
          exact ⟨lj, by rw [List.getElem?_append_left (by omega)]; exact h1, (h2.up ed).keep hws2 hw0⟩
        · have : j = k + 1 := by omega
          subst this
          refine ⟨Dl, by rw [List.getElem?_append_right (by omega), hwl, Nat.sub_self]; rfl, ?_⟩
          exact LI.keep hys hws2 hw0
    · intro hc
      walk_at "go"
      refine g_revL ?_
      walk_at "go"
      refine ⟨_, _, rfl, SqL.of hws, fun p hp => ?_⟩
      have e3 := same_new (o := HO.lst ws.reverse) hp
      refine q p _ _ (ec.trans e3) upd_same (by rw [List.length_reverse]; omega) (fun j hj => ?_)
      obtain ⟨lj, h1, h2⟩ := hrows.2 (g.length - 2 - j) (by omega)
      refine ⟨lj, ?_, h2.up e3⟩
      rw [List.getElem?_reverse (by omega), ← h1]
      congr 1
      omega
/-! ### turning_place -/
def oV : Option Int → V
  | none => .non
  | some i => .int i
def spTurn : Sp := fun vs H Q _ => ∃ (l : Addr) (g : List Int) (b : Nat) (lo hi : Int), vs = [.ref l, .int lo, .int hi] ∧ LI H l g ∧ g.length ≤ 12 ∧ b ≤ 9000 ∧ Big b g ∧ lo.natAbs ≤ 2 ^ b ∧ hi.natAbs ≤ 2 ^ b ∧ lo ≤ hi ∧ MonoOn g lo hi ∧
  ∀ t H', Same H H' → Turn g lo hi t → (∀ m, t = some m → lo ≤ m ∧ m ≤ hi) → Q (oV t) H'
theorem g_eqb {b c : Bool} {Q : VK} {H : Hp} (q : Q (.bl (decide (b = c))) H) : rEq (.bl b) (.bl c) H Q := ⟨rfl, by
  rw [show decide (V.bl b = V.bl c) = decide (b = c) by by_cases h : b = c <;> simp [h]]
  exact q⟩
theorem ok_turning_place (B : Bn mg) (c_whole_value : C8.Cal P w K mg base 1 "whole_value" spWV []) (F : C8.Fun K "turning_place" "turning_place" s_turning_place f fd) : FnOk P w K mg base C8.CX0 2 f fd ["numbers", "low", "high"] spTurn := by
  refine C8.fn0 F sc_turning_place (fun vs H Q E h => ?_) (fun cdv A outer s H vs Q E hr h => ?_)
  · obtain ⟨i, lo, x, y, z, rfl, _⟩ := h
    rfl
  · obtain ⟨l, g, b, lo, hi, rfl, hl, hl12, hb, hbig, hlo, hhi, hle, hmono, q⟩ := h
    refine ⟨_, (pss_cons (ps_par (i := 3) (j := 4) (by rfl) sc_turning_place.nd rfl rfl (by decide) rfl rfl (pa_cons (C8.pe_c c_whole_value hr (by decide) (by rfl) (pa_cons (pv 0) (pa_cons (pv 1) pa_nil))) (pa_cons (C8.pe_c c_whole_value hr (by decide) (by rfl) (pa_cons (pv 0) (pa_cons (pv 2) pa_nil))) pa_nil)) (by rfl))
    (pss_cons (ps_if (pt_cmpR op_eq (pv 3) pe_int (nomark _))
    ((pss_one (ps_ret (pv 1)))) pss_nil)
    (pss_cons (ps_if (pt_cmpR op_eq (pv 4) pe_int (nomark _))
    ((pss_one (ps_ret (pv 2)))) pss_nil)
    (pss_cons (ps_if (pt_cmpR op_eq (pe_cmpR op_lt (pv 3) pe_int (nomark _)) (pe_cmpR op_lt (pv 4) pe_int (nomark _)) (nomark _))
    ((pss_one (ps_ret pe_non))) pss_nil)
    (pss_cons (ps_while PassesOwn.never (pt_cmpR op_gt (pe_op op_sub (pv 2) (pv 1)) pe_int (nomark _))
    ((pss_cons (ps_set (i := 5) sc_turning_place.nd rfl (by first | exact .inl rfl | exact .inr rfl) (pe_op op_fdivN (pe_op op_add (pv 1) (pv 2)) pe_int))
    (pss_cons (ps_set (i := 6) sc_turning_place.nd rfl (by first | exact .inl rfl | exact .inr rfl) (C8.pe_c c_whole_value hr (by decide) (by rfl) (pa_cons (pv 0) (pa_cons (pv 5) pa_nil))))
    (pss_cons (ps_if (pt_cmpR op_eq (pv 6) pe_int (nomark _))
    ((pss_one (ps_ret (pv 5)))) pss_nil)
    (pss_one (ps_if (pt_cmpR op_eq (pe_cmpR op_lt (pv 6) pe_int (nomark _)) (pe_cmpR op_lt (pv 3) pe_int (nomark _)) (nomark _))
    ((pss_one (ps_set (i := 1) sc_turning_place.nd rfl (by first | exact .inl rfl | exact .inr rfl) (pv 5)))) ((pss_one (ps_set (i := 2) sc_turning_place.nd rfl (by first | exact .inl rfl | exact .inr rfl) (pv 5)))))))))))
    (pss_one (ps_ret (pv 1)))))))), ?_⟩
    refine go_start (show _ = [some _, some _, some _, none, none, none, none] from rfl) ?_
    walk_at "go"
    refine ⟨l, lo, g, b, rfl, hl, hl12, hb, hbig, hlo, ?_⟩
    walk_at "go"
    refine ⟨l, hi, g, b, rfl, hl, hl12, hb, hbig, hhi, ?_⟩
    walk_at "go"
    walk_at "if"
    · intro h0
      walk_at "go"
      exact q (some lo) _ (Same.refl _) (turn_zero hmono (Int.le_refl _) hle h0) fun m e => by cases e; omega
    intro ha
    walk_at "go"
    walk_at "if"
    · intro h0
      walk_at "go"
      exact q (some hi) _ (Same.refl _) (turn_zero hmono hle (Int.le_refl _) h0) fun m e => by cases e; omega
    intro hb0
    walk_at "go"
    refine g_eqb ?_
    walk_at "go"
    walk_at "if"
    · intro hs
      walk_at "go"
      exact q none _ (Same.refl _) (turn_same hle hmono ha hb0 hs) fun m e => by cases e
    intro hs
    walk_at "go"
    refine g_while (fun m σ' Hc => ∃ (u v : Int) (x5 x6 : Option V), σ' = [some (.ref l), some (.int u), some (.int v), some (.int (evZ g lo)), some (.int (evZ g hi)), x5, x6] ∧ Hc = H ∧ lo ≤ u ∧ u < v ∧ v ≤ hi ∧ evZ g u ≠ 0 ∧ evZ g v ≠ 0 ∧ decide (evZ g u < 0) = decide (evZ g lo < 0) ∧
      decide (evZ g v < 0) = decide (evZ g hi < 0) ∧ m = (v - u).toNat) (hi - lo).toNat ⟨lo, hi, none, none, rfl, rfl, Int.le_refl _, ?_, Int.le_refl _, ha, hb0, rfl, rfl, rfl⟩ ?_
    · by_cases e : lo = hi
      · subst e
        exact absurd rfl hs
      · omega
    rintro m σ' Hc ⟨u, v, x5, x6, rfl, rfl, h1, h2, h3, h4, h5, h6, h7, rfl⟩
    walk_at "go"
    walk_at "if"
    · intro hc
      refine g_turn ?_
      walk_at "go"
      refine g_I ⟨by decide, by decide⟩ ?_
      have ef : (u + v).fdiv 2 = (u + v) / 2 := Int.fdiv_eq_ediv_of_nonneg _ (by decide)
      rw [ef]
      have hm1 : u < (u + v) / 2 := by omega
      have hm2 : (u + v) / 2 < v := by omega
      generalize (u + v) / 2 = mid at hm1 hm2
      walk_at "go"
      refine ⟨l, mid, g, b, rfl, hl, hl12, hb, hbig, by omega, ?_⟩
      walk_at "go"
      walk_at "if"
      · intro h0
        walk_at "go"
        exact q (some mid) _ (Same.refl _) (turn_zero hmono (by omega) (by omega) h0) fun m e => by cases e; omega
      intro h0
      walk_at "go"
      refine g_eqb ?_
      walk_at "go"
      walk_at "if"
      · intro hsg
        walk_at "go"
        exact ⟨(v - mid).toNat, by omega, mid, v, _, _, rfl, rfl, by omega, hm2, h3, h0, h5, hsg, h7, rfl⟩
      · intro hsg
        walk_at "go"
        refine ⟨(mid - u).toNat, by omega, u, mid, _, _, rfl, rfl, h1, hm1, by omega, h4, h0, h6, ?_, rfl⟩
        cases ha' : decide (evZ g lo < 0) <;> cases hb' : decide (evZ g hi < 0) <;> cases hm' : decide (evZ g mid < 0) <;> simp_all
    · intro hc
      walk_at "go"
      have hv : v = u + 1 := by omega
      subst hv
      exact q (some u) _ (Same.refl _) (turn_cut hmono h1 h3 h4 h5 ha hb0 hs h6 h7) fun m e => by cases e; omega
end
end Kw
set_option maxHeartbeats 4000000
namespace Kw
open PySem PySem.Spec PyProof.Rows L2 RT
local macro_rules | `(tactic| walk_at "step") => `(tactic| with_reducible first
  | refine g_op ?_ | refine g_c ?_ | refine g_test ?_ | refine g_bl ?_ | refine g_seq ?_ | refine g_ifS ?_ | refine g_cons ?_ | refine g_nil ?_ | refine g_I0 ?_ | refine g_asg ?_ | refine g_name ?_
  | refine g_ret ?_ | refine g_nx ?_ | refine g_cb ?_ | refine g_call ?_ | refine g_un ?_ | refine g_rU ?_ | refine g_B ?_ | refine g_and ?_ | refine g_or ?_ | refine g_not ?_ | refine g_andV ?_ | refine g_orV ?_
  | refine g_notV ?_ | refine g_ifE ?_ | refine g_drop ?_ | refine g_par ?_ | refine g_two ?_ | refine g_abs ?_ | refine g_mx ?_ | refine g_int ?_ | refine g_tup ?_ | refine g_lst ?_ | refine g_chain ?_
  | refine g_sl ?_ | refine g_nopart ?_ | refine g_part ?_ | refine g_partI ?_ | refine g_bm ?_ | refine g_sub ?_ | refine g_ip ?_ | refine g_make ?_ | refine g_forR1 ?_ | refine g_forR2 ?_ | refine g_forR3 ?_ | refine g_forL ?_ | refine g_forT ?_ | refine g_forV ?_ | refine g_forVR ?_ | refine g_forE ?_ | refine g_lcL ?_ | refine g_lcT ?_ | refine g_lcR1 ?_ | refine g_lcR2 ?_ | refine g_fld ?_ | refine g_meth ?_ | refine ite_t ?_ | refine ite_nt ?_ | refine ite_nf ?_ | refine g_eqi ?_ | refine g_nei ?_ | refine ite_f ?_ | refine g_isN_n ?_ | refine g_isN_i ?_ | refine g_isN_r ?_ | refine g_notN_n ?_ | refine g_notN_i ?_ | refine g_notN_r ?_ | refine g_isi_ib ?_ | refine g_isi_ii ?_ | refine g_isi_it ?_ | refine g_isi_nt ?_)
local macro_rules | `(tactic| walk_at "var") => `(tactic| ((with_reducible refine' g_var ?hvar ?_); (case hvar => rfl)))
local macro_rules | `(tactic| walk_at "fact") => `(tactic| first
  | ((with_reducible refine' g_ixT ?hfact ?hat ?_); (case hfact => assumption); (case hat => rfl))
  | ((with_reducible refine' g_ixL ?hfact ?hat ?_); (case hfact => assumption); (case hat => rfl)))
local macro_rules | `(tactic| walk_at "fact1") => `(tactic| first
  | ((with_reducible refine' g_lenT ?hfact ?_); (case hfact => assumption))
  | ((with_reducible refine' g_lenL ?hfact ?_); (case hfact => assumption))
  | ((with_reducible refine' g_isi_tt ?hfact ?_); (case hfact => assumption)))
local macro_rules | `(tactic| walk_at "go") => `(tactic| repeat (first | walk_at "step" | walk_at "var" | walk_at "fact" | walk_at "fact1"))
local macro_rules | `(tactic| walk_at "if") => `(tactic| with_reducible first | refine ite_d ?_ ?_ | refine ite_n ?_ ?_ | refine ite_b ?_ ?_)
local macro_rules | `(tactic| walk_at "prime") => `(tactic| refine fig_prime (by assumption) (by assumption) ?_)
local macro_rules | `(tactic| walk_at "zero") => `(tactic| refine fig_zero (by assumption) (by assumption) ?_)
local macro_rules | `(tactic| walk_at "one") => `(tactic| refine fig_one (by assumption) (by assumption) ?_)
local macro_rules | `(tactic| walk_at "meth") => `(tactic| refine fig_meth (by assumption) (by decide +kernel) ?_)
section
variable {P : Program} {w : World} {K : PySem.W.Frag} {mg : Str → Option Value} {base : Heap} {f : Addr} {fd : FuncData}
theorem inV_int (m : Int) : ∀ xs : List Int, inV (.int m) (xs.map V.int) = decide (m ∈ xs)
  | [] => by simp [inV]
  | c :: t => by
    have h := inV_int m t
    unfold inV at h ⊢
    rw [List.map_cons, List.any_cons, h]
    show (c == m || _) = _
    by_cases e : c = m
    · subst e
      simp
    · have e2 : m ≠ c := fun z => e z.symm
      simp [e, e2]
theorem flat_ints (xs : List Int) : (xs.map V.int).all flatV = true := by
  induction xs with
  | nil => rfl
  | cons c t ih => exact ih
theorem g_notIn {K : PySem.W.Frag} {l : Addr} {xs : List Int} {m : Int} {H : Hp} {Q : VK} (h : H l = some (.lst (xs.map V.int))) (q : Q (.bl (!decide (m ∈ xs))) H) : rIn K true (.int m) (.ref l) H Q :=
  ⟨l, _, rfl, .inl (SqL.of h), rfl, flat_ints xs, by rw [inV_int]; exact q⟩
theorem ite_nd {P A B : Prop} [Decidable P] (h1 : ¬P → A) (h2 : P → B) : if (!decide P) = true then A else B := ite_n h1 h2
theorem g_catL {H : Hp} {a b : Addr} {xs ys : List V} {Q : VK} (ha : H a = some (.lst xs)) (hb : H b = some (.lst ys)) (hz : xs.length + ys.length ≤ 100000) (q : ∀ p, H p = none → Q (.ref p) (upd H p (.lst (xs ++ ys)))) : rCat (.ref a) (.ref b) H Q :=
  ⟨a, b, xs, ys, rfl, rfl, ha, hb, small5 hz, q⟩
def absL (g : List Int) : List Int := g.map fun c => (c.natAbs : Int)
/-! ### root_places -/
def Bnd (b : Nat) (xs : List Int) : Prop := ∀ c ∈ xs, c.natAbs ≤ 2 ^ b
def spPlaces : Sp := fun vs H Q _ => ∃ (l : Addr) (g : List Int) (b : Nat), vs = [.ref l] ∧ LI H l g ∧ 2 ≤ g.length ∧ g.length ≤ 12 ∧ b ≤ 8850 ∧ Big b g ∧ (∃ c, g.getLast? = some c ∧ c ≠ 0) ∧
  ∀ p qs H', Same H H' → LI H' p qs → qs.Pairwise (· ≤ ·) → qs.length ≤ 5000 → Bnd (b + 48) qs → CellInv g qs → Q (.ref p) H'
/-- the inner loop's promise: every cell below low is told -/
def Cov (g qs fs : List Int) (W low : Int) : Prop := ∀ m : Int, -W ≤ m → m < low → m ∈ qs ∨ m ∈ fs ∨ OneOn (zq g) m
def LowAt (qs : List Int) (W : Int) (j : Nat) (low : Int) : Prop := (j = 0 → low = -W) ∧ ∀ i c, j = i + 1 → (qs ++ [W])[i]? = some c → low = c + 1
theorem not_mem_between {qs : List Int} {W low pj : Int} {j : Nat} (hs : qs.Pairwise (· ≤ ·)) (hl : LowAt qs W j low) (hp : (qs ++ [W])[j]? = some pj) {m : Int} (h1 : low ≤ m) (h2 : m < pj) : m ∉ qs := by
  intro hm
  obtain ⟨t, ht, e⟩ := List.getElem_of_mem hm
  have hj : j ≤ qs.length := by
    obtain ⟨h, _⟩ := List.getElem?_eq_some_iff.mp hp
    rw [List.length_append] at h
    simpa using Nat.lt_succ_iff.mp h
  have hle : ∀ a b (ha : a < qs.length) (hb : b < qs.length), a ≤ b → qs[a] ≤ qs[b] := fun a b ha hb hab => by
    by_cases z : a = b
    · subst z
      exact Int.le_refl _
    · exact List.pairwise_iff_getElem.mp hs a b ha hb (by omega)
  by_cases c : t < j
  · obtain ⟨i, rfl⟩ : ∃ i, j = i + 1 := ⟨j - 1, by omega⟩
    have h3 := hl.2 i qs[i] rfl (by rw [List.getElem?_append_left (by omega)]; exact List.getElem?_eq_getElem (by omega))
    have h4 := hle t i ht (by omega) (by omega)
    omega
  · have hj2 : j < qs.length := by omega
    rw [List.getElem?_append_left hj2, List.getElem?_eq_getElem hj2] at hp
    have h4 := hle j t hj2 ht (by omega)
    have := Option.some.inj hp
    omega
theorem cov_step {g qs fs fs' : List Int} {W low pj : Int} {j : Nat} {t : Option Int} (hW : OneOn (zq g) W) (hc : Cov g qs fs W low) (hp : (qs ++ [W])[j]? = some pj) (ht : low ≤ pj → Turn g low pj t) (hsub : ∀ m, m ∈ fs → m ∈ fs') (hnew : ∀ m, low ≤ pj → t = some m → m ∈ qs ∨ m ∈ fs') :
    Cov g qs fs' W (pj + 1) := by
  intro m h1 h2
  by_cases c : m < low
  · rcases hc m h1 c with h | h | h
    · exact .inl h
    · exact .inr (.inl (hsub m h))
    · exact .inr (.inr h)
  · by_cases c2 : m = pj
    · subst c2
      by_cases c3 : j < qs.length
      · rw [List.getElem?_append_left c3] at hp
        exact .inl (List.mem_of_getElem? hp)
      · have h3 : j = qs.length := by
          obtain ⟨h, _⟩ := List.getElem?_eq_some_iff.mp hp
          rw [List.length_append] at h
          have h' : j < qs.length + 1 := h
          omega
        subst h3
        rw [List.getElem?_append_right (Nat.le_refl _), Nat.sub_self] at hp
        have e : W = m := Option.some.inj hp
        rw [← e]
        exact .inr (.inr hW)
    · have hle : low ≤ pj := by omega
      rcases ht hle m (by omega) (by omega) with h | h
      · rcases hnew m hle h with h | h
        · exact .inl h
        · exact .inr (.inl h)
      · exact .inr (.inr h)
theorem ok_root_places (B : Bn mg) (c_slopes_of : C8.Cal P w K mg base 1 "slopes_of" spSlopes []) (c_turning_place : C8.Cal P w K mg base 2 "turning_place" spTurn []) (F : C8.Fun K "root_places" "root_places" s_root_places f fd) :
    FnOk P w K mg base C8.CX0 3 f fd ["numbers"] spPlaces := by
  refine C8.fn0 F sc_root_places (fun vs H Q E h => ?_) (fun cdv A outer s H vs Q E hr h => ?_)
  · obtain ⟨i, lo, x, rfl, _⟩ := h
    rfl
  · obtain ⟨l, g, b, rfl, hl, hl2, hl12, hb, hbig, hlast, q⟩ := h
    refine ⟨_, (pss_cons (ps_set (i := 1) sc_root_places.nd rfl (by first | exact .inl rfl | exact .inr rfl) (pe_lst pa_nil))
    (pss_cons (ps_for PassesOwn.never rfl (pi_list (C8.pe_c c_slopes_of hr (by decide) (by rfl) (pa_cons (pv 0) pa_nil))) (pg_name (i := 2) sc_root_places.nd rfl (by first | exact .inl rfl | exact .inr rfl))
    ((pss_cons (ps_set (i := 3) sc_root_places.nd rfl (by first | exact .inl rfl | exact .inr rfl) (pe_op op_add pe_int (pe_callB (cr_max rfl) (by rfl) B.max_ (by decide +kernel) (pa_cons (pe_lc (own := [("one", 4)]) rfl sc_root_places.nd (pi_list (pv 2)) (blkOk_by (own := [("one", 4)]) (N := ["numbers", "places", "poly", "wide", "one", "found", "low", "place", "met"]) (sc := C8.fnScope s_root_places) (by decide +kernel)) (fun _ _ _ _ _ => (pg_name (i := 4) sc_root_places.nd rfl (by first | exact .inl rfl | exact .inr rfl))) (fun _ _ _ _ _ => pts_nil) (fun _ _ _ _ _ => (pe_callB call_abs_ (by rfl) B.abs_ (by decide +kernel) (pa_cons (pv 4) pa_nil)))) pa_nil))))
    (pss_cons (ps_set (i := 5) sc_root_places.nd rfl (by first | exact .inl rfl | exact .inr rfl) (pe_lst pa_nil))
    (pss_cons (ps_set (i := 6) sc_root_places.nd rfl (by first | exact .inl rfl | exact .inr rfl) (pe_un un_neg (pv 3)))
    (pss_cons (ps_for PassesOwn.never rfl (pi_list (pe_op op_cat (pv 1) (pe_lst (pa_cons (pv 3) pa_nil)))) (pg_name (i := 7) sc_root_places.nd rfl (by first | exact .inl rfl | exact .inr rfl))
    ((pss_cons (ps_if (pt_cmpR op_le (pv 6) (pv 7) (nomark _))
    ((pss_cons (ps_set (i := 8) sc_root_places.nd rfl (by first | exact .inl rfl | exact .inr rfl) (C8.pe_c c_turning_place hr (by decide) (by rfl) (pa_cons (pv 2) (pa_cons (pv 6) (pa_cons (pv 7) pa_nil)))))
    (pss_one (ps_if (PW.pt (pw_and (pt_cmpR op_notN_ (pv 8) pe_non (nomark _)) (pw_and1 (pt_cmpR op_notIn_seq (pv 8) (pv 1) (by with_unfolding_all rfl)))))
    ((pss_one (ps_expr (pe_bm PySem.F.plainAttrs_list PySem.F.slot_list_append PySem.F.type_list_append mt_append (pv 5) (pa_cons (pv 8) pa_nil))))) pss_nil)))) pss_nil)
    (pss_one (ps_set (i := 6) sc_root_places.nd rfl (by first | exact .inl rfl | exact .inr rfl) (pe_op op_add (pv 7) pe_int))))))
    (pss_one (ps_set (i := 1) sc_root_places.nd rfl (by first | exact .inl rfl | exact .inr rfl) (pe_callB cr_sortedI (by rfl) B.sorted_ (by decide +kernel) (pa_cons (pe_op op_cat (pv 1) (pv 5)) pa_nil))))))))))
    (pss_one (ps_ret (pv 1))))), ?_⟩
    refine go_start (show _ = [some _, none, none, none, none, none, none, none, none] from rfl) ?_
    walk_at "go"
    refine ⟨(by show 0 ≤ sizeLine; decide), fun p0 hp0 => ?_⟩
    have e0 := same_new (o := HO.lst []) hp0
    have hp0' : LI (upd H p0 (.lst [])) p0 [] := upd_same
    walk_at "go"
    refine ⟨l, g, b, rfl, hl.up e0, hl2, hl12, by omega, hbig, fun rp ws H1 e1 hws hwl hrow => ?_⟩
    have e01 := e0.trans e1
    obtain ⟨c0, hc0, hc0n⟩ := dn_last hlast (g.length - 1) (by omega)
    have hdn0 : dn g (g.length - 1) = [c0] := by
      have hlen := dn_len g (g.length - 1)
      rw [show g.length - (g.length - 1) = 1 by omega] at hlen
      match hx : dn g (g.length - 1), hlen with
      | [d], _ =>
        rw [hx] at hc0
        have : d = c0 := Option.some.inj hc0
        rw [this]
    refine ⟨rp, rfl, ⟨ws, SqL.of hws⟩, lp_list (xs := ws) (fun i σ' Hc => ∃ (pl : Addr) (qs : List Int) (x2 x3 x5 x6 x7 x8 : Option V), σ' = [some (.ref l), some (.ref pl), x2, x3, none, x5, x6, x7, x8] ∧ Same H1 Hc ∧ LI Hc pl qs ∧ qs.Pairwise (· ≤ ·) ∧ qs.length < 2 ^ i ∧ Bnd (b + 48) qs ∧ CellInv (dn g (g.length - 1 - i)) qs)
      ⟨p0, [], none, none, none, none, none, none, rfl, Same.refl _, hp0'.up e1, .nil, by decide, (fun c hc => by cases hc), ?_⟩ (fun i σ' Hc _ h => ?_) (fun i x σ' Hc hx h => ?_) (fun σ' Hc h => ?_)⟩
    · rw [Nat.sub_zero, hdn0]
      exact inv_const hc0n
    · obtain ⟨_, _, _, _, _, _, _, _, _, ec, _⟩ := h
      exact SqL.of (ec _ _ hws)
    · obtain ⟨pl, qs, x2, x3, x5, x6, x7, x8, rfl, ec, hpl, hsort, hqlen, hbnd, hinv⟩ := h
      have hi : i < g.length - 1 := by
        have := (List.getElem?_eq_some_iff.mp hx).1
        omega
      obtain ⟨rl, hrl, hrow'⟩ := hrow i hi
      have ex : x = .ref rl := by
        rw [hx] at hrl
        exact Option.some.inj hrl
      subst ex
      have hrow1 := hrow'.up ec
      have hdn : dn g (g.length - 1 - i) = derZ (dn g (g.length - 2 - i)) := by
        rw [show g.length - 1 - i = (g.length - 2 - i) + 1 by omega]
        rfl
      rw [hdn] at hinv
      have hrbig := big_mono (show b + 4 * (g.length - 2 - i) ≤ b + 48 by omega) (dn_big hl12 hbig (g.length - 2 - i))
      have hrlast := dn_last hlast (g.length - 2 - i) (by omega)
      have hrlen := dn_len g (g.length - 2 - i)
      have hnext : dn g (g.length - 1 - (i + 1)) = dn g (g.length - 2 - i) := by
        rw [show g.length - 1 - (i + 1) = g.length - 2 - i by omega]
      rw [hnext]
      have h2i : 2 ^ (i + 1) = 2 * 2 ^ i := by rw [Nat.pow_succ]; omega
      have h2b : 2 ^ i ≤ 2048 := Nat.le_trans (Nat.pow_le_pow_right (by decide) (show i ≤ 11 by omega)) (by decide)
      generalize hgr : dn g (g.length - 2 - i) = row at *
      have hrl0 : 0 < row.length := by omega
      walk_at "go"
      refine ⟨rl, rfl, ⟨_, SqL.of hrow1⟩, fun Dl hD => lc_wordL (fun i ys _ => i ≤ row.length ∧ ys = ((absL row).take i).map V.int) hrow1 (fun _ _ _ _ h _ => h) (fun i ys _ h => by rw [h.2, List.length_map, List.length_take]; omega) hD ⟨Nat.zero_le _, rfl⟩ (fun j x ys Hd hxj ed h => ?_) (fun ys Hd ed hys h => ?_)⟩
      · intro Qk Qn hk hn
        obtain ⟨c, hc, rfl⟩ := map_get hxj
        have hjl := (List.getElem?_eq_some_iff.mp hc).1
        walk_at "go"
        refine ⟨rfl, g_yes (ite_t ?_)⟩
        walk_at "go"
        refine hk _ _ (Same.refl _) ⟨hjl, ?_⟩
        have ha : (absL row)[j]? = some ((c.natAbs : Nat) : Int) := by
          unfold absL
          rw [List.getElem?_map, hc]
          rfl
        rw [h.2, List.take_add_one, ha, List.map_append]
        show _ ++ [V.int _] = _ ++ [V.int _]
        congr 2
        congr 1
        split <;> omega
      · have hfull : ys = (absL row).map V.int := by
          rw [h.2, List.take_of_length_le]
          show (List.map _ row).length ≤ _
          rw [List.length_map, List.length_map]
          exact Nat.le_refl _
        subst hfull
        walk_at "go"
        refine ⟨Dl, absL row, rfl, SqL.of hys, by show 0 < (List.map _ row).length; rw [List.length_map]; exact hrl0, fun N hN hmax => ?_⟩
        obtain ⟨cN, hcN, rfl⟩ := List.mem_map.mp hN
        have hN0 : (0 : Int) ≤ (cN.natAbs : Int) := by omega
        have hNb : ((cN.natAbs : Nat)) < 2 ^ (b + 48) := hrbig cN hcN
        have hmax' : ∀ c ∈ row, (c.natAbs : Int) ≤ (cN.natAbs : Int) := fun c hc => hmax _ (List.mem_map.mpr ⟨c, hc, rfl⟩)
        have far' : ∀ m : Int, (m < -(1 + (cN.natAbs : Int)) ∨ 1 + (cN.natAbs : Int) ≤ m) → OneOn (zq row) m := fun m hm => one_far hN0 hrlast hmax' hm
        walk_at "go"
        generalize hW : 1 + ((cN.natAbs : Nat) : Int) = W at *
        have hWb : W.natAbs ≤ 2 ^ (b + 48) := by omega
        have hW0 : 0 < W := by omega
        refine ⟨(by show 0 ≤ sizeLine; decide), fun fl hfl => ?_⟩
        have ecd := ec.trans ed
        have e2 := Same.up (o := HO.lst []) ecd hfl
        have hflv : LI (upd Hd fl (.lst [])) fl [] := upd_same
        have hfl1 : H1 fl = none := Same.free ecd hfl
        have hpl2 := (hpl.up ed).up (same_new (o := HO.lst []) hfl)
        have hrow2 := (hrow1.up ed).up (same_new (o := HO.lst []) hfl)
        have hplf : pl ≠ fl := fun z => by
          have h9 := hpl.up ed
          rw [z] at h9
          have h10 : Hd fl = some _ := h9
          rw [hfl] at h10
          cases h10
        have hrlf : rl ≠ fl := fun z => by
          have h9 := hrow1.up ed
          rw [z] at h9
          have h10 : Hd fl = some _ := h9
          rw [hfl] at h10
          cases h10
        generalize (upd Hd fl (.lst [])) = H2 at *
        walk_at "go"
        refine ⟨(by show 1 ≤ sizeLine; decide), fun wl hwl' => ?_⟩
        have e3 := same_new (o := HO.lst [V.int W]) hwl'
        have hwlv : (upd H2 wl (.lst [V.int W])) wl = some (.lst [V.int W]) := upd_same
        generalize (upd H2 wl (.lst [V.int W])) = H3 at *
        walk_at "go"
        refine g_catL (hpl2.up e3) hwlv (by rw [List.length_map]; show _ + 1 ≤ _; omega) fun cl hcl => ?_
        have e4 := same_new (o := HO.lst (qs.map V.int ++ [V.int W])) hcl
        have hclv : (upd H3 cl (.lst (qs.map V.int ++ [V.int W]))) cl = some (.lst ((qs ++ [W]).map V.int)) := by
          rw [upd_same, List.map_append]
          rfl
        have e24 := e3.trans e4
        have e14 := e2.trans e24
        have hfl4 := hflv.up e24
        have hcf : cl ≠ fl := fun z => by
          rw [z] at hcl
          have h9 : H3 fl = some _ := hflv.up e3
          rw [hcl] at h9
          cases h9
        have hpl4 := hpl2.up e24
        have hrow4 := hrow2.up e24
        generalize (upd H3 cl (.lst (qs.map V.int ++ [V.int W]))) = H4 at *
        have hml : ((qs ++ [W]).map V.int).length = qs.length + 1 := by rw [List.length_map, List.length_append]; rfl
        refine ⟨cl, rfl, ⟨_, SqL.of hclv⟩, lp_list (xs := (qs ++ [W]).map V.int) (fun j σ' Hj => ∃ (low : Int) (fs : List Int) (x7 x8 : Option V), σ' = [some (.ref l), some (.ref pl), some (.ref rl), some (.int W), none, some (.ref fl), some (.int low), x7, x8] ∧ Same H1 Hj ∧ LI Hj cl (qs ++ [W]) ∧ LI Hj pl qs ∧ LI Hj rl row ∧ LI Hj fl fs ∧ fs.length ≤ j ∧ Bnd (b + 48) fs ∧ LowAt qs W j low ∧ Cov row qs fs W low ∧ (low < 0 → low.natAbs ≤ 2 ^ (b + 48)))
          ⟨-W, [], _, _, rfl, e14, hclv, hpl4, hrow4, hfl4, Nat.le_refl _, (fun c hc => by cases hc), ⟨fun _ => rfl, fun i c h _ => by omega⟩, (fun m h1 h2 => by omega), by omega⟩ (fun j σ' Hj _ h => ?_) (fun j x σ' Hj hxj h => ?_) (fun σ' Hj h => ?_)⟩
        · obtain ⟨_, _, _, _, _, _, h, _⟩ := h
          exact SqL.of h
        · obtain ⟨low, fs, y7, y8, rfl, ej, hclj, hplj, hrlj, hflj, hfsl, hfsb, hlow, hcov, hlb⟩ := h
          obtain ⟨pj, hpj, rfl⟩ := map_get hxj
          have hjl := (List.getElem?_eq_some_iff.mp hpj).1
          have hjl' : j < qs.length + 1 := by
            rw [List.length_append] at hjl
            exact hjl
          have hpjb : pj.natAbs ≤ 2 ^ (b + 48) := by
            have := List.mem_of_getElem? hpj
            rcases List.mem_append.mp this with h | h
            · exact hbnd _ h
            · have : pj = W := by simpa using h
              rw [this]
              exact hWb
          have hoW : OneOn (zq row) W := far' W (.inr (Int.le_refl _))
          have hlow' : LowAt qs W (j + 1) (pj + 1) := ⟨fun z => by omega, fun i c h h2 => by
            have : i = j := by omega
            subst this
            rw [hpj] at h2
            rw [Option.some.inj h2]⟩
          walk_at "go"
          walk_at "if"
          · intro hle
            walk_at "go"
            refine ⟨rl, row, b + 48, low, pj, rfl, hrlj, by omega, by omega, hrbig, by omega, hpjb, hle, mono_of hle fun m h1 h2 => (hinv m).resolve_left (not_mem_between hsort hlow hpj h1 h2), fun t H5 e5 ht htb => ?_⟩
            have hcl5 := hclj.up e5
            have hpl5 := hplj.up e5
            have hrl5 := hrlj.up e5
            have hfl5 := hflj.up e5
            have ej5 := ej.trans e5
            cases t with
            | none =>
              walk_at "go"
              refine g_notN_n ?_
              walk_at "go"
              exact ⟨_, fs, _, _, rfl, ej5, hcl5, hpl5, hrl5, hfl5, by omega, hfsb, hlow', cov_step hoW hcov hpj (fun _ => ht) (fun _ h => h) (fun m _ h => by cases h), by omega⟩
            | some m =>
              walk_at "go"
              refine g_notN_i ?_
              walk_at "go"
              refine g_notIn hpl5 ?_
              walk_at "go"
              refine ite_nd (fun hm => ?_) (fun hm => ?_)
              · obtain ⟨hm1, hm2⟩ := htb m rfl
                walk_at "go"
                refine g_tyL hfl5 ?_
                walk_at "go"
                refine g_app hfl5 (by rw [List.length_map]; omega) ?_
                walk_at "go"
                refine ⟨_, fs ++ [m], _, _, rfl, same_mut ej5 hfl1, ?_, ?_, ?_, ?_, by rw [List.length_append]; show _ + 1 ≤ _; omega, ?_, hlow', cov_step hoW hcov hpj (fun _ => ht) (fun _ h => List.mem_append_left _ h) (fun m' _ h => by cases h; exact .inr (by simp)), by omega⟩
                · show upd H5 fl _ cl = _
                  rw [upd_ne hcf]
                  exact hcl5
                · show upd H5 fl _ pl = _
                  rw [upd_ne hplf]
                  exact hpl5
                · show upd H5 fl _ rl = _
                  rw [upd_ne hrlf]
                  exact hrl5
                · show upd H5 fl _ fl = _
                  rw [upd_same, List.map_append]
                  rfl
                · intro c hc
                  rcases List.mem_append.mp hc with h | h
                  · exact hfsb c h
                  · have : c = m := by simpa using h
                    subst this
                    omega
              · walk_at "go"
                exact ⟨_, fs, _, _, rfl, ej5, hcl5, hpl5, hrl5, hfl5, by omega, hfsb, hlow', cov_step hoW hcov hpj (fun _ => ht) (fun _ h => h) (fun m' _ h => by cases h; exact .inl hm), by omega⟩
          · intro hle
            walk_at "go"
            exact ⟨_, fs, _, _, rfl, ej, hclj, hplj, hrlj, hflj, by omega, hfsb, hlow', cov_step (t := none) hoW hcov hpj (fun z => absurd z hle) (fun _ h => h) (fun m z _ => absurd z hle), by omega⟩
        · obtain ⟨low, fs, y7, y8, rfl, ej, hclj, hplj, hrlj, hflj, hfsl, hfsb, hlow, hcov, hlb⟩ := h
          rw [hml] at hlow hfsl
          have hlow' : low = W + 1 := hlow.2 qs.length W rfl (by rw [List.getElem?_append_right (Nat.le_refl _), Nat.sub_self]; rfl)
          subst hlow'
          walk_at "go"
          refine g_catL hplj hflj (by rw [List.length_map, List.length_map]; omega) fun a5 ha5 => ?_
          have e5 := same_new (o := HO.lst (qs.map V.int ++ fs.map V.int)) ha5
          have ha5v : (upd Hj a5 (.lst (qs.map V.int ++ fs.map V.int))) a5 = some (.lst ((qs ++ fs).map V.int)) := by rw [upd_same, List.map_append]
          generalize (upd Hj a5 (.lst (qs.map V.int ++ fs.map V.int))) = H5 at *
          walk_at "go"
          refine ⟨a5, qs ++ fs, rfl, SqL.of ha5v, fun ns p6 hperm hsorted hp6 => ?_⟩
          have e6 := same_new (o := HO.lst (ns.map V.int)) hp6
          have hnl : ns.length = qs.length + fs.length := by rw [hperm.length_eq, List.length_append]
          refine ⟨p6, ns, _, _, _, _, _, _, rfl, ej.trans (e5.trans e6), upd_same, hsorted, by omega, (fun c hc => ?_), fun m => ?_⟩
          · rcases List.mem_append.mp (hperm.mem_iff.mp hc) with h | h
            · exact hbnd c h
            · exact hfsb c h
          · by_cases c1 : m < -W
            · exact .inr (far' m (.inl c1))
            · by_cases c2 : W ≤ m
              · exact .inr (far' m (.inr c2))
              · rcases hcov m (by omega) (by omega) with h | h | h
                · exact .inl (hperm.mem_iff.mpr (List.mem_append_left _ h))
                · exact .inl (hperm.mem_iff.mpr (List.mem_append_right _ h))
                · exact .inr h
    · obtain ⟨pl, qs, x2, x3, x5, x6, x7, x8, rfl, ec, hpl, hsort, hqlen, hbnd, hinv⟩ := h
      rw [hwl, Nat.sub_self] at hinv
      walk_at "go"
      refine q pl qs _ (e01.trans ec) hpl hsort ?_ hbnd hinv
      have h2b : 2 ^ ws.length ≤ 2048 := Nat.le_trans (Nat.pow_le_pow_right (by decide) (show ws.length ≤ 11 by omega)) (by decide)
      omega
end
end Kw
set_option maxHeartbeats 4000000
namespace Kw
open PySem PySem.Spec PyProof.Rows L2 RT
local macro_rules | `(tactic| walk_at "step") => `(tactic| with_reducible first
  | refine g_op ?_ | refine g_c ?_ | refine g_test ?_ | refine g_bl ?_ | refine g_seq ?_ | refine g_ifS ?_ | refine g_cons ?_ | refine g_nil ?_ | refine g_I0 ?_ | refine g_asg ?_ | refine g_name ?_
  | refine g_ret ?_ | refine g_nx ?_ | refine g_cb ?_ | refine g_call ?_ | refine g_un ?_ | refine g_rU ?_ | refine g_B ?_ | refine g_and ?_ | refine g_or ?_ | refine g_not ?_ | refine g_andV ?_ | refine g_orV ?_
  | refine g_notV ?_ | refine g_ifE ?_ | refine g_drop ?_ | refine g_par ?_ | refine g_two ?_ | refine g_abs ?_ | refine g_mx ?_ | refine g_int ?_ | refine g_tup ?_ | refine g_lst ?_ | refine g_chain ?_
  | refine g_sl ?_ | refine g_nopart ?_ | refine g_part ?_ | refine g_partI ?_ | refine g_bm ?_ | refine g_sub ?_ | refine g_ip ?_ | refine g_make ?_ | refine g_forR1 ?_ | refine g_forR2 ?_ | refine g_forR3 ?_ | refine g_forL ?_ | refine g_forT ?_ | refine g_forV ?_ | refine g_forVR ?_ | refine g_forE ?_ | refine g_lcL ?_ | refine g_lcT ?_ | refine g_lcR1 ?_ | refine g_lcR2 ?_ | refine g_fld ?_ | refine g_meth ?_ | refine ite_t ?_ | refine ite_nt ?_ | refine ite_nf ?_ | refine g_eqi ?_ | refine g_nei ?_ | refine ite_f ?_ | refine g_isN_n ?_ | refine g_isN_i ?_ | refine g_isN_r ?_ | refine g_notN_n ?_ | refine g_notN_i ?_ | refine g_notN_r ?_ | refine g_isi_ib ?_ | refine g_isi_ii ?_ | refine g_isi_it ?_ | refine g_isi_nt ?_)
local macro_rules | `(tactic| walk_at "var") => `(tactic| ((with_reducible refine' g_var ?hvar ?_); (case hvar => rfl)))
local macro_rules | `(tactic| walk_at "fact") => `(tactic| first
  | ((with_reducible refine' g_ixT ?hfact ?hat ?_); (case hfact => assumption); (case hat => rfl))
  | ((with_reducible refine' g_ixL ?hfact ?hat ?_); (case hfact => assumption); (case hat => rfl)))
local macro_rules | `(tactic| walk_at "fact1") => `(tactic| first
  | ((with_reducible refine' g_lenT ?hfact ?_); (case hfact => assumption))
  | ((with_reducible refine' g_lenL ?hfact ?_); (case hfact => assumption))
  | ((with_reducible refine' g_isi_tt ?hfact ?_); (case hfact => assumption)))
local macro_rules | `(tactic| walk_at "go") => `(tactic| repeat (first | walk_at "step" | walk_at "var" | walk_at "fact" | walk_at "fact1"))
local macro_rules | `(tactic| walk_at "if") => `(tactic| with_reducible first | refine ite_d ?_ ?_ | refine ite_n ?_ ?_ | refine ite_b ?_ ?_)
local macro_rules | `(tactic| walk_at "prime") => `(tactic| refine fig_prime (by assumption) (by assumption) ?_)
local macro_rules | `(tactic| walk_at "zero") => `(tactic| refine fig_zero (by assumption) (by assumption) ?_)
local macro_rules | `(tactic| walk_at "one") => `(tactic| refine fig_one (by assumption) (by assumption) ?_)
local macro_rules | `(tactic| walk_at "meth") => `(tactic| refine fig_meth (by assumption) (by decide +kernel) ?_)
section
variable {P : Program} {w : World} {K : PySem.W.Frag} {mg : Str → Option Value} {base : Heap} {f : Addr} {fd : FuncData}
/-! ### fraction_roots -/
def GoodR (g rs : List Rat) : Prop := rs.Pairwise (· ≤ ·) ∧ (∀ r, r ∈ rs ↔ ev g r = 0) ∧ rs.length ≤ 100000
def spFrac : Sp := fun vs H Q _ => ∃ (v : V) (g : List Rat), vs = [v] ∧ TRep H v g ∧ Led g ∧ 2 ≤ g.length ∧ g.length ≤ 12 ∧ Bds 100 g ∧ ∀ v' H' rs, Same H H' → TRep H' v' rs → GoodR g rs → Q v' H'
theorem split_last {α : Type} {f : List α} {c : α} (h : f.getLast? = some c) : ∃ t, f = t ++ [c] := by
  match f, h with
  | a :: t, h =>
    refine ⟨(a :: t).dropLast, ?_⟩
    have := List.dropLast_concat_getLast (l := a :: t) (by simp)
    have h2 : (a :: t).getLast (by simp) = c := by
      rw [List.getLast?_eq_some_getLast (by simp)] at h
      exact Option.some.inj h
    rw [← h2]
    exact this.symm
theorem clear_split {g : List Rat} (h : Led g) : ∃ t L, clearF g = t ++ [L] ∧ L ≠ 0 ∧ t.length + 1 = g.length := by
  obtain ⟨c, hc, h0⟩ := h
  obtain ⟨t, rfl⟩ := split_last hc
  have hm : c ∈ t ++ [c] := by simp
  have hd := (lcm_from (t ++ [c]) 1).2.1 c hm
  refine ⟨t.map fun q => q.num * ((lcmL (t ++ [c]) / q.den : Nat) : Int), c.num * ((lcmL (t ++ [c]) / c.den : Nat) : Int), ?_, ?_, ?_⟩
  · unfold clearF
    rw [List.map_append]
    rfl
  · have h1 : c.num ≠ 0 := fun z => h0 (Rat.num_eq_zero.mp z)
    have h2 : 0 < lcmL (t ++ [c]) / c.den := Nat.div_pos (Nat.le_of_dvd (lcm_pos _) hd) c.den_pos
    exact Int.mul_ne_zero h1 (by omega)
  · rw [List.length_map, List.length_append]
    rfl
theorem good_of {g : List Rat} {t qs : List Int} {L : Int} (hg : clearF g = t ++ [L]) (hL : L ≠ 0) (hs : qs.Pairwise (· ≤ ·)) (hl : qs.length ≤ 5000) (hi : CellInv (strF L t) qs) : GoodR g (rsF L (topsF (strF L t) qs)) :=
  ⟨rs_sorted hL hs, fun r => by rw [roots_right hL hi, ← hg, clear_root], Nat.le_trans (rs_len ..) (by omega)⟩
theorem rsF_len' (L : Int) (ts : List Int) : (rsF L ts).length = ts.length := by
  unfold rsF
  rw [List.length_map]
  split
  · rw [List.length_reverse]
  · rfl
theorem ok_fraction_roots (B : Bn mg) (c_cleared_numbers : C8.Cal P w K mg base 2 "cleared_numbers" spClear []) (c_stretched_numbers : C8.Cal P w K mg base 1 "stretched_numbers" spStr []) (c_root_places : C8.Cal P w K mg base 3 "root_places" spPlaces [])
    (c_whole_value : C8.Cal P w K mg base 1 "whole_value" spWV []) (c_make_ratio : C8.Cal P w K mg base 3 "make_ratio" spMake []) (F : C8.Fun K "fraction_roots" "fraction_roots" s_fraction_roots f fd) : FnOk P w K mg base C8.CX0 4 f fd ["poly"] spFrac := by
  refine C8.fn0 F sc_fraction_roots (fun vs H Q E h => ?_) (fun cdv A outer s H vs Q E hr h => ?_)
  · obtain ⟨i, lo, rfl, _⟩ := h
    rfl
  · obtain ⟨v, g, rfl, hv, hled, hl2, hl12, hb, q⟩ := h
    obtain ⟨t, L, hcl, hL, htl⟩ := clear_split hled
    have hcb := (clear_big hb).1
    rw [hcl] at hcb
    refine ⟨_, (pss_cons (ps_set (i := 1) sc_fraction_roots.nd rfl (by first | exact .inl rfl | exact .inr rfl) (C8.pe_c c_cleared_numbers hr (by decide) (by rfl) (pa_cons (pv 0) pa_nil)))
    (pss_cons (ps_set (i := 2) sc_fraction_roots.nd rfl (by first | exact .inl rfl | exact .inr rfl) (C8.pe_c c_stretched_numbers hr (by decide) (by rfl) (pa_cons (pv 1) pa_nil)))
    (pss_cons (ps_set (i := 3) sc_fraction_roots.nd rfl (by first | exact .inl rfl | exact .inr rfl) (pe_ix ix_list (pv 1) (pe_un un_neg pe_int) (fun _ _ => rfl)))
    (pss_cons (ps_setLc (i := 4) (own := [("place", 5)]) rfl sc_fraction_roots.nd rfl rfl (sw_true rfl rfl rfl (by decide +kernel)) (pi_list (C8.pe_c c_root_places hr (by decide) (by rfl) (pa_cons (pv 2) pa_nil))) (blkOk_by (own := [("place", 5)]) (N := ["poly", "numbers", "stretched", "lead", "tops", "place", "top"]) (sc := C8.fnScope s_fraction_roots) (by decide +kernel)) (fun _ _ _ _ _ => (pg_name (i := 5) sc_fraction_roots.nd rfl (by first | exact .inl rfl | exact .inr rfl))) (fun _ _ _ _ _ => (pts_one (pt_cmpR op_eq (C8.pe_c c_whole_value hr (by decide) (by rfl) (pa_cons (pv 2) (pa_cons (pv 5) pa_nil))) pe_int (nomark _)))) (fun _ _ _ _ _ => (pv 5)))
    (pss_cons (ps_if (pt_cmpR op_lt (pv 3) pe_int (nomark _))
    ((pss_one (ps_set (i := 4) sc_fraction_roots.nd rfl (by first | exact .inl rfl | exact .inr rfl) (pe_revL (pv 4))))) pss_nil)
    (pss_one (ps_ret (pe_callTy call_tuple_of_ (by rfl) B.tuple_ (by decide +kernel) (pa_cons (pe_lc (own := [("top", 6)]) rfl sc_fraction_roots.nd (pi_list (pv 4)) (blkOk_by (own := [("top", 6)]) (N := ["poly", "numbers", "stretched", "lead", "tops", "place", "top"]) (sc := C8.fnScope s_fraction_roots) (by decide +kernel)) (fun _ _ _ _ _ => (pg_name (i := 6) sc_fraction_roots.nd rfl (by first | exact .inl rfl | exact .inr rfl))) (fun _ _ _ _ _ => pts_nil) (fun _ _ _ _ _ => (C8.pe_c c_make_ratio hr (by decide) (by rfl) (pa_cons (pv 6) (pa_cons (pv 3) pa_nil))))) pa_nil))))))))), ?_⟩
    refine go_start (show _ = [some _, none, none, none, none, none, none] from rfl) ?_
    walk_at "go"
    refine ⟨v, g, rfl, hv, hl12, hb, fun l1 H1 e1 _ hl1 => ?_⟩
    rw [hcl] at hl1
    walk_at "go"
    refine ⟨l1, t, L, rfl, hl1, by omega, hcb, fun l2 H2 e2 _ hl2' => ?_⟩
    have hl12' := hl1.up e2
    walk_at "go"
    refine g_ixL (xs := (t ++ [L]).map V.int) (v := .int L) hl12' (atI_last' (by simp)) ?_
    walk_at "go"
    have hLb : L.natAbs < 2 ^ 800 := hcb L (by simp)
    have hsb : Big 8802 (strF L t) := big_mono (by omega) (str_big hLb t fun c hc => hcb c (List.mem_append_left _ hc))
    have hsl := str_len L t
    refine ⟨l2, strF L t, 8802, rfl, hl2', by omega, by omega, by decide, hsb, ⟨1, str_last L t, by decide⟩, fun p qs H3 e3 hp hsort hql hqb hinv => ?_⟩
    have hgood := good_of hcl hL hsort hql hinv
    have hl23 := hl2'.up e3
    have e13 := e1.trans (e2.trans e3)
    refine ⟨p, rfl, ⟨_, SqL.of hp⟩, fun Dl hD => lc_wordL (xs := qs.map V.int) (fun i ys _ => i ≤ qs.length ∧ ys = (topsF (strF L t) (qs.take i)).map V.int) hp (fun _ _ _ _ h _ => h) (fun i ys _ h => by
      rw [h.2, List.length_map]
      have h1 := List.length_filter_le (fun m => decide (evZ (strF L t) m = 0)) (qs.take i)
      have h2 := List.length_take (i := i) (l := qs)
      show (List.filter _ _).length ≤ _
      omega) hD ⟨Nat.zero_le _, rfl⟩ (fun i x ys Hc hx ec h => ?_) (fun ys Hc ec hys h => ?_)⟩
    · intro Qk Qn hk hn
      obtain ⟨c, hc, rfl⟩ := map_get hx
      have hi := (List.getElem?_eq_some_iff.mp hc).1
      have hcm := hqb c (List.mem_of_getElem? hc)
      have etake : topsF (strF L t) (qs.take (i + 1)) = topsF (strF L t) (qs.take i) ++ (if evZ (strF L t) c = 0 then [c] else []) := by
        unfold topsF
        rw [List.take_add_one, hc, List.filter_append]
        congr 1
        show (List.filter _ [c]) = _
        rw [List.filter_cons]
        by_cases z : evZ (strF L t) c = 0 <;> simp [z]
      walk_at "go"
      refine ⟨rfl, ?_⟩
      walk_at "go"
      refine ⟨l2, c, strF L t, 8850, rfl, hl23.up ec, by omega, by decide, big_mono (by decide) hsb, hcm, ?_⟩
      walk_at "go"
      walk_at "if"
      · intro hz
        rw [if_pos hz] at etake
        walk_at "go"
        refine hk _ _ (Same.refl _) ⟨hi, ?_⟩
        rw [etake, h.2, List.map_append]
        rfl
      · intro hz
        rw [if_neg hz] at etake
        refine hn _ (Same.refl _) ⟨hi, ?_⟩
        rw [etake, h.2, List.append_nil]
    · have hfull : ys = (topsF (strF L t) qs).map V.int := by
        rw [h.2, List.take_of_length_le]
        rw [List.length_map]
        exact Nat.le_refl _
      subst hfull
      have key : ∀ (D2 : Addr) (H4 : Hp) (ts : List Int) (x5 x6 : Option V), Same H H4 → H4 D2 = some (.lst (ts.map V.int)) → ts = (if L < 0 then (topsF (strF L t) qs).reverse else topsF (strF L t) qs) → ∀ Dl2, H4 Dl2 = none → ∀ ys2 H5, Same H4 H5 → H5 Dl2 = some (.lst ys2) → Reps H5 ys2 ((ts.map fun m => Rat.divInt m L)) → ∀ p7, H5 p7 = none → Q (.ref p7) (upd H5 p7 (.tup ys2)) := by
        intro D2 H4 ts x5 x6 e4 hD2 hts Dl2 hDl2 ys2 H5 e5 hys2 hreps p7 hp7
        have e7 := same_new (o := HO.tup ys2) hp7
        refine q _ _ (rsF L (topsF (strF L t) qs)) (e4.trans (e5.trans e7)) ⟨p7, ys2, rfl, upd_same, ?_⟩ hgood
        unfold rsF
        rw [← hts]
        exact hreps.up e7
      have step : ∀ (D2 : Addr) (H4 : Hp) (ts : List Int), Same H H4 → H4 D2 = some (.lst (ts.map V.int)) → ts = (if L < 0 then (topsF (strF L t) qs).reverse else topsF (strF L t) qs) → ts.length ≤ 5000 := by
        intro D2 H4 ts _ _ hts
        have h1 := rs_len L (strF L t) qs
        unfold rsF at h1
        rw [← hts, List.length_map] at h1
        omega
      walk_at "go"
      walk_at "if"
      · intro hneg
        walk_at "go"
        refine g_revL ?_
        walk_at "go"
        refine ⟨_, _, rfl, SqL.of hys, fun D2 hD2 => ?_⟩
        have e4 := Same.up (o := HO.lst ((topsF (strF L t) qs).map V.int).reverse) (e13.trans ec) hD2
        have hD2v : (upd Hc D2 (.lst ((topsF (strF L t) qs).map V.int).reverse)) D2 = some (.lst ((topsF (strF L t) qs).reverse.map V.int)) := by rw [upd_same, List.map_reverse]
        generalize (upd Hc D2 (.lst ((topsF (strF L t) qs).map V.int).reverse)) = H4 at *
        have hts : (topsF (strF L t) qs).reverse = (if L < 0 then (topsF (strF L t) qs).reverse else topsF (strF L t) qs) := by rw [if_pos hneg]
        have hlen := step D2 H4 _ e4 hD2v hts
        have key' := key D2 H4 _ none none e4 hD2v hts
        generalize (topsF (strF L t) qs).reverse = ts at *
        walk_at "go"
        refine ⟨D2, rfl, ⟨_, SqL.of hD2v⟩, fun Dl2 hDl2 => lc_wordL (xs := ts.map V.int) (fun i ys Ha => i ≤ ts.length ∧ ys.length = i ∧ Reps Ha ys ((ts.take i).map fun m => Rat.divInt m L)) hD2v (fun _ _ _ _ h im => ⟨h.1, h.2.1, h.2.2.im im⟩) (fun i ys _ h => by omega) hDl2 ⟨Nat.zero_le _, rfl, .nil⟩ (fun i x ys Hd hx ed h => ?_) (fun ys Hd ed hys h => ?_)⟩
        · intro Qk Qn hk hn
          obtain ⟨c, hc, rfl⟩ := map_get hx
          have hi := (List.getElem?_eq_some_iff.mp hc).1
          walk_at "go"
          refine ⟨rfl, g_yes (ite_t ?_)⟩
          walk_at "go"
          refine ⟨c, L, rfl, hL, Nat.lt_of_lt_of_le hLb (Nat.pow_le_pow_right (by decide) (by decide)), fun v6 H6 e6 h6 => ?_⟩
          refine hk _ _ e6 ⟨hi, by rw [List.length_append, h.2.1]; rfl, ?_⟩
          rw [List.take_add_one, hc, List.map_append]
          exact Paired.snoc (h.2.2.up e6) h6
        · walk_at "go"
          refine g_tupOfL hys fun p7 hp7 => key' Dl2 hDl2 ys Hd ed hys ?_ p7 hp7
          have h9 := h.2.2
          rw [List.take_of_length_le (by rw [List.length_map]; exact Nat.le_refl _)] at h9
          exact h9
      · intro hneg
        have e4 := e13.trans ec
        have hts : topsF (strF L t) qs = (if L < 0 then (topsF (strF L t) qs).reverse else topsF (strF L t) qs) := by rw [if_neg hneg]
        have hlen := step Dl Hc _ e4 hys hts
        have key' := key Dl Hc _ none none e4 hys hts
        generalize topsF (strF L t) qs = ts at *
        walk_at "go"
        refine ⟨Dl, rfl, ⟨_, SqL.of hys⟩, fun Dl2 hDl2 => lc_wordL (xs := ts.map V.int) (fun i ys Ha => i ≤ ts.length ∧ ys.length = i ∧ Reps Ha ys ((ts.take i).map fun m => Rat.divInt m L)) hys (fun _ _ _ _ h im => ⟨h.1, h.2.1, h.2.2.im im⟩) (fun i ys _ h => by omega) hDl2 ⟨Nat.zero_le _, rfl, .nil⟩ (fun i x ys Hd hx ed h => ?_) (fun ys Hd ed hys h => ?_)⟩
        · intro Qk Qn hk hn
          obtain ⟨c, hc, rfl⟩ := map_get hx
          have hi := (List.getElem?_eq_some_iff.mp hc).1
          walk_at "go"
          refine ⟨rfl, g_yes (ite_t ?_)⟩
          walk_at "go"
          refine ⟨c, L, rfl, hL, Nat.lt_of_lt_of_le hLb (Nat.pow_le_pow_right (by decide) (by decide)), fun v6 H6 e6 h6 => ?_⟩
          refine hk _ _ e6 ⟨hi, by rw [List.length_append, h.2.1]; rfl, ?_⟩
          rw [List.take_add_one, hc, List.map_append]
          exact Paired.snoc (h.2.2.up e6) h6
        · walk_at "go"
          refine g_tupOfL hys fun p7 hp7 => key' Dl2 hDl2 ys Hd ed hys ?_ p7 hp7
          have h9 := h.2.2
          rw [List.take_of_length_le (by rw [List.length_map]; exact Nat.le_refl _)] at h9
          exact h9
/-! ### plain_roots -/
theorem okQ_plain_roots {C : Addr} (M : FgM Rat P w K mg base C) (B : Bn mg) (c_fraction_roots : C8.Cal P w K mg base 4 "fraction_roots" spFrac []) (F : C8.Fun K "plain_roots" "plain_roots" s_plain_roots f fd) :
    FnOk P w K mg base C8.CX0 12 f fd ["figures", "poly"] (spRoots Rat C (Bds 100) GoodR) := by
  refine C8.fn0 F sc_plain_roots (fun vs H Q E h => ?_) (fun cdv A outer s H vs Q E hr h => ?_)
  · obtain ⟨i, lo, x, rfl, _⟩ := h
    rfl
  · obtain ⟨fa, _, g, rfl, hF, ⟨a, vs, rfl, ha, hv⟩, hled, hl12, hb, q⟩ := h
    have T := M.T
    have hvl := hv.len
    have hpos := hled.pos
    refine ⟨_, (pss_cons (ps_if (pt_cmpR op_eq (pe_callB call_len_ (by rfl) B.len_ (by decide +kernel) (pa_cons (pv 1) pa_nil)) pe_int (nomark _))
    ((pss_one (ps_ret (pe_tup pa_nil)))) pss_nil)
    (pss_cons (ps_if (pt_cmpR op_eq (pe_fld (pv 0) rfl) pe_int (nomark _))
    ((pss_one (ps_ret (C8.pe_c c_fraction_roots hr (by decide) (by rfl) (pa_cons (pv 1) pa_nil))))) pss_nil)
    (pss_one ps_never))), ?_⟩
    refine go_start (show _ = [some _, some _, none] from rfl) ?_
    walk_at "go"
    walk_at "if"
    · intro h1
      walk_at "go"
      refine ⟨(by show 0 ≤ sizeLine; decide), fun p hp => ?_⟩
      refine q _ _ [] (same_new (o := HO.tup []) hp) ⟨p, [], rfl, upd_same, .nil⟩ ⟨.nil, fun r => ⟨fun h => (by cases h), fun h => absurd h (led_one hled (by omega))⟩, by show 0 ≤ 100000; decide⟩
    · intro h1
      walk_at "go"
      walk_at "prime"
      walk_at "go"
      rw [pR]
      walk_at "go"
      exact ⟨_, g, rfl, ⟨a, vs, rfl, ha, hv⟩, hled, by omega, hl12, hb, q⟩
section
variable {n : Nat} [NeZero n]
def rootsF (g : List (Fin n)) : List (Fin n) := (List.finRange n).filter fun r => decide (ev g r = 0)
def GoodF (g rs : List (Fin n)) : Prop := rs = rootsF g
theorem okF_plain_roots {C : Addr} (hn : n ≤ 13) (M : FgM (Fin n) P w K mg base C) (B : Bn mg) (c_all_numbers : C8.Met P w K mg base 1 C "all_numbers" (spAll (n := n) C) []) (c_value_at : C8.Cal P w K mg base 5 "value_at" (spValue (Fin n) C) [])
    (F : C8.Fun K "plain_roots" "plain_roots" s_plain_roots f fd) : FnOk P w K mg base C8.CX0 12 f fd ["figures", "poly"] (spRoots (Fin n) C (fun _ => True) GoodF) := by
  refine C8.fn0 F sc_plain_roots (fun vs H Q E h => ?_) (fun cdv A outer s H vs Q E hr h => ?_)
  · obtain ⟨i, lo, x, rfl, _⟩ := h
    rfl
  · obtain ⟨fa, _, g, rfl, hF, ⟨a, vs, rfl, ha, hv⟩, hled, hl12, hb, q⟩ := h
    have T := M.T
    have hvl := hv.len
    have hpos := hled.pos
    refine ⟨_, (pss_cons (ps_if (pt_cmpR op_eq (pe_callB call_len_ (by rfl) B.len_ (by decide +kernel) (pa_cons (pv 1) pa_nil)) pe_int (nomark _))
    ((pss_one (ps_ret (pe_tup pa_nil)))) pss_nil)
    (pss_cons (ps_if (pt_cmpR op_eq (pe_fld (pv 0) rfl) pe_int (nomark _))
    ((pss_one ps_never)) pss_nil)
    (pss_one (ps_ret (pe_callTy call_tuple_of_ (by rfl) B.tuple_ (by decide +kernel) (pa_cons (pe_lc (own := [("number", 2)]) rfl sc_plain_roots.nd (pi_tup (C8.pe_mt0 c_all_numbers hr (by decide) (pv 0))) (blkOk_by (own := [("number", 2)]) (N := ["figures", "poly", "number"]) (sc := C8.fnScope s_plain_roots) (by decide +kernel)) (fun _ _ _ _ _ => (pg_name (i := 2) sc_plain_roots.nd rfl (by first | exact .inl rfl | exact .inr rfl))) (fun _ _ _ _ _ => (pts_one (pt_cmpR (op_eqDK hr.units (K := K)) (C8.pe_c c_value_at hr (by decide) (by rfl) (pa_cons (pv 0) (pa_cons (pv 1) (pa_cons (pv 2) pa_nil)))) (pe_fldK (K := K) (pv 0) rfl) (nomark _)))) (fun _ _ _ _ _ => (pv 2))) pa_nil)))))), ?_⟩
    refine go_start (show _ = [some _, some _, none] from rfl) ?_
    walk_at "go"
    walk_at "if"
    · intro h1
      walk_at "go"
      refine ⟨(by show 0 ≤ sizeLine; decide), fun p hp => ?_⟩
      refine q _ _ [] (same_new (o := HO.tup []) hp) ⟨p, [], rfl, upd_same, .nil⟩ ?_
      show [] = List.filter _ _
      refine (List.filter_eq_nil_iff.mpr fun r _ => ?_).symm
      have := led_one (r := r) hled (by omega)
      simp [this]
    · intro h1
      walk_at "go"
      walk_at "prime"
      walk_at "go"
      rw [pF0]
      walk_at "go"
      refine fig_meth hF (by decide +kernel) ?_
      walk_at "go"
      refine ⟨fa, rfl, hF, fun v1 H1 e1 h1' => ?_⟩
      obtain ⟨a1, ws, rfl, ha1, hws⟩ := h1'
      have hwl := hws.len
      have hfl : (List.finRange n).length = n := by simp
      refine ⟨a1, rfl, ⟨ws, SqT.of ha1⟩, fun Dl hD => lc_wordT (fun i ys Ha => i ≤ ws.length ∧ ys.length ≤ i ∧ Reps Ha ys (((List.finRange n).take i).filter fun r => decide (ev g r = 0))) ha1 (fun _ _ _ _ h im => ⟨h.1, h.2.1, h.2.2.im im⟩) (fun i ys _ h => by omega) hD ⟨Nat.zero_le _, Nat.le_refl _, .nil⟩ (fun i x ys Hc hx ec h => ?_) (fun ys Hc ec hys h => ?_)⟩
      · intro Qk Qn hk hn'
        have e2 := e1.trans ec
        have hi := (List.getElem?_eq_some_iff.mp hx).1
        obtain ⟨y, hy, ry⟩ := (hws.up ec).get' hx
        have etake : (((List.finRange n).take (i + 1)).filter fun r => decide (ev g r = 0)) = (((List.finRange n).take i).filter fun r => decide (ev g r = 0)) ++ (if ev g y = 0 then [y] else []) := by
          rw [List.take_add_one, hy, List.filter_append]
          congr 1
          show (List.filter _ [y]) = _
          rw [List.filter_cons]
          by_cases z : ev g y = 0 <;> simp [z]
        walk_at "go"
        refine ⟨rfl, ?_⟩
        walk_at "go"
        refine ⟨fa, _, x, g, y, rfl, hF.up e2, ⟨a, vs, rfl, e2 _ _ ha, hv.up e2⟩, ry, ⟨hled, hl12, trivial, fun _ _ => trivial, fun _ => trivial⟩, fun v3 H3 e3 h3 => ?_⟩
        walk_at "go"
        refine fig_zero T (hF.up (e2.trans e3)) fun z hz => ?_
        refine g_eqR h3 hz ?_
        walk_at "go"
        walk_at "if"
        · intro hz0
          rw [if_pos (of_decide_eq_true hz0)] at etake
          walk_at "go"
          refine hk _ _ e3 ⟨hi, by rw [List.length_append]; show _ + 1 ≤ _; omega, ?_⟩
          rw [etake]
          exact Paired.snoc (h.2.2.up e3) (ry.up e3)
        · intro hz0
          rw [if_neg (of_decide_eq_false hz0)] at etake
          refine hn' _ e3 ⟨hi, by omega, ?_⟩
          rw [etake, List.append_nil]
          exact h.2.2.up e3
      · walk_at "go"
        refine g_tupOfL hys fun p7 hp7 => ?_
        have e7 := same_new (o := HO.tup ys) hp7
        refine q _ _ _ (e1.trans (ec.trans e7)) ⟨p7, ys, rfl, upd_same, h.2.2.up e7⟩ ?_
        rw [List.take_of_length_le (by omega)]
        rfl
end
end
end Kw
set_option maxHeartbeats 4000000
namespace Kw
open PySem PySem.Spec PyProof.Rows L2 RT
local macro_rules | `(tactic| walk_at "step") => `(tactic| with_reducible first
  | refine g_op ?_ | refine g_c ?_ | refine g_test ?_ | refine g_bl ?_ | refine g_seq ?_ | refine g_ifS ?_ | refine g_cons ?_ | refine g_nil ?_ | refine g_I0 ?_ | refine g_asg ?_ | refine g_name ?_
  | refine g_ret ?_ | refine g_nx ?_ | refine g_cb ?_ | refine g_call ?_ | refine g_un ?_ | refine g_rU ?_ | refine g_B ?_ | refine g_and ?_ | refine g_or ?_ | refine g_not ?_ | refine g_andV ?_ | refine g_orV ?_
  | refine g_notV ?_ | refine g_ifE ?_ | refine g_drop ?_ | refine g_par ?_ | refine g_two ?_ | refine g_abs ?_ | refine g_mx ?_ | refine g_int ?_ | refine g_tup ?_ | refine g_lst ?_ | refine g_chain ?_
  | refine g_sl ?_ | refine g_nopart ?_ | refine g_part ?_ | refine g_partI ?_ | refine g_bm ?_ | refine g_sub ?_ | refine g_ip ?_ | refine g_make ?_ | refine g_forR1 ?_ | refine g_forR2 ?_ | refine g_forR3 ?_ | refine g_forL ?_ | refine g_forT ?_ | refine g_forV ?_ | refine g_forVR ?_ | refine g_forE ?_ | refine g_lcL ?_ | refine g_lcT ?_ | refine g_lcR1 ?_ | refine g_lcR2 ?_ | refine g_fld ?_ | refine g_meth ?_ | refine ite_t ?_ | refine ite_nt ?_ | refine ite_nf ?_ | refine g_eqi ?_ | refine g_nei ?_ | refine ite_f ?_ | refine g_isN_n ?_ | refine g_isN_i ?_ | refine g_isN_r ?_ | refine g_notN_n ?_ | refine g_notN_i ?_ | refine g_notN_r ?_ | refine g_isi_ib ?_ | refine g_isi_ii ?_ | refine g_isi_it ?_ | refine g_isi_nt ?_)
local macro_rules | `(tactic| walk_at "var") => `(tactic| ((with_reducible refine' g_var ?hvar ?_); (case hvar => rfl)))
local macro_rules | `(tactic| walk_at "fact") => `(tactic| first
  | ((with_reducible refine' g_ixT ?hfact ?hat ?_); (case hfact => assumption); (case hat => rfl))
  | ((with_reducible refine' g_ixL ?hfact ?hat ?_); (case hfact => assumption); (case hat => rfl)))
local macro_rules | `(tactic| walk_at "fact1") => `(tactic| first
  | ((with_reducible refine' g_lenT ?hfact ?_); (case hfact => assumption))
  | ((with_reducible refine' g_lenL ?hfact ?_); (case hfact => assumption))
  | ((with_reducible refine' g_isi_tt ?hfact ?_); (case hfact => assumption)))
local macro_rules | `(tactic| walk_at "go") => `(tactic| repeat (first | walk_at "step" | walk_at "var" | walk_at "fact" | walk_at "fact1"))
local macro_rules | `(tactic| walk_at "if") => `(tactic| with_reducible first | refine ite_d ?_ ?_ | refine ite_n ?_ ?_ | refine ite_b ?_ ?_)
local macro_rules | `(tactic| walk_at "prime") => `(tactic| refine fig_prime (by assumption) (by assumption) ?_)
local macro_rules | `(tactic| walk_at "zero") => `(tactic| refine fig_zero (by assumption) (by assumption) ?_)
local macro_rules | `(tactic| walk_at "one") => `(tactic| refine fig_one (by assumption) (by assumption) ?_)
local macro_rules | `(tactic| walk_at "meth") => `(tactic| refine fig_meth (by assumption) (by decide +kernel) ?_)
abbrev s_BadRow___init__ : Stmt := inClass (topS 7) 0
theorem sc_BadRow___init__ : FnScope ["self", "what", "index"] ["self", "what", "index"] (C8.fnScope s_BadRow___init__) := C8.fnScope_by (by decide +kernel)

abbrev s_check_row : Stmt := topS 45
theorem sc_check_row : FnScope ["figures", "row", "low", "high", "what", "k", "number"] ["figures", "row", "low", "high", "what"] (C8.fnScope s_check_row) := C8.fnScope_by (by decide +kernel)
abbrev s_taps_apart : Stmt := topS 46
theorem sc_taps_apart : FnScope ["figures", "taps", "many", "high", "parts", "told", "root", "times", "first"] ["figures", "taps"] (C8.fnScope s_taps_apart) := C8.fnScope_by (by decide +kernel)
/-! ### an own base's __init__, which is ValueError's -/
structure BaseV (K : PySem.W.Frag) (mg : Str → Option Value) (x : Str) (Bc : Addr) : Prop where
  g : mg x = some (.ref Bc)
  ga : PySem.W.specialIn K (.ref Bc) "__getattribute__" = some (some (.builtin "type.__getattribute__"))
  rd : PySem.W.readsIn K Bc (.type "type") = true
  fi : PySem.W.findCls K (.ref Bc) (.type "type") "__init__" = some (.val (.builtin "ValueError.__init__"))
section
variable {X : Cx} {e : Expr} {es : List Expr} {ta : TA} {x : Str} {Bc : Addr} {p1 p2 pos : Pos}
theorem pe_ownveinit {pl : Sem Bool} (b : BaseV X.K X.mg x Bc) (hg : Gl X x) (ha : PA X (e :: es) ta) (hdb : (x == ("__debug__" : Str)) = false := by decide)
    (hc : eval (.Call (.Attribute (.Name x p1) "__init__" p2) (e :: es) [] pos) X.env = (do
      let ov ← eval (.Name x p1) X.env
      standAt p2.atName
      let (f, first) ← holding [ov] (getMethod ov "__init__" pl)
      callWith pos f first (backTo pos (starEach (e :: es) X.env)) (backToKw pos (keywordEach [] X.env))) := by rfl)
    (he : starEach (e :: es) X.env = (false, eval e X.env) :: starEach es X.env := by rfl) (hpl : (backTo pos (starEach es X.env)).any (·.1) = false := by rfl) :
    PE X (.Call (.Attribute (.Name x p1) "__init__" p2) (e :: es) [] pos) (tVeI X.K ta) := by
  refine ⟨fun pins s σ H Q I h => ?_⟩
  refine PySem.W.methodCall_KW (ld_glob I hg b.g ?_ hdb) hc
  refine PySem.W.method_cls I.kIn b.ga (PySem.W.cls_value I.kIn b.rd b.fi (by decide +kernel) ?_)
  show wpAny _ _ (callWith pos (Value.builtin "ValueError.__init__") [] (backTo pos (starEach (e :: es) X.env)) []) _ _ _
  refine PyProof.Rows.callWith_method1 (thn (ha.run pos pins _ σ H _ (I.tok _) h) fun us s1 ⟨vs, H1, I1, r1, a, C, ws, ev, hl, T, ea, q⟩ => ?_) he hpl
  subst ev
  cases r1 with
  | @cons _ u0 _ ur ra rw' =>
    obtain rfl : u0 = Value.ref a := ra
    have hlen : ur.length ≤ sizeLine := by
      rw [← Paired.length rw', sizeLine_eq]
      omega
    exact oinit_ok T I1 ea hlen fun s' J => ⟨.non, H1, J, rfl, q⟩
end
/-! ### raising, by a def of the module -/
theorem fnX {P : Program} {w : World} {K : PySem.W.Frag} {mg : Str → Option Value} {base : Heap} {x qual : Str} {st : Stmt} {f : Addr} {fd : FuncData} {N ps : List Str} {k : Nat} {sp : Sp} (F : C8.Fun K x qual st f fd) (S : FnScope N ps (C8.fnScope st)) (len : ∀ vs H Q E, sp vs H Q E → vs.length = ps.length)
    (hbody : ∀ (cdv : Value) (A : Around) (outer : List Env) (s : Shared) (H : Hp) (vs : List V) (Q : VK) (E : XK), Room k (A.deeper (envOfC qual (C8.fnScope st) s.heap.objs.size f cdv)) → sp vs H Q E →
      ∃ t, PSs (cxOf (L2.CX P w) P w K mg base N qual (C8.fnScope st) f cdv A outer s H E) (C8.fnBody st) t ∧ t { nx := fun _ H' => Q .non H', rt := Q } (start N vs) H) : FnOk P w K mg base (L2.CX P w) (k + 1) f fd ps sp := by
  obtain ⟨oc, od, dV, kV, doc, pm, an, cdv, ct, osl, rfl, lk, hcd⟩ := F.ex
  refine fn_of lk hcd S len fun A outer s H vs Q E hr hsp => ?_
  obtain ⟨t, h, q⟩ := hbody cdv A outer s H vs Q E hr hsp
  exact ⟨t, h, q⟩
structure CalX (P : Program) (w : World) (K : PySem.W.Frag) (mg : Str → Option Value) (base : Heap) (k : Nat) (x : Str) (sp : Sp) : Prop where
  ex : ∃ (f : Addr) (fd : FuncData) (ps : List Str), FnOk P w K mg base (L2.CX P w) k f fd ps sp ∧ mg x = some (.ref f) ∧ PySem.W.keepIn K (.ref f) = true ∧ Binds K fd ps []
theorem pe_cX {X : Cx} {k j : Nat} {x : Str} {sp : Sp} {p pos : Pos} {e : Expr} {es : List Expr} {t : TA} {E : L2.St → XK} (c : CalX X.prog X.w X.K X.mg X.base k x sp) (hr : Room j X.A) (hk : k ≤ j) (hg : Gl X x) (hx : ∀ σ, PassesAt (L2.CX X.prog X.w) X σ (E σ)) (ha : PA X (e :: es) t)
    (hdb : (x == ("__debug__" : Str)) = false := by decide) (he : starEach (e :: es) X.env = (false, eval e X.env) :: starEach es X.env := by rfl) (hpl : (backTo pos (starEach es X.env)).any (·.1) = false := by rfl) :
    PE X (.Call (.Name x p) (e :: es) [] pos) (tCallS sp E t) := by
  obtain ⟨f, fd, ps, F, hm, kp, b⟩ := c.ex
  exact pe_callS F (hr.mono hk) hg hm kp b hx ha hdb he hpl
theorem g_callS {sp : Sp} {E : L2.St → XK} {tA : TA} {σ : L2.St} {H : Hp} {Q : VK} (h : tA σ H fun vs H1 => sp vs H1 Q (E σ)) : tCallS sp E tA σ H Q := h
theorem pass_none {X : Cx} (σ : L2.St) : PassesAt (L2.CX X.prog X.w) X σ C8.E0 := fun pins H s e s' I h => passL pins σ H s e s' I h
/-! ### BadRow -/
structure BadT (K : PySem.W.Frag) (mg : Str → Option Value) (C Bc : Addr) : Prop where
  base : BaseV K mg "PairError" Bc
  o : OexC K C
  n1 : PySem.W.findIn K (.ref C) "what" = some none
  n2 : PySem.W.findIn K (.ref C) "index" = some none
def spBad (C : Addr) : Sp := fun vs H Q _ => ∃ (a : Addr) (i : Nat), vs = [.ref a, .str "taps", .int i] ∧ i < 13 ∧ H a = some (exo a C none) ∧
  ∀ dx, H dx = none → dx ≠ a → Q .non (upd (upd (upd H dx (exd dx [("what", .str "taps")])) a (exo a C (some dx))) dx (exd dx [("index", .int i), ("what", .str "taps")]))
section
variable {P : Program} {w : World} {K : PySem.W.Frag} {mg : Str → Option Value} {base : Heap} {f : Addr} {fd : FuncData}
theorem g_ve {ta : TA} {σ : L2.St} {H : Hp} {Q : VK} (h : ta σ H fun vs H1 => ∃ (a C : Addr) (ws : List V), vs = .ref a :: ws ∧ ws.length ≤ 1000 ∧ OexC K C ∧ H1 a = some (exo a C none) ∧ Q .non H1) : tVeI K ta σ H Q := h
theorem g_ost {f : Str} {to te : TE} {D : Ends} {σ : L2.St} {H : Hp} (h : te σ H fun y H1 => to σ H1 fun x H2 => ∃ a C : Addr, x = .ref a ∧ OexC K C ∧ PySem.W.findIn K (.ref C) f = some none ∧
  ((H2 a = some (exo a C none) ∧ ∀ dx, H2 dx = none → dx ≠ a → D.nx σ (upd (upd H2 dx (exd dx [(f, y)])) a (exo a C (some dx)))) ∨
    ∃ (dx : Addr) (fs : List (Str × V)), H2 a = some (exo a C (some dx)) ∧ H2 dx = some (exd dx fs) ∧ fs.length ≤ 900 ∧ D.nx σ (upd H2 dx (exd dx ((f, y) :: fs))))) : tOst K f to te D σ H := h
theorem g_js {t : TE} {ts : List TE} {acc : Str} {σ : L2.St} {H : Hp} {Q : Str → Hp → Prop} (h : t σ H fun x H1 => ∃ y : Str, x = .str y ∧ (acc ++ y).length ≤ sizeLine ∧ tJs ts (acc ++ y) σ H1 Q) : tJs (t :: ts) acc σ H Q := h
theorem g_js0 {acc : Str} {σ : L2.St} {H : Hp} {Q : Str → Hp → Prop} (q : Q acc H) : tJs [] acc σ H Q := q
theorem g_fmt {te : TE} {σ : L2.St} {H : Hp} {Q : VK} (h : te σ H fun x H1 => (∃ y : Str, x = .str y ∧ y.length ≤ sizeLine ∧ Q (.str y) H1) ∨ ∃ i : Int, x = .int i ∧ i.natAbs.log2 < 1920 ∧ Q (.str (toString i)) H1) : tFmt te σ H Q := h
theorem fmt_len : ∀ i : Nat, i < 13 → ((((Str.empty ++ ("bad row of numbers " : Str)) ++ ("taps" : Str)) ++ (" at " : Str)) ++ (Str.ofString (toString (i : Int)))).length ≤ 1000 := by decide +kernel
theorem ok_BadRow {C Bc : Addr} (T : BadT K mg C Bc) (F : C8.Fun K "__init__" "BadRow.__init__" s_BadRow___init__ f fd) : FnOk P w K mg base C8.CX0 1 f fd ["self", "what", "index"] (spBad C) := by
  refine C8.fn0 F sc_BadRow___init__ (fun vs H Q E h => ?_) (fun cdv A outer s H vs Q E hr h => ?_)
  · obtain ⟨a, i, rfl, _⟩ := h
    rfl
  · obtain ⟨a, i, rfl, hi, ha, q⟩ := h
    refine ⟨_, (pss_cons (ps_expr ((pe_ownveinit T.base (by rfl)) (pa_cons (pv 0) (pa_cons (pe_joined (.cons pe_str (.cons (pe_fmt (pv 1)) (.cons pe_str (.cons (pe_fmt (pv 2)) .nil))))) pa_nil))))
    (pss_cons (ps_ost (pv 0) (pv 1))
    (pss_one (ps_ost (pv 0) (pv 2))))), ?_⟩
    refine go_start (show _ = [some _, some _, some _] from rfl) ?_
    walk_at "go"
    refine g_ve ?_
    walk_at "go"
    refine g_js ?_
    walk_at "go"
    refine ⟨_, rfl, small5 (by decide +kernel), ?_⟩
    refine g_js (g_fmt ?_)
    walk_at "go"
    refine .inl ⟨_, rfl, small5 (by decide +kernel), ?_⟩
    refine ⟨_, rfl, small5 (by decide +kernel), ?_⟩
    refine g_js ?_
    walk_at "go"
    refine ⟨_, rfl, small5 (by decide +kernel), ?_⟩
    refine g_js (g_fmt ?_)
    walk_at "go"
    refine .inr ⟨_, rfl, by rw [Int.natAbs_natCast]; exact Nat.lt_of_le_of_lt (Nat.log2_le_self _) (by omega), ?_⟩
    refine ⟨_, rfl, Nat.le_trans (fmt_len i hi) (by decide), ?_⟩
    refine g_js0 ?_
    walk_at "go"
    refine ⟨a, C, _, rfl, by show 1 ≤ 1000; decide, T.o, ha, ?_⟩
    walk_at "go"
    with_reducible refine g_ost ?_
    walk_at "go"
    refine ⟨a, C, rfl, T.o, T.n1, .inl ⟨ha, fun dx hd hne => ?_⟩⟩
    walk_at "go"
    with_reducible refine g_ost ?_
    walk_at "go"
    refine ⟨a, C, rfl, T.o, T.n2, .inr ⟨dx, _, upd_same, by rw [upd_ne hne, upd_same], by show 1 ≤ 900; decide, ?_⟩⟩
    exact q dx hd hne
/-- BadRow may be made and raised -/
structure BadK (P : Program) (w : World) (K : PySem.W.Frag) (mg : Str → Option Value) (base : Heap) (C : Addr) : Prop where
  ex : ∃ (fI : Addr) (fd : FuncData) (ps : List Str), OexC K C ∧ PySem.W.findIn K (.ref C) "__init__" = some (some (.ref fI)) ∧ PySem.W.typeIn K (.ref fI) = some (.type "function") ∧ FnOk P w K mg base C8.CX0 1 fI fd ps (spBad C) ∧ Binds K fd ps [] ∧ mg "BadRow" = some (.ref C)
theorem pmk_bad {X : Cx} {C : Addr} {j : Nat} {p pos : Pos} {e : Expr} {es : List Expr} {ta : TA} (T : BadK X.prog X.w X.K X.mg X.base C) (hr : Room j X.A) (hk : 2 ≤ j) (hg : Gl X "BadRow") (ha : PA X (e :: es) ta)
    (he : starEach (e :: es) X.env = (false, eval e X.env) :: starEach es X.env := by rfl) (hpl : (backTo pos (starEach es X.env)).any (·.1) = false := by rfl) : PMk X (.Call (.Name "BadRow" p) (e :: es) [] pos) (tMkO C (spBad C) [] ta) := by
  obtain ⟨fI, fd, ps, o, iC, tI, F1, b, hm⟩ := T.ex
  exact pmk_oex o iC tI F1 (hr.mono hk) b .nil C8.pass0 hg hm ha (by decide) he hpl
/-- what raising leaves: the exception's own dict -/
def BadX (C : Addr) (H : Hp) (k : Nat) (E : XK) : Prop := ∀ d H', Same H H' → H' d = some (.xd [("index", .int k), ("what", .str "taps")]) → E (.ref C) (some d) H'
theorem mk_bad {C : Addr} {H : Hp} {k : Nat} {E : XK} (hk : k < 13) (h : BadX C H k E) {σ : L2.St} {ta : TA} (e : ta σ H = fun Q => Q [.str "taps", .int k] H) : tMkO C (spBad C) [] ta σ H E := by
  unfold tMkO
  rw [e]
  refine ⟨by show 2 ≤ 1000; decide, fun a ha => ⟨a, k, rfl, hk, upd_same, fun dx hd hne => ⟨rfl, ?_⟩⟩⟩
  have hd' : H dx = none := by rw [upd_ne hne] at hd; exact hd
  refine ⟨dx, _, ?_, upd_same, hd', h dx _ (fun b x hb => ?_) upd_same⟩
  · rw [upd_ne hne.symm, upd_same]
  · have hba : b ≠ a := ne_of_none hb ha
    have hbd : b ≠ dx := ne_of_none hb hd'
    rw [upd_ne hbd, del_ne hba, upd_ne hbd, upd_ne hba, upd_ne hbd, upd_ne hba]
    exact hb
end
end Kw
set_option maxHeartbeats 4000000
namespace Kw
open PySem PySem.Spec PyProof.Rows L2 RT
local macro_rules | `(tactic| walk_at "step") => `(tactic| with_reducible first
  | refine g_op ?_ | refine g_c ?_ | refine g_test ?_ | refine g_bl ?_ | refine g_seq ?_ | refine g_ifS ?_ | refine g_cons ?_ | refine g_nil ?_ | refine g_I0 ?_ | refine g_asg ?_ | refine g_name ?_
  | refine g_ret ?_ | refine g_nx ?_ | refine g_cb ?_ | refine g_call ?_ | refine g_un ?_ | refine g_rU ?_ | refine g_B ?_ | refine g_and ?_ | refine g_or ?_ | refine g_not ?_ | refine g_andV ?_ | refine g_orV ?_
  | refine g_notV ?_ | refine g_ifE ?_ | refine g_drop ?_ | refine g_par ?_ | refine g_two ?_ | refine g_abs ?_ | refine g_mx ?_ | refine g_int ?_ | refine g_tup ?_ | refine g_lst ?_ | refine g_chain ?_
  | refine g_sl ?_ | refine g_nopart ?_ | refine g_part ?_ | refine g_partI ?_ | refine g_bm ?_ | refine g_sub ?_ | refine g_ip ?_ | refine g_make ?_ | refine g_forR1 ?_ | refine g_forR2 ?_ | refine g_forR3 ?_ | refine g_forL ?_ | refine g_forT ?_ | refine g_forV ?_ | refine g_forVR ?_ | refine g_forE ?_ | refine g_lcL ?_ | refine g_lcT ?_ | refine g_lcR1 ?_ | refine g_lcR2 ?_ | refine g_fld ?_ | refine g_meth ?_ | refine ite_t ?_ | refine ite_nt ?_ | refine ite_nf ?_ | refine g_eqi ?_ | refine g_nei ?_ | refine ite_f ?_ | refine g_isN_n ?_ | refine g_isN_i ?_ | refine g_isN_r ?_ | refine g_notN_n ?_ | refine g_notN_i ?_ | refine g_notN_r ?_ | refine g_isi_ib ?_ | refine g_isi_ii ?_ | refine g_isi_it ?_ | refine g_isi_nt ?_)
local macro_rules | `(tactic| walk_at "var") => `(tactic| ((with_reducible refine' g_var ?hvar ?_); (case hvar => rfl)))
local macro_rules | `(tactic| walk_at "fact") => `(tactic| first
  | ((with_reducible refine' g_ixT ?hfact ?hat ?_); (case hfact => assumption); (case hat => rfl))
  | ((with_reducible refine' g_ixL ?hfact ?hat ?_); (case hfact => assumption); (case hat => rfl)))
local macro_rules | `(tactic| walk_at "fact1") => `(tactic| first
  | ((with_reducible refine' g_lenT ?hfact ?_); (case hfact => assumption))
  | ((with_reducible refine' g_lenL ?hfact ?_); (case hfact => assumption))
  | ((with_reducible refine' g_isi_tt ?hfact ?_); (case hfact => assumption)))
local macro_rules | `(tactic| walk_at "go") => `(tactic| repeat (first | walk_at "step" | walk_at "var" | walk_at "fact" | walk_at "fact1"))
local macro_rules | `(tactic| walk_at "if") => `(tactic| with_reducible first | refine ite_d ?_ ?_ | refine ite_n ?_ ?_ | refine ite_b ?_ ?_)
local macro_rules | `(tactic| walk_at "prime") => `(tactic| refine fig_prime (by assumption) (by assumption) ?_)
local macro_rules | `(tactic| walk_at "zero") => `(tactic| refine fig_zero (by assumption) (by assumption) ?_)
local macro_rules | `(tactic| walk_at "one") => `(tactic| refine fig_one (by assumption) (by assumption) ?_)
local macro_rules | `(tactic| walk_at "meth") => `(tactic| refine fig_meth (by assumption) (by decide +kernel) ?_)
section
variable {P : Program} {w : World} {K : PySem.W.Frag} {mg : Str → Option Value} {base : Heap} {f : Addr} {fd : FuncData}
/-! ### rows -/
def Seqv (H : Hp) (a : Addr) (us : List V) : Prop := H a = some (.lst us) ∨ H a = some (.tup us)
theorem Seqv.up {H H' : Hp} {a : Addr} {us : List V} (h : Seqv H a us) (e : Same H H') : Seqv H' a us := h.elim (fun h => .inl (e _ _ h)) fun h => .inr (e _ _ h)
theorem g_lenV {p : Addr} {xs : List V} {H : Hp} {Q : VK} (h : Seqv H p xs) (q : Q (.int xs.length) H) : rLen K [.ref p] H Q := h.elim (fun h => g_lenL h q) fun h => g_lenT h q
theorem g_isiT_v {tp a : Addr} {xs : List V} {H : Hp} {Q : VK} (hT : H tp = some (.tup [.ty "list", .ty "tuple"])) (h : Seqv H a xs) (q : Q (.bl true) H) : rIsiT K [.ref a, .ref tp] H Q := h.elim (fun h => g_isiT_l hT h q) fun h => g_isiT_t hT h q
theorem lp_enumV {g : TG} {tb : TS} {D : Ends} {σ : L2.St} {H : Hp} {a : Addr} {xs : List V} (ha : Seqv H a xs) (Pv : Nat → L2.St → Hp → Prop) (h0 : Pv 0 σ H) (hl : ∀ i σ' H', Pv i σ' H' → Same H H')
    (hs : ∀ i x T σ H, xs[i]? = some x → Pv i σ H → H T = none → g (.ref T) σ (upd H T (.tup [.int (i : Nat), x])) fun σ2 H2 => tb { D with nx := Pv (i + 1), ct := Pv (i + 1), bk := D.nx } σ2 H2) (hd : ∀ σ H, Pv xs.length σ H → D.nx σ H) :
    ∃ a' xs', [V.ref a] = [.ref a'] ∧ ((SqL K H a' xs' ∧ Lp (Ite K a') g tb D σ H) ∨ (SqT K H a' xs' ∧ Lp (IteT K a') g tb D σ H)) := by
  rcases ha with h | h
  · exact ⟨a, xs, rfl, .inl ⟨SqL.of h, lp_enumL Pv h0 (fun i σ' H' _ p => SqL.of (hl i σ' H' p _ _ h)) hs hd⟩⟩
  · exact ⟨a, xs, rfl, .inr ⟨SqT.of h, lp_enumT Pv h0 (fun i σ' H' _ p => SqT.of (hl i σ' H' p _ _ h)) hs hd⟩⟩
def spSeq : Sp := fun vs H Q _ => ∃ v, vs = [v] ∧ ((v = .non ∧ ∀ H', Same H H' → Q (.bl false) H') ∨ ∃ a us, v = .ref a ∧ Seqv H a us ∧ ∀ H', Same H H' → Q (.bl true) H')
theorem ok_is_sequence (B : Bn mg) (F : C8.Fun K "is_sequence" "is_sequence" s_is_sequence f fd) : FnOk P w K mg base C8.CX0 1 f fd ["thing"] spSeq := by
  refine C8.fn0 F sc_is_sequence (fun vs H Q E h => ?_) (fun cdv A outer s H vs Q E hr h => ?_)
  · obtain ⟨i, rfl, _⟩ := h
    rfl
  · obtain ⟨v, rfl, h⟩ := h
    refine ⟨_, (pss_one (ps_ret (pe_callB call_isiT (by rfl) B.isinstance_ (by decide +kernel) (pa_cons (pv 0) (pa_cons (pe_tup (pa_cons (pe_bltn (v := .ty "list") (by rfl) B.list_ (by decide +kernel) rfl) (pa_cons (pe_bltn (v := .ty "tuple") (by rfl) B.tuple_ (by decide +kernel) rfl) pa_nil))) pa_nil))))), ?_⟩
    refine go_start (show _ = [some _] from rfl) ?_
    walk_at "go"
    refine ⟨small5 (by decide), fun p hp => ?_⟩
    have e1 := same_new (o := HO.tup [V.ty "list", V.ty "tuple"]) hp
    walk_at "go"
    rcases h with ⟨rfl, q⟩ | ⟨a, us, rfl, ha, q⟩
    · exact g_isiT_n upd_same (q _ e1)
    · exact g_isiT_v upd_same (ha.up e1) (q _ e1)
theorem BadX.up {C : Addr} {H H' : Hp} {k : Nat} {E : XK} (h : BadX C H k E) (e : Same H H') : BadX C H' k E := fun d H2 e2 hd => h d H2 (e.trans e2) hd
theorem g_mkO {C : Addr} {sp : Sp} {dvs : List V} {ta : TA} {σ : L2.St} {H : Hp} {Q : XK} (h : ta σ H fun vs H1 => vs.length ≤ 1000 ∧ ∀ a, H1 a = none → sp (.ref a :: (vs ++ dvs)) (upd H1 a (exo a C none))
  (fun v H2 => v = .non ∧ ∃ (d : Addr) (fs : List (Str × V)), H2 a = some (exo a C (some d)) ∧ H2 d = some (exd d fs) ∧ H1 d = none ∧ Q (.ref C) (some d) (upd (del H2 a) d (.xd fs))) (fun _ _ _ => False)) : tMkO C sp dvs ta σ H Q := h
theorem mk_bad' {C : Addr} {H : Hp} {k : Nat} {E : XK} (hk : k < 13) (h : BadX C H k E) : ([V.str "taps", .int (k : Nat)] : List V).length ≤ 1000 ∧ ∀ a, H a = none → spBad C (.ref a :: ([V.str "taps", .int (k : Nat)] ++ [])) (upd H a (exo a C none))
  (fun v H2 => v = .non ∧ ∃ (d : Addr) (fs : List (Str × V)), H2 a = some (exo a C (some d)) ∧ H2 d = some (exd d fs) ∧ H d = none ∧ E (.ref C) (some d) (upd (del H2 a) d (.xd fs))) (fun _ _ _ => False) :=
  mk_bad (σ := []) (ta := fun _ H Q => Q [.str "taps", .int (k : Nat)] H) hk h rfl
variable {R : Type} [NumC R] {C CB : Addr}
/-! ### check_row -/
def spRow (R : Type) [NumC R] (C CB : Addr) : Sp := fun vs H Q E => ∃ (fa : Addr) (v : V) (lo hi : Int), vs = [.ref fa, v, .int lo, .int hi, .str "taps"] ∧ FigAt R C H fa ∧
  ((∃ a us xs, v = .ref a ∧ Seqv H a us ∧ Reps (R := R) H us xs ∧ lo ≤ us.length ∧ us.length ≤ hi ∧ ∀ v' H', Same H H' → TRep H' v' xs → Q v' H')
  ∨ ((v = .non ∨ ∃ a us, v = .ref a ∧ Seqv H a us ∧ (us.length < lo ∨ hi < us.length)) ∧ BadX CB H 0 E)
  ∨ ∃ a us k, v = .ref a ∧ Seqv H a us ∧ lo ≤ us.length ∧ us.length ≤ hi ∧ k < 13 ∧ us[k]? = some (.int (badN R)) ∧ (∀ i u, i < k → us[i]? = some u → ∃ x : R, Rep H u x) ∧ BadX CB H k E)
theorem ok_check_row (M : FgM R P w K mg base C) (B : Bn mg) (T : BadK P w K mg base CB) (c_is_sequence : C8.Cal P w K mg base 1 "is_sequence" spSeq []) (F : C8.Fun K "check_row" "check_row" s_check_row f fd) :
    FnOk P w K mg base (L2.CX P w) 4 f fd ["figures", "row", "low", "high", "what"] (spRow R C CB) := by
  refine fnX F sc_check_row (fun vs H Q E h => ?_) (fun cdv A outer s H vs Q E hr h => ?_)
  · obtain ⟨i, x, y, z, rfl, _⟩ := h
    rfl
  · obtain ⟨fa, v, lo, hi, rfl, hF, h⟩ := h
    refine ⟨_, (pss_cons (ps_if (PW.pt (pw_or (pt_not (pt_val (C8.pe_c c_is_sequence hr (by decide) (by rfl) (pa_cons (pv 1) pa_nil)))) (pw_or1 (pt_not (pt_chain op_le op_le (pv 2) (pe_callB call_len_ (by rfl) B.len_ (by decide +kernel) (pa_cons (pv 1) pa_nil)) (pv 3))))))
    ((pss_one (ps_raise rfl (takes_of rfl rfl rfl rfl) (pmk_bad T hr (by decide) (by rfl) (pa_cons (pv 4) (pa_cons pe_int pa_nil)))))) pss_nil)
    (pss_cons (ps_for (passes_of rfl) rfl (pi_enumT (by rfl) B.enumerate_ (pa_cons (pv 1) pa_nil)) (pg_tup (n := 2) rfl (pgs_cons (pg_name (i := 5) sc_check_row.nd rfl (by first | exact .inl rfl | exact .inr rfl)) (pgs_cons (pg_name (i := 6) sc_check_row.nd rfl (by first | exact .inl rfl | exact .inr rfl)) pgs_nil)))
    ((pss_one (ps_if (pt_not (pt_val (C8.pe_mt M.c_is_number hr (by decide) (pv 0) (pa_cons (pv 6) pa_nil))))
    ((pss_one (ps_raise rfl (takes_of rfl rfl rfl rfl) (pmk_bad T hr (by decide) (by rfl) (pa_cons (pv 4) (pa_cons (pv 5) pa_nil)))))) pss_nil))))
    (pss_one (ps_ret (pe_callTy call_tuple_of_ (by rfl) B.tuple_ (by decide +kernel) (pa_cons (pv 1) pa_nil)))))), ?_⟩
    refine go_start (show _ = [some _, some _, some _, some _, some _, none, none] from rfl) ?_
    walk_at "go"
    rcases h with ⟨a, us, xs, rfl, ha, hv, h1, h2, q⟩ | ⟨hbad, q⟩ | ⟨a, us, k, rfl, ha, h1, h2, hk13, hk, hgood, q⟩
    · refine ⟨_, rfl, .inr ⟨a, us, rfl, ha, fun H1 e1 => ?_⟩⟩
      walk_at "go"
      refine g_lenV (ha.up e1) ?_
      walk_at "go"
      rw [decide_eq_true h1]
      walk_at "go"
      rw [decide_eq_true h2]
      walk_at "go"
      refine lp_enumV (ha.up e1) (fun _ σ' H' => ∃ x y, σ' = [some (.ref fa), some (.ref a), some (.int lo), some (.int hi), some (.str "taps"), x, y] ∧ Same H1 H') ⟨_, _, rfl, Same.refl _⟩ (fun i σ' H' h => ?_) (fun i x T' σ' H' hx h hT => ?_) (fun σ' H' h => ?_)
      · obtain ⟨_, _, _, e⟩ := h
        exact e
      · obtain ⟨_, _, rfl, e⟩ := h
        have e2 := Same.up (o := HO.tup [V.int (i : Nat), x]) e hT
        refine g_tup2 upd_same ?_
        walk_at "go"
        refine fig_meth (hF.up (e1.trans e2)) (by decide +kernel) ?_
        walk_at "go"
        obtain ⟨y, _, hy⟩ := hv.get' hx
        refine ⟨fa, x, rfl, hF.up (e1.trans e2), .inl ⟨y, hy.up (e1.trans e2), ?_⟩⟩
        walk_at "go"
        exact ⟨_, _, rfl, e2⟩
      · obtain ⟨_, _, rfl, e⟩ := h
        have e1' := e1.trans e
        walk_at "go"
        rcases ha.up e1' with h | h
        · refine g_tupOfL h fun p hp => ?_
          have e3 := same_new (o := HO.tup us) hp
          exact q _ _ (e1'.trans e3) ⟨p, us, rfl, upd_same, hv.up (e1'.trans e3)⟩
        · refine g_tupOfT h ?_
          exact q _ _ e1' ⟨a, us, rfl, h, hv.up e1'⟩
    · rcases hbad with rfl | ⟨a, us, rfl, ha, hlen⟩
      · refine ⟨_, rfl, .inl ⟨rfl, fun H1 e1 => ?_⟩⟩
        walk_at "go"
        refine g_mkO ?_
        walk_at "go"
        exact mk_bad' (k := 0) (by decide) (q.up e1)
      · refine ⟨_, rfl, .inr ⟨a, us, rfl, ha, fun H1 e1 => ?_⟩⟩
        walk_at "go"
        refine g_lenV (ha.up e1) ?_
        walk_at "go"
        by_cases h1 : lo ≤ us.length
        · rw [decide_eq_true h1]
          walk_at "go"
          rw [decide_eq_false (by omega)]
          walk_at "go"
          refine g_mkO ?_
          walk_at "go"
          exact mk_bad' (k := 0) (by decide) (q.up e1)
        · rw [decide_eq_false h1]
          walk_at "go"
          refine g_mkO ?_
          walk_at "go"
          exact mk_bad' (k := 0) (by decide) (q.up e1)
    · refine ⟨_, rfl, .inr ⟨a, us, rfl, ha, fun H1 e1 => ?_⟩⟩
      walk_at "go"
      refine g_lenV (ha.up e1) ?_
      walk_at "go"
      rw [decide_eq_true h1]
      walk_at "go"
      rw [decide_eq_true h2]
      walk_at "go"
      refine lp_enumV (ha.up e1) (fun i σ' H' => ∃ x y, σ' = [some (.ref fa), some (.ref a), some (.int lo), some (.int hi), some (.str "taps"), x, y] ∧ Same H1 H' ∧ i ≤ k) ⟨_, _, rfl, Same.refl _, Nat.zero_le _⟩ (fun i σ' H' h => ?_) (fun i x T' σ' H' hx h hT => ?_) (fun σ' H' h => ?_)
      · obtain ⟨_, _, _, e, _⟩ := h
        exact e
      · obtain ⟨_, _, rfl, e, hik⟩ := h
        have e2 := Same.up (o := HO.tup [V.int (i : Nat), x]) e hT
        refine g_tup2 upd_same ?_
        walk_at "go"
        refine fig_meth (hF.up (e1.trans e2)) (by decide +kernel) ?_
        walk_at "go"
        by_cases hlt : i < k
        · obtain ⟨y, hy⟩ := hgood i x hlt hx
          refine ⟨fa, x, rfl, hF.up (e1.trans e2), .inl ⟨y, hy.up (e1.trans e2), ?_⟩⟩
          walk_at "go"
          exact ⟨_, _, rfl, e2, hlt⟩
        · have hik' : i = k := by omega
          subst hik'
          rw [hk] at hx
          have hx' := (Option.some.inj hx).symm
          refine ⟨fa, x, rfl, hF.up (e1.trans e2), .inr ⟨hx', ?_⟩⟩
          walk_at "go"
          refine g_mkO ?_
          walk_at "go"
          exact mk_bad' hk13 (q.up (e1.trans e2))
      · obtain ⟨_, _, rfl, e, hik⟩ := h
        exfalso
        have := (List.getElem?_eq_some_iff.mp hk).1
        omega
end
end Kw
set_option maxHeartbeats 4000000
namespace Kw
open PySem PySem.Spec PyProof.Rows L2 RT
local macro_rules | `(tactic| walk_at "step") => `(tactic| with_reducible first
  | refine g_op ?_ | refine g_c ?_ | refine g_test ?_ | refine g_bl ?_ | refine g_seq ?_ | refine g_ifS ?_ | refine g_cons ?_ | refine g_nil ?_ | refine g_I0 ?_ | refine g_asg ?_ | refine g_name ?_
  | refine g_ret ?_ | refine g_nx ?_ | refine g_cb ?_ | refine g_call ?_ | refine g_un ?_ | refine g_rU ?_ | refine g_B ?_ | refine g_and ?_ | refine g_or ?_ | refine g_not ?_ | refine g_andV ?_ | refine g_orV ?_
  | refine g_notV ?_ | refine g_ifE ?_ | refine g_drop ?_ | refine g_par ?_ | refine g_two ?_ | refine g_abs ?_ | refine g_mx ?_ | refine g_int ?_ | refine g_tup ?_ | refine g_lst ?_ | refine g_chain ?_
  | refine g_sl ?_ | refine g_nopart ?_ | refine g_part ?_ | refine g_partI ?_ | refine g_bm ?_ | refine g_sub ?_ | refine g_ip ?_ | refine g_make ?_ | refine g_forR1 ?_ | refine g_forR2 ?_ | refine g_forR3 ?_ | refine g_forL ?_ | refine g_forT ?_ | refine g_forV ?_ | refine g_forVR ?_ | refine g_forE ?_ | refine g_lcL ?_ | refine g_lcT ?_ | refine g_lcR1 ?_ | refine g_lcR2 ?_ | refine g_fld ?_ | refine g_meth ?_ | refine ite_t ?_ | refine ite_nt ?_ | refine ite_nf ?_ | refine g_eqi ?_ | refine g_nei ?_ | refine ite_f ?_ | refine g_isN_n ?_ | refine g_isN_i ?_ | refine g_isN_r ?_ | refine g_notN_n ?_ | refine g_notN_i ?_ | refine g_notN_r ?_ | refine g_isi_ib ?_ | refine g_isi_ii ?_ | refine g_isi_it ?_ | refine g_isi_nt ?_)
local macro_rules | `(tactic| walk_at "var") => `(tactic| ((with_reducible refine' g_var ?hvar ?_); (case hvar => rfl)))
local macro_rules | `(tactic| walk_at "fact") => `(tactic| first
  | ((with_reducible refine' g_ixT ?hfact ?hat ?_); (case hfact => assumption); (case hat => rfl))
  | ((with_reducible refine' g_ixL ?hfact ?hat ?_); (case hfact => assumption); (case hat => rfl)))
local macro_rules | `(tactic| walk_at "fact1") => `(tactic| first
  | ((with_reducible refine' g_lenT ?hfact ?_); (case hfact => assumption))
  | ((with_reducible refine' g_lenL ?hfact ?_); (case hfact => assumption))
  | ((with_reducible refine' g_isi_tt ?hfact ?_); (case hfact => assumption)))
local macro_rules | `(tactic| walk_at "go") => `(tactic| repeat (first | walk_at "step" | walk_at "var" | walk_at "fact" | walk_at "fact1"))
local macro_rules | `(tactic| walk_at "if") => `(tactic| with_reducible first | refine ite_d ?_ ?_ | refine ite_n ?_ ?_ | refine ite_b ?_ ?_)
local macro_rules | `(tactic| walk_at "prime") => `(tactic| refine fig_prime (by assumption) (by assumption) ?_)
local macro_rules | `(tactic| walk_at "zero") => `(tactic| refine fig_zero (by assumption) (by assumption) ?_)
local macro_rules | `(tactic| walk_at "one") => `(tactic| refine fig_one (by assumption) (by assumption) ?_)
local macro_rules | `(tactic| walk_at "meth") => `(tactic| refine fig_meth (by assumption) (by decide +kernel) ?_)
section
variable {P : Program} {w : World} {K : PySem.W.Frag} {mg : Str → Option Value} {base : Heap} {f : Addr} {fd : FuncData}
variable {R : Type} [NumC R] {C C2 CB : Addr}
/-! ### couples -/
def CpRep (H : Hp) (v : V) (c : R × R) : Prop := ∃ p u1 u2, v = .ref p ∧ H p = some (.tup [u1, u2]) ∧ Rep H u1 c.1 ∧ Rep H u2 c.2
theorem CpRep.im {H H' : Hp} {v : V} {c : R × R} (h : CpRep H v c) (e : Im H H') : CpRep H' v c := let ⟨p, u1, u2, h1, h2, h3, h4⟩ := h; ⟨p, u1, u2, h1, im_tup e h2, h3.im e, h4.im e⟩
def CpReps (H : Hp) (vs : List V) (cs : List (R × R)) : Prop := Paired (CpRep H) vs cs
theorem CpReps.im {H H' : Hp} {vs : List V} {cs : List (R × R)} (h : CpReps H vs cs) (e : Im H H') : CpReps H' vs cs := Paired.mapP h fun _ _ r => r.im e
theorem CpReps.up {H H' : Hp} {vs : List V} {cs : List (R × R)} (h : CpReps H vs cs) (e : Same H H') : CpReps H' vs cs := h.im (Same.im e)
theorem paired_app {α β : Type} {F : α → β → Prop} : ∀ {as : List α} {bs : List β} {cs : List α} {ds : List β}, Paired F as bs → Paired F cs ds → Paired F (as ++ cs) (bs ++ ds)
  | _, _, _, _, .nil, h => h
  | _, _, _, _, .cons r t, h => .cons r (paired_app t h)
theorem paired_rep {α β : Type} {F : α → β → Prop} {a : α} {b : β} (h : F a b) : ∀ n, Paired F (List.replicate n a) (List.replicate n b)
  | 0 => .nil
  | n + 1 => .cons h (paired_rep h n)
/-! ### what the parts make -/
theorem paired_get {α β : Type} {F : α → β → Prop} : ∀ {as : List α} {bs : List β} {i : Nat} {a : α}, Paired F as bs → as[i]? = some a → ∃ b, bs[i]? = some b ∧ F a b
  | _, _, i, _, .nil, h => by simp at h
  | _, _, 0, _, .cons r _, h => ⟨_, rfl, Option.some.inj h ▸ r⟩
  | _, _, i + 1, _, .cons _ t, h => paired_get (i := i) t h
theorem paired_len {α β : Type} {F : α → β → Prop} {as : List α} {bs : List β} (h : Paired F as bs) : as.length = bs.length := Paired.length h
theorem partF_fst : ∀ (rs g : List R) (y : R × Nat), y ∈ (partF g rs).2 → y.1 ∈ rs
  | [], _, _, h => by cases h
  | r :: rs, g, y, h => by
    rcases List.mem_cons.mp h with e | h
    · rw [e]
      exact List.mem_cons_self ..
    · exact List.mem_cons_of_mem _ (partF_fst rs _ y h)
def flatC (told : List (R × Nat)) : List (R × R) := told.flatMap fun x => List.replicate x.2 (-x.1, 1)
def headMul (c : R) : List (R × R) → List (R × R)
  | [] => []
  | (x, y) :: t => (c * x, c * y) :: t
def couF (n : Nat) (c : R) (told : List (R × Nat)) : List (R × R) := headMul c (flatC told ++ List.replicate (n - 1 - (flatC told).length) (1, 0))
def apF (xs : List R) (m : Nat) (c : R) (rs : List R) : Option (List (R × R)) :=
  if m = 0 then some ((0, 0) :: List.replicate (xs.length - 2) (1, 0))
  else if 1 < (partF (xs.take m) rs).1.length then none else some (couF xs.length c (partF (xs.take m) rs).2)
def ApRep (H : Hp) (v : V) : Option (List (R × R)) → Prop
  | none => v = .non
  | some cs => ∃ a ws, v = .ref a ∧ H a = some (.tup ws) ∧ CpReps H ws cs
theorem partF_len : ∀ (rs g : List R) (n : Nat), Led g → g.length ≤ 12 → Bds n g → (∀ r ∈ rs, NumC.Bd 1 r) → (partF g rs).1.length + ((partF g rs).2.map (·.2)).sum = g.length ∧ Led (partF g rs).1
  | [], g, n, hl, _, _, _ => ⟨rfl, hl⟩
  | r :: rs, g, n, hl, h12, hb, hr => by
    obtain ⟨d1, d2, d3⟩ := divOut_props (hr r (List.mem_cons_self ..)) _ g n rfl hl h12 hb
    obtain ⟨i1, i2⟩ := partF_len rs (divOut r g.length g).1 _ d1 (by omega) d3 fun x hx => hr x (List.mem_cons_of_mem _ hx)
    refine ⟨?_, i2⟩
    show (partF (divOut r g.length g).1 rs).1.length + ((divOut r g.length g).2 + ((partF (divOut r g.length g).1 rs).2.map (·.2)).sum) = g.length
    omega
theorem flatC_len : ∀ told : List (R × Nat), (flatC told).length = (told.map (·.2)).sum
  | [] => rfl
  | x :: t => by
    have h := flatC_len t
    show (List.replicate x.2 (-x.1, 1) ++ flatC t).length = x.2 + (t.map (·.2)).sum
    rw [List.length_append, List.length_replicate, h]
theorem flatC_snoc (told : List (R × Nat)) (x : R × Nat) : flatC (told ++ [x]) = flatC told ++ List.replicate x.2 (-x.1, 1) := by
  unfold flatC
  rw [List.flatMap_append]
  simp
theorem sum_take (l : List Nat) (i : Nat) : (l.take i).sum ≤ l.sum := by
  have h := List.take_append_drop i l
  have : l.sum = (l.take i).sum + (l.drop i).sum := by
    conv => lhs; rw [← h]
    rw [List.sum_append]
  omega
theorem flatC_take (told : List (R × Nat)) (i : Nat) : (flatC (told.take i)).length ≤ (flatC told).length := by
  rw [flatC_len, flatC_len, List.map_take]
  exact sum_take _ _
theorem g_slTk {H : Hp} {a : Addr} {xs : List V} {k : Nat} {Q : VK} (h : H a = some (.tup xs)) (hk : k ≤ xs.length) (q : ∀ b H', Same H H' → H' b = some (.tup (xs.take k)) → Q (.ref b) H') : rSlA K (.ref a) none (some (k : Nat)) H Q := by
  refine ⟨a, xs, rfl, SqT.of h, fun hw => ?_, fun hw p hp => ?_⟩
  · refine q a H (Same.refl _) ?_
    rw [HT.sIx_nat] at hw
    rw [List.take_of_length_le (by omega)]
    exact h
  · rw [cut_to hk]
    exact q p _ (same_new hp) upd_same
theorem g_ext {l b : Addr} {xs zs : List V} {H : Hp} {Q : VK} (h : H l = some (.lst xs)) (hb : H b = some (.lst zs)) (hz : xs.length + zs.length ≤ 100000) (q : Q .non (upd H l (.lst (xs ++ zs)))) : rExtend (.ref l) [.ref b] H Q := ⟨l, b, xs, zs, rfl, rfl, h, hb, small5 hz, q⟩
theorem paF_lead {a b c : V} : (paF a b c).lookup ("lead" : Str) = some a := by rfl
theorem paF_roots {a b c : V} : (paF a b c).lookup ("roots" : Str) = some b := by rfl
theorem paF_rest {a b c : V} : (paF a b c).lookup ("rest" : Str) = some c := by rfl
def spApart (R : Type) [NumC R] (C CB : Addr) (Pre : List R → Prop) (G : List R → List R → Prop) : Sp := fun vs H Q E => ∃ (fa : Addr) (v : V), vs = [.ref fa, v] ∧ FigAt R C H fa ∧
  ((∃ a us xs m c, v = .ref a ∧ Seqv H a us ∧ Reps (R := R) H us xs ∧ 2 ≤ us.length ∧ us.length ≤ 12 ∧ TrimAt xs m ∧ (m ≠ 0 → xs[m - 1]? = some c ∧ c ≠ 0 ∧ Bds 100 (xs.take m) ∧ (∀ r, ev (xs.take m) r = 0 → NumC.Bd 1 r) ∧ Pre (xs.take m)) ∧
    ∀ v' H' rs, Same H H' → (m ≠ 0 → G (xs.take m) rs) → ApRep H' v' (apF xs m c rs) → Q v' H')
  ∨ ((v = .non ∨ ∃ a us, v = .ref a ∧ Seqv H a us ∧ (us.length < 2 ∨ 12 < us.length)) ∧ BadX CB H 0 E)
  ∨ ∃ a us k, v = .ref a ∧ Seqv H a us ∧ 2 ≤ us.length ∧ us.length ≤ 12 ∧ us[k]? = some (.int (badN R)) ∧ (∀ i u, i < k → us[i]? = some u → ∃ x : R, Rep H u x) ∧ BadX CB H k E)
theorem ok_taps_apart {Pre : List R → Prop} {G : List R → List R → Prop} (hG : ∀ g rs, G g rs → ∀ r ∈ rs, ev g r = 0) (M : FgM R P w K mg base C) (T2 : PaT K C2) (B : Bn mg) (g_MOST_APART : GI mg "MOST_APART" 12)
    (c_check_row : CalX P w K mg base 4 "check_row" (spRow R C CB)) (c_parts_of : C8.Cal P w K mg base 13 "parts_of" (spParts R C C2 Pre G) []) (F : C8.Fun K "taps_apart" "taps_apart" s_taps_apart f fd) :
    FnOk P w K mg base (L2.CX P w) 14 f fd ["figures", "taps"] (spApart R C CB Pre G) := by
  refine fnX F sc_taps_apart (fun vs H Q E h => ?_) (fun cdv A outer s H vs Q E hr h => ?_)
  · obtain ⟨i, x, rfl, _⟩ := h
    rfl
  · obtain ⟨fa, v, rfl, hF, h⟩ := h
    have T := M.T
    refine ⟨_, (pss_cons (ps_set (i := 1) sc_taps_apart.nd rfl (by first | exact .inl rfl | exact .inr rfl) (pe_cX c_check_row hr (by decide) (by rfl) (passAt (takes_of rfl rfl rfl rfl)) (pa_cons (pv 0) (pa_cons (pv 1) (pa_cons pe_int (pa_cons (C8.pe_gc (by rfl) g_MOST_APART) (pa_cons pe_str pa_nil)))))))
    (pss_cons (ps_set (i := 2) sc_taps_apart.nd rfl (by first | exact .inl rfl | exact .inr rfl) (pe_op op_sub (pe_callB call_len_ (by rfl) B.len_ (by decide +kernel) (pa_cons (pv 1) pa_nil)) pe_int))
    (pss_cons (ps_set (i := 3) sc_taps_apart.nd rfl (by first | exact .inl rfl | exact .inr rfl) (pe_callB call_len_ (by rfl) B.len_ (by decide +kernel) (pa_cons (pv 1) pa_nil)))
    (pss_cons (ps_while (passes_of rfl) (PW.pt (pw_and (pt_cmpR op_gt (pv 3) pe_int (nomark _)) (pw_and1 (pt_cmpR (op_eqD hr.units) (pe_ix ix_tup (pv 1) (pe_op op_sub (pv 3) pe_int) (fun _ _ => rfl)) (pe_fld (pv 0) rfl) (nomark _)))))
    ((pss_one (ps_set (i := 3) sc_taps_apart.nd rfl (by first | exact .inl rfl | exact .inr rfl) (pe_op op_sub (pv 3) pe_int)))))
    (pss_cons (ps_if (pt_cmpR op_eq (pv 3) pe_int (nomark _))
    ((pss_one (ps_ret (pe_op op_catA (pe_tup (pa_cons (pe_tup (pa_cons (pe_fld (pv 0) rfl) (pa_cons (pe_fld (pv 0) rfl) pa_nil))) pa_nil)) (pe_op op_repA (pe_tup (pa_cons (pe_tup (pa_cons (pe_fld (pv 0) rfl) (pa_cons (pe_fld (pv 0) rfl) pa_nil))) pa_nil)) (pe_op op_sub (pv 2) pe_int)))))) pss_nil)
    (pss_cons (ps_set (i := 4) sc_taps_apart.nd rfl (by first | exact .inl rfl | exact .inr rfl) (C8.pe_c c_parts_of hr (by decide) (by rfl) (pa_cons (pv 0) (pa_cons (pe_slice sl_tupA (pv 1) po_none (po_some (pv 3))) pa_nil))))
    (pss_cons (ps_if (pt_cmpR op_gt (pe_callB call_len_ (by rfl) B.len_ (by decide +kernel) (pa_cons (pe_fld (pv 4) rfl) pa_nil)) pe_int (nomark _))
    ((pss_one (ps_ret pe_non))) pss_nil)
    (pss_cons (ps_set (i := 5) sc_taps_apart.nd rfl (by first | exact .inl rfl | exact .inr rfl) (pe_lst pa_nil))
    (pss_cons (ps_for (passes_of rfl) rfl (pi_tup (pe_fld (pv 4) rfl)) (pg_tup (n := 2) rfl (pgs_cons (pg_name (i := 6) sc_taps_apart.nd rfl (by first | exact .inl rfl | exact .inr rfl)) (pgs_cons (pg_name (i := 7) sc_taps_apart.nd rfl (by first | exact .inl rfl | exact .inr rfl)) pgs_nil)))
    ((pss_one (ps_expr (pe_bm PySem.F.plainAttrs_list PySem.F.slot_list_extend PySem.F.type_list_extend mt_extend (pv 5) (pa_cons (pe_op op_rep (pe_lst (pa_cons (pe_tup (pa_cons (C8.pe_mt M.c_negative hr (by decide) (pv 0) (pa_cons (pv 6) pa_nil)) (pa_cons (pe_fld (pv 0) rfl) pa_nil))) pa_nil)) (pv 7)) pa_nil))))))
    (pss_cons (ps_expr (pe_bm PySem.F.plainAttrs_list PySem.F.slot_list_extend PySem.F.type_list_extend mt_extend (pv 5) (pa_cons (pe_op op_rep (pe_lst (pa_cons (pe_tup (pa_cons (pe_fld (pv 0) rfl) (pa_cons (pe_fld (pv 0) rfl) pa_nil))) pa_nil)) (pe_op op_sub (pv 2) (pe_callB call_len_ (by rfl) B.len_ (by decide +kernel) (pa_cons (pv 5) pa_nil)))) pa_nil)))
    (pss_cons (ps_set (i := 8) sc_taps_apart.nd rfl (by first | exact .inl rfl | exact .inr rfl) (pe_ix ix_list (pv 5) pe_int (fun _ _ => rfl)))
    (pss_cons (ps_asg (pe_tup (pa_cons (C8.pe_mt M.c_times hr (by decide) (pv 0) (pa_cons (pe_fld (pv 4) rfl) (pa_cons (pe_ix ix_tup (pv 8) pe_int (fun _ _ => rfl)) pa_nil))) (pa_cons (C8.pe_mt M.c_times hr (by decide) (pv 0) (pa_cons (pe_fld (pv 4) rfl) (pa_cons (pe_ix ix_tup (pv 8) pe_int (fun _ _ => rfl)) pa_nil))) pa_nil))) (pg_sub (pv 5) pe_int set_list))
    (pss_one (ps_ret (pe_callTy call_tuple_of_ (by rfl) B.tuple_ (by decide +kernel) (pa_cons (pv 5) pa_nil)))))))))))))))), ?_⟩
    refine go_start (show _ = [some _, some _, none, none, none, none, none, none, none] from rfl) ?_
    walk_at "go"
    refine g_callS ?_
    walk_at "go"
    rcases h with ⟨a0, us0, xs, m, c, rfl, ha0, hv0, h2, h12, ⟨hm, h0, _⟩, hmain, q⟩ | ⟨hbad, q⟩ | ⟨a, us, k, rfl, ha, h2, h12, hk, hgood, q⟩
    · refine ⟨fa, _, 2, 12, rfl, hF, .inl ⟨a0, us0, xs, rfl, ha0, hv0, by omega, by omega, fun v' H1 e1 ht => ?_⟩⟩
      obtain ⟨a, us, rfl, ha, hv⟩ := ht
      have hul : us.length = us0.length := by rw [hv.len, hv0.len]
      have hxl := hv.len
      have hF1 := hF.up e1
      walk_at "go"
      refine g_while (fun k σ' H' => σ' = [some (.ref fa), some (.ref a), some (.int ((us.length : Int) - 1)), some (.int (k : Nat)), none, none, none, none, none] ∧ m ≤ k ∧ k ≤ us.length ∧ H' = H1) us.length ⟨rfl, by omega, Nat.le_refl _, rfl⟩ ?_
      rintro k σ' H' ⟨rfl, hj1, hj2, rfl⟩
      walk_at "go"
      walk_at "if"
      · intro hc
        walk_at "go"
        have hk : k - 1 < xs.length := by omega
        obtain ⟨v, hv1, hv2⟩ := hv.get (List.getElem?_eq_getElem hk)
        refine g_ixTn (j := k - 1) ha (by omega) hv1 ?_
        walk_at "go"
        refine fig_zero T hF1 fun z hz => ?_
        refine g_eqR hv2 hz ?_
        walk_at "go"
        walk_at "if"
        · intro hx
          refine g_turn ?_
          walk_at "go"
          refine ⟨k - 1, by omega, ?_, ?_, by omega, rfl⟩
          · show [some (V.ref fa), some (V.ref a), some (V.int ((us.length : Int) - 1)), some (V.int ((k : Nat) - 1)), none, none, none, none, none] = _
            rw [show ((k : Int) - 1) = ((k - 1 : Nat) : Int) by omega]
          · by_cases z : m ≤ k - 1
            · exact z
            · exfalso
              have e : m = k := by omega
              have h3 := hmain (by omega)
              rw [e, List.getElem?_eq_getElem hk] at h3
              exact h3.2.1 ((Option.some.inj h3.1).symm.trans hx)
        · intro hx
          have hkm : k = m := by
            by_cases z : k = m
            · exact z
            · have h4 := h0 (k - 1) (by omega) hk
              rw [List.getElem?_eq_getElem hk] at h4
              exact absurd (Option.some.inj h4) hx
          subst hkm
          have hk0 : k ≠ 0 := by omega
          obtain ⟨hc1, hc2, hb, hroot, hpre⟩ := hmain hk0
          walk_at "go"
          rw [decide_eq_false (show ¬ ((k : Nat) : Int) = 0 by omega)]
          walk_at "go"
          refine g_slTk ha hj2 fun b5 H5 e5 hb5 => ?_
          have hgl : (xs.take k).length = k := by rw [List.length_take]; omega
          have hlast : (xs.take k).getLast? = some c := by
            rw [List.getLast?_eq_getElem?, hgl, List.getElem?_take, if_pos (by omega)]
            exact hc1
          have hled : Led (xs.take k) := ⟨c, hlast, hc2⟩
          walk_at "go"
          refine ⟨fa, _, xs.take k, c, rfl, hF1.up e5, ⟨b5, _, rfl, hb5, (hv.up e5).take k⟩, by omega, hlast, hc2, hb, hroot, hpre, fun po H6 rs e6 hg hparts => ?_⟩
          obtain ⟨pdx, vl, pa, pb, pus, pws, hpo, hvl, hpa, hpus, hpb, hpwl⟩ := hparts
          have e16 := e1.trans (e5.trans e6)
          have hF6 := hF1.up (e5.trans e6)
          obtain ⟨hsum, hrl⟩ := partF_len rs (xs.take k) 100 hled (by omega) hb (fun r hr => hroot r (hG _ _ hg r hr))
          have hrpos := hrl.pos
          have hflen := flatC_len (partF (xs.take k) rs).2
          have q' := fun v' H' e => q v' H' rs e (fun _ => hg)
          have hapF : apF xs k c rs = if 1 < (partF (xs.take k) rs).1.length then none else some (couF xs.length c (partF (xs.take k) rs).2) := if_neg hk0
          rw [hapF] at q'
          have hfst : ∀ y ∈ (partF (xs.take k) rs).2, NumC.Bd 1 y.1 := fun y hy => hroot _ (hG _ _ hg _ (partF_fst _ _ y hy))
          generalize (partF (xs.take k) rs).1.length = rl at *
          generalize (partF (xs.take k) rs).2 = told at *
          walk_at "go"
          refine ⟨po, C2, pdx, _, _, rfl, hpo, T2.cl, T2.n3, paF_rest, ?_⟩
          walk_at "go"
          walk_at "if"
          · intro hgt
            walk_at "go"
            rw [if_pos (by omega)] at q'
            exact q' _ _ e16 rfl
          · intro hgt
            rw [if_neg (by omega)] at q'
            walk_at "go"
            refine ⟨(by show 0 ≤ sizeLine; decide), fun tl htl => ?_⟩
            have e7 := same_new (o := HO.lst []) htl
            have htl0 : (upd H6 tl (.lst [])) tl = some (.lst []) := upd_same
            have htlH : H tl = none := Same.free e16 htl
            generalize (upd H6 tl (.lst [])) = H7 at *
            walk_at "go"
            refine ⟨po, C2, pdx, _, _, rfl, e7 _ _ hpo, T2.cl, T2.n2, paF_roots, ?_⟩
            refine ⟨pa, rfl, ⟨_, SqT.of (e7 _ _ hpa)⟩, lp_tup (xs := pus) (fun i σ' Hc => ∃ (ts : List V) (x6 x7 : Option V), σ' = [some (.ref fa), some (.ref a), some (.int ((us.length : Int) - 1)), some (.int (k : Nat)), some (.ref po), some (.ref tl), x6, x7, none] ∧ Same H Hc ∧ Im H7 Hc ∧ Hc tl = some (.lst ts) ∧ CpReps Hc ts (flatC (told.take i)))
              ⟨[], none, none, rfl, e16.trans e7, Im.refl _, htl0, .nil⟩ (fun i σ' Hc _ h => ?_) (fun i x σ' Hc hx h => ?_) (fun σ' Hc h => ?_)⟩
            · obtain ⟨_, _, _, _, _, im, _⟩ := h
              exact SqT.of (im_tup im (e7 _ _ hpa))
            · obtain ⟨ts, x6, x7, rfl, ec, im, hts, hcp⟩ := h
              have hFc := (hF6.up e7).im im
              obtain ⟨y, hy, p, u, rfl, hp, ru⟩ := paired_get ((hpus.im (Same.im e7)).im im) hx
              have htk : told.take (i + 1) = told.take i ++ [y] := by rw [List.take_add_one, hy]; rfl
              have hl1 := flatC_take told (i + 1)
              rw [htk, flatC_snoc, List.length_append, List.length_replicate] at hl1
              have htl := paired_len hcp
              refine g_tup2 hp ?_
              walk_at "go"
              refine g_tyL hts ?_
              walk_at "go"
              refine fig_meth hFc (by decide +kernel) ?_
              walk_at "go"
              refine ⟨fa, u, y.1, rfl, hFc, ru, fun v1 H8 e8 h8 => ?_⟩
              walk_at "go"
              refine fig_one T (hFc.up e8) fun o ho => ?_
              walk_at "go"
              refine ⟨(by show 2 ≤ sizeLine; decide), fun p3 n3 => ?_⟩
              have e9 := same_new (o := HO.tup [v1, o]) n3
              have hp3 : CpRep (upd H8 p3 (.tup [v1, o])) (.ref p3) (-y.1, (1 : R)) := ⟨p3, v1, o, rfl, upd_same, h8.up e9, ho.up e9⟩
              have e89 := e8.trans e9
              generalize (upd H8 p3 (.tup [v1, o])) = H9 at *
              walk_at "go"
              refine ⟨(by show 1 ≤ sizeLine; decide), fun p4 n4 => ?_⟩
              have e10 := Same.up (o := HO.lst [V.ref p3]) e89 n4
              have hp4 := hp3.im (Same.im (same_new (o := HO.lst [V.ref p3]) n4))
              have hp4l : (upd H9 p4 (.lst [V.ref p3])) p4 = some (.lst [V.ref p3]) := upd_same
              generalize (upd H9 p4 (.lst [V.ref p3])) = H10 at *
              walk_at "go"
              refine g_rRep hp4l (by omega) (by omega) (by show 1 ≤ 1; decide) fun p5 n5 => ?_
              rw [flat_rep, Int.toNat_natCast]
              have e11 := Same.up (o := HO.lst (List.replicate y.2 (V.ref p3))) e10 n5
              have hp5 := hp4.im (Same.im (same_new (o := HO.lst (List.replicate y.2 (V.ref p3))) n5))
              have hp5l : (upd H10 p5 (.lst (List.replicate y.2 (V.ref p3)))) p5 = some (.lst (List.replicate y.2 (V.ref p3))) := upd_same
              generalize (upd H10 p5 (.lst (List.replicate y.2 (V.ref p3)))) = H11 at *
              have hts11 := e11 _ _ hts
              walk_at "go"
              refine g_ext hts11 hp5l (by rw [List.length_replicate]; omega) ?_
              have im12 : Im H11 (upd H11 tl (.lst (ts ++ List.replicate y.2 (V.ref p3)))) := im_upd hts11
              refine ⟨_, _, _, rfl, same_mut (ec.trans e11) htlH, im.trans ((Same.im e11).trans im12), upd_same, ?_⟩
              rw [htk, flatC_snoc]
              exact paired_app ((hcp.up e11).im im12) (paired_rep (hp5.im im12) _)
            · obtain ⟨ts, x6, x7, rfl, ec, im, hts, hcp⟩ := h
              have hFc := (hF6.up e7).im im
              have hvlc := (hvl.up e7).im im
              have hpoc := im_ins im (e7 _ _ hpo)
              have hpul := paired_len hpus
              rw [List.take_of_length_le (by omega)] at hcp
              have htl := paired_len hcp
              walk_at "go"
              refine g_tyL hts ?_
              walk_at "go"
              refine fig_one T hFc fun o ho => ?_
              walk_at "go"
              refine fig_zero T hFc fun z0 hz0 => ?_
              walk_at "go"
              refine ⟨(by show 2 ≤ sizeLine; decide), fun p3 n3 => ?_⟩
              have e9 := same_new (o := HO.tup [o, z0]) n3
              have hp3 : CpRep (upd Hc p3 (.tup [o, z0])) (.ref p3) ((1 : R), (0 : R)) := ⟨p3, o, z0, rfl, upd_same, ho.up e9, hz0.up e9⟩
              generalize (upd Hc p3 (.tup [o, z0])) = H9 at *
              walk_at "go"
              refine ⟨(by show 1 ≤ sizeLine; decide), fun p4 n4 => ?_⟩
              have e10 := Same.up (o := HO.lst [V.ref p3]) e9 n4
              have hp4 := hp3.im (Same.im (same_new (o := HO.lst [V.ref p3]) n4))
              have hp4l : (upd H9 p4 (.lst [V.ref p3])) p4 = some (.lst [V.ref p3]) := upd_same
              generalize (upd H9 p4 (.lst [V.ref p3])) = H10 at *
              have hts10 := e10 _ _ hts
              walk_at "go"
              refine g_rRep hp4l (by omega) (by omega) (by show 1 ≤ 1; decide) fun p5 n5 => ?_
              rw [flat_rep, show ((us.length : Int) - 1 - ts.length).toNat = xs.length - 1 - (flatC told).length by omega]
              have e11 := Same.up (o := HO.lst (List.replicate (xs.length - 1 - (flatC told).length) (V.ref p3))) e10 n5
              have hp5 := hp4.im (Same.im (same_new (o := HO.lst (List.replicate (xs.length - 1 - (flatC told).length) (V.ref p3))) n5))
              have hp5l : (upd H10 p5 (.lst (List.replicate (xs.length - 1 - (flatC told).length) (V.ref p3)))) p5 = some (.lst (List.replicate (xs.length - 1 - (flatC told).length) (V.ref p3))) := upd_same
              generalize (upd H10 p5 (.lst (List.replicate (xs.length - 1 - (flatC told).length) (V.ref p3)))) = H11 at *
              have hts11 := e11 _ _ hts
              walk_at "go"
              refine g_ext hts11 hp5l (by rw [List.length_replicate]; omega) ?_
              have im12 : Im H11 (upd H11 tl (.lst (ts ++ List.replicate (xs.length - 1 - (flatC told).length) (V.ref p3)))) := im_upd hts11
              have e12 : Same H (upd H11 tl (.lst (ts ++ List.replicate (xs.length - 1 - (flatC told).length) (V.ref p3)))) := same_mut (ec.trans e11) htlH
              have hcs := paired_app ((hcp.up e11).im im12) (paired_rep (hp5.im im12) (xs.length - 1 - (flatC told).length))
              have hl12 : (upd H11 tl (.lst (ts ++ List.replicate (xs.length - 1 - (flatC told).length) (V.ref p3)))) tl = some (.lst (ts ++ List.replicate (xs.length - 1 - (flatC told).length) (V.ref p3))) := upd_same
              have hF12 := (hFc.up e11).im im12
              have hv12 := (hvlc.up e11).im im12
              have hpo12 := im_ins im12 (e11 _ _ hpoc)
              have hbd : ∀ x ∈ flatC told ++ List.replicate (xs.length - 1 - (flatC told).length) ((1 : R), (0 : R)), NumC.Bd 1 x.1 ∧ NumC.Bd 1 x.2 := by
                intro x hx
                rcases List.mem_append.mp hx with h | h
                · obtain ⟨y, hy, hxy⟩ := List.mem_flatMap.mp h
                  rw [(List.mem_replicate.mp hxy).2]
                  exact ⟨NumC.bd_neg (hfst y hy), NumC.bd_mono (Nat.zero_le _) NumC.bd_1⟩
                · rw [(List.mem_replicate.mp h).2]
                  exact ⟨NumC.bd_mono (Nat.zero_le _) NumC.bd_1, NumC.bd_mono (Nat.zero_le _) NumC.bd_0⟩
              have hlen : (flatC told ++ List.replicate (xs.length - 1 - (flatC told).length) ((1 : R), (0 : R))).length = xs.length - 1 := by
                rw [List.length_append, List.length_replicate]
                omega
              have hcou : couF xs.length c told = headMul c (flatC told ++ List.replicate (xs.length - 1 - (flatC told).length) (1, 0)) := rfl
              rw [hcou] at q'
              generalize flatC told ++ List.replicate (xs.length - 1 - (flatC told).length) ((1 : R), (0 : R)) = cs at *
              generalize ts ++ List.replicate (xs.length - 1 - (flatC told).length) (V.ref p3) = zs at *
              generalize (upd H11 tl (.lst zs)) = H12 at *
              cases hcs with
              | nil =>
                simp at hlen
                omega
              | @cons z x zt ct hz ht =>
                obtain ⟨p6, u1, u2, rfl, hp6, hu1, hu2⟩ := hz
                obtain ⟨hx1, hx2⟩ := hbd x (List.mem_cons_self ..)
                have hcB : NumC.Bd LIM c := NumC.bd_mono (by decide) (hb c (by rw [List.getLast?_eq_getElem?] at hlast; exact List.mem_of_getElem? hlast))
                walk_at "go"
                refine g_ixLn (j := 0) hl12 rfl rfl ?_
                walk_at "go"
                refine fig_meth hF12 (by decide +kernel) ?_
                walk_at "go"
                refine ⟨po, C2, pdx, _, _, rfl, hpo12, T2.cl, T2.n1, paF_lead, ?_⟩
                walk_at "go"
                refine ⟨fa, vl, u1, c, x.1, rfl, hF12, hv12, hu1, hcB, NumC.bd_mono (by decide) hx1, fun v1 H13 e13 h13 => ?_⟩
                have hp613 := e13 _ _ hp6
                walk_at "go"
                refine fig_meth (hF12.up e13) (by decide +kernel) ?_
                walk_at "go"
                refine ⟨po, C2, pdx, _, _, rfl, e13 _ _ hpo12, T2.cl, T2.n1, paF_lead, ?_⟩
                walk_at "go"
                refine ⟨fa, vl, u2, c, x.2, rfl, hF12.up e13, hv12.up e13, hu2.up e13, hcB, NumC.bd_mono (by decide) hx2, fun v2 H14 e14 h14 => ?_⟩
                walk_at "go"
                refine ⟨(by show 2 ≤ sizeLine; decide), fun p7 n7 => ?_⟩
                have e15 := same_new (o := HO.tup [v1, v2]) n7
                have hp7 : CpRep (upd H14 p7 (.tup [v1, v2])) (.ref p7) (c * x.1, c * x.2) := ⟨p7, v1, v2, rfl, upd_same, (h13.up e14).up e15, h14.up e15⟩
                have e1215 := e13.trans (e14.trans e15)
                generalize (upd H14 p7 (.tup [v1, v2])) = H15 at *
                have hl15 := e1215 _ _ hl12
                walk_at "go"
                refine g_setL (j := 0) hl15 rfl (by show 0 < zt.length + 1; omega) ?_
                have im16 : Im H15 (upd H15 tl (.lst ((V.ref p6 :: zt).set 0 (V.ref p7)))) := im_upd hl15
                have e16' : Same H (upd H15 tl (.lst ((V.ref p6 :: zt).set 0 (V.ref p7)))) := same_mut (e12.trans e1215) htlH
                have hl16 : (upd H15 tl (.lst ((V.ref p6 :: zt).set 0 (V.ref p7)))) tl = some (.lst (V.ref p7 :: zt)) := upd_same
                have hcs16 : CpReps (upd H15 tl (.lst ((V.ref p6 :: zt).set 0 (V.ref p7)))) (V.ref p7 :: zt) ((c * x.1, c * x.2) :: ct) := .cons (hp7.im im16) (CpReps.im (CpReps.up ht e1215) im16)
                generalize (upd H15 tl (.lst ((V.ref p6 :: zt).set 0 (V.ref p7)))) = H16 at *
                walk_at "go"
                refine g_tupOfL hl16 fun p8 n8 => ?_
                have e17 := same_new (o := HO.tup (V.ref p7 :: zt)) n8
                exact q' _ _ (e16'.trans e17) ⟨p8, _, rfl, upd_same, hcs16.up e17⟩
      · intro hc
        have hk0 : k = 0 := by omega
        subst hk0
        have hm0 : m = 0 := by omega
        subst hm0
        have q' := fun v' H' e => q v' H' [] e (fun z => absurd rfl z)
        have hapF : apF xs 0 c [] = some ((0, 0) :: List.replicate (xs.length - 2) (1, 0)) := if_pos rfl
        rw [hapF] at q'
        walk_at "go"
        rw [decide_eq_true (show ((0 : Nat) : Int) = 0 from rfl)]
        walk_at "go"
        refine fig_zero T hF1 fun z1 hz1 => ?_
        walk_at "go"
        refine fig_zero T hF1 fun z2 hz2 => ?_
        walk_at "go"
        refine ⟨(by show 2 ≤ sizeLine; decide), fun p3 n3 => ?_⟩
        have e3 := same_new (o := HO.tup [z1, z2]) n3
        have hp3 : CpRep (upd H' p3 (.tup [z1, z2])) (.ref p3) ((0 : R), (0 : R)) := ⟨p3, z1, z2, rfl, upd_same, hz1.up e3, hz2.up e3⟩
        generalize (upd H' p3 (.tup [z1, z2])) = H3 at *
        walk_at "go"
        refine ⟨(by show 1 ≤ sizeLine; decide), fun p4 n4 => ?_⟩
        have e4 := same_new (o := HO.tup [V.ref p3]) n4
        have hp4 := hp3.im (Same.im e4)
        have hp4l : (upd H3 p4 (.tup [V.ref p3])) p4 = some (.tup [V.ref p3]) := upd_same
        have e14 := e1.trans (e3.trans e4)
        have hF4 := hF1.up (e3.trans e4)
        generalize (upd H3 p4 (.tup [V.ref p3])) = H4 at *
        walk_at "go"
        refine fig_one T hF4 fun z5 hz5 => ?_
        walk_at "go"
        refine fig_zero T hF4 fun z6 hz6 => ?_
        walk_at "go"
        refine ⟨(by show 2 ≤ sizeLine; decide), fun p5 n5 => ?_⟩
        have e5 := same_new (o := HO.tup [z5, z6]) n5
        have hp5 : CpRep (upd H4 p5 (.tup [z5, z6])) (.ref p5) ((1 : R), (0 : R)) := ⟨p5, z5, z6, rfl, upd_same, hz5.up e5, hz6.up e5⟩
        generalize (upd H4 p5 (.tup [z5, z6])) = H5 at *
        walk_at "go"
        refine ⟨(by show 1 ≤ sizeLine; decide), fun p6 n6 => ?_⟩
        have e6 := same_new (o := HO.tup [V.ref p5]) n6
        have hp6 := hp5.im (Same.im e6)
        have hp6l : (upd H5 p6 (.tup [V.ref p5])) p6 = some (.tup [V.ref p5]) := upd_same
        have e46 := e5.trans e6
        generalize (upd H5 p6 (.tup [V.ref p5])) = H6 at *
        walk_at "go"
        have hp4l6 := e46 _ _ hp4l
        have hp46 := hp4.im (Same.im e46)
        have fin : ∀ b H7 ws, Same H6 H7 → H7 b = some (.tup ws) → CpReps H7 ws (List.replicate (xs.length - 2) ((1 : R), (0 : R))) → rCatA K (.ref p4) (.ref b) H7 Q := by
          intro b H7 ws e7 hb7 hws
          have hwl := paired_len hws
          rw [List.length_replicate] at hwl
          have e17 := e14.trans (e46.trans e7)
          refine ⟨p4, b, _, ws, rfl, rfl, SqT.of (e7 _ _ hp4l6), SqT.of hb7, small5 (by show 1 + ws.length ≤ _; omega), fun z => (by cases z), fun _ z => ?_, fun _ _ p8 n8 => ?_⟩
          · subst z
            refine q' _ _ e17 ⟨p4, _, rfl, e7 _ _ hp4l6, .cons (hp46.im (Same.im e7)) ?_⟩
            exact hws
          · have e8 := same_new (o := HO.tup ([V.ref p3] ++ ws)) n8
            exact q' _ _ (e17.trans e8) ⟨p8, _, rfl, upd_same, .cons ((hp46.im (Same.im e7)).im (Same.im e8)) (hws.up e8)⟩
        refine ⟨p6, (us.length : Int) - 1 - 1, [V.ref p5], rfl, rfl, SqT.of hp6l, by simp, by omega, by omega, by show 1 ≤ 1000; decide, fun z => ?_, fun z p7 n7 => ?_⟩
        · refine fin p6 H6 [V.ref p5] (Same.refl _) hp6l ?_
          rw [show xs.length - 2 = 1 by omega]
          exact .cons hp6 .nil
        · have e7 := same_new (o := HO.tup (List.replicate ((us.length : Int) - 1 - 1).toNat [V.ref p5]).flatten) n7
          refine fin p7 _ _ e7 upd_same ?_
          rw [flat_rep, show ((us.length : Int) - 1 - 1).toNat = xs.length - 2 by omega]
          exact paired_rep (CpRep.im hp6 (Same.im (same_new n7))) _
    · refine ⟨fa, _, 2, 12, rfl, hF, .inr (.inl ⟨?_, q⟩)⟩
      rcases hbad with rfl | ⟨a, us, rfl, ha, hl⟩
      · exact .inl rfl
      · exact .inr ⟨a, us, rfl, ha, by omega⟩
    · have hkl := (List.getElem?_eq_some_iff.mp hk).1
      exact ⟨fa, _, 2, 12, rfl, hF, .inr (.inr ⟨a, us, k, rfl, ha, by omega, by omega, by omega, hk, hgood, q⟩)⟩
end
end Kw
set_option maxHeartbeats 4000000
namespace Kw
open PySem PySem.Spec PyProof.Rows L2 RT
local macro_rules | `(tactic| walk_at "step") => `(tactic| with_reducible first
  | refine g_op ?_ | refine g_c ?_ | refine g_test ?_ | refine g_bl ?_ | refine g_seq ?_ | refine g_ifS ?_ | refine g_cons ?_ | refine g_nil ?_ | refine g_I0 ?_ | refine g_asg ?_ | refine g_name ?_
  | refine g_ret ?_ | refine g_nx ?_ | refine g_cb ?_ | refine g_call ?_ | refine g_un ?_ | refine g_rU ?_ | refine g_B ?_ | refine g_and ?_ | refine g_or ?_ | refine g_not ?_ | refine g_andV ?_ | refine g_orV ?_
  | refine g_notV ?_ | refine g_ifE ?_ | refine g_drop ?_ | refine g_par ?_ | refine g_two ?_ | refine g_abs ?_ | refine g_mx ?_ | refine g_int ?_ | refine g_tup ?_ | refine g_lst ?_ | refine g_chain ?_
  | refine g_sl ?_ | refine g_nopart ?_ | refine g_part ?_ | refine g_partI ?_ | refine g_bm ?_ | refine g_sub ?_ | refine g_ip ?_ | refine g_make ?_ | refine g_forR1 ?_ | refine g_forR2 ?_ | refine g_forR3 ?_ | refine g_forL ?_ | refine g_forT ?_ | refine g_forV ?_ | refine g_forVR ?_ | refine g_forE ?_ | refine g_lcL ?_ | refine g_lcT ?_ | refine g_lcR1 ?_ | refine g_lcR2 ?_ | refine g_fld ?_ | refine g_meth ?_ | refine ite_t ?_ | refine ite_nt ?_ | refine ite_nf ?_ | refine g_eqi ?_ | refine g_nei ?_ | refine ite_f ?_ | refine g_isN_n ?_ | refine g_isN_i ?_ | refine g_isN_r ?_ | refine g_notN_n ?_ | refine g_notN_i ?_ | refine g_notN_r ?_ | refine g_isi_ib ?_ | refine g_isi_ii ?_ | refine g_isi_it ?_ | refine g_isi_nt ?_)
local macro_rules | `(tactic| walk_at "var") => `(tactic| ((with_reducible refine' g_var ?hvar ?_); (case hvar => rfl)))
local macro_rules | `(tactic| walk_at "fact") => `(tactic| first
  | ((with_reducible refine' g_ixT ?hfact ?hat ?_); (case hfact => assumption); (case hat => rfl))
  | ((with_reducible refine' g_ixL ?hfact ?hat ?_); (case hfact => assumption); (case hat => rfl)))
local macro_rules | `(tactic| walk_at "fact1") => `(tactic| first
  | ((with_reducible refine' g_lenT ?hfact ?_); (case hfact => assumption))
  | ((with_reducible refine' g_lenL ?hfact ?_); (case hfact => assumption))
  | ((with_reducible refine' g_isi_tt ?hfact ?_); (case hfact => assumption)))
local macro_rules | `(tactic| walk_at "go") => `(tactic| repeat (first | walk_at "step" | walk_at "var" | walk_at "fact" | walk_at "fact1"))
local macro_rules | `(tactic| walk_at "if") => `(tactic| with_reducible first | refine ite_d ?_ ?_ | refine ite_n ?_ ?_ | refine ite_b ?_ ?_)
local macro_rules | `(tactic| walk_at "prime") => `(tactic| refine fig_prime (by assumption) (by assumption) ?_)
local macro_rules | `(tactic| walk_at "zero") => `(tactic| refine fig_zero (by assumption) (by assumption) ?_)
local macro_rules | `(tactic| walk_at "one") => `(tactic| refine fig_one (by assumption) (by assumption) ?_)
local macro_rules | `(tactic| walk_at "meth") => `(tactic| refine fig_meth (by assumption) (by decide +kernel) ?_)
section
variable {P : Program} {w : World} {K : PySem.W.Frag} {mg : Str → Option Value} {base : Heap} {f : Addr} {fd : FuncData}
/-- a global value -/
def GV (mg : Str → Option Value) (x : Str) (v : V) : Prop := ∃ u, mg x = some u ∧ RelV v u
def knownP : List Int := [0, 2, 3, 5, 7, 11, 13]
def spFInit (R : Type) [NumC R] (C : Addr) : Sp := fun vs H Q _ => ∃ (p dx : Addr), vs = [.ref p, .int (NumC.p R : Nat)] ∧ H p = some (.ins C dx []) ∧ (((NumC.p R : Nat) : Int) ∈ knownP) ∧
  ∀ H', (∀ b o, b ≠ p → H b = some o → H' b = some o) → FigAt R C H' p → Q .non H'
theorem g_in {K : PySem.W.Frag} {l : Addr} {xs : List Int} {m : Int} {H : Hp} {Q : VK} (h : SqT K H l (xs.map V.int)) (q : Q (.bl (!decide (m ∈ xs))) H) : rIn K true (.int m) (.ref l) H Q :=
  ⟨l, _, rfl, .inr h, rfl, flat_ints xs, by rw [inV_int]; exact q⟩
def Kept (p : Addr) (H H' : Hp) : Prop := ∀ b o, b ≠ p → H b = some o → H' b = some o
theorem Kept.refl (p : Addr) (H : Hp) : Kept p H H := fun _ _ _ h => h
theorem Kept.upd {p : Addr} {H H' : Hp} {o : HO} (k : Kept p H H') : Kept p H (upd H' p o) := fun b x hb h => by rw [upd_ne hb]; exact k b x hb h
theorem Kept.new {p t : Addr} {H H' : Hp} {o : HO} (k : Kept p H H') (n : H' t = none) : Kept p H (L2.upd H' t o) := fun b x hb h => by
  have := k b x hb h
  rw [upd_ne (ne_of_none this n)]
  exact this
theorem okQ_Figures {C kp : Addr} (T : FgT K C) (c_is_whole1 : C8.Cal P w K mg base 1 "is_whole" spIsWhole [.non, .non]) (g_KNOWN_PRIMES : GV mg "KNOWN_PRIMES" (.ref kp)) (hkp : ∀ H, SqT K H kp (knownP.map V.int))
    (F : C8.Fun K "__init__" "Figures.__init__" s_Figures___init__ f fd) : FnOk P w K mg base C8.CX0 2 f fd ["self", "prime"] (spFInit Rat C) := by
  refine C8.fn0 F sc_Figures___init__ (fun vs H Q E h => ?_) (fun cdv A outer s H vs Q E hr h => ?_)
  · obtain ⟨p, dx, rfl, _⟩ := h
    rfl
  · obtain ⟨p, dx, rfl, hp, hn, q⟩ := h
    refine ⟨_, (pss_cons (ps_if (PW.pt (pw_or (pt_not (pt_val (C8.pe_c c_is_whole1 hr (by decide) (by rfl) (pa_cons (pv 1) pa_nil)))) (pw_or1 (pt_cmpR op_notIn_seq (pv 1) (C8.pe_gc (by rfl) g_KNOWN_PRIMES) (by with_unfolding_all rfl)))))
    ((pss_one ps_never)) pss_nil)
    (pss_cons (ps_fld (pv 0) (pv 1) rfl)
    (pss_cons (ps_fld (pv 0) (pe_ifExp (pt_cmpR op_eq (pv 1) pe_int (nomark _)) (pe_tup (pa_cons pe_int (pa_cons pe_int pa_nil))) pe_int) rfl)
    (pss_one (ps_fld (pv 0) (pe_ifExp (pt_cmpR op_eq (pv 1) pe_int (nomark _)) (pe_tup (pa_cons pe_int (pa_cons pe_int pa_nil))) pe_int) rfl))))), ?_⟩
    refine go_start (show _ = [some _, some _] from rfl) ?_
    walk_at "go"
    refine ⟨_, .non, .non, rfl, .inl rfl, .inl rfl, ?_⟩
    rw [show inB ((NumC.p _ : Nat) : Int) .non .non = true from rfl]
    walk_at "go"
    refine g_in (hkp _) ?_
    rw [decide_eq_true hn]
    walk_at "go"
    with_reducible refine g_sfld ?_
    walk_at "go"
    refine ⟨p, C, dx, _, rfl, hp, T.cl, T.np, (by decide), ?_⟩
    walk_at "go"
    with_reducible refine g_sfld ?_
    walk_at "go"
    rw [pR]
    walk_at "go"
    refine ⟨(by show 2 ≤ sizeLine; decide), fun t1 n1 => ?_⟩
    walk_at "go"
    have hpt1 : p ≠ t1 := fun z => by rw [z] at n1; rw [upd_same] at n1; cases n1
    refine ⟨p, C, dx, _, rfl, by rw [upd_ne hpt1, upd_same], T.cl, T.nz, (by show 1 < 1000; decide), ?_⟩
    walk_at "go"
    with_reducible refine g_sfld ?_
    walk_at "go"
    rw [pR]
    walk_at "go"
    refine ⟨(by show 2 ≤ sizeLine; decide), fun t2 n2 => ?_⟩
    walk_at "go"
    have hpt2 : p ≠ t2 := fun z => by rw [z] at n2; rw [upd_same] at n2; cases n2
    refine ⟨p, C, dx, _, rfl, by rw [upd_ne hpt2, upd_same], T.cl, T.no, (by show 2 < 1000; decide), ?_⟩
    refine q _ ?_ ⟨dx, .ref t1, .ref t2, upd_same, ⟨t1, rfl, ?_⟩, ⟨t2, rfl, ?_⟩⟩
    · exact (Kept.new (Kept.upd (Kept.new (Kept.upd (Kept.refl p _)) n1)) n2).upd
    · exact (Kept.new (Kept.upd (Kept.refl p _)) n2).upd _ _ hpt1.symm upd_same
    · rw [upd_ne hpt2.symm, upd_same]
      rfl
section
variable {n : Nat} [NeZero n]
theorem okF_Figures {C kp : Addr} (h2 : 2 ≤ n) (T : FgT K C) (c_is_whole1 : C8.Cal P w K mg base 1 "is_whole" spIsWhole [.non, .non]) (g_KNOWN_PRIMES : GV mg "KNOWN_PRIMES" (.ref kp)) (hkp : ∀ H, SqT K H kp (knownP.map V.int))
    (F : C8.Fun K "__init__" "Figures.__init__" s_Figures___init__ f fd) : FnOk P w K mg base C8.CX0 2 f fd ["self", "prime"] (spFInit (Fin n) C) := by
  refine C8.fn0 F sc_Figures___init__ (fun vs H Q E h => ?_) (fun cdv A outer s H vs Q E hr h => ?_)
  · obtain ⟨p, dx, rfl, _⟩ := h
    rfl
  · obtain ⟨p, dx, rfl, hp, hn, q⟩ := h
    refine ⟨_, (pss_cons (ps_if (PW.pt (pw_or (pt_not (pt_val (C8.pe_c c_is_whole1 hr (by decide) (by rfl) (pa_cons (pv 1) pa_nil)))) (pw_or1 (pt_cmpR op_notIn_seq (pv 1) (C8.pe_gc (by rfl) g_KNOWN_PRIMES) (by with_unfolding_all rfl)))))
    ((pss_one ps_never)) pss_nil)
    (pss_cons (ps_fld (pv 0) (pv 1) rfl)
    (pss_cons (ps_fld (pv 0) (pe_ifExp (pt_cmpR op_eq (pv 1) pe_int (nomark _)) (pe_tup (pa_cons pe_int (pa_cons pe_int pa_nil))) pe_int) rfl)
    (pss_one (ps_fld (pv 0) (pe_ifExp (pt_cmpR op_eq (pv 1) pe_int (nomark _)) (pe_tup (pa_cons pe_int (pa_cons pe_int pa_nil))) pe_int) rfl))))), ?_⟩
    refine go_start (show _ = [some _, some _] from rfl) ?_
    walk_at "go"
    refine ⟨_, .non, .non, rfl, .inl rfl, .inl rfl, ?_⟩
    rw [show inB ((NumC.p _ : Nat) : Int) .non .non = true from rfl]
    walk_at "go"
    refine g_in (hkp _) ?_
    rw [decide_eq_true hn]
    walk_at "go"
    with_reducible refine g_sfld ?_
    walk_at "go"
    refine ⟨p, C, dx, _, rfl, hp, T.cl, T.np, (by decide), ?_⟩
    walk_at "go"
    with_reducible refine g_sfld ?_
    walk_at "go"
    rw [pF0]
    walk_at "go"
    refine ⟨p, C, dx, _, rfl, upd_same, T.cl, T.nz, (by show 1 < 1000; decide), ?_⟩
    walk_at "go"
    with_reducible refine g_sfld ?_
    walk_at "go"
    rw [pF0]
    walk_at "go"
    refine ⟨p, C, dx, _, rfl, upd_same, T.cl, T.no, (by show 2 < 1000; decide), ?_⟩
    refine q _ (((Kept.refl p H).upd).upd).upd ⟨dx, .int 0, .int 1, upd_same, ?_, ?_⟩
    · show V.int 0 = V.int _
      rfl
    · show V.int 1 = V.int _
      have : ((1 : Fin n).val : Int) = 1 := by
        rw [fin_one]
        exact Int.emod_eq_of_lt (by decide) (by omega)
      rw [this]
end
end
end Kw
set_option maxHeartbeats 4000000
namespace Kw
open PySem PySem.Spec PyProof.Rows L2 RT
local macro_rules | `(tactic| walk_at "step") => `(tactic| with_reducible first
  | refine g_op ?_ | refine g_c ?_ | refine g_test ?_ | refine g_bl ?_ | refine g_seq ?_ | refine g_ifS ?_ | refine g_cons ?_ | refine g_nil ?_ | refine g_I0 ?_ | refine g_asg ?_ | refine g_name ?_
  | refine g_ret ?_ | refine g_nx ?_ | refine g_cb ?_ | refine g_call ?_ | refine g_un ?_ | refine g_rU ?_ | refine g_B ?_ | refine g_and ?_ | refine g_or ?_ | refine g_not ?_ | refine g_andV ?_ | refine g_orV ?_
  | refine g_notV ?_ | refine g_ifE ?_ | refine g_drop ?_ | refine g_par ?_ | refine g_two ?_ | refine g_abs ?_ | refine g_mx ?_ | refine g_int ?_ | refine g_tup ?_ | refine g_lst ?_ | refine g_chain ?_
  | refine g_sl ?_ | refine g_nopart ?_ | refine g_part ?_ | refine g_partI ?_ | refine g_bm ?_ | refine g_sub ?_ | refine g_ip ?_ | refine g_make ?_ | refine g_forR1 ?_ | refine g_forR2 ?_ | refine g_forR3 ?_ | refine g_forL ?_ | refine g_forT ?_ | refine g_forV ?_ | refine g_forVR ?_ | refine g_forE ?_ | refine g_lcL ?_ | refine g_lcT ?_ | refine g_lcR1 ?_ | refine g_lcR2 ?_ | refine g_fld ?_ | refine g_meth ?_ | refine ite_t ?_ | refine ite_nt ?_ | refine ite_nf ?_ | refine g_eqi ?_ | refine g_nei ?_ | refine ite_f ?_ | refine g_isN_n ?_ | refine g_isN_i ?_ | refine g_isN_r ?_ | refine g_notN_n ?_ | refine g_notN_i ?_ | refine g_notN_r ?_ | refine g_isi_ib ?_ | refine g_isi_ii ?_ | refine g_isi_it ?_ | refine g_isi_nt ?_)
local macro_rules | `(tactic| walk_at "var") => `(tactic| ((with_reducible refine' g_var ?hvar ?_); (case hvar => rfl)))
local macro_rules | `(tactic| walk_at "fact") => `(tactic| first
  | ((with_reducible refine' g_ixT ?hfact ?hat ?_); (case hfact => assumption); (case hat => rfl))
  | ((with_reducible refine' g_ixL ?hfact ?hat ?_); (case hfact => assumption); (case hat => rfl)))
local macro_rules | `(tactic| walk_at "fact1") => `(tactic| first
  | ((with_reducible refine' g_lenT ?hfact ?_); (case hfact => assumption))
  | ((with_reducible refine' g_lenL ?hfact ?_); (case hfact => assumption))
  | ((with_reducible refine' g_isi_tt ?hfact ?_); (case hfact => assumption)))
local macro_rules | `(tactic| walk_at "go") => `(tactic| repeat (first | walk_at "step" | walk_at "var" | walk_at "fact" | walk_at "fact1"))
local macro_rules | `(tactic| walk_at "if") => `(tactic| with_reducible first | refine ite_d ?_ ?_ | refine ite_n ?_ ?_ | refine ite_b ?_ ?_)
local macro_rules | `(tactic| walk_at "prime") => `(tactic| refine fig_prime (by assumption) (by assumption) ?_)
local macro_rules | `(tactic| walk_at "zero") => `(tactic| refine fig_zero (by assumption) (by assumption) ?_)
local macro_rules | `(tactic| walk_at "one") => `(tactic| refine fig_one (by assumption) (by assumption) ?_)
local macro_rules | `(tactic| walk_at "meth") => `(tactic| refine fig_meth (by assumption) (by decide +kernel) ?_)
abbrev s__law_hand : Stmt := topS 48
theorem sc__law_hand : FnScope ["_law_script", "_law_total", "_law_cells", "_law_cell"] ["_law_script"] (C8.fnScope s__law_hand) := C8.fnScope_by (by decide +kernel)
abbrev s__law_mixed : Stmt := topS 49
theorem sc__law_mixed : FnScope ["_law_number_here", "_law_turn", "_law_once", "_law_twice"] ["_law_number_here", "_law_turn"] (C8.fnScope s__law_mixed) := C8.fnScope_by (by decide +kernel)
abbrev s__law_take : Stmt := topS 50
theorem sc__law_take : FnScope ["_law_hand_here", "_law_many", "_law_cell", "_law_rest"] ["_law_hand_here", "_law_many"] (C8.fnScope s__law_take) := C8.fnScope_by (by decide +kernel)
abbrev s__law_num : Stmt := topS 51
theorem sc__law_num : FnScope ["_law_p", "_law_many"] ["_law_p", "_law_many"] (C8.fnScope s__law_num) := C8.fnScope_by (by decide +kernel)
abbrev s__law_gcd : Stmt := topS 52
theorem sc__law_gcd : FnScope ["_law_one", "_law_other", "_law_a", "_law_b", "_law_k", "_law_rest"] ["_law_one", "_law_other"] (C8.fnScope s__law_gcd) := C8.fnScope_by (by decide +kernel)
abbrev s__law_ratio : Stmt := topS 53
theorem sc__law_ratio : FnScope ["_law_top", "_law_bottom", "_law_common"] ["_law_top", "_law_bottom"] (C8.fnScope s__law_ratio) := C8.fnScope_by (by decide +kernel)
abbrev s__law_times : Stmt := topS 54
theorem sc__law_times : FnScope ["_law_p", "_law_one", "_law_other"] ["_law_p", "_law_one", "_law_other"] (C8.fnScope s__law_times) := C8.fnScope_by (by decide +kernel)
abbrev s__law_plus : Stmt := topS 55
theorem sc__law_plus : FnScope ["_law_p", "_law_one", "_law_other"] ["_law_p", "_law_one", "_law_other"] (C8.fnScope s__law_plus) := C8.fnScope_by (by decide +kernel)
abbrev s__law_less : Stmt := topS 56
theorem sc__law_less : FnScope ["_law_p", "_law_one", "_law_other"] ["_law_p", "_law_one", "_law_other"] (C8.fnScope s__law_less) := C8.fnScope_by (by decide +kernel)
abbrev s__law_zero : Stmt := topS 57
theorem sc__law_zero : FnScope ["_law_p", "_law_one"] ["_law_p", "_law_one"] (C8.fnScope s__law_zero) := C8.fnScope_by (by decide +kernel)
section
variable {P : Program} {w : World} {K : PySem.W.Frag} {mg : Str → Option Value} {base : Heap} {f : Addr} {fd : FuncData}
/-! ### the hand -/
def HandAt (H : Hp) (h cl : Addr) : Prop := ∃ (cs : List Int) (pos big tot : Int), H h = some (.lst [.ref cl, .int pos, .int big, .int tot]) ∧ LI H cl cs ∧ (∀ c ∈ cs, 0 ≤ c) ∧ cs.length ≤ 63 ∧ 0 ≤ pos ∧ pos ≤ 63 ∧ 0 ≤ big ∧ 0 ≤ tot ∧ tot < 2 ^ 31
theorem Kept.trans {p : Addr} {H H1 H2 : Hp} (a : Kept p H H1) (b : Kept p H1 H2) : Kept p H H2 := fun x o h e => b x o h (a x o h e)
theorem Same.kept {p : Addr} {H H' : Hp} (e : Same H H') : Kept p H H' := fun x o _ h => e x o h
theorem Kept.im {p : Addr} {H H' : Hp} (k : Kept p H H') {us : List V} (h : H p = some (.lst us)) : Im H H' := fun b o hb n => k b o (fun z => by rw [z, h] at hb; exact n us (Option.some.inj hb).symm) hb
theorem HandAt.im {H H' : Hp} {h cl : Addr} (x : HandAt H h cl) (k : Kept h H H') : Im H H' := let ⟨_, _, _, _, e, _⟩ := x; k.im e
theorem HandAt.up {H H' : Hp} {h cl : Addr} (x : HandAt H h cl) (e : Same H H') : HandAt H' h cl := let ⟨cs, pos, big, tot, h1, h2, r⟩ := x; ⟨cs, pos, big, tot, e _ _ h1, h2.up e, r⟩
theorem HandAt.mut {H : Hp} {h cl D : Addr} {o : HO} (x : HandAt H h cl) (h1 : D ≠ h) (h2 : D ≠ cl) : HandAt (upd H D o) h cl := by
  obtain ⟨cs, pos, big, tot, e1, e2, r⟩ := x
  exact ⟨cs, pos, big, tot, by rw [upd_ne h1.symm]; exact e1, by show upd H D o cl = _; rw [upd_ne h2.symm]; exact e2, r⟩
theorem HandAt.ne {H : Hp} {h cl D : Addr} (x : HandAt H h cl) (n : H D = none) : D ≠ h ∧ D ≠ cl := by
  obtain ⟨cs, pos, big, tot, e1, e2, r⟩ := x
  refine ⟨fun z => ?_, fun z => ?_⟩
  · rw [z, e1] at n
    cases n
  · have e3 : H cl = some _ := e2
    rw [z, e3] at n
    cases n
theorem Kept.mut {p D : Addr} {H H' : Hp} {o : HO} (k : Kept p H H') (n : H D = none) : Kept p H (L2.upd H' D o) := fun b x hb h => by
  rw [upd_ne (ne_of_none h n)]
  exact k b x hb h
theorem Kept.free {p b : Addr} {H H' : Hp} (k : Kept p H H') (hb : b ≠ p) (n : H' b = none) : H b = none := by
  cases h : H b with
  | none => rfl
  | some o =>
    have := k b o hb h
    rw [n] at this
    cases this
def spLHand : Sp := fun vs H Q _ => ∃ (a : Addr) (ns : List Int), vs = [.ref a] ∧ SqL K H a (ns.map V.int) ∧ ns.length ≤ 63 ∧ ∀ h cl H', Same H H' → H h = none → HandAt H' h cl → Q (.ref h) H'
theorem ok_law_hand (B : Bn mg) (F : C8.Fun K "_law_hand" "_law_hand" s__law_hand f fd) : FnOk P w K mg base C8.CX0 1 f fd ["_law_script"] (spLHand (K := K)) := by
  refine C8.fn0 F sc__law_hand (fun vs H Q E h => ?_) (fun cdv A outer s H vs Q E hr h => ?_)
  · obtain ⟨a, ns, rfl, _⟩ := h
    rfl
  · obtain ⟨a, ns, rfl, ha, hn, q⟩ := h
    refine ⟨_, (pss_cons (ps_set (i := 1) sc__law_hand.nd rfl (by first | exact .inl rfl | exact .inr rfl) (pe_op op_add (pe_callB call_len_ (by rfl) B.len_ (by decide +kernel) (pa_cons (pv 0) pa_nil)) pe_int))
    (pss_cons (ps_set (i := 2) sc__law_hand.nd rfl (by first | exact .inl rfl | exact .inr rfl) (pe_lst pa_nil))
    (pss_cons (ps_for PassesOwn.never rfl (pi_list (pv 0)) (pg_name (i := 3) sc__law_hand.nd rfl (by first | exact .inl rfl | exact .inr rfl))
    ((pss_cons (ps_set (i := 1) sc__law_hand.nd rfl (by first | exact .inl rfl | exact .inr rfl) (pe_op op_mod (pe_callTy call_int_ (by rfl) B.int_ (by decide +kernel) (pa_cons (pe_op op_add (pe_op op_mulW (pv 1) pe_int) (pe_callTy call_int_ (by rfl) B.int_ (by decide +kernel) (pa_cons (pv 3) pa_nil))) pa_nil)) pe_int))
    (pss_one (ps_expr (pe_bm PySem.F.plainAttrs_list PySem.F.slot_list_append PySem.F.type_list_append mt_append (pv 2) (pa_cons (pe_callB call_abs_ (by rfl) B.abs_ (by decide +kernel) (pa_cons (pe_callTy call_int_ (by rfl) B.int_ (by decide +kernel) (pa_cons (pv 3) pa_nil)) pa_nil)) pa_nil)))))))
    (pss_one (ps_ret (pe_lst (pa_cons (pv 2) (pa_cons pe_int (pa_cons pe_int (pa_cons (pv 1) pa_nil)))))))))), ?_⟩
    refine go_start (show _ = [some _, none, none, none] from rfl) ?_
    walk_at "go"
    refine ⟨a, _, rfl, .inl ha, ?_⟩
    walk_at "go"
    refine ⟨(by show 0 ≤ sizeLine; decide), fun cl ncl => ?_⟩
    have e1 := same_new (o := HO.lst []) ncl
    walk_at "go"
    have hml : (ns.map V.int).length = ns.length := List.length_map ..
    refine ⟨a, rfl, ⟨_, e1.seq ha⟩, lp_list (xs := ns.map V.int) (fun i σ' Hc => ∃ (tot : Int) (cs : List Int) (x3 : Option V), σ' = [some (.ref a), some (.int tot), some (.ref cl), x3] ∧ 0 ≤ tot ∧ tot < 2 ^ 31 ∧ Same H Hc ∧ LI Hc cl cs ∧ (∀ c ∈ cs, 0 ≤ c) ∧ cs.length = i)
      ⟨_, [], none, rfl, by omega, by omega, e1, upd_same, (fun c hc => by cases hc), rfl⟩ (fun i σ' Hc _ h => ?_) (fun i x σ' Hc hx h => ?_) (fun σ' Hc h => ?_)⟩
    · obtain ⟨_, _, _, _, _, _, e, _⟩ := h
      exact e.seq ha
    · obtain ⟨tot, cs, x3, rfl, t0, t1, e, hcs, hc0, hl⟩ := h
      obtain ⟨c, hc, rfl⟩ := map_get hx
      have hi := (List.getElem?_eq_some_iff.mp hx).1
      walk_at "go"
      refine g_I (wide_mul (a := 64) (b := 64) (by omega) (by omega) (by decide) (by decide) (by decide)) ?_
      walk_at "go"
      refine g_I (by omega) ?_
      have h3 := Int.emod_nonneg (tot * 1999 + c) (show (2147483563 : Int) ≠ 0 by decide)
      have h4 := Int.emod_lt_of_pos (tot * 1999 + c) (show (0 : Int) < 2147483563 by decide)
      generalize (tot * 1999 + c) % 2147483563 = tw at h3 h4
      walk_at "go"
      refine g_tyL hcs ?_
      walk_at "go"
      refine g_app hcs (by rw [List.length_map]; omega) ?_
      refine ⟨tw, cs ++ [if c < 0 then -c else c], _, rfl, h3, by omega, same_mut e ncl, ?_, ?_, by rw [List.length_append, hl]; rfl⟩
      · show upd Hc cl _ cl = _
        rw [upd_same, List.map_append]
        rfl
      · intro d hd
        rcases List.mem_append.mp hd with h | h
        · exact hc0 d h
        · have : d = if c < 0 then -c else c := by simpa using h
          rw [this]
          split <;> omega
    · obtain ⟨tot, cs, x3, rfl, t0, t1, e, hcs, hc0, hl⟩ := h
      walk_at "go"
      refine ⟨(by show 4 ≤ sizeLine; decide), fun h nh => ?_⟩
      have e2 := same_new (o := HO.lst [V.ref cl, V.int 0, V.int 0, V.int tot]) nh
      exact q h cl _ (e.trans e2) (Same.free e nh) ⟨cs, 0, 0, tot, upd_same, hcs.up e2, hc0, by omega, by omega, by omega, by omega, t0, t1⟩
def spMix : Sp := fun vs H Q _ => ∃ (a b : Int), vs = [.int a, .int b] ∧ 0 ≤ a ∧ a < 2 ^ 31 ∧ 0 ≤ b ∧ b < 2 ^ 31 ∧ ∀ r : Int, 0 ≤ r → r < 2 ^ 31 → Q (.int r) H
theorem ok_law_mixed (B : Bn mg) (F : C8.Fun K "_law_mixed" "_law_mixed" s__law_mixed f fd) : FnOk P w K mg base C8.CX0 1 f fd ["_law_number_here", "_law_turn"] spMix := by
  refine C8.fn0 F sc__law_mixed (fun vs H Q E h => ?_) (fun cdv A outer s H vs Q E hr h => ?_)
  · obtain ⟨a, b, rfl, _⟩ := h
    rfl
  · obtain ⟨a, b, rfl, a0, a1, b0, b1, q⟩ := h
    refine ⟨_, (pss_cons (ps_set (i := 2) sc__law_mixed.nd rfl (by first | exact .inl rfl | exact .inr rfl) (pe_op op_mod (pe_callTy call_int_ (by rfl) B.int_ (by decide +kernel) (pa_cons (pe_op op_add (pe_op op_add (pe_op op_mulW (pv 0) pe_int) (pe_op op_mulW (pv 1) pe_int)) pe_int) pa_nil)) pe_int))
    (pss_cons (ps_set (i := 3) sc__law_mixed.nd rfl (by first | exact .inl rfl | exact .inr rfl) (pe_op op_mod (pe_callTy call_int_ (by rfl) B.int_ (by decide +kernel) (pa_cons (pe_op op_add (pe_op op_add (pe_op op_mulW (pv 2) (pv 2)) (pe_op op_mulW (pv 1) pe_int)) (pe_op op_fdivN (pv 2) pe_int)) pa_nil)) pe_int))
    (pss_one (ps_ret (pe_op op_fdivN (pe_callTy call_int_ (by rfl) B.int_ (by decide +kernel) (pa_cons (pe_op op_mod (pe_callTy call_int_ (by rfl) B.int_ (by decide +kernel) (pa_cons (pe_op op_add (pe_op op_mulW (pv 3) pe_int) (pe_op op_fdivN (pv 2) pe_int)) pa_nil)) pe_int) pa_nil)) pe_int))))), ?_⟩
    refine go_start (show _ = [some _, some _, none, none] from rfl) ?_
    walk_at "go"
    refine g_I (wide_mul (a := 64) (b := 64) (by omega) (by omega) (by decide) (by decide) (by decide)) ?_
    walk_at "go"
    refine g_I (wide_mul (a := 64) (b := 64) (by omega) (by omega) (by decide) (by decide) (by decide)) ?_
    walk_at "go"
    refine g_I (by omega) ?_
    have h1 := Int.emod_nonneg (a * 39373 + b * 6151 + 50021) (show (2147483399 : Int) ≠ 0 by decide)
    have h2 := Int.emod_lt_of_pos (a * 39373 + b * 6151 + 50021) (show (0 : Int) < 2147483399 by decide)
    generalize (a * 39373 + b * 6151 + 50021) % 2147483399 = on at h1 h2
    walk_at "go"
    refine g_I (wide_mul (a := 64) (b := 64) (by omega) (by omega) (by decide) (by decide) (by decide)) ?_
    walk_at "go"
    refine g_I (wide_mul (a := 64) (b := 64) (by omega) (by omega) (by decide) (by decide) (by decide)) ?_
    walk_at "go"
    refine g_I ⟨by decide, by decide⟩ ?_
    walk_at "go"
    refine g_I (by omega) ?_
    have h3 := Int.emod_nonneg (on * on + b * 81071 + on.fdiv 137) (show (2147483629 : Int) ≠ 0 by decide)
    have h4 := Int.emod_lt_of_pos (on * on + b * 81071 + on.fdiv 137) (show (0 : Int) < 2147483629 by decide)
    generalize (on * on + b * 81071 + on.fdiv 137) % 2147483629 = tw at h3 h4
    walk_at "go"
    refine g_I (wide_mul (a := 64) (b := 64) (by omega) (by omega) (by decide) (by decide) (by decide)) ?_
    walk_at "go"
    refine g_I ⟨by decide, by decide⟩ ?_
    walk_at "go"
    refine g_I (by omega) ?_
    have h5 := Int.emod_nonneg (tw * 62089 + on.fdiv 11) (show (2147483587 : Int) ≠ 0 by decide)
    have h6 := Int.emod_lt_of_pos (tw * 62089 + on.fdiv 11) (show (0 : Int) < 2147483587 by decide)
    generalize (tw * 62089 + on.fdiv 11) % 2147483587 = th at h5 h6
    walk_at "go"
    refine g_I ⟨by decide, by decide⟩ ?_
    rw [Int.fdiv_eq_ediv_of_nonneg _ (by decide)]
    exact q _ (by omega) (by omega)
def spTake : Sp := fun vs H Q _ => ∃ (h cl : Addr) (m : Int), vs = [.ref h, .int m] ∧ HandAt H h cl ∧ 1 ≤ m ∧ m ≤ 1000 ∧ ∀ (k : Int) H', 0 ≤ k → k < m → Kept h H H' → HandAt H' h cl → Q (.int k) H'
theorem ok_law_take (B : Bn mg) (c__law_mixed : C8.Cal P w K mg base 1 "_law_mixed" spMix []) (F : C8.Fun K "_law_take" "_law_take" s__law_take f fd) : FnOk P w K mg base C8.CX0 2 f fd ["_law_hand_here", "_law_many"] spTake := by
  refine C8.fn0 F sc__law_take (fun vs H Q E h => ?_) (fun cdv A outer s H vs Q E hr h => ?_)
  · obtain ⟨a, b, c, rfl, _⟩ := h
    rfl
  · obtain ⟨h, cl, m, rfl, ⟨cs, pos, big, tot, hh, hcl, hc0, hcl63, p0, p63, b0, t0, t31⟩, m1, m2, q⟩ := h
    refine ⟨_, (pss_cons (ps_if (PW.pt (pw_and (pt_cmpR op_eq (pe_ix ix_list (pv 0) pe_int (fun _ _ => rfl)) pe_int (nomark _)) (pw_and1 (pt_cmpR op_lt (pe_ix ix_list (pv 0) pe_int (fun _ _ => rfl)) (pe_callB call_len_ (by rfl) B.len_ (by decide +kernel) (pa_cons (pe_ix ix_list (pv 0) pe_int (fun _ _ => rfl)) pa_nil)) (nomark _)))))
    ((pss_cons (ps_set (i := 2) sc__law_take.nd rfl (by first | exact .inl rfl | exact .inr rfl) (pe_ix ix_list (pe_ix ix_list (pv 0) pe_int (fun _ _ => rfl)) (pe_ix ix_list (pv 0) pe_int (fun _ _ => rfl)) (fun _ _ => rfl)))
    (pss_cons (ps_asg (pe_op op_add (pe_ix ix_list (pv 0) pe_int (fun _ _ => rfl)) pe_int) (pg_sub (pv 0) pe_int set_list))
    (pss_cons (ps_if (pt_cmpR op_lt (pv 2) (pe_op op_pow pe_int pe_int) (nomark _))
    ((pss_one (ps_ret (pe_op op_mod (pe_callTy call_int_ (by rfl) B.int_ (by decide +kernel) (pa_cons (C8.pe_c c__law_mixed hr (by decide) (by rfl) (pa_cons (pe_op op_mod (pe_callTy call_int_ (by rfl) B.int_ (by decide +kernel) (pa_cons (pv 2) pa_nil)) pe_int) (pa_cons (pe_ix ix_list (pv 0) pe_int (fun _ _ => rfl)) pa_nil))) pa_nil)) (pv 1))))) pss_nil)
    (pss_one (ps_asg (pv 2) (pg_sub (pv 0) pe_int set_list))))))) pss_nil)
    (pss_cons (ps_if (pt_cmpR op_gt (pe_ix ix_list (pv 0) pe_int (fun _ _ => rfl)) pe_int (nomark _))
    ((pss_cons (ps_set (i := 3) sc__law_take.nd rfl (by first | exact .inl rfl | exact .inr rfl) (pe_ix ix_list (pv 0) pe_int (fun _ _ => rfl)))
    (pss_cons (ps_asg (pe_op op_fdivN (pe_callTy call_int_ (by rfl) B.int_ (by decide +kernel) (pa_cons (pv 3) pa_nil)) (pv 1)) (pg_sub (pv 0) pe_int set_list))
    (pss_one (ps_ret (pe_op op_mod (pe_callTy call_int_ (by rfl) B.int_ (by decide +kernel) (pa_cons (pv 3) pa_nil)) (pv 1))))))) pss_nil)
    (pss_cons (ps_asg (pe_op op_mod (pe_callTy call_int_ (by rfl) B.int_ (by decide +kernel) (pa_cons (pe_op op_add (pe_ix ix_list (pv 0) pe_int (fun _ _ => rfl)) pe_int) pa_nil)) pe_int) (pg_sub (pv 0) pe_int set_list))
    (pss_one (ps_ret (pe_op op_mod (pe_callTy call_int_ (by rfl) B.int_ (by decide +kernel) (pa_cons (C8.pe_c c__law_mixed hr (by decide) (by rfl) (pa_cons (pe_ix ix_list (pv 0) pe_int (fun _ _ => rfl)) (pa_cons (pe_ix ix_list (pv 0) pe_int (fun _ _ => rfl)) pa_nil))) pa_nil)) (pv 1))))))), ?_⟩
    refine go_start (show _ = [some _, some _, none, none] from rfl) ?_
    have hml : (cs.map V.int).length = cs.length := List.length_map ..
    have hne : cl ≠ h := fun z => by
      rw [z] at hcl
      have h2 : H h = some (.lst (cs.map V.int)) := hcl
      rw [hh] at h2
      have h3 := HO.lst.inj (Option.some.inj h2)
      cases cs with
      | nil => cases h3
      | cons a t => cases (List.cons.inj h3).1
    have kp : ∀ {H' : Hp} {o : HO}, Kept h H H' → Kept h H (upd H' h o) := fun k => k.upd
    have hcl' : ∀ {H'}, Kept h H H' → LI H' cl cs := fun k => k _ _ hne hcl
    walk_at "go"
    walk_at "if"
    · intro hb
      walk_at "go"
      walk_at "if"
      · intro hlt
        rw [hml] at hlt
        obtain ⟨c, hc⟩ : ∃ c, cs[pos.toNat]? = some c := ⟨_, List.getElem?_eq_getElem (by omega)⟩
        have hc00 := hc0 c (List.mem_of_getElem? hc)
        walk_at "go"
        refine g_ixLn (j := pos.toNat) hcl (by omega) (get_map hc) ?_
        walk_at "go"
        refine g_setL (j := 1) hh rfl (by show 1 < 4; decide) ?_
        have k8 := (Kept.refl h H).upd (o := HO.lst ([V.ref cl, V.int pos, V.int big, V.int tot].set 1 (V.int (pos + 1))))
        have h8 : (upd H h (.lst ([V.ref cl, V.int pos, V.int big, V.int tot].set 1 (V.int (pos + 1))))) h = some (.lst [V.ref cl, V.int (pos + 1), V.int big, V.int tot]) := upd_same
        generalize (upd H h (.lst ([V.ref cl, V.int pos, V.int big, V.int tot].set 1 (V.int (pos + 1))))) = H8 at *
        walk_at "go"
        refine g_I ⟨by decide, by decide, by decide⟩ ?_
        walk_at "go"
        walk_at "if"
        · intro hsmall
          walk_at "go"
          refine g_I (by omega) ?_
          have h3 := Int.emod_nonneg c (show (2147483399 : Int) ≠ 0 by decide)
          have h4 := Int.emod_lt_of_pos c (show (0 : Int) < 2147483399 by decide)
          generalize c % 2147483399 = tw at h3 h4
          walk_at "go"
          refine ⟨tw, pos + 1, rfl, h3, by omega, by omega, by omega, fun r r0 r1 => ?_⟩
          walk_at "go"
          refine g_I (by omega) ?_
          exact q _ _ (Int.emod_nonneg _ (by omega)) (Int.emod_lt_of_pos _ (by omega)) k8 ⟨cs, pos + 1, big, tot, h8, hcl' k8, hc0, hcl63, by omega, by omega, b0, t0, t31⟩
        · intro hlarge
          have hcp : 0 < c := by
            have e : (10 : Int) ^ (18 : Int).toNat = 1000000000000000000 := by decide
            rw [e] at hlarge
            omega
          walk_at "go"
          refine g_setL (j := 2) h8 rfl (by show 2 < 4; decide) ?_
          have k7 := k8.upd (o := HO.lst ([V.ref cl, V.int (pos + 1), V.int big, V.int tot].set 2 (V.int c)))
          have h7 : (upd H8 h (.lst ([V.ref cl, V.int (pos + 1), V.int big, V.int tot].set 2 (V.int c)))) h = some (.lst [V.ref cl, V.int (pos + 1), V.int c, V.int tot]) := upd_same
          generalize (upd H8 h (.lst ([V.ref cl, V.int (pos + 1), V.int big, V.int tot].set 2 (V.int c)))) = H7 at *
          walk_at "go"
          rw [decide_eq_true (show (0 : Int) < c by omega)]
          walk_at "go"
          refine g_I ⟨by omega, by omega⟩ ?_
          walk_at "go"
          refine g_setL (j := 2) h7 rfl (by show 2 < 4; decide) ?_
          have k9 := k7.upd (o := HO.lst ([V.ref cl, V.int (pos + 1), V.int c, V.int tot].set 2 (V.int (c.fdiv m))))
          have h9 : (upd H7 h (.lst ([V.ref cl, V.int (pos + 1), V.int c, V.int tot].set 2 (V.int (c.fdiv m))))) h = some (.lst [V.ref cl, V.int (pos + 1), V.int (c.fdiv m), V.int tot]) := upd_same
          generalize (upd H7 h (.lst ([V.ref cl, V.int (pos + 1), V.int c, V.int tot].set 2 (V.int (c.fdiv m))))) = H9 at *
          walk_at "go"
          refine g_I (by omega) ?_
          have f0 : 0 ≤ c.fdiv m := Int.fdiv_nonneg (by omega) (by omega)
          exact q _ _ (Int.emod_nonneg _ (by omega)) (Int.emod_lt_of_pos _ (by omega)) k9 ⟨cs, (pos + 1), _, tot, h9, hcl' k9, hc0, hcl63, by omega, by omega, f0, t0, t31⟩
      · intro hge
        by_cases hbp : 0 < big
        · walk_at "go"
          rw [decide_eq_true (show (0 : Int) < big by omega)]
          walk_at "go"
          refine g_I ⟨by omega, by omega⟩ ?_
          walk_at "go"
          refine g_setL (j := 2) hh rfl (by show 2 < 4; decide) ?_
          have k9 := (Kept.refl h H).upd (o := HO.lst ([V.ref cl, V.int pos, V.int big, V.int tot].set 2 (V.int (big.fdiv m))))
          have h9 : (upd H h (.lst ([V.ref cl, V.int pos, V.int big, V.int tot].set 2 (V.int (big.fdiv m))))) h = some (.lst [V.ref cl, V.int pos, V.int (big.fdiv m), V.int tot]) := upd_same
          generalize (upd H h (.lst ([V.ref cl, V.int pos, V.int big, V.int tot].set 2 (V.int (big.fdiv m))))) = H9 at *
          walk_at "go"
          refine g_I (by omega) ?_
          have f0 : 0 ≤ big.fdiv m := Int.fdiv_nonneg (by omega) (by omega)
          exact q _ _ (Int.emod_nonneg _ (by omega)) (Int.emod_lt_of_pos _ (by omega)) k9 ⟨cs, pos, _, tot, h9, hcl' k9, hc0, hcl63, by omega, by omega, f0, t0, t31⟩
        · walk_at "go"
          rw [decide_eq_false (show ¬ (0 : Int) < big by omega)]
          walk_at "go"
          refine g_I (by omega) ?_
          have h3 := Int.emod_nonneg (tot + 1) (show (2147483549 : Int) ≠ 0 by decide)
          have h4 := Int.emod_lt_of_pos (tot + 1) (show (0 : Int) < 2147483549 by decide)
          generalize (tot + 1) % 2147483549 = tw at h3 h4
          walk_at "go"
          refine g_setL (j := 3) hh rfl (by show 3 < 4; decide) ?_
          have k9 := (Kept.refl h H).upd (o := HO.lst ([V.ref cl, V.int pos, V.int big, V.int tot].set 3 (V.int tw)))
          have h9 : (upd H h (.lst ([V.ref cl, V.int pos, V.int big, V.int tot].set 3 (V.int tw)))) h = some (.lst [V.ref cl, V.int pos, V.int big, V.int tw]) := upd_same
          generalize (upd H h (.lst ([V.ref cl, V.int pos, V.int big, V.int tot].set 3 (V.int tw)))) = H9 at *
          walk_at "go"
          refine ⟨tw, pos, rfl, h3, by omega, by omega, by omega, fun r r0 r1 => ?_⟩
          walk_at "go"
          refine g_I (by omega) ?_
          exact q _ _ (Int.emod_nonneg _ (by omega)) (Int.emod_lt_of_pos _ (by omega)) k9 ⟨cs, pos, _, tw, h9, hcl' k9, hc0, hcl63, by omega, by omega, by omega, h3, by omega⟩
    · intro hb
      by_cases hbp : 0 < big
      · walk_at "go"
        rw [decide_eq_true (show (0 : Int) < big by omega)]
        walk_at "go"
        refine g_I ⟨by omega, by omega⟩ ?_
        walk_at "go"
        refine g_setL (j := 2) hh rfl (by show 2 < 4; decide) ?_
        have k9 := (Kept.refl h H).upd (o := HO.lst ([V.ref cl, V.int pos, V.int big, V.int tot].set 2 (V.int (big.fdiv m))))
        have h9 : (upd H h (.lst ([V.ref cl, V.int pos, V.int big, V.int tot].set 2 (V.int (big.fdiv m))))) h = some (.lst [V.ref cl, V.int pos, V.int (big.fdiv m), V.int tot]) := upd_same
        generalize (upd H h (.lst ([V.ref cl, V.int pos, V.int big, V.int tot].set 2 (V.int (big.fdiv m))))) = H9 at *
        walk_at "go"
        refine g_I (by omega) ?_
        have f0 : 0 ≤ big.fdiv m := Int.fdiv_nonneg (by omega) (by omega)
        exact q _ _ (Int.emod_nonneg _ (by omega)) (Int.emod_lt_of_pos _ (by omega)) k9 ⟨cs, pos, _, tot, h9, hcl' k9, hc0, hcl63, by omega, by omega, f0, t0, t31⟩
      · walk_at "go"
        rw [decide_eq_false (show ¬ (0 : Int) < big by omega)]
        walk_at "go"
        refine g_I (by omega) ?_
        have h3 := Int.emod_nonneg (tot + 1) (show (2147483549 : Int) ≠ 0 by decide)
        have h4 := Int.emod_lt_of_pos (tot + 1) (show (0 : Int) < 2147483549 by decide)
        generalize (tot + 1) % 2147483549 = tw at h3 h4
        walk_at "go"
        refine g_setL (j := 3) hh rfl (by show 3 < 4; decide) ?_
        have k9 := (Kept.refl h H).upd (o := HO.lst ([V.ref cl, V.int pos, V.int big, V.int tot].set 3 (V.int tw)))
        have h9 : (upd H h (.lst ([V.ref cl, V.int pos, V.int big, V.int tot].set 3 (V.int tw)))) h = some (.lst [V.ref cl, V.int pos, V.int big, V.int tw]) := upd_same
        generalize (upd H h (.lst ([V.ref cl, V.int pos, V.int big, V.int tot].set 3 (V.int tw)))) = H9 at *
        walk_at "go"
        refine ⟨tw, pos, rfl, h3, by omega, by omega, by omega, fun r r0 r1 => ?_⟩
        walk_at "go"
        refine g_I (by omega) ?_
        exact q _ _ (Int.emod_nonneg _ (by omega)) (Int.emod_lt_of_pos _ (by omega)) k9 ⟨cs, pos, _, tw, h9, hcl' k9, hc0, hcl63, by omega, by omega, by omega, h3, by omega⟩
end
end Kw
set_option maxHeartbeats 4000000
namespace Kw
open PySem PySem.Spec PyProof.Rows L2 RT
local macro_rules | `(tactic| walk_at "step") => `(tactic| with_reducible first
  | refine g_op ?_ | refine g_c ?_ | refine g_test ?_ | refine g_bl ?_ | refine g_seq ?_ | refine g_ifS ?_ | refine g_cons ?_ | refine g_nil ?_ | refine g_I0 ?_ | refine g_asg ?_ | refine g_name ?_
  | refine g_ret ?_ | refine g_nx ?_ | refine g_cb ?_ | refine g_call ?_ | refine g_un ?_ | refine g_rU ?_ | refine g_B ?_ | refine g_and ?_ | refine g_or ?_ | refine g_not ?_ | refine g_andV ?_ | refine g_orV ?_
  | refine g_notV ?_ | refine g_ifE ?_ | refine g_drop ?_ | refine g_par ?_ | refine g_two ?_ | refine g_abs ?_ | refine g_mx ?_ | refine g_int ?_ | refine g_tup ?_ | refine g_lst ?_ | refine g_chain ?_
  | refine g_sl ?_ | refine g_nopart ?_ | refine g_part ?_ | refine g_partI ?_ | refine g_bm ?_ | refine g_sub ?_ | refine g_ip ?_ | refine g_make ?_ | refine g_forR1 ?_ | refine g_forR2 ?_ | refine g_forR3 ?_ | refine g_forL ?_ | refine g_forT ?_ | refine g_forV ?_ | refine g_forVR ?_ | refine g_forE ?_ | refine g_lcL ?_ | refine g_lcT ?_ | refine g_lcR1 ?_ | refine g_lcR2 ?_ | refine g_fld ?_ | refine g_meth ?_ | refine ite_t ?_ | refine ite_nt ?_ | refine ite_nf ?_ | refine g_eqi ?_ | refine g_nei ?_ | refine ite_f ?_ | refine g_isN_n ?_ | refine g_isN_i ?_ | refine g_isN_r ?_ | refine g_notN_n ?_ | refine g_notN_i ?_ | refine g_notN_r ?_ | refine g_isi_ib ?_ | refine g_isi_ii ?_ | refine g_isi_it ?_ | refine g_isi_nt ?_)
local macro_rules | `(tactic| walk_at "var") => `(tactic| ((with_reducible refine' g_var ?hvar ?_); (case hvar => rfl)))
local macro_rules | `(tactic| walk_at "fact") => `(tactic| first
  | ((with_reducible refine' g_ixT ?hfact ?hat ?_); (case hfact => assumption); (case hat => rfl))
  | ((with_reducible refine' g_ixL ?hfact ?hat ?_); (case hfact => assumption); (case hat => rfl)))
local macro_rules | `(tactic| walk_at "fact1") => `(tactic| first
  | ((with_reducible refine' g_lenT ?hfact ?_); (case hfact => assumption))
  | ((with_reducible refine' g_lenL ?hfact ?_); (case hfact => assumption))
  | ((with_reducible refine' g_isi_tt ?hfact ?_); (case hfact => assumption)))
local macro_rules | `(tactic| walk_at "go") => `(tactic| repeat (first | walk_at "step" | walk_at "var" | walk_at "fact" | walk_at "fact1"))
local macro_rules | `(tactic| walk_at "if") => `(tactic| with_reducible first | refine ite_d ?_ ?_ | refine ite_n ?_ ?_ | refine ite_b ?_ ?_)
local macro_rules | `(tactic| walk_at "prime") => `(tactic| refine fig_prime (by assumption) (by assumption) ?_)
local macro_rules | `(tactic| walk_at "zero") => `(tactic| refine fig_zero (by assumption) (by assumption) ?_)
local macro_rules | `(tactic| walk_at "one") => `(tactic| refine fig_one (by assumption) (by assumption) ?_)
local macro_rules | `(tactic| walk_at "meth") => `(tactic| refine fig_meth (by assumption) (by decide +kernel) ?_)
section
variable {P : Program} {w : World} {K : PySem.W.Frag} {mg : Str → Option Value} {base : Heap} {f : Addr} {fd : FuncData}
/-! ### the law's gcd, ratio -/
def spLGcd : Sp := fun vs H Q _ => ∃ (a b : Int), vs = [.int a, .int b] ∧ a.natAbs < 2 ^ 8002 ∧ b.natAbs < 2 ^ 8002 ∧ Q (.int (Int.gcd a b : Nat)) H
theorem gcd_step' (x y : Int) : Int.gcd y (x % y) = Int.gcd x y := by
  rw [Int.gcd_comm, gcd_step, Int.gcd_comm]
theorem gcd_fall {x y M : Nat} {i : Nat} (h : x * y * 2 ^ i < M) (hi : 1 ≤ i → y ≤ x) (hM : i = 0 → x * y * 2 < M) (hy : 0 < y) : y * (x % y) * 2 ^ (i + 1) < M := by
  rw [Nat.pow_succ]
  have hr := Nat.mod_lt x hy
  by_cases c : y ≤ x
  · have hd := Nat.div_add_mod x y
    have h1 : 1 ≤ x / y := Nat.div_pos c hy
    have h2 : y * 1 ≤ y * (x / y) := Nat.mul_le_mul_left _ h1
    have h3 : x % y * 2 ≤ x := by omega
    have h4 : y * (x % y) * (2 ^ i * 2) = (x % y * 2) * (y * 2 ^ i) := by
      simp [Nat.mul_comm, Nat.mul_left_comm, Nat.mul_assoc]
    rw [h4]
    have h5 : (x % y * 2) * (y * 2 ^ i) ≤ x * (y * 2 ^ i) := Nat.mul_le_mul_right _ h3
    rw [← Nat.mul_assoc x y (2 ^ i)] at h5
    exact Nat.lt_of_le_of_lt h5 h
  · have h0 : i = 0 := by
      by_cases z : i = 0
      · exact z
      · exact absurd (hi (by omega)) c
    subst h0
    rw [Nat.mod_eq_of_lt (by omega)]
    have := hM rfl
    rw [Nat.mul_comm y x]
    simpa using this
theorem ok_law_gcd (B : Bn mg) (F : C8.Fun K "_law_gcd" "_law_gcd" s__law_gcd f fd) : FnOk P w K mg base C8.CX0 1 f fd ["_law_one", "_law_other"] spLGcd := by
  refine C8.fn0 F sc__law_gcd (fun vs H Q E h => ?_) (fun cdv A outer s H vs Q E hr h => ?_)
  · obtain ⟨a, b, rfl, _⟩ := h
    rfl
  · obtain ⟨a, b, rfl, ha, hb, q⟩ := h
    refine ⟨_, (pss_cons (ps_set (i := 2) sc__law_gcd.nd rfl (by first | exact .inl rfl | exact .inr rfl) (pe_callB call_abs_ (by rfl) B.abs_ (by decide +kernel) (pa_cons (pv 0) pa_nil)))
    (pss_cons (ps_set (i := 3) sc__law_gcd.nd rfl (by first | exact .inl rfl | exact .inr rfl) (pe_callB call_abs_ (by rfl) B.abs_ (by decide +kernel) (pa_cons (pv 1) pa_nil)))
    (pss_cons (ps_for PassesOwn.never rfl (pi_range1 (by rfl) B.range_ (pa_cons pe_int pa_nil)) (pg_name (i := 4) sc__law_gcd.nd rfl (by first | exact .inl rfl | exact .inr rfl))
    ((pss_cons (ps_if (pt_cmpR op_eq (pv 3) pe_int (nomark _))
    ((pss_one (ps_ret (pv 2)))) pss_nil)
    (pss_cons (ps_set (i := 5) sc__law_gcd.nd rfl (by first | exact .inl rfl | exact .inr rfl) (pe_op op_mod (pe_callTy call_int_ (by rfl) B.int_ (by decide +kernel) (pa_cons (pv 2) pa_nil)) (pv 3)))
    (pss_cons (ps_set (i := 2) sc__law_gcd.nd rfl (by first | exact .inl rfl | exact .inr rfl) (pv 3))
    (pss_one (ps_set (i := 3) sc__law_gcd.nd rfl (by first | exact .inl rfl | exact .inr rfl) (pv 5))))))))
    (pss_one (ps_ret pe_int))))), ?_⟩
    refine go_start (show _ = [some _, some _, none, none, none, none] from rfl) ?_
    walk_at "go"
    have hprod : a.natAbs * b.natAbs * 2 < 2 ^ 16005 := by
      have h1 := Nat.mul_lt_mul'' ha hb
      rw [← Nat.pow_add] at h1
      have e : 2 ^ 16005 = 2 ^ (8002 + 8002) * 2 := by rw [← Nat.pow_succ]
      rw [e]
      exact Nat.mul_lt_mul_of_pos_right h1 (by decide)
    have hbig : (2 : Nat) ^ 16005 ≤ 2 ^ 60000 := Nat.pow_le_pow_right (by decide) (by decide)
    refine ⟨_, rfl, by omega, by omega, lp_range (fun i σ' H' => ∃ (x y : Nat) (x4 x5 : Option V), σ' = [some (.int a), some (.int b), some (.int x), some (.int y), x4, x5] ∧ Int.gcd x y = Int.gcd a b ∧ x * y * 2 ^ i < 2 ^ 16005 ∧ (1 ≤ i → y ≤ x ∧ 0 < x) ∧ (i = 0 → x * y * 2 < 2 ^ 16005) ∧ i ≤ 16010 ∧ H' = H)
      ⟨a.natAbs, b.natAbs, none, none, ?_, ?_, by omega, fun z => by omega, fun _ => hprod, by omega, rfl⟩ ?_ ?_⟩
    · rw [show (if a < 0 then -a else a) = ((a.natAbs : Nat) : Int) by split <;> omega, show (if b < 0 then -b else b) = ((b.natAbs : Nat) : Int) by split <;> omega]
      rfl
    · rfl
    · rintro i σ' H' hi ⟨x, y, x4, x5, rfl, hg, hp, h1, h0, hi2, rfl⟩
      walk_at "go"
      walk_at "if"
      · intro hy
        walk_at "go"
        have hy0 : y = 0 := by omega
        subst hy0
        rw [← hg] at q
        have e : Int.gcd (x : Int) ((0 : Nat) : Int) = x := by
          show Nat.gcd x 0 = x
          simp
        rw [e] at q
        exact q
      · intro hy
        have hy0 : 0 < y := by omega
        walk_at "go"
        refine g_I (by omega) ?_
        walk_at "go"
        have hfall := gcd_fall hp (fun z => (h1 z).1) h0 hy0
        have hlim : i + 1 ≤ 16010 := by
          by_cases hi0 : i = 0
          · omega
          · have hx := (h1 (by omega)).2
            have h2 : 1 ≤ x * y := Nat.mul_pos hx hy0
            have h3 : 1 * 2 ^ i ≤ x * y * 2 ^ i := Nat.mul_le_mul_right _ h2
            rw [Nat.one_mul] at h3
            have h4 := Nat.lt_of_le_of_lt h3 hp
            have := (Nat.pow_lt_pow_iff_right (a := 2) (by decide)).mp h4
            omega
        refine ⟨y, x % y, some (.int (0 + (i : Nat))), some (.int ((x : Int) % y)), ?_, ?_, hfall, fun _ => ⟨Nat.le_of_lt (Nat.mod_lt _ hy0), hy0⟩, fun z => by omega, hlim, rfl⟩
        · rw [Int.natCast_emod]
          rfl
        · rw [Int.natCast_emod, gcd_step', hg]
    · rintro σ' H' ⟨x, y, x4, x5, rfl, hg, hp, h1, h0, hi2, rfl⟩
      exfalso
      have e : ((60000 : Int)).toNat = 60000 := rfl
      rw [e] at hi2
      omega
def spLRatio : Sp := fun vs H Q _ => ∃ (t b : Int), vs = [.int t, .int b] ∧ b ≠ 0 ∧ t.natAbs < 2 ^ 8002 ∧ b.natAbs < 2 ^ 8002 ∧ ∀ v H', Same H H' → Rt H' v (Rat.divInt t b) → Q v H'
theorem ok_law_ratio (c__law_gcd : C8.Cal P w K mg base 1 "_law_gcd" spLGcd []) (F : C8.Fun K "_law_ratio" "_law_ratio" s__law_ratio f fd) : FnOk P w K mg base C8.CX0 2 f fd ["_law_top", "_law_bottom"] spLRatio := by
  refine C8.fn0 F sc__law_ratio (fun vs H Q E h => ?_) (fun cdv A outer s H vs Q E hr h => ?_)
  · obtain ⟨a, b, rfl, _⟩ := h
    rfl
  · obtain ⟨t, b, rfl, hb, ht, hz, q⟩ := h
    have hg : ((Int.gcd t b : Nat) : Int) ≠ 0 := by
      intro e
      have : Int.gcd t b = 0 := by omega
      rw [Int.gcd_eq_zero_iff] at this
      exact hb this.2
    have hg2 : ((Int.gcd t b : Nat) : Int).natAbs < 2 ^ 8002 := by
      have h1 : Int.gcd t b ∣ b.natAbs := Int.gcd_dvd_natAbs_right ..
      have h2 := Nat.le_of_dvd (by omega) h1
      exact Nat.lt_of_le_of_lt h2 hz
    refine ⟨_, (pss_cons (ps_set (i := 2) sc__law_ratio.nd rfl (by first | exact .inl rfl | exact .inr rfl) (C8.pe_c c__law_gcd hr (by decide) (by rfl) (pa_cons (pv 0) (pa_cons (pv 1) pa_nil))))
    (pss_cons (ps_if (pt_cmpR op_lt (pv 1) pe_int (nomark _))
    ((pss_one (ps_set (i := 2) sc__law_ratio.nd rfl (by first | exact .inl rfl | exact .inr rfl) (pe_un un_neg (pv 2))))) pss_nil)
    (pss_one (ps_ret (pe_tup (pa_cons (pe_op op_fdivX (pv 0) (pv 2)) (pa_cons (pe_op op_fdivX (pv 1) (pv 2)) pa_nil))))))), ?_⟩
    refine go_start (show _ = [some _, some _, none] from rfl) ?_
    walk_at "go"
    refine ⟨_, _, rfl, ht, hz, ?_⟩
    walk_at "go"
    walk_at "if"
    · intro hn
      walk_at "go"
      refine g_I (cdx (b := 8002) (by omega) (by omega) (by omega) (by omega)) ?_
      walk_at "go"
      refine g_I (cdx (b := 8002) (by omega) (by omega) (by omega) (by omega)) ?_
      walk_at "go"
      refine ⟨(by show 2 ≤ sizeLine; decide), fun p hp => ?_⟩
      refine q _ _ (same_new hp) ⟨p, rfl, ?_⟩
      have h := low_neg (t := t) hn
      rw [h.1, h.2, upd_same]
    · intro hn
      walk_at "go"
      refine g_I (cdx (b := 8002) (by omega) (by omega) (by omega) (by omega)) ?_
      walk_at "go"
      refine g_I (cdx (b := 8002) (by omega) (by omega) (by omega) (by omega)) ?_
      walk_at "go"
      refine ⟨(by show 2 ≤ sizeLine; decide), fun p hp => ?_⟩
      refine q _ _ (same_new hp) ⟨p, rfl, ?_⟩
      have h := low_pos (t := t) (b := b) (by omega)
      rw [h.1, h.2, upd_same]
/-! ### numbers -/
def spNum (R : Type) [NumC R] : Sp := fun vs H Q _ => ∃ (i : Int), vs = [.int (NumC.p R : Nat), .int i] ∧ ∀ v H', Same H H' → Rep H' v (NumC.of i : R) → Q v H'
def spL2 (R : Type) [NumC R] (g : R → R → R) : Sp := fun vs H Q _ => ∃ (a b : V) (x y : R), vs = [.int (NumC.p R : Nat), a, b] ∧ Rep H a x ∧ Rep H b y ∧ NumC.Bd LIM x ∧ NumC.Bd LIM y ∧ ∀ v H', Same H H' → Rep H' v (g x y) → Q v H'
theorem int_rt {H : Hp} {v : V} {a : Addr} {i : Int} (hv : v = .ref a) (h : H a = some (.tup [.int i, .int 1])) : Rep (R := Rat) H v ((i : Int) : Rat) := by
  refine rt_rep ▸ ⟨a, hv, ?_⟩
  rw [Rat.num_intCast, Rat.den_intCast]
  exact h
theorem okQ_law_num (F : C8.Fun K "_law_num" "_law_num" s__law_num f fd) (B : Bn mg) : FnOk P w K mg base C8.CX0 1 f fd ["_law_p", "_law_many"] (spNum Rat) := by
  refine C8.fn0 F sc__law_num (fun vs H Q E h => ?_) (fun cdv A outer s H vs Q E hr h => ?_)
  · obtain ⟨a, rfl, _⟩ := h
    rfl
  · obtain ⟨i, rfl, q⟩ := h
    refine ⟨_, (pss_cons (ps_if (pt_cmpR op_eq (pv 0) pe_int (nomark _))
    ((pss_one (ps_ret (pe_tup (pa_cons (pv 1) (pa_cons pe_int pa_nil)))))) pss_nil)
    (pss_one (ps_ret (pe_op op_mod (pe_callTy call_int_ (by rfl) B.int_ (by decide +kernel) (pa_cons (pv 1) pa_nil)) (pv 0))))), ?_⟩
    refine go_start (show _ = [some _, some _] from rfl) ?_
    walk_at "go"
    rw [pR]
    walk_at "go"
    refine ⟨(by show 2 ≤ sizeLine; decide), fun p hp => ?_⟩
    exact q _ _ (same_new hp) (int_rt rfl upd_same)
theorem okQ_law_times (c__law_ratio : C8.Cal P w K mg base 2 "_law_ratio" spLRatio []) (F : C8.Fun K "_law_times" "_law_times" s__law_times f fd) (B : Bn mg) : FnOk P w K mg base C8.CX0 3 f fd ["_law_p", "_law_one", "_law_other"] (spL2 Rat fun x y => x * y) := by
  refine C8.fn0 F sc__law_times (fun vs H Q E h => ?_) (fun cdv A outer s H vs Q E hr h => ?_)
  · obtain ⟨a, b, x, y, rfl, _⟩ := h
    rfl
  · obtain ⟨_, _, x, y, rfl, rx, ry, bx, by', q⟩ := h
    have sx := sz_of bx
    have sy := sz_of by'
    obtain ⟨a, rfl, ha⟩ := rt_rep ▸ rx
    obtain ⟨b, rfl, hb⟩ := rt_rep ▸ ry
    refine ⟨_, (pss_cons (ps_if (pt_cmpR op_eq (pv 0) pe_int (nomark _))
    ((pss_cons (ps_if (PW.pt (pw_and (pt_cmpR op_eq (pe_ix ix_tup (pv 1) pe_int (fun _ _ => rfl)) pe_int (nomark _)) (pw_and1 (pt_cmpR op_eq (pe_ix ix_tup (pv 2) pe_int (fun _ _ => rfl)) pe_int (nomark _)))))
    ((pss_one (ps_ret (pe_tup (pa_cons (pe_op op_mulW (pe_ix ix_tup (pv 1) pe_int (fun _ _ => rfl)) (pe_ix ix_tup (pv 2) pe_int (fun _ _ => rfl))) (pa_cons pe_int pa_nil)))))) pss_nil)
    (pss_one (ps_ret (C8.pe_c c__law_ratio hr (by decide) (by rfl) (pa_cons (pe_op op_mulW (pe_ix ix_tup (pv 1) pe_int (fun _ _ => rfl)) (pe_ix ix_tup (pv 2) pe_int (fun _ _ => rfl))) (pa_cons (pe_op op_mulW (pe_ix ix_tup (pv 1) pe_int (fun _ _ => rfl)) (pe_ix ix_tup (pv 2) pe_int (fun _ _ => rfl))) pa_nil))))))) pss_nil)
    (pss_one (ps_ret (pe_op op_mod (pe_callTy call_int_ (by rfl) B.int_ (by decide +kernel) (pa_cons (pe_op op_mulW (pv 1) (pv 2)) pa_nil)) (pv 0))))), ?_⟩
    refine go_start (show _ = [some _, some _, some _] from rfl) ?_
    walk_at "go"
    rw [pR]
    walk_at "go"
    walk_at "if"
    · intro h1
      walk_at "go"
      walk_at "if"
      · intro h2
        walk_at "go"
        refine g_I (wide_mul (a := 4000) (b := 4000) sx.1 sy.1 (by decide) (by decide) (by decide)) ?_
        walk_at "go"
        refine ⟨(by show 2 ≤ sizeLine; decide), fun p hp => ?_⟩
        have e : x * y = ((x.num * y.num : Int) : Rat) := by
          rw [Rat.intCast_mul, ← whole_of (by omega : x.den = 1), ← whole_of (by omega : y.den = 1)]
        refine q _ _ (same_new hp) ?_
        show Rep _ _ (x * y)
        rw [e]
        exact int_rt rfl upd_same
      · intro h2
        walk_at "go"
        refine g_I (wide_mul (a := 4000) (b := 4000) sx.1 sy.1 (by decide) (by decide) (by decide)) ?_
        walk_at "go"
        refine g_I (wide_mul (a := 4000) (b := 4000) sx.2 sy.2 (by decide) (by decide) (by decide)) ?_
        walk_at "go"
        refine ⟨_, _, rfl, Int.mul_ne_zero (den_nz x) (den_nz y), Nat.lt_of_lt_of_le (mul_lt (a := 4000) (b := 4000) (c := 8000) sx.1 sy.1 (by decide)) (Nat.pow_le_pow_right (by decide) (by decide)), Nat.lt_of_lt_of_le (mul_lt (a := 4000) (b := 4000) (c := 8000) (show ((x.den : Int)).natAbs < 2 ^ 4000 from sx.2) (show ((y.den : Int)).natAbs < 2 ^ 4000 from sy.2) (by decide)) (Nat.pow_le_pow_right (by decide) (by decide)), ?_⟩
        rw [rat_times]
        exact q
    · intro h1
      walk_at "go"
      refine g_I (wide_mul (a := 4000) (b := 4000) sx.1 sy.1 (by decide) (by decide) (by decide)) ?_
      walk_at "go"
      refine g_I (wide_mul (a := 4000) (b := 4000) sx.2 sy.2 (by decide) (by decide) (by decide)) ?_
      walk_at "go"
      refine ⟨_, _, rfl, Int.mul_ne_zero (den_nz x) (den_nz y), Nat.lt_of_lt_of_le (mul_lt (a := 4000) (b := 4000) (c := 8000) sx.1 sy.1 (by decide)) (Nat.pow_le_pow_right (by decide) (by decide)), Nat.lt_of_lt_of_le (mul_lt (a := 4000) (b := 4000) (c := 8000) (show ((x.den : Int)).natAbs < 2 ^ 4000 from sx.2) (show ((y.den : Int)).natAbs < 2 ^ 4000 from sy.2) (by decide)) (Nat.pow_le_pow_right (by decide) (by decide)), ?_⟩
      rw [rat_times]
      exact q
theorem okQ_law_plus (c__law_ratio : C8.Cal P w K mg base 2 "_law_ratio" spLRatio []) (F : C8.Fun K "_law_plus" "_law_plus" s__law_plus f fd) (B : Bn mg) : FnOk P w K mg base C8.CX0 3 f fd ["_law_p", "_law_one", "_law_other"] (spL2 Rat fun x y => x + y) := by
  refine C8.fn0 F sc__law_plus (fun vs H Q E h => ?_) (fun cdv A outer s H vs Q E hr h => ?_)
  · obtain ⟨a, b, x, y, rfl, _⟩ := h
    rfl
  · obtain ⟨_, _, x, y, rfl, rx, ry, bx, by', q⟩ := h
    have sx := sz_of bx
    have sy := sz_of by'
    obtain ⟨a, rfl, ha⟩ := rt_rep ▸ rx
    obtain ⟨b, rfl, hb⟩ := rt_rep ▸ ry
    refine ⟨_, (pss_cons (ps_if (pt_cmpR op_eq (pv 0) pe_int (nomark _))
    ((pss_cons (ps_if (PW.pt (pw_and (pt_cmpR op_eq (pe_ix ix_tup (pv 1) pe_int (fun _ _ => rfl)) pe_int (nomark _)) (pw_and1 (pt_cmpR op_eq (pe_ix ix_tup (pv 2) pe_int (fun _ _ => rfl)) pe_int (nomark _)))))
    ((pss_one (ps_ret (pe_tup (pa_cons (pe_op op_add (pe_ix ix_tup (pv 1) pe_int (fun _ _ => rfl)) (pe_ix ix_tup (pv 2) pe_int (fun _ _ => rfl))) (pa_cons pe_int pa_nil)))))) pss_nil)
    (pss_one (ps_ret (C8.pe_c c__law_ratio hr (by decide) (by rfl) (pa_cons (pe_op op_add (pe_op op_mulW (pe_ix ix_tup (pv 1) pe_int (fun _ _ => rfl)) (pe_ix ix_tup (pv 2) pe_int (fun _ _ => rfl))) (pe_op op_mulW (pe_ix ix_tup (pv 2) pe_int (fun _ _ => rfl)) (pe_ix ix_tup (pv 1) pe_int (fun _ _ => rfl)))) (pa_cons (pe_op op_mulW (pe_ix ix_tup (pv 1) pe_int (fun _ _ => rfl)) (pe_ix ix_tup (pv 2) pe_int (fun _ _ => rfl))) pa_nil))))))) pss_nil)
    (pss_one (ps_ret (pe_op op_mod (pe_callTy call_int_ (by rfl) B.int_ (by decide +kernel) (pa_cons (pe_op op_add (pv 1) (pv 2)) pa_nil)) (pv 0))))), ?_⟩
    refine go_start (show _ = [some _, some _, some _] from rfl) ?_
    have m1 := mul_lt (a := 4000) (b := 4000) (c := 8000) sx.1 (show ((y.den : Int)).natAbs < 2 ^ 4000 from sy.2) (by decide)
    have m2 := mul_lt (a := 4000) (b := 4000) (c := 8000) sy.1 (show ((x.den : Int)).natAbs < 2 ^ 4000 from sx.2) (by decide)
    have e8 : (2 : Nat) ^ 8001 = 2 ^ 8000 * 2 := Nat.pow_succ ..
    have e9 : (2 : Nat) ^ 8002 = 2 ^ 8001 * 2 := Nat.pow_succ ..
    walk_at "go"
    rw [pR]
    walk_at "go"
    walk_at "if"
    · intro h1
      walk_at "go"
      walk_at "if"
      · intro h2
        walk_at "go"
        refine ⟨(by show 2 ≤ sizeLine; decide), fun p hp => ?_⟩
        have e : x + y = ((x.num + y.num : Int) : Rat) := by
          rw [Rat.intCast_add, ← whole_of (by omega : x.den = 1), ← whole_of (by omega : y.den = 1)]
        refine q _ _ (same_new hp) ?_
        show Rep _ _ (x + y)
        rw [e]
        exact int_rt rfl upd_same
      · intro h2
        walk_at "go"
        refine g_I (wide_mul (a := 4000) (b := 4000) sx.1 sy.2 (by decide) (by decide) (by decide)) ?_
        walk_at "go"
        refine g_I (wide_mul (a := 4000) (b := 4000) sy.1 sx.2 (by decide) (by decide) (by decide)) ?_
        walk_at "go"
        refine g_I (wide_mul (a := 4000) (b := 4000) sx.2 sy.2 (by decide) (by decide) (by decide)) ?_
        walk_at "go"
        refine ⟨_, _, rfl, Int.mul_ne_zero (den_nz x) (den_nz y), ?_, Nat.lt_of_lt_of_le (mul_lt (a := 4000) (b := 4000) (c := 8000) (show ((x.den : Int)).natAbs < 2 ^ 4000 from sx.2) (show ((y.den : Int)).natAbs < 2 ^ 4000 from sy.2) (by decide)) (Nat.pow_le_pow_right (by decide) (by decide)), ?_⟩
        · have := Int.natAbs_add_le (x.num * y.den) (y.num * x.den)
          omega
        · rw [rat_plus]
          exact q
    · intro h1
      walk_at "go"
      refine g_I (wide_mul (a := 4000) (b := 4000) sx.1 sy.2 (by decide) (by decide) (by decide)) ?_
      walk_at "go"
      refine g_I (wide_mul (a := 4000) (b := 4000) sy.1 sx.2 (by decide) (by decide) (by decide)) ?_
      walk_at "go"
      refine g_I (wide_mul (a := 4000) (b := 4000) sx.2 sy.2 (by decide) (by decide) (by decide)) ?_
      walk_at "go"
      refine ⟨_, _, rfl, Int.mul_ne_zero (den_nz x) (den_nz y), ?_, Nat.lt_of_lt_of_le (mul_lt (a := 4000) (b := 4000) (c := 8000) (show ((x.den : Int)).natAbs < 2 ^ 4000 from sx.2) (show ((y.den : Int)).natAbs < 2 ^ 4000 from sy.2) (by decide)) (Nat.pow_le_pow_right (by decide) (by decide)), ?_⟩
      · have := Int.natAbs_add_le (x.num * y.den) (y.num * x.den)
        omega
      · rw [rat_plus]
        exact q
theorem okQ_law_less (c__law_plus : C8.Cal P w K mg base 3 "_law_plus" (spL2 Rat fun x y => x + y) []) (F : C8.Fun K "_law_less" "_law_less" s__law_less f fd) (B : Bn mg) : FnOk P w K mg base C8.CX0 4 f fd ["_law_p", "_law_one", "_law_other"] (spL2 Rat fun x y => x - y) := by
  refine C8.fn0 F sc__law_less (fun vs H Q E h => ?_) (fun cdv A outer s H vs Q E hr h => ?_)
  · obtain ⟨a, b, x, y, rfl, _⟩ := h
    rfl
  · obtain ⟨va, _, x, y, rfl, rx, ry, bx, by', q⟩ := h
    obtain ⟨b, rfl, hb⟩ := rt_rep ▸ ry
    refine ⟨_, (pss_cons (ps_if (pt_cmpR op_eq (pv 0) pe_int (nomark _))
    ((pss_one (ps_ret (C8.pe_c c__law_plus hr (by decide) (by rfl) (pa_cons (pv 0) (pa_cons (pv 1) (pa_cons (pe_tup (pa_cons (pe_un un_neg (pe_ix ix_tup (pv 2) pe_int (fun _ _ => rfl))) (pa_cons (pe_ix ix_tup (pv 2) pe_int (fun _ _ => rfl)) pa_nil))) pa_nil))))))) pss_nil)
    (pss_one (ps_ret (pe_op op_mod (pe_callTy call_int_ (by rfl) B.int_ (by decide +kernel) (pa_cons (pe_op op_sub (pv 1) (pv 2)) pa_nil)) (pv 0))))), ?_⟩
    refine go_start (show _ = [some _, some _, some _] from rfl) ?_
    walk_at "go"
    rw [pR]
    walk_at "go"
    refine ⟨(by show 2 ≤ sizeLine; decide), fun p hp => ?_⟩
    have e := same_new (o := HO.tup [V.int (-y.num), V.int (y.den : Int)]) hp
    walk_at "go"
    refine ⟨va, .ref p, x, -y, rfl, rx.up e, rt_rep ▸ ⟨p, rfl, by rw [upd_same, Rat.neg_num, Rat.neg_den]⟩, bx, NumC.bd_neg by', fun v H' e' hv => q v H' (e.trans e') ?_⟩
    show Rep H' v (x - y)
    rw [Rat.sub_eq_add_neg]
    exact hv
section
variable {n : Nat} [NeZero n]
theorem okF_law_num (F : C8.Fun K "_law_num" "_law_num" s__law_num f fd) (B : Bn mg) : FnOk P w K mg base C8.CX0 1 f fd ["_law_p", "_law_many"] (spNum (Fin n)) := by
  refine C8.fn0 F sc__law_num (fun vs H Q E h => ?_) (fun cdv A outer s H vs Q E hr h => ?_)
  · obtain ⟨a, rfl, _⟩ := h
    rfl
  · obtain ⟨i, rfl, q⟩ := h
    refine ⟨_, (pss_cons (ps_if (pt_cmpR op_eq (pv 0) pe_int (nomark _))
    ((pss_one (ps_ret (pe_tup (pa_cons (pv 1) (pa_cons pe_int pa_nil)))))) pss_nil)
    (pss_one (ps_ret (pe_op op_mod (pe_callTy call_int_ (by rfl) B.int_ (by decide +kernel) (pa_cons (pv 1) pa_nil)) (pv 0))))), ?_⟩
    refine go_start (show _ = [some _, some _] from rfl) ?_
    walk_at "go"
    rw [pF0]
    walk_at "go"
    refine g_I (by rw [pF]; exact npos) ?_
    refine q _ _ (Same.refl _) (fin_rep.mpr ?_)
    rw [fin_of]
    rfl
theorem okF_law_times (hn : n ≤ 13) (c__law_ratio : C8.Cal P w K mg base 2 "_law_ratio" spLRatio []) (F : C8.Fun K "_law_times" "_law_times" s__law_times f fd) (B : Bn mg) : FnOk P w K mg base C8.CX0 3 f fd ["_law_p", "_law_one", "_law_other"] (spL2 (Fin n) fun x y => x * y) := by
  refine C8.fn0 F sc__law_times (fun vs H Q E h => ?_) (fun cdv A outer s H vs Q E hr h => ?_)
  · obtain ⟨a, b, x, y, rfl, _⟩ := h
    rfl
  · obtain ⟨_, _, x, y, rfl, rx, ry, bx, by', q⟩ := h
    rw [fin_rep] at rx ry
    subst rx ry
    have hx := x.isLt
    have hy := y.isLt
    refine ⟨_, (pss_cons (ps_if (pt_cmpR op_eq (pv 0) pe_int (nomark _))
    ((pss_cons (ps_if (PW.pt (pw_and (pt_cmpR op_eq (pe_ix ix_tup (pv 1) pe_int (fun _ _ => rfl)) pe_int (nomark _)) (pw_and1 (pt_cmpR op_eq (pe_ix ix_tup (pv 2) pe_int (fun _ _ => rfl)) pe_int (nomark _)))))
    ((pss_one (ps_ret (pe_tup (pa_cons (pe_op op_mulW (pe_ix ix_tup (pv 1) pe_int (fun _ _ => rfl)) (pe_ix ix_tup (pv 2) pe_int (fun _ _ => rfl))) (pa_cons pe_int pa_nil)))))) pss_nil)
    (pss_one (ps_ret (C8.pe_c c__law_ratio hr (by decide) (by rfl) (pa_cons (pe_op op_mulW (pe_ix ix_tup (pv 1) pe_int (fun _ _ => rfl)) (pe_ix ix_tup (pv 2) pe_int (fun _ _ => rfl))) (pa_cons (pe_op op_mulW (pe_ix ix_tup (pv 1) pe_int (fun _ _ => rfl)) (pe_ix ix_tup (pv 2) pe_int (fun _ _ => rfl))) pa_nil))))))) pss_nil)
    (pss_one (ps_ret (pe_op op_mod (pe_callTy call_int_ (by rfl) B.int_ (by decide +kernel) (pa_cons (pe_op op_mulW (pv 1) (pv 2)) pa_nil)) (pv 0))))), ?_⟩
    refine go_start (show _ = [some _, some _, some _] from rfl) ?_
    walk_at "go"
    rw [pF0]
    walk_at "go"
    refine g_I (wide_mul (a := 64) (b := 64) (by omega) (by omega) (by decide) (by decide) (by decide)) ?_
    walk_at "go"
    refine g_I (by rw [pF]; exact npos) ?_
    refine q _ _ (Same.refl _) (fin_rep.mpr ?_)
    rw [fin_mul]
    rfl
theorem okF_law_plus (c__law_ratio : C8.Cal P w K mg base 2 "_law_ratio" spLRatio []) (F : C8.Fun K "_law_plus" "_law_plus" s__law_plus f fd) (B : Bn mg) : FnOk P w K mg base C8.CX0 3 f fd ["_law_p", "_law_one", "_law_other"] (spL2 (Fin n) fun x y => x + y) := by
  refine C8.fn0 F sc__law_plus (fun vs H Q E h => ?_) (fun cdv A outer s H vs Q E hr h => ?_)
  · obtain ⟨a, b, x, y, rfl, _⟩ := h
    rfl
  · obtain ⟨_, _, x, y, rfl, rx, ry, bx, by', q⟩ := h
    rw [fin_rep] at rx ry
    subst rx ry
    refine ⟨_, (pss_cons (ps_if (pt_cmpR op_eq (pv 0) pe_int (nomark _))
    ((pss_cons (ps_if (PW.pt (pw_and (pt_cmpR op_eq (pe_ix ix_tup (pv 1) pe_int (fun _ _ => rfl)) pe_int (nomark _)) (pw_and1 (pt_cmpR op_eq (pe_ix ix_tup (pv 2) pe_int (fun _ _ => rfl)) pe_int (nomark _)))))
    ((pss_one (ps_ret (pe_tup (pa_cons (pe_op op_add (pe_ix ix_tup (pv 1) pe_int (fun _ _ => rfl)) (pe_ix ix_tup (pv 2) pe_int (fun _ _ => rfl))) (pa_cons pe_int pa_nil)))))) pss_nil)
    (pss_one (ps_ret (C8.pe_c c__law_ratio hr (by decide) (by rfl) (pa_cons (pe_op op_add (pe_op op_mulW (pe_ix ix_tup (pv 1) pe_int (fun _ _ => rfl)) (pe_ix ix_tup (pv 2) pe_int (fun _ _ => rfl))) (pe_op op_mulW (pe_ix ix_tup (pv 2) pe_int (fun _ _ => rfl)) (pe_ix ix_tup (pv 1) pe_int (fun _ _ => rfl)))) (pa_cons (pe_op op_mulW (pe_ix ix_tup (pv 1) pe_int (fun _ _ => rfl)) (pe_ix ix_tup (pv 2) pe_int (fun _ _ => rfl))) pa_nil))))))) pss_nil)
    (pss_one (ps_ret (pe_op op_mod (pe_callTy call_int_ (by rfl) B.int_ (by decide +kernel) (pa_cons (pe_op op_add (pv 1) (pv 2)) pa_nil)) (pv 0))))), ?_⟩
    refine go_start (show _ = [some _, some _, some _] from rfl) ?_
    walk_at "go"
    rw [pF0]
    walk_at "go"
    refine g_I (by rw [pF]; exact npos) ?_
    refine q _ _ (Same.refl _) (fin_rep.mpr ?_)
    rw [fin_add]
    rfl
theorem okF_law_less (c__law_plus : C8.Cal P w K mg base 3 "_law_plus" (spL2 (Fin n) fun x y => x + y) []) (F : C8.Fun K "_law_less" "_law_less" s__law_less f fd) (B : Bn mg) : FnOk P w K mg base C8.CX0 4 f fd ["_law_p", "_law_one", "_law_other"] (spL2 (Fin n) fun x y => x - y) := by
  refine C8.fn0 F sc__law_less (fun vs H Q E h => ?_) (fun cdv A outer s H vs Q E hr h => ?_)
  · obtain ⟨a, b, x, y, rfl, _⟩ := h
    rfl
  · obtain ⟨_, _, x, y, rfl, rx, ry, bx, by', q⟩ := h
    rw [fin_rep] at rx ry
    subst rx ry
    refine ⟨_, (pss_cons (ps_if (pt_cmpR op_eq (pv 0) pe_int (nomark _))
    ((pss_one (ps_ret (C8.pe_c c__law_plus hr (by decide) (by rfl) (pa_cons (pv 0) (pa_cons (pv 1) (pa_cons (pe_tup (pa_cons (pe_un un_neg (pe_ix ix_tup (pv 2) pe_int (fun _ _ => rfl))) (pa_cons (pe_ix ix_tup (pv 2) pe_int (fun _ _ => rfl)) pa_nil))) pa_nil))))))) pss_nil)
    (pss_one (ps_ret (pe_op op_mod (pe_callTy call_int_ (by rfl) B.int_ (by decide +kernel) (pa_cons (pe_op op_sub (pv 1) (pv 2)) pa_nil)) (pv 0))))), ?_⟩
    refine go_start (show _ = [some _, some _, some _] from rfl) ?_
    walk_at "go"
    rw [pF0]
    walk_at "go"
    refine g_I (by rw [pF]; exact npos) ?_
    refine q _ _ (Same.refl _) (fin_rep.mpr ?_)
    rw [fin_sub]
    rfl
end
variable {R : Type} [NumC R]
def spZero (R : Type) [NumC R] : Sp := fun vs H Q _ => ∃ (a : V) (x : R), vs = [.int (NumC.p R : Nat), a] ∧ Rep H a x ∧ ∀ H', Same H H' → Q (.bl (decide (x = 0))) H'
theorem ok_law_zero (c__law_num : C8.Cal P w K mg base 1 "_law_num" (spNum R) []) (F : C8.Fun K "_law_zero" "_law_zero" s__law_zero f fd) : FnOk P w K mg base C8.CX0 2 f fd ["_law_p", "_law_one"] (spZero R) := by
  refine C8.fn0 F sc__law_zero (fun vs H Q E h => ?_) (fun cdv A outer s H vs Q E hr h => ?_)
  · obtain ⟨a, x, rfl, _⟩ := h
    rfl
  · obtain ⟨a, x, rfl, rx, q⟩ := h
    refine ⟨_, (pss_one (ps_ret (pe_cmpR (op_eqD hr.units) (pv 1) (C8.pe_c c__law_num hr (by decide) (by rfl) (pa_cons (pv 0) (pa_cons pe_int pa_nil))) (nomark _)))), ?_⟩
    refine go_start (show _ = [some _, some _] from rfl) ?_
    walk_at "go"
    refine ⟨0, rfl, fun v H1 e1 hv => ?_⟩
    rw [NumC.of_0] at hv
    exact g_eqR (rx.up e1) hv (q _ e1)
end
end Kw
set_option maxHeartbeats 4000000
namespace Kw
open PySem PySem.Spec PyProof.Rows L2 RT
local macro_rules | `(tactic| walk_at "step") => `(tactic| with_reducible first
  | refine g_op ?_ | refine g_c ?_ | refine g_test ?_ | refine g_bl ?_ | refine g_seq ?_ | refine g_ifS ?_ | refine g_cons ?_ | refine g_nil ?_ | refine g_I0 ?_ | refine g_asg ?_ | refine g_name ?_
  | refine g_ret ?_ | refine g_nx ?_ | refine g_cb ?_ | refine g_call ?_ | refine g_un ?_ | refine g_rU ?_ | refine g_B ?_ | refine g_and ?_ | refine g_or ?_ | refine g_not ?_ | refine g_andV ?_ | refine g_orV ?_
  | refine g_notV ?_ | refine g_ifE ?_ | refine g_drop ?_ | refine g_par ?_ | refine g_two ?_ | refine g_abs ?_ | refine g_mx ?_ | refine g_int ?_ | refine g_tup ?_ | refine g_lst ?_ | refine g_chain ?_
  | refine g_sl ?_ | refine g_nopart ?_ | refine g_part ?_ | refine g_partI ?_ | refine g_bm ?_ | refine g_sub ?_ | refine g_ip ?_ | refine g_make ?_ | refine g_forR1 ?_ | refine g_forR2 ?_ | refine g_forR3 ?_ | refine g_forL ?_ | refine g_forT ?_ | refine g_forV ?_ | refine g_forVR ?_ | refine g_forE ?_ | refine g_lcL ?_ | refine g_lcT ?_ | refine g_lcR1 ?_ | refine g_lcR2 ?_ | refine g_fld ?_ | refine g_meth ?_ | refine ite_t ?_ | refine ite_nt ?_ | refine ite_nf ?_ | refine g_eqi ?_ | refine g_nei ?_ | refine ite_f ?_ | refine g_isN_n ?_ | refine g_isN_i ?_ | refine g_isN_r ?_ | refine g_notN_n ?_ | refine g_notN_i ?_ | refine g_notN_r ?_ | refine g_isi_ib ?_ | refine g_isi_ii ?_ | refine g_isi_it ?_ | refine g_isi_nt ?_)
local macro_rules | `(tactic| walk_at "var") => `(tactic| ((with_reducible refine' g_var ?hvar ?_); (case hvar => rfl)))
local macro_rules | `(tactic| walk_at "fact") => `(tactic| first
  | ((with_reducible refine' g_ixT ?hfact ?hat ?_); (case hfact => assumption); (case hat => rfl))
  | ((with_reducible refine' g_ixL ?hfact ?hat ?_); (case hfact => assumption); (case hat => rfl)))
local macro_rules | `(tactic| walk_at "fact1") => `(tactic| first
  | ((with_reducible refine' g_lenT ?hfact ?_); (case hfact => assumption))
  | ((with_reducible refine' g_lenL ?hfact ?_); (case hfact => assumption))
  | ((with_reducible refine' g_isi_tt ?hfact ?_); (case hfact => assumption)))
local macro_rules | `(tactic| walk_at "go") => `(tactic| repeat (first | walk_at "step" | walk_at "var" | walk_at "fact" | walk_at "fact1"))
local macro_rules | `(tactic| walk_at "if") => `(tactic| with_reducible first | refine ite_d ?_ ?_ | refine ite_n ?_ ?_ | refine ite_b ?_ ?_)
local macro_rules | `(tactic| walk_at "prime") => `(tactic| refine fig_prime (by assumption) (by assumption) ?_)
local macro_rules | `(tactic| walk_at "zero") => `(tactic| refine fig_zero (by assumption) (by assumption) ?_)
local macro_rules | `(tactic| walk_at "one") => `(tactic| refine fig_one (by assumption) (by assumption) ?_)
local macro_rules | `(tactic| walk_at "meth") => `(tactic| refine fig_meth (by assumption) (by decide +kernel) ?_)
abbrev s__law_figures : Stmt := topS 58
theorem sc__law_figures : FnScope ["_law_hand_here"] ["_law_hand_here"] (C8.fnScope s__law_figures) := C8.fnScope_by (by decide +kernel)
abbrev s__law_number : Stmt := topS 59
theorem sc__law_number : FnScope ["_law_hand_here", "_law_p", "_law_top"] ["_law_hand_here", "_law_p"] (C8.fnScope s__law_number) := C8.fnScope_by (by decide +kernel)
abbrev s__law_unlike : Stmt := topS 60
theorem sc__law_unlike : FnScope ["_law_hand_here", "_law_p", "_law_top"] ["_law_hand_here", "_law_p"] (C8.fnScope s__law_unlike) := C8.fnScope_by (by decide +kernel)
abbrev s__law_numbers : Stmt := topS 61
theorem sc__law_numbers : FnScope ["_law_hand_here", "_law_p", "_law_many", "_law_k"] ["_law_hand_here", "_law_p", "_law_many"] (C8.fnScope s__law_numbers) := C8.fnScope_by (by decide +kernel)
abbrev s__law_list : Stmt := topS 62
theorem sc__law_list : FnScope ["_law_hand_here", "_law_items"] ["_law_hand_here", "_law_items"] (C8.fnScope s__law_list) := C8.fnScope_by (by decide +kernel)
abbrev s__law_none : Stmt := topS 64
theorem sc__law_none : FnScope ["_law_p"] ["_law_p"] (C8.fnScope s__law_none) := C8.fnScope_by (by decide +kernel)
theorem lc_freeR {K : PySem.W.Frag} {σ : L2.St} {g : TG} {tt : TT} {te : TE} {vs : List Nat} {Q : VK} {D : Addr} {H1 : Hp} {lo : Int} {n : Nat} (S : Nat → Hp → Prop) (h0 : S 0 (upd H1 D (.lst [])))
    (hs : ∀ (i : Nat) Hc, i < n → S i Hc → g (.int (lo + (i : Nat))) (wipe σ vs) Hc fun σ2 H2 => wipe σ2 vs = wipe σ vs ∧ tt σ2 H2 fun b H3 =>
      if b = true then te σ2 H3 fun y H4 => ∃ acc, H4 D = some (.lst acc) ∧ acc.length < sizeLine ∧ S (i + 1) (upd H4 D (.lst (acc ++ [y]))) else S (i + 1) H3)
    (hd : ∀ H', S n H' → Q (.ref D) H') : Lc (Itr lo n) g tt te vs D σ H1 Q := by
  refine ⟨fun i m Hc => m = n - i ∧ i ≤ n ∧ S i Hc, ⟨n, by omega, Nat.zero_le _, h0⟩, ?_⟩
  rintro i m Hc ⟨rfl, hi, hq⟩
  by_cases hlt : i < n
  · refine .inr ⟨hlt, fun H' => S (i + 1) H', fun H' p => ⟨n - (i + 1), by omega, rfl, hlt, p⟩, fun x H' yl => ?_⟩
    obtain ⟨rfl, rfl⟩ := yl
    exact hs i _ hlt hq
  · have e : i = n := by omega
    subst e
    exact .inl ⟨Nat.le_refl _, hd Hc hq⟩
section
variable {P : Program} {w : World} {K : PySem.W.Frag} {mg : Str → Option Value} {base : Heap} {f : Addr} {fd : FuncData}
def spFigs : Sp := fun vs H Q _ => ∃ (h cl : Addr), vs = [.ref h] ∧ HandAt H h cl ∧ ∀ (p : Int) H', p ∈ knownP → Kept h H H' → HandAt H' h cl → Q (.int p) H'
theorem Kept.lift {h : Addr} {H H1 H2 : Hp} (e : Same H H1) (k : Kept h H1 H2) : Kept h H H2 := (Same.kept e).trans k
theorem ok_law_figures (c__law_take : C8.Cal P w K mg base 2 "_law_take" spTake []) (F : C8.Fun K "_law_figures" "_law_figures" s__law_figures f fd) : FnOk P w K mg base C8.CX0 3 f fd ["_law_hand_here"] spFigs := by
  refine C8.fn0 F sc__law_figures (fun vs H Q E h => ?_) (fun cdv A outer s H vs Q E hr h => ?_)
  · obtain ⟨a, c, rfl, _⟩ := h
    rfl
  · obtain ⟨h, cl, rfl, hh, q⟩ := h
    refine ⟨_, (pss_one (ps_ret (pe_ix ix_tup (pe_tup (pa_cons pe_int (pa_cons pe_int (pa_cons pe_int (pa_cons pe_int (pa_cons pe_int (pa_cons pe_int (pa_cons pe_int (pa_cons pe_int (pa_cons pe_int (pa_cons pe_int (pa_cons pe_int (pa_cons pe_int pa_nil))))))))))))) (C8.pe_c c__law_take hr (by decide) (by rfl) (pa_cons (pv 0) (pa_cons pe_int pa_nil))) (fun _ _ => rfl)))), ?_⟩
    refine go_start (show _ = [some _] from rfl) ?_
    walk_at "go"
    refine ⟨(by show 12 ≤ sizeLine; decide), fun p hp => ?_⟩
    have e1 := same_new (o := HO.tup [V.int 0, V.int 5, V.int 3, V.int 7, V.int 0, V.int 5, V.int 2, V.int 13, V.int 5, V.int 3, V.int 0, V.int 11]) hp
    have hph := (hh.ne hp).1
    walk_at "go"
    refine ⟨h, cl, 12, rfl, hh.up e1, by decide, by decide, fun k H2 k0 k1 kk h2 => ?_⟩
    have hp2 := kk p _ hph upd_same
    have kt := Kept.lift e1 kk
    have hk : k = 0 ∨ k = 1 ∨ k = 2 ∨ k = 3 ∨ k = 4 ∨ k = 5 ∨ k = 6 ∨ k = 7 ∨ k = 8 ∨ k = 9 ∨ k = 10 ∨ k = 11 := by omega
    rcases hk with rfl | rfl | rfl | rfl | rfl | rfl | rfl | rfl | rfl | rfl | rfl | rfl <;> exact g_ixT hp2 rfl (q _ _ (by decide) kt h2)
/-! ### drawn numbers -/
def spDraw (R : Type) [NumC R] (C : R → Prop) : Sp := fun vs H Q _ => ∃ (h cl : Addr), vs = [.ref h, .int (NumC.p R : Nat)] ∧ HandAt H h cl ∧ ∀ v (x : R) H', Rep H' v x → NumC.Bd 1 x → C x → Kept h H H' → HandAt H' h cl → Q v H'
theorem small_bd {a b : Int} (h1 : -3 ≤ a) (h2 : a ≤ 3) (hb : b = 1 ∨ b = 2 ∨ b = 3) : NumC.Bd 1 (Rat.divInt a b) := by
  have key : ∀ c : Int, b * c = 6 → (c.natAbs ≤ 6) → BdQ 1 (Rat.divInt a b) := by
    intro c hbc hc
    refine ⟨a * c, ?_, ?_⟩
    · have e : ((b : Rat)) * (c : Rat) = 6 := by
        have := congrArg (fun i : Int => (i : Rat)) hbc
        simp only [Rat.intCast_mul] at this
        exact this
      have hb0 : (b : Rat) ≠ 0 := by
        intro z
        rw [z] at e
        grind
      rw [Rat.divInt_eq_div, Rat.intCast_mul]
      grind
    · rw [Int.natAbs_mul]
      have : a.natAbs * c.natAbs ≤ 3 * 6 := Nat.mul_le_mul (by omega) hc
      exact Nat.le_trans this (by decide)
  rcases hb with rfl | rfl | rfl
  · exact key 6 (by decide) (by decide)
  · exact key 3 (by decide) (by decide)
  · exact key 2 (by decide) (by decide)
theorem small_pow {i : Int} (h : i.natAbs < 2 ^ 8) : i.natAbs < 2 ^ 8002 := Nat.lt_of_lt_of_le h (Nat.pow_le_pow_right (by decide) (by decide))
theorem okQ_law_number (c__law_take : C8.Cal P w K mg base 2 "_law_take" spTake []) (c__law_ratio : C8.Cal P w K mg base 2 "_law_ratio" spLRatio []) (F : C8.Fun K "_law_number" "_law_number" s__law_number f fd) :
    FnOk P w K mg base C8.CX0 3 f fd ["_law_hand_here", "_law_p"] (spDraw Rat fun _ => True) := by
  refine C8.fn0 F sc__law_number (fun vs H Q E h => ?_) (fun cdv A outer s H vs Q E hr h => ?_)
  · obtain ⟨a, c, rfl, _⟩ := h
    rfl
  · obtain ⟨h, cl, rfl, hh, q⟩ := h
    refine ⟨_, (pss_cons (ps_if (pt_cmpR op_gt (pv 1) pe_int (nomark _))
    ((pss_one (ps_ret (C8.pe_c c__law_take hr (by decide) (by rfl) (pa_cons (pv 0) (pa_cons (pv 1) pa_nil)))))) pss_nil)
    (pss_cons (ps_set (i := 2) sc__law_number.nd rfl (by first | exact .inl rfl | exact .inr rfl) (pe_op op_sub (C8.pe_c c__law_take hr (by decide) (by rfl) (pa_cons (pv 0) (pa_cons pe_int pa_nil))) pe_int))
    (pss_cons (ps_if (pt_cmpR op_eq (C8.pe_c c__law_take hr (by decide) (by rfl) (pa_cons (pv 0) (pa_cons pe_int pa_nil))) pe_int (nomark _))
    ((pss_one (ps_ret (C8.pe_c c__law_ratio hr (by decide) (by rfl) (pa_cons (pv 2) (pa_cons (pe_op op_add pe_int (C8.pe_c c__law_take hr (by decide) (by rfl) (pa_cons (pv 0) (pa_cons pe_int pa_nil)))) pa_nil)))))) pss_nil)
    (pss_one (ps_ret (pe_tup (pa_cons (pv 2) (pa_cons pe_int pa_nil)))))))), ?_⟩
    refine go_start (show _ = [some _, some _, none] from rfl) ?_
    walk_at "go"
    rw [show decide (((NumC.p Rat : Nat) : Int) > 0) = false from rfl]
    walk_at "go"
    refine ⟨h, cl, 7, rfl, hh, by decide, by decide, fun k H1 k0 k1 kk h1 => ?_⟩
    walk_at "go"
    refine ⟨h, cl, 4, rfl, h1, by decide, by decide, fun k2 H2 k20 k21 kk2 h2 => ?_⟩
    walk_at "go"
    walk_at "if"
    · intro hz
      walk_at "go"
      refine ⟨h, cl, 2, rfl, h2, by decide, by decide, fun k3 H3 k30 k31 kk3 h3 => ?_⟩
      walk_at "go"
      refine ⟨k - 3, 2 + k3, rfl, by omega, small_pow (by omega), small_pow (by omega), fun v H4 e4 hv => ?_⟩
      exact q v _ H4 (rt_rep ▸ hv) (small_bd (by omega) (by omega) (by omega)) trivial (kk.trans (kk2.trans (kk3.trans (Same.kept e4)))) (h3.up e4)
    · intro hz
      walk_at "go"
      refine ⟨(by show 2 ≤ sizeLine; decide), fun p hp => ?_⟩
      have e4 := same_new (o := HO.tup [V.int (k - 3), V.int 1]) hp
      refine q _ _ _ (int_rt rfl upd_same) ?_ trivial (kk.trans (kk2.trans (Same.kept e4))) (h2.up e4)
      have := small_bd (a := k - 3) (b := 1) (by omega) (by omega) (.inl rfl)
      have e : Rat.divInt (k - 3) 1 = ((k - 3 : Int) : Rat) := by
        rw [Rat.divInt_eq_div]
        have : ((1 : Int) : Rat) = 1 := rfl
        rw [this]
        grind
      rw [e] at this
      exact this
theorem okQ_law_unlike (B : Bn mg) (c__law_take : C8.Cal P w K mg base 2 "_law_take" spTake []) (c__law_ratio : C8.Cal P w K mg base 2 "_law_ratio" spLRatio []) (F : C8.Fun K "_law_unlike" "_law_unlike" s__law_unlike f fd) :
    FnOk P w K mg base C8.CX0 3 f fd ["_law_hand_here", "_law_p"] (spDraw Rat fun x => x ≠ 0) := by
  refine C8.fn0 F sc__law_unlike (fun vs H Q E h => ?_) (fun cdv A outer s H vs Q E hr h => ?_)
  · obtain ⟨a, c, rfl, _⟩ := h
    rfl
  · obtain ⟨h, cl, rfl, hh, q⟩ := h
    refine ⟨_, (pss_cons (ps_if (pt_cmpR op_gt (pv 1) pe_int (nomark _))
    ((pss_one (ps_ret (pe_ifExp (pt_cmpR op_gt (pv 1) pe_int (nomark _)) (pe_op op_add pe_int (C8.pe_c c__law_take hr (by decide) (by rfl) (pa_cons (pv 0) (pa_cons (pe_op op_sub (pv 1) pe_int) pa_nil)))) pe_int)))) pss_nil)
    (pss_cons (ps_set (i := 2) sc__law_unlike.nd rfl (by first | exact .inl rfl | exact .inr rfl) (pe_op op_add pe_int (C8.pe_c c__law_take hr (by decide) (by rfl) (pa_cons (pv 0) (pa_cons pe_int pa_nil)))))
    (pss_cons (ps_if (pt_cmpR op_eq (C8.pe_c c__law_take hr (by decide) (by rfl) (pa_cons (pv 0) (pa_cons pe_int pa_nil))) pe_int (nomark _))
    ((pss_one (ps_set (i := 2) sc__law_unlike.nd rfl (by first | exact .inl rfl | exact .inr rfl) (pe_un un_neg (pv 2))))) pss_nil)
    (pss_one (ps_ret (C8.pe_c c__law_ratio hr (by decide) (by rfl) (pa_cons (pv 2) (pa_cons (pe_op op_add pe_int (pe_callTy call_int_ (by rfl) B.int_ (by decide +kernel) (pa_cons (pe_cmpR op_eq (C8.pe_c c__law_take hr (by decide) (by rfl) (pa_cons (pv 0) (pa_cons pe_int pa_nil))) pe_int (nomark _)) pa_nil))) pa_nil)))))))), ?_⟩
    refine go_start (show _ = [some _, some _, none] from rfl) ?_
    have nz : ∀ a b : Int, a ≠ 0 → b ≠ 0 → Rat.divInt a b ≠ 0 := by
      intro a b ha hb z
      have h := divInt_val (t := a) hb
      rw [z] at h
      have h0 : ((a : Int) : Rat) = ((0 : Int) : Rat) := by
        rw [← h]
        show (b : Rat) * 0 = 0
        grind
      exact ha (Rat.intCast_inj.mp h0)
    walk_at "go"
    rw [show decide (((NumC.p Rat : Nat) : Int) > 0) = false from rfl]
    walk_at "go"
    refine ⟨h, cl, 3, rfl, hh, by decide, by decide, fun k H1 k0 k1 kk h1 => ?_⟩
    walk_at "go"
    refine ⟨h, cl, 2, rfl, h1, by decide, by decide, fun k2 H2 k20 k21 kk2 h2 => ?_⟩
    walk_at "go"
    walk_at "if"
    · intro hz
      walk_at "go"
      refine ⟨h, cl, 4, rfl, h2, by decide, by decide, fun k3 H3 k30 k31 kk3 h3 => ?_⟩
      walk_at "go"
      refine g_intb ?_
      walk_at "go"
      by_cases h0 : k3 = 0
      · rw [decide_eq_true h0]
        refine ⟨-(1 + k), 1 + 1, rfl, by decide, small_pow (by omega), small_pow (by decide), fun v H4 e4 hv => ?_⟩
        exact q v _ H4 (rt_rep ▸ hv) (small_bd (by omega) (by omega) (.inr (.inl rfl))) (nz _ _ (by omega) (by decide)) (kk.trans (kk2.trans (kk3.trans (Same.kept e4)))) (h3.up e4)
      · rw [decide_eq_false h0]
        refine ⟨-(1 + k), 1 + 0, rfl, by decide, small_pow (by omega), small_pow (by decide), fun v H4 e4 hv => ?_⟩
        exact q v _ H4 (rt_rep ▸ hv) (small_bd (by omega) (by omega) (.inl rfl)) (nz _ _ (by omega) (by decide)) (kk.trans (kk2.trans (kk3.trans (Same.kept e4)))) (h3.up e4)
    · intro hz
      walk_at "go"
      refine ⟨h, cl, 4, rfl, h2, by decide, by decide, fun k3 H3 k30 k31 kk3 h3 => ?_⟩
      walk_at "go"
      refine g_intb ?_
      walk_at "go"
      by_cases h0 : k3 = 0
      · rw [decide_eq_true h0]
        refine ⟨1 + k, 1 + 1, rfl, by decide, small_pow (by omega), small_pow (by decide), fun v H4 e4 hv => ?_⟩
        exact q v _ H4 (rt_rep ▸ hv) (small_bd (by omega) (by omega) (.inr (.inl rfl))) (nz _ _ (by omega) (by decide)) (kk.trans (kk2.trans (kk3.trans (Same.kept e4)))) (h3.up e4)
      · rw [decide_eq_false h0]
        refine ⟨1 + k, 1 + 0, rfl, by decide, small_pow (by omega), small_pow (by decide), fun v H4 e4 hv => ?_⟩
        exact q v _ H4 (rt_rep ▸ hv) (small_bd (by omega) (by omega) (.inl rfl)) (nz _ _ (by omega) (by decide)) (kk.trans (kk2.trans (kk3.trans (Same.kept e4)))) (h3.up e4)
section
variable {n : Nat} [NeZero n]
theorem pFpos : decide (((NumC.p (Fin n) : Nat) : Int) > 0) = true := decide_eq_true (by rw [pF]; exact npos)
theorem okF_law_number (hn : n ≤ 13) (c__law_take : C8.Cal P w K mg base 2 "_law_take" spTake []) (c__law_ratio : C8.Cal P w K mg base 2 "_law_ratio" spLRatio []) (F : C8.Fun K "_law_number" "_law_number" s__law_number f fd) :
    FnOk P w K mg base C8.CX0 3 f fd ["_law_hand_here", "_law_p"] (spDraw (Fin n) fun _ => True) := by
  refine C8.fn0 F sc__law_number (fun vs H Q E h => ?_) (fun cdv A outer s H vs Q E hr h => ?_)
  · obtain ⟨a, c, rfl, _⟩ := h
    rfl
  · obtain ⟨h, cl, rfl, hh, q⟩ := h
    have hp0 := npos (n := n)
    refine ⟨_, (pss_cons (ps_if (pt_cmpR op_gt (pv 1) pe_int (nomark _))
    ((pss_one (ps_ret (C8.pe_c c__law_take hr (by decide) (by rfl) (pa_cons (pv 0) (pa_cons (pv 1) pa_nil)))))) pss_nil)
    (pss_cons (ps_set (i := 2) sc__law_number.nd rfl (by first | exact .inl rfl | exact .inr rfl) (pe_op op_sub (C8.pe_c c__law_take hr (by decide) (by rfl) (pa_cons (pv 0) (pa_cons pe_int pa_nil))) pe_int))
    (pss_cons (ps_if (pt_cmpR op_eq (C8.pe_c c__law_take hr (by decide) (by rfl) (pa_cons (pv 0) (pa_cons pe_int pa_nil))) pe_int (nomark _))
    ((pss_one (ps_ret (C8.pe_c c__law_ratio hr (by decide) (by rfl) (pa_cons (pv 2) (pa_cons (pe_op op_add pe_int (C8.pe_c c__law_take hr (by decide) (by rfl) (pa_cons (pv 0) (pa_cons pe_int pa_nil)))) pa_nil)))))) pss_nil)
    (pss_one (ps_ret (pe_tup (pa_cons (pv 2) (pa_cons pe_int pa_nil)))))))), ?_⟩
    refine go_start (show _ = [some _, some _, none] from rfl) ?_
    walk_at "go"
    rw [pFpos]
    walk_at "go"
    refine ⟨h, cl, _, rfl, hh, by rw [pF]; omega, by rw [pF]; omega, fun k H1 k0 k1 kk h1 => ?_⟩
    rw [pF] at k1
    exact q _ ⟨k.toNat, by omega⟩ _ (fin_rep.mpr (by show V.int k = V.int _; congr 1; show k = ((k.toNat : Nat) : Int); omega)) trivial trivial kk h1
theorem okF_law_unlike (B : Bn mg) (h2 : 2 ≤ n) (hn : n ≤ 13) (c__law_take : C8.Cal P w K mg base 2 "_law_take" spTake []) (c__law_ratio : C8.Cal P w K mg base 2 "_law_ratio" spLRatio []) (F : C8.Fun K "_law_unlike" "_law_unlike" s__law_unlike f fd) :
    FnOk P w K mg base C8.CX0 3 f fd ["_law_hand_here", "_law_p"] (spDraw (Fin n) fun x => x ≠ 0) := by
  refine C8.fn0 F sc__law_unlike (fun vs H Q E h => ?_) (fun cdv A outer s H vs Q E hr h => ?_)
  · obtain ⟨a, c, rfl, _⟩ := h
    rfl
  · obtain ⟨h, cl, rfl, hh, q⟩ := h
    have hp0 := npos (n := n)
    have fin : ∀ (k : Int) H1, 1 ≤ k → k < n → Kept h H H1 → HandAt H1 h cl → Q (.int k) H1 := by
      intro k H1 k1 k2 kk h1
      refine q _ ⟨k.toNat, by omega⟩ _ (fin_rep.mpr (by show V.int k = V.int _; congr 1; show k = ((k.toNat : Nat) : Int); omega)) trivial (fun z => ?_) kk h1
      have := congrArg Fin.val z
      have e0 : (0 : Fin n).val = 0 := rfl
      rw [e0] at this
      have e1 : k.toNat = 0 := this
      omega
    refine ⟨_, (pss_cons (ps_if (pt_cmpR op_gt (pv 1) pe_int (nomark _))
    ((pss_one (ps_ret (pe_ifExp (pt_cmpR op_gt (pv 1) pe_int (nomark _)) (pe_op op_add pe_int (C8.pe_c c__law_take hr (by decide) (by rfl) (pa_cons (pv 0) (pa_cons (pe_op op_sub (pv 1) pe_int) pa_nil)))) pe_int)))) pss_nil)
    (pss_cons (ps_set (i := 2) sc__law_unlike.nd rfl (by first | exact .inl rfl | exact .inr rfl) (pe_op op_add pe_int (C8.pe_c c__law_take hr (by decide) (by rfl) (pa_cons (pv 0) (pa_cons pe_int pa_nil)))))
    (pss_cons (ps_if (pt_cmpR op_eq (C8.pe_c c__law_take hr (by decide) (by rfl) (pa_cons (pv 0) (pa_cons pe_int pa_nil))) pe_int (nomark _))
    ((pss_one (ps_set (i := 2) sc__law_unlike.nd rfl (by first | exact .inl rfl | exact .inr rfl) (pe_un un_neg (pv 2))))) pss_nil)
    (pss_one (ps_ret (C8.pe_c c__law_ratio hr (by decide) (by rfl) (pa_cons (pv 2) (pa_cons (pe_op op_add pe_int (pe_callTy call_int_ (by rfl) B.int_ (by decide +kernel) (pa_cons (pe_cmpR op_eq (C8.pe_c c__law_take hr (by decide) (by rfl) (pa_cons (pv 0) (pa_cons pe_int pa_nil))) pe_int (nomark _)) pa_nil))) pa_nil)))))))), ?_⟩
    refine go_start (show _ = [some _, some _, none] from rfl) ?_
    walk_at "go"
    rw [pFpos]
    walk_at "go"
    walk_at "if"
    · intro h3
      rw [pF] at h3
      walk_at "go"
      refine ⟨h, cl, _, rfl, hh, by rw [pF]; omega, by rw [pF]; omega, fun k H1 k0 k1 kk h1 => ?_⟩
      rw [pF] at k1
      walk_at "go"
      exact fin (1 + k) _ (by omega) (by omega) kk h1
    · intro h3
      walk_at "go"
      exact fin 1 _ (by decide) (by omega) (Kept.refl _ _) hh
end
variable {R : Type} [NumC R]
def spNumbers (R : Type) [NumC R] : Sp := fun vs H Q _ => ∃ (h cl : Addr) (m : Nat), vs = [.ref h, .int (NumC.p R : Nat), .int m] ∧ HandAt H h cl ∧ m ≤ 20 ∧
  ∀ l us (xs : List R) H', H l = none → H' l = some (.lst us) → Reps H' us xs → xs.length = m → Bds 1 xs → Kept h H H' → HandAt H' h cl → Q (.ref l) H'
theorem ok_law_numbers (B : Bn mg) (c__law_number : C8.Cal P w K mg base 3 "_law_number" (spDraw R fun _ => True) []) (F : C8.Fun K "_law_numbers" "_law_numbers" s__law_numbers f fd) :
    FnOk P w K mg base C8.CX0 4 f fd ["_law_hand_here", "_law_p", "_law_many"] (spNumbers R) := by
  refine C8.fn0 F sc__law_numbers (fun vs H Q E h => ?_) (fun cdv A outer s H vs Q E hr h => ?_)
  · obtain ⟨a, c, m, rfl, _⟩ := h
    rfl
  · obtain ⟨h, cl, m, rfl, hh, hm, q⟩ := h
    refine ⟨_, (pss_one (ps_ret (pe_lc (own := [("_law_k", 3)]) rfl sc__law_numbers.nd (pi_range1 (by rfl) B.range_ (pa_cons (pv 2) pa_nil)) (blkOk_by (own := [("_law_k", 3)]) (N := ["_law_hand_here", "_law_p", "_law_many", "_law_k"]) (sc := C8.fnScope s__law_numbers) (by decide +kernel)) (fun _ _ _ _ _ => (pg_name (i := 3) sc__law_numbers.nd rfl (by first | exact .inl rfl | exact .inr rfl))) (fun _ _ _ _ _ => pts_nil) (fun _ _ _ _ _ => (C8.pe_c c__law_number hr (by decide) (by rfl) (pa_cons (pv 0) (pa_cons (pv 1) pa_nil))))))), ?_⟩
    refine go_start (show _ = [some _, some _, some _, none] from rfl) ?_
    walk_at "go"
    refine ⟨m, rfl, by omega, by omega, fun Dl hD => ?_⟩
    rw [Int.toNat_natCast]
    obtain ⟨hDh, hDc⟩ := hh.ne hD
    refine lc_freeR (K := K) (fun i Hc => ∃ (us : List V) (xs : List R), Hc Dl = some (.lst us) ∧ Reps Hc us xs ∧ xs.length = i ∧ Bds 1 xs ∧ Kept h H Hc ∧ HandAt Hc h cl) ⟨[], [], upd_same, .nil, rfl, (fun c hc => by cases hc), (Kept.refl h H).mut hD, hh.mut hDh hDc⟩ (fun i Hc hi hS => ?_) (fun H' hS => ?_)
    · obtain ⟨us, xs, hl, hr', hlen, hbd, hk, hhc⟩ := hS
      walk_at "go"
      refine ⟨rfl, g_yes (ite_t ?_)⟩
      walk_at "go"
      refine ⟨h, cl, rfl, hhc, fun v x H1 rx bx _ kk h1 => ?_⟩
      have im := hhc.im kk
      have hl1 := kk Dl _ hDh hl
      have im2 : Im H1 (upd H1 Dl (.lst (us ++ [v]))) := im_upd hl1
      refine ⟨us, hl1, small5' (by rw [hr'.len]; omega), us ++ [v], xs ++ [x], upd_same, Paired.snoc ((hr'.im im).im im2) (rx.im im2), by rw [List.length_append, hlen]; rfl, ?_, (hk.trans kk).mut hD, h1.mut hDh hDc⟩
      intro c hc
      rcases List.mem_append.mp hc with h | h
      · exact hbd c h
      · have : c = x := by simpa using h
        rw [this]
        exact bx
    · obtain ⟨us, xs, hl, hr', hlen, hbd, hk, hhc⟩ := hS
      exact q Dl us xs H' hD hl hr' hlen hbd hk hhc
def spList : Sp := fun vs H Q _ => ∃ (h cl l : Addr) (us : List V), vs = [.ref h, .ref l] ∧ HandAt H h cl ∧ H l = some (.lst us) ∧ l ≠ h ∧ ∀ a H', Seqv H' a us → Kept h H H' → HandAt H' h cl → Q (.ref a) H'
theorem ok_law_list (B : Bn mg) (c__law_take : C8.Cal P w K mg base 2 "_law_take" spTake []) (F : C8.Fun K "_law_list" "_law_list" s__law_list f fd) : FnOk P w K mg base C8.CX0 3 f fd ["_law_hand_here", "_law_items"] spList := by
  refine C8.fn0 F sc__law_list (fun vs H Q E h => ?_) (fun cdv A outer s H vs Q E hr h => ?_)
  · obtain ⟨a, c, l, us, rfl, _⟩ := h
    rfl
  · obtain ⟨h, cl, l, us, rfl, hh, hl, hlh, q⟩ := h
    refine ⟨_, (pss_one (ps_ret (pe_ifExp (pt_truth (C8.pe_c c__law_take hr (by decide) (by rfl) (pa_cons (pv 0) (pa_cons pe_int pa_nil))) (by intro _; rfl)) (pe_callTy call_list_of_ (by rfl) B.list_ (by decide +kernel) (pa_cons (pv 1) pa_nil)) (pe_callTy call_tuple_of_ (by rfl) B.tuple_ (by decide +kernel) (pa_cons (pv 1) pa_nil))))), ?_⟩
    refine go_start (show _ = [some _, some _] from rfl) ?_
    walk_at "go"
    refine ⟨h, cl, 2, rfl, hh, by decide, by decide, fun k H1 k0 k1 kk h1 => ?_⟩
    have hl1 := kk _ _ hlh hl
    have e01 : ∀ {o : HO} {p : Addr}, H1 p = none → Kept h H (upd H1 p o) := fun hp => kk.trans (Same.kept (same_new hp))
    refine ⟨k != 0, rfl, ?_⟩
    by_cases hz : k = 0
    · rw [show (k != 0) = false by rw [hz]; rfl]
      walk_at "go"
      exact g_tupOfL hl1 fun p hp => q p _ (.inr upd_same) (e01 hp) (h1.up (same_new hp))
    · rw [show (k != 0) = true by simp [hz]]
      walk_at "go"
      exact g_lstOfL hl1 fun p hp => q p _ (.inl upd_same) (e01 hp) (h1.up (same_new hp))
/-! ### none -/
def spNone (R : Type) [NumC R] : Sp := fun vs H Q _ => vs = [.int (NumC.p R : Nat)] ∧ Q (.int (badN R)) H
theorem okQ_law_none (F : C8.Fun K "_law_none" "_law_none" s__law_none f fd) : FnOk P w K mg base C8.CX0 1 f fd ["_law_p"] (spNone Rat) := by
  refine C8.fn0 F sc__law_none (fun vs H Q E h => ?_) (fun cdv A outer s H vs Q E hr h => ?_)
  · obtain ⟨rfl, _⟩ := h
    rfl
  · obtain ⟨rfl, q⟩ := h
    refine ⟨_, (pss_one (ps_ret (pe_ifExp (pt_cmpR op_gt (pv 0) pe_int (nomark _)) (pv 0) pe_int))), ?_⟩
    refine go_start (show _ = [some _] from rfl) ?_
    walk_at "go"
    rw [show decide (((NumC.p Rat : Nat) : Int) > 0) = false from rfl]
    walk_at "go"
    exact q
theorem okF_law_none {n : Nat} [NeZero n] (F : C8.Fun K "_law_none" "_law_none" s__law_none f fd) : FnOk P w K mg base C8.CX0 1 f fd ["_law_p"] (spNone (Fin n)) := by
  refine C8.fn0 F sc__law_none (fun vs H Q E h => ?_) (fun cdv A outer s H vs Q E hr h => ?_)
  · obtain ⟨rfl, _⟩ := h
    rfl
  · obtain ⟨rfl, q⟩ := h
    refine ⟨_, (pss_one (ps_ret (pe_ifExp (pt_cmpR op_gt (pv 0) pe_int (nomark _)) (pv 0) pe_int))), ?_⟩
    refine go_start (show _ = [some _] from rfl) ?_
    walk_at "go"
    rw [pFpos]
    walk_at "go"
    have e : badN (Fin n) = ((NumC.p (Fin n) : Nat) : Int) := if_neg (NeZero.ne n)
    rw [e] at q
    exact q
end
end Kw
/-! products of rows -/
namespace Kw
section
variable {R : Type} [NumC R]
/-- the number at k, 0 beyond -/
def co (f : List R) (k : Nat) : R := f.getD k 0
/-- the product's number at k -/
def cvc (F : Nat → R) : List R → Nat → R
  | [], _ => 0
  | b :: _, 0 => F 0 * b
  | b :: g, k + 1 => F (k + 1) * b + cvc F g k
def conv (f g : List R) : List R := (List.range (f.length + g.length - 1)).map fun k => cvc (co f) g k
theorem conv_len (f g : List R) : (conv f g).length = f.length + g.length - 1 := by simp [conv]
theorem conv_get {f g : List R} {k : Nat} (h : k < f.length + g.length - 1) : (conv f g)[k]? = some (cvc (co f) g k) := by
  unfold conv
  rw [List.getElem?_map, List.getElem?_range h]
  rfl
theorem co_get {f : List R} {k : Nat} {c : R} (h : f[k]? = some c) : co f k = c := by
  unfold co
  rw [List.getD_eq_getElem?_getD, h]
  rfl
theorem co_out {f : List R} {k : Nat} (h : f.length ≤ k) : co f k = 0 := by
  unfold co
  rw [List.getD_eq_getElem?_getD, List.getElem?_eq_none h]
  rfl
/-- the first i numbers alone, and at i the number x -/
def lowF (f : List R) (i : Nat) (k : Nat) : R := if k < i then co f k else 0
theorem cvc_zero (g : List R) (k : Nat) {F : Nat → R} (h : ∀ k, F k = 0) : cvc F g k = 0 := by
  induction g generalizing k with
  | nil => cases k <;> rfl
  | cons b g ih =>
    cases k with
    | zero =>
      show F 0 * b = 0
      rw [h]
      grind
    | succ k =>
      show F (k + 1) * b + cvc F g k = 0
      rw [h, ih]
      grind
theorem cvc_congr (g : List R) (k : Nat) {F G : Nat → R} (h : ∀ j, j ≤ k → F j = G j) : cvc F g k = cvc G g k := by
  induction g generalizing k with
  | nil => cases k <;> rfl
  | cons b g ih =>
    cases k with
    | zero =>
      show F 0 * b = G 0 * b
      rw [h 0 (Nat.le_refl _)]
    | succ k =>
      show F (k + 1) * b + cvc F g k = G (k + 1) * b + cvc G g k
      rw [h _ (Nat.le_refl _), ih k fun j hj => h j (by omega)]
/-- one number more in front -/
theorem cvc_step (g : List R) (i : Nat) (x : R) (k : Nat) {F G : Nat → R} (h1 : ∀ j, j ≠ i → G j = F j) (h2 : G i = F i + x) : cvc G g k = cvc F g k + (if i ≤ k then x * co g (k - i) else 0) := by
  induction g generalizing k with
  | nil =>
    have e : co ([] : List R) (k - i) = 0 := co_out (Nat.zero_le _)
    rw [e]
    cases k <;> (show (0 : R) = 0 + _; split <;> grind)
  | cons b g ih =>
    cases k with
    | zero =>
      show G 0 * b = F 0 * b + _
      by_cases c : i = 0
      · subst c
        rw [h2, if_pos (Nat.le_refl _)]
        show _ = F 0 * b + x * b
        grind
      · rw [h1 0 (fun z => c z.symm), if_neg (by omega)]
        grind
    | succ k =>
      show G (k + 1) * b + cvc G g k = F (k + 1) * b + cvc F g k + _
      rw [ih]
      by_cases c : i = k + 1
      · subst c
        rw [h2, if_neg (by omega), if_pos (Nat.le_refl _), Nat.sub_self]
        show _ = F (k + 1) * b + cvc F g k + x * b
        grind
      · rw [h1 (k + 1) (fun z => c z.symm)]
        by_cases c2 : i ≤ k
        · rw [if_pos c2, if_pos (by omega), show k + 1 - i = (k - i) + 1 by omega]
          show _ = F (k + 1) * b + cvc F g k + x * co g (k - i)
          grind
        · rw [if_neg c2, if_neg (by omega)]
          grind
theorem low_step {f : List R} {i : Nat} {c : R} (h : f[i]? = some c) (g : List R) (k : Nat) : cvc (lowF f (i + 1)) g k = cvc (lowF f i) g k + (if i ≤ k then c * co g (k - i) else 0) := by
  refine cvc_step g i c k (fun j hj => ?_) ?_
  · unfold lowF
    by_cases z : j < i
    · rw [if_pos z, if_pos (by omega)]
    · rw [if_neg z, if_neg (by omega)]
  · unfold lowF
    rw [if_pos (by omega), if_neg (by omega), co_get h]
    grind
theorem low_all (f : List R) (k : Nat) : lowF f f.length k = co f k := by
  unfold lowF
  split
  · rfl
  · exact (co_out (by omega)).symm
/-- the row behind i rows and j of the i-th -/
def parF (f g : List R) (i j : Nat) (k : Nat) : R := cvc (lowF f i) g k + (if i ≤ k ∧ k < i + j then co f i * co g (k - i) else 0)
def parL (f g : List R) (i j : Nat) : List R := (List.range (f.length + g.length - 1)).map (parF f g i j)
theorem parL_len (f g : List R) (i j : Nat) : (parL f g i j).length = f.length + g.length - 1 := by simp [parL]
theorem parL_get {f g : List R} {i j k : Nat} (h : k < f.length + g.length - 1) : (parL f g i j)[k]? = some (parF f g i j k) := by
  unfold parL
  rw [List.getElem?_map, List.getElem?_range h]
  rfl
theorem parL_0 (f g : List R) : parL f g 0 0 = List.replicate (f.length + g.length - 1) 0 := by
  refine List.ext_getElem? fun k => ?_
  by_cases h : k < f.length + g.length - 1
  · rw [parL_get h, List.getElem?_replicate, if_pos h]
    congr 1
    unfold parF
    rw [cvc_zero g k (fun j => by unfold lowF; rw [if_neg (by omega)]), if_neg (by omega)]
    grind
  · rw [List.getElem?_eq_none (by rw [parL_len]; omega), List.getElem?_eq_none (by simp; omega)]
theorem parL_turn {f g : List R} {i j : Nat} {a b : R} (ha : f[i]? = some a) (hb : g[j]? = some b) : (parL f g i j).set (i + j) (parF f g i j (i + j) + a * b) = parL f g i (j + 1) := by
  have hi := (List.getElem?_eq_some_iff.mp ha).1
  have hj := (List.getElem?_eq_some_iff.mp hb).1
  refine List.ext_getElem? fun k => ?_
  by_cases h : k < f.length + g.length - 1
  · rw [parL_get h]
    by_cases e : i + j = k
    · subst e
      rw [List.getElem?_set_self (by rw [parL_len]; omega)]
      congr 1
      unfold parF
      rw [if_neg (by omega), if_pos (by omega), co_get ha, show i + j - i = j by omega, co_get hb]
      grind
    · rw [List.getElem?_set_ne e, parL_get h]
      congr 1
      unfold parF
      by_cases c : i ≤ k ∧ k < i + j
      · rw [if_pos c, if_pos (by omega)]
      · rw [if_neg c, if_neg (by omega)]
  · rw [List.getElem?_eq_none (by rw [List.length_set, parL_len]; omega), List.getElem?_eq_none (by rw [parL_len]; omega)]
theorem parL_row {f g : List R} {i : Nat} (hi : i < f.length) : parL f g i g.length = parL f g (i + 1) 0 := by
  refine List.ext_getElem? fun k => ?_
  by_cases h : k < f.length + g.length - 1
  · rw [parL_get h, parL_get h]
    congr 1
    unfold parF
    obtain ⟨c, hc⟩ : ∃ c, f[i]? = some c := ⟨_, List.getElem?_eq_getElem hi⟩
    rw [low_step hc, co_get hc]
    by_cases c1 : i ≤ k
    · rw [if_pos c1, if_neg (show ¬ (i + 1 ≤ k ∧ k < i + 1 + 0) by omega)]
      by_cases c2 : k < i + g.length
      · rw [if_pos ⟨c1, c2⟩]
        grind
      · rw [if_neg (by omega), co_out (f := g) (by omega)]
        grind
    · rw [if_neg (by omega), if_neg c1, if_neg (by omega)]
      grind
  · rw [List.getElem?_eq_none (by rw [parL_len]; omega), List.getElem?_eq_none (by rw [parL_len]; omega)]
theorem parL_end (f g : List R) : parL f g f.length 0 = conv f g := by
  refine List.ext_getElem? fun k => ?_
  by_cases h : k < f.length + g.length - 1
  · rw [parL_get h, conv_get h]
    congr 1
    unfold parF
    rw [if_neg (by omega), cvc_congr g k (fun j _ => low_all f j)]
    grind
  · rw [List.getElem?_eq_none (by rw [parL_len]; omega), List.getElem?_eq_none (by rw [conv_len]; omega)]
/-- bounds: sums of products -/
theorem bd_cvc {n m : Nat} {F : Nat → R} (hF : ∀ k, NumC.Bd n (F k)) : ∀ (g : List R) (k : Nat), Bds m g → NumC.Bd (n + m + g.length) (cvc F g k)
  | [], k, _ => by
    have e : cvc F [] k = 0 := by cases k <;> rfl
    rw [e]
    exact NumC.bd_mono (Nat.zero_le _) NumC.bd_0
  | b :: g, 0, h => NumC.bd_mono (by omega) (NumC.bd_times (hF 0) (h b (List.mem_cons_self ..)))
  | b :: g, k + 1, h => by
    have h1 := bd_cvc hF g k fun c hc => h c (List.mem_cons_of_mem _ hc)
    have h2 := NumC.bd_times (hF (k + 1)) (h b (List.mem_cons_self ..))
    exact NumC.bd_mono (by simp only [List.length_cons]; omega) (NumC.bd_plus (NumC.bd_mono (show n + m ≤ n + m + g.length by omega) h2) h1)
theorem bd_co {n : Nat} {f : List R} (h : Bds n f) (k : Nat) : NumC.Bd n (co f k) := by
  by_cases c : k < f.length
  · rw [co_get (List.getElem?_eq_getElem c)]
    exact h _ (List.getElem_mem ..)
  · rw [co_out (by omega)]
    exact NumC.bd_mono (Nat.zero_le _) NumC.bd_0
theorem bds_conv {n m : Nat} {f g : List R} (hf : Bds n f) (hg : Bds m g) : Bds (n + m + g.length) (conv f g) := fun c hc => by
  obtain ⟨k, _, rfl⟩ := List.mem_map.mp hc
  exact bd_cvc (bd_co hf) g k hg
theorem bd_par {n m : Nat} {f g : List R} (hf : Bds n f) (hg : Bds m g) (i j k : Nat) : NumC.Bd (n + m + g.length + 1) (parF f g i j k) := by
  unfold parF
  refine NumC.bd_plus (bd_cvc (fun k => ?_) g k hg) ?_
  · unfold lowF
    split
    · exact bd_co hf k
    · exact NumC.bd_mono (Nat.zero_le _) NumC.bd_0
  · split
    · exact NumC.bd_mono (by omega) (NumC.bd_times (bd_co hf i) (bd_co hg _))
    · exact NumC.bd_mono (Nat.zero_le _) NumC.bd_0
end
end Kw
set_option maxHeartbeats 4000000
namespace Kw
open PySem PySem.Spec PyProof.Rows L2 RT
local macro_rules | `(tactic| walk_at "step") => `(tactic| with_reducible first
  | refine g_op ?_ | refine g_c ?_ | refine g_test ?_ | refine g_bl ?_ | refine g_seq ?_ | refine g_ifS ?_ | refine g_cons ?_ | refine g_nil ?_ | refine g_I0 ?_ | refine g_asg ?_ | refine g_name ?_
  | refine g_ret ?_ | refine g_nx ?_ | refine g_cb ?_ | refine g_call ?_ | refine g_un ?_ | refine g_rU ?_ | refine g_B ?_ | refine g_and ?_ | refine g_or ?_ | refine g_not ?_ | refine g_andV ?_ | refine g_orV ?_
  | refine g_notV ?_ | refine g_ifE ?_ | refine g_drop ?_ | refine g_par ?_ | refine g_two ?_ | refine g_abs ?_ | refine g_mx ?_ | refine g_int ?_ | refine g_tup ?_ | refine g_lst ?_ | refine g_chain ?_
  | refine g_sl ?_ | refine g_nopart ?_ | refine g_part ?_ | refine g_partI ?_ | refine g_bm ?_ | refine g_sub ?_ | refine g_ip ?_ | refine g_make ?_ | refine g_forR1 ?_ | refine g_forR2 ?_ | refine g_forR3 ?_ | refine g_forL ?_ | refine g_forT ?_ | refine g_forV ?_ | refine g_forVR ?_ | refine g_forE ?_ | refine g_lcL ?_ | refine g_lcT ?_ | refine g_lcR1 ?_ | refine g_lcR2 ?_ | refine g_fld ?_ | refine g_meth ?_ | refine ite_t ?_ | refine ite_nt ?_ | refine ite_nf ?_ | refine g_eqi ?_ | refine g_nei ?_ | refine ite_f ?_ | refine g_isN_n ?_ | refine g_isN_i ?_ | refine g_isN_r ?_ | refine g_notN_n ?_ | refine g_notN_i ?_ | refine g_notN_r ?_ | refine g_isi_ib ?_ | refine g_isi_ii ?_ | refine g_isi_it ?_ | refine g_isi_nt ?_)
local macro_rules | `(tactic| walk_at "var") => `(tactic| ((with_reducible refine' g_var ?hvar ?_); (case hvar => rfl)))
local macro_rules | `(tactic| walk_at "fact") => `(tactic| first
  | ((with_reducible refine' g_ixT ?hfact ?hat ?_); (case hfact => assumption); (case hat => rfl))
  | ((with_reducible refine' g_ixL ?hfact ?hat ?_); (case hfact => assumption); (case hat => rfl)))
local macro_rules | `(tactic| walk_at "fact1") => `(tactic| first
  | ((with_reducible refine' g_lenT ?hfact ?_); (case hfact => assumption))
  | ((with_reducible refine' g_lenL ?hfact ?_); (case hfact => assumption))
  | ((with_reducible refine' g_isi_tt ?hfact ?_); (case hfact => assumption)))
local macro_rules | `(tactic| walk_at "go") => `(tactic| repeat (first | walk_at "step" | walk_at "var" | walk_at "fact" | walk_at "fact1"))
local macro_rules | `(tactic| walk_at "if") => `(tactic| with_reducible first | refine ite_d ?_ ?_ | refine ite_n ?_ ?_ | refine ite_b ?_ ?_)
local macro_rules | `(tactic| walk_at "prime") => `(tactic| refine fig_prime (by assumption) (by assumption) ?_)
local macro_rules | `(tactic| walk_at "zero") => `(tactic| refine fig_zero (by assumption) (by assumption) ?_)
local macro_rules | `(tactic| walk_at "one") => `(tactic| refine fig_one (by assumption) (by assumption) ?_)
local macro_rules | `(tactic| walk_at "meth") => `(tactic| refine fig_meth (by assumption) (by decide +kernel) ?_)
abbrev s__law_exact : Stmt := topS 63
theorem sc__law_exact : FnScope ["_law_told_here", "_law_due_here", "_law_k"] ["_law_told_here", "_law_due_here"] (C8.fnScope s__law_exact) := C8.fnScope_by (by decide +kernel)
abbrev s__law_multiplied : Stmt := topS 65
theorem sc__law_multiplied : FnScope ["_law_p", "_law_one", "_law_other", "_law_told_here", "_law_i", "_law_j"] ["_law_p", "_law_one", "_law_other"] (C8.fnScope s__law_multiplied) := C8.fnScope_by (by decide +kernel)
abbrev s__law_value : Stmt := topS 66
theorem sc__law_value : FnScope ["_law_p", "_law_poly", "_law_number_here", "_law_total", "_law_k"] ["_law_p", "_law_poly", "_law_number_here"] (C8.fnScope s__law_value) := C8.fnScope_by (by decide +kernel)
abbrev s__law_lead : Stmt := topS 70
theorem sc__law_lead : FnScope ["_law_p", "_law_taps", "_law_high", "_law_turn"] ["_law_p", "_law_taps"] (C8.fnScope s__law_lead) := C8.fnScope_by (by decide +kernel)
section
variable {P : Program} {w : World} {K : PySem.W.Frag} {mg : Str → Option Value} {base : Heap} {f : Addr} {fd : FuncData}
/-! ### exact: equal data, to a depth -/
def Ex : Nat → Hp → V → V → Prop
  | 0, _, _, _ => False
  | d + 1, H, u, v => (∃ i, u = .int i ∧ v = .int i) ∨ (u = .non ∧ v = .non) ∨ ∃ a b us vs, u = .ref a ∧ v = .ref b ∧ H a = some (.tup us) ∧ H b = some (.tup vs) ∧ us.length = vs.length ∧ us.length ≤ 1000 ∧ ∀ (i : Nat) x y, us[i]? = some x → vs[i]? = some y → Ex d H x y
theorem Ex.im : ∀ {d : Nat} {H H' : Hp} {u v : V}, Ex d H u v → Im H H' → Ex d H' u v
  | 0, _, _, _, _, h, _ => h
  | d + 1, _, _, _, _, h, e => by
    rcases h with h | h | ⟨a, b, us, vs, h1, h2, h3, h4, h5, h6, h7⟩
    · exact .inl h
    · exact .inr (.inl h)
    · exact .inr (.inr ⟨a, b, us, vs, h1, h2, im_tup e h3, im_tup e h4, h5, h6, fun i x y hx hy => (h7 i x y hx hy).im e⟩)
def spEx (d : Nat) : Sp := fun vs H Q _ => ∃ u v, vs = [u, v] ∧ Ex d H u v ∧ ∀ H', Same H H' → Q (.bl true) H'
theorem g_eqLN {H : Hp} {a e : Addr} {Q : VK} (h : H a = some (.lst [])) (he : H e = some (.lst [])) (q : Q (.bl true) H) : rEqD K (.ref a) (.ref e) H Q :=
  ⟨.list [], .list [], .lst (SqL.of h) .nil, .lst (SqL.of he) .nil, rfl, rfl, q⟩
theorem ok_law_exact {k d : Nat} (B : Bn mg) (c__law_exact : C8.Cal P w K mg base k "_law_exact" (spEx d) []) (F : C8.Fun K "_law_exact" "_law_exact" s__law_exact f fd) : FnOk P w K mg base C8.CX0 (k + 1) f fd ["_law_told_here", "_law_due_here"] (spEx (d + 1)) := by
  refine C8.fn0 F sc__law_exact (fun vs H Q E h => ?_) (fun cdv A outer s H vs Q E hr h => ?_)
  · obtain ⟨u, v, rfl, _⟩ := h
    rfl
  · obtain ⟨u, v, rfl, hx, q⟩ := h
    refine ⟨_, (pss_cons (ps_if (pt_val (pe_callB call_isi (by rfl) B.isinstance_ (by decide +kernel) (pa_cons (pv 1) (pa_cons (pe_bltn (v := .ty "tuple") (by rfl) B.tuple_ (by decide +kernel) rfl) pa_nil))))
    ((pss_cons (ps_if (PW.pt (pw_or (pt_not (pt_val (pe_callB call_isi (by rfl) B.isinstance_ (by decide +kernel) (pa_cons (pv 0) (pa_cons (pe_bltn (v := .ty "tuple") (by rfl) B.tuple_ (by decide +kernel) rfl) pa_nil))))) (pw_or1 (pt_cmpR op_ne (pe_callB call_len_ (by rfl) B.len_ (by decide +kernel) (pa_cons (pv 0) pa_nil)) (pe_callB call_len_ (by rfl) B.len_ (by decide +kernel) (pa_cons (pv 1) pa_nil)) (nomark _)))))
    ((pss_one (ps_ret pe_bl))) pss_nil)
    (pss_one (ps_ret (pe_cmpR (op_eqD hr.units) (pe_lc (own := [("_law_k", 2)]) rfl sc__law_exact.nd (pi_range1 (by rfl) B.range_ (pa_cons (pe_callB call_len_ (by rfl) B.len_ (by decide +kernel) (pa_cons (pv 1) pa_nil)) pa_nil)) (blkOk_by (own := [("_law_k", 2)]) (N := ["_law_told_here", "_law_due_here", "_law_k"]) (sc := C8.fnScope s__law_exact) (by decide +kernel)) (fun _ _ _ _ _ => (pg_name (i := 2) sc__law_exact.nd rfl (by first | exact .inl rfl | exact .inr rfl))) (fun _ _ _ _ _ => (pts_one (pt_not (pt_val ((C8.pe_c c__law_exact hr (Nat.le_refl _) (by rfl)) (pa_cons (pe_ix (ix_tupK (K := K)) (pv 0) (pv 2) (fun _ _ => rfl)) (pa_cons (pe_ix (ix_tupK (K := K)) (pv 1) (pv 2) (fun _ _ => rfl)) pa_nil))))))) (fun _ _ _ _ _ => (pv 2))) (pe_lst pa_nil) (nomark _)))))) pss_nil)
    (pss_cons (ps_if (pt_cmpR op_isN_ (pv 1) pe_non (nomark _))
    ((pss_one (ps_ret (pe_cmpR op_isN_ (pv 0) pe_non (nomark _))))) pss_nil)
    (pss_one (ps_ret (pe_and (pe_callB call_isi (by rfl) B.isinstance_ (by decide +kernel) (pa_cons (pv 0) (pa_cons (pe_bltn (v := .ty "int") (by rfl) B.int_ (by decide +kernel) rfl) pa_nil))) (pe_and (pe_not (pe_callB call_isi (by rfl) B.isinstance_ (by decide +kernel) (pa_cons (pv 0) (pa_cons (pe_bltn (v := .ty "bool") (by rfl) B.bool_ (by decide +kernel) rfl) pa_nil)))) (pe_one (pe_cmpR op_eq (pv 0) (pv 1) (nomark _))))))))), ?_⟩
    refine go_start (show _ = [some _, some _, none] from rfl) ?_
    rcases hx with ⟨i, rfl, rfl⟩ | ⟨rfl, rfl⟩ | ⟨a, b, us, vs, rfl, rfl, ha, hb, hl, hz, hex⟩
    · walk_at "go"
      rw [decide_eq_true (show i = i from rfl)]
      exact q _ (Same.refl _)
    · walk_at "go"
      exact q _ (Same.refl _)
    · walk_at "go"
      rw [decide_eq_true (show (us.length : Int) = vs.length by omega)]
      walk_at "go"
      refine ⟨_, rfl, by omega, by omega, fun Dl hD => ?_⟩
      rw [Int.toNat_natCast]
      refine lc_wordR (fun i ys _ => ys = []) (fun _ _ _ _ h _ => h) (fun i ys _ h => by rw [h]; exact Nat.zero_le _) hD rfl (fun i ys Hc hi ec h => ?_) (fun ys Hc ec hys h => ?_)
      · intro Qk Qn hk hn
        obtain ⟨x, hx⟩ : ∃ x, us[i]? = some x := ⟨_, List.getElem?_eq_getElem (by omega)⟩
        obtain ⟨y, hy⟩ : ∃ y, vs[i]? = some y := ⟨_, List.getElem?_eq_getElem hi⟩
        walk_at "go"
        refine ⟨rfl, ?_⟩
        walk_at "go"
        refine g_ixTn (j := i) (ec _ _ ha) (by omega) hx ?_
        walk_at "go"
        refine g_ixTn (j := i) (ec _ _ hb) (by omega) hy ?_
        walk_at "go"
        refine ⟨x, y, rfl, (hex i x y hx hy).im (Same.im ec), fun H2 e2 => ?_⟩
        walk_at "go"
        exact hn _ e2 h
      · subst h
        walk_at "go"
        refine ⟨(by show 0 ≤ sizeLine; decide), fun p hp => ?_⟩
        have e3 := same_new (o := HO.lst []) hp
        exact g_eqLN (e3 _ _ hys) upd_same (q _ (ec.trans e3))
/-! ### products -/
variable {R : Type} [NumC R]
theorem g_ixV {p : Addr} {xs : List V} {i : Int} {j : Nat} {v : V} {H : Hp} {Q : VK} (h : Seqv H p xs) (hi : i = (j : Int)) (ha : xs[j]? = some v) (q : Q v H) : rIx K (.ref p) (.int i) H Q := h.elim (fun h => .inl (g_ixLn h hi ha q)) fun h => .inr (.inl (g_ixTn h hi ha q))
def spMul (R : Type) [NumC R] : Sp := fun vs H Q _ => ∃ (a b : Addr) (us ws : List V) (g h : List R) (n m : Nat), vs = [.int (NumC.p R : Nat), .ref a, .ref b] ∧ Seqv H a us ∧ Reps H us g ∧ Seqv H b ws ∧ Reps H ws h ∧ 1 ≤ g.length ∧ 1 ≤ h.length ∧ g.length + h.length ≤ 40 ∧
  Bds n g ∧ Bds m h ∧ n + m + h.length + 2 ≤ LIM ∧ ∀ l zs H', Same H H' → H l = none → H' l = some (.lst zs) → Reps H' zs (conv g h) → Q (.ref l) H'
theorem ok_law_multiplied (B : Bn mg) (c__law_num : C8.Cal P w K mg base 1 "_law_num" (spNum R) []) (c__law_plus : C8.Cal P w K mg base 3 "_law_plus" (spL2 R fun x y => x + y) []) (c__law_times : C8.Cal P w K mg base 3 "_law_times" (spL2 R fun x y => x * y) [])
    (F : C8.Fun K "_law_multiplied" "_law_multiplied" s__law_multiplied f fd) : FnOk P w K mg base C8.CX0 4 f fd ["_law_p", "_law_one", "_law_other"] (spMul R) := by
  refine C8.fn0 F sc__law_multiplied (fun vs H Q E h => ?_) (fun cdv A outer s H vs Q E hr h => ?_)
  · obtain ⟨a, b, us, ws, x, y, n, m, rfl, _⟩ := h
    rfl
  · obtain ⟨a, b, us, ws, g, h, n, m, rfl, ha, hu, hb, hw, g1, h1, h40, bg, bh, hnm, q⟩ := h
    have hul := hu.len
    have hwl := hw.len
    refine ⟨_, (pss_cons (ps_set (i := 3) sc__law_multiplied.nd rfl (by first | exact .inl rfl | exact .inr rfl) (pe_op op_rep (pe_lst (pa_cons (C8.pe_c c__law_num hr (by decide) (by rfl) (pa_cons (pv 0) (pa_cons pe_int pa_nil))) pa_nil)) (pe_op op_sub (pe_op op_add (pe_callB call_len_ (by rfl) B.len_ (by decide +kernel) (pa_cons (pv 1) pa_nil)) (pe_callB call_len_ (by rfl) B.len_ (by decide +kernel) (pa_cons (pv 2) pa_nil))) pe_int)))
    (pss_cons (ps_for PassesOwn.never rfl (pi_range1 (by rfl) B.range_ (pa_cons (pe_callB call_len_ (by rfl) B.len_ (by decide +kernel) (pa_cons (pv 1) pa_nil)) pa_nil)) (pg_name (i := 4) sc__law_multiplied.nd rfl (by first | exact .inl rfl | exact .inr rfl))
    ((pss_one (ps_for PassesOwn.never rfl (pi_range1 (by rfl) B.range_ (pa_cons (pe_callB call_len_ (by rfl) B.len_ (by decide +kernel) (pa_cons (pv 2) pa_nil)) pa_nil)) (pg_name (i := 5) sc__law_multiplied.nd rfl (by first | exact .inl rfl | exact .inr rfl))
    ((pss_one (ps_asg (C8.pe_c c__law_plus hr (by decide) (by rfl) (pa_cons (pv 0) (pa_cons (pe_ix ix_list (pv 3) (pe_op op_add (pv 4) (pv 5)) (fun _ _ => rfl)) (pa_cons (C8.pe_c c__law_times hr (by decide) (by rfl) (pa_cons (pv 0) (pa_cons (pe_ix ix_seq (pv 1) (pv 4) (fun _ _ => rfl)) (pa_cons (pe_ix ix_seq (pv 2) (pv 5) (fun _ _ => rfl)) pa_nil)))) pa_nil)))) (pg_sub (pv 3) (pe_op op_add (pv 4) (pv 5)) set_list))))))))
    (pss_one (ps_ret (pv 3))))), ?_⟩
    refine go_start (show _ = [some _, some _, some _, none, none, none] from rfl) ?_
    walk_at "go"
    refine ⟨0, rfl, fun v H1 e1 hv => ?_⟩
    rw [NumC.of_0] at hv
    walk_at "go"
    refine ⟨(by show 1 ≤ sizeLine; decide), fun p hp => ?_⟩
    have e2 := same_new (o := HO.lst [v]) hp
    have hpl : (upd H1 p (.lst [v])) p = some (.lst [v]) := upd_same
    have hv2 := hv.up e2
    generalize (upd H1 p (.lst [v])) = H2 at *
    have e12 := e1.trans e2
    walk_at "go"
    refine g_lenV (ha.up e12) ?_
    walk_at "go"
    refine g_lenV (hb.up e12) ?_
    walk_at "go"
    refine g_rRep hpl (by omega) (by omega) (by show 1 ≤ 1; decide) fun l hl => ?_
    rw [flat_rep, show ((us.length : Int) + ws.length - 1).toNat = g.length + h.length - 1 by omega]
    have e3 := same_new (o := HO.lst (List.replicate (g.length + h.length - 1) v)) hl
    have hll : (upd H2 l (.lst (List.replicate (g.length + h.length - 1) v))) l = some (.lst (List.replicate (g.length + h.length - 1) v)) := upd_same
    have e13 := e12.trans e3
    have hlH : H l = none := Same.free e12 hl
    have hz0 : Reps (upd H2 l (.lst (List.replicate (g.length + h.length - 1) v))) (List.replicate (g.length + h.length - 1) v) (parL g h 0 0) := by
      rw [parL_0]
      exact paired_rep (hv2.up e3) _
    generalize (upd H2 l (.lst (List.replicate (g.length + h.length - 1) v))) = H3 at *
    walk_at "go"
    refine g_lenV (ha.up e13) ?_
    walk_at "go"
    have hla : l ≠ a := fun z => by
      rw [z] at hlH
      rcases ha with h | h <;> (rw [h] at hlH; cases hlH)
    have hlb : l ≠ b := fun z => by
      rw [z] at hlH
      rcases hb with h | h <;> (rw [h] at hlH; cases hlH)
    refine ⟨_, rfl, by omega, by omega, lp_range (fun i σ' Hc => ∃ (zs : List V) (x4 x5 : Option V), σ' = [some (.int (NumC.p R : Nat)), some (.ref a), some (.ref b), some (.ref l), x4, x5] ∧ Same H Hc ∧ Hc l = some (.lst zs) ∧ Reps Hc zs (parL g h i 0)) ⟨_, none, none, rfl, e13, hll, hz0⟩ (fun i σ' Hc hi hS => ?_) (fun σ' Hc hS => ?_)⟩
    · obtain ⟨zs, x4, x5, rfl, ec, hzl, hz⟩ := hS
      have hi' : i < g.length := by omega
      walk_at "go"
      refine g_lenV (hb.up ec) ?_
      walk_at "go"
      refine ⟨_, rfl, by omega, by omega, lp_range (fun j σ' Hd => ∃ (zs : List V) (x5 : Option V), σ' = [some (.int (NumC.p R : Nat)), some (.ref a), some (.ref b), some (.ref l), some (.int (0 + (i : Nat))), x5] ∧ Same H Hd ∧ Hd l = some (.lst zs) ∧ Reps Hd zs (parL g h i j)) ⟨zs, x5, rfl, ec, hzl, hz⟩ (fun j σ' Hd hj hS => ?_) (fun σ' Hd hS => ?_)⟩
      · obtain ⟨zs, x5, rfl, ed, hzl, hz⟩ := hS
        have hj' : j < h.length := by omega
        have hk : i + j < g.length + h.length - 1 := by omega
        obtain ⟨c, hc⟩ : ∃ c, g[i]? = some c := ⟨_, List.getElem?_eq_getElem hi'⟩
        obtain ⟨d, hd⟩ : ∃ d, h[j]? = some d := ⟨_, List.getElem?_eq_getElem hj'⟩
        obtain ⟨uc, huc, ruc⟩ := (hu.up ed).get hc
        obtain ⟨ud, hud, rud⟩ := (hw.up ed).get hd
        obtain ⟨uk, huk, ruk⟩ := hz.get (parL_get hk (i := i) (j := j))
        have bpar := bd_par bg bh i j (i + j)
        have bmul := NumC.bd_times (bg c (List.mem_of_getElem? hc)) (bh d (List.mem_of_getElem? hd))
        have hcd := parL_turn hc hd
        walk_at "go"
        refine g_ixLn (j := i + j) hzl (by omega) huk ?_
        walk_at "go"
        refine g_ixV (j := i) (ha.up ed) (by omega) huc ?_
        walk_at "go"
        refine g_ixV (j := j) (hb.up ed) (by omega) hud ?_
        walk_at "go"
        refine ⟨uc, ud, c, d, rfl, ruc, rud, NumC.bd_mono (by omega) (bg c (List.mem_of_getElem? hc)), NumC.bd_mono (by omega) (bh d (List.mem_of_getElem? hd)), fun v4 H4 e4 h4 => ?_⟩
        walk_at "go"
        refine ⟨uk, v4, _, _, rfl, ruk.up e4, h4, NumC.bd_mono (by omega) bpar, NumC.bd_mono (by omega) bmul, fun v5 H5 e5 h5 => ?_⟩
        have hzl5 := e5 _ _ (e4 _ _ hzl)
        have hz5 := hz.up (e4.trans e5)
        have hzlen := hz.len
        rw [parL_len] at hzlen
        walk_at "go"
        refine g_setL (j := i + j) hzl5 (by omega) (by omega) ?_
        have im6 : Im H5 (upd H5 l (.lst (zs.set (i + j) v5))) := im_upd hzl5
        refine ⟨_, _, rfl, same_mut (ed.trans (e4.trans e5)) hlH, upd_same, ?_⟩
        rw [← hcd]
        exact (Reps.set h5 (i + j) hz5).im im6
      · obtain ⟨zs, x5, rfl, ed, hzl, hz⟩ := hS
        rw [Int.toNat_natCast, hwl, parL_row hi'] at hz
        exact ⟨zs, _, _, rfl, ed, hzl, hz⟩
    · obtain ⟨zs, x4, x5, rfl, ec, hzl, hz⟩ := hS
      rw [Int.toNat_natCast, hul, parL_end] at hz
      walk_at "go"
      exact q l zs _ ec hlH hzl hz
end
end Kw
set_option maxHeartbeats 4000000
namespace Kw
open PySem PySem.Spec PyProof.Rows L2 RT
local macro_rules | `(tactic| walk_at "step") => `(tactic| with_reducible first
  | refine g_op ?_ | refine g_c ?_ | refine g_test ?_ | refine g_bl ?_ | refine g_seq ?_ | refine g_ifS ?_ | refine g_cons ?_ | refine g_nil ?_ | refine g_I0 ?_ | refine g_asg ?_ | refine g_name ?_
  | refine g_ret ?_ | refine g_nx ?_ | refine g_cb ?_ | refine g_call ?_ | refine g_un ?_ | refine g_rU ?_ | refine g_B ?_ | refine g_and ?_ | refine g_or ?_ | refine g_not ?_ | refine g_andV ?_ | refine g_orV ?_
  | refine g_notV ?_ | refine g_ifE ?_ | refine g_drop ?_ | refine g_par ?_ | refine g_two ?_ | refine g_abs ?_ | refine g_mx ?_ | refine g_int ?_ | refine g_tup ?_ | refine g_lst ?_ | refine g_chain ?_
  | refine g_sl ?_ | refine g_nopart ?_ | refine g_part ?_ | refine g_partI ?_ | refine g_bm ?_ | refine g_sub ?_ | refine g_ip ?_ | refine g_make ?_ | refine g_forR1 ?_ | refine g_forR2 ?_ | refine g_forR3 ?_ | refine g_forL ?_ | refine g_forT ?_ | refine g_forV ?_ | refine g_forVR ?_ | refine g_forE ?_ | refine g_lcL ?_ | refine g_lcT ?_ | refine g_lcR1 ?_ | refine g_lcR2 ?_ | refine g_fld ?_ | refine g_meth ?_ | refine ite_t ?_ | refine ite_nt ?_ | refine ite_nf ?_ | refine g_eqi ?_ | refine g_nei ?_ | refine ite_f ?_ | refine g_isN_n ?_ | refine g_isN_i ?_ | refine g_isN_r ?_ | refine g_notN_n ?_ | refine g_notN_i ?_ | refine g_notN_r ?_ | refine g_isi_ib ?_ | refine g_isi_ii ?_ | refine g_isi_it ?_ | refine g_isi_nt ?_)
local macro_rules | `(tactic| walk_at "var") => `(tactic| ((with_reducible refine' g_var ?hvar ?_); (case hvar => rfl)))
local macro_rules | `(tactic| walk_at "fact") => `(tactic| first
  | ((with_reducible refine' g_ixT ?hfact ?hat ?_); (case hfact => assumption); (case hat => rfl))
  | ((with_reducible refine' g_ixL ?hfact ?hat ?_); (case hfact => assumption); (case hat => rfl)))
local macro_rules | `(tactic| walk_at "fact1") => `(tactic| first
  | ((with_reducible refine' g_lenT ?hfact ?_); (case hfact => assumption))
  | ((with_reducible refine' g_lenL ?hfact ?_); (case hfact => assumption))
  | ((with_reducible refine' g_isi_tt ?hfact ?_); (case hfact => assumption)))
local macro_rules | `(tactic| walk_at "go") => `(tactic| repeat (first | walk_at "step" | walk_at "var" | walk_at "fact" | walk_at "fact1"))
local macro_rules | `(tactic| walk_at "if") => `(tactic| with_reducible first | refine ite_d ?_ ?_ | refine ite_n ?_ ?_ | refine ite_b ?_ ?_)
local macro_rules | `(tactic| walk_at "prime") => `(tactic| refine fig_prime (by assumption) (by assumption) ?_)
local macro_rules | `(tactic| walk_at "zero") => `(tactic| refine fig_zero (by assumption) (by assumption) ?_)
local macro_rules | `(tactic| walk_at "one") => `(tactic| refine fig_one (by assumption) (by assumption) ?_)
local macro_rules | `(tactic| walk_at "meth") => `(tactic| refine fig_meth (by assumption) (by decide +kernel) ?_)
abbrev s__law_roots : Stmt := topS 67
theorem sc__law_roots : FnScope ["_law_p", "_law_poly", "_law_told_here", "_law_rest", "_law_root", "_law_turn", "_law_high", "_law_carry", "_law_k"] ["_law_p", "_law_poly"] (C8.fnScope s__law_roots) := C8.fnScope_by (by decide +kernel)
section
variable {P : Program} {w : World} {K : PySem.W.Frag} {mg : Str → Option Value} {base : Heap} {f : Addr} {fd : FuncData}
variable {R : Type} [NumC R]
def spLVal (R : Type) [NumC R] : Sp := fun vs H Q _ => ∃ (l : Addr) (x : V) (us : List V) (g : List R) (r : R), vs = [.int (NumC.p R : Nat), .ref l, x] ∧ H l = some (.lst us) ∧ Reps H us g ∧ Rep H x r ∧ g.length ≤ 20 ∧ ∀ v H', Same H H' → Rep H' v (ev g r) → Q v H'
theorem ok_law_value (hB : ∀ (k : Nat) (x : R), NumC.Bd k x) (B : Bn mg) (c__law_num : C8.Cal P w K mg base 1 "_law_num" (spNum R) []) (c__law_plus : C8.Cal P w K mg base 3 "_law_plus" (spL2 R fun x y => x + y) []) (c__law_times : C8.Cal P w K mg base 3 "_law_times" (spL2 R fun x y => x * y) [])
    (F : C8.Fun K "_law_value" "_law_value" s__law_value f fd) : FnOk P w K mg base C8.CX0 4 f fd ["_law_p", "_law_poly", "_law_number_here"] (spLVal R) := by
  refine C8.fn0 F sc__law_value (fun vs H Q E h => ?_) (fun cdv A outer s H vs Q E hr h => ?_)
  · obtain ⟨l, x, us, g, r, rfl, _⟩ := h
    rfl
  · obtain ⟨l, x, us, g, r, rfl, hl, hu, hx, hz, q⟩ := h
    have hul := hu.len
    refine ⟨_, (pss_cons (ps_set (i := 3) sc__law_value.nd rfl (by first | exact .inl rfl | exact .inr rfl) (C8.pe_c c__law_num hr (by decide) (by rfl) (pa_cons (pv 0) (pa_cons pe_int pa_nil))))
    (pss_cons (ps_for PassesOwn.never rfl (pi_range3 (by rfl) B.range_ (pa_cons (pe_op op_sub (pe_callB call_len_ (by rfl) B.len_ (by decide +kernel) (pa_cons (pv 1) pa_nil)) pe_int) (pa_cons (pe_un un_neg pe_int) (pa_cons (pe_un un_neg pe_int) pa_nil)))) (pg_name (i := 4) sc__law_value.nd rfl (by first | exact .inl rfl | exact .inr rfl))
    ((pss_one (ps_set (i := 3) sc__law_value.nd rfl (by first | exact .inl rfl | exact .inr rfl) (C8.pe_c c__law_plus hr (by decide) (by rfl) (pa_cons (pv 0) (pa_cons (C8.pe_c c__law_times hr (by decide) (by rfl) (pa_cons (pv 0) (pa_cons (pv 3) (pa_cons (pv 2) pa_nil)))) (pa_cons (pe_ix ix_list (pv 1) (pv 4) (fun _ _ => rfl)) pa_nil))))))))
    (pss_one (ps_ret (pv 3))))), ?_⟩
    refine go_start (show _ = [some _, some _, some _, none, none] from rfl) ?_
    walk_at "go"
    refine ⟨0, rfl, fun v H1 e1 hv => ?_⟩
    rw [NumC.of_0] at hv
    have hl1 := e1 _ _ hl
    walk_at "go"
    refine ⟨_, _, _, _, rfl, RgC.neg (by omega) (by omega) (by omega) (by omega), lp_rangeC (fun i σ' Hc => ∃ (t : V) (x4 : Option V), σ' = [some (.int (NumC.p R : Nat)), some (.ref l), some x, some t, x4] ∧ Same H Hc ∧ Rep Hc t (ev (g.drop (g.length - i)) r)) ⟨v, none, rfl, e1, ?_⟩ (fun i σ' Hc hi hS => ?_) (fun σ' Hc hS => ?_)⟩
    · rw [Nat.sub_zero, List.drop_length]
      exact hv
    · obtain ⟨t, x4, rfl, ec, rt⟩ := hS
      have hi' : i < g.length := by omega
      have hj : g.length - (i + 1) < g.length := by omega
      obtain ⟨c, hc⟩ : ∃ c, g[g.length - (i + 1)]? = some c := ⟨_, List.getElem?_eq_getElem hj⟩
      obtain ⟨uc, huc, ruc⟩ := (hu.up ec).get hc
      walk_at "go"
      refine ⟨t, x, _, r, rfl, rt, hx.up ec, hB _ _, hB _ _, fun v2 H2 e2 h2 => ?_⟩
      walk_at "go"
      refine g_ixLn (j := g.length - (i + 1)) (e2 _ _ (ec _ _ hl)) (by omega) huc ?_
      walk_at "go"
      refine ⟨v2, uc, _, c, rfl, h2, ruc.up e2, hB _ _, hB _ _, fun v3 H3 e3 h3 => ?_⟩
      walk_at "go"
      refine ⟨v3, _, rfl, ec.trans (e2.trans e3), ?_⟩
      rw [ev_drop g r (g.length - (i + 1)) c hc, show g.length - (i + 1) + 1 = g.length - i by omega]
      exact h3
    · obtain ⟨t, x4, rfl, ec, rt⟩ := hS
      walk_at "go"
      rw [show ((us.length : Int) - 1 - (-1)).toNat = g.length by omega, Nat.sub_self, List.drop_zero] at rt
      exact q _ _ ec rt
/-! ### lead -/
def spLead (R : Type) [NumC R] : Sp := fun vs H Q _ => ∃ (l : Addr) (us : List V) (g : List R) (m : Nat), vs = [.int (NumC.p R : Nat), .ref l] ∧ H l = some (.lst us) ∧ Reps H us g ∧ TrimAt g m ∧ g.length ≤ 20 ∧ ∀ l' H', Same H H' → H l' = none → H' l' = some (.lst (us.take m)) → Q (.ref l') H'
theorem ok_law_lead (B : Bn mg) (c__law_zero : C8.Cal P w K mg base 2 "_law_zero" (spZero R) []) (F : C8.Fun K "_law_lead" "_law_lead" s__law_lead f fd) : FnOk P w K mg base C8.CX0 3 f fd ["_law_p", "_law_taps"] (spLead R) := by
  refine C8.fn0 F sc__law_lead (fun vs H Q E h => ?_) (fun cdv A outer s H vs Q E hr h => ?_)
  · obtain ⟨l, us, g, m, rfl, _⟩ := h
    rfl
  · obtain ⟨l, us, g, m, rfl, hl, hu, ⟨hm, h0, h1⟩, hz, q⟩ := h
    have hul := hu.len
    refine ⟨_, (pss_cons (ps_set (i := 2) sc__law_lead.nd rfl (by first | exact .inl rfl | exact .inr rfl) (pe_callB call_len_ (by rfl) B.len_ (by decide +kernel) (pa_cons (pv 1) pa_nil)))
    (pss_cons (ps_for PassesOwn.never rfl (pi_range1 (by rfl) B.range_ (pa_cons (pe_callB call_len_ (by rfl) B.len_ (by decide +kernel) (pa_cons (pv 1) pa_nil)) pa_nil)) (pg_name (i := 3) sc__law_lead.nd rfl (by first | exact .inl rfl | exact .inr rfl))
    ((pss_one (ps_if (PW.pt (pw_and (pt_cmpR op_gt (pv 2) pe_int (nomark _)) (pw_and1 (pt_val (C8.pe_c c__law_zero hr (by decide) (by rfl) (pa_cons (pv 0) (pa_cons (pe_ix ix_list (pv 1) (pe_op op_sub (pv 2) pe_int) (fun _ _ => rfl)) pa_nil)))))))
    ((pss_one (ps_set (i := 2) sc__law_lead.nd rfl (by first | exact .inl rfl | exact .inr rfl) (pe_op op_sub (pv 2) pe_int)))) pss_nil))))
    (pss_one (ps_ret (pe_slice sl_list (pv 1) po_none (po_some (pv 2))))))), ?_⟩
    refine go_start (show _ = [some _, some _, none, none] from rfl) ?_
    walk_at "go"
    refine ⟨_, rfl, by omega, by omega, lp_range (fun i σ' Hc => ∃ (k : Nat) (x3 : Option V), σ' = [some (.int (NumC.p R : Nat)), some (.ref l), some (.int (k : Nat)), x3] ∧ Same H Hc ∧ m ≤ k ∧ k ≤ g.length ∧ (k = m ∨ k = g.length - i)) ⟨us.length, none, rfl, Same.refl _, by omega, by omega, by omega⟩ (fun i σ' Hc hi hS => ?_) (fun σ' Hc hS => ?_)⟩
    · obtain ⟨k, x3, rfl, ec, hk1, hk2, hk3⟩ := hS
      walk_at "go"
      walk_at "if"
      · intro hc
        walk_at "go"
        have hk : k - 1 < g.length := by omega
        obtain ⟨v, hv1, hv2⟩ := (hu.up ec).get (List.getElem?_eq_getElem hk)
        refine g_ixLn (j := k - 1) (ec _ _ hl) (by omega) hv1 ?_
        walk_at "go"
        refine ⟨v, _, rfl, hv2, fun H2 e2 => ?_⟩
        walk_at "go"
        walk_at "if"
        · intro hx
          walk_at "go"
          refine ⟨k - 1, some (.int (0 + (i : Nat))), ?_, ec.trans e2, ?_, by omega, ?_⟩
          rotate_left
          · by_cases z : m ≤ k - 1
            · exact z
            · exfalso
              rcases h1 with h1 | ⟨c, h2, h3⟩
              · omega
              · have e : m = k := by omega
                rw [e, List.getElem?_eq_getElem hk] at h2
                exact h3 ((Option.some.inj h2).symm.trans hx)
          · by_cases z : k = m
            · exfalso
              rcases h1 with h1 | ⟨c, h2, h3⟩
              · omega
              · rw [← z, List.getElem?_eq_getElem hk] at h2
                exact h3 ((Option.some.inj h2).symm.trans hx)
            · omega
          · show [some (V.int (NumC.p R : Nat)), some (V.ref l), some (V.int ((k : Nat) - 1)), some (V.int (0 + (i : Nat)))] = _
            rw [show ((k : Int) - 1) = ((k - 1 : Nat) : Int) by omega]
        · intro hx
          walk_at "go"
          refine ⟨k, _, rfl, ec.trans e2, hk1, hk2, .inl ?_⟩
          by_cases z : k = m
          · exact z
          · have h4 := h0 (k - 1) (by omega) hk
            rw [List.getElem?_eq_getElem hk] at h4
            exact absurd (Option.some.inj h4) hx
      · intro hc
        walk_at "go"
        exact ⟨k, _, rfl, ec, hk1, hk2, .inl (by omega)⟩
    · obtain ⟨k, x3, rfl, ec, hk1, hk2, hk3⟩ := hS
      have hkm : k = m := by
        rw [Int.toNat_natCast] at hk3
        omega
      subst hkm
      walk_at "go"
      refine g_slL (ec _ _ hl) fun p hp => ?_
      rw [cut_to (by omega)]
      exact q p _ (Same.up (o := HO.lst (us.take k)) ec hp) (Same.free ec hp) upd_same
/-! ### the trial of roots -/
section
variable {n : Nat} [NeZero n]
def foundF (told : List (R × Nat)) : List R := told.flatMap fun x => List.replicate x.2 x.1
theorem partF_snoc : ∀ (rs g : List R) (r : R), partF g (rs ++ [r]) = ((divOut r (partF g rs).1.length (partF g rs).1).1, (partF g rs).2 ++ [(r, (divOut r (partF g rs).1.length (partF g rs).1).2)])
  | [], g, r => rfl
  | a :: rs, g, r => by
    have h := partF_snoc rs (divOut a g.length g).1 r
    show ((partF (divOut a g.length g).1 (rs ++ [r])).1, (a, (divOut a g.length g).2) :: (partF (divOut a g.length g).1 (rs ++ [r])).2) = _
    rw [h]
    rfl
def spLRoots (n : Nat) [NeZero n] : Sp := fun vs H Q _ => ∃ (l : Addr) (us : List V) (g : List (Fin n)), vs = [.int (n : Nat), .ref l] ∧ H l = some (.lst us) ∧ Reps H us g ∧ Led g ∧ g.length ≤ 12 ∧
  ∀ l' ws H', Same H H' → H l' = none → H' l' = some (.lst ws) → Reps H' ws (foundF (partF g (List.finRange n)).2) → Q (.ref l') H'
theorem finB : ∀ (k : Nat) (x : Fin n), NumC.Bd k x := fun _ _ => trivial
theorem ok_law_roots (hn : n ≤ 13) (B : Bn mg) (c__law_value : C8.Cal P w K mg base 4 "_law_value" (spLVal (Fin n)) []) (F : C8.Fun K "_law_roots" "_law_roots" s__law_roots f fd) : FnOk P w K mg base C8.CX0 5 f fd ["_law_p", "_law_poly"] (spLRoots n) := by
  refine C8.fn0 F sc__law_roots (fun vs H Q E h => ?_) (fun cdv A outer s H vs Q E hr h => ?_)
  · obtain ⟨l, us, g, rfl, _⟩ := h
    rfl
  · obtain ⟨l, us, g, rfl, hl, hu, hled, h12, q⟩ := h
    have hul := hu.len
    have hnp := npos (n := n)
    refine ⟨_, (pss_cons (ps_set (i := 2) sc__law_roots.nd rfl (by first | exact .inl rfl | exact .inr rfl) (pe_lst pa_nil))
    (pss_cons (ps_set (i := 3) sc__law_roots.nd rfl (by first | exact .inl rfl | exact .inr rfl) (pe_callTy call_list_of_ (by rfl) B.list_ (by decide +kernel) (pa_cons (pv 1) pa_nil)))
    (pss_cons (ps_for PassesOwn.never rfl (pi_range1 (by rfl) B.range_ (pa_cons (pv 0) pa_nil)) (pg_name (i := 4) sc__law_roots.nd rfl (by first | exact .inl rfl | exact .inr rfl))
    ((pss_one (ps_for PassesOwn.never rfl (pi_range1 (by rfl) B.range_ (pa_cons (pe_callB call_len_ (by rfl) B.len_ (by decide +kernel) (pa_cons (pv 1) pa_nil)) pa_nil)) (pg_name (i := 5) sc__law_roots.nd rfl (by first | exact .inl rfl | exact .inr rfl))
    ((pss_one (ps_if (PW.pt (pw_and (pt_cmpR op_gt (pe_callB call_len_ (by rfl) B.len_ (by decide +kernel) (pa_cons (pv 3) pa_nil)) pe_int (nomark _)) (pw_and1 (pt_cmpR op_eq (C8.pe_c c__law_value hr (by decide) (by rfl) (pa_cons (pv 0) (pa_cons (pv 3) (pa_cons (pv 4) pa_nil)))) pe_int (nomark _)))))
    ((pss_cons (ps_expr (pe_bm PySem.F.plainAttrs_list PySem.F.slot_list_append PySem.F.type_list_append mt_append (pv 2) (pa_cons (pv 4) pa_nil)))
    (pss_cons (ps_set (i := 6) sc__law_roots.nd rfl (by first | exact .inl rfl | exact .inr rfl) (pe_op op_rep (pe_lst (pa_cons pe_int pa_nil)) (pe_op op_sub (pe_callB call_len_ (by rfl) B.len_ (by decide +kernel) (pa_cons (pv 3) pa_nil)) pe_int)))
    (pss_cons (ps_set (i := 7) sc__law_roots.nd rfl (by first | exact .inl rfl | exact .inr rfl) pe_int)
    (pss_cons (ps_for PassesOwn.never rfl (pi_range3 (by rfl) B.range_ (pa_cons (pe_op op_sub (pe_callB call_len_ (by rfl) B.len_ (by decide +kernel) (pa_cons (pv 3) pa_nil)) pe_int) (pa_cons pe_int (pa_cons (pe_un un_neg pe_int) pa_nil)))) (pg_name (i := 8) sc__law_roots.nd rfl (by first | exact .inl rfl | exact .inr rfl))
    ((pss_cons (ps_set (i := 7) sc__law_roots.nd rfl (by first | exact .inl rfl | exact .inr rfl) (pe_op op_mod (pe_callTy call_int_ (by rfl) B.int_ (by decide +kernel) (pa_cons (pe_op op_add (pe_ix ix_list (pv 3) (pv 8) (fun _ _ => rfl)) (pe_op op_mulW (pv 7) (pv 4))) pa_nil)) (pv 0)))
    (pss_one (ps_asg (pv 7) (pg_sub (pv 6) (pe_op op_sub (pv 8) pe_int) set_list))))))
    (pss_one (ps_set (i := 3) sc__law_roots.nd rfl (by first | exact .inl rfl | exact .inr rfl) (pv 6)))))))) pss_nil)))))))
    (pss_one (ps_ret (pv 2)))))), ?_⟩
    refine go_start (show _ = [some _, some _, none, none, none, none, none, none, none] from rfl) ?_
    walk_at "go"
    refine ⟨(by show 0 ≤ sizeLine; decide), fun tl htl => ?_⟩
    have e1 := same_new (o := HO.lst []) htl
    walk_at "go"
    have htl' : H tl = none := htl
    refine g_lstOfL (e1 _ _ hl) fun rl hrl => ?_
    have e2 := Same.up (o := HO.lst us) e1 hrl
    have htr : tl ≠ rl := fun z => by rw [← z, upd_same] at hrl; cases hrl
    have htlv : (upd (upd H tl (.lst [])) rl (.lst us)) tl = some (.lst []) := by rw [upd_ne htr, upd_same]
    have hrlv : (upd (upd H tl (.lst [])) rl (.lst us)) rl = some (.lst us) := upd_same
    generalize (upd (upd H tl (.lst [])) rl (.lst us)) = H2 at *
    walk_at "go"
    refine ⟨_, rfl, by omega, by omega, lp_range (fun i σ' Hc => ∃ (rl : Addr) (vs ts : List V) (x5 x6 x7 x8 x9 : Option V), σ' = [some (.int (n : Nat)), some (.ref l), some (.ref tl), some (.ref rl), x5, x6, x7, x8, x9] ∧ Same H Hc ∧ tl ≠ rl ∧ Hc tl = some (.lst ts) ∧ Reps Hc ts (foundF (partF g ((List.finRange n).take i)).2) ∧ Hc rl = some (.lst vs) ∧ Reps Hc vs (partF g ((List.finRange n).take i)).1)
      ⟨rl, us, [], none, none, none, none, none, rfl, e2, htr, htlv, .nil, hrlv, hu.up e2⟩ (fun i σ' Hc hi hS => ?_) (fun σ' Hc hS => ?_)⟩
    · obtain ⟨rl1, vs1, ts1, x5, x6, x7, x8, x9, rfl, ec, htr1, hts1, hT1, hrl1, hR1⟩ := hS
      rw [Int.toNat_natCast] at hi
      obtain ⟨y, hy, hyv⟩ : ∃ y, (List.finRange n)[i]? = some y ∧ y.val = i := ⟨⟨i, hi⟩, by simp [hi], rfl⟩
      obtain ⟨hsum, hled1⟩ := partF_len ((List.finRange n).take i) g 0 hled h12 (fun _ _ => trivial) (fun _ _ => trivial)
      generalize hk0 : (partF g ((List.finRange n).take i)).1 = k0 at *
      have htk : partF g ((List.finRange n).take (i + 1)) = ((divOut y k0.length k0).1, (partF g ((List.finRange n).take i)).2 ++ [(y, (divOut y k0.length k0).2)]) := by
        rw [List.take_add_one, hy]
        show partF g ((List.finRange n).take i ++ [y]) = _
        rw [partF_snoc, hk0]
      have hfound : foundF (partF g ((List.finRange n).take (i + 1))).2 = foundF (partF g ((List.finRange n).take i)).2 ++ List.replicate (divOut y k0.length k0).2 y := by
        rw [htk]
        unfold foundF
        rw [List.flatMap_append]
        simp
      rw [hfound, htk]
      have hfl : (foundF (partF g ((List.finRange n).take i)).2).length = ((partF g ((List.finRange n).take i)).2.map (·.2)).sum := by
        unfold foundF
        rw [List.length_flatMap]
        congr 1
        exact List.map_congr_left fun a _ => by simp
      generalize foundF (partF g ((List.finRange n).take i)).2 = fnd at *
      walk_at "go"
      refine g_lenL (ec _ _ hl) ?_
      walk_at "go"
      have hyi : V.int (0 + (i : Nat)) = V.int (y.val : Nat) := by rw [hyv]; congr 1; omega
      rw [hyi]
      refine ⟨_, rfl, by omega, by omega, lp_range (fun j σ' Hd => ∃ (rl2 : Addr) (vs ts : List V) (k : List (Fin n)) (t : Nat) (x6 x7 x8 x9 : Option V), σ' = [some (.int (n : Nat)), some (.ref l), some (.ref tl), some (.ref rl2), some (.int (y.val : Nat)), x6, x7, x8, x9] ∧ Same H Hd ∧ tl ≠ rl2 ∧ Hd tl = some (.lst ts) ∧ Reps Hd ts (fnd ++ List.replicate t y) ∧ Hd rl2 = some (.lst vs) ∧ Reps Hd vs k ∧
          Led k ∧ k.length + t = k0.length ∧ (divOut y k0.length k0).1 = (divOut y k.length k).1 ∧ (divOut y k0.length k0).2 = (divOut y k.length k).2 + t ∧ (t = j ∨ ev k y ≠ 0))
        ⟨rl1, vs1, ts1, k0, 0, _, _, _, _, rfl, ec, htr1, hts1, ?_, hrl1, hR1, hled1, rfl, rfl, rfl, .inl rfl⟩ (fun j σ' Hd hj hS => ?_) (fun σ' Hd hS => ?_)⟩
      · rw [show List.replicate 0 y = [] from rfl, List.append_nil]
        exact hT1
      · obtain ⟨rl2, vs2, ts2, k, t, x6, x7, x8, x9, rfl, ed, htr2, hts2, hT2, hrl2, hR2, hledk, hkt, d1, d2, hdone⟩ := hS
        have hvl := hR2.len
        have htl := hT2.len
        rw [List.length_append, List.length_replicate] at htl
        walk_at "go"
        walk_at "if"
        · intro hlen
          walk_at "go"
          refine ⟨rl2, _, vs2, k, y, rfl, hrl2, hR2, fin_rep.mpr rfl, by omega, fun v H3 e3 h3 => ?_⟩
          rw [fin_rep] at h3
          subst h3
          have ed3 := ed.trans e3
          have hts3 := e3 _ _ hts2
          have hrl3 := e3 _ _ hrl2
          walk_at "go"
          walk_at "if"
          · intro h0
            have hev : ev k y = 0 := Fin.ext (by show (ev k y).val = 0; omega)
            have ht : t = j := by
              rcases hdone with h | h
              · exact h
              · exact absurd hev h
            walk_at "go"
            refine g_tyL hts3 ?_
            walk_at "go"
            refine g_app hts3 (by omega) ?_
            have im4 : Im H3 (upd H3 tl (.lst (ts2 ++ [V.int (y.val : Nat)]))) := im_upd hts3
            have ed4 : Same H (upd H3 tl (.lst (ts2 ++ [V.int (y.val : Nat)]))) := same_mut ed3 htl'
            have hts4 : (upd H3 tl (.lst (ts2 ++ [V.int (y.val : Nat)]))) tl = some (.lst (ts2 ++ [V.int (y.val : Nat)])) := upd_same
            have hrl4 : (upd H3 tl (.lst (ts2 ++ [V.int (y.val : Nat)]))) rl2 = some (.lst vs2) := by rw [upd_ne htr2.symm]; exact hrl3
            have hR4 := (hR2.up e3).im im4
            have hT4 : Reps (upd H3 tl (.lst (ts2 ++ [V.int (y.val : Nat)]))) (ts2 ++ [V.int (y.val : Nat)]) (fnd ++ List.replicate (t + 1) y) := by
              rw [List.replicate_succ', ← List.append_assoc]
              exact Paired.snoc ((hT2.up e3).im im4) (fin_rep.mpr rfl)
            generalize (upd H3 tl (.lst (ts2 ++ [V.int (y.val : Nat)]))) = H4 at *
            walk_at "go"
            refine ⟨(by show 1 ≤ sizeLine; decide), fun p5 n5 => ?_⟩
            have e5 := same_new (o := HO.lst [V.int 0]) n5
            have hp5 : (upd H4 p5 (.lst [V.int 0])) p5 = some (.lst [V.int 0]) := upd_same
            have hrl5 := e5 _ _ hrl4
            generalize (upd H4 p5 (.lst [V.int 0])) = H5 at *
            walk_at "go"
            refine g_rRep hp5 (by omega) (by omega) (by show 1 ≤ 1; decide) fun hi' nh => ?_
            rw [flat_rep, show ((vs2.length : Int) - 1).toNat = k.length - 1 by omega]
            have e6 := Same.up (o := HO.lst (List.replicate (k.length - 1) (V.int 0))) e5 nh
            have hh6 : (upd H5 hi' (.lst (List.replicate (k.length - 1) (V.int 0)))) hi' = some (.lst (List.replicate (k.length - 1) (V.int 0))) := upd_same
            have hq6 : Reps (R := Fin n) (upd H5 hi' (.lst (List.replicate (k.length - 1) (V.int 0)))) (List.replicate (k.length - 1) (V.int 0)) (quoL k y (k.length - 1)) := by
              rw [quoL_top]
              exact paired_rep (show Rep (R := Fin n) _ (V.int 0) 0 from rfl) _
            have hth : tl ≠ hi' := fun z => by
              have h9 := e5 _ _ hts4
              rw [z, nh] at h9
              cases h9
            have hhH4 : H4 hi' = none := Same.free e5 nh
            generalize (upd H5 hi' (.lst (List.replicate (k.length - 1) (V.int 0)))) = H6 at *
            have hrl6 := e6 _ _ hrl4
            walk_at "go"
            refine ⟨_, _, _, _, rfl, RgC.neg (by omega) (by omega) (by omega) (by omega), lp_rangeC (fun a σ' He => ∃ (cr : Fin n) (hs : List V) (x9 : Option V), σ' = [some (.int (n : Nat)), some (.ref l), some (.ref tl), some (.ref rl2), some (.int (y.val : Nat)), some (.int (0 + (j : Nat))), some (.ref hi'), some (.int (cr.val : Nat)), x9] ∧ Same H4 He ∧ cr = ev (k.drop (k.length - a)) y ∧ He hi' = some (.lst hs) ∧ Reps He hs (quoL k y (k.length - 1 - a)))
              ⟨0, _, _, rfl, e6, ?_, hh6, hq6⟩ (fun a σ' He ha hS => ?_) (fun σ' He hS => ?_)⟩
            · rw [Nat.sub_zero, List.drop_length]
              rfl
            · obtain ⟨cr, hs, x9, rfl, ee, hcr, hhs, hqs⟩ := hS
              have ha' : a < k.length - 1 := by omega
              have hj' : k.length - 1 - a < k.length := by omega
              obtain ⟨c, hc⟩ : ∃ c, k[k.length - 1 - a]? = some c := ⟨_, List.getElem?_eq_getElem hj'⟩
              obtain ⟨uc, huc, ruc⟩ := (hR4.up ee).get hc
              rw [fin_rep] at ruc
              subst ruc
              have hcl := cr.isLt
              have hyl := y.isLt
              have hql := hqs.len
              rw [quoL_len] at hql
              walk_at "go"
              refine g_ixLn (j := k.length - 1 - a) (ee _ _ hrl4) (by omega) huc ?_
              walk_at "go"
              refine g_I (wide_mul (a := 64) (b := 64) (by omega) (by omega) (by decide) (by decide) (by decide)) ?_
              walk_at "go"
              refine g_I (by omega) ?_
              have hnew : ((c.val : Int) + (cr.val : Int) * (y.val : Int)) % (n : Int) = (((ev (k.drop (k.length - 1 - a)) y).val : Nat) : Int) := by
                rw [ev_drop k y _ c hc, show k.length - 1 - a + 1 = k.length - a by omega, ← hcr, fin_add, fin_mul]
                rw [Int.add_comm]
                simp
              rw [hnew]
              walk_at "go"
              refine g_setL (j := k.length - 2 - a) hhs (by omega) (by omega) ?_
              have im7 : Im He (upd He hi' (.lst (hs.set (k.length - 2 - a) (V.int ((ev (k.drop (k.length - 1 - a)) y).val : Nat))))) := im_upd hhs
              refine ⟨ev (k.drop (k.length - 1 - a)) y, _, _, rfl, same_mut ee hhH4, ?_, upd_same, ?_⟩
              · rw [show k.length - (a + 1) = k.length - 1 - a by omega]
              · have hstep := quoL_step k y (k.length - 2 - a) (by omega)
                rw [show k.length - 2 - a + 1 = k.length - 1 - a by omega] at hstep
                rw [show k.length - 1 - (a + 1) = k.length - 2 - a by omega, ← hstep]
                exact (Reps.set (fin_rep.mpr rfl) _ hqs).im im7
            · obtain ⟨cr, hs, x9, rfl, ee, hcr, hhs, hqs⟩ := hS
              rw [show ((vs2.length : Int) - 1 - 0).toNat = k.length - 1 by omega, Nat.sub_self, quoL_end] at hqs
              walk_at "go"
              obtain ⟨m, hm⟩ : ∃ m, k.length = m + 1 := ⟨k.length - 1, by omega⟩
              obtain ⟨s1, s2, s3, s4⟩ := divOut_step hm hev hledk
              refine ⟨hi', hs, _, quot y k, t + 1, _, _, _, _, rfl, ed4.trans ee, hth, ee _ _ hts4, hT4.up ee, hhs, hqs, quot_led hledk s1, by omega, by rw [d1, s3], by rw [d2, s4]; omega, .inl (by omega)⟩
          · intro h0
            have hev : ev k y ≠ 0 := fun z => h0 (by rw [z]; rfl)
            walk_at "go"
            exact ⟨rl2, vs2, ts2, k, t, _, _, _, _, rfl, ed3, htr2, hts3, hT2.up e3, hrl3, hR2.up e3, hledk, hkt, d1, d2, .inr hev⟩
        · intro hlen
          have hk1 : k.length = 1 := by have := hledk.pos; omega
          walk_at "go"
          exact ⟨rl2, vs2, ts2, k, t, _, _, _, _, rfl, ed, htr2, hts2, hT2, hrl2, hR2, hledk, hkt, d1, d2, .inr (led_one hledk hk1)⟩
      · obtain ⟨rl2, vs2, ts2, k, t, x6, x7, x8, x9, rfl, ed, htr2, hts2, hT2, hrl2, hR2, hledk, hkt, d1, d2, hdone⟩ := hS
        have hne : ev k y ≠ 0 := by
          rcases hdone with h | h
          · have := hledk.pos
            rw [Int.toNat_natCast] at h
            omega
          · exact h
        rw [divOut_stop hne] at d1 d2
        rw [d1, d2]
        refine ⟨rl2, vs2, ts2, _, _, _, _, _, rfl, ed, htr2, hts2, ?_, hrl2, hR2⟩
        rw [Nat.zero_add]
        exact hT2
    · obtain ⟨rl1, vs1, ts1, x5, x6, x7, x8, x9, rfl, ec, htr1, hts1, hT1, hrl1, hR1⟩ := hS
      rw [Int.toNat_natCast, List.take_of_length_le (by simp)] at hT1
      walk_at "go"
      exact q tl ts1 _ ec htl hts1 hT1
end
end
end Kw
set_option maxHeartbeats 4000000
namespace Kw
open PySem PySem.Spec PyProof.Rows L2 RT
local macro_rules | `(tactic| walk_at "step") => `(tactic| with_reducible first
  | refine g_op ?_ | refine g_c ?_ | refine g_test ?_ | refine g_bl ?_ | refine g_seq ?_ | refine g_ifS ?_ | refine g_cons ?_ | refine g_nil ?_ | refine g_I0 ?_ | refine g_asg ?_ | refine g_name ?_
  | refine g_ret ?_ | refine g_nx ?_ | refine g_cb ?_ | refine g_call ?_ | refine g_un ?_ | refine g_rU ?_ | refine g_B ?_ | refine g_and ?_ | refine g_or ?_ | refine g_not ?_ | refine g_andV ?_ | refine g_orV ?_
  | refine g_notV ?_ | refine g_ifE ?_ | refine g_drop ?_ | refine g_par ?_ | refine g_two ?_ | refine g_abs ?_ | refine g_mx ?_ | refine g_int ?_ | refine g_tup ?_ | refine g_lst ?_ | refine g_chain ?_
  | refine g_sl ?_ | refine g_nopart ?_ | refine g_part ?_ | refine g_partI ?_ | refine g_bm ?_ | refine g_sub ?_ | refine g_ip ?_ | refine g_make ?_ | refine g_forR1 ?_ | refine g_forR2 ?_ | refine g_forR3 ?_ | refine g_forL ?_ | refine g_forT ?_ | refine g_forV ?_ | refine g_forVR ?_ | refine g_forE ?_ | refine g_lcL ?_ | refine g_lcT ?_ | refine g_lcR1 ?_ | refine g_lcR2 ?_ | refine g_fld ?_ | refine g_meth ?_ | refine ite_t ?_ | refine ite_nt ?_ | refine ite_nf ?_ | refine g_eqi ?_ | refine g_nei ?_ | refine ite_f ?_ | refine g_isN_n ?_ | refine g_isN_i ?_ | refine g_isN_r ?_ | refine g_notN_n ?_ | refine g_notN_i ?_ | refine g_notN_r ?_ | refine g_isi_ib ?_ | refine g_isi_ii ?_ | refine g_isi_it ?_ | refine g_isi_nt ?_)
local macro_rules | `(tactic| walk_at "var") => `(tactic| ((with_reducible refine' g_var ?hvar ?_); (case hvar => rfl)))
local macro_rules | `(tactic| walk_at "fact") => `(tactic| first
  | ((with_reducible refine' g_ixT ?hfact ?hat ?_); (case hfact => assumption); (case hat => rfl))
  | ((with_reducible refine' g_ixL ?hfact ?hat ?_); (case hfact => assumption); (case hat => rfl)))
local macro_rules | `(tactic| walk_at "fact1") => `(tactic| first
  | ((with_reducible refine' g_lenT ?hfact ?_); (case hfact => assumption))
  | ((with_reducible refine' g_lenL ?hfact ?_); (case hfact => assumption))
  | ((with_reducible refine' g_isi_tt ?hfact ?_); (case hfact => assumption)))
local macro_rules | `(tactic| walk_at "go") => `(tactic| repeat (first | walk_at "step" | walk_at "var" | walk_at "fact" | walk_at "fact1"))
local macro_rules | `(tactic| walk_at "if") => `(tactic| with_reducible first | refine ite_d ?_ ?_ | refine ite_n ?_ ?_ | refine ite_b ?_ ?_)
local macro_rules | `(tactic| walk_at "prime") => `(tactic| refine fig_prime (by assumption) (by assumption) ?_)
local macro_rules | `(tactic| walk_at "zero") => `(tactic| refine fig_zero (by assumption) (by assumption) ?_)
local macro_rules | `(tactic| walk_at "one") => `(tactic| refine fig_one (by assumption) (by assumption) ?_)
local macro_rules | `(tactic| walk_at "meth") => `(tactic| refine fig_meth (by assumption) (by decide +kernel) ?_)
abbrev s__law_chosen : Stmt := topS 68
theorem sc__law_chosen : FnScope ["_law_hand_here", "_law_p", "_law_many", "_law_told_here", "_law_k", "_law_root"] ["_law_hand_here", "_law_p", "_law_many"] (C8.fnScope s__law_chosen) := C8.fnScope_by (by decide +kernel)
abbrev s__law_made : Stmt := topS 69
theorem sc__law_made : FnScope ["_law_p", "_law_chosen_here", "_law_taps", "_law_root", "_law_share", "_law_one", "_law_a"] ["_law_p", "_law_chosen_here"] (C8.fnScope s__law_made) := C8.fnScope_by (by decide +kernel)
section
variable {P : Program} {w : World} {K : PySem.W.Frag} {mg : Str → Option Value} {base : Heap} {f : Addr} {fd : FuncData}
variable {R : Type} [NumC R]
/-! ### drawn couples -/
def OptRep (H : Hp) (v : V) : Option R → Prop
  | none => v = .non
  | some x => Rep H v x
theorem OptRep.im {H H' : Hp} {v : V} {o : Option R} (h : OptRep H v o) (e : Im H H') : OptRep H' v o := by
  cases o with
  | none => exact h
  | some x => exact Rep.im h e
theorem OptRep.dp {H : Hp} {v : V} {o : Option R} (h : OptRep H v o) : ∃ d, Dp K H v d ∧ Okd 1 d := by
  cases o with
  | none =>
    have e : v = .non := h
    subst e
    exact ⟨.none, .non, rfl, Nat.zero_le _⟩
  | some x => exact ⟨_, Rep.dp h, okdC _⟩
def ItRep (H : Hp) (v : V) (c : Option R × R) : Prop := ∃ p r u, v = .ref p ∧ H p = some (.lst [r, u]) ∧ OptRep H r c.1 ∧ Rep H u c.2
def ItN (h tl : Addr) (H : Hp) (v : V) (c : Option R × R) : Prop := ∃ p r u, v = .ref p ∧ p ≠ h ∧ p ≠ tl ∧ H p = some (.lst [r, u]) ∧ OptRep H r c.1 ∧ Rep H u c.2
theorem ItN.it {h tl : Addr} {H : Hp} {v : V} {c : Option R × R} (x : ItN h tl H v c) : ItRep H v c := let ⟨p, r, u, h1, _, _, h4, h5, h6⟩ := x; ⟨p, r, u, h1, h4, h5, h6⟩
theorem items_kept {h tl : Addr} {H H' : Hp} {vs : List V} {cs : List (Option R × R)} (x : Paired (ItN h tl H) vs cs) (k : Kept h H H') (e : Im H H') : Paired (ItN h tl H') vs cs :=
  Paired.mapP x fun _ _ ⟨p, r, u, h1, h2, h3, h4, h5, h6⟩ => ⟨p, r, u, h1, h2, h3, k p _ h2 h4, h5.im e, h6.im e⟩
theorem ItN.mut {h tl : Addr} {H : Hp} {v : V} {c : Option R × R} {o : HO} (x : ItN h tl H v c) (e : Im H (upd H tl o)) : ItN h tl (upd H tl o) v c :=
  let ⟨p, r, u, h1, h2, h3, h4, h5, h6⟩ := x; ⟨p, r, u, h1, h2, h3, by rw [upd_ne h3]; exact h4, h5.im e, h6.im e⟩
theorem items_mut {h tl : Addr} {H : Hp} {vs : List V} {cs : List (Option R × R)} {o : HO} (x : Paired (ItN h tl H) vs cs) (e : Im H (upd H tl o)) : Paired (ItN h tl (upd H tl o)) vs cs := Paired.mapP x fun _ _ y => y.mut e
theorem ItN.dp {h tl : Addr} {H : Hp} {v : V} {c : Option R × R} (x : ItN h tl H v c) : ∃ d, Dp K H v d ∧ Okd 2 d := by
  obtain ⟨p, r, u, h1, h2, h3, h4, h5, h6⟩ := x
  subst h1
  obtain ⟨d, hd, od⟩ := h5.dp (K := K)
  exact ⟨_, .lst (SqL.of h4) (.cons hd (.cons h6.dp .nil)), okd_lst fun x hx => by
    rcases List.mem_cons.mp hx with rfl | hx
    · exact od
    · have : x = datC (NumC.code c.2) := by simpa using hx
      rw [this]
      exact okdC _⟩
theorem items_dp {h tl : Addr} {H : Hp} : ∀ {vs : List V} {cs : List (Option R × R)}, Paired (ItN h tl H) vs cs → ∃ ds, DpAll K H vs ds ∧ (∀ d ∈ ds, Okd 2 d) ∧ ds.length = vs.length
  | _, _, .nil => ⟨[], .nil, (fun d hd => by cases hd), rfl⟩
  | _, _, .cons r t => by
    obtain ⟨d, hd, od⟩ := ItN.dp (K := K) r
    obtain ⟨ds, hds, ods, hl⟩ := items_dp t
    exact ⟨d :: ds, .cons hd hds, (fun x hx => by
      rcases List.mem_cons.mp hx with rfl | hx
      · exact od
      · exact ods x hx), by show ds.length + 1 = _; rw [hl]; rfl⟩
theorem g_neItems {h tl e : Addr} {H : Hp} {ts : List V} {cs : List (Option R × R)} {Q : VK} (x : Paired (ItN h tl H) ts cs) (ht : H tl = some (.lst ts)) (he : H e = some (.lst [])) (q : Q (.bl (!cs.isEmpty)) H) : rNeD K (.ref tl) (.ref e) H Q := by
  obtain ⟨ds, hds, ods, hl⟩ := items_dp (K := K) x
  refine ⟨.list ds, .list [], .lst (SqL.of ht) hds, .lst (SqL.of he) .nil, (okd_lst ods).shaped (by decide), rfl, ?_⟩
  have hlen := paired_len x
  cases ds with
  | nil =>
    cases cs with
    | nil => exact q
    | cons c cs =>
      rw [← hl] at hlen
      simp at hlen
  | cons d ds =>
    cases cs with
    | nil =>
      rw [← hl] at hlen
      simp at hlen
    | cons c cs => exact q
/-- one way or the other, then the same -/
theorem pick {b : Bool} {P : VK} {te : TE} {σ : L2.St} {H1 : Hp} (Cd : V → Hp → Prop) (key : ∀ r Hx, Cd r Hx → P r Hx) (h1 : b = true → Cd .non H1) (h2 : b = false → (∀ r Hx, Cd r Hx → P r Hx) → te σ H1 P) : if b = true then tC .non σ H1 P else te σ H1 P := by
  cases b
  · exact h2 rfl key
  · exact key _ _ (h1 rfl)
def ChOk (cs : List (Option R × R)) : Prop := ∀ c ∈ cs, c.2 ≠ 0 ∧ NumC.Bd 1 c.2 ∧ ∀ x, c.1 = some x → NumC.Bd 1 x
def spChosen (R : Type) [NumC R] : Sp := fun vs H Q _ => ∃ (h cl : Addr) (m : Nat), vs = [.ref h, .int (NumC.p R : Nat), .int m] ∧ HandAt H h cl ∧ m ≤ 20 ∧
  ∀ l us (cs : List (Option R × R)) H', H l = none → H' l = some (.lst us) → Paired (ItRep H') us cs → cs.length = m → ChOk cs → Kept h H H' → HandAt H' h cl → Q (.ref l) H'
theorem ok_law_chosen (B : Bn mg) (c__law_take : C8.Cal P w K mg base 2 "_law_take" spTake []) (c__law_number : C8.Cal P w K mg base 3 "_law_number" (spDraw R fun _ => True) []) (c__law_unlike : C8.Cal P w K mg base 3 "_law_unlike" (spDraw R fun x => x ≠ 0) [])
    (F : C8.Fun K "_law_chosen" "_law_chosen" s__law_chosen f fd) : FnOk P w K mg base C8.CX0 4 f fd ["_law_hand_here", "_law_p", "_law_many"] (spChosen R) := by
  refine C8.fn0 F sc__law_chosen (fun vs H Q E h => ?_) (fun cdv A outer s H vs Q E hr h => ?_)
  · obtain ⟨a, c, m, rfl, _⟩ := h
    rfl
  · obtain ⟨h, cl, m, rfl, hh, hm, q⟩ := h
    refine ⟨_, (pss_cons (ps_set (i := 3) sc__law_chosen.nd rfl (by first | exact .inl rfl | exact .inr rfl) (pe_lst pa_nil))
    (pss_cons (ps_for PassesOwn.never rfl (pi_range1 (by rfl) B.range_ (pa_cons (pv 2) pa_nil)) (pg_name (i := 4) sc__law_chosen.nd rfl (by first | exact .inl rfl | exact .inr rfl))
    ((pss_cons (ps_set (i := 5) sc__law_chosen.nd rfl (by first | exact .inl rfl | exact .inr rfl) (pe_ifExp (pt_cmpR op_eq (C8.pe_c c__law_take hr (by decide) (by rfl) (pa_cons (pv 0) (pa_cons pe_int pa_nil))) pe_int (nomark _)) pe_non (C8.pe_c c__law_number hr (by decide) (by rfl) (pa_cons (pv 0) (pa_cons (pv 1) pa_nil)))))
    (pss_cons (ps_if (PW.pt (pw_and (pt_cmpR (op_neD hr.units) (pv 3) (pe_lst pa_nil) (nomark _)) (pw_and1 (pt_cmpR op_eq (C8.pe_c c__law_take hr (by decide) (by rfl) (pa_cons (pv 0) (pa_cons pe_int pa_nil))) pe_int (nomark _)))))
    ((pss_one (ps_set (i := 5) sc__law_chosen.nd rfl (by first | exact .inl rfl | exact .inr rfl) (pe_ix ix_list (pe_ix ix_list (pv 3) pe_int (fun _ _ => rfl)) pe_int (fun _ _ => rfl))))) pss_nil)
    (pss_one (ps_expr (pe_bm PySem.F.plainAttrs_list PySem.F.slot_list_append PySem.F.type_list_append mt_append (pv 3) (pa_cons (pe_lst (pa_cons (pv 5) (pa_cons (C8.pe_c c__law_unlike hr (by decide) (by rfl) (pa_cons (pv 0) (pa_cons (pv 1) pa_nil))) pa_nil))) pa_nil))))))))
    (pss_one (ps_ret (pv 3))))), ?_⟩
    refine go_start (show _ = [some _, some _, some _, none, none, none] from rfl) ?_
    walk_at "go"
    refine ⟨(by show 0 ≤ sizeLine; decide), fun tl htln => ?_⟩
    obtain ⟨htlh, htlc⟩ := hh.ne htln
    walk_at "go"
    refine ⟨_, rfl, by omega, by omega, lp_range (fun i σ' Hc => ∃ (ts : List V) (cs : List (Option R × R)) (x4 x5 : Option V), σ' = [some (.ref h), some (.int (NumC.p R : Nat)), some (.int (m : Nat)), some (.ref tl), x4, x5] ∧ Hc tl = some (.lst ts) ∧ Paired (ItN h tl Hc) ts cs ∧ cs.length = i ∧ ChOk cs ∧ Kept h H Hc ∧ HandAt Hc h cl)
      ⟨[], [], none, none, rfl, upd_same, .nil, rfl, (fun c hc => by cases hc), (Kept.refl h H).mut htln, hh.mut htlh htlc⟩ (fun i σ' Hc hi hS => ?_) (fun σ' Hc hS => ?_)⟩
    · obtain ⟨ts, cs, x4, x5, rfl, hts, hits, hlen, hok, hk, hhc⟩ := hS
      rw [Int.toNat_natCast] at hi
      walk_at "go"
      refine ⟨h, cl, 5, rfl, hhc, by decide, by decide, fun k1 H1 _ _ kk1 h1 => ?_⟩
      have hts1 := kk1 tl _ htlh hts
      have its1 := items_kept hits kk1 (hhc.im kk1)
      have hk1 := hk.trans kk1
      walk_at "go"
      refine pick (fun r Hx => ∃ o : Option R, OptRep Hx r o ∧ (∀ x, o = some x → NumC.Bd 1 x) ∧ Hx tl = some (.lst ts) ∧ Paired (ItN h tl Hx) ts cs ∧ Kept h H Hx ∧ HandAt Hx h cl) (fun r Hx hC => ?_) (fun _ => ⟨none, rfl, (fun x z => by cases z), hts1, its1, hk1, h1⟩) (fun _ key => ?_)
      · obtain ⟨o, ro, bo, htx, itx, kx, hx⟩ := hC
        walk_at "go"
        refine ⟨(by show 0 ≤ sizeLine; decide), fun pe hpe => ?_⟩
        have e2 := same_new (o := HO.lst []) hpe
        have htx2 := e2 _ _ htx
        have itx2 := items_kept itx (Same.kept e2) (Same.im e2)
        refine g_neItems itx2 htx2 upd_same ?_
        have kx2 := kx.trans (Same.kept e2)
        have hx2 := hx.up e2
        have ro2 := ro.im (Same.im e2)
        generalize (upd Hx pe (.lst [])) = H2 at *
        cases hcs : cs with
        | nil =>
          rw [show (!([] : List (Option R × R)).isEmpty) = false from rfl]
          walk_at "go"
          walk_at "go"
          refine g_tyL htx2 ?_
          walk_at "go"
          refine ⟨h, cl, rfl, hx2, fun u sx H6 ru bu nu k6 h6 => ?_⟩
          have im6 := hx2.im k6
          have hts6 := k6 tl _ htlh htx2
          have it6 := items_kept itx2 k6 im6
          have or6 := OptRep.im ro2 im6
          walk_at "go"
          refine ⟨(by show 2 ≤ sizeLine; decide), fun p7 n7 => ?_⟩
          have e7 := same_new (o := HO.lst [r, u]) n7
          have hp7h : p7 ≠ h := (h6.ne n7).1
          have hp7t : p7 ≠ tl := fun z => by rw [z, hts6] at n7; cases n7
          have hts7 := e7 _ _ hts6
          have it7 := items_kept it6 (Same.kept e7) (Same.im e7)
          have hp7 : ItN h tl (upd H6 p7 (.lst [r, u])) (.ref p7) (o, sx) := ⟨p7, r, u, rfl, hp7h, hp7t, upd_same, or6.im (Same.im e7), ru.up e7⟩
          have h7 := h6.up e7
          have k07 := kx2.trans (k6.trans (Same.kept e7))
          generalize (upd H6 p7 (.lst [r, u])) = H7 at *
          walk_at "go"
          refine g_app hts7 (by rw [paired_len it7]; omega) ?_
          have im8 : Im H7 (upd H7 tl (.lst (ts ++ [V.ref p7]))) := im_upd hts7
          refine ⟨ts ++ [V.ref p7], cs ++ [(o, sx)], _, _, rfl, upd_same, Paired.snoc (items_mut it7 im8) (ItN.mut hp7 im8), by rw [List.length_append, hlen]; rfl, ?_, k07.mut htln, h7.mut htlh htlc⟩
          intro c hc
          rcases List.mem_append.mp hc with hc | hc
          · exact hok c hc
          · have : c = (o, sx) := by simpa using hc
            subst this
            exact ⟨nu, bu, bo⟩
        | cons c0 cs0 =>
          rw [show (!(c0 :: cs0).isEmpty) = true from rfl]
          walk_at "go"
          refine ⟨h, cl, 3, rfl, hx2, by decide, by decide, fun k3 H3 _ _ kk3 h3 => ?_⟩
          have hts3 := kk3 tl _ htlh htx2
          have its3 := items_kept itx2 kk3 (hx2.im kk3)
          have ro3 := ro2.im (hx2.im kk3)
          have k03 := kx2.trans kk3
          walk_at "go"
          walk_at "if"
          · intro hz
            have hc0 : cs[0]? = some c0 := by rw [hcs]; rfl
            have hpl := paired_len its3
            obtain ⟨t0, ht0⟩ : ∃ t0, ts[0]? = some t0 := ⟨_, List.getElem?_eq_getElem (by rw [hpl, hcs]; show 0 < cs0.length + 1; omega)⟩
            obtain ⟨c1, hc1, p0, r0, u0, rfl, hp0h, hp0t, hp0, ho0, hu0⟩ := paired_get its3 ht0
            walk_at "go"
            refine g_ixLn (j := 0) hts3 rfl ht0 ?_
            walk_at "go"
            have hbo0 := (hok c1 (List.mem_of_getElem? hc1)).2.2
            walk_at "go"
            refine g_tyL hts3 ?_
            walk_at "go"
            refine ⟨h, cl, rfl, h3, fun u sx H6 ru bu nu k6 h6 => ?_⟩
            have im6 := h3.im k6
            have hts6 := k6 tl _ htlh hts3
            have it6 := items_kept its3 k6 im6
            have or6 := OptRep.im ho0 im6
            walk_at "go"
            refine ⟨(by show 2 ≤ sizeLine; decide), fun p7 n7 => ?_⟩
            have e7 := same_new (o := HO.lst [r0, u]) n7
            have hp7h : p7 ≠ h := (h6.ne n7).1
            have hp7t : p7 ≠ tl := fun z => by rw [z, hts6] at n7; cases n7
            have hts7 := e7 _ _ hts6
            have it7 := items_kept it6 (Same.kept e7) (Same.im e7)
            have hp7 : ItN h tl (upd H6 p7 (.lst [r0, u])) (.ref p7) (c1.1, sx) := ⟨p7, r0, u, rfl, hp7h, hp7t, upd_same, or6.im (Same.im e7), ru.up e7⟩
            have h7 := h6.up e7
            have k07 := k03.trans (k6.trans (Same.kept e7))
            generalize (upd H6 p7 (.lst [r0, u])) = H7 at *
            walk_at "go"
            refine g_app hts7 (by rw [paired_len it7]; omega) ?_
            have im8 : Im H7 (upd H7 tl (.lst (ts ++ [V.ref p7]))) := im_upd hts7
            refine ⟨ts ++ [V.ref p7], cs ++ [(c1.1, sx)], _, _, rfl, upd_same, Paired.snoc (items_mut it7 im8) (ItN.mut hp7 im8), by rw [List.length_append, hlen]; rfl, ?_, k07.mut htln, h7.mut htlh htlc⟩
            intro c hc
            rcases List.mem_append.mp hc with hc | hc
            · exact hok c hc
            · have : c = (c1.1, sx) := by simpa using hc
              subst this
              exact ⟨nu, bu, hbo0⟩
          · intro hz
            walk_at "go"
            walk_at "go"
            refine g_tyL hts3 ?_
            walk_at "go"
            refine ⟨h, cl, rfl, h3, fun u sx H6 ru bu nu k6 h6 => ?_⟩
            have im6 := h3.im k6
            have hts6 := k6 tl _ htlh hts3
            have it6 := items_kept its3 k6 im6
            have or6 := OptRep.im ro3 im6
            walk_at "go"
            refine ⟨(by show 2 ≤ sizeLine; decide), fun p7 n7 => ?_⟩
            have e7 := same_new (o := HO.lst [r, u]) n7
            have hp7h : p7 ≠ h := (h6.ne n7).1
            have hp7t : p7 ≠ tl := fun z => by rw [z, hts6] at n7; cases n7
            have hts7 := e7 _ _ hts6
            have it7 := items_kept it6 (Same.kept e7) (Same.im e7)
            have hp7 : ItN h tl (upd H6 p7 (.lst [r, u])) (.ref p7) (o, sx) := ⟨p7, r, u, rfl, hp7h, hp7t, upd_same, or6.im (Same.im e7), ru.up e7⟩
            have h7 := h6.up e7
            have k07 := k03.trans (k6.trans (Same.kept e7))
            generalize (upd H6 p7 (.lst [r, u])) = H7 at *
            walk_at "go"
            refine g_app hts7 (by rw [paired_len it7]; omega) ?_
            have im8 : Im H7 (upd H7 tl (.lst (ts ++ [V.ref p7]))) := im_upd hts7
            refine ⟨ts ++ [V.ref p7], cs ++ [(o, sx)], _, _, rfl, upd_same, Paired.snoc (items_mut it7 im8) (ItN.mut hp7 im8), by rw [List.length_append, hlen]; rfl, ?_, k07.mut htln, h7.mut htlh htlc⟩
            intro c hc
            rcases List.mem_append.mp hc with hc | hc
            · exact hok c hc
            · have : c = (o, sx) := by simpa using hc
              subst this
              exact ⟨nu, bu, bo⟩
      · walk_at "go"
        refine ⟨h, cl, rfl, h1, fun v x H2 rx bx _ kk2 h2 => ?_⟩
        exact key v H2 ⟨some x, rx, (fun y z => by cases z; exact bx), kk2 tl _ htlh hts1, items_kept its1 kk2 (h1.im kk2), hk1.trans kk2, h2⟩
    · obtain ⟨ts, cs, x4, x5, rfl, hts, hits, hlen, hok, hk, hhc⟩ := hS
      rw [Int.toNat_natCast] at hlen
      walk_at "go"
      exact q tl ts cs Hc htln hts (Paired.mapP hits fun _ _ y => y.it) hlen hok hk hhc
end
end Kw
set_option maxHeartbeats 4000000
namespace Kw
open PySem PySem.Spec PyProof.Rows L2 RT
local macro_rules | `(tactic| walk_at "step") => `(tactic| with_reducible first
  | refine g_op ?_ | refine g_c ?_ | refine g_test ?_ | refine g_bl ?_ | refine g_seq ?_ | refine g_ifS ?_ | refine g_cons ?_ | refine g_nil ?_ | refine g_I0 ?_ | refine g_asg ?_ | refine g_name ?_
  | refine g_ret ?_ | refine g_nx ?_ | refine g_cb ?_ | refine g_call ?_ | refine g_un ?_ | refine g_rU ?_ | refine g_B ?_ | refine g_and ?_ | refine g_or ?_ | refine g_not ?_ | refine g_andV ?_ | refine g_orV ?_
  | refine g_notV ?_ | refine g_ifE ?_ | refine g_drop ?_ | refine g_par ?_ | refine g_two ?_ | refine g_abs ?_ | refine g_mx ?_ | refine g_int ?_ | refine g_tup ?_ | refine g_lst ?_ | refine g_chain ?_
  | refine g_sl ?_ | refine g_nopart ?_ | refine g_part ?_ | refine g_partI ?_ | refine g_bm ?_ | refine g_sub ?_ | refine g_ip ?_ | refine g_make ?_ | refine g_forR1 ?_ | refine g_forR2 ?_ | refine g_forR3 ?_ | refine g_forL ?_ | refine g_forT ?_ | refine g_forV ?_ | refine g_forVR ?_ | refine g_forE ?_ | refine g_lcL ?_ | refine g_lcT ?_ | refine g_lcR1 ?_ | refine g_lcR2 ?_ | refine g_fld ?_ | refine g_meth ?_ | refine ite_t ?_ | refine ite_nt ?_ | refine ite_nf ?_ | refine g_eqi ?_ | refine g_nei ?_ | refine ite_f ?_ | refine g_isN_n ?_ | refine g_isN_i ?_ | refine g_isN_r ?_ | refine g_notN_n ?_ | refine g_notN_i ?_ | refine g_notN_r ?_ | refine g_isi_ib ?_ | refine g_isi_ii ?_ | refine g_isi_it ?_ | refine g_isi_nt ?_)
local macro_rules | `(tactic| walk_at "var") => `(tactic| ((with_reducible refine' g_var ?hvar ?_); (case hvar => rfl)))
local macro_rules | `(tactic| walk_at "fact") => `(tactic| first
  | ((with_reducible refine' g_ixT ?hfact ?hat ?_); (case hfact => assumption); (case hat => rfl))
  | ((with_reducible refine' g_ixL ?hfact ?hat ?_); (case hfact => assumption); (case hat => rfl)))
local macro_rules | `(tactic| walk_at "fact1") => `(tactic| first
  | ((with_reducible refine' g_lenT ?hfact ?_); (case hfact => assumption))
  | ((with_reducible refine' g_lenL ?hfact ?_); (case hfact => assumption))
  | ((with_reducible refine' g_isi_tt ?hfact ?_); (case hfact => assumption)))
local macro_rules | `(tactic| walk_at "go") => `(tactic| repeat (first | walk_at "step" | walk_at "var" | walk_at "fact" | walk_at "fact1"))
local macro_rules | `(tactic| walk_at "if") => `(tactic| with_reducible first | refine ite_d ?_ ?_ | refine ite_n ?_ ?_ | refine ite_b ?_ ?_)
local macro_rules | `(tactic| walk_at "prime") => `(tactic| refine fig_prime (by assumption) (by assumption) ?_)
local macro_rules | `(tactic| walk_at "zero") => `(tactic| refine fig_zero (by assumption) (by assumption) ?_)
local macro_rules | `(tactic| walk_at "one") => `(tactic| refine fig_one (by assumption) (by assumption) ?_)
local macro_rules | `(tactic| walk_at "meth") => `(tactic| refine fig_meth (by assumption) (by decide +kernel) ?_)
section
variable {P : Program} {w : World} {K : PySem.W.Frag} {mg : Str → Option Value} {base : Heap} {f : Addr} {fd : FuncData}
variable {R : Type} [NumC R]
/-! ### taps made of couples -/
def cplF (c : Option R × R) : List R := match c.1 with
  | none => [c.2 * 1, c.2 * 0]
  | some r => [c.2 * (0 - r), c.2 * 1]
def madeF (cs : List (Option R × R)) : List R := cs.foldl (fun f c => conv f (cplF c)) [1]
theorem cplF_len (c : Option R × R) : (cplF c).length = 2 := by
  unfold cplF
  split <;> rfl
theorem madeF_take {cs : List (Option R × R)} {i : Nat} {c : Option R × R} (h : cs[i]? = some c) : madeF (cs.take (i + 1)) = conv (madeF (cs.take i)) (cplF c) := by
  unfold madeF
  rw [List.take_add_one, h, List.foldl_append]
  rfl
theorem ItRep.im {H H' : Hp} {v : V} {c : Option R × R} (x : ItRep H v c) (e : Same H H') : ItRep H' v c := let ⟨p, r, u, h1, h2, h3, h4⟩ := x; ⟨p, r, u, h1, e _ _ h2, h3.im (Same.im e), h4.up e⟩
theorem g_notN_R {H : Hp} {v : V} {x : R} {Q : VK} (h : Rep H v x) (q : Q (.bl true) H) : rNotN v .non H Q := by
  unfold Rep at h
  generalize NumC.code x = c at h
  obtain ⟨t, b⟩ := c
  cases b with
  | none =>
    have e : v = .int t := h
    rw [e]
    exact g_notN_i q
  | some b =>
    obtain ⟨a, h1, h2⟩ := h
    rw [h1]
    exact g_notN_r q
def spMade (R : Type) [NumC R] : Sp := fun vs H Q _ => ∃ (l : Addr) (us : List V) (cs : List (Option R × R)), vs = [.int (NumC.p R : Nat), .ref l] ∧ H l = some (.lst us) ∧ Paired (ItRep H) us cs ∧ ChOk cs ∧ cs.length ≤ 9 ∧
  ∀ l' zs H', Same H H' → H l' = none → H' l' = some (.lst zs) → Reps H' zs (madeF cs) → (madeF cs).length = cs.length + 1 → Bds 36 (madeF cs) → Q (.ref l') H'
theorem ok_law_made (B : Bn mg) (c__law_num : C8.Cal P w K mg base 1 "_law_num" (spNum R) []) (c__law_less : C8.Cal P w K mg base 4 "_law_less" (spL2 R fun x y => x - y) []) (c__law_times : C8.Cal P w K mg base 3 "_law_times" (spL2 R fun x y => x * y) [])
    (c__law_multiplied : C8.Cal P w K mg base 4 "_law_multiplied" (spMul R) []) (F : C8.Fun K "_law_made" "_law_made" s__law_made f fd) : FnOk P w K mg base C8.CX0 5 f fd ["_law_p", "_law_chosen_here"] (spMade R) := by
  refine C8.fn0 F sc__law_made (fun vs H Q E h => ?_) (fun cdv A outer s H vs Q E hr h => ?_)
  · obtain ⟨a, us, c, rfl, _⟩ := h
    rfl
  · obtain ⟨l, us, cs, rfl, hl, hits, hok, h9, q⟩ := h
    have hul := paired_len hits
    refine ⟨_, (pss_cons (ps_set (i := 2) sc__law_made.nd rfl (by first | exact .inl rfl | exact .inr rfl) (pe_lst (pa_cons (C8.pe_c c__law_num hr (by decide) (by rfl) (pa_cons (pv 0) (pa_cons pe_int pa_nil))) pa_nil)))
    (pss_cons (ps_for PassesOwn.never rfl (pi_list (pv 1)) (pg_unl (n := 2) rfl (pgs_cons (pg_name (i := 3) sc__law_made.nd rfl (by first | exact .inl rfl | exact .inr rfl)) (pgs_cons (pg_name (i := 4) sc__law_made.nd rfl (by first | exact .inl rfl | exact .inr rfl)) pgs_nil)))
    ((pss_cons (ps_set (i := 5) sc__law_made.nd rfl (by first | exact .inl rfl | exact .inr rfl) (pe_lst (pa_cons (C8.pe_c c__law_num hr (by decide) (by rfl) (pa_cons (pv 0) (pa_cons pe_int pa_nil))) (pa_cons (C8.pe_c c__law_num hr (by decide) (by rfl) (pa_cons (pv 0) (pa_cons pe_int pa_nil))) pa_nil))))
    (pss_cons (ps_if (pt_cmpR op_notN_ (pv 3) pe_non (nomark _))
    ((pss_one (ps_set (i := 5) sc__law_made.nd rfl (by first | exact .inl rfl | exact .inr rfl) (pe_lst (pa_cons (C8.pe_c c__law_less hr (by decide) (by rfl) (pa_cons (pv 0) (pa_cons (C8.pe_c c__law_num hr (by decide) (by rfl) (pa_cons (pv 0) (pa_cons pe_int pa_nil))) (pa_cons (pv 3) pa_nil)))) (pa_cons (C8.pe_c c__law_num hr (by decide) (by rfl) (pa_cons (pv 0) (pa_cons pe_int pa_nil))) pa_nil)))))) pss_nil)
    (pss_one (ps_set (i := 2) sc__law_made.nd rfl (by first | exact .inl rfl | exact .inr rfl) (C8.pe_c c__law_multiplied hr (by decide) (by rfl) (pa_cons (pv 0) (pa_cons (pv 2) (pa_cons (pe_lc (own := [("_law_a", 6)]) rfl sc__law_made.nd (pi_list (pv 5)) (blkOk_by (own := [("_law_a", 6)]) (N := ["_law_p", "_law_chosen_here", "_law_taps", "_law_root", "_law_share", "_law_one", "_law_a"]) (sc := C8.fnScope s__law_made) (by decide +kernel)) (fun _ _ _ _ _ => (pg_name (i := 6) sc__law_made.nd rfl (by first | exact .inl rfl | exact .inr rfl))) (fun _ _ _ _ _ => pts_nil) (fun _ _ _ _ _ => (C8.pe_c c__law_times hr (by decide) (by rfl) (pa_cons (pv 0) (pa_cons (pv 4) (pa_cons (pv 6) pa_nil)))))) pa_nil))))))))))
    (pss_one (ps_ret (pv 2))))), ?_⟩
    refine go_start (show _ = [some _, some _, none, none, none, none, none] from rfl) ?_
    walk_at "go"
    refine ⟨1, rfl, fun v H1 e1 hv => ?_⟩
    rw [NumC.of_1] at hv
    walk_at "go"
    refine ⟨(by show 1 ≤ sizeLine; decide), fun t0 ht0 => ?_⟩
    have e2 := Same.up (o := HO.lst [v]) e1 ht0
    have hT0 : Reps (R := R) (upd H1 t0 (.lst [v])) [v] (madeF (cs.take 0)) := .cons (hv.up (same_new (o := HO.lst [v]) ht0)) .nil
    have htv : (upd H1 t0 (.lst [v])) t0 = some (.lst [v]) := upd_same
    have ht0H : H t0 = none := Same.free e1 ht0
    generalize (upd H1 t0 (.lst [v])) = H2 at *
    walk_at "go"
    refine ⟨l, rfl, ⟨us, SqL.of (e2 _ _ hl)⟩, lp_list (xs := us) (fun i σ' Hc => ∃ (tl : Addr) (ts : List V) (x3 x4 x5 x6 : Option V), σ' = [some (.int (NumC.p R : Nat)), some (.ref l), some (.ref tl), x3, x4, x5, none] ∧ Same H Hc ∧ H tl = none ∧ Hc tl = some (.lst ts) ∧ Reps Hc ts (madeF (cs.take i)) ∧ (madeF (cs.take i)).length = i + 1 ∧ Bds (4 * i) (madeF (cs.take i)))
      ⟨t0, [v], none, none, none, none, rfl, e2, ht0H, htv, hT0, rfl, ?_⟩ (fun i σ' Hc _ hS => ?_) (fun i x σ' Hc hx hS => ?_) (fun σ' Hc hS => ?_)⟩
    · intro y hy
      have : y = 1 := by simpa [madeF] using hy
      rw [this]
      exact NumC.bd_1
    · obtain ⟨_, _, _, _, _, _, _, e, _⟩ := hS
      exact SqL.of (e _ _ hl)
    · obtain ⟨tl, ts, x3, x4, x5, x6, rfl, ec, htH, hts, hT, hfl, hB⟩ := hS
      obtain ⟨c, hc, p, r, u, rfl, hp, hor, hru⟩ := paired_get hits hx
      have hcok := hok c (List.mem_of_getElem? hc)
      have hi : i < cs.length := (List.getElem?_eq_some_iff.mp hc).1
      have hmade := madeF_take hc
      refine g_unl2 (ec _ _ hp) ?_
      walk_at "go"
      refine ⟨1, rfl, fun v1 H3 e3 h3 => ?_⟩
      rw [NumC.of_1] at h3
      walk_at "go"
      refine ⟨0, rfl, fun v2 H4 e4 h4 => ?_⟩
      rw [NumC.of_0] at h4
      walk_at "go"
      refine ⟨(by show 2 ≤ sizeLine; decide), fun ol hol => ?_⟩
      have e34 := e3.trans e4
      have e5 := Same.up (o := HO.lst [v1, v2]) e34 hol
      have holv : (upd H4 ol (.lst [v1, v2])) ol = some (.lst [v1, v2]) := upd_same
      have hou : Reps (R := R) (upd H4 ol (.lst [v1, v2])) [v1, v2] [1, 0] := .cons ((h3.up e4).up (same_new (o := HO.lst [v1, v2]) hol)) (.cons (h4.up (same_new (o := HO.lst [v1, v2]) hol)) .nil)
      have hruc := hru.up ec
      have horc := hor.im (Same.im ec)
      generalize (upd H4 ol (.lst [v1, v2])) = H5 at *
      cases hco : c.1 with
      | none =>
        rw [hco] at horc
        have er : r = .non := horc
        subst er
        have hstep : madeF (cs.take (i + 1)) = conv (madeF (cs.take i)) [c.2 * 1, c.2 * 0] := by
          rw [hmade]
          unfold cplF
          rw [hco]
        walk_at "go"
        refine ⟨ol, rfl, ⟨_, SqL.of holv⟩, fun Dl hD => lc_wordL (xs := [v1, v2]) (fun i ys Ha => ys.length = i ∧ i ≤ 2 ∧ Reps Ha ys (([1, 0] : List R).take i |>.map fun a => c.2 * a)) holv (fun _ _ _ _ h im => ⟨h.1, h.2.1, h.2.2.im im⟩) (fun i ys _ h => by omega) hD ⟨rfl, by decide, .nil⟩ (fun i x ys Hd hx ed h => ?_) (fun ys Hd ed hys h => ?_)⟩
        · intro Qk Qn hk hn
          have hi2 : i < 2 := (List.getElem?_eq_some_iff.mp hx).1
          obtain ⟨a, ha, ra⟩ := (hou.up ed).get' hx
          have ba : NumC.Bd 1 a := by
            have : a ∈ ([1, 0] : List R) := List.mem_of_getElem? ha
            rcases List.mem_cons.mp this with rfl | h
            · exact (NumC.bd_mono (Nat.zero_le _) NumC.bd_1)
            · rw [List.mem_singleton.mp h]
              exact (NumC.bd_mono (Nat.zero_le _) NumC.bd_0)
          walk_at "go"
          refine ⟨rfl, g_yes (ite_t ?_)⟩
          walk_at "go"
          refine ⟨_, x, c.2, a, rfl, (hruc.up e5).up ed, ra, NumC.bd_mono (by decide) hcok.2.1, NumC.bd_mono (by decide) ba, fun v H6 e6 h6 => ?_⟩
          refine hk _ _ e6 ⟨by rw [List.length_append, h.1]; rfl, hi2, ?_⟩
          rw [List.take_add_one, ha, List.map_append]
          exact Paired.snoc (h.2.2.up e6) h6
        · have h2 : Reps Hd ys [c.2 * 1, c.2 * 0] := h.2.2
          have e5d := e5.trans ed
          have ecd := ec.trans e5d
          walk_at "go"
          refine ⟨tl, Dl, ts, ys, _, _, 4 * i, 2, rfl, .inl (e5d _ _ hts), hT.up e5d, .inl hys, h2, by rw [hfl]; omega, by show 1 ≤ 2; decide, by rw [hfl]; show _ + 2 ≤ 40; omega, hB, ?_, by show 4 * i + 2 + 2 + 2 ≤ 800; omega, fun l' zs H7 e7 hl' hz' hr' => ?_⟩
          · intro y hy
            rcases List.mem_cons.mp hy with rfl | hy
            · exact NumC.bd_times (m := 1) hcok.2.1 (NumC.bd_mono (Nat.zero_le _) NumC.bd_1)
            · rw [List.mem_singleton.mp hy]
              exact NumC.bd_times (m := 1) hcok.2.1 (NumC.bd_mono (Nat.zero_le _) NumC.bd_0)
          · walk_at "go"
            refine ⟨l', zs, _, _, _, none, rfl, ecd.trans e7, Same.free ecd hl', hz', ?_, ?_, ?_⟩
            · rw [hstep]
              exact hr'
            · rw [hstep, conv_len, hfl]
              rfl
            · rw [hstep]
              exact bds_mono (by show 4 * i + 2 + 2 ≤ 4 * (i + 1); omega) (bds_conv hB (m := 2) fun y hy => by
                rcases List.mem_cons.mp hy with rfl | hy
                · exact NumC.bd_times (m := 1) hcok.2.1 (NumC.bd_mono (Nat.zero_le _) NumC.bd_1)
                · rw [List.mem_singleton.mp hy]
                  exact NumC.bd_times (m := 1) hcok.2.1 (NumC.bd_mono (Nat.zero_le _) NumC.bd_0))
      | some r0 =>
        rw [hco] at horc
        have hr0 : Rep Hc r r0 := horc
        have br0 := hcok.2.2 r0 hco
        have hstep : madeF (cs.take (i + 1)) = conv (madeF (cs.take i)) [c.2 * (0 - r0), c.2 * 1] := by
          rw [hmade]
          unfold cplF
          rw [hco]
        walk_at "go"
        refine g_notN_R (hr0.up e5) ?_
        walk_at "go"
        refine ⟨0, rfl, fun v3 H6 e6 h6 => ?_⟩
        rw [NumC.of_0] at h6
        walk_at "go"
        refine ⟨v3, r, 0, r0, rfl, h6, hr0.up (e5.trans e6), NumC.bd_mono (Nat.zero_le _) NumC.bd_0, NumC.bd_mono (by decide) br0, fun v4 H7 e7 h7 => ?_⟩
        walk_at "go"
        refine ⟨1, rfl, fun v5 H8 e8 h8 => ?_⟩
        rw [NumC.of_1] at h8
        walk_at "go"
        refine ⟨(by show 2 ≤ sizeLine; decide), fun ol2 hol2 => ?_⟩
        have e9 := Same.up (o := HO.lst [v4, v5]) (e5.trans (e6.trans (e7.trans e8))) hol2
        have holv2 : (upd H8 ol2 (.lst [v4, v5])) ol2 = some (.lst [v4, v5]) := upd_same
        have hou2 : Reps (R := R) (upd H8 ol2 (.lst [v4, v5])) [v4, v5] [0 - r0, 1] := .cons ((h7.up e8).up (same_new (o := HO.lst [v4, v5]) hol2)) (.cons (h8.up (same_new (o := HO.lst [v4, v5]) hol2)) .nil)
        have bneg : NumC.Bd 1 (0 - r0) := by
          have e : (0 : R) - r0 = -r0 := by grind
          rw [e]
          exact NumC.bd_neg br0
        generalize (upd H8 ol2 (.lst [v4, v5])) = H9 at *
        walk_at "go"
        refine ⟨ol2, rfl, ⟨_, SqL.of holv2⟩, fun Dl hD => lc_wordL (xs := [v4, v5]) (fun i ys Ha => ys.length = i ∧ i ≤ 2 ∧ Reps Ha ys (([(0 - r0), 1] : List R).take i |>.map fun a => c.2 * a)) holv2 (fun _ _ _ _ h im => ⟨h.1, h.2.1, h.2.2.im im⟩) (fun i ys _ h => by omega) hD ⟨rfl, by decide, .nil⟩ (fun i x ys Hd hx ed h => ?_) (fun ys Hd ed hys h => ?_)⟩
        · intro Qk Qn hk hn
          have hi2 : i < 2 := (List.getElem?_eq_some_iff.mp hx).1
          obtain ⟨a, ha, ra⟩ := (hou2.up ed).get' hx
          have ba : NumC.Bd 1 a := by
            have : a ∈ ([(0 - r0), 1] : List R) := List.mem_of_getElem? ha
            rcases List.mem_cons.mp this with rfl | h
            · exact bneg
            · rw [List.mem_singleton.mp h]
              exact (NumC.bd_mono (Nat.zero_le _) NumC.bd_1)
          walk_at "go"
          refine ⟨rfl, g_yes (ite_t ?_)⟩
          walk_at "go"
          refine ⟨_, x, c.2, a, rfl, (hruc.up e9).up ed, ra, NumC.bd_mono (by decide) hcok.2.1, NumC.bd_mono (by decide) ba, fun v H6 e6 h6 => ?_⟩
          refine hk _ _ e6 ⟨by rw [List.length_append, h.1]; rfl, hi2, ?_⟩
          rw [List.take_add_one, ha, List.map_append]
          exact Paired.snoc (h.2.2.up e6) h6
        · have h2 : Reps Hd ys [c.2 * (0 - r0), c.2 * 1] := h.2.2
          have e5d := e9.trans ed
          have ecd := ec.trans e5d
          walk_at "go"
          refine ⟨tl, Dl, ts, ys, _, _, 4 * i, 2, rfl, .inl (e5d _ _ hts), hT.up e5d, .inl hys, h2, by rw [hfl]; omega, by show 1 ≤ 2; decide, by rw [hfl]; show _ + 2 ≤ 40; omega, hB, ?_, by show 4 * i + 2 + 2 + 2 ≤ 800; omega, fun l' zs H7 e7 hl' hz' hr' => ?_⟩
          · intro y hy
            rcases List.mem_cons.mp hy with rfl | hy
            · exact NumC.bd_times (m := 1) hcok.2.1 bneg
            · rw [List.mem_singleton.mp hy]
              exact NumC.bd_times (m := 1) hcok.2.1 (NumC.bd_mono (Nat.zero_le _) NumC.bd_1)
          · walk_at "go"
            refine ⟨l', zs, _, _, _, none, rfl, ecd.trans e7, Same.free ecd hl', hz', ?_, ?_, ?_⟩
            · rw [hstep]
              exact hr'
            · rw [hstep, conv_len, hfl]
              rfl
            · rw [hstep]
              exact bds_mono (by show 4 * i + 2 + 2 ≤ 4 * (i + 1); omega) (bds_conv hB (m := 2) fun y hy => by
                rcases List.mem_cons.mp hy with rfl | hy
                · exact NumC.bd_times (m := 1) hcok.2.1 bneg
                · rw [List.mem_singleton.mp hy]
                  exact NumC.bd_times (m := 1) hcok.2.1 (NumC.bd_mono (Nat.zero_le _) NumC.bd_1))
    · obtain ⟨tl, ts, x3, x4, x5, x6, rfl, ec, htH, hts, hT, hfl, hB⟩ := hS
      rw [List.take_of_length_le (by omega)] at hT hfl hB
      walk_at "go"
      exact q tl ts Hc ec htH hts hT (by omega) (bds_mono (by omega) hB)
end
end Kw
set_option maxHeartbeats 4000000
namespace Kw
open PySem PySem.Spec PyProof.Rows L2 RT
local macro_rules | `(tactic| walk_at "step") => `(tactic| with_reducible first
  | refine g_op ?_ | refine g_c ?_ | refine g_test ?_ | refine g_bl ?_ | refine g_seq ?_ | refine g_ifS ?_ | refine g_cons ?_ | refine g_nil ?_ | refine g_I0 ?_ | refine g_asg ?_ | refine g_name ?_
  | refine g_ret ?_ | refine g_nx ?_ | refine g_cb ?_ | refine g_call ?_ | refine g_un ?_ | refine g_rU ?_ | refine g_B ?_ | refine g_and ?_ | refine g_or ?_ | refine g_not ?_ | refine g_andV ?_ | refine g_orV ?_
  | refine g_notV ?_ | refine g_ifE ?_ | refine g_drop ?_ | refine g_par ?_ | refine g_two ?_ | refine g_abs ?_ | refine g_mx ?_ | refine g_int ?_ | refine g_tup ?_ | refine g_lst ?_ | refine g_chain ?_
  | refine g_sl ?_ | refine g_nopart ?_ | refine g_part ?_ | refine g_partI ?_ | refine g_bm ?_ | refine g_sub ?_ | refine g_ip ?_ | refine g_make ?_ | refine g_forR1 ?_ | refine g_forR2 ?_ | refine g_forR3 ?_ | refine g_forL ?_ | refine g_forT ?_ | refine g_forV ?_ | refine g_forVR ?_ | refine g_forE ?_ | refine g_lcL ?_ | refine g_lcT ?_ | refine g_lcR1 ?_ | refine g_lcR2 ?_ | refine g_fld ?_ | refine g_meth ?_ | refine ite_t ?_ | refine ite_nt ?_ | refine ite_nf ?_ | refine g_eqi ?_ | refine g_nei ?_ | refine ite_f ?_ | refine g_isN_n ?_ | refine g_isN_i ?_ | refine g_isN_r ?_ | refine g_notN_n ?_ | refine g_notN_i ?_ | refine g_notN_r ?_ | refine g_isi_ib ?_ | refine g_isi_ii ?_ | refine g_isi_it ?_ | refine g_isi_nt ?_)
local macro_rules | `(tactic| walk_at "var") => `(tactic| ((with_reducible refine' g_var ?hvar ?_); (case hvar => rfl)))
local macro_rules | `(tactic| walk_at "fact") => `(tactic| first
  | ((with_reducible refine' g_ixT ?hfact ?hat ?_); (case hfact => assumption); (case hat => rfl))
  | ((with_reducible refine' g_ixL ?hfact ?hat ?_); (case hfact => assumption); (case hat => rfl)))
local macro_rules | `(tactic| walk_at "fact1") => `(tactic| first
  | ((with_reducible refine' g_lenT ?hfact ?_); (case hfact => assumption))
  | ((with_reducible refine' g_lenL ?hfact ?_); (case hfact => assumption))
  | ((with_reducible refine' g_isi_tt ?hfact ?_); (case hfact => assumption)))
local macro_rules | `(tactic| walk_at "go") => `(tactic| repeat (first | walk_at "step" | walk_at "var" | walk_at "fact" | walk_at "fact1"))
local macro_rules | `(tactic| walk_at "if") => `(tactic| with_reducible first | refine ite_d ?_ ?_ | refine ite_n ?_ ?_ | refine ite_b ?_ ?_)
local macro_rules | `(tactic| walk_at "prime") => `(tactic| refine fig_prime (by assumption) (by assumption) ?_)
local macro_rules | `(tactic| walk_at "zero") => `(tactic| refine fig_zero (by assumption) (by assumption) ?_)
local macro_rules | `(tactic| walk_at "one") => `(tactic| refine fig_one (by assumption) (by assumption) ?_)
local macro_rules | `(tactic| walk_at "meth") => `(tactic| refine fig_meth (by assumption) (by decide +kernel) ?_)
abbrev s__law_told : Stmt := topS 71
theorem sc__law_told : FnScope ["_law_p", "_law_taps", "_law_roots_here", "_law_lead_here", "_law_one", "_law_nothing", "_law_couples", "_law_root", "_law_first"] ["_law_p", "_law_taps", "_law_roots_here"] (C8.fnScope s__law_told) := C8.fnScope_by (by decide +kernel)
abbrev s__law_word : Stmt := topS 73
theorem sc__law_word : FnScope ["_law_figures_here", "_law_taps", "wrong"] ["_law_figures_here", "_law_taps"] (C8.fnScope s__law_word) := C8.fnScope_by (by decide +kernel)
section
variable {P : Program} {w : World} {K : PySem.W.Frag} {mg : Str → Option Value} {base : Heap} {f : Addr} {fd : FuncData}
variable {R : Type} [NumC R]
/-! ### told -/
def dueL (n : Nat) (c : R) (L : List R) : List (R × R) := headMul c ((L.map fun r => (0 - r, 1)) ++ List.replicate (n - 1 - L.length) (1, 0))
def spTold (R : Type) [NumC R] : Sp := fun vs H Q _ => ∃ (t rl : Addr) (us ws : List V) (xs L : List R) (m : Nat) (c : R), vs = [.int (NumC.p R : Nat), .ref t, .ref rl] ∧ H t = some (.lst us) ∧ Reps H us xs ∧ TrimAt xs m ∧ m ≠ 0 ∧ xs[m - 1]? = some c ∧ 2 ≤ xs.length ∧ xs.length ≤ 12 ∧ Bds 100 xs ∧
  H rl = some (.lst ws) ∧ Reps H ws L ∧ L.length ≤ xs.length - 1 ∧ Bds 1 L ∧ ∀ v' H', Same H H' → ApRep H' v' (some (dueL xs.length c L)) → Q v' H'
theorem ok_law_told (B : Bn mg) (c__law_num : C8.Cal P w K mg base 1 "_law_num" (spNum R) []) (c__law_less : C8.Cal P w K mg base 4 "_law_less" (spL2 R fun x y => x - y) []) (c__law_times : C8.Cal P w K mg base 3 "_law_times" (spL2 R fun x y => x * y) [])
    (c__law_lead : C8.Cal P w K mg base 3 "_law_lead" (spLead R) []) (F : C8.Fun K "_law_told" "_law_told" s__law_told f fd) : FnOk P w K mg base C8.CX0 5 f fd ["_law_p", "_law_taps", "_law_roots_here"] (spTold R) := by
  refine C8.fn0 F sc__law_told (fun vs H Q E h => ?_) (fun cdv A outer s H vs Q E hr h => ?_)
  · obtain ⟨a, b, us, ws, x, y, m, c, rfl, _⟩ := h
    rfl
  · obtain ⟨t, rl, us, ws, xs, L, m, c, rfl, ht, hu, htrim, hm0, hc, h2, h12, hB, hrl, hL, hLl, hBL, q⟩ := h
    have hul := hu.len
    have hwl := hL.len
    have hmle := htrim.1
    refine ⟨_, (pss_cons (ps_set (i := 3) sc__law_told.nd rfl (by first | exact .inl rfl | exact .inr rfl) (C8.pe_c c__law_lead hr (by decide) (by rfl) (pa_cons (pv 0) (pa_cons (pv 1) pa_nil))))
    (pss_cons (ps_asg (pe_tup (pa_cons (C8.pe_c c__law_num hr (by decide) (by rfl) (pa_cons (pv 0) (pa_cons pe_int pa_nil))) (pa_cons (C8.pe_c c__law_num hr (by decide) (by rfl) (pa_cons (pv 0) (pa_cons pe_int pa_nil))) pa_nil))) (pg_tup (n := 2) rfl (pgs_cons (pg_name (i := 4) sc__law_told.nd rfl (by first | exact .inl rfl | exact .inr rfl)) (pgs_cons (pg_name (i := 5) sc__law_told.nd rfl (by first | exact .inl rfl | exact .inr rfl)) pgs_nil))))
    (pss_cons (ps_setLc (i := 6) (own := [("_law_root", 7)]) rfl sc__law_told.nd rfl rfl (sw_true rfl rfl rfl (by decide +kernel)) (pi_list (pv 2)) (blkOk_by (own := [("_law_root", 7)]) (N := ["_law_p", "_law_taps", "_law_roots_here", "_law_lead_here", "_law_one", "_law_nothing", "_law_couples", "_law_root", "_law_first"]) (sc := C8.fnScope s__law_told) (by decide +kernel)) (fun _ _ _ _ _ => (pg_name (i := 7) sc__law_told.nd rfl (by first | exact .inl rfl | exact .inr rfl))) (fun _ _ _ _ _ => pts_nil) (fun _ _ _ _ _ => (pe_tup (pa_cons (C8.pe_c c__law_less hr (by decide) (by rfl) (pa_cons (pv 0) (pa_cons (pv 5) (pa_cons (pv 7) pa_nil)))) (pa_cons (pv 4) pa_nil)))))
    (pss_cons (ps_set (i := 6) sc__law_told.nd rfl (by first | exact .inl rfl | exact .inr rfl) (pe_op op_cat (pv 6) (pe_op op_rep (pe_lst (pa_cons (pe_tup (pa_cons (pv 4) (pa_cons (pv 5) pa_nil))) pa_nil)) (pe_op op_sub (pe_op op_sub (pe_callB call_len_ (by rfl) B.len_ (by decide +kernel) (pa_cons (pv 1) pa_nil)) pe_int) (pe_callB call_len_ (by rfl) B.len_ (by decide +kernel) (pa_cons (pv 2) pa_nil))))))
    (pss_cons (ps_set (i := 8) sc__law_told.nd rfl (by first | exact .inl rfl | exact .inr rfl) (pe_ix ix_list (pv 6) pe_int (fun _ _ => rfl)))
    (pss_cons (ps_asg (pe_tup (pa_cons (C8.pe_c c__law_times hr (by decide) (by rfl) (pa_cons (pv 0) (pa_cons (pe_ix ix_list (pv 3) (pe_un un_neg pe_int) (fun _ _ => rfl)) (pa_cons (pe_ix ix_tup (pv 8) pe_int (fun _ _ => rfl)) pa_nil)))) (pa_cons (C8.pe_c c__law_times hr (by decide) (by rfl) (pa_cons (pv 0) (pa_cons (pe_ix ix_list (pv 3) (pe_un un_neg pe_int) (fun _ _ => rfl)) (pa_cons (pe_ix ix_tup (pv 8) pe_int (fun _ _ => rfl)) pa_nil)))) pa_nil))) (pg_sub (pv 6) pe_int set_list))
    (pss_one (ps_ret (pe_callTy call_tuple_of_ (by rfl) B.tuple_ (by decide +kernel) (pa_cons (pv 6) pa_nil)))))))))), ?_⟩
    refine go_start (show _ = [some _, some _, some _, none, none, none, none, none, none] from rfl) ?_
    walk_at "go"
    refine ⟨t, us, xs, m, rfl, ht, hu, htrim, by omega, fun ld H1 e1 hldn hld => ?_⟩
    walk_at "go"
    refine ⟨1, rfl, fun v1 H2 e2 h2' => ?_⟩
    rw [NumC.of_1] at h2'
    walk_at "go"
    refine ⟨0, rfl, fun v2 H3 e3 h3 => ?_⟩
    rw [NumC.of_0] at h3
    have h23 := h2'.up e3
    have e13 := e1.trans (e2.trans e3)
    have hld3 := (e2.trans e3) _ _ hld
    walk_at "go"
    refine ⟨(by show 2 ≤ sizeLine; decide), fun pq npq => ?_⟩
    have epq := same_new (o := HO.tup [v1, v2]) npq
    have hpq : (upd H3 pq (.tup [v1, v2])) pq = some (.tup [v1, v2]) := upd_same
    replace h3 := h3.up epq
    replace h23 := h23.up epq
    replace e13 := e13.trans epq
    replace hld3 := epq _ _ hld3
    generalize (upd H3 pq (.tup [v1, v2])) = H3' at *
    refine g_tup2 hpq ?_
    walk_at "go"
    refine ⟨rl, rfl, ⟨ws, SqL.of (e13 _ _ hrl)⟩, fun Dl hD => lc_wordL (xs := ws) (fun i ys Ha => ys.length = i ∧ i ≤ ws.length ∧ CpReps Ha ys ((L.take i).map fun r => ((0 : R) - r, (1 : R)))) (e13 _ _ hrl) (fun _ _ _ _ h im => ⟨h.1, h.2.1, h.2.2.im im⟩) (fun i ys _ h => by omega) hD ⟨rfl, Nat.zero_le _, .nil⟩ (fun i x ys Hd hx ed h => ?_) (fun ys Hd ed hys h => ?_)⟩
    · intro Qk Qn hk hn
      have hi := (List.getElem?_eq_some_iff.mp hx).1
      obtain ⟨a, ha, ra⟩ := (hL.up (e13.trans ed)).get' hx
      walk_at "go"
      refine ⟨rfl, g_yes (ite_t ?_)⟩
      walk_at "go"
      refine ⟨v2, x, 0, a, rfl, h3.up ed, ra, NumC.bd_mono (Nat.zero_le _) NumC.bd_0, NumC.bd_mono (by decide) (hBL a (List.mem_of_getElem? ha)), fun v H6 e6 h6 => ?_⟩
      walk_at "go"
      refine ⟨(by show 2 ≤ sizeLine; decide), fun p7 n7 => ?_⟩
      have e7 := Same.up (o := HO.tup [v, v1]) e6 n7
      refine hk _ _ e7 ⟨by rw [List.length_append, h.1]; rfl, hi, ?_⟩
      rw [List.take_add_one, ha, List.map_append]
      exact Paired.snoc (CpReps.up h.2.2 e7) ⟨p7, v, v1, rfl, upd_same, h6.up (same_new n7), (h23.up ed).up e7⟩
    · have hcs := h.2.2
      rw [List.take_of_length_le (by omega)] at hcs
      have e1d := e13.trans ed
      walk_at "go"
      refine ⟨(by show 2 ≤ sizeLine; decide), fun p3 n3 => ?_⟩
      have e9 := same_new (o := HO.tup [v1, v2]) n3
      have hp3 : CpRep (upd Hd p3 (.tup [v1, v2])) (.ref p3) ((1 : R), (0 : R)) := ⟨p3, v1, v2, rfl, upd_same, (h23.up ed).up e9, (h3.up ed).up e9⟩
      generalize (upd Hd p3 (.tup [v1, v2])) = H9 at *
      walk_at "go"
      refine ⟨(by show 1 ≤ sizeLine; decide), fun p4 n4 => ?_⟩
      have e10 := Same.up (o := HO.lst [V.ref p3]) e9 n4
      have hp4 := hp3.im (Same.im (same_new (o := HO.lst [V.ref p3]) n4))
      have hp4l : (upd H9 p4 (.lst [V.ref p3])) p4 = some (.lst [V.ref p3]) := upd_same
      generalize (upd H9 p4 (.lst [V.ref p3])) = H10 at *
      walk_at "go"
      refine g_lenL ((e1d.trans e10) _ _ ht) ?_
      walk_at "go"
      refine g_lenL ((e1d.trans e10) _ _ hrl) ?_
      walk_at "go"
      refine g_rRep hp4l (by omega) (by omega) (by show 1 ≤ 1; decide) fun p5 n5 => ?_
      rw [flat_rep, show ((us.length : Int) - 1 - ws.length).toNat = xs.length - 1 - L.length by omega]
      have e11 := Same.up (o := HO.lst (List.replicate (xs.length - 1 - L.length) (V.ref p3))) e10 n5
      have hp5 := hp4.im (Same.im (same_new (o := HO.lst (List.replicate (xs.length - 1 - L.length) (V.ref p3))) n5))
      have hp5l : (upd H10 p5 (.lst (List.replicate (xs.length - 1 - L.length) (V.ref p3)))) p5 = some (.lst (List.replicate (xs.length - 1 - L.length) (V.ref p3))) := upd_same
      generalize (upd H10 p5 (.lst (List.replicate (xs.length - 1 - L.length) (V.ref p3)))) = H11 at *
      walk_at "go"
      refine g_catL (e11 _ _ hys) hp5l (by rw [List.length_replicate]; omega) fun cl hcl => ?_
      have e12 := Same.up (o := HO.lst (ys ++ List.replicate (xs.length - 1 - L.length) (V.ref p3))) e11 hcl
      have hcs12 := paired_app (CpReps.up hcs e12) (paired_rep (hp5.im (Same.im (same_new (o := HO.lst (ys ++ List.replicate (xs.length - 1 - L.length) (V.ref p3))) hcl))) (xs.length - 1 - L.length))
      have hcll : (upd H11 cl (.lst (ys ++ List.replicate (xs.length - 1 - L.length) (V.ref p3)))) cl = some (.lst (ys ++ List.replicate (xs.length - 1 - L.length) (V.ref p3))) := upd_same
      have hclH : H cl = none := Same.free (e1d.trans e11) hcl
      have e012 := e1d.trans e12
      have hld12 := (ed.trans e12) _ _ hld3
      have hbd : ∀ x ∈ (L.map fun r => ((0 : R) - r, (1 : R))) ++ List.replicate (xs.length - 1 - L.length) ((1 : R), (0 : R)), NumC.Bd 1 x.1 ∧ NumC.Bd 1 x.2 := by
        intro x hx
        rcases List.mem_append.mp hx with h | h
        · obtain ⟨r, hr, rfl⟩ := List.mem_map.mp h
          have e : (0 : R) - r = -r := by grind
          refine ⟨?_, NumC.bd_mono (Nat.zero_le _) NumC.bd_1⟩
          show NumC.Bd 1 (0 - r)
          rw [e]
          exact NumC.bd_neg (hBL r hr)
        · rw [(List.mem_replicate.mp h).2]
          exact ⟨NumC.bd_mono (Nat.zero_le _) NumC.bd_1, NumC.bd_mono (Nat.zero_le _) NumC.bd_0⟩
      have hlen : ((L.map fun r => ((0 : R) - r, (1 : R))) ++ List.replicate (xs.length - 1 - L.length) ((1 : R), (0 : R))).length = xs.length - 1 := by
        rw [List.length_append, List.length_replicate, List.length_map]
        omega
      have hdue : dueL xs.length c L = headMul c ((L.map fun r => ((0 : R) - r, (1 : R))) ++ List.replicate (xs.length - 1 - L.length) ((1 : R), (0 : R))) := rfl
      rw [hdue] at q
      generalize (L.map fun r => ((0 : R) - r, (1 : R))) ++ List.replicate (xs.length - 1 - L.length) ((1 : R), (0 : R)) = cs at *
      generalize ys ++ List.replicate (xs.length - 1 - L.length) (V.ref p3) = zs at *
      generalize (upd H11 cl (.lst zs)) = H12 at *
      have hcB : NumC.Bd LIM c := NumC.bd_mono (by decide) (hB c (List.mem_of_getElem? hc))
      obtain ⟨uc, huc, ruc⟩ := (hu.up e012).get hc
      have hlast : atI (us.take m) (-1) = some uc := atI_last' (by
        rw [List.getLast?_eq_getElem?, List.length_take, List.getElem?_take, if_pos (by omega), ← huc]
        congr 1
        omega)
      cases hcs12 with
      | nil =>
        simp at hlen
        omega
      | @cons z x zt ct hz hcts =>
        obtain ⟨p6, u1, u2, rfl, hp6, hu1, hu2⟩ := hz
        obtain ⟨hx1, hx2⟩ := hbd x (List.mem_cons_self ..)
        walk_at "go"
        refine g_ixLn (j := 0) hcll rfl rfl ?_
        walk_at "go"
        refine g_ixL hld12 hlast ?_
        walk_at "go"
        refine ⟨uc, u1, c, x.1, rfl, ruc, hu1, hcB, NumC.bd_mono (by decide) hx1, fun w1 H13 e13' h13 => ?_⟩
        have hp613 := e13' _ _ hp6
        walk_at "go"
        refine g_ixL (e13' _ _ hld12) hlast ?_
        walk_at "go"
        refine ⟨uc, u2, c, x.2, rfl, ruc.up e13', hu2.up e13', hcB, NumC.bd_mono (by decide) hx2, fun w2 H14 e14 h14 => ?_⟩
        walk_at "go"
        refine ⟨(by show 2 ≤ sizeLine; decide), fun p7 n7 => ?_⟩
        have e15 := same_new (o := HO.tup [w1, w2]) n7
        have hp7 : CpRep (upd H14 p7 (.tup [w1, w2])) (.ref p7) (c * x.1, c * x.2) := ⟨p7, w1, w2, rfl, upd_same, (h13.up e14).up e15, h14.up e15⟩
        have e1215 := e13'.trans (e14.trans e15)
        generalize (upd H14 p7 (.tup [w1, w2])) = H15 at *
        have hl15 := e1215 _ _ hcll
        walk_at "go"
        refine g_setL (j := 0) hl15 rfl (by show 0 < zt.length + 1; omega) ?_
        have im16 : Im H15 (upd H15 cl (.lst ((V.ref p6 :: zt).set 0 (V.ref p7)))) := im_upd hl15
        have e16' : Same H (upd H15 cl (.lst ((V.ref p6 :: zt).set 0 (V.ref p7)))) := same_mut (e012.trans e1215) hclH
        have hl16 : (upd H15 cl (.lst ((V.ref p6 :: zt).set 0 (V.ref p7)))) cl = some (.lst (V.ref p7 :: zt)) := upd_same
        have hcs16 : CpReps (upd H15 cl (.lst ((V.ref p6 :: zt).set 0 (V.ref p7)))) (V.ref p7 :: zt) ((c * x.1, c * x.2) :: ct) := .cons (hp7.im im16) (CpReps.im (CpReps.up hcts e1215) im16)
        generalize (upd H15 cl (.lst ((V.ref p6 :: zt).set 0 (V.ref p7)))) = H16 at *
        walk_at "go"
        refine g_tupOfL hl16 fun p8 n8 => ?_
        have e17 := same_new (o := HO.tup (V.ref p7 :: zt)) n8
        exact q _ _ (e16'.trans e17) ⟨p8, _, rfl, upd_same, hcs16.up e17⟩
end
end Kw
set_option maxHeartbeats 4000000
namespace Kw
open PySem PySem.Spec PyProof.Rows L2 RT
local macro_rules | `(tactic| walk_at "step") => `(tactic| with_reducible first
  | refine g_op ?_ | refine g_c ?_ | refine g_test ?_ | refine g_bl ?_ | refine g_seq ?_ | refine g_ifS ?_ | refine g_cons ?_ | refine g_nil ?_ | refine g_I0 ?_ | refine g_asg ?_ | refine g_name ?_
  | refine g_ret ?_ | refine g_nx ?_ | refine g_cb ?_ | refine g_call ?_ | refine g_un ?_ | refine g_rU ?_ | refine g_B ?_ | refine g_and ?_ | refine g_or ?_ | refine g_not ?_ | refine g_andV ?_ | refine g_orV ?_
  | refine g_notV ?_ | refine g_ifE ?_ | refine g_drop ?_ | refine g_par ?_ | refine g_two ?_ | refine g_abs ?_ | refine g_mx ?_ | refine g_int ?_ | refine g_tup ?_ | refine g_lst ?_ | refine g_chain ?_
  | refine g_sl ?_ | refine g_nopart ?_ | refine g_part ?_ | refine g_partI ?_ | refine g_bm ?_ | refine g_sub ?_ | refine g_ip ?_ | refine g_make ?_ | refine g_forR1 ?_ | refine g_forR2 ?_ | refine g_forR3 ?_ | refine g_forL ?_ | refine g_forT ?_ | refine g_forV ?_ | refine g_forVR ?_ | refine g_forE ?_ | refine g_lcL ?_ | refine g_lcT ?_ | refine g_lcR1 ?_ | refine g_lcR2 ?_ | refine g_fld ?_ | refine g_meth ?_ | refine ite_t ?_ | refine ite_nt ?_ | refine ite_nf ?_ | refine g_eqi ?_ | refine g_nei ?_ | refine ite_f ?_ | refine g_isN_n ?_ | refine g_isN_i ?_ | refine g_isN_r ?_ | refine g_notN_n ?_ | refine g_notN_i ?_ | refine g_notN_r ?_ | refine g_isi_ib ?_ | refine g_isi_ii ?_ | refine g_isi_it ?_ | refine g_isi_nt ?_)
local macro_rules | `(tactic| walk_at "var") => `(tactic| ((with_reducible refine' g_var ?hvar ?_); (case hvar => rfl)))
local macro_rules | `(tactic| walk_at "fact") => `(tactic| first
  | ((with_reducible refine' g_ixT ?hfact ?hat ?_); (case hfact => assumption); (case hat => rfl))
  | ((with_reducible refine' g_ixL ?hfact ?hat ?_); (case hfact => assumption); (case hat => rfl)))
local macro_rules | `(tactic| walk_at "fact1") => `(tactic| first
  | ((with_reducible refine' g_lenT ?hfact ?_); (case hfact => assumption))
  | ((with_reducible refine' g_lenL ?hfact ?_); (case hfact => assumption))
  | ((with_reducible refine' g_isi_tt ?hfact ?_); (case hfact => assumption)))
local macro_rules | `(tactic| walk_at "go") => `(tactic| repeat (first | walk_at "step" | walk_at "var" | walk_at "fact" | walk_at "fact1"))
local macro_rules | `(tactic| walk_at "if") => `(tactic| with_reducible first | refine ite_d ?_ ?_ | refine ite_n ?_ ?_ | refine ite_b ?_ ?_)
local macro_rules | `(tactic| walk_at "prime") => `(tactic| refine fig_prime (by assumption) (by assumption) ?_)
local macro_rules | `(tactic| walk_at "zero") => `(tactic| refine fig_zero (by assumption) (by assumption) ?_)
local macro_rules | `(tactic| walk_at "one") => `(tactic| refine fig_one (by assumption) (by assumption) ?_)
local macro_rules | `(tactic| walk_at "meth") => `(tactic| refine fig_meth (by assumption) (by decide +kernel) ?_)
section
variable {P : Program} {w : World} {K : PySem.W.Frag} {mg : Str → Option Value} {base : Heap} {f : Addr} {fd : FuncData}
variable {R : Type} [NumC R]
/-! ### word -/
structure BadW (K : PySem.W.Frag) (mg : Str → Option Value) (C : Addr) : Prop where
  gC : mg "BadRow" = some (.ref C)
  xf : XfC K C
  n_what : PySem.W.findIn K (.ref C) "what" = some none
  n_index : PySem.W.findIn K (.ref C) "index" = some none
  te : PySem.W.exmOne K (.ref C) (.ref C) = some true
def OkTaps (Pre : List R → Prop) (H : Hp) (v : V) (xs : List R) (m : Nat) (c : R) : Prop := ∃ a us, v = .ref a ∧ Seqv H a us ∧ Reps H us xs ∧ 2 ≤ us.length ∧ us.length ≤ 12 ∧ TrimAt xs m ∧ (m ≠ 0 → xs[m - 1]? = some c ∧ c ≠ 0 ∧ Bds 100 (xs.take m) ∧ (∀ r, ev (xs.take m) r = 0 → NumC.Bd 1 r) ∧ Pre (xs.take m))
def BadLen (H : Hp) (v : V) : Prop := v = .non ∨ ∃ a us, v = .ref a ∧ Seqv H a us ∧ (us.length < 2 ∨ 12 < us.length)
def BadAt (R : Type) [NumC R] (H : Hp) (v : V) (k : Nat) : Prop := ∃ a us, v = .ref a ∧ Seqv H a us ∧ 2 ≤ us.length ∧ us.length ≤ 12 ∧ us[k]? = some (.int (badN R)) ∧ (∀ i u, i < k → us[i]? = some u → ∃ x : R, Rep H u x)
def WordAt (H : Hp) (k : Nat) (Q : VK) : Prop := ∀ t H', Same H H' → H' t = some (.tup [.str "taps", .int (k : Nat)]) → Q (.ref t) H'
def spWord (R : Type) [NumC R] (C : Addr) (Pre : List R → Prop) : Sp := fun vs H Q _ => ∃ (fa : Addr) (v : V), vs = [.ref fa, v] ∧ FigAt R C H fa ∧
  ((∃ (xs : List R) (m : Nat) (c : R), OkTaps Pre H v xs m c ∧ ∀ H', Same H H' → Q .non H') ∨ (BadLen H v ∧ WordAt H 0 Q) ∨ ∃ k, BadAt R H v k ∧ WordAt H k Q)
theorem g_xf {a : Addr} {cls : Value} {d : Option Addr} {C : Addr} {f : Str} {te : TE} {σ : L2.St} {H : Hp} {Q : VK} (h : te σ H fun x H1 => x = .ref a ∧ cls = .ref C ∧ ∃ (dd : Addr) (fs : List (Str × V)) (v : V), d = some dd ∧ H1 dd = some (.xd fs) ∧ fs.lookup f = some v ∧ Q v H1) : tXf a cls d C f te σ H Q := h
theorem ok_law_word {C CB : Addr} {Pre : List R → Prop} {G : List R → List R → Prop} (T : BadW K mg CB) (c_taps_apart : CalX P w K mg base 14 "taps_apart" (spApart R C CB Pre G)) (F : C8.Fun K "_law_word" "_law_word" s__law_word f fd) :
    FnOk P w K mg base C8.CX0 15 f fd ["_law_figures_here", "_law_taps"] (spWord R C Pre) := by
  refine C8.fn0 F sc__law_word (fun vs H Q E h => ?_) (fun cdv A outer s H vs Q E hr h => ?_)
  · obtain ⟨a, b, rfl, _⟩ := h
    rfl
  · obtain ⟨fa, v, rfl, hF, h⟩ := h
    refine ⟨_, (pss_cons (ps_try_as (i := 2) rfl rfl sc__law_word.nd rfl rfl ⟨rfl, by decide, .inl T.gC⟩ takes0 (fun W pn xe tk _ => (pss_one (ps_expr (pe_cX c_taps_apart hr (by decide) (by rfl) (passAt tk) (pa_cons (pv 0) (pa_cons (pv 1) pa_nil)))))) (fun a oe cls d pn hz hf => (pss_one (ps_ret (pe_tup (pa_cons (pe_xf T.xf T.n_what hz hf (pv 2)) (pa_cons (pe_xf T.xf T.n_index hz hf (pv 2)) pa_nil)))))))
    (pss_one (ps_ret pe_non))), ?_⟩
    refine go_start (show _ = [some _, some _, none] from rfl) ?_
    have bad : ∀ k, WordAt H k Q → BadX CB H k (WE (wAs K (.ref CB) 2 (fun a cls d => tRet (tTup (tCons (tXf a cls d CB "what" (tVar 2)) (tCons (tXf a cls d CB "index" (tVar 2)) tNil)))) (fun _ _ _ _ => False) { nx := tRet (tC V.non) { nx := fun x H' => Q V.non H', rt := Q }, rt := Q }) [some (.ref fa), some v, none]) := by
      intro k hk d H' e hd
      refine ⟨true, T.te, fun _ a ha => ?_, fun z => by cases z⟩
      walk_at "go"
      refine g_xf ?_
      walk_at "go"
      refine ⟨rfl, rfl, d, _, _, rfl, hd, by rfl, ?_⟩
      walk_at "go"
      refine g_xf ?_
      walk_at "go"
      refine ⟨rfl, rfl, d, _, _, rfl, hd, by rfl, ?_⟩
      walk_at "go"
      refine ⟨(by show 2 ≤ sizeLine; decide), fun p hp => ?_⟩
      exact hk p _ (Same.up (o := HO.tup [V.str "taps", V.int (k : Nat)]) e hp) upd_same
    walk_at "go"
    refine g_callS ?_
    walk_at "go"
    rcases h with ⟨xs, m, c, ⟨a, us, rfl, ha, hu, h2, h12, ht, hm⟩, q⟩ | ⟨hb, hk⟩ | ⟨k, ⟨a, us, rfl, ha, h2, h12, hb, hg⟩, hk⟩
    · refine ⟨fa, _, rfl, hF, .inl ⟨a, us, xs, m, c, rfl, ha, hu, h2, h12, ht, hm, fun v' H' rs e _ _ => ?_⟩⟩
      walk_at "go"
      exact q _ e
    · exact ⟨fa, _, rfl, hF, .inr (.inl ⟨hb, bad 0 hk⟩)⟩
    · exact ⟨fa, _, rfl, hF, .inr (.inr ⟨a, us, k, rfl, ha, h2, h12, hb, hg, bad k hk⟩)⟩
end
end Kw
set_option maxHeartbeats 4000000
namespace Kw
open PySem PySem.Spec PyProof.Rows L2 RT
local macro_rules | `(tactic| walk_at "step") => `(tactic| with_reducible first
  | refine g_op ?_ | refine g_c ?_ | refine g_test ?_ | refine g_bl ?_ | refine g_seq ?_ | refine g_ifS ?_ | refine g_cons ?_ | refine g_nil ?_ | refine g_I0 ?_ | refine g_asg ?_ | refine g_name ?_
  | refine g_ret ?_ | refine g_nx ?_ | refine g_cb ?_ | refine g_call ?_ | refine g_un ?_ | refine g_rU ?_ | refine g_B ?_ | refine g_and ?_ | refine g_or ?_ | refine g_not ?_ | refine g_andV ?_ | refine g_orV ?_
  | refine g_notV ?_ | refine g_ifE ?_ | refine g_drop ?_ | refine g_par ?_ | refine g_two ?_ | refine g_abs ?_ | refine g_mx ?_ | refine g_int ?_ | refine g_tup ?_ | refine g_lst ?_ | refine g_chain ?_
  | refine g_sl ?_ | refine g_nopart ?_ | refine g_part ?_ | refine g_partI ?_ | refine g_bm ?_ | refine g_sub ?_ | refine g_ip ?_ | refine g_make ?_ | refine g_forR1 ?_ | refine g_forR2 ?_ | refine g_forR3 ?_ | refine g_forL ?_ | refine g_forT ?_ | refine g_forV ?_ | refine g_forVR ?_ | refine g_forE ?_ | refine g_lcL ?_ | refine g_lcT ?_ | refine g_lcR1 ?_ | refine g_lcR2 ?_ | refine g_fld ?_ | refine g_meth ?_ | refine ite_t ?_ | refine ite_nt ?_ | refine ite_nf ?_ | refine g_eqi ?_ | refine g_nei ?_ | refine ite_f ?_ | refine g_isN_n ?_ | refine g_isN_i ?_ | refine g_isN_r ?_ | refine g_notN_n ?_ | refine g_notN_i ?_ | refine g_notN_r ?_ | refine g_isi_ib ?_ | refine g_isi_ii ?_ | refine g_isi_it ?_ | refine g_isi_nt ?_)
local macro_rules | `(tactic| walk_at "var") => `(tactic| ((with_reducible refine' g_var ?hvar ?_); (case hvar => rfl)))
local macro_rules | `(tactic| walk_at "fact") => `(tactic| first
  | ((with_reducible refine' g_ixT ?hfact ?hat ?_); (case hfact => assumption); (case hat => rfl))
  | ((with_reducible refine' g_ixL ?hfact ?hat ?_); (case hfact => assumption); (case hat => rfl)))
local macro_rules | `(tactic| walk_at "fact1") => `(tactic| first
  | ((with_reducible refine' g_lenT ?hfact ?_); (case hfact => assumption))
  | ((with_reducible refine' g_lenL ?hfact ?_); (case hfact => assumption))
  | ((with_reducible refine' g_isi_tt ?hfact ?_); (case hfact => assumption)))
local macro_rules | `(tactic| walk_at "go") => `(tactic| repeat (first | walk_at "step" | walk_at "var" | walk_at "fact" | walk_at "fact1"))
local macro_rules | `(tactic| walk_at "if") => `(tactic| with_reducible first | refine ite_d ?_ ?_ | refine ite_n ?_ ?_ | refine ite_b ?_ ?_)
local macro_rules | `(tactic| walk_at "prime") => `(tactic| refine fig_prime (by assumption) (by assumption) ?_)
local macro_rules | `(tactic| walk_at "zero") => `(tactic| refine fig_zero (by assumption) (by assumption) ?_)
local macro_rules | `(tactic| walk_at "one") => `(tactic| refine fig_one (by assumption) (by assumption) ?_)
local macro_rules | `(tactic| walk_at "meth") => `(tactic| refine fig_meth (by assumption) (by decide +kernel) ?_)
abbrev s__law_drawn : Stmt := topS 74
theorem sc__law_drawn : FnScope ["_law_hand_here", "_law_p", "_law_many", "_law_chosen_here", "_law_taps", "_law_roots_here", "_law_root", "_law_share", "_law_way", "_law_without", "_law_one"] ["_law_hand_here", "_law_p"] (C8.fnScope s__law_drawn) := C8.fnScope_by (by decide +kernel)
section
variable {P : Program} {w : World} {K : PySem.W.Frag} {mg : Str → Option Value} {base : Heap} {f : Addr} {fd : FuncData}
variable {R : Type} [NumC R]
/-! ### drawn taps -/
def drawnF (cs : List (Option R × R)) : List R := cs.filterMap (·.1)
def quads : List (List Int) := [[1, 0, 1], [1, 1, 1], [-2, 0, 1], [2, 0, 3], [3, 1, 1]]
def quadL (R : Type) [NumC R] (q : List Int) : List R := q.map NumC.of
def DrK (xs : List R) (o : Option (List R)) : Prop := 2 ≤ xs.length ∧ xs.length ≤ 12 ∧ Bds 50 xs ∧ (NumC.p R ≠ 0 ∨ (xs = List.replicate xs.length 0 ∧ o = some []) ∨ (∃ cs q, ChOk cs ∧ q ∈ quads ∧ xs = conv (madeF cs) (quadL R q) ∧ o = none) ∨ ∃ cs, ChOk cs ∧ xs = madeF cs ∧ o = some (drawnF cs))
def RtsAt (h : Addr) (H : Hp) (rv : V) : Option (List R) → Prop
  | none => rv = .non
  | some L => ∃ rl ws, rv = .ref rl ∧ rl ≠ h ∧ H rl = some (.lst ws) ∧ Reps H ws L
def spDrawn (R : Type) [NumC R] : Sp := fun vs H Q _ => ∃ (h cl : Addr), vs = [.ref h, .int (NumC.p R : Nat)] ∧ HandAt H h cl ∧
  ∀ l t rv us (xs : List R) o H', H' l = some (.lst [.ref t, rv]) → H' t = some (.lst us) → Reps H' us xs → t ≠ h → RtsAt h H' rv o → DrK xs o → Kept h H H' → HandAt H' h cl → Q (.ref l) H'
theorem pg_unlK {X : Cx} {K : PySem.W.Frag} {es : List Expr} {k : Nat} {pos : PySem.Pos} {t : TGs} {n : Nat} (hc : X.calm = true) (h : PGs X es t) (hK : X.K = K := by rfl)
    (hn : (assignEach es X.env).length = n := by rfl) (hst : (assignEach es X.env).findIdx? (·.1) = none := by rfl) : PG X (.Tuple es k pos) (gUnl K n t) := hK ▸ pg_unl hc h hn hst
theorem drawnF_take {cs : List (Option R × R)} {i : Nat} {c : Option R × R} (h : cs[i]? = some c) : drawnF (cs.take (i + 1)) = drawnF (cs.take i) ++ c.1.toList := by
  unfold drawnF
  rw [List.take_add_one, h, List.filterMap_append]
  cases hc : c.1 <;> simp [List.filterMap, hc]
theorem pick2 {b : Bool} {P : VK} {σ : L2.St} {H1 : Hp} (key : ∀ m : Int, m = 9 ∨ m = 4 → P (.int m) H1) : if b = true then tC (.int 9) σ H1 P else tC (.int 4) σ H1 P := by
  cases b
  · exact key 4 (.inr rfl)
  · exact key 9 (.inl rfl)
theorem ok_law_drawn (hof : ∀ i : Int, -3 ≤ i → i ≤ 3 → NumC.Bd 1 (NumC.of i : R)) (B : Bn mg) (c__law_take : C8.Cal P w K mg base 2 "_law_take" spTake []) (c__law_num : C8.Cal P w K mg base 1 "_law_num" (spNum R) []) (c__law_numbers : C8.Cal P w K mg base 4 "_law_numbers" (spNumbers R) [])
    (c__law_chosen : C8.Cal P w K mg base 4 "_law_chosen" (spChosen R) []) (c__law_made : C8.Cal P w K mg base 5 "_law_made" (spMade R) []) (c__law_multiplied : C8.Cal P w K mg base 4 "_law_multiplied" (spMul R) []) (F : C8.Fun K "_law_drawn" "_law_drawn" s__law_drawn f fd) :
    FnOk P w K mg base C8.CX0 6 f fd ["_law_hand_here", "_law_p"] (spDrawn R) := by
  refine C8.fn0 F sc__law_drawn (fun vs H Q E h => ?_) (fun cdv A outer s H vs Q E hr h => ?_)
  · obtain ⟨a, c, rfl, _⟩ := h
    rfl
  · obtain ⟨h, cl, rfl, hh, q⟩ := h
    refine ⟨_, (pss_cons (ps_set (i := 2) sc__law_drawn.nd rfl (by first | exact .inl rfl | exact .inr rfl) (pe_op op_add pe_int (C8.pe_c c__law_take hr (by decide) (by rfl) (pa_cons (pv 0) (pa_cons (pe_ifExp (pt_cmpR op_eq (C8.pe_c c__law_take hr (by decide) (by rfl) (pa_cons (pv 0) (pa_cons pe_int pa_nil))) pe_int (nomark _)) pe_int pe_int) pa_nil)))))
    (pss_cons (ps_if (PW.pt (pw_and (pt_cmpR op_gt (pv 1) pe_int (nomark _)) (pw_and1 (pt_cmpR op_eq (C8.pe_c c__law_take hr (by decide) (by rfl) (pa_cons (pv 0) (pa_cons pe_int pa_nil))) pe_int (nomark _)))))
    ((pss_one (ps_ret (pe_lst (pa_cons (C8.pe_c c__law_numbers hr (by decide) (by rfl) (pa_cons (pv 0) (pa_cons (pv 1) (pa_cons (pe_op op_add (pv 2) pe_int) pa_nil)))) (pa_cons pe_non pa_nil)))))) pss_nil)
    (pss_cons (ps_set (i := 3) sc__law_drawn.nd rfl (by first | exact .inl rfl | exact .inr rfl) (C8.pe_c c__law_chosen hr (by decide) (by rfl) (pa_cons (pv 0) (pa_cons (pv 1) (pa_cons (pv 2) pa_nil)))))
    (pss_cons (ps_set (i := 4) sc__law_drawn.nd rfl (by first | exact .inl rfl | exact .inr rfl) (C8.pe_c c__law_made hr (by decide) (by rfl) (pa_cons (pv 1) (pa_cons (pv 3) pa_nil))))
    (pss_cons (ps_setLc (i := 5) (own := [("_law_root", 6), ("_law_share", 7)]) rfl sc__law_drawn.nd rfl rfl (sw_true rfl rfl rfl (by decide +kernel)) (pi_list (pv 3)) (blkOk_by (own := [("_law_root", 6), ("_law_share", 7)]) (N := ["_law_hand_here", "_law_p", "_law_many", "_law_chosen_here", "_law_taps", "_law_roots_here", "_law_root", "_law_share", "_law_way", "_law_without", "_law_one"]) (sc := C8.fnScope s__law_drawn) (by decide +kernel)) (fun _ _ _ _ _ => (pg_unlK (K := K) (n := 2) rfl (pgs_cons (pg_name (i := 6) sc__law_drawn.nd rfl (by first | exact .inl rfl | exact .inr rfl)) (pgs_cons (pg_name (i := 7) sc__law_drawn.nd rfl (by first | exact .inl rfl | exact .inr rfl)) pgs_nil)))) (fun _ _ _ _ _ => (pts_one (pt_cmpR op_notN_ (pv 6) pe_non (nomark _)))) (fun _ _ _ _ _ => (pv 6)))
    (pss_cons (ps_set (i := 8) sc__law_drawn.nd rfl (by first | exact .inl rfl | exact .inr rfl) (C8.pe_c c__law_take hr (by decide) (by rfl) (pa_cons (pv 0) (pa_cons pe_int pa_nil))))
    (pss_cons (ps_if (pt_cmpR op_eq (pv 8) pe_int (nomark _))
    ((pss_one (ps_ret (pe_lst (pa_cons (pe_op op_rep (pe_lst (pa_cons (C8.pe_c c__law_num hr (by decide) (by rfl) (pa_cons (pv 1) (pa_cons pe_int pa_nil))) pa_nil)) (pe_op op_add (pv 2) pe_int)) (pa_cons (pe_lst pa_nil) pa_nil)))))) pss_nil)
    (pss_cons (ps_if (pt_cmpR op_lt (pv 8) pe_int (nomark _))
    ((pss_cons (ps_set (i := 9) sc__law_drawn.nd rfl (by first | exact .inl rfl | exact .inr rfl) (pe_ix ix_tup (pe_tup (pa_cons (pe_tup (pa_cons pe_int (pa_cons pe_int (pa_cons pe_int pa_nil)))) (pa_cons (pe_tup (pa_cons pe_int (pa_cons pe_int (pa_cons pe_int pa_nil)))) (pa_cons (pe_tup (pa_cons (pe_un un_neg pe_int) (pa_cons pe_int (pa_cons pe_int pa_nil)))) (pa_cons (pe_tup (pa_cons pe_int (pa_cons pe_int (pa_cons pe_int pa_nil)))) (pa_cons (pe_tup (pa_cons pe_int (pa_cons pe_int (pa_cons pe_int pa_nil)))) pa_nil)))))) (C8.pe_c c__law_take hr (by decide) (by rfl) (pa_cons (pv 0) (pa_cons pe_int pa_nil))) (fun _ _ => rfl)))
    (pss_one (ps_ret (pe_lst (pa_cons (C8.pe_c c__law_multiplied hr (by decide) (by rfl) (pa_cons (pv 1) (pa_cons (pv 4) (pa_cons (pe_lc (own := [("_law_one", 10)]) rfl sc__law_drawn.nd (pi_tup (pv 9)) (blkOk_by (own := [("_law_one", 10)]) (N := ["_law_hand_here", "_law_p", "_law_many", "_law_chosen_here", "_law_taps", "_law_roots_here", "_law_root", "_law_share", "_law_way", "_law_without", "_law_one"]) (sc := C8.fnScope s__law_drawn) (by decide +kernel)) (fun _ _ _ _ _ => (pg_name (i := 10) sc__law_drawn.nd rfl (by first | exact .inl rfl | exact .inr rfl))) (fun _ _ _ _ _ => pts_nil) (fun _ _ _ _ _ => (C8.pe_c c__law_num hr (by decide) (by rfl) (pa_cons (pv 1) (pa_cons (pv 10) pa_nil))))) pa_nil)))) (pa_cons pe_non pa_nil))))))) pss_nil)
    (pss_one (ps_ret (pe_lst (pa_cons (pv 4) (pa_cons (pv 5) pa_nil))))))))))))), ?_⟩
    refine go_start (show _ = [some _, some _, none, none, none, none, none, none, none, none, none] from rfl) ?_
    walk_at "go"
    refine ⟨h, cl, 4, rfl, hh, by decide, by decide, fun k1 H1 _ _ kk1 h1 => ?_⟩
    walk_at "go"
    refine pick2 fun m hm => ?_
    walk_at "go"
    refine ⟨h, cl, m, rfl, h1, by omega, by omega, fun k2 H2 k20 k21 kk2 h2 => ?_⟩
    have kk12 := kk1.trans kk2
    walk_at "go"
    by_cases hp0 : NumC.p R = 0
    · rw [show decide (((NumC.p R : Nat) : Int) > 0) = false from decide_eq_false (by omega)]
      walk_at "go"
      refine ⟨h, cl, (1 + k2).toNat, by rw [show (((1 + k2).toNat : Nat) : Int) = 1 + k2 by omega]; rfl, h2, by omega, fun cl5 us5 cs H5 hn5 hl5 hit5 hlen5 hok5 kk5 h5 => ?_⟩
      have k05 := kk12.trans kk5
      walk_at "go"
      refine ⟨cl5, us5, cs, rfl, hl5, hit5, hok5, by omega, fun t6 zs6 H6 e6 hn6 hl6 hr6 hml6 hB6 => ?_⟩
      have k06 := k05.trans (Same.kept e6)
      have h6 := h5.up e6
      have ht6h : t6 ≠ h := (h5.ne hn6).1
      have hit6 : Paired (ItRep H6) us5 cs := Paired.mapP hit5 fun _ _ x => x.im e6
      have hl56 := e6 _ _ hl5
      have hul5 := paired_len hit5
      walk_at "go"
      refine ⟨cl5, rfl, ⟨us5, SqL.of hl56⟩, fun Dl hD => lc_wordL (xs := us5) (fun i ys Ha => ys.length ≤ i ∧ i ≤ us5.length ∧ Reps Ha ys (drawnF (cs.take i))) hl56 (fun _ _ _ _ h im => ⟨h.1, h.2.1, h.2.2.im im⟩) (fun i ys _ h => by omega) hD ⟨Nat.le_refl _, Nat.zero_le _, .nil⟩ (fun i x ys Hd hx ed h' => ?_) (fun ys Hd ed hys h' => ?_)⟩
      · intro Qk Qn hk hn
        have hi := (List.getElem?_eq_some_iff.mp hx).1
        obtain ⟨c, hc, p, r, u, rfl, hp, hor, hru⟩ := paired_get hit6 hx
        have hstep := drawnF_take hc
        refine g_unl2 (ed _ _ hp) ?_
        refine ⟨rfl, ?_⟩
        walk_at "go"
        cases hco : c.1 with
        | none =>
          rw [hco] at hor hstep
          have er : r = .non := hor
          subst er
          walk_at "go"
          refine hn _ (Same.refl _) ⟨by omega, hi, ?_⟩
          rw [hstep]
          show Reps _ _ (_ ++ [])
          rw [List.append_nil]
          exact h'.2.2
        | some r0 =>
          rw [hco] at hor hstep
          have hr0 : Rep H6 r r0 := hor
          refine g_notN_R (hr0.up ed) ?_
          walk_at "go"
          refine hk _ _ (Same.refl _) ⟨by rw [List.length_append]; show _ + 1 ≤ _; omega, hi, ?_⟩
          rw [hstep]
          exact Paired.snoc h'.2.2 (hr0.up ed)
      · have hroots := h'.2.2
        rw [List.take_of_length_le (by omega)] at hroots
        have hDh : Dl ≠ h := (h6.ne hD).1
        have h7 := h6.up ed
        have k07 := k06.trans (Same.kept ed)
        have ht7 := ed _ _ hl6
        have hr7 := hr6.up ed
        walk_at "go"
        refine ⟨h, cl, 8, rfl, h7, by decide, by decide, fun kw H8 kw0 kw1 kk8 h8 => ?_⟩
        have im8 := h7.im kk8
        have k08 := k07.trans kk8
        have ht8 := kk8 _ _ ht6h ht7
        have hr8 := hr7.im im8
        have hD8 := kk8 _ _ hDh hys
        have hroots8 := Reps.im hroots im8
        walk_at "go"
        walk_at "if"
        · intro hw0
          walk_at "go"
          refine ⟨0, rfl, fun v H9 e9 hv => ?_⟩
          rw [NumC.of_0] at hv
          walk_at "go"
          refine ⟨(by show 1 ≤ sizeLine; decide), fun p hp => ?_⟩
          have e10 := Same.up (o := HO.lst [v]) e9 hp
          have hpl : (upd H9 p (.lst [v])) p = some (.lst [v]) := upd_same
          have hv10 := hv.up (same_new (o := HO.lst [v]) hp)
          generalize (upd H9 p (.lst [v])) = H10 at *
          walk_at "go"
          refine g_rRep hpl (by omega) (by omega) (by show 1 ≤ 1; decide) fun zl hzl => ?_
          rw [flat_rep]
          have e11 := Same.up (o := HO.lst (List.replicate (1 + k2 + 1).toNat v)) e10 hzl
          have hzv : (upd H10 zl (.lst (List.replicate (1 + k2 + 1).toNat v))) zl = some (.lst (List.replicate (1 + k2 + 1).toNat v)) := upd_same
          have hv11 := hv10.up (same_new (o := HO.lst (List.replicate (1 + k2 + 1).toNat v)) hzl)
          have hzh : zl ≠ h := ((h8.up e10).ne hzl).1
          generalize (upd H10 zl (.lst (List.replicate (1 + k2 + 1).toNat v))) = H11 at *
          walk_at "go"
          refine ⟨(by show 0 ≤ sizeLine; decide), fun el hel => ?_⟩
          have e12 := Same.up (o := HO.lst []) e11 hel
          have helv : (upd H11 el (.lst [])) el = some (.lst []) := upd_same
          have hzv12 := (same_new (o := HO.lst []) hel) _ _ hzv
          have hv12 := hv11.up (same_new (o := HO.lst []) hel)
          have helh : el ≠ h := ((h8.up e11).ne hel).1
          generalize (upd H11 el (.lst [])) = H12 at *
          walk_at "go"
          refine ⟨(by show 2 ≤ sizeLine; decide), fun fl hfl => ?_⟩
          have e13 := same_new (o := HO.lst [V.ref zl, V.ref el]) hfl
          have e813 := e12.trans e13
          refine q fl zl (.ref el) _ (List.replicate (1 + k2 + 1).toNat 0) (some []) _ upd_same (e13 _ _ hzv12) (paired_rep (hv12.up e13) _) hzh ⟨el, [], rfl, helh, e13 _ _ helv, .nil⟩ ⟨by rw [List.length_replicate]; omega, by rw [List.length_replicate]; omega, ?_, .inr (.inl ⟨by rw [List.length_replicate], rfl⟩)⟩ (k08.trans (Same.kept e813)) (h8.up e813)
          intro y hy
          rw [(List.mem_replicate.mp hy).2]
          exact NumC.bd_mono (Nat.zero_le _) NumC.bd_0
        · intro hw0
          walk_at "go"
          walk_at "if"
          · intro hw4
            walk_at "go"
            refine ⟨(by show 3 ≤ sizeLine; decide), fun q1 n1 => ?_⟩
            have f1 := same_new (o := HO.tup [V.int 1, V.int 0, V.int 1]) n1
            have g1 : (upd H8 q1 (.tup [V.int 1, V.int 0, V.int 1])) q1 = some (.tup [V.int 1, V.int 0, V.int 1]) := upd_same
            generalize (upd H8 q1 (.tup [V.int 1, V.int 0, V.int 1])) = J1 at *
            walk_at "go"
            refine ⟨(by show 3 ≤ sizeLine; decide), fun q2 n2 => ?_⟩
            have f2 := same_new (o := HO.tup [V.int 1, V.int 1, V.int 1]) n2
            have g2 : (upd J1 q2 (.tup [V.int 1, V.int 1, V.int 1])) q2 = some (.tup [V.int 1, V.int 1, V.int 1]) := upd_same
            replace g1 := f2 _ _ g1
            generalize (upd J1 q2 (.tup [V.int 1, V.int 1, V.int 1])) = J2 at *
            walk_at "go"
            refine ⟨(by show 3 ≤ sizeLine; decide), fun q3 n3 => ?_⟩
            have f3 := same_new (o := HO.tup [V.int (-2), V.int 0, V.int 1]) n3
            have g3 : (upd J2 q3 (.tup [V.int (-2), V.int 0, V.int 1])) q3 = some (.tup [V.int (-2), V.int 0, V.int 1]) := upd_same
            replace g1 := f3 _ _ g1
            replace g2 := f3 _ _ g2
            generalize (upd J2 q3 (.tup [V.int (-2), V.int 0, V.int 1])) = J3 at *
            walk_at "go"
            refine ⟨(by show 3 ≤ sizeLine; decide), fun q4 n4 => ?_⟩
            have f4 := same_new (o := HO.tup [V.int 2, V.int 0, V.int 3]) n4
            have g4 : (upd J3 q4 (.tup [V.int 2, V.int 0, V.int 3])) q4 = some (.tup [V.int 2, V.int 0, V.int 3]) := upd_same
            replace g1 := f4 _ _ g1
            replace g2 := f4 _ _ g2
            replace g3 := f4 _ _ g3
            generalize (upd J3 q4 (.tup [V.int 2, V.int 0, V.int 3])) = J4 at *
            walk_at "go"
            refine ⟨(by show 3 ≤ sizeLine; decide), fun q5 n5 => ?_⟩
            have f5 := same_new (o := HO.tup [V.int 3, V.int 1, V.int 1]) n5
            have g5 : (upd J4 q5 (.tup [V.int 3, V.int 1, V.int 1])) q5 = some (.tup [V.int 3, V.int 1, V.int 1]) := upd_same
            replace g1 := f5 _ _ g1
            replace g2 := f5 _ _ g2
            replace g3 := f5 _ _ g3
            replace g4 := f5 _ _ g4
            generalize (upd J4 q5 (.tup [V.int 3, V.int 1, V.int 1])) = J5 at *
            walk_at "go"
            refine ⟨(by show 5 ≤ sizeLine; decide), fun q6 n6 => ?_⟩
            have f6 := same_new (o := HO.tup [V.ref q1, V.ref q2, V.ref q3, V.ref q4, V.ref q5]) n6
            have g6 : (upd J5 q6 (.tup [V.ref q1, V.ref q2, V.ref q3, V.ref q4, V.ref q5])) q6 = some (.tup [V.ref q1, V.ref q2, V.ref q3, V.ref q4, V.ref q5]) := upd_same
            replace g1 := f6 _ _ g1
            replace g2 := f6 _ _ g2
            replace g3 := f6 _ _ g3
            replace g4 := f6 _ _ g4
            replace g5 := f6 _ _ g5
            generalize (upd J5 q6 (.tup [V.ref q1, V.ref q2, V.ref q3, V.ref q4, V.ref q5])) = H9 at *
            have f16 := f1.trans (f2.trans (f3.trans (f4.trans (f5.trans f6))))
            have h9 := h8.up f16
            walk_at "go"
            refine ⟨h, cl, 5, rfl, h9, by decide, by decide, fun kq H10 kq0 kq1 kk10 h10 => ?_⟩
            have im10 := h9.im kk10
            have hq : ∃ qa qs, [V.ref q1, V.ref q2, V.ref q3, V.ref q4, V.ref q5][kq.toNat]? = some (.ref qa) ∧ H10 qa = some (.tup (qs.map V.int)) ∧ qs ∈ quads := by
              have : kq = 0 ∨ kq = 1 ∨ kq = 2 ∨ kq = 3 ∨ kq = 4 := by omega
              rcases this with rfl | rfl | rfl | rfl | rfl
              · exact ⟨q1, [1, 0, 1], rfl, im_tup im10 g1, by decide⟩
              · exact ⟨q2, [1, 1, 1], rfl, im_tup im10 g2, by decide⟩
              · exact ⟨q3, [-2, 0, 1], rfl, im_tup im10 g3, by decide⟩
              · exact ⟨q4, [2, 0, 3], rfl, im_tup im10 g4, by decide⟩
              · exact ⟨q5, [3, 1, 1], rfl, im_tup im10 g5, by decide⟩
            obtain ⟨qa, qs, hqa, hqt, hqm⟩ := hq
            have hq3 : qs.length = 3 ∧ ∀ i ∈ qs, -3 ≤ i ∧ i ≤ 3 := by
              have : ∀ q ∈ quads, q.length = 3 ∧ ∀ i ∈ q, -3 ≤ i ∧ i ≤ 3 := by decide
              exact this qs hqm
            have ht10 := kk10 _ _ ht6h (f16 _ _ ht8)
            have hr10 := (hr8.up f16).im im10
            have k010 := k08.trans ((Same.kept f16).trans kk10)
            refine g_ixTn (j := kq.toNat) (im_tup im10 g6) (by omega) hqa ?_
            walk_at "go"
            have hql : (qs.map V.int).length = qs.length := List.length_map ..
            refine ⟨qa, rfl, ⟨_, SqT.of hqt⟩, fun D2 hD2 => lc_wordT (xs := qs.map V.int) (fun i ys Ha => ys.length = i ∧ i ≤ qs.length ∧ Reps (R := R) Ha ys ((qs.take i).map NumC.of)) hqt (fun _ _ _ _ h im => ⟨h.1, h.2.1, h.2.2.im im⟩) (fun i ys _ h => by omega) hD2 ⟨rfl, Nat.zero_le _, .nil⟩ (fun i x ys Hd hx ed h' => ?_) (fun ys Hd ed hys h' => ?_)⟩
            · intro Qk Qn hk hn
              obtain ⟨c, hc, rfl⟩ := map_get hx
              have hi := (List.getElem?_eq_some_iff.mp hc).1
              walk_at "go"
              refine ⟨rfl, g_yes (ite_t ?_)⟩
              walk_at "go"
              refine ⟨c, rfl, fun v H11 e11 hv => ?_⟩
              refine hk _ _ e11 ⟨by rw [List.length_append, h'.1]; rfl, hi, ?_⟩
              rw [List.take_add_one, hc, List.map_append]
              exact Paired.snoc (Reps.up h'.2.2 e11) hv
            · have hqr := h'.2.2
              rw [List.take_of_length_le (by omega)] at hqr
              have h11 := h10.up ed
              have bq : Bds 1 (quadL R qs) := fun y hy => by
                obtain ⟨i, hi, rfl⟩ := List.mem_map.mp hy
                exact hof i (hq3.2 i hi).1 (hq3.2 i hi).2
              have hqll : (quadL R qs).length = 3 := by
                show (qs.map NumC.of).length = 3
                rw [List.length_map]
                exact hq3.1
              walk_at "go"
              refine ⟨t6, D2, zs6, ys, madeF cs, quadL R qs, 36, 1, rfl, .inl (ed _ _ ht10), hr10.up ed, .inl hys, hqr, by omega, by omega, by omega, hB6, bq, by rw [hqll]; decide, fun ml mz H12 e12 hmn hml hmr => ?_⟩
              have hmh : ml ≠ h := (h11.ne hmn).1
              walk_at "go"
              refine ⟨(by show 2 ≤ sizeLine; decide), fun fl hfl => ?_⟩
              have e13 := same_new (o := HO.lst [V.ref ml, V.non]) hfl
              have e1013 := ed.trans (e12.trans e13)
              refine q fl ml .non _ (conv (madeF cs) (quadL R qs)) none _ upd_same (e13 _ _ hml) (hmr.up e13) hmh rfl ⟨by rw [conv_len]; omega, by rw [conv_len]; omega, ?_, .inr (.inr (.inl ⟨cs, qs, hok5, hqm, rfl, rfl⟩))⟩ (k010.trans (Same.kept e1013)) (h10.up e1013)
              exact bds_mono (by rw [hqll]; decide) (bds_conv hB6 bq)
          · intro hw4
            walk_at "go"
            refine ⟨(by show 2 ≤ sizeLine; decide), fun fl hfl => ?_⟩
            have e13 := same_new (o := HO.lst [V.ref t6, V.ref Dl]) hfl
            exact q fl t6 (.ref Dl) _ (madeF cs) (some (drawnF cs)) _ upd_same (e13 _ _ ht8) (hr8.up e13) ht6h ⟨Dl, _, rfl, hDh, e13 _ _ hD8, hroots8.up e13⟩ ⟨by omega, by omega, bds_mono (by decide) hB6, .inr (.inr (.inr ⟨cs, hok5, rfl, rfl⟩))⟩ (k08.trans (Same.kept e13)) (h8.up e13)
    · rw [show decide (((NumC.p R : Nat) : Int) > 0) = true from decide_eq_true (by omega)]
      walk_at "go"
      refine ⟨h, cl, 3, rfl, h2, by decide, by decide, fun k3 H3 _ _ kk3 h3 => ?_⟩
      have kk13 := kk12.trans kk3
      walk_at "go"
      walk_at "if"
      · intro hz
        walk_at "go"
        refine ⟨h, cl, (1 + k2 + 1).toNat, by rw [show (((1 + k2 + 1).toNat : Nat) : Int) = 1 + k2 + 1 by omega]; rfl, h3, by omega, fun t us xs H4 hn4 hl4 hr4 hlen4 hB4 kk4 h4 => ?_⟩
        have hth : t ≠ h := (h3.ne hn4).1
        walk_at "go"
        refine ⟨(by show 2 ≤ sizeLine; decide), fun fl hfl => ?_⟩
        have e5 := same_new (o := HO.lst [V.ref t, V.non]) hfl
        exact q fl t .non us xs none _ upd_same (e5 _ _ hl4) (hr4.up e5) hth rfl ⟨by omega, by omega, bds_mono (by decide) hB4, .inl hp0⟩ (kk13.trans (kk4.trans (Same.kept e5))) (h4.up e5)
      · intro hz
        walk_at "go"
        refine ⟨h, cl, (1 + k2).toNat, by rw [show (((1 + k2).toNat : Nat) : Int) = 1 + k2 by omega]; rfl, h3, by omega, fun cl5 us5 cs H5 hn5 hl5 hit5 hlen5 hok5 kk5 h5 => ?_⟩
        have k05 := kk13.trans kk5
        walk_at "go"
        refine ⟨cl5, us5, cs, rfl, hl5, hit5, hok5, by omega, fun t6 zs6 H6 e6 hn6 hl6 hr6 hml6 hB6 => ?_⟩
        have k06 := k05.trans (Same.kept e6)
        have h6 := h5.up e6
        have ht6h : t6 ≠ h := (h5.ne hn6).1
        have hit6 : Paired (ItRep H6) us5 cs := Paired.mapP hit5 fun _ _ x => x.im e6
        have hl56 := e6 _ _ hl5
        have hul5 := paired_len hit5
        walk_at "go"
        refine ⟨cl5, rfl, ⟨us5, SqL.of hl56⟩, fun Dl hD => lc_wordL (xs := us5) (fun i ys Ha => ys.length ≤ i ∧ i ≤ us5.length ∧ Reps Ha ys (drawnF (cs.take i))) hl56 (fun _ _ _ _ h im => ⟨h.1, h.2.1, h.2.2.im im⟩) (fun i ys _ h => by omega) hD ⟨Nat.le_refl _, Nat.zero_le _, .nil⟩ (fun i x ys Hd hx ed h' => ?_) (fun ys Hd ed hys h' => ?_)⟩
        · intro Qk Qn hk hn
          have hi := (List.getElem?_eq_some_iff.mp hx).1
          obtain ⟨c, hc, p, r, u, rfl, hp, hor, hru⟩ := paired_get hit6 hx
          have hstep := drawnF_take hc
          refine g_unl2 (ed _ _ hp) ?_
          refine ⟨rfl, ?_⟩
          walk_at "go"
          cases hco : c.1 with
          | none =>
            rw [hco] at hor hstep
            have er : r = .non := hor
            subst er
            walk_at "go"
            refine hn _ (Same.refl _) ⟨by omega, hi, ?_⟩
            rw [hstep]
            show Reps _ _ (_ ++ [])
            rw [List.append_nil]
            exact h'.2.2
          | some r0 =>
            rw [hco] at hor hstep
            have hr0 : Rep H6 r r0 := hor
            refine g_notN_R (hr0.up ed) ?_
            walk_at "go"
            refine hk _ _ (Same.refl _) ⟨by rw [List.length_append]; show _ + 1 ≤ _; omega, hi, ?_⟩
            rw [hstep]
            exact Paired.snoc h'.2.2 (hr0.up ed)
        · have hroots := h'.2.2
          rw [List.take_of_length_le (by omega)] at hroots
          have hDh : Dl ≠ h := (h6.ne hD).1
          have h7 := h6.up ed
          have k07 := k06.trans (Same.kept ed)
          have ht7 := ed _ _ hl6
          have hr7 := hr6.up ed
          walk_at "go"
          refine ⟨h, cl, 8, rfl, h7, by decide, by decide, fun kw H8 kw0 kw1 kk8 h8 => ?_⟩
          have im8 := h7.im kk8
          have k08 := k07.trans kk8
          have ht8 := kk8 _ _ ht6h ht7
          have hr8 := hr7.im im8
          have hD8 := kk8 _ _ hDh hys
          have hroots8 := Reps.im hroots im8
          walk_at "go"
          walk_at "if"
          · intro hw0
            walk_at "go"
            refine ⟨0, rfl, fun v H9 e9 hv => ?_⟩
            rw [NumC.of_0] at hv
            walk_at "go"
            refine ⟨(by show 1 ≤ sizeLine; decide), fun p hp => ?_⟩
            have e10 := Same.up (o := HO.lst [v]) e9 hp
            have hpl : (upd H9 p (.lst [v])) p = some (.lst [v]) := upd_same
            have hv10 := hv.up (same_new (o := HO.lst [v]) hp)
            generalize (upd H9 p (.lst [v])) = H10 at *
            walk_at "go"
            refine g_rRep hpl (by omega) (by omega) (by show 1 ≤ 1; decide) fun zl hzl => ?_
            rw [flat_rep]
            have e11 := Same.up (o := HO.lst (List.replicate (1 + k2 + 1).toNat v)) e10 hzl
            have hzv : (upd H10 zl (.lst (List.replicate (1 + k2 + 1).toNat v))) zl = some (.lst (List.replicate (1 + k2 + 1).toNat v)) := upd_same
            have hv11 := hv10.up (same_new (o := HO.lst (List.replicate (1 + k2 + 1).toNat v)) hzl)
            have hzh : zl ≠ h := ((h8.up e10).ne hzl).1
            generalize (upd H10 zl (.lst (List.replicate (1 + k2 + 1).toNat v))) = H11 at *
            walk_at "go"
            refine ⟨(by show 0 ≤ sizeLine; decide), fun el hel => ?_⟩
            have e12 := Same.up (o := HO.lst []) e11 hel
            have helv : (upd H11 el (.lst [])) el = some (.lst []) := upd_same
            have hzv12 := (same_new (o := HO.lst []) hel) _ _ hzv
            have hv12 := hv11.up (same_new (o := HO.lst []) hel)
            have helh : el ≠ h := ((h8.up e11).ne hel).1
            generalize (upd H11 el (.lst [])) = H12 at *
            walk_at "go"
            refine ⟨(by show 2 ≤ sizeLine; decide), fun fl hfl => ?_⟩
            have e13 := same_new (o := HO.lst [V.ref zl, V.ref el]) hfl
            have e813 := e12.trans e13
            refine q fl zl (.ref el) _ (List.replicate (1 + k2 + 1).toNat 0) (some []) _ upd_same (e13 _ _ hzv12) (paired_rep (hv12.up e13) _) hzh ⟨el, [], rfl, helh, e13 _ _ helv, .nil⟩ ⟨by rw [List.length_replicate]; omega, by rw [List.length_replicate]; omega, ?_, .inr (.inl ⟨by rw [List.length_replicate], rfl⟩)⟩ (k08.trans (Same.kept e813)) (h8.up e813)
            intro y hy
            rw [(List.mem_replicate.mp hy).2]
            exact NumC.bd_mono (Nat.zero_le _) NumC.bd_0
          · intro hw0
            walk_at "go"
            walk_at "if"
            · intro hw4
              walk_at "go"
              refine ⟨(by show 3 ≤ sizeLine; decide), fun q1 n1 => ?_⟩
              have f1 := same_new (o := HO.tup [V.int 1, V.int 0, V.int 1]) n1
              have g1 : (upd H8 q1 (.tup [V.int 1, V.int 0, V.int 1])) q1 = some (.tup [V.int 1, V.int 0, V.int 1]) := upd_same
              generalize (upd H8 q1 (.tup [V.int 1, V.int 0, V.int 1])) = J1 at *
              walk_at "go"
              refine ⟨(by show 3 ≤ sizeLine; decide), fun q2 n2 => ?_⟩
              have f2 := same_new (o := HO.tup [V.int 1, V.int 1, V.int 1]) n2
              have g2 : (upd J1 q2 (.tup [V.int 1, V.int 1, V.int 1])) q2 = some (.tup [V.int 1, V.int 1, V.int 1]) := upd_same
              replace g1 := f2 _ _ g1
              generalize (upd J1 q2 (.tup [V.int 1, V.int 1, V.int 1])) = J2 at *
              walk_at "go"
              refine ⟨(by show 3 ≤ sizeLine; decide), fun q3 n3 => ?_⟩
              have f3 := same_new (o := HO.tup [V.int (-2), V.int 0, V.int 1]) n3
              have g3 : (upd J2 q3 (.tup [V.int (-2), V.int 0, V.int 1])) q3 = some (.tup [V.int (-2), V.int 0, V.int 1]) := upd_same
              replace g1 := f3 _ _ g1
              replace g2 := f3 _ _ g2
              generalize (upd J2 q3 (.tup [V.int (-2), V.int 0, V.int 1])) = J3 at *
              walk_at "go"
              refine ⟨(by show 3 ≤ sizeLine; decide), fun q4 n4 => ?_⟩
              have f4 := same_new (o := HO.tup [V.int 2, V.int 0, V.int 3]) n4
              have g4 : (upd J3 q4 (.tup [V.int 2, V.int 0, V.int 3])) q4 = some (.tup [V.int 2, V.int 0, V.int 3]) := upd_same
              replace g1 := f4 _ _ g1
              replace g2 := f4 _ _ g2
              replace g3 := f4 _ _ g3
              generalize (upd J3 q4 (.tup [V.int 2, V.int 0, V.int 3])) = J4 at *
              walk_at "go"
              refine ⟨(by show 3 ≤ sizeLine; decide), fun q5 n5 => ?_⟩
              have f5 := same_new (o := HO.tup [V.int 3, V.int 1, V.int 1]) n5
              have g5 : (upd J4 q5 (.tup [V.int 3, V.int 1, V.int 1])) q5 = some (.tup [V.int 3, V.int 1, V.int 1]) := upd_same
              replace g1 := f5 _ _ g1
              replace g2 := f5 _ _ g2
              replace g3 := f5 _ _ g3
              replace g4 := f5 _ _ g4
              generalize (upd J4 q5 (.tup [V.int 3, V.int 1, V.int 1])) = J5 at *
              walk_at "go"
              refine ⟨(by show 5 ≤ sizeLine; decide), fun q6 n6 => ?_⟩
              have f6 := same_new (o := HO.tup [V.ref q1, V.ref q2, V.ref q3, V.ref q4, V.ref q5]) n6
              have g6 : (upd J5 q6 (.tup [V.ref q1, V.ref q2, V.ref q3, V.ref q4, V.ref q5])) q6 = some (.tup [V.ref q1, V.ref q2, V.ref q3, V.ref q4, V.ref q5]) := upd_same
              replace g1 := f6 _ _ g1
              replace g2 := f6 _ _ g2
              replace g3 := f6 _ _ g3
              replace g4 := f6 _ _ g4
              replace g5 := f6 _ _ g5
              generalize (upd J5 q6 (.tup [V.ref q1, V.ref q2, V.ref q3, V.ref q4, V.ref q5])) = H9 at *
              have f16 := f1.trans (f2.trans (f3.trans (f4.trans (f5.trans f6))))
              have h9 := h8.up f16
              walk_at "go"
              refine ⟨h, cl, 5, rfl, h9, by decide, by decide, fun kq H10 kq0 kq1 kk10 h10 => ?_⟩
              have im10 := h9.im kk10
              have hq : ∃ qa qs, [V.ref q1, V.ref q2, V.ref q3, V.ref q4, V.ref q5][kq.toNat]? = some (.ref qa) ∧ H10 qa = some (.tup (qs.map V.int)) ∧ qs ∈ quads := by
                have : kq = 0 ∨ kq = 1 ∨ kq = 2 ∨ kq = 3 ∨ kq = 4 := by omega
                rcases this with rfl | rfl | rfl | rfl | rfl
                · exact ⟨q1, [1, 0, 1], rfl, im_tup im10 g1, by decide⟩
                · exact ⟨q2, [1, 1, 1], rfl, im_tup im10 g2, by decide⟩
                · exact ⟨q3, [-2, 0, 1], rfl, im_tup im10 g3, by decide⟩
                · exact ⟨q4, [2, 0, 3], rfl, im_tup im10 g4, by decide⟩
                · exact ⟨q5, [3, 1, 1], rfl, im_tup im10 g5, by decide⟩
              obtain ⟨qa, qs, hqa, hqt, hqm⟩ := hq
              have hq3 : qs.length = 3 ∧ ∀ i ∈ qs, -3 ≤ i ∧ i ≤ 3 := by
                have : ∀ q ∈ quads, q.length = 3 ∧ ∀ i ∈ q, -3 ≤ i ∧ i ≤ 3 := by decide
                exact this qs hqm
              have ht10 := kk10 _ _ ht6h (f16 _ _ ht8)
              have hr10 := (hr8.up f16).im im10
              have k010 := k08.trans ((Same.kept f16).trans kk10)
              refine g_ixTn (j := kq.toNat) (im_tup im10 g6) (by omega) hqa ?_
              walk_at "go"
              have hql : (qs.map V.int).length = qs.length := List.length_map ..
              refine ⟨qa, rfl, ⟨_, SqT.of hqt⟩, fun D2 hD2 => lc_wordT (xs := qs.map V.int) (fun i ys Ha => ys.length = i ∧ i ≤ qs.length ∧ Reps (R := R) Ha ys ((qs.take i).map NumC.of)) hqt (fun _ _ _ _ h im => ⟨h.1, h.2.1, h.2.2.im im⟩) (fun i ys _ h => by omega) hD2 ⟨rfl, Nat.zero_le _, .nil⟩ (fun i x ys Hd hx ed h' => ?_) (fun ys Hd ed hys h' => ?_)⟩
              · intro Qk Qn hk hn
                obtain ⟨c, hc, rfl⟩ := map_get hx
                have hi := (List.getElem?_eq_some_iff.mp hc).1
                walk_at "go"
                refine ⟨rfl, g_yes (ite_t ?_)⟩
                walk_at "go"
                refine ⟨c, rfl, fun v H11 e11 hv => ?_⟩
                refine hk _ _ e11 ⟨by rw [List.length_append, h'.1]; rfl, hi, ?_⟩
                rw [List.take_add_one, hc, List.map_append]
                exact Paired.snoc (Reps.up h'.2.2 e11) hv
              · have hqr := h'.2.2
                rw [List.take_of_length_le (by omega)] at hqr
                have h11 := h10.up ed
                have bq : Bds 1 (quadL R qs) := fun y hy => by
                  obtain ⟨i, hi, rfl⟩ := List.mem_map.mp hy
                  exact hof i (hq3.2 i hi).1 (hq3.2 i hi).2
                have hqll : (quadL R qs).length = 3 := by
                  show (qs.map NumC.of).length = 3
                  rw [List.length_map]
                  exact hq3.1
                walk_at "go"
                refine ⟨t6, D2, zs6, ys, madeF cs, quadL R qs, 36, 1, rfl, .inl (ed _ _ ht10), hr10.up ed, .inl hys, hqr, by omega, by omega, by omega, hB6, bq, by rw [hqll]; decide, fun ml mz H12 e12 hmn hml hmr => ?_⟩
                have hmh : ml ≠ h := (h11.ne hmn).1
                walk_at "go"
                refine ⟨(by show 2 ≤ sizeLine; decide), fun fl hfl => ?_⟩
                have e13 := same_new (o := HO.lst [V.ref ml, V.non]) hfl
                have e1013 := ed.trans (e12.trans e13)
                refine q fl ml .non _ (conv (madeF cs) (quadL R qs)) none _ upd_same (e13 _ _ hml) (hmr.up e13) hmh rfl ⟨by rw [conv_len]; omega, by rw [conv_len]; omega, ?_, .inr (.inr (.inl ⟨cs, qs, hok5, hqm, rfl, rfl⟩))⟩ (k010.trans (Same.kept e1013)) (h10.up e1013)
                exact bds_mono (by rw [hqll]; decide) (bds_conv hB6 bq)
            · intro hw4
              walk_at "go"
              refine ⟨(by show 2 ≤ sizeLine; decide), fun fl hfl => ?_⟩
              have e13 := same_new (o := HO.lst [V.ref t6, V.ref Dl]) hfl
              exact q fl t6 (.ref Dl) _ (madeF cs) (some (drawnF cs)) _ upd_same (e13 _ _ ht8) (hr8.up e13) ht6h ⟨Dl, _, rfl, hDh, e13 _ _ hD8, hroots8.up e13⟩ ⟨by omega, by omega, bds_mono (by decide) hB6, .inr (.inr (.inr ⟨cs, hok5, rfl, rfl⟩))⟩ (k08.trans (Same.kept e13)) (h8.up e13)
end
end Kw
set_option maxHeartbeats 4000000
namespace Kw
open PySem PySem.Spec PyProof.Rows L2 RT
local macro_rules | `(tactic| walk_at "step") => `(tactic| with_reducible first
  | refine g_op ?_ | refine g_c ?_ | refine g_test ?_ | refine g_bl ?_ | refine g_seq ?_ | refine g_ifS ?_ | refine g_cons ?_ | refine g_nil ?_ | refine g_I0 ?_ | refine g_asg ?_ | refine g_name ?_
  | refine g_ret ?_ | refine g_nx ?_ | refine g_cb ?_ | refine g_call ?_ | refine g_un ?_ | refine g_rU ?_ | refine g_B ?_ | refine g_and ?_ | refine g_or ?_ | refine g_not ?_ | refine g_andV ?_ | refine g_orV ?_
  | refine g_notV ?_ | refine g_ifE ?_ | refine g_drop ?_ | refine g_par ?_ | refine g_two ?_ | refine g_abs ?_ | refine g_mx ?_ | refine g_int ?_ | refine g_tup ?_ | refine g_lst ?_ | refine g_chain ?_
  | refine g_sl ?_ | refine g_nopart ?_ | refine g_part ?_ | refine g_partI ?_ | refine g_bm ?_ | refine g_sub ?_ | refine g_ip ?_ | refine g_make ?_ | refine g_forR1 ?_ | refine g_forR2 ?_ | refine g_forR3 ?_ | refine g_forL ?_ | refine g_forT ?_ | refine g_forV ?_ | refine g_forVR ?_ | refine g_forE ?_ | refine g_lcL ?_ | refine g_lcT ?_ | refine g_lcR1 ?_ | refine g_lcR2 ?_ | refine g_fld ?_ | refine g_meth ?_ | refine ite_t ?_ | refine ite_nt ?_ | refine ite_nf ?_ | refine g_eqi ?_ | refine g_nei ?_ | refine ite_f ?_ | refine g_isN_n ?_ | refine g_isN_i ?_ | refine g_isN_r ?_ | refine g_notN_n ?_ | refine g_notN_i ?_ | refine g_notN_r ?_ | refine g_isi_ib ?_ | refine g_isi_ii ?_ | refine g_isi_it ?_ | refine g_isi_nt ?_)
local macro_rules | `(tactic| walk_at "var") => `(tactic| ((with_reducible refine' g_var ?hvar ?_); (case hvar => rfl)))
local macro_rules | `(tactic| walk_at "fact") => `(tactic| first
  | ((with_reducible refine' g_ixT ?hfact ?hat ?_); (case hfact => assumption); (case hat => rfl))
  | ((with_reducible refine' g_ixL ?hfact ?hat ?_); (case hfact => assumption); (case hat => rfl)))
local macro_rules | `(tactic| walk_at "fact1") => `(tactic| first
  | ((with_reducible refine' g_lenT ?hfact ?_); (case hfact => assumption))
  | ((with_reducible refine' g_lenL ?hfact ?_); (case hfact => assumption))
  | ((with_reducible refine' g_isi_tt ?hfact ?_); (case hfact => assumption)))
local macro_rules | `(tactic| walk_at "go") => `(tactic| repeat (first | walk_at "step" | walk_at "var" | walk_at "fact" | walk_at "fact1"))
local macro_rules | `(tactic| walk_at "if") => `(tactic| with_reducible first | refine ite_d ?_ ?_ | refine ite_n ?_ ?_ | refine ite_b ?_ ?_)
local macro_rules | `(tactic| walk_at "prime") => `(tactic| refine fig_prime (by assumption) (by assumption) ?_)
local macro_rules | `(tactic| walk_at "zero") => `(tactic| refine fig_zero (by assumption) (by assumption) ?_)
local macro_rules | `(tactic| walk_at "one") => `(tactic| refine fig_one (by assumption) (by assumption) ?_)
local macro_rules | `(tactic| walk_at "meth") => `(tactic| refine fig_meth (by assumption) (by decide +kernel) ?_)
/-! ### sorted(l, key=lambda r: r[0] * 6 // r[1]) -/
section
variable {prog : Program} {w : World} {A : Around} {s : Shared}
theorem ld_loc {M : Model} {A : Around} {E : Value → Shared → Prop} {s : Shared} {env : Env} {m : Str → Option Value} {x : Str} {pos : PySem.Pos} {v : Value} {Q : Value → Shared → Prop} (hn : s.heap.Ns env.locals m) (hv : m x = some v) (h : Q v s)
    (hk : env.scope.kind = .function) (hl : env.kindOf x = some .local) (hd : (x == ("__debug__" : Str)) = false) : wpAny M A (eval (.Name x pos) env) Q E s := wpAny_Name (wpAny_loadName_local hk hl hn hv h) hd
theorem key_turn {f a c' : Addr} {cl : List (Str × Addr)} {q r : Str} {params : Arguments} {scope : Scope} {pm ctv : Value} {t b : Int} {t1 t2 : Tok} {p1 p2 p3 p4 p5 p6 p7 p8 p9 : PySem.Pos} {k1 k2 k3 : Nat}
    (hroom : A.depth < recursionLimit) (hlim : s.heap.NoLimit)
    (of : s.heap.get? f = some (PySem.W.kla_obj "<lambda>" q params (.BinOp (.BinOp (.Subscript (.Name r p1) (.Constant (.int 0) k1 p2) p3) .Mult (.Constant (.int 6) k2 p4) p5) .FloorDiv (.Subscript (.Name r p6) (.Constant (.int 1) k3 p7) p8) p9) scope cl pm c' ctv))
    (hcr : s.heap.CodeRec (.ref c') q) (hco : scope.isCoroutine = false) (hgen : scope.isGenerator = false) (hkind : scope.kind = .function) (hcell : ∀ x ∈ scope.names, x.2 ≠ .cell) (hloc : scope.names.lookup r = some .local) (hrd : (r == ("__debug__" : Str)) = false)
    (hbind : ∀ body cl, bindArgs (PySem.W.kla_fn "<lambda>" q params body scope cl pm (.ref c') ctv) ⟨[.ref a], []⟩ = pure [(r, .ref a)])
    (ha : IsTup s.heap a #[.int t t1, .int b t2]) (hb : b ≠ 0) (hb2 : b.natAbs < 1073741824) (ht : t.natAbs < 2 ^ 64) :
    wpAny (model prog w) A (call (.ref f) [.ref a]) (PySem.W.KeyPure (.int ((t * 6).fdiv b)) s) (fun _ _ => False) s := by
  refine wpAny_call (PySem.W.kla_callFunE hroom of rfl hco hgen rfl hcr ?_)
  rw [hbind]
  refine wpAny_pure (wpAny_newFunctionEnv hcell (fun y hy => ?_) (fun h₁ hns hsb => ⟨hlim.fresh _ hsb, ?_⟩) hkind)
  · have : y = (r, .ref a) := by simpa using hy
    rw [this]
    exact hloc
  have kp : ∀ b o, s.heap.get? b = some o → h₁.get? b = some o := fun b o e => hsb.extBut b o (Nat.ne_of_lt (Heap.lt_size e)) (Heap.get?_push_of_some _ e)
  refine PySem.W.kla_codeExpr ?_
  have ha1 := ha.keeps kp
  have hv : (fun x => ([(r, Value.ref a)] : List (Str × Value)).reverse.lookup x) r = some (.ref a) := by simp [List.lookup]
  refine wpAny_BinOp (wpAny_BinOp ?_)
  refine Subscript_ (ld_loc hns hv (wpAny_Constant_int ?_) hkind hloc hrd)
  refine subscriptTail_builtinR (x := .int t t1) ha1.typeIs slot_tuple_getitem.lookup (getItem_tuple (j := 0) ha1 (by decide) (by decide) (by rfl) (by rfl) ⟨rfl, ?_⟩)
  refine wpAny_Constant_int ?_
  refine mul_int ?_ ?_
  · refine Subscript_ (ld_loc hns hv (wpAny_Constant_int ?_) hkind hloc hrd)
    refine subscriptTail_builtinR (x := .int b t2) ha1.typeIs slot_tuple_getitem.lookup (getItem_tuple (j := 1) ha1 (by decide) (by decide) (by rfl) (by rfl) ⟨rfl, ?_⟩)
    refine floordiv_int hb ?_ (.inl (PyProof.noPylong_small hb2))
    exact ⟨h₁, _, rfl, kp, .int _ _⟩
  · exact (wide_mul (a := 64) (b := 64) ht (by decide) (by decide) (by decide) (by decide)).ok
end
def keyQ (x : Rat) : Int := (x.num * 6).fdiv x.den
def SmallQ (x : Rat) : Prop := x.num.natAbs < 2 ^ 64 ∧ x.den < 1073741824
theorem reps_extN {H H' : Hp} {vs : List V} {xs : List Rat} (h : Reps H vs xs) (e : LamX.ExtN H H') : Reps H' vs xs := Paired.mapP h fun _ _ r => by
  obtain ⟨a, h1, h2⟩ := rt_rep ▸ r
  exact rt_rep ▸ ⟨a, h1, e _ _ h2 fun ps z => by cases z⟩
theorem each_vals {Hc : Hp} {h : Heap} : ∀ {out : List Value} {xs : List Rat}, PySem.W.EachIs (fun (v : Value) (x : Rat) => ∃ (a : Addr) (t1 t2 : Tok), v = .ref a ∧ Hc a = some (.tup [.int x.num, .int x.den]) ∧ IsTup h a #[.int x.num t1, .int x.den t2] ∧ SmallQ x) out xs → ∃ vs, Vals vs out ∧ Reps Hc vs xs
  | _, _, .nil => ⟨[], .nil, .nil⟩
  | _, _, .cons r t => by
    obtain ⟨a, t1, t2, rfl, h1, h2, _⟩ := r
    obtain ⟨vs, h3, h4⟩ := each_vals t
    exact ⟨.ref a :: vs, .cons rfl h3, .cons (rt_rep ▸ ⟨a, rfl, h1⟩) h4⟩
theorem vals_each {X : Cx} {pins : List (Addr × Obj)} {σ : L2.St} {Hc : Hp} {s : Shared} (I : Inv X pins σ Hc s) : ∀ {vs : List V} {xs : List Rat} {its : List Value}, Reps Hc vs xs → Vals vs its → (∀ x ∈ xs, SmallQ x) →
    PySem.W.EachIs (fun (v : Value) (x : Rat) => ∃ (a : Addr) (t1 t2 : Tok), v = .ref a ∧ Hc a = some (.tup [.int x.num, .int x.den]) ∧ IsTup s.heap a #[.int x.num t1, .int x.den t2] ∧ SmallQ x) its xs
  | _, _, _, .nil, .nil, _ => .nil
  | _, _, _, .cons r t, .cons rv tv, hs => by
    refine .cons ?_ (vals_each I t tv fun x hx => hs x (List.mem_cons_of_mem _ hx))
    obtain ⟨a, rfl, ha⟩ := rt_rep ▸ r
    have ev := rv
    obtain ⟨its, r2, pl, _⟩ := I.tuple (SqT.of ha)
    cases r2 with
    | cons ra rb =>
      cases rb with
      | cons rb rc =>
        cases rc
        obtain ⟨t1, rfl⟩ := ra
        obtain ⟨t2, rfl⟩ := rb
        exact ⟨a, t1, t2, ev, ha, pl, hs _ (List.mem_cons_self ..)⟩
/-- the reading -/
def SortQ (T : List (Addr × Str)) (Q : VK) (x : V) (H1 : Hp) : Prop := LamX.Tabs T H1 ∧ ∃ (l : Addr) (vs : List V) (xs : List Rat), x = .ref l ∧ H1 l = some (.lst vs) ∧ Reps H1 vs xs ∧ (∀ x ∈ xs, SmallQ x) ∧ xs.length ≤ 1000 ∧
  ∀ H2, LamX.ExtN H1 H2 → LamX.Tabs T H2 → ∀ vs' p, Reps H2 vs' (xs.mergeSort fun a b => decide (keyQ a ≤ keyQ b)) → H2 p = none → Q (.ref p) (upd H2 p (.lst vs'))
def SortA (T : List (Addr × Str)) (Q : VK) : List V → Hp → Prop
  | [x], H1 => SortQ T Q x H1
  | _, _ => False
def tSortLam (T : List (Addr × Str)) (te : TE) : TE := fun σ H Q => te σ H fun x H1 => SortQ T Q x H1
section
variable {X : Cx}
theorem pe_sortlam {T : List (Addr × Str)} {c P : Addr} {r : Str} {params : Arguments} {scope : Scope} {p1 p2 p3 p4 p5 p6 p7 p8 p9 p lpos kpos pos : PySem.Pos} {k1 k2 k3 k : Nat} {e : Expr} {te : TE} (hg : Gl X "sorted") (hm : X.mg "sorted" = none) (ha : PA X [e] (tCons te tNil))
    (TB : LamX.TabB X.base X.mg c P) (hcode : X.env.code = .ref c) (hmT : (P, X.env.qual ++ "<lambda>") ∈ T) (hu : ∀ p ∈ T, p.1 = P → p.2 = X.env.qual ++ "<lambda>") (hr : Room k X.A) (hdef : defaultsOf params X.env = ([], []) := by rfl)
    (hco : scope.isCoroutine = false := by rfl) (hgen : scope.isGenerator = false := by rfl) (hkind : scope.kind = .function := by rfl) (hcell : ∀ x ∈ scope.names, x.2 ≠ .cell ∧ x.2 ≠ .free := by decide) (hloc : scope.names.lookup r = some .local := by rfl) (hrd : (r == ("__debug__" : Str)) = false := by decide)
    (hbind : ∀ (q : Str) (cl : List (Str × Addr)) (body : Expr) (pm cv ctv : Value) (a : Addr), bindArgs (PySem.W.kla_fn "<lambda>" q params body scope cl pm cv ctv) ⟨[.ref a], []⟩ = pure [(r, .ref a)] := by intro _ _ _ _ _ _ _; rfl)
    (hbk : backTo pos (starEach [e] X.env) = (false, eval e X.env) :: backTo pos (starEach [] X.env) := by rfl) (hpl : (backTo pos (starEach [e] X.env)).any (·.1) = false := by rfl) :
    PE X (.Call (.Name "sorted" p) [e] [⟨some "key", .Lambda params (.BinOp (.BinOp (.Subscript (.Name r p1) (.Constant (.int 0) k1 p2) p3) .Mult (.Constant (.int 6) k2 p4) p5) .FloorDiv (.Subscript (.Name r p6) (.Constant (.int 1) k3 p7) p8) p9) scope lpos, kpos⟩] pos) (tSortLam T te) := by
  refine ⟨fun pins s σ H Q I h => ?_⟩
  refine wpAny_Call_Name_kw (ld_blt I hg hm boot_sorted ?_ (by decide) (by decide))
  refine PyProof.Rows.callWith_kw (thn (ha.run pos pins s σ H (SortA T Q) I h) fun us s1 ⟨vs, H1, I1, r1, q1⟩ => ?_) hbk hpl (by rfl) (by rfl)
  cases r1 with
  | nil => exact q1.elim
  | @cons x u xs0 us0 rx rs =>
  cases rs with
  | cons _ _ => exact q1.elim
  | nil =>
  obtain ⟨hT, l, vs, xs, rfl, hl, hv, hsm, hlen, q⟩ := q1
  obtain rfl : u = Value.ref l := rx
  show wpAny _ _ (evalAll [(do let v ← eval _ X.env; standAt pos; pure v)]) _ _ s1
  refine wpAny_evalAll_cons (wpAny_bind (LamX.lam_make2 I1 TB hcode hmT hu hT hdef (fun y hy z => absurd z (hcell y hy).2) fun f c' pm ctv H2 s2 I2 eN T2 hf hfn hfr hcd => wpAny_bind (wpAny_standAt (wpAny_pure (wpAny_evalAll_nil ?_)))))
  show wpAny _ _ (call (.builtin "sorted") [.ref l] [(Str.ofString "key", .ref f)]) _ _ s2
  have hl2 : H2 l = some (.lst vs) := eN _ _ hl (fun ps z => by cases z)
  have hv2 : Reps H2 vs xs := reps_extN hv eN
  obtain ⟨its, rv, pl, hz⟩ := I2.list (SqL.of hl2)
  have hE := vals_each I2 hv2 rv hsm
  obtain ⟨⟨oc, cvs, ct, hoc, hdc, hvc⟩, _, _⟩ := I2.hok c' _ hcd
  have hvl := hv2.len
  refine PySem.W.sorted_key_data (b := false) (fun x : Rat => .int (keyQ x)) pl.isList hE (PySem.W.AllAlike.of fun _ _ => rfl) (PySem.W.Sortable.others fun x => ⟨fun z => (by cases z), fun _ z => (by cases z)⟩) (small5 (by omega)) (fun x _ => ?_) (PyProof.Rows.ksk_s1 _ _) (fun _ => PyProof.Rows.ksk_l1 _ _) (fun _ => PyProof.Rows.ksk_t1 _ _)
    (fun v x ⟨a, t1, t2, e1, e2, e3, e4⟩ hx h tk kp => ?_) fun out cc h' tk kp hfree hD holen hO => ?_
  · have := hr.units
    show X.A.units + 2 + 0 < cLine
    omega
  · subst e1
    have hlim : h.NoLimit := I2.nolimit.keeps kp
    exact key_turn (s := { s2 with heap := h, toks := tk }) (A := X.A.in1.in1) hr.depth hlim (kp _ _ hf) ⟨c', oc, cvs, ct, rfl, kp _ _ hoc, hdc, hvc⟩ hco hgen hkind (fun y hy => (hcell y hy).1) hloc hrd (fun body cl => hbind _ _ _ _ _ _ _) (e3.keeps kp) (by have := x.den_pos; omega) (by rw [Int.natAbs_natCast]; exact e4.2) e4.1
  · rw [PySem.W.dataLe_int] at hO
    obtain ⟨vs', rv', hreps⟩ := each_vals hO
    have hn : H2 (s2.heap.objs.size + 1) = none := I2.hok.fresh (Nat.le_succ _)
    exact ⟨.ref _, upd H2 (s2.heap.objs.size + 1) (.lst vs'), I2.laid (t' := tk) (h' := h') kp (Nat.le_succ _) ⟨by rw [rv'.length, holen]; exact small5 (by omega), out, cc, rv', hD⟩, rfl, q H2 eN T2 vs' _ hreps hn⟩
end
end Kw
set_option maxHeartbeats 4000000
namespace Kw
open PySem PySem.Spec PyProof.Rows L2 RT
local macro_rules | `(tactic| walk_at "step") => `(tactic| with_reducible first
  | refine g_op ?_ | refine g_c ?_ | refine g_test ?_ | refine g_bl ?_ | refine g_seq ?_ | refine g_ifS ?_ | refine g_cons ?_ | refine g_nil ?_ | refine g_I0 ?_ | refine g_asg ?_ | refine g_name ?_
  | refine g_ret ?_ | refine g_nx ?_ | refine g_cb ?_ | refine g_call ?_ | refine g_un ?_ | refine g_rU ?_ | refine g_B ?_ | refine g_and ?_ | refine g_or ?_ | refine g_not ?_ | refine g_andV ?_ | refine g_orV ?_
  | refine g_notV ?_ | refine g_ifE ?_ | refine g_drop ?_ | refine g_par ?_ | refine g_two ?_ | refine g_abs ?_ | refine g_mx ?_ | refine g_int ?_ | refine g_tup ?_ | refine g_lst ?_ | refine g_chain ?_
  | refine g_sl ?_ | refine g_nopart ?_ | refine g_part ?_ | refine g_partI ?_ | refine g_bm ?_ | refine g_sub ?_ | refine g_ip ?_ | refine g_make ?_ | refine g_forR1 ?_ | refine g_forR2 ?_ | refine g_forR3 ?_ | refine g_forL ?_ | refine g_forT ?_ | refine g_forV ?_ | refine g_forVR ?_ | refine g_forE ?_ | refine g_lcL ?_ | refine g_lcT ?_ | refine g_lcR1 ?_ | refine g_lcR2 ?_ | refine g_fld ?_ | refine g_meth ?_ | refine ite_t ?_ | refine ite_nt ?_ | refine ite_nf ?_ | refine g_eqi ?_ | refine g_nei ?_ | refine ite_f ?_ | refine g_isN_n ?_ | refine g_isN_i ?_ | refine g_isN_r ?_ | refine g_notN_n ?_ | refine g_notN_i ?_ | refine g_notN_r ?_ | refine g_isi_ib ?_ | refine g_isi_ii ?_ | refine g_isi_it ?_ | refine g_isi_nt ?_)
local macro_rules | `(tactic| walk_at "var") => `(tactic| ((with_reducible refine' g_var ?hvar ?_); (case hvar => rfl)))
local macro_rules | `(tactic| walk_at "fact") => `(tactic| first
  | ((with_reducible refine' g_ixT ?hfact ?hat ?_); (case hfact => assumption); (case hat => rfl))
  | ((with_reducible refine' g_ixL ?hfact ?hat ?_); (case hfact => assumption); (case hat => rfl)))
local macro_rules | `(tactic| walk_at "fact1") => `(tactic| first
  | ((with_reducible refine' g_lenT ?hfact ?_); (case hfact => assumption))
  | ((with_reducible refine' g_lenL ?hfact ?_); (case hfact => assumption))
  | ((with_reducible refine' g_isi_tt ?hfact ?_); (case hfact => assumption)))
local macro_rules | `(tactic| walk_at "go") => `(tactic| repeat (first | walk_at "step" | walk_at "var" | walk_at "fact" | walk_at "fact1"))
local macro_rules | `(tactic| walk_at "if") => `(tactic| with_reducible first | refine ite_d ?_ ?_ | refine ite_n ?_ ?_ | refine ite_b ?_ ?_)
local macro_rules | `(tactic| walk_at "prime") => `(tactic| refine fig_prime (by assumption) (by assumption) ?_)
local macro_rules | `(tactic| walk_at "zero") => `(tactic| refine fig_zero (by assumption) (by assumption) ?_)
local macro_rules | `(tactic| walk_at "one") => `(tactic| refine fig_one (by assumption) (by assumption) ?_)
local macro_rules | `(tactic| walk_at "meth") => `(tactic| refine fig_meth (by assumption) (by decide +kernel) ?_)
abbrev s__law_due : Stmt := topS 72
theorem sc__law_due : FnScope ["_law_p", "_law_taps", "_law_roots_here", "_law_one", "_law_nothing", "_law_lead_here", "_law_found"] ["_law_p", "_law_taps", "_law_roots_here"] (C8.fnScope s__law_due) := C8.fnScope_by (by decide +kernel)
section
variable {P : Program} {w : World} {K : PySem.W.Frag} {mg : Str → Option Value} {base : Heap} {f : Addr} {fd : FuncData}
/-- a def by its body, its code object known -/
theorem fn0C {x qual : Str} {st : Stmt} {f c : Addr} {fd : FuncData} {N ps : List Str} {k : Nat} {sp : Sp} (F : C8.Fun K x qual st f fd) (hc : fd.code = .ref c) (S : FnScope N ps (C8.fnScope st)) (len : ∀ vs H Q E, sp vs H Q E → vs.length = ps.length)
    (hbody : ∀ (A : Around) (outer : List Env) (s : Shared) (H : Hp) (vs : List V) (Q : VK) (E : XK), Room k (A.deeper (envOfC qual (C8.fnScope st) s.heap.objs.size f (.ref c))) → sp vs H Q E →
      ∃ t, PSs (cxOf C8.CX0 P w K mg base N qual (C8.fnScope st) f (.ref c) A outer s H E).nox (C8.fnBody st) t ∧ t { nx := fun _ H' => Q .non H', rt := Q } (start N vs) H) : FnOk P w K mg base C8.CX0 (k + 1) f fd ps sp := by
  obtain ⟨oc, od, dV, kV, doc, pm, an, cdv, ct, osl, rfl, lk, hcd⟩ := F.ex
  have e : cdv = .ref c := hc
  subst e
  refine fn_of lk hcd S len fun A outer s H vs Q E hr hsp => ?_
  obtain ⟨t, h, q⟩ := hbody A outer s H vs Q E hr hsp
  exact ⟨t, h.nox, q⟩
variable {R : Type} [NumC R]
theorem g_eqNilL {H : Hp} {a e : Addr} {vs : List V} {xs : List R} {Q : VK} (h : H a = some (.lst vs)) (r : Reps H vs xs) (he : H e = some (.lst [])) (q : Q (.bl xs.isEmpty) H) : rEqD K (.ref a) (.ref e) H Q :=
  ⟨_, _, .lst (SqL.of h) r.dp, .lst (SqL.of he) .nil, (shaped_all xs).2, rfl, by
    cases xs with
    | nil => exact q
    | cons x xs => exact q⟩
def RtsIn (H : Hp) (rv : V) (n : Nat) : Option (List R) → Prop
  | none => rv = .non
  | some L => ∃ rl ws, rv = .ref rl ∧ H rl = some (.lst ws) ∧ Reps H ws L ∧ L.length ≤ n ∧ Bds 1 L
def dueF (LS : List R → Option (List R) → Option (List R)) (xs : List R) (m : Nat) (c : R) (o : Option (List R)) : Option (List (R × R)) :=
  if m = 0 then some ((0, 0) :: List.replicate (xs.length - 2) (1, 0)) else (LS (xs.take m) o).map (dueL xs.length c)
def spDue (R : Type) [NumC R] (LS : List R → Option (List R) → Option (List R)) (T : List (Addr × Str)) : Sp := fun vs H Q _ => ∃ (t : Addr) (rv : V) (us : List V) (xs : List R) (m : Nat) (c : R) (o : Option (List R)), vs = [.int (NumC.p R : Nat), .ref t, rv] ∧ LamX.Tabs T H ∧ H t = some (.lst us) ∧ Reps H us xs ∧ TrimAt xs m ∧
  (m ≠ 0 → xs[m - 1]? = some c ∧ c ≠ 0) ∧ 2 ≤ xs.length ∧ xs.length ≤ 12 ∧ Bds 100 xs ∧ (NumC.p R = 0 → RtsIn H rv (xs.length - 1) o) ∧ ∀ v' H', LamX.ExtN H H' → ApRep H' v' (dueF LS xs m c o) → Q v' H'
/-- couples of nothing -/
theorem g_sortlam {T : List (Addr × Str)} {te : TE} {σ : L2.St} {H : Hp} {Q : VK} (h : te σ H fun x H1 => SortQ T Q x H1) : tSortLam T te σ H Q := h
theorem smallq {x : Rat} (h : NumC.Bd 1 x) : SmallQ x := by
  have h1 := bq_size h
  exact ⟨Nat.lt_of_le_of_lt h1.1 (by decide), Nat.lt_of_le_of_lt h1.2.1 (by decide)⟩
def LSQ (_ : List Rat) (o : Option (List Rat)) : Option (List Rat) := o.map fun L => L.mergeSort fun a b => decide (keyQ a ≤ keyQ b)
def LSF {n : Nat} [NeZero n] (g : List (Fin n)) (_ : Option (List (Fin n))) : Option (List (Fin n)) := if (foundF (partF g (List.finRange n)).2).length = g.length - 1 then some (foundF (partF g (List.finRange n)).2) else none
def qLam : Str := Str.ofString "_law_due.<locals>." ++ Str.ofString "<lambda>"
theorem okQ_law_due {c P' : Addr} (hcode : fd.code = .ref c) (TB : LamX.TabB base mg c P') (B : Bn mg) (c__law_num : C8.Cal P w K mg base 1 "_law_num" (spNum Rat) []) (c__law_lead : C8.Cal P w K mg base 3 "_law_lead" (spLead Rat) []) (c__law_told : C8.Cal P w K mg base 5 "_law_told" (spTold Rat) []) (c__law_roots : C8.Cal P w K mg base 5 "_law_roots" (fun _ _ _ _ => False) [])
    (F : C8.Fun K "_law_due" "_law_due" s__law_due f fd) : FnOk P w K mg base C8.CX0 6 f fd ["_law_p", "_law_taps", "_law_roots_here"] (spDue Rat LSQ [(P', qLam)]) := by
  refine fn0C F hcode sc__law_due (fun vs H Q E h => ?_) (fun A outer s H vs Q E hr h => ?_)
  · obtain ⟨a, b, us, xs, m, c, o, rfl, _⟩ := h
    rfl
  · obtain ⟨t, rv, us, xs, m, c1, o, rfl, hT, ht, hu, htrim, hm, h2, h12, hB, hR, q⟩ := h
    refine ⟨_, (pss_cons (ps_par (i := 3) (j := 4) (by rfl) sc__law_due.nd rfl rfl (by decide) rfl rfl (pa_cons (C8.pe_c c__law_num hr (by decide) (by rfl) (pa_cons (pv 0) (pa_cons pe_int pa_nil))) (pa_cons (C8.pe_c c__law_num hr (by decide) (by rfl) (pa_cons (pv 0) (pa_cons pe_int pa_nil))) pa_nil)) (by rfl))
    (pss_cons (ps_set (i := 5) sc__law_due.nd rfl (by first | exact .inl rfl | exact .inr rfl) (C8.pe_c c__law_lead hr (by decide) (by rfl) (pa_cons (pv 0) (pa_cons (pv 1) pa_nil))))
    (pss_cons (ps_if (pt_cmpR (op_eqD hr.units) (pv 5) (pe_lst pa_nil) (nomark _))
    ((pss_one (ps_ret (pe_op op_catA (pe_tup (pa_cons (pe_tup (pa_cons (pv 4) (pa_cons (pv 4) pa_nil))) pa_nil)) (pe_op op_repA (pe_tup (pa_cons (pe_tup (pa_cons (pv 3) (pa_cons (pv 4) pa_nil))) pa_nil)) (pe_op op_sub (pe_callB call_len_ (by rfl) B.len_ (by decide +kernel) (pa_cons (pv 1) pa_nil)) pe_int)))))) pss_nil)
    (pss_cons (ps_if (pt_cmpR op_gt (pv 0) pe_int (nomark _))
    ((pss_cons (ps_set (i := 6) sc__law_due.nd rfl (by first | exact .inl rfl | exact .inr rfl) (C8.pe_c c__law_roots hr (by decide) (by rfl) (pa_cons (pv 0) (pa_cons (pv 5) pa_nil))))
    (pss_one ps_never))) pss_nil)
    (pss_one (ps_ret (pe_ifExp (pt_cmpR op_isN_ (pv 2) pe_non (nomark _)) pe_non (C8.pe_c c__law_told hr (by decide) (by rfl) (pa_cons (pv 0) (pa_cons (pv 1) (pa_cons (pe_sortlam (by rfl) B.sorted_ (pa_cons (pv 2) pa_nil) TB rfl (List.mem_singleton.mpr rfl) (fun p hp _ => by rw [List.mem_singleton.mp hp]) hr) pa_nil))))))))))), ?_⟩
    refine go_start (show _ = [some _, some _, some _, none, none, none, none] from rfl) ?_
    have hul := hu.len
    have hmle := htrim.1
    walk_at "go"
    refine ⟨1, rfl, fun v1 H1 e1 h1 => ?_⟩
    rw [NumC.of_1] at h1
    walk_at "go"
    refine ⟨0, rfl, fun v2 H2 e2 h2' => ?_⟩
    rw [NumC.of_0] at h2'
    walk_at "go"
    have e12 := e1.trans e2
    refine ⟨t, us, xs, m, rfl, e12 _ _ ht, hu.up e12, htrim, by omega, fun ld H3 e3 hldn hld => ?_⟩
    have e13 := e12.trans e3
    walk_at "go"
    refine ⟨(by show 0 ≤ sizeLine; decide), fun pe hpe => ?_⟩
    have e4 := same_new (o := HO.lst []) hpe
    have e14 := e13.trans e4
    have hld4 := e4 _ _ hld
    refine g_eqNilL hld4 ((hu.up e14).take m) upd_same ?_
    have h1' := (h1.up (e2.trans e3)).up e4
    have h2'' := (h2'.up e3).up e4
    have ht4 := e14 _ _ ht
    have hu4 := hu.up e14
    have hld4' := hld4
    generalize (upd H3 pe (.lst [])) = H4 at *
    by_cases hm0 : m = 0
    · have q' := fun v' H' e => q v' H' (LamX.ExtN.of e)
      have hapF : dueF LSQ xs m c1 o = some ((0, 0) :: List.replicate (xs.length - 2) (1, 0)) := if_pos hm0
      rw [hapF] at q'
      rw [show (xs.take m).isEmpty = true by rw [hm0]; rfl]
      walk_at "go"
      refine ⟨(by show 2 ≤ sizeLine; decide), fun p3 n3 => ?_⟩
      have f3 := same_new (o := HO.tup [v2, v2]) n3
      have hp3 : CpRep (upd H4 p3 (.tup [v2, v2])) (.ref p3) ((0 : Rat), (0 : Rat)) := ⟨p3, v2, v2, rfl, upd_same, h2''.up f3, h2''.up f3⟩
      generalize (upd H4 p3 (.tup [v2, v2])) = J3 at *
      walk_at "go"
      refine ⟨(by show 1 ≤ sizeLine; decide), fun p4 n4 => ?_⟩
      have f4 := same_new (o := HO.tup [V.ref p3]) n4
      have hp4 := hp3.im (Same.im f4)
      have hp4l : (upd J3 p4 (.tup [V.ref p3])) p4 = some (.tup [V.ref p3]) := upd_same
      have f34 := f3.trans f4
      generalize (upd J3 p4 (.tup [V.ref p3])) = J4 at *
      walk_at "go"
      refine ⟨(by show 2 ≤ sizeLine; decide), fun p5 n5 => ?_⟩
      have f5 := same_new (o := HO.tup [v1, v2]) n5
      have hp5 : CpRep (upd J4 p5 (.tup [v1, v2])) (.ref p5) ((1 : Rat), (0 : Rat)) := ⟨p5, v1, v2, rfl, upd_same, (h1'.up f34).up f5, (h2''.up f34).up f5⟩
      generalize (upd J4 p5 (.tup [v1, v2])) = J5 at *
      walk_at "go"
      refine ⟨(by show 1 ≤ sizeLine; decide), fun p6 n6 => ?_⟩
      have f6 := same_new (o := HO.tup [V.ref p5]) n6
      have hp6 := hp5.im (Same.im f6)
      have hp6l : (upd J5 p6 (.tup [V.ref p5])) p6 = some (.tup [V.ref p5]) := upd_same
      have f46 := f5.trans f6
      generalize (upd J5 p6 (.tup [V.ref p5])) = J6 at *
      have f06 := e14.trans (f34.trans f46)
      walk_at "go"
      refine g_lenL ((f34.trans f46) _ _ ht4) ?_
      walk_at "go"
      have hp4l6 := f46 _ _ hp4l
      have hp46 := hp4.im (Same.im f46)
      have fin : ∀ b H7 ws, Same J6 H7 → H7 b = some (.tup ws) → CpReps H7 ws (List.replicate (xs.length - 2) ((1 : Rat), (0 : Rat))) → rCatA K (.ref p4) (.ref b) H7 Q := by
        intro b H7 ws e7 hb7 hws
        have hwl := paired_len hws
        rw [List.length_replicate] at hwl
        have e17 := f06.trans e7
        refine ⟨p4, b, _, ws, rfl, rfl, SqT.of (e7 _ _ hp4l6), SqT.of hb7, small5 (by show 1 + ws.length ≤ _; omega), fun z => (by cases z), fun _ z => ?_, fun _ _ p8 n8 => ?_⟩
        · subst z
          refine q' _ _ (fun b o h => e17 b o h) ⟨p4, _, rfl, e7 _ _ hp4l6, .cons (hp46.im (Same.im e7)) ?_⟩
          exact hws
        · have e8 := same_new (o := HO.tup ([V.ref p3] ++ ws)) n8
          exact q' _ _ (fun b o h => (e17.trans e8) b o h) ⟨p8, _, rfl, upd_same, .cons ((hp46.im (Same.im e7)).im (Same.im e8)) (hws.up e8)⟩
      refine ⟨p6, (us.length : Int) - 2, [V.ref p5], rfl, rfl, SqT.of hp6l, by simp, by omega, by omega, by show 1 ≤ 1000; decide, fun z => ?_, fun z p7 n7 => ?_⟩
      · refine fin p6 J6 [V.ref p5] (Same.refl _) hp6l ?_
        rw [show xs.length - 2 = 1 by omega]
        exact .cons hp6 .nil
      · have e7 := same_new (o := HO.tup (List.replicate ((us.length : Int) - 2).toNat [V.ref p5]).flatten) n7
        refine fin p7 _ _ e7 upd_same ?_
        rw [flat_rep, show ((us.length : Int) - 2).toNat = xs.length - 2 by omega]
        exact paired_rep (CpRep.im hp6 (Same.im (same_new n7))) _
    obtain ⟨hc1, hcn⟩ := hm hm0
    have hapF : dueF LSQ xs m c1 o = (LSQ (xs.take m) o).map (dueL xs.length c1) := if_neg hm0
    rw [hapF] at q
    have htl : (xs.take m).length = m := by rw [List.length_take]; omega
    rw [show (xs.take m).isEmpty = false by
      cases hx : xs.take m with
      | nil => rw [hx] at htl; simp at htl; omega
      | cons a l => rfl]
    walk_at "go"
    rw [show decide (((NumC.p Rat : Nat) : Int) > 0) = false from rfl]
    walk_at "go"
    cases o with
    | none =>
      have hrv : rv = .non := hR rfl
      subst hrv
      walk_at "go"
      exact q _ _ (LamX.ExtN.of (fun b o h => e14 b o h)) rfl
    | some L =>
      obtain ⟨rl, ws, rfl, hrl, hL, hLl, hBL⟩ := hR rfl
      have hrl4 := e14 _ _ hrl
      have hL4 := hL.up e14
      walk_at "go"
      refine g_sortlam ?_
      walk_at "go"
      refine ⟨hT.ext (fun b o h => e14 b o h), rl, ws, L, rfl, hrl4, hL4, (fun x hx => smallq (hBL x hx)), by omega, fun H5 eN T5 ws' p5 hL5 hp5 => ?_⟩
      have hperm := List.mergeSort_perm L (fun a b => decide (keyQ a ≤ keyQ b))
      have e6 := same_new (o := HO.lst ws') hp5
      have ht6 := e6 _ _ (eN _ _ ht4 (fun ps z => by cases z))
      have hu6 := (reps_extN hu4 eN).up e6
      walk_at "go"
      refine ⟨t, p5, us, ws', xs, _, m, c1, rfl, ht6, hu6, htrim, hm0, hc1, h2, h12, hB, upd_same, hL5.up e6, by rw [hperm.length_eq]; exact hLl, (fun x hx => hBL x (hperm.mem_iff.mp hx)), fun v' H7 e7 hap => ?_⟩
      exact q v' H7 (((LamX.ExtN.of (fun b o h => e14 b o h)).trans eN).trans (LamX.ExtN.of (fun b o h => (e6.trans e7) b o h))) hap
section
variable {n : Nat} [NeZero n]
theorem okF_law_due (hn : n ≤ 13) {T : List (Addr × Str)} (B : Bn mg) (c__law_num : C8.Cal P w K mg base 1 "_law_num" (spNum (Fin n)) []) (c__law_lead : C8.Cal P w K mg base 3 "_law_lead" (spLead (Fin n)) []) (c__law_told : C8.Cal P w K mg base 5 "_law_told" (spTold (Fin n)) [])
    (c__law_roots : C8.Cal P w K mg base 5 "_law_roots" (spLRoots n) []) (F : C8.Fun K "_law_due" "_law_due" s__law_due f fd) : FnOk P w K mg base C8.CX0 6 f fd ["_law_p", "_law_taps", "_law_roots_here"] (spDue (Fin n) LSF T) := by
  refine C8.fn0 F sc__law_due (fun vs H Q E h => ?_) (fun cdv A outer s H vs Q E hr h => ?_)
  · obtain ⟨a, b, us, xs, m, c, o, rfl, _⟩ := h
    rfl
  · obtain ⟨t, rv, us, xs, m, c1, o, rfl, hT, ht, hu, htrim, hm, h2, h12, hB, hR, q⟩ := h
    refine ⟨_, (pss_cons (ps_par (i := 3) (j := 4) (by rfl) sc__law_due.nd rfl rfl (by decide) rfl rfl (pa_cons (C8.pe_c c__law_num hr (by decide) (by rfl) (pa_cons (pv 0) (pa_cons pe_int pa_nil))) (pa_cons (C8.pe_c c__law_num hr (by decide) (by rfl) (pa_cons (pv 0) (pa_cons pe_int pa_nil))) pa_nil)) (by rfl))
    (pss_cons (ps_set (i := 5) sc__law_due.nd rfl (by first | exact .inl rfl | exact .inr rfl) (C8.pe_c c__law_lead hr (by decide) (by rfl) (pa_cons (pv 0) (pa_cons (pv 1) pa_nil))))
    (pss_cons (ps_if (pt_cmpR (op_eqD hr.units) (pv 5) (pe_lst pa_nil) (nomark _))
    ((pss_one (ps_ret (pe_op op_catA (pe_tup (pa_cons (pe_tup (pa_cons (pv 4) (pa_cons (pv 4) pa_nil))) pa_nil)) (pe_op op_repA (pe_tup (pa_cons (pe_tup (pa_cons (pv 3) (pa_cons (pv 4) pa_nil))) pa_nil)) (pe_op op_sub (pe_callB call_len_ (by rfl) B.len_ (by decide +kernel) (pa_cons (pv 1) pa_nil)) pe_int)))))) pss_nil)
    (pss_cons (ps_if (pt_cmpR op_gt (pv 0) pe_int (nomark _))
    ((pss_cons (ps_set (i := 6) sc__law_due.nd rfl (by first | exact .inl rfl | exact .inr rfl) (C8.pe_c c__law_roots hr (by decide) (by rfl) (pa_cons (pv 0) (pa_cons (pv 5) pa_nil))))
    (pss_one (ps_ret (pe_ifExp (pt_cmpR op_eq (pe_callB call_len_ (by rfl) B.len_ (by decide +kernel) (pa_cons (pv 6) pa_nil)) (pe_op op_sub (pe_callB call_len_ (by rfl) B.len_ (by decide +kernel) (pa_cons (pv 5) pa_nil)) pe_int) (nomark _)) (C8.pe_c c__law_told hr (by decide) (by rfl) (pa_cons (pv 0) (pa_cons (pv 1) (pa_cons (pv 6) pa_nil)))) pe_non))))) pss_nil)
    (pss_one ps_never))))), ?_⟩
    refine go_start (show _ = [some _, some _, some _, none, none, none, none] from rfl) ?_
    have hul := hu.len
    have hmle := htrim.1
    walk_at "go"
    refine ⟨1, rfl, fun v1 H1 e1 h1 => ?_⟩
    rw [NumC.of_1] at h1
    walk_at "go"
    refine ⟨0, rfl, fun v2 H2 e2 h2' => ?_⟩
    rw [NumC.of_0] at h2'
    walk_at "go"
    have e12 := e1.trans e2
    refine ⟨t, us, xs, m, rfl, e12 _ _ ht, hu.up e12, htrim, by omega, fun ld H3 e3 hldn hld => ?_⟩
    have e13 := e12.trans e3
    walk_at "go"
    refine ⟨(by show 0 ≤ sizeLine; decide), fun pe hpe => ?_⟩
    have e4 := same_new (o := HO.lst []) hpe
    have e14 := e13.trans e4
    have hld4 := e4 _ _ hld
    refine g_eqNilL hld4 ((hu.up e14).take m) upd_same ?_
    have h1' := (h1.up (e2.trans e3)).up e4
    have h2'' := (h2'.up e3).up e4
    have ht4 := e14 _ _ ht
    have hu4 := hu.up e14
    have hld4' := hld4
    generalize (upd H3 pe (.lst [])) = H4 at *
    by_cases hm0 : m = 0
    · have q' := fun v' H' e => q v' H' (LamX.ExtN.of e)
      have hapF : dueF LSF xs m c1 o = some ((0, 0) :: List.replicate (xs.length - 2) (1, 0)) := if_pos hm0
      rw [hapF] at q'
      rw [show (xs.take m).isEmpty = true by rw [hm0]; rfl]
      walk_at "go"
      refine ⟨(by show 2 ≤ sizeLine; decide), fun p3 n3 => ?_⟩
      have f3 := same_new (o := HO.tup [v2, v2]) n3
      have hp3 : CpRep (upd H4 p3 (.tup [v2, v2])) (.ref p3) ((0 : Fin n), (0 : Fin n)) := ⟨p3, v2, v2, rfl, upd_same, h2''.up f3, h2''.up f3⟩
      generalize (upd H4 p3 (.tup [v2, v2])) = J3 at *
      walk_at "go"
      refine ⟨(by show 1 ≤ sizeLine; decide), fun p4 n4 => ?_⟩
      have f4 := same_new (o := HO.tup [V.ref p3]) n4
      have hp4 := hp3.im (Same.im f4)
      have hp4l : (upd J3 p4 (.tup [V.ref p3])) p4 = some (.tup [V.ref p3]) := upd_same
      have f34 := f3.trans f4
      generalize (upd J3 p4 (.tup [V.ref p3])) = J4 at *
      walk_at "go"
      refine ⟨(by show 2 ≤ sizeLine; decide), fun p5 n5 => ?_⟩
      have f5 := same_new (o := HO.tup [v1, v2]) n5
      have hp5 : CpRep (upd J4 p5 (.tup [v1, v2])) (.ref p5) ((1 : Fin n), (0 : Fin n)) := ⟨p5, v1, v2, rfl, upd_same, (h1'.up f34).up f5, (h2''.up f34).up f5⟩
      generalize (upd J4 p5 (.tup [v1, v2])) = J5 at *
      walk_at "go"
      refine ⟨(by show 1 ≤ sizeLine; decide), fun p6 n6 => ?_⟩
      have f6 := same_new (o := HO.tup [V.ref p5]) n6
      have hp6 := hp5.im (Same.im f6)
      have hp6l : (upd J5 p6 (.tup [V.ref p5])) p6 = some (.tup [V.ref p5]) := upd_same
      have f46 := f5.trans f6
      generalize (upd J5 p6 (.tup [V.ref p5])) = J6 at *
      have f06 := e14.trans (f34.trans f46)
      walk_at "go"
      refine g_lenL ((f34.trans f46) _ _ ht4) ?_
      walk_at "go"
      have hp4l6 := f46 _ _ hp4l
      have hp46 := hp4.im (Same.im f46)
      have fin : ∀ b H7 ws, Same J6 H7 → H7 b = some (.tup ws) → CpReps H7 ws (List.replicate (xs.length - 2) ((1 : Fin n), (0 : Fin n))) → rCatA K (.ref p4) (.ref b) H7 Q := by
        intro b H7 ws e7 hb7 hws
        have hwl := paired_len hws
        rw [List.length_replicate] at hwl
        have e17 := f06.trans e7
        refine ⟨p4, b, _, ws, rfl, rfl, SqT.of (e7 _ _ hp4l6), SqT.of hb7, small5 (by show 1 + ws.length ≤ _; omega), fun z => (by cases z), fun _ z => ?_, fun _ _ p8 n8 => ?_⟩
        · subst z
          refine q' _ _ (fun b o h => e17 b o h) ⟨p4, _, rfl, e7 _ _ hp4l6, .cons (hp46.im (Same.im e7)) ?_⟩
          exact hws
        · have e8 := same_new (o := HO.tup ([V.ref p3] ++ ws)) n8
          exact q' _ _ (fun b o h => (e17.trans e8) b o h) ⟨p8, _, rfl, upd_same, .cons ((hp46.im (Same.im e7)).im (Same.im e8)) (hws.up e8)⟩
      refine ⟨p6, (us.length : Int) - 2, [V.ref p5], rfl, rfl, SqT.of hp6l, by simp, by omega, by omega, by show 1 ≤ 1000; decide, fun z => ?_, fun z p7 n7 => ?_⟩
      · refine fin p6 J6 [V.ref p5] (Same.refl _) hp6l ?_
        rw [show xs.length - 2 = 1 by omega]
        exact .cons hp6 .nil
      · have e7 := same_new (o := HO.tup (List.replicate ((us.length : Int) - 2).toNat [V.ref p5]).flatten) n7
        refine fin p7 _ _ e7 upd_same ?_
        rw [flat_rep, show ((us.length : Int) - 2).toNat = xs.length - 2 by omega]
        exact paired_rep (CpRep.im hp6 (Same.im (same_new n7))) _
    obtain ⟨hc1, hcn⟩ := hm hm0
    have hapF : dueF LSF xs m c1 o = (LSF (xs.take m) o).map (dueL xs.length c1) := if_neg hm0
    rw [hapF] at q
    have htl : (xs.take m).length = m := by rw [List.length_take]; omega
    rw [show (xs.take m).isEmpty = false by
      cases hx : xs.take m with
      | nil => rw [hx] at htl; simp at htl; omega
      | cons a l => rfl]
    walk_at "go"
    rw [pFpos]
    walk_at "go"
    have hled : Led (xs.take m) := ⟨c1, by rw [List.getLast?_eq_getElem?, htl, List.getElem?_take, if_pos (by omega)]; exact hc1, hcn⟩
    refine ⟨ld, us.take m, xs.take m, rfl, hld4', (hu4.take m), hled, by omega, fun fl ws H5 e5 hfn hfl hfr => ?_⟩
    have hfl' := hfr.len
    have hmul : (us.take m).length = m := by rw [List.length_take]; omega
    obtain ⟨hsum, hled2⟩ := partF_len (List.finRange n) (xs.take m) 0 hled (by omega) (fun _ _ => trivial) (fun _ _ => trivial)
    have hff : (foundF (partF (xs.take m) (List.finRange n)).2).length = ((partF (xs.take m) (List.finRange n)).2.map (·.2)).sum := by
      unfold foundF
      rw [List.length_flatMap]
      congr 1
      exact List.map_congr_left fun a _ => by simp
    have hLSF : LSF (xs.take m) o = if (foundF (partF (xs.take m) (List.finRange n)).2).length = (xs.take m).length - 1 then some (foundF (partF (xs.take m) (List.finRange n)).2) else none := rfl
    rw [hLSF] at q
    generalize foundF (partF (xs.take m) (List.finRange n)).2 = fnd at *
    walk_at "go"
    refine g_lenL (e5 _ _ hld4') ?_
    walk_at "go"
    walk_at "if"
    · intro hz
      rw [if_pos (by omega)] at q
      walk_at "go"
      refine ⟨t, fl, us, ws, xs, fnd, m, c1, rfl, e5 _ _ ht4, hu4.up e5, htrim, hm0, hc1, h2, h12, hB, hfl, hfr, by omega, (fun _ _ => trivial), fun v' H7 e7 hap => ?_⟩
      exact q v' H7 (LamX.ExtN.of (fun b o h => (e14.trans (e5.trans e7)) b o h)) hap
    · intro hz
      rw [if_neg (by omega)] at q
      walk_at "go"
      exact q _ _ (LamX.ExtN.of (fun b o h => (e14.trans e5) b o h)) rfl
end
end
end Kw
set_option maxHeartbeats 4000000
namespace Kw
open PySem PySem.Spec PyProof.Rows L2 RT
local macro_rules | `(tactic| walk_at "step") => `(tactic| with_reducible first
  | refine g_op ?_ | refine g_c ?_ | refine g_test ?_ | refine g_bl ?_ | refine g_seq ?_ | refine g_ifS ?_ | refine g_cons ?_ | refine g_nil ?_ | refine g_I0 ?_ | refine g_asg ?_ | refine g_name ?_
  | refine g_ret ?_ | refine g_nx ?_ | refine g_cb ?_ | refine g_call ?_ | refine g_un ?_ | refine g_rU ?_ | refine g_B ?_ | refine g_and ?_ | refine g_or ?_ | refine g_not ?_ | refine g_andV ?_ | refine g_orV ?_
  | refine g_notV ?_ | refine g_ifE ?_ | refine g_drop ?_ | refine g_par ?_ | refine g_two ?_ | refine g_abs ?_ | refine g_mx ?_ | refine g_int ?_ | refine g_tup ?_ | refine g_lst ?_ | refine g_chain ?_
  | refine g_sl ?_ | refine g_nopart ?_ | refine g_part ?_ | refine g_partI ?_ | refine g_bm ?_ | refine g_sub ?_ | refine g_ip ?_ | refine g_make ?_ | refine g_forR1 ?_ | refine g_forR2 ?_ | refine g_forR3 ?_ | refine g_forL ?_ | refine g_forT ?_ | refine g_forV ?_ | refine g_forVR ?_ | refine g_forE ?_ | refine g_lcL ?_ | refine g_lcT ?_ | refine g_lcR1 ?_ | refine g_lcR2 ?_ | refine g_fld ?_ | refine g_meth ?_ | refine ite_t ?_ | refine ite_nt ?_ | refine ite_nf ?_ | refine g_eqi ?_ | refine g_nei ?_ | refine ite_f ?_ | refine g_isN_n ?_ | refine g_isN_i ?_ | refine g_isN_r ?_ | refine g_notN_n ?_ | refine g_notN_i ?_ | refine g_notN_r ?_ | refine g_isi_ib ?_ | refine g_isi_ii ?_ | refine g_isi_it ?_ | refine g_isi_nt ?_)
local macro_rules | `(tactic| walk_at "var") => `(tactic| ((with_reducible refine' g_var ?hvar ?_); (case hvar => rfl)))
local macro_rules | `(tactic| walk_at "fact") => `(tactic| first
  | ((with_reducible refine' g_ixT ?hfact ?hat ?_); (case hfact => assumption); (case hat => rfl))
  | ((with_reducible refine' g_ixL ?hfact ?hat ?_); (case hfact => assumption); (case hat => rfl)))
local macro_rules | `(tactic| walk_at "fact1") => `(tactic| first
  | ((with_reducible refine' g_lenT ?hfact ?_); (case hfact => assumption))
  | ((with_reducible refine' g_lenL ?hfact ?_); (case hfact => assumption))
  | ((with_reducible refine' g_isi_tt ?hfact ?_); (case hfact => assumption)))
local macro_rules | `(tactic| walk_at "go") => `(tactic| repeat (first | walk_at "step" | walk_at "var" | walk_at "fact" | walk_at "fact1"))
local macro_rules | `(tactic| walk_at "if") => `(tactic| with_reducible first | refine ite_d ?_ ?_ | refine ite_n ?_ ?_ | refine ite_b ?_ ?_)
local macro_rules | `(tactic| walk_at "prime") => `(tactic| refine fig_prime (by assumption) (by assumption) ?_)
local macro_rules | `(tactic| walk_at "zero") => `(tactic| refine fig_zero (by assumption) (by assumption) ?_)
local macro_rules | `(tactic| walk_at "one") => `(tactic| refine fig_one (by assumption) (by assumption) ?_)
local macro_rules | `(tactic| walk_at "meth") => `(tactic| refine fig_meth (by assumption) (by decide +kernel) ?_)
abbrev s_law : Stmt := topS 75
theorem sc_law : FnScope ["_law_script", "_law_hand_here", "_law_p", "_law_figures_here", "_law_taps", "_law_roots_here", "_law_due_here", "_law_told_here", "_law_whole", "_law_couple", "_law_place", "_law_bad", "_law_odd"] ["_law_script"] (C8.fnScope s_law) := C8.fnScope_by (by decide +kernel)
/-! ### the kinds of numbers -/
inductive Ix where
  | q
  | f (n : Nat) (h : n ∈ [2, 3, 5, 7, 11, 13])
theorem ix_pos {n : Nat} (h : n ∈ [2, 3, 5, 7, 11, 13]) : NeZero n := ⟨fun z => by subst z; simp at h⟩
@[reducible] def Ix.R : Ix → Type
  | .q => Rat
  | .f n _ => Fin n
instance ixNum : (i : Ix) → NumC i.R
  | .q => ratNum
  | .f n h => @finNum n (ix_pos h)
/-- one of the promises, by the kind -/
def U (sp : Ix → Sp) : Sp := fun vs H Q E => ∃ i, sp i vs H Q E
theorem fnU {P : Program} {w : World} {K : PySem.W.Frag} {mg : Str → Option Value} {base : Heap} {CX : CXT} {k : Nat} {f : Addr} {fd : FuncData} {ps : List Str} {sp : Ix → Sp} (h : ∀ i, FnOk P w K mg base CX k f fd ps (sp i)) : FnOk P w K mg base CX k f fd ps (U sp) where
  len := fun vs H Q E ⟨i, x⟩ => (h i).len vs H Q E x
  run := by
    intros
    rename_i hh
    obtain ⟨i, x⟩ := hh
    exact (h i).run _ _ _ _ _ _ _ _ _ (by assumption) (by assumption) (by assumption) (by assumption) x
theorem known_ix {p : Int} (h : p ∈ knownP) : ∃ i : Ix, ((NumC.p i.R : Nat) : Int) = p := by
  simp only [knownP, List.mem_cons, List.not_mem_nil, or_false] at h
  rcases h with rfl | rfl | rfl | rfl | rfl | rfl | rfl
  · exact ⟨.q, rfl⟩
  · exact ⟨.f 2 (by decide), rfl⟩
  · exact ⟨.f 3 (by decide), rfl⟩
  · exact ⟨.f 5 (by decide), rfl⟩
  · exact ⟨.f 7 (by decide), rfl⟩
  · exact ⟨.f 11 (by decide), rfl⟩
  · exact ⟨.f 13 (by decide), rfl⟩
def Pr : (i : Ix) → List i.R → Prop
  | .q => Bds 100
  | .f _ _ => fun _ => True
def Gd : (i : Ix) → List i.R → List i.R → Prop
  | .q => GoodR
  | .f n h => @GoodF n (ix_pos h)
def LSi : (i : Ix) → List i.R → Option (List i.R) → Option (List i.R)
  | .q => LSQ
  | .f n h => @LSF n (ix_pos h)
/-- the plain law -/
def PL (i : Ix) : Prop := ∀ (xs : List i.R) (o : Option (List i.R)), DrK xs o → ∃ (m : Nat) (c : i.R), TrimAt xs m ∧ (m ≠ 0 → xs[m - 1]? = some c ∧ c ≠ 0 ∧ (∀ r, ev (xs.take m) r = 0 → NumC.Bd 1 r) ∧ Pr i (xs.take m)) ∧
  (∀ rs, (m ≠ 0 → Gd i (xs.take m) rs) → apF xs m c rs = dueF (LSi i) xs m c o) ∧
  (∀ cs, dueF (LSi i) xs m c o = some cs → cs.foldl (fun f x => conv f [x.1, x.2]) [1] = xs ∧ cs.length = xs.length - 1 ∧ ∃ x0 ct, cs = x0 :: ct ∧ NumC.Bd 101 x0.1 ∧ NumC.Bd 101 x0.2 ∧ ∀ x ∈ ct, NumC.Bd 1 x.1 ∧ NumC.Bd 1 x.2) ∧
  (NumC.p i.R = 0 → ∀ L, o = some L → L.length ≤ xs.length - 1 ∧ Bds 1 L)
section
variable {P : Program} {w : World} {K : PySem.W.Frag} {mg : Str → Option Value} {base : Heap} {f : Addr} {fd : FuncData}
/-! ### all but the tables stay -/
theorem ext_tup {H H' : Hp} (e : LamX.ExtN H H') {a : Addr} {xs : List V} (h : H a = some (.tup xs)) : H' a = some (.tup xs) := e _ _ h fun _ z => by cases z
theorem ext_lst {H H' : Hp} (e : LamX.ExtN H H') {a : Addr} {xs : List V} (h : H a = some (.lst xs)) : H' a = some (.lst xs) := e _ _ h fun _ z => by cases z
theorem ext_ins {H H' : Hp} (e : LamX.ExtN H H') {a C dx : Addr} {fs : List (Str × V)} (h : H a = some (.ins C dx fs)) : H' a = some (.ins C dx fs) := e _ _ h fun _ z => by cases z
theorem rep_ext {R : Type} [NumC R] {H H' : Hp} {v : V} {x : R} (h : Rep H v x) (e : LamX.ExtN H H') : Rep H' v x := by
  unfold Rep at h ⊢
  generalize NumC.code x = c at h ⊢
  obtain ⟨t, b⟩ := c
  cases b with
  | none => exact h
  | some b =>
    obtain ⟨a, h1, h2⟩ := h
    exact ⟨a, h1, ext_tup e h2⟩
theorem reps_ext {R : Type} [NumC R] {H H' : Hp} {vs : List V} {xs : List R} (h : Reps H vs xs) (e : LamX.ExtN H H') : Reps H' vs xs := Paired.mapP h fun _ _ r => rep_ext r e
theorem fig_ext {R : Type} [NumC R] {C : Addr} {H H' : Hp} {fa : Addr} (h : FigAt R C H fa) (e : LamX.ExtN H H') : FigAt R C H' fa := let ⟨dx, z, o, h1, h2, h3⟩ := h; ⟨dx, z, o, ext_ins e h1, rep_ext h2 e, rep_ext h3 e⟩
theorem hand_ext {H H' : Hp} {h cl : Addr} (x : HandAt H h cl) (e : LamX.ExtN H H') : HandAt H' h cl := let ⟨cs, pos, big, tot, h1, h2, r⟩ := x; ⟨cs, pos, big, tot, ext_lst e h1, ext_lst e h2, r⟩
theorem tabs_im {T : List (Addr × Str)} {H H' : Hp} (t : LamX.Tabs T H) (e : Im H H') : LamX.Tabs T H' := fun p hp => by
  obtain ⟨ps, h1, h2, h3⟩ := t p hp
  refine ⟨ps, e _ _ h1 (fun _ z => by cases z), h2, fun pos cv hc => ?_⟩
  obtain ⟨c, e1, e2⟩ := h3 pos cv hc
  exact ⟨c, e1, e _ _ e2 (fun _ z => by unfold LamX.CodeO at z; cases z)⟩
theorem ap_im {R : Type} [NumC R] {H H' : Hp} {v : V} {o : Option (List (R × R))} (h : ApRep H v o) (e : Im H H') : ApRep H' v o := by
  cases o with
  | none => exact h
  | some cs =>
    obtain ⟨a, ws, h1, h2, h3⟩ := h
    exact ⟨a, ws, h1, im_tup e h2, h3.im e⟩
/-- equal data are exact -/
theorem rep_ex {R : Type} [NumC R] {H : Hp} {u v : V} {x : R} (hu : Rep H u x) (hv : Rep H v x) : Ex 2 H u v := by
  unfold Rep at hu hv
  generalize NumC.code x = c at hu hv
  obtain ⟨t, b⟩ := c
  cases b with
  | none =>
    have e1 : u = .int t := hu
    have e2 : v = .int t := hv
    exact .inl ⟨t, e1, e2⟩
  | some b =>
    obtain ⟨a, h1, h2⟩ := hu
    obtain ⟨a', h1', h2'⟩ := hv
    refine .inr (.inr ⟨a, a', _, _, h1, h1', h2, h2', rfl, by show 2 ≤ 1000; decide, fun i x y hx hy => ?_⟩)
    match i with
    | 0 =>
      cases hx
      cases hy
      exact .inl ⟨_, rfl, rfl⟩
    | 1 =>
      cases hx
      cases hy
      exact .inl ⟨_, rfl, rfl⟩
    | i + 2 => simp at hx
theorem cp_ex {R : Type} [NumC R] {H : Hp} {u v : V} {x : R × R} (hu : CpRep H u x) (hv : CpRep H v x) : Ex 3 H u v := by
  obtain ⟨a, u1, u2, h1, h2, h3, h4⟩ := hu
  obtain ⟨a', v1, v2, h1', h2', h3', h4'⟩ := hv
  refine .inr (.inr ⟨a, a', _, _, h1, h1', h2, h2', rfl, by show 2 ≤ 1000; decide, fun i x y hx hy => ?_⟩)
  match i with
  | 0 =>
    cases hx
    cases hy
    exact rep_ex h3 h3'
  | 1 =>
    cases hx
    cases hy
    exact rep_ex h4 h4'
  | i + 2 => simp at hx
theorem ap_ex {R : Type} [NumC R] {H : Hp} {u v : V} {o : Option (List (R × R))} (hu : ApRep H u o) (hv : ApRep H v o) (hl : ∀ cs, o = some cs → cs.length ≤ 1000) : Ex 4 H u v := by
  cases o with
  | none => exact .inr (.inl ⟨hu, hv⟩)
  | some cs =>
    obtain ⟨a, us, h1, h2, h3⟩ := hu
    obtain ⟨a', vs, h1', h2', h3'⟩ := hv
    have l1 := paired_len h3
    have l2 := paired_len h3'
    refine .inr (.inr ⟨a, a', us, vs, h1, h1', h2, h2', by omega, by rw [l1]; exact hl cs rfl, fun i x y hx hy => ?_⟩)
    obtain ⟨c, hc, r⟩ := paired_get h3 hx
    obtain ⟨c', hc', r'⟩ := paired_get h3' hy
    rw [hc] at hc'
    cases Option.some.inj hc'
    exact cp_ex r r'
/-- rows that are equal -/
theorem g_neRows {R : Type} [NumC R] {H : Hp} {a b : Addr} {us vs : List V} {xs : List R} {Q : VK} (ha : H a = some (.lst us)) (hu : Reps H us xs) (hb : H b = some (.lst vs)) (hv : Reps H vs xs) (q : Q (.bl false) H) : rNeD K (.ref a) (.ref b) H Q := by
  refine ⟨_, _, .lst (SqL.of ha) hu.dp, .lst (SqL.of hb) hv.dp, (shaped_all xs).2, (shaped_all xs).2, ?_⟩
  rw [PySem.SeqAt.eqv_refl _ (okd_lst (n := 1) fun d hd => by
    obtain ⟨x, _, rfl⟩ := List.mem_map.mp hd
    exact okdC _).1]
  exact q
theorem word_shaped (k : Nat) : SeqAt.shaped (.tuple [.str "taps", .int (k : Nat)]) = true := by
  have h1 : PyData.canLay0 (.str "taps") = true := by decide +kernel
  show ((PyData.canLay0 (.str "taps") && true) && _) = true
  rw [h1]
  rfl
theorem dp_word {H : Hp} {a : Addr} {k : Nat} (h : H a = some (.tup [.str "taps", .int (k : Nat)])) : Dp K H (.ref a) (.tuple [.str "taps", .int (k : Nat)]) := .tup (SqT.of h) (.cons (.str _) (.cons (.int _) .nil))
theorem g_neWord {H : Hp} {a b : Addr} {k : Nat} {Q : VK} (ha : H a = some (.tup [.str "taps", .int (k : Nat)])) (hb : H b = some (.tup [.str "taps", .int (k : Nat)])) (q : Q (.bl false) H) : rNeD K (.ref a) (.ref b) H Q := by
  refine ⟨_, _, dp_word ha, dp_word hb, word_shaped k, word_shaped k, ?_⟩
  rw [PySem.SeqAt.eqv_refl _ (SeqAt.canLay_of_shaped (word_shaped k))]
  exact q
theorem g_eqWord {H : Hp} {a b : Addr} {k : Nat} {Q : VK} (ha : H a = some (.tup [.str "taps", .int (k : Nat)])) (hb : H b = some (.tup [.str "taps", .int (k : Nat)])) (q : Q (.bl true) H) : rEqD K (.ref a) (.ref b) H Q := by
  refine ⟨_, _, dp_word ha, dp_word hb, word_shaped k, word_shaped k, ?_⟩
  rw [PySem.SeqAt.eqv_refl _ (SeqAt.canLay_of_shaped (word_shaped k))]
  exact q
end
end Kw
set_option maxHeartbeats 8000000
namespace Kw
open PySem PySem.Spec PyProof.Rows L2 RT
local macro_rules | `(tactic| walk_at "step") => `(tactic| with_reducible first
  | refine g_op ?_ | refine g_c ?_ | refine g_test ?_ | refine g_bl ?_ | refine g_seq ?_ | refine g_ifS ?_ | refine g_cons ?_ | refine g_nil ?_ | refine g_I0 ?_ | refine g_asg ?_ | refine g_name ?_
  | refine g_ret ?_ | refine g_nx ?_ | refine g_cb ?_ | refine g_call ?_ | refine g_un ?_ | refine g_rU ?_ | refine g_B ?_ | refine g_and ?_ | refine g_or ?_ | refine g_not ?_ | refine g_andV ?_ | refine g_orV ?_
  | refine g_notV ?_ | refine g_ifE ?_ | refine g_drop ?_ | refine g_par ?_ | refine g_two ?_ | refine g_abs ?_ | refine g_mx ?_ | refine g_int ?_ | refine g_tup ?_ | refine g_lst ?_ | refine g_chain ?_
  | refine g_sl ?_ | refine g_nopart ?_ | refine g_part ?_ | refine g_partI ?_ | refine g_bm ?_ | refine g_sub ?_ | refine g_ip ?_ | refine g_make ?_ | refine g_forR1 ?_ | refine g_forR2 ?_ | refine g_forR3 ?_ | refine g_forL ?_ | refine g_forT ?_ | refine g_forV ?_ | refine g_forVR ?_ | refine g_forE ?_ | refine g_lcL ?_ | refine g_lcT ?_ | refine g_lcR1 ?_ | refine g_lcR2 ?_ | refine g_fld ?_ | refine g_meth ?_ | refine ite_t ?_ | refine ite_nt ?_ | refine ite_nf ?_ | refine g_eqi ?_ | refine g_nei ?_ | refine ite_f ?_ | refine g_isN_n ?_ | refine g_isN_i ?_ | refine g_isN_r ?_ | refine g_notN_n ?_ | refine g_notN_i ?_ | refine g_notN_r ?_ | refine g_isi_ib ?_ | refine g_isi_ii ?_ | refine g_isi_it ?_ | refine g_isi_nt ?_)
local macro_rules | `(tactic| walk_at "var") => `(tactic| ((with_reducible refine' g_var ?hvar ?_); (case hvar => rfl)))
local macro_rules | `(tactic| walk_at "fact") => `(tactic| first
  | ((with_reducible refine' g_ixT ?hfact ?hat ?_); (case hfact => assumption); (case hat => rfl))
  | ((with_reducible refine' g_ixL ?hfact ?hat ?_); (case hfact => assumption); (case hat => rfl)))
local macro_rules | `(tactic| walk_at "fact1") => `(tactic| first
  | ((with_reducible refine' g_lenT ?hfact ?_); (case hfact => assumption))
  | ((with_reducible refine' g_lenL ?hfact ?_); (case hfact => assumption))
  | ((with_reducible refine' g_isi_tt ?hfact ?_); (case hfact => assumption)))
local macro_rules | `(tactic| walk_at "go") => `(tactic| repeat (first | walk_at "step" | walk_at "var" | walk_at "fact" | walk_at "fact1"))
local macro_rules | `(tactic| walk_at "if") => `(tactic| with_reducible first | refine ite_d ?_ ?_ | refine ite_n ?_ ?_ | refine ite_b ?_ ?_)
local macro_rules | `(tactic| walk_at "prime") => `(tactic| refine fig_prime (by assumption) (by assumption) ?_)
local macro_rules | `(tactic| walk_at "zero") => `(tactic| refine fig_zero (by assumption) (by assumption) ?_)
local macro_rules | `(tactic| walk_at "one") => `(tactic| refine fig_one (by assumption) (by assumption) ?_)
local macro_rules | `(tactic| walk_at "meth") => `(tactic| refine fig_meth (by assumption) (by decide +kernel) ?_)
section
variable {P : Program} {w : World} {K : PySem.W.Frag} {mg : Str → Option Value} {base : Heap} {f : Addr} {fd : FuncData}
def spLaw (K : PySem.W.Frag) (T : List (Addr × Str)) : Sp := fun vs H Q _ => ∃ (a : Addr) (ns : List Int), vs = [.ref a] ∧ SqL K H a (ns.map V.int) ∧ ns.length ≤ 63 ∧ LamX.Tabs T H ∧ ∀ H', Q (.bl true) H'
def K4 (i : Ix) (C : Addr) (us : List V) (xs : List i.R) (t fa h cl : Addr) (Hx : Hp) : Prop := Hx t = some (.lst us) ∧ Reps Hx us xs ∧ FigAt i.R C Hx fa ∧ HandAt Hx h cl
theorem K4.up {i : Ix} {C : Addr} {us : List V} {xs : List i.R} {t fa h cl : Addr} {Ha Hb : Hp} (k : K4 i C us xs t fa h cl Ha) (e : Same Ha Hb) : K4 i C us xs t fa h cl Hb := ⟨e _ _ k.1, k.2.1.up e, k.2.2.1.up e, k.2.2.2.up e⟩
theorem slice_to {H : Hp} {a : Addr} {us : List V} {k : Nat} {Q : VK} (h : H a = some (.lst us)) (hk : k ≤ us.length) (q : ∀ p, H p = none → Q (.ref p) (upd H p (.lst (us.take k)))) : rSlL K (.ref a) none (some (k : Nat)) H Q :=
  g_slL h fun p hp => by
    rw [cut_to hk]
    exact q p hp
theorem cut_from {xs : List V} {k : Nat} (h : k ≤ xs.length) : cutV xs (some (k : Nat)) none = xs.drop k := by
  unfold cutV
  rw [HT.sIx_none, HT.sIx_nat, Nat.min_eq_left h]
  exact List.take_of_length_le (by rw [List.length_drop]; exact Nat.le_refl _)
theorem slice_from {H : Hp} {a : Addr} {us : List V} {k : Nat} {i : Int} {Q : VK} (h : H a = some (.lst us)) (hi : i = (k : Int)) (hk : k ≤ us.length) (q : ∀ p, H p = none → Q (.ref p) (upd H p (.lst (us.drop k)))) : rSlL K (.ref a) (some i) none H Q := by
  subst hi
  exact g_slL h fun p hp => by
    rw [cut_from hk]
    exact q p hp
theorem ok_law {C CB P' : Addr} (hPL : ∀ i, PL i) (B : Bn mg)
    (c__law_hand : C8.Cal P w K mg base 1 "_law_hand" (spLHand (K := K)) []) (c__law_figures : C8.Cal P w K mg base 3 "_law_figures" spFigs []) (c_Figures : C8.Mak P w K mg base 2 "Figures" C (U fun i => spFInit i.R C) [])
    (c__law_drawn : C8.Cal P w K mg base 6 "_law_drawn" (U fun i => spDrawn i.R) []) (c__law_due : C8.Cal P w K mg base 6 "_law_due" (U fun i => spDue i.R (LSi i) [(P', qLam)]) []) (c__law_list : C8.Cal P w K mg base 3 "_law_list" spList [])
    (c_taps_apart : CalX P w K mg base 14 "taps_apart" (U fun i => spApart i.R C CB (Pr i) (Gd i))) (c__law_exact : C8.Cal P w K mg base 5 "_law_exact" (spEx 4) []) (c__law_num : C8.Cal P w K mg base 1 "_law_num" (U fun i => spNum i.R) [])
    (c__law_multiplied : C8.Cal P w K mg base 4 "_law_multiplied" (U fun i => spMul i.R) []) (c__law_take : C8.Cal P w K mg base 2 "_law_take" spTake []) (c__law_none : C8.Cal P w K mg base 1 "_law_none" (U fun i => spNone i.R) [])
    (c__law_word : C8.Cal P w K mg base 15 "_law_word" (U fun i => spWord i.R C (Pr i)) []) (F : C8.Fun K "law" "law" s_law f fd) : FnOk P w K mg base C8.CX0 16 f fd ["_law_script"] (spLaw K [(P', qLam)]) := by
  refine C8.fn0 F sc_law (fun vs H Q E h => ?_) (fun cdv A outer s H vs Q E hr h => ?_)
  · obtain ⟨a, ns, rfl, _⟩ := h
    rfl
  · obtain ⟨a, ns, rfl, ha, hn, hT, q⟩ := h
    refine ⟨_, (pss_cons (ps_set (i := 1) sc_law.nd rfl (by first | exact .inl rfl | exact .inr rfl) (C8.pe_c c__law_hand hr (by decide) (by rfl) (pa_cons (pv 0) pa_nil)))
    (pss_cons (ps_set (i := 2) sc_law.nd rfl (by first | exact .inl rfl | exact .inr rfl) (C8.pe_c c__law_figures hr (by decide) (by rfl) (pa_cons (pv 1) pa_nil)))
    (pss_cons (ps_set (i := 3) sc_law.nd rfl (by first | exact .inl rfl | exact .inr rfl) (C8.pe_mk c_Figures hr (by decide) (by rfl) (pa_cons (pv 2) pa_nil)))
    (pss_cons (ps_asg (C8.pe_c c__law_drawn hr (by decide) (by rfl) (pa_cons (pv 1) (pa_cons (pv 2) pa_nil))) (pg_unl (n := 2) rfl (pgs_cons (pg_name (i := 4) sc_law.nd rfl (by first | exact .inl rfl | exact .inr rfl)) (pgs_cons (pg_name (i := 5) sc_law.nd rfl (by first | exact .inl rfl | exact .inr rfl)) pgs_nil))))
    (pss_cons (ps_set (i := 6) sc_law.nd rfl (by first | exact .inl rfl | exact .inr rfl) (C8.pe_c c__law_due hr (by decide) (by rfl) (pa_cons (pv 2) (pa_cons (pv 4) (pa_cons (pv 5) pa_nil)))))
    (pss_cons (ps_set (i := 7) sc_law.nd rfl (by first | exact .inl rfl | exact .inr rfl) (pe_cX c_taps_apart hr (by decide) (by rfl) pass_none (pa_cons (pv 3) (pa_cons (C8.pe_c c__law_list hr (by decide) (by rfl) (pa_cons (pv 1) (pa_cons (pv 4) pa_nil))) pa_nil))))
    (pss_cons (ps_if (pt_not (pt_val (C8.pe_c c__law_exact hr (by decide) (by rfl) (pa_cons (pv 7) (pa_cons (pv 6) pa_nil)))))
    ((pss_one (ps_ret pe_bl))) pss_nil)
    (pss_cons (ps_if (pt_cmpR op_notN_ (pv 6) pe_non (nomark _))
    ((pss_cons (ps_set (i := 8) sc_law.nd rfl (by first | exact .inl rfl | exact .inr rfl) (pe_lst (pa_cons (C8.pe_c c__law_num hr (by decide) (by rfl) (pa_cons (pv 2) (pa_cons pe_int pa_nil))) pa_nil)))
    (pss_cons (ps_for PassesOwn.never rfl (pi_tup (pv 6)) (pg_name (i := 9) sc_law.nd rfl (by first | exact .inl rfl | exact .inr rfl))
    ((pss_one (ps_set (i := 8) sc_law.nd rfl (by first | exact .inl rfl | exact .inr rfl) (C8.pe_c c__law_multiplied hr (by decide) (by rfl) (pa_cons (pv 2) (pa_cons (pv 8) (pa_cons (pv 9) pa_nil))))))))
    (pss_one (ps_if (pt_cmpR (op_neD hr.units) (pv 8) (pv 4) (nomark _))
    ((pss_one (ps_ret pe_bl))) pss_nil))))) pss_nil)
    (pss_cons (ps_set (i := 10) sc_law.nd rfl (by first | exact .inl rfl | exact .inr rfl) (C8.pe_c c__law_take hr (by decide) (by rfl) (pa_cons (pv 1) (pa_cons (pe_callB call_len_ (by rfl) B.len_ (by decide +kernel) (pa_cons (pv 4) pa_nil)) pa_nil))))
    (pss_cons (ps_set (i := 11) sc_law.nd rfl (by first | exact .inl rfl | exact .inr rfl) (pe_op op_cat (pe_op op_cat (pe_slice sl_list (pv 4) po_none (po_some (pv 10))) (pe_lst (pa_cons (C8.pe_c c__law_none hr (by decide) (by rfl) (pa_cons (pv 2) pa_nil)) pa_nil))) (pe_slice sl_list (pv 4) (po_some (pe_op op_add (pv 10) pe_int)) po_none)))
    (pss_cons (ps_if (PW.pt (pw_or (pt_cmpR (op_neD hr.units) (C8.pe_c c__law_word hr (by decide) (by rfl) (pa_cons (pv 3) (pa_cons (pv 11) pa_nil))) (pe_tup (pa_cons pe_str (pa_cons (pv 10) pa_nil))) (nomark _)) (pw_or1 (pt_cmpR op_notN_ (C8.pe_c c__law_word hr (by decide) (by rfl) (pa_cons (pv 3) (pa_cons (pv 4) pa_nil))) pe_non (nomark _)))))
    ((pss_one (ps_ret pe_bl))) pss_nil)
    (pss_cons (ps_if (pt_cmpR (op_neD hr.units) (C8.pe_c c__law_word hr (by decide) (by rfl) (pa_cons (pv 3) (pa_cons (pe_op op_cat (pv 4) (pe_op op_rep (pe_lst (pa_cons (C8.pe_c c__law_num hr (by decide) (by rfl) (pa_cons (pv 2) (pa_cons pe_int pa_nil))) pa_nil)) (pe_op op_sub pe_int (pe_callB call_len_ (by rfl) B.len_ (by decide +kernel) (pa_cons (pv 4) pa_nil))))) pa_nil))) (pe_tup (pa_cons pe_str (pa_cons pe_int pa_nil))) (nomark _))
    ((pss_one (ps_ret pe_bl))) pss_nil)
    (pss_cons (ps_set (i := 12) sc_law.nd rfl (by first | exact .inl rfl | exact .inr rfl) (pe_ix ix_tup (pe_tup (pa_cons (pe_slice sl_list (pv 11) po_none (po_some pe_int)) (pa_cons (pe_lst pa_nil) (pa_cons pe_non (pa_cons (pe_op op_cat (pv 4) (pe_op op_rep (pe_lst (pa_cons (C8.pe_c c__law_num hr (by decide) (by rfl) (pa_cons (pv 2) (pa_cons pe_int pa_nil))) pa_nil)) pe_int)) pa_nil))))) (C8.pe_c c__law_take hr (by decide) (by rfl) (pa_cons (pv 1) (pa_cons pe_int pa_nil))) (fun _ _ => rfl)))
    (pss_one (ps_ret (pe_cmpR (op_eqD hr.units) (C8.pe_c c__law_word hr (by decide) (by rfl) (pa_cons (pv 3) (pa_cons (pv 12) pa_nil))) (pe_tup (pa_cons pe_str (pa_cons pe_int pa_nil))) (nomark _))))))))))))))))), ?_⟩
    refine go_start (show _ = [some _, none, none, none, none, none, none, none, none, none, none, none, none] from rfl) ?_
    walk_at "go"
    refine ⟨a, ns, rfl, ha, hn, fun h cl H1 e1 _ hh1 => ?_⟩
    walk_at "go"
    refine ⟨h, cl, rfl, hh1, fun p H2 hp k2 hh2 => ?_⟩
    obtain ⟨i, rfl⟩ := known_ix hp
    have hT2 := tabs_im (tabs_im hT (Same.im e1)) (hh1.im k2)
    walk_at "go"
    intro fa dx nfa ndx hne
    have e3 : Same H2 (upd (upd H2 dx (.own fa)) fa (.ins C dx [])) := (same_new ndx).trans (same_new (by rw [upd_ne hne.symm]; exact nfa))
    refine ⟨i, fa, dx, rfl, upd_same, hp, fun H3 k3 hF3 => ⟨rfl, ?_⟩⟩
    have e23 : Same H2 H3 := fun b o hb => k3 b o (ne_of_none hb nfa) (e3 b o hb)
    have hh3 := hh2.up e23
    have hT3 := hT2.ext e23
    walk_at "go"
    refine ⟨i, h, cl, rfl, hh3, fun l t rv us xs o H4 hl4 ht4 hu4 hth hrts hdr k4 hh4 => ?_⟩
    refine g_unl2 hl4 ?_
    have hF4 := hF3.im (hh3.im k4)
    have hT4 := tabs_im hT3 (hh3.im k4)
    obtain ⟨m, c, htrim, hm, hap, hdue, hlen0⟩ := hPL i xs o hdr
    obtain ⟨x2, x12, x50, _⟩ := hdr
    have hul := hu4.len
    have hB100 : Bds 100 xs := bds_mono (by decide) x50
    have hrin : NumC.p i.R = 0 → RtsIn H4 rv (xs.length - 1) o := fun z => by
      cases o with
      | none => exact hrts
      | some L =>
        obtain ⟨rl, ws, h1, _, h3, h4⟩ := hrts
        exact ⟨rl, ws, h1, h3, h4, hlen0 z L rfl⟩
    walk_at "go"
    refine ⟨i, t, rv, us, xs, m, c, o, rfl, hT4, ht4, hu4, htrim, fun z => ⟨(hm z).1, (hm z).2.1⟩, x2, x12, hB100, hrin, fun dv H5 e5 hdv => ?_⟩
    have ht5 := ext_lst e5 ht4
    have hu5 := reps_ext hu4 e5
    have hF5 := fig_ext hF4 e5
    have hh5 := hand_ext hh4 e5
    have hok : ∀ (Hx : Hp) (v : V), (∃ a, v = .ref a ∧ Seqv Hx a us) → Reps Hx us xs → OkTaps (Pr i) Hx v xs m c := fun Hx v ⟨a, h1, h2⟩ h3 =>
      ⟨a, us, h1, h2, h3, by omega, by omega, htrim, fun z => ⟨(hm z).1, (hm z).2.1, (fun y hy => hB100 y (List.mem_of_mem_take hy)), (hm z).2.2.1, (hm z).2.2.2⟩⟩
    walk_at "go"
    refine g_callS ?_
    walk_at "go"
    refine ⟨h, cl, t, us, rfl, hh5, ht5, hth, fun a6 H6 ha6 k6 hh6 => ?_⟩
    have im6 := hh5.im k6
    have ht6 := k6 _ _ hth ht5
    have hu6 := hu5.im im6
    have hF6 := hF5.im im6
    have hdv6 := ap_im hdv im6
    walk_at "go"
    obtain ⟨b1, b2, b3, b4, b5, b6, b7, b8⟩ := hok H6 (.ref a6) ⟨a6, rfl, ha6⟩ hu6
    refine ⟨i, fa, _, rfl, hF6, .inl ⟨b1, b2, xs, m, c, b3, b4, b5, b6, b7, b8.1, b8.2, fun tv H7 rs e7 hg htv => ?_⟩⟩
    rw [hap rs hg] at htv
    have ht7 := e7 _ _ ht6
    have hu7 := hu6.up e7
    have hF7 := hF6.up e7
    have hh7 := hh6.up e7
    have hdv7 := ap_im hdv6 (Same.im e7)
    have K7 : K4 i C us xs t fa h cl H7 := ⟨ht7, hu7, hF7, hh7⟩
    walk_at "go"
    refine ⟨tv, dv, rfl, ap_ex htv hdv7 (fun cs hcs => by
      have := (hdue cs hcs).2.1
      omega), fun H8 e8 => ?_⟩
    have K8 := K7.up e8
    have hdv8 := ap_im hdv7 (Same.im e8)
    walk_at "go"
    generalize dueF (LSi i) xs m c o = D at *
    cases D with
    | none =>
      have hdn : dv = .non := hdv8
      subst hdn
      walk_at "go"
      refine g_lenL K8.1 ?_
      walk_at "go"
      refine ⟨h, cl, _, rfl, K8.2.2.2, by omega, by omega, fun kz HA k0 k1 kkA hhA => ?_⟩
      obtain ⟨kn, rfl⟩ : ∃ n : Nat, kz = (n : Int) := ⟨kz.toNat, by omega⟩
      have hkn : kn < us.length := by omega
      have KA : K4 i C us xs t fa h cl HA := ⟨kkA _ _ hth K8.1, K8.2.1.im (K8.2.2.2.im kkA), K8.2.2.1.im (K8.2.2.2.im kkA), hhA⟩
      walk_at "go"
      refine slice_to KA.1 (by omega) fun s1 n1 => ?_
      have f1 := same_new (o := HO.lst (us.take kn)) n1
      have g1 : (upd HA s1 (.lst (us.take kn))) s1 = some (.lst (us.take kn)) := upd_same
      have K1 := KA.up f1
      generalize (upd HA s1 (.lst (us.take kn))) = J1 at *
      walk_at "go"
      refine ⟨i, rfl, ?_⟩
      walk_at "go"
      refine ⟨(by show 1 ≤ sizeLine; decide), fun s2 n2 => ?_⟩
      have f2 := same_new (o := HO.lst [V.int (badN i.R)]) n2
      have g2 : (upd J1 s2 (.lst [V.int (badN i.R)])) s2 = some (.lst [V.int (badN i.R)]) := upd_same
      have K2 := K1.up f2
      replace g1 := f2 _ _ g1
      generalize (upd J1 s2 (.lst [V.int (badN i.R)])) = J2 at *
      walk_at "go"
      refine g_catL g1 g2 (by rw [List.length_take]; show _ + 1 ≤ _; omega) fun s3 n3 => ?_
      have f3 := same_new (o := HO.lst (us.take kn ++ [V.int (badN i.R)])) n3
      have g3 : (upd J2 s3 (.lst (us.take kn ++ [V.int (badN i.R)]))) s3 = some (.lst (us.take kn ++ [V.int (badN i.R)])) := upd_same
      have K3 := K2.up f3
      generalize (upd J2 s3 (.lst (us.take kn ++ [V.int (badN i.R)]))) = J3 at *
      walk_at "go"
      refine slice_from (k := kn + 1) K3.1 (by omega) (by omega) fun s4 n4 => ?_
      have f4 := same_new (o := HO.lst (us.drop (kn + 1))) n4
      have g4 : (upd J3 s4 (.lst (us.drop (kn + 1)))) s4 = some (.lst (us.drop (kn + 1))) := upd_same
      have K4' := K3.up f4
      replace g3 := f4 _ _ g3
      generalize (upd J3 s4 (.lst (us.drop (kn + 1)))) = J4 at *
      walk_at "go"
      refine g_catL g3 g4 (by rw [List.length_append, List.length_take, List.length_drop]; show _ + 1 + _ ≤ _; omega) fun s5 n5 => ?_
      have f5 := same_new (o := HO.lst (us.take kn ++ [V.int (badN i.R)] ++ us.drop (kn + 1))) n5
      have g5 : (upd J4 s5 (.lst (us.take kn ++ [V.int (badN i.R)] ++ us.drop (kn + 1)))) s5 = some (.lst (us.take kn ++ [V.int (badN i.R)] ++ us.drop (kn + 1))) := upd_same
      have K5 := K4'.up f5
      generalize (upd J4 s5 (.lst (us.take kn ++ [V.int (badN i.R)] ++ us.drop (kn + 1)))) = J5 at *
      have hblen : (us.take kn ++ [V.int (badN i.R)] ++ us.drop (kn + 1)).length = us.length := by
        rw [List.length_append, List.length_append, List.length_take, List.length_drop]
        show min kn us.length + 1 + _ = _
        omega
      have hbk : (us.take kn ++ [V.int (badN i.R)] ++ us.drop (kn + 1))[kn]? = some (V.int (badN i.R)) := by
        rw [List.append_assoc, List.getElem?_append_right (by rw [List.length_take]; omega), List.length_take, show kn - min kn us.length = 0 by omega]
        rfl
      have hbpre : ∀ j u, j < kn → (us.take kn ++ [V.int (badN i.R)] ++ us.drop (kn + 1))[j]? = some u → ∃ x : i.R, Rep J5 u x := by
        intro j u hj hu
        rw [List.append_assoc, List.getElem?_append_left (by rw [List.length_take]; omega), List.getElem?_take, if_pos hj] at hu
        obtain ⟨x, _, hx⟩ := K5.2.1.get' hu
        exact ⟨x, hx⟩
      generalize us.take kn ++ [V.int (badN i.R)] ++ us.drop (kn + 1) = bad at *
      walk_at "go"
      refine ⟨i, fa, _, rfl, K5.2.2.1, .inr (.inr ⟨kn, ⟨s5, bad, rfl, .inl g5, by omega, by omega, hbk, hbpre⟩, fun wt HB eB hwt => ?_⟩)⟩
      have KB := K5.up eB
      replace g5 := eB _ _ g5
      walk_at "go"
      refine ⟨(by show 2 ≤ sizeLine; decide), fun s6 n6 => ?_⟩
      have f6 := same_new (o := HO.tup [V.str "taps", V.int (kn : Nat)]) n6
      refine g_neWord (f6 _ _ hwt) upd_same ?_
      have K6 := KB.up f6
      replace g5 := f6 _ _ g5
      generalize (upd HB s6 (.tup [V.str "taps", V.int (kn : Nat)])) = J6 at *
      walk_at "go"
      refine ⟨i, fa, _, rfl, K6.2.2.1, .inl ⟨xs, m, c, hok _ _ ⟨t, rfl, .inl K6.1⟩ K6.2.1, fun HC eC => ?_⟩⟩
      have KC := K6.up eC
      replace g5 := eC _ _ g5
      walk_at "go"
      refine ⟨i, 1, rfl, fun v1 HD eD hv1 => ?_⟩
      have KD := KC.up eD
      replace g5 := eD _ _ g5
      walk_at "go"
      refine ⟨(by show 1 ≤ sizeLine; decide), fun s7 n7 => ?_⟩
      have f7 := same_new (o := HO.lst [v1]) n7
      have g7 : (upd HD s7 (.lst [v1])) s7 = some (.lst [v1]) := upd_same
      have K7 := KD.up f7
      replace g5 := f7 _ _ g5
      generalize (upd HD s7 (.lst [v1])) = J7 at *
      walk_at "go"
      refine g_lenL K7.1 ?_
      walk_at "go"
      refine g_rRep g7 (by omega) (by omega) (by show 1 ≤ 1; decide) fun s8 n8 => ?_
      rw [flat_rep]
      have f8 := same_new (o := HO.lst (List.replicate (13 - (us.length : Int)).toNat v1)) n8
      have g8 : (upd J7 s8 (.lst (List.replicate (13 - (us.length : Int)).toNat v1))) s8 = some (.lst (List.replicate (13 - (us.length : Int)).toNat v1)) := upd_same
      have K8' := K7.up f8
      replace g5 := f8 _ _ g5
      generalize (upd J7 s8 (.lst (List.replicate (13 - (us.length : Int)).toNat v1))) = J8 at *
      walk_at "go"
      refine g_catL K8'.1 g8 (by rw [List.length_replicate]; omega) fun s9 n9 => ?_
      have f9 := same_new (o := HO.lst (us ++ List.replicate (13 - (us.length : Int)).toNat v1)) n9
      have g9 : (upd J8 s9 (.lst (us ++ List.replicate (13 - (us.length : Int)).toNat v1))) s9 = some (.lst (us ++ List.replicate (13 - (us.length : Int)).toNat v1)) := upd_same
      have K9 := K8'.up f9
      replace g5 := f9 _ _ g5
      generalize (upd J8 s9 (.lst (us ++ List.replicate (13 - (us.length : Int)).toNat v1))) = J9 at *
      walk_at "go"
      refine ⟨i, fa, _, rfl, K9.2.2.1, .inr (.inl ⟨.inr ⟨s9, _, rfl, .inl g9, .inr (by rw [List.length_append, List.length_replicate]; omega)⟩, fun wt2 HE eE hwt2 => ?_⟩)⟩
      have KE := K9.up eE
      replace g5 := eE _ _ g5
      walk_at "go"
      refine ⟨(by show 2 ≤ sizeLine; decide), fun s10 n10 => ?_⟩
      have f10 := same_new (o := HO.tup [V.str "taps", V.int 0]) n10
      refine g_neWord (k := 0) (f10 _ _ hwt2) upd_same ?_
      have K10 := KE.up f10
      replace g5 := f10 _ _ g5
      generalize (upd HE s10 (.tup [V.str "taps", V.int 0])) = J10 at *
      walk_at "go"
      refine slice_to (k := 1) g5 (by omega) fun s11 n11 => ?_
      have f11 := same_new (o := HO.lst (bad.take 1)) n11
      have g11 : (upd J10 s11 (.lst (bad.take 1))) s11 = some (.lst (bad.take 1)) := upd_same
      have K11 := K10.up f11
      generalize (upd J10 s11 (.lst (bad.take 1))) = J11 at *
      walk_at "go"
      refine ⟨(by show 0 ≤ sizeLine; decide), fun s12 n12 => ?_⟩
      have f12 := same_new (o := HO.lst []) n12
      have g12 : (upd J11 s12 (.lst [])) s12 = some (.lst []) := upd_same
      have K12 := K11.up f12
      replace g11 := f12 _ _ g11
      generalize (upd J11 s12 (.lst [])) = J12 at *
      walk_at "go"
      refine ⟨i, 1, rfl, fun v2 HG eG hv2 => ?_⟩
      have KG := K12.up eG
      replace g11 := eG _ _ g11
      replace g12 := eG _ _ g12
      walk_at "go"
      refine ⟨(by show 1 ≤ sizeLine; decide), fun s13 n13 => ?_⟩
      have f13 := same_new (o := HO.lst [v2]) n13
      have g13 : (upd HG s13 (.lst [v2])) s13 = some (.lst [v2]) := upd_same
      have K13 := KG.up f13
      replace g11 := f13 _ _ g11
      replace g12 := f13 _ _ g12
      generalize (upd HG s13 (.lst [v2])) = J13 at *
      walk_at "go"
      refine g_rRep g13 (by decide) (by decide) (by show 1 ≤ 1; decide) fun s14 n14 => ?_
      rw [flat_rep]
      have f14 := same_new (o := HO.lst (List.replicate (12 : Int).toNat v2)) n14
      have g14 : (upd J13 s14 (.lst (List.replicate (12 : Int).toNat v2))) s14 = some (.lst (List.replicate (12 : Int).toNat v2)) := upd_same
      have K14 := K13.up f14
      replace g11 := f14 _ _ g11
      replace g12 := f14 _ _ g12
      generalize (upd J13 s14 (.lst (List.replicate (12 : Int).toNat v2))) = J14 at *
      walk_at "go"
      refine g_catL K14.1 g14 (by rw [List.length_replicate]; show _ + 12 ≤ _; omega) fun s15 n15 => ?_
      have f15 := same_new (o := HO.lst (us ++ List.replicate (12 : Int).toNat v2)) n15
      have g15 : (upd J14 s15 (.lst (us ++ List.replicate (12 : Int).toNat v2))) s15 = some (.lst (us ++ List.replicate (12 : Int).toNat v2)) := upd_same
      have K15 := K14.up f15
      replace g11 := f15 _ _ g11
      replace g12 := f15 _ _ g12
      generalize (upd J14 s15 (.lst (us ++ List.replicate (12 : Int).toNat v2))) = J15 at *
      walk_at "go"
      refine ⟨(by show 4 ≤ sizeLine; decide), fun s16 n16 => ?_⟩
      have f16 := same_new (o := HO.tup [V.ref s11, V.ref s12, V.non, V.ref s15]) n16
      have g16 : (upd J15 s16 (.tup [V.ref s11, V.ref s12, V.non, V.ref s15])) s16 = some (.tup [V.ref s11, V.ref s12, V.non, V.ref s15]) := upd_same
      have hs11 : s11 ≠ h := fun z => by
        obtain ⟨_, _, _, _, e, _⟩ := K15.2.2.2
        rw [← z, g11] at e
        have := HO.lst.inj (Option.some.inj e)
        have := congrArg List.length this
        rw [List.length_take] at this
        have h12 : min 1 bad.length = 4 := this
        omega
      have hs12 : s12 ≠ h := fun z => by
        obtain ⟨_, _, _, _, e, _⟩ := K15.2.2.2
        rw [← z, g12] at e
        cases HO.lst.inj (Option.some.inj e)
      have hs15 : s15 ≠ h := fun z => by
        obtain ⟨_, _, _, _, e, _⟩ := K15.2.2.2
        rw [← z, g15] at e
        have := HO.lst.inj (Option.some.inj e)
        have := congrArg List.length this
        rw [List.length_append, List.length_replicate] at this
        have h12 : us.length + 12 = 4 := this
        omega
      have K16 := K15.up f16
      replace g11 := f16 _ _ g11
      replace g12 := f16 _ _ g12
      replace g15 := f16 _ _ g15
      generalize (upd J15 s16 (.tup [V.ref s11, V.ref s12, V.non, V.ref s15])) = J16 at *
      walk_at "go"
      refine ⟨h, cl, 4, rfl, K16.2.2.2, by decide, by decide, fun ko HK ko0 ko1 kkK hhK => ?_⟩
      have imK := K16.2.2.2.im kkK
      have hodd : ∃ v, [V.ref s11, V.ref s12, V.non, V.ref s15][ko.toNat]? = some v ∧ BadLen HK v := by
        have : ko = 0 ∨ ko = 1 ∨ ko = 2 ∨ ko = 3 := by omega
        rcases this with rfl | rfl | rfl | rfl
        · exact ⟨_, rfl, .inr ⟨s11, _, rfl, .inl (kkK _ _ hs11 g11), .inl (by rw [List.length_take]; omega)⟩⟩
        · exact ⟨_, rfl, .inr ⟨s12, _, rfl, .inl (kkK _ _ hs12 g12), .inl (by decide)⟩⟩
        · exact ⟨_, rfl, .inl rfl⟩
        · exact ⟨_, rfl, .inr ⟨s15, _, rfl, .inl (kkK _ _ hs15 g15), .inr (by rw [List.length_append, List.length_replicate]; show 12 < _ + 12; omega)⟩⟩
      obtain ⟨ov, hov, hbl⟩ := hodd
      refine g_ixTn (j := ko.toNat) (im_tup imK g16) (by omega) hov ?_
      walk_at "go"
      refine ⟨i, fa, ov, rfl, K16.2.2.1.im imK, .inr (.inl ⟨hbl, fun wt3 HL eL hwt3 => ?_⟩)⟩
      walk_at "go"
      refine ⟨(by show 2 ≤ sizeLine; decide), fun s17 n17 => ?_⟩
      have f17 := same_new (o := HO.tup [V.str "taps", V.int 0]) n17
      exact g_eqWord (k := 0) (f17 _ _ hwt3) upd_same (q _)
    | some cs =>
      obtain ⟨da, ws, rfl, hda, hcs⟩ := hdv8
      obtain ⟨hfold, hcl, x0, ct, hcc, hb1, hb2, hbt⟩ := hdue cs rfl
      have hwl := paired_len hcs
      walk_at "go"
      refine ⟨i, 1, rfl, fun v H9 e9 hv => ?_⟩
      rw [NumC.of_1] at hv
      walk_at "go"
      refine ⟨(by show 1 ≤ sizeLine; decide), fun w0 nw0 => ?_⟩
      have e10 := Same.up (o := HO.lst [v]) e9 nw0
      have hw0 : (upd H9 w0 (.lst [v])) w0 = some (.lst [v]) := upd_same
      have hv10 := hv.up (same_new (o := HO.lst [v]) nw0)
      generalize (upd H9 w0 (.lst [v])) = H10 at *
      walk_at "go"
      refine ⟨da, rfl, ⟨ws, SqT.of (e10 _ _ hda)⟩, lp_tup (xs := ws) (fun k σ' Hc => ∃ (wl : Addr) (zs : List V) (x9 : Option V), σ' = [some (.ref a), some (.ref h), some (.int (NumC.p i.R : Nat)), some (.ref fa), some (.ref t), some rv, some (.ref da), some tv, some (.ref wl), x9, none, none, none] ∧ Same H8 Hc ∧ Hc wl = some (.lst zs) ∧ Reps Hc zs ((cs.take k).foldl (fun f x => conv f [x.1, x.2]) [1]) ∧ ((cs.take k).foldl (fun f x => conv f [x.1, x.2]) [1]).length = k + 1 ∧ Bds (if k = 0 then 0 else 100 + 3 * k) ((cs.take k).foldl (fun f x => conv f [x.1, x.2]) [1]))
        ⟨w0, [v], none, rfl, e10, hw0, .cons hv10 .nil, rfl, ?_⟩ (fun k σ' Hc _ hS => ?_) (fun k x σ' Hc hx hS => ?_) (fun σ' Hc hS => ?_)⟩
      · intro y hy
        have : y = 1 := by simpa using hy
        rw [this]
        exact NumC.bd_1
      · obtain ⟨_, _, _, _, e, _⟩ := hS
        exact SqT.of (e _ _ hda)
      · obtain ⟨wl, zs, x9, rfl, ec, hwl', hz, hzl, hzb⟩ := hS
        obtain ⟨cp, hcp, p6, u1, u2, rfl, hp6, hu1, hu2⟩ := paired_get hcs hx
        have hk := (List.getElem?_eq_some_iff.mp hcp).1
        have hstep : (cs.take (k + 1)).foldl (fun f x => conv f [x.1, x.2]) [1] = conv ((cs.take k).foldl (fun f x => conv f [x.1, x.2]) [1]) [cp.1, cp.2] := by
          rw [List.take_add_one, hcp, List.foldl_append]
          rfl
        have hbc : Bds (if k = 0 then 101 else 1) [cp.1, cp.2] := by
          by_cases hk0 : k = 0
          · rw [if_pos hk0]
            subst hk0
            rw [hcc] at hcp
            have : x0 = cp := Option.some.inj hcp
            subst this
            intro y hy
            rcases List.mem_cons.mp hy with rfl | hy
            · exact hb1
            · rw [List.mem_singleton.mp hy]
              exact hb2
          · rw [if_neg hk0]
            have hmem : cp ∈ ct := by
              rw [hcc] at hcp
              obtain ⟨k', rfl⟩ : ∃ k', k = k' + 1 := ⟨k - 1, by omega⟩
              exact List.mem_of_getElem? hcp
            intro y hy
            rcases List.mem_cons.mp hy with rfl | hy
            · exact (hbt cp hmem).1
            · rw [List.mem_singleton.mp hy]
              exact (hbt cp hmem).2
        walk_at "go"
        refine ⟨i, wl, p6, zs, [u1, u2], _, [cp.1, cp.2], _, _, rfl, .inl hwl', hz, .inr (ec _ _ hp6), .cons (hu1.up ec) (.cons (hu2.up ec) .nil), by omega, by show 1 ≤ 2; decide, by show _ + 2 ≤ 40; omega, hzb, hbc, ?_, fun l2 zs2 H11 e11 hn2 hl2 hr2 => ?_⟩
        · show (if k = 0 then 0 else 100 + 3 * k) + (if k = 0 then 101 else 1) + 2 + 2 ≤ 800
          split <;> omega
        · walk_at "go"
          refine ⟨l2, zs2, _, rfl, ec.trans e11, hl2, ?_, ?_, ?_⟩
          · rw [hstep]
            exact hr2
          · rw [hstep, conv_len, hzl]
            rfl
          · rw [hstep]
            refine bds_mono ?_ (bds_conv hzb hbc)
            show (if k = 0 then 0 else 100 + 3 * k) + (if k = 0 then 101 else 1) + 2 ≤ (if k + 1 = 0 then 0 else 100 + 3 * (k + 1))
            rw [if_neg (show ¬ k + 1 = 0 by omega)]
            split <;> omega
      · obtain ⟨wl, zs, x9, rfl, ec, hwl', hz, hzl, hzb⟩ := hS
        rw [List.take_of_length_le (by omega), hfold] at hz
        have K8o := K8
        replace K8 := K8.up ec
        walk_at "go"
        refine g_neRows hwl' hz K8.1 K8.2.1 ?_
        walk_at "go"
        refine g_lenL K8.1 ?_
        walk_at "go"
        refine ⟨h, cl, _, rfl, K8.2.2.2, by omega, by omega, fun kz HA k0 k1 kkA hhA => ?_⟩
        obtain ⟨kn, rfl⟩ : ∃ n : Nat, kz = (n : Int) := ⟨kz.toNat, by omega⟩
        have hkn : kn < us.length := by omega
        have KA : K4 i C us xs t fa h cl HA := ⟨kkA _ _ hth K8.1, K8.2.1.im (K8.2.2.2.im kkA), K8.2.2.1.im (K8.2.2.2.im kkA), hhA⟩
        walk_at "go"
        refine slice_to KA.1 (by omega) fun s1 n1 => ?_
        have f1 := same_new (o := HO.lst (us.take kn)) n1
        have g1 : (upd HA s1 (.lst (us.take kn))) s1 = some (.lst (us.take kn)) := upd_same
        have K1 := KA.up f1
        generalize (upd HA s1 (.lst (us.take kn))) = J1 at *
        walk_at "go"
        refine ⟨i, rfl, ?_⟩
        walk_at "go"
        refine ⟨(by show 1 ≤ sizeLine; decide), fun s2 n2 => ?_⟩
        have f2 := same_new (o := HO.lst [V.int (badN i.R)]) n2
        have g2 : (upd J1 s2 (.lst [V.int (badN i.R)])) s2 = some (.lst [V.int (badN i.R)]) := upd_same
        have K2 := K1.up f2
        replace g1 := f2 _ _ g1
        generalize (upd J1 s2 (.lst [V.int (badN i.R)])) = J2 at *
        walk_at "go"
        refine g_catL g1 g2 (by rw [List.length_take]; show _ + 1 ≤ _; omega) fun s3 n3 => ?_
        have f3 := same_new (o := HO.lst (us.take kn ++ [V.int (badN i.R)])) n3
        have g3 : (upd J2 s3 (.lst (us.take kn ++ [V.int (badN i.R)]))) s3 = some (.lst (us.take kn ++ [V.int (badN i.R)])) := upd_same
        have K3 := K2.up f3
        generalize (upd J2 s3 (.lst (us.take kn ++ [V.int (badN i.R)]))) = J3 at *
        walk_at "go"
        refine slice_from (k := kn + 1) K3.1 (by omega) (by omega) fun s4 n4 => ?_
        have f4 := same_new (o := HO.lst (us.drop (kn + 1))) n4
        have g4 : (upd J3 s4 (.lst (us.drop (kn + 1)))) s4 = some (.lst (us.drop (kn + 1))) := upd_same
        have K4' := K3.up f4
        replace g3 := f4 _ _ g3
        generalize (upd J3 s4 (.lst (us.drop (kn + 1)))) = J4 at *
        walk_at "go"
        refine g_catL g3 g4 (by rw [List.length_append, List.length_take, List.length_drop]; show _ + 1 + _ ≤ _; omega) fun s5 n5 => ?_
        have f5 := same_new (o := HO.lst (us.take kn ++ [V.int (badN i.R)] ++ us.drop (kn + 1))) n5
        have g5 : (upd J4 s5 (.lst (us.take kn ++ [V.int (badN i.R)] ++ us.drop (kn + 1)))) s5 = some (.lst (us.take kn ++ [V.int (badN i.R)] ++ us.drop (kn + 1))) := upd_same
        have K5 := K4'.up f5
        generalize (upd J4 s5 (.lst (us.take kn ++ [V.int (badN i.R)] ++ us.drop (kn + 1)))) = J5 at *
        have hblen : (us.take kn ++ [V.int (badN i.R)] ++ us.drop (kn + 1)).length = us.length := by
          rw [List.length_append, List.length_append, List.length_take, List.length_drop]
          show min kn us.length + 1 + _ = _
          omega
        have hbk : (us.take kn ++ [V.int (badN i.R)] ++ us.drop (kn + 1))[kn]? = some (V.int (badN i.R)) := by
          rw [List.append_assoc, List.getElem?_append_right (by rw [List.length_take]; omega), List.length_take, show kn - min kn us.length = 0 by omega]
          rfl
        have hbpre : ∀ j u, j < kn → (us.take kn ++ [V.int (badN i.R)] ++ us.drop (kn + 1))[j]? = some u → ∃ x : i.R, Rep J5 u x := by
          intro j u hj hu
          rw [List.append_assoc, List.getElem?_append_left (by rw [List.length_take]; omega), List.getElem?_take, if_pos hj] at hu
          obtain ⟨x, _, hx⟩ := K5.2.1.get' hu
          exact ⟨x, hx⟩
        generalize us.take kn ++ [V.int (badN i.R)] ++ us.drop (kn + 1) = bad at *
        walk_at "go"
        refine ⟨i, fa, _, rfl, K5.2.2.1, .inr (.inr ⟨kn, ⟨s5, bad, rfl, .inl g5, by omega, by omega, hbk, hbpre⟩, fun wt HB eB hwt => ?_⟩)⟩
        have KB := K5.up eB
        replace g5 := eB _ _ g5
        walk_at "go"
        refine ⟨(by show 2 ≤ sizeLine; decide), fun s6 n6 => ?_⟩
        have f6 := same_new (o := HO.tup [V.str "taps", V.int (kn : Nat)]) n6
        refine g_neWord (f6 _ _ hwt) upd_same ?_
        have K6 := KB.up f6
        replace g5 := f6 _ _ g5
        generalize (upd HB s6 (.tup [V.str "taps", V.int (kn : Nat)])) = J6 at *
        walk_at "go"
        refine ⟨i, fa, _, rfl, K6.2.2.1, .inl ⟨xs, m, c, hok _ _ ⟨t, rfl, .inl K6.1⟩ K6.2.1, fun HC eC => ?_⟩⟩
        have KC := K6.up eC
        replace g5 := eC _ _ g5
        walk_at "go"
        refine ⟨i, 1, rfl, fun v1 HD eD hv1 => ?_⟩
        have KD := KC.up eD
        replace g5 := eD _ _ g5
        walk_at "go"
        refine ⟨(by show 1 ≤ sizeLine; decide), fun s7 n7 => ?_⟩
        have f7 := same_new (o := HO.lst [v1]) n7
        have g7 : (upd HD s7 (.lst [v1])) s7 = some (.lst [v1]) := upd_same
        have K7 := KD.up f7
        replace g5 := f7 _ _ g5
        generalize (upd HD s7 (.lst [v1])) = J7 at *
        walk_at "go"
        refine g_lenL K7.1 ?_
        walk_at "go"
        refine g_rRep g7 (by omega) (by omega) (by show 1 ≤ 1; decide) fun s8 n8 => ?_
        rw [flat_rep]
        have f8 := same_new (o := HO.lst (List.replicate (13 - (us.length : Int)).toNat v1)) n8
        have g8 : (upd J7 s8 (.lst (List.replicate (13 - (us.length : Int)).toNat v1))) s8 = some (.lst (List.replicate (13 - (us.length : Int)).toNat v1)) := upd_same
        have K8' := K7.up f8
        replace g5 := f8 _ _ g5
        generalize (upd J7 s8 (.lst (List.replicate (13 - (us.length : Int)).toNat v1))) = J8 at *
        walk_at "go"
        refine g_catL K8'.1 g8 (by rw [List.length_replicate]; omega) fun s9 n9 => ?_
        have f9 := same_new (o := HO.lst (us ++ List.replicate (13 - (us.length : Int)).toNat v1)) n9
        have g9 : (upd J8 s9 (.lst (us ++ List.replicate (13 - (us.length : Int)).toNat v1))) s9 = some (.lst (us ++ List.replicate (13 - (us.length : Int)).toNat v1)) := upd_same
        have K9 := K8'.up f9
        replace g5 := f9 _ _ g5
        generalize (upd J8 s9 (.lst (us ++ List.replicate (13 - (us.length : Int)).toNat v1))) = J9 at *
        walk_at "go"
        refine ⟨i, fa, _, rfl, K9.2.2.1, .inr (.inl ⟨.inr ⟨s9, _, rfl, .inl g9, .inr (by rw [List.length_append, List.length_replicate]; omega)⟩, fun wt2 HE eE hwt2 => ?_⟩)⟩
        have KE := K9.up eE
        replace g5 := eE _ _ g5
        walk_at "go"
        refine ⟨(by show 2 ≤ sizeLine; decide), fun s10 n10 => ?_⟩
        have f10 := same_new (o := HO.tup [V.str "taps", V.int 0]) n10
        refine g_neWord (k := 0) (f10 _ _ hwt2) upd_same ?_
        have K10 := KE.up f10
        replace g5 := f10 _ _ g5
        generalize (upd HE s10 (.tup [V.str "taps", V.int 0])) = J10 at *
        walk_at "go"
        refine slice_to (k := 1) g5 (by omega) fun s11 n11 => ?_
        have f11 := same_new (o := HO.lst (bad.take 1)) n11
        have g11 : (upd J10 s11 (.lst (bad.take 1))) s11 = some (.lst (bad.take 1)) := upd_same
        have K11 := K10.up f11
        generalize (upd J10 s11 (.lst (bad.take 1))) = J11 at *
        walk_at "go"
        refine ⟨(by show 0 ≤ sizeLine; decide), fun s12 n12 => ?_⟩
        have f12 := same_new (o := HO.lst []) n12
        have g12 : (upd J11 s12 (.lst [])) s12 = some (.lst []) := upd_same
        have K12 := K11.up f12
        replace g11 := f12 _ _ g11
        generalize (upd J11 s12 (.lst [])) = J12 at *
        walk_at "go"
        refine ⟨i, 1, rfl, fun v2 HG eG hv2 => ?_⟩
        have KG := K12.up eG
        replace g11 := eG _ _ g11
        replace g12 := eG _ _ g12
        walk_at "go"
        refine ⟨(by show 1 ≤ sizeLine; decide), fun s13 n13 => ?_⟩
        have f13 := same_new (o := HO.lst [v2]) n13
        have g13 : (upd HG s13 (.lst [v2])) s13 = some (.lst [v2]) := upd_same
        have K13 := KG.up f13
        replace g11 := f13 _ _ g11
        replace g12 := f13 _ _ g12
        generalize (upd HG s13 (.lst [v2])) = J13 at *
        walk_at "go"
        refine g_rRep g13 (by decide) (by decide) (by show 1 ≤ 1; decide) fun s14 n14 => ?_
        rw [flat_rep]
        have f14 := same_new (o := HO.lst (List.replicate (12 : Int).toNat v2)) n14
        have g14 : (upd J13 s14 (.lst (List.replicate (12 : Int).toNat v2))) s14 = some (.lst (List.replicate (12 : Int).toNat v2)) := upd_same
        have K14 := K13.up f14
        replace g11 := f14 _ _ g11
        replace g12 := f14 _ _ g12
        generalize (upd J13 s14 (.lst (List.replicate (12 : Int).toNat v2))) = J14 at *
        walk_at "go"
        refine g_catL K14.1 g14 (by rw [List.length_replicate]; show _ + 12 ≤ _; omega) fun s15 n15 => ?_
        have f15 := same_new (o := HO.lst (us ++ List.replicate (12 : Int).toNat v2)) n15
        have g15 : (upd J14 s15 (.lst (us ++ List.replicate (12 : Int).toNat v2))) s15 = some (.lst (us ++ List.replicate (12 : Int).toNat v2)) := upd_same
        have K15 := K14.up f15
        replace g11 := f15 _ _ g11
        replace g12 := f15 _ _ g12
        generalize (upd J14 s15 (.lst (us ++ List.replicate (12 : Int).toNat v2))) = J15 at *
        walk_at "go"
        refine ⟨(by show 4 ≤ sizeLine; decide), fun s16 n16 => ?_⟩
        have f16 := same_new (o := HO.tup [V.ref s11, V.ref s12, V.non, V.ref s15]) n16
        have g16 : (upd J15 s16 (.tup [V.ref s11, V.ref s12, V.non, V.ref s15])) s16 = some (.tup [V.ref s11, V.ref s12, V.non, V.ref s15]) := upd_same
        have hs11 : s11 ≠ h := fun z => by
          obtain ⟨_, _, _, _, e, _⟩ := K15.2.2.2
          rw [← z, g11] at e
          have := HO.lst.inj (Option.some.inj e)
          have := congrArg List.length this
          rw [List.length_take] at this
          have h12 : min 1 bad.length = 4 := this
          omega
        have hs12 : s12 ≠ h := fun z => by
          obtain ⟨_, _, _, _, e, _⟩ := K15.2.2.2
          rw [← z, g12] at e
          cases HO.lst.inj (Option.some.inj e)
        have hs15 : s15 ≠ h := fun z => by
          obtain ⟨_, _, _, _, e, _⟩ := K15.2.2.2
          rw [← z, g15] at e
          have := HO.lst.inj (Option.some.inj e)
          have := congrArg List.length this
          rw [List.length_append, List.length_replicate] at this
          have h12 : us.length + 12 = 4 := this
          omega
        have K16 := K15.up f16
        replace g11 := f16 _ _ g11
        replace g12 := f16 _ _ g12
        replace g15 := f16 _ _ g15
        generalize (upd J15 s16 (.tup [V.ref s11, V.ref s12, V.non, V.ref s15])) = J16 at *
        walk_at "go"
        refine ⟨h, cl, 4, rfl, K16.2.2.2, by decide, by decide, fun ko HK ko0 ko1 kkK hhK => ?_⟩
        have imK := K16.2.2.2.im kkK
        have hodd : ∃ v, [V.ref s11, V.ref s12, V.non, V.ref s15][ko.toNat]? = some v ∧ BadLen HK v := by
          have : ko = 0 ∨ ko = 1 ∨ ko = 2 ∨ ko = 3 := by omega
          rcases this with rfl | rfl | rfl | rfl
          · exact ⟨_, rfl, .inr ⟨s11, _, rfl, .inl (kkK _ _ hs11 g11), .inl (by rw [List.length_take]; omega)⟩⟩
          · exact ⟨_, rfl, .inr ⟨s12, _, rfl, .inl (kkK _ _ hs12 g12), .inl (by decide)⟩⟩
          · exact ⟨_, rfl, .inl rfl⟩
          · exact ⟨_, rfl, .inr ⟨s15, _, rfl, .inl (kkK _ _ hs15 g15), .inr (by rw [List.length_append, List.length_replicate]; show 12 < _ + 12; omega)⟩⟩
        obtain ⟨ov, hov, hbl⟩ := hodd
        refine g_ixTn (j := ko.toNat) (im_tup imK g16) (by omega) hov ?_
        walk_at "go"
        refine ⟨i, fa, ov, rfl, K16.2.2.1.im imK, .inr (.inl ⟨hbl, fun wt3 HL eL hwt3 => ?_⟩)⟩
        walk_at "go"
        refine ⟨(by show 2 ≤ sizeLine; decide), fun s17 n17 => ?_⟩
        have f17 := same_new (o := HO.tup [V.str "taps", V.int 0]) n17
        exact g_eqWord (k := 0) (f17 _ _ hwt3) upd_same (q _)
end
end Kw
/-! products of straight factors: order, cancelling, division, values -/
namespace Kw
section
variable {R : Type} [NumC R]
/-- times a + b t, by coefficients -/
def S2 (F : Nat → R) (x : R × R) : Nat → R
  | 0 => F 0 * x.1
  | k + 1 => F (k + 1) * x.1 + F k * x.2
def S3 (F : Nat → R) (a b c : R) : Nat → R
  | 0 => F 0 * a
  | 1 => F 1 * a + F 0 * b
  | k + 2 => F (k + 2) * a + F (k + 1) * b + F k * c
theorem S2_comm (F : Nat → R) (x y : R × R) : S2 (S2 F x) y = S2 (S2 F y) x := by
  funext k
  match k with
  | 0 => simp only [S2]; grind
  | 1 => simp only [S2]; grind
  | k + 2 => simp only [S2]; grind
theorem S23_comm (F : Nat → R) (x : R × R) (a b c : R) : S3 (S2 F x) a b c = S2 (S3 F a b c) x := by
  funext k
  match k with
  | 0 => simp only [S2, S3]; grind
  | 1 => simp only [S2, S3]; grind
  | 2 => simp only [S2, S3]; grind
  | k + 3 => simp only [S2, S3]; grind
theorem S2_one (F : Nat → R) : S2 F (1, 0) = F := by
  funext k
  match k with
  | 0 => simp only [S2]; grind
  | k + 1 => simp only [S2]; grind
/-- scaled -/
def sc (c : R) (F : Nat → R) : Nat → R := fun k => c * F k
theorem S2_sc (c : R) (F : Nat → R) (x : R × R) : S2 (sc c F) x = sc c (S2 F x) := by
  funext k
  match k with
  | 0 => simp only [S2, sc]; grind
  | k + 1 => simp only [S2, sc]; grind
theorem S2_sc' (c : R) (F : Nat → R) (x : R × R) : S2 F (c * x.1, c * x.2) = sc c (S2 F x) := by
  funext k
  match k with
  | 0 => simp only [S2, sc]; grind
  | k + 1 => simp only [S2, sc]; grind
theorem co_ext {f g : List R} (h : f.length = g.length) (e : co f = co g) : f = g := by
  refine List.ext_getElem? fun k => ?_
  by_cases hk : k < f.length
  · have e1 := congrFun e k
    rw [co_get (List.getElem?_eq_getElem hk), co_get (List.getElem?_eq_getElem (h ▸ hk))] at e1
    rw [List.getElem?_eq_getElem hk, List.getElem?_eq_getElem (h ▸ hk), e1]
  · rw [List.getElem?_eq_none (by omega), List.getElem?_eq_none (by omega)]
theorem cvc_out {F : Nat → R} {n : Nat} (h : ∀ k, n ≤ k → F k = 0) : ∀ (g : List R) (k : Nat), n + g.length ≤ k + 1 → g ≠ [] → cvc F g k = 0
  | [], _, _, hne => absurd rfl hne
  | [b], 0, hk, _ => by
    show F 0 * b = 0
    rw [h 0 (by simpa using hk)]
    grind
  | [b], k + 1, hk, _ => by
    show F (k + 1) * b + 0 = 0
    rw [h (k + 1) (by simpa using hk)]
    grind
  | b :: b' :: g, 0, hk, _ => by
    simp at hk
    omega
  | b :: b' :: g, k + 1, hk, _ => by
    show F (k + 1) * b + cvc F (b' :: g) k = 0
    have h1 := cvc_out h (b' :: g) k (by simp only [List.length_cons] at hk ⊢; omega) (by simp)
    rw [h1, h (k + 1) (by simp only [List.length_cons] at hk; omega)]
    grind
theorem co_conv {f g : List R} (hg : g ≠ []) (k : Nat) : co (conv f g) k = cvc (co f) g k := by
  by_cases hk : k < f.length + g.length - 1
  · exact co_get (conv_get hk)
  · have hp : 0 < g.length := by cases g with
      | nil => exact absurd rfl hg
      | cons a l => simp
    rw [co_out (by rw [conv_len]; omega), cvc_out (n := f.length) (fun k hk => co_out hk) g k (by omega) hg]
theorem co_conv2 (f : List R) (a b : R) : co (conv f [a, b]) = S2 (co f) (a, b) := by
  funext k
  rw [co_conv (by simp)]
  match k with
  | 0 => rfl
  | 1 => rfl
  | k + 2 =>
    show co f (k + 2) * a + (co f (k + 1) * b + 0) = co f (k + 2) * a + co f (k + 1) * b
    grind
theorem co_conv3 (f : List R) (a b c : R) : co (conv f [a, b, c]) = S3 (co f) a b c := by
  funext k
  rw [co_conv (by simp)]
  match k with
  | 0 => rfl
  | 1 => rfl
  | 2 =>
    show co f 2 * a + (co f 1 * b + co f 0 * c) = co f 2 * a + co f 1 * b + co f 0 * c
    grind
  | k + 3 =>
    show co f (k + 3) * a + (co f (k + 2) * b + (co f (k + 1) * c + 0)) = co f (k + 3) * a + co f (k + 2) * b + co f (k + 1) * c
    grind
/-- the product of couples, from f on -/
def prodL (l : List (R × R)) (f : List R) : List R := l.foldl (fun f x => conv f [x.1, x.2]) f
def prodF (l : List (R × R)) (F : Nat → R) : Nat → R := l.foldl S2 F
theorem prodL_len : ∀ (l : List (R × R)) (f : List R), (prodL l f).length = f.length + l.length
  | [], f => rfl
  | x :: l, f => by
    have h := prodL_len l (conv f [x.1, x.2])
    show (prodL l (conv f [x.1, x.2])).length = _
    rw [h, conv_len]
    simp only [List.length_cons, List.length_nil]
    omega
theorem co_prod : ∀ (l : List (R × R)) (f : List R), co (prodL l f) = prodF l (co f)
  | [], f => rfl
  | x :: l, f => by
    have h := co_prod l (conv f [x.1, x.2])
    show co (prodL l (conv f [x.1, x.2])) = prodF l (S2 (co f) x)
    rw [h, co_conv2]
theorem prodF_app (l m : List (R × R)) (F : Nat → R) : prodF (l ++ m) F = prodF m (prodF l F) := List.foldl_append
theorem prodF_perm {l m : List (R × R)} (h : l.Perm m) (F : Nat → R) : prodF l F = prodF m F := h.foldl_eq' (fun x _ y _ z => S2_comm z x y) F
theorem prodF_S2 (l : List (R × R)) (F : Nat → R) (x : R × R) : prodF l (S2 F x) = S2 (prodF l F) x := by
  have h := prodF_perm (l := x :: l) (m := l ++ [x]) (List.perm_append_comm (l₁ := [x]) (l₂ := l)) F
  rw [prodF_app] at h
  exact h
theorem prodF_S3 : ∀ (l : List (R × R)) (F : Nat → R) (a b c : R), S3 (prodF l F) a b c = prodF l (S3 F a b c)
  | [], _, _, _, _ => rfl
  | x :: l, F, a, b, c => by
    have h := prodF_S3 l (S2 F x) a b c
    show S3 (prodF l (S2 F x)) a b c = prodF l (S2 (S3 F a b c) x)
    rw [h, S23_comm]
theorem prodF_sc (c : R) : ∀ (l : List (R × R)) (F : Nat → R), prodF l (sc c F) = sc c (prodF l F)
  | [], _ => rfl
  | x :: l, F => by
    have h := prodF_sc c l (S2 F x)
    show prodF l (S2 (sc c F) x) = sc c (prodF l (S2 F x))
    rw [S2_sc, h]
theorem prodF_ones : ∀ (n : Nat) (F : Nat → R), prodF (List.replicate n (1, 0)) F = F
  | 0, _ => rfl
  | n + 1, F => by
    have h := prodF_ones n (S2 F (1, 0))
    show prodF (List.replicate n (1, 0)) (S2 F (1, 0)) = F
    rw [h, S2_one]
/-- divided by t - r -/
theorem co_drop_ev (f : List R) (r : R) (k : Nat) : ev (f.drop k) r = ev (f.drop (k + 1)) r * r + co f k := by
  by_cases hk : k < f.length
  · rw [co_get (List.getElem?_eq_getElem hk)]
    exact ev_drop f r k _ (List.getElem?_eq_getElem hk)
  · rw [List.drop_eq_nil_of_le (by omega), List.drop_eq_nil_of_le (by omega), co_out (by omega)]
    simp only [ev]
    grind
theorem co_quot (f : List R) (r : R) (k : Nat) : co (quot r f) k = ev (f.drop (k + 1)) r := by
  by_cases hk : k + 1 < f.length
  · exact co_get (quot_get r f k hk)
  · rw [co_out (by rw [quot_len]; omega), List.drop_eq_nil_of_le (by omega)]
    rfl
theorem quot_S2 {f : List R} {r : R} (h0 : ev f r = 0) : co f = S2 (co (quot r f)) (-r, 1) := by
  funext k
  match k with
  | 0 =>
    show co f 0 = co (quot r f) 0 * (-r)
    have h := co_drop_ev f r 0
    rw [List.drop_zero, h0] at h
    rw [co_quot]
    grind
  | k + 1 =>
    show co f (k + 1) = co (quot r f) (k + 1) * (-r) + co (quot r f) k * 1
    rw [co_quot, co_quot, co_drop_ev f r (k + 1)]
    grind
theorem divOut_prod {r : R} : ∀ (m : Nat) (f : List R), f.length = m → Led f → co f = prodF (List.replicate (divOut r f.length f).2 (-r, 1)) (co (divOut r f.length f).1)
  | 0, f, hm, hl => absurd hl.pos (by omega)
  | m + 1, f, hm, hl => by
    by_cases h0 : ev f r = 0
    · have h2 : 2 ≤ f.length := by
        by_cases h1 : f.length = 1
        · exact absurd h0 (led_one hl h1)
        · omega
      have hq : (quot r f).length = m := by rw [quot_len]; omega
      have ih := divOut_prod (r := r) m (quot r f) hq (quot_led hl h2)
      rw [hq] at ih
      rw [hm]
      have e : divOut r (m + 1) f = ((divOut r m (quot r f)).1, (divOut r m (quot r f)).2 + 1) := if_pos h0
      rw [e]
      show co f = prodF (List.replicate (divOut r m (quot r f)).2 (-r, 1)) (S2 (co (divOut r m (quot r f)).1) (-r, 1))
      rw [prodF_S2, ← ih, ← quot_S2 h0]
    · rw [hm]
      have e : divOut r (m + 1) f = (f, 0) := if_neg h0
      rw [e]
      rfl
theorem divOut_led {r : R} : ∀ (m : Nat) (f : List R), f.length = m → Led f → Led (divOut r f.length f).1 ∧ ev (divOut r f.length f).1 r ≠ 0 ∧ (divOut r f.length f).1.length + (divOut r f.length f).2 = f.length
  | 0, f, hm, hl => absurd hl.pos (by omega)
  | m + 1, f, hm, hl => by
    by_cases h0 : ev f r = 0
    · have h2 : 2 ≤ f.length := by
        by_cases h1 : f.length = 1
        · exact absurd h0 (led_one hl h1)
        · omega
      have hq : (quot r f).length = m := by rw [quot_len]; omega
      obtain ⟨i1, i2, i3⟩ := divOut_led (r := r) m (quot r f) hq (quot_led hl h2)
      rw [hq] at i1 i2 i3
      rw [hm]
      have e : divOut r (m + 1) f = ((divOut r m (quot r f)).1, (divOut r m (quot r f)).2 + 1) := if_pos h0
      rw [e]
      refine ⟨i1, i2, ?_⟩
      show (divOut r m (quot r f)).1.length + ((divOut r m (quot r f)).2 + 1) = m + 1
      omega
    · rw [hm]
      have e : divOut r (m + 1) f = (f, 0) := if_neg h0
      rw [e]
      exact ⟨hl, h0, hm⟩
/-! values by coefficients -/
def evF (F : Nat → R) : Nat → R → R
  | 0, _ => 0
  | n + 1, x => F 0 + x * evF (fun k => F (k + 1)) n x
theorem ev_evF : ∀ (f : List R) (x : R), ev f x = evF (co f) f.length x
  | [], _ => rfl
  | c :: t, x => by
    have h := ev_evF t x
    show ev t x * x + c = c + x * evF (fun k => co t k) t.length x
    rw [h]
    show evF (co t) t.length x * x + c = c + x * evF (co t) t.length x
    grind
def S2p (p : R) (F : Nat → R) (x : R × R) : Nat → R
  | 0 => p + F 0 * x.1
  | k + 1 => F (k + 1) * x.1 + F k * x.2
theorem evF_S2p (a b x : R) : ∀ (n : Nat) (F : Nat → R) (p : R), (∀ k, n ≤ k → F k = 0) → evF (S2p p F (a, b)) (n + 1) x = p + evF F n x * (a + b * x)
  | 0, F, p, h => by
    show p + F 0 * a + x * 0 = p + 0 * (a + b * x)
    rw [h 0 (Nat.le_refl _)]
    grind
  | n + 1, F, p, h => by
    have e : (fun k => S2p p F (a, b) (k + 1)) = S2p (F 0 * b) (fun k => F (k + 1)) (a, b) := by
      funext k
      match k with
      | 0 => show F 1 * a + F 0 * b = F 0 * b + F 1 * a; grind
      | k + 1 => rfl
    have ih := evF_S2p a b x n (fun k => F (k + 1)) (F 0 * b) fun k hk => h (k + 1) (by omega)
    show p + F 0 * a + x * evF (fun k => S2p p F (a, b) (k + 1)) (n + 1) x = p + (F 0 + x * evF (fun k => F (k + 1)) n x) * (a + b * x)
    rw [e, ih]
    grind
theorem S2p_zero (F : Nat → R) (x : R × R) : S2 F x = S2p 0 F x := by
  funext k
  match k with
  | 0 => simp only [S2, S2p]; grind
  | k + 1 => rfl
theorem ev_conv2 (f : List R) (a b x : R) : ev (conv f [a, b]) x = ev f x * (a + b * x) := by
  rw [ev_evF, co_conv2, conv_len, ev_evF f, S2p_zero]
  show evF (S2p 0 (co f) (a, b)) (f.length + 1) x = _
  rw [evF_S2p a b x f.length (co f) 0 fun k hk => co_out hk]
  grind
/-- cancelling -/
theorem cancel {F G : Nat → R} {n : Nat} {r : R} (hF : ∀ k, n ≤ k → F k = 0) (hG : ∀ k, n ≤ k → G k = 0) (h : S2 F (-r, 1) = S2 G (-r, 1)) : F = G := by
  have key : ∀ d k, n ≤ k + d → F k = G k := by
    intro d
    induction d with
    | zero =>
      intro k hk
      rw [hF k hk, hG k hk]
    | succ d ih =>
      intro k hk
      have e := congrFun h (k + 1)
      have e1 := ih (k + 1) (by omega)
      simp only [S2] at e
      rw [e1] at e
      grind
  funext k
  exact key n k (by omega)
end
end Kw
set_option maxHeartbeats 4000000
namespace Kw
section
variable {R : Type} [NumC R]
/-! ### the parts' product -/
def lin (r : R) : R × R := (-r, 1)
theorem flatC_found (told : List (R × Nat)) : flatC told = (foundF told).map lin := by
  unfold flatC foundF
  rw [List.map_flatMap]
  congr 1
  funext x
  rw [List.map_replicate]
  rfl
theorem ev_prod_zero {x : R} : ∀ (l : List (R × R)) (f : List R), ev f x = 0 → ev (prodL l f) x = 0
  | [], _, h => h
  | c :: l, f, h => ev_prod_zero l (conv f [c.1, c.2]) (by rw [ev_conv2, h]; grind)
theorem partF_prod : ∀ (rs g : List R), Led g → co g = prodF (flatC (partF g rs).2) (co (partF g rs).1) ∧ Led (partF g rs).1 ∧ (partF g rs).1.length + (flatC (partF g rs).2).length = g.length ∧ (∀ r, ev (partF g rs).1 r = 0 → ev g r = 0) ∧ ∀ r ∈ rs, ev (partF g rs).1 r ≠ 0
  | [], g, hl => ⟨rfl, hl, rfl, fun _ h => h, fun r hr => by cases hr⟩
  | r :: rs, g, hl => by
    obtain ⟨d1, d2, d3⟩ := divOut_led (r := r) _ g rfl hl
    have d4 := divOut_prod (r := r) _ g rfl hl
    obtain ⟨i1, i2, i3, i4, i5⟩ := partF_prod rs (divOut r g.length g).1 d1
    have hroot : ∀ x, ev (partF (divOut r g.length g).1 rs).1 x = 0 → ev g x = 0 := by
      intro x hx
      have hk := i4 x hx
      have hg : g = prodL (List.replicate (divOut r g.length g).2 (-r, 1)) (divOut r g.length g).1 := by
        refine co_ext ?_ ?_
        · rw [prodL_len, List.length_replicate, d3]
        · rw [co_prod]
          exact d4
      rw [hg]
      exact ev_prod_zero _ _ hk
    have hfl : flatC (partF g (r :: rs)).2 = List.replicate (divOut r g.length g).2 (-r, 1) ++ flatC (partF (divOut r g.length g).1 rs).2 := rfl
    refine ⟨?_, i2, ?_, hroot, fun x hx hz => ?_⟩
    · rw [hfl, prodF_perm List.perm_append_comm, prodF_app]
      show co g = prodF _ (prodF (flatC (partF (divOut r g.length g).1 rs).2) (co (partF (divOut r g.length g).1 rs).1))
      rw [← i1]
      exact d4
    · rw [hfl, List.length_append, List.length_replicate]
      show (partF (divOut r g.length g).1 rs).1.length + _ = _
      omega
    · rcases List.mem_cons.mp hx with rfl | hx
      · exact d2 (i4 _ hz)
      · exact i5 x hx hz
theorem partF_filter (p : R → Bool) : ∀ (l g : List R), Led g → (∀ r, ev g r = 0 → p r = true) → (partF g (l.filter p)).1 = (partF g l).1 ∧ foundF (partF g (l.filter p)).2 = foundF (partF g l).2
  | [], _, _, _ => ⟨rfl, rfl⟩
  | r :: l, g, hl, h => by
    obtain ⟨d1, d2, d3⟩ := divOut_led (r := r) _ g rfl hl
    by_cases hp : p r = true
    · have hroots : ∀ x, ev (divOut r g.length g).1 x = 0 → p x = true := by
        intro x hx
        exact h x ((partF_prod [r] g hl).2.2.2.1 x hx)
      obtain ⟨i1, i2⟩ := partF_filter p l (divOut r g.length g).1 d1 hroots
      rw [List.filter_cons, if_pos hp]
      refine ⟨i1, ?_⟩
      show List.replicate _ r ++ foundF (partF (divOut r g.length g).1 (l.filter p)).2 = List.replicate _ r ++ foundF (partF (divOut r g.length g).1 l).2
      rw [i2]
    · have hne : ev g r ≠ 0 := fun z => hp (h r z)
      have hd := divOut_stop hne
      obtain ⟨i1, i2⟩ := partF_filter p l g hl h
      rw [List.filter_cons, if_neg hp]
      have e1 : (partF g (r :: l)).1 = (partF g l).1 := by
        show (partF (divOut r g.length g).1 l).1 = _
        rw [hd]
      have e2 : foundF (partF g (r :: l)).2 = foundF (partF g l).2 := by
        show List.replicate (divOut r g.length g).2 r ++ foundF (partF (divOut r g.length g).1 l).2 = _
        rw [hd]
        rfl
      rw [e1, e2]
      exact ⟨i1, i2⟩
/-- the couples' product -/
theorem head_prod (c : R) : ∀ (l : List (R × R)) (F : Nat → R), l ≠ [] → prodF (headMul c l) F = sc c (prodF l F)
  | [], _, h => absurd rfl h
  | (a, b) :: l, F, _ => by
    show prodF l (S2 F (c * a, c * b)) = sc c (prodF l (S2 F (a, b)))
    rw [S2_sc' c F (a, b), prodF_sc]
theorem headMul_len (c : R) : ∀ l : List (R × R), (headMul c l).length = l.length
  | [] => rfl
  | (a, b) :: l => rfl
theorem co_take {xs : List R} {m : Nat} (h : TrimAt xs m) : co (xs.take m) = co xs := by
  funext k
  by_cases hk : k < m
  · unfold co
    rw [List.getD_eq_getElem?_getD, List.getD_eq_getElem?_getD, List.getElem?_take, if_pos hk]
  · rw [co_out (by rw [List.length_take]; omega)]
    by_cases hx : k < xs.length
    · exact (co_get (h.2.1 k (by omega) hx)).symm
    · rw [co_out (by omega)]
/-- the whole product is the taps -/
theorem whole_prod {xs : List R} {m : Nat} {c : R} {L : List R} (ht : TrimAt xs m) (h2 : 2 ≤ xs.length) (hL : L.length ≤ xs.length - 1) (h : co (xs.take m) = prodF (L.map lin) (co [c])) :
    (dueL xs.length c L).foldl (fun f x => conv f [x.1, x.2]) [1] = xs := by
  have hl : (dueL xs.length c L).length = xs.length - 1 := by
    unfold dueL
    rw [headMul_len, List.length_append, List.length_map, List.length_replicate]
    omega
  show prodL (dueL xs.length c L) [1] = xs
  refine co_ext ?_ ?_
  · rw [prodL_len, hl, show ([1] : List R).length = 1 from rfl]
    omega
  · rw [co_prod, ← co_take ht, h]
    have hne : ((L.map fun r => ((0 : R) - r, (1 : R))) ++ List.replicate (xs.length - 1 - L.length) ((1 : R), (0 : R))) ≠ [] := by
      intro z
      have := congrArg List.length z
      rw [List.length_append, List.length_map, List.length_replicate, show ([] : List (R × R)).length = 0 from rfl] at this
      omega
    unfold dueL
    have e1 : (L.map fun r => ((0 : R) - r, (1 : R))) = L.map lin := by
      refine List.map_congr_left fun r _ => ?_
      show ((0 : R) - r, (1 : R)) = (-r, 1)
      congr 1
      grind
    rw [head_prod _ _ _ hne, prodF_app, prodF_ones, e1, ← prodF_sc]
    congr 1
    funext k
    match k with
    | 0 =>
      show c * (1 : R) = c
      grind
    | k + 1 =>
      show c * (0 : R) = 0
      grind
theorem trim_ex : ∀ xs : List R, ∃ m, TrimAt xs m := by
  intro xs
  have key : ∀ n, n ≤ xs.length → (∀ i, n ≤ i → i < xs.length → xs[i]? = some 0) → ∃ m, TrimAt xs m := by
    intro n
    induction n with
    | zero => exact fun _ h => ⟨0, Nat.zero_le _, h, .inl rfl⟩
    | succ n ih =>
      intro hn h
      by_cases hz : xs[n]? = some 0
      · refine ih (by omega) fun i h1 h2 => ?_
        by_cases e : i = n
        · rw [e]
          exact hz
        · exact h i (by omega) h2
      · refine ⟨n + 1, hn, h, .inr ⟨xs[n]'(by omega), List.getElem?_eq_getElem (by omega), fun z => hz ?_⟩⟩
        rw [List.getElem?_eq_getElem (by omega), z]
  exact key xs.length (Nat.le_refl _) fun i h1 h2 => by omega
end
end Kw
set_option maxHeartbeats 4000000
namespace Kw
section
variable {R : Type} [NumC R]
theorem divOut_last {r : R} : ∀ (m : Nat) (f : List R), f.length = m → Led f → (divOut r f.length f).1.getLast? = f.getLast?
  | 0, f, hm, hl => absurd hl.pos (by omega)
  | m + 1, f, hm, hl => by
    by_cases h0 : ev f r = 0
    · have h2 : 2 ≤ f.length := by
        by_cases h1 : f.length = 1
        · exact absurd h0 (led_one hl h1)
        · omega
      have hq : (quot r f).length = m := by rw [quot_len]; omega
      have ih := divOut_last (r := r) m (quot r f) hq (quot_led hl h2)
      rw [hq] at ih
      rw [hm]
      have e : divOut r (m + 1) f = ((divOut r m (quot r f)).1, (divOut r m (quot r f)).2 + 1) := if_pos h0
      rw [e]
      exact ih.trans (quot_last r f h2)
    · rw [hm]
      have e : divOut r (m + 1) f = (f, 0) := if_neg h0
      rw [e]
theorem partF_last : ∀ (rs g : List R), Led g → (partF g rs).1.getLast? = g.getLast?
  | [], _, _ => rfl
  | r :: rs, g, hl => (partF_last rs _ (divOut_led (r := r) _ g rfl hl).1).trans (divOut_last _ g rfl hl)
theorem couF_due (n : Nat) (c : R) (told : List (R × Nat)) : couF n c told = dueL n c (foundF told) := by
  unfold couF dueL
  rw [flatC_found, List.length_map]
  congr 2
  refine List.map_congr_left fun r _ => ?_
  show (-r, (1 : R)) = (0 - r, 1)
  congr 1
  grind
theorem zero_prod {xs : List R} (ht : TrimAt xs 0) (h2 : 2 ≤ xs.length) : ((0, 0) :: List.replicate (xs.length - 2) ((1 : R), (0 : R))).foldl (fun f x => conv f [x.1, x.2]) [1] = xs := by
  show prodL ((0, 0) :: List.replicate (xs.length - 2) ((1 : R), (0 : R))) [1] = xs
  refine co_ext ?_ ?_
  · rw [prodL_len]
    simp only [List.length_cons, List.length_replicate, List.length_nil]
    omega
  · rw [co_prod, ← co_take ht]
    show prodF (List.replicate (xs.length - 2) (1, 0)) (S2 (co [1]) (0, 0)) = co []
    rw [prodF_ones]
    funext k
    match k with
    | 0 => show co [1] 0 * 0 = (0 : R); grind
    | k + 1 => show co [1] (k + 1) * 0 + co [1] k * 0 = (0 : R); grind
theorem rest_one {g : List R} {rest : List R} {c : R} (hlast : rest.getLast? = g.getLast?) (hg : g.getLast? = some c) (h1 : rest.length = 1) : rest = [c] := by
  match rest, h1 with
  | [d], _ =>
    rw [hg] at hlast
    have : d = c := Option.some.inj hlast
    rw [this]
theorem take_last {xs : List R} {m : Nat} {c : R} (hm : m ≠ 0) (hl : m ≤ xs.length) (hc : xs[m - 1]? = some c) : (xs.take m).getLast? = some c := by
  rw [List.getLast?_eq_getElem?, List.length_take, List.getElem?_take, if_pos (by omega), show min m xs.length - 1 = m - 1 by omega]
  exact hc
theorem trim_c {xs : List R} {m : Nat} (h : TrimAt xs m) : ∃ c, m ≠ 0 → xs[m - 1]? = some c ∧ c ≠ 0 := by
  by_cases hm : m = 0
  · exact ⟨0, fun z => absurd hm z⟩
  · rcases h.2.2 with h | ⟨c, h1, h2⟩
    · exact absurd h hm
    · exact ⟨c, fun _ => ⟨h1, h2⟩⟩
theorem due_head {n : Nat} {c : R} {L : List R} (hn : 2 ≤ n) (hL : L.length ≤ n - 1) (hc : NumC.Bd 100 c) (hB : Bds 1 L) : ∃ x0 ct, dueL n c L = x0 :: ct ∧ NumC.Bd 101 x0.1 ∧ NumC.Bd 101 x0.2 ∧ ∀ x ∈ ct, NumC.Bd 1 x.1 ∧ NumC.Bd 1 x.2 := by
  have hbd : ∀ x ∈ (L.map fun r => ((0 : R) - r, (1 : R))) ++ List.replicate (n - 1 - L.length) ((1 : R), (0 : R)), NumC.Bd 1 x.1 ∧ NumC.Bd 1 x.2 := by
    intro x hx
    rcases List.mem_append.mp hx with h | h
    · obtain ⟨r, hr, rfl⟩ := List.mem_map.mp h
      have e : (0 : R) - r = -r := by grind
      refine ⟨?_, NumC.bd_mono (Nat.zero_le _) NumC.bd_1⟩
      show NumC.Bd 1 (0 - r)
      rw [e]
      exact NumC.bd_neg (hB r hr)
    · rw [(List.mem_replicate.mp h).2]
      exact ⟨NumC.bd_mono (Nat.zero_le _) NumC.bd_1, NumC.bd_mono (Nat.zero_le _) NumC.bd_0⟩
  have hlen : ((L.map fun r => ((0 : R) - r, (1 : R))) ++ List.replicate (n - 1 - L.length) ((1 : R), (0 : R))).length = n - 1 := by
    rw [List.length_append, List.length_replicate, List.length_map]
    omega
  unfold dueL
  generalize (L.map fun r => ((0 : R) - r, (1 : R))) ++ List.replicate (n - 1 - L.length) ((1 : R), (0 : R)) = cs at *
  cases cs with
  | nil =>
    simp at hlen
    omega
  | cons x ct =>
    obtain ⟨a, b⟩ := x
    obtain ⟨h1, h2⟩ := hbd (a, b) (List.mem_cons_self ..)
    exact ⟨_, ct, rfl, NumC.bd_times (m := 1) hc h1, NumC.bd_times (m := 1) hc h2, fun y hy => hbd y (List.mem_cons_of_mem _ hy)⟩
theorem dueL_len {n : Nat} {c : R} {L : List R} (hL : L.length ≤ n - 1) : (dueL n c L).length = n - 1 := by
  unfold dueL
  rw [headMul_len, List.length_append, List.length_map, List.length_replicate]
  omega
end
/-! ### the rests -/
theorem plF {n : Nat} [NeZero n] (xs : List (Fin n)) (o : Option (List (Fin n))) (h2 : 2 ≤ xs.length) (h12 : xs.length ≤ 12) : ∃ (m : Nat) (c : Fin n), TrimAt xs m ∧ (m ≠ 0 → xs[m - 1]? = some c ∧ c ≠ 0 ∧ (∀ r, ev (xs.take m) r = 0 → NumC.Bd 1 r) ∧ True) ∧
    (∀ rs, (m ≠ 0 → GoodF (xs.take m) rs) → apF xs m c rs = dueF LSF xs m c o) ∧
    (∀ cs, dueF LSF xs m c o = some cs → cs.foldl (fun f x => conv f [x.1, x.2]) [1] = xs ∧ cs.length = xs.length - 1 ∧ ∃ x0 ct, cs = x0 :: ct ∧ NumC.Bd 101 x0.1 ∧ NumC.Bd 101 x0.2 ∧ ∀ x ∈ ct, NumC.Bd 1 x.1 ∧ NumC.Bd 1 x.2) := by
  obtain ⟨m, ht⟩ := trim_ex xs
  obtain ⟨c, hc⟩ := trim_c ht
  refine ⟨m, c, ht, fun z => ⟨(hc z).1, (hc z).2, fun _ _ => trivial, trivial⟩, ?_, ?_⟩
  · intro rs hrs
    by_cases hm : m = 0
    · subst hm
      rfl
    · have hlast := take_last hm ht.1 (hc hm).1
      have hled : Led (xs.take m) := ⟨c, hlast, (hc hm).2⟩
      have hr := hrs hm
      have hf := partF_filter (fun r => decide (ev (xs.take m) r = 0)) (List.finRange n) (xs.take m) hled (fun r h => decide_eq_true h)
      have hpp := partF_prod (List.finRange n) (xs.take m) hled
      have e1 : apF xs m c rs = if 1 < (partF (xs.take m) rs).1.length then none else some (couF xs.length c (partF (xs.take m) rs).2) := if_neg hm
      have e2 : dueF LSF xs m c o = (LSF (xs.take m) o).map (dueL xs.length c) := if_neg hm
      have e3 : LSF (xs.take m) o = if (foundF (partF (xs.take m) (List.finRange n)).2).length = (xs.take m).length - 1 then some (foundF (partF (xs.take m) (List.finRange n)).2) else none := rfl
      rw [e1, e2, e3, couF_due]
      have er : rs = (List.finRange n).filter fun r => decide (ev (xs.take m) r = 0) := hr
      rw [er, hf.1, hf.2]
      have hlen := hpp.2.2.1
      rw [flatC_found, List.length_map] at hlen
      have hpos := hpp.2.1.pos
      by_cases h1 : 1 < (partF (xs.take m) (List.finRange n)).1.length
      · rw [if_pos h1, if_neg (by omega)]
        rfl
      · rw [if_neg h1, if_pos (by omega)]
        rfl
  · intro cs hcs
    by_cases hm : m = 0
    · subst hm
      have e : dueF LSF xs 0 c o = some ((0, 0) :: List.replicate (xs.length - 2) (1, 0)) := if_pos rfl
      rw [e] at hcs
      have := Option.some.inj hcs
      subst this
      refine ⟨zero_prod ht h2, by rw [List.length_cons, List.length_replicate]; omega, _, _, rfl, trivial, trivial, fun _ _ => ⟨trivial, trivial⟩⟩
    · have hlast := take_last hm ht.1 (hc hm).1
      have hled : Led (xs.take m) := ⟨c, hlast, (hc hm).2⟩
      have hpp := partF_prod (List.finRange n) (xs.take m) hled
      have hpl := partF_last (List.finRange n) (xs.take m) hled
      have e2 : dueF LSF xs m c o = (LSF (xs.take m) o).map (dueL xs.length c) := if_neg hm
      have e3 : LSF (xs.take m) o = if (foundF (partF (xs.take m) (List.finRange n)).2).length = (xs.take m).length - 1 then some (foundF (partF (xs.take m) (List.finRange n)).2) else none := rfl
      rw [e2, e3] at hcs
      have hlen := hpp.2.2.1
      have hprod := hpp.1
      rw [flatC_found] at hlen hprod
      rw [List.length_map] at hlen
      have htl : (xs.take m).length ≤ xs.length := by rw [List.length_take]; omega
      by_cases h1 : (foundF (partF (xs.take m) (List.finRange n)).2).length = (xs.take m).length - 1
      · rw [if_pos h1] at hcs
        have := Option.some.inj hcs
        subst this
        have hpos := hpp.2.1.pos
        have hr1 := rest_one hpl hlast (by omega)
        rw [hr1] at hprod
        exact ⟨whole_prod ht h2 (by omega) hprod, dueL_len (by omega), due_head h2 (by omega) trivial fun _ _ => trivial⟩
      · rw [if_neg h1] at hcs
        cases hcs
end Kw
set_option maxHeartbeats 4000000
namespace Kw
theorem qmul {a b : Rat} (h : a * b = 0) : a = 0 ∨ b = 0 := Rat.mul_eq_zero.mp h
theorem ev_lin {x : Rat} : ∀ (A f : List Rat), ev (prodL (A.map lin) f) x = 0 ↔ ev f x = 0 ∨ x ∈ A
  | [], f => by simp [prodL]
  | a :: A, f => by
    have h := ev_lin (x := x) A (conv f [-a, 1])
    show ev (prodL (A.map lin) (conv f [-a, 1])) x = 0 ↔ _
    rw [h, ev_conv2, List.mem_cons]
    constructor
    · rintro (h | h)
      · rcases qmul h with h | h
        · exact .inl h
        · exact .inr (.inl (by grind))
      · exact .inr (.inr h)
    · rintro (h | h | h)
      · exact .inl (by rw [h]; grind)
      · exact .inl (by rw [h]; grind)
      · exact .inr h
theorem prod_out (l : List (Rat × Rat)) (f : List Rat) {k : Nat} (h : f.length + l.length ≤ k) : prodF l (co f) k = 0 := by
  rw [← co_prod]
  exact co_out (by rw [prodL_len]; exact h)
theorem uniq : ∀ (A L : List Rat) (S : Rat) (rest : List Rat), (∀ r, ev rest r ≠ 0) → 1 ≤ rest.length → 1 + A.length = rest.length + L.length → prodF (A.map lin) (co [S]) = prodF (L.map lin) (co rest) → A.Perm L
  | [], L, S, rest, hr, h1, hl, h => by
    have : L.length = 0 := by simp at hl; omega
    rw [List.length_eq_zero_iff.mp this]
  | a :: A, L, S, rest, hr, h1, hl, h => by
    have hlist : prodL ((a :: A).map lin) [S] = prodL (L.map lin) rest := by
      refine co_ext ?_ ?_
      · rw [prodL_len, prodL_len, List.length_map, List.length_map]
        exact hl
      · rw [co_prod, co_prod]
        exact h
    have hz : ev (prodL ((a :: A).map lin) [S]) a = 0 := (ev_lin (a :: A) [S]).mpr (.inr (List.mem_cons_self ..))
    rw [hlist] at hz
    have ha : a ∈ L := ((ev_lin L rest).mp hz).resolve_left (hr a)
    have hp := List.perm_cons_erase ha
    have hlen := hp.length_eq
    rw [List.length_cons] at hlen hl
    have e1 : prodF ((a :: A).map lin) (co [S]) = S2 (prodF (A.map lin) (co [S])) (-a, 1) := prodF_S2 (A.map lin) (co [S]) (lin a)
    have e2 : prodF (L.map lin) (co rest) = S2 (prodF ((L.erase a).map lin) (co rest)) (-a, 1) := by
      rw [prodF_perm (hp.map lin)]
      exact prodF_S2 ((L.erase a).map lin) (co rest) (lin a)
    rw [e1, e2] at h
    have hc := cancel (n := 1 + A.length + rest.length + L.length) (fun k hk => prod_out _ _ (by rw [List.length_map]; simp only [List.length_cons, List.length_nil]; omega)) (fun k hk => prod_out _ _ (by rw [List.length_map]; omega)) h
    have ih := uniq A (L.erase a) S rest hr h1 (by omega) hc
    exact (ih.cons a).trans hp.symm
theorem lead_prod : ∀ (A : List Rat) (F : Nat → Rat) (n : Nat), (∀ k, n < k → F k = 0) → prodF (A.map lin) F (n + A.length) = F n
  | [], _, _, _ => rfl
  | a :: A, F, n, h => by
    have ih := lead_prod A (S2 F (lin a)) (n + 1) fun k hk => by
      obtain ⟨j, rfl⟩ : ∃ j, k = j + 1 := ⟨k - 1, by omega⟩
      show F (j + 1) * (-a) + F j * 1 = 0
      rw [h (j + 1) (by omega), h j (by omega)]
      grind
    show prodF (A.map lin) (S2 F (lin a)) (n + (A.length + 1)) = F n
    rw [show n + (A.length + 1) = n + 1 + A.length by omega, ih]
    show F (n + 1) * (-a) + F n * 1 = F n
    rw [h (n + 1) (by omega)]
    grind
/-! ### made taps -/
def shareP : List (Option Rat × Rat) → Rat
  | [] => 1
  | c :: cs => c.2 * shareP cs
theorem shareP_ne : ∀ cs : List (Option Rat × Rat), ChOk cs → shareP cs ≠ 0
  | [], _ => by show (1 : Rat) ≠ 0; grind
  | c :: cs, h => fun z => by
    rcases qmul z with h1 | h1
    · exact (h c (List.mem_cons_self ..)).1 h1
    · exact shareP_ne cs (fun x hx => h x (List.mem_cons_of_mem _ hx)) h1
theorem sc_sc (a b : Rat) (F : Nat → Rat) : sc a (sc b F) = sc (b * a) F := by
  funext k
  show a * (b * F k) = b * a * F k
  grind
theorem cpl_conv (f : List Rat) (c : Option Rat × Rat) : co (conv f (cplF c)) = sc c.2 (prodF ((c.1.toList).map lin) (co f)) := by
  unfold cplF
  cases hc : c.1 with
  | none =>
    show co (conv f [c.2 * 1, c.2 * 0]) = sc c.2 (co f)
    rw [co_conv2, S2_sc' c.2 (co f) (1, 0), S2_one]
  | some r =>
    show co (conv f [c.2 * (0 - r), c.2 * 1]) = sc c.2 (S2 (co f) (lin r))
    rw [co_conv2]
    have e : ((0 : Rat) - r, (1 : Rat)) = lin r := by
      show ((0 : Rat) - r, (1 : Rat)) = (-r, 1)
      congr 1
      grind
    rw [← e]
    exact S2_sc' c.2 (co f) (0 - r, 1)
theorem made_from : ∀ (cs : List (Option Rat × Rat)) (f : List Rat), co (cs.foldl (fun f c => conv f (cplF c)) f) = sc (shareP cs) (prodF ((drawnF cs).map lin) (co f))
  | [], f => by
    funext k
    show co f k = 1 * co f k
    grind
  | c :: cs, f => by
    have h := made_from cs (conv f (cplF c))
    show co (cs.foldl (fun f c => conv f (cplF c)) (conv f (cplF c))) = _
    rw [h, cpl_conv, prodF_sc, sc_sc]
    show sc (c.2 * shareP cs) _ = sc (c.2 * shareP cs) _
    congr 1
    have hd : drawnF (c :: cs) = c.1.toList ++ drawnF cs := by
      unfold drawnF
      cases hc : c.1 <;> simp [List.filterMap, hc]
    rw [hd, List.map_append, prodF_app]
theorem made_co (cs : List (Option Rat × Rat)) : co (madeF cs) = prodF ((drawnF cs).map lin) (co [shareP cs]) := by
  have h := made_from cs [1]
  show co (cs.foldl (fun f c => conv f (cplF c)) [1]) = _
  rw [h, ← prodF_sc]
  congr 1
  funext k
  match k with
  | 0 => show shareP cs * (1 : Rat) = shareP cs; grind
  | k + 1 => show shareP cs * (0 : Rat) = 0; grind
theorem made_len (cs : List (Option Rat × Rat)) : (madeF cs).length = cs.length + 1 := by
  have key : ∀ (cs : List (Option Rat × Rat)) (f : List Rat), (cs.foldl (fun f c => conv f (cplF c)) f).length = f.length + cs.length := by
    intro cs
    induction cs with
    | nil => exact fun f => rfl
    | cons c cs ih =>
      intro f
      show (cs.foldl (fun f c => conv f (cplF c)) (conv f (cplF c))).length = _
      rw [ih, conv_len, cplF_len, List.length_cons]
      omega
  have h := key cs [1]
  show (cs.foldl (fun f c => conv f (cplF c)) [1]).length = _
  rw [h]
  show 1 + cs.length = _
  omega
theorem drawn_len (cs : List (Option Rat × Rat)) : (drawnF cs).length ≤ cs.length := List.length_filterMap_le ..
theorem drawn_bd {cs : List (Option Rat × Rat)} (h : ChOk cs) : Bds 1 (drawnF cs) := fun x hx => by
  obtain ⟨c, hc, hx⟩ := List.mem_filterMap.mp hx
  exact (h c hc).2.2 x hx
/-- trimmed -/
theorem trim_of {xs f0 A : List Rat} {c : Rat} (hx : co xs = prodF (A.map lin) (co f0)) (hl : f0.length + A.length ≤ xs.length) (hp : 1 ≤ f0.length) (hc : co f0 (f0.length - 1) = c) (hc0 : c ≠ 0) :
    TrimAt xs (f0.length + A.length) ∧ xs[f0.length + A.length - 1]? = some c ∧ xs.take (f0.length + A.length) = prodL (A.map lin) f0 := by
  have hlead := lead_prod A (co f0) (f0.length - 1) fun k hk => co_out (by omega)
  rw [hc, ← hx] at hlead
  have hget : xs[f0.length + A.length - 1]? = some c := by
    have h1 : f0.length + A.length - 1 < xs.length := by omega
    rw [List.getElem?_eq_getElem h1, ← hlead, show f0.length - 1 + A.length = f0.length + A.length - 1 by omega, co_get (List.getElem?_eq_getElem h1)]
  have ht : TrimAt xs (f0.length + A.length) := by
    refine ⟨hl, fun i h1 h2 => ?_, .inr ⟨c, hget, hc0⟩⟩
    have : co xs i = 0 := by
      rw [hx]
      exact prod_out _ _ (by rw [List.length_map]; exact h1)
    rw [List.getElem?_eq_getElem h2, ← this, co_get (List.getElem?_eq_getElem h2)]
  refine ⟨ht, hget, co_ext ?_ ?_⟩
  · rw [prodL_len, List.length_map, List.length_take]
    omega
  · rw [co_take ht, co_prod, hx]
theorem found_sorted : ∀ (rs g : List Rat), rs.Pairwise (· ≤ ·) → (foundF (partF g rs).2).Pairwise (· ≤ ·) ∧ ∀ x ∈ foundF (partF g rs).2, x ∈ rs
  | [], g, _ => ⟨.nil, fun x h => by cases h⟩
  | r :: rs, g, h => by
    obtain ⟨h1, h2⟩ := List.pairwise_cons.mp h
    obtain ⟨i1, i2⟩ := found_sorted rs (divOut r g.length g).1 h2
    have e : foundF (partF g (r :: rs)).2 = List.replicate (divOut r g.length g).2 r ++ foundF (partF (divOut r g.length g).1 rs).2 := rfl
    rw [e]
    refine ⟨List.pairwise_append.mpr ⟨?_, i1, fun x hx y hy => ?_⟩, fun x hx => ?_⟩
    · exact List.pairwise_replicate.mpr (.inr (by grind))
    · rw [(List.mem_replicate.mp hx).2]
      exact h1 y (i2 y hy)
    · rcases List.mem_append.mp hx with h | h
      · rw [(List.mem_replicate.mp h).2]
        exact List.mem_cons_self ..
      · exact List.mem_cons_of_mem _ (i2 x h)
theorem key_val {x : Rat} (h : NumC.Bd 1 x) : ((keyQ x : Int) : Rat) = x * 6 := by
  obtain ⟨a, h1, _⟩ := h
  have h6 : x * (6 : Rat) ^ 1 = x * 6 := by grind
  rw [h6] at h1
  have hd : (x.den : Rat) ≠ 0 := nat_ne x.den_pos
  have hn := num_den x
  have e : (x.num * 6 : Int) = a * (x.den : Int) := by
    apply Rat.intCast_inj.mp
    rw [Rat.intCast_mul, Rat.intCast_mul, cast_ni, hn]
    have : ((6 : Int) : Rat) = 6 := rfl
    rw [this, ← h1]
    grind
  have ek : keyQ x = a := by
    unfold keyQ
    rw [e]
    exact Int.mul_fdiv_cancel _ (by have := x.den_pos; omega)
  rw [ek, ← h1]
theorem sort_key {A : List Rat} (h : Bds 1 A) : (A.mergeSort fun a b => decide (keyQ a ≤ keyQ b)).Pairwise (· ≤ ·) := by
  have h1 := List.pairwise_mergeSort (le := fun a b : Rat => decide (keyQ a ≤ keyQ b)) (fun a b c h1 h2 => decide_eq_true (Int.le_trans (of_decide_eq_true h1) (of_decide_eq_true h2)))
    (fun a b => by
      rcases Int.le_total (keyQ a) (keyQ b) with h | h
      · simp [h]
      · simp [h]) A
  have hm : ∀ x ∈ A.mergeSort (fun a b => decide (keyQ a ≤ keyQ b)), NumC.Bd 1 x := fun x hx => h x ((List.mergeSort_perm A _).mem_iff.mp hx)
  refine List.Pairwise.imp_of_mem (fun {a b} ha hb hab => ?_) h1
  have k := Rat.intCast_le_intCast.mpr (of_decide_eq_true hab)
  rw [key_val (hm a ha), key_val (hm b hb)] at k
  grind
end Kw
set_option maxHeartbeats 4000000
namespace Kw
theorem sq_two {x : Rat} (h : x * x = 2) : False := by
  have h0 : ev (zq [-2, 0, 1]) x = 0 := by
    show (((0 : Rat) * x + ((1 : Int) : Rat)) * x + ((0 : Int) : Rat)) * x + ((-2 : Int) : Rat) = 0
    have e1 : ((1 : Int) : Rat) = 1 := rfl
    have e0 : ((0 : Int) : Rat) = 0 := rfl
    have e2 : ((-2 : Int) : Rat) = -2 := rfl
    rw [e1, e0, e2]
    grind
  have hd := den_one (f := [-2, 0, 1]) rfl h0
  have hw := whole_of hd
  generalize x.num = m at hw
  rw [hw, ← Rat.intCast_mul] at h
  have e2 : ((2 : Int) : Rat) = 2 := rfl
  rw [← e2] at h
  have hm : m * m = 2 := Rat.intCast_inj.mp h
  have : m ≤ 1 ∧ -1 ≤ m := by
    constructor
    · apply Classical.byContradiction
      intro n
      have := Int.mul_le_mul (show 2 ≤ m by omega) (show 2 ≤ m by omega) (by decide) (by omega)
      omega
    · apply Classical.byContradiction
      intro n
      have := Int.mul_le_mul (show 2 ≤ -m by omega) (show 2 ≤ -m by omega) (by decide) (by omega)
      rw [Int.neg_mul_neg] at this
      omega
  have : m = 0 ∨ m = 1 ∨ m = -1 := by omega
  rcases this with rfl | rfl | rfl <;> simp at hm
theorem sq_nonneg (x : Rat) : 0 ≤ x * x := by
  by_cases h : 0 ≤ x
  · exact Rat.mul_nonneg h h
  · have := Rat.mul_nonneg (show 0 ≤ -x by grind) (show 0 ≤ -x by grind)
    grind
theorem quad_noroot {q : List Int} (hq : q ∈ quads) {S : Rat} (hS : S ≠ 0) : ∃ a b c : Rat, quadL Rat q = [a, b, c] ∧ (∀ x, ev [S * a, S * b, S * c] x ≠ 0) ∧ c ≠ 0 := by
  have key : ∀ a b c : Rat, (∀ x, a + b * x + c * (x * x) ≠ 0) → ∀ x, ev [S * a, S * b, S * c] x ≠ 0 := by
    intro a b c h x z
    have e : ev [S * a, S * b, S * c] x = S * (a + b * x + c * (x * x)) := by
      show (((0 : Rat) * x + S * c) * x + S * b) * x + S * a = _
      grind
    rw [e] at z
    rcases qmul z with z | z
    · exact hS z
    · exact h x z
  simp only [quads, List.mem_cons, List.not_mem_nil, or_false] at hq
  rcases hq with rfl | rfl | rfl | rfl | rfl
  · refine ⟨1, 0, 1, rfl, key _ _ _ fun x => ?_, by grind⟩
    have := sq_nonneg x
    grind
  · refine ⟨1, 1, 1, rfl, key _ _ _ fun x => ?_, by grind⟩
    have := sq_nonneg (2 * x + 1)
    grind
  · refine ⟨-2, 0, 1, rfl, key _ _ _ fun x z => sq_two (x := x) (by grind), by grind⟩
  · refine ⟨2, 0, 3, rfl, key _ _ _ fun x => ?_, by grind⟩
    have := sq_nonneg x
    grind
  · refine ⟨3, 1, 1, rfl, key _ _ _ fun x => ?_, by grind⟩
    have := sq_nonneg (2 * x + 1)
    grind
/-- what the parts make of a product that is known -/
theorem parts_of_prod {xs A f0 rs : List Rat} {m : Nat} {c : Rat} (hm0 : m ≠ 0) (ht : TrimAt xs m) (hc : xs[m - 1]? = some c ∧ c ≠ 0) (hg : xs.take m = prodL (A.map lin) f0) (hml : m = f0.length + A.length) (hrs : GoodR (xs.take m) rs) :
    (∀ r, ev (partF (xs.take m) rs).1 r ≠ 0) ∧ (partF (xs.take m) rs).1.length + (foundF (partF (xs.take m) rs).2).length = m ∧ prodF ((foundF (partF (xs.take m) rs).2).map lin) (co (partF (xs.take m) rs).1) = prodF (A.map lin) (co f0) ∧ 1 ≤ (partF (xs.take m) rs).1.length ∧
    (foundF (partF (xs.take m) rs).2).Pairwise (· ≤ ·) ∧ ((partF (xs.take m) rs).1.length = 1 → (partF (xs.take m) rs).1 = [c]) := by
  have hlast := take_last hm0 ht.1 hc.1
  have hled : Led (xs.take m) := ⟨c, hlast, hc.2⟩
  obtain ⟨p1, p2, p3, p4, p5⟩ := partF_prod rs (xs.take m) hled
  rw [flatC_found] at p1 p3
  rw [List.length_map] at p3
  have hgl : (xs.take m).length = m := by
    rw [List.length_take]
    have := ht.1
    omega
  refine ⟨fun r z => p5 r ((hrs.2.1 r).mpr (p4 r z)) z, by omega, ?_, p2.pos, (found_sorted rs _ hrs.1).1, fun h1 => rest_one (partF_last rs _ hled) hlast h1⟩
  rw [← p1, hg, co_prod]
theorem plQ (xs : List Rat) (o : Option (List Rat)) (hdr : DrK xs o) : ∃ (m : Nat) (c : Rat), TrimAt xs m ∧ (m ≠ 0 → xs[m - 1]? = some c ∧ c ≠ 0 ∧ (∀ r, ev (xs.take m) r = 0 → NumC.Bd 1 r) ∧ Bds 100 (xs.take m)) ∧
    (∀ rs, (m ≠ 0 → GoodR (xs.take m) rs) → apF xs m c rs = dueF LSQ xs m c o) ∧
    (∀ cs, dueF LSQ xs m c o = some cs → cs.foldl (fun f x => conv f [x.1, x.2]) [1] = xs ∧ cs.length = xs.length - 1 ∧ ∃ x0 ct, cs = x0 :: ct ∧ NumC.Bd 101 x0.1 ∧ NumC.Bd 101 x0.2 ∧ ∀ x ∈ ct, NumC.Bd 1 x.1 ∧ NumC.Bd 1 x.2) ∧
    (NumC.p Rat = 0 → ∀ L, o = some L → L.length ≤ xs.length - 1 ∧ Bds 1 L) := by
  obtain ⟨h2, h12, h50, hk⟩ := hdr
  have hB100 : Bds 100 xs := bds_mono (by decide) h50
  rcases hk with hp | ⟨hx, rfl⟩ | ⟨cs, q, hok, hq, hx, rfl⟩ | ⟨cs, hok, hx, rfl⟩
  · exact absurd rfl hp
  · have ht : TrimAt xs 0 := by
      refine ⟨Nat.zero_le _, fun i _ hi => ?_, .inl rfl⟩
      rw [hx, List.getElem?_replicate, if_pos hi]
    refine ⟨0, 0, ht, fun z => absurd rfl z, fun rs _ => rfl, fun cs hcs => ?_, fun _ L hL => ?_⟩
    · have e : dueF LSQ xs 0 0 (some []) = some ((0, 0) :: List.replicate (xs.length - 2) (1, 0)) := if_pos rfl
      rw [e] at hcs
      have := Option.some.inj hcs
      subst this
      refine ⟨zero_prod ht h2, by rw [List.length_cons, List.length_replicate]; omega, _, _, rfl, NumC.bd_mono (Nat.zero_le _) NumC.bd_0, NumC.bd_mono (Nat.zero_le _) NumC.bd_0, fun x hx => ?_⟩
      rw [(List.mem_replicate.mp hx).2]
      exact ⟨NumC.bd_mono (Nat.zero_le _) NumC.bd_1, NumC.bd_mono (Nat.zero_le _) NumC.bd_0⟩
    · cases hL
      exact ⟨Nat.zero_le _, fun x hx => by cases hx⟩
  · -- a factor without root
    have hS := shareP_ne cs hok
    obtain ⟨a, b, c, hqe, hnr, hc0⟩ := quad_noroot hq hS
    have hco : co xs = prodF ((drawnF cs).map lin) (co [shareP cs * a, shareP cs * b, shareP cs * c]) := by
      rw [hx, hqe, co_conv3, made_co, prodF_S3]
      congr 1
      funext k
      match k with
      | 0 => rfl
      | 1 => show (0 : Rat) * a + shareP cs * b = shareP cs * b; grind
      | 2 => show (0 : Rat) * a + 0 * b + shareP cs * c = shareP cs * c; grind
      | k + 3 => show (0 : Rat) * a + 0 * b + 0 * c = 0; grind
    have hxl : xs.length = cs.length + 3 := by
      rw [hx, hqe, conv_len, made_len]
      rfl
    have hdl := drawn_len cs
    have hsc : shareP cs * c ≠ 0 := fun z => (qmul z).elim hS hc0
    obtain ⟨ht, hget, htake⟩ := trim_of (c := shareP cs * c) hco (by show 3 + _ ≤ _; omega) (by show 1 ≤ 3; decide) rfl hsc
    generalize hmd : ([shareP cs * a, shareP cs * b, shareP cs * c] : List Rat).length + (drawnF cs).length = m at ht hget htake
    have hm3 : m = 3 + (drawnF cs).length := hmd.symm
    refine ⟨_, _, ht, fun _ => ⟨hget, hsc, fun r hr => ?_, fun y hy => hB100 y (List.mem_of_mem_take hy)⟩, fun rs hrs => ?_, fun ds hds => ?_, fun _ L hL => by cases hL⟩
    · rw [htake] at hr
      rcases (ev_lin _ _).mp hr with h | h
      · exact absurd h (hnr r)
      · exact drawn_bd hok r h
    · have hm0 : m ≠ 0 := by omega
      obtain ⟨p1, p2, p3, p4, p5, p6⟩ := parts_of_prod hm0 ht ⟨hget, hsc⟩ htake hmd.symm (hrs hm0)
      have e1 : ∀ m, m ≠ 0 → dueF LSQ xs m (shareP cs * c) none = none := fun m hm => if_neg hm
      have e2 : ∀ m, m ≠ 0 → apF xs m (shareP cs * c) rs = if 1 < (partF (xs.take m) rs).1.length then none else some (couF xs.length (shareP cs * c) (partF (xs.take m) rs).2) := fun m hm => if_neg hm
      rw [e1 _ hm0, e2 _ hm0]
      by_cases h1 : 1 < (partF (xs.take m) rs).1.length
      · rw [if_pos h1]
      · exfalso
        have hone := p6 (by omega)
        rw [hone] at p3 p2
        have hperm := uniq _ (drawnF cs) (shareP cs * c) _ hnr (by show 1 ≤ 3; decide) (by
          rw [show ([shareP cs * c] : List Rat).length = 1 from rfl] at p2
          show _ = 3 + _
          omega) p3
        have hl := hperm.length_eq
        rw [show ([shareP cs * c] : List Rat).length = 1 from rfl] at p2
        omega
    · have hm0 : m ≠ 0 := by omega
      have e1 : ∀ m, m ≠ 0 → dueF LSQ xs m (shareP cs * c) none = none := fun m hm => if_neg hm
      rw [e1 _ hm0] at hds
      cases hds
  · -- made of roots
    have hS := shareP_ne cs hok
    have hco : co xs = prodF ((drawnF cs).map lin) (co [shareP cs]) := by rw [hx, made_co]
    have hxl : xs.length = cs.length + 1 := by rw [hx, made_len]
    have hdl := drawn_len cs
    obtain ⟨ht, hget, htake⟩ := trim_of (c := shareP cs) hco (by show 1 + _ ≤ _; omega) (by show 1 ≤ 1; decide) rfl hS
    generalize hmd : ([shareP cs] : List Rat).length + (drawnF cs).length = m at ht hget htake
    have hm1 : m = 1 + (drawnF cs).length := hmd.symm
    have hnr : ∀ x, ev [shareP cs] x ≠ 0 := fun x z => hS (by
      have e : ev [shareP cs] x = shareP cs := by
        show (0 : Rat) * x + shareP cs = shareP cs
        grind
      rw [e] at z
      exact z)
    have hm0 : m ≠ 0 := by omega
    have hbd := drawn_bd hok
    have hperm0 := List.mergeSort_perm (drawnF cs) (fun a b => decide (keyQ a ≤ keyQ b))
    have e1 : ∀ m, m ≠ 0 → dueF LSQ xs m (shareP cs) (some (drawnF cs)) = some (dueL xs.length (shareP cs) ((drawnF cs).mergeSort fun a b => decide (keyQ a ≤ keyQ b))) := fun m hm => if_neg hm
    refine ⟨_, _, ht, fun _ => ⟨hget, hS, fun r hr => ?_, fun y hy => hB100 y (List.mem_of_mem_take hy)⟩, fun rs hrs => ?_, fun ds hds => ?_, fun _ L hL => ?_⟩
    · rw [htake] at hr
      rcases (ev_lin _ _).mp hr with h | h
      · exact absurd h (hnr r)
      · exact hbd r h
    · obtain ⟨p1, p2, p3, p4, p5, p6⟩ := parts_of_prod hm0 ht ⟨hget, hS⟩ htake hmd.symm (hrs hm0)
      have e2 : ∀ m, m ≠ 0 → apF xs m (shareP cs) rs = if 1 < (partF (xs.take m) rs).1.length then none else some (couF xs.length (shareP cs) (partF (xs.take m) rs).2) := fun m hm => if_neg hm
      rw [e1 _ hm0, e2 _ hm0, couF_due]
      have hperm := uniq (drawnF cs) _ (shareP cs) _ p1 p4 (by rw [p2]; exact hm1.symm) p3.symm
      have hl := hperm.length_eq
      rw [if_neg (by omega)]
      have heq : foundF (partF (xs.take m) rs).2 = (drawnF cs).mergeSort fun a b => decide (keyQ a ≤ keyQ b) :=
        List.Perm.eq_of_pairwise (le := (· ≤ ·)) (fun a b _ _ h1 h2 => by grind) p5 (sort_key hbd) (hperm.symm.trans hperm0.symm)
      rw [heq]
    · rw [e1 _ hm0] at hds
      have := Option.some.inj hds
      subst this
      have hlen : ((drawnF cs).mergeSort fun a b => decide (keyQ a ≤ keyQ b)).length ≤ xs.length - 1 := by
        rw [hperm0.length_eq]
        omega
      refine ⟨whole_prod ht h2 hlen ?_, dueL_len hlen, due_head h2 hlen (hB100 _ (List.mem_of_getElem? hget)) fun x hx => hbd x (hperm0.mem_iff.mp hx)⟩
      rw [htake, co_prod, prodF_perm (hperm0.map lin)]
    · cases hL
      exact ⟨by omega, hbd⟩
theorem pl_all : ∀ i, PL i
  | .q => fun xs o hdr => plQ xs o hdr
  | .f n h => fun xs o hdr => by
    haveI := ix_pos h
    obtain ⟨m, c, h1, h2, h3, h4⟩ := plF (n := n) xs o hdr.1 hdr.2.1
    exact ⟨m, c, h1, h2, h3, h4, fun z => absurd z (NeZero.ne n)⟩
end Kw
set_option maxHeartbeats 4000000
namespace Kw
open PySem PySem.Spec PyProof.Rows L2 RT
/-! ### what the assembly asks of the written part -/
/-- a def of the module -/
structure DefAt (K : PySem.W.Frag) (x : Str) (st : Stmt) : Prop where
  ex : ∃ (f : Addr) (fd : FuncData), PySem.W.nsIn K mainGlobals x = some (some (.ref f)) ∧ C8.Fun K x x st f fd ∧ PySem.W.keepIn K (.ref f) = true ∧ fd.defaults = .none
theorem DefAt.mk' {K : PySem.W.Frag} {x : Str} {st : Stmt} {f : Addr} {oc : Value} {od : Option Addr} {kV doc pm : Value} {an : Option Addr} {cdv ct : Value} {osl : Array (Option Value)}
    (a : PySem.W.nsIn K mainGlobals x = some (some (.ref f))) (l : K.lookup f = some ⟨oc, od, .func (PySem.W.fnOf x x (C8.fnArgs st) (C8.fnBody st) (C8.fnScope st) .none kV doc pm an cdv ct), osl⟩) (c : PySem.W.codeIn K cdv x = true)
    (k : PySem.W.keepIn K (.ref f) = true) : DefAt K x st := ⟨_, _, a, ⟨_, _, _, _, _, _, _, _, _, _, rfl, l, c⟩, k, rfl⟩
/-- a def of the module with defaults -/
structure DflAt (K : PySem.W.Frag) (x : Str) (st : Stmt) (dvs : List V) : Prop where
  ex : ∃ (f : Addr) (fd : FuncData), PySem.W.nsIn K mainGlobals x = some (some (.ref f)) ∧ C8.Fun K x x st f fd ∧ L2.FunD K x x (C8.fnArgs st) (C8.fnBody st) (C8.fnScope st) dvs [] f fd
theorem DflAt.mk' {K : PySem.W.Frag} {x : Str} {st : Stmt} {dvs : List V} {f T : Addr} {o : Obj} {its : List Value} {m : Nat} {oc : Value} {od : Option Addr} {kV doc pm : Value} {an : Option Addr} {cdv ct : Value} {osl : Array (Option Value)}
    (a : PySem.W.nsIn K mainGlobals x = some (some (.ref f))) (l : K.lookup f = some ⟨oc, od, .func (PySem.W.fnOf x x (C8.fnArgs st) (C8.fnBody st) (C8.fnScope st) (.ref T) kV doc pm an cdv ct), osl⟩) (c : PySem.W.codeIn K cdv x = true)
    (k : PySem.W.keepIn K (.ref f) = true) (t : K.lookup T = some o) (d : o.data = .seq its.toArray m) (v : Vals dvs its) (hn : dvs ≠ []) : DflAt K x st dvs :=
  ⟨_, _, a, ⟨_, _, _, _, _, _, _, _, _, _, rfl, l, c⟩, ⟨⟨_, _, _, _, _, _, _, _, _, _, rfl, l, c, .inr ⟨hn, T, o, its, m, rfl, t, d, v⟩, .inl rfl⟩, k⟩⟩
/-- a method of the class at C -/
structure MethAt (K : PySem.W.Frag) (C : Addr) (m q : Str) (st : Stmt) : Prop where
  ex : ∃ (f : Addr) (fd : FuncData), PySem.W.findIn K (.ref C) m = some (some (.ref f)) ∧ PySem.W.typeIn K (.ref f) = some (.type "function") ∧ L2.Meth K C m f ∧ C8.Fun K m q st f fd ∧ fd.defaults = .none
theorem MethAt.mk' {K : PySem.W.Frag} {C : Addr} {m q : Str} {st : Stmt} {f : Addr} {oc : Value} {od : Option Addr} {kV doc pm : Value} {an : Option Addr} {cdv ct : Value} {osl : Array (Option Value)}
    (a : PySem.W.findIn K (.ref C) m = some (some (.ref f))) (l : K.lookup f = some ⟨oc, od, .func (PySem.W.fnOf m q (C8.fnArgs st) (C8.fnBody st) (C8.fnScope st) .none kV doc pm an cdv ct), osl⟩) (c : PySem.W.codeIn K cdv q = true)
    (k : PySem.W.keepIn K (.ref f) = true) (n : PySem.W.isFn K (.ref f) = true) (t : PySem.W.typeIn K (.ref f) = some (.type "function")) : MethAt K C m q st := ⟨_, _, a, t, ⟨a, n, k⟩, ⟨_, _, _, _, _, _, _, _, _, _, rfl, l, c⟩, rfl⟩
/-- a class that may be made and whose instances' fields and methods are read -/
structure ClsAt (K : PySem.W.Frag) (x : Str) (C : Addr) : Prop where
  a : PySem.W.nsIn K mainGlobals x = some (some (.ref C))
  cl : L2.Cls K C
  mkr : PySem.W.makesIn K C = true
  kp : PySem.W.keepIn K (.ref C) = true
theorem ClsAt.mk' {K : PySem.W.Frag} {x : Str} {C : Addr} (a : PySem.W.nsIn K mainGlobals x = some (some (.ref C))) (p : PySem.W.plainGet K C Str.empty = true) (h : PySem.W.hasDictIn K C = true) (o : PySem.W.plainOver K C = true)
    (s : PySem.W.findIn K (.ref C) "__setattr__" = some (some (.builtin "object.__setattr__"))) (m : PySem.W.makesIn K C = true) (k : PySem.W.keepIn K (.ref C) = true) : ClsAt K x C := ⟨a, ⟨p, h, o, s⟩, m, k⟩
structure FigK (K : PySem.W.Frag) (C : Addr) : Prop where
  c : ClsAt K "Figures" C
  n1 : L2.NoAttr K C "prime"
  n2 : L2.NoAttr K C "zero"
  n3 : L2.NoAttr K C "one"
  init : MethAt K C "__init__" "Figures.__init__" s_Figures___init__
  plus : MethAt K C "plus" "Figures.plus" s_Figures_plus
  minus : MethAt K C "minus" "Figures.minus" s_Figures_minus
  times : MethAt K C "times" "Figures.times" s_Figures_times
  over : MethAt K C "over" "Figures.over" s_Figures_over
  negative : MethAt K C "negative" "Figures.negative" s_Figures_negative
  is_number : MethAt K C "is_number" "Figures.is_number" s_Figures_is_number
  all_numbers : MethAt K C "all_numbers" "Figures.all_numbers" s_Figures_all_numbers
structure PartsK (K : PySem.W.Frag) (C : Addr) : Prop where
  c : ClsAt K "Parts" C
  n1 : L2.NoAttr K C "lead"
  n2 : L2.NoAttr K C "roots"
  n3 : L2.NoAttr K C "rest"
  init : MethAt K C "__init__" "Parts.__init__" s_Parts___init__
structure BadRowK (K : PySem.W.Frag) (C : Addr) : Prop where
  a : PySem.W.nsIn K mainGlobals "BadRow" = some (some (.ref C))
  o : OexC K C
  xf : XfC K C
  n1 : PySem.W.findIn K (.ref C) "what" = some none
  n2 : PySem.W.findIn K (.ref C) "index" = some none
  te : PySem.W.exmOne K (.ref C) (.ref C) = some true
  init : MethAt K C "__init__" "BadRow.__init__" s_BadRow___init__
structure PairK (K : PySem.W.Frag) (C : Addr) : Prop where
  a : PySem.W.nsIn K mainGlobals "PairError" = some (some (.ref C))
  ga : PySem.W.specialIn K (.ref C) "__getattribute__" = some (some (.builtin "type.__getattribute__"))
  rd : PySem.W.readsIn K C (.type "type") = true
  fi : PySem.W.findCls K (.ref C) (.type "type") "__init__" = some (.val (.builtin "ValueError.__init__"))
/-- an error of a class is what except names by that class -/
theorem exm_own {K : PySem.W.Frag} {S : Addr} (h1 : PySem.W.subIn K (.ref S) (.type "BaseException") = some true) (h2 : PySem.W.isClsIn K S = true) (h3 : PySem.W.typeIn K (.ref S) = some (.type "type")) (h4 : PySem.W.subIn K (.ref S) (.ref S) = some true) :
    PySem.W.exmOne K (.ref S) (.ref S) = some true := by
  have e1 : (PySem.W.subIn K (.ref S) (.type "BaseException") == some true) = true := by rw [h1] <;> rfl
  have e2 : ((PySem.W.clsIn K S).isSome && PySem.W.typeIn K (.ref S) == some (.type "type")) = true := by
    have q : (PySem.W.clsIn K S).isSome = true := h2
    rw [q, h3] <;> rfl
  show (if (PySem.W.subIn K (.ref S) (.type "BaseException") == some true) = true then (if ((PySem.W.clsIn K S).isSome && PySem.W.typeIn K (.ref S) == some (.type "type")) = true then PySem.W.subIn K (.ref S) (.ref S) else none) else none) = some true
  rw [if_pos e1, if_pos e2]
  exact h4
theorem BadRowK.mk' {K : PySem.W.Frag} {C : Addr} {nm q : Str} {N : Addr} {bs bm : List Value} {sn : List Str} {sub : List Value} {ab : Bool} {col : Option Bool} {dd : Option Addr} {m0 m1 m2 m3 m5 : Option Value}
    (a : PySem.W.nsIn K mainGlobals "BadRow" = some (some (.ref C))) (xL : K.lookup C = some (excClassObj nm q C N bs bm true sn sub ab col dd m0 m1 m2 m3 m5 "ValueError.__new__")) (rv : PySem.HandSPX.refsVE bm = true)
    (sa : PySem.W.findIn K (.ref C) "__setattr__" = some (some (.builtin "object.__setattr__"))) (ga : PySem.W.findIn K (.ref C) "__getattribute__" = some (some (.builtin "BaseException.__getattribute__"))) (gg : PySem.W.findIn K (.ref C) "__getattr__" = some none)
    (n1 : PySem.W.findIn K (.ref C) "what" = some none) (n2 : PySem.W.findIn K (.ref C) "index" = some none) (kC : PySem.W.keepIn K (.ref C) = true) (eC : PySem.W.subIn K (.ref C) (.type "BaseException") = some true)
    (tC : PySem.W.typeIn K (.ref C) = some (.type "type")) (hC : PySem.W.hasDictIn K C = true) (iC : PySem.W.isClsIn K C = true) (sC : PySem.W.subIn K (.ref C) (.ref C) = some true) (i : MethAt K C "__init__" "BadRow.__init__" s_BadRow___init__) : BadRowK K C :=
  ⟨a, ⟨⟨_, _, _, _, _, _, _, _, _, _, _, _, _, _, _, xL, rv⟩, sa, eC, tC, kC⟩, ⟨ga, gg, eC, hC⟩, n1, n2, exm_own eC iC tC sC, i⟩
end Kw
set_option maxHeartbeats 4000000
namespace Kw
open PySem PySem.Spec PyProof.Rows L2 RT
/-! ### the calls of the module, from the facts of the written part -/
structure KF (K : PySem.W.Frag) : Prop where
  d_common_divisor : DefAt K "common_divisor" s_common_divisor
  d_is_ratio : DefAt K "is_ratio" s_is_ratio
  d_lowest_terms : DefAt K "lowest_terms" s_lowest_terms
  d_ratio_plus : DefAt K "ratio_plus" s_ratio_plus
  d_ratio_minus : DefAt K "ratio_minus" s_ratio_minus
  d_ratio_times : DefAt K "ratio_times" s_ratio_times
  d_ratio_over : DefAt K "ratio_over" s_ratio_over
  d_rest_undone : DefAt K "rest_undone" s_rest_undone
  d_check_poly : DefAt K "check_poly" s_check_poly
  d_without_zeros : DefAt K "without_zeros" s_without_zeros
  d_plain_over : DefAt K "plain_over" s_plain_over
  d_plain_led : DefAt K "plain_led" s_plain_led
  d_check_not_zero : DefAt K "check_not_zero" s_check_not_zero
  d_value_at : DefAt K "value_at" s_value_at
  d_divided_out : DefAt K "divided_out" s_divided_out
  d_parts_of : DefAt K "parts_of" s_parts_of
  d_whole_value : DefAt K "whole_value" s_whole_value
  d_cleared_numbers : DefAt K "cleared_numbers" s_cleared_numbers
  d_stretched_numbers : DefAt K "stretched_numbers" s_stretched_numbers
  d_slopes_of : DefAt K "slopes_of" s_slopes_of
  d_turning_place : DefAt K "turning_place" s_turning_place
  d_root_places : DefAt K "root_places" s_root_places
  d_fraction_roots : DefAt K "fraction_roots" s_fraction_roots
  d_plain_roots : DefAt K "plain_roots" s_plain_roots
  d_is_sequence : DefAt K "is_sequence" s_is_sequence
  d_check_row : DefAt K "check_row" s_check_row
  d_taps_apart : DefAt K "taps_apart" s_taps_apart
  d__law_hand : DefAt K "_law_hand" s__law_hand
  d__law_mixed : DefAt K "_law_mixed" s__law_mixed
  d__law_take : DefAt K "_law_take" s__law_take
  d__law_gcd : DefAt K "_law_gcd" s__law_gcd
  d__law_ratio : DefAt K "_law_ratio" s__law_ratio
  d__law_num : DefAt K "_law_num" s__law_num
  d__law_times : DefAt K "_law_times" s__law_times
  d__law_plus : DefAt K "_law_plus" s__law_plus
  d__law_less : DefAt K "_law_less" s__law_less
  d__law_zero : DefAt K "_law_zero" s__law_zero
  d__law_figures : DefAt K "_law_figures" s__law_figures
  d__law_number : DefAt K "_law_number" s__law_number
  d__law_unlike : DefAt K "_law_unlike" s__law_unlike
  d__law_numbers : DefAt K "_law_numbers" s__law_numbers
  d__law_list : DefAt K "_law_list" s__law_list
  d__law_none : DefAt K "_law_none" s__law_none
  d__law_exact : DefAt K "_law_exact" s__law_exact
  d__law_multiplied : DefAt K "_law_multiplied" s__law_multiplied
  d__law_value : DefAt K "_law_value" s__law_value
  d__law_lead : DefAt K "_law_lead" s__law_lead
  d__law_roots : DefAt K "_law_roots" s__law_roots
  d__law_chosen : DefAt K "_law_chosen" s__law_chosen
  d__law_made : DefAt K "_law_made" s__law_made
  d__law_told : DefAt K "_law_told" s__law_told
  d__law_word : DefAt K "_law_word" s__law_word
  d__law_drawn : DefAt K "_law_drawn" s__law_drawn
  d_law : DefAt K "law" s_law
  d_is_whole : DflAt K "is_whole" s_is_whole [.non, .non]
  d_make_ratio : ∃ i, DflAt K "make_ratio" s_make_ratio [.int i]
  fig : ∃ C, FigK K C
  par : ∃ C, PartsK K C
  bad : ∃ C, BadRowK K C
  pe : ∃ C, PairK K C
  mn : ∃ t, PySem.W.nsIn K mainGlobals "MOST_NUMBERS" = some (some (.int 12 t))
  ma : ∃ t, PySem.W.nsIn K mainGlobals "MOST_APART" = some (some (.int 12 t))
  kn : ∃ kp, PySem.W.nsIn K mainGlobals "KNOWN_PRIMES" = some (some (.ref kp)) ∧ ∀ H, SqT K H kp (knownP.map V.int)
  due : ∃ (f c : Addr) (fd : FuncData), PySem.W.nsIn K mainGlobals "_law_due" = some (some (.ref f)) ∧ C8.Fun K "_law_due" "_law_due" s__law_due f fd ∧ PySem.W.keepIn K (.ref f) = true ∧ fd.defaults = .none ∧
    fd.code = .ref c ∧ PySem.W.codeHdIn K c 604 = true ∧ K.lookup 604 = none
  b_isinstance : PySem.W.nsIn K mainGlobals "isinstance" = some none
  b_bool : PySem.W.nsIn K mainGlobals "bool" = some none
  b_int : PySem.W.nsIn K mainGlobals "int" = some none
  b_abs : PySem.W.nsIn K mainGlobals "abs" = some none
  b_len : PySem.W.nsIn K mainGlobals "len" = some none
  b_tuple : PySem.W.nsIn K mainGlobals "tuple" = some none
  b_list : PySem.W.nsIn K mainGlobals "list" = some none
  b_range : PySem.W.nsIn K mainGlobals "range" = some none
  b_enumerate : PySem.W.nsIn K mainGlobals "enumerate" = some none
  b_reversed : PySem.W.nsIn K mainGlobals "reversed" = some none
  b_max : PySem.W.nsIn K mainGlobals "max" = some none
  b_sorted : PySem.W.nsIn K mainGlobals "sorted" = some none
structure Kc (K : PySem.W.Frag) (mg : Str → Option Value) : Prop where
  kf : KF K
  ex : ∃ h : Heap, K.In h ∧ h.Ns mainGlobals mg
section
variable {P : Program} {w : World} {K : PySem.W.Frag} {mg : Str → Option Value} {base : Heap}
theorem Kc.g (Y : Kc K mg) {x : Str} {v : Value} (e : PySem.W.nsIn K mainGlobals x = some (some v)) : mg x = some v := by
  obtain ⟨h, X, G⟩ := Y.ex
  exact PySem.W.mg_of X G e
theorem Kc.no (Y : Kc K mg) {x : Str} (e : PySem.W.nsIn K mainGlobals x = some none) : mg x = none := by
  obtain ⟨h, X, G⟩ := Y.ex
  exact PySem.W.mg_none_of X G e
theorem Kc.B (Y : Kc K mg) : Bn mg := ⟨Y.no Y.kf.b_isinstance, Y.no Y.kf.b_bool, Y.no Y.kf.b_int, Y.no Y.kf.b_abs, Y.no Y.kf.b_len, Y.no Y.kf.b_tuple, Y.no Y.kf.b_list, Y.no Y.kf.b_range, Y.no Y.kf.b_enumerate, Y.no Y.kf.b_reversed, Y.no Y.kf.b_max, Y.no Y.kf.b_sorted⟩
theorem cal_of {x : Str} {st : Stmt} {k : Nat} {sp : Sp} (Y : Kc K mg) (D : DefAt K x st) (ps : List Str)
    (hb : ∀ (kV doc pm : Value) (an : Option Addr) (cdv ct : Value) (us : List Value), us.length = ps.length → bindArgs (PySem.W.fnOf x x (C8.fnArgs st) (C8.fnBody st) (C8.fnScope st) .none kV doc pm an cdv ct) ⟨us, []⟩ = pure (ps.zip us))
    (hok : ∀ f fd, C8.Fun K x x st f fd → FnOk P w K mg base C8.CX0 k f fd ps sp) : C8.Cal P w K mg base k x sp [] := by
  obtain ⟨f, fd, a, F, kp, df⟩ := D.ex
  exact ⟨f, fd, ps, [], hok f fd F, Y.g a, kp, F.binds df hb, .nil⟩
theorem calX_of {x : Str} {st : Stmt} {k : Nat} {sp : Sp} (Y : Kc K mg) (D : DefAt K x st) (ps : List Str)
    (hb : ∀ (kV doc pm : Value) (an : Option Addr) (cdv ct : Value) (us : List Value), us.length = ps.length → bindArgs (PySem.W.fnOf x x (C8.fnArgs st) (C8.fnBody st) (C8.fnScope st) .none kV doc pm an cdv ct) ⟨us, []⟩ = pure (ps.zip us))
    (hok : ∀ f fd, C8.Fun K x x st f fd → FnOk P w K mg base (L2.CX P w) k f fd ps sp) : CalX P w K mg base k x sp := by
  obtain ⟨f, fd, a, F, kp, df⟩ := D.ex
  exact ⟨f, fd, ps, hok f fd F, Y.g a, kp, F.binds df hb⟩
theorem calD_of {x : Str} {st : Stmt} {k : Nat} {sp : Sp} {dvs : List V} (Y : Kc K mg) (D : DflAt K x st dvs) (ps : List Str) (n j : Nat) (hd : dvs ≠ []) (hn : n + (dvs.length - j) = ps.length)
    (hb : ∀ (T : Addr) (kV doc pm : Value) (an : Option Addr) (cdv ct : Value) (us its : List Value), us.length = n → its.length = dvs.length →
      ∃ k, bindArgs (PySem.W.fnOf x x (C8.fnArgs st) (C8.fnBody st) (C8.fnScope st) (.ref T) kV doc pm an cdv ct) ⟨us, []⟩ = seqItems? (.ref T) >>= k ∧ k (some its.toArray) = pure (ps.zip (us ++ its.drop j)))
    (hok : ∀ f fd, C8.Fun K x x st f fd → FnOk P w K mg base C8.CX0 k f fd ps sp) : C8.Cal P w K mg base k x sp (dvs.drop j) := by
  obtain ⟨f, fd, a, F, FD⟩ := D.ex
  obtain ⟨ds, hv, hbs⟩ := L2.FunD.binds1 FD n j hd hn hb
  exact ⟨f, fd, ps, ds, hok f fd F, Y.g a, FD.kp, hbs, hv⟩
theorem met_of {C : Addr} {m q : Str} {st : Stmt} {k : Nat} {sp : Sp} (c : L2.Cls K C) (D : MethAt K C m q st) (ps : List Str)
    (hb : ∀ (kV doc pm : Value) (an : Option Addr) (cdv ct : Value) (us : List Value), us.length = ps.length → bindArgs (PySem.W.fnOf m q (C8.fnArgs st) (C8.fnBody st) (C8.fnScope st) .none kV doc pm an cdv ct) ⟨us, []⟩ = pure (ps.zip us))
    (hok : ∀ f fd, C8.Fun K m q st f fd → FnOk P w K mg base C8.CX0 k f fd ps sp) : C8.Met P w K mg base k C m sp [] := by
  obtain ⟨f, fd, a, t, M, F, df⟩ := D.ex
  exact ⟨f, fd, ps, [], c, M, hok f fd F, F.binds df hb, .nil⟩
theorem mak_of {x : Str} {C : Addr} {q : Str} {st : Stmt} {k : Nat} {sp : Sp} (Y : Kc K mg) (c : ClsAt K x C) (D : MethAt K C "__init__" q st) (ps : List Str)
    (hb : ∀ (kV doc pm : Value) (an : Option Addr) (cdv ct : Value) (us : List Value), us.length = ps.length → bindArgs (PySem.W.fnOf "__init__" q (C8.fnArgs st) (C8.fnBody st) (C8.fnScope st) .none kV doc pm an cdv ct) ⟨us, []⟩ = pure (ps.zip us))
    (hok : ∀ f fd, C8.Fun K "__init__" q st f fd → FnOk P w K mg base C8.CX0 k f fd ps sp) : C8.Mak P w K mg base k x C sp [] := by
  obtain ⟨f, fd, a, t, M, F, df⟩ := D.ex
  exact ⟨f, fd, ps, [], ⟨c.mkr, a, M.fn, c.kp⟩, hok f fd F, Y.g c.a, F.binds df hb, .nil⟩
theorem fnFalse {CX : CXT} {k : Nat} {f : Addr} {fd : FuncData} {ps : List Str} {sp : Sp} (h : ∀ vs H Q E, ¬ sp vs H Q E) : FnOk P w K mg base CX k f fd ps sp :=
  ⟨fun vs H Q E q => (h _ _ _ _ q).elim, fun A outer s H args us vs Q E hr he hb hv hs => (h _ _ _ _ hs).elim⟩
theorem k_is_whole1 (Y : Kc K mg) : C8.Cal P w K mg base 1 "is_whole" spIsWhole [.non, .non] :=
  calD_of Y Y.kf.d_is_whole ["thing", "low", "high"] 1 0 (by simp) rfl (fun _ _ _ _ _ _ _ us its hu hi => match us, its, hu, hi with | [_], [_, _], _, _ => ⟨_, rfl, rfl⟩) fun f fd F => ok_is_whole F Y.B
theorem k_is_whole2 (Y : Kc K mg) : C8.Cal P w K mg base 1 "is_whole" spIsWhole [.non] :=
  calD_of Y Y.kf.d_is_whole ["thing", "low", "high"] 2 1 (by simp) rfl (fun _ _ _ _ _ _ _ us its hu hi => match us, its, hu, hi with | [_, _], [_, _], _, _ => ⟨_, rfl, rfl⟩) fun f fd F => ok_is_whole F Y.B
theorem k_is_whole3 (Y : Kc K mg) : C8.Cal P w K mg base 1 "is_whole" spIsWhole [] :=
  calD_of Y Y.kf.d_is_whole ["thing", "low", "high"] 3 2 (by simp) rfl (fun _ _ _ _ _ _ _ us its hu hi => match us, its, hu, hi with | [_, _, _], [_, _], _, _ => ⟨_, rfl, rfl⟩) fun f fd F => ok_is_whole F Y.B
theorem k_common_divisor (Y : Kc K mg) : C8.Cal P w K mg base 1 "common_divisor" spGcd [] :=
  cal_of Y Y.kf.d_common_divisor ["one", "other"] (fun _ _ _ _ _ _ us hl => match us, hl with | [_, _], _ => rfl) fun f fd F => ok_common_divisor F Y.B
theorem k_is_ratio (Y : Kc K mg) : C8.Cal P w K mg base 2 "is_ratio" spIsRatio [] :=
  cal_of Y Y.kf.d_is_ratio ["thing"] (fun _ _ _ _ _ _ us hl => match us, hl with | [_], _ => rfl) fun f fd F => ok_is_ratio F Y.B (k_is_whole1 Y) (k_is_whole2 Y) (k_common_divisor Y)
theorem k_lowest_terms (Y : Kc K mg) : C8.Cal P w K mg base 2 "lowest_terms" spLow [] :=
  cal_of Y Y.kf.d_lowest_terms ["top", "bottom"] (fun _ _ _ _ _ _ us hl => match us, hl with | [_, _], _ => rfl) fun f fd F => ok_lowest_terms F (k_common_divisor Y)
theorem k_make_ratio (Y : Kc K mg) : C8.Cal P w K mg base 3 "make_ratio" spMake [] := by
  obtain ⟨i, D⟩ := Y.kf.d_make_ratio
  exact calD_of Y D ["top", "bottom"] 2 1 (by simp) rfl (fun _ _ _ _ _ _ _ us its hu hi => match us, its, hu, hi with | [_, _], [_], _, _ => ⟨_, rfl, rfl⟩) fun f fd F => ok_make_ratio F (k_is_whole1 Y) (k_lowest_terms Y)
theorem k_ratio_plus (Y : Kc K mg) : C8.Cal P w K mg base 3 "ratio_plus" (spRat2 (fun _ _ => True) fun x y => x + y) [] :=
  cal_of Y Y.kf.d_ratio_plus ["one", "other"] (fun _ _ _ _ _ _ us hl => match us, hl with | [_, _], _ => rfl) fun f fd F => ok_ratio_plus F (k_lowest_terms Y)
theorem k_ratio_minus (Y : Kc K mg) : C8.Cal P w K mg base 4 "ratio_minus" (spRat2 (fun _ _ => True) fun x y => x - y) [] :=
  cal_of Y Y.kf.d_ratio_minus ["one", "other"] (fun _ _ _ _ _ _ us hl => match us, hl with | [_, _], _ => rfl) fun f fd F => ok_ratio_minus F (k_ratio_plus Y)
theorem k_ratio_times (Y : Kc K mg) : C8.Cal P w K mg base 3 "ratio_times" (spRat2 (fun _ _ => True) fun x y => x * y) [] :=
  cal_of Y Y.kf.d_ratio_times ["one", "other"] (fun _ _ _ _ _ _ us hl => match us, hl with | [_, _], _ => rfl) fun f fd F => ok_ratio_times F (k_lowest_terms Y)
theorem k_ratio_over (Y : Kc K mg) : C8.Cal P w K mg base 3 "ratio_over" (spRat2 (fun _ y => y ≠ 0) fun x y => x / y) [] :=
  cal_of Y Y.kf.d_ratio_over ["one", "other"] (fun _ _ _ _ _ _ us hl => match us, hl with | [_, _], _ => rfl) fun f fd F => ok_ratio_over F (k_lowest_terms Y)
theorem k_rest_undone (Y : Kc K mg) : C8.Cal P w K mg base 1 "rest_undone" spUndone [] :=
  cal_of Y Y.kf.d_rest_undone ["number", "prime"] (fun _ _ _ _ _ _ us hl => match us, hl with | [_, _], _ => rfl) fun f fd F => ok_rest_undone F Y.B
theorem k_whole_value (Y : Kc K mg) : C8.Cal P w K mg base 1 "whole_value" spWV [] :=
  cal_of Y Y.kf.d_whole_value ["numbers", "place"] (fun _ _ _ _ _ _ us hl => match us, hl with | [_, _], _ => rfl) fun f fd F => ok_whole_value Y.B F
theorem k_cleared_numbers (Y : Kc K mg) : C8.Cal P w K mg base 2 "cleared_numbers" spClear [] :=
  cal_of Y Y.kf.d_cleared_numbers ["poly"] (fun _ _ _ _ _ _ us hl => match us, hl with | [_], _ => rfl) fun f fd F => ok_cleared_numbers Y.B (k_common_divisor Y) F
theorem k_stretched_numbers (Y : Kc K mg) : C8.Cal P w K mg base 1 "stretched_numbers" spStr [] :=
  cal_of Y Y.kf.d_stretched_numbers ["numbers"] (fun _ _ _ _ _ _ us hl => match us, hl with | [_], _ => rfl) fun f fd F => ok_stretched_numbers Y.B F
theorem k_slopes_of (Y : Kc K mg) : C8.Cal P w K mg base 1 "slopes_of" spSlopes [] :=
  cal_of Y Y.kf.d_slopes_of ["numbers"] (fun _ _ _ _ _ _ us hl => match us, hl with | [_], _ => rfl) fun f fd F => ok_slopes_of Y.B F
theorem k_turning_place (Y : Kc K mg) : C8.Cal P w K mg base 2 "turning_place" spTurn [] :=
  cal_of Y Y.kf.d_turning_place ["numbers", "low", "high"] (fun _ _ _ _ _ _ us hl => match us, hl with | [_, _, _], _ => rfl) fun f fd F => ok_turning_place Y.B (k_whole_value Y) F
theorem k_root_places (Y : Kc K mg) : C8.Cal P w K mg base 3 "root_places" spPlaces [] :=
  cal_of Y Y.kf.d_root_places ["numbers"] (fun _ _ _ _ _ _ us hl => match us, hl with | [_], _ => rfl) fun f fd F => ok_root_places Y.B (k_slopes_of Y) (k_turning_place Y) F
theorem k_fraction_roots (Y : Kc K mg) : C8.Cal P w K mg base 4 "fraction_roots" spFrac [] :=
  cal_of Y Y.kf.d_fraction_roots ["poly"] (fun _ _ _ _ _ _ us hl => match us, hl with | [_], _ => rfl) fun f fd F => ok_fraction_roots Y.B (k_cleared_numbers Y) (k_stretched_numbers Y) (k_root_places Y) (k_whole_value Y) (k_make_ratio Y) F
theorem k_is_sequence (Y : Kc K mg) : C8.Cal P w K mg base 1 "is_sequence" spSeq [] :=
  cal_of Y Y.kf.d_is_sequence ["thing"] (fun _ _ _ _ _ _ us hl => match us, hl with | [_], _ => rfl) fun f fd F => ok_is_sequence Y.B F
theorem k__law_hand (Y : Kc K mg) : C8.Cal P w K mg base 1 "_law_hand" (spLHand (K := K)) [] :=
  cal_of Y Y.kf.d__law_hand ["_law_script"] (fun _ _ _ _ _ _ us hl => match us, hl with | [_], _ => rfl) fun f fd F => ok_law_hand Y.B F
theorem k__law_mixed (Y : Kc K mg) : C8.Cal P w K mg base 1 "_law_mixed" spMix [] :=
  cal_of Y Y.kf.d__law_mixed ["_law_number_here", "_law_turn"] (fun _ _ _ _ _ _ us hl => match us, hl with | [_, _], _ => rfl) fun f fd F => ok_law_mixed Y.B F
theorem k__law_take (Y : Kc K mg) : C8.Cal P w K mg base 2 "_law_take" spTake [] :=
  cal_of Y Y.kf.d__law_take ["_law_hand_here", "_law_many"] (fun _ _ _ _ _ _ us hl => match us, hl with | [_, _], _ => rfl) fun f fd F => ok_law_take Y.B (k__law_mixed Y) F
theorem k__law_gcd (Y : Kc K mg) : C8.Cal P w K mg base 1 "_law_gcd" spLGcd [] :=
  cal_of Y Y.kf.d__law_gcd ["_law_one", "_law_other"] (fun _ _ _ _ _ _ us hl => match us, hl with | [_, _], _ => rfl) fun f fd F => ok_law_gcd Y.B F
theorem k__law_ratio (Y : Kc K mg) : C8.Cal P w K mg base 2 "_law_ratio" spLRatio [] :=
  cal_of Y Y.kf.d__law_ratio ["_law_top", "_law_bottom"] (fun _ _ _ _ _ _ us hl => match us, hl with | [_, _], _ => rfl) fun f fd F => ok_law_ratio (k__law_gcd Y) F
theorem k__law_figures (Y : Kc K mg) : C8.Cal P w K mg base 3 "_law_figures" spFigs [] :=
  cal_of Y Y.kf.d__law_figures ["_law_hand_here"] (fun _ _ _ _ _ _ us hl => match us, hl with | [_], _ => rfl) fun f fd F => ok_law_figures (k__law_take Y) F
theorem k__law_list (Y : Kc K mg) : C8.Cal P w K mg base 3 "_law_list" spList [] :=
  cal_of Y Y.kf.d__law_list ["_law_hand_here", "_law_items"] (fun _ _ _ _ _ _ us hl => match us, hl with | [_, _], _ => rfl) fun f fd F => ok_law_list Y.B (k__law_take Y) F
theorem k_ex0 (Y : Kc K mg) : C8.Cal P w K mg base 1 "_law_exact" (spEx 0) [] :=
  cal_of Y Y.kf.d__law_exact ["_law_told_here", "_law_due_here"] (fun _ _ _ _ _ _ us hl => match us, hl with | [_, _], _ => rfl) fun f fd F => fnFalse fun vs H Q E h => by
    obtain ⟨u, v, _, z, _⟩ := h
    exact z
theorem k_ex1 (Y : Kc K mg) : C8.Cal P w K mg base 2 "_law_exact" (spEx 1) [] := cal_of Y Y.kf.d__law_exact ["_law_told_here", "_law_due_here"] (fun _ _ _ _ _ _ us hl => match us, hl with | [_, _], _ => rfl) fun f fd F => ok_law_exact Y.B (k_ex0 Y) F
theorem k_ex2 (Y : Kc K mg) : C8.Cal P w K mg base 3 "_law_exact" (spEx 2) [] := cal_of Y Y.kf.d__law_exact ["_law_told_here", "_law_due_here"] (fun _ _ _ _ _ _ us hl => match us, hl with | [_, _], _ => rfl) fun f fd F => ok_law_exact Y.B (k_ex1 Y) F
theorem k_ex3 (Y : Kc K mg) : C8.Cal P w K mg base 4 "_law_exact" (spEx 3) [] := cal_of Y Y.kf.d__law_exact ["_law_told_here", "_law_due_here"] (fun _ _ _ _ _ _ us hl => match us, hl with | [_, _], _ => rfl) fun f fd F => ok_law_exact Y.B (k_ex2 Y) F
theorem k_ex4 (Y : Kc K mg) : C8.Cal P w K mg base 5 "_law_exact" (spEx 4) [] := cal_of Y Y.kf.d__law_exact ["_law_told_here", "_law_due_here"] (fun _ _ _ _ _ _ us hl => match us, hl with | [_, _], _ => rfl) fun f fd F => ok_law_exact Y.B (k_ex3 Y) F
theorem FigK.T {C : Addr} (k : FigK K C) : FgT K C := ⟨k.c.cl, k.n1, k.n2, k.n3⟩
theorem PartsK.T {C : Addr} (k : PartsK K C) : PaT K C := ⟨k.c.cl, k.n1, k.n2, k.n3⟩
theorem Kc.gi12 (Y : Kc K mg) {x : Str} (e : ∃ t, PySem.W.nsIn K mainGlobals x = some (some (.int 12 t))) : GI mg x 12 := by
  obtain ⟨t, e⟩ := e
  exact ⟨_, Y.g e, ⟨_, rfl⟩⟩
theorem k_BadRow {CB : Addr} (Y : Kc K mg) (bk : BadRowK K CB) : BadK P w K mg base CB := by
  obtain ⟨Bc, pk⟩ := Y.kf.pe
  obtain ⟨f, fd, a, t, M, F, df⟩ := bk.init.ex
  exact ⟨f, fd, _, bk.o, a, t, ok_BadRow ⟨⟨Y.g pk.a, pk.ga, pk.rd, pk.fi⟩, bk.o, bk.n1, bk.n2⟩ F, F.binds df (fun _ _ _ _ _ _ us hl => match us, hl with | [_, _, _], _ => rfl), Y.g bk.a⟩
theorem BadRowK.W {CB : Addr} (Y : Kc K mg) (bk : BadRowK K CB) : BadW K mg CB := ⟨Y.g bk.a, bk.xf, bk.n1, bk.n2, bk.te⟩
structure CA (R : Type) [NumC R] (P : Program) (w : World) (K : PySem.W.Frag) (mg : Str → Option Value) (base : Heap) (C : Addr) : Prop where
  M : FgM R P w K mg base C
  num : C8.Cal P w K mg base 1 "_law_num" (spNum R) []
  plus : C8.Cal P w K mg base 3 "_law_plus" (spL2 R fun x y => x + y) []
  times : C8.Cal P w K mg base 3 "_law_times" (spL2 R fun x y => x * y) []
  less : C8.Cal P w K mg base 4 "_law_less" (spL2 R fun x y => x - y) []
  number : C8.Cal P w K mg base 3 "_law_number" (spDraw R fun _ => True) []
  unlike : C8.Cal P w K mg base 3 "_law_unlike" (spDraw R fun x => x ≠ 0) []
theorem fin_10 {n : Nat} [NeZero n] (h : 2 ≤ n) : (1 : Fin n) ≠ 0 := fun z => by
  have e : ((1 : Fin n).val) = ((0 : Fin n).val) := congrArg Fin.val z
  have e2 : 1 % n = 0 % n := e
  rw [Nat.mod_eq_of_lt (by omega), Nat.zero_mod] at e2
  omega
theorem mQ_plus {C : Addr} (Y : Kc K mg) (FK : FigK K C) : C8.Met P w K mg base 4 C "plus" (spF2 Rat C (fun x y => x + y)) [] :=
  met_of FK.c.cl FK.plus ["self", "one", "other"] (fun _ _ _ _ _ _ us hl => match us, hl with | [_, _, _], _ => rfl) fun f fd F => okQ_plus FK.T F (k_ratio_plus Y)
theorem mQ_minus {C : Addr} (Y : Kc K mg) (FK : FigK K C) : C8.Met P w K mg base 5 C "minus" (spF2 Rat C (fun x y => x - y)) [] :=
  met_of FK.c.cl FK.minus ["self", "one", "other"] (fun _ _ _ _ _ _ us hl => match us, hl with | [_, _, _], _ => rfl) fun f fd F => okQ_minus FK.T F (k_ratio_minus Y)
theorem mQ_times {C : Addr} (Y : Kc K mg) (FK : FigK K C) : C8.Met P w K mg base 4 C "times" (spF2 Rat C (fun x y => x * y)) [] :=
  met_of FK.c.cl FK.times ["self", "one", "other"] (fun _ _ _ _ _ _ us hl => match us, hl with | [_, _, _], _ => rfl) fun f fd F => okQ_times FK.T F (k_ratio_times Y)
theorem mQ_over {C : Addr} (Y : Kc K mg) (FK : FigK K C) : C8.Met P w K mg base 4 C "over" (spFo Rat C) [] :=
  met_of FK.c.cl FK.over ["self", "one", "other"] (fun _ _ _ _ _ _ us hl => match us, hl with | [_, _, _], _ => rfl) fun f fd F => okQ_over FK.T F (k_ratio_over Y) (k_rest_undone Y)
theorem mQ_negative {C : Addr} (Y : Kc K mg) (FK : FigK K C) : C8.Met P w K mg base 1 C "negative" (spF1 Rat C (fun x => -x)) [] :=
  met_of FK.c.cl FK.negative ["self", "one"] (fun _ _ _ _ _ _ us hl => match us, hl with | [_, _], _ => rfl) fun f fd F => okQ_negative FK.T F
theorem mQ_is_number {C : Addr} (Y : Kc K mg) (FK : FigK K C) : C8.Met P w K mg base 3 C "is_number" (spFn Rat C) [] :=
  met_of FK.c.cl FK.is_number ["self", "thing"] (fun _ _ _ _ _ _ us hl => match us, hl with | [_, _], _ => rfl) fun f fd F => okQ_is_number FK.T F (k_is_ratio Y) (k_is_whole3 Y)
theorem kQ__law_num (Y : Kc K mg) : C8.Cal P w K mg base 1 "_law_num" (spNum Rat) [] :=
  cal_of Y Y.kf.d__law_num ["_law_p", "_law_many"] (fun _ _ _ _ _ _ us hl => match us, hl with | [_, _], _ => rfl) fun f fd F => okQ_law_num F Y.B
theorem kQ__law_times (Y : Kc K mg) : C8.Cal P w K mg base 3 "_law_times" (spL2 Rat fun x y => x * y) [] :=
  cal_of Y Y.kf.d__law_times ["_law_p", "_law_one", "_law_other"] (fun _ _ _ _ _ _ us hl => match us, hl with | [_, _, _], _ => rfl) fun f fd F => okQ_law_times (k__law_ratio Y) F Y.B
theorem kQ__law_plus (Y : Kc K mg) : C8.Cal P w K mg base 3 "_law_plus" (spL2 Rat fun x y => x + y) [] :=
  cal_of Y Y.kf.d__law_plus ["_law_p", "_law_one", "_law_other"] (fun _ _ _ _ _ _ us hl => match us, hl with | [_, _, _], _ => rfl) fun f fd F => okQ_law_plus (k__law_ratio Y) F Y.B
theorem kQ__law_less (Y : Kc K mg) : C8.Cal P w K mg base 4 "_law_less" (spL2 Rat fun x y => x - y) [] :=
  cal_of Y Y.kf.d__law_less ["_law_p", "_law_one", "_law_other"] (fun _ _ _ _ _ _ us hl => match us, hl with | [_, _, _], _ => rfl) fun f fd F => okQ_law_less (kQ__law_plus Y) F Y.B
theorem kQ__law_number (Y : Kc K mg) : C8.Cal P w K mg base 3 "_law_number" (spDraw Rat fun _ => True) [] :=
  cal_of Y Y.kf.d__law_number ["_law_hand_here", "_law_p"] (fun _ _ _ _ _ _ us hl => match us, hl with | [_, _], _ => rfl) fun f fd F => okQ_law_number (k__law_take Y) (k__law_ratio Y) F
theorem kQ__law_unlike (Y : Kc K mg) : C8.Cal P w K mg base 3 "_law_unlike" (spDraw Rat fun x => x ≠ 0) [] :=
  cal_of Y Y.kf.d__law_unlike ["_law_hand_here", "_law_p"] (fun _ _ _ _ _ _ us hl => match us, hl with | [_, _], _ => rfl) fun f fd F => okQ_law_unlike Y.B (k__law_take Y) (k__law_ratio Y) F
theorem caQ {C : Addr} (Y : Kc K mg) (FK : FigK K C) : CA Rat P w K mg base C :=
  ⟨⟨FK.T, by decide, mQ_plus Y FK, mQ_minus Y FK, mQ_times Y FK, mQ_over Y FK, mQ_negative Y FK, mQ_is_number Y FK⟩, kQ__law_num Y, kQ__law_plus Y, kQ__law_times Y, kQ__law_less Y, kQ__law_number Y, kQ__law_unlike Y⟩
theorem mF_plus {C : Addr} {n : Nat} [NeZero n] (h2 : 2 ≤ n) (hn : n ≤ 13) (Y : Kc K mg) (FK : FigK K C) : C8.Met P w K mg base 4 C "plus" (spF2 (Fin n) C (fun x y => x + y)) [] :=
  met_of FK.c.cl FK.plus ["self", "one", "other"] (fun _ _ _ _ _ _ us hl => match us, hl with | [_, _, _], _ => rfl) fun f fd F => okF_plus hn FK.T F (k_ratio_plus Y)
theorem mF_minus {C : Addr} {n : Nat} [NeZero n] (h2 : 2 ≤ n) (hn : n ≤ 13) (Y : Kc K mg) (FK : FigK K C) : C8.Met P w K mg base 5 C "minus" (spF2 (Fin n) C (fun x y => x - y)) [] :=
  met_of FK.c.cl FK.minus ["self", "one", "other"] (fun _ _ _ _ _ _ us hl => match us, hl with | [_, _, _], _ => rfl) fun f fd F => okF_minus hn FK.T F (k_ratio_minus Y)
theorem mF_times {C : Addr} {n : Nat} [NeZero n] (h2 : 2 ≤ n) (hn : n ≤ 13) (Y : Kc K mg) (FK : FigK K C) : C8.Met P w K mg base 4 C "times" (spF2 (Fin n) C (fun x y => x * y)) [] :=
  met_of FK.c.cl FK.times ["self", "one", "other"] (fun _ _ _ _ _ _ us hl => match us, hl with | [_, _, _], _ => rfl) fun f fd F => okF_times hn FK.T F (k_ratio_times Y)
theorem mF_over {C : Addr} {n : Nat} [NeZero n] (h2 : 2 ≤ n) (hn : n ≤ 13) (Y : Kc K mg) (FK : FigK K C) : C8.Met P w K mg base 4 C "over" (spFo (Fin n) C) [] :=
  met_of FK.c.cl FK.over ["self", "one", "other"] (fun _ _ _ _ _ _ us hl => match us, hl with | [_, _, _], _ => rfl) fun f fd F => okF_over h2 hn FK.T F (k_ratio_over Y) (k_rest_undone Y)
theorem mF_negative {C : Addr} {n : Nat} [NeZero n] (h2 : 2 ≤ n) (hn : n ≤ 13) (Y : Kc K mg) (FK : FigK K C) : C8.Met P w K mg base 1 C "negative" (spF1 (Fin n) C (fun x => -x)) [] :=
  met_of FK.c.cl FK.negative ["self", "one"] (fun _ _ _ _ _ _ us hl => match us, hl with | [_, _], _ => rfl) fun f fd F => okF_negative hn FK.T F
theorem mF_is_number {C : Addr} {n : Nat} [NeZero n] (h2 : 2 ≤ n) (hn : n ≤ 13) (Y : Kc K mg) (FK : FigK K C) : C8.Met P w K mg base 3 C "is_number" (spFn (Fin n) C) [] :=
  met_of FK.c.cl FK.is_number ["self", "thing"] (fun _ _ _ _ _ _ us hl => match us, hl with | [_, _], _ => rfl) fun f fd F => okF_is_number FK.T F (k_is_ratio Y) (k_is_whole3 Y)
theorem kF__law_num {n : Nat} [NeZero n] (h2 : 2 ≤ n) (hn : n ≤ 13) (Y : Kc K mg) : C8.Cal P w K mg base 1 "_law_num" (spNum (Fin n)) [] :=
  cal_of Y Y.kf.d__law_num ["_law_p", "_law_many"] (fun _ _ _ _ _ _ us hl => match us, hl with | [_, _], _ => rfl) fun f fd F => okF_law_num F Y.B
theorem kF__law_times {n : Nat} [NeZero n] (h2 : 2 ≤ n) (hn : n ≤ 13) (Y : Kc K mg) : C8.Cal P w K mg base 3 "_law_times" (spL2 (Fin n) fun x y => x * y) [] :=
  cal_of Y Y.kf.d__law_times ["_law_p", "_law_one", "_law_other"] (fun _ _ _ _ _ _ us hl => match us, hl with | [_, _, _], _ => rfl) fun f fd F => okF_law_times hn (k__law_ratio Y) F Y.B
theorem kF__law_plus {n : Nat} [NeZero n] (h2 : 2 ≤ n) (hn : n ≤ 13) (Y : Kc K mg) : C8.Cal P w K mg base 3 "_law_plus" (spL2 (Fin n) fun x y => x + y) [] :=
  cal_of Y Y.kf.d__law_plus ["_law_p", "_law_one", "_law_other"] (fun _ _ _ _ _ _ us hl => match us, hl with | [_, _, _], _ => rfl) fun f fd F => okF_law_plus (k__law_ratio Y) F Y.B
theorem kF__law_less {n : Nat} [NeZero n] (h2 : 2 ≤ n) (hn : n ≤ 13) (Y : Kc K mg) : C8.Cal P w K mg base 4 "_law_less" (spL2 (Fin n) fun x y => x - y) [] :=
  cal_of Y Y.kf.d__law_less ["_law_p", "_law_one", "_law_other"] (fun _ _ _ _ _ _ us hl => match us, hl with | [_, _, _], _ => rfl) fun f fd F => okF_law_less (kF__law_plus h2 hn Y) F Y.B
theorem kF__law_number {n : Nat} [NeZero n] (h2 : 2 ≤ n) (hn : n ≤ 13) (Y : Kc K mg) : C8.Cal P w K mg base 3 "_law_number" (spDraw (Fin n) fun _ => True) [] :=
  cal_of Y Y.kf.d__law_number ["_law_hand_here", "_law_p"] (fun _ _ _ _ _ _ us hl => match us, hl with | [_, _], _ => rfl) fun f fd F => okF_law_number hn (k__law_take Y) (k__law_ratio Y) F
theorem kF__law_unlike {n : Nat} [NeZero n] (h2 : 2 ≤ n) (hn : n ≤ 13) (Y : Kc K mg) : C8.Cal P w K mg base 3 "_law_unlike" (spDraw (Fin n) fun x => x ≠ 0) [] :=
  cal_of Y Y.kf.d__law_unlike ["_law_hand_here", "_law_p"] (fun _ _ _ _ _ _ us hl => match us, hl with | [_, _], _ => rfl) fun f fd F => okF_law_unlike Y.B h2 hn (k__law_take Y) (k__law_ratio Y) F
theorem caF {C : Addr} {n : Nat} [NeZero n] (h2 : 2 ≤ n) (hn : n ≤ 13) (Y : Kc K mg) (FK : FigK K C) : CA (Fin n) P w K mg base C :=
  ⟨⟨FK.T, fin_10 h2, mF_plus h2 hn Y FK, mF_minus h2 hn Y FK, mF_times h2 hn Y FK, mF_over h2 hn Y FK, mF_negative h2 hn Y FK, mF_is_number h2 hn Y FK⟩, kF__law_num h2 hn Y, kF__law_plus h2 hn Y, kF__law_times h2 hn Y, kF__law_less h2 hn Y, kF__law_number h2 hn Y, kF__law_unlike h2 hn Y⟩
section
variable {R : Type} [NumC R] {C : Addr}
theorem k_check_poly (Y : Kc K mg) (A : CA R P w K mg base C) : C8.Cal P w K mg base 4 "check_poly" (spCheckPoly R C) [] :=
  cal_of Y Y.kf.d_check_poly ["figures", "poly"] (fun _ _ _ _ _ _ us hl => match us, hl with | [_, _], _ => rfl) fun f fd F => ok_check_poly A.M Y.B (Y.gi12 Y.kf.mn) F
theorem k_without_zeros (Y : Kc K mg) (A : CA R P w K mg base C) : C8.Cal P w K mg base 1 "without_zeros" (spTrim R C) [] :=
  cal_of Y Y.kf.d_without_zeros ["figures", "numbers"] (fun _ _ _ _ _ _ us hl => match us, hl with | [_, _], _ => rfl) fun f fd F => ok_without_zeros A.M Y.B F
theorem k_plain_over (Y : Kc K mg) (A : CA R P w K mg base C) : C8.Cal P w K mg base 6 "plain_over" (spOver R C) [] :=
  cal_of Y Y.kf.d_plain_over ["figures", "one", "other"] (fun _ _ _ _ _ _ us hl => match us, hl with | [_, _, _], _ => rfl) fun f fd F => ok_plain_over A.M Y.B (k_without_zeros Y A) F
theorem k_plain_led (Y : Kc K mg) (A : CA R P w K mg base C) : C8.Cal P w K mg base 5 "plain_led" (spLed R C) [] :=
  cal_of Y Y.kf.d_plain_led ["figures", "poly"] (fun _ _ _ _ _ _ us hl => match us, hl with | [_, _], _ => rfl) fun f fd F => ok_plain_led A.M Y.B F
theorem k_check_not_zero (Y : Kc K mg) (A : CA R P w K mg base C) : C8.Cal P w K mg base 5 "check_not_zero" (spCheckPoly R C) [] :=
  cal_of Y Y.kf.d_check_not_zero ["figures", "poly"] (fun _ _ _ _ _ _ us hl => match us, hl with | [_, _], _ => rfl) fun f fd F => ok_check_not_zero A.M (k_check_poly Y A) F
theorem k_value_at (Y : Kc K mg) (A : CA R P w K mg base C) : C8.Cal P w K mg base 5 "value_at" (spValue R C) [] :=
  cal_of Y Y.kf.d_value_at ["figures", "poly", "number"] (fun _ _ _ _ _ _ us hl => match us, hl with | [_, _, _], _ => rfl) fun f fd F => ok_value_at A.M Y.B (k_check_poly Y A) F
theorem k_divided_out (Y : Kc K mg) (A : CA R P w K mg base C) : C8.Cal P w K mg base 7 "divided_out" (spDiv R C) [] :=
  cal_of Y Y.kf.d_divided_out ["figures", "poly", "root"] (fun _ _ _ _ _ _ us hl => match us, hl with | [_, _, _], _ => rfl) fun f fd F => ok_divided_out A.M (k_plain_over Y A) F
theorem k__law_zero (Y : Kc K mg) (A : CA R P w K mg base C) : C8.Cal P w K mg base 2 "_law_zero" (spZero R) [] :=
  cal_of Y Y.kf.d__law_zero ["_law_p", "_law_one"] (fun _ _ _ _ _ _ us hl => match us, hl with | [_, _], _ => rfl) fun f fd F => ok_law_zero A.num F
theorem k__law_numbers (Y : Kc K mg) (A : CA R P w K mg base C) : C8.Cal P w K mg base 4 "_law_numbers" (spNumbers R) [] :=
  cal_of Y Y.kf.d__law_numbers ["_law_hand_here", "_law_p", "_law_many"] (fun _ _ _ _ _ _ us hl => match us, hl with | [_, _, _], _ => rfl) fun f fd F => ok_law_numbers Y.B A.number F
theorem k__law_multiplied (Y : Kc K mg) (A : CA R P w K mg base C) : C8.Cal P w K mg base 4 "_law_multiplied" (spMul R) [] :=
  cal_of Y Y.kf.d__law_multiplied ["_law_p", "_law_one", "_law_other"] (fun _ _ _ _ _ _ us hl => match us, hl with | [_, _, _], _ => rfl) fun f fd F => ok_law_multiplied Y.B A.num A.plus A.times F
theorem k__law_lead (Y : Kc K mg) (A : CA R P w K mg base C) : C8.Cal P w K mg base 3 "_law_lead" (spLead R) [] :=
  cal_of Y Y.kf.d__law_lead ["_law_p", "_law_taps"] (fun _ _ _ _ _ _ us hl => match us, hl with | [_, _], _ => rfl) fun f fd F => ok_law_lead Y.B (k__law_zero Y A) F
theorem k__law_chosen (Y : Kc K mg) (A : CA R P w K mg base C) : C8.Cal P w K mg base 4 "_law_chosen" (spChosen R) [] :=
  cal_of Y Y.kf.d__law_chosen ["_law_hand_here", "_law_p", "_law_many"] (fun _ _ _ _ _ _ us hl => match us, hl with | [_, _, _], _ => rfl) fun f fd F => ok_law_chosen Y.B (k__law_take Y) A.number A.unlike F
theorem k__law_made (Y : Kc K mg) (A : CA R P w K mg base C) : C8.Cal P w K mg base 5 "_law_made" (spMade R) [] :=
  cal_of Y Y.kf.d__law_made ["_law_p", "_law_chosen_here"] (fun _ _ _ _ _ _ us hl => match us, hl with | [_, _], _ => rfl) fun f fd F => ok_law_made Y.B A.num A.less A.times (k__law_multiplied Y A) F
theorem k__law_told (Y : Kc K mg) (A : CA R P w K mg base C) : C8.Cal P w K mg base 5 "_law_told" (spTold R) [] :=
  cal_of Y Y.kf.d__law_told ["_law_p", "_law_taps", "_law_roots_here"] (fun _ _ _ _ _ _ us hl => match us, hl with | [_, _, _], _ => rfl) fun f fd F => ok_law_told Y.B A.num A.less A.times (k__law_lead Y A) F
theorem k_check_row (Y : Kc K mg) {CB : Addr} (A : CA R P w K mg base C) (bk : BadRowK K CB) : CalX P w K mg base 4 "check_row" (spRow R C CB) :=
  calX_of Y Y.kf.d_check_row ["figures", "row", "low", "high", "what"] (fun _ _ _ _ _ _ us hl => match us, hl with | [_, _, _, _, _], _ => rfl) fun f fd F => ok_check_row A.M Y.B (k_BadRow Y bk) (k_is_sequence Y) F
theorem k_Parts {C2 : Addr} (Y : Kc K mg) (pk : PartsK K C2) : C8.Mak P w K mg base 1 "Parts" C2 (spPInit C2) [] :=
  mak_of Y pk.c pk.init ["self", "lead", "roots", "rest"] (fun _ _ _ _ _ _ us hl => match us, hl with | [_, _, _, _], _ => rfl) fun f fd F => ok_Parts pk.T F
theorem k_parts_of (Y : Kc K mg) {C2 : Addr} {Pre : List R → Prop} {G : List R → List R → Prop} (hG : ∀ g rs, G g rs → ∀ r ∈ rs, ev g r = 0) (hGl : ∀ g rs, G g rs → rs.length ≤ 100000) (A : CA R P w K mg base C) (pk : PartsK K C2) (hr : C8.Cal P w K mg base 12 "plain_roots" (spRoots R C Pre G) []) : C8.Cal P w K mg base 13 "parts_of" (spParts R C C2 Pre G) [] :=
  cal_of Y Y.kf.d_parts_of ["figures", "poly"] (fun _ _ _ _ _ _ us hl => match us, hl with | [_, _], _ => rfl) fun f fd F => ok_parts_of hG hGl A.M pk.T Y.B 7 (Nat.le_refl _) (k_check_not_zero Y A) hr (k_divided_out Y A) (k_plain_led Y A) (k_Parts Y pk) F
end
theorem kQ_plain_roots {C : Addr} (Y : Kc K mg) (FK : FigK K C) : C8.Cal P w K mg base 12 "plain_roots" (spRoots Rat C (Bds 100) GoodR) [] :=
  cal_of Y Y.kf.d_plain_roots ["figures", "poly"] (fun _ _ _ _ _ _ us hl => match us, hl with | [_, _], _ => rfl) fun f fd F => okQ_plain_roots (caQ Y FK).M Y.B (k_fraction_roots Y) F
theorem mF_all {C : Addr} {n : Nat} [NeZero n] (h2 : 2 ≤ n) (hn : n ≤ 13) (Y : Kc K mg) (FK : FigK K C) : C8.Met P w K mg base 1 C "all_numbers" (spAll (n := n) C) [] :=
  met_of FK.c.cl FK.all_numbers ["self"] (fun _ _ _ _ _ _ us hl => match us, hl with | [_], _ => rfl) fun f fd F => okF_all hn FK.T Y.B F
theorem kF_plain_roots {C : Addr} {n : Nat} [NeZero n] (h2 : 2 ≤ n) (hn : n ≤ 13) (Y : Kc K mg) (FK : FigK K C) : C8.Cal P w K mg base 12 "plain_roots" (spRoots (Fin n) C (fun _ => True) GoodF) [] :=
  cal_of Y Y.kf.d_plain_roots ["figures", "poly"] (fun _ _ _ _ _ _ us hl => match us, hl with | [_, _], _ => rfl) fun f fd F => okF_plain_roots hn (caF h2 hn Y FK).M Y.B (mF_all h2 hn Y FK) (k_value_at Y (caF h2 hn Y FK)) F
theorem ix_2 {n : Nat} (h : n ∈ [2, 3, 5, 7, 11, 13]) : 2 ≤ n := by
  simp only [List.mem_cons, List.not_mem_nil, or_false] at h
  omega
theorem ix_13 {n : Nat} (h : n ∈ [2, 3, 5, 7, 11, 13]) : n ≤ 13 := by
  simp only [List.mem_cons, List.not_mem_nil, or_false] at h
  omega
theorem caI {C : Addr} (Y : Kc K mg) (FK : FigK K C) : ∀ i : Ix, CA i.R P w K mg base C
  | .q => caQ Y FK
  | .f n h => haveI := ix_pos h; caF (ix_2 h) (ix_13 h) Y FK
theorem rootI {C : Addr} (Y : Kc K mg) (FK : FigK K C) : ∀ i : Ix, C8.Cal P w K mg base 12 "plain_roots" (spRoots i.R C (Pr i) (Gd i)) []
  | .q => kQ_plain_roots Y FK
  | .f n h => haveI := ix_pos h; kF_plain_roots (ix_2 h) (ix_13 h) Y FK
theorem gdF {n : Nat} [NeZero n] (g rs : List (Fin n)) (h : GoodF g rs) : (∀ r ∈ rs, ev g r = 0) ∧ rs.length ≤ n := by
  have e : rs = rootsF g := h
  subst e
  refine ⟨fun r hr => of_decide_eq_true (List.mem_filter.mp hr).2, ?_⟩
  have := List.length_filter_le (fun r : Fin n => decide (ev g r = 0)) (List.finRange n)
  rw [List.length_finRange] at this
  exact this
theorem gdI : ∀ (i : Ix) g rs, Gd i g rs → ∀ r ∈ rs, ev g r = 0
  | .q => fun g rs h r hr => (h.2.1 r).1 hr
  | .f n h => haveI := ix_pos h; fun g rs z => (gdF g rs z).1
theorem gdL : ∀ (i : Ix) g rs, Gd i g rs → rs.length ≤ 100000
  | .q => fun g rs h => h.2.2
  | .f n h => haveI := ix_pos h; fun g rs z => Nat.le_trans (gdF g rs z).2 (Nat.le_trans (ix_13 h) (by decide))
theorem of_divInt (z : Int) : (NumC.of z : Rat) = Rat.divInt z 1 := by
  show ((z : Int) : Rat) = _
  rw [Rat.divInt_eq_div]
  grind
theorem hofI : ∀ (i : Ix) (z : Int), -3 ≤ z → z ≤ 3 → NumC.Bd 1 (NumC.of z : i.R)
  | .q => fun z h1 h2 => by
    show NumC.Bd 1 (NumC.of z : Rat)
    rw [of_divInt]
    exact small_bd h1 h2 (.inl rfl)
  | .f n h => fun _ _ _ => trivial
theorem partI {C C2 : Addr} (Y : Kc K mg) (FK : FigK K C) (pk : PartsK K C2) (i : Ix) : C8.Cal P w K mg base 13 "parts_of" (spParts i.R C C2 (Pr i) (Gd i)) [] :=
  k_parts_of Y (gdI i) (gdL i) (caI Y FK i) pk (rootI Y FK i)
theorem fnApart {C C2 CB : Addr} (Y : Kc K mg) (FK : FigK K C) (pk : PartsK K C2) (bk : BadRowK K CB) (i : Ix) {f : Addr} {fd : FuncData} (F : C8.Fun K "taps_apart" "taps_apart" s_taps_apart f fd) : FnOk P w K mg base (L2.CX P w) 14 f fd ["figures", "taps"] (spApart i.R C CB (Pr i) (Gd i)) :=
  ok_taps_apart (gdI i) (caI Y FK i).M pk.T Y.B (Y.gi12 Y.kf.ma) (k_check_row Y (caI Y FK i) bk) (partI Y FK pk i) F
theorem apartI {C C2 CB : Addr} (Y : Kc K mg) (FK : FigK K C) (pk : PartsK K C2) (bk : BadRowK K CB) (i : Ix) : CalX P w K mg base 14 "taps_apart" (spApart i.R C CB (Pr i) (Gd i)) :=
  calX_of Y Y.kf.d_taps_apart ["figures", "taps"] (fun _ _ _ _ _ _ us hl => match us, hl with | [_, _], _ => rfl) fun f fd F => fnApart Y FK pk bk i F
theorem apartU {C C2 CB : Addr} (Y : Kc K mg) (FK : FigK K C) (pk : PartsK K C2) (bk : BadRowK K CB) : CalX P w K mg base 14 "taps_apart" (U fun i => spApart i.R C CB (Pr i) (Gd i)) :=
  calX_of Y Y.kf.d_taps_apart ["figures", "taps"] (fun _ _ _ _ _ _ us hl => match us, hl with | [_, _], _ => rfl) fun f fd F => fnU fun i => fnApart Y FK pk bk i F
theorem figU {C : Addr} (Y : Kc K mg) (FK : FigK K C) : C8.Mak P w K mg base 2 "Figures" C (U fun i => spFInit i.R C) [] := by
  obtain ⟨kp, a, hq⟩ := Y.kf.kn
  exact mak_of Y FK.c FK.init ["self", "prime"] (fun _ _ _ _ _ _ us hl => match us, hl with | [_, _], _ => rfl) fun f fd F => fnU fun i => match i with
    | .q => okQ_Figures FK.T (k_is_whole1 Y) ⟨_, Y.g a, rfl⟩ hq F
    | .f n h => haveI := ix_pos h; okF_Figures (ix_2 h) FK.T (k_is_whole1 Y) ⟨_, Y.g a, rfl⟩ hq F
theorem u__law_num {C : Addr} (Y : Kc K mg) (FK : FigK K C) : C8.Cal P w K mg base 1 "_law_num" (U fun i => spNum i.R) [] :=
  cal_of Y Y.kf.d__law_num ["_law_p", "_law_many"] (fun _ _ _ _ _ _ us hl => match us, hl with | [_, _], _ => rfl) fun f fd F => fnU fun i => match i with
    | .q => okQ_law_num F Y.B
    | .f n h => haveI := ix_pos h; okF_law_num F Y.B
theorem u__law_none {C : Addr} (Y : Kc K mg) (FK : FigK K C) : C8.Cal P w K mg base 1 "_law_none" (U fun i => spNone i.R) [] :=
  cal_of Y Y.kf.d__law_none ["_law_p"] (fun _ _ _ _ _ _ us hl => match us, hl with | [_], _ => rfl) fun f fd F => fnU fun i => match i with
    | .q => okQ_law_none F
    | .f n h => haveI := ix_pos h; okF_law_none F
theorem u__law_multiplied {C : Addr} (Y : Kc K mg) (FK : FigK K C) : C8.Cal P w K mg base 4 "_law_multiplied" (U fun i => spMul i.R) [] :=
  cal_of Y Y.kf.d__law_multiplied ["_law_p", "_law_one", "_law_other"] (fun _ _ _ _ _ _ us hl => match us, hl with | [_, _, _], _ => rfl) fun f fd F => fnU fun i => ok_law_multiplied Y.B (caI Y FK i).num (caI Y FK i).plus (caI Y FK i).times F
theorem u__law_drawn {C : Addr} (Y : Kc K mg) (FK : FigK K C) : C8.Cal P w K mg base 6 "_law_drawn" (U fun i => spDrawn i.R) [] :=
  cal_of Y Y.kf.d__law_drawn ["_law_hand_here", "_law_p"] (fun _ _ _ _ _ _ us hl => match us, hl with | [_, _], _ => rfl) fun f fd F => fnU fun i => ok_law_drawn (hofI i) Y.B (k__law_take Y) (caI Y FK i).num (k__law_numbers Y (caI Y FK i)) (k__law_chosen Y (caI Y FK i)) (k__law_made Y (caI Y FK i)) (k__law_multiplied Y (caI Y FK i)) F
theorem wordU {C C2 CB : Addr} (Y : Kc K mg) (FK : FigK K C) (pk : PartsK K C2) (bk : BadRowK K CB) : C8.Cal P w K mg base 15 "_law_word" (U fun i => spWord i.R C (Pr i)) [] :=
  cal_of Y Y.kf.d__law_word ["_law_figures_here", "_law_taps"] (fun _ _ _ _ _ _ us hl => match us, hl with | [_, _], _ => rfl) fun f fd F => fnU fun i => ok_law_word (bk.W Y) (apartI Y FK pk bk i) F
theorem kF_value {n : Nat} [NeZero n] {C : Addr} (Y : Kc K mg) (A : CA (Fin n) P w K mg base C) : C8.Cal P w K mg base 4 "_law_value" (spLVal (Fin n)) [] :=
  cal_of Y Y.kf.d__law_value ["_law_p", "_law_poly", "_law_number_here"] (fun _ _ _ _ _ _ us hl => match us, hl with | [_, _, _], _ => rfl) fun f fd F => ok_law_value finB Y.B A.num A.plus A.times F
theorem kF_roots {n : Nat} [NeZero n] {C : Addr} (hn : n ≤ 13) (Y : Kc K mg) (A : CA (Fin n) P w K mg base C) : C8.Cal P w K mg base 5 "_law_roots" (spLRoots n) [] :=
  cal_of Y Y.kf.d__law_roots ["_law_p", "_law_poly"] (fun _ _ _ _ _ _ us hl => match us, hl with | [_, _], _ => rfl) fun f fd F => ok_law_roots hn Y.B (kF_value Y A) F
theorem kQ_roots (Y : Kc K mg) : C8.Cal P w K mg base 5 "_law_roots" (fun _ _ _ _ => False) [] :=
  cal_of Y Y.kf.d__law_roots ["_law_p", "_law_poly"] (fun _ _ _ _ _ _ us hl => match us, hl with | [_, _], _ => rfl) fun f fd F => fnFalse fun vs H Q E h => h
theorem dueU {C : Addr} (Y : Kc K mg) (FK : FigK K C) {f2 c : Addr} {fd2 : FuncData} (a2 : PySem.W.nsIn K mainGlobals "_law_due" = some (some (.ref f2))) (F2 : C8.Fun K "_law_due" "_law_due" s__law_due f2 fd2) (k2 : PySem.W.keepIn K (.ref f2) = true) (df2 : fd2.defaults = .none) (hc : fd2.code = .ref c) (TB : LamX.TabB base mg c 604) :
    C8.Cal P w K mg base 6 "_law_due" (U fun i => spDue i.R (LSi i) [(604, qLam)]) [] :=
  ⟨f2, fd2, ["_law_p", "_law_taps", "_law_roots_here"], [], fnU fun i => match i with
    | .q => okQ_law_due hc TB Y.B (caQ Y FK).num (k__law_lead Y (caQ Y FK)) (k__law_told Y (caQ Y FK)) (kQ_roots Y) F2
    | .f n h => haveI := ix_pos h; okF_law_due (ix_13 h) Y.B (caF (ix_2 h) (ix_13 h) Y FK).num (k__law_lead Y (caF (ix_2 h) (ix_13 h) Y FK)) (k__law_told Y (caF (ix_2 h) (ix_13 h) Y FK)) (kF_roots (ix_13 h) Y (caF (ix_2 h) (ix_13 h) Y FK)) F2, Y.g a2, k2, F2.binds df2 (fun _ _ _ _ _ _ us hl => match us, hl with | [_, _, _], _ => rfl), .nil⟩
end
/-- the whole -/
theorem all_mk {l : PySem.W.OpenLaw} {w : World} {K : PySem.W.Frag} {h : Heap} {mg : Str → Option Value} {fa : Addr} (kf : KF K) (X : K.In h) (G : h.Ns mainGlobals mg) (hfa : mg "law" = some (.ref fa))
    (hT : h.get? 604 = some { cls := .none, data := .fields #[] }) : LamX.LawAtS l w K C8.CX0 16 63 "_law_script" mg fa h := by
  have Y : Kc K mg := ⟨kf, h, X, G⟩
  obtain ⟨f, fd, a, F, kp, df⟩ := kf.d_law.ex
  have e := hfa.symm.trans (Y.g a)
  cases e
  obtain ⟨f2, c, fd2, a2, F2, k2, df2, hc, hh, hl⟩ := kf.due
  obtain ⟨C, FK⟩ := kf.fig
  obtain ⟨C2, pk⟩ := kf.par
  obtain ⟨CB, bk⟩ := kf.bad
  refine ⟨fd, [(c, 604)], spLaw K [(604, qLam)], fun q hq => ?_, fun q hq => ?_, fun q hq => ?_, ?_, fun H a ns hn hbit hP hS => ?_, fun base Kb Gb hTB => ?_⟩
  · cases List.mem_singleton.mp hq
    exact hT
  · cases List.mem_singleton.mp hq
    exact hl
  · cases List.mem_singleton.mp hq
    exact PySem.W.codeHd_of_K (c := c) (P := 604) X hh
  · obtain ⟨oc, od, dV, kV, doc, pm, an, cdv, ct, osl, rfl, lk, hcd⟩ := F.ex
    have z : dV = .none := df
    subst z
    exact fun s u => .of_eq rfl
  · refine ⟨a, ns, rfl, hS, hn, fun q hq => ?_, fun _ => rfl⟩
    cases List.mem_singleton.mp hq
    exact LamX.TabS.nil (hP (c, 604) (List.mem_singleton.mpr rfl))
  · have TB : LamX.TabB base mg c 604 := hTB (c, 604) (List.mem_singleton.mpr rfl)
    exact ok_law pl_all Y.B (k__law_hand Y) (k__law_figures Y) (figU Y FK) (u__law_drawn Y FK) (dueU Y FK a2 F2 k2 df2 hc TB) (k__law_list Y) (apartU Y FK pk bk) (k_ex4 Y) (u__law_num Y FK) (u__law_multiplied Y FK) (k__law_take Y) (u__law_none Y FK) (wordU Y FK pk bk) F
end Kw
section
open PySem PySem.W PyProof.Rows
set_option maxHeartbeats 0 in
open_top hdTop for PySem.Challenge.rw_sparedproducts_k74_whole_taps_come_apart
end
namespace Kw
open PySem PySem.Spec PyProof.Rows L2 RT
set_option maxHeartbeats 8000000
theorem kf_common_divisor (w : World) : DefAt (hdTop.heap_39 w.params) "common_divisor" s_common_divisor := by
  refine' DefAt.mk' ?a ?l ?c ?k
  (case a => k_is)
  (case l => k_is)
  (case c => k_is)
  (case k => k_is)
theorem kf_is_ratio (w : World) : DefAt (hdTop.heap_39 w.params) "is_ratio" s_is_ratio := by
  refine' DefAt.mk' ?a ?l ?c ?k
  (case a => k_is)
  (case l => k_is)
  (case c => k_is)
  (case k => k_is)
theorem kf_lowest_terms (w : World) : DefAt (hdTop.heap_39 w.params) "lowest_terms" s_lowest_terms := by
  refine' DefAt.mk' ?a ?l ?c ?k
  (case a => k_is)
  (case l => k_is)
  (case c => k_is)
  (case k => k_is)
theorem kf_ratio_plus (w : World) : DefAt (hdTop.heap_39 w.params) "ratio_plus" s_ratio_plus := by
  refine' DefAt.mk' ?a ?l ?c ?k
  (case a => k_is)
  (case l => k_is)
  (case c => k_is)
  (case k => k_is)
theorem kf_ratio_minus (w : World) : DefAt (hdTop.heap_39 w.params) "ratio_minus" s_ratio_minus := by
  refine' DefAt.mk' ?a ?l ?c ?k
  (case a => k_is)
  (case l => k_is)
  (case c => k_is)
  (case k => k_is)
theorem kf_ratio_times (w : World) : DefAt (hdTop.heap_39 w.params) "ratio_times" s_ratio_times := by
  refine' DefAt.mk' ?a ?l ?c ?k
  (case a => k_is)
  (case l => k_is)
  (case c => k_is)
  (case k => k_is)
theorem kf_ratio_over (w : World) : DefAt (hdTop.heap_39 w.params) "ratio_over" s_ratio_over := by
  refine' DefAt.mk' ?a ?l ?c ?k
  (case a => k_is)
  (case l => k_is)
  (case c => k_is)
  (case k => k_is)
theorem kf_rest_undone (w : World) : DefAt (hdTop.heap_39 w.params) "rest_undone" s_rest_undone := by
  refine' DefAt.mk' ?a ?l ?c ?k
  (case a => k_is)
  (case l => k_is)
  (case c => k_is)
  (case k => k_is)
theorem kf_check_poly (w : World) : DefAt (hdTop.heap_39 w.params) "check_poly" s_check_poly := by
  refine' DefAt.mk' ?a ?l ?c ?k
  (case a => k_is)
  (case l => k_is)
  (case c => k_is)
  (case k => k_is)
theorem kf_without_zeros (w : World) : DefAt (hdTop.heap_39 w.params) "without_zeros" s_without_zeros := by
  refine' DefAt.mk' ?a ?l ?c ?k
  (case a => k_is)
  (case l => k_is)
  (case c => k_is)
  (case k => k_is)
theorem kf_plain_over (w : World) : DefAt (hdTop.heap_39 w.params) "plain_over" s_plain_over := by
  refine' DefAt.mk' ?a ?l ?c ?k
  (case a => k_is)
  (case l => k_is)
  (case c => k_is)
  (case k => k_is)
theorem kf_plain_led (w : World) : DefAt (hdTop.heap_39 w.params) "plain_led" s_plain_led := by
  refine' DefAt.mk' ?a ?l ?c ?k
  (case a => k_is)
  (case l => k_is)
  (case c => k_is)
  (case k => k_is)
theorem kf_check_not_zero (w : World) : DefAt (hdTop.heap_39 w.params) "check_not_zero" s_check_not_zero := by
  refine' DefAt.mk' ?a ?l ?c ?k
  (case a => k_is)
  (case l => k_is)
  (case c => k_is)
  (case k => k_is)
theorem kf_value_at (w : World) : DefAt (hdTop.heap_39 w.params) "value_at" s_value_at := by
  refine' DefAt.mk' ?a ?l ?c ?k
  (case a => k_is)
  (case l => k_is)
  (case c => k_is)
  (case k => k_is)
theorem kf_divided_out (w : World) : DefAt (hdTop.heap_39 w.params) "divided_out" s_divided_out := by
  refine' DefAt.mk' ?a ?l ?c ?k
  (case a => k_is)
  (case l => k_is)
  (case c => k_is)
  (case k => k_is)
theorem kf_parts_of (w : World) : DefAt (hdTop.heap_39 w.params) "parts_of" s_parts_of := by
  refine' DefAt.mk' ?a ?l ?c ?k
  (case a => k_is)
  (case l => k_is)
  (case c => k_is)
  (case k => k_is)
theorem kf_whole_value (w : World) : DefAt (hdTop.heap_39 w.params) "whole_value" s_whole_value := by
  refine' DefAt.mk' ?a ?l ?c ?k
  (case a => k_is)
  (case l => k_is)
  (case c => k_is)
  (case k => k_is)
theorem kf_cleared_numbers (w : World) : DefAt (hdTop.heap_39 w.params) "cleared_numbers" s_cleared_numbers := by
  refine' DefAt.mk' ?a ?l ?c ?k
  (case a => k_is)
  (case l => k_is)
  (case c => k_is)
  (case k => k_is)
theorem kf_stretched_numbers (w : World) : DefAt (hdTop.heap_39 w.params) "stretched_numbers" s_stretched_numbers := by
  refine' DefAt.mk' ?a ?l ?c ?k
  (case a => k_is)
  (case l => k_is)
  (case c => k_is)
  (case k => k_is)
theorem kf_slopes_of (w : World) : DefAt (hdTop.heap_39 w.params) "slopes_of" s_slopes_of := by
  refine' DefAt.mk' ?a ?l ?c ?k
  (case a => k_is)
  (case l => k_is)
  (case c => k_is)
  (case k => k_is)
theorem kf_turning_place (w : World) : DefAt (hdTop.heap_39 w.params) "turning_place" s_turning_place := by
  refine' DefAt.mk' ?a ?l ?c ?k
  (case a => k_is)
  (case l => k_is)
  (case c => k_is)
  (case k => k_is)
theorem kf_root_places (w : World) : DefAt (hdTop.heap_39 w.params) "root_places" s_root_places := by
  refine' DefAt.mk' ?a ?l ?c ?k
  (case a => k_is)
  (case l => k_is)
  (case c => k_is)
  (case k => k_is)
theorem kf_fraction_roots (w : World) : DefAt (hdTop.heap_39 w.params) "fraction_roots" s_fraction_roots := by
  refine' DefAt.mk' ?a ?l ?c ?k
  (case a => k_is)
  (case l => k_is)
  (case c => k_is)
  (case k => k_is)
theorem kf_plain_roots (w : World) : DefAt (hdTop.heap_39 w.params) "plain_roots" s_plain_roots := by
  refine' DefAt.mk' ?a ?l ?c ?k
  (case a => k_is)
  (case l => k_is)
  (case c => k_is)
  (case k => k_is)
theorem kf_is_sequence (w : World) : DefAt (hdTop.heap_39 w.params) "is_sequence" s_is_sequence := by
  refine' DefAt.mk' ?a ?l ?c ?k
  (case a => k_is)
  (case l => k_is)
  (case c => k_is)
  (case k => k_is)
theorem kf_check_row (w : World) : DefAt (hdTop.heap_39 w.params) "check_row" s_check_row := by
  refine' DefAt.mk' ?a ?l ?c ?k
  (case a => k_is)
  (case l => k_is)
  (case c => k_is)
  (case k => k_is)
theorem kf_taps_apart (w : World) : DefAt (hdTop.heap_39 w.params) "taps_apart" s_taps_apart := by
  refine' DefAt.mk' ?a ?l ?c ?k
  (case a => k_is)
  (case l => k_is)
  (case c => k_is)
  (case k => k_is)
theorem kf__law_hand (w : World) : DefAt (hdTop.heap_39 w.params) "_law_hand" s__law_hand := by
  refine' DefAt.mk' ?a ?l ?c ?k
  (case a => k_is)
  (case l => k_is)
  (case c => k_is)
  (case k => k_is)
theorem kf__law_mixed (w : World) : DefAt (hdTop.heap_39 w.params) "_law_mixed" s__law_mixed := by
  refine' DefAt.mk' ?a ?l ?c ?k
  (case a => k_is)
  (case l => k_is)
  (case c => k_is)
  (case k => k_is)
theorem kf__law_take (w : World) : DefAt (hdTop.heap_39 w.params) "_law_take" s__law_take := by
  refine' DefAt.mk' ?a ?l ?c ?k
  (case a => k_is)
  (case l => k_is)
  (case c => k_is)
  (case k => k_is)
theorem kf__law_gcd (w : World) : DefAt (hdTop.heap_39 w.params) "_law_gcd" s__law_gcd := by
  refine' DefAt.mk' ?a ?l ?c ?k
  (case a => k_is)
  (case l => k_is)
  (case c => k_is)
  (case k => k_is)
theorem kf__law_ratio (w : World) : DefAt (hdTop.heap_39 w.params) "_law_ratio" s__law_ratio := by
  refine' DefAt.mk' ?a ?l ?c ?k
  (case a => k_is)
  (case l => k_is)
  (case c => k_is)
  (case k => k_is)
theorem kf__law_num (w : World) : DefAt (hdTop.heap_39 w.params) "_law_num" s__law_num := by
  refine' DefAt.mk' ?a ?l ?c ?k
  (case a => k_is)
  (case l => k_is)
  (case c => k_is)
  (case k => k_is)
theorem kf__law_times (w : World) : DefAt (hdTop.heap_39 w.params) "_law_times" s__law_times := by
  refine' DefAt.mk' ?a ?l ?c ?k
  (case a => k_is)
  (case l => k_is)
  (case c => k_is)
  (case k => k_is)
theorem kf__law_plus (w : World) : DefAt (hdTop.heap_39 w.params) "_law_plus" s__law_plus := by
  refine' DefAt.mk' ?a ?l ?c ?k
  (case a => k_is)
  (case l => k_is)
  (case c => k_is)
  (case k => k_is)
theorem kf__law_less (w : World) : DefAt (hdTop.heap_39 w.params) "_law_less" s__law_less := by
  refine' DefAt.mk' ?a ?l ?c ?k
  (case a => k_is)
  (case l => k_is)
  (case c => k_is)
  (case k => k_is)
theorem kf__law_zero (w : World) : DefAt (hdTop.heap_39 w.params) "_law_zero" s__law_zero := by
  refine' DefAt.mk' ?a ?l ?c ?k
  (case a => k_is)
  (case l => k_is)
  (case c => k_is)
  (case k => k_is)
theorem kf__law_figures (w : World) : DefAt (hdTop.heap_39 w.params) "_law_figures" s__law_figures := by
  refine' DefAt.mk' ?a ?l ?c ?k
  (case a => k_is)
  (case l => k_is)
  (case c => k_is)
  (case k => k_is)
theorem kf__law_number (w : World) : DefAt (hdTop.heap_39 w.params) "_law_number" s__law_number := by
  refine' DefAt.mk' ?a ?l ?c ?k
  (case a => k_is)
  (case l => k_is)
  (case c => k_is)
  (case k => k_is)
theorem kf__law_unlike (w : World) : DefAt (hdTop.heap_39 w.params) "_law_unlike" s__law_unlike := by
  refine' DefAt.mk' ?a ?l ?c ?k
  (case a => k_is)
  (case l => k_is)
  (case c => k_is)
  (case k => k_is)
theorem kf__law_numbers (w : World) : DefAt (hdTop.heap_39 w.params) "_law_numbers" s__law_numbers := by
  refine' DefAt.mk' ?a ?l ?c ?k
  (case a => k_is)
  (case l => k_is)
  (case c => k_is)
  (case k => k_is)
theorem kf__law_list (w : World) : DefAt (hdTop.heap_39 w.params) "_law_list" s__law_list := by
  refine' DefAt.mk' ?a ?l ?c ?k
  (case a => k_is)
  (case l => k_is)
  (case c => k_is)
  (case k => k_is)
theorem kf__law_none (w : World) : DefAt (hdTop.heap_39 w.params) "_law_none" s__law_none := by
  refine' DefAt.mk' ?a ?l ?c ?k
  (case a => k_is)
  (case l => k_is)
  (case c => k_is)
  (case k => k_is)
theorem kf__law_exact (w : World) : DefAt (hdTop.heap_39 w.params) "_law_exact" s__law_exact := by
  refine' DefAt.mk' ?a ?l ?c ?k
  (case a => k_is)
  (case l => k_is)
  (case c => k_is)
  (case k => k_is)
theorem kf__law_multiplied (w : World) : DefAt (hdTop.heap_39 w.params) "_law_multiplied" s__law_multiplied := by
  refine' DefAt.mk' ?a ?l ?c ?k
  (case a => k_is)
  (case l => k_is)
  (case c => k_is)
  (case k => k_is)
theorem kf__law_value (w : World) : DefAt (hdTop.heap_39 w.params) "_law_value" s__law_value := by
  refine' DefAt.mk' ?a ?l ?c ?k
  (case a => k_is)
  (case l => k_is)
  (case c => k_is)
  (case k => k_is)
theorem kf__law_lead (w : World) : DefAt (hdTop.heap_39 w.params) "_law_lead" s__law_lead := by
  refine' DefAt.mk' ?a ?l ?c ?k
  (case a => k_is)
  (case l => k_is)
  (case c => k_is)
  (case k => k_is)
theorem kf__law_roots (w : World) : DefAt (hdTop.heap_39 w.params) "_law_roots" s__law_roots := by
  refine' DefAt.mk' ?a ?l ?c ?k
  (case a => k_is)
  (case l => k_is)
  (case c => k_is)
  (case k => k_is)
theorem kf__law_chosen (w : World) : DefAt (hdTop.heap_39 w.params) "_law_chosen" s__law_chosen := by
  refine' DefAt.mk' ?a ?l ?c ?k
  (case a => k_is)
  (case l => k_is)
  (case c => k_is)
  (case k => k_is)
theorem kf__law_made (w : World) : DefAt (hdTop.heap_39 w.params) "_law_made" s__law_made := by
  refine' DefAt.mk' ?a ?l ?c ?k
  (case a => k_is)
  (case l => k_is)
  (case c => k_is)
  (case k => k_is)
theorem kf__law_told (w : World) : DefAt (hdTop.heap_39 w.params) "_law_told" s__law_told := by
  refine' DefAt.mk' ?a ?l ?c ?k
  (case a => k_is)
  (case l => k_is)
  (case c => k_is)
  (case k => k_is)
theorem kf__law_word (w : World) : DefAt (hdTop.heap_39 w.params) "_law_word" s__law_word := by
  refine' DefAt.mk' ?a ?l ?c ?k
  (case a => k_is)
  (case l => k_is)
  (case c => k_is)
  (case k => k_is)
theorem kf__law_drawn (w : World) : DefAt (hdTop.heap_39 w.params) "_law_drawn" s__law_drawn := by
  refine' DefAt.mk' ?a ?l ?c ?k
  (case a => k_is)
  (case l => k_is)
  (case c => k_is)
  (case k => k_is)
theorem kf_law (w : World) : DefAt (hdTop.heap_39 w.params) "law" s_law := by
  refine' DefAt.mk' ?a ?l ?c ?k
  (case a => k_is)
  (case l => k_is)
  (case c => k_is)
  (case k => k_is)
theorem kf_is_whole (w : World) : DflAt (hdTop.heap_39 w.params) "is_whole" s_is_whole [.non, .non] := by
  refine' DflAt.mk' (its := [.none, .none]) ?a ?l ?c ?k ?t ?d (.cons rfl (.cons rfl .nil)) (by simp)
  (case a => k_is)
  (case l => k_is)
  (case c => k_is)
  (case k => k_is)
  (case t => k_is)
  (case d => rfl)
theorem kf_make_ratio (w : World) : ∃ i, DflAt (hdTop.heap_39 w.params) "make_ratio" s_make_ratio [.int i] := by
  refine' ⟨1, DflAt.mk' (its := [.int 1 ?tk]) ?a ?l ?c ?k ?t ?d (.cons ⟨_, rfl⟩ .nil) (by simp)⟩
  (case a => k_is)
  (case l => k_is)
  (case c => k_is)
  (case k => k_is)
  (case t => k_is)
  (case d => rfl)
theorem kf_Figures (w : World) : ∃ C, FigK (hdTop.heap_39 w.params) C := by
  refine' ⟨_, ⟨ClsAt.mk' ?a ?p ?h ?o ?s ?m ?k, ?n1, ?n2, ?n3, ?m_init, ?m_plus, ?m_minus, ?m_times, ?m_over, ?m_negative, ?m_is_number, ?m_all_numbers⟩⟩
  (case a => k_is)
  (case p => k_is)
  (case h => k_is)
  (case o => k_is)
  (case s => k_is)
  (case m => k_is)
  (case k => k_is)
  (case n1 => show PySem.W.findIn _ _ _ = _; k_is)
  (case n2 => show PySem.W.findIn _ _ _ = _; k_is)
  (case n3 => show PySem.W.findIn _ _ _ = _; k_is)
  (case m_init =>
    refine' MethAt.mk' ?a ?l ?c ?k ?n ?t
    (case a => k_is)
    (case l => k_is)
    (case c => k_is)
    (case k => k_is)
    (case n => k_is)
    (case t => k_is))
  (case m_plus =>
    refine' MethAt.mk' ?a ?l ?c ?k ?n ?t
    (case a => k_is)
    (case l => k_is)
    (case c => k_is)
    (case k => k_is)
    (case n => k_is)
    (case t => k_is))
  (case m_minus =>
    refine' MethAt.mk' ?a ?l ?c ?k ?n ?t
    (case a => k_is)
    (case l => k_is)
    (case c => k_is)
    (case k => k_is)
    (case n => k_is)
    (case t => k_is))
  (case m_times =>
    refine' MethAt.mk' ?a ?l ?c ?k ?n ?t
    (case a => k_is)
    (case l => k_is)
    (case c => k_is)
    (case k => k_is)
    (case n => k_is)
    (case t => k_is))
  (case m_over =>
    refine' MethAt.mk' ?a ?l ?c ?k ?n ?t
    (case a => k_is)
    (case l => k_is)
    (case c => k_is)
    (case k => k_is)
    (case n => k_is)
    (case t => k_is))
  (case m_negative =>
    refine' MethAt.mk' ?a ?l ?c ?k ?n ?t
    (case a => k_is)
    (case l => k_is)
    (case c => k_is)
    (case k => k_is)
    (case n => k_is)
    (case t => k_is))
  (case m_is_number =>
    refine' MethAt.mk' ?a ?l ?c ?k ?n ?t
    (case a => k_is)
    (case l => k_is)
    (case c => k_is)
    (case k => k_is)
    (case n => k_is)
    (case t => k_is))
  (case m_all_numbers =>
    refine' MethAt.mk' ?a ?l ?c ?k ?n ?t
    (case a => k_is)
    (case l => k_is)
    (case c => k_is)
    (case k => k_is)
    (case n => k_is)
    (case t => k_is))
theorem kf_Parts (w : World) : ∃ C, PartsK (hdTop.heap_39 w.params) C := by
  refine' ⟨_, ⟨ClsAt.mk' ?a ?p ?h ?o ?s ?m ?k, ?n1, ?n2, ?n3, ?m_init⟩⟩
  (case a => k_is)
  (case p => k_is)
  (case h => k_is)
  (case o => k_is)
  (case s => k_is)
  (case m => k_is)
  (case k => k_is)
  (case n1 => show PySem.W.findIn _ _ _ = _; k_is)
  (case n2 => show PySem.W.findIn _ _ _ = _; k_is)
  (case n3 => show PySem.W.findIn _ _ _ = _; k_is)
  (case m_init =>
    refine' MethAt.mk' ?a ?l ?c ?k ?n ?t
    (case a => k_is)
    (case l => k_is)
    (case c => k_is)
    (case k => k_is)
    (case n => k_is)
    (case t => k_is))
theorem kf_BadRow (w : World) : ∃ C, BadRowK (hdTop.heap_39 w.params) C := by
  refine' ⟨_, BadRowK.mk' ?a ?xL ?rv ?sa ?ga ?gg ?n1 ?n2 ?kC ?eC ?tC ?hC ?iC ?sC ?m_init⟩
  (case a => k_is)
  (case xL => k_is)
  (case rv => rfl)
  (case sa => k_is)
  (case ga => k_is)
  (case gg => k_is)
  (case n1 => k_is)
  (case n2 => k_is)
  (case kC => k_is)
  (case eC => k_is)
  (case tC => k_is)
  (case hC => k_is)
  (case iC => k_is)
  (case sC => first | rfl | k_is)
  (case m_init =>
    refine' MethAt.mk' ?a ?l ?c ?k ?n ?t
    (case a => k_is)
    (case l => k_is)
    (case c => k_is)
    (case k => k_is)
    (case n => k_is)
    (case t => k_is))
theorem kf_PairError (w : World) : ∃ C, PairK (hdTop.heap_39 w.params) C := by
  refine' ⟨_, ⟨?a, ?g, ?r, ?f⟩⟩
  (case a => k_is)
  (case g => k_is)
  (case r => k_is)
  (case f => k_is)
theorem int_mk {K : PySem.W.Frag} {x : Str} {t : Tok} (a : PySem.W.nsIn K mainGlobals x = some (some (.int 12 t))) : ∃ t, PySem.W.nsIn K mainGlobals x = some (some (.int 12 t)) := ⟨_, a⟩
theorem due_mk {K : PySem.W.Frag} {f c : Addr} {oc : Value} {od : Option Addr} {kV doc pm : Value} {an : Option Addr} {ct : Value} {osl : Array (Option Value)}
    (a : PySem.W.nsIn K mainGlobals "_law_due" = some (some (.ref f))) (l : K.lookup f = some ⟨oc, od, .func (PySem.W.fnOf "_law_due" "_law_due" (C8.fnArgs s__law_due) (C8.fnBody s__law_due) (C8.fnScope s__law_due) .none kV doc pm an (.ref c) ct), osl⟩)
    (cd : PySem.W.codeIn K (.ref c) "_law_due" = true) (k : PySem.W.keepIn K (.ref f) = true) (h : PySem.W.codeHdIn K c 604 = true) (n : K.lookup 604 = none) :
    ∃ (f c : Addr) (fd : FuncData), PySem.W.nsIn K mainGlobals "_law_due" = some (some (.ref f)) ∧ C8.Fun K "_law_due" "_law_due" s__law_due f fd ∧ PySem.W.keepIn K (.ref f) = true ∧ fd.defaults = .none ∧
      fd.code = .ref c ∧ PySem.W.codeHdIn K c 604 = true ∧ K.lookup 604 = none :=
  ⟨_, _, _, a, ⟨_, _, _, _, _, _, _, _, _, _, rfl, l, cd⟩, k, rfl, rfl, h, n⟩
theorem hd_of {K : PySem.W.Frag} {c P : Addr} {o : Obj} (l : K.lookup c = some o) (e : ∀ K' : PySem.W.Frag, K'.lookup c = some o → PySem.W.codeHdIn K' c P = true) : PySem.W.codeHdIn K c P = true := e K l
theorem kf_MOST_NUMBERS (w : World) : ∃ t, PySem.W.nsIn (hdTop.heap_39 w.params) mainGlobals "MOST_NUMBERS" = some (some (.int 12 t)) := by
  refine' int_mk ?a
  (case a => k_is)
theorem kf_MOST_APART (w : World) : ∃ t, PySem.W.nsIn (hdTop.heap_39 w.params) mainGlobals "MOST_APART" = some (some (.int 12 t)) := by
  refine' int_mk ?a
  (case a => k_is)
theorem kn_mk {K : PySem.W.Frag} {kp : Addr} {o : Obj} {its : Array Value} {n : Nat} (a : PySem.W.nsIn K mainGlobals "KNOWN_PRIMES" = some (some (.ref kp))) (l : K.lookup kp = some o) (c : o.cls = .type "tuple") (d : o.data = .seq its n) (s : its.size ≤ sizeLine) (v : Vals (knownP.map V.int) its.toList) :
    ∃ kp, PySem.W.nsIn K mainGlobals "KNOWN_PRIMES" = some (some (.ref kp)) ∧ ∀ H, SqT K H kp (knownP.map V.int) := ⟨_, a, fun H => .inr ⟨_, _, _, l, c, d, s, v⟩⟩
theorem kf_KNOWN_PRIMES (w : World) : ∃ kp, PySem.W.nsIn (hdTop.heap_39 w.params) mainGlobals "KNOWN_PRIMES" = some (some (.ref kp)) ∧ ∀ H, SqT (hdTop.heap_39 w.params) H kp (knownP.map V.int) := by
  refine' kn_mk ?a ?l ?c ?d ?s ?v
  (case a => k_is)
  (case l => k_is)
  (case c => rfl)
  (case d => rfl)
  (case s => decide)
  (case v => exact .cons ⟨_, rfl⟩ (.cons ⟨_, rfl⟩ (.cons ⟨_, rfl⟩ (.cons ⟨_, rfl⟩ (.cons ⟨_, rfl⟩ (.cons ⟨_, rfl⟩ (.cons ⟨_, rfl⟩ .nil)))))))
theorem kb_isinstance (w : World) : PySem.W.nsIn (hdTop.heap_39 w.params) mainGlobals "isinstance" = some none := by k_is
theorem kb_bool (w : World) : PySem.W.nsIn (hdTop.heap_39 w.params) mainGlobals "bool" = some none := by k_is
theorem kb_int (w : World) : PySem.W.nsIn (hdTop.heap_39 w.params) mainGlobals "int" = some none := by k_is
theorem kb_abs (w : World) : PySem.W.nsIn (hdTop.heap_39 w.params) mainGlobals "abs" = some none := by k_is
theorem kb_len (w : World) : PySem.W.nsIn (hdTop.heap_39 w.params) mainGlobals "len" = some none := by k_is
theorem kb_tuple (w : World) : PySem.W.nsIn (hdTop.heap_39 w.params) mainGlobals "tuple" = some none := by k_is
theorem kb_list (w : World) : PySem.W.nsIn (hdTop.heap_39 w.params) mainGlobals "list" = some none := by k_is
theorem kb_range (w : World) : PySem.W.nsIn (hdTop.heap_39 w.params) mainGlobals "range" = some none := by k_is
theorem kb_enumerate (w : World) : PySem.W.nsIn (hdTop.heap_39 w.params) mainGlobals "enumerate" = some none := by k_is
theorem kb_reversed (w : World) : PySem.W.nsIn (hdTop.heap_39 w.params) mainGlobals "reversed" = some none := by k_is
theorem kb_max (w : World) : PySem.W.nsIn (hdTop.heap_39 w.params) mainGlobals "max" = some none := by k_is
theorem kb_sorted (w : World) : PySem.W.nsIn (hdTop.heap_39 w.params) mainGlobals "sorted" = some none := by k_is
theorem kf_due (w : World) : ∃ (f c : Addr) (fd : FuncData), PySem.W.nsIn (hdTop.heap_39 w.params) mainGlobals "_law_due" = some (some (.ref f)) ∧ C8.Fun (hdTop.heap_39 w.params) "_law_due" "_law_due" s__law_due f fd ∧ PySem.W.keepIn (hdTop.heap_39 w.params) (.ref f) = true ∧ fd.defaults = .none ∧
    fd.code = .ref c ∧ PySem.W.codeHdIn (hdTop.heap_39 w.params) c 604 = true ∧ (hdTop.heap_39 w.params).lookup 604 = none := by
  refine' due_mk ?a ?l ?c ?k ?h ?n
  (case a => k_is)
  (case l => k_is)
  (case c => k_is)
  (case k => k_is)
  (case n => first | rfl | k_is)
  (case h =>
    refine' hd_of ?hl ?he
    (case hl => k_is)
    (case he =>
      intro K' e
      unfold PySem.W.codeHdIn
      rw [e]
      rfl))

theorem kf_all (w : World) : KF (hdTop.heap_39 w.params) where
  d_common_divisor := kf_common_divisor w
  d_is_ratio := kf_is_ratio w
  d_lowest_terms := kf_lowest_terms w
  d_ratio_plus := kf_ratio_plus w
  d_ratio_minus := kf_ratio_minus w
  d_ratio_times := kf_ratio_times w
  d_ratio_over := kf_ratio_over w
  d_rest_undone := kf_rest_undone w
  d_check_poly := kf_check_poly w
  d_without_zeros := kf_without_zeros w
  d_plain_over := kf_plain_over w
  d_plain_led := kf_plain_led w
  d_check_not_zero := kf_check_not_zero w
  d_value_at := kf_value_at w
  d_divided_out := kf_divided_out w
  d_parts_of := kf_parts_of w
  d_whole_value := kf_whole_value w
  d_cleared_numbers := kf_cleared_numbers w
  d_stretched_numbers := kf_stretched_numbers w
  d_slopes_of := kf_slopes_of w
  d_turning_place := kf_turning_place w
  d_root_places := kf_root_places w
  d_fraction_roots := kf_fraction_roots w
  d_plain_roots := kf_plain_roots w
  d_is_sequence := kf_is_sequence w
  d_check_row := kf_check_row w
  d_taps_apart := kf_taps_apart w
  d__law_hand := kf__law_hand w
  d__law_mixed := kf__law_mixed w
  d__law_take := kf__law_take w
  d__law_gcd := kf__law_gcd w
  d__law_ratio := kf__law_ratio w
  d__law_num := kf__law_num w
  d__law_times := kf__law_times w
  d__law_plus := kf__law_plus w
  d__law_less := kf__law_less w
  d__law_zero := kf__law_zero w
  d__law_figures := kf__law_figures w
  d__law_number := kf__law_number w
  d__law_unlike := kf__law_unlike w
  d__law_numbers := kf__law_numbers w
  d__law_list := kf__law_list w
  d__law_none := kf__law_none w
  d__law_exact := kf__law_exact w
  d__law_multiplied := kf__law_multiplied w
  d__law_value := kf__law_value w
  d__law_lead := kf__law_lead w
  d__law_roots := kf__law_roots w
  d__law_chosen := kf__law_chosen w
  d__law_made := kf__law_made w
  d__law_told := kf__law_told w
  d__law_word := kf__law_word w
  d__law_drawn := kf__law_drawn w
  d_law := kf_law w
  d_is_whole := kf_is_whole w
  d_make_ratio := kf_make_ratio w
  fig := kf_Figures w
  par := kf_Parts w
  bad := kf_BadRow w
  pe := kf_PairError w
  mn := kf_MOST_NUMBERS w
  ma := kf_MOST_APART w
  kn := kf_KNOWN_PRIMES w
  due := kf_due w
  b_isinstance := kb_isinstance w
  b_bool := kb_bool w
  b_int := kb_int w
  b_abs := kb_abs w
  b_len := kb_len w
  b_tuple := kb_tuple w
  b_list := kb_list w
  b_range := kb_range w
  b_enumerate := kb_enumerate w
  b_reversed := kb_reversed w
  b_max := kb_max w
  b_sorted := kb_sorted w
end Kw
set_option maxHeartbeats 8000000 in
theorem PySem.Challenge.cw_sparedproducts_k74_whole_taps_come_apart_holds : PySem.Challenge.rw_sparedproducts_k74_whole_taps_come_apart.Holds :=
  hdTop (by
    refine LamX.walk_ofTs (n := 63) (k := 16) (CX := fun _ => C8.CX0) (x := "_law_script") rfl (by decide) rfl ⟨rfl, by decide, by decide⟩ (fun w h Y => PySem.W.km_in_of Y) ?F (fun _ _ _ _ _ h => h)
    intro w mg fa h Y KX G hmg
    exact Kw.all_mk (Kw.kf_all w) KX G hmg (PySem.W.km_tabs_of Y 604 (List.mem_singleton.mpr rfl)))
#print axioms PySem.Challenge.cw_sparedproducts_k74_whole_taps_come_apart_holds
