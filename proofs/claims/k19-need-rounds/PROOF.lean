import PyProof.Rows.All
import Wide.All
import OpenK.AllK
import Wide.FinOn
import HandS.Base
import HandS.Call
import HandS.List
import HandS.Comp
import HandS.Ends
import HandS.Dict
import HandS.Iter
import HandS.Text
import HandS.Words
import HandS.WordsList
import HandS.WordsDict
import HandS.Codes
import HandS.Flow
import HandS.IsInst
import HandS.Wide
import HandS.Defaults
import HandS.TupAny
import HandS.Zip
import HandS.Style
import HandS.MakeKw
import HandS.Property
import HandS.FStr
import HandS.HeadHook1
import HandS.HeadHook2
import HandS.Head0
import HandS.Head1
import HandS.Head2
import HandS.HeadEnd
import HandS.EndBits
import PySem.Challenge.RW_signedpacts_k19_need_round_counts
set_option Elab.async false
set_option linter.all false
set_option maxRecDepth 100000
set_option maxHeartbeats 0
/-! rules by match on the values: one rule a construct, whatever the kinds are; then the reading's steps -/
namespace Uv
open PySem PySem.Spec PyProof.Rows L2
/-! ### operators -/
def rAddU (K : PySem.W.Frag) : R2 := fun x y H Q => match x, y with
  | .int i, .int j => Q (.int (i + j)) H
  | .str i, .str j => i.length + j.length ≤ sizeLine ∧ Q (.str (i ++ j)) H
  | .ref a, .ref b => rCat (.ref a) (.ref b) H Q ∨ rCatA K (.ref a) (.ref b) H Q
  | _, _ => False
def rSubU : R2 := fun x y H Q => match x, y with
  | .int i, .int j => Q (.int (i - j)) H
  | _, _ => False
def rMulU : R2 := fun x y H Q => match x, y with
  | .int i, .int j => IntMulOk i j ∧ Q (.int (i * j)) H
  | .ref a, .int k => rRep (.ref a) (.int k) H Q
  | _, _ => False
def rFdvU : R2 := fun x y H Q => match x, y with
  | .int i, .int j => (j ≠ 0 ∧ j.natAbs.log2 < 9000) ∧ Q (.int (i.fdiv j)) H
  | _, _ => False
def rModU : R2 := fun x y H Q => match x, y with
  | .int i, .int j => j ≠ 0 ∧ Q (.int (i.fmod j)) H
  | _, _ => False
def rPowU : R2 := fun x y H Q => match x, y with
  | .int i, .int j => CPow i j ∧ Q (.int (i ^ j.toNat)) H
  | _, _ => False
def rLtU : R2 := fun x y H Q => match x, y with
  | .int i, .int j => Q (.bl (decide (i < j))) H
  | .str i, .str j => Q (.bl (decide (i.cps.toList < j.cps.toList))) H
  | _, _ => False
def rLeU : R2 := fun x y H Q => match x, y with
  | .int i, .int j => Q (.bl (decide (i ≤ j))) H
  | _, _ => False
def rGtU : R2 := fun x y H Q => match x, y with
  | .int i, .int j => Q (.bl (decide (j < i))) H
  | _, _ => False
def rGeU : R2 := fun x y H Q => match x, y with
  | .int i, .int j => Q (.bl (decide (j ≤ i))) H
  | _, _ => False
def rEqU (K : PySem.W.Frag) : R2 := fun x y H Q => match x, y with
  | .int i, .int j => Q (.bl (decide (i = j))) H
  | .str i, .str j => Q (.bl (decide (i = j))) H
  | .ref a, .ref b => rEqD K (.ref a) (.ref b) H Q
  | x, y => scal x y = true ∧ Q (.bl (decide (x = y))) H
def rNeU (K : PySem.W.Frag) : R2 := fun x y H Q => match x, y with
  | .int i, .int j => Q (.bl (!decide (i = j))) H
  | .str i, .str j => Q (.bl (!decide (i = j))) H
  | .ref a, .ref b => rNeD K (.ref a) (.ref b) H Q
  | x, y => scal x y = true ∧ Q (.bl (!decide (x = y))) H
def rIsU : R2 := fun x y H Q => match y with
  | .non => Q (.bl (decide (x = .non))) H
  | _ => False
def rNotU : R2 := fun x y H Q => match y with
  | .non => Q (.bl (!decide (x = .non))) H
  | _ => False
def rIxU (K : PySem.W.Frag) : R2 := fun x y H Q => match x with
  | .str z => rIxS (.str z) y H Q
  | .ref p => rIxL K (.ref p) y H Q ∨ rIxT K (.ref p) y H Q
  | _ => False
section
variable {X : Cx}
theorem u_add : OpR X (binaryOp .Add) (rAddU X.K) := by
  intro pins s σ H x y v u Q I rx ry h
  cases x <;> cases y <;> first
    | exact (show False from h).elim
    | exact op_add pins s σ H _ _ v u Q I rx ry ⟨_, _, rfl, rfl, h⟩
    | exact op_add_str pins s σ H _ _ v u Q I rx ry ⟨_, _, rfl, rfl, h.1, h.2⟩
    | exact OpR.or op_cat op_catA pins s σ H _ _ v u Q I rx ry h
theorem u_sub : OpR X (binaryOp .Sub) rSubU := by
  intro pins s σ H x y v u Q I rx ry h
  cases x <;> cases y <;> first
    | exact (show False from h).elim
    | exact op_sub pins s σ H _ _ v u Q I rx ry ⟨_, _, rfl, rfl, h⟩
theorem op_mulA : OpR X (binaryOp .Mult) (rI IntMulOk fun i j => .int (i * j)) := opI fun _ _ _ _ _ _ _ hc q => mul_int q hc
theorem op_fdvA : OpR X (binaryOp .FloorDiv) (rI (fun _ j => j ≠ 0 ∧ j.natAbs.log2 < 9000) fun i j => .int (i.fdiv j)) := opI fun _ _ _ _ _ _ _ hc q => floordiv_int hc.1 q (.inl (PyProof.noPylong_of_log2 hc.2))
theorem u_mul : OpR X (binaryOp .Mult) rMulU := by
  intro pins s σ H x y v u Q I rx ry h
  cases x <;> cases y <;> first
    | exact (show False from h).elim
    | exact op_mulA pins s σ H _ _ v u Q I rx ry ⟨_, _, rfl, rfl, h.1, h.2⟩
    | exact op_rep pins s σ H _ _ v u Q I rx ry h
theorem u_fdv : OpR X (binaryOp .FloorDiv) rFdvU := by
  intro pins s σ H x y v u Q I rx ry h
  cases x <;> cases y <;> first
    | exact (show False from h).elim
    | exact op_fdvA pins s σ H _ _ v u Q I rx ry ⟨_, _, rfl, rfl, h.1, h.2⟩
theorem u_mod : OpR X (binaryOp .Mod) rModU := by
  intro pins s σ H x y v u Q I rx ry h
  cases x <;> cases y <;> first
    | exact (show False from h).elim
    | exact op_modN pins s σ H _ _ v u Q I rx ry ⟨_, _, rfl, rfl, h.1, h.2⟩
theorem u_pow : OpR X (binaryOp .Pow) rPowU := by
  intro pins s σ H x y v u Q I rx ry h
  cases x <;> cases y <;> first
    | exact (show False from h).elim
    | exact op_pow pins s σ H _ _ v u Q I rx ry ⟨_, _, rfl, rfl, h.1, h.2⟩
theorem u_lt : OpR X (compareOp .Lt) rLtU := by
  intro pins s σ H x y v u Q I rx ry h
  cases x <;> cases y <;> first
    | exact (show False from h).elim
    | exact op_lt pins s σ H _ _ v u Q I rx ry ⟨_, _, rfl, rfl, h⟩
    | exact op_lt_str pins s σ H _ _ v u Q I rx ry ⟨_, _, rfl, rfl, h⟩
theorem u_le : OpR X (compareOp .LtE) rLeU := by
  intro pins s σ H x y v u Q I rx ry h
  cases x <;> cases y <;> first
    | exact (show False from h).elim
    | exact op_le pins s σ H _ _ v u Q I rx ry ⟨_, _, rfl, rfl, h⟩
theorem u_gt : OpR X (compareOp .Gt) rGtU := by
  intro pins s σ H x y v u Q I rx ry h
  cases x <;> cases y <;> first
    | exact (show False from h).elim
    | exact op_gt pins s σ H _ _ v u Q I rx ry ⟨_, _, rfl, rfl, h⟩
theorem u_ge : OpR X (compareOp .GtE) rGeU := by
  intro pins s σ H x y v u Q I rx ry h
  cases x <;> cases y <;> first
    | exact (show False from h).elim
    | exact op_ge pins s σ H _ _ v u Q I rx ry ⟨_, _, rfl, rfl, h⟩
theorem dec_int (i j : Int) : decide (V.int i = V.int j) = decide (i = j) := by
  by_cases h : i = j
  · rw [decide_eq_true h, h]; simp
  · rw [decide_eq_false h]; simp [h]
theorem dec_str (i j : Str) : decide (V.str i = V.str j) = decide (i = j) := by
  by_cases h : i = j
  · rw [decide_eq_true h, h]; simp
  · rw [decide_eq_false h]; simp [h]
theorem u_eq (hu : X.A.units + 64 < cLine) : OpR X (compareOp .Eq) (rEqU X.K) := by
  intro pins s σ H x y v u Q I rx ry h
  cases x <;> cases y <;> first
    | exact op_eqD hu pins s σ H _ _ v u Q I rx ry h
    | exact op_eq pins s σ H _ _ v u Q I rx ry ⟨rfl, by rw [dec_int]; exact h⟩
    | exact op_eq pins s σ H _ _ v u Q I rx ry ⟨rfl, by rw [dec_str]; exact h⟩
    | exact op_eq pins s σ H _ _ v u Q I rx ry ⟨h.1, h.2⟩
theorem u_ne (hu : X.A.units + 64 < cLine) : OpR X (compareOp .NotEq) (rNeU X.K) := by
  intro pins s σ H x y v u Q I rx ry h
  cases x <;> cases y <;> first
    | exact op_neD hu pins s σ H _ _ v u Q I rx ry h
    | exact op_ne pins s σ H _ _ v u Q I rx ry ⟨rfl, by rw [dec_int]; exact h⟩
    | exact op_ne pins s σ H _ _ v u Q I rx ry ⟨rfl, by rw [dec_str]; exact h⟩
    | exact op_ne pins s σ H _ _ v u Q I rx ry ⟨h.1, h.2⟩
theorem u_is : OpR X (compareOp .Is) rIsU := by
  intro pins s σ H x y v u Q I rx ry h
  cases y <;> first
    | exact (show False from h).elim
    | exact op_isN pins s σ H _ _ v u Q I rx ry ⟨rfl, h⟩
theorem u_isnot : OpR X (compareOp .IsNot) rNotU := by
  intro pins s σ H x y v u Q I rx ry h
  cases y <;> first
    | exact (show False from h).elim
    | exact op_notN pins s σ H _ _ v u Q I rx ry ⟨rfl, h⟩
theorem u_ix : IxR X (rIxU X.K) := by
  intro value slice pins s σ H x y v u Q I rx ry h hs
  cases x <;> first
    | exact (show False from h).elim
    | exact ix_str value slice pins s σ H _ _ v u Q I rx ry h hs
    | exact IxR.or ix_list ix_tup value slice pins s σ H _ _ v u Q I rx ry h hs
theorem huR {A : Around} {k : Nat} (hr : Room k A) : A.units + 64 < cLine := by have := hr.un; omega
end
/-! ### the module's names: the built-ins stand -/
structure Blt (mg : Str → Option Value) : Prop where
  all : ∀ x ∈ (["len", "int", "abs", "min", "max", "sum", "range", "tuple", "list", "isinstance", "str", "sorted", "enumerate", "zip", "any", "all", "bool", "dict", "reversed", "iter", "ValueError"] : List Str), mg x = none
theorem Blt.at (B : Blt mg) (x : Str) (h : (["len", "int", "abs", "min", "max", "sum", "range", "tuple", "list", "isinstance", "str", "sorted", "enumerate", "zip", "any", "all", "bool", "dict", "reversed", "iter", "ValueError"] : List Str).contains x = true := by decide +kernel) : mg x = none :=
  B.all x (by simpa using h)

/-! ### the readings, step by step -/
section
variable {K : PySem.W.Frag} {σ : L2.St} {H : Hp} {Q : VK} {QB : Bool → Hp → Prop} {QA : List V → Hp → Prop} {D : Ends} {N : L2.St → Hp → Prop} {i : Nat} {v x y : V} {ta tb tc te : TE} {t u : TS} {c d : TT} {g : TG} {tr : TA} {r : R2} {p : Prop} [Decidable p] {A B : Prop}
theorem r_seq (h : t { D with nx := u D } σ H) : tSeq t u D σ H := h
theorem r_pnx {n b c : L2.St → Hp → Prop} {rt : VK} (h : n σ H) : Ends.nx ⟨n, rt, b, c⟩ σ H := h
theorem r_prt {n b c : L2.St → Hp → Prop} {rt : VK} (h : rt v H) : Ends.rt ⟨n, rt, b, c⟩ v H := h
theorem r_pbk {n b c : L2.St → Hp → Prop} {rt : VK} (h : b σ H) : Ends.bk ⟨n, rt, b, c⟩ σ H := h
theorem r_pct {n b c : L2.St → Hp → Prop} {rt : VK} (h : c σ H) : Ends.ct ⟨n, rt, b, c⟩ σ H := h
theorem r_next (h : D.nx σ H) : tNext D σ H := h
theorem r_brk (h : D.bk σ H) : tBreak D σ H := h
theorem r_ct (h : D.ct σ H) : tCont D σ H := h
theorem r_ret (h : te σ H D.rt) : tRet te D σ H := h
theorem r_retN (h : D.rt .non H) : tRetN D σ H := h
theorem r_drop (h : te σ H fun _ H1 => D.nx σ H1) : tDrop te D σ H := h
theorem r_asg (h : te σ H fun x H1 => g x σ H1 D.nx) : tAsg te g D σ H := h
theorem r_gname (h : N (σ.set i (some v)) H) : gName i v σ H N := h
theorem r_var (e : σ[i]? = some (some v)) (q : Q v H) : tVar i σ H Q := ⟨v, e, q⟩
theorem r_c (q : Q v H) : tC v σ H Q := q
theorem r_op (h : ta σ H fun x H1 => tb σ H1 fun y H2 => r x y H2 Q) : tOp r ta tb σ H Q := h
theorem r_un {f : V → Hp → VK → Prop} (h : ta σ H fun x H1 => f x H1 Q) : tUn f ta σ H Q := h
theorem r_nil (h : QA [] H) : tNil σ H QA := h
theorem r_cons (h : ta σ H fun x H1 => tr σ H1 fun xs H2 => QA (x :: xs) H2) : tCons ta tr σ H QA := h
theorem r_if (h : c σ H fun b H1 => if b = true then t D σ H1 else u D σ H1) : tIfS c t u D σ H := h
theorem r_test (h : te σ H fun x H' => ∃ k, x = .bl k ∧ QB k H') : tTest te σ H QB := h
theorem r_bl {b : Bool} {F : Bool → Prop} (q : F b) : ∃ k, V.bl b = .bl k ∧ F k := ⟨b, rfl, q⟩
theorem r_and (h : c σ H fun k H1 => if k = true then d σ H1 QB else QB false H1) : tAnd c d σ H QB := h
theorem r_or (h : c σ H fun k H1 => if k = true then QB true H1 else d σ H1 QB) : tOr c d σ H QB := h
theorem r_not (h : c σ H fun k H1 => QB (!k) H1) : tNot c σ H QB := h
theorem r_ife (h : c σ H fun k H1 => if k = true then ta σ H1 Q else tb σ H1 Q) : tIf c ta tb σ H Q := h
theorem r_andT (h : ta σ H fun x H1 => ∃ k, TruV K x H1 k ∧ if k = true then tb σ H1 Q else Q x H1) : tAndT K ta tb σ H Q := h
theorem r_orT (h : ta σ H fun x H1 => ∃ k, TruV K x H1 k ∧ if k = true then Q x H1 else tb σ H1 Q) : tOrT K ta tb σ H Q := h
theorem r_notT (h : ta σ H fun x H1 => ∃ k, TruV K x H1 k ∧ Q (.bl (!k)) H1) : tNotT K ta σ H Q := h
theorem r_tru {b : Bool} {F : Bool → Prop} (q : F b) : ∃ k, TruV K (.bl b) H k ∧ F k := ⟨b, rfl, q⟩
theorem r_truI {n : Int} {F : Bool → Prop} (q : F (n != 0)) : ∃ k, TruV K (.int n) H k ∧ F k := ⟨_, rfl, q⟩
theorem r_truN {F : Bool → Prop} (q : F false) : ∃ k, TruV K .non H k ∧ F k := ⟨_, rfl, q⟩
theorem r_tup (h : tr σ H fun xs H1 => xs.length ≤ sizeLine ∧ ∀ p, H1 p = none → Q (.ref p) (upd H1 p (.tup xs))) : tTup tr σ H Q := h
theorem r_lst (h : tr σ H fun xs H1 => xs.length ≤ sizeLine ∧ ∀ p, H1 p = none → Q (.ref p) (upd H1 p (.lst xs))) : tLst tr σ H Q := h
theorem r_call {sp : Sp} {dvs : List V} {E : XK} (h : tr σ H fun vs H1 => sp (vs ++ dvs) H1 Q E) : tCall sp dvs E tr σ H Q := h
theorem r_cb {f : List V → Hp → VK → Prop} (h : tr σ H fun vs H1 => f vs H1 Q) : tCB f tr σ H Q := h
theorem r_make {C : Addr} {sp : Sp} {dvs : List V} {E : XK} (h : tr σ H fun vs H1 => ∀ x dx, H1 x = none → H1 dx = none → dx ≠ x →
  sp (.ref x :: (vs ++ dvs)) (upd (upd H1 dx (.own x)) x (.ins C dx [])) (fun v H2 => v = .non ∧ Q (.ref x) H2) E) : tMake C sp dvs E tr σ H Q := h
theorem r_meth {C : Addr} {m : Str} {sp : Sp} {dvs : List V} {E : XK} (h : ta σ H fun x H1 => ∃ a dx fs, x = .ref a ∧ H1 a = some (.ins C dx fs) ∧ fs.lookup m = none ∧ tr σ H1 fun vs H2 => sp (x :: (vs ++ dvs)) H2 Q E) : tMeth C m sp dvs E ta tr σ H Q := h
theorem r_fld {f : Str} (h : ta σ H fun x H1 => ∃ a C dx fs v, x = .ref a ∧ H1 a = some (.ins C dx fs) ∧ Cls K C ∧ NoAttr K C f ∧ fs.lookup f = some v ∧ Q v H1) : tFld K ta f σ H Q := h
theorem r_sfld {f : Str} (h : tb σ H fun y H1 => ta σ H1 fun x H2 => ∃ a C dx fs, x = .ref a ∧ H2 a = some (.ins C dx fs) ∧ Cls K C ∧ NoAttr K C f ∧ fs.length < 1000 ∧ D.nx σ (upd H2 a (.ins C dx (putF f y fs)))) : sFld K ta tb f D σ H := h
theorem r_bm {T : String} {f : V → List V → Hp → VK → Prop} (h : ta σ H fun x H1 => tyV K T x H1 ∧ tr σ H1 fun xs H2 => f x xs H2 Q) : tBM K T f ta tr σ H Q := h
theorem r_bm0 {T : String} {f : V → List V → Hp → VK → Prop} (h : ta σ H fun x H1 => tyV K T x H1 ∧ f x [] H1 Q) : tBM0 K T f ta σ H Q := h
/-! operators on known kinds -/
theorem r_addI {i j : Int} (q : Q (.int (i + j)) H) : rAddU K (.int i) (.int j) H Q := q
theorem r_addS {i j : Str} (z : i.length + j.length ≤ sizeLine) (q : Q (.str (i ++ j)) H) : rAddU K (.str i) (.str j) H Q := ⟨z, q⟩
theorem r_subI {i j : Int} (q : Q (.int (i - j)) H) : rSubU (.int i) (.int j) H Q := q
theorem r_mulI {i j : Int} (z : IntMulOk i j) (q : Q (.int (i * j)) H) : rMulU (.int i) (.int j) H Q := ⟨z, q⟩
theorem r_fdvI {i j : Int} (h : 0 < j) (z : j.natAbs.log2 < 9000) (q : Q (.int (i / j)) H) : rFdvU (.int i) (.int j) H Q := ⟨⟨by omega, z⟩, by rw [Int.fdiv_eq_ediv_of_nonneg i (by omega)]; exact q⟩
theorem r_modI {i j : Int} (h : 0 < j) (q : Q (.int (i % j)) H) : rModU (.int i) (.int j) H Q := ⟨by omega, by rw [Int.fmod_eq_emod_of_nonneg i (by omega)]; exact q⟩
theorem r_powI {i j : Int} (h : CPow i j) (q : Q (.int (i ^ j.toNat)) H) : rPowU (.int i) (.int j) H Q := ⟨h, q⟩
theorem r_ltI {i j : Int} (q : Q (.bl (decide (i < j))) H) : rLtU (.int i) (.int j) H Q := q
theorem r_leI {i j : Int} (q : Q (.bl (decide (i ≤ j))) H) : rLeU (.int i) (.int j) H Q := q
theorem r_gtI {i j : Int} (q : Q (.bl (decide (j < i))) H) : rGtU (.int i) (.int j) H Q := q
theorem r_geI {i j : Int} (q : Q (.bl (decide (j ≤ i))) H) : rGeU (.int i) (.int j) H Q := q
theorem r_eqI {i j : Int} (q : Q (.bl (decide (i = j))) H) : rEqU K (.int i) (.int j) H Q := q
theorem r_eqS {i j : Str} (q : Q (.bl (decide (i = j))) H) : rEqU K (.str i) (.str j) H Q := q
theorem r_neI {i j : Int} (q : Q (.bl (!decide (i = j))) H) : rNeU K (.int i) (.int j) H Q := q
theorem r_neS {i j : Str} (q : Q (.bl (!decide (i = j))) H) : rNeU K (.str i) (.str j) H Q := q
theorem r_isN (q : Q (.bl (decide (x = .non))) H) : rIsU x .non H Q := q
theorem r_notN (q : Q (.bl (!decide (x = .non))) H) : rNotU x .non H Q := q
theorem r_isI {i : Int} (q : Q (.bl false) H) : rIsU (.int i) .non H Q := q
theorem r_isNN (q : Q (.bl true) H) : rIsU .non .non H Q := q
theorem r_isR {a : Addr} (q : Q (.bl false) H) : rIsU (.ref a) .non H Q := q
theorem r_isS {a : Str} (q : Q (.bl false) H) : rIsU (.str a) .non H Q := q
theorem r_notI {i : Int} (q : Q (.bl true) H) : rNotU (.int i) .non H Q := q
theorem r_notNN (q : Q (.bl false) H) : rNotU .non .non H Q := q
theorem r_notR {a : Addr} (q : Q (.bl true) H) : rNotU (.ref a) .non H Q := q
theorem r_notS {a : Str} (q : Q (.bl true) H) : rNotU (.str a) .non H Q := q
theorem r_ixL {a : Addr} {xs : List V} {n : Int} (h : SqL K H a xs) (e : atI xs n = some v) (q : Q v H) : rIxU K (.ref a) (.int n) H Q := .inl ⟨a, xs, n, v, rfl, rfl, h, e, q⟩
theorem r_ixT {a : Addr} {xs : List V} {n : Int} (h : SqT K H a xs) (e : atI xs n = some v) (q : Q v H) : rIxU K (.ref a) (.int n) H Q := .inr ⟨a, xs, n, v, rfl, rfl, h, e, q⟩
/-! tests whose answer is known, or open -/
theorem i_dec (h1 : p → A) (h2 : ¬ p → B) : if decide p = true then A else B := by
  by_cases h : p
  · rw [if_pos (decide_eq_true h)]; exact h1 h
  · rw [if_neg (by simp [h])]; exact h2 h
theorem i_ndec (h1 : ¬ p → A) (h2 : p → B) : if (!decide p) = true then A else B := by
  by_cases h : p
  · rw [if_neg (by simp [h])]; exact h2 h
  · rw [if_pos (by simp [h])]; exact h1 h
theorem i_yes (h : p) (q : A) : if decide p = true then A else B := by rw [if_pos (decide_eq_true h)]; exact q
theorem i_no (h : ¬ p) (q : B) : if decide p = true then A else B := by rw [if_neg (by simp [h])]; exact q
theorem i_nyes (h : ¬ p) (q : A) : if (!decide p) = true then A else B := by rw [if_pos (by simp [h])]; exact q
theorem i_nno (h : p) (q : B) : if (!decide p) = true then A else B := by rw [if_neg (by simp [h])]; exact q
theorem i_b {b : Bool} (h1 : b = true → A) (h2 : b = false → B) : if b = true then A else B := by
  cases b
  · exact h2 rfl
  · exact h1 rfl
theorem i_nt (q : B) : if (!true) = true then A else B := q
theorem i_nf (q : A) : if (!false) = true then A else B := q
theorem i_t (q : A) : if true = true then A else B := q
theorem i_f (q : B) : if false = true then A else B := q
end
/-! ### the heap that grows -/
theorem _root_.L2.Same.new {H : Hp} {p : Addr} {o : HO} (h : H p = none) : Same H (upd H p o) := fun a u e => by
  rw [upd_ne (ne_of_none e h)]
  exact e
theorem _root_.L2.Same.tup {K : PySem.W.Frag} {H H' : Hp} {a : Addr} {xs : List V} (e : Same H H') (h : SqT K H a xs) : SqT K H' a xs := by
  rcases h with (h | ⟨o, h⟩) | h
  · exact .inl (.inl (e _ _ h))
  · exact .inl (.inr ⟨o, e _ _ h⟩)
  · exact .inr h
theorem two_le : (2 : Nat) ≤ sizeLine := by decide
theorem sz {n : Nat} (h : n ≤ 100000) : n ≤ sizeLine := Nat.le_trans h (by decide)
theorem atI_of {xs : List V} {n : Int} {j : Nat} {v : V} (h : n = (j : Int)) (e : xs[j]? = some v) : atI xs n = some v := by
  have hj : j < xs.length := by
    rcases Nat.lt_or_ge j xs.length with q | q
    · exact q
    · rw [List.getElem?_eq_none q] at e; cases e
  subst h
  unfold atI ixN
  rw [if_pos (by omega), if_pos (by omega)]
  simpa using e

/-! ### what is walked, what is unpacked, fields, isinstance: either kind -/
def iSeqU (K : PySem.W.Frag) (te : TE) : TI := fun σ H R => iList K te σ H R ∨ iTup K te σ H R ∨ iStr te σ H R
def gSeqU (K : PySem.W.Frag) (n : Nat) (t : TGs) : TG := fun v σ H Q => gTup K n t v σ H Q
def tAtt (K : PySem.W.Frag) (ta : TE) (f : Str) : TE := fun σ H Q => tFld K ta f σ H Q ∨ tCon K ta f σ H Q
def tTr (K : PySem.W.Frag) (ta : TE) : TT := fun σ H Q => ta σ H fun x H' => ∃ k, TruV K x H' k ∧ Q k H'
section
variable {X : Cx} {tg e : Expr} {te : TE} {pos : Pos} {f : Str}
theorem pi_seq (he : PE X e te) : PI X tg e (iSeqU X.K te) := ⟨fun pins s σ H R I h => by
  rcases h with h | h | h
  · exact (pi_list he).run pins s σ H R I h
  · exact (pi_tup he).run pins s σ H R I h
  · exact (pi_str he).run pins s σ H R I h⟩
theorem pg_seq {es : List Expr} {k : Nat} {t : TGs} {n : Nat} (hc : X.calm = true) (h : PGs X es t)
    (hn : (assignEach es X.env).length = n := by rfl) (hst : (assignEach es X.env).findIdx? (·.1) = none := by rfl) : PG X (.Tuple es k pos) (gSeqU X.K n t) := pg_tup hc h hn hst
theorem pe_att (he : PE X e te) (hb : attributeBase e f X.env (eval e X.env) = eval e X.env) : PE X (.Attribute e f pos) (tAtt X.K te f) := ⟨fun pins s σ H Q I h => by
  rcases h with h | h
  · exact (pe_fld he hb).run pins s σ H Q I h
  · exact (pe_con he hb).run pins s σ H Q I h⟩
theorem pt_tr (ha : PE X e te) (he : ∀ whole, isTrue e X.env whole = (do let v ← whole; standAt e.pos; holding [v] (truthy v))) : PT X e (tTr X.K te) := pt_truth ha he
end
section
variable {K : PySem.W.Frag} {σ : L2.St} {H : Hp} {Q : VK} {QB : Bool → Hp → Prop} {D : Ends} {te : TE} {ta : TA} {tb u t : TS} {c : TT} {g : TG} {a : Addr} {xs : List V} {f : Str} {v : V} {gs : TGs} {N : L2.St → Hp → Prop}
abbrev Loop (J : It) (g : TG) (tb : TS) (D : Ends) (σ : L2.St) (H : Hp) : Prop := ∃ W : Nat → Nat → L2.St → Hp → Prop, (∃ m, W 0 m σ H) ∧ ∀ i m σ H, W i m σ H →
  (J.stop i H ∧ D.nx σ H) ∨ (J.go i H ∧ ∃ N : L2.St → Hp → Prop, (∀ σ' H', N σ' H' → ∃ m', m' < m ∧ W (i + 1) m' σ' H') ∧ ∀ x H', J.yld i H x H' → g x σ H' fun σ2 H2 => tb { D with nx := N, ct := N, bk := D.nx } σ2 H2)
theorem r_forL (h : te σ H fun x H1 => ∃ a, x = .ref a ∧ (∃ xs, SqL K H1 a xs) ∧ Loop (Itl K a) g tb D σ H1) : tFor (iSeqU K te) g tb D σ H := .inl h
theorem r_forT (h : te σ H fun x H1 => ∃ a, x = .ref a ∧ (∃ xs, SqT K H1 a xs) ∧ Loop (Itt K a) g tb D σ H1) : tFor (iSeqU K te) g tb D σ H := .inr (.inl h)
theorem r_forS (h : te σ H fun x H1 => ∃ z, x = .str z ∧ Loop (Its z) g tb D σ H1) : tFor (iSeqU K te) g tb D σ H := .inr (.inr h)
theorem r_forR (h : ta σ H fun vs H1 => ∃ j : Int, vs = [.int j] ∧ -(2 ^ 62) ≤ j ∧ j < 2 ^ 62 ∧ Loop (Itr 0 j.toNat) g tb D σ H1) : tFor (iRng1 ta) g tb D σ H := h
theorem r_loopL (hS : SqL K H a xs) (Pv : Nat → L2.St → Hp → Prop) (h0 : Pv 0 σ H) (hl : ∀ i σ H, i ≤ xs.length → Pv i σ H → SqL K H a xs)
    (hs : ∀ i x σ H, xs[i]? = some x → Pv i σ H → g x σ H fun σ2 H2 => tb { D with nx := Pv (i + 1), ct := Pv (i + 1), bk := D.nx } σ2 H2) (hd : ∀ σ H, Pv xs.length σ H → D.nx σ H) :
    ∃ a', V.ref a = .ref a' ∧ (∃ xs, SqL K H a' xs) ∧ Loop (Itl K a') g tb D σ H := ⟨a, rfl, ⟨xs, hS⟩, for_list Pv h0 hl hs hd⟩
theorem r_loopT (hS : SqT K H a xs) (Pv : Nat → L2.St → Hp → Prop) (h0 : Pv 0 σ H) (hl : ∀ i σ H, i ≤ xs.length → Pv i σ H → SqT K H a xs)
    (hs : ∀ i x σ H, xs[i]? = some x → Pv i σ H → g x σ H fun σ2 H2 => tb { D with nx := Pv (i + 1), ct := Pv (i + 1), bk := D.nx } σ2 H2) (hd : ∀ σ H, Pv xs.length σ H → D.nx σ H) :
    ∃ a', V.ref a = .ref a' ∧ (∃ xs, SqT K H a' xs) ∧ Loop (Itt K a') g tb D σ H := ⟨a, rfl, ⟨xs, hS⟩, for_tup Pv h0 hl hs hd⟩
theorem r_loopR {n : Int} (h1 : -(2 ^ 62) ≤ n) (h2 : n < 2 ^ 62) (Pv : Nat → L2.St → Hp → Prop) (h0 : Pv 0 σ H)
    (hs : ∀ (i : Nat) σ H, (i : Int) < n → Pv i σ H → g (.int i) σ H fun σ2 H2 => tb { D with nx := Pv (i + 1), ct := Pv (i + 1), bk := D.nx } σ2 H2) (hd : ∀ σ H, Pv n.toNat σ H → D.nx σ H) :
    ∃ j : Int, [V.int n] = [.int j] ∧ -(2 ^ 62) ≤ j ∧ j < 2 ^ 62 ∧ Loop (Itr 0 j.toNat) g tb D σ H := ⟨n, rfl, h1, h2, for_range (lo := 0) (n := n.toNat) Pv h0 (fun i σ H hi p => by
      have e : (0 : Int) + (i : Int) = (i : Int) := Int.zero_add _
      rw [e]
      exact hs i σ H (by omega) p) hd⟩
theorem r_while (Pv : Nat → L2.St → Hp → Prop) (m0 : Nat) (h0 : Pv m0 σ H) (hs : ∀ m σ H, Pv m σ H → c σ H fun b H1 => if b = true then ∃ N : L2.St → Hp → Prop, (∀ σ' H', N σ' H' → ∃ m', m' < m ∧ Pv m' σ' H') ∧ tb { D with nx := N, ct := N, bk := D.nx } σ H1 else D.nx σ H1) : tWhile c tb D σ H := ⟨Pv, ⟨m0, h0⟩, hs⟩
theorem r_turn {Pv : Nat → L2.St → Hp → Prop} {m : Nat} (h : tb { D with nx := fun σ' H' => ∃ m', m' < m ∧ Pv m' σ' H', ct := fun σ' H' => ∃ m', m' < m ∧ Pv m' σ' H', bk := D.nx } σ H) :
    ∃ N : L2.St → Hp → Prop, (∀ σ' H', N σ' H' → ∃ m', m' < m ∧ Pv m' σ' H') ∧ tb { D with nx := N, ct := N, bk := D.nx } σ H := ⟨_, fun _ _ q => q, h⟩
theorem r_cut (Mid : L2.St → Hp → Prop) (h1 : t { D with nx := Mid } σ H) (h2 : ∀ σ' H', Mid σ' H' → u D σ' H') : C8.tCut t u D σ H := ⟨Mid, h1, h2⟩
theorem r_nocut (h : t { D with nx := u D } σ H) : C8.tCut t u D σ H := ⟨u D, h, fun _ _ q => q⟩
theorem r_tr (h : te σ H fun x H' => ∃ k, TruV K x H' k ∧ QB k H') : tTr K te σ H QB := h
theorem r_gseq {n : Nat} (hS : SqT K H a xs) (hl : xs.length = n) (h : gs xs σ H N) : gSeqU K n gs (.ref a) σ H N := ⟨a, xs, rfl, hS, hl, h⟩
theorem r_gcons {v : V} {vs : List V} {g : TG} {gs : TGs} (h : g v σ H fun σ' H' => gs vs σ' H' N) : gCons g gs (v :: vs) σ H N := ⟨v, vs, rfl, h⟩
theorem r_gnil (h : N σ H) : gNil [] σ H N := ⟨rfl, h⟩
theorem r_att (h : te σ H fun x H1 => ∃ a C dx fs v, x = .ref a ∧ H1 a = some (.ins C dx fs) ∧ Cls K C ∧ NoAttr K C f ∧ fs.lookup f = some v ∧ Q v H1) : tAtt K te f σ H Q := .inl h
theorem r_attC (h : te σ H fun x H1 => ∃ a C dx fs v u, x = .ref a ∧ H1 a = some (.ins C dx fs) ∧ Cls K C ∧ Con K C f v u ∧ fs.lookup f = none ∧ Q v H1) : tAtt K te f σ H Q := .inr h
theorem r_fldOf {C dx : Addr} {fs : List (Str × V)} {F : V → Prop} (ho : H a = some (.ins C dx fs)) (hc : Cls K C) (hn : NoAttr K C f) (hl : fs.lookup f = some v) (q : F v) :
    ∃ a' C dx fs v, V.ref a = .ref a' ∧ H a' = some (.ins C dx fs) ∧ Cls K C ∧ NoAttr K C f ∧ fs.lookup f = some v ∧ F v := ⟨a, C, dx, fs, v, rfl, ho, hc, hn, hl, q⟩
theorem r_sfldOf {C dx : Addr} {fs : List (Str × V)} {y : V} (ho : H a = some (.ins C dx fs)) (hc : Cls K C) (hn : NoAttr K C f) (hl : fs.length < 1000) (q : N σ (upd H a (.ins C dx (putF f y fs)))) :
    ∃ a' C dx fs, V.ref a = .ref a' ∧ H a' = some (.ins C dx fs) ∧ Cls K C ∧ NoAttr K C f ∧ fs.length < 1000 ∧ N σ (upd H a' (.ins C dx (putF f y fs))) := ⟨a, C, dx, fs, rfl, ho, hc, hn, hl, q⟩
/-! the built-ins on known kinds -/
theorem b_lenL {q : V → Hp → Prop} (h : SqL K H a xs) (k : q (.int xs.length) H) : ∃ x n, [V.ref a] = [x] ∧ LenV K x H n ∧ q (.int n) H := ⟨_, _, rfl, .inl ⟨xs, h, rfl⟩, k⟩
theorem b_lenT {q : V → Hp → Prop} (h : SqT K H a xs) (k : q (.int xs.length) H) : ∃ x n, [V.ref a] = [x] ∧ LenV K x H n ∧ q (.int n) H := ⟨_, _, rfl, .inr ⟨xs, h, rfl⟩, k⟩
theorem b_lenS {q : V → Hp → Prop} {z : Str} (h : z.length ≤ sizeLine) (k : q (.int z.length) H) : ∃ x n, [V.str z] = [x] ∧ LenV K x H n ∧ q (.int n) H := ⟨_, _, rfl, ⟨h, rfl⟩, k⟩
theorem b_int {n : Int} {q : V → Hp → Prop} (k : q (.int n) H) : (∃ i, [V.int n] = [.int i] ∧ q (.int i) H) ∨ ∃ k, [V.int n] = [.bl k] ∧ q (.int (if k then 1 else 0)) H := .inl ⟨n, rfl, k⟩
theorem b_intB {b : Bool} {q : V → Hp → Prop} (k : q (.int (if b then 1 else 0)) H) : (∃ i, [V.bl b] = [.int i] ∧ q (.int i) H) ∨ ∃ k, [V.bl b] = [.bl k] ∧ q (.int (if k then 1 else 0)) H := .inr ⟨b, rfl, k⟩
theorem b_abs {n : Int} {q : V → Hp → Prop} (k : q (.int (if n < 0 then -n else n)) H) : ∃ i, [V.int n] = [.int i] ∧ q (.int (if i < 0 then -i else i)) H := ⟨n, rfl, k⟩
theorem b_max {n m : Int} {q : V → Hp → Prop} (k : q (.int (if m > n then m else n)) H) : ∃ i j, [V.int n, .int m] = [.int i, .int j] ∧ q (.int (if j > i then j else i)) H := ⟨n, m, rfl, k⟩
theorem b_min {n m : Int} {q : V → Hp → Prop} (k : q (.int (if m < n then m else n)) H) : ∃ i j, [V.int n, .int m] = [.int i, .int j] ∧ q (.int (if j < i then j else i)) H := ⟨n, m, rfl, k⟩
theorem b_tupL {q : V → Hp → Prop} (h : SqL K H a xs) (k : ∀ l, H l = none → q (.ref l) (upd H l (.tup xs))) : ∃ p ys, [V.ref a] = [.ref p] ∧ ((SqL K H p ys ∧ ∀ l, H l = none → q (.ref l) (upd H l (.tup ys))) ∨ (SqT K H p ys ∧ q (.ref p) H)) := ⟨a, xs, rfl, .inl ⟨h, k⟩⟩
theorem b_tupT {q : V → Hp → Prop} (h : SqT K H a xs) (k : q (.ref a) H) : ∃ p ys, [V.ref a] = [.ref p] ∧ ((SqL K H p ys ∧ ∀ l, H l = none → q (.ref l) (upd H l (.tup ys))) ∨ (SqT K H p ys ∧ q (.ref p) H)) := ⟨a, xs, rfl, .inr ⟨h, k⟩⟩
theorem b_list {q : V → Hp → Prop} (h : SqL K H a xs) (k : ∀ l, H l = none → q (.ref l) (upd H l (.lst xs))) : ∃ p ys, [V.ref a] = [.ref p] ∧ (SqL K H p ys ∨ SqT K H p ys) ∧ ∀ l, H l = none → q (.ref l) (upd H l (.lst ys)) := ⟨a, xs, rfl, .inl h, k⟩
theorem m_app {q : V → Hp → Prop} {v : V} (h : H a = some (.lst xs)) (z : xs.length < sizeLine) (k : q .non (upd H a (.lst (xs ++ [v])))) : rAppend (.ref a) [v] H q := ⟨a, xs, v, rfl, rfl, h, z, k⟩
theorem m_ty (h : SqL K H a xs) : tyV K "list" (.ref a) H := .inl ⟨rfl, xs, h⟩
end

/-! ### the built-ins by name -/
def rLenU (K : PySem.W.Frag) : List V → Hp → VK → Prop := fun xs H Q => ∃ x n, xs = [x] ∧ LenV K x H n ∧ Q (.int n) H
def rAbs : List V → Hp → VK → Prop := fun xs H Q => ∃ i, xs = [.int i] ∧ Q (.int (if i < 0 then -i else i)) H
def rInt : List V → Hp → VK → Prop := fun xs H Q => (∃ i, xs = [.int i] ∧ Q (.int i) H) ∨ ∃ k, xs = [.bl k] ∧ Q (.int (if k then 1 else 0)) H
def rStrI : List V → Hp → VK → Prop := fun xs H Q => ∃ i, xs = [.int i] ∧ i.natAbs.log2 < 1920 ∧ Q (.str (toString i)) H
def rBool : List V → Hp → VK → Prop := fun xs H Q => (∃ i, xs = [.int i] ∧ Q (.bl (i != 0)) H) ∨ ∃ k, xs = [.bl k] ∧ Q (.bl k) H
def rTupU (K : PySem.W.Frag) : List V → Hp → VK → Prop := fun xs H Q => ∃ p ys, xs = [.ref p] ∧ ((SqL K H p ys ∧ ∀ l, H l = none → Q (.ref l) (upd H l (.tup ys))) ∨ (SqT K H p ys ∧ Q (.ref p) H))
def rLstU (K : PySem.W.Frag) : List V → Hp → VK → Prop := fun xs H Q => ∃ p ys, xs = [.ref p] ∧ (SqL K H p ys ∨ SqT K H p ys) ∧ ∀ l, H l = none → Q (.ref l) (upd H l (.lst ys))
def rMax2 : List V → Hp → VK → Prop := fun xs H Q => ∃ i j, xs = [.int i, .int j] ∧ Q (.int (if j > i then j else i)) H
def rMin2 : List V → Hp → VK → Prop := fun xs H Q => ∃ i j, xs = [.int i, .int j] ∧ Q (.int (if j < i then j else i)) H
def rSlU (K : PySem.W.Frag) : V → Option Int → Option Int → Hp → VK → Prop := fun x lo hi H Q => rSlL K x lo hi H Q ∨ rSlA K x lo hi H Q ∨ rSlS x lo hi H Q
section
variable {X : Cx}
theorem cb_len : CallR X (.builtin "len") (rLenU X.K) := call_len
theorem cb_abs : CallR X (.builtin "abs") rAbs := call_abs
theorem cb_int : CallR X (.type "int") rInt := call_int1
theorem cb_str : CallR X (.type "str") rStrI := call_str_int
theorem cb_bool : CallR X (.type "bool") rBool := call_bool1
theorem cb_tuple : CallR X (.type "tuple") (rTupU X.K) := call_tuple_of
theorem cb_list : CallR X (.type "list") (rLstU X.K) := call_list_of
theorem u_sl : SlR X (rSlU X.K) := SlR.or sl_list (SlR.or sl_tupA sl_str)
end
section
variable {K : PySem.W.Frag} {H : Hp} {Q : VK} {a : Addr} {xs : List V} {ta te : TE} {tl th : TO} {σ : L2.St}
theorem q_lenL (h : SqL K H a xs) (k : Q (.int xs.length) H) : rLenU K [.ref a] H Q := ⟨_, _, rfl, .inl ⟨xs, h, rfl⟩, k⟩
theorem q_lenT (h : SqT K H a xs) (k : Q (.int xs.length) H) : rLenU K [.ref a] H Q := ⟨_, _, rfl, .inr ⟨xs, h, rfl⟩, k⟩
theorem q_lenS {z : Str} (h : z.length ≤ sizeLine) (k : Q (.int z.length) H) : rLenU K [.str z] H Q := ⟨_, _, rfl, ⟨h, rfl⟩, k⟩
theorem q_abs {i : Int} (k : Q (.int (if i < 0 then -i else i)) H) : rAbs [.int i] H Q := ⟨i, rfl, k⟩
theorem q_int {i : Int} (k : Q (.int i) H) : rInt [.int i] H Q := .inl ⟨i, rfl, k⟩
theorem q_intB {b : Bool} (k : Q (.int (if b then 1 else 0)) H) : rInt [.bl b] H Q := .inr ⟨b, rfl, k⟩
theorem q_str {i : Int} (h : i.natAbs.log2 < 1920) (k : Q (.str (toString i)) H) : rStrI [.int i] H Q := ⟨i, rfl, h, k⟩
theorem q_tupL (h : SqL K H a xs) (k : ∀ l, H l = none → Q (.ref l) (upd H l (.tup xs))) : rTupU K [.ref a] H Q := ⟨a, xs, rfl, .inl ⟨h, k⟩⟩
theorem q_tupT (h : SqT K H a xs) (k : Q (.ref a) H) : rTupU K [.ref a] H Q := ⟨a, xs, rfl, .inr ⟨h, k⟩⟩
theorem q_lstL (h : SqL K H a xs) (k : ∀ l, H l = none → Q (.ref l) (upd H l (.lst xs))) : rLstU K [.ref a] H Q := ⟨a, xs, rfl, .inl h, k⟩
theorem q_lstT (h : SqT K H a xs) (k : ∀ l, H l = none → Q (.ref l) (upd H l (.lst xs))) : rLstU K [.ref a] H Q := ⟨a, xs, rfl, .inr h, k⟩
theorem q_max {i j : Int} (k : Q (.int (if j > i then j else i)) H) : rMax2 [.int i, .int j] H Q := ⟨i, j, rfl, k⟩
theorem q_min {i j : Int} (k : Q (.int (if j < i then j else i)) H) : rMin2 [.int i, .int j] H Q := ⟨i, j, rfl, k⟩
theorem r_sl {r : V → Option Int → Option Int → Hp → VK → Prop} (h : ta σ H fun x H1 => tl σ H1 fun l H2 => th σ H2 fun u H3 => r x l u H3 Q) : tSl r ta tl th σ H Q := h
theorem r_nopart {QO : Option Int → Hp → Prop} (h : QO none H) : tNoPart σ H QO := h
theorem r_part {QO : Option Int → Hp → Prop} (h : te σ H fun x H1 => ∃ i, x = .int i ∧ QO (some i) H1) : tPart te σ H QO := h
theorem r_parti {i : Int} {F : Int → Prop} (h : F i) : ∃ j, V.int i = .int j ∧ F j := ⟨i, rfl, h⟩
theorem q_slL {lo hi : Option Int} (h : SqL K H a xs) (k : ∀ p, H p = none → Q (.ref p) (upd H p (.lst (cutV xs lo hi)))) : rSlU K (.ref a) lo hi H Q := .inl ⟨a, xs, rfl, h, k⟩
theorem q_slS {lo hi : Option Int} {z : Str} (h : z.length ≤ sizeLine) (k : Q (.str (cutS z lo hi)) H) : rSlU K (.str z) lo hi H Q := .inr (.inr ⟨z, rfl, h, k⟩)
theorem q_catL {b : Addr} {ys : List V} (h : H a = some (.lst xs)) (h2 : H b = some (.lst ys)) (z : xs.length + ys.length ≤ sizeLine) (k : ∀ p, H p = none → Q (.ref p) (upd H p (.lst (xs ++ ys)))) : rAddU K (.ref a) (.ref b) H Q := .inl ⟨a, b, xs, ys, rfl, rfl, h, h2, z, k⟩
theorem r_gsub {to ti : TE} {t : TSet} {v : V} {N : L2.St → Hp → Prop} (h : to σ H fun o H1 => ti σ H1 fun i H2 => t o i v H2 fun H3 => N σ H3) : gSub to ti t v σ H N := h
theorem q_set {n : Int} {j : Nat} {v : V} {N : Hp → Prop} (h : H a = some (.lst xs)) (e : ixN xs.length n = some j) (k : N (upd H a (.lst (xs.set j v)))) : rSetL (.ref a) (.int n) v H N := ⟨a, xs, n, j, rfl, rfl, h, e, k⟩
theorem r_par {i j : Nat} {tr : TA} {D : Ends} (h : tr σ H fun vs H1 => ∃ v w, vs = [v, w] ∧ D.nx ((σ.set i (some v)).set j (some w)) H1) : tPar i j tr D σ H := h
theorem r_par2 {v w : V} {N : V → V → Prop} (h : N v w) : ∃ v' w', [v, w] = [v', w'] ∧ N v' w' := ⟨v, w, rfl, h⟩
theorem q_isi {x c : V} {t u : Value} {b : Bool} (k : ClsV c u) (ty : TyX K H x t) (e : PySem.W.kitOne K t u = some b) (q : Q (.bl b) H) : rIsi K [x, c] H Q := ⟨x, c, t, u, b, rfl, k, ty, e, q⟩
end
end Uv
/-! ### the steps, found by their heads -/
namespace Uv
open PySem PySem.Spec PyProof.Rows L2
class St1 (P : Prop) (R : outParam Prop) : Prop where
  imp : R → P
theorem stp {P R : Prop} [h : St1 P R] (q : R) : P := h.imp q
/-- the value of a slot; a slot set -/
class Lk (σ : L2.St) (i : Nat) (v : outParam V) : Prop where
  eq : σ[i]? = some (some v)
class Sl (σ : L2.St) (i : Nat) (v : V) (σ' : outParam L2.St) : Prop where
  eq : σ.set i (some v) = σ'
section
variable {K : PySem.W.Frag} {σ σ' : L2.St} {H : Hp} {Q : VK} {QB : Bool → Hp → Prop} {QA : List V → Hp → Prop} {D : Ends} {N : L2.St → Hp → Prop} {i : Nat} {v w x y : V} {o : Option V} {ta tb tc te : TE} {t u : TS} {c d : TT} {g : TG} {tr : TA} {r : R2} {A B : Prop} {F : Bool → Prop} {b : Bool}
instance lk0 : Lk (some v :: σ) 0 v := ⟨rfl⟩
instance lkS [h : Lk σ i v] : Lk (o :: σ) (i + 1) v := ⟨by simpa using h.eq⟩
instance sl0 : Sl (o :: σ) 0 v (some v :: σ) := ⟨rfl⟩
instance slS [h : Sl σ i v σ'] : Sl (o :: σ) (i + 1) v (o :: σ') := ⟨by rw [← h.eq]; rfl⟩
instance : St1 (tSeq t u D σ H) (t { D with nx := u D } σ H) := ⟨fun h => h⟩
instance : St1 (tNext D σ H) (D.nx σ H) := ⟨fun h => h⟩
instance : St1 (tBreak D σ H) (D.bk σ H) := ⟨fun h => h⟩
instance : St1 (tCont D σ H) (D.ct σ H) := ⟨fun h => h⟩
instance : St1 (tRet te D σ H) (te σ H D.rt) := ⟨fun h => h⟩
instance : St1 (tRetN D σ H) (D.rt .non H) := ⟨fun h => h⟩
instance : St1 (tDrop te D σ H) (te σ H fun _ H1 => D.nx σ H1) := ⟨fun h => h⟩
instance : St1 (tAsg te g D σ H) (te σ H fun x H1 => g x σ H1 D.nx) := ⟨fun h => h⟩
instance [h : Sl σ i v σ'] : St1 (gName i v σ H N) (N σ' H) := ⟨fun q => by have e := h.eq; show N (σ.set i (some v)) H; rw [e]; exact q⟩
instance [h : Lk σ i v] : St1 (tVar i σ H Q) (Q v H) := ⟨fun q => ⟨v, h.eq, q⟩⟩
instance : St1 (tC v σ H Q) (Q v H) := ⟨fun h => h⟩
instance : St1 (tOp r ta tb σ H Q) (ta σ H fun x H1 => tb σ H1 fun y H2 => r x y H2 Q) := ⟨fun h => h⟩
instance {f : V → Hp → VK → Prop} : St1 (tUn f ta σ H Q) (ta σ H fun x H1 => f x H1 Q) := ⟨fun h => h⟩
instance : St1 (tNil σ H QA) (QA [] H) := ⟨fun h => h⟩
instance : St1 (tCons ta tr σ H QA) (ta σ H fun x H1 => tr σ H1 fun xs H2 => QA (x :: xs) H2) := ⟨fun h => h⟩
instance : St1 (tIfS c t u D σ H) (c σ H fun b H1 => if b = true then t D σ H1 else u D σ H1) := ⟨fun h => h⟩
instance : St1 (tTest te σ H QB) (te σ H fun x H' => ∃ k, x = .bl k ∧ QB k H') := ⟨fun h => h⟩
instance : St1 (∃ k, V.bl b = .bl k ∧ F k) (F b) := ⟨fun h => ⟨b, rfl, h⟩⟩
instance : St1 (tAnd c d σ H QB) (c σ H fun k H1 => if k = true then d σ H1 QB else QB false H1) := ⟨fun h => h⟩
instance : St1 (tOr c d σ H QB) (c σ H fun k H1 => if k = true then QB true H1 else d σ H1 QB) := ⟨fun h => h⟩
instance : St1 (tNot c σ H QB) (c σ H fun k H1 => QB (!k) H1) := ⟨fun h => h⟩
instance : St1 (tIf c ta tb σ H Q) (c σ H fun k H1 => if k = true then ta σ H1 Q else tb σ H1 Q) := ⟨fun h => h⟩
instance : St1 (tAndT K ta tb σ H Q) (ta σ H fun x H1 => ∃ k, TruV K x H1 k ∧ if k = true then tb σ H1 Q else Q x H1) := ⟨fun h => h⟩
instance : St1 (tOrT K ta tb σ H Q) (ta σ H fun x H1 => ∃ k, TruV K x H1 k ∧ if k = true then Q x H1 else tb σ H1 Q) := ⟨fun h => h⟩
instance : St1 (tNotT K ta σ H Q) (ta σ H fun x H1 => ∃ k, TruV K x H1 k ∧ Q (.bl (!k)) H1) := ⟨fun h => h⟩
instance : St1 (tTr K ta σ H QB) (ta σ H fun x H1 => ∃ k, TruV K x H1 k ∧ QB k H1) := ⟨fun h => h⟩
instance : St1 (∃ k, TruV K (.bl b) H k ∧ F k) (F b) := ⟨fun h => ⟨b, rfl, h⟩⟩
instance : St1 (∃ k, TruV K .non H k ∧ F k) (F false) := ⟨fun h => ⟨false, rfl, h⟩⟩
instance : St1 (tTup tr σ H Q) (tr σ H fun xs H1 => xs.length ≤ sizeLine ∧ ∀ p, H1 p = none → Q (.ref p) (upd H1 p (.tup xs))) := ⟨fun h => h⟩
instance : St1 (tLst tr σ H Q) (tr σ H fun xs H1 => xs.length ≤ sizeLine ∧ ∀ p, H1 p = none → Q (.ref p) (upd H1 p (.lst xs))) := ⟨fun h => h⟩
instance {sp : Sp} {dvs : List V} {E : XK} : St1 (tCall sp dvs E tr σ H Q) (tr σ H fun vs H1 => sp (vs ++ dvs) H1 Q E) := ⟨fun h => h⟩
instance {f : List V → Hp → VK → Prop} : St1 (tCB f tr σ H Q) (tr σ H fun vs H1 => f vs H1 Q) := ⟨fun h => h⟩
instance {C : Addr} {sp : Sp} {dvs : List V} {E : XK} : St1 (tMake C sp dvs E tr σ H Q) (tr σ H fun vs H1 => ∀ x dx, H1 x = none → H1 dx = none → dx ≠ x →
  sp (.ref x :: (vs ++ dvs)) (upd (upd H1 dx (.own x)) x (.ins C dx [])) (fun v H2 => v = .non ∧ Q (.ref x) H2) E) := ⟨fun h => h⟩
instance {C : Addr} {m : Str} {sp : Sp} {dvs : List V} {E : XK} : St1 (tMeth C m sp dvs E ta tr σ H Q) (ta σ H fun x H1 => ∃ a dx fs, x = .ref a ∧ H1 a = some (.ins C dx fs) ∧ fs.lookup m = none ∧ tr σ H1 fun vs H2 => sp (x :: (vs ++ dvs)) H2 Q E) := ⟨fun h => h⟩
instance {f : Str} : St1 (sFld K ta tb f D σ H) (tb σ H fun y H1 => ta σ H1 fun x H2 => ∃ a C dx fs, x = .ref a ∧ H2 a = some (.ins C dx fs) ∧ Cls K C ∧ NoAttr K C f ∧ fs.length < 1000 ∧ D.nx σ (upd H2 a (.ins C dx (putF f y fs)))) := ⟨fun h => h⟩
instance {T : String} {f : V → List V → Hp → VK → Prop} : St1 (tBM K T f ta tr σ H Q) (ta σ H fun x H1 => tyV K T x H1 ∧ tr σ H1 fun xs H2 => f x xs H2 Q) := ⟨fun h => h⟩
instance {T : String} {f : V → List V → Hp → VK → Prop} : St1 (tBM0 K T f ta σ H Q) (ta σ H fun x H1 => tyV K T x H1 ∧ f x [] H1 Q) := ⟨fun h => h⟩
instance {i j : Nat} : St1 (tPar i j tr D σ H) (tr σ H fun vs H1 => ∃ v w, vs = [v, w] ∧ D.nx ((σ.set i (some v)).set j (some w)) H1) := ⟨fun h => h⟩
theorem par_of {i j : Nat} {v w : V} {σ1 σ2 : L2.St} (h1 : Sl σ i v σ1) (h2 : Sl σ1 j w σ2) (q : N σ2 H) : ∃ v' w', [v, w] = [v', w'] ∧ N ((σ.set i (some v')).set j (some w')) H := ⟨v, w, rfl, by rw [h1.eq, h2.eq]; exact q⟩
instance {i j : Nat} {σ1 σ2 : L2.St} [h1 : Sl σ i v σ1] [h2 : Sl σ1 j w σ2] : St1 (∃ v' w', [v, w] = [v', w'] ∧ N ((σ.set i (some v')).set j (some w')) H) (N σ2 H) := ⟨fun q => par_of h1 h2 q⟩
instance {vs : List V} {gs : TGs} : St1 (gCons g gs (v :: vs) σ H N) (g v σ H fun σ' H' => gs vs σ' H' N) := ⟨fun h => ⟨v, vs, rfl, h⟩⟩
instance : St1 (gNil [] σ H N) (N σ H) := ⟨fun h => ⟨rfl, h⟩⟩
instance {to ti : TE} {ts : TSet} : St1 (gSub to ti ts v σ H N) (to σ H fun o H1 => ti σ H1 fun i H2 => ts o i v H2 fun H3 => N σ H3) := ⟨fun h => h⟩
instance {r : V → Option Int → Option Int → Hp → VK → Prop} {tl th : TO} : St1 (tSl r ta tl th σ H Q) (ta σ H fun x H1 => tl σ H1 fun l H2 => th σ H2 fun u H3 => r x l u H3 Q) := ⟨fun h => h⟩
instance {QO : Option Int → Hp → Prop} : St1 (tNoPart σ H QO) (QO none H) := ⟨fun h => h⟩
instance {QO : Option Int → Hp → Prop} : St1 (tPart te σ H QO) (te σ H fun x H1 => ∃ i, x = .int i ∧ QO (some i) H1) := ⟨fun h => h⟩
instance {n : Int} {F : Int → Prop} : St1 (∃ j, V.int n = .int j ∧ F j) (F n) := ⟨fun h => ⟨n, rfl, h⟩⟩
instance : St1 (if (true : Bool) = true then A else B) A := ⟨fun h => h⟩
instance : St1 (if (false : Bool) = true then A else B) B := ⟨fun h => h⟩
instance : St1 (if (!true) = true then A else B) B := ⟨fun h => h⟩
instance : St1 (if (!false) = true then A else B) A := ⟨fun h => h⟩
end
section
variable {K : PySem.W.Frag} {H : Hp} {Q : VK} {i j : Int} {s t : Str} {a : Addr} {b : Bool}
instance : St1 (rAddU K (.int i) (.int j) H Q) (Q (.int (i + j)) H) := ⟨fun h => h⟩
instance {g : Int → V} : St1 (rU g (.int i) H Q) (Q (g i) H) := ⟨fun h => ⟨i, rfl, h⟩⟩
instance : St1 (rSubU (.int i) (.int j) H Q) (Q (.int (i - j)) H) := ⟨fun h => h⟩
instance : St1 (rLtU (.int i) (.int j) H Q) (Q (.bl (decide (i < j))) H) := ⟨fun h => h⟩
instance : St1 (rLeU (.int i) (.int j) H Q) (Q (.bl (decide (i ≤ j))) H) := ⟨fun h => h⟩
instance : St1 (rGtU (.int i) (.int j) H Q) (Q (.bl (decide (j < i))) H) := ⟨fun h => h⟩
instance : St1 (rGeU (.int i) (.int j) H Q) (Q (.bl (decide (j ≤ i))) H) := ⟨fun h => h⟩
instance : St1 (rEqU K (.int i) (.int j) H Q) (Q (.bl (decide (i = j))) H) := ⟨fun h => h⟩
instance : St1 (rEqU K (.str s) (.str t) H Q) (Q (.bl (decide (s = t))) H) := ⟨fun h => h⟩
instance : St1 (rNeU K (.int i) (.int j) H Q) (Q (.bl (!decide (i = j))) H) := ⟨fun h => h⟩
instance : St1 (rNeU K (.str s) (.str t) H Q) (Q (.bl (!decide (s = t))) H) := ⟨fun h => h⟩
instance : St1 (rIsU (.int i) .non H Q) (Q (.bl false) H) := ⟨fun h => h⟩
instance : St1 (rIsU .non .non H Q) (Q (.bl true) H) := ⟨fun h => h⟩
instance : St1 (rIsU (.ref a) .non H Q) (Q (.bl false) H) := ⟨fun h => h⟩
instance : St1 (rIsU (.str s) .non H Q) (Q (.bl false) H) := ⟨fun h => h⟩
instance : St1 (rNotU (.int i) .non H Q) (Q (.bl true) H) := ⟨fun h => h⟩
instance : St1 (rNotU .non .non H Q) (Q (.bl false) H) := ⟨fun h => h⟩
instance : St1 (rNotU (.ref a) .non H Q) (Q (.bl true) H) := ⟨fun h => h⟩
instance : St1 (rNotU (.str s) .non H Q) (Q (.bl true) H) := ⟨fun h => h⟩
instance : St1 (rInt [.int i] H Q) (Q (.int i) H) := ⟨fun h => .inl ⟨i, rfl, h⟩⟩
instance : St1 (rInt [.bl b] H Q) (Q (.int (if b then 1 else 0)) H) := ⟨fun h => .inr ⟨b, rfl, h⟩⟩
instance : St1 (rMax2 [.int i, .int j] H Q) (Q (.int (if j > i then j else i)) H) := ⟨fun h => ⟨i, j, rfl, h⟩⟩
instance : St1 (rMin2 [.int i, .int j] H Q) (Q (.int (if j < i then j else i)) H) := ⟨fun h => ⟨i, j, rfl, h⟩⟩
instance : St1 (rAbs [.int i] H Q) (Q (.int (if i < 0 then -i else i)) H) := ⟨fun h => ⟨i, rfl, h⟩⟩
end
end Uv
/-! ### comprehensions -/
namespace Uv
open PySem PySem.Spec PyProof.Rows L2
class SlN (σ : L2.St) (i : Nat) (σ' : outParam L2.St) : Prop where
  eq : σ.set i none = σ'
class Wp (σ : L2.St) (vs : List Nat) (σ' : outParam L2.St) : Prop where
  eq : wipe σ vs = σ'
section
variable {K : PySem.W.Frag} {σ σ' σ1 : L2.St} {H : Hp} {Q : VK} {i : Nat} {o : Option V} {te tel : TE} {tt : TT} {g : TG} {vs : List Nat} {a : Addr} {xs : List V} {ta : TA}
instance slN0 : SlN (o :: σ) 0 (none :: σ) := ⟨rfl⟩
instance slNS [h : SlN σ i σ'] : SlN (o :: σ) (i + 1) (o :: σ') := ⟨by rw [← h.eq]; rfl⟩
instance wp0 : Wp σ [] σ := ⟨rfl⟩
instance wpS [h1 : Wp σ vs σ1] [h2 : SlN σ1 i σ'] : Wp σ (i :: vs) σ' := ⟨by unfold wipe; rw [h1.eq, h2.eq]⟩
abbrev LC (J : It) (g : TG) (tt : TT) (te : TE) (vs : List Nat) (σ : L2.St) (H1 : Hp) (Q : VK) : Prop := ∀ D, H1 D = none → ∃ W : Nat → Nat → Hp → Prop, (∃ m, W 0 m (upd H1 D (.lst []))) ∧ ∀ i m H, W i m H →
  (J.stop i H ∧ Q (.ref D) H) ∨ (J.go i H ∧ ∃ Nx : Hp → Prop, (∀ H', Nx H' → ∃ m', m' < m ∧ W (i + 1) m' H') ∧ ∀ x H', J.yld i H x H' → g x (wipe σ vs) H' fun σ2 H2 => wipe σ2 vs = wipe σ vs ∧ tt σ2 H2 fun b H3 =>
    if b = true then te σ2 H3 fun y H4 => ∃ acc, H4 D = some (.lst acc) ∧ acc.length < sizeLine ∧ Nx (upd H4 D (.lst (acc ++ [y]))) else Nx H3)
theorem r_lcL (h : te σ H fun x H1 => ∃ a, x = .ref a ∧ (∃ xs, SqL K H1 a xs) ∧ LC (Itl K a) g tt tel vs σ H1 Q) : tLc (iSeqU K te) g tt tel vs σ H Q := .inl h
theorem r_lcT (h : te σ H fun x H1 => ∃ a, x = .ref a ∧ (∃ xs, SqT K H1 a xs) ∧ LC (Itt K a) g tt tel vs σ H1 Q) : tLc (iSeqU K te) g tt tel vs σ H Q := .inr (.inl h)
theorem r_lcS (h : te σ H fun x H1 => ∃ z, x = .str z ∧ LC (Its z) g tt tel vs σ H1 Q) : tLc (iSeqU K te) g tt tel vs σ H Q := .inr (.inr h)
theorem r_lcR (h : ta σ H fun xs H1 => ∃ j : Int, xs = [.int j] ∧ -(2 ^ 62) ≤ j ∧ j < 2 ^ 62 ∧ LC (Itr 0 j.toNat) g tt tel vs σ H1 Q) : tLc (iRng1 ta) g tt tel vs σ H Q := h
theorem q_lcL [hw : Wp σ vs σ'] (hS : SqL K H a xs) (Pv : Addr → Nat → Hp → Prop) (h0 : ∀ D, H D = none → Pv D 0 (upd H D (.lst []))) (hl : ∀ D i H', i ≤ xs.length → Pv D i H' → SqL K H' a xs)
    (hs : ∀ D i x H', xs[i]? = some x → Pv D i H' → g x σ' H' fun σ2 H2 => wipe σ2 vs = σ' ∧ tt σ2 H2 fun b H3 =>
      if b = true then tel σ2 H3 fun y H4 => ∃ acc, H4 D = some (.lst acc) ∧ acc.length < sizeLine ∧ Pv D (i + 1) (upd H4 D (.lst (acc ++ [y]))) else Pv D (i + 1) H3)
    (hd : ∀ D H', H D = none → Pv D xs.length H' → Q (.ref D) H') : ∃ a', V.ref a = .ref a' ∧ (∃ xs, SqL K H a' xs) ∧ LC (Itl K a') g tt tel vs σ H Q := by
  refine ⟨a, rfl, ⟨xs, hS⟩, fun D hD => ?_⟩
  refine lc_list (Pv D) (h0 D hD) (hl D) (fun i x H' hx p => ?_) (fun H' p => hd D H' hD p)
  rw [hw.eq]
  exact hs D i x H' hx p
theorem q_lcT [hw : Wp σ vs σ'] (hS : SqT K H a xs) (Pv : Addr → Nat → Hp → Prop) (h0 : ∀ D, H D = none → Pv D 0 (upd H D (.lst []))) (hl : ∀ D i H', i ≤ xs.length → Pv D i H' → SqT K H' a xs)
    (hs : ∀ D i x H', xs[i]? = some x → Pv D i H' → g x σ' H' fun σ2 H2 => wipe σ2 vs = σ' ∧ tt σ2 H2 fun b H3 =>
      if b = true then tel σ2 H3 fun y H4 => ∃ acc, H4 D = some (.lst acc) ∧ acc.length < sizeLine ∧ Pv D (i + 1) (upd H4 D (.lst (acc ++ [y]))) else Pv D (i + 1) H3)
    (hd : ∀ D H', H D = none → Pv D xs.length H' → Q (.ref D) H') : ∃ a', V.ref a = .ref a' ∧ (∃ xs, SqT K H a' xs) ∧ LC (Itt K a') g tt tel vs σ H Q := by
  refine ⟨a, rfl, ⟨xs, hS⟩, fun D hD => ?_⟩
  refine lc_tup (Pv D) (h0 D hD) (hl D) (fun i x H' hx p => ?_) (fun H' p => hd D H' hD p)
  rw [hw.eq]
  exact hs D i x H' hx p
theorem q_lcR [hw : Wp σ vs σ'] {n : Int} (h1 : -(2 ^ 62) ≤ n) (h2 : n < 2 ^ 62) (Pv : Addr → Nat → Hp → Prop) (h0 : ∀ D, H D = none → Pv D 0 (upd H D (.lst [])))
    (hs : ∀ (D : Addr) (i : Nat) H', (i : Int) < n → Pv D i H' → g (.int i) σ' H' fun σ2 H2 => wipe σ2 vs = σ' ∧ tt σ2 H2 fun b H3 =>
      if b = true then tel σ2 H3 fun y H4 => ∃ acc, H4 D = some (.lst acc) ∧ acc.length < sizeLine ∧ Pv D (i + 1) (upd H4 D (.lst (acc ++ [y]))) else Pv D (i + 1) H3)
    (hd : ∀ D H', H D = none → Pv D n.toNat H' → Q (.ref D) H') : ∃ j : Int, [V.int n] = [.int j] ∧ -(2 ^ 62) ≤ j ∧ j < 2 ^ 62 ∧ LC (Itr 0 j.toNat) g tt tel vs σ H Q := by
  refine ⟨n, rfl, h1, h2, fun D hD => ?_⟩
  refine lc_range (lo := 0) (n := n.toNat) (Pv D) (h0 D hD) (fun i H' hi p => ?_) (fun H' p => hd D H' hD p)
  rw [hw.eq]
  have e : (0 : Int) + (i : Int) = (i : Int) := Int.zero_add _
  rw [e]
  exact hs D i H' (by omega) p
end
instance {σ : L2.St} {H : Hp} {QB : Bool → Hp → Prop} : St1 (tYes σ H QB) (QB true H) := ⟨fun h => h⟩
/-! ### stores elsewhere -/
/-- a change at a list, or at a new place, leaves tuples -/
theorem _root_.L2.SqT.upd {K : PySem.W.Frag} {H : Hp} {a D : Addr} {xs : List V} {o : HO} (h : SqT K H a xs) (hD : (∃ l, H D = some (.lst l)) ∨ H D = none ∨ ∃ C dx fs, H D = some (.ins C dx fs)) : SqT K (upd H D o) a xs := by
  have ne : ∀ u, H a = some u → (∀ l, u ≠ .lst l) → (∀ C dx fs, u ≠ .ins C dx fs) → a ≠ D := fun u e n1 n2 z => by
    subst z
    rcases hD with ⟨l, q⟩ | q | ⟨C, dx, fs, q⟩
    · rw [e] at q; cases q; exact n1 l rfl
    · rw [e] at q; cases q
    · rw [e] at q; cases q; exact n2 C dx fs rfl
  rcases h with (h | ⟨ob, h⟩) | h
  · exact .inl (.inl (by rw [upd_ne (ne _ h (fun _ z => nomatch z) fun _ _ _ z => nomatch z)]; exact h))
  · exact .inl (.inr ⟨ob, by rw [upd_ne (ne _ h (fun _ z => nomatch z) fun _ _ _ z => nomatch z)]; exact h⟩)
  · exact .inr h
/-- a list elsewhere -/
theorem _root_.L2.SqL.upd {K : PySem.W.Frag} {H : Hp} {a D : Addr} {xs : List V} {o : HO} (h : SqL K H a xs) (hn : a ≠ D) : SqL K (upd H D o) a xs := by
  rcases h with (h | ⟨ob, h⟩) | h
  · exact .inl (.inl (by rw [upd_ne hn]; exact h))
  · exact .inl (.inr ⟨ob, by rw [upd_ne hn]; exact h⟩)
  · exact .inr h
/-- all but one place -/
def But (p : Addr) (H H' : Hp) : Prop := ∀ b o, b ≠ p → H b = some o → H' b = some o
theorem But.refl (p : Addr) (H : Hp) : But p H H := fun _ _ _ h => h
theorem But.trans {p : Addr} {H H1 H2 : Hp} (a : But p H H1) (b : But p H1 H2) : But p H H2 := fun c o n h => b c o n (a c o n h)
theorem But.of {p : Addr} {H H1 : Hp} (a : Same H H1) : But p H H1 := fun c o _ h => a c o h
theorem But.upd {p : Addr} {H : Hp} {o : HO} : But p H (upd H p o) := fun c u n h => by rw [upd_ne n]; exact h
theorem But.new {p q : Addr} {H H1 : Hp} {o : HO} (h : But p H H1) (hq : H1 q = none) : But p H (L2.upd H1 q o) := fun c u n e => by
  have e1 := h c u n e
  rw [upd_ne (ne_of_none e1 hq)]
  exact e1
theorem But.seqT {K : PySem.W.Frag} {p a : Addr} {H H' : Hp} {xs : List V} (b : But p H H') (hp : (∃ l, H p = some (.lst l)) ∨ H p = none ∨ ∃ C dx fs, H p = some (.ins C dx fs)) (h : SqT K H a xs) : SqT K H' a xs := by
  have ne : ∀ u, H a = some u → (∀ l, u ≠ .lst l) → (∀ C dx fs, u ≠ .ins C dx fs) → a ≠ p := fun u e n1 n2 z => by
    subst z
    rcases hp with ⟨l, q⟩ | q | ⟨C, dx, fs, q⟩
    · rw [e] at q; cases q; exact n1 l rfl
    · rw [e] at q; cases q
    · rw [e] at q; cases q; exact n2 C dx fs rfl
  rcases h with (h | ⟨ob, h⟩) | h
  · exact .inl (.inl (b _ _ (ne _ h (fun _ z => nomatch z) fun _ _ _ z => nomatch z) h))
  · exact .inl (.inr ⟨ob, b _ _ (ne _ h (fun _ z => nomatch z) fun _ _ _ z => nomatch z) h⟩)
  · exact .inr h
theorem But.seq {K : PySem.W.Frag} {p a : Addr} {H H' : Hp} {xs : List V} (b : But p H H') (hn : a ≠ p) (h : SqL K H a xs) : SqL K H' a xs := by
  rcases h with (h | ⟨ob, h⟩) | h
  · exact .inl (.inl (b _ _ hn h))
  · exact .inl (.inr ⟨ob, b _ _ hn h⟩)
  · exact .inr h
theorem cut_last {xs : List V} {x : V} : cutV (xs ++ [x]) none (some (-1)) = xs := by
  have e1 : (xs ++ [x]).length = xs.length + 1 := by rw [List.length_append]; rfl
  have e2 : HT.sIx (xs.length + 1) (xs.length + 1) (some (-1)) = xs.length := by
    show (if (-1 : Int) < 0 then ((-1 : Int) + ((xs.length + 1 : Nat) : Int)).toNat else min (-1 : Int).toNat (xs.length + 1)) = _
    rw [if_pos (by decide)]
    omega
  have e3 : HT.sIx (xs.length + 1) 0 none = 0 := rfl
  unfold cutV
  rw [e1, e2, e3, List.drop_zero, Nat.sub_zero, List.take_left]
theorem at_last {xs : List V} {x : V} : atI (xs ++ [x]) (-1) = some x := by
  unfold atI ixN
  have e1 : (xs ++ [x]).length = xs.length + 1 := by rw [List.length_append]; rfl
  rw [if_neg (by decide), e1, if_pos (by omega)]
  have e2 : ((-1 : Int) + ((xs.length + 1 : Nat) : Int)).toNat = xs.length := by omega
  rw [e2]
  simp
/-! ### isinstance of plain values, comparisons of bools, a method's call -/
section
variable {K : PySem.W.Frag} {H : Hp} {Q : VK} {i : Int} {b c : Bool} {z : Str} {a : Addr}
theorem isi_b {x : V} {A T : String} {r : Bool} (ty : TyX K H x (.type A)) (e : kitB A T = some r) (q : Q (.bl r) H) : rIsi K [x, .ty T] H Q := q_isi (.ty T) ty (kit_ty e) q
instance : St1 (rIsi K [.int i, .ty "int"] H Q) (Q (.bl true) H) := ⟨fun q => isi_b (.base (.int i)) (by decide +kernel) q⟩
instance : St1 (rIsi K [.int i, .ty "bool"] H Q) (Q (.bl false) H) := ⟨fun q => isi_b (.base (.int i)) (by decide +kernel) q⟩
instance : St1 (rIsi K [.non, .ty "int"] H Q) (Q (.bl false) H) := ⟨fun q => isi_b (.base .non) (by decide +kernel) q⟩
instance : St1 (rIsi K [.str z, .ty "str"] H Q) (Q (.bl true) H) := ⟨fun q => isi_b (.base (.str z)) (by decide +kernel) q⟩
instance : St1 (rIsi K [.bl b, .ty "bool"] H Q) (Q (.bl true) H) := ⟨fun q => isi_b (.base (.bl b)) (by decide +kernel) q⟩
theorem isi_tup {xs : List V} (h : H a = some (.tup xs)) (q : Q (.bl true) H) : rIsi K [.ref a, .ty "tuple"] H Q := isi_b (.base (.tup h)) (by decide +kernel) q
theorem dec_bl (a b : Bool) : decide (V.bl a = V.bl b) = decide (a = b) := by cases a <;> cases b <;> decide
instance : St1 (rNeU K (.bl b) (.bl c) H Q) (Q (.bl (!decide (b = c))) H) := ⟨fun q => ⟨rfl, by rw [dec_bl]; exact q⟩⟩
instance : St1 (rEqU K (.bl b) (.bl c) H Q) (Q (.bl (decide (b = c))) H) := ⟨fun q => ⟨rfl, by rw [dec_bl]; exact q⟩⟩
instance : St1 (rEqU K .non (.int i) H Q) (Q (.bl false) H) := ⟨fun q => ⟨rfl, q⟩⟩
instance : St1 (rEqU K (.int i) .non H Q) (Q (.bl false) H) := ⟨fun q => ⟨rfl, q⟩⟩
instance : St1 (rEqU K .non .non H Q) (Q (.bl true) H) := ⟨fun q => ⟨rfl, q⟩⟩
instance : St1 (rNeU K .non (.int i) H Q) (Q (.bl true) H) := ⟨fun q => ⟨rfl, q⟩⟩
instance : St1 (rNeU K (.int i) .non H Q) (Q (.bl true) H) := ⟨fun q => ⟨rfl, q⟩⟩
theorem r_methOf {C dx : Addr} {fs : List (Str × V)} {m : Str} {R : Prop} (ho : H a = some (.ins C dx fs)) (hl : fs.lookup m = none) (q : R) : ∃ a' dx fs, V.ref a = .ref a' ∧ H a' = some (.ins C dx fs) ∧ fs.lookup m = none ∧ R := ⟨a, dx, fs, rfl, ho, hl, q⟩
end
end Uv

/-! needs as functions: the plain law of k19 -/
namespace N19
abbrev Ri := Int × Option Int
def valAt (v : Int) : List Ri → Int → Int
  | [], _ => v
  | (lo, hi) :: r, k =>
    if k ≤ lo then v else valAt (v + (match hi with | none => k | some h => if k < h then k else h) - lo) r k
def Wf : Int → List Ri → Prop
  | _, [] => True
  | e, (lo, none) :: r => e < lo ∧ r = []
  | e, (lo, some h) :: r => e < lo ∧ lo < h ∧ Wf h r
theorem val_cons {v lo k : Int} {hi : Option Int} {r : List Ri} : valAt v ((lo, hi) :: r) k = if k ≤ lo then v else valAt (v + (match hi with | none => k | some h => if k < h then k else h) - lo) r k := rfl
theorem val_low {e k : Int} : ∀ {rs : List Ri} {v : Int}, Wf e rs → k ≤ e → valAt v rs k = v
  | [], v, _, _ => rfl
  | (lo, none) :: r, v, h, hk => by
    have h1 : e < lo := h.1
    unfold valAt
    rw [if_pos (by omega)]
  | (lo, some h0) :: r, v, h, hk => by
    have h1 : e < lo := h.1
    unfold valAt
    rw [if_pos (by omega)]
/-- one pair -/
theorem val_open {v lo k : Int} : valAt v [(lo, none)] k = if k ≤ lo then v else v + k - lo := rfl
theorem val_in {e v lo h k : Int} {r : List Ri} (w : Wf e ((lo, some h) :: r)) (hk : k ≤ h) : valAt v ((lo, some h) :: r) k = if k ≤ lo then v else v + k - lo := by
  obtain ⟨_, h2, w2⟩ := (show e < lo ∧ lo < h ∧ Wf h r from w)
  show (if k ≤ lo then v else valAt (v + (if k < h then k else h) - lo) r k) = _
  rw [val_low w2 hk]
  split
  · rfl
  · split <;> omega
theorem val_out {e v lo h k : Int} {r : List Ri} (w : Wf e ((lo, some h) :: r)) (hk : h ≤ k) : valAt v ((lo, some h) :: r) k = valAt (v + h - lo) r k := by
  obtain ⟨_, h2, w2⟩ := (show e < lo ∧ lo < h ∧ Wf h r from w)
  show (if k ≤ lo then v else valAt (v + (if k < h then k else h) - lo) r k) = _
  rw [if_neg (by omega), if_neg (by omega)]
/-- a coin more: the same or one more -/
theorem val_step {k : Int} : ∀ {rs : List Ri} {e v : Int}, Wf e rs → valAt v rs (k + 1) = valAt v rs k ∨ valAt v rs (k + 1) = valAt v rs k + 1
  | [], e, v, _ => .inl rfl
  | (lo, none) :: r, e, v, w => by
    obtain ⟨h1, rfl⟩ := (show e < lo ∧ r = [] from w)
    rw [val_open, val_open]
    split <;> split <;> omega
  | (lo, some h) :: r, e, v, w => by
    have w2 : Wf h r := w.2.2
    by_cases c : k + 1 ≤ h
    · rw [val_in w c, val_in w (by omega)]
      split <;> split <;> omega
    · rw [val_out w (by omega), val_out w (by omega)]
      exact val_step w2
theorem val_mono {rs : List Ri} {e v : Int} (w : Wf e rs) (k : Int) : ∀ n : Nat, valAt v rs k ≤ valAt v rs (k + n) ∧ valAt v rs (k + n) ≤ valAt v rs k + n
  | 0 => by simp
  | n + 1 => by
    have ih := val_mono (v := v) w k n
    have s := val_step (v := v) (k := k + n) w
    have e1 : k + ((n + 1 : Nat) : Int) = k + n + 1 := by omega
    rw [e1]
    omega
theorem val_le {rs : List Ri} {e v a b : Int} (w : Wf e rs) (h : a ≤ b) : valAt v rs a ≤ valAt v rs b ∧ valAt v rs b ≤ valAt v rs a + (b - a) := by
  have q := val_mono (v := v) w a (b - a).toNat
  have e1 : a + ((b - a).toNat : Int) = b := by omega
  rw [e1] at q
  omega
theorem val_zero {rs : List Ri} {v k : Int} (w : Wf (-1) rs) (h : k ≤ 0) : valAt v rs k = v := by
  have h2 : ∀ (rs : List Ri), Wf (-1) rs → valAt v rs k = v := fun rs w => by
    cases rs with
    | nil => rfl
    | cons p r =>
      obtain ⟨lo, hi⟩ := p
      have h1 : -1 < lo := by
        cases hi with
        | none => exact w.1
        | some h => exact w.1
      unfold valAt
      rw [if_pos (by omega)]
  exact h2 rs w
theorem val_ge {rs : List Ri} {v k : Int} (w : Wf (-1) rs) : v ≤ valAt v rs k ∧ (0 ≤ k → valAt v rs k ≤ v + k) := by
  by_cases c : k ≤ 0
  · rw [val_zero w c]
    omega
  · have q := val_le (v := v) w (show (0 : Int) ≤ k by omega)
    rw [val_zero w (Int.le_refl 0)] at q
    omega
def lowEdge : List Ri → Int → Int
  | [], k => k
  | (lo, none) :: r, k => if lo < k ∧ True then lo else lowEdge r k
  | (lo, some h) :: r, k => if lo < k ∧ k ≤ h then lo else lowEdge r k
def highEdge : List Ri → Int → Option Int
  | [], k => some k
  | (lo, none) :: r, k => if lo ≤ k ∧ True then none else highEdge r k
  | (lo, some h) :: r, k => if lo ≤ k ∧ k < h then some h else highEdge r k
theorem low_open {lo k : Int} {r : List Ri} : lowEdge ((lo, none) :: r) k = if lo < k then lo else lowEdge r k := by
  show (if lo < k ∧ True then lo else lowEdge r k) = _
  simp only [and_true]
theorem low_some {lo h k : Int} {r : List Ri} : lowEdge ((lo, some h) :: r) k = if lo < k ∧ k ≤ h then lo else lowEdge r k := rfl
theorem high_open {lo k : Int} {r : List Ri} : highEdge ((lo, none) :: r) k = if lo ≤ k then none else highEdge r k := by
  show (if lo ≤ k ∧ True then none else highEdge r k) = _
  simp only [and_true]
theorem high_cons {lo h k : Int} {r : List Ri} : highEdge ((lo, some h) :: r) k = if lo ≤ k ∧ k < h then some h else highEdge r k := rfl
theorem low_le {e : Int} : ∀ {rs : List Ri}, Wf e rs → ∀ k : Int, lowEdge rs k ≤ k ∧ (e < k → e < lowEdge rs k) ∧ (k ≤ e → lowEdge rs k = k)
  | [], _, k => ⟨Int.le_refl k, fun h => h, fun _ => rfl⟩
  | (lo, none) :: r, w, k => by
    obtain ⟨h1, rfl⟩ := (show e < lo ∧ r = [] from w)
    show (if lo < k ∧ True then lo else k) ≤ k ∧ _ ∧ _
    simp only [and_true, lowEdge]
    refine ⟨?_, ?_, ?_⟩
    · split <;> omega
    · intro h; split <;> omega
    · intro h; split <;> omega
  | (lo, some h) :: r, w, k => by
    obtain ⟨h1, h2, w2⟩ := (show e < lo ∧ lo < h ∧ Wf h r from w)
    have ih := low_le w2 k
    have e0 : lowEdge ((lo, some h) :: r) k = if lo < k ∧ k ≤ h then lo else lowEdge r k := rfl
    rw [e0]
    by_cases c : lo < k ∧ k ≤ h
    · rw [if_pos c]
      omega
    · rw [if_neg c]
      by_cases c2 : h < k
      · have := ih.2.1 c2
        omega
      · have := ih.2.2 (by omega)
        omega
/-- from the lower edge on the distance stays -/
theorem low_flat {k x : Int} : ∀ {rs : List Ri} {e v : Int}, Wf e rs → lowEdge rs k ≤ x → x ≤ k → valAt v rs k - valAt v rs x = k - x
  | [], e, v, _, h1, h2 => by
    have h1' : k ≤ x := h1
    have : x = k := by omega
    subst this
    omega
  | (lo, none) :: r, e, v, w, h1, h2 => by
    obtain ⟨h3, rfl⟩ := (show e < lo ∧ r = [] from w)
    have h1' : (if lo < k ∧ True then lo else k) ≤ x := h1
    rw [val_open, val_open]
    by_cases c : lo < k
    · rw [if_pos ⟨c, trivial⟩] at h1'
      rw [if_neg (show ¬ k ≤ lo by omega)]
      split <;> omega
    · rw [if_neg (fun q => c q.1)] at h1'
      have : x = k := by omega
      subst this
      omega
  | (lo, some h) :: r, e, v, w, h1, h2 => by
    obtain ⟨h3, h4, w2⟩ := (show e < lo ∧ lo < h ∧ Wf h r from w)
    have h1' : (if lo < k ∧ k ≤ h then lo else lowEdge r k) ≤ x := h1
    by_cases c : lo < k ∧ k ≤ h
    · rw [if_pos c] at h1'
      rw [val_in w c.2, val_in w (by omega)]
      split <;> split <;> omega
    · rw [if_neg c] at h1'
      have l := low_le w2 k
      by_cases c2 : h < k
      · have := l.2.1 c2
        rw [val_out w (by omega), val_out w (by omega)]
        exact low_flat w2 h1' h2
      · have := l.2.2 (by omega)
        have : x = k := by omega
        subst this
        omega
theorem high_none {k x : Int} : ∀ {rs : List Ri} {e v : Int}, Wf e rs → highEdge rs k = none → k ≤ x → valAt v rs x - valAt v rs k = x - k
  | [], e, v, _, h1, h2 => by cases h1
  | (lo, none) :: r, e, v, w, h1, h2 => by
    obtain ⟨h3, rfl⟩ := (show e < lo ∧ r = [] from w)
    have h1' : (if lo ≤ k ∧ True then none else some k) = none := h1
    rw [val_open, val_open]
    by_cases c : lo ≤ k
    · split <;> split <;> omega
    · rw [if_neg (fun q => c q.1)] at h1'
      cases h1'
  | (lo, some h) :: r, e, v, w, h1, h2 => by
    obtain ⟨h3, h4, w2⟩ := (show e < lo ∧ lo < h ∧ Wf h r from w)
    have h1' : (if lo ≤ k ∧ k < h then some h else highEdge r k) = none := h1
    by_cases c : lo ≤ k ∧ k < h
    · rw [if_pos c] at h1'
      cases h1'
    · rw [if_neg c] at h1'
      by_cases c2 : h ≤ k
      · rw [val_out w (by omega), val_out w (by omega)]
        exact high_none w2 h1' h2
      · exfalso
        have q : ∀ {rs : List Ri} {e : Int}, Wf e rs → k ≤ e → highEdge rs k = some k := by
          intro rs e w hk
          induction rs generalizing e with
          | nil => rfl
          | cons p r ih =>
            obtain ⟨lo, hi⟩ := p
            cases hi with
            | none =>
              obtain ⟨h3, rfl⟩ := (show e < lo ∧ r = [] from w)
              show (if lo ≤ k ∧ True then none else some k) = some k
              rw [if_neg (by omega)]
            | some h =>
              obtain ⟨h3, h4, w2⟩ := (show e < lo ∧ lo < h ∧ Wf h r from w)
              show (if lo ≤ k ∧ k < h then some h else highEdge r k) = some k
              rw [if_neg (by omega)]
              exact ih w2 (by omega)
        rw [q w2 (by omega)] at h1'
        cases h1'
theorem high_low {k : Int} : ∀ {rs : List Ri} {e : Int}, Wf e rs → k ≤ e → highEdge rs k = some k := by
  intro rs e w hk
  induction rs generalizing e with
  | nil => rfl
  | cons p r ih =>
    obtain ⟨lo, hi⟩ := p
    cases hi with
    | none =>
      obtain ⟨h3, rfl⟩ := (show e < lo ∧ r = [] from w)
      show (if lo ≤ k ∧ True then none else some k) = some k
      rw [if_neg (by omega)]
    | some h =>
      obtain ⟨h3, h4, w2⟩ := (show e < lo ∧ lo < h ∧ Wf h r from w)
      show (if lo ≤ k ∧ k < h then some h else highEdge r k) = some k
      rw [if_neg (by omega)]
      exact ih w2 (by omega)
theorem high_some {k t : Int} : ∀ {rs : List Ri} {e : Int}, Wf e rs → highEdge rs k = some t → k ≤ t ∧ ∀ v x, k ≤ x → x ≤ t → valAt v rs x - valAt v rs k = x - k
  | [], e, _, h1 => by
    have h1' : some k = some t := h1
    cases h1'
    refine ⟨Int.le_refl k, fun v x a b => ?_⟩
    have : x = k := by omega
    subst this
    omega
  | (lo, none) :: r, e, w, h1 => by
    obtain ⟨h3, rfl⟩ := (show e < lo ∧ r = [] from w)
    have h1' : (if lo ≤ k ∧ True then none else some k) = some t := h1
    by_cases c : lo ≤ k
    · rw [if_pos ⟨c, trivial⟩] at h1'
      cases h1'
    · rw [if_neg (fun q => c q.1)] at h1'
      cases h1'
      refine ⟨Int.le_refl k, fun v x a b => ?_⟩
      have : x = k := by omega
      subst this
      omega
  | (lo, some h) :: r, e, w, h1 => by
    obtain ⟨h3, h4, w2⟩ := (show e < lo ∧ lo < h ∧ Wf h r from w)
    have h1' : (if lo ≤ k ∧ k < h then some h else highEdge r k) = some t := h1
    by_cases c : lo ≤ k ∧ k < h
    · rw [if_pos c] at h1'
      cases h1'
      refine ⟨by omega, fun v x a b => ?_⟩
      rw [val_in w b, val_in w (by omega)]
      split <;> split <;> omega
    · rw [if_neg c] at h1'
      by_cases c2 : h ≤ k
      · obtain ⟨q1, q2⟩ := high_some w2 h1'
        refine ⟨q1, fun v x a b => ?_⟩
        rw [val_out w (by omega), val_out w (by omega)]
        exact q2 _ x a b
      · rw [high_low w2 (by omega)] at h1'
        cases h1'
        refine ⟨Int.le_refl k, fun v x a b => ?_⟩
        have : x = k := by omega
        subst this
        omega

/-! ### iteration -/
def it {α : Type} (f : α → α) : Nat → α → α
  | 0, x => x
  | n + 1, x => it f n (f x)
theorem it_succ {α : Type} (f : α → α) : ∀ (n : Nat) (x : α), it f (n + 1) x = f (it f n x)
  | 0, _ => rfl
  | n + 1, x => it_succ f n (f x)
theorem it_add {α : Type} (f : α → α) (m : Nat) : ∀ (n : Nat) (x : α), it f (n + m) x = it f m (it f n x)
  | 0, x => by rw [Nat.zero_add]; rfl
  | n + 1, x => by
    rw [show n + 1 + m = (n + m) + 1 by omega]
    exact it_add f m n (f x)
structure Nd where
  start : Option Int
  rises : List Ri
  never : Option Int
def Nd.f (nd : Nd) (k : Option Int) : Option Int := match k, nd.start with
  | some x, some s => some (valAt s nd.rises x)
  | _, _ => nd.never
/-- the numbers stay below a line -/
def Bd (x : Int) : Prop := 0 ≤ x ∧ x < 2 ^ 400
def BdO (x : Option Int) : Prop := ∀ y, x = some y → Bd y
inductive NdOk : Nd → Prop where
  | off : NdOk ⟨none, [], none⟩
  | on {s : Int} {rs : List Ri} {n : Option Int} (hs : Bd s) (hw : Wf (-1) rs) (hn : BdO n) : NdOk ⟨some s, rs, n⟩
def aff (v : Option Int) (purse : Int) : Prop := ∃ x, v = some x ∧ x ≤ purse
theorem aff_some {x purse : Int} : aff (some x) purse ↔ x ≤ purse := ⟨fun ⟨y, e, h⟩ => by cases e; exact h, fun h => ⟨x, rfl, h⟩⟩
theorem aff_none {purse : Int} : ¬ aff none purse := fun ⟨_, e, _⟩ => by cases e
def DownOk (nd : Nd) (k : Option Int) (purse : Int) : Option Int → Prop
  | some c => 0 ≤ c ∧ aff (it nd.f c.toNat k) purse ∧ ∀ j, j < c.toNat → ¬ aff (it nd.f j k) purse
  | none => ∀ j, ¬ aff (it nd.f j k) purse
def UpOk (nd : Nd) (k : Option Int) (purse : Int) : Option Int → Prop
  | some c => 0 ≤ c ∧ ¬ aff (it nd.f c.toNat k) purse ∧ ∀ j, j < c.toNat → aff (it nd.f j k) purse
  | none => ∀ j, aff (it nd.f j k) purse
theorem it_some {s : Int} {rs : List Ri} {n : Option Int} : ∀ (j : Nat) (x : Int), it (Nd.f ⟨some s, rs, n⟩) j (some x) = some (it (valAt s rs) j x)
  | 0, _ => rfl
  | j + 1, x => it_some j (valAt s rs x)
theorem it_off : ∀ (j : Nat) (k : Option Int), it (Nd.f ⟨none, [], none⟩) (j + 1) k = none
  | 0, k => by cases k <;> rfl
  | j + 1, k => it_off j _
theorem it_none {s : Int} {rs : List Ri} : ∀ (j : Nat), it (Nd.f ⟨some s, rs, none⟩) j none = none
  | 0 => rfl
  | j + 1 => it_none j
/-- a straight piece -/
theorem it_lin {f : Int → Int} {d lo hi v : Int} (hf : ∀ x, lo ≤ x → x ≤ hi → f x = x + d) : ∀ j : Nat, (∀ i : Nat, i < j → lo ≤ v + d * i ∧ v + d * i ≤ hi) → it f j v = v + d * j
  | 0, _ => by
    show v = v + d * ((0 : Nat) : Int)
    simp
  | j + 1, h => by
    rw [it_succ, it_lin hf j fun i hi => h i (by omega)]
    obtain ⟨h1, h2⟩ := h j (Nat.lt_succ_self j)
    rw [hf _ h1 h2]
    have e : ((j + 1 : Nat) : Int) = (j : Int) + 1 := by omega
    rw [e, Int.mul_add, Int.mul_one]
    omega
/-! ### the step downwards -/
theorem down_step {s v purse : Int} {rs : List Ri} (hs : 0 ≤ s) (w : Wf (-1) rs) (hv : 0 ≤ v) (hp : purse < v) (d steps : Int) (hd : d = v - valAt s rs v) (h0 : 0 < d)
    (hst : steps = (if 0 - (purse - v) / d < (v - lowEdge rs v) / d + 1 then 0 - (purse - v) / d else (v - lowEdge rs v) / d + 1)) :
    1 ≤ steps ∧ steps ≤ v + 1 ∧ d ≤ v ∧ it (valAt s rs) steps.toNat v = v - d * steps ∧ 0 ≤ v - d * steps ∧ v - d * steps < v ∧ ∀ j : Nat, j < steps.toNat → purse < it (valAt s rs) j v := by
  have e0 := low_le w v
  have g := val_ge (v := s) (k := v) w
  have he : 0 ≤ lowEdge rs v := by
    have := e0.2.1 (by omega)
    omega
  have a1 : 0 ≤ (v - lowEdge rs v) / d := Int.ediv_nonneg (by omega) (by omega)
  have a2 : (v - lowEdge rs v) / d * d ≤ v - lowEdge rs v := Int.ediv_mul_le _ (by omega)
  have b1 : (purse - v) / d < 0 := Int.ediv_neg_of_neg_of_pos (by omega) h0
  have b2 : purse - v < ((purse - v) / d + 1) * d := Int.lt_ediv_add_one_mul_self _ h0
  have s1 : 1 ≤ steps ∧ steps ≤ (v - lowEdge rs v) / d + 1 ∧ steps ≤ 0 - (purse - v) / d := by
    rw [hst]
    split <;> omega
  have flat : ∀ x, lowEdge rs v ≤ x → x ≤ v → valAt s rs x = x + (-d) := fun x h1 h2 => by
    have := low_flat (v := s) w h1 h2
    omega
  have inside : ∀ i : Nat, (i : Int) < steps → lowEdge rs v ≤ v + (-d) * i ∧ v + (-d) * i ≤ v ∧ purse < v + (-d) * i := fun i hi => by
    have c1 : (i : Int) * d ≤ (v - lowEdge rs v) / d * d := Int.mul_le_mul_of_nonneg_right (by omega) (by omega)
    have c2 : (i : Int) * d ≤ (0 - (purse - v) / d - 1) * d := Int.mul_le_mul_of_nonneg_right (by omega) (by omega)
    have c3 : (0 - (purse - v) / d - 1) * d = - (((purse - v) / d + 1) * d) := by
      rw [← Int.neg_mul]
      congr 1
      omega
    have c4 : (-d) * (i : Int) = -((i : Int) * d) := by rw [Int.neg_mul, Int.mul_comm]
    have c5 : 0 ≤ (i : Int) * d := Int.mul_nonneg (by omega) (by omega)
    rw [c4]
    omega
  have lin : ∀ j : Nat, (j : Int) ≤ steps → it (valAt s rs) j v = v + (-d) * j := fun j hj => it_lin (lo := lowEdge rs v) (hi := v) flat j fun i hi => ⟨(inside i (by omega)).1, (inside i (by omega)).2.1⟩
  have eN : ((steps.toNat : Nat) : Int) = steps := by omega
  have l1 := lin steps.toNat (by omega)
  rw [eN] at l1
  have m1 : (-d) * steps = -(d * steps) := Int.neg_mul _ _
  rw [m1] at l1
  have pos : 0 ≤ v - d * steps := by
    have q : it (valAt s rs) steps.toNat v = valAt s rs (it (valAt s rs) (steps.toNat - 1) v) := by
      rw [← it_succ (valAt s rs)]
      congr 1
      omega
    have g2 := (val_ge (v := s) (k := it (valAt s rs) (steps.toNat - 1) v) w).1
    rw [← q] at g2
    omega
  have dpos : d * 1 ≤ d * steps := Int.mul_le_mul_of_nonneg_left (by omega) (by omega)
  have sle : 1 * steps ≤ d * steps := Int.mul_le_mul_of_nonneg_right (by omega) (by omega)
  refine ⟨s1.1, by omega, by omega, by omega, pos, by omega, fun j hj => ?_⟩
  rw [lin j (by omega)]
  exact (inside j (by omega)).2.2
/-- what does not come down does not come down later -/
theorem up_stays {s v : Int} {rs : List Ri} (w : Wf (-1) rs) (h : v ≤ valAt s rs v) : ∀ j : Nat, v ≤ it (valAt s rs) j v ∧ it (valAt s rs) j v ≤ valAt s rs (it (valAt s rs) j v)
  | 0 => ⟨Int.le_refl v, h⟩
  | j + 1 => by
    obtain ⟨a, b⟩ := up_stays w h j
    rw [it_succ]
    exact ⟨by omega, (val_le w b).1⟩
theorem down_stays {s v : Int} {rs : List Ri} (w : Wf (-1) rs) (h : valAt s rs v ≤ v) : ∀ j : Nat, it (valAt s rs) j v ≤ v ∧ valAt s rs (it (valAt s rs) j v) ≤ it (valAt s rs) j v
  | 0 => ⟨Int.le_refl v, h⟩
  | j + 1 => by
    obtain ⟨a, b⟩ := down_stays w h j
    rw [it_succ]
    exact ⟨by omega, (val_le w b).1⟩
/-! ### the step upwards: g rounds of the same gain -/
theorem up_step {s v : Int} {rs : List Ri} (w : Wf (-1) rs) (hv : 0 ≤ v) (g steps : Int) (hg : g = valAt s rs v - v) (h0 : 0 < g) (h1 : 1 ≤ steps)
    (hst : ∀ e, highEdge rs v = some e → steps ≤ (e - v) / g + 1) :
    g ≤ s ∧ it (valAt s rs) steps.toNat v = v + g * steps ∧ v < v + g * steps ∧ ∀ j : Nat, (j : Int) ≤ steps → it (valAt s rs) j v = v + g * j := by
  have gle := (val_ge (v := s) (k := v) w).2 hv
  have flat : ∃ hi, (∀ x, v ≤ x → x ≤ hi → valAt s rs x = x + g) ∧ ∀ i : Nat, (i : Int) < steps → v ≤ v + g * i ∧ v + g * i ≤ hi := by
    cases q : highEdge rs v with
    | none =>
      refine ⟨v + g * steps, fun x a b => ?_, fun i hi => ?_⟩
      · have := high_none (v := s) w q a
        omega
      · have c1 : g * (i : Int) ≤ g * steps := Int.mul_le_mul_of_nonneg_left (by omega) (by omega)
        have c2 : 0 ≤ g * (i : Int) := Int.mul_nonneg (by omega) (by omega)
        omega
    | some e =>
      obtain ⟨a1, a2⟩ := high_some w q
      have hh := hst e q
      refine ⟨e, fun x a b => ?_, fun i hi => ?_⟩
      · have := a2 s x a b
        omega
      · have d1 : (e - v) / g * g ≤ e - v := Int.ediv_mul_le _ (by omega)
        have c1 : (i : Int) * g ≤ (e - v) / g * g := Int.mul_le_mul_of_nonneg_right (by omega) (by omega)
        have c2 : 0 ≤ (i : Int) * g := Int.mul_nonneg (by omega) (by omega)
        rw [Int.mul_comm g]
        omega
  obtain ⟨hi, f1, f2⟩ := flat
  have lin : ∀ j : Nat, (j : Int) ≤ steps → it (valAt s rs) j v = v + g * j := fun j hj => it_lin f1 j fun i hi => f2 i (by omega)
  have eN : ((steps.toNat : Nat) : Int) = steps := by omega
  have l1 := lin steps.toNat (by omega)
  rw [eN] at l1
  have c : g * 1 ≤ g * steps := Int.mul_le_mul_of_nonneg_left (by omega) (by omega)
  exact ⟨by omega, l1, by omega, lin⟩

/-! ### rounds_to_afford: what holds between two turns -/
structure DInv (nd : Nd) (k : Option Int) (purse v c : Int) : Prop where
  c0 : 0 ≤ c
  at_ : it nd.f c.toNat k = some v
  no : ∀ j, j < c.toNat → ¬ aff (it nd.f j k) purse
  bd : Bd v
theorem DInv.stop {nd : Nd} {k : Option Int} {purse v c : Int} (h : DInv nd k purse v c) (hp : v ≤ purse) : DownOk nd k purse (some c) :=
  ⟨h.c0, by rw [h.at_]; exact aff_some.mpr hp, h.no⟩
theorem later {nd : Nd} {k : Option Int} {v : Int} {c : Nat} (h : it nd.f c k = some v) {j : Nat} (hj : c ≤ j) : it nd.f j k = it nd.f (j - c) (some v) := by
  rw [← h, ← it_add]
  congr 1
  omega
theorem DInv.stuck {s : Int} {rs : List Ri} {n k : Option Int} {purse v c : Int} (h : DInv ⟨some s, rs, n⟩ k purse v c) (w : Wf (-1) rs) (hp : purse < v) (hv : v ≤ valAt s rs v) : DownOk ⟨some s, rs, n⟩ k purse none := fun j => by
  rcases Nat.lt_or_ge j c.toNat with hj | hj
  · exact h.no j hj
  · rw [later h.at_ hj, it_some, aff_some]
    have := (up_stays w hv (j - c.toNat)).1
    omega
theorem DInv.off {k : Option Int} {purse v c : Int} (h : DInv ⟨none, [], none⟩ k purse v c) (hp : purse < v) : DownOk ⟨none, [], none⟩ k purse none := fun j => by
  rcases Nat.lt_or_ge j c.toNat with hj | hj
  · exact h.no j hj
  · rw [later h.at_ hj]
    cases q : j - c.toNat with
    | zero =>
      show ¬ aff (some v) purse
      rw [aff_some]
      omega
    | succ m =>
      rw [it_off]
      exact aff_none
theorem DInv.step {s : Int} {rs : List Ri} {n k : Option Int} {purse v c : Int} (h : DInv ⟨some s, rs, n⟩ k purse v c) (hs : 0 ≤ s) (w : Wf (-1) rs) (hp : purse < v) (d steps : Int) (hd : d = v - valAt s rs v) (h0 : 0 < d)
    (hst : steps = (if 0 - (purse - v) / d < (v - lowEdge rs v) / d + 1 then 0 - (purse - v) / d else (v - lowEdge rs v) / d + 1)) :
    DInv ⟨some s, rs, n⟩ k purse (v - d * steps) (c + steps) ∧ v - d * steps < v ∧ d ≤ v ∧ 0 ≤ steps ∧ steps ≤ v + 1 := by
  obtain ⟨a1, a2, a3, a4, a5, a6, a7⟩ := down_step hs w h.bd.1 hp d steps hd h0 hst
  have c0 := h.c0
  have eN : (c + steps).toNat = c.toNat + steps.toNat := by omega
  have bv := h.bd
  refine ⟨⟨by omega, ?_, fun j hj => ?_, ⟨a5, by unfold Bd at bv; omega⟩⟩, a6, a3, by omega, a2⟩
  · rw [eN, it_add, h.at_, it_some, a4]
  · rcases Nat.lt_or_ge j c.toNat with q | q
    · exact h.no j q
    · rw [later h.at_ q, it_some, aff_some]
      have := a7 (j - c.toNat) (by omega)
      omega
/-! ### rounds_to_exceed -/
structure UInv (nd : Nd) (k : Option Int) (purse v c : Int) : Prop where
  c0 : 0 ≤ c
  at_ : it nd.f c.toNat k = some v
  yes : ∀ j, j < c.toNat → aff (it nd.f j k) purse
  v0 : 0 ≤ v
theorem UInv.stop {nd : Nd} {k : Option Int} {purse v c : Int} (h : UInv nd k purse v c) (hp : purse < v) : UpOk nd k purse (some c) :=
  ⟨h.c0, by rw [h.at_, aff_some]; omega, h.yes⟩
theorem UInv.off {k : Option Int} {purse v c : Int} (h : UInv ⟨none, [], none⟩ k purse v c) (hp : v ≤ purse) : UpOk ⟨none, [], none⟩ k purse (some (c + 1)) := by
  have c0 := h.c0
  have eN : (c + 1).toNat = c.toNat + 1 := by omega
  refine ⟨by omega, ?_, fun j hj => ?_⟩
  · rw [eN, it_off]
    exact aff_none
  · rcases Nat.lt_or_ge j c.toNat with q | q
    · exact h.yes j q
    · have : j = c.toNat := by omega
      rw [this, h.at_, aff_some]
      exact hp
theorem UInv.stuck {s : Int} {rs : List Ri} {n k : Option Int} {purse v c : Int} (h : UInv ⟨some s, rs, n⟩ k purse v c) (w : Wf (-1) rs) (hp : v ≤ purse) (hv : valAt s rs v ≤ v) : UpOk ⟨some s, rs, n⟩ k purse none := fun j => by
  rcases Nat.lt_or_ge j c.toNat with hj | hj
  · exact h.yes j hj
  · rw [later h.at_ hj, it_some, aff_some]
    have := (down_stays w hv (j - c.toNat)).1
    omega
theorem UInv.step {s : Int} {rs : List Ri} {n k : Option Int} {purse v c : Int} (h : UInv ⟨some s, rs, n⟩ k purse v c) (w : Wf (-1) rs) (hp : v ≤ purse) (g steps : Int) (hg : g = valAt s rs v - v) (h0 : 0 < g)
    (hst : (highEdge rs v = none ∧ steps = (purse - v) / g + 1) ∨ ∃ e, highEdge rs v = some e ∧ steps = (if (e - v) / g + 1 < (purse - v) / g + 1 then (e - v) / g + 1 else (purse - v) / g + 1)) :
    UInv ⟨some s, rs, n⟩ k purse (v + g * steps) (c + steps) ∧ v < v + g * steps ∧ g ≤ s ∧ 0 ≤ steps ∧ steps ≤ purse + 1 := by
  have v0 := h.v0
  have q1 : 0 ≤ (purse - v) / g := Int.ediv_nonneg (by omega) (by omega)
  have q2 : (purse - v) / g * g ≤ purse - v := Int.ediv_mul_le _ (by omega)
  have q3 : (purse - v) / g ≤ purse - v := by
    have := Int.mul_le_mul_of_nonneg_left (show (1 : Int) ≤ g by omega) q1
    omega
  have st : 1 ≤ steps ∧ steps ≤ (purse - v) / g + 1 ∧ ∀ e, highEdge rs v = some e → steps ≤ (e - v) / g + 1 := by
    rcases hst with ⟨a, b⟩ | ⟨e, a, b⟩
    · exact ⟨by omega, by omega, fun e q => by rw [a] at q; cases q⟩
    · have hh := (high_some w a).1
      have : 0 ≤ (e - v) / g := Int.ediv_nonneg (by omega) (by omega)
      refine ⟨?_, ?_, fun e' q => ?_⟩
      · rw [b]; split <;> omega
      · rw [b]; split <;> omega
      · rw [a] at q
        cases q
        rw [b]; split <;> omega
  obtain ⟨a1, a2, a3, a4⟩ := up_step w v0 g steps hg h0 st.1 st.2.2
  have c0 := h.c0
  have eN : (c + steps).toNat = c.toNat + steps.toNat := by omega
  refine ⟨⟨by omega, ?_, fun j hj => ?_, by omega⟩, a3, a1, by omega, by omega⟩
  · rw [eN, it_add, h.at_, it_some, a2]
  · rcases Nat.lt_or_ge j c.toNat with q | q
    · exact h.yes j q
    · rw [later h.at_ q, it_some, aff_some]
      rw [a4 (j - c.toNat) (by omega)]
      have e1 : ((j - c.toNat : Nat) : Int) ≤ (purse - v) / g := by omega
      have e2 := Int.mul_le_mul_of_nonneg_right e1 (show 0 ≤ g by omega)
      rw [Int.mul_comm] at e2
      omega
/-! ### lowest, highest: the least and the greatest of the first limit + 1 -/
/-- m is the least of the values 0 to n -/
def Least (f : Int → Int) (v : Int) (n : Nat) (m : Int) : Prop := (∃ j, j ≤ n ∧ it f j v = m) ∧ ∀ j, j ≤ n → m ≤ it f j v
def Most (f : Int → Int) (v : Int) (n : Nat) (m : Int) : Prop := (∃ j, j ≤ n ∧ it f j v = m) ∧ ∀ j, j ≤ n → it f j v ≤ m
structure LInv (s : Int) (rs : List Ri) (k limit v left : Int) : Prop where
  l0 : 0 ≤ left ∧ left ≤ limit
  at_ : it (valAt s rs) (limit - left).toNat k = v
  less : ∀ j, j ≤ (limit - left).toNat → v ≤ it (valAt s rs) j k
  bd : Bd v
theorem LInv.stop {s : Int} {rs : List Ri} {k limit v left : Int} (h : LInv s rs k limit v left) (w : Wf (-1) rs) (hs : left = 0 ∨ v ≤ valAt s rs v) : Least (valAt s rs) k limit.toNat v := by
  have l0 := h.l0
  refine ⟨⟨(limit - left).toNat, by omega, h.at_⟩, fun j hj => ?_⟩
  rcases Nat.lt_or_ge (limit - left).toNat j with q | q
  · rcases hs with e | e
    · omega
    · have e2 : j = (limit - left).toNat + (j - (limit - left).toNat) := by omega
      rw [e2, it_add, h.at_]
      exact (up_stays w e _).1
  · exact h.less j q
theorem LInv.step {s : Int} {rs : List Ri} {k limit v left : Int} (h : LInv s rs k limit v left) (hs : 0 ≤ s) (w : Wf (-1) rs) (hl : 0 < left) (d steps : Int) (hd : d = v - valAt s rs v) (h0 : 0 < d)
    (hst : steps = (if (v - lowEdge rs v) / d + 1 < left then (v - lowEdge rs v) / d + 1 else left)) :
    LInv s rs k limit (v - d * steps) (left - steps) ∧ left - steps < left ∧ d ≤ v ∧ 0 ≤ steps ∧ steps ≤ v + 1 := by
  have bv := h.bd
  have v0 := bv.1
  have e0 := low_le w v
  have g := val_ge (v := s) (k := v) w
  have he : 0 ≤ lowEdge rs v := by
    have := e0.2.1 (by omega)
    omega
  have a1 : 0 ≤ (v - lowEdge rs v) / d := Int.ediv_nonneg (by omega) (by omega)
  have a2 : (v - lowEdge rs v) / d * d ≤ v - lowEdge rs v := Int.ediv_mul_le _ (by omega)
  have a3 : (v - lowEdge rs v) / d ≤ v := by
    have := Int.mul_le_mul_of_nonneg_left (show (1 : Int) ≤ d by omega) a1
    omega
  have s1 : 1 ≤ steps ∧ steps ≤ (v - lowEdge rs v) / d + 1 ∧ steps ≤ left := by
    rw [hst]
    split <;> omega
  have flat : ∀ x, lowEdge rs v ≤ x → x ≤ v → valAt s rs x = x + (-d) := fun x h1 h2 => by
    have := low_flat (v := s) w h1 h2
    omega
  have inside : ∀ i : Nat, (i : Int) < steps → lowEdge rs v ≤ v + (-d) * i ∧ v + (-d) * i ≤ v := fun i hi => by
    have c1 : (i : Int) * d ≤ (v - lowEdge rs v) / d * d := Int.mul_le_mul_of_nonneg_right (by omega) (by omega)
    have c4 : (-d) * (i : Int) = -((i : Int) * d) := by rw [Int.neg_mul, Int.mul_comm]
    have c5 : 0 ≤ (i : Int) * d := Int.mul_nonneg (by omega) (by omega)
    rw [c4]
    omega
  have lin : ∀ j : Nat, (j : Int) ≤ steps → it (valAt s rs) j v = v + (-d) * j := fun j hj => it_lin (lo := lowEdge rs v) (hi := v) flat j fun i hi => inside i (by omega)
  have eN : ((steps.toNat : Nat) : Int) = steps := by omega
  have l1 := lin steps.toNat (by omega)
  rw [eN] at l1
  have m1 : (-d) * steps = -(d * steps) := Int.neg_mul _ _
  rw [m1] at l1
  have pos : 0 ≤ v - d * steps := by
    have q : it (valAt s rs) steps.toNat v = valAt s rs (it (valAt s rs) (steps.toNat - 1) v) := by
      rw [← it_succ (valAt s rs)]
      congr 1
      omega
    have g2 := (val_ge (v := s) (k := it (valAt s rs) (steps.toNat - 1) v) w).1
    rw [← q] at g2
    omega
  have dpos : 0 ≤ d * steps := Int.mul_nonneg (by omega) (by omega)
  have l0 := h.l0
  have eL : (limit - (left - steps)).toNat = (limit - left).toNat + steps.toNat := by omega
  refine ⟨⟨by omega, ?_, fun j hj => ?_, ⟨pos, by unfold Bd at bv; omega⟩⟩, by omega, by omega, by omega, by omega⟩
  · rw [eL, it_add, h.at_, l1]
    omega
  · rcases Nat.lt_or_ge (limit - left).toNat j with q | q
    · have e2 : j = (limit - left).toNat + (j - (limit - left).toNat) := by omega
      have hm : (((j - (limit - left).toNat : Nat)) : Int) ≤ steps := by omega
      rw [e2, it_add, h.at_, lin _ hm]
      have c4 : (-d) * (((j - (limit - left).toNat : Nat)) : Int) = -(d * (((j - (limit - left).toNat : Nat)) : Int)) := Int.neg_mul _ _
      have c6 : d * (((j - (limit - left).toNat : Nat)) : Int) ≤ d * steps := Int.mul_le_mul_of_nonneg_left hm (by omega)
      rw [c4]
      omega
    · have := h.less j q
      omega
structure HInv (s : Int) (rs : List Ri) (k limit v left : Int) : Prop where
  l0 : 0 ≤ left ∧ left ≤ limit
  at_ : it (valAt s rs) (limit - left).toNat k = v
  more : ∀ j, j ≤ (limit - left).toNat → it (valAt s rs) j k ≤ v
  v0 : 0 ≤ v
theorem HInv.stop {s : Int} {rs : List Ri} {k limit v left : Int} (h : HInv s rs k limit v left) (w : Wf (-1) rs) (hs : left = 0 ∨ valAt s rs v ≤ v) : Most (valAt s rs) k limit.toNat v := by
  have l0 := h.l0
  refine ⟨⟨(limit - left).toNat, by omega, h.at_⟩, fun j hj => ?_⟩
  rcases Nat.lt_or_ge (limit - left).toNat j with q | q
  · rcases hs with e | e
    · omega
    · have e2 : j = (limit - left).toNat + (j - (limit - left).toNat) := by omega
      rw [e2, it_add, h.at_]
      exact (down_stays w e _).1
  · exact h.more j q
theorem HInv.step {s : Int} {rs : List Ri} {k limit v left : Int} (h : HInv s rs k limit v left) (w : Wf (-1) rs) (hl : 0 < left) (g steps : Int) (hg : g = valAt s rs v - v) (h0 : 0 < g)
    (hst : (highEdge rs v = none ∧ steps = left) ∨ ∃ e, highEdge rs v = some e ∧ steps = (if (e - v) / g + 1 < left then (e - v) / g + 1 else left)) :
    HInv s rs k limit (v + g * steps) (left - steps) ∧ left - steps < left ∧ g ≤ s ∧ 0 ≤ steps ∧ steps ≤ left := by
  have v0 := h.v0
  have st : 1 ≤ steps ∧ steps ≤ left ∧ ∀ e, highEdge rs v = some e → steps ≤ (e - v) / g + 1 := by
    rcases hst with ⟨a, b⟩ | ⟨e, a, b⟩
    · exact ⟨by omega, by omega, fun e q => by rw [a] at q; cases q⟩
    · have hh := (high_some w a).1
      have : 0 ≤ (e - v) / g := Int.ediv_nonneg (by omega) (by omega)
      refine ⟨?_, ?_, fun e' q => ?_⟩
      · rw [b]; split <;> omega
      · rw [b]; split <;> omega
      · rw [a] at q
        cases q
        rw [b]; split <;> omega
  obtain ⟨a1, a2, a3, a4⟩ := up_step w v0 g steps hg h0 st.1 st.2.2
  have l0 := h.l0
  have eL : (limit - (left - steps)).toNat = (limit - left).toNat + steps.toNat := by omega
  refine ⟨⟨by omega, ?_, fun j hj => ?_, by omega⟩, by omega, a1, by omega, by omega⟩
  · rw [eL, it_add, h.at_, a2]
  · rcases Nat.lt_or_ge (limit - left).toNat j with q | q
    · have e2 : j = (limit - left).toNat + (j - (limit - left).toNat) := by omega
      have hm : (((j - (limit - left).toNat : Nat)) : Int) ≤ steps := by omega
      rw [e2, it_add, h.at_, a4 _ hm]
      have c6 : g * (((j - (limit - left).toNat : Nat)) : Int) ≤ g * steps := Int.mul_le_mul_of_nonneg_left hm (by omega)
      omega
    · have := h.more j q
      omega
/-- how far a value may grow -/
theorem it_grow {s : Int} {rs : List Ri} (w : Wf (-1) rs) (hs : 0 ≤ s) {v : Int} (hv : 0 ≤ v) : ∀ j : Nat, 0 ≤ it (valAt s rs) j v ∧ it (valAt s rs) j v ≤ v + s * j
  | 0 => by
    show 0 ≤ v ∧ v ≤ v + s * ((0 : Nat) : Int)
    simp
    exact hv
  | j + 1 => by
    obtain ⟨a, b⟩ := it_grow w hs hv j
    rw [it_succ]
    have q := val_ge (v := s) (k := it (valAt s rs) j v) w
    have q2 := q.2 a
    have e : ((j + 1 : Nat) : Int) = (j : Int) + 1 := by omega
    rw [e, Int.mul_add, Int.mul_one]
    omega

/-! ### with None as the greatest -/
def leV (a b : Option Int) : Prop := b = none ∨ ∃ x y, a = some x ∧ b = some y ∧ x ≤ y
def LeastO (nd : Nd) (k : Option Int) (n : Nat) (r : Option Int) : Prop := (∃ j, j ≤ n ∧ it nd.f j k = r) ∧ ∀ j, j ≤ n → leV r (it nd.f j k)
def MostO (nd : Nd) (k : Option Int) (n : Nat) (r : Option Int) : Prop := (∃ j, j ≤ n ∧ it nd.f j k = r) ∧ ∀ j, j ≤ n → leV (it nd.f j k) r
theorem leV_refl (a : Option Int) : leV a a := by
  cases a with
  | none => exact .inl rfl
  | some x => exact .inr ⟨x, x, rfl, rfl, Int.le_refl x⟩
theorem least_some {s x m : Int} {rs : List Ri} {n : Option Int} {l : Nat} (h : Least (valAt s rs) x l m) : LeastO ⟨some s, rs, n⟩ (some x) l (some m) := by
  obtain ⟨⟨j, h1, h2⟩, h3⟩ := h
  refine ⟨⟨j, h1, by rw [it_some, h2]⟩, fun j hj => ?_⟩
  rw [it_some]
  exact .inr ⟨_, _, rfl, rfl, h3 j hj⟩
theorem most_some {s x m : Int} {rs : List Ri} {n : Option Int} {l : Nat} (h : Most (valAt s rs) x l m) : MostO ⟨some s, rs, n⟩ (some x) l (some m) := by
  obtain ⟨⟨j, h1, h2⟩, h3⟩ := h
  refine ⟨⟨j, h1, by rw [it_some, h2]⟩, fun j hj => ?_⟩
  rw [it_some]
  exact .inr ⟨_, _, rfl, rfl, h3 j hj⟩
/-- None first: its value, then the rest -/
theorem least_none {nd : Nd} {l : Nat} {r : Option Int} (h : LeastO nd nd.never l r) : LeastO nd none (l + 1) r := by
  obtain ⟨⟨j, h1, h2⟩, h3⟩ := h
  have e : nd.f none = nd.never := rfl
  refine ⟨⟨j + 1, by omega, by show it nd.f j (nd.f none) = r; rw [e]; exact h2⟩, fun j hj => ?_⟩
  cases j with
  | zero => exact .inl rfl
  | succ j =>
    show leV r (it nd.f j (nd.f none))
    rw [e]
    exact h3 j (by omega)
theorem least_zero {nd : Nd} {k : Option Int} : LeastO nd k 0 k := ⟨⟨0, Nat.le_refl 0, rfl⟩, fun j hj => by
  have : j = 0 := by omega
  subst this
  exact leV_refl k⟩
theorem most_zero {nd : Nd} {k : Option Int} : MostO nd k 0 k := ⟨⟨0, Nat.le_refl 0, rfl⟩, fun j hj => by
  have : j = 0 := by omega
  subst this
  exact leV_refl k⟩
theorem most_none {nd : Nd} {l : Nat} : MostO nd none l none := ⟨⟨0, Nat.zero_le _, rfl⟩, fun _ _ => .inl rfl⟩
theorem it_none_nd {nd : Nd} (hN : NdOk nd) (h : nd.never = none) (j : Nat) : it nd.f j none = none := by
  cases hN with
  | off => cases j with
    | zero => rfl
    | succ j => exact it_off j none
  | on _ _ _ =>
    cases h
    exact it_none j
theorem least_nones {nd : Nd} (hN : NdOk nd) (h : nd.never = none) {l : Nat} : LeastO nd none l none := ⟨⟨0, Nat.zero_le _, rfl⟩, fun j _ => by rw [it_none_nd hN h]; exact .inl rfl⟩
theorem least_off {x : Int} {l : Nat} : LeastO ⟨none, [], none⟩ (some x) l (some x) := ⟨⟨0, Nat.zero_le _, rfl⟩, fun j _ => by
  cases j with
  | zero => exact leV_refl _
  | succ j => rw [it_off]; exact .inl rfl⟩
theorem most_off {x : Int} {l : Nat} (h : 1 ≤ l) : MostO ⟨none, [], none⟩ (some x) l none := ⟨⟨1, h, rfl⟩, fun j _ => .inl rfl⟩
end N19

/-! closed forms of the constant needs and of those of two paces -/
namespace N19
def UpI (f : Int → Int) (v purse c : Int) : Prop := 0 ≤ c ∧ purse < it f c.toNat v ∧ ∀ j : Nat, j < c.toNat → it f j v ≤ purse
def DownI (f : Int → Int) (v purse c : Int) : Prop := 0 ≤ c ∧ it f c.toNat v ≤ purse ∧ ∀ j : Nat, j < c.toNat → purse < it f j v
theorem upI_zero {f : Int → Int} {v purse : Int} (h : purse < v) : UpI f v purse 0 := ⟨Int.le_refl 0, h, fun j hj => absurd hj (by simp)⟩
theorem downI_zero {f : Int → Int} {v purse : Int} (h : v ≤ purse) : DownI f v purse 0 := ⟨Int.le_refl 0, h, fun j hj => absurd hj (by simp)⟩
theorem upI_add {f : Int → Int} {v purse m c v' : Int} (hm : 0 ≤ m) (e : it f m.toNat v = v') (h1 : ∀ j : Nat, (j : Int) < m → it f j v ≤ purse) (h : UpI f v' purse c) : UpI f v purse (m + c) := by
  obtain ⟨c0, c1, c2⟩ := h
  subst e
  have eN : (m + c).toNat = m.toNat + c.toNat := by omega
  refine ⟨by omega, by rw [eN, it_add]; exact c1, fun j hj => ?_⟩
  rcases Nat.lt_or_ge j m.toNat with q | q
  · exact h1 j (by omega)
  · have e2 : j = m.toNat + (j - m.toNat) := by omega
    rw [e2, it_add]
    exact c2 _ (by omega)
theorem downI_add {f : Int → Int} {v purse m c v' : Int} (hm : 0 ≤ m) (e : it f m.toNat v = v') (h1 : ∀ j : Nat, (j : Int) < m → purse < it f j v) (h : DownI f v' purse c) : DownI f v purse (m + c) := by
  obtain ⟨c0, c1, c2⟩ := h
  subst e
  have eN : (m + c).toNat = m.toNat + c.toNat := by omega
  refine ⟨by omega, by rw [eN, it_add]; exact c1, fun j hj => ?_⟩
  rcases Nat.lt_or_ge j m.toNat with q | q
  · exact h1 j (by omega)
  · have e2 : j = m.toNat + (j - m.toNat) := by omega
    rw [e2, it_add]
    exact c2 _ (by omega)
theorem upI_ok {s v purse c : Int} {rs : List Ri} {n : Option Int} (h : UpI (valAt s rs) v purse c) : UpOk ⟨some s, rs, n⟩ (some v) purse (some c) := by
  obtain ⟨c0, c1, c2⟩ := h
  refine ⟨c0, ?_, fun j hj => ?_⟩
  · rw [it_some, aff_some]; omega
  · rw [it_some, aff_some]; exact c2 j hj
theorem downI_ok {s v purse c : Int} {rs : List Ri} {n : Option Int} (h : DownI (valAt s rs) v purse c) : DownOk ⟨some s, rs, n⟩ (some v) purse (some c) := by
  obtain ⟨c0, c1, c2⟩ := h
  refine ⟨c0, ?_, fun j hj => ?_⟩
  · rw [it_some, aff_some]; exact c1
  · rw [it_some, aff_some]
    have := c2 j hj
    omega
theorem up_one {nd : Nd} {k : Option Int} {purse : Int} {r r' : Option Int} (h : UpOk nd k purse r) (h' : UpOk nd k purse r') : r = r' := by
  cases r with
  | none =>
    cases r' with
    | none => rfl
    | some c' => exact absurd (h c'.toNat) h'.2.1
  | some c =>
    cases r' with
    | none => exact absurd (h' c.toNat) h.2.1
    | some c' =>
      obtain ⟨a, b, d⟩ := h
      obtain ⟨a', b', d'⟩ := h'
      rcases Nat.lt_trichotomy c.toNat c'.toNat with q | q | q
      · exact absurd (d' _ q) b
      · congr 1; omega
      · exact absurd (d _ q) b'
theorem down_one {nd : Nd} {k : Option Int} {purse : Int} {r r' : Option Int} (h : DownOk nd k purse r) (h' : DownOk nd k purse r') : r = r' := by
  cases r with
  | none =>
    cases r' with
    | none => rfl
    | some c' => exact absurd h'.2.1 (h c'.toNat)
  | some c =>
    cases r' with
    | none => exact absurd h.2.1 (h' c.toNat)
    | some c' =>
      obtain ⟨a, b, d⟩ := h
      obtain ⟨a', b', d'⟩ := h'
      rcases Nat.lt_trichotomy c.toNat c'.toNat with q | q | q
      · exact absurd b (d' _ q)
      · congr 1; omega
      · exact absurd b' (d _ q)
/-- a straight piece upwards: m rounds from v stay within hi -/
theorem lin_up {f : Int → Int} {g v hi m : Int} (hg : 0 < g) (hf : ∀ x, v ≤ x → x ≤ hi → f x = x + g) (h0 : v ≤ hi) (hm : m ≤ (hi - v) / g + 1) : ∀ j : Nat, (j : Int) ≤ m → it f j v = v + g * j := fun j hj => it_lin hf j fun i hi' => by
  have d1 : (hi - v) / g * g ≤ hi - v := Int.ediv_mul_le _ (by omega)
  have c1 : (i : Int) * g ≤ (hi - v) / g * g := Int.mul_le_mul_of_nonneg_right (by omega) (by omega)
  have c2 : 0 ≤ (i : Int) * g := Int.mul_nonneg (by omega) (by omega)
  rw [Int.mul_comm g]
  omega
theorem lin_down {f : Int → Int} {g v lo m : Int} (hg : 0 < g) (hf : ∀ x, lo ≤ x → x ≤ v → f x = x - g) (h0 : lo ≤ v) (hm : m ≤ (v - lo) / g + 1) : ∀ j : Nat, (j : Int) ≤ m → it f j v = v - g * j := fun j hj => by
  have e := it_lin (f := f) (d := -g) (lo := lo) (hi := v) (v := v) (fun x a b => by rw [hf x a b]; omega) j fun i hi' => by
    have d1 : (v - lo) / g * g ≤ v - lo := Int.ediv_mul_le _ (by omega)
    have c1 : (i : Int) * g ≤ (v - lo) / g * g := Int.mul_le_mul_of_nonneg_right (by omega) (by omega)
    have c2 : 0 ≤ (i : Int) * g := Int.mul_nonneg (by omega) (by omega)
    have c4 : (-g) * (i : Int) = -((i : Int) * g) := by rw [Int.neg_mul, Int.mul_comm]
    rw [c4]
    omega
  rw [e, Int.neg_mul]
  omega
theorem div_nn {a g : Int} (h : 0 ≤ a) (hg : 0 < g) : 0 ≤ a / g := Int.ediv_nonneg h (by omega)
/-- j rounds within the quotient -/
theorem in_quot {a g : Int} (hg : 0 < g) {j : Int} (h0 : 0 ≤ j) (h : j ≤ a / g) : g * j ≤ a := by
  have d1 : a / g * g ≤ a := Int.ediv_mul_le _ (by omega)
  have c1 : j * g ≤ a / g * g := Int.mul_le_mul_of_nonneg_right h (by omega)
  rw [Int.mul_comm g]
  omega
theorem out_quot {a g : Int} (hg : 0 < g) : a < g * (a / g + 1) := by
  have := Int.lt_ediv_add_one_mul_self a hg
  rw [Int.mul_comm g]
  exact this
/-- rounds by division: the last piece upwards -/
theorem upI_last {f : Int → Int} {g v purse : Int} (hg : 0 < g) (hf : ∀ x, v ≤ x → f x = x + g) (h : v ≤ purse) : UpI f v purse ((purse - v) / g + 1) := by
  have q0 := div_nn (show 0 ≤ purse - v by omega) hg
  have lin := lin_up (hi := purse) (m := (purse - v) / g + 1) hg (fun x a _ => hf x a) h (Int.le_refl _)
  have o := out_quot (a := purse - v) hg
  refine ⟨by omega, ?_, fun j hj => ?_⟩
  · rw [lin _ (by omega)]
    have e : ((((purse - v) / g + 1).toNat : Nat) : Int) = (purse - v) / g + 1 := by omega
    rw [e]
    omega
  · rw [lin j (by omega)]
    have := in_quot (a := purse - v) hg (j := j) (by omega) (by omega)
    omega
/-- the last piece downwards, to a floor -/
theorem downI_last {f : Int → Int} {g v purse base : Int} (hg : 0 < g) (hf : ∀ x, x ≤ v → f x = if x - g < base then base else x - g) (hb : base ≤ purse) (h : purse < v) : DownI f v purse (0 - (purse - v) / g) := by
  have n1 : (purse - v) / g < 0 := Int.ediv_neg_of_neg_of_pos (by omega) hg
  have o := out_quot (a := purse - v) hg
  have inn : ∀ j : Nat, (j : Int) < 0 - (purse - v) / g → purse < v - g * j := fun j hj => by
    have c := Int.mul_le_mul_of_nonneg_left (show (j : Int) ≤ -((purse - v) / g + 1) by omega) (show 0 ≤ g by omega)
    rw [Int.mul_neg] at c
    omega
  have lin : ∀ j : Nat, (j : Int) < 0 - (purse - v) / g → it f j v = v - g * j := by
    intro j
    induction j with
    | zero => intro _; show v = v - g * ((0 : Nat) : Int); simp
    | succ j ih =>
      intro hj
      rw [it_succ, ih (by omega)]
      have c2 : 0 ≤ g * (j : Int) := Int.mul_nonneg (by omega) (by omega)
      have a := inn (j + 1) hj
      have e : ((j + 1 : Nat) : Int) = (j : Int) + 1 := by omega
      rw [e, Int.mul_add, Int.mul_one] at a ⊢
      rw [hf _ (by omega), if_neg (by omega)]
      omega
  refine ⟨by omega, ?_, fun j hj => ?_⟩
  · obtain ⟨m, hm⟩ : ∃ m : Nat, (0 - (purse - v) / g).toNat = m + 1 := ⟨(0 - (purse - v) / g).toNat - 1, by omega⟩
    rw [hm, it_succ, lin m (by omega)]
    have c2 : 0 ≤ g * (m : Int) := Int.mul_nonneg (by omega) (by omega)
    rw [hf _ (by omega)]
    have q : (purse - v) / g * g ≤ purse - v := Int.ediv_mul_le _ (by omega)
    have e : (m : Int) + 1 = -((purse - v) / g) := by omega
    have e2 : g * (m : Int) + g = -((purse - v) / g * g) := by
      have : g * ((m : Int) + 1) = g * (-((purse - v) / g)) := by rw [e]
      rw [Int.mul_add, Int.mul_one, Int.mul_neg, Int.mul_comm g ((purse - v) / g)] at this
      exact this
    split <;> omega
  · rw [lin j (by omega)]
    exact inn j (by omega)
theorem least_ok {s v m : Int} {rs : List Ri} {n : Option Int} {l : Nat} (h : Least (valAt s rs) v l m) : LeastO ⟨some s, rs, n⟩ (some v) l (some m) := least_some h
theorem least_add {f : Int → Int} {v r : Int} {m l : Nat} (h1 : ∀ j, j < m → it f m v ≤ it f j v) (h : Least f (it f m v) l r) : Least f v (m + l) r := by
  obtain ⟨⟨j, a, b⟩, c⟩ := h
  refine ⟨⟨m + j, by omega, by rw [it_add]; exact b⟩, fun j hj => ?_⟩
  rcases Nat.lt_or_ge j m with q | q
  · have := h1 j q
    have := c 0 (Nat.zero_le _)
    have e : it f 0 (it f m v) = it f m v := rfl
    omega
  · have e2 : j = m + (j - m) := by omega
    rw [e2, it_add]
    exact c _ (by omega)
theorem least_0 {f : Int → Int} {v : Int} : Least f v 0 v := ⟨⟨0, Nat.le_refl 0, rfl⟩, fun j hj => by
  rw [show j = 0 by omega]
  exact Int.le_refl v⟩
/-- downwards to a floor: its least of the first l + 1 -/
theorem least_floor {f : Int → Int} {g v base : Int} (hg : 0 < g) (hf : ∀ x, x ≤ (if v < base then base else v) → f x = if x - g < base then base else x - g) (l : Nat) :
    Least f v l (if (if v - g * l < base then base else v - g * l) < v then (if v - g * l < base then base else v - g * l) else v) := by
  have cl : ∀ j : Nat, it f (j + 1) v = if v - g * ((j + 1 : Nat) : Int) < base then base else v - g * ((j + 1 : Nat) : Int) := by
    intro j
    induction j with
    | zero =>
      show f v = _
      rw [hf v (by split <;> omega)]
      have e : ((0 + 1 : Nat) : Int) = 1 := rfl
      rw [e, Int.mul_one]
    | succ j ih =>
      rw [it_succ, ih]
      have e : ((j + 1 + 1 : Nat) : Int) = ((j + 1 : Nat) : Int) + 1 := by omega
      have c2 : 0 ≤ g * ((j + 1 : Nat) : Int) := Int.mul_nonneg (by omega) (by omega)
      rw [e, Int.mul_add, Int.mul_one]
      rw [hf _ (by split <;> split <;> omega)]
      split <;> split <;> split <;> omega
  cases l with
  | zero =>
    have e : (if (if v - g * ((0 : Nat) : Int) < base then base else v - g * ((0 : Nat) : Int)) < v then (if v - g * ((0 : Nat) : Int) < base then base else v - g * ((0 : Nat) : Int)) else v) = v := by
      rw [show ((0 : Nat) : Int) = 0 from rfl, Int.mul_zero]
      split <;> split at * <;> omega
    rw [e]
    exact least_0
  | succ l =>
    have mono : ∀ j : Nat, j ≤ l → g * ((j + 1 : Nat) : Int) ≤ g * ((l + 1 : Nat) : Int) := fun j hj => Int.mul_le_mul_of_nonneg_left (by omega) (by omega)
    refine ⟨?_, fun j hj => ?_⟩
    · by_cases c : (if v - g * ((l + 1 : Nat) : Int) < base then base else v - g * ((l + 1 : Nat) : Int)) < v
      · rw [if_pos c]
        exact ⟨l + 1, Nat.le_refl _, cl l⟩
      · rw [if_neg c]
        exact ⟨0, Nat.zero_le _, rfl⟩
    · cases j with
      | zero =>
        show _ ≤ v
        split <;> omega
      | succ j =>
        rw [cl j]
        have := mono j (by omega)
        split <;> split <;> split at * <;> omega
end N19

/-! the phases of the closed forms -/
namespace N19
theorem div_le_self {a g : Int} (h : 0 ≤ a) (hg : 0 < g) : 0 ≤ a / g ∧ a / g ≤ a := ⟨Int.ediv_nonneg h (by omega), Int.ediv_le_self g h⟩
theorem div_ge_self {a g : Int} (h : a < 0) (hg : 0 < g) : a ≤ a / g ∧ a / g < 0 := by
  refine ⟨Int.le_ediv_of_mul_le hg ?_, Int.ediv_neg_of_neg_of_pos h hg⟩
  have := Int.mul_le_mul_of_nonpos_left (show a ≤ 0 by omega) (show (1 : Int) ≤ g by omega)
  rw [Int.mul_one] at this
  exact this
/-! ### the constant needs -/
theorem cu_f {s x : Int} (h : 0 ≤ x) : valAt s [(0, none)] x = x + s := by
  rw [val_open]; split <;> omega
theorem cd_f {e s x : Int} : valAt e [(e + s, none)] x = if x - s < e then e else x - s := by
  rw [val_open]; split <;> split <;> omega
theorem cu_ok {s : Int} (hs : Bd s) : NdOk ⟨some s, [(0, none)], none⟩ := .on hs ⟨by omega, rfl⟩ fun y h => nomatch h
theorem cd_ok {e s : Int} (he : Bd e) (hs : 0 < s) : NdOk ⟨some e, [(e + s, none)], none⟩ := .on he ⟨by have := he.1; omega, rfl⟩ fun y h => nomatch h
theorem cu_grow {s v purse : Int} (hs : 0 < s) (hv : 0 ≤ v) (h : v ≤ purse) : UpI (valAt s [(0, none)]) v purse ((purse - v) / s + 1) := upI_last hs (fun x hx => cu_f (by omega)) h
theorem cu_it {s v : Int} (hs : 0 < s) (hv : 0 ≤ v) (j : Nat) : it (valAt s [(0, none)]) j v = v + s * j := it_lin (lo := 0) (hi := v + s * j) (fun x h _ => cu_f h) j fun i hi => by
  have := Int.mul_le_mul_of_nonneg_left (show (i : Int) ≤ j by omega) (show 0 ≤ s by omega)
  have := Int.mul_nonneg (show 0 ≤ s by omega) (show (0 : Int) ≤ i by omega)
  omega
theorem cu_never {s v purse : Int} (hs : 0 < s) (hv : 0 ≤ v) (h : purse < v) : DownOk ⟨some s, [(0, none)], none⟩ (some v) purse none := fun j => by
  rw [it_some, aff_some, cu_it hs hv]
  have := Int.mul_nonneg (show 0 ≤ s by omega) (show (0 : Int) ≤ j by omega)
  omega
theorem cu_high {s v l : Int} (hs : 0 < s) (hv : 0 ≤ v) (hl : 0 ≤ l) : MostO ⟨some s, [(0, none)], none⟩ (some v) l.toNat (some (v + l * s)) := most_some ⟨⟨l.toNat, Nat.le_refl _, by
  rw [cu_it hs hv, Int.mul_comm l]
  congr 2
  omega⟩, fun j hj => by
  rw [cu_it hs hv, Int.mul_comm l]
  have := Int.mul_le_mul_of_nonneg_left (show (j : Int) ≤ l by omega) (show 0 ≤ s by omega)
  omega⟩
theorem cu_low {s v l : Int} (hs : 0 < s) (hv : 0 ≤ v) : LeastO ⟨some s, [(0, none)], none⟩ (some v) l.toNat (some v) := least_some ⟨⟨0, Nat.zero_le _, rfl⟩, fun j hj => by
  rw [cu_it hs hv]
  have := Int.mul_nonneg (show 0 ≤ s by omega) (show (0 : Int) ≤ j by omega)
  omega⟩
theorem cd_down {e s v purse : Int} (hs : 0 < s) (h : purse < v) (he : e ≤ purse) : DownI (valAt e [(e + s, none)]) v purse (0 - (purse - v) / s) := downI_last hs (fun x _ => cd_f) he h
theorem ge_never {s v purse : Int} {rs : List Ri} {n : Option Int} (w : Wf (-1) rs) (h : purse < v) (hs : purse < s) : DownOk ⟨some s, rs, n⟩ (some v) purse none := fun j => by
  rw [it_some, aff_some]
  cases j with
  | zero => show ¬ v ≤ purse; omega
  | succ j =>
    rw [it_succ]
    have := (val_ge (v := s) (k := it (valAt s rs) j v) w).1
    omega
theorem cd_low {e s v l : Int} (hs : 0 < s) (hl : 0 ≤ l) : Least (valAt e [(e + s, none)]) v l.toNat (if (if v - l * s > e then v - l * s else e) < v then (if v - l * s > e then v - l * s else e) else v) := by
  have q := least_floor (f := valAt e [(e + s, none)]) (v := v) hs (fun x _ => cd_f) l.toNat
  have e1 : s * (l.toNat : Int) = l * s := by rw [Int.mul_comm]; congr 1; omega
  rw [e1] at q
  have e2 : (if v - l * s < e then e else v - l * s) = (if v - l * s > e then v - l * s else e) := by split <;> split <;> omega
  rw [e2] at q
  exact q
/-! ### two paces upwards -/
structure Pu (pace flat edge : Int) : Prop where
  p : 2 ≤ pace
  f : 1 ≤ flat ∧ flat < pace
  e : 1 ≤ edge
abbrev fU (pace flat edge : Int) : Int → Int := valAt pace [(0, some edge), (edge + flat, none)]
theorem Pu.wf {pace flat edge : Int} (h : Pu pace flat edge) : Wf (-1) [(0, some edge), (edge + flat, none)] := by
  have := h.e
  have := h.f
  exact ⟨by omega, by omega, by omega, rfl⟩
theorem fU_1 {pace flat edge x : Int} (h : Pu pace flat edge) (h0 : 0 ≤ x) (h1 : x ≤ edge) : fU pace flat edge x = x + pace := by
  show valAt _ _ _ = _
  rw [val_in h.wf h1]; split <;> omega
theorem fU_2 {pace flat edge x : Int} (h : Pu pace flat edge) (h0 : edge ≤ x) (h1 : x ≤ edge + flat) : fU pace flat edge x = edge + pace := by
  show valAt _ _ _ = _
  rw [val_out h.wf h0, val_open]; split <;> omega
theorem fU_3 {pace flat edge x : Int} (h : Pu pace flat edge) (h0 : edge + flat ≤ x) : fU pace flat edge x = x + (pace - flat) := by
  have := h.f
  show valAt _ _ _ = _
  rw [val_out h.wf (by omega), val_open]; split <;> omega
def UpS (f : Int → Int) (v0 purse v c : Int) : Prop := 0 ≤ c ∧ ∀ d, UpI f v purse d → UpI f v0 purse (c + d)
theorem UpS.refl {f : Int → Int} {v purse : Int} : UpS f v purse v 0 := ⟨Int.le_refl 0, fun d h => by rw [Int.zero_add]; exact h⟩
theorem UpS.stop {f : Int → Int} {v0 v purse c : Int} (h : UpS f v0 purse v c) (hv : purse < v) : UpI f v0 purse c := by
  have := h.2 0 (upI_zero hv)
  rw [Int.add_zero] at this
  exact this
theorem UpS.go {f : Int → Int} {v0 v purse c m v' : Int} (h : UpS f v0 purse v c) (hm : 0 ≤ m) (e : it f m.toNat v = v') (h1 : ∀ j : Nat, (j : Int) < m → it f j v ≤ purse) : UpS f v0 purse v' (c + m) := ⟨by have := h.1; omega, fun d hd => by
  rw [Int.add_assoc]
  exact h.2 _ (upI_add hm e h1 hd)⟩
theorem u_1 {pace flat edge v purse : Int} (h : Pu pace flat edge) (h0 : 0 ≤ v) (h1 : v ≤ purse) (h2 : v ≤ edge) :
    UpS (fU pace flat edge) v purse (v + pace * (((if edge < purse then edge else purse) - v) / pace + 1)) (((if edge < purse then edge else purse) - v) / pace + 1)
    ∧ (v + pace * (((if edge < purse then edge else purse) - v) / pace + 1) ≤ purse → edge < v + pace * (((if edge < purse then edge else purse) - v) / pace + 1)) := by
  have hp := h.p
  generalize hm : (if edge < purse then edge else purse) = m
  have m1 : v ≤ m ∧ m ≤ edge ∧ m ≤ purse ∧ (m = edge ∨ m = purse) := by split at hm <;> omega
  have q0 := div_nn (show 0 ≤ m - v by omega) (show 0 < pace by omega)
  have lin := lin_up (f := fU pace flat edge) (v := v) (hi := m) (g := pace) (m := (m - v) / pace + 1) (by omega) (fun x a b => fU_1 h (by omega) (by omega)) m1.1 (Int.le_refl _)
  have o := out_quot (a := m - v) (show 0 < pace by omega)
  refine ⟨?_, by omega⟩
  have u := UpS.go (v0 := v) (purse := purse) UpS.refl (show 0 ≤ (m - v) / pace + 1 by omega) (lin _ (by omega)) fun j hj => by
    rw [lin j (by omega)]
    have := in_quot (a := m - v) (show 0 < pace by omega) (j := j) (by omega) (by omega)
    omega
  rw [Int.zero_add] at u
  have e : ((((m - v) / pace + 1).toNat : Nat) : Int) = (m - v) / pace + 1 := by omega
  rw [e] at u
  exact u
theorem u_2 {pace flat edge v0 v c purse : Int} (h : Pu pace flat edge) (u : UpS (fU pace flat edge) v0 purse v c) (h1 : v ≤ purse) (h2 : edge < v) (h3 : v < edge + flat) : UpS (fU pace flat edge) v0 purse (edge + pace) (c + 1) :=
  u.go (m := 1) (by omega) (fU_2 h (by omega) (by omega)) fun j hj => by
    rw [show j = 0 by omega]
    exact h1
theorem u_3 {pace flat edge v0 v c purse : Int} (h : Pu pace flat edge) (u : UpS (fU pace flat edge) v0 purse v c) (h1 : v ≤ purse) (h2 : edge + flat ≤ v) : UpI (fU pace flat edge) v0 purse (c + (purse - v) / (pace - flat) + 1) := by
  have hf := h.f
  have := u.2 _ (upI_last (show 0 < pace - flat by omega) (fun x hx => fU_3 h (by omega)) h1)
  rw [← Int.add_assoc] at this
  exact this
/-- behind some of the rounds -/
def ItS (f : Int → Int) (v0 limit v left : Int) : Prop := 0 ≤ left ∧ left ≤ limit ∧ it f (limit - left).toNat v0 = v
theorem ItS.refl {f : Int → Int} {v limit : Int} (h : 0 ≤ limit) : ItS f v limit v limit := ⟨h, Int.le_refl _, by rw [Int.sub_self]; rfl⟩
theorem ItS.go {f : Int → Int} {v0 v limit left m v' : Int} (h : ItS f v0 limit v left) (hm : 0 ≤ m) (hl : m ≤ left) (e : it f m.toNat v = v') : ItS f v0 limit v' (left - m) := by
  obtain ⟨a, b, c⟩ := h
  refine ⟨by omega, by omega, ?_⟩
  rw [show (limit - (left - m)).toNat = (limit - left).toNat + m.toNat by omega, it_add, c, e]
theorem ItS.fin {f : Int → Int} {v0 v limit left v' : Int} (h : ItS f v0 limit v left) (e : it f left.toNat v = v') : it f limit.toNat v0 = v' := by
  have := (h.go h.1 (Int.le_refl _) e).2.2
  rw [show limit - (left - left) = limit by omega] at this
  exact this
theorem w_1 {pace flat edge v limit : Int} (h : Pu pace flat edge) (h0 : 0 ≤ v) (h1 : 0 < limit) (h2 : v ≤ edge) :
    ItS (fU pace flat edge) v limit (v + pace * (if (edge - v) / pace + 1 < limit then (edge - v) / pace + 1 else limit)) (limit - (if (edge - v) / pace + 1 < limit then (edge - v) / pace + 1 else limit))
    ∧ (0 < limit - (if (edge - v) / pace + 1 < limit then (edge - v) / pace + 1 else limit) → edge < v + pace * (if (edge - v) / pace + 1 < limit then (edge - v) / pace + 1 else limit)) := by
  have hp := h.p
  have q0 := div_nn (show 0 ≤ edge - v by omega) (show 0 < pace by omega)
  generalize hm : (if (edge - v) / pace + 1 < limit then (edge - v) / pace + 1 else limit) = m
  have m1 : 0 ≤ m ∧ m ≤ limit ∧ m ≤ (edge - v) / pace + 1 ∧ (m < limit → m = (edge - v) / pace + 1) := by split at hm <;> omega
  have lin := lin_up (f := fU pace flat edge) (v := v) (hi := edge) (g := pace) (m := m) (by omega) (fun x a b => fU_1 h (by omega) (by omega)) h2 m1.2.2.1
  refine ⟨(ItS.refl (by omega)).go m1.1 m1.2.1 ?_, fun q => ?_⟩
  · rw [lin _ (by omega)]
    congr 2
    omega
  · have o := out_quot (a := edge - v) (show 0 < pace by omega)
    rw [m1.2.2.2 (by omega)]
    omega
theorem w_2 {pace flat edge v0 v left limit : Int} (h : Pu pace flat edge) (u : ItS (fU pace flat edge) v0 limit v left) (h1 : 0 < left) (h2 : edge < v) (h3 : v < edge + flat) : ItS (fU pace flat edge) v0 limit (edge + pace) (left - 1) :=
  u.go (m := 1) (by omega) (by omega) (fU_2 h (by omega) (by omega))
theorem w_3 {pace flat edge v0 v left limit : Int} {n : Option Int} (h : Pu pace flat edge) (u : ItS (fU pace flat edge) v0 limit v left) (h2 : 0 < left → edge + flat ≤ v) (h0 : 0 ≤ v0) :
    MostO ⟨some pace, [(0, some edge), (edge + flat, none)], n⟩ (some v0) limit.toNat (some (v + (pace - flat) * left)) := by
  have hf := h.f
  have he := h.e
  have hp := h.p
  have up : v0 ≤ fU pace flat edge v0 := by
    by_cases a : v0 ≤ edge
    · rw [fU_1 h h0 a]; omega
    · by_cases b : v0 ≤ edge + flat
      · rw [fU_2 h (by omega) b]; omega
      · rw [fU_3 h (by omega)]; omega
  have stay := up_stays h.wf up
  have mono : ∀ (m j : Nat), it (fU pace flat edge) j v0 ≤ it (fU pace flat edge) (j + m) v0 := by
    intro m
    induction m with
    | zero => intro j; exact Int.le_refl _
    | succ m ih =>
      intro j
      have a := ih j
      have b := (stay (j + m)).2
      rw [show j + (m + 1) = (j + m) + 1 by omega, it_succ]
      exact Int.le_trans a b
  have e : it (fU pace flat edge) left.toNat v = v + (pace - flat) * left := by
    have l0 := u.1
    by_cases z : left = 0
    · subst z; rw [Int.mul_zero]; show v = v + 0; omega
    · have := h2 (by omega)
      rw [it_lin (f := fU pace flat edge) (d := pace - flat) (lo := v) (hi := v + (pace - flat) * left) (v := v) (fun x a _ => fU_3 h (by omega)) left.toNat fun i hi => ?_]
      · congr 2; omega
      · have := Int.mul_le_mul_of_nonneg_left (show (i : Int) ≤ left by omega) (show 0 ≤ pace - flat by omega)
        have := Int.mul_nonneg (show 0 ≤ pace - flat by omega) (show (0 : Int) ≤ i by omega)
        omega
  refine most_some ⟨⟨limit.toNat, Nat.le_refl _, u.fin e⟩, fun j hj => ?_⟩
  rw [← u.fin e]
  have := mono (limit.toNat - j) j
  rw [show j + (limit.toNat - j) = limit.toNat by omega] at this
  exact this
/-! ### two paces downwards -/
structure Pd (base pace flat edge : Int) : Prop where
  b : 0 ≤ base
  p : 2 ≤ pace
  f : 1 ≤ flat ∧ flat < pace
  e : base + pace < edge
abbrev fD (base pace flat edge : Int) : Int → Int := valAt base [(base + pace, some edge), (edge + flat, none)]
theorem Pd.wf {base pace flat edge : Int} (h : Pd base pace flat edge) : Wf (-1) [(base + pace, some edge), (edge + flat, none)] := by
  have := h.b
  have := h.p
  have := h.e
  have := h.f
  exact ⟨by omega, by omega, by omega, rfl⟩
theorem fD_1 {base pace flat edge x : Int} (h : Pd base pace flat edge) (h1 : x ≤ edge) : fD base pace flat edge x = if x - pace < base then base else x - pace := by
  show valAt _ _ _ = _
  rw [val_in h.wf h1]; split <;> split <;> omega
theorem fD_2 {base pace flat edge x : Int} (h : Pd base pace flat edge) (h0 : edge ≤ x) (h1 : x ≤ edge + flat) : fD base pace flat edge x = edge - pace := by
  show valAt _ _ _ = _
  rw [val_out h.wf h0, val_open]; split <;> omega
theorem fD_3 {base pace flat edge x : Int} (h : Pd base pace flat edge) (h0 : edge + flat ≤ x) : fD base pace flat edge x = x - (pace + flat) := by
  have := h.f
  show valAt _ _ _ = _
  rw [val_out h.wf (by omega), val_open]; split <;> omega
def DnS (f : Int → Int) (v0 purse v c : Int) : Prop := 0 ≤ c ∧ ∀ d, DownI f v purse d → DownI f v0 purse (c + d)
theorem DnS.refl {f : Int → Int} {v purse : Int} : DnS f v purse v 0 := ⟨Int.le_refl 0, fun d h => by rw [Int.zero_add]; exact h⟩
theorem DnS.stop {f : Int → Int} {v0 v purse c : Int} (h : DnS f v0 purse v c) (hv : v ≤ purse) : DownI f v0 purse c := by
  have := h.2 0 (downI_zero hv)
  rw [Int.add_zero] at this
  exact this
theorem DnS.go {f : Int → Int} {v0 v purse c m v' : Int} (h : DnS f v0 purse v c) (hm : 0 ≤ m) (e : it f m.toNat v = v') (h1 : ∀ j : Nat, (j : Int) < m → purse < it f j v) : DnS f v0 purse v' (c + m) := ⟨by have := h.1; omega, fun d hd => by
  rw [Int.add_assoc]
  exact h.2 _ (downI_add hm e h1 hd)⟩
theorem d_1 {base pace flat edge v purse m : Int} (h : Pd base pace flat edge) (h1 : purse < v) (h2 : edge + flat ≤ v)
    (hm : (if 0 - (purse - v) / (pace + flat) < (v - edge - flat) / (pace + flat) + 1 then 0 - (purse - v) / (pace + flat) else (v - edge - flat) / (pace + flat) + 1) = m) :
    0 ≤ m ∧ DnS (fD base pace flat edge) v purse (v - (pace + flat) * m) m ∧ (purse < v - (pace + flat) * m → v - (pace + flat) * m < edge + flat) := by
  have hp := h.p
  have hf := h.f
  have q0 := div_nn (show 0 ≤ v - edge - flat by omega) (show 0 < pace + flat by omega)
  have q1 := div_ge_self (show purse - v < 0 by omega) (show 0 < pace + flat by omega)
  have m1 : 0 ≤ m ∧ m ≤ (v - edge - flat) / (pace + flat) + 1 ∧ m ≤ 0 - (purse - v) / (pace + flat) ∧ (m = (v - edge - flat) / (pace + flat) + 1 ∨ m = 0 - (purse - v) / (pace + flat)) := by split at hm <;> omega
  have lin := lin_down (f := fD base pace flat edge) (v := v) (lo := edge + flat) (g := pace + flat) (m := m) (by omega) (fun x a b => fD_3 h a) h2 (by rw [show v - (edge + flat) = v - edge - flat by omega]; exact m1.2.1)
  refine ⟨m1.1, ?_, fun q => ?_⟩
  · have u := DnS.go (v0 := v) (purse := purse) DnS.refl m1.1 (lin _ (by omega)) fun j hj => by
      rw [lin j (by omega)]
      have o := out_quot (a := purse - v) (show 0 < pace + flat by omega)
      have c := Int.mul_le_mul_of_nonneg_left (show (j : Int) ≤ -((purse - v) / (pace + flat) + 1) by omega) (show 0 ≤ pace + flat by omega)
      rw [Int.mul_neg] at c
      omega
    rw [Int.zero_add] at u
    rw [show ((m.toNat : Nat) : Int) = m by omega] at u
    exact u
  · rcases m1.2.2.2 with e | e
    · have o := out_quot (a := v - edge - flat) (show 0 < pace + flat by omega)
      rw [← e] at o
      omega
    · exfalso
      have d1 : (purse - v) / (pace + flat) * (pace + flat) ≤ purse - v := Int.ediv_mul_le _ (by omega)
      rw [show (purse - v) / (pace + flat) = -m by omega, Int.neg_mul, Int.mul_comm] at d1
      omega
theorem d_2 {base pace flat edge v0 v c purse : Int} (h : Pd base pace flat edge) (u : DnS (fD base pace flat edge) v0 purse v c) (h1 : purse < v) (h2 : edge < v) (h3 : v < edge + flat) : DnS (fD base pace flat edge) v0 purse (edge - pace) (c + 1) :=
  u.go (m := 1) (by omega) (fD_2 h (by omega) (by omega)) fun j hj => by
    rw [show j = 0 by omega]
    exact h1
theorem d_3 {base pace flat edge v0 v c purse : Int} (h : Pd base pace flat edge) (u : DnS (fD base pace flat edge) v0 purse v c) (h1 : purse < v) (h2 : v ≤ edge) (hb : base ≤ purse) : DownI (fD base pace flat edge) v0 purse (c - (purse - v) / pace) := by
  have hp := h.p
  have := u.2 _ (downI_last (show 0 < pace by omega) (fun x hx => fD_1 h (by omega)) hb h1)
  rw [show c + (0 - (purse - v) / pace) = c - (purse - v) / pace by omega] at this
  exact this
def LsS (f : Int → Int) (v0 limit v left : Int) : Prop := 0 ≤ left ∧ left ≤ limit ∧ ∀ r, Least f v left.toNat r → Least f v0 limit.toNat r
theorem LsS.refl {f : Int → Int} {v limit : Int} (h : 0 ≤ limit) : LsS f v limit v limit := ⟨h, Int.le_refl _, fun r q => q⟩
theorem LsS.go {f : Int → Int} {v0 v limit left m v' : Int} (h : LsS f v0 limit v left) (hm : 0 ≤ m) (hl : m ≤ left) (e : it f m.toNat v = v') (h1 : ∀ j, j < m.toNat → v' ≤ it f j v) : LsS f v0 limit v' (left - m) := by
  obtain ⟨a, b, c⟩ := h
  subst e
  refine ⟨by omega, by omega, fun r q => c r ?_⟩
  rw [show left.toNat = m.toNat + (left - m).toNat by omega]
  exact least_add h1 q
theorem e_1 {base pace flat edge v limit m : Int} (h : Pd base pace flat edge) (h1 : 0 < limit) (h2 : edge + flat ≤ v)
    (hm : (if (v - edge - flat) / (pace + flat) + 1 < limit then (v - edge - flat) / (pace + flat) + 1 else limit) = m) :
    0 ≤ m ∧ m ≤ limit ∧ LsS (fD base pace flat edge) v limit (v - (pace + flat) * m) (limit - m) ∧ (0 < limit - m → v - (pace + flat) * m < edge + flat) := by
  have hp := h.p
  have hf := h.f
  have q0 := div_nn (show 0 ≤ v - edge - flat by omega) (show 0 < pace + flat by omega)
  have m1 : 0 ≤ m ∧ m ≤ (v - edge - flat) / (pace + flat) + 1 ∧ m ≤ limit ∧ (m < limit → m = (v - edge - flat) / (pace + flat) + 1) := by split at hm <;> omega
  have lin := lin_down (f := fD base pace flat edge) (v := v) (lo := edge + flat) (g := pace + flat) (m := m) (by omega) (fun x a b => fD_3 h a) h2 (by rw [show v - (edge + flat) = v - edge - flat by omega]; exact m1.2.1)
  have em : ((m.toNat : Nat) : Int) = m := by omega
  refine ⟨m1.1, m1.2.2.1, (LsS.refl (by omega)).go m1.1 m1.2.2.1 ?_ (fun j hj => ?_), fun q => ?_⟩
  · rw [lin _ (by omega), em]
  · rw [lin j (by omega)]
    have := Int.mul_le_mul_of_nonneg_left (show (j : Int) ≤ m by omega) (show 0 ≤ pace + flat by omega)
    omega
  · have o := out_quot (a := v - edge - flat) (show 0 < pace + flat by omega)
    rw [← m1.2.2.2 (by omega)] at o
    omega
theorem e_2 {base pace flat edge v0 v left limit : Int} (h : Pd base pace flat edge) (u : LsS (fD base pace flat edge) v0 limit v left) (h1 : 0 < left) (h2 : edge < v) (h3 : v < edge + flat) : LsS (fD base pace flat edge) v0 limit (edge - pace) (left - 1) :=
  u.go (m := 1) (by omega) (by omega) (fD_2 h (by omega) (by omega)) fun j hj => by
    have hj' : j < 1 := hj
    rw [show j = 0 by omega]
    have := h.p
    show edge - pace ≤ v
    omega
theorem e_3 {base pace flat edge v0 v left limit : Int} (h : Pd base pace flat edge) (u : LsS (fD base pace flat edge) v0 limit v left) (h2 : 0 < left → v ≤ edge) :
    Least (fD base pace flat edge) v0 limit.toNat (if (if v - pace * left > base then v - pace * left else base) < v then (if v - pace * left > base then v - pace * left else base) else v) := by
  have hp := h.p
  have he := h.e
  refine u.2.2 _ ?_
  by_cases z : left = 0
  · subst z
    rw [Int.mul_zero, if_neg (by split <;> omega)]
    exact least_0
  · have l0 := u.1
    have hv := h2 (by omega)
    have q := least_floor (f := fD base pace flat edge) (v := v) (show 0 < pace by omega) (fun x hx => fD_1 h (by split at hx <;> omega)) left.toNat
    rw [show ((left.toNat : Nat) : Int) = left by omega] at q
    have e2 : (if v - pace * left < base then base else v - pace * left) = (if v - pace * left > base then v - pace * left else base) := by split <;> split <;> omega
    rw [e2] at q
    exact q
end N19

--T law_k19_need_round_counts
local macro_rules | `(tactic| walk_at "in") => `(tactic| simp only [L2.start, List.map_cons, List.map_nil, List.length_cons, List.length_nil, Nat.reduceAdd, Nat.reduceSub, List.replicate, List.cons_append, List.nil_append])
local macro_rules | `(tactic| walk_at "fld") => `(tactic| ((with_reducible refine Uv.r_att ?_); (repeat refine Uv.stp ?_); (with_reducible refine Uv.r_fldOf (C := ?C) (dx := ?dx) (fs := ?fs) (v := ?v) ?ho ?hc ?hn ?hl ?q); (case ho => assumption); (case hc => assumption); (case hn => assumption); (case hl => exact rfl)))
local macro_rules | `(tactic| walk_at "sto") => `(tactic| ((with_reducible refine Uv.r_sfldOf (C := ?C) (dx := ?dx) (fs := ?fs) ?ho ?hc ?hn ?hl ?q); (case ho => first | assumption | exact L2.upd_same); (case hc => assumption); (case hn => assumption); (case hl => decide)))
local macro_rules | `(tactic| walk_at "side") => `(tactic| first
  | ((with_reducible refine Uv.r_gseq (xs := ?xs) ?hs ?hl ?q); (case hs => assumption); (case hl => rfl))
  | ((with_reducible refine Uv.r_ixT (xs := ?xs) (v := ?v) ?hs ?e ?q); (case hs => assumption); (case e => exact rfl))
  | ((with_reducible refine Uv.r_ixL (xs := ?xs) (v := ?v) ?hs ?e ?q); (case hs => assumption); (case e => exact rfl))
  | ((with_reducible refine Uv.r_modI ?h ?q); (case h => decide))
  | ((with_reducible refine Uv.r_fdvI ?h ?z ?q); (case h => decide); (case z => decide +kernel))
  | ((with_reducible refine Uv.r_mulI ?z ?q); (case z => first | exact (L2.CMul.ok (Or.inr (by decide))) | exact (L2.CMul.ok (Or.inl (by decide)))))
  | ((with_reducible refine Uv.r_powI ?z ?q); (case z => exact ⟨by decide, by decide, by decide⟩))
  | walk_at "fld")
local macro_rules | `(tactic| walk_at "go") => `(tactic| repeat' (first | refine Uv.stp ?_ | walk_at "side"))
local macro_rules | `(tactic| walk_at "gf") => `(tactic| repeat' (first | refine Uv.stp ?_ | walk_at "side"))
local macro_rules | `(tactic| walk_at "b") => `(tactic| with_reducible first | refine Uv.i_dec (fun h => ?_) (fun h => ?_) | refine Uv.i_ndec (fun h => ?_) (fun h => ?_))
namespace K19
open PySem PySem.Spec PyProof.Rows L2 Uv
def top (i : Nat) : Stmt := PySem.Challenge.pw_signedpacts_k19_need_round_counts.main.body.getD i (.Pass ⟨0, 0, 0, 0⟩)
structure Ad where
  Need : Addr
structure TK (K : PySem.W.Frag) (Z : Ad) : Prop where
  cN : Cls K Z.Need
  nS : NoAttr K Z.Need "start"
  nR : NoAttr K Z.Need "rises"
  nN : NoAttr K Z.Need "never"
abbrev FnP (K : PySem.W.Frag) (x q : Str) (st : Stmt) (f : Addr) (fd : FuncData) : Prop := FunD K x q (defArgs st) (defBody st) (defScope st) [] [] f fd
/-- pairs of a number and a number or None, as tuples of the heap -/
def vO : Option Int → V
  | none => .non
  | some i => .int i
abbrev Pair (K : PySem.W.Frag) (H : Hp) (x : V) (r : N19.Ri) : Prop := ∃ a, x = .ref a ∧ SqT K H a [.int r.1, vO r.2]
def Pairs (K : PySem.W.Frag) (H : Hp) (xs : List V) (rs : List N19.Ri) : Prop := Paired (Pair K H) xs rs
theorem Pairs.len {K : PySem.W.Frag} {H : Hp} {xs : List V} {rs : List N19.Ri} (h : Pairs K H xs rs) : xs.length = rs.length := Paired.length h
theorem pairs_at' {K : PySem.W.Frag} {H : Hp} : ∀ {xs : List V} {rs : List N19.Ri} {i : Nat} {x : V}, Pairs K H xs rs → xs[i]? = some x → ∃ r, rs[i]? = some r ∧ Pair K H x r
  | _, _, i, x, .nil, e => by simp at e
  | _, _, 0, x, .cons r t, e => by
    simp at e
    subst e
    exact ⟨_, rfl, r⟩
  | _, _, i + 1, x, .cons r t, e => by
    obtain ⟨r, h1, h2⟩ := pairs_at' (i := i) (x := x) t (by simpa using e)
    exact ⟨r, by simpa using h1, h2⟩
theorem pairs_at {K : PySem.W.Frag} {H : Hp} {xs : List V} {rs : List N19.Ri} {i : Nat} {x : V} (h : Pairs K H xs rs) (e : xs[i]? = some x) : ∃ lo hi a, rs[i]? = some (lo, hi) ∧ x = .ref a ∧ SqT K H a [.int lo, vO hi] := by
  obtain ⟨⟨lo, hi⟩, h1, a, h2, h3⟩ := pairs_at' h e
  exact ⟨lo, hi, a, h1, h2, h3⟩
abbrev s_value_at : Stmt := (top 7)
theorem sc_value_at : FnScope ["start", "rises", "k", "value", "low", "high", "top"] ["start", "rises", "k"] (defScope s_value_at) := ⟨rfl, rfl, rfl, by decide +kernel, rfl, by decide +kernel, by decide +kernel⟩
def t_value_at (K : PySem.W.Frag) (Z : Ad) : TS :=
    (tSeq (tAsg (tVar 0) (gName 3))
    (C8.tCut (tFor (Uv.iSeqU K (tVar 1)) (Uv.gSeqU K 2 (gCons (gName 4) (gCons (gName 5) gNil))) (C8.tCut (tIfS (tTest (tOp Uv.rLeU (tVar 2) (tVar 4))) tBreak tNext)
    (tSeq (tAsg (tIf (tOr (tTest (tOp Uv.rIsU (tVar 5) (tC .non))) (tTest (tOp Uv.rLtU (tVar 2) (tVar 5)))) (tVar 2) (tVar 5)) (gName 6))
    (tAsg (tOp Uv.rSubU (tOp (Uv.rAddU K) (tVar 3) (tVar 6)) (tVar 4)) (gName 3)))))
    (tRet (tVar 3))))
def sp_value_at (K : PySem.W.Frag) (_ : Ad) : Sp := fun vs H Q _ => ∃ (s k : Int) (a : Addr) (xs : List V) (rs : List N19.Ri), vs = [.int s, .ref a, .int k] ∧ SqT K H a xs ∧ Pairs K H xs rs ∧ Q (.int (N19.valAt s rs k)) H
theorem drop_at {α : Type} {l : List α} {i : Nat} {x : α} (h : l[i]? = some x) : l.drop i = x :: l.drop (i + 1) := by
  have hi : i < l.length := by
    rcases Nat.lt_or_ge i l.length with q | q
    · exact q
    · rw [List.getElem?_eq_none q] at h; cases h
  rw [List.drop_eq_getElem_cons hi]
  rw [List.getElem?_eq_getElem hi] at h
  cases h
  rfl
section
variable {P : Program} {w : World} {K : PySem.W.Frag} {mg : Str → Option Value} {base : Heap} {Z : Ad} {f : Addr} {fd : FuncData}
theorem pure_value_at (T : TK K Z) (vs : List V) (H : Hp) (Q : VK) (E : XK) (h : sp_value_at K Z vs H Q E) : t_value_at K Z { nx := fun _ H' => Q .non H', rt := Q } (L2.start ["start", "rises", "k", "value", "low", "high", "top"] vs) H := by
  obtain ⟨s, k, a, xs, rs, rfl, hS, hP, hQ⟩ := h
  walk_at "in"
  unfold t_value_at
  walk_at "go"
  refine r_cut (fun σ' H' => H' = H ∧ σ'[3]? = some (some (.int (N19.valAt s rs k)))) ?_ ?_
  · refine r_forT ?_
    walk_at "go"
    refine r_loopT hS (fun i σ' H' => H' = H ∧ ∃ v a1 a2 a3, σ' = [some (.int s), some (.ref a), some (.int k), some (.int v), a1, a2, a3] ∧ N19.valAt v (rs.drop i) k = N19.valAt s rs k) ?_ ?_ ?_ ?_
    · exact ⟨rfl, s, none, none, none, rfl, rfl⟩
    · rintro i σ' H' _ ⟨rfl, _⟩
      exact hS
    · rintro i x σ' H' hx ⟨rfl, v, a1, a2, a3, rfl, hv⟩
      obtain ⟨lo, hi, c, hr, rfl, hc⟩ := pairs_at hP hx
      rw [drop_at hr] at hv
      rw [N19.val_cons] at hv
      walk_at "go"
      refine r_nocut ?_
      walk_at "go"
      walk_at "b"
      · rename_i hk
        rw [if_pos hk] at hv
        walk_at "go"
        exact ⟨rfl, by rw [← hv]; rfl⟩
      · rename_i hk
        rw [if_neg hk] at hv
        walk_at "go"
        cases hi with
        | none =>
          have e : vO none = V.non := rfl
          rw [e]
          walk_at "go"
          exact ⟨rfl, _, _, _, _, rfl, hv⟩
        | some h =>
          have e : vO (some h) = V.int h := rfl
          rw [e]
          walk_at "go"
          walk_at "b"
          · rename_i hk
            simp only [if_pos hk] at hv
            walk_at "go"
            exact ⟨rfl, _, _, _, _, rfl, hv⟩
          · rename_i hk
            simp only [if_neg hk] at hv
            walk_at "go"
            exact ⟨rfl, _, _, _, _, rfl, hv⟩
    · rintro σ' H' ⟨rfl, v, a1, a2, a3, rfl, hv⟩
      rw [hP.len, List.drop_length] at hv
      exact ⟨rfl, by rw [← hv]; rfl⟩
  · rintro σ' H' ⟨rfl, e⟩
    walk_at "go"
    exact ⟨_, e, hQ⟩
theorem ok_value_at (T : TK K Z) (B : Blt mg)  (F : FnP K "value_at" "value_at" s_value_at f fd) : FnOk P w K mg base CX0 1 f fd ["start", "rises", "k"] (sp_value_at K Z) := by
  have nd := sc_value_at.nd
  refine F.ok sc_value_at (fun vs H Q E h => ?_) (fun cdv A outer s H vs Q E hr h => ⟨t_value_at K Z, PSs.nox (pss_cons (ps_set (i := 3) nd rfl (by first | exact Or.inl rfl | exact Or.inr rfl) (pv 0))
      (C8.pss_cut (ps_for PassesOwn.never rfl (Uv.pi_seq (pv 1)) (Uv.pg_seq rfl (pgs_cons (pg_name (i := 4) nd rfl (by first | exact Or.inl rfl | exact Or.inr rfl)) (pgs_cons (pg_name (i := 5) nd rfl (by first | exact Or.inl rfl | exact Or.inr rfl)) pgs_nil))) (C8.pss_cut (ps_if (pt_cmpR Uv.u_le (pv 2) (pv 4) (nomark _)) (pss_one ps_break) pss_nil)
      (pss_cons (ps_set (i := 6) nd rfl (by first | exact Or.inl rfl | exact Or.inr rfl) (pe_ifExp (PW.pt (pw_or (pt_cmpR Uv.u_is (pv 5) pe_non (nomark _)) (pw_or1 (pt_cmpR Uv.u_lt (pv 2) (pv 5) (nomark _))))) (pv 2) (pv 5)))
      (pss_one (ps_set (i := 3) nd rfl (by first | exact Or.inl rfl | exact Or.inr rfl) (pe_op Uv.u_sub (pe_op Uv.u_add (pv 3) (pv 6)) (pv 4)))))))
      (pss_one (ps_ret (pv 3))))), pure_value_at T vs H Q E h⟩)
  unfold sp_value_at at h
  (repeat (obtain ⟨_, h⟩ := h)); all_goals (subst_vars; rfl)
end
abbrev s_low_edge : Stmt := (top 14)
theorem sc_low_edge : FnScope ["rises", "k", "low", "high"] ["rises", "k"] (defScope s_low_edge) := ⟨rfl, rfl, rfl, by decide +kernel, rfl, by decide +kernel, by decide +kernel⟩
def t_low_edge (K : PySem.W.Frag) (Z : Ad) : TS :=
    (C8.tCut (tFor (Uv.iSeqU K (tVar 0)) (Uv.gSeqU K 2 (gCons (gName 2) (gCons (gName 3) gNil))) (tIfS (tAnd (tTest (tOp Uv.rLtU (tVar 2) (tVar 1))) (tOr (tTest (tOp Uv.rIsU (tVar 3) (tC .non))) (tTest (tOp Uv.rLeU (tVar 1) (tVar 3))))) (tRet (tVar 2)) tNext))
    (tRet (tVar 1)))
abbrev s_high_edge : Stmt := (top 15)
theorem sc_high_edge : FnScope ["rises", "k", "low", "high"] ["rises", "k"] (defScope s_high_edge) := ⟨rfl, rfl, rfl, by decide +kernel, rfl, by decide +kernel, by decide +kernel⟩
def t_high_edge (K : PySem.W.Frag) (Z : Ad) : TS :=
    (C8.tCut (tFor (Uv.iSeqU K (tVar 0)) (Uv.gSeqU K 2 (gCons (gName 2) (gCons (gName 3) gNil))) (tIfS (tAnd (tTest (tOp Uv.rLeU (tVar 2) (tVar 1))) (tOr (tTest (tOp Uv.rIsU (tVar 3) (tC .non))) (tTest (tOp Uv.rLtU (tVar 1) (tVar 3))))) (tRet (tVar 3)) tNext))
    (tRet (tVar 1)))
def sp_low_edge (K : PySem.W.Frag) (_ : Ad) : Sp := fun vs H Q _ => ∃ (k : Int) (a : Addr) (xs : List V) (rs : List N19.Ri), vs = [.ref a, .int k] ∧ SqT K H a xs ∧ Pairs K H xs rs ∧ Q (.int (N19.lowEdge rs k)) H
def sp_high_edge (K : PySem.W.Frag) (_ : Ad) : Sp := fun vs H Q _ => ∃ (k : Int) (a : Addr) (xs : List V) (rs : List N19.Ri), vs = [.ref a, .int k] ∧ SqT K H a xs ∧ Pairs K H xs rs ∧ Q (vO (N19.highEdge rs k)) H
section
variable {P : Program} {w : World} {K : PySem.W.Frag} {mg : Str → Option Value} {base : Heap} {Z : Ad} {f : Addr} {fd : FuncData}
theorem pure_low_edge (T : TK K Z) (vs : List V) (H : Hp) (Q : VK) (E : XK) (h : sp_low_edge K Z vs H Q E) : t_low_edge K Z { nx := fun _ H' => Q .non H', rt := Q } (L2.start ["rises", "k", "low", "high"] vs) H := by
  obtain ⟨k, a, xs, rs, rfl, hS, hP, hQ⟩ := h
  walk_at "in"
  unfold t_low_edge
  refine r_nocut ?_
  refine r_forT ?_
  walk_at "go"
  refine r_loopT hS (fun i σ' H' => H' = H ∧ ∃ a1 a2, σ' = [some (.ref a), some (.int k), a1, a2] ∧ N19.lowEdge (rs.drop i) k = N19.lowEdge rs k) ?_ ?_ ?_ ?_
  · exact ⟨rfl, none, none, rfl, rfl⟩
  · rintro i σ' H' _ ⟨rfl, _⟩
    exact hS
  · rintro i x σ' H' hx ⟨rfl, a1, a2, rfl, hv⟩
    obtain ⟨lo, hi, c, hr, rfl, hc⟩ := pairs_at hP hx
    rw [drop_at hr] at hv
    walk_at "go"
    cases hi with
    | none =>
      have e : vO none = V.non := rfl
      rw [e]
      rw [N19.low_open] at hv
      walk_at "b"
      · rename_i hk
        rw [if_pos hk] at hv
        walk_at "go"
        rw [hv]
        exact hQ
      · rename_i hk
        rw [if_neg hk] at hv
        walk_at "go"
        exact ⟨rfl, _, _, rfl, hv⟩
    | some h =>
      have e : vO (some h) = V.int h := rfl
      rw [e]
      rw [N19.low_some] at hv
      walk_at "b"
      · walk_at "go"
        walk_at "b"
        · rename_i h1 h2
          rw [if_pos ⟨h1, h2⟩] at hv
          walk_at "go"
          rw [hv]
          exact hQ
        · rename_i h1 h2
          rw [if_neg (fun q => h2 q.2)] at hv
          walk_at "go"
          exact ⟨rfl, _, _, rfl, hv⟩
      · rename_i h1
        rw [if_neg (fun q => h1 q.1)] at hv
        walk_at "go"
        exact ⟨rfl, _, _, rfl, hv⟩
  · rintro σ' H' ⟨rfl, a1, a2, rfl, hv⟩
    rw [hP.len, List.drop_length] at hv
    walk_at "go"
    have hv' : k = N19.lowEdge rs k := hv
    rw [← hv'] at hQ
    exact hQ
theorem ok_low_edge (T : TK K Z) (B : Blt mg)  (F : FnP K "low_edge" "low_edge" s_low_edge f fd) : FnOk P w K mg base CX0 1 f fd ["rises", "k"] (sp_low_edge K Z) := by
  have nd := sc_low_edge.nd
  refine F.ok sc_low_edge (fun vs H Q E h => ?_) (fun cdv A outer s H vs Q E hr h => ⟨t_low_edge K Z, PSs.nox (C8.pss_cut (ps_for PassesOwn.never rfl (Uv.pi_seq (pv 0)) (Uv.pg_seq rfl (pgs_cons (pg_name (i := 2) nd rfl (by first | exact Or.inl rfl | exact Or.inr rfl)) (pgs_cons (pg_name (i := 3) nd rfl (by first | exact Or.inl rfl | exact Or.inr rfl)) pgs_nil))) (pss_one (ps_if (PW.pt (pw_and (pt_cmpR Uv.u_lt (pv 2) (pv 1) (nomark _)) (pw_and1 (PW.pt (pw_or (pt_cmpR Uv.u_is (pv 3) pe_non (nomark _)) (pw_or1 (pt_cmpR Uv.u_le (pv 1) (pv 3) (nomark _)))))))) (pss_one (ps_ret (pv 2))) pss_nil)))
      (pss_one (ps_ret (pv 1)))), pure_low_edge T vs H Q E h⟩)
  unfold sp_low_edge at h
  (repeat (obtain ⟨_, h⟩ := h)); all_goals (subst_vars; rfl)
theorem pure_high_edge (T : TK K Z) (vs : List V) (H : Hp) (Q : VK) (E : XK) (h : sp_high_edge K Z vs H Q E) : t_high_edge K Z { nx := fun _ H' => Q .non H', rt := Q } (L2.start ["rises", "k", "low", "high"] vs) H := by
  obtain ⟨k, a, xs, rs, rfl, hS, hP, hQ⟩ := h
  walk_at "in"
  unfold t_high_edge
  refine r_nocut ?_
  refine r_forT ?_
  walk_at "go"
  refine r_loopT hS (fun i σ' H' => H' = H ∧ ∃ a1 a2, σ' = [some (.ref a), some (.int k), a1, a2] ∧ N19.highEdge (rs.drop i) k = N19.highEdge rs k) ?_ ?_ ?_ ?_
  · exact ⟨rfl, none, none, rfl, rfl⟩
  · rintro i σ' H' _ ⟨rfl, _⟩
    exact hS
  · rintro i x σ' H' hx ⟨rfl, a1, a2, rfl, hv⟩
    obtain ⟨lo, hi, c, hr, rfl, hc⟩ := pairs_at hP hx
    rw [drop_at hr] at hv
    walk_at "go"
    cases hi with
    | none =>
      have e : vO none = V.non := rfl
      rw [e]
      rw [N19.high_open] at hv
      walk_at "b"
      · rename_i hk
        rw [if_pos hk] at hv
        walk_at "go"
        rw [← hv] at hQ
        exact hQ
      · rename_i hk
        rw [if_neg hk] at hv
        walk_at "go"
        exact ⟨rfl, _, _, rfl, hv⟩
    | some h =>
      have e : vO (some h) = V.int h := rfl
      rw [e]
      rw [N19.high_cons] at hv
      walk_at "b"
      · walk_at "go"
        walk_at "b"
        · rename_i h1 h2
          rw [if_pos ⟨h1, h2⟩] at hv
          walk_at "go"
          rw [← hv] at hQ
          exact hQ
        · rename_i h1 h2
          rw [if_neg (fun q => h2 q.2)] at hv
          walk_at "go"
          exact ⟨rfl, _, _, rfl, hv⟩
      · rename_i h1
        rw [if_neg (fun q => h1 q.1)] at hv
        walk_at "go"
        exact ⟨rfl, _, _, rfl, hv⟩
  · rintro σ' H' ⟨rfl, a1, a2, rfl, hv⟩
    rw [hP.len, List.drop_length] at hv
    walk_at "go"
    have hv' : some k = N19.highEdge rs k := hv
    rw [← hv'] at hQ
    exact hQ
theorem ok_high_edge (T : TK K Z) (B : Blt mg)  (F : FnP K "high_edge" "high_edge" s_high_edge f fd) : FnOk P w K mg base CX0 1 f fd ["rises", "k"] (sp_high_edge K Z) := by
  have nd := sc_high_edge.nd
  refine F.ok sc_high_edge (fun vs H Q E h => ?_) (fun cdv A outer s H vs Q E hr h => ⟨t_high_edge K Z, PSs.nox (C8.pss_cut (ps_for PassesOwn.never rfl (Uv.pi_seq (pv 0)) (Uv.pg_seq rfl (pgs_cons (pg_name (i := 2) nd rfl (by first | exact Or.inl rfl | exact Or.inr rfl)) (pgs_cons (pg_name (i := 3) nd rfl (by first | exact Or.inl rfl | exact Or.inr rfl)) pgs_nil))) (pss_one (ps_if (PW.pt (pw_and (pt_cmpR Uv.u_le (pv 2) (pv 1) (nomark _)) (pw_and1 (PW.pt (pw_or (pt_cmpR Uv.u_is (pv 3) pe_non (nomark _)) (pw_or1 (pt_cmpR Uv.u_lt (pv 1) (pv 3) (nomark _)))))))) (pss_one (ps_ret (pv 3))) pss_nil)))
      (pss_one (ps_ret (pv 1)))), pure_high_edge T vs H Q E h⟩)
  unfold sp_high_edge at h
  (repeat (obtain ⟨_, h⟩ := h)); all_goals (subst_vars; rfl)
end
end K19

--T law_k19_need_round_counts
namespace K19
open PySem PySem.Spec PyProof.Rows L2 Uv N19
def nf (nd : Nd) (a : Addr) : List (Str × V) := [(("start" : Str), vO nd.start), (("rises" : Str), .ref a), (("never" : Str), vO nd.never)]
/-- a need stands at p -/
structure NeedAt (K : PySem.W.Frag) (Z : Ad) (H : Hp) (p : Addr) (nd : Nd) : Prop where
  ex : ∃ dx a xs, H p = some (.ins Z.Need dx (nf nd a)) ∧ SqT K H a xs ∧ Pairs K H xs nd.rises
theorem mul_ok {i j : Int} (hi : 0 ≤ i ∧ i < 2 ^ 1000) (hj : 0 ≤ j ∧ j < 2 ^ 1000) : IntMulOk i j := (wide_mul (a := 1000) (b := 1000) (by omega) (by omega) (by decide) (by decide) (by decide)).ok
theorem div_ok {j : Int} (h : 0 < j) (hj : j < 2 ^ 1000) : j.natAbs.log2 < 9000 := (wide_div (i := 0) (b := 1000) h (by omega) (by decide) (by decide)).2
abbrev s_rounds_down : Stmt := (top 18)
theorem sc_rounds_down : FnScope ["need", "k", "purse", "value", "count", "drop", "steps"] ["need", "k", "purse"] (defScope s_rounds_down) := ⟨rfl, rfl, rfl, by decide +kernel, rfl, by decide +kernel, by decide +kernel⟩
def t_rounds_down (K : PySem.W.Frag) (Z : Ad) : TS :=
    (tSeq (tPar 3 4 (tCons (tVar 1) (tCons (tC (.int 0)) tNil)))
    (C8.tCut (tIfS (tTest (tOp Uv.rIsU (tVar 3) (tC .non))) (tPar 3 4 (tCons (Uv.tAtt K (tVar 0) "never") (tCons (tC (.int 1)) tNil))) tNext)
    (C8.tCut (tIfS (tTest (tOp Uv.rIsU (tVar 3) (tC .non))) (tRet (tC .non)) tNext)
    (C8.tCut (tWhile (tTest (tOp Uv.rGtU (tVar 3) (tVar 2))) (tSeq (tAsg (tIf (tTest (tOp Uv.rIsU (Uv.tAtt K (tVar 0) "start") (tC .non))) (tC (.int 0)) (tOp Uv.rSubU (tVar 3) (tCall (sp_value_at K Z) [] E0 (tCons (Uv.tAtt K (tVar 0) "start") (tCons (Uv.tAtt K (tVar 0) "rises") (tCons (tVar 3) tNil)))))) (gName 5))
    (C8.tCut (tIfS (tTest (tOp Uv.rLeU (tVar 5) (tC (.int 0)))) (tRet (tC .non)) tNext)
    (tSeq (tAsg (tOp (Uv.rAddU K) (tOp Uv.rFdvU (tOp Uv.rSubU (tVar 3) (tCall (sp_low_edge K Z) [] E0 (tCons (Uv.tAtt K (tVar 0) "rises") (tCons (tVar 3) tNil)))) (tVar 5)) (tC (.int 1))) (gName 6))
    (tSeq (tAsg (tCB Uv.rMin2 (tCons (tCB Uv.rInt (tCons (tVar 6) tNil)) (tCons (tOp Uv.rSubU (tC (.int 0)) (tOp Uv.rFdvU (tOp Uv.rSubU (tVar 2) (tVar 3)) (tVar 5))) tNil))) (gName 6))
    (tSeq (tAsg (tOp Uv.rSubU (tVar 3) (tOp Uv.rMulU (tVar 5) (tVar 6))) (gName 3))
    (tAsg (tOp (Uv.rAddU K) (tVar 4) (tVar 6)) (gName 4))))))))
    (tRet (tVar 4))))))
def sp_rounds_down (K : PySem.W.Frag) (Z : Ad) : Sp := fun vs H Q _ => ∃ (p : Addr) (nd : Nd) (k : Option Int) (purse : Int), vs = [.ref p, vO k, .int purse] ∧ NeedAt K Z H p nd ∧ NdOk nd ∧ BdO k ∧ Bd purse ∧ ∀ r, DownOk nd k purse r → Q (vO r) H
section
variable {P : Program} {w : World} {K : PySem.W.Frag} {mg : Str → Option Value} {base : Heap} {Z : Ad} {f : Addr} {fd : FuncData}
theorem pure_rounds_down (T : TK K Z) (vs : List V) (H : Hp) (Q : VK) (E : XK) (h : sp_rounds_down K Z vs H Q E) : t_rounds_down K Z { nx := fun _ H' => Q .non H', rt := Q } (L2.start ["need", "k", "purse", "value", "count", "drop", "steps"] vs) H := by
  obtain ⟨p, nd, k, purse, rfl, ⟨dx, a, xs, ho, hS, hP⟩, hN, hk, hp, hQ⟩ := h
  obtain ⟨cN, nS, nR, nN⟩ := T
  walk_at "in"
  unfold t_rounds_down
  walk_at "gf"
  refine r_cut (fun σ' H' => H' = H ∧ ∃ (v : Option Int) (c : Int), σ' = [some (.ref p), some (vO k), some (.int purse), some (vO v), some (.int c), none, none] ∧ ((v = none ∧ ∀ j, ¬ aff (it nd.f j k) purse) ∨ ∃ x, v = some x ∧ DInv nd k purse x c)) ?_ ?_
  · cases k with
    | some x =>
      have e : vO (some x) = V.int x := rfl
      rw [e]
      walk_at "gf"
      exact ⟨rfl, some x, 0, rfl, .inr ⟨x, rfl, ⟨Int.le_refl 0, rfl, fun j hj => absurd hj (by simp), hk x rfl⟩⟩⟩
    | none =>
      have e : vO none = V.non := rfl
      rw [e]
      walk_at "gf"
      refine ⟨rfl, nd.never, 1, rfl, ?_⟩
      cases hn : nd.never with
      | none =>
        refine .inl ⟨rfl, fun j => ?_⟩
        have q : it nd.f j none = none := by
          obtain ⟨s, rs, n⟩ := nd
          cases hn
          cases s with
          | none =>
            cases hN
            cases j with
            | zero => rfl
            | succ j => exact it_off j none
          | some s => exact it_none j
        rw [q]
        exact aff_none
      | some x =>
        refine .inr ⟨x, rfl, ⟨by decide, ?_, fun j hj => ?_, ?_⟩⟩
        · show it nd.f 1 none = some x
          rw [← hn]
          rfl
        · have : j = 0 := by
            have : j < 1 := hj
            omega
          subst this
          exact aff_none
        · cases hN with
          | off => cases hn
          | on _ _ h3 => exact h3 x hn
  · rintro σ' H' ⟨rfl, v, c, rfl, hv⟩
    refine r_cut (fun σ' H'' => H'' = H' ∧ ∃ (x c : Int), σ' = [some (.ref p), some (vO k), some (.int purse), some (.int x), some (.int c), none, none] ∧ DInv nd k purse x c) ?_ ?_
    · rcases hv with ⟨rfl, h0⟩ | ⟨x, rfl, h0⟩
      · have e : vO none = V.non := rfl
        rw [e]
        walk_at "gf"
        exact hQ none h0
      · have e : vO (some x) = V.int x := rfl
        rw [e]
        walk_at "gf"
        exact ⟨rfl, x, c, rfl, h0⟩
    · rintro σ' H'' ⟨rfl, x, c, rfl, h0⟩
      refine r_cut (fun σ' H2 => H2 = H'' ∧ ∃ (x c : Int) (b1 b2 : Option V), σ' = [some (.ref p), some (vO k), some (.int purse), some (.int x), some (.int c), b1, b2] ∧ DownOk nd k purse (some c)) ?_ ?_
      · refine r_while (fun m σ' H2 => H2 = H'' ∧ ∃ (x c : Int) (b1 b2 : Option V), σ' = [some (.ref p), some (vO k), some (.int purse), some (.int x), some (.int c), b1, b2] ∧ DInv nd k purse x c ∧ m = x.toNat) x.toNat ⟨rfl, x, c, none, none, rfl, h0, rfl⟩ ?_
        rintro m σ' H2 ⟨rfl, x, c, b1, b2, rfl, h0, rfl⟩
        walk_at "gf"
        walk_at "b"
        · rename_i hlt
          refine r_turn ?_
          obtain ⟨s, rs, n⟩ := nd
          cases s with
          | none =>
            cases hN
            walk_at "gf"
            have e : vO (Nd.start ⟨none, [], none⟩) = V.non := rfl
            rw [e]
            walk_at "gf"
            refine r_nocut ?_
            walk_at "gf"
            refine i_yes (by decide) ?_
            walk_at "gf"
            exact hQ none (h0.off hlt)
          | some s =>
            obtain ⟨hs, hw, hn⟩ : Bd s ∧ Wf (-1) rs ∧ BdO n := by
              cases hN with
              | on a b c => exact ⟨a, b, c⟩
            have bx := h0.bd
            walk_at "gf"
            have e : vO (Nd.start ⟨some s, rs, n⟩) = V.int s := rfl
            rw [e]
            walk_at "gf"
            refine ⟨s, x, a, xs, rs, rfl, hS, hP, ?_⟩
            walk_at "gf"
            refine r_nocut ?_
            walk_at "gf"
            walk_at "b"
            · rename_i hd
              walk_at "gf"
              exact hQ none (h0.stuck hw hlt (by omega))
            · rename_i hd
              have ge := val_ge (v := s) (k := x) hw
              unfold Bd at bx hp hs
              walk_at "gf"
              refine ⟨x, a, xs, rs, rfl, hS, hP, ?_⟩
              walk_at "gf"
              refine r_fdvI (by omega) (div_ok (by omega) (by omega)) ?_
              walk_at "gf"
              refine r_fdvI (by omega) (div_ok (by omega) (by omega)) ?_
              walk_at "gf"
              obtain ⟨d1, d2, d3, d4, d5⟩ := h0.step hs.1 hw hlt (x - valAt s rs x) _ rfl (by omega) rfl
              refine r_mulI (mul_ok (by omega) (by omega)) ?_
              walk_at "gf"
              have x0 := d1.bd.1
              exact ⟨_, by omega, rfl, _, _, _, _, rfl, d1, rfl⟩
        · rename_i hle
          walk_at "gf"
          exact ⟨rfl, x, c, b1, b2, rfl, h0.stop (by omega)⟩
      · rintro σ' H2 ⟨rfl, x, c, b1, b2, rfl, h0⟩
        walk_at "gf"
        exact hQ (some c) h0
theorem ok_rounds_down (T : TK K Z) (B : Blt mg) (c_value_at : C8.Cal P w K mg base 1 "value_at" (sp_value_at K Z) []) (c_low_edge : C8.Cal P w K mg base 1 "low_edge" (sp_low_edge K Z) []) (F : FnP K "rounds_down" "rounds_down" s_rounds_down f fd) : FnOk P w K mg base CX0 2 f fd ["need", "k", "purse"] (sp_rounds_down K Z) := by
  have nd := sc_rounds_down.nd
  refine F.ok sc_rounds_down (fun vs H Q E h => ?_) (fun cdv A outer s H vs Q E hr h => ⟨t_rounds_down K Z, PSs.nox (pss_cons (ps_par (i := 3) (j := 4) rfl nd rfl rfl (by decide) rfl rfl (pa_cons (pv 1) (pa_cons pe_int pa_nil)) (by rfl))
      (C8.pss_cut (ps_if (pt_cmpR Uv.u_is (pv 3) pe_non (nomark _)) (pss_one (ps_par (i := 3) (j := 4) rfl nd rfl rfl (by decide) rfl rfl (pa_cons (Uv.pe_att (pv 0) rfl) (pa_cons pe_int pa_nil)) (by rfl))) pss_nil)
      (C8.pss_cut (ps_if (pt_cmpR Uv.u_is (pv 3) pe_non (nomark _)) (pss_one (ps_ret pe_non)) pss_nil)
      (C8.pss_cut (ps_while PassesOwn.never (pt_cmpR Uv.u_gt (pv 3) (pv 2) (nomark _)) (pss_cons (ps_set (i := 5) nd rfl (by first | exact Or.inl rfl | exact Or.inr rfl) (pe_ifExp (pt_cmpR Uv.u_is (Uv.pe_att (pv 0) rfl) pe_non (nomark _)) pe_int (pe_op Uv.u_sub (pv 3) (C8.pe_c c_value_at hr (by decide) rfl (pa_cons (Uv.pe_att (pv 0) rfl) (pa_cons (Uv.pe_att (pv 0) rfl) (pa_cons (pv 3) pa_nil)))))))
      (C8.pss_cut (ps_if (pt_cmpR Uv.u_le (pv 5) pe_int (nomark _)) (pss_one (ps_ret pe_non)) pss_nil)
      (pss_cons (ps_set (i := 6) nd rfl (by first | exact Or.inl rfl | exact Or.inr rfl) (pe_op Uv.u_add (pe_op Uv.u_fdv (pe_op Uv.u_sub (pv 3) (C8.pe_c c_low_edge hr (by decide) rfl (pa_cons (Uv.pe_att (pv 0) rfl) (pa_cons (pv 3) pa_nil)))) (pv 5)) pe_int))
      (pss_cons (ps_set (i := 6) nd rfl (by first | exact Or.inl rfl | exact Or.inr rfl) (pe_callB (call_min2 rfl) (by rfl) (B.at "min") (by decide +kernel) (pa_cons (pe_callTy Uv.cb_int (by rfl) (B.at "int") (by decide +kernel) (pa_cons (pv 6) pa_nil)) (pa_cons (pe_op Uv.u_sub pe_int (pe_op Uv.u_fdv (pe_op Uv.u_sub (pv 2) (pv 3)) (pv 5))) pa_nil))))
      (pss_cons (ps_set (i := 3) nd rfl (by first | exact Or.inl rfl | exact Or.inr rfl) (pe_op Uv.u_sub (pv 3) (pe_op Uv.u_mul (pv 5) (pv 6))))
      (pss_one (ps_set (i := 4) nd rfl (by first | exact Or.inl rfl | exact Or.inr rfl) (pe_op Uv.u_add (pv 4) (pv 6))))))))))
      (pss_one (ps_ret (pv 4))))))), pure_rounds_down T vs H Q E h⟩)
  unfold sp_rounds_down at h
  (repeat (obtain ⟨_, h⟩ := h)); all_goals (subst_vars; rfl)
end
abbrev s_rounds_up : Stmt := (top 19)
theorem sc_rounds_up : FnScope ["need", "k", "purse", "value", "count", "gain", "steps", "edge"] ["need", "k", "purse"] (defScope s_rounds_up) := ⟨rfl, rfl, rfl, by decide +kernel, rfl, by decide +kernel, by decide +kernel⟩
def t_rounds_up (K : PySem.W.Frag) (Z : Ad) : TS :=
    (C8.tCut (tIfS (tTest (tOp Uv.rIsU (tVar 1) (tC .non))) (tRet (tC (.int 0))) tNext)
    (tSeq (tPar 3 4 (tCons (tVar 1) (tCons (tC (.int 0)) tNil)))
    (C8.tCut (tWhile (tTest (tOp Uv.rLeU (tVar 3) (tVar 2))) (C8.tCut (tIfS (tTest (tOp Uv.rIsU (Uv.tAtt K (tVar 0) "start") (tC .non))) (tRet (tOp (Uv.rAddU K) (tVar 4) (tC (.int 1)))) tNext)
    (tSeq (tAsg (tOp Uv.rSubU (tCall (sp_value_at K Z) [] E0 (tCons (Uv.tAtt K (tVar 0) "start") (tCons (Uv.tAtt K (tVar 0) "rises") (tCons (tVar 3) tNil)))) (tVar 3)) (gName 5))
    (C8.tCut (tIfS (tTest (tOp Uv.rLeU (tVar 5) (tC (.int 0)))) (tRet (tC .non)) tNext)
    (tSeq (tAsg (tOp (Uv.rAddU K) (tOp Uv.rFdvU (tOp Uv.rSubU (tVar 2) (tVar 3)) (tVar 5)) (tC (.int 1))) (gName 6))
    (tSeq (tAsg (tCall (sp_high_edge K Z) [] E0 (tCons (Uv.tAtt K (tVar 0) "rises") (tCons (tVar 3) tNil))) (gName 7))
    (C8.tCut (tIfS (tTest (tOp Uv.rNotU (tVar 7) (tC .non))) (tAsg (tCB Uv.rMin2 (tCons (tCB Uv.rInt (tCons (tVar 6) tNil)) (tCons (tOp (Uv.rAddU K) (tOp Uv.rFdvU (tOp Uv.rSubU (tVar 7) (tVar 3)) (tVar 5)) (tC (.int 1))) tNil))) (gName 6)) tNext)
    (tSeq (tAsg (tOp (Uv.rAddU K) (tVar 3) (tOp Uv.rMulU (tVar 5) (tVar 6))) (gName 3))
    (tAsg (tOp (Uv.rAddU K) (tVar 4) (tVar 6)) (gName 4))))))))))
    (tRet (tVar 4)))))
abbrev s_lowest_of : Stmt := (top 16)
theorem sc_lowest_of : FnScope ["need", "k", "limit", "value", "left", "drop", "steps"] ["need", "k", "limit"] (defScope s_lowest_of) := ⟨rfl, rfl, rfl, by decide +kernel, rfl, by decide +kernel, by decide +kernel⟩
def t_lowest_of (K : PySem.W.Frag) (Z : Ad) : TS :=
    (tSeq (tPar 3 4 (tCons (tVar 1) (tCons (tVar 2) tNil)))
    (C8.tCut (tIfS (tAnd (tTest (tOp Uv.rIsU (tVar 3) (tC .non))) (tTest (tOp Uv.rGtU (tVar 4) (tC (.int 0))))) (tPar 3 4 (tCons (Uv.tAtt K (tVar 0) "never") (tCons (tOp Uv.rSubU (tVar 4) (tC (.int 1))) tNil))) tNext)
    (C8.tCut (tIfS (tOr (tTest (tOp Uv.rIsU (tVar 3) (tC .non))) (tTest (tOp Uv.rIsU (Uv.tAtt K (tVar 0) "start") (tC .non)))) (tRet (tVar 3)) tNext)
    (C8.tCut (tWhile (tTest (tOp Uv.rGtU (tVar 4) (tC (.int 0)))) (tSeq (tAsg (tOp Uv.rSubU (tVar 3) (tCall (sp_value_at K Z) [] E0 (tCons (Uv.tAtt K (tVar 0) "start") (tCons (Uv.tAtt K (tVar 0) "rises") (tCons (tVar 3) tNil))))) (gName 5))
    (C8.tCut (tIfS (tTest (tOp Uv.rLeU (tVar 5) (tC (.int 0)))) tBreak tNext)
    (tSeq (tAsg (tCB Uv.rMin2 (tCons (tCB Uv.rInt (tCons (tVar 4) tNil)) (tCons (tOp (Uv.rAddU K) (tOp Uv.rFdvU (tOp Uv.rSubU (tVar 3) (tCall (sp_low_edge K Z) [] E0 (tCons (Uv.tAtt K (tVar 0) "rises") (tCons (tVar 3) tNil)))) (tVar 5)) (tC (.int 1))) tNil))) (gName 6))
    (tSeq (tAsg (tOp Uv.rSubU (tVar 3) (tOp Uv.rMulU (tVar 5) (tVar 6))) (gName 3))
    (tAsg (tOp Uv.rSubU (tVar 4) (tVar 6)) (gName 4)))))))
    (tRet (tVar 3))))))
abbrev s_highest_of : Stmt := (top 17)
theorem sc_highest_of : FnScope ["need", "k", "limit", "value", "left", "gain", "edge", "steps"] ["need", "k", "limit"] (defScope s_highest_of) := ⟨rfl, rfl, rfl, by decide +kernel, rfl, by decide +kernel, by decide +kernel⟩
def t_highest_of (K : PySem.W.Frag) (Z : Ad) : TS :=
    (C8.tCut (tIfS (tOr (tTest (tOp Uv.rIsU (tVar 1) (tC .non))) (tTest (tOp (Uv.rEqU K) (tVar 2) (tC (.int 0))))) (tRet (tVar 1)) tNext)
    (C8.tCut (tIfS (tTest (tOp Uv.rIsU (Uv.tAtt K (tVar 0) "start") (tC .non))) (tRet (tC .non)) tNext)
    (tSeq (tPar 3 4 (tCons (tVar 1) (tCons (tVar 2) tNil)))
    (C8.tCut (tWhile (tTest (tOp Uv.rGtU (tVar 4) (tC (.int 0)))) (tSeq (tAsg (tOp Uv.rSubU (tCall (sp_value_at K Z) [] E0 (tCons (Uv.tAtt K (tVar 0) "start") (tCons (Uv.tAtt K (tVar 0) "rises") (tCons (tVar 3) tNil)))) (tVar 3)) (gName 5))
    (C8.tCut (tIfS (tTest (tOp Uv.rLeU (tVar 5) (tC (.int 0)))) tBreak tNext)
    (tSeq (tAsg (tCall (sp_high_edge K Z) [] E0 (tCons (Uv.tAtt K (tVar 0) "rises") (tCons (tVar 3) tNil))) (gName 6))
    (tSeq (tAsg (tIf (tTest (tOp Uv.rIsU (tVar 6) (tC .non))) (tVar 4) (tCB Uv.rMin2 (tCons (tCB Uv.rInt (tCons (tVar 4) tNil)) (tCons (tOp (Uv.rAddU K) (tOp Uv.rFdvU (tOp Uv.rSubU (tVar 6) (tVar 3)) (tVar 5)) (tC (.int 1))) tNil)))) (gName 7))
    (tSeq (tAsg (tOp (Uv.rAddU K) (tVar 3) (tOp Uv.rMulU (tVar 5) (tVar 7))) (gName 3))
    (tAsg (tOp Uv.rSubU (tVar 4) (tVar 7)) (gName 4))))))))
    (tRet (tVar 3))))))
def sp_rounds_up (K : PySem.W.Frag) (Z : Ad) : Sp := fun vs H Q _ => ∃ (p : Addr) (nd : Nd) (k : Option Int) (purse : Int), vs = [.ref p, vO k, .int purse] ∧ NeedAt K Z H p nd ∧ NdOk nd ∧ BdO k ∧ Bd purse ∧ ∀ r, UpOk nd k purse r → Q (vO r) H
def sp_lowest_of (K : PySem.W.Frag) (Z : Ad) : Sp := fun vs H Q _ => ∃ (p : Addr) (nd : Nd) (k : Option Int) (l : Int), vs = [.ref p, vO k, .int l] ∧ NeedAt K Z H p nd ∧ NdOk nd ∧ BdO k ∧ Bd l ∧ ∀ r, LeastO nd k l.toNat r → Q (vO r) H
def sp_highest_of (K : PySem.W.Frag) (Z : Ad) : Sp := fun vs H Q _ => ∃ (p : Addr) (nd : Nd) (k : Option Int) (l : Int), vs = [.ref p, vO k, .int l] ∧ NeedAt K Z H p nd ∧ NdOk nd ∧ BdO k ∧ Bd l ∧ ∀ r, MostO nd k l.toNat r → Q (vO r) H
theorem vO_none : vO none = V.non := rfl
theorem vO_some (x : Int) : vO (some x) = V.int x := rfl
section
variable {P : Program} {w : World} {K : PySem.W.Frag} {mg : Str → Option Value} {base : Heap} {Z : Ad} {f : Addr} {fd : FuncData}
theorem pure_rounds_up (T : TK K Z) (vs : List V) (H : Hp) (Q : VK) (E : XK) (h : sp_rounds_up K Z vs H Q E) : t_rounds_up K Z { nx := fun _ H' => Q .non H', rt := Q } (L2.start ["need", "k", "purse", "value", "count", "gain", "steps", "edge"] vs) H := by
  obtain ⟨p, nd, k, purse, rfl, ⟨dx, a, xs, ho, hS, hP⟩, hN, hk, hp, hQ⟩ := h
  obtain ⟨cN, nS, nR, nN⟩ := T
  walk_at "in"
  unfold t_rounds_up
  refine r_nocut ?_
  walk_at "gf"
  cases k with
  | none =>
    rw [vO_none]
    walk_at "gf"
    exact hQ (some 0) ⟨Int.le_refl 0, aff_none, fun j hj => absurd hj (by simp)⟩
  | some k =>
    rw [vO_some]
    walk_at "gf"
    have bk := hk k rfl
    refine r_cut (fun σ' H2 => H2 = H ∧ ∃ (x c : Int) (b1 b2 b3 : Option V), σ' = [some (.ref p), some (.int k), some (.int purse), some (.int x), some (.int c), b1, b2, b3] ∧ UpOk nd (some k) purse (some c)) ?_ ?_
    · refine r_while (fun m σ' H2 => H2 = H ∧ ∃ (x c : Int) (b1 b2 b3 : Option V), σ' = [some (.ref p), some (.int k), some (.int purse), some (.int x), some (.int c), b1, b2, b3] ∧ UInv nd (some k) purse x c ∧ m = (purse + 1 - x).toNat) (purse + 1 - k).toNat ⟨rfl, k, 0, none, none, none, rfl, ⟨Int.le_refl 0, rfl, fun j hj => absurd hj (by simp), bk.1⟩, rfl⟩ ?_
      rintro m σ' H2 ⟨rfl, x, c, b1, b2, b3, rfl, h0, rfl⟩
      walk_at "gf"
      walk_at "b"
      · rename_i hle
        refine r_turn ?_
        refine r_nocut ?_
        obtain ⟨s, rs, n⟩ := nd
        cases s with
        | none =>
          cases hN
          walk_at "gf"
          rw [show vO (Nd.start ⟨none, [], none⟩) = V.non from rfl]
          walk_at "gf"
          exact hQ (some (c + 1)) (h0.off hle)
        | some s =>
          obtain ⟨hs, hw, hn⟩ : Bd s ∧ Wf (-1) rs ∧ BdO n := by
            cases hN with
            | on a b c => exact ⟨a, b, c⟩
          walk_at "gf"
          rw [show vO (Nd.start ⟨some s, rs, n⟩) = V.int s from rfl]
          walk_at "gf"
          refine ⟨s, x, a, xs, rs, rfl, hS, hP, ?_⟩
          walk_at "gf"
          refine r_nocut ?_
          walk_at "gf"
          walk_at "b"
          · rename_i hd
            walk_at "gf"
            exact hQ none (h0.stuck hw hle (by omega))
          · rename_i hd
            have ge := (val_ge (v := s) (k := x) hw).2 h0.v0
            have x0 := h0.v0
            unfold Bd at hp hs
            walk_at "gf"
            refine r_fdvI (by omega) (div_ok (by omega) (by omega)) ?_
            walk_at "gf"
            refine ⟨x, a, xs, rs, rfl, hS, hP, ?_⟩
            walk_at "gf"
            cases he : highEdge rs x with
            | none =>
              rw [vO_none]
              refine r_nocut ?_
              walk_at "gf"
              obtain ⟨d1, d2, d3, d4, d5⟩ := h0.step hw hle (valAt s rs x - x) ((purse - x) / (valAt s rs x - x) + 1) rfl (by omega) (.inl ⟨he, rfl⟩)
              refine r_mulI (mul_ok (by omega) (by omega)) ?_
              walk_at "gf"
              exact ⟨_, by omega, rfl, _, _, _, _, _, rfl, d1, rfl⟩
            | some e =>
              rw [vO_some]
              refine r_nocut ?_
              walk_at "gf"
              refine r_fdvI (by omega) (div_ok (by omega) (by omega)) ?_
              walk_at "gf"
              obtain ⟨d1, d2, d3, d4, d5⟩ := h0.step hw hle (valAt s rs x - x) _ rfl (by omega) (.inr ⟨e, he, rfl⟩)
              refine r_mulI (mul_ok (by omega) (by omega)) ?_
              walk_at "gf"
              exact ⟨_, by omega, rfl, _, _, _, _, _, rfl, d1, rfl⟩
      · rename_i hle
        walk_at "gf"
        exact ⟨rfl, x, c, b1, b2, b3, rfl, h0.stop (by omega)⟩
    · rintro σ' H2 ⟨rfl, x, c, b1, b2, b3, rfl, h0⟩
      walk_at "gf"
      exact hQ (some c) h0
theorem ok_rounds_up (T : TK K Z) (B : Blt mg) (c_high_edge : C8.Cal P w K mg base 1 "high_edge" (sp_high_edge K Z) []) (c_value_at : C8.Cal P w K mg base 1 "value_at" (sp_value_at K Z) []) (F : FnP K "rounds_up" "rounds_up" s_rounds_up f fd) : FnOk P w K mg base CX0 2 f fd ["need", "k", "purse"] (sp_rounds_up K Z) := by
  have nd := sc_rounds_up.nd
  refine F.ok sc_rounds_up (fun vs H Q E h => ?_) (fun cdv A outer s H vs Q E hr h => ⟨t_rounds_up K Z, PSs.nox (C8.pss_cut (ps_if (pt_cmpR Uv.u_is (pv 1) pe_non (nomark _)) (pss_one (ps_ret pe_int)) pss_nil)
      (pss_cons (ps_par (i := 3) (j := 4) rfl nd rfl rfl (by decide) rfl rfl (pa_cons (pv 1) (pa_cons pe_int pa_nil)) (by rfl))
      (C8.pss_cut (ps_while PassesOwn.never (pt_cmpR Uv.u_le (pv 3) (pv 2) (nomark _)) (C8.pss_cut (ps_if (pt_cmpR Uv.u_is (Uv.pe_att (pv 0) rfl) pe_non (nomark _)) (pss_one (ps_ret (pe_op Uv.u_add (pv 4) pe_int))) pss_nil)
      (pss_cons (ps_set (i := 5) nd rfl (by first | exact Or.inl rfl | exact Or.inr rfl) (pe_op Uv.u_sub (C8.pe_c c_value_at hr (by decide) rfl (pa_cons (Uv.pe_att (pv 0) rfl) (pa_cons (Uv.pe_att (pv 0) rfl) (pa_cons (pv 3) pa_nil)))) (pv 3)))
      (C8.pss_cut (ps_if (pt_cmpR Uv.u_le (pv 5) pe_int (nomark _)) (pss_one (ps_ret pe_non)) pss_nil)
      (pss_cons (ps_set (i := 6) nd rfl (by first | exact Or.inl rfl | exact Or.inr rfl) (pe_op Uv.u_add (pe_op Uv.u_fdv (pe_op Uv.u_sub (pv 2) (pv 3)) (pv 5)) pe_int))
      (pss_cons (ps_set (i := 7) nd rfl (by first | exact Or.inl rfl | exact Or.inr rfl) (C8.pe_c c_high_edge hr (by decide) rfl (pa_cons (Uv.pe_att (pv 0) rfl) (pa_cons (pv 3) pa_nil))))
      (C8.pss_cut (ps_if (pt_cmpR Uv.u_isnot (pv 7) pe_non (nomark _)) (pss_one (ps_set (i := 6) nd rfl (by first | exact Or.inl rfl | exact Or.inr rfl) (pe_callB (call_min2 rfl) (by rfl) (B.at "min") (by decide +kernel) (pa_cons (pe_callTy Uv.cb_int (by rfl) (B.at "int") (by decide +kernel) (pa_cons (pv 6) pa_nil)) (pa_cons (pe_op Uv.u_add (pe_op Uv.u_fdv (pe_op Uv.u_sub (pv 7) (pv 3)) (pv 5)) pe_int) pa_nil))))) pss_nil)
      (pss_cons (ps_set (i := 3) nd rfl (by first | exact Or.inl rfl | exact Or.inr rfl) (pe_op Uv.u_add (pv 3) (pe_op Uv.u_mul (pv 5) (pv 6))))
      (pss_one (ps_set (i := 4) nd rfl (by first | exact Or.inl rfl | exact Or.inr rfl) (pe_op Uv.u_add (pv 4) (pv 6))))))))))))
      (pss_one (ps_ret (pv 4)))))), pure_rounds_up T vs H Q E h⟩)
  unfold sp_rounds_up at h
  (repeat (obtain ⟨_, h⟩ := h)); all_goals (subst_vars; rfl)
theorem pure_lowest_of (T : TK K Z) (vs : List V) (H : Hp) (Q : VK) (E : XK) (h : sp_lowest_of K Z vs H Q E) : t_lowest_of K Z { nx := fun _ H' => Q .non H', rt := Q } (L2.start ["need", "k", "limit", "value", "left", "drop", "steps"] vs) H := by
  obtain ⟨p, nd, k, l, rfl, ⟨dx, a, xs, ho, hS, hP⟩, hN, hk, hl, hQ⟩ := h
  obtain ⟨cN, nS, nR, nN⟩ := T
  walk_at "in"
  unfold t_lowest_of
  walk_at "gf"
  refine r_cut (fun σ' H2 => H2 = H ∧ ∃ (v : Option Int) (m : Int), σ' = [some (.ref p), some (vO k), some (.int l), some (vO v), some (.int m), none, none] ∧ BdO v ∧ 0 ≤ m ∧ m ≤ l ∧ (v = none → nd.never = none ∨ m = 0) ∧ ∀ r, LeastO nd v m.toNat r → LeastO nd k l.toNat r) ?_ ?_
  · cases k with
    | some k =>
      rw [vO_some]
      walk_at "gf"
      exact ⟨rfl, some k, l, rfl, hk, hl.1, Int.le_refl l, fun z => (nomatch z), fun r h => h⟩
    | none =>
      rw [vO_none]
      walk_at "gf"
      walk_at "b"
      · rename_i h0
        walk_at "gf"
        refine ⟨rfl, nd.never, l - 1, rfl, ?_, by omega, by omega, fun z => .inl z, fun r h => ?_⟩
        · cases hN with
          | off => intro y z; cases z
          | on _ _ c => exact c
        · have e : l.toNat = (l - 1).toNat + 1 := by omega
          rw [e]
          exact least_none h
      · rename_i h0
        walk_at "gf"
        exact ⟨rfl, none, l, rfl, fun y z => (nomatch z), hl.1, Int.le_refl l, fun _ => .inr (by have := hl.1; omega), fun r h => h⟩
  · rintro σ' H2 ⟨rfl, v, m, rfl, hv, m0, ml, hvn, hr⟩
    refine r_nocut ?_
    cases v with
    | none =>
      rw [vO_none]
      walk_at "gf"
      refine hQ none (hr none ?_)
      rcases hvn rfl with q | q
      · exact least_nones hN q
      · subst q
        exact least_zero
    | some v =>
      rw [vO_some]
      walk_at "gf"
      obtain ⟨s, rs, n⟩ := nd
      cases s with
      | none =>
        cases hN
        rw [show vO (Nd.start ⟨none, [], none⟩) = V.non from rfl]
        walk_at "gf"
        exact hQ (some v) (hr _ least_off)
      | some s =>
        obtain ⟨hs, hw, hn⟩ : Bd s ∧ Wf (-1) rs ∧ BdO n := by
          cases hN with
          | on a b c => exact ⟨a, b, c⟩
        rw [show vO (Nd.start ⟨some s, rs, n⟩) = V.int s from rfl]
        walk_at "gf"
        refine r_cut (fun σ' H3 => H3 = H2 ∧ ∃ (x c : Int) (b1 b2 : Option V), σ' = [some (.ref p), some (vO k), some (.int l), some (.int x), some (.int c), b1, b2] ∧ Least (valAt s rs) v m.toNat x) ?_ ?_
        · refine r_while (fun q σ' H3 => H3 = H2 ∧ ∃ (x c : Int) (b1 b2 : Option V), σ' = [some (.ref p), some (vO k), some (.int l), some (.int x), some (.int c), b1, b2] ∧ LInv s rs v m x c ∧ q = c.toNat) m.toNat ⟨rfl, v, m, none, none, rfl, ⟨⟨m0, Int.le_refl m⟩, by rw [Int.sub_self]; rfl, fun j hj => ?_, hv v rfl⟩, rfl⟩ ?_
          · have : j = 0 := by omega
            subst this
            exact Int.le_refl v
          rintro q σ' H3 ⟨rfl, x, c, b1, b2, rfl, h0, rfl⟩
          walk_at "gf"
          walk_at "b"
          · rename_i hlt
            refine r_turn ?_
            have bx := h0.bd
            walk_at "gf"
            rw [show vO (Nd.start ⟨some s, rs, n⟩) = V.int s from rfl]
            walk_at "gf"
            refine ⟨s, x, a, xs, rs, rfl, hS, hP, ?_⟩
            walk_at "gf"
            refine r_nocut ?_
            walk_at "gf"
            walk_at "b"
            · rename_i hd
              walk_at "gf"
              exact ⟨rfl, x, c, _, _, rfl, h0.stop hw (.inr (by omega))⟩
            · rename_i hd
              have ge := val_ge (v := s) (k := x) hw
              unfold Bd at bx hs hl
              walk_at "gf"
              refine ⟨x, a, xs, rs, rfl, hS, hP, ?_⟩
              walk_at "gf"
              refine r_fdvI (by omega) (div_ok (by omega) (by omega)) ?_
              walk_at "gf"
              obtain ⟨d1, d2, d3, d4, d5⟩ := h0.step hs.1 hw hlt (x - valAt s rs x) _ rfl (by omega) rfl
              refine r_mulI (mul_ok (by omega) (by omega)) ?_
              walk_at "gf"
              have c0 := d1.l0.1
              exact ⟨_, by omega, rfl, _, _, _, _, rfl, d1, rfl⟩
          · rename_i hle
            walk_at "gf"
            have l0 := h0.l0
            exact ⟨rfl, x, c, b1, b2, rfl, h0.stop hw (.inl (by omega))⟩
        · rintro σ' H3 ⟨rfl, x, c, b1, b2, rfl, h0⟩
          walk_at "gf"
          exact hQ (some x) (hr _ (least_some h0))
theorem ok_lowest_of (T : TK K Z) (B : Blt mg) (c_value_at : C8.Cal P w K mg base 1 "value_at" (sp_value_at K Z) []) (c_low_edge : C8.Cal P w K mg base 1 "low_edge" (sp_low_edge K Z) []) (F : FnP K "lowest_of" "lowest_of" s_lowest_of f fd) : FnOk P w K mg base CX0 2 f fd ["need", "k", "limit"] (sp_lowest_of K Z) := by
  have nd := sc_lowest_of.nd
  refine F.ok sc_lowest_of (fun vs H Q E h => ?_) (fun cdv A outer s H vs Q E hr h => ⟨t_lowest_of K Z, PSs.nox (pss_cons (ps_par (i := 3) (j := 4) rfl nd rfl rfl (by decide) rfl rfl (pa_cons (pv 1) (pa_cons (pv 2) pa_nil)) (by rfl))
      (C8.pss_cut (ps_if (PW.pt (pw_and (pt_cmpR Uv.u_is (pv 3) pe_non (nomark _)) (pw_and1 (pt_cmpR Uv.u_gt (pv 4) pe_int (nomark _))))) (pss_one (ps_par (i := 3) (j := 4) rfl nd rfl rfl (by decide) rfl rfl (pa_cons (Uv.pe_att (pv 0) rfl) (pa_cons (pe_op Uv.u_sub (pv 4) pe_int) pa_nil)) (by rfl))) pss_nil)
      (C8.pss_cut (ps_if (PW.pt (pw_or (pt_cmpR Uv.u_is (pv 3) pe_non (nomark _)) (pw_or1 (pt_cmpR Uv.u_is (Uv.pe_att (pv 0) rfl) pe_non (nomark _))))) (pss_one (ps_ret (pv 3))) pss_nil)
      (C8.pss_cut (ps_while PassesOwn.never (pt_cmpR Uv.u_gt (pv 4) pe_int (nomark _)) (pss_cons (ps_set (i := 5) nd rfl (by first | exact Or.inl rfl | exact Or.inr rfl) (pe_op Uv.u_sub (pv 3) (C8.pe_c c_value_at hr (by decide) rfl (pa_cons (Uv.pe_att (pv 0) rfl) (pa_cons (Uv.pe_att (pv 0) rfl) (pa_cons (pv 3) pa_nil))))))
      (C8.pss_cut (ps_if (pt_cmpR Uv.u_le (pv 5) pe_int (nomark _)) (pss_one ps_break) pss_nil)
      (pss_cons (ps_set (i := 6) nd rfl (by first | exact Or.inl rfl | exact Or.inr rfl) (pe_callB (call_min2 rfl) (by rfl) (B.at "min") (by decide +kernel) (pa_cons (pe_callTy Uv.cb_int (by rfl) (B.at "int") (by decide +kernel) (pa_cons (pv 4) pa_nil)) (pa_cons (pe_op Uv.u_add (pe_op Uv.u_fdv (pe_op Uv.u_sub (pv 3) (C8.pe_c c_low_edge hr (by decide) rfl (pa_cons (Uv.pe_att (pv 0) rfl) (pa_cons (pv 3) pa_nil)))) (pv 5)) pe_int) pa_nil))))
      (pss_cons (ps_set (i := 3) nd rfl (by first | exact Or.inl rfl | exact Or.inr rfl) (pe_op Uv.u_sub (pv 3) (pe_op Uv.u_mul (pv 5) (pv 6))))
      (pss_one (ps_set (i := 4) nd rfl (by first | exact Or.inl rfl | exact Or.inr rfl) (pe_op Uv.u_sub (pv 4) (pv 6)))))))))
      (pss_one (ps_ret (pv 3))))))), pure_lowest_of T vs H Q E h⟩)
  unfold sp_lowest_of at h
  (repeat (obtain ⟨_, h⟩ := h)); all_goals (subst_vars; rfl)
theorem pure_highest_of (T : TK K Z) (vs : List V) (H : Hp) (Q : VK) (E : XK) (h : sp_highest_of K Z vs H Q E) : t_highest_of K Z { nx := fun _ H' => Q .non H', rt := Q } (L2.start ["need", "k", "limit", "value", "left", "gain", "edge", "steps"] vs) H := by
  obtain ⟨p, nd, k, l, rfl, ⟨dx, a, xs, ho, hS, hP⟩, hN, hk, hl, hQ⟩ := h
  obtain ⟨cN, nS, nR, nN⟩ := T
  walk_at "in"
  unfold t_highest_of
  refine r_nocut ?_
  walk_at "gf"
  cases k with
  | none =>
    rw [vO_none]
    walk_at "gf"
    exact hQ none most_none
  | some k =>
    rw [vO_some]
    walk_at "gf"
    walk_at "b"
    · rename_i h0
      walk_at "gf"
      subst h0
      exact hQ (some k) most_zero
    · rename_i h0
      walk_at "gf"
      refine r_nocut ?_
      walk_at "gf"
      obtain ⟨s, rs, n⟩ := nd
      cases s with
      | none =>
        cases hN
        rw [show vO (Nd.start ⟨none, [], none⟩) = V.non from rfl]
        walk_at "gf"
        have l0 := hl.1
        exact hQ none (most_off (by omega))
      | some s =>
        obtain ⟨hs, hw, hn⟩ : Bd s ∧ Wf (-1) rs ∧ BdO n := by
          cases hN with
          | on a b c => exact ⟨a, b, c⟩
        rw [show vO (Nd.start ⟨some s, rs, n⟩) = V.int s from rfl]
        walk_at "gf"
        have bk := hk k rfl
        refine r_cut (fun σ' H3 => H3 = H ∧ ∃ (x c : Int) (b1 b2 b3 : Option V), σ' = [some (.ref p), some (.int k), some (.int l), some (.int x), some (.int c), b1, b2, b3] ∧ Most (valAt s rs) k l.toNat x) ?_ ?_
        · refine r_while (fun q σ' H3 => H3 = H ∧ ∃ (x c : Int) (b1 b2 b3 : Option V), σ' = [some (.ref p), some (.int k), some (.int l), some (.int x), some (.int c), b1, b2, b3] ∧ HInv s rs k l x c ∧ q = c.toNat) l.toNat ⟨rfl, k, l, none, none, none, rfl, ⟨⟨hl.1, Int.le_refl l⟩, by rw [Int.sub_self]; rfl, fun j hj => ?_, bk.1⟩, rfl⟩ ?_
          · have : j = 0 := by omega
            subst this
            exact Int.le_refl k
          rintro q σ' H3 ⟨rfl, x, c, b1, b2, b3, rfl, h0, rfl⟩
          walk_at "gf"
          walk_at "b"
          · rename_i hlt
            refine r_turn ?_
            walk_at "gf"
            rw [show vO (Nd.start ⟨some s, rs, n⟩) = V.int s from rfl]
            walk_at "gf"
            refine ⟨s, x, a, xs, rs, rfl, hS, hP, ?_⟩
            walk_at "gf"
            refine r_nocut ?_
            walk_at "gf"
            walk_at "b"
            · rename_i hd
              walk_at "gf"
              exact ⟨rfl, x, c, _, _, _, rfl, h0.stop hw (.inr (by omega))⟩
            · rename_i hd
              have ge := (val_ge (v := s) (k := x) hw).2 h0.v0
              have l0 := h0.l0
              unfold Bd at hs hl
              walk_at "gf"
              refine ⟨x, a, xs, rs, rfl, hS, hP, ?_⟩
              walk_at "gf"
              cases he : highEdge rs x with
              | none =>
                rw [vO_none]
                walk_at "gf"
                obtain ⟨d1, d2, d3, d4, d5⟩ := h0.step hw hlt (valAt s rs x - x) c rfl (by omega) (.inl ⟨he, rfl⟩)
                refine r_mulI (mul_ok (by omega) (by omega)) ?_
                walk_at "gf"
                have c0 := d1.l0.1
                exact ⟨_, by omega, rfl, _, _, _, _, _, rfl, d1, rfl⟩
              | some e =>
                rw [vO_some]
                walk_at "gf"
                refine r_fdvI (by omega) (div_ok (by omega) (by omega)) ?_
                walk_at "gf"
                obtain ⟨d1, d2, d3, d4, d5⟩ := h0.step hw hlt (valAt s rs x - x) _ rfl (by omega) (.inr ⟨e, he, rfl⟩)
                refine r_mulI (mul_ok (by omega) (by omega)) ?_
                walk_at "gf"
                have c0 := d1.l0.1
                exact ⟨_, by omega, rfl, _, _, _, _, _, rfl, d1, rfl⟩
          · rename_i hle
            walk_at "gf"
            have l0 := h0.l0
            exact ⟨rfl, x, c, b1, b2, b3, rfl, h0.stop hw (.inl (by omega))⟩
        · rintro σ' H3 ⟨rfl, x, c, b1, b2, b3, rfl, h0⟩
          walk_at "gf"
          exact hQ (some x) (most_some h0)
theorem ok_highest_of (T : TK K Z) (B : Blt mg) (c_high_edge : C8.Cal P w K mg base 1 "high_edge" (sp_high_edge K Z) []) (c_value_at : C8.Cal P w K mg base 1 "value_at" (sp_value_at K Z) []) (F : FnP K "highest_of" "highest_of" s_highest_of f fd) : FnOk P w K mg base CX0 2 f fd ["need", "k", "limit"] (sp_highest_of K Z) := by
  have nd := sc_highest_of.nd
  refine F.ok sc_highest_of (fun vs H Q E h => ?_) (fun cdv A outer s H vs Q E hr h => ⟨t_highest_of K Z, PSs.nox (C8.pss_cut (ps_if (PW.pt (pw_or (pt_cmpR Uv.u_is (pv 1) pe_non (nomark _)) (pw_or1 (pt_cmpR (Uv.u_eq (Uv.huR hr)) (pv 2) pe_int (nomark _))))) (pss_one (ps_ret (pv 1))) pss_nil)
      (C8.pss_cut (ps_if (pt_cmpR Uv.u_is (Uv.pe_att (pv 0) rfl) pe_non (nomark _)) (pss_one (ps_ret pe_non)) pss_nil)
      (pss_cons (ps_par (i := 3) (j := 4) rfl nd rfl rfl (by decide) rfl rfl (pa_cons (pv 1) (pa_cons (pv 2) pa_nil)) (by rfl))
      (C8.pss_cut (ps_while PassesOwn.never (pt_cmpR Uv.u_gt (pv 4) pe_int (nomark _)) (pss_cons (ps_set (i := 5) nd rfl (by first | exact Or.inl rfl | exact Or.inr rfl) (pe_op Uv.u_sub (C8.pe_c c_value_at hr (by decide) rfl (pa_cons (Uv.pe_att (pv 0) rfl) (pa_cons (Uv.pe_att (pv 0) rfl) (pa_cons (pv 3) pa_nil)))) (pv 3)))
      (C8.pss_cut (ps_if (pt_cmpR Uv.u_le (pv 5) pe_int (nomark _)) (pss_one ps_break) pss_nil)
      (pss_cons (ps_set (i := 6) nd rfl (by first | exact Or.inl rfl | exact Or.inr rfl) (C8.pe_c c_high_edge hr (by decide) rfl (pa_cons (Uv.pe_att (pv 0) rfl) (pa_cons (pv 3) pa_nil))))
      (pss_cons (ps_set (i := 7) nd rfl (by first | exact Or.inl rfl | exact Or.inr rfl) (pe_ifExp (pt_cmpR Uv.u_is (pv 6) pe_non (nomark _)) (pv 4) (pe_callB (call_min2 rfl) (by rfl) (B.at "min") (by decide +kernel) (pa_cons (pe_callTy Uv.cb_int (by rfl) (B.at "int") (by decide +kernel) (pa_cons (pv 4) pa_nil)) (pa_cons (pe_op Uv.u_add (pe_op Uv.u_fdv (pe_op Uv.u_sub (pv 6) (pv 3)) (pv 5)) pe_int) pa_nil)))))
      (pss_cons (ps_set (i := 3) nd rfl (by first | exact Or.inl rfl | exact Or.inr rfl) (pe_op Uv.u_add (pv 3) (pe_op Uv.u_mul (pv 5) (pv 7))))
      (pss_one (ps_set (i := 4) nd rfl (by first | exact Or.inl rfl | exact Or.inr rfl) (pe_op Uv.u_sub (pv 4) (pv 7))))))))))
      (pss_one (ps_ret (pv 3))))))), pure_highest_of T vs H Q E h⟩)
  unfold sp_highest_of at h
  (repeat (obtain ⟨_, h⟩ := h)); all_goals (subst_vars; rfl)
end
end K19

--T law_k19_need_round_counts
namespace K19
open PySem PySem.Spec PyProof.Rows L2 Uv N19
/-- the greatest value, None without one -/
def topOf : Int → List Ri → Option Int
  | s, [] => some s
  | _, (_, none) :: _ => none
  | s, (lo, some h) :: r => topOf (s + h - lo) r
abbrev s_greatest_value : Stmt := (top 22)
theorem sc_greatest_value : FnScope ["start", "rises", "top", "edge", "low", "high"] ["start", "rises"] (defScope s_greatest_value) := ⟨rfl, rfl, rfl, by decide +kernel, rfl, by decide +kernel, by decide +kernel⟩
def t_greatest_value (K : PySem.W.Frag) (Z : Ad) : TS :=
    (C8.tCut (tIfS (tTest (tOp Uv.rIsU (tVar 0) (tC .non))) (C8.tCut (tIfS (tTest (tOp Uv.rGtU (tCB (Uv.rLenU K) (tCons (tVar 1) tNil)) (tC (.int 0)))) tNever tNext)
    (tRet (tC .non))) tNext)
    (tSeq (tPar 2 3 (tCons (tVar 0) (tCons (tUn (rU fun i => .int (-i)) (tC (.int 1))) tNil)))
    (C8.tCut (tFor (Uv.iSeqU K (tVar 1)) (Uv.gSeqU K 2 (gCons (gName 4) (gCons (gName 5) gNil))) (C8.tCut (tIfS (tOr (tTest (tOp Uv.rIsU (tVar 3) (tC .non))) (tOr (tTest (tOp Uv.rLeU (tVar 4) (tVar 3))) (tAnd (tTest (tOp Uv.rNotU (tVar 5) (tC .non))) (tTest (tOp Uv.rLeU (tVar 5) (tVar 4)))))) tNever tNext)
    (tSeq (tAsg (tIf (tTest (tOp Uv.rIsU (tVar 5) (tC .non))) (tC .non) (tOp Uv.rSubU (tOp (Uv.rAddU K) (tVar 2) (tVar 5)) (tVar 4))) (gName 2))
    (tAsg (tVar 5) (gName 3)))))
    (tRet (tVar 2)))))
def sp_greatest_value (K : PySem.W.Frag) (_ : Ad) : Sp := fun vs H Q _ => ∃ (s : Option Int) (a : Addr) (xs : List V) (rs : List Ri), vs = [vO s, .ref a] ∧ SqT K H a xs ∧ Pairs K H xs rs ∧ ((s = none ∧ rs = [] ∧ Q .non H) ∨ ∃ x, s = some x ∧ Wf (-1) rs ∧ Q (vO (topOf x rs)) H)
abbrev s_Need___init__ : Stmt := (inClass (top 23) 0)
theorem sc_Need___init__ : FnScope ["self", "start", "rises", "never", "top", "low", "high"] ["self", "start", "rises", "never"] (defScope s_Need___init__) := ⟨rfl, rfl, rfl, by decide +kernel, rfl, by decide +kernel, by decide +kernel⟩
def t_Need___init__ (K : PySem.W.Frag) (Z : Ad) : TS :=
    (C8.tCut (tIfS (tAnd (tTest (tOp Uv.rNotU (tVar 1) (tC .non))) (tTest (tOp Uv.rLtU (tVar 1) (tC (.int 0))))) tNever tNext)
    (tSeq (tAsg (tCall (sp_greatest_value K Z) [] E0 (tCons (tVar 1) (tCons (tVar 2) tNil))) (gName 4))
    (C8.tCut (tIfS (tAnd (tTest (tOp Uv.rNotU (tVar 3) (tC .non))) (tOr (tTest (tOp Uv.rIsU (tVar 4) (tC .non))) (tTest (tOp Uv.rLtU (tVar 3) (tVar 4))))) tNever tNext)
    (tSeq (sFld K (tVar 0) (tVar 1) "start")
    (tSeq (sFld K (tVar 0) (tCB (Uv.rTupU K) (tCons (tLc (Uv.iSeqU K (tVar 2)) (Uv.gSeqU K 2 (gCons (gName 5) (gCons (gName 6) gNil))) tYes (tTup (tCons (tVar 5) (tCons (tVar 6) tNil))) [5, 6]) tNil)) "rises")
    (sFld K (tVar 0) (tVar 3) "never"))))))
def sp_Need_init (K : PySem.W.Frag) (Z : Ad) : Sp := fun vs H Q _ => ∃ (p dx : Addr) (nd : Nd) (a : Addr) (xs : List V), vs = [.ref p, vO nd.start, .ref a, vO nd.never] ∧ H p = some (.ins Z.Need dx []) ∧ SqT K H a xs ∧ Pairs K H xs nd.rises ∧ nd.rises.length ≤ 1000 ∧
  ((nd.start = none ∧ nd.rises = [] ∧ nd.never = none) ∨ ∃ s, nd.start = some s ∧ 0 ≤ s ∧ Wf (-1) nd.rises ∧ ∀ n, nd.never = some n → ∃ t, topOf s nd.rises = some t ∧ t ≤ n) ∧ ∀ H', NeedAt K Z H' p nd → But p H H' → Q .non H'
section
variable {P : Program} {w : World} {K : PySem.W.Frag} {mg : Str → Option Value} {base : Heap} {Z : Ad} {f : Addr} {fd : FuncData}
theorem Pairs.mono {H H' : Hp} {xs : List V} {rs : List Ri} (h : Pairs K H xs rs) (e : ∀ a ys, SqT K H a ys → SqT K H' a ys) : Pairs K H' xs rs := by
  induction h with
  | nil => exact .nil
  | cons r t ih =>
    obtain ⟨a, h1, h2⟩ := r
    exact .cons ⟨a, h1, e _ _ h2⟩ ih
theorem Pairs.snoc {H : Hp} {xs : List V} {rs : List Ri} {x : V} {r : Ri} (h : Pairs K H xs rs) (q : Pair K H x r) : Pairs K H (xs ++ [x]) (rs ++ [r]) := by
  induction h with
  | nil => exact .cons q .nil
  | cons r t ih => exact .cons r ih
theorem take_more {α : Type} {l : List α} {i : Nat} {x : α} (h : l[i]? = some x) : l.take (i + 1) = l.take i ++ [x] := by
  rw [List.take_add_one, h]
  rfl
theorem Wf.none_end {e : Int} {lo : Int} {r : List Ri} (w : Wf e ((lo, none) :: r)) : r = [] := w.2
theorem pure_greatest_value (T : TK K Z) (vs : List V) (H : Hp) (Q : VK) (E : XK) (h : sp_greatest_value K Z vs H Q E) : t_greatest_value K Z { nx := fun _ H' => Q .non H', rt := Q } (L2.start ["start", "rises", "top", "edge", "low", "high"] vs) H := by
  obtain ⟨s, a, xs, rs, rfl, hS, hP, hQ⟩ := h
  walk_at "in"
  unfold t_greatest_value
  refine r_nocut ?_
  walk_at "go"
  rcases hQ with ⟨rfl, rfl, hQ⟩ | ⟨s, rfl, hw, hQ⟩
  · rw [vO_none]
    cases hP
    walk_at "go"
    refine r_nocut ?_
    walk_at "go"
    refine q_lenT hS ?_
    walk_at "go"
    refine i_no (by decide) ?_
    walk_at "go"
    exact hQ
  · rw [vO_some]
    walk_at "go"
    refine r_cut (fun σ' H' => H' = H ∧ σ'[2]? = some (some (vO (topOf s rs)))) ?_ ?_
    · refine r_forT ?_
      walk_at "go"
      refine r_loopT hS (fun i σ' H' => H' = H ∧ ∃ v e b1 b2, σ' = [some (.int s), some (.ref a), some (vO v), some (vO e), b1, b2] ∧ ((∃ v' e', v = some v' ∧ e = some e' ∧ Wf e' (rs.drop i) ∧ topOf v' (rs.drop i) = topOf s rs) ∨ (v = none ∧ rs.drop i = [] ∧ topOf s rs = none))) ?_ ?_ ?_ ?_
      · exact ⟨rfl, some s, some (-1), none, none, rfl, .inl ⟨s, -1, rfl, rfl, hw, rfl⟩⟩
      · rintro i σ' H' _ ⟨rfl, _⟩
        exact hS
      · rintro i x σ' H' hx ⟨rfl, v, e, b1, b2, rfl, hv⟩
        obtain ⟨lo, hi, c, hr, rfl, hc⟩ := pairs_at hP hx
        rw [drop_at hr] at hv
        rcases hv with ⟨v, e, rfl, rfl, h1, h2⟩ | ⟨_, h1, _⟩
        · rw [vO_some, vO_some]
          walk_at "go"
          refine r_nocut ?_
          walk_at "go"
          have l1 : e < lo := by
            cases hi with
            | none => exact h1.1
            | some h => exact h1.1
          refine i_no (by omega) ?_
          walk_at "go"
          cases hi with
          | none =>
            rw [vO_none]
            walk_at "go"
            exact ⟨rfl, none, none, _, _, rfl, .inr ⟨rfl, h1.2, h2.symm⟩⟩
          | some h =>
            have l2 : lo < h := h1.2.1
            rw [vO_some]
            walk_at "go"
            refine i_no (by omega) ?_
            walk_at "go"
            exact ⟨rfl, some (v + h - lo), some h, _, _, rfl, .inl ⟨_, _, rfl, rfl, h1.2.2, h2⟩⟩
        · cases h1
      · rintro σ' H' ⟨rfl, v, e, b1, b2, rfl, hv⟩
        rw [hP.len, List.drop_length] at hv
        refine ⟨rfl, ?_⟩
        rcases hv with ⟨v, e, rfl, rfl, h1, h2⟩ | ⟨rfl, _, h2⟩
        · rw [← h2]
          rfl
        · rw [h2]
          rfl
    · rintro σ' H' ⟨rfl, e⟩
      refine stp (r_var e ?_)
      exact hQ
theorem ok_greatest_value (T : TK K Z) (B : Blt mg)  (F : FnP K "greatest_value" "greatest_value" s_greatest_value f fd) : FnOk P w K mg base CX0 1 f fd ["start", "rises"] (sp_greatest_value K Z) := by
  have nd := sc_greatest_value.nd
  refine F.ok sc_greatest_value (fun vs H Q E h => ?_) (fun cdv A outer s H vs Q E hr h => ⟨t_greatest_value K Z, PSs.nox (C8.pss_cut (ps_if (pt_cmpR Uv.u_is (pv 0) pe_non (nomark _)) (C8.pss_cut (ps_if (pt_cmpR Uv.u_gt (pe_callB Uv.cb_len (by rfl) (B.at "len") (by decide +kernel) (pa_cons (pv 1) pa_nil)) pe_int (nomark _)) (pss_one ps_never) pss_nil)
      (pss_one (ps_ret pe_non))) pss_nil)
      (pss_cons (ps_par (i := 2) (j := 3) rfl nd rfl rfl (by decide) rfl rfl (pa_cons (pv 0) (pa_cons (pe_un un_neg pe_int) pa_nil)) (by rfl))
      (C8.pss_cut (ps_for PassesOwn.never rfl (Uv.pi_seq (pv 1)) (Uv.pg_seq rfl (pgs_cons (pg_name (i := 4) nd rfl (by first | exact Or.inl rfl | exact Or.inr rfl)) (pgs_cons (pg_name (i := 5) nd rfl (by first | exact Or.inl rfl | exact Or.inr rfl)) pgs_nil))) (C8.pss_cut (ps_if (PW.pt (pw_or (pt_cmpR Uv.u_is (pv 3) pe_non (nomark _)) (pw_or (pt_cmpR Uv.u_le (pv 4) (pv 3) (nomark _)) (pw_or1 (PW.pt (pw_and (pt_cmpR Uv.u_isnot (pv 5) pe_non (nomark _)) (pw_and1 (pt_cmpR Uv.u_le (pv 5) (pv 4) (nomark _))))))))) (pss_one ps_never) pss_nil)
      (pss_cons (ps_set (i := 2) nd rfl (by first | exact Or.inl rfl | exact Or.inr rfl) (pe_ifExp (pt_cmpR Uv.u_is (pv 5) pe_non (nomark _)) pe_non (pe_op Uv.u_sub (pe_op Uv.u_add (pv 2) (pv 5)) (pv 4))))
      (pss_one (ps_set (i := 3) nd rfl (by first | exact Or.inl rfl | exact Or.inr rfl) (pv 5))))))
      (pss_one (ps_ret (pv 2)))))), pure_greatest_value T vs H Q E h⟩)
  unfold sp_greatest_value at h
  (repeat (obtain ⟨_, h⟩ := h)); all_goals (subst_vars; rfl)
theorem pure_Need___init__ (T : TK K Z) (vs : List V) (H : Hp) (Q : VK) (E : XK) (h : sp_Need_init K Z vs H Q E) : t_Need___init__ K Z { nx := fun _ H' => Q .non H', rt := Q } (L2.start ["self", "start", "rises", "never", "top", "low", "high"] vs) H := by
  obtain ⟨p, dx, nd, a, xs, rfl, hp, hS, hP, hlen, hc, hQ⟩ := h
  obtain ⟨cN, nS, nR, nN⟩ := T
  walk_at "in"
  unfold t_Need___init__
  have hq : (nd.start = none ∧ nd.rises = [] ∧ nd.never = none) ∨ ∃ s, nd.start = some s ∧ 0 ≤ s ∧ Wf (-1) nd.rises ∧ ∀ n, nd.never = some n → ∃ t, topOf s nd.rises = some t ∧ t ≤ n := hc
  refine r_cut (fun σ' H' => H' = H ∧ σ' = [some (.ref p), some (vO nd.start), some (.ref a), some (vO nd.never), none, none, none]) ?_ ?_
  · rcases hc with ⟨h1, _, _⟩ | ⟨s, h1, h2, _⟩
    · rw [h1, vO_none]
      walk_at "go"
      exact ⟨rfl, rfl⟩
    · rw [h1, vO_some]
      walk_at "go"
      refine i_no (by omega) ?_
      walk_at "go"
      exact ⟨rfl, rfl⟩
  rintro σ' H' ⟨rfl, rfl⟩
  walk_at "go"
  refine ⟨nd.start, a, xs, nd.rises, rfl, hS, hP, ?_⟩
  have rest : ∀ v, ((nd.never = none) ∨ ∃ n t, nd.never = some n ∧ v = V.int t ∧ t ≤ n) → (C8.tCut (tIfS (tAnd (tTest (tOp rNotU (tVar 3) (tC .non))) (tOr (tTest (tOp rIsU (tVar 4) (tC .non))) (tTest (tOp rLtU (tVar 3) (tVar 4))))) tNever tNext)
    (tSeq (sFld K (tVar 0) (tVar 1) "start") (tSeq (sFld K (tVar 0) (tCB (rTupU K) (tCons (tLc (iSeqU K (tVar 2)) (gSeqU K 2 (gCons (gName 5) (gCons (gName 6) gNil))) tYes (tTup (tCons (tVar 5) (tCons (tVar 6) tNil))) [5, 6]) tNil)) "rises") (sFld K (tVar 0) (tVar 3) "never")))) { nx := fun _ H' => Q .non H', rt := Q } [some (.ref p), some (vO nd.start), some (.ref a), some (vO nd.never), some v, none, none] H' := by
    intro v hv
    refine r_cut (fun σ' H2 => H2 = H' ∧ σ' = [some (.ref p), some (vO nd.start), some (.ref a), some (vO nd.never), some v, none, none]) ?_ ?_
    · rcases hv with h1 | ⟨n, t, h1, rfl, h2⟩
      · rw [h1, vO_none]
        walk_at "go"
        exact ⟨rfl, rfl⟩
      · rw [h1, vO_some]
        walk_at "go"
        refine i_no (by omega) ?_
        walk_at "go"
        exact ⟨rfl, rfl⟩
    rintro σ' H2 ⟨rfl, rfl⟩
    walk_at "go"
    walk_at "sto"
    walk_at "go"
    refine r_lcT ?_
    walk_at "go"
    have bH : But p H2 (upd H2 p (.ins Z.Need dx (putF "start" (vO nd.start) []))) := But.upd
    have iH : (∃ l, H2 p = some (.lst l)) ∨ H2 p = none ∨ ∃ C dx fs, H2 p = some (.ins C dx fs) := .inr (.inr ⟨_, _, _, hp⟩)
    refine q_lcT (bH.seqT iH hS) (fun D i H3 => ∃ acc, H3 D = some (.lst acc) ∧ H3 p = some (.ins Z.Need dx (putF "start" (vO nd.start) [])) ∧ Pairs K H3 acc (nd.rises.take i) ∧ But p H2 H3 ∧ D ≠ p ∧ H2 D = none) (fun D hD => ?_) ?_ ?_ ?_
    · have hD2 : D ≠ p := fun z => by subst z; rw [upd_same] at hD; cases hD
      refine ⟨[], upd_same, ?_, .nil, ?_, hD2, by rw [upd_ne hD2] at hD; exact hD⟩
      · rw [upd_ne (Ne.symm hD2), upd_same]
      · exact bH.new hD
    · rintro D i H3 _ ⟨acc, h1, h2, h3, h4, h5, h6⟩
      exact h4.seqT iH hS
    · rintro D i x H3 hx ⟨acc, h1, h2, h3, h4, h5, h6⟩
      obtain ⟨lo, hi, c, hr, rfl, hc3⟩ := pairs_at hP hx
      have hc4 := h4.seqT iH hc3
      walk_at "go"
      refine ⟨rfl, ?_⟩
      walk_at "go"
      refine ⟨two_le, fun T0 hT => ?_⟩
      have n1 : D ≠ T0 := ne_of_none h1 hT
      have n2 : p ≠ T0 := ne_of_none h2 hT
      have sm : Same H3 (upd H3 T0 (.tup [.int lo, vO hi])) := Same.new hT
      have al : acc.length ≤ 1000 := by rw [h3.len, List.length_take]; omega
      refine ⟨acc, sm _ _ h1, by have : (1000 : Nat) < sizeLine := by decide
                                 omega, acc ++ [.ref T0], upd_same, ?_, ?_, ?_, h5, h6⟩
      · rw [upd_ne (Ne.symm h5), upd_ne n2]
        exact h2
      · rw [take_more hr]
        have p1 : Pairs K (upd (upd H3 T0 (.tup [.int lo, vO hi])) D (.lst (acc ++ [.ref T0]))) acc (nd.rises.take i) := h3.mono fun b ys q => (sm.tup q).upd (.inl ⟨acc, sm _ _ h1⟩)
        exact p1.snoc ⟨T0, rfl, .inl (.inl (by rw [upd_ne (Ne.symm n1)]; exact upd_same))⟩
      · exact fun b o hb hbo => by
          have e1 := sm _ _ (h4 b o hb hbo)
          by_cases hz : b = D
          · subst hz
            rw [h6] at hbo
            cases hbo
          · rw [upd_ne hz]
            exact e1
    · rintro D H3 hD ⟨acc, h1, h2, h3, h4, h5, h6⟩
      walk_at "go"
      refine q_tupL (.of h1) fun l hl => ?_
      have n3 : p ≠ l := ne_of_none h2 hl
      have hl2 : But p H2 (upd H3 l (.tup acc)) := h4.new hl
      walk_at "go"
      refine r_sfldOf (fs := putF "start" (vO nd.start) []) (by rw [upd_ne n3]; exact h2) cN nR (show (1 : Nat) < 1000 by decide) ?_
      walk_at "go"
      refine r_sfldOf upd_same cN nN (show (2 : Nat) < 1000 by decide) ?_
      walk_at "go"
      have sm : Same H3 (upd H3 l (.tup acc)) := Same.new hl
      have at_l : upd H3 l (.tup acc) l = some (.tup acc) := upd_same
      have keep : ∀ b ys (o1 o2 : HO), SqT K (upd H3 l (.tup acc)) b ys → SqT K (upd (upd (upd H3 l (.tup acc)) p o1) p o2) b ys := fun b ys o1 o2 q => by
        rw [upd_upd]
        exact q.upd (.inr (.inr ⟨_, _, _, by rw [upd_ne n3]; exact h2⟩))
      have h3' : Pairs K H3 acc nd.rises := by
        rw [hP.len, List.take_length] at h3
        exact h3
      refine hQ _ ⟨dx, l, acc, upd_same, keep _ _ _ _ (SqT.of at_l), h3'.mono fun b ys q => keep _ _ _ _ (sm.tup q)⟩ ?_
      rw [upd_upd]
      exact hl2.trans But.upd
  rcases hq with ⟨h1, h2, h3⟩ | ⟨s, h1, h2, h3, h4⟩
  · refine .inl ⟨h1, h2, ?_⟩
    walk_at "go"
    exact rest .non (.inl h3)
  · refine .inr ⟨s, h1, h3, ?_⟩
    walk_at "go"
    refine rest _ ?_
    cases hn : nd.never with
    | none => exact .inl rfl
    | some n =>
      obtain ⟨t, e1, e2⟩ := h4 n hn
      exact .inr ⟨n, t, rfl, by rw [e1]; rfl, e2⟩
theorem ok_Need___init__ (T : TK K Z) (B : Blt mg) (c_greatest_value : C8.Cal P w K mg base 1 "greatest_value" (sp_greatest_value K Z) []) (F : FnP K "__init__" "Need.__init__" s_Need___init__ f fd) : FnOk P w K mg base CX0 2 f fd ["self", "start", "rises", "never"] (sp_Need_init K Z) := by
  have nd := sc_Need___init__.nd
  refine F.ok sc_Need___init__ (fun vs H Q E h => ?_) (fun cdv A outer s H vs Q E hr h => ⟨t_Need___init__ K Z, PSs.nox (C8.pss_cut (ps_if (PW.pt (pw_and (pt_cmpR Uv.u_isnot (pv 1) pe_non (nomark _)) (pw_and1 (pt_cmpR Uv.u_lt (pv 1) pe_int (nomark _))))) (pss_one ps_never) pss_nil)
      (pss_cons (ps_set (i := 4) nd rfl (by first | exact Or.inl rfl | exact Or.inr rfl) (C8.pe_c c_greatest_value hr (by decide) rfl (pa_cons (pv 1) (pa_cons (pv 2) pa_nil))))
      (C8.pss_cut (ps_if (PW.pt (pw_and (pt_cmpR Uv.u_isnot (pv 3) pe_non (nomark _)) (pw_and1 (PW.pt (pw_or (pt_cmpR Uv.u_is (pv 4) pe_non (nomark _)) (pw_or1 (pt_cmpR Uv.u_lt (pv 3) (pv 4) (nomark _)))))))) (pss_one ps_never) pss_nil)
      (pss_cons (ps_fld (pv 0) (pv 1) rfl)
      (pss_cons (ps_fld (pv 0) (pe_callTy Uv.cb_tuple (by rfl) (B.at "tuple") (by decide +kernel) (pa_cons (pe_lc (own := [("low", 5), ("high", 6)]) rfl nd (Uv.pi_seq (pv 2)) (blkOk_by (N := ["self", "start", "rises", "never", "top", "low", "high"]) (sc := defScope s_Need___init__) (by decide +kernel)) (fun _ _ _ _ _ => (Uv.pg_seq rfl (pgs_cons (pg_name (i := 5) nd rfl (by first | exact Or.inl rfl | exact Or.inr rfl)) (pgs_cons (pg_name (i := 6) nd rfl (by first | exact Or.inl rfl | exact Or.inr rfl)) pgs_nil)))) (fun _ _ _ _ _ => pts_nil) (fun _ _ _ _ _ => (pe_tup (pa_cons (pv 5) (pa_cons (pv 6) pa_nil))))) pa_nil)) rfl)
      (pss_one (ps_fld (pv 0) (pv 3) rfl))))))), pure_Need___init__ T vs H Q E h⟩)
  unfold sp_Need_init at h
  (repeat (obtain ⟨_, h⟩ := h)); all_goals (subst_vars; rfl)
end
end K19

--T law_k19_need_round_counts
namespace K19
open PySem PySem.Spec PyProof.Rows L2 Uv N19
abbrev iV (ns : List Int) : List V := ns.map V.int
def absI (c : Int) : Int := if c < 0 then -c else c
/-- the draws: what is left, the seed, what is found so far -/
def drawSt (c : Int) : Nat → Int × Int × List Int
  | 0 => (absI c, absI c % 2147483647, [])
  | i + 1 => if 10 ^ 18 ≤ absI c ∧ 0 < (drawSt c i).1 then
      ((drawSt c i).1 / 1000000, ((drawSt c i).2.1 * 48271 + 40692 * i + 69621) % 2147483647, (drawSt c i).2.2 ++ [(drawSt c i).1 % 1000000])
    else ((drawSt c i).1, ((drawSt c i).2.1 * 48271 + 40692 * i + 69621) % 2147483647, (drawSt c i).2.2 ++ [((((drawSt c i).2.1 * 48271 + 40692 * i + 69621) % 2147483647 * 16807 + 7919 * i) % 2147483629 / 1009) % 1000000])
def drawsF (c : Int) (m : Int) : List Int := (drawSt c m.toNat).2.2
theorem drawSt_ok (c : Int) : ∀ i, (drawSt c i).2.2.length = i ∧ ∀ x ∈ (drawSt c i).2.2, 0 ≤ x ∧ x < 1000000
  | 0 => ⟨rfl, fun x h => nomatch h⟩
  | i + 1 => by
    obtain ⟨h1, h2⟩ := drawSt_ok c i
    unfold drawSt
    split
    · refine ⟨by rw [List.length_append, h1]; rfl, fun x hx => ?_⟩
      rcases List.mem_append.mp hx with q | q
      · exact h2 x q
      · have e := List.mem_singleton.mp q
        omega
    · refine ⟨by rw [List.length_append, h1]; rfl, fun x hx => ?_⟩
      rcases List.mem_append.mp hx with q | q
      · exact h2 x q
      · have e := List.mem_singleton.mp q
        omega
def takeF (ns : List Int) (n : Nat) : Int := ns.getD n 0
abbrev s__law_cell : Stmt := (top 25)
theorem sc__law_cell : FnScope ["_law_script", "_law_k"] ["_law_script", "_law_k"] (defScope s__law_cell) := ⟨rfl, rfl, rfl, by decide +kernel, rfl, by decide +kernel, by decide +kernel⟩
def t__law_cell (K : PySem.W.Frag) (Z : Ad) : TS :=
    (C8.tCut (tIfS (tTest (tOp Uv.rLtU (tVar 1) (tCB (Uv.rLenU K) (tCons (tVar 0) tNil)))) (tRet (tCB Uv.rInt (tCons (tOp (Uv.rIxU K) (tVar 0) (tVar 1)) tNil))) tNext)
    (tRet (tC (.int 0))))
def sp__law_cell (K : PySem.W.Frag) (_ : Ad) : Sp := fun vs H Q _ => ∃ (a : Addr) (ns : List Int) (k : Nat), vs = [.ref a, .int k] ∧ SqL K H a (iV ns) ∧ Q (.int (ns.getD k 0)) H
abbrev s__law_draws : Stmt := (top 26)
theorem sc__law_draws : FnScope ["_law_cell_here", "_law_many", "_law_rest", "_law_large", "_law_seed", "_law_found", "_law_k"] ["_law_cell_here", "_law_many"] (defScope s__law_draws) := ⟨rfl, rfl, rfl, by decide +kernel, rfl, by decide +kernel, by decide +kernel⟩
def t__law_draws (K : PySem.W.Frag) (Z : Ad) : TS :=
    (tSeq (tAsg (tCB Uv.rAbs (tCons (tCB Uv.rInt (tCons (tVar 0) tNil)) tNil)) (gName 2))
    (tSeq (tAsg (tOp Uv.rGeU (tVar 2) (tOp Uv.rPowU (tC (.int 10)) (tC (.int 18)))) (gName 3))
    (tSeq (tAsg (tOp Uv.rModU (tCB Uv.rInt (tCons (tVar 2) tNil)) (tC (.int 2147483647))) (gName 4))
    (tSeq (tAsg (tLst tNil) (gName 5))
    (C8.tCut (tFor (iRng1 (tCons (tVar 1) tNil)) (gName 6) (tSeq (tAsg (tOp Uv.rModU (tCB Uv.rInt (tCons (tOp (Uv.rAddU K) (tOp (Uv.rAddU K) (tOp Uv.rMulU (tVar 4) (tC (.int 48271))) (tOp Uv.rMulU (tC (.int 40692)) (tVar 6))) (tC (.int 69621))) tNil)) (tC (.int 2147483647))) (gName 4))
    (tIfS (tAnd (Uv.tTr K (tVar 3)) (tTest (tOp Uv.rGtU (tVar 2) (tC (.int 0))))) (tSeq (tDrop (tBM K "list" rAppend (tVar 5) (tCons (tOp Uv.rModU (tCB Uv.rInt (tCons (tVar 2) tNil)) (tC (.int 1000000))) tNil)))
    (tAsg (tOp Uv.rFdvU (tVar 2) (tC (.int 1000000))) (gName 2))) (tDrop (tBM K "list" rAppend (tVar 5) (tCons (tOp Uv.rModU (tCB Uv.rInt (tCons (tOp Uv.rFdvU (tOp Uv.rModU (tCB Uv.rInt (tCons (tOp (Uv.rAddU K) (tOp Uv.rMulU (tVar 4) (tC (.int 16807))) (tOp Uv.rMulU (tC (.int 7919)) (tVar 6))) tNil)) (tC (.int 2147483629))) (tC (.int 1009))) tNil)) (tC (.int 1000000))) tNil))))))
    (tRet (tVar 5)))))))
def sp__law_draws (K : PySem.W.Frag) (_ : Ad) : Sp := fun vs H Q _ => ∃ (c m : Int), vs = [.int c, .int m] ∧ 0 ≤ m ∧ m ≤ 100000 ∧ ∀ p, H p = none → Q (.ref p) (upd H p (.lst (iV (drawsF c m))))
abbrev s__law_take : Stmt := (top 27)
theorem sc__law_take : FnScope ["_law_draws_here", "_law_place"] ["_law_draws_here", "_law_place"] (defScope s__law_take) := ⟨rfl, rfl, rfl, by decide +kernel, rfl, by decide +kernel, by decide +kernel⟩
def t__law_take (K : PySem.W.Frag) (Z : Ad) : TS :=
    (tSeq (tAsg (tOp (Uv.rAddU K) (tOp (Uv.rIxU K) (tVar 1) (tC (.int 0))) (tC (.int 1))) (gSub (tVar 1) (tC (.int 0)) rSetL))
    (C8.tCut (tIfS (tTest (tOp Uv.rGtU (tOp (Uv.rIxU K) (tVar 1) (tC (.int 0))) (tCB (Uv.rLenU K) (tCons (tVar 0) tNil)))) (tRet (tC (.int 0))) tNext)
    (tRet (tOp (Uv.rIxU K) (tVar 0) (tOp Uv.rSubU (tOp (Uv.rIxU K) (tVar 1) (tC (.int 0))) (tC (.int 1)))))))
def sp__law_take (K : PySem.W.Frag) (_ : Ad) : Sp := fun vs H Q _ => ∃ (a p : Addr) (ns : List Int) (n : Nat), vs = [.ref a, .ref p] ∧ SqL K H a (iV ns) ∧ H p = some (.lst [.int n]) ∧ a ≠ p ∧ Q (.int (takeF ns n)) (upd H p (.lst [.int ((n + 1 : Nat) : Int)]))
theorem getD_out {l : List Int} {n : Nat} (h : l.length ≤ n) : l.getD n 0 = 0 := by
  rw [List.getD, List.getElem?_eq_none h]
  rfl
theorem iV_at {ns : List Int} {k : Nat} (h : k < ns.length) : (iV ns)[k]? = some (.int (ns.getD k 0)) := by
  unfold iV
  rw [List.getElem?_map, List.getElem?_eq_getElem h]
  simp [List.getD, List.getElem?_eq_getElem h]
section
variable {P : Program} {w : World} {K : PySem.W.Frag} {mg : Str → Option Value} {base : Heap} {Z : Ad} {f : Addr} {fd : FuncData}
theorem pure__law_cell (T : TK K Z) (vs : List V) (H : Hp) (Q : VK) (E : XK) (h : sp__law_cell K Z vs H Q E) : t__law_cell K Z { nx := fun _ H' => Q .non H', rt := Q } (L2.start ["_law_script", "_law_k"] vs) H := by
  obtain ⟨a, ns, k, rfl, hS, hQ⟩ := h
  walk_at "in"
  unfold t__law_cell
  refine r_nocut ?_
  walk_at "go"
  refine q_lenL hS ?_
  walk_at "go"
  walk_at "b"
  · rename_i hk
    have hk2 : k < ns.length := by
      rw [List.length_map] at hk
      omega
    walk_at "go"
    refine r_ixL hS (atI_of rfl (iV_at hk2)) ?_
    walk_at "go"
    exact hQ
  · rename_i hk
    have hk2 : ns.length ≤ k := by
      rw [List.length_map] at hk
      omega
    walk_at "go"
    rw [getD_out hk2] at hQ
    exact hQ
theorem ok__law_cell (T : TK K Z) (B : Blt mg)  (F : FnP K "_law_cell" "_law_cell" s__law_cell f fd) : FnOk P w K mg base CX0 1 f fd ["_law_script", "_law_k"] (sp__law_cell K Z) := by
  have nd := sc__law_cell.nd
  refine F.ok sc__law_cell (fun vs H Q E h => ?_) (fun cdv A outer s H vs Q E hr h => ⟨t__law_cell K Z, PSs.nox (C8.pss_cut (ps_if (pt_cmpR Uv.u_lt (pv 1) (pe_callB Uv.cb_len (by rfl) (B.at "len") (by decide +kernel) (pa_cons (pv 0) pa_nil)) (nomark _)) (pss_one (ps_ret (pe_callTy Uv.cb_int (by rfl) (B.at "int") (by decide +kernel) (pa_cons (pe_ix Uv.u_ix (pv 0) (pv 1) (fun _ _ => rfl)) pa_nil)))) pss_nil)
      (pss_one (ps_ret pe_int))), pure__law_cell T vs H Q E h⟩)
  unfold sp__law_cell at h
  (repeat (obtain ⟨_, h⟩ := h)); all_goals (subst_vars; rfl)
theorem pure__law_draws (T : TK K Z) (vs : List V) (H : Hp) (Q : VK) (E : XK) (h : sp__law_draws K Z vs H Q E) : t__law_draws K Z { nx := fun _ H' => Q .non H', rt := Q } (L2.start ["_law_cell_here", "_law_many", "_law_rest", "_law_large", "_law_seed", "_law_found", "_law_k"] vs) H := by
  obtain ⟨c, m, rfl, h0, h1, hQ⟩ := h
  walk_at "in"
  unfold t__law_draws
  walk_at "go"
  refine ⟨sz (by decide), fun p hp => ?_⟩
  walk_at "go"
  have e18 : (10 : Int) ^ (18 : Int).toNat = 10 ^ 18 := rfl
  rw [e18]
  refine r_cut (fun σ' H' => H' = upd H p (.lst (iV (drawsF c m))) ∧ ∃ b1 b2 b3, σ' = [some (.int c), some (.int m), b1, some (.bl (decide ((10 : Int) ^ 18 ≤ absI c))), b2, some (.ref p), b3]) ?_ ?_
  · refine r_forR ?_
    walk_at "go"
    refine r_loopR (n := m) (by omega) (by omega) (fun i σ' H' => ∃ b3, σ' = [some (.int c), some (.int m), some (.int (drawSt c i).1), some (.bl (decide ((10 : Int) ^ 18 ≤ absI c))), some (.int (drawSt c i).2.1), some (.ref p), b3] ∧ H' = upd H p (.lst (iV (drawSt c i).2.2))) ?_ ?_ ?_
    · exact ⟨none, rfl, rfl⟩
    · rintro i σ' H' hi ⟨b3, rfl, rfl⟩
      have hl := (drawSt_ok c i).1
      have hz : (iV (drawSt c i).2.2).length < sizeLine := by
        rw [List.length_map, hl]
        have : (100000 : Nat) < sizeLine := by decide
        omega
      walk_at "go"
      walk_at "b"
      · rename_i h18
        walk_at "go"
        walk_at "b"
        · rename_i hr
          walk_at "go"
          refine ⟨m_ty (.of upd_same), ?_⟩
          walk_at "go"
          refine m_app upd_same hz ?_
          walk_at "go"
          rw [upd_upd]
          have e : drawSt c (i + 1) = ((drawSt c i).1 / 1000000, ((drawSt c i).2.1 * 48271 + 40692 * i + 69621) % 2147483647, (drawSt c i).2.2 ++ [(drawSt c i).1 % 1000000]) := by
            show (if _ then _ else _) = _
            rw [if_pos ⟨h18, hr⟩]
          refine ⟨some (.int i), ?_, ?_⟩
          · rw [e]
          · rw [e]
            show _ = upd H p (.lst (iV (_ ++ _)))
            unfold iV
            rw [List.map_append]
            rfl
        · rename_i hr
          walk_at "go"
          refine ⟨m_ty (.of upd_same), ?_⟩
          walk_at "go"
          refine m_app upd_same hz ?_
          walk_at "go"
          rw [upd_upd]
          have e : drawSt c (i + 1) = _ := if_neg (fun q => hr q.2)
          refine ⟨some (.int i), ?_, ?_⟩
          · rw [e]
          · rw [e]
            show _ = upd H p (.lst (iV (_ ++ _)))
            unfold iV
            rw [List.map_append]
            rfl
      · rename_i h18
        walk_at "go"
        refine ⟨m_ty (.of upd_same), ?_⟩
        walk_at "go"
        refine m_app upd_same hz ?_
        walk_at "go"
        rw [upd_upd]
        have e : drawSt c (i + 1) = _ := if_neg (fun q => h18 q.1)
        refine ⟨some (.int i), ?_, ?_⟩
        · rw [e]
        · rw [e]
          show _ = upd H p (.lst (iV (_ ++ _)))
          unfold iV
          rw [List.map_append]
          rfl
    · rintro σ' H' ⟨b3, rfl, rfl⟩
      exact ⟨rfl, _, _, _, rfl⟩
  · rintro σ' H' ⟨rfl, b1, b2, b3, rfl⟩
    walk_at "go"
    exact hQ p hp
theorem ok__law_draws (T : TK K Z) (B : Blt mg)  (F : FnP K "_law_draws" "_law_draws" s__law_draws f fd) : FnOk P w K mg base CX0 1 f fd ["_law_cell_here", "_law_many"] (sp__law_draws K Z) := by
  have nd := sc__law_draws.nd
  refine F.ok sc__law_draws (fun vs H Q E h => ?_) (fun cdv A outer s H vs Q E hr h => ⟨t__law_draws K Z, PSs.nox (pss_cons (ps_set (i := 2) nd rfl (by first | exact Or.inl rfl | exact Or.inr rfl) (pe_callB Uv.cb_abs (by rfl) (B.at "abs") (by decide +kernel) (pa_cons (pe_callTy Uv.cb_int (by rfl) (B.at "int") (by decide +kernel) (pa_cons (pv 0) pa_nil)) pa_nil)))
      (pss_cons (ps_set (i := 3) nd rfl (by first | exact Or.inl rfl | exact Or.inr rfl) (pe_cmpR Uv.u_ge (pv 2) (pe_op Uv.u_pow pe_int pe_int) (nomark _)))
      (pss_cons (ps_set (i := 4) nd rfl (by first | exact Or.inl rfl | exact Or.inr rfl) (pe_op Uv.u_mod (pe_callTy Uv.cb_int (by rfl) (B.at "int") (by decide +kernel) (pa_cons (pv 2) pa_nil)) pe_int))
      (pss_cons (ps_set (i := 5) nd rfl (by first | exact Or.inl rfl | exact Or.inr rfl) (pe_lst pa_nil))
      (C8.pss_cut (ps_for PassesOwn.never rfl (pi_range1 rfl (B.at "range") (pa_cons (pv 1) pa_nil)) (pg_name (i := 6) nd rfl (by first | exact Or.inl rfl | exact Or.inr rfl)) (pss_cons (ps_set (i := 4) nd rfl (by first | exact Or.inl rfl | exact Or.inr rfl) (pe_op Uv.u_mod (pe_callTy Uv.cb_int (by rfl) (B.at "int") (by decide +kernel) (pa_cons (pe_op Uv.u_add (pe_op Uv.u_add (pe_op Uv.u_mul (pv 4) pe_int) (pe_op Uv.u_mul pe_int (pv 6))) pe_int) pa_nil)) pe_int))
      (pss_one (ps_if (PW.pt (pw_and (Uv.pt_tr (pv 3) (by intro _; rfl)) (pw_and1 (pt_cmpR Uv.u_gt (pv 2) pe_int (nomark _))))) (pss_cons (ps_expr (pe_bm PySem.F.plainAttrs_list PySem.F.slot_list_append PySem.F.type_list_append mt_append (pv 5) (pa_cons (pe_op Uv.u_mod (pe_callTy Uv.cb_int (by rfl) (B.at "int") (by decide +kernel) (pa_cons (pv 2) pa_nil)) pe_int) pa_nil)))
      (pss_one (ps_set (i := 2) nd rfl (by first | exact Or.inl rfl | exact Or.inr rfl) (pe_op Uv.u_fdv (pv 2) pe_int)))) (pss_one (ps_expr (pe_bm PySem.F.plainAttrs_list PySem.F.slot_list_append PySem.F.type_list_append mt_append (pv 5) (pa_cons (pe_op Uv.u_mod (pe_callTy Uv.cb_int (by rfl) (B.at "int") (by decide +kernel) (pa_cons (pe_op Uv.u_fdv (pe_op Uv.u_mod (pe_callTy Uv.cb_int (by rfl) (B.at "int") (by decide +kernel) (pa_cons (pe_op Uv.u_add (pe_op Uv.u_mul (pv 4) pe_int) (pe_op Uv.u_mul pe_int (pv 6))) pa_nil)) pe_int) pe_int) pa_nil)) pe_int) pa_nil))))))))
      (pss_one (ps_ret (pv 5)))))))), pure__law_draws T vs H Q E h⟩)
  unfold sp__law_draws at h
  (repeat (obtain ⟨_, h⟩ := h)); all_goals (subst_vars; rfl)
theorem pure__law_take (T : TK K Z) (vs : List V) (H : Hp) (Q : VK) (E : XK) (h : sp__law_take K Z vs H Q E) : t__law_take K Z { nx := fun _ H' => Q .non H', rt := Q } (L2.start ["_law_draws_here", "_law_place"] vs) H := by
  obtain ⟨a, p, ns, n, rfl, hS, hp, hn, hQ⟩ := h
  walk_at "in"
  unfold t__law_take
  walk_at "go"
  refine r_ixL (.of hp) (v := .int n) rfl ?_
  walk_at "go"
  refine q_set (j := 0) hp rfl ?_
  have e1 : (n : Int) + 1 = ((n + 1 : Nat) : Int) := by omega
  rw [e1]
  have e2 : [V.int (n : Int)].set 0 (.int ((n + 1 : Nat) : Int)) = [.int ((n + 1 : Nat) : Int)] := rfl
  rw [e2]
  refine r_nocut ?_
  have hS2 : SqL K (upd H p (.lst [.int ((n + 1 : Nat) : Int)])) a (iV ns) := hS.upd hn
  have hp2 : upd H p (.lst [.int ((n + 1 : Nat) : Int)]) p = some (.lst [.int ((n + 1 : Nat) : Int)]) := upd_same
  walk_at "go"
  refine r_ixL (.of hp2) (v := .int ((n + 1 : Nat) : Int)) rfl ?_
  walk_at "go"
  refine q_lenL hS2 ?_
  walk_at "go"
  walk_at "b"
  · rename_i hk
    rw [List.length_map] at hk
    walk_at "go"
    unfold takeF at hQ
    rw [getD_out (by omega)] at hQ
    exact hQ
  · rename_i hk
    rw [List.length_map] at hk
    walk_at "go"
    refine r_ixL (.of hp2) (v := .int ((n + 1 : Nat) : Int)) rfl ?_
    walk_at "go"
    have e3 : ((n + 1 : Nat) : Int) - 1 = (n : Int) := by omega
    rw [e3]
    refine r_ixL hS2 (atI_of rfl (iV_at (by omega))) ?_
    walk_at "go"
    exact hQ
theorem ok__law_take (T : TK K Z) (B : Blt mg)  (F : FnP K "_law_take" "_law_take" s__law_take f fd) : FnOk P w K mg base CX0 1 f fd ["_law_draws_here", "_law_place"] (sp__law_take K Z) := by
  have nd := sc__law_take.nd
  refine F.ok sc__law_take (fun vs H Q E h => ?_) (fun cdv A outer s H vs Q E hr h => ⟨t__law_take K Z, PSs.nox (pss_cons (ps_asg (pe_op Uv.u_add (pe_ix Uv.u_ix (pv 1) pe_int (fun _ _ => rfl)) pe_int) (pg_sub (pv 1) pe_int set_list))
      (C8.pss_cut (ps_if (pt_cmpR Uv.u_gt (pe_ix Uv.u_ix (pv 1) pe_int (fun _ _ => rfl)) (pe_callB Uv.cb_len (by rfl) (B.at "len") (by decide +kernel) (pa_cons (pv 0) pa_nil)) (nomark _)) (pss_one (ps_ret pe_int)) pss_nil)
      (pss_one (ps_ret (pe_ix Uv.u_ix (pv 0) (pe_op Uv.u_sub (pe_ix Uv.u_ix (pv 1) pe_int (fun _ _ => rfl)) pe_int) (fun _ _ => rfl)))))), pure__law_take T vs H Q E h⟩)
  unfold sp__law_take at h
  (repeat (obtain ⟨_, h⟩ := h)); all_goals (subst_vars; rfl)
end
end K19

--T law_k19_need_round_counts
namespace K19
open PySem PySem.Spec PyProof.Rows L2 Uv N19
/-- the drawn need: its start, its rises, their top, the last end -/
inductive Gen (s : Int) : List Ri → Int → Int → Prop where
  | nil : Gen s [] s (-1)
  | snoc {rs : List Ri} {top last lo hi : Int} (h : Gen s rs top last) (h1 : last < lo) (h2 : lo < hi) : Gen s (rs ++ [(lo, some hi)]) (top + (hi - lo)) hi
theorem Gen.wf {s : Int} {rs : List Ri} {top last : Int} (g : Gen s rs top last) : ∀ t, Wf last t → Wf (-1) (rs ++ t) := by
  induction g with
  | nil => exact fun t h => h
  | snoc h h1 h2 ih =>
    intro t ht
    rw [List.append_assoc]
    exact ih _ ⟨h1, h2, ht⟩
theorem Gen.top {s : Int} {rs : List Ri} {top last : Int} (g : Gen s rs top last) : ∀ t, topOf s (rs ++ t) = topOf top t := by
  induction g with
  | nil => exact fun t => rfl
  | @snoc rs top last lo hi h h1 h2 ih =>
    intro t
    rw [List.append_assoc, ih]
    show topOf (top + hi - lo) t = topOf (top + (hi - lo)) t
    congr 1
    omega
def NdGood (nd : Nd) : Prop := NdOk nd ∧ nd.rises.length ≤ 1000 ∧ ((nd.start = none ∧ nd.rises = [] ∧ nd.never = none) ∨ ∃ s, nd.start = some s ∧ 0 ≤ s ∧ Wf (-1) nd.rises ∧ ∀ n, nd.never = some n → ∃ t, topOf s nd.rises = some t ∧ t ≤ n)
/-- the law's own need: a list of three -/
structure NL (K : PySem.W.Frag) (H : Hp) (l : Addr) (nd : Nd) : Prop where
  ex : ∃ t xs, SqL K H l [vO nd.start, .ref t, vO nd.never] ∧ SqT K H t xs ∧ Pairs K H xs nd.rises
/-- the draws are taken one by one -/
structure Tk (K : PySem.W.Frag) (a p : Addr) (ns : List Int) (H H' : Hp) : Prop where
  but : But p H H'
  at_ : ∃ n : Nat, H' p = some (.lst [.int n])
theorem takeF_rg {ns : List Int} (h : ∀ x ∈ ns, 0 ≤ x ∧ x < 1000000) (n : Nat) : 0 ≤ takeF ns n ∧ takeF ns n < 1000000 := by
  unfold takeF
  rcases Nat.lt_or_ge n ns.length with q | q
  · rw [List.getD, List.getElem?_eq_getElem q]
    exact h _ (List.getElem_mem q)
  · rw [getD_out q]
    decide
section
variable {P : Program} {w : World} {K : PySem.W.Frag} {mg : Str → Option Value} {base : Heap} {Z : Ad} {f : Addr} {fd : FuncData}
theorem Pairs.snoc_inv {H : Hp} : ∀ {xs : List V} {rs : List Ri} {r : Ri}, Pairs K H xs (rs ++ [r]) → ∃ ys x, xs = ys ++ [x] ∧ Pairs K H ys rs ∧ Pair K H x r
  | _, [], r, h => by
    cases h with
    | cons q t => cases t; exact ⟨[], _, rfl, .nil, q⟩
  | _, r0 :: rs, r, h => by
    cases h with
    | cons q t =>
      obtain ⟨ys, x, e, h1, h2⟩ := Pairs.snoc_inv t
      subst e
      exact ⟨_ :: ys, x, rfl, .cons q h1, h2⟩
theorem tk_take {a p : Addr} {ns : List Int} {H H' : Hp} {Q : VK} {E : XK} (t : Tk K a p ns H H') (hS : SqL K H a (iV ns)) (hn : a ≠ p) (hr : ∀ x ∈ ns, 0 ≤ x ∧ x < 1000000)
    (k : ∀ v H2, 0 ≤ v → v < 1000000 → Tk K a p ns H H2 → (∀ q, q ≠ p → H2 q = H' q) → Q (.int v) H2) : sp__law_take K Z ([.ref a, .ref p] ++ []) H' Q E := by
  obtain ⟨n, hp⟩ := t.at_
  obtain ⟨r1, r2⟩ := takeF_rg hr n
  refine ⟨a, p, ns, n, rfl, t.but.seq hn hS, hp, hn, k _ _ r1 r2 ⟨t.but.trans But.upd, _, upd_same⟩ fun q hq => upd_ne hq⟩
theorem Tk.new {a p q : Addr} {ns : List Int} {H H' : Hp} {o : HO} (t : Tk K a p ns H H') (hq : H' q = none) : Tk K a p ns H (upd H' q o) := by
  obtain ⟨n, hp⟩ := t.at_
  exact ⟨t.but.new hq, n, by rw [upd_ne (ne_of_none hp hq)]; exact hp⟩
theorem Tk.mut {a p q : Addr} {ns : List Int} {H H' : Hp} {o : HO} (t : Tk K a p ns H H') (hq : H q = none) (hn : q ≠ p) : Tk K a p ns H (upd H' q o) := by
  obtain ⟨n, hp⟩ := t.at_
  refine ⟨fun b u h1 h2 => ?_, n, by rw [upd_ne (Ne.symm hn)]; exact hp⟩
  have e := t.but b u h1 h2
  rw [upd_ne (ne_of_none h2 hq)]
  exact e
end
abbrev s__law_need : Stmt := (top 28)
theorem sc__law_need : FnScope ["_law_draws_here", "_law_place", "_law_kind", "_law_start", "_law_rises", "_law_top", "_law_edge", "_law_k", "_law_width", "_law_never"] ["_law_draws_here", "_law_place"] (defScope s__law_need) := ⟨rfl, rfl, rfl, by decide +kernel, rfl, by decide +kernel, by decide +kernel⟩
def t__law_need (K : PySem.W.Frag) (Z : Ad) : TS :=
    (tSeq (tAsg (tCall (sp__law_take K Z) [] E0 (tCons (tVar 0) (tCons (tVar 1) tNil))) (gName 2))
    (C8.tCut (tIfS (tTest (tOp (Uv.rEqU K) (tOp Uv.rModU (tCB Uv.rInt (tCons (tVar 2) tNil)) (tC (.int 12))) (tC (.int 11)))) (tRet (tLst (tCons (tC .non) (tCons (tTup tNil) (tCons (tC .non) tNil))))) tNext)
    (tSeq (tAsg (tOp Uv.rModU (tCB Uv.rInt (tCons (tCall (sp__law_take K Z) [] E0 (tCons (tVar 0) (tCons (tVar 1) tNil))) tNil)) (tC (.int 10))) (gName 3))
    (C8.tCut (tIfS (tTest (tOp (Uv.rEqU K) (tOp Uv.rModU (tCB Uv.rInt (tCons (tOp Uv.rFdvU (tVar 2) (tC (.int 12))) tNil)) (tC (.int 6))) (tC (.int 5)))) (tAsg (tOp (Uv.rAddU K) (tVar 3) (tOp Uv.rPowU (tC (.int 10)) (tC (.int 30)))) (gName 3)) tNext)
    (tSeq (tAsg (tLst tNil) (gName 4))
    (tSeq (tAsg (tVar 3) (gName 5))
    (tSeq (tAsg (tOp Uv.rModU (tCB Uv.rInt (tCons (tCall (sp__law_take K Z) [] E0 (tCons (tVar 0) (tCons (tVar 1) tNil))) tNil)) (tC (.int 6))) (gName 6))
    (C8.tCut (tFor (iRng1 (tCons (tOp Uv.rModU (tCB Uv.rInt (tCons (tCall (sp__law_take K Z) [] E0 (tCons (tVar 0) (tCons (tVar 1) tNil))) tNil)) (tC (.int 6))) tNil)) (gName 7) (tSeq (tAsg (tOp (Uv.rAddU K) (tC (.int 1)) (tOp Uv.rModU (tCB Uv.rInt (tCons (tCall (sp__law_take K Z) [] E0 (tCons (tVar 0) (tCons (tVar 1) tNil))) tNil)) (tC (.int 6)))) (gName 8))
    (C8.tCut (tIfS (tTest (tOp (Uv.rEqU K) (tOp Uv.rModU (tCB Uv.rInt (tCons (tOp Uv.rFdvU (tVar 2) (tC (.int 72))) tNil)) (tC (.int 8))) (tC (.int 7)))) (tAsg (tOp Uv.rMulU (tVar 8) (tOp Uv.rPowU (tC (.int 10)) (tC (.int 20)))) (gName 8)) tNext)
    (tSeq (tDrop (tBM K "list" rAppend (tVar 4) (tCons (tTup (tCons (tVar 6) (tCons (tOp (Uv.rAddU K) (tVar 6) (tVar 8)) tNil))) tNil)))
    (tSeq (tAsg (tOp (Uv.rAddU K) (tVar 5) (tVar 8)) (gName 5))
    (tAsg (tOp (Uv.rAddU K) (tOp (Uv.rAddU K) (tOp (Uv.rAddU K) (tVar 6) (tVar 8)) (tC (.int 1))) (tOp Uv.rModU (tCB Uv.rInt (tCons (tCall (sp__law_take K Z) [] E0 (tCons (tVar 0) (tCons (tVar 1) tNil))) tNil)) (tC (.int 6)))) (gName 6)))))))
    (C8.tCut (tIfS (tAnd (tTest (tOp Uv.rGtU (tCB (Uv.rLenU K) (tCons (tVar 4) tNil)) (tC (.int 0)))) (tTest (tOp (Uv.rEqU K) (tOp Uv.rModU (tCB Uv.rInt (tCons (tOp Uv.rFdvU (tVar 2) (tC (.int 576))) tNil)) (tC (.int 3))) (tC (.int 0))))) (tRet (tLst (tCons (tVar 3) (tCons (tCB (Uv.rTupU K) (tCons (tOp (Uv.rAddU K) (tSl (Uv.rSlU K) (tVar 4) tNoPart (tPart (tUn (rU fun i => .int (-i)) (tC (.int 1))))) (tLst (tCons (tTup (tCons (tOp (Uv.rIxU K) (tOp (Uv.rIxU K) (tVar 4) (tUn (rU fun i => .int (-i)) (tC (.int 1)))) (tC (.int 0))) (tCons (tC .non) tNil))) tNil))) tNil)) (tCons (tC .non) tNil))))) tNext)
    (tSeq (tAsg (tC .non) (gName 9))
    (C8.tCut (tIfS (tTest (tOp (Uv.rEqU K) (tOp Uv.rModU (tCB Uv.rInt (tCons (tOp Uv.rFdvU (tVar 2) (tC (.int 576))) tNil)) (tC (.int 3))) (tC (.int 1)))) (tAsg (tOp (Uv.rAddU K) (tVar 5) (tOp Uv.rModU (tCB Uv.rInt (tCons (tCall (sp__law_take K Z) [] E0 (tCons (tVar 0) (tCons (tVar 1) tNil))) tNil)) (tC (.int 5)))) (gName 9)) tNext)
    (tRet (tLst (tCons (tVar 3) (tCons (tCB (Uv.rTupU K) (tCons (tVar 4) tNil)) (tCons (tVar 9) tNil))))))))))))))))
def sp__law_need (K : PySem.W.Frag) (_ : Ad) : Sp := fun vs H Q _ => ∃ (a p : Addr) (ns : List Int) (n : Nat), vs = [.ref a, .ref p] ∧ SqL K H a (iV ns) ∧ H p = some (.lst [.int n]) ∧ a ≠ p ∧ (∀ x ∈ ns, 0 ≤ x ∧ x < 1000000) ∧
  ∀ l nd H', NdGood nd → NL K H' l nd → But p H H' → Q (.ref l) H'
section
variable {P : Program} {w : World} {K : PySem.W.Frag} {mg : Str → Option Value} {base : Heap} {Z : Ad} {f : Addr} {fd : FuncData}
theorem pure__law_need (T : TK K Z) (vs : List V) (H : Hp) (Q : VK) (E : XK) (h : sp__law_need K Z vs H Q E) : t__law_need K Z { nx := fun _ H' => Q .non H', rt := Q } (L2.start ["_law_draws_here", "_law_place", "_law_kind", "_law_start", "_law_rises", "_law_top", "_law_edge", "_law_k", "_law_width", "_law_never"] vs) H := by
  obtain ⟨a, p, ns, n, rfl, hS, hp, hn, hr, hQ⟩ := h
  have t0 : Tk K a p ns H H := ⟨But.refl _ _, n, hp⟩
  walk_at "in"
  unfold t__law_need
  walk_at "go"
  refine tk_take t0 hS hn hr fun kind H1 k0 k1 t1 _ => ?_
  walk_at "go"
  refine r_nocut ?_
  walk_at "go"
  walk_at "b"
  · walk_at "go"
    refine ⟨sz (by decide), fun t ht => ?_⟩
    walk_at "go"
    refine ⟨show (3 : Nat) ≤ sizeLine by decide, fun l hl => ?_⟩
    have t2 := (t1.new (o := .tup []) ht).new (o := .lst [.non, .ref t, .non]) hl
    walk_at "go"
    refine hQ l ⟨none, [], none⟩ _ ⟨.off, Nat.zero_le _, .inl ⟨rfl, rfl, rfl⟩⟩ ⟨t, [], .of upd_same, SqT.of ?_, .nil⟩ t2.but
    rw [upd_ne (ne_of_none upd_same hl)]
    exact upd_same
  · walk_at "go"
    refine tk_take t1 hS hn hr fun v2 H2 v20 v21 t2 _ => ?_
    walk_at "go"
    refine r_cut (fun σ' H' => H' = H2 ∧ ∃ s : Int, σ' = [some (.ref a), some (.ref p), some (.int kind), some (.int s), none, none, none, none, none, none] ∧ 0 ≤ s ∧ s < 10 ^ 31) ?_ ?_
    · walk_at "go"
      walk_at "b"
      · walk_at "go"
        have e30 : (10 : Int) ^ (30 : Int).toNat = 10 ^ 30 := rfl
        rw [e30]
        exact ⟨rfl, _, rfl, by omega, by omega⟩
      · walk_at "go"
        exact ⟨rfl, _, rfl, by omega, by omega⟩
    · rintro σ' H' ⟨rfl, s, rfl, s0, s1⟩
      walk_at "go"
      refine ⟨sz (by decide), fun r hr0 => ?_⟩
      have nr : r ≠ p := fun z => by
        obtain ⟨m, q⟩ := t2.at_
        rw [z, q] at hr0
        cases hr0
      have fr : H r = none := by
        cases q : H r with
        | none => rfl
        | some o =>
          rw [t2.but _ _ nr q] at hr0
          cases hr0
      have t3 := t2.new (o := .lst []) hr0
      walk_at "go"
      refine tk_take t3 hS hn hr fun v4 H4 v40 v41 t4 e4 => ?_
      have r4 : H4 r = some (.lst []) := by rw [e4 r nr]; exact upd_same
      walk_at "go"
      refine r_cut (fun σ' H' => ∃ (top last : Int) (rs : List Ri) (acc : List V) (x6 x7 x8 : Option V), σ' = [some (.ref a), some (.ref p), some (.int kind), some (.int s), some (.ref r), some (.int top), x6, x7, x8, none] ∧ Tk K a p ns H H' ∧ H' r = some (.lst acc) ∧ Pairs K H' acc rs ∧ Gen s rs top last ∧ 0 ≤ top ∧ top < 10 ^ 32 ∧ rs.length ≤ 6) ?_ ?_
      · refine r_forR ?_
        walk_at "go"
        refine tk_take t4 hS hn hr fun v5 H5 v50 v51 t5 e5 => ?_
        have r5 : H5 r = some (.lst []) := by rw [e5 r nr]; exact r4
        walk_at "go"
        refine r_loopR (n := v5 % 6) (by omega) (by omega) (fun i σ' H' => ∃ (top last edge : Int) (rs : List Ri) (acc : List V) (x7 x8 : Option V), σ' = [some (.ref a), some (.ref p), some (.int kind), some (.int s), some (.ref r), some (.int top), some (.int edge), x7, x8, none] ∧ Tk K a p ns H H' ∧ H' r = some (.lst acc) ∧ Pairs K H' acc rs ∧ Gen s rs top last ∧ 0 ≤ top ∧ top ≤ 10 ^ 31 + i * 10 ^ 21 ∧ rs.length = i ∧ last < edge) ?_ ?_ ?_
        · exact ⟨s, -1, v4 % 6, [], [], none, none, rfl, t5, r5, .nil, .nil, s0, by omega, rfl, by omega⟩
        · rintro i σ' H' hi ⟨top, last, edge, rs, acc, x7, x8, rfl, tt, rr, pp, gg, tp0, tp1, ll, le⟩
          walk_at "go"
          refine tk_take tt hS hn hr fun v6 H6 v60 v61 t6 e6 => ?_
          have r6 : H6 r = some (.lst acc) := by rw [e6 r nr]; exact rr
          have p6 : Pairs K H6 acc rs := pp.mono fun b ys q => by
            obtain ⟨m, qp⟩ := tt.at_
            have bb : But p H' H6 := fun c o hc ho => by rw [e6 c hc]; exact ho
            exact bb.seqT (.inl ⟨_, qp⟩) q
          walk_at "go"
          refine r_cut (fun σ' H'' => H'' = H6 ∧ ∃ wd : Int, σ' = [some (.ref a), some (.ref p), some (.int kind), some (.int s), some (.ref r), some (.int top), some (.int edge), some (.int i), some (.int wd), none] ∧ 0 < wd ∧ wd ≤ 10 ^ 21) ?_ ?_
          · walk_at "go"
            walk_at "b"
            · walk_at "go"
              have e20 : (10 : Int) ^ (20 : Int).toNat = 10 ^ 20 := rfl
              rw [e20]
              refine r_mulI (mul_ok (by omega) (by omega)) ?_
              walk_at "go"
              exact ⟨rfl, _, rfl, by omega, by omega⟩
            · walk_at "go"
              exact ⟨rfl, _, rfl, by omega, by omega⟩
          · rintro σ' H'' ⟨rfl, wd, rfl, w0, w1⟩
            walk_at "go"
            refine ⟨m_ty (.of r6), ?_⟩
            walk_at "go"
            refine ⟨two_le, fun T0 hT => ?_⟩
            have n1 : r ≠ T0 := ne_of_none r6 hT
            walk_at "go"
            have r6' : upd H'' T0 (.tup [.int edge, .int (edge + wd)]) r = some (.lst acc) := by rw [upd_ne n1]; exact r6
            have z6 : acc.length < sizeLine := by
              rw [p6.len, ll]
              have : (100000 : Nat) < sizeLine := by decide
              omega
            refine m_app r6' z6 ?_
            have t7 := (t6.new (o := .tup [.int edge, .int (edge + wd)]) hT).mut (o := .lst (acc ++ [.ref T0])) fr nr
            have sm : Same H'' (upd H'' T0 (.tup [.int edge, .int (edge + wd)])) := Same.new hT
            have p7 : Pairs K (upd (upd H'' T0 (.tup [.int edge, .int (edge + wd)])) r (.lst (acc ++ [.ref T0]))) (acc ++ [.ref T0]) (rs ++ [(edge, some (edge + wd))]) :=
              (p6.mono fun b ys q => (sm.tup q).upd (.inl ⟨acc, sm _ _ r6⟩)).snoc ⟨T0, rfl, .inl (.inl (by rw [upd_ne (Ne.symm n1)]; exact upd_same))⟩
            walk_at "go"
            refine tk_take t7 hS hn hr fun v8 H8 v80 v81 t8 e8 => ?_
            walk_at "go"
            have g7 := gg.snoc le (show edge < edge + wd by omega)
            refine ⟨top + wd, edge + wd, edge + wd + 1 + v8 % 6, rs ++ [(edge, some (edge + wd))], acc ++ [.ref T0], _, _, rfl, t8, by rw [e8 r nr]; exact upd_same, ?_, ?_, by omega, by omega, by rw [List.length_append, ll]; rfl, ?_⟩
            · exact p7.mono fun b ys q => by
                obtain ⟨m, qp⟩ := t7.at_
                have bb : But p _ H8 := fun c o hc ho => by rw [e8 c hc]; exact ho
                exact bb.seqT (.inl ⟨_, qp⟩) q
            · have e : top + (edge + wd - edge) = top + wd := by omega
              rw [e] at g7
              exact g7
            · omega
        · rintro σ' H' ⟨top, last, edge, rs, acc, x7, x8, rfl, tt, rr, pp, gg, tp0, tp1, ll, le⟩
          exact ⟨top, last, rs, acc, _, _, _, rfl, tt, rr, pp, gg, tp0, by omega, by omega⟩
      · rintro σ' H' ⟨top, last, rs, acc, x6, x7, x8, rfl, tt, rr, pp, gg, tp0, tp1, ll⟩
        have hsB : Bd s := ⟨s0, by omega⟩
        have wrs : Wf (-1) rs := by
          have q := gg.wf [] trivial
          rw [List.append_nil] at q
          exact q
        have trs : topOf s rs = some top := by
          have q := gg.top []
          rw [List.append_nil] at q
          exact q
        refine r_cut (fun σ' H'' => H'' = H' ∧ σ' = [some (.ref a), some (.ref p), some (.int kind), some (.int s), some (.ref r), some (.int top), x6, x7, x8, none]) ?_ ?_
        · walk_at "go"
          refine q_lenL (.of rr) ?_
          walk_at "go"
          walk_at "b"
          · rename_i hlen
            walk_at "go"
            walk_at "b"
            · walk_at "go"
              obtain ⟨rs', top', last', lo, hi, g', lt1, lt2, e1, e2, e3⟩ : ∃ rs' top' last' lo hi, Gen s rs' top' last' ∧ last' < lo ∧ lo < hi ∧ rs = rs' ++ [(lo, some hi)] ∧ top = top' + (hi - lo) ∧ last = hi := by
                cases gg with
                | nil =>
                  rw [pp.len] at hlen
                  simp at hlen
                | snoc g l1 l2 => exact ⟨_, _, _, _, _, g, l1, l2, rfl, rfl, rfl⟩
              subst e1 e2 e3
              obtain ⟨acc', x, e4, pp', ⟨c, e5, hc⟩⟩ := pp.snoc_inv
              subst e4 e5
              refine q_slL (.of rr) fun l1 hl1 => ?_
              rw [cut_last]
              walk_at "go"
              have s1 : Same H' (upd H' l1 (.lst acc')) := Same.new hl1
              refine r_ixL (.of (s1 _ _ rr)) at_last ?_
              walk_at "go"
              refine r_ixT (s1.tup hc) (v := .int lo) rfl ?_
              walk_at "go"
              refine ⟨two_le, fun T0 hT => ?_⟩
              have s2 : Same (upd H' l1 (.lst acc')) (upd (upd H' l1 (.lst acc')) T0 (.tup [.int lo, .non])) := Same.new hT
              walk_at "go"
              refine ⟨show (1 : Nat) ≤ sizeLine by decide, fun l2 hl2 => ?_⟩
              have s3 : Same (upd (upd H' l1 (.lst acc')) T0 (.tup [.int lo, .non])) (upd (upd (upd H' l1 (.lst acc')) T0 (.tup [.int lo, .non])) l2 (.lst [.ref T0])) := Same.new hl2
              walk_at "go"
              have za : acc'.length + 1 ≤ sizeLine := by
                have q := pp'.len
                rw [List.length_append] at ll
                have : (1000 : Nat) ≤ sizeLine := by decide
                omega
              refine q_catL (s3 _ _ (s2 _ _ upd_same)) upd_same za fun l3 hl3 => ?_
              have s4 : Same (upd (upd (upd H' l1 (.lst acc')) T0 (.tup [.int lo, .non])) l2 (.lst [.ref T0])) (upd (upd (upd (upd H' l1 (.lst acc')) T0 (.tup [.int lo, .non])) l2 (.lst [.ref T0])) l3 (.lst (acc' ++ [.ref T0]))) := Same.new hl3
              walk_at "go"
              refine q_tupL (.of upd_same) fun t ht => ?_
              have s5 := Same.new (o := .tup (acc' ++ [.ref T0])) ht
              walk_at "go"
              refine ⟨show (3 : Nat) ≤ sizeLine by decide, fun l hl => ?_⟩
              have s6 := Same.new (o := .lst [.int s, .ref t, .non]) hl
              have sAll := ((((s1.trans s2).trans s3).trans s4).trans s5).trans s6
              have tf := ((((((tt.new (o := .lst acc') hl1).new (o := .tup [.int lo, .non]) hT).new (o := .lst [.ref T0]) hl2).new (o := .lst (acc' ++ [.ref T0])) hl3).new (o := .tup (acc' ++ [.ref T0])) ht).new (o := .lst [.int s, .ref t, .non]) hl)
              walk_at "go"
              have wo : Wf (-1) (rs' ++ [(lo, none)]) := g'.wf _ ⟨lt1, rfl⟩
              have pf : Pairs K _ (acc' ++ [.ref T0]) (rs' ++ [(lo, none)]) := (pp'.mono fun b ys q => sAll.tup q).snoc ⟨T0, rfl, (((s3.trans s4).trans s5).trans s6).tup (.of upd_same)⟩
              refine hQ l ⟨some s, rs' ++ [(lo, none)], none⟩ _ ⟨.on hsB wo (fun y z => nomatch z), by rw [List.length_append] at ll; show (rs' ++ [(lo, none)]).length ≤ 1000; rw [List.length_append]; show rs'.length + 1 ≤ 1000; omega, .inr ⟨s, rfl, s0, wo, fun n z => nomatch z⟩⟩ ⟨t, _, .of upd_same, s6.tup (.of upd_same), pf⟩ tf.but
            · walk_at "go"
              exact ⟨rfl, rfl⟩
          · walk_at "go"
            exact ⟨rfl, rfl⟩
        · rintro σ' H'' ⟨rfl, rfl⟩
          walk_at "go"
          refine r_cut (fun σ' H2 => ∃ nv : Option Int, σ' = [some (.ref a), some (.ref p), some (.int kind), some (.int s), some (.ref r), some (.int top), x6, x7, x8, some (vO nv)] ∧ (∀ n, nv = some n → top ≤ n ∧ n < 10 ^ 33) ∧ Tk K a p ns H H2 ∧ H2 r = some (.lst acc) ∧ Pairs K H2 acc rs) ?_ ?_
          · walk_at "go"
            walk_at "b"
            · walk_at "go"
              refine tk_take tt hS hn hr fun v9 H9 v90 v91 t9 e9 => ?_
              walk_at "go"
              refine ⟨some (top + v9 % 5), rfl, fun n e => by cases e; omega, t9, by rw [e9 r nr]; exact rr, pp.mono fun b ys q => ?_⟩
              obtain ⟨m, qp⟩ := tt.at_
              have bb : But p _ H9 := fun c o hc ho => by rw [e9 c hc]; exact ho
              exact bb.seqT (.inl ⟨_, qp⟩) q
            · walk_at "go"
              exact ⟨none, rfl, fun n e => (nomatch e), tt, rr, pp⟩
          · rintro σ' H2 ⟨nv, rfl, hnv, tt2, rr2, pp2⟩
            walk_at "go"
            refine q_tupL (.of rr2) fun t ht => ?_
            walk_at "go"
            refine ⟨show (3 : Nat) ≤ sizeLine by decide, fun l hl => ?_⟩
            have t9 := (tt2.new (o := .tup acc) ht).new (o := .lst [.int s, .ref t, vO nv]) hl
            have s1 : Same H2 (upd H2 t (.tup acc)) := Same.new ht
            have s2 : Same (upd H2 t (.tup acc)) (upd (upd H2 t (.tup acc)) l (.lst [.int s, .ref t, vO nv])) := Same.new hl
            walk_at "go"
            refine hQ l ⟨some s, rs, nv⟩ _ ⟨.on hsB wrs ?_, by show rs.length ≤ 1000; omega, .inr ⟨s, rfl, s0, wrs, fun n e => ⟨top, trs, (hnv n e).1⟩⟩⟩ ⟨t, acc, .of upd_same, s2.tup (.of upd_same), pp2.mono fun b ys q => s2.tup (s1.tup q)⟩ t9.but
            intro y hy
            have := hnv y hy
            exact ⟨by omega, by omega⟩
theorem ok__law_need (T : TK K Z) (B : Blt mg) (c__law_take : C8.Cal P w K mg base 1 "_law_take" (sp__law_take K Z) []) (F : FnP K "_law_need" "_law_need" s__law_need f fd) : FnOk P w K mg base CX0 2 f fd ["_law_draws_here", "_law_place"] (sp__law_need K Z) := by
  have nd := sc__law_need.nd
  refine F.ok sc__law_need (fun vs H Q E h => ?_) (fun cdv A outer s H vs Q E hr h => ⟨t__law_need K Z, PSs.nox (pss_cons (ps_set (i := 2) nd rfl (by first | exact Or.inl rfl | exact Or.inr rfl) (C8.pe_c c__law_take hr (by decide) rfl (pa_cons (pv 0) (pa_cons (pv 1) pa_nil))))
      (C8.pss_cut (ps_if (pt_cmpR (Uv.u_eq (Uv.huR hr)) (pe_op Uv.u_mod (pe_callTy Uv.cb_int (by rfl) (B.at "int") (by decide +kernel) (pa_cons (pv 2) pa_nil)) pe_int) pe_int (nomark _)) (pss_one (ps_ret (pe_lst (pa_cons pe_non (pa_cons (pe_tup pa_nil) (pa_cons pe_non pa_nil)))))) pss_nil)
      (pss_cons (ps_set (i := 3) nd rfl (by first | exact Or.inl rfl | exact Or.inr rfl) (pe_op Uv.u_mod (pe_callTy Uv.cb_int (by rfl) (B.at "int") (by decide +kernel) (pa_cons (C8.pe_c c__law_take hr (by decide) rfl (pa_cons (pv 0) (pa_cons (pv 1) pa_nil))) pa_nil)) pe_int))
      (C8.pss_cut (ps_if (pt_cmpR (Uv.u_eq (Uv.huR hr)) (pe_op Uv.u_mod (pe_callTy Uv.cb_int (by rfl) (B.at "int") (by decide +kernel) (pa_cons (pe_op Uv.u_fdv (pv 2) pe_int) pa_nil)) pe_int) pe_int (nomark _)) (pss_one (ps_set (i := 3) nd rfl (by first | exact Or.inl rfl | exact Or.inr rfl) (pe_op Uv.u_add (pv 3) (pe_op Uv.u_pow pe_int pe_int)))) pss_nil)
      (pss_cons (ps_set (i := 4) nd rfl (by first | exact Or.inl rfl | exact Or.inr rfl) (pe_lst pa_nil))
      (pss_cons (ps_set (i := 5) nd rfl (by first | exact Or.inl rfl | exact Or.inr rfl) (pv 3))
      (pss_cons (ps_set (i := 6) nd rfl (by first | exact Or.inl rfl | exact Or.inr rfl) (pe_op Uv.u_mod (pe_callTy Uv.cb_int (by rfl) (B.at "int") (by decide +kernel) (pa_cons (C8.pe_c c__law_take hr (by decide) rfl (pa_cons (pv 0) (pa_cons (pv 1) pa_nil))) pa_nil)) pe_int))
      (C8.pss_cut (ps_for PassesOwn.never rfl (pi_range1 rfl (B.at "range") (pa_cons (pe_op Uv.u_mod (pe_callTy Uv.cb_int (by rfl) (B.at "int") (by decide +kernel) (pa_cons (C8.pe_c c__law_take hr (by decide) rfl (pa_cons (pv 0) (pa_cons (pv 1) pa_nil))) pa_nil)) pe_int) pa_nil)) (pg_name (i := 7) nd rfl (by first | exact Or.inl rfl | exact Or.inr rfl)) (pss_cons (ps_set (i := 8) nd rfl (by first | exact Or.inl rfl | exact Or.inr rfl) (pe_op Uv.u_add pe_int (pe_op Uv.u_mod (pe_callTy Uv.cb_int (by rfl) (B.at "int") (by decide +kernel) (pa_cons (C8.pe_c c__law_take hr (by decide) rfl (pa_cons (pv 0) (pa_cons (pv 1) pa_nil))) pa_nil)) pe_int)))
      (C8.pss_cut (ps_if (pt_cmpR (Uv.u_eq (Uv.huR hr)) (pe_op Uv.u_mod (pe_callTy Uv.cb_int (by rfl) (B.at "int") (by decide +kernel) (pa_cons (pe_op Uv.u_fdv (pv 2) pe_int) pa_nil)) pe_int) pe_int (nomark _)) (pss_one (ps_set (i := 8) nd rfl (by first | exact Or.inl rfl | exact Or.inr rfl) (pe_op Uv.u_mul (pv 8) (pe_op Uv.u_pow pe_int pe_int)))) pss_nil)
      (pss_cons (ps_expr (pe_bm PySem.F.plainAttrs_list PySem.F.slot_list_append PySem.F.type_list_append mt_append (pv 4) (pa_cons (pe_tup (pa_cons (pv 6) (pa_cons (pe_op Uv.u_add (pv 6) (pv 8)) pa_nil))) pa_nil)))
      (pss_cons (ps_set (i := 5) nd rfl (by first | exact Or.inl rfl | exact Or.inr rfl) (pe_op Uv.u_add (pv 5) (pv 8)))
      (pss_one (ps_set (i := 6) nd rfl (by first | exact Or.inl rfl | exact Or.inr rfl) (pe_op Uv.u_add (pe_op Uv.u_add (pe_op Uv.u_add (pv 6) (pv 8)) pe_int) (pe_op Uv.u_mod (pe_callTy Uv.cb_int (by rfl) (B.at "int") (by decide +kernel) (pa_cons (C8.pe_c c__law_take hr (by decide) rfl (pa_cons (pv 0) (pa_cons (pv 1) pa_nil))) pa_nil)) pe_int)))))))))
      (C8.pss_cut (ps_if (PW.pt (pw_and (pt_cmpR Uv.u_gt (pe_callB Uv.cb_len (by rfl) (B.at "len") (by decide +kernel) (pa_cons (pv 4) pa_nil)) pe_int (nomark _)) (pw_and1 (pt_cmpR (Uv.u_eq (Uv.huR hr)) (pe_op Uv.u_mod (pe_callTy Uv.cb_int (by rfl) (B.at "int") (by decide +kernel) (pa_cons (pe_op Uv.u_fdv (pv 2) pe_int) pa_nil)) pe_int) pe_int (nomark _))))) (pss_one (ps_ret (pe_lst (pa_cons (pv 3) (pa_cons (pe_callTy Uv.cb_tuple (by rfl) (B.at "tuple") (by decide +kernel) (pa_cons (pe_op Uv.u_add (pe_slice Uv.u_sl (pv 4) po_none (po_some (pe_un un_neg pe_int))) (pe_lst (pa_cons (pe_tup (pa_cons (pe_ix Uv.u_ix (pe_ix Uv.u_ix (pv 4) (pe_un un_neg pe_int) (fun _ _ => rfl)) pe_int (fun _ _ => rfl)) (pa_cons pe_non pa_nil))) pa_nil))) pa_nil)) (pa_cons pe_non pa_nil)))))) pss_nil)
      (pss_cons (ps_set (i := 9) nd rfl (by first | exact Or.inl rfl | exact Or.inr rfl) pe_non)
      (C8.pss_cut (ps_if (pt_cmpR (Uv.u_eq (Uv.huR hr)) (pe_op Uv.u_mod (pe_callTy Uv.cb_int (by rfl) (B.at "int") (by decide +kernel) (pa_cons (pe_op Uv.u_fdv (pv 2) pe_int) pa_nil)) pe_int) pe_int (nomark _)) (pss_one (ps_set (i := 9) nd rfl (by first | exact Or.inl rfl | exact Or.inr rfl) (pe_op Uv.u_add (pv 5) (pe_op Uv.u_mod (pe_callTy Uv.cb_int (by rfl) (B.at "int") (by decide +kernel) (pa_cons (C8.pe_c c__law_take hr (by decide) rfl (pa_cons (pv 0) (pa_cons (pv 1) pa_nil))) pa_nil)) pe_int)))) pss_nil)
      (pss_one (ps_ret (pe_lst (pa_cons (pv 3) (pa_cons (pe_callTy Uv.cb_tuple (by rfl) (B.at "tuple") (by decide +kernel) (pa_cons (pv 4) pa_nil)) (pa_cons (pv 9) pa_nil))))))))))))))))), pure__law_need T vs H Q E h⟩)
  unfold sp__law_need at h
  (repeat (obtain ⟨_, h⟩ := h)); all_goals (subst_vars; rfl)
end
end K19

--T law_k19_need_round_counts
namespace K19
open PySem PySem.Spec PyProof.Rows L2 Uv N19
def lawV (v : Int) : List Ri → Int → Int
  | [], _ => v
  | (lo, none) :: r, k => lawV (if lo < k then v + k - lo else v) r k
  | (lo, some h) :: r, k => lawV (if lo < k ∧ k < h then v + k - lo else if lo < k then v + h - lo else v) r k
theorem lawV_low {k : Int} : ∀ {rs : List Ri} {e v : Int}, Wf e rs → k ≤ e → lawV v rs k = v
  | [], e, v, _, _ => rfl
  | (lo, none) :: r, e, v, w, hk => by
    obtain ⟨h1, rfl⟩ := (show e < lo ∧ r = [] from w)
    show (if lo < k then v + k - lo else v) = v
    rw [if_neg (by omega)]
  | (lo, some h) :: r, e, v, w, hk => by
    obtain ⟨h1, h2, w2⟩ := (show e < lo ∧ lo < h ∧ Wf h r from w)
    show lawV (if lo < k ∧ k < h then v + k - lo else if lo < k then v + h - lo else v) r k = v
    rw [if_neg (by omega), if_neg (by omega)]
    exact lawV_low w2 (by omega)
theorem lawV_eq {k : Int} : ∀ {rs : List Ri} {e v : Int}, Wf e rs → lawV v rs k = valAt v rs k
  | [], e, v, _ => rfl
  | (lo, none) :: r, e, v, w => by
    obtain ⟨h1, rfl⟩ := (show e < lo ∧ r = [] from w)
    show (if lo < k then v + k - lo else v) = _
    rw [val_open]
    split <;> split <;> omega
  | (lo, some h) :: r, e, v, w => by
    obtain ⟨h1, h2, w2⟩ := (show e < lo ∧ lo < h ∧ Wf h r from w)
    show lawV (if lo < k ∧ k < h then v + k - lo else if lo < k then v + h - lo else v) r k = _
    by_cases c : k < h
    · rw [val_in w (by omega)]
      by_cases c2 : lo < k
      · rw [if_pos ⟨c2, c⟩, if_neg (by omega), lawV_low w2 (by omega)]
      · rw [if_neg (by omega), if_neg c2, if_pos (by omega), lawV_low w2 (by omega)]
    · rw [val_out w (by omega), if_neg (by omega), if_pos (by omega)]
      exact lawV_eq w2
/-- None is the greatest -/
def leB (a b : Option Int) : Bool := match b with
  | none => true
  | some y => match a with
    | none => false
    | some x => decide (x ≤ y)
def vals (nd : Nd) (k : Option Int) (m : Nat) : List V := (List.range m).map fun j => vO (it nd.f j k)
theorem vals_len (nd : Nd) (k : Option Int) (m : Nat) : (vals nd k m).length = m := by simp [vals]
theorem vals_at {nd : Nd} {k : Option Int} {m j : Nat} (h : j < m) : (vals nd k m)[j]? = some (vO (it nd.f j k)) := by
  unfold vals
  rw [List.getElem?_map, List.getElem?_range h]
  rfl
theorem vals_succ (nd : Nd) (k : Option Int) (m : Nat) : vals nd k (m + 1) = vals nd k m ++ [vO (it nd.f m k)] := by
  unfold vals
  rw [List.range_succ, List.map_append]
  rfl
abbrev s__law_value : Stmt := (top 29)
theorem sc__law_value : FnScope ["_law_need_here", "_law_k", "_law_value_here", "_law_pair"] ["_law_need_here", "_law_k"] (defScope s__law_value) := ⟨rfl, rfl, rfl, by decide +kernel, rfl, by decide +kernel, by decide +kernel⟩
def t__law_value (K : PySem.W.Frag) (Z : Ad) : TS :=
    (C8.tCut (tIfS (tOr (tTest (tOp Uv.rIsU (tVar 1) (tC .non))) (tTest (tOp Uv.rIsU (tOp (Uv.rIxU K) (tVar 0) (tC (.int 0))) (tC .non)))) (tRet (tOp (Uv.rIxU K) (tVar 0) (tC (.int 2)))) tNext)
    (tSeq (tAsg (tOp (Uv.rIxU K) (tVar 0) (tC (.int 0))) (gName 2))
    (C8.tCut (tFor (Uv.iSeqU K (tOp (Uv.rIxU K) (tVar 0) (tC (.int 1)))) (gName 3) (tIfS (tAnd (tTest (tOp Uv.rGtU (tVar 1) (tOp (Uv.rIxU K) (tVar 3) (tC (.int 0))))) (tOr (tTest (tOp Uv.rIsU (tOp (Uv.rIxU K) (tVar 3) (tC (.int 1))) (tC .non))) (tTest (tOp Uv.rLtU (tVar 1) (tOp (Uv.rIxU K) (tVar 3) (tC (.int 1))))))) (tAsg (tOp Uv.rSubU (tOp (Uv.rAddU K) (tVar 2) (tVar 1)) (tOp (Uv.rIxU K) (tVar 3) (tC (.int 0)))) (gName 2)) (tIfS (tTest (tOp Uv.rGtU (tVar 1) (tOp (Uv.rIxU K) (tVar 3) (tC (.int 0))))) (tAsg (tOp Uv.rSubU (tOp (Uv.rAddU K) (tVar 2) (tOp (Uv.rIxU K) (tVar 3) (tC (.int 1)))) (tOp (Uv.rIxU K) (tVar 3) (tC (.int 0)))) (gName 2)) tNext)))
    (tRet (tVar 2)))))
abbrev s__law_same : Stmt := (top 30)
theorem sc__law_same : FnScope ["_law_told", "_law_due"] ["_law_told", "_law_due"] (defScope s__law_same) := ⟨rfl, rfl, rfl, by decide +kernel, rfl, by decide +kernel, by decide +kernel⟩
def t__law_same (K : PySem.W.Frag) (Z : Ad) : TS :=
    (C8.tCut (tIfS (tTest (tOp Uv.rIsU (tVar 1) (tC .non))) (tRet (tOp Uv.rIsU (tVar 0) (tC .non))) tNext)
    (tRet (tAndT K (tCB (rIsi K) (tCons (tVar 0) (tCons (tC (.ty "int")) tNil))) (tAndT K (tNotT K (tCB (rIsi K) (tCons (tVar 0) (tCons (tC (.ty "bool")) tNil)))) (tOp (Uv.rEqU K) (tVar 0) (tVar 1))))))
abbrev s__law_at_most : Stmt := (top 31)
theorem sc__law_at_most : FnScope ["_law_a", "_law_b"] ["_law_a", "_law_b"] (defScope s__law_at_most) := ⟨rfl, rfl, rfl, by decide +kernel, rfl, by decide +kernel, by decide +kernel⟩
def t__law_at_most (K : PySem.W.Frag) (Z : Ad) : TS :=
    (C8.tCut (tIfS (tTest (tOp Uv.rIsU (tVar 1) (tC .non))) (tRet (tC (.bl true))) tNext)
    (tRet (tAndT K (tOp Uv.rNotU (tVar 0) (tC .non)) (tOp Uv.rLeU (tVar 0) (tVar 1)))))
abbrev s__law_make : Stmt := (top 32)
theorem sc__law_make : FnScope ["_law_need_here"] ["_law_need_here"] (defScope s__law_make) := ⟨rfl, rfl, rfl, by decide +kernel, rfl, by decide +kernel, by decide +kernel⟩
def t__law_make (K : PySem.W.Frag) (Z : Ad) : TS :=
    (tRet (tMake Z.Need (sp_Need_init K Z) [] E0 (tCons (tOp (Uv.rIxU K) (tVar 0) (tC (.int 0))) (tCons (tOp (Uv.rIxU K) (tVar 0) (tC (.int 1))) (tCons (tOp (Uv.rIxU K) (tVar 0) (tC (.int 2))) tNil)))))
def sp__law_value (K : PySem.W.Frag) (_ : Ad) : Sp := fun vs H Q _ => ∃ (l : Addr) (nd : Nd) (k : Option Int), vs = [.ref l, vO k] ∧ NL K H l nd ∧ NdOk nd ∧ Q (vO (nd.f k)) H
def sp__law_same (K : PySem.W.Frag) (_ : Ad) : Sp := fun vs H Q _ => ∃ (r d : Option Int), vs = [vO r, vO d] ∧ Q (.bl (decide (r = d))) H
def sp__law_at_most (K : PySem.W.Frag) (_ : Ad) : Sp := fun vs H Q _ => ∃ (r d : Option Int), vs = [vO r, vO d] ∧ Q (.bl (leB r d)) H
def sp__law_make (K : PySem.W.Frag) (Z : Ad) : Sp := fun vs H Q _ => ∃ (l : Addr) (nd : Nd), vs = [.ref l] ∧ NL K H l nd ∧ NdGood nd ∧ ∀ x H', Same H H' → NeedAt K Z H' x nd → Q (.ref x) H'
abbrev s__law_values : Stmt := (top 33)
theorem sc__law_values : FnScope ["_law_need_here", "_law_k", "_law_many", "_law_values_here", "_law_turn"] ["_law_need_here", "_law_k", "_law_many"] (defScope s__law_values) := ⟨rfl, rfl, rfl, by decide +kernel, rfl, by decide +kernel, by decide +kernel⟩
def t__law_values (K : PySem.W.Frag) (Z : Ad) : TS :=
    (tSeq (tAsg (tLst (tCons (tVar 1) tNil)) (gName 3))
    (C8.tCut (tFor (iRng1 (tCons (tVar 2) tNil)) (gName 4) (tDrop (tBM K "list" rAppend (tVar 3) (tCons (tCall (sp__law_value K Z) [] E0 (tCons (tVar 0) (tCons (tOp (Uv.rIxU K) (tVar 3) (tUn (rU fun i => .int (-i)) (tC (.int 1)))) tNil))) tNil))))
    (tRet (tVar 3))))
def sp__law_values (K : PySem.W.Frag) (_ : Ad) : Sp := fun vs H Q _ => ∃ (l : Addr) (nd : Nd) (k : Option Int) (m : Nat), vs = [.ref l, vO k, .int m] ∧ NL K H l nd ∧ NdOk nd ∧ m ≤ 100000 ∧ ∀ p, H p = none → Q (.ref p) (upd H p (.lst (vals nd k (m + 1))))
section
variable {P : Program} {w : World} {K : PySem.W.Frag} {mg : Str → Option Value} {base : Heap} {Z : Ad} {f : Addr} {fd : FuncData}
theorem NL.mono {H H' : Hp} {l : Addr} {nd : Nd} (h : NL K H l nd) (e : Same H H') : NL K H' l nd := by
  obtain ⟨t, xs, h1, h2, h3⟩ := h
  exact ⟨t, xs, e.seq h1, e.tup h2, h3.mono fun _ _ q => e.tup q⟩
theorem NeedAt.mono {H H' : Hp} {l : Addr} {nd : Nd} (h : NeedAt K Z H l nd) (e : Same H H') : NeedAt K Z H' l nd := by
  obtain ⟨dx, a, xs, h1, h2, h3⟩ := h
  exact ⟨dx, a, xs, e _ _ h1, e.tup h2, h3.mono fun _ _ q => e.tup q⟩
theorem pure__law_value (T : TK K Z) (vs : List V) (H : Hp) (Q : VK) (E : XK) (h : sp__law_value K Z vs H Q E) : t__law_value K Z { nx := fun _ H' => Q .non H', rt := Q } (L2.start ["_law_need_here", "_law_k", "_law_value_here", "_law_pair"] vs) H := by
  obtain ⟨l, nd, k, rfl, ⟨t, xs, hL, hS, hP⟩, hN, hQ⟩ := h
  walk_at "in"
  unfold t__law_value
  refine r_nocut ?_
  cases k with
  | none =>
    rw [vO_none]
    walk_at "go"
    exact hQ
  | some k =>
    rw [vO_some]
    walk_at "go"
    cases hN with
    | off =>
      rw [show vO (Nd.start ⟨none, [], none⟩) = V.non from rfl]
      walk_at "go"
      exact hQ
    | @on s rs n hs hw hn =>
      rw [show vO (Nd.start ⟨some s, rs, n⟩) = V.int s from rfl]
      walk_at "go"
      rw [show vO (Nd.start ⟨some s, rs, n⟩) = V.int s from rfl]
      have hQ' : Q (.int (valAt s rs k)) H := hQ
      rw [← lawV_eq hw] at hQ'
      refine r_cut (fun σ' H' => H' = H ∧ σ'[2]? = some (some (.int (lawV s rs k)))) ?_ ?_
      · refine r_forT ?_
        walk_at "go"
        refine r_loopT hS (fun i σ' H' => H' = H ∧ ∃ v b1, σ' = [some (.ref l), some (.int k), some (.int v), b1] ∧ lawV v (rs.drop i) k = lawV s rs k) ?_ ?_ ?_ ?_
        · exact ⟨rfl, s, none, rfl, rfl⟩
        · rintro i σ' H' _ ⟨rfl, _⟩
          exact hS
        · rintro i x σ' H' hx ⟨rfl, v, b1, rfl, hv⟩
          obtain ⟨lo, hi, c, hr, rfl, hc⟩ := pairs_at hP hx
          rw [drop_at hr] at hv
          cases hi with
          | none =>
            have hv2 : lawV (if lo < k then v + k - lo else v) (rs.drop (i + 1)) k = lawV s rs k := hv
            rw [vO_none] at hc
            walk_at "go"
            walk_at "b"
            · rename_i h1
              rw [if_pos h1] at hv2
              walk_at "go"
              exact ⟨rfl, _, _, rfl, hv2⟩
            · rename_i h1
              rw [if_neg h1] at hv2
              walk_at "go"
              refine i_no (by omega) ?_
              walk_at "go"
              exact ⟨rfl, _, _, rfl, hv2⟩
          | some h =>
            have hv2 : lawV (if lo < k ∧ k < h then v + k - lo else if lo < k then v + h - lo else v) (rs.drop (i + 1)) k = lawV s rs k := hv
            rw [vO_some] at hc
            walk_at "go"
            walk_at "b"
            · rename_i h1
              walk_at "go"
              walk_at "b"
              · rename_i h2
                rw [if_pos ⟨h1, h2⟩] at hv2
                walk_at "go"
                exact ⟨rfl, _, _, rfl, hv2⟩
              · rename_i h2
                rw [if_neg (fun q => h2 q.2), if_pos h1] at hv2
                walk_at "go"
                refine i_yes (by omega) ?_
                walk_at "go"
                exact ⟨rfl, _, _, rfl, hv2⟩
            · rename_i h1
              rw [if_neg (fun q => h1 q.1), if_neg h1] at hv2
              walk_at "go"
              refine i_no (by omega) ?_
              walk_at "go"
              exact ⟨rfl, _, _, rfl, hv2⟩
        · rintro σ' H' ⟨rfl, v, b1, rfl, hv⟩
          have e : rs.length = xs.length := hP.len.symm
          rw [← e, List.drop_length] at hv
          exact ⟨rfl, by rw [← hv]; rfl⟩
      · rintro σ' H' ⟨rfl, e⟩
        refine stp (r_var e ?_)
        exact hQ'
theorem ok__law_value (T : TK K Z) (B : Blt mg)  (F : FnP K "_law_value" "_law_value" s__law_value f fd) : FnOk P w K mg base CX0 1 f fd ["_law_need_here", "_law_k"] (sp__law_value K Z) := by
  have nd := sc__law_value.nd
  refine F.ok sc__law_value (fun vs H Q E h => ?_) (fun cdv A outer s H vs Q E hr h => ⟨t__law_value K Z, PSs.nox (C8.pss_cut (ps_if (PW.pt (pw_or (pt_cmpR Uv.u_is (pv 1) pe_non (nomark _)) (pw_or1 (pt_cmpR Uv.u_is (pe_ix Uv.u_ix (pv 0) pe_int (fun _ _ => rfl)) pe_non (nomark _))))) (pss_one (ps_ret (pe_ix Uv.u_ix (pv 0) pe_int (fun _ _ => rfl)))) pss_nil)
      (pss_cons (ps_set (i := 2) nd rfl (by first | exact Or.inl rfl | exact Or.inr rfl) (pe_ix Uv.u_ix (pv 0) pe_int (fun _ _ => rfl)))
      (C8.pss_cut (ps_for PassesOwn.never rfl (Uv.pi_seq (pe_ix Uv.u_ix (pv 0) pe_int (fun _ _ => rfl))) (pg_name (i := 3) nd rfl (by first | exact Or.inl rfl | exact Or.inr rfl)) (pss_one (ps_if (PW.pt (pw_and (pt_cmpR Uv.u_gt (pv 1) (pe_ix Uv.u_ix (pv 3) pe_int (fun _ _ => rfl)) (nomark _)) (pw_and1 (PW.pt (pw_or (pt_cmpR Uv.u_is (pe_ix Uv.u_ix (pv 3) pe_int (fun _ _ => rfl)) pe_non (nomark _)) (pw_or1 (pt_cmpR Uv.u_lt (pv 1) (pe_ix Uv.u_ix (pv 3) pe_int (fun _ _ => rfl)) (nomark _)))))))) (pss_one (ps_set (i := 2) nd rfl (by first | exact Or.inl rfl | exact Or.inr rfl) (pe_op Uv.u_sub (pe_op Uv.u_add (pv 2) (pv 1)) (pe_ix Uv.u_ix (pv 3) pe_int (fun _ _ => rfl))))) (pss_one (ps_if (pt_cmpR Uv.u_gt (pv 1) (pe_ix Uv.u_ix (pv 3) pe_int (fun _ _ => rfl)) (nomark _)) (pss_one (ps_set (i := 2) nd rfl (by first | exact Or.inl rfl | exact Or.inr rfl) (pe_op Uv.u_sub (pe_op Uv.u_add (pv 2) (pe_ix Uv.u_ix (pv 3) pe_int (fun _ _ => rfl))) (pe_ix Uv.u_ix (pv 3) pe_int (fun _ _ => rfl))))) pss_nil)))))
      (pss_one (ps_ret (pv 2)))))), pure__law_value T vs H Q E h⟩)
  unfold sp__law_value at h
  (repeat (obtain ⟨_, h⟩ := h)); all_goals (subst_vars; rfl)
theorem pure__law_same (T : TK K Z) (vs : List V) (H : Hp) (Q : VK) (E : XK) (h : sp__law_same K Z vs H Q E) : t__law_same K Z { nx := fun _ H' => Q .non H', rt := Q } (L2.start ["_law_told", "_law_due"] vs) H := by
  obtain ⟨r, d, rfl, hQ⟩ := h
  walk_at "in"
  unfold t__law_same
  refine r_nocut ?_
  cases d with
  | none =>
    rw [vO_none]
    cases r with
    | none =>
      rw [vO_none]
      walk_at "go"
      exact hQ
    | some r =>
      rw [vO_some]
      walk_at "go"
      exact hQ
  | some d =>
    rw [vO_some]
    cases r with
    | none =>
      rw [vO_none]
      walk_at "go"
      exact hQ
    | some r =>
      rw [vO_some]
      walk_at "go"
      have e : decide (some r = some d) = decide (r = d) := by
        by_cases c : r = d
        · rw [decide_eq_true c, c]; simp
        · rw [decide_eq_false c]; simp [c]
      rw [e] at hQ
      exact hQ
theorem ok__law_same (T : TK K Z) (B : Blt mg)  (F : FnP K "_law_same" "_law_same" s__law_same f fd) : FnOk P w K mg base CX0 1 f fd ["_law_told", "_law_due"] (sp__law_same K Z) := by
  have nd := sc__law_same.nd
  refine F.ok sc__law_same (fun vs H Q E h => ?_) (fun cdv A outer s H vs Q E hr h => ⟨t__law_same K Z, PSs.nox (C8.pss_cut (ps_if (pt_cmpR Uv.u_is (pv 1) pe_non (nomark _)) (pss_one (ps_ret (pe_cmpR Uv.u_is (pv 0) pe_non (nomark _)))) pss_nil)
      (pss_one (ps_ret (pe_andT (pe_callB call_isi (by rfl) (B.at "isinstance") (by decide +kernel) (pa_cons (pv 0) (pa_cons (pe_bltn rfl (B.at "int") (by decide +kernel) (show RelV (.ty "int") (.type "int") from rfl)) pa_nil))) (pe_andT (pe_notT (pe_callB call_isi (by rfl) (B.at "isinstance") (by decide +kernel) (pa_cons (pv 0) (pa_cons (pe_bltn rfl (B.at "bool") (by decide +kernel) (show RelV (.ty "bool") (.type "bool") from rfl)) pa_nil)))) (pe_one (pe_cmpR (Uv.u_eq (Uv.huR hr)) (pv 0) (pv 1) (nomark _)))))))), pure__law_same T vs H Q E h⟩)
  unfold sp__law_same at h
  (repeat (obtain ⟨_, h⟩ := h)); all_goals (subst_vars; rfl)
theorem pure__law_at_most (T : TK K Z) (vs : List V) (H : Hp) (Q : VK) (E : XK) (h : sp__law_at_most K Z vs H Q E) : t__law_at_most K Z { nx := fun _ H' => Q .non H', rt := Q } (L2.start ["_law_a", "_law_b"] vs) H := by
  obtain ⟨r, d, rfl, hQ⟩ := h
  walk_at "in"
  unfold t__law_at_most
  refine r_nocut ?_
  cases d with
  | none =>
    rw [vO_none]
    walk_at "go"
    exact hQ
  | some d =>
    rw [vO_some]
    cases r with
    | none =>
      rw [vO_none]
      walk_at "go"
      exact hQ
    | some r =>
      rw [vO_some]
      walk_at "go"
      exact hQ
theorem ok__law_at_most (T : TK K Z) (B : Blt mg)  (F : FnP K "_law_at_most" "_law_at_most" s__law_at_most f fd) : FnOk P w K mg base CX0 1 f fd ["_law_a", "_law_b"] (sp__law_at_most K Z) := by
  have nd := sc__law_at_most.nd
  refine F.ok sc__law_at_most (fun vs H Q E h => ?_) (fun cdv A outer s H vs Q E hr h => ⟨t__law_at_most K Z, PSs.nox (C8.pss_cut (ps_if (pt_cmpR Uv.u_is (pv 1) pe_non (nomark _)) (pss_one (ps_ret pe_bl)) pss_nil)
      (pss_one (ps_ret (pe_andT (pe_cmpR Uv.u_isnot (pv 0) pe_non (nomark _)) (pe_one (pe_cmpR Uv.u_le (pv 0) (pv 1) (nomark _))))))), pure__law_at_most T vs H Q E h⟩)
  unfold sp__law_at_most at h
  (repeat (obtain ⟨_, h⟩ := h)); all_goals (subst_vars; rfl)
theorem pure__law_make (T : TK K Z) (vs : List V) (H : Hp) (Q : VK) (E : XK) (h : sp__law_make K Z vs H Q E) : t__law_make K Z { nx := fun _ H' => Q .non H', rt := Q } (L2.start ["_law_need_here"] vs) H := by
  obtain ⟨l, nd, rfl, ⟨t, xs, hL, hS, hP⟩, ⟨g1, g2, g3⟩, hQ⟩ := h
  walk_at "in"
  unfold t__law_make
  walk_at "go"
  rintro x dx hx hdx hne
  have s1 : Same H (upd (upd H dx (.own x)) x (.ins Z.Need dx [])) := by
    refine (Same.new hdx).trans (Same.new ?_)
    rw [upd_ne (Ne.symm hne)]
    exact hx
  refine ⟨x, dx, nd, t, xs, rfl, upd_same, s1.tup hS, hP.mono fun _ _ q => s1.tup q, g2, g3, fun H' h1 h2 => ⟨rfl, hQ x H' ?_ h1⟩⟩
  intro b o hb
  exact h2 b o (ne_of_none hb hx) (s1 b o hb)
theorem ok__law_make (T : TK K Z) (B : Blt mg) (m_Need : C8.Mak P w K mg base 2 "Need" Z.Need (sp_Need_init K Z) []) (F : FnP K "_law_make" "_law_make" s__law_make f fd) : FnOk P w K mg base CX0 4 f fd ["_law_need_here"] (sp__law_make K Z) := by
  have nd := sc__law_make.nd
  refine F.ok sc__law_make (fun vs H Q E h => ?_) (fun cdv A outer s H vs Q E hr h => ⟨t__law_make K Z, PSs.nox (pss_one (ps_ret (C8.pe_mk m_Need hr (by decide) rfl (pa_cons (pe_ix Uv.u_ix (pv 0) pe_int (fun _ _ => rfl)) (pa_cons (pe_ix Uv.u_ix (pv 0) pe_int (fun _ _ => rfl)) (pa_cons (pe_ix Uv.u_ix (pv 0) pe_int (fun _ _ => rfl)) pa_nil)))))), pure__law_make T vs H Q E h⟩)
  unfold sp__law_make at h
  (repeat (obtain ⟨_, h⟩ := h)); all_goals (subst_vars; rfl)
theorem pure__law_values (T : TK K Z) (vs : List V) (H : Hp) (Q : VK) (E : XK) (h : sp__law_values K Z vs H Q E) : t__law_values K Z { nx := fun _ H' => Q .non H', rt := Q } (L2.start ["_law_need_here", "_law_k", "_law_many", "_law_values_here", "_law_turn"] vs) H := by
  obtain ⟨l, nd, k, m, rfl, hL, hN, hm, hQ⟩ := h
  walk_at "in"
  unfold t__law_values
  walk_at "go"
  refine ⟨show (1 : Nat) ≤ sizeLine by decide, fun p hp => ?_⟩
  walk_at "go"
  refine r_nocut ?_
  refine r_forR ?_
  walk_at "go"
  refine r_loopR (n := m) (by omega) (by omega) (fun i σ' H' => ∃ b1, σ' = [some (.ref l), some (vO k), some (.int m), some (.ref p), b1] ∧ H' = upd H p (.lst (vals nd k (i + 1)))) ?_ ?_ ?_
  · exact ⟨none, rfl, rfl⟩
  · rintro i σ' H' hi ⟨b1, rfl, rfl⟩
    have s1 : Same H (upd H p (.lst (vals nd k (i + 1)))) := Same.new hp
    walk_at "go"
    refine ⟨m_ty (.of upd_same), ?_⟩
    walk_at "go"
    refine r_ixL (.of upd_same) (by rw [vals_succ]; exact at_last) ?_
    walk_at "go"
    refine ⟨l, nd, _, rfl, hL.mono s1, hN, ?_⟩
    walk_at "go"
    have hz : (vals nd k (i + 1)).length < sizeLine := by
      rw [vals_len]
      have : (100001 : Nat) < sizeLine := by decide
      omega
    refine m_app upd_same hz ?_
    walk_at "go"
    rw [upd_upd]
    refine ⟨_, rfl, ?_⟩
    rw [vals_succ nd k (i + 1), it_succ]
  · rintro σ' H' ⟨b1, rfl, rfl⟩
    walk_at "go"
    exact hQ p hp
theorem ok__law_values (T : TK K Z) (B : Blt mg) (c__law_value : C8.Cal P w K mg base 1 "_law_value" (sp__law_value K Z) []) (F : FnP K "_law_values" "_law_values" s__law_values f fd) : FnOk P w K mg base CX0 2 f fd ["_law_need_here", "_law_k", "_law_many"] (sp__law_values K Z) := by
  have nd := sc__law_values.nd
  refine F.ok sc__law_values (fun vs H Q E h => ?_) (fun cdv A outer s H vs Q E hr h => ⟨t__law_values K Z, PSs.nox (pss_cons (ps_set (i := 3) nd rfl (by first | exact Or.inl rfl | exact Or.inr rfl) (pe_lst (pa_cons (pv 1) pa_nil)))
      (C8.pss_cut (ps_for PassesOwn.never rfl (pi_range1 rfl (B.at "range") (pa_cons (pv 2) pa_nil)) (pg_name (i := 4) nd rfl (by first | exact Or.inl rfl | exact Or.inr rfl)) (pss_one (ps_expr (pe_bm PySem.F.plainAttrs_list PySem.F.slot_list_append PySem.F.type_list_append mt_append (pv 3) (pa_cons (C8.pe_c c__law_value hr (by decide) rfl (pa_cons (pv 0) (pa_cons (pe_ix Uv.u_ix (pv 3) (pe_un un_neg pe_int) (fun _ _ => rfl)) pa_nil))) pa_nil)))))
      (pss_one (ps_ret (pv 3))))), pure__law_values T vs H Q E h⟩)
  unfold sp__law_values at h
  (repeat (obtain ⟨_, h⟩ := h)); all_goals (subst_vars; rfl)
end
end K19

--T law_k19_need_round_counts
namespace K19
open PySem PySem.Spec PyProof.Rows L2 Uv N19
def affB (v : Option Int) (purse : Int) : Bool := match v with
  | none => false
  | some x => decide (x ≤ purse)
theorem affB_iff {v : Option Int} {purse : Int} : affB v purse = true ↔ aff v purse := by
  cases v with
  | none => exact ⟨fun h => (nomatch h), fun h => absurd h aff_none⟩
  | some x => rw [aff_some]; exact ⟨fun h => of_decide_eq_true h, fun h => decide_eq_true h⟩
/-- what told says of the first value on the other side -/
def Told (nd : Nd) (k : Option Int) (purse : Int) (above : Bool) (r : Option Int) : Prop := if above = true then UpOk nd k purse r else DownOk nd k purse r
theorem told_some {nd : Nd} {k : Option Int} {purse : Int} {above : Bool} {c : Int} (h : Told nd k purse above (some c)) : 0 ≤ c ∧ affB (it nd.f c.toNat k) purse ≠ above ∧ ∀ j, j < c.toNat → affB (it nd.f j k) purse = above := by
  unfold Told at h
  cases above with
  | true =>
    obtain ⟨h1, h2, h3⟩ := (show UpOk nd k purse (some c) from h)
    exact ⟨h1, fun q => h2 (affB_iff.mp q), fun j hj => affB_iff.mpr (h3 j hj)⟩
  | false =>
    obtain ⟨h1, h2, h3⟩ := (show DownOk nd k purse (some c) from h)
    refine ⟨h1, fun q => ?_, fun j hj => ?_⟩
    · rw [affB_iff.mpr h2] at q; cases q
    · cases q : affB (it nd.f j k) purse with
      | false => rfl
      | true => exact absurd (affB_iff.mp q) (h3 j hj)
theorem told_none {nd : Nd} {k : Option Int} {purse : Int} {above : Bool} (h : Told nd k purse above none) (j : Nat) : affB (it nd.f j k) purse = above := by
  unfold Told at h
  cases above with
  | true => exact affB_iff.mpr ((show UpOk nd k purse none from h) j)
  | false =>
    cases q : affB (it nd.f j k) purse with
    | false => rfl
    | true => exact absurd (affB_iff.mp q) ((show DownOk nd k purse none from h) j)
/-- the first value on the other side is at c -/
theorem told_at {nd : Nd} {k : Option Int} {purse : Int} {above : Bool} {r : Option Int} (h : Told nd k purse above r) {n : Nat} (h1 : affB (it nd.f n k) purse ≠ above) (h2 : ∀ j, j < n → affB (it nd.f j k) purse = above) : r = some (n : Int) := by
  cases r with
  | none => exact absurd (told_none h n) h1
  | some c =>
    obtain ⟨c0, c1, c2⟩ := told_some h
    rcases Nat.lt_trichotomy n c.toNat with q | q | q
    · exact absurd (c2 n q) h1
    · congr 1
      omega
    · exact absurd (h2 _ q) c1
theorem dec_some (x y : Int) : decide (some x = some y) = decide (x = y) := by
  by_cases c : x = y
  · rw [decide_eq_true c, c]; simp
  · rw [decide_eq_false c]; simp [c]
theorem eq_vO {K : PySem.W.Frag} {H : Hp} {Q : VK} : ∀ {a b : Option Int}, Q (.bl (decide (a = b))) H → rEqU K (vO a) (vO b) H Q
  | none, none, q => show rEqU K .non .non H Q from stp q
  | none, some y, q => show rEqU K .non (.int y) H Q from stp q
  | some x, none, q => show rEqU K (.int x) .non H Q from stp q
  | some x, some y, q => show rEqU K (.int x) (.int y) H Q from stp (by rw [dec_some] at q; exact q)
abbrev s__law_count_right : Stmt := (top 34)
theorem sc__law_count_right : FnScope ["_law_told", "_law_values_here", "_law_purse", "_law_above", "_law_n", "_law_affordable"] ["_law_told", "_law_values_here", "_law_purse", "_law_above"] (defScope s__law_count_right) := ⟨rfl, rfl, rfl, by decide +kernel, rfl, by decide +kernel, by decide +kernel⟩
def t__law_count_right (K : PySem.W.Frag) (Z : Ad) : TS :=
    (C8.tCut (tFor (iRng1 (tCons (tCB (Uv.rLenU K) (tCons (tVar 1) tNil)) tNil)) (gName 4) (tSeq (tAsg (tAndT K (tOp Uv.rNotU (tOp (Uv.rIxU K) (tVar 1) (tVar 4)) (tC .non)) (tOp Uv.rLeU (tOp (Uv.rIxU K) (tVar 1) (tVar 4)) (tVar 2))) (gName 5))
    (tIfS (tTest (tOp (Uv.rNeU K) (tVar 5) (tVar 3))) (tRet (tCall (sp__law_same K Z) [] E0 (tCons (tVar 0) (tCons (tVar 4) tNil)))) tNext)))
    (C8.tCut (tIfS (tTest (tOp Uv.rIsU (tVar 0) (tC .non))) (tRet (tC (.bl true))) tNext)
    (tRet (tAndT K (tCB (rIsi K) (tCons (tVar 0) (tCons (tC (.ty "int")) tNil))) (tAndT K (tNotT K (tCB (rIsi K) (tCons (tVar 0) (tCons (tC (.ty "bool")) tNil)))) (tOp Uv.rGeU (tVar 0) (tCB (Uv.rLenU K) (tCons (tVar 1) tNil))))))))
def sp__law_count_right (K : PySem.W.Frag) (_ : Ad) : Sp := fun vs H Q _ => ∃ (r : Option Int) (p : Addr) (nd : Nd) (k : Option Int) (m : Nat) (purse : Int) (above : Bool), vs = [vO r, .ref p, .int purse, .bl above] ∧ SqL K H p (vals nd k m) ∧ m ≤ 100000 ∧ Told nd k purse above r ∧ Q (.bl true) H
abbrev s__law_stuck : Stmt := (top 35)
theorem sc__law_stuck : FnScope ["_law_values_here", "_law_purse", "_law_above", "_law_last"] ["_law_values_here", "_law_purse", "_law_above"] (defScope s__law_stuck) := ⟨rfl, rfl, rfl, by decide +kernel, rfl, by decide +kernel, by decide +kernel⟩
def t__law_stuck (K : PySem.W.Frag) (Z : Ad) : TS :=
    (tSeq (tAsg (tOp (Uv.rIxU K) (tVar 0) (tUn (rU fun i => .int (-i)) (tC (.int 1)))) (gName 3))
    (C8.tCut (tIfS (tTest (tOp (Uv.rEqU K) (tVar 3) (tOp (Uv.rIxU K) (tVar 0) (tUn (rU fun i => .int (-i)) (tC (.int 2)))))) (tRet (tC (.bl true))) tNext)
    (C8.tCut (tIfS (Uv.tTr K (tVar 2)) (tRet (tAndT K (tOp Uv.rNotU (tVar 3) (tC .non)) (tOp Uv.rLeU (tVar 3) (tOp (Uv.rIxU K) (tVar 0) (tC (.int 0)))))) tNext)
    (tRet (tOrT K (tOp Uv.rIsU (tVar 3) (tC .non)) (tAndT K (tOp Uv.rNotU (tOp (Uv.rIxU K) (tVar 0) (tC (.int 0))) (tC .non)) (tOp Uv.rGtU (tVar 3) (tOp (Uv.rIxU K) (tVar 0) (tC (.int 0))))))))))
def stuckB (l l2 v0 : Option Int) (above : Bool) : Bool := if l = l2 then true else if above = true then (match l, v0 with
  | some x, some y => decide (x ≤ y)
  | _, _ => false) else (match l, v0 with
  | none, _ => true
  | some x, some y => decide (y < x)
  | some _, none => false)
def sp__law_stuck (K : PySem.W.Frag) (_ : Ad) : Sp := fun vs H Q _ => ∃ (p : Addr) (nd : Nd) (k : Option Int) (m : Nat) (purse : Int) (above : Bool), vs = [.ref p, .int purse, .bl above] ∧ SqL K H p (vals nd k (m + 2)) ∧ (above = true → k ≠ none) ∧ Q (.bl (stuckB (it nd.f (m + 1) k) (it nd.f m k) k above)) H
def sp_Need_rounds_to_afford (K : PySem.W.Frag) (Z : Ad) : Sp := sp_rounds_down K Z
def sp_Need_rounds_to_exceed (K : PySem.W.Frag) (Z : Ad) : Sp := sp_rounds_up K Z
def sp_Need_lowest (K : PySem.W.Frag) (Z : Ad) : Sp := sp_lowest_of K Z
def sp_Need_highest (K : PySem.W.Frag) (Z : Ad) : Sp := sp_highest_of K Z
abbrev s_Need_rounds_to_afford : Stmt := (inClass (top 23) 13)
theorem sc_Need_rounds_to_afford : FnScope ["self", "needed", "purse"] ["self", "needed", "purse"] (defScope s_Need_rounds_to_afford) := ⟨rfl, rfl, rfl, by decide +kernel, rfl, by decide +kernel, by decide +kernel⟩
def t_Need_rounds_to_afford (K : PySem.W.Frag) (Z : Ad) : TS :=
    (tRet (tCall (sp_rounds_down K Z) [] E0 (tCons (tVar 0) (tCons (tVar 1) (tCons (tVar 2) tNil)))))
abbrev s_Need_rounds_to_exceed : Stmt := (inClass (top 23) 14)
theorem sc_Need_rounds_to_exceed : FnScope ["self", "needed", "purse"] ["self", "needed", "purse"] (defScope s_Need_rounds_to_exceed) := ⟨rfl, rfl, rfl, by decide +kernel, rfl, by decide +kernel, by decide +kernel⟩
def t_Need_rounds_to_exceed (K : PySem.W.Frag) (Z : Ad) : TS :=
    (tRet (tCall (sp_rounds_up K Z) [] E0 (tCons (tVar 0) (tCons (tVar 1) (tCons (tVar 2) tNil)))))
abbrev s_Need_lowest : Stmt := (inClass (top 23) 15)
theorem sc_Need_lowest : FnScope ["self", "needed", "limit"] ["self", "needed", "limit"] (defScope s_Need_lowest) := ⟨rfl, rfl, rfl, by decide +kernel, rfl, by decide +kernel, by decide +kernel⟩
def t_Need_lowest (K : PySem.W.Frag) (Z : Ad) : TS :=
    (tRet (tCall (sp_lowest_of K Z) [] E0 (tCons (tVar 0) (tCons (tVar 1) (tCons (tVar 2) tNil)))))
abbrev s_Need_highest : Stmt := (inClass (top 23) 16)
theorem sc_Need_highest : FnScope ["self", "needed", "limit"] ["self", "needed", "limit"] (defScope s_Need_highest) := ⟨rfl, rfl, rfl, by decide +kernel, rfl, by decide +kernel, by decide +kernel⟩
def t_Need_highest (K : PySem.W.Frag) (Z : Ad) : TS :=
    (tRet (tCall (sp_highest_of K Z) [] E0 (tCons (tVar 0) (tCons (tVar 1) (tCons (tVar 2) tNil)))))
section
variable {P : Program} {w : World} {K : PySem.W.Frag} {mg : Str → Option Value} {base : Heap} {Z : Ad} {f : Addr} {fd : FuncData}
theorem pure_Need_rounds_to_afford (T : TK K Z) (vs : List V) (H : Hp) (Q : VK) (E : XK) (h : sp_Need_rounds_to_afford K Z vs H Q E) : t_Need_rounds_to_afford K Z { nx := fun _ H' => Q .non H', rt := Q } (L2.start ["self", "needed", "purse"] vs) H := by
  obtain ⟨p, nd, k, purse, rfl, h1, h2, h3, h4, hQ⟩ := h
  walk_at "in"
  unfold t_Need_rounds_to_afford
  walk_at "go"
  exact ⟨p, nd, k, purse, rfl, h1, h2, h3, h4, hQ⟩
theorem ok_Need_rounds_to_afford (T : TK K Z) (B : Blt mg) (c_rounds_down : C8.Cal P w K mg base 2 "rounds_down" (sp_rounds_down K Z) []) (F : FnP K "rounds_to_afford" "Need.rounds_to_afford" s_Need_rounds_to_afford f fd) : FnOk P w K mg base CX0 3 f fd ["self", "needed", "purse"] (sp_Need_rounds_to_afford K Z) := by
  have nd := sc_Need_rounds_to_afford.nd
  refine F.ok sc_Need_rounds_to_afford (fun vs H Q E h => ?_) (fun cdv A outer s H vs Q E hr h => ⟨t_Need_rounds_to_afford K Z, PSs.nox (pss_one (ps_ret (C8.pe_c c_rounds_down hr (by decide) rfl (pa_cons (pv 0) (pa_cons (pv 1) (pa_cons (pv 2) pa_nil)))))), pure_Need_rounds_to_afford T vs H Q E h⟩)
  unfold sp_Need_rounds_to_afford at h
  (repeat (obtain ⟨_, h⟩ := h)); all_goals (subst_vars; rfl)
theorem pure_Need_rounds_to_exceed (T : TK K Z) (vs : List V) (H : Hp) (Q : VK) (E : XK) (h : sp_Need_rounds_to_exceed K Z vs H Q E) : t_Need_rounds_to_exceed K Z { nx := fun _ H' => Q .non H', rt := Q } (L2.start ["self", "needed", "purse"] vs) H := by
  obtain ⟨p, nd, k, purse, rfl, h1, h2, h3, h4, hQ⟩ := h
  walk_at "in"
  unfold t_Need_rounds_to_exceed
  walk_at "go"
  exact ⟨p, nd, k, purse, rfl, h1, h2, h3, h4, hQ⟩
theorem ok_Need_rounds_to_exceed (T : TK K Z) (B : Blt mg) (c_rounds_up : C8.Cal P w K mg base 2 "rounds_up" (sp_rounds_up K Z) []) (F : FnP K "rounds_to_exceed" "Need.rounds_to_exceed" s_Need_rounds_to_exceed f fd) : FnOk P w K mg base CX0 3 f fd ["self", "needed", "purse"] (sp_Need_rounds_to_exceed K Z) := by
  have nd := sc_Need_rounds_to_exceed.nd
  refine F.ok sc_Need_rounds_to_exceed (fun vs H Q E h => ?_) (fun cdv A outer s H vs Q E hr h => ⟨t_Need_rounds_to_exceed K Z, PSs.nox (pss_one (ps_ret (C8.pe_c c_rounds_up hr (by decide) rfl (pa_cons (pv 0) (pa_cons (pv 1) (pa_cons (pv 2) pa_nil)))))), pure_Need_rounds_to_exceed T vs H Q E h⟩)
  unfold sp_Need_rounds_to_exceed at h
  (repeat (obtain ⟨_, h⟩ := h)); all_goals (subst_vars; rfl)
theorem pure_Need_lowest (T : TK K Z) (vs : List V) (H : Hp) (Q : VK) (E : XK) (h : sp_Need_lowest K Z vs H Q E) : t_Need_lowest K Z { nx := fun _ H' => Q .non H', rt := Q } (L2.start ["self", "needed", "limit"] vs) H := by
  obtain ⟨p, nd, k, purse, rfl, h1, h2, h3, h4, hQ⟩ := h
  walk_at "in"
  unfold t_Need_lowest
  walk_at "go"
  exact ⟨p, nd, k, purse, rfl, h1, h2, h3, h4, hQ⟩
theorem ok_Need_lowest (T : TK K Z) (B : Blt mg) (c_lowest_of : C8.Cal P w K mg base 2 "lowest_of" (sp_lowest_of K Z) []) (F : FnP K "lowest" "Need.lowest" s_Need_lowest f fd) : FnOk P w K mg base CX0 3 f fd ["self", "needed", "limit"] (sp_Need_lowest K Z) := by
  have nd := sc_Need_lowest.nd
  refine F.ok sc_Need_lowest (fun vs H Q E h => ?_) (fun cdv A outer s H vs Q E hr h => ⟨t_Need_lowest K Z, PSs.nox (pss_one (ps_ret (C8.pe_c c_lowest_of hr (by decide) rfl (pa_cons (pv 0) (pa_cons (pv 1) (pa_cons (pv 2) pa_nil)))))), pure_Need_lowest T vs H Q E h⟩)
  unfold sp_Need_lowest at h
  (repeat (obtain ⟨_, h⟩ := h)); all_goals (subst_vars; rfl)
theorem pure_Need_highest (T : TK K Z) (vs : List V) (H : Hp) (Q : VK) (E : XK) (h : sp_Need_highest K Z vs H Q E) : t_Need_highest K Z { nx := fun _ H' => Q .non H', rt := Q } (L2.start ["self", "needed", "limit"] vs) H := by
  obtain ⟨p, nd, k, purse, rfl, h1, h2, h3, h4, hQ⟩ := h
  walk_at "in"
  unfold t_Need_highest
  walk_at "go"
  exact ⟨p, nd, k, purse, rfl, h1, h2, h3, h4, hQ⟩
theorem ok_Need_highest (T : TK K Z) (B : Blt mg) (c_highest_of : C8.Cal P w K mg base 2 "highest_of" (sp_highest_of K Z) []) (F : FnP K "highest" "Need.highest" s_Need_highest f fd) : FnOk P w K mg base CX0 3 f fd ["self", "needed", "limit"] (sp_Need_highest K Z) := by
  have nd := sc_Need_highest.nd
  refine F.ok sc_Need_highest (fun vs H Q E h => ?_) (fun cdv A outer s H vs Q E hr h => ⟨t_Need_highest K Z, PSs.nox (pss_one (ps_ret (C8.pe_c c_highest_of hr (by decide) rfl (pa_cons (pv 0) (pa_cons (pv 1) (pa_cons (pv 2) pa_nil)))))), pure_Need_highest T vs H Q E h⟩)
  unfold sp_Need_highest at h
  (repeat (obtain ⟨_, h⟩ := h)); all_goals (subst_vars; rfl)
theorem pure__law_count_right (T : TK K Z) (vs : List V) (H : Hp) (Q : VK) (E : XK) (h : sp__law_count_right K Z vs H Q E) : t__law_count_right K Z { nx := fun _ H' => Q .non H', rt := Q } (L2.start ["_law_told", "_law_values_here", "_law_purse", "_law_above", "_law_n", "_law_affordable"] vs) H := by
  obtain ⟨r, p, nd, k, m, purse, above, rfl, hL, hm, hT, hQ⟩ := h
  walk_at "in"
  unfold t__law_count_right
  refine r_cut (fun σ' H' => H' = H ∧ (∀ j, j < m → affB (it nd.f j k) purse = above) ∧ ∃ b1 b2, σ' = [some (vO r), some (.ref p), some (.int purse), some (.bl above), b1, b2]) ?_ ?_
  · refine r_forR ?_
    walk_at "go"
    refine q_lenL hL ?_
    walk_at "go"
    rw [vals_len]
    refine r_loopR (n := m) (by omega) (by omega) (fun i σ' H' => H' = H ∧ (∀ j, j < i → affB (it nd.f j k) purse = above) ∧ ∃ b1 b2, σ' = [some (vO r), some (.ref p), some (.int purse), some (.bl above), b1, b2]) ?_ ?_ ?_
    · exact ⟨rfl, fun j hj => absurd hj (Nat.not_lt_zero j), none, none, rfl⟩
    · rintro i σ' H' hi ⟨rfl, hj, b1, b2, rfl⟩
      have hi2 : i < m := by omega
      have va := vals_at (nd := nd) (k := k) hi2
      walk_at "go"
      refine r_ixL hL (atI_of rfl va) ?_
      cases hv : it nd.f i k with
      | none =>
        rw [vO_none]
        have hb : false = affB (it nd.f i k) purse := by rw [hv]; rfl
        walk_at "go"
        walk_at "b"
        · rename_i hne
          walk_at "go"
          have e := told_at hT (n := i) (by rw [← hb]; exact hne) hj
          refine ⟨r, some (i : Int), rfl, ?_⟩
          rw [e, decide_eq_true rfl]
          exact hQ
        · rename_i hne
          walk_at "go"
          refine ⟨rfl, fun j hj' => ?_, _, _, rfl⟩
          rcases Nat.lt_or_ge j i with q | q
          · exact hj j q
          · have : j = i := by omega
            subst this
            rw [← hb]
            exact hne
      | some x =>
        rw [vO_some]
        have hb : decide (x ≤ purse) = affB (it nd.f i k) purse := by rw [hv]; rfl
        walk_at "go"
        rw [hv, vO_some] at va
        refine r_ixL hL (atI_of rfl va) ?_
        walk_at "go"
        walk_at "b"
        · rename_i hne
          walk_at "go"
          have e := told_at hT (n := i) (by rw [← hb]; exact hne) hj
          refine ⟨r, some (i : Int), rfl, ?_⟩
          rw [e, decide_eq_true rfl]
          exact hQ
        · rename_i hne
          walk_at "go"
          refine ⟨rfl, fun j hj' => ?_, _, _, rfl⟩
          rcases Nat.lt_or_ge j i with q | q
          · exact hj j q
          · have : j = i := by omega
            subst this
            rw [← hb]
            exact hne
    · rintro σ' H' ⟨rfl, hj, b1, b2, rfl⟩
      exact ⟨rfl, hj, b1, b2, rfl⟩
  · rintro σ' H' ⟨rfl, hj, b1, b2, rfl⟩
    refine r_nocut ?_
    cases r with
    | none =>
      rw [vO_none]
      walk_at "go"
      exact hQ
    | some c =>
      rw [vO_some]
      walk_at "go"
      refine q_lenL hL ?_
      walk_at "go"
      obtain ⟨c0, c1, c2⟩ := told_some hT
      rw [vals_len, decide_eq_true (show (m : Int) ≤ c from ?_)]
      · exact hQ
      · rcases Nat.lt_or_ge c.toNat m with q | q
        · exact absurd (hj _ q) c1
        · omega
theorem ok__law_count_right (T : TK K Z) (B : Blt mg) (c__law_same : C8.Cal P w K mg base 1 "_law_same" (sp__law_same K Z) []) (F : FnP K "_law_count_right" "_law_count_right" s__law_count_right f fd) : FnOk P w K mg base CX0 2 f fd ["_law_told", "_law_values_here", "_law_purse", "_law_above"] (sp__law_count_right K Z) := by
  have nd := sc__law_count_right.nd
  refine F.ok sc__law_count_right (fun vs H Q E h => ?_) (fun cdv A outer s H vs Q E hr h => ⟨t__law_count_right K Z, PSs.nox (C8.pss_cut (ps_for PassesOwn.never rfl (pi_range1 rfl (B.at "range") (pa_cons (pe_callB Uv.cb_len (by rfl) (B.at "len") (by decide +kernel) (pa_cons (pv 1) pa_nil)) pa_nil)) (pg_name (i := 4) nd rfl (by first | exact Or.inl rfl | exact Or.inr rfl)) (pss_cons (ps_set (i := 5) nd rfl (by first | exact Or.inl rfl | exact Or.inr rfl) (pe_andT (pe_cmpR Uv.u_isnot (pe_ix Uv.u_ix (pv 1) (pv 4) (fun _ _ => rfl)) pe_non (nomark _)) (pe_one (pe_cmpR Uv.u_le (pe_ix Uv.u_ix (pv 1) (pv 4) (fun _ _ => rfl)) (pv 2) (nomark _)))))
      (pss_one (ps_if (pt_cmpR (Uv.u_ne (Uv.huR hr)) (pv 5) (pv 3) (nomark _)) (pss_one (ps_ret (C8.pe_c c__law_same hr (by decide) rfl (pa_cons (pv 0) (pa_cons (pv 4) pa_nil))))) pss_nil))))
      (C8.pss_cut (ps_if (pt_cmpR Uv.u_is (pv 0) pe_non (nomark _)) (pss_one (ps_ret pe_bl)) pss_nil)
      (pss_one (ps_ret (pe_andT (pe_callB call_isi (by rfl) (B.at "isinstance") (by decide +kernel) (pa_cons (pv 0) (pa_cons (pe_bltn rfl (B.at "int") (by decide +kernel) (show RelV (.ty "int") (.type "int") from rfl)) pa_nil))) (pe_andT (pe_notT (pe_callB call_isi (by rfl) (B.at "isinstance") (by decide +kernel) (pa_cons (pv 0) (pa_cons (pe_bltn rfl (B.at "bool") (by decide +kernel) (show RelV (.ty "bool") (.type "bool") from rfl)) pa_nil)))) (pe_one (pe_cmpR Uv.u_ge (pv 0) (pe_callB Uv.cb_len (by rfl) (B.at "len") (by decide +kernel) (pa_cons (pv 1) pa_nil)) (nomark _))))))))), pure__law_count_right T vs H Q E h⟩)
  unfold sp__law_count_right at h
  (repeat (obtain ⟨_, h⟩ := h)); all_goals (subst_vars; rfl)
theorem pure__law_stuck (T : TK K Z) (vs : List V) (H : Hp) (Q : VK) (E : XK) (h : sp__law_stuck K Z vs H Q E) : t__law_stuck K Z { nx := fun _ H' => Q .non H', rt := Q } (L2.start ["_law_values_here", "_law_purse", "_law_above", "_law_last"] vs) H := by
  obtain ⟨p, nd, k, m, purse, above, rfl, hL, hk, hQ⟩ := h
  walk_at "in"
  unfold t__law_stuck
  have e1 : vals nd k (m + 2) = (vals nd k m ++ [vO (it nd.f m k)]) ++ [vO (it nd.f (m + 1) k)] := by rw [vals_succ, vals_succ]
  have at1 : atI (vals nd k (m + 2)) (-1) = some (vO (it nd.f (m + 1) k)) := by rw [e1]; exact at_last
  have at2 : atI (vals nd k (m + 2)) (-2) = some (vO (it nd.f m k)) := by
    unfold atI ixN
    rw [vals_len, if_neg (by decide), if_pos (by omega)]
    have e2 : ((-2 : Int) + ((m + 2 : Nat) : Int)).toNat = m := by omega
    rw [e2]
    exact vals_at (by omega)
  have at0 : atI (vals nd k (m + 2)) 0 = some (vO k) := atI_of (j := 0) rfl (vals_at (by omega))
  walk_at "go"
  refine r_ixL hL at1 ?_
  walk_at "go"
  refine r_nocut ?_
  walk_at "go"
  refine r_ixL hL at2 ?_
  refine eq_vO ?_
  unfold stuckB at hQ
  walk_at "go"
  walk_at "b"
  · rename_i h1
    rw [if_pos h1] at hQ
    walk_at "go"
    exact hQ
  · rename_i h1
    rw [if_neg h1] at hQ
    walk_at "go"
    refine r_nocut ?_
    cases above with
    | true =>
      rw [if_pos rfl] at hQ
      cases k with
      | none => exact absurd rfl (hk rfl)
      | some y =>
        rw [vO_some] at at0
        cases h2 : it nd.f (m + 1) (some y) with
        | none =>
          rw [h2] at hQ
          rw [vO_none]
          walk_at "go"
          exact hQ
        | some x =>
          rw [h2] at hQ
          rw [vO_some]
          walk_at "go"
          refine r_ixL hL at0 ?_
          walk_at "go"
          exact hQ
    | false =>
      rw [if_neg (by decide)] at hQ
      cases h2 : it nd.f (m + 1) k with
      | none =>
        rw [h2] at hQ
        rw [vO_none]
        walk_at "go"
        cases k <;> exact hQ
      | some x =>
        rw [h2] at hQ
        rw [vO_some]
        walk_at "go"
        refine r_ixL hL at0 ?_
        cases k with
        | none =>
          rw [vO_none]
          walk_at "go"
          exact hQ
        | some y =>
          rw [vO_some] at at0 ⊢
          walk_at "go"
          refine r_ixL hL at0 ?_
          walk_at "go"
          exact hQ
theorem ok__law_stuck (T : TK K Z) (B : Blt mg)  (F : FnP K "_law_stuck" "_law_stuck" s__law_stuck f fd) : FnOk P w K mg base CX0 1 f fd ["_law_values_here", "_law_purse", "_law_above"] (sp__law_stuck K Z) := by
  have nd := sc__law_stuck.nd
  refine F.ok sc__law_stuck (fun vs H Q E h => ?_) (fun cdv A outer s H vs Q E hr h => ⟨t__law_stuck K Z, PSs.nox (pss_cons (ps_set (i := 3) nd rfl (by first | exact Or.inl rfl | exact Or.inr rfl) (pe_ix Uv.u_ix (pv 0) (pe_un un_neg pe_int) (fun _ _ => rfl)))
      (C8.pss_cut (ps_if (pt_cmpR (Uv.u_eq (Uv.huR hr)) (pv 3) (pe_ix Uv.u_ix (pv 0) (pe_un un_neg pe_int) (fun _ _ => rfl)) (nomark _)) (pss_one (ps_ret pe_bl)) pss_nil)
      (C8.pss_cut (ps_if (Uv.pt_tr (pv 2) (by intro _; rfl)) (pss_one (ps_ret (pe_andT (pe_cmpR Uv.u_isnot (pv 3) pe_non (nomark _)) (pe_one (pe_cmpR Uv.u_le (pv 3) (pe_ix Uv.u_ix (pv 0) pe_int (fun _ _ => rfl)) (nomark _)))))) pss_nil)
      (pss_one (ps_ret (pe_orT (pe_cmpR Uv.u_is (pv 3) pe_non (nomark _)) (pe_one (pe_andT (pe_cmpR Uv.u_isnot (pe_ix Uv.u_ix (pv 0) pe_int (fun _ _ => rfl)) pe_non (nomark _)) (pe_one (pe_cmpR Uv.u_gt (pv 3) (pe_ix Uv.u_ix (pv 0) pe_int (fun _ _ => rfl)) (nomark _))))))))))), pure__law_stuck T vs H Q E h⟩)
  unfold sp__law_stuck at h
  (repeat (obtain ⟨_, h⟩ := h)); all_goals (subst_vars; rfl)
end
end K19

--T law_k19_need_round_counts
namespace K19
open PySem PySem.Spec PyProof.Rows L2 Uv N19
theorem it_const {α : Type} {f : α → α} {x : α} {n : Nat} (h : it f (n + 1) x = it f n x) : ∀ j, it f (n + j) x = it f n x
  | 0 => rfl
  | j + 1 => by
    rw [show n + (j + 1) = (n + j) + 1 by omega, it_succ f, it_const h j, ← it_succ f]
    exact h
theorem it_one {α : Type} (f : α → α) (x : α) : it f 1 x = f x := rfl
theorem stuck_down {nd : Nd} {k : Option Int} {purse c : Int} (hN : NdOk nd) (h : DownOk nd k purse (some c)) (hc : 60 < c) : stuckB (it nd.f 60 k) (it nd.f 59 k) k false = false := by
  obtain ⟨c0, c1, c2⟩ := h
  have ne : it nd.f 60 k ≠ it nd.f 59 k := fun e => by
    have q := it_const (n := 59) e (c.toNat - 59)
    rw [show 59 + (c.toNat - 59) = c.toNat by omega] at q
    rw [q] at c1
    exact c2 59 (by omega) c1
  unfold stuckB
  rw [if_neg ne, if_neg (by decide)]
  have h0 := c2 0 (by omega)
  cases hN with
  | off =>
    exfalso
    obtain ⟨m, hm⟩ : ∃ m, c.toNat = m + 1 := ⟨c.toNat - 1, by omega⟩
    rw [hm, it_off] at c1
    exact aff_none c1
  | @on s rs n hs hw hn =>
    cases e : it (Nd.f ⟨some s, rs, n⟩) 60 k with
    | none =>
      exfalso
      rw [show (60 : Nat) = 59 + 1 from rfl, it_succ] at e
      have hn2 : n = none := by
        cases e2 : it (Nd.f ⟨some s, rs, n⟩) 59 k with
        | none => rw [e2] at e; exact e
        | some y => rw [e2] at e; cases e
      subst hn2
      have q : it (Nd.f ⟨some s, rs, none⟩) c.toNat k = none := by
        rw [show c.toNat = (59 + 1) + (c.toNat - 60) by omega, it_add, it_succ, e]
        exact it_none _
      rw [q] at c1
      exact aff_none c1
    | some x =>
      cases k with
      | none => rfl
      | some y =>
        rw [it_some] at e c1
        have h0' : ¬ aff (some y) purse := h0
        rw [aff_some] at c1 h0'
        have e' : it (valAt s rs) 60 y = x := Option.some.inj e
        show decide (y < x) = false
        refine decide_eq_false fun hlt => ?_
        by_cases d : valAt s rs y ≤ y
        · have := (down_stays hw d 60).1
          omega
        · have := (up_stays (s := s) (v := y) hw (by omega) c.toNat).1
          omega
theorem stuck_up {nd : Nd} {k : Option Int} {purse c : Int} (hN : NdOk nd) (h : UpOk nd k purse (some c)) (hc : 60 < c) : k ≠ none ∧ stuckB (it nd.f 60 k) (it nd.f 59 k) k true = false := by
  obtain ⟨c0, c1, c2⟩ := h
  have h0 := c2 0 (by omega)
  cases k with
  | none => exact absurd h0 aff_none
  | some y =>
    refine ⟨fun z => (nomatch z), ?_⟩
    have ne : it nd.f 60 (some y) ≠ it nd.f 59 (some y) := fun e => by
      have q := it_const (n := 59) e (c.toNat - 59)
      rw [show 59 + (c.toNat - 59) = c.toNat by omega] at q
      rw [q] at c1
      exact c1 (c2 59 (by omega))
    unfold stuckB
    rw [if_neg ne, if_pos rfl]
    cases hN with
    | off =>
      exfalso
      exact aff_none (c2 1 (by omega))
    | @on s rs n hs hw hn =>
      have h60 := c2 60 (by omega)
      rw [it_some] at h60 c1 ⊢
      have h0' : aff (some y) purse := h0
      rw [aff_some] at c1 h0' h60
      show decide (it (valAt s rs) 60 y ≤ y) = false
      refine decide_eq_false fun hle => ?_
      by_cases d : valAt s rs y ≤ y
      · have := (down_stays hw d c.toNat).1
        omega
      · have q := (up_stays (s := s) (v := valAt s rs y) hw (val_le hw (show y ≤ valAt s rs y by omega)).1 59).1
        have e : it (valAt s rs) 60 y = it (valAt s rs) 59 (valAt s rs y) := rfl
        omega
theorem leB_iff : ∀ {a b : Option Int}, leB a b = true ↔ leV a b
  | a, none => ⟨fun _ => .inl rfl, fun _ => rfl⟩
  | none, some y => ⟨fun h => (nomatch h), fun h => by
    rcases h with h | ⟨_, _, h, _⟩
    · cases h
    · cases h⟩
  | some x, some y => ⟨fun h => .inr ⟨x, y, rfl, rfl, of_decide_eq_true h⟩, fun h => by
    rcases h with h | ⟨x', y', h1, h2, h3⟩
    · cases h
    · cases h1; cases h2; exact decide_eq_true h3⟩
theorem leV_anti {a b : Option Int} (h1 : leV a b) (h2 : leV b a) : a = b := by
  rcases h1 with rfl | ⟨x, y, rfl, rfl, h⟩
  · rcases h2 with rfl | ⟨x, y, h, _⟩
    · rfl
    · cases h
  · rcases h2 with h2 | ⟨x', y', e1, e2, h'⟩
    · cases h2
    · cases e1; cases e2
      congr 1
      omega
theorem leV_trans {a b c : Option Int} (h1 : leV a b) (h2 : leV b c) : leV a c := by
  rcases h2 with rfl | ⟨x, y, rfl, rfl, h⟩
  · exact .inl rfl
  · rcases h1 with h1 | ⟨x', y', rfl, e, h'⟩
    · cases h1
    · cases e
      exact .inr ⟨_, _, rfl, rfl, by omega⟩
theorem leV_total (a b : Option Int) : leV a b ∨ leV b a := by
  cases a with
  | none => exact .inr (.inl rfl)
  | some x =>
    cases b with
    | none => exact .inl (.inl rfl)
    | some y =>
      rcases Int.le_total x y with h | h
      · exact .inl (.inr ⟨_, _, rfl, rfl, h⟩)
      · exact .inr (.inr ⟨_, _, rfl, rfl, h⟩)
theorem least_one {nd : Nd} {k r r' : Option Int} {l : Nat} (h : LeastO nd k l r) (h' : LeastO nd k l r') : r = r' := by
  obtain ⟨⟨j, h1, h2⟩, h3⟩ := h
  obtain ⟨⟨j', h1', h2'⟩, h3'⟩ := h'
  exact leV_anti (by rw [← h2']; exact h3 _ h1') (by rw [← h2]; exact h3' _ h1)
theorem most_one {nd : Nd} {k r r' : Option Int} {l : Nat} (h : MostO nd k l r) (h' : MostO nd k l r') : r = r' := by
  obtain ⟨⟨j, h1, h2⟩, h3⟩ := h
  obtain ⟨⟨j', h1', h2'⟩, h3'⟩ := h'
  exact leV_anti (by rw [← h2]; exact h3' _ h1) (by rw [← h2']; exact h3 _ h1')
/-- the law's own scan, behind i values -/
def LeastS (nd : Nd) (k : Option Int) (i : Nat) (r : Option Int) : Prop := (∃ j, (j < i ∨ j = 0) ∧ it nd.f j k = r) ∧ ∀ j, j < i → leV r (it nd.f j k)
def MostS (nd : Nd) (k : Option Int) (i : Nat) (r : Option Int) : Prop := (∃ j, (j < i ∨ j = 0) ∧ it nd.f j k = r) ∧ ∀ j, j < i → leV (it nd.f j k) r
theorem LeastS.turn {nd : Nd} {k r : Option Int} {i : Nat} (h : LeastS nd k i r) : LeastS nd k (i + 1) (if leB (it nd.f i k) r = true then it nd.f i k else r) := by
  obtain ⟨⟨j, h1, h2⟩, h3⟩ := h
  by_cases c : leB (it nd.f i k) r = true
  · rw [if_pos c]
    refine ⟨⟨i, by omega, rfl⟩, fun j hj => ?_⟩
    rcases Nat.lt_or_ge j i with q | q
    · exact leV_trans (leB_iff.mp c) (h3 j q)
    · rw [show j = i by omega]
      exact leV_refl _
  · rw [if_neg c]
    refine ⟨⟨j, by omega, h2⟩, fun j hj => ?_⟩
    rcases Nat.lt_or_ge j i with q | q
    · exact h3 j q
    · rw [show j = i by omega]
      rcases leV_total r (it nd.f i k) with t | t
      · exact t
      · exact absurd (leB_iff.mpr t) c
theorem MostS.turn {nd : Nd} {k r : Option Int} {i : Nat} (h : MostS nd k i r) : MostS nd k (i + 1) (if leB r (it nd.f i k) = true then it nd.f i k else r) := by
  obtain ⟨⟨j, h1, h2⟩, h3⟩ := h
  by_cases c : leB r (it nd.f i k) = true
  · rw [if_pos c]
    refine ⟨⟨i, by omega, rfl⟩, fun j hj => ?_⟩
    rcases Nat.lt_or_ge j i with q | q
    · exact leV_trans (h3 j q) (leB_iff.mp c)
    · rw [show j = i by omega]
      exact leV_refl _
  · rw [if_neg c]
    refine ⟨⟨j, by omega, h2⟩, fun j hj => ?_⟩
    rcases Nat.lt_or_ge j i with q | q
    · exact h3 j q
    · rw [show j = i by omega]
      rcases leV_total r (it nd.f i k) with t | t
      · exact absurd (leB_iff.mpr t) c
      · exact t
abbrev s__law_small : Stmt := (top 36)
theorem sc__law_small : FnScope ["_law_f", "_law_need_here", "_law_k", "_law_purse", "_law_values_here", "_law_down", "_law_up"] ["_law_f", "_law_need_here", "_law_k", "_law_purse"] (defScope s__law_small) := ⟨rfl, rfl, rfl, by decide +kernel, rfl, by decide +kernel, by decide +kernel⟩
def t__law_small (K : PySem.W.Frag) (Z : Ad) : TS :=
    (tSeq (tAsg (tCall (sp__law_values K Z) [] E0 (tCons (tVar 1) (tCons (tVar 2) (tCons (tC (.int 60)) tNil)))) (gName 4))
    (tSeq (tAsg (tMeth Z.Need "rounds_to_afford" (sp_Need_rounds_to_afford K Z) [] E0 (tVar 0) (tCons (tVar 2) (tCons (tVar 3) tNil))) (gName 5))
    (tSeq (tAsg (tMeth Z.Need "rounds_to_exceed" (sp_Need_rounds_to_exceed K Z) [] E0 (tVar 0) (tCons (tVar 2) (tCons (tVar 3) tNil))) (gName 6))
    (C8.tCut (tIfS (tOr (tNot (Uv.tTr K (tCall (sp__law_count_right K Z) [] E0 (tCons (tVar 5) (tCons (tVar 4) (tCons (tVar 3) (tCons (tC (.bl false)) tNil))))))) (tNot (Uv.tTr K (tCall (sp__law_count_right K Z) [] E0 (tCons (tVar 6) (tCons (tVar 4) (tCons (tVar 3) (tCons (tC (.bl true)) tNil)))))))) (tRet (tC (.bl false))) tNext)
    (C8.tCut (tIfS (tAnd (tTest (tOp Uv.rNotU (tVar 5) (tC .non))) (tAnd (tTest (tOp Uv.rGtU (tVar 5) (tC (.int 60)))) (Uv.tTr K (tCall (sp__law_stuck K Z) [] E0 (tCons (tVar 4) (tCons (tVar 3) (tCons (tC (.bl false)) tNil))))))) (tRet (tC (.bl false))) tNext)
    (tRet (tOrT K (tOp Uv.rIsU (tVar 6) (tC .non)) (tOrT K (tOp Uv.rLeU (tVar 6) (tC (.int 60))) (tNotT K (tCall (sp__law_stuck K Z) [] E0 (tCons (tVar 4) (tCons (tVar 3) (tCons (tC (.bl true)) tNil)))))))))))))
def sp__law_small (K : PySem.W.Frag) (Z : Ad) : Sp := fun vs H Q _ => ∃ (x l : Addr) (nd : Nd) (k : Option Int) (purse : Int), vs = [.ref x, .ref l, vO k, .int purse] ∧ NeedAt K Z H x nd ∧ NL K H l nd ∧ NdOk nd ∧ BdO k ∧ Bd purse ∧ ∀ H', Same H H' → Q (.bl true) H'
abbrev s__law_extremes : Stmt := (top 37)
theorem sc__law_extremes : FnScope ["_law_f", "_law_need_here", "_law_k", "_law_limit", "_law_values_here", "_law_least", "_law_most", "_law_value_here"] ["_law_f", "_law_need_here", "_law_k", "_law_limit"] (defScope s__law_extremes) := ⟨rfl, rfl, rfl, by decide +kernel, rfl, by decide +kernel, by decide +kernel⟩
def t__law_extremes (K : PySem.W.Frag) (Z : Ad) : TS :=
    (tSeq (tAsg (tCall (sp__law_values K Z) [] E0 (tCons (tVar 1) (tCons (tVar 2) (tCons (tVar 3) tNil)))) (gName 4))
    (tSeq (tAsg (tOp (Uv.rIxU K) (tVar 4) (tC (.int 0))) (gName 5))
    (tSeq (tAsg (tOp (Uv.rIxU K) (tVar 4) (tC (.int 0))) (gName 6))
    (C8.tCut (tFor (Uv.iSeqU K (tVar 4)) (gName 7) (C8.tCut (tIfS (Uv.tTr K (tCall (sp__law_at_most K Z) [] E0 (tCons (tVar 7) (tCons (tVar 5) tNil)))) (tAsg (tVar 7) (gName 5)) tNext)
    (tIfS (Uv.tTr K (tCall (sp__law_at_most K Z) [] E0 (tCons (tVar 6) (tCons (tVar 7) tNil)))) (tAsg (tVar 7) (gName 6)) tNext)))
    (tRet (tAndT K (tCall (sp__law_same K Z) [] E0 (tCons (tMeth Z.Need "lowest" (sp_Need_lowest K Z) [] E0 (tVar 0) (tCons (tVar 2) (tCons (tVar 3) tNil))) (tCons (tVar 5) tNil))) (tCall (sp__law_same K Z) [] E0 (tCons (tMeth Z.Need "highest" (sp_Need_highest K Z) [] E0 (tVar 0) (tCons (tVar 2) (tCons (tVar 3) tNil))) (tCons (tVar 6) tNil)))))))))
def sp__law_extremes (K : PySem.W.Frag) (Z : Ad) : Sp := fun vs H Q _ => ∃ (x l : Addr) (nd : Nd) (k : Option Int) (m : Nat), vs = [.ref x, .ref l, vO k, .int m] ∧ NeedAt K Z H x nd ∧ NL K H l nd ∧ NdOk nd ∧ BdO k ∧ m ≤ 1000 ∧ ∀ H', Same H H' → Q (.bl true) H'
section
variable {P : Program} {w : World} {K : PySem.W.Frag} {mg : Str → Option Value} {base : Heap} {Z : Ad} {f : Addr} {fd : FuncData}
theorem pure__law_small (T : TK K Z) (vs : List V) (H : Hp) (Q : VK) (E : XK) (h : sp__law_small K Z vs H Q E) : t__law_small K Z { nx := fun _ H' => Q .non H', rt := Q } (L2.start ["_law_f", "_law_need_here", "_law_k", "_law_purse", "_law_values_here", "_law_down", "_law_up"] vs) H := by
  obtain ⟨x, l, nd, k, purse, rfl, hX, hL, hN, hk, hp, hQ⟩ := h
  walk_at "in"
  unfold t__law_small
  walk_at "go"
  refine ⟨l, nd, k, 60, rfl, hL, hN, by decide, fun p hp0 => ?_⟩
  have s1 : Same H (upd H p (.lst (vals nd k (60 + 1)))) := Same.new hp0
  have hX1 := hX.mono s1
  have hv : SqL K (upd H p (.lst (vals nd k (60 + 1)))) p (vals nd k 61) := .of upd_same
  have hQ' := hQ _ s1
  obtain ⟨dx, a, xs, ho, hS, hP⟩ := hX1
  walk_at "go"
  refine r_methOf ho rfl ?_
  walk_at "go"
  refine ⟨x, nd, k, purse, rfl, ⟨dx, a, xs, ho, hS, hP⟩, hN, hk, hp, fun down hd => ?_⟩
  walk_at "go"
  refine r_methOf ho rfl ?_
  walk_at "go"
  refine ⟨x, nd, k, purse, rfl, ⟨dx, a, xs, ho, hS, hP⟩, hN, hk, hp, fun up hu => ?_⟩
  walk_at "go"
  refine r_nocut ?_
  walk_at "go"
  refine ⟨down, p, nd, k, 61, purse, false, rfl, hv, by decide, hd, ?_⟩
  walk_at "go"
  refine ⟨up, p, nd, k, 61, purse, true, rfl, hv, by decide, hu, ?_⟩
  walk_at "go"
  refine r_cut (fun σ' H' => H' = upd H p (.lst (vals nd k (60 + 1))) ∧ σ' = [some (.ref x), some (.ref l), some (vO k), some (.int purse), some (.ref p), some (vO down), some (vO up)]) ?_ ?_
  · cases down with
    | none =>
      rw [vO_none]
      walk_at "go"
      exact ⟨rfl, rfl⟩
    | some c =>
      rw [vO_some]
      walk_at "go"
      walk_at "b"
      · rename_i hc
        walk_at "go"
        refine ⟨p, nd, k, 59, purse, false, rfl, hv, fun z => (nomatch z), ?_⟩
        rw [stuck_down hN hd hc]
        walk_at "go"
        exact ⟨rfl, rfl⟩
      · walk_at "go"
        exact ⟨rfl, rfl⟩
  · rintro σ' H' ⟨rfl, rfl⟩
    cases up with
    | none =>
      rw [vO_none]
      walk_at "go"
      exact hQ'
    | some c =>
      rw [vO_some]
      walk_at "go"
      by_cases hc : c ≤ 60
      · rw [decide_eq_true hc]
        walk_at "go"
        exact hQ'
      · rw [decide_eq_false hc]
        walk_at "go"
        obtain ⟨u1, u2⟩ := stuck_up hN hu (by omega)
        refine ⟨p, nd, k, 59, purse, true, rfl, hv, fun _ => u1, ?_⟩
        rw [u2]
        walk_at "go"
        exact hQ'
theorem ok__law_small (T : TK K Z) (B : Blt mg) (c__law_values : C8.Cal P w K mg base 2 "_law_values" (sp__law_values K Z) []) (t_Need_rounds_to_afford : C8.Met P w K mg base 3 Z.Need "rounds_to_afford" (sp_Need_rounds_to_afford K Z) []) (t_Need_rounds_to_exceed : C8.Met P w K mg base 3 Z.Need "rounds_to_exceed" (sp_Need_rounds_to_exceed K Z) []) (c__law_stuck : C8.Cal P w K mg base 1 "_law_stuck" (sp__law_stuck K Z) []) (c__law_count_right : C8.Cal P w K mg base 2 "_law_count_right" (sp__law_count_right K Z) []) (F : FnP K "_law_small" "_law_small" s__law_small f fd) : FnOk P w K mg base CX0 4 f fd ["_law_f", "_law_need_here", "_law_k", "_law_purse"] (sp__law_small K Z) := by
  have nd := sc__law_small.nd
  refine F.ok sc__law_small (fun vs H Q E h => ?_) (fun cdv A outer s H vs Q E hr h => ⟨t__law_small K Z, PSs.nox (pss_cons (ps_set (i := 4) nd rfl (by first | exact Or.inl rfl | exact Or.inr rfl) (C8.pe_c c__law_values hr (by decide) rfl (pa_cons (pv 1) (pa_cons (pv 2) (pa_cons pe_int pa_nil)))))
      (pss_cons (ps_set (i := 5) nd rfl (by first | exact Or.inl rfl | exact Or.inr rfl) (C8.pe_mt t_Need_rounds_to_afford hr (by decide) (pv 0) (pa_cons (pv 2) (pa_cons (pv 3) pa_nil))))
      (pss_cons (ps_set (i := 6) nd rfl (by first | exact Or.inl rfl | exact Or.inr rfl) (C8.pe_mt t_Need_rounds_to_exceed hr (by decide) (pv 0) (pa_cons (pv 2) (pa_cons (pv 3) pa_nil))))
      (C8.pss_cut (ps_if (PW.pt (pw_or (pt_not (Uv.pt_tr (C8.pe_c c__law_count_right hr (by decide) rfl (pa_cons (pv 5) (pa_cons (pv 4) (pa_cons (pv 3) (pa_cons pe_bl pa_nil))))) (by intro _; rfl))) (pw_or1 (pt_not (Uv.pt_tr (C8.pe_c c__law_count_right hr (by decide) rfl (pa_cons (pv 6) (pa_cons (pv 4) (pa_cons (pv 3) (pa_cons pe_bl pa_nil))))) (by intro _; rfl)))))) (pss_one (ps_ret pe_bl)) pss_nil)
      (C8.pss_cut (ps_if (PW.pt (pw_and (pt_cmpR Uv.u_isnot (pv 5) pe_non (nomark _)) (pw_and (pt_cmpR Uv.u_gt (pv 5) pe_int (nomark _)) (pw_and1 (Uv.pt_tr (C8.pe_c c__law_stuck hr (by decide) rfl (pa_cons (pv 4) (pa_cons (pv 3) (pa_cons pe_bl pa_nil)))) (by intro _; rfl)))))) (pss_one (ps_ret pe_bl)) pss_nil)
      (pss_one (ps_ret (pe_orT (pe_cmpR Uv.u_is (pv 6) pe_non (nomark _)) (pe_orT (pe_cmpR Uv.u_le (pv 6) pe_int (nomark _)) (pe_one (pe_notT (C8.pe_c c__law_stuck hr (by decide) rfl (pa_cons (pv 4) (pa_cons (pv 3) (pa_cons pe_bl pa_nil))))))))))))))), pure__law_small T vs H Q E h⟩)
  unfold sp__law_small at h
  (repeat (obtain ⟨_, h⟩ := h)); all_goals (subst_vars; rfl)
theorem pure__law_extremes (T : TK K Z) (vs : List V) (H : Hp) (Q : VK) (E : XK) (h : sp__law_extremes K Z vs H Q E) : t__law_extremes K Z { nx := fun _ H' => Q .non H', rt := Q } (L2.start ["_law_f", "_law_need_here", "_law_k", "_law_limit", "_law_values_here", "_law_least", "_law_most", "_law_value_here"] vs) H := by
  obtain ⟨x, l, nd, k, m, rfl, hX, hL, hN, hk, hm, hQ⟩ := h
  walk_at "in"
  unfold t__law_extremes
  walk_at "go"
  refine ⟨l, nd, k, m, rfl, hL, hN, by omega, fun p hp0 => ?_⟩
  have s1 : Same H (upd H p (.lst (vals nd k (m + 1)))) := Same.new hp0
  have hX1 := hX.mono s1
  have hv : SqL K (upd H p (.lst (vals nd k (m + 1)))) p (vals nd k (m + 1)) := .of upd_same
  have at0 : atI (vals nd k (m + 1)) 0 = some (vO k) := atI_of (j := 0) rfl (vals_at (by omega))
  have hQ' := hQ _ s1
  obtain ⟨dx, a, xs, ho, hS, hP⟩ := hX1
  walk_at "go"
  refine r_ixL hv at0 ?_
  walk_at "go"
  refine r_ixL hv at0 ?_
  walk_at "go"
  refine r_cut (fun σ' H' => H' = upd H p (.lst (vals nd k (m + 1))) ∧ ∃ ls ms b1, σ' = [some (.ref x), some (.ref l), some (vO k), some (.int m), some (.ref p), some (vO ls), some (vO ms), b1] ∧ LeastO nd k m ls ∧ MostO nd k m ms) ?_ ?_
  · refine r_forL ?_
    walk_at "go"
    refine r_loopL hv (fun i σ' H' => H' = upd H p (.lst (vals nd k (m + 1))) ∧ ∃ ls ms b1, σ' = [some (.ref x), some (.ref l), some (vO k), some (.int m), some (.ref p), some (vO ls), some (vO ms), b1] ∧ LeastS nd k i ls ∧ MostS nd k i ms) ?_ ?_ ?_ ?_
    · exact ⟨rfl, k, k, none, rfl, ⟨⟨0, .inr rfl, rfl⟩, fun j hj => absurd hj (Nat.not_lt_zero j)⟩, ⟨⟨0, .inr rfl, rfl⟩, fun j hj => absurd hj (Nat.not_lt_zero j)⟩⟩
    · rintro i σ' H' _ ⟨rfl, _⟩
      exact hv
    · rintro i y σ' H' hy ⟨rfl, ls, ms, b1, rfl, h1, h2⟩
      have hi : i < m + 1 := by
        rcases Nat.lt_or_ge i (m + 1) with q | q
        · exact q
        · rw [List.getElem?_eq_none (by rw [vals_len]; exact q)] at hy; cases hy
      rw [vals_at hi] at hy
      cases hy
      walk_at "go"
      refine r_cut (fun σ' H' => H' = upd H p (.lst (vals nd k (m + 1))) ∧ ∃ ls, σ' = [some (.ref x), some (.ref l), some (vO k), some (.int m), some (.ref p), some (vO ls), some (vO ms), some (vO (it nd.f i k))] ∧ LeastS nd k (i + 1) ls) ?_ ?_
      · walk_at "go"
        refine ⟨_, _, rfl, ?_⟩
        walk_at "go"
        have t := h1.turn
        cases c : leB (it nd.f i k) ls with
        | true =>
          rw [c, if_pos rfl] at t
          walk_at "go"
          exact ⟨rfl, _, rfl, t⟩
        | false =>
          rw [c, if_neg (by decide)] at t
          walk_at "go"
          exact ⟨rfl, _, rfl, t⟩
      · rintro σ' H' ⟨rfl, ls', rfl, h1'⟩
        walk_at "go"
        refine ⟨_, _, rfl, ?_⟩
        walk_at "go"
        have t := h2.turn
        cases c : leB ms (it nd.f i k) with
        | true =>
          rw [c, if_pos rfl] at t
          walk_at "go"
          exact ⟨rfl, _, _, _, rfl, h1', t⟩
        | false =>
          rw [c, if_neg (by decide)] at t
          walk_at "go"
          exact ⟨rfl, _, _, _, rfl, h1', t⟩
    · rintro σ' H' ⟨rfl, ls, ms, b1, rfl, ⟨⟨j1, a1, a2⟩, a3⟩, ⟨⟨j2, b1', b2⟩, b3⟩⟩
      rw [vals_len] at a1 a3 b1' b3
      exact ⟨rfl, ls, ms, b1, rfl, ⟨⟨j1, by omega, a2⟩, fun j hj => a3 j (by omega)⟩, ⟨⟨j2, by omega, b2⟩, fun j hj => b3 j (by omega)⟩⟩
  · rintro σ' H' ⟨rfl, ls, ms, b1, rfl, h1, h2⟩
    have bm : Bd (m : Int) := ⟨by omega, by omega⟩
    walk_at "go"
    refine r_methOf ho rfl ?_
    walk_at "go"
    refine ⟨x, nd, k, m, rfl, ⟨dx, a, xs, ho, hS, hP⟩, hN, hk, bm, fun r hr => ?_⟩
    walk_at "go"
    refine ⟨r, ls, rfl, ?_⟩
    rw [decide_eq_true (least_one hr h1)]
    walk_at "go"
    refine r_methOf ho rfl ?_
    walk_at "go"
    refine ⟨x, nd, k, m, rfl, ⟨dx, a, xs, ho, hS, hP⟩, hN, hk, bm, fun r hr => ?_⟩
    walk_at "go"
    refine ⟨r, ms, rfl, ?_⟩
    rw [decide_eq_true (most_one hr h2)]
    exact hQ'
theorem ok__law_extremes (T : TK K Z) (B : Blt mg) (c__law_values : C8.Cal P w K mg base 2 "_law_values" (sp__law_values K Z) []) (c__law_at_most : C8.Cal P w K mg base 1 "_law_at_most" (sp__law_at_most K Z) []) (c__law_same : C8.Cal P w K mg base 1 "_law_same" (sp__law_same K Z) []) (t_Need_lowest : C8.Met P w K mg base 3 Z.Need "lowest" (sp_Need_lowest K Z) []) (t_Need_highest : C8.Met P w K mg base 3 Z.Need "highest" (sp_Need_highest K Z) []) (F : FnP K "_law_extremes" "_law_extremes" s__law_extremes f fd) : FnOk P w K mg base CX0 4 f fd ["_law_f", "_law_need_here", "_law_k", "_law_limit"] (sp__law_extremes K Z) := by
  have nd := sc__law_extremes.nd
  refine F.ok sc__law_extremes (fun vs H Q E h => ?_) (fun cdv A outer s H vs Q E hr h => ⟨t__law_extremes K Z, PSs.nox (pss_cons (ps_set (i := 4) nd rfl (by first | exact Or.inl rfl | exact Or.inr rfl) (C8.pe_c c__law_values hr (by decide) rfl (pa_cons (pv 1) (pa_cons (pv 2) (pa_cons (pv 3) pa_nil)))))
      (pss_cons (ps_set (i := 5) nd rfl (by first | exact Or.inl rfl | exact Or.inr rfl) (pe_ix Uv.u_ix (pv 4) pe_int (fun _ _ => rfl)))
      (pss_cons (ps_set (i := 6) nd rfl (by first | exact Or.inl rfl | exact Or.inr rfl) (pe_ix Uv.u_ix (pv 4) pe_int (fun _ _ => rfl)))
      (C8.pss_cut (ps_for PassesOwn.never rfl (Uv.pi_seq (pv 4)) (pg_name (i := 7) nd rfl (by first | exact Or.inl rfl | exact Or.inr rfl)) (C8.pss_cut (ps_if (Uv.pt_tr (C8.pe_c c__law_at_most hr (by decide) rfl (pa_cons (pv 7) (pa_cons (pv 5) pa_nil))) (by intro _; rfl)) (pss_one (ps_set (i := 5) nd rfl (by first | exact Or.inl rfl | exact Or.inr rfl) (pv 7))) pss_nil)
      (pss_one (ps_if (Uv.pt_tr (C8.pe_c c__law_at_most hr (by decide) rfl (pa_cons (pv 6) (pa_cons (pv 7) pa_nil))) (by intro _; rfl)) (pss_one (ps_set (i := 6) nd rfl (by first | exact Or.inl rfl | exact Or.inr rfl) (pv 7))) pss_nil))))
      (pss_one (ps_ret (pe_andT (C8.pe_c c__law_same hr (by decide) rfl (pa_cons (C8.pe_mt t_Need_lowest hr (by decide) (pv 0) (pa_cons (pv 2) (pa_cons (pv 3) pa_nil))) (pa_cons (pv 5) pa_nil))) (pe_one (C8.pe_c c__law_same hr (by decide) rfl (pa_cons (C8.pe_mt t_Need_highest hr (by decide) (pv 0) (pa_cons (pv 2) (pa_cons (pv 3) pa_nil))) (pa_cons (pv 6) pa_nil))))))))))), pure__law_extremes T vs H Q E h⟩)
  unfold sp__law_extremes at h
  (repeat (obtain ⟨_, h⟩ := h)); all_goals (subst_vars; rfl)
end
end K19

--T law_k19_need_round_counts
namespace K19
open PySem PySem.Spec PyProof.Rows L2 Uv N19
abbrev s__law_up_count : Stmt := (top 39)
theorem sc__law_up_count : FnScope ["_law_pace", "_law_flat", "_law_edge", "_law_needed", "_law_purse", "_law_value_here", "_law_count"] ["_law_pace", "_law_flat", "_law_edge", "_law_needed", "_law_purse"] (defScope s__law_up_count) := ⟨rfl, rfl, rfl, by decide +kernel, rfl, by decide +kernel, by decide +kernel⟩
def t__law_up_count (K : PySem.W.Frag) (Z : Ad) : TS :=
    (tSeq (tAsg (tVar 3) (gName 5))
    (tSeq (tAsg (tC (.int 0)) (gName 6))
    (C8.tCut (tIfS (tAnd (tTest (tOp Uv.rLeU (tVar 5) (tVar 4))) (tTest (tOp Uv.rLeU (tVar 5) (tVar 2)))) (tSeq (tAsg (tOp (Uv.rAddU K) (tOp Uv.rFdvU (tOp Uv.rSubU (tCB Uv.rMin2 (tCons (tVar 4) (tCons (tVar 2) tNil))) (tVar 5)) (tVar 0)) (tC (.int 1))) (gName 6))
    (tAsg (tOp (Uv.rAddU K) (tVar 5) (tOp Uv.rMulU (tVar 0) (tVar 6))) (gName 5))) tNext)
    (C8.tCut (tIfS (tAnd (tTest (tOp Uv.rLeU (tVar 5) (tVar 4))) (tTest (tOp Uv.rLtU (tVar 5) (tOp (Uv.rAddU K) (tVar 2) (tVar 1))))) (tSeq (tAsg (tOp (Uv.rAddU K) (tVar 2) (tVar 0)) (gName 5))
    (tAsg (tOp (Uv.rAddU K) (tVar 6) (tC (.int 1))) (gName 6))) tNext)
    (C8.tCut (tIfS (tTest (tOp Uv.rLeU (tVar 5) (tVar 4))) (tAsg (tOp (Uv.rAddU K) (tOp (Uv.rAddU K) (tVar 6) (tOp Uv.rFdvU (tOp Uv.rSubU (tVar 4) (tVar 5)) (tOp Uv.rSubU (tVar 0) (tVar 1)))) (tC (.int 1))) (gName 6)) tNext)
    (tRet (tVar 6)))))))
def sp__law_up_count (K : PySem.W.Frag) (_ : Ad) : Sp := fun vs H Q _ => ∃ (pace flat edge v purse : Int), vs = [.int pace, .int flat, .int edge, .int v, .int purse] ∧ Pu pace flat edge ∧ pace ≤ 2000 ∧ Bd edge ∧ Bd v ∧ Bd purse ∧ ∀ c, UpI (fU pace flat edge) v purse c → Q (.int c) H
abbrev s__law_up_value : Stmt := (top 40)
theorem sc__law_up_value : FnScope ["_law_pace", "_law_flat", "_law_edge", "_law_needed", "_law_limit", "_law_value_here", "_law_left", "_law_turns"] ["_law_pace", "_law_flat", "_law_edge", "_law_needed", "_law_limit"] (defScope s__law_up_value) := ⟨rfl, rfl, rfl, by decide +kernel, rfl, by decide +kernel, by decide +kernel⟩
def t__law_up_value (K : PySem.W.Frag) (Z : Ad) : TS :=
    (tSeq (tAsg (tVar 3) (gName 5))
    (tSeq (tAsg (tVar 4) (gName 6))
    (C8.tCut (tIfS (tAnd (tTest (tOp Uv.rGtU (tVar 6) (tC (.int 0)))) (tTest (tOp Uv.rLeU (tVar 5) (tVar 2)))) (tSeq (tAsg (tCB Uv.rMin2 (tCons (tVar 6) (tCons (tOp (Uv.rAddU K) (tOp Uv.rFdvU (tOp Uv.rSubU (tVar 2) (tVar 5)) (tVar 0)) (tC (.int 1))) tNil))) (gName 7))
    (tSeq (tAsg (tOp (Uv.rAddU K) (tVar 5) (tOp Uv.rMulU (tVar 0) (tVar 7))) (gName 5))
    (tAsg (tOp Uv.rSubU (tVar 6) (tVar 7)) (gName 6)))) tNext)
    (C8.tCut (tIfS (tAnd (tTest (tOp Uv.rGtU (tVar 6) (tC (.int 0)))) (tTest (tOp Uv.rLtU (tVar 5) (tOp (Uv.rAddU K) (tVar 2) (tVar 1))))) (tSeq (tAsg (tOp (Uv.rAddU K) (tVar 2) (tVar 0)) (gName 5))
    (tAsg (tOp Uv.rSubU (tVar 6) (tC (.int 1))) (gName 6))) tNext)
    (tRet (tOp (Uv.rAddU K) (tVar 5) (tOp Uv.rMulU (tOp Uv.rSubU (tVar 0) (tVar 1)) (tVar 6))))))))
def sp__law_up_value (K : PySem.W.Frag) (_ : Ad) : Sp := fun vs H Q _ => ∃ (pace flat edge v limit : Int), vs = [.int pace, .int flat, .int edge, .int v, .int limit] ∧ Pu pace flat edge ∧ pace ≤ 2000 ∧ Bd edge ∧ Bd v ∧ Bd limit ∧ ∀ r, MostO ⟨some pace, [(0, some edge), (edge + flat, none)], none⟩ (some v) limit.toNat (some r) → Q (.int r) H
abbrev s__law_down_count : Stmt := (top 41)
theorem sc__law_down_count : FnScope ["_law_base", "_law_pace", "_law_flat", "_law_edge", "_law_needed", "_law_purse", "_law_value_here", "_law_count"] ["_law_base", "_law_pace", "_law_flat", "_law_edge", "_law_needed", "_law_purse"] (defScope s__law_down_count) := ⟨rfl, rfl, rfl, by decide +kernel, rfl, by decide +kernel, by decide +kernel⟩
def t__law_down_count (K : PySem.W.Frag) (Z : Ad) : TS :=
    (tSeq (tAsg (tVar 4) (gName 6))
    (tSeq (tAsg (tC (.int 0)) (gName 7))
    (C8.tCut (tIfS (tAnd (tTest (tOp Uv.rGtU (tVar 6) (tVar 5))) (tTest (tOp Uv.rLtU (tVar 5) (tVar 0)))) (tRet (tC .non)) tNext)
    (C8.tCut (tIfS (tAnd (tTest (tOp Uv.rGtU (tVar 6) (tVar 5))) (tTest (tOp Uv.rGeU (tVar 6) (tOp (Uv.rAddU K) (tVar 3) (tVar 2))))) (tSeq (tAsg (tCB Uv.rMin2 (tCons (tOp (Uv.rAddU K) (tOp Uv.rFdvU (tOp Uv.rSubU (tOp Uv.rSubU (tVar 6) (tVar 3)) (tVar 2)) (tOp (Uv.rAddU K) (tVar 1) (tVar 2))) (tC (.int 1))) (tCons (tOp Uv.rSubU (tC (.int 0)) (tOp Uv.rFdvU (tOp Uv.rSubU (tVar 5) (tVar 6)) (tOp (Uv.rAddU K) (tVar 1) (tVar 2)))) tNil))) (gName 7))
    (tAsg (tOp Uv.rSubU (tVar 6) (tOp Uv.rMulU (tOp (Uv.rAddU K) (tVar 1) (tVar 2)) (tVar 7))) (gName 6))) tNext)
    (C8.tCut (tIfS (tAnd (tTest (tOp Uv.rGtU (tVar 6) (tVar 5))) (tTest (tOp Uv.rGtU (tVar 6) (tVar 3)))) (tSeq (tAsg (tOp Uv.rSubU (tVar 3) (tVar 1)) (gName 6))
    (tAsg (tOp (Uv.rAddU K) (tVar 7) (tC (.int 1))) (gName 7))) tNext)
    (C8.tCut (tIfS (tTest (tOp Uv.rGtU (tVar 6) (tVar 5))) (tAsg (tOp Uv.rSubU (tVar 7) (tOp Uv.rFdvU (tOp Uv.rSubU (tVar 5) (tVar 6)) (tVar 1))) (gName 7)) tNext)
    (tRet (tVar 7))))))))
def sp__law_down_count (K : PySem.W.Frag) (_ : Ad) : Sp := fun vs H Q _ => ∃ (base pace flat edge v purse : Int), vs = [.int base, .int pace, .int flat, .int edge, .int v, .int purse] ∧ Pd base pace flat edge ∧ pace ≤ 2000 ∧ Bd edge ∧ Bd v ∧ Bd purse ∧ ∀ r, DownOk ⟨some base, [(base + pace, some edge), (edge + flat, none)], none⟩ (some v) purse r → Q (vO r) H
abbrev s__law_down_value : Stmt := (top 42)
theorem sc__law_down_value : FnScope ["_law_base", "_law_pace", "_law_flat", "_law_edge", "_law_needed", "_law_limit", "_law_value_here", "_law_left", "_law_turns"] ["_law_base", "_law_pace", "_law_flat", "_law_edge", "_law_needed", "_law_limit"] (defScope s__law_down_value) := ⟨rfl, rfl, rfl, by decide +kernel, rfl, by decide +kernel, by decide +kernel⟩
def t__law_down_value (K : PySem.W.Frag) (Z : Ad) : TS :=
    (tSeq (tAsg (tVar 4) (gName 6))
    (tSeq (tAsg (tVar 5) (gName 7))
    (C8.tCut (tIfS (tAnd (tTest (tOp Uv.rGtU (tVar 7) (tC (.int 0)))) (tTest (tOp Uv.rGeU (tVar 6) (tOp (Uv.rAddU K) (tVar 3) (tVar 2))))) (tSeq (tAsg (tCB Uv.rMin2 (tCons (tVar 7) (tCons (tOp (Uv.rAddU K) (tOp Uv.rFdvU (tOp Uv.rSubU (tOp Uv.rSubU (tVar 6) (tVar 3)) (tVar 2)) (tOp (Uv.rAddU K) (tVar 1) (tVar 2))) (tC (.int 1))) tNil))) (gName 8))
    (tSeq (tAsg (tOp Uv.rSubU (tVar 6) (tOp Uv.rMulU (tOp (Uv.rAddU K) (tVar 1) (tVar 2)) (tVar 8))) (gName 6))
    (tAsg (tOp Uv.rSubU (tVar 7) (tVar 8)) (gName 7)))) tNext)
    (C8.tCut (tIfS (tAnd (tTest (tOp Uv.rGtU (tVar 7) (tC (.int 0)))) (tTest (tOp Uv.rGtU (tVar 6) (tVar 3)))) (tSeq (tAsg (tOp Uv.rSubU (tVar 3) (tVar 1)) (gName 6))
    (tAsg (tOp Uv.rSubU (tVar 7) (tC (.int 1))) (gName 7))) tNext)
    (tRet (tCB Uv.rMin2 (tCons (tVar 6) (tCons (tCB Uv.rMax2 (tCons (tVar 0) (tCons (tOp Uv.rSubU (tVar 6) (tOp Uv.rMulU (tVar 1) (tVar 7))) tNil))) tNil))))))))
def sp__law_down_value (K : PySem.W.Frag) (_ : Ad) : Sp := fun vs H Q _ => ∃ (base pace flat edge v limit : Int), vs = [.int base, .int pace, .int flat, .int edge, .int v, .int limit] ∧ Pd base pace flat edge ∧ pace ≤ 2000 ∧ Bd edge ∧ Bd v ∧ Bd limit ∧ ∀ r, Least (fD base pace flat edge) v limit.toNat r → Q (.int r) H
section
variable {P : Program} {w : World} {K : PySem.W.Frag} {mg : Str → Option Value} {base : Heap} {Z : Ad} {f : Addr} {fd : FuncData}
theorem pure__law_up_count (T : TK K Z) (vs : List V) (H : Hp) (Q : VK) (E : XK) (h : sp__law_up_count K Z vs H Q E) : t__law_up_count K Z { nx := fun _ H' => Q .non H', rt := Q } (L2.start ["_law_pace", "_law_flat", "_law_edge", "_law_needed", "_law_purse", "_law_value_here", "_law_count"] vs) H := by
  obtain ⟨pace, flat, edge, v, purse, rfl, hP, hp2, hE, hV, hU, hQ⟩ := h
  walk_at "in"
  unfold t__law_up_count
  have p2 := hP.p
  have pf := hP.f
  obtain ⟨e0, e1⟩ := hE
  obtain ⟨v0, v1⟩ := hV
  obtain ⟨u0, u1⟩ := hU
  walk_at "go"
  refine r_cut (fun σ' H' => H' = H ∧ ∃ v' c', σ' = [some (.int pace), some (.int flat), some (.int edge), some (.int v), some (.int purse), some (.int v'), some (.int c')] ∧ UpS (fU pace flat edge) v purse v' c' ∧ (v' ≤ purse → edge < v')) ?_ ?_
  · walk_at "go"
    walk_at "b"
    · rename_i h1
      walk_at "go"
      walk_at "b"
      · rename_i h2
        walk_at "go"
        obtain ⟨a, b⟩ := u_1 hP v0 h1 h2
        have m0 : 0 ≤ (if edge < purse then edge else purse) - v ∧ (if edge < purse then edge else purse) - v < 2 ^ 400 := by split <;> omega
        have dq := div_le_self m0.1 (show 0 < pace by omega)
        refine r_fdvI (by omega) (div_ok (by omega) (by omega)) ?_
        walk_at "go"
        refine r_mulI (mul_ok (by omega) (by omega)) ?_
        walk_at "go"
        exact ⟨rfl, _, _, rfl, a, b⟩
      · rename_i h2
        walk_at "go"
        exact ⟨rfl, _, _, rfl, UpS.refl, fun q => by omega⟩
    · rename_i h1
      walk_at "go"
      exact ⟨rfl, _, _, rfl, UpS.refl, fun q => by omega⟩
  rintro σ' H' ⟨rfl, v', c', rfl, us, h1⟩
  refine r_cut (fun σ' H2 => H2 = H' ∧ ∃ v' c', σ' = [some (.int pace), some (.int flat), some (.int edge), some (.int v), some (.int purse), some (.int v'), some (.int c')] ∧ UpS (fU pace flat edge) v purse v' c' ∧ (v' ≤ purse → edge + flat ≤ v')) ?_ ?_
  · walk_at "go"
    walk_at "b"
    · rename_i h2
      walk_at "go"
      walk_at "b"
      · rename_i h3
        walk_at "go"
        exact ⟨rfl, _, _, rfl, u_2 hP us h2 (h1 h2) h3, fun _ => by omega⟩
      · walk_at "go"
        exact ⟨rfl, _, _, rfl, us, fun _ => by omega⟩
    · walk_at "go"
      exact ⟨rfl, _, _, rfl, us, fun _ => by omega⟩
  rintro σ' H' ⟨rfl, v', c', rfl, us, h1⟩
  refine r_cut (fun σ' H2 => H2 = H' ∧ ∃ c', σ' = [some (.int pace), some (.int flat), some (.int edge), some (.int v), some (.int purse), some (.int v'), some (.int c')] ∧ UpI (fU pace flat edge) v purse c') ?_ ?_
  · walk_at "go"
    walk_at "b"
    · rename_i h2
      walk_at "go"
      refine r_fdvI (by omega) (div_ok (by omega) (by omega)) ?_
      walk_at "go"
      exact ⟨rfl, _, rfl, u_3 hP us h2 (h1 h2)⟩
    · rename_i h2
      walk_at "go"
      exact ⟨rfl, _, rfl, us.stop (by omega)⟩
  rintro σ' H' ⟨rfl, c', rfl, us⟩
  walk_at "go"
  exact hQ _ us
theorem ok__law_up_count (T : TK K Z) (B : Blt mg)  (F : FnP K "_law_up_count" "_law_up_count" s__law_up_count f fd) : FnOk P w K mg base CX0 1 f fd ["_law_pace", "_law_flat", "_law_edge", "_law_needed", "_law_purse"] (sp__law_up_count K Z) := by
  have nd := sc__law_up_count.nd
  refine F.ok sc__law_up_count (fun vs H Q E h => ?_) (fun cdv A outer s H vs Q E hr h => ⟨t__law_up_count K Z, PSs.nox (pss_cons (ps_set (i := 5) nd rfl (by first | exact Or.inl rfl | exact Or.inr rfl) (pv 3))
      (pss_cons (ps_set (i := 6) nd rfl (by first | exact Or.inl rfl | exact Or.inr rfl) pe_int)
      (C8.pss_cut (ps_if (PW.pt (pw_and (pt_cmpR Uv.u_le (pv 5) (pv 4) (nomark _)) (pw_and1 (pt_cmpR Uv.u_le (pv 5) (pv 2) (nomark _))))) (pss_cons (ps_set (i := 6) nd rfl (by first | exact Or.inl rfl | exact Or.inr rfl) (pe_op Uv.u_add (pe_op Uv.u_fdv (pe_op Uv.u_sub (pe_callB (call_min2 rfl) (by rfl) (B.at "min") (by decide +kernel) (pa_cons (pv 4) (pa_cons (pv 2) pa_nil))) (pv 5)) (pv 0)) pe_int))
      (pss_one (ps_set (i := 5) nd rfl (by first | exact Or.inl rfl | exact Or.inr rfl) (pe_op Uv.u_add (pv 5) (pe_op Uv.u_mul (pv 0) (pv 6)))))) pss_nil)
      (C8.pss_cut (ps_if (PW.pt (pw_and (pt_cmpR Uv.u_le (pv 5) (pv 4) (nomark _)) (pw_and1 (pt_cmpR Uv.u_lt (pv 5) (pe_op Uv.u_add (pv 2) (pv 1)) (nomark _))))) (pss_cons (ps_set (i := 5) nd rfl (by first | exact Or.inl rfl | exact Or.inr rfl) (pe_op Uv.u_add (pv 2) (pv 0)))
      (pss_one (ps_set (i := 6) nd rfl (by first | exact Or.inl rfl | exact Or.inr rfl) (pe_op Uv.u_add (pv 6) pe_int)))) pss_nil)
      (C8.pss_cut (ps_if (pt_cmpR Uv.u_le (pv 5) (pv 4) (nomark _)) (pss_one (ps_set (i := 6) nd rfl (by first | exact Or.inl rfl | exact Or.inr rfl) (pe_op Uv.u_add (pe_op Uv.u_add (pv 6) (pe_op Uv.u_fdv (pe_op Uv.u_sub (pv 4) (pv 5)) (pe_op Uv.u_sub (pv 0) (pv 1)))) pe_int))) pss_nil)
      (pss_one (ps_ret (pv 6)))))))), pure__law_up_count T vs H Q E h⟩)
  unfold sp__law_up_count at h
  (repeat (obtain ⟨_, h⟩ := h)); all_goals (subst_vars; rfl)
theorem pure__law_up_value (T : TK K Z) (vs : List V) (H : Hp) (Q : VK) (E : XK) (h : sp__law_up_value K Z vs H Q E) : t__law_up_value K Z { nx := fun _ H' => Q .non H', rt := Q } (L2.start ["_law_pace", "_law_flat", "_law_edge", "_law_needed", "_law_limit", "_law_value_here", "_law_left", "_law_turns"] vs) H := by
  obtain ⟨pace, flat, edge, v, limit, rfl, hP, hp2, hE, hV, hU, hQ⟩ := h
  walk_at "in"
  unfold t__law_up_value
  have p2 := hP.p
  have pf := hP.f
  obtain ⟨e0, e1⟩ := hE
  obtain ⟨v0, v1⟩ := hV
  obtain ⟨u0, u1⟩ := hU
  walk_at "go"
  refine r_cut (fun σ' H' => H' = H ∧ ∃ v' c' b1, σ' = [some (.int pace), some (.int flat), some (.int edge), some (.int v), some (.int limit), some (.int v'), some (.int c'), b1] ∧ ItS (fU pace flat edge) v limit v' c' ∧ (0 < c' → edge < v')) ?_ ?_
  · walk_at "go"
    walk_at "b"
    · rename_i h1
      walk_at "go"
      walk_at "b"
      · rename_i h2
        walk_at "go"
        obtain ⟨a, b⟩ := w_1 hP v0 h1 h2
        have dq := div_le_self (show 0 ≤ edge - v by omega) (show 0 < pace by omega)
        refine r_fdvI (by omega) (div_ok (by omega) (by omega)) ?_
        walk_at "go"
        refine r_mulI (mul_ok (by omega) (by split <;> omega)) ?_
        walk_at "go"
        exact ⟨rfl, _, _, _, rfl, a, b⟩
      · rename_i h2
        walk_at "go"
        exact ⟨rfl, _, _, _, rfl, ItS.refl u0, fun q => by omega⟩
    · rename_i h1
      walk_at "go"
      exact ⟨rfl, _, _, _, rfl, ItS.refl u0, fun q => by omega⟩
  rintro σ' H' ⟨rfl, v', c', b1, rfl, us, h1⟩
  refine r_cut (fun σ' H2 => H2 = H' ∧ ∃ v' c', σ' = [some (.int pace), some (.int flat), some (.int edge), some (.int v), some (.int limit), some (.int v'), some (.int c'), b1] ∧ ItS (fU pace flat edge) v limit v' c' ∧ (0 < c' → edge + flat ≤ v')) ?_ ?_
  · walk_at "go"
    walk_at "b"
    · rename_i h2
      walk_at "go"
      walk_at "b"
      · rename_i h3
        walk_at "go"
        exact ⟨rfl, _, _, rfl, w_2 hP us h2 (h1 h2) h3, fun _ => by omega⟩
      · walk_at "go"
        exact ⟨rfl, _, _, rfl, us, fun _ => by omega⟩
    · walk_at "go"
      exact ⟨rfl, _, _, rfl, us, fun _ => by omega⟩
  rintro σ' H' ⟨rfl, v', c', rfl, us, h1⟩
  have l0 := us.1
  have l1 := us.2.1
  walk_at "go"
  refine r_mulI (mul_ok (by omega) (by omega)) ?_
  walk_at "go"
  exact hQ _ (w_3 hP us h1 v0)
theorem ok__law_up_value (T : TK K Z) (B : Blt mg)  (F : FnP K "_law_up_value" "_law_up_value" s__law_up_value f fd) : FnOk P w K mg base CX0 1 f fd ["_law_pace", "_law_flat", "_law_edge", "_law_needed", "_law_limit"] (sp__law_up_value K Z) := by
  have nd := sc__law_up_value.nd
  refine F.ok sc__law_up_value (fun vs H Q E h => ?_) (fun cdv A outer s H vs Q E hr h => ⟨t__law_up_value K Z, PSs.nox (pss_cons (ps_set (i := 5) nd rfl (by first | exact Or.inl rfl | exact Or.inr rfl) (pv 3))
      (pss_cons (ps_set (i := 6) nd rfl (by first | exact Or.inl rfl | exact Or.inr rfl) (pv 4))
      (C8.pss_cut (ps_if (PW.pt (pw_and (pt_cmpR Uv.u_gt (pv 6) pe_int (nomark _)) (pw_and1 (pt_cmpR Uv.u_le (pv 5) (pv 2) (nomark _))))) (pss_cons (ps_set (i := 7) nd rfl (by first | exact Or.inl rfl | exact Or.inr rfl) (pe_callB (call_min2 rfl) (by rfl) (B.at "min") (by decide +kernel) (pa_cons (pv 6) (pa_cons (pe_op Uv.u_add (pe_op Uv.u_fdv (pe_op Uv.u_sub (pv 2) (pv 5)) (pv 0)) pe_int) pa_nil))))
      (pss_cons (ps_set (i := 5) nd rfl (by first | exact Or.inl rfl | exact Or.inr rfl) (pe_op Uv.u_add (pv 5) (pe_op Uv.u_mul (pv 0) (pv 7))))
      (pss_one (ps_set (i := 6) nd rfl (by first | exact Or.inl rfl | exact Or.inr rfl) (pe_op Uv.u_sub (pv 6) (pv 7)))))) pss_nil)
      (C8.pss_cut (ps_if (PW.pt (pw_and (pt_cmpR Uv.u_gt (pv 6) pe_int (nomark _)) (pw_and1 (pt_cmpR Uv.u_lt (pv 5) (pe_op Uv.u_add (pv 2) (pv 1)) (nomark _))))) (pss_cons (ps_set (i := 5) nd rfl (by first | exact Or.inl rfl | exact Or.inr rfl) (pe_op Uv.u_add (pv 2) (pv 0)))
      (pss_one (ps_set (i := 6) nd rfl (by first | exact Or.inl rfl | exact Or.inr rfl) (pe_op Uv.u_sub (pv 6) pe_int)))) pss_nil)
      (pss_one (ps_ret (pe_op Uv.u_add (pv 5) (pe_op Uv.u_mul (pe_op Uv.u_sub (pv 0) (pv 1)) (pv 6))))))))), pure__law_up_value T vs H Q E h⟩)
  unfold sp__law_up_value at h
  (repeat (obtain ⟨_, h⟩ := h)); all_goals (subst_vars; rfl)
theorem pure__law_down_count (T : TK K Z) (vs : List V) (H : Hp) (Q : VK) (E : XK) (h : sp__law_down_count K Z vs H Q E) : t__law_down_count K Z { nx := fun _ H' => Q .non H', rt := Q } (L2.start ["_law_base", "_law_pace", "_law_flat", "_law_edge", "_law_needed", "_law_purse", "_law_value_here", "_law_count"] vs) H := by
  obtain ⟨bs, pace, flat, edge, v, purse, rfl, hP, hp2, hE, hV, hU, hQ⟩ := h
  walk_at "in"
  unfold t__law_down_count
  have p2 := hP.p
  have pf := hP.f
  obtain ⟨e0, e1⟩ := hE
  obtain ⟨v0, v1⟩ := hV
  obtain ⟨u0, u1⟩ := hU
  walk_at "go"
  refine r_cut (fun σ' H' => H' = H ∧ σ' = [some (.int bs), some (.int pace), some (.int flat), some (.int edge), some (.int v), some (.int purse), some (.int v), some (.int 0)] ∧ (purse < v → bs ≤ purse)) ?_ ?_
  · walk_at "go"
    walk_at "b"
    · rename_i h1
      walk_at "go"
      walk_at "b"
      · rename_i h2
        walk_at "go"
        exact hQ none (ge_never hP.wf h1 h2)
      · walk_at "go"
        exact ⟨rfl, rfl, fun _ => by omega⟩
    · walk_at "go"
      exact ⟨rfl, rfl, fun _ => by omega⟩
  rintro σ' H' ⟨rfl, rfl, hb⟩
  refine r_cut (fun σ' H2 => H2 = H' ∧ ∃ v' c', σ' = [some (.int bs), some (.int pace), some (.int flat), some (.int edge), some (.int v), some (.int purse), some (.int v'), some (.int c')] ∧ DnS (fD bs pace flat edge) v purse v' c' ∧ (purse < v' → v' < edge + flat ∧ bs ≤ purse)) ?_ ?_
  · walk_at "go"
    walk_at "b"
    · rename_i h1
      walk_at "go"
      walk_at "b"
      · rename_i h2
        walk_at "go"
        obtain ⟨a, b, c⟩ := d_1 hP h1 h2 rfl
        have dq := div_ge_self (show purse - v < 0 by omega) (show 0 < pace + flat by omega)
        refine r_fdvI (by omega) (div_ok (by omega) (by omega)) ?_
        walk_at "go"
        refine r_fdvI (by omega) (div_ok (by omega) (by omega)) ?_
        walk_at "go"
        refine r_mulI (mul_ok (by omega) ⟨a, by split <;> omega⟩) ?_
        walk_at "go"
        exact ⟨rfl, _, _, rfl, b, fun q => ⟨c q, hb h1⟩⟩
      · rename_i h2
        walk_at "go"
        exact ⟨rfl, _, _, rfl, DnS.refl, fun q => ⟨by omega, hb q⟩⟩
    · rename_i h1
      walk_at "go"
      exact ⟨rfl, _, _, rfl, DnS.refl, fun q => by omega⟩
  rintro σ' H' ⟨rfl, v', c', rfl, us, h1⟩
  refine r_cut (fun σ' H2 => H2 = H' ∧ ∃ v' c', σ' = [some (.int bs), some (.int pace), some (.int flat), some (.int edge), some (.int v), some (.int purse), some (.int v'), some (.int c')] ∧ DnS (fD bs pace flat edge) v purse v' c' ∧ (purse < v' → v' ≤ edge ∧ bs ≤ purse)) ?_ ?_
  · walk_at "go"
    walk_at "b"
    · rename_i h2
      walk_at "go"
      walk_at "b"
      · rename_i h3
        walk_at "go"
        exact ⟨rfl, _, _, rfl, d_2 hP us h2 h3 (h1 h2).1, fun q => ⟨by omega, (h1 h2).2⟩⟩
      · walk_at "go"
        exact ⟨rfl, _, _, rfl, us, fun q => ⟨by omega, (h1 q).2⟩⟩
    · walk_at "go"
      exact ⟨rfl, _, _, rfl, us, fun _ => by omega⟩
  rintro σ' H' ⟨rfl, v', c', rfl, us, h1⟩
  refine r_cut (fun σ' H2 => H2 = H' ∧ ∃ c', σ' = [some (.int bs), some (.int pace), some (.int flat), some (.int edge), some (.int v), some (.int purse), some (.int v'), some (.int c')] ∧ DownI (fD bs pace flat edge) v purse c') ?_ ?_
  · walk_at "go"
    walk_at "b"
    · rename_i h2
      walk_at "go"
      refine r_fdvI (by omega) (div_ok (by omega) (by omega)) ?_
      walk_at "go"
      exact ⟨rfl, _, rfl, d_3 hP us h2 (h1 h2).1 (h1 h2).2⟩
    · rename_i h2
      walk_at "go"
      exact ⟨rfl, _, rfl, us.stop (by omega)⟩
  rintro σ' H' ⟨rfl, c', rfl, us⟩
  walk_at "go"
  exact hQ (some c') (downI_ok us)
theorem ok__law_down_count (T : TK K Z) (B : Blt mg)  (F : FnP K "_law_down_count" "_law_down_count" s__law_down_count f fd) : FnOk P w K mg base CX0 1 f fd ["_law_base", "_law_pace", "_law_flat", "_law_edge", "_law_needed", "_law_purse"] (sp__law_down_count K Z) := by
  have nd := sc__law_down_count.nd
  refine F.ok sc__law_down_count (fun vs H Q E h => ?_) (fun cdv A outer s H vs Q E hr h => ⟨t__law_down_count K Z, PSs.nox (pss_cons (ps_set (i := 6) nd rfl (by first | exact Or.inl rfl | exact Or.inr rfl) (pv 4))
      (pss_cons (ps_set (i := 7) nd rfl (by first | exact Or.inl rfl | exact Or.inr rfl) pe_int)
      (C8.pss_cut (ps_if (PW.pt (pw_and (pt_cmpR Uv.u_gt (pv 6) (pv 5) (nomark _)) (pw_and1 (pt_cmpR Uv.u_lt (pv 5) (pv 0) (nomark _))))) (pss_one (ps_ret pe_non)) pss_nil)
      (C8.pss_cut (ps_if (PW.pt (pw_and (pt_cmpR Uv.u_gt (pv 6) (pv 5) (nomark _)) (pw_and1 (pt_cmpR Uv.u_ge (pv 6) (pe_op Uv.u_add (pv 3) (pv 2)) (nomark _))))) (pss_cons (ps_set (i := 7) nd rfl (by first | exact Or.inl rfl | exact Or.inr rfl) (pe_callB (call_min2 rfl) (by rfl) (B.at "min") (by decide +kernel) (pa_cons (pe_op Uv.u_add (pe_op Uv.u_fdv (pe_op Uv.u_sub (pe_op Uv.u_sub (pv 6) (pv 3)) (pv 2)) (pe_op Uv.u_add (pv 1) (pv 2))) pe_int) (pa_cons (pe_op Uv.u_sub pe_int (pe_op Uv.u_fdv (pe_op Uv.u_sub (pv 5) (pv 6)) (pe_op Uv.u_add (pv 1) (pv 2)))) pa_nil))))
      (pss_one (ps_set (i := 6) nd rfl (by first | exact Or.inl rfl | exact Or.inr rfl) (pe_op Uv.u_sub (pv 6) (pe_op Uv.u_mul (pe_op Uv.u_add (pv 1) (pv 2)) (pv 7)))))) pss_nil)
      (C8.pss_cut (ps_if (PW.pt (pw_and (pt_cmpR Uv.u_gt (pv 6) (pv 5) (nomark _)) (pw_and1 (pt_cmpR Uv.u_gt (pv 6) (pv 3) (nomark _))))) (pss_cons (ps_set (i := 6) nd rfl (by first | exact Or.inl rfl | exact Or.inr rfl) (pe_op Uv.u_sub (pv 3) (pv 1)))
      (pss_one (ps_set (i := 7) nd rfl (by first | exact Or.inl rfl | exact Or.inr rfl) (pe_op Uv.u_add (pv 7) pe_int)))) pss_nil)
      (C8.pss_cut (ps_if (pt_cmpR Uv.u_gt (pv 6) (pv 5) (nomark _)) (pss_one (ps_set (i := 7) nd rfl (by first | exact Or.inl rfl | exact Or.inr rfl) (pe_op Uv.u_sub (pv 7) (pe_op Uv.u_fdv (pe_op Uv.u_sub (pv 5) (pv 6)) (pv 1))))) pss_nil)
      (pss_one (ps_ret (pv 7))))))))), pure__law_down_count T vs H Q E h⟩)
  unfold sp__law_down_count at h
  (repeat (obtain ⟨_, h⟩ := h)); all_goals (subst_vars; rfl)
theorem pure__law_down_value (T : TK K Z) (vs : List V) (H : Hp) (Q : VK) (E : XK) (h : sp__law_down_value K Z vs H Q E) : t__law_down_value K Z { nx := fun _ H' => Q .non H', rt := Q } (L2.start ["_law_base", "_law_pace", "_law_flat", "_law_edge", "_law_needed", "_law_limit", "_law_value_here", "_law_left", "_law_turns"] vs) H := by
  obtain ⟨bs, pace, flat, edge, v, limit, rfl, hP, hp2, hE, hV, hU, hQ⟩ := h
  walk_at "in"
  unfold t__law_down_value
  have p2 := hP.p
  have pf := hP.f
  obtain ⟨e0, e1⟩ := hE
  obtain ⟨v0, v1⟩ := hV
  obtain ⟨u0, u1⟩ := hU
  walk_at "go"
  refine r_cut (fun σ' H' => H' = H ∧ ∃ v' c' b1, σ' = [some (.int bs), some (.int pace), some (.int flat), some (.int edge), some (.int v), some (.int limit), some (.int v'), some (.int c'), b1] ∧ LsS (fD bs pace flat edge) v limit v' c' ∧ (0 < c' → v' < edge + flat)) ?_ ?_
  · walk_at "go"
    walk_at "b"
    · rename_i h1
      walk_at "go"
      walk_at "b"
      · rename_i h2
        walk_at "go"
        obtain ⟨a, a2, b, c⟩ := e_1 hP h1 h2 rfl
        refine r_fdvI (by omega) (div_ok (by omega) (by omega)) ?_
        walk_at "go"
        refine r_mulI (mul_ok (by omega) ⟨a, by omega⟩) ?_
        walk_at "go"
        exact ⟨rfl, _, _, _, rfl, b, c⟩
      · rename_i h2
        walk_at "go"
        exact ⟨rfl, _, _, _, rfl, LsS.refl u0, fun q => by omega⟩
    · rename_i h1
      walk_at "go"
      exact ⟨rfl, _, _, _, rfl, LsS.refl u0, fun q => by omega⟩
  rintro σ' H' ⟨rfl, v', c', b1, rfl, us, h1⟩
  refine r_cut (fun σ' H2 => H2 = H' ∧ ∃ v' c', σ' = [some (.int bs), some (.int pace), some (.int flat), some (.int edge), some (.int v), some (.int limit), some (.int v'), some (.int c'), b1] ∧ LsS (fD bs pace flat edge) v limit v' c' ∧ (0 < c' → v' ≤ edge)) ?_ ?_
  · walk_at "go"
    walk_at "b"
    · rename_i h2
      walk_at "go"
      walk_at "b"
      · rename_i h3
        walk_at "go"
        exact ⟨rfl, _, _, rfl, e_2 hP us h2 h3 (h1 h2), fun _ => by omega⟩
      · walk_at "go"
        exact ⟨rfl, _, _, rfl, us, fun _ => by omega⟩
    · walk_at "go"
      exact ⟨rfl, _, _, rfl, us, fun _ => by omega⟩
  rintro σ' H' ⟨rfl, v', c', rfl, us, h1⟩
  have l0 := us.1
  have l1 := us.2.1
  walk_at "go"
  refine r_mulI (mul_ok (by omega) (by omega)) ?_
  walk_at "go"
  exact hQ _ (e_3 hP us h1)
theorem ok__law_down_value (T : TK K Z) (B : Blt mg)  (F : FnP K "_law_down_value" "_law_down_value" s__law_down_value f fd) : FnOk P w K mg base CX0 1 f fd ["_law_base", "_law_pace", "_law_flat", "_law_edge", "_law_needed", "_law_limit"] (sp__law_down_value K Z) := by
  have nd := sc__law_down_value.nd
  refine F.ok sc__law_down_value (fun vs H Q E h => ?_) (fun cdv A outer s H vs Q E hr h => ⟨t__law_down_value K Z, PSs.nox (pss_cons (ps_set (i := 6) nd rfl (by first | exact Or.inl rfl | exact Or.inr rfl) (pv 4))
      (pss_cons (ps_set (i := 7) nd rfl (by first | exact Or.inl rfl | exact Or.inr rfl) (pv 5))
      (C8.pss_cut (ps_if (PW.pt (pw_and (pt_cmpR Uv.u_gt (pv 7) pe_int (nomark _)) (pw_and1 (pt_cmpR Uv.u_ge (pv 6) (pe_op Uv.u_add (pv 3) (pv 2)) (nomark _))))) (pss_cons (ps_set (i := 8) nd rfl (by first | exact Or.inl rfl | exact Or.inr rfl) (pe_callB (call_min2 rfl) (by rfl) (B.at "min") (by decide +kernel) (pa_cons (pv 7) (pa_cons (pe_op Uv.u_add (pe_op Uv.u_fdv (pe_op Uv.u_sub (pe_op Uv.u_sub (pv 6) (pv 3)) (pv 2)) (pe_op Uv.u_add (pv 1) (pv 2))) pe_int) pa_nil))))
      (pss_cons (ps_set (i := 6) nd rfl (by first | exact Or.inl rfl | exact Or.inr rfl) (pe_op Uv.u_sub (pv 6) (pe_op Uv.u_mul (pe_op Uv.u_add (pv 1) (pv 2)) (pv 8))))
      (pss_one (ps_set (i := 7) nd rfl (by first | exact Or.inl rfl | exact Or.inr rfl) (pe_op Uv.u_sub (pv 7) (pv 8)))))) pss_nil)
      (C8.pss_cut (ps_if (PW.pt (pw_and (pt_cmpR Uv.u_gt (pv 7) pe_int (nomark _)) (pw_and1 (pt_cmpR Uv.u_gt (pv 6) (pv 3) (nomark _))))) (pss_cons (ps_set (i := 6) nd rfl (by first | exact Or.inl rfl | exact Or.inr rfl) (pe_op Uv.u_sub (pv 3) (pv 1)))
      (pss_one (ps_set (i := 7) nd rfl (by first | exact Or.inl rfl | exact Or.inr rfl) (pe_op Uv.u_sub (pv 7) pe_int)))) pss_nil)
      (pss_one (ps_ret (pe_callB (call_min2 rfl) (by rfl) (B.at "min") (by decide +kernel) (pa_cons (pv 6) (pa_cons (pe_callB (call_max2 rfl) (by rfl) (B.at "max") (by decide +kernel) (pa_cons (pv 0) (pa_cons (pe_op Uv.u_sub (pv 6) (pe_op Uv.u_mul (pv 1) (pv 7))) pa_nil))) pa_nil))))))))), pure__law_down_value T vs H Q E h⟩)
  unfold sp__law_down_value at h
  (repeat (obtain ⟨_, h⟩ := h)); all_goals (subst_vars; rfl)
end
end K19

--T law_k19_need_round_counts
namespace K19
open PySem PySem.Spec PyProof.Rows L2 Uv N19
abbrev s__law_constant : Stmt := (top 38)
theorem sc__law_constant : FnScope ["_law_step", "_law_edge", "_law_needed", "_law_purse", "_law_limit", "_law_up", "_law_down", "_law_grown", "_law_affords"] ["_law_step", "_law_edge", "_law_needed", "_law_purse", "_law_limit"] (defScope s__law_constant) := ⟨rfl, rfl, rfl, by decide +kernel, rfl, by decide +kernel, by decide +kernel⟩
def t__law_constant (K : PySem.W.Frag) (Z : Ad) : TS :=
    (tSeq (tAsg (tMake Z.Need (sp_Need_init K Z) [] E0 (tCons (tVar 0) (tCons (tTup (tCons (tTup (tCons (tC (.int 0)) (tCons (tC .non) tNil))) tNil)) (tCons (tC .non) tNil)))) (gName 5))
    (tSeq (tAsg (tMake Z.Need (sp_Need_init K Z) [] E0 (tCons (tVar 1) (tCons (tTup (tCons (tTup (tCons (tOp (Uv.rAddU K) (tVar 1) (tVar 0)) (tCons (tC .non) tNil))) tNil)) (tCons (tC .non) tNil)))) (gName 6))
    (tSeq (tAsg (tC .non) (gName 7))
    (C8.tCut (tIfS (tTest (tOp Uv.rGtU (tVar 2) (tVar 3))) (tAsg (tC (.int 0)) (gName 7)) (tAsg (tOp (Uv.rAddU K) (tOp Uv.rFdvU (tOp Uv.rSubU (tVar 3) (tVar 2)) (tVar 0)) (tC (.int 1))) (gName 7)))
    (C8.tCut (tIfS (tNot (Uv.tTr K (tCall (sp__law_same K Z) [] E0 (tCons (tMeth Z.Need "rounds_to_exceed" (sp_Need_rounds_to_exceed K Z) [] E0 (tVar 5) (tCons (tVar 2) (tCons (tVar 3) tNil))) (tCons (tVar 7) tNil))))) (tRet (tC (.bl false))) tNext)
    (tSeq (tAsg (tC .non) (gName 8))
    (C8.tCut (tIfS (tTest (tOp Uv.rGtU (tVar 2) (tVar 3))) (tSeq (tAsg (tOp Uv.rSubU (tC (.int 0)) (tOp Uv.rFdvU (tOp Uv.rSubU (tVar 3) (tVar 2)) (tVar 0))) (gName 8))
    (tIfS (tTest (tOp Uv.rLtU (tVar 3) (tVar 1))) (tAsg (tC .non) (gName 8)) tNext)) (tAsg (tC (.int 0)) (gName 8)))
    (C8.tCut (tIfS (tNot (Uv.tTr K (tCall (sp__law_same K Z) [] E0 (tCons (tMeth Z.Need "rounds_to_afford" (sp_Need_rounds_to_afford K Z) [] E0 (tVar 6) (tCons (tVar 2) (tCons (tVar 3) tNil))) (tCons (tVar 8) tNil))))) (tRet (tC (.bl false))) tNext)
    (C8.tCut (tIfS (tNot (Uv.tTr K (tCall (sp__law_same K Z) [] E0 (tCons (tMeth Z.Need "rounds_to_afford" (sp_Need_rounds_to_afford K Z) [] E0 (tVar 5) (tCons (tVar 2) (tCons (tVar 3) tNil))) (tCons (tOp (Uv.rIxU K) (tLst (tCons (tC (.int 0)) (tCons (tC .non) tNil))) (tCB Uv.rInt (tCons (tOp Uv.rGtU (tVar 2) (tVar 3)) tNil))) tNil))))) (tRet (tC (.bl false))) tNext)
    (C8.tCut (tIfS (tOr (tTest (tOp (Uv.rNeU K) (tMeth Z.Need "highest" (sp_Need_highest K Z) [] E0 (tVar 5) (tCons (tVar 2) (tCons (tVar 4) tNil))) (tOp (Uv.rAddU K) (tVar 2) (tOp Uv.rMulU (tVar 4) (tVar 0))))) (tTest (tOp (Uv.rNeU K) (tMeth Z.Need "lowest" (sp_Need_lowest K Z) [] E0 (tVar 5) (tCons (tVar 2) (tCons (tVar 4) tNil))) (tVar 2)))) (tRet (tC (.bl false))) tNext)
    (tRet (tOp (Uv.rEqU K) (tMeth Z.Need "lowest" (sp_Need_lowest K Z) [] E0 (tVar 6) (tCons (tVar 2) (tCons (tVar 4) tNil))) (tCB Uv.rMin2 (tCons (tVar 2) (tCons (tCB Uv.rMax2 (tCons (tVar 1) (tCons (tOp Uv.rSubU (tVar 2) (tOp Uv.rMulU (tVar 4) (tVar 0))) tNil))) tNil)))))))))))))))
def sp__law_constant (K : PySem.W.Frag) (Z : Ad) : Sp := fun vs H Q _ => ∃ (step edge v purse limit : Int), vs = [.int step, .int edge, .int v, .int purse, .int limit] ∧ (1 ≤ step ∧ step ≤ 1000) ∧ Bd edge ∧ Bd v ∧ Bd purse ∧ Bd limit ∧ ∀ H', Same H H' → Q (.bl true) H'
abbrev s__law_paces : Stmt := (top 43)
theorem sc__law_paces : FnScope ["_law_draws_here", "_law_bend", "_law_needed", "_law_purse", "_law_limit", "_law_pace", "_law_flat", "_law_base", "_law_up", "_law_edge", "_law_down"] ["_law_draws_here", "_law_bend", "_law_needed", "_law_purse", "_law_limit"] (defScope s__law_paces) := ⟨rfl, rfl, rfl, by decide +kernel, rfl, by decide +kernel, by decide +kernel⟩
def t__law_paces (K : PySem.W.Frag) (Z : Ad) : TS :=
    (tSeq (tAsg (tOp (Uv.rAddU K) (tC (.int 2)) (tOp Uv.rModU (tCB Uv.rInt (tCons (tOp (Uv.rIxU K) (tVar 0) (tC (.int 37))) tNil)) (tC (.int 1000)))) (gName 5))
    (tSeq (tAsg (tOp (Uv.rAddU K) (tC (.int 1)) (tOp Uv.rModU (tCB Uv.rInt (tCons (tOp (Uv.rIxU K) (tVar 0) (tC (.int 38))) tNil)) (tOp Uv.rSubU (tVar 5) (tC (.int 1))))) (gName 6))
    (tSeq (tAsg (tOp Uv.rModU (tCB Uv.rInt (tCons (tOp (Uv.rIxU K) (tVar 0) (tC (.int 39))) tNil)) (tC (.int 1000))) (gName 7))
    (tSeq (tAsg (tMake Z.Need (sp_Need_init K Z) [] E0 (tCons (tVar 5) (tCons (tTup (tCons (tTup (tCons (tC (.int 0)) (tCons (tVar 1) tNil))) (tCons (tTup (tCons (tOp (Uv.rAddU K) (tVar 1) (tVar 6)) (tCons (tC .non) tNil))) tNil))) (tCons (tC .non) tNil)))) (gName 8))
    (C8.tCut (tIfS (tNot (Uv.tTr K (tCall (sp__law_same K Z) [] E0 (tCons (tMeth Z.Need "rounds_to_exceed" (sp_Need_rounds_to_exceed K Z) [] E0 (tVar 8) (tCons (tVar 2) (tCons (tVar 3) tNil))) (tCons (tCall (sp__law_up_count K Z) [] E0 (tCons (tVar 5) (tCons (tVar 6) (tCons (tVar 1) (tCons (tVar 2) (tCons (tVar 3) tNil)))))) tNil))))) (tRet (tC (.bl false))) tNext)
    (C8.tCut (tIfS (tNot (Uv.tTr K (tCall (sp__law_same K Z) [] E0 (tCons (tMeth Z.Need "highest" (sp_Need_highest K Z) [] E0 (tVar 8) (tCons (tVar 2) (tCons (tVar 4) tNil))) (tCons (tCall (sp__law_up_value K Z) [] E0 (tCons (tVar 5) (tCons (tVar 6) (tCons (tVar 1) (tCons (tVar 2) (tCons (tVar 4) tNil)))))) tNil))))) (tRet (tC (.bl false))) tNext)
    (tSeq (tAsg (tOp (Uv.rAddU K) (tOp (Uv.rAddU K) (tVar 1) (tVar 7)) (tVar 5)) (gName 9))
    (tSeq (tAsg (tMake Z.Need (sp_Need_init K Z) [] E0 (tCons (tVar 7) (tCons (tTup (tCons (tTup (tCons (tOp (Uv.rAddU K) (tVar 7) (tVar 5)) (tCons (tVar 9) tNil))) (tCons (tTup (tCons (tOp (Uv.rAddU K) (tVar 9) (tVar 6)) (tCons (tC .non) tNil))) tNil))) (tCons (tC .non) tNil)))) (gName 10))
    (C8.tCut (tIfS (tNot (Uv.tTr K (tCall (sp__law_same K Z) [] E0 (tCons (tMeth Z.Need "rounds_to_afford" (sp_Need_rounds_to_afford K Z) [] E0 (tVar 10) (tCons (tVar 2) (tCons (tVar 3) tNil))) (tCons (tCall (sp__law_down_count K Z) [] E0 (tCons (tVar 7) (tCons (tVar 5) (tCons (tVar 6) (tCons (tVar 9) (tCons (tVar 2) (tCons (tVar 3) tNil))))))) tNil))))) (tRet (tC (.bl false))) tNext)
    (tRet (tCall (sp__law_same K Z) [] E0 (tCons (tMeth Z.Need "lowest" (sp_Need_lowest K Z) [] E0 (tVar 10) (tCons (tVar 2) (tCons (tVar 4) tNil))) (tCons (tCall (sp__law_down_value K Z) [] E0 (tCons (tVar 7) (tCons (tVar 5) (tCons (tVar 6) (tCons (tVar 9) (tCons (tVar 2) (tCons (tVar 4) tNil))))))) tNil)))))))))))))
def sp__law_paces (K : PySem.W.Frag) (Z : Ad) : Sp := fun vs H Q _ => ∃ (a : Addr) (ns : List Int) (bend v purse limit : Int), vs = [.ref a, .int bend, .int v, .int purse, .int limit] ∧ SqL K H a (iV ns) ∧ ns.length = 40 ∧ (∀ x ∈ ns, 0 ≤ x ∧ x < 1000000) ∧ (1 ≤ bend ∧ bend < 2 ^ 200) ∧ Bd v ∧ Bd purse ∧ Bd limit ∧ ∀ H', Same H H' → Q (.bl true) H'
section
variable {P : Program} {w : World} {K : PySem.W.Frag} {mg : Str → Option Value} {base : Heap} {Z : Ad} {f : Addr} {fd : FuncData}
theorem cu_wf : Wf (-1) [(0, none)] := ⟨by omega, rfl⟩
theorem cd_wf {e s : Int} (he : 0 ≤ e) (hs : 0 < s) : Wf (-1) [(e + s, none)] := ⟨by omega, rfl⟩
theorem eq_iO {H : Hp} {Q : VK} {a b : Int} (q : Q (.bl (decide (a = b))) H) : rEqU K (vO (some a)) (.int b) H Q := by rw [vO_some]; exact stp q
theorem nd_never {s : Int} {rs : List Ri} (hs : Bd s) (w : Wf (-1) rs) : (⟨some s, rs, none⟩ : Nd).start = none ∧ (⟨some s, rs, none⟩ : Nd).rises = [] ∧ (⟨some s, rs, none⟩ : Nd).never = none ∨ ∃ x, (⟨some s, rs, none⟩ : Nd).start = some x ∧ 0 ≤ x ∧ Wf (-1) (⟨some s, rs, none⟩ : Nd).rises ∧ ∀ n, (⟨some s, rs, none⟩ : Nd).never = some n → ∃ t, topOf x (⟨some s, rs, none⟩ : Nd).rises = some t ∧ t ≤ n := .inr ⟨s, rfl, hs.1, w, fun n h => nomatch h⟩
/-- a need of drawn fields is made -/
theorem mk_need {H : Hp} {s : Int} {rs : List Ri} {t : Addr} {xs : List V} {R : Hp → Prop} {x dx : Addr} {E : XK} (hx : H x = none) (hdx : H dx = none) (hne : dx ≠ x) (hs : Bd s) (hw : Wf (-1) rs) (hl : rs.length ≤ 1000) (hS : SqT K H t xs) (hP : Pairs K H xs rs)
    (k : ∀ H', Same H H' → NeedAt K Z H' x ⟨some s, rs, none⟩ → R H') :
    sp_Need_init K Z [.ref x, .int s, .ref t, .non] (upd (upd H dx (.own x)) x (.ins Z.Need dx [])) (fun v H' => v = .non ∧ R H') E := by
  have s1 : Same H (upd (upd H dx (.own x)) x (.ins Z.Need dx [])) := by
    refine (Same.new hdx).trans (Same.new ?_)
    rw [upd_ne (Ne.symm hne)]
    exact hx
  refine ⟨x, dx, ⟨some s, rs, none⟩, t, xs, rfl, upd_same, s1.tup hS, hP.mono fun _ _ q => s1.tup q, hl, nd_never hs hw, fun H' h1 h2 => ⟨rfl, k H' ?_ h1⟩⟩
  intro b o hb
  exact h2 b o (ne_of_none hb hx) (s1 b o hb)
theorem pairs1 {H : Hp} {lo : Int} {hi : Option Int} {T0 T1 : Addr} (h0 : H T0 = none) (h1 : upd H T0 (.tup [.int lo, vO hi]) T1 = none) : Same H (upd (upd H T0 (.tup [.int lo, vO hi])) T1 (.tup [.ref T0])) ∧ SqT K (upd (upd H T0 (.tup [.int lo, vO hi])) T1 (.tup [.ref T0])) T1 [.ref T0] ∧ Pairs K (upd (upd H T0 (.tup [.int lo, vO hi])) T1 (.tup [.ref T0])) [.ref T0] [(lo, hi)] :=
  ⟨(Same.new h0).trans (Same.new h1), .of upd_same, .cons ⟨T0, rfl, (Same.new h1).tup (.of upd_same)⟩ .nil⟩
theorem pairs2 {H : Hp} {lo lo2 : Int} {hi hi2 : Option Int} {T0 T1 T2 : Addr} (h0 : H T0 = none) (h1 : upd H T0 (.tup [.int lo, vO hi]) T1 = none) (h2 : upd (upd H T0 (.tup [.int lo, vO hi])) T1 (.tup [.int lo2, vO hi2]) T2 = none) :
    Same H (upd (upd (upd H T0 (.tup [.int lo, vO hi])) T1 (.tup [.int lo2, vO hi2])) T2 (.tup [.ref T0, .ref T1])) ∧ SqT K (upd (upd (upd H T0 (.tup [.int lo, vO hi])) T1 (.tup [.int lo2, vO hi2])) T2 (.tup [.ref T0, .ref T1])) T2 [.ref T0, .ref T1] ∧ Pairs K (upd (upd (upd H T0 (.tup [.int lo, vO hi])) T1 (.tup [.int lo2, vO hi2])) T2 (.tup [.ref T0, .ref T1])) [.ref T0, .ref T1] [(lo, hi), (lo2, hi2)] :=
  ⟨((Same.new h0).trans (Same.new h1)).trans (Same.new h2), .of upd_same, .cons ⟨T0, rfl, ((Same.new h1).trans (Same.new h2)).tup (.of upd_same)⟩ (.cons ⟨T1, rfl, (Same.new h2).tup (.of upd_same)⟩ .nil)⟩
theorem pure__law_constant (T : TK K Z) (vs : List V) (H : Hp) (Q : VK) (E : XK) (h : sp__law_constant K Z vs H Q E) : t__law_constant K Z { nx := fun _ H' => Q .non H', rt := Q } (L2.start ["_law_step", "_law_edge", "_law_needed", "_law_purse", "_law_limit", "_law_up", "_law_down", "_law_grown", "_law_affords"] vs) H := by
  obtain ⟨step, edge, v, purse, limit, rfl, ⟨st1, st2⟩, hE, hV, hU, hL, hQ⟩ := h
  obtain ⟨cN, nS, nR, nN⟩ := T
  walk_at "in"
  unfold t__law_constant
  obtain ⟨e0, e1⟩ := id hE
  obtain ⟨v0, v1⟩ := id hV
  obtain ⟨u0, u1⟩ := id hU
  obtain ⟨l0, l1⟩ := id hL
  have bS : Bd step := ⟨by omega, by omega⟩
  walk_at "go"
  refine ⟨two_le, fun T0 h0 => ?_⟩
  walk_at "go"
  refine ⟨show (1 : Nat) ≤ sizeLine by decide, fun T1 h1 => ?_⟩
  walk_at "go"
  rintro x dx hx hdx hne
  obtain ⟨s1, a1, a2⟩ := pairs1 (K := K) (hi := none) h0 h1
  refine mk_need hx hdx hne bS cu_wf (by decide) a1 a2 fun H1 s2 hX => ?_
  have s3 := s1.trans s2
  walk_at "go"
  refine ⟨two_le, fun T2 h2 => ?_⟩
  walk_at "go"
  refine ⟨show (1 : Nat) ≤ sizeLine by decide, fun T3 h3 => ?_⟩
  walk_at "go"
  rintro y dy hy hdy hne2
  obtain ⟨s4, b1, b2⟩ := pairs1 (K := K) (hi := none) h2 h3
  refine mk_need hy hdy hne2 hE (cd_wf (s := step) e0 (by omega)) (show (1 : Nat) ≤ 1000 by decide) b1 b2 fun H2 s5 hY => ?_
  have s6 := s4.trans s5
  have hX2 := hX.mono s6
  have s7 := s3.trans s6
  obtain ⟨dx, ax, xs, ho, hS, hP⟩ := id hX2
  obtain ⟨dy, ay, ys, ho2, hS2, hP2⟩ := id hY
  have nU := cu_ok bS
  have nD := cd_ok hE (show 0 < step by omega)
  have bV : BdO (some v) := fun _ e => by cases e; exact hV
  walk_at "go"
  refine r_cut (fun σ' H' => H' = H2 ∧ ∃ g, σ' = [some (.int step), some (.int edge), some (.int v), some (.int purse), some (.int limit), some (.ref x), some (.ref y), some (.int g), none] ∧ UpI (valAt step [(0, none)]) v purse g) ?_ ?_
  · walk_at "go"
    walk_at "b"
    · rename_i c
      walk_at "go"
      exact ⟨rfl, _, rfl, upI_zero c⟩
    · rename_i c
      walk_at "go"
      refine r_fdvI (by omega) (div_ok (by omega) (by omega)) ?_
      walk_at "go"
      exact ⟨rfl, _, rfl, cu_grow (by omega) v0 (by omega)⟩
  rintro σ' H' ⟨rfl, g, rfl, hg⟩
  refine r_nocut ?_
  walk_at "go"
  refine r_methOf ho rfl ?_
  walk_at "go"
  refine ⟨x, _, some v, purse, rfl, hX2, nU, bV, hU, fun r hr => ?_⟩
  walk_at "go"
  refine ⟨r, some g, rfl, ?_⟩
  rw [decide_eq_true (up_one hr (upI_ok hg))]
  walk_at "go"
  refine r_cut (fun σ' H2 => H2 = H' ∧ ∃ a, σ' = [some (.int step), some (.int edge), some (.int v), some (.int purse), some (.int limit), some (.ref x), some (.ref y), some (.int g), some (vO a)] ∧ DownOk ⟨some edge, [(edge + step, none)], none⟩ (some v) purse a) ?_ ?_
  · walk_at "go"
    walk_at "b"
    · rename_i c
      walk_at "go"
      refine r_fdvI (by omega) (div_ok (by omega) (by omega)) ?_
      walk_at "go"
      walk_at "b"
      · rename_i d
        walk_at "go"
        exact ⟨rfl, none, rfl, ge_never (cd_wf e0 (by omega)) c d⟩
      · rename_i d
        walk_at "go"
        exact ⟨rfl, some _, rfl, downI_ok (cd_down (by omega) c (by omega))⟩
    · rename_i c
      walk_at "go"
      exact ⟨rfl, some _, rfl, downI_ok (downI_zero (by omega))⟩
  rintro σ' H2 ⟨rfl, a, rfl, ha⟩
  refine r_nocut ?_
  walk_at "go"
  refine r_methOf ho2 rfl ?_
  walk_at "go"
  refine ⟨y, _, some v, purse, rfl, hY, nD, bV, hU, fun r hr => ?_⟩
  walk_at "go"
  refine ⟨r, a, rfl, ?_⟩
  rw [decide_eq_true (down_one hr ha)]
  walk_at "go"
  refine r_nocut ?_
  walk_at "go"
  refine r_methOf ho rfl ?_
  walk_at "go"
  refine ⟨x, _, some v, purse, rfl, hX2, nU, bV, hU, fun r hr => ?_⟩
  walk_at "go"
  refine ⟨two_le, fun p hp => ?_⟩
  walk_at "go"
  have s8 : Same H2 (upd H2 p (.lst [.int 0, .non])) := Same.new hp
  have hX3 := hX2.mono s8
  have hY3 := hY.mono s8
  have hQ' := hQ _ (s7.trans s8)
  obtain ⟨dx, ax, xs, ho3, hS3, hP3⟩ := id hX3
  obtain ⟨dy, ay, ys, ho4, hS4, hP4⟩ := id hY3
  have key : ∃ d, atI [V.int 0, V.non] (if decide (purse < v) = true then 1 else 0) = some (vO d) ∧ r = d := by
    by_cases c : purse < v
    · rw [decide_eq_true c]
      exact ⟨none, rfl, down_one hr (cu_never (by omega) v0 c)⟩
    · rw [decide_eq_false c]
      exact ⟨some 0, rfl, down_one hr (downI_ok (downI_zero (by omega)))⟩
  obtain ⟨d, k1, rfl⟩ := key
  refine r_ixL (.of upd_same) k1 ?_
  walk_at "go"
  refine ⟨r, r, rfl, ?_⟩
  rw [decide_eq_true rfl]
  walk_at "go"
  refine r_nocut ?_
  walk_at "go"
  refine r_methOf ho3 rfl ?_
  walk_at "go"
  refine ⟨x, _, some v, limit, rfl, hX3, nU, bV, hL, fun r hr => ?_⟩
  rw [most_one hr (cu_high (by omega) v0 l0), vO_some]
  walk_at "go"
  refine r_mulI (mul_ok (by omega) (by omega)) ?_
  walk_at "go"
  rw [decide_eq_true rfl]
  walk_at "go"
  refine r_methOf ho3 rfl ?_
  walk_at "go"
  refine ⟨x, _, some v, limit, rfl, hX3, nU, bV, hL, fun r hr => ?_⟩
  rw [least_one hr (cu_low (by omega) v0), vO_some]
  walk_at "go"
  rw [decide_eq_true rfl]
  walk_at "go"
  refine r_methOf ho4 rfl ?_
  walk_at "go"
  refine ⟨y, _, some v, limit, rfl, hY3, nD, bV, hL, fun r hr => ?_⟩
  rw [least_one hr (least_some (cd_low (by omega) l0)), vO_some]
  walk_at "go"
  refine r_mulI (mul_ok (by omega) (by omega)) ?_
  walk_at "go"
  rw [decide_eq_true rfl]
  exact hQ'
theorem ok__law_constant (T : TK K Z) (B : Blt mg) (m_Need : C8.Mak P w K mg base 2 "Need" Z.Need (sp_Need_init K Z) []) (c__law_same : C8.Cal P w K mg base 1 "_law_same" (sp__law_same K Z) []) (t_Need_lowest : C8.Met P w K mg base 3 Z.Need "lowest" (sp_Need_lowest K Z) []) (t_Need_rounds_to_exceed : C8.Met P w K mg base 3 Z.Need "rounds_to_exceed" (sp_Need_rounds_to_exceed K Z) []) (t_Need_rounds_to_afford : C8.Met P w K mg base 3 Z.Need "rounds_to_afford" (sp_Need_rounds_to_afford K Z) []) (t_Need_highest : C8.Met P w K mg base 3 Z.Need "highest" (sp_Need_highest K Z) []) (F : FnP K "_law_constant" "_law_constant" s__law_constant f fd) : FnOk P w K mg base CX0 4 f fd ["_law_step", "_law_edge", "_law_needed", "_law_purse", "_law_limit"] (sp__law_constant K Z) := by
  have nd := sc__law_constant.nd
  refine F.ok sc__law_constant (fun vs H Q E h => ?_) (fun cdv A outer s H vs Q E hr h => ⟨t__law_constant K Z, PSs.nox (pss_cons (ps_set (i := 5) nd rfl (by first | exact Or.inl rfl | exact Or.inr rfl) (C8.pe_mk m_Need hr (by decide) rfl (pa_cons (pv 0) (pa_cons (pe_tup (pa_cons (pe_tup (pa_cons pe_int (pa_cons pe_non pa_nil))) pa_nil)) (pa_cons pe_non pa_nil)))))
      (pss_cons (ps_set (i := 6) nd rfl (by first | exact Or.inl rfl | exact Or.inr rfl) (C8.pe_mk m_Need hr (by decide) rfl (pa_cons (pv 1) (pa_cons (pe_tup (pa_cons (pe_tup (pa_cons (pe_op Uv.u_add (pv 1) (pv 0)) (pa_cons pe_non pa_nil))) pa_nil)) (pa_cons pe_non pa_nil)))))
      (pss_cons (ps_set (i := 7) nd rfl (by first | exact Or.inl rfl | exact Or.inr rfl) pe_non)
      (C8.pss_cut (ps_if (pt_cmpR Uv.u_gt (pv 2) (pv 3) (nomark _)) (pss_one (ps_set (i := 7) nd rfl (by first | exact Or.inl rfl | exact Or.inr rfl) pe_int)) (pss_one (ps_set (i := 7) nd rfl (by first | exact Or.inl rfl | exact Or.inr rfl) (pe_op Uv.u_add (pe_op Uv.u_fdv (pe_op Uv.u_sub (pv 3) (pv 2)) (pv 0)) pe_int))))
      (C8.pss_cut (ps_if (pt_not (Uv.pt_tr (C8.pe_c c__law_same hr (by decide) rfl (pa_cons (C8.pe_mt t_Need_rounds_to_exceed hr (by decide) (pv 5) (pa_cons (pv 2) (pa_cons (pv 3) pa_nil))) (pa_cons (pv 7) pa_nil))) (by intro _; rfl))) (pss_one (ps_ret pe_bl)) pss_nil)
      (pss_cons (ps_set (i := 8) nd rfl (by first | exact Or.inl rfl | exact Or.inr rfl) pe_non)
      (C8.pss_cut (ps_if (pt_cmpR Uv.u_gt (pv 2) (pv 3) (nomark _)) (pss_cons (ps_set (i := 8) nd rfl (by first | exact Or.inl rfl | exact Or.inr rfl) (pe_op Uv.u_sub pe_int (pe_op Uv.u_fdv (pe_op Uv.u_sub (pv 3) (pv 2)) (pv 0))))
      (pss_one (ps_if (pt_cmpR Uv.u_lt (pv 3) (pv 1) (nomark _)) (pss_one (ps_set (i := 8) nd rfl (by first | exact Or.inl rfl | exact Or.inr rfl) pe_non)) pss_nil))) (pss_one (ps_set (i := 8) nd rfl (by first | exact Or.inl rfl | exact Or.inr rfl) pe_int)))
      (C8.pss_cut (ps_if (pt_not (Uv.pt_tr (C8.pe_c c__law_same hr (by decide) rfl (pa_cons (C8.pe_mt t_Need_rounds_to_afford hr (by decide) (pv 6) (pa_cons (pv 2) (pa_cons (pv 3) pa_nil))) (pa_cons (pv 8) pa_nil))) (by intro _; rfl))) (pss_one (ps_ret pe_bl)) pss_nil)
      (C8.pss_cut (ps_if (pt_not (Uv.pt_tr (C8.pe_c c__law_same hr (by decide) rfl (pa_cons (C8.pe_mt t_Need_rounds_to_afford hr (by decide) (pv 5) (pa_cons (pv 2) (pa_cons (pv 3) pa_nil))) (pa_cons (pe_ix Uv.u_ix (pe_lst (pa_cons pe_int (pa_cons pe_non pa_nil))) (pe_callTy Uv.cb_int (by rfl) (B.at "int") (by decide +kernel) (pa_cons (pe_cmpR Uv.u_gt (pv 2) (pv 3) (nomark _)) pa_nil)) (fun _ _ => rfl)) pa_nil))) (by intro _; rfl))) (pss_one (ps_ret pe_bl)) pss_nil)
      (C8.pss_cut (ps_if (PW.pt (pw_or (pt_cmpR (Uv.u_ne (Uv.huR hr)) (C8.pe_mt t_Need_highest hr (by decide) (pv 5) (pa_cons (pv 2) (pa_cons (pv 4) pa_nil))) (pe_op Uv.u_add (pv 2) (pe_op Uv.u_mul (pv 4) (pv 0))) (nomark _)) (pw_or1 (pt_cmpR (Uv.u_ne (Uv.huR hr)) (C8.pe_mt t_Need_lowest hr (by decide) (pv 5) (pa_cons (pv 2) (pa_cons (pv 4) pa_nil))) (pv 2) (nomark _))))) (pss_one (ps_ret pe_bl)) pss_nil)
      (pss_one (ps_ret (pe_cmpR (Uv.u_eq (Uv.huR hr)) (C8.pe_mt t_Need_lowest hr (by decide) (pv 6) (pa_cons (pv 2) (pa_cons (pv 4) pa_nil))) (pe_callB (call_min2 rfl) (by rfl) (B.at "min") (by decide +kernel) (pa_cons (pv 2) (pa_cons (pe_callB (call_max2 rfl) (by rfl) (B.at "max") (by decide +kernel) (pa_cons (pv 1) (pa_cons (pe_op Uv.u_sub (pv 2) (pe_op Uv.u_mul (pv 4) (pv 0))) pa_nil))) pa_nil))) (nomark _)))))))))))))), pure__law_constant T vs H Q E h⟩)
  unfold sp__law_constant at h
  (repeat (obtain ⟨_, h⟩ := h)); all_goals (subst_vars; rfl)
theorem pure__law_paces (T : TK K Z) (vs : List V) (H : Hp) (Q : VK) (E : XK) (h : sp__law_paces K Z vs H Q E) : t__law_paces K Z { nx := fun _ H' => Q .non H', rt := Q } (L2.start ["_law_draws_here", "_law_bend", "_law_needed", "_law_purse", "_law_limit", "_law_pace", "_law_flat", "_law_base", "_law_up", "_law_edge", "_law_down"] vs) H := by
  obtain ⟨da, ns, bend, v, purse, limit, rfl, hD, hlen, hr40, ⟨b0, b1⟩, hV, hU, hL, hQ⟩ := h
  obtain ⟨cN, nS, nR, nN⟩ := T
  walk_at "in"
  unfold t__law_paces
  obtain ⟨v0, v1⟩ := id hV
  obtain ⟨u0, u1⟩ := id hU
  obtain ⟨l0, l1⟩ := id hL
  have rg : ∀ k, 0 ≤ ns.getD k 0 ∧ ns.getD k 0 < 1000000 := takeF_rg hr40
  have r37 := rg 37
  have r38 := rg 38
  have r39 := rg 39
  walk_at "go"
  refine r_ixL hD (atI_of (j := 37) rfl (iV_at (by omega))) ?_
  walk_at "go"
  refine r_ixL hD (atI_of (j := 38) rfl (iV_at (by omega))) ?_
  walk_at "go"
  refine r_modI (by omega) ?_
  walk_at "go"
  refine r_ixL hD (atI_of (j := 39) rfl (iV_at (by omega))) ?_
  walk_at "go"
  have m38 := Int.emod_nonneg (ns.getD 38 0) (show 2 + ns.getD 37 0 % 1000 - 1 ≠ 0 by omega)
  have m38' := Int.emod_lt_of_pos (ns.getD 38 0) (show 0 < 2 + ns.getD 37 0 % 1000 - 1 by omega)
  generalize hpace : 2 + ns.getD 37 0 % 1000 = pace at *
  generalize hflat : 1 + ns.getD 38 0 % (pace - 1) = flat at *
  generalize hbase : ns.getD 39 0 % 1000 = bs at *
  have hP : Pu pace flat bend := ⟨by omega, by omega, b0⟩
  have hPd : Pd bs pace flat (bend + bs + pace) := ⟨by omega, by omega, by omega, by omega⟩
  have bP : Bd pace := ⟨by omega, by omega⟩
  have bB : Bd bs := ⟨by omega, by omega⟩
  have bE : Bd bend := ⟨by omega, by omega⟩
  have bE2 : Bd (bend + bs + pace) := ⟨by omega, by omega⟩
  refine ⟨two_le, fun T0 h0 => ?_⟩
  walk_at "go"
  refine ⟨two_le, fun T1 h1 => ?_⟩
  walk_at "go"
  refine ⟨two_le, fun T2 h2 => ?_⟩
  walk_at "go"
  rintro x dx hx hdx hne
  obtain ⟨s1, a1, a2⟩ := pairs2 (K := K) (hi := some bend) (hi2 := none) h0 h1 h2
  refine mk_need hx hdx hne bP hP.wf (show (2 : Nat) ≤ 1000 by decide) a1 a2 fun H1 s2 hX => ?_
  have s3 := s1.trans s2
  have nU : NdOk ⟨some pace, [(0, some bend), (bend + flat, none)], none⟩ := .on bP hP.wf fun y h => nomatch h
  have nD : NdOk ⟨some bs, [(bs + pace, some (bend + bs + pace)), (bend + bs + pace + flat, none)], none⟩ := .on bB hPd.wf fun y h => nomatch h
  have bV : BdO (some v) := fun _ e => by cases e; exact hV
  obtain ⟨dx, ax, xs, ho, hS, hPs⟩ := id hX
  walk_at "go"
  refine r_nocut ?_
  walk_at "go"
  refine r_methOf ho rfl ?_
  walk_at "go"
  refine ⟨x, _, some v, purse, rfl, hX, nU, bV, hU, fun r hr => ?_⟩
  walk_at "go"
  refine ⟨pace, flat, bend, v, purse, rfl, hP, by omega, bE, hV, hU, fun c hc => ?_⟩
  walk_at "go"
  refine ⟨r, some c, rfl, ?_⟩
  rw [decide_eq_true (up_one hr (upI_ok hc))]
  walk_at "go"
  refine r_nocut ?_
  walk_at "go"
  refine r_methOf ho rfl ?_
  walk_at "go"
  refine ⟨x, _, some v, limit, rfl, hX, nU, bV, hL, fun r hr => ?_⟩
  walk_at "go"
  refine ⟨pace, flat, bend, v, limit, rfl, hP, by omega, bE, hV, hL, fun c hc => ?_⟩
  walk_at "go"
  refine ⟨r, some c, rfl, ?_⟩
  rw [decide_eq_true (most_one hr hc)]
  walk_at "go"
  refine ⟨two_le, fun T3 h3 => ?_⟩
  walk_at "go"
  refine ⟨two_le, fun T4 h4 => ?_⟩
  walk_at "go"
  refine ⟨two_le, fun T5 h5 => ?_⟩
  walk_at "go"
  rintro y dy hy hdy hne2
  obtain ⟨s4, c1, c2⟩ := pairs2 (K := K) (hi := some (bend + bs + pace)) (hi2 := none) h3 h4 h5
  refine mk_need hy hdy hne2 bB hPd.wf (show (2 : Nat) ≤ 1000 by decide) c1 c2 fun H2 s5 hY => ?_
  have s7 := (s3.trans s4).trans s5
  obtain ⟨dy, ay, ys, ho2, hS2, hPs2⟩ := id hY
  walk_at "go"
  refine r_nocut ?_
  walk_at "go"
  refine r_methOf ho2 rfl ?_
  walk_at "go"
  refine ⟨y, _, some v, purse, rfl, hY, nD, bV, hU, fun r hr => ?_⟩
  walk_at "go"
  refine ⟨bs, pace, flat, bend + bs + pace, v, purse, rfl, hPd, by omega, bE2, hV, hU, fun c hc => ?_⟩
  walk_at "go"
  refine ⟨r, c, rfl, ?_⟩
  rw [decide_eq_true (down_one hr hc)]
  walk_at "go"
  refine r_methOf ho2 rfl ?_
  walk_at "go"
  refine ⟨y, _, some v, limit, rfl, hY, nD, bV, hL, fun r hr => ?_⟩
  walk_at "go"
  refine ⟨bs, pace, flat, bend + bs + pace, v, limit, rfl, hPd, by omega, bE2, hV, hL, fun c hc => ?_⟩
  walk_at "go"
  refine ⟨r, some c, rfl, ?_⟩
  rw [decide_eq_true (least_one hr (least_some hc))]
  exact hQ _ s7
theorem ok__law_paces (T : TK K Z) (B : Blt mg) (m_Need : C8.Mak P w K mg base 2 "Need" Z.Need (sp_Need_init K Z) []) (c__law_same : C8.Cal P w K mg base 1 "_law_same" (sp__law_same K Z) []) (t_Need_lowest : C8.Met P w K mg base 3 Z.Need "lowest" (sp_Need_lowest K Z) []) (c__law_down_value : C8.Cal P w K mg base 1 "_law_down_value" (sp__law_down_value K Z) []) (t_Need_rounds_to_exceed : C8.Met P w K mg base 3 Z.Need "rounds_to_exceed" (sp_Need_rounds_to_exceed K Z) []) (c__law_up_count : C8.Cal P w K mg base 1 "_law_up_count" (sp__law_up_count K Z) []) (t_Need_highest : C8.Met P w K mg base 3 Z.Need "highest" (sp_Need_highest K Z) []) (c__law_up_value : C8.Cal P w K mg base 1 "_law_up_value" (sp__law_up_value K Z) []) (t_Need_rounds_to_afford : C8.Met P w K mg base 3 Z.Need "rounds_to_afford" (sp_Need_rounds_to_afford K Z) []) (c__law_down_count : C8.Cal P w K mg base 1 "_law_down_count" (sp__law_down_count K Z) []) (F : FnP K "_law_paces" "_law_paces" s__law_paces f fd) : FnOk P w K mg base CX0 4 f fd ["_law_draws_here", "_law_bend", "_law_needed", "_law_purse", "_law_limit"] (sp__law_paces K Z) := by
  have nd := sc__law_paces.nd
  refine F.ok sc__law_paces (fun vs H Q E h => ?_) (fun cdv A outer s H vs Q E hr h => ⟨t__law_paces K Z, PSs.nox (pss_cons (ps_set (i := 5) nd rfl (by first | exact Or.inl rfl | exact Or.inr rfl) (pe_op Uv.u_add pe_int (pe_op Uv.u_mod (pe_callTy Uv.cb_int (by rfl) (B.at "int") (by decide +kernel) (pa_cons (pe_ix Uv.u_ix (pv 0) pe_int (fun _ _ => rfl)) pa_nil)) pe_int)))
      (pss_cons (ps_set (i := 6) nd rfl (by first | exact Or.inl rfl | exact Or.inr rfl) (pe_op Uv.u_add pe_int (pe_op Uv.u_mod (pe_callTy Uv.cb_int (by rfl) (B.at "int") (by decide +kernel) (pa_cons (pe_ix Uv.u_ix (pv 0) pe_int (fun _ _ => rfl)) pa_nil)) (pe_op Uv.u_sub (pv 5) pe_int))))
      (pss_cons (ps_set (i := 7) nd rfl (by first | exact Or.inl rfl | exact Or.inr rfl) (pe_op Uv.u_mod (pe_callTy Uv.cb_int (by rfl) (B.at "int") (by decide +kernel) (pa_cons (pe_ix Uv.u_ix (pv 0) pe_int (fun _ _ => rfl)) pa_nil)) pe_int))
      (pss_cons (ps_set (i := 8) nd rfl (by first | exact Or.inl rfl | exact Or.inr rfl) (C8.pe_mk m_Need hr (by decide) rfl (pa_cons (pv 5) (pa_cons (pe_tup (pa_cons (pe_tup (pa_cons pe_int (pa_cons (pv 1) pa_nil))) (pa_cons (pe_tup (pa_cons (pe_op Uv.u_add (pv 1) (pv 6)) (pa_cons pe_non pa_nil))) pa_nil))) (pa_cons pe_non pa_nil)))))
      (C8.pss_cut (ps_if (pt_not (Uv.pt_tr (C8.pe_c c__law_same hr (by decide) rfl (pa_cons (C8.pe_mt t_Need_rounds_to_exceed hr (by decide) (pv 8) (pa_cons (pv 2) (pa_cons (pv 3) pa_nil))) (pa_cons (C8.pe_c c__law_up_count hr (by decide) rfl (pa_cons (pv 5) (pa_cons (pv 6) (pa_cons (pv 1) (pa_cons (pv 2) (pa_cons (pv 3) pa_nil)))))) pa_nil))) (by intro _; rfl))) (pss_one (ps_ret pe_bl)) pss_nil)
      (C8.pss_cut (ps_if (pt_not (Uv.pt_tr (C8.pe_c c__law_same hr (by decide) rfl (pa_cons (C8.pe_mt t_Need_highest hr (by decide) (pv 8) (pa_cons (pv 2) (pa_cons (pv 4) pa_nil))) (pa_cons (C8.pe_c c__law_up_value hr (by decide) rfl (pa_cons (pv 5) (pa_cons (pv 6) (pa_cons (pv 1) (pa_cons (pv 2) (pa_cons (pv 4) pa_nil)))))) pa_nil))) (by intro _; rfl))) (pss_one (ps_ret pe_bl)) pss_nil)
      (pss_cons (ps_set (i := 9) nd rfl (by first | exact Or.inl rfl | exact Or.inr rfl) (pe_op Uv.u_add (pe_op Uv.u_add (pv 1) (pv 7)) (pv 5)))
      (pss_cons (ps_set (i := 10) nd rfl (by first | exact Or.inl rfl | exact Or.inr rfl) (C8.pe_mk m_Need hr (by decide) rfl (pa_cons (pv 7) (pa_cons (pe_tup (pa_cons (pe_tup (pa_cons (pe_op Uv.u_add (pv 7) (pv 5)) (pa_cons (pv 9) pa_nil))) (pa_cons (pe_tup (pa_cons (pe_op Uv.u_add (pv 9) (pv 6)) (pa_cons pe_non pa_nil))) pa_nil))) (pa_cons pe_non pa_nil)))))
      (C8.pss_cut (ps_if (pt_not (Uv.pt_tr (C8.pe_c c__law_same hr (by decide) rfl (pa_cons (C8.pe_mt t_Need_rounds_to_afford hr (by decide) (pv 10) (pa_cons (pv 2) (pa_cons (pv 3) pa_nil))) (pa_cons (C8.pe_c c__law_down_count hr (by decide) rfl (pa_cons (pv 7) (pa_cons (pv 5) (pa_cons (pv 6) (pa_cons (pv 9) (pa_cons (pv 2) (pa_cons (pv 3) pa_nil))))))) pa_nil))) (by intro _; rfl))) (pss_one (ps_ret pe_bl)) pss_nil)
      (pss_one (ps_ret (C8.pe_c c__law_same hr (by decide) rfl (pa_cons (C8.pe_mt t_Need_lowest hr (by decide) (pv 10) (pa_cons (pv 2) (pa_cons (pv 4) pa_nil))) (pa_cons (C8.pe_c c__law_down_value hr (by decide) rfl (pa_cons (pv 7) (pa_cons (pv 5) (pa_cons (pv 6) (pa_cons (pv 9) (pa_cons (pv 2) (pa_cons (pv 4) pa_nil))))))) pa_nil)))))))))))))), pure__law_paces T vs H Q E h⟩)
  unfold sp__law_paces at h
  (repeat (obtain ⟨_, h⟩ := h)); all_goals (subst_vars; rfl)
end
end K19

--T law_k19_need_round_counts
namespace K19
open PySem PySem.Spec PyProof.Rows L2 Uv N19
abbrev s_law : Stmt := (top 44)
theorem sc_law : FnScope ["_law_script", "_law_draws_here", "_law_need_here", "_law_f", "_law_k", "_law_needed", "_law_purse", "_law_step", "_law_edge", "_law_limit", "_law_bend", "_law_beyond"] ["_law_script"] (defScope s_law) := ⟨rfl, rfl, rfl, by decide +kernel, rfl, by decide +kernel, by decide +kernel⟩
def t_law (K : PySem.W.Frag) (Z : Ad) : TS :=
    (tSeq (tAsg (tCall (sp__law_draws K Z) [] E0 (tCons (tCall (sp__law_cell K Z) [] E0 (tCons (tVar 0) (tCons (tC (.int 0)) tNil))) (tCons (tC (.int 40)) tNil))) (gName 1))
    (tSeq (tAsg (tCall (sp__law_need K Z) [] E0 (tCons (tVar 1) (tCons (tLst (tCons (tC (.int 0)) tNil)) tNil))) (gName 2))
    (tSeq (tAsg (tCall (sp__law_make K Z) [] E0 (tCons (tVar 2) tNil)) (gName 3))
    (C8.tCut (tFor (iRng1 (tCons (tC (.int 6)) tNil)) (gName 4) (tSeq (tAsg (tOp Uv.rModU (tCB Uv.rInt (tCons (tOp (Uv.rIxU K) (tVar 1) (tOp (Uv.rAddU K) (tC (.int 25)) (tVar 4))) tNil)) (tC (.int 40))) (gName 5))
    (tSeq (tAsg (tOp Uv.rModU (tCB Uv.rInt (tCons (tOp (Uv.rIxU K) (tVar 1) (tOp (Uv.rAddU K) (tC (.int 31)) (tVar 4))) tNil)) (tC (.int 40))) (gName 6))
    (C8.tCut (tIfS (tTest (tOp (Uv.rEqU K) (tVar 4) (tC (.int 4)))) (tAsg (tC .non) (gName 5)) tNext)
    (C8.tCut (tIfS (tTest (tOp (Uv.rEqU K) (tVar 4) (tC (.int 5)))) (tSeq (tAsg (tOp Uv.rModU (tCB Uv.rInt (tCons (tCB Uv.rAbs (tCons (tCall (sp__law_cell K Z) [] E0 (tCons (tVar 0) (tCons (tC (.int 1)) tNil))) tNil)) tNil)) (tOp Uv.rPowU (tC (.int 10)) (tC (.int 60)))) (gName 5))
    (tAsg (tOp Uv.rModU (tCB Uv.rInt (tCons (tCB Uv.rAbs (tCons (tCall (sp__law_cell K Z) [] E0 (tCons (tVar 0) (tCons (tC (.int 2)) tNil))) tNil)) tNil)) (tOp Uv.rPowU (tC (.int 10)) (tC (.int 60)))) (gName 6))) tNext)
    (tIfS (tOr (tNot (Uv.tTr K (tCall (sp__law_small K Z) [] E0 (tCons (tVar 3) (tCons (tVar 2) (tCons (tVar 5) (tCons (tVar 6) tNil))))))) (tNot (Uv.tTr K (tCall (sp__law_extremes K Z) [] E0 (tCons (tVar 3) (tCons (tVar 2) (tCons (tVar 5) (tCons (tOp (Uv.rIxU K) (tLst (tCons (tC (.int 0)) (tCons (tC (.int 1)) (tCons (tC (.int 7)) (tCons (tC (.int 40)) (tCons (tC (.int 3)) (tCons (tC (.int 2)) tNil))))))) (tOp Uv.rModU (tCB Uv.rInt (tCons (tOp (Uv.rAddU K) (tVar 4) (tOp (Uv.rIxU K) (tVar 1) (tC (.int 39)))) tNil)) (tC (.int 6)))) tNil)))))))) (tRet (tC (.bl false))) tNext))))))
    (tSeq (tAsg (tOp (Uv.rAddU K) (tC (.int 1)) (tOp Uv.rModU (tCB Uv.rInt (tCons (tOp (Uv.rIxU K) (tVar 1) (tC (.int 37))) tNil)) (tC (.int 1000)))) (gName 7))
    (tSeq (tAsg (tOp Uv.rModU (tCB Uv.rInt (tCons (tOp (Uv.rIxU K) (tVar 1) (tC (.int 38))) tNil)) (tC (.int 1000))) (gName 8))
    (tSeq (tAsg (tOp Uv.rModU (tCB Uv.rInt (tCons (tCB Uv.rAbs (tCons (tCall (sp__law_cell K Z) [] E0 (tCons (tVar 0) (tCons (tC (.int 3)) tNil))) tNil)) tNil)) (tOp Uv.rPowU (tC (.int 10)) (tC (.int 60)))) (gName 5))
    (tSeq (tAsg (tOp Uv.rModU (tCB Uv.rInt (tCons (tCB Uv.rAbs (tCons (tCall (sp__law_cell K Z) [] E0 (tCons (tVar 0) (tCons (tC (.int 4)) tNil))) tNil)) tNil)) (tOp Uv.rPowU (tC (.int 10)) (tC (.int 60)))) (gName 6))
    (tSeq (tAsg (tOp Uv.rModU (tCB Uv.rInt (tCons (tCB Uv.rAbs (tCons (tCall (sp__law_cell K Z) [] E0 (tCons (tVar 0) (tCons (tC (.int 5)) tNil))) tNil)) tNil)) (tOp Uv.rPowU (tC (.int 10)) (tC (.int 60)))) (gName 9))
    (C8.tCut (tIfS (tNot (Uv.tTr K (tCall (sp__law_constant K Z) [] E0 (tCons (tVar 7) (tCons (tVar 8) (tCons (tVar 5) (tCons (tVar 6) (tCons (tVar 9) tNil)))))))) (tRet (tC (.bl false))) tNext)
    (C8.tCut (tIfS (tNot (Uv.tTr K (tCall (sp__law_constant K Z) [] E0 (tCons (tVar 7) (tCons (tVar 8) (tCons (tOp Uv.rModU (tCB Uv.rInt (tCons (tVar 5) tNil)) (tC (.int 5000))) (tCons (tOp Uv.rModU (tCB Uv.rInt (tCons (tVar 6) tNil)) (tC (.int 3000))) (tCons (tOp Uv.rModU (tCB Uv.rInt (tCons (tVar 9) tNil)) (tC (.int 9))) tNil)))))))) (tRet (tC (.bl false))) tNext)
    (tSeq (tAsg (tOp (Uv.rAddU K) (tC (.int 1)) (tOp Uv.rModU (tCB Uv.rInt (tCons (tCB Uv.rAbs (tCons (tCall (sp__law_cell K Z) [] E0 (tCons (tVar 0) (tCons (tC (.int 6)) tNil))) tNil)) tNil)) (tOp Uv.rPowU (tC (.int 10)) (tC (.int 40))))) (gName 10))
    (tSeq (tAsg (tOp (Uv.rAddU K) (tVar 10) (tOp Uv.rMulU (tOp (Uv.rIxU K) (tVar 1) (tC (.int 30))) (tOp (Uv.rIxU K) (tVar 1) (tC (.int 31))))) (gName 11))
    (C8.tCut (tIfS (tOr (tNot (Uv.tTr K (tCall (sp__law_paces K Z) [] E0 (tCons (tVar 1) (tCons (tVar 10) (tCons (tVar 5) (tCons (tVar 6) (tCons (tVar 9) tNil)))))))) (tNot (Uv.tTr K (tCall (sp__law_paces K Z) [] E0 (tCons (tVar 1) (tCons (tVar 10) (tCons (tOp Uv.rModU (tCB Uv.rInt (tCons (tVar 5) tNil)) (tVar 10)) (tCons (tVar 11) (tCons (tOp Uv.rFdvU (tVar 10) (tC (.int 500))) tNil))))))))) (tRet (tC (.bl false))) tNext)
    (C8.tCut (tIfS (tNot (Uv.tTr K (tCall (sp__law_paces K Z) [] E0 (tCons (tVar 1) (tCons (tVar 10) (tCons (tVar 11) (tCons (tOp Uv.rModU (tCB Uv.rInt (tCons (tVar 6) tNil)) (tVar 10)) (tCons (tOp Uv.rFdvU (tVar 10) (tC (.int 500))) tNil)))))))) (tRet (tC (.bl false))) tNext)
    (tRet (tCall (sp__law_paces K Z) [] E0 (tCons (tVar 1) (tCons (tOp (Uv.rAddU K) (tC (.int 1)) (tOp Uv.rModU (tCB Uv.rInt (tCons (tVar 10) tNil)) (tC (.int 3000)))) (tCons (tOp Uv.rModU (tCB Uv.rInt (tCons (tVar 5) tNil)) (tC (.int 9000))) (tCons (tOp Uv.rModU (tCB Uv.rInt (tCons (tVar 6) tNil)) (tC (.int 9000))) (tCons (tOp Uv.rModU (tCB Uv.rInt (tCons (tVar 9) tNil)) (tC (.int 40))) tNil))))))))))))))))))))))
def sp_law (K : PySem.W.Frag) (_ : Ad) : Sp := fun vs H Q _ => ∃ (a : Addr) (ns : List Int), vs = [.ref a] ∧ SqL K H a (iV ns) ∧ ∀ H', Q (.bl true) H'
section
variable {P : Program} {w : World} {K : PySem.W.Frag} {mg : Str → Option Value} {base : Heap} {Z : Ad} {f : Addr} {fd : FuncData}
theorem e60 : (10 : Int) ^ (60 : Int).toNat = 10 ^ 60 := rfl
theorem e40 : (10 : Int) ^ (40 : Int).toNat = 10 ^ 40 := rfl
theorem mod60 {x : Int} : Bd (x % 10 ^ 60) := ⟨by omega, by omega⟩
theorem mod_bd {x n : Int} (h : 0 < n) (h2 : n < 2 ^ 300) : Bd (x % n) := ⟨Int.emod_nonneg _ (by omega), by have := Int.emod_lt_of_pos x h; omega⟩
theorem six {x : Int} (h0 : 0 ≤ x) (h1 : x < 6) : ∃ m : Nat, m ≤ 1000 ∧ atI [V.int 0, .int 1, .int 7, .int 40, .int 3, .int 2] x = some (.int m) := by
  have q : x = 0 ∨ x = 1 ∨ x = 2 ∨ x = 3 ∨ x = 4 ∨ x = 5 := by omega
  rcases q with rfl | rfl | rfl | rfl | rfl | rfl
  · exact ⟨0, by decide, rfl⟩
  · exact ⟨1, by decide, rfl⟩
  · exact ⟨7, by decide, rfl⟩
  · exact ⟨40, by decide, rfl⟩
  · exact ⟨3, by decide, rfl⟩
  · exact ⟨2, by decide, rfl⟩
theorem pure_law (T : TK K Z) (vs : List V) (H : Hp) (Q : VK) (E : XK) (h : sp_law K Z vs H Q E) : t_law K Z { nx := fun _ H' => Q .non H', rt := Q } (L2.start ["_law_script", "_law_draws_here", "_law_need_here", "_law_f", "_law_k", "_law_needed", "_law_purse", "_law_step", "_law_edge", "_law_limit", "_law_bend", "_law_beyond"] vs) H := by
  obtain ⟨a, sc, rfl, hA, hQ⟩ := h
  walk_at "in"
  unfold t_law
  walk_at "go"
  refine ⟨a, sc, 0, rfl, hA, ?_⟩
  walk_at "go"
  refine ⟨_, 40, rfl, by decide, by decide, fun d hd => ?_⟩
  have s1 : Same H (upd H d (.lst (iV (drawsF (sc.getD 0 0) 40)))) := Same.new hd
  have hA1 := s1.seq hA
  obtain ⟨dl, dr⟩ := drawSt_ok (sc.getD 0 0) 40
  have hD1 : SqL K (upd H d (.lst (iV (drawsF (sc.getD 0 0) 40)))) d (iV (drawsF (sc.getD 0 0) 40)) := .of upd_same
  have eD : drawsF (sc.getD 0 0) 40 = (drawSt (sc.getD 0 0) 40).2.2 := rfl
  rw [← eD] at dl dr
  have hdv : upd H d (.lst (iV (drawsF (sc.getD 0 0) 40))) d = some (.lst (iV (drawsF (sc.getD 0 0) 40))) := upd_same
  generalize drawsF (sc.getD 0 0) 40 = ns at *
  have rg : ∀ k, 0 ≤ ns.getD k 0 ∧ ns.getD k 0 < 1000000 := takeF_rg dr
  generalize upd H d (.lst (iV ns)) = H1 at *
  walk_at "go"
  refine ⟨show (1 : Nat) ≤ sizeLine by decide, fun p hp => ?_⟩
  have s2 : Same H1 (upd H1 p (.lst [.int 0])) := Same.new hp
  have hpd : d ≠ p := ne_of_none hdv hp
  walk_at "go"
  refine ⟨d, p, ns, 0, rfl, s2.seq hD1, upd_same, hpd, dr, fun l nd H2 hG hN b2 => ?_⟩
  have s3 : Same H1 H2 := fun b o hb => b2 b o (ne_of_none hb hp) (s2 b o hb)
  walk_at "go"
  refine ⟨l, nd, rfl, hN, hG, fun x H3 s4 hX => ?_⟩
  have s5 : Same H1 H3 := s3.trans s4
  have hN3 := hN.mono s4
  have hA3 := s5.seq hA1
  have hD3 := s5.seq hD1
  have hOk := hG.1
  walk_at "go"
  refine r_cut (fun σ' H' => Same H3 H' ∧ ∃ b4 b5 b6, σ' = [some (.ref a), some (.ref d), some (.ref l), some (.ref x), b4, b5, b6, none, none, none, none, none]) ?_ ?_
  · refine r_forR ?_
    walk_at "go"
    refine r_loopR (n := 6) (by omega) (by omega) (fun i σ' H' => Same H3 H' ∧ ∃ b4 b5 b6, σ' = [some (.ref a), some (.ref d), some (.ref l), some (.ref x), b4, b5, b6, none, none, none, none, none]) ?_ ?_ ?_
    · exact ⟨Same.refl _, none, none, none, rfl⟩
    · rintro i σ' H' hi ⟨s6, b4, b5, b6, rfl⟩
      have i6 : i < 6 := by omega
      have hA6 := s6.seq hA3
      have hD6 := s6.seq hD3
      have hN6 := hN3.mono s6
      have hX6 := hX.mono s6
      walk_at "go"
      refine r_ixL hD6 (atI_of (j := 25 + i) (by omega) (iV_at (by omega))) ?_
      walk_at "go"
      refine r_ixL hD6 (atI_of (j := 31 + i) (by omega) (iV_at (by omega))) ?_
      walk_at "go"
      refine r_cut (fun σ' H2 => H2 = H' ∧ ∃ (k : Option Int) (pu : Int), σ' = [some (.ref a), some (.ref d), some (.ref l), some (.ref x), some (.int i), some (vO k), some (.int pu), none, none, none, none, none] ∧ BdO k ∧ Bd pu) ?_ ?_
      · walk_at "go"
        walk_at "b"
        · walk_at "go"
          exact ⟨rfl, none, _, rfl, fun _ z => (nomatch z), mod_bd (by omega) (by omega)⟩
        · walk_at "go"
          exact ⟨rfl, some _, _, rfl, fun _ z => by cases z; exact mod_bd (by omega) (by omega), mod_bd (by omega) (by omega)⟩
      rintro σ' H2 ⟨rfl, k, pu, rfl, hk, hpu⟩
      refine r_cut (fun σ' H' => H' = H2 ∧ ∃ (k : Option Int) (pu : Int), σ' = [some (.ref a), some (.ref d), some (.ref l), some (.ref x), some (.int i), some (vO k), some (.int pu), none, none, none, none, none] ∧ BdO k ∧ Bd pu) ?_ ?_
      · walk_at "go"
        walk_at "b"
        · walk_at "go"
          refine ⟨a, sc, 1, rfl, hA6, ?_⟩
          walk_at "go"
          rw [e60]
          refine ⟨a, sc, 2, rfl, hA6, ?_⟩
          walk_at "go"
          rw [e60]
          exact ⟨rfl, some _, _, rfl, fun _ z => by cases z; exact mod60, mod60⟩
        · walk_at "go"
          exact ⟨rfl, k, _, rfl, hk, hpu⟩
      rintro σ' H' ⟨rfl, k, pu, rfl, hk, hpu⟩
      walk_at "go"
      refine ⟨x, l, nd, k, pu, rfl, hX6, hN6, hOk, hk, hpu, fun H4 s7 => ?_⟩
      walk_at "go"
      refine ⟨show (6 : Nat) ≤ sizeLine by decide, fun q hq => ?_⟩
      have s8 : Same H' (upd H4 q (.lst [.int 0, .int 1, .int 7, .int 40, .int 3, .int 2])) := s7.trans (Same.new hq)
      walk_at "go"
      refine r_ixL (s8.seq hD6) (atI_of (j := 39) rfl (iV_at (by omega))) ?_
      walk_at "go"
      obtain ⟨m, m1, m2⟩ := six (x := (i + ns.getD 39 0) % 6) (by omega) (by omega)
      refine r_ixL (.of upd_same) m2 ?_
      walk_at "go"
      refine ⟨x, l, nd, k, m, rfl, hX6.mono s8, hN6.mono s8, hOk, hk, m1, fun H5 s9 => ?_⟩
      walk_at "go"
      exact ⟨(s6.trans s8).trans s9, _, _, _, rfl⟩
    · rintro σ' H' h
      exact h
  · rintro σ' H' ⟨s6, b4, b5, b6, rfl⟩
    have hA6 := s6.seq hA3
    have hD6 := s6.seq hD3
    walk_at "go"
    refine r_ixL hD6 (atI_of (j := 37) rfl (iV_at (by omega))) ?_
    walk_at "go"
    refine r_ixL hD6 (atI_of (j := 38) rfl (iV_at (by omega))) ?_
    walk_at "go"
    refine ⟨a, sc, 3, rfl, hA6, ?_⟩
    walk_at "go"
    rw [e60]
    refine ⟨a, sc, 4, rfl, hA6, ?_⟩
    walk_at "go"
    rw [e60]
    refine ⟨a, sc, 5, rfl, hA6, ?_⟩
    walk_at "go"
    rw [e60]
    have bV : Bd ((if sc.getD 3 0 < 0 then -sc.getD 3 0 else sc.getD 3 0) % 10 ^ 60) := mod60
    have bU : Bd ((if sc.getD 4 0 < 0 then -sc.getD 4 0 else sc.getD 4 0) % 10 ^ 60) := mod60
    have bL : Bd ((if sc.getD 5 0 < 0 then -sc.getD 5 0 else sc.getD 5 0) % 10 ^ 60) := mod60
    generalize (if sc.getD 3 0 < 0 then -sc.getD 3 0 else sc.getD 3 0) % 10 ^ 60 = v at *
    generalize (if sc.getD 4 0 < 0 then -sc.getD 4 0 else sc.getD 4 0) % 10 ^ 60 = pu at *
    generalize (if sc.getD 5 0 < 0 then -sc.getD 5 0 else sc.getD 5 0) % 10 ^ 60 = li at *
    have st : 1 ≤ 1 + ns.getD 37 0 % 1000 ∧ 1 + ns.getD 37 0 % 1000 ≤ 1000 := by omega
    refine r_nocut ?_
    walk_at "go"
    refine ⟨_, _, _, _, _, rfl, st, mod_bd (by omega) (by omega), bV, bU, bL, fun H7 s7 => ?_⟩
    walk_at "go"
    refine r_nocut ?_
    walk_at "go"
    refine ⟨_, _, _, _, _, rfl, st, mod_bd (by omega) (by omega), mod_bd (by omega) (by omega), mod_bd (by omega) (by omega), mod_bd (by omega) (by omega), fun H8 s8 => ?_⟩
    have hA8 := s8.seq (s7.seq hA6)
    have hD8 := s8.seq (s7.seq hD6)
    walk_at "go"
    refine ⟨a, sc, 6, rfl, hA8, ?_⟩
    walk_at "go"
    rw [e40]
    walk_at "go"
    have bd : 1 ≤ 1 + (if sc.getD 6 0 < 0 then -sc.getD 6 0 else sc.getD 6 0) % 10 ^ 40 ∧ 1 + (if sc.getD 6 0 < 0 then -sc.getD 6 0 else sc.getD 6 0) % 10 ^ 40 < 2 ^ 140 := by omega
    generalize 1 + (if sc.getD 6 0 < 0 then -sc.getD 6 0 else sc.getD 6 0) % 10 ^ 40 = be at *
    refine r_ixL hD8 (atI_of (j := 30) rfl (iV_at (by omega))) ?_
    walk_at "go"
    refine r_ixL hD8 (atI_of (j := 31) rfl (iV_at (by omega))) ?_
    have r30 := rg 30
    have r31 := rg 31
    have pr : 0 ≤ ns.getD 30 0 * ns.getD 31 0 ∧ ns.getD 30 0 * ns.getD 31 0 ≤ 1000000 * 1000000 := ⟨Int.mul_nonneg r30.1 r31.1, Int.mul_le_mul (by omega) (by omega) r31.1 (by decide)⟩
    refine r_mulI (mul_ok (by omega) (by omega)) ?_
    walk_at "go"
    have bB : Bd (be + ns.getD 30 0 * ns.getD 31 0) := ⟨by omega, by omega⟩
    generalize be + ns.getD 30 0 * ns.getD 31 0 = yo at *
    have b5 : Bd (be / 500) := ⟨by omega, by omega⟩
    refine r_nocut ?_
    walk_at "go"
    refine ⟨d, ns, _, _, _, _, rfl, hD8, dl, dr, ⟨by omega, by omega⟩, bV, bU, bL, fun H9 s9 => ?_⟩
    have hD9 := s9.seq hD8
    walk_at "go"
    refine r_modI (by omega) ?_
    walk_at "go"
    refine ⟨d, ns, _, _, _, _, rfl, hD9, dl, dr, ⟨by omega, by omega⟩, mod_bd (by omega) (by omega), bB, b5, fun H10 s10 => ?_⟩
    have hD10 := s10.seq hD9
    walk_at "go"
    refine r_nocut ?_
    walk_at "go"
    refine r_modI (by omega) ?_
    walk_at "go"
    refine ⟨d, ns, _, _, _, _, rfl, hD10, dl, dr, ⟨by omega, by omega⟩, bB, mod_bd (by omega) (by omega), b5, fun H11 s11 => ?_⟩
    have hD11 := s11.seq hD10
    walk_at "go"
    refine ⟨d, ns, _, _, _, _, rfl, hD11, dl, dr, ⟨by omega, by omega⟩, mod_bd (by omega) (by omega), mod_bd (by omega) (by omega), mod_bd (by omega) (by omega), fun H12 s12 => ?_⟩
    exact hQ _
theorem ok_law (T : TK K Z) (B : Blt mg) (c__law_draws : C8.Cal P w K mg base 1 "_law_draws" (sp__law_draws K Z) []) (c__law_need : C8.Cal P w K mg base 2 "_law_need" (sp__law_need K Z) []) (c__law_make : C8.Cal P w K mg base 4 "_law_make" (sp__law_make K Z) []) (c__law_paces : C8.Cal P w K mg base 4 "_law_paces" (sp__law_paces K Z) []) (c__law_cell : C8.Cal P w K mg base 1 "_law_cell" (sp__law_cell K Z) []) (c__law_constant : C8.Cal P w K mg base 4 "_law_constant" (sp__law_constant K Z) []) (c__law_small : C8.Cal P w K mg base 4 "_law_small" (sp__law_small K Z) []) (c__law_extremes : C8.Cal P w K mg base 4 "_law_extremes" (sp__law_extremes K Z) []) (F : FnP K "law" "law" s_law f fd) : FnOk P w K mg base CX0 5 f fd ["_law_script"] (sp_law K Z) := by
  have nd := sc_law.nd
  refine F.ok sc_law (fun vs H Q E h => ?_) (fun cdv A outer s H vs Q E hr h => ⟨t_law K Z, PSs.nox (pss_cons (ps_set (i := 1) nd rfl (by first | exact Or.inl rfl | exact Or.inr rfl) (C8.pe_c c__law_draws hr (by decide) rfl (pa_cons (C8.pe_c c__law_cell hr (by decide) rfl (pa_cons (pv 0) (pa_cons pe_int pa_nil))) (pa_cons pe_int pa_nil))))
      (pss_cons (ps_set (i := 2) nd rfl (by first | exact Or.inl rfl | exact Or.inr rfl) (C8.pe_c c__law_need hr (by decide) rfl (pa_cons (pv 1) (pa_cons (pe_lst (pa_cons pe_int pa_nil)) pa_nil))))
      (pss_cons (ps_set (i := 3) nd rfl (by first | exact Or.inl rfl | exact Or.inr rfl) (C8.pe_c c__law_make hr (by decide) rfl (pa_cons (pv 2) pa_nil)))
      (C8.pss_cut (ps_for PassesOwn.never rfl (pi_range1 rfl (B.at "range") (pa_cons pe_int pa_nil)) (pg_name (i := 4) nd rfl (by first | exact Or.inl rfl | exact Or.inr rfl)) (pss_cons (ps_set (i := 5) nd rfl (by first | exact Or.inl rfl | exact Or.inr rfl) (pe_op Uv.u_mod (pe_callTy Uv.cb_int (by rfl) (B.at "int") (by decide +kernel) (pa_cons (pe_ix Uv.u_ix (pv 1) (pe_op Uv.u_add pe_int (pv 4)) (fun _ _ => rfl)) pa_nil)) pe_int))
      (pss_cons (ps_set (i := 6) nd rfl (by first | exact Or.inl rfl | exact Or.inr rfl) (pe_op Uv.u_mod (pe_callTy Uv.cb_int (by rfl) (B.at "int") (by decide +kernel) (pa_cons (pe_ix Uv.u_ix (pv 1) (pe_op Uv.u_add pe_int (pv 4)) (fun _ _ => rfl)) pa_nil)) pe_int))
      (C8.pss_cut (ps_if (pt_cmpR (Uv.u_eq (Uv.huR hr)) (pv 4) pe_int (nomark _)) (pss_one (ps_set (i := 5) nd rfl (by first | exact Or.inl rfl | exact Or.inr rfl) pe_non)) pss_nil)
      (C8.pss_cut (ps_if (pt_cmpR (Uv.u_eq (Uv.huR hr)) (pv 4) pe_int (nomark _)) (pss_cons (ps_set (i := 5) nd rfl (by first | exact Or.inl rfl | exact Or.inr rfl) (pe_op Uv.u_mod (pe_callTy Uv.cb_int (by rfl) (B.at "int") (by decide +kernel) (pa_cons (pe_callB Uv.cb_abs (by rfl) (B.at "abs") (by decide +kernel) (pa_cons (C8.pe_c c__law_cell hr (by decide) rfl (pa_cons (pv 0) (pa_cons pe_int pa_nil))) pa_nil)) pa_nil)) (pe_op Uv.u_pow pe_int pe_int)))
      (pss_one (ps_set (i := 6) nd rfl (by first | exact Or.inl rfl | exact Or.inr rfl) (pe_op Uv.u_mod (pe_callTy Uv.cb_int (by rfl) (B.at "int") (by decide +kernel) (pa_cons (pe_callB Uv.cb_abs (by rfl) (B.at "abs") (by decide +kernel) (pa_cons (C8.pe_c c__law_cell hr (by decide) rfl (pa_cons (pv 0) (pa_cons pe_int pa_nil))) pa_nil)) pa_nil)) (pe_op Uv.u_pow pe_int pe_int))))) pss_nil)
      (pss_one (ps_if (PW.pt (pw_or (pt_not (Uv.pt_tr (C8.pe_c c__law_small hr (by decide) rfl (pa_cons (pv 3) (pa_cons (pv 2) (pa_cons (pv 5) (pa_cons (pv 6) pa_nil))))) (by intro _; rfl))) (pw_or1 (pt_not (Uv.pt_tr (C8.pe_c c__law_extremes hr (by decide) rfl (pa_cons (pv 3) (pa_cons (pv 2) (pa_cons (pv 5) (pa_cons (pe_ix Uv.u_ix (pe_lst (pa_cons pe_int (pa_cons pe_int (pa_cons pe_int (pa_cons pe_int (pa_cons pe_int (pa_cons pe_int pa_nil))))))) (pe_op Uv.u_mod (pe_callTy Uv.cb_int (by rfl) (B.at "int") (by decide +kernel) (pa_cons (pe_op Uv.u_add (pv 4) (pe_ix Uv.u_ix (pv 1) pe_int (fun _ _ => rfl))) pa_nil)) pe_int) (fun _ _ => rfl)) pa_nil))))) (by intro _; rfl)))))) (pss_one (ps_ret pe_bl)) pss_nil)))))))
      (pss_cons (ps_set (i := 7) nd rfl (by first | exact Or.inl rfl | exact Or.inr rfl) (pe_op Uv.u_add pe_int (pe_op Uv.u_mod (pe_callTy Uv.cb_int (by rfl) (B.at "int") (by decide +kernel) (pa_cons (pe_ix Uv.u_ix (pv 1) pe_int (fun _ _ => rfl)) pa_nil)) pe_int)))
      (pss_cons (ps_set (i := 8) nd rfl (by first | exact Or.inl rfl | exact Or.inr rfl) (pe_op Uv.u_mod (pe_callTy Uv.cb_int (by rfl) (B.at "int") (by decide +kernel) (pa_cons (pe_ix Uv.u_ix (pv 1) pe_int (fun _ _ => rfl)) pa_nil)) pe_int))
      (pss_cons (ps_set (i := 5) nd rfl (by first | exact Or.inl rfl | exact Or.inr rfl) (pe_op Uv.u_mod (pe_callTy Uv.cb_int (by rfl) (B.at "int") (by decide +kernel) (pa_cons (pe_callB Uv.cb_abs (by rfl) (B.at "abs") (by decide +kernel) (pa_cons (C8.pe_c c__law_cell hr (by decide) rfl (pa_cons (pv 0) (pa_cons pe_int pa_nil))) pa_nil)) pa_nil)) (pe_op Uv.u_pow pe_int pe_int)))
      (pss_cons (ps_set (i := 6) nd rfl (by first | exact Or.inl rfl | exact Or.inr rfl) (pe_op Uv.u_mod (pe_callTy Uv.cb_int (by rfl) (B.at "int") (by decide +kernel) (pa_cons (pe_callB Uv.cb_abs (by rfl) (B.at "abs") (by decide +kernel) (pa_cons (C8.pe_c c__law_cell hr (by decide) rfl (pa_cons (pv 0) (pa_cons pe_int pa_nil))) pa_nil)) pa_nil)) (pe_op Uv.u_pow pe_int pe_int)))
      (pss_cons (ps_set (i := 9) nd rfl (by first | exact Or.inl rfl | exact Or.inr rfl) (pe_op Uv.u_mod (pe_callTy Uv.cb_int (by rfl) (B.at "int") (by decide +kernel) (pa_cons (pe_callB Uv.cb_abs (by rfl) (B.at "abs") (by decide +kernel) (pa_cons (C8.pe_c c__law_cell hr (by decide) rfl (pa_cons (pv 0) (pa_cons pe_int pa_nil))) pa_nil)) pa_nil)) (pe_op Uv.u_pow pe_int pe_int)))
      (C8.pss_cut (ps_if (pt_not (Uv.pt_tr (C8.pe_c c__law_constant hr (by decide) rfl (pa_cons (pv 7) (pa_cons (pv 8) (pa_cons (pv 5) (pa_cons (pv 6) (pa_cons (pv 9) pa_nil)))))) (by intro _; rfl))) (pss_one (ps_ret pe_bl)) pss_nil)
      (C8.pss_cut (ps_if (pt_not (Uv.pt_tr (C8.pe_c c__law_constant hr (by decide) rfl (pa_cons (pv 7) (pa_cons (pv 8) (pa_cons (pe_op Uv.u_mod (pe_callTy Uv.cb_int (by rfl) (B.at "int") (by decide +kernel) (pa_cons (pv 5) pa_nil)) pe_int) (pa_cons (pe_op Uv.u_mod (pe_callTy Uv.cb_int (by rfl) (B.at "int") (by decide +kernel) (pa_cons (pv 6) pa_nil)) pe_int) (pa_cons (pe_op Uv.u_mod (pe_callTy Uv.cb_int (by rfl) (B.at "int") (by decide +kernel) (pa_cons (pv 9) pa_nil)) pe_int) pa_nil)))))) (by intro _; rfl))) (pss_one (ps_ret pe_bl)) pss_nil)
      (pss_cons (ps_set (i := 10) nd rfl (by first | exact Or.inl rfl | exact Or.inr rfl) (pe_op Uv.u_add pe_int (pe_op Uv.u_mod (pe_callTy Uv.cb_int (by rfl) (B.at "int") (by decide +kernel) (pa_cons (pe_callB Uv.cb_abs (by rfl) (B.at "abs") (by decide +kernel) (pa_cons (C8.pe_c c__law_cell hr (by decide) rfl (pa_cons (pv 0) (pa_cons pe_int pa_nil))) pa_nil)) pa_nil)) (pe_op Uv.u_pow pe_int pe_int))))
      (pss_cons (ps_set (i := 11) nd rfl (by first | exact Or.inl rfl | exact Or.inr rfl) (pe_op Uv.u_add (pv 10) (pe_op Uv.u_mul (pe_ix Uv.u_ix (pv 1) pe_int (fun _ _ => rfl)) (pe_ix Uv.u_ix (pv 1) pe_int (fun _ _ => rfl)))))
      (C8.pss_cut (ps_if (PW.pt (pw_or (pt_not (Uv.pt_tr (C8.pe_c c__law_paces hr (by decide) rfl (pa_cons (pv 1) (pa_cons (pv 10) (pa_cons (pv 5) (pa_cons (pv 6) (pa_cons (pv 9) pa_nil)))))) (by intro _; rfl))) (pw_or1 (pt_not (Uv.pt_tr (C8.pe_c c__law_paces hr (by decide) rfl (pa_cons (pv 1) (pa_cons (pv 10) (pa_cons (pe_op Uv.u_mod (pe_callTy Uv.cb_int (by rfl) (B.at "int") (by decide +kernel) (pa_cons (pv 5) pa_nil)) (pv 10)) (pa_cons (pv 11) (pa_cons (pe_op Uv.u_fdv (pv 10) pe_int) pa_nil)))))) (by intro _; rfl)))))) (pss_one (ps_ret pe_bl)) pss_nil)
      (C8.pss_cut (ps_if (pt_not (Uv.pt_tr (C8.pe_c c__law_paces hr (by decide) rfl (pa_cons (pv 1) (pa_cons (pv 10) (pa_cons (pv 11) (pa_cons (pe_op Uv.u_mod (pe_callTy Uv.cb_int (by rfl) (B.at "int") (by decide +kernel) (pa_cons (pv 6) pa_nil)) (pv 10)) (pa_cons (pe_op Uv.u_fdv (pv 10) pe_int) pa_nil)))))) (by intro _; rfl))) (pss_one (ps_ret pe_bl)) pss_nil)
      (pss_one (ps_ret (C8.pe_c c__law_paces hr (by decide) rfl (pa_cons (pv 1) (pa_cons (pe_op Uv.u_add pe_int (pe_op Uv.u_mod (pe_callTy Uv.cb_int (by rfl) (B.at "int") (by decide +kernel) (pa_cons (pv 10) pa_nil)) pe_int)) (pa_cons (pe_op Uv.u_mod (pe_callTy Uv.cb_int (by rfl) (B.at "int") (by decide +kernel) (pa_cons (pv 5) pa_nil)) pe_int) (pa_cons (pe_op Uv.u_mod (pe_callTy Uv.cb_int (by rfl) (B.at "int") (by decide +kernel) (pa_cons (pv 6) pa_nil)) pe_int) (pa_cons (pe_op Uv.u_mod (pe_callTy Uv.cb_int (by rfl) (B.at "int") (by decide +kernel) (pa_cons (pv 9) pa_nil)) pe_int) pa_nil))))))))))))))))))))))), pure_law T vs H Q E h⟩)
  unfold sp_law at h
  (repeat (obtain ⟨_, h⟩ := h)); all_goals (subst_vars; rfl)
end
end K19

namespace K19
open PySem PySem.Spec PyProof.Rows L2 Uv
def d__law_draws : He.DefD := ⟨("_law_draws", none), "_law_draws", "_law_draws", defArgs s__law_draws, defBody s__law_draws, defScope s__law_draws, [], []⟩
def d__law_take : He.DefD := ⟨("_law_take", none), "_law_take", "_law_take", defArgs s__law_take, defBody s__law_take, defScope s__law_take, [], []⟩
def d__law_need : He.DefD := ⟨("_law_need", none), "_law_need", "_law_need", defArgs s__law_need, defBody s__law_need, defScope s__law_need, [], []⟩
def d_greatest_value : He.DefD := ⟨("greatest_value", none), "greatest_value", "greatest_value", defArgs s_greatest_value, defBody s_greatest_value, defScope s_greatest_value, [], []⟩
def d_Need___init__ : He.DefD := ⟨("Need", some "__init__"), "__init__", "Need.__init__", defArgs s_Need___init__, defBody s_Need___init__, defScope s_Need___init__, [], []⟩
def d__law_make : He.DefD := ⟨("_law_make", none), "_law_make", "_law_make", defArgs s__law_make, defBody s__law_make, defScope s__law_make, [], []⟩
def d__law_same : He.DefD := ⟨("_law_same", none), "_law_same", "_law_same", defArgs s__law_same, defBody s__law_same, defScope s__law_same, [], []⟩
def d_value_at : He.DefD := ⟨("value_at", none), "value_at", "value_at", defArgs s_value_at, defBody s_value_at, defScope s_value_at, [], []⟩
def d_low_edge : He.DefD := ⟨("low_edge", none), "low_edge", "low_edge", defArgs s_low_edge, defBody s_low_edge, defScope s_low_edge, [], []⟩
def d_lowest_of : He.DefD := ⟨("lowest_of", none), "lowest_of", "lowest_of", defArgs s_lowest_of, defBody s_lowest_of, defScope s_lowest_of, [], []⟩
def d_Need_lowest : He.DefD := ⟨("Need", some "lowest"), "lowest", "Need.lowest", defArgs s_Need_lowest, defBody s_Need_lowest, defScope s_Need_lowest, [], []⟩
def d__law_down_value : He.DefD := ⟨("_law_down_value", none), "_law_down_value", "_law_down_value", defArgs s__law_down_value, defBody s__law_down_value, defScope s__law_down_value, [], []⟩
def d_high_edge : He.DefD := ⟨("high_edge", none), "high_edge", "high_edge", defArgs s_high_edge, defBody s_high_edge, defScope s_high_edge, [], []⟩
def d_rounds_up : He.DefD := ⟨("rounds_up", none), "rounds_up", "rounds_up", defArgs s_rounds_up, defBody s_rounds_up, defScope s_rounds_up, [], []⟩
def d_Need_rounds_to_exceed : He.DefD := ⟨("Need", some "rounds_to_exceed"), "rounds_to_exceed", "Need.rounds_to_exceed", defArgs s_Need_rounds_to_exceed, defBody s_Need_rounds_to_exceed, defScope s_Need_rounds_to_exceed, [], []⟩
def d__law_up_count : He.DefD := ⟨("_law_up_count", none), "_law_up_count", "_law_up_count", defArgs s__law_up_count, defBody s__law_up_count, defScope s__law_up_count, [], []⟩
def d_highest_of : He.DefD := ⟨("highest_of", none), "highest_of", "highest_of", defArgs s_highest_of, defBody s_highest_of, defScope s_highest_of, [], []⟩
def d_Need_highest : He.DefD := ⟨("Need", some "highest"), "highest", "Need.highest", defArgs s_Need_highest, defBody s_Need_highest, defScope s_Need_highest, [], []⟩
def d__law_up_value : He.DefD := ⟨("_law_up_value", none), "_law_up_value", "_law_up_value", defArgs s__law_up_value, defBody s__law_up_value, defScope s__law_up_value, [], []⟩
def d_rounds_down : He.DefD := ⟨("rounds_down", none), "rounds_down", "rounds_down", defArgs s_rounds_down, defBody s_rounds_down, defScope s_rounds_down, [], []⟩
def d_Need_rounds_to_afford : He.DefD := ⟨("Need", some "rounds_to_afford"), "rounds_to_afford", "Need.rounds_to_afford", defArgs s_Need_rounds_to_afford, defBody s_Need_rounds_to_afford, defScope s_Need_rounds_to_afford, [], []⟩
def d__law_down_count : He.DefD := ⟨("_law_down_count", none), "_law_down_count", "_law_down_count", defArgs s__law_down_count, defBody s__law_down_count, defScope s__law_down_count, [], []⟩
def d__law_paces : He.DefD := ⟨("_law_paces", none), "_law_paces", "_law_paces", defArgs s__law_paces, defBody s__law_paces, defScope s__law_paces, [], []⟩
def d__law_cell : He.DefD := ⟨("_law_cell", none), "_law_cell", "_law_cell", defArgs s__law_cell, defBody s__law_cell, defScope s__law_cell, [], []⟩
def d__law_constant : He.DefD := ⟨("_law_constant", none), "_law_constant", "_law_constant", defArgs s__law_constant, defBody s__law_constant, defScope s__law_constant, [], []⟩
def d__law_value : He.DefD := ⟨("_law_value", none), "_law_value", "_law_value", defArgs s__law_value, defBody s__law_value, defScope s__law_value, [], []⟩
def d__law_values : He.DefD := ⟨("_law_values", none), "_law_values", "_law_values", defArgs s__law_values, defBody s__law_values, defScope s__law_values, [], []⟩
def d__law_stuck : He.DefD := ⟨("_law_stuck", none), "_law_stuck", "_law_stuck", defArgs s__law_stuck, defBody s__law_stuck, defScope s__law_stuck, [], []⟩
def d__law_count_right : He.DefD := ⟨("_law_count_right", none), "_law_count_right", "_law_count_right", defArgs s__law_count_right, defBody s__law_count_right, defScope s__law_count_right, [], []⟩
def d__law_small : He.DefD := ⟨("_law_small", none), "_law_small", "_law_small", defArgs s__law_small, defBody s__law_small, defScope s__law_small, [], []⟩
def d__law_at_most : He.DefD := ⟨("_law_at_most", none), "_law_at_most", "_law_at_most", defArgs s__law_at_most, defBody s__law_at_most, defScope s__law_at_most, [], []⟩
def d__law_extremes : He.DefD := ⟨("_law_extremes", none), "_law_extremes", "_law_extremes", defArgs s__law_extremes, defBody s__law_extremes, defScope s__law_extremes, [], []⟩
def d_law : He.DefD := ⟨("law", none), "law", "law", defArgs s_law, defBody s_law, defScope s_law, [], []⟩
def fn : List He.DefD := [d__law_draws, d__law_take, d__law_need, d_greatest_value, d_Need___init__, d__law_make, d__law_same, d_value_at, d_low_edge, d_lowest_of, d_Need_lowest, d__law_down_value, d_high_edge, d_rounds_up, d_Need_rounds_to_exceed, d__law_up_count, d_highest_of, d_Need_highest, d__law_up_value, d_rounds_down, d_Need_rounds_to_afford, d__law_down_count, d__law_paces, d__law_cell, d__law_constant, d__law_value, d__law_values, d__law_stuck, d__law_count_right, d__law_small] ++ [d__law_at_most, d__law_extremes, d_law]
def fa : List He.Fa := [.free "len", .free "int", .free "abs", .free "min", .free "max", .free "sum", .free "range", .free "tuple", .free "list", .free "isinstance", .free "str", .free "sorted", .free "enumerate", .free "zip", .free "any", .free "all", .free "bool", .free "dict", .free "reversed", .free "iter", .free "ValueError", .glo "_law_draws", .glo "_law_take", .glo "_law_need", .glo "greatest_value", .glo "_law_make", .glo "_law_same", .glo "value_at", .glo "low_edge", .glo "lowest_of"] ++ [.glo "_law_down_value", .glo "high_edge", .glo "rounds_up", .glo "_law_up_count", .glo "highest_of", .glo "_law_up_value", .glo "rounds_down", .glo "_law_down_count", .glo "_law_paces", .glo "_law_cell", .glo "_law_constant", .glo "_law_value", .glo "_law_values", .glo "_law_stuck", .glo "_law_count_right", .glo "_law_small", .glo "_law_at_most", .glo "_law_extremes", .glo "law", .glo "Need", .cls "Need", .noat "Need" "start", .noat "Need" "rises", .noat "Need" "never", .mkr "Need", .meth "Need" "lowest", .meth "Need" "rounds_to_exceed", .meth "Need" "highest", .meth "Need" "rounds_to_afford"]
def loose0 : List Str := ["_wall", "__name__", "HouseError", "BadAmount", "BadCount", "BadNeed", "value_at", "joined", "marks_of", "track", "rising_part", "combined", "composed", "low_edge", "high_edge", "lowest_of", "highest_of", "rounds_down", "rounds_up", "MOST_TIMES", "greatest_value", "Need", "_law_cell", "_law_draws", "_law_take", "_law_need", "_law_value", "_law_same", "_law_at_most", "_law_make"]
def loose1 : List Str := ["_law_values", "_law_count_right", "_law_stuck", "_law_small", "_law_extremes", "_law_constant", "_law_up_count", "_law_up_value", "_law_down_count", "_law_down_value", "_law_paces"]
def loose : List Str := loose0 ++ loose1
abbrev R : PySem.W.OpenRow := PySem.W.OpenLaw.row PySem.Challenge.rw_signedpacts_k19_need_round_counts
abbrev hk : PySem.W.Hook := He.hookD 4 fa fn
def ob (s : PySem.W.SharedT) : He.AlD := He.obsDG 4 fa fn (HandSHeadRun.getT s)
theorem ob_eq (s : PySem.W.SharedT) : ob s = hk.obs s.abs := He.obsDG_eq (HandSHeadRun.getT_eq s)
theorem run (w : World) : HandSHeadRun.RunEq R (PySem.W.view R.prog [44]) hk ob 6000 loose w := by
  intro os
  kernel_rfl
abbrev zd (K : PySem.W.Frag) : Ad := ⟨He.ga K "Need"⟩
theorem facts {P : Program} {w : World} {K : PySem.W.Frag} {h : Heap} {mg : Str → Option Value} {f : Addr} (X : K.In h) (G : h.Ns mainGlobals mg) (hfa : mg ("law" : Str) = some (.ref f)) (c : He.SaysD fa fn K) :
    ∃ fd : FuncData, (∀ (s : Shared) (v : Value), BindsTo s fd ⟨[v], []⟩ [("_law_script", v)]) ∧ ∀ base : Heap, K.In base → base.Ns mainGlobals mg → FnOk P w K mg base CX0 5 f fd ["_law_script"] (sp_law K (zd K)) := by
  have B : Blt mg := ⟨List.forall_mem_cons.mpr ⟨He.free_ok X G (c.fact 0 (f := .free "len") rfl), List.forall_mem_cons.mpr ⟨He.free_ok X G (c.fact 1 (f := .free "int") rfl), List.forall_mem_cons.mpr ⟨He.free_ok X G (c.fact 2 (f := .free "abs") rfl), List.forall_mem_cons.mpr ⟨He.free_ok X G (c.fact 3 (f := .free "min") rfl), List.forall_mem_cons.mpr ⟨He.free_ok X G (c.fact 4 (f := .free "max") rfl), List.forall_mem_cons.mpr ⟨He.free_ok X G (c.fact 5 (f := .free "sum") rfl), List.forall_mem_cons.mpr ⟨He.free_ok X G (c.fact 6 (f := .free "range") rfl), List.forall_mem_cons.mpr ⟨He.free_ok X G (c.fact 7 (f := .free "tuple") rfl), List.forall_mem_cons.mpr ⟨He.free_ok X G (c.fact 8 (f := .free "list") rfl), List.forall_mem_cons.mpr ⟨He.free_ok X G (c.fact 9 (f := .free "isinstance") rfl), List.forall_mem_cons.mpr ⟨He.free_ok X G (c.fact 10 (f := .free "str") rfl), List.forall_mem_cons.mpr ⟨He.free_ok X G (c.fact 11 (f := .free "sorted") rfl), List.forall_mem_cons.mpr ⟨He.free_ok X G (c.fact 12 (f := .free "enumerate") rfl), List.forall_mem_cons.mpr ⟨He.free_ok X G (c.fact 13 (f := .free "zip") rfl), List.forall_mem_cons.mpr ⟨He.free_ok X G (c.fact 14 (f := .free "any") rfl), List.forall_mem_cons.mpr ⟨He.free_ok X G (c.fact 15 (f := .free "all") rfl), List.forall_mem_cons.mpr ⟨He.free_ok X G (c.fact 16 (f := .free "bool") rfl), List.forall_mem_cons.mpr ⟨He.free_ok X G (c.fact 17 (f := .free "dict") rfl), List.forall_mem_cons.mpr ⟨He.free_ok X G (c.fact 18 (f := .free "reversed") rfl), List.forall_mem_cons.mpr ⟨He.free_ok X G (c.fact 19 (f := .free "iter") rfl), List.forall_mem_cons.mpr ⟨He.free_ok X G (c.fact 20 (f := .free "ValueError") rfl), fun _ h => nomatch h⟩⟩⟩⟩⟩⟩⟩⟩⟩⟩⟩⟩⟩⟩⟩⟩⟩⟩⟩⟩⟩⟩
  have T : TK K (zd K) := ⟨He.cls_ok (c.fact 50 (f := .cls "Need") rfl), He.noat_ok (c.fact 51 (f := .noat "Need" "start") rfl), He.noat_ok (c.fact 52 (f := .noat "Need" "rises") rfl), He.noat_ok (c.fact 53 (f := .noat "Need" "never") rfl)⟩
  obtain ⟨fd__law_draws, F__law_draws⟩ := c.def_ 0 (d := d__law_draws) rfl
  obtain ⟨fd__law_take, F__law_take⟩ := c.def_ 1 (d := d__law_take) rfl
  obtain ⟨fd__law_need, F__law_need⟩ := c.def_ 2 (d := d__law_need) rfl
  obtain ⟨fd_greatest_value, F_greatest_value⟩ := c.def_ 3 (d := d_greatest_value) rfl
  obtain ⟨fd_Need___init__, F_Need___init__⟩ := c.def_ 4 (d := d_Need___init__) rfl
  obtain ⟨fd__law_make, F__law_make⟩ := c.def_ 5 (d := d__law_make) rfl
  obtain ⟨fd__law_same, F__law_same⟩ := c.def_ 6 (d := d__law_same) rfl
  obtain ⟨fd_value_at, F_value_at⟩ := c.def_ 7 (d := d_value_at) rfl
  obtain ⟨fd_low_edge, F_low_edge⟩ := c.def_ 8 (d := d_low_edge) rfl
  obtain ⟨fd_lowest_of, F_lowest_of⟩ := c.def_ 9 (d := d_lowest_of) rfl
  obtain ⟨fd_Need_lowest, F_Need_lowest⟩ := c.def_ 10 (d := d_Need_lowest) rfl
  obtain ⟨fd__law_down_value, F__law_down_value⟩ := c.def_ 11 (d := d__law_down_value) rfl
  obtain ⟨fd_high_edge, F_high_edge⟩ := c.def_ 12 (d := d_high_edge) rfl
  obtain ⟨fd_rounds_up, F_rounds_up⟩ := c.def_ 13 (d := d_rounds_up) rfl
  obtain ⟨fd_Need_rounds_to_exceed, F_Need_rounds_to_exceed⟩ := c.def_ 14 (d := d_Need_rounds_to_exceed) rfl
  obtain ⟨fd__law_up_count, F__law_up_count⟩ := c.def_ 15 (d := d__law_up_count) rfl
  obtain ⟨fd_highest_of, F_highest_of⟩ := c.def_ 16 (d := d_highest_of) rfl
  obtain ⟨fd_Need_highest, F_Need_highest⟩ := c.def_ 17 (d := d_Need_highest) rfl
  obtain ⟨fd__law_up_value, F__law_up_value⟩ := c.def_ 18 (d := d__law_up_value) rfl
  obtain ⟨fd_rounds_down, F_rounds_down⟩ := c.def_ 19 (d := d_rounds_down) rfl
  obtain ⟨fd_Need_rounds_to_afford, F_Need_rounds_to_afford⟩ := c.def_ 20 (d := d_Need_rounds_to_afford) rfl
  obtain ⟨fd__law_down_count, F__law_down_count⟩ := c.def_ 21 (d := d__law_down_count) rfl
  obtain ⟨fd__law_paces, F__law_paces⟩ := c.def_ 22 (d := d__law_paces) rfl
  obtain ⟨fd__law_cell, F__law_cell⟩ := c.def_ 23 (d := d__law_cell) rfl
  obtain ⟨fd__law_constant, F__law_constant⟩ := c.def_ 24 (d := d__law_constant) rfl
  obtain ⟨fd__law_value, F__law_value⟩ := c.def_ 25 (d := d__law_value) rfl
  obtain ⟨fd__law_values, F__law_values⟩ := c.def_ 26 (d := d__law_values) rfl
  obtain ⟨fd__law_stuck, F__law_stuck⟩ := c.def_ 27 (d := d__law_stuck) rfl
  obtain ⟨fd__law_count_right, F__law_count_right⟩ := c.def_ 28 (d := d__law_count_right) rfl
  obtain ⟨fd__law_small, F__law_small⟩ := c.def_ 29 (d := d__law_small) rfl
  obtain ⟨fd__law_at_most, F__law_at_most⟩ := c.def_ 30 (d := d__law_at_most) rfl
  obtain ⟨fd__law_extremes, F__law_extremes⟩ := c.def_ 31 (d := d__law_extremes) rfl
  obtain ⟨fd_law, F_law⟩ := c.def_ 32 (d := d_law) rfl
  have e := hfa.symm.trans (He.glo_ok X G (c.fact 48 (f := .glo "law") rfl))
  cases e
  have bl := FunD.bindsA (ps := ["_law_script"]) F_law fun _ _ _ _ _ _ us hl => match us, hl with | [_], _ => rfl
  refine ⟨fd_law, fun s v => bl s [v] rfl, fun base _ _ => ?_⟩
  have ok__law_draws_ := ok__law_draws (P := P) (w := w) (mg := mg) (base := base) T B  F__law_draws
  have b__law_draws : Binds K fd__law_draws ["_law_cell_here", "_law_many"] [] := F__law_draws.bindsN fun _ _ _ _ _ _ us hl => match us, hl with | [_, _], _ => rfl
  have c__law_draws : C8.Cal P w K mg base 1 "_law_draws" (sp__law_draws K (zd K)) [] := ⟨_, _, _, _, ok__law_draws_, He.glo_ok X G (c.fact 21 (f := .glo "_law_draws") rfl), F__law_draws.kp, b__law_draws, .nil⟩
  have ok__law_take_ := ok__law_take (P := P) (w := w) (mg := mg) (base := base) T B  F__law_take
  have b__law_take : Binds K fd__law_take ["_law_draws_here", "_law_place"] [] := F__law_take.bindsN fun _ _ _ _ _ _ us hl => match us, hl with | [_, _], _ => rfl
  have c__law_take : C8.Cal P w K mg base 1 "_law_take" (sp__law_take K (zd K)) [] := ⟨_, _, _, _, ok__law_take_, He.glo_ok X G (c.fact 22 (f := .glo "_law_take") rfl), F__law_take.kp, b__law_take, .nil⟩
  have ok__law_need_ := ok__law_need (P := P) (w := w) (mg := mg) (base := base) T B c__law_take F__law_need
  have b__law_need : Binds K fd__law_need ["_law_draws_here", "_law_place"] [] := F__law_need.bindsN fun _ _ _ _ _ _ us hl => match us, hl with | [_, _], _ => rfl
  have c__law_need : C8.Cal P w K mg base 2 "_law_need" (sp__law_need K (zd K)) [] := ⟨_, _, _, _, ok__law_need_, He.glo_ok X G (c.fact 23 (f := .glo "_law_need") rfl), F__law_need.kp, b__law_need, .nil⟩
  have ok_greatest_value_ := ok_greatest_value (P := P) (w := w) (mg := mg) (base := base) T B  F_greatest_value
  have b_greatest_value : Binds K fd_greatest_value ["start", "rises"] [] := F_greatest_value.bindsN fun _ _ _ _ _ _ us hl => match us, hl with | [_, _], _ => rfl
  have c_greatest_value : C8.Cal P w K mg base 1 "greatest_value" (sp_greatest_value K (zd K)) [] := ⟨_, _, _, _, ok_greatest_value_, He.glo_ok X G (c.fact 24 (f := .glo "greatest_value") rfl), F_greatest_value.kp, b_greatest_value, .nil⟩
  have ok_Need___init___ := ok_Need___init__ (P := P) (w := w) (mg := mg) (base := base) T B c_greatest_value F_Need___init__
  have b_Need___init__ : Binds K fd_Need___init__ ["self", "start", "rises", "never"] [] := F_Need___init__.bindsN fun _ _ _ _ _ _ us hl => match us, hl with | [_, _, _, _], _ => rfl
  have m_Need : C8.Mak P w K mg base 2 "Need" (He.ga K "Need") (sp_Need_init K (zd K)) [] := ⟨_, _, _, _, He.mkr_ok (c.fact 54 (f := .mkr "Need") rfl), ok_Need___init___, He.glo_ok X G (c.fact 49 (f := .glo "Need") rfl), b_Need___init__, .nil⟩
  have ok__law_make_ := ok__law_make (P := P) (w := w) (mg := mg) (base := base) T B m_Need F__law_make
  have b__law_make : Binds K fd__law_make ["_law_need_here"] [] := F__law_make.bindsN fun _ _ _ _ _ _ us hl => match us, hl with | [_], _ => rfl
  have c__law_make : C8.Cal P w K mg base 4 "_law_make" (sp__law_make K (zd K)) [] := ⟨_, _, _, _, ok__law_make_, He.glo_ok X G (c.fact 25 (f := .glo "_law_make") rfl), F__law_make.kp, b__law_make, .nil⟩
  have ok__law_same_ := ok__law_same (P := P) (w := w) (mg := mg) (base := base) T B  F__law_same
  have b__law_same : Binds K fd__law_same ["_law_told", "_law_due"] [] := F__law_same.bindsN fun _ _ _ _ _ _ us hl => match us, hl with | [_, _], _ => rfl
  have c__law_same : C8.Cal P w K mg base 1 "_law_same" (sp__law_same K (zd K)) [] := ⟨_, _, _, _, ok__law_same_, He.glo_ok X G (c.fact 26 (f := .glo "_law_same") rfl), F__law_same.kp, b__law_same, .nil⟩
  have ok_value_at_ := ok_value_at (P := P) (w := w) (mg := mg) (base := base) T B  F_value_at
  have b_value_at : Binds K fd_value_at ["start", "rises", "k"] [] := F_value_at.bindsN fun _ _ _ _ _ _ us hl => match us, hl with | [_, _, _], _ => rfl
  have c_value_at : C8.Cal P w K mg base 1 "value_at" (sp_value_at K (zd K)) [] := ⟨_, _, _, _, ok_value_at_, He.glo_ok X G (c.fact 27 (f := .glo "value_at") rfl), F_value_at.kp, b_value_at, .nil⟩
  have ok_low_edge_ := ok_low_edge (P := P) (w := w) (mg := mg) (base := base) T B  F_low_edge
  have b_low_edge : Binds K fd_low_edge ["rises", "k"] [] := F_low_edge.bindsN fun _ _ _ _ _ _ us hl => match us, hl with | [_, _], _ => rfl
  have c_low_edge : C8.Cal P w K mg base 1 "low_edge" (sp_low_edge K (zd K)) [] := ⟨_, _, _, _, ok_low_edge_, He.glo_ok X G (c.fact 28 (f := .glo "low_edge") rfl), F_low_edge.kp, b_low_edge, .nil⟩
  have ok_lowest_of_ := ok_lowest_of (P := P) (w := w) (mg := mg) (base := base) T B c_value_at c_low_edge F_lowest_of
  have b_lowest_of : Binds K fd_lowest_of ["need", "k", "limit"] [] := F_lowest_of.bindsN fun _ _ _ _ _ _ us hl => match us, hl with | [_, _, _], _ => rfl
  have c_lowest_of : C8.Cal P w K mg base 2 "lowest_of" (sp_lowest_of K (zd K)) [] := ⟨_, _, _, _, ok_lowest_of_, He.glo_ok X G (c.fact 29 (f := .glo "lowest_of") rfl), F_lowest_of.kp, b_lowest_of, .nil⟩
  have ok_Need_lowest_ := ok_Need_lowest (P := P) (w := w) (mg := mg) (base := base) T B c_lowest_of F_Need_lowest
  have b_Need_lowest : Binds K fd_Need_lowest ["self", "needed", "limit"] [] := F_Need_lowest.bindsN fun _ _ _ _ _ _ us hl => match us, hl with | [_, _, _], _ => rfl
  have t_Need_lowest : C8.Met P w K mg base 3 (He.ga K "Need") "lowest" (sp_Need_lowest K (zd K)) [] := ⟨_, _, _, _, He.cls_ok (c.fact 50 (f := .cls "Need") rfl), He.meth_ok (c.fact 55 (f := .meth "Need" "lowest") rfl), ok_Need_lowest_, b_Need_lowest, .nil⟩
  have ok__law_down_value_ := ok__law_down_value (P := P) (w := w) (mg := mg) (base := base) T B  F__law_down_value
  have b__law_down_value : Binds K fd__law_down_value ["_law_base", "_law_pace", "_law_flat", "_law_edge", "_law_needed", "_law_limit"] [] := F__law_down_value.bindsN fun _ _ _ _ _ _ us hl => match us, hl with | [_, _, _, _, _, _], _ => rfl
  have c__law_down_value : C8.Cal P w K mg base 1 "_law_down_value" (sp__law_down_value K (zd K)) [] := ⟨_, _, _, _, ok__law_down_value_, He.glo_ok X G (c.fact 30 (f := .glo "_law_down_value") rfl), F__law_down_value.kp, b__law_down_value, .nil⟩
  have ok_high_edge_ := ok_high_edge (P := P) (w := w) (mg := mg) (base := base) T B  F_high_edge
  have b_high_edge : Binds K fd_high_edge ["rises", "k"] [] := F_high_edge.bindsN fun _ _ _ _ _ _ us hl => match us, hl with | [_, _], _ => rfl
  have c_high_edge : C8.Cal P w K mg base 1 "high_edge" (sp_high_edge K (zd K)) [] := ⟨_, _, _, _, ok_high_edge_, He.glo_ok X G (c.fact 31 (f := .glo "high_edge") rfl), F_high_edge.kp, b_high_edge, .nil⟩
  have ok_rounds_up_ := ok_rounds_up (P := P) (w := w) (mg := mg) (base := base) T B c_high_edge c_value_at F_rounds_up
  have b_rounds_up : Binds K fd_rounds_up ["need", "k", "purse"] [] := F_rounds_up.bindsN fun _ _ _ _ _ _ us hl => match us, hl with | [_, _, _], _ => rfl
  have c_rounds_up : C8.Cal P w K mg base 2 "rounds_up" (sp_rounds_up K (zd K)) [] := ⟨_, _, _, _, ok_rounds_up_, He.glo_ok X G (c.fact 32 (f := .glo "rounds_up") rfl), F_rounds_up.kp, b_rounds_up, .nil⟩
  have ok_Need_rounds_to_exceed_ := ok_Need_rounds_to_exceed (P := P) (w := w) (mg := mg) (base := base) T B c_rounds_up F_Need_rounds_to_exceed
  have b_Need_rounds_to_exceed : Binds K fd_Need_rounds_to_exceed ["self", "needed", "purse"] [] := F_Need_rounds_to_exceed.bindsN fun _ _ _ _ _ _ us hl => match us, hl with | [_, _, _], _ => rfl
  have t_Need_rounds_to_exceed : C8.Met P w K mg base 3 (He.ga K "Need") "rounds_to_exceed" (sp_Need_rounds_to_exceed K (zd K)) [] := ⟨_, _, _, _, He.cls_ok (c.fact 50 (f := .cls "Need") rfl), He.meth_ok (c.fact 56 (f := .meth "Need" "rounds_to_exceed") rfl), ok_Need_rounds_to_exceed_, b_Need_rounds_to_exceed, .nil⟩
  have ok__law_up_count_ := ok__law_up_count (P := P) (w := w) (mg := mg) (base := base) T B  F__law_up_count
  have b__law_up_count : Binds K fd__law_up_count ["_law_pace", "_law_flat", "_law_edge", "_law_needed", "_law_purse"] [] := F__law_up_count.bindsN fun _ _ _ _ _ _ us hl => match us, hl with | [_, _, _, _, _], _ => rfl
  have c__law_up_count : C8.Cal P w K mg base 1 "_law_up_count" (sp__law_up_count K (zd K)) [] := ⟨_, _, _, _, ok__law_up_count_, He.glo_ok X G (c.fact 33 (f := .glo "_law_up_count") rfl), F__law_up_count.kp, b__law_up_count, .nil⟩
  have ok_highest_of_ := ok_highest_of (P := P) (w := w) (mg := mg) (base := base) T B c_high_edge c_value_at F_highest_of
  have b_highest_of : Binds K fd_highest_of ["need", "k", "limit"] [] := F_highest_of.bindsN fun _ _ _ _ _ _ us hl => match us, hl with | [_, _, _], _ => rfl
  have c_highest_of : C8.Cal P w K mg base 2 "highest_of" (sp_highest_of K (zd K)) [] := ⟨_, _, _, _, ok_highest_of_, He.glo_ok X G (c.fact 34 (f := .glo "highest_of") rfl), F_highest_of.kp, b_highest_of, .nil⟩
  have ok_Need_highest_ := ok_Need_highest (P := P) (w := w) (mg := mg) (base := base) T B c_highest_of F_Need_highest
  have b_Need_highest : Binds K fd_Need_highest ["self", "needed", "limit"] [] := F_Need_highest.bindsN fun _ _ _ _ _ _ us hl => match us, hl with | [_, _, _], _ => rfl
  have t_Need_highest : C8.Met P w K mg base 3 (He.ga K "Need") "highest" (sp_Need_highest K (zd K)) [] := ⟨_, _, _, _, He.cls_ok (c.fact 50 (f := .cls "Need") rfl), He.meth_ok (c.fact 57 (f := .meth "Need" "highest") rfl), ok_Need_highest_, b_Need_highest, .nil⟩
  have ok__law_up_value_ := ok__law_up_value (P := P) (w := w) (mg := mg) (base := base) T B  F__law_up_value
  have b__law_up_value : Binds K fd__law_up_value ["_law_pace", "_law_flat", "_law_edge", "_law_needed", "_law_limit"] [] := F__law_up_value.bindsN fun _ _ _ _ _ _ us hl => match us, hl with | [_, _, _, _, _], _ => rfl
  have c__law_up_value : C8.Cal P w K mg base 1 "_law_up_value" (sp__law_up_value K (zd K)) [] := ⟨_, _, _, _, ok__law_up_value_, He.glo_ok X G (c.fact 35 (f := .glo "_law_up_value") rfl), F__law_up_value.kp, b__law_up_value, .nil⟩
  have ok_rounds_down_ := ok_rounds_down (P := P) (w := w) (mg := mg) (base := base) T B c_value_at c_low_edge F_rounds_down
  have b_rounds_down : Binds K fd_rounds_down ["need", "k", "purse"] [] := F_rounds_down.bindsN fun _ _ _ _ _ _ us hl => match us, hl with | [_, _, _], _ => rfl
  have c_rounds_down : C8.Cal P w K mg base 2 "rounds_down" (sp_rounds_down K (zd K)) [] := ⟨_, _, _, _, ok_rounds_down_, He.glo_ok X G (c.fact 36 (f := .glo "rounds_down") rfl), F_rounds_down.kp, b_rounds_down, .nil⟩
  have ok_Need_rounds_to_afford_ := ok_Need_rounds_to_afford (P := P) (w := w) (mg := mg) (base := base) T B c_rounds_down F_Need_rounds_to_afford
  have b_Need_rounds_to_afford : Binds K fd_Need_rounds_to_afford ["self", "needed", "purse"] [] := F_Need_rounds_to_afford.bindsN fun _ _ _ _ _ _ us hl => match us, hl with | [_, _, _], _ => rfl
  have t_Need_rounds_to_afford : C8.Met P w K mg base 3 (He.ga K "Need") "rounds_to_afford" (sp_Need_rounds_to_afford K (zd K)) [] := ⟨_, _, _, _, He.cls_ok (c.fact 50 (f := .cls "Need") rfl), He.meth_ok (c.fact 58 (f := .meth "Need" "rounds_to_afford") rfl), ok_Need_rounds_to_afford_, b_Need_rounds_to_afford, .nil⟩
  have ok__law_down_count_ := ok__law_down_count (P := P) (w := w) (mg := mg) (base := base) T B  F__law_down_count
  have b__law_down_count : Binds K fd__law_down_count ["_law_base", "_law_pace", "_law_flat", "_law_edge", "_law_needed", "_law_purse"] [] := F__law_down_count.bindsN fun _ _ _ _ _ _ us hl => match us, hl with | [_, _, _, _, _, _], _ => rfl
  have c__law_down_count : C8.Cal P w K mg base 1 "_law_down_count" (sp__law_down_count K (zd K)) [] := ⟨_, _, _, _, ok__law_down_count_, He.glo_ok X G (c.fact 37 (f := .glo "_law_down_count") rfl), F__law_down_count.kp, b__law_down_count, .nil⟩
  have ok__law_paces_ := ok__law_paces (P := P) (w := w) (mg := mg) (base := base) T B m_Need c__law_same t_Need_lowest c__law_down_value t_Need_rounds_to_exceed c__law_up_count t_Need_highest c__law_up_value t_Need_rounds_to_afford c__law_down_count F__law_paces
  have b__law_paces : Binds K fd__law_paces ["_law_draws_here", "_law_bend", "_law_needed", "_law_purse", "_law_limit"] [] := F__law_paces.bindsN fun _ _ _ _ _ _ us hl => match us, hl with | [_, _, _, _, _], _ => rfl
  have c__law_paces : C8.Cal P w K mg base 4 "_law_paces" (sp__law_paces K (zd K)) [] := ⟨_, _, _, _, ok__law_paces_, He.glo_ok X G (c.fact 38 (f := .glo "_law_paces") rfl), F__law_paces.kp, b__law_paces, .nil⟩
  have ok__law_cell_ := ok__law_cell (P := P) (w := w) (mg := mg) (base := base) T B  F__law_cell
  have b__law_cell : Binds K fd__law_cell ["_law_script", "_law_k"] [] := F__law_cell.bindsN fun _ _ _ _ _ _ us hl => match us, hl with | [_, _], _ => rfl
  have c__law_cell : C8.Cal P w K mg base 1 "_law_cell" (sp__law_cell K (zd K)) [] := ⟨_, _, _, _, ok__law_cell_, He.glo_ok X G (c.fact 39 (f := .glo "_law_cell") rfl), F__law_cell.kp, b__law_cell, .nil⟩
  have ok__law_constant_ := ok__law_constant (P := P) (w := w) (mg := mg) (base := base) T B m_Need c__law_same t_Need_lowest t_Need_rounds_to_exceed t_Need_rounds_to_afford t_Need_highest F__law_constant
  have b__law_constant : Binds K fd__law_constant ["_law_step", "_law_edge", "_law_needed", "_law_purse", "_law_limit"] [] := F__law_constant.bindsN fun _ _ _ _ _ _ us hl => match us, hl with | [_, _, _, _, _], _ => rfl
  have c__law_constant : C8.Cal P w K mg base 4 "_law_constant" (sp__law_constant K (zd K)) [] := ⟨_, _, _, _, ok__law_constant_, He.glo_ok X G (c.fact 40 (f := .glo "_law_constant") rfl), F__law_constant.kp, b__law_constant, .nil⟩
  have ok__law_value_ := ok__law_value (P := P) (w := w) (mg := mg) (base := base) T B  F__law_value
  have b__law_value : Binds K fd__law_value ["_law_need_here", "_law_k"] [] := F__law_value.bindsN fun _ _ _ _ _ _ us hl => match us, hl with | [_, _], _ => rfl
  have c__law_value : C8.Cal P w K mg base 1 "_law_value" (sp__law_value K (zd K)) [] := ⟨_, _, _, _, ok__law_value_, He.glo_ok X G (c.fact 41 (f := .glo "_law_value") rfl), F__law_value.kp, b__law_value, .nil⟩
  have ok__law_values_ := ok__law_values (P := P) (w := w) (mg := mg) (base := base) T B c__law_value F__law_values
  have b__law_values : Binds K fd__law_values ["_law_need_here", "_law_k", "_law_many"] [] := F__law_values.bindsN fun _ _ _ _ _ _ us hl => match us, hl with | [_, _, _], _ => rfl
  have c__law_values : C8.Cal P w K mg base 2 "_law_values" (sp__law_values K (zd K)) [] := ⟨_, _, _, _, ok__law_values_, He.glo_ok X G (c.fact 42 (f := .glo "_law_values") rfl), F__law_values.kp, b__law_values, .nil⟩
  have ok__law_stuck_ := ok__law_stuck (P := P) (w := w) (mg := mg) (base := base) T B  F__law_stuck
  have b__law_stuck : Binds K fd__law_stuck ["_law_values_here", "_law_purse", "_law_above"] [] := F__law_stuck.bindsN fun _ _ _ _ _ _ us hl => match us, hl with | [_, _, _], _ => rfl
  have c__law_stuck : C8.Cal P w K mg base 1 "_law_stuck" (sp__law_stuck K (zd K)) [] := ⟨_, _, _, _, ok__law_stuck_, He.glo_ok X G (c.fact 43 (f := .glo "_law_stuck") rfl), F__law_stuck.kp, b__law_stuck, .nil⟩
  have ok__law_count_right_ := ok__law_count_right (P := P) (w := w) (mg := mg) (base := base) T B c__law_same F__law_count_right
  have b__law_count_right : Binds K fd__law_count_right ["_law_told", "_law_values_here", "_law_purse", "_law_above"] [] := F__law_count_right.bindsN fun _ _ _ _ _ _ us hl => match us, hl with | [_, _, _, _], _ => rfl
  have c__law_count_right : C8.Cal P w K mg base 2 "_law_count_right" (sp__law_count_right K (zd K)) [] := ⟨_, _, _, _, ok__law_count_right_, He.glo_ok X G (c.fact 44 (f := .glo "_law_count_right") rfl), F__law_count_right.kp, b__law_count_right, .nil⟩
  have ok__law_small_ := ok__law_small (P := P) (w := w) (mg := mg) (base := base) T B c__law_values t_Need_rounds_to_afford t_Need_rounds_to_exceed c__law_stuck c__law_count_right F__law_small
  have b__law_small : Binds K fd__law_small ["_law_f", "_law_need_here", "_law_k", "_law_purse"] [] := F__law_small.bindsN fun _ _ _ _ _ _ us hl => match us, hl with | [_, _, _, _], _ => rfl
  have c__law_small : C8.Cal P w K mg base 4 "_law_small" (sp__law_small K (zd K)) [] := ⟨_, _, _, _, ok__law_small_, He.glo_ok X G (c.fact 45 (f := .glo "_law_small") rfl), F__law_small.kp, b__law_small, .nil⟩
  have ok__law_at_most_ := ok__law_at_most (P := P) (w := w) (mg := mg) (base := base) T B  F__law_at_most
  have b__law_at_most : Binds K fd__law_at_most ["_law_a", "_law_b"] [] := F__law_at_most.bindsN fun _ _ _ _ _ _ us hl => match us, hl with | [_, _], _ => rfl
  have c__law_at_most : C8.Cal P w K mg base 1 "_law_at_most" (sp__law_at_most K (zd K)) [] := ⟨_, _, _, _, ok__law_at_most_, He.glo_ok X G (c.fact 46 (f := .glo "_law_at_most") rfl), F__law_at_most.kp, b__law_at_most, .nil⟩
  have ok__law_extremes_ := ok__law_extremes (P := P) (w := w) (mg := mg) (base := base) T B c__law_values c__law_at_most c__law_same t_Need_lowest t_Need_highest F__law_extremes
  have b__law_extremes : Binds K fd__law_extremes ["_law_f", "_law_need_here", "_law_k", "_law_limit"] [] := F__law_extremes.bindsN fun _ _ _ _ _ _ us hl => match us, hl with | [_, _, _, _], _ => rfl
  have c__law_extremes : C8.Cal P w K mg base 4 "_law_extremes" (sp__law_extremes K (zd K)) [] := ⟨_, _, _, _, ok__law_extremes_, He.glo_ok X G (c.fact 47 (f := .glo "_law_extremes") rfl), F__law_extremes.kp, b__law_extremes, .nil⟩
  have ok_law_ := ok_law (P := P) (w := w) (mg := mg) (base := base) T B c__law_draws c__law_need c__law_make c__law_paces c__law_cell c__law_constant c__law_small c__law_extremes F_law
  exact ok_law_
end K19
open PySem PySem.W PySem.Calls PyProof.Rows
theorem PySem.Challenge.cw_signedpacts_k19_need_round_counts_holds : PySem.Challenge.rw_signedpacts_k19_need_round_counts.Holds := by
  w_on; o_law
  refine HandSHeadRun.head_any (r := OpenLaw.row PySem.Challenge.rw_signedpacts_k19_need_round_counts) (q := view (OpenLaw.row PySem.Challenge.rw_signedpacts_k19_need_round_counts).prog [44]) (H := K19.hk) (ob := K19.ob) (M := 6000) (loose := K19.loose) (d := HandSHeadRun.topDef (OpenLaw.row PySem.Challenge.rw_signedpacts_k19_need_round_counts).prog 44) (kwd := []) K19.ob_eq
    (by kernel_rfl) (fun s => by kernel_rfl) K19.run (by kernel_rfl) (by kernel_rfl) (by kernel_rfl) (by rfl) (by first | assumption | decide +kernel) (by decide +kernel) ⟨rfl, rfl, rfl, rfl, rfl, by decide +kernel⟩ ?hw ?hc
  case hw => w_witness2
  case hc =>
    refine L2.walk_ofE (l := PySem.Challenge.rw_signedpacts_k19_need_round_counts) (n := 63) (k := 5) (x := "_law_script") (CX := L2.CX0) rfl (by decide) (by kernel_rfl) ⟨rfl, by decide, by decide⟩ ?F (fun _ _ _ _ z => z)
    intro w mg fa h Y G hmg0
    obtain ⟨K, KX, c⟩ := Y
    have hmg : mg ("law" : PySem.Str) = some (.ref fa) := by
      have e : (HandSHeadRun.topDef (OpenLaw.row PySem.Challenge.rw_signedpacts_k19_need_round_counts).prog 44).name = ("law" : PySem.Str) := by kernel_rfl
      rw [← e]
      exact hmg0
    obtain ⟨fd, hb, hF⟩ := K19.facts (P := (PySem.Challenge.rw_signedpacts_k19_need_round_counts).prog) (w := w) KX G hmg c
    exact ⟨K, fd, K19.sp_law K (K19.zd K), KX, hb, fun H a ns hl _ hS => ⟨a, ns, rfl, hS, fun _ => rfl⟩, hF⟩
