import PyProof.Rows.All
import Wide.All
import OpenK.AllK
import Wide.FinOn
import HandS.ForMost
import HandS.IsInst
import HandS.Wide
import HandS.Walk
import KE.KBits
import PySem.Challenge.RW_slotbook_k25_stamps_that_go_one_way
set_option Elab.async false
set_option linter.all false
set_option maxRecDepth 100000
set_option maxHeartbeats 4000000
namespace My
open PySem PySem.Spec PyProof.Rows L2
section
variable {X : Cx}
theorem op_mulX : OpR X (binaryOp .Mult) (rI IntMulOk fun i j => .int (i * j)) := opI fun _ _ _ _ _ _ _ hc q => mul_int q hc
theorem mulL {i j : Int} (h1 : -(2 ^ 64) < i) (h2 : i < 2 ^ 64) : IntMulOk i j := .of_left (intBits_le_64 h1 h2)
theorem mulR {i j : Int} (h1 : -(2 ^ 64) < j) (h2 : j < 2 ^ 64) : IntMulOk i j := .of_right (intBits_le_64 h1 h2)
end
section
variable {σ : L2.St} {H : Hp} {Q : VK} {QT : Bool → Hp → Prop} {D : Ends} {ta tb te : TE} {t u c : TT} {s1 s2 : TS} {K : PySem.W.Frag}
theorem rd_var {i : Nat} : tVar i σ H Q = (match σ[i]? with | some (some v) => Q v H | _ => False) := by
  unfold tVar
  apply propext
  constructor
  · rintro ⟨v, e, q⟩
    rw [e]; exact q
  · intro h
    split at h
    · rename_i v e
      exact ⟨v, e, h⟩
    · exact h.elim
theorem rd_c {v : V} : tC v σ H Q = Q v H := rfl
theorem rd_op {r : R2} : tOp r ta tb σ H Q = ta σ H fun x H1 => tb σ H1 fun y H2 => r x y H2 Q := rfl
theorem rd_un {r : V → Hp → VK → Prop} : tUn r ta σ H Q = ta σ H fun x H1 => r x H1 Q := rfl
theorem rd_rI {C : Int → Int → Prop} {g : Int → Int → V} {i j : Int} : rI C g (.int i) (.int j) H Q = (C i j ∧ Q (g i j) H) := by
  unfold rI
  apply propext
  constructor
  · rintro ⟨a, b, e1, e2, q⟩
    cases e1; cases e2; exact q
  · intro q
    exact ⟨i, j, rfl, rfl, q⟩
theorem rd_rI0 {g : Int → Int → V} {i j : Int} : rI0 g (.int i) (.int j) H Q = Q (g i j) H := by
  unfold rI0
  apply propext
  constructor
  · rintro ⟨a, b, e1, e2, q⟩
    cases e1; cases e2; exact q
  · intro q
    exact ⟨i, j, rfl, rfl, q⟩
theorem rd_rU {g : Int → V} {i : Int} : rU g (.int i) H Q = Q (g i) H := by
  unfold rU
  apply propext
  constructor
  · rintro ⟨a, e1, q⟩
    cases e1; exact q
  · intro q
    exact ⟨i, rfl, q⟩
theorem rd_eq {x y : V} : rEq x y H Q = (scal x y = true ∧ Q (.bl (decide (x = y))) H) := rfl
theorem rd_ne {x y : V} : rNe x y H Q = (scal x y = true ∧ Q (.bl (!decide (x = y))) H) := rfl
def isBl (x : V) (f : Bool → Prop) : Prop := match x with | .bl k => f k | _ => False
theorem rd_isBl {k : Bool} {f : Bool → Prop} : isBl (.bl k) f = f k := rfl
theorem isBl_eq {x : V} {f : Bool → Prop} : (∃ k, x = .bl k ∧ f k) = isBl x f := by
  apply propext
  constructor
  · rintro ⟨k, rfl, q⟩; exact q
  · intro q
    cases x with
    | bl k => exact ⟨k, rfl, q⟩
    | _ => exact q.elim
theorem rd_test : tTest ta σ H QT = ta σ H fun x H' => isBl x fun k => QT k H' := by
  unfold tTest
  simp only [isBl_eq]
theorem rd_B : tB ta σ H QT = ta σ H fun x H' => isBl x fun k => QT k H' := by
  unfold tB
  simp only [isBl_eq]
theorem rd_and : tAnd t u σ H QT = t σ H fun c H1 => if c = true then u σ H1 QT else QT false H1 := rfl
theorem rd_or : tOr t u σ H QT = t σ H fun c H1 => if c = true then QT true H1 else u σ H1 QT := rfl
theorem rd_not : tNot t σ H QT = t σ H fun c H1 => QT (!c) H1 := rfl
theorem rd_andV : tAndV ta tb σ H Q = ta σ H fun x H1 => isBl x fun c => if c = true then tb σ H1 Q else Q (.bl false) H1 := by
  unfold tAndV; simp only [isBl_eq]
theorem rd_orV : tOrV ta tb σ H Q = ta σ H fun x H1 => isBl x fun c => if c = true then Q (.bl true) H1 else tb σ H1 Q := by
  unfold tOrV; simp only [isBl_eq]
theorem rd_notV : tNotV ta σ H Q = ta σ H fun x H1 => isBl x fun c => Q (.bl (!c)) H1 := by
  unfold tNotV; simp only [isBl_eq]
theorem rd_ifE : tIf t ta tb σ H Q = t σ H fun c H1 => if c = true then ta σ H1 Q else tb σ H1 Q := rfl
theorem rd_chain {r r' : R2} {tc : TE} : tChain r r' ta tb tc σ H Q = ta σ H fun x H1 => tb σ H1 fun y H2 => r x y H2 fun z H3 => isBl z fun k => if k = true then tc σ H3 fun w' H4 => r' y w' H4 Q else Q (.bl false) H3 := by
  unfold tChain; simp only [isBl_eq]
theorem rd_ifS : tIfS c s1 s2 D σ H = c σ H fun b H1 => if b = true then s1 D σ H1 else s2 D σ H1 := rfl
theorem rd_ret : tRet te D σ H = te σ H D.rt := rfl
theorem rd_retN : tRetN D σ H = D.rt .non H := rfl
theorem rd_seq : tSeq s1 s2 D σ H = s1 { D with nx := s2 D } σ H := rfl
theorem rd_next : tNext D σ H = D.nx σ H := rfl
theorem rd_break : tBreak D σ H = D.bk σ H := rfl
theorem rd_cont : tCont D σ H = D.ct σ H := rfl
theorem rd_drop : tDrop te D σ H = te σ H fun _ H1 => D.nx σ H1 := rfl
theorem rd_asg {g : TG} : tAsg te g D σ H = te σ H fun x H1 => g x σ H1 D.nx := rfl
theorem rd_gName {i : Nat} {v : V} {R : L2.St → Hp → Prop} : gName i v σ H R = R (σ.set i (some v)) H := rfl
theorem rd_nil {R : List V → Hp → Prop} : tNil σ H R = R [] H := rfl
theorem rd_cons {tr : TA} {R : List V → Hp → Prop} : tCons te tr σ H R = te σ H fun x H1 => tr σ H1 fun xs H2 => R (x :: xs) H2 := rfl
theorem rd_call {sp : Sp} {dvs : List V} {E : XK} {tr : TA} : tCall sp dvs E tr σ H Q = tr σ H fun vs H1 => sp (vs ++ dvs) H1 Q E := rfl
theorem rd_CB {r : List V → Hp → VK → Prop} {tr : TA} : tCB r tr σ H Q = tr σ H fun vs H1 => r vs H1 Q := rfl
theorem V_int_inj {a b : Int} : (V.int a = V.int b) = (a = b) := by simp
theorem V_bl_inj {a b : Bool} : (V.bl a = V.bl b) = (a = b) := by simp
theorem V_str_inj {a b : Str} : (V.str a = V.str b) = (a = b) := by simp
theorem scal_ii {a b : Int} : scal (.int a) (.int b) = true := rfl
theorem scal_bb {a b : Bool} : scal (.bl a) (.bl b) = true := rfl
theorem scal_ss {a b : Str} : scal (.str a) (.str b) = true := rfl
end
end My
/-! what is read further -/
namespace My
open PySem PySem.Spec PyProof.Rows L2
section
variable {σ : L2.St} {H : Hp} {Q : VK} {QT : Bool → Hp → Prop} {D : Ends} {ta tb te : TE} {t u c : TT} {s1 s2 : TS} {K : PySem.W.Frag}
/-! types of values -/
def tyS (x : V) (H : Hp) : Option String := match x with
  | .non => some "NoneType"
  | .bl _ => some "bool"
  | .int _ => some "int"
  | .str _ => some "str"
  | .ref a => match H a with
    | some (.lst _) => some "list"
    | some (.tup _) => some "tuple"
    | some (.dK _) => some "dict"
    | some (.frz _ (.lst _)) => some "list"
    | _ => none
  | _ => none
theorem tyS_ok {x : V} {t : String} (h : tyS x H = some t) : TyX K H x (.type t) := by
  cases x with
  | non => cases h; exact .base .non
  | bl b => cases h; exact .base (.bl b)
  | int i => cases h; exact .base (.int i)
  | str i => cases h; exact .base (.str i)
  | ref a =>
    unfold tyS at h
    cases e : H a with
    | none => simp [e] at h
    | some o =>
      cases o with
      | lst xs => simp [e] at h; subst h; exact .base (.lst e)
      | tup xs => simp [e] at h; subst h; exact .base (.tup e)
      | dK xs => simp [e] at h; subst h; exact .base (.dK e)
      | frz o u =>
        cases u with
        | lst xs => simp [e] at h; subst h; exact .base (.frz e)
        | _ => simp [e] at h
      | _ => simp [e] at h
  | _ => cases h
/-- isinstance with a built-in type -/
def isiF (x : V) (n : String) (H : Hp) (f : Bool → Prop) : Prop := match tyS x H with
  | some t => (match kitB t n with | some b => f b | none => False)
  | none => False
def rIsiF : List V → Hp → VK → Prop := fun xs H Q => match xs with
  | [x, .ty n] => isiF x n H fun b => Q (.bl b) H
  | _ => False
theorem rd_isiF {x : V} {n : String} : rIsiF [x, .ty n] H Q = isiF x n H fun b => Q (.bl b) H := rfl
theorem call_isiF {X : Cx} : CallR X (.builtin "isinstance") rIsiF := by
  intro pins s σ H xs us Q I r h
  refine call_isi pins s σ H xs us Q I r ?_
  unfold rIsiF at h
  split at h
  · rename_i x n
    unfold isiF at h
    split at h
    · rename_i t e
      split at h
      · rename_i b e2
        exact ⟨x, .ty n, _, _, b, rfl, .ty n, tyS_ok e, kit_ty e2, h⟩
      · exact h.elim
    · exact h.elim
  · exact h.elim
theorem isi_non_int {f : Bool → Prop} : isiF .non "int" H f = f false := by
  have e : kitB "NoneType" "int" = some false := by decide +kernel
  simp only [isiF, tyS, e]
theorem isi_non_bool {f : Bool → Prop} : isiF .non "bool" H f = f false := by
  have e : kitB "NoneType" "bool" = some false := by decide +kernel
  simp only [isiF, tyS, e]
theorem isi_non_str {f : Bool → Prop} : isiF .non "str" H f = f false := by
  have e : kitB "NoneType" "str" = some false := by decide +kernel
  simp only [isiF, tyS, e]
theorem isi_non_tuple {f : Bool → Prop} : isiF .non "tuple" H f = f false := by
  have e : kitB "NoneType" "tuple" = some false := by decide +kernel
  simp only [isiF, tyS, e]
theorem isi_non_list {f : Bool → Prop} : isiF .non "list" H f = f false := by
  have e : kitB "NoneType" "list" = some false := by decide +kernel
  simp only [isiF, tyS, e]
theorem isi_non_dict {f : Bool → Prop} : isiF .non "dict" H f = f false := by
  have e : kitB "NoneType" "dict" = some false := by decide +kernel
  simp only [isiF, tyS, e]
theorem isi_bl_int {b : Bool} {f : Bool → Prop} : isiF (.bl b) "int" H f = f true := by
  have e : kitB "bool" "int" = some true := by decide +kernel
  simp only [isiF, tyS, e]
theorem isi_bl_bool {b : Bool} {f : Bool → Prop} : isiF (.bl b) "bool" H f = f true := by
  have e : kitB "bool" "bool" = some true := by decide +kernel
  simp only [isiF, tyS, e]
theorem isi_bl_str {b : Bool} {f : Bool → Prop} : isiF (.bl b) "str" H f = f false := by
  have e : kitB "bool" "str" = some false := by decide +kernel
  simp only [isiF, tyS, e]
theorem isi_bl_tuple {b : Bool} {f : Bool → Prop} : isiF (.bl b) "tuple" H f = f false := by
  have e : kitB "bool" "tuple" = some false := by decide +kernel
  simp only [isiF, tyS, e]
theorem isi_bl_list {b : Bool} {f : Bool → Prop} : isiF (.bl b) "list" H f = f false := by
  have e : kitB "bool" "list" = some false := by decide +kernel
  simp only [isiF, tyS, e]
theorem isi_bl_dict {b : Bool} {f : Bool → Prop} : isiF (.bl b) "dict" H f = f false := by
  have e : kitB "bool" "dict" = some false := by decide +kernel
  simp only [isiF, tyS, e]
theorem isi_int_int {i : Int} {f : Bool → Prop} : isiF (.int i) "int" H f = f true := by
  have e : kitB "int" "int" = some true := by decide +kernel
  simp only [isiF, tyS, e]
theorem isi_int_bool {i : Int} {f : Bool → Prop} : isiF (.int i) "bool" H f = f false := by
  have e : kitB "int" "bool" = some false := by decide +kernel
  simp only [isiF, tyS, e]
theorem isi_int_str {i : Int} {f : Bool → Prop} : isiF (.int i) "str" H f = f false := by
  have e : kitB "int" "str" = some false := by decide +kernel
  simp only [isiF, tyS, e]
theorem isi_int_tuple {i : Int} {f : Bool → Prop} : isiF (.int i) "tuple" H f = f false := by
  have e : kitB "int" "tuple" = some false := by decide +kernel
  simp only [isiF, tyS, e]
theorem isi_int_list {i : Int} {f : Bool → Prop} : isiF (.int i) "list" H f = f false := by
  have e : kitB "int" "list" = some false := by decide +kernel
  simp only [isiF, tyS, e]
theorem isi_int_dict {i : Int} {f : Bool → Prop} : isiF (.int i) "dict" H f = f false := by
  have e : kitB "int" "dict" = some false := by decide +kernel
  simp only [isiF, tyS, e]
theorem isi_str_int {z : Str} {f : Bool → Prop} : isiF (.str z) "int" H f = f false := by
  have e : kitB "str" "int" = some false := by decide +kernel
  simp only [isiF, tyS, e]
theorem isi_str_bool {z : Str} {f : Bool → Prop} : isiF (.str z) "bool" H f = f false := by
  have e : kitB "str" "bool" = some false := by decide +kernel
  simp only [isiF, tyS, e]
theorem isi_str_str {z : Str} {f : Bool → Prop} : isiF (.str z) "str" H f = f true := by
  have e : kitB "str" "str" = some true := by decide +kernel
  simp only [isiF, tyS, e]
theorem isi_str_tuple {z : Str} {f : Bool → Prop} : isiF (.str z) "tuple" H f = f false := by
  have e : kitB "str" "tuple" = some false := by decide +kernel
  simp only [isiF, tyS, e]
theorem isi_str_list {z : Str} {f : Bool → Prop} : isiF (.str z) "list" H f = f false := by
  have e : kitB "str" "list" = some false := by decide +kernel
  simp only [isiF, tyS, e]
theorem isi_str_dict {z : Str} {f : Bool → Prop} : isiF (.str z) "dict" H f = f false := by
  have e : kitB "str" "dict" = some false := by decide +kernel
  simp only [isiF, tyS, e]
theorem isi_lst_int {a : Addr} {xs : List V} (h : H a = some (.lst xs)) {f : Bool → Prop} : isiF (.ref a) "int" H f = f false := by
  have e : kitB "list" "int" = some false := by decide +kernel
  simp only [isiF, tyS, h, e]
theorem isi_lst_bool {a : Addr} {xs : List V} (h : H a = some (.lst xs)) {f : Bool → Prop} : isiF (.ref a) "bool" H f = f false := by
  have e : kitB "list" "bool" = some false := by decide +kernel
  simp only [isiF, tyS, h, e]
theorem isi_lst_str {a : Addr} {xs : List V} (h : H a = some (.lst xs)) {f : Bool → Prop} : isiF (.ref a) "str" H f = f false := by
  have e : kitB "list" "str" = some false := by decide +kernel
  simp only [isiF, tyS, h, e]
theorem isi_lst_tuple {a : Addr} {xs : List V} (h : H a = some (.lst xs)) {f : Bool → Prop} : isiF (.ref a) "tuple" H f = f false := by
  have e : kitB "list" "tuple" = some false := by decide +kernel
  simp only [isiF, tyS, h, e]
theorem isi_lst_list {a : Addr} {xs : List V} (h : H a = some (.lst xs)) {f : Bool → Prop} : isiF (.ref a) "list" H f = f true := by
  have e : kitB "list" "list" = some true := by decide +kernel
  simp only [isiF, tyS, h, e]
theorem isi_lst_dict {a : Addr} {xs : List V} (h : H a = some (.lst xs)) {f : Bool → Prop} : isiF (.ref a) "dict" H f = f false := by
  have e : kitB "list" "dict" = some false := by decide +kernel
  simp only [isiF, tyS, h, e]
theorem isi_tup_int {a : Addr} {xs : List V} (h : H a = some (.tup xs)) {f : Bool → Prop} : isiF (.ref a) "int" H f = f false := by
  have e : kitB "tuple" "int" = some false := by decide +kernel
  simp only [isiF, tyS, h, e]
theorem isi_tup_bool {a : Addr} {xs : List V} (h : H a = some (.tup xs)) {f : Bool → Prop} : isiF (.ref a) "bool" H f = f false := by
  have e : kitB "tuple" "bool" = some false := by decide +kernel
  simp only [isiF, tyS, h, e]
theorem isi_tup_str {a : Addr} {xs : List V} (h : H a = some (.tup xs)) {f : Bool → Prop} : isiF (.ref a) "str" H f = f false := by
  have e : kitB "tuple" "str" = some false := by decide +kernel
  simp only [isiF, tyS, h, e]
theorem isi_tup_tuple {a : Addr} {xs : List V} (h : H a = some (.tup xs)) {f : Bool → Prop} : isiF (.ref a) "tuple" H f = f true := by
  have e : kitB "tuple" "tuple" = some true := by decide +kernel
  simp only [isiF, tyS, h, e]
theorem isi_tup_list {a : Addr} {xs : List V} (h : H a = some (.tup xs)) {f : Bool → Prop} : isiF (.ref a) "list" H f = f false := by
  have e : kitB "tuple" "list" = some false := by decide +kernel
  simp only [isiF, tyS, h, e]
theorem isi_tup_dict {a : Addr} {xs : List V} (h : H a = some (.tup xs)) {f : Bool → Prop} : isiF (.ref a) "dict" H f = f false := by
  have e : kitB "tuple" "dict" = some false := by decide +kernel
  simp only [isiF, tyS, h, e]
theorem isi_dK_int {a : Addr} {kvs : List (Key × V)} (h : H a = some (.dK kvs)) {f : Bool → Prop} : isiF (.ref a) "int" H f = f false := by
  have e : kitB "dict" "int" = some false := by decide +kernel
  simp only [isiF, tyS, h, e]
theorem isi_dK_bool {a : Addr} {kvs : List (Key × V)} (h : H a = some (.dK kvs)) {f : Bool → Prop} : isiF (.ref a) "bool" H f = f false := by
  have e : kitB "dict" "bool" = some false := by decide +kernel
  simp only [isiF, tyS, h, e]
theorem isi_dK_str {a : Addr} {kvs : List (Key × V)} (h : H a = some (.dK kvs)) {f : Bool → Prop} : isiF (.ref a) "str" H f = f false := by
  have e : kitB "dict" "str" = some false := by decide +kernel
  simp only [isiF, tyS, h, e]
theorem isi_dK_tuple {a : Addr} {kvs : List (Key × V)} (h : H a = some (.dK kvs)) {f : Bool → Prop} : isiF (.ref a) "tuple" H f = f false := by
  have e : kitB "dict" "tuple" = some false := by decide +kernel
  simp only [isiF, tyS, h, e]
theorem isi_dK_list {a : Addr} {kvs : List (Key × V)} (h : H a = some (.dK kvs)) {f : Bool → Prop} : isiF (.ref a) "list" H f = f false := by
  have e : kitB "dict" "list" = some false := by decide +kernel
  simp only [isiF, tyS, h, e]
theorem isi_dK_dict {a : Addr} {kvs : List (Key × V)} (h : H a = some (.dK kvs)) {f : Bool → Prop} : isiF (.ref a) "dict" H f = f true := by
  have e : kitB "dict" "dict" = some true := by decide +kernel
  simp only [isiF, tyS, h, e]

/-! loops -/
def forGo (J : It) (g : TG) (tb : TS) (D : Ends) (σ : L2.St) (H : Hp) : Prop := ∃ W : Nat → Nat → L2.St → Hp → Prop, (∃ m, W 0 m σ H) ∧ ∀ i m σ H, W i m σ H →
  (J.stop i H ∧ D.nx σ H) ∨ (J.go i H ∧ ∃ N : L2.St → Hp → Prop, (∀ σ' H', N σ' H' → ∃ m', m' < m ∧ W (i + 1) m' σ' H') ∧ ∀ x H', J.yld i H x H' → g x σ H' fun σ2 H2 => tb { D with nx := N, ct := N, bk := D.nx } σ2 H2)
theorem rd_for {wi : TI} {g : TG} {tb : TS} : tFor wi g tb D σ H = wi σ H fun J H1 => forGo J g tb D σ H1 := rfl
def isR1 (vs : List V) (f : Int → Prop) : Prop := match vs with | [.int j] => f j | _ => False
theorem rd_isR1 {j : Int} {f : Int → Prop} : isR1 [.int j] f = f j := rfl
theorem rd_rng1 {tr : TA} {R : It → Hp → Prop} : iRng1 tr σ H R = tr σ H fun vs H1 => isR1 vs fun j => (-(2 ^ 62) ≤ j ∧ j < 2 ^ 62) ∧ R (Itr 0 j.toNat) H1 := by
  unfold iRng1
  apply congrArg
  funext vs H1
  apply propext
  constructor
  · rintro ⟨j, rfl, h1, h2, r⟩; exact ⟨⟨h1, h2⟩, r⟩
  · intro h
    unfold isR1 at h
    split at h
    · rename_i j
      exact ⟨j, rfl, h.1.1, h.1.2, h.2⟩
    · exact h.elim
def isR2 (vs : List V) (f : Int → Int → Prop) : Prop := match vs with | [.int i, .int j] => f i j | _ => False
theorem rd_isR2 {i j : Int} {f : Int → Int → Prop} : isR2 [.int i, .int j] f = f i j := rfl
theorem rd_rng2 {tr : TA} {R : It → Hp → Prop} : iRng2 tr σ H R = tr σ H fun vs H1 => isR2 vs fun i j => (-(2 ^ 62) ≤ i ∧ i < 2 ^ 62 ∧ -(2 ^ 62) ≤ j ∧ j < 2 ^ 62) ∧ R (Itr i (j - i).toNat) H1 := by
  unfold iRng2
  apply congrArg
  funext vs H1
  apply propext
  constructor
  · rintro ⟨i, j, rfl, h1, r⟩; exact ⟨h1, r⟩
  · intro h
    unfold isR2 at h
    split at h
    · rename_i i j
      exact ⟨i, j, rfl, h.1, h.2⟩
    · exact h.elim
def isRef (x : V) (f : Addr → Prop) : Prop := match x with | .ref a => f a | _ => False
theorem rd_isRef {a : Addr} {f : Addr → Prop} : isRef (.ref a) f = f a := rfl
theorem isRef_eq {x : V} {f : Addr → Prop} : (∃ a, x = .ref a ∧ f a) = isRef x f := by
  apply propext
  constructor
  · rintro ⟨a, rfl, h⟩; exact h
  · intro h
    cases x with
    | ref a => exact ⟨a, rfl, h⟩
    | _ => exact h.elim
theorem rd_iList {R : It → Hp → Prop} : iList K te σ H R = te σ H fun x H1 => isRef x fun a => (∃ xs, SqL K H1 a xs) ∧ R (Itl K a) H1 := by
  unfold iList
  simp only [isRef_eq]
theorem rd_iTup {R : It → Hp → Prop} : iTup K te σ H R = te σ H fun x H1 => isRef x fun a => (∃ xs, SqT K H1 a xs) ∧ R (Itt K a) H1 := by
  unfold iTup
  simp only [isRef_eq]
def isStr (x : V) (f : Str → Prop) : Prop := match x with | .str a => f a | _ => False
theorem rd_isStr {a : Str} {f : Str → Prop} : isStr (.str a) f = f a := rfl
theorem isStr_eq {x : V} {f : Str → Prop} : (∃ a, x = .str a ∧ f a) = isStr x f := by
  apply propext
  constructor
  · rintro ⟨a, rfl, h⟩; exact h
  · intro h
    cases x with
    | str a => exact ⟨a, rfl, h⟩
    | _ => exact h.elim
theorem rd_iStr {R : It → Hp → Prop} : iStr te σ H R = te σ H fun x H1 => isStr x fun z => R (Its z) H1 := by
  unfold iStr
  simp only [isStr_eq]
theorem go_it {J : It} {n : Nat} {G : Hp → Prop} {Y : Nat → Hp → V → Hp → Prop} (w : L2.Walk J n G Y) {g : TG} {tb : TS} (Pv : Nat → L2.St → Hp → Prop) (h0 : Pv 0 σ H) (hG : ∀ i σ H, i ≤ n → Pv i σ H → G H)
    (hs : ∀ (N : L2.St → Hp → Prop) i x σ H H', i < n → Pv i σ H → Y i H x H' → (∀ σ' H', Pv (i + 1) σ' H' → N σ' H') → g x σ H' fun σ2 H2 => tb { D with nx := N, ct := N, bk := D.nx } σ2 H2) (hd : ∀ σ H, Pv n σ H → D.nx σ H) : forGo J g tb D σ H :=
  L2.for_it w Pv h0 hG (fun i x σ H H' h1 h2 h3 => hs _ i x σ H H' h1 h2 h3 fun _ _ z => z) hd
theorem go_range {lo : Int} {n : Nat} {g : TG} {tb : TS} (Pv : Nat → L2.St → Hp → Prop) (h0 : Pv 0 σ H)
    (hs : ∀ (N : L2.St → Hp → Prop) (i : Nat) σ H, i < n → Pv i σ H → (∀ σ' H', Pv (i + 1) σ' H' → N σ' H') → g (.int (lo + i)) σ H fun σ2 H2 => tb { D with nx := N, ct := N, bk := D.nx } σ2 H2) (hd : ∀ σ H, Pv n σ H → D.nx σ H) : forGo (Itr lo n) g tb D σ H :=
  for_range Pv h0 (fun i σ H h1 h2 => hs _ i σ H h1 h2 fun _ _ z => z) hd
theorem go_list {a : Addr} {xs : List V} {g : TG} {tb : TS} (Pv : Nat → L2.St → Hp → Prop) (h0 : Pv 0 σ H) (hl : ∀ i σ H, i ≤ xs.length → Pv i σ H → SqL K H a xs)
    (hs : ∀ (N : L2.St → Hp → Prop) i x σ H, xs[i]? = some x → Pv i σ H → (∀ σ' H', Pv (i + 1) σ' H' → N σ' H') → g x σ H fun σ2 H2 => tb { D with nx := N, ct := N, bk := D.nx } σ2 H2) (hd : ∀ σ H, Pv xs.length σ H → D.nx σ H) : forGo (Itl K a) g tb D σ H :=
  for_list Pv h0 hl (fun i x σ H h1 h2 => hs _ i x σ H h1 h2 fun _ _ z => z) hd
theorem go_tup {a : Addr} {xs : List V} {g : TG} {tb : TS} (Pv : Nat → L2.St → Hp → Prop) (h0 : Pv 0 σ H) (hl : ∀ i σ H, i ≤ xs.length → Pv i σ H → SqT K H a xs)
    (hs : ∀ (N : L2.St → Hp → Prop) i x σ H, xs[i]? = some x → Pv i σ H → (∀ σ' H', Pv (i + 1) σ' H' → N σ' H') → g x σ H fun σ2 H2 => tb { D with nx := N, ct := N, bk := D.nx } σ2 H2) (hd : ∀ σ H, Pv xs.length σ H → D.nx σ H) : forGo (Itt K a) g tb D σ H :=
  for_tup Pv h0 hl (fun i x σ H h1 h2 => hs _ i x σ H h1 h2 fun _ _ z => z) hd
/-! sequences -/
/-- p is new at H -/
def Fresh (H : Hp) (p : Addr) : Prop := H p = none
theorem Fresh.ne {H : Hp} {p a : Addr} {o : HO} (f : Fresh H p) (h : H a = some o) : a ≠ p := ne_of_none h f
theorem rd_lst {tr : TA} : tLst tr σ H Q = tr σ H fun xs H1 => xs.length ≤ sizeLine ∧ ∀ p, Fresh H1 p → Q (.ref p) (upd H1 p (.lst xs)) := rfl
theorem rd_tup {tr : TA} : tTup tr σ H Q = tr σ H fun xs H1 => xs.length ≤ sizeLine ∧ ∀ p, Fresh H1 p → Q (.ref p) (upd H1 p (.tup xs)) := rfl
theorem rd_cat {l b : Addr} : rCat (.ref l) (.ref b) H Q = ∃ xs zs, H l = some (.lst xs) ∧ H b = some (.lst zs) ∧ xs.length + zs.length ≤ sizeLine ∧ ∀ p, Fresh H p → Q (.ref p) (upd H p (.lst (xs ++ zs))) := by
  unfold rCat
  apply propext
  constructor
  · rintro ⟨l', b', xs, zs, e1, e2, q⟩; cases e1; cases e2; exact ⟨xs, zs, q⟩
  · rintro ⟨xs, zs, q⟩; exact ⟨l, b, xs, zs, rfl, rfl, q⟩
theorem rd_ixL {p : Addr} {i : Int} : rIxL K (.ref p) (.int i) H Q = ∃ xs v, SqL K H p xs ∧ atI xs i = some v ∧ Q v H := by
  unfold rIxL
  apply propext
  constructor
  · rintro ⟨p', xs, i', v, e1, e2, q⟩; cases e1; cases e2; exact ⟨xs, v, q⟩
  · rintro ⟨xs, v, q⟩; exact ⟨p, xs, i, v, rfl, rfl, q⟩
theorem rd_sl {r : V → Option Int → Option Int → Hp → VK → Prop} {tl th : TO} : tSl r te tl th σ H Q = te σ H fun x H1 => tl σ H1 fun l H2 => th σ H2 fun u H3 => r x l u H3 Q := rfl
theorem rd_noPart {R : Option Int → Hp → Prop} : tNoPart σ H R = R none H := rfl
def isInt (x : V) (f : Int → Prop) : Prop := match x with | .int a => f a | _ => False
theorem rd_isInt {a : Int} {f : Int → Prop} : isInt (.int a) f = f a := rfl
theorem isInt_eq {x : V} {f : Int → Prop} : (∃ a, x = .int a ∧ f a) = isInt x f := by
  apply propext
  constructor
  · rintro ⟨a, rfl, h⟩; exact h
  · intro h
    cases x with
    | int a => exact ⟨a, rfl, h⟩
    | _ => exact h.elim
theorem rd_part {R : Option Int → Hp → Prop} : tPart te σ H R = te σ H fun x H1 => isInt x fun i => R (some i) H1 := by
  unfold tPart
  simp only [isInt_eq]
theorem rd_slL {a : Addr} {lo hi : Option Int} : rSlL K (.ref a) lo hi H Q = ∃ xs, SqL K H a xs ∧ ∀ p, Fresh H p → Q (.ref p) (upd H p (.lst (cutV xs lo hi))) := by
  unfold rSlL
  apply propext
  constructor
  · rintro ⟨a', xs, e1, q⟩; cases e1; exact ⟨xs, q⟩
  · rintro ⟨xs, q⟩; exact ⟨a, xs, rfl, q⟩
def rLen (K : PySem.W.Frag) : List V → Hp → VK → Prop := fun xs H Q => ∃ p ys, xs = [.ref p] ∧ (SqL K H p ys ∨ SqT K H p ys) ∧ Q (.int ys.length) H
theorem call_lenq {X : Cx} : CallR X (.builtin "len") (rLen X.K) := call_len_seq
theorem rd_len {p : Addr} : rLen K [.ref p] H Q = ∃ ys, (SqL K H p ys ∨ SqT K H p ys) ∧ Q (.int ys.length) H := by
  unfold rLen
  apply propext
  constructor
  · rintro ⟨p', ys, e, q⟩; cases e; exact ⟨ys, q⟩
  · rintro ⟨ys, q⟩; exact ⟨p, ys, rfl, q⟩
/-! promises -/
def spI1 (Pre : Int → Prop) (f : Int → V) : Sp := fun vs H Q _ => ∃ a, vs = [.int a] ∧ Pre a ∧ Q (f a) H
def spI2 (Pre : Int → Int → Prop) (f : Int → Int → V) : Sp := fun vs H Q _ => ∃ a b, vs = [.int a, .int b] ∧ Pre a b ∧ Q (f a b) H
def spI3 (Pre : Int → Int → Int → Prop) (f : Int → Int → Int → V) : Sp := fun vs H Q _ => ∃ a b c, vs = [.int a, .int b, .int c] ∧ Pre a b c ∧ Q (f a b c) H
def spI4 (Pre : Int → Int → Int → Int → Prop) (f : Int → Int → Int → Int → V) : Sp := fun vs H Q _ => ∃ a b c d, vs = [.int a, .int b, .int c, .int d] ∧ Pre a b c d ∧ Q (f a b c d) H
variable {E : XK}
theorem rd_spI1 {Pre : Int → Prop} {f : Int → V} {a : Int} : spI1 Pre f [.int a] H Q E = (Pre a ∧ Q (f a) H) := by
  unfold spI1
  apply propext
  constructor
  · rintro ⟨a', e, q⟩; cases e; exact q
  · intro q; exact ⟨a, rfl, q⟩
theorem rd_spI2 {Pre : Int → Int → Prop} {f : Int → Int → V} {a b : Int} : spI2 Pre f [.int a, .int b] H Q E = (Pre a b ∧ Q (f a b) H) := by
  unfold spI2
  apply propext
  constructor
  · rintro ⟨a', b', e, q⟩; cases e; exact q
  · intro q; exact ⟨a, b, rfl, q⟩
theorem rd_spI3 {Pre : Int → Int → Int → Prop} {f : Int → Int → Int → V} {a b c : Int} : spI3 Pre f [.int a, .int b, .int c] H Q E = (Pre a b c ∧ Q (f a b c) H) := by
  unfold spI3
  apply propext
  constructor
  · rintro ⟨a', b', c', e, q⟩; cases e; exact q
  · intro q; exact ⟨a, b, c, rfl, q⟩
theorem rd_spI4 {Pre : Int → Int → Int → Int → Prop} {f : Int → Int → Int → Int → V} {a b c d : Int} : spI4 Pre f [.int a, .int b, .int c, .int d] H Q E = (Pre a b c d ∧ Q (f a b c d) H) := by
  unfold spI4
  apply propext
  constructor
  · rintro ⟨a', b', c', d', e, q⟩; cases e; exact q
  · intro q; exact ⟨a, b, c, d, rfl, q⟩
/-- a scalar: whether it is an int and no truth -/
def wholeV : V → Bool
  | .int _ => true
  | _ => false
def scalV : V → Bool
  | .int _ => true
  | .bl _ => true
  | .non => true
  | .str _ => true
  | _ => false
def spWhole : Sp := fun vs H Q _ => ∃ x, vs = [x] ∧ scalV x = true ∧ Q (.bl (wholeV x)) H
theorem rd_whole {i : Int} : spWhole [.int i] H Q E = Q (.bl true) H := by
  unfold spWhole
  apply propext
  constructor
  · rintro ⟨x, e, _, q⟩; cases e; exact q
  · intro q; exact ⟨_, rfl, rfl, q⟩
/-- the law's own: a list of at most 63 ints, True -/
def spLaw (K : PySem.W.Frag) : Sp := fun vs H Q _ => ∃ (a : Addr) (ns : List Int), vs = [.ref a] ∧ SqL K H a (ns.map V.int) ∧ ns.length ≤ 63 ∧ ∀ H', Q (.bl true) H'
end
theorem len_spI1 {Pre : Int → Prop} {f : Int → V} {vs H Q E} (h : spI1 Pre f vs H Q E) : vs.length = 1 := by obtain ⟨_, rfl, _⟩ := h; rfl
theorem len_spI2 {Pre : Int → Int → Prop} {f : Int → Int → V} {vs H Q E} (h : spI2 Pre f vs H Q E) : vs.length = 2 := by obtain ⟨_, _, rfl, _⟩ := h; rfl
theorem len_spI3 {Pre : Int → Int → Int → Prop} {f : Int → Int → Int → V} {vs H Q E} (h : spI3 Pre f vs H Q E) : vs.length = 3 := by obtain ⟨_, _, _, rfl, _⟩ := h; rfl
theorem len_spI4 {Pre : Int → Int → Int → Int → Prop} {f : Int → Int → Int → Int → V} {vs H Q E} (h : spI4 Pre f vs H Q E) : vs.length = 4 := by obtain ⟨_, _, _, _, rfl, _⟩ := h; rfl
theorem len_whole {vs H Q E} (h : spWhole vs H Q E) : vs.length = 1 := by obtain ⟨_, rfl, _⟩ := h; rfl
theorem len_law {K : PySem.W.Frag} {vs H Q E} (h : spLaw K vs H Q E) : vs.length = 1 := by obtain ⟨_, _, rfl, _⟩ := h; rfl
theorem st_nil : L2.start [] [] = [] := rfl
theorem st_arg {x : Str} {N : List Str} {v : V} {vs : List V} : L2.start (x :: N) (v :: vs) = some v :: L2.start N vs := by
  unfold L2.start
  simp
theorem st_none {x : Str} {N : List Str} : L2.start (x :: N) [] = none :: L2.start N [] := by
  unfold L2.start
  simp [List.replicate_succ]
theorem cxK {CX : CXT} {P : Program} {w : World} {K : PySem.W.Frag} {mg : Str → Option Value} {base : Heap} {N : List Str} {qual : Str} {scope : Scope} {f : Addr} {cd : Value} {A : Around} {outer : List Env} {s : Shared} {H : Hp} {E : XK} :
    (cxOf CX P w K mg base N qual scope f cd A outer s H E).K = K := rfl
/-- a new object leaves what stood before -/
theorem Same_upd {H0 H : Hp} {p : Addr} {o : HO} (s : Same H0 H) (f : Fresh H p) : Same H0 (upd H p o) := fun b u e => by
  have e' := s b u e
  rw [upd_ne (f.ne e')]
  exact e'
theorem Same_fresh {H0 H : Hp} {p : Addr} (s : Same H0 H) (f : Fresh H p) : Fresh H0 p := s.free f
theorem Same_upd0 {H0 H : Hp} {p : Addr} {o : HO} (s : Same H0 H) (f : Fresh H0 p) : Same H0 (upd H p o) := fun b u e => by
  rw [upd_ne (f.ne e)]
  exact s b u e
/-- the items of a list of ints -/
theorem ints_at {ns : List Int} {i : Nat} {y : V} (h : (ns.map V.int)[i]? = some y) : ∃ n, ns[i]? = some n ∧ y = .int n := by
  rw [List.getElem?_map] at h
  cases e : ns[i]? with
  | none => rw [e] at h; cases h
  | some n => rw [e] at h; exact ⟨n, rfl, (Option.some.inj h).symm⟩
theorem cut_len (xs : List V) (lo hi : Option Int) : (cutV xs lo hi).length ≤ xs.length := cutV_length xs lo hi
theorem cut_map (ns : List Int) (lo hi : Option Int) : ∃ ms : List Int, cutV (ns.map V.int) lo hi = ms.map V.int ∧ ms.length ≤ ns.length := by
  unfold cutV
  rw [← List.map_drop, ← List.map_take]
  exact ⟨_, rfl, by rw [List.length_take, List.length_drop]; omega⟩
/-- the item of a list of ints at a place in bounds -/
def getI (xs : List Int) (i : Int) : Int := xs.getD i.toNat 0
theorem at_int {xs : List Int} {i : Int} (h0 : 0 ≤ i) (h1 : i < xs.length) : atI (xs.map V.int) i = some (.int (getI xs i)) := by
  obtain ⟨j, rfl⟩ : ∃ j : Nat, i = (j : Int) := ⟨i.toNat, by omega⟩
  have hj : j < xs.length := by omega
  refine atI_nat ?_
  rw [List.getElem?_map, List.getElem?_eq_getElem hj]
  show some (V.int xs[j]) = some (V.int (xs.getD j 0))
  rw [List.getD_eq_getElem?_getD, List.getElem?_eq_getElem hj]
  rfl
theorem iteN {c A B : Prop} [Decidable c] (h : ¬ c) (q : B) : if c then A else B := by rw [if_neg h]; exact q
theorem iteP {c A B : Prop} [Decidable c] (h : c) (q : A) : if c then A else B := by rw [if_pos h]; exact q
theorem tyL {K : PySem.W.Frag} {H : Hp} {l : Addr} {xs : List V} (h : H l = some (.lst xs)) : tyV K "list" (.ref l) H := Or.inl ⟨rfl, _, SqL.of h⟩
theorem rd_BM {K : PySem.W.Frag} {T : String} {r : V → List V → Hp → VK → Prop} {to : TE} {t : TA} {σ : L2.St} {H : Hp} {Q : VK} : tBM K T r to t σ H Q = to σ H fun x H1 => tyV K T x H1 ∧ t σ H1 fun xs H2 => r x xs H2 Q := rfl
theorem rd_BM0 {K : PySem.W.Frag} {T : String} {r : V → List V → Hp → VK → Prop} {to : TE} {σ : L2.St} {H : Hp} {Q : VK} : tBM0 K T r to σ H Q = to σ H fun x H1 => tyV K T x H1 ∧ r x [] H1 Q := rfl
theorem rd_append {l : Addr} {y : V} {H : Hp} {Q : VK} : rAppend (.ref l) [y] H Q = ∃ xs, H l = some (.lst xs) ∧ xs.length < sizeLine ∧ Q .non (upd H l (.lst (xs ++ [y]))) := by
  unfold rAppend
  apply propext
  constructor
  · rintro ⟨l', xs, y', e1, e2, q⟩; cases e1; cases e2; exact ⟨xs, q⟩
  · rintro ⟨xs, q⟩; exact ⟨l, xs, y, rfl, rfl, q⟩
theorem rd_rep {l : Addr} {k : Int} {H : Hp} {Q : VK} : rRep (.ref l) (.int k) H Q = ∃ xs, H l = some (.lst xs) ∧ -(2 ^ 63) ≤ k ∧ k < 2 ^ 63 ∧ xs.length * k.toNat ≤ sizeLine ∧ ∀ p, Fresh H p → Q (.ref p) (upd H p (.lst (List.replicate k.toNat xs).flatten)) := by
  unfold rRep
  apply propext
  constructor
  · rintro ⟨l', k', xs, e1, e2, q⟩; cases e1; cases e2; exact ⟨xs, q⟩
  · rintro ⟨xs, q⟩; exact ⟨l, k, xs, rfl, rfl, q⟩
theorem rd_gSub {to ti : TE} {t : TSet} {v : V} {σ : L2.St} {H : Hp} {R : L2.St → Hp → Prop} : gSub to ti t v σ H R = to σ H fun o H1 => ti σ H1 fun i H2 => t o i v H2 fun H3 => R σ H3 := rfl
theorem rd_setL {p : Addr} {k : Int} {v : V} {H : Hp} {R : Hp → Prop} : rSetL (.ref p) (.int k) v H R = ∃ xs j, H p = some (.lst xs) ∧ ixN xs.length k = some j ∧ R (upd H p (.lst (xs.set j v))) := by
  unfold rSetL
  apply propext
  constructor
  · rintro ⟨p', xs, k', j, e1, e2, q⟩; cases e1; cases e2; exact ⟨xs, j, q⟩
  · rintro ⟨xs, j, q⟩; exact ⟨p, xs, k, j, rfl, rfl, q⟩
theorem ixN_nat {n : Nat} {k : Int} (h0 : 0 ≤ k) (h1 : k < n) : ixN n k = some k.toNat := by
  unfold ixN
  rw [if_pos h0, if_pos (by omega)]
/-! lists of ints compared -/
theorem DpAll_ints {K : PySem.W.Frag} {H : Hp} : ∀ xs : List Int, DpAll K H (xs.map V.int) (xs.map PyData.int)
  | [] => .nil
  | x :: xs => .cons (.int x) (DpAll_ints xs)
theorem eqvAll_ints : ∀ xs ys : List Int, PyData.eqvAll (xs.map PyData.int) (ys.map PyData.int) = decide (xs = ys)
  | [], [] => by simp [PyData.eqvAll]
  | [], _ :: _ => by simp [PyData.eqvAll]
  | _ :: _, [] => by simp [PyData.eqvAll]
  | x :: xs, y :: ys => by
    show (PyData.eqv (.int x) (.int y) && PyData.eqvAll (xs.map PyData.int) (ys.map PyData.int)) = _
    rw [eqvAll_ints xs ys, PyData.eqv]
    by_cases h : x = y
    · subst h
      by_cases h2 : xs = ys
      · simp [h2]
      · simp [h2]
    · simp [h]
theorem canLay_ints : ∀ xs : List Int, PyData.canLayAll0 (xs.map PyData.int) = true
  | [] => by simp [PyData.canLayAll0]
  | x :: xs => by
    show (PyData.canLay0 (.int x) && PyData.canLayAll0 (xs.map PyData.int)) = true
    rw [canLay_ints xs, PyData.canLay0]
    rfl
theorem depth_ints : ∀ xs : List Int, PyData.depthAll (xs.map PyData.int) = 0
  | [] => by simp [PyData.depthAll]
  | x :: xs => by
    show max (PyData.depth (.int x)) (PyData.depthAll (xs.map PyData.int)) = 0
    rw [depth_ints xs, PyData.depth]
    rfl
theorem shaped_ints (xs : List Int) : SeqAt.shaped (.list (xs.map PyData.int)) = true := by
  unfold SeqAt.shaped
  rw [PyData.canLay0, canLay_ints, PyData.depth, depth_ints]
  decide
theorem eq_ints {K : PySem.W.Frag} {H : Hp} {a b : Addr} {xs ys : List Int} {Q : VK} (ha : SqL K H a (xs.map V.int)) (hb : SqL K H b (ys.map V.int)) (q : Q (.bl (decide (xs = ys))) H) : rEqD K (.ref a) (.ref b) H Q :=
  ⟨.list (xs.map PyData.int), .list (ys.map PyData.int), .lst ha (DpAll_ints xs), .lst hb (DpAll_ints ys), shaped_ints xs, shaped_ints ys, by rw [PyData.eqv, eqvAll_ints]; exact q⟩
/-- a cell of the script -/
def spCell (K : PySem.W.Frag) : Sp := fun vs H Q _ => ∃ (a : Addr) (ns : List Int) (i : Int), vs = [.ref a, .int i] ∧ SqL K H a (ns.map V.int) ∧ 0 ≤ i ∧ Q (.int (getI ns i)) H
theorem rd_spCell {K : PySem.W.Frag} {a : Addr} {i : Int} {H : Hp} {Q : VK} {E : XK} : spCell K [.ref a, .int i] H Q E = ∃ ns : List Int, SqL K H a (ns.map V.int) ∧ 0 ≤ i ∧ Q (.int (getI ns i)) H := by
  unfold spCell
  apply propext
  constructor
  · rintro ⟨a', ns, i', e, q⟩; cases e; exact ⟨ns, q⟩
  · rintro ⟨ns, q⟩; exact ⟨a, ns, i, rfl, q⟩
theorem len_cell {K : PySem.W.Frag} {vs H Q E} (h : spCell K vs H Q E) : vs.length = 2 := by obtain ⟨_, _, _, rfl, _⟩ := h; rfl
/-- a new list of ints by two ints -/
def spNew2 (Pre : Int → Int → Prop) (f : Int → Int → List Int) : Sp := fun vs H Q _ => ∃ m s, vs = [.int m, .int s] ∧ Pre m s ∧ ∀ p H', Same H H' → Fresh H p → H' p = some (.lst ((f m s).map V.int)) → Q (.ref p) H'
theorem rd_spNew2 {Pre : Int → Int → Prop} {f : Int → Int → List Int} {m s : Int} {H : Hp} {Q : VK} {E : XK} : spNew2 Pre f [.int m, .int s] H Q E = (Pre m s ∧ ∀ p H', Same H H' → Fresh H p → H' p = some (.lst ((f m s).map V.int)) → Q (.ref p) H') := by
  unfold spNew2
  apply propext
  constructor
  · rintro ⟨m', s', e, q⟩; cases e; exact q
  · intro q; exact ⟨m, s, rfl, q⟩
theorem len_new2 {Pre : Int → Int → Prop} {f : Int → Int → List Int} {vs H Q E} (h : spNew2 Pre f vs H Q E) : vs.length = 2 := by obtain ⟨_, _, rfl, _⟩ := h; rfl
end My
namespace My
open PySem PySem.W
theorem and_m1 (z : Int) : Builtin.bitAnd z (-1) = z := by
  show Spec.bitAnd z (-1) = z
  unfold Spec.bitAnd
  have h : decide ((0 : Int) ≤ -1) = false := by decide
  rw [h]
  cases e : decide (0 ≤ z) with
  | true =>
    have e' := of_decide_eq_true e
    have h2 : (Spec.bitNot (-1)).toNat = 0 := by decide
    simp [h2]
  | false =>
    have e' := of_decide_eq_false e
    have h2 : (Spec.bitNot (-1)).toNat = 0 := by decide
    simp only [h2, Nat.or_zero]
    unfold Spec.bitNot
    omega
theorem or_one (x : Int) : Builtin.bitOr x 1 = x + 1 - x % 2 := by
  have h : Builtin.bitOr x 1 = Spec.bitNot (Builtin.bitAnd (Spec.bitNot x) (Spec.bitNot 1)) := rfl
  have h1 : Spec.bitNot 1 = -2 := by decide
  rw [h, h1, kbt_halves]
  have h2 : (-2 : Int) / 2 = -1 := by decide
  have h3 : ¬ ((-2 : Int) % 2 = 1) := by decide
  rw [h2, and_m1, if_neg (fun c => h3 c.2)]
  unfold Spec.bitNot
  omega
def strideF (m : Int) : Int := Builtin.bitOr (m / 2 ^ 5) 1
def probeF (m s c : Int) : Int := Builtin.bitAnd (m + c * strideF m) (s - 1)
theorem strideF_eq (m : Int) : strideF m = m / 32 + 1 - m / 32 % 2 := or_one _
theorem probeF_eq (m c : Int) (k : Nat) : probeF m (2 ^ k) c = (m + c * strideF m) % 2 ^ k := kbt_mask _ k
/-- the slots of probes, one after the other -/
def slotI (m s : Int) : Nat → Int
  | 0 => Builtin.bitAnd m (s - 1)
  | i + 1 => Builtin.bitAnd (slotI m s i + strideF m) (s - 1)
def probesF (m s : Int) : List Int := (List.range s.toNat).map (slotI m s)
theorem slotI_eq (m : Int) (k : Nat) : ∀ i : Nat, slotI m (2 ^ k) i = (m + i * strideF m) % 2 ^ k
  | 0 => by
    rw [slotI, kbt_mask]
    simp
  | i + 1 => by
    rw [slotI, kbt_mask, slotI_eq m k i, Int.emod_add_emod]
    congr 1
    rw [Int.natCast_add, Int.add_mul, Int.add_assoc]
    simp
theorem pow_le {j n : Nat} (h : j ≤ n) : (0 : Int) < 2 ^ j ∧ (2 : Int) ^ j ≤ 2 ^ n := by
  have a : (2 : Nat) ^ j ≤ 2 ^ n := Nat.pow_le_pow_right (by decide) h
  have b : 0 < (2 : Nat) ^ j := Nat.pow_pos (by decide)
  have e : ((2 ^ j : Nat) : Int) = (2 : Int) ^ j := by norm_cast
  have e2 : ((2 ^ n : Nat) : Int) = (2 : Int) ^ n := by norm_cast
  omega
end My
local macro_rules | `(tactic| walk_at "rd") => `(tactic| simp only [↓My.rd_var, ↓My.rd_c, ↓My.rd_op, ↓My.rd_un, ↓My.rd_test, ↓My.rd_B, ↓My.rd_and, ↓My.rd_or, ↓My.rd_not, ↓My.rd_andV, ↓My.rd_orV, ↓My.rd_notV, ↓My.rd_ifE, ↓My.rd_chain, ↓My.rd_ifS, ↓My.rd_ret, ↓My.rd_retN, ↓My.rd_seq, ↓My.rd_BM, ↓My.rd_BM0, ↓My.rd_gSub, ↓My.rd_next, ↓My.rd_break, ↓My.rd_cont, ↓My.rd_drop, ↓My.rd_asg, ↓My.rd_gName, ↓My.rd_nil, ↓My.rd_cons, ↓My.rd_call, ↓My.rd_CB, ↓My.rd_for, ↓My.rd_rng1, ↓My.rd_rng2, ↓My.rd_iList, ↓My.rd_iTup, ↓My.rd_iStr, ↓My.rd_lst, ↓My.rd_tup, ↓My.rd_sl, ↓My.rd_noPart, ↓My.rd_part,
  My.rd_rI, My.rd_rI0, My.rd_rU, My.rd_eq, My.rd_ne, My.rd_isBl, My.rd_isR1, My.rd_isR2, My.rd_isRef, My.rd_isStr, My.rd_isInt, My.rd_isiF, My.rd_cat, My.rd_append, My.rd_rep, My.rd_setL, My.rd_ixL, My.rd_slL, My.rd_len, My.rd_spI1, My.rd_spI2, My.rd_spI3, My.rd_spI4, My.rd_whole, My.rd_spCell, My.rd_spNew2,
  My.V_int_inj, My.V_bl_inj, My.V_str_inj, My.scal_ii, My.scal_bb, My.scal_ss, My.isi_non_int, My.isi_non_bool, My.isi_non_str, My.isi_non_tuple, My.isi_non_list, My.isi_bl_int, My.isi_bl_bool, My.isi_bl_str, My.isi_bl_tuple, My.isi_bl_list, My.isi_int_int, My.isi_int_bool, My.isi_int_str, My.isi_int_tuple, My.isi_int_list, My.isi_str_int, My.isi_str_bool, My.isi_str_str, My.isi_str_tuple, My.isi_str_list,
  My.st_nil, My.st_arg, My.st_none, My.cxK, Int.zero_add, List.getElem?_cons_zero, List.getElem?_cons_succ, List.set_cons_zero, List.set_cons_succ, List.append_nil, List.cons_append, List.nil_append, decide_eq_true_eq, Bool.not_eq_true', decide_eq_false_iff_not, Bool.not_true, Bool.not_false, Bool.false_eq_true, Bool.true_eq_false, if_true, if_false, true_and, and_true, ite_true, ite_false, if_pos, if_neg, ne_eq, not_true_eq_false, not_false_eq_true, reduceIte, Bool.not_not])
local macro_rules | `(tactic| walk_at "spl") => `(tactic| first | exact My.len_spI1 (by assumption) | exact My.len_spI2 (by assumption) | exact My.len_spI3 (by assumption) | exact My.len_spI4 (by assumption) | exact My.len_whole (by assumption) | exact My.len_law (by assumption) | exact My.len_cell (by assumption) | exact My.len_new2 (by assumption))
local macro_rules | `(tactic| walk_at "ne") => `(tactic| first | assumption | exact Ne.symm (by assumption) | exact My.Fresh.ne (by assumption) (by walk_at "hp") | exact Ne.symm (My.Fresh.ne (by assumption) (by walk_at "hp")))
local macro_rules | `(tactic| walk_at "hp") => `(tactic| first | assumption | exact L2.upd_same | exact (by assumption : L2.Same _ _) _ _ (by walk_at "hp") | (refine Eq.trans (L2.upd_ne ?_) ?_; (walk_at "ne"); (walk_at "hp")))
local macro_rules | `(tactic| walk_at "sq") => `(tactic| first | assumption | exact L2.SqL.of (by walk_at "hp") | exact L2.SqT.of (by walk_at "hp") | (refine L2.Same.seq ?_ (by assumption); walk_at "same"))
local macro_rules | `(tactic| walk_at "same") => `(tactic| first | assumption | exact L2.Same.refl _ | exact My.Same_upd (by walk_at "same") (by assumption) | exact L2.Same.trans (by walk_at "same") (by assumption))
local macro_rules | `(tactic| walk_at "sz") => `(tactic| first | assumption | (with_unfolding_all decide) | (rw [PySem.sizeLine_eq]; simp only [List.length_append, List.length_cons, List.length_nil, List.length_map, List.length_replicate, List.length_take, List.length_drop]; omega))
namespace Law
open PySem PySem.Spec PyProof.Rows L2 My
def top (i : Nat) : Stmt := PySem.Challenge.pw_slotbook_k25_stamps_that_go_one_way.main.body.getD i (.Pass ⟨0, 0, 0, 0⟩)
abbrev s_stride : Stmt := top 1
abbrev s_probe : Stmt := top 2
abbrev s_probes : Stmt := top 3
abbrev s_law_cell_at : Stmt := top 5
abbrev s_law_whole : Stmt := top 6
abbrev s_law : Stmt := top 7
structure Ad where
  a_stride : Addr
  d_stride : FuncData
  a_probe : Addr
  d_probe : FuncData
  a_probes : Addr
  d_probes : FuncData
  a_law_cell_at : Addr
  d_law_cell_at : FuncData
  a_law_whole : Addr
  d_law_whole : FuncData
  a_law : Addr
  d_law : FuncData
structure Txt (K : PySem.W.Frag) (mg : Str → Option Value) (A : Ad) : Prop where
  F_stride : Fun K "stride" "stride" s_stride A.a_stride A.d_stride
  b_stride : Binds K A.d_stride ["stamp"] []
  m_stride : mg "stride" = some (.ref A.a_stride)
  F_probe : Fun K "probe" "probe" s_probe A.a_probe A.d_probe
  b_probe : Binds K A.d_probe ["stamp", "size", "count"] []
  m_probe : mg "probe" = some (.ref A.a_probe)
  F_probes : Fun K "probes" "probes" s_probes A.a_probes A.d_probes
  b_probes : Binds K A.d_probes ["stamp", "size"] []
  m_probes : mg "probes" = some (.ref A.a_probes)
  F_law_cell_at : Fun K "_law_cell_at" "_law_cell_at" s_law_cell_at A.a_law_cell_at A.d_law_cell_at
  b_law_cell_at : Binds K A.d_law_cell_at ["_law_script", "_law_k"] []
  m_law_cell_at : mg "_law_cell_at" = some (.ref A.a_law_cell_at)
  F_law_whole : Fun K "_law_whole" "_law_whole" s_law_whole A.a_law_whole A.d_law_whole
  b_law_whole : Binds K A.d_law_whole ["_law_found"] []
  m_law_whole : mg "_law_whole" = some (.ref A.a_law_whole)
  F_law : Fun K "law" "law" s_law A.a_law A.d_law
  b_law : Binds K A.d_law ["_law_script"] []
  m_law : mg "law" = some (.ref A.a_law)
  n_bool : mg "bool" = none
  n_int : mg "int" = none
  n_isinstance : mg "isinstance" = none
  n_len : mg "len" = none
  n_range : mg "range" = none
theorem sc_stride : FnScope ["stamp"] ["stamp"] (defScope s_stride) := ⟨rfl, rfl, rfl, by decide +kernel, rfl, by decide +kernel, by decide +kernel⟩
theorem ok_stride {P : Program} {w : World} {K : PySem.W.Frag} {mg : Str → Option Value} {base : Heap} {A : Ad} (T : Txt K mg A) : FnOk P w K mg base CX0 1 A.a_stride A.d_stride ["stamp"] (spI1 (fun _ => True) fun n => .int (strideF n)) := by
  refine T.F_stride.ok sc_stride (fun vs H Q E h => ?_) (fun cdv A' outer s H vs Q E hr h => ?_)
  · walk_at "spl"
  · have nd := sc_stride.nd
    have hu := hu_of hr
    refine ⟨_, (pss_one (ps_ret (pe_op op_or (pe_op op_shr (pv 0) pe_int) pe_int))), ?_⟩
    clear nd
    obtain ⟨n, rfl, -, k⟩ := h
    walk_at "rd"
    exact ⟨by decide, k⟩
theorem sc_probe : FnScope ["stamp", "size", "count"] ["stamp", "size", "count"] (defScope s_probe) := ⟨rfl, rfl, rfl, by decide +kernel, rfl, by decide +kernel, by decide +kernel⟩
theorem ok_probe {P : Program} {w : World} {K : PySem.W.Frag} {mg : Str → Option Value} {base : Heap} {A : Ad} (T : Txt K mg A) : FnOk P w K mg base CX0 2 A.a_probe A.d_probe ["stamp", "size", "count"] (spI3 (fun _ _ c => -(2 ^ 64) < c ∧ c < 2 ^ 64) fun m s c => .int (probeF m s c)) := by
  refine T.F_probe.ok sc_probe (fun vs H Q E h => ?_) (fun cdv A' outer s H vs Q E hr h => ?_)
  · walk_at "spl"
  · have nd := sc_probe.nd
    have hu := hu_of hr
    refine ⟨_, (pss_one (ps_ret (pe_op op_and (pe_op op_add (pv 0) (pe_op op_mulX (pv 2) (pe_call (ok_stride T) (hr.mono (by decide)) rfl T.m_stride T.F_stride.kp T.b_stride .nil pass0 (pa_cons (pv 0) pa_nil)))) (pe_op op_sub (pv 1) pe_int)))), ?_⟩
    clear nd
    obtain ⟨m, z, c, rfl, hc, k⟩ := h
    walk_at "rd"
    exact ⟨mulL hc.1 hc.2, k⟩
theorem sc_probes : FnScope ["stamp", "size", "step", "slot", "found", "count"] ["stamp", "size"] (defScope s_probes) := ⟨rfl, rfl, rfl, by decide +kernel, rfl, by decide +kernel, by decide +kernel⟩
theorem ok_probes {P : Program} {w : World} {K : PySem.W.Frag} {mg : Str → Option Value} {base : Heap} {A : Ad} (T : Txt K mg A) : FnOk P w K mg base CX0 2 A.a_probes A.d_probes ["stamp", "size"] (spNew2 (fun m s => 0 ≤ s ∧ s ≤ 4096) probesF) := by
  refine T.F_probes.ok sc_probes (fun vs H Q E h => ?_) (fun cdv A' outer s H vs Q E hr h => ?_)
  · walk_at "spl"
  · have nd := sc_probes.nd
    have hu := hu_of hr
    refine ⟨_, (pss_cons (ps_set (i := 2) nd rfl (Or.inl rfl) (pe_call (ok_stride T) (hr.mono (by decide)) rfl T.m_stride T.F_stride.kp T.b_stride .nil pass0 (pa_cons (pv 0) pa_nil))) (pss_cons (ps_set (i := 3) nd rfl (Or.inl rfl) (pe_op op_and (pv 0) (pe_op op_sub (pv 1) pe_int))) (pss_cons (ps_set (i := 4) nd rfl (Or.inl rfl) (pe_lst pa_nil)) (pss_cons (ps_for PassesOwn.never rfl (pi_range1 rfl T.n_range (pa_cons (pv 1) pa_nil)) (pg_name (i := 5) nd rfl (Or.inl rfl)) (pss_cons (ps_expr (pe_bm PySem.F.plainAttrs_list PySem.F.slot_list_append PySem.F.type_list_append mt_append (pv 4) (pa_cons (pv 3) pa_nil))) (pss_one (ps_set (i := 3) nd rfl (Or.inl rfl) (pe_op op_and (pe_op op_add (pv 3) (pv 2)) (pe_op op_sub (pv 1) pe_int)))))) (pss_one (ps_ret (pv 4))))))), ?_⟩
    clear nd
    obtain ⟨m, s, rfl, ⟨h0, h1⟩, k⟩ := h
    walk_at "rd"
    refine ⟨by walk_at "sz", fun p hp => ⟨by omega, ?_⟩⟩
    refine go_range (fun i σ H' => ∃ v5, σ = [some (.int m), some (.int s), some (.int (strideF m)), some (.int (slotI m s i)), some (.ref p), v5] ∧ Same H H' ∧ H' p = some (.lst (((List.range i).map (slotI m s)).map V.int)) ∧ i ≤ s.toNat) ⟨_, rfl, by walk_at "same", upd_same, Nat.zero_le _⟩ ?_ ?_
    · rintro N i σ H' hi ⟨v5, rfl, sm, hL, hz⟩ hN
      walk_at "rd"
      refine ⟨tyL hL, _, hL, ?_, ?_⟩
      · rw [sizeLine_eq]; simp only [List.length_map, List.length_range]; omega
      refine hN _ _ ⟨_, rfl, Same_upd0 sm hp, ?_, hi⟩
      rw [upd_same, List.range_succ, List.map_append, List.map_append]
      rfl
    · rintro σ H' ⟨v5, rfl, sm, hL, -⟩
      walk_at "rd"
      exact k p H' sm hp hL
theorem sc_law_cell_at : FnScope ["_law_script", "_law_k"] ["_law_script", "_law_k"] (defScope s_law_cell_at) := ⟨rfl, rfl, rfl, by decide +kernel, rfl, by decide +kernel, by decide +kernel⟩
theorem ok_law_cell_at {P : Program} {w : World} {K : PySem.W.Frag} {mg : Str → Option Value} {base : Heap} {A : Ad} (T : Txt K mg A) : FnOk P w K mg base CX0 1 A.a_law_cell_at A.d_law_cell_at ["_law_script", "_law_k"] (spCell K) := by
  refine T.F_law_cell_at.ok sc_law_cell_at (fun vs H Q E h => ?_) (fun cdv A' outer s H vs Q E hr h => ?_)
  · walk_at "spl"
  · have nd := sc_law_cell_at.nd
    have hu := hu_of hr
    refine ⟨_, (pss_cons (ps_if (pt_cmpR op_lt (pv 1) (pe_callB call_lenq rfl T.n_len PySem.boot_len (pa_cons (pv 0) pa_nil)) (nomark _)) (pss_one (ps_ret (pe_ix ix_list (pv 0) (pv 1) (fun _ _ => rfl)))) pss_nil) (pss_one (ps_ret pe_int))), ?_⟩
    clear nd
    obtain ⟨a, ns, i, rfl, hS, hi, k⟩ := h
    walk_at "rd"
    refine ⟨_, .inl hS, ?_⟩
    rw [List.length_map]
    split
    · rename_i c
      exact ⟨_, _, hS, at_int hi c, k⟩
    · rename_i c
      have e : getI ns i = 0 := by
        unfold getI
        rw [List.getD_eq_getElem?_getD, List.getElem?_eq_none_iff.mpr (by omega)]
        rfl
      rw [e] at k
      exact k
theorem sc_law_whole : FnScope ["_law_found"] ["_law_found"] (defScope s_law_whole) := ⟨rfl, rfl, rfl, by decide +kernel, rfl, by decide +kernel, by decide +kernel⟩
theorem ok_law_whole {P : Program} {w : World} {K : PySem.W.Frag} {mg : Str → Option Value} {base : Heap} {A : Ad} (T : Txt K mg A) : FnOk P w K mg base CX0 1 A.a_law_whole A.d_law_whole ["_law_found"] spWhole := by
  refine T.F_law_whole.ok sc_law_whole (fun vs H Q E h => ?_) (fun cdv A' outer s H vs Q E hr h => ?_)
  · walk_at "spl"
  · have nd := sc_law_whole.nd
    have hu := hu_of hr
    refine ⟨_, (pss_one (ps_ret (pe_and (pe_callB call_isiF rfl T.n_isinstance (by decide +kernel) (pa_cons (pv 0) (pa_cons (pe_bltn (v := .ty "int") rfl T.n_int (by decide +kernel) rfl) pa_nil))) (pe_one (pe_not (pe_callB call_isiF rfl T.n_isinstance (by decide +kernel) (pa_cons (pv 0) (pa_cons (pe_bltn (v := .ty "bool") rfl T.n_bool (by decide +kernel) rfl) pa_nil)))))))), ?_⟩
    clear nd
    obtain ⟨x, rfl, hx, k⟩ := h
    cases x <;> first | cases hx | skip
    all_goals (walk_at "rd"; exact k)

end Law
namespace Law
open PySem PySem.Spec PyProof.Rows L2 My

theorem stride_on (m t : Int) {j : Nat} (h : 1 ≤ j) : strideF (m + 32 * 2 ^ j * t) = strideF m + 2 ^ j * t := by
  rw [strideF_eq, strideF_eq]
  obtain ⟨i, rfl⟩ : ∃ i, j = i + 1 := ⟨j - 1, by omega⟩
  have e : (2 : Int) ^ (i + 1) * t = 2 * (2 ^ i * t) := by rw [Int.pow_succ, Int.mul_comm (2 ^ i) 2, Int.mul_assoc]
  have e2 : 32 * (2 : Int) ^ (i + 1) * t = 32 * (2 * (2 ^ i * t)) := by rw [Int.mul_assoc, e]
  rw [e, e2]
  omega
theorem probe_on (m t c : Int) {j : Nat} (h : 1 ≤ j) : (m + 32 * 2 ^ j * t + c * strideF (m + 32 * 2 ^ j * t)) % 2 ^ j = (m + c * strideF m) % 2 ^ j := by
  rw [stride_on m t h]
  have e : m + 32 * 2 ^ j * t + c * (strideF m + 2 ^ j * t) = m + c * strideF m + 2 ^ j * (32 * t + c * t) := by
    rw [Int.mul_add, Int.mul_add, Int.mul_left_comm c, Int.mul_comm 32, Int.mul_assoc]
    omega
  rw [e, Int.add_mul_emod_self_left]
theorem most_pos {m s : Int} (h0 : 0 < s) (h1 : s ≤ 256) (h2 : 0 ≤ m) (h3 : m < 32 * s) : 0 < (2147483646 - m) / (32 * s) := by
  have : 1 ≤ (2147483646 - m) / (32 * s) := Int.le_ediv_of_mul_le (by omega) (by omega)
  omega
theorem sc_law : FnScope ["_law_script", "_law_size", "_law_k", "_law_mark", "_law_most", "_law_other", "_law_step", "_law_cell", "_law_count", "_law_slot"] ["_law_script"] (defScope s_law) := ⟨rfl, rfl, rfl, by decide +kernel, rfl, by decide +kernel, by decide +kernel⟩
theorem ok_law {P : Program} {w : World} {K : PySem.W.Frag} {mg : Str → Option Value} {base : Heap} {A : Ad} (T : Txt K mg A) : FnOk P w K mg base CX0 3 A.a_law A.d_law ["_law_script"] (spLaw K) := by
  refine T.F_law.ok sc_law (fun vs H Q E h => ?_) (fun cdv A' outer s H vs Q E hr h => ?_)
  · walk_at "spl"
  · have nd := sc_law.nd
    have hu := hu_of hr
    refine ⟨_, (pss_cons (ps_set (i := 1) nd rfl (Or.inl rfl) pe_int) (pss_cons (ps_for PassesOwn.never rfl (pi_range1 rfl T.n_range (pa_cons (pe_op op_mod (pe_call (ok_law_cell_at T) (hr.mono (by decide)) rfl T.m_law_cell_at T.F_law_cell_at.kp T.b_law_cell_at .nil pass0 (pa_cons (pv 0) (pa_cons pe_int pa_nil))) pe_int) pa_nil)) (pg_name (i := 2) nd rfl (Or.inl rfl)) (pss_one (ps_set (i := 1) nd rfl (Or.inl rfl) (pe_op op_mulX (pv 1) pe_int)))) (pss_cons (ps_set (i := 3) nd rfl (Or.inl rfl) (pe_op op_mod (pe_call (ok_law_cell_at T) (hr.mono (by decide)) rfl T.m_law_cell_at T.F_law_cell_at.kp T.b_law_cell_at .nil pass0 (pa_cons (pv 0) (pa_cons pe_int pa_nil))) (pe_op op_mulX pe_int (pv 1)))) (pss_cons (ps_set (i := 4) nd rfl (Or.inl rfl) (pe_op op_fdivW (pe_op op_sub pe_int (pv 3)) (pe_op op_mulX pe_int (pv 1)))) (pss_cons (ps_set (i := 5) nd rfl (Or.inl rfl) (pe_op op_add (pv 3) (pe_op op_mulX (pe_op op_mulX pe_int (pv 1)) (pe_op op_add pe_int (pe_op op_mod (pe_call (ok_law_cell_at T) (hr.mono (by decide)) rfl T.m_law_cell_at T.F_law_cell_at.kp T.b_law_cell_at .nil pass0 (pa_cons (pv 0) (pa_cons pe_int pa_nil))) (pv 4)))))) (pss_cons (ps_set (i := 6) nd rfl (Or.inl rfl) (pe_op op_sub (pe_op op_add (pe_op op_fdivW (pv 3) pe_int) pe_int) (pe_op op_mod (pe_op op_fdivW (pv 3) pe_int) pe_int))) (pss_cons (ps_for PassesOwn.never rfl (pi_list (pe_op op_cat (pe_lst (pa_cons pe_int (pa_cons (pe_op op_sub (pv 1) pe_int) pa_nil))) (pe_slice sl_list (pv 0) (po_some pe_int) (po_some pe_int)))) (pg_name (i := 7) nd rfl (Or.inl rfl)) (pss_cons (ps_set (i := 8) nd rfl (Or.inl rfl) (pe_op op_mod (pv 7) (pv 1))) (pss_cons (ps_set (i := 9) nd rfl (Or.inl rfl) (pe_call (ok_probe T) (hr.mono (by decide)) rfl T.m_probe T.F_probe.kp T.b_probe .nil pass0 (pa_cons (pv 5) (pa_cons (pv 1) (pa_cons (pv 8) pa_nil))))) (pss_cons (ps_if (PW.pt (pw_or (pt_not (pt_val (pe_call (ok_law_whole T) (hr.mono (by decide)) rfl T.m_law_whole T.F_law_whole.kp T.b_law_whole .nil pass0 (pa_cons (pv 9) pa_nil)))) (pw_or1 (pt_cmpR op_ne (pv 9) (pe_call (ok_probe T) (hr.mono (by decide)) rfl T.m_probe T.F_probe.kp T.b_probe .nil pass0 (pa_cons (pv 3) (pa_cons (pv 1) (pa_cons (pv 8) pa_nil)))) (nomark _))))) (pss_one (ps_ret pe_bl)) pss_nil) (pss_one (ps_if (pt_cmpR op_ne (pv 9) (pe_op op_mod (pe_op op_add (pv 3) (pe_op op_mulX (pv 8) (pv 6))) (pv 1)) (nomark _)) (pss_one (ps_ret pe_bl)) pss_nil)))))) (pss_one (ps_ret (pe_or (pe_cmpR op_gt (pv 1) pe_int (nomark _)) (pe_one (pe_cmpR (op_eqD hr.units) (pe_call (ok_probes T) (hr.mono (by decide)) rfl T.m_probes T.F_probes.kp T.b_probes .nil pass0 (pa_cons (pv 5) (pa_cons (pv 1) pa_nil))) (pe_call (ok_probes T) (hr.mono (by decide)) rfl T.m_probes T.F_probes.kp T.b_probes .nil pass0 (pa_cons (pv 3) (pa_cons (pv 1) pa_nil))) (nomark _))))))))))))), ?_⟩
    clear nd
    obtain ⟨a, ns, rfl, hS, hl, k⟩ := h
    walk_at "rd"
    refine ⟨_, hS, by decide, by decide, by omega, ?_⟩
    refine go_range (fun i σ H' => ∃ v2, σ = [some (.ref a), some (.int (8 * 2 ^ i)), v2, none, none, none, none, none, none, none] ∧ H' = H) ⟨_, rfl, rfl⟩ ?_ ?_
    · rintro N i σ H' hi ⟨v2, rfl, rfl⟩ hN
      walk_at "rd"
      exact ⟨mulR (by decide) (by decide), hN _ _ ⟨_, by rw [Int.pow_succ, Int.mul_assoc], rfl⟩⟩
    · rintro σ H' ⟨v2, rfl, rfl⟩
      have ej : (8 : Int) * 2 ^ (getI ns 0 % 6).toNat = 2 ^ ((getI ns 0 % 6).toNat + 3) := by rw [Int.pow_add, Int.mul_comm]; rfl
      have hj : (getI ns 0 % 6).toNat + 3 ≤ 8 := by omega
      have hj1 : 1 ≤ (getI ns 0 % 6).toNat + 3 := by omega
      generalize (getI ns 0 % 6).toNat + 3 = j at ej hj hj1
      rw [ej]
      obtain ⟨z1, z2⟩ := pow_le hj
      walk_at "rd"
      have p32 : (0 : Int) < 32 * 2 ^ j := by omega
      have m0 : 0 ≤ getI ns 1 % (32 * 2 ^ j) := Int.emod_nonneg _ (by omega)
      have m1 : getI ns 1 % (32 * 2 ^ j) < 32 * 2 ^ j := Int.emod_lt_of_pos _ p32
      have mp := most_pos z1 (by simpa using z2) m0 m1
      have hz : (2 : Int) ^ 8 = 256 := by decide
      have h32 : IntMulOk 32 (2 ^ j) := mulL (by decide) (by decide)
      refine ⟨ns, hS, by decide, h32, p32, h32, ?_⟩
      generalize getI ns 1 % (32 * 2 ^ j) = mark at m0 m1 mp ⊢
      refine ⟨⟨p32, ?_⟩, h32, ns, hS, by decide, mp, mulL (by omega) (by omega), ⟨by decide, by decide⟩, ⟨by decide, by decide⟩, by decide, by walk_at "sz", ?_⟩
      · exact Nat.lt_of_lt_of_le ((Nat.log2_lt (by omega)).mpr (show (32 * (2 : Int) ^ j).natAbs < 2 ^ 14 by omega)) (by decide)
      generalize getI ns 2 % ((2147483646 - mark) / (32 * 2 ^ j)) = t
      intro p hp
      obtain ⟨ms, em, hm⟩ := cut_map ns (some 3) (some 33)
      refine ⟨_, by walk_at "sq", fun q hq => ⟨_, _, by walk_at "hp", by walk_at "hp", ?_, fun r hr' => ⟨⟨_, SqL.of upd_same⟩, ?_⟩⟩⟩
      · rw [em]; walk_at "sz"
      have eL : [V.int 0, V.int (2 ^ j - 1)] ++ cutV (List.map V.int ns) (some 3) (some 33) = (0 :: (2 ^ j - 1) :: ms).map V.int := by rw [em]; rfl
      rw [eL]
      have hR : SqL K (upd (upd (upd H' p (HO.lst [V.int 0, V.int (2 ^ j - 1)])) q (HO.lst (cutV (List.map V.int ns) (some 3) (some 33)))) r (HO.lst ((0 :: (2 ^ j - 1) :: ms).map V.int))) r ((0 :: (2 ^ j - 1) :: ms).map V.int) := by walk_at "sq"
      generalize (upd (upd (upd H' p (HO.lst [V.int 0, V.int (2 ^ j - 1)])) q (HO.lst (cutV (List.map V.int ns) (some 3) (some 33)))) r (HO.lst ((0 :: (2 ^ j - 1) :: ms).map V.int))) = H3 at hR ⊢
      generalize (0 :: (2 ^ j - 1) :: ms) = xs at hR ⊢
      refine go_list (xs := xs.map V.int) (fun i σ H' => ∃ v7 v8 v9, σ = [some (.ref a), some (.int (2 ^ j)), v2, some (.int mark), some (.int ((2147483646 - mark) / (32 * 2 ^ j))), some (.int (mark + 32 * 2 ^ j * (1 + t))), some (.int (mark / 32 + 1 - mark / 32 % 2)), v7, v8, v9] ∧ H' = H3)
        ⟨_, _, _, rfl, rfl⟩ (fun i σ H' _ ⟨_, _, _, _, e⟩ => by rw [e]; exact hR) ?_ ?_
      · rintro N i x σ H' hx ⟨v7, v8, v9, rfl, rfl⟩ hN
        obtain ⟨n, -, rfl⟩ := ints_at hx
        walk_at "rd"
        have c0 : 0 ≤ n % 2 ^ j := Int.emod_nonneg _ (by omega)
        have c1 : n % 2 ^ j < 2 ^ j := Int.emod_lt_of_pos _ z1
        generalize n % 2 ^ j = c at c0 c1 ⊢
        rw [probeF_eq, probeF_eq, probe_on _ _ _ (by omega : 1 ≤ j), strideF_eq]
        exact ⟨z1, by omega, by omega, iteN (fun c => c rfl) ⟨mulL (by omega) (by omega), z1, iteN (fun c => c rfl) (hN _ _ ⟨_, _, _, rfl, rfl⟩)⟩⟩
      · rintro σ H' ⟨v7, v8, v9, rfl, rfl⟩
        walk_at "rd"
        split
        · exact k _
        · refine ⟨by omega, fun p H1 s1 f1 h1 => ⟨by omega, fun p2 H2 s2 f2 h2 => eq_ints (SqL.of (s2 _ _ h1)) (SqL.of h2) ?_⟩⟩
          have e : probesF (mark + 32 * 2 ^ j * (1 + t)) (2 ^ j) = probesF mark (2 ^ j) := by
            unfold probesF
            apply congrArg (fun f => List.map f _)
            funext i
            rw [slotI_eq, slotI_eq, probe_on _ _ _ hj1]
          rw [e, decide_eq_true rfl]
          exact k _

end Law
namespace Law
open PySem PySem.Spec PyProof.Rows L2 My
theorem all_mk {l : PySem.W.OpenLaw} {w : World} {K : PySem.W.Frag} {h : Heap} {mg : Str → Option Value} {fa : Addr} (X : K.In h) (G : h.Ns mainGlobals mg) (hfa : mg "law" = some (.ref fa))
    {od0 an0 : Option Addr} {sl0 : Array (Option Value)} {oc0 kV0 dc0 pm0 cd0 ct0 : Value} {f0 : Addr}
    {od1 an1 : Option Addr} {sl1 : Array (Option Value)} {oc1 kV1 dc1 pm1 cd1 ct1 : Value} {f1 : Addr}
    {od2 an2 : Option Addr} {sl2 : Array (Option Value)} {oc2 kV2 dc2 pm2 cd2 ct2 : Value} {f2 : Addr}
    {od3 an3 : Option Addr} {sl3 : Array (Option Value)} {oc3 kV3 dc3 pm3 cd3 ct3 : Value} {f3 : Addr}
    {od4 an4 : Option Addr} {sl4 : Array (Option Value)} {oc4 kV4 dc4 pm4 cd4 ct4 : Value} {f4 : Addr}
    {od5 an5 : Option Addr} {sl5 : Array (Option Value)} {oc5 kV5 dc5 pm5 cd5 ct5 : Value} {f5 : Addr}
    (a0 : PySem.W.nsIn K mainGlobals "stride" = some (some (.ref f0)))
    (l0 : K.lookup f0 = some ⟨oc0, od0, .func (PySem.W.fnOf "stride" "stride" (defArgs s_stride) (defBody s_stride) (defScope s_stride) .none kV0 dc0 pm0 an0 cd0 ct0), sl0⟩)
    (d0 : PySem.W.codeIn K cd0 "stride" = true)
    (k0 : PySem.W.keepIn K (.ref f0) = true)
    (a1 : PySem.W.nsIn K mainGlobals "probe" = some (some (.ref f1)))
    (l1 : K.lookup f1 = some ⟨oc1, od1, .func (PySem.W.fnOf "probe" "probe" (defArgs s_probe) (defBody s_probe) (defScope s_probe) .none kV1 dc1 pm1 an1 cd1 ct1), sl1⟩)
    (d1 : PySem.W.codeIn K cd1 "probe" = true)
    (k1 : PySem.W.keepIn K (.ref f1) = true)
    (a2 : PySem.W.nsIn K mainGlobals "probes" = some (some (.ref f2)))
    (l2 : K.lookup f2 = some ⟨oc2, od2, .func (PySem.W.fnOf "probes" "probes" (defArgs s_probes) (defBody s_probes) (defScope s_probes) .none kV2 dc2 pm2 an2 cd2 ct2), sl2⟩)
    (d2 : PySem.W.codeIn K cd2 "probes" = true)
    (k2 : PySem.W.keepIn K (.ref f2) = true)
    (a3 : PySem.W.nsIn K mainGlobals "_law_cell_at" = some (some (.ref f3)))
    (l3 : K.lookup f3 = some ⟨oc3, od3, .func (PySem.W.fnOf "_law_cell_at" "_law_cell_at" (defArgs s_law_cell_at) (defBody s_law_cell_at) (defScope s_law_cell_at) .none kV3 dc3 pm3 an3 cd3 ct3), sl3⟩)
    (d3 : PySem.W.codeIn K cd3 "_law_cell_at" = true)
    (k3 : PySem.W.keepIn K (.ref f3) = true)
    (a4 : PySem.W.nsIn K mainGlobals "_law_whole" = some (some (.ref f4)))
    (l4 : K.lookup f4 = some ⟨oc4, od4, .func (PySem.W.fnOf "_law_whole" "_law_whole" (defArgs s_law_whole) (defBody s_law_whole) (defScope s_law_whole) .none kV4 dc4 pm4 an4 cd4 ct4), sl4⟩)
    (d4 : PySem.W.codeIn K cd4 "_law_whole" = true)
    (k4 : PySem.W.keepIn K (.ref f4) = true)
    (a5 : PySem.W.nsIn K mainGlobals "law" = some (some (.ref f5)))
    (l5 : K.lookup f5 = some ⟨oc5, od5, .func (PySem.W.fnOf "law" "law" (defArgs s_law) (defBody s_law) (defScope s_law) .none kV5 dc5 pm5 an5 cd5 ct5), sl5⟩)
    (d5 : PySem.W.codeIn K cd5 "law" = true)
    (k5 : PySem.W.keepIn K (.ref f5) = true)
    (n_bool : PySem.W.nsIn K mainGlobals "bool" = some none)
    (n_int : PySem.W.nsIn K mainGlobals "int" = some none)
    (n_isinstance : PySem.W.nsIn K mainGlobals "isinstance" = some none)
    (n_len : PySem.W.nsIn K mainGlobals "len" = some none)
    (n_range : PySem.W.nsIn K mainGlobals "range" = some none) :
    ∃ fd : FuncData, (∀ (s : Shared) (v : Value), BindsTo s fd ⟨[v], []⟩ [("_law_script", v)]) ∧ ∀ base : Heap, K.In base → base.Ns mainGlobals mg → FnOk l.prog w K mg base CX0 3 fa fd ["_law_script"] (spLaw K) := by
  have e := hfa.symm.trans (PySem.W.mg_of X G a5)
  cases e
  have T : Txt K mg ⟨f0, PySem.W.fnOf "stride" "stride" (defArgs s_stride) (defBody s_stride) (defScope s_stride) .none kV0 dc0 pm0 an0 cd0 ct0, f1, PySem.W.fnOf "probe" "probe" (defArgs s_probe) (defBody s_probe) (defScope s_probe) .none kV1 dc1 pm1 an1 cd1 ct1, f2, PySem.W.fnOf "probes" "probes" (defArgs s_probes) (defBody s_probes) (defScope s_probes) .none kV2 dc2 pm2 an2 cd2 ct2, f3, PySem.W.fnOf "_law_cell_at" "_law_cell_at" (defArgs s_law_cell_at) (defBody s_law_cell_at) (defScope s_law_cell_at) .none kV3 dc3 pm3 an3 cd3 ct3, f4, PySem.W.fnOf "_law_whole" "_law_whole" (defArgs s_law_whole) (defBody s_law_whole) (defScope s_law_whole) .none kV4 dc4 pm4 an4 cd4 ct4, fa, PySem.W.fnOf "law" "law" (defArgs s_law) (defBody s_law) (defScope s_law) .none kV5 dc5 pm5 an5 cd5 ct5⟩ := ⟨fun_mk (st := s_stride) l0 d0 k0,
    (fun_mk (st := s_stride) l0 d0 k0).binds (ps := ["stamp"]) fun _ _ _ _ _ _ us hl => match us, hl with | [_], _ => rfl,
    PySem.W.mg_of X G a0,
    fun_mk (st := s_probe) l1 d1 k1,
    (fun_mk (st := s_probe) l1 d1 k1).binds (ps := ["stamp", "size", "count"]) fun _ _ _ _ _ _ us hl => match us, hl with | [_, _, _], _ => rfl,
    PySem.W.mg_of X G a1,
    fun_mk (st := s_probes) l2 d2 k2,
    (fun_mk (st := s_probes) l2 d2 k2).binds (ps := ["stamp", "size"]) fun _ _ _ _ _ _ us hl => match us, hl with | [_, _], _ => rfl,
    PySem.W.mg_of X G a2,
    fun_mk (st := s_law_cell_at) l3 d3 k3,
    (fun_mk (st := s_law_cell_at) l3 d3 k3).binds (ps := ["_law_script", "_law_k"]) fun _ _ _ _ _ _ us hl => match us, hl with | [_, _], _ => rfl,
    PySem.W.mg_of X G a3,
    fun_mk (st := s_law_whole) l4 d4 k4,
    (fun_mk (st := s_law_whole) l4 d4 k4).binds (ps := ["_law_found"]) fun _ _ _ _ _ _ us hl => match us, hl with | [_], _ => rfl,
    PySem.W.mg_of X G a4,
    fun_mk (st := s_law) l5 d5 k5,
    (fun_mk (st := s_law) l5 d5 k5).binds (ps := ["_law_script"]) fun _ _ _ _ _ _ us hl => match us, hl with | [_], _ => rfl,
    PySem.W.mg_of X G a5,
    PySem.W.mg_none_of X G n_bool,
    PySem.W.mg_none_of X G n_int,
    PySem.W.mg_none_of X G n_isinstance,
    PySem.W.mg_none_of X G n_len,
    PySem.W.mg_none_of X G n_range⟩
  exact ⟨_, fun s v => .of_eq rfl, fun base _ _ => ok_law T⟩
theorem walk {l : PySem.W.OpenLaw} {q : Program} {loose : List Str} {XP : (Str → Option Value) → Heap → Prop} {YP : World → Heap → Prop} {d : DefRec} {K : Params → PySem.W.Frag} (hn : l.most = some 63) (hdf : d.params.defaults = [])
    (hY : ∀ (w : World) (h : Heap), YP w h → (K w.params).In h)
    (F : ∀ (w : World) (mg : Str → Option Value) (fa : Addr) (h : Heap), (K w.params).In h → h.Ns mainGlobals mg → mg d.name = some (.ref fa) →
      ∃ fd : FuncData, (∀ (s : Shared) (u : Value), BindsTo s fd ⟨[u], []⟩ [("_law_script", u)]) ∧ ∀ base : Heap, (K w.params).In base → base.Ns mainGlobals mg → FnOk l.prog w (K w.params) mg base CX0 3 fa fd ["_law_script"] (spLaw (K w.params))) :
    PySem.W.WalkO q loose XP YP l.row.toRowW d [] (fun f vs => PySem.call f vs) :=
  L2.walk_of (n := 63) (k := 3) (x := "_law_script") (CX := fun _ => CX0) (sp := fun w => spLaw (K w.params)) hn (by decide) hdf ⟨rfl, by decide, by decide⟩ hY F (fun _ _ a ns hl _ hS => ⟨a, ns, rfl, hS, hl, fun _ => rfl⟩) fun _ _ _ _ _ z => z

end Law

open PySem PySem.W PyProof.Rows
set_option maxRecDepth 100000 in
set_option maxHeartbeats 0 in
theorem PySem.Challenge.cw_slotbook_k25_stamps_that_go_one_way_holds : PySem.Challenge.rw_slotbook_k25_stamps_that_go_one_way.Holds := by
  w_on; o_law; k_head; (case hw => w_witness2)
  k_fill
  refine Law.walk (l := PySem.Challenge.rw_slotbook_k25_stamps_that_go_one_way) rfl rfl (fun w h Y => PySem.W.kIn_of Y) ?F
  case F =>
    intro w mg fa h KX G hmg
    refine' Law.all_mk KX G hmg ?a0 ?l0 ?d0 ?k0 ?a1 ?l1 ?d1 ?k1 ?a2 ?l2 ?d2 ?k2 ?a3 ?l3 ?d3 ?k3 ?a4 ?l4 ?d4 ?k4 ?a5 ?l5 ?d5 ?k5 ?n_bool ?n_int ?n_isinstance ?n_len ?n_range
    (case a0 => k_is)
    (case l0 => k_is)
    (case d0 => k_is)
    (case k0 => k_is)
    (case a1 => k_is)
    (case l1 => k_is)
    (case d1 => k_is)
    (case k1 => k_is)
    (case a2 => k_is)
    (case l2 => k_is)
    (case d2 => k_is)
    (case k2 => k_is)
    (case a3 => k_is)
    (case l3 => k_is)
    (case d3 => k_is)
    (case k3 => k_is)
    (case a4 => k_is)
    (case l4 => k_is)
    (case d4 => k_is)
    (case k4 => k_is)
    (case a5 => k_is)
    (case l5 => k_is)
    (case d5 => k_is)
    (case k5 => k_is)
    (case n_bool => k_is)
    (case n_int => k_is)
    (case n_isinstance => k_is)
    (case n_len => k_is)
    (case n_range => k_is)
