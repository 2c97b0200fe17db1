import PyProof.Rows.All
import Wide.All
import OpenK.AllK
import Wide.FinOn
import HandS.ForMost
import HandS.IsInst
import HandS.Wide
import HandS.Walk
import HandS.SetKeys
import HandS.Style
import HandS.Codes
import KE.KBits
import HandS.Deep
import HandS.Iter
import HandS.Zip
import HandS.Dict
import PySem.Challenge.RW_slotbook_k33_whole_no_slot_twice
set_option Elab.async false
set_option linter.all false
set_option maxRecDepth 100000
set_option maxHeartbeats 4000000
namespace My
open PySem PySem.Spec PyProof.Rows L2
section
variable {X : Cx}
theorem op_mulX : OpR X (binaryOp .Mult) (rI IntMulOk fun i j => .int (i * j)) := opI fun _ _ _ _ _ _ _ hc q => mul_int q hc
theorem mulL {i j : Int} (h1 : -(2 ^ 64) < i) (h2 : i < 2 ^ 64) : IntMulOk i j := .of_left (intBits_le_64 h1 h2)
theorem mulR {i j : Int} (h1 : -(2 ^ 64) < j) (h2 : j < 2 ^ 64) : IntMulOk i j := .of_right (intBits_le_64 h1 h2)
end
section
variable {σ : L2.St} {H : Hp} {Q : VK} {QT : Bool → Hp → Prop} {D : Ends} {ta tb te : TE} {t u c : TT} {s1 s2 : TS} {K : PySem.W.Frag}
theorem rd_var {i : Nat} : tVar i σ H Q = (match σ[i]? with | some (some v) => Q v H | _ => False) := by
  unfold tVar
  apply propext
  constructor
  · rintro ⟨v, e, q⟩
    rw [e]; exact q
  · intro h
    split at h
    · rename_i v e
      exact ⟨v, e, h⟩
    · exact h.elim
theorem rd_c {v : V} : tC v σ H Q = Q v H := rfl
theorem rd_op {r : R2} : tOp r ta tb σ H Q = ta σ H fun x H1 => tb σ H1 fun y H2 => r x y H2 Q := rfl
theorem rd_un {r : V → Hp → VK → Prop} : tUn r ta σ H Q = ta σ H fun x H1 => r x H1 Q := rfl
theorem rd_rI {C : Int → Int → Prop} {g : Int → Int → V} {i j : Int} : rI C g (.int i) (.int j) H Q = (C i j ∧ Q (g i j) H) := by
  unfold rI
  apply propext
  constructor
  · rintro ⟨a, b, e1, e2, q⟩
    cases e1; cases e2; exact q
  · intro q
    exact ⟨i, j, rfl, rfl, q⟩
theorem rd_rI0 {g : Int → Int → V} {i j : Int} : rI0 g (.int i) (.int j) H Q = Q (g i j) H := by
  unfold rI0
  apply propext
  constructor
  · rintro ⟨a, b, e1, e2, q⟩
    cases e1; cases e2; exact q
  · intro q
    exact ⟨i, j, rfl, rfl, q⟩
theorem rd_rU {g : Int → V} {i : Int} : rU g (.int i) H Q = Q (g i) H := by
  unfold rU
  apply propext
  constructor
  · rintro ⟨a, e1, q⟩
    cases e1; exact q
  · intro q
    exact ⟨i, rfl, q⟩
theorem rd_eq {x y : V} : rEq x y H Q = (scal x y = true ∧ Q (.bl (decide (x = y))) H) := rfl
theorem rd_ne {x y : V} : rNe x y H Q = (scal x y = true ∧ Q (.bl (!decide (x = y))) H) := rfl
def isBl (x : V) (f : Bool → Prop) : Prop := match x with | .bl k => f k | _ => False
theorem rd_isBl {k : Bool} {f : Bool → Prop} : isBl (.bl k) f = f k := rfl
theorem isBl_eq {x : V} {f : Bool → Prop} : (∃ k, x = .bl k ∧ f k) = isBl x f := by
  apply propext
  constructor
  · rintro ⟨k, rfl, q⟩; exact q
  · intro q
    cases x with
    | bl k => exact ⟨k, rfl, q⟩
    | _ => exact q.elim
theorem rd_test : tTest ta σ H QT = ta σ H fun x H' => isBl x fun k => QT k H' := by
  unfold tTest
  simp only [isBl_eq]
theorem rd_B : tB ta σ H QT = ta σ H fun x H' => isBl x fun k => QT k H' := by
  unfold tB
  simp only [isBl_eq]
theorem rd_and : tAnd t u σ H QT = t σ H fun c H1 => if c = true then u σ H1 QT else QT false H1 := rfl
theorem rd_or : tOr t u σ H QT = t σ H fun c H1 => if c = true then QT true H1 else u σ H1 QT := rfl
theorem rd_not : tNot t σ H QT = t σ H fun c H1 => QT (!c) H1 := rfl
theorem rd_andV : tAndV ta tb σ H Q = ta σ H fun x H1 => isBl x fun c => if c = true then tb σ H1 Q else Q (.bl false) H1 := by
  unfold tAndV; simp only [isBl_eq]
theorem rd_orV : tOrV ta tb σ H Q = ta σ H fun x H1 => isBl x fun c => if c = true then Q (.bl true) H1 else tb σ H1 Q := by
  unfold tOrV; simp only [isBl_eq]
theorem rd_notV : tNotV ta σ H Q = ta σ H fun x H1 => isBl x fun c => Q (.bl (!c)) H1 := by
  unfold tNotV; simp only [isBl_eq]
theorem rd_ifE : tIf t ta tb σ H Q = t σ H fun c H1 => if c = true then ta σ H1 Q else tb σ H1 Q := rfl
theorem rd_chain {r r' : R2} {tc : TE} : tChain r r' ta tb tc σ H Q = ta σ H fun x H1 => tb σ H1 fun y H2 => r x y H2 fun z H3 => isBl z fun k => if k = true then tc σ H3 fun w' H4 => r' y w' H4 Q else Q (.bl false) H3 := by
  unfold tChain; simp only [isBl_eq]
theorem rd_ifS : tIfS c s1 s2 D σ H = c σ H fun b H1 => if b = true then s1 D σ H1 else s2 D σ H1 := rfl
theorem rd_ret : tRet te D σ H = te σ H D.rt := rfl
theorem rd_retN : tRetN D σ H = D.rt .non H := rfl
theorem rd_seq : tSeq s1 s2 D σ H = s1 { D with nx := s2 D } σ H := rfl
theorem rd_next : tNext D σ H = D.nx σ H := rfl
theorem rd_break : tBreak D σ H = D.bk σ H := rfl
theorem rd_cont : tCont D σ H = D.ct σ H := rfl
theorem rd_drop : tDrop te D σ H = te σ H fun _ H1 => D.nx σ H1 := rfl
theorem rd_asg {g : TG} : tAsg te g D σ H = te σ H fun x H1 => g x σ H1 D.nx := rfl
theorem rd_gName {i : Nat} {v : V} {R : L2.St → Hp → Prop} : gName i v σ H R = R (σ.set i (some v)) H := rfl
theorem rd_nil {R : List V → Hp → Prop} : tNil σ H R = R [] H := rfl
theorem rd_cons {tr : TA} {R : List V → Hp → Prop} : tCons te tr σ H R = te σ H fun x H1 => tr σ H1 fun xs H2 => R (x :: xs) H2 := rfl
theorem rd_call {sp : Sp} {dvs : List V} {E : XK} {tr : TA} : tCall sp dvs E tr σ H Q = tr σ H fun vs H1 => sp (vs ++ dvs) H1 Q E := rfl
theorem rd_CB {r : List V → Hp → VK → Prop} {tr : TA} : tCB r tr σ H Q = tr σ H fun vs H1 => r vs H1 Q := rfl
theorem V_int_inj {a b : Int} : (V.int a = V.int b) = (a = b) := by simp
theorem V_bl_inj {a b : Bool} : (V.bl a = V.bl b) = (a = b) := by simp
theorem V_str_inj {a b : Str} : (V.str a = V.str b) = (a = b) := by simp
theorem scal_ii {a b : Int} : scal (.int a) (.int b) = true := rfl
theorem scal_bb {a b : Bool} : scal (.bl a) (.bl b) = true := rfl
theorem scal_ss {a b : Str} : scal (.str a) (.str b) = true := rfl
end
end My
/-! what is read further -/
namespace My
open PySem PySem.Spec PyProof.Rows L2
section
variable {σ : L2.St} {H : Hp} {Q : VK} {QT : Bool → Hp → Prop} {D : Ends} {ta tb te : TE} {t u c : TT} {s1 s2 : TS} {K : PySem.W.Frag}
/-! types of values -/
def tyS (x : V) (H : Hp) : Option String := match x with
  | .non => some "NoneType"
  | .bl _ => some "bool"
  | .int _ => some "int"
  | .str _ => some "str"
  | .ref a => match H a with
    | some (.lst _) => some "list"
    | some (.tup _) => some "tuple"
    | some (.dK _) => some "dict"
    | some (.frz _ (.lst _)) => some "list"
    | _ => none
  | _ => none
theorem tyS_ok {x : V} {t : String} (h : tyS x H = some t) : TyX K H x (.type t) := by
  cases x with
  | non => cases h; exact .base .non
  | bl b => cases h; exact .base (.bl b)
  | int i => cases h; exact .base (.int i)
  | str i => cases h; exact .base (.str i)
  | ref a =>
    unfold tyS at h
    cases e : H a with
    | none => simp [e] at h
    | some o =>
      cases o with
      | lst xs => simp [e] at h; subst h; exact .base (.lst e)
      | tup xs => simp [e] at h; subst h; exact .base (.tup e)
      | dK xs => simp [e] at h; subst h; exact .base (.dK e)
      | frz o u =>
        cases u with
        | lst xs => simp [e] at h; subst h; exact .base (.frz e)
        | _ => simp [e] at h
      | _ => simp [e] at h
  | _ => cases h
/-- isinstance with a built-in type -/
def isiF (x : V) (n : String) (H : Hp) (f : Bool → Prop) : Prop := match tyS x H with
  | some t => (match kitB t n with | some b => f b | none => False)
  | none => False
def rIsiF : List V → Hp → VK → Prop := fun xs H Q => match xs with
  | [x, .ty n] => isiF x n H fun b => Q (.bl b) H
  | _ => False
theorem rd_isiF {x : V} {n : String} : rIsiF [x, .ty n] H Q = isiF x n H fun b => Q (.bl b) H := rfl
theorem call_isiF {X : Cx} : CallR X (.builtin "isinstance") rIsiF := by
  intro pins s σ H xs us Q I r h
  refine call_isi pins s σ H xs us Q I r ?_
  unfold rIsiF at h
  split at h
  · rename_i x n
    unfold isiF at h
    split at h
    · rename_i t e
      split at h
      · rename_i b e2
        exact ⟨x, .ty n, _, _, b, rfl, .ty n, tyS_ok e, kit_ty e2, h⟩
      · exact h.elim
    · exact h.elim
  · exact h.elim
theorem isi_non_int {f : Bool → Prop} : isiF .non "int" H f = f false := by
  have e : kitB "NoneType" "int" = some false := by decide +kernel
  simp only [isiF, tyS, e]
theorem isi_non_bool {f : Bool → Prop} : isiF .non "bool" H f = f false := by
  have e : kitB "NoneType" "bool" = some false := by decide +kernel
  simp only [isiF, tyS, e]
theorem isi_non_str {f : Bool → Prop} : isiF .non "str" H f = f false := by
  have e : kitB "NoneType" "str" = some false := by decide +kernel
  simp only [isiF, tyS, e]
theorem isi_non_tuple {f : Bool → Prop} : isiF .non "tuple" H f = f false := by
  have e : kitB "NoneType" "tuple" = some false := by decide +kernel
  simp only [isiF, tyS, e]
theorem isi_non_list {f : Bool → Prop} : isiF .non "list" H f = f false := by
  have e : kitB "NoneType" "list" = some false := by decide +kernel
  simp only [isiF, tyS, e]
theorem isi_non_dict {f : Bool → Prop} : isiF .non "dict" H f = f false := by
  have e : kitB "NoneType" "dict" = some false := by decide +kernel
  simp only [isiF, tyS, e]
theorem isi_bl_int {b : Bool} {f : Bool → Prop} : isiF (.bl b) "int" H f = f true := by
  have e : kitB "bool" "int" = some true := by decide +kernel
  simp only [isiF, tyS, e]
theorem isi_bl_bool {b : Bool} {f : Bool → Prop} : isiF (.bl b) "bool" H f = f true := by
  have e : kitB "bool" "bool" = some true := by decide +kernel
  simp only [isiF, tyS, e]
theorem isi_bl_str {b : Bool} {f : Bool → Prop} : isiF (.bl b) "str" H f = f false := by
  have e : kitB "bool" "str" = some false := by decide +kernel
  simp only [isiF, tyS, e]
theorem isi_bl_tuple {b : Bool} {f : Bool → Prop} : isiF (.bl b) "tuple" H f = f false := by
  have e : kitB "bool" "tuple" = some false := by decide +kernel
  simp only [isiF, tyS, e]
theorem isi_bl_list {b : Bool} {f : Bool → Prop} : isiF (.bl b) "list" H f = f false := by
  have e : kitB "bool" "list" = some false := by decide +kernel
  simp only [isiF, tyS, e]
theorem isi_bl_dict {b : Bool} {f : Bool → Prop} : isiF (.bl b) "dict" H f = f false := by
  have e : kitB "bool" "dict" = some false := by decide +kernel
  simp only [isiF, tyS, e]
theorem isi_int_int {i : Int} {f : Bool → Prop} : isiF (.int i) "int" H f = f true := by
  have e : kitB "int" "int" = some true := by decide +kernel
  simp only [isiF, tyS, e]
theorem isi_int_bool {i : Int} {f : Bool → Prop} : isiF (.int i) "bool" H f = f false := by
  have e : kitB "int" "bool" = some false := by decide +kernel
  simp only [isiF, tyS, e]
theorem isi_int_str {i : Int} {f : Bool → Prop} : isiF (.int i) "str" H f = f false := by
  have e : kitB "int" "str" = some false := by decide +kernel
  simp only [isiF, tyS, e]
theorem isi_int_tuple {i : Int} {f : Bool → Prop} : isiF (.int i) "tuple" H f = f false := by
  have e : kitB "int" "tuple" = some false := by decide +kernel
  simp only [isiF, tyS, e]
theorem isi_int_list {i : Int} {f : Bool → Prop} : isiF (.int i) "list" H f = f false := by
  have e : kitB "int" "list" = some false := by decide +kernel
  simp only [isiF, tyS, e]
theorem isi_int_dict {i : Int} {f : Bool → Prop} : isiF (.int i) "dict" H f = f false := by
  have e : kitB "int" "dict" = some false := by decide +kernel
  simp only [isiF, tyS, e]
theorem isi_str_int {z : Str} {f : Bool → Prop} : isiF (.str z) "int" H f = f false := by
  have e : kitB "str" "int" = some false := by decide +kernel
  simp only [isiF, tyS, e]
theorem isi_str_bool {z : Str} {f : Bool → Prop} : isiF (.str z) "bool" H f = f false := by
  have e : kitB "str" "bool" = some false := by decide +kernel
  simp only [isiF, tyS, e]
theorem isi_str_str {z : Str} {f : Bool → Prop} : isiF (.str z) "str" H f = f true := by
  have e : kitB "str" "str" = some true := by decide +kernel
  simp only [isiF, tyS, e]
theorem isi_str_tuple {z : Str} {f : Bool → Prop} : isiF (.str z) "tuple" H f = f false := by
  have e : kitB "str" "tuple" = some false := by decide +kernel
  simp only [isiF, tyS, e]
theorem isi_str_list {z : Str} {f : Bool → Prop} : isiF (.str z) "list" H f = f false := by
  have e : kitB "str" "list" = some false := by decide +kernel
  simp only [isiF, tyS, e]
theorem isi_str_dict {z : Str} {f : Bool → Prop} : isiF (.str z) "dict" H f = f false := by
  have e : kitB "str" "dict" = some false := by decide +kernel
  simp only [isiF, tyS, e]
theorem isi_lst_int {a : Addr} {xs : List V} (h : H a = some (.lst xs)) {f : Bool → Prop} : isiF (.ref a) "int" H f = f false := by
  have e : kitB "list" "int" = some false := by decide +kernel
  simp only [isiF, tyS, h, e]
theorem isi_lst_bool {a : Addr} {xs : List V} (h : H a = some (.lst xs)) {f : Bool → Prop} : isiF (.ref a) "bool" H f = f false := by
  have e : kitB "list" "bool" = some false := by decide +kernel
  simp only [isiF, tyS, h, e]
theorem isi_lst_str {a : Addr} {xs : List V} (h : H a = some (.lst xs)) {f : Bool → Prop} : isiF (.ref a) "str" H f = f false := by
  have e : kitB "list" "str" = some false := by decide +kernel
  simp only [isiF, tyS, h, e]
theorem isi_lst_tuple {a : Addr} {xs : List V} (h : H a = some (.lst xs)) {f : Bool → Prop} : isiF (.ref a) "tuple" H f = f false := by
  have e : kitB "list" "tuple" = some false := by decide +kernel
  simp only [isiF, tyS, h, e]
theorem isi_lst_list {a : Addr} {xs : List V} (h : H a = some (.lst xs)) {f : Bool → Prop} : isiF (.ref a) "list" H f = f true := by
  have e : kitB "list" "list" = some true := by decide +kernel
  simp only [isiF, tyS, h, e]
theorem isi_lst_dict {a : Addr} {xs : List V} (h : H a = some (.lst xs)) {f : Bool → Prop} : isiF (.ref a) "dict" H f = f false := by
  have e : kitB "list" "dict" = some false := by decide +kernel
  simp only [isiF, tyS, h, e]
theorem isi_tup_int {a : Addr} {xs : List V} (h : H a = some (.tup xs)) {f : Bool → Prop} : isiF (.ref a) "int" H f = f false := by
  have e : kitB "tuple" "int" = some false := by decide +kernel
  simp only [isiF, tyS, h, e]
theorem isi_tup_bool {a : Addr} {xs : List V} (h : H a = some (.tup xs)) {f : Bool → Prop} : isiF (.ref a) "bool" H f = f false := by
  have e : kitB "tuple" "bool" = some false := by decide +kernel
  simp only [isiF, tyS, h, e]
theorem isi_tup_str {a : Addr} {xs : List V} (h : H a = some (.tup xs)) {f : Bool → Prop} : isiF (.ref a) "str" H f = f false := by
  have e : kitB "tuple" "str" = some false := by decide +kernel
  simp only [isiF, tyS, h, e]
theorem isi_tup_tuple {a : Addr} {xs : List V} (h : H a = some (.tup xs)) {f : Bool → Prop} : isiF (.ref a) "tuple" H f = f true := by
  have e : kitB "tuple" "tuple" = some true := by decide +kernel
  simp only [isiF, tyS, h, e]
theorem isi_tup_list {a : Addr} {xs : List V} (h : H a = some (.tup xs)) {f : Bool → Prop} : isiF (.ref a) "list" H f = f false := by
  have e : kitB "tuple" "list" = some false := by decide +kernel
  simp only [isiF, tyS, h, e]
theorem isi_tup_dict {a : Addr} {xs : List V} (h : H a = some (.tup xs)) {f : Bool → Prop} : isiF (.ref a) "dict" H f = f false := by
  have e : kitB "tuple" "dict" = some false := by decide +kernel
  simp only [isiF, tyS, h, e]
theorem isi_dK_int {a : Addr} {kvs : List (Key × V)} (h : H a = some (.dK kvs)) {f : Bool → Prop} : isiF (.ref a) "int" H f = f false := by
  have e : kitB "dict" "int" = some false := by decide +kernel
  simp only [isiF, tyS, h, e]
theorem isi_dK_bool {a : Addr} {kvs : List (Key × V)} (h : H a = some (.dK kvs)) {f : Bool → Prop} : isiF (.ref a) "bool" H f = f false := by
  have e : kitB "dict" "bool" = some false := by decide +kernel
  simp only [isiF, tyS, h, e]
theorem isi_dK_str {a : Addr} {kvs : List (Key × V)} (h : H a = some (.dK kvs)) {f : Bool → Prop} : isiF (.ref a) "str" H f = f false := by
  have e : kitB "dict" "str" = some false := by decide +kernel
  simp only [isiF, tyS, h, e]
theorem isi_dK_tuple {a : Addr} {kvs : List (Key × V)} (h : H a = some (.dK kvs)) {f : Bool → Prop} : isiF (.ref a) "tuple" H f = f false := by
  have e : kitB "dict" "tuple" = some false := by decide +kernel
  simp only [isiF, tyS, h, e]
theorem isi_dK_list {a : Addr} {kvs : List (Key × V)} (h : H a = some (.dK kvs)) {f : Bool → Prop} : isiF (.ref a) "list" H f = f false := by
  have e : kitB "dict" "list" = some false := by decide +kernel
  simp only [isiF, tyS, h, e]
theorem isi_dK_dict {a : Addr} {kvs : List (Key × V)} (h : H a = some (.dK kvs)) {f : Bool → Prop} : isiF (.ref a) "dict" H f = f true := by
  have e : kitB "dict" "dict" = some true := by decide +kernel
  simp only [isiF, tyS, h, e]

/-! loops -/
def forGo (J : It) (g : TG) (tb : TS) (D : Ends) (σ : L2.St) (H : Hp) : Prop := ∃ W : Nat → Nat → L2.St → Hp → Prop, (∃ m, W 0 m σ H) ∧ ∀ i m σ H, W i m σ H →
  (J.stop i H ∧ D.nx σ H) ∨ (J.go i H ∧ ∃ N : L2.St → Hp → Prop, (∀ σ' H', N σ' H' → ∃ m', m' < m ∧ W (i + 1) m' σ' H') ∧ ∀ x H', J.yld i H x H' → g x σ H' fun σ2 H2 => tb { D with nx := N, ct := N, bk := D.nx } σ2 H2)
theorem rd_for {wi : TI} {g : TG} {tb : TS} : tFor wi g tb D σ H = wi σ H fun J H1 => forGo J g tb D σ H1 := rfl
def isR1 (vs : List V) (f : Int → Prop) : Prop := match vs with | [.int j] => f j | _ => False
theorem rd_isR1 {j : Int} {f : Int → Prop} : isR1 [.int j] f = f j := rfl
theorem rd_rng1 {tr : TA} {R : It → Hp → Prop} : iRng1 tr σ H R = tr σ H fun vs H1 => isR1 vs fun j => (-(2 ^ 62) ≤ j ∧ j < 2 ^ 62) ∧ R (Itr 0 j.toNat) H1 := by
  unfold iRng1
  apply congrArg
  funext vs H1
  apply propext
  constructor
  · rintro ⟨j, rfl, h1, h2, r⟩; exact ⟨⟨h1, h2⟩, r⟩
  · intro h
    unfold isR1 at h
    split at h
    · rename_i j
      exact ⟨j, rfl, h.1.1, h.1.2, h.2⟩
    · exact h.elim
def isR2 (vs : List V) (f : Int → Int → Prop) : Prop := match vs with | [.int i, .int j] => f i j | _ => False
theorem rd_isR2 {i j : Int} {f : Int → Int → Prop} : isR2 [.int i, .int j] f = f i j := rfl
theorem rd_rng2 {tr : TA} {R : It → Hp → Prop} : iRng2 tr σ H R = tr σ H fun vs H1 => isR2 vs fun i j => (-(2 ^ 62) ≤ i ∧ i < 2 ^ 62 ∧ -(2 ^ 62) ≤ j ∧ j < 2 ^ 62) ∧ R (Itr i (j - i).toNat) H1 := by
  unfold iRng2
  apply congrArg
  funext vs H1
  apply propext
  constructor
  · rintro ⟨i, j, rfl, h1, r⟩; exact ⟨h1, r⟩
  · intro h
    unfold isR2 at h
    split at h
    · rename_i i j
      exact ⟨i, j, rfl, h.1, h.2⟩
    · exact h.elim
def isRef (x : V) (f : Addr → Prop) : Prop := match x with | .ref a => f a | _ => False
theorem rd_isRef {a : Addr} {f : Addr → Prop} : isRef (.ref a) f = f a := rfl
theorem isRef_eq {x : V} {f : Addr → Prop} : (∃ a, x = .ref a ∧ f a) = isRef x f := by
  apply propext
  constructor
  · rintro ⟨a, rfl, h⟩; exact h
  · intro h
    cases x with
    | ref a => exact ⟨a, rfl, h⟩
    | _ => exact h.elim
theorem rd_iList {R : It → Hp → Prop} : iList K te σ H R = te σ H fun x H1 => isRef x fun a => (∃ xs, SqL K H1 a xs) ∧ R (Itl K a) H1 := by
  unfold iList
  simp only [isRef_eq]
theorem rd_iTup {R : It → Hp → Prop} : iTup K te σ H R = te σ H fun x H1 => isRef x fun a => (∃ xs, SqT K H1 a xs) ∧ R (Itt K a) H1 := by
  unfold iTup
  simp only [isRef_eq]
def isStr (x : V) (f : Str → Prop) : Prop := match x with | .str a => f a | _ => False
theorem rd_isStr {a : Str} {f : Str → Prop} : isStr (.str a) f = f a := rfl
theorem isStr_eq {x : V} {f : Str → Prop} : (∃ a, x = .str a ∧ f a) = isStr x f := by
  apply propext
  constructor
  · rintro ⟨a, rfl, h⟩; exact h
  · intro h
    cases x with
    | str a => exact ⟨a, rfl, h⟩
    | _ => exact h.elim
theorem rd_iStr {R : It → Hp → Prop} : iStr te σ H R = te σ H fun x H1 => isStr x fun z => R (Its z) H1 := by
  unfold iStr
  simp only [isStr_eq]
theorem go_it {J : It} {n : Nat} {G : Hp → Prop} {Y : Nat → Hp → V → Hp → Prop} (w : L2.Walk J n G Y) {g : TG} {tb : TS} (Pv : Nat → L2.St → Hp → Prop) (h0 : Pv 0 σ H) (hG : ∀ i σ H, i ≤ n → Pv i σ H → G H)
    (hs : ∀ (N : L2.St → Hp → Prop) i x σ H H', i < n → Pv i σ H → Y i H x H' → (∀ σ' H', Pv (i + 1) σ' H' → N σ' H') → g x σ H' fun σ2 H2 => tb { D with nx := N, ct := N, bk := D.nx } σ2 H2) (hd : ∀ σ H, Pv n σ H → D.nx σ H) : forGo J g tb D σ H :=
  L2.for_it w Pv h0 hG (fun i x σ H H' h1 h2 h3 => hs _ i x σ H H' h1 h2 h3 fun _ _ z => z) hd
theorem go_range {lo : Int} {n : Nat} {g : TG} {tb : TS} (Pv : Nat → L2.St → Hp → Prop) (h0 : Pv 0 σ H)
    (hs : ∀ (N : L2.St → Hp → Prop) (i : Nat) σ H, i < n → Pv i σ H → (∀ σ' H', Pv (i + 1) σ' H' → N σ' H') → g (.int (lo + i)) σ H fun σ2 H2 => tb { D with nx := N, ct := N, bk := D.nx } σ2 H2) (hd : ∀ σ H, Pv n σ H → D.nx σ H) : forGo (Itr lo n) g tb D σ H :=
  for_range Pv h0 (fun i σ H h1 h2 => hs _ i σ H h1 h2 fun _ _ z => z) hd
theorem go_list {a : Addr} {xs : List V} {g : TG} {tb : TS} (Pv : Nat → L2.St → Hp → Prop) (h0 : Pv 0 σ H) (hl : ∀ i σ H, i ≤ xs.length → Pv i σ H → SqL K H a xs)
    (hs : ∀ (N : L2.St → Hp → Prop) i x σ H, xs[i]? = some x → Pv i σ H → (∀ σ' H', Pv (i + 1) σ' H' → N σ' H') → g x σ H fun σ2 H2 => tb { D with nx := N, ct := N, bk := D.nx } σ2 H2) (hd : ∀ σ H, Pv xs.length σ H → D.nx σ H) : forGo (Itl K a) g tb D σ H :=
  for_list Pv h0 hl (fun i x σ H h1 h2 => hs _ i x σ H h1 h2 fun _ _ z => z) hd
theorem go_tup {a : Addr} {xs : List V} {g : TG} {tb : TS} (Pv : Nat → L2.St → Hp → Prop) (h0 : Pv 0 σ H) (hl : ∀ i σ H, i ≤ xs.length → Pv i σ H → SqT K H a xs)
    (hs : ∀ (N : L2.St → Hp → Prop) i x σ H, xs[i]? = some x → Pv i σ H → (∀ σ' H', Pv (i + 1) σ' H' → N σ' H') → g x σ H fun σ2 H2 => tb { D with nx := N, ct := N, bk := D.nx } σ2 H2) (hd : ∀ σ H, Pv xs.length σ H → D.nx σ H) : forGo (Itt K a) g tb D σ H :=
  for_tup Pv h0 hl (fun i x σ H h1 h2 => hs _ i x σ H h1 h2 fun _ _ z => z) hd
/-! sequences -/
/-- p is new at H -/
def Fresh (H : Hp) (p : Addr) : Prop := H p = none
theorem Fresh.ne {H : Hp} {p a : Addr} {o : HO} (f : Fresh H p) (h : H a = some o) : a ≠ p := ne_of_none h f
theorem rd_lst {tr : TA} : tLst tr σ H Q = tr σ H fun xs H1 => xs.length ≤ sizeLine ∧ ∀ p, Fresh H1 p → Q (.ref p) (upd H1 p (.lst xs)) := rfl
theorem rd_tup {tr : TA} : tTup tr σ H Q = tr σ H fun xs H1 => xs.length ≤ sizeLine ∧ ∀ p, Fresh H1 p → Q (.ref p) (upd H1 p (.tup xs)) := rfl
theorem rd_cat {l b : Addr} : rCat (.ref l) (.ref b) H Q = ∃ xs zs, H l = some (.lst xs) ∧ H b = some (.lst zs) ∧ xs.length + zs.length ≤ sizeLine ∧ ∀ p, Fresh H p → Q (.ref p) (upd H p (.lst (xs ++ zs))) := by
  unfold rCat
  apply propext
  constructor
  · rintro ⟨l', b', xs, zs, e1, e2, q⟩; cases e1; cases e2; exact ⟨xs, zs, q⟩
  · rintro ⟨xs, zs, q⟩; exact ⟨l, b, xs, zs, rfl, rfl, q⟩
theorem rd_ixL {p : Addr} {i : Int} : rIxL K (.ref p) (.int i) H Q = ∃ xs v, SqL K H p xs ∧ atI xs i = some v ∧ Q v H := by
  unfold rIxL
  apply propext
  constructor
  · rintro ⟨p', xs, i', v, e1, e2, q⟩; cases e1; cases e2; exact ⟨xs, v, q⟩
  · rintro ⟨xs, v, q⟩; exact ⟨p, xs, i, v, rfl, rfl, q⟩
theorem rd_sl {r : V → Option Int → Option Int → Hp → VK → Prop} {tl th : TO} : tSl r te tl th σ H Q = te σ H fun x H1 => tl σ H1 fun l H2 => th σ H2 fun u H3 => r x l u H3 Q := rfl
theorem rd_noPart {R : Option Int → Hp → Prop} : tNoPart σ H R = R none H := rfl
def isInt (x : V) (f : Int → Prop) : Prop := match x with | .int a => f a | _ => False
theorem rd_isInt {a : Int} {f : Int → Prop} : isInt (.int a) f = f a := rfl
theorem isInt_eq {x : V} {f : Int → Prop} : (∃ a, x = .int a ∧ f a) = isInt x f := by
  apply propext
  constructor
  · rintro ⟨a, rfl, h⟩; exact h
  · intro h
    cases x with
    | int a => exact ⟨a, rfl, h⟩
    | _ => exact h.elim
theorem rd_part {R : Option Int → Hp → Prop} : tPart te σ H R = te σ H fun x H1 => isInt x fun i => R (some i) H1 := by
  unfold tPart
  simp only [isInt_eq]
theorem rd_slL {a : Addr} {lo hi : Option Int} : rSlL K (.ref a) lo hi H Q = ∃ xs, SqL K H a xs ∧ ∀ p, Fresh H p → Q (.ref p) (upd H p (.lst (cutV xs lo hi))) := by
  unfold rSlL
  apply propext
  constructor
  · rintro ⟨a', xs, e1, q⟩; cases e1; exact ⟨xs, q⟩
  · rintro ⟨xs, q⟩; exact ⟨a, xs, rfl, q⟩
def rLen (K : PySem.W.Frag) : List V → Hp → VK → Prop := fun xs H Q => ∃ p ys, xs = [.ref p] ∧ (SqL K H p ys ∨ SqT K H p ys) ∧ Q (.int ys.length) H
theorem call_lenq {X : Cx} : CallR X (.builtin "len") (rLen X.K) := call_len_seq
theorem rd_len {p : Addr} : rLen K [.ref p] H Q = ∃ ys, (SqL K H p ys ∨ SqT K H p ys) ∧ Q (.int ys.length) H := by
  unfold rLen
  apply propext
  constructor
  · rintro ⟨p', ys, e, q⟩; cases e; exact ⟨ys, q⟩
  · rintro ⟨ys, q⟩; exact ⟨p, ys, rfl, q⟩
/-! promises -/
def spI1 (Pre : Int → Prop) (f : Int → V) : Sp := fun vs H Q _ => ∃ a, vs = [.int a] ∧ Pre a ∧ Q (f a) H
def spI2 (Pre : Int → Int → Prop) (f : Int → Int → V) : Sp := fun vs H Q _ => ∃ a b, vs = [.int a, .int b] ∧ Pre a b ∧ Q (f a b) H
def spI3 (Pre : Int → Int → Int → Prop) (f : Int → Int → Int → V) : Sp := fun vs H Q _ => ∃ a b c, vs = [.int a, .int b, .int c] ∧ Pre a b c ∧ Q (f a b c) H
def spI4 (Pre : Int → Int → Int → Int → Prop) (f : Int → Int → Int → Int → V) : Sp := fun vs H Q _ => ∃ a b c d, vs = [.int a, .int b, .int c, .int d] ∧ Pre a b c d ∧ Q (f a b c d) H
variable {E : XK}
theorem rd_spI1 {Pre : Int → Prop} {f : Int → V} {a : Int} : spI1 Pre f [.int a] H Q E = (Pre a ∧ Q (f a) H) := by
  unfold spI1
  apply propext
  constructor
  · rintro ⟨a', e, q⟩; cases e; exact q
  · intro q; exact ⟨a, rfl, q⟩
theorem rd_spI2 {Pre : Int → Int → Prop} {f : Int → Int → V} {a b : Int} : spI2 Pre f [.int a, .int b] H Q E = (Pre a b ∧ Q (f a b) H) := by
  unfold spI2
  apply propext
  constructor
  · rintro ⟨a', b', e, q⟩; cases e; exact q
  · intro q; exact ⟨a, b, rfl, q⟩
theorem rd_spI3 {Pre : Int → Int → Int → Prop} {f : Int → Int → Int → V} {a b c : Int} : spI3 Pre f [.int a, .int b, .int c] H Q E = (Pre a b c ∧ Q (f a b c) H) := by
  unfold spI3
  apply propext
  constructor
  · rintro ⟨a', b', c', e, q⟩; cases e; exact q
  · intro q; exact ⟨a, b, c, rfl, q⟩
theorem rd_spI4 {Pre : Int → Int → Int → Int → Prop} {f : Int → Int → Int → Int → V} {a b c d : Int} : spI4 Pre f [.int a, .int b, .int c, .int d] H Q E = (Pre a b c d ∧ Q (f a b c d) H) := by
  unfold spI4
  apply propext
  constructor
  · rintro ⟨a', b', c', d', e, q⟩; cases e; exact q
  · intro q; exact ⟨a, b, c, d, rfl, q⟩
/-- a scalar: whether it is an int and no truth -/
def wholeV : V → Bool
  | .int _ => true
  | _ => false
def scalV : V → Bool
  | .int _ => true
  | .bl _ => true
  | .non => true
  | .str _ => true
  | _ => false
/-- a value whose kind is known -/
def thing (H : Hp) : V → Prop
  | .int _ => True
  | .bl _ => True
  | .non => True
  | .str _ => True
  | .ref a => (∃ xs, H a = some (.tup xs)) ∨ (∃ xs, H a = some (.lst xs)) ∨ ∃ xs, H a = some (.dK xs)
  | _ => False
def spWhole : Sp := fun vs H Q _ => ∃ x, vs = [x] ∧ thing H x ∧ Q (.bl (wholeV x)) H
theorem rd_whole {i : Int} : spWhole [.int i] H Q E = Q (.bl true) H := by
  unfold spWhole
  apply propext
  constructor
  · rintro ⟨x, e, _, q⟩; cases e; exact q
  · intro q; exact ⟨_, rfl, trivial, q⟩
/-- the law's own: a list of at most 63 ints, True -/
def spLaw (K : PySem.W.Frag) : Sp := fun vs H Q _ => ∃ (a : Addr) (ns : List Int), vs = [.ref a] ∧ SqL K H a (ns.map V.int) ∧ ns.length ≤ 63 ∧ ∀ H', Q (.bl true) H'
end
theorem len_spI1 {Pre : Int → Prop} {f : Int → V} {vs H Q E} (h : spI1 Pre f vs H Q E) : vs.length = 1 := by obtain ⟨_, rfl, _⟩ := h; rfl
theorem len_spI2 {Pre : Int → Int → Prop} {f : Int → Int → V} {vs H Q E} (h : spI2 Pre f vs H Q E) : vs.length = 2 := by obtain ⟨_, _, rfl, _⟩ := h; rfl
theorem len_spI3 {Pre : Int → Int → Int → Prop} {f : Int → Int → Int → V} {vs H Q E} (h : spI3 Pre f vs H Q E) : vs.length = 3 := by obtain ⟨_, _, _, rfl, _⟩ := h; rfl
theorem len_spI4 {Pre : Int → Int → Int → Int → Prop} {f : Int → Int → Int → Int → V} {vs H Q E} (h : spI4 Pre f vs H Q E) : vs.length = 4 := by obtain ⟨_, _, _, _, rfl, _⟩ := h; rfl
theorem len_whole {vs H Q E} (h : spWhole vs H Q E) : vs.length = 1 := by obtain ⟨_, rfl, _⟩ := h; rfl
theorem len_law {K : PySem.W.Frag} {vs H Q E} (h : spLaw K vs H Q E) : vs.length = 1 := by obtain ⟨_, _, rfl, _⟩ := h; rfl
theorem st_nil : L2.start [] [] = [] := rfl
theorem st_arg {x : Str} {N : List Str} {v : V} {vs : List V} : L2.start (x :: N) (v :: vs) = some v :: L2.start N vs := by
  unfold L2.start
  simp
theorem st_none {x : Str} {N : List Str} : L2.start (x :: N) [] = none :: L2.start N [] := by
  unfold L2.start
  simp [List.replicate_succ]
theorem cxK {CX : CXT} {P : Program} {w : World} {K : PySem.W.Frag} {mg : Str → Option Value} {base : Heap} {N : List Str} {qual : Str} {scope : Scope} {f : Addr} {cd : Value} {A : Around} {outer : List Env} {s : Shared} {H : Hp} {E : XK} :
    (cxOf CX P w K mg base N qual scope f cd A outer s H E).K = K := rfl
/-- a new object leaves what stood before -/
theorem Same_upd {H0 H : Hp} {p : Addr} {o : HO} (s : Same H0 H) (f : Fresh H p) : Same H0 (upd H p o) := fun b u e => by
  have e' := s b u e
  rw [upd_ne (f.ne e')]
  exact e'
theorem Same_fresh {H0 H : Hp} {p : Addr} (s : Same H0 H) (f : Fresh H p) : Fresh H0 p := s.free f
theorem Same_upd0 {H0 H : Hp} {p : Addr} {o : HO} (s : Same H0 H) (f : Fresh H0 p) : Same H0 (upd H p o) := fun b u e => by
  rw [upd_ne (f.ne e)]
  exact s b u e
/-- the items of a list of ints -/
theorem ints_at {ns : List Int} {i : Nat} {y : V} (h : (ns.map V.int)[i]? = some y) : ∃ n, ns[i]? = some n ∧ y = .int n := by
  rw [List.getElem?_map] at h
  cases e : ns[i]? with
  | none => rw [e] at h; cases h
  | some n => rw [e] at h; exact ⟨n, rfl, (Option.some.inj h).symm⟩
theorem cut_len (xs : List V) (lo hi : Option Int) : (cutV xs lo hi).length ≤ xs.length := cutV_length xs lo hi
theorem cut_map (ns : List Int) (lo hi : Option Int) : ∃ ms : List Int, cutV (ns.map V.int) lo hi = ms.map V.int ∧ ms.length ≤ ns.length := by
  unfold cutV
  rw [← List.map_drop, ← List.map_take]
  exact ⟨_, rfl, by rw [List.length_take, List.length_drop]; omega⟩
/-- the item of a list of ints at a place in bounds -/
def getI (xs : List Int) (i : Int) : Int := xs.getD i.toNat 0
theorem at_int {xs : List Int} {i : Int} (h0 : 0 ≤ i) (h1 : i < xs.length) : atI (xs.map V.int) i = some (.int (getI xs i)) := by
  obtain ⟨j, rfl⟩ : ∃ j : Nat, i = (j : Int) := ⟨i.toNat, by omega⟩
  have hj : j < xs.length := by omega
  refine atI_nat ?_
  rw [List.getElem?_map, List.getElem?_eq_getElem hj]
  show some (V.int xs[j]) = some (V.int (xs.getD j 0))
  rw [List.getD_eq_getElem?_getD, List.getElem?_eq_getElem hj]
  rfl
theorem iteN {c A B : Prop} [Decidable c] (h : ¬ c) (q : B) : if c then A else B := by rw [if_neg h]; exact q
theorem iteP {c A B : Prop} [Decidable c] (h : c) (q : A) : if c then A else B := by rw [if_pos h]; exact q
theorem tyL {K : PySem.W.Frag} {H : Hp} {l : Addr} {xs : List V} (h : H l = some (.lst xs)) : tyV K "list" (.ref l) H := Or.inl ⟨rfl, _, SqL.of h⟩
theorem rd_BM {K : PySem.W.Frag} {T : String} {r : V → List V → Hp → VK → Prop} {to : TE} {t : TA} {σ : L2.St} {H : Hp} {Q : VK} : tBM K T r to t σ H Q = to σ H fun x H1 => tyV K T x H1 ∧ t σ H1 fun xs H2 => r x xs H2 Q := rfl
theorem rd_BM0 {K : PySem.W.Frag} {T : String} {r : V → List V → Hp → VK → Prop} {to : TE} {σ : L2.St} {H : Hp} {Q : VK} : tBM0 K T r to σ H Q = to σ H fun x H1 => tyV K T x H1 ∧ r x [] H1 Q := rfl
theorem rd_append {l : Addr} {y : V} {H : Hp} {Q : VK} : rAppend (.ref l) [y] H Q = ∃ xs, H l = some (.lst xs) ∧ xs.length < sizeLine ∧ Q .non (upd H l (.lst (xs ++ [y]))) := by
  unfold rAppend
  apply propext
  constructor
  · rintro ⟨l', xs, y', e1, e2, q⟩; cases e1; cases e2; exact ⟨xs, q⟩
  · rintro ⟨xs, q⟩; exact ⟨l, xs, y, rfl, rfl, q⟩
theorem rd_rep {l : Addr} {k : Int} {H : Hp} {Q : VK} : rRep (.ref l) (.int k) H Q = ∃ xs, H l = some (.lst xs) ∧ -(2 ^ 63) ≤ k ∧ k < 2 ^ 63 ∧ xs.length * k.toNat ≤ sizeLine ∧ ∀ p, Fresh H p → Q (.ref p) (upd H p (.lst (List.replicate k.toNat xs).flatten)) := by
  unfold rRep
  apply propext
  constructor
  · rintro ⟨l', k', xs, e1, e2, q⟩; cases e1; cases e2; exact ⟨xs, q⟩
  · rintro ⟨xs, q⟩; exact ⟨l, k, xs, rfl, rfl, q⟩
theorem rd_gSub {to ti : TE} {t : TSet} {v : V} {σ : L2.St} {H : Hp} {R : L2.St → Hp → Prop} : gSub to ti t v σ H R = to σ H fun o H1 => ti σ H1 fun i H2 => t o i v H2 fun H3 => R σ H3 := rfl
theorem rd_setL {p : Addr} {k : Int} {v : V} {H : Hp} {R : Hp → Prop} : rSetL (.ref p) (.int k) v H R = ∃ xs j, H p = some (.lst xs) ∧ ixN xs.length k = some j ∧ R (upd H p (.lst (xs.set j v))) := by
  unfold rSetL
  apply propext
  constructor
  · rintro ⟨p', xs, k', j, e1, e2, q⟩; cases e1; cases e2; exact ⟨xs, j, q⟩
  · rintro ⟨xs, j, q⟩; exact ⟨p, xs, k, j, rfl, rfl, q⟩
theorem ixN_nat {n : Nat} {k : Int} (h0 : 0 ≤ k) (h1 : k < n) : ixN n k = some k.toNat := by
  unfold ixN
  rw [if_pos h0, if_pos (by omega)]
/-! lists of ints compared -/
theorem DpAll_ints {K : PySem.W.Frag} {H : Hp} : ∀ xs : List Int, DpAll K H (xs.map V.int) (xs.map PyData.int)
  | [] => .nil
  | x :: xs => .cons (.int x) (DpAll_ints xs)
theorem eqvAll_ints : ∀ xs ys : List Int, PyData.eqvAll (xs.map PyData.int) (ys.map PyData.int) = decide (xs = ys)
  | [], [] => by simp [PyData.eqvAll]
  | [], _ :: _ => by simp [PyData.eqvAll]
  | _ :: _, [] => by simp [PyData.eqvAll]
  | x :: xs, y :: ys => by
    show (PyData.eqv (.int x) (.int y) && PyData.eqvAll (xs.map PyData.int) (ys.map PyData.int)) = _
    rw [eqvAll_ints xs ys, PyData.eqv]
    by_cases h : x = y
    · subst h
      by_cases h2 : xs = ys
      · simp [h2]
      · simp [h2]
    · simp [h]
theorem canLay_ints : ∀ xs : List Int, PyData.canLayAll0 (xs.map PyData.int) = true
  | [] => by simp [PyData.canLayAll0]
  | x :: xs => by
    show (PyData.canLay0 (.int x) && PyData.canLayAll0 (xs.map PyData.int)) = true
    rw [canLay_ints xs, PyData.canLay0]
    rfl
theorem depth_ints : ∀ xs : List Int, PyData.depthAll (xs.map PyData.int) = 0
  | [] => by simp [PyData.depthAll]
  | x :: xs => by
    show max (PyData.depth (.int x)) (PyData.depthAll (xs.map PyData.int)) = 0
    rw [depth_ints xs, PyData.depth]
    rfl
theorem shaped_ints (xs : List Int) : SeqAt.shaped (.list (xs.map PyData.int)) = true := by
  unfold SeqAt.shaped
  rw [PyData.canLay0, canLay_ints, PyData.depth, depth_ints]
  decide
theorem eq_ints {K : PySem.W.Frag} {H : Hp} {a b : Addr} {xs ys : List Int} {Q : VK} (ha : SqL K H a (xs.map V.int)) (hb : SqL K H b (ys.map V.int)) (q : Q (.bl (decide (xs = ys))) H) : rEqD K (.ref a) (.ref b) H Q :=
  ⟨.list (xs.map PyData.int), .list (ys.map PyData.int), .lst ha (DpAll_ints xs), .lst hb (DpAll_ints ys), shaped_ints xs, shaped_ints ys, by rw [PyData.eqv, eqvAll_ints]; exact q⟩
/-- a cell of the script -/
def spCell (K : PySem.W.Frag) : Sp := fun vs H Q _ => ∃ (a : Addr) (ns : List Int) (i : Int), vs = [.ref a, .int i] ∧ SqL K H a (ns.map V.int) ∧ 0 ≤ i ∧ Q (.int (getI ns i)) H
theorem rd_spCell {K : PySem.W.Frag} {a : Addr} {i : Int} {H : Hp} {Q : VK} {E : XK} : spCell K [.ref a, .int i] H Q E = ∃ ns : List Int, SqL K H a (ns.map V.int) ∧ 0 ≤ i ∧ Q (.int (getI ns i)) H := by
  unfold spCell
  apply propext
  constructor
  · rintro ⟨a', ns, i', e, q⟩; cases e; exact ⟨ns, q⟩
  · rintro ⟨ns, q⟩; exact ⟨a, ns, i, rfl, q⟩
theorem len_cell {K : PySem.W.Frag} {vs H Q E} (h : spCell K vs H Q E) : vs.length = 2 := by obtain ⟨_, _, _, rfl, _⟩ := h; rfl
/-- a new list of ints by two ints -/
def spNew2 (Pre : Int → Int → Prop) (f : Int → Int → List Int) : Sp := fun vs H Q _ => ∃ m s, vs = [.int m, .int s] ∧ Pre m s ∧ ∀ p H', Same H H' → Fresh H p → H' p = some (.lst ((f m s).map V.int)) → Q (.ref p) H'
theorem rd_spNew2 {Pre : Int → Int → Prop} {f : Int → Int → List Int} {m s : Int} {H : Hp} {Q : VK} {E : XK} : spNew2 Pre f [.int m, .int s] H Q E = (Pre m s ∧ ∀ p H', Same H H' → Fresh H p → H' p = some (.lst ((f m s).map V.int)) → Q (.ref p) H') := by
  unfold spNew2
  apply propext
  constructor
  · rintro ⟨m', s', e, q⟩; cases e; exact q
  · intro q; exact ⟨m, s, rfl, q⟩
theorem len_new2 {Pre : Int → Int → Prop} {f : Int → Int → List Int} {vs H Q E} (h : spNew2 Pre f vs H Q E) : vs.length = 2 := by obtain ⟨_, _, rfl, _⟩ := h; rfl
theorem both {A B : Prop} (a : A) (b : B) : A ∧ B := ⟨a, b⟩
theorem iteB {c A B : Prop} [Decidable c] (h1 : c → A) (h2 : ¬ c → B) : if c then A else B := ite2 h1 h2
/-- // by a divisor of at most 4000 bits -/
theorem divB {i j : Int} (h : 0 < j) (hb : j < 2 ^ 200) : CDivW i j := wide_div (b := 201) h (by
  have e : (2 : Int) ^ 200 = ((2 ^ 200 : Nat) : Int) := by decide +kernel
  have e2 : (2 : Nat) ^ 200 ≤ 2 ^ 201 := by decide +kernel
  omega) (by decide) (by decide)
/-- any int -/
def spAny1 (Post : Int → V → Prop) : Sp := fun vs H Q _ => ∃ a, vs = [.int a] ∧ ∀ v, Post a v → Q v H
theorem rd_spAny1 {Post : Int → V → Prop} {a : Int} {H : Hp} {Q : VK} {E : XK} : spAny1 Post [.int a] H Q E = ∀ v, Post a v → Q v H := by
  unfold spAny1
  apply propext
  constructor
  · rintro ⟨a', e, q⟩; cases e; exact q
  · intro q; exact ⟨a, rfl, q⟩
theorem len_any1 {Post : Int → V → Prop} {vs H Q E} (h : spAny1 Post vs H Q E) : vs.length = 1 := by obtain ⟨_, rfl, _⟩ := h; rfl
theorem go_while {c : TT} {tb : TS} {D : Ends} {σ : L2.St} {H : Hp} (Pv : L2.St → Hp → Prop) (μ : L2.St → Hp → Nat) (h0 : Pv σ H)
    (hs : ∀ (B : Hp → Prop) σ H, Pv σ H → (∀ H1, (∀ N : L2.St → Hp → Prop, (∀ σ' H', Pv σ' H' → μ σ' H' < μ σ H → N σ' H') → tb { D with nx := N, ct := N, bk := D.nx } σ H1) → B H1) →
      c σ H fun b H1 => if b = true then B H1 else D.nx σ H1) : tWhile c tb D σ H := by
  refine ⟨fun m σ H => m = μ σ H ∧ Pv σ H, ⟨_, rfl, h0⟩, ?_⟩
  rintro m σ H ⟨rfl, p⟩
  refine hs (fun H1 => ∃ N : L2.St → Hp → Prop, (∀ σ' H', N σ' H' → ∃ m', m' < μ σ H ∧ m' = μ σ' H' ∧ Pv σ' H') ∧ tb { D with nx := N, ct := N, bk := D.nx } σ H1) σ H p fun H1 h => ?_
  exact ⟨fun σ' H' => Pv σ' H' ∧ μ σ' H' < μ σ H, fun σ' H' ⟨p', l⟩ => ⟨_, l, rfl, p'⟩, h _ fun σ' H' p' l => ⟨p', l⟩⟩
theorem rd_dnewK {σ : L2.St} {H : Hp} {Q : VK} : tDNewK σ H Q = ∀ p, Fresh H p → Q (.ref p) (upd H p (.dK [])) := rfl
theorem rd_dsetd {td ty tx : TE} {σ : L2.St} {H : Hp} {Q : VK} : tDSetd td ty tx σ H Q = td σ H fun x H1 => isRef x fun a => IsD H1 a ∧ ty σ H1 fun y H2 => tx σ H2 fun z H3 => ∃ (kvs : List (Key × V)) (k : Key), H3 a = some (.dK kvs) ∧ y = kV k ∧ kvs.length < sizeLine ∧
  (∀ v, valV kvs k = some v → Q v H3) ∧ (valV kvs k = none → Q z (upd H3 a (.dK (putK kvs k z)))) := by
  unfold tDSetd
  simp only [isRef_eq]
theorem exSq {K : PySem.W.Frag} {H : Hp} {a : Addr} {ms : List Int} {R : List Int → Prop} (h : SqL K H a (ms.map V.int)) (q : R ms) : ∃ ns : List Int, SqL K H a (ns.map V.int) ∧ R ns := ⟨ms, h, q⟩
theorem exSqV {K : PySem.W.Frag} {H : Hp} {a : Addr} {ms : List V} {R : List V → Prop} (h : SqL K H a ms) (q : R ms) : ∃ ns : List V, SqL K H a ns ∧ R ns := ⟨ms, h, q⟩
def rMax2 : List V → Hp → VK → Prop := fun xs H Q => ∃ i j, xs = [.int i, .int j] ∧ Q (.int (if j > i then j else i)) H
def rMin2 : List V → Hp → VK → Prop := fun xs H Q => ∃ i j, xs = [.int i, .int j] ∧ Q (.int (if j < i then j else i)) H
theorem call_max2q {X : Cx} (hc : X.calm = true) : CallR X (.builtin "max") rMax2 := call_max2 hc
theorem call_min2q {X : Cx} (hc : X.calm = true) : CallR X (.builtin "min") rMin2 := call_min2 hc
theorem rd_max2 {i j : Int} {H : Hp} {Q : VK} : rMax2 [.int i, .int j] H Q = Q (.int (if j > i then j else i)) H := by
  unfold rMax2
  apply propext
  constructor
  · rintro ⟨i', j', e, q⟩; cases e; exact q
  · intro q; exact ⟨i, j, rfl, q⟩
theorem rd_min2 {i j : Int} {H : Hp} {Q : VK} : rMin2 [.int i, .int j] H Q = Q (.int (if j < i then j else i)) H := by
  unfold rMin2
  apply propext
  constructor
  · rintro ⟨i', j', e, q⟩; cases e; exact q
  · intro q; exact ⟨i, j, rfl, q⟩
/-- len of a text, a list, a tuple -/
def rLenU (K : PySem.W.Frag) : List V → Hp → VK → Prop := fun xs H Q => (∃ z : Str, xs = [.str z] ∧ z.length ≤ sizeLine ∧ Q (.int z.length) H) ∨ rLen K xs H Q
theorem call_lenU {X : Cx} : CallR X (.builtin "len") (rLenU X.K) := by
  intro pins s σ H xs us Q I r h
  rcases h with h | h
  · exact call_len_str pins s σ H xs us Q I r h
  · exact call_len_seq pins s σ H xs us Q I r h
theorem rd_lenU_str {K : PySem.W.Frag} {z : Str} {H : Hp} {Q : VK} : rLenU K [.str z] H Q = (z.length ≤ sizeLine ∧ Q (.int z.length) H) := by
  unfold rLenU
  apply propext
  constructor
  · rintro (⟨z', e, q⟩ | ⟨p, ys, e, _⟩)
    · cases e; exact q
    · cases e
  · intro q; exact .inl ⟨z, rfl, q⟩
theorem rd_lenU_ref {K : PySem.W.Frag} {p : Addr} {H : Hp} {Q : VK} : rLenU K [.ref p] H Q = ∃ ys, (SqL K H p ys ∨ SqT K H p ys) ∧ Q (.int ys.length) H := by
  unfold rLenU
  rw [rd_len]
  apply propext
  constructor
  · rintro (⟨z', e, q⟩ | q)
    · cases e
    · exact q
  · intro q; exact .inr q
/-! further readings -/
theorem rd_lc {wi : TI} {g : TG} {tt : TT} {te : TE} {vs : List Nat} {σ : L2.St} {H : Hp} {Q : VK} : tLc wi g tt te vs σ H Q = wi σ H fun J H1 => ∀ D, Fresh H1 D → ∃ W : Nat → Nat → Hp → Prop, (∃ m, W 0 m (upd H1 D (.lst []))) ∧ ∀ i m H, W i m H →
  (J.stop i H ∧ Q (.ref D) H) ∨ (J.go i H ∧ ∃ Nx : Hp → Prop, (∀ H', Nx H' → ∃ m', m' < m ∧ W (i + 1) m' H') ∧ ∀ x H', J.yld i H x H' → g x (wipe σ vs) H' fun σ2 H2 => wipe σ2 vs = wipe σ vs ∧ tt σ2 H2 fun b H3 =>
    if b = true then te σ2 H3 fun y H4 => ∃ acc, H4 D = some (.lst acc) ∧ acc.length < sizeLine ∧ Nx (upd H4 D (.lst (acc ++ [y]))) else Nx H3) := rfl
def lcGo (J : It) (g : TG) (tt : TT) (te : TE) (vs : List Nat) (σ : L2.St) (H1 : Hp) (D : Addr) (Qd : Hp → Prop) : Prop := ∃ W : Nat → Nat → Hp → Prop, (∃ m, W 0 m (upd H1 D (.lst []))) ∧ ∀ i m H, W i m H →
  (J.stop i H ∧ Qd H) ∨ (J.go i H ∧ ∃ Nx : Hp → Prop, (∀ H', Nx H' → ∃ m', m' < m ∧ W (i + 1) m' H') ∧ ∀ x H', J.yld i H x H' → g x (wipe σ vs) H' fun σ2 H2 => wipe σ2 vs = wipe σ vs ∧ tt σ2 H2 fun b H3 =>
    if b = true then te σ2 H3 fun y H4 => ∃ acc, H4 D = some (.lst acc) ∧ acc.length < sizeLine ∧ Nx (upd H4 D (.lst (acc ++ [y]))) else Nx H3)
theorem rd_lcg {wi : TI} {g : TG} {tt : TT} {te : TE} {vs : List Nat} {σ : L2.St} {H : Hp} {Q : VK} : tLc wi g tt te vs σ H Q = wi σ H fun J H1 => ∀ D, Fresh H1 D → lcGo J g tt te vs σ H1 D (fun H2 => Q (.ref D) H2) := rfl
/-- a comprehension without tests whose items are told ahead; what was tracked stays -/
theorem go_lcm {J : It} {n : Nat} {G : Hp → Prop} {Y : Nat → Hp → V → Hp → Prop} (w : L2.Walk J n G Y) {g : TG} {te : TE} {vs : List Nat} {σ : L2.St} {H1 : Hp} {D : Addr} {Qd : Hp → Prop} (ys : List V) (hn : ys.length = n) (hz : n ≤ sizeLine) (hD : Fresh H1 D)
    (hG : ∀ H, Same H1 H → G H)
    (hs : ∀ (N : VK) i x H H', i < n → Same H1 H → Y i H x H' → (∀ y H4, ys[i]? = some y → Same H H4 → N y H4) → g x (wipe σ vs) H' fun σ2 H2 => wipe σ2 vs = wipe σ vs ∧ te σ2 H2 N)
    (hd : ∀ H, Same H1 H → H D = some (.lst ys) → Qd H) (mono : ∀ (A B : L2.St → Hp → Prop) x σ H, (∀ σ H, A σ H → B σ H) → g x σ H A → g x σ H B) : lcGo J g tYes te vs σ H1 D Qd := by
  refine lc_it w (fun i H => Same H1 H ∧ H D = some (.lst (ys.take i)) ∧ i ≤ n) ⟨Same_upd (Same.refl _) hD, by rw [upd_same, List.take_zero], Nat.zero_le _⟩ (fun i H _ h => hG H h.1) ?_ ?_
  · rintro i x H H' hi ⟨sm, hL, hin⟩ hY
    obtain ⟨y0, hy0⟩ : ∃ y, ys[i]? = some y := ⟨_, List.getElem?_eq_getElem (by omega)⟩
    refine mono _ _ _ _ _ ?_ (hs (fun y H4 => ∃ acc, H4 D = some (.lst acc) ∧ acc.length < sizeLine ∧ (Same H1 (upd H4 D (.lst (acc ++ [y]))) ∧ (upd H4 D (.lst (acc ++ [y]))) D = some (.lst (ys.take (i + 1))) ∧ i + 1 ≤ n)) i x H H' hi sm hY ?_)
    · rintro σ2 H2 ⟨e, h⟩
      refine ⟨e, ?_⟩
      unfold tYes
      dsimp only
      rw [if_pos rfl]
      exact h
    · intro y H4 hy s4
      refine ⟨ys.take i, s4 _ _ hL, by rw [List.length_take]; omega, Same_upd0 (sm.trans s4) hD, ?_, hi⟩
      rw [upd_same]
      obtain ⟨h1, h2⟩ := List.getElem?_eq_some_iff.mp hy
      rw [List.take_succ_eq_append_getElem h1, h2]
  · rintro H ⟨sm, hL, -⟩
    rw [List.take_of_length_le (by omega)] at hL
    exact hd H sm hL
theorem gName_mono {i : Nat} : ∀ (A B : L2.St → Hp → Prop) x σ H, (∀ σ H, A σ H → B σ H) → gName i x σ H A → gName i x σ H B := fun _ _ _ _ _ h q => h _ _ q
theorem rd_wipe0 {σ : L2.St} : wipe σ [] = σ := rfl
theorem rd_wipe1 {σ : L2.St} {v : Nat} {vs : List Nat} : wipe σ (v :: vs) = (wipe σ vs).set v none := rfl
def rAddT : R2 := fun x y H Q => ∃ i j, x = .str i ∧ y = .str j ∧ i.length + j.length ≤ sizeLine ∧ Q (.str (i ++ j)) H
theorem op_addT {X : Cx} : OpR X (binaryOp .Add) rAddT := op_add_str
theorem rd_addT {a b : Str} {H : Hp} {Q : VK} : rAddT (.str a) (.str b) H Q = (a.length + b.length ≤ sizeLine ∧ Q (.str (a ++ b)) H) := by
  unfold rAddT
  apply propext
  constructor
  · rintro ⟨i, j, e1, e2, q⟩; cases e1; cases e2; exact q
  · intro q; exact ⟨a, b, rfl, rfl, q⟩
theorem rd_ixS {z : Str} {i : Int} {H : Hp} {Q : VK} : rIxS (.str z) (.int i) H Q = ∃ c, z.length ≤ sizeLine ∧ atI z.cps.toList i = some c ∧ Q (.str ⟨#[c]⟩) H := by
  unfold rIxS
  apply propext
  constructor
  · rintro ⟨z', i', c, e1, e2, q⟩; cases e1; cases e2; exact ⟨c, q⟩
  · rintro ⟨c, q⟩; exact ⟨z, i, c, rfl, rfl, q⟩
theorem rd_ixT {K : PySem.W.Frag} {p : Addr} {i : Int} {H : Hp} {Q : VK} : rIxT K (.ref p) (.int i) H Q = ∃ xs v, SqT K H p xs ∧ atI xs i = some v ∧ Q v H := by
  unfold rIxT
  apply propext
  constructor
  · rintro ⟨p', xs, i', v, e1, e2, q⟩; cases e1; cases e2; exact ⟨xs, v, q⟩
  · rintro ⟨xs, v, q⟩; exact ⟨p, xs, i, v, rfl, rfl, q⟩
theorem rd_slS {z : Str} {lo hi : Option Int} {H : Hp} {Q : VK} : rSlS (.str z) lo hi H Q = (z.length ≤ sizeLine ∧ Q (.str (cutS z lo hi)) H) := by
  unfold rSlS
  apply propext
  constructor
  · rintro ⟨z', e, q⟩; cases e; exact q
  · intro q; exact ⟨z, rfl, q⟩
def rJoin (K : PySem.W.Frag) : V → List V → Hp → VK → Prop := fun x xs H Q => ∃ a p, ∃ ys : List Str, x = .str a ∧ xs = [.ref p] ∧ (SqL K H p (ys.map V.str) ∨ SqT K H p (ys.map V.str)) ∧
  (ys.map (·.length)).sum + ys.length * a.length ≤ 16777216 ∧ Q (.str (Txt.join a ys)) H
theorem mt_joinq {X : Cx} : MtR X "str.join" (rJoin X.K) := mt_join
theorem rd_M1 {r : V → List V → Hp → VK → Prop} {to te : TE} {σ : L2.St} {H : Hp} {Q : VK} : tM1 r to te σ H Q = to σ H fun x H1 => isStr x (fun _ => True) ∧ te σ H1 fun y H2 => r x [y] H2 Q := by
  unfold tM1
  apply congrArg
  funext x H1
  rw [show (∃ a, x = V.str a) = isStr x (fun _ => True) from by rw [← isStr_eq]; simp]
theorem rd_join {K : PySem.W.Frag} {a : Str} {p : Addr} {H : Hp} {Q : VK} : rJoin K (.str a) [.ref p] H Q = ∃ ys : List Str, (SqL K H p (ys.map V.str) ∨ SqT K H p (ys.map V.str)) ∧ (ys.map (·.length)).sum + ys.length * a.length ≤ 16777216 ∧ Q (.str (Txt.join a ys)) H := by
  unfold rJoin
  apply propext
  constructor
  · rintro ⟨a', p', ys, e1, e2, q⟩; cases e1; cases e2; exact ⟨ys, q⟩
  · rintro ⟨ys, q⟩; exact ⟨a, p, ys, rfl, rfl, q⟩
def rTupOf (K : PySem.W.Frag) : List V → Hp → VK → Prop := fun xs H Q => ∃ p ys, xs = [.ref p] ∧ ((SqL K H p ys ∧ ∀ l, H l = none → Q (.ref l) (upd H l (.tup ys))) ∨ (SqT K H p ys ∧ Q (.ref p) H))
theorem call_tupleq {X : Cx} : CallR X (.type "tuple") (rTupOf X.K) := call_tuple_of
theorem rd_tupOf {K : PySem.W.Frag} {p : Addr} {H : Hp} {Q : VK} : rTupOf K [.ref p] H Q = ∃ ys, ((SqL K H p ys ∧ ∀ l, Fresh H l → Q (.ref l) (upd H l (.tup ys))) ∨ (SqT K H p ys ∧ Q (.ref p) H)) := by
  unfold rTupOf
  apply propext
  constructor
  · rintro ⟨p', ys, e, q⟩; cases e; exact ⟨ys, q⟩
  · rintro ⟨ys, q⟩; exact ⟨p, ys, rfl, q⟩
def rListOf (K : PySem.W.Frag) : List V → Hp → VK → Prop := fun xs H Q => ∃ p ys, xs = [.ref p] ∧ (SqL K H p ys ∨ SqT K H p ys) ∧ ∀ l, H l = none → Q (.ref l) (upd H l (.lst ys))
theorem call_listq {X : Cx} : CallR X (.type "list") (rListOf X.K) := call_list_of
theorem rd_listOf {K : PySem.W.Frag} {p : Addr} {H : Hp} {Q : VK} : rListOf K [.ref p] H Q = ∃ ys, (SqL K H p ys ∨ SqT K H p ys) ∧ ∀ l, Fresh H l → Q (.ref l) (upd H l (.lst ys)) := by
  unfold rListOf
  apply propext
  constructor
  · rintro ⟨p', ys, e, q⟩; cases e; exact ⟨ys, q⟩
  · rintro ⟨ys, q⟩; exact ⟨p, ys, rfl, q⟩
theorem rd_gTup {K : PySem.W.Frag} {n : Nat} {t : TGs} {a : Addr} {σ : L2.St} {H : Hp} {R : L2.St → Hp → Prop} : gTup K n t (.ref a) σ H R = ∃ xs, SqT K H a xs ∧ xs.length = n ∧ t xs σ H R := by
  unfold gTup
  apply propext
  constructor
  · rintro ⟨a', xs, e, q⟩; cases e; exact ⟨xs, q⟩
  · rintro ⟨xs, q⟩; exact ⟨a, xs, rfl, q⟩
theorem rd_gCons {t : TG} {u : TGs} {v : V} {r : List V} {σ : L2.St} {H : Hp} {R : L2.St → Hp → Prop} : gCons t u (v :: r) σ H R = t v σ H fun σ' H' => u r σ' H' R := by
  unfold gCons
  apply propext
  constructor
  · rintro ⟨v', r', e, q⟩; cases e; exact q
  · intro q; exact ⟨v, r, rfl, q⟩
theorem rd_gNil {σ : L2.St} {H : Hp} {R : L2.St → Hp → Prop} : gNil [] σ H R = R σ H := by
  unfold gNil
  simp
theorem rd_isB {a b : Bool} {H : Hp} {Q : VK} : rIsB (.bl a) (.bl b) H Q = Q (.bl (decide (a = b))) H := by
  unfold rIsB
  apply propext
  constructor
  · rintro ⟨a', b', e1, e2, q⟩; cases e1; cases e2; exact q
  · intro q; exact ⟨a, b, rfl, rfl, q⟩
theorem rd_notB {a b : Bool} {H : Hp} {Q : VK} : rNotB (.bl a) (.bl b) H Q = Q (.bl (!decide (a = b))) H := by
  unfold rNotB
  apply propext
  constructor
  · rintro ⟨a', b', e1, e2, q⟩; cases e1; cases e2; exact q
  · intro q; exact ⟨a, b, rfl, rfl, q⟩
/-! texts by their code points -/
theorem S_item (c : Nat) : (⟨#[c]⟩ : Str) = SX.S [c] := rfl
theorem S_list (l : List Nat) : (SX.S l).cps.toList = l := by simp
theorem joinL_nil : ∀ ls : List (List Nat), TL.joinL [] ls = ls.flatten
  | [] => rfl
  | [p] => by simp [TL.joinL]
  | p :: q :: r => by
    rw [TL.joinL, joinL_nil (q :: r)]
    simp
theorem join_empty {e : Str} (he : e = SX.S []) (ls : List (List Nat)) : Txt.join e (ls.map SX.S) = SX.S ls.flatten := by
  rw [he, SX.join_S, joinL_nil]
theorem cut_S (l : List Nat) (lo hi : Option Int) : cutS (SX.S l) lo hi = SX.S ((l.drop (HT.sIx l.length 0 lo)).take (HT.sIx l.length l.length hi - HT.sIx l.length 0 lo)) := by
  unfold cutS
  rw [SX.S_len, S_list]
theorem lens_sum (ls : List (List Nat)) : ((ls.map SX.S).map (·.length)).sum = ls.flatten.length := by
  rw [SX.lens, List.length_flatten]
theorem own_nil : List.map (fun x : Str × Nat => x.2) [] = [] := rfl
theorem own_cons {a : Str} {n : Nat} {l : List (Str × Nat)} : List.map (fun x : Str × Nat => x.2) ((a, n) :: l) = n :: List.map (fun x : Str × Nat => x.2) l := rfl
theorem cut_hi {l : List V} {n : Int} (h0 : 0 ≤ n) : cutV l none (some n) = l.take n.toNat := by
  unfold cutV
  obtain ⟨z, rfl⟩ : ∃ z : Nat, n = (z : Int) := ⟨n.toNat, by omega⟩
  rw [HT.sIx_none, HT.sIx_nat, Int.toNat_natCast]
  simp only [List.drop_zero, Nat.sub_zero]
  by_cases h : z ≤ l.length
  · rw [Nat.min_eq_left h]
  · rw [Nat.min_eq_right (by omega), List.take_of_length_le (Nat.le_refl _), List.take_of_length_le (by omega)]
theorem cut_lo {l : List V} {n : Int} (h0 : 0 ≤ n) : cutV l (some n) none = l.drop n.toNat := by
  unfold cutV
  obtain ⟨z, rfl⟩ : ∃ z : Nat, n = (z : Int) := ⟨n.toNat, by omega⟩
  rw [HT.sIx_none, HT.sIx_nat, Int.toNat_natCast]
  by_cases h : z ≤ l.length
  · rw [Nat.min_eq_left h, List.take_of_length_le (by rw [List.length_drop]; omega)]
  · rw [Nat.min_eq_right (by omega), List.drop_of_length_le (Nat.le_refl _), List.drop_of_length_le (show l.length ≤ z by omega)]
    simp
theorem cut_span {l : List V} {a b : Int} (h0 : 0 ≤ a) (h1 : a ≤ b) : (cutV l (some a) (some b)).length ≤ (b - a).toNat := by
  unfold cutV
  obtain ⟨z, rfl⟩ : ∃ z : Nat, a = (z : Int) := ⟨a.toNat, by omega⟩
  obtain ⟨y, rfl⟩ : ∃ z : Nat, b = (z : Int) := ⟨b.toNat, by omega⟩
  rw [HT.sIx_nat, HT.sIx_nat, List.length_take, List.length_drop]
  omega
/-- a comprehension without tests; of each item a fact is known -/
theorem go_lcx {J : It} {n : Nat} {G : Hp → Prop} {Y : Nat → Hp → V → Hp → Prop} (w : L2.Walk J n G Y) {g : TG} {te : TE} {vs : List Nat} {σ : L2.St} {H1 : Hp} {D : Addr} {Qd : Hp → Prop} (F : Nat → V → Hp → Prop) (hz : n ≤ sizeLine) (hD : Fresh H1 D)
    (hG : ∀ H, Same H1 H → G H) (st : ∀ i y H H', F i y H → (∀ b o, b ≠ D → H b = some o → H' b = some o) → F i y H')
    (hs : ∀ (N : VK) i x H H', i < n → Same H1 H → Y i H x H' → (∀ y H4, Same H H4 → F i y H4 → N y H4) → g x (wipe σ vs) H' fun σ2 H2 => wipe σ2 vs = wipe σ vs ∧ te σ2 H2 N)
    (hd : ∀ H ys, Same H1 H → H D = some (.lst ys) → ys.length = n → (∀ i y, ys[i]? = some y → F i y H) → Qd H) (mono : ∀ (A B : L2.St → Hp → Prop) x σ H, (∀ σ H, A σ H → B σ H) → g x σ H A → g x σ H B) : lcGo J g tYes te vs σ H1 D Qd := by
  refine lc_it w (fun i H => Same H1 H ∧ i ≤ n ∧ ∃ ys, H D = some (.lst ys) ∧ ys.length = i ∧ ∀ j y, ys[j]? = some y → F j y H) ⟨Same_upd (Same.refl _) hD, Nat.zero_le _, [], upd_same, rfl, fun j y h => by simp at h⟩ (fun i H _ h => hG H h.1) ?_ ?_
  · rintro i x H H' hi ⟨sm, hin, ys, hL, hl, hF⟩ hY
    refine mono _ _ _ _ _ ?_ (hs (fun y H4 => ∃ acc, H4 D = some (.lst acc) ∧ acc.length < sizeLine ∧ (Same H1 (upd H4 D (.lst (acc ++ [y]))) ∧ i + 1 ≤ n ∧ ∃ zs, (upd H4 D (.lst (acc ++ [y]))) D = some (.lst zs) ∧ zs.length = i + 1 ∧ ∀ j y', zs[j]? = some y' → F j y' (upd H4 D (.lst (acc ++ [y]))))) i x H H' hi sm hY ?_)
    · rintro σ2 H2 ⟨e, h⟩
      refine ⟨e, ?_⟩
      unfold tYes
      dsimp only
      rw [if_pos rfl]
      exact h
    · intro y H4 s4 hy
      have up : ∀ b o, b ≠ D → H4 b = some o → upd H4 D (.lst (ys ++ [y])) b = some o := fun b o hb e => by rw [upd_ne hb]; exact e
      refine ⟨ys, s4 _ _ hL, by omega, Same_upd0 (sm.trans s4) hD, hi, _, upd_same, by rw [List.length_append, hl]; rfl, fun j y' h => ?_⟩
      by_cases hj : j < ys.length
      · rw [List.getElem?_append_left hj] at h
        exact st _ _ _ _ (hF j y' h) fun b o hb e => up b o hb (s4 b o e)
      · rw [List.getElem?_append_right (by omega)] at h
        have ej : j = i := by
          have h2 := (List.getElem?_eq_some_iff.mp h).1
          simp at h2
          omega
        subst ej
        rw [hl, Nat.sub_self] at h
        simp at h
        subst h
        exact st _ _ _ _ hy up
  · rintro H ⟨sm, -, ys, hL, hl, hF⟩
    exact hd H ys sm hL hl hF
end My
namespace My
open PySem PySem.Spec PyProof.Rows L2
/-- a comprehension with a test: R tells the items kept so far -/
theorem go_lcf {J : It} {n : Nat} {G : Hp → Prop} {Y : Nat → Hp → V → Hp → Prop} (w : L2.Walk J n G Y) {g : TG} {tt : TT} {te : TE} {vs : List Nat} {σ : L2.St} {H1 : Hp} {D : Addr} {Qd : Hp → Prop} (R : Nat → List V → Prop) (h0 : R 0 []) (hz : n ≤ sizeLine) (hR : ∀ i ys, R i ys → ys.length ≤ i) (hD : Fresh H1 D)
    (hG : ∀ H, Same H1 H → G H)
    (hs : ∀ (N : VK) (Z : Hp → Prop) i x ys H H', i < n → Same H1 H → R i ys → Y i H x H' → (∀ y H4, R (i + 1) (ys ++ [y]) → Same H H4 → N y H4) → (R (i + 1) ys → ∀ H4, Same H H4 → Z H4) →
      g x (wipe σ vs) H' fun σ2 H2 => wipe σ2 vs = wipe σ vs ∧ tt σ2 H2 fun b H3 => if b = true then te σ2 H3 N else Z H3)
    (hd : ∀ H ys, Same H1 H → H D = some (.lst ys) → R n ys → Qd H) : lcGo J g tt te vs σ H1 D Qd := by
  refine lc_it w (fun i H => Same H1 H ∧ ∃ ys, H D = some (.lst ys) ∧ R i ys) ⟨Same_upd (Same.refl _) hD, [], upd_same, h0⟩ (fun i H _ h => hG H h.1) ?_ ?_
  · rintro i x H H' hi ⟨sm, ys, hL, hr⟩ hY
    refine hs (fun y H4 => ∃ acc, H4 D = some (.lst acc) ∧ acc.length < sizeLine ∧ (Same H1 (upd H4 D (.lst (acc ++ [y]))) ∧ ∃ zs, (upd H4 D (.lst (acc ++ [y]))) D = some (.lst zs) ∧ R (i + 1) zs)) _ i x ys H H' hi sm hr hY ?_ ?_
    · intro y H4 hy s4
      have := hR i ys hr
      exact ⟨ys, s4 _ _ hL, by omega, Same_upd0 (sm.trans s4) hD, _, upd_same, hy⟩
    · intro hy H4 s4
      exact ⟨sm.trans s4, ys, s4 _ _ hL, hy⟩
  · rintro H ⟨sm, ys, hL, hr⟩
    exact hd H ys sm hL hr
theorem ix_listK (K : PySem.W.Frag) {X : Cx} (h : X.K = K) : IxR X (rIxL K) := h ▸ ix_list
theorem ix_tupK (K : PySem.W.Frag) {X : Cx} (h : X.K = K) : IxR X (rIxT K) := h ▸ ix_tup
theorem call_lenUK (K : PySem.W.Frag) {X : Cx} (h : X.K = K) : CallR X (.builtin "len") (rLenU K) := h ▸ call_lenU
theorem pg_tupK (K : PySem.W.Frag) {X : Cx} {pos : Pos} {es : List Expr} {k : Nat} {t : TGs} {n : Nat} (e : X.K = K) (hc : X.calm = true) (h : PGs X es t)
    (hn : (assignEach es X.env).length = n := by rfl) (hst : (assignEach es X.env).findIdx? (·.1) = none := by rfl) : PG X (.Tuple es k pos) (gTup K n t) := e ▸ pg_tup hc h hn hst
theorem op_eqDK (K : PySem.W.Frag) {X : Cx} (e : X.K = K) (hu : X.A.units + 64 < cLine) : OpR X (compareOp .Eq) (rEqD K) := e ▸ op_eqD hu
theorem op_neDK (K : PySem.W.Frag) {X : Cx} (e : X.K = K) (hu : X.A.units + 64 < cLine) : OpR X (compareOp .NotEq) (rNeD K) := e ▸ op_neD hu
end My
namespace My
open PySem PySem.W
theorem and_m1 (z : Int) : Builtin.bitAnd z (-1) = z := by
  show Spec.bitAnd z (-1) = z
  unfold Spec.bitAnd
  have h : decide ((0 : Int) ≤ -1) = false := by decide
  rw [h]
  cases e : decide (0 ≤ z) with
  | true =>
    have e' := of_decide_eq_true e
    have h2 : (Spec.bitNot (-1)).toNat = 0 := by decide
    simp [h2]
  | false =>
    have e' := of_decide_eq_false e
    have h2 : (Spec.bitNot (-1)).toNat = 0 := by decide
    simp only [h2, Nat.or_zero]
    unfold Spec.bitNot
    omega
theorem or_one (x : Int) : Builtin.bitOr x 1 = x + 1 - x % 2 := by
  have h : Builtin.bitOr x 1 = Spec.bitNot (Builtin.bitAnd (Spec.bitNot x) (Spec.bitNot 1)) := rfl
  have h1 : Spec.bitNot 1 = -2 := by decide
  rw [h, h1, kbt_halves]
  have h2 : (-2 : Int) / 2 = -1 := by decide
  have h3 : ¬ ((-2 : Int) % 2 = 1) := by decide
  rw [h2, and_m1, if_neg (fun c => h3 c.2)]
  unfold Spec.bitNot
  omega
def strideF (m : Int) : Int := Builtin.bitOr (m / 32) 1
def probeF (m s c : Int) : Int := Builtin.bitAnd (m + c * strideF m) (s - 1)
theorem strideF_eq (m : Int) : strideF m = m / 32 + 1 - m / 32 % 2 := or_one _
theorem probeF_eq (m c : Int) (k : Nat) : probeF m (2 ^ k) c = (m + c * strideF m) % 2 ^ k := kbt_mask _ k
/-- the slots of probes, one after the other -/
def slotI (m s : Int) : Nat → Int
  | 0 => Builtin.bitAnd m (s - 1)
  | i + 1 => Builtin.bitAnd (slotI m s i + strideF m) (s - 1)
def probesF (m s : Int) : List Int := (List.range s.toNat).map (slotI m s)
theorem slotI_eq (m : Int) (k : Nat) : ∀ i : Nat, slotI m (2 ^ k) i = (m + i * strideF m) % 2 ^ k
  | 0 => by
    rw [slotI, kbt_mask]
    simp
  | i + 1 => by
    rw [slotI, kbt_mask, slotI_eq m k i, Int.emod_add_emod]
    congr 1
    rw [Int.natCast_add, Int.add_mul, Int.add_assoc]
    simp
theorem pow_le {j n : Nat} (h : j ≤ n) : (0 : Int) < 2 ^ j ∧ (2 : Int) ^ j ≤ 2 ^ n := by
  have a : (2 : Nat) ^ j ≤ 2 ^ n := Nat.pow_le_pow_right (by decide) h
  have b : 0 < (2 : Nat) ^ j := Nat.pow_pos (by decide)
  have e : ((2 ^ j : Nat) : Int) = (2 : Int) ^ j := by norm_cast
  have e2 : ((2 ^ n : Nat) : Int) = (2 : Int) ^ n := by norm_cast
  omega
theorem pow8 (n : Nat) : (8 : Int) * 2 ^ n = 2 ^ (n + 3) := by
  rw [Int.pow_add, Int.mul_comm]
  rfl
/-- a slot is told by its count -/
theorem slot_of {m f st d S : Int} (h0 : 0 ≤ d) (h1 : d < S) (h : (m + f * st - d) % S = 0) : d = (m + f * st) % S := by
  have e : (m + f * st) % S = (m + f * st - d + d) % S := by rw [Int.sub_add_cancel]
  rw [e, Int.add_emod, h, Int.zero_add, Int.emod_emod, Int.emod_eq_of_lt h0 h1]
end My
namespace My
open PySem PySem.Spec PyProof.Rows L2
/-! things as data: keys (num, txt, tup), and what is none -/
inductive Ky where
  | num (i : Int) | txt (x : Str) | tup (ks : List Ky) | bl (b : Bool) | non | lst (n : Nat) | dct
mutual
def Ky.beq : Ky → Ky → Bool
  | .num i, .num j => decide (i = j)
  | .txt x, .txt y => decide (x = y)
  | .tup xs, .tup ys => Ky.beqs xs ys
  | .bl x, .bl y => decide (x = y)
  | .non, .non => true
  | .lst n, .lst m => decide (n = m)
  | .dct, .dct => true
  | _, _ => false
def Ky.beqs : List Ky → List Ky → Bool
  | [], [] => true
  | x :: xs, y :: ys => Ky.beq x y && Ky.beqs xs ys
  | [], _ :: _ => false
  | _ :: _, [] => false
end
mutual
theorem Ky.beq_iff : ∀ x y : Ky, Ky.beq x y = true ↔ x = y
  | .num i, y => by cases y <;> simp [Ky.beq]
  | .txt x, y => by cases y <;> simp [Ky.beq]
  | .tup xs, .tup ys => by
    rw [Ky.beq, Ky.beqs_iff xs ys]
    simp
  | .tup xs, .num _ => by simp [Ky.beq]
  | .tup xs, .txt _ => by simp [Ky.beq]
  | .tup xs, .bl _ => by simp [Ky.beq]
  | .tup xs, .non => by simp [Ky.beq]
  | .tup xs, .lst _ => by simp [Ky.beq]
  | .tup xs, .dct => by simp [Ky.beq]
  | .bl b, y => by cases y <;> simp [Ky.beq]
  | .non, y => by cases y <;> simp [Ky.beq]
  | .lst n, y => by cases y <;> simp [Ky.beq]
  | .dct, y => by cases y <;> simp [Ky.beq]
theorem Ky.beqs_iff : ∀ xs ys : List Ky, Ky.beqs xs ys = true ↔ xs = ys
  | [], [] => by simp [Ky.beqs]
  | x :: xs, y :: ys => by
    rw [Ky.beqs, Bool.and_eq_true, Ky.beq_iff x y, Ky.beqs_iff xs ys]
    simp
  | [], _ :: _ => by simp [Ky.beqs]
  | _ :: _, [] => by simp [Ky.beqs]
end
instance : DecidableEq Ky := fun x y => if h : Ky.beq x y = true then .isTrue ((Ky.beq_iff x y).mp h) else .isFalse fun e => h ((Ky.beq_iff x y).mpr e)
mutual
def Ky.good : Ky → Bool
  | .num _ => true
  | .txt x => PyData.strOk x
  | .tup ks => Ky.goods ks
  | _ => false
def Ky.goods : List Ky → Bool
  | [] => true
  | k :: ks => Ky.good k && Ky.goods ks
end
mutual
def Ky.toD : Ky → PyData
  | .num i => .int i
  | .txt x => .str x
  | .tup ks => .tuple (Ky.toDs ks)
  | _ => .none
def Ky.toDs : List Ky → List PyData
  | [] => []
  | k :: ks => Ky.toD k :: Ky.toDs ks
end
mutual
def Ky.dep : Ky → Nat
  | .tup ks => Ky.deps ks + 1
  | _ => 0
def Ky.deps : List Ky → Nat
  | [] => 0
  | k :: ks => max (Ky.dep k) (Ky.deps ks)
end
mutual
theorem Ky.eqv : ∀ x y : Ky, x.good = true → y.good = true → PyData.eqv x.toD y.toD = Ky.beq x y
  | .num i, .num j, _, _ => by
    simp only [Ky.toD, PyData.eqv, Ky.beq]
    exact Bool.beq_eq_decide_eq i j
  | .txt x, .txt y, _, _ => by
    simp only [Ky.toD, PyData.eqv, Ky.beq]
    exact Bool.beq_eq_decide_eq x y
  | .tup xs, .tup ys, h, g => by
    simp only [Ky.toD, PyData.eqv, Ky.beq]
    exact Ky.eqvs xs ys (by simpa [Ky.good] using h) (by simpa [Ky.good] using g)
  | .num _, .txt _, _, _ => by simp [Ky.toD, PyData.eqv, Ky.beq]
  | .num _, .tup _, _, _ => by simp [Ky.toD, PyData.eqv, Ky.beq]
  | .txt _, .num _, _, _ => by simp [Ky.toD, PyData.eqv, Ky.beq]
  | .txt _, .tup _, _, _ => by simp [Ky.toD, PyData.eqv, Ky.beq]
  | .tup _, .num _, _, _ => by simp [Ky.toD, PyData.eqv, Ky.beq]
  | .tup _, .txt _, _, _ => by simp [Ky.toD, PyData.eqv, Ky.beq]
  | .bl _, _, h, _ => by simp [Ky.good] at h
  | .non, _, h, _ => by simp [Ky.good] at h
  | .lst _, _, h, _ => by simp [Ky.good] at h
  | .dct, _, h, _ => by simp [Ky.good] at h
  | .num _, .bl _, _, h => by simp [Ky.good] at h
  | .num _, .non, _, h => by simp [Ky.good] at h
  | .num _, .lst _, _, h => by simp [Ky.good] at h
  | .num _, .dct, _, h => by simp [Ky.good] at h
  | .txt _, .bl _, _, h => by simp [Ky.good] at h
  | .txt _, .non, _, h => by simp [Ky.good] at h
  | .txt _, .lst _, _, h => by simp [Ky.good] at h
  | .txt _, .dct, _, h => by simp [Ky.good] at h
  | .tup _, .bl _, _, h => by simp [Ky.good] at h
  | .tup _, .non, _, h => by simp [Ky.good] at h
  | .tup _, .lst _, _, h => by simp [Ky.good] at h
  | .tup _, .dct, _, h => by simp [Ky.good] at h
theorem Ky.eqvs : ∀ xs ys : List Ky, Ky.goods xs = true → Ky.goods ys = true → PyData.eqvAll (Ky.toDs xs) (Ky.toDs ys) = Ky.beqs xs ys
  | [], [], _, _ => by simp [Ky.toDs, PyData.eqvAll, Ky.beqs]
  | x :: xs, y :: ys, h, g => by
    have h' : x.good = true ∧ Ky.goods xs = true := by simpa [Ky.goods] using h
    have g' : y.good = true ∧ Ky.goods ys = true := by simpa [Ky.goods] using g
    simp only [Ky.toDs, PyData.eqvAll, Ky.beqs]
    rw [Ky.eqv x y h'.1 g'.1, Ky.eqvs xs ys h'.2 g'.2]
  | [], _ :: _, _, _ => by simp [Ky.toDs, PyData.eqvAll, Ky.beqs]
  | _ :: _, [], _, _ => by simp [Ky.toDs, PyData.eqvAll, Ky.beqs]
end
mutual
theorem Ky.canLay : ∀ k : Ky, k.good = true → k.toD.canLay0 = true
  | .num _, _ => by simp [Ky.toD, PyData.canLay0]
  | .txt x, h => by
    have h' : PyData.strOk x = true := by simpa [Ky.good] using h
    simpa [Ky.toD, PyData.canLay0] using h'
  | .tup ks, h => by
    simp only [Ky.toD, PyData.canLay0]
    exact Ky.canLays ks (by simpa [Ky.good] using h)
  | .bl _, h => by simp [Ky.good] at h
  | .non, h => by simp [Ky.good] at h
  | .lst _, h => by simp [Ky.good] at h
  | .dct, h => by simp [Ky.good] at h
theorem Ky.canLays : ∀ ks : List Ky, Ky.goods ks = true → PyData.canLayAll0 (Ky.toDs ks) = true
  | [], _ => by simp [Ky.toDs, PyData.canLayAll0]
  | k :: ks, h => by
    have h' : k.good = true ∧ Ky.goods ks = true := by simpa [Ky.goods] using h
    simp only [Ky.toDs, PyData.canLayAll0, Ky.canLay k h'.1, Ky.canLays ks h'.2, Bool.and_self]
end
mutual
theorem Ky.depth_toD : ∀ k : Ky, k.toD.depth = k.dep
  | .tup ks => by
    simp only [Ky.toD, PyData.depth, Ky.dep]
    rw [Ky.depths_toD ks]
  | .num _ => by simp [Ky.toD, PyData.depth, Ky.dep]
  | .txt _ => by simp [Ky.toD, PyData.depth, Ky.dep]
  | .bl _ => by simp [Ky.toD, PyData.depth, Ky.dep]
  | .non => by simp [Ky.toD, PyData.depth, Ky.dep]
  | .lst _ => by simp [Ky.toD, PyData.depth, Ky.dep]
  | .dct => by simp [Ky.toD, PyData.depth, Ky.dep]
theorem Ky.depths_toD : ∀ ks : List Ky, PyData.depthAll (Ky.toDs ks) = Ky.deps ks
  | [] => by simp [Ky.toDs, PyData.depthAll, Ky.deps]
  | k :: ks => by
    simp only [Ky.toDs, PyData.depthAll, Ky.deps]
    rw [Ky.depth_toD k, Ky.depths_toD ks]
end
theorem Ky.shaped {k : Ky} (h : k.good = true) (d : k.dep ≤ 64) : SeqAt.shaped k.toD = true := by
  unfold SeqAt.shaped
  rw [Ky.canLay k h, Ky.depth_toD, decide_eq_true d]
  rfl
mutual
inductive KyAt (H : Hp) : V → Ky → Prop
  | num (i : Int) : KyAt H (.int i) (.num i)
  | txt (x : Str) : KyAt H (.str x) (.txt x)
  | tup {a : Addr} {xs : List V} {ks : List Ky} (h : H a = some (.tup xs)) (p : KysAt H xs ks) : KyAt H (.ref a) (.tup ks)
  | bl (b : Bool) : KyAt H (.bl b) (.bl b)
  | non : KyAt H .non .non
  | lst {a : Addr} {xs : List V} {n : Nat} (h : H a = some (.lst xs)) : KyAt H (.ref a) (.lst n)
  | dct {a : Addr} {kvs : List (Key × V)} (h : H a = some (.dK kvs)) : KyAt H (.ref a) .dct
inductive KysAt (H : Hp) : List V → List Ky → Prop
  | nil : KysAt H [] []
  | cons {v : V} {vs : List V} {k : Ky} {ks : List Ky} (h : KyAt H v k) (t : KysAt H vs ks) : KysAt H (v :: vs) (k :: ks)
end
section
variable {H H' : Hp} {K : PySem.W.Frag}
mutual
theorem KyAt.same (s : Same H H') : ∀ (k : Ky) (v : V), KyAt H v k → KyAt H' v k
  | .num i, _, h => by cases h; exact .num i
  | .txt x, _, h => by cases h; exact .txt x
  | .tup ks, _, h => by
    cases h with
    | tup h p => exact .tup (s _ _ h) (KysAt.same s ks _ p)
  | .bl b, _, h => by cases h; exact .bl b
  | .non, _, h => by cases h; exact .non
  | .lst n, _, h => by
    cases h with
    | lst h => exact .lst (s _ _ h)
  | .dct, _, h => by
    cases h with
    | dct h => exact .dct (s _ _ h)
theorem KysAt.same (s : Same H H') : ∀ (ks : List Ky) (vs : List V), KysAt H vs ks → KysAt H' vs ks
  | [], _, h => by cases h; exact .nil
  | k :: ks, _, h => by
    cases h with
    | cons h t => exact .cons (KyAt.same s k _ h) (KysAt.same s ks _ t)
end
mutual
theorem KyAt.dp : ∀ (k : Ky) (v : V), k.good = true → KyAt H v k → Dp K H v k.toD
  | .num i, _, _, h => by cases h; rw [Ky.toD]; exact .int i
  | .txt x, _, _, h => by cases h; rw [Ky.toD]; exact .str x
  | .tup ks, _, g, h => by
    cases h with
    | tup h p => rw [Ky.toD]; exact .tup (SqT.of h) (KysAt.dp ks _ (by simpa [Ky.good] using g) p)
  | .bl _, _, g, _ => by simp [Ky.good] at g
  | .non, _, g, _ => by simp [Ky.good] at g
  | .lst _, _, g, _ => by simp [Ky.good] at g
  | .dct, _, g, _ => by simp [Ky.good] at g
theorem KysAt.dp : ∀ (ks : List Ky) (vs : List V), Ky.goods ks = true → KysAt H vs ks → DpAll K H vs (Ky.toDs ks)
  | [], _, _, h => by cases h; rw [Ky.toDs]; exact .nil
  | k :: ks, _, g, h => by
    have g' : k.good = true ∧ Ky.goods ks = true := by simpa [Ky.goods] using g
    cases h with
    | cons h t => rw [Ky.toDs]; exact .cons (KyAt.dp k _ g'.1 h) (KysAt.dp ks _ g'.2 t)
end
theorem KysAt.len : ∀ {ks : List Ky} {vs : List V}, KysAt H vs ks → vs.length = ks.length
  | [], _, h => by cases h; rfl
  | k :: ks, _, h => by
    cases h with
    | cons h t => simp [KysAt.len t]
theorem KysAt.get : ∀ {ks : List Ky} {vs : List V} {i : Nat} {v : V}, KysAt H vs ks → vs[i]? = some v → ∃ k, ks[i]? = some k ∧ KyAt H v k
  | [], _, _, _, h, e => by cases h; simp at e
  | k :: ks, _, 0, v, h, e => by
    cases h with
    | cons h t =>
      simp at e
      subst e
      exact ⟨k, rfl, h⟩
  | k :: ks, _, i + 1, v, h, e => by
    cases h with
    | cons h t =>
      obtain ⟨k', e', h'⟩ := KysAt.get (i := i) t (by simpa using e)
      exact ⟨k', by simpa using e', h'⟩
theorem KysAt.append : ∀ {ks ls : List Ky} {vs ws : List V}, KysAt H vs ks → KysAt H ws ls → KysAt H (vs ++ ws) (ks ++ ls)
  | [], _, _, _, h, q => by cases h; exact q
  | k :: ks, _, _, _, h, q => by
    cases h with
    | cons h t => exact .cons h (KysAt.append t q)
/-- two keys compared -/
theorem eq_keys {v w : V} {k l : Ky} {Q : VK} (hv : KyAt H v k) (hw : KyAt H w l) (gk : k.good = true) (gl : l.good = true) (dk : k.dep ≤ 64) (dl : l.dep ≤ 64) (q : Q (.bl (decide (k = l))) H) : rEqD K v w H Q := by
  refine ⟨k.toD, l.toD, KyAt.dp k v gk hv, KyAt.dp l w gl hw, Ky.shaped gk dk, Ky.shaped gl dl, ?_⟩
  rw [Ky.eqv _ _ gk gl]
  have e : Ky.beq k l = decide (k = l) := by
    cases h : Ky.beq k l with
    | true => exact (decide_eq_true ((Ky.beq_iff k l).mp h)).symm
    | false => exact (decide_eq_false fun c => by rw [(Ky.beq_iff k l).mpr c] at h; cases h).symm
  rw [e]
  exact q
end
/-! the stamp -/
abbrev TURN : Int := 2147483647
def stampT (l : List Nat) : Int := l.foldl (fun (h : Int) (c : Nat) => (31 * h + c) % 2147483647) 7
mutual
def Ky.stamp : Ky → Int
  | .num i => i % 2147483647
  | .txt x => stampT x.cps.toList
  | .tup ks => Ky.stamps 11 ks
  | _ => 0
def Ky.stamps : Int → List Ky → Int
  | h, [] => h
  | h, k :: ks => Ky.stamps (Builtin.bitXor (1000003 * h) (Ky.stamp k) % 2147483647) ks
end
theorem stampT_range (l : List Nat) : 0 ≤ stampT l ∧ stampT l < 2147483647 := by
  have h : ∀ (l : List Nat) (a : Int), 0 ≤ a → a < 2147483647 → 0 ≤ l.foldl (fun (h : Int) (c : Nat) => (31 * h + c) % 2147483647) a ∧ l.foldl (fun (h : Int) (c : Nat) => (31 * h + c) % 2147483647) a < 2147483647 := by
    intro l
    induction l with
    | nil => intro a h0 h1; exact ⟨h0, h1⟩
    | cons c l ih => intro a h0 h1; exact ih _ (Int.emod_nonneg _ (by decide)) (Int.emod_lt_of_pos _ (by decide))
  exact h l 7 (by decide) (by decide)
theorem stamps_range : ∀ (ks : List Ky) (a : Int), 0 ≤ a → a < 2147483647 → 0 ≤ Ky.stamps a ks ∧ Ky.stamps a ks < 2147483647
  | [], a, h0, h1 => by rw [Ky.stamps]; exact ⟨h0, h1⟩
  | k :: ks, a, h0, h1 => by rw [Ky.stamps]; exact stamps_range ks _ (by omega) (by omega)
theorem stamp_range : ∀ k : Ky, 0 ≤ k.stamp ∧ k.stamp < 2147483647
  | .num i => by rw [Ky.stamp]; omega
  | .txt x => by rw [Ky.stamp]; exact stampT_range _
  | .tup ks => by rw [Ky.stamp]; exact stamps_range ks 11 (by decide) (by decide)
  | .bl _ => by simp [Ky.stamp]
  | .non => by simp [Ky.stamp]
  | .lst _ => by simp [Ky.stamp]
  | .dct => by simp [Ky.stamp]
theorem stampT_step {l : List Nat} {i c : Nat} (h : l[i]? = some c) : stampT (l.take (i + 1)) = (31 * stampT (l.take i) + c) % 2147483647 := by
  obtain ⟨hi, e⟩ := List.getElem?_eq_some_iff.mp h
  unfold stampT
  rw [List.take_succ_eq_append_getElem hi, List.foldl_append, e]
  rfl
theorem stamps_append : ∀ (a : Int) (xs ys : List Ky), Ky.stamps a (xs ++ ys) = Ky.stamps (Ky.stamps a xs) ys
  | a, [], ys => by simp [Ky.stamps]
  | a, x :: xs, ys => by
    rw [List.cons_append, Ky.stamps, Ky.stamps]
    exact stamps_append _ xs ys
theorem stamps_step {ks : List Ky} {i : Nat} {k : Ky} (a : Int) (h : ks[i]? = some k) : Ky.stamps a (ks.take (i + 1)) = Builtin.bitXor (1000003 * Ky.stamps a (ks.take i)) k.stamp % 2147483647 := by
  obtain ⟨hi, e⟩ := List.getElem?_eq_some_iff.mp h
  rw [List.take_succ_eq_append_getElem hi, stamps_append, e, Ky.stamps, Ky.stamps]
theorem dep_of_mem : ∀ {ks : List Ky} {i : Nat} {k : Ky}, ks[i]? = some k → k.dep ≤ Ky.deps ks
  | [], i, k, h => by simp at h
  | x :: xs, 0, k, h => by
    simp at h
    subst h
    rw [Ky.deps]
    omega
  | x :: xs, i + 1, k, h => by
    have := dep_of_mem (ks := xs) (i := i) (k := k) (by simpa using h)
    rw [Ky.deps]
    omega
/-- stamp of a key so deep -/
def spStamp (n : Nat) : Sp := fun vs H Q _ => ∃ v k, vs = [v] ∧ KyAt H v k ∧ (k.good = true ∧ k.dep ≤ n) ∧ Q (.int k.stamp) H
theorem rd_spStamp {n : Nat} {v : V} {H : Hp} {Q : VK} {E : XK} : spStamp n [v] H Q E = ∃ k, KyAt H v k ∧ (k.good = true ∧ k.dep ≤ n) ∧ Q (.int k.stamp) H := by
  unfold spStamp
  apply propext
  constructor
  · rintro ⟨v', k, e, q⟩; cases e; exact ⟨k, q⟩
  · rintro ⟨k, q⟩; exact ⟨v, k, rfl, q⟩
theorem len_stamp {n : Nat} {vs H Q E} (h : spStamp n vs H Q E) : vs.length = 1 := by obtain ⟨_, _, rfl, _⟩ := h; rfl
def rOrd : List V → Hp → VK → Prop := fun xs H Q => ∃ x : Str, xs = [.str x] ∧ x.length = 1 ∧ Q (.int (x.cps.getD 0 0 : Nat)) H
theorem call_ordq {X : Cx} : CallR X (.builtin "ord") rOrd := call_ord
theorem rd_ord {c : Nat} {H : Hp} {Q : VK} : rOrd [.str ⟨#[c]⟩] H Q = Q (.int c) H := by
  unfold rOrd
  apply propext
  constructor
  · rintro ⟨x, e, _, q⟩; cases e; exact q
  · intro q; exact ⟨_, rfl, rfl, q⟩
/-! what is a key -/
def within : Nat → Ky → Bool
  | _, .num i => decide (-(10 ^ 60) < i ∧ i < 10 ^ 60)
  | _, .txt x => decide (x.length ≤ 60)
  | 0, .tup _ => false
  | d + 1, .tup ks => decide (ks.length ≤ 6) && ks.all (within d)
  | _, _ => false
mutual
def Ky.fit : Ky → Bool
  | .txt x => decide (x.length ≤ 16777216)
  | .tup ks => Ky.fits ks
  | _ => true
def Ky.fits : List Ky → Bool
  | [] => true
  | k :: ks => Ky.fit k && Ky.fits ks
end
theorem fits_get : ∀ {ks : List Ky} {i : Nat} {k : Ky}, Ky.fits ks = true → ks[i]? = some k → k.fit = true
  | [], i, k, _, h => by simp at h
  | x :: xs, 0, k, g, h => by
    have g' : x.fit = true ∧ Ky.fits xs = true := by simpa [Ky.fits] using g
    simp at h
    subst h
    exact g'.1
  | x :: xs, i + 1, k, g, h => by
    have g' : x.fit = true ∧ Ky.fits xs = true := by simpa [Ky.fits] using g
    exact fits_get (ks := xs) (i := i) g'.2 (by simpa using h)
def spWithin (n : Nat) : Sp := fun vs H Q _ => ∃ (v : V) (k : Ky) (d : Nat), vs = [v, .int d] ∧ KyAt H v k ∧ (k.fit = true ∧ d ≤ n) ∧ Q (.bl (within d k)) H
theorem len_within {n : Nat} {vs H Q E} (h : spWithin n vs H Q E) : vs.length = 2 := by obtain ⟨_, _, _, rfl, _⟩ := h; rfl
def spKeyB : Sp := fun vs H Q _ => ∃ (v : V) (k : Ky), vs = [v] ∧ KyAt H v k ∧ k.fit = true ∧ Q (.bl (within 3 k)) H
theorem len_keyB {vs H Q E} (h : spKeyB vs H Q E) : vs.length = 1 := by obtain ⟨_, _, rfl, _⟩ := h; rfl
theorem goods_get : ∀ {ks : List Ky} {i : Nat} {k : Ky}, Ky.goods ks = true → ks[i]? = some k → k.good = true
  | [], i, k, _, h => by simp at h
  | x :: xs, 0, k, g, h => by
    have g' : x.good = true ∧ Ky.goods xs = true := by simpa [Ky.goods] using g
    simp at h
    subst h
    exact g'.1
  | x :: xs, i + 1, k, g, h => by
    have g' : x.good = true ∧ Ky.goods xs = true := by simpa [Ky.goods] using g
    exact goods_get (ks := xs) (i := i) g'.2 (by simpa using h)
theorem goods_append : ∀ {xs ys : List Ky}, Ky.goods xs = true → Ky.goods ys = true → Ky.goods (xs ++ ys) = true
  | [], _, _, h => h
  | x :: xs, ys, g, h => by
    have g' : x.good = true ∧ Ky.goods xs = true := by simpa [Ky.goods] using g
    rw [List.cons_append, Ky.goods, g'.1, goods_append g'.2 h]
    rfl
theorem nums_at {H : Hp} : ∀ ns : List Int, KysAt H (ns.map V.int) (ns.map Ky.num)
  | [] => .nil
  | n :: ns => .cons (.num n) (nums_at ns)
theorem within_mono : ∀ {d e : Nat}, d ≤ e → ∀ k : Ky, within d k = true → within e k = true
  | d, e, h, .num i, q => by cases d <;> cases e <;> simpa [within] using q
  | d, e, h, .txt x, q => by cases d <;> cases e <;> simpa [within] using q
  | 0, e, h, .tup ks, q => by simp [within] at q
  | d + 1, 0, h, .tup ks, q => by omega
  | d + 1, e + 1, h, .tup ks, q => by
    simp only [within, Bool.and_eq_true, List.all_eq_true] at q ⊢
    exact ⟨q.1, fun y hy => within_mono (by omega) y (q.2 y hy)⟩
  | d, e, h, .bl b, q => by cases d <;> simp [within] at q
  | d, e, h, .non, q => by cases d <;> simp [within] at q
  | d, e, h, .lst n, q => by cases d <;> simp [within] at q
  | d, e, h, .dct, q => by cases d <;> simp [within] at q
section
variable {H H' : Hp} {D : Addr} {xs0 : List V}
mutual
/-- a key's tuples stay where a list is changed -/
theorem KyAt.but (k : ∀ b o, b ≠ D → H b = some o → H' b = some o) (e : H D = some (.lst xs0)) : ∀ (y : Ky) (v : V), y.good = true → KyAt H v y → KyAt H' v y
  | .num i, _, _, h => by cases h; exact .num i
  | .txt x, _, _, h => by cases h; exact .txt x
  | .tup ks, _, g, h => by
    cases h with
    | tup h p => exact .tup (k _ _ (ne_of h e (by intro z; cases z)) h) (KysAt.but' k e ks _ (by simpa [Ky.good] using g) p)
  | .bl _, _, g, _ => by simp [Ky.good] at g
  | .non, _, g, _ => by simp [Ky.good] at g
  | .lst _, _, g, _ => by simp [Ky.good] at g
  | .dct, _, g, _ => by simp [Ky.good] at g
theorem KysAt.but' (k : ∀ b o, b ≠ D → H b = some o → H' b = some o) (e : H D = some (.lst xs0)) : ∀ (ks : List Ky) (vs : List V), Ky.goods ks = true → KysAt H vs ks → KysAt H' vs ks
  | [], _, _, h => by cases h; exact .nil
  | y :: ks, _, g, h => by
    have g' : y.good = true ∧ Ky.goods ks = true := by simpa [Ky.goods] using g
    cases h with
    | cons h t => exact .cons (KyAt.but k e y _ g'.1 h) (KysAt.but' k e ks _ g'.2 t)
end
end
end My
namespace My
open PySem PySem.Spec PyProof.Rows L2
/-- the ninety-four signs -/
def signs : List Nat := [32, 33, 34, 35, 36, 38, 39, 40, 41, 42, 43, 44, 45, 46, 47, 48, 49, 50, 51, 52, 53, 54, 55, 56, 57, 58, 59, 60, 61, 62, 63, 64, 65, 66, 67, 68, 69, 70, 71, 72, 73, 74, 75, 76, 77, 78, 79, 80, 81, 82, 83, 84, 85, 86, 87, 88, 89, 90, 91, 92, 93, 94, 95, 96, 97, 98, 99, 100, 101, 102, 103, 104, 105, 106, 107, 108, 109, 110, 111, 112, 113, 114, 115, 116, 117, 118, 119, 120, 121, 122, 123, 124, 125, 126]
theorem signs_len : signs.length = 94 := rfl
theorem signs_ok : ∀ c ∈ signs, 32 ≤ c ∧ c ≤ 126 := by decide
def signAt (n : Int) : Nat := signs.getD n.toNat 0
theorem signAt_some {n : Int} (h0 : 0 ≤ n) (h1 : n < 94) : atI signs n = some (signAt n) := by
  obtain ⟨j, rfl⟩ : ∃ j : Nat, n = (j : Int) := ⟨n.toNat, by omega⟩
  have hj : j < signs.length := by rw [signs_len]; omega
  refine atI_nat ?_
  unfold signAt
  rw [Int.toNat_natCast, List.getD_eq_getElem?_getD, List.getElem?_eq_getElem hj]
  rfl
theorem signAt_ok {n : Int} (h0 : 0 ≤ n) (h1 : n < 94) : 32 ≤ signAt n ∧ signAt n ≤ 126 := by
  have hj : n.toNat < signs.length := by rw [signs_len]; omega
  unfold signAt
  rw [List.getD_eq_getElem?_getD, List.getElem?_eq_getElem hj]
  exact signs_ok _ (List.getElem_mem hj)
def codesOk (l : List Nat) : Prop := ∀ c ∈ l, 32 ≤ c ∧ c ≤ 126
theorem strOk_of {l : List Nat} (h : codesOk l) : PyData.strOk (SX.S l) = true := by
  show (SX.S l).cps.all (· < 0x110000) = true
  rw [← Array.all_toList]
  rw [List.all_eq_true]
  intro c hc
  have := h c (by simpa using hc)
  exact decide_eq_true (by omega)
theorem signs_text : (Str.ofString " !\"#$&'()*+,-./0123456789:;<=>?@ABCDEFGHIJKLMNOPQRSTUVWXYZ[\\]^_`" ++ Str.ofString "abcdefghijklmnopqrstuvwxyz{|}~" : Str) = SX.S signs := by decide +kernel
theorem signAt_val {n : Int} (h0 : 0 ≤ n) (h1 : n < 94) : (signAt n : Int) = if n < 5 then n + 32 else n + 33 := by
  obtain ⟨j, rfl⟩ : ∃ j : Nat, n = (j : Int) := ⟨n.toNat, by omega⟩
  have h : (List.range 94).all (fun j => decide ((signAt (j : Int) : Int) = if (j : Int) < 5 then (j : Int) + 32 else (j : Int) + 33)) = true := by decide +kernel
  exact of_decide_eq_true ((List.all_eq_true.mp h) j (List.mem_range.mpr (by omega)))
/-- a row of signs by numbers -/
def rowS (cs : List Int) : List Nat := cs.map fun n => signAt (n % 94)
theorem rowS_ok (cs : List Int) : codesOk (rowS cs) := by
  intro c hc
  obtain ⟨n, _, rfl⟩ := List.mem_map.mp hc
  exact signAt_ok (Int.emod_nonneg _ (by decide)) (Int.emod_lt_of_pos _ (by decide))
theorem rowS_len (cs : List Int) : (rowS cs).length = cs.length := List.length_map _
/-- single signs -/
theorem flat_one : ∀ l : List Nat, (l.map fun c => [c]).flatten = l
  | [] => rfl
  | c :: l => by rw [List.map_cons, List.flatten_cons, flat_one l]; rfl
theorem ones_str (l : List Nat) : (l.map fun c => V.str ⟨#[c]⟩) = ((l.map fun c => [c]).map SX.S).map V.str := by
  rw [List.map_map, List.map_map]
  rfl
theorem empty_S : Str.ofString "" = SX.S [] := by decide +kernel
/-- the join of a list of single signs -/
theorem join_ones {K : PySem.W.Frag} {H : Hp} {p : Addr} {l : List Nat} {R : List Str → Prop} (h : SqL K H p (l.map fun c => V.str ⟨#[c]⟩)) (hz : l.length ≤ 1000) (q : ∀ ys, Txt.join (Str.ofString "") ys = SX.S l → R ys) :
    ∃ ys : List Str, (SqL K H p (ys.map V.str) ∨ SqT K H p (ys.map V.str)) ∧ (ys.map (·.length)).sum + ys.length * (Str.ofString "").length ≤ 16777216 ∧ R ys := by
  refine ⟨(l.map fun c => [c]).map SX.S, .inl (by rw [← ones_str]; exact h), ?_, q _ ?_⟩
  · rw [lens_sum, flat_one, empty_S, SX.S_len]
    simp
    omega
  · rw [join_empty empty_S, flat_one]
theorem stampT_cons {a b c d : Nat} {h t : List Nat} (e : 31 * (a : Int) + b = 31 * (c : Int) + d) : stampT (h ++ [a, b] ++ t) = stampT (h ++ [c, d] ++ t) := by
  unfold stampT
  rw [List.foldl_append, List.foldl_append, List.foldl_append, List.foldl_append]
  congr 1
  simp only [List.foldl_cons, List.foldl_nil]
  generalize List.foldl (fun (h : Int) (c : Nat) => (31 * h + c) % 2147483647) 7 h = x
  omega
theorem codesOk_append {a b : List Nat} (h : codesOk a) (g : codesOk b) : codesOk (a ++ b) := fun c hc => (List.mem_append.mp hc).elim (h c) (g c)
theorem codesOk_take {a : List Nat} (h : codesOk a) (n : Nat) : codesOk (a.take n) := fun c hc => h c (List.mem_of_mem_take hc)
theorem codesOk_drop {a : List Nat} (h : codesOk a) (n : Nat) : codesOk (a.drop n) := fun c hc => h c (List.mem_of_mem_drop hc)
theorem codesOk_two {a b : Nat} (h : 32 ≤ a ∧ a ≤ 126) (g : 32 ≤ b ∧ b ≤ 126) : codesOk [a, b] := fun c hc => by
  rcases List.mem_cons.mp hc with rfl | hc
  · exact h
  · rcases List.mem_cons.mp hc with rfl | hc
    · exact g
    · cases hc
theorem S_ne {a b : List Nat} (h : a ≠ b) : SX.S a ≠ SX.S b := fun e => h (SX.S_inj e)
end My
namespace My
open PySem PySem.Spec PyProof.Rows L2
/-- the count of a slot -/
def spWhen : Sp := fun vs H Q _ => ∃ (m : Int) (j : Nat) (s : Int), vs = [.int m, .int (2 ^ j), .int s] ∧ (3 ≤ j ∧ j ≤ 12) ∧ (0 ≤ m ∧ m < 2147483647) ∧ (0 ≤ s ∧ s < 2 ^ j) ∧
  ∀ f : Int, 0 ≤ f → f < 2 ^ j → (m + f * strideF m - s) % 2 ^ j = 0 → Q (.int f) H
theorem len_when {vs H Q E} (h : spWhen vs H Q E) : vs.length = 3 := by obtain ⟨_, _, _, rfl, _⟩ := h; rfl
/-- 2^r divides 1 - s * b -/
def Inv2 (s b : Int) (r : Nat) : Prop := ∃ t, 1 - s * b = 2 ^ r * t
theorem inv2_mono {s b : Int} {r q : Nat} (h : Inv2 s b r) (l : q ≤ r) : Inv2 s b q := by
  obtain ⟨t, e⟩ := h
  obtain ⟨d, rfl⟩ : ∃ d, r = q + d := ⟨r - q, by omega⟩
  exact ⟨2 ^ d * t, by rw [e, Int.pow_add, Int.mul_assoc]⟩
theorem inv2_mod {s b : Int} {r j : Nat} (h : Inv2 s b r) (l : r ≤ j) : Inv2 s (b % 2 ^ j) r := by
  obtain ⟨t, e⟩ := h
  obtain ⟨d, rfl⟩ : ∃ d, j = r + d := ⟨j - r, by omega⟩
  refine ⟨t + s * (2 ^ d * (b / 2 ^ (r + d))), ?_⟩
  have e2 : b % 2 ^ (r + d) = b - 2 ^ (r + d) * (b / 2 ^ (r + d)) := Int.emod_def _ _
  have e3 : (2 : Int) ^ (r + d) * (b / 2 ^ (r + d)) = 2 ^ r * (2 ^ d * (b / 2 ^ (r + d))) := by
    rw [← Int.mul_assoc, ← Int.pow_add]
  rw [e2, e3, Int.mul_sub, Int.mul_add, Int.mul_left_comm s]
  omega
theorem inv2_start {s : Int} (h : s % 2 = 1) : Inv2 s s 3 := by
  have h4 : s % 8 = 1 ∨ s % 8 = 3 ∨ s % 8 = 5 ∨ s % 8 = 7 := by omega
  have e := Int.emod_def s 8
  have hs : s = 8 * (s / 8) + s % 8 := by omega
  generalize s / 8 = q at hs
  generalize s % 8 = r at hs h4
  refine ⟨-(8 * (q * q) + 2 * (q * r)) + (1 - r * r) / 8, ?_⟩
  subst hs
  have x : (8 * q + r) * (8 * q + r) = 64 * (q * q) + 16 * (q * r) + r * r := by
    grind
  rw [x]
  rcases h4 with rfl | rfl | rfl | rfl <;> simp <;> omega
theorem inv2_step {s b : Int} {r : Nat} (h : Inv2 s b r) : Inv2 s (b * (2 - s * b)) (2 * r) := by
  obtain ⟨t, e⟩ := h
  refine ⟨t * t, ?_⟩
  have e2 : s * b = 1 - 2 ^ r * t := by omega
  have e3 : s * (b * (2 - s * b)) = (1 - 2 ^ r * t) * (1 + 2 ^ r * t) := by
    rw [← Int.mul_assoc, e2]
    congr 1
    omega
  rw [e3]
  have e4 : (2 : Int) ^ (2 * r) = 2 ^ r * 2 ^ r := by rw [Nat.two_mul, Int.pow_add]
  rw [e4]
  generalize (2 : Int) ^ r = x
  grind
/-- the end -/
theorem inv2_end {m s b d : Int} {j : Nat} (h : Inv2 s b j) (z : (0 : Int) < 2 ^ j) : (m + (d - m) * b % 2 ^ j * s - d) % 2 ^ j = 0 := by
  obtain ⟨t, e⟩ := h
  have e2 : (d - m) * b % 2 ^ j = (d - m) * b - 2 ^ j * ((d - m) * b / 2 ^ j) := Int.emod_def _ _
  rw [e2]
  generalize (d - m) * b / 2 ^ j = q
  generalize (2 : Int) ^ j = x at e
  have e3 : m + ((d - m) * b - x * q) * s - d = x * ((m - d) * t - q * s) := by grind
  rw [e3, Int.mul_emod_right]
end My
namespace My
open PySem PySem.Spec PyProof.Rows L2
structure KOk (d : Nat) (k : Ky) : Prop where
  w : within d k = true
  g : k.good = true
  f : k.fit = true
  d : k.dep ≤ d
abbrev KeyOk := KOk 3
theorem KOk.mono {d e : Nat} {k : Ky} (p : KOk d k) (h : d ≤ e) : KOk e k := ⟨within_mono h _ p.w, p.g, p.f, Nat.le_trans p.d h⟩
theorem goods_of : ∀ {ks : List Ky}, (∀ k ∈ ks, k.good = true) → Ky.goods ks = true
  | [], _ => by simp [Ky.goods]
  | k :: ks, h => by rw [Ky.goods, h k List.mem_cons_self, goods_of fun y hy => h y (List.mem_cons_of_mem _ hy)]; rfl
theorem fits_of : ∀ {ks : List Ky}, (∀ k ∈ ks, k.fit = true) → Ky.fits ks = true
  | [], _ => by simp [Ky.fits]
  | k :: ks, h => by rw [Ky.fits, h k List.mem_cons_self, fits_of fun y hy => h y (List.mem_cons_of_mem _ hy)]; rfl
theorem deps_of {d : Nat} : ∀ {ks : List Ky}, (∀ k ∈ ks, k.dep ≤ d) → Ky.deps ks ≤ d
  | [], _ => by simp [Ky.deps]
  | k :: ks, h => by
    have a := h k List.mem_cons_self
    have b := deps_of (ks := ks) fun y hy => h y (List.mem_cons_of_mem _ hy)
    rw [Ky.deps]
    omega
theorem KOk.tup {d : Nat} {ks : List Ky} (h : ∀ k ∈ ks, KOk d k) (z : ks.length ≤ 6) : KOk (d + 1) (.tup ks) := by
  refine ⟨?_, ?_, ?_, ?_⟩
  · simp only [within]
    rw [decide_eq_true z, Bool.true_and, List.all_eq_true]
    exact fun k hk => (h k hk).w
  · rw [Ky.good]; exact goods_of fun k hk => (h k hk).g
  · rw [Ky.fit]; exact fits_of fun k hk => (h k hk).f
  · rw [Ky.dep]
    have := deps_of (d := d) fun k hk => (h k hk).d
    omega
theorem KOk.num {d : Nat} {i : Int} (b : -(10 ^ 60) < i ∧ i < 10 ^ 60) : KOk d (.num i) := ⟨by cases d <;> (simp only [within]; exact decide_eq_true b), by simp [Ky.good], by simp [Ky.fit], by simp [Ky.dep]⟩
theorem KOk.txt {d : Nat} {l : List Nat} (c : codesOk l) (z : l.length ≤ 60) : KOk d (.txt (SX.S l)) := by
  refine ⟨?_, ?_, ?_, by simp [Ky.dep]⟩
  · cases d <;> (simp only [within]; exact decide_eq_true (by rw [SX.S_len]; exact z))
  · simp only [Ky.good]; exact strOk_of c
  · simp only [Ky.fit]; exact decide_eq_true (by rw [SX.S_len]; omega)
/-- a text of so many signs -/
def spText : Sp := fun vs H Q _ => ∃ n z : Int, vs = [.int n, .int z] ∧ (0 ≤ z ∧ z ≤ 1000) ∧ ∀ l : List Nat, codesOk l → (l.length : Int) = z → Q (.str (SX.S l)) H
theorem len_text {vs H Q E} (h : spText vs H Q E) : vs.length = 2 := by obtain ⟨_, _, rfl, _⟩ := h; rfl
/-- a number or a text -/
def Leaf : V → Ky → Prop
  | .int i, k => k = .num i ∧ (-(10 ^ 60) < i ∧ i < 10 ^ 60)
  | .str x, k => ∃ l, k = .txt (SX.S l) ∧ x = SX.S l ∧ codesOk l ∧ l.length ≤ 60
  | _, _ => False
def spAnyLeaf : Sp := fun vs H Q _ => ∃ n : Int, vs = [.int n] ∧ (0 ≤ n ∧ n < 2 ^ 60) ∧ ∀ v k, Leaf v k → Q v H
theorem len_anyLeaf {vs H Q E} (h : spAnyLeaf vs H Q E) : vs.length = 1 := by obtain ⟨_, rfl, _⟩ := h; rfl
theorem Leaf.at {H : Hp} {v : V} {k : Ky} (h : Leaf v k) : KyAt H v k := by
  cases v with
  | int i => obtain ⟨rfl, _⟩ := h; exact .num i
  | str x => obtain ⟨l, rfl, rfl, _⟩ := h; exact .txt _
  | _ => exact h.elim
theorem Leaf.ok {d : Nat} {v : V} {k : Ky} (h : Leaf v k) : KOk d k := by
  cases v with
  | int i => obtain ⟨rfl, b⟩ := h; exact .num b
  | str x => obtain ⟨l, rfl, rfl, c, z⟩ := h; exact .txt c z
  | _ => exact h.elim
/-- leaves, in a row -/
theorem leaves_at {H : Hp} : ∀ {ys : List V}, (∀ (i : Nat) y, ys[i]? = some y → ∃ k, Leaf y k) → ∃ ks, KysAt H ys ks ∧ (∀ k ∈ ks, KOk 0 k) ∧ ks.length = ys.length
  | [], _ => ⟨[], .nil, (fun _ h => by cases h), rfl⟩
  | y :: ys, h => by
    obtain ⟨k, hk⟩ := h 0 y rfl
    obtain ⟨ks, h1, h2, h3⟩ := leaves_at (H := H) (ys := ys) fun i z e => h (i + 1) z (by simpa using e)
    refine ⟨k :: ks, .cons hk.at h1, fun x hx => ?_, by simp [h3]⟩
    rcases List.mem_cons.mp hx with rfl | hx
    · exact hk.ok
    · exact h2 x hx
theorem KysAt.set {H : Hp} : ∀ {ys : List V} {ks : List Ky} {i : Nat} {v : V} {k : Ky}, KysAt H ys ks → KyAt H v k → KysAt H (ys.set i v) (ks.set i k)
  | _, [], _, _, _, h, _ => by cases h; exact .nil
  | _, x :: xs, 0, _, _, h, q => by
    cases h with
    | cons h t => exact .cons q t
  | _, x :: xs, i + 1, _, _, h, q => by
    cases h with
    | cons h t => exact .cons h (KysAt.set t q)
theorem KysAt.drop {H : Hp} : ∀ {ks : List Ky} {ys : List V} (n : Nat), KysAt H ys ks → KysAt H (ys.drop n) (ks.drop n)
  | _, _, 0, h => h
  | [], _, n + 1, h => by cases h; exact .nil
  | k :: ks, _, n + 1, h => by
    cases h with
    | cons h t => exact KysAt.drop n t
/-- any key -/
def spAnyKey : Sp := fun vs H Q _ => ∃ n : Int, vs = [.int n] ∧ (0 ≤ n ∧ n < 2 ^ 60) ∧ ∀ H' v k, Same H H' → KyAt H' v k → KeyOk k → Q v H'
theorem len_anyKey {vs H Q E} (h : spAnyKey vs H Q E) : vs.length = 1 := by obtain ⟨_, rfl, _⟩ := h; rfl
def spKey3 : Sp := fun vs H Q _ => ∃ w b j : Int, vs = [.int w, .int b, .int j] ∧ ((0 ≤ b ∧ b < 2 ^ 42) ∧ 0 ≤ j ∧ j < 2 ^ 20) ∧ ∀ H' v k, Same H H' → KyAt H' v k → KeyOk k → Q v H'
theorem xor_range {s : Int} (h0 : 0 ≤ s) (h1 : s < 2147483647) : 0 ≤ Builtin.bitXor 11000033 s ∧ Builtin.bitXor 11000033 s < 2147483648 := by
  refine ⟨Bits.bitXor_nonneg (by decide) h0, ?_⟩
  rw [Bits.bitXor_pp (by decide) h0]
  have := Nat.xor_lt_two_pow (x := (11000033 : Int).toNat) (y := s.toNat) (n := 31) (by decide) (by omega)
  omega
theorem cut_Shi {l : List Nat} {m : Nat} (h : m ≤ l.length) : cutS (SX.S l) none (some (m : Int)) = SX.S (l.take m) := by
  rw [cut_S, HT.sIx_none, HT.sIx_nat, Nat.min_eq_left h, List.drop_zero, Nat.sub_zero]
theorem cut_Slo {l : List Nat} {m : Nat} (h : m ≤ l.length) : cutS (SX.S l) (some (m : Int)) none = SX.S (l.drop m) := by
  rw [cut_S, HT.sIx_none, HT.sIx_nat, Nat.min_eq_left h, List.take_of_length_le (by rw [List.length_drop]; omega)]
theorem len_key3 {vs H Q E} (h : spKey3 vs H Q E) : vs.length = 3 := by obtain ⟨_, _, _, rfl, _⟩ := h; rfl
end My
namespace My
open PySem PySem.Spec PyProof.Rows L2
/-! rows of keys and of None -/
def Ky.dat : Ky → Bool
  | .non => true
  | k => k.good
theorem Ky.dat_of {k : Ky} (h : k.good = true) : k.dat = true := by
  cases k <;> first | exact h | simp [Ky.good] at h
theorem Ky.dat_cases {k : Ky} (h : k.dat = true) : k = .non ∨ k.good = true := by
  cases k <;> first | exact .inr h | exact .inl rfl
def Ky.dats (ks : List Ky) : Prop := ∀ k ∈ ks, k.dat = true ∧ k.dep ≤ 60
theorem Ky.eqvD (x y : Ky) (hx : x.dat = true) (hy : y.dat = true) : PyData.eqv x.toD y.toD = Ky.beq x y := by
  rcases Ky.dat_cases hx with rfl | gx <;> rcases Ky.dat_cases hy with rfl | gy
  · simp [Ky.toD, PyData.eqv, Ky.beq]
  · cases y <;> simp [Ky.good] at gy <;> simp [Ky.toD, PyData.eqv, Ky.beq]
  · cases x <;> simp [Ky.good] at gx <;> simp [Ky.toD, PyData.eqv, Ky.beq]
  · exact Ky.eqv x y gx gy
theorem Ky.canLayD (k : Ky) (h : k.dat = true) : k.toD.canLay0 = true := by
  rcases Ky.dat_cases h with rfl | g
  · simp [Ky.toD, PyData.canLay0]
  · exact Ky.canLay k g
theorem Ky.beq_dec (k l : Ky) : Ky.beq k l = decide (k = l) := by
  cases h : Ky.beq k l with
  | true => exact (decide_eq_true ((Ky.beq_iff k l).mp h)).symm
  | false => exact (decide_eq_false fun c => by rw [(Ky.beq_iff k l).mpr c] at h; cases h).symm
theorem Ky.beqs_dec (k l : List Ky) : Ky.beqs k l = decide (k = l) := by
  cases h : Ky.beqs k l with
  | true => exact (decide_eq_true ((Ky.beqs_iff k l).mp h)).symm
  | false => exact (decide_eq_false fun c => by rw [(Ky.beqs_iff k l).mpr c] at h; cases h).symm
theorem Ky.dats_cons {k : Ky} {ks : List Ky} (h : Ky.dats (k :: ks)) : (k.dat = true ∧ k.dep ≤ 60) ∧ Ky.dats ks := ⟨h k List.mem_cons_self, fun y hy => h y (List.mem_cons_of_mem _ hy)⟩
theorem Ky.dats_append {ks ls : List Ky} (h : Ky.dats ks) (g : Ky.dats ls) : Ky.dats (ks ++ ls) := fun y hy => (List.mem_append.mp hy).elim (h y) (g y)
theorem Ky.dats_nil : Ky.dats [] := fun _ h => by cases h
theorem Ky.dats_one {k : Ky} (h : k.dat = true) (d : k.dep ≤ 60) : Ky.dats [k] := fun y hy => by
  rcases List.mem_cons.mp hy with rfl | hy
  · exact ⟨h, d⟩
  · cases hy
theorem Ky.eqvsD : ∀ xs ys : List Ky, Ky.dats xs → Ky.dats ys → PyData.eqvAll (Ky.toDs xs) (Ky.toDs ys) = Ky.beqs xs ys
  | [], [], _, _ => by simp [Ky.toDs, PyData.eqvAll, Ky.beqs]
  | x :: xs, y :: ys, h, g => by
    obtain ⟨h1, h2⟩ := Ky.dats_cons h
    obtain ⟨g1, g2⟩ := Ky.dats_cons g
    simp only [Ky.toDs, PyData.eqvAll, Ky.beqs]
    rw [Ky.eqvD x y h1.1 g1.1, Ky.eqvsD xs ys h2 g2]
  | [], _ :: _, _, _ => by simp [Ky.toDs, PyData.eqvAll, Ky.beqs]
  | _ :: _, [], _, _ => by simp [Ky.toDs, PyData.eqvAll, Ky.beqs]
theorem Ky.canLaysD : ∀ ks : List Ky, Ky.dats ks → PyData.canLayAll0 (Ky.toDs ks) = true
  | [], _ => by simp [Ky.toDs, PyData.canLayAll0]
  | k :: ks, h => by
    obtain ⟨h1, h2⟩ := Ky.dats_cons h
    simp only [Ky.toDs, PyData.canLayAll0, Ky.canLayD k h1.1, Ky.canLaysD ks h2, Bool.and_self]
theorem Ky.depsD : ∀ ks : List Ky, Ky.dats ks → PyData.depthAll (Ky.toDs ks) ≤ 60
  | [], _ => by simp [Ky.toDs, PyData.depthAll]
  | k :: ks, h => by
    obtain ⟨h1, h2⟩ := Ky.dats_cons h
    simp only [Ky.toDs, PyData.depthAll]
    rw [Ky.depth_toD]
    have := Ky.depsD ks h2
    omega
theorem Ky.shapedD {k : Ky} (h : k.dat = true) (d : k.dep ≤ 60) : SeqAt.shaped k.toD = true := by
  unfold SeqAt.shaped
  rw [Ky.canLayD k h, Ky.depth_toD, decide_eq_true (by omega)]
  rfl
theorem Ky.shapedL {ks : List Ky} (h : Ky.dats ks) : SeqAt.shaped (.list (Ky.toDs ks)) = true := by
  unfold SeqAt.shaped
  have := Ky.depsD ks h
  rw [PyData.canLay0, Ky.canLaysD ks h, PyData.depth, decide_eq_true (by omega)]
  rfl
section
variable {H H' : Hp} {K : PySem.W.Frag}
theorem KyAt.dpD (k : Ky) (v : V) (g : k.dat = true) (h : KyAt H v k) : Dp K H v k.toD := by
  rcases Ky.dat_cases g with rfl | g
  · cases h
    have e : Ky.toD .non = .none := by simp [Ky.toD]
    rw [e]
    exact .non
  · exact KyAt.dp k v g h
theorem KysAt.dpD : ∀ (ks : List Ky) (vs : List V), Ky.dats ks → KysAt H vs ks → DpAll K H vs (Ky.toDs ks)
  | [], _, _, h => by cases h; rw [Ky.toDs]; exact .nil
  | k :: ks, _, g, h => by
    obtain ⟨h1, h2⟩ := Ky.dats_cons g
    cases h with
    | cons h t => rw [Ky.toDs]; exact .cons (KyAt.dpD k _ h1.1 h) (KysAt.dpD ks _ h2 t)
theorem eq_rows {a b : Addr} {vs ws : List V} {ks ls : List Ky} {Q : VK} (ha : SqL K H a vs) (hk : KysAt H vs ks) (hb : SqL K H b ws) (hl : KysAt H ws ls) (dk : Ky.dats ks) (dl : Ky.dats ls) (q : Q (.bl (decide (ks = ls))) H) : rEqD K (.ref a) (.ref b) H Q := by
  refine ⟨.list (Ky.toDs ks), .list (Ky.toDs ls), .lst ha (KysAt.dpD ks _ dk hk), .lst hb (KysAt.dpD ls _ dl hl), Ky.shapedL dk, Ky.shapedL dl, ?_⟩
  rw [PyData.eqv, Ky.eqvsD _ _ dk dl, Ky.beqs_dec]
  exact q
theorem ne_rows {a b : Addr} {vs ws : List V} {ks ls : List Ky} {Q : VK} (ha : SqL K H a vs) (hk : KysAt H vs ks) (hb : SqL K H b ws) (hl : KysAt H ws ls) (dk : Ky.dats ks) (dl : Ky.dats ls) (q : Q (.bl (!decide (ks = ls))) H) : rNeD K (.ref a) (.ref b) H Q := by
  refine ⟨.list (Ky.toDs ks), .list (Ky.toDs ls), .lst ha (KysAt.dpD ks _ dk hk), .lst hb (KysAt.dpD ls _ dl hl), Ky.shapedL dk, Ky.shapedL dl, ?_⟩
  rw [PyData.eqv, Ky.eqvsD _ _ dk dl, Ky.beqs_dec]
  exact q
theorem any_dec (k : Ky) (hk : k.dat = true) : ∀ ks : List Ky, Ky.dats ks → ((Ky.toDs ks).any fun z => PyData.eqv z k.toD) = decide (k ∈ ks)
  | [], _ => by simp [Ky.toDs]
  | x :: xs, h => by
    obtain ⟨h1, h2⟩ := Ky.dats_cons h
    rw [Ky.toDs, List.any_cons, any_dec k hk xs h2, Ky.eqvD x k h1.1 hk, Ky.beq_dec]
    by_cases e : x = k
    · subst e
      simp
    · have e' : ¬ k = x := fun c => e c.symm
      simp [e, e']
theorem in_row {v : V} {a : Addr} {vs : List V} {k : Ky} {ks : List Ky} {Q : VK} (hv : KyAt H v k) (ha : SqL K H a vs) (hks : KysAt H vs ks) (gk : k.dat = true) (dk : k.dep ≤ 60) (d : Ky.dats ks) (q : Q (.bl (decide (k ∈ ks))) H) : rInD K v (.ref a) H Q := by
  refine ⟨k.toD, Ky.toDs ks, KyAt.dpD k v gk hv, .lst ha (KysAt.dpD ks _ d hks), Ky.shapedD gk dk, Ky.shapedL d, ?_⟩
  rw [any_dec k gk ks d]
  exact q
/-- rows stay where a list is changed -/
theorem KyAt.butD {D : Addr} {xs0 : List V} (s : ∀ b o, b ≠ D → H b = some o → H' b = some o) (e : H D = some (.lst xs0)) {k : Ky} {v : V} (g : k.dat = true) (h : KyAt H v k) : KyAt H' v k := by
  rcases Ky.dat_cases g with rfl | g
  · cases h
    exact .non
  · exact KyAt.but s e k v g h
theorem KysAt.butD {D : Addr} {xs0 : List V} (s : ∀ b o, b ≠ D → H b = some o → H' b = some o) (e : H D = some (.lst xs0)) : ∀ {ks : List Ky} {vs : List V}, Ky.dats ks → KysAt H vs ks → KysAt H' vs ks
  | [], _, _, h => by cases h; exact .nil
  | k :: ks, _, g, h => by
    obtain ⟨h1, h2⟩ := Ky.dats_cons g
    cases h with
    | cons h t => exact .cons (KyAt.butD s e h1.1 h) (KysAt.butD s e h2 t)
theorem KyAt.ne_non {v : V} {k : Ky} (h : KyAt H v k) : (v = .non) ↔ (k = .non) := by
  cases h <;> simp
end
theorem units65 {A : Around} {k : Nat} (r : Room k A) : A.units + 65 < cLine := by have := r.un; omega
theorem rd_never {D : Ends} {σ : L2.St} {H : Hp} : tNever D σ H = False := rfl
theorem rd_dget {td ty : TE} {σ : L2.St} {H : Hp} {Q : VK} : tDGet td ty σ H Q = td σ H fun x H1 => ty σ H1 fun y H2 => isRef x fun a => ∃ v, DGet H2 a y (some v) ∧ Q v H2 := by
  unfold tDGet
  apply congrArg
  funext x H1
  apply congrArg
  funext y H2
  rw [← isRef_eq]
  apply propext
  constructor
  · rintro ⟨a, v, e, h⟩; exact ⟨a, e, v, h⟩
  · rintro ⟨a, e, v, h⟩; exact ⟨a, v, e, h⟩
theorem rd_din {td ty : TE} {σ : L2.St} {H : Hp} {Q : VK} : tDIn ty td σ H Q = ty σ H fun y H1 => td σ H1 fun x H2 => isRef x fun a => ∃ o, DGet H2 a y o ∧ Q (.bl o.isSome) H2 := by
  unfold tDIn
  apply congrArg
  funext y H1
  apply congrArg
  funext x H2
  rw [← isRef_eq]
  apply propext
  constructor
  · rintro ⟨a, v, e, h⟩; exact ⟨a, e, v, h⟩
  · rintro ⟨a, e, v, h⟩; exact ⟨a, v, e, h⟩
theorem rd_dnotin {td ty : TE} {σ : L2.St} {H : Hp} {Q : VK} : tDNotIn ty td σ H Q = ty σ H fun y H1 => td σ H1 fun x H2 => isRef x fun a => ∃ o, DGet H2 a y o ∧ Q (.bl (!o.isSome)) H2 := by
  unfold tDNotIn
  apply congrArg
  funext y H1
  apply congrArg
  funext x H2
  rw [← isRef_eq]
  apply propext
  constructor
  · rintro ⟨a, v, e, h⟩; exact ⟨a, e, v, h⟩
  · rintro ⟨a, e, v, h⟩; exact ⟨a, v, e, h⟩
theorem rd_dput {td ty tv : TE} {D : Ends} {σ : L2.St} {H : Hp} : sDPut td ty tv D σ H = tv σ H fun v H1 => td σ H1 fun x H2 => ty σ H2 fun y H3 => isRef x fun a => ∃ H4, DPut H3 a y v H4 ∧ D.nx σ H4 := by
  unfold sDPut
  apply congrArg
  funext v H1
  apply congrArg
  funext x H2
  apply congrArg
  funext y H3
  rw [← isRef_eq]
  apply propext
  constructor
  · rintro ⟨a, v, e, h⟩; exact ⟨a, e, v, h⟩
  · rintro ⟨a, e, v, h⟩; exact ⟨a, v, e, h⟩
def isR0 (vs : List V) (f : Addr → Prop) : Prop := match vs with | [.ref a] => f a | _ => False
theorem rd_isR0 {a : Addr} {f : Addr → Prop} : isR0 [.ref a] f = f a := rfl
theorem rd_enum {K : PySem.W.Frag} {tr : TA} {σ : L2.St} {H : Hp} {R : It → Hp → Prop} : iEnum K tr σ H R = tr σ H fun vs H1 => isR0 vs fun a => (∃ xs, SqL K H1 a xs) ∧ R (Ite K a) H1 := by
  unfold iEnum
  apply congrArg
  funext vs H1
  apply propext
  constructor
  · rintro ⟨a, xs, rfl, h, r⟩; exact ⟨⟨xs, h⟩, r⟩
  · intro h
    unfold isR0 at h
    split at h
    · obtain ⟨⟨xs, h⟩, r⟩ := h
      exact ⟨_, xs, rfl, h, r⟩
    · exact h.elim
/-- enumerate: the pair is new, then taken apart -/
theorem go_enum {K : PySem.W.Frag} {D : Ends} {σ : L2.St} {H : Hp} {a : Addr} {xs : List V} {g : TG} {tb : TS} (Pv : Nat → L2.St → Hp → Prop) (h0 : Pv 0 σ H) (hl : ∀ i σ H, i ≤ xs.length → Pv i σ H → SqL K H a xs)
    (hs : ∀ (N : L2.St → Hp → Prop) (i : Nat) x σ H T, xs[i]? = some x → Pv i σ H → Fresh H T → (∀ σ' H', Pv (i + 1) σ' H' → N σ' H') → g (.ref T) σ (upd H T (.tup [.int i, x])) fun σ2 H2 => tb { D with nx := N, ct := N, bk := D.nx } σ2 H2) (hd : ∀ σ H, Pv xs.length σ H → D.nx σ H) : forGo (Ite K a) g tb D σ H := by
  refine go_it (walk_enum (xs := xs)) Pv h0 hl ?_ hd
  rintro N i x σ H H' hi p ⟨T, x1, y1, rfl, hT, rfl, e1, e2⟩ hN
  cases e1
  exact hs N i y1 σ H T e2 p hT hN
theorem rd_aug {i : Nat} {te : TE} {ti : TIp} {D : Ends} {σ : L2.St} {H : Hp} : tAug i te ti D σ H = (match σ[i]? with | some (some x) => te σ H fun y H1 => ti x y H1 fun z H2 => D.nx (σ.set i (some z)) H2 | _ => False) := by
  unfold tAug
  apply propext
  constructor
  · rintro ⟨v, e, q⟩
    rw [e]; exact q
  · intro h
    split at h
    · rename_i v e
      exact ⟨v, e, h⟩
    · exact h.elim
theorem rd_ipI {f : Int → Int → Int} {i j : Int} {H : Hp} {Q : VK} : ipI f (.int i) (.int j) H Q = Q (.int (f i j)) H := by
  unfold ipI
  apply propext
  constructor
  · rintro ⟨a, b, e1, e2, q⟩
    cases e1; cases e2; exact q
  · intro q
    exact ⟨i, j, rfl, rfl, q⟩
def sizeB (n : Int) : Bool := decide (8 ≤ n ∧ n ≤ 4096) && decide (Builtin.bitAnd n (n - 1) = 0)
theorem sizeB_pow {j : Nat} (h0 : 3 ≤ j) (h1 : j ≤ 12) : sizeB (2 ^ j) = true := by
  have h : (List.range 13).all (fun j => decide (j < 3) || sizeB (2 ^ j)) = true := by decide +kernel
  have := (List.all_eq_true.mp h) j (List.mem_range.mpr (by omega))
  rw [decide_eq_false (by omega), Bool.false_or] at this
  exact this
theorem at_any {xs : List V} {c : Int} (h0 : 0 ≤ c) (h1 : c < xs.length) : ∃ v, xs[c.toNat]? = some v ∧ atI xs c = some v := by
  have hlt : c.toNat < xs.length := by omega
  refine ⟨xs[c.toNat], List.getElem?_eq_getElem hlt, ?_⟩
  obtain ⟨j, rfl⟩ : ∃ j : Nat, c = (j : Int) := ⟨c.toNat, by omega⟩
  exact atI_nat (List.getElem?_eq_getElem hlt)
theorem get_int {cs : List Int} {s : Int} (h0 : 0 ≤ s) (h1 : s < cs.length) : (cs.map V.int)[s.toNat]? = some (.int (getI cs s)) := by
  rw [List.getElem?_map, List.getElem?_eq_getElem (by omega)]
  unfold getI
  rw [List.getD_eq_getElem?_getD, List.getElem?_eq_getElem (by omega)]
  rfl
end My
namespace My
open PySem PySem.Spec PyProof.Rows L2
/-! laying a row of keys into slots -/
theorem inv_of {s : Int} (h : s % 2 = 1) {j : Nat} (hj : j ≤ 12) : ∃ b, Inv2 s b j := ⟨_, inv2_mono (inv2_step (inv2_step (inv2_start h))) (by omega)⟩
theorem stride_odd (m : Int) : strideF m % 2 = 1 := by rw [strideF_eq]; omega
theorem reach (m : Int) {d : Int} {j : Nat} (hj : j ≤ 12) (h0 : 0 ≤ d) (h1 : d < 2 ^ j) : ∃ c : Nat, (c : Int) < 2 ^ j ∧ probeF m (2 ^ j) c = d := by
  obtain ⟨b, hb⟩ := inv_of (stride_odd m) hj
  have z : (0 : Int) < 2 ^ j := (pow_le hj).1
  have n0 := Int.emod_nonneg ((d - m) * b) (Int.ne_of_gt z)
  have n1 := Int.emod_lt_of_pos ((d - m) * b) z
  refine ⟨((d - m) * b % 2 ^ j).toNat, by omega, ?_⟩
  rw [probeF_eq, Int.toNat_of_nonneg n0]
  exact (slot_of h0 h1 (inv2_end hb z)).symm
theorem probe_range (m c : Int) {j : Nat} (hj : j ≤ 12) : 0 ≤ probeF m (2 ^ j) c ∧ probeF m (2 ^ j) c < 2 ^ j := by
  have z : (0 : Int) < 2 ^ j := (pow_le hj).1
  rw [probeF_eq]
  exact ⟨Int.emod_nonneg _ (Int.ne_of_gt z), Int.emod_lt_of_pos _ z⟩
theorem probe_next (m : Int) (c j : Nat) : (probeF m (2 ^ j) (c : Int) + strideF m) % 2 ^ j = probeF m (2 ^ j) ((c + 1 : Nat) : Int) := by
  rw [probeF_eq, probeF_eq, Int.emod_add_emod]
  congr 1
  rw [Int.natCast_add, Int.add_mul, Int.add_assoc]
  simp
theorem probe_zero (m : Int) (j : Nat) : m % 2 ^ j = probeF m (2 ^ j) ((0 : Nat) : Int) := by
  rw [probeF_eq]
  simp
def Bare (cs : List Int) (j : Nat) (m : Int) (n : Nat) : Prop := n < 2 ^ j ∧ getI cs (probeF m (2 ^ j) n) = -1 ∧ ∀ i : Nat, i < n → getI cs (probeF m (2 ^ j) i) ≠ -1
def bareN (cs : List Int) (j : Nat) (m : Int) : Nat := ((List.range (2 ^ j)).find? fun c : Nat => decide (getI cs (probeF m (2 ^ j) (c : Int)) = -1)).getD 0
theorem getI_mem {cs : List Int} {x : Int} (h : x ∈ cs) : ∃ s : Nat, s < cs.length ∧ getI cs s = x := by
  obtain ⟨s, hs, e⟩ := List.mem_iff_getElem.mp h
  refine ⟨s, hs, ?_⟩
  unfold getI
  rw [Int.toNat_natCast, List.getD_eq_getElem?_getD, List.getElem?_eq_getElem hs]
  exact e
theorem pow_cast (j : Nat) : ((2 ^ j : Nat) : Int) = (2 : Int) ^ j := by norm_cast
theorem bare_ex {cs : List Int} {j : Nat} (m : Int) (hj : j ≤ 12) (e : cs.length = 2 ^ j) (h : (-1) ∈ cs) : Bare cs j m (bareN cs j m) := by
  obtain ⟨s, hs, es⟩ := getI_mem h
  obtain ⟨c, hc, ec⟩ := reach m (d := s) hj (by omega) (by have := pow_cast j; omega)
  have hc' : c < 2 ^ j := by have := pow_cast j; omega
  cases q : (List.range (2 ^ j)).find? fun c : Nat => decide (getI cs (probeF m (2 ^ j) (c : Int)) = -1) with
  | none =>
    rw [List.find?_eq_none] at q
    have := q c (List.mem_range.mpr hc')
    rw [ec, es] at this
    exact (this (by decide)).elim
  | some n =>
    have en : bareN cs j m = n := by unfold bareN; rw [q]; rfl
    rw [en]
    rw [List.find?_range_eq_some] at q
    obtain ⟨q1, q2, q3⟩ := q
    refine ⟨List.mem_range.mp q2, of_decide_eq_true q1, fun i hi => ?_⟩
    have := q3 i hi
    simpa using this
theorem Bare.uniq {cs : List Int} {j : Nat} {m : Int} {a b : Nat} (p : Bare cs j m a) (q : Bare cs j m b) : a = b := by
  rcases Nat.lt_trichotomy a b with h | h | h
  · exact absurd p.2.1 (q.2.2 a h)
  · exact h
  · exact absurd q.2.1 (p.2.2 b h)
theorem getI_set {cs : List Int} {a b v : Int} (h0 : 0 ≤ a) (h1 : a < cs.length) (hb : 0 ≤ b) : getI (cs.set a.toNat v) b = if b = a then v else getI cs b := by
  unfold getI
  rw [List.getD_eq_getElem?_getD, List.getElem?_set]
  by_cases e : b = a
  · subst e
    rw [if_pos rfl, if_pos (by omega), if_pos rfl]
    rfl
  · rw [if_neg (by omega), if_neg e, List.getD_eq_getElem?_getD]
def layS (cs : List Int) (j i : Nat) (k : Ky) : List Int := if k = .non then cs else cs.set (probeF k.stamp (2 ^ j) (bareN cs j k.stamp)).toNat i
def layN (j : Nat) (ks : List Ky) : Nat → List Int
  | 0 => List.replicate (2 ^ j) (-1)
  | i + 1 => match ks[i]? with
    | some k => layS (layN j ks i) j i k
    | none => layN j ks i
structure Laid (ks : List Ky) (j i : Nat) (cs : List Int) : Prop where
  len : cs.length = 2 ^ j
  cnt : 2 ^ j ≤ cs.count (-1) + i
  cell : ∀ s : Int, 0 ≤ s → s < 2 ^ j → getI cs s = -1 ∨ (0 ≤ getI cs s ∧ getI cs s < i ∧ ∃ k, ks[(getI cs s).toNat]? = some k ∧ k ≠ .non)
  inj : ∀ s t : Int, 0 ≤ s → s < 2 ^ j → 0 ≤ t → t < 2 ^ j → getI cs s = getI cs t → getI cs s ≠ -1 → s = t
  ahead : ∀ (p : Nat) k, p < i → ks[p]? = some k → k ≠ .non → ∃ n : Nat, n < 2 ^ j ∧ getI cs (probeF k.stamp (2 ^ j) n) = p ∧ ∀ t : Nat, t < n → 0 ≤ getI cs (probeF k.stamp (2 ^ j) t) ∧ getI cs (probeF k.stamp (2 ^ j) t) < p
theorem Laid.mem {ks : List Ky} {j i : Nat} {cs : List Int} (h : Laid ks j i cs) (hi : i < 2 ^ j) : (-1) ∈ cs := by
  have := h.cnt
  exact List.count_pos_iff.mp (by omega)
theorem laid_zero (ks : List Ky) (j : Nat) : Laid ks j 0 (layN j ks 0) := by
  have e : ∀ s : Int, 0 ≤ s → s < 2 ^ j → getI (List.replicate (2 ^ j) (-1 : Int)) s = -1 := by
    intro s h0 h1
    have := pow_cast j
    unfold getI
    rw [List.getD_eq_getElem?_getD, List.getElem?_replicate, if_pos (by omega)]
    rfl
  refine ⟨List.length_replicate, ?_, fun s h0 h1 => .inl (e s h0 h1), fun s t h0 h1 _ _ _ hn => absurd (e s h0 h1) hn, fun p k hp => by omega⟩
  show 2 ^ j ≤ (List.replicate (2 ^ j) (-1 : Int)).count (-1) + 0
  rw [List.count_replicate_self]
  omega
theorem laid_step {ks : List Ky} {j i : Nat} {cs : List Int} {k : Ky} (hj : j ≤ 12) (hi : i < 2 ^ j) (h : Laid ks j i cs) (hk : ks[i]? = some k) : Laid ks j (i + 1) (layS cs j i k) := by
  unfold layS
  by_cases hn : k = .non
  · rw [if_pos hn]
    refine ⟨h.len, by have := h.cnt; omega, fun s h0 h1 => ?_, h.inj, fun p k' hp e hk' => ?_⟩
    · rcases h.cell s h0 h1 with q | ⟨q1, q2, q3⟩
      · exact .inl q
      · exact .inr ⟨q1, by omega, q3⟩
    · rcases Nat.lt_or_ge p i with hp' | hp'
      · exact h.ahead p k' hp' e hk'
      · have : p = i := by omega
        subst this
        rw [hk] at e
        cases e
        exact absurd hn hk'
  · rw [if_neg hn]
    obtain ⟨b1, b2, b3⟩ := bare_ex k.stamp hj h.len (h.mem hi)
    generalize bareN cs j k.stamp = n at b1 b2 b3 ⊢
    obtain ⟨r0, r1⟩ := probe_range k.stamp n hj
    have hl := h.len
    have pc := pow_cast j
    have gs : ∀ t : Int, 0 ≤ t → getI (cs.set (probeF k.stamp (2 ^ j) n).toNat i) t = if t = probeF k.stamp (2 ^ j) n then (i : Int) else getI cs t := fun t ht => getI_set r0 (by omega) ht
    have lt : (probeF k.stamp (2 ^ j) n).toNat < cs.length := by omega
    refine ⟨by rw [List.length_set]; exact hl, ?_, fun s h0 h1 => ?_, fun s t h0 h1 t0 t1 e ne => ?_, fun p k' hp e hk' => ?_⟩
    · have c := h.cnt
      rw [List.count_set lt]
      split <;> split <;> omega
    · rw [gs s h0]
      split
      · exact .inr ⟨by omega, by omega, k, by rw [Int.toNat_natCast]; exact hk, hn⟩
      · rcases h.cell s h0 h1 with q | ⟨q1, q2, q3⟩
        · exact .inl q
        · exact .inr ⟨q1, by omega, q3⟩
    · rw [gs s h0, gs t t0] at e
      rw [gs s h0] at ne
      split at e <;> split at e
      · omega
      · rcases h.cell t t0 t1 with q | ⟨q1, q2, q3⟩ <;> omega
      · rcases h.cell s h0 h1 with q | ⟨q1, q2, q3⟩ <;> omega
      · rename_i c1 c2
        rw [if_neg c1] at ne
        exact h.inj s t h0 h1 t0 t1 e ne
    · have keep : ∀ c : Nat, getI cs (probeF k'.stamp (2 ^ j) c) ≠ -1 → getI (cs.set (probeF k.stamp (2 ^ j) n).toNat i) (probeF k'.stamp (2 ^ j) c) = getI cs (probeF k'.stamp (2 ^ j) c) := by
        intro c hc
        rw [gs _ (probe_range _ _ hj).1, if_neg]
        intro e2
        rw [e2] at hc
        exact hc b2
      rcases Nat.lt_or_ge p i with hp' | hp'
      · obtain ⟨m, a1, a2, a3⟩ := h.ahead p k' hp' e hk'
        refine ⟨m, a1, by rw [keep m (by omega)]; exact a2, fun t ht => ?_⟩
        have := a3 t ht
        rw [keep t (by omega)]
        exact this
      · have ep : p = i := by omega
        subst ep
        rw [hk] at e
        cases e
        refine ⟨n, b1, by rw [gs _ r0, if_pos rfl], fun t ht => ?_⟩
        rw [keep t (b3 t ht)]
        rcases h.cell _ (probe_range k.stamp t hj).1 (probe_range k.stamp t hj).2 with q | ⟨q1, q2, q3⟩
        · exact absurd q (b3 t ht)
        · exact ⟨q1, q2⟩
theorem laid_at {ks : List Ky} {j : Nat} (hj : j ≤ 12) (hz : ks.length < 2 ^ j) : ∀ i : Nat, i ≤ ks.length → Laid ks j i (layN j ks i)
  | 0, _ => laid_zero ks j
  | i + 1, hi => by
    have e : ks[i]? = some ks[i] := List.getElem?_eq_getElem (by omega)
    have h := laid_step hj (by omega) (laid_at hj hz i (by omega)) e
    have e2 : layN j ks (i + 1) = layS (layN j ks i) j i ks[i] := by
      rw [layN]
      simp only [e]
    rw [e2]
    exact h
theorem layN_step {ks : List Ky} {j i : Nat} {k : Ky} (h : ks[i]? = some k) : layN j ks (i + 1) = layS (layN j ks i) j i k := by
  rw [layN]
  simp only [h]
/-- the first bare slot -/
def spBare (K : PySem.W.Frag) : Sp := fun vs H Q _ => ∃ (a : Addr) (v : V) (cs : List Int) (k : Ky) (j : Nat), vs = [.ref a, v] ∧ SqL K H a (cs.map V.int) ∧ KyAt H v k ∧ (k.good = true ∧ k.dep ≤ 3) ∧ (cs.length = 2 ^ j ∧ j ≤ 12 ∧ (-1) ∈ cs) ∧ Q (.int (probeF k.stamp (2 ^ j) (bareN cs j k.stamp))) H
theorem rd_spBare {K : PySem.W.Frag} {a : Addr} {v : V} {H : Hp} {Q : VK} {E : XK} : spBare K [.ref a, v] H Q E = ∃ (cs : List Int) (k : Ky) (j : Nat), SqL K H a (cs.map V.int) ∧ KyAt H v k ∧ (k.good = true ∧ k.dep ≤ 3) ∧ (cs.length = 2 ^ j ∧ j ≤ 12 ∧ (-1) ∈ cs) ∧ Q (.int (probeF k.stamp (2 ^ j) (bareN cs j k.stamp))) H := by
  unfold spBare
  apply propext
  constructor
  · rintro ⟨a', v', cs, k, j, e, q⟩; cases e; exact ⟨cs, k, j, q⟩
  · rintro ⟨cs, k, j, q⟩; exact ⟨a, v, cs, k, j, rfl, q⟩
theorem len_bare {K : PySem.W.Frag} {vs H Q E} (h : spBare K vs H Q E) : vs.length = 2 := by obtain ⟨_, _, _, _, _, rfl, _⟩ := h; rfl
def spStream (K : PySem.W.Frag) : Sp := fun vs H Q _ => ∃ (a : Addr) (ns : List Int) (m : Int), vs = [.ref a, .int m] ∧ SqL K H a (ns.map V.int) ∧ (ns.length ≤ 100 ∧ 0 ≤ m ∧ m ≤ 10000) ∧ ∀ (p : Addr) (H' : Hp) (xs : List Int), Same H H' → Fresh H p → H' p = some (.lst (xs.map V.int)) → xs.length = m.toNat → (∀ x ∈ xs, 0 ≤ x ∧ x < 2 ^ 44) → Q (.ref p) H'
theorem len_stream {K : PySem.W.Frag} {vs H Q E} (h : spStream K vs H Q E) : vs.length = 2 := by obtain ⟨_, _, _, rfl, _⟩ := h; rfl
/-- keys, or none -/
def RowOk (ks : List Ky) : Prop := ∀ k ∈ ks, k = .non ∨ KeyOk k
theorem RowOk.dats {ks : List Ky} (h : RowOk ks) : Ky.dats ks := fun k hk => by
  rcases h k hk with rfl | h
  · exact ⟨rfl, by simp [Ky.dep]⟩
  · exact ⟨Ky.dat_of h.g, by have := h.d; omega⟩
theorem RowOk.get {ks : List Ky} {i : Nat} {k : Ky} (h : RowOk ks) (e : ks[i]? = some k) : k = .non ∨ KeyOk k := h k (List.mem_of_getElem? e)
def spCellsOf (K : PySem.W.Frag) : Sp := fun vs H Q _ => ∃ (a : Addr) (ws : List V) (ks : List Ky) (j : Nat), vs = [.ref a, .int (2 ^ j)] ∧ SqL K H a ws ∧ KysAt H ws ks ∧ RowOk ks ∧ (3 ≤ j ∧ j ≤ 12 ∧ (ks.length : Int) ≤ 2 * 2 ^ j / 3) ∧
  ∀ p H', Same H H' → Fresh H p → H' p = some (.lst ((layN j ks ks.length).map V.int)) → Q (.ref p) H'
theorem len_cellsOf {K : PySem.W.Frag} {vs H Q E} (h : spCellsOf K vs H Q E) : vs.length = 2 := by obtain ⟨_, _, _, _, rfl, _⟩ := h; rfl
def spAhead (K : PySem.W.Frag) : Sp := fun vs H Q _ => ∃ (a : Addr) (v : V) (p s : Int) (cs : List Int) (k : Ky) (j : Nat), vs = [.ref a, v, .int p, .int s] ∧ SqL K H a (cs.map V.int) ∧ KyAt H v k ∧ (k.good = true ∧ k.dep ≤ 3) ∧ (cs.length = 2 ^ j ∧ j ≤ 12) ∧
  (∃ n : Nat, n < 2 ^ j ∧ probeF k.stamp (2 ^ j) n = s ∧ ∀ t : Nat, t < n → 0 ≤ getI cs (probeF k.stamp (2 ^ j) t) ∧ getI cs (probeF k.stamp (2 ^ j) t) < p) ∧ Q (.bl true) H
theorem len_ahead {K : PySem.W.Frag} {vs H Q E} (h : spAhead K vs H Q E) : vs.length = 4 := by obtain ⟨_, _, _, _, _, _, _, rfl, _⟩ := h; rfl
def spLaid (K : PySem.W.Frag) : Sp := fun vs H Q _ => ∃ (a r : Addr) (cs : List Int) (ws : List V) (ks : List Ky) (j : Nat), vs = [.ref a, .ref r, .int (2 ^ j)] ∧ H a = some (.lst (cs.map V.int)) ∧ SqL K H r ws ∧ KysAt H ws ks ∧ RowOk ks ∧ (3 ≤ j ∧ j ≤ 12) ∧ Laid ks j ks.length cs ∧ ∀ H', Same H H' → Q (.bl true) H'
theorem len_laid {K : PySem.W.Frag} {vs H Q E} (h : spLaid K vs H Q E) : vs.length = 3 := by obtain ⟨_, _, _, _, _, _, rfl, _⟩ := h; rfl
/-- the places' slots -/
def Sl (kvs : List (Key × V)) (cs : List Int) (i : Nat) : Prop := (∀ s : Nat, s < i → getI cs s ≠ -1 → valV kvs (.inl (getI cs s)) = some (.int s)) ∧ ∀ (v : Int) x, valV kvs (.inl v) = some x → ∃ s : Nat, s < i ∧ getI cs s = v ∧ v ≠ -1
theorem Sl.nil (cs : List Int) : Sl [] cs 0 := ⟨fun s h => by omega, fun v x h => by cases h⟩
theorem Sl.skip {kvs : List (Key × V)} {cs : List Int} {i : Nat} (h : Sl kvs cs i) (e : ¬ ¬ getI cs (i : Int) = -1) : Sl kvs cs (i + 1) := by
  refine ⟨fun s hs ne => ?_, fun v x hv => ?_⟩
  · rcases Nat.lt_or_ge s i with q | q
    · exact h.1 s q ne
    · have : s = i := by omega
      subst this
      exact absurd ne e
  · obtain ⟨s, a, b⟩ := h.2 v x hv
    exact ⟨s, by omega, b⟩
theorem Sl.put {kvs : List (Key × V)} {cs : List Int} {i : Nat} {c : Int} (h : Sl kvs cs i) (e : getI cs (i : Int) = c) (ne : c ≠ -1) (nw : valV kvs (.inl c : Key) = none) : Sl (putK kvs (.inl c) (.int i)) cs (i + 1) := by
  refine ⟨fun s hs n2 => ?_, fun v x hv => ?_⟩
  · rw [valV_put]
    rcases Nat.lt_or_ge s i with q | q
    · have := h.1 s q n2
      rw [if_neg, this]
      intro c2
      rw [c2] at this
      rw [this] at nw
      cases nw
    · have : s = i := by omega
      subst this
      rw [e, if_pos rfl]
  · rw [valV_put] at hv
    split at hv
    · rename_i c2
      cases c2
      exact ⟨i, by omega, e, ne⟩
    · obtain ⟨s, a, b⟩ := h.2 v x hv
      exact ⟨s, by omega, b⟩
theorem Sl.new {ks : List Ky} {j i : Nat} {kvs : List (Key × V)} {cs : List Int} {c : Int} (L : Laid ks j ks.length cs) (h : Sl kvs cs i) (hi : i < 2 ^ j) (e : getI cs (i : Int) = c) (ne : c ≠ -1) : valV kvs (.inl c : Key) = none := by
  cases q : valV kvs (.inl c : Key) with
  | none => rfl
  | some x =>
    obtain ⟨s, h1, h2, _⟩ := h.2 c x q
    have pc := pow_cast j
    have := L.inj s i (by omega) (by omega) (by omega) (by omega) (by rw [h2, e]) (by rw [h2]; exact ne)
    omega
end My
namespace My
open PySem PySem.Spec PyProof.Rows L2
/-! papers -/
section
variable {H H' : Hp} {K : PySem.W.Frag}
theorem eq_any {v w : V} {k l : Ky} {Q : VK} (hv : KyAt H v k) (hw : KyAt H w l) (gk : k.dat = true) (gl : l.dat = true) (dk : k.dep ≤ 60) (dl : l.dep ≤ 60) (q : Q (.bl (decide (k = l))) H) : rEqD K v w H Q := by
  refine ⟨k.toD, l.toD, KyAt.dpD k v gk hv, KyAt.dpD l w gl hw, Ky.shapedD gk dk, Ky.shapedD gl dl, ?_⟩
  rw [Ky.eqvD _ _ gk gl, Ky.beq_dec]
  exact q
theorem ne_any {v w : V} {k l : Ky} {Q : VK} (hv : KyAt H v k) (hw : KyAt H w l) (gk : k.dat = true) (gl : l.dat = true) (dk : k.dep ≤ 60) (dl : l.dep ≤ 60) (q : Q (.bl (!decide (k = l))) H) : rNeD K v w H Q := by
  refine ⟨k.toD, l.toD, KyAt.dpD k v gk hv, KyAt.dpD l w gl hw, Ky.shapedD gk dk, Ky.shapedD gl dl, ?_⟩
  rw [Ky.eqvD _ _ gk gl, Ky.beq_dec]
  exact q
end
theorem RowOk.one {k : Ky} (h : k = .non ∨ KeyOk k) : k.dat = true ∧ k.dep ≤ 60 := by
  rcases h with rfl | h
  · exact ⟨rfl, by simp [Ky.dep]⟩
  · exact ⟨Ky.dat_of h.g, by have := h.d; omega⟩
def CellsOk (cs : List Int) (n : Nat) : Prop := ∀ s : Int, 0 ≤ s → s < cs.length → getI cs s = -1 ∨ getI cs s = -2 ∨ (0 ≤ getI cs s ∧ getI cs s < n)
def stopB (cs : List Int) (ks : List Ky) (j : Nat) (k : Ky) (n : Nat) : Bool := decide (getI cs (probeF k.stamp (2 ^ j) n) = -1) || (decide (getI cs (probeF k.stamp (2 ^ j) n) ≠ -2) && decide (ks[(getI cs (probeF k.stamp (2 ^ j) n)).toNat]? = some k))
def paperN (cs : List Int) (ks : List Ky) (j : Nat) (k : Ky) : Nat := match (List.range (2 ^ j)).find? (stopB cs ks j k) with
  | some n => n + 1
  | none => 2 ^ j
def pairK (a b : Int) : Ky := .tup [.num a, .num b]
def pairAt (cs : List Int) (j : Nat) (k : Ky) (n : Nat) : Ky := pairK (probeF k.stamp (2 ^ j) n) (getI cs (probeF k.stamp (2 ^ j) n))
def paperK (cs : List Int) (ks : List Ky) (j : Nat) (k : Ky) : List Ky := (List.range (paperN cs ks j k)).map (pairAt cs j k)
theorem paperN_stop {cs : List Int} {ks : List Ky} {j i : Nat} {k : Ky} (hi : i < 2 ^ j) (h : stopB cs ks j k i = true) (b : ∀ t : Nat, t < i → stopB cs ks j k t = false) : paperN cs ks j k = i + 1 := by
  have e : (List.range (2 ^ j)).find? (stopB cs ks j k) = some i := by
    rw [List.find?_range_eq_some]
    exact ⟨h, List.mem_range.mpr hi, fun t ht => by rw [b t ht]; rfl⟩
  unfold paperN
  rw [e]
theorem paperN_none {cs : List Int} {ks : List Ky} {j : Nat} {k : Ky} (b : ∀ t : Nat, t < 2 ^ j → stopB cs ks j k t = false) : paperN cs ks j k = 2 ^ j := by
  have e : (List.range (2 ^ j)).find? (stopB cs ks j k) = none := by
    rw [List.find?_eq_none]
    intro t ht
    rw [b t (List.mem_range.mp ht)]
    decide
  unfold paperN
  rw [e]
theorem paperN_range (cs : List Int) (ks : List Ky) (j : Nat) (k : Ky) : 0 < paperN cs ks j k ∧ paperN cs ks j k ≤ 2 ^ j ∧ (∀ t : Nat, t + 1 < paperN cs ks j k → stopB cs ks j k t = false) ∧ (paperN cs ks j k < 2 ^ j → stopB cs ks j k (paperN cs ks j k - 1) = true) ∧
    ((∃ t : Nat, t < 2 ^ j ∧ stopB cs ks j k t = true) → stopB cs ks j k (paperN cs ks j k - 1) = true) := by
  have z : 0 < 2 ^ j := Nat.pow_pos (by decide)
  cases q : (List.range (2 ^ j)).find? (stopB cs ks j k) with
  | none =>
    have q' := q
    rw [List.find?_eq_none] at q
    have b : ∀ t : Nat, t < 2 ^ j → stopB cs ks j k t = false := fun t ht => by simpa using q t (List.mem_range.mpr ht)
    have e := paperN_none b
    rw [e]
    refine ⟨z, Nat.le_refl _, fun t ht => b t (by omega), fun h => by omega, fun ⟨t, h1, h2⟩ => ?_⟩
    rw [b t h1] at h2
    cases h2
  | some n =>
    rw [List.find?_range_eq_some] at q
    obtain ⟨q1, q2, q3⟩ := q
    have q2 := List.mem_range.mp q2
    have b : ∀ t : Nat, t < n → stopB cs ks j k t = false := fun t ht => by simpa using q3 t ht
    rw [paperN_stop q2 q1 b]
    exact ⟨by omega, by omega, fun t ht => b t (by omega), fun _ => q1, fun _ => q1⟩
def spPaper (K : PySem.W.Frag) : Sp := fun vs H Q _ => ∃ (a r : Addr) (v : V) (cs : List Int) (ws : List V) (ks : List Ky) (k : Ky) (j : Nat), vs = [.ref a, .ref r, v] ∧ SqL K H a (cs.map V.int) ∧ SqL K H r ws ∧ KysAt H ws ks ∧ KyAt H v k ∧ RowOk ks ∧ KeyOk k ∧
  (cs.length = 2 ^ j ∧ j ≤ 12) ∧ CellsOk cs ks.length ∧ ∀ (p : Addr) (H' : Hp) (xs : List V), Same H H' → Fresh H p → H' p = some (.lst xs) → KysAt H' xs (paperK cs ks j k) → Q (.ref p) H'
theorem len_paper {K : PySem.W.Frag} {vs H Q E} (h : spPaper K vs H Q E) : vs.length = 3 := by obtain ⟨_, _, _, _, _, _, _, _, rfl, _⟩ := h; rfl
def lastCell (cs : List Int) (ks : List Ky) (j : Nat) (k : Ky) : Int := getI cs (probeF k.stamp (2 ^ j) ((paperN cs ks j k - 1 : Nat) : Int))
def spPlaceOf (K : PySem.W.Frag) : Sp := fun vs H Q _ => ∃ (a r : Addr) (v : V) (cs : List Int) (ws : List V) (ks : List Ky) (k : Ky) (j : Nat), vs = [.ref a, .ref r, v] ∧ SqL K H a (cs.map V.int) ∧ SqL K H r ws ∧ KysAt H ws ks ∧ KyAt H v k ∧ RowOk ks ∧ KeyOk k ∧
  (cs.length = 2 ^ j ∧ j ≤ 12) ∧ CellsOk cs ks.length ∧ ∀ (H' : Hp), Same H H' → Q (if lastCell cs ks j k = -1 then .non else .int (lastCell cs ks j k)) H'
theorem len_placeOf {K : PySem.W.Frag} {vs H Q E} (h : spPlaceOf K vs H Q E) : vs.length = 3 := by obtain ⟨_, _, _, _, _, _, _, _, rfl, _⟩ := h; rfl
theorem KysAt.at : ∀ {H : Hp} {ks : List Ky} {vs : List V} {i : Nat} {k : Ky}, KysAt H vs ks → ks[i]? = some k → ∃ v, vs[i]? = some v ∧ KyAt H v k
  | _, [], _, _, _, _, e => by simp at e
  | _, x :: ks, _, 0, k, h, e => by
    cases h with
    | cons h t =>
      simp at e
      subst e
      exact ⟨_, rfl, h⟩
  | _, x :: ks, _, i + 1, k, h, e => by
    cases h with
    | cons h t =>
      obtain ⟨v, e', h'⟩ := KysAt.at (i := i) t (by simpa using e)
      exact ⟨v, by simpa using e', h'⟩
theorem atI_last {xs : List V} {v : V} (h : xs[xs.length - 1]? = some v) : atI xs (-1) = some v := by
  have hp : 0 < xs.length := by
    rcases Nat.eq_zero_or_pos xs.length with e | e
    · rw [List.length_eq_zero_iff] at e
      subst e
      cases h
    · exact e
  have e : ixN xs.length (-1) = some (xs.length - 1) := by
    unfold ixN
    rw [if_neg (by decide), if_pos (by omega)]
    congr 1
    omega
  unfold atI
  rw [e]
  exact h
theorem pair_of {H : Hp} {v : V} {a b : Int} (h : KyAt H v (pairK a b)) : ∃ p : Addr, v = .ref p ∧ H p = some (.tup [.int a, .int b]) := by
  unfold pairK at h
  cases h with
  | tup h p =>
    cases p with
    | cons h1 t =>
      cases t with
      | cons h2 t =>
        cases t
        cases h1
        cases h2
        exact ⟨_, rfl, h⟩
theorem pairK_dat (a b : Int) : (pairK a b).dat = true ∧ (pairK a b).dep ≤ 60 := by
  unfold pairK
  refine ⟨by simp [Ky.dat, Ky.good, Ky.goods], by simp [Ky.dep, Ky.deps]⟩
def spPaperB (K : PySem.W.Frag) : Sp := fun vs H Q _ => ∃ (p a r : Addr) (v : V) (xs : List V) (cs : List Int) (ws : List V) (ks : List Ky) (k : Ky) (j : Nat), vs = [.ref p, .ref a, .ref r, v] ∧ H p = some (.lst xs) ∧ KysAt H xs (paperK cs ks j k) ∧ SqL K H a (cs.map V.int) ∧ SqL K H r ws ∧ KysAt H ws ks ∧ KyAt H v k ∧ RowOk ks ∧ KeyOk k ∧
  (cs.length = 2 ^ j ∧ j ≤ 12) ∧ CellsOk cs ks.length ∧ (-1) ∈ cs ∧ ∀ (H' : Hp), Same H H' → Q (.bl true) H'
theorem len_paperB {K : PySem.W.Frag} {vs H Q E} (h : spPaperB K vs H Q E) : vs.length = 4 := by obtain ⟨_, _, _, _, _, _, _, _, _, _, rfl, _⟩ := h; rfl
theorem stop_ex {cs : List Int} {ks : List Ky} {j : Nat} {k : Ky} (hj : j ≤ 12) (e : cs.length = 2 ^ j) (h : (-1) ∈ cs) : ∃ t : Nat, t < 2 ^ j ∧ stopB cs ks j k t = true := by
  have b := bare_ex k.stamp hj e h
  refine ⟨_, b.1, ?_⟩
  unfold stopB
  rw [b.2.1]
  rfl
theorem paper_stops {cs : List Int} {ks : List Ky} {j : Nat} {k : Ky} (hj : j ≤ 12) (e : cs.length = 2 ^ j) (h : (-1) ∈ cs) {i : Nat} (hi : i < paperN cs ks j k) : stopB cs ks j k i = decide (i = paperN cs ks j k - 1) := by
  obtain ⟨n0, n1, n2, n3, n4⟩ := paperN_range cs ks j k
  by_cases q : i = paperN cs ks j k - 1
  · rw [decide_eq_true q, q]
    exact n4 (stop_ex hj e h)
  · rw [decide_eq_false q]
    exact n2 i (by omega)
def spPlaceB : Sp := fun vs H Q _ => ∃ c : Int, vs = [if c = -1 then .non else .int c, .int c] ∧ Q (.bl true) H
theorem len_placeB {vs H Q E} (h : spPlaceB vs H Q E) : vs.length = 2 := by obtain ⟨_, rfl, _⟩ := h; rfl
def spRow (K : PySem.W.Frag) : Sp := fun vs H Q _ => ∃ (a : Addr) (xs : List Int) (w b : Int), vs = [.ref a, .int w, .int b] ∧ SqL K H a (xs.map V.int) ∧ (∀ x ∈ xs, 0 ≤ x ∧ x < 2 ^ 44) ∧ (xs.length ≤ 1000 ∧ 0 ≤ b ∧ b < 2 ^ 42) ∧
  ∀ (p : Addr) (H' : Hp) (ws : List V) (ks : List Ky), Same H H' → Fresh H p → H' p = some (.lst ws) → KysAt H' ws ks → RowOk ks → ws.length = xs.length → Q (.ref p) H'
theorem len_row {K : PySem.W.Frag} {vs H Q E} (h : spRow K vs H Q E) : vs.length = 3 := by obtain ⟨_, _, _, _, rfl, _⟩ := h; rfl
/-- two lists of a list of ints and a row -/
theorem eq_handed {K : PySem.W.Frag} {H : Hp} {a b c d r q : Addr} {cs : List Int} {ws us : List V} {ks : List Ky} {Q : VK} (ha : SqL K H a [.ref c, .ref r]) (hb : SqL K H b [.ref d, .ref q]) (hc : SqL K H c (cs.map V.int)) (hd : SqL K H d (cs.map V.int)) (hr : SqL K H r ws) (hw : KysAt H ws ks) (hq : SqL K H q us) (hu : KysAt H us ks) (dk : Ky.dats ks) (h : Q (.bl true) H) : rEqD K (.ref a) (.ref b) H Q := by
  have sh : SeqAt.shaped (.list [.list (cs.map PyData.int), .list (Ky.toDs ks)]) = true := by
    unfold SeqAt.shaped
    have := Ky.depsD ks dk
    simp only [PyData.canLay0, PyData.canLayAll0, canLay_ints, Ky.canLaysD ks dk, PyData.depth, PyData.depthAll, depth_ints, Bool.and_true, Bool.true_and]
    exact decide_eq_true (by omega)
  refine ⟨.list [.list (cs.map PyData.int), .list (Ky.toDs ks)], .list [.list (cs.map PyData.int), .list (Ky.toDs ks)], .lst ha (.cons (.lst hc (DpAll_ints cs)) (.cons (.lst hr (KysAt.dpD ks _ dk hw)) .nil)), .lst hb (.cons (.lst hd (DpAll_ints cs)) (.cons (.lst hq (KysAt.dpD ks _ dk hu)) .nil)), sh, sh, ?_⟩
  have e : PyData.eqv (.list [.list (cs.map PyData.int), .list (Ky.toDs ks)]) (.list [.list (cs.map PyData.int), .list (Ky.toDs ks)]) = true := by
    simp only [PyData.eqv, PyData.eqvAll, eqvAll_ints, Ky.eqvsD ks ks dk dk, Ky.beqs_dec, decide_true, Bool.and_true]
  rw [e]
  exact h
theorem getI_in {ps : List Int} {c : Int} (h0 : 0 ≤ c) (h1 : c < ps.length) : getI ps c ∈ ps := by
  have hlt : c.toNat < ps.length := by omega
  unfold getI
  rw [List.getD_eq_getElem?_getD, List.getElem?_eq_getElem hlt]
  exact List.getElem_mem hlt
theorem ne_ints {K : PySem.W.Frag} {H : Hp} {a b : Addr} {xs ys : List Int} {Q : VK} (ha : SqL K H a (xs.map V.int)) (hb : SqL K H b (ys.map V.int)) (q : Q (.bl (!decide (xs = ys))) H) : rNeD K (.ref a) (.ref b) H Q :=
  ⟨.list (xs.map PyData.int), .list (ys.map PyData.int), .lst ha (DpAll_ints xs), .lst hb (DpAll_ints ys), shaped_ints xs, shaped_ints ys, by rw [PyData.eqv, eqvAll_ints]; exact q⟩
end My
namespace My
open PySem PySem.Spec PyProof.Rows L2
/-! a sign repeated; zip -/
def rMulS : R2 := fun x y H Q => ∃ (z : Str) (c : Nat) (n : Int), x = .str z ∧ y = .int n ∧ z = ⟨#[c]⟩ ∧ (0 ≤ n ∧ n ≤ 1000) ∧ Q (.str (SX.S (List.replicate n.toNat c))) H
theorem mul_fold (c : Nat) : ∀ (n : Nat) (a : Array Nat), ((List.replicate n #[c]).foldl (· ++ ·) a).toList = a.toList ++ List.replicate n c
  | 0, a => by simp
  | n + 1, a => by
    rw [List.replicate_succ, List.foldl_cons, mul_fold c n]
    simp [List.replicate_succ]
theorem mul_one (c : Nat) {n : Int} (h : 0 ≤ n) : Txt.mul ⟨#[c]⟩ n = SX.S (List.replicate n.toNat c) := by
  unfold Txt.mul
  by_cases h1 : n < 1
  · rw [if_pos h1]
    have e : n = 0 := by omega
    subst e
    rfl
  · rw [if_neg h1]
    by_cases h2 : n = 1
    · subst h2
      rfl
    · have hl : (⟨#[c]⟩ : Str).length = 1 := rfl
      rw [if_neg (by rw [hl]; simp [h2])]
      refine TL.ext_tl ?_
      have e := mul_fold c n.toNat #[]
      simp at e
      show ((List.replicate n.toNat #[c]).foldl (· ++ ·) #[]).toList = _
      rw [e]
theorem op_mulS {X : Cx} : OpR X (binaryOp .Mult) rMulS := by
  intro pins s σ H x y v u Q I rx ry h
  obtain ⟨z, c, n, rfl, rfl, rfl, ⟨h0, h1⟩, q⟩ := h
  obtain ⟨t, rfl⟩ := rx
  obtain ⟨t2, rfl⟩ := ry
  have hl : (⟨#[c]⟩ : Str).length = 1 := rfl
  refine SB.mul (n := n) ⟨?_, fun a b => ?_, fun a b => ?_⟩ fun t' k => ?_
  · rw [decide_eq_false (by omega), decide_eq_false (by omega)]
    rfl
  · rw [hl]
    have : (1 : Int) ≤ (2 ^ 63 - 1) / n := Int.le_ediv_of_mul_le (by omega) (by omega)
    omega
  · rw [hl, Nat.one_mul]
    unfold Builtin.Str.tooLong
    simp only [sizeLine_eq]
    exact decide_eq_false (by omega)
  · rw [mul_one c h0]
    exact ⟨.str (SX.S (List.replicate n.toNat c)), H, I.tok _, ⟨_, rfl⟩, q⟩
theorem rd_mulS {z : Str} {n : Int} {H : Hp} {Q : VK} : rMulS (.str z) (.int n) H Q = ∃ c : Nat, z = ⟨#[c]⟩ ∧ (0 ≤ n ∧ n ≤ 1000) ∧ Q (.str (SX.S (List.replicate n.toNat c))) H := by
  unfold rMulS
  apply propext
  constructor
  · rintro ⟨z', c, n', e1, e2, e3, q⟩; cases e1; cases e2; exact ⟨c, e3, q⟩
  · rintro ⟨c, e3, q⟩; exact ⟨z, c, n, rfl, rfl, e3, q⟩
theorem one_sign {c : Nat} {z : Str} (h : z.cps = #[c]) : z = ⟨#[c]⟩ := by
  cases z
  exact congrArg _ h
def isR2a (vs : List V) (f : Addr → Addr → Prop) : Prop := match vs with | [.ref a, .ref b] => f a b | _ => False
theorem rd_isR2a {a b : Addr} {f : Addr → Addr → Prop} : isR2a [.ref a, .ref b] f = f a b := rfl
theorem rd_zipA {K : PySem.W.Frag} {tr : TA} {σ : L2.St} {H : Hp} {R : It → Hp → Prop} : RZ.iZipA K tr σ H R = tr σ H fun vs H1 => isR2a vs fun a b => ∃ xs ys, (SqL K H1 a xs ∧ SqL K H1 b ys ∧ R (Itz K a b) H1) ∨ (SqT K H1 a xs ∧ SqT K H1 b ys ∧ R (RZ.ItzT K a b) H1) := by
  unfold RZ.iZipA
  apply congrArg
  funext vs H1
  apply propext
  constructor
  · rintro ⟨a, b, xs, ys, rfl, h⟩; exact ⟨xs, ys, h⟩
  · intro h
    unfold isR2a at h
    split at h
    · obtain ⟨xs, ys, h⟩ := h
      exact ⟨_, _, xs, ys, rfl, h⟩
    · exact h.elim
theorem walk_zipT {K : PySem.W.Frag} {a b : Addr} {xs ys : List V} {n : Nat} (hn : n = min xs.length ys.length) : Walk (RZ.ItzT K a b) n (fun H => SqT K H a xs ∧ SqT K H b ys) (YPair (fun i => xs[i]?) (fun i => ys[i]?)) := by
  constructor
  · intro i H lt both
    have lx := List.getElem?_eq_getElem (l := xs) (i := i) (by omega)
    have ly := List.getElem?_eq_getElem (l := ys) (i := i) (by omega)
    exact ⟨xs, ys, _, _, both.1, both.2, lx, ly⟩
  · intro H both
    exact ⟨xs, ys, both.1, both.2, by omega⟩
  · intro i H v H' _ both gives
    obtain ⟨t, u1, u2, e, new, after, f1, f2⟩ := gives
    exact ⟨t, u1, u2, e, new, after, f1 xs both.1, f2 ys both.2⟩
/-- zip of two lists of one length -/
theorem go_zip {K : PySem.W.Frag} {D : Ends} {σ : L2.St} {H : Hp} {a b : Addr} {xs ys : List V} {g : TG} {tb : TS} (e : xs.length = ys.length) (Pv : Nat → L2.St → Hp → Prop) (h0 : Pv 0 σ H) (hl : ∀ i σ H, i ≤ xs.length → Pv i σ H → SqL K H a xs ∧ SqL K H b ys)
    (hs : ∀ (N : L2.St → Hp → Prop) (i : Nat) x y σ H T, xs[i]? = some x → ys[i]? = some y → Pv i σ H → Fresh H T → (∀ σ' H', Pv (i + 1) σ' H' → N σ' H') → g (.ref T) σ (upd H T (.tup [x, y])) fun σ2 H2 => tb { D with nx := N, ct := N, bk := D.nx } σ2 H2) (hd : ∀ σ H, Pv xs.length σ H → D.nx σ H) : forGo (Itz K a b) g tb D σ H := by
  refine go_it (walk_zip (xs := xs) (ys := ys) (n := xs.length) (by omega)) Pv h0 hl ?_ hd
  rintro N i x σ H H' hi p ⟨T, x1, y1, rfl, hT, rfl, e1, e2⟩ hN
  exact hs N i x1 y1 σ H T e1 e2 p hT hN
theorem rd_yes {σ : L2.St} {H : Hp} {QT : Bool → Hp → Prop} : tYes σ H QT = QT true H := rfl
/-- all of a list of True -/
theorem all_true {K : PySem.W.Frag} {H : Hp} {p : Addr} {n : Nat} {Q : VK} (h : H p = some (.lst (List.replicate n (V.bl true)))) (q : Q (.bl true) H) : rAll K [.ref p] H Q := by
  refine ⟨p, List.replicate n true, rfl, SqL.of (by rw [List.map_replicate]; exact h), ?_⟩
  have e : (List.replicate n true).all id = true := by simp
  rw [e]
  exact q
/-- a comprehension whose items are all True -/
theorem go_lct {J : It} {n : Nat} {G : Hp → Prop} {Y : Nat → Hp → V → Hp → Prop} (w : L2.Walk J n G Y) {g : TG} {te : TE} {vs : List Nat} {σ : L2.St} {H1 : Hp} {D : Addr} {Qd : Hp → Prop} (hz : n ≤ sizeLine) (hD : Fresh H1 D)
    (hG : ∀ H, Same H1 H → G H)
    (hs : ∀ (N : VK) i x H H', i < n → Same H1 H → Y i H x H' → (∀ H4, Same H H4 → N (.bl true) H4) → g x (wipe σ vs) H' fun σ2 H2 => wipe σ2 vs = wipe σ vs ∧ te σ2 H2 N)
    (hd : ∀ H, Same H1 H → H D = some (.lst (List.replicate n (V.bl true))) → Qd H) (mono : ∀ (A B : L2.St → Hp → Prop) x σ H, (∀ σ H, A σ H → B σ H) → g x σ H A → g x σ H B) : lcGo J g tYes te vs σ H1 D Qd := by
  refine go_lcm w (List.replicate n (V.bl true)) List.length_replicate hz hD hG (fun N i x H H' hi s y h => hs N i x H H' hi s y fun H4 s4 => h _ H4 ?_ s4) hd mono
  rw [List.getElem?_replicate, if_pos hi]
theorem gTup2_mono {K : PySem.W.Frag} {i j : Nat} (A B : L2.St → Hp → Prop) (x : V) (σ : L2.St) (H : Hp) (h : ∀ σ H, A σ H → B σ H) (q : gTup K 2 (gCons (gName i) (gCons (gName j) gNil)) x σ H A) : gTup K 2 (gCons (gName i) (gCons (gName j) gNil)) x σ H B := by
  obtain ⟨a, xs, rfl, hs, hl, q⟩ := q
  refine ⟨a, xs, rfl, hs, hl, ?_⟩
  match xs, hl, q with
  | [x, y], _, q =>
    simp only [rd_gCons, rd_gName, rd_gNil] at q ⊢
    exact h _ _ q
theorem rd_lenSet {K : PySem.W.Frag} {ta : TE} {σ : L2.St} {H : Hp} {Q : VK} : RZ.tLenSetI K ta σ H Q = ta σ H fun x H1 => isRef x fun l => ∃ ns : List Int, SqL K H1 l (ns.map V.int) ∧ ns.Nodup ∧ ns.length ≤ 4000 ∧ Q (.int (ns.length : Nat)) H1 := by
  unfold RZ.tLenSetI
  apply congrArg
  funext x H1
  rw [← isRef_eq]
  apply propext
  constructor
  · rintro ⟨a, v, e, h⟩; exact ⟨a, e, v, h⟩
  · rintro ⟨a, e, v, h⟩; exact ⟨a, v, e, h⟩
theorem rd_min {K : PySem.W.Frag} {a : Addr} {H : Hp} {Q : VK} : rMin K [.ref a] H Q = ∃ ns : List Int, SqL K H a (ns.map V.int) ∧ 0 < ns.length ∧ ∀ m, m ∈ ns → (∀ y, y ∈ ns → m ≤ y) → Q (.int m) H := by
  unfold rMin
  apply propext
  constructor
  · rintro ⟨a', ns, e, q⟩; cases e; exact ⟨ns, q⟩
  · rintro ⟨ns, q⟩; exact ⟨a, ns, rfl, q⟩
end My
namespace My
open PySem PySem.Spec PyProof.Rows L2
/-! values: numbers, texts, none, tuples of values -/
mutual
def Ky.val : Ky → Bool
  | .num _ => true
  | .txt x => PyData.strOk x
  | .non => true
  | .tup ks => decide (ks.length ≤ 1000) && Ky.vals ks
  | _ => false
def Ky.vals : List Ky → Bool
  | [] => true
  | k :: ks => Ky.val k && Ky.vals ks
end
theorem vals_get : ∀ {ks : List Ky} {i : Nat} {k : Ky}, Ky.vals ks = true → ks[i]? = some k → k.val = true
  | [], i, k, _, h => by simp at h
  | x :: xs, 0, k, g, h => by
    have g' : x.val = true ∧ Ky.vals xs = true := by simpa [Ky.vals] using g
    simp at h
    subst h
    exact g'.1
  | x :: xs, i + 1, k, g, h => by
    have g' : x.val = true ∧ Ky.vals xs = true := by simpa [Ky.vals] using g
    exact vals_get (ks := xs) (i := i) g'.2 (by simpa using h)
theorem vals_iff : ∀ {ks : List Ky}, Ky.vals ks = true ↔ ∀ k ∈ ks, k.val = true
  | [] => by simp [Ky.vals]
  | k :: ks => by
    rw [Ky.vals, Bool.and_eq_true, vals_iff (ks := ks)]
    simp
theorem val_of : ∀ (d : Nat) (k : Ky), within d k = true → k.good = true → k.val = true
  | _, .num _, _, _ => by simp [Ky.val]
  | _, .txt x, _, h => by simpa [Ky.val, Ky.good] using h
  | 0, .tup ks, h, _ => by simp [within] at h
  | d + 1, .tup ks, h, g => by
    simp only [within, Bool.and_eq_true, decide_eq_true_eq, List.all_eq_true] at h
    rw [Ky.val, decide_eq_true (by omega), Bool.true_and, vals_iff]
    intro k hk
    obtain ⟨i, hi, e⟩ := List.mem_iff_getElem.mp hk
    exact val_of d k (h.2 k hk) (goods_get (by simpa [Ky.good] using g) (List.getElem?_eq_some_iff.mpr ⟨hi, e⟩))
  | _, .bl _, _, h => by simp [Ky.good] at h
  | _, .non, _, h => by simp [Ky.good] at h
  | _, .lst _, _, h => by simp [Ky.good] at h
  | _, .dct, _, h => by simp [Ky.good] at h
theorem KOk.val {d : Nat} {k : Ky} (h : KOk d k) : k.val = true := val_of d k h.w h.g
theorem tup_val {ks : List Ky} (h : (Ky.tup ks).val = true) : ks.length ≤ 1000 ∧ Ky.vals ks = true := by simpa [Ky.val] using h
theorem deps_get : ∀ {ks : List Ky} {i : Nat} {k : Ky}, ks[i]? = some k → k.dep ≤ Ky.deps ks
  | [], i, k, h => by simp at h
  | x :: xs, 0, k, h => by
    simp at h
    subst h
    rw [Ky.deps]
    omega
  | x :: xs, i + 1, k, h => by
    have := deps_get (ks := xs) (i := i) (by simpa using h)
    rw [Ky.deps]
    omega
section
variable {H H' : Hp}
/-- H' keeps what stands outside of fp -/
def But (fp : List Addr) (H H' : Hp) : Prop := ∀ b o, H b = some o → b ∉ fp → H' b = some o
/-- no tuple stands at fp -/
def NoTup (H : Hp) (fp : List Addr) : Prop := ∀ b ∈ fp, ∀ xs, H b ≠ some (.tup xs)
mutual
theorem KyAt.keep {fp : List Addr} (s : But fp H H') (n : NoTup H fp) : ∀ (y : Ky) (v : V), y.val = true → KyAt H v y → KyAt H' v y
  | .num i, _, _, h => by cases h; exact .num i
  | .txt x, _, _, h => by cases h; exact .txt x
  | .non, _, _, h => by cases h; exact .non
  | .tup ks, _, g, h => by
    cases h with
    | tup h p => exact .tup (s _ _ h fun hm => n _ hm _ h) (KysAt.keep s n ks _ (tup_val g).2 p)
  | .bl _, _, g, _ => by simp [Ky.val] at g
  | .lst _, _, g, _ => by simp [Ky.val] at g
  | .dct, _, g, _ => by simp [Ky.val] at g
theorem KysAt.keep {fp : List Addr} (s : But fp H H') (n : NoTup H fp) : ∀ (ks : List Ky) (vs : List V), Ky.vals ks = true → KysAt H vs ks → KysAt H' vs ks
  | [], _, _, h => by cases h; exact .nil
  | y :: ks, _, g, h => by
    have g' : y.val = true ∧ Ky.vals ks = true := by simpa [Ky.vals] using g
    cases h with
    | cons h t => exact .cons (KyAt.keep s n y _ g'.1 h) (KysAt.keep s n ks _ g'.2 t)
end
theorem But.of (s : Same H H') (fp : List Addr) : But fp H H' := fun b o e _ => s b o e
theorem But.trans {fp : List Addr} {H1 H2 H3 : Hp} (s : But fp H1 H2) (t : But fp H2 H3) : But fp H1 H3 := fun b o e n => t b o (s b o e n) n
theorem But.mono {fp gp : List Addr} (s : But fp H H') (h : ∀ b ∈ fp, b ∈ gp) : But gp H H' := fun b o e n => s b o e fun q => n (h b q)
end
/-- a text, a number, none: told alike; tuples part by part -/
def spSame (n : Nat) : Sp := fun vs H Q _ => ∃ (v w : V) (k : Ky), vs = [v, w] ∧ KyAt H v k ∧ KyAt H w k ∧ (k.val = true ∧ k.dep ≤ n) ∧ ∀ H', Same H H' → Q (.bl true) H'
theorem len_same {n : Nat} {vs H Q E} (h : spSame n vs H Q E) : vs.length = 2 := by obtain ⟨_, _, _, rfl, _⟩ := h; rfl
def spRowsSame (K : PySem.W.Frag) : Sp := fun vs H Q _ => ∃ (a b : Addr) (xs ys : List V) (ks : List Ky), vs = [.ref a, .ref b] ∧ H a = some (.lst xs) ∧ H b = some (.lst ys) ∧ KysAt H xs ks ∧ KysAt H ys ks ∧ (∀ k ∈ ks, k.val = true ∧ k.dep ≤ 3) ∧ ks.length ≤ 5000 ∧ ∀ H', Same H H' → Q (.bl true) H'
theorem len_rowsSame {K : PySem.W.Frag} {vs H Q E} (h : spRowsSame K vs H Q E) : vs.length = 2 := by obtain ⟨_, _, _, _, _, rfl, _⟩ := h; rfl
end My
local macro_rules | `(tactic| walk_at "rd") => `(tactic| try simp only [↓My.rd_var, ↓My.rd_c, ↓My.rd_op, ↓My.rd_un, ↓My.rd_test, ↓My.rd_B, ↓My.rd_and, ↓My.rd_or, ↓My.rd_not, ↓My.rd_andV, ↓My.rd_orV, ↓My.rd_notV, ↓My.rd_ifE, ↓My.rd_chain, ↓My.rd_ifS, ↓My.rd_ret, ↓My.rd_retN, ↓My.rd_seq, ↓My.rd_dnewK, ↓My.rd_dsetd, ↓My.rd_lcg, ↓My.rd_M1, ↓My.rd_BM, ↓My.rd_BM0, ↓My.rd_gSub, ↓My.rd_next, ↓My.rd_break, ↓My.rd_cont, ↓My.rd_drop, ↓My.rd_asg, ↓My.rd_gName, ↓My.rd_nil, ↓My.rd_cons, ↓My.rd_call, ↓My.rd_CB, ↓My.rd_for, ↓My.rd_rng1, ↓My.rd_rng2, ↓My.rd_iList, ↓My.rd_iTup, ↓My.rd_iStr, ↓My.rd_lst, ↓My.rd_tup, ↓My.rd_sl, ↓My.rd_noPart, ↓My.rd_part, ↓My.rd_never, ↓My.rd_dget, ↓My.rd_din, ↓My.rd_dnotin, ↓My.rd_dput, ↓My.rd_enum, My.rd_isR0, ↓My.rd_lenSet, My.rd_min, ↓My.rd_yes, ↓My.rd_zipA, My.rd_isR2a, My.rd_mulS, ↓My.rd_aug, My.rd_ipI, My.sizeB_pow, My.rd_spBare,
  My.rd_rI, My.rd_rI0, My.rd_rU, My.rd_eq, My.rd_ne, My.rd_isBl, My.rd_isR1, My.rd_isR2, My.rd_isRef, My.rd_isStr, My.rd_isInt, My.rd_isiF, My.rd_cat, My.rd_append, My.own_nil, My.own_cons, My.rd_wipe0, My.rd_wipe1, My.rd_addT, My.rd_ixS, My.rd_ixT, My.rd_slS, My.rd_join, My.rd_tupOf, My.rd_listOf, My.rd_gTup, My.rd_gCons, My.rd_gNil, My.rd_isB, My.rd_notB, My.rd_rep, My.rd_setL, My.rd_ixL, My.rd_slL, My.rd_len, My.rd_lenU_str, My.rd_lenU_ref, My.rd_spI1, My.rd_spI2, My.rd_spI3, My.rd_spI4, My.rd_whole, My.rd_spCell, My.rd_max2, My.rd_min2, My.rd_spAny1, My.rd_spStamp, My.rd_ord, My.rd_spNew2,
  My.V_int_inj, My.V_bl_inj, My.V_str_inj, My.scal_ii, My.scal_bb, My.scal_ss, My.isi_non_int, My.isi_non_bool, My.isi_non_str, My.isi_non_tuple, My.isi_non_list, My.isi_bl_int, My.isi_bl_bool, My.isi_bl_str, My.isi_bl_tuple, My.isi_bl_list, My.isi_int_int, My.isi_int_bool, My.isi_int_str, My.isi_int_tuple, My.isi_int_list, My.isi_str_int, My.isi_str_bool, My.isi_str_str, My.isi_str_tuple, My.isi_str_list,
  My.st_nil, My.st_arg, My.st_none, My.cxK, Int.zero_add, Int.reduceToNat, Int.reducePow, Int.reduceMul, Int.reduceSub, Int.reduceAdd, Int.reduceNeg, Int.reduceLE, Int.reduceLT, List.getElem?_cons_zero, List.getElem?_cons_succ, List.set_cons_zero, List.set_cons_succ, List.append_nil, List.cons_append, List.nil_append, decide_eq_true_eq, Bool.not_eq_true', decide_eq_false_iff_not, Bool.not_true, Bool.not_false, Bool.false_eq_true, Bool.true_eq_false, if_true, if_false, true_and, and_true, ite_true, ite_false, if_pos, if_neg, ne_eq, not_true_eq_false, not_false_eq_true, reduceIte, Bool.not_not])
local macro_rules | `(tactic| walk_at "spl") => `(tactic| first | exact My.len_spI1 (by assumption) | exact My.len_spI2 (by assumption) | exact My.len_spI3 (by assumption) | exact My.len_spI4 (by assumption) | exact My.len_whole (by assumption) | exact My.len_law (by assumption) | exact My.len_cell (by assumption) | exact My.len_new2 (by assumption) | exact My.len_when (by assumption) | exact My.len_text (by assumption) | exact My.len_anyLeaf (by assumption) | exact My.len_anyKey (by assumption) | exact My.len_key3 (by assumption) | exact My.len_same (by assumption) | exact My.len_rowsSame (by assumption) | exact My.len_placeB (by assumption) | exact My.len_row (by assumption) | exact My.len_paperB (by assumption) | exact My.len_paper (by assumption) | exact My.len_placeOf (by assumption) | exact My.len_bare (by assumption) | exact My.len_stream (by assumption) | exact My.len_cellsOf (by assumption) | exact My.len_ahead (by assumption) | exact My.len_laid (by assumption) | exact My.len_any1 (by assumption) | exact My.len_stamp (by assumption))
local macro_rules | `(tactic| walk_at "ne") => `(tactic| first | assumption | exact Ne.symm (by assumption) | exact My.Fresh.ne (by assumption) (by walk_at "hp") | exact Ne.symm (My.Fresh.ne (by assumption) (by walk_at "hp")))
local macro_rules | `(tactic| walk_at "hp") => `(tactic| first | assumption | exact L2.upd_same | exact (by assumption : L2.Same _ _) _ _ (by walk_at "hp") | (refine Eq.trans (L2.upd_ne ?_) ?_; (walk_at "ne"); (walk_at "hp")))
local macro_rules | `(tactic| walk_at "sq") => `(tactic| first | assumption | exact L2.SqL.of (by walk_at "hp") | exact L2.SqT.of (by walk_at "hp") | (refine L2.Same.seq ?_ (by assumption); walk_at "same"))
local macro_rules | `(tactic| walk_at "same") => `(tactic| first | assumption | exact L2.Same.refl _ | exact My.Same_upd (by walk_at "same") (by assumption) | exact L2.Same.trans (by walk_at "same") (by assumption))
local macro_rules | `(tactic| walk_at "sz") => `(tactic| first | assumption | (with_unfolding_all decide) | (rw [PySem.sizeLine_eq]; simp only [List.length_append, List.length_cons, List.length_nil, List.length_map, List.length_replicate, List.length_take, List.length_drop]; omega))
local macro_rules | `(tactic| walk_at "side") => `(tactic| first | assumption | exact trivial | decide +kernel | omega | exact ⟨by decide +kernel, by decide +kernel⟩ | exact ⟨by decide +kernel, by decide +kernel, by decide +kernel⟩ | exact ⟨by omega, by omega⟩ | exact My.mulL (by omega) (by omega) | exact My.mulR (by omega) (by omega) | exact PySem.IntMulOk.of_bits (by omega) (by omega) | exact My.divB (by omega) (by omega))
local macro_rules | `(tactic| walk_at "dt") => `(tactic| repeat' first | (refine My.both ?_ ?_; (walk_at "side")) | (refine My.iteB (fun _ => ?_) (fun _ => ?_)))
local macro_rules | `(tactic| walk_at "go") => `(tactic| repeat' first | (refine My.exSq (by walk_at "sq") ?_) | (refine My.exSqV (by walk_at "sq") ?_) | (refine My.both ?_ ?_; (walk_at "side")))
namespace Law
open PySem PySem.Spec PyProof.Rows L2 My
def top (i : Nat) : Stmt := PySem.Challenge.pw_slotbook_k33_whole_no_slot_twice.main.body.getD i (.Pass ⟨0, 0, 0, 0⟩)
abbrev s_stride : Stmt := top 1
abbrev s_probe : Stmt := top 2
abbrev s_stamp : Stmt := top 5
abbrev s_paper : Stmt := top 9
abbrev s_law_cell_at : Stmt := top 11
abbrev s_law_whole : Stmt := top 12
abbrev s_law_stream : Stmt := top 13
abbrev s_law_text : Stmt := top 14
abbrev s_law_stamp : Stmt := top 15
abbrev s_law_step : Stmt := top 16
abbrev s_law_leaf : Stmt := top 17
abbrev s_law_any_key : Stmt := top 18
abbrev s_law_key : Stmt := top 19
abbrev s_law_count : Stmt := top 20
abbrev s_law_ends : Stmt := top 21
abbrev s_law : Stmt := top 22
structure Ad where
  a_stride : Addr
  d_stride : FuncData
  a_probe : Addr
  d_probe : FuncData
  a_stamp : Addr
  d_stamp : FuncData
  a_paper : Addr
  d_paper : FuncData
  a_law_cell_at : Addr
  d_law_cell_at : FuncData
  a_law_whole : Addr
  d_law_whole : FuncData
  a_law_stream : Addr
  d_law_stream : FuncData
  a_law_text : Addr
  d_law_text : FuncData
  a_law_stamp : Addr
  d_law_stamp : FuncData
  a_law_step : Addr
  d_law_step : FuncData
  a_law_leaf : Addr
  d_law_leaf : FuncData
  a_law_any_key : Addr
  d_law_any_key : FuncData
  a_law_key : Addr
  d_law_key : FuncData
  a_law_count : Addr
  d_law_count : FuncData
  a_law_ends : Addr
  d_law_ends : FuncData
  a_law : Addr
  d_law : FuncData
  t_TURN : Tok
  t_EMPTY : Tok
  t_GONE : Tok
structure Txt (K : PySem.W.Frag) (mg : Str → Option Value) (A : Ad) : Prop where
  F_stride : Fun K "stride" "stride" s_stride A.a_stride A.d_stride
  b_stride : Binds K A.d_stride ["stamp"] []
  m_stride : mg "stride" = some (.ref A.a_stride)
  F_probe : Fun K "probe" "probe" s_probe A.a_probe A.d_probe
  b_probe : Binds K A.d_probe ["stamp", "size", "count"] []
  m_probe : mg "probe" = some (.ref A.a_probe)
  F_stamp : Fun K "stamp" "stamp" s_stamp A.a_stamp A.d_stamp
  b_stamp : Binds K A.d_stamp ["key"] []
  m_stamp : mg "stamp" = some (.ref A.a_stamp)
  F_paper : Fun K "paper" "paper" s_paper A.a_paper A.d_paper
  b_paper : Binds K A.d_paper ["cells", "row", "key"] []
  m_paper : mg "paper" = some (.ref A.a_paper)
  F_law_cell_at : Fun K "_law_cell_at" "_law_cell_at" s_law_cell_at A.a_law_cell_at A.d_law_cell_at
  b_law_cell_at : Binds K A.d_law_cell_at ["_law_script", "_law_k"] []
  m_law_cell_at : mg "_law_cell_at" = some (.ref A.a_law_cell_at)
  F_law_whole : Fun K "_law_whole" "_law_whole" s_law_whole A.a_law_whole A.d_law_whole
  b_law_whole : Binds K A.d_law_whole ["_law_found"] []
  m_law_whole : mg "_law_whole" = some (.ref A.a_law_whole)
  F_law_stream : Fun K "_law_stream" "_law_stream" s_law_stream A.a_law_stream A.d_law_stream
  b_law_stream : Binds K A.d_law_stream ["_law_script", "_law_many"] []
  m_law_stream : mg "_law_stream" = some (.ref A.a_law_stream)
  F_law_text : Fun K "_law_text" "_law_text" s_law_text A.a_law_text A.d_law_text
  b_law_text : Binds K A.d_law_text ["_law_number", "_law_size"] []
  m_law_text : mg "_law_text" = some (.ref A.a_law_text)
  F_law_stamp : Fun K "_law_stamp" "_law_stamp" s_law_stamp A.a_law_stamp A.d_law_stamp
  b_law_stamp : Binds K A.d_law_stamp ["_law_key_here"] []
  m_law_stamp : mg "_law_stamp" = some (.ref A.a_law_stamp)
  F_law_step : Fun K "_law_step" "_law_step" s_law_step A.a_law_step A.d_law_step
  b_law_step : Binds K A.d_law_step ["_law_mark"] []
  m_law_step : mg "_law_step" = some (.ref A.a_law_step)
  F_law_leaf : Fun K "_law_leaf" "_law_leaf" s_law_leaf A.a_law_leaf A.d_law_leaf
  b_law_leaf : Binds K A.d_law_leaf ["_law_number"] []
  m_law_leaf : mg "_law_leaf" = some (.ref A.a_law_leaf)
  F_law_any_key : Fun K "_law_any_key" "_law_any_key" s_law_any_key A.a_law_any_key A.d_law_any_key
  b_law_any_key : Binds K A.d_law_any_key ["_law_number"] []
  m_law_any_key : mg "_law_any_key" = some (.ref A.a_law_any_key)
  F_law_key : Fun K "_law_key" "_law_key" s_law_key A.a_law_key A.d_law_key
  b_law_key : Binds K A.d_law_key ["_law_way", "_law_base", "_law_j"] []
  m_law_key : mg "_law_key" = some (.ref A.a_law_key)
  F_law_count : Fun K "_law_count" "_law_count" s_law_count A.a_law_count A.d_law_count
  b_law_count : Binds K A.d_law_count ["_law_mark", "_law_size", "_law_slot"] []
  m_law_count : mg "_law_count" = some (.ref A.a_law_count)
  F_law_ends : Fun K "_law_ends" "_law_ends" s_law_ends A.a_law_ends A.d_law_ends
  b_law_ends : Binds K A.d_law_ends ["_law_cells", "_law_row", "_law_key_here"] []
  m_law_ends : mg "_law_ends" = some (.ref A.a_law_ends)
  F_law : Fun K "law" "law" s_law A.a_law A.d_law
  b_law : Binds K A.d_law ["_law_script"] []
  m_law : mg "law" = some (.ref A.a_law)
  g_TURN : mg "TURN" = some (.int 2147483647 A.t_TURN)
  g_EMPTY : mg "EMPTY" = some (.int (-1) A.t_EMPTY)
  g_GONE : mg "GONE" = some (.int (-2) A.t_GONE)
  n_bool : mg "bool" = none
  n_enumerate : mg "enumerate" = none
  n_int : mg "int" = none
  n_isinstance : mg "isinstance" = none
  n_len : mg "len" = none
  n_list : mg "list" = none
  n_min : mg "min" = none
  n_ord : mg "ord" = none
  n_range : mg "range" = none
  n_set : mg "set" = none
  n_str : mg "str" = none
  n_tuple : mg "tuple" = none
theorem sc_stamp : FnScope ["key", "found", "sign", "part"] ["key"] (defScope s_stamp) := ⟨rfl, rfl, rfl, by decide +kernel, rfl, by decide +kernel, by decide +kernel⟩
theorem ok_stamp0 {P : Program} {w : World} {K : PySem.W.Frag} {mg : Str → Option Value} {base : Heap} {A : Ad} (T : Txt K mg A) : FnOk P w K mg base CX0 1 A.a_stamp A.d_stamp ["key"] (spStamp 0) := by
  refine T.F_stamp.ok sc_stamp (fun vs H Q E h => ?_) (fun cdv A' outer s H vs Q E hr h => ?_)
  · walk_at "spl"
  · have nd := sc_stamp.nd
    have hu := hu_of hr
    refine ⟨_, (pss_cons (ps_if (pt_val (pe_callB call_isiF rfl T.n_isinstance (by decide +kernel) (pa_cons (pv 0) (pa_cons (pe_bltn (v := .ty "int") rfl T.n_int (by decide +kernel) rfl) pa_nil)))) (pss_one (ps_ret (pe_op op_mod (pv 0) (pe_glob (v := .int 2147483647) rfl T.g_TURN ⟨_, rfl⟩)))) pss_nil) (pss_cons (ps_if (pt_val (pe_callB call_isiF rfl T.n_isinstance (by decide +kernel) (pa_cons (pv 0) (pa_cons (pe_bltn (v := .ty "str") rfl T.n_str (by decide +kernel) rfl) pa_nil)))) (pss_cons (ps_set (i := 1) nd rfl (Or.inl rfl) pe_int) (pss_cons (ps_for PassesOwn.never rfl (pi_str (pv 0)) (pg_name (i := 2) nd rfl (Or.inl rfl)) (pss_one (ps_set (i := 1) nd rfl (Or.inl rfl) (pe_op op_mod (pe_op op_add (pe_op op_mulX pe_int (pv 1)) (pe_callB call_ordq rfl T.n_ord (by decide +kernel) (pa_cons (pv 2) pa_nil))) (pe_glob (v := .int 2147483647) rfl T.g_TURN ⟨_, rfl⟩))))) (pss_one (ps_ret (pv 1))))) pss_nil) pss_never)), ?_⟩
    clear nd
    obtain ⟨v, y, rfl, hk, hd, k⟩ := h
    cases hk with
    | num i =>
      walk_at "rd"
      rw [Ky.stamp] at k
      exact k
    | txt x =>
      walk_at "rd"
      rw [Ky.stamp] at k
      refine go_it walk_str (fun i σ H' => ∃ v2 v3, σ = [some (.str x), some (.int (stampT (x.cps.toList.take i))), v2, v3] ∧ H' = H) ⟨_, _, rfl, rfl⟩ (fun _ _ _ _ _ => trivial) ?_ ?_
      · rintro N i v σ H' H2 hi ⟨v2, v3, rfl, rfl⟩ ⟨rfl, c, hc, rfl⟩ hN
        walk_at "rd"
        exact ⟨mulL (by decide) (by decide), hN _ _ ⟨_, _, by rw [stampT_step (by simpa using hc)], rfl⟩⟩
      · rintro σ H' ⟨v2, v3, rfl, rfl⟩
        walk_at "rd"
        rw [show x.cps.size = x.cps.toList.length by simp, List.take_length]
        exact k
    | tup h p => have := hd.2; rw [Ky.dep] at this; omega
    | _ => have := hd.1; simp [Ky.good] at this
theorem ok_stampS {P : Program} {w : World} {K : PySem.W.Frag} {mg : Str → Option Value} {base : Heap} {A : Ad} (T : Txt K mg A) {n : Nat} (G : FnOk P w K mg base CX0 (n + 1) A.a_stamp A.d_stamp ["key"] (spStamp n)) : FnOk P w K mg base CX0 (n + 1 + 1) A.a_stamp A.d_stamp ["key"] (spStamp (n + 1)) := by
  refine T.F_stamp.ok sc_stamp (fun vs H Q E h => ?_) (fun cdv A' outer s H vs Q E hr h => ?_)
  · walk_at "spl"
  · have nd := sc_stamp.nd
    have hu := hu_of hr
    refine ⟨_, (pss_cons (ps_if (pt_val (pe_callB call_isiF rfl T.n_isinstance (by decide +kernel) (pa_cons (pv 0) (pa_cons (pe_bltn (v := .ty "int") rfl T.n_int (by decide +kernel) rfl) pa_nil)))) (pss_one (ps_ret (pe_op op_mod (pv 0) (pe_glob (v := .int 2147483647) rfl T.g_TURN ⟨_, rfl⟩)))) pss_nil) (pss_cons (ps_if (pt_val (pe_callB call_isiF rfl T.n_isinstance (by decide +kernel) (pa_cons (pv 0) (pa_cons (pe_bltn (v := .ty "str") rfl T.n_str (by decide +kernel) rfl) pa_nil)))) (pss_cons (ps_set (i := 1) nd rfl (Or.inl rfl) pe_int) (pss_cons (ps_for PassesOwn.never rfl (pi_str (pv 0)) (pg_name (i := 2) nd rfl (Or.inl rfl)) (pss_one (ps_set (i := 1) nd rfl (Or.inl rfl) (pe_op op_mod (pe_op op_add (pe_op op_mulX pe_int (pv 1)) (pe_callB call_ordq rfl T.n_ord (by decide +kernel) (pa_cons (pv 2) pa_nil))) (pe_glob (v := .int 2147483647) rfl T.g_TURN ⟨_, rfl⟩))))) (pss_one (ps_ret (pv 1))))) pss_nil) (pss_cons (ps_set (i := 1) nd rfl (Or.inl rfl) pe_int) (pss_cons (ps_for PassesOwn.never rfl (pi_tup (pv 0)) (pg_name (i := 3) nd rfl (Or.inl rfl)) (pss_one (ps_set (i := 1) nd rfl (Or.inl rfl) (pe_op op_mod (pe_op op_xor (pe_op op_mulX pe_int (pv 1)) (pe_call G hr rfl T.m_stamp T.F_stamp.kp T.b_stamp .nil pass0 (pa_cons (pv 3) pa_nil))) (pe_glob (v := .int 2147483647) rfl T.g_TURN ⟨_, rfl⟩))))) (pss_one (ps_ret (pv 1))))))), ?_⟩
    clear nd
    obtain ⟨v, y, rfl, hk, hd, k⟩ := h
    cases hk with
    | num i =>
      walk_at "rd"
      rw [Ky.stamp] at k
      exact k
    | txt x =>
      walk_at "rd"
      rw [Ky.stamp] at k
      refine go_it walk_str (fun i σ H' => ∃ v2 v3, σ = [some (.str x), some (.int (stampT (x.cps.toList.take i))), v2, v3] ∧ H' = H) ⟨_, _, rfl, rfl⟩ (fun _ _ _ _ _ => trivial) ?_ ?_
      · rintro N i v σ H' H2 hi ⟨v2, v3, rfl, rfl⟩ ⟨rfl, c, hc, rfl⟩ hN
        walk_at "rd"
        exact ⟨mulL (by decide) (by decide), hN _ _ ⟨_, _, by rw [stampT_step (by simpa using hc)], rfl⟩⟩
      · rintro σ H' ⟨v2, v3, rfl, rfl⟩
        walk_at "rd"
        rw [show x.cps.size = x.cps.toList.length by simp, List.take_length]
        exact k
    | @tup a xs ks h p =>
      walk_at "rd"
      simp only [isi_tup_int h, isi_tup_str h]
      walk_at "rd"
      rw [Ky.stamp] at k
      rw [Ky.dep] at hd
      refine ⟨⟨_, SqT.of h⟩, go_tup (fun i σ H' => ∃ v2 v3, σ = [some (.ref a), some (.int (Ky.stamps 11 (ks.take i))), v2, v3] ∧ H' = H) ⟨_, _, rfl, rfl⟩ (fun i σ H' _ ⟨_, _, _, e⟩ => by rw [e]; exact SqT.of h) ?_ ?_⟩
      · rintro N i x σ H' hx ⟨v2, v3, rfl, rfl⟩ hN
        obtain ⟨y, hy, hv⟩ := p.get hx
        walk_at "rd"
        refine ⟨mulL (by decide) (by decide), y, hv, ⟨goods_get (by simpa [Ky.good] using hd.1) hy, ?_⟩, hN _ _ ⟨_, _, by rw [stamps_step 11 hy], rfl⟩⟩
        have := dep_of_mem hy
        have := hd.2
        omega
      · rintro σ H' ⟨v2, v3, rfl, rfl⟩
        walk_at "rd"
        rw [p.len, List.take_length]
        exact k
    | _ => have := hd.1; simp [Ky.good] at this
theorem ok_stamp {P : Program} {w : World} {K : PySem.W.Frag} {mg : Str → Option Value} {base : Heap} {A : Ad} (T : Txt K mg A) : ∀ n : Nat, FnOk P w K mg base CX0 (n + 1) A.a_stamp A.d_stamp ["key"] (spStamp n)
  | 0 => ok_stamp0 T
  | n + 1 => ok_stampS T (ok_stamp T n)
theorem sc_law_stamp : FnScope ["_law_key_here", "_law_mark", "_law_sign", "_law_part"] ["_law_key_here"] (defScope s_law_stamp) := ⟨rfl, rfl, rfl, by decide +kernel, rfl, by decide +kernel, by decide +kernel⟩
theorem ok_law_stamp0 {P : Program} {w : World} {K : PySem.W.Frag} {mg : Str → Option Value} {base : Heap} {A : Ad} (T : Txt K mg A) : FnOk P w K mg base CX0 1 A.a_law_stamp A.d_law_stamp ["_law_key_here"] (spStamp 0) := by
  refine T.F_law_stamp.ok sc_law_stamp (fun vs H Q E h => ?_) (fun cdv A' outer s H vs Q E hr h => ?_)
  · walk_at "spl"
  · have nd := sc_law_stamp.nd
    have hu := hu_of hr
    refine ⟨_, (pss_cons (ps_if (pt_val (pe_callB call_isiF rfl T.n_isinstance (by decide +kernel) (pa_cons (pv 0) (pa_cons (pe_bltn (v := .ty "int") rfl T.n_int (by decide +kernel) rfl) pa_nil)))) (pss_one (ps_ret (pe_op op_mod (pv 0) pe_int))) pss_nil) (pss_cons (ps_if (pt_val (pe_callB call_isiF rfl T.n_isinstance (by decide +kernel) (pa_cons (pv 0) (pa_cons (pe_bltn (v := .ty "str") rfl T.n_str (by decide +kernel) rfl) pa_nil)))) (pss_cons (ps_set (i := 1) nd rfl (Or.inl rfl) pe_int) (pss_cons (ps_for PassesOwn.never rfl (pi_str (pv 0)) (pg_name (i := 2) nd rfl (Or.inl rfl)) (pss_one (ps_set (i := 1) nd rfl (Or.inl rfl) (pe_op op_mod (pe_op op_add (pe_op op_mulX pe_int (pv 1)) (pe_callB call_ordq rfl T.n_ord (by decide +kernel) (pa_cons (pv 2) pa_nil))) pe_int)))) (pss_one (ps_ret (pv 1))))) pss_nil) pss_never)), ?_⟩
    clear nd
    obtain ⟨v, y, rfl, hk, hd, k⟩ := h
    cases hk with
    | num i =>
      walk_at "rd"
      rw [Ky.stamp] at k
      exact k
    | txt x =>
      walk_at "rd"
      rw [Ky.stamp] at k
      refine go_it walk_str (fun i σ H' => ∃ v2 v3, σ = [some (.str x), some (.int (stampT (x.cps.toList.take i))), v2, v3] ∧ H' = H) ⟨_, _, rfl, rfl⟩ (fun _ _ _ _ _ => trivial) ?_ ?_
      · rintro N i v σ H' H2 hi ⟨v2, v3, rfl, rfl⟩ ⟨rfl, c, hc, rfl⟩ hN
        walk_at "rd"
        exact ⟨mulL (by decide) (by decide), hN _ _ ⟨_, _, by rw [stampT_step (by simpa using hc)], rfl⟩⟩
      · rintro σ H' ⟨v2, v3, rfl, rfl⟩
        walk_at "rd"
        rw [show x.cps.size = x.cps.toList.length by simp, List.take_length]
        exact k
    | tup h p => have := hd.2; rw [Ky.dep] at this; omega
    | _ => have := hd.1; simp [Ky.good] at this
theorem ok_law_stampS {P : Program} {w : World} {K : PySem.W.Frag} {mg : Str → Option Value} {base : Heap} {A : Ad} (T : Txt K mg A) {n : Nat} (G : FnOk P w K mg base CX0 (n + 1) A.a_law_stamp A.d_law_stamp ["_law_key_here"] (spStamp n)) : FnOk P w K mg base CX0 (n + 1 + 1) A.a_law_stamp A.d_law_stamp ["_law_key_here"] (spStamp (n + 1)) := by
  refine T.F_law_stamp.ok sc_law_stamp (fun vs H Q E h => ?_) (fun cdv A' outer s H vs Q E hr h => ?_)
  · walk_at "spl"
  · have nd := sc_law_stamp.nd
    have hu := hu_of hr
    refine ⟨_, (pss_cons (ps_if (pt_val (pe_callB call_isiF rfl T.n_isinstance (by decide +kernel) (pa_cons (pv 0) (pa_cons (pe_bltn (v := .ty "int") rfl T.n_int (by decide +kernel) rfl) pa_nil)))) (pss_one (ps_ret (pe_op op_mod (pv 0) pe_int))) pss_nil) (pss_cons (ps_if (pt_val (pe_callB call_isiF rfl T.n_isinstance (by decide +kernel) (pa_cons (pv 0) (pa_cons (pe_bltn (v := .ty "str") rfl T.n_str (by decide +kernel) rfl) pa_nil)))) (pss_cons (ps_set (i := 1) nd rfl (Or.inl rfl) pe_int) (pss_cons (ps_for PassesOwn.never rfl (pi_str (pv 0)) (pg_name (i := 2) nd rfl (Or.inl rfl)) (pss_one (ps_set (i := 1) nd rfl (Or.inl rfl) (pe_op op_mod (pe_op op_add (pe_op op_mulX pe_int (pv 1)) (pe_callB call_ordq rfl T.n_ord (by decide +kernel) (pa_cons (pv 2) pa_nil))) pe_int)))) (pss_one (ps_ret (pv 1))))) pss_nil) (pss_cons (ps_set (i := 1) nd rfl (Or.inl rfl) pe_int) (pss_cons (ps_for PassesOwn.never rfl (pi_tup (pv 0)) (pg_name (i := 3) nd rfl (Or.inl rfl)) (pss_one (ps_set (i := 1) nd rfl (Or.inl rfl) (pe_op op_mod (pe_op op_xor (pe_op op_mulX pe_int (pv 1)) (pe_call G hr rfl T.m_law_stamp T.F_law_stamp.kp T.b_law_stamp .nil pass0 (pa_cons (pv 3) pa_nil))) pe_int)))) (pss_one (ps_ret (pv 1))))))), ?_⟩
    clear nd
    obtain ⟨v, y, rfl, hk, hd, k⟩ := h
    cases hk with
    | num i =>
      walk_at "rd"
      rw [Ky.stamp] at k
      exact k
    | txt x =>
      walk_at "rd"
      rw [Ky.stamp] at k
      refine go_it walk_str (fun i σ H' => ∃ v2 v3, σ = [some (.str x), some (.int (stampT (x.cps.toList.take i))), v2, v3] ∧ H' = H) ⟨_, _, rfl, rfl⟩ (fun _ _ _ _ _ => trivial) ?_ ?_
      · rintro N i v σ H' H2 hi ⟨v2, v3, rfl, rfl⟩ ⟨rfl, c, hc, rfl⟩ hN
        walk_at "rd"
        exact ⟨mulL (by decide) (by decide), hN _ _ ⟨_, _, by rw [stampT_step (by simpa using hc)], rfl⟩⟩
      · rintro σ H' ⟨v2, v3, rfl, rfl⟩
        walk_at "rd"
        rw [show x.cps.size = x.cps.toList.length by simp, List.take_length]
        exact k
    | @tup a xs ks h p =>
      walk_at "rd"
      simp only [isi_tup_int h, isi_tup_str h]
      walk_at "rd"
      rw [Ky.stamp] at k
      rw [Ky.dep] at hd
      refine ⟨⟨_, SqT.of h⟩, go_tup (fun i σ H' => ∃ v2 v3, σ = [some (.ref a), some (.int (Ky.stamps 11 (ks.take i))), v2, v3] ∧ H' = H) ⟨_, _, rfl, rfl⟩ (fun i σ H' _ ⟨_, _, _, e⟩ => by rw [e]; exact SqT.of h) ?_ ?_⟩
      · rintro N i x σ H' hx ⟨v2, v3, rfl, rfl⟩ hN
        obtain ⟨y, hy, hv⟩ := p.get hx
        walk_at "rd"
        refine ⟨mulL (by decide) (by decide), y, hv, ⟨goods_get (by simpa [Ky.good] using hd.1) hy, ?_⟩, hN _ _ ⟨_, _, by rw [stamps_step 11 hy], rfl⟩⟩
        have := dep_of_mem hy
        have := hd.2
        omega
      · rintro σ H' ⟨v2, v3, rfl, rfl⟩
        walk_at "rd"
        rw [p.len, List.take_length]
        exact k
    | _ => have := hd.1; simp [Ky.good] at this
theorem ok_law_stamp {P : Program} {w : World} {K : PySem.W.Frag} {mg : Str → Option Value} {base : Heap} {A : Ad} (T : Txt K mg A) : ∀ n : Nat, FnOk P w K mg base CX0 (n + 1) A.a_law_stamp A.d_law_stamp ["_law_key_here"] (spStamp n)
  | 0 => ok_law_stamp0 T
  | n + 1 => ok_law_stampS T (ok_law_stamp T n)
theorem sc_stride : FnScope ["stamp"] ["stamp"] (defScope s_stride) := ⟨rfl, rfl, rfl, by decide +kernel, rfl, by decide +kernel, by decide +kernel⟩
theorem ok_stride {P : Program} {w : World} {K : PySem.W.Frag} {mg : Str → Option Value} {base : Heap} {A : Ad} (T : Txt K mg A) : FnOk P w K mg base CX0 1 A.a_stride A.d_stride ["stamp"] (spI1 (fun _ => True) fun n => .int (strideF n)) := by
  refine T.F_stride.ok sc_stride (fun vs H Q E h => ?_) (fun cdv A' outer s H vs Q E hr h => ?_)
  · walk_at "spl"
  · have nd := sc_stride.nd
    have hu := hu_of hr
    refine ⟨_, (pss_one (ps_ret (pe_op op_or (pe_op op_shr (pv 0) pe_int) pe_int))), ?_⟩
    clear nd
    obtain ⟨n, rfl, -, k⟩ := h
    walk_at "rd"
    exact k
theorem sc_probe : FnScope ["stamp", "size", "count"] ["stamp", "size", "count"] (defScope s_probe) := ⟨rfl, rfl, rfl, by decide +kernel, rfl, by decide +kernel, by decide +kernel⟩
theorem ok_probe {P : Program} {w : World} {K : PySem.W.Frag} {mg : Str → Option Value} {base : Heap} {A : Ad} (T : Txt K mg A) : FnOk P w K mg base CX0 2 A.a_probe A.d_probe ["stamp", "size", "count"] (spI3 (fun _ _ c => -(2 ^ 64) < c ∧ c < 2 ^ 64) fun m s c => .int (probeF m s c)) := by
  refine T.F_probe.ok sc_probe (fun vs H Q E h => ?_) (fun cdv A' outer s H vs Q E hr h => ?_)
  · walk_at "spl"
  · have nd := sc_probe.nd
    have hu := hu_of hr
    refine ⟨_, (pss_one (ps_ret (pe_op op_and (pe_op op_add (pv 0) (pe_op op_mulX (pv 2) (pe_call (ok_stride T) (hr.mono (by decide)) rfl T.m_stride T.F_stride.kp T.b_stride .nil pass0 (pa_cons (pv 0) pa_nil)))) (pe_op op_sub (pv 1) pe_int)))), ?_⟩
    clear nd
    obtain ⟨m, z, c, rfl, hc, k⟩ := h
    walk_at "rd"
    exact ⟨mulL hc.1 hc.2, k⟩
theorem sc_law_whole : FnScope ["_law_found"] ["_law_found"] (defScope s_law_whole) := ⟨rfl, rfl, rfl, by decide +kernel, rfl, by decide +kernel, by decide +kernel⟩
theorem ok_law_whole {P : Program} {w : World} {K : PySem.W.Frag} {mg : Str → Option Value} {base : Heap} {A : Ad} (T : Txt K mg A) : FnOk P w K mg base CX0 1 A.a_law_whole A.d_law_whole ["_law_found"] spWhole := by
  refine T.F_law_whole.ok sc_law_whole (fun vs H Q E h => ?_) (fun cdv A' outer s H vs Q E hr h => ?_)
  · walk_at "spl"
  · have nd := sc_law_whole.nd
    have hu := hu_of hr
    refine ⟨_, (pss_one (ps_ret (pe_and (pe_callB call_isiF rfl T.n_isinstance (by decide +kernel) (pa_cons (pv 0) (pa_cons (pe_bltn (v := .ty "int") rfl T.n_int (by decide +kernel) rfl) pa_nil))) (pe_one (pe_not (pe_callB call_isiF rfl T.n_isinstance (by decide +kernel) (pa_cons (pv 0) (pa_cons (pe_bltn (v := .ty "bool") rfl T.n_bool (by decide +kernel) rfl) pa_nil)))))))), ?_⟩
    clear nd
    obtain ⟨x, rfl, hx, k⟩ := h
    cases x with
    | ref a =>
      rcases hx with ⟨xs, e⟩ | ⟨xs, e⟩ | ⟨xs, e⟩
      · walk_at "rd"; simp only [isi_tup_int e]; walk_at "rd"; exact k
      · walk_at "rd"; simp only [isi_lst_int e]; walk_at "rd"; exact k
      · walk_at "rd"; simp only [isi_dK_int e]; walk_at "rd"; exact k
    | int n => walk_at "rd"; exact k
    | bl n => walk_at "rd"; exact k
    | non => walk_at "rd"; exact k
    | str n => walk_at "rd"; exact k
    | _ => exact hx.elim
theorem sc_law_cell_at : FnScope ["_law_script", "_law_k"] ["_law_script", "_law_k"] (defScope s_law_cell_at) := ⟨rfl, rfl, rfl, by decide +kernel, rfl, by decide +kernel, by decide +kernel⟩
theorem ok_law_cell_at {P : Program} {w : World} {K : PySem.W.Frag} {mg : Str → Option Value} {base : Heap} {A : Ad} (T : Txt K mg A) : FnOk P w K mg base CX0 1 A.a_law_cell_at A.d_law_cell_at ["_law_script", "_law_k"] (spCell K) := by
  refine T.F_law_cell_at.ok sc_law_cell_at (fun vs H Q E h => ?_) (fun cdv A' outer s H vs Q E hr h => ?_)
  · walk_at "spl"
  · have nd := sc_law_cell_at.nd
    have hu := hu_of hr
    refine ⟨_, (pss_cons (ps_if (pt_cmpR op_lt (pv 1) (pe_callB call_lenU rfl T.n_len PySem.boot_len (pa_cons (pv 0) pa_nil)) (nomark _)) (pss_one (ps_ret (pe_ix ix_list (pv 0) (pv 1) (fun _ _ => rfl)))) pss_nil) (pss_one (ps_ret pe_int))), ?_⟩
    clear nd
    obtain ⟨a, ns, i, rfl, hS, hi, k⟩ := h
    walk_at "rd"
    refine ⟨_, .inl hS, ?_⟩
    rw [List.length_map]
    split
    · rename_i c
      exact ⟨_, _, hS, at_int hi c, k⟩
    · rename_i c
      have e : getI ns i = 0 := by
        unfold getI
        rw [List.getD_eq_getElem?_getD, List.getElem?_eq_none_iff.mpr (by omega)]
        rfl
      rw [e] at k
      exact k
theorem sc_law_step : FnScope ["_law_mark"] ["_law_mark"] (defScope s_law_step) := ⟨rfl, rfl, rfl, by decide +kernel, rfl, by decide +kernel, by decide +kernel⟩
theorem ok_law_step {P : Program} {w : World} {K : PySem.W.Frag} {mg : Str → Option Value} {base : Heap} {A : Ad} (T : Txt K mg A) : FnOk P w K mg base CX0 1 A.a_law_step A.d_law_step ["_law_mark"] (spI1 (fun _ => True) fun n => .int (strideF n)) := by
  refine T.F_law_step.ok sc_law_step (fun vs H Q E h => ?_) (fun cdv A' outer s H vs Q E hr h => ?_)
  · walk_at "spl"
  · have nd := sc_law_step.nd
    have hu := hu_of hr
    refine ⟨_, (pss_cons (ps_if (pt_cmpR op_eq (pe_op op_mod (pe_op op_fdivW (pv 0) pe_int) pe_int) pe_int (nomark _)) (pss_one (ps_ret (pe_op op_add (pe_op op_fdivW (pv 0) pe_int) pe_int))) pss_nil) (pss_one (ps_ret (pe_op op_fdivW (pv 0) pe_int)))), ?_⟩
    clear nd
    obtain ⟨n, rfl, -, k⟩ := h
    walk_at "rd"
    have e := strideF_eq n
    refine ⟨by walk_at "side", iteB (fun c => ⟨by walk_at "side", ?_⟩) fun c => ⟨by walk_at "side", ?_⟩⟩
    · rw [show n / 32 + 1 = strideF n by omega]
      exact k
    · rw [show n / 32 = strideF n by omega]
      exact k

end Law
namespace Law
open PySem PySem.Spec PyProof.Rows L2 My
theorem sc_law_text : FnScope ["_law_number", "_law_size", "_law_some", "_law_found", "_law_k"] ["_law_number", "_law_size"] (defScope s_law_text) := ⟨rfl, rfl, rfl, by decide +kernel, rfl, by decide +kernel, by decide +kernel⟩
theorem ok_law_text {P : Program} {w : World} {K : PySem.W.Frag} {mg : Str → Option Value} {base : Heap} {A : Ad} (T : Txt K mg A) : FnOk P w K mg base CX0 1 A.a_law_text A.d_law_text ["_law_number", "_law_size"] spText := by
  refine T.F_law_text.ok sc_law_text (fun vs H Q E h => ?_) (fun cdv A' outer s H vs Q E hr h => ?_)
  · walk_at "spl"
  · have nd := sc_law_text.nd
    have hu := hu_of hr
    refine ⟨_, (pss_cons (ps_set (i := 2) nd rfl (Or.inl rfl) pe_str) (pss_cons (ps_set (i := 2) nd rfl (Or.inl rfl) (pe_op op_addT (pv 2) pe_str)) (pss_cons (ps_set (i := 3) nd rfl (Or.inl rfl) pe_str) (pss_cons (ps_for PassesOwn.never rfl (pi_range1 rfl T.n_range (pa_cons (pv 1) pa_nil)) (pg_name (i := 4) nd rfl (Or.inl rfl)) (pss_cons (ps_set (i := 0) nd rfl (Or.inl rfl) (pe_op op_mod (pe_op op_add (pe_op op_mulX (pv 0) pe_int) pe_int) pe_int)) (pss_one (ps_set (i := 3) nd rfl (Or.inl rfl) (pe_op op_addT (pv 3) (pe_ix ix_str (pv 2) (pe_op op_mod (pv 0) pe_int) (fun _ _ => rfl))))))) (pss_one (ps_ret (pv 3))))))), ?_⟩
    clear nd
    obtain ⟨n, z, rfl, hz, k⟩ := h
    walk_at "rd"
    refine ⟨by with_unfolding_all decide, ?_⟩
    rw [signs_text]
    refine ⟨by omega, go_range (fun i σ H' => ∃ (m : Int) (v4 : Option V) (l : List Nat), σ = [some (.int m), some (.int z), some (.str (SX.S signs)), some (.str (SX.S l)), v4] ∧ H' = H ∧ l.length = i ∧ codesOk l ∧ i ≤ z.toNat) ⟨n, none, [], by rw [empty_S], rfl, rfl, (fun _ h => by cases h), Nat.zero_le _⟩ ?_ ?_⟩
    · rintro N i σ H' hi ⟨m, v4, l, rfl, rfl, hl, hc, hiz⟩ hN
      walk_at "rd"
      have n0 : 0 ≤ (m * 48271 + 11) % 2147483629 % 94 := Int.emod_nonneg _ (by decide)
      have n1 : (m * 48271 + 11) % 2147483629 % 94 < 94 := Int.emod_lt_of_pos _ (by decide)
      refine ⟨mulR (by decide) (by decide), signAt ((m * 48271 + 11) % 2147483629 % 94), by rw [SX.S_len]; with_unfolding_all decide, signAt_some n0 n1, ?_, hN _ _ ⟨_, _, l ++ [signAt ((m * 48271 + 11) % 2147483629 % 94)], by rw [← SX.S_cat], rfl, by simp [hl], codesOk_append hc (fun c h => ?_), hi⟩⟩
      · rw [SX.S_len, SX.S_len, sizeLine_eq]
        simp only [List.length_cons, List.length_nil]
        omega
      · rcases List.mem_cons.mp h with rfl | h
        · exact signAt_ok n0 n1
        · cases h
    · rintro σ H' ⟨m, v4, l, rfl, rfl, hl, hc, -⟩
      walk_at "rd"
      exact k l hc (by omega)
theorem sc_law_leaf : FnScope ["_law_number", "_law_rest"] ["_law_number"] (defScope s_law_leaf) := ⟨rfl, rfl, rfl, by decide +kernel, rfl, by decide +kernel, by decide +kernel⟩
theorem ok_law_leaf {P : Program} {w : World} {K : PySem.W.Frag} {mg : Str → Option Value} {base : Heap} {A : Ad} (T : Txt K mg A) : FnOk P w K mg base CX0 2 A.a_law_leaf A.d_law_leaf ["_law_number"] spAnyLeaf := by
  refine T.F_law_leaf.ok sc_law_leaf (fun vs H Q E h => ?_) (fun cdv A' outer s H vs Q E hr h => ?_)
  · walk_at "spl"
  · have nd := sc_law_leaf.nd
    have hu := hu_of hr
    refine ⟨_, (pss_cons (ps_set (i := 1) nd rfl (Or.inl rfl) (pe_op op_fdivW (pv 0) pe_int)) (pss_cons (ps_if (pt_cmpR op_eq (pe_op op_mod (pv 0) pe_int) pe_int (nomark _)) (pss_one (ps_ret (pe_op op_sub (pe_op op_mod (pv 1) pe_int) pe_int))) pss_nil) (pss_cons (ps_if (pt_cmpR op_eq (pe_op op_mod (pv 0) pe_int) pe_int (nomark _)) (pss_one (ps_ret (pe_op op_add (pe_op op_sub (pe_op op_mod (pe_op op_mulX (pv 1) (pe_op op_pow pe_int pe_int)) (pe_op op_sub (pe_op op_mulX pe_int (pe_op op_pow pe_int pe_int)) pe_int)) (pe_op op_pow pe_int pe_int)) pe_int))) pss_nil) (pss_cons (ps_if (pt_cmpR op_eq (pe_op op_mod (pv 0) pe_int) pe_int (nomark _)) (pss_one (ps_ret (pe_call (ok_law_text T) (hr.mono (by decide)) rfl T.m_law_text T.F_law_text.kp T.b_law_text .nil pass0 (pa_cons (pv 1) (pa_cons (pe_op op_mod (pe_op op_fdivW (pv 1) pe_int) pe_int) pa_nil))))) pss_nil) (pss_one (ps_ret (pe_op op_add (pe_op op_mod (pv 1) pe_int) (pe_op op_mulX pe_int (pe_op op_mod (pe_op op_fdivW (pv 1) pe_int) pe_int))))))))), ?_⟩
    clear nd
    obtain ⟨n, rfl, hn, k⟩ := h
    walk_at "rd"
    walk_at "dt"
    · exact k _ (.num _) ⟨rfl, by omega, by omega⟩
    · exact k _ (.num _) ⟨rfl, by omega, by omega⟩
    · exact ⟨_, _, rfl, by omega, fun l hc hl => k _ (.txt (SX.S l)) ⟨l, rfl, rfl, hc, by omega⟩⟩
    · exact k _ (.num _) ⟨rfl, by omega, by omega⟩

end Law
namespace Law
open PySem PySem.Spec PyProof.Rows L2 My
theorem sc_law_any_key : FnScope ["_law_number", "_law_rest", "_law_parts", "_law_k"] ["_law_number"] (defScope s_law_any_key) := ⟨rfl, rfl, rfl, by decide +kernel, rfl, by decide +kernel, by decide +kernel⟩
theorem ok_law_any_key {P : Program} {w : World} {K : PySem.W.Frag} {mg : Str → Option Value} {base : Heap} {A : Ad} (T : Txt K mg A) : FnOk P w K mg base CX0 3 A.a_law_any_key A.d_law_any_key ["_law_number"] spAnyKey := by
  refine T.F_law_any_key.ok sc_law_any_key (fun vs H Q E h => ?_) (fun cdv A' outer s H vs Q E hr h => ?_)
  · walk_at "spl"
  · have nd := sc_law_any_key.nd
    have hu := hu_of hr
    refine ⟨_, (pss_cons (ps_set (i := 1) nd rfl (Or.inr rfl) (pe_op op_fdivW (pv 0) pe_int)) (pss_cons (ps_if (pt_cmpR op_eq (pe_op op_mod (pv 0) pe_int) pe_int (nomark _)) (pss_one (ps_ret (pe_call (ok_law_text T) (hr.mono (by decide)) rfl T.m_law_text T.F_law_text.kp T.b_law_text .nil pass0 (pa_cons (pv 1) (pa_cons (pe_op op_mod (pv 1) pe_int) pa_nil))))) pss_nil) (pss_cons (ps_if (pt_cmpR op_lt (pe_op op_mod (pv 0) pe_int) pe_int (nomark _)) (pss_one (ps_ret (pe_call (ok_law_leaf T) (hr.mono (by decide)) rfl T.m_law_leaf T.F_law_leaf.kp T.b_law_leaf .nil pass0 (pa_cons (pv 1) pa_nil)))) pss_nil) (pss_cons (ps_setLc (i := 2) (own := [("_law_k", 3)]) rfl nd rfl rfl (sw_true rfl rfl rfl (by decide +kernel)) (pi_range1 rfl T.n_range (pa_cons (pe_op op_mod (pv 1) pe_int) pa_nil)) (blkOk_by (own := [("_law_k", 3)]) (N := ["_law_number", "_law_rest", "_law_parts", "_law_k"]) (sc := defScope s_law_any_key) (by decide +kernel)) (fun _ _ _ _ _ => (pg_name (i := 3) nd rfl (Or.inl rfl))) (fun _ _ _ _ _ => pts_nil) (fun _ _ _ _ _ => (pe_call (ok_law_leaf T) (hr.mono (by decide)) rfl T.m_law_leaf T.F_law_leaf.kp T.b_law_leaf .nil pass0 (pa_cons (pe_op op_add (pe_op op_fdivW (pv 1) (pe_op op_add (pe_op op_mulX (pv 3) (pv 3)) pe_int)) (pe_op op_mulX pe_int (pv 3))) pa_nil)))) (pss_cons (ps_if (PW.pt (pw_and (pt_cmpR op_eq (pe_op op_mod (pv 0) pe_int) pe_int (nomark _)) (pw_and1 (pt_cmpR op_gt (pe_callB call_lenU rfl T.n_len PySem.boot_len (pa_cons (pv 2) pa_nil)) pe_int (nomark _))))) (pss_one (ps_asg (pe_tup (pa_cons (pe_callTy call_tupleq rfl T.n_tuple (by decide +kernel) (pa_cons (pe_slice sl_list (pv 2) (po_some pe_int) po_none) pa_nil)) (pa_cons (pe_tup pa_nil) pa_nil))) (pg_sub (pv 2) (pe_op op_mod (pe_op op_fdivW (pv 1) pe_int) (pe_callB call_lenU rfl T.n_len PySem.boot_len (pa_cons (pv 2) pa_nil))) set_list))) pss_nil) (pss_one (ps_ret (pe_callTy call_tupleq rfl T.n_tuple (by decide +kernel) (pa_cons (pv 2) pa_nil))))))))), ?_⟩
    clear nd
    obtain ⟨n, rfl, hn, k⟩ := h
    walk_at "rd"
    refine ⟨by walk_at "side", iteB (fun c0 => ⟨_, _, rfl, by omega, fun l hc hl => k _ _ _ (Same.refl _) (.txt _) (.txt hc (by omega))⟩) fun c0 => iteB (fun c1 => ⟨_, rfl, by omega, fun v y hy => k _ _ _ (Same.refl _) hy.at hy.ok⟩) fun c1 => ⟨by omega, fun D hD => ?_⟩⟩
    refine go_lcx walk_range (fun i y H => ∃ k, Leaf y k) (by rw [sizeLine_eq]; omega) hD (fun _ _ => trivial) (fun _ _ _ _ h _ => h) ?_ ?_ gName_mono
    · rintro N i x H4 H2 hi sm ⟨rfl, rfl⟩ hN
      walk_at "rd"
      have hi6 : i < 7 := by omega
      have sq : 0 ≤ (i : Int) * i := Int.mul_nonneg (by omega) (by omega)
      have sq2 : (i : Int) * i ≤ 6 * 6 := Int.mul_le_mul (by omega) (by omega) (by omega) (by omega)
      have r0 : 0 ≤ n / 6 / ((i : Int) * i + 1) := Int.ediv_nonneg (by omega) (by omega)
      have r1 : n / 6 / ((i : Int) * i + 1) ≤ n / 6 := Int.ediv_le_self _ (by omega)
      refine ⟨mulL (by omega) (by omega), divB (by omega) (by omega), mulL (by decide) (by decide), _, rfl, by omega, fun v y hy => hN _ _ (Same.refl _) ⟨y, hy⟩⟩
    · intro H2 ys s2 hD2 hl hF
      obtain ⟨ks, hks, hok, hlk⟩ := leaves_at (H := H2) hF
      have h6 : ys.length ≤ 6 := by omega
      have fin : ∀ (zs : List V) (ls : List Ky) (H3 : Hp), Same H H3 → H3 D = some (.lst zs) → KysAt H3 zs ls → (∀ k ∈ ls, KOk 2 k) → ls.length ≤ 6 → rTupOf K [.ref D] H3 Q := by
        intro zs ls H3 s3 hD3 hz hok3 hl3
        rw [rd_tupOf]
        exact ⟨_, .inl ⟨SqL.of hD3, fun T hT => k _ _ _ (Same_upd s3 hT) (.tup upd_same (hz.same (Same_upd (Same.refl _) hT) _ _)) (.tup hok3 hl3)⟩⟩
      have plain := fin ys ks H2 s2 hD2 hks (fun k hk => (hok k hk).mono (by decide)) (by omega)
      rw [rd_tupOf] at plain
      refine iteB (fun c5 => ⟨_, .inl (SqL.of hD2), iteB (fun c6 => ?_) fun c6 => plain⟩) fun c5 => plain
      refine ⟨_, SqL.of hD2, fun p hp => ⟨_, .inl ⟨SqL.of upd_same, fun q hq => ⟨by walk_at "sz", fun r hr' => ⟨by walk_at "sz", fun t ht => ⟨by walk_at "side", _, .inl (SqL.of (by walk_at "hp")), ?_⟩⟩⟩⟩⟩⟩
      have z0 : (0 : Int) < (ys.length : Int) := c6
      have m0 : 0 ≤ n / 6 / 7 % (ys.length : Int) := Int.emod_nonneg _ (by omega)
      have m1 : n / 6 / 7 % (ys.length : Int) < ys.length := Int.emod_lt_of_pos _ z0
      refine ⟨z0, ys, _, by walk_at "hp", ixN_nat m0 m1, ?_⟩
      have hcut := cut_lo (l := ys) (show (0 : Int) ≤ 1 by decide)
      simp only [hcut] at hq hr' ht ⊢
      have sm : Same H2 (upd (upd (upd (upd H2 p (HO.lst (List.drop (Int.toNat 1) ys))) q (HO.tup (List.drop (Int.toNat 1) ys))) r (HO.tup [])) t (HO.tup [V.ref q, V.ref r])) := by walk_at "same"
      have eq : upd (upd (upd (upd H2 p (HO.lst (List.drop (Int.toNat 1) ys))) q (HO.tup (List.drop (Int.toNat 1) ys))) r (HO.tup [])) t (HO.tup [V.ref q, V.ref r]) q = some (.tup (List.drop (Int.toNat 1) ys)) := by walk_at "hp"
      have er : upd (upd (upd (upd H2 p (HO.lst (List.drop (Int.toNat 1) ys))) q (HO.tup (List.drop (Int.toNat 1) ys))) r (HO.tup [])) t (HO.tup [V.ref q, V.ref r]) r = some (.tup []) := by walk_at "hp"
      have et : upd (upd (upd (upd H2 p (HO.lst (List.drop (Int.toNat 1) ys))) q (HO.tup (List.drop (Int.toNat 1) ys))) r (HO.tup [])) t (HO.tup [V.ref q, V.ref r]) t = some (.tup [V.ref q, V.ref r]) := upd_same
      have eD := sm _ _ hD2
      generalize upd (upd (upd (upd H2 p (HO.lst (List.drop (Int.toNat 1) ys))) q (HO.tup (List.drop (Int.toNat 1) ys))) r (HO.tup [])) t (HO.tup [V.ref q, V.ref r]) = H3 at sm eq er et eD ⊢
      have kd : KysAt H3 (List.drop (Int.toNat 1) ys) (List.drop (Int.toNat 1) ks) := (hks.same sm _ _).drop _
      have hel : KyAt H3 (.ref t) (.tup [.tup (List.drop (Int.toNat 1) ks), .tup []]) := .tup et (.cons (.tup eq kd) (.cons (.tup er .nil) .nil))
      have hall : ∀ k ∈ ks.set (n / 6 / 7 % (ys.length : Int)).toNat (.tup [.tup (List.drop (Int.toNat 1) ks), .tup []]), KOk 2 k := by
        intro y hy
        rcases List.mem_or_eq_of_mem_set hy with hy | rfl
        · exact (hok y hy).mono (by decide)
        · refine .tup (fun z hz => ?_) (by simp)
          rcases List.mem_cons.mp hz with rfl | hz
          · exact .tup (fun w hw => hok w (List.mem_of_mem_drop hw)) (by rw [List.length_drop]; omega)
          · rcases List.mem_cons.mp hz with rfl | hz
            · exact (KOk.tup (d := 0) (ks := []) (fun _ h => by cases h) (by decide))
            · cases hz
      have hset : KysAt H3 (ys.set (n / 6 / 7 % (ys.length : Int)).toNat (.ref t)) (ks.set (n / 6 / 7 % (ys.length : Int)).toNat (.tup [.tup (List.drop (Int.toNat 1) ks), .tup []])) := hks.same sm _ _ |>.set hel
      have keep : ∀ b o, b ≠ D → H3 b = some o → upd H3 D (.lst (ys.set (n / 6 / 7 % (ys.length : Int)).toNat (.ref t))) b = some o := fun b o hb e => by rw [upd_ne hb]; exact e
      have last := fin _ _ (upd H3 D (.lst (ys.set (n / 6 / 7 % (ys.length : Int)).toNat (.ref t)))) (Same_upd0 (s2.trans sm) hD) upd_same (KysAt.but' keep eD _ _ (goods_of fun k hk => (hall k hk).g) hset) hall (by rw [List.length_set]; omega)
      rw [rd_tupOf] at last
      exact last
theorem sc_law_key : FnScope ["_law_way", "_law_base", "_law_j", "_law_stem", "_law_at", "_law_text_here", "_law_mark"] ["_law_way", "_law_base", "_law_j"] (defScope s_law_key) := ⟨rfl, rfl, rfl, by decide +kernel, rfl, by decide +kernel, by decide +kernel⟩
theorem ok_law_key {P : Program} {w : World} {K : PySem.W.Frag} {mg : Str → Option Value} {base : Heap} {A : Ad} (T : Txt K mg A) : FnOk P w K mg base CX0 5 A.a_law_key A.d_law_key ["_law_way", "_law_base", "_law_j"] spKey3 := by
  refine T.F_law_key.ok sc_law_key (fun vs H Q E h => ?_) (fun cdv A' outer s H vs Q E hr h => ?_)
  · walk_at "spl"
  · have nd := sc_law_key.nd
    have hu := hu_of hr
    refine ⟨_, (pss_cons (ps_if (pt_cmpR op_eq (pv 0) pe_int (nomark _)) (pss_one (ps_ret (pe_op op_add (pv 1) (pe_op op_mulX pe_int (pv 2))))) pss_nil) (pss_cons (ps_if (pt_cmpR op_eq (pv 0) pe_int (nomark _)) (pss_one (ps_ret (pe_op op_add (pv 1) (pe_op op_mulX pe_int (pv 2))))) pss_nil) (pss_cons (ps_if (pt_cmpR op_eq (pv 0) pe_int (nomark _)) (pss_cons (ps_set (i := 3) nd rfl (Or.inl rfl) (pe_call (ok_law_text T) (hr.mono (by decide)) rfl T.m_law_text T.F_law_text.kp T.b_law_text .nil pass0 (pa_cons (pv 1) (pa_cons (pe_op op_mod (pv 1) pe_int) pa_nil)))) (pss_cons (ps_set (i := 4) nd rfl (Or.inl rfl) (pe_op op_mod (pe_op op_fdivW (pv 1) pe_int) (pe_op op_add (pe_callB call_lenU rfl T.n_len PySem.boot_len (pa_cons (pv 3) pa_nil)) pe_int))) (pss_one (ps_ret (pe_op op_addT (pe_op op_addT (pe_slice sl_str (pv 3) po_none (po_some (pv 4))) (pe_call (ok_law_text T) (hr.mono (by decide)) rfl T.m_law_text T.F_law_text.kp T.b_law_text .nil pass0 (pa_cons (pv 2) (pa_cons pe_int pa_nil)))) (pe_slice sl_str (pv 3) (po_some (pv 4)) po_none)))))) pss_nil) (pss_cons (ps_if (pt_cmpR op_eq (pv 0) pe_int (nomark _)) (pss_cons (ps_set (i := 5) nd rfl (Or.inl rfl) (pe_call (ok_law_text T) (hr.mono (by decide)) rfl T.m_law_text T.F_law_text.kp T.b_law_text .nil pass0 (pa_cons (pv 1) (pa_cons (pe_op op_mod (pv 1) pe_int) pa_nil)))) (pss_cons (ps_set (i := 6) nd rfl (Or.inl rfl) (pe_call (ok_law_stamp T 3) (hr.mono (by decide)) rfl T.m_law_stamp T.F_law_stamp.kp T.b_law_stamp .nil pass0 (pa_cons (pv 5) pa_nil))) (pss_cons (ps_if (pt_cmpR op_eq (pv 2) pe_int (nomark _)) (pss_one (ps_ret (pv 5))) pss_nil) (pss_cons (ps_if (pt_cmpR op_eq (pe_op op_mod (pv 2) pe_int) pe_int (nomark _)) (pss_one (ps_ret (pe_op op_add (pv 6) (pe_op op_mulX pe_int (pe_op op_fdivW (pv 2) pe_int))))) pss_nil) (pss_one (ps_ret (pe_tup (pa_cons (pe_op op_add (pe_op op_xor pe_int (pv 6)) (pe_op op_mulX pe_int (pe_op op_sub (pe_op op_fdivW (pv 2) pe_int) pe_int))) pa_nil)))))))) pss_nil) (pss_one (ps_ret (pe_call (ok_law_any_key T) (hr.mono (by decide)) rfl T.m_law_any_key T.F_law_any_key.kp T.b_law_any_key .nil pass0 (pa_cons (pe_op op_mod (pe_op op_mulX (pe_op op_add (pv 1) (pv 2)) (pe_op op_pow pe_int pe_int)) (pe_op op_add (pe_op op_pow pe_int pe_int) pe_int)) pa_nil)))))))), ?_⟩
    clear nd
    obtain ⟨w, b, j, rfl, ⟨hb, hj⟩, k⟩ := h
    walk_at "rd"
    refine iteB (fun c1 => ⟨mulL (by decide) (by decide), k _ _ (.num _) (Same.refl _) (.num _) (.num (by omega))⟩) fun c1 => iteB (fun c2 => ⟨mulL (by decide) (by decide), k _ _ (.num _) (Same.refl _) (.num _) (.num (by omega))⟩) fun c2 => iteB (fun c3 => ?_) fun c3 => iteB (fun c4 => ?_) fun c4 => ?_
    · refine ⟨_, _, rfl, by omega, fun l hc hl => ?_⟩
      walk_at "rd"
      rw [SX.S_len]
      have a0 : 0 ≤ b / 20 % ((l.length : Int) + 1) := Int.emod_nonneg _ (by omega)
      have a1 : b / 20 % ((l.length : Int) + 1) < (l.length : Int) + 1 := Int.emod_lt_of_pos _ (by omega)
      generalize b / 20 % ((l.length : Int) + 1) = t at a0 a1 ⊢
      obtain ⟨m, rfl⟩ : ∃ m : Nat, t = (m : Int) := ⟨t.toNat, by omega⟩
      refine ⟨by walk_at "side", by rw [sizeLine_eq]; omega, by omega, ?_⟩
      refine ⟨by rw [sizeLine_eq]; omega, _, _, rfl, by omega, fun l2 hc2 hl2 => ?_⟩
      rw [cut_Slo (by omega), cut_Shi (by omega)]
      walk_at "rd"
      have e2 : SX.S (List.take m l) ++ SX.S l2 = SX.S (List.take m l ++ l2) := by rw [SX.S_cat]
      have e3 : SX.S (List.take m l ++ l2) ++ SX.S (List.drop m l) = SX.S (List.take m l ++ l2 ++ List.drop m l) := by rw [SX.S_cat (List.take m l ++ l2)]
      rw [e2, e3]
      simp only [SX.S_len, sizeLine_eq, List.length_take, List.length_drop, List.length_append]
      refine ⟨by omega, by omega, by omega, k _ _ (.txt _) (Same.refl _) (.txt _) (.txt (codesOk_append (codesOk_append (codesOk_take hc _) hc2) (codesOk_drop hc _)) ?_)⟩
      simp only [List.length_take, List.length_drop, List.length_append]
      omega
    · refine ⟨_, _, rfl, by omega, fun l hc hl => ⟨.txt (SX.S l), .txt _, ⟨by rw [Ky.good]; exact strOk_of hc, by simp [Ky.dep]⟩, ?_⟩⟩
      have hr := stamp_range (.txt (SX.S l))
      generalize Ky.stamp (.txt (SX.S l)) = s at hr ⊢
      refine iteB (fun c5 => k _ _ (.txt _) (Same.refl _) (.txt _) (.txt hc (by omega))) fun c5 => iteB (fun c6 => ⟨by walk_at "side", mulL (by decide) (by decide), k _ _ (.num _) (Same.refl _) (.num _) (.num (by omega))⟩) fun c6 => ?_
      have hx := xor_range hr.1 hr.2
      generalize Builtin.bitXor 11000033 s = x at hx ⊢
      exact ⟨by walk_at "side", mulL (by decide) (by decide), by walk_at "sz", fun p hp => k _ _ _ (Same_upd (Same.refl _) hp) (.tup upd_same (.cons (.num _) .nil)) (.tup (fun y hy => by rcases List.mem_cons.mp hy with rfl | hy; exact .num (by omega); cases hy) (by simp))⟩
    · have n0 : 0 ≤ (b + j) * 112475747406511 % 1000000000000037 := Int.emod_nonneg _ (by decide)
      have n1 : (b + j) * 112475747406511 % 1000000000000037 < 1000000000000037 := Int.emod_lt_of_pos _ (by decide)
      exact ⟨by walk_at "side", mulR (by decide) (by decide), by walk_at "side", _, rfl, by omega, k⟩

end Law
namespace Law
open PySem PySem.Spec PyProof.Rows L2 My
theorem sc_law_stream : FnScope ["_law_script", "_law_many", "_law_number", "_law_cell", "_law_found", "_law_k"] ["_law_script", "_law_many"] (defScope s_law_stream) := ⟨rfl, rfl, rfl, by decide +kernel, rfl, by decide +kernel, by decide +kernel⟩
theorem ok_law_stream {P : Program} {w : World} {K : PySem.W.Frag} {mg : Str → Option Value} {base : Heap} {A : Ad} (T : Txt K mg A) : FnOk P w K mg base CX0 2 A.a_law_stream A.d_law_stream ["_law_script", "_law_many"] (spStream K) := by
  refine T.F_law_stream.ok sc_law_stream (fun vs H Q E h => ?_) (fun cdv A' outer s H vs Q E hr h => ?_)
  · walk_at "spl"
  · have nd := sc_law_stream.nd
    have hu := hu_of hr
    refine ⟨_, (pss_cons (ps_set (i := 2) nd rfl (Or.inl rfl) pe_int) (pss_cons (ps_for PassesOwn.never rfl (pi_list (pv 0)) (pg_name (i := 3) nd rfl (Or.inl rfl)) (pss_one (ps_set (i := 2) nd rfl (Or.inl rfl) (pe_op op_mod (pe_op op_add (pe_op op_mulX (pv 2) pe_int) (pv 3)) (pe_op op_add (pe_op op_pow pe_int pe_int) pe_int))))) (pss_cons (ps_set (i := 4) nd rfl (Or.inl rfl) (pe_lst pa_nil)) (pss_cons (ps_for PassesOwn.never rfl (pi_range1 rfl T.n_range (pa_cons (pv 1) pa_nil)) (pg_name (i := 5) nd rfl (Or.inl rfl)) (pss_cons (ps_set (i := 2) nd rfl (Or.inl rfl) (pe_op op_mod (pe_op op_add (pe_op op_add (pe_op op_mulX (pv 2) pe_int) (pe_call (ok_law_cell_at T) (hr.mono (by decide)) rfl T.m_law_cell_at T.F_law_cell_at.kp T.b_law_cell_at .nil pass0 (pa_cons (pv 0) (pa_cons (pv 5) pa_nil)))) pe_int) (pe_op op_pow pe_int pe_int))) (pss_one (ps_expr (pe_bm PySem.F.plainAttrs_list PySem.F.slot_list_append PySem.F.type_list_append mt_append (pv 4) (pa_cons (pe_op op_fdivW (pv 2) (pe_op op_pow pe_int pe_int)) pa_nil)))))) (pss_one (ps_ret (pv 4))))))), ?_⟩
    clear nd
    obtain ⟨a, ns, m, rfl, hS, ⟨hl, hm0, hm1⟩, k⟩ := h
    walk_at "rd"
    refine ⟨⟨_, hS⟩, go_list (fun i σ H' => ∃ (n : Int) (v3 : Option V), σ = [some (.ref a), some (.int m), some (.int n), v3, none, none] ∧ H' = H) ⟨_, _, rfl, rfl⟩ (fun i σ H' _ ⟨_, _, _, e⟩ => by rw [e]; exact hS) ?_ ?_⟩
    · rintro N i x σ H' hx ⟨n, v3, rfl, rfl⟩ hN
      obtain ⟨c, -, rfl⟩ := ints_at hx
      walk_at "rd"
      exact ⟨mulR (by decide) (by decide), by walk_at "side", hN _ _ ⟨_, _, rfl, rfl⟩⟩
    · rintro σ H' ⟨n, v3, rfl, rfl⟩
      walk_at "rd"
      refine ⟨by walk_at "sz", fun p hp => ⟨by omega, ?_⟩⟩
      refine go_range (fun i σ H2 => ∃ (n : Int) (v4 : Option V) (xs : List Int), σ = [some (.ref a), some (.int m), some (.int n), v3, some (.ref p), v4] ∧ Same H' H2 ∧ H2 p = some (.lst (xs.map V.int)) ∧ xs.length = i ∧ i ≤ m.toNat ∧ ∀ x ∈ xs, 0 ≤ x ∧ x < 2 ^ 44) ⟨_, _, [], rfl, by walk_at "same", upd_same, rfl, Nat.zero_le _, (fun _ h => by cases h)⟩ ?_ ?_
      · rintro N i σ H2 hi ⟨n, v4, xs, rfl, sm, hL, hx, hz, hb⟩ hN
        walk_at "rd"
        refine ⟨mulR (by decide) (by decide), ns, by walk_at "sq", by omega, ?_⟩
        walk_at "rd"
        generalize getI ns (i : Int) = g
        have z0 : 0 ≤ (n * 6364136223846793005 + g + 1442695040888963407) % 18446744073709551616 := Int.emod_nonneg _ (by decide)
        have z1 : (n * 6364136223846793005 + g + 1442695040888963407) % 18446744073709551616 < 18446744073709551616 := Int.emod_lt_of_pos _ (by decide)
        generalize (n * 6364136223846793005 + g + 1442695040888963407) % 18446744073709551616 = z at z0 z1 ⊢
        refine ⟨by walk_at "side", tyL hL, by walk_at "side", by walk_at "side", _, hL, by rw [sizeLine_eq]; simp only [List.length_map]; omega, hN _ _ ⟨_, _, xs ++ [z / 1048576], rfl, Same_upd0 sm hp, ?_, by simp [hx], by omega, fun x h => ?_⟩⟩
        · rw [upd_same, List.map_append]
          rfl
        · rcases List.mem_append.mp h with h | h
          · exact hb x h
          · rw [List.mem_singleton] at h
            subst h
            omega
      · rintro σ H2 ⟨n, v4, xs, rfl, sm, hL, hx, hz, hb⟩
        walk_at "rd"
        exact k p H2 xs sm hp hL (by omega) hb
theorem sc_paper : FnScope ["cells", "row", "key", "mark", "found", "count", "slot", "cell"] ["cells", "row", "key"] (defScope s_paper) := ⟨rfl, rfl, rfl, by decide +kernel, rfl, by decide +kernel, by decide +kernel⟩
theorem ok_paper {P : Program} {w : World} {K : PySem.W.Frag} {mg : Str → Option Value} {base : Heap} {A : Ad} (T : Txt K mg A) : FnOk P w K mg base CX0 5 A.a_paper A.d_paper ["cells", "row", "key"] (spPaper K) := by
  refine T.F_paper.ok sc_paper (fun vs H Q E h => ?_) (fun cdv A' outer s H vs Q E hr h => ?_)
  · walk_at "spl"
  · have nd := sc_paper.nd
    have hu := hu_of hr
    refine ⟨_, (pss_cons (ps_set (i := 3) nd rfl (Or.inl rfl) (pe_call (ok_stamp T 3) (hr.mono (by decide)) rfl T.m_stamp T.F_stamp.kp T.b_stamp .nil pass0 (pa_cons (pv 2) pa_nil))) (pss_cons (ps_set (i := 4) nd rfl (Or.inl rfl) (pe_lst pa_nil)) (pss_cons (ps_for PassesOwn.never rfl (pi_range1 rfl T.n_range (pa_cons (pe_callB call_lenU rfl T.n_len PySem.boot_len (pa_cons (pv 0) pa_nil)) pa_nil)) (pg_name (i := 5) nd rfl (Or.inl rfl)) (pss_cons (ps_set (i := 6) nd rfl (Or.inl rfl) (pe_call (ok_probe T) (hr.mono (by decide)) rfl T.m_probe T.F_probe.kp T.b_probe .nil pass0 (pa_cons (pv 3) (pa_cons (pe_callB call_lenU rfl T.n_len PySem.boot_len (pa_cons (pv 0) pa_nil)) (pa_cons (pv 5) pa_nil))))) (pss_cons (ps_set (i := 7) nd rfl (Or.inl rfl) (pe_ix ix_list (pv 0) (pv 6) (fun _ _ => rfl))) (pss_cons (ps_expr (pe_bm PySem.F.plainAttrs_list PySem.F.slot_list_append PySem.F.type_list_append mt_append (pv 4) (pa_cons (pe_tup (pa_cons (pv 6) (pa_cons (pv 7) pa_nil))) pa_nil))) (pss_cons (ps_if (pt_cmpR op_eq (pv 7) (pe_glob (v := .int (-1)) rfl T.g_EMPTY ⟨_, rfl⟩) (nomark _)) (pss_one ps_break) pss_nil) (pss_one (ps_if (PW.pt (pw_and (pt_cmpR op_ne (pv 7) (pe_glob (v := .int (-2)) rfl T.g_GONE ⟨_, rfl⟩) (nomark _)) (pw_and1 (pt_cmpR (op_eqD hr.units) (pe_ix ix_list (pv 1) (pv 7) (fun _ _ => rfl)) (pv 2) (nomark _))))) (pss_one ps_break) pss_nil))))))) (pss_one (ps_ret (pv 4)))))), ?_⟩
    clear nd
    obtain ⟨a, r, v, cs, ws, ks, y, j, rfl, hA, hS, hks, hy, hR, hK, ⟨hl, hj⟩, hC, k⟩ := h
    obtain ⟨z0, z1⟩ := pow_le hj
    simp only [Int.reducePow] at z1
    have pc := pow_cast j
    have hw := KysAt.len hks
    walk_at "rd"
    refine ⟨y, hy, ⟨hK.g, hK.d⟩, by walk_at "sz", fun p hp => ⟨_, .inl (by walk_at "sq"), ?_⟩⟩
    rw [List.length_map, hl, pc]
    refine ⟨by omega, ?_⟩
    rw [show (2 ^ j : Int).toNat = 2 ^ j by omega]
    refine go_range (fun i σ H' => ∃ (v5 v6 v7 : Option V) (xs : List V), σ = [some (.ref a), some (.ref r), some v, some (.int y.stamp), some (.ref p), v5, v6, v7] ∧ Same H H' ∧ H' p = some (.lst xs) ∧ KysAt H' xs ((List.range i).map (pairAt cs j y)) ∧ i ≤ 2 ^ j ∧ ∀ t : Nat, t < i → stopB cs ks j y t = false) ⟨_, _, _, [], rfl, by walk_at "same", upd_same, .nil, Nat.zero_le _, fun t h => by omega⟩ ?_ ?_
    · rintro N i σ H' hi ⟨v5, v6, v7, xs, rfl, sm, hp', hx, hz, hb⟩ hN
      have hxl := KysAt.len hx
      rw [List.length_map, List.length_range] at hxl
      obtain ⟨r0, r1⟩ := probe_range y.stamp i hj
      have at_ := at_int (xs := cs) r0 (by omega)
      have ec := hC _ r0 (by omega)
      walk_at "rd"
      refine ⟨_, .inl (sm.seq hA), ?_⟩
      rw [List.length_map, hl, pc]
      refine ⟨by omega, _, _, sm.seq hA, at_, ?_⟩
      walk_at "rd"
      refine ⟨tyL hp', by walk_at "sz", fun T hT => ⟨xs, by walk_at "hp", by rw [sizeLine_eq]; omega, ?_⟩⟩
      have sT : Same H (upd (upd H' T (.tup [V.int (probeF y.stamp (2 ^ j) i), V.int (getI cs (probeF y.stamp (2 ^ j) i))])) p (.lst (xs ++ [V.ref T]))) := Same_upd0 (Same_upd sm hT) hp
      have hpT : T ≠ p := (hT.ne hp').symm
      have hp2 : upd H' T (.tup [V.int (probeF y.stamp (2 ^ j) i), V.int (getI cs (probeF y.stamp (2 ^ j) i))]) p = some (.lst xs) := by walk_at "hp"
      have hx2 := hx.same (Same_upd (o := .tup [V.int (probeF y.stamp (2 ^ j) i), V.int (getI cs (probeF y.stamp (2 ^ j) i))]) (Same.refl _) hT) _ _
      have dats : Ky.dats ((List.range i).map (pairAt cs j y)) := fun q hq => by
        obtain ⟨t, _, rfl⟩ := List.mem_map.mp hq
        exact pairK_dat _ _
      have hx3 : KysAt (upd (upd H' T (.tup [V.int (probeF y.stamp (2 ^ j) i), V.int (getI cs (probeF y.stamp (2 ^ j) i))])) p (.lst (xs ++ [V.ref T]))) (xs ++ [V.ref T]) ((List.range (i + 1)).map (pairAt cs j y)) := by
        rw [List.range_succ, List.map_append]
        refine KysAt.append (hx2.butD (fun b u hb e => by rw [upd_ne hb]; exact e) hp2 dats) (.cons ?_ .nil)
        exact .tup (by rw [upd_ne hpT]; exact upd_same) (.cons (.num _) (.cons (.num _) .nil))
      have hp3 : upd (upd H' T (.tup [V.int (probeF y.stamp (2 ^ j) i), V.int (getI cs (probeF y.stamp (2 ^ j) i))])) p (.lst (xs ++ [V.ref T])) p = some (.lst (xs ++ [V.ref T])) := upd_same
      generalize upd (upd H' T (.tup [V.int (probeF y.stamp (2 ^ j) i), V.int (getI cs (probeF y.stamp (2 ^ j) i))])) p (.lst (xs ++ [V.ref T])) = H3 at sT hx3 hp3 ⊢
      have stop : stopB cs ks j y i = true → Q (.ref p) H3 := fun e => k p H3 _ sT hp hp3 (by
        unfold paperK
        rw [paperN_stop hi e hb]
        exact hx3)
      have next : stopB cs ks j y i = false → ∀ v6 v7, N [some (.ref a), some (.ref r), some v, some (.int y.stamp), some (.ref p), some (.int i), v6, v7] H3 := fun e v6 v7 => hN _ _ ⟨_, _, _, _, rfl, sT, hp3, hx3, by omega, fun t ht => by
        rcases Nat.lt_or_ge t i with q | q
        · exact hb t q
        · rw [show t = i by omega]; exact e⟩
      unfold stopB at stop next
      generalize getI cs (probeF y.stamp (2 ^ j) i) = c at *
      refine iteB (fun c1 => stop (by simp [c1])) fun c1 => iteB (fun c2 => ?_) fun c2 => next ?_ _ _
      · obtain ⟨q1, q2⟩ := (ec.resolve_left c1).resolve_left c2
        obtain ⟨u, e1, at2⟩ := at_any (xs := ws) q1 (by omega)
        obtain ⟨l, e2, hu⟩ := hks.get e1
        refine ⟨_, _, sT.seq hS, at2, ?_⟩
        have ul := RowOk.one (hR.get e2)
        have kl := RowOk.one (k := y) (.inr hK)
        refine eq_any (hu.same sT _ _) (hy.same sT _ _) ul.1 kl.1 ul.2 kl.2 ?_
        walk_at "rd"
        refine iteB (fun c3 => stop ?_) fun c3 => next ?_ _ _
        · rw [e2, c3]
          simp [c2]
        · rw [e2]
          simp [c1, c3]
      · have c2' : c = -2 := by simpa using c2
        simp [c2']
    · rintro σ H' ⟨v5, v6, v7, xs, rfl, sm, hp', hx, hz, hb⟩
      walk_at "rd"
      refine k p H' xs sm hp hp' ?_
      unfold paperK
      rw [paperN_none hb]
      exact hx

end Law
namespace Law
open PySem PySem.Spec PyProof.Rows L2 My
theorem sc_law_count : FnScope ["_law_mark", "_law_size", "_law_slot", "_law_at", "_law_count_here"] ["_law_mark", "_law_size", "_law_slot"] (defScope s_law_count) := ⟨rfl, rfl, rfl, by decide +kernel, rfl, by decide +kernel, by decide +kernel⟩

theorem probe_inj {m : Int} {j : Nat} (hj : j ≤ 12) {a b : Nat} (ha : a < 2 ^ j) (hb : b < 2 ^ j) (h : probeF m (2 ^ j) a = probeF m (2 ^ j) b) : a = b := by
  obtain ⟨c, t, e⟩ := inv_of (stride_odd m) hj
  rw [probeF_eq, probeF_eq] at h
  have h1 : ((m + a * strideF m) - (m + b * strideF m)) % 2 ^ j = 0 := Int.emod_eq_emod_iff_emod_sub_eq_zero.mp h
  have pc := pow_cast j
  obtain ⟨q, eq⟩ := Int.dvd_of_emod_eq_zero h1
  have e2 : (a : Int) - b = 2 ^ j * (q * c + ((a : Int) - b) * t) := by
    have : ((a : Int) - b) * (1 - strideF m * c) = ((a : Int) - b) * (2 ^ j * t) := by rw [e]
    generalize (2 : Int) ^ j = x at *
    generalize strideF m = s at *
    grind
  have d : (2 : Int) ^ j ∣ (a : Int) - b := ⟨_, e2⟩
  have r := Int.emod_emod_of_dvd
  have l1 : (a : Int) % 2 ^ j = (b : Int) % 2 ^ j := Int.emod_eq_emod_iff_emod_sub_eq_zero.mpr (Int.emod_eq_zero_of_dvd d)
  rw [Int.emod_eq_of_lt (by omega) (by omega), Int.emod_eq_of_lt (by omega) (by omega)] at l1
  omega
def spCount : Sp := fun vs H Q _ => ∃ (m s : Int) (j : Nat), vs = [.int m, .int (2 ^ j), .int s] ∧ (j ≤ 12 ∧ 0 ≤ s ∧ s < 2 ^ j) ∧ ∀ n : Nat, n < 2 ^ j → probeF m (2 ^ j) n = s → Q (.int n) H
theorem len_count {vs H Q E} (h : spCount vs H Q E) : vs.length = 3 := by obtain ⟨_, _, _, rfl, _⟩ := h; rfl
theorem ok_law_count {P : Program} {w : World} {K : PySem.W.Frag} {mg : Str → Option Value} {base : Heap} {A : Ad} (T : Txt K mg A) : FnOk P w K mg base CX0 3 A.a_law_count A.d_law_count ["_law_mark", "_law_size", "_law_slot"] spCount := by
  refine T.F_law_count.ok sc_law_count (fun vs H Q E h => ?_) (fun cdv A' outer s H vs Q E hr h => ?_)
  · exact len_count h
  · have nd := sc_law_count.nd
    have hu := hu_of hr
    refine ⟨_, (pss_cons (ps_set (i := 3) nd rfl (Or.inl rfl) (pe_op op_mod (pv 0) (pv 1))) (pss_cons (ps_for PassesOwn.never rfl (pi_range1 rfl T.n_range (pa_cons (pv 1) pa_nil)) (pg_name (i := 4) nd rfl (Or.inl rfl)) (pss_cons (ps_if (pt_cmpR op_eq (pv 3) (pv 2) (nomark _)) (pss_one (ps_ret (pv 4))) pss_nil) (pss_one (ps_set (i := 3) nd rfl (Or.inl rfl) (pe_op op_mod (pe_op op_add (pv 3) (pe_call (ok_law_step T) (hr.mono (by decide)) rfl T.m_law_step T.F_law_step.kp T.b_law_step .nil pass0 (pa_cons (pv 0) pa_nil))) (pv 1)))))) (pss_one (ps_ret (pv 1))))), ?_⟩
    clear nd
    obtain ⟨m, s, j, rfl, ⟨hj, s0, s1⟩, k⟩ := h
    obtain ⟨z0, z1⟩ := pow_le hj
    simp only [Int.reducePow] at z1
    have pc := pow_cast j
    walk_at "rd"
    refine ⟨z0, by omega, ?_⟩
    rw [show (2 ^ j : Int).toNat = 2 ^ j by omega]
    refine go_range (fun i σ H' => ∃ v4, σ = [some (.int m), some (.int (2 ^ j)), some (.int s), some (.int (probeF m (2 ^ j) (i : Nat))), v4] ∧ H' = H ∧ ∀ t : Nat, t < i → probeF m (2 ^ j) t ≠ s) ⟨_, by rw [probe_zero], rfl, fun t ht => by omega⟩ ?_ ?_
    · rintro N i σ H' hi ⟨v4, rfl, rfl, hb⟩ hN
      walk_at "rd"
      refine iteB (fun c => k i hi c) fun c => ⟨z0, hN _ _ ⟨some (.int (i : Nat)), by rw [← probe_next], rfl, fun t ht => ?_⟩⟩
      rcases Nat.lt_or_ge t i with q | q
      · exact hb t q
      · rw [show t = i by omega]
        exact c
    · rintro σ H' ⟨v4, rfl, rfl, hb⟩
      obtain ⟨n, h1, h2⟩ := reach m hj s0 s1
      exact absurd h2 (hb n (by omega))

end Law
namespace Law
open PySem PySem.Spec PyProof.Rows L2 My
theorem sc_law_ends : FnScope ["_law_cells", "_law_row", "_law_key_here", "_law_found", "_law_pair", "_law_full", "_law_cell", "_law_mark", "_law_counts", "_law_slot"] ["_law_cells", "_law_row", "_law_key_here"] (defScope s_law_ends) := ⟨rfl, rfl, rfl, by decide +kernel, rfl, by decide +kernel, by decide +kernel⟩

def spEnds (K : PySem.W.Frag) : Sp := fun vs H Q _ => ∃ (a r : Addr) (v : V) (cs : List Int) (ws : List V) (ks : List Ky) (k : Ky) (j : Nat), vs = [.ref a, .ref r, v] ∧ H a = some (.lst (cs.map V.int)) ∧ H r = some (.lst ws) ∧ KysAt H ws ks ∧ RowOk ks ∧ ks.length = 1 ∧ KyAt H v k ∧ KeyOk k ∧
  (cs.length = 2 ^ j ∧ 3 ≤ j ∧ j ≤ 11) ∧ CellsOk cs 1 ∧ (-1) ∈ cs ∧ ∀ H', Same H H' → Q (.bl true) H'
theorem len_ends {K : PySem.W.Frag} {vs H Q E} (h : spEnds K vs H Q E) : vs.length = 3 := by obtain ⟨_, _, _, _, _, _, _, _, rfl, _⟩ := h; rfl
def slotsP (cs : List Int) (ks : List Ky) (j : Nat) (k : Ky) : List Int := (List.range (paperN cs ks j k)).map fun n => probeF k.stamp (2 ^ j) (n : Nat)
theorem nodup_len {α : Type} [DecidableEq α] : ∀ (l D : List α), l.Nodup → (∀ x ∈ l, x ∈ D) → l.length ≤ D.length
  | [], _, _, _ => Nat.zero_le _
  | x :: l, D, h, s => by
    obtain ⟨h1, h2⟩ := List.nodup_cons.mp h
    have hx := s x List.mem_cons_self
    have ih := nodup_len l (D.erase x) h2 fun y hy => (List.mem_erase_of_ne (fun e => h1 (by rw [← e]; exact hy))).mpr (s y (List.mem_cons_of_mem _ hy))
    rw [List.length_erase_of_mem hx] at ih
    have := List.length_pos_of_mem hx
    simp only [List.length_cons]
    omega
theorem full_len {cs : List Int} {ks : List Ky} {j : Nat} {k : Ky} (hj : j ≤ 12) (hl : cs.length = 2 ^ j) : paperN cs ks j k ≤ (cs.filter fun c => decide (c ≠ -1)).length + 1 := by
  obtain ⟨n0, n1, n2, -⟩ := paperN_range cs ks j k
  have e : cs = (List.range (2 ^ j)).map fun s => getI cs (s : Nat) := by
    refine List.ext_getElem (by simp [hl]) fun i h1 h2 => ?_
    simp [getI, List.getD_eq_getElem?_getD, h1]
  have e2 : (cs.filter (fun c => decide (c ≠ -1))).length = ((List.range (2 ^ j)).filter fun s => decide (getI cs (s : Nat) ≠ -1)).length := by
    conv => lhs; rw [e]
    rw [List.filter_map, List.length_map]
    rfl
  rw [e2]
  have nd : ∀ n : Nat, n ≤ 2 ^ j → ((List.range n).map fun n : Nat => (probeF k.stamp (2 ^ j) n).toNat).Nodup := by
    intro n
    induction n with
    | zero => intro _; exact List.nodup_nil
    | succ n ih =>
      intro hn
      rw [List.range_succ, List.map_append, List.nodup_append]
      refine ⟨ih (by omega), by simp, fun a ha b hb e => ?_⟩
      obtain ⟨t, ht, rfl⟩ := List.mem_map.mp ha
      have ht := List.mem_range.mp ht
      rw [List.map_singleton, List.mem_singleton] at hb
      rw [hb] at e
      have r1 := (probe_range k.stamp t hj).1
      have r2 := (probe_range k.stamp n hj).1
      have := probe_inj hj (by omega) (by omega) (show probeF k.stamp (2 ^ j) (t : Nat) = probeF k.stamp (2 ^ j) (n : Nat) by omega)
      omega
  have h := nodup_len _ ((List.range (2 ^ j)).filter fun s => decide (getI cs (s : Nat) ≠ -1)) (nd (paperN cs ks j k - 1) (by omega)) fun x hx => by
    obtain ⟨t, ht, rfl⟩ := List.mem_map.mp hx
    have ht := List.mem_range.mp ht
    obtain ⟨r0, r1⟩ := probe_range k.stamp t hj
    have pc := pow_cast j
    have b := n2 t (by omega)
    unfold stopB at b
    rw [List.mem_filter]
    refine ⟨List.mem_range.mpr (by omega), decide_eq_true ?_⟩
    rw [Int.toNat_of_nonneg r0]
    intro q
    rw [q] at b
    simp at b
  rw [List.length_map, List.length_range] at h
  omega
theorem slotsP_nodup {cs : List Int} {ks : List Ky} {j : Nat} {k : Ky} (hj : j ≤ 12) : (slotsP cs ks j k).Nodup := by
  obtain ⟨n0, n1, -⟩ := paperN_range cs ks j k
  unfold slotsP
  generalize paperN cs ks j k = n at n0 n1
  clear n0
  induction n with
  | zero => exact List.nodup_nil
  | succ n ih =>
    rw [List.range_succ, List.map_append, List.nodup_append]
    refine ⟨ih (by omega), by simp, fun a ha b hb e => ?_⟩
    obtain ⟨t, ht, rfl⟩ := List.mem_map.mp ha
    have ht := List.mem_range.mp ht
    rw [List.map_singleton, List.mem_singleton] at hb
    rw [hb] at e
    have := probe_inj hj (by omega) (by omega) e
    omega
theorem ok_law_ends {P : Program} {w : World} {K : PySem.W.Frag} {mg : Str → Option Value} {base : Heap} {A : Ad} (T : Txt K mg A) : FnOk P w K mg base CX0 6 A.a_law_ends A.d_law_ends ["_law_cells", "_law_row", "_law_key_here"] (spEnds K) := by
  refine T.F_law_ends.ok sc_law_ends (fun vs H Q E h => ?_) (fun cdv A' outer s H vs Q E hr h => ?_)
  · exact len_ends h
  · have nd := sc_law_ends.nd
    have hu := hu_of hr
    refine ⟨_, (pss_cons (ps_set (i := 3) nd rfl (Or.inl rfl) (pe_call (ok_paper T) (hr.mono (by decide)) rfl T.m_paper T.F_paper.kp T.b_paper .nil pass0 (pa_cons (pe_callTy call_listq rfl T.n_list (by decide +kernel) (pa_cons (pv 0) pa_nil)) (pa_cons (pe_callTy call_listq rfl T.n_list (by decide +kernel) (pa_cons (pv 1) pa_nil)) (pa_cons (pv 2) pa_nil))))) (pss_cons (ps_if (PW.pt (pw_or (pt_not (pt_val (pe_callB call_isiF rfl T.n_isinstance (by decide +kernel) (pa_cons (pv 3) (pa_cons (pe_bltn (v := .ty "list") rfl T.n_list (by decide +kernel) rfl) pa_nil))))) (pw_or1 (pt_cmpR (op_eqD hr.units) (pv 3) (pe_lst pa_nil) (nomark _))))) (pss_one (ps_ret pe_bl)) pss_nil) (pss_cons (ps_for PassesOwn.never rfl (pi_list (pv 3)) (pg_name (i := 4) nd rfl (Or.inl rfl)) (pss_cons (ps_if (PW.pt (pw_or (pt_not (pt_val (pe_callB call_isiF rfl T.n_isinstance (by decide +kernel) (pa_cons (pv 4) (pa_cons (pe_bltn (v := .ty "tuple") rfl T.n_tuple (by decide +kernel) rfl) pa_nil))))) (pw_or (pt_cmpR op_ne (pe_callB call_lenU rfl T.n_len PySem.boot_len (pa_cons (pv 4) pa_nil)) pe_int (nomark _)) (pw_or (pt_not (pt_val (pe_call (ok_law_whole T) (hr.mono (by decide)) rfl T.m_law_whole T.F_law_whole.kp T.b_law_whole .nil pass0 (pa_cons (pe_ix ix_tup (pv 4) pe_int (fun _ _ => rfl)) pa_nil)))) (pw_or1 (pt_not (pt_val (pe_call (ok_law_whole T) (hr.mono (by decide)) rfl T.m_law_whole T.F_law_whole.kp T.b_law_whole .nil pass0 (pa_cons (pe_ix ix_tup (pv 4) pe_int (fun _ _ => rfl)) pa_nil))))))))) (pss_one (ps_ret pe_bl)) pss_nil) (pss_one (ps_if (PW.pt (pw_or (pt_not (pt_chain op_le op_lt pe_int (pe_ix ix_tup (pv 4) pe_int (fun _ _ => rfl)) (pe_callB call_lenU rfl T.n_len PySem.boot_len (pa_cons (pv 0) pa_nil)))) (pw_or1 (pt_cmpR op_ne (pe_ix ix_list (pv 0) (pe_ix ix_tup (pv 4) pe_int (fun _ _ => rfl)) (fun _ _ => rfl)) (pe_ix ix_tup (pv 4) pe_int (fun _ _ => rfl)) (nomark _))))) (pss_one (ps_ret pe_bl)) pss_nil)))) (pss_cons (ps_if (pt_cmpR op_ne (RZ.pe_lenSetI rfl T.n_len rfl T.n_set (pe_lc (own := [("_law_pair", 4)]) rfl nd (pi_list (pv 3)) (blkOk_by (own := [("_law_pair", 4)]) (N := ["_law_cells", "_law_row", "_law_key_here", "_law_found", "_law_pair", "_law_full", "_law_cell", "_law_mark", "_law_counts", "_law_slot"]) (sc := defScope s_law_ends) (by decide +kernel)) (fun _ _ _ _ _ => (pg_name (i := 4) nd rfl (Or.inl rfl))) (fun _ _ _ _ _ => pts_nil) (fun _ _ _ _ _ => (pe_ix (ix_tupK K rfl) (pv 4) pe_int (fun _ _ => rfl))))) (pe_callB call_lenU rfl T.n_len PySem.boot_len (pa_cons (pv 3) pa_nil)) (nomark _)) (pss_one (ps_ret pe_bl)) pss_nil) (pss_cons (ps_setLc (i := 5) (own := [("_law_cell", 6)]) rfl nd rfl rfl (sw_true rfl rfl rfl (by decide +kernel)) (pi_list (pv 0)) (blkOk_by (own := [("_law_cell", 6)]) (N := ["_law_cells", "_law_row", "_law_key_here", "_law_found", "_law_pair", "_law_full", "_law_cell", "_law_mark", "_law_counts", "_law_slot"]) (sc := defScope s_law_ends) (by decide +kernel)) (fun _ _ _ _ _ => (pg_name (i := 6) nd rfl (Or.inl rfl))) (fun _ _ _ _ _ => (pts_one (pt_cmpR op_ne (pv 6) (pe_un un_neg pe_int) (nomark _)))) (fun _ _ _ _ _ => (pv 6))) (pss_cons (ps_if (pt_cmpR op_gt (pe_callB call_lenU rfl T.n_len PySem.boot_len (pa_cons (pv 3) pa_nil)) (pe_op op_add (pe_callB call_lenU rfl T.n_len PySem.boot_len (pa_cons (pv 5) pa_nil)) pe_int) (nomark _)) (pss_one (ps_ret pe_bl)) pss_nil) (pss_cons (ps_set (i := 7) nd rfl (Or.inl rfl) (pe_call (ok_law_stamp T 3) (hr.mono (by decide)) rfl T.m_law_stamp T.F_law_stamp.kp T.b_law_stamp .nil pass0 (pa_cons (pv 2) pa_nil))) (pss_cons (ps_set (i := 8) nd rfl (Or.inl rfl) (pe_lst pa_nil)) (pss_cons (ps_for PassesOwn.never rfl (pi_enum rfl T.n_enumerate (pa_cons (pv 0) pa_nil)) (pg_tup (n := 2) rfl (pgs_cons (pg_name (i := 9) nd rfl (Or.inl rfl)) (pgs_cons (pg_name (i := 6) nd rfl (Or.inl rfl)) pgs_nil))) (pss_one (ps_if (PW.pt (pw_or (pt_cmpR op_eq (pv 6) (pe_un un_neg pe_int) (nomark _)) (pw_or1 (PW.pt (pw_and (pt_cmpR op_eq (pv 6) pe_int (nomark _)) (pw_and1 (pt_cmpR (op_eqD hr.units) (pe_ix ix_list (pv 1) pe_int (fun _ _ => rfl)) (pv 2) (nomark _)))))))) (pss_one (ps_expr (pe_bm PySem.F.plainAttrs_list PySem.F.slot_list_append PySem.F.type_list_append mt_append (pv 8) (pa_cons (pe_call (ok_law_count T) (hr.mono (by decide)) rfl T.m_law_count T.F_law_count.kp T.b_law_count .nil pass0 (pa_cons (pv 7) (pa_cons (pe_callB call_lenU rfl T.n_len PySem.boot_len (pa_cons (pv 0) pa_nil)) (pa_cons (pv 9) pa_nil)))) pa_nil)))) pss_nil))) (pss_one (ps_ret (pe_and (pe_cmpR op_eq (pe_callB call_lenU rfl T.n_len PySem.boot_len (pa_cons (pv 3) pa_nil)) (pe_op op_add (pe_callB (cr_min rfl) rfl T.n_min (by decide +kernel) (pa_cons (pv 8) pa_nil)) pe_int) (nomark _)) (pe_one (pe_cmpR op_eq (pe_call (ok_law_count T) (hr.mono (by decide)) rfl T.m_law_count T.F_law_count.kp T.b_law_count .nil pass0 (pa_cons (pv 7) (pa_cons (pe_callB call_lenU rfl T.n_len PySem.boot_len (pa_cons (pv 0) pa_nil)) (pa_cons (pe_ix ix_tup (pe_ix ix_list (pv 3) (pe_un un_neg pe_int) (fun _ _ => rfl)) pe_int (fun _ _ => rfl)) pa_nil)))) (pe_callB (cr_min rfl) rfl T.n_min (by decide +kernel) (pa_cons (pv 8) pa_nil)) (nomark _))))))))))))))), ?_⟩
    clear nd
    obtain ⟨a, r, v, cs, ws, ks, y, j, rfl, ha, hr', hks, hR, hk1, hy, yk, ⟨hl, hj3, hj11⟩, hC, hm, k⟩ := h
    have hj : j ≤ 12 := by omega
    obtain ⟨z0, z1⟩ := pow_le hj11
    simp only [Int.reducePow] at z1
    have pc := pow_cast j
    have hw := KysAt.len hks
    walk_at "rd"
    refine ⟨_, .inl (SqL.of ha), fun l fl => ⟨ws, .inl (SqL.of (Same_upd (Same.refl _) fl _ _ hr')), fun l1 fl1 => ?_⟩⟩
    have s3 : Same H (upd (upd H l (.lst (cs.map V.int))) l1 (.lst ws)) := by walk_at "same"
    have hl3 : upd (upd H l (.lst (cs.map V.int))) l1 (.lst ws) l = some (.lst (cs.map V.int)) := by walk_at "hp"
    have hl13 : upd (upd H l (.lst (cs.map V.int))) l1 (.lst ws) l1 = some (.lst ws) := upd_same
    generalize upd (upd H l (.lst (cs.map V.int))) l1 (.lst ws) = H3 at s3 hl3 hl13 ⊢
    refine ⟨l, l1, v, cs, ws, ks, y, j, rfl, SqL.of hl3, SqL.of hl13, hks.same s3 _ _, hy.same s3 _ _, hR, yk, ⟨hl, hj⟩, by rw [hk1]; exact hC, fun f H4 xs s4 ff hf hfk => ?_⟩
    obtain ⟨n0, n1, n2, n3, n4⟩ := paperN_range cs ks j y
    have est := paper_stops (ks := ks) (k := y) hj hl hm (i := paperN cs ks j y - 1) (by omega)
    have hxl : xs.length = paperN cs ks j y := by
      have := KysAt.len hfk
      unfold paperK at this
      rwa [List.length_map, List.length_range] at this
    rw [isi_lst_list hf]
    walk_at "rd"
    have dp : Ky.dats (paperK cs ks j y) := fun q hq => by
      obtain ⟨t, _, rfl⟩ := List.mem_map.mp hq
      exact pairK_dat _ _
    refine ⟨by walk_at "sz", fun p hp => ?_⟩
    have s5 := Same_upd (o := .lst []) (Same.refl H4) hp
    refine eq_rows (ks := paperK cs ks j y) (ls := []) (SqL.of (s5 _ _ hf)) (hfk.same s5 _ _) (SqL.of upd_same) .nil dp Ky.dats_nil ?_
    have hne : paperK cs ks j y ≠ [] := by
      intro e
      have := congrArg List.length e
      unfold paperK at this
      rw [List.length_map, List.length_range] at this
      simp at this
      omega
    rw [decide_eq_false hne]
    walk_at "rd"
    have hf := s5 _ _ hf
    have hfk := hfk.same s5 _ _
    have s5 := (s3.trans s4).trans s5
    generalize upd H4 p (.lst []) = H5 at s5 hf hfk ⊢
    have item : ∀ (i : Nat) x, xs[i]? = some x → i < paperN cs ks j y ∧ ∃ q, x = .ref q ∧ H5 q = some (.tup [.int (probeF y.stamp (2 ^ j) (i : Nat)), .int (getI cs (probeF y.stamp (2 ^ j) (i : Nat)))]) := by
      intro i x hx
      have hi : i < xs.length := (List.getElem?_eq_some_iff.mp hx).1
      obtain ⟨u, hu, hxu⟩ := hfk.get hx
      unfold paperK at hu
      rw [List.getElem?_map, List.getElem?_range (by omega)] at hu
      have hu : pairAt cs j y i = u := by simpa using hu
      subst hu
      exact ⟨by omega, pair_of hxu⟩
    refine ⟨⟨_, SqL.of hf⟩, ?_⟩
    refine go_list (xs := xs) (fun i σ H' => ∃ v4, σ = [some (.ref a), some (.ref r), some v, some (.ref f), v4, none, none, none, none, none] ∧ H' = H5) ⟨_, rfl, rfl⟩ (fun i σ H' _ ⟨_, _, e⟩ => by rw [e]; exact SqL.of hf) ?_ ?_
    · rintro N i x σ H' hx ⟨v4, rfl, rfl⟩ hN
      obtain ⟨hi, q, rfl, hq⟩ := item i x hx
      obtain ⟨r0, r1⟩ := probe_range y.stamp i hj
      walk_at "rd"
      rw [isi_tup_tuple hq]
      walk_at "rd"
      refine ⟨_, .inr (SqT.of hq), iteN (by simp) ⟨_, _, SqT.of hq, rfl, ?_⟩⟩
      walk_at "rd"
      refine ⟨_, _, SqT.of hq, rfl, ?_⟩
      walk_at "rd"
      refine ⟨_, _, SqT.of hq, rfl, ?_⟩
      walk_at "rd"
      refine iteP r0 ⟨_, .inl (SqL.of (s5 _ _ ha)), iteN (fun c => c (by rw [List.length_map]; omega)) ⟨_, _, SqT.of hq, rfl, ?_⟩⟩
      walk_at "rd"
      refine ⟨_, _, SqL.of (s5 _ _ ha), at_int r0 (by omega), ?_⟩
      walk_at "rd"
      refine ⟨_, _, SqT.of hq, rfl, ?_⟩
      walk_at "rd"
      exact hN _ _ ⟨_, rfl, rfl⟩
    · rintro σ H' ⟨v4, rfl, rfl⟩
      walk_at "rd"
      refine ⟨⟨_, SqL.of hf⟩, fun D hD => ?_⟩
      refine go_lcm (walk_list (xs := xs)) ((slotsP cs ks j y).map V.int) (by rw [List.length_map]; unfold slotsP; rw [List.length_map, List.length_range]; exact hxl.symm) (by rw [sizeLine_eq]; omega) hD (fun H s => SqL.of (s _ _ hf)) ?_ ?_ gName_mono
      · rintro N i x H6 H7 hi s6 ⟨rfl, hx⟩ hN
        obtain ⟨hi, q, rfl, hq⟩ := item i x hx
        walk_at "rd"
        refine ⟨_, _, SqT.of (s6 _ _ hq), rfl, ?_⟩
        walk_at "rd"
        refine hN _ _ ?_ (Same.refl _)
        unfold slotsP
        rw [List.getElem?_map, List.getElem?_map, List.getElem?_range hi]
        rfl
      · intro H6 s6 hD6
        walk_at "rd"
        have hsl : (slotsP cs ks j y).length = paperN cs ks j y := by unfold slotsP; rw [List.length_map, List.length_range]
        refine ⟨_, SqL.of hD6, slotsP_nodup hj, by omega, _, .inl (SqL.of (s6 _ _ hf)), iteN (by omega) ⟨⟨_, SqL.of (s6 _ _ (s5 _ _ ha))⟩, fun D2 hD2 => ?_⟩⟩
        refine go_lcf (walk_list (xs := cs.map V.int)) (fun i ys => ys = ((cs.take i).filter fun c => decide (c ≠ -1)).map V.int) rfl (by rw [sizeLine_eq, List.length_map]; omega) (fun i ys h => by rw [h, List.length_map]; exact Nat.le_trans (List.length_filter_le _ _) (by rw [List.length_take]; omega)) hD2 (fun H s => SqL.of (s _ _ (s6 _ _ (s5 _ _ ha)))) ?_ ?_
        · rintro N Z i x ys H7 H8 hi s7 rfl ⟨rfl, hx⟩ hN hZ
          obtain ⟨c, hc, rfl⟩ := ints_at hx
          walk_at "rd"
          have e1 : (cs.take (i + 1)).filter (fun c => decide (c ≠ -1)) = (cs.take i).filter (fun c => decide (c ≠ -1)) ++ if c = -1 then [] else [c] := by
            obtain ⟨h1, h2⟩ := List.getElem?_eq_some_iff.mp hc
            rw [List.take_succ_eq_append_getElem h1, List.filter_append, h2]
            by_cases q : c = -1 <;> simp [q]
          refine iteB (fun q => hN _ _ ?_ (Same.refl _)) fun q => hZ ?_ _ (Same.refl _)
          · rw [e1, if_neg q, List.map_append]
            rfl
          · rw [e1, if_pos (by simpa using q), List.append_nil]
        · rintro H7 ys s7 hD7 rfl
          rw [List.length_map, List.take_length] at hD7
          walk_at "rd"
          have s7 := s6.trans s7
          have s57 := s5.trans s7
          have fl2 := full_len (ks := ks) (k := y) hj hl
          refine ⟨_, .inl (SqL.of (s7 _ _ hf)), _, .inl (SqL.of hD7), iteN (by rw [List.length_map]; omega) ⟨y, hy.same s57 _ _, ⟨yk.g, yk.d⟩, by walk_at "sz", fun p8 hp8 => ?_⟩⟩
          have s8 : Same H (upd H7 p8 (.lst [])) := Same_upd s57 hp8
          have hq8 : upd H7 p8 (.lst []) p8 = some (.lst []) := upd_same
          have hf8 : upd H7 p8 (.lst []) f = some (.lst xs) := Same_upd (Same.refl _) hp8 _ _ (s7 _ _ hf)
          have np8 : f ≠ p8 := hp8.ne (s7 _ _ hf)
          have fp8 : Fresh H p8 := Same_fresh s57 hp8
          have itm8 : ∀ (i : Nat) x, xs[i]? = some x → i < paperN cs ks j y ∧ ∃ q, x = .ref q ∧ upd H7 p8 (.lst []) q = some (.tup [.int (probeF y.stamp (2 ^ j) (i : Nat)), .int (getI cs (probeF y.stamp (2 ^ j) (i : Nat)))]) := fun i x hx => by
            obtain ⟨h1, q, h2, h3⟩ := item i x hx
            exact ⟨h1, q, h2, Same_upd (Same.refl _) hp8 _ _ (s7 _ _ h3)⟩
          generalize upd H7 p8 (.lst []) = H8 at s8 hq8 hf8 itm8 ⊢
          refine ⟨⟨_, SqL.of (s8 _ _ ha)⟩, ?_⟩
          refine go_enum (xs := cs.map V.int) (fun i σ H' => ∃ (v6 v9 : Option V) (es : List Int), σ = [some (.ref a), some (.ref r), some v, some (.ref f), v4, some (.ref D2), v6, some (.int y.stamp), some (.ref p8), v9] ∧ Same H H' ∧ But [p8] H8 H' ∧ H' p8 = some (.lst (es.map V.int)) ∧ es.length ≤ i ∧ (∀ e ∈ es, ((paperN cs ks j y - 1 : Nat) : Int) ≤ e) ∧ ((probeF y.stamp (2 ^ j) ((paperN cs ks j y - 1 : Nat) : Int) < i) → ((paperN cs ks j y - 1 : Nat) : Int) ∈ es))
            ⟨_, _, [], rfl, s8, But.of (Same.refl _) _, hq8, Nat.le_refl _, (fun _ h => by cases h), fun h => by have := (probe_range y.stamp ((paperN cs ks j y - 1 : Nat) : Int) hj).1; omega⟩ (fun i σ H' _ ⟨_, _, _, _, s, _⟩ => SqL.of (s _ _ ha)) ?_ ?_
          · rintro N i x σ H' T hx ⟨v6, v9, es, rfl, sm, bt, hE, hel, hge, hin⟩ hT hN
            obtain ⟨c, hc, rfl⟩ := ints_at hx
            have hi : i < cs.length := (List.getElem?_eq_some_iff.mp hc).1
            have ec : getI cs (i : Int) = c := by
              unfold getI
              rw [Int.toNat_natCast, List.getD_eq_getElem?_getD, hc]
              rfl
            walk_at "rd"
            refine ⟨_, SqT.of upd_same, rfl, ?_⟩
            walk_at "rd"
            have sT := Same_upd (o := .tup [V.int i, V.int c]) (Same.refl H') hT
            have hE3 := sT _ _ hE
            have bt3 := bt.trans (But.of sT [p8])
            have s3' := sm.trans sT
            generalize upd H' T (.tup [V.int i, V.int c]) = H9 at hE3 bt3 s3' ⊢
            obtain ⟨n, hn, en⟩ := reach y.stamp (d := (i : Int)) hj (by omega) (by omega)
            have est1 : stopB cs ks j y (paperN cs ks j y - 1) = true := by rw [est]; exact decide_eq_true rfl
            have no : stopB cs ks j y n = false → N [some (V.ref a), some (V.ref r), some v, some (V.ref f), v4, some (V.ref D2), some (V.int c), some (V.int y.stamp), some (V.ref p8), some (V.int i)] H9 := fun e =>
              hN _ _ ⟨_, _, es, rfl, s3', bt3, hE3, by omega, hge, fun h => by
                rcases Decidable.em (probeF y.stamp (2 ^ j) ((paperN cs ks j y - 1 : Nat) : Int) < (i : Int)) with q | q
                · exact hin q
                · have e9 : n = paperN cs ks j y - 1 := probe_inj hj (by omega) (by omega) (by rw [en]; omega)
                  rw [e9, est1] at e
                  cases e⟩
            have ad : stopB cs ks j y n = true → tyV K "list" (V.ref p8) H9 ∧ ∃ ys, (SqL K H9 a ys ∨ SqT K H9 a ys) ∧ spCount [V.int y.stamp, V.int (ys.length : Nat), V.int i] H9 (fun x H1 => ∃ xs, H1 p8 = some (.lst xs) ∧ xs.length < sizeLine ∧
                N [some (V.ref a), some (V.ref r), some v, some (V.ref f), v4, some (V.ref D2), some (V.int c), some (V.int y.stamp), some (V.ref p8), some (V.int i)] (upd H1 p8 (.lst (xs ++ [x])))) E0 := fun e => by
              refine ⟨tyL hE3, _, .inl (SqL.of (s3' _ _ ha)), ?_⟩
              rw [List.length_map, hl, pc]
              refine ⟨_, _, j, rfl, ⟨hj, by omega, by omega⟩, fun n' h1 h2 => ⟨_, hE3, by rw [sizeLine_eq, List.length_map]; omega, hN _ _ ⟨_, _, es ++ [(n' : Int)], rfl, Same_upd0 s3' fp8, fun bb o e n => by rw [upd_ne (fun q => n (by rw [q]; exact List.mem_cons_self))]; exact bt3 _ _ e n, by rw [upd_same, List.map_append]; rfl, by simp; omega, fun z hz => ?_, fun h => ?_⟩⟩⟩
              · rcases List.mem_append.mp hz with hz | hz
                · exact hge z hz
                · rw [List.mem_singleton] at hz
                  have e9 : n' = n := probe_inj hj h1 (by omega) (by rw [h2, en])
                  rw [hz, e9]
                  rcases Nat.lt_or_ge n (paperN cs ks j y - 1) with q | q
                  · rw [n2 n (by omega)] at e
                    cases e
                  · omega
              · rcases Decidable.em (probeF y.stamp (2 ^ j) ((paperN cs ks j y - 1 : Nat) : Int) < (i : Int)) with q | q
                · exact List.mem_append_left _ (hin q)
                · have e9 : n' = paperN cs ks j y - 1 := probe_inj hj h1 (by omega) (by rw [h2]; omega)
                  rw [e9]
                  exact List.mem_append_right _ List.mem_cons_self
            have cc := hC i (by omega) (by omega)
            rw [ec] at cc
            unfold stopB at no ad
            rw [en, ec] at no ad
            refine iteB (fun c1 => ad (by simp [c1])) fun c1 => iteB (fun c2 => ?_) fun c2 => no ?_
            · obtain ⟨u0, e1, at0⟩ := at_any (xs := ws) (c := 0) (by decide) (by omega)
              obtain ⟨l0, e2, hu0⟩ := hks.get e1
              have e2 : ks[0]? = some l0 := e2
              refine ⟨_, _, SqL.of (s3' _ _ hr'), at0, ?_⟩
              have ul := RowOk.one (hR.get e2)
              have kl := RowOk.one (k := y) (.inr yk)
              refine eq_any (hu0.same s3' _ _) (hy.same s3' _ _) ul.1 kl.1 ul.2 kl.2 ?_
              walk_at "rd"
              refine iteB (fun c3 => ad ?_) fun c3 => no ?_
              · subst c2
                simp [e2, c3]
              · subst c2
                simp [e2, c3]
            · have c3 : c = -2 := by omega
              simp [c3]
          · rintro σ H' ⟨v6, v9, es, rfl, sm, bt, hE, hel, hge, hin⟩
            rw [List.length_map] at hin
            have pr := probe_range y.stamp ((paperN cs ks j y - 1 : Nat) : Int) hj
            have hin := hin (by omega)
            have e0 : 0 < es.length := List.length_pos_of_mem hin
            have hf9 := bt _ _ hf8 (by simpa using np8)
            obtain ⟨x, hx⟩ : ∃ x, xs[xs.length - 1]? = some x := ⟨_, List.getElem?_eq_getElem (by omega)⟩
            obtain ⟨-, q, rfl, hq⟩ := itm8 _ _ hx
            have nq : q ≠ p8 := ne_of hq hq8 (by intro z; cases z)
            have hq9 := bt _ _ hq (by simpa using nq)
            rw [hxl] at hq9
            walk_at "rd"
            refine ⟨_, .inl (SqL.of hf9), es, SqL.of hE, e0, fun m1 h1 h2 => ?_⟩
            have em : m1 = ((paperN cs ks j y - 1 : Nat) : Int) := by
              have := hge m1 h1
              have := h2 _ hin
              omega
            refine iteP (by omega) ⟨_, .inl (SqL.of (sm _ _ ha)), _, _, SqL.of hf9, atI_last hx, ?_⟩
            walk_at "rd"
            refine ⟨_, _, SqT.of hq9, rfl, ?_⟩
            walk_at "rd"
            rw [List.length_map, hl, pc]
            refine ⟨_, _, j, rfl, ⟨hj, pr.1, pr.2⟩, fun n' g1 g2 => ⟨es, SqL.of hE, e0, fun m2 h3 h4 => ?_⟩⟩
            have e9 : n' = paperN cs ks j y - 1 := probe_inj hj g1 (by omega) g2
            have em2 : m2 = ((paperN cs ks j y - 1 : Nat) : Int) := by
              have := hge m2 h3
              have := h4 _ hin
              omega
            rw [em2, e9]
            walk_at "rd"
            exact k _ sm

end Law
namespace Law
open PySem PySem.Spec PyProof.Rows L2 My
theorem sc_law : FnScope ["_law_script", "_law_size", "_law_xs", "_law_row", "_law_cells", "_law_k", "_law_other"] ["_law_script"] (defScope s_law) := ⟨rfl, rfl, rfl, by decide +kernel, rfl, by decide +kernel, by decide +kernel⟩
theorem ok_law {P : Program} {w : World} {K : PySem.W.Frag} {mg : Str → Option Value} {base : Heap} {A : Ad} (T : Txt K mg A) : FnOk P w K mg base CX0 7 A.a_law A.d_law ["_law_script"] (spLaw K) := by
  refine T.F_law.ok sc_law (fun vs H Q E h => ?_) (fun cdv A' outer s H vs Q E hr h => ?_)
  · walk_at "spl"
  · have nd := sc_law.nd
    have hu := hu_of hr
    refine ⟨_, (pss_cons (ps_set (i := 1) nd rfl (Or.inl rfl) (pe_op op_shl pe_int (pe_op op_mod (pe_call (ok_law_cell_at T) (hr.mono (by decide)) rfl T.m_law_cell_at T.F_law_cell_at.kp T.b_law_cell_at .nil pass0 (pa_cons (pv 0) (pa_cons pe_int pa_nil))) pe_int))) (pss_cons (ps_set (i := 2) nd rfl (Or.inl rfl) (pe_call (ok_law_stream T) (hr.mono (by decide)) rfl T.m_law_stream T.F_law_stream.kp T.b_law_stream .nil pass0 (pa_cons (pv 0) (pa_cons pe_int pa_nil)))) (pss_cons (ps_set (i := 3) nd rfl (Or.inl rfl) (pe_lst (pa_cons (pe_call (ok_law_any_key T) (hr.mono (by decide)) rfl T.m_law_any_key T.F_law_any_key.kp T.b_law_any_key .nil pass0 (pa_cons (pe_op op_mod (pe_call (ok_law_cell_at T) (hr.mono (by decide)) rfl T.m_law_cell_at T.F_law_cell_at.kp T.b_law_cell_at .nil pass0 (pa_cons (pv 0) (pa_cons pe_int pa_nil))) (pe_op op_pow pe_int pe_int)) pa_nil)) pa_nil))) (pss_cons (ps_set (i := 4) nd rfl (Or.inl rfl) (pe_op op_rep (pe_lst (pa_cons (pe_un un_neg pe_int) pa_nil)) (pv 1))) (pss_cons (ps_if (pt_cmpR op_eq (pe_op op_mod (pe_op op_fdivW (pe_ix ix_list (pv 2) pe_int (fun _ _ => rfl)) pe_int) pe_int) pe_int (nomark _)) (pss_one (ps_asg pe_int (pg_sub (pv 4) (pe_op op_mod (pe_call (ok_law_cell_at T) (hr.mono (by decide)) rfl T.m_law_cell_at T.F_law_cell_at.kp T.b_law_cell_at .nil pass0 (pa_cons (pv 0) (pa_cons pe_int pa_nil))) (pv 1)) set_list))) pss_nil) (pss_cons (ps_for PassesOwn.never rfl (pi_range1 rfl T.n_range (pa_cons (pe_op op_add pe_int (pe_op op_mod (pe_ix ix_list (pv 2) pe_int (fun _ _ => rfl)) pe_int)) pa_nil)) (pg_name (i := 5) nd rfl (Or.inl rfl)) (pss_one (ps_asg (pe_un un_neg pe_int) (pg_sub (pv 4) (pe_op op_mod (pe_op op_fdivW (pe_ix ix_list (pv 2) (pe_op op_add pe_int (pv 5)) (fun _ _ => rfl)) pe_int) (pv 1)) set_list)))) (pss_cons (ps_set (i := 6) nd rfl (Or.inl rfl) (pe_call (ok_law_any_key T) (hr.mono (by decide)) rfl T.m_law_any_key T.F_law_any_key.kp T.b_law_any_key .nil pass0 (pa_cons (pe_ix ix_list (pv 2) pe_int (fun _ _ => rfl)) pa_nil))) (pss_cons (ps_if (pt_cmpR op_eq (pe_op op_mod (pe_op op_fdivW (pe_ix ix_list (pv 2) pe_int (fun _ _ => rfl)) pe_int) pe_int) pe_int (nomark _)) (pss_one (ps_set (i := 6) nd rfl (Or.inl rfl) (pe_op op_add (pe_call (ok_law_stamp T 3) (hr.mono (by decide)) rfl T.m_law_stamp T.F_law_stamp.kp T.b_law_stamp .nil pass0 (pa_cons (pe_ix ix_list (pv 3) pe_int (fun _ _ => rfl)) pa_nil)) (pe_op op_mulX pe_int (pe_op op_mod (pe_ix ix_list (pv 2) pe_int (fun _ _ => rfl)) pe_int))))) pss_nil) (pss_one (ps_ret (pe_and (pe_call (ok_law_ends T) (hr.mono (by decide)) rfl T.m_law_ends T.F_law_ends.kp T.b_law_ends .nil pass0 (pa_cons (pv 4) (pa_cons (pv 3) (pa_cons (pe_ix ix_list (pv 3) pe_int (fun _ _ => rfl)) pa_nil)))) (pe_one (pe_call (ok_law_ends T) (hr.mono (by decide)) rfl T.m_law_ends T.F_law_ends.kp T.b_law_ends .nil pass0 (pa_cons (pv 4) (pa_cons (pv 3) (pa_cons (pv 6) pa_nil)))))))))))))))), ?_⟩
    clear nd
    obtain ⟨a, ns, rfl, hS, hl, k⟩ := h
    walk_at "rd"
    refine ⟨ns, hS, by walk_at "side", ?_⟩
    have g0 : 0 ≤ getI ns 0 % 7 := Int.emod_nonneg _ (by decide)
    have g1 : getI ns 0 % 7 < 7 := Int.emod_lt_of_pos _ (by decide)
    rw [pow8]
    generalize ej : (getI ns 0 % 7).toNat + 3 = j
    have hj3 : 3 ≤ j := by omega
    have hj9 : j ≤ 9 := by omega
    have hj : j ≤ 12 := by omega
    obtain ⟨z0, z1⟩ := pow_le hj9
    simp only [Int.reducePow] at z1
    have pc := pow_cast j
    refine ⟨a, ns, 10, rfl, hS, ⟨by omega, by decide, by decide⟩, fun r H0 xs s0 f0 h0 hxl hxb => ?_⟩
    have hxl : xs.length = 10 := hxl
    have n0 : 0 ≤ getI ns 1 % 1000000000000000 := Int.emod_nonneg _ (by decide)
    have n1 : getI ns 1 % 1000000000000000 < 1000000000000000 := Int.emod_lt_of_pos _ (by decide)
    refine ⟨ns, s0.seq hS, by walk_at "side", _, rfl, ⟨n0, by omega⟩, fun H1 v0 y0 s1 hv0 k0 => ⟨by walk_at "sz", fun p hp => ⟨by walk_at "sz", fun q hq => ⟨_, upd_same, by omega, by omega, ?_, fun c4 hc4 => ?_⟩⟩⟩⟩
    · rw [sizeLine_eq]; simp only [List.length_cons, List.length_nil]; omega
    have e0 : (List.replicate (2 ^ j : Int).toNat [V.int (-2)]).flatten = (List.replicate (2 ^ j) (-2 : Int)).map V.int := by
      rw [← pc, Int.toNat_natCast, List.map_replicate]
      generalize 2 ^ j = n
      induction n with
      | zero => rfl
      | succ n ih => rw [List.replicate_succ, List.flatten_cons, ih]; rfl
    rw [e0]
    have s14 : Same H1 (upd (upd (upd H1 p (.lst [v0])) q (.lst [V.int (-2)])) c4 (.lst ((List.replicate (2 ^ j) (-2 : Int)).map V.int))) := by walk_at "same"
    have hp4 : upd (upd (upd H1 p (.lst [v0])) q (.lst [V.int (-2)])) c4 (.lst ((List.replicate (2 ^ j) (-2 : Int)).map V.int)) p = some (.lst [v0]) := by walk_at "hp"
    have hc0 : upd (upd (upd H1 p (.lst [v0])) q (.lst [V.int (-2)])) c4 (.lst ((List.replicate (2 ^ j) (-2 : Int)).map V.int)) c4 = some (.lst ((List.replicate (2 ^ j) (-2 : Int)).map V.int)) := upd_same
    have h01 := s1 _ _ h0
    have ncp : c4 ≠ p := Ne.symm (hc4.ne (by walk_at "hp"))
    have ncr : c4 ≠ r := Ne.symm (hc4.ne (show upd (upd H1 p (.lst [v0])) q (.lst [V.int (-2)]) r = _ by rw [upd_ne (hq.ne (show upd H1 p (.lst [v0]) r = _ by rw [upd_ne (hp.ne h01)]; exact h01)), upd_ne (hp.ne h01)]; exact h01))
    have fc4 : Fresh H1 c4 := Same_fresh (Same_upd (Same_upd (Same.refl _) hp) hq) hc4
    have hr4 := s14 _ _ h01
    have hv4 := hv0.same s14 _ _
    have hS4 := ((s0.trans s1).trans s14).seq hS
    clear hp hq hc4
    generalize upd (upd (upd H1 p (.lst [v0])) q (.lst [V.int (-2)])) c4 (.lst ((List.replicate (2 ^ j) (-2 : Int)).map V.int)) = H4 at s14 hp4 hc0 hr4 hv4 hS4 ⊢
    have hl0 : (List.replicate (2 ^ j) (-2 : Int)).length = 2 ^ j := List.length_replicate
    have hcs0 : ∀ c ∈ List.replicate (2 ^ j) (-2 : Int), c = -1 ∨ c = -2 ∨ c = 0 := fun c hc => .inr (.inl (List.mem_replicate.mp hc).2)
    generalize List.replicate (2 ^ j) (-2 : Int) = cs0 at hc0 hl0 hcs0 ⊢
    walk_at "rd"
    refine ⟨_, _, SqL.of hr4, at_int (xs := xs) (by decide) (by omega), ?_⟩
    walk_at "rd"
    refine ⟨by walk_at "side", iteB (fun _ => ?_) fun _ => ?_⟩
    · have u0 : 0 ≤ getI ns 2 % 2 ^ j := Int.emod_nonneg _ (by omega)
      have u1 : getI ns 2 % 2 ^ j < 2 ^ j := Int.emod_lt_of_pos _ z0
      refine ⟨ns, hS4, z0, _, _, hc0, ixN_nat u0 (by rw [List.length_map]; omega), ?_⟩
      rw [← List.map_set]
      have up : ∀ o bb w, bb ≠ c4 → H4 bb = some w → upd H4 c4 o bb = some w := fun o bb w hb e => by rw [upd_ne hb]; exact e
      have hr4 := up (.lst ((cs0.set (getI ns 2 % 2 ^ j).toNat 0).map V.int)) _ _ ncr.symm hr4
      have hp4 := up (.lst ((cs0.set (getI ns 2 % 2 ^ j).toNat 0).map V.int)) _ _ ncp.symm hp4
      have hv4 := hv4.but (up (.lst ((cs0.set (getI ns 2 % 2 ^ j).toNat 0).map V.int))) hc0 _ _ k0.g
      have hc4 : upd H4 c4 (.lst ((cs0.set (getI ns 2 % 2 ^ j).toNat 0).map V.int)) c4 = some (.lst ((cs0.set (getI ns 2 % 2 ^ j).toNat 0).map V.int)) := upd_same
      have s14 : Same H1 (upd H4 c4 (.lst ((cs0.set (getI ns 2 % 2 ^ j).toNat 0).map V.int))) := Same_upd0 s14 fc4
      have hl0 : (cs0.set (getI ns 2 % 2 ^ j).toNat 0).length = 2 ^ j := by rw [List.length_set]; exact hl0
      have hcs0 : ∀ c ∈ cs0.set (getI ns 2 % 2 ^ j).toNat 0, c = -1 ∨ c = -2 ∨ c = 0 := fun c hc => by
        rcases List.mem_or_eq_of_mem_set hc with hc | hc
        · exact hcs0 c hc
        · exact .inr (.inr hc)
      generalize upd H4 c4 (.lst ((cs0.set (getI ns 2 % 2 ^ j).toNat 0).map V.int)) = H4 at *
      generalize cs0.set (getI ns 2 % 2 ^ j).toNat 0 = cs0 at *
      have x1 := Int.emod_nonneg (getI xs 1) (show (3 : Int) ≠ 0 by decide)
      have x2 := Int.emod_lt_of_pos (getI xs 1) (show (0 : Int) < 3 by decide)
      refine ⟨_, _, SqL.of hr4, at_int (xs := xs) (by decide) (by omega), ?_⟩
      walk_at "rd"
      refine ⟨by omega, ?_⟩
      generalize getI xs 1 % 3 = e at x1 x2 ⊢
      refine go_range (fun i σ H' => ∃ (v5 : Option V) (cs : List Int), σ = [some (.ref a), some (.int (2 ^ j)), some (.ref r), some (.ref p), some (.ref c4), v5, none] ∧ Same H1 H' ∧ H' r = some (.lst (xs.map V.int)) ∧ H' p = some (.lst [v0]) ∧ KyAt H' v0 y0 ∧ H' c4 = some (.lst (cs.map V.int)) ∧ cs.length = 2 ^ j ∧ (∀ c ∈ cs, c = -1 ∨ c = -2 ∨ c = 0) ∧ (0 < i → (-1) ∈ cs))
        ⟨_, cs0, rfl, s14, hr4, hp4, hv4, hc4, hl0, hcs0, fun h => by omega⟩ ?_ ?_
      · rintro N i σ H' hi ⟨v5, cs, rfl, sm, hr, hp, hv, hc, hcl, hcs, hmm⟩ hN
        walk_at "rd"
        refine ⟨_, _, SqL.of hr, at_int (xs := xs) (by omega) (by omega), ?_⟩
        walk_at "rd"
        have u0 : 0 ≤ getI xs (2 + (i : Int)) / 1024 % 2 ^ j := Int.emod_nonneg _ (by omega)
        have u1 : getI xs (2 + (i : Int)) / 1024 % 2 ^ j < 2 ^ j := Int.emod_lt_of_pos _ z0
        generalize getI xs (2 + (i : Int)) / 1024 % 2 ^ j = u at u0 u1 ⊢
        have up : ∀ o bb w, bb ≠ c4 → H' bb = some w → upd H' c4 o bb = some w := fun o bb w hb e => by rw [upd_ne hb]; exact e
        refine ⟨by walk_at "side", z0, _, _, hc, ixN_nat u0 (by rw [List.length_map]; omega), hN _ _ ⟨_, cs.set u.toNat (-1), rfl, Same_upd0 sm fc4, up _ _ _ ncr.symm hr, up _ _ _ ncp.symm hp, hv.but (up _) hc _ _ k0.g, by rw [upd_same, List.map_set], by rw [List.length_set]; exact hcl, fun c hcm => ?_, fun _ => List.mem_set (by omega) _⟩⟩
        rcases List.mem_or_eq_of_mem_set hcm with hcm | hcm
        · exact hcs c hcm
        · exact .inl hcm
      · rintro σ H' ⟨v5, cs, rfl, sm, hr, hp, hv, hc, hcl, hcs, hmm⟩
        have hmem := hmm (by omega)
        have hcok : CellsOk cs 1 := fun s h0 h1 => by
          rcases hcs _ (getI_in h0 h1) with q | q | q
          · exact .inl q
          · exact .inr (.inl q)
          · exact .inr (.inr ⟨by omega, by omega⟩)
        walk_at "rd"
        refine ⟨_, _, SqL.of hr, at_int (xs := xs) (by decide) (by omega), ?_⟩
        have xb6 := hxb _ (getI_in (ps := xs) (c := 6) (by decide) (by omega))
        refine ⟨_, rfl, ⟨xb6.1, by omega⟩, fun H9 v6 y6 s9 hv6 k6 => ?_⟩
        walk_at "rd"
        have hr9 := s9 _ _ hr
        have hp9 := s9 _ _ hp
        have hC9 := s9 _ _ hc
        have hv9 := hv.same s9 _ _
        refine ⟨_, _, SqL.of hr9, at_int (xs := xs) (by decide) (by omega), ?_⟩
        walk_at "rd"
        refine ⟨by walk_at "side", iteB (fun _ => ?_) fun _ => ?_⟩
        · refine ⟨_, _, SqL.of hp9, rfl, ?_⟩
          refine ⟨y0, hv9, ⟨k0.g, k0.d⟩, ?_⟩
          walk_at "rd"
          refine ⟨_, _, SqL.of hr9, at_int (xs := xs) (by decide) (by omega), ?_⟩
          walk_at "rd"
          have hsr := stamp_range y0
          have w0 : 0 ≤ getI xs 8 % 9 := Int.emod_nonneg _ (by decide)
          have w1 : getI xs 8 % 9 < 9 := Int.emod_lt_of_pos _ (by decide)
          refine ⟨mulL (by decide) (by decide), _, _, SqL.of hp9, rfl, ?_⟩
          have hok : RowOk [y0] := fun z hz => by
            rcases List.mem_cons.mp hz with rfl | hz
            · exact .inr k0
            · cases hz
          refine ⟨c4, p, _, cs, [v0], [y0], y0, j, rfl, hC9, hp9, .cons hv9 .nil, hok, rfl, hv9, k0, ⟨hcl, hj3, by omega⟩, hcok, hmem, fun H10 s10 => ?_⟩
          walk_at "rd"
          exact ⟨c4, p, _, cs, [v0], [y0], _, j, rfl, s10 _ _ hC9, s10 _ _ hp9, .cons (hv9.same s10 _ _) .nil, hok, rfl, .num _, .num (by omega), ⟨hcl, hj3, by omega⟩, hcok, hmem, fun H11 s11 => k _⟩
        · refine ⟨_, _, SqL.of hp9, rfl, ?_⟩
          have hok : RowOk [y0] := fun z hz => by
            rcases List.mem_cons.mp hz with rfl | hz
            · exact .inr k0
            · cases hz
          refine ⟨c4, p, _, cs, [v0], [y0], y0, j, rfl, hC9, hp9, .cons hv9 .nil, hok, rfl, hv9, k0, ⟨hcl, hj3, by omega⟩, hcok, hmem, fun H10 s10 => ?_⟩
          walk_at "rd"
          exact ⟨c4, p, _, cs, [v0], [y0], _, j, rfl, s10 _ _ hC9, s10 _ _ hp9, .cons (hv9.same s10 _ _) .nil, hok, rfl, hv6.same s10 _ _, k6, ⟨hcl, hj3, by omega⟩, hcok, hmem, fun H11 s11 => k _⟩
    · have hc4 := hc0
      have x1 := Int.emod_nonneg (getI xs 1) (show (3 : Int) ≠ 0 by decide)
      have x2 := Int.emod_lt_of_pos (getI xs 1) (show (0 : Int) < 3 by decide)
      refine ⟨_, _, SqL.of hr4, at_int (xs := xs) (by decide) (by omega), ?_⟩
      walk_at "rd"
      refine ⟨by omega, ?_⟩
      generalize getI xs 1 % 3 = e at x1 x2 ⊢
      refine go_range (fun i σ H' => ∃ (v5 : Option V) (cs : List Int), σ = [some (.ref a), some (.int (2 ^ j)), some (.ref r), some (.ref p), some (.ref c4), v5, none] ∧ Same H1 H' ∧ H' r = some (.lst (xs.map V.int)) ∧ H' p = some (.lst [v0]) ∧ KyAt H' v0 y0 ∧ H' c4 = some (.lst (cs.map V.int)) ∧ cs.length = 2 ^ j ∧ (∀ c ∈ cs, c = -1 ∨ c = -2 ∨ c = 0) ∧ (0 < i → (-1) ∈ cs))
        ⟨_, cs0, rfl, s14, hr4, hp4, hv4, hc4, hl0, hcs0, fun h => by omega⟩ ?_ ?_
      · rintro N i σ H' hi ⟨v5, cs, rfl, sm, hr, hp, hv, hc, hcl, hcs, hmm⟩ hN
        walk_at "rd"
        refine ⟨_, _, SqL.of hr, at_int (xs := xs) (by omega) (by omega), ?_⟩
        walk_at "rd"
        have u0 : 0 ≤ getI xs (2 + (i : Int)) / 1024 % 2 ^ j := Int.emod_nonneg _ (by omega)
        have u1 : getI xs (2 + (i : Int)) / 1024 % 2 ^ j < 2 ^ j := Int.emod_lt_of_pos _ z0
        generalize getI xs (2 + (i : Int)) / 1024 % 2 ^ j = u at u0 u1 ⊢
        have up : ∀ o bb w, bb ≠ c4 → H' bb = some w → upd H' c4 o bb = some w := fun o bb w hb e => by rw [upd_ne hb]; exact e
        refine ⟨by walk_at "side", z0, _, _, hc, ixN_nat u0 (by rw [List.length_map]; omega), hN _ _ ⟨_, cs.set u.toNat (-1), rfl, Same_upd0 sm fc4, up _ _ _ ncr.symm hr, up _ _ _ ncp.symm hp, hv.but (up _) hc _ _ k0.g, by rw [upd_same, List.map_set], by rw [List.length_set]; exact hcl, fun c hcm => ?_, fun _ => List.mem_set (by omega) _⟩⟩
        rcases List.mem_or_eq_of_mem_set hcm with hcm | hcm
        · exact hcs c hcm
        · exact .inl hcm
      · rintro σ H' ⟨v5, cs, rfl, sm, hr, hp, hv, hc, hcl, hcs, hmm⟩
        have hmem := hmm (by omega)
        have hcok : CellsOk cs 1 := fun s h0 h1 => by
          rcases hcs _ (getI_in h0 h1) with q | q | q
          · exact .inl q
          · exact .inr (.inl q)
          · exact .inr (.inr ⟨by omega, by omega⟩)
        walk_at "rd"
        refine ⟨_, _, SqL.of hr, at_int (xs := xs) (by decide) (by omega), ?_⟩
        have xb6 := hxb _ (getI_in (ps := xs) (c := 6) (by decide) (by omega))
        refine ⟨_, rfl, ⟨xb6.1, by omega⟩, fun H9 v6 y6 s9 hv6 k6 => ?_⟩
        walk_at "rd"
        have hr9 := s9 _ _ hr
        have hp9 := s9 _ _ hp
        have hC9 := s9 _ _ hc
        have hv9 := hv.same s9 _ _
        refine ⟨_, _, SqL.of hr9, at_int (xs := xs) (by decide) (by omega), ?_⟩
        walk_at "rd"
        refine ⟨by walk_at "side", iteB (fun _ => ?_) fun _ => ?_⟩
        · refine ⟨_, _, SqL.of hp9, rfl, ?_⟩
          refine ⟨y0, hv9, ⟨k0.g, k0.d⟩, ?_⟩
          walk_at "rd"
          refine ⟨_, _, SqL.of hr9, at_int (xs := xs) (by decide) (by omega), ?_⟩
          walk_at "rd"
          have hsr := stamp_range y0
          have w0 : 0 ≤ getI xs 8 % 9 := Int.emod_nonneg _ (by decide)
          have w1 : getI xs 8 % 9 < 9 := Int.emod_lt_of_pos _ (by decide)
          refine ⟨mulL (by decide) (by decide), _, _, SqL.of hp9, rfl, ?_⟩
          have hok : RowOk [y0] := fun z hz => by
            rcases List.mem_cons.mp hz with rfl | hz
            · exact .inr k0
            · cases hz
          refine ⟨c4, p, _, cs, [v0], [y0], y0, j, rfl, hC9, hp9, .cons hv9 .nil, hok, rfl, hv9, k0, ⟨hcl, hj3, by omega⟩, hcok, hmem, fun H10 s10 => ?_⟩
          walk_at "rd"
          exact ⟨c4, p, _, cs, [v0], [y0], _, j, rfl, s10 _ _ hC9, s10 _ _ hp9, .cons (hv9.same s10 _ _) .nil, hok, rfl, .num _, .num (by omega), ⟨hcl, hj3, by omega⟩, hcok, hmem, fun H11 s11 => k _⟩
        · refine ⟨_, _, SqL.of hp9, rfl, ?_⟩
          have hok : RowOk [y0] := fun z hz => by
            rcases List.mem_cons.mp hz with rfl | hz
            · exact .inr k0
            · cases hz
          refine ⟨c4, p, _, cs, [v0], [y0], y0, j, rfl, hC9, hp9, .cons hv9 .nil, hok, rfl, hv9, k0, ⟨hcl, hj3, by omega⟩, hcok, hmem, fun H10 s10 => ?_⟩
          walk_at "rd"
          exact ⟨c4, p, _, cs, [v0], [y0], _, j, rfl, s10 _ _ hC9, s10 _ _ hp9, .cons (hv9.same s10 _ _) .nil, hok, rfl, hv6.same s10 _ _, k6, ⟨hcl, hj3, by omega⟩, hcok, hmem, fun H11 s11 => k _⟩


end Law
namespace Law
open PySem PySem.Spec PyProof.Rows L2 My
theorem all_mk {l : PySem.W.OpenLaw} {w : World} {K : PySem.W.Frag} {h : Heap} {mg : Str → Option Value} {fa : Addr} (X : K.In h) (G : h.Ns mainGlobals mg) (hfa : mg "law" = some (.ref fa))
    {od0 an0 : Option Addr} {sl0 : Array (Option Value)} {oc0 kV0 dc0 pm0 cd0 ct0 : Value} {f0 : Addr}
    {od1 an1 : Option Addr} {sl1 : Array (Option Value)} {oc1 kV1 dc1 pm1 cd1 ct1 : Value} {f1 : Addr}
    {od2 an2 : Option Addr} {sl2 : Array (Option Value)} {oc2 kV2 dc2 pm2 cd2 ct2 : Value} {f2 : Addr}
    {od3 an3 : Option Addr} {sl3 : Array (Option Value)} {oc3 kV3 dc3 pm3 cd3 ct3 : Value} {f3 : Addr}
    {od4 an4 : Option Addr} {sl4 : Array (Option Value)} {oc4 kV4 dc4 pm4 cd4 ct4 : Value} {f4 : Addr}
    {od5 an5 : Option Addr} {sl5 : Array (Option Value)} {oc5 kV5 dc5 pm5 cd5 ct5 : Value} {f5 : Addr}
    {od6 an6 : Option Addr} {sl6 : Array (Option Value)} {oc6 kV6 dc6 pm6 cd6 ct6 : Value} {f6 : Addr}
    {od7 an7 : Option Addr} {sl7 : Array (Option Value)} {oc7 kV7 dc7 pm7 cd7 ct7 : Value} {f7 : Addr}
    {od8 an8 : Option Addr} {sl8 : Array (Option Value)} {oc8 kV8 dc8 pm8 cd8 ct8 : Value} {f8 : Addr}
    {od9 an9 : Option Addr} {sl9 : Array (Option Value)} {oc9 kV9 dc9 pm9 cd9 ct9 : Value} {f9 : Addr}
    {od10 an10 : Option Addr} {sl10 : Array (Option Value)} {oc10 kV10 dc10 pm10 cd10 ct10 : Value} {f10 : Addr}
    {od11 an11 : Option Addr} {sl11 : Array (Option Value)} {oc11 kV11 dc11 pm11 cd11 ct11 : Value} {f11 : Addr}
    {od12 an12 : Option Addr} {sl12 : Array (Option Value)} {oc12 kV12 dc12 pm12 cd12 ct12 : Value} {f12 : Addr}
    {od13 an13 : Option Addr} {sl13 : Array (Option Value)} {oc13 kV13 dc13 pm13 cd13 ct13 : Value} {f13 : Addr}
    {od14 an14 : Option Addr} {sl14 : Array (Option Value)} {oc14 kV14 dc14 pm14 cd14 ct14 : Value} {f14 : Addr}
    {od15 an15 : Option Addr} {sl15 : Array (Option Value)} {oc15 kV15 dc15 pm15 cd15 ct15 : Value} {f15 : Addr}
    {tk0 : Tok}
    {tk1 : Tok}
    {tk2 : Tok}
    (a0 : PySem.W.nsIn K mainGlobals "stride" = some (some (.ref f0)))
    (l0 : K.lookup f0 = some ⟨oc0, od0, .func (PySem.W.fnOf "stride" "stride" (defArgs s_stride) (defBody s_stride) (defScope s_stride) .none kV0 dc0 pm0 an0 cd0 ct0), sl0⟩)
    (d0 : PySem.W.codeIn K cd0 "stride" = true)
    (k0 : PySem.W.keepIn K (.ref f0) = true)
    (a1 : PySem.W.nsIn K mainGlobals "probe" = some (some (.ref f1)))
    (l1 : K.lookup f1 = some ⟨oc1, od1, .func (PySem.W.fnOf "probe" "probe" (defArgs s_probe) (defBody s_probe) (defScope s_probe) .none kV1 dc1 pm1 an1 cd1 ct1), sl1⟩)
    (d1 : PySem.W.codeIn K cd1 "probe" = true)
    (k1 : PySem.W.keepIn K (.ref f1) = true)
    (a2 : PySem.W.nsIn K mainGlobals "stamp" = some (some (.ref f2)))
    (l2 : K.lookup f2 = some ⟨oc2, od2, .func (PySem.W.fnOf "stamp" "stamp" (defArgs s_stamp) (defBody s_stamp) (defScope s_stamp) .none kV2 dc2 pm2 an2 cd2 ct2), sl2⟩)
    (d2 : PySem.W.codeIn K cd2 "stamp" = true)
    (k2 : PySem.W.keepIn K (.ref f2) = true)
    (a3 : PySem.W.nsIn K mainGlobals "paper" = some (some (.ref f3)))
    (l3 : K.lookup f3 = some ⟨oc3, od3, .func (PySem.W.fnOf "paper" "paper" (defArgs s_paper) (defBody s_paper) (defScope s_paper) .none kV3 dc3 pm3 an3 cd3 ct3), sl3⟩)
    (d3 : PySem.W.codeIn K cd3 "paper" = true)
    (k3 : PySem.W.keepIn K (.ref f3) = true)
    (a4 : PySem.W.nsIn K mainGlobals "_law_cell_at" = some (some (.ref f4)))
    (l4 : K.lookup f4 = some ⟨oc4, od4, .func (PySem.W.fnOf "_law_cell_at" "_law_cell_at" (defArgs s_law_cell_at) (defBody s_law_cell_at) (defScope s_law_cell_at) .none kV4 dc4 pm4 an4 cd4 ct4), sl4⟩)
    (d4 : PySem.W.codeIn K cd4 "_law_cell_at" = true)
    (k4 : PySem.W.keepIn K (.ref f4) = true)
    (a5 : PySem.W.nsIn K mainGlobals "_law_whole" = some (some (.ref f5)))
    (l5 : K.lookup f5 = some ⟨oc5, od5, .func (PySem.W.fnOf "_law_whole" "_law_whole" (defArgs s_law_whole) (defBody s_law_whole) (defScope s_law_whole) .none kV5 dc5 pm5 an5 cd5 ct5), sl5⟩)
    (d5 : PySem.W.codeIn K cd5 "_law_whole" = true)
    (k5 : PySem.W.keepIn K (.ref f5) = true)
    (a6 : PySem.W.nsIn K mainGlobals "_law_stream" = some (some (.ref f6)))
    (l6 : K.lookup f6 = some ⟨oc6, od6, .func (PySem.W.fnOf "_law_stream" "_law_stream" (defArgs s_law_stream) (defBody s_law_stream) (defScope s_law_stream) .none kV6 dc6 pm6 an6 cd6 ct6), sl6⟩)
    (d6 : PySem.W.codeIn K cd6 "_law_stream" = true)
    (k6 : PySem.W.keepIn K (.ref f6) = true)
    (a7 : PySem.W.nsIn K mainGlobals "_law_text" = some (some (.ref f7)))
    (l7 : K.lookup f7 = some ⟨oc7, od7, .func (PySem.W.fnOf "_law_text" "_law_text" (defArgs s_law_text) (defBody s_law_text) (defScope s_law_text) .none kV7 dc7 pm7 an7 cd7 ct7), sl7⟩)
    (d7 : PySem.W.codeIn K cd7 "_law_text" = true)
    (k7 : PySem.W.keepIn K (.ref f7) = true)
    (a8 : PySem.W.nsIn K mainGlobals "_law_stamp" = some (some (.ref f8)))
    (l8 : K.lookup f8 = some ⟨oc8, od8, .func (PySem.W.fnOf "_law_stamp" "_law_stamp" (defArgs s_law_stamp) (defBody s_law_stamp) (defScope s_law_stamp) .none kV8 dc8 pm8 an8 cd8 ct8), sl8⟩)
    (d8 : PySem.W.codeIn K cd8 "_law_stamp" = true)
    (k8 : PySem.W.keepIn K (.ref f8) = true)
    (a9 : PySem.W.nsIn K mainGlobals "_law_step" = some (some (.ref f9)))
    (l9 : K.lookup f9 = some ⟨oc9, od9, .func (PySem.W.fnOf "_law_step" "_law_step" (defArgs s_law_step) (defBody s_law_step) (defScope s_law_step) .none kV9 dc9 pm9 an9 cd9 ct9), sl9⟩)
    (d9 : PySem.W.codeIn K cd9 "_law_step" = true)
    (k9 : PySem.W.keepIn K (.ref f9) = true)
    (a10 : PySem.W.nsIn K mainGlobals "_law_leaf" = some (some (.ref f10)))
    (l10 : K.lookup f10 = some ⟨oc10, od10, .func (PySem.W.fnOf "_law_leaf" "_law_leaf" (defArgs s_law_leaf) (defBody s_law_leaf) (defScope s_law_leaf) .none kV10 dc10 pm10 an10 cd10 ct10), sl10⟩)
    (d10 : PySem.W.codeIn K cd10 "_law_leaf" = true)
    (k10 : PySem.W.keepIn K (.ref f10) = true)
    (a11 : PySem.W.nsIn K mainGlobals "_law_any_key" = some (some (.ref f11)))
    (l11 : K.lookup f11 = some ⟨oc11, od11, .func (PySem.W.fnOf "_law_any_key" "_law_any_key" (defArgs s_law_any_key) (defBody s_law_any_key) (defScope s_law_any_key) .none kV11 dc11 pm11 an11 cd11 ct11), sl11⟩)
    (d11 : PySem.W.codeIn K cd11 "_law_any_key" = true)
    (k11 : PySem.W.keepIn K (.ref f11) = true)
    (a12 : PySem.W.nsIn K mainGlobals "_law_key" = some (some (.ref f12)))
    (l12 : K.lookup f12 = some ⟨oc12, od12, .func (PySem.W.fnOf "_law_key" "_law_key" (defArgs s_law_key) (defBody s_law_key) (defScope s_law_key) .none kV12 dc12 pm12 an12 cd12 ct12), sl12⟩)
    (d12 : PySem.W.codeIn K cd12 "_law_key" = true)
    (k12 : PySem.W.keepIn K (.ref f12) = true)
    (a13 : PySem.W.nsIn K mainGlobals "_law_count" = some (some (.ref f13)))
    (l13 : K.lookup f13 = some ⟨oc13, od13, .func (PySem.W.fnOf "_law_count" "_law_count" (defArgs s_law_count) (defBody s_law_count) (defScope s_law_count) .none kV13 dc13 pm13 an13 cd13 ct13), sl13⟩)
    (d13 : PySem.W.codeIn K cd13 "_law_count" = true)
    (k13 : PySem.W.keepIn K (.ref f13) = true)
    (a14 : PySem.W.nsIn K mainGlobals "_law_ends" = some (some (.ref f14)))
    (l14 : K.lookup f14 = some ⟨oc14, od14, .func (PySem.W.fnOf "_law_ends" "_law_ends" (defArgs s_law_ends) (defBody s_law_ends) (defScope s_law_ends) .none kV14 dc14 pm14 an14 cd14 ct14), sl14⟩)
    (d14 : PySem.W.codeIn K cd14 "_law_ends" = true)
    (k14 : PySem.W.keepIn K (.ref f14) = true)
    (a15 : PySem.W.nsIn K mainGlobals "law" = some (some (.ref f15)))
    (l15 : K.lookup f15 = some ⟨oc15, od15, .func (PySem.W.fnOf "law" "law" (defArgs s_law) (defBody s_law) (defScope s_law) .none kV15 dc15 pm15 an15 cd15 ct15), sl15⟩)
    (d15 : PySem.W.codeIn K cd15 "law" = true)
    (k15 : PySem.W.keepIn K (.ref f15) = true)
    (gl0 : PySem.W.nsIn K mainGlobals "TURN" = some (some (.int 2147483647 tk0)))
    (gl1 : PySem.W.nsIn K mainGlobals "EMPTY" = some (some (.int (-1) tk1)))
    (gl2 : PySem.W.nsIn K mainGlobals "GONE" = some (some (.int (-2) tk2)))
    (n_bool : PySem.W.nsIn K mainGlobals "bool" = some none)
    (n_enumerate : PySem.W.nsIn K mainGlobals "enumerate" = some none)
    (n_int : PySem.W.nsIn K mainGlobals "int" = some none)
    (n_isinstance : PySem.W.nsIn K mainGlobals "isinstance" = some none)
    (n_len : PySem.W.nsIn K mainGlobals "len" = some none)
    (n_list : PySem.W.nsIn K mainGlobals "list" = some none)
    (n_min : PySem.W.nsIn K mainGlobals "min" = some none)
    (n_ord : PySem.W.nsIn K mainGlobals "ord" = some none)
    (n_range : PySem.W.nsIn K mainGlobals "range" = some none)
    (n_set : PySem.W.nsIn K mainGlobals "set" = some none)
    (n_str : PySem.W.nsIn K mainGlobals "str" = some none)
    (n_tuple : PySem.W.nsIn K mainGlobals "tuple" = some none) :
    ∃ fd : FuncData, (∀ (s : Shared) (v : Value), BindsTo s fd ⟨[v], []⟩ [("_law_script", v)]) ∧ ∀ base : Heap, K.In base → base.Ns mainGlobals mg → FnOk l.prog w K mg base CX0 7 fa fd ["_law_script"] (spLaw K) := by
  have e := hfa.symm.trans (PySem.W.mg_of X G a15)
  cases e
  have T : Txt K mg ⟨f0, PySem.W.fnOf "stride" "stride" (defArgs s_stride) (defBody s_stride) (defScope s_stride) .none kV0 dc0 pm0 an0 cd0 ct0, f1, PySem.W.fnOf "probe" "probe" (defArgs s_probe) (defBody s_probe) (defScope s_probe) .none kV1 dc1 pm1 an1 cd1 ct1, f2, PySem.W.fnOf "stamp" "stamp" (defArgs s_stamp) (defBody s_stamp) (defScope s_stamp) .none kV2 dc2 pm2 an2 cd2 ct2, f3, PySem.W.fnOf "paper" "paper" (defArgs s_paper) (defBody s_paper) (defScope s_paper) .none kV3 dc3 pm3 an3 cd3 ct3, f4, PySem.W.fnOf "_law_cell_at" "_law_cell_at" (defArgs s_law_cell_at) (defBody s_law_cell_at) (defScope s_law_cell_at) .none kV4 dc4 pm4 an4 cd4 ct4, f5, PySem.W.fnOf "_law_whole" "_law_whole" (defArgs s_law_whole) (defBody s_law_whole) (defScope s_law_whole) .none kV5 dc5 pm5 an5 cd5 ct5, f6, PySem.W.fnOf "_law_stream" "_law_stream" (defArgs s_law_stream) (defBody s_law_stream) (defScope s_law_stream) .none kV6 dc6 pm6 an6 cd6 ct6, f7, PySem.W.fnOf "_law_text" "_law_text" (defArgs s_law_text) (defBody s_law_text) (defScope s_law_text) .none kV7 dc7 pm7 an7 cd7 ct7, f8, PySem.W.fnOf "_law_stamp" "_law_stamp" (defArgs s_law_stamp) (defBody s_law_stamp) (defScope s_law_stamp) .none kV8 dc8 pm8 an8 cd8 ct8, f9, PySem.W.fnOf "_law_step" "_law_step" (defArgs s_law_step) (defBody s_law_step) (defScope s_law_step) .none kV9 dc9 pm9 an9 cd9 ct9, f10, PySem.W.fnOf "_law_leaf" "_law_leaf" (defArgs s_law_leaf) (defBody s_law_leaf) (defScope s_law_leaf) .none kV10 dc10 pm10 an10 cd10 ct10, f11, PySem.W.fnOf "_law_any_key" "_law_any_key" (defArgs s_law_any_key) (defBody s_law_any_key) (defScope s_law_any_key) .none kV11 dc11 pm11 an11 cd11 ct11, f12, PySem.W.fnOf "_law_key" "_law_key" (defArgs s_law_key) (defBody s_law_key) (defScope s_law_key) .none kV12 dc12 pm12 an12 cd12 ct12, f13, PySem.W.fnOf "_law_count" "_law_count" (defArgs s_law_count) (defBody s_law_count) (defScope s_law_count) .none kV13 dc13 pm13 an13 cd13 ct13, f14, PySem.W.fnOf "_law_ends" "_law_ends" (defArgs s_law_ends) (defBody s_law_ends) (defScope s_law_ends) .none kV14 dc14 pm14 an14 cd14 ct14, fa, PySem.W.fnOf "law" "law" (defArgs s_law) (defBody s_law) (defScope s_law) .none kV15 dc15 pm15 an15 cd15 ct15, tk0, tk1, tk2⟩ := ⟨fun_mk (st := s_stride) l0 d0 k0,
    (fun_mk (st := s_stride) l0 d0 k0).binds (ps := ["stamp"]) fun _ _ _ _ _ _ us hl => match us, hl with | [_], _ => rfl,
    PySem.W.mg_of X G a0,
    fun_mk (st := s_probe) l1 d1 k1,
    (fun_mk (st := s_probe) l1 d1 k1).binds (ps := ["stamp", "size", "count"]) fun _ _ _ _ _ _ us hl => match us, hl with | [_, _, _], _ => rfl,
    PySem.W.mg_of X G a1,
    fun_mk (st := s_stamp) l2 d2 k2,
    (fun_mk (st := s_stamp) l2 d2 k2).binds (ps := ["key"]) fun _ _ _ _ _ _ us hl => match us, hl with | [_], _ => rfl,
    PySem.W.mg_of X G a2,
    fun_mk (st := s_paper) l3 d3 k3,
    (fun_mk (st := s_paper) l3 d3 k3).binds (ps := ["cells", "row", "key"]) fun _ _ _ _ _ _ us hl => match us, hl with | [_, _, _], _ => rfl,
    PySem.W.mg_of X G a3,
    fun_mk (st := s_law_cell_at) l4 d4 k4,
    (fun_mk (st := s_law_cell_at) l4 d4 k4).binds (ps := ["_law_script", "_law_k"]) fun _ _ _ _ _ _ us hl => match us, hl with | [_, _], _ => rfl,
    PySem.W.mg_of X G a4,
    fun_mk (st := s_law_whole) l5 d5 k5,
    (fun_mk (st := s_law_whole) l5 d5 k5).binds (ps := ["_law_found"]) fun _ _ _ _ _ _ us hl => match us, hl with | [_], _ => rfl,
    PySem.W.mg_of X G a5,
    fun_mk (st := s_law_stream) l6 d6 k6,
    (fun_mk (st := s_law_stream) l6 d6 k6).binds (ps := ["_law_script", "_law_many"]) fun _ _ _ _ _ _ us hl => match us, hl with | [_, _], _ => rfl,
    PySem.W.mg_of X G a6,
    fun_mk (st := s_law_text) l7 d7 k7,
    (fun_mk (st := s_law_text) l7 d7 k7).binds (ps := ["_law_number", "_law_size"]) fun _ _ _ _ _ _ us hl => match us, hl with | [_, _], _ => rfl,
    PySem.W.mg_of X G a7,
    fun_mk (st := s_law_stamp) l8 d8 k8,
    (fun_mk (st := s_law_stamp) l8 d8 k8).binds (ps := ["_law_key_here"]) fun _ _ _ _ _ _ us hl => match us, hl with | [_], _ => rfl,
    PySem.W.mg_of X G a8,
    fun_mk (st := s_law_step) l9 d9 k9,
    (fun_mk (st := s_law_step) l9 d9 k9).binds (ps := ["_law_mark"]) fun _ _ _ _ _ _ us hl => match us, hl with | [_], _ => rfl,
    PySem.W.mg_of X G a9,
    fun_mk (st := s_law_leaf) l10 d10 k10,
    (fun_mk (st := s_law_leaf) l10 d10 k10).binds (ps := ["_law_number"]) fun _ _ _ _ _ _ us hl => match us, hl with | [_], _ => rfl,
    PySem.W.mg_of X G a10,
    fun_mk (st := s_law_any_key) l11 d11 k11,
    (fun_mk (st := s_law_any_key) l11 d11 k11).binds (ps := ["_law_number"]) fun _ _ _ _ _ _ us hl => match us, hl with | [_], _ => rfl,
    PySem.W.mg_of X G a11,
    fun_mk (st := s_law_key) l12 d12 k12,
    (fun_mk (st := s_law_key) l12 d12 k12).binds (ps := ["_law_way", "_law_base", "_law_j"]) fun _ _ _ _ _ _ us hl => match us, hl with | [_, _, _], _ => rfl,
    PySem.W.mg_of X G a12,
    fun_mk (st := s_law_count) l13 d13 k13,
    (fun_mk (st := s_law_count) l13 d13 k13).binds (ps := ["_law_mark", "_law_size", "_law_slot"]) fun _ _ _ _ _ _ us hl => match us, hl with | [_, _, _], _ => rfl,
    PySem.W.mg_of X G a13,
    fun_mk (st := s_law_ends) l14 d14 k14,
    (fun_mk (st := s_law_ends) l14 d14 k14).binds (ps := ["_law_cells", "_law_row", "_law_key_here"]) fun _ _ _ _ _ _ us hl => match us, hl with | [_, _, _], _ => rfl,
    PySem.W.mg_of X G a14,
    fun_mk (st := s_law) l15 d15 k15,
    (fun_mk (st := s_law) l15 d15 k15).binds (ps := ["_law_script"]) fun _ _ _ _ _ _ us hl => match us, hl with | [_], _ => rfl,
    PySem.W.mg_of X G a15,
    PySem.W.mg_of X G gl0,
    PySem.W.mg_of X G gl1,
    PySem.W.mg_of X G gl2,
    PySem.W.mg_none_of X G n_bool,
    PySem.W.mg_none_of X G n_enumerate,
    PySem.W.mg_none_of X G n_int,
    PySem.W.mg_none_of X G n_isinstance,
    PySem.W.mg_none_of X G n_len,
    PySem.W.mg_none_of X G n_list,
    PySem.W.mg_none_of X G n_min,
    PySem.W.mg_none_of X G n_ord,
    PySem.W.mg_none_of X G n_range,
    PySem.W.mg_none_of X G n_set,
    PySem.W.mg_none_of X G n_str,
    PySem.W.mg_none_of X G n_tuple⟩
  exact ⟨_, fun s v => .of_eq rfl, fun base _ _ => ok_law T⟩
theorem walk {l : PySem.W.OpenLaw} {q : Program} {loose : List Str} {XP : (Str → Option Value) → Heap → Prop} {YP : World → Heap → Prop} {d : DefRec} {K : Params → PySem.W.Frag} (hn : l.most = some 63) (hdf : d.params.defaults = [])
    (hY : ∀ (w : World) (h : Heap), YP w h → (K w.params).In h)
    (F : ∀ (w : World) (mg : Str → Option Value) (fa : Addr) (h : Heap), (K w.params).In h → h.Ns mainGlobals mg → mg d.name = some (.ref fa) →
      ∃ fd : FuncData, (∀ (s : Shared) (u : Value), BindsTo s fd ⟨[u], []⟩ [("_law_script", u)]) ∧ ∀ base : Heap, (K w.params).In base → base.Ns mainGlobals mg → FnOk l.prog w (K w.params) mg base CX0 7 fa fd ["_law_script"] (spLaw (K w.params))) :
    PySem.W.WalkO q loose XP YP l.row.toRowW d [] (fun f vs => PySem.call f vs) :=
  L2.walk_of (n := 63) (k := 7) (x := "_law_script") (CX := fun _ => CX0) (sp := fun w => spLaw (K w.params)) hn (by decide) hdf ⟨rfl, by decide, by decide⟩ hY F (fun _ _ a ns hl _ hS => ⟨a, ns, rfl, hS, hl, fun _ => rfl⟩) fun _ _ _ _ _ z => z

end Law

open PySem PySem.W PyProof.Rows
set_option maxRecDepth 100000 in
set_option maxHeartbeats 0 in
theorem PySem.Challenge.cw_slotbook_k33_whole_no_slot_twice_holds : PySem.Challenge.rw_slotbook_k33_whole_no_slot_twice.Holds := by
  w_on; o_law; k_head; (case hw => w_witness2)
  k_fill
  refine Law.walk (l := PySem.Challenge.rw_slotbook_k33_whole_no_slot_twice) rfl rfl (fun w h Y => PySem.W.kIn_of Y) ?F
  case F =>
    intro w mg fa h KX G hmg
    refine' Law.all_mk KX G hmg ?a0 ?l0 ?d0 ?k0 ?a1 ?l1 ?d1 ?k1 ?a2 ?l2 ?d2 ?k2 ?a3 ?l3 ?d3 ?k3 ?a4 ?l4 ?d4 ?k4 ?a5 ?l5 ?d5 ?k5 ?a6 ?l6 ?d6 ?k6 ?a7 ?l7 ?d7 ?k7 ?a8 ?l8 ?d8 ?k8 ?a9 ?l9 ?d9 ?k9 ?a10 ?l10 ?d10 ?k10 ?a11 ?l11 ?d11 ?k11 ?a12 ?l12 ?d12 ?k12 ?a13 ?l13 ?d13 ?k13 ?a14 ?l14 ?d14 ?k14 ?a15 ?l15 ?d15 ?k15 ?gl0 ?gl1 ?gl2 ?n_bool ?n_enumerate ?n_int ?n_isinstance ?n_len ?n_list ?n_min ?n_ord ?n_range ?n_set ?n_str ?n_tuple
    (case a0 => k_is)
    (case l0 => k_is)
    (case d0 => k_is)
    (case k0 => k_is)
    (case a1 => k_is)
    (case l1 => k_is)
    (case d1 => k_is)
    (case k1 => k_is)
    (case a2 => k_is)
    (case l2 => k_is)
    (case d2 => k_is)
    (case k2 => k_is)
    (case a3 => k_is)
    (case l3 => k_is)
    (case d3 => k_is)
    (case k3 => k_is)
    (case a4 => k_is)
    (case l4 => k_is)
    (case d4 => k_is)
    (case k4 => k_is)
    (case a5 => k_is)
    (case l5 => k_is)
    (case d5 => k_is)
    (case k5 => k_is)
    (case a6 => k_is)
    (case l6 => k_is)
    (case d6 => k_is)
    (case k6 => k_is)
    (case a7 => k_is)
    (case l7 => k_is)
    (case d7 => k_is)
    (case k7 => k_is)
    (case a8 => k_is)
    (case l8 => k_is)
    (case d8 => k_is)
    (case k8 => k_is)
    (case a9 => k_is)
    (case l9 => k_is)
    (case d9 => k_is)
    (case k9 => k_is)
    (case a10 => k_is)
    (case l10 => k_is)
    (case d10 => k_is)
    (case k10 => k_is)
    (case a11 => k_is)
    (case l11 => k_is)
    (case d11 => k_is)
    (case k11 => k_is)
    (case a12 => k_is)
    (case l12 => k_is)
    (case d12 => k_is)
    (case k12 => k_is)
    (case a13 => k_is)
    (case l13 => k_is)
    (case d13 => k_is)
    (case k13 => k_is)
    (case a14 => k_is)
    (case l14 => k_is)
    (case d14 => k_is)
    (case k14 => k_is)
    (case a15 => k_is)
    (case l15 => k_is)
    (case d15 => k_is)
    (case k15 => k_is)
    (case gl0 => k_is)
    (case gl1 => k_is)
    (case gl2 => k_is)
    (case n_bool => k_is)
    (case n_enumerate => k_is)
    (case n_int => k_is)
    (case n_isinstance => k_is)
    (case n_len => k_is)
    (case n_list => k_is)
    (case n_min => k_is)
    (case n_ord => k_is)
    (case n_range => k_is)
    (case n_set => k_is)
    (case n_str => k_is)
    (case n_tuple => k_is)
