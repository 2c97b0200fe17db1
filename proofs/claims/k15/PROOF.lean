import PyProof.Rows.All
import Wide.All
import OpenK.AllK
import Wide.FinOn
import HandS.ForMost
import HandS.IsInst
import HandS.Wide
import HandS.Walk
import HandS.SetKeys
import HandS.Style
import HandS.Codes
import KE.KBits
import PySem.Challenge.RW_slotbook_k15_unlike_keys_with_like_stamp
set_option Elab.async false
set_option linter.all false
set_option maxRecDepth 100000
set_option maxHeartbeats 4000000
namespace My
open PySem PySem.Spec PyProof.Rows L2
section
variable {X : Cx}
theorem op_mulX : OpR X (binaryOp .Mult) (rI IntMulOk fun i j => .int (i * j)) := opI fun _ _ _ _ _ _ _ hc q => mul_int q hc
theorem mulL {i j : Int} (h1 : -(2 ^ 64) < i) (h2 : i < 2 ^ 64) : IntMulOk i j := .of_left (intBits_le_64 h1 h2)
theorem mulR {i j : Int} (h1 : -(2 ^ 64) < j) (h2 : j < 2 ^ 64) : IntMulOk i j := .of_right (intBits_le_64 h1 h2)
end
section
variable {σ : L2.St} {H : Hp} {Q : VK} {QT : Bool → Hp → Prop} {D : Ends} {ta tb te : TE} {t u c : TT} {s1 s2 : TS} {K : PySem.W.Frag}
theorem rd_var {i : Nat} : tVar i σ H Q = (match σ[i]? with | some (some v) => Q v H | _ => False) := by
  unfold tVar
  apply propext
  constructor
  · rintro ⟨v, e, q⟩
    rw [e]; exact q
  · intro h
    split at h
    · rename_i v e
      exact ⟨v, e, h⟩
    · exact h.elim
theorem rd_c {v : V} : tC v σ H Q = Q v H := rfl
theorem rd_op {r : R2} : tOp r ta tb σ H Q = ta σ H fun x H1 => tb σ H1 fun y H2 => r x y H2 Q := rfl
theorem rd_un {r : V → Hp → VK → Prop} : tUn r ta σ H Q = ta σ H fun x H1 => r x H1 Q := rfl
theorem rd_rI {C : Int → Int → Prop} {g : Int → Int → V} {i j : Int} : rI C g (.int i) (.int j) H Q = (C i j ∧ Q (g i j) H) := by
  unfold rI
  apply propext
  constructor
  · rintro ⟨a, b, e1, e2, q⟩
    cases e1; cases e2; exact q
  · intro q
    exact ⟨i, j, rfl, rfl, q⟩
theorem rd_rI0 {g : Int → Int → V} {i j : Int} : rI0 g (.int i) (.int j) H Q = Q (g i j) H := by
  unfold rI0
  apply propext
  constructor
  · rintro ⟨a, b, e1, e2, q⟩
    cases e1; cases e2; exact q
  · intro q
    exact ⟨i, j, rfl, rfl, q⟩
theorem rd_rU {g : Int → V} {i : Int} : rU g (.int i) H Q = Q (g i) H := by
  unfold rU
  apply propext
  constructor
  · rintro ⟨a, e1, q⟩
    cases e1; exact q
  · intro q
    exact ⟨i, rfl, q⟩
theorem rd_eq {x y : V} : rEq x y H Q = (scal x y = true ∧ Q (.bl (decide (x = y))) H) := rfl
theorem rd_ne {x y : V} : rNe x y H Q = (scal x y = true ∧ Q (.bl (!decide (x = y))) H) := rfl
def isBl (x : V) (f : Bool → Prop) : Prop := match x with | .bl k => f k | _ => False
theorem rd_isBl {k : Bool} {f : Bool → Prop} : isBl (.bl k) f = f k := rfl
theorem isBl_eq {x : V} {f : Bool → Prop} : (∃ k, x = .bl k ∧ f k) = isBl x f := by
  apply propext
  constructor
  · rintro ⟨k, rfl, q⟩; exact q
  · intro q
    cases x with
    | bl k => exact ⟨k, rfl, q⟩
    | _ => exact q.elim
theorem rd_test : tTest ta σ H QT = ta σ H fun x H' => isBl x fun k => QT k H' := by
  unfold tTest
  simp only [isBl_eq]
theorem rd_B : tB ta σ H QT = ta σ H fun x H' => isBl x fun k => QT k H' := by
  unfold tB
  simp only [isBl_eq]
theorem rd_and : tAnd t u σ H QT = t σ H fun c H1 => if c = true then u σ H1 QT else QT false H1 := rfl
theorem rd_or : tOr t u σ H QT = t σ H fun c H1 => if c = true then QT true H1 else u σ H1 QT := rfl
theorem rd_not : tNot t σ H QT = t σ H fun c H1 => QT (!c) H1 := rfl
theorem rd_andV : tAndV ta tb σ H Q = ta σ H fun x H1 => isBl x fun c => if c = true then tb σ H1 Q else Q (.bl false) H1 := by
  unfold tAndV; simp only [isBl_eq]
theorem rd_orV : tOrV ta tb σ H Q = ta σ H fun x H1 => isBl x fun c => if c = true then Q (.bl true) H1 else tb σ H1 Q := by
  unfold tOrV; simp only [isBl_eq]
theorem rd_notV : tNotV ta σ H Q = ta σ H fun x H1 => isBl x fun c => Q (.bl (!c)) H1 := by
  unfold tNotV; simp only [isBl_eq]
theorem rd_ifE : tIf t ta tb σ H Q = t σ H fun c H1 => if c = true then ta σ H1 Q else tb σ H1 Q := rfl
theorem rd_chain {r r' : R2} {tc : TE} : tChain r r' ta tb tc σ H Q = ta σ H fun x H1 => tb σ H1 fun y H2 => r x y H2 fun z H3 => isBl z fun k => if k = true then tc σ H3 fun w' H4 => r' y w' H4 Q else Q (.bl false) H3 := by
  unfold tChain; simp only [isBl_eq]
theorem rd_ifS : tIfS c s1 s2 D σ H = c σ H fun b H1 => if b = true then s1 D σ H1 else s2 D σ H1 := rfl
theorem rd_ret : tRet te D σ H = te σ H D.rt := rfl
theorem rd_retN : tRetN D σ H = D.rt .non H := rfl
theorem rd_seq : tSeq s1 s2 D σ H = s1 { D with nx := s2 D } σ H := rfl
theorem rd_next : tNext D σ H = D.nx σ H := rfl
theorem rd_break : tBreak D σ H = D.bk σ H := rfl
theorem rd_cont : tCont D σ H = D.ct σ H := rfl
theorem rd_drop : tDrop te D σ H = te σ H fun _ H1 => D.nx σ H1 := rfl
theorem rd_asg {g : TG} : tAsg te g D σ H = te σ H fun x H1 => g x σ H1 D.nx := rfl
theorem rd_gName {i : Nat} {v : V} {R : L2.St → Hp → Prop} : gName i v σ H R = R (σ.set i (some v)) H := rfl
theorem rd_nil {R : List V → Hp → Prop} : tNil σ H R = R [] H := rfl
theorem rd_cons {tr : TA} {R : List V → Hp → Prop} : tCons te tr σ H R = te σ H fun x H1 => tr σ H1 fun xs H2 => R (x :: xs) H2 := rfl
theorem rd_call {sp : Sp} {dvs : List V} {E : XK} {tr : TA} : tCall sp dvs E tr σ H Q = tr σ H fun vs H1 => sp (vs ++ dvs) H1 Q E := rfl
theorem rd_CB {r : List V → Hp → VK → Prop} {tr : TA} : tCB r tr σ H Q = tr σ H fun vs H1 => r vs H1 Q := rfl
theorem V_int_inj {a b : Int} : (V.int a = V.int b) = (a = b) := by simp
theorem V_bl_inj {a b : Bool} : (V.bl a = V.bl b) = (a = b) := by simp
theorem V_str_inj {a b : Str} : (V.str a = V.str b) = (a = b) := by simp
theorem scal_ii {a b : Int} : scal (.int a) (.int b) = true := rfl
theorem scal_bb {a b : Bool} : scal (.bl a) (.bl b) = true := rfl
theorem scal_ss {a b : Str} : scal (.str a) (.str b) = true := rfl
end
end My
/-! what is read further -/
namespace My
open PySem PySem.Spec PyProof.Rows L2
section
variable {σ : L2.St} {H : Hp} {Q : VK} {QT : Bool → Hp → Prop} {D : Ends} {ta tb te : TE} {t u c : TT} {s1 s2 : TS} {K : PySem.W.Frag}
/-! types of values -/
def tyS (x : V) (H : Hp) : Option String := match x with
  | .non => some "NoneType"
  | .bl _ => some "bool"
  | .int _ => some "int"
  | .str _ => some "str"
  | .ref a => match H a with
    | some (.lst _) => some "list"
    | some (.tup _) => some "tuple"
    | some (.dK _) => some "dict"
    | some (.frz _ (.lst _)) => some "list"
    | _ => none
  | _ => none
theorem tyS_ok {x : V} {t : String} (h : tyS x H = some t) : TyX K H x (.type t) := by
  cases x with
  | non => cases h; exact .base .non
  | bl b => cases h; exact .base (.bl b)
  | int i => cases h; exact .base (.int i)
  | str i => cases h; exact .base (.str i)
  | ref a =>
    unfold tyS at h
    cases e : H a with
    | none => simp [e] at h
    | some o =>
      cases o with
      | lst xs => simp [e] at h; subst h; exact .base (.lst e)
      | tup xs => simp [e] at h; subst h; exact .base (.tup e)
      | dK xs => simp [e] at h; subst h; exact .base (.dK e)
      | frz o u =>
        cases u with
        | lst xs => simp [e] at h; subst h; exact .base (.frz e)
        | _ => simp [e] at h
      | _ => simp [e] at h
  | _ => cases h
/-- isinstance with a built-in type -/
def isiF (x : V) (n : String) (H : Hp) (f : Bool → Prop) : Prop := match tyS x H with
  | some t => (match kitB t n with | some b => f b | none => False)
  | none => False
def rIsiF : List V → Hp → VK → Prop := fun xs H Q => match xs with
  | [x, .ty n] => isiF x n H fun b => Q (.bl b) H
  | _ => False
theorem rd_isiF {x : V} {n : String} : rIsiF [x, .ty n] H Q = isiF x n H fun b => Q (.bl b) H := rfl
theorem call_isiF {X : Cx} : CallR X (.builtin "isinstance") rIsiF := by
  intro pins s σ H xs us Q I r h
  refine call_isi pins s σ H xs us Q I r ?_
  unfold rIsiF at h
  split at h
  · rename_i x n
    unfold isiF at h
    split at h
    · rename_i t e
      split at h
      · rename_i b e2
        exact ⟨x, .ty n, _, _, b, rfl, .ty n, tyS_ok e, kit_ty e2, h⟩
      · exact h.elim
    · exact h.elim
  · exact h.elim
theorem isi_non_int {f : Bool → Prop} : isiF .non "int" H f = f false := by
  have e : kitB "NoneType" "int" = some false := by decide +kernel
  simp only [isiF, tyS, e]
theorem isi_non_bool {f : Bool → Prop} : isiF .non "bool" H f = f false := by
  have e : kitB "NoneType" "bool" = some false := by decide +kernel
  simp only [isiF, tyS, e]
theorem isi_non_str {f : Bool → Prop} : isiF .non "str" H f = f false := by
  have e : kitB "NoneType" "str" = some false := by decide +kernel
  simp only [isiF, tyS, e]
theorem isi_non_tuple {f : Bool → Prop} : isiF .non "tuple" H f = f false := by
  have e : kitB "NoneType" "tuple" = some false := by decide +kernel
  simp only [isiF, tyS, e]
theorem isi_non_list {f : Bool → Prop} : isiF .non "list" H f = f false := by
  have e : kitB "NoneType" "list" = some false := by decide +kernel
  simp only [isiF, tyS, e]
theorem isi_non_dict {f : Bool → Prop} : isiF .non "dict" H f = f false := by
  have e : kitB "NoneType" "dict" = some false := by decide +kernel
  simp only [isiF, tyS, e]
theorem isi_bl_int {b : Bool} {f : Bool → Prop} : isiF (.bl b) "int" H f = f true := by
  have e : kitB "bool" "int" = some true := by decide +kernel
  simp only [isiF, tyS, e]
theorem isi_bl_bool {b : Bool} {f : Bool → Prop} : isiF (.bl b) "bool" H f = f true := by
  have e : kitB "bool" "bool" = some true := by decide +kernel
  simp only [isiF, tyS, e]
theorem isi_bl_str {b : Bool} {f : Bool → Prop} : isiF (.bl b) "str" H f = f false := by
  have e : kitB "bool" "str" = some false := by decide +kernel
  simp only [isiF, tyS, e]
theorem isi_bl_tuple {b : Bool} {f : Bool → Prop} : isiF (.bl b) "tuple" H f = f false := by
  have e : kitB "bool" "tuple" = some false := by decide +kernel
  simp only [isiF, tyS, e]
theorem isi_bl_list {b : Bool} {f : Bool → Prop} : isiF (.bl b) "list" H f = f false := by
  have e : kitB "bool" "list" = some false := by decide +kernel
  simp only [isiF, tyS, e]
theorem isi_bl_dict {b : Bool} {f : Bool → Prop} : isiF (.bl b) "dict" H f = f false := by
  have e : kitB "bool" "dict" = some false := by decide +kernel
  simp only [isiF, tyS, e]
theorem isi_int_int {i : Int} {f : Bool → Prop} : isiF (.int i) "int" H f = f true := by
  have e : kitB "int" "int" = some true := by decide +kernel
  simp only [isiF, tyS, e]
theorem isi_int_bool {i : Int} {f : Bool → Prop} : isiF (.int i) "bool" H f = f false := by
  have e : kitB "int" "bool" = some false := by decide +kernel
  simp only [isiF, tyS, e]
theorem isi_int_str {i : Int} {f : Bool → Prop} : isiF (.int i) "str" H f = f false := by
  have e : kitB "int" "str" = some false := by decide +kernel
  simp only [isiF, tyS, e]
theorem isi_int_tuple {i : Int} {f : Bool → Prop} : isiF (.int i) "tuple" H f = f false := by
  have e : kitB "int" "tuple" = some false := by decide +kernel
  simp only [isiF, tyS, e]
theorem isi_int_list {i : Int} {f : Bool → Prop} : isiF (.int i) "list" H f = f false := by
  have e : kitB "int" "list" = some false := by decide +kernel
  simp only [isiF, tyS, e]
theorem isi_int_dict {i : Int} {f : Bool → Prop} : isiF (.int i) "dict" H f = f false := by
  have e : kitB "int" "dict" = some false := by decide +kernel
  simp only [isiF, tyS, e]
theorem isi_str_int {z : Str} {f : Bool → Prop} : isiF (.str z) "int" H f = f false := by
  have e : kitB "str" "int" = some false := by decide +kernel
  simp only [isiF, tyS, e]
theorem isi_str_bool {z : Str} {f : Bool → Prop} : isiF (.str z) "bool" H f = f false := by
  have e : kitB "str" "bool" = some false := by decide +kernel
  simp only [isiF, tyS, e]
theorem isi_str_str {z : Str} {f : Bool → Prop} : isiF (.str z) "str" H f = f true := by
  have e : kitB "str" "str" = some true := by decide +kernel
  simp only [isiF, tyS, e]
theorem isi_str_tuple {z : Str} {f : Bool → Prop} : isiF (.str z) "tuple" H f = f false := by
  have e : kitB "str" "tuple" = some false := by decide +kernel
  simp only [isiF, tyS, e]
theorem isi_str_list {z : Str} {f : Bool → Prop} : isiF (.str z) "list" H f = f false := by
  have e : kitB "str" "list" = some false := by decide +kernel
  simp only [isiF, tyS, e]
theorem isi_str_dict {z : Str} {f : Bool → Prop} : isiF (.str z) "dict" H f = f false := by
  have e : kitB "str" "dict" = some false := by decide +kernel
  simp only [isiF, tyS, e]
theorem isi_lst_int {a : Addr} {xs : List V} (h : H a = some (.lst xs)) {f : Bool → Prop} : isiF (.ref a) "int" H f = f false := by
  have e : kitB "list" "int" = some false := by decide +kernel
  simp only [isiF, tyS, h, e]
theorem isi_lst_bool {a : Addr} {xs : List V} (h : H a = some (.lst xs)) {f : Bool → Prop} : isiF (.ref a) "bool" H f = f false := by
  have e : kitB "list" "bool" = some false := by decide +kernel
  simp only [isiF, tyS, h, e]
theorem isi_lst_str {a : Addr} {xs : List V} (h : H a = some (.lst xs)) {f : Bool → Prop} : isiF (.ref a) "str" H f = f false := by
  have e : kitB "list" "str" = some false := by decide +kernel
  simp only [isiF, tyS, h, e]
theorem isi_lst_tuple {a : Addr} {xs : List V} (h : H a = some (.lst xs)) {f : Bool → Prop} : isiF (.ref a) "tuple" H f = f false := by
  have e : kitB "list" "tuple" = some false := by decide +kernel
  simp only [isiF, tyS, h, e]
theorem isi_lst_list {a : Addr} {xs : List V} (h : H a = some (.lst xs)) {f : Bool → Prop} : isiF (.ref a) "list" H f = f true := by
  have e : kitB "list" "list" = some true := by decide +kernel
  simp only [isiF, tyS, h, e]
theorem isi_lst_dict {a : Addr} {xs : List V} (h : H a = some (.lst xs)) {f : Bool → Prop} : isiF (.ref a) "dict" H f = f false := by
  have e : kitB "list" "dict" = some false := by decide +kernel
  simp only [isiF, tyS, h, e]
theorem isi_tup_int {a : Addr} {xs : List V} (h : H a = some (.tup xs)) {f : Bool → Prop} : isiF (.ref a) "int" H f = f false := by
  have e : kitB "tuple" "int" = some false := by decide +kernel
  simp only [isiF, tyS, h, e]
theorem isi_tup_bool {a : Addr} {xs : List V} (h : H a = some (.tup xs)) {f : Bool → Prop} : isiF (.ref a) "bool" H f = f false := by
  have e : kitB "tuple" "bool" = some false := by decide +kernel
  simp only [isiF, tyS, h, e]
theorem isi_tup_str {a : Addr} {xs : List V} (h : H a = some (.tup xs)) {f : Bool → Prop} : isiF (.ref a) "str" H f = f false := by
  have e : kitB "tuple" "str" = some false := by decide +kernel
  simp only [isiF, tyS, h, e]
theorem isi_tup_tuple {a : Addr} {xs : List V} (h : H a = some (.tup xs)) {f : Bool → Prop} : isiF (.ref a) "tuple" H f = f true := by
  have e : kitB "tuple" "tuple" = some true := by decide +kernel
  simp only [isiF, tyS, h, e]
theorem isi_tup_list {a : Addr} {xs : List V} (h : H a = some (.tup xs)) {f : Bool → Prop} : isiF (.ref a) "list" H f = f false := by
  have e : kitB "tuple" "list" = some false := by decide +kernel
  simp only [isiF, tyS, h, e]
theorem isi_tup_dict {a : Addr} {xs : List V} (h : H a = some (.tup xs)) {f : Bool → Prop} : isiF (.ref a) "dict" H f = f false := by
  have e : kitB "tuple" "dict" = some false := by decide +kernel
  simp only [isiF, tyS, h, e]
theorem isi_dK_int {a : Addr} {kvs : List (Key × V)} (h : H a = some (.dK kvs)) {f : Bool → Prop} : isiF (.ref a) "int" H f = f false := by
  have e : kitB "dict" "int" = some false := by decide +kernel
  simp only [isiF, tyS, h, e]
theorem isi_dK_bool {a : Addr} {kvs : List (Key × V)} (h : H a = some (.dK kvs)) {f : Bool → Prop} : isiF (.ref a) "bool" H f = f false := by
  have e : kitB "dict" "bool" = some false := by decide +kernel
  simp only [isiF, tyS, h, e]
theorem isi_dK_str {a : Addr} {kvs : List (Key × V)} (h : H a = some (.dK kvs)) {f : Bool → Prop} : isiF (.ref a) "str" H f = f false := by
  have e : kitB "dict" "str" = some false := by decide +kernel
  simp only [isiF, tyS, h, e]
theorem isi_dK_tuple {a : Addr} {kvs : List (Key × V)} (h : H a = some (.dK kvs)) {f : Bool → Prop} : isiF (.ref a) "tuple" H f = f false := by
  have e : kitB "dict" "tuple" = some false := by decide +kernel
  simp only [isiF, tyS, h, e]
theorem isi_dK_list {a : Addr} {kvs : List (Key × V)} (h : H a = some (.dK kvs)) {f : Bool → Prop} : isiF (.ref a) "list" H f = f false := by
  have e : kitB "dict" "list" = some false := by decide +kernel
  simp only [isiF, tyS, h, e]
theorem isi_dK_dict {a : Addr} {kvs : List (Key × V)} (h : H a = some (.dK kvs)) {f : Bool → Prop} : isiF (.ref a) "dict" H f = f true := by
  have e : kitB "dict" "dict" = some true := by decide +kernel
  simp only [isiF, tyS, h, e]

/-! loops -/
def forGo (J : It) (g : TG) (tb : TS) (D : Ends) (σ : L2.St) (H : Hp) : Prop := ∃ W : Nat → Nat → L2.St → Hp → Prop, (∃ m, W 0 m σ H) ∧ ∀ i m σ H, W i m σ H →
  (J.stop i H ∧ D.nx σ H) ∨ (J.go i H ∧ ∃ N : L2.St → Hp → Prop, (∀ σ' H', N σ' H' → ∃ m', m' < m ∧ W (i + 1) m' σ' H') ∧ ∀ x H', J.yld i H x H' → g x σ H' fun σ2 H2 => tb { D with nx := N, ct := N, bk := D.nx } σ2 H2)
theorem rd_for {wi : TI} {g : TG} {tb : TS} : tFor wi g tb D σ H = wi σ H fun J H1 => forGo J g tb D σ H1 := rfl
def isR1 (vs : List V) (f : Int → Prop) : Prop := match vs with | [.int j] => f j | _ => False
theorem rd_isR1 {j : Int} {f : Int → Prop} : isR1 [.int j] f = f j := rfl
theorem rd_rng1 {tr : TA} {R : It → Hp → Prop} : iRng1 tr σ H R = tr σ H fun vs H1 => isR1 vs fun j => (-(2 ^ 62) ≤ j ∧ j < 2 ^ 62) ∧ R (Itr 0 j.toNat) H1 := by
  unfold iRng1
  apply congrArg
  funext vs H1
  apply propext
  constructor
  · rintro ⟨j, rfl, h1, h2, r⟩; exact ⟨⟨h1, h2⟩, r⟩
  · intro h
    unfold isR1 at h
    split at h
    · rename_i j
      exact ⟨j, rfl, h.1.1, h.1.2, h.2⟩
    · exact h.elim
def isR2 (vs : List V) (f : Int → Int → Prop) : Prop := match vs with | [.int i, .int j] => f i j | _ => False
theorem rd_isR2 {i j : Int} {f : Int → Int → Prop} : isR2 [.int i, .int j] f = f i j := rfl
theorem rd_rng2 {tr : TA} {R : It → Hp → Prop} : iRng2 tr σ H R = tr σ H fun vs H1 => isR2 vs fun i j => (-(2 ^ 62) ≤ i ∧ i < 2 ^ 62 ∧ -(2 ^ 62) ≤ j ∧ j < 2 ^ 62) ∧ R (Itr i (j - i).toNat) H1 := by
  unfold iRng2
  apply congrArg
  funext vs H1
  apply propext
  constructor
  · rintro ⟨i, j, rfl, h1, r⟩; exact ⟨h1, r⟩
  · intro h
    unfold isR2 at h
    split at h
    · rename_i i j
      exact ⟨i, j, rfl, h.1, h.2⟩
    · exact h.elim
def isRef (x : V) (f : Addr → Prop) : Prop := match x with | .ref a => f a | _ => False
theorem rd_isRef {a : Addr} {f : Addr → Prop} : isRef (.ref a) f = f a := rfl
theorem isRef_eq {x : V} {f : Addr → Prop} : (∃ a, x = .ref a ∧ f a) = isRef x f := by
  apply propext
  constructor
  · rintro ⟨a, rfl, h⟩; exact h
  · intro h
    cases x with
    | ref a => exact ⟨a, rfl, h⟩
    | _ => exact h.elim
theorem rd_iList {R : It → Hp → Prop} : iList K te σ H R = te σ H fun x H1 => isRef x fun a => (∃ xs, SqL K H1 a xs) ∧ R (Itl K a) H1 := by
  unfold iList
  simp only [isRef_eq]
theorem rd_iTup {R : It → Hp → Prop} : iTup K te σ H R = te σ H fun x H1 => isRef x fun a => (∃ xs, SqT K H1 a xs) ∧ R (Itt K a) H1 := by
  unfold iTup
  simp only [isRef_eq]
def isStr (x : V) (f : Str → Prop) : Prop := match x with | .str a => f a | _ => False
theorem rd_isStr {a : Str} {f : Str → Prop} : isStr (.str a) f = f a := rfl
theorem isStr_eq {x : V} {f : Str → Prop} : (∃ a, x = .str a ∧ f a) = isStr x f := by
  apply propext
  constructor
  · rintro ⟨a, rfl, h⟩; exact h
  · intro h
    cases x with
    | str a => exact ⟨a, rfl, h⟩
    | _ => exact h.elim
theorem rd_iStr {R : It → Hp → Prop} : iStr te σ H R = te σ H fun x H1 => isStr x fun z => R (Its z) H1 := by
  unfold iStr
  simp only [isStr_eq]
theorem go_it {J : It} {n : Nat} {G : Hp → Prop} {Y : Nat → Hp → V → Hp → Prop} (w : L2.Walk J n G Y) {g : TG} {tb : TS} (Pv : Nat → L2.St → Hp → Prop) (h0 : Pv 0 σ H) (hG : ∀ i σ H, i ≤ n → Pv i σ H → G H)
    (hs : ∀ (N : L2.St → Hp → Prop) i x σ H H', i < n → Pv i σ H → Y i H x H' → (∀ σ' H', Pv (i + 1) σ' H' → N σ' H') → g x σ H' fun σ2 H2 => tb { D with nx := N, ct := N, bk := D.nx } σ2 H2) (hd : ∀ σ H, Pv n σ H → D.nx σ H) : forGo J g tb D σ H :=
  L2.for_it w Pv h0 hG (fun i x σ H H' h1 h2 h3 => hs _ i x σ H H' h1 h2 h3 fun _ _ z => z) hd
theorem go_range {lo : Int} {n : Nat} {g : TG} {tb : TS} (Pv : Nat → L2.St → Hp → Prop) (h0 : Pv 0 σ H)
    (hs : ∀ (N : L2.St → Hp → Prop) (i : Nat) σ H, i < n → Pv i σ H → (∀ σ' H', Pv (i + 1) σ' H' → N σ' H') → g (.int (lo + i)) σ H fun σ2 H2 => tb { D with nx := N, ct := N, bk := D.nx } σ2 H2) (hd : ∀ σ H, Pv n σ H → D.nx σ H) : forGo (Itr lo n) g tb D σ H :=
  for_range Pv h0 (fun i σ H h1 h2 => hs _ i σ H h1 h2 fun _ _ z => z) hd
theorem go_list {a : Addr} {xs : List V} {g : TG} {tb : TS} (Pv : Nat → L2.St → Hp → Prop) (h0 : Pv 0 σ H) (hl : ∀ i σ H, i ≤ xs.length → Pv i σ H → SqL K H a xs)
    (hs : ∀ (N : L2.St → Hp → Prop) i x σ H, xs[i]? = some x → Pv i σ H → (∀ σ' H', Pv (i + 1) σ' H' → N σ' H') → g x σ H fun σ2 H2 => tb { D with nx := N, ct := N, bk := D.nx } σ2 H2) (hd : ∀ σ H, Pv xs.length σ H → D.nx σ H) : forGo (Itl K a) g tb D σ H :=
  for_list Pv h0 hl (fun i x σ H h1 h2 => hs _ i x σ H h1 h2 fun _ _ z => z) hd
theorem go_tup {a : Addr} {xs : List V} {g : TG} {tb : TS} (Pv : Nat → L2.St → Hp → Prop) (h0 : Pv 0 σ H) (hl : ∀ i σ H, i ≤ xs.length → Pv i σ H → SqT K H a xs)
    (hs : ∀ (N : L2.St → Hp → Prop) i x σ H, xs[i]? = some x → Pv i σ H → (∀ σ' H', Pv (i + 1) σ' H' → N σ' H') → g x σ H fun σ2 H2 => tb { D with nx := N, ct := N, bk := D.nx } σ2 H2) (hd : ∀ σ H, Pv xs.length σ H → D.nx σ H) : forGo (Itt K a) g tb D σ H :=
  for_tup Pv h0 hl (fun i x σ H h1 h2 => hs _ i x σ H h1 h2 fun _ _ z => z) hd
/-! sequences -/
/-- p is new at H -/
def Fresh (H : Hp) (p : Addr) : Prop := H p = none
theorem Fresh.ne {H : Hp} {p a : Addr} {o : HO} (f : Fresh H p) (h : H a = some o) : a ≠ p := ne_of_none h f
theorem rd_lst {tr : TA} : tLst tr σ H Q = tr σ H fun xs H1 => xs.length ≤ sizeLine ∧ ∀ p, Fresh H1 p → Q (.ref p) (upd H1 p (.lst xs)) := rfl
theorem rd_tup {tr : TA} : tTup tr σ H Q = tr σ H fun xs H1 => xs.length ≤ sizeLine ∧ ∀ p, Fresh H1 p → Q (.ref p) (upd H1 p (.tup xs)) := rfl
theorem rd_cat {l b : Addr} : rCat (.ref l) (.ref b) H Q = ∃ xs zs, H l = some (.lst xs) ∧ H b = some (.lst zs) ∧ xs.length + zs.length ≤ sizeLine ∧ ∀ p, Fresh H p → Q (.ref p) (upd H p (.lst (xs ++ zs))) := by
  unfold rCat
  apply propext
  constructor
  · rintro ⟨l', b', xs, zs, e1, e2, q⟩; cases e1; cases e2; exact ⟨xs, zs, q⟩
  · rintro ⟨xs, zs, q⟩; exact ⟨l, b, xs, zs, rfl, rfl, q⟩
theorem rd_ixL {p : Addr} {i : Int} : rIxL K (.ref p) (.int i) H Q = ∃ xs v, SqL K H p xs ∧ atI xs i = some v ∧ Q v H := by
  unfold rIxL
  apply propext
  constructor
  · rintro ⟨p', xs, i', v, e1, e2, q⟩; cases e1; cases e2; exact ⟨xs, v, q⟩
  · rintro ⟨xs, v, q⟩; exact ⟨p, xs, i, v, rfl, rfl, q⟩
theorem rd_sl {r : V → Option Int → Option Int → Hp → VK → Prop} {tl th : TO} : tSl r te tl th σ H Q = te σ H fun x H1 => tl σ H1 fun l H2 => th σ H2 fun u H3 => r x l u H3 Q := rfl
theorem rd_noPart {R : Option Int → Hp → Prop} : tNoPart σ H R = R none H := rfl
def isInt (x : V) (f : Int → Prop) : Prop := match x with | .int a => f a | _ => False
theorem rd_isInt {a : Int} {f : Int → Prop} : isInt (.int a) f = f a := rfl
theorem isInt_eq {x : V} {f : Int → Prop} : (∃ a, x = .int a ∧ f a) = isInt x f := by
  apply propext
  constructor
  · rintro ⟨a, rfl, h⟩; exact h
  · intro h
    cases x with
    | int a => exact ⟨a, rfl, h⟩
    | _ => exact h.elim
theorem rd_part {R : Option Int → Hp → Prop} : tPart te σ H R = te σ H fun x H1 => isInt x fun i => R (some i) H1 := by
  unfold tPart
  simp only [isInt_eq]
theorem rd_slL {a : Addr} {lo hi : Option Int} : rSlL K (.ref a) lo hi H Q = ∃ xs, SqL K H a xs ∧ ∀ p, Fresh H p → Q (.ref p) (upd H p (.lst (cutV xs lo hi))) := by
  unfold rSlL
  apply propext
  constructor
  · rintro ⟨a', xs, e1, q⟩; cases e1; exact ⟨xs, q⟩
  · rintro ⟨xs, q⟩; exact ⟨a, xs, rfl, q⟩
def rLen (K : PySem.W.Frag) : List V → Hp → VK → Prop := fun xs H Q => ∃ p ys, xs = [.ref p] ∧ (SqL K H p ys ∨ SqT K H p ys) ∧ Q (.int ys.length) H
theorem call_lenq {X : Cx} : CallR X (.builtin "len") (rLen X.K) := call_len_seq
theorem rd_len {p : Addr} : rLen K [.ref p] H Q = ∃ ys, (SqL K H p ys ∨ SqT K H p ys) ∧ Q (.int ys.length) H := by
  unfold rLen
  apply propext
  constructor
  · rintro ⟨p', ys, e, q⟩; cases e; exact ⟨ys, q⟩
  · rintro ⟨ys, q⟩; exact ⟨p, ys, rfl, q⟩
/-! promises -/
def spI1 (Pre : Int → Prop) (f : Int → V) : Sp := fun vs H Q _ => ∃ a, vs = [.int a] ∧ Pre a ∧ Q (f a) H
def spI2 (Pre : Int → Int → Prop) (f : Int → Int → V) : Sp := fun vs H Q _ => ∃ a b, vs = [.int a, .int b] ∧ Pre a b ∧ Q (f a b) H
def spI3 (Pre : Int → Int → Int → Prop) (f : Int → Int → Int → V) : Sp := fun vs H Q _ => ∃ a b c, vs = [.int a, .int b, .int c] ∧ Pre a b c ∧ Q (f a b c) H
def spI4 (Pre : Int → Int → Int → Int → Prop) (f : Int → Int → Int → Int → V) : Sp := fun vs H Q _ => ∃ a b c d, vs = [.int a, .int b, .int c, .int d] ∧ Pre a b c d ∧ Q (f a b c d) H
variable {E : XK}
theorem rd_spI1 {Pre : Int → Prop} {f : Int → V} {a : Int} : spI1 Pre f [.int a] H Q E = (Pre a ∧ Q (f a) H) := by
  unfold spI1
  apply propext
  constructor
  · rintro ⟨a', e, q⟩; cases e; exact q
  · intro q; exact ⟨a, rfl, q⟩
theorem rd_spI2 {Pre : Int → Int → Prop} {f : Int → Int → V} {a b : Int} : spI2 Pre f [.int a, .int b] H Q E = (Pre a b ∧ Q (f a b) H) := by
  unfold spI2
  apply propext
  constructor
  · rintro ⟨a', b', e, q⟩; cases e; exact q
  · intro q; exact ⟨a, b, rfl, q⟩
theorem rd_spI3 {Pre : Int → Int → Int → Prop} {f : Int → Int → Int → V} {a b c : Int} : spI3 Pre f [.int a, .int b, .int c] H Q E = (Pre a b c ∧ Q (f a b c) H) := by
  unfold spI3
  apply propext
  constructor
  · rintro ⟨a', b', c', e, q⟩; cases e; exact q
  · intro q; exact ⟨a, b, c, rfl, q⟩
theorem rd_spI4 {Pre : Int → Int → Int → Int → Prop} {f : Int → Int → Int → Int → V} {a b c d : Int} : spI4 Pre f [.int a, .int b, .int c, .int d] H Q E = (Pre a b c d ∧ Q (f a b c d) H) := by
  unfold spI4
  apply propext
  constructor
  · rintro ⟨a', b', c', d', e, q⟩; cases e; exact q
  · intro q; exact ⟨a, b, c, d, rfl, q⟩
/-- a scalar: whether it is an int and no truth -/
def wholeV : V → Bool
  | .int _ => true
  | _ => false
def scalV : V → Bool
  | .int _ => true
  | .bl _ => true
  | .non => true
  | .str _ => true
  | _ => false
/-- a value whose kind is known -/
def thing (H : Hp) : V → Prop
  | .int _ => True
  | .bl _ => True
  | .non => True
  | .str _ => True
  | .ref a => (∃ xs, H a = some (.tup xs)) ∨ (∃ xs, H a = some (.lst xs)) ∨ ∃ xs, H a = some (.dK xs)
  | _ => False
def spWhole : Sp := fun vs H Q _ => ∃ x, vs = [x] ∧ thing H x ∧ Q (.bl (wholeV x)) H
theorem rd_whole {i : Int} : spWhole [.int i] H Q E = Q (.bl true) H := by
  unfold spWhole
  apply propext
  constructor
  · rintro ⟨x, e, _, q⟩; cases e; exact q
  · intro q; exact ⟨_, rfl, trivial, q⟩
/-- the law's own: a list of at most 63 ints, True -/
def spLaw (K : PySem.W.Frag) : Sp := fun vs H Q _ => ∃ (a : Addr) (ns : List Int), vs = [.ref a] ∧ SqL K H a (ns.map V.int) ∧ ns.length ≤ 63 ∧ ∀ H', Q (.bl true) H'
end
theorem len_spI1 {Pre : Int → Prop} {f : Int → V} {vs H Q E} (h : spI1 Pre f vs H Q E) : vs.length = 1 := by obtain ⟨_, rfl, _⟩ := h; rfl
theorem len_spI2 {Pre : Int → Int → Prop} {f : Int → Int → V} {vs H Q E} (h : spI2 Pre f vs H Q E) : vs.length = 2 := by obtain ⟨_, _, rfl, _⟩ := h; rfl
theorem len_spI3 {Pre : Int → Int → Int → Prop} {f : Int → Int → Int → V} {vs H Q E} (h : spI3 Pre f vs H Q E) : vs.length = 3 := by obtain ⟨_, _, _, rfl, _⟩ := h; rfl
theorem len_spI4 {Pre : Int → Int → Int → Int → Prop} {f : Int → Int → Int → Int → V} {vs H Q E} (h : spI4 Pre f vs H Q E) : vs.length = 4 := by obtain ⟨_, _, _, _, rfl, _⟩ := h; rfl
theorem len_whole {vs H Q E} (h : spWhole vs H Q E) : vs.length = 1 := by obtain ⟨_, rfl, _⟩ := h; rfl
theorem len_law {K : PySem.W.Frag} {vs H Q E} (h : spLaw K vs H Q E) : vs.length = 1 := by obtain ⟨_, _, rfl, _⟩ := h; rfl
theorem st_nil : L2.start [] [] = [] := rfl
theorem st_arg {x : Str} {N : List Str} {v : V} {vs : List V} : L2.start (x :: N) (v :: vs) = some v :: L2.start N vs := by
  unfold L2.start
  simp
theorem st_none {x : Str} {N : List Str} : L2.start (x :: N) [] = none :: L2.start N [] := by
  unfold L2.start
  simp [List.replicate_succ]
theorem cxK {CX : CXT} {P : Program} {w : World} {K : PySem.W.Frag} {mg : Str → Option Value} {base : Heap} {N : List Str} {qual : Str} {scope : Scope} {f : Addr} {cd : Value} {A : Around} {outer : List Env} {s : Shared} {H : Hp} {E : XK} :
    (cxOf CX P w K mg base N qual scope f cd A outer s H E).K = K := rfl
/-- a new object leaves what stood before -/
theorem Same_upd {H0 H : Hp} {p : Addr} {o : HO} (s : Same H0 H) (f : Fresh H p) : Same H0 (upd H p o) := fun b u e => by
  have e' := s b u e
  rw [upd_ne (f.ne e')]
  exact e'
theorem Same_fresh {H0 H : Hp} {p : Addr} (s : Same H0 H) (f : Fresh H p) : Fresh H0 p := s.free f
theorem Same_upd0 {H0 H : Hp} {p : Addr} {o : HO} (s : Same H0 H) (f : Fresh H0 p) : Same H0 (upd H p o) := fun b u e => by
  rw [upd_ne (f.ne e)]
  exact s b u e
/-- the items of a list of ints -/
theorem ints_at {ns : List Int} {i : Nat} {y : V} (h : (ns.map V.int)[i]? = some y) : ∃ n, ns[i]? = some n ∧ y = .int n := by
  rw [List.getElem?_map] at h
  cases e : ns[i]? with
  | none => rw [e] at h; cases h
  | some n => rw [e] at h; exact ⟨n, rfl, (Option.some.inj h).symm⟩
theorem cut_len (xs : List V) (lo hi : Option Int) : (cutV xs lo hi).length ≤ xs.length := cutV_length xs lo hi
theorem cut_map (ns : List Int) (lo hi : Option Int) : ∃ ms : List Int, cutV (ns.map V.int) lo hi = ms.map V.int ∧ ms.length ≤ ns.length := by
  unfold cutV
  rw [← List.map_drop, ← List.map_take]
  exact ⟨_, rfl, by rw [List.length_take, List.length_drop]; omega⟩
/-- the item of a list of ints at a place in bounds -/
def getI (xs : List Int) (i : Int) : Int := xs.getD i.toNat 0
theorem at_int {xs : List Int} {i : Int} (h0 : 0 ≤ i) (h1 : i < xs.length) : atI (xs.map V.int) i = some (.int (getI xs i)) := by
  obtain ⟨j, rfl⟩ : ∃ j : Nat, i = (j : Int) := ⟨i.toNat, by omega⟩
  have hj : j < xs.length := by omega
  refine atI_nat ?_
  rw [List.getElem?_map, List.getElem?_eq_getElem hj]
  show some (V.int xs[j]) = some (V.int (xs.getD j 0))
  rw [List.getD_eq_getElem?_getD, List.getElem?_eq_getElem hj]
  rfl
theorem iteN {c A B : Prop} [Decidable c] (h : ¬ c) (q : B) : if c then A else B := by rw [if_neg h]; exact q
theorem iteP {c A B : Prop} [Decidable c] (h : c) (q : A) : if c then A else B := by rw [if_pos h]; exact q
theorem tyL {K : PySem.W.Frag} {H : Hp} {l : Addr} {xs : List V} (h : H l = some (.lst xs)) : tyV K "list" (.ref l) H := Or.inl ⟨rfl, _, SqL.of h⟩
theorem rd_BM {K : PySem.W.Frag} {T : String} {r : V → List V → Hp → VK → Prop} {to : TE} {t : TA} {σ : L2.St} {H : Hp} {Q : VK} : tBM K T r to t σ H Q = to σ H fun x H1 => tyV K T x H1 ∧ t σ H1 fun xs H2 => r x xs H2 Q := rfl
theorem rd_BM0 {K : PySem.W.Frag} {T : String} {r : V → List V → Hp → VK → Prop} {to : TE} {σ : L2.St} {H : Hp} {Q : VK} : tBM0 K T r to σ H Q = to σ H fun x H1 => tyV K T x H1 ∧ r x [] H1 Q := rfl
theorem rd_append {l : Addr} {y : V} {H : Hp} {Q : VK} : rAppend (.ref l) [y] H Q = ∃ xs, H l = some (.lst xs) ∧ xs.length < sizeLine ∧ Q .non (upd H l (.lst (xs ++ [y]))) := by
  unfold rAppend
  apply propext
  constructor
  · rintro ⟨l', xs, y', e1, e2, q⟩; cases e1; cases e2; exact ⟨xs, q⟩
  · rintro ⟨xs, q⟩; exact ⟨l, xs, y, rfl, rfl, q⟩
theorem rd_rep {l : Addr} {k : Int} {H : Hp} {Q : VK} : rRep (.ref l) (.int k) H Q = ∃ xs, H l = some (.lst xs) ∧ -(2 ^ 63) ≤ k ∧ k < 2 ^ 63 ∧ xs.length * k.toNat ≤ sizeLine ∧ ∀ p, Fresh H p → Q (.ref p) (upd H p (.lst (List.replicate k.toNat xs).flatten)) := by
  unfold rRep
  apply propext
  constructor
  · rintro ⟨l', k', xs, e1, e2, q⟩; cases e1; cases e2; exact ⟨xs, q⟩
  · rintro ⟨xs, q⟩; exact ⟨l, k, xs, rfl, rfl, q⟩
theorem rd_gSub {to ti : TE} {t : TSet} {v : V} {σ : L2.St} {H : Hp} {R : L2.St → Hp → Prop} : gSub to ti t v σ H R = to σ H fun o H1 => ti σ H1 fun i H2 => t o i v H2 fun H3 => R σ H3 := rfl
theorem rd_setL {p : Addr} {k : Int} {v : V} {H : Hp} {R : Hp → Prop} : rSetL (.ref p) (.int k) v H R = ∃ xs j, H p = some (.lst xs) ∧ ixN xs.length k = some j ∧ R (upd H p (.lst (xs.set j v))) := by
  unfold rSetL
  apply propext
  constructor
  · rintro ⟨p', xs, k', j, e1, e2, q⟩; cases e1; cases e2; exact ⟨xs, j, q⟩
  · rintro ⟨xs, j, q⟩; exact ⟨p, xs, k, j, rfl, rfl, q⟩
theorem ixN_nat {n : Nat} {k : Int} (h0 : 0 ≤ k) (h1 : k < n) : ixN n k = some k.toNat := by
  unfold ixN
  rw [if_pos h0, if_pos (by omega)]
/-! lists of ints compared -/
theorem DpAll_ints {K : PySem.W.Frag} {H : Hp} : ∀ xs : List Int, DpAll K H (xs.map V.int) (xs.map PyData.int)
  | [] => .nil
  | x :: xs => .cons (.int x) (DpAll_ints xs)
theorem eqvAll_ints : ∀ xs ys : List Int, PyData.eqvAll (xs.map PyData.int) (ys.map PyData.int) = decide (xs = ys)
  | [], [] => by simp [PyData.eqvAll]
  | [], _ :: _ => by simp [PyData.eqvAll]
  | _ :: _, [] => by simp [PyData.eqvAll]
  | x :: xs, y :: ys => by
    show (PyData.eqv (.int x) (.int y) && PyData.eqvAll (xs.map PyData.int) (ys.map PyData.int)) = _
    rw [eqvAll_ints xs ys, PyData.eqv]
    by_cases h : x = y
    · subst h
      by_cases h2 : xs = ys
      · simp [h2]
      · simp [h2]
    · simp [h]
theorem canLay_ints : ∀ xs : List Int, PyData.canLayAll0 (xs.map PyData.int) = true
  | [] => by simp [PyData.canLayAll0]
  | x :: xs => by
    show (PyData.canLay0 (.int x) && PyData.canLayAll0 (xs.map PyData.int)) = true
    rw [canLay_ints xs, PyData.canLay0]
    rfl
theorem depth_ints : ∀ xs : List Int, PyData.depthAll (xs.map PyData.int) = 0
  | [] => by simp [PyData.depthAll]
  | x :: xs => by
    show max (PyData.depth (.int x)) (PyData.depthAll (xs.map PyData.int)) = 0
    rw [depth_ints xs, PyData.depth]
    rfl
theorem shaped_ints (xs : List Int) : SeqAt.shaped (.list (xs.map PyData.int)) = true := by
  unfold SeqAt.shaped
  rw [PyData.canLay0, canLay_ints, PyData.depth, depth_ints]
  decide
theorem eq_ints {K : PySem.W.Frag} {H : Hp} {a b : Addr} {xs ys : List Int} {Q : VK} (ha : SqL K H a (xs.map V.int)) (hb : SqL K H b (ys.map V.int)) (q : Q (.bl (decide (xs = ys))) H) : rEqD K (.ref a) (.ref b) H Q :=
  ⟨.list (xs.map PyData.int), .list (ys.map PyData.int), .lst ha (DpAll_ints xs), .lst hb (DpAll_ints ys), shaped_ints xs, shaped_ints ys, by rw [PyData.eqv, eqvAll_ints]; exact q⟩
/-- a cell of the script -/
def spCell (K : PySem.W.Frag) : Sp := fun vs H Q _ => ∃ (a : Addr) (ns : List Int) (i : Int), vs = [.ref a, .int i] ∧ SqL K H a (ns.map V.int) ∧ 0 ≤ i ∧ Q (.int (getI ns i)) H
theorem rd_spCell {K : PySem.W.Frag} {a : Addr} {i : Int} {H : Hp} {Q : VK} {E : XK} : spCell K [.ref a, .int i] H Q E = ∃ ns : List Int, SqL K H a (ns.map V.int) ∧ 0 ≤ i ∧ Q (.int (getI ns i)) H := by
  unfold spCell
  apply propext
  constructor
  · rintro ⟨a', ns, i', e, q⟩; cases e; exact ⟨ns, q⟩
  · rintro ⟨ns, q⟩; exact ⟨a, ns, i, rfl, q⟩
theorem len_cell {K : PySem.W.Frag} {vs H Q E} (h : spCell K vs H Q E) : vs.length = 2 := by obtain ⟨_, _, _, rfl, _⟩ := h; rfl
/-- a new list of ints by two ints -/
def spNew2 (Pre : Int → Int → Prop) (f : Int → Int → List Int) : Sp := fun vs H Q _ => ∃ m s, vs = [.int m, .int s] ∧ Pre m s ∧ ∀ p H', Same H H' → Fresh H p → H' p = some (.lst ((f m s).map V.int)) → Q (.ref p) H'
theorem rd_spNew2 {Pre : Int → Int → Prop} {f : Int → Int → List Int} {m s : Int} {H : Hp} {Q : VK} {E : XK} : spNew2 Pre f [.int m, .int s] H Q E = (Pre m s ∧ ∀ p H', Same H H' → Fresh H p → H' p = some (.lst ((f m s).map V.int)) → Q (.ref p) H') := by
  unfold spNew2
  apply propext
  constructor
  · rintro ⟨m', s', e, q⟩; cases e; exact q
  · intro q; exact ⟨m, s, rfl, q⟩
theorem len_new2 {Pre : Int → Int → Prop} {f : Int → Int → List Int} {vs H Q E} (h : spNew2 Pre f vs H Q E) : vs.length = 2 := by obtain ⟨_, _, rfl, _⟩ := h; rfl
theorem both {A B : Prop} (a : A) (b : B) : A ∧ B := ⟨a, b⟩
theorem iteB {c A B : Prop} [Decidable c] (h1 : c → A) (h2 : ¬ c → B) : if c then A else B := ite2 h1 h2
/-- // by a divisor of at most 4000 bits -/
theorem divB {i j : Int} (h : 0 < j) (hb : j < 2 ^ 200) : CDivW i j := wide_div (b := 201) h (by
  have e : (2 : Int) ^ 200 = ((2 ^ 200 : Nat) : Int) := by decide +kernel
  have e2 : (2 : Nat) ^ 200 ≤ 2 ^ 201 := by decide +kernel
  omega) (by decide) (by decide)
/-- any int -/
def spAny1 (Post : Int → V → Prop) : Sp := fun vs H Q _ => ∃ a, vs = [.int a] ∧ ∀ v, Post a v → Q v H
theorem rd_spAny1 {Post : Int → V → Prop} {a : Int} {H : Hp} {Q : VK} {E : XK} : spAny1 Post [.int a] H Q E = ∀ v, Post a v → Q v H := by
  unfold spAny1
  apply propext
  constructor
  · rintro ⟨a', e, q⟩; cases e; exact q
  · intro q; exact ⟨a, rfl, q⟩
theorem len_any1 {Post : Int → V → Prop} {vs H Q E} (h : spAny1 Post vs H Q E) : vs.length = 1 := by obtain ⟨_, rfl, _⟩ := h; rfl
theorem go_while {c : TT} {tb : TS} {D : Ends} {σ : L2.St} {H : Hp} (Pv : L2.St → Hp → Prop) (μ : L2.St → Hp → Nat) (h0 : Pv σ H)
    (hs : ∀ (B : Hp → Prop) σ H, Pv σ H → (∀ H1, (∀ N : L2.St → Hp → Prop, (∀ σ' H', Pv σ' H' → μ σ' H' < μ σ H → N σ' H') → tb { D with nx := N, ct := N, bk := D.nx } σ H1) → B H1) →
      c σ H fun b H1 => if b = true then B H1 else D.nx σ H1) : tWhile c tb D σ H := by
  refine ⟨fun m σ H => m = μ σ H ∧ Pv σ H, ⟨_, rfl, h0⟩, ?_⟩
  rintro m σ H ⟨rfl, p⟩
  refine hs (fun H1 => ∃ N : L2.St → Hp → Prop, (∀ σ' H', N σ' H' → ∃ m', m' < μ σ H ∧ m' = μ σ' H' ∧ Pv σ' H') ∧ tb { D with nx := N, ct := N, bk := D.nx } σ H1) σ H p fun H1 h => ?_
  exact ⟨fun σ' H' => Pv σ' H' ∧ μ σ' H' < μ σ H, fun σ' H' ⟨p', l⟩ => ⟨_, l, rfl, p'⟩, h _ fun σ' H' p' l => ⟨p', l⟩⟩
theorem rd_dnewK {σ : L2.St} {H : Hp} {Q : VK} : tDNewK σ H Q = ∀ p, Fresh H p → Q (.ref p) (upd H p (.dK [])) := rfl
theorem rd_dsetd {td ty tx : TE} {σ : L2.St} {H : Hp} {Q : VK} : tDSetd td ty tx σ H Q = td σ H fun x H1 => isRef x fun a => IsD H1 a ∧ ty σ H1 fun y H2 => tx σ H2 fun z H3 => ∃ (kvs : List (Key × V)) (k : Key), H3 a = some (.dK kvs) ∧ y = kV k ∧ kvs.length < sizeLine ∧
  (∀ v, valV kvs k = some v → Q v H3) ∧ (valV kvs k = none → Q z (upd H3 a (.dK (putK kvs k z)))) := by
  unfold tDSetd
  simp only [isRef_eq]
theorem exSq {K : PySem.W.Frag} {H : Hp} {a : Addr} {ms : List Int} {R : List Int → Prop} (h : SqL K H a (ms.map V.int)) (q : R ms) : ∃ ns : List Int, SqL K H a (ns.map V.int) ∧ R ns := ⟨ms, h, q⟩
theorem exSqV {K : PySem.W.Frag} {H : Hp} {a : Addr} {ms : List V} {R : List V → Prop} (h : SqL K H a ms) (q : R ms) : ∃ ns : List V, SqL K H a ns ∧ R ns := ⟨ms, h, q⟩
def rMax2 : List V → Hp → VK → Prop := fun xs H Q => ∃ i j, xs = [.int i, .int j] ∧ Q (.int (if j > i then j else i)) H
def rMin2 : List V → Hp → VK → Prop := fun xs H Q => ∃ i j, xs = [.int i, .int j] ∧ Q (.int (if j < i then j else i)) H
theorem call_max2q {X : Cx} (hc : X.calm = true) : CallR X (.builtin "max") rMax2 := call_max2 hc
theorem call_min2q {X : Cx} (hc : X.calm = true) : CallR X (.builtin "min") rMin2 := call_min2 hc
theorem rd_max2 {i j : Int} {H : Hp} {Q : VK} : rMax2 [.int i, .int j] H Q = Q (.int (if j > i then j else i)) H := by
  unfold rMax2
  apply propext
  constructor
  · rintro ⟨i', j', e, q⟩; cases e; exact q
  · intro q; exact ⟨i, j, rfl, q⟩
theorem rd_min2 {i j : Int} {H : Hp} {Q : VK} : rMin2 [.int i, .int j] H Q = Q (.int (if j < i then j else i)) H := by
  unfold rMin2
  apply propext
  constructor
  · rintro ⟨i', j', e, q⟩; cases e; exact q
  · intro q; exact ⟨i, j, rfl, q⟩
/-- len of a text, a list, a tuple -/
def rLenU (K : PySem.W.Frag) : List V → Hp → VK → Prop := fun xs H Q => (∃ z : Str, xs = [.str z] ∧ z.length ≤ sizeLine ∧ Q (.int z.length) H) ∨ rLen K xs H Q
theorem call_lenU {X : Cx} : CallR X (.builtin "len") (rLenU X.K) := by
  intro pins s σ H xs us Q I r h
  rcases h with h | h
  · exact call_len_str pins s σ H xs us Q I r h
  · exact call_len_seq pins s σ H xs us Q I r h
theorem rd_lenU_str {K : PySem.W.Frag} {z : Str} {H : Hp} {Q : VK} : rLenU K [.str z] H Q = (z.length ≤ sizeLine ∧ Q (.int z.length) H) := by
  unfold rLenU
  apply propext
  constructor
  · rintro (⟨z', e, q⟩ | ⟨p, ys, e, _⟩)
    · cases e; exact q
    · cases e
  · intro q; exact .inl ⟨z, rfl, q⟩
theorem rd_lenU_ref {K : PySem.W.Frag} {p : Addr} {H : Hp} {Q : VK} : rLenU K [.ref p] H Q = ∃ ys, (SqL K H p ys ∨ SqT K H p ys) ∧ Q (.int ys.length) H := by
  unfold rLenU
  rw [rd_len]
  apply propext
  constructor
  · rintro (⟨z', e, q⟩ | q)
    · cases e
    · exact q
  · intro q; exact .inr q
/-! further readings -/
theorem rd_lc {wi : TI} {g : TG} {tt : TT} {te : TE} {vs : List Nat} {σ : L2.St} {H : Hp} {Q : VK} : tLc wi g tt te vs σ H Q = wi σ H fun J H1 => ∀ D, Fresh H1 D → ∃ W : Nat → Nat → Hp → Prop, (∃ m, W 0 m (upd H1 D (.lst []))) ∧ ∀ i m H, W i m H →
  (J.stop i H ∧ Q (.ref D) H) ∨ (J.go i H ∧ ∃ Nx : Hp → Prop, (∀ H', Nx H' → ∃ m', m' < m ∧ W (i + 1) m' H') ∧ ∀ x H', J.yld i H x H' → g x (wipe σ vs) H' fun σ2 H2 => wipe σ2 vs = wipe σ vs ∧ tt σ2 H2 fun b H3 =>
    if b = true then te σ2 H3 fun y H4 => ∃ acc, H4 D = some (.lst acc) ∧ acc.length < sizeLine ∧ Nx (upd H4 D (.lst (acc ++ [y]))) else Nx H3) := rfl
def lcGo (J : It) (g : TG) (tt : TT) (te : TE) (vs : List Nat) (σ : L2.St) (H1 : Hp) (D : Addr) (Qd : Hp → Prop) : Prop := ∃ W : Nat → Nat → Hp → Prop, (∃ m, W 0 m (upd H1 D (.lst []))) ∧ ∀ i m H, W i m H →
  (J.stop i H ∧ Qd H) ∨ (J.go i H ∧ ∃ Nx : Hp → Prop, (∀ H', Nx H' → ∃ m', m' < m ∧ W (i + 1) m' H') ∧ ∀ x H', J.yld i H x H' → g x (wipe σ vs) H' fun σ2 H2 => wipe σ2 vs = wipe σ vs ∧ tt σ2 H2 fun b H3 =>
    if b = true then te σ2 H3 fun y H4 => ∃ acc, H4 D = some (.lst acc) ∧ acc.length < sizeLine ∧ Nx (upd H4 D (.lst (acc ++ [y]))) else Nx H3)
theorem rd_lcg {wi : TI} {g : TG} {tt : TT} {te : TE} {vs : List Nat} {σ : L2.St} {H : Hp} {Q : VK} : tLc wi g tt te vs σ H Q = wi σ H fun J H1 => ∀ D, Fresh H1 D → lcGo J g tt te vs σ H1 D (fun H2 => Q (.ref D) H2) := rfl
/-- a comprehension without tests whose items are told ahead; what was tracked stays -/
theorem go_lcm {J : It} {n : Nat} {G : Hp → Prop} {Y : Nat → Hp → V → Hp → Prop} (w : L2.Walk J n G Y) {g : TG} {te : TE} {vs : List Nat} {σ : L2.St} {H1 : Hp} {D : Addr} {Qd : Hp → Prop} (ys : List V) (hn : ys.length = n) (hz : n ≤ sizeLine) (hD : Fresh H1 D)
    (hG : ∀ H, Same H1 H → G H)
    (hs : ∀ (N : VK) i x H H', i < n → Same H1 H → Y i H x H' → (∀ y H4, ys[i]? = some y → Same H H4 → N y H4) → g x (wipe σ vs) H' fun σ2 H2 => wipe σ2 vs = wipe σ vs ∧ te σ2 H2 N)
    (hd : ∀ H, Same H1 H → H D = some (.lst ys) → Qd H) (mono : ∀ (A B : L2.St → Hp → Prop) x σ H, (∀ σ H, A σ H → B σ H) → g x σ H A → g x σ H B) : lcGo J g tYes te vs σ H1 D Qd := by
  refine lc_it w (fun i H => Same H1 H ∧ H D = some (.lst (ys.take i)) ∧ i ≤ n) ⟨Same_upd (Same.refl _) hD, by rw [upd_same, List.take_zero], Nat.zero_le _⟩ (fun i H _ h => hG H h.1) ?_ ?_
  · rintro i x H H' hi ⟨sm, hL, hin⟩ hY
    obtain ⟨y0, hy0⟩ : ∃ y, ys[i]? = some y := ⟨_, List.getElem?_eq_getElem (by omega)⟩
    refine mono _ _ _ _ _ ?_ (hs (fun y H4 => ∃ acc, H4 D = some (.lst acc) ∧ acc.length < sizeLine ∧ (Same H1 (upd H4 D (.lst (acc ++ [y]))) ∧ (upd H4 D (.lst (acc ++ [y]))) D = some (.lst (ys.take (i + 1))) ∧ i + 1 ≤ n)) i x H H' hi sm hY ?_)
    · rintro σ2 H2 ⟨e, h⟩
      refine ⟨e, ?_⟩
      unfold tYes
      dsimp only
      rw [if_pos rfl]
      exact h
    · intro y H4 hy s4
      refine ⟨ys.take i, s4 _ _ hL, by rw [List.length_take]; omega, Same_upd0 (sm.trans s4) hD, ?_, hi⟩
      rw [upd_same]
      obtain ⟨h1, h2⟩ := List.getElem?_eq_some_iff.mp hy
      rw [List.take_succ_eq_append_getElem h1, h2]
  · rintro H ⟨sm, hL, -⟩
    rw [List.take_of_length_le (by omega)] at hL
    exact hd H sm hL
theorem gName_mono {i : Nat} : ∀ (A B : L2.St → Hp → Prop) x σ H, (∀ σ H, A σ H → B σ H) → gName i x σ H A → gName i x σ H B := fun _ _ _ _ _ h q => h _ _ q
theorem rd_wipe0 {σ : L2.St} : wipe σ [] = σ := rfl
theorem rd_wipe1 {σ : L2.St} {v : Nat} {vs : List Nat} : wipe σ (v :: vs) = (wipe σ vs).set v none := rfl
def rAddT : R2 := fun x y H Q => ∃ i j, x = .str i ∧ y = .str j ∧ i.length + j.length ≤ sizeLine ∧ Q (.str (i ++ j)) H
theorem op_addT {X : Cx} : OpR X (binaryOp .Add) rAddT := op_add_str
theorem rd_addT {a b : Str} {H : Hp} {Q : VK} : rAddT (.str a) (.str b) H Q = (a.length + b.length ≤ sizeLine ∧ Q (.str (a ++ b)) H) := by
  unfold rAddT
  apply propext
  constructor
  · rintro ⟨i, j, e1, e2, q⟩; cases e1; cases e2; exact q
  · intro q; exact ⟨a, b, rfl, rfl, q⟩
theorem rd_ixS {z : Str} {i : Int} {H : Hp} {Q : VK} : rIxS (.str z) (.int i) H Q = ∃ c, z.length ≤ sizeLine ∧ atI z.cps.toList i = some c ∧ Q (.str ⟨#[c]⟩) H := by
  unfold rIxS
  apply propext
  constructor
  · rintro ⟨z', i', c, e1, e2, q⟩; cases e1; cases e2; exact ⟨c, q⟩
  · rintro ⟨c, q⟩; exact ⟨z, i, c, rfl, rfl, q⟩
theorem rd_ixT {K : PySem.W.Frag} {p : Addr} {i : Int} {H : Hp} {Q : VK} : rIxT K (.ref p) (.int i) H Q = ∃ xs v, SqT K H p xs ∧ atI xs i = some v ∧ Q v H := by
  unfold rIxT
  apply propext
  constructor
  · rintro ⟨p', xs, i', v, e1, e2, q⟩; cases e1; cases e2; exact ⟨xs, v, q⟩
  · rintro ⟨xs, v, q⟩; exact ⟨p, xs, i, v, rfl, rfl, q⟩
theorem rd_slS {z : Str} {lo hi : Option Int} {H : Hp} {Q : VK} : rSlS (.str z) lo hi H Q = (z.length ≤ sizeLine ∧ Q (.str (cutS z lo hi)) H) := by
  unfold rSlS
  apply propext
  constructor
  · rintro ⟨z', e, q⟩; cases e; exact q
  · intro q; exact ⟨z, rfl, q⟩
def rJoin (K : PySem.W.Frag) : V → List V → Hp → VK → Prop := fun x xs H Q => ∃ a p, ∃ ys : List Str, x = .str a ∧ xs = [.ref p] ∧ (SqL K H p (ys.map V.str) ∨ SqT K H p (ys.map V.str)) ∧
  (ys.map (·.length)).sum + ys.length * a.length ≤ 16777216 ∧ Q (.str (Txt.join a ys)) H
theorem mt_joinq {X : Cx} : MtR X "str.join" (rJoin X.K) := mt_join
theorem rd_M1 {r : V → List V → Hp → VK → Prop} {to te : TE} {σ : L2.St} {H : Hp} {Q : VK} : tM1 r to te σ H Q = to σ H fun x H1 => isStr x (fun _ => True) ∧ te σ H1 fun y H2 => r x [y] H2 Q := by
  unfold tM1
  apply congrArg
  funext x H1
  rw [show (∃ a, x = V.str a) = isStr x (fun _ => True) from by rw [← isStr_eq]; simp]
theorem rd_join {K : PySem.W.Frag} {a : Str} {p : Addr} {H : Hp} {Q : VK} : rJoin K (.str a) [.ref p] H Q = ∃ ys : List Str, (SqL K H p (ys.map V.str) ∨ SqT K H p (ys.map V.str)) ∧ (ys.map (·.length)).sum + ys.length * a.length ≤ 16777216 ∧ Q (.str (Txt.join a ys)) H := by
  unfold rJoin
  apply propext
  constructor
  · rintro ⟨a', p', ys, e1, e2, q⟩; cases e1; cases e2; exact ⟨ys, q⟩
  · rintro ⟨ys, q⟩; exact ⟨a, p, ys, rfl, rfl, q⟩
def rTupOf (K : PySem.W.Frag) : List V → Hp → VK → Prop := fun xs H Q => ∃ p ys, xs = [.ref p] ∧ ((SqL K H p ys ∧ ∀ l, H l = none → Q (.ref l) (upd H l (.tup ys))) ∨ (SqT K H p ys ∧ Q (.ref p) H))
theorem call_tupleq {X : Cx} : CallR X (.type "tuple") (rTupOf X.K) := call_tuple_of
theorem rd_tupOf {K : PySem.W.Frag} {p : Addr} {H : Hp} {Q : VK} : rTupOf K [.ref p] H Q = ∃ ys, ((SqL K H p ys ∧ ∀ l, Fresh H l → Q (.ref l) (upd H l (.tup ys))) ∨ (SqT K H p ys ∧ Q (.ref p) H)) := by
  unfold rTupOf
  apply propext
  constructor
  · rintro ⟨p', ys, e, q⟩; cases e; exact ⟨ys, q⟩
  · rintro ⟨ys, q⟩; exact ⟨p, ys, rfl, q⟩
def rListOf (K : PySem.W.Frag) : List V → Hp → VK → Prop := fun xs H Q => ∃ p ys, xs = [.ref p] ∧ (SqL K H p ys ∨ SqT K H p ys) ∧ ∀ l, H l = none → Q (.ref l) (upd H l (.lst ys))
theorem call_listq {X : Cx} : CallR X (.type "list") (rListOf X.K) := call_list_of
theorem rd_listOf {K : PySem.W.Frag} {p : Addr} {H : Hp} {Q : VK} : rListOf K [.ref p] H Q = ∃ ys, (SqL K H p ys ∨ SqT K H p ys) ∧ ∀ l, Fresh H l → Q (.ref l) (upd H l (.lst ys)) := by
  unfold rListOf
  apply propext
  constructor
  · rintro ⟨p', ys, e, q⟩; cases e; exact ⟨ys, q⟩
  · rintro ⟨ys, q⟩; exact ⟨p, ys, rfl, q⟩
theorem rd_gTup {K : PySem.W.Frag} {n : Nat} {t : TGs} {a : Addr} {σ : L2.St} {H : Hp} {R : L2.St → Hp → Prop} : gTup K n t (.ref a) σ H R = ∃ xs, SqT K H a xs ∧ xs.length = n ∧ t xs σ H R := by
  unfold gTup
  apply propext
  constructor
  · rintro ⟨a', xs, e, q⟩; cases e; exact ⟨xs, q⟩
  · rintro ⟨xs, q⟩; exact ⟨a, xs, rfl, q⟩
theorem rd_gCons {t : TG} {u : TGs} {v : V} {r : List V} {σ : L2.St} {H : Hp} {R : L2.St → Hp → Prop} : gCons t u (v :: r) σ H R = t v σ H fun σ' H' => u r σ' H' R := by
  unfold gCons
  apply propext
  constructor
  · rintro ⟨v', r', e, q⟩; cases e; exact q
  · intro q; exact ⟨v, r, rfl, q⟩
theorem rd_gNil {σ : L2.St} {H : Hp} {R : L2.St → Hp → Prop} : gNil [] σ H R = R σ H := by
  unfold gNil
  simp
theorem rd_isB {a b : Bool} {H : Hp} {Q : VK} : rIsB (.bl a) (.bl b) H Q = Q (.bl (decide (a = b))) H := by
  unfold rIsB
  apply propext
  constructor
  · rintro ⟨a', b', e1, e2, q⟩; cases e1; cases e2; exact q
  · intro q; exact ⟨a, b, rfl, rfl, q⟩
theorem rd_notB {a b : Bool} {H : Hp} {Q : VK} : rNotB (.bl a) (.bl b) H Q = Q (.bl (!decide (a = b))) H := by
  unfold rNotB
  apply propext
  constructor
  · rintro ⟨a', b', e1, e2, q⟩; cases e1; cases e2; exact q
  · intro q; exact ⟨a, b, rfl, rfl, q⟩
/-! texts by their code points -/
theorem S_item (c : Nat) : (⟨#[c]⟩ : Str) = SX.S [c] := rfl
theorem S_list (l : List Nat) : (SX.S l).cps.toList = l := by simp
theorem joinL_nil : ∀ ls : List (List Nat), TL.joinL [] ls = ls.flatten
  | [] => rfl
  | [p] => by simp [TL.joinL]
  | p :: q :: r => by
    rw [TL.joinL, joinL_nil (q :: r)]
    simp
theorem join_empty {e : Str} (he : e = SX.S []) (ls : List (List Nat)) : Txt.join e (ls.map SX.S) = SX.S ls.flatten := by
  rw [he, SX.join_S, joinL_nil]
theorem cut_S (l : List Nat) (lo hi : Option Int) : cutS (SX.S l) lo hi = SX.S ((l.drop (HT.sIx l.length 0 lo)).take (HT.sIx l.length l.length hi - HT.sIx l.length 0 lo)) := by
  unfold cutS
  rw [SX.S_len, S_list]
theorem lens_sum (ls : List (List Nat)) : ((ls.map SX.S).map (·.length)).sum = ls.flatten.length := by
  rw [SX.lens, List.length_flatten]
theorem own_nil : List.map (fun x : Str × Nat => x.2) [] = [] := rfl
theorem own_cons {a : Str} {n : Nat} {l : List (Str × Nat)} : List.map (fun x : Str × Nat => x.2) ((a, n) :: l) = n :: List.map (fun x : Str × Nat => x.2) l := rfl
theorem cut_hi {l : List V} {n : Int} (h0 : 0 ≤ n) : cutV l none (some n) = l.take n.toNat := by
  unfold cutV
  obtain ⟨z, rfl⟩ : ∃ z : Nat, n = (z : Int) := ⟨n.toNat, by omega⟩
  rw [HT.sIx_none, HT.sIx_nat, Int.toNat_natCast]
  simp only [List.drop_zero, Nat.sub_zero]
  by_cases h : z ≤ l.length
  · rw [Nat.min_eq_left h]
  · rw [Nat.min_eq_right (by omega), List.take_of_length_le (Nat.le_refl _), List.take_of_length_le (by omega)]
theorem cut_lo {l : List V} {n : Int} (h0 : 0 ≤ n) : cutV l (some n) none = l.drop n.toNat := by
  unfold cutV
  obtain ⟨z, rfl⟩ : ∃ z : Nat, n = (z : Int) := ⟨n.toNat, by omega⟩
  rw [HT.sIx_none, HT.sIx_nat, Int.toNat_natCast]
  by_cases h : z ≤ l.length
  · rw [Nat.min_eq_left h, List.take_of_length_le (by rw [List.length_drop]; omega)]
  · rw [Nat.min_eq_right (by omega), List.drop_of_length_le (Nat.le_refl _), List.drop_of_length_le (show l.length ≤ z by omega)]
    simp
theorem cut_span {l : List V} {a b : Int} (h0 : 0 ≤ a) (h1 : a ≤ b) : (cutV l (some a) (some b)).length ≤ (b - a).toNat := by
  unfold cutV
  obtain ⟨z, rfl⟩ : ∃ z : Nat, a = (z : Int) := ⟨a.toNat, by omega⟩
  obtain ⟨y, rfl⟩ : ∃ z : Nat, b = (z : Int) := ⟨b.toNat, by omega⟩
  rw [HT.sIx_nat, HT.sIx_nat, List.length_take, List.length_drop]
  omega
end My
namespace My
open PySem PySem.W
theorem and_m1 (z : Int) : Builtin.bitAnd z (-1) = z := by
  show Spec.bitAnd z (-1) = z
  unfold Spec.bitAnd
  have h : decide ((0 : Int) ≤ -1) = false := by decide
  rw [h]
  cases e : decide (0 ≤ z) with
  | true =>
    have e' := of_decide_eq_true e
    have h2 : (Spec.bitNot (-1)).toNat = 0 := by decide
    simp [h2]
  | false =>
    have e' := of_decide_eq_false e
    have h2 : (Spec.bitNot (-1)).toNat = 0 := by decide
    simp only [h2, Nat.or_zero]
    unfold Spec.bitNot
    omega
theorem or_one (x : Int) : Builtin.bitOr x 1 = x + 1 - x % 2 := by
  have h : Builtin.bitOr x 1 = Spec.bitNot (Builtin.bitAnd (Spec.bitNot x) (Spec.bitNot 1)) := rfl
  have h1 : Spec.bitNot 1 = -2 := by decide
  rw [h, h1, kbt_halves]
  have h2 : (-2 : Int) / 2 = -1 := by decide
  have h3 : ¬ ((-2 : Int) % 2 = 1) := by decide
  rw [h2, and_m1, if_neg (fun c => h3 c.2)]
  unfold Spec.bitNot
  omega
def strideF (m : Int) : Int := Builtin.bitOr (m / 32) 1
def probeF (m s c : Int) : Int := Builtin.bitAnd (m + c * strideF m) (s - 1)
theorem strideF_eq (m : Int) : strideF m = m / 32 + 1 - m / 32 % 2 := or_one _
theorem probeF_eq (m c : Int) (k : Nat) : probeF m (2 ^ k) c = (m + c * strideF m) % 2 ^ k := kbt_mask _ k
/-- the slots of probes, one after the other -/
def slotI (m s : Int) : Nat → Int
  | 0 => Builtin.bitAnd m (s - 1)
  | i + 1 => Builtin.bitAnd (slotI m s i + strideF m) (s - 1)
def probesF (m s : Int) : List Int := (List.range s.toNat).map (slotI m s)
theorem slotI_eq (m : Int) (k : Nat) : ∀ i : Nat, slotI m (2 ^ k) i = (m + i * strideF m) % 2 ^ k
  | 0 => by
    rw [slotI, kbt_mask]
    simp
  | i + 1 => by
    rw [slotI, kbt_mask, slotI_eq m k i, Int.emod_add_emod]
    congr 1
    rw [Int.natCast_add, Int.add_mul, Int.add_assoc]
    simp
theorem pow_le {j n : Nat} (h : j ≤ n) : (0 : Int) < 2 ^ j ∧ (2 : Int) ^ j ≤ 2 ^ n := by
  have a : (2 : Nat) ^ j ≤ 2 ^ n := Nat.pow_le_pow_right (by decide) h
  have b : 0 < (2 : Nat) ^ j := Nat.pow_pos (by decide)
  have e : ((2 ^ j : Nat) : Int) = (2 : Int) ^ j := by norm_cast
  have e2 : ((2 ^ n : Nat) : Int) = (2 : Int) ^ n := by norm_cast
  omega
theorem pow8 (n : Nat) : (8 : Int) * 2 ^ n = 2 ^ (n + 3) := by
  rw [Int.pow_add, Int.mul_comm]
  rfl
/-- a slot is told by its count -/
theorem slot_of {m f st d S : Int} (h0 : 0 ≤ d) (h1 : d < S) (h : (m + f * st - d) % S = 0) : d = (m + f * st) % S := by
  have e : (m + f * st) % S = (m + f * st - d + d) % S := by rw [Int.sub_add_cancel]
  rw [e, Int.add_emod, h, Int.zero_add, Int.emod_emod, Int.emod_eq_of_lt h0 h1]
end My
namespace My
open PySem PySem.Spec PyProof.Rows L2
/-! things as data: keys (num, txt, tup), and what is none -/
inductive Ky where
  | num (i : Int) | txt (x : Str) | tup (ks : List Ky) | bl (b : Bool) | non | lst (n : Nat) | dct
mutual
def Ky.beq : Ky → Ky → Bool
  | .num i, .num j => decide (i = j)
  | .txt x, .txt y => decide (x = y)
  | .tup xs, .tup ys => Ky.beqs xs ys
  | .bl x, .bl y => decide (x = y)
  | .non, .non => true
  | .lst n, .lst m => decide (n = m)
  | .dct, .dct => true
  | _, _ => false
def Ky.beqs : List Ky → List Ky → Bool
  | [], [] => true
  | x :: xs, y :: ys => Ky.beq x y && Ky.beqs xs ys
  | [], _ :: _ => false
  | _ :: _, [] => false
end
mutual
theorem Ky.beq_iff : ∀ x y : Ky, Ky.beq x y = true ↔ x = y
  | .num i, y => by cases y <;> simp [Ky.beq]
  | .txt x, y => by cases y <;> simp [Ky.beq]
  | .tup xs, .tup ys => by
    rw [Ky.beq, Ky.beqs_iff xs ys]
    simp
  | .tup xs, .num _ => by simp [Ky.beq]
  | .tup xs, .txt _ => by simp [Ky.beq]
  | .tup xs, .bl _ => by simp [Ky.beq]
  | .tup xs, .non => by simp [Ky.beq]
  | .tup xs, .lst _ => by simp [Ky.beq]
  | .tup xs, .dct => by simp [Ky.beq]
  | .bl b, y => by cases y <;> simp [Ky.beq]
  | .non, y => by cases y <;> simp [Ky.beq]
  | .lst n, y => by cases y <;> simp [Ky.beq]
  | .dct, y => by cases y <;> simp [Ky.beq]
theorem Ky.beqs_iff : ∀ xs ys : List Ky, Ky.beqs xs ys = true ↔ xs = ys
  | [], [] => by simp [Ky.beqs]
  | x :: xs, y :: ys => by
    rw [Ky.beqs, Bool.and_eq_true, Ky.beq_iff x y, Ky.beqs_iff xs ys]
    simp
  | [], _ :: _ => by simp [Ky.beqs]
  | _ :: _, [] => by simp [Ky.beqs]
end
instance : DecidableEq Ky := fun x y => if h : Ky.beq x y = true then .isTrue ((Ky.beq_iff x y).mp h) else .isFalse fun e => h ((Ky.beq_iff x y).mpr e)
mutual
def Ky.good : Ky → Bool
  | .num _ => true
  | .txt x => PyData.strOk x
  | .tup ks => Ky.goods ks
  | _ => false
def Ky.goods : List Ky → Bool
  | [] => true
  | k :: ks => Ky.good k && Ky.goods ks
end
mutual
def Ky.toD : Ky → PyData
  | .num i => .int i
  | .txt x => .str x
  | .tup ks => .tuple (Ky.toDs ks)
  | _ => .none
def Ky.toDs : List Ky → List PyData
  | [] => []
  | k :: ks => Ky.toD k :: Ky.toDs ks
end
mutual
def Ky.dep : Ky → Nat
  | .tup ks => Ky.deps ks + 1
  | _ => 0
def Ky.deps : List Ky → Nat
  | [] => 0
  | k :: ks => max (Ky.dep k) (Ky.deps ks)
end
mutual
theorem Ky.eqv : ∀ x y : Ky, x.good = true → y.good = true → PyData.eqv x.toD y.toD = Ky.beq x y
  | .num i, .num j, _, _ => by
    simp only [Ky.toD, PyData.eqv, Ky.beq]
    exact Bool.beq_eq_decide_eq i j
  | .txt x, .txt y, _, _ => by
    simp only [Ky.toD, PyData.eqv, Ky.beq]
    exact Bool.beq_eq_decide_eq x y
  | .tup xs, .tup ys, h, g => by
    simp only [Ky.toD, PyData.eqv, Ky.beq]
    exact Ky.eqvs xs ys (by simpa [Ky.good] using h) (by simpa [Ky.good] using g)
  | .num _, .txt _, _, _ => by simp [Ky.toD, PyData.eqv, Ky.beq]
  | .num _, .tup _, _, _ => by simp [Ky.toD, PyData.eqv, Ky.beq]
  | .txt _, .num _, _, _ => by simp [Ky.toD, PyData.eqv, Ky.beq]
  | .txt _, .tup _, _, _ => by simp [Ky.toD, PyData.eqv, Ky.beq]
  | .tup _, .num _, _, _ => by simp [Ky.toD, PyData.eqv, Ky.beq]
  | .tup _, .txt _, _, _ => by simp [Ky.toD, PyData.eqv, Ky.beq]
  | .bl _, _, h, _ => by simp [Ky.good] at h
  | .non, _, h, _ => by simp [Ky.good] at h
  | .lst _, _, h, _ => by simp [Ky.good] at h
  | .dct, _, h, _ => by simp [Ky.good] at h
  | .num _, .bl _, _, h => by simp [Ky.good] at h
  | .num _, .non, _, h => by simp [Ky.good] at h
  | .num _, .lst _, _, h => by simp [Ky.good] at h
  | .num _, .dct, _, h => by simp [Ky.good] at h
  | .txt _, .bl _, _, h => by simp [Ky.good] at h
  | .txt _, .non, _, h => by simp [Ky.good] at h
  | .txt _, .lst _, _, h => by simp [Ky.good] at h
  | .txt _, .dct, _, h => by simp [Ky.good] at h
  | .tup _, .bl _, _, h => by simp [Ky.good] at h
  | .tup _, .non, _, h => by simp [Ky.good] at h
  | .tup _, .lst _, _, h => by simp [Ky.good] at h
  | .tup _, .dct, _, h => by simp [Ky.good] at h
theorem Ky.eqvs : ∀ xs ys : List Ky, Ky.goods xs = true → Ky.goods ys = true → PyData.eqvAll (Ky.toDs xs) (Ky.toDs ys) = Ky.beqs xs ys
  | [], [], _, _ => by simp [Ky.toDs, PyData.eqvAll, Ky.beqs]
  | x :: xs, y :: ys, h, g => by
    have h' : x.good = true ∧ Ky.goods xs = true := by simpa [Ky.goods] using h
    have g' : y.good = true ∧ Ky.goods ys = true := by simpa [Ky.goods] using g
    simp only [Ky.toDs, PyData.eqvAll, Ky.beqs]
    rw [Ky.eqv x y h'.1 g'.1, Ky.eqvs xs ys h'.2 g'.2]
  | [], _ :: _, _, _ => by simp [Ky.toDs, PyData.eqvAll, Ky.beqs]
  | _ :: _, [], _, _ => by simp [Ky.toDs, PyData.eqvAll, Ky.beqs]
end
mutual
theorem Ky.canLay : ∀ k : Ky, k.good = true → k.toD.canLay0 = true
  | .num _, _ => by simp [Ky.toD, PyData.canLay0]
  | .txt x, h => by
    have h' : PyData.strOk x = true := by simpa [Ky.good] using h
    simpa [Ky.toD, PyData.canLay0] using h'
  | .tup ks, h => by
    simp only [Ky.toD, PyData.canLay0]
    exact Ky.canLays ks (by simpa [Ky.good] using h)
  | .bl _, h => by simp [Ky.good] at h
  | .non, h => by simp [Ky.good] at h
  | .lst _, h => by simp [Ky.good] at h
  | .dct, h => by simp [Ky.good] at h
theorem Ky.canLays : ∀ ks : List Ky, Ky.goods ks = true → PyData.canLayAll0 (Ky.toDs ks) = true
  | [], _ => by simp [Ky.toDs, PyData.canLayAll0]
  | k :: ks, h => by
    have h' : k.good = true ∧ Ky.goods ks = true := by simpa [Ky.goods] using h
    simp only [Ky.toDs, PyData.canLayAll0, Ky.canLay k h'.1, Ky.canLays ks h'.2, Bool.and_self]
end
mutual
theorem Ky.depth_toD : ∀ k : Ky, k.toD.depth = k.dep
  | .tup ks => by
    simp only [Ky.toD, PyData.depth, Ky.dep]
    rw [Ky.depths_toD ks]
  | .num _ => by simp [Ky.toD, PyData.depth, Ky.dep]
  | .txt _ => by simp [Ky.toD, PyData.depth, Ky.dep]
  | .bl _ => by simp [Ky.toD, PyData.depth, Ky.dep]
  | .non => by simp [Ky.toD, PyData.depth, Ky.dep]
  | .lst _ => by simp [Ky.toD, PyData.depth, Ky.dep]
  | .dct => by simp [Ky.toD, PyData.depth, Ky.dep]
theorem Ky.depths_toD : ∀ ks : List Ky, PyData.depthAll (Ky.toDs ks) = Ky.deps ks
  | [] => by simp [Ky.toDs, PyData.depthAll, Ky.deps]
  | k :: ks => by
    simp only [Ky.toDs, PyData.depthAll, Ky.deps]
    rw [Ky.depth_toD k, Ky.depths_toD ks]
end
theorem Ky.shaped {k : Ky} (h : k.good = true) (d : k.dep ≤ 64) : SeqAt.shaped k.toD = true := by
  unfold SeqAt.shaped
  rw [Ky.canLay k h, Ky.depth_toD, decide_eq_true d]
  rfl
mutual
inductive KyAt (H : Hp) : V → Ky → Prop
  | num (i : Int) : KyAt H (.int i) (.num i)
  | txt (x : Str) : KyAt H (.str x) (.txt x)
  | tup {a : Addr} {xs : List V} {ks : List Ky} (h : H a = some (.tup xs)) (p : KysAt H xs ks) : KyAt H (.ref a) (.tup ks)
  | bl (b : Bool) : KyAt H (.bl b) (.bl b)
  | non : KyAt H .non .non
  | lst {a : Addr} {xs : List V} {n : Nat} (h : H a = some (.lst xs)) : KyAt H (.ref a) (.lst n)
  | dct {a : Addr} {kvs : List (Key × V)} (h : H a = some (.dK kvs)) : KyAt H (.ref a) .dct
inductive KysAt (H : Hp) : List V → List Ky → Prop
  | nil : KysAt H [] []
  | cons {v : V} {vs : List V} {k : Ky} {ks : List Ky} (h : KyAt H v k) (t : KysAt H vs ks) : KysAt H (v :: vs) (k :: ks)
end
section
variable {H H' : Hp} {K : PySem.W.Frag}
mutual
theorem KyAt.same (s : Same H H') : ∀ (k : Ky) (v : V), KyAt H v k → KyAt H' v k
  | .num i, _, h => by cases h; exact .num i
  | .txt x, _, h => by cases h; exact .txt x
  | .tup ks, _, h => by
    cases h with
    | tup h p => exact .tup (s _ _ h) (KysAt.same s ks _ p)
  | .bl b, _, h => by cases h; exact .bl b
  | .non, _, h => by cases h; exact .non
  | .lst n, _, h => by
    cases h with
    | lst h => exact .lst (s _ _ h)
  | .dct, _, h => by
    cases h with
    | dct h => exact .dct (s _ _ h)
theorem KysAt.same (s : Same H H') : ∀ (ks : List Ky) (vs : List V), KysAt H vs ks → KysAt H' vs ks
  | [], _, h => by cases h; exact .nil
  | k :: ks, _, h => by
    cases h with
    | cons h t => exact .cons (KyAt.same s k _ h) (KysAt.same s ks _ t)
end
mutual
theorem KyAt.dp : ∀ (k : Ky) (v : V), k.good = true → KyAt H v k → Dp K H v k.toD
  | .num i, _, _, h => by cases h; rw [Ky.toD]; exact .int i
  | .txt x, _, _, h => by cases h; rw [Ky.toD]; exact .str x
  | .tup ks, _, g, h => by
    cases h with
    | tup h p => rw [Ky.toD]; exact .tup (SqT.of h) (KysAt.dp ks _ (by simpa [Ky.good] using g) p)
  | .bl _, _, g, _ => by simp [Ky.good] at g
  | .non, _, g, _ => by simp [Ky.good] at g
  | .lst _, _, g, _ => by simp [Ky.good] at g
  | .dct, _, g, _ => by simp [Ky.good] at g
theorem KysAt.dp : ∀ (ks : List Ky) (vs : List V), Ky.goods ks = true → KysAt H vs ks → DpAll K H vs (Ky.toDs ks)
  | [], _, _, h => by cases h; rw [Ky.toDs]; exact .nil
  | k :: ks, _, g, h => by
    have g' : k.good = true ∧ Ky.goods ks = true := by simpa [Ky.goods] using g
    cases h with
    | cons h t => rw [Ky.toDs]; exact .cons (KyAt.dp k _ g'.1 h) (KysAt.dp ks _ g'.2 t)
end
theorem KysAt.len : ∀ {ks : List Ky} {vs : List V}, KysAt H vs ks → vs.length = ks.length
  | [], _, h => by cases h; rfl
  | k :: ks, _, h => by
    cases h with
    | cons h t => simp [KysAt.len t]
theorem KysAt.get : ∀ {ks : List Ky} {vs : List V} {i : Nat} {v : V}, KysAt H vs ks → vs[i]? = some v → ∃ k, ks[i]? = some k ∧ KyAt H v k
  | [], _, _, _, h, e => by cases h; simp at e
  | k :: ks, _, 0, v, h, e => by
    cases h with
    | cons h t =>
      simp at e
      subst e
      exact ⟨k, rfl, h⟩
  | k :: ks, _, i + 1, v, h, e => by
    cases h with
    | cons h t =>
      obtain ⟨k', e', h'⟩ := KysAt.get (i := i) t (by simpa using e)
      exact ⟨k', by simpa using e', h'⟩
theorem KysAt.append : ∀ {ks ls : List Ky} {vs ws : List V}, KysAt H vs ks → KysAt H ws ls → KysAt H (vs ++ ws) (ks ++ ls)
  | [], _, _, _, h, q => by cases h; exact q
  | k :: ks, _, _, _, h, q => by
    cases h with
    | cons h t => exact .cons h (KysAt.append t q)
/-- two keys compared -/
theorem eq_keys {v w : V} {k l : Ky} {Q : VK} (hv : KyAt H v k) (hw : KyAt H w l) (gk : k.good = true) (gl : l.good = true) (dk : k.dep ≤ 64) (dl : l.dep ≤ 64) (q : Q (.bl (decide (k = l))) H) : rEqD K v w H Q := by
  refine ⟨k.toD, l.toD, KyAt.dp k v gk hv, KyAt.dp l w gl hw, Ky.shaped gk dk, Ky.shaped gl dl, ?_⟩
  rw [Ky.eqv _ _ gk gl]
  have e : Ky.beq k l = decide (k = l) := by
    cases h : Ky.beq k l with
    | true => exact (decide_eq_true ((Ky.beq_iff k l).mp h)).symm
    | false => exact (decide_eq_false fun c => by rw [(Ky.beq_iff k l).mpr c] at h; cases h).symm
  rw [e]
  exact q
end
/-! the stamp -/
abbrev TURN : Int := 2147483647
def stampT (l : List Nat) : Int := l.foldl (fun (h : Int) (c : Nat) => (31 * h + c) % 2147483647) 7
mutual
def Ky.stamp : Ky → Int
  | .num i => i % 2147483647
  | .txt x => stampT x.cps.toList
  | .tup ks => Ky.stamps 11 ks
  | _ => 0
def Ky.stamps : Int → List Ky → Int
  | h, [] => h
  | h, k :: ks => Ky.stamps (Builtin.bitXor (1000003 * h) (Ky.stamp k) % 2147483647) ks
end
theorem stampT_range (l : List Nat) : 0 ≤ stampT l ∧ stampT l < 2147483647 := by
  have h : ∀ (l : List Nat) (a : Int), 0 ≤ a → a < 2147483647 → 0 ≤ l.foldl (fun (h : Int) (c : Nat) => (31 * h + c) % 2147483647) a ∧ l.foldl (fun (h : Int) (c : Nat) => (31 * h + c) % 2147483647) a < 2147483647 := by
    intro l
    induction l with
    | nil => intro a h0 h1; exact ⟨h0, h1⟩
    | cons c l ih => intro a h0 h1; exact ih _ (Int.emod_nonneg _ (by decide)) (Int.emod_lt_of_pos _ (by decide))
  exact h l 7 (by decide) (by decide)
theorem stamps_range : ∀ (ks : List Ky) (a : Int), 0 ≤ a → a < 2147483647 → 0 ≤ Ky.stamps a ks ∧ Ky.stamps a ks < 2147483647
  | [], a, h0, h1 => by rw [Ky.stamps]; exact ⟨h0, h1⟩
  | k :: ks, a, h0, h1 => by rw [Ky.stamps]; exact stamps_range ks _ (by omega) (by omega)
theorem stamp_range : ∀ k : Ky, 0 ≤ k.stamp ∧ k.stamp < 2147483647
  | .num i => by rw [Ky.stamp]; omega
  | .txt x => by rw [Ky.stamp]; exact stampT_range _
  | .tup ks => by rw [Ky.stamp]; exact stamps_range ks 11 (by decide) (by decide)
  | .bl _ => by simp [Ky.stamp]
  | .non => by simp [Ky.stamp]
  | .lst _ => by simp [Ky.stamp]
  | .dct => by simp [Ky.stamp]
theorem stampT_step {l : List Nat} {i c : Nat} (h : l[i]? = some c) : stampT (l.take (i + 1)) = (31 * stampT (l.take i) + c) % 2147483647 := by
  obtain ⟨hi, e⟩ := List.getElem?_eq_some_iff.mp h
  unfold stampT
  rw [List.take_succ_eq_append_getElem hi, List.foldl_append, e]
  rfl
theorem stamps_append : ∀ (a : Int) (xs ys : List Ky), Ky.stamps a (xs ++ ys) = Ky.stamps (Ky.stamps a xs) ys
  | a, [], ys => by simp [Ky.stamps]
  | a, x :: xs, ys => by
    rw [List.cons_append, Ky.stamps, Ky.stamps]
    exact stamps_append _ xs ys
theorem stamps_step {ks : List Ky} {i : Nat} {k : Ky} (a : Int) (h : ks[i]? = some k) : Ky.stamps a (ks.take (i + 1)) = Builtin.bitXor (1000003 * Ky.stamps a (ks.take i)) k.stamp % 2147483647 := by
  obtain ⟨hi, e⟩ := List.getElem?_eq_some_iff.mp h
  rw [List.take_succ_eq_append_getElem hi, stamps_append, e, Ky.stamps, Ky.stamps]
theorem dep_of_mem : ∀ {ks : List Ky} {i : Nat} {k : Ky}, ks[i]? = some k → k.dep ≤ Ky.deps ks
  | [], i, k, h => by simp at h
  | x :: xs, 0, k, h => by
    simp at h
    subst h
    rw [Ky.deps]
    omega
  | x :: xs, i + 1, k, h => by
    have := dep_of_mem (ks := xs) (i := i) (k := k) (by simpa using h)
    rw [Ky.deps]
    omega
/-- stamp of a key so deep -/
def spStamp (n : Nat) : Sp := fun vs H Q _ => ∃ v k, vs = [v] ∧ KyAt H v k ∧ (k.good = true ∧ k.dep ≤ n) ∧ Q (.int k.stamp) H
theorem rd_spStamp {n : Nat} {v : V} {H : Hp} {Q : VK} {E : XK} : spStamp n [v] H Q E = ∃ k, KyAt H v k ∧ (k.good = true ∧ k.dep ≤ n) ∧ Q (.int k.stamp) H := by
  unfold spStamp
  apply propext
  constructor
  · rintro ⟨v', k, e, q⟩; cases e; exact ⟨k, q⟩
  · rintro ⟨k, q⟩; exact ⟨v, k, rfl, q⟩
theorem len_stamp {n : Nat} {vs H Q E} (h : spStamp n vs H Q E) : vs.length = 1 := by obtain ⟨_, _, rfl, _⟩ := h; rfl
def rOrd : List V → Hp → VK → Prop := fun xs H Q => ∃ x : Str, xs = [.str x] ∧ x.length = 1 ∧ Q (.int (x.cps.getD 0 0 : Nat)) H
theorem call_ordq {X : Cx} : CallR X (.builtin "ord") rOrd := call_ord
theorem rd_ord {c : Nat} {H : Hp} {Q : VK} : rOrd [.str ⟨#[c]⟩] H Q = Q (.int c) H := by
  unfold rOrd
  apply propext
  constructor
  · rintro ⟨x, e, _, q⟩; cases e; exact q
  · intro q; exact ⟨_, rfl, rfl, q⟩
/-! what is a key -/
def within : Nat → Ky → Bool
  | _, .num i => decide (-(10 ^ 60) < i ∧ i < 10 ^ 60)
  | _, .txt x => decide (x.length ≤ 60)
  | 0, .tup _ => false
  | d + 1, .tup ks => decide (ks.length ≤ 6) && ks.all (within d)
  | _, _ => false
mutual
def Ky.fit : Ky → Bool
  | .txt x => decide (x.length ≤ 16777216)
  | .tup ks => Ky.fits ks
  | _ => true
def Ky.fits : List Ky → Bool
  | [] => true
  | k :: ks => Ky.fit k && Ky.fits ks
end
theorem fits_get : ∀ {ks : List Ky} {i : Nat} {k : Ky}, Ky.fits ks = true → ks[i]? = some k → k.fit = true
  | [], i, k, _, h => by simp at h
  | x :: xs, 0, k, g, h => by
    have g' : x.fit = true ∧ Ky.fits xs = true := by simpa [Ky.fits] using g
    simp at h
    subst h
    exact g'.1
  | x :: xs, i + 1, k, g, h => by
    have g' : x.fit = true ∧ Ky.fits xs = true := by simpa [Ky.fits] using g
    exact fits_get (ks := xs) (i := i) g'.2 (by simpa using h)
def spWithin (n : Nat) : Sp := fun vs H Q _ => ∃ (v : V) (k : Ky) (d : Nat), vs = [v, .int d] ∧ KyAt H v k ∧ (k.fit = true ∧ d ≤ n) ∧ Q (.bl (within d k)) H
theorem len_within {n : Nat} {vs H Q E} (h : spWithin n vs H Q E) : vs.length = 2 := by obtain ⟨_, _, _, rfl, _⟩ := h; rfl
def spKeyB : Sp := fun vs H Q _ => ∃ (v : V) (k : Ky), vs = [v] ∧ KyAt H v k ∧ k.fit = true ∧ Q (.bl (within 3 k)) H
theorem len_keyB {vs H Q E} (h : spKeyB vs H Q E) : vs.length = 1 := by obtain ⟨_, _, rfl, _⟩ := h; rfl
theorem goods_get : ∀ {ks : List Ky} {i : Nat} {k : Ky}, Ky.goods ks = true → ks[i]? = some k → k.good = true
  | [], i, k, _, h => by simp at h
  | x :: xs, 0, k, g, h => by
    have g' : x.good = true ∧ Ky.goods xs = true := by simpa [Ky.goods] using g
    simp at h
    subst h
    exact g'.1
  | x :: xs, i + 1, k, g, h => by
    have g' : x.good = true ∧ Ky.goods xs = true := by simpa [Ky.goods] using g
    exact goods_get (ks := xs) (i := i) g'.2 (by simpa using h)
theorem goods_append : ∀ {xs ys : List Ky}, Ky.goods xs = true → Ky.goods ys = true → Ky.goods (xs ++ ys) = true
  | [], _, _, h => h
  | x :: xs, ys, g, h => by
    have g' : x.good = true ∧ Ky.goods xs = true := by simpa [Ky.goods] using g
    rw [List.cons_append, Ky.goods, g'.1, goods_append g'.2 h]
    rfl
theorem nums_at {H : Hp} : ∀ ns : List Int, KysAt H (ns.map V.int) (ns.map Ky.num)
  | [] => .nil
  | n :: ns => .cons (.num n) (nums_at ns)
theorem within_mono : ∀ {d e : Nat}, d ≤ e → ∀ k : Ky, within d k = true → within e k = true
  | d, e, h, .num i, q => by cases d <;> cases e <;> simpa [within] using q
  | d, e, h, .txt x, q => by cases d <;> cases e <;> simpa [within] using q
  | 0, e, h, .tup ks, q => by simp [within] at q
  | d + 1, 0, h, .tup ks, q => by omega
  | d + 1, e + 1, h, .tup ks, q => by
    simp only [within, Bool.and_eq_true, List.all_eq_true] at q ⊢
    exact ⟨q.1, fun y hy => within_mono (by omega) y (q.2 y hy)⟩
  | d, e, h, .bl b, q => by cases d <;> simp [within] at q
  | d, e, h, .non, q => by cases d <;> simp [within] at q
  | d, e, h, .lst n, q => by cases d <;> simp [within] at q
  | d, e, h, .dct, q => by cases d <;> simp [within] at q
end My
namespace My
open PySem PySem.Spec PyProof.Rows L2
/-- the ninety-four signs -/
def signs : List Nat := [32, 33, 34, 35, 36, 38, 39, 40, 41, 42, 43, 44, 45, 46, 47, 48, 49, 50, 51, 52, 53, 54, 55, 56, 57, 58, 59, 60, 61, 62, 63, 64, 65, 66, 67, 68, 69, 70, 71, 72, 73, 74, 75, 76, 77, 78, 79, 80, 81, 82, 83, 84, 85, 86, 87, 88, 89, 90, 91, 92, 93, 94, 95, 96, 97, 98, 99, 100, 101, 102, 103, 104, 105, 106, 107, 108, 109, 110, 111, 112, 113, 114, 115, 116, 117, 118, 119, 120, 121, 122, 123, 124, 125, 126]
theorem signs_len : signs.length = 94 := rfl
theorem signs_ok : ∀ c ∈ signs, 32 ≤ c ∧ c ≤ 126 := by decide
def signAt (n : Int) : Nat := signs.getD n.toNat 0
theorem signAt_some {n : Int} (h0 : 0 ≤ n) (h1 : n < 94) : atI signs n = some (signAt n) := by
  obtain ⟨j, rfl⟩ : ∃ j : Nat, n = (j : Int) := ⟨n.toNat, by omega⟩
  have hj : j < signs.length := by rw [signs_len]; omega
  refine atI_nat ?_
  unfold signAt
  rw [Int.toNat_natCast, List.getD_eq_getElem?_getD, List.getElem?_eq_getElem hj]
  rfl
theorem signAt_ok {n : Int} (h0 : 0 ≤ n) (h1 : n < 94) : 32 ≤ signAt n ∧ signAt n ≤ 126 := by
  have hj : n.toNat < signs.length := by rw [signs_len]; omega
  unfold signAt
  rw [List.getD_eq_getElem?_getD, List.getElem?_eq_getElem hj]
  exact signs_ok _ (List.getElem_mem hj)
def codesOk (l : List Nat) : Prop := ∀ c ∈ l, 32 ≤ c ∧ c ≤ 126
theorem strOk_of {l : List Nat} (h : codesOk l) : PyData.strOk (SX.S l) = true := by
  show (SX.S l).cps.all (· < 0x110000) = true
  rw [← Array.all_toList]
  rw [List.all_eq_true]
  intro c hc
  have := h c (by simpa using hc)
  exact decide_eq_true (by omega)
theorem signs_text : (Str.ofString " !\"#$&'()*+,-./0123456789:;<=>?@ABCDEFGHIJKLMNOPQRSTUVWXYZ[\\]^_`" ++ Str.ofString "abcdefghijklmnopqrstuvwxyz{|}~" : Str) = SX.S signs := by decide +kernel
theorem signAt_val {n : Int} (h0 : 0 ≤ n) (h1 : n < 94) : (signAt n : Int) = if n < 5 then n + 32 else n + 33 := by
  obtain ⟨j, rfl⟩ : ∃ j : Nat, n = (j : Int) := ⟨n.toNat, by omega⟩
  have h : (List.range 94).all (fun j => decide ((signAt (j : Int) : Int) = if (j : Int) < 5 then (j : Int) + 32 else (j : Int) + 33)) = true := by decide +kernel
  exact of_decide_eq_true ((List.all_eq_true.mp h) j (List.mem_range.mpr (by omega)))
/-- a row of signs by numbers -/
def rowS (cs : List Int) : List Nat := cs.map fun n => signAt (n % 94)
theorem rowS_ok (cs : List Int) : codesOk (rowS cs) := by
  intro c hc
  obtain ⟨n, _, rfl⟩ := List.mem_map.mp hc
  exact signAt_ok (Int.emod_nonneg _ (by decide)) (Int.emod_lt_of_pos _ (by decide))
theorem rowS_len (cs : List Int) : (rowS cs).length = cs.length := List.length_map _
/-- single signs -/
theorem flat_one : ∀ l : List Nat, (l.map fun c => [c]).flatten = l
  | [] => rfl
  | c :: l => by rw [List.map_cons, List.flatten_cons, flat_one l]; rfl
theorem ones_str (l : List Nat) : (l.map fun c => V.str ⟨#[c]⟩) = ((l.map fun c => [c]).map SX.S).map V.str := by
  rw [List.map_map, List.map_map]
  rfl
theorem empty_S : Str.ofString "" = SX.S [] := by decide +kernel
/-- the join of a list of single signs -/
theorem join_ones {K : PySem.W.Frag} {H : Hp} {p : Addr} {l : List Nat} {R : List Str → Prop} (h : SqL K H p (l.map fun c => V.str ⟨#[c]⟩)) (hz : l.length ≤ 1000) (q : ∀ ys, Txt.join (Str.ofString "") ys = SX.S l → R ys) :
    ∃ ys : List Str, (SqL K H p (ys.map V.str) ∨ SqT K H p (ys.map V.str)) ∧ (ys.map (·.length)).sum + ys.length * (Str.ofString "").length ≤ 16777216 ∧ R ys := by
  refine ⟨(l.map fun c => [c]).map SX.S, .inl (by rw [← ones_str]; exact h), ?_, q _ ?_⟩
  · rw [lens_sum, flat_one, empty_S, SX.S_len]
    simp
    omega
  · rw [join_empty empty_S, flat_one]
theorem stampT_cons {a b c d : Nat} {h t : List Nat} (e : 31 * (a : Int) + b = 31 * (c : Int) + d) : stampT (h ++ [a, b] ++ t) = stampT (h ++ [c, d] ++ t) := by
  unfold stampT
  rw [List.foldl_append, List.foldl_append, List.foldl_append, List.foldl_append]
  congr 1
  simp only [List.foldl_cons, List.foldl_nil]
  generalize List.foldl (fun (h : Int) (c : Nat) => (31 * h + c) % 2147483647) 7 h = x
  omega
theorem codesOk_append {a b : List Nat} (h : codesOk a) (g : codesOk b) : codesOk (a ++ b) := fun c hc => (List.mem_append.mp hc).elim (h c) (g c)
theorem codesOk_take {a : List Nat} (h : codesOk a) (n : Nat) : codesOk (a.take n) := fun c hc => h c (List.mem_of_mem_take hc)
theorem codesOk_drop {a : List Nat} (h : codesOk a) (n : Nat) : codesOk (a.drop n) := fun c hc => h c (List.mem_of_mem_drop hc)
theorem codesOk_two {a b : Nat} (h : 32 ≤ a ∧ a ≤ 126) (g : 32 ≤ b ∧ b ≤ 126) : codesOk [a, b] := fun c hc => by
  rcases List.mem_cons.mp hc with rfl | hc
  · exact h
  · rcases List.mem_cons.mp hc with rfl | hc
    · exact g
    · cases hc
theorem S_ne {a b : List Nat} (h : a ≠ b) : SX.S a ≠ SX.S b := fun e => h (SX.S_inj e)
end My
namespace My
open PySem PySem.Spec PyProof.Rows L2
/-- the count of a slot -/
def spWhen : Sp := fun vs H Q _ => ∃ (m : Int) (j : Nat) (s : Int), vs = [.int m, .int (2 ^ j), .int s] ∧ (3 ≤ j ∧ j ≤ 12) ∧ (0 ≤ m ∧ m < 2147483647) ∧ (0 ≤ s ∧ s < 2 ^ j) ∧
  ∀ f : Int, 0 ≤ f → f < 2 ^ j → (m + f * strideF m - s) % 2 ^ j = 0 → Q (.int f) H
theorem len_when {vs H Q E} (h : spWhen vs H Q E) : vs.length = 3 := by obtain ⟨_, _, _, rfl, _⟩ := h; rfl
/-- 2^r divides 1 - s * b -/
def Inv2 (s b : Int) (r : Nat) : Prop := ∃ t, 1 - s * b = 2 ^ r * t
theorem inv2_mono {s b : Int} {r q : Nat} (h : Inv2 s b r) (l : q ≤ r) : Inv2 s b q := by
  obtain ⟨t, e⟩ := h
  obtain ⟨d, rfl⟩ : ∃ d, r = q + d := ⟨r - q, by omega⟩
  exact ⟨2 ^ d * t, by rw [e, Int.pow_add, Int.mul_assoc]⟩
theorem inv2_mod {s b : Int} {r j : Nat} (h : Inv2 s b r) (l : r ≤ j) : Inv2 s (b % 2 ^ j) r := by
  obtain ⟨t, e⟩ := h
  obtain ⟨d, rfl⟩ : ∃ d, j = r + d := ⟨j - r, by omega⟩
  refine ⟨t + s * (2 ^ d * (b / 2 ^ (r + d))), ?_⟩
  have e2 : b % 2 ^ (r + d) = b - 2 ^ (r + d) * (b / 2 ^ (r + d)) := Int.emod_def _ _
  have e3 : (2 : Int) ^ (r + d) * (b / 2 ^ (r + d)) = 2 ^ r * (2 ^ d * (b / 2 ^ (r + d))) := by
    rw [← Int.mul_assoc, ← Int.pow_add]
  rw [e2, e3, Int.mul_sub, Int.mul_add, Int.mul_left_comm s]
  omega
theorem inv2_start {s : Int} (h : s % 2 = 1) : Inv2 s s 3 := by
  have h4 : s % 8 = 1 ∨ s % 8 = 3 ∨ s % 8 = 5 ∨ s % 8 = 7 := by omega
  have e := Int.emod_def s 8
  have hs : s = 8 * (s / 8) + s % 8 := by omega
  generalize s / 8 = q at hs
  generalize s % 8 = r at hs h4
  refine ⟨-(8 * (q * q) + 2 * (q * r)) + (1 - r * r) / 8, ?_⟩
  subst hs
  have x : (8 * q + r) * (8 * q + r) = 64 * (q * q) + 16 * (q * r) + r * r := by
    grind
  rw [x]
  rcases h4 with rfl | rfl | rfl | rfl <;> simp <;> omega
theorem inv2_step {s b : Int} {r : Nat} (h : Inv2 s b r) : Inv2 s (b * (2 - s * b)) (2 * r) := by
  obtain ⟨t, e⟩ := h
  refine ⟨t * t, ?_⟩
  have e2 : s * b = 1 - 2 ^ r * t := by omega
  have e3 : s * (b * (2 - s * b)) = (1 - 2 ^ r * t) * (1 + 2 ^ r * t) := by
    rw [← Int.mul_assoc, e2]
    congr 1
    omega
  rw [e3]
  have e4 : (2 : Int) ^ (2 * r) = 2 ^ r * 2 ^ r := by rw [Nat.two_mul, Int.pow_add]
  rw [e4]
  generalize (2 : Int) ^ r = x
  grind
/-- the end -/
theorem inv2_end {m s b d : Int} {j : Nat} (h : Inv2 s b j) (z : (0 : Int) < 2 ^ j) : (m + (d - m) * b % 2 ^ j * s - d) % 2 ^ j = 0 := by
  obtain ⟨t, e⟩ := h
  have e2 : (d - m) * b % 2 ^ j = (d - m) * b - 2 ^ j * ((d - m) * b / 2 ^ j) := Int.emod_def _ _
  rw [e2]
  generalize (d - m) * b / 2 ^ j = q
  generalize (2 : Int) ^ j = x at e
  have e3 : m + ((d - m) * b - x * q) * s - d = x * ((m - d) * t - q * s) := by grind
  rw [e3, Int.mul_emod_right]
end My
local macro_rules | `(tactic| walk_at "rd") => `(tactic| try simp only [↓My.rd_var, ↓My.rd_c, ↓My.rd_op, ↓My.rd_un, ↓My.rd_test, ↓My.rd_B, ↓My.rd_and, ↓My.rd_or, ↓My.rd_not, ↓My.rd_andV, ↓My.rd_orV, ↓My.rd_notV, ↓My.rd_ifE, ↓My.rd_chain, ↓My.rd_ifS, ↓My.rd_ret, ↓My.rd_retN, ↓My.rd_seq, ↓My.rd_dnewK, ↓My.rd_dsetd, ↓My.rd_lcg, ↓My.rd_M1, ↓My.rd_BM, ↓My.rd_BM0, ↓My.rd_gSub, ↓My.rd_next, ↓My.rd_break, ↓My.rd_cont, ↓My.rd_drop, ↓My.rd_asg, ↓My.rd_gName, ↓My.rd_nil, ↓My.rd_cons, ↓My.rd_call, ↓My.rd_CB, ↓My.rd_for, ↓My.rd_rng1, ↓My.rd_rng2, ↓My.rd_iList, ↓My.rd_iTup, ↓My.rd_iStr, ↓My.rd_lst, ↓My.rd_tup, ↓My.rd_sl, ↓My.rd_noPart, ↓My.rd_part,
  My.rd_rI, My.rd_rI0, My.rd_rU, My.rd_eq, My.rd_ne, My.rd_isBl, My.rd_isR1, My.rd_isR2, My.rd_isRef, My.rd_isStr, My.rd_isInt, My.rd_isiF, My.rd_cat, My.rd_append, My.own_nil, My.own_cons, My.rd_wipe0, My.rd_wipe1, My.rd_addT, My.rd_ixS, My.rd_ixT, My.rd_slS, My.rd_join, My.rd_tupOf, My.rd_listOf, My.rd_gTup, My.rd_gCons, My.rd_gNil, My.rd_isB, My.rd_notB, My.rd_rep, My.rd_setL, My.rd_ixL, My.rd_slL, My.rd_len, My.rd_lenU_str, My.rd_lenU_ref, My.rd_spI1, My.rd_spI2, My.rd_spI3, My.rd_spI4, My.rd_whole, My.rd_spCell, My.rd_max2, My.rd_min2, My.rd_spAny1, My.rd_spStamp, My.rd_ord, My.rd_spNew2,
  My.V_int_inj, My.V_bl_inj, My.V_str_inj, My.scal_ii, My.scal_bb, My.scal_ss, My.isi_non_int, My.isi_non_bool, My.isi_non_str, My.isi_non_tuple, My.isi_non_list, My.isi_bl_int, My.isi_bl_bool, My.isi_bl_str, My.isi_bl_tuple, My.isi_bl_list, My.isi_int_int, My.isi_int_bool, My.isi_int_str, My.isi_int_tuple, My.isi_int_list, My.isi_str_int, My.isi_str_bool, My.isi_str_str, My.isi_str_tuple, My.isi_str_list,
  My.st_nil, My.st_arg, My.st_none, My.cxK, Int.zero_add, Int.reduceToNat, Int.reducePow, Int.reduceMul, Int.reduceSub, Int.reduceAdd, Int.reduceNeg, Int.reduceLE, Int.reduceLT, List.getElem?_cons_zero, List.getElem?_cons_succ, List.set_cons_zero, List.set_cons_succ, List.append_nil, List.cons_append, List.nil_append, decide_eq_true_eq, Bool.not_eq_true', decide_eq_false_iff_not, Bool.not_true, Bool.not_false, Bool.false_eq_true, Bool.true_eq_false, if_true, if_false, true_and, and_true, ite_true, ite_false, if_pos, if_neg, ne_eq, not_true_eq_false, not_false_eq_true, reduceIte, Bool.not_not])
local macro_rules | `(tactic| walk_at "spl") => `(tactic| first | exact My.len_spI1 (by assumption) | exact My.len_spI2 (by assumption) | exact My.len_spI3 (by assumption) | exact My.len_spI4 (by assumption) | exact My.len_whole (by assumption) | exact My.len_law (by assumption) | exact My.len_cell (by assumption) | exact My.len_new2 (by assumption) | exact My.len_when (by assumption) | exact My.len_any1 (by assumption) | exact My.len_stamp (by assumption))
local macro_rules | `(tactic| walk_at "ne") => `(tactic| first | assumption | exact Ne.symm (by assumption) | exact My.Fresh.ne (by assumption) (by walk_at "hp") | exact Ne.symm (My.Fresh.ne (by assumption) (by walk_at "hp")))
local macro_rules | `(tactic| walk_at "hp") => `(tactic| first | assumption | exact L2.upd_same | exact (by assumption : L2.Same _ _) _ _ (by walk_at "hp") | (refine Eq.trans (L2.upd_ne ?_) ?_; (walk_at "ne"); (walk_at "hp")))
local macro_rules | `(tactic| walk_at "sq") => `(tactic| first | assumption | exact L2.SqL.of (by walk_at "hp") | exact L2.SqT.of (by walk_at "hp") | (refine L2.Same.seq ?_ (by assumption); walk_at "same"))
local macro_rules | `(tactic| walk_at "same") => `(tactic| first | assumption | exact L2.Same.refl _ | exact My.Same_upd (by walk_at "same") (by assumption) | exact L2.Same.trans (by walk_at "same") (by assumption))
local macro_rules | `(tactic| walk_at "sz") => `(tactic| first | assumption | (with_unfolding_all decide) | (rw [PySem.sizeLine_eq]; simp only [List.length_append, List.length_cons, List.length_nil, List.length_map, List.length_replicate, List.length_take, List.length_drop]; omega))
local macro_rules | `(tactic| walk_at "side") => `(tactic| first | assumption | exact trivial | decide +kernel | omega | exact ⟨by decide +kernel, by decide +kernel⟩ | exact ⟨by decide +kernel, by decide +kernel, by decide +kernel⟩ | exact ⟨by omega, by omega⟩ | exact My.mulL (by omega) (by omega) | exact My.mulR (by omega) (by omega) | exact PySem.IntMulOk.of_bits (by omega) (by omega) | exact My.divB (by omega) (by omega))
local macro_rules | `(tactic| walk_at "dt") => `(tactic| repeat' first | (refine My.both ?_ ?_; (walk_at "side")) | (refine My.iteB (fun _ => ?_) (fun _ => ?_)))
local macro_rules | `(tactic| walk_at "go") => `(tactic| repeat' first | (refine My.exSq (by walk_at "sq") ?_) | (refine My.exSqV (by walk_at "sq") ?_) | (refine My.both ?_ ?_; (walk_at "side")))
namespace Law
open PySem PySem.Spec PyProof.Rows L2 My
def top (i : Nat) : Stmt := PySem.Challenge.pw_slotbook_k15_unlike_keys_with_like_stamp.main.body.getD i (.Pass ⟨0, 0, 0, 0⟩)
abbrev s_stamp : Stmt := top 2
abbrev s_is_within : Stmt := top 8
abbrev s_is_key : Stmt := top 9
abbrev s_law_cell_at : Stmt := top 11
abbrev s_law_whole : Stmt := top 12
abbrev s_law_signs : Stmt := top 13
abbrev s_law_texts : Stmt := top 14
abbrev s_law_stamp_of : Stmt := top 15
abbrev s_law_two : Stmt := top 16
abbrev s_law_within : Stmt := top 17
abbrev s_law : Stmt := top 18
structure Ad where
  a_stamp : Addr
  d_stamp : FuncData
  a_is_within : Addr
  d_is_within : FuncData
  a_is_key : Addr
  d_is_key : FuncData
  a_law_cell_at : Addr
  d_law_cell_at : FuncData
  a_law_whole : Addr
  d_law_whole : FuncData
  a_law_signs : Addr
  d_law_signs : FuncData
  a_law_texts : Addr
  d_law_texts : FuncData
  a_law_stamp_of : Addr
  d_law_stamp_of : FuncData
  a_law_two : Addr
  d_law_two : FuncData
  a_law_within : Addr
  d_law_within : FuncData
  a_law : Addr
  d_law : FuncData
  t_TURN : Tok
  t_FAR : Tok
  t_MOST_SIGNS : Tok
  t_MOST_PARTS : Tok
  t_DEEPEST : Tok
structure Txt (K : PySem.W.Frag) (mg : Str → Option Value) (A : Ad) : Prop where
  F_stamp : Fun K "stamp" "stamp" s_stamp A.a_stamp A.d_stamp
  b_stamp : Binds K A.d_stamp ["key"] []
  m_stamp : mg "stamp" = some (.ref A.a_stamp)
  F_is_within : Fun K "is_within" "is_within" s_is_within A.a_is_within A.d_is_within
  b_is_within : Binds K A.d_is_within ["thing", "deep"] []
  m_is_within : mg "is_within" = some (.ref A.a_is_within)
  F_is_key : Fun K "is_key" "is_key" s_is_key A.a_is_key A.d_is_key
  b_is_key : Binds K A.d_is_key ["thing"] []
  m_is_key : mg "is_key" = some (.ref A.a_is_key)
  F_law_cell_at : Fun K "_law_cell_at" "_law_cell_at" s_law_cell_at A.a_law_cell_at A.d_law_cell_at
  b_law_cell_at : Binds K A.d_law_cell_at ["_law_script", "_law_k"] []
  m_law_cell_at : mg "_law_cell_at" = some (.ref A.a_law_cell_at)
  F_law_whole : Fun K "_law_whole" "_law_whole" s_law_whole A.a_law_whole A.d_law_whole
  b_law_whole : Binds K A.d_law_whole ["_law_found"] []
  m_law_whole : mg "_law_whole" = some (.ref A.a_law_whole)
  F_law_signs : Fun K "_law_signs" "_law_signs" s_law_signs A.a_law_signs A.d_law_signs
  b_law_signs : Binds K A.d_law_signs [] []
  m_law_signs : mg "_law_signs" = some (.ref A.a_law_signs)
  F_law_texts : Fun K "_law_texts" "_law_texts" s_law_texts A.a_law_texts A.d_law_texts
  b_law_texts : Binds K A.d_law_texts ["_law_cells", "_law_one", "_law_two_here", "_law_at"] []
  m_law_texts : mg "_law_texts" = some (.ref A.a_law_texts)
  F_law_stamp_of : Fun K "_law_stamp_of" "_law_stamp_of" s_law_stamp_of A.a_law_stamp_of A.d_law_stamp_of
  b_law_stamp_of : Binds K A.d_law_stamp_of ["_law_text"] []
  m_law_stamp_of : mg "_law_stamp_of" = some (.ref A.a_law_stamp_of)
  F_law_two : Fun K "_law_two" "_law_two" s_law_two A.a_law_two A.d_law_two
  b_law_two : Binds K A.d_law_two ["_law_script"] []
  m_law_two : mg "_law_two" = some (.ref A.a_law_two)
  F_law_within : Fun K "_law_within" "_law_within" s_law_within A.a_law_within A.d_law_within
  b_law_within : Binds K A.d_law_within ["_law_script", "_law_key", "_law_at"] []
  m_law_within : mg "_law_within" = some (.ref A.a_law_within)
  F_law : Fun K "law" "law" s_law A.a_law A.d_law
  b_law : Binds K A.d_law ["_law_script"] []
  m_law : mg "law" = some (.ref A.a_law)
  g_TURN : mg "TURN" = some (.int 2147483647 A.t_TURN)
  g_FAR : mg "FAR" = some (.int 1000000000000000000000000000000000000000000000000000000000000 A.t_FAR)
  g_MOST_SIGNS : mg "MOST_SIGNS" = some (.int 60 A.t_MOST_SIGNS)
  g_MOST_PARTS : mg "MOST_PARTS" = some (.int 6 A.t_MOST_PARTS)
  g_DEEPEST : mg "DEEPEST" = some (.int 3 A.t_DEEPEST)
  n_bool : mg "bool" = none
  n_int : mg "int" = none
  n_isinstance : mg "isinstance" = none
  n_len : mg "len" = none
  n_ord : mg "ord" = none
  n_range : mg "range" = none
  n_str : mg "str" = none
  n_tuple : mg "tuple" = none
theorem sc_stamp : FnScope ["key", "found", "sign", "part"] ["key"] (defScope s_stamp) := ⟨rfl, rfl, rfl, by decide +kernel, rfl, by decide +kernel, by decide +kernel⟩
theorem ok_stamp0 {P : Program} {w : World} {K : PySem.W.Frag} {mg : Str → Option Value} {base : Heap} {A : Ad} (T : Txt K mg A) : FnOk P w K mg base CX0 1 A.a_stamp A.d_stamp ["key"] (spStamp 0) := by
  refine T.F_stamp.ok sc_stamp (fun vs H Q E h => ?_) (fun cdv A' outer s H vs Q E hr h => ?_)
  · walk_at "spl"
  · have nd := sc_stamp.nd
    have hu := hu_of hr
    refine ⟨_, (pss_cons (ps_if (pt_val (pe_callB call_isiF rfl T.n_isinstance (by decide +kernel) (pa_cons (pv 0) (pa_cons (pe_bltn (v := .ty "int") rfl T.n_int (by decide +kernel) rfl) pa_nil)))) (pss_one (ps_ret (pe_op op_mod (pv 0) (pe_glob (v := .int 2147483647) rfl T.g_TURN ⟨_, rfl⟩)))) pss_nil) (pss_cons (ps_if (pt_val (pe_callB call_isiF rfl T.n_isinstance (by decide +kernel) (pa_cons (pv 0) (pa_cons (pe_bltn (v := .ty "str") rfl T.n_str (by decide +kernel) rfl) pa_nil)))) (pss_cons (ps_set (i := 1) nd rfl (Or.inl rfl) pe_int) (pss_cons (ps_for PassesOwn.never rfl (pi_str (pv 0)) (pg_name (i := 2) nd rfl (Or.inl rfl)) (pss_one (ps_set (i := 1) nd rfl (Or.inl rfl) (pe_op op_mod (pe_op op_add (pe_op op_mulX pe_int (pv 1)) (pe_callB call_ordq rfl T.n_ord (by decide +kernel) (pa_cons (pv 2) pa_nil))) (pe_glob (v := .int 2147483647) rfl T.g_TURN ⟨_, rfl⟩))))) (pss_one (ps_ret (pv 1))))) pss_nil) pss_never)), ?_⟩
    clear nd
    obtain ⟨v, y, rfl, hk, hd, k⟩ := h
    cases hk with
    | num i =>
      walk_at "rd"
      rw [Ky.stamp] at k
      exact k
    | txt x =>
      walk_at "rd"
      rw [Ky.stamp] at k
      refine go_it walk_str (fun i σ H' => ∃ v2 v3, σ = [some (.str x), some (.int (stampT (x.cps.toList.take i))), v2, v3] ∧ H' = H) ⟨_, _, rfl, rfl⟩ (fun _ _ _ _ _ => trivial) ?_ ?_
      · rintro N i v σ H' H2 hi ⟨v2, v3, rfl, rfl⟩ ⟨rfl, c, hc, rfl⟩ hN
        walk_at "rd"
        exact ⟨mulL (by decide) (by decide), hN _ _ ⟨_, _, by rw [stampT_step (by simpa using hc)], rfl⟩⟩
      · rintro σ H' ⟨v2, v3, rfl, rfl⟩
        walk_at "rd"
        rw [show x.cps.size = x.cps.toList.length by simp, List.take_length]
        exact k
    | tup h p => have := hd.2; rw [Ky.dep] at this; omega
    | _ => have := hd.1; simp [Ky.good] at this
theorem ok_stampS {P : Program} {w : World} {K : PySem.W.Frag} {mg : Str → Option Value} {base : Heap} {A : Ad} (T : Txt K mg A) {n : Nat} (G : FnOk P w K mg base CX0 (n + 1) A.a_stamp A.d_stamp ["key"] (spStamp n)) : FnOk P w K mg base CX0 (n + 1 + 1) A.a_stamp A.d_stamp ["key"] (spStamp (n + 1)) := by
  refine T.F_stamp.ok sc_stamp (fun vs H Q E h => ?_) (fun cdv A' outer s H vs Q E hr h => ?_)
  · walk_at "spl"
  · have nd := sc_stamp.nd
    have hu := hu_of hr
    refine ⟨_, (pss_cons (ps_if (pt_val (pe_callB call_isiF rfl T.n_isinstance (by decide +kernel) (pa_cons (pv 0) (pa_cons (pe_bltn (v := .ty "int") rfl T.n_int (by decide +kernel) rfl) pa_nil)))) (pss_one (ps_ret (pe_op op_mod (pv 0) (pe_glob (v := .int 2147483647) rfl T.g_TURN ⟨_, rfl⟩)))) pss_nil) (pss_cons (ps_if (pt_val (pe_callB call_isiF rfl T.n_isinstance (by decide +kernel) (pa_cons (pv 0) (pa_cons (pe_bltn (v := .ty "str") rfl T.n_str (by decide +kernel) rfl) pa_nil)))) (pss_cons (ps_set (i := 1) nd rfl (Or.inl rfl) pe_int) (pss_cons (ps_for PassesOwn.never rfl (pi_str (pv 0)) (pg_name (i := 2) nd rfl (Or.inl rfl)) (pss_one (ps_set (i := 1) nd rfl (Or.inl rfl) (pe_op op_mod (pe_op op_add (pe_op op_mulX pe_int (pv 1)) (pe_callB call_ordq rfl T.n_ord (by decide +kernel) (pa_cons (pv 2) pa_nil))) (pe_glob (v := .int 2147483647) rfl T.g_TURN ⟨_, rfl⟩))))) (pss_one (ps_ret (pv 1))))) pss_nil) (pss_cons (ps_set (i := 1) nd rfl (Or.inl rfl) pe_int) (pss_cons (ps_for PassesOwn.never rfl (pi_tup (pv 0)) (pg_name (i := 3) nd rfl (Or.inl rfl)) (pss_one (ps_set (i := 1) nd rfl (Or.inl rfl) (pe_op op_mod (pe_op op_xor (pe_op op_mulX pe_int (pv 1)) (pe_call G hr rfl T.m_stamp T.F_stamp.kp T.b_stamp .nil pass0 (pa_cons (pv 3) pa_nil))) (pe_glob (v := .int 2147483647) rfl T.g_TURN ⟨_, rfl⟩))))) (pss_one (ps_ret (pv 1))))))), ?_⟩
    clear nd
    obtain ⟨v, y, rfl, hk, hd, k⟩ := h
    cases hk with
    | num i =>
      walk_at "rd"
      rw [Ky.stamp] at k
      exact k
    | txt x =>
      walk_at "rd"
      rw [Ky.stamp] at k
      refine go_it walk_str (fun i σ H' => ∃ v2 v3, σ = [some (.str x), some (.int (stampT (x.cps.toList.take i))), v2, v3] ∧ H' = H) ⟨_, _, rfl, rfl⟩ (fun _ _ _ _ _ => trivial) ?_ ?_
      · rintro N i v σ H' H2 hi ⟨v2, v3, rfl, rfl⟩ ⟨rfl, c, hc, rfl⟩ hN
        walk_at "rd"
        exact ⟨mulL (by decide) (by decide), hN _ _ ⟨_, _, by rw [stampT_step (by simpa using hc)], rfl⟩⟩
      · rintro σ H' ⟨v2, v3, rfl, rfl⟩
        walk_at "rd"
        rw [show x.cps.size = x.cps.toList.length by simp, List.take_length]
        exact k
    | @tup a xs ks h p =>
      walk_at "rd"
      simp only [isi_tup_int h, isi_tup_str h]
      walk_at "rd"
      rw [Ky.stamp] at k
      rw [Ky.dep] at hd
      refine ⟨⟨_, SqT.of h⟩, go_tup (fun i σ H' => ∃ v2 v3, σ = [some (.ref a), some (.int (Ky.stamps 11 (ks.take i))), v2, v3] ∧ H' = H) ⟨_, _, rfl, rfl⟩ (fun i σ H' _ ⟨_, _, _, e⟩ => by rw [e]; exact SqT.of h) ?_ ?_⟩
      · rintro N i x σ H' hx ⟨v2, v3, rfl, rfl⟩ hN
        obtain ⟨y, hy, hv⟩ := p.get hx
        walk_at "rd"
        refine ⟨mulL (by decide) (by decide), y, hv, ⟨goods_get (by simpa [Ky.good] using hd.1) hy, ?_⟩, hN _ _ ⟨_, _, by rw [stamps_step 11 hy], rfl⟩⟩
        have := dep_of_mem hy
        have := hd.2
        omega
      · rintro σ H' ⟨v2, v3, rfl, rfl⟩
        walk_at "rd"
        rw [p.len, List.take_length]
        exact k
    | _ => have := hd.1; simp [Ky.good] at this
theorem ok_stamp {P : Program} {w : World} {K : PySem.W.Frag} {mg : Str → Option Value} {base : Heap} {A : Ad} (T : Txt K mg A) : ∀ n : Nat, FnOk P w K mg base CX0 (n + 1) A.a_stamp A.d_stamp ["key"] (spStamp n)
  | 0 => ok_stamp0 T
  | n + 1 => ok_stampS T (ok_stamp T n)
theorem sc_law_whole : FnScope ["_law_found"] ["_law_found"] (defScope s_law_whole) := ⟨rfl, rfl, rfl, by decide +kernel, rfl, by decide +kernel, by decide +kernel⟩
theorem ok_law_whole {P : Program} {w : World} {K : PySem.W.Frag} {mg : Str → Option Value} {base : Heap} {A : Ad} (T : Txt K mg A) : FnOk P w K mg base CX0 1 A.a_law_whole A.d_law_whole ["_law_found"] spWhole := by
  refine T.F_law_whole.ok sc_law_whole (fun vs H Q E h => ?_) (fun cdv A' outer s H vs Q E hr h => ?_)
  · walk_at "spl"
  · have nd := sc_law_whole.nd
    have hu := hu_of hr
    refine ⟨_, (pss_one (ps_ret (pe_and (pe_callB call_isiF rfl T.n_isinstance (by decide +kernel) (pa_cons (pv 0) (pa_cons (pe_bltn (v := .ty "int") rfl T.n_int (by decide +kernel) rfl) pa_nil))) (pe_one (pe_not (pe_callB call_isiF rfl T.n_isinstance (by decide +kernel) (pa_cons (pv 0) (pa_cons (pe_bltn (v := .ty "bool") rfl T.n_bool (by decide +kernel) rfl) pa_nil)))))))), ?_⟩
    clear nd
    obtain ⟨x, rfl, hx, k⟩ := h
    cases x with
    | ref a =>
      rcases hx with ⟨xs, e⟩ | ⟨xs, e⟩ | ⟨xs, e⟩
      · walk_at "rd"; simp only [isi_tup_int e]; walk_at "rd"; exact k
      · walk_at "rd"; simp only [isi_lst_int e]; walk_at "rd"; exact k
      · walk_at "rd"; simp only [isi_dK_int e]; walk_at "rd"; exact k
    | int n => walk_at "rd"; exact k
    | bl n => walk_at "rd"; exact k
    | non => walk_at "rd"; exact k
    | str n => walk_at "rd"; exact k
    | _ => exact hx.elim
theorem sc_law_cell_at : FnScope ["_law_script", "_law_k"] ["_law_script", "_law_k"] (defScope s_law_cell_at) := ⟨rfl, rfl, rfl, by decide +kernel, rfl, by decide +kernel, by decide +kernel⟩
theorem ok_law_cell_at {P : Program} {w : World} {K : PySem.W.Frag} {mg : Str → Option Value} {base : Heap} {A : Ad} (T : Txt K mg A) : FnOk P w K mg base CX0 1 A.a_law_cell_at A.d_law_cell_at ["_law_script", "_law_k"] (spCell K) := by
  refine T.F_law_cell_at.ok sc_law_cell_at (fun vs H Q E h => ?_) (fun cdv A' outer s H vs Q E hr h => ?_)
  · walk_at "spl"
  · have nd := sc_law_cell_at.nd
    have hu := hu_of hr
    refine ⟨_, (pss_cons (ps_if (pt_cmpR op_lt (pv 1) (pe_callB call_lenU rfl T.n_len PySem.boot_len (pa_cons (pv 0) pa_nil)) (nomark _)) (pss_one (ps_ret (pe_ix ix_list (pv 0) (pv 1) (fun _ _ => rfl)))) pss_nil) (pss_one (ps_ret pe_int))), ?_⟩
    clear nd
    obtain ⟨a, ns, i, rfl, hS, hi, k⟩ := h
    walk_at "rd"
    refine ⟨_, .inl hS, ?_⟩
    rw [List.length_map]
    split
    · rename_i c
      exact ⟨_, _, hS, at_int hi c, k⟩
    · rename_i c
      have e : getI ns i = 0 := by
        unfold getI
        rw [List.getD_eq_getElem?_getD, List.getElem?_eq_none_iff.mpr (by omega)]
        rfl
      rw [e] at k
      exact k

end Law
namespace Law
open PySem PySem.Spec PyProof.Rows L2 My
theorem sc_is_within : FnScope ["thing", "deep", "part"] ["thing", "deep"] (defScope s_is_within) := ⟨rfl, rfl, rfl, by decide +kernel, rfl, by decide +kernel, by decide +kernel⟩
theorem ok_is_within0 {P : Program} {w : World} {K : PySem.W.Frag} {mg : Str → Option Value} {base : Heap} {A : Ad} (T : Txt K mg A) : FnOk P w K mg base CX0 1 A.a_is_within A.d_is_within ["thing", "deep"] (spWithin 0) := by
  refine T.F_is_within.ok sc_is_within (fun vs H Q E h => ?_) (fun cdv A' outer s H vs Q E hr h => ?_)
  · exact len_within h
  · have nd := sc_is_within.nd
    have hu := hu_of hr
    refine ⟨_, (pss_cons (ps_if (pt_val (pe_callB call_isiF rfl T.n_isinstance (by decide +kernel) (pa_cons (pv 0) (pa_cons (pe_bltn (v := .ty "bool") rfl T.n_bool (by decide +kernel) rfl) pa_nil)))) (pss_one (ps_ret pe_bl)) pss_nil) (pss_cons (ps_if (pt_val (pe_callB call_isiF rfl T.n_isinstance (by decide +kernel) (pa_cons (pv 0) (pa_cons (pe_bltn (v := .ty "int") rfl T.n_int (by decide +kernel) rfl) pa_nil)))) (pss_one (ps_ret (pe_chain op_lt op_lt (pe_un un_neg (pe_glob (v := .int 1000000000000000000000000000000000000000000000000000000000000) rfl T.g_FAR ⟨_, rfl⟩)) (pv 0) (pe_glob (v := .int 1000000000000000000000000000000000000000000000000000000000000) rfl T.g_FAR ⟨_, rfl⟩)))) pss_nil) (pss_cons (ps_if (pt_val (pe_callB call_isiF rfl T.n_isinstance (by decide +kernel) (pa_cons (pv 0) (pa_cons (pe_bltn (v := .ty "str") rfl T.n_str (by decide +kernel) rfl) pa_nil)))) (pss_one (ps_ret (pe_cmpR op_le (pe_callB call_lenU rfl T.n_len PySem.boot_len (pa_cons (pv 0) pa_nil)) (pe_glob (v := .int 60) rfl T.g_MOST_SIGNS ⟨_, rfl⟩) (nomark _)))) pss_nil) (pss_cons (ps_if (PW.pt (pw_or (pt_not (pt_val (pe_callB call_isiF rfl T.n_isinstance (by decide +kernel) (pa_cons (pv 0) (pa_cons (pe_bltn (v := .ty "tuple") rfl T.n_tuple (by decide +kernel) rfl) pa_nil))))) (pw_or (pt_cmpR op_eq (pv 1) pe_int (nomark _)) (pw_or1 (pt_cmpR op_gt (pe_callB call_lenU rfl T.n_len PySem.boot_len (pa_cons (pv 0) pa_nil)) (pe_glob (v := .int 6) rfl T.g_MOST_PARTS ⟨_, rfl⟩) (nomark _)))))) (pss_one (ps_ret pe_bl)) pss_nil) pss_never)))), ?_⟩
    clear nd
    obtain ⟨v, y, d, rfl, hk, hd, k⟩ := h
    cases hk with
    | num i =>
      walk_at "rd"
      simp only [within] at k
      refine iteB (fun c => ?_) fun c => ?_
      · rw [show decide (-(10 : Int) ^ 60 < i ∧ i < 10 ^ 60) = decide (i < 1000000000000000000000000000000000000000000000000000000000000) from by
          rw [decide_eq_decide]
          exact ⟨fun h => by omega, fun h => by omega⟩] at k
        exact k
      · rw [decide_eq_false (by omega)] at k
        exact k
    | txt x =>
      walk_at "rd"
      simp only [within] at k
      refine ⟨by have := hd.1; simp only [Ky.fit] at this; rw [sizeLine_eq]; exact of_decide_eq_true this, ?_⟩
      rw [show decide (x.length ≤ 60) = decide ((x.length : Int) ≤ 60) from by
        rw [decide_eq_decide]
        omega] at k
      exact k
    | bl b => walk_at "rd"; simpa [within] using k
    | non => walk_at "rd"; simpa [within] using k
    | lst h => walk_at "rd"; simp only [isi_lst_bool h, isi_lst_int h, isi_lst_str h, isi_lst_tuple h]; walk_at "rd"; simpa [within] using k
    | dct h => walk_at "rd"; simp only [isi_dK_bool h, isi_dK_int h, isi_dK_str h, isi_dK_tuple h]; walk_at "rd"; simpa [within] using k
    | tup h p =>
      have e : d = 0 := by omega
      subst e
      walk_at "rd"
      simp only [isi_tup_bool h, isi_tup_int h, isi_tup_str h, isi_tup_tuple h]
      walk_at "rd"
      simp only [within] at k
      exact k
theorem ok_is_withinS {P : Program} {w : World} {K : PySem.W.Frag} {mg : Str → Option Value} {base : Heap} {A : Ad} (T : Txt K mg A) {n : Nat} (G : FnOk P w K mg base CX0 (n + 1) A.a_is_within A.d_is_within ["thing", "deep"] (spWithin n)) : FnOk P w K mg base CX0 (n + 1 + 1) A.a_is_within A.d_is_within ["thing", "deep"] (spWithin (n + 1)) := by
  refine T.F_is_within.ok sc_is_within (fun vs H Q E h => ?_) (fun cdv A' outer s H vs Q E hr h => ?_)
  · exact len_within h
  · have nd := sc_is_within.nd
    have hu := hu_of hr
    refine ⟨_, (pss_cons (ps_if (pt_val (pe_callB call_isiF rfl T.n_isinstance (by decide +kernel) (pa_cons (pv 0) (pa_cons (pe_bltn (v := .ty "bool") rfl T.n_bool (by decide +kernel) rfl) pa_nil)))) (pss_one (ps_ret pe_bl)) pss_nil) (pss_cons (ps_if (pt_val (pe_callB call_isiF rfl T.n_isinstance (by decide +kernel) (pa_cons (pv 0) (pa_cons (pe_bltn (v := .ty "int") rfl T.n_int (by decide +kernel) rfl) pa_nil)))) (pss_one (ps_ret (pe_chain op_lt op_lt (pe_un un_neg (pe_glob (v := .int 1000000000000000000000000000000000000000000000000000000000000) rfl T.g_FAR ⟨_, rfl⟩)) (pv 0) (pe_glob (v := .int 1000000000000000000000000000000000000000000000000000000000000) rfl T.g_FAR ⟨_, rfl⟩)))) pss_nil) (pss_cons (ps_if (pt_val (pe_callB call_isiF rfl T.n_isinstance (by decide +kernel) (pa_cons (pv 0) (pa_cons (pe_bltn (v := .ty "str") rfl T.n_str (by decide +kernel) rfl) pa_nil)))) (pss_one (ps_ret (pe_cmpR op_le (pe_callB call_lenU rfl T.n_len PySem.boot_len (pa_cons (pv 0) pa_nil)) (pe_glob (v := .int 60) rfl T.g_MOST_SIGNS ⟨_, rfl⟩) (nomark _)))) pss_nil) (pss_cons (ps_if (PW.pt (pw_or (pt_not (pt_val (pe_callB call_isiF rfl T.n_isinstance (by decide +kernel) (pa_cons (pv 0) (pa_cons (pe_bltn (v := .ty "tuple") rfl T.n_tuple (by decide +kernel) rfl) pa_nil))))) (pw_or (pt_cmpR op_eq (pv 1) pe_int (nomark _)) (pw_or1 (pt_cmpR op_gt (pe_callB call_lenU rfl T.n_len PySem.boot_len (pa_cons (pv 0) pa_nil)) (pe_glob (v := .int 6) rfl T.g_MOST_PARTS ⟨_, rfl⟩) (nomark _)))))) (pss_one (ps_ret pe_bl)) pss_nil) (pss_cons (ps_for PassesOwn.never rfl (pi_tup (pv 0)) (pg_name (i := 2) nd rfl (Or.inl rfl)) (pss_one (ps_if (pt_not (pt_val (pe_call G hr rfl T.m_is_within T.F_is_within.kp T.b_is_within .nil pass0 (pa_cons (pv 2) (pa_cons (pe_op op_sub (pv 1) pe_int) pa_nil))))) (pss_one (ps_ret pe_bl)) pss_nil))) (pss_one (ps_ret pe_bl))))))), ?_⟩
    clear nd
    obtain ⟨v, y, d, rfl, hk, hd, k⟩ := h
    cases hk with
    | num i =>
      walk_at "rd"
      simp only [within] at k
      refine iteB (fun c => ?_) fun c => ?_
      · rw [show decide (-(10 : Int) ^ 60 < i ∧ i < 10 ^ 60) = decide (i < 1000000000000000000000000000000000000000000000000000000000000) from by
          rw [decide_eq_decide]
          exact ⟨fun h => by omega, fun h => by omega⟩] at k
        exact k
      · rw [decide_eq_false (by omega)] at k
        exact k
    | txt x =>
      walk_at "rd"
      simp only [within] at k
      refine ⟨by have := hd.1; simp only [Ky.fit] at this; rw [sizeLine_eq]; exact of_decide_eq_true this, ?_⟩
      rw [show decide (x.length ≤ 60) = decide ((x.length : Int) ≤ 60) from by
        rw [decide_eq_decide]
        omega] at k
      exact k
    | bl b => walk_at "rd"; simpa [within] using k
    | non => walk_at "rd"; simpa [within] using k
    | lst h => walk_at "rd"; simp only [isi_lst_bool h, isi_lst_int h, isi_lst_str h, isi_lst_tuple h]; walk_at "rd"; simpa [within] using k
    | dct h => walk_at "rd"; simp only [isi_dK_bool h, isi_dK_int h, isi_dK_str h, isi_dK_tuple h]; walk_at "rd"; simpa [within] using k
    | @tup a xs ks h p =>
      walk_at "rd"
      simp only [isi_tup_bool h, isi_tup_int h, isi_tup_str h, isi_tup_tuple h]
      walk_at "rd"
      have kf : Ky.fits ks = true := by simpa [Ky.fit] using hd.1
      cases d with
      | zero =>
        simp only [within] at k
        exact iteP rfl k
      | succ d =>
        simp only [within] at k
        refine iteN (by omega) ⟨_, .inr (SqT.of h), ?_⟩
        rw [p.len]
        refine iteB (fun c => ?_) fun c => ⟨⟨_, SqT.of h⟩, go_tup (fun i σ H' => ∃ v2, σ = [some (.ref a), some (.int ((d + 1 : Nat) : Int)), v2] ∧ H' = H ∧ (ks.take i).all (within d) = true) ⟨_, rfl, rfl, rfl⟩ (fun i σ H' _ ⟨_, _, e, _⟩ => by rw [e]; exact SqT.of h) ?_ ?_⟩
        · rw [decide_eq_false (by omega), Bool.false_and] at k
          exact k
        · rintro N i x σ H' hx ⟨v2, rfl, rfl, hi⟩ hN
          obtain ⟨y, hy, hv⟩ := p.get hx
          walk_at "rd"
          refine ⟨x, y, d, by rw [show (((d + 1 : Nat) : Int) - 1) = (d : Int) by omega], hv, ⟨fits_get kf hy, by have := hd.2; omega⟩, ?_⟩
          obtain ⟨hi1, e1⟩ := List.getElem?_eq_some_iff.mp hy
          have et : (ks.take (i + 1)).all (within d) = within d y := by
            rw [List.take_succ_eq_append_getElem hi1, List.all_append, hi, e1]
            simp
          walk_at "rd"
          refine iteB (fun c2 => ?_) fun c2 => hN _ _ ⟨_, rfl, rfl, ?_⟩
          · have ef : ks.all (within d) = false := by
              rw [List.all_eq_false]
              exact ⟨y, List.mem_of_getElem? hy, by simp [c2]⟩
            rw [ef, Bool.and_false] at k
            exact k
          · rw [et]
            simpa using c2
        · rintro σ H' ⟨v2, rfl, rfl, hi⟩
          walk_at "rd"
          rw [p.len, List.take_length] at hi
          rw [hi, decide_eq_true (by omega), Bool.and_true] at k
          exact k
theorem ok_is_within {P : Program} {w : World} {K : PySem.W.Frag} {mg : Str → Option Value} {base : Heap} {A : Ad} (T : Txt K mg A) : ∀ n : Nat, FnOk P w K mg base CX0 (n + 1) A.a_is_within A.d_is_within ["thing", "deep"] (spWithin n)
  | 0 => ok_is_within0 T
  | n + 1 => ok_is_withinS T (ok_is_within T n)
theorem sc_is_key : FnScope ["thing"] ["thing"] (defScope s_is_key) := ⟨rfl, rfl, rfl, by decide +kernel, rfl, by decide +kernel, by decide +kernel⟩
theorem ok_is_key {P : Program} {w : World} {K : PySem.W.Frag} {mg : Str → Option Value} {base : Heap} {A : Ad} (T : Txt K mg A) : FnOk P w K mg base CX0 5 A.a_is_key A.d_is_key ["thing"] spKeyB := by
  refine T.F_is_key.ok sc_is_key (fun vs H Q E h => ?_) (fun cdv A' outer s H vs Q E hr h => ?_)
  · exact len_keyB h
  · have nd := sc_is_key.nd
    have hu := hu_of hr
    refine ⟨_, (pss_one (ps_ret (pe_call (ok_is_within T 3) (hr.mono (by decide)) rfl T.m_is_within T.F_is_within.kp T.b_is_within .nil pass0 (pa_cons (pv 0) (pa_cons (pe_glob (v := .int 3) rfl T.g_DEEPEST ⟨_, rfl⟩) pa_nil))))), ?_⟩
    clear nd
    obtain ⟨v, y, rfl, hk, hd, k⟩ := h
    walk_at "rd"
    exact ⟨v, y, 3, rfl, hk, ⟨hd, Nat.le_refl _⟩, k⟩

end Law
namespace Law
open PySem PySem.Spec PyProof.Rows L2 My
theorem sc_law_signs : FnScope ["_law_some"] [] (defScope s_law_signs) := ⟨rfl, rfl, rfl, by decide +kernel, rfl, by decide +kernel, by decide +kernel⟩
def spSigns : Sp := fun vs H Q _ => vs = [] ∧ Q (.str (SX.S signs)) H
theorem ok_law_signs {P : Program} {w : World} {K : PySem.W.Frag} {mg : Str → Option Value} {base : Heap} {A : Ad} (T : Txt K mg A) : FnOk P w K mg base CX0 1 A.a_law_signs A.d_law_signs [] spSigns := by
  refine T.F_law_signs.ok sc_law_signs (fun vs H Q E h => ?_) (fun cdv A' outer s H vs Q E hr h => ?_)
  · (obtain ⟨rfl, _⟩ := h; rfl)
  · have nd := sc_law_signs.nd
    have hu := hu_of hr
    refine ⟨_, (pss_cons (ps_set (i := 0) nd rfl (Or.inl rfl) pe_str) (pss_one (ps_ret (pe_op op_addT (pv 0) pe_str)))), ?_⟩
    clear nd
    obtain ⟨rfl, k⟩ := h
    walk_at "rd"
    refine ⟨by with_unfolding_all decide, ?_⟩
    rw [signs_text]
    exact k
theorem sc_law_texts : FnScope ["_law_cells", "_law_one", "_law_two_here", "_law_at", "_law_some", "_law_first", "_law_second", "_law_low", "_law_row", "_law_cell", "_law_head", "_law_tail"] ["_law_cells", "_law_one", "_law_two_here", "_law_at"] (defScope s_law_texts) := ⟨rfl, rfl, rfl, by decide +kernel, rfl, by decide +kernel, by decide +kernel⟩
/-- two unlike keys of like stamp -/
structure PairOk (d : Nat) (k l : Ky) : Prop where
  ne : k ≠ l
  st : k.stamp = l.stamp
  w1 : within d k = true
  w2 : within d l = true
  g1 : k.good = true
  g2 : l.good = true
  f1 : k.fit = true
  f2 : l.fit = true
  d1 : k.dep ≤ d
  d2 : l.dep ≤ d
theorem pair_texts {h t : List Nat} {a b c d : Nat} (oh : codesOk h) (ot : codesOk t) (l : h.length + t.length ≤ 58) (oa : 32 ≤ a ∧ a ≤ 126) (ob : 32 ≤ b ∧ b ≤ 126) (oc : 32 ≤ c ∧ c ≤ 126) (od : 32 ≤ d ∧ d ≤ 126) (e : 31 * (a : Int) + b = 31 * (c : Int) + d) (ne : a ≠ c) :
    PairOk 1 (.txt (SX.S (h ++ ([a] ++ [b]) ++ t))) (.txt (SX.S (h ++ ([c] ++ [d]) ++ t))) := by
  have f1 : codesOk (h ++ ([a] ++ [b]) ++ t) := codesOk_append (codesOk_append oh (codesOk_two oa ob)) ot
  have f2 : codesOk (h ++ ([c] ++ [d]) ++ t) := codesOk_append (codesOk_append oh (codesOk_two oc od)) ot
  have z1 : (SX.S (h ++ ([a] ++ [b]) ++ t)).length ≤ 60 := by rw [SX.S_len]; simp; omega
  have z2 : (SX.S (h ++ ([c] ++ [d]) ++ t)).length ≤ 60 := by rw [SX.S_len]; simp; omega
  refine ⟨fun q => ?_, ?_, by simpa [within] using z1, by simpa [within] using z2, by simpa [Ky.good] using strOk_of f1, by simpa [Ky.good] using strOk_of f2, ?_, ?_, by simp [Ky.dep], by simp [Ky.dep]⟩
  · have q1 := SX.S_inj (Ky.txt.inj q)
    rw [List.append_left_inj, List.append_right_inj] at q1
    exact ne (List.cons.inj q1).1
  · simp only [Ky.stamp]
    exact stampT_cons e
  · simp only [Ky.fit]; exact decide_eq_true (by omega)
  · simp only [Ky.fit]; exact decide_eq_true (by omega)
def spTexts (K : PySem.W.Frag) : Sp := fun vs H Q _ => ∃ (p : Addr) (cs : List Int) (one two at_ : Int), vs = [.ref p, .int one, .int two, .int at_] ∧ SqL K H p (cs.map V.int) ∧ cs.length ≤ 58 ∧ (0 ≤ at_ ∧ at_ ≤ cs.length) ∧
  ∀ H' T x y, Same H H' → Fresh H T → H' T = some (.tup [.str x, .str y]) → PairOk 1 (.txt x) (.txt y) → Q (.ref T) H'
theorem len_texts {K : PySem.W.Frag} {vs H Q E} (h : spTexts K vs H Q E) : vs.length = 4 := by obtain ⟨_, _, _, _, _, rfl, _⟩ := h; rfl
theorem ok_law_texts {P : Program} {w : World} {K : PySem.W.Frag} {mg : Str → Option Value} {base : Heap} {A : Ad} (T : Txt K mg A) : FnOk P w K mg base CX0 2 A.a_law_texts A.d_law_texts ["_law_cells", "_law_one", "_law_two_here", "_law_at"] (spTexts K) := by
  refine T.F_law_texts.ok sc_law_texts (fun vs H Q E h => ?_) (fun cdv A' outer s H vs Q E hr h => ?_)
  · exact len_texts h
  · have nd := sc_law_texts.nd
    have hu := hu_of hr
    refine ⟨_, (pss_cons (ps_set (i := 4) nd rfl (Or.inr rfl) (pe_call0 (ok_law_signs T) (hr.mono (by decide)) rfl T.m_law_signs T.F_law_signs.kp T.b_law_signs .nil pass0)) (pss_cons (ps_set (i := 5) nd rfl (Or.inl rfl) (pe_op op_mod (pv 1) pe_int)) (pss_cons (ps_if (pt_cmpR op_ge (pv 5) pe_int (nomark _)) (pss_one (ps_set (i := 5) nd rfl (Or.inl rfl) (pe_op op_add (pv 5) pe_int))) pss_nil) (pss_cons (ps_set (i := 6) nd rfl (Or.inl rfl) (pe_op op_add pe_int (pe_op op_mod (pv 2) pe_int))) (pss_cons (ps_set (i := 7) nd rfl (Or.inl rfl) (pe_op op_sub (pv 6) pe_int)) (pss_cons (ps_if (pt_cmpR op_ge (pv 6) pe_int (nomark _)) (pss_cons (ps_set (i := 6) nd rfl (Or.inl rfl) (pe_op op_add (pv 6) pe_int)) (pss_one (ps_set (i := 7) nd rfl (Or.inl rfl) (pe_op op_sub (pv 6) pe_int)))) pss_nil) (pss_cons (ps_setLc (i := 8) (own := [("_law_cell", 9)]) rfl nd rfl rfl (sw_true rfl rfl rfl (by decide +kernel)) (pi_list (pv 0)) (blkOk_by (own := [("_law_cell", 9)]) (N := ["_law_cells", "_law_one", "_law_two_here", "_law_at", "_law_some", "_law_first", "_law_second", "_law_low", "_law_row", "_law_cell", "_law_head", "_law_tail"]) (sc := defScope s_law_texts) (by decide +kernel)) (fun _ _ _ _ _ => (pg_name (i := 9) nd rfl (Or.inl rfl))) (fun _ _ _ _ _ => pts_nil) (fun _ _ _ _ _ => (pe_ix ix_str (pv 4) (pe_op op_mod (pv 9) pe_int) (fun _ _ => rfl)))) (pss_cons (ps_set (i := 10) nd rfl (Or.inl rfl) (pe_m1 PySem.F.slot_str_join PySem.F.type_str_join mt_joinq pe_str (pe_slice sl_list (pv 8) po_none (po_some (pv 3))))) (pss_cons (ps_set (i := 11) nd rfl (Or.inl rfl) (pe_m1 PySem.F.slot_str_join PySem.F.type_str_join mt_joinq pe_str (pe_slice sl_list (pv 8) (po_some (pv 3)) po_none))) (pss_one (ps_ret (pe_tup (pa_cons (pe_op op_addT (pe_op op_addT (pe_op op_addT (pv 10) (pe_ix ix_str (pv 4) (pv 5) (fun _ _ => rfl))) (pe_ix ix_str (pv 4) (pv 6) (fun _ _ => rfl))) (pv 11)) (pa_cons (pe_op op_addT (pe_op op_addT (pe_op op_addT (pv 10) (pe_ix ix_str (pv 4) (pe_op op_add (pv 5) pe_int) (fun _ _ => rfl))) (pe_ix ix_str (pv 4) (pv 7) (fun _ _ => rfl))) (pv 11)) pa_nil)))))))))))))), ?_⟩
    clear nd
    obtain ⟨p, cs, one, two, at_, rfl, hS, hl, ha, k⟩ := h
    walk_at "rd"
    refine ⟨rfl, ?_⟩
    walk_at "rd"
    refine iteB (fun c1 => iteB (fun c2 => ?_) fun c2 => ?_) fun c1 => iteB (fun c2 => ?_) fun c2 => ?_
    all_goals
      refine ⟨⟨_, hS⟩, fun D hD => go_lcm walk_list ((rowS cs).map fun c => V.str ⟨#[c]⟩) (by rw [List.length_map, List.length_map, rowS_len]) (by rw [List.length_map, sizeLine_eq]; omega) hD (fun H' s => s.seq hS) ?_ ?_ gName_mono⟩
      · rintro N i x H1 H2 hi sm ⟨rfl, hx⟩ hN
        obtain ⟨n, hn, rfl⟩ := ints_at hx
        walk_at "rd"
        have n0 : 0 ≤ n % 94 := Int.emod_nonneg _ (by decide)
        have n1 : n % 94 < 94 := Int.emod_lt_of_pos _ (by decide)
        refine ⟨_, by rw [SX.S_len]; with_unfolding_all decide, signAt_some n0 n1, hN _ _ ?_ (Same.refl _)⟩
        rw [List.getElem?_map, rowS, List.getElem?_map, hn]
        rfl
      · intro H2 s2 hD2
        have hcut1 : cutV ((rowS cs).map fun c => V.str ⟨#[c]⟩) none (some at_) = ((rowS cs).take at_.toNat).map fun c => V.str ⟨#[c]⟩ := by
          unfold cutV
          obtain ⟨z, rfl⟩ : ∃ z : Nat, at_ = (z : Int) := ⟨at_.toNat, by omega⟩
          rw [HT.sIx_none, HT.sIx_nat, List.length_map, rowS_len, Int.toNat_natCast, Nat.min_eq_left (by omega)]
          simp
        have hcut2 : cutV ((rowS cs).map fun c => V.str ⟨#[c]⟩) (some at_) none = ((rowS cs).drop at_.toNat).map fun c => V.str ⟨#[c]⟩ := by
          unfold cutV
          obtain ⟨z, rfl⟩ : ∃ z : Nat, at_ = (z : Int) := ⟨at_.toNat, by omega⟩
          rw [HT.sIx_none, HT.sIx_nat, List.length_map, rowS_len, Int.toNat_natCast, Nat.min_eq_left (by omega)]
          rw [List.take_of_length_le (by rw [List.length_drop, List.length_map, rowS_len]; omega)]
          simp
        have hl1 : ((rowS cs).take at_.toNat).length ≤ 1000 := by rw [List.length_take, rowS_len]; omega
        have hl2 : ((rowS cs).drop at_.toNat).length ≤ 1000 := by rw [List.length_drop, rowS_len]; omega
        refine ⟨_, SqL.of hD2, fun q hq => ?_⟩
        rw [hcut1]
        refine join_ones (SqL.of upd_same) hl1 fun ys ey => ⟨_, SqL.of (by walk_at "hp"), fun r hr' => ?_⟩
        rw [hcut2]
        refine join_ones (SqL.of upd_same) hl2 fun zs ez => ?_
        rw [ey, ez]
        walk_at "rd"
        have hz : (SX.S My.signs).length ≤ sizeLine := by with_unfolding_all decide
        refine ⟨_, hz, signAt_some (by omega) (by omega), ?_, _, hz, signAt_some (by omega) (by omega), ?_, ?_, _, hz, signAt_some (by omega) (by omega), ?_, _, hz, signAt_some (by omega) (by omega), ?_, ?_, by walk_at "sz", fun T hT => ?_⟩
        all_goals try (simp only [SX.S_cat, SX.S_len, List.length_append, List.length_cons, List.length_nil, sizeLine_eq]; omega)
        refine k _ T _ _ (Same_upd (Same_upd (Same_upd s2 hq) hr') hT) (Same_fresh (Same_upd (Same_upd s2 hq) hr') hT) upd_same ?_
        have o1 := rowS_ok cs
        have l1 : ((rowS cs).take at_.toNat).length + ((rowS cs).drop at_.toNat).length ≤ 58 := by rw [List.length_take, List.length_drop, rowS_len]; omega
        rw [SX.S_cat, SX.S_cat, SX.S_cat, SX.S_cat, SX.S_cat, SX.S_cat, List.append_assoc _ [_] [_], List.append_assoc _ [_] [_]]
        refine pair_texts (codesOk_take o1 _) (codesOk_drop o1 _) l1 (signAt_ok (by omega) (by omega)) (signAt_ok (by omega) (by omega)) (signAt_ok (by omega) (by omega)) (signAt_ok (by omega) (by omega)) ?_ ?_
        · rw [signAt_val (by omega) (by omega), signAt_val (by omega) (by omega), signAt_val (by omega) (by omega), signAt_val (by omega) (by omega)]
          repeat' split
          all_goals omega
        · intro e
          have e' : (signAt _ : Int) = signAt _ := congrArg (Int.ofNat) e
          rw [signAt_val (by omega) (by omega), signAt_val (by omega) (by omega)] at e'
          revert e'
          repeat' split
          all_goals omega

end Law
namespace Law
open PySem PySem.Spec PyProof.Rows L2 My
theorem sc_law_stamp_of : FnScope ["_law_text", "_law_total", "_law_sign"] ["_law_text"] (defScope s_law_stamp_of) := ⟨rfl, rfl, rfl, by decide +kernel, rfl, by decide +kernel, by decide +kernel⟩
def spStampOf : Sp := fun vs H Q _ => ∃ x : Str, vs = [.str x] ∧ Q (.int (stampT x.cps.toList)) H
theorem ok_law_stamp_of {P : Program} {w : World} {K : PySem.W.Frag} {mg : Str → Option Value} {base : Heap} {A : Ad} (T : Txt K mg A) : FnOk P w K mg base CX0 1 A.a_law_stamp_of A.d_law_stamp_of ["_law_text"] spStampOf := by
  refine T.F_law_stamp_of.ok sc_law_stamp_of (fun vs H Q E h => ?_) (fun cdv A' outer s H vs Q E hr h => ?_)
  · (obtain ⟨_, rfl, _⟩ := h; rfl)
  · have nd := sc_law_stamp_of.nd
    have hu := hu_of hr
    refine ⟨_, (pss_cons (ps_set (i := 1) nd rfl (Or.inl rfl) pe_int) (pss_cons (ps_for PassesOwn.never rfl (pi_str (pv 0)) (pg_name (i := 2) nd rfl (Or.inl rfl)) (pss_one (ps_set (i := 1) nd rfl (Or.inl rfl) (pe_op op_add (pe_op op_mulX pe_int (pv 1)) (pe_callB call_ordq rfl T.n_ord (by decide +kernel) (pa_cons (pv 2) pa_nil)))))) (pss_one (ps_ret (pe_op op_mod (pv 1) pe_int))))), ?_⟩
    clear nd
    obtain ⟨x, rfl, k⟩ := h
    walk_at "rd"
    refine go_it walk_str (fun i σ H' => ∃ (v2 : Option V) (t : Int), σ = [some (.str x), some (.int t), v2] ∧ H' = H ∧ t % 2147483647 = stampT (x.cps.toList.take i) % 2147483647) ⟨_, _, rfl, rfl, rfl⟩ (fun _ _ _ _ _ => trivial) ?_ ?_
    · rintro N i v σ H' H2 hi ⟨v2, t, rfl, rfl, ht⟩ ⟨rfl, c, hc, rfl⟩ hN
      walk_at "rd"
      refine ⟨mulL (by decide) (by decide), hN _ _ ⟨_, _, rfl, rfl, ?_⟩⟩
      rw [stampT_step (by simpa using hc)]
      omega
    · rintro σ H' ⟨v2, t, rfl, rfl, ht⟩
      walk_at "rd"
      rw [show x.cps.size = x.cps.toList.length by simp, List.take_length] at ht
      have := stampT_range x.cps.toList
      rw [ht, Int.emod_eq_of_lt this.1 this.2]
      exact k
theorem sc_law_two : FnScope ["_law_script", "_law_way", "_law_one", "_law_two_here", "_law_cells", "_law_number", "_law_turns", "_law_some", "_law_text", "_law_cell"] ["_law_script"] (defScope s_law_two) := ⟨rfl, rfl, rfl, by decide +kernel, rfl, by decide +kernel, by decide +kernel⟩
def spTwo (K : PySem.W.Frag) : Sp := fun vs H Q _ => ∃ (a : Addr) (ns : List Int), vs = [.ref a] ∧ SqL K H a (ns.map V.int) ∧ ns.length ≤ 63 ∧
  ∀ H' T v w k l, Same H H' → H' T = some (.tup [v, w]) → KyAt H' v k → KyAt H' w l → PairOk 1 k l → Q (.ref T) H'
theorem len_two {K : PySem.W.Frag} {vs H Q E} (h : spTwo K vs H Q E) : vs.length = 1 := by obtain ⟨_, _, rfl, _⟩ := h; rfl
theorem pair_nums {n m t : Int} (h : m = n + t * 2147483647) (b : -(10 ^ 60) < n ∧ n < 10 ^ 60) (b2 : -(10 ^ 60) < m ∧ m < 10 ^ 60) (h0 : t ≠ 0) : PairOk 1 (.num n) (.num m) := by
  refine ⟨fun e => ?_, ?_, ?_, ?_, by simp [Ky.good], by simp [Ky.good], by simp [Ky.fit], by simp [Ky.fit], by simp [Ky.dep], by simp [Ky.dep]⟩
  · cases e
    omega
  · simp only [Ky.stamp]
    rw [h, Int.add_mul_emod_self_right]
  · simp only [within]; exact decide_eq_true b
  · simp only [within]; exact decide_eq_true b2
theorem pair_mixed {k : Ky} {m t s : Int} (hk : k.stamp = s) (h : m = s + t * 2147483647) (b2 : -(10 ^ 60) < m ∧ m < 10 ^ 60) (w : within 1 k = true) (g : k.good = true) (f : k.fit = true) (d : k.dep ≤ 1) (ne : k ≠ .num m) : PairOk 1 k (.num m) := by
  refine ⟨ne, ?_, w, by simp only [within]; exact decide_eq_true b2, g, by simp [Ky.good], f, by simp [Ky.fit], d, by simp [Ky.dep]⟩
  have := stamp_range k
  simp only [Ky.stamp]
  rw [h, Int.add_mul_emod_self_right, ← hk, Int.emod_eq_of_lt this.1 this.2]
theorem ok_law_two {P : Program} {w : World} {K : PySem.W.Frag} {mg : Str → Option Value} {base : Heap} {A : Ad} (T : Txt K mg A) : FnOk P w K mg base CX0 3 A.a_law_two A.d_law_two ["_law_script"] (spTwo K) := by
  refine T.F_law_two.ok sc_law_two (fun vs H Q E h => ?_) (fun cdv A' outer s H vs Q E hr h => ?_)
  · exact len_two h
  · have nd := sc_law_two.nd
    have hu := hu_of hr
    refine ⟨_, (pss_cons (ps_set (i := 1) nd rfl (Or.inl rfl) (pe_op op_mod (pe_call (ok_law_cell_at T) (hr.mono (by decide)) rfl T.m_law_cell_at T.F_law_cell_at.kp T.b_law_cell_at .nil pass0 (pa_cons (pv 0) (pa_cons pe_int pa_nil))) pe_int)) (pss_cons (ps_set (i := 2) nd rfl (Or.inl rfl) (pe_call (ok_law_cell_at T) (hr.mono (by decide)) rfl T.m_law_cell_at T.F_law_cell_at.kp T.b_law_cell_at .nil pass0 (pa_cons (pv 0) (pa_cons pe_int pa_nil)))) (pss_cons (ps_set (i := 3) nd rfl (Or.inl rfl) (pe_call (ok_law_cell_at T) (hr.mono (by decide)) rfl T.m_law_cell_at T.F_law_cell_at.kp T.b_law_cell_at .nil pass0 (pa_cons (pv 0) (pa_cons pe_int pa_nil)))) (pss_cons (ps_set (i := 4) nd rfl (Or.inl rfl) (pe_slice sl_list (pv 0) (po_some pe_int) (po_some pe_int))) (pss_cons (ps_if (pt_cmpR op_eq (pv 1) pe_int (nomark _)) (pss_cons (ps_set (i := 5) nd rfl (Or.inl rfl) (pe_op op_sub (pe_op op_mod (pv 2) (pe_op op_add (pe_op op_mulX pe_int (pe_op op_pow pe_int pe_int)) pe_int)) (pe_op op_pow pe_int pe_int))) (pss_one (ps_ret (pe_tup (pa_cons (pv 5) (pa_cons (pe_op op_add (pv 5) (pe_op op_mulX (pe_op op_add pe_int (pe_op op_mod (pv 3) (pe_op op_pow pe_int pe_int))) pe_int)) pa_nil)))))) pss_nil) (pss_cons (ps_if (pt_cmpR op_eq (pv 1) pe_int (nomark _)) (pss_one (ps_ret (pe_call (ok_law_texts T) (hr.mono (by decide)) rfl T.m_law_texts T.F_law_texts.kp T.b_law_texts .nil pass0 (pa_cons (pv 4) (pa_cons (pv 2) (pa_cons (pv 3) (pa_cons (pe_op op_mod (pe_call (ok_law_cell_at T) (hr.mono (by decide)) rfl T.m_law_cell_at T.F_law_cell_at.kp T.b_law_cell_at .nil pass0 (pa_cons (pv 0) (pa_cons pe_int pa_nil))) (pe_op op_add (pe_callB call_lenU rfl T.n_len PySem.boot_len (pa_cons (pv 4) pa_nil)) pe_int)) pa_nil))))))) pss_nil) (pss_cons (ps_set (i := 6) nd rfl (Or.inl rfl) (pe_op op_sub (pe_op op_mod (pv 3) pe_int) pe_int)) (pss_cons (ps_if (pt_cmpR op_eq (pv 1) pe_int (nomark _)) (pss_cons (ps_set (i := 7) nd rfl (Or.inr rfl) (pe_call0 (ok_law_signs T) (hr.mono (by decide)) rfl T.m_law_signs T.F_law_signs.kp T.b_law_signs .nil pass0)) (pss_cons (ps_set (i := 8) nd rfl (Or.inl rfl) (pe_m1 PySem.F.slot_str_join PySem.F.type_str_join mt_joinq pe_str (pe_lc (own := [("_law_cell", 9)]) rfl nd (pi_list (pv 4)) (blkOk_by (own := [("_law_cell", 9)]) (N := ["_law_script", "_law_way", "_law_one", "_law_two_here", "_law_cells", "_law_number", "_law_turns", "_law_some", "_law_text", "_law_cell"]) (sc := defScope s_law_two) (by decide +kernel)) (fun _ _ _ _ _ => (pg_name (i := 9) nd rfl (Or.inl rfl))) (fun _ _ _ _ _ => pts_nil) (fun _ _ _ _ _ => (pe_ix ix_str (pv 7) (pe_op op_mod (pv 9) pe_int) (fun _ _ => rfl)))))) (pss_one (ps_ret (pe_tup (pa_cons (pv 8) (pa_cons (pe_op op_add (pe_call (ok_law_stamp_of T) (hr.mono (by decide)) rfl T.m_law_stamp_of T.F_law_stamp_of.kp T.b_law_stamp_of .nil pass0 (pa_cons (pv 8) pa_nil)) (pe_op op_mulX (pv 6) pe_int)) pa_nil))))))) pss_nil) (pss_one (ps_ret (pe_tup (pa_cons (pe_tup pa_nil) (pa_cons (pe_op op_add pe_int (pe_op op_mulX (pv 6) pe_int)) pa_nil))))))))))))), ?_⟩
    clear nd
    obtain ⟨a, ns, rfl, hS, hl, k⟩ := h
    walk_at "rd"
    walk_at "go"
    obtain ⟨ms, em, hm⟩ := cut_map ns (some 5) (some 63)
    have hm58 : ms.length ≤ 58 := by
      have e2 : (cutV (ns.map V.int) (some 5) (some 63)).length ≤ 58 := cut_span (by decide) (by decide)
      rw [em, List.length_map] at e2
      exact e2
    rw [em]
    intro p hp
    have hP : upd H p (HO.lst (ms.map V.int)) p = some (.lst (ms.map V.int)) := upd_same
    have s1 : Same H (upd H p (HO.lst (ms.map V.int))) := by walk_at "same"
    generalize upd H p (HO.lst (ms.map V.int)) = H1 at hP s1 ⊢
    have big : ∀ x : Int, -(10 ^ 19) < x → x < 10 ^ 19 → -(10 ^ 60) < x ∧ x < 10 ^ 60 := fun x h0 h1 => by omega
    refine iteB (fun c0 => ⟨by walk_at "side", by walk_at "side", by walk_at "side", by walk_at "side", by walk_at "side", by walk_at "sz", fun T hT => ?_⟩) fun c0 => iteB (fun c1 => ?_) fun c1 => iteB (fun c2 => ?_) fun c2 => ?_
    · exact k _ T _ _ _ _ (Same_upd s1 hT) upd_same (.num _) (.num _) (pair_nums rfl (big _ (by omega) (by omega)) (big _ (by omega) (by omega)) (by omega))
    · walk_at "go"
      refine ⟨_, .inl (SqL.of hP), ?_⟩
      rw [List.length_map]
      refine ⟨by omega, p, ms, _, _, _, rfl, SqL.of hP, hm58, ⟨Int.emod_nonneg _ (by omega), ?_⟩, fun H' T x y s2 hT eT hp2 => k H' T _ _ _ _ (s1.trans s2) eT (.txt x) (.txt y) hp2⟩
      have := Int.emod_lt_of_pos (getI ns 3) (show (0 : Int) < (ms.length : Int) + 1 by omega)
      omega
    · refine ⟨rfl, ?_⟩
      walk_at "rd"
      refine ⟨⟨_, SqL.of hP⟩, fun D hD => go_lcm walk_list ((rowS ms).map fun c => V.str ⟨#[c]⟩) (by rw [List.length_map, List.length_map, rowS_len]) (by rw [List.length_map, sizeLine_eq]; omega) hD (fun H' s => SqL.of (s _ _ hP)) ?_ ?_ gName_mono⟩
      · rintro N i x H4 H2 hi sm ⟨rfl, hx⟩ hN
        obtain ⟨n, hn, rfl⟩ := ints_at hx
        walk_at "rd"
        have n0 : 0 ≤ n % 94 := Int.emod_nonneg _ (by decide)
        have n1 : n % 94 < 94 := Int.emod_lt_of_pos _ (by decide)
        refine ⟨_, by rw [SX.S_len]; with_unfolding_all decide, signAt_some n0 n1, hN _ _ ?_ (Same.refl _)⟩
        rw [List.getElem?_map, rowS, List.getElem?_map, hn]
        rfl
      · intro H2 s2 hD2
        refine join_ones (SqL.of hD2) (by rw [rowS_len]; omega) fun ys ey => ?_
        rw [ey]
        refine ⟨_, rfl, ?_⟩
        walk_at "rd"
        have sr := stampT_range (rowS ms)
        refine ⟨by walk_at "side", by walk_at "sz", fun T hT => k _ T _ _ _ _ (Same_upd (s1.trans s2) hT) upd_same (.txt _) (.num _) (pair_mixed (s := stampT (rowS ms)) (by rw [Ky.stamp]) rfl (big _ (by omega) (by omega)) ?_ ?_ ?_ (by simp [Ky.dep]) (fun e => by cases e))⟩
        · simp only [within]; exact decide_eq_true (by rw [SX.S_len, rowS_len]; omega)
        · simp only [Ky.good]; exact strOk_of (rowS_ok ms)
        · simp only [Ky.fit]; exact decide_eq_true (by rw [SX.S_len, rowS_len]; omega)
    · refine ⟨by walk_at "sz", fun q hq => ⟨by walk_at "side", by walk_at "sz", fun T hT => k _ T _ _ _ _ (Same_upd (Same_upd s1 hq) hT) upd_same (.tup (xs := []) (by walk_at "hp") .nil) (.num _) (pair_mixed (s := 11) (by simp [Ky.stamp, Ky.stamps]) rfl (big _ (by omega) (by omega)) (by simp [within]) (by simp [Ky.good, Ky.goods]) (by simp [Ky.fit, Ky.fits]) (by simp [Ky.dep, Ky.deps]) (fun e => by cases e))⟩⟩

end Law
namespace Law
open PySem PySem.Spec PyProof.Rows L2 My
theorem sc_law_within : FnScope ["_law_script", "_law_key", "_law_at", "_law_many", "_law_row", "_law_k", "_law_place"] ["_law_script", "_law_key", "_law_at"] (defScope s_law_within) := ⟨rfl, rfl, rfl, by decide +kernel, rfl, by decide +kernel, by decide +kernel⟩
def rowW (ns : List Int) (at_ : Int) : List Int := (List.range (getI ns at_ / 3 % 6).toNat).map fun (k : Nat) => getI ns (at_ + 1 + (k : Int)) % 1000
def placeW (ns : List Int) (at_ : Int) : Nat := (getI ns at_ / 18 % (1 + getI ns at_ / 3 % 6)).toNat
def inW (ns : List Int) (at_ : Int) (k : Ky) : Ky := .tup (((rowW ns at_).take (placeW ns at_)).map Ky.num ++ [k] ++ ((rowW ns at_).drop (placeW ns at_)).map Ky.num)
def spIn (K : PySem.W.Frag) : Sp := fun vs H Q _ => ∃ (a : Addr) (ns : List Int) (v : V) (k : Ky) (at_ : Int), vs = [.ref a, v, .int at_] ∧ SqL K H a (ns.map V.int) ∧ KyAt H v k ∧ 0 ≤ at_ ∧ ∀ H' T, Same H H' → KyAt H' (.ref T) (inW ns at_ k) → Q (.ref T) H'
theorem len_in {K : PySem.W.Frag} {vs H Q E} (h : spIn K vs H Q E) : vs.length = 3 := by obtain ⟨_, _, _, _, _, rfl, _⟩ := h; rfl
theorem ok_law_within {P : Program} {w : World} {K : PySem.W.Frag} {mg : Str → Option Value} {base : Heap} {A : Ad} (T : Txt K mg A) : FnOk P w K mg base CX0 2 A.a_law_within A.d_law_within ["_law_script", "_law_key", "_law_at"] (spIn K) := by
  refine T.F_law_within.ok sc_law_within (fun vs H Q E h => ?_) (fun cdv A' outer s H vs Q E hr h => ?_)
  · exact len_in h
  · have nd := sc_law_within.nd
    have hu := hu_of hr
    refine ⟨_, (pss_cons (ps_set (i := 3) nd rfl (Or.inl rfl) (pe_op op_add pe_int (pe_op op_mod (pe_op op_fdivW (pe_call (ok_law_cell_at T) (hr.mono (by decide)) rfl T.m_law_cell_at T.F_law_cell_at.kp T.b_law_cell_at .nil pass0 (pa_cons (pv 0) (pa_cons (pv 2) pa_nil))) pe_int) pe_int))) (pss_cons (ps_setLc (i := 4) (own := [("_law_k", 5)]) rfl nd rfl rfl (sw_true rfl rfl rfl (by decide +kernel)) (pi_range1 rfl T.n_range (pa_cons (pe_op op_sub (pv 3) pe_int) pa_nil)) (blkOk_by (own := [("_law_k", 5)]) (N := ["_law_script", "_law_key", "_law_at", "_law_many", "_law_row", "_law_k", "_law_place"]) (sc := defScope s_law_within) (by decide +kernel)) (fun _ _ _ _ _ => (pg_name (i := 5) nd rfl (Or.inl rfl))) (fun _ _ _ _ _ => pts_nil) (fun _ _ _ _ _ => (pe_op op_mod (pe_call (ok_law_cell_at T) (hr.mono (by decide)) rfl T.m_law_cell_at T.F_law_cell_at.kp T.b_law_cell_at .nil pass0 (pa_cons (pv 0) (pa_cons (pe_op op_add (pe_op op_add (pv 2) pe_int) (pv 5)) pa_nil))) pe_int))) (pss_cons (ps_set (i := 6) nd rfl (Or.inl rfl) (pe_op op_mod (pe_op op_fdivW (pe_call (ok_law_cell_at T) (hr.mono (by decide)) rfl T.m_law_cell_at T.F_law_cell_at.kp T.b_law_cell_at .nil pass0 (pa_cons (pv 0) (pa_cons (pv 2) pa_nil))) pe_int) (pv 3))) (pss_one (ps_ret (pe_callTy call_tupleq rfl T.n_tuple (by decide +kernel) (pa_cons (pe_op op_cat (pe_op op_cat (pe_slice sl_list (pv 4) po_none (po_some (pv 6))) (pe_lst (pa_cons (pv 1) pa_nil))) (pe_slice sl_list (pv 4) (po_some (pv 6)) po_none)) pa_nil))))))), ?_⟩
    clear nd
    obtain ⟨a, ns, v, y, at_, rfl, hS, hv, ha, k⟩ := h
    walk_at "rd"
    walk_at "go"
    intro D hD
    have em : (1 + getI ns at_ / 3 % 6 - 1).toNat = (getI ns at_ / 3 % 6).toNat := by omega
    rw [em]
    have hm : (getI ns at_ / 3 % 6).toNat ≤ 5 := by omega
    have hrl : (rowW ns at_).length = (getI ns at_ / 3 % 6).toNat := by unfold rowW; rw [List.length_map, List.length_range]
    refine go_lcm walk_range ((rowW ns at_).map V.int) (by rw [List.length_map, hrl]) (by rw [sizeLine_eq]; omega) hD (fun _ _ => trivial) ?_ ?_ gName_mono
    · rintro N i x H4 H2 hi sm ⟨rfl, rfl⟩ hN
      walk_at "rd"
      refine ⟨ns, sm.seq hS, by omega, hN _ _ ?_ (Same.refl _)⟩
      rw [List.getElem?_map]
      unfold rowW
      rw [List.getElem?_map, List.getElem?_range hi]
      rfl
    · intro H2 s2 hD2
      have z1 : 0 < 1 + getI ns at_ / 3 % 6 := by omega
      have p0 : 0 ≤ getI ns at_ / 18 % (1 + getI ns at_ / 3 % 6) := Int.emod_nonneg _ (by omega)
      have epl : (getI ns at_ / 18 % (1 + getI ns at_ / 3 % 6)).toNat = placeW ns at_ := rfl
      have lt : ((rowW ns at_).take (placeW ns at_)).length ≤ 5 := by rw [List.length_take]; omega
      have ld : ((rowW ns at_).drop (placeW ns at_)).length ≤ 5 := by rw [List.length_drop]; omega
      refine ⟨ns, s2.seq hS, ha, by walk_at "side", z1, _, SqL.of hD2, fun p hp => ⟨by walk_at "sz", fun q hq => ?_⟩⟩
      rw [cut_hi p0, epl, ← List.map_take]
      rw [cut_hi p0, epl, ← List.map_take] at hq
      refine ⟨_, _, by walk_at "hp", by walk_at "hp", by rw [List.length_map, sizeLine_eq]; simp only [List.length_cons, List.length_nil]; omega, fun r hr' => ⟨_, by walk_at "sq", fun u hu => ?_⟩⟩
      rw [cut_lo p0, epl, ← List.map_drop]
      refine ⟨_, _, by walk_at "hp", by walk_at "hp", by rw [List.length_append, List.length_map, List.length_map, sizeLine_eq]; simp only [List.length_cons, List.length_nil]; omega, fun t ht => ⟨_, .inl ⟨by walk_at "sq", fun T hT => ?_⟩⟩⟩
      refine k _ T (by walk_at "same") (.tup upd_same (KysAt.append (KysAt.append (nums_at _) (.cons ?_ .nil)) (nums_at _)))
      exact KyAt.same (by walk_at "same") _ _ hv

end Law
namespace Law
open PySem PySem.Spec PyProof.Rows L2 My

theorem PairOk.mono {d e : Nat} {k l : Ky} (p : PairOk d k l) (h : d ≤ e) : PairOk e k l :=
  ⟨p.ne, p.st, within_mono h _ p.w1, within_mono h _ p.w2, p.g1, p.g2, p.f1, p.f2, Nat.le_trans p.d1 h, Nat.le_trans p.d2 h⟩
theorem rowW_nums {ns : List Int} {at_ : Int} : ∀ n ∈ rowW ns at_, 0 ≤ n ∧ n < 1000 := by
  intro n hn
  unfold rowW at hn
  obtain ⟨k, _, rfl⟩ := List.mem_map.mp hn
  exact ⟨Int.emod_nonneg _ (by decide), Int.emod_lt_of_pos _ (by decide)⟩
theorem nums_within {d : Nat} {l : List Int} (h : ∀ n ∈ l, 0 ≤ n ∧ n < 1000) : (l.map Ky.num).all (within d) = true := by
  rw [List.all_eq_true]
  intro y hy
  obtain ⟨n, hn, rfl⟩ := List.mem_map.mp hy
  have := h n hn
  have e : within d (.num n) = decide (-(10 ^ 60) < n ∧ n < 10 ^ 60) := by cases d <;> simp [within]
  rw [e]
  exact decide_eq_true (by omega)
theorem nums_good : ∀ l : List Int, Ky.goods (l.map Ky.num) = true
  | [] => by simp [Ky.goods]
  | n :: l => by rw [List.map_cons, Ky.goods, nums_good l]; simp [Ky.good]
theorem nums_fit : ∀ l : List Int, Ky.fits (l.map Ky.num) = true
  | [] => by simp [Ky.fits]
  | n :: l => by rw [List.map_cons, Ky.fits, nums_fit l]; simp [Ky.fit]
theorem nums_dep : ∀ l : List Int, Ky.deps (l.map Ky.num) = 0
  | [] => by simp [Ky.deps]
  | n :: l => by rw [List.map_cons, Ky.deps, nums_dep l]; simp [Ky.dep]
theorem deps_append : ∀ (xs ys : List Ky), Ky.deps (xs ++ ys) = max (Ky.deps xs) (Ky.deps ys)
  | [], ys => by simp [Ky.deps]
  | x :: xs, ys => by rw [List.cons_append, Ky.deps, Ky.deps, deps_append xs ys, Nat.max_assoc]
theorem fits_append : ∀ {xs ys : List Ky}, Ky.fits xs = true → Ky.fits ys = true → Ky.fits (xs ++ ys) = true
  | [], _, _, h => h
  | x :: xs, ys, g, h => by
    have g' : x.fit = true ∧ Ky.fits xs = true := by simpa [Ky.fits] using g
    rw [List.cons_append, Ky.fits, g'.1, fits_append g'.2 h]
    rfl
theorem pair_in {ns : List Int} {at_ : Int} {i : Nat} {k l : Ky} (p : PairOk (1 + i) k l) : PairOk (1 + (i + 1)) (inW ns at_ k) (inW ns at_ l) := by
  have hr : (rowW ns at_).length ≤ 5 := by unfold rowW; rw [List.length_map, List.length_range]; omega
  have nt : ∀ n ∈ (rowW ns at_).take (placeW ns at_), 0 ≤ n ∧ n < 1000 := fun n hn => rowW_nums n (List.mem_of_mem_take hn)
  have nd : ∀ n ∈ (rowW ns at_).drop (placeW ns at_), 0 ≤ n ∧ n < 1000 := fun n hn => rowW_nums n (List.mem_of_mem_drop hn)
  have lt : ((rowW ns at_).take (placeW ns at_)).length + ((rowW ns at_).drop (placeW ns at_)).length ≤ 5 := by rw [List.length_take, List.length_drop]; omega
  unfold inW
  generalize (rowW ns at_).take (placeW ns at_) = A at *
  generalize (rowW ns at_).drop (placeW ns at_) = B at *
  have hw : ∀ y : Ky, within (1 + i) y = true → within (1 + (i + 1)) (.tup (A.map Ky.num ++ [y] ++ B.map Ky.num)) = true := fun y hy => by
    rw [show 1 + (i + 1) = (1 + i) + 1 by omega]
    simp only [within]
    rw [List.all_append, List.all_append, nums_within nt, nums_within nd, decide_eq_true (by simp; omega)]
    simp [hy]
  have hd : ∀ y : Ky, y.dep ≤ 1 + i → (Ky.tup (A.map Ky.num ++ [y] ++ B.map Ky.num)).dep ≤ 1 + (i + 1) := fun y hy => by
    rw [Ky.dep, deps_append, deps_append, nums_dep, nums_dep, Ky.deps, Ky.deps]
    omega
  refine ⟨fun e => p.ne ?_, ?_, hw _ p.w1, hw _ p.w2, ?_, ?_, ?_, ?_, hd _ p.d1, hd _ p.d2⟩
  · have e1 := Ky.tup.inj e
    rw [List.append_left_inj, List.append_right_inj] at e1
    exact (List.cons.inj e1).1
  · rw [Ky.stamp, Ky.stamp, stamps_append, stamps_append, stamps_append, stamps_append, Ky.stamps, Ky.stamps, Ky.stamps, Ky.stamps, p.st]
  · rw [Ky.good]; exact goods_append (goods_append (nums_good _) (by simp [Ky.goods, p.g1])) (nums_good _)
  · rw [Ky.good]; exact goods_append (goods_append (nums_good _) (by simp [Ky.goods, p.g2])) (nums_good _)
  · rw [Ky.fit]; exact fits_append (fits_append (nums_fit _) (by simp [Ky.fits, p.f1])) (nums_fit _)
  · rw [Ky.fit]; exact fits_append (fits_append (nums_fit _) (by simp [Ky.fits, p.f2])) (nums_fit _)
theorem sc_law : FnScope ["_law_script", "_law_one", "_law_other", "_law_nested", "_law_k", "_law_found", "_law_again"] ["_law_script"] (defScope s_law) := ⟨rfl, rfl, rfl, by decide +kernel, rfl, by decide +kernel, by decide +kernel⟩
theorem ok_law {P : Program} {w : World} {K : PySem.W.Frag} {mg : Str → Option Value} {base : Heap} {A : Ad} (T : Txt K mg A) : FnOk P w K mg base CX0 6 A.a_law A.d_law ["_law_script"] (spLaw K) := by
  refine T.F_law.ok sc_law (fun vs H Q E h => ?_) (fun cdv A' outer s H vs Q E hr h => ?_)
  · walk_at "spl"
  · have nd := sc_law.nd
    have hu := hu_of hr
    refine ⟨_, (pss_cons (ps_asg (pe_call (ok_law_two T) (hr.mono (by decide)) rfl T.m_law_two T.F_law_two.kp T.b_law_two .nil pass0 (pa_cons (pv 0) pa_nil)) (pg_tup (n := 2) rfl (pgs_cons (pg_name (i := 1) nd rfl (Or.inl rfl)) (pgs_cons (pg_name (i := 2) nd rfl (Or.inl rfl)) pgs_nil)))) (pss_cons (ps_set (i := 3) nd rfl (Or.inl rfl) (pe_op op_mod (pe_call (ok_law_cell_at T) (hr.mono (by decide)) rfl T.m_law_cell_at T.F_law_cell_at.kp T.b_law_cell_at .nil pass0 (pa_cons (pv 0) (pa_cons pe_int pa_nil))) pe_int)) (pss_cons (ps_for PassesOwn.never rfl (pi_range1 rfl T.n_range (pa_cons (pv 3) pa_nil)) (pg_name (i := 4) nd rfl (Or.inl rfl)) (pss_cons (ps_set (i := 1) nd rfl (Or.inl rfl) (pe_call (ok_law_within T) (hr.mono (by decide)) rfl T.m_law_within T.F_law_within.kp T.b_law_within .nil pass0 (pa_cons (pv 0) (pa_cons (pv 1) (pa_cons (pe_op op_add pe_int (pe_op op_mulX pe_int (pv 4))) pa_nil))))) (pss_one (ps_set (i := 2) nd rfl (Or.inl rfl) (pe_call (ok_law_within T) (hr.mono (by decide)) rfl T.m_law_within T.F_law_within.kp T.b_law_within .nil pass0 (pa_cons (pv 0) (pa_cons (pv 2) (pa_cons (pe_op op_add pe_int (pe_op op_mulX pe_int (pv 4))) pa_nil)))))))) (pss_cons (ps_if (PW.pt (pw_or (pt_cmpR op_notBl (pe_call (ok_is_key T) (hr.mono (by decide)) rfl T.m_is_key T.F_is_key.kp T.b_is_key .nil pass0 (pa_cons (pv 1) pa_nil)) pe_bl (nomark _)) (pw_or (pt_cmpR op_notBl (pe_call (ok_is_key T) (hr.mono (by decide)) rfl T.m_is_key T.F_is_key.kp T.b_is_key .nil pass0 (pa_cons (pv 2) pa_nil)) pe_bl (nomark _)) (pw_or1 (pt_cmpR (op_eqD hr.units) (pv 1) (pv 2) (nomark _)))))) (pss_one (ps_ret pe_bl)) pss_nil) (pss_cons (ps_set (i := 5) nd rfl (Or.inl rfl) (pe_call (ok_stamp T 3) (hr.mono (by decide)) rfl T.m_stamp T.F_stamp.kp T.b_stamp .nil pass0 (pa_cons (pv 1) pa_nil))) (pss_cons (ps_set (i := 6) nd rfl (Or.inl rfl) (pe_call (ok_stamp T 3) (hr.mono (by decide)) rfl T.m_stamp T.F_stamp.kp T.b_stamp .nil pass0 (pa_cons (pv 2) pa_nil))) (pss_cons (ps_if (PW.pt (pw_or (pt_not (pt_val (pe_call (ok_law_whole T) (hr.mono (by decide)) rfl T.m_law_whole T.F_law_whole.kp T.b_law_whole .nil pass0 (pa_cons (pv 5) pa_nil)))) (pw_or (pt_not (pt_val (pe_call (ok_law_whole T) (hr.mono (by decide)) rfl T.m_law_whole T.F_law_whole.kp T.b_law_whole .nil pass0 (pa_cons (pv 6) pa_nil)))) (pw_or (pt_cmpR op_lt (pv 5) pe_int (nomark _)) (pw_or1 (pt_cmpR op_ge (pv 5) (pe_glob (v := .int 2147483647) rfl T.g_TURN ⟨_, rfl⟩) (nomark _))))))) (pss_one (ps_ret pe_bl)) pss_nil) (pss_one (ps_ret (pe_cmpR op_eq (pv 5) (pv 6) (nomark _))))))))))), ?_⟩
    clear nd
    obtain ⟨a, ns, rfl, hS, hl, k⟩ := h
    walk_at "rd"
    refine ⟨a, ns, rfl, hS, hl, fun H1 T v w y z s1 hT hv hw hp => ?_⟩
    walk_at "rd"
    refine ⟨_, SqT.of hT, rfl, ?_⟩
    walk_at "rd"
    refine ⟨ns, s1.seq hS, by omega, ?_⟩
    refine go_range (fun i σ H' => ∃ v w y z v4, σ = [some (.ref a), some v, some w, some (.int (getI ns 4 % 3)), v4, none, none] ∧ Same H H' ∧ KyAt H' v y ∧ KyAt H' w z ∧ PairOk (1 + i) y z) ⟨v, w, y, z, none, rfl, s1, hv, hw, hp⟩ ?_ ?_
    · rintro N i σ H' hi ⟨v, w, y, z, v4, rfl, s2, hv, hw, hp⟩ hN
      walk_at "rd"
      refine ⟨mulL (by decide) (by decide), a, ns, v, y, _, rfl, s2.seq hS, hv, by omega, fun H4 T4 s4 h4 => ?_⟩
      refine ⟨mulL (by decide) (by decide), a, ns, w, z, _, rfl, (s2.trans s4).seq hS, hw.same s4 _ _, by omega, fun H5 T5 s5 h5 => ?_⟩
      exact hN _ _ ⟨_, _, _, _, _, rfl, s2.trans (s4.trans s5), h4.same s5 _ _, h5, pair_in hp⟩
    · rintro σ H' ⟨v, w, y, z, v4, rfl, s2, hv, hw, hp⟩
      walk_at "rd"
      have hm : 1 + (getI ns 4 % 3).toNat ≤ 3 := by omega
      have hp3 := hp.mono hm
      have i1 : within 3 y = true := hp3.w1
      have i2 : within 3 z = true := hp3.w2
      have d1 := hp3.d1
      have d2 := hp3.d2
      refine ⟨v, y, rfl, hv, hp3.f1, ?_⟩
      rw [i1]
      walk_at "rd"
      refine ⟨w, z, rfl, hw, hp3.f2, ?_⟩
      rw [i2]
      walk_at "rd"
      refine eq_keys hv hw hp3.g1 hp3.g2 (by omega) (by omega) ?_
      rw [decide_eq_false hp3.ne]
      walk_at "rd"
      refine ⟨y, hv, ⟨hp3.g1, d1⟩, z, hw, ⟨hp3.g2, d2⟩, ?_⟩
      have sr := stamp_range y
      refine iteN (by omega) (iteN (by omega) ?_)
      rw [decide_eq_true hp3.st]
      exact k _

end Law
namespace Law
open PySem PySem.Spec PyProof.Rows L2 My
theorem all_mk {l : PySem.W.OpenLaw} {w : World} {K : PySem.W.Frag} {h : Heap} {mg : Str → Option Value} {fa : Addr} (X : K.In h) (G : h.Ns mainGlobals mg) (hfa : mg "law" = some (.ref fa))
    {od0 an0 : Option Addr} {sl0 : Array (Option Value)} {oc0 kV0 dc0 pm0 cd0 ct0 : Value} {f0 : Addr}
    {od1 an1 : Option Addr} {sl1 : Array (Option Value)} {oc1 kV1 dc1 pm1 cd1 ct1 : Value} {f1 : Addr}
    {od2 an2 : Option Addr} {sl2 : Array (Option Value)} {oc2 kV2 dc2 pm2 cd2 ct2 : Value} {f2 : Addr}
    {od3 an3 : Option Addr} {sl3 : Array (Option Value)} {oc3 kV3 dc3 pm3 cd3 ct3 : Value} {f3 : Addr}
    {od4 an4 : Option Addr} {sl4 : Array (Option Value)} {oc4 kV4 dc4 pm4 cd4 ct4 : Value} {f4 : Addr}
    {od5 an5 : Option Addr} {sl5 : Array (Option Value)} {oc5 kV5 dc5 pm5 cd5 ct5 : Value} {f5 : Addr}
    {od6 an6 : Option Addr} {sl6 : Array (Option Value)} {oc6 kV6 dc6 pm6 cd6 ct6 : Value} {f6 : Addr}
    {od7 an7 : Option Addr} {sl7 : Array (Option Value)} {oc7 kV7 dc7 pm7 cd7 ct7 : Value} {f7 : Addr}
    {od8 an8 : Option Addr} {sl8 : Array (Option Value)} {oc8 kV8 dc8 pm8 cd8 ct8 : Value} {f8 : Addr}
    {od9 an9 : Option Addr} {sl9 : Array (Option Value)} {oc9 kV9 dc9 pm9 cd9 ct9 : Value} {f9 : Addr}
    {od10 an10 : Option Addr} {sl10 : Array (Option Value)} {oc10 kV10 dc10 pm10 cd10 ct10 : Value} {f10 : Addr}
    {tk0 : Tok}
    {tk1 : Tok}
    {tk2 : Tok}
    {tk3 : Tok}
    {tk4 : Tok}
    (a0 : PySem.W.nsIn K mainGlobals "stamp" = some (some (.ref f0)))
    (l0 : K.lookup f0 = some ⟨oc0, od0, .func (PySem.W.fnOf "stamp" "stamp" (defArgs s_stamp) (defBody s_stamp) (defScope s_stamp) .none kV0 dc0 pm0 an0 cd0 ct0), sl0⟩)
    (d0 : PySem.W.codeIn K cd0 "stamp" = true)
    (k0 : PySem.W.keepIn K (.ref f0) = true)
    (a1 : PySem.W.nsIn K mainGlobals "is_within" = some (some (.ref f1)))
    (l1 : K.lookup f1 = some ⟨oc1, od1, .func (PySem.W.fnOf "is_within" "is_within" (defArgs s_is_within) (defBody s_is_within) (defScope s_is_within) .none kV1 dc1 pm1 an1 cd1 ct1), sl1⟩)
    (d1 : PySem.W.codeIn K cd1 "is_within" = true)
    (k1 : PySem.W.keepIn K (.ref f1) = true)
    (a2 : PySem.W.nsIn K mainGlobals "is_key" = some (some (.ref f2)))
    (l2 : K.lookup f2 = some ⟨oc2, od2, .func (PySem.W.fnOf "is_key" "is_key" (defArgs s_is_key) (defBody s_is_key) (defScope s_is_key) .none kV2 dc2 pm2 an2 cd2 ct2), sl2⟩)
    (d2 : PySem.W.codeIn K cd2 "is_key" = true)
    (k2 : PySem.W.keepIn K (.ref f2) = true)
    (a3 : PySem.W.nsIn K mainGlobals "_law_cell_at" = some (some (.ref f3)))
    (l3 : K.lookup f3 = some ⟨oc3, od3, .func (PySem.W.fnOf "_law_cell_at" "_law_cell_at" (defArgs s_law_cell_at) (defBody s_law_cell_at) (defScope s_law_cell_at) .none kV3 dc3 pm3 an3 cd3 ct3), sl3⟩)
    (d3 : PySem.W.codeIn K cd3 "_law_cell_at" = true)
    (k3 : PySem.W.keepIn K (.ref f3) = true)
    (a4 : PySem.W.nsIn K mainGlobals "_law_whole" = some (some (.ref f4)))
    (l4 : K.lookup f4 = some ⟨oc4, od4, .func (PySem.W.fnOf "_law_whole" "_law_whole" (defArgs s_law_whole) (defBody s_law_whole) (defScope s_law_whole) .none kV4 dc4 pm4 an4 cd4 ct4), sl4⟩)
    (d4 : PySem.W.codeIn K cd4 "_law_whole" = true)
    (k4 : PySem.W.keepIn K (.ref f4) = true)
    (a5 : PySem.W.nsIn K mainGlobals "_law_signs" = some (some (.ref f5)))
    (l5 : K.lookup f5 = some ⟨oc5, od5, .func (PySem.W.fnOf "_law_signs" "_law_signs" (defArgs s_law_signs) (defBody s_law_signs) (defScope s_law_signs) .none kV5 dc5 pm5 an5 cd5 ct5), sl5⟩)
    (d5 : PySem.W.codeIn K cd5 "_law_signs" = true)
    (k5 : PySem.W.keepIn K (.ref f5) = true)
    (a6 : PySem.W.nsIn K mainGlobals "_law_texts" = some (some (.ref f6)))
    (l6 : K.lookup f6 = some ⟨oc6, od6, .func (PySem.W.fnOf "_law_texts" "_law_texts" (defArgs s_law_texts) (defBody s_law_texts) (defScope s_law_texts) .none kV6 dc6 pm6 an6 cd6 ct6), sl6⟩)
    (d6 : PySem.W.codeIn K cd6 "_law_texts" = true)
    (k6 : PySem.W.keepIn K (.ref f6) = true)
    (a7 : PySem.W.nsIn K mainGlobals "_law_stamp_of" = some (some (.ref f7)))
    (l7 : K.lookup f7 = some ⟨oc7, od7, .func (PySem.W.fnOf "_law_stamp_of" "_law_stamp_of" (defArgs s_law_stamp_of) (defBody s_law_stamp_of) (defScope s_law_stamp_of) .none kV7 dc7 pm7 an7 cd7 ct7), sl7⟩)
    (d7 : PySem.W.codeIn K cd7 "_law_stamp_of" = true)
    (k7 : PySem.W.keepIn K (.ref f7) = true)
    (a8 : PySem.W.nsIn K mainGlobals "_law_two" = some (some (.ref f8)))
    (l8 : K.lookup f8 = some ⟨oc8, od8, .func (PySem.W.fnOf "_law_two" "_law_two" (defArgs s_law_two) (defBody s_law_two) (defScope s_law_two) .none kV8 dc8 pm8 an8 cd8 ct8), sl8⟩)
    (d8 : PySem.W.codeIn K cd8 "_law_two" = true)
    (k8 : PySem.W.keepIn K (.ref f8) = true)
    (a9 : PySem.W.nsIn K mainGlobals "_law_within" = some (some (.ref f9)))
    (l9 : K.lookup f9 = some ⟨oc9, od9, .func (PySem.W.fnOf "_law_within" "_law_within" (defArgs s_law_within) (defBody s_law_within) (defScope s_law_within) .none kV9 dc9 pm9 an9 cd9 ct9), sl9⟩)
    (d9 : PySem.W.codeIn K cd9 "_law_within" = true)
    (k9 : PySem.W.keepIn K (.ref f9) = true)
    (a10 : PySem.W.nsIn K mainGlobals "law" = some (some (.ref f10)))
    (l10 : K.lookup f10 = some ⟨oc10, od10, .func (PySem.W.fnOf "law" "law" (defArgs s_law) (defBody s_law) (defScope s_law) .none kV10 dc10 pm10 an10 cd10 ct10), sl10⟩)
    (d10 : PySem.W.codeIn K cd10 "law" = true)
    (k10 : PySem.W.keepIn K (.ref f10) = true)
    (gl0 : PySem.W.nsIn K mainGlobals "TURN" = some (some (.int 2147483647 tk0)))
    (gl1 : PySem.W.nsIn K mainGlobals "FAR" = some (some (.int 1000000000000000000000000000000000000000000000000000000000000 tk1)))
    (gl2 : PySem.W.nsIn K mainGlobals "MOST_SIGNS" = some (some (.int 60 tk2)))
    (gl3 : PySem.W.nsIn K mainGlobals "MOST_PARTS" = some (some (.int 6 tk3)))
    (gl4 : PySem.W.nsIn K mainGlobals "DEEPEST" = some (some (.int 3 tk4)))
    (n_bool : PySem.W.nsIn K mainGlobals "bool" = some none)
    (n_int : PySem.W.nsIn K mainGlobals "int" = some none)
    (n_isinstance : PySem.W.nsIn K mainGlobals "isinstance" = some none)
    (n_len : PySem.W.nsIn K mainGlobals "len" = some none)
    (n_ord : PySem.W.nsIn K mainGlobals "ord" = some none)
    (n_range : PySem.W.nsIn K mainGlobals "range" = some none)
    (n_str : PySem.W.nsIn K mainGlobals "str" = some none)
    (n_tuple : PySem.W.nsIn K mainGlobals "tuple" = some none) :
    ∃ fd : FuncData, (∀ (s : Shared) (v : Value), BindsTo s fd ⟨[v], []⟩ [("_law_script", v)]) ∧ ∀ base : Heap, K.In base → base.Ns mainGlobals mg → FnOk l.prog w K mg base CX0 6 fa fd ["_law_script"] (spLaw K) := by
  have e := hfa.symm.trans (PySem.W.mg_of X G a10)
  cases e
  have T : Txt K mg ⟨f0, PySem.W.fnOf "stamp" "stamp" (defArgs s_stamp) (defBody s_stamp) (defScope s_stamp) .none kV0 dc0 pm0 an0 cd0 ct0, f1, PySem.W.fnOf "is_within" "is_within" (defArgs s_is_within) (defBody s_is_within) (defScope s_is_within) .none kV1 dc1 pm1 an1 cd1 ct1, f2, PySem.W.fnOf "is_key" "is_key" (defArgs s_is_key) (defBody s_is_key) (defScope s_is_key) .none kV2 dc2 pm2 an2 cd2 ct2, f3, PySem.W.fnOf "_law_cell_at" "_law_cell_at" (defArgs s_law_cell_at) (defBody s_law_cell_at) (defScope s_law_cell_at) .none kV3 dc3 pm3 an3 cd3 ct3, f4, PySem.W.fnOf "_law_whole" "_law_whole" (defArgs s_law_whole) (defBody s_law_whole) (defScope s_law_whole) .none kV4 dc4 pm4 an4 cd4 ct4, f5, PySem.W.fnOf "_law_signs" "_law_signs" (defArgs s_law_signs) (defBody s_law_signs) (defScope s_law_signs) .none kV5 dc5 pm5 an5 cd5 ct5, f6, PySem.W.fnOf "_law_texts" "_law_texts" (defArgs s_law_texts) (defBody s_law_texts) (defScope s_law_texts) .none kV6 dc6 pm6 an6 cd6 ct6, f7, PySem.W.fnOf "_law_stamp_of" "_law_stamp_of" (defArgs s_law_stamp_of) (defBody s_law_stamp_of) (defScope s_law_stamp_of) .none kV7 dc7 pm7 an7 cd7 ct7, f8, PySem.W.fnOf "_law_two" "_law_two" (defArgs s_law_two) (defBody s_law_two) (defScope s_law_two) .none kV8 dc8 pm8 an8 cd8 ct8, f9, PySem.W.fnOf "_law_within" "_law_within" (defArgs s_law_within) (defBody s_law_within) (defScope s_law_within) .none kV9 dc9 pm9 an9 cd9 ct9, fa, PySem.W.fnOf "law" "law" (defArgs s_law) (defBody s_law) (defScope s_law) .none kV10 dc10 pm10 an10 cd10 ct10, tk0, tk1, tk2, tk3, tk4⟩ := ⟨fun_mk (st := s_stamp) l0 d0 k0,
    (fun_mk (st := s_stamp) l0 d0 k0).binds (ps := ["key"]) fun _ _ _ _ _ _ us hl => match us, hl with | [_], _ => rfl,
    PySem.W.mg_of X G a0,
    fun_mk (st := s_is_within) l1 d1 k1,
    (fun_mk (st := s_is_within) l1 d1 k1).binds (ps := ["thing", "deep"]) fun _ _ _ _ _ _ us hl => match us, hl with | [_, _], _ => rfl,
    PySem.W.mg_of X G a1,
    fun_mk (st := s_is_key) l2 d2 k2,
    (fun_mk (st := s_is_key) l2 d2 k2).binds (ps := ["thing"]) fun _ _ _ _ _ _ us hl => match us, hl with | [_], _ => rfl,
    PySem.W.mg_of X G a2,
    fun_mk (st := s_law_cell_at) l3 d3 k3,
    (fun_mk (st := s_law_cell_at) l3 d3 k3).binds (ps := ["_law_script", "_law_k"]) fun _ _ _ _ _ _ us hl => match us, hl with | [_, _], _ => rfl,
    PySem.W.mg_of X G a3,
    fun_mk (st := s_law_whole) l4 d4 k4,
    (fun_mk (st := s_law_whole) l4 d4 k4).binds (ps := ["_law_found"]) fun _ _ _ _ _ _ us hl => match us, hl with | [_], _ => rfl,
    PySem.W.mg_of X G a4,
    fun_mk (st := s_law_signs) l5 d5 k5,
    (fun_mk (st := s_law_signs) l5 d5 k5).binds (ps := []) fun _ _ _ _ _ _ us hl => match us, hl with | [], _ => rfl,
    PySem.W.mg_of X G a5,
    fun_mk (st := s_law_texts) l6 d6 k6,
    (fun_mk (st := s_law_texts) l6 d6 k6).binds (ps := ["_law_cells", "_law_one", "_law_two_here", "_law_at"]) fun _ _ _ _ _ _ us hl => match us, hl with | [_, _, _, _], _ => rfl,
    PySem.W.mg_of X G a6,
    fun_mk (st := s_law_stamp_of) l7 d7 k7,
    (fun_mk (st := s_law_stamp_of) l7 d7 k7).binds (ps := ["_law_text"]) fun _ _ _ _ _ _ us hl => match us, hl with | [_], _ => rfl,
    PySem.W.mg_of X G a7,
    fun_mk (st := s_law_two) l8 d8 k8,
    (fun_mk (st := s_law_two) l8 d8 k8).binds (ps := ["_law_script"]) fun _ _ _ _ _ _ us hl => match us, hl with | [_], _ => rfl,
    PySem.W.mg_of X G a8,
    fun_mk (st := s_law_within) l9 d9 k9,
    (fun_mk (st := s_law_within) l9 d9 k9).binds (ps := ["_law_script", "_law_key", "_law_at"]) fun _ _ _ _ _ _ us hl => match us, hl with | [_, _, _], _ => rfl,
    PySem.W.mg_of X G a9,
    fun_mk (st := s_law) l10 d10 k10,
    (fun_mk (st := s_law) l10 d10 k10).binds (ps := ["_law_script"]) fun _ _ _ _ _ _ us hl => match us, hl with | [_], _ => rfl,
    PySem.W.mg_of X G a10,
    PySem.W.mg_of X G gl0,
    PySem.W.mg_of X G gl1,
    PySem.W.mg_of X G gl2,
    PySem.W.mg_of X G gl3,
    PySem.W.mg_of X G gl4,
    PySem.W.mg_none_of X G n_bool,
    PySem.W.mg_none_of X G n_int,
    PySem.W.mg_none_of X G n_isinstance,
    PySem.W.mg_none_of X G n_len,
    PySem.W.mg_none_of X G n_ord,
    PySem.W.mg_none_of X G n_range,
    PySem.W.mg_none_of X G n_str,
    PySem.W.mg_none_of X G n_tuple⟩
  exact ⟨_, fun s v => .of_eq rfl, fun base _ _ => ok_law T⟩
theorem walk {l : PySem.W.OpenLaw} {q : Program} {loose : List Str} {XP : (Str → Option Value) → Heap → Prop} {YP : World → Heap → Prop} {d : DefRec} {K : Params → PySem.W.Frag} (hn : l.most = some 63) (hdf : d.params.defaults = [])
    (hY : ∀ (w : World) (h : Heap), YP w h → (K w.params).In h)
    (F : ∀ (w : World) (mg : Str → Option Value) (fa : Addr) (h : Heap), (K w.params).In h → h.Ns mainGlobals mg → mg d.name = some (.ref fa) →
      ∃ fd : FuncData, (∀ (s : Shared) (u : Value), BindsTo s fd ⟨[u], []⟩ [("_law_script", u)]) ∧ ∀ base : Heap, (K w.params).In base → base.Ns mainGlobals mg → FnOk l.prog w (K w.params) mg base CX0 6 fa fd ["_law_script"] (spLaw (K w.params))) :
    PySem.W.WalkO q loose XP YP l.row.toRowW d [] (fun f vs => PySem.call f vs) :=
  L2.walk_of (n := 63) (k := 6) (x := "_law_script") (CX := fun _ => CX0) (sp := fun w => spLaw (K w.params)) hn (by decide) hdf ⟨rfl, by decide, by decide⟩ hY F (fun _ _ a ns hl _ hS => ⟨a, ns, rfl, hS, hl, fun _ => rfl⟩) fun _ _ _ _ _ z => z

end Law

open PySem PySem.W PyProof.Rows
set_option maxRecDepth 100000 in
set_option maxHeartbeats 0 in
theorem PySem.Challenge.cw_slotbook_k15_unlike_keys_with_like_stamp_holds : PySem.Challenge.rw_slotbook_k15_unlike_keys_with_like_stamp.Holds := by
  w_on; o_law; k_head; (case hw => w_witness2)
  k_fill
  refine Law.walk (l := PySem.Challenge.rw_slotbook_k15_unlike_keys_with_like_stamp) rfl rfl (fun w h Y => PySem.W.kIn_of Y) ?F
  case F =>
    intro w mg fa h KX G hmg
    refine' Law.all_mk KX G hmg ?a0 ?l0 ?d0 ?k0 ?a1 ?l1 ?d1 ?k1 ?a2 ?l2 ?d2 ?k2 ?a3 ?l3 ?d3 ?k3 ?a4 ?l4 ?d4 ?k4 ?a5 ?l5 ?d5 ?k5 ?a6 ?l6 ?d6 ?k6 ?a7 ?l7 ?d7 ?k7 ?a8 ?l8 ?d8 ?k8 ?a9 ?l9 ?d9 ?k9 ?a10 ?l10 ?d10 ?k10 ?gl0 ?gl1 ?gl2 ?gl3 ?gl4 ?n_bool ?n_int ?n_isinstance ?n_len ?n_ord ?n_range ?n_str ?n_tuple
    (case a0 => k_is)
    (case l0 => k_is)
    (case d0 => k_is)
    (case k0 => k_is)
    (case a1 => k_is)
    (case l1 => k_is)
    (case d1 => k_is)
    (case k1 => k_is)
    (case a2 => k_is)
    (case l2 => k_is)
    (case d2 => k_is)
    (case k2 => k_is)
    (case a3 => k_is)
    (case l3 => k_is)
    (case d3 => k_is)
    (case k3 => k_is)
    (case a4 => k_is)
    (case l4 => k_is)
    (case d4 => k_is)
    (case k4 => k_is)
    (case a5 => k_is)
    (case l5 => k_is)
    (case d5 => k_is)
    (case k5 => k_is)
    (case a6 => k_is)
    (case l6 => k_is)
    (case d6 => k_is)
    (case k6 => k_is)
    (case a7 => k_is)
    (case l7 => k_is)
    (case d7 => k_is)
    (case k7 => k_is)
    (case a8 => k_is)
    (case l8 => k_is)
    (case d8 => k_is)
    (case k8 => k_is)
    (case a9 => k_is)
    (case l9 => k_is)
    (case d9 => k_is)
    (case k9 => k_is)
    (case a10 => k_is)
    (case l10 => k_is)
    (case d10 => k_is)
    (case k10 => k_is)
    (case gl0 => k_is)
    (case gl1 => k_is)
    (case gl2 => k_is)
    (case gl3 => k_is)
    (case gl4 => k_is)
    (case n_bool => k_is)
    (case n_int => k_is)
    (case n_isinstance => k_is)
    (case n_len => k_is)
    (case n_ord => k_is)
    (case n_range => k_is)
    (case n_str => k_is)
    (case n_tuple => k_is)
