import PyProof.Rows.All
import Wide.All
import OpenK.AllK
import Wide.FinOn
import HandS.ForMost
import HandS.IsInst
import HandS.Wide
import HandS.Walk
import HandS.SetKeys
import KE.KBits
import PySem.Challenge.RW_slotbook_k23_whole_each_slot_once
set_option Elab.async false
set_option linter.all false
set_option maxRecDepth 100000
set_option maxHeartbeats 4000000
namespace My
open PySem PySem.Spec PyProof.Rows L2
section
variable {X : Cx}
theorem op_mulX : OpR X (binaryOp .Mult) (rI IntMulOk fun i j => .int (i * j)) := opI fun _ _ _ _ _ _ _ hc q => mul_int q hc
theorem mulL {i j : Int} (h1 : -(2 ^ 64) < i) (h2 : i < 2 ^ 64) : IntMulOk i j := .of_left (intBits_le_64 h1 h2)
theorem mulR {i j : Int} (h1 : -(2 ^ 64) < j) (h2 : j < 2 ^ 64) : IntMulOk i j := .of_right (intBits_le_64 h1 h2)
end
section
variable {σ : L2.St} {H : Hp} {Q : VK} {QT : Bool → Hp → Prop} {D : Ends} {ta tb te : TE} {t u c : TT} {s1 s2 : TS} {K : PySem.W.Frag}
theorem rd_var {i : Nat} : tVar i σ H Q = (match σ[i]? with | some (some v) => Q v H | _ => False) := by
  unfold tVar
  apply propext
  constructor
  · rintro ⟨v, e, q⟩
    rw [e]; exact q
  · intro h
    split at h
    · rename_i v e
      exact ⟨v, e, h⟩
    · exact h.elim
theorem rd_c {v : V} : tC v σ H Q = Q v H := rfl
theorem rd_op {r : R2} : tOp r ta tb σ H Q = ta σ H fun x H1 => tb σ H1 fun y H2 => r x y H2 Q := rfl
theorem rd_un {r : V → Hp → VK → Prop} : tUn r ta σ H Q = ta σ H fun x H1 => r x H1 Q := rfl
theorem rd_rI {C : Int → Int → Prop} {g : Int → Int → V} {i j : Int} : rI C g (.int i) (.int j) H Q = (C i j ∧ Q (g i j) H) := by
  unfold rI
  apply propext
  constructor
  · rintro ⟨a, b, e1, e2, q⟩
    cases e1; cases e2; exact q
  · intro q
    exact ⟨i, j, rfl, rfl, q⟩
theorem rd_rI0 {g : Int → Int → V} {i j : Int} : rI0 g (.int i) (.int j) H Q = Q (g i j) H := by
  unfold rI0
  apply propext
  constructor
  · rintro ⟨a, b, e1, e2, q⟩
    cases e1; cases e2; exact q
  · intro q
    exact ⟨i, j, rfl, rfl, q⟩
theorem rd_rU {g : Int → V} {i : Int} : rU g (.int i) H Q = Q (g i) H := by
  unfold rU
  apply propext
  constructor
  · rintro ⟨a, e1, q⟩
    cases e1; exact q
  · intro q
    exact ⟨i, rfl, q⟩
theorem rd_eq {x y : V} : rEq x y H Q = (scal x y = true ∧ Q (.bl (decide (x = y))) H) := rfl
theorem rd_ne {x y : V} : rNe x y H Q = (scal x y = true ∧ Q (.bl (!decide (x = y))) H) := rfl
def isBl (x : V) (f : Bool → Prop) : Prop := match x with | .bl k => f k | _ => False
theorem rd_isBl {k : Bool} {f : Bool → Prop} : isBl (.bl k) f = f k := rfl
theorem isBl_eq {x : V} {f : Bool → Prop} : (∃ k, x = .bl k ∧ f k) = isBl x f := by
  apply propext
  constructor
  · rintro ⟨k, rfl, q⟩; exact q
  · intro q
    cases x with
    | bl k => exact ⟨k, rfl, q⟩
    | _ => exact q.elim
theorem rd_test : tTest ta σ H QT = ta σ H fun x H' => isBl x fun k => QT k H' := by
  unfold tTest
  simp only [isBl_eq]
theorem rd_B : tB ta σ H QT = ta σ H fun x H' => isBl x fun k => QT k H' := by
  unfold tB
  simp only [isBl_eq]
theorem rd_and : tAnd t u σ H QT = t σ H fun c H1 => if c = true then u σ H1 QT else QT false H1 := rfl
theorem rd_or : tOr t u σ H QT = t σ H fun c H1 => if c = true then QT true H1 else u σ H1 QT := rfl
theorem rd_not : tNot t σ H QT = t σ H fun c H1 => QT (!c) H1 := rfl
theorem rd_andV : tAndV ta tb σ H Q = ta σ H fun x H1 => isBl x fun c => if c = true then tb σ H1 Q else Q (.bl false) H1 := by
  unfold tAndV; simp only [isBl_eq]
theorem rd_orV : tOrV ta tb σ H Q = ta σ H fun x H1 => isBl x fun c => if c = true then Q (.bl true) H1 else tb σ H1 Q := by
  unfold tOrV; simp only [isBl_eq]
theorem rd_notV : tNotV ta σ H Q = ta σ H fun x H1 => isBl x fun c => Q (.bl (!c)) H1 := by
  unfold tNotV; simp only [isBl_eq]
theorem rd_ifE : tIf t ta tb σ H Q = t σ H fun c H1 => if c = true then ta σ H1 Q else tb σ H1 Q := rfl
theorem rd_chain {r r' : R2} {tc : TE} : tChain r r' ta tb tc σ H Q = ta σ H fun x H1 => tb σ H1 fun y H2 => r x y H2 fun z H3 => isBl z fun k => if k = true then tc σ H3 fun w' H4 => r' y w' H4 Q else Q (.bl false) H3 := by
  unfold tChain; simp only [isBl_eq]
theorem rd_ifS : tIfS c s1 s2 D σ H = c σ H fun b H1 => if b = true then s1 D σ H1 else s2 D σ H1 := rfl
theorem rd_ret : tRet te D σ H = te σ H D.rt := rfl
theorem rd_retN : tRetN D σ H = D.rt .non H := rfl
theorem rd_seq : tSeq s1 s2 D σ H = s1 { D with nx := s2 D } σ H := rfl
theorem rd_next : tNext D σ H = D.nx σ H := rfl
theorem rd_break : tBreak D σ H = D.bk σ H := rfl
theorem rd_cont : tCont D σ H = D.ct σ H := rfl
theorem rd_drop : tDrop te D σ H = te σ H fun _ H1 => D.nx σ H1 := rfl
theorem rd_asg {g : TG} : tAsg te g D σ H = te σ H fun x H1 => g x σ H1 D.nx := rfl
theorem rd_gName {i : Nat} {v : V} {R : L2.St → Hp → Prop} : gName i v σ H R = R (σ.set i (some v)) H := rfl
theorem rd_nil {R : List V → Hp → Prop} : tNil σ H R = R [] H := rfl
theorem rd_cons {tr : TA} {R : List V → Hp → Prop} : tCons te tr σ H R = te σ H fun x H1 => tr σ H1 fun xs H2 => R (x :: xs) H2 := rfl
theorem rd_call {sp : Sp} {dvs : List V} {E : XK} {tr : TA} : tCall sp dvs E tr σ H Q = tr σ H fun vs H1 => sp (vs ++ dvs) H1 Q E := rfl
theorem rd_CB {r : List V → Hp → VK → Prop} {tr : TA} : tCB r tr σ H Q = tr σ H fun vs H1 => r vs H1 Q := rfl
theorem V_int_inj {a b : Int} : (V.int a = V.int b) = (a = b) := by simp
theorem V_bl_inj {a b : Bool} : (V.bl a = V.bl b) = (a = b) := by simp
theorem V_str_inj {a b : Str} : (V.str a = V.str b) = (a = b) := by simp
theorem scal_ii {a b : Int} : scal (.int a) (.int b) = true := rfl
theorem scal_bb {a b : Bool} : scal (.bl a) (.bl b) = true := rfl
theorem scal_ss {a b : Str} : scal (.str a) (.str b) = true := rfl
end
end My
/-! what is read further -/
namespace My
open PySem PySem.Spec PyProof.Rows L2
section
variable {σ : L2.St} {H : Hp} {Q : VK} {QT : Bool → Hp → Prop} {D : Ends} {ta tb te : TE} {t u c : TT} {s1 s2 : TS} {K : PySem.W.Frag}
/-! types of values -/
def tyS (x : V) (H : Hp) : Option String := match x with
  | .non => some "NoneType"
  | .bl _ => some "bool"
  | .int _ => some "int"
  | .str _ => some "str"
  | .ref a => match H a with
    | some (.lst _) => some "list"
    | some (.tup _) => some "tuple"
    | some (.dK _) => some "dict"
    | some (.frz _ (.lst _)) => some "list"
    | _ => none
  | _ => none
theorem tyS_ok {x : V} {t : String} (h : tyS x H = some t) : TyX K H x (.type t) := by
  cases x with
  | non => cases h; exact .base .non
  | bl b => cases h; exact .base (.bl b)
  | int i => cases h; exact .base (.int i)
  | str i => cases h; exact .base (.str i)
  | ref a =>
    unfold tyS at h
    cases e : H a with
    | none => simp [e] at h
    | some o =>
      cases o with
      | lst xs => simp [e] at h; subst h; exact .base (.lst e)
      | tup xs => simp [e] at h; subst h; exact .base (.tup e)
      | dK xs => simp [e] at h; subst h; exact .base (.dK e)
      | frz o u =>
        cases u with
        | lst xs => simp [e] at h; subst h; exact .base (.frz e)
        | _ => simp [e] at h
      | _ => simp [e] at h
  | _ => cases h
/-- isinstance with a built-in type -/
def isiF (x : V) (n : String) (H : Hp) (f : Bool → Prop) : Prop := match tyS x H with
  | some t => (match kitB t n with | some b => f b | none => False)
  | none => False
def rIsiF : List V → Hp → VK → Prop := fun xs H Q => match xs with
  | [x, .ty n] => isiF x n H fun b => Q (.bl b) H
  | _ => False
theorem rd_isiF {x : V} {n : String} : rIsiF [x, .ty n] H Q = isiF x n H fun b => Q (.bl b) H := rfl
theorem call_isiF {X : Cx} : CallR X (.builtin "isinstance") rIsiF := by
  intro pins s σ H xs us Q I r h
  refine call_isi pins s σ H xs us Q I r ?_
  unfold rIsiF at h
  split at h
  · rename_i x n
    unfold isiF at h
    split at h
    · rename_i t e
      split at h
      · rename_i b e2
        exact ⟨x, .ty n, _, _, b, rfl, .ty n, tyS_ok e, kit_ty e2, h⟩
      · exact h.elim
    · exact h.elim
  · exact h.elim
theorem isi_non_int {f : Bool → Prop} : isiF .non "int" H f = f false := by
  have e : kitB "NoneType" "int" = some false := by decide +kernel
  simp only [isiF, tyS, e]
theorem isi_non_bool {f : Bool → Prop} : isiF .non "bool" H f = f false := by
  have e : kitB "NoneType" "bool" = some false := by decide +kernel
  simp only [isiF, tyS, e]
theorem isi_non_str {f : Bool → Prop} : isiF .non "str" H f = f false := by
  have e : kitB "NoneType" "str" = some false := by decide +kernel
  simp only [isiF, tyS, e]
theorem isi_non_tuple {f : Bool → Prop} : isiF .non "tuple" H f = f false := by
  have e : kitB "NoneType" "tuple" = some false := by decide +kernel
  simp only [isiF, tyS, e]
theorem isi_non_list {f : Bool → Prop} : isiF .non "list" H f = f false := by
  have e : kitB "NoneType" "list" = some false := by decide +kernel
  simp only [isiF, tyS, e]
theorem isi_non_dict {f : Bool → Prop} : isiF .non "dict" H f = f false := by
  have e : kitB "NoneType" "dict" = some false := by decide +kernel
  simp only [isiF, tyS, e]
theorem isi_bl_int {b : Bool} {f : Bool → Prop} : isiF (.bl b) "int" H f = f true := by
  have e : kitB "bool" "int" = some true := by decide +kernel
  simp only [isiF, tyS, e]
theorem isi_bl_bool {b : Bool} {f : Bool → Prop} : isiF (.bl b) "bool" H f = f true := by
  have e : kitB "bool" "bool" = some true := by decide +kernel
  simp only [isiF, tyS, e]
theorem isi_bl_str {b : Bool} {f : Bool → Prop} : isiF (.bl b) "str" H f = f false := by
  have e : kitB "bool" "str" = some false := by decide +kernel
  simp only [isiF, tyS, e]
theorem isi_bl_tuple {b : Bool} {f : Bool → Prop} : isiF (.bl b) "tuple" H f = f false := by
  have e : kitB "bool" "tuple" = some false := by decide +kernel
  simp only [isiF, tyS, e]
theorem isi_bl_list {b : Bool} {f : Bool → Prop} : isiF (.bl b) "list" H f = f false := by
  have e : kitB "bool" "list" = some false := by decide +kernel
  simp only [isiF, tyS, e]
theorem isi_bl_dict {b : Bool} {f : Bool → Prop} : isiF (.bl b) "dict" H f = f false := by
  have e : kitB "bool" "dict" = some false := by decide +kernel
  simp only [isiF, tyS, e]
theorem isi_int_int {i : Int} {f : Bool → Prop} : isiF (.int i) "int" H f = f true := by
  have e : kitB "int" "int" = some true := by decide +kernel
  simp only [isiF, tyS, e]
theorem isi_int_bool {i : Int} {f : Bool → Prop} : isiF (.int i) "bool" H f = f false := by
  have e : kitB "int" "bool" = some false := by decide +kernel
  simp only [isiF, tyS, e]
theorem isi_int_str {i : Int} {f : Bool → Prop} : isiF (.int i) "str" H f = f false := by
  have e : kitB "int" "str" = some false := by decide +kernel
  simp only [isiF, tyS, e]
theorem isi_int_tuple {i : Int} {f : Bool → Prop} : isiF (.int i) "tuple" H f = f false := by
  have e : kitB "int" "tuple" = some false := by decide +kernel
  simp only [isiF, tyS, e]
theorem isi_int_list {i : Int} {f : Bool → Prop} : isiF (.int i) "list" H f = f false := by
  have e : kitB "int" "list" = some false := by decide +kernel
  simp only [isiF, tyS, e]
theorem isi_int_dict {i : Int} {f : Bool → Prop} : isiF (.int i) "dict" H f = f false := by
  have e : kitB "int" "dict" = some false := by decide +kernel
  simp only [isiF, tyS, e]
theorem isi_str_int {z : Str} {f : Bool → Prop} : isiF (.str z) "int" H f = f false := by
  have e : kitB "str" "int" = some false := by decide +kernel
  simp only [isiF, tyS, e]
theorem isi_str_bool {z : Str} {f : Bool → Prop} : isiF (.str z) "bool" H f = f false := by
  have e : kitB "str" "bool" = some false := by decide +kernel
  simp only [isiF, tyS, e]
theorem isi_str_str {z : Str} {f : Bool → Prop} : isiF (.str z) "str" H f = f true := by
  have e : kitB "str" "str" = some true := by decide +kernel
  simp only [isiF, tyS, e]
theorem isi_str_tuple {z : Str} {f : Bool → Prop} : isiF (.str z) "tuple" H f = f false := by
  have e : kitB "str" "tuple" = some false := by decide +kernel
  simp only [isiF, tyS, e]
theorem isi_str_list {z : Str} {f : Bool → Prop} : isiF (.str z) "list" H f = f false := by
  have e : kitB "str" "list" = some false := by decide +kernel
  simp only [isiF, tyS, e]
theorem isi_str_dict {z : Str} {f : Bool → Prop} : isiF (.str z) "dict" H f = f false := by
  have e : kitB "str" "dict" = some false := by decide +kernel
  simp only [isiF, tyS, e]
theorem isi_lst_int {a : Addr} {xs : List V} (h : H a = some (.lst xs)) {f : Bool → Prop} : isiF (.ref a) "int" H f = f false := by
  have e : kitB "list" "int" = some false := by decide +kernel
  simp only [isiF, tyS, h, e]
theorem isi_lst_bool {a : Addr} {xs : List V} (h : H a = some (.lst xs)) {f : Bool → Prop} : isiF (.ref a) "bool" H f = f false := by
  have e : kitB "list" "bool" = some false := by decide +kernel
  simp only [isiF, tyS, h, e]
theorem isi_lst_str {a : Addr} {xs : List V} (h : H a = some (.lst xs)) {f : Bool → Prop} : isiF (.ref a) "str" H f = f false := by
  have e : kitB "list" "str" = some false := by decide +kernel
  simp only [isiF, tyS, h, e]
theorem isi_lst_tuple {a : Addr} {xs : List V} (h : H a = some (.lst xs)) {f : Bool → Prop} : isiF (.ref a) "tuple" H f = f false := by
  have e : kitB "list" "tuple" = some false := by decide +kernel
  simp only [isiF, tyS, h, e]
theorem isi_lst_list {a : Addr} {xs : List V} (h : H a = some (.lst xs)) {f : Bool → Prop} : isiF (.ref a) "list" H f = f true := by
  have e : kitB "list" "list" = some true := by decide +kernel
  simp only [isiF, tyS, h, e]
theorem isi_lst_dict {a : Addr} {xs : List V} (h : H a = some (.lst xs)) {f : Bool → Prop} : isiF (.ref a) "dict" H f = f false := by
  have e : kitB "list" "dict" = some false := by decide +kernel
  simp only [isiF, tyS, h, e]
theorem isi_tup_int {a : Addr} {xs : List V} (h : H a = some (.tup xs)) {f : Bool → Prop} : isiF (.ref a) "int" H f = f false := by
  have e : kitB "tuple" "int" = some false := by decide +kernel
  simp only [isiF, tyS, h, e]
theorem isi_tup_bool {a : Addr} {xs : List V} (h : H a = some (.tup xs)) {f : Bool → Prop} : isiF (.ref a) "bool" H f = f false := by
  have e : kitB "tuple" "bool" = some false := by decide +kernel
  simp only [isiF, tyS, h, e]
theorem isi_tup_str {a : Addr} {xs : List V} (h : H a = some (.tup xs)) {f : Bool → Prop} : isiF (.ref a) "str" H f = f false := by
  have e : kitB "tuple" "str" = some false := by decide +kernel
  simp only [isiF, tyS, h, e]
theorem isi_tup_tuple {a : Addr} {xs : List V} (h : H a = some (.tup xs)) {f : Bool → Prop} : isiF (.ref a) "tuple" H f = f true := by
  have e : kitB "tuple" "tuple" = some true := by decide +kernel
  simp only [isiF, tyS, h, e]
theorem isi_tup_list {a : Addr} {xs : List V} (h : H a = some (.tup xs)) {f : Bool → Prop} : isiF (.ref a) "list" H f = f false := by
  have e : kitB "tuple" "list" = some false := by decide +kernel
  simp only [isiF, tyS, h, e]
theorem isi_tup_dict {a : Addr} {xs : List V} (h : H a = some (.tup xs)) {f : Bool → Prop} : isiF (.ref a) "dict" H f = f false := by
  have e : kitB "tuple" "dict" = some false := by decide +kernel
  simp only [isiF, tyS, h, e]
theorem isi_dK_int {a : Addr} {kvs : List (Key × V)} (h : H a = some (.dK kvs)) {f : Bool → Prop} : isiF (.ref a) "int" H f = f false := by
  have e : kitB "dict" "int" = some false := by decide +kernel
  simp only [isiF, tyS, h, e]
theorem isi_dK_bool {a : Addr} {kvs : List (Key × V)} (h : H a = some (.dK kvs)) {f : Bool → Prop} : isiF (.ref a) "bool" H f = f false := by
  have e : kitB "dict" "bool" = some false := by decide +kernel
  simp only [isiF, tyS, h, e]
theorem isi_dK_str {a : Addr} {kvs : List (Key × V)} (h : H a = some (.dK kvs)) {f : Bool → Prop} : isiF (.ref a) "str" H f = f false := by
  have e : kitB "dict" "str" = some false := by decide +kernel
  simp only [isiF, tyS, h, e]
theorem isi_dK_tuple {a : Addr} {kvs : List (Key × V)} (h : H a = some (.dK kvs)) {f : Bool → Prop} : isiF (.ref a) "tuple" H f = f false := by
  have e : kitB "dict" "tuple" = some false := by decide +kernel
  simp only [isiF, tyS, h, e]
theorem isi_dK_list {a : Addr} {kvs : List (Key × V)} (h : H a = some (.dK kvs)) {f : Bool → Prop} : isiF (.ref a) "list" H f = f false := by
  have e : kitB "dict" "list" = some false := by decide +kernel
  simp only [isiF, tyS, h, e]
theorem isi_dK_dict {a : Addr} {kvs : List (Key × V)} (h : H a = some (.dK kvs)) {f : Bool → Prop} : isiF (.ref a) "dict" H f = f true := by
  have e : kitB "dict" "dict" = some true := by decide +kernel
  simp only [isiF, tyS, h, e]

/-! loops -/
def forGo (J : It) (g : TG) (tb : TS) (D : Ends) (σ : L2.St) (H : Hp) : Prop := ∃ W : Nat → Nat → L2.St → Hp → Prop, (∃ m, W 0 m σ H) ∧ ∀ i m σ H, W i m σ H →
  (J.stop i H ∧ D.nx σ H) ∨ (J.go i H ∧ ∃ N : L2.St → Hp → Prop, (∀ σ' H', N σ' H' → ∃ m', m' < m ∧ W (i + 1) m' σ' H') ∧ ∀ x H', J.yld i H x H' → g x σ H' fun σ2 H2 => tb { D with nx := N, ct := N, bk := D.nx } σ2 H2)
theorem rd_for {wi : TI} {g : TG} {tb : TS} : tFor wi g tb D σ H = wi σ H fun J H1 => forGo J g tb D σ H1 := rfl
def isR1 (vs : List V) (f : Int → Prop) : Prop := match vs with | [.int j] => f j | _ => False
theorem rd_isR1 {j : Int} {f : Int → Prop} : isR1 [.int j] f = f j := rfl
theorem rd_rng1 {tr : TA} {R : It → Hp → Prop} : iRng1 tr σ H R = tr σ H fun vs H1 => isR1 vs fun j => (-(2 ^ 62) ≤ j ∧ j < 2 ^ 62) ∧ R (Itr 0 j.toNat) H1 := by
  unfold iRng1
  apply congrArg
  funext vs H1
  apply propext
  constructor
  · rintro ⟨j, rfl, h1, h2, r⟩; exact ⟨⟨h1, h2⟩, r⟩
  · intro h
    unfold isR1 at h
    split at h
    · rename_i j
      exact ⟨j, rfl, h.1.1, h.1.2, h.2⟩
    · exact h.elim
def isR2 (vs : List V) (f : Int → Int → Prop) : Prop := match vs with | [.int i, .int j] => f i j | _ => False
theorem rd_isR2 {i j : Int} {f : Int → Int → Prop} : isR2 [.int i, .int j] f = f i j := rfl
theorem rd_rng2 {tr : TA} {R : It → Hp → Prop} : iRng2 tr σ H R = tr σ H fun vs H1 => isR2 vs fun i j => (-(2 ^ 62) ≤ i ∧ i < 2 ^ 62 ∧ -(2 ^ 62) ≤ j ∧ j < 2 ^ 62) ∧ R (Itr i (j - i).toNat) H1 := by
  unfold iRng2
  apply congrArg
  funext vs H1
  apply propext
  constructor
  · rintro ⟨i, j, rfl, h1, r⟩; exact ⟨h1, r⟩
  · intro h
    unfold isR2 at h
    split at h
    · rename_i i j
      exact ⟨i, j, rfl, h.1, h.2⟩
    · exact h.elim
def isRef (x : V) (f : Addr → Prop) : Prop := match x with | .ref a => f a | _ => False
theorem rd_isRef {a : Addr} {f : Addr → Prop} : isRef (.ref a) f = f a := rfl
theorem isRef_eq {x : V} {f : Addr → Prop} : (∃ a, x = .ref a ∧ f a) = isRef x f := by
  apply propext
  constructor
  · rintro ⟨a, rfl, h⟩; exact h
  · intro h
    cases x with
    | ref a => exact ⟨a, rfl, h⟩
    | _ => exact h.elim
theorem rd_iList {R : It → Hp → Prop} : iList K te σ H R = te σ H fun x H1 => isRef x fun a => (∃ xs, SqL K H1 a xs) ∧ R (Itl K a) H1 := by
  unfold iList
  simp only [isRef_eq]
theorem rd_iTup {R : It → Hp → Prop} : iTup K te σ H R = te σ H fun x H1 => isRef x fun a => (∃ xs, SqT K H1 a xs) ∧ R (Itt K a) H1 := by
  unfold iTup
  simp only [isRef_eq]
def isStr (x : V) (f : Str → Prop) : Prop := match x with | .str a => f a | _ => False
theorem rd_isStr {a : Str} {f : Str → Prop} : isStr (.str a) f = f a := rfl
theorem isStr_eq {x : V} {f : Str → Prop} : (∃ a, x = .str a ∧ f a) = isStr x f := by
  apply propext
  constructor
  · rintro ⟨a, rfl, h⟩; exact h
  · intro h
    cases x with
    | str a => exact ⟨a, rfl, h⟩
    | _ => exact h.elim
theorem rd_iStr {R : It → Hp → Prop} : iStr te σ H R = te σ H fun x H1 => isStr x fun z => R (Its z) H1 := by
  unfold iStr
  simp only [isStr_eq]
theorem go_it {J : It} {n : Nat} {G : Hp → Prop} {Y : Nat → Hp → V → Hp → Prop} (w : L2.Walk J n G Y) {g : TG} {tb : TS} (Pv : Nat → L2.St → Hp → Prop) (h0 : Pv 0 σ H) (hG : ∀ i σ H, i ≤ n → Pv i σ H → G H)
    (hs : ∀ (N : L2.St → Hp → Prop) i x σ H H', i < n → Pv i σ H → Y i H x H' → (∀ σ' H', Pv (i + 1) σ' H' → N σ' H') → g x σ H' fun σ2 H2 => tb { D with nx := N, ct := N, bk := D.nx } σ2 H2) (hd : ∀ σ H, Pv n σ H → D.nx σ H) : forGo J g tb D σ H :=
  L2.for_it w Pv h0 hG (fun i x σ H H' h1 h2 h3 => hs _ i x σ H H' h1 h2 h3 fun _ _ z => z) hd
theorem go_range {lo : Int} {n : Nat} {g : TG} {tb : TS} (Pv : Nat → L2.St → Hp → Prop) (h0 : Pv 0 σ H)
    (hs : ∀ (N : L2.St → Hp → Prop) (i : Nat) σ H, i < n → Pv i σ H → (∀ σ' H', Pv (i + 1) σ' H' → N σ' H') → g (.int (lo + i)) σ H fun σ2 H2 => tb { D with nx := N, ct := N, bk := D.nx } σ2 H2) (hd : ∀ σ H, Pv n σ H → D.nx σ H) : forGo (Itr lo n) g tb D σ H :=
  for_range Pv h0 (fun i σ H h1 h2 => hs _ i σ H h1 h2 fun _ _ z => z) hd
theorem go_list {a : Addr} {xs : List V} {g : TG} {tb : TS} (Pv : Nat → L2.St → Hp → Prop) (h0 : Pv 0 σ H) (hl : ∀ i σ H, i ≤ xs.length → Pv i σ H → SqL K H a xs)
    (hs : ∀ (N : L2.St → Hp → Prop) i x σ H, xs[i]? = some x → Pv i σ H → (∀ σ' H', Pv (i + 1) σ' H' → N σ' H') → g x σ H fun σ2 H2 => tb { D with nx := N, ct := N, bk := D.nx } σ2 H2) (hd : ∀ σ H, Pv xs.length σ H → D.nx σ H) : forGo (Itl K a) g tb D σ H :=
  for_list Pv h0 hl (fun i x σ H h1 h2 => hs _ i x σ H h1 h2 fun _ _ z => z) hd
theorem go_tup {a : Addr} {xs : List V} {g : TG} {tb : TS} (Pv : Nat → L2.St → Hp → Prop) (h0 : Pv 0 σ H) (hl : ∀ i σ H, i ≤ xs.length → Pv i σ H → SqT K H a xs)
    (hs : ∀ (N : L2.St → Hp → Prop) i x σ H, xs[i]? = some x → Pv i σ H → (∀ σ' H', Pv (i + 1) σ' H' → N σ' H') → g x σ H fun σ2 H2 => tb { D with nx := N, ct := N, bk := D.nx } σ2 H2) (hd : ∀ σ H, Pv xs.length σ H → D.nx σ H) : forGo (Itt K a) g tb D σ H :=
  for_tup Pv h0 hl (fun i x σ H h1 h2 => hs _ i x σ H h1 h2 fun _ _ z => z) hd
/-! sequences -/
/-- p is new at H -/
def Fresh (H : Hp) (p : Addr) : Prop := H p = none
theorem Fresh.ne {H : Hp} {p a : Addr} {o : HO} (f : Fresh H p) (h : H a = some o) : a ≠ p := ne_of_none h f
theorem rd_lst {tr : TA} : tLst tr σ H Q = tr σ H fun xs H1 => xs.length ≤ sizeLine ∧ ∀ p, Fresh H1 p → Q (.ref p) (upd H1 p (.lst xs)) := rfl
theorem rd_tup {tr : TA} : tTup tr σ H Q = tr σ H fun xs H1 => xs.length ≤ sizeLine ∧ ∀ p, Fresh H1 p → Q (.ref p) (upd H1 p (.tup xs)) := rfl
theorem rd_cat {l b : Addr} : rCat (.ref l) (.ref b) H Q = ∃ xs zs, H l = some (.lst xs) ∧ H b = some (.lst zs) ∧ xs.length + zs.length ≤ sizeLine ∧ ∀ p, Fresh H p → Q (.ref p) (upd H p (.lst (xs ++ zs))) := by
  unfold rCat
  apply propext
  constructor
  · rintro ⟨l', b', xs, zs, e1, e2, q⟩; cases e1; cases e2; exact ⟨xs, zs, q⟩
  · rintro ⟨xs, zs, q⟩; exact ⟨l, b, xs, zs, rfl, rfl, q⟩
theorem rd_ixL {p : Addr} {i : Int} : rIxL K (.ref p) (.int i) H Q = ∃ xs v, SqL K H p xs ∧ atI xs i = some v ∧ Q v H := by
  unfold rIxL
  apply propext
  constructor
  · rintro ⟨p', xs, i', v, e1, e2, q⟩; cases e1; cases e2; exact ⟨xs, v, q⟩
  · rintro ⟨xs, v, q⟩; exact ⟨p, xs, i, v, rfl, rfl, q⟩
theorem rd_sl {r : V → Option Int → Option Int → Hp → VK → Prop} {tl th : TO} : tSl r te tl th σ H Q = te σ H fun x H1 => tl σ H1 fun l H2 => th σ H2 fun u H3 => r x l u H3 Q := rfl
theorem rd_noPart {R : Option Int → Hp → Prop} : tNoPart σ H R = R none H := rfl
def isInt (x : V) (f : Int → Prop) : Prop := match x with | .int a => f a | _ => False
theorem rd_isInt {a : Int} {f : Int → Prop} : isInt (.int a) f = f a := rfl
theorem isInt_eq {x : V} {f : Int → Prop} : (∃ a, x = .int a ∧ f a) = isInt x f := by
  apply propext
  constructor
  · rintro ⟨a, rfl, h⟩; exact h
  · intro h
    cases x with
    | int a => exact ⟨a, rfl, h⟩
    | _ => exact h.elim
theorem rd_part {R : Option Int → Hp → Prop} : tPart te σ H R = te σ H fun x H1 => isInt x fun i => R (some i) H1 := by
  unfold tPart
  simp only [isInt_eq]
theorem rd_slL {a : Addr} {lo hi : Option Int} : rSlL K (.ref a) lo hi H Q = ∃ xs, SqL K H a xs ∧ ∀ p, Fresh H p → Q (.ref p) (upd H p (.lst (cutV xs lo hi))) := by
  unfold rSlL
  apply propext
  constructor
  · rintro ⟨a', xs, e1, q⟩; cases e1; exact ⟨xs, q⟩
  · rintro ⟨xs, q⟩; exact ⟨a, xs, rfl, q⟩
def rLen (K : PySem.W.Frag) : List V → Hp → VK → Prop := fun xs H Q => ∃ p ys, xs = [.ref p] ∧ (SqL K H p ys ∨ SqT K H p ys) ∧ Q (.int ys.length) H
theorem call_lenq {X : Cx} : CallR X (.builtin "len") (rLen X.K) := call_len_seq
theorem rd_len {p : Addr} : rLen K [.ref p] H Q = ∃ ys, (SqL K H p ys ∨ SqT K H p ys) ∧ Q (.int ys.length) H := by
  unfold rLen
  apply propext
  constructor
  · rintro ⟨p', ys, e, q⟩; cases e; exact ⟨ys, q⟩
  · rintro ⟨ys, q⟩; exact ⟨p, ys, rfl, q⟩
/-! promises -/
def spI1 (Pre : Int → Prop) (f : Int → V) : Sp := fun vs H Q _ => ∃ a, vs = [.int a] ∧ Pre a ∧ Q (f a) H
def spI2 (Pre : Int → Int → Prop) (f : Int → Int → V) : Sp := fun vs H Q _ => ∃ a b, vs = [.int a, .int b] ∧ Pre a b ∧ Q (f a b) H
def spI3 (Pre : Int → Int → Int → Prop) (f : Int → Int → Int → V) : Sp := fun vs H Q _ => ∃ a b c, vs = [.int a, .int b, .int c] ∧ Pre a b c ∧ Q (f a b c) H
def spI4 (Pre : Int → Int → Int → Int → Prop) (f : Int → Int → Int → Int → V) : Sp := fun vs H Q _ => ∃ a b c d, vs = [.int a, .int b, .int c, .int d] ∧ Pre a b c d ∧ Q (f a b c d) H
variable {E : XK}
theorem rd_spI1 {Pre : Int → Prop} {f : Int → V} {a : Int} : spI1 Pre f [.int a] H Q E = (Pre a ∧ Q (f a) H) := by
  unfold spI1
  apply propext
  constructor
  · rintro ⟨a', e, q⟩; cases e; exact q
  · intro q; exact ⟨a, rfl, q⟩
theorem rd_spI2 {Pre : Int → Int → Prop} {f : Int → Int → V} {a b : Int} : spI2 Pre f [.int a, .int b] H Q E = (Pre a b ∧ Q (f a b) H) := by
  unfold spI2
  apply propext
  constructor
  · rintro ⟨a', b', e, q⟩; cases e; exact q
  · intro q; exact ⟨a, b, rfl, q⟩
theorem rd_spI3 {Pre : Int → Int → Int → Prop} {f : Int → Int → Int → V} {a b c : Int} : spI3 Pre f [.int a, .int b, .int c] H Q E = (Pre a b c ∧ Q (f a b c) H) := by
  unfold spI3
  apply propext
  constructor
  · rintro ⟨a', b', c', e, q⟩; cases e; exact q
  · intro q; exact ⟨a, b, c, rfl, q⟩
theorem rd_spI4 {Pre : Int → Int → Int → Int → Prop} {f : Int → Int → Int → Int → V} {a b c d : Int} : spI4 Pre f [.int a, .int b, .int c, .int d] H Q E = (Pre a b c d ∧ Q (f a b c d) H) := by
  unfold spI4
  apply propext
  constructor
  · rintro ⟨a', b', c', d', e, q⟩; cases e; exact q
  · intro q; exact ⟨a, b, c, d, rfl, q⟩
/-- a scalar: whether it is an int and no truth -/
def wholeV : V → Bool
  | .int _ => true
  | _ => false
def scalV : V → Bool
  | .int _ => true
  | .bl _ => true
  | .non => true
  | .str _ => true
  | _ => false
/-- a value whose kind is known -/
def thing (H : Hp) : V → Prop
  | .int _ => True
  | .bl _ => True
  | .non => True
  | .str _ => True
  | .ref a => (∃ xs, H a = some (.tup xs)) ∨ (∃ xs, H a = some (.lst xs)) ∨ ∃ xs, H a = some (.dK xs)
  | _ => False
def spWhole : Sp := fun vs H Q _ => ∃ x, vs = [x] ∧ thing H x ∧ Q (.bl (wholeV x)) H
theorem rd_whole {i : Int} : spWhole [.int i] H Q E = Q (.bl true) H := by
  unfold spWhole
  apply propext
  constructor
  · rintro ⟨x, e, _, q⟩; cases e; exact q
  · intro q; exact ⟨_, rfl, trivial, q⟩
/-- the law's own: a list of at most 63 ints, True -/
def spLaw (K : PySem.W.Frag) : Sp := fun vs H Q _ => ∃ (a : Addr) (ns : List Int), vs = [.ref a] ∧ SqL K H a (ns.map V.int) ∧ ns.length ≤ 63 ∧ ∀ H', Q (.bl true) H'
end
theorem len_spI1 {Pre : Int → Prop} {f : Int → V} {vs H Q E} (h : spI1 Pre f vs H Q E) : vs.length = 1 := by obtain ⟨_, rfl, _⟩ := h; rfl
theorem len_spI2 {Pre : Int → Int → Prop} {f : Int → Int → V} {vs H Q E} (h : spI2 Pre f vs H Q E) : vs.length = 2 := by obtain ⟨_, _, rfl, _⟩ := h; rfl
theorem len_spI3 {Pre : Int → Int → Int → Prop} {f : Int → Int → Int → V} {vs H Q E} (h : spI3 Pre f vs H Q E) : vs.length = 3 := by obtain ⟨_, _, _, rfl, _⟩ := h; rfl
theorem len_spI4 {Pre : Int → Int → Int → Int → Prop} {f : Int → Int → Int → Int → V} {vs H Q E} (h : spI4 Pre f vs H Q E) : vs.length = 4 := by obtain ⟨_, _, _, _, rfl, _⟩ := h; rfl
theorem len_whole {vs H Q E} (h : spWhole vs H Q E) : vs.length = 1 := by obtain ⟨_, rfl, _⟩ := h; rfl
theorem len_law {K : PySem.W.Frag} {vs H Q E} (h : spLaw K vs H Q E) : vs.length = 1 := by obtain ⟨_, _, rfl, _⟩ := h; rfl
theorem st_nil : L2.start [] [] = [] := rfl
theorem st_arg {x : Str} {N : List Str} {v : V} {vs : List V} : L2.start (x :: N) (v :: vs) = some v :: L2.start N vs := by
  unfold L2.start
  simp
theorem st_none {x : Str} {N : List Str} : L2.start (x :: N) [] = none :: L2.start N [] := by
  unfold L2.start
  simp [List.replicate_succ]
theorem cxK {CX : CXT} {P : Program} {w : World} {K : PySem.W.Frag} {mg : Str → Option Value} {base : Heap} {N : List Str} {qual : Str} {scope : Scope} {f : Addr} {cd : Value} {A : Around} {outer : List Env} {s : Shared} {H : Hp} {E : XK} :
    (cxOf CX P w K mg base N qual scope f cd A outer s H E).K = K := rfl
/-- a new object leaves what stood before -/
theorem Same_upd {H0 H : Hp} {p : Addr} {o : HO} (s : Same H0 H) (f : Fresh H p) : Same H0 (upd H p o) := fun b u e => by
  have e' := s b u e
  rw [upd_ne (f.ne e')]
  exact e'
theorem Same_fresh {H0 H : Hp} {p : Addr} (s : Same H0 H) (f : Fresh H p) : Fresh H0 p := s.free f
theorem Same_upd0 {H0 H : Hp} {p : Addr} {o : HO} (s : Same H0 H) (f : Fresh H0 p) : Same H0 (upd H p o) := fun b u e => by
  rw [upd_ne (f.ne e)]
  exact s b u e
/-- the items of a list of ints -/
theorem ints_at {ns : List Int} {i : Nat} {y : V} (h : (ns.map V.int)[i]? = some y) : ∃ n, ns[i]? = some n ∧ y = .int n := by
  rw [List.getElem?_map] at h
  cases e : ns[i]? with
  | none => rw [e] at h; cases h
  | some n => rw [e] at h; exact ⟨n, rfl, (Option.some.inj h).symm⟩
theorem cut_len (xs : List V) (lo hi : Option Int) : (cutV xs lo hi).length ≤ xs.length := cutV_length xs lo hi
theorem cut_map (ns : List Int) (lo hi : Option Int) : ∃ ms : List Int, cutV (ns.map V.int) lo hi = ms.map V.int ∧ ms.length ≤ ns.length := by
  unfold cutV
  rw [← List.map_drop, ← List.map_take]
  exact ⟨_, rfl, by rw [List.length_take, List.length_drop]; omega⟩
/-- the item of a list of ints at a place in bounds -/
def getI (xs : List Int) (i : Int) : Int := xs.getD i.toNat 0
theorem at_int {xs : List Int} {i : Int} (h0 : 0 ≤ i) (h1 : i < xs.length) : atI (xs.map V.int) i = some (.int (getI xs i)) := by
  obtain ⟨j, rfl⟩ : ∃ j : Nat, i = (j : Int) := ⟨i.toNat, by omega⟩
  have hj : j < xs.length := by omega
  refine atI_nat ?_
  rw [List.getElem?_map, List.getElem?_eq_getElem hj]
  show some (V.int xs[j]) = some (V.int (xs.getD j 0))
  rw [List.getD_eq_getElem?_getD, List.getElem?_eq_getElem hj]
  rfl
theorem iteN {c A B : Prop} [Decidable c] (h : ¬ c) (q : B) : if c then A else B := by rw [if_neg h]; exact q
theorem iteP {c A B : Prop} [Decidable c] (h : c) (q : A) : if c then A else B := by rw [if_pos h]; exact q
theorem tyL {K : PySem.W.Frag} {H : Hp} {l : Addr} {xs : List V} (h : H l = some (.lst xs)) : tyV K "list" (.ref l) H := Or.inl ⟨rfl, _, SqL.of h⟩
theorem rd_BM {K : PySem.W.Frag} {T : String} {r : V → List V → Hp → VK → Prop} {to : TE} {t : TA} {σ : L2.St} {H : Hp} {Q : VK} : tBM K T r to t σ H Q = to σ H fun x H1 => tyV K T x H1 ∧ t σ H1 fun xs H2 => r x xs H2 Q := rfl
theorem rd_BM0 {K : PySem.W.Frag} {T : String} {r : V → List V → Hp → VK → Prop} {to : TE} {σ : L2.St} {H : Hp} {Q : VK} : tBM0 K T r to σ H Q = to σ H fun x H1 => tyV K T x H1 ∧ r x [] H1 Q := rfl
theorem rd_append {l : Addr} {y : V} {H : Hp} {Q : VK} : rAppend (.ref l) [y] H Q = ∃ xs, H l = some (.lst xs) ∧ xs.length < sizeLine ∧ Q .non (upd H l (.lst (xs ++ [y]))) := by
  unfold rAppend
  apply propext
  constructor
  · rintro ⟨l', xs, y', e1, e2, q⟩; cases e1; cases e2; exact ⟨xs, q⟩
  · rintro ⟨xs, q⟩; exact ⟨l, xs, y, rfl, rfl, q⟩
theorem rd_rep {l : Addr} {k : Int} {H : Hp} {Q : VK} : rRep (.ref l) (.int k) H Q = ∃ xs, H l = some (.lst xs) ∧ -(2 ^ 63) ≤ k ∧ k < 2 ^ 63 ∧ xs.length * k.toNat ≤ sizeLine ∧ ∀ p, Fresh H p → Q (.ref p) (upd H p (.lst (List.replicate k.toNat xs).flatten)) := by
  unfold rRep
  apply propext
  constructor
  · rintro ⟨l', k', xs, e1, e2, q⟩; cases e1; cases e2; exact ⟨xs, q⟩
  · rintro ⟨xs, q⟩; exact ⟨l, k, xs, rfl, rfl, q⟩
theorem rd_gSub {to ti : TE} {t : TSet} {v : V} {σ : L2.St} {H : Hp} {R : L2.St → Hp → Prop} : gSub to ti t v σ H R = to σ H fun o H1 => ti σ H1 fun i H2 => t o i v H2 fun H3 => R σ H3 := rfl
theorem rd_setL {p : Addr} {k : Int} {v : V} {H : Hp} {R : Hp → Prop} : rSetL (.ref p) (.int k) v H R = ∃ xs j, H p = some (.lst xs) ∧ ixN xs.length k = some j ∧ R (upd H p (.lst (xs.set j v))) := by
  unfold rSetL
  apply propext
  constructor
  · rintro ⟨p', xs, k', j, e1, e2, q⟩; cases e1; cases e2; exact ⟨xs, j, q⟩
  · rintro ⟨xs, j, q⟩; exact ⟨p, xs, k, j, rfl, rfl, q⟩
theorem ixN_nat {n : Nat} {k : Int} (h0 : 0 ≤ k) (h1 : k < n) : ixN n k = some k.toNat := by
  unfold ixN
  rw [if_pos h0, if_pos (by omega)]
/-! lists of ints compared -/
theorem DpAll_ints {K : PySem.W.Frag} {H : Hp} : ∀ xs : List Int, DpAll K H (xs.map V.int) (xs.map PyData.int)
  | [] => .nil
  | x :: xs => .cons (.int x) (DpAll_ints xs)
theorem eqvAll_ints : ∀ xs ys : List Int, PyData.eqvAll (xs.map PyData.int) (ys.map PyData.int) = decide (xs = ys)
  | [], [] => by simp [PyData.eqvAll]
  | [], _ :: _ => by simp [PyData.eqvAll]
  | _ :: _, [] => by simp [PyData.eqvAll]
  | x :: xs, y :: ys => by
    show (PyData.eqv (.int x) (.int y) && PyData.eqvAll (xs.map PyData.int) (ys.map PyData.int)) = _
    rw [eqvAll_ints xs ys, PyData.eqv]
    by_cases h : x = y
    · subst h
      by_cases h2 : xs = ys
      · simp [h2]
      · simp [h2]
    · simp [h]
theorem canLay_ints : ∀ xs : List Int, PyData.canLayAll0 (xs.map PyData.int) = true
  | [] => by simp [PyData.canLayAll0]
  | x :: xs => by
    show (PyData.canLay0 (.int x) && PyData.canLayAll0 (xs.map PyData.int)) = true
    rw [canLay_ints xs, PyData.canLay0]
    rfl
theorem depth_ints : ∀ xs : List Int, PyData.depthAll (xs.map PyData.int) = 0
  | [] => by simp [PyData.depthAll]
  | x :: xs => by
    show max (PyData.depth (.int x)) (PyData.depthAll (xs.map PyData.int)) = 0
    rw [depth_ints xs, PyData.depth]
    rfl
theorem shaped_ints (xs : List Int) : SeqAt.shaped (.list (xs.map PyData.int)) = true := by
  unfold SeqAt.shaped
  rw [PyData.canLay0, canLay_ints, PyData.depth, depth_ints]
  decide
theorem eq_ints {K : PySem.W.Frag} {H : Hp} {a b : Addr} {xs ys : List Int} {Q : VK} (ha : SqL K H a (xs.map V.int)) (hb : SqL K H b (ys.map V.int)) (q : Q (.bl (decide (xs = ys))) H) : rEqD K (.ref a) (.ref b) H Q :=
  ⟨.list (xs.map PyData.int), .list (ys.map PyData.int), .lst ha (DpAll_ints xs), .lst hb (DpAll_ints ys), shaped_ints xs, shaped_ints ys, by rw [PyData.eqv, eqvAll_ints]; exact q⟩
/-- a cell of the script -/
def spCell (K : PySem.W.Frag) : Sp := fun vs H Q _ => ∃ (a : Addr) (ns : List Int) (i : Int), vs = [.ref a, .int i] ∧ SqL K H a (ns.map V.int) ∧ 0 ≤ i ∧ Q (.int (getI ns i)) H
theorem rd_spCell {K : PySem.W.Frag} {a : Addr} {i : Int} {H : Hp} {Q : VK} {E : XK} : spCell K [.ref a, .int i] H Q E = ∃ ns : List Int, SqL K H a (ns.map V.int) ∧ 0 ≤ i ∧ Q (.int (getI ns i)) H := by
  unfold spCell
  apply propext
  constructor
  · rintro ⟨a', ns, i', e, q⟩; cases e; exact ⟨ns, q⟩
  · rintro ⟨ns, q⟩; exact ⟨a, ns, i, rfl, q⟩
theorem len_cell {K : PySem.W.Frag} {vs H Q E} (h : spCell K vs H Q E) : vs.length = 2 := by obtain ⟨_, _, _, rfl, _⟩ := h; rfl
/-- a new list of ints by two ints -/
def spNew2 (Pre : Int → Int → Prop) (f : Int → Int → List Int) : Sp := fun vs H Q _ => ∃ m s, vs = [.int m, .int s] ∧ Pre m s ∧ ∀ p H', Same H H' → Fresh H p → H' p = some (.lst ((f m s).map V.int)) → Q (.ref p) H'
theorem rd_spNew2 {Pre : Int → Int → Prop} {f : Int → Int → List Int} {m s : Int} {H : Hp} {Q : VK} {E : XK} : spNew2 Pre f [.int m, .int s] H Q E = (Pre m s ∧ ∀ p H', Same H H' → Fresh H p → H' p = some (.lst ((f m s).map V.int)) → Q (.ref p) H') := by
  unfold spNew2
  apply propext
  constructor
  · rintro ⟨m', s', e, q⟩; cases e; exact q
  · intro q; exact ⟨m, s, rfl, q⟩
theorem len_new2 {Pre : Int → Int → Prop} {f : Int → Int → List Int} {vs H Q E} (h : spNew2 Pre f vs H Q E) : vs.length = 2 := by obtain ⟨_, _, rfl, _⟩ := h; rfl
theorem both {A B : Prop} (a : A) (b : B) : A ∧ B := ⟨a, b⟩
theorem iteB {c A B : Prop} [Decidable c] (h1 : c → A) (h2 : ¬ c → B) : if c then A else B := ite2 h1 h2
/-- // by a divisor of at most 4000 bits -/
theorem divB {i j : Int} (h : 0 < j) (hb : j < 2 ^ 200) : CDivW i j := wide_div (b := 201) h (by
  have e : (2 : Int) ^ 200 = ((2 ^ 200 : Nat) : Int) := by decide +kernel
  have e2 : (2 : Nat) ^ 200 ≤ 2 ^ 201 := by decide +kernel
  omega) (by decide) (by decide)
/-- any int -/
def spAny1 (Post : Int → V → Prop) : Sp := fun vs H Q _ => ∃ a, vs = [.int a] ∧ ∀ v, Post a v → Q v H
theorem rd_spAny1 {Post : Int → V → Prop} {a : Int} {H : Hp} {Q : VK} {E : XK} : spAny1 Post [.int a] H Q E = ∀ v, Post a v → Q v H := by
  unfold spAny1
  apply propext
  constructor
  · rintro ⟨a', e, q⟩; cases e; exact q
  · intro q; exact ⟨a, rfl, q⟩
theorem len_any1 {Post : Int → V → Prop} {vs H Q E} (h : spAny1 Post vs H Q E) : vs.length = 1 := by obtain ⟨_, rfl, _⟩ := h; rfl
theorem go_while {c : TT} {tb : TS} {D : Ends} {σ : L2.St} {H : Hp} (Pv : L2.St → Hp → Prop) (μ : L2.St → Hp → Nat) (h0 : Pv σ H)
    (hs : ∀ (B : Hp → Prop) σ H, Pv σ H → (∀ H1, (∀ N : L2.St → Hp → Prop, (∀ σ' H', Pv σ' H' → μ σ' H' < μ σ H → N σ' H') → tb { D with nx := N, ct := N, bk := D.nx } σ H1) → B H1) →
      c σ H fun b H1 => if b = true then B H1 else D.nx σ H1) : tWhile c tb D σ H := by
  refine ⟨fun m σ H => m = μ σ H ∧ Pv σ H, ⟨_, rfl, h0⟩, ?_⟩
  rintro m σ H ⟨rfl, p⟩
  refine hs (fun H1 => ∃ N : L2.St → Hp → Prop, (∀ σ' H', N σ' H' → ∃ m', m' < μ σ H ∧ m' = μ σ' H' ∧ Pv σ' H') ∧ tb { D with nx := N, ct := N, bk := D.nx } σ H1) σ H p fun H1 h => ?_
  exact ⟨fun σ' H' => Pv σ' H' ∧ μ σ' H' < μ σ H, fun σ' H' ⟨p', l⟩ => ⟨_, l, rfl, p'⟩, h _ fun σ' H' p' l => ⟨p', l⟩⟩
theorem rd_dnewK {σ : L2.St} {H : Hp} {Q : VK} : tDNewK σ H Q = ∀ p, Fresh H p → Q (.ref p) (upd H p (.dK [])) := rfl
theorem rd_dsetd {td ty tx : TE} {σ : L2.St} {H : Hp} {Q : VK} : tDSetd td ty tx σ H Q = td σ H fun x H1 => isRef x fun a => IsD H1 a ∧ ty σ H1 fun y H2 => tx σ H2 fun z H3 => ∃ (kvs : List (Key × V)) (k : Key), H3 a = some (.dK kvs) ∧ y = kV k ∧ kvs.length < sizeLine ∧
  (∀ v, valV kvs k = some v → Q v H3) ∧ (valV kvs k = none → Q z (upd H3 a (.dK (putK kvs k z)))) := by
  unfold tDSetd
  simp only [isRef_eq]
theorem exSq {K : PySem.W.Frag} {H : Hp} {a : Addr} {ms : List Int} {R : List Int → Prop} (h : SqL K H a (ms.map V.int)) (q : R ms) : ∃ ns : List Int, SqL K H a (ns.map V.int) ∧ R ns := ⟨ms, h, q⟩
theorem exSqV {K : PySem.W.Frag} {H : Hp} {a : Addr} {ms : List V} {R : List V → Prop} (h : SqL K H a ms) (q : R ms) : ∃ ns : List V, SqL K H a ns ∧ R ns := ⟨ms, h, q⟩
def rMax2 : List V → Hp → VK → Prop := fun xs H Q => ∃ i j, xs = [.int i, .int j] ∧ Q (.int (if j > i then j else i)) H
def rMin2 : List V → Hp → VK → Prop := fun xs H Q => ∃ i j, xs = [.int i, .int j] ∧ Q (.int (if j < i then j else i)) H
theorem call_max2q {X : Cx} (hc : X.calm = true) : CallR X (.builtin "max") rMax2 := call_max2 hc
theorem call_min2q {X : Cx} (hc : X.calm = true) : CallR X (.builtin "min") rMin2 := call_min2 hc
theorem rd_max2 {i j : Int} {H : Hp} {Q : VK} : rMax2 [.int i, .int j] H Q = Q (.int (if j > i then j else i)) H := by
  unfold rMax2
  apply propext
  constructor
  · rintro ⟨i', j', e, q⟩; cases e; exact q
  · intro q; exact ⟨i, j, rfl, q⟩
theorem rd_min2 {i j : Int} {H : Hp} {Q : VK} : rMin2 [.int i, .int j] H Q = Q (.int (if j < i then j else i)) H := by
  unfold rMin2
  apply propext
  constructor
  · rintro ⟨i', j', e, q⟩; cases e; exact q
  · intro q; exact ⟨i, j, rfl, q⟩
end My
namespace My
open PySem PySem.W
theorem and_m1 (z : Int) : Builtin.bitAnd z (-1) = z := by
  show Spec.bitAnd z (-1) = z
  unfold Spec.bitAnd
  have h : decide ((0 : Int) ≤ -1) = false := by decide
  rw [h]
  cases e : decide (0 ≤ z) with
  | true =>
    have e' := of_decide_eq_true e
    have h2 : (Spec.bitNot (-1)).toNat = 0 := by decide
    simp [h2]
  | false =>
    have e' := of_decide_eq_false e
    have h2 : (Spec.bitNot (-1)).toNat = 0 := by decide
    simp only [h2, Nat.or_zero]
    unfold Spec.bitNot
    omega
theorem or_one (x : Int) : Builtin.bitOr x 1 = x + 1 - x % 2 := by
  have h : Builtin.bitOr x 1 = Spec.bitNot (Builtin.bitAnd (Spec.bitNot x) (Spec.bitNot 1)) := rfl
  have h1 : Spec.bitNot 1 = -2 := by decide
  rw [h, h1, kbt_halves]
  have h2 : (-2 : Int) / 2 = -1 := by decide
  have h3 : ¬ ((-2 : Int) % 2 = 1) := by decide
  rw [h2, and_m1, if_neg (fun c => h3 c.2)]
  unfold Spec.bitNot
  omega
def strideF (m : Int) : Int := Builtin.bitOr (m / 32) 1
def probeF (m s c : Int) : Int := Builtin.bitAnd (m + c * strideF m) (s - 1)
theorem strideF_eq (m : Int) : strideF m = m / 32 + 1 - m / 32 % 2 := or_one _
theorem probeF_eq (m c : Int) (k : Nat) : probeF m (2 ^ k) c = (m + c * strideF m) % 2 ^ k := kbt_mask _ k
/-- the slots of probes, one after the other -/
def slotI (m s : Int) : Nat → Int
  | 0 => Builtin.bitAnd m (s - 1)
  | i + 1 => Builtin.bitAnd (slotI m s i + strideF m) (s - 1)
def probesF (m s : Int) : List Int := (List.range s.toNat).map (slotI m s)
theorem slotI_eq (m : Int) (k : Nat) : ∀ i : Nat, slotI m (2 ^ k) i = (m + i * strideF m) % 2 ^ k
  | 0 => by
    rw [slotI, kbt_mask]
    simp
  | i + 1 => by
    rw [slotI, kbt_mask, slotI_eq m k i, Int.emod_add_emod]
    congr 1
    rw [Int.natCast_add, Int.add_mul, Int.add_assoc]
    simp
theorem pow_le {j n : Nat} (h : j ≤ n) : (0 : Int) < 2 ^ j ∧ (2 : Int) ^ j ≤ 2 ^ n := by
  have a : (2 : Nat) ^ j ≤ 2 ^ n := Nat.pow_le_pow_right (by decide) h
  have b : 0 < (2 : Nat) ^ j := Nat.pow_pos (by decide)
  have e : ((2 ^ j : Nat) : Int) = (2 : Int) ^ j := by norm_cast
  have e2 : ((2 ^ n : Nat) : Int) = (2 : Int) ^ n := by norm_cast
  omega
theorem pow8 (n : Nat) : (8 : Int) * 2 ^ n = 2 ^ (n + 3) := by
  rw [Int.pow_add, Int.mul_comm]
  rfl
/-- a slot is told by its count -/
theorem slot_of {m f st d S : Int} (h0 : 0 ≤ d) (h1 : d < S) (h : (m + f * st - d) % S = 0) : d = (m + f * st) % S := by
  have e : (m + f * st) % S = (m + f * st - d + d) % S := by rw [Int.sub_add_cancel]
  rw [e, Int.add_emod, h, Int.zero_add, Int.emod_emod, Int.emod_eq_of_lt h0 h1]
end My
namespace My
open PySem PySem.Spec PyProof.Rows L2
/-! keys as data -/
inductive Ky where
  | num (i : Int) | txt (x : Str) | tup (ks : List Ky)
mutual
def Ky.beq : Ky → Ky → Bool
  | .num i, .num j => decide (i = j)
  | .txt x, .txt y => decide (x = y)
  | .tup xs, .tup ys => Ky.beqs xs ys
  | .num _, .txt _ => false
  | .num _, .tup _ => false
  | .txt _, .num _ => false
  | .txt _, .tup _ => false
  | .tup _, .num _ => false
  | .tup _, .txt _ => false
def Ky.beqs : List Ky → List Ky → Bool
  | [], [] => true
  | x :: xs, y :: ys => Ky.beq x y && Ky.beqs xs ys
  | [], _ :: _ => false
  | _ :: _, [] => false
end
mutual
theorem Ky.beq_iff : ∀ x y : Ky, Ky.beq x y = true ↔ x = y
  | .num i, .num j => by simp [Ky.beq]
  | .txt x, .txt y => by simp [Ky.beq]
  | .tup xs, .tup ys => by
    rw [Ky.beq, Ky.beqs_iff xs ys]
    simp
  | .num _, .txt _ => by simp [Ky.beq]
  | .num _, .tup _ => by simp [Ky.beq]
  | .txt _, .num _ => by simp [Ky.beq]
  | .txt _, .tup _ => by simp [Ky.beq]
  | .tup _, .num _ => by simp [Ky.beq]
  | .tup _, .txt _ => by simp [Ky.beq]
theorem Ky.beqs_iff : ∀ xs ys : List Ky, Ky.beqs xs ys = true ↔ xs = ys
  | [], [] => by simp [Ky.beqs]
  | x :: xs, y :: ys => by
    rw [Ky.beqs, Bool.and_eq_true, Ky.beq_iff x y, Ky.beqs_iff xs ys]
    simp
  | [], _ :: _ => by simp [Ky.beqs]
  | _ :: _, [] => by simp [Ky.beqs]
end
instance : DecidableEq Ky := fun x y => if h : Ky.beq x y = true then .isTrue ((Ky.beq_iff x y).mp h) else .isFalse fun e => h ((Ky.beq_iff x y).mpr e)
mutual
def Ky.toD : Ky → PyData
  | .num i => .int i
  | .txt x => .str x
  | .tup ks => .tuple (Ky.toDs ks)
def Ky.toDs : List Ky → List PyData
  | [] => []
  | k :: ks => Ky.toD k :: Ky.toDs ks
end
mutual
def Ky.dep : Ky → Nat
  | .num _ => 0
  | .txt _ => 0
  | .tup ks => Ky.deps ks + 1
def Ky.deps : List Ky → Nat
  | [] => 0
  | k :: ks => max (Ky.dep k) (Ky.deps ks)
end
mutual
theorem Ky.eqv : ∀ x y : Ky, PyData.eqv x.toD y.toD = Ky.beq x y
  | .num i, .num j => by
    simp only [Ky.toD, PyData.eqv, Ky.beq]
    exact Bool.beq_eq_decide_eq i j
  | .txt x, .txt y => by
    simp only [Ky.toD, PyData.eqv, Ky.beq]
    exact Bool.beq_eq_decide_eq x y
  | .tup xs, .tup ys => by
    simp only [Ky.toD, PyData.eqv, Ky.beq]
    exact Ky.eqvs xs ys
  | .num _, .txt _ => by simp [Ky.toD, PyData.eqv, Ky.beq]
  | .num _, .tup _ => by simp [Ky.toD, PyData.eqv, Ky.beq]
  | .txt _, .num _ => by simp [Ky.toD, PyData.eqv, Ky.beq]
  | .txt _, .tup _ => by simp [Ky.toD, PyData.eqv, Ky.beq]
  | .tup _, .num _ => by simp [Ky.toD, PyData.eqv, Ky.beq]
  | .tup _, .txt _ => by simp [Ky.toD, PyData.eqv, Ky.beq]
theorem Ky.eqvs : ∀ xs ys : List Ky, PyData.eqvAll (Ky.toDs xs) (Ky.toDs ys) = Ky.beqs xs ys
  | [], [] => by simp [Ky.toDs, PyData.eqvAll, Ky.beqs]
  | x :: xs, y :: ys => by
    simp only [Ky.toDs, PyData.eqvAll, Ky.beqs]
    rw [Ky.eqv x y, Ky.eqvs xs ys]
  | [], _ :: _ => by simp [Ky.toDs, PyData.eqvAll, Ky.beqs]
  | _ :: _, [] => by simp [Ky.toDs, PyData.eqvAll, Ky.beqs]
end
mutual
def Ky.good : Ky → Bool
  | .num _ => true
  | .txt x => PyData.strOk x
  | .tup ks => Ky.goods ks
def Ky.goods : List Ky → Bool
  | [] => true
  | k :: ks => Ky.good k && Ky.goods ks
end
mutual
theorem Ky.canLay : ∀ k : Ky, k.good = true → k.toD.canLay0 = true
  | .num _, _ => by simp [Ky.toD, PyData.canLay0]
  | .txt x, h => by
    have h' : PyData.strOk x = true := by simpa [Ky.good] using h
    simpa [Ky.toD, PyData.canLay0] using h'
  | .tup ks, h => by
    simp only [Ky.toD, PyData.canLay0]
    exact Ky.canLays ks (by simpa [Ky.good] using h)
theorem Ky.canLays : ∀ ks : List Ky, Ky.goods ks = true → PyData.canLayAll0 (Ky.toDs ks) = true
  | [], _ => by simp [Ky.toDs, PyData.canLayAll0]
  | k :: ks, h => by
    have h' : k.good = true ∧ Ky.goods ks = true := by simpa [Ky.goods] using h
    simp only [Ky.toDs, PyData.canLayAll0, Ky.canLay k h'.1, Ky.canLays ks h'.2, Bool.and_self]
end
mutual
theorem Ky.depth_toD : ∀ k : Ky, k.toD.depth = k.dep
  | .num _ => by simp [Ky.toD, PyData.depth, Ky.dep]
  | .txt _ => by simp [Ky.toD, PyData.depth, Ky.dep]
  | .tup ks => by
    simp only [Ky.toD, PyData.depth, Ky.dep]
    rw [Ky.depths_toD ks]
theorem Ky.depths_toD : ∀ ks : List Ky, PyData.depthAll (Ky.toDs ks) = Ky.deps ks
  | [] => by simp [Ky.toDs, PyData.depthAll, Ky.deps]
  | k :: ks => by
    simp only [Ky.toDs, PyData.depthAll, Ky.deps]
    rw [Ky.depth_toD k, Ky.depths_toD ks]
end
theorem Ky.shaped {k : Ky} (h : k.good = true) (d : k.dep ≤ 64) : SeqAt.shaped k.toD = true := by
  unfold SeqAt.shaped
  rw [Ky.canLay k h, Ky.depth_toD, decide_eq_true d]
  rfl
mutual
inductive KyAt (H : Hp) : V → Ky → Prop
  | num (i : Int) : KyAt H (.int i) (.num i)
  | txt (x : Str) : KyAt H (.str x) (.txt x)
  | tup {a : Addr} {xs : List V} {ks : List Ky} (h : H a = some (.tup xs)) (p : KysAt H xs ks) : KyAt H (.ref a) (.tup ks)
inductive KysAt (H : Hp) : List V → List Ky → Prop
  | nil : KysAt H [] []
  | cons {v : V} {vs : List V} {k : Ky} {ks : List Ky} (h : KyAt H v k) (t : KysAt H vs ks) : KysAt H (v :: vs) (k :: ks)
end
section
variable {H H' : Hp} {K : PySem.W.Frag}
mutual
theorem KyAt.same (s : Same H H') : ∀ (k : Ky) (v : V), KyAt H v k → KyAt H' v k
  | .num i, _, h => by cases h; exact .num i
  | .txt x, _, h => by cases h; exact .txt x
  | .tup ks, _, h => by
    cases h with
    | tup h p => exact .tup (s _ _ h) (KysAt.same s ks _ p)
theorem KysAt.same (s : Same H H') : ∀ (ks : List Ky) (vs : List V), KysAt H vs ks → KysAt H' vs ks
  | [], _, h => by cases h; exact .nil
  | k :: ks, _, h => by
    cases h with
    | cons h t => exact .cons (KyAt.same s k _ h) (KysAt.same s ks _ t)
end
mutual
theorem KyAt.dp : ∀ (k : Ky) (v : V), KyAt H v k → Dp K H v k.toD
  | .num i, _, h => by cases h; rw [Ky.toD]; exact .int i
  | .txt x, _, h => by cases h; rw [Ky.toD]; exact .str x
  | .tup ks, _, h => by
    cases h with
    | tup h p => rw [Ky.toD]; exact .tup (SqT.of h) (KysAt.dp ks _ p)
theorem KysAt.dp : ∀ (ks : List Ky) (vs : List V), KysAt H vs ks → DpAll K H vs (Ky.toDs ks)
  | [], _, h => by cases h; rw [Ky.toDs]; exact .nil
  | k :: ks, _, h => by
    cases h with
    | cons h t => rw [Ky.toDs]; exact .cons (KyAt.dp k _ h) (KysAt.dp ks _ t)
end
theorem KysAt.len : ∀ {ks : List Ky} {vs : List V}, KysAt H vs ks → vs.length = ks.length
  | [], _, h => by cases h; rfl
  | k :: ks, _, h => by
    cases h with
    | cons h t => simp [KysAt.len t]
theorem KysAt.get : ∀ {ks : List Ky} {vs : List V} {i : Nat} {v : V}, KysAt H vs ks → vs[i]? = some v → ∃ k, ks[i]? = some k ∧ KyAt H v k
  | [], _, _, _, h, e => by cases h; simp at e
  | k :: ks, _, 0, v, h, e => by
    cases h with
    | cons h t =>
      simp at e
      subst e
      exact ⟨k, rfl, h⟩
  | k :: ks, _, i + 1, v, h, e => by
    cases h with
    | cons h t =>
      obtain ⟨k', e', h'⟩ := KysAt.get (i := i) t (by simpa using e)
      exact ⟨k', by simpa using e', h'⟩
theorem KysAt.append : ∀ {ks ls : List Ky} {vs ws : List V}, KysAt H vs ks → KysAt H ws ls → KysAt H (vs ++ ws) (ks ++ ls)
  | [], _, _, _, h, q => by cases h; exact q
  | k :: ks, _, _, _, h, q => by
    cases h with
    | cons h t => exact .cons h (KysAt.append t q)
/-- two keys compared -/
theorem eq_keys {v w : V} {k l : Ky} {Q : VK} (hv : KyAt H v k) (hw : KyAt H w l) (gk : k.good = true) (gl : l.good = true) (dk : k.dep ≤ 64) (dl : l.dep ≤ 64) (q : Q (.bl (decide (k = l))) H) : rEqD K v w H Q := by
  refine ⟨k.toD, l.toD, KyAt.dp k v hv, KyAt.dp l w hw, Ky.shaped gk dk, Ky.shaped gl dl, ?_⟩
  rw [Ky.eqv]
  have e : Ky.beq k l = decide (k = l) := by
    cases h : Ky.beq k l with
    | true => exact (decide_eq_true ((Ky.beq_iff k l).mp h)).symm
    | false => exact (decide_eq_false fun c => by rw [(Ky.beq_iff k l).mpr c] at h; cases h).symm
  rw [e]
  exact q
end
/-! the stamp -/
abbrev TURN : Int := 2147483647
def stampT (l : List Nat) : Int := l.foldl (fun (h : Int) (c : Nat) => (31 * h + c) % 2147483647) 7
mutual
def Ky.stamp : Ky → Int
  | .num i => i % 2147483647
  | .txt x => stampT x.cps.toList
  | .tup ks => Ky.stamps 11 ks
def Ky.stamps : Int → List Ky → Int
  | h, [] => h
  | h, k :: ks => Ky.stamps (Builtin.bitXor (1000003 * h) (Ky.stamp k) % 2147483647) ks
end
theorem stampT_range (l : List Nat) : 0 ≤ stampT l ∧ stampT l < 2147483647 := by
  have h : ∀ (l : List Nat) (a : Int), 0 ≤ a → a < 2147483647 → 0 ≤ l.foldl (fun (h : Int) (c : Nat) => (31 * h + c) % 2147483647) a ∧ l.foldl (fun (h : Int) (c : Nat) => (31 * h + c) % 2147483647) a < 2147483647 := by
    intro l
    induction l with
    | nil => intro a h0 h1; exact ⟨h0, h1⟩
    | cons c l ih => intro a h0 h1; exact ih _ (Int.emod_nonneg _ (by decide)) (Int.emod_lt_of_pos _ (by decide))
  exact h l 7 (by decide) (by decide)
theorem stamps_range : ∀ (ks : List Ky) (a : Int), 0 ≤ a → a < 2147483647 → 0 ≤ Ky.stamps a ks ∧ Ky.stamps a ks < 2147483647
  | [], a, h0, h1 => by rw [Ky.stamps]; exact ⟨h0, h1⟩
  | k :: ks, a, h0, h1 => by rw [Ky.stamps]; exact stamps_range ks _ (by omega) (by omega)
theorem stamp_range : ∀ k : Ky, 0 ≤ k.stamp ∧ k.stamp < 2147483647
  | .num i => by rw [Ky.stamp]; omega
  | .txt x => by rw [Ky.stamp]; exact stampT_range _
  | .tup ks => by rw [Ky.stamp]; exact stamps_range ks 11 (by decide) (by decide)
theorem stampT_step {l : List Nat} {i c : Nat} (h : l[i]? = some c) : stampT (l.take (i + 1)) = (31 * stampT (l.take i) + c) % 2147483647 := by
  obtain ⟨hi, e⟩ := List.getElem?_eq_some_iff.mp h
  unfold stampT
  rw [List.take_succ_eq_append_getElem hi, List.foldl_append, e]
  rfl
theorem stamps_append : ∀ (a : Int) (xs ys : List Ky), Ky.stamps a (xs ++ ys) = Ky.stamps (Ky.stamps a xs) ys
  | a, [], ys => by simp [Ky.stamps]
  | a, x :: xs, ys => by
    rw [List.cons_append, Ky.stamps, Ky.stamps]
    exact stamps_append _ xs ys
theorem stamps_step {ks : List Ky} {i : Nat} {k : Ky} (a : Int) (h : ks[i]? = some k) : Ky.stamps a (ks.take (i + 1)) = Builtin.bitXor (1000003 * Ky.stamps a (ks.take i)) k.stamp % 2147483647 := by
  obtain ⟨hi, e⟩ := List.getElem?_eq_some_iff.mp h
  rw [List.take_succ_eq_append_getElem hi, stamps_append, e, Ky.stamps, Ky.stamps]
theorem dep_of_mem : ∀ {ks : List Ky} {i : Nat} {k : Ky}, ks[i]? = some k → k.dep ≤ Ky.deps ks
  | [], i, k, h => by simp at h
  | x :: xs, 0, k, h => by
    simp at h
    subst h
    rw [Ky.deps]
    omega
  | x :: xs, i + 1, k, h => by
    have := dep_of_mem (ks := xs) (i := i) (k := k) (by simpa using h)
    rw [Ky.deps]
    omega
/-- stamp of a key so deep -/
def spStamp (n : Nat) : Sp := fun vs H Q _ => ∃ v k, vs = [v] ∧ KyAt H v k ∧ k.dep ≤ n ∧ Q (.int k.stamp) H
theorem rd_spStamp {n : Nat} {v : V} {H : Hp} {Q : VK} {E : XK} : spStamp n [v] H Q E = ∃ k, KyAt H v k ∧ k.dep ≤ n ∧ Q (.int k.stamp) H := by
  unfold spStamp
  apply propext
  constructor
  · rintro ⟨v', k, e, q⟩; cases e; exact ⟨k, q⟩
  · rintro ⟨k, q⟩; exact ⟨v, k, rfl, q⟩
theorem len_stamp {n : Nat} {vs H Q E} (h : spStamp n vs H Q E) : vs.length = 1 := by obtain ⟨_, _, rfl, _⟩ := h; rfl
def rOrd : List V → Hp → VK → Prop := fun xs H Q => ∃ x : Str, xs = [.str x] ∧ x.length = 1 ∧ Q (.int (x.cps.getD 0 0 : Nat)) H
theorem call_ordq {X : Cx} : CallR X (.builtin "ord") rOrd := call_ord
theorem rd_ord {c : Nat} {H : Hp} {Q : VK} : rOrd [.str ⟨#[c]⟩] H Q = Q (.int c) H := by
  unfold rOrd
  apply propext
  constructor
  · rintro ⟨x, e, _, q⟩; cases e; exact q
  · intro q; exact ⟨_, rfl, rfl, q⟩
end My
namespace My
open PySem PySem.Spec PyProof.Rows L2
/-- the count of a slot -/
def spWhen : Sp := fun vs H Q _ => ∃ (m : Int) (j : Nat) (s : Int), vs = [.int m, .int (2 ^ j), .int s] ∧ (3 ≤ j ∧ j ≤ 12) ∧ (0 ≤ m ∧ m < 2147483647) ∧ (0 ≤ s ∧ s < 2 ^ j) ∧
  ∀ f : Int, 0 ≤ f → f < 2 ^ j → (m + f * strideF m - s) % 2 ^ j = 0 → Q (.int f) H
theorem len_when {vs H Q E} (h : spWhen vs H Q E) : vs.length = 3 := by obtain ⟨_, _, _, rfl, _⟩ := h; rfl
/-- 2^r divides 1 - s * b -/
def Inv2 (s b : Int) (r : Nat) : Prop := ∃ t, 1 - s * b = 2 ^ r * t
theorem inv2_mono {s b : Int} {r q : Nat} (h : Inv2 s b r) (l : q ≤ r) : Inv2 s b q := by
  obtain ⟨t, e⟩ := h
  obtain ⟨d, rfl⟩ : ∃ d, r = q + d := ⟨r - q, by omega⟩
  exact ⟨2 ^ d * t, by rw [e, Int.pow_add, Int.mul_assoc]⟩
theorem inv2_mod {s b : Int} {r j : Nat} (h : Inv2 s b r) (l : r ≤ j) : Inv2 s (b % 2 ^ j) r := by
  obtain ⟨t, e⟩ := h
  obtain ⟨d, rfl⟩ : ∃ d, j = r + d := ⟨j - r, by omega⟩
  refine ⟨t + s * (2 ^ d * (b / 2 ^ (r + d))), ?_⟩
  have e2 : b % 2 ^ (r + d) = b - 2 ^ (r + d) * (b / 2 ^ (r + d)) := Int.emod_def _ _
  have e3 : (2 : Int) ^ (r + d) * (b / 2 ^ (r + d)) = 2 ^ r * (2 ^ d * (b / 2 ^ (r + d))) := by
    rw [← Int.mul_assoc, ← Int.pow_add]
  rw [e2, e3, Int.mul_sub, Int.mul_add, Int.mul_left_comm s]
  omega
theorem inv2_start {s : Int} (h : s % 2 = 1) : Inv2 s s 3 := by
  have h4 : s % 8 = 1 ∨ s % 8 = 3 ∨ s % 8 = 5 ∨ s % 8 = 7 := by omega
  have e := Int.emod_def s 8
  have hs : s = 8 * (s / 8) + s % 8 := by omega
  generalize s / 8 = q at hs
  generalize s % 8 = r at hs h4
  refine ⟨-(8 * (q * q) + 2 * (q * r)) + (1 - r * r) / 8, ?_⟩
  subst hs
  have x : (8 * q + r) * (8 * q + r) = 64 * (q * q) + 16 * (q * r) + r * r := by
    grind
  rw [x]
  rcases h4 with rfl | rfl | rfl | rfl <;> simp <;> omega
theorem inv2_step {s b : Int} {r : Nat} (h : Inv2 s b r) : Inv2 s (b * (2 - s * b)) (2 * r) := by
  obtain ⟨t, e⟩ := h
  refine ⟨t * t, ?_⟩
  have e2 : s * b = 1 - 2 ^ r * t := by omega
  have e3 : s * (b * (2 - s * b)) = (1 - 2 ^ r * t) * (1 + 2 ^ r * t) := by
    rw [← Int.mul_assoc, e2]
    congr 1
    omega
  rw [e3]
  have e4 : (2 : Int) ^ (2 * r) = 2 ^ r * 2 ^ r := by rw [Nat.two_mul, Int.pow_add]
  rw [e4]
  generalize (2 : Int) ^ r = x
  grind
/-- the end -/
theorem inv2_end {m s b d : Int} {j : Nat} (h : Inv2 s b j) (z : (0 : Int) < 2 ^ j) : (m + (d - m) * b % 2 ^ j * s - d) % 2 ^ j = 0 := by
  obtain ⟨t, e⟩ := h
  have e2 : (d - m) * b % 2 ^ j = (d - m) * b - 2 ^ j * ((d - m) * b / 2 ^ j) := Int.emod_def _ _
  rw [e2]
  generalize (d - m) * b / 2 ^ j = q
  generalize (2 : Int) ^ j = x at e
  have e3 : m + ((d - m) * b - x * q) * s - d = x * ((m - d) * t - q * s) := by grind
  rw [e3, Int.mul_emod_right]
end My
local macro_rules | `(tactic| walk_at "rd") => `(tactic| try simp only [↓My.rd_var, ↓My.rd_c, ↓My.rd_op, ↓My.rd_un, ↓My.rd_test, ↓My.rd_B, ↓My.rd_and, ↓My.rd_or, ↓My.rd_not, ↓My.rd_andV, ↓My.rd_orV, ↓My.rd_notV, ↓My.rd_ifE, ↓My.rd_chain, ↓My.rd_ifS, ↓My.rd_ret, ↓My.rd_retN, ↓My.rd_seq, ↓My.rd_dnewK, ↓My.rd_dsetd, ↓My.rd_BM, ↓My.rd_BM0, ↓My.rd_gSub, ↓My.rd_next, ↓My.rd_break, ↓My.rd_cont, ↓My.rd_drop, ↓My.rd_asg, ↓My.rd_gName, ↓My.rd_nil, ↓My.rd_cons, ↓My.rd_call, ↓My.rd_CB, ↓My.rd_for, ↓My.rd_rng1, ↓My.rd_rng2, ↓My.rd_iList, ↓My.rd_iTup, ↓My.rd_iStr, ↓My.rd_lst, ↓My.rd_tup, ↓My.rd_sl, ↓My.rd_noPart, ↓My.rd_part,
  My.rd_rI, My.rd_rI0, My.rd_rU, My.rd_eq, My.rd_ne, My.rd_isBl, My.rd_isR1, My.rd_isR2, My.rd_isRef, My.rd_isStr, My.rd_isInt, My.rd_isiF, My.rd_cat, My.rd_append, My.rd_rep, My.rd_setL, My.rd_ixL, My.rd_slL, My.rd_len, My.rd_spI1, My.rd_spI2, My.rd_spI3, My.rd_spI4, My.rd_whole, My.rd_spCell, My.rd_max2, My.rd_min2, My.rd_spAny1, My.rd_spStamp, My.rd_ord, My.rd_spNew2,
  My.V_int_inj, My.V_bl_inj, My.V_str_inj, My.scal_ii, My.scal_bb, My.scal_ss, My.isi_non_int, My.isi_non_bool, My.isi_non_str, My.isi_non_tuple, My.isi_non_list, My.isi_bl_int, My.isi_bl_bool, My.isi_bl_str, My.isi_bl_tuple, My.isi_bl_list, My.isi_int_int, My.isi_int_bool, My.isi_int_str, My.isi_int_tuple, My.isi_int_list, My.isi_str_int, My.isi_str_bool, My.isi_str_str, My.isi_str_tuple, My.isi_str_list,
  My.st_nil, My.st_arg, My.st_none, My.cxK, Int.zero_add, Int.reduceToNat, Int.reducePow, Int.reduceMul, Int.reduceSub, Int.reduceAdd, Int.reduceNeg, Int.reduceLE, Int.reduceLT, List.getElem?_cons_zero, List.getElem?_cons_succ, List.set_cons_zero, List.set_cons_succ, List.append_nil, List.cons_append, List.nil_append, decide_eq_true_eq, Bool.not_eq_true', decide_eq_false_iff_not, Bool.not_true, Bool.not_false, Bool.false_eq_true, Bool.true_eq_false, if_true, if_false, true_and, and_true, ite_true, ite_false, if_pos, if_neg, ne_eq, not_true_eq_false, not_false_eq_true, reduceIte, Bool.not_not])
local macro_rules | `(tactic| walk_at "spl") => `(tactic| first | exact My.len_spI1 (by assumption) | exact My.len_spI2 (by assumption) | exact My.len_spI3 (by assumption) | exact My.len_spI4 (by assumption) | exact My.len_whole (by assumption) | exact My.len_law (by assumption) | exact My.len_cell (by assumption) | exact My.len_new2 (by assumption) | exact My.len_when (by assumption) | exact My.len_any1 (by assumption) | exact My.len_stamp (by assumption))
local macro_rules | `(tactic| walk_at "ne") => `(tactic| first | assumption | exact Ne.symm (by assumption) | exact My.Fresh.ne (by assumption) (by walk_at "hp") | exact Ne.symm (My.Fresh.ne (by assumption) (by walk_at "hp")))
local macro_rules | `(tactic| walk_at "hp") => `(tactic| first | assumption | exact L2.upd_same | exact (by assumption : L2.Same _ _) _ _ (by walk_at "hp") | (refine Eq.trans (L2.upd_ne ?_) ?_; (walk_at "ne"); (walk_at "hp")))
local macro_rules | `(tactic| walk_at "sq") => `(tactic| first | assumption | exact L2.SqL.of (by walk_at "hp") | exact L2.SqT.of (by walk_at "hp") | (refine L2.Same.seq ?_ (by assumption); walk_at "same"))
local macro_rules | `(tactic| walk_at "same") => `(tactic| first | assumption | exact L2.Same.refl _ | exact My.Same_upd (by walk_at "same") (by assumption) | exact L2.Same.trans (by walk_at "same") (by assumption))
local macro_rules | `(tactic| walk_at "sz") => `(tactic| first | assumption | (with_unfolding_all decide) | (rw [PySem.sizeLine_eq]; simp only [List.length_append, List.length_cons, List.length_nil, List.length_map, List.length_replicate, List.length_take, List.length_drop]; omega))
local macro_rules | `(tactic| walk_at "side") => `(tactic| first | assumption | exact trivial | decide +kernel | omega | exact ⟨by decide +kernel, by decide +kernel⟩ | exact ⟨by decide +kernel, by decide +kernel, by decide +kernel⟩ | exact ⟨by omega, by omega⟩ | exact My.mulL (by omega) (by omega) | exact My.mulR (by omega) (by omega) | exact PySem.IntMulOk.of_bits (by omega) (by omega) | exact My.divB (by omega) (by omega))
local macro_rules | `(tactic| walk_at "dt") => `(tactic| repeat' first | (refine My.both ?_ ?_; (walk_at "side")) | (refine My.iteB (fun _ => ?_) (fun _ => ?_)))
local macro_rules | `(tactic| walk_at "go") => `(tactic| repeat' first | (refine My.exSq (by walk_at "sq") ?_) | (refine My.exSqV (by walk_at "sq") ?_) | (refine My.both ?_ ?_; (walk_at "side")))
namespace Law
open PySem PySem.Spec PyProof.Rows L2 My
def top (i : Nat) : Stmt := PySem.Challenge.pw_slotbook_k23_whole_each_slot_once.main.body.getD i (.Pass ⟨0, 0, 0, 0⟩)
abbrev s_stride : Stmt := top 1
abbrev s_probe : Stmt := top 2
abbrev s_probes : Stmt := top 3
abbrev s_when : Stmt := top 4
abbrev s_law_cell_at : Stmt := top 6
abbrev s_law_whole : Stmt := top 7
abbrev s_law_fold : Stmt := top 8
abbrev s_law_stamp : Stmt := top 9
abbrev s_law_size : Stmt := top 10
abbrev s_law_stands : Stmt := top 11
abbrev s_law_ways : Stmt := top 12
abbrev s_law : Stmt := top 13
structure Ad where
  a_stride : Addr
  d_stride : FuncData
  a_probe : Addr
  d_probe : FuncData
  a_probes : Addr
  d_probes : FuncData
  a_when : Addr
  d_when : FuncData
  a_law_cell_at : Addr
  d_law_cell_at : FuncData
  a_law_whole : Addr
  d_law_whole : FuncData
  a_law_fold : Addr
  d_law_fold : FuncData
  a_law_stamp : Addr
  d_law_stamp : FuncData
  a_law_size : Addr
  d_law_size : FuncData
  a_law_stands : Addr
  d_law_stands : FuncData
  a_law_ways : Addr
  d_law_ways : FuncData
  a_law : Addr
  d_law : FuncData
structure Txt (K : PySem.W.Frag) (mg : Str → Option Value) (A : Ad) : Prop where
  F_stride : Fun K "stride" "stride" s_stride A.a_stride A.d_stride
  b_stride : Binds K A.d_stride ["stamp"] []
  m_stride : mg "stride" = some (.ref A.a_stride)
  F_probe : Fun K "probe" "probe" s_probe A.a_probe A.d_probe
  b_probe : Binds K A.d_probe ["stamp", "size", "count"] []
  m_probe : mg "probe" = some (.ref A.a_probe)
  F_probes : Fun K "probes" "probes" s_probes A.a_probes A.d_probes
  b_probes : Binds K A.d_probes ["stamp", "size"] []
  m_probes : mg "probes" = some (.ref A.a_probes)
  F_when : Fun K "when" "when" s_when A.a_when A.d_when
  b_when : Binds K A.d_when ["stamp", "size", "slot"] []
  m_when : mg "when" = some (.ref A.a_when)
  F_law_cell_at : Fun K "_law_cell_at" "_law_cell_at" s_law_cell_at A.a_law_cell_at A.d_law_cell_at
  b_law_cell_at : Binds K A.d_law_cell_at ["_law_script", "_law_k"] []
  m_law_cell_at : mg "_law_cell_at" = some (.ref A.a_law_cell_at)
  F_law_whole : Fun K "_law_whole" "_law_whole" s_law_whole A.a_law_whole A.d_law_whole
  b_law_whole : Binds K A.d_law_whole ["_law_found"] []
  m_law_whole : mg "_law_whole" = some (.ref A.a_law_whole)
  F_law_fold : Fun K "_law_fold" "_law_fold" s_law_fold A.a_law_fold A.d_law_fold
  b_law_fold : Binds K A.d_law_fold ["_law_script"] []
  m_law_fold : mg "_law_fold" = some (.ref A.a_law_fold)
  F_law_stamp : Fun K "_law_stamp" "_law_stamp" s_law_stamp A.a_law_stamp A.d_law_stamp
  b_law_stamp : Binds K A.d_law_stamp ["_law_script"] []
  m_law_stamp : mg "_law_stamp" = some (.ref A.a_law_stamp)
  F_law_size : Fun K "_law_size" "_law_size" s_law_size A.a_law_size A.d_law_size
  b_law_size : Binds K A.d_law_size ["_law_cell"] []
  m_law_size : mg "_law_size" = some (.ref A.a_law_size)
  F_law_stands : Fun K "_law_stands" "_law_stands" s_law_stands A.a_law_stands A.d_law_stands
  b_law_stands : Binds K A.d_law_stands ["_law_found", "_law_mark", "_law_size_here"] []
  m_law_stands : mg "_law_stands" = some (.ref A.a_law_stands)
  F_law_ways : Fun K "_law_ways" "_law_ways" s_law_ways A.a_law_ways A.d_law_ways
  b_law_ways : Binds K A.d_law_ways ["_law_found", "_law_mark", "_law_size_here"] []
  m_law_ways : mg "_law_ways" = some (.ref A.a_law_ways)
  F_law : Fun K "law" "law" s_law A.a_law A.d_law
  b_law : Binds K A.d_law ["_law_script"] []
  m_law : mg "law" = some (.ref A.a_law)
  n_bool : mg "bool" = none
  n_int : mg "int" = none
  n_isinstance : mg "isinstance" = none
  n_len : mg "len" = none
  n_list : mg "list" = none
  n_range : mg "range" = none
theorem sc_stride : FnScope ["stamp"] ["stamp"] (defScope s_stride) := ⟨rfl, rfl, rfl, by decide +kernel, rfl, by decide +kernel, by decide +kernel⟩
theorem ok_stride {P : Program} {w : World} {K : PySem.W.Frag} {mg : Str → Option Value} {base : Heap} {A : Ad} (T : Txt K mg A) : FnOk P w K mg base CX0 1 A.a_stride A.d_stride ["stamp"] (spI1 (fun _ => True) fun n => .int (strideF n)) := by
  refine T.F_stride.ok sc_stride (fun vs H Q E h => ?_) (fun cdv A' outer s H vs Q E hr h => ?_)
  · walk_at "spl"
  · have nd := sc_stride.nd
    have hu := hu_of hr
    refine ⟨_, (pss_one (ps_ret (pe_op op_or (pe_op op_shr (pv 0) pe_int) pe_int))), ?_⟩
    clear nd
    obtain ⟨n, rfl, -, k⟩ := h
    walk_at "rd"
    exact k
theorem sc_probe : FnScope ["stamp", "size", "count"] ["stamp", "size", "count"] (defScope s_probe) := ⟨rfl, rfl, rfl, by decide +kernel, rfl, by decide +kernel, by decide +kernel⟩
theorem ok_probe {P : Program} {w : World} {K : PySem.W.Frag} {mg : Str → Option Value} {base : Heap} {A : Ad} (T : Txt K mg A) : FnOk P w K mg base CX0 2 A.a_probe A.d_probe ["stamp", "size", "count"] (spI3 (fun _ _ c => -(2 ^ 64) < c ∧ c < 2 ^ 64) fun m s c => .int (probeF m s c)) := by
  refine T.F_probe.ok sc_probe (fun vs H Q E h => ?_) (fun cdv A' outer s H vs Q E hr h => ?_)
  · walk_at "spl"
  · have nd := sc_probe.nd
    have hu := hu_of hr
    refine ⟨_, (pss_one (ps_ret (pe_op op_and (pe_op op_add (pv 0) (pe_op op_mulX (pv 2) (pe_call (ok_stride T) (hr.mono (by decide)) rfl T.m_stride T.F_stride.kp T.b_stride .nil pass0 (pa_cons (pv 0) pa_nil)))) (pe_op op_sub (pv 1) pe_int)))), ?_⟩
    clear nd
    obtain ⟨m, z, c, rfl, hc, k⟩ := h
    walk_at "rd"
    exact ⟨mulL hc.1 hc.2, k⟩
theorem sc_probes : FnScope ["stamp", "size", "step", "slot", "found", "count"] ["stamp", "size"] (defScope s_probes) := ⟨rfl, rfl, rfl, by decide +kernel, rfl, by decide +kernel, by decide +kernel⟩
theorem ok_probes {P : Program} {w : World} {K : PySem.W.Frag} {mg : Str → Option Value} {base : Heap} {A : Ad} (T : Txt K mg A) : FnOk P w K mg base CX0 2 A.a_probes A.d_probes ["stamp", "size"] (spNew2 (fun m s => 0 ≤ s ∧ s ≤ 4096) probesF) := by
  refine T.F_probes.ok sc_probes (fun vs H Q E h => ?_) (fun cdv A' outer s H vs Q E hr h => ?_)
  · walk_at "spl"
  · have nd := sc_probes.nd
    have hu := hu_of hr
    refine ⟨_, (pss_cons (ps_set (i := 2) nd rfl (Or.inl rfl) (pe_call (ok_stride T) (hr.mono (by decide)) rfl T.m_stride T.F_stride.kp T.b_stride .nil pass0 (pa_cons (pv 0) pa_nil))) (pss_cons (ps_set (i := 3) nd rfl (Or.inl rfl) (pe_op op_and (pv 0) (pe_op op_sub (pv 1) pe_int))) (pss_cons (ps_set (i := 4) nd rfl (Or.inl rfl) (pe_lst pa_nil)) (pss_cons (ps_for PassesOwn.never rfl (pi_range1 rfl T.n_range (pa_cons (pv 1) pa_nil)) (pg_name (i := 5) nd rfl (Or.inl rfl)) (pss_cons (ps_expr (pe_bm PySem.F.plainAttrs_list PySem.F.slot_list_append PySem.F.type_list_append mt_append (pv 4) (pa_cons (pv 3) pa_nil))) (pss_one (ps_set (i := 3) nd rfl (Or.inl rfl) (pe_op op_and (pe_op op_add (pv 3) (pv 2)) (pe_op op_sub (pv 1) pe_int)))))) (pss_one (ps_ret (pv 4))))))), ?_⟩
    clear nd
    obtain ⟨m, s, rfl, ⟨h0, h1⟩, k⟩ := h
    walk_at "rd"
    refine ⟨by walk_at "sz", fun p hp => ⟨by omega, ?_⟩⟩
    refine go_range (fun i σ H' => ∃ v5, σ = [some (.int m), some (.int s), some (.int (strideF m)), some (.int (slotI m s i)), some (.ref p), v5] ∧ Same H H' ∧ H' p = some (.lst (((List.range i).map (slotI m s)).map V.int)) ∧ i ≤ s.toNat) ⟨_, rfl, by walk_at "same", upd_same, Nat.zero_le _⟩ ?_ ?_
    · rintro N i σ H' hi ⟨v5, rfl, sm, hL, hz⟩ hN
      walk_at "rd"
      refine ⟨tyL hL, _, hL, ?_, ?_⟩
      · rw [sizeLine_eq]; simp only [List.length_map, List.length_range]; omega
      refine hN _ _ ⟨_, rfl, Same_upd0 sm hp, ?_, hi⟩
      rw [upd_same, List.range_succ, List.map_append, List.map_append]
      rfl
    · rintro σ H' ⟨v5, rfl, sm, hL, -⟩
      walk_at "rd"
      exact k p H' sm hp hL
theorem sc_law_cell_at : FnScope ["_law_script", "_law_k"] ["_law_script", "_law_k"] (defScope s_law_cell_at) := ⟨rfl, rfl, rfl, by decide +kernel, rfl, by decide +kernel, by decide +kernel⟩
theorem ok_law_cell_at {P : Program} {w : World} {K : PySem.W.Frag} {mg : Str → Option Value} {base : Heap} {A : Ad} (T : Txt K mg A) : FnOk P w K mg base CX0 1 A.a_law_cell_at A.d_law_cell_at ["_law_script", "_law_k"] (spCell K) := by
  refine T.F_law_cell_at.ok sc_law_cell_at (fun vs H Q E h => ?_) (fun cdv A' outer s H vs Q E hr h => ?_)
  · walk_at "spl"
  · have nd := sc_law_cell_at.nd
    have hu := hu_of hr
    refine ⟨_, (pss_cons (ps_if (pt_cmpR op_lt (pv 1) (pe_callB call_lenq rfl T.n_len PySem.boot_len (pa_cons (pv 0) pa_nil)) (nomark _)) (pss_one (ps_ret (pe_ix ix_list (pv 0) (pv 1) (fun _ _ => rfl)))) pss_nil) (pss_one (ps_ret pe_int))), ?_⟩
    clear nd
    obtain ⟨a, ns, i, rfl, hS, hi, k⟩ := h
    walk_at "rd"
    refine ⟨_, .inl hS, ?_⟩
    rw [List.length_map]
    split
    · rename_i c
      exact ⟨_, _, hS, at_int hi c, k⟩
    · rename_i c
      have e : getI ns i = 0 := by
        unfold getI
        rw [List.getD_eq_getElem?_getD, List.getElem?_eq_none_iff.mpr (by omega)]
        rfl
      rw [e] at k
      exact k
theorem sc_law_whole : FnScope ["_law_found"] ["_law_found"] (defScope s_law_whole) := ⟨rfl, rfl, rfl, by decide +kernel, rfl, by decide +kernel, by decide +kernel⟩
theorem ok_law_whole {P : Program} {w : World} {K : PySem.W.Frag} {mg : Str → Option Value} {base : Heap} {A : Ad} (T : Txt K mg A) : FnOk P w K mg base CX0 1 A.a_law_whole A.d_law_whole ["_law_found"] spWhole := by
  refine T.F_law_whole.ok sc_law_whole (fun vs H Q E h => ?_) (fun cdv A' outer s H vs Q E hr h => ?_)
  · walk_at "spl"
  · have nd := sc_law_whole.nd
    have hu := hu_of hr
    refine ⟨_, (pss_one (ps_ret (pe_and (pe_callB call_isiF rfl T.n_isinstance (by decide +kernel) (pa_cons (pv 0) (pa_cons (pe_bltn (v := .ty "int") rfl T.n_int (by decide +kernel) rfl) pa_nil))) (pe_one (pe_not (pe_callB call_isiF rfl T.n_isinstance (by decide +kernel) (pa_cons (pv 0) (pa_cons (pe_bltn (v := .ty "bool") rfl T.n_bool (by decide +kernel) rfl) pa_nil)))))))), ?_⟩
    clear nd
    obtain ⟨x, rfl, hx, k⟩ := h
    cases x with
    | ref a =>
      rcases hx with ⟨xs, e⟩ | ⟨xs, e⟩ | ⟨xs, e⟩
      · walk_at "rd"; simp only [isi_tup_int e]; walk_at "rd"; exact k
      · walk_at "rd"; simp only [isi_lst_int e]; walk_at "rd"; exact k
      · walk_at "rd"; simp only [isi_dK_int e]; walk_at "rd"; exact k
    | int n => walk_at "rd"; exact k
    | bl n => walk_at "rd"; exact k
    | non => walk_at "rd"; exact k
    | str n => walk_at "rd"; exact k
    | _ => exact hx.elim

end Law
namespace Law
open PySem PySem.Spec PyProof.Rows L2 My
theorem sc_when : FnScope ["stamp", "size", "slot", "step", "back", "right"] ["stamp", "size", "slot"] (defScope s_when) := ⟨rfl, rfl, rfl, by decide +kernel, rfl, by decide +kernel, by decide +kernel⟩
theorem ok_when {P : Program} {w : World} {K : PySem.W.Frag} {mg : Str → Option Value} {base : Heap} {A : Ad} (T : Txt K mg A) : FnOk P w K mg base CX0 2 A.a_when A.d_when ["stamp", "size", "slot"] spWhen := by
  refine T.F_when.ok sc_when (fun vs H Q E h => ?_) (fun cdv A' outer s H vs Q E hr h => ?_)
  · walk_at "spl"
  · have nd := sc_when.nd
    have hu := hu_of hr
    refine ⟨_, (pss_cons (ps_set (i := 3) nd rfl (Or.inl rfl) (pe_call (ok_stride T) (hr.mono (by decide)) rfl T.m_stride T.F_stride.kp T.b_stride .nil pass0 (pa_cons (pv 0) pa_nil))) (pss_cons (ps_set (i := 4) nd rfl (Or.inl rfl) (pv 3)) (pss_cons (ps_set (i := 5) nd rfl (Or.inl rfl) pe_int) (pss_cons (ps_while PassesOwn.never (pt_cmpR op_lt (pv 5) (pv 1) (nomark _)) (pss_cons (ps_set (i := 4) nd rfl (Or.inl rfl) (pe_op op_mod (pe_op op_mulX (pv 4) (pe_op op_sub pe_int (pe_op op_mulX (pv 3) (pv 4)))) (pv 1))) (pss_one (ps_set (i := 5) nd rfl (Or.inl rfl) (pe_op op_mulX (pv 5) (pv 5)))))) (pss_one (ps_ret (pe_op op_mod (pe_op op_mulX (pe_op op_sub (pv 2) (pv 0)) (pv 4)) (pv 1)))))))), ?_⟩
    clear nd
    obtain ⟨m, j, s, rfl, hj, hm, hs, k⟩ := h
    walk_at "rd"
    have hst := strideF_eq m
    have so : strideF m % 2 = 1 := by omega
    have sb : 0 ≤ strideF m ∧ strideF m < 2 ^ 27 := by omega
    generalize strideF m = st at so sb k ⊢
    obtain ⟨z1, z2⟩ := pow_le hj.2
    have z3 : (2 : Int) ^ 12 = 4096 := by decide
    refine go_while (fun σ H' => ∃ (b : Int) (r : Nat), σ = [some (.int m), some (.int (2 ^ j)), some (.int s), some (.int st), some (.int b), some (.int (2 ^ r))] ∧ H' = H ∧ 3 ≤ r ∧ Inv2 st b (min r j) ∧ 0 ≤ b ∧ b < 2 ^ 27)
      (fun σ _ => match σ with | [_, _, _, _, _, some (.int r)] => (8192 - r).toNat | _ => 0) ⟨st, 3, rfl, rfl, by decide, inv2_mono (inv2_start so) (by omega), sb.1, sb.2⟩ ?_
    rintro B σ H' ⟨b, r, rfl, rfl, hr3, hI, hb⟩ hB
    walk_at "rd"
    split
    · rename_i c
      have hrj : r < j := by
        apply Classical.byContradiction
        intro n
        have := (pow_le (show j ≤ r by omega)).2
        omega
      refine hB _ fun N hN => ?_
      walk_at "rd"
      have zr := (pow_le (show r ≤ 12 by omega)).2
      have zr0 := (pow_le (show r ≤ 12 by omega)).1
      refine ⟨mulL (by omega) (by omega), mulL (by omega) (by omega), z1, mulL (by omega) (by omega), hN _ _ ⟨_, 2 * r, by rw [Nat.two_mul, Int.pow_add], rfl, by omega, ?_, Int.emod_nonneg _ (by omega), ?_⟩ ?_⟩
      · rw [Nat.min_eq_left (by omega)] at hI
        have h2 := inv2_step hI
        by_cases c2 : 2 * r ≤ j
        · rw [Nat.min_eq_left c2]
          exact inv2_mod h2 c2
        · rw [Nat.min_eq_right (by omega)]
          exact inv2_mod (inv2_mono h2 (by omega)) (Nat.le_refl _)
      · have := Int.emod_lt_of_pos (b * (2 - st * b)) z1
        omega
      · show (8192 - (2 : Int) ^ r * 2 ^ r).toNat < (8192 - (2 : Int) ^ r).toNat
        have p8 : (2 : Int) ^ 3 ≤ 2 ^ r := (pow_le hr3).2
        have : (2 : Int) * 2 ^ r ≤ 2 ^ r * 2 ^ r := Int.mul_le_mul_of_nonneg_right (by omega) (by omega)
        omega
    · rename_i c
      have hrj : j ≤ r := by
        apply Classical.byContradiction
        intro n
        exact c (Int.pow_lt_pow_of_lt (by decide) (by omega))
      rw [Nat.min_eq_right hrj] at hI
      walk_at "rd"
      exact ⟨mulR (by omega) (by omega), z1, k _ (Int.emod_nonneg _ (by omega)) (Int.emod_lt_of_pos _ z1) (inv2_end hI z1)⟩

end Law
namespace Law
open PySem PySem.Spec PyProof.Rows L2 My

theorem inv_all {s : Int} (h : s % 2 = 1) : ∃ b, Inv2 s b 12 := by
  have h1 := inv2_step (inv2_start h)
  exact ⟨_, inv2_step h1⟩
/-- counts below the size with one slot are one -/
theorem count_one {m s f g : Int} {j : Nat} (hj : j ≤ 12) (hs : s % 2 = 1) (f0 : 0 ≤ f) (f1 : f < 2 ^ j) (g0 : 0 ≤ g) (g1 : g < 2 ^ j) (h : (m + f * s) % 2 ^ j = (m + g * s) % 2 ^ j) : f = g := by
  obtain ⟨b, hb⟩ := inv_all hs
  obtain ⟨t, e⟩ := inv2_mono hb hj
  have e1 : (2 : Int) ^ j ∣ (m + f * s) - (m + g * s) := Int.dvd_of_emod_eq_zero (Int.emod_eq_emod_iff_emod_sub_eq_zero.mp h)
  obtain ⟨q, e2⟩ := e1
  generalize (2 : Int) ^ j = x at *
  have e3 : f - g = x * (q * b + t * (f - g)) := by grind
  have e4 : (f - g) % x = 0 := by rw [e3, Int.mul_emod_right]
  have e5 : f % x = g % x := Int.emod_eq_emod_iff_emod_sub_eq_zero.mpr e4
  rw [Int.emod_eq_of_lt f0 f1, Int.emod_eq_of_lt g0 g1] at e5
  exact e5
theorem stride_odd (m : Int) : strideF m % 2 = 1 := by
  have := strideF_eq m
  omega
def spFold (K : PySem.W.Frag) : Sp := fun vs H Q _ => ∃ (a : Addr) (ns : List Int), vs = [.ref a] ∧ SqL K H a (ns.map V.int) ∧ ∀ m : Int, 0 ≤ m → m < 2147483647 → Q (.int m) H
theorem len_fold {K : PySem.W.Frag} {vs H Q E} (h : spFold K vs H Q E) : vs.length = 1 := by obtain ⟨_, _, rfl, _⟩ := h; rfl
def spStands : Sp := fun vs H Q _ => ∃ (p : Addr) (m : Int) (j : Nat), vs = [.ref p, .int m, .int (2 ^ j)] ∧ j ≤ 12 ∧ 0 ≤ m ∧ H p = some (.lst ((probesF m (2 ^ j)).map V.int)) ∧ ∀ H', Same H H' → Q (.bl true) H'
theorem len_stands {vs H Q E} (h : spStands vs H Q E) : vs.length = 3 := by obtain ⟨_, _, _, rfl, _⟩ := h; rfl
def spWays : Sp := fun vs H Q _ => ∃ (p : Addr) (m : Int) (j : Nat), vs = [.ref p, .int m, .int (2 ^ j)] ∧ (3 ≤ j ∧ j ≤ 12) ∧ (0 ≤ m ∧ m < 2147483647) ∧ H p = some (.lst ((probesF m (2 ^ j)).map V.int)) ∧ Q (.bl true) H
theorem len_ways {vs H Q E} (h : spWays vs H Q E) : vs.length = 3 := by obtain ⟨_, _, _, rfl, _⟩ := h; rfl
theorem probesF_at {m : Int} {j i : Nat} {n : Int} (h : (probesF m (2 ^ j))[i]? = some n) : (i : Int) < 2 ^ j ∧ n = (m + i * strideF m) % 2 ^ j := by
  unfold probesF at h
  rw [List.getElem?_map] at h
  cases e : (List.range ((2 : Int) ^ j).toNat)[i]? with
  | none => rw [e] at h; cases h
  | some k =>
    obtain ⟨h1, h2⟩ := List.getElem?_eq_some_iff.mp e
    rw [List.getElem_range] at h2
    subst h2
    rw [e] at h
    rw [List.length_range] at h1
    have h3 : slotI m (2 ^ j) i = n := Option.some.inj h
    rw [slotI_eq] at h3
    exact ⟨by omega, h3.symm⟩
theorem probesF_len (m : Int) (j : Nat) : ((probesF m (2 ^ j)).length : Int) = 2 ^ j := by
  unfold probesF
  rw [List.length_map, List.length_range]
  have := (pow_le (Nat.le_refl j)).1
  omega
theorem sc_law_fold : FnScope ["_law_script", "_law_number", "_law_cell"] ["_law_script"] (defScope s_law_fold) := ⟨rfl, rfl, rfl, by decide +kernel, rfl, by decide +kernel, by decide +kernel⟩
theorem ok_law_fold {P : Program} {w : World} {K : PySem.W.Frag} {mg : Str → Option Value} {base : Heap} {A : Ad} (T : Txt K mg A) : FnOk P w K mg base CX0 1 A.a_law_fold A.d_law_fold ["_law_script"] (spFold K) := by
  refine T.F_law_fold.ok sc_law_fold (fun vs H Q E h => ?_) (fun cdv A' outer s H vs Q E hr h => ?_)
  · exact len_fold h
  · have nd := sc_law_fold.nd
    have hu := hu_of hr
    refine ⟨_, (pss_cons (ps_set (i := 1) nd rfl (Or.inl rfl) pe_int) (pss_cons (ps_for PassesOwn.never rfl (pi_list (pv 0)) (pg_name (i := 2) nd rfl (Or.inl rfl)) (pss_one (ps_set (i := 1) nd rfl (Or.inl rfl) (pe_op op_mod (pe_op op_add (pe_op op_mulX (pv 1) pe_int) (pv 2)) pe_int)))) (pss_one (ps_ret (pv 1))))), ?_⟩
    clear nd
    obtain ⟨a, ns, rfl, hS, k⟩ := h
    walk_at "rd"
    refine ⟨⟨_, hS⟩, go_list (xs := ns.map V.int) (fun i σ H' => ∃ (m : Int) (v2 : Option V), σ = [some (.ref a), some (.int m), v2] ∧ H' = H ∧ 0 ≤ m ∧ m < 2147483647) ⟨0, _, rfl, rfl, by decide, by decide⟩ (fun i σ H' _ ⟨_, _, _, e, _⟩ => by rw [e]; exact hS) ?_ ?_⟩
    · rintro N i x σ H' hx ⟨m, v2, rfl, rfl, m0, m1⟩ hN
      obtain ⟨n, -, rfl⟩ := ints_at hx
      walk_at "rd"
      exact ⟨mulR (by decide) (by decide), hN _ _ ⟨_, _, rfl, rfl, by omega, by omega⟩⟩
    · rintro σ H' ⟨m, v2, rfl, rfl, m0, m1⟩
      walk_at "rd"
      exact k _ m0 m1
theorem sc_law_stamp : FnScope ["_law_script", "_law_number"] ["_law_script"] (defScope s_law_stamp) := ⟨rfl, rfl, rfl, by decide +kernel, rfl, by decide +kernel, by decide +kernel⟩
theorem ok_law_stamp {P : Program} {w : World} {K : PySem.W.Frag} {mg : Str → Option Value} {base : Heap} {A : Ad} (T : Txt K mg A) : FnOk P w K mg base CX0 2 A.a_law_stamp A.d_law_stamp ["_law_script"] (spFold K) := by
  refine T.F_law_stamp.ok sc_law_stamp (fun vs H Q E h => ?_) (fun cdv A' outer s H vs Q E hr h => ?_)
  · exact len_fold h
  · have nd := sc_law_stamp.nd
    have hu := hu_of hr
    refine ⟨_, (pss_cons (ps_set (i := 1) nd rfl (Or.inl rfl) (pe_call (ok_law_fold T) (hr.mono (by decide)) rfl T.m_law_fold T.F_law_fold.kp T.b_law_fold .nil pass0 (pa_cons (pv 0) pa_nil))) (pss_cons (ps_if (pt_cmpR op_eq (pe_op op_mod (pe_call (ok_law_cell_at T) (hr.mono (by decide)) rfl T.m_law_cell_at T.F_law_cell_at.kp T.b_law_cell_at .nil pass0 (pa_cons (pv 0) (pa_cons pe_int pa_nil))) pe_int) pe_int (nomark _)) (pss_one (ps_ret (pe_op op_mod (pv 1) pe_int))) pss_nil) (pss_cons (ps_if (pt_cmpR op_eq (pe_op op_mod (pe_call (ok_law_cell_at T) (hr.mono (by decide)) rfl T.m_law_cell_at T.F_law_cell_at.kp T.b_law_cell_at .nil pass0 (pa_cons (pv 0) (pa_cons pe_int pa_nil))) pe_int) pe_int (nomark _)) (pss_one (ps_ret (pe_op op_sub pe_int (pe_op op_mod (pv 1) pe_int)))) pss_nil) (pss_one (ps_ret (pv 1)))))), ?_⟩
    clear nd
    obtain ⟨a, ns, rfl, hS, k⟩ := h
    walk_at "rd"
    refine ⟨a, ns, rfl, hS, fun m m0 m1 => ?_⟩
    walk_at "rd"
    walk_at "go"
    refine iteB (fun _ => k _ (by omega) (by omega)) fun _ => ?_
    walk_at "go"
    exact iteB (fun _ => k _ (by omega) (by omega)) fun _ => k _ m0 m1
theorem sc_law_size : FnScope ["_law_cell", "_law_many", "_law_size_here", "_law_k"] ["_law_cell"] (defScope s_law_size) := ⟨rfl, rfl, rfl, by decide +kernel, rfl, by decide +kernel, by decide +kernel⟩
theorem ok_law_size {P : Program} {w : World} {K : PySem.W.Frag} {mg : Str → Option Value} {base : Heap} {A : Ad} (T : Txt K mg A) : FnOk P w K mg base CX0 1 A.a_law_size A.d_law_size ["_law_cell"] (spAny1 fun _ v => ∃ j : Nat, (3 ≤ j ∧ j ≤ 12) ∧ v = .int (2 ^ j)) := by
  refine T.F_law_size.ok sc_law_size (fun vs H Q E h => ?_) (fun cdv A' outer s H vs Q E hr h => ?_)
  · walk_at "spl"
  · have nd := sc_law_size.nd
    have hu := hu_of hr
    refine ⟨_, (pss_cons (ps_set (i := 1) nd rfl (Or.inl rfl) (pe_op op_mod (pe_op op_fdivW (pv 0) pe_int) pe_int)) (pss_cons (ps_if (pt_cmpR op_eq (pe_op op_mod (pv 0) pe_int) pe_int (nomark _)) (pss_one (ps_set (i := 1) nd rfl (Or.inl rfl) (pe_op op_mod (pe_op op_fdivW (pv 0) pe_int) pe_int))) pss_nil) (pss_cons (ps_if (pt_cmpR op_eq (pe_op op_mod (pv 0) pe_int) pe_int (nomark _)) (pss_one (ps_set (i := 1) nd rfl (Or.inl rfl) (pe_op op_add pe_int (pe_op op_mod (pe_op op_fdivW (pv 0) pe_int) pe_int)))) pss_nil) (pss_cons (ps_set (i := 2) nd rfl (Or.inl rfl) pe_int) (pss_cons (ps_for PassesOwn.never rfl (pi_range1 rfl T.n_range (pa_cons (pv 1) pa_nil)) (pg_name (i := 3) nd rfl (Or.inl rfl)) (pss_one (ps_set (i := 2) nd rfl (Or.inl rfl) (pe_op op_mulX (pv 2) pe_int)))) (pss_one (ps_ret (pv 2)))))))), ?_⟩
    clear nd
    obtain ⟨n, rfl, k⟩ := h
    walk_at "rd"
    have key : ∀ (q : Int) (σ : L2.St), 0 ≤ q → q ≤ 9 → σ = [some (.int n), some (.int q), some (.int 8), none] → forGo (Itr 0 q.toNat) (gName 3) (tAsg (tOp (rI IntMulOk fun i j => V.int (i * j)) (tVar 2) (tC (V.int 2))) (gName 2))
        { nx := tRet (tVar 2) { nx := fun x H' => Q V.non H', rt := Q }, rt := Q } σ H := by
      rintro q σ q0 q1 rfl
      refine go_range (fun i σ H' => ∃ v, σ = [some (.int n), some (.int q), some (.int (8 * 2 ^ i)), v] ∧ H' = H) ⟨_, rfl, rfl⟩ ?_ ?_
      · rintro N i σ H' hi ⟨v, rfl, rfl⟩ hN
        walk_at "rd"
        exact ⟨mulR (by decide) (by decide), hN _ _ ⟨_, by rw [Int.pow_succ, Int.mul_assoc], rfl⟩⟩
      · rintro σ H' ⟨v, rfl, rfl⟩
        walk_at "rd"
        exact k _ ⟨q.toNat + 3, by omega, by rw [pow8]⟩
    walk_at "dt"
    all_goals exact key _ _ (by omega) (by omega) rfl

end Law
namespace Law
open PySem PySem.Spec PyProof.Rows L2 My
theorem sc_law_stands : FnScope ["_law_found", "_law_mark", "_law_size_here", "_law_step", "_law_slot", "_law_seen", "_law_one"] ["_law_found", "_law_mark", "_law_size_here"] (defScope s_law_stands) := ⟨rfl, rfl, rfl, by decide +kernel, rfl, by decide +kernel, by decide +kernel⟩
theorem ok_law_stands {P : Program} {w : World} {K : PySem.W.Frag} {mg : Str → Option Value} {base : Heap} {A : Ad} (T : Txt K mg A) : FnOk P w K mg base CX0 2 A.a_law_stands A.d_law_stands ["_law_found", "_law_mark", "_law_size_here"] spStands := by
  refine T.F_law_stands.ok sc_law_stands (fun vs H Q E h => ?_) (fun cdv A' outer s H vs Q E hr h => ?_)
  · exact len_stands h
  · have nd := sc_law_stands.nd
    have hu := hu_of hr
    refine ⟨_, (pss_cons (ps_if (PW.pt (pw_or (pt_not (pt_val (pe_callB call_isiF rfl T.n_isinstance (by decide +kernel) (pa_cons (pv 0) (pa_cons (pe_bltn (v := .ty "list") rfl T.n_list (by decide +kernel) rfl) pa_nil))))) (pw_or1 (pt_cmpR op_ne (pe_callB call_lenq rfl T.n_len PySem.boot_len (pa_cons (pv 0) pa_nil)) (pv 2) (nomark _))))) (pss_one (ps_ret pe_bl)) pss_nil) (pss_cons (ps_set (i := 3) nd rfl (Or.inl rfl) (pe_op op_sub (pe_op op_add (pe_op op_fdivW (pv 1) pe_int) pe_int) (pe_op op_mod (pe_op op_fdivW (pv 1) pe_int) pe_int))) (pss_cons (ps_set (i := 4) nd rfl (Or.inl rfl) (pe_op op_mod (pv 1) (pv 2))) (pss_cons (ps_set (i := 5) nd rfl (Or.inl rfl) (pe_op op_rep (pe_lst (pa_cons pe_bl pa_nil)) (pv 2))) (pss_cons (ps_for PassesOwn.never rfl (pi_list (pv 0)) (pg_name (i := 6) nd rfl (Or.inl rfl)) (pss_cons (ps_if (PW.pt (pw_or (pt_not (pt_val (pe_call (ok_law_whole T) (hr.mono (by decide)) rfl T.m_law_whole T.F_law_whole.kp T.b_law_whole .nil pass0 (pa_cons (pv 6) pa_nil)))) (pw_or (pt_cmpR op_ne (pv 6) (pv 4) (nomark _)) (pw_or1 (pt_val (pe_ix ix_list (pv 5) (pv 4) (fun _ _ => rfl))))))) (pss_one (ps_ret pe_bl)) pss_nil) (pss_cons (ps_asg pe_bl (pg_sub (pv 5) (pv 4) set_list)) (pss_one (ps_set (i := 4) nd rfl (Or.inl rfl) (pe_op op_mod (pe_op op_add (pv 4) (pv 3)) (pv 2))))))) (pss_one (ps_ret pe_bl))))))), ?_⟩
    clear nd
    obtain ⟨p, m, j, rfl, hj, hm, hp, k⟩ := h
    walk_at "rd"
    simp only [isi_lst_list hp]
    walk_at "rd"
    obtain ⟨z1, z2⟩ := pow_le hj
    have z3 : (2 : Int) ^ 12 = 4096 := by decide
    refine ⟨_, .inl (SqL.of hp), ?_⟩
    rw [List.length_map, ← strideF_eq]
    refine iteN (fun c => c (probesF_len m j)) ⟨by walk_at "side", by walk_at "side", z1, by walk_at "sz", fun q hq => ⟨_, upd_same, by omega, by omega, ?_, fun r hr' => ?_⟩⟩
    · rw [sizeLine_eq]
      show 1 * ((2 : Int) ^ j).toNat ≤ _
      omega
    rw [List.flatten_replicate_singleton]
    have hp3 : upd (upd H q (HO.lst [V.bl false])) r (HO.lst (List.replicate ((2 : Int) ^ j).toNat (V.bl false))) p = some (.lst ((probesF m (2 ^ j)).map V.int)) := by walk_at "hp"
    have hr3 : upd (upd H q (HO.lst [V.bl false])) r (HO.lst (List.replicate ((2 : Int) ^ j).toNat (V.bl false))) r = some (.lst (List.replicate ((2 : Int) ^ j).toNat (V.bl false))) := upd_same
    have sm : Same H (upd (upd H q (HO.lst [V.bl false])) r (HO.lst (List.replicate ((2 : Int) ^ j).toNat (V.bl false)))) := by walk_at "same"
    have fr : Fresh H r := Same_fresh (by walk_at "same") hr'
    have npr : p ≠ r := fr.ne hp
    generalize upd (upd H q (HO.lst [V.bl false])) r (HO.lst (List.replicate ((2 : Int) ^ j).toNat (V.bl false))) = H3 at hp3 hr3 sm ⊢
    have so := stride_odd m
    generalize hst : strideF m = st at so ⊢
    refine ⟨⟨_, SqL.of hp3⟩, go_list (xs := (probesF m (2 ^ j)).map V.int) (fun i σ H' => ∃ v6 seen, σ = [some (.ref p), some (.int m), some (.int (2 ^ j)), some (.int st), some (.int ((m + i * st) % 2 ^ j)), some (.ref r), v6] ∧ Same H H' ∧ H' r = some (.lst seen) ∧ seen.length = ((2 : Int) ^ j).toNat ∧
      ∀ s : Nat, s < ((2 : Int) ^ j).toNat → (∀ i' : Nat, i' < i → (m + i' * st) % 2 ^ j ≠ s) → seen[s]? = some (.bl false)) ⟨none, _, by simp, sm, hr3, List.length_replicate, fun s hs _ => by rw [List.getElem?_replicate, if_pos hs]⟩ (fun i σ H' _ ⟨_, _, _, s, _⟩ => SqL.of (s _ _ hp)) ?_ ?_⟩
    · rintro N i x σ H' hx ⟨v6, seen, rfl, sm', hr2, hl, hs⟩ hN
      obtain ⟨n, hn, rfl⟩ := ints_at hx
      obtain ⟨hi, en⟩ := probesF_at hn
      rw [hst] at en
      walk_at "rd"
      have c0 : 0 ≤ (m + i * st) % 2 ^ j := Int.emod_nonneg _ (by omega)
      have c1 : (m + i * st) % 2 ^ j < 2 ^ j := Int.emod_lt_of_pos _ z1
      obtain ⟨s, es⟩ : ∃ s : Nat, (m + i * st) % 2 ^ j = (s : Int) := ⟨((m + i * st) % 2 ^ j).toNat, by omega⟩
      have hns : seen[s]? = some (.bl false) := hs s (by omega) fun i' hi' e => by
        have := count_one hj so (by omega) (by omega) (by omega) hi (e.trans es.symm)
        omega
      refine iteN (fun c => c en) ⟨seen, .bl false, SqL.of hr2, at_of es hns, ?_⟩
      walk_at "rd"
      have enx : ((m + i * st) % 2 ^ j + st) % 2 ^ j = (m + ((i + 1 : Nat) : Int) * st) % 2 ^ j := by
        rw [Int.emod_add_emod, Int.natCast_add, Int.add_mul, Int.add_assoc]
        simp
      rw [enx]
      refine ⟨seen, s, hr2, ?_, z1, hN _ _ ⟨some (.int n), seen.set s (.bl true), rfl, ?_, upd_same, by rw [List.length_set]; exact hl, ?_⟩⟩
      · rw [es, hl]
        rw [es] at c1
        unfold ixN
        rw [if_pos (by omega), if_pos (by omega)]
        rfl
      · exact Same_upd0 sm' fr
      · intro s' h1 h2
        have hne : s ≠ s' := fun e => h2 i (Nat.lt_succ_self _) (by rw [es, e])
        rw [List.getElem?_set_ne hne]
        exact hs s' h1 fun i' hi' => h2 i' (Nat.lt_succ_of_lt hi')
    · rintro σ H' ⟨v6, seen, rfl, sm', -⟩
      walk_at "rd"
      exact k _ sm'
theorem sc_law_ways : FnScope ["_law_found", "_law_mark", "_law_size_here", "_law_k", "_law_slot", "_law_count"] ["_law_found", "_law_mark", "_law_size_here"] (defScope s_law_ways) := ⟨rfl, rfl, rfl, by decide +kernel, rfl, by decide +kernel, by decide +kernel⟩
theorem ok_law_ways {P : Program} {w : World} {K : PySem.W.Frag} {mg : Str → Option Value} {base : Heap} {A : Ad} (T : Txt K mg A) : FnOk P w K mg base CX0 3 A.a_law_ways A.d_law_ways ["_law_found", "_law_mark", "_law_size_here"] spWays := by
  refine T.F_law_ways.ok sc_law_ways (fun vs H Q E h => ?_) (fun cdv A' outer s H vs Q E hr h => ?_)
  · exact len_ways h
  · have nd := sc_law_ways.nd
    have hu := hu_of hr
    refine ⟨_, (pss_cons (ps_for PassesOwn.never rfl (pi_range1 rfl T.n_range (pa_cons (pv 2) pa_nil)) (pg_name (i := 3) nd rfl (Or.inl rfl)) (pss_cons (ps_set (i := 4) nd rfl (Or.inl rfl) (pe_call (ok_probe T) (hr.mono (by decide)) rfl T.m_probe T.F_probe.kp T.b_probe .nil pass0 (pa_cons (pv 1) (pa_cons (pv 2) (pa_cons (pv 3) pa_nil))))) (pss_cons (ps_set (i := 5) nd rfl (Or.inl rfl) (pe_call (ok_when T) (hr.mono (by decide)) rfl T.m_when T.F_when.kp T.b_when .nil pass0 (pa_cons (pv 1) (pa_cons (pv 2) (pa_cons (pe_ix ix_list (pv 0) (pv 3) (fun _ _ => rfl)) pa_nil))))) (pss_one (ps_if (PW.pt (pw_or (pt_not (pt_val (pe_call (ok_law_whole T) (hr.mono (by decide)) rfl T.m_law_whole T.F_law_whole.kp T.b_law_whole .nil pass0 (pa_cons (pv 4) pa_nil)))) (pw_or (pt_cmpR op_ne (pv 4) (pe_ix ix_list (pv 0) (pv 3) (fun _ _ => rfl)) (nomark _)) (pw_or (pt_not (pt_val (pe_call (ok_law_whole T) (hr.mono (by decide)) rfl T.m_law_whole T.F_law_whole.kp T.b_law_whole .nil pass0 (pa_cons (pv 5) pa_nil)))) (pw_or1 (pt_cmpR op_ne (pv 5) (pv 3) (nomark _))))))) (pss_one (ps_ret pe_bl)) pss_nil))))) (pss_one (ps_ret pe_bl))), ?_⟩
    clear nd
    obtain ⟨p, m, j, rfl, hj, hm, hp, k⟩ := h
    walk_at "rd"
    obtain ⟨z1, z2⟩ := pow_le hj.2
    have z3 : (2 : Int) ^ 12 = 4096 := by decide
    refine ⟨by omega, go_range (fun i σ H' => ∃ v3 v4 v5, σ = [some (.ref p), some (.int m), some (.int (2 ^ j)), v3, v4, v5] ∧ H' = H) ⟨_, _, _, rfl, rfl⟩ ?_ ?_⟩
    · rintro N i σ H' hi ⟨v3, v4, v5, rfl, rfl⟩ hN
      walk_at "rd"
      have hlen := probesF_len m j
      obtain ⟨n, hn⟩ : ∃ n, (probesF m (2 ^ j))[i]? = some n := ⟨_, List.getElem?_eq_getElem (by omega)⟩
      obtain ⟨hi2, en⟩ := probesF_at hn
      have hat : atI ((probesF m (2 ^ j)).map V.int) (i : Int) = some (.int n) := atI_nat (by rw [List.getElem?_map, hn]; rfl)
      refine ⟨by omega, _, _, SqL.of hp, hat, m, j, n, rfl, hj, hm, ?_, fun f f0 f1 f2 => ?_⟩
      · rw [en]
        exact ⟨Int.emod_nonneg _ (by omega), Int.emod_lt_of_pos _ z1⟩
      · walk_at "rd"
        refine ⟨_, _, SqL.of hp, hat, ?_⟩
        walk_at "rd"
        have n0 : 0 ≤ n := by rw [en]; exact Int.emod_nonneg _ (by omega)
        have n1 : n < 2 ^ j := by rw [en]; exact Int.emod_lt_of_pos _ z1
        have ef : f = i := count_one hj.2 (stride_odd m) f0 f1 (by omega) hi2 ((slot_of n0 n1 f2).symm.trans en)
        rw [probeF_eq]
        exact iteN (fun c => c en.symm) (iteN (fun c => c ef) (hN _ _ ⟨_, _, _, rfl, rfl⟩))
    · rintro σ H' ⟨v3, v4, v5, rfl, rfl⟩
      walk_at "rd"
      exact k

end Law
namespace Law
open PySem PySem.Spec PyProof.Rows L2 My
theorem sc_law : FnScope ["_law_script", "_law_mark", "_law_size_here", "_law_found"] ["_law_script"] (defScope s_law) := ⟨rfl, rfl, rfl, by decide +kernel, rfl, by decide +kernel, by decide +kernel⟩
theorem ok_law {P : Program} {w : World} {K : PySem.W.Frag} {mg : Str → Option Value} {base : Heap} {A : Ad} (T : Txt K mg A) : FnOk P w K mg base CX0 4 A.a_law A.d_law ["_law_script"] (spLaw K) := by
  refine T.F_law.ok sc_law (fun vs H Q E h => ?_) (fun cdv A' outer s H vs Q E hr h => ?_)
  · walk_at "spl"
  · have nd := sc_law.nd
    have hu := hu_of hr
    refine ⟨_, (pss_cons (ps_set (i := 1) nd rfl (Or.inl rfl) (pe_call (ok_law_stamp T) (hr.mono (by decide)) rfl T.m_law_stamp T.F_law_stamp.kp T.b_law_stamp .nil pass0 (pa_cons (pv 0) pa_nil))) (pss_cons (ps_set (i := 2) nd rfl (Or.inl rfl) (pe_call (ok_law_size T) (hr.mono (by decide)) rfl T.m_law_size T.F_law_size.kp T.b_law_size .nil pass0 (pa_cons (pe_call (ok_law_cell_at T) (hr.mono (by decide)) rfl T.m_law_cell_at T.F_law_cell_at.kp T.b_law_cell_at .nil pass0 (pa_cons (pv 0) (pa_cons pe_int pa_nil))) pa_nil))) (pss_cons (ps_set (i := 3) nd rfl (Or.inl rfl) (pe_call (ok_probes T) (hr.mono (by decide)) rfl T.m_probes T.F_probes.kp T.b_probes .nil pass0 (pa_cons (pv 1) (pa_cons (pv 2) pa_nil)))) (pss_cons (ps_if (pt_not (pt_val (pe_call (ok_law_stands T) (hr.mono (by decide)) rfl T.m_law_stands T.F_law_stands.kp T.b_law_stands .nil pass0 (pa_cons (pv 3) (pa_cons (pv 1) (pa_cons (pv 2) pa_nil)))))) (pss_one (ps_ret pe_bl)) pss_nil) (pss_cons (ps_if (PW.pt (pw_and (pt_cmpR op_le (pv 2) pe_int (nomark _)) (pw_and1 (pt_not (pt_val (pe_call (ok_law_ways T) (hr.mono (by decide)) rfl T.m_law_ways T.F_law_ways.kp T.b_law_ways .nil pass0 (pa_cons (pv 3) (pa_cons (pv 1) (pa_cons (pv 2) pa_nil))))))))) (pss_one (ps_ret pe_bl)) pss_nil) (pss_cons (ps_if (pt_cmpR op_gt (pv 2) pe_int (nomark _)) (pss_one (ps_ret pe_bl)) pss_nil) (pss_cons (ps_asg (pe_op op_add (pe_ix ix_list (pv 3) pe_int (fun _ _ => rfl)) pe_int) (pg_sub (pv 3) pe_int set_list)) (pss_cons (ps_expr (pe_bm PySem.F.plainAttrs_list PySem.F.slot_list_append PySem.F.type_list_append mt_append (pv 3) (pa_cons pe_int pa_nil))) (pss_one (ps_ret (pe_call (ok_law_stands T) (hr.mono (by decide)) rfl T.m_law_stands T.F_law_stands.kp T.b_law_stands .nil pass0 (pa_cons (pe_call (ok_probes T) (hr.mono (by decide)) rfl T.m_probes T.F_probes.kp T.b_probes .nil pass0 (pa_cons (pv 1) (pa_cons (pv 2) pa_nil))) (pa_cons (pv 1) (pa_cons (pv 2) pa_nil)))))))))))))), ?_⟩
    clear nd
    obtain ⟨a, ns, rfl, hS, hl, k⟩ := h
    walk_at "rd"
    refine ⟨a, ns, rfl, hS, fun m m0 m1 => ⟨ns, hS, ?_⟩⟩
    rintro v ⟨j, hj, rfl⟩
    obtain ⟨z1, z2⟩ := pow_le hj.2
    have z3 : (2 : Int) ^ 12 = 4096 := by decide
    walk_at "rd"
    refine ⟨by omega, fun p H1 s1 f1 h1 => ⟨p, m, j, rfl, hj.2, m0, h1, fun H2 s2 => ?_⟩⟩
    walk_at "rd"
    split
    · refine ⟨p, m, j, rfl, hj, ⟨m0, m1⟩, s2 _ _ h1, ?_⟩
      walk_at "rd"
      refine ite2 (fun _ => k _) (fun _ => ?_)
      have hp2 := s2 _ _ h1
      have hlen := probesF_len m j
      have h8 := (pow_le hj.1).2
      obtain ⟨n, hn⟩ : ∃ n, (probesF m (2 ^ j))[0]? = some n := ⟨_, List.getElem?_eq_getElem (by omega)⟩
      refine ⟨_, .int n, SqL.of hp2, at_of (j := 0) rfl (by rw [List.getElem?_map, hn]; rfl), ?_⟩
      walk_at "rd"
      refine ⟨_, 0, hp2, ?_, tyL upd_same, _, upd_same, ?_, ?_⟩
      · rw [List.length_map]
        unfold ixN
        rw [if_pos (by omega), if_pos (by omega)]
        rfl
      · rw [sizeLine_eq, List.length_set, List.length_map]
        omega
      · refine ⟨by omega, fun p3 H4 s4 f4 h4 => ⟨p3, m, j, rfl, hj.2, m0, h4, fun H5 s5 => k _⟩⟩
    · skip
      refine ite2 (fun _ => k _) (fun _ => ?_)
      have hp2 := s2 _ _ h1
      have hlen := probesF_len m j
      have h8 := (pow_le hj.1).2
      obtain ⟨n, hn⟩ : ∃ n, (probesF m (2 ^ j))[0]? = some n := ⟨_, List.getElem?_eq_getElem (by omega)⟩
      refine ⟨_, .int n, SqL.of hp2, at_of (j := 0) rfl (by rw [List.getElem?_map, hn]; rfl), ?_⟩
      walk_at "rd"
      refine ⟨_, 0, hp2, ?_, tyL upd_same, _, upd_same, ?_, ?_⟩
      · rw [List.length_map]
        unfold ixN
        rw [if_pos (by omega), if_pos (by omega)]
        rfl
      · rw [sizeLine_eq, List.length_set, List.length_map]
        omega
      · refine ⟨by omega, fun p3 H4 s4 f4 h4 => ⟨p3, m, j, rfl, hj.2, m0, h4, fun H5 s5 => k _⟩⟩

end Law
namespace Law
open PySem PySem.Spec PyProof.Rows L2 My
theorem all_mk {l : PySem.W.OpenLaw} {w : World} {K : PySem.W.Frag} {h : Heap} {mg : Str → Option Value} {fa : Addr} (X : K.In h) (G : h.Ns mainGlobals mg) (hfa : mg "law" = some (.ref fa))
    {od0 an0 : Option Addr} {sl0 : Array (Option Value)} {oc0 kV0 dc0 pm0 cd0 ct0 : Value} {f0 : Addr}
    {od1 an1 : Option Addr} {sl1 : Array (Option Value)} {oc1 kV1 dc1 pm1 cd1 ct1 : Value} {f1 : Addr}
    {od2 an2 : Option Addr} {sl2 : Array (Option Value)} {oc2 kV2 dc2 pm2 cd2 ct2 : Value} {f2 : Addr}
    {od3 an3 : Option Addr} {sl3 : Array (Option Value)} {oc3 kV3 dc3 pm3 cd3 ct3 : Value} {f3 : Addr}
    {od4 an4 : Option Addr} {sl4 : Array (Option Value)} {oc4 kV4 dc4 pm4 cd4 ct4 : Value} {f4 : Addr}
    {od5 an5 : Option Addr} {sl5 : Array (Option Value)} {oc5 kV5 dc5 pm5 cd5 ct5 : Value} {f5 : Addr}
    {od6 an6 : Option Addr} {sl6 : Array (Option Value)} {oc6 kV6 dc6 pm6 cd6 ct6 : Value} {f6 : Addr}
    {od7 an7 : Option Addr} {sl7 : Array (Option Value)} {oc7 kV7 dc7 pm7 cd7 ct7 : Value} {f7 : Addr}
    {od8 an8 : Option Addr} {sl8 : Array (Option Value)} {oc8 kV8 dc8 pm8 cd8 ct8 : Value} {f8 : Addr}
    {od9 an9 : Option Addr} {sl9 : Array (Option Value)} {oc9 kV9 dc9 pm9 cd9 ct9 : Value} {f9 : Addr}
    {od10 an10 : Option Addr} {sl10 : Array (Option Value)} {oc10 kV10 dc10 pm10 cd10 ct10 : Value} {f10 : Addr}
    {od11 an11 : Option Addr} {sl11 : Array (Option Value)} {oc11 kV11 dc11 pm11 cd11 ct11 : Value} {f11 : Addr}
    (a0 : PySem.W.nsIn K mainGlobals "stride" = some (some (.ref f0)))
    (l0 : K.lookup f0 = some ⟨oc0, od0, .func (PySem.W.fnOf "stride" "stride" (defArgs s_stride) (defBody s_stride) (defScope s_stride) .none kV0 dc0 pm0 an0 cd0 ct0), sl0⟩)
    (d0 : PySem.W.codeIn K cd0 "stride" = true)
    (k0 : PySem.W.keepIn K (.ref f0) = true)
    (a1 : PySem.W.nsIn K mainGlobals "probe" = some (some (.ref f1)))
    (l1 : K.lookup f1 = some ⟨oc1, od1, .func (PySem.W.fnOf "probe" "probe" (defArgs s_probe) (defBody s_probe) (defScope s_probe) .none kV1 dc1 pm1 an1 cd1 ct1), sl1⟩)
    (d1 : PySem.W.codeIn K cd1 "probe" = true)
    (k1 : PySem.W.keepIn K (.ref f1) = true)
    (a2 : PySem.W.nsIn K mainGlobals "probes" = some (some (.ref f2)))
    (l2 : K.lookup f2 = some ⟨oc2, od2, .func (PySem.W.fnOf "probes" "probes" (defArgs s_probes) (defBody s_probes) (defScope s_probes) .none kV2 dc2 pm2 an2 cd2 ct2), sl2⟩)
    (d2 : PySem.W.codeIn K cd2 "probes" = true)
    (k2 : PySem.W.keepIn K (.ref f2) = true)
    (a3 : PySem.W.nsIn K mainGlobals "when" = some (some (.ref f3)))
    (l3 : K.lookup f3 = some ⟨oc3, od3, .func (PySem.W.fnOf "when" "when" (defArgs s_when) (defBody s_when) (defScope s_when) .none kV3 dc3 pm3 an3 cd3 ct3), sl3⟩)
    (d3 : PySem.W.codeIn K cd3 "when" = true)
    (k3 : PySem.W.keepIn K (.ref f3) = true)
    (a4 : PySem.W.nsIn K mainGlobals "_law_cell_at" = some (some (.ref f4)))
    (l4 : K.lookup f4 = some ⟨oc4, od4, .func (PySem.W.fnOf "_law_cell_at" "_law_cell_at" (defArgs s_law_cell_at) (defBody s_law_cell_at) (defScope s_law_cell_at) .none kV4 dc4 pm4 an4 cd4 ct4), sl4⟩)
    (d4 : PySem.W.codeIn K cd4 "_law_cell_at" = true)
    (k4 : PySem.W.keepIn K (.ref f4) = true)
    (a5 : PySem.W.nsIn K mainGlobals "_law_whole" = some (some (.ref f5)))
    (l5 : K.lookup f5 = some ⟨oc5, od5, .func (PySem.W.fnOf "_law_whole" "_law_whole" (defArgs s_law_whole) (defBody s_law_whole) (defScope s_law_whole) .none kV5 dc5 pm5 an5 cd5 ct5), sl5⟩)
    (d5 : PySem.W.codeIn K cd5 "_law_whole" = true)
    (k5 : PySem.W.keepIn K (.ref f5) = true)
    (a6 : PySem.W.nsIn K mainGlobals "_law_fold" = some (some (.ref f6)))
    (l6 : K.lookup f6 = some ⟨oc6, od6, .func (PySem.W.fnOf "_law_fold" "_law_fold" (defArgs s_law_fold) (defBody s_law_fold) (defScope s_law_fold) .none kV6 dc6 pm6 an6 cd6 ct6), sl6⟩)
    (d6 : PySem.W.codeIn K cd6 "_law_fold" = true)
    (k6 : PySem.W.keepIn K (.ref f6) = true)
    (a7 : PySem.W.nsIn K mainGlobals "_law_stamp" = some (some (.ref f7)))
    (l7 : K.lookup f7 = some ⟨oc7, od7, .func (PySem.W.fnOf "_law_stamp" "_law_stamp" (defArgs s_law_stamp) (defBody s_law_stamp) (defScope s_law_stamp) .none kV7 dc7 pm7 an7 cd7 ct7), sl7⟩)
    (d7 : PySem.W.codeIn K cd7 "_law_stamp" = true)
    (k7 : PySem.W.keepIn K (.ref f7) = true)
    (a8 : PySem.W.nsIn K mainGlobals "_law_size" = some (some (.ref f8)))
    (l8 : K.lookup f8 = some ⟨oc8, od8, .func (PySem.W.fnOf "_law_size" "_law_size" (defArgs s_law_size) (defBody s_law_size) (defScope s_law_size) .none kV8 dc8 pm8 an8 cd8 ct8), sl8⟩)
    (d8 : PySem.W.codeIn K cd8 "_law_size" = true)
    (k8 : PySem.W.keepIn K (.ref f8) = true)
    (a9 : PySem.W.nsIn K mainGlobals "_law_stands" = some (some (.ref f9)))
    (l9 : K.lookup f9 = some ⟨oc9, od9, .func (PySem.W.fnOf "_law_stands" "_law_stands" (defArgs s_law_stands) (defBody s_law_stands) (defScope s_law_stands) .none kV9 dc9 pm9 an9 cd9 ct9), sl9⟩)
    (d9 : PySem.W.codeIn K cd9 "_law_stands" = true)
    (k9 : PySem.W.keepIn K (.ref f9) = true)
    (a10 : PySem.W.nsIn K mainGlobals "_law_ways" = some (some (.ref f10)))
    (l10 : K.lookup f10 = some ⟨oc10, od10, .func (PySem.W.fnOf "_law_ways" "_law_ways" (defArgs s_law_ways) (defBody s_law_ways) (defScope s_law_ways) .none kV10 dc10 pm10 an10 cd10 ct10), sl10⟩)
    (d10 : PySem.W.codeIn K cd10 "_law_ways" = true)
    (k10 : PySem.W.keepIn K (.ref f10) = true)
    (a11 : PySem.W.nsIn K mainGlobals "law" = some (some (.ref f11)))
    (l11 : K.lookup f11 = some ⟨oc11, od11, .func (PySem.W.fnOf "law" "law" (defArgs s_law) (defBody s_law) (defScope s_law) .none kV11 dc11 pm11 an11 cd11 ct11), sl11⟩)
    (d11 : PySem.W.codeIn K cd11 "law" = true)
    (k11 : PySem.W.keepIn K (.ref f11) = true)
    (n_bool : PySem.W.nsIn K mainGlobals "bool" = some none)
    (n_int : PySem.W.nsIn K mainGlobals "int" = some none)
    (n_isinstance : PySem.W.nsIn K mainGlobals "isinstance" = some none)
    (n_len : PySem.W.nsIn K mainGlobals "len" = some none)
    (n_list : PySem.W.nsIn K mainGlobals "list" = some none)
    (n_range : PySem.W.nsIn K mainGlobals "range" = some none) :
    ∃ fd : FuncData, (∀ (s : Shared) (v : Value), BindsTo s fd ⟨[v], []⟩ [("_law_script", v)]) ∧ ∀ base : Heap, K.In base → base.Ns mainGlobals mg → FnOk l.prog w K mg base CX0 4 fa fd ["_law_script"] (spLaw K) := by
  have e := hfa.symm.trans (PySem.W.mg_of X G a11)
  cases e
  have T : Txt K mg ⟨f0, PySem.W.fnOf "stride" "stride" (defArgs s_stride) (defBody s_stride) (defScope s_stride) .none kV0 dc0 pm0 an0 cd0 ct0, f1, PySem.W.fnOf "probe" "probe" (defArgs s_probe) (defBody s_probe) (defScope s_probe) .none kV1 dc1 pm1 an1 cd1 ct1, f2, PySem.W.fnOf "probes" "probes" (defArgs s_probes) (defBody s_probes) (defScope s_probes) .none kV2 dc2 pm2 an2 cd2 ct2, f3, PySem.W.fnOf "when" "when" (defArgs s_when) (defBody s_when) (defScope s_when) .none kV3 dc3 pm3 an3 cd3 ct3, f4, PySem.W.fnOf "_law_cell_at" "_law_cell_at" (defArgs s_law_cell_at) (defBody s_law_cell_at) (defScope s_law_cell_at) .none kV4 dc4 pm4 an4 cd4 ct4, f5, PySem.W.fnOf "_law_whole" "_law_whole" (defArgs s_law_whole) (defBody s_law_whole) (defScope s_law_whole) .none kV5 dc5 pm5 an5 cd5 ct5, f6, PySem.W.fnOf "_law_fold" "_law_fold" (defArgs s_law_fold) (defBody s_law_fold) (defScope s_law_fold) .none kV6 dc6 pm6 an6 cd6 ct6, f7, PySem.W.fnOf "_law_stamp" "_law_stamp" (defArgs s_law_stamp) (defBody s_law_stamp) (defScope s_law_stamp) .none kV7 dc7 pm7 an7 cd7 ct7, f8, PySem.W.fnOf "_law_size" "_law_size" (defArgs s_law_size) (defBody s_law_size) (defScope s_law_size) .none kV8 dc8 pm8 an8 cd8 ct8, f9, PySem.W.fnOf "_law_stands" "_law_stands" (defArgs s_law_stands) (defBody s_law_stands) (defScope s_law_stands) .none kV9 dc9 pm9 an9 cd9 ct9, f10, PySem.W.fnOf "_law_ways" "_law_ways" (defArgs s_law_ways) (defBody s_law_ways) (defScope s_law_ways) .none kV10 dc10 pm10 an10 cd10 ct10, fa, PySem.W.fnOf "law" "law" (defArgs s_law) (defBody s_law) (defScope s_law) .none kV11 dc11 pm11 an11 cd11 ct11⟩ := ⟨fun_mk (st := s_stride) l0 d0 k0,
    (fun_mk (st := s_stride) l0 d0 k0).binds (ps := ["stamp"]) fun _ _ _ _ _ _ us hl => match us, hl with | [_], _ => rfl,
    PySem.W.mg_of X G a0,
    fun_mk (st := s_probe) l1 d1 k1,
    (fun_mk (st := s_probe) l1 d1 k1).binds (ps := ["stamp", "size", "count"]) fun _ _ _ _ _ _ us hl => match us, hl with | [_, _, _], _ => rfl,
    PySem.W.mg_of X G a1,
    fun_mk (st := s_probes) l2 d2 k2,
    (fun_mk (st := s_probes) l2 d2 k2).binds (ps := ["stamp", "size"]) fun _ _ _ _ _ _ us hl => match us, hl with | [_, _], _ => rfl,
    PySem.W.mg_of X G a2,
    fun_mk (st := s_when) l3 d3 k3,
    (fun_mk (st := s_when) l3 d3 k3).binds (ps := ["stamp", "size", "slot"]) fun _ _ _ _ _ _ us hl => match us, hl with | [_, _, _], _ => rfl,
    PySem.W.mg_of X G a3,
    fun_mk (st := s_law_cell_at) l4 d4 k4,
    (fun_mk (st := s_law_cell_at) l4 d4 k4).binds (ps := ["_law_script", "_law_k"]) fun _ _ _ _ _ _ us hl => match us, hl with | [_, _], _ => rfl,
    PySem.W.mg_of X G a4,
    fun_mk (st := s_law_whole) l5 d5 k5,
    (fun_mk (st := s_law_whole) l5 d5 k5).binds (ps := ["_law_found"]) fun _ _ _ _ _ _ us hl => match us, hl with | [_], _ => rfl,
    PySem.W.mg_of X G a5,
    fun_mk (st := s_law_fold) l6 d6 k6,
    (fun_mk (st := s_law_fold) l6 d6 k6).binds (ps := ["_law_script"]) fun _ _ _ _ _ _ us hl => match us, hl with | [_], _ => rfl,
    PySem.W.mg_of X G a6,
    fun_mk (st := s_law_stamp) l7 d7 k7,
    (fun_mk (st := s_law_stamp) l7 d7 k7).binds (ps := ["_law_script"]) fun _ _ _ _ _ _ us hl => match us, hl with | [_], _ => rfl,
    PySem.W.mg_of X G a7,
    fun_mk (st := s_law_size) l8 d8 k8,
    (fun_mk (st := s_law_size) l8 d8 k8).binds (ps := ["_law_cell"]) fun _ _ _ _ _ _ us hl => match us, hl with | [_], _ => rfl,
    PySem.W.mg_of X G a8,
    fun_mk (st := s_law_stands) l9 d9 k9,
    (fun_mk (st := s_law_stands) l9 d9 k9).binds (ps := ["_law_found", "_law_mark", "_law_size_here"]) fun _ _ _ _ _ _ us hl => match us, hl with | [_, _, _], _ => rfl,
    PySem.W.mg_of X G a9,
    fun_mk (st := s_law_ways) l10 d10 k10,
    (fun_mk (st := s_law_ways) l10 d10 k10).binds (ps := ["_law_found", "_law_mark", "_law_size_here"]) fun _ _ _ _ _ _ us hl => match us, hl with | [_, _, _], _ => rfl,
    PySem.W.mg_of X G a10,
    fun_mk (st := s_law) l11 d11 k11,
    (fun_mk (st := s_law) l11 d11 k11).binds (ps := ["_law_script"]) fun _ _ _ _ _ _ us hl => match us, hl with | [_], _ => rfl,
    PySem.W.mg_of X G a11,
    PySem.W.mg_none_of X G n_bool,
    PySem.W.mg_none_of X G n_int,
    PySem.W.mg_none_of X G n_isinstance,
    PySem.W.mg_none_of X G n_len,
    PySem.W.mg_none_of X G n_list,
    PySem.W.mg_none_of X G n_range⟩
  exact ⟨_, fun s v => .of_eq rfl, fun base _ _ => ok_law T⟩
theorem walk {l : PySem.W.OpenLaw} {q : Program} {loose : List Str} {XP : (Str → Option Value) → Heap → Prop} {YP : World → Heap → Prop} {d : DefRec} {K : Params → PySem.W.Frag} (hn : l.most = some 63) (hdf : d.params.defaults = [])
    (hY : ∀ (w : World) (h : Heap), YP w h → (K w.params).In h)
    (F : ∀ (w : World) (mg : Str → Option Value) (fa : Addr) (h : Heap), (K w.params).In h → h.Ns mainGlobals mg → mg d.name = some (.ref fa) →
      ∃ fd : FuncData, (∀ (s : Shared) (u : Value), BindsTo s fd ⟨[u], []⟩ [("_law_script", u)]) ∧ ∀ base : Heap, (K w.params).In base → base.Ns mainGlobals mg → FnOk l.prog w (K w.params) mg base CX0 4 fa fd ["_law_script"] (spLaw (K w.params))) :
    PySem.W.WalkO q loose XP YP l.row.toRowW d [] (fun f vs => PySem.call f vs) :=
  L2.walk_of (n := 63) (k := 4) (x := "_law_script") (CX := fun _ => CX0) (sp := fun w => spLaw (K w.params)) hn (by decide) hdf ⟨rfl, by decide, by decide⟩ hY F (fun _ _ a ns hl _ hS => ⟨a, ns, rfl, hS, hl, fun _ => rfl⟩) fun _ _ _ _ _ z => z

end Law

open PySem PySem.W PyProof.Rows
set_option maxRecDepth 100000 in
set_option maxHeartbeats 0 in
theorem PySem.Challenge.cw_slotbook_k23_whole_each_slot_once_holds : PySem.Challenge.rw_slotbook_k23_whole_each_slot_once.Holds := by
  w_on; o_law; k_head; (case hw => w_witness2)
  k_fill
  refine Law.walk (l := PySem.Challenge.rw_slotbook_k23_whole_each_slot_once) rfl rfl (fun w h Y => PySem.W.kIn_of Y) ?F
  case F =>
    intro w mg fa h KX G hmg
    refine' Law.all_mk KX G hmg ?a0 ?l0 ?d0 ?k0 ?a1 ?l1 ?d1 ?k1 ?a2 ?l2 ?d2 ?k2 ?a3 ?l3 ?d3 ?k3 ?a4 ?l4 ?d4 ?k4 ?a5 ?l5 ?d5 ?k5 ?a6 ?l6 ?d6 ?k6 ?a7 ?l7 ?d7 ?k7 ?a8 ?l8 ?d8 ?k8 ?a9 ?l9 ?d9 ?k9 ?a10 ?l10 ?d10 ?k10 ?a11 ?l11 ?d11 ?k11 ?n_bool ?n_int ?n_isinstance ?n_len ?n_list ?n_range
    (case a0 => k_is)
    (case l0 => k_is)
    (case d0 => k_is)
    (case k0 => k_is)
    (case a1 => k_is)
    (case l1 => k_is)
    (case d1 => k_is)
    (case k1 => k_is)
    (case a2 => k_is)
    (case l2 => k_is)
    (case d2 => k_is)
    (case k2 => k_is)
    (case a3 => k_is)
    (case l3 => k_is)
    (case d3 => k_is)
    (case k3 => k_is)
    (case a4 => k_is)
    (case l4 => k_is)
    (case d4 => k_is)
    (case k4 => k_is)
    (case a5 => k_is)
    (case l5 => k_is)
    (case d5 => k_is)
    (case k5 => k_is)
    (case a6 => k_is)
    (case l6 => k_is)
    (case d6 => k_is)
    (case k6 => k_is)
    (case a7 => k_is)
    (case l7 => k_is)
    (case d7 => k_is)
    (case k7 => k_is)
    (case a8 => k_is)
    (case l8 => k_is)
    (case d8 => k_is)
    (case k8 => k_is)
    (case a9 => k_is)
    (case l9 => k_is)
    (case d9 => k_is)
    (case k9 => k_is)
    (case a10 => k_is)
    (case l10 => k_is)
    (case d10 => k_is)
    (case k10 => k_is)
    (case a11 => k_is)
    (case l11 => k_is)
    (case d11 => k_is)
    (case k11 => k_is)
    (case n_bool => k_is)
    (case n_int => k_is)
    (case n_isinstance => k_is)
    (case n_len => k_is)
    (case n_list => k_is)
    (case n_range => k_is)
