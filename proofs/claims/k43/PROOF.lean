import PyProof.Rows.All
import Wide.All
import OpenK.AllK
import Wide.FinOn
import HandS.ForMost
import HandS.IsInst
import HandS.Wide
import HandS.Walk
import HandS.SetKeys
import HandS.Style
import HandS.Codes
import KE.KBits
import HandS.Deep
import HandS.Iter
import HandS.Zip
import HandS.Dict
import HandS.Defaults
import HandS.ForExc
import HandS.CallSlots
import HandS.TryMany
import PySem.Challenge.RW_slotbook_k43_whole_row_of_pairs
set_option Elab.async false
set_option linter.all false
set_option maxRecDepth 100000
set_option maxHeartbeats 4000000
namespace My
open PySem PySem.Spec PyProof.Rows L2
section
variable {X : Cx}
theorem op_mulX : OpR X (binaryOp .Mult) (rI IntMulOk fun i j => .int (i * j)) := opI fun _ _ _ _ _ _ _ hc q => mul_int q hc
theorem mulL {i j : Int} (h1 : -(2 ^ 64) < i) (h2 : i < 2 ^ 64) : IntMulOk i j := .of_left (intBits_le_64 h1 h2)
theorem mulR {i j : Int} (h1 : -(2 ^ 64) < j) (h2 : j < 2 ^ 64) : IntMulOk i j := .of_right (intBits_le_64 h1 h2)
end
section
variable {σ : L2.St} {H : Hp} {Q : VK} {QT : Bool → Hp → Prop} {D : Ends} {ta tb te : TE} {t u c : TT} {s1 s2 : TS} {K : PySem.W.Frag}
theorem rd_var {i : Nat} : tVar i σ H Q = (match σ[i]? with | some (some v) => Q v H | _ => False) := by
  unfold tVar
  apply propext
  constructor
  · rintro ⟨v, e, q⟩
    rw [e]; exact q
  · intro h
    split at h
    · rename_i v e
      exact ⟨v, e, h⟩
    · exact h.elim
theorem rd_c {v : V} : tC v σ H Q = Q v H := rfl
theorem rd_op {r : R2} : tOp r ta tb σ H Q = ta σ H fun x H1 => tb σ H1 fun y H2 => r x y H2 Q := rfl
theorem rd_un {r : V → Hp → VK → Prop} : tUn r ta σ H Q = ta σ H fun x H1 => r x H1 Q := rfl
theorem rd_rI {C : Int → Int → Prop} {g : Int → Int → V} {i j : Int} : rI C g (.int i) (.int j) H Q = (C i j ∧ Q (g i j) H) := by
  unfold rI
  apply propext
  constructor
  · rintro ⟨a, b, e1, e2, q⟩
    cases e1; cases e2; exact q
  · intro q
    exact ⟨i, j, rfl, rfl, q⟩
theorem rd_rI0 {g : Int → Int → V} {i j : Int} : rI0 g (.int i) (.int j) H Q = Q (g i j) H := by
  unfold rI0
  apply propext
  constructor
  · rintro ⟨a, b, e1, e2, q⟩
    cases e1; cases e2; exact q
  · intro q
    exact ⟨i, j, rfl, rfl, q⟩
theorem rd_rU {g : Int → V} {i : Int} : rU g (.int i) H Q = Q (g i) H := by
  unfold rU
  apply propext
  constructor
  · rintro ⟨a, e1, q⟩
    cases e1; exact q
  · intro q
    exact ⟨i, rfl, q⟩
theorem rd_eq {x y : V} : rEq x y H Q = (scal x y = true ∧ Q (.bl (decide (x = y))) H) := rfl
theorem rd_ne {x y : V} : rNe x y H Q = (scal x y = true ∧ Q (.bl (!decide (x = y))) H) := rfl
def isBl (x : V) (f : Bool → Prop) : Prop := match x with | .bl k => f k | _ => False
theorem rd_isBl {k : Bool} {f : Bool → Prop} : isBl (.bl k) f = f k := rfl
theorem isBl_eq {x : V} {f : Bool → Prop} : (∃ k, x = .bl k ∧ f k) = isBl x f := by
  apply propext
  constructor
  · rintro ⟨k, rfl, q⟩; exact q
  · intro q
    cases x with
    | bl k => exact ⟨k, rfl, q⟩
    | _ => exact q.elim
theorem rd_test : tTest ta σ H QT = ta σ H fun x H' => isBl x fun k => QT k H' := by
  unfold tTest
  simp only [isBl_eq]
theorem rd_B : tB ta σ H QT = ta σ H fun x H' => isBl x fun k => QT k H' := by
  unfold tB
  simp only [isBl_eq]
theorem rd_and : tAnd t u σ H QT = t σ H fun c H1 => if c = true then u σ H1 QT else QT false H1 := rfl
theorem rd_or : tOr t u σ H QT = t σ H fun c H1 => if c = true then QT true H1 else u σ H1 QT := rfl
theorem rd_not : tNot t σ H QT = t σ H fun c H1 => QT (!c) H1 := rfl
theorem rd_andV : tAndV ta tb σ H Q = ta σ H fun x H1 => isBl x fun c => if c = true then tb σ H1 Q else Q (.bl false) H1 := by
  unfold tAndV; simp only [isBl_eq]
theorem rd_orV : tOrV ta tb σ H Q = ta σ H fun x H1 => isBl x fun c => if c = true then Q (.bl true) H1 else tb σ H1 Q := by
  unfold tOrV; simp only [isBl_eq]
theorem rd_notV : tNotV ta σ H Q = ta σ H fun x H1 => isBl x fun c => Q (.bl (!c)) H1 := by
  unfold tNotV; simp only [isBl_eq]
theorem rd_ifE : tIf t ta tb σ H Q = t σ H fun c H1 => if c = true then ta σ H1 Q else tb σ H1 Q := rfl
theorem rd_chain {r r' : R2} {tc : TE} : tChain r r' ta tb tc σ H Q = ta σ H fun x H1 => tb σ H1 fun y H2 => r x y H2 fun z H3 => isBl z fun k => if k = true then tc σ H3 fun w' H4 => r' y w' H4 Q else Q (.bl false) H3 := by
  unfold tChain; simp only [isBl_eq]
theorem rd_ifS : tIfS c s1 s2 D σ H = c σ H fun b H1 => if b = true then s1 D σ H1 else s2 D σ H1 := rfl
theorem rd_ret : tRet te D σ H = te σ H D.rt := rfl
theorem rd_retN : tRetN D σ H = D.rt .non H := rfl
theorem rd_seq : tSeq s1 s2 D σ H = s1 { D with nx := s2 D } σ H := rfl
theorem rd_next : tNext D σ H = D.nx σ H := rfl
theorem rd_break : tBreak D σ H = D.bk σ H := rfl
theorem rd_cont : tCont D σ H = D.ct σ H := rfl
theorem rd_drop : tDrop te D σ H = te σ H fun _ H1 => D.nx σ H1 := rfl
theorem rd_asg {g : TG} : tAsg te g D σ H = te σ H fun x H1 => g x σ H1 D.nx := rfl
theorem rd_gName {i : Nat} {v : V} {R : L2.St → Hp → Prop} : gName i v σ H R = R (σ.set i (some v)) H := rfl
theorem rd_nil {R : List V → Hp → Prop} : tNil σ H R = R [] H := rfl
theorem rd_cons {tr : TA} {R : List V → Hp → Prop} : tCons te tr σ H R = te σ H fun x H1 => tr σ H1 fun xs H2 => R (x :: xs) H2 := rfl
theorem rd_call {sp : Sp} {dvs : List V} {E : XK} {tr : TA} : tCall sp dvs E tr σ H Q = tr σ H fun vs H1 => sp (vs ++ dvs) H1 Q E := rfl
theorem rd_CB {r : List V → Hp → VK → Prop} {tr : TA} : tCB r tr σ H Q = tr σ H fun vs H1 => r vs H1 Q := rfl
theorem V_int_inj {a b : Int} : (V.int a = V.int b) = (a = b) := by simp
theorem V_bl_inj {a b : Bool} : (V.bl a = V.bl b) = (a = b) := by simp
theorem V_str_inj {a b : Str} : (V.str a = V.str b) = (a = b) := by simp
theorem scal_ii {a b : Int} : scal (.int a) (.int b) = true := rfl
theorem scal_bb {a b : Bool} : scal (.bl a) (.bl b) = true := rfl
theorem scal_ss {a b : Str} : scal (.str a) (.str b) = true := rfl
end
end My
/-! what is read further -/
namespace My
open PySem PySem.Spec PyProof.Rows L2
section
variable {σ : L2.St} {H : Hp} {Q : VK} {QT : Bool → Hp → Prop} {D : Ends} {ta tb te : TE} {t u c : TT} {s1 s2 : TS} {K : PySem.W.Frag}
/-! types of values -/
def tyS (x : V) (H : Hp) : Option String := match x with
  | .non => some "NoneType"
  | .bl _ => some "bool"
  | .int _ => some "int"
  | .str _ => some "str"
  | .ref a => match H a with
    | some (.lst _) => some "list"
    | some (.tup _) => some "tuple"
    | some (.dK _) => some "dict"
    | some (.frz _ (.lst _)) => some "list"
    | _ => none
  | _ => none
theorem tyS_ok {x : V} {t : String} (h : tyS x H = some t) : TyX K H x (.type t) := by
  cases x with
  | non => cases h; exact .base .non
  | bl b => cases h; exact .base (.bl b)
  | int i => cases h; exact .base (.int i)
  | str i => cases h; exact .base (.str i)
  | ref a =>
    unfold tyS at h
    cases e : H a with
    | none => simp [e] at h
    | some o =>
      cases o with
      | lst xs => simp [e] at h; subst h; exact .base (.lst e)
      | tup xs => simp [e] at h; subst h; exact .base (.tup e)
      | dK xs => simp [e] at h; subst h; exact .base (.dK e)
      | frz o u =>
        cases u with
        | lst xs => simp [e] at h; subst h; exact .base (.frz e)
        | _ => simp [e] at h
      | _ => simp [e] at h
  | _ => cases h
/-- isinstance with a built-in type -/
def isiF (x : V) (n : String) (H : Hp) (f : Bool → Prop) : Prop := match tyS x H with
  | some t => (match kitB t n with | some b => f b | none => False)
  | none => False
def rIsiF : List V → Hp → VK → Prop := fun xs H Q => match xs with
  | [x, .ty n] => isiF x n H fun b => Q (.bl b) H
  | _ => False
theorem rd_isiF {x : V} {n : String} : rIsiF [x, .ty n] H Q = isiF x n H fun b => Q (.bl b) H := rfl
theorem call_isiF {X : Cx} : CallR X (.builtin "isinstance") rIsiF := by
  intro pins s σ H xs us Q I r h
  refine call_isi pins s σ H xs us Q I r ?_
  unfold rIsiF at h
  split at h
  · rename_i x n
    unfold isiF at h
    split at h
    · rename_i t e
      split at h
      · rename_i b e2
        exact ⟨x, .ty n, _, _, b, rfl, .ty n, tyS_ok e, kit_ty e2, h⟩
      · exact h.elim
    · exact h.elim
  · exact h.elim
theorem isi_non_int {f : Bool → Prop} : isiF .non "int" H f = f false := by
  have e : kitB "NoneType" "int" = some false := by decide +kernel
  simp only [isiF, tyS, e]
theorem isi_non_bool {f : Bool → Prop} : isiF .non "bool" H f = f false := by
  have e : kitB "NoneType" "bool" = some false := by decide +kernel
  simp only [isiF, tyS, e]
theorem isi_non_str {f : Bool → Prop} : isiF .non "str" H f = f false := by
  have e : kitB "NoneType" "str" = some false := by decide +kernel
  simp only [isiF, tyS, e]
theorem isi_non_tuple {f : Bool → Prop} : isiF .non "tuple" H f = f false := by
  have e : kitB "NoneType" "tuple" = some false := by decide +kernel
  simp only [isiF, tyS, e]
theorem isi_non_list {f : Bool → Prop} : isiF .non "list" H f = f false := by
  have e : kitB "NoneType" "list" = some false := by decide +kernel
  simp only [isiF, tyS, e]
theorem isi_non_dict {f : Bool → Prop} : isiF .non "dict" H f = f false := by
  have e : kitB "NoneType" "dict" = some false := by decide +kernel
  simp only [isiF, tyS, e]
theorem isi_bl_int {b : Bool} {f : Bool → Prop} : isiF (.bl b) "int" H f = f true := by
  have e : kitB "bool" "int" = some true := by decide +kernel
  simp only [isiF, tyS, e]
theorem isi_bl_bool {b : Bool} {f : Bool → Prop} : isiF (.bl b) "bool" H f = f true := by
  have e : kitB "bool" "bool" = some true := by decide +kernel
  simp only [isiF, tyS, e]
theorem isi_bl_str {b : Bool} {f : Bool → Prop} : isiF (.bl b) "str" H f = f false := by
  have e : kitB "bool" "str" = some false := by decide +kernel
  simp only [isiF, tyS, e]
theorem isi_bl_tuple {b : Bool} {f : Bool → Prop} : isiF (.bl b) "tuple" H f = f false := by
  have e : kitB "bool" "tuple" = some false := by decide +kernel
  simp only [isiF, tyS, e]
theorem isi_bl_list {b : Bool} {f : Bool → Prop} : isiF (.bl b) "list" H f = f false := by
  have e : kitB "bool" "list" = some false := by decide +kernel
  simp only [isiF, tyS, e]
theorem isi_bl_dict {b : Bool} {f : Bool → Prop} : isiF (.bl b) "dict" H f = f false := by
  have e : kitB "bool" "dict" = some false := by decide +kernel
  simp only [isiF, tyS, e]
theorem isi_int_int {i : Int} {f : Bool → Prop} : isiF (.int i) "int" H f = f true := by
  have e : kitB "int" "int" = some true := by decide +kernel
  simp only [isiF, tyS, e]
theorem isi_int_bool {i : Int} {f : Bool → Prop} : isiF (.int i) "bool" H f = f false := by
  have e : kitB "int" "bool" = some false := by decide +kernel
  simp only [isiF, tyS, e]
theorem isi_int_str {i : Int} {f : Bool → Prop} : isiF (.int i) "str" H f = f false := by
  have e : kitB "int" "str" = some false := by decide +kernel
  simp only [isiF, tyS, e]
theorem isi_int_tuple {i : Int} {f : Bool → Prop} : isiF (.int i) "tuple" H f = f false := by
  have e : kitB "int" "tuple" = some false := by decide +kernel
  simp only [isiF, tyS, e]
theorem isi_int_list {i : Int} {f : Bool → Prop} : isiF (.int i) "list" H f = f false := by
  have e : kitB "int" "list" = some false := by decide +kernel
  simp only [isiF, tyS, e]
theorem isi_int_dict {i : Int} {f : Bool → Prop} : isiF (.int i) "dict" H f = f false := by
  have e : kitB "int" "dict" = some false := by decide +kernel
  simp only [isiF, tyS, e]
theorem isi_str_int {z : Str} {f : Bool → Prop} : isiF (.str z) "int" H f = f false := by
  have e : kitB "str" "int" = some false := by decide +kernel
  simp only [isiF, tyS, e]
theorem isi_str_bool {z : Str} {f : Bool → Prop} : isiF (.str z) "bool" H f = f false := by
  have e : kitB "str" "bool" = some false := by decide +kernel
  simp only [isiF, tyS, e]
theorem isi_str_str {z : Str} {f : Bool → Prop} : isiF (.str z) "str" H f = f true := by
  have e : kitB "str" "str" = some true := by decide +kernel
  simp only [isiF, tyS, e]
theorem isi_str_tuple {z : Str} {f : Bool → Prop} : isiF (.str z) "tuple" H f = f false := by
  have e : kitB "str" "tuple" = some false := by decide +kernel
  simp only [isiF, tyS, e]
theorem isi_str_list {z : Str} {f : Bool → Prop} : isiF (.str z) "list" H f = f false := by
  have e : kitB "str" "list" = some false := by decide +kernel
  simp only [isiF, tyS, e]
theorem isi_str_dict {z : Str} {f : Bool → Prop} : isiF (.str z) "dict" H f = f false := by
  have e : kitB "str" "dict" = some false := by decide +kernel
  simp only [isiF, tyS, e]
theorem isi_lst_int {a : Addr} {xs : List V} (h : H a = some (.lst xs)) {f : Bool → Prop} : isiF (.ref a) "int" H f = f false := by
  have e : kitB "list" "int" = some false := by decide +kernel
  simp only [isiF, tyS, h, e]
theorem isi_lst_bool {a : Addr} {xs : List V} (h : H a = some (.lst xs)) {f : Bool → Prop} : isiF (.ref a) "bool" H f = f false := by
  have e : kitB "list" "bool" = some false := by decide +kernel
  simp only [isiF, tyS, h, e]
theorem isi_lst_str {a : Addr} {xs : List V} (h : H a = some (.lst xs)) {f : Bool → Prop} : isiF (.ref a) "str" H f = f false := by
  have e : kitB "list" "str" = some false := by decide +kernel
  simp only [isiF, tyS, h, e]
theorem isi_lst_tuple {a : Addr} {xs : List V} (h : H a = some (.lst xs)) {f : Bool → Prop} : isiF (.ref a) "tuple" H f = f false := by
  have e : kitB "list" "tuple" = some false := by decide +kernel
  simp only [isiF, tyS, h, e]
theorem isi_lst_list {a : Addr} {xs : List V} (h : H a = some (.lst xs)) {f : Bool → Prop} : isiF (.ref a) "list" H f = f true := by
  have e : kitB "list" "list" = some true := by decide +kernel
  simp only [isiF, tyS, h, e]
theorem isi_lst_dict {a : Addr} {xs : List V} (h : H a = some (.lst xs)) {f : Bool → Prop} : isiF (.ref a) "dict" H f = f false := by
  have e : kitB "list" "dict" = some false := by decide +kernel
  simp only [isiF, tyS, h, e]
theorem isi_tup_int {a : Addr} {xs : List V} (h : H a = some (.tup xs)) {f : Bool → Prop} : isiF (.ref a) "int" H f = f false := by
  have e : kitB "tuple" "int" = some false := by decide +kernel
  simp only [isiF, tyS, h, e]
theorem isi_tup_bool {a : Addr} {xs : List V} (h : H a = some (.tup xs)) {f : Bool → Prop} : isiF (.ref a) "bool" H f = f false := by
  have e : kitB "tuple" "bool" = some false := by decide +kernel
  simp only [isiF, tyS, h, e]
theorem isi_tup_str {a : Addr} {xs : List V} (h : H a = some (.tup xs)) {f : Bool → Prop} : isiF (.ref a) "str" H f = f false := by
  have e : kitB "tuple" "str" = some false := by decide +kernel
  simp only [isiF, tyS, h, e]
theorem isi_tup_tuple {a : Addr} {xs : List V} (h : H a = some (.tup xs)) {f : Bool → Prop} : isiF (.ref a) "tuple" H f = f true := by
  have e : kitB "tuple" "tuple" = some true := by decide +kernel
  simp only [isiF, tyS, h, e]
theorem isi_tup_list {a : Addr} {xs : List V} (h : H a = some (.tup xs)) {f : Bool → Prop} : isiF (.ref a) "list" H f = f false := by
  have e : kitB "tuple" "list" = some false := by decide +kernel
  simp only [isiF, tyS, h, e]
theorem isi_tup_dict {a : Addr} {xs : List V} (h : H a = some (.tup xs)) {f : Bool → Prop} : isiF (.ref a) "dict" H f = f false := by
  have e : kitB "tuple" "dict" = some false := by decide +kernel
  simp only [isiF, tyS, h, e]
theorem isi_dK_int {a : Addr} {kvs : List (Key × V)} (h : H a = some (.dK kvs)) {f : Bool → Prop} : isiF (.ref a) "int" H f = f false := by
  have e : kitB "dict" "int" = some false := by decide +kernel
  simp only [isiF, tyS, h, e]
theorem isi_dK_bool {a : Addr} {kvs : List (Key × V)} (h : H a = some (.dK kvs)) {f : Bool → Prop} : isiF (.ref a) "bool" H f = f false := by
  have e : kitB "dict" "bool" = some false := by decide +kernel
  simp only [isiF, tyS, h, e]
theorem isi_dK_str {a : Addr} {kvs : List (Key × V)} (h : H a = some (.dK kvs)) {f : Bool → Prop} : isiF (.ref a) "str" H f = f false := by
  have e : kitB "dict" "str" = some false := by decide +kernel
  simp only [isiF, tyS, h, e]
theorem isi_dK_tuple {a : Addr} {kvs : List (Key × V)} (h : H a = some (.dK kvs)) {f : Bool → Prop} : isiF (.ref a) "tuple" H f = f false := by
  have e : kitB "dict" "tuple" = some false := by decide +kernel
  simp only [isiF, tyS, h, e]
theorem isi_dK_list {a : Addr} {kvs : List (Key × V)} (h : H a = some (.dK kvs)) {f : Bool → Prop} : isiF (.ref a) "list" H f = f false := by
  have e : kitB "dict" "list" = some false := by decide +kernel
  simp only [isiF, tyS, h, e]
theorem isi_dK_dict {a : Addr} {kvs : List (Key × V)} (h : H a = some (.dK kvs)) {f : Bool → Prop} : isiF (.ref a) "dict" H f = f true := by
  have e : kitB "dict" "dict" = some true := by decide +kernel
  simp only [isiF, tyS, h, e]

/-! loops -/
def forGo (J : It) (g : TG) (tb : TS) (D : Ends) (σ : L2.St) (H : Hp) : Prop := ∃ W : Nat → Nat → L2.St → Hp → Prop, (∃ m, W 0 m σ H) ∧ ∀ i m σ H, W i m σ H →
  (J.stop i H ∧ D.nx σ H) ∨ (J.go i H ∧ ∃ N : L2.St → Hp → Prop, (∀ σ' H', N σ' H' → ∃ m', m' < m ∧ W (i + 1) m' σ' H') ∧ ∀ x H', J.yld i H x H' → g x σ H' fun σ2 H2 => tb { D with nx := N, ct := N, bk := D.nx } σ2 H2)
theorem rd_for {wi : TI} {g : TG} {tb : TS} : tFor wi g tb D σ H = wi σ H fun J H1 => forGo J g tb D σ H1 := rfl
def isR1 (vs : List V) (f : Int → Prop) : Prop := match vs with | [.int j] => f j | _ => False
theorem rd_isR1 {j : Int} {f : Int → Prop} : isR1 [.int j] f = f j := rfl
theorem rd_rng1 {tr : TA} {R : It → Hp → Prop} : iRng1 tr σ H R = tr σ H fun vs H1 => isR1 vs fun j => (-(2 ^ 62) ≤ j ∧ j < 2 ^ 62) ∧ R (Itr 0 j.toNat) H1 := by
  unfold iRng1
  apply congrArg
  funext vs H1
  apply propext
  constructor
  · rintro ⟨j, rfl, h1, h2, r⟩; exact ⟨⟨h1, h2⟩, r⟩
  · intro h
    unfold isR1 at h
    split at h
    · rename_i j
      exact ⟨j, rfl, h.1.1, h.1.2, h.2⟩
    · exact h.elim
def isR2 (vs : List V) (f : Int → Int → Prop) : Prop := match vs with | [.int i, .int j] => f i j | _ => False
theorem rd_isR2 {i j : Int} {f : Int → Int → Prop} : isR2 [.int i, .int j] f = f i j := rfl
theorem rd_rng2 {tr : TA} {R : It → Hp → Prop} : iRng2 tr σ H R = tr σ H fun vs H1 => isR2 vs fun i j => (-(2 ^ 62) ≤ i ∧ i < 2 ^ 62 ∧ -(2 ^ 62) ≤ j ∧ j < 2 ^ 62) ∧ R (Itr i (j - i).toNat) H1 := by
  unfold iRng2
  apply congrArg
  funext vs H1
  apply propext
  constructor
  · rintro ⟨i, j, rfl, h1, r⟩; exact ⟨h1, r⟩
  · intro h
    unfold isR2 at h
    split at h
    · rename_i i j
      exact ⟨i, j, rfl, h.1, h.2⟩
    · exact h.elim
def isRef (x : V) (f : Addr → Prop) : Prop := match x with | .ref a => f a | _ => False
theorem rd_isRef {a : Addr} {f : Addr → Prop} : isRef (.ref a) f = f a := rfl
theorem isRef_eq {x : V} {f : Addr → Prop} : (∃ a, x = .ref a ∧ f a) = isRef x f := by
  apply propext
  constructor
  · rintro ⟨a, rfl, h⟩; exact h
  · intro h
    cases x with
    | ref a => exact ⟨a, rfl, h⟩
    | _ => exact h.elim
theorem rd_iList {R : It → Hp → Prop} : iList K te σ H R = te σ H fun x H1 => isRef x fun a => (∃ xs, SqL K H1 a xs) ∧ R (Itl K a) H1 := by
  unfold iList
  simp only [isRef_eq]
theorem rd_iTup {R : It → Hp → Prop} : iTup K te σ H R = te σ H fun x H1 => isRef x fun a => (∃ xs, SqT K H1 a xs) ∧ R (Itt K a) H1 := by
  unfold iTup
  simp only [isRef_eq]
def isStr (x : V) (f : Str → Prop) : Prop := match x with | .str a => f a | _ => False
theorem rd_isStr {a : Str} {f : Str → Prop} : isStr (.str a) f = f a := rfl
theorem isStr_eq {x : V} {f : Str → Prop} : (∃ a, x = .str a ∧ f a) = isStr x f := by
  apply propext
  constructor
  · rintro ⟨a, rfl, h⟩; exact h
  · intro h
    cases x with
    | str a => exact ⟨a, rfl, h⟩
    | _ => exact h.elim
theorem rd_iStr {R : It → Hp → Prop} : iStr te σ H R = te σ H fun x H1 => isStr x fun z => R (Its z) H1 := by
  unfold iStr
  simp only [isStr_eq]
theorem go_it {J : It} {n : Nat} {G : Hp → Prop} {Y : Nat → Hp → V → Hp → Prop} (w : L2.Walk J n G Y) {g : TG} {tb : TS} (Pv : Nat → L2.St → Hp → Prop) (h0 : Pv 0 σ H) (hG : ∀ i σ H, i ≤ n → Pv i σ H → G H)
    (hs : ∀ (N : L2.St → Hp → Prop) i x σ H H', i < n → Pv i σ H → Y i H x H' → (∀ σ' H', Pv (i + 1) σ' H' → N σ' H') → g x σ H' fun σ2 H2 => tb { D with nx := N, ct := N, bk := D.nx } σ2 H2) (hd : ∀ σ H, Pv n σ H → D.nx σ H) : forGo J g tb D σ H :=
  L2.for_it w Pv h0 hG (fun i x σ H H' h1 h2 h3 => hs _ i x σ H H' h1 h2 h3 fun _ _ z => z) hd
theorem go_range {lo : Int} {n : Nat} {g : TG} {tb : TS} (Pv : Nat → L2.St → Hp → Prop) (h0 : Pv 0 σ H)
    (hs : ∀ (N : L2.St → Hp → Prop) (i : Nat) σ H, i < n → Pv i σ H → (∀ σ' H', Pv (i + 1) σ' H' → N σ' H') → g (.int (lo + i)) σ H fun σ2 H2 => tb { D with nx := N, ct := N, bk := D.nx } σ2 H2) (hd : ∀ σ H, Pv n σ H → D.nx σ H) : forGo (Itr lo n) g tb D σ H :=
  for_range Pv h0 (fun i σ H h1 h2 => hs _ i σ H h1 h2 fun _ _ z => z) hd
theorem go_list {a : Addr} {xs : List V} {g : TG} {tb : TS} (Pv : Nat → L2.St → Hp → Prop) (h0 : Pv 0 σ H) (hl : ∀ i σ H, i ≤ xs.length → Pv i σ H → SqL K H a xs)
    (hs : ∀ (N : L2.St → Hp → Prop) i x σ H, xs[i]? = some x → Pv i σ H → (∀ σ' H', Pv (i + 1) σ' H' → N σ' H') → g x σ H fun σ2 H2 => tb { D with nx := N, ct := N, bk := D.nx } σ2 H2) (hd : ∀ σ H, Pv xs.length σ H → D.nx σ H) : forGo (Itl K a) g tb D σ H :=
  for_list Pv h0 hl (fun i x σ H h1 h2 => hs _ i x σ H h1 h2 fun _ _ z => z) hd
theorem go_tup {a : Addr} {xs : List V} {g : TG} {tb : TS} (Pv : Nat → L2.St → Hp → Prop) (h0 : Pv 0 σ H) (hl : ∀ i σ H, i ≤ xs.length → Pv i σ H → SqT K H a xs)
    (hs : ∀ (N : L2.St → Hp → Prop) i x σ H, xs[i]? = some x → Pv i σ H → (∀ σ' H', Pv (i + 1) σ' H' → N σ' H') → g x σ H fun σ2 H2 => tb { D with nx := N, ct := N, bk := D.nx } σ2 H2) (hd : ∀ σ H, Pv xs.length σ H → D.nx σ H) : forGo (Itt K a) g tb D σ H :=
  for_tup Pv h0 hl (fun i x σ H h1 h2 => hs _ i x σ H h1 h2 fun _ _ z => z) hd
/-! sequences -/
/-- p is new at H -/
def Fresh (H : Hp) (p : Addr) : Prop := H p = none
theorem Fresh.ne {H : Hp} {p a : Addr} {o : HO} (f : Fresh H p) (h : H a = some o) : a ≠ p := ne_of_none h f
theorem rd_lst {tr : TA} : tLst tr σ H Q = tr σ H fun xs H1 => xs.length ≤ sizeLine ∧ ∀ p, Fresh H1 p → Q (.ref p) (upd H1 p (.lst xs)) := rfl
theorem rd_tup {tr : TA} : tTup tr σ H Q = tr σ H fun xs H1 => xs.length ≤ sizeLine ∧ ∀ p, Fresh H1 p → Q (.ref p) (upd H1 p (.tup xs)) := rfl
theorem rd_cat {l b : Addr} : rCat (.ref l) (.ref b) H Q = ∃ xs zs, H l = some (.lst xs) ∧ H b = some (.lst zs) ∧ xs.length + zs.length ≤ sizeLine ∧ ∀ p, Fresh H p → Q (.ref p) (upd H p (.lst (xs ++ zs))) := by
  unfold rCat
  apply propext
  constructor
  · rintro ⟨l', b', xs, zs, e1, e2, q⟩; cases e1; cases e2; exact ⟨xs, zs, q⟩
  · rintro ⟨xs, zs, q⟩; exact ⟨l, b, xs, zs, rfl, rfl, q⟩
theorem rd_ixL {p : Addr} {i : Int} : rIxL K (.ref p) (.int i) H Q = ∃ xs v, SqL K H p xs ∧ atI xs i = some v ∧ Q v H := by
  unfold rIxL
  apply propext
  constructor
  · rintro ⟨p', xs, i', v, e1, e2, q⟩; cases e1; cases e2; exact ⟨xs, v, q⟩
  · rintro ⟨xs, v, q⟩; exact ⟨p, xs, i, v, rfl, rfl, q⟩
theorem rd_sl {r : V → Option Int → Option Int → Hp → VK → Prop} {tl th : TO} : tSl r te tl th σ H Q = te σ H fun x H1 => tl σ H1 fun l H2 => th σ H2 fun u H3 => r x l u H3 Q := rfl
theorem rd_noPart {R : Option Int → Hp → Prop} : tNoPart σ H R = R none H := rfl
def isInt (x : V) (f : Int → Prop) : Prop := match x with | .int a => f a | _ => False
theorem rd_isInt {a : Int} {f : Int → Prop} : isInt (.int a) f = f a := rfl
theorem isInt_eq {x : V} {f : Int → Prop} : (∃ a, x = .int a ∧ f a) = isInt x f := by
  apply propext
  constructor
  · rintro ⟨a, rfl, h⟩; exact h
  · intro h
    cases x with
    | int a => exact ⟨a, rfl, h⟩
    | _ => exact h.elim
theorem rd_part {R : Option Int → Hp → Prop} : tPart te σ H R = te σ H fun x H1 => isInt x fun i => R (some i) H1 := by
  unfold tPart
  simp only [isInt_eq]
theorem rd_slL {a : Addr} {lo hi : Option Int} : rSlL K (.ref a) lo hi H Q = ∃ xs, SqL K H a xs ∧ ∀ p, Fresh H p → Q (.ref p) (upd H p (.lst (cutV xs lo hi))) := by
  unfold rSlL
  apply propext
  constructor
  · rintro ⟨a', xs, e1, q⟩; cases e1; exact ⟨xs, q⟩
  · rintro ⟨xs, q⟩; exact ⟨a, xs, rfl, q⟩
def rLen (K : PySem.W.Frag) : List V → Hp → VK → Prop := fun xs H Q => ∃ p ys, xs = [.ref p] ∧ (SqL K H p ys ∨ SqT K H p ys) ∧ Q (.int ys.length) H
theorem call_lenq {X : Cx} : CallR X (.builtin "len") (rLen X.K) := call_len_seq
theorem rd_len {p : Addr} : rLen K [.ref p] H Q = ∃ ys, (SqL K H p ys ∨ SqT K H p ys) ∧ Q (.int ys.length) H := by
  unfold rLen
  apply propext
  constructor
  · rintro ⟨p', ys, e, q⟩; cases e; exact ⟨ys, q⟩
  · rintro ⟨ys, q⟩; exact ⟨p, ys, rfl, q⟩
/-! promises -/
def spI1 (Pre : Int → Prop) (f : Int → V) : Sp := fun vs H Q _ => ∃ a, vs = [.int a] ∧ Pre a ∧ Q (f a) H
def spI2 (Pre : Int → Int → Prop) (f : Int → Int → V) : Sp := fun vs H Q _ => ∃ a b, vs = [.int a, .int b] ∧ Pre a b ∧ Q (f a b) H
def spI3 (Pre : Int → Int → Int → Prop) (f : Int → Int → Int → V) : Sp := fun vs H Q _ => ∃ a b c, vs = [.int a, .int b, .int c] ∧ Pre a b c ∧ Q (f a b c) H
def spI4 (Pre : Int → Int → Int → Int → Prop) (f : Int → Int → Int → Int → V) : Sp := fun vs H Q _ => ∃ a b c d, vs = [.int a, .int b, .int c, .int d] ∧ Pre a b c d ∧ Q (f a b c d) H
variable {E : XK}
theorem rd_spI1 {Pre : Int → Prop} {f : Int → V} {a : Int} : spI1 Pre f [.int a] H Q E = (Pre a ∧ Q (f a) H) := by
  unfold spI1
  apply propext
  constructor
  · rintro ⟨a', e, q⟩; cases e; exact q
  · intro q; exact ⟨a, rfl, q⟩
theorem rd_spI2 {Pre : Int → Int → Prop} {f : Int → Int → V} {a b : Int} : spI2 Pre f [.int a, .int b] H Q E = (Pre a b ∧ Q (f a b) H) := by
  unfold spI2
  apply propext
  constructor
  · rintro ⟨a', b', e, q⟩; cases e; exact q
  · intro q; exact ⟨a, b, rfl, q⟩
theorem rd_spI3 {Pre : Int → Int → Int → Prop} {f : Int → Int → Int → V} {a b c : Int} : spI3 Pre f [.int a, .int b, .int c] H Q E = (Pre a b c ∧ Q (f a b c) H) := by
  unfold spI3
  apply propext
  constructor
  · rintro ⟨a', b', c', e, q⟩; cases e; exact q
  · intro q; exact ⟨a, b, c, rfl, q⟩
theorem rd_spI4 {Pre : Int → Int → Int → Int → Prop} {f : Int → Int → Int → Int → V} {a b c d : Int} : spI4 Pre f [.int a, .int b, .int c, .int d] H Q E = (Pre a b c d ∧ Q (f a b c d) H) := by
  unfold spI4
  apply propext
  constructor
  · rintro ⟨a', b', c', d', e, q⟩; cases e; exact q
  · intro q; exact ⟨a, b, c, d, rfl, q⟩
/-- a scalar: whether it is an int and no truth -/
def wholeV : V → Bool
  | .int _ => true
  | _ => false
def scalV : V → Bool
  | .int _ => true
  | .bl _ => true
  | .non => true
  | .str _ => true
  | _ => false
/-- a value whose kind is known -/
def thing (H : Hp) : V → Prop
  | .int _ => True
  | .bl _ => True
  | .non => True
  | .str _ => True
  | .ref a => (∃ xs, H a = some (.tup xs)) ∨ (∃ xs, H a = some (.lst xs)) ∨ ∃ xs, H a = some (.dK xs)
  | _ => False
def spWhole : Sp := fun vs H Q _ => ∃ x, vs = [x] ∧ thing H x ∧ Q (.bl (wholeV x)) H
theorem rd_whole {i : Int} : spWhole [.int i] H Q E = Q (.bl true) H := by
  unfold spWhole
  apply propext
  constructor
  · rintro ⟨x, e, _, q⟩; cases e; exact q
  · intro q; exact ⟨_, rfl, trivial, q⟩
/-- the law's own: a list of at most 63 ints, True -/
def spLaw (K : PySem.W.Frag) : Sp := fun vs H Q _ => ∃ (a : Addr) (ns : List Int), vs = [.ref a] ∧ SqL K H a (ns.map V.int) ∧ ns.length ≤ 63 ∧ ∀ H', Q (.bl true) H'
end
theorem len_spI1 {Pre : Int → Prop} {f : Int → V} {vs H Q E} (h : spI1 Pre f vs H Q E) : vs.length = 1 := by obtain ⟨_, rfl, _⟩ := h; rfl
theorem len_spI2 {Pre : Int → Int → Prop} {f : Int → Int → V} {vs H Q E} (h : spI2 Pre f vs H Q E) : vs.length = 2 := by obtain ⟨_, _, rfl, _⟩ := h; rfl
theorem len_spI3 {Pre : Int → Int → Int → Prop} {f : Int → Int → Int → V} {vs H Q E} (h : spI3 Pre f vs H Q E) : vs.length = 3 := by obtain ⟨_, _, _, rfl, _⟩ := h; rfl
theorem len_spI4 {Pre : Int → Int → Int → Int → Prop} {f : Int → Int → Int → Int → V} {vs H Q E} (h : spI4 Pre f vs H Q E) : vs.length = 4 := by obtain ⟨_, _, _, _, rfl, _⟩ := h; rfl
theorem len_whole {vs H Q E} (h : spWhole vs H Q E) : vs.length = 1 := by obtain ⟨_, rfl, _⟩ := h; rfl
theorem len_law {K : PySem.W.Frag} {vs H Q E} (h : spLaw K vs H Q E) : vs.length = 1 := by obtain ⟨_, _, rfl, _⟩ := h; rfl
theorem st_nil : L2.start [] [] = [] := rfl
theorem st_arg {x : Str} {N : List Str} {v : V} {vs : List V} : L2.start (x :: N) (v :: vs) = some v :: L2.start N vs := by
  unfold L2.start
  simp
theorem st_none {x : Str} {N : List Str} : L2.start (x :: N) [] = none :: L2.start N [] := by
  unfold L2.start
  simp [List.replicate_succ]
theorem cxK {CX : CXT} {P : Program} {w : World} {K : PySem.W.Frag} {mg : Str → Option Value} {base : Heap} {N : List Str} {qual : Str} {scope : Scope} {f : Addr} {cd : Value} {A : Around} {outer : List Env} {s : Shared} {H : Hp} {E : XK} :
    (cxOf CX P w K mg base N qual scope f cd A outer s H E).K = K := rfl
/-- a new object leaves what stood before -/
theorem Same_upd {H0 H : Hp} {p : Addr} {o : HO} (s : Same H0 H) (f : Fresh H p) : Same H0 (upd H p o) := fun b u e => by
  have e' := s b u e
  rw [upd_ne (f.ne e')]
  exact e'
theorem Same_fresh {H0 H : Hp} {p : Addr} (s : Same H0 H) (f : Fresh H p) : Fresh H0 p := s.free f
theorem Same_upd0 {H0 H : Hp} {p : Addr} {o : HO} (s : Same H0 H) (f : Fresh H0 p) : Same H0 (upd H p o) := fun b u e => by
  rw [upd_ne (f.ne e)]
  exact s b u e
/-- the items of a list of ints -/
theorem ints_at {ns : List Int} {i : Nat} {y : V} (h : (ns.map V.int)[i]? = some y) : ∃ n, ns[i]? = some n ∧ y = .int n := by
  rw [List.getElem?_map] at h
  cases e : ns[i]? with
  | none => rw [e] at h; cases h
  | some n => rw [e] at h; exact ⟨n, rfl, (Option.some.inj h).symm⟩
theorem cut_len (xs : List V) (lo hi : Option Int) : (cutV xs lo hi).length ≤ xs.length := cutV_length xs lo hi
theorem cut_map (ns : List Int) (lo hi : Option Int) : ∃ ms : List Int, cutV (ns.map V.int) lo hi = ms.map V.int ∧ ms.length ≤ ns.length := by
  unfold cutV
  rw [← List.map_drop, ← List.map_take]
  exact ⟨_, rfl, by rw [List.length_take, List.length_drop]; omega⟩
/-- the item of a list of ints at a place in bounds -/
def getI (xs : List Int) (i : Int) : Int := xs.getD i.toNat 0
theorem at_int {xs : List Int} {i : Int} (h0 : 0 ≤ i) (h1 : i < xs.length) : atI (xs.map V.int) i = some (.int (getI xs i)) := by
  obtain ⟨j, rfl⟩ : ∃ j : Nat, i = (j : Int) := ⟨i.toNat, by omega⟩
  have hj : j < xs.length := by omega
  refine atI_nat ?_
  rw [List.getElem?_map, List.getElem?_eq_getElem hj]
  show some (V.int xs[j]) = some (V.int (xs.getD j 0))
  rw [List.getD_eq_getElem?_getD, List.getElem?_eq_getElem hj]
  rfl
theorem iteN {c A B : Prop} [Decidable c] (h : ¬ c) (q : B) : if c then A else B := by rw [if_neg h]; exact q
theorem iteP {c A B : Prop} [Decidable c] (h : c) (q : A) : if c then A else B := by rw [if_pos h]; exact q
theorem tyL {K : PySem.W.Frag} {H : Hp} {l : Addr} {xs : List V} (h : H l = some (.lst xs)) : tyV K "list" (.ref l) H := Or.inl ⟨rfl, _, SqL.of h⟩
theorem rd_BM {K : PySem.W.Frag} {T : String} {r : V → List V → Hp → VK → Prop} {to : TE} {t : TA} {σ : L2.St} {H : Hp} {Q : VK} : tBM K T r to t σ H Q = to σ H fun x H1 => tyV K T x H1 ∧ t σ H1 fun xs H2 => r x xs H2 Q := rfl
theorem rd_BM0 {K : PySem.W.Frag} {T : String} {r : V → List V → Hp → VK → Prop} {to : TE} {σ : L2.St} {H : Hp} {Q : VK} : tBM0 K T r to σ H Q = to σ H fun x H1 => tyV K T x H1 ∧ r x [] H1 Q := rfl
theorem rd_append {l : Addr} {y : V} {H : Hp} {Q : VK} : rAppend (.ref l) [y] H Q = ∃ xs, H l = some (.lst xs) ∧ xs.length < sizeLine ∧ Q .non (upd H l (.lst (xs ++ [y]))) := by
  unfold rAppend
  apply propext
  constructor
  · rintro ⟨l', xs, y', e1, e2, q⟩; cases e1; cases e2; exact ⟨xs, q⟩
  · rintro ⟨xs, q⟩; exact ⟨l, xs, y, rfl, rfl, q⟩
theorem rd_rep {l : Addr} {k : Int} {H : Hp} {Q : VK} : rRep (.ref l) (.int k) H Q = ∃ xs, H l = some (.lst xs) ∧ -(2 ^ 63) ≤ k ∧ k < 2 ^ 63 ∧ xs.length * k.toNat ≤ sizeLine ∧ ∀ p, Fresh H p → Q (.ref p) (upd H p (.lst (List.replicate k.toNat xs).flatten)) := by
  unfold rRep
  apply propext
  constructor
  · rintro ⟨l', k', xs, e1, e2, q⟩; cases e1; cases e2; exact ⟨xs, q⟩
  · rintro ⟨xs, q⟩; exact ⟨l, k, xs, rfl, rfl, q⟩
theorem rd_gSub {to ti : TE} {t : TSet} {v : V} {σ : L2.St} {H : Hp} {R : L2.St → Hp → Prop} : gSub to ti t v σ H R = to σ H fun o H1 => ti σ H1 fun i H2 => t o i v H2 fun H3 => R σ H3 := rfl
theorem rd_setL {p : Addr} {k : Int} {v : V} {H : Hp} {R : Hp → Prop} : rSetL (.ref p) (.int k) v H R = ∃ xs j, H p = some (.lst xs) ∧ ixN xs.length k = some j ∧ R (upd H p (.lst (xs.set j v))) := by
  unfold rSetL
  apply propext
  constructor
  · rintro ⟨p', xs, k', j, e1, e2, q⟩; cases e1; cases e2; exact ⟨xs, j, q⟩
  · rintro ⟨xs, j, q⟩; exact ⟨p, xs, k, j, rfl, rfl, q⟩
theorem ixN_nat {n : Nat} {k : Int} (h0 : 0 ≤ k) (h1 : k < n) : ixN n k = some k.toNat := by
  unfold ixN
  rw [if_pos h0, if_pos (by omega)]
/-! lists of ints compared -/
theorem DpAll_ints {K : PySem.W.Frag} {H : Hp} : ∀ xs : List Int, DpAll K H (xs.map V.int) (xs.map PyData.int)
  | [] => .nil
  | x :: xs => .cons (.int x) (DpAll_ints xs)
theorem eqvAll_ints : ∀ xs ys : List Int, PyData.eqvAll (xs.map PyData.int) (ys.map PyData.int) = decide (xs = ys)
  | [], [] => by simp [PyData.eqvAll]
  | [], _ :: _ => by simp [PyData.eqvAll]
  | _ :: _, [] => by simp [PyData.eqvAll]
  | x :: xs, y :: ys => by
    show (PyData.eqv (.int x) (.int y) && PyData.eqvAll (xs.map PyData.int) (ys.map PyData.int)) = _
    rw [eqvAll_ints xs ys, PyData.eqv]
    by_cases h : x = y
    · subst h
      by_cases h2 : xs = ys
      · simp [h2]
      · simp [h2]
    · simp [h]
theorem canLay_ints : ∀ xs : List Int, PyData.canLayAll0 (xs.map PyData.int) = true
  | [] => by simp [PyData.canLayAll0]
  | x :: xs => by
    show (PyData.canLay0 (.int x) && PyData.canLayAll0 (xs.map PyData.int)) = true
    rw [canLay_ints xs, PyData.canLay0]
    rfl
theorem depth_ints : ∀ xs : List Int, PyData.depthAll (xs.map PyData.int) = 0
  | [] => by simp [PyData.depthAll]
  | x :: xs => by
    show max (PyData.depth (.int x)) (PyData.depthAll (xs.map PyData.int)) = 0
    rw [depth_ints xs, PyData.depth]
    rfl
theorem shaped_ints (xs : List Int) : SeqAt.shaped (.list (xs.map PyData.int)) = true := by
  unfold SeqAt.shaped
  rw [PyData.canLay0, canLay_ints, PyData.depth, depth_ints]
  decide
theorem eq_ints {K : PySem.W.Frag} {H : Hp} {a b : Addr} {xs ys : List Int} {Q : VK} (ha : SqL K H a (xs.map V.int)) (hb : SqL K H b (ys.map V.int)) (q : Q (.bl (decide (xs = ys))) H) : rEqD K (.ref a) (.ref b) H Q :=
  ⟨.list (xs.map PyData.int), .list (ys.map PyData.int), .lst ha (DpAll_ints xs), .lst hb (DpAll_ints ys), shaped_ints xs, shaped_ints ys, by rw [PyData.eqv, eqvAll_ints]; exact q⟩
/-- a cell of the script -/
def spCell (K : PySem.W.Frag) : Sp := fun vs H Q _ => ∃ (a : Addr) (ns : List Int) (i : Int), vs = [.ref a, .int i] ∧ SqL K H a (ns.map V.int) ∧ 0 ≤ i ∧ Q (.int (getI ns i)) H
theorem rd_spCell {K : PySem.W.Frag} {a : Addr} {i : Int} {H : Hp} {Q : VK} {E : XK} : spCell K [.ref a, .int i] H Q E = ∃ ns : List Int, SqL K H a (ns.map V.int) ∧ 0 ≤ i ∧ Q (.int (getI ns i)) H := by
  unfold spCell
  apply propext
  constructor
  · rintro ⟨a', ns, i', e, q⟩; cases e; exact ⟨ns, q⟩
  · rintro ⟨ns, q⟩; exact ⟨a, ns, i, rfl, q⟩
theorem len_cell {K : PySem.W.Frag} {vs H Q E} (h : spCell K vs H Q E) : vs.length = 2 := by obtain ⟨_, _, _, rfl, _⟩ := h; rfl
/-- a new list of ints by two ints -/
def spNew2 (Pre : Int → Int → Prop) (f : Int → Int → List Int) : Sp := fun vs H Q _ => ∃ m s, vs = [.int m, .int s] ∧ Pre m s ∧ ∀ p H', Same H H' → Fresh H p → H' p = some (.lst ((f m s).map V.int)) → Q (.ref p) H'
theorem rd_spNew2 {Pre : Int → Int → Prop} {f : Int → Int → List Int} {m s : Int} {H : Hp} {Q : VK} {E : XK} : spNew2 Pre f [.int m, .int s] H Q E = (Pre m s ∧ ∀ p H', Same H H' → Fresh H p → H' p = some (.lst ((f m s).map V.int)) → Q (.ref p) H') := by
  unfold spNew2
  apply propext
  constructor
  · rintro ⟨m', s', e, q⟩; cases e; exact q
  · intro q; exact ⟨m, s, rfl, q⟩
theorem len_new2 {Pre : Int → Int → Prop} {f : Int → Int → List Int} {vs H Q E} (h : spNew2 Pre f vs H Q E) : vs.length = 2 := by obtain ⟨_, _, rfl, _⟩ := h; rfl
theorem both {A B : Prop} (a : A) (b : B) : A ∧ B := ⟨a, b⟩
theorem iteB {c A B : Prop} [Decidable c] (h1 : c → A) (h2 : ¬ c → B) : if c then A else B := ite2 h1 h2
/-- // by a divisor of at most 4000 bits -/
theorem divB {i j : Int} (h : 0 < j) (hb : j < 2 ^ 200) : CDivW i j := wide_div (b := 201) h (by
  have e : (2 : Int) ^ 200 = ((2 ^ 200 : Nat) : Int) := by decide +kernel
  have e2 : (2 : Nat) ^ 200 ≤ 2 ^ 201 := by decide +kernel
  omega) (by decide) (by decide)
/-- any int -/
def spAny1 (Post : Int → V → Prop) : Sp := fun vs H Q _ => ∃ a, vs = [.int a] ∧ ∀ v, Post a v → Q v H
theorem rd_spAny1 {Post : Int → V → Prop} {a : Int} {H : Hp} {Q : VK} {E : XK} : spAny1 Post [.int a] H Q E = ∀ v, Post a v → Q v H := by
  unfold spAny1
  apply propext
  constructor
  · rintro ⟨a', e, q⟩; cases e; exact q
  · intro q; exact ⟨a, rfl, q⟩
theorem len_any1 {Post : Int → V → Prop} {vs H Q E} (h : spAny1 Post vs H Q E) : vs.length = 1 := by obtain ⟨_, rfl, _⟩ := h; rfl
theorem go_while {c : TT} {tb : TS} {D : Ends} {σ : L2.St} {H : Hp} (Pv : L2.St → Hp → Prop) (μ : L2.St → Hp → Nat) (h0 : Pv σ H)
    (hs : ∀ (B : Hp → Prop) σ H, Pv σ H → (∀ H1, (∀ N : L2.St → Hp → Prop, (∀ σ' H', Pv σ' H' → μ σ' H' < μ σ H → N σ' H') → tb { D with nx := N, ct := N, bk := D.nx } σ H1) → B H1) →
      c σ H fun b H1 => if b = true then B H1 else D.nx σ H1) : tWhile c tb D σ H := by
  refine ⟨fun m σ H => m = μ σ H ∧ Pv σ H, ⟨_, rfl, h0⟩, ?_⟩
  rintro m σ H ⟨rfl, p⟩
  refine hs (fun H1 => ∃ N : L2.St → Hp → Prop, (∀ σ' H', N σ' H' → ∃ m', m' < μ σ H ∧ m' = μ σ' H' ∧ Pv σ' H') ∧ tb { D with nx := N, ct := N, bk := D.nx } σ H1) σ H p fun H1 h => ?_
  exact ⟨fun σ' H' => Pv σ' H' ∧ μ σ' H' < μ σ H, fun σ' H' ⟨p', l⟩ => ⟨_, l, rfl, p'⟩, h _ fun σ' H' p' l => ⟨p', l⟩⟩
theorem rd_dnewK {σ : L2.St} {H : Hp} {Q : VK} : tDNewK σ H Q = ∀ p, Fresh H p → Q (.ref p) (upd H p (.dK [])) := rfl
theorem rd_dsetd {td ty tx : TE} {σ : L2.St} {H : Hp} {Q : VK} : tDSetd td ty tx σ H Q = td σ H fun x H1 => isRef x fun a => IsD H1 a ∧ ty σ H1 fun y H2 => tx σ H2 fun z H3 => ∃ (kvs : List (Key × V)) (k : Key), H3 a = some (.dK kvs) ∧ y = kV k ∧ kvs.length < sizeLine ∧
  (∀ v, valV kvs k = some v → Q v H3) ∧ (valV kvs k = none → Q z (upd H3 a (.dK (putK kvs k z)))) := by
  unfold tDSetd
  simp only [isRef_eq]
theorem exSq {K : PySem.W.Frag} {H : Hp} {a : Addr} {ms : List Int} {R : List Int → Prop} (h : SqL K H a (ms.map V.int)) (q : R ms) : ∃ ns : List Int, SqL K H a (ns.map V.int) ∧ R ns := ⟨ms, h, q⟩
theorem exSqV {K : PySem.W.Frag} {H : Hp} {a : Addr} {ms : List V} {R : List V → Prop} (h : SqL K H a ms) (q : R ms) : ∃ ns : List V, SqL K H a ns ∧ R ns := ⟨ms, h, q⟩
def rMax2 : List V → Hp → VK → Prop := fun xs H Q => ∃ i j, xs = [.int i, .int j] ∧ Q (.int (if j > i then j else i)) H
def rMin2 : List V → Hp → VK → Prop := fun xs H Q => ∃ i j, xs = [.int i, .int j] ∧ Q (.int (if j < i then j else i)) H
theorem call_max2q {X : Cx} (hc : X.calm = true) : CallR X (.builtin "max") rMax2 := call_max2 hc
theorem call_min2q {X : Cx} (hc : X.calm = true) : CallR X (.builtin "min") rMin2 := call_min2 hc
theorem rd_max2 {i j : Int} {H : Hp} {Q : VK} : rMax2 [.int i, .int j] H Q = Q (.int (if j > i then j else i)) H := by
  unfold rMax2
  apply propext
  constructor
  · rintro ⟨i', j', e, q⟩; cases e; exact q
  · intro q; exact ⟨i, j, rfl, q⟩
theorem rd_min2 {i j : Int} {H : Hp} {Q : VK} : rMin2 [.int i, .int j] H Q = Q (.int (if j < i then j else i)) H := by
  unfold rMin2
  apply propext
  constructor
  · rintro ⟨i', j', e, q⟩; cases e; exact q
  · intro q; exact ⟨i, j, rfl, q⟩
/-- len of a text, a list, a tuple -/
def rLenU (K : PySem.W.Frag) : List V → Hp → VK → Prop := fun xs H Q => (∃ z : Str, xs = [.str z] ∧ z.length ≤ sizeLine ∧ Q (.int z.length) H) ∨ rLen K xs H Q
theorem call_lenU {X : Cx} : CallR X (.builtin "len") (rLenU X.K) := by
  intro pins s σ H xs us Q I r h
  rcases h with h | h
  · exact call_len_str pins s σ H xs us Q I r h
  · exact call_len_seq pins s σ H xs us Q I r h
theorem rd_lenU_str {K : PySem.W.Frag} {z : Str} {H : Hp} {Q : VK} : rLenU K [.str z] H Q = (z.length ≤ sizeLine ∧ Q (.int z.length) H) := by
  unfold rLenU
  apply propext
  constructor
  · rintro (⟨z', e, q⟩ | ⟨p, ys, e, _⟩)
    · cases e; exact q
    · cases e
  · intro q; exact .inl ⟨z, rfl, q⟩
theorem rd_lenU_ref {K : PySem.W.Frag} {p : Addr} {H : Hp} {Q : VK} : rLenU K [.ref p] H Q = ∃ ys, (SqL K H p ys ∨ SqT K H p ys) ∧ Q (.int ys.length) H := by
  unfold rLenU
  rw [rd_len]
  apply propext
  constructor
  · rintro (⟨z', e, q⟩ | q)
    · cases e
    · exact q
  · intro q; exact .inr q
/-! further readings -/
theorem rd_lc {wi : TI} {g : TG} {tt : TT} {te : TE} {vs : List Nat} {σ : L2.St} {H : Hp} {Q : VK} : tLc wi g tt te vs σ H Q = wi σ H fun J H1 => ∀ D, Fresh H1 D → ∃ W : Nat → Nat → Hp → Prop, (∃ m, W 0 m (upd H1 D (.lst []))) ∧ ∀ i m H, W i m H →
  (J.stop i H ∧ Q (.ref D) H) ∨ (J.go i H ∧ ∃ Nx : Hp → Prop, (∀ H', Nx H' → ∃ m', m' < m ∧ W (i + 1) m' H') ∧ ∀ x H', J.yld i H x H' → g x (wipe σ vs) H' fun σ2 H2 => wipe σ2 vs = wipe σ vs ∧ tt σ2 H2 fun b H3 =>
    if b = true then te σ2 H3 fun y H4 => ∃ acc, H4 D = some (.lst acc) ∧ acc.length < sizeLine ∧ Nx (upd H4 D (.lst (acc ++ [y]))) else Nx H3) := rfl
def lcGo (J : It) (g : TG) (tt : TT) (te : TE) (vs : List Nat) (σ : L2.St) (H1 : Hp) (D : Addr) (Qd : Hp → Prop) : Prop := ∃ W : Nat → Nat → Hp → Prop, (∃ m, W 0 m (upd H1 D (.lst []))) ∧ ∀ i m H, W i m H →
  (J.stop i H ∧ Qd H) ∨ (J.go i H ∧ ∃ Nx : Hp → Prop, (∀ H', Nx H' → ∃ m', m' < m ∧ W (i + 1) m' H') ∧ ∀ x H', J.yld i H x H' → g x (wipe σ vs) H' fun σ2 H2 => wipe σ2 vs = wipe σ vs ∧ tt σ2 H2 fun b H3 =>
    if b = true then te σ2 H3 fun y H4 => ∃ acc, H4 D = some (.lst acc) ∧ acc.length < sizeLine ∧ Nx (upd H4 D (.lst (acc ++ [y]))) else Nx H3)
theorem rd_lcg {wi : TI} {g : TG} {tt : TT} {te : TE} {vs : List Nat} {σ : L2.St} {H : Hp} {Q : VK} : tLc wi g tt te vs σ H Q = wi σ H fun J H1 => ∀ D, Fresh H1 D → lcGo J g tt te vs σ H1 D (fun H2 => Q (.ref D) H2) := rfl
/-- a comprehension without tests whose items are told ahead; what was tracked stays -/
theorem go_lcm {J : It} {n : Nat} {G : Hp → Prop} {Y : Nat → Hp → V → Hp → Prop} (w : L2.Walk J n G Y) {g : TG} {te : TE} {vs : List Nat} {σ : L2.St} {H1 : Hp} {D : Addr} {Qd : Hp → Prop} (ys : List V) (hn : ys.length = n) (hz : n ≤ sizeLine) (hD : Fresh H1 D)
    (hG : ∀ H, Same H1 H → G H)
    (hs : ∀ (N : VK) i x H H', i < n → Same H1 H → Y i H x H' → (∀ y H4, ys[i]? = some y → Same H H4 → N y H4) → g x (wipe σ vs) H' fun σ2 H2 => wipe σ2 vs = wipe σ vs ∧ te σ2 H2 N)
    (hd : ∀ H, Same H1 H → H D = some (.lst ys) → Qd H) (mono : ∀ (A B : L2.St → Hp → Prop) x σ H, (∀ σ H, A σ H → B σ H) → g x σ H A → g x σ H B) : lcGo J g tYes te vs σ H1 D Qd := by
  refine lc_it w (fun i H => Same H1 H ∧ H D = some (.lst (ys.take i)) ∧ i ≤ n) ⟨Same_upd (Same.refl _) hD, by rw [upd_same, List.take_zero], Nat.zero_le _⟩ (fun i H _ h => hG H h.1) ?_ ?_
  · rintro i x H H' hi ⟨sm, hL, hin⟩ hY
    obtain ⟨y0, hy0⟩ : ∃ y, ys[i]? = some y := ⟨_, List.getElem?_eq_getElem (by omega)⟩
    refine mono _ _ _ _ _ ?_ (hs (fun y H4 => ∃ acc, H4 D = some (.lst acc) ∧ acc.length < sizeLine ∧ (Same H1 (upd H4 D (.lst (acc ++ [y]))) ∧ (upd H4 D (.lst (acc ++ [y]))) D = some (.lst (ys.take (i + 1))) ∧ i + 1 ≤ n)) i x H H' hi sm hY ?_)
    · rintro σ2 H2 ⟨e, h⟩
      refine ⟨e, ?_⟩
      unfold tYes
      dsimp only
      rw [if_pos rfl]
      exact h
    · intro y H4 hy s4
      refine ⟨ys.take i, s4 _ _ hL, by rw [List.length_take]; omega, Same_upd0 (sm.trans s4) hD, ?_, hi⟩
      rw [upd_same]
      obtain ⟨h1, h2⟩ := List.getElem?_eq_some_iff.mp hy
      rw [List.take_succ_eq_append_getElem h1, h2]
  · rintro H ⟨sm, hL, -⟩
    rw [List.take_of_length_le (by omega)] at hL
    exact hd H sm hL
theorem gName_mono {i : Nat} : ∀ (A B : L2.St → Hp → Prop) x σ H, (∀ σ H, A σ H → B σ H) → gName i x σ H A → gName i x σ H B := fun _ _ _ _ _ h q => h _ _ q
theorem rd_wipe0 {σ : L2.St} : wipe σ [] = σ := rfl
theorem rd_wipe1 {σ : L2.St} {v : Nat} {vs : List Nat} : wipe σ (v :: vs) = (wipe σ vs).set v none := rfl
def rAddT : R2 := fun x y H Q => ∃ i j, x = .str i ∧ y = .str j ∧ i.length + j.length ≤ sizeLine ∧ Q (.str (i ++ j)) H
theorem op_addT {X : Cx} : OpR X (binaryOp .Add) rAddT := op_add_str
theorem rd_addT {a b : Str} {H : Hp} {Q : VK} : rAddT (.str a) (.str b) H Q = (a.length + b.length ≤ sizeLine ∧ Q (.str (a ++ b)) H) := by
  unfold rAddT
  apply propext
  constructor
  · rintro ⟨i, j, e1, e2, q⟩; cases e1; cases e2; exact q
  · intro q; exact ⟨a, b, rfl, rfl, q⟩
theorem rd_ixS {z : Str} {i : Int} {H : Hp} {Q : VK} : rIxS (.str z) (.int i) H Q = ∃ c, z.length ≤ sizeLine ∧ atI z.cps.toList i = some c ∧ Q (.str ⟨#[c]⟩) H := by
  unfold rIxS
  apply propext
  constructor
  · rintro ⟨z', i', c, e1, e2, q⟩; cases e1; cases e2; exact ⟨c, q⟩
  · rintro ⟨c, q⟩; exact ⟨z, i, c, rfl, rfl, q⟩
theorem rd_ixT {K : PySem.W.Frag} {p : Addr} {i : Int} {H : Hp} {Q : VK} : rIxT K (.ref p) (.int i) H Q = ∃ xs v, SqT K H p xs ∧ atI xs i = some v ∧ Q v H := by
  unfold rIxT
  apply propext
  constructor
  · rintro ⟨p', xs, i', v, e1, e2, q⟩; cases e1; cases e2; exact ⟨xs, v, q⟩
  · rintro ⟨xs, v, q⟩; exact ⟨p, xs, i, v, rfl, rfl, q⟩
theorem rd_slS {z : Str} {lo hi : Option Int} {H : Hp} {Q : VK} : rSlS (.str z) lo hi H Q = (z.length ≤ sizeLine ∧ Q (.str (cutS z lo hi)) H) := by
  unfold rSlS
  apply propext
  constructor
  · rintro ⟨z', e, q⟩; cases e; exact q
  · intro q; exact ⟨z, rfl, q⟩
def rJoin (K : PySem.W.Frag) : V → List V → Hp → VK → Prop := fun x xs H Q => ∃ a p, ∃ ys : List Str, x = .str a ∧ xs = [.ref p] ∧ (SqL K H p (ys.map V.str) ∨ SqT K H p (ys.map V.str)) ∧
  (ys.map (·.length)).sum + ys.length * a.length ≤ 16777216 ∧ Q (.str (Txt.join a ys)) H
theorem mt_joinq {X : Cx} : MtR X "str.join" (rJoin X.K) := mt_join
theorem rd_M1 {r : V → List V → Hp → VK → Prop} {to te : TE} {σ : L2.St} {H : Hp} {Q : VK} : tM1 r to te σ H Q = to σ H fun x H1 => isStr x (fun _ => True) ∧ te σ H1 fun y H2 => r x [y] H2 Q := by
  unfold tM1
  apply congrArg
  funext x H1
  rw [show (∃ a, x = V.str a) = isStr x (fun _ => True) from by rw [← isStr_eq]; simp]
theorem rd_join {K : PySem.W.Frag} {a : Str} {p : Addr} {H : Hp} {Q : VK} : rJoin K (.str a) [.ref p] H Q = ∃ ys : List Str, (SqL K H p (ys.map V.str) ∨ SqT K H p (ys.map V.str)) ∧ (ys.map (·.length)).sum + ys.length * a.length ≤ 16777216 ∧ Q (.str (Txt.join a ys)) H := by
  unfold rJoin
  apply propext
  constructor
  · rintro ⟨a', p', ys, e1, e2, q⟩; cases e1; cases e2; exact ⟨ys, q⟩
  · rintro ⟨ys, q⟩; exact ⟨a, p, ys, rfl, rfl, q⟩
def rTupOf (K : PySem.W.Frag) : List V → Hp → VK → Prop := fun xs H Q => ∃ p ys, xs = [.ref p] ∧ ((SqL K H p ys ∧ ∀ l, H l = none → Q (.ref l) (upd H l (.tup ys))) ∨ (SqT K H p ys ∧ Q (.ref p) H))
theorem call_tupleq {X : Cx} : CallR X (.type "tuple") (rTupOf X.K) := call_tuple_of
theorem rd_tupOf {K : PySem.W.Frag} {p : Addr} {H : Hp} {Q : VK} : rTupOf K [.ref p] H Q = ∃ ys, ((SqL K H p ys ∧ ∀ l, Fresh H l → Q (.ref l) (upd H l (.tup ys))) ∨ (SqT K H p ys ∧ Q (.ref p) H)) := by
  unfold rTupOf
  apply propext
  constructor
  · rintro ⟨p', ys, e, q⟩; cases e; exact ⟨ys, q⟩
  · rintro ⟨ys, q⟩; exact ⟨p, ys, rfl, q⟩
def rListOf (K : PySem.W.Frag) : List V → Hp → VK → Prop := fun xs H Q => ∃ p ys, xs = [.ref p] ∧ (SqL K H p ys ∨ SqT K H p ys) ∧ ∀ l, H l = none → Q (.ref l) (upd H l (.lst ys))
theorem call_listq {X : Cx} : CallR X (.type "list") (rListOf X.K) := call_list_of
theorem rd_listOf {K : PySem.W.Frag} {p : Addr} {H : Hp} {Q : VK} : rListOf K [.ref p] H Q = ∃ ys, (SqL K H p ys ∨ SqT K H p ys) ∧ ∀ l, Fresh H l → Q (.ref l) (upd H l (.lst ys)) := by
  unfold rListOf
  apply propext
  constructor
  · rintro ⟨p', ys, e, q⟩; cases e; exact ⟨ys, q⟩
  · rintro ⟨ys, q⟩; exact ⟨p, ys, rfl, q⟩
theorem rd_gTup {K : PySem.W.Frag} {n : Nat} {t : TGs} {a : Addr} {σ : L2.St} {H : Hp} {R : L2.St → Hp → Prop} : gTup K n t (.ref a) σ H R = ∃ xs, SqT K H a xs ∧ xs.length = n ∧ t xs σ H R := by
  unfold gTup
  apply propext
  constructor
  · rintro ⟨a', xs, e, q⟩; cases e; exact ⟨xs, q⟩
  · rintro ⟨xs, q⟩; exact ⟨a, xs, rfl, q⟩
theorem rd_gCons {t : TG} {u : TGs} {v : V} {r : List V} {σ : L2.St} {H : Hp} {R : L2.St → Hp → Prop} : gCons t u (v :: r) σ H R = t v σ H fun σ' H' => u r σ' H' R := by
  unfold gCons
  apply propext
  constructor
  · rintro ⟨v', r', e, q⟩; cases e; exact q
  · intro q; exact ⟨v, r, rfl, q⟩
theorem rd_gNil {σ : L2.St} {H : Hp} {R : L2.St → Hp → Prop} : gNil [] σ H R = R σ H := by
  unfold gNil
  simp
theorem rd_isB {a b : Bool} {H : Hp} {Q : VK} : rIsB (.bl a) (.bl b) H Q = Q (.bl (decide (a = b))) H := by
  unfold rIsB
  apply propext
  constructor
  · rintro ⟨a', b', e1, e2, q⟩; cases e1; cases e2; exact q
  · intro q; exact ⟨a, b, rfl, rfl, q⟩
theorem rd_notB {a b : Bool} {H : Hp} {Q : VK} : rNotB (.bl a) (.bl b) H Q = Q (.bl (!decide (a = b))) H := by
  unfold rNotB
  apply propext
  constructor
  · rintro ⟨a', b', e1, e2, q⟩; cases e1; cases e2; exact q
  · intro q; exact ⟨a, b, rfl, rfl, q⟩
/-! texts by their code points -/
theorem S_item (c : Nat) : (⟨#[c]⟩ : Str) = SX.S [c] := rfl
theorem S_list (l : List Nat) : (SX.S l).cps.toList = l := by simp
theorem joinL_nil : ∀ ls : List (List Nat), TL.joinL [] ls = ls.flatten
  | [] => rfl
  | [p] => by simp [TL.joinL]
  | p :: q :: r => by
    rw [TL.joinL, joinL_nil (q :: r)]
    simp
theorem join_empty {e : Str} (he : e = SX.S []) (ls : List (List Nat)) : Txt.join e (ls.map SX.S) = SX.S ls.flatten := by
  rw [he, SX.join_S, joinL_nil]
theorem cut_S (l : List Nat) (lo hi : Option Int) : cutS (SX.S l) lo hi = SX.S ((l.drop (HT.sIx l.length 0 lo)).take (HT.sIx l.length l.length hi - HT.sIx l.length 0 lo)) := by
  unfold cutS
  rw [SX.S_len, S_list]
theorem lens_sum (ls : List (List Nat)) : ((ls.map SX.S).map (·.length)).sum = ls.flatten.length := by
  rw [SX.lens, List.length_flatten]
theorem own_nil : List.map (fun x : Str × Nat => x.2) [] = [] := rfl
theorem own_cons {a : Str} {n : Nat} {l : List (Str × Nat)} : List.map (fun x : Str × Nat => x.2) ((a, n) :: l) = n :: List.map (fun x : Str × Nat => x.2) l := rfl
theorem cut_hi {l : List V} {n : Int} (h0 : 0 ≤ n) : cutV l none (some n) = l.take n.toNat := by
  unfold cutV
  obtain ⟨z, rfl⟩ : ∃ z : Nat, n = (z : Int) := ⟨n.toNat, by omega⟩
  rw [HT.sIx_none, HT.sIx_nat, Int.toNat_natCast]
  simp only [List.drop_zero, Nat.sub_zero]
  by_cases h : z ≤ l.length
  · rw [Nat.min_eq_left h]
  · rw [Nat.min_eq_right (by omega), List.take_of_length_le (Nat.le_refl _), List.take_of_length_le (by omega)]
theorem cut_lo {l : List V} {n : Int} (h0 : 0 ≤ n) : cutV l (some n) none = l.drop n.toNat := by
  unfold cutV
  obtain ⟨z, rfl⟩ : ∃ z : Nat, n = (z : Int) := ⟨n.toNat, by omega⟩
  rw [HT.sIx_none, HT.sIx_nat, Int.toNat_natCast]
  by_cases h : z ≤ l.length
  · rw [Nat.min_eq_left h, List.take_of_length_le (by rw [List.length_drop]; omega)]
  · rw [Nat.min_eq_right (by omega), List.drop_of_length_le (Nat.le_refl _), List.drop_of_length_le (show l.length ≤ z by omega)]
    simp
theorem cut_span {l : List V} {a b : Int} (h0 : 0 ≤ a) (h1 : a ≤ b) : (cutV l (some a) (some b)).length ≤ (b - a).toNat := by
  unfold cutV
  obtain ⟨z, rfl⟩ : ∃ z : Nat, a = (z : Int) := ⟨a.toNat, by omega⟩
  obtain ⟨y, rfl⟩ : ∃ z : Nat, b = (z : Int) := ⟨b.toNat, by omega⟩
  rw [HT.sIx_nat, HT.sIx_nat, List.length_take, List.length_drop]
  omega
/-- a comprehension without tests; of each item a fact is known -/
theorem go_lcx {J : It} {n : Nat} {G : Hp → Prop} {Y : Nat → Hp → V → Hp → Prop} (w : L2.Walk J n G Y) {g : TG} {te : TE} {vs : List Nat} {σ : L2.St} {H1 : Hp} {D : Addr} {Qd : Hp → Prop} (F : Nat → V → Hp → Prop) (hz : n ≤ sizeLine) (hD : Fresh H1 D)
    (hG : ∀ H, Same H1 H → G H) (st : ∀ i y H H', F i y H → (∀ b o, b ≠ D → H b = some o → H' b = some o) → F i y H')
    (hs : ∀ (N : VK) i x H H', i < n → Same H1 H → Y i H x H' → (∀ y H4, Same H H4 → F i y H4 → N y H4) → g x (wipe σ vs) H' fun σ2 H2 => wipe σ2 vs = wipe σ vs ∧ te σ2 H2 N)
    (hd : ∀ H ys, Same H1 H → H D = some (.lst ys) → ys.length = n → (∀ i y, ys[i]? = some y → F i y H) → Qd H) (mono : ∀ (A B : L2.St → Hp → Prop) x σ H, (∀ σ H, A σ H → B σ H) → g x σ H A → g x σ H B) : lcGo J g tYes te vs σ H1 D Qd := by
  refine lc_it w (fun i H => Same H1 H ∧ i ≤ n ∧ ∃ ys, H D = some (.lst ys) ∧ ys.length = i ∧ ∀ j y, ys[j]? = some y → F j y H) ⟨Same_upd (Same.refl _) hD, Nat.zero_le _, [], upd_same, rfl, fun j y h => by simp at h⟩ (fun i H _ h => hG H h.1) ?_ ?_
  · rintro i x H H' hi ⟨sm, hin, ys, hL, hl, hF⟩ hY
    refine mono _ _ _ _ _ ?_ (hs (fun y H4 => ∃ acc, H4 D = some (.lst acc) ∧ acc.length < sizeLine ∧ (Same H1 (upd H4 D (.lst (acc ++ [y]))) ∧ i + 1 ≤ n ∧ ∃ zs, (upd H4 D (.lst (acc ++ [y]))) D = some (.lst zs) ∧ zs.length = i + 1 ∧ ∀ j y', zs[j]? = some y' → F j y' (upd H4 D (.lst (acc ++ [y]))))) i x H H' hi sm hY ?_)
    · rintro σ2 H2 ⟨e, h⟩
      refine ⟨e, ?_⟩
      unfold tYes
      dsimp only
      rw [if_pos rfl]
      exact h
    · intro y H4 s4 hy
      have up : ∀ b o, b ≠ D → H4 b = some o → upd H4 D (.lst (ys ++ [y])) b = some o := fun b o hb e => by rw [upd_ne hb]; exact e
      refine ⟨ys, s4 _ _ hL, by omega, Same_upd0 (sm.trans s4) hD, hi, _, upd_same, by rw [List.length_append, hl]; rfl, fun j y' h => ?_⟩
      by_cases hj : j < ys.length
      · rw [List.getElem?_append_left hj] at h
        exact st _ _ _ _ (hF j y' h) fun b o hb e => up b o hb (s4 b o e)
      · rw [List.getElem?_append_right (by omega)] at h
        have ej : j = i := by
          have h2 := (List.getElem?_eq_some_iff.mp h).1
          simp at h2
          omega
        subst ej
        rw [hl, Nat.sub_self] at h
        simp at h
        subst h
        exact st _ _ _ _ hy up
  · rintro H ⟨sm, -, ys, hL, hl, hF⟩
    exact hd H ys sm hL hl hF
end My
namespace My
open PySem PySem.Spec PyProof.Rows L2
/-- a comprehension with a test: R tells the items kept so far -/
theorem go_lcf {J : It} {n : Nat} {G : Hp → Prop} {Y : Nat → Hp → V → Hp → Prop} (w : L2.Walk J n G Y) {g : TG} {tt : TT} {te : TE} {vs : List Nat} {σ : L2.St} {H1 : Hp} {D : Addr} {Qd : Hp → Prop} (R : Nat → List V → Prop) (h0 : R 0 []) (hz : n ≤ sizeLine) (hR : ∀ i ys, R i ys → ys.length ≤ i) (hD : Fresh H1 D)
    (hG : ∀ H, Same H1 H → G H)
    (hs : ∀ (N : VK) (Z : Hp → Prop) i x ys H H', i < n → Same H1 H → R i ys → Y i H x H' → (∀ y H4, R (i + 1) (ys ++ [y]) → Same H H4 → N y H4) → (R (i + 1) ys → ∀ H4, Same H H4 → Z H4) →
      g x (wipe σ vs) H' fun σ2 H2 => wipe σ2 vs = wipe σ vs ∧ tt σ2 H2 fun b H3 => if b = true then te σ2 H3 N else Z H3)
    (hd : ∀ H ys, Same H1 H → H D = some (.lst ys) → R n ys → Qd H) : lcGo J g tt te vs σ H1 D Qd := by
  refine lc_it w (fun i H => Same H1 H ∧ ∃ ys, H D = some (.lst ys) ∧ R i ys) ⟨Same_upd (Same.refl _) hD, [], upd_same, h0⟩ (fun i H _ h => hG H h.1) ?_ ?_
  · rintro i x H H' hi ⟨sm, ys, hL, hr⟩ hY
    refine hs (fun y H4 => ∃ acc, H4 D = some (.lst acc) ∧ acc.length < sizeLine ∧ (Same H1 (upd H4 D (.lst (acc ++ [y]))) ∧ ∃ zs, (upd H4 D (.lst (acc ++ [y]))) D = some (.lst zs) ∧ R (i + 1) zs)) _ i x ys H H' hi sm hr hY ?_ ?_
    · intro y H4 hy s4
      have := hR i ys hr
      exact ⟨ys, s4 _ _ hL, by omega, Same_upd0 (sm.trans s4) hD, _, upd_same, hy⟩
    · intro hy H4 s4
      exact ⟨sm.trans s4, ys, s4 _ _ hL, hy⟩
  · rintro H ⟨sm, ys, hL, hr⟩
    exact hd H ys sm hL hr
theorem ix_listK (K : PySem.W.Frag) {X : Cx} (h : X.K = K) : IxR X (rIxL K) := h ▸ ix_list
theorem ix_tupK (K : PySem.W.Frag) {X : Cx} (h : X.K = K) : IxR X (rIxT K) := h ▸ ix_tup
theorem call_lenUK (K : PySem.W.Frag) {X : Cx} (h : X.K = K) : CallR X (.builtin "len") (rLenU K) := h ▸ call_lenU
theorem pg_tupK (K : PySem.W.Frag) {X : Cx} {pos : Pos} {es : List Expr} {k : Nat} {t : TGs} {n : Nat} (e : X.K = K) (hc : X.calm = true) (h : PGs X es t)
    (hn : (assignEach es X.env).length = n := by rfl) (hst : (assignEach es X.env).findIdx? (·.1) = none := by rfl) : PG X (.Tuple es k pos) (gTup K n t) := e ▸ pg_tup hc h hn hst
theorem op_eqDK (K : PySem.W.Frag) {X : Cx} (e : X.K = K) (hu : X.A.units + 64 < cLine) : OpR X (compareOp .Eq) (rEqD K) := e ▸ op_eqD hu
theorem op_neDK (K : PySem.W.Frag) {X : Cx} (e : X.K = K) (hu : X.A.units + 64 < cLine) : OpR X (compareOp .NotEq) (rNeD K) := e ▸ op_neD hu
end My
namespace My
open PySem PySem.W
theorem and_m1 (z : Int) : Builtin.bitAnd z (-1) = z := by
  show Spec.bitAnd z (-1) = z
  unfold Spec.bitAnd
  have h : decide ((0 : Int) ≤ -1) = false := by decide
  rw [h]
  cases e : decide (0 ≤ z) with
  | true =>
    have e' := of_decide_eq_true e
    have h2 : (Spec.bitNot (-1)).toNat = 0 := by decide
    simp [h2]
  | false =>
    have e' := of_decide_eq_false e
    have h2 : (Spec.bitNot (-1)).toNat = 0 := by decide
    simp only [h2, Nat.or_zero]
    unfold Spec.bitNot
    omega
theorem or_one (x : Int) : Builtin.bitOr x 1 = x + 1 - x % 2 := by
  have h : Builtin.bitOr x 1 = Spec.bitNot (Builtin.bitAnd (Spec.bitNot x) (Spec.bitNot 1)) := rfl
  have h1 : Spec.bitNot 1 = -2 := by decide
  rw [h, h1, kbt_halves]
  have h2 : (-2 : Int) / 2 = -1 := by decide
  have h3 : ¬ ((-2 : Int) % 2 = 1) := by decide
  rw [h2, and_m1, if_neg (fun c => h3 c.2)]
  unfold Spec.bitNot
  omega
def strideF (m : Int) : Int := Builtin.bitOr (m / 32) 1
def probeF (m s c : Int) : Int := Builtin.bitAnd (m + c * strideF m) (s - 1)
theorem strideF_eq (m : Int) : strideF m = m / 32 + 1 - m / 32 % 2 := or_one _
theorem probeF_eq (m c : Int) (k : Nat) : probeF m (2 ^ k) c = (m + c * strideF m) % 2 ^ k := kbt_mask _ k
/-- the slots of probes, one after the other -/
def slotI (m s : Int) : Nat → Int
  | 0 => Builtin.bitAnd m (s - 1)
  | i + 1 => Builtin.bitAnd (slotI m s i + strideF m) (s - 1)
def probesF (m s : Int) : List Int := (List.range s.toNat).map (slotI m s)
theorem slotI_eq (m : Int) (k : Nat) : ∀ i : Nat, slotI m (2 ^ k) i = (m + i * strideF m) % 2 ^ k
  | 0 => by
    rw [slotI, kbt_mask]
    simp
  | i + 1 => by
    rw [slotI, kbt_mask, slotI_eq m k i, Int.emod_add_emod]
    congr 1
    rw [Int.natCast_add, Int.add_mul, Int.add_assoc]
    simp
theorem pow_le {j n : Nat} (h : j ≤ n) : (0 : Int) < 2 ^ j ∧ (2 : Int) ^ j ≤ 2 ^ n := by
  have a : (2 : Nat) ^ j ≤ 2 ^ n := Nat.pow_le_pow_right (by decide) h
  have b : 0 < (2 : Nat) ^ j := Nat.pow_pos (by decide)
  have e : ((2 ^ j : Nat) : Int) = (2 : Int) ^ j := by norm_cast
  have e2 : ((2 ^ n : Nat) : Int) = (2 : Int) ^ n := by norm_cast
  omega
theorem pow8 (n : Nat) : (8 : Int) * 2 ^ n = 2 ^ (n + 3) := by
  rw [Int.pow_add, Int.mul_comm]
  rfl
/-- a slot is told by its count -/
theorem slot_of {m f st d S : Int} (h0 : 0 ≤ d) (h1 : d < S) (h : (m + f * st - d) % S = 0) : d = (m + f * st) % S := by
  have e : (m + f * st) % S = (m + f * st - d + d) % S := by rw [Int.sub_add_cancel]
  rw [e, Int.add_emod, h, Int.zero_add, Int.emod_emod, Int.emod_eq_of_lt h0 h1]
end My
namespace My
open PySem PySem.Spec PyProof.Rows L2
/-! things as data: keys (num, txt, tup), and what is none -/
inductive Ky where
  | num (i : Int) | txt (x : Str) | tup (ks : List Ky) | bl (b : Bool) | non | lst (n : Nat) | dct
mutual
def Ky.beq : Ky → Ky → Bool
  | .num i, .num j => decide (i = j)
  | .txt x, .txt y => decide (x = y)
  | .tup xs, .tup ys => Ky.beqs xs ys
  | .bl x, .bl y => decide (x = y)
  | .non, .non => true
  | .lst n, .lst m => decide (n = m)
  | .dct, .dct => true
  | _, _ => false
def Ky.beqs : List Ky → List Ky → Bool
  | [], [] => true
  | x :: xs, y :: ys => Ky.beq x y && Ky.beqs xs ys
  | [], _ :: _ => false
  | _ :: _, [] => false
end
mutual
theorem Ky.beq_iff : ∀ x y : Ky, Ky.beq x y = true ↔ x = y
  | .num i, y => by cases y <;> simp [Ky.beq]
  | .txt x, y => by cases y <;> simp [Ky.beq]
  | .tup xs, .tup ys => by
    rw [Ky.beq, Ky.beqs_iff xs ys]
    simp
  | .tup xs, .num _ => by simp [Ky.beq]
  | .tup xs, .txt _ => by simp [Ky.beq]
  | .tup xs, .bl _ => by simp [Ky.beq]
  | .tup xs, .non => by simp [Ky.beq]
  | .tup xs, .lst _ => by simp [Ky.beq]
  | .tup xs, .dct => by simp [Ky.beq]
  | .bl b, y => by cases y <;> simp [Ky.beq]
  | .non, y => by cases y <;> simp [Ky.beq]
  | .lst n, y => by cases y <;> simp [Ky.beq]
  | .dct, y => by cases y <;> simp [Ky.beq]
theorem Ky.beqs_iff : ∀ xs ys : List Ky, Ky.beqs xs ys = true ↔ xs = ys
  | [], [] => by simp [Ky.beqs]
  | x :: xs, y :: ys => by
    rw [Ky.beqs, Bool.and_eq_true, Ky.beq_iff x y, Ky.beqs_iff xs ys]
    simp
  | [], _ :: _ => by simp [Ky.beqs]
  | _ :: _, [] => by simp [Ky.beqs]
end
instance : DecidableEq Ky := fun x y => if h : Ky.beq x y = true then .isTrue ((Ky.beq_iff x y).mp h) else .isFalse fun e => h ((Ky.beq_iff x y).mpr e)
mutual
def Ky.good : Ky → Bool
  | .num _ => true
  | .txt x => PyData.strOk x
  | .tup ks => Ky.goods ks
  | _ => false
def Ky.goods : List Ky → Bool
  | [] => true
  | k :: ks => Ky.good k && Ky.goods ks
end
mutual
def Ky.toD : Ky → PyData
  | .num i => .int i
  | .txt x => .str x
  | .tup ks => .tuple (Ky.toDs ks)
  | _ => .none
def Ky.toDs : List Ky → List PyData
  | [] => []
  | k :: ks => Ky.toD k :: Ky.toDs ks
end
mutual
def Ky.dep : Ky → Nat
  | .tup ks => Ky.deps ks + 1
  | _ => 0
def Ky.deps : List Ky → Nat
  | [] => 0
  | k :: ks => max (Ky.dep k) (Ky.deps ks)
end
mutual
theorem Ky.eqv : ∀ x y : Ky, x.good = true → y.good = true → PyData.eqv x.toD y.toD = Ky.beq x y
  | .num i, .num j, _, _ => by
    simp only [Ky.toD, PyData.eqv, Ky.beq]
    exact Bool.beq_eq_decide_eq i j
  | .txt x, .txt y, _, _ => by
    simp only [Ky.toD, PyData.eqv, Ky.beq]
    exact Bool.beq_eq_decide_eq x y
  | .tup xs, .tup ys, h, g => by
    simp only [Ky.toD, PyData.eqv, Ky.beq]
    exact Ky.eqvs xs ys (by simpa [Ky.good] using h) (by simpa [Ky.good] using g)
  | .num _, .txt _, _, _ => by simp [Ky.toD, PyData.eqv, Ky.beq]
  | .num _, .tup _, _, _ => by simp [Ky.toD, PyData.eqv, Ky.beq]
  | .txt _, .num _, _, _ => by simp [Ky.toD, PyData.eqv, Ky.beq]
  | .txt _, .tup _, _, _ => by simp [Ky.toD, PyData.eqv, Ky.beq]
  | .tup _, .num _, _, _ => by simp [Ky.toD, PyData.eqv, Ky.beq]
  | .tup _, .txt _, _, _ => by simp [Ky.toD, PyData.eqv, Ky.beq]
  | .bl _, _, h, _ => by simp [Ky.good] at h
  | .non, _, h, _ => by simp [Ky.good] at h
  | .lst _, _, h, _ => by simp [Ky.good] at h
  | .dct, _, h, _ => by simp [Ky.good] at h
  | .num _, .bl _, _, h => by simp [Ky.good] at h
  | .num _, .non, _, h => by simp [Ky.good] at h
  | .num _, .lst _, _, h => by simp [Ky.good] at h
  | .num _, .dct, _, h => by simp [Ky.good] at h
  | .txt _, .bl _, _, h => by simp [Ky.good] at h
  | .txt _, .non, _, h => by simp [Ky.good] at h
  | .txt _, .lst _, _, h => by simp [Ky.good] at h
  | .txt _, .dct, _, h => by simp [Ky.good] at h
  | .tup _, .bl _, _, h => by simp [Ky.good] at h
  | .tup _, .non, _, h => by simp [Ky.good] at h
  | .tup _, .lst _, _, h => by simp [Ky.good] at h
  | .tup _, .dct, _, h => by simp [Ky.good] at h
theorem Ky.eqvs : ∀ xs ys : List Ky, Ky.goods xs = true → Ky.goods ys = true → PyData.eqvAll (Ky.toDs xs) (Ky.toDs ys) = Ky.beqs xs ys
  | [], [], _, _ => by simp [Ky.toDs, PyData.eqvAll, Ky.beqs]
  | x :: xs, y :: ys, h, g => by
    have h' : x.good = true ∧ Ky.goods xs = true := by simpa [Ky.goods] using h
    have g' : y.good = true ∧ Ky.goods ys = true := by simpa [Ky.goods] using g
    simp only [Ky.toDs, PyData.eqvAll, Ky.beqs]
    rw [Ky.eqv x y h'.1 g'.1, Ky.eqvs xs ys h'.2 g'.2]
  | [], _ :: _, _, _ => by simp [Ky.toDs, PyData.eqvAll, Ky.beqs]
  | _ :: _, [], _, _ => by simp [Ky.toDs, PyData.eqvAll, Ky.beqs]
end
mutual
theorem Ky.canLay : ∀ k : Ky, k.good = true → k.toD.canLay0 = true
  | .num _, _ => by simp [Ky.toD, PyData.canLay0]
  | .txt x, h => by
    have h' : PyData.strOk x = true := by simpa [Ky.good] using h
    simpa [Ky.toD, PyData.canLay0] using h'
  | .tup ks, h => by
    simp only [Ky.toD, PyData.canLay0]
    exact Ky.canLays ks (by simpa [Ky.good] using h)
  | .bl _, h => by simp [Ky.good] at h
  | .non, h => by simp [Ky.good] at h
  | .lst _, h => by simp [Ky.good] at h
  | .dct, h => by simp [Ky.good] at h
theorem Ky.canLays : ∀ ks : List Ky, Ky.goods ks = true → PyData.canLayAll0 (Ky.toDs ks) = true
  | [], _ => by simp [Ky.toDs, PyData.canLayAll0]
  | k :: ks, h => by
    have h' : k.good = true ∧ Ky.goods ks = true := by simpa [Ky.goods] using h
    simp only [Ky.toDs, PyData.canLayAll0, Ky.canLay k h'.1, Ky.canLays ks h'.2, Bool.and_self]
end
mutual
theorem Ky.depth_toD : ∀ k : Ky, k.toD.depth = k.dep
  | .tup ks => by
    simp only [Ky.toD, PyData.depth, Ky.dep]
    rw [Ky.depths_toD ks]
  | .num _ => by simp [Ky.toD, PyData.depth, Ky.dep]
  | .txt _ => by simp [Ky.toD, PyData.depth, Ky.dep]
  | .bl _ => by simp [Ky.toD, PyData.depth, Ky.dep]
  | .non => by simp [Ky.toD, PyData.depth, Ky.dep]
  | .lst _ => by simp [Ky.toD, PyData.depth, Ky.dep]
  | .dct => by simp [Ky.toD, PyData.depth, Ky.dep]
theorem Ky.depths_toD : ∀ ks : List Ky, PyData.depthAll (Ky.toDs ks) = Ky.deps ks
  | [] => by simp [Ky.toDs, PyData.depthAll, Ky.deps]
  | k :: ks => by
    simp only [Ky.toDs, PyData.depthAll, Ky.deps]
    rw [Ky.depth_toD k, Ky.depths_toD ks]
end
theorem Ky.shaped {k : Ky} (h : k.good = true) (d : k.dep ≤ 64) : SeqAt.shaped k.toD = true := by
  unfold SeqAt.shaped
  rw [Ky.canLay k h, Ky.depth_toD, decide_eq_true d]
  rfl
mutual
inductive KyAt (H : Hp) : V → Ky → Prop
  | num (i : Int) : KyAt H (.int i) (.num i)
  | txt (x : Str) : KyAt H (.str x) (.txt x)
  | tup {a : Addr} {xs : List V} {ks : List Ky} (h : H a = some (.tup xs)) (p : KysAt H xs ks) : KyAt H (.ref a) (.tup ks)
  | bl (b : Bool) : KyAt H (.bl b) (.bl b)
  | non : KyAt H .non .non
  | lst {a : Addr} {xs : List V} {n : Nat} (h : H a = some (.lst xs)) : KyAt H (.ref a) (.lst n)
  | dct {a : Addr} {kvs : List (Key × V)} (h : H a = some (.dK kvs)) : KyAt H (.ref a) .dct
inductive KysAt (H : Hp) : List V → List Ky → Prop
  | nil : KysAt H [] []
  | cons {v : V} {vs : List V} {k : Ky} {ks : List Ky} (h : KyAt H v k) (t : KysAt H vs ks) : KysAt H (v :: vs) (k :: ks)
end
section
variable {H H' : Hp} {K : PySem.W.Frag}
mutual
theorem KyAt.same (s : Same H H') : ∀ (k : Ky) (v : V), KyAt H v k → KyAt H' v k
  | .num i, _, h => by cases h; exact .num i
  | .txt x, _, h => by cases h; exact .txt x
  | .tup ks, _, h => by
    cases h with
    | tup h p => exact .tup (s _ _ h) (KysAt.same s ks _ p)
  | .bl b, _, h => by cases h; exact .bl b
  | .non, _, h => by cases h; exact .non
  | .lst n, _, h => by
    cases h with
    | lst h => exact .lst (s _ _ h)
  | .dct, _, h => by
    cases h with
    | dct h => exact .dct (s _ _ h)
theorem KysAt.same (s : Same H H') : ∀ (ks : List Ky) (vs : List V), KysAt H vs ks → KysAt H' vs ks
  | [], _, h => by cases h; exact .nil
  | k :: ks, _, h => by
    cases h with
    | cons h t => exact .cons (KyAt.same s k _ h) (KysAt.same s ks _ t)
end
mutual
theorem KyAt.dp : ∀ (k : Ky) (v : V), k.good = true → KyAt H v k → Dp K H v k.toD
  | .num i, _, _, h => by cases h; rw [Ky.toD]; exact .int i
  | .txt x, _, _, h => by cases h; rw [Ky.toD]; exact .str x
  | .tup ks, _, g, h => by
    cases h with
    | tup h p => rw [Ky.toD]; exact .tup (SqT.of h) (KysAt.dp ks _ (by simpa [Ky.good] using g) p)
  | .bl _, _, g, _ => by simp [Ky.good] at g
  | .non, _, g, _ => by simp [Ky.good] at g
  | .lst _, _, g, _ => by simp [Ky.good] at g
  | .dct, _, g, _ => by simp [Ky.good] at g
theorem KysAt.dp : ∀ (ks : List Ky) (vs : List V), Ky.goods ks = true → KysAt H vs ks → DpAll K H vs (Ky.toDs ks)
  | [], _, _, h => by cases h; rw [Ky.toDs]; exact .nil
  | k :: ks, _, g, h => by
    have g' : k.good = true ∧ Ky.goods ks = true := by simpa [Ky.goods] using g
    cases h with
    | cons h t => rw [Ky.toDs]; exact .cons (KyAt.dp k _ g'.1 h) (KysAt.dp ks _ g'.2 t)
end
theorem KysAt.len : ∀ {ks : List Ky} {vs : List V}, KysAt H vs ks → vs.length = ks.length
  | [], _, h => by cases h; rfl
  | k :: ks, _, h => by
    cases h with
    | cons h t => simp [KysAt.len t]
theorem KysAt.get : ∀ {ks : List Ky} {vs : List V} {i : Nat} {v : V}, KysAt H vs ks → vs[i]? = some v → ∃ k, ks[i]? = some k ∧ KyAt H v k
  | [], _, _, _, h, e => by cases h; simp at e
  | k :: ks, _, 0, v, h, e => by
    cases h with
    | cons h t =>
      simp at e
      subst e
      exact ⟨k, rfl, h⟩
  | k :: ks, _, i + 1, v, h, e => by
    cases h with
    | cons h t =>
      obtain ⟨k', e', h'⟩ := KysAt.get (i := i) t (by simpa using e)
      exact ⟨k', by simpa using e', h'⟩
theorem KysAt.append : ∀ {ks ls : List Ky} {vs ws : List V}, KysAt H vs ks → KysAt H ws ls → KysAt H (vs ++ ws) (ks ++ ls)
  | [], _, _, _, h, q => by cases h; exact q
  | k :: ks, _, _, _, h, q => by
    cases h with
    | cons h t => exact .cons h (KysAt.append t q)
/-- two keys compared -/
theorem eq_keys {v w : V} {k l : Ky} {Q : VK} (hv : KyAt H v k) (hw : KyAt H w l) (gk : k.good = true) (gl : l.good = true) (dk : k.dep ≤ 64) (dl : l.dep ≤ 64) (q : Q (.bl (decide (k = l))) H) : rEqD K v w H Q := by
  refine ⟨k.toD, l.toD, KyAt.dp k v gk hv, KyAt.dp l w gl hw, Ky.shaped gk dk, Ky.shaped gl dl, ?_⟩
  rw [Ky.eqv _ _ gk gl]
  have e : Ky.beq k l = decide (k = l) := by
    cases h : Ky.beq k l with
    | true => exact (decide_eq_true ((Ky.beq_iff k l).mp h)).symm
    | false => exact (decide_eq_false fun c => by rw [(Ky.beq_iff k l).mpr c] at h; cases h).symm
  rw [e]
  exact q
end
/-! the stamp -/
abbrev TURN : Int := 2147483647
def stampT (l : List Nat) : Int := l.foldl (fun (h : Int) (c : Nat) => (31 * h + c) % 2147483647) 7
mutual
def Ky.stamp : Ky → Int
  | .num i => i % 2147483647
  | .txt x => stampT x.cps.toList
  | .tup ks => Ky.stamps 11 ks
  | _ => 0
def Ky.stamps : Int → List Ky → Int
  | h, [] => h
  | h, k :: ks => Ky.stamps (Builtin.bitXor (1000003 * h) (Ky.stamp k) % 2147483647) ks
end
theorem stampT_range (l : List Nat) : 0 ≤ stampT l ∧ stampT l < 2147483647 := by
  have h : ∀ (l : List Nat) (a : Int), 0 ≤ a → a < 2147483647 → 0 ≤ l.foldl (fun (h : Int) (c : Nat) => (31 * h + c) % 2147483647) a ∧ l.foldl (fun (h : Int) (c : Nat) => (31 * h + c) % 2147483647) a < 2147483647 := by
    intro l
    induction l with
    | nil => intro a h0 h1; exact ⟨h0, h1⟩
    | cons c l ih => intro a h0 h1; exact ih _ (Int.emod_nonneg _ (by decide)) (Int.emod_lt_of_pos _ (by decide))
  exact h l 7 (by decide) (by decide)
theorem stamps_range : ∀ (ks : List Ky) (a : Int), 0 ≤ a → a < 2147483647 → 0 ≤ Ky.stamps a ks ∧ Ky.stamps a ks < 2147483647
  | [], a, h0, h1 => by rw [Ky.stamps]; exact ⟨h0, h1⟩
  | k :: ks, a, h0, h1 => by rw [Ky.stamps]; exact stamps_range ks _ (by omega) (by omega)
theorem stamp_range : ∀ k : Ky, 0 ≤ k.stamp ∧ k.stamp < 2147483647
  | .num i => by rw [Ky.stamp]; omega
  | .txt x => by rw [Ky.stamp]; exact stampT_range _
  | .tup ks => by rw [Ky.stamp]; exact stamps_range ks 11 (by decide) (by decide)
  | .bl _ => by simp [Ky.stamp]
  | .non => by simp [Ky.stamp]
  | .lst _ => by simp [Ky.stamp]
  | .dct => by simp [Ky.stamp]
theorem stampT_step {l : List Nat} {i c : Nat} (h : l[i]? = some c) : stampT (l.take (i + 1)) = (31 * stampT (l.take i) + c) % 2147483647 := by
  obtain ⟨hi, e⟩ := List.getElem?_eq_some_iff.mp h
  unfold stampT
  rw [List.take_succ_eq_append_getElem hi, List.foldl_append, e]
  rfl
theorem stamps_append : ∀ (a : Int) (xs ys : List Ky), Ky.stamps a (xs ++ ys) = Ky.stamps (Ky.stamps a xs) ys
  | a, [], ys => by simp [Ky.stamps]
  | a, x :: xs, ys => by
    rw [List.cons_append, Ky.stamps, Ky.stamps]
    exact stamps_append _ xs ys
theorem stamps_step {ks : List Ky} {i : Nat} {k : Ky} (a : Int) (h : ks[i]? = some k) : Ky.stamps a (ks.take (i + 1)) = Builtin.bitXor (1000003 * Ky.stamps a (ks.take i)) k.stamp % 2147483647 := by
  obtain ⟨hi, e⟩ := List.getElem?_eq_some_iff.mp h
  rw [List.take_succ_eq_append_getElem hi, stamps_append, e, Ky.stamps, Ky.stamps]
theorem dep_of_mem : ∀ {ks : List Ky} {i : Nat} {k : Ky}, ks[i]? = some k → k.dep ≤ Ky.deps ks
  | [], i, k, h => by simp at h
  | x :: xs, 0, k, h => by
    simp at h
    subst h
    rw [Ky.deps]
    omega
  | x :: xs, i + 1, k, h => by
    have := dep_of_mem (ks := xs) (i := i) (k := k) (by simpa using h)
    rw [Ky.deps]
    omega
/-- stamp of a key so deep -/
def spStamp (n : Nat) : Sp := fun vs H Q _ => ∃ v k, vs = [v] ∧ KyAt H v k ∧ (k.good = true ∧ k.dep ≤ n) ∧ Q (.int k.stamp) H
theorem rd_spStamp {n : Nat} {v : V} {H : Hp} {Q : VK} {E : XK} : spStamp n [v] H Q E = ∃ k, KyAt H v k ∧ (k.good = true ∧ k.dep ≤ n) ∧ Q (.int k.stamp) H := by
  unfold spStamp
  apply propext
  constructor
  · rintro ⟨v', k, e, q⟩; cases e; exact ⟨k, q⟩
  · rintro ⟨k, q⟩; exact ⟨v, k, rfl, q⟩
theorem len_stamp {n : Nat} {vs H Q E} (h : spStamp n vs H Q E) : vs.length = 1 := by obtain ⟨_, _, rfl, _⟩ := h; rfl
def rOrd : List V → Hp → VK → Prop := fun xs H Q => ∃ x : Str, xs = [.str x] ∧ x.length = 1 ∧ Q (.int (x.cps.getD 0 0 : Nat)) H
theorem call_ordq {X : Cx} : CallR X (.builtin "ord") rOrd := call_ord
theorem rd_ord {c : Nat} {H : Hp} {Q : VK} : rOrd [.str ⟨#[c]⟩] H Q = Q (.int c) H := by
  unfold rOrd
  apply propext
  constructor
  · rintro ⟨x, e, _, q⟩; cases e; exact q
  · intro q; exact ⟨_, rfl, rfl, q⟩
/-! what is a key -/
def within : Nat → Ky → Bool
  | _, .num i => decide (-(10 ^ 60) < i ∧ i < 10 ^ 60)
  | _, .txt x => decide (x.length ≤ 60)
  | 0, .tup _ => false
  | d + 1, .tup ks => decide (ks.length ≤ 6) && ks.all (within d)
  | _, _ => false
mutual
def Ky.fit : Ky → Bool
  | .txt x => decide (x.length ≤ 16777216)
  | .tup ks => Ky.fits ks
  | _ => true
def Ky.fits : List Ky → Bool
  | [] => true
  | k :: ks => Ky.fit k && Ky.fits ks
end
theorem fits_get : ∀ {ks : List Ky} {i : Nat} {k : Ky}, Ky.fits ks = true → ks[i]? = some k → k.fit = true
  | [], i, k, _, h => by simp at h
  | x :: xs, 0, k, g, h => by
    have g' : x.fit = true ∧ Ky.fits xs = true := by simpa [Ky.fits] using g
    simp at h
    subst h
    exact g'.1
  | x :: xs, i + 1, k, g, h => by
    have g' : x.fit = true ∧ Ky.fits xs = true := by simpa [Ky.fits] using g
    exact fits_get (ks := xs) (i := i) g'.2 (by simpa using h)
def spWithin (n : Nat) : Sp := fun vs H Q _ => ∃ (v : V) (k : Ky) (d : Nat), vs = [v, .int d] ∧ KyAt H v k ∧ (k.fit = true ∧ d ≤ n) ∧ Q (.bl (within d k)) H
theorem len_within {n : Nat} {vs H Q E} (h : spWithin n vs H Q E) : vs.length = 2 := by obtain ⟨_, _, _, rfl, _⟩ := h; rfl
def spKeyB : Sp := fun vs H Q _ => ∃ (v : V) (k : Ky), vs = [v] ∧ KyAt H v k ∧ k.fit = true ∧ Q (.bl (within 3 k)) H
theorem len_keyB {vs H Q E} (h : spKeyB vs H Q E) : vs.length = 1 := by obtain ⟨_, _, rfl, _⟩ := h; rfl
theorem goods_get : ∀ {ks : List Ky} {i : Nat} {k : Ky}, Ky.goods ks = true → ks[i]? = some k → k.good = true
  | [], i, k, _, h => by simp at h
  | x :: xs, 0, k, g, h => by
    have g' : x.good = true ∧ Ky.goods xs = true := by simpa [Ky.goods] using g
    simp at h
    subst h
    exact g'.1
  | x :: xs, i + 1, k, g, h => by
    have g' : x.good = true ∧ Ky.goods xs = true := by simpa [Ky.goods] using g
    exact goods_get (ks := xs) (i := i) g'.2 (by simpa using h)
theorem goods_append : ∀ {xs ys : List Ky}, Ky.goods xs = true → Ky.goods ys = true → Ky.goods (xs ++ ys) = true
  | [], _, _, h => h
  | x :: xs, ys, g, h => by
    have g' : x.good = true ∧ Ky.goods xs = true := by simpa [Ky.goods] using g
    rw [List.cons_append, Ky.goods, g'.1, goods_append g'.2 h]
    rfl
theorem nums_at {H : Hp} : ∀ ns : List Int, KysAt H (ns.map V.int) (ns.map Ky.num)
  | [] => .nil
  | n :: ns => .cons (.num n) (nums_at ns)
theorem within_mono : ∀ {d e : Nat}, d ≤ e → ∀ k : Ky, within d k = true → within e k = true
  | d, e, h, .num i, q => by cases d <;> cases e <;> simpa [within] using q
  | d, e, h, .txt x, q => by cases d <;> cases e <;> simpa [within] using q
  | 0, e, h, .tup ks, q => by simp [within] at q
  | d + 1, 0, h, .tup ks, q => by omega
  | d + 1, e + 1, h, .tup ks, q => by
    simp only [within, Bool.and_eq_true, List.all_eq_true] at q ⊢
    exact ⟨q.1, fun y hy => within_mono (by omega) y (q.2 y hy)⟩
  | d, e, h, .bl b, q => by cases d <;> simp [within] at q
  | d, e, h, .non, q => by cases d <;> simp [within] at q
  | d, e, h, .lst n, q => by cases d <;> simp [within] at q
  | d, e, h, .dct, q => by cases d <;> simp [within] at q
section
variable {H H' : Hp} {D : Addr} {xs0 : List V}
mutual
/-- a key's tuples stay where a list is changed -/
theorem KyAt.but (k : ∀ b o, b ≠ D → H b = some o → H' b = some o) (e : H D = some (.lst xs0)) : ∀ (y : Ky) (v : V), y.good = true → KyAt H v y → KyAt H' v y
  | .num i, _, _, h => by cases h; exact .num i
  | .txt x, _, _, h => by cases h; exact .txt x
  | .tup ks, _, g, h => by
    cases h with
    | tup h p => exact .tup (k _ _ (ne_of h e (by intro z; cases z)) h) (KysAt.but' k e ks _ (by simpa [Ky.good] using g) p)
  | .bl _, _, g, _ => by simp [Ky.good] at g
  | .non, _, g, _ => by simp [Ky.good] at g
  | .lst _, _, g, _ => by simp [Ky.good] at g
  | .dct, _, g, _ => by simp [Ky.good] at g
theorem KysAt.but' (k : ∀ b o, b ≠ D → H b = some o → H' b = some o) (e : H D = some (.lst xs0)) : ∀ (ks : List Ky) (vs : List V), Ky.goods ks = true → KysAt H vs ks → KysAt H' vs ks
  | [], _, _, h => by cases h; exact .nil
  | y :: ks, _, g, h => by
    have g' : y.good = true ∧ Ky.goods ks = true := by simpa [Ky.goods] using g
    cases h with
    | cons h t => exact .cons (KyAt.but k e y _ g'.1 h) (KysAt.but' k e ks _ g'.2 t)
end
end
end My
namespace My
open PySem PySem.Spec PyProof.Rows L2
/-- the ninety-four signs -/
def signs : List Nat := [32, 33, 34, 35, 36, 38, 39, 40, 41, 42, 43, 44, 45, 46, 47, 48, 49, 50, 51, 52, 53, 54, 55, 56, 57, 58, 59, 60, 61, 62, 63, 64, 65, 66, 67, 68, 69, 70, 71, 72, 73, 74, 75, 76, 77, 78, 79, 80, 81, 82, 83, 84, 85, 86, 87, 88, 89, 90, 91, 92, 93, 94, 95, 96, 97, 98, 99, 100, 101, 102, 103, 104, 105, 106, 107, 108, 109, 110, 111, 112, 113, 114, 115, 116, 117, 118, 119, 120, 121, 122, 123, 124, 125, 126]
theorem signs_len : signs.length = 94 := rfl
theorem signs_ok : ∀ c ∈ signs, 32 ≤ c ∧ c ≤ 126 := by decide
def signAt (n : Int) : Nat := signs.getD n.toNat 0
theorem signAt_some {n : Int} (h0 : 0 ≤ n) (h1 : n < 94) : atI signs n = some (signAt n) := by
  obtain ⟨j, rfl⟩ : ∃ j : Nat, n = (j : Int) := ⟨n.toNat, by omega⟩
  have hj : j < signs.length := by rw [signs_len]; omega
  refine atI_nat ?_
  unfold signAt
  rw [Int.toNat_natCast, List.getD_eq_getElem?_getD, List.getElem?_eq_getElem hj]
  rfl
theorem signAt_ok {n : Int} (h0 : 0 ≤ n) (h1 : n < 94) : 32 ≤ signAt n ∧ signAt n ≤ 126 := by
  have hj : n.toNat < signs.length := by rw [signs_len]; omega
  unfold signAt
  rw [List.getD_eq_getElem?_getD, List.getElem?_eq_getElem hj]
  exact signs_ok _ (List.getElem_mem hj)
def codesOk (l : List Nat) : Prop := ∀ c ∈ l, 32 ≤ c ∧ c ≤ 126
theorem strOk_of {l : List Nat} (h : codesOk l) : PyData.strOk (SX.S l) = true := by
  show (SX.S l).cps.all (· < 0x110000) = true
  rw [← Array.all_toList]
  rw [List.all_eq_true]
  intro c hc
  have := h c (by simpa using hc)
  exact decide_eq_true (by omega)
theorem signs_text : (Str.ofString " !\"#$&'()*+,-./0123456789:;<=>?@ABCDEFGHIJKLMNOPQRSTUVWXYZ[\\]^_`" ++ Str.ofString "abcdefghijklmnopqrstuvwxyz{|}~" : Str) = SX.S signs := by decide +kernel
theorem signAt_val {n : Int} (h0 : 0 ≤ n) (h1 : n < 94) : (signAt n : Int) = if n < 5 then n + 32 else n + 33 := by
  obtain ⟨j, rfl⟩ : ∃ j : Nat, n = (j : Int) := ⟨n.toNat, by omega⟩
  have h : (List.range 94).all (fun j => decide ((signAt (j : Int) : Int) = if (j : Int) < 5 then (j : Int) + 32 else (j : Int) + 33)) = true := by decide +kernel
  exact of_decide_eq_true ((List.all_eq_true.mp h) j (List.mem_range.mpr (by omega)))
/-- a row of signs by numbers -/
def rowS (cs : List Int) : List Nat := cs.map fun n => signAt (n % 94)
theorem rowS_ok (cs : List Int) : codesOk (rowS cs) := by
  intro c hc
  obtain ⟨n, _, rfl⟩ := List.mem_map.mp hc
  exact signAt_ok (Int.emod_nonneg _ (by decide)) (Int.emod_lt_of_pos _ (by decide))
theorem rowS_len (cs : List Int) : (rowS cs).length = cs.length := List.length_map _
/-- single signs -/
theorem flat_one : ∀ l : List Nat, (l.map fun c => [c]).flatten = l
  | [] => rfl
  | c :: l => by rw [List.map_cons, List.flatten_cons, flat_one l]; rfl
theorem ones_str (l : List Nat) : (l.map fun c => V.str ⟨#[c]⟩) = ((l.map fun c => [c]).map SX.S).map V.str := by
  rw [List.map_map, List.map_map]
  rfl
theorem empty_S : Str.ofString "" = SX.S [] := by decide +kernel
/-- the join of a list of single signs -/
theorem join_ones {K : PySem.W.Frag} {H : Hp} {p : Addr} {l : List Nat} {R : List Str → Prop} (h : SqL K H p (l.map fun c => V.str ⟨#[c]⟩)) (hz : l.length ≤ 1000) (q : ∀ ys, Txt.join (Str.ofString "") ys = SX.S l → R ys) :
    ∃ ys : List Str, (SqL K H p (ys.map V.str) ∨ SqT K H p (ys.map V.str)) ∧ (ys.map (·.length)).sum + ys.length * (Str.ofString "").length ≤ 16777216 ∧ R ys := by
  refine ⟨(l.map fun c => [c]).map SX.S, .inl (by rw [← ones_str]; exact h), ?_, q _ ?_⟩
  · rw [lens_sum, flat_one, empty_S, SX.S_len]
    simp
    omega
  · rw [join_empty empty_S, flat_one]
theorem stampT_cons {a b c d : Nat} {h t : List Nat} (e : 31 * (a : Int) + b = 31 * (c : Int) + d) : stampT (h ++ [a, b] ++ t) = stampT (h ++ [c, d] ++ t) := by
  unfold stampT
  rw [List.foldl_append, List.foldl_append, List.foldl_append, List.foldl_append]
  congr 1
  simp only [List.foldl_cons, List.foldl_nil]
  generalize List.foldl (fun (h : Int) (c : Nat) => (31 * h + c) % 2147483647) 7 h = x
  omega
theorem codesOk_append {a b : List Nat} (h : codesOk a) (g : codesOk b) : codesOk (a ++ b) := fun c hc => (List.mem_append.mp hc).elim (h c) (g c)
theorem codesOk_take {a : List Nat} (h : codesOk a) (n : Nat) : codesOk (a.take n) := fun c hc => h c (List.mem_of_mem_take hc)
theorem codesOk_drop {a : List Nat} (h : codesOk a) (n : Nat) : codesOk (a.drop n) := fun c hc => h c (List.mem_of_mem_drop hc)
theorem codesOk_two {a b : Nat} (h : 32 ≤ a ∧ a ≤ 126) (g : 32 ≤ b ∧ b ≤ 126) : codesOk [a, b] := fun c hc => by
  rcases List.mem_cons.mp hc with rfl | hc
  · exact h
  · rcases List.mem_cons.mp hc with rfl | hc
    · exact g
    · cases hc
theorem S_ne {a b : List Nat} (h : a ≠ b) : SX.S a ≠ SX.S b := fun e => h (SX.S_inj e)
end My
namespace My
open PySem PySem.Spec PyProof.Rows L2
/-- the count of a slot -/
def spWhen : Sp := fun vs H Q _ => ∃ (m : Int) (j : Nat) (s : Int), vs = [.int m, .int (2 ^ j), .int s] ∧ (3 ≤ j ∧ j ≤ 12) ∧ (0 ≤ m ∧ m < 2147483647) ∧ (0 ≤ s ∧ s < 2 ^ j) ∧
  ∀ f : Int, 0 ≤ f → f < 2 ^ j → (m + f * strideF m - s) % 2 ^ j = 0 → Q (.int f) H
theorem len_when {vs H Q E} (h : spWhen vs H Q E) : vs.length = 3 := by obtain ⟨_, _, _, rfl, _⟩ := h; rfl
/-- 2^r divides 1 - s * b -/
def Inv2 (s b : Int) (r : Nat) : Prop := ∃ t, 1 - s * b = 2 ^ r * t
theorem inv2_mono {s b : Int} {r q : Nat} (h : Inv2 s b r) (l : q ≤ r) : Inv2 s b q := by
  obtain ⟨t, e⟩ := h
  obtain ⟨d, rfl⟩ : ∃ d, r = q + d := ⟨r - q, by omega⟩
  exact ⟨2 ^ d * t, by rw [e, Int.pow_add, Int.mul_assoc]⟩
theorem inv2_mod {s b : Int} {r j : Nat} (h : Inv2 s b r) (l : r ≤ j) : Inv2 s (b % 2 ^ j) r := by
  obtain ⟨t, e⟩ := h
  obtain ⟨d, rfl⟩ : ∃ d, j = r + d := ⟨j - r, by omega⟩
  refine ⟨t + s * (2 ^ d * (b / 2 ^ (r + d))), ?_⟩
  have e2 : b % 2 ^ (r + d) = b - 2 ^ (r + d) * (b / 2 ^ (r + d)) := Int.emod_def _ _
  have e3 : (2 : Int) ^ (r + d) * (b / 2 ^ (r + d)) = 2 ^ r * (2 ^ d * (b / 2 ^ (r + d))) := by
    rw [← Int.mul_assoc, ← Int.pow_add]
  rw [e2, e3, Int.mul_sub, Int.mul_add, Int.mul_left_comm s]
  omega
theorem inv2_start {s : Int} (h : s % 2 = 1) : Inv2 s s 3 := by
  have h4 : s % 8 = 1 ∨ s % 8 = 3 ∨ s % 8 = 5 ∨ s % 8 = 7 := by omega
  have e := Int.emod_def s 8
  have hs : s = 8 * (s / 8) + s % 8 := by omega
  generalize s / 8 = q at hs
  generalize s % 8 = r at hs h4
  refine ⟨-(8 * (q * q) + 2 * (q * r)) + (1 - r * r) / 8, ?_⟩
  subst hs
  have x : (8 * q + r) * (8 * q + r) = 64 * (q * q) + 16 * (q * r) + r * r := by
    grind
  rw [x]
  rcases h4 with rfl | rfl | rfl | rfl <;> simp <;> omega
theorem inv2_step {s b : Int} {r : Nat} (h : Inv2 s b r) : Inv2 s (b * (2 - s * b)) (2 * r) := by
  obtain ⟨t, e⟩ := h
  refine ⟨t * t, ?_⟩
  have e2 : s * b = 1 - 2 ^ r * t := by omega
  have e3 : s * (b * (2 - s * b)) = (1 - 2 ^ r * t) * (1 + 2 ^ r * t) := by
    rw [← Int.mul_assoc, e2]
    congr 1
    omega
  rw [e3]
  have e4 : (2 : Int) ^ (2 * r) = 2 ^ r * 2 ^ r := by rw [Nat.two_mul, Int.pow_add]
  rw [e4]
  generalize (2 : Int) ^ r = x
  grind
/-- the end -/
theorem inv2_end {m s b d : Int} {j : Nat} (h : Inv2 s b j) (z : (0 : Int) < 2 ^ j) : (m + (d - m) * b % 2 ^ j * s - d) % 2 ^ j = 0 := by
  obtain ⟨t, e⟩ := h
  have e2 : (d - m) * b % 2 ^ j = (d - m) * b - 2 ^ j * ((d - m) * b / 2 ^ j) := Int.emod_def _ _
  rw [e2]
  generalize (d - m) * b / 2 ^ j = q
  generalize (2 : Int) ^ j = x at e
  have e3 : m + ((d - m) * b - x * q) * s - d = x * ((m - d) * t - q * s) := by grind
  rw [e3, Int.mul_emod_right]
end My
namespace My
open PySem PySem.Spec PyProof.Rows L2
structure KOk (d : Nat) (k : Ky) : Prop where
  w : within d k = true
  g : k.good = true
  f : k.fit = true
  d : k.dep ≤ d
abbrev KeyOk := KOk 3
theorem KOk.mono {d e : Nat} {k : Ky} (p : KOk d k) (h : d ≤ e) : KOk e k := ⟨within_mono h _ p.w, p.g, p.f, Nat.le_trans p.d h⟩
theorem goods_of : ∀ {ks : List Ky}, (∀ k ∈ ks, k.good = true) → Ky.goods ks = true
  | [], _ => by simp [Ky.goods]
  | k :: ks, h => by rw [Ky.goods, h k List.mem_cons_self, goods_of fun y hy => h y (List.mem_cons_of_mem _ hy)]; rfl
theorem fits_of : ∀ {ks : List Ky}, (∀ k ∈ ks, k.fit = true) → Ky.fits ks = true
  | [], _ => by simp [Ky.fits]
  | k :: ks, h => by rw [Ky.fits, h k List.mem_cons_self, fits_of fun y hy => h y (List.mem_cons_of_mem _ hy)]; rfl
theorem deps_of {d : Nat} : ∀ {ks : List Ky}, (∀ k ∈ ks, k.dep ≤ d) → Ky.deps ks ≤ d
  | [], _ => by simp [Ky.deps]
  | k :: ks, h => by
    have a := h k List.mem_cons_self
    have b := deps_of (ks := ks) fun y hy => h y (List.mem_cons_of_mem _ hy)
    rw [Ky.deps]
    omega
theorem KOk.tup {d : Nat} {ks : List Ky} (h : ∀ k ∈ ks, KOk d k) (z : ks.length ≤ 6) : KOk (d + 1) (.tup ks) := by
  refine ⟨?_, ?_, ?_, ?_⟩
  · simp only [within]
    rw [decide_eq_true z, Bool.true_and, List.all_eq_true]
    exact fun k hk => (h k hk).w
  · rw [Ky.good]; exact goods_of fun k hk => (h k hk).g
  · rw [Ky.fit]; exact fits_of fun k hk => (h k hk).f
  · rw [Ky.dep]
    have := deps_of (d := d) fun k hk => (h k hk).d
    omega
theorem KOk.num {d : Nat} {i : Int} (b : -(10 ^ 60) < i ∧ i < 10 ^ 60) : KOk d (.num i) := ⟨by cases d <;> (simp only [within]; exact decide_eq_true b), by simp [Ky.good], by simp [Ky.fit], by simp [Ky.dep]⟩
theorem KOk.txt {d : Nat} {l : List Nat} (c : codesOk l) (z : l.length ≤ 60) : KOk d (.txt (SX.S l)) := by
  refine ⟨?_, ?_, ?_, by simp [Ky.dep]⟩
  · cases d <;> (simp only [within]; exact decide_eq_true (by rw [SX.S_len]; exact z))
  · simp only [Ky.good]; exact strOk_of c
  · simp only [Ky.fit]; exact decide_eq_true (by rw [SX.S_len]; omega)
/-- a text of so many signs -/
def spText : Sp := fun vs H Q _ => ∃ n z : Int, vs = [.int n, .int z] ∧ (0 ≤ z ∧ z ≤ 1000) ∧ ∀ l : List Nat, codesOk l → (l.length : Int) = z → Q (.str (SX.S l)) H
theorem len_text {vs H Q E} (h : spText vs H Q E) : vs.length = 2 := by obtain ⟨_, _, rfl, _⟩ := h; rfl
/-- a number or a text -/
def Leaf : V → Ky → Prop
  | .int i, k => k = .num i ∧ (-(10 ^ 60) < i ∧ i < 10 ^ 60)
  | .str x, k => ∃ l, k = .txt (SX.S l) ∧ x = SX.S l ∧ codesOk l ∧ l.length ≤ 60
  | _, _ => False
def spAnyLeaf : Sp := fun vs H Q _ => ∃ n : Int, vs = [.int n] ∧ (0 ≤ n ∧ n < 2 ^ 60) ∧ ∀ v k, Leaf v k → Q v H
theorem len_anyLeaf {vs H Q E} (h : spAnyLeaf vs H Q E) : vs.length = 1 := by obtain ⟨_, rfl, _⟩ := h; rfl
theorem Leaf.at {H : Hp} {v : V} {k : Ky} (h : Leaf v k) : KyAt H v k := by
  cases v with
  | int i => obtain ⟨rfl, _⟩ := h; exact .num i
  | str x => obtain ⟨l, rfl, rfl, _⟩ := h; exact .txt _
  | _ => exact h.elim
theorem Leaf.ok {d : Nat} {v : V} {k : Ky} (h : Leaf v k) : KOk d k := by
  cases v with
  | int i => obtain ⟨rfl, b⟩ := h; exact .num b
  | str x => obtain ⟨l, rfl, rfl, c, z⟩ := h; exact .txt c z
  | _ => exact h.elim
/-- leaves, in a row -/
theorem leaves_at {H : Hp} : ∀ {ys : List V}, (∀ (i : Nat) y, ys[i]? = some y → ∃ k, Leaf y k) → ∃ ks, KysAt H ys ks ∧ (∀ k ∈ ks, KOk 0 k) ∧ ks.length = ys.length
  | [], _ => ⟨[], .nil, (fun _ h => by cases h), rfl⟩
  | y :: ys, h => by
    obtain ⟨k, hk⟩ := h 0 y rfl
    obtain ⟨ks, h1, h2, h3⟩ := leaves_at (H := H) (ys := ys) fun i z e => h (i + 1) z (by simpa using e)
    refine ⟨k :: ks, .cons hk.at h1, fun x hx => ?_, by simp [h3]⟩
    rcases List.mem_cons.mp hx with rfl | hx
    · exact hk.ok
    · exact h2 x hx
theorem KysAt.set {H : Hp} : ∀ {ys : List V} {ks : List Ky} {i : Nat} {v : V} {k : Ky}, KysAt H ys ks → KyAt H v k → KysAt H (ys.set i v) (ks.set i k)
  | _, [], _, _, _, h, _ => by cases h; exact .nil
  | _, x :: xs, 0, _, _, h, q => by
    cases h with
    | cons h t => exact .cons q t
  | _, x :: xs, i + 1, _, _, h, q => by
    cases h with
    | cons h t => exact .cons h (KysAt.set t q)
theorem KysAt.drop {H : Hp} : ∀ {ks : List Ky} {ys : List V} (n : Nat), KysAt H ys ks → KysAt H (ys.drop n) (ks.drop n)
  | _, _, 0, h => h
  | [], _, n + 1, h => by cases h; exact .nil
  | k :: ks, _, n + 1, h => by
    cases h with
    | cons h t => exact KysAt.drop n t
/-- any key -/
def spAnyKey : Sp := fun vs H Q _ => ∃ n : Int, vs = [.int n] ∧ (0 ≤ n ∧ n < 2 ^ 60) ∧ ∀ H' v k, Same H H' → KyAt H' v k → KeyOk k → Q v H'
theorem len_anyKey {vs H Q E} (h : spAnyKey vs H Q E) : vs.length = 1 := by obtain ⟨_, rfl, _⟩ := h; rfl
def spKey3 : Sp := fun vs H Q _ => ∃ w b j : Int, vs = [.int w, .int b, .int j] ∧ ((0 ≤ b ∧ b < 2 ^ 42) ∧ 0 ≤ j ∧ j < 2 ^ 20) ∧ ∀ H' v k, Same H H' → KyAt H' v k → KeyOk k → Q v H'
theorem xor_range {s : Int} (h0 : 0 ≤ s) (h1 : s < 2147483647) : 0 ≤ Builtin.bitXor 11000033 s ∧ Builtin.bitXor 11000033 s < 2147483648 := by
  refine ⟨Bits.bitXor_nonneg (by decide) h0, ?_⟩
  rw [Bits.bitXor_pp (by decide) h0]
  have := Nat.xor_lt_two_pow (x := (11000033 : Int).toNat) (y := s.toNat) (n := 31) (by decide) (by omega)
  omega
theorem cut_Shi {l : List Nat} {m : Nat} (h : m ≤ l.length) : cutS (SX.S l) none (some (m : Int)) = SX.S (l.take m) := by
  rw [cut_S, HT.sIx_none, HT.sIx_nat, Nat.min_eq_left h, List.drop_zero, Nat.sub_zero]
theorem cut_Slo {l : List Nat} {m : Nat} (h : m ≤ l.length) : cutS (SX.S l) (some (m : Int)) none = SX.S (l.drop m) := by
  rw [cut_S, HT.sIx_none, HT.sIx_nat, Nat.min_eq_left h, List.take_of_length_le (by rw [List.length_drop]; omega)]
theorem len_key3 {vs H Q E} (h : spKey3 vs H Q E) : vs.length = 3 := by obtain ⟨_, _, _, rfl, _⟩ := h; rfl
end My
namespace My
open PySem PySem.Spec PyProof.Rows L2
/-! rows of keys and of None -/
def Ky.dat : Ky → Bool
  | .non => true
  | k => k.good
theorem Ky.dat_of {k : Ky} (h : k.good = true) : k.dat = true := by
  cases k <;> first | exact h | simp [Ky.good] at h
theorem Ky.dat_cases {k : Ky} (h : k.dat = true) : k = .non ∨ k.good = true := by
  cases k <;> first | exact .inr h | exact .inl rfl
def Ky.dats (ks : List Ky) : Prop := ∀ k ∈ ks, k.dat = true ∧ k.dep ≤ 60
theorem Ky.eqvD (x y : Ky) (hx : x.dat = true) (hy : y.dat = true) : PyData.eqv x.toD y.toD = Ky.beq x y := by
  rcases Ky.dat_cases hx with rfl | gx <;> rcases Ky.dat_cases hy with rfl | gy
  · simp [Ky.toD, PyData.eqv, Ky.beq]
  · cases y <;> simp [Ky.good] at gy <;> simp [Ky.toD, PyData.eqv, Ky.beq]
  · cases x <;> simp [Ky.good] at gx <;> simp [Ky.toD, PyData.eqv, Ky.beq]
  · exact Ky.eqv x y gx gy
theorem Ky.canLayD (k : Ky) (h : k.dat = true) : k.toD.canLay0 = true := by
  rcases Ky.dat_cases h with rfl | g
  · simp [Ky.toD, PyData.canLay0]
  · exact Ky.canLay k g
theorem Ky.beq_dec (k l : Ky) : Ky.beq k l = decide (k = l) := by
  cases h : Ky.beq k l with
  | true => exact (decide_eq_true ((Ky.beq_iff k l).mp h)).symm
  | false => exact (decide_eq_false fun c => by rw [(Ky.beq_iff k l).mpr c] at h; cases h).symm
theorem Ky.beqs_dec (k l : List Ky) : Ky.beqs k l = decide (k = l) := by
  cases h : Ky.beqs k l with
  | true => exact (decide_eq_true ((Ky.beqs_iff k l).mp h)).symm
  | false => exact (decide_eq_false fun c => by rw [(Ky.beqs_iff k l).mpr c] at h; cases h).symm
theorem Ky.dats_cons {k : Ky} {ks : List Ky} (h : Ky.dats (k :: ks)) : (k.dat = true ∧ k.dep ≤ 60) ∧ Ky.dats ks := ⟨h k List.mem_cons_self, fun y hy => h y (List.mem_cons_of_mem _ hy)⟩
theorem Ky.dats_append {ks ls : List Ky} (h : Ky.dats ks) (g : Ky.dats ls) : Ky.dats (ks ++ ls) := fun y hy => (List.mem_append.mp hy).elim (h y) (g y)
theorem Ky.dats_nil : Ky.dats [] := fun _ h => by cases h
theorem Ky.dats_one {k : Ky} (h : k.dat = true) (d : k.dep ≤ 60) : Ky.dats [k] := fun y hy => by
  rcases List.mem_cons.mp hy with rfl | hy
  · exact ⟨h, d⟩
  · cases hy
theorem Ky.eqvsD : ∀ xs ys : List Ky, Ky.dats xs → Ky.dats ys → PyData.eqvAll (Ky.toDs xs) (Ky.toDs ys) = Ky.beqs xs ys
  | [], [], _, _ => by simp [Ky.toDs, PyData.eqvAll, Ky.beqs]
  | x :: xs, y :: ys, h, g => by
    obtain ⟨h1, h2⟩ := Ky.dats_cons h
    obtain ⟨g1, g2⟩ := Ky.dats_cons g
    simp only [Ky.toDs, PyData.eqvAll, Ky.beqs]
    rw [Ky.eqvD x y h1.1 g1.1, Ky.eqvsD xs ys h2 g2]
  | [], _ :: _, _, _ => by simp [Ky.toDs, PyData.eqvAll, Ky.beqs]
  | _ :: _, [], _, _ => by simp [Ky.toDs, PyData.eqvAll, Ky.beqs]
theorem Ky.canLaysD : ∀ ks : List Ky, Ky.dats ks → PyData.canLayAll0 (Ky.toDs ks) = true
  | [], _ => by simp [Ky.toDs, PyData.canLayAll0]
  | k :: ks, h => by
    obtain ⟨h1, h2⟩ := Ky.dats_cons h
    simp only [Ky.toDs, PyData.canLayAll0, Ky.canLayD k h1.1, Ky.canLaysD ks h2, Bool.and_self]
theorem Ky.depsD : ∀ ks : List Ky, Ky.dats ks → PyData.depthAll (Ky.toDs ks) ≤ 60
  | [], _ => by simp [Ky.toDs, PyData.depthAll]
  | k :: ks, h => by
    obtain ⟨h1, h2⟩ := Ky.dats_cons h
    simp only [Ky.toDs, PyData.depthAll]
    rw [Ky.depth_toD]
    have := Ky.depsD ks h2
    omega
theorem Ky.shapedD {k : Ky} (h : k.dat = true) (d : k.dep ≤ 60) : SeqAt.shaped k.toD = true := by
  unfold SeqAt.shaped
  rw [Ky.canLayD k h, Ky.depth_toD, decide_eq_true (by omega)]
  rfl
theorem Ky.shapedL {ks : List Ky} (h : Ky.dats ks) : SeqAt.shaped (.list (Ky.toDs ks)) = true := by
  unfold SeqAt.shaped
  have := Ky.depsD ks h
  rw [PyData.canLay0, Ky.canLaysD ks h, PyData.depth, decide_eq_true (by omega)]
  rfl
section
variable {H H' : Hp} {K : PySem.W.Frag}
theorem KyAt.dpD (k : Ky) (v : V) (g : k.dat = true) (h : KyAt H v k) : Dp K H v k.toD := by
  rcases Ky.dat_cases g with rfl | g
  · cases h
    have e : Ky.toD .non = .none := by simp [Ky.toD]
    rw [e]
    exact .non
  · exact KyAt.dp k v g h
theorem KysAt.dpD : ∀ (ks : List Ky) (vs : List V), Ky.dats ks → KysAt H vs ks → DpAll K H vs (Ky.toDs ks)
  | [], _, _, h => by cases h; rw [Ky.toDs]; exact .nil
  | k :: ks, _, g, h => by
    obtain ⟨h1, h2⟩ := Ky.dats_cons g
    cases h with
    | cons h t => rw [Ky.toDs]; exact .cons (KyAt.dpD k _ h1.1 h) (KysAt.dpD ks _ h2 t)
theorem eq_rows {a b : Addr} {vs ws : List V} {ks ls : List Ky} {Q : VK} (ha : SqL K H a vs) (hk : KysAt H vs ks) (hb : SqL K H b ws) (hl : KysAt H ws ls) (dk : Ky.dats ks) (dl : Ky.dats ls) (q : Q (.bl (decide (ks = ls))) H) : rEqD K (.ref a) (.ref b) H Q := by
  refine ⟨.list (Ky.toDs ks), .list (Ky.toDs ls), .lst ha (KysAt.dpD ks _ dk hk), .lst hb (KysAt.dpD ls _ dl hl), Ky.shapedL dk, Ky.shapedL dl, ?_⟩
  rw [PyData.eqv, Ky.eqvsD _ _ dk dl, Ky.beqs_dec]
  exact q
theorem ne_rows {a b : Addr} {vs ws : List V} {ks ls : List Ky} {Q : VK} (ha : SqL K H a vs) (hk : KysAt H vs ks) (hb : SqL K H b ws) (hl : KysAt H ws ls) (dk : Ky.dats ks) (dl : Ky.dats ls) (q : Q (.bl (!decide (ks = ls))) H) : rNeD K (.ref a) (.ref b) H Q := by
  refine ⟨.list (Ky.toDs ks), .list (Ky.toDs ls), .lst ha (KysAt.dpD ks _ dk hk), .lst hb (KysAt.dpD ls _ dl hl), Ky.shapedL dk, Ky.shapedL dl, ?_⟩
  rw [PyData.eqv, Ky.eqvsD _ _ dk dl, Ky.beqs_dec]
  exact q
theorem any_dec (k : Ky) (hk : k.dat = true) : ∀ ks : List Ky, Ky.dats ks → ((Ky.toDs ks).any fun z => PyData.eqv z k.toD) = decide (k ∈ ks)
  | [], _ => by simp [Ky.toDs]
  | x :: xs, h => by
    obtain ⟨h1, h2⟩ := Ky.dats_cons h
    rw [Ky.toDs, List.any_cons, any_dec k hk xs h2, Ky.eqvD x k h1.1 hk, Ky.beq_dec]
    by_cases e : x = k
    · subst e
      simp
    · have e' : ¬ k = x := fun c => e c.symm
      simp [e, e']
theorem in_row {v : V} {a : Addr} {vs : List V} {k : Ky} {ks : List Ky} {Q : VK} (hv : KyAt H v k) (ha : SqL K H a vs) (hks : KysAt H vs ks) (gk : k.dat = true) (dk : k.dep ≤ 60) (d : Ky.dats ks) (q : Q (.bl (decide (k ∈ ks))) H) : rInD K v (.ref a) H Q := by
  refine ⟨k.toD, Ky.toDs ks, KyAt.dpD k v gk hv, .lst ha (KysAt.dpD ks _ d hks), Ky.shapedD gk dk, Ky.shapedL d, ?_⟩
  rw [any_dec k gk ks d]
  exact q
/-- rows stay where a list is changed -/
theorem KyAt.butD {D : Addr} {xs0 : List V} (s : ∀ b o, b ≠ D → H b = some o → H' b = some o) (e : H D = some (.lst xs0)) {k : Ky} {v : V} (g : k.dat = true) (h : KyAt H v k) : KyAt H' v k := by
  rcases Ky.dat_cases g with rfl | g
  · cases h
    exact .non
  · exact KyAt.but s e k v g h
theorem KysAt.butD {D : Addr} {xs0 : List V} (s : ∀ b o, b ≠ D → H b = some o → H' b = some o) (e : H D = some (.lst xs0)) : ∀ {ks : List Ky} {vs : List V}, Ky.dats ks → KysAt H vs ks → KysAt H' vs ks
  | [], _, _, h => by cases h; exact .nil
  | k :: ks, _, g, h => by
    obtain ⟨h1, h2⟩ := Ky.dats_cons g
    cases h with
    | cons h t => exact .cons (KyAt.butD s e h1.1 h) (KysAt.butD s e h2 t)
theorem KyAt.ne_non {v : V} {k : Ky} (h : KyAt H v k) : (v = .non) ↔ (k = .non) := by
  cases h <;> simp
end
theorem units65 {A : Around} {k : Nat} (r : Room k A) : A.units + 65 < cLine := by have := r.un; omega
theorem rd_never {D : Ends} {σ : L2.St} {H : Hp} : tNever D σ H = False := rfl
theorem rd_dget {td ty : TE} {σ : L2.St} {H : Hp} {Q : VK} : tDGet td ty σ H Q = td σ H fun x H1 => ty σ H1 fun y H2 => isRef x fun a => ∃ v, DGet H2 a y (some v) ∧ Q v H2 := by
  unfold tDGet
  apply congrArg
  funext x H1
  apply congrArg
  funext y H2
  rw [← isRef_eq]
  apply propext
  constructor
  · rintro ⟨a, v, e, h⟩; exact ⟨a, e, v, h⟩
  · rintro ⟨a, e, v, h⟩; exact ⟨a, v, e, h⟩
theorem rd_din {td ty : TE} {σ : L2.St} {H : Hp} {Q : VK} : tDIn ty td σ H Q = ty σ H fun y H1 => td σ H1 fun x H2 => isRef x fun a => ∃ o, DGet H2 a y o ∧ Q (.bl o.isSome) H2 := by
  unfold tDIn
  apply congrArg
  funext y H1
  apply congrArg
  funext x H2
  rw [← isRef_eq]
  apply propext
  constructor
  · rintro ⟨a, v, e, h⟩; exact ⟨a, e, v, h⟩
  · rintro ⟨a, e, v, h⟩; exact ⟨a, v, e, h⟩
theorem rd_dnotin {td ty : TE} {σ : L2.St} {H : Hp} {Q : VK} : tDNotIn ty td σ H Q = ty σ H fun y H1 => td σ H1 fun x H2 => isRef x fun a => ∃ o, DGet H2 a y o ∧ Q (.bl (!o.isSome)) H2 := by
  unfold tDNotIn
  apply congrArg
  funext y H1
  apply congrArg
  funext x H2
  rw [← isRef_eq]
  apply propext
  constructor
  · rintro ⟨a, v, e, h⟩; exact ⟨a, e, v, h⟩
  · rintro ⟨a, e, v, h⟩; exact ⟨a, v, e, h⟩
theorem rd_dput {td ty tv : TE} {D : Ends} {σ : L2.St} {H : Hp} : sDPut td ty tv D σ H = tv σ H fun v H1 => td σ H1 fun x H2 => ty σ H2 fun y H3 => isRef x fun a => ∃ H4, DPut H3 a y v H4 ∧ D.nx σ H4 := by
  unfold sDPut
  apply congrArg
  funext v H1
  apply congrArg
  funext x H2
  apply congrArg
  funext y H3
  rw [← isRef_eq]
  apply propext
  constructor
  · rintro ⟨a, v, e, h⟩; exact ⟨a, e, v, h⟩
  · rintro ⟨a, e, v, h⟩; exact ⟨a, v, e, h⟩
def isR0 (vs : List V) (f : Addr → Prop) : Prop := match vs with | [.ref a] => f a | _ => False
theorem rd_isR0 {a : Addr} {f : Addr → Prop} : isR0 [.ref a] f = f a := rfl
theorem rd_enum {K : PySem.W.Frag} {tr : TA} {σ : L2.St} {H : Hp} {R : It → Hp → Prop} : iEnum K tr σ H R = tr σ H fun vs H1 => isR0 vs fun a => (∃ xs, SqL K H1 a xs) ∧ R (Ite K a) H1 := by
  unfold iEnum
  apply congrArg
  funext vs H1
  apply propext
  constructor
  · rintro ⟨a, xs, rfl, h, r⟩; exact ⟨⟨xs, h⟩, r⟩
  · intro h
    unfold isR0 at h
    split at h
    · obtain ⟨⟨xs, h⟩, r⟩ := h
      exact ⟨_, xs, rfl, h, r⟩
    · exact h.elim
/-- enumerate: the pair is new, then taken apart -/
theorem go_enum {K : PySem.W.Frag} {D : Ends} {σ : L2.St} {H : Hp} {a : Addr} {xs : List V} {g : TG} {tb : TS} (Pv : Nat → L2.St → Hp → Prop) (h0 : Pv 0 σ H) (hl : ∀ i σ H, i ≤ xs.length → Pv i σ H → SqL K H a xs)
    (hs : ∀ (N : L2.St → Hp → Prop) (i : Nat) x σ H T, xs[i]? = some x → Pv i σ H → Fresh H T → (∀ σ' H', Pv (i + 1) σ' H' → N σ' H') → g (.ref T) σ (upd H T (.tup [.int i, x])) fun σ2 H2 => tb { D with nx := N, ct := N, bk := D.nx } σ2 H2) (hd : ∀ σ H, Pv xs.length σ H → D.nx σ H) : forGo (Ite K a) g tb D σ H := by
  refine go_it (walk_enum (xs := xs)) Pv h0 hl ?_ hd
  rintro N i x σ H H' hi p ⟨T, x1, y1, rfl, hT, rfl, e1, e2⟩ hN
  cases e1
  exact hs N i y1 σ H T e2 p hT hN
theorem rd_aug {i : Nat} {te : TE} {ti : TIp} {D : Ends} {σ : L2.St} {H : Hp} : tAug i te ti D σ H = (match σ[i]? with | some (some x) => te σ H fun y H1 => ti x y H1 fun z H2 => D.nx (σ.set i (some z)) H2 | _ => False) := by
  unfold tAug
  apply propext
  constructor
  · rintro ⟨v, e, q⟩
    rw [e]; exact q
  · intro h
    split at h
    · rename_i v e
      exact ⟨v, e, h⟩
    · exact h.elim
theorem rd_ipI {f : Int → Int → Int} {i j : Int} {H : Hp} {Q : VK} : ipI f (.int i) (.int j) H Q = Q (.int (f i j)) H := by
  unfold ipI
  apply propext
  constructor
  · rintro ⟨a, b, e1, e2, q⟩
    cases e1; cases e2; exact q
  · intro q
    exact ⟨i, j, rfl, rfl, q⟩
def sizeB (n : Int) : Bool := decide (8 ≤ n ∧ n ≤ 4096) && decide (Builtin.bitAnd n (n - 1) = 0)
theorem sizeB_pow {j : Nat} (h0 : 3 ≤ j) (h1 : j ≤ 12) : sizeB (2 ^ j) = true := by
  have h : (List.range 13).all (fun j => decide (j < 3) || sizeB (2 ^ j)) = true := by decide +kernel
  have := (List.all_eq_true.mp h) j (List.mem_range.mpr (by omega))
  rw [decide_eq_false (by omega), Bool.false_or] at this
  exact this
theorem at_any {xs : List V} {c : Int} (h0 : 0 ≤ c) (h1 : c < xs.length) : ∃ v, xs[c.toNat]? = some v ∧ atI xs c = some v := by
  have hlt : c.toNat < xs.length := by omega
  refine ⟨xs[c.toNat], List.getElem?_eq_getElem hlt, ?_⟩
  obtain ⟨j, rfl⟩ : ∃ j : Nat, c = (j : Int) := ⟨c.toNat, by omega⟩
  exact atI_nat (List.getElem?_eq_getElem hlt)
theorem get_int {cs : List Int} {s : Int} (h0 : 0 ≤ s) (h1 : s < cs.length) : (cs.map V.int)[s.toNat]? = some (.int (getI cs s)) := by
  rw [List.getElem?_map, List.getElem?_eq_getElem (by omega)]
  unfold getI
  rw [List.getD_eq_getElem?_getD, List.getElem?_eq_getElem (by omega)]
  rfl
end My
namespace My
open PySem PySem.Spec PyProof.Rows L2
/-! laying a row of keys into slots -/
theorem inv_of {s : Int} (h : s % 2 = 1) {j : Nat} (hj : j ≤ 12) : ∃ b, Inv2 s b j := ⟨_, inv2_mono (inv2_step (inv2_step (inv2_start h))) (by omega)⟩
theorem stride_odd (m : Int) : strideF m % 2 = 1 := by rw [strideF_eq]; omega
theorem reach (m : Int) {d : Int} {j : Nat} (hj : j ≤ 12) (h0 : 0 ≤ d) (h1 : d < 2 ^ j) : ∃ c : Nat, (c : Int) < 2 ^ j ∧ probeF m (2 ^ j) c = d := by
  obtain ⟨b, hb⟩ := inv_of (stride_odd m) hj
  have z : (0 : Int) < 2 ^ j := (pow_le hj).1
  have n0 := Int.emod_nonneg ((d - m) * b) (Int.ne_of_gt z)
  have n1 := Int.emod_lt_of_pos ((d - m) * b) z
  refine ⟨((d - m) * b % 2 ^ j).toNat, by omega, ?_⟩
  rw [probeF_eq, Int.toNat_of_nonneg n0]
  exact (slot_of h0 h1 (inv2_end hb z)).symm
theorem probe_range (m c : Int) {j : Nat} (hj : j ≤ 12) : 0 ≤ probeF m (2 ^ j) c ∧ probeF m (2 ^ j) c < 2 ^ j := by
  have z : (0 : Int) < 2 ^ j := (pow_le hj).1
  rw [probeF_eq]
  exact ⟨Int.emod_nonneg _ (Int.ne_of_gt z), Int.emod_lt_of_pos _ z⟩
theorem probe_next (m : Int) (c j : Nat) : (probeF m (2 ^ j) (c : Int) + strideF m) % 2 ^ j = probeF m (2 ^ j) ((c + 1 : Nat) : Int) := by
  rw [probeF_eq, probeF_eq, Int.emod_add_emod]
  congr 1
  rw [Int.natCast_add, Int.add_mul, Int.add_assoc]
  simp
theorem probe_zero (m : Int) (j : Nat) : m % 2 ^ j = probeF m (2 ^ j) ((0 : Nat) : Int) := by
  rw [probeF_eq]
  simp
def Bare (cs : List Int) (j : Nat) (m : Int) (n : Nat) : Prop := n < 2 ^ j ∧ getI cs (probeF m (2 ^ j) n) = -1 ∧ ∀ i : Nat, i < n → getI cs (probeF m (2 ^ j) i) ≠ -1
def bareN (cs : List Int) (j : Nat) (m : Int) : Nat := ((List.range (2 ^ j)).find? fun c : Nat => decide (getI cs (probeF m (2 ^ j) (c : Int)) = -1)).getD 0
theorem getI_mem {cs : List Int} {x : Int} (h : x ∈ cs) : ∃ s : Nat, s < cs.length ∧ getI cs s = x := by
  obtain ⟨s, hs, e⟩ := List.mem_iff_getElem.mp h
  refine ⟨s, hs, ?_⟩
  unfold getI
  rw [Int.toNat_natCast, List.getD_eq_getElem?_getD, List.getElem?_eq_getElem hs]
  exact e
theorem pow_cast (j : Nat) : ((2 ^ j : Nat) : Int) = (2 : Int) ^ j := by norm_cast
theorem bare_ex {cs : List Int} {j : Nat} (m : Int) (hj : j ≤ 12) (e : cs.length = 2 ^ j) (h : (-1) ∈ cs) : Bare cs j m (bareN cs j m) := by
  obtain ⟨s, hs, es⟩ := getI_mem h
  obtain ⟨c, hc, ec⟩ := reach m (d := s) hj (by omega) (by have := pow_cast j; omega)
  have hc' : c < 2 ^ j := by have := pow_cast j; omega
  cases q : (List.range (2 ^ j)).find? fun c : Nat => decide (getI cs (probeF m (2 ^ j) (c : Int)) = -1) with
  | none =>
    rw [List.find?_eq_none] at q
    have := q c (List.mem_range.mpr hc')
    rw [ec, es] at this
    exact (this (by decide)).elim
  | some n =>
    have en : bareN cs j m = n := by unfold bareN; rw [q]; rfl
    rw [en]
    rw [List.find?_range_eq_some] at q
    obtain ⟨q1, q2, q3⟩ := q
    refine ⟨List.mem_range.mp q2, of_decide_eq_true q1, fun i hi => ?_⟩
    have := q3 i hi
    simpa using this
theorem Bare.uniq {cs : List Int} {j : Nat} {m : Int} {a b : Nat} (p : Bare cs j m a) (q : Bare cs j m b) : a = b := by
  rcases Nat.lt_trichotomy a b with h | h | h
  · exact absurd p.2.1 (q.2.2 a h)
  · exact h
  · exact absurd q.2.1 (p.2.2 b h)
theorem getI_set {cs : List Int} {a b v : Int} (h0 : 0 ≤ a) (h1 : a < cs.length) (hb : 0 ≤ b) : getI (cs.set a.toNat v) b = if b = a then v else getI cs b := by
  unfold getI
  rw [List.getD_eq_getElem?_getD, List.getElem?_set]
  by_cases e : b = a
  · subst e
    rw [if_pos rfl, if_pos (by omega), if_pos rfl]
    rfl
  · rw [if_neg (by omega), if_neg e, List.getD_eq_getElem?_getD]
def layS (cs : List Int) (j i : Nat) (k : Ky) : List Int := if k = .non then cs else cs.set (probeF k.stamp (2 ^ j) (bareN cs j k.stamp)).toNat i
def layN (j : Nat) (ks : List Ky) : Nat → List Int
  | 0 => List.replicate (2 ^ j) (-1)
  | i + 1 => match ks[i]? with
    | some k => layS (layN j ks i) j i k
    | none => layN j ks i
structure Laid (ks : List Ky) (j i : Nat) (cs : List Int) : Prop where
  len : cs.length = 2 ^ j
  cnt : 2 ^ j ≤ cs.count (-1) + i
  cell : ∀ s : Int, 0 ≤ s → s < 2 ^ j → getI cs s = -1 ∨ (0 ≤ getI cs s ∧ getI cs s < i ∧ ∃ k, ks[(getI cs s).toNat]? = some k ∧ k ≠ .non)
  inj : ∀ s t : Int, 0 ≤ s → s < 2 ^ j → 0 ≤ t → t < 2 ^ j → getI cs s = getI cs t → getI cs s ≠ -1 → s = t
  ahead : ∀ (p : Nat) k, p < i → ks[p]? = some k → k ≠ .non → ∃ n : Nat, n < 2 ^ j ∧ getI cs (probeF k.stamp (2 ^ j) n) = p ∧ ∀ t : Nat, t < n → 0 ≤ getI cs (probeF k.stamp (2 ^ j) t) ∧ getI cs (probeF k.stamp (2 ^ j) t) < p
theorem Laid.mem {ks : List Ky} {j i : Nat} {cs : List Int} (h : Laid ks j i cs) (hi : i < 2 ^ j) : (-1) ∈ cs := by
  have := h.cnt
  exact List.count_pos_iff.mp (by omega)
theorem laid_zero (ks : List Ky) (j : Nat) : Laid ks j 0 (layN j ks 0) := by
  have e : ∀ s : Int, 0 ≤ s → s < 2 ^ j → getI (List.replicate (2 ^ j) (-1 : Int)) s = -1 := by
    intro s h0 h1
    have := pow_cast j
    unfold getI
    rw [List.getD_eq_getElem?_getD, List.getElem?_replicate, if_pos (by omega)]
    rfl
  refine ⟨List.length_replicate, ?_, fun s h0 h1 => .inl (e s h0 h1), fun s t h0 h1 _ _ _ hn => absurd (e s h0 h1) hn, fun p k hp => by omega⟩
  show 2 ^ j ≤ (List.replicate (2 ^ j) (-1 : Int)).count (-1) + 0
  rw [List.count_replicate_self]
  omega
theorem laid_step {ks : List Ky} {j i : Nat} {cs : List Int} {k : Ky} (hj : j ≤ 12) (hi : i < 2 ^ j) (h : Laid ks j i cs) (hk : ks[i]? = some k) : Laid ks j (i + 1) (layS cs j i k) := by
  unfold layS
  by_cases hn : k = .non
  · rw [if_pos hn]
    refine ⟨h.len, by have := h.cnt; omega, fun s h0 h1 => ?_, h.inj, fun p k' hp e hk' => ?_⟩
    · rcases h.cell s h0 h1 with q | ⟨q1, q2, q3⟩
      · exact .inl q
      · exact .inr ⟨q1, by omega, q3⟩
    · rcases Nat.lt_or_ge p i with hp' | hp'
      · exact h.ahead p k' hp' e hk'
      · have : p = i := by omega
        subst this
        rw [hk] at e
        cases e
        exact absurd hn hk'
  · rw [if_neg hn]
    obtain ⟨b1, b2, b3⟩ := bare_ex k.stamp hj h.len (h.mem hi)
    generalize bareN cs j k.stamp = n at b1 b2 b3 ⊢
    obtain ⟨r0, r1⟩ := probe_range k.stamp n hj
    have hl := h.len
    have pc := pow_cast j
    have gs : ∀ t : Int, 0 ≤ t → getI (cs.set (probeF k.stamp (2 ^ j) n).toNat i) t = if t = probeF k.stamp (2 ^ j) n then (i : Int) else getI cs t := fun t ht => getI_set r0 (by omega) ht
    have lt : (probeF k.stamp (2 ^ j) n).toNat < cs.length := by omega
    refine ⟨by rw [List.length_set]; exact hl, ?_, fun s h0 h1 => ?_, fun s t h0 h1 t0 t1 e ne => ?_, fun p k' hp e hk' => ?_⟩
    · have c := h.cnt
      rw [List.count_set lt]
      split <;> split <;> omega
    · rw [gs s h0]
      split
      · exact .inr ⟨by omega, by omega, k, by rw [Int.toNat_natCast]; exact hk, hn⟩
      · rcases h.cell s h0 h1 with q | ⟨q1, q2, q3⟩
        · exact .inl q
        · exact .inr ⟨q1, by omega, q3⟩
    · rw [gs s h0, gs t t0] at e
      rw [gs s h0] at ne
      split at e <;> split at e
      · omega
      · rcases h.cell t t0 t1 with q | ⟨q1, q2, q3⟩ <;> omega
      · rcases h.cell s h0 h1 with q | ⟨q1, q2, q3⟩ <;> omega
      · rename_i c1 c2
        rw [if_neg c1] at ne
        exact h.inj s t h0 h1 t0 t1 e ne
    · have keep : ∀ c : Nat, getI cs (probeF k'.stamp (2 ^ j) c) ≠ -1 → getI (cs.set (probeF k.stamp (2 ^ j) n).toNat i) (probeF k'.stamp (2 ^ j) c) = getI cs (probeF k'.stamp (2 ^ j) c) := by
        intro c hc
        rw [gs _ (probe_range _ _ hj).1, if_neg]
        intro e2
        rw [e2] at hc
        exact hc b2
      rcases Nat.lt_or_ge p i with hp' | hp'
      · obtain ⟨m, a1, a2, a3⟩ := h.ahead p k' hp' e hk'
        refine ⟨m, a1, by rw [keep m (by omega)]; exact a2, fun t ht => ?_⟩
        have := a3 t ht
        rw [keep t (by omega)]
        exact this
      · have ep : p = i := by omega
        subst ep
        rw [hk] at e
        cases e
        refine ⟨n, b1, by rw [gs _ r0, if_pos rfl], fun t ht => ?_⟩
        rw [keep t (b3 t ht)]
        rcases h.cell _ (probe_range k.stamp t hj).1 (probe_range k.stamp t hj).2 with q | ⟨q1, q2, q3⟩
        · exact absurd q (b3 t ht)
        · exact ⟨q1, q2⟩
theorem laid_at {ks : List Ky} {j : Nat} (hj : j ≤ 12) (hz : ks.length < 2 ^ j) : ∀ i : Nat, i ≤ ks.length → Laid ks j i (layN j ks i)
  | 0, _ => laid_zero ks j
  | i + 1, hi => by
    have e : ks[i]? = some ks[i] := List.getElem?_eq_getElem (by omega)
    have h := laid_step hj (by omega) (laid_at hj hz i (by omega)) e
    have e2 : layN j ks (i + 1) = layS (layN j ks i) j i ks[i] := by
      rw [layN]
      simp only [e]
    rw [e2]
    exact h
theorem layN_step {ks : List Ky} {j i : Nat} {k : Ky} (h : ks[i]? = some k) : layN j ks (i + 1) = layS (layN j ks i) j i k := by
  rw [layN]
  simp only [h]
/-- the first bare slot -/
def spBare (K : PySem.W.Frag) : Sp := fun vs H Q _ => ∃ (a : Addr) (v : V) (cs : List Int) (k : Ky) (j : Nat), vs = [.ref a, v] ∧ SqL K H a (cs.map V.int) ∧ KyAt H v k ∧ (k.good = true ∧ k.dep ≤ 3) ∧ (cs.length = 2 ^ j ∧ j ≤ 12 ∧ (-1) ∈ cs) ∧ Q (.int (probeF k.stamp (2 ^ j) (bareN cs j k.stamp))) H
theorem rd_spBare {K : PySem.W.Frag} {a : Addr} {v : V} {H : Hp} {Q : VK} {E : XK} : spBare K [.ref a, v] H Q E = ∃ (cs : List Int) (k : Ky) (j : Nat), SqL K H a (cs.map V.int) ∧ KyAt H v k ∧ (k.good = true ∧ k.dep ≤ 3) ∧ (cs.length = 2 ^ j ∧ j ≤ 12 ∧ (-1) ∈ cs) ∧ Q (.int (probeF k.stamp (2 ^ j) (bareN cs j k.stamp))) H := by
  unfold spBare
  apply propext
  constructor
  · rintro ⟨a', v', cs, k, j, e, q⟩; cases e; exact ⟨cs, k, j, q⟩
  · rintro ⟨cs, k, j, q⟩; exact ⟨a, v, cs, k, j, rfl, q⟩
theorem len_bare {K : PySem.W.Frag} {vs H Q E} (h : spBare K vs H Q E) : vs.length = 2 := by obtain ⟨_, _, _, _, _, rfl, _⟩ := h; rfl
def spStream (K : PySem.W.Frag) : Sp := fun vs H Q _ => ∃ (a : Addr) (ns : List Int) (m : Int), vs = [.ref a, .int m] ∧ SqL K H a (ns.map V.int) ∧ (ns.length ≤ 100 ∧ 0 ≤ m ∧ m ≤ 10000) ∧ ∀ (p : Addr) (H' : Hp) (xs : List Int), Same H H' → Fresh H p → H' p = some (.lst (xs.map V.int)) → xs.length = m.toNat → (∀ x ∈ xs, 0 ≤ x ∧ x < 2 ^ 44) → Q (.ref p) H'
theorem len_stream {K : PySem.W.Frag} {vs H Q E} (h : spStream K vs H Q E) : vs.length = 2 := by obtain ⟨_, _, _, rfl, _⟩ := h; rfl
/-- keys, or none -/
def RowOk (ks : List Ky) : Prop := ∀ k ∈ ks, k = .non ∨ KeyOk k
theorem RowOk.dats {ks : List Ky} (h : RowOk ks) : Ky.dats ks := fun k hk => by
  rcases h k hk with rfl | h
  · exact ⟨rfl, by simp [Ky.dep]⟩
  · exact ⟨Ky.dat_of h.g, by have := h.d; omega⟩
theorem RowOk.get {ks : List Ky} {i : Nat} {k : Ky} (h : RowOk ks) (e : ks[i]? = some k) : k = .non ∨ KeyOk k := h k (List.mem_of_getElem? e)
def spCellsOf (K : PySem.W.Frag) : Sp := fun vs H Q _ => ∃ (a : Addr) (ws : List V) (ks : List Ky) (j : Nat), vs = [.ref a, .int (2 ^ j)] ∧ SqL K H a ws ∧ KysAt H ws ks ∧ RowOk ks ∧ (3 ≤ j ∧ j ≤ 12 ∧ (ks.length : Int) ≤ 2 * 2 ^ j / 3) ∧
  ∀ p H', Same H H' → Fresh H p → H' p = some (.lst ((layN j ks ks.length).map V.int)) → Q (.ref p) H'
theorem len_cellsOf {K : PySem.W.Frag} {vs H Q E} (h : spCellsOf K vs H Q E) : vs.length = 2 := by obtain ⟨_, _, _, _, rfl, _⟩ := h; rfl
def spAhead (K : PySem.W.Frag) : Sp := fun vs H Q _ => ∃ (a : Addr) (v : V) (p s : Int) (cs : List Int) (k : Ky) (j : Nat), vs = [.ref a, v, .int p, .int s] ∧ SqL K H a (cs.map V.int) ∧ KyAt H v k ∧ (k.good = true ∧ k.dep ≤ 3) ∧ (cs.length = 2 ^ j ∧ j ≤ 12) ∧
  (∃ n : Nat, n < 2 ^ j ∧ probeF k.stamp (2 ^ j) n = s ∧ ∀ t : Nat, t < n → 0 ≤ getI cs (probeF k.stamp (2 ^ j) t) ∧ getI cs (probeF k.stamp (2 ^ j) t) < p) ∧ Q (.bl true) H
theorem len_ahead {K : PySem.W.Frag} {vs H Q E} (h : spAhead K vs H Q E) : vs.length = 4 := by obtain ⟨_, _, _, _, _, _, _, rfl, _⟩ := h; rfl
def spLaid (K : PySem.W.Frag) : Sp := fun vs H Q _ => ∃ (a r : Addr) (cs : List Int) (ws : List V) (ks : List Ky) (j : Nat), vs = [.ref a, .ref r, .int (2 ^ j)] ∧ H a = some (.lst (cs.map V.int)) ∧ SqL K H r ws ∧ KysAt H ws ks ∧ RowOk ks ∧ (3 ≤ j ∧ j ≤ 12) ∧ Laid ks j ks.length cs ∧ ∀ H', Same H H' → Q (.bl true) H'
theorem len_laid {K : PySem.W.Frag} {vs H Q E} (h : spLaid K vs H Q E) : vs.length = 3 := by obtain ⟨_, _, _, _, _, _, rfl, _⟩ := h; rfl
/-- the places' slots -/
def Sl (kvs : List (Key × V)) (cs : List Int) (i : Nat) : Prop := (∀ s : Nat, s < i → getI cs s ≠ -1 → valV kvs (.inl (getI cs s)) = some (.int s)) ∧ ∀ (v : Int) x, valV kvs (.inl v) = some x → ∃ s : Nat, s < i ∧ getI cs s = v ∧ v ≠ -1
theorem Sl.nil (cs : List Int) : Sl [] cs 0 := ⟨fun s h => by omega, fun v x h => by cases h⟩
theorem Sl.skip {kvs : List (Key × V)} {cs : List Int} {i : Nat} (h : Sl kvs cs i) (e : ¬ ¬ getI cs (i : Int) = -1) : Sl kvs cs (i + 1) := by
  refine ⟨fun s hs ne => ?_, fun v x hv => ?_⟩
  · rcases Nat.lt_or_ge s i with q | q
    · exact h.1 s q ne
    · have : s = i := by omega
      subst this
      exact absurd ne e
  · obtain ⟨s, a, b⟩ := h.2 v x hv
    exact ⟨s, by omega, b⟩
theorem Sl.put {kvs : List (Key × V)} {cs : List Int} {i : Nat} {c : Int} (h : Sl kvs cs i) (e : getI cs (i : Int) = c) (ne : c ≠ -1) (nw : valV kvs (.inl c : Key) = none) : Sl (putK kvs (.inl c) (.int i)) cs (i + 1) := by
  refine ⟨fun s hs n2 => ?_, fun v x hv => ?_⟩
  · rw [valV_put]
    rcases Nat.lt_or_ge s i with q | q
    · have := h.1 s q n2
      rw [if_neg, this]
      intro c2
      rw [c2] at this
      rw [this] at nw
      cases nw
    · have : s = i := by omega
      subst this
      rw [e, if_pos rfl]
  · rw [valV_put] at hv
    split at hv
    · rename_i c2
      cases c2
      exact ⟨i, by omega, e, ne⟩
    · obtain ⟨s, a, b⟩ := h.2 v x hv
      exact ⟨s, by omega, b⟩
theorem Sl.new {ks : List Ky} {j i : Nat} {kvs : List (Key × V)} {cs : List Int} {c : Int} (L : Laid ks j ks.length cs) (h : Sl kvs cs i) (hi : i < 2 ^ j) (e : getI cs (i : Int) = c) (ne : c ≠ -1) : valV kvs (.inl c : Key) = none := by
  cases q : valV kvs (.inl c : Key) with
  | none => rfl
  | some x =>
    obtain ⟨s, h1, h2, _⟩ := h.2 c x q
    have pc := pow_cast j
    have := L.inj s i (by omega) (by omega) (by omega) (by omega) (by rw [h2, e]) (by rw [h2]; exact ne)
    omega
end My
namespace My
open PySem PySem.Spec PyProof.Rows L2
/-! papers -/
section
variable {H H' : Hp} {K : PySem.W.Frag}
theorem eq_any {v w : V} {k l : Ky} {Q : VK} (hv : KyAt H v k) (hw : KyAt H w l) (gk : k.dat = true) (gl : l.dat = true) (dk : k.dep ≤ 60) (dl : l.dep ≤ 60) (q : Q (.bl (decide (k = l))) H) : rEqD K v w H Q := by
  refine ⟨k.toD, l.toD, KyAt.dpD k v gk hv, KyAt.dpD l w gl hw, Ky.shapedD gk dk, Ky.shapedD gl dl, ?_⟩
  rw [Ky.eqvD _ _ gk gl, Ky.beq_dec]
  exact q
theorem ne_any {v w : V} {k l : Ky} {Q : VK} (hv : KyAt H v k) (hw : KyAt H w l) (gk : k.dat = true) (gl : l.dat = true) (dk : k.dep ≤ 60) (dl : l.dep ≤ 60) (q : Q (.bl (!decide (k = l))) H) : rNeD K v w H Q := by
  refine ⟨k.toD, l.toD, KyAt.dpD k v gk hv, KyAt.dpD l w gl hw, Ky.shapedD gk dk, Ky.shapedD gl dl, ?_⟩
  rw [Ky.eqvD _ _ gk gl, Ky.beq_dec]
  exact q
end
theorem RowOk.one {k : Ky} (h : k = .non ∨ KeyOk k) : k.dat = true ∧ k.dep ≤ 60 := by
  rcases h with rfl | h
  · exact ⟨rfl, by simp [Ky.dep]⟩
  · exact ⟨Ky.dat_of h.g, by have := h.d; omega⟩
def CellsOk (cs : List Int) (n : Nat) : Prop := ∀ s : Int, 0 ≤ s → s < cs.length → getI cs s = -1 ∨ getI cs s = -2 ∨ (0 ≤ getI cs s ∧ getI cs s < n)
def stopB (cs : List Int) (ks : List Ky) (j : Nat) (k : Ky) (n : Nat) : Bool := decide (getI cs (probeF k.stamp (2 ^ j) n) = -1) || (decide (getI cs (probeF k.stamp (2 ^ j) n) ≠ -2) && decide (ks[(getI cs (probeF k.stamp (2 ^ j) n)).toNat]? = some k))
def paperN (cs : List Int) (ks : List Ky) (j : Nat) (k : Ky) : Nat := match (List.range (2 ^ j)).find? (stopB cs ks j k) with
  | some n => n + 1
  | none => 2 ^ j
def pairK (a b : Int) : Ky := .tup [.num a, .num b]
def pairAt (cs : List Int) (j : Nat) (k : Ky) (n : Nat) : Ky := pairK (probeF k.stamp (2 ^ j) n) (getI cs (probeF k.stamp (2 ^ j) n))
def paperK (cs : List Int) (ks : List Ky) (j : Nat) (k : Ky) : List Ky := (List.range (paperN cs ks j k)).map (pairAt cs j k)
theorem paperN_stop {cs : List Int} {ks : List Ky} {j i : Nat} {k : Ky} (hi : i < 2 ^ j) (h : stopB cs ks j k i = true) (b : ∀ t : Nat, t < i → stopB cs ks j k t = false) : paperN cs ks j k = i + 1 := by
  have e : (List.range (2 ^ j)).find? (stopB cs ks j k) = some i := by
    rw [List.find?_range_eq_some]
    exact ⟨h, List.mem_range.mpr hi, fun t ht => by rw [b t ht]; rfl⟩
  unfold paperN
  rw [e]
theorem paperN_none {cs : List Int} {ks : List Ky} {j : Nat} {k : Ky} (b : ∀ t : Nat, t < 2 ^ j → stopB cs ks j k t = false) : paperN cs ks j k = 2 ^ j := by
  have e : (List.range (2 ^ j)).find? (stopB cs ks j k) = none := by
    rw [List.find?_eq_none]
    intro t ht
    rw [b t (List.mem_range.mp ht)]
    decide
  unfold paperN
  rw [e]
theorem paperN_range (cs : List Int) (ks : List Ky) (j : Nat) (k : Ky) : 0 < paperN cs ks j k ∧ paperN cs ks j k ≤ 2 ^ j ∧ (∀ t : Nat, t + 1 < paperN cs ks j k → stopB cs ks j k t = false) ∧ (paperN cs ks j k < 2 ^ j → stopB cs ks j k (paperN cs ks j k - 1) = true) ∧
    ((∃ t : Nat, t < 2 ^ j ∧ stopB cs ks j k t = true) → stopB cs ks j k (paperN cs ks j k - 1) = true) := by
  have z : 0 < 2 ^ j := Nat.pow_pos (by decide)
  cases q : (List.range (2 ^ j)).find? (stopB cs ks j k) with
  | none =>
    have q' := q
    rw [List.find?_eq_none] at q
    have b : ∀ t : Nat, t < 2 ^ j → stopB cs ks j k t = false := fun t ht => by simpa using q t (List.mem_range.mpr ht)
    have e := paperN_none b
    rw [e]
    refine ⟨z, Nat.le_refl _, fun t ht => b t (by omega), fun h => by omega, fun ⟨t, h1, h2⟩ => ?_⟩
    rw [b t h1] at h2
    cases h2
  | some n =>
    rw [List.find?_range_eq_some] at q
    obtain ⟨q1, q2, q3⟩ := q
    have q2 := List.mem_range.mp q2
    have b : ∀ t : Nat, t < n → stopB cs ks j k t = false := fun t ht => by simpa using q3 t ht
    rw [paperN_stop q2 q1 b]
    exact ⟨by omega, by omega, fun t ht => b t (by omega), fun _ => q1, fun _ => q1⟩
def spPaper (K : PySem.W.Frag) : Sp := fun vs H Q _ => ∃ (a r : Addr) (v : V) (cs : List Int) (ws : List V) (ks : List Ky) (k : Ky) (j : Nat), vs = [.ref a, .ref r, v] ∧ SqL K H a (cs.map V.int) ∧ SqL K H r ws ∧ KysAt H ws ks ∧ KyAt H v k ∧ RowOk ks ∧ KeyOk k ∧
  (cs.length = 2 ^ j ∧ j ≤ 12) ∧ CellsOk cs ks.length ∧ ∀ (p : Addr) (H' : Hp) (xs : List V), Same H H' → Fresh H p → H' p = some (.lst xs) → KysAt H' xs (paperK cs ks j k) → Q (.ref p) H'
theorem len_paper {K : PySem.W.Frag} {vs H Q E} (h : spPaper K vs H Q E) : vs.length = 3 := by obtain ⟨_, _, _, _, _, _, _, _, rfl, _⟩ := h; rfl
def lastCell (cs : List Int) (ks : List Ky) (j : Nat) (k : Ky) : Int := getI cs (probeF k.stamp (2 ^ j) ((paperN cs ks j k - 1 : Nat) : Int))
def spPlaceOf (K : PySem.W.Frag) : Sp := fun vs H Q _ => ∃ (a r : Addr) (v : V) (cs : List Int) (ws : List V) (ks : List Ky) (k : Ky) (j : Nat), vs = [.ref a, .ref r, v] ∧ SqL K H a (cs.map V.int) ∧ SqL K H r ws ∧ KysAt H ws ks ∧ KyAt H v k ∧ RowOk ks ∧ KeyOk k ∧
  (cs.length = 2 ^ j ∧ j ≤ 12) ∧ CellsOk cs ks.length ∧ ∀ (H' : Hp), Same H H' → Q (if lastCell cs ks j k = -1 then .non else .int (lastCell cs ks j k)) H'
theorem len_placeOf {K : PySem.W.Frag} {vs H Q E} (h : spPlaceOf K vs H Q E) : vs.length = 3 := by obtain ⟨_, _, _, _, _, _, _, _, rfl, _⟩ := h; rfl
theorem KysAt.at : ∀ {H : Hp} {ks : List Ky} {vs : List V} {i : Nat} {k : Ky}, KysAt H vs ks → ks[i]? = some k → ∃ v, vs[i]? = some v ∧ KyAt H v k
  | _, [], _, _, _, _, e => by simp at e
  | _, x :: ks, _, 0, k, h, e => by
    cases h with
    | cons h t =>
      simp at e
      subst e
      exact ⟨_, rfl, h⟩
  | _, x :: ks, _, i + 1, k, h, e => by
    cases h with
    | cons h t =>
      obtain ⟨v, e', h'⟩ := KysAt.at (i := i) t (by simpa using e)
      exact ⟨v, by simpa using e', h'⟩
theorem atI_last {xs : List V} {v : V} (h : xs[xs.length - 1]? = some v) : atI xs (-1) = some v := by
  have hp : 0 < xs.length := by
    rcases Nat.eq_zero_or_pos xs.length with e | e
    · rw [List.length_eq_zero_iff] at e
      subst e
      cases h
    · exact e
  have e : ixN xs.length (-1) = some (xs.length - 1) := by
    unfold ixN
    rw [if_neg (by decide), if_pos (by omega)]
    congr 1
    omega
  unfold atI
  rw [e]
  exact h
theorem pair_of {H : Hp} {v : V} {a b : Int} (h : KyAt H v (pairK a b)) : ∃ p : Addr, v = .ref p ∧ H p = some (.tup [.int a, .int b]) := by
  unfold pairK at h
  cases h with
  | tup h p =>
    cases p with
    | cons h1 t =>
      cases t with
      | cons h2 t =>
        cases t
        cases h1
        cases h2
        exact ⟨_, rfl, h⟩
theorem pairK_dat (a b : Int) : (pairK a b).dat = true ∧ (pairK a b).dep ≤ 60 := by
  unfold pairK
  refine ⟨by simp [Ky.dat, Ky.good, Ky.goods], by simp [Ky.dep, Ky.deps]⟩
def spPaperB (K : PySem.W.Frag) : Sp := fun vs H Q _ => ∃ (p a r : Addr) (v : V) (xs : List V) (cs : List Int) (ws : List V) (ks : List Ky) (k : Ky) (j : Nat), vs = [.ref p, .ref a, .ref r, v] ∧ H p = some (.lst xs) ∧ KysAt H xs (paperK cs ks j k) ∧ SqL K H a (cs.map V.int) ∧ SqL K H r ws ∧ KysAt H ws ks ∧ KyAt H v k ∧ RowOk ks ∧ KeyOk k ∧
  (cs.length = 2 ^ j ∧ j ≤ 12) ∧ CellsOk cs ks.length ∧ (-1) ∈ cs ∧ ∀ (H' : Hp), Same H H' → Q (.bl true) H'
theorem len_paperB {K : PySem.W.Frag} {vs H Q E} (h : spPaperB K vs H Q E) : vs.length = 4 := by obtain ⟨_, _, _, _, _, _, _, _, _, _, rfl, _⟩ := h; rfl
theorem stop_ex {cs : List Int} {ks : List Ky} {j : Nat} {k : Ky} (hj : j ≤ 12) (e : cs.length = 2 ^ j) (h : (-1) ∈ cs) : ∃ t : Nat, t < 2 ^ j ∧ stopB cs ks j k t = true := by
  have b := bare_ex k.stamp hj e h
  refine ⟨_, b.1, ?_⟩
  unfold stopB
  rw [b.2.1]
  rfl
theorem paper_stops {cs : List Int} {ks : List Ky} {j : Nat} {k : Ky} (hj : j ≤ 12) (e : cs.length = 2 ^ j) (h : (-1) ∈ cs) {i : Nat} (hi : i < paperN cs ks j k) : stopB cs ks j k i = decide (i = paperN cs ks j k - 1) := by
  obtain ⟨n0, n1, n2, n3, n4⟩ := paperN_range cs ks j k
  by_cases q : i = paperN cs ks j k - 1
  · rw [decide_eq_true q, q]
    exact n4 (stop_ex hj e h)
  · rw [decide_eq_false q]
    exact n2 i (by omega)
def spPlaceB : Sp := fun vs H Q _ => ∃ c : Int, vs = [if c = -1 then .non else .int c, .int c] ∧ Q (.bl true) H
theorem len_placeB {vs H Q E} (h : spPlaceB vs H Q E) : vs.length = 2 := by obtain ⟨_, rfl, _⟩ := h; rfl
def spRow (K : PySem.W.Frag) : Sp := fun vs H Q _ => ∃ (a : Addr) (xs : List Int) (w b : Int), vs = [.ref a, .int w, .int b] ∧ SqL K H a (xs.map V.int) ∧ (∀ x ∈ xs, 0 ≤ x ∧ x < 2 ^ 44) ∧ (xs.length ≤ 1000 ∧ 0 ≤ b ∧ b < 2 ^ 42) ∧
  ∀ (p : Addr) (H' : Hp) (ws : List V) (ks : List Ky), Same H H' → Fresh H p → H' p = some (.lst ws) → KysAt H' ws ks → RowOk ks → ws.length = xs.length → Q (.ref p) H'
theorem len_row {K : PySem.W.Frag} {vs H Q E} (h : spRow K vs H Q E) : vs.length = 3 := by obtain ⟨_, _, _, _, rfl, _⟩ := h; rfl
/-- two lists of a list of ints and a row -/
theorem eq_handed {K : PySem.W.Frag} {H : Hp} {a b c d r q : Addr} {cs : List Int} {ws us : List V} {ks : List Ky} {Q : VK} (ha : SqL K H a [.ref c, .ref r]) (hb : SqL K H b [.ref d, .ref q]) (hc : SqL K H c (cs.map V.int)) (hd : SqL K H d (cs.map V.int)) (hr : SqL K H r ws) (hw : KysAt H ws ks) (hq : SqL K H q us) (hu : KysAt H us ks) (dk : Ky.dats ks) (h : Q (.bl true) H) : rEqD K (.ref a) (.ref b) H Q := by
  have sh : SeqAt.shaped (.list [.list (cs.map PyData.int), .list (Ky.toDs ks)]) = true := by
    unfold SeqAt.shaped
    have := Ky.depsD ks dk
    simp only [PyData.canLay0, PyData.canLayAll0, canLay_ints, Ky.canLaysD ks dk, PyData.depth, PyData.depthAll, depth_ints, Bool.and_true, Bool.true_and]
    exact decide_eq_true (by omega)
  refine ⟨.list [.list (cs.map PyData.int), .list (Ky.toDs ks)], .list [.list (cs.map PyData.int), .list (Ky.toDs ks)], .lst ha (.cons (.lst hc (DpAll_ints cs)) (.cons (.lst hr (KysAt.dpD ks _ dk hw)) .nil)), .lst hb (.cons (.lst hd (DpAll_ints cs)) (.cons (.lst hq (KysAt.dpD ks _ dk hu)) .nil)), sh, sh, ?_⟩
  have e : PyData.eqv (.list [.list (cs.map PyData.int), .list (Ky.toDs ks)]) (.list [.list (cs.map PyData.int), .list (Ky.toDs ks)]) = true := by
    simp only [PyData.eqv, PyData.eqvAll, eqvAll_ints, Ky.eqvsD ks ks dk dk, Ky.beqs_dec, decide_true, Bool.and_true]
  rw [e]
  exact h
theorem getI_in {ps : List Int} {c : Int} (h0 : 0 ≤ c) (h1 : c < ps.length) : getI ps c ∈ ps := by
  have hlt : c.toNat < ps.length := by omega
  unfold getI
  rw [List.getD_eq_getElem?_getD, List.getElem?_eq_getElem hlt]
  exact List.getElem_mem hlt
theorem ne_ints {K : PySem.W.Frag} {H : Hp} {a b : Addr} {xs ys : List Int} {Q : VK} (ha : SqL K H a (xs.map V.int)) (hb : SqL K H b (ys.map V.int)) (q : Q (.bl (!decide (xs = ys))) H) : rNeD K (.ref a) (.ref b) H Q :=
  ⟨.list (xs.map PyData.int), .list (ys.map PyData.int), .lst ha (DpAll_ints xs), .lst hb (DpAll_ints ys), shaped_ints xs, shaped_ints ys, by rw [PyData.eqv, eqvAll_ints]; exact q⟩
end My
namespace My
open PySem PySem.Spec PyProof.Rows L2
/-! a sign repeated; zip -/
def rMulS : R2 := fun x y H Q => ∃ (z : Str) (c : Nat) (n : Int), x = .str z ∧ y = .int n ∧ z = ⟨#[c]⟩ ∧ (0 ≤ n ∧ n ≤ 1000) ∧ Q (.str (SX.S (List.replicate n.toNat c))) H
theorem mul_fold (c : Nat) : ∀ (n : Nat) (a : Array Nat), ((List.replicate n #[c]).foldl (· ++ ·) a).toList = a.toList ++ List.replicate n c
  | 0, a => by simp
  | n + 1, a => by
    rw [List.replicate_succ, List.foldl_cons, mul_fold c n]
    simp [List.replicate_succ]
theorem mul_one (c : Nat) {n : Int} (h : 0 ≤ n) : Txt.mul ⟨#[c]⟩ n = SX.S (List.replicate n.toNat c) := by
  unfold Txt.mul
  by_cases h1 : n < 1
  · rw [if_pos h1]
    have e : n = 0 := by omega
    subst e
    rfl
  · rw [if_neg h1]
    by_cases h2 : n = 1
    · subst h2
      rfl
    · have hl : (⟨#[c]⟩ : Str).length = 1 := rfl
      rw [if_neg (by rw [hl]; simp [h2])]
      refine TL.ext_tl ?_
      have e := mul_fold c n.toNat #[]
      simp at e
      show ((List.replicate n.toNat #[c]).foldl (· ++ ·) #[]).toList = _
      rw [e]
theorem op_mulS {X : Cx} : OpR X (binaryOp .Mult) rMulS := by
  intro pins s σ H x y v u Q I rx ry h
  obtain ⟨z, c, n, rfl, rfl, rfl, ⟨h0, h1⟩, q⟩ := h
  obtain ⟨t, rfl⟩ := rx
  obtain ⟨t2, rfl⟩ := ry
  have hl : (⟨#[c]⟩ : Str).length = 1 := rfl
  refine SB.mul (n := n) ⟨?_, fun a b => ?_, fun a b => ?_⟩ fun t' k => ?_
  · rw [decide_eq_false (by omega), decide_eq_false (by omega)]
    rfl
  · rw [hl]
    have : (1 : Int) ≤ (2 ^ 63 - 1) / n := Int.le_ediv_of_mul_le (by omega) (by omega)
    omega
  · rw [hl, Nat.one_mul]
    unfold Builtin.Str.tooLong
    simp only [sizeLine_eq]
    exact decide_eq_false (by omega)
  · rw [mul_one c h0]
    exact ⟨.str (SX.S (List.replicate n.toNat c)), H, I.tok _, ⟨_, rfl⟩, q⟩
theorem rd_mulS {z : Str} {n : Int} {H : Hp} {Q : VK} : rMulS (.str z) (.int n) H Q = ∃ c : Nat, z = ⟨#[c]⟩ ∧ (0 ≤ n ∧ n ≤ 1000) ∧ Q (.str (SX.S (List.replicate n.toNat c))) H := by
  unfold rMulS
  apply propext
  constructor
  · rintro ⟨z', c, n', e1, e2, e3, q⟩; cases e1; cases e2; exact ⟨c, e3, q⟩
  · rintro ⟨c, e3, q⟩; exact ⟨z, c, n, rfl, rfl, e3, q⟩
theorem one_sign {c : Nat} {z : Str} (h : z.cps = #[c]) : z = ⟨#[c]⟩ := by
  cases z
  exact congrArg _ h
def isR2a (vs : List V) (f : Addr → Addr → Prop) : Prop := match vs with | [.ref a, .ref b] => f a b | _ => False
theorem rd_isR2a {a b : Addr} {f : Addr → Addr → Prop} : isR2a [.ref a, .ref b] f = f a b := rfl
theorem rd_zipA {K : PySem.W.Frag} {tr : TA} {σ : L2.St} {H : Hp} {R : It → Hp → Prop} : RZ.iZipA K tr σ H R = tr σ H fun vs H1 => isR2a vs fun a b => ∃ xs ys, (SqL K H1 a xs ∧ SqL K H1 b ys ∧ R (Itz K a b) H1) ∨ (SqT K H1 a xs ∧ SqT K H1 b ys ∧ R (RZ.ItzT K a b) H1) := by
  unfold RZ.iZipA
  apply congrArg
  funext vs H1
  apply propext
  constructor
  · rintro ⟨a, b, xs, ys, rfl, h⟩; exact ⟨xs, ys, h⟩
  · intro h
    unfold isR2a at h
    split at h
    · obtain ⟨xs, ys, h⟩ := h
      exact ⟨_, _, xs, ys, rfl, h⟩
    · exact h.elim
theorem walk_zipT {K : PySem.W.Frag} {a b : Addr} {xs ys : List V} {n : Nat} (hn : n = min xs.length ys.length) : Walk (RZ.ItzT K a b) n (fun H => SqT K H a xs ∧ SqT K H b ys) (YPair (fun i => xs[i]?) (fun i => ys[i]?)) := by
  constructor
  · intro i H lt both
    have lx := List.getElem?_eq_getElem (l := xs) (i := i) (by omega)
    have ly := List.getElem?_eq_getElem (l := ys) (i := i) (by omega)
    exact ⟨xs, ys, _, _, both.1, both.2, lx, ly⟩
  · intro H both
    exact ⟨xs, ys, both.1, both.2, by omega⟩
  · intro i H v H' _ both gives
    obtain ⟨t, u1, u2, e, new, after, f1, f2⟩ := gives
    exact ⟨t, u1, u2, e, new, after, f1 xs both.1, f2 ys both.2⟩
/-- zip of two lists of one length -/
theorem go_zip {K : PySem.W.Frag} {D : Ends} {σ : L2.St} {H : Hp} {a b : Addr} {xs ys : List V} {g : TG} {tb : TS} (e : xs.length = ys.length) (Pv : Nat → L2.St → Hp → Prop) (h0 : Pv 0 σ H) (hl : ∀ i σ H, i ≤ xs.length → Pv i σ H → SqL K H a xs ∧ SqL K H b ys)
    (hs : ∀ (N : L2.St → Hp → Prop) (i : Nat) x y σ H T, xs[i]? = some x → ys[i]? = some y → Pv i σ H → Fresh H T → (∀ σ' H', Pv (i + 1) σ' H' → N σ' H') → g (.ref T) σ (upd H T (.tup [x, y])) fun σ2 H2 => tb { D with nx := N, ct := N, bk := D.nx } σ2 H2) (hd : ∀ σ H, Pv xs.length σ H → D.nx σ H) : forGo (Itz K a b) g tb D σ H := by
  refine go_it (walk_zip (xs := xs) (ys := ys) (n := xs.length) (by omega)) Pv h0 hl ?_ hd
  rintro N i x σ H H' hi p ⟨T, x1, y1, rfl, hT, rfl, e1, e2⟩ hN
  exact hs N i x1 y1 σ H T e1 e2 p hT hN
theorem rd_yes {σ : L2.St} {H : Hp} {QT : Bool → Hp → Prop} : tYes σ H QT = QT true H := rfl
/-- all of a list of True -/
theorem all_true {K : PySem.W.Frag} {H : Hp} {p : Addr} {n : Nat} {Q : VK} (h : H p = some (.lst (List.replicate n (V.bl true)))) (q : Q (.bl true) H) : rAll K [.ref p] H Q := by
  refine ⟨p, List.replicate n true, rfl, SqL.of (by rw [List.map_replicate]; exact h), ?_⟩
  have e : (List.replicate n true).all id = true := by simp
  rw [e]
  exact q
/-- a comprehension whose items are all True -/
theorem go_lct {J : It} {n : Nat} {G : Hp → Prop} {Y : Nat → Hp → V → Hp → Prop} (w : L2.Walk J n G Y) {g : TG} {te : TE} {vs : List Nat} {σ : L2.St} {H1 : Hp} {D : Addr} {Qd : Hp → Prop} (hz : n ≤ sizeLine) (hD : Fresh H1 D)
    (hG : ∀ H, Same H1 H → G H)
    (hs : ∀ (N : VK) i x H H', i < n → Same H1 H → Y i H x H' → (∀ H4, Same H H4 → N (.bl true) H4) → g x (wipe σ vs) H' fun σ2 H2 => wipe σ2 vs = wipe σ vs ∧ te σ2 H2 N)
    (hd : ∀ H, Same H1 H → H D = some (.lst (List.replicate n (V.bl true))) → Qd H) (mono : ∀ (A B : L2.St → Hp → Prop) x σ H, (∀ σ H, A σ H → B σ H) → g x σ H A → g x σ H B) : lcGo J g tYes te vs σ H1 D Qd := by
  refine go_lcm w (List.replicate n (V.bl true)) List.length_replicate hz hD hG (fun N i x H H' hi s y h => hs N i x H H' hi s y fun H4 s4 => h _ H4 ?_ s4) hd mono
  rw [List.getElem?_replicate, if_pos hi]
theorem gTup2_mono {K : PySem.W.Frag} {i j : Nat} (A B : L2.St → Hp → Prop) (x : V) (σ : L2.St) (H : Hp) (h : ∀ σ H, A σ H → B σ H) (q : gTup K 2 (gCons (gName i) (gCons (gName j) gNil)) x σ H A) : gTup K 2 (gCons (gName i) (gCons (gName j) gNil)) x σ H B := by
  obtain ⟨a, xs, rfl, hs, hl, q⟩ := q
  refine ⟨a, xs, rfl, hs, hl, ?_⟩
  match xs, hl, q with
  | [x, y], _, q =>
    simp only [rd_gCons, rd_gName, rd_gNil] at q ⊢
    exact h _ _ q
theorem rd_lenSet {K : PySem.W.Frag} {ta : TE} {σ : L2.St} {H : Hp} {Q : VK} : RZ.tLenSetI K ta σ H Q = ta σ H fun x H1 => isRef x fun l => ∃ ns : List Int, SqL K H1 l (ns.map V.int) ∧ ns.Nodup ∧ ns.length ≤ 4000 ∧ Q (.int (ns.length : Nat)) H1 := by
  unfold RZ.tLenSetI
  apply congrArg
  funext x H1
  rw [← isRef_eq]
  apply propext
  constructor
  · rintro ⟨a, v, e, h⟩; exact ⟨a, e, v, h⟩
  · rintro ⟨a, e, v, h⟩; exact ⟨a, v, e, h⟩
theorem rd_min {K : PySem.W.Frag} {a : Addr} {H : Hp} {Q : VK} : rMin K [.ref a] H Q = ∃ ns : List Int, SqL K H a (ns.map V.int) ∧ 0 < ns.length ∧ ∀ m, m ∈ ns → (∀ y, y ∈ ns → m ≤ y) → Q (.int m) H := by
  unfold rMin
  apply propext
  constructor
  · rintro ⟨a', ns, e, q⟩; cases e; exact ⟨ns, q⟩
  · rintro ⟨ns, q⟩; exact ⟨a, ns, rfl, q⟩
end My
namespace My
open PySem PySem.Spec PyProof.Rows L2
/-! values: numbers, texts, none, tuples of values -/
mutual
def Ky.val : Ky → Bool
  | .num _ => true
  | .txt x => PyData.strOk x
  | .non => true
  | .tup ks => decide (ks.length ≤ 1000) && Ky.vals ks
  | _ => false
def Ky.vals : List Ky → Bool
  | [] => true
  | k :: ks => Ky.val k && Ky.vals ks
end
theorem vals_get : ∀ {ks : List Ky} {i : Nat} {k : Ky}, Ky.vals ks = true → ks[i]? = some k → k.val = true
  | [], i, k, _, h => by simp at h
  | x :: xs, 0, k, g, h => by
    have g' : x.val = true ∧ Ky.vals xs = true := by simpa [Ky.vals] using g
    simp at h
    subst h
    exact g'.1
  | x :: xs, i + 1, k, g, h => by
    have g' : x.val = true ∧ Ky.vals xs = true := by simpa [Ky.vals] using g
    exact vals_get (ks := xs) (i := i) g'.2 (by simpa using h)
theorem vals_iff : ∀ {ks : List Ky}, Ky.vals ks = true ↔ ∀ k ∈ ks, k.val = true
  | [] => by simp [Ky.vals]
  | k :: ks => by
    rw [Ky.vals, Bool.and_eq_true, vals_iff (ks := ks)]
    simp
theorem val_of : ∀ (d : Nat) (k : Ky), within d k = true → k.good = true → k.val = true
  | _, .num _, _, _ => by simp [Ky.val]
  | _, .txt x, _, h => by simpa [Ky.val, Ky.good] using h
  | 0, .tup ks, h, _ => by simp [within] at h
  | d + 1, .tup ks, h, g => by
    simp only [within, Bool.and_eq_true, decide_eq_true_eq, List.all_eq_true] at h
    rw [Ky.val, decide_eq_true (by omega), Bool.true_and, vals_iff]
    intro k hk
    obtain ⟨i, hi, e⟩ := List.mem_iff_getElem.mp hk
    exact val_of d k (h.2 k hk) (goods_get (by simpa [Ky.good] using g) (List.getElem?_eq_some_iff.mpr ⟨hi, e⟩))
  | _, .bl _, _, h => by simp [Ky.good] at h
  | _, .non, _, h => by simp [Ky.good] at h
  | _, .lst _, _, h => by simp [Ky.good] at h
  | _, .dct, _, h => by simp [Ky.good] at h
theorem KOk.val {d : Nat} {k : Ky} (h : KOk d k) : k.val = true := val_of d k h.w h.g
theorem tup_val {ks : List Ky} (h : (Ky.tup ks).val = true) : ks.length ≤ 1000 ∧ Ky.vals ks = true := by simpa [Ky.val] using h
theorem deps_get : ∀ {ks : List Ky} {i : Nat} {k : Ky}, ks[i]? = some k → k.dep ≤ Ky.deps ks
  | [], i, k, h => by simp at h
  | x :: xs, 0, k, h => by
    simp at h
    subst h
    rw [Ky.deps]
    omega
  | x :: xs, i + 1, k, h => by
    have := deps_get (ks := xs) (i := i) (by simpa using h)
    rw [Ky.deps]
    omega
section
variable {H H' : Hp}
/-- H' keeps what stands outside of fp -/
def But (fp : List Addr) (H H' : Hp) : Prop := ∀ b o, H b = some o → b ∉ fp → H' b = some o
/-- no tuple stands at fp -/
def NoTup (H : Hp) (fp : List Addr) : Prop := ∀ b ∈ fp, ∀ xs, H b ≠ some (.tup xs)
mutual
theorem KyAt.keep {fp : List Addr} (s : But fp H H') (n : NoTup H fp) : ∀ (y : Ky) (v : V), y.val = true → KyAt H v y → KyAt H' v y
  | .num i, _, _, h => by cases h; exact .num i
  | .txt x, _, _, h => by cases h; exact .txt x
  | .non, _, _, h => by cases h; exact .non
  | .tup ks, _, g, h => by
    cases h with
    | tup h p => exact .tup (s _ _ h fun hm => n _ hm _ h) (KysAt.keep s n ks _ (tup_val g).2 p)
  | .bl _, _, g, _ => by simp [Ky.val] at g
  | .lst _, _, g, _ => by simp [Ky.val] at g
  | .dct, _, g, _ => by simp [Ky.val] at g
theorem KysAt.keep {fp : List Addr} (s : But fp H H') (n : NoTup H fp) : ∀ (ks : List Ky) (vs : List V), Ky.vals ks = true → KysAt H vs ks → KysAt H' vs ks
  | [], _, _, h => by cases h; exact .nil
  | y :: ks, _, g, h => by
    have g' : y.val = true ∧ Ky.vals ks = true := by simpa [Ky.vals] using g
    cases h with
    | cons h t => exact .cons (KyAt.keep s n y _ g'.1 h) (KysAt.keep s n ks _ g'.2 t)
end
theorem But.of (s : Same H H') (fp : List Addr) : But fp H H' := fun b o e _ => s b o e
theorem But.trans {fp : List Addr} {H1 H2 H3 : Hp} (s : But fp H1 H2) (t : But fp H2 H3) : But fp H1 H3 := fun b o e n => t b o (s b o e n) n
theorem But.mono {fp gp : List Addr} (s : But fp H H') (h : ∀ b ∈ fp, b ∈ gp) : But gp H H' := fun b o e n => s b o e fun q => n (h b q)
end
/-- a text, a number, none: told alike; tuples part by part -/
def spSame (n : Nat) : Sp := fun vs H Q _ => ∃ (v w : V) (k : Ky), vs = [v, w] ∧ KyAt H v k ∧ KyAt H w k ∧ (k.val = true ∧ k.dep ≤ n) ∧ ∀ H', Same H H' → Q (.bl true) H'
theorem len_same {n : Nat} {vs H Q E} (h : spSame n vs H Q E) : vs.length = 2 := by obtain ⟨_, _, _, rfl, _⟩ := h; rfl
def spRowsSame (K : PySem.W.Frag) : Sp := fun vs H Q _ => ∃ (a b : Addr) (xs ys : List V) (ks : List Ky), vs = [.ref a, .ref b] ∧ H a = some (.lst xs) ∧ H b = some (.lst ys) ∧ KysAt H xs ks ∧ KysAt H ys ks ∧ (∀ k ∈ ks, k.val = true ∧ k.dep ≤ 3) ∧ ks.length ≤ 5000 ∧ ∀ H', Same H H' → Q (.bl true) H'
theorem len_rowsSame {K : PySem.W.Frag} {vs H Q E} (h : spRowsSame K vs H Q E) : vs.length = 2 := by obtain ⟨_, _, _, _, _, rfl, _⟩ := h; rfl
end My
namespace My
open PySem PySem.Spec PyProof.Rows L2
/-! fields of own objects, methods, makings -/
section
variable {K : PySem.W.Frag} {H : Hp} {Q : VK} {R : Hp → Prop} {a C dx : Addr} {f : Str} {fs : List (Str × V)} {v : V} {σ : L2.St} {ta tv : TE} {D : Ends} {rd : V → V → Hp → VK → Prop}
def FldAt (K : PySem.W.Frag) (H : Hp) (a : Addr) (f : Str) (Q : VK) : Prop := ∃ C dx fs v, H a = some (.ins C dx fs) ∧ Cls K C ∧ NoAttr K C f ∧ fs.lookup f = some v ∧ Q v H
theorem rd_fld : tFld K ta f σ H Q = ta σ H fun x H1 => isRef x fun a => FldAt K H1 a f Q := by
  unfold tFld FldAt
  apply congrArg
  funext x H1
  rw [← isRef_eq]
  apply propext
  constructor
  · rintro ⟨a, C, dx, fs, v, e, h⟩; exact ⟨a, e, C, dx, fs, v, h⟩
  · rintro ⟨a, e, C, dx, fs, v, h⟩; exact ⟨a, C, dx, fs, v, e, h⟩
theorem fldAt (h : H a = some (.ins C dx fs)) (c : Cls K C) (n : NoAttr K C f) (l : fs.lookup f = some v) : FldAt K H a f Q = Q v H := by
  unfold FldAt
  apply propext
  constructor
  · rintro ⟨C', dx', fs', v', e, -, -, l', q⟩
    rw [h] at e
    cases e
    rw [l] at l'
    cases l'
    exact q
  · intro q
    exact ⟨C, dx, fs, v, h, c, n, l, q⟩
def SetAt (K : PySem.W.Frag) (H : Hp) (a : Addr) (f : Str) (y : V) (R : Hp → Prop) : Prop := ∃ C dx fs, H a = some (.ins C dx fs) ∧ Cls K C ∧ NoAttr K C f ∧ fs.length < 1000 ∧ R (upd H a (.ins C dx (putF f y fs)))
theorem rd_sfld : sFld K ta tv f D σ H = tv σ H fun y H1 => ta σ H1 fun x H2 => isRef x fun a => SetAt K H2 a f y fun H3 => D.nx σ H3 := by
  unfold sFld SetAt
  apply congrArg
  funext y H1
  apply congrArg
  funext x H2
  rw [← isRef_eq]
  apply propext
  constructor
  · rintro ⟨a, C, dx, fs, e, h⟩; exact ⟨a, e, C, dx, fs, h⟩
  · rintro ⟨a, e, C, dx, fs, h⟩; exact ⟨a, C, dx, fs, e, h⟩
theorem setAt {y : V} {gs : List (Str × V)} (h : H a = some (.ins C dx fs)) (c : Cls K C) (n : NoAttr K C f) (l : fs.length < 1000) (e : putF f y fs = gs) : SetAt K H a f y R = R (upd H a (.ins C dx gs)) := by
  unfold SetAt
  apply propext
  constructor
  · rintro ⟨C', dx', fs', e', -, -, -, q⟩
    rw [h] at e'
    cases e'
    rw [e] at q
    exact q
  · intro q
    exact ⟨C, dx, fs, h, c, n, l, by rw [e]; exact q⟩
theorem rd_aadd {i j : Int} : L2.rAdd (.int i) (.int j) H Q = Q (.int (i + j)) H := by
  unfold L2.rAdd
  apply propext
  constructor
  · rintro ⟨i', j', e1, e2, q⟩; cases e1; cases e2; exact q
  · intro q; exact ⟨i, j, rfl, rfl, q⟩
/-- o.f += e -/
def AugAt (K : PySem.W.Frag) (H : Hp) (a : Addr) (f : Str) (tv : TE) (rd : V → V → Hp → VK → Prop) (σ : L2.St) (R : Hp → Prop) : Prop := ∃ C dx fs v, H a = some (.ins C dx fs) ∧ Cls K C ∧ NoAttr K C f ∧ fs.lookup f = some v ∧
  tv σ H fun y H2 => rd v y H2 fun z H3 => ∃ dx' fs', H3 a = some (.ins C dx' fs') ∧ fs'.length < 1000 ∧ R (upd H3 a (.ins C dx' (putF f z fs')))
theorem rd_aug_fld : sFldAug K ta tv rd f D σ H = ta σ H fun x H1 => isRef x fun a => AugAt K H1 a f tv rd σ fun H3 => D.nx σ H3 := by
  unfold sFldAug AugAt
  apply congrArg
  funext x H1
  rw [← isRef_eq]
  apply propext
  constructor
  · rintro ⟨a, C, dx, fs, v, e, h⟩; exact ⟨a, e, C, dx, fs, v, h⟩
  · rintro ⟨a, e, C, dx, fs, v, h⟩; exact ⟨a, C, dx, fs, v, e, h⟩
/-- += of an int constant -/
theorem augAt {i j : Int} {gs : List (Str × V)} (h : H a = some (.ins C dx fs)) (c : Cls K C) (n : NoAttr K C f) (l : fs.lookup f = some (.int i)) (z : fs.length < 1000) (e : putF f (.int (i + j)) fs = gs) : AugAt K H a f (tC (.int j)) L2.rAdd σ R = R (upd H a (.ins C dx gs)) := by
  unfold AugAt
  apply propext
  constructor
  · rintro ⟨C', dx', fs', v', e', -, -, l', q⟩
    rw [h] at e'
    cases e'
    rw [l] at l'
    cases l'
    rw [rd_c, rd_aadd] at q
    obtain ⟨dx2, fs2, e2, -, q⟩ := q
    rw [h] at e2
    cases e2
    rw [e] at q
    exact q
  · intro q
    refine ⟨C, dx, fs, .int i, h, c, n, l, ?_⟩
    rw [rd_c, rd_aadd]
    exact ⟨dx, fs, h, z, by rw [e]; exact q⟩
/-- o.m(..): o is an instance with no field m -/
def MetAt (H : Hp) (a C : Addr) (m : Str) : Prop := ∃ dx fs, H a = some (.ins C dx fs) ∧ fs.lookup m = none
theorem rd_meth {m : Str} {sp : Sp} {dvs : List V} {E : XK} {t : TA} : tMeth C m sp dvs E ta t σ H Q = ta σ H fun x H1 => isRef x fun a => MetAt H1 a C m ∧ t σ H1 fun vs H2 => sp (.ref a :: (vs ++ dvs)) H2 Q E := by
  unfold tMeth MetAt
  apply congrArg
  funext x H1
  rw [← isRef_eq]
  apply propext
  constructor
  · rintro ⟨a, dx, fs, rfl, h, l, q⟩; exact ⟨a, rfl, ⟨dx, fs, h, l⟩, q⟩
  · rintro ⟨a, rfl, ⟨dx, fs, h, l⟩, q⟩; exact ⟨a, dx, fs, rfl, h, l, q⟩
theorem rd_make {sp : Sp} {dvs : List V} {E : XK} {t : TA} : tMake C sp dvs E t σ H Q = t σ H fun vs H1 => ∀ x dx, Fresh H1 x → Fresh H1 dx → dx ≠ x → sp (.ref x :: (vs ++ dvs)) (upd (upd H1 dx (.own x)) x (.ins C dx [])) (fun v H2 => v = .non ∧ Q (.ref x) H2) E := rfl
end
end My
namespace My
open PySem PySem.Spec PyProof.Rows L2
/-! two values alike, part by part -/
def AlikeN : Nat → Hp → V → V → Prop
  | 0, _, v, w => v = w ∧ scalV v = true
  | n + 1, H, v, w => (v = w ∧ scalV v = true) ∨ ∃ (a b : Addr) (xs ys : List V), v = .ref a ∧ w = .ref b ∧ ((H a = some (.tup xs) ∧ H b = some (.tup ys)) ∨ (H a = some (.lst xs) ∧ H b = some (.lst ys))) ∧ xs.length = ys.length ∧ xs.length ≤ 100000 ∧
    ∀ (i : Nat) x y, xs[i]? = some x → ys[i]? = some y → AlikeN n H x y
theorem AlikeN.scal {n : Nat} {H : Hp} {v : V} (h : scalV v = true) : AlikeN n H v v := by
  cases n with
  | zero => exact ⟨rfl, h⟩
  | succ n => exact .inl ⟨rfl, h⟩
theorem AlikeN.same : ∀ {n : Nat} {H H' : Hp} {v w : V}, AlikeN n H v w → Same H H' → AlikeN n H' v w
  | 0, _, _, _, _, h, _ => h
  | n + 1, H, H', v, w, h, s => by
    rcases h with h | ⟨a, b, xs, ys, e1, e2, e3, e4, e5, e6⟩
    · exact .inl h
    · exact .inr ⟨a, b, xs, ys, e1, e2, e3.elim (fun q => .inl ⟨s _ _ q.1, s _ _ q.2⟩) (fun q => .inr ⟨s _ _ q.1, s _ _ q.2⟩), e4, e5, fun i x y h1 h2 => (e6 i x y h1 h2).same s⟩
theorem alike_ky : ∀ {n : Nat} {H : Hp} {v w : V} (k : Ky), k.val = true → k.dep ≤ n → KyAt H v k → KyAt H w k → AlikeN n H v w
  | n, _, _, _, .num i, _, _, h, g => by cases h; cases g; exact .scal rfl
  | n, _, _, _, .txt x, _, _, h, g => by cases h; cases g; exact .scal rfl
  | n, _, _, _, .non, _, _, h, g => by cases h; cases g; exact .scal rfl
  | 0, _, _, _, .tup ks, _, d, _, _ => by rw [Ky.dep] at d; omega
  | n + 1, H, _, _, .tup ks, v, d, h, g => by
    rw [Ky.dep] at d
    cases h with
    | @tup a xs _ h p =>
      cases g with
      | @tup b ys _ h' p' =>
        have e1 := KysAt.len p
        have e2 := KysAt.len p'
        have := (tup_val v).1
        refine .inr ⟨a, b, xs, ys, rfl, rfl, .inl ⟨h, h'⟩, by omega, by omega, fun i x y g1 g2 => ?_⟩
        obtain ⟨k1, hk1, hx⟩ := p.get g1
        obtain ⟨k2, hk2, hy⟩ := p'.get g2
        rw [hk1] at hk2
        cases hk2
        have := deps_get hk1
        exact alike_ky k1 (vals_get (tup_val v).2 hk1) (by omega) hx hy
  | _, _, _, _, .bl _, v, _, _, _ => by simp [Ky.val] at v
  | _, _, _, _, .lst _, v, _, _, _ => by simp [Ky.val] at v
  | _, _, _, _, .dct, v, _, _, _ => by simp [Ky.val] at v
theorem alike_lst {n : Nat} {H : Hp} {a b : Addr} {xs ys : List V} {ks : List Ky} (ha : H a = some (.lst xs)) (hb : H b = some (.lst ys)) (hx : KysAt H xs ks) (hy : KysAt H ys ks) (v : ∀ k ∈ ks, k.val = true ∧ k.dep ≤ n) (z : ks.length ≤ 100000) : AlikeN (n + 1) H (.ref a) (.ref b) := by
  have e1 := KysAt.len hx
  have e2 := KysAt.len hy
  refine .inr ⟨a, b, xs, ys, rfl, rfl, .inr ⟨ha, hb⟩, by omega, by omega, fun i x y g1 g2 => ?_⟩
  obtain ⟨k1, hk1, hx1⟩ := hx.get g1
  obtain ⟨k2, hk2, hy1⟩ := hy.get g2
  rw [hk1] at hk2
  cases hk2
  obtain ⟨q1, q2⟩ := v k1 (List.mem_of_getElem? hk1)
  exact alike_ky k1 q1 q2 hx1 hy1
/-- tuples of flat things -/
theorem alike_flat {n : Nat} {H : Hp} {a b : Addr} {xs : List V} (ha : H a = some (.tup xs)) (hb : H b = some (.tup xs)) (s : ∀ x ∈ xs, scalV x = true) (z : xs.length ≤ 100000) : AlikeN (n + 1) H (.ref a) (.ref b) :=
  .inr ⟨a, b, xs, xs, rfl, rfl, .inl ⟨ha, hb⟩, rfl, z, fun i x y g1 g2 => by
    rw [g1] at g2
    cases g2
    exact .scal (s x (List.mem_of_getElem? g1))⟩
/-- what follows a cut -/
def After (u : TS) (D : Ends) (Mid : L2.St → Hp → Prop) : Prop := ∀ σ' H', Mid σ' H' → u D σ' H'
theorem rd_cut {t u : TS} {D : Ends} {σ : L2.St} {H : Hp} : C8.tCut t u D σ H = ∃ Mid : L2.St → Hp → Prop, t { D with nx := Mid } σ H ∧ After u D Mid := rfl
def spAlike (n : Nat) : Sp := fun vs H Q _ => ∃ v w, vs = [v, w] ∧ AlikeN n H v w ∧ ∀ H', Same H H' → Q (.bl true) H'
theorem len_alike {n : Nat} {vs H Q E} (h : spAlike n vs H Q E) : vs.length = 2 := by obtain ⟨_, _, rfl, _⟩ := h; rfl
theorem ix_seqK (K : PySem.W.Frag) {X : Cx} (h : X.K = K) : IxR X (rIx K) := h ▸ ix_seq
theorem rd_ixQ {K : PySem.W.Frag} {p : Addr} {i : Int} {H : Hp} {Q : VK} : rIx K (.ref p) (.int i) H Q = ∃ xs v, (SqL K H p xs ∨ SqT K H p xs) ∧ atI xs i = some v ∧ Q v H := by
  unfold rIx
  rw [rd_ixL, rd_ixT]
  apply propext
  constructor
  · rintro (⟨xs, v, h, q⟩ | ⟨xs, v, h, q⟩ | ⟨z, i, c, e, _⟩)
    · exact ⟨xs, v, .inl h, q⟩
    · exact ⟨xs, v, .inr h, q⟩
    · cases e
  · rintro ⟨xs, v, h | h, q⟩
    · exact .inl ⟨xs, v, h, q⟩
    · exact .inr (.inl ⟨xs, v, h, q⟩)
def spValue : Sp := fun vs H Q _ => ∃ n : Int, vs = [.int n] ∧ (0 ≤ n ∧ n < 2 ^ 60) ∧ ∀ H' v z, Same H H' → KyAt H' v z → z.val = true → z.dep ≤ 8 → Q v H'
theorem len_value {vs H Q E} (h : spValue vs H Q E) : vs.length = 1 := by obtain ⟨_, rfl, _⟩ := h; rfl
theorem txt_val {l : List Nat} (c : codesOk l) : (Ky.txt (SX.S l)).val = true := by rw [Ky.val]; exact strOk_of c
end My
namespace My
open PySem PySem.Spec PyProof.Rows L2
/-! methods and makings where what is raised is wished for at the slots that stand -/
section
variable {X : Cx} {CXq : CXT} {lv : Nat} {fa Cl : Addr} {fdat : FuncData} {pars : List Str} {prom : Sp} {dflt : List V} {dfv : List Value} {Ex : L2.St → XK} {nm : Str}
def tMethX (Cl : Addr) (nm : Str) (prom : Sp) (dflt : List V) (Ex : L2.St → XK) (to : TE) (ta : TA) : TE := fun σ H Q => tMeth Cl nm prom dflt (Ex σ) to ta σ H Q
def tMakeX (Cl : Addr) (prom : Sp) (dflt : List V) (Ex : L2.St → XK) (ta : TA) : TE := fun σ H Q => tMake Cl prom dflt (Ex σ) ta σ H Q
theorem pe_methX {ob first : Expr} {rest : List Expr} {to : TE} {ta : TA} {apos pos : Pos} {pl : Sem Bool} (ho : PE X ob to) (kc : Cls X.K Cl) (km : Meth X.K Cl nm fa) (ok : FnOk X.prog X.w X.K X.mg X.base CXq lv fa fdat pars prom) (room : Room lv X.A)
    (bn : Binds X.K fdat pars dfv) (vd : Vals dflt dfv) (ps : ∀ σ, PassesAt CXq X σ (Ex σ)) (as : PA X (first :: rest) ta)
    (h1 : starEach (first :: rest) X.env = (false, eval first X.env) :: starEach rest X.env := by rfl) (h2 : (backTo pos (starEach rest X.env)).any (·.1) = false := by rfl)
    (h3 : eval (.Call (.Attribute ob nm apos) (first :: rest) [] pos) X.env = (do
      let ov ← eval ob X.env
      standAt apos.atName
      let (g, bound) ← holding [ov] (getMethod ov nm pl)
      callWith pos g bound (backTo pos (starEach (first :: rest) X.env)) (backToKw pos (keywordEach [] X.env))) := by rfl) :
    PE X (.Call (.Attribute ob nm apos) (first :: rest) [] pos) (tMethX Cl nm prom dflt Ex to ta) := by
  constructor
  intro pins s0 σ H0 Qv inv hyp
  apply PySem.W.methodCall_KW (pl := pl) _ h3
  refine thn (ho.run pins s0 σ H0 _ inv hyp) ?_
  rintro u1 s1 ⟨xv, Hv, inv1, rel, ad, dd, flds, rfl, hobj, look, cont⟩
  obtain rfl : u1 = Value.ref ad := rel
  apply getmeth_ok inv1 hobj kc km look
  refine PySem.W.callWith_K (h₀ := X.base) (first := [.ref ad]) inv.ok.mod.kin km.kp ?_ h1 h2
  refine thn (as.run pos pins s1 σ Hv _ inv1 cont) ?_
  rintro us s2 ⟨args, Hw, inv2, rels, fin⟩
  exact ⟨inv2.kIn, run_fnSD (us := .ref ad :: us) (vs := .ref ad :: args) ok room bn vd (ps σ) inv2 (.cons rfl rels) fin⟩
theorem pe_meth0X {ob : Expr} {to : TE} {apos pos : Pos} {pl : Sem Bool} (ho : PE X ob to) (kc : Cls X.K Cl) (km : Meth X.K Cl nm fa) (ok : FnOk X.prog X.w X.K X.mg X.base CXq lv fa fdat pars prom) (room : Room lv X.A)
    (bn : Binds X.K fdat pars dfv) (vd : Vals dflt dfv) (ps : ∀ σ, PassesAt CXq X σ (Ex σ))
    (h3 : eval (.Call (.Attribute ob nm apos) [] [] pos) X.env = (do
      let ov ← eval ob X.env
      standAt apos.atName
      let (g, bound) ← holding [ov] (getMethod ov nm pl)
      callWith pos g bound (backTo pos (starEach [] X.env)) (backToKw pos (keywordEach [] X.env))) := by rfl) :
    PE X (.Call (.Attribute ob nm apos) [] [] pos) (tMethX Cl nm prom dflt Ex to tNil) := by
  constructor
  intro pins s0 σ H0 Qv inv hyp
  apply PySem.W.methodCall_KW (pl := pl) _ h3
  refine thn (ho.run pins s0 σ H0 _ inv hyp) ?_
  rintro u1 s1 ⟨xv, Hv, inv1, rel, ad, dd, flds, rfl, hobj, look, cont⟩
  obtain rfl : u1 = Value.ref ad := rel
  apply getmeth_ok inv1 hobj kc km look
  exact PySem.W.callWith_K0 (first := [.ref ad]) inv1.kIn km.kp (run_fnSD (us := [.ref ad]) (vs := [.ref ad]) ok room bn vd (ps σ) inv1 (.cons rfl .nil) cont)
end
theorem go_whileN {c : TT} {tb : TS} {D : Ends} {σ : L2.St} {H : Hp} (Pv : Nat → L2.St → Hp → Prop) (m0 : Nat) (h0 : Pv m0 σ H)
    (hs : ∀ (m : Nat) (B : Hp → Prop) σ H, Pv m σ H → (∀ H1, (∀ N : L2.St → Hp → Prop, (∀ m' σ' H', Pv m' σ' H' → m' < m → N σ' H') → tb { D with nx := N, ct := N, bk := D.nx } σ H1) → B H1) →
      c σ H fun b H1 => if b = true then B H1 else D.nx σ H1) : tWhile c tb D σ H :=
  ⟨Pv, ⟨m0, h0⟩, fun m σ H p => hs m (fun H1 => ∃ N : L2.St → Hp → Prop, (∀ σ' H', N σ' H' → ∃ m', m' < m ∧ Pv m' σ' H') ∧ tb { D with nx := N, ct := N, bk := D.nx } σ H1) σ H p
    fun H1 h => ⟨fun σ' H' => ∃ m', m' < m ∧ Pv m' σ' H', fun _ _ q => q, h _ fun m' σ' H' q l => ⟨m', l, q⟩⟩⟩
theorem rd_methX {C : Addr} {m : Str} {sp : Sp} {dvs : List V} {E : L2.St → XK} {to : TE} {t : TA} {σ : L2.St} {H : Hp} {Q : VK} : tMethX C m sp dvs E to t σ H Q = to σ H fun x H1 => isRef x fun a => MetAt H1 a C m ∧ t σ H1 fun vs H2 => sp (.ref a :: (vs ++ dvs)) H2 Q (E σ) := by
  unfold tMethX
  rw [rd_meth]
theorem rd_callSD {sp : Sp} {dvs : List V} {E : L2.St → XK} {t : TA} {σ : L2.St} {H : Hp} {Q : VK} : tCallSD sp dvs E t σ H Q = t σ H fun vs H1 => sp (vs ++ dvs) H1 Q (E σ) := rfl
end My
namespace My
open PySem PySem.Spec PyProof.Rows L2
theorem noTup_one {H : Hp} {x : Addr} {o : HO} (e : H x = some o) (n : ∀ xs, o ≠ .tup xs) : NoTup H [x] := fun b m xs z => by
  rw [List.mem_singleton] at m
  rw [m, e] at z
  cases z
  exact n _ rfl
theorem but_one {H : Hp} {x : Addr} {o : HO} : But [x] H (upd H x o) := fun b u e n => by
  rw [upd_ne (fun q => n (by rw [q]; exact List.mem_singleton_self _))]
  exact e
/-- a comprehension whose items are data: K i tells those made by i turns -/
theorem go_lck {J : It} {n : Nat} {G : Hp → Prop} {Y : Nat → Hp → V → Hp → Prop} (w : L2.Walk J n G Y) {g : TG} {tt : TT} {te : TE} {vs : List Nat} {σ : L2.St} {H1 : Hp} {D : Addr} {Qd : Hp → Prop} (K : Nat → List Ky) (h0 : K 0 = []) (hv : ∀ i, i ≤ n → Ky.vals (K i) = true) (hz : n ≤ sizeLine) (hl : ∀ i, (K i).length ≤ i) (hD : Fresh H1 D)
    (hG : ∀ H, Same H1 H → G H)
    (hs : ∀ (N : VK) (Z : Hp → Prop) i x H H', i < n → Same H1 H → Y i H x H' → (∀ y k H4, K (i + 1) = K i ++ [k] → Same H H4 → KyAt H4 y k → N y H4) → (K (i + 1) = K i → ∀ H4, Same H H4 → Z H4) →
      g x (wipe σ vs) H' fun σ2 H2 => wipe σ2 vs = wipe σ vs ∧ tt σ2 H2 fun b H3 => if b = true then te σ2 H3 N else Z H3)
    (hd : ∀ H ys, Same H1 H → H D = some (.lst ys) → KysAt H ys (K n) → Qd H) : lcGo J g tt te vs σ H1 D Qd := by
  refine lc_it w (fun i H => Same H1 H ∧ i ≤ n ∧ ∃ ys, H D = some (.lst ys) ∧ KysAt H ys (K i)) ⟨Same_upd (Same.refl _) hD, Nat.zero_le _, [], upd_same, by rw [h0]; exact .nil⟩ (fun i H _ h => hG H h.1) ?_ ?_
  · rintro i x H H' hi ⟨sm, hin, ys, hL, hr⟩ hY
    refine hs (fun y H4 => ∃ acc, H4 D = some (.lst acc) ∧ acc.length < sizeLine ∧ (Same H1 (upd H4 D (.lst (acc ++ [y]))) ∧ i + 1 ≤ n ∧ ∃ zs, (upd H4 D (.lst (acc ++ [y]))) D = some (.lst zs) ∧ KysAt (upd H4 D (.lst (acc ++ [y]))) zs (K (i + 1)))) _ i x H H' hi sm hY ?_ ?_
    · intro y k H4 e s4 hy
      have := KysAt.len hr
      have := hl i
      have v1 := hv (i + 1) hi
      refine ⟨ys, s4 _ _ hL, by omega, Same_upd0 (sm.trans s4) hD, hi, _, upd_same, ?_⟩
      refine KysAt.keep but_one (noTup_one (s4 _ _ hL) fun _ z => by cases z) _ _ v1 ?_
      rw [e]
      exact (hr.same s4 _ _).append (.cons hy .nil)
    · intro e H4 s4
      exact ⟨sm.trans s4, hi, ys, s4 _ _ hL, by rw [e]; exact hr.same s4 _ _⟩
  · rintro H ⟨sm, -, ys, hL, hr⟩
    exact hd H ys sm hL hr
theorem pe_fldK (K : PySem.W.Frag) {X : Cx} {e : Expr} {f : Str} {pos : Pos} {ta : TE} (h : X.K = K) (he : PE X e ta) (hb : attributeBase e f X.env (eval e X.env) = eval e X.env) : PE X (.Attribute e f pos) (tFld K ta f) := h ▸ pe_fld he hb
/-! range going down -/
def isR3 (vs : List V) (f : Int → Int → Int → Prop) : Prop := match vs with | [.int i, .int j, .int k] => f i j k | _ => False
theorem rd_isR3 {i j k : Int} {f : Int → Int → Int → Prop} : isR3 [.int i, .int j, .int k] f = f i j k := rfl
theorem rd_rng3 {tr : TA} {σ : L2.St} {H : Hp} {R : It → Hp → Prop} : iRng3 tr σ H R = tr σ H fun vs H1 => isR3 vs fun i j c => ∃ n, RgC i j c n ∧ R (Itc i c n) H1 := by
  unfold iRng3
  apply congrArg
  funext vs H1
  apply propext
  constructor
  · rintro ⟨i, j, c, n, rfl, h⟩; exact ⟨n, h⟩
  · intro h
    unfold isR3 at h
    split at h
    · rename_i i j c
      obtain ⟨n, h⟩ := h
      exact ⟨i, j, c, n, rfl, h⟩
    · exact h.elim
theorem go_rangeC {lo c : Int} {n : Nat} {g : TG} {tb : TS} {D : Ends} {σ : L2.St} {H : Hp} (Pv : Nat → L2.St → Hp → Prop) (h0 : Pv 0 σ H)
    (hs : ∀ (N : L2.St → Hp → Prop) (i : Nat) σ H, i < n → Pv i σ H → (∀ σ' H', Pv (i + 1) σ' H' → N σ' H') → g (.int (lo + (i : Nat) * c)) σ H fun σ2 H2 => tb { D with nx := N, ct := N, bk := D.nx } σ2 H2) (hd : ∀ σ H, Pv n σ H → D.nx σ H) : forGo (Itc lo c n) g tb D σ H :=
  for_rangeC Pv h0 (fun i σ H h1 h2 => hs _ i σ H h1 h2 fun _ _ z => z) hd
end My
local macro_rules | `(tactic| walk_at "rd") => `(tactic| try simp only [↓My.rd_var, ↓My.rd_c, ↓My.rd_op, ↓My.rd_un, ↓My.rd_test, ↓My.rd_B, ↓My.rd_and, ↓My.rd_or, ↓My.rd_not, ↓My.rd_andV, ↓My.rd_orV, ↓My.rd_notV, ↓My.rd_ifE, ↓My.rd_chain, ↓My.rd_ifS, ↓My.rd_ret, ↓My.rd_retN, ↓My.rd_seq, ↓My.rd_dnewK, ↓My.rd_dsetd, ↓My.rd_lcg, ↓My.rd_M1, ↓My.rd_BM, ↓My.rd_BM0, ↓My.rd_gSub, ↓My.rd_next, ↓My.rd_break, ↓My.rd_cont, ↓My.rd_drop, ↓My.rd_asg, ↓My.rd_gName, ↓My.rd_nil, ↓My.rd_cons, ↓My.rd_call, ↓My.rd_CB, ↓My.rd_for, ↓My.rd_rng1, ↓My.rd_rng2, ↓My.rd_rng3, My.rd_isR3, ↓My.rd_iList, ↓My.rd_iTup, ↓My.rd_iStr, ↓My.rd_lst, ↓My.rd_tup, ↓My.rd_sl, ↓My.rd_noPart, ↓My.rd_part, ↓My.rd_never, ↓My.rd_dget, ↓My.rd_din, ↓My.rd_dnotin, ↓My.rd_dput, ↓My.rd_enum, My.rd_isR0, ↓My.rd_fld, ↓My.rd_sfld, ↓My.rd_aug_fld, ↓My.rd_meth, ↓My.rd_methX, ↓My.rd_callSD, ↓My.rd_make, ↓My.rd_lenSet, My.rd_min, ↓My.rd_yes, ↓My.rd_zipA, My.rd_isR2a, My.rd_mulS, ↓My.rd_aug, My.rd_ipI, My.sizeB_pow, My.rd_spBare,
  My.rd_rI, My.rd_rI0, My.rd_rU, My.rd_eq, My.rd_ne, My.rd_isBl, My.rd_isR1, My.rd_isR2, My.rd_isRef, My.rd_isStr, My.rd_isInt, My.rd_isiF, My.rd_cat, My.rd_append, My.own_nil, My.own_cons, My.rd_wipe0, My.rd_wipe1, My.rd_addT, My.rd_ixS, My.rd_ixT, My.rd_slS, My.rd_join, My.rd_tupOf, My.rd_listOf, My.rd_gTup, My.rd_gCons, My.rd_gNil, My.rd_isB, My.rd_notB, My.rd_rep, My.rd_setL, My.rd_ixL, ↓My.rd_cut, My.rd_ixQ, My.rd_slL, My.rd_len, My.rd_lenU_str, My.rd_lenU_ref, My.rd_spI1, My.rd_spI2, My.rd_spI3, My.rd_spI4, My.rd_whole, My.rd_spCell, My.rd_max2, My.rd_min2, My.rd_spAny1, My.rd_spStamp, My.rd_ord, My.rd_spNew2,
  My.V_int_inj, My.V_bl_inj, My.V_str_inj, My.scal_ii, My.scal_bb, My.scal_ss, My.isi_non_int, My.isi_non_bool, My.isi_non_str, My.isi_non_tuple, My.isi_non_list, My.isi_bl_int, My.isi_bl_bool, My.isi_bl_str, My.isi_bl_tuple, My.isi_bl_list, My.isi_int_int, My.isi_int_bool, My.isi_int_str, My.isi_int_tuple, My.isi_int_list, My.isi_str_int, My.isi_str_bool, My.isi_str_str, My.isi_str_tuple, My.isi_str_list,
  My.st_nil, My.st_arg, My.st_none, My.cxK, Int.zero_add, Int.reduceToNat, Int.reducePow, Int.reduceMul, Int.reduceSub, Int.reduceAdd, Int.reduceNeg, Int.reduceLE, Int.reduceLT, List.getElem?_cons_zero, List.getElem?_cons_succ, List.set_cons_zero, List.set_cons_succ, List.append_nil, List.cons_append, List.nil_append, decide_eq_true_eq, Bool.not_eq_true', decide_eq_false_iff_not, Bool.not_true, Bool.not_false, Bool.false_eq_true, Bool.true_eq_false, if_true, if_false, true_and, and_true, ite_true, ite_false, if_pos, if_neg, ne_eq, not_true_eq_false, not_false_eq_true, reduceIte, Bool.not_not])
local macro_rules | `(tactic| walk_at "spl") => `(tactic| first | exact My.len_spI1 (by assumption) | exact My.len_spI2 (by assumption) | exact My.len_spI3 (by assumption) | exact My.len_spI4 (by assumption) | exact My.len_whole (by assumption) | exact My.len_law (by assumption) | exact My.len_cell (by assumption) | exact My.len_new2 (by assumption) | exact My.len_when (by assumption) | exact My.len_text (by assumption) | exact My.len_anyLeaf (by assumption) | exact My.len_anyKey (by assumption) | exact My.len_key3 (by assumption) | exact My.len_same (by assumption) | exact My.len_rowsSame (by assumption) | exact My.len_placeB (by assumption) | exact My.len_row (by assumption) | exact My.len_paperB (by assumption) | exact My.len_paper (by assumption) | exact My.len_placeOf (by assumption) | exact My.len_bare (by assumption) | exact My.len_stream (by assumption) | exact My.len_cellsOf (by assumption) | exact My.len_ahead (by assumption) | exact My.len_laid (by assumption) | exact My.len_any1 (by assumption) | exact My.len_stamp (by assumption))
local macro_rules | `(tactic| walk_at "ne") => `(tactic| first | assumption | exact Ne.symm (by assumption) | exact My.Fresh.ne (by assumption) (by walk_at "hp") | exact Ne.symm (My.Fresh.ne (by assumption) (by walk_at "hp")))
local macro_rules | `(tactic| walk_at "hp") => `(tactic| first | assumption | exact L2.upd_same | exact (by assumption : L2.Same _ _) _ _ (by walk_at "hp") | (refine Eq.trans (L2.upd_ne ?_) ?_; (walk_at "ne"); (walk_at "hp")))
local macro_rules | `(tactic| walk_at "sq") => `(tactic| first | assumption | exact L2.SqL.of (by walk_at "hp") | exact L2.SqT.of (by walk_at "hp") | (refine L2.Same.seq ?_ (by assumption); walk_at "same"))
local macro_rules | `(tactic| walk_at "same") => `(tactic| first | assumption | exact L2.Same.refl _ | exact My.Same_upd (by walk_at "same") (by assumption) | exact L2.Same.trans (by walk_at "same") (by assumption))
local macro_rules | `(tactic| walk_at "sz") => `(tactic| first | assumption | (with_unfolding_all decide) | (rw [PySem.sizeLine_eq]; simp only [List.length_append, List.length_cons, List.length_nil, List.length_map, List.length_replicate, List.length_take, List.length_drop]; omega))
local macro_rules | `(tactic| walk_at "side") => `(tactic| first | assumption | exact trivial | decide +kernel | omega | exact ⟨by decide +kernel, by decide +kernel⟩ | exact ⟨by decide +kernel, by decide +kernel, by decide +kernel⟩ | exact ⟨by omega, by omega⟩ | exact My.mulL (by omega) (by omega) | exact My.mulR (by omega) (by omega) | exact PySem.IntMulOk.of_bits (by omega) (by omega) | exact My.divB (by omega) (by omega))
local macro_rules | `(tactic| walk_at "dt") => `(tactic| repeat' first | (refine My.both ?_ ?_; (walk_at "side")) | (refine My.iteB (fun _ => ?_) (fun _ => ?_)))
local macro_rules | `(tactic| walk_at "go") => `(tactic| repeat' first | (refine My.exSq (by walk_at "sq") ?_) | (refine My.exSqV (by walk_at "sq") ?_) | (refine My.both ?_ ?_; (walk_at "side")))
namespace My
open PySem PySem.Spec PyProof.Rows L2
/-! cells of a row with gaps -/
structure CWf (row : List Ky) (j : Nat) (cs : List Int) : Prop where
  len : cs.length = 2 ^ j
  j3 : 3 ≤ j
  j12 : j ≤ 12
  rl : (row.length : Int) ≤ 2 * 2 ^ j / 3
  cnt : 2 ^ j ≤ cs.count (-1) + row.length
  cell : ∀ s : Int, 0 ≤ s → s < 2 ^ j → getI cs s = -1 ∨ getI cs s = -2 ∨ (0 ≤ getI cs s ∧ getI cs s < row.length ∧ ∃ k, row[(getI cs s).toNat]? = some k ∧ k ≠ .non)
  inj : ∀ s t : Int, 0 ≤ s → s < 2 ^ j → 0 ≤ t → t < 2 ^ j → getI cs s = getI cs t → 0 ≤ getI cs s → s = t
  ahead : ∀ (p : Nat) k, row[p]? = some k → k ≠ .non → ∃ n : Nat, n < 2 ^ j ∧ getI cs (probeF k.stamp (2 ^ j) n) = p ∧ ∀ t : Nat, t < n → getI cs (probeF k.stamp (2 ^ j) t) ≠ -1
  nd : ∀ (p q : Nat) k, row[p]? = some k → row[q]? = some k → k ≠ .non → p = q
  rok : RowOk row
section
variable {row : List Ky} {j : Nat} {cs : List Int} {y : Ky}
theorem room_lt {j : Nat} {n : Nat} (h : (n : Int) ≤ 2 * 2 ^ j / 3) : n < 2 ^ j := by
  have := pow_cast j
  have : (0 : Int) < 2 ^ j := (pow_le (Nat.le_refl j)).1
  omega
theorem CWf.mem (h : CWf row j cs) : (-1) ∈ cs := by
  have := h.cnt
  have := room_lt h.rl
  exact List.count_pos_iff.mp (by omega)
theorem CWf.ok (h : CWf row j cs) : CellsOk cs row.length := fun s h0 h1 => by
  have := pow_cast j
  have := h.len
  rcases h.cell s h0 (by omega) with q | q | ⟨q1, q2, _⟩
  · exact .inl q
  · exact .inr (.inl q)
  · exact .inr (.inr ⟨q1, q2⟩)
theorem CWf.lt (h : CWf row j cs) : row.length ≤ 2730 := by
  have := h.rl
  have := (pow_le h.j12).2
  simp only [Int.reducePow] at this
  omega
/-- the place at which a paper ends -/
def placeO (cs : List Int) (ks : List Ky) (j : Nat) (k : Ky) : Option Nat := if lastCell cs ks j k = -1 then none else some (lastCell cs ks j k).toNat
theorem CWf.last (h : CWf row j cs) (y : Ky) : stopB cs row j y (paperN cs row j y - 1) = true := (paperN_range cs row j y).2.2.2.2 (stop_ex h.j12 h.len h.mem)
theorem CWf.last_cases (h : CWf row j cs) (y : Ky) : lastCell cs row j y = -1 ∨ ∃ p : Nat, lastCell cs row j y = p ∧ row[p]? = some y := by
  have s := h.last y
  obtain ⟨n0, n1, -⟩ := paperN_range cs row j y
  obtain ⟨r0, r1⟩ := probe_range y.stamp ((paperN cs row j y - 1 : Nat) : Int) h.j12
  have c := h.cell _ r0 r1
  unfold stopB at s
  unfold lastCell
  generalize getI cs (probeF y.stamp (2 ^ j) ((paperN cs row j y - 1 : Nat) : Int)) = z at *
  rcases c with rfl | rfl | ⟨q1, q2, k, q3, q4⟩
  · exact .inl rfl
  · simp at s
  · right
    refine ⟨z.toNat, by omega, ?_⟩
    have : ¬ z = -1 := by omega
    simp only [decide_eq_false this, Bool.false_or, Bool.and_eq_true, decide_eq_true_eq] at s
    exact s.2
theorem CWf.last_in (h : CWf row j cs) {p : Nat} (e : row[p]? = some y) (n : y ≠ .non) : lastCell cs row j y = p := by
  rcases h.last_cases y with q | ⟨p', q1, q2⟩
  · obtain ⟨m, a1, a2, a3⟩ := h.ahead p y e n
    obtain ⟨-, -, n2, -⟩ := paperN_range cs row j y
    exfalso
    unfold lastCell at q
    rcases Nat.lt_or_ge (paperN cs row j y - 1) m with g | g
    · exact a3 _ g q
    · have hs : stopB cs row j y m = true := by
        unfold stopB
        rw [a2]
        have : ¬ ((p : Int) = -2) := by omega
        simp [e, this]
      rcases Nat.lt_or_ge (m + 1) (paperN cs row j y) with g2 | g2
      · rw [n2 m g2] at hs
        cases hs
      · have em : paperN cs row j y - 1 = m := by omega
        rw [em, a2] at q
        omega
  · rw [q1, h.nd p' p y q2 e n]
theorem CWf.place_some (h : CWf row j cs) (n : y ≠ .non) {p : Nat} : placeO cs row j y = some p ↔ row[p]? = some y := by
  unfold placeO
  constructor
  · intro e
    split at e
    · cases e
    · rename_i c
      rcases h.last_cases y with q | ⟨p', q1, q2⟩
      · exact absurd q c
      · cases e
        rw [q1]
        exact q2
  · intro e
    rw [h.last_in e n, if_neg (by omega), Int.toNat_natCast]
theorem CWf.place_none (h : CWf row j cs) (n : y ≠ .non) : placeO cs row j y = none ↔ y ∉ row := by
  constructor
  · intro e m
    obtain ⟨p, hp⟩ := List.mem_iff_getElem?.mp m
    rw [(h.place_some n).mpr hp] at e
    cases e
  · intro m
    cases e : placeO cs row j y with
    | none => rfl
    | some p => exact absurd (List.mem_of_getElem? ((h.place_some n).mp e)) m
theorem CWf.last_place (h : CWf row j cs) : (if lastCell cs row j y = -1 then V.non else V.int (lastCell cs row j y)) = (match placeO cs row j y with | none => V.non | some p => V.int (p : Nat)) := by
  unfold placeO
  rcases h.last_cases y with q | ⟨p, q1, q2⟩
  · rw [q]; rfl
  · rw [q1]
    have : ¬ ((p : Int) = -1) := by omega
    simp [this]
/-- the slot at which a paper ends -/
def lastSlot (cs : List Int) (ks : List Ky) (j : Nat) (k : Ky) : Int := probeF k.stamp (2 ^ j) ((paperN cs ks j k - 1 : Nat) : Int)
theorem CWf.slot_bare (h : CWf row j cs) (n : y ≠ .non) (e : y ∉ row) : lastSlot cs row j y = probeF y.stamp (2 ^ j) (bareN cs j y.stamp) := by
  have e := (h.place_none n).mpr e
  have hb := bare_ex y.stamp h.j12 h.len h.mem
  obtain ⟨n0, n1, n2, -⟩ := paperN_range cs row j y
  unfold placeO at e
  split at e
  · rename_i c
    unfold lastCell at c
    unfold lastSlot
    rw [Bare.uniq (a := paperN cs row j y - 1) ⟨by omega, c, fun i hi => ?_⟩ hb]
    have := n2 i (by omega)
    unfold stopB at this
    intro q
    rw [q] at this
    simp at this
  · cases e
theorem CWf.lay (h : CWf row j cs) (k : KeyOk y) (e : y ∉ row) (r : (row.length : Int) < 2 * 2 ^ j / 3) : CWf (row ++ [y]) j (layS cs j row.length y) := by
  have n : y ≠ .non := fun q => by rw [q] at k; have := k.g; simp [Ky.good] at this
  obtain ⟨b1, b2, b3⟩ := bare_ex y.stamp h.j12 h.len h.mem
  unfold layS
  rw [if_neg n]
  generalize bareN cs j y.stamp = m at b1 b2 b3 ⊢
  obtain ⟨r0, r1⟩ := probe_range y.stamp m h.j12
  have hl := h.len
  have pc := pow_cast j
  have gs : ∀ t : Int, 0 ≤ t → getI (cs.set (probeF y.stamp (2 ^ j) m).toNat row.length) t = if t = probeF y.stamp (2 ^ j) m then (row.length : Int) else getI cs t := fun t ht => getI_set r0 (by omega) ht
  have lt : (probeF y.stamp (2 ^ j) m).toNat < cs.length := by omega
  have old : ∀ {p : Nat} {k : Ky}, row[p]? = some k → (row ++ [y])[p]? = some k := fun {p k} q => by
    rw [List.getElem?_append_left (List.getElem?_eq_some_iff.mp q).1]; exact q
  have new : ∀ {p : Nat} {k : Ky}, (row ++ [y])[p]? = some k → row[p]? = some k ∨ (p = row.length ∧ k = y) := fun {p k} q => by
    rcases Nat.lt_or_ge p row.length with g | g
    · rw [List.getElem?_append_left g] at q; exact .inl q
    · rw [List.getElem?_append_right g] at q
      have : p - row.length = 0 := by
        have := (List.getElem?_eq_some_iff.mp q).1
        simp at this
        omega
      rw [this] at q
      simp at q
      exact .inr ⟨by omega, q.symm⟩
  have notat : ∀ s : Int, 0 ≤ s → s < 2 ^ j → getI cs s ≠ row.length := fun s h0 h1 => by
    rcases h.cell s h0 h1 with q | q | ⟨q1, q2, _⟩ <;> omega
  have keep : ∀ (k' : Ky) (c : Nat), getI cs (probeF k'.stamp (2 ^ j) c) ≠ -1 → getI (cs.set (probeF y.stamp (2 ^ j) m).toNat row.length) (probeF k'.stamp (2 ^ j) c) = getI cs (probeF k'.stamp (2 ^ j) c) := by
    intro k' c hc
    rw [gs _ (probe_range _ _ h.j12).1, if_neg]
    intro e2
    rw [e2] at hc
    exact hc b2
  refine ⟨by rw [List.length_set]; exact hl, h.j3, h.j12, by rw [List.length_append]; simp; omega, ?_, fun s h0 h1 => ?_, fun s t h0 h1 t0 t1 e2 ge => ?_, fun p k' hk' nk => ?_, fun p q k' e1 e2 nk => ?_, fun z hz => ?_⟩
  · have c := h.cnt
    rw [List.count_set lt, List.length_append, List.length_singleton]
    split <;> split <;> omega
  · rw [gs s h0]
    split
    · exact .inr (.inr ⟨by omega, by rw [List.length_append, List.length_singleton]; omega, y, by rw [Int.toNat_natCast, List.getElem?_append_right (Nat.le_refl _), Nat.sub_self]; rfl, n⟩)
    · rcases h.cell s h0 h1 with q | q | ⟨q1, q2, k', q3, q4⟩
      · exact .inl q
      · exact .inr (.inl q)
      · exact .inr (.inr ⟨q1, by rw [List.length_append, List.length_singleton]; omega, k', old q3, q4⟩)
  · rw [gs s h0, gs t t0] at e2
    rw [gs s h0] at ge
    split at e2 <;> split at e2
    · omega
    · exact absurd e2.symm (notat t t0 t1)
    · exact absurd e2 (notat s h0 h1)
    · rename_i c1 c2
      rw [if_neg c1] at ge
      exact h.inj s t h0 h1 t0 t1 e2 ge
  · rcases new hk' with q | ⟨rfl, rfl⟩
    · obtain ⟨m', a1, a2, a3⟩ := h.ahead p k' q nk
      exact ⟨m', a1, by rw [keep k' m' (by omega)]; exact a2, fun t ht => by rw [keep k' t (a3 t ht)]; exact a3 t ht⟩
    · exact ⟨m, b1, by rw [gs _ r0, if_pos rfl], fun t ht => by rw [keep k' t (b3 t ht)]; exact b3 t ht⟩
  · rcases new e1 with q1 | ⟨rfl, rfl⟩ <;> rcases new e2 with q2 | ⟨rfl, z⟩
    · exact h.nd p q k' q1 q2 nk
    · subst z
      exact absurd (List.mem_of_getElem? q1) e
    · exact absurd (List.mem_of_getElem? q2) e
    · rfl
  · rcases List.mem_append.mp hz with hz | hz
    · exact h.rok z hz
    · rw [List.mem_singleton] at hz
      rw [hz]
      exact .inr k
theorem CWf.gone (h : CWf row j cs) {p : Nat} (e : row[p]? = some y) (n : y ≠ .non) : CWf (row.set p .non) j (cs.set (lastSlot cs row j y).toNat (-2)) := by
  have hp : p < row.length := (List.getElem?_eq_some_iff.mp e).1
  have la := h.last_in e n
  unfold lastCell at la
  unfold lastSlot
  obtain ⟨r0, r1⟩ := probe_range y.stamp ((paperN cs row j y - 1 : Nat) : Int) h.j12
  generalize probeF y.stamp (2 ^ j) ((paperN cs row j y - 1 : Nat) : Int) = s0 at *
  have hl := h.len
  have pc := pow_cast j
  have gs : ∀ t : Int, 0 ≤ t → getI (cs.set s0.toNat (-2)) t = if t = s0 then -2 else getI cs t := fun t ht => getI_set r0 (by omega) ht
  have lt : s0.toNat < cs.length := by omega
  have only : ∀ s : Int, 0 ≤ s → s < 2 ^ j → getI cs s = p → s = s0 := fun s h0 h1 q => h.inj s s0 h0 h1 r0 r1 (by rw [q, la]) (by omega)
  have new : ∀ {q : Nat} {k : Ky}, (row.set p .non)[q]? = some k → k ≠ .non → row[q]? = some k ∧ q ≠ p := fun {q k} g nk => by
    rw [List.getElem?_set] at g
    split at g
    · simp at g
      exact absurd g.symm nk
    · exact ⟨g, by omega⟩
  have ge : getI cs s0 = cs[s0.toNat] := by
    unfold getI
    rw [List.getD_eq_getElem?_getD, List.getElem?_eq_getElem lt]
    rfl
  refine ⟨by rw [List.length_set]; exact hl, h.j3, h.j12, by rw [List.length_set]; exact h.rl, ?_, fun s h0 h1 => ?_, fun s t h0 h1 t0 t1 e2 gz => ?_, fun q k' hk' nk => ?_, fun q q' k' e1 e2 nk => ?_, fun z hz => ?_⟩
  · have c := h.cnt
    rw [List.count_set lt, List.length_set, ← ge, la]
    have : ¬ ((p : Int) == -1) = true := by simp
    rw [if_neg this, if_neg (by decide)]
    omega
  · rw [gs s h0]
    split
    · exact .inr (.inl rfl)
    · rename_i c
      rcases h.cell s h0 h1 with q | q | ⟨q1, q2, k', q3, q4⟩
      · exact .inl q
      · exact .inr (.inl q)
      · refine .inr (.inr ⟨q1, by rw [List.length_set]; omega, k', ?_, q4⟩)
        rw [List.getElem?_set, if_neg]
        · exact q3
        · intro z
          exact c (only s h0 h1 (by omega))
  · rw [gs s h0, gs t t0] at e2
    rw [gs s h0] at gz
    split at gz
    · omega
    · rename_i c1
      rw [if_neg c1] at e2
      split at e2
      · omega
      · exact h.inj s t h0 h1 t0 t1 e2 gz
  · obtain ⟨g, gq⟩ := new hk' nk
    obtain ⟨m', a1, a2, a3⟩ := h.ahead q k' g nk
    have np : ∀ t : Nat, getI cs (probeF k'.stamp (2 ^ j) t) ≠ -1 → getI (cs.set s0.toNat (-2)) (probeF k'.stamp (2 ^ j) t) ≠ -1 := fun t ht => by
      rw [gs _ (probe_range _ _ h.j12).1]
      split
      · decide
      · exact ht
    refine ⟨m', a1, ?_, fun t ht => np t (a3 t ht)⟩
    rw [gs _ (probe_range _ _ h.j12).1, if_neg]
    · exact a2
    · intro z
      rw [z, la] at a2
      omega
  · exact h.nd q q' k' (new e1 nk).1 (new e2 nk).1 nk
  · rcases List.mem_or_eq_of_mem_set hz with hz | hz
    · exact h.rok z hz
    · exact .inl hz
end
theorem cwf_nil {j : Nat} (h3 : 3 ≤ j) (h12 : j ≤ 12) : CWf [] j (List.replicate (2 ^ j) (-1)) := by
  have L := laid_zero [] j
  have z : (0 : Int) < 2 ^ j := (pow_le (Nat.le_refl j)).1
  refine ⟨L.len, h3, h12, by simp; omega, by simp [List.count_replicate_self], fun s h0 h1 => ?_, fun s t h0 h1 t0 t1 e g => ?_, fun p k e => by simp at e, fun p q k e => by simp at e, fun _ h => by cases h⟩
  · rcases L.cell s h0 h1 with q | ⟨q1, q2, _⟩
    · exact .inl q
    · omega
  · have a := L.cell s h0 h1
    rcases a with q | ⟨q1, q2, _⟩
    · have q' : getI (List.replicate (2 ^ j) (-1)) s = -1 := q
      omega
    · omega
theorem cwf_laid {ks : List Ky} {j : Nat} (h3 : 3 ≤ j) (h12 : j ≤ 12) (hl : (ks.length : Int) ≤ 2 * 2 ^ j / 3) (hr : RowOk ks) (nd : ∀ (p q : Nat) k, ks[p]? = some k → ks[q]? = some k → k ≠ .non → p = q) : CWf ks j (layN j ks ks.length) := by
  have L := laid_at (ks := ks) h12 (room_lt hl) ks.length (Nat.le_refl _)
  refine ⟨L.len, h3, h12, hl, L.cnt, fun s h0 h1 => ?_, fun s t h0 h1 t0 t1 e g => L.inj s t h0 h1 t0 t1 e (by omega), fun p k e n => ?_, nd, hr⟩
  · rcases L.cell s h0 h1 with q | ⟨q1, q2, q3⟩
    · exact .inl q
    · exact .inr (.inr ⟨q1, by omega, q3⟩)
  · obtain ⟨m, a1, a2, a3⟩ := L.ahead p k (List.getElem?_eq_some_iff.mp e).1 e n
    exact ⟨m, a1, a2, fun t ht => by have := (a3 t ht).1; omega⟩
end My
namespace My
open PySem PySem.Spec PyProof.Rows L2
/-! frames: what may change stands at fp -/
structure Gr (fp : List Addr) (H H' : Hp) : Prop where
  keep : ∀ b o, H b = some o → b ∉ fp → H' b = some o
  free : ∀ b, H' b = none → H b = none
def Sub (fp' fp : List Addr) (H : Hp) : Prop := ∀ x ∈ fp', x ∈ fp ∨ Fresh H x
section
variable {fp fp1 fp2 : List Addr} {H H1 H2 H3 Hb : Hp} {x : Addr} {o : HO}
theorem Gr.refl : Gr fp H H := ⟨fun _ _ e _ => e, fun _ e => e⟩
theorem Gr.of (s : Same H H1) : Gr fp H H1 := ⟨fun b o e _ => s b o e, fun _ e => s.free e⟩
theorem Gr.trans (a : Gr fp H H1) (b : Gr fp H1 H2) : Gr fp H H2 := ⟨fun q u e n => b.keep q u (a.keep q u e n) n, fun q e => a.free q (b.free q e)⟩
theorem Gr.put (s : Gr fp H H1) (m : x ∈ fp) : Gr fp H (upd H1 x o) := ⟨fun b u e n => by rw [upd_ne (fun q => n (by rw [q]; exact m))]; exact s.keep b u e n, fun b e => by
  by_cases q : b = x
  · rw [q, upd_same] at e; cases e
  · rw [upd_ne q] at e; exact s.free b e⟩
theorem Gr.new (s : Gr fp H H1) (f : Fresh H x) : Gr fp H (L2.upd H1 x o) := ⟨fun b u e n => by rw [upd_ne (f.ne e)]; exact s.keep b u e n, fun b e => by
  by_cases q : b = x
  · rw [q, upd_same] at e; cases e
  · rw [upd_ne q] at e; exact s.free b e⟩
theorem Gr.same (g : Gr fp H H1) (s : Same Hb H) (f : ∀ x ∈ fp, Fresh Hb x) : Same Hb H1 := fun b u e => g.keep b u (s b u e) fun m => by
  have := f b m
  unfold Fresh at this
  rw [this] at e
  cases e
theorem Gr.comp (a : Gr fp H H1) (s : Sub fp1 fp H) (b : Gr fp1 H1 H2) : Gr fp H H2 := ⟨fun q u e n => b.keep q u (a.keep q u e n) fun m => (s q m).elim n fun f => (by unfold Fresh at f; rw [f] at e; cases e), fun q e => a.free q (b.free q e)⟩
theorem Sub.refl : Sub fp fp H := fun _ m => .inl m
theorem Sub.comp (s : Sub fp1 fp H) (a : Gr fp H H1) (t : Sub fp2 fp1 H1) : Sub fp2 fp H := fun x m => (t x m).elim (s x) fun f => .inr (a.free x f)
theorem Sub.fresh (s : Sub fp1 fp H) (b : Same Hb H) (f : ∀ x ∈ fp, Fresh Hb x) : ∀ x ∈ fp1, Fresh Hb x := fun x m => (s x m).elim (f x) fun g => Same_fresh b g
theorem Sub.not (s : Sub fp1 fp H) (e : H x = some o) (n : x ∉ fp) : x ∉ fp1 := fun m => (s x m).elim n fun f => by unfold Fresh at f; rw [f] at e; cases e
theorem Gr.mono (g : Gr fp H H1) (h : ∀ x ∈ fp, x ∈ fp1) : Gr fp1 H H1 := ⟨fun b o e n => g.keep b o e fun m => n (h b m), g.free⟩
end
/-! the shelf: what it is -/
structure Sh where
  row : List Ky
  held : List Ky
  born : List Int
  cells : List Int
  j : Nat
  jl : Nat
  com : Int
  goi : Int
  tid : Int
  mov : Int
/-- what stands ahead of a shelf's own fields: of a kin its maker, seats, apart -/
inductive Pre where
  | no
  | kin (m s : Addr) (ap : Bool)
def preF : Pre → List (Str × V)
  | .no => []
  | .kin m s ap => [("maker", .ref m), ("seats", .ref s), ("apart", .bl ap)]
def shF (p : Pre) (c r h b : Addr) (S : Sh) : List (Str × V) := preF p ++ ([("cells", .ref c), ("size", .int (2 ^ S.j)), ("least", .int (2 ^ S.jl)), ("row", .ref r), ("held", .ref h), ("born", .ref b), ("comings", .int S.com), ("goings", .int S.goi), ("tidied", .int S.tid), ("moved", .int S.mov)] : List (Str × V))
structure ShC (K : PySem.W.Frag) (C : Addr) : Prop where
  cls : Cls K C
  cells : NoAttr K C "cells"
  size : NoAttr K C "size"
  least : NoAttr K C "least"
  row : NoAttr K C "row"
  held : NoAttr K C "held"
  born : NoAttr K C "born"
  comings : NoAttr K C "comings"
  goings : NoAttr K C "goings"
  tidied : NoAttr K C "tidied"
  moved : NoAttr K C "moved"
structure ShRaw (H : Hp) (C a dx : Addr) (p : Pre) (c r h b : Addr) (S : Sh) (ws us : List V) : Prop where
  ha : H a = some (.ins C dx (shF p c r h b S))
  hc : H c = some (.lst (S.cells.map V.int))
  hr : H r = some (.lst ws)
  hh : H h = some (.lst us)
  hb : H b = some (.lst (S.born.map V.int))
  kr : KysAt H ws S.row
  kh : KysAt H us S.held
  vr : Ky.vals S.row = true
  vh : Ky.vals S.held = true
  ne : c ≠ r ∧ c ≠ h ∧ c ≠ b ∧ r ≠ h ∧ r ≠ b ∧ h ≠ b
theorem shF_len {p : Pre} {c r h b : Addr} {S : Sh} : (shF p c r h b S).length < 1000 := by cases p <;> simp [shF, preF]
section
variable {K : PySem.W.Frag} {H H' : Hp} {Q : VK} {R : Hp → Prop} {C a dx : Addr} {p : Pre} {c r h b : Addr} {S : Sh} {ws us : List V}
theorem fld_cells (k : ShC K C) (e : H a = some (.ins C dx (shF p c r h b S))) : FldAt K H a "cells" Q = Q (.ref c) H := fldAt e k.cls k.cells (by cases p <;> with_unfolding_all rfl)
theorem fld_size (k : ShC K C) (e : H a = some (.ins C dx (shF p c r h b S))) : FldAt K H a "size" Q = Q (.int (2 ^ S.j)) H := fldAt e k.cls k.size (by cases p <;> with_unfolding_all rfl)
theorem fld_least (k : ShC K C) (e : H a = some (.ins C dx (shF p c r h b S))) : FldAt K H a "least" Q = Q (.int (2 ^ S.jl)) H := fldAt e k.cls k.least (by cases p <;> with_unfolding_all rfl)
theorem fld_row (k : ShC K C) (e : H a = some (.ins C dx (shF p c r h b S))) : FldAt K H a "row" Q = Q (.ref r) H := fldAt e k.cls k.row (by cases p <;> with_unfolding_all rfl)
theorem fld_held (k : ShC K C) (e : H a = some (.ins C dx (shF p c r h b S))) : FldAt K H a "held" Q = Q (.ref h) H := fldAt e k.cls k.held (by cases p <;> with_unfolding_all rfl)
theorem fld_born (k : ShC K C) (e : H a = some (.ins C dx (shF p c r h b S))) : FldAt K H a "born" Q = Q (.ref b) H := fldAt e k.cls k.born (by cases p <;> with_unfolding_all rfl)
theorem fld_comings (k : ShC K C) (e : H a = some (.ins C dx (shF p c r h b S))) : FldAt K H a "comings" Q = Q (.int S.com) H := fldAt e k.cls k.comings (by cases p <;> with_unfolding_all rfl)
theorem fld_goings (k : ShC K C) (e : H a = some (.ins C dx (shF p c r h b S))) : FldAt K H a "goings" Q = Q (.int S.goi) H := fldAt e k.cls k.goings (by cases p <;> with_unfolding_all rfl)
theorem fld_tidied (k : ShC K C) (e : H a = some (.ins C dx (shF p c r h b S))) : FldAt K H a "tidied" Q = Q (.int S.tid) H := fldAt e k.cls k.tidied (by cases p <;> with_unfolding_all rfl)
theorem fld_moved (k : ShC K C) (e : H a = some (.ins C dx (shF p c r h b S))) : FldAt K H a "moved" Q = Q (.int S.mov) H := fldAt e k.cls k.moved (by cases p <;> with_unfolding_all rfl)
theorem set_cells (k : ShC K C) {c' : Addr} {cs : List Int} (e : H a = some (.ins C dx (shF p c r h b S))) : SetAt K H a "cells" (.ref c') R = R (upd H a (.ins C dx (shF p c' r h b { S with cells := cs }))) := setAt e k.cls k.cells shF_len (by cases p <;> with_unfolding_all rfl)
theorem set_row (k : ShC K C) {c' : Addr} {ks : List Ky} (e : H a = some (.ins C dx (shF p c r h b S))) : SetAt K H a "row" (.ref c') R = R (upd H a (.ins C dx (shF p c c' h b { S with row := ks }))) := setAt e k.cls k.row shF_len (by cases p <;> with_unfolding_all rfl)
theorem set_held (k : ShC K C) {c' : Addr} {ks : List Ky} (e : H a = some (.ins C dx (shF p c r h b S))) : SetAt K H a "held" (.ref c') R = R (upd H a (.ins C dx (shF p c r c' b { S with held := ks }))) := setAt e k.cls k.held shF_len (by cases p <;> with_unfolding_all rfl)
theorem set_born (k : ShC K C) {c' : Addr} {cs : List Int} (e : H a = some (.ins C dx (shF p c r h b S))) : SetAt K H a "born" (.ref c') R = R (upd H a (.ins C dx (shF p c r h c' { S with born := cs }))) := setAt e k.cls k.born shF_len (by cases p <;> with_unfolding_all rfl)
theorem set_size (k : ShC K C) {j : Nat} (e : H a = some (.ins C dx (shF p c r h b S))) : SetAt K H a "size" (.int (2 ^ j)) R = R (upd H a (.ins C dx (shF p c r h b { S with j := j }))) := setAt e k.cls k.size shF_len (by cases p <;> with_unfolding_all rfl)
theorem set_goings (k : ShC K C) {n : Int} (e : H a = some (.ins C dx (shF p c r h b S))) : SetAt K H a "goings" (.int n) R = R (upd H a (.ins C dx (shF p c r h b { S with goi := n }))) := setAt e k.cls k.goings shF_len (by cases p <;> with_unfolding_all rfl)
theorem aug_comings (k : ShC K C) {σ : L2.St} {n : Int} (e : H a = some (.ins C dx (shF p c r h b S))) : AugAt K H a "comings" (tC (.int n)) L2.rAdd σ R = R (upd H a (.ins C dx (shF p c r h b { S with com := S.com + n }))) := augAt (i := S.com) e k.cls k.comings (by cases p <;> with_unfolding_all rfl) shF_len (by cases p <;> with_unfolding_all rfl)
theorem aug_goings (k : ShC K C) {σ : L2.St} {n : Int} (e : H a = some (.ins C dx (shF p c r h b S))) : AugAt K H a "goings" (tC (.int n)) L2.rAdd σ R = R (upd H a (.ins C dx (shF p c r h b { S with goi := S.goi + n }))) := augAt (i := S.goi) e k.cls k.goings (by cases p <;> with_unfolding_all rfl) shF_len (by cases p <;> with_unfolding_all rfl)
theorem aug_tidied (k : ShC K C) {σ : L2.St} {n : Int} (e : H a = some (.ins C dx (shF p c r h b S))) : AugAt K H a "tidied" (tC (.int n)) L2.rAdd σ R = R (upd H a (.ins C dx (shF p c r h b { S with tid := S.tid + n }))) := augAt (i := S.tid) e k.cls k.tidied (by cases p <;> with_unfolding_all rfl) shF_len (by cases p <;> with_unfolding_all rfl)
/-! what stores do -/
theorem ShRaw.nca (g : ShRaw H C a dx p c r h b S ws us) : a ≠ c ∧ a ≠ r ∧ a ≠ h ∧ a ≠ b := ⟨ne_of g.ha g.hc (by intro z; cases z), ne_of g.ha g.hr (by intro z; cases z), ne_of g.ha g.hh (by intro z; cases z), ne_of g.ha g.hb (by intro z; cases z)⟩
theorem ShRaw.ext (g : ShRaw H C a dx p c r h b S ws us) (s : Same H H') : ShRaw H' C a dx p c r h b S ws us := ⟨s _ _ g.ha, s _ _ g.hc, s _ _ g.hr, s _ _ g.hh, s _ _ g.hb, g.kr.same s _ _, g.kh.same s _ _, g.vr, g.vh, g.ne⟩
theorem kys_upd {x : Addr} {o o' : HO} {ws : List V} {ks : List Ky} (e : H x = some o) (n : ∀ xs, o ≠ .tup xs) (v : Ky.vals ks = true) (h : KysAt H ws ks) : KysAt (upd H x o') ws ks := KysAt.keep but_one (noTup_one e n) ks ws v h
theorem ky_upd {x : Addr} {o o' : HO} {v : V} {y : Ky} (e : H x = some o) (n : ∀ xs, o ≠ .tup xs) (g : y.val = true) (h : KyAt H v y) : KyAt (upd H x o') v y := KyAt.keep but_one (noTup_one e n) y v g h
theorem vals_append {xs ys : List Ky} (h : Ky.vals xs = true) (g : Ky.vals ys = true) : Ky.vals (xs ++ ys) = true := vals_iff.mpr fun k hk => (List.mem_append.mp hk).elim (vals_iff.mp h k) (vals_iff.mp g k)
theorem vals_set {xs : List Ky} {i : Nat} {y : Ky} (h : Ky.vals xs = true) (g : y.val = true) : Ky.vals (xs.set i y) = true := vals_iff.mpr fun k hk => (List.mem_or_eq_of_mem_set hk).elim (vals_iff.mp h k) fun e => by rw [e]; exact g
theorem vals_one {y : Ky} (g : y.val = true) : Ky.vals [y] = true := by rw [Ky.vals, g]; rfl
theorem ShRaw.fldU {S' : Sh} (g : ShRaw H C a dx p c r h b S ws us) (e1 : S'.row = S.row := by rfl) (e2 : S'.held = S.held := by rfl) (e3 : S'.born = S.born := by rfl) (e4 : S'.cells = S.cells := by rfl) : ShRaw (upd H a (.ins C dx (shF p c r h b S'))) C a dx p c r h b S' ws us := by
  obtain ⟨n1, n2, n3, n4⟩ := g.nca
  have nt : ∀ xs, HO.ins C dx (shF p c r h b S) ≠ .tup xs := fun _ z => by cases z
  refine ⟨upd_same, ?_, ?_, ?_, ?_, ?_, ?_, ?_, ?_, g.ne⟩
  · rw [upd_ne n1.symm, e4]; exact g.hc
  · rw [upd_ne n2.symm]; exact g.hr
  · rw [upd_ne n3.symm]; exact g.hh
  · rw [upd_ne n4.symm, e3]; exact g.hb
  · rw [e1]; exact kys_upd g.ha nt g.vr g.kr
  · rw [e2]; exact kys_upd g.ha nt g.vh g.kh
  · rw [e1]; exact g.vr
  · rw [e2]; exact g.vh
theorem ShRaw.cellsU {cs : List Int} (g : ShRaw H C a dx p c r h b S ws us) : ShRaw (upd H c (.lst (cs.map V.int))) C a dx p c r h b { S with cells := cs } ws us := by
  obtain ⟨n1, n2, n3, n4⟩ := g.nca
  obtain ⟨m1, m2, m3, m4, m5, m6⟩ := g.ne
  have nt : ∀ xs, HO.lst (S.cells.map V.int) ≠ .tup xs := fun _ z => by cases z
  exact ⟨by rw [upd_ne n1]; exact g.ha, upd_same, by rw [upd_ne m1.symm]; exact g.hr, by rw [upd_ne m2.symm]; exact g.hh, by rw [upd_ne m3.symm]; exact g.hb, kys_upd g.hc nt g.vr g.kr, kys_upd g.hc nt g.vh g.kh, g.vr, g.vh, g.ne⟩
theorem ShRaw.bornU {cs : List Int} (g : ShRaw H C a dx p c r h b S ws us) : ShRaw (upd H b (.lst (cs.map V.int))) C a dx p c r h b { S with born := cs } ws us := by
  obtain ⟨n1, n2, n3, n4⟩ := g.nca
  obtain ⟨m1, m2, m3, m4, m5, m6⟩ := g.ne
  have nt : ∀ xs, HO.lst (S.born.map V.int) ≠ .tup xs := fun _ z => by cases z
  exact ⟨by rw [upd_ne n4]; exact g.ha, by rw [upd_ne m3]; exact g.hc, by rw [upd_ne m5]; exact g.hr, by rw [upd_ne m6]; exact g.hh, upd_same, kys_upd g.hb nt g.vr g.kr, kys_upd g.hb nt g.vh g.kh, g.vr, g.vh, g.ne⟩
theorem ShRaw.rowU {ws' : List V} {ks : List Ky} (g : ShRaw H C a dx p c r h b S ws us) (v : Ky.vals ks = true) (k : KysAt H ws' ks) : ShRaw (upd H r (.lst ws')) C a dx p c r h b { S with row := ks } ws' us := by
  obtain ⟨n1, n2, n3, n4⟩ := g.nca
  obtain ⟨m1, m2, m3, m4, m5, m6⟩ := g.ne
  have nt : ∀ xs, HO.lst ws ≠ .tup xs := fun _ z => by cases z
  exact ⟨by rw [upd_ne n2]; exact g.ha, by rw [upd_ne m1]; exact g.hc, upd_same, by rw [upd_ne m4.symm]; exact g.hh, by rw [upd_ne m5.symm]; exact g.hb, kys_upd g.hr nt v k, kys_upd g.hr nt g.vh g.kh, v, g.vh, g.ne⟩
theorem ShRaw.heldU {us' : List V} {ks : List Ky} (g : ShRaw H C a dx p c r h b S ws us) (v : Ky.vals ks = true) (k : KysAt H us' ks) : ShRaw (upd H h (.lst us')) C a dx p c r h b { S with held := ks } ws us' := by
  obtain ⟨n1, n2, n3, n4⟩ := g.nca
  obtain ⟨m1, m2, m3, m4, m5, m6⟩ := g.ne
  have nt : ∀ xs, HO.lst us ≠ .tup xs := fun _ z => by cases z
  exact ⟨by rw [upd_ne n3]; exact g.ha, by rw [upd_ne m2]; exact g.hc, by rw [upd_ne m4]; exact g.hr, upd_same, by rw [upd_ne m6.symm]; exact g.hb, kys_upd g.hh nt g.vr g.kr, kys_upd g.hh nt v k, g.vr, v, g.ne⟩
theorem ShRaw.reC {c' : Addr} {cs : List Int} (g : ShRaw H C a dx p c r h b S ws us) (e : H c' = some (.lst (cs.map V.int))) (n : c' ≠ r ∧ c' ≠ h ∧ c' ≠ b) : ShRaw (upd H a (.ins C dx (shF p c' r h b { S with cells := cs }))) C a dx p c' r h b { S with cells := cs } ws us := by
  obtain ⟨n1, n2, n3, n4⟩ := g.nca
  have nc : a ≠ c' := ne_of g.ha e (by intro z; cases z)
  have nt : ∀ xs, HO.ins C dx (shF p c r h b S) ≠ .tup xs := fun _ z => by cases z
  exact ⟨upd_same, by rw [upd_ne nc.symm]; exact e, by rw [upd_ne n2.symm]; exact g.hr, by rw [upd_ne n3.symm]; exact g.hh, by rw [upd_ne n4.symm]; exact g.hb, kys_upd g.ha nt g.vr g.kr, kys_upd g.ha nt g.vh g.kh, g.vr, g.vh, ⟨n.1, n.2.1, n.2.2, g.ne.2.2.2⟩⟩
theorem ShRaw.reR {r' : Addr} {ws' : List V} {ks : List Ky} (g : ShRaw H C a dx p c r h b S ws us) (e : H r' = some (.lst ws')) (v : Ky.vals ks = true) (k : KysAt H ws' ks) (n : c ≠ r' ∧ r' ≠ h ∧ r' ≠ b) : ShRaw (upd H a (.ins C dx (shF p c r' h b { S with row := ks }))) C a dx p c r' h b { S with row := ks } ws' us := by
  obtain ⟨n1, n2, n3, n4⟩ := g.nca
  obtain ⟨m1, m2, m3, m4, m5, m6⟩ := g.ne
  have nc : a ≠ r' := ne_of g.ha e (by intro z; cases z)
  have nt : ∀ xs, HO.ins C dx (shF p c r h b S) ≠ .tup xs := fun _ z => by cases z
  exact ⟨upd_same, by rw [upd_ne n1.symm]; exact g.hc, by rw [upd_ne nc.symm]; exact e, by rw [upd_ne n3.symm]; exact g.hh, by rw [upd_ne n4.symm]; exact g.hb, kys_upd g.ha nt v k, kys_upd g.ha nt g.vh g.kh, v, g.vh, ⟨n.1, m2, m3, n.2.1, n.2.2, m6⟩⟩
theorem ShRaw.reH {h' : Addr} {us' : List V} {ks : List Ky} (g : ShRaw H C a dx p c r h b S ws us) (e : H h' = some (.lst us')) (v : Ky.vals ks = true) (k : KysAt H us' ks) (n : c ≠ h' ∧ r ≠ h' ∧ h' ≠ b) : ShRaw (upd H a (.ins C dx (shF p c r h' b { S with held := ks }))) C a dx p c r h' b { S with held := ks } ws us' := by
  obtain ⟨n1, n2, n3, n4⟩ := g.nca
  obtain ⟨m1, m2, m3, m4, m5, m6⟩ := g.ne
  have nc : a ≠ h' := ne_of g.ha e (by intro z; cases z)
  have nt : ∀ xs, HO.ins C dx (shF p c r h b S) ≠ .tup xs := fun _ z => by cases z
  exact ⟨upd_same, by rw [upd_ne n1.symm]; exact g.hc, by rw [upd_ne n2.symm]; exact g.hr, by rw [upd_ne nc.symm]; exact e, by rw [upd_ne n4.symm]; exact g.hb, kys_upd g.ha nt g.vr g.kr, kys_upd g.ha nt v k, g.vr, v, ⟨m1, n.1, m3, n.2.1, m5, n.2.2⟩⟩
theorem ShRaw.reB {b' : Addr} {cs : List Int} (g : ShRaw H C a dx p c r h b S ws us) (e : H b' = some (.lst (cs.map V.int))) (n : c ≠ b' ∧ r ≠ b' ∧ h ≠ b') : ShRaw (upd H a (.ins C dx (shF p c r h b' { S with born := cs }))) C a dx p c r h b' { S with born := cs } ws us := by
  obtain ⟨n1, n2, n3, n4⟩ := g.nca
  obtain ⟨m1, m2, m3, m4, m5, m6⟩ := g.ne
  have nc : a ≠ b' := ne_of g.ha e (by intro z; cases z)
  have nt : ∀ xs, HO.ins C dx (shF p c r h b S) ≠ .tup xs := fun _ z => by cases z
  exact ⟨upd_same, by rw [upd_ne n1.symm]; exact g.hc, by rw [upd_ne n2.symm]; exact g.hr, by rw [upd_ne n3.symm]; exact g.hh, by rw [upd_ne nc.symm]; exact e, kys_upd g.ha nt g.vr g.kr, kys_upd g.ha nt g.vh g.kh, g.vr, g.vh, ⟨m1, m2, n.1, m4, n.2.1, n.2.2⟩⟩
end
/-! what a shelf keeps -/
def HVal (z : Ky) : Prop := z.val = true ∧ z.dep ≤ 8
structure Sh.Ok (S : Sh) : Prop where
  cw : CWf S.row S.j S.cells
  hl : S.held.length = S.row.length
  bl : S.born.length = S.row.length
  hv : ∀ z ∈ S.held, HVal z
  l3 : 3 ≤ S.jl
  l12 : S.jl ≤ 12
  bi : S.born.Pairwise (· < ·)
  bc : ∀ n ∈ S.born, 0 < n ∧ n ≤ S.com
  c0 : 0 ≤ S.com
  many : S.com - S.goi = (S.row.filter fun k => decide (k ≠ .non)).length
def ShAt (H : Hp) (C a : Addr) (p : Pre) (fp : List Addr) (S : Sh) : Prop := ∃ dx c r h b ws us, fp = [a, c, r, h, b] ∧ ShRaw H C a dx p c r h b S ws us ∧ S.Ok
section
variable {H H' : Hp} {C a : Addr} {p : Pre} {fp : List Addr} {S : Sh}
theorem ShAt.ext (g : ShAt H C a p fp S) (s : Same H H') : ShAt H' C a p fp S := by
  obtain ⟨dx, c, r, h, b, ws, us, e, q, o⟩ := g
  exact ⟨dx, c, r, h, b, ws, us, e, q.ext s, o⟩
theorem ShAt.ok (g : ShAt H C a p fp S) : S.Ok := by
  obtain ⟨dx, c, r, h, b, ws, us, e, q, o⟩ := g
  exact o
theorem ShAt.noTup (g : ShAt H C a p fp S) : NoTup H fp := by
  obtain ⟨dx, c, r, h, b, ws, us, rfl, q, o⟩ := g
  intro x m xs e
  simp only [List.mem_cons, List.not_mem_nil, or_false] at m
  rcases m with rfl | rfl | rfl | rfl | rfl
  · rw [q.ha] at e; cases e
  · rw [q.hc] at e; cases e
  · rw [q.hr] at e; cases e
  · rw [q.hh] at e; cases e
  · rw [q.hb] at e; cases e
theorem ShAt.ky (g : ShAt H C a p fp S) (f : Gr fp H H') {v : V} {y : Ky} (d : y.val = true) (h : KyAt H v y) : KyAt H' v y := KyAt.keep f.keep g.noTup y v d h
theorem ShAt.kys (g : ShAt H C a p fp S) (f : Gr fp H H') {v : List V} {y : List Ky} (d : Ky.vals y = true) (h : KysAt H v y) : KysAt H' v y := KysAt.keep f.keep g.noTup y v d h
/-- a shelf stays where another thing changes -/
theorem ShAt.apart (g : ShAt H C a p fp S) {fq : List Addr} (f : Gr fq H H') (n : NoTup H fq) (d : ∀ x ∈ fp, x ∉ fq) : ShAt H' C a p fp S := by
  obtain ⟨dx, c, r, h, b, ws, us, rfl, q, o⟩ := g
  simp only [List.mem_cons, List.not_mem_nil, or_false, forall_eq_or_imp, forall_eq] at d
  obtain ⟨d1, d2, d3, d4, d5⟩ := d
  exact ⟨dx, c, r, h, b, ws, us, rfl, ⟨f.keep _ _ q.ha d1, f.keep _ _ q.hc d2, f.keep _ _ q.hr d3, f.keep _ _ q.hh d4, f.keep _ _ q.hb d5, KysAt.keep f.keep n _ _ q.vr q.kr, KysAt.keep f.keep n _ _ q.vh q.kh, q.vr, q.vh, q.ne⟩, o⟩
end
/-- a method's name is none of a shelf's fields -/
theorem ShAt.met {H : Hp} {C a : Addr} {p : Pre} {fp : List Addr} {S : Sh} {m : Str} (g : ShAt H C a p fp S) (l : ∀ c r h b : Addr, (shF p c r h b S).lookup m = none) : MetAt H a C m := by
  obtain ⟨dx, c, r, h, b, ws, us, e, q, o⟩ := g
  exact ⟨dx, _, q.ha, l c r h b⟩
theorem made_same {H H' : Hp} {x dx C : Addr} {fp : List Addr} (fx : Fresh H x) (fd : Fresh H dx) (gr : Gr [x] (upd (upd H dx (.own x)) x (.ins C dx [])) H') (sb : Sub fp [x] (upd (upd H dx (.own x)) x (.ins C dx []))) : Same H H' ∧ ∀ y ∈ fp, Fresh H y := by
  have s : Same H (upd (upd H dx (.own x)) x (.ins C dx [])) := Same_upd0 (Same_upd (Same.refl _) fd) fx
  have f : ∀ y ∈ [x], Fresh H y := fun y m => by
    rw [List.mem_singleton] at m
    rw [m]
    exact fx
  exact ⟨gr.same s f, sb.fresh s f⟩
theorem KeyOk.ne_non {y : Ky} (k : KeyOk y) : y ≠ .non := fun q => by rw [q] at k; have := k.g; simp [Ky.good] at this
/-! a shelf's deeds -/
def Sh.find (S : Sh) (y : Ky) : Option Nat := placeO S.cells S.row S.j y
def Sh.full (S : Sh) : Bool := decide (2 * 2 ^ S.j / 3 ≤ (S.row.length : Int))
def Sh.come (S : Sh) (y z : Ky) : Sh := { S with cells := layS S.cells S.j S.row.length y, row := S.row ++ [y], held := S.held ++ [z], com := S.com + 1, born := S.born ++ [S.com + 1] }
def Sh.hold (S : Sh) (q : Nat) (z : Ky) : Sh := { S with held := S.held.set q z }
def Sh.went (S : Sh) (q : Nat) (y : Ky) : Sh := { S with cells := S.cells.set (lastSlot S.cells S.row S.j y).toNat (-2), row := S.row.set q .non, held := S.held.set q .non, goi := S.goi + 1 }
def Sh.put (mr : Sh → Option Sh) (S : Sh) (y z : Ky) : Option (Bool × Sh) := match S.find y with
  | some q => some (false, S.hold q z)
  | none => if S.full = true then (mr S).map fun S' => (true, S'.come y z) else some (true, S.come y z)
def Sh.new (j : Nat) : Sh := { row := [], held := [], born := [], cells := List.replicate (2 ^ j) (-1), j := j, jl := j, com := 0, goi := 0, tid := 0, mov := 0 }
theorem Sh.new_ok {j : Nat} (h3 : 3 ≤ j) (h12 : j ≤ 12) : (Sh.new j).Ok := ⟨cwf_nil h3 h12, rfl, rfl, (fun _ h => by cases h), h3, h12, .nil, (fun _ h => by cases h), Int.le_refl 0, by simp [Sh.new]⟩
theorem Sh.Ok.find_some {S : Sh} (o : S.Ok) {y : Ky} (n : y ≠ .non) {q : Nat} : S.find y = some q ↔ S.row[q]? = some y := o.cw.place_some n
theorem Sh.Ok.find_none {S : Sh} (o : S.Ok) {y : Ky} (n : y ≠ .non) : S.find y = none ↔ y ∉ S.row := o.cw.place_none n
theorem Sh.Ok.hold {S : Sh} (o : S.Ok) {q : Nat} {z : Ky} (h : HVal z) : (S.hold q z).Ok := ⟨o.cw, by show (S.held.set q z).length = _; rw [List.length_set]; exact o.hl, o.bl, fun x hx => (List.mem_or_eq_of_mem_set hx).elim (o.hv x) fun e => by rw [e]; exact h, o.l3, o.l12, o.bi, o.bc, o.c0, o.many⟩
theorem Sh.Ok.come {S : Sh} (o : S.Ok) {y z : Ky} (k : KeyOk y) (e : y ∉ S.row) (f : S.full = false) (h : HVal z) : (S.come y z).Ok := by
  have c0 := o.c0
  refine ⟨o.cw.lay k e ?_, ?_, ?_, fun x hx => ?_, o.l3, o.l12, ?_, fun n hn => ?_, ?_, ?_⟩
  · have := of_decide_eq_false f
    omega
  · show (S.held ++ [z]).length = (S.row ++ [y]).length
    rw [List.length_append, List.length_append, o.hl]
    rfl
  · show (S.born ++ [S.com + 1]).length = (S.row ++ [y]).length
    rw [List.length_append, List.length_append, o.bl]
    rfl
  · rcases List.mem_append.mp hx with hx | hx
    · exact o.hv x hx
    · rw [List.mem_singleton] at hx
      rw [hx]
      exact h
  · show (S.born ++ [S.com + 1]).Pairwise (· < ·)
    rw [List.pairwise_append]
    refine ⟨o.bi, List.pairwise_singleton _ _, fun x hx u hu => ?_⟩
    rw [List.mem_singleton] at hu
    have := (o.bc x hx).2
    omega
  · show 0 < n ∧ n ≤ S.com + 1
    rcases List.mem_append.mp hn with hn | hn
    · have := o.bc n hn
      omega
    · rw [List.mem_singleton] at hn
      omega
  · show 0 ≤ S.com + 1
    omega
  · show S.com + 1 - S.goi = (((S.row ++ [y]).filter _).length : Nat)
    have := o.many
    rw [List.filter_append, List.length_append]
    simp [k.ne_non]
    simp at this
    omega
theorem filter_set_non : ∀ {l : List Ky} {q : Nat} {y : Ky}, l[q]? = some y → y ≠ .non → (((l.set q .non).filter fun k => decide (k ≠ .non)).length : Int) + 1 = ((l.filter fun k => decide (k ≠ .non)).length : Nat)
  | [], q, y, e, n => by simp at e
  | x :: l, 0, y, e, n => by
    simp at e
    subst e
    simp [n]
  | x :: l, q + 1, y, e, n => by
    have ih := filter_set_non (l := l) (q := q) (by simpa using e) n
    rw [List.set_cons_succ, List.filter_cons, List.filter_cons]
    split
    · simp only [List.length_cons]
      omega
    · exact ih
theorem Sh.Ok.went {S : Sh} (o : S.Ok) {q : Nat} {y : Ky} (e : S.row[q]? = some y) (n : y ≠ .non) : (S.went q y).Ok := by
  refine ⟨o.cw.gone e n, ?_, ?_, fun x hx => ?_, o.l3, o.l12, o.bi, o.bc, o.c0, ?_⟩
  · show (S.held.set q .non).length = (S.row.set q .non).length
    rw [List.length_set, List.length_set]
    exact o.hl
  · show S.born.length = (S.row.set q .non).length
    rw [List.length_set]
    exact o.bl
  · rcases List.mem_or_eq_of_mem_set hx with hx | hx
    · exact o.hv x hx
    · rw [hx]
      exact ⟨rfl, by simp [Ky.dep]⟩
  · show S.com - (S.goi + 1) = (((S.row.set q .non).filter _).length : Nat)
    have := filter_set_non e n
    have := o.many
    omega
end My
namespace My
open PySem PySem.Spec PyProof.Rows L2
theorem exm_of2 {K : PySem.W.Frag} {C D : Addr} {b : Bool} (h1 : PySem.W.subIn K (.ref D) (.type "BaseException") = some true) (h2 : PySem.W.isClsIn K D = true) (h3 : PySem.W.typeIn K (.ref D) = some (.type "type")) (h4 : PySem.W.subIn K (.ref C) (.ref D) = some b) : PySem.W.exmOne K (.ref C) (.ref D) = some b := by
  unfold PySem.W.exmOne
  rw [h1, if_pos (by rfl)]
  show (if ((PySem.W.clsIn K D).isSome && PySem.W.typeIn K (.ref D) == some (.type "type")) = true then PySem.W.subIn K (.ref C) (.ref D) else none) = some b
  have e : (PySem.W.clsIn K D).isSome = true := h2
  rw [e, h3, if_pos (by rfl), h4]
theorem fund_mk {K : PySem.W.Frag} {x qual : Str} {params : Arguments} {body : List Stmt} {scope : Scope} {dvs : List V} {f D : Addr} {o : Obj} {its : List Value} {n : Nat} {oc kV doc pm cdv ct : Value} {od an : Option Addr} {osl : Array (Option Value)}
    (l : K.lookup f = some ⟨oc, od, .func (PySem.W.fnOf x qual params body scope (.ref D) kV doc pm an cdv ct), osl⟩) (c : PySem.W.codeIn K cdv qual = true) (k : PySem.W.keepIn K (.ref f) = true) (lD : K.lookup D = some o) (oD : o.data = .seq its.toArray n) (ne : dvs ≠ []) (r : Vals dvs its) :
    FunD K x qual params body scope dvs [] f (PySem.W.fnOf x qual params body scope (.ref D) kV doc pm an cdv ct) := ⟨⟨oc, od, _, kV, doc, pm, an, cdv, ct, osl, rfl, l, c, .inr ⟨ne, D, o, its, n, rfl, lD, oD, r⟩, .inl rfl⟩, k⟩
theorem setAt_go {K : PySem.W.Frag} {H : Hp} {a C dx : Addr} {f : Str} {fs gs : List (Str × V)} {y : V} {R : Hp → Prop} (h : H a = some (.ins C dx fs)) (c : Cls K C) (n : NoAttr K C f) (l : fs.length < 1000) (e : putF f y fs = gs) (q : ∀ H', H' = upd H a (.ins C dx gs) → H' a = some (.ins C dx gs) → R H') : SetAt K H a f y R := by
  rw [setAt h c n l e]
  exact q _ rfl upd_same
theorem upd_upd {H : Hp} {a : Addr} {o o' : HO} : upd (upd H a o) a o' = upd H a o' := by
  funext b
  by_cases e : b = a
  · rw [e, upd_same, upd_same]
  · rw [upd_ne e, upd_ne e, upd_ne e]
/-! promises of a shelf's methods -/
def spChecked (CN : Addr) : Sp := fun vs H Q E => ∃ v y, vs = [v] ∧ KyAt H v y ∧ y.fit = true ∧ (within 3 y = true → Q v H) ∧ (within 3 y = false → E (.ref CN) none H)
theorem len_checked {CN : Addr} {vs H Q E} (h : spChecked CN vs H Q E) : vs.length = 1 := by obtain ⟨_, _, rfl, _⟩ := h; rfl
def optV : Option Nat → V
  | none => .non
  | some n => .int n
def spFind (C : Addr) : Sp := fun vs H Q _ => ∃ a p fp S v y, vs = [.ref a, v] ∧ ShAt H C a p fp S ∧ KyAt H v y ∧ KeyOk y ∧ ∀ H', Same H H' → Q (optV (S.find y)) H'
theorem len_find {C : Addr} {vs H Q E} (h : spFind C vs H Q E) : vs.length = 2 := by obtain ⟨_, _, _, _, _, _, rfl, _⟩ := h; rfl
def spLay (C : Addr) : Sp := fun vs H Q _ => ∃ a dx p c r h b S ws us v y q, vs = [.ref a, v, .int q] ∧ ShRaw H C a dx p c r h b S ws us ∧ CWf S.row S.j S.cells ∧ KyAt H v y ∧ KeyOk y ∧
  ∀ H', Same H H' → Q .non (upd H' c (.lst ((S.cells.set (lastSlot S.cells S.row S.j y).toNat q).map V.int)))
theorem len_lay {C : Addr} {vs H Q E} (h : spLay C vs H Q E) : vs.length = 3 := by obtain ⟨_, _, _, _, _, _, _, _, _, _, _, _, _, rfl, _⟩ := h; rfl
def spMarkGone (C : Addr) : Sp := fun vs H Q _ => ∃ a dx p c r h b S ws us v y w, vs = [.ref a, v, w] ∧ ShRaw H C a dx p c r h b S ws us ∧ CWf S.row S.j S.cells ∧ KyAt H v y ∧ KeyOk y ∧
  ∀ H', Same H H' → Q .non (upd H' c (.lst ((S.cells.set (lastSlot S.cells S.row S.j y).toNat (-2)).map V.int)))
theorem len_markGone {C : Addr} {vs H Q E} (h : spMarkGone C vs H Q E) : vs.length = 3 := by obtain ⟨_, _, _, _, _, _, _, _, _, _, _, _, _, rfl, _⟩ := h; rfl
def spRoom (C CF : Addr) (mr : Sh → Option Sh) : Sp := fun vs H Q E => ∃ a p fp S, vs = [.ref a] ∧ ShAt H C a p fp S ∧ (match mr S with
  | none => E (.ref CF) none H
  | some S' => ∀ H' fp', Gr fp H H' → Sub fp' fp H → ShAt H' C a p fp' S' → Q .non H')
theorem len_room {C CF : Addr} {mr : Sh → Option Sh} {vs H Q E} (h : spRoom C CF mr vs H Q E) : vs.length = 1 := by obtain ⟨_, _, _, _, rfl, _⟩ := h; rfl
/-- the thing v: no key, refused with NoKey at once; or a key -/
def spPut (C CN CF : Addr) (mr : Sh → Option Sh) : Sp := fun vs H Q E => ∃ a p fp S v y u z, vs = [.ref a, v, u] ∧ ShAt H C a p fp S ∧ KyAt H v y ∧ y.fit = true ∧ (within 3 y = true → KeyOk y) ∧ KyAt H u z ∧ HVal z ∧
  (within 3 y = false → E (.ref CN) none H) ∧ (KeyOk y → match S.put mr y z with
  | none => ∀ H', Same H H' → E (.ref CF) none H'
  | some (t, S') => ∀ H' fp', Gr fp H H' → Sub fp' fp H → ShAt H' C a p fp' S' → Q (.bl t) H')
theorem len_put {C CN CF : Addr} {mr : Sh → Option Sh} {vs H Q E} (h : spPut C CN CF mr vs H Q E) : vs.length = 3 := by obtain ⟨_, _, _, _, _, _, _, _, rfl, _⟩ := h; rfl
def Sh.heldAt (S : Sh) (y : Ky) : Option Ky := match S.find y with
  | none => none
  | some q => S.held[q]?
def spAt (C CN CL : Addr) : Sp := fun vs H Q E => ∃ a p fp S v y, vs = [.ref a, v] ∧ ShAt H C a p fp S ∧ KyAt H v y ∧ y.fit = true ∧ (within 3 y = true → KeyOk y) ∧
  (within 3 y = false → E (.ref CN) none H) ∧ (KeyOk y → match S.heldAt y with
  | none => ∀ H', Same H H' → E (.ref CL) none H'
  | some z => ∀ H' u, Same H H' → KyAt H' u z → Q u H')
theorem len_at {C CN CL : Addr} {vs H Q E} (h : spAt C CN CL vs H Q E) : vs.length = 2 := by obtain ⟨_, _, _, _, _, _, rfl, _⟩ := h; rfl
def spTold (C CN : Addr) : Sp := fun vs H Q E => ∃ a p fp S v y w, vs = [.ref a, v, w] ∧ ShAt H C a p fp S ∧ KyAt H v y ∧ y.fit = true ∧ (within 3 y = true → KeyOk y) ∧
  (within 3 y = false → E (.ref CN) none H) ∧ (KeyOk y → match S.heldAt y with
  | none => ∀ H', Same H H' → Q w H'
  | some z => ∀ H' u, Same H H' → KyAt H' u z → Q u H')
theorem len_told {C CN : Addr} {vs H Q E} (h : spTold C CN vs H Q E) : vs.length = 3 := by obtain ⟨_, _, _, _, _, _, _, rfl, _⟩ := h; rfl
def spHas (C CN : Addr) : Sp := fun vs H Q E => ∃ a p fp S v y, vs = [.ref a, v] ∧ ShAt H C a p fp S ∧ KyAt H v y ∧ y.fit = true ∧ (within 3 y = true → KeyOk y) ∧
  (within 3 y = false → E (.ref CN) none H) ∧ (KeyOk y → ∀ H', Same H H' → Q (.bl (S.find y).isSome) H')
theorem len_has {C CN : Addr} {vs H Q E} (h : spHas C CN vs H Q E) : vs.length = 2 := by obtain ⟨_, _, _, _, _, _, rfl, _⟩ := h; rfl
def spMany (C : Addr) : Sp := fun vs H Q _ => ∃ a p fp S, vs = [.ref a] ∧ ShAt H C a p fp S ∧ Q (.int (S.com - S.goi)) H
theorem len_many {C : Addr} {vs H Q E} (h : spMany C vs H Q E) : vs.length = 1 := by obtain ⟨_, _, _, _, rfl, _⟩ := h; rfl
/-- the pairs that are there, the first n places looked at -/
def pairsN (row held : List Ky) : Nat → List Ky
  | 0 => []
  | n + 1 => match row[n]? with
    | some k => if k = .non then pairsN row held n else pairsN row held n ++ [.tup [k, held.getD n .non]]
    | none => pairsN row held n
theorem pairsN_len (row held : List Ky) : ∀ i : Nat, (pairsN row held i).length ≤ i
  | 0 => Nat.le_refl _
  | i + 1 => by
    have ih := pairsN_len row held i
    rw [pairsN]
    split
    · split
      · omega
      · rw [List.length_append, List.length_singleton]
        omega
    · omega
theorem RowOk.val {ks : List Ky} (h : RowOk ks) {i : Nat} {k : Ky} (e : ks[i]? = some k) : k.val = true := by
  rcases h.get e with rfl | q
  · rfl
  · exact q.val
theorem tup_vals {ks : List Ky} (h : Ky.vals ks = true) (l : ks.length ≤ 1000) : (Ky.tup ks).val = true := by rw [Ky.val, h, decide_eq_true l]; rfl
theorem vals_two {x y : Ky} (h : x.val = true) (g : y.val = true) : Ky.vals [x, y] = true := by rw [Ky.vals, h, vals_one g]; rfl
theorem Sh.Ok.hval {S : Sh} (o : S.Ok) (n : Nat) : HVal (S.held.getD n .non) := by
  rw [List.getD_eq_getElem?_getD]
  cases e : S.held[n]? with
  | none => exact ⟨rfl, by simp [Ky.dep]⟩
  | some z => exact o.hv z (List.mem_of_getElem? e)
theorem pairsN_vals {S : Sh} (o : S.Ok) : ∀ i : Nat, Ky.vals (pairsN S.row S.held i) = true
  | 0 => rfl
  | i + 1 => by
    have ih := pairsN_vals o i
    rw [pairsN]
    split
    · rename_i k e
      split
      · exact ih
      · exact vals_append ih (vals_one (tup_vals (vals_two (o.cw.rok.val e) (o.hval i).1) (by simp)))
    · exact ih
def Sh.pairs (S : Sh) : List Ky := pairsN S.row S.held S.row.length
def spPairs (C : Addr) : Sp := fun vs H Q _ => ∃ a p fp S, vs = [.ref a] ∧ ShAt H C a p fp S ∧ ∀ H' L xs, Same H H' → Fresh H L → H' L = some (.lst xs) → KysAt H' xs S.pairs → Q (.ref L) H'
theorem len_pairs {C : Addr} {vs H Q E} (h : spPairs C vs H Q E) : vs.length = 1 := by obtain ⟨_, _, _, _, rfl, _⟩ := h; rfl
def Sh.counts (S : Sh) : List Int := [S.com - S.goi, S.com, S.goi, S.tid, S.mov]
def spCounts (C : Addr) : Sp := fun vs H Q _ => ∃ a p fp S, vs = [.ref a] ∧ ShAt H C a p fp S ∧ ∀ H' T, Same H H' → Fresh H T → H' T = some (.tup (S.counts.map V.int)) → Q (.ref T) H'
theorem len_counts {C : Addr} {vs H Q E} (h : spCounts C vs H Q E) : vs.length = 1 := by obtain ⟨_, _, _, _, rfl, _⟩ := h; rfl
/-- __init__ of a bare shelf -/
def spInit (C : Addr) : Sp := fun vs H Q _ => ∃ a dx j, vs = [.ref a, .int (2 ^ j)] ∧ H a = some (.ins C dx []) ∧ (3 ≤ j ∧ j ≤ 12) ∧ ∀ H' fp, Gr [a] H H' → Sub fp [a] H → ShAt H' C a .no fp (Sh.new j) → Q .non H'
theorem len_init {C : Addr} {vs H Q E} (h : spInit C vs H Q E) : vs.length = 2 := by obtain ⟨_, _, _, rfl, _⟩ := h; rfl
/-! taking out -/
theorem tup3_of {H : Hp} {v : V} {a b c : Ky} (h : KyAt H v (.tup [a, b, c])) : ∃ T x y z, v = .ref T ∧ H T = some (.tup [x, y, z]) ∧ KyAt H x a ∧ KyAt H y b ∧ KyAt H z c := by
  cases h with
  | tup h p =>
    cases p with
    | cons h1 p =>
      cases p with
      | cons h2 p =>
        cases p with
        | cons h3 p =>
          cases p
          exact ⟨_, _, _, _, rfl, h, h1, h2, h3⟩
theorem tup2_of {H : Hp} {v : V} {a b : Ky} (h : KyAt H v (.tup [a, b])) : ∃ T x y, v = .ref T ∧ H T = some (.tup [x, y]) ∧ KyAt H x a ∧ KyAt H y b := by
  cases h with
  | tup h p =>
    cases p with
    | cons h1 p =>
      cases p with
      | cons h2 p =>
        cases p
        exact ⟨_, _, _, rfl, h, h1, h2⟩
def spTake (C CN CL : Addr) : Sp := fun vs H Q E => ∃ a p fp S v y, vs = [.ref a, v] ∧ ShAt H C a p fp S ∧ KyAt H v y ∧ y.fit = true ∧ (within 3 y = true → KeyOk y) ∧
  (within 3 y = false → E (.ref CN) none H) ∧ (KeyOk y → match S.find y with
  | none => ∀ H', Same H H' → E (.ref CL) none H'
  | some q => ∀ H' fp' u z, Gr fp H H' → Sub fp' fp H → ShAt H' C a p fp' (S.went q y) → S.held[q]? = some z → KyAt H' u z → Q u H')
theorem len_take {C CN CL : Addr} {vs H Q E} (h : spTake C CN CL vs H Q E) : vs.length = 2 := by obtain ⟨_, _, _, _, _, _, rfl, _⟩ := h; rfl
/-- a place with a key whose number of coming is such -/
def Sh.liv (S : Sh) (f : Int → Bool) (p : Nat) : Bool := decide (S.row.getD p .non ≠ .non) && f (getI S.born p)
def Sh.after (S : Sh) (n : Int) : Option Nat := (List.range S.row.length).find? (S.liv fun b => decide (n < b))
/-- the greatest p < m with f -/
def lastP (f : Nat → Bool) : Nat → Option Nat
  | 0 => none
  | m + 1 => if f m = true then some m else lastP f m
theorem lastP_some {f : Nat → Bool} : ∀ {m p : Nat}, lastP f m = some p ↔ p < m ∧ f p = true ∧ ∀ q, p < q → q < m → f q = false
  | 0, p => by simp [lastP]
  | m + 1, p => by
    rw [lastP]
    by_cases c : f m = true
    · rw [if_pos c]
      constructor
      · intro e
        cases e
        exact ⟨Nat.lt_succ_self _, c, fun q h1 h2 => by omega⟩
      · rintro ⟨h1, h2, h3⟩
        rcases Nat.lt_or_ge p m with g | g
        · rw [h3 m g (Nat.lt_succ_self _)] at c
          cases c
        · rw [show p = m by omega]
    · rw [if_neg c, lastP_some (m := m)]
      constructor
      · rintro ⟨h1, h2, h3⟩
        refine ⟨by omega, h2, fun q g1 g2 => ?_⟩
        rcases Nat.lt_or_ge q m with g | g
        · exact h3 q g1 g
        · rw [show q = m by omega]
          simpa using c
      · rintro ⟨h1, h2, h3⟩
        refine ⟨?_, h2, fun q g1 g2 => h3 q g1 (by omega)⟩
        rcases Nat.lt_or_ge p m with g | g
        · exact g
        · rw [show p = m by omega] at h2
          exact absurd h2 c
theorem lastP_none {f : Nat → Bool} : ∀ {m : Nat}, lastP f m = none ↔ ∀ q, q < m → f q = false
  | 0 => by simp [lastP]
  | m + 1 => by
    rw [lastP]
    by_cases c : f m = true
    · rw [if_pos c]
      simp only [reduceCtorEq, false_iff]
      intro h
      rw [h m (Nat.lt_succ_self _)] at c
      cases c
    · rw [if_neg c, lastP_none (m := m)]
      constructor
      · intro h q g
        rcases Nat.lt_or_ge q m with g2 | g2
        · exact h q g2
        · rw [show q = m by omega]
          simpa using c
      · intro h q g
        exact h q (by omega)
theorem lastP_stop {f : Nat → Bool} {m p : Nat} (h : p < m) (e : f p = true) (b : ∀ q, p < q → q < m → f q = false) : lastP f m = some p := lastP_some.mpr ⟨h, e, b⟩
def Sh.ahead (S : Sh) (n : Int) : Option Nat := lastP (S.liv fun b => decide (b < n)) S.row.length
def Sh.trip (S : Sh) (p : Nat) : Ky := .tup [.num (getI S.born p), S.row.getD p .non, S.held.getD p .non]
def spAfter (C : Addr) : Sp := fun vs H Q _ => ∃ a p fp S n, vs = [.ref a, .int n] ∧ ShAt H C a p fp S ∧ (match S.after n with
  | none => ∀ H', Same H H' → Q .non H'
  | some q => ∀ H' v, Same H H' → KyAt H' v (S.trip q) → Q v H')
theorem len_after {C : Addr} {vs H Q E} (h : spAfter C vs H Q E) : vs.length = 2 := by obtain ⟨_, _, _, _, _, rfl, _⟩ := h; rfl
def spAheadS (C : Addr) : Sp := fun vs H Q _ => ∃ a p fp S n, vs = [.ref a, .int n] ∧ ShAt H C a p fp S ∧ (match S.ahead n with
  | none => ∀ H', Same H H' → Q .non H'
  | some q => ∀ H' v, Same H H' → KyAt H' v (S.trip q) → Q v H')
theorem len_aheadS {C : Addr} {vs H Q E} (h : spAheadS C vs H Q E) : vs.length = 2 := by obtain ⟨_, _, _, _, _, rfl, _⟩ := h; rfl
def Sh.last (S : Sh) : Option Nat := S.ahead (S.com + 1)
def spTakeLast (C CL : Addr) : Sp := fun vs H Q E => ∃ a p fp S, vs = [.ref a] ∧ ShAt H C a p fp S ∧ (match S.last with
  | none => ∀ H', Same H H' → E (.ref CL) none H'
  | some q => ∀ H' fp' v, Gr fp H H' → Sub fp' fp H → ShAt H' C a p fp' (S.went q (S.row.getD q .non)) → KyAt H' v (.tup [S.row.getD q .non, S.held.getD q .non]) → Q v H')
theorem len_takeLast {C CL : Addr} {vs H Q E} (h : spTakeLast C CL vs H Q E) : vs.length = 1 := by obtain ⟨_, _, _, _, rfl, _⟩ := h; rfl
theorem liv_key {S : Sh} (o : S.Ok) {f : Int → Bool} {p : Nat} (h : S.liv f p = true) : ∃ y, S.row[p]? = some y ∧ KeyOk y ∧ S.row.getD p .non = y := by
  unfold Sh.liv at h
  rw [Bool.and_eq_true, decide_eq_true_eq, List.getD_eq_getElem?_getD] at h
  cases e : S.row[p]? with
  | none => rw [e] at h; exact absurd rfl h.1
  | some y =>
    rw [e] at h
    refine ⟨y, rfl, (o.cw.rok.get e).resolve_left h.1, ?_⟩
    rw [List.getD_eq_getElem?_getD, e]
    rfl
theorem ahead_liv {S : Sh} {n : Int} {q : Nat} (h : S.ahead n = some q) : q < S.row.length ∧ S.liv (fun b => decide (b < n)) q = true := by
  have := lastP_some.mp h
  exact ⟨this.1, this.2.1⟩
theorem after_liv {S : Sh} {n : Int} {q : Nat} (h : S.after n = some q) : q < S.row.length ∧ S.liv (fun b => decide (n < b)) q = true := by
  unfold Sh.after at h
  rw [List.find?_range_eq_some] at h
  exact ⟨List.mem_range.mp h.2.1, h.1⟩
def Sh.emptied (S : Sh) : Sh := { row := [], held := [], born := [], cells := layN S.jl [] 0, j := S.jl, jl := S.jl, com := S.com, goi := S.com, tid := S.tid, mov := S.mov }
theorem Sh.Ok.emptied {S : Sh} (o : S.Ok) : S.emptied.Ok := ⟨cwf_nil o.l3 o.l12, rfl, rfl, (fun _ h => by cases h), o.l3, o.l12, .nil, (fun _ h => by cases h), o.c0, by simp [Sh.emptied]⟩
def spRelay (C : Addr) : Sp := fun vs H Q _ => ∃ a dx p c r h b S ws us, vs = [.ref a] ∧ ShRaw H C a dx p c r h b S ws us ∧ RowOk S.row ∧ (3 ≤ S.j ∧ S.j ≤ 12) ∧ (S.row.length : Int) ≤ 2 * 2 ^ S.j / 3 ∧
  ∀ H' c', Gr [a] H H' → Fresh H c' → ShRaw H' C a dx p c' r h b { S with cells := layN S.j S.row S.row.length } ws us → Q .non H'
theorem len_relay {C : Addr} {vs H Q E} (h : spRelay C vs H Q E) : vs.length = 1 := by obtain ⟨_, _, _, _, _, _, _, _, _, _, rfl, _⟩ := h; rfl
def spEmptied (C : Addr) : Sp := fun vs H Q _ => ∃ a p fp S, vs = [.ref a] ∧ ShAt H C a p fp S ∧ ∀ H' fp', Gr fp H H' → Sub fp' fp H → ShAt H' C a p fp' S.emptied → Q .non H'
theorem len_emptied {C : Addr} {vs H Q E} (h : spEmptied C vs H Q E) : vs.length = 1 := by obtain ⟨_, _, _, _, rfl, _⟩ := h; rfl
def spShPaper (C CN : Addr) : Sp := fun vs H Q E => ∃ a p fp S v y, vs = [.ref a, v] ∧ ShAt H C a p fp S ∧ KyAt H v y ∧ y.fit = true ∧ (within 3 y = true → KeyOk y) ∧
  (within 3 y = false → E (.ref CN) none H) ∧ (KeyOk y → ∀ H' L xs, Same H H' → Fresh H L → H' L = some (.lst xs) → KysAt H' xs (paperK S.cells S.row S.j y) → Q (.ref L) H')
theorem len_shPaper {C CN : Addr} {vs H Q E} (h : spShPaper C CN vs H Q E) : vs.length = 2 := by obtain ⟨_, _, _, _, _, _, rfl, _⟩ := h; rfl
def spForm (C : Addr) : Sp := fun vs H Q _ => ∃ a p fp S, vs = [.ref a] ∧ ShAt H C a p fp S ∧ ∀ H' t l1 l2 ws, Same H H' → Fresh H t → Fresh H l1 → Fresh H l2 → l1 ≠ l2 → H' t = some (.tup [.ref l1, .ref l2]) → H' l1 = some (.lst (S.cells.map V.int)) → H' l2 = some (.lst ws) → KysAt H' ws S.row → Q (.ref t) H'
theorem len_form {C : Addr} {vs H Q E} (h : spForm C vs H Q E) : vs.length = 1 := by obtain ⟨_, _, _, _, rfl, _⟩ := h; rfl
end My
namespace My
open PySem PySem.Spec PyProof.Rows L2
/-- a shelf, and beside it a law's own cells and row; Hb: what stood before these were made -/
structure LS (Hb H : Hp) (C sh lc lr : Addr) (S : Sh) (cs : List Int) (ks : List Ky) : Prop where
  sm : Same Hb H
  ex : ∃ fp us, ShAt H C sh .no fp S ∧ (∀ x ∈ fp, Fresh Hb x) ∧ H lc = some (.lst (cs.map V.int)) ∧ H lr = some (.lst us) ∧ KysAt H us ks ∧ lc ∉ fp ∧ lr ∉ fp
  ne : lc ≠ lr
  fc : Fresh Hb lc
  fr : Fresh Hb lr
  rk : RowOk ks
theorem rep_empty {j : Nat} : (List.replicate (2 ^ j : Int).toNat [V.int (-1)]).flatten = (List.replicate (2 ^ j) (-1 : Int)).map V.int := by
  rw [← pow_cast, Int.toNat_natCast, List.map_replicate]
  generalize 2 ^ j = n
  induction n with
  | zero => rfl
  | succ n ih => rw [List.replicate_succ, List.flatten_cons, ih]; rfl
theorem RowOk.vals {ks : List Ky} (h : RowOk ks) : Ky.vals ks = true := vals_iff.mpr fun k hk => by
  rcases h k hk with rfl | q
  · rfl
  · exact q.val
section
variable {Hb H H' : Hp} {C sh lc lr : Addr} {S : Sh} {cs : List Int} {ks : List Ky}
theorem LS.ext (g : LS Hb H C sh lc lr S cs ks) (s : Same H H') : LS Hb H' C sh lc lr S cs ks := by
  obtain ⟨fp, us, h1, h2, h3, h4, h5, h6, h7⟩ := g.ex
  exact ⟨g.sm.trans s, ⟨fp, us, h1.ext s, h2, s _ _ h3, s _ _ h4, h5.same s _ _, h6, h7⟩, g.ne, g.fc, g.fr, g.rk⟩
theorem LS.at (g : LS Hb H C sh lc lr S cs ks) : ∃ us, H lc = some (.lst (cs.map V.int)) ∧ H lr = some (.lst us) ∧ KysAt H us ks := by
  obtain ⟨fp, us, h1, h2, h3, h4, h5, h6, h7⟩ := g.ex
  exact ⟨us, h3, h4, h5⟩
theorem LS.step (g : LS Hb H C sh lc lr S cs ks) : ∃ fp, ShAt H C sh .no fp S ∧ ∀ H' fp' S', Gr fp H H' → Sub fp' fp H → ShAt H' C sh .no fp' S' → LS Hb H' C sh lc lr S' cs ks := by
  obtain ⟨fp, us, h1, h2, h3, h4, h5, h6, h7⟩ := g.ex
  exact ⟨fp, h1, fun H' fp' S' gr sb hS => ⟨gr.same g.sm h2, ⟨fp', us, hS, sb.fresh g.sm h2, gr.keep _ _ h3 h6, gr.keep _ _ h4 h7, h1.kys gr g.rk.vals h5, sb.not h3 h6, sb.not h4 h7⟩, g.ne, g.fc, g.fr, g.rk⟩⟩
theorem LS.cellsU (g : LS Hb H C sh lc lr S cs ks) (cs' : List Int) : LS Hb (upd H lc (.lst (cs'.map V.int))) C sh lc lr S cs' ks := by
  obtain ⟨fp, us, h1, h2, h3, h4, h5, h6, h7⟩ := g.ex
  have nt : NoTup H [lc] := noTup_one h3 fun _ z => by cases z
  have gr : Gr [lc] H (upd H lc (.lst (cs'.map V.int))) := Gr.refl.put (by simp)
  exact ⟨Same_upd0 g.sm g.fc, ⟨fp, us, h1.apart gr nt fun x hx m => h6 (by rw [List.mem_singleton] at m; rw [← m]; exact hx), h2, upd_same, by rw [upd_ne g.ne.symm]; exact h4, KysAt.keep gr.keep nt _ _ g.rk.vals h5, h6, h7⟩, g.ne, g.fc, g.fr, g.rk⟩
theorem LS.rowU (g : LS Hb H C sh lc lr S cs ks) {ws : List V} {ls : List Ky} (hw : KysAt H ws ls) (hr : RowOk ls) : LS Hb (upd H lr (.lst ws)) C sh lc lr S cs ls := by
  obtain ⟨fp, us, h1, h2, h3, h4, h5, h6, h7⟩ := g.ex
  have nt : NoTup H [lr] := noTup_one h4 fun _ z => by cases z
  have gr : Gr [lr] H (upd H lr (.lst ws)) := Gr.refl.put (by simp)
  exact ⟨Same_upd0 g.sm g.fr, ⟨fp, ws, h1.apart gr nt fun x hx m => h7 (by rw [List.mem_singleton] at m; rw [← m]; exact hx), h2, by rw [upd_ne g.ne]; exact h3, upd_same, KysAt.keep gr.keep nt _ _ hr.vals hw, h6, h7⟩, g.ne, g.fc, g.fr, hr⟩
end
theorem ShAt.alloc {H : Hp} {C a : Addr} {p : Pre} {fp : List Addr} {S : Sh} (g : ShAt H C a p fp S) {x : Addr} (f : Fresh H x) : x ∉ fp := fun m => by
  unfold Fresh at f
  obtain ⟨dx, c, r, h, b, ws, us, rfl, q, o⟩ := g
  simp only [List.mem_cons, List.not_mem_nil, or_false] at m
  rcases m with rfl | rfl | rfl | rfl | rfl
  · rw [q.ha] at f; cases f
  · rw [q.hc] at f; cases f
  · rw [q.hr] at f; cases f
  · rw [q.hh] at f; cases f
  · rw [q.hb] at f; cases f
section
variable {Hb H H' : Hp} {C sh lc lr : Addr} {S : Sh} {cs : List Int} {ks : List Ky}
theorem LS.base (g : LS Hb H C sh lc lr S cs ks) {l : Addr} {o : HO} (f : Fresh H l) : LS (upd Hb l o) (upd H l o) C sh lc lr S cs ks := by
  have e := g.ext (Same_upd (o := o) (Same.refl _) f)
  obtain ⟨fp, us, h1, h2, h3, h4, h5, h6, h7⟩ := g.ex
  have nl := h1.alloc f
  have n1 : lc ≠ l := f.ne h3
  have n2 : lr ≠ l := f.ne h4
  have fr : ∀ {x : Addr}, x ≠ l → Fresh Hb x → Fresh (upd Hb l o) x := fun {x} n q => by
    unfold Fresh
    rw [upd_ne n]
    exact q
  refine ⟨fun b u q => ?_, ⟨fp, us, h1.ext (Same_upd (Same.refl _) f), fun x hx => fr (fun q => nl (by rw [← q]; exact hx)) (h2 x hx), by rw [upd_ne n1]; exact h3, by rw [upd_ne n2]; exact h4, h5.same (Same_upd (Same.refl _) f) _ _, h6, h7⟩, g.ne, fr n1 g.fc, fr n2 g.fr, g.rk⟩
  by_cases c : b = l
  · rw [c, upd_same] at q
    rw [c, upd_same]
    exact q
  · rw [upd_ne c] at q
    rw [upd_ne c]
    exact g.sm _ _ q
theorem LS.newCells (g : LS Hb H C sh lc lr S cs ks) {l : Addr} (f : Fresh H l) (cs' : List Int) : LS Hb (upd H l (.lst (cs'.map V.int))) C sh l lr S cs' ks := by
  obtain ⟨fp, us, h1, h2, h3, h4, h5, h6, h7⟩ := g.ex
  have s := Same_upd (o := .lst (cs'.map V.int)) (Same.refl H) f
  exact ⟨g.sm.trans s, ⟨fp, us, h1.ext s, h2, upd_same, s _ _ h4, h5.same s _ _, h1.alloc f, h7⟩, (f.ne h4).symm, Same_fresh g.sm f, g.fr, g.rk⟩
theorem LS.newRow (g : LS Hb H C sh lc lr S cs ks) {l : Addr} (f : Fresh H l) : LS Hb (upd H l (.lst [])) C sh lc l S cs [] := by
  obtain ⟨fp, us, h1, h2, h3, h4, h5, h6, h7⟩ := g.ex
  have s := Same_upd (o := .lst []) (Same.refl H) f
  exact ⟨g.sm.trans s, ⟨fp, [], h1.ext s, h2, s _ _ h3, upd_same, .nil, h6, h1.alloc f⟩, f.ne h3, g.fc, Same_fresh g.sm f, fun _ h => by cases h⟩
theorem LS.start {fp : List Addr} (sm : Same Hb H) (h : ShAt H C sh .no fp S) (ff : ∀ x ∈ fp, Fresh Hb x) {l r : Addr} (f : Fresh H l) (f2 : Fresh (upd H l (.lst (cs.map V.int))) r) : LS Hb (upd (upd H l (.lst (cs.map V.int))) r (.lst [])) C sh l r S cs [] := by
  have s := Same_upd (o := .lst (cs.map V.int)) (Same.refl H) f
  have s2 := Same_upd (o := .lst []) s f2
  have n : l ≠ r := f2.ne upd_same
  exact ⟨sm.trans s2, ⟨fp, [], h.ext s2, ff, by rw [upd_ne n]; exact upd_same, upd_same, .nil, h.alloc f, h.alloc (Same_fresh s f2)⟩, n, Same_fresh sm f, Same_fresh sm (Same_fresh s f2), fun _ h => by cases h⟩
end
theorem index_int {K : PySem.W.Frag} {H : Hp} {a : Addr} {cs : List Int} {z : Int} {j : Nat} {Q : VK} (ha : SqL K H a (cs.map V.int)) (e : cs[j]? = some z) (b : ∀ m : Nat, m < j → cs[m]? ≠ some z) (q : Q (.int (j : Nat)) H) : rIndex K (.ref a) [.int z] H Q := by
  refine ⟨a, _, _, j, .int z, rfl, rfl, ha, rfl, List.all_eq_true.mpr fun x hx => ?_, by rw [List.getElem?_map, e]; rfl, by simp [eqV], fun m z' hm h => ?_, q⟩
  · obtain ⟨n, _, rfl⟩ := List.mem_map.mp hx
    rfl
  · obtain ⟨n, h1, rfl⟩ := ints_at h
    have : n ≠ z := fun c => b m hm (by rw [h1, c])
    simp [eqV, this]
/-- a wish of a try: the clause takes it -/
theorem wOnly_yes {K : PySem.W.Frag} {c cls : Value} {ts : Addr → Value → Option Addr → TS} {Wout : WX} {D : Ends} {σ : L2.St} {d : Option Addr} {H : Hp} (e : PySem.W.exmOne K cls c = some true) (k : ∀ a, Fresh H a → ts a cls d D σ H) : WE (wOnly K c ts Wout D) σ cls d H := ⟨true, e, fun _ a f => k a f, fun q => nomatch q⟩
theorem wMany_yes {K : PySem.W.Frag} {c cls : Value} {ts : Addr → Value → Option Addr → TS} {l : List (Value × (Addr → Value → Option Addr → TS))} {Wout : WX} {D : Ends} {σ : L2.St} {d : Option Addr} {H : Hp} (e : PySem.W.exmOne K cls c = some true) (k : ∀ a, Fresh H a → ts a cls d D σ H) : wMany K Wout D ((c, ts) :: l) cls d σ H := ⟨true, e, fun _ a f => k a f, fun q => nomatch q⟩
theorem wMany_no {K : PySem.W.Frag} {c cls : Value} {ts : Addr → Value → Option Addr → TS} {l : List (Value × (Addr → Value → Option Addr → TS))} {Wout : WX} {D : Ends} {σ : L2.St} {d : Option Addr} {H : Hp} (e : PySem.W.exmOne K cls c = some false) (k : wMany K Wout D l cls d σ H) : wMany K Wout D ((c, ts) :: l) cls d σ H := ⟨false, e, (fun q => nomatch q), fun _ => k⟩
/-- the last living place -/
theorem last_liv {S : Sh} (o : S.Ok) : S.last = lastP (fun p => decide (S.row.getD p .non ≠ .non)) S.row.length := by
  have e : ∀ p, p < S.row.length → S.liv (fun b => decide (b < S.com + 1)) p = decide (S.row.getD p .non ≠ .non) := fun p hp => by
    unfold Sh.liv
    have hb := o.bl
    have := (o.bc _ (getI_in (ps := S.born) (c := (p : Nat)) (by omega) (by omega))).2
    dsimp only
    rw [decide_eq_true (show getI S.born (p : Nat) < S.com + 1 by omega), Bool.and_true]
  unfold Sh.last Sh.ahead
  cases h : lastP (fun p => decide (S.row.getD p .non ≠ .non)) S.row.length with
  | none =>
    rw [lastP_none] at h ⊢
    exact fun q hq => by rw [e q hq]; exact h q hq
  | some p =>
    rw [lastP_some] at h ⊢
    exact ⟨h.1, by rw [e p h.1]; exact h.2.1, fun q h1 h2 => by rw [e q h2]; exact h.2.2 q h1 h2⟩
theorem lastP_filter (f : Nat → Bool) : ∀ n : Nat, lastP f n = ((List.range n).filter f).getLast?
  | 0 => rfl
  | n + 1 => by
    rw [lastP, List.range_succ, List.filter_append]
    by_cases c : f n = true
    · simp [c]
    · have c' : f n = false := by simpa using c
      simp [c', lastP_filter f n]
end My
namespace My
open PySem PySem.Spec PyProof.Rows L2
/-! a shelf, and beside it lists of the law's own -/
structure LW (Hb H : Hp) (C sh : Addr) (S : Sh) (own : List (Addr × List Ky)) : Prop where
  sm : Same Hb H
  ex : ∃ fp, ShAt H C sh .no fp S ∧ (∀ x ∈ fp, Fresh Hb x) ∧ ∀ q ∈ own, q.1 ∉ fp
  ats : ∀ q ∈ own, Fresh Hb q.1 ∧ Ky.vals q.2 = true ∧ ∃ ws, H q.1 = some (.lst ws) ∧ KysAt H ws q.2
  nd : (own.map Prod.fst).Nodup
section
variable {Hb H H' : Hp} {C sh a b : Addr} {S : Sh} {ks ls : List Ky} {own r : List (Addr × List Ky)}
theorem LW.ext (g : LW Hb H C sh S own) (s : Same H H') : LW Hb H' C sh S own := by
  obtain ⟨fp, h1, h2, h3⟩ := g.ex
  exact ⟨g.sm.trans s, ⟨fp, h1.ext s, h2, h3⟩, fun q m => by
    obtain ⟨x1, x2, ws, x3, x4⟩ := g.ats q m
    exact ⟨x1, x2, ws, s _ _ x3, x4.same s _ _⟩, g.nd⟩
theorem LW.step (g : LW Hb H C sh S own) : ∃ fp, ShAt H C sh .no fp S ∧ ∀ H' fp' S', Gr fp H H' → Sub fp' fp H → ShAt H' C sh .no fp' S' → LW Hb H' C sh S' own := by
  obtain ⟨fp, h1, h2, h3⟩ := g.ex
  refine ⟨fp, h1, fun H' fp' S' gr sb hS => ⟨gr.same g.sm h2, ⟨fp', hS, sb.fresh g.sm h2, fun q m => ?_⟩, fun q m => ?_, g.nd⟩⟩
  · obtain ⟨x1, x2, ws, x3, x4⟩ := g.ats q m
    exact sb.not x3 (h3 q m)
  · obtain ⟨x1, x2, ws, x3, x4⟩ := g.ats q m
    exact ⟨x1, x2, ws, gr.keep _ _ x3 (h3 q m), h1.kys gr x2 x4⟩
theorem LW.get (g : LW Hb H C sh S own) {q : Addr × List Ky} (m : q ∈ own) : ∃ ws, H q.1 = some (.lst ws) ∧ KysAt H ws q.2 := (g.ats q m).2.2
/-- a list of the law's changes -/
theorem LW.put {o1 o2 : List (Addr × List Ky)} (g : LW Hb H C sh S (o1 ++ (a, ks) :: o2)) {ws : List V} (v : Ky.vals ls = true) (h : KysAt H ws ls) : LW Hb (upd H a (.lst ws)) C sh S (o1 ++ (a, ls) :: o2) := by
  obtain ⟨fp, h1, h2, h3⟩ := g.ex
  obtain ⟨y1, y2, us, y3, y4⟩ := g.ats (a, ks) (by simp)
  have na := h3 (a, ks) (by simp)
  have nt : NoTup H [a] := noTup_one y3 fun _ z => by cases z
  have gr : Gr [a] H (upd H a (.lst ws)) := Gr.refl.put (by simp)
  have nd := g.nd
  rw [List.map_append, List.map_cons, List.nodup_append] at nd
  obtain ⟨n1, n2, n3⟩ := nd
  obtain ⟨n4, n5⟩ := List.nodup_cons.mp n2
  have old : ∀ q ∈ o1 ++ o2, q.1 ≠ a ∧ q ∈ o1 ++ (a, ks) :: o2 := fun q m => by
    rcases List.mem_append.mp m with m | m
    · exact ⟨n3 _ (List.mem_map_of_mem m) _ List.mem_cons_self, List.mem_append_left _ m⟩
    · exact ⟨fun e => n4 (show a ∈ o2.map Prod.fst from e ▸ List.mem_map_of_mem m), List.mem_append_right _ (List.mem_cons_of_mem _ m)⟩
  have cases_ : ∀ q ∈ o1 ++ (a, ls) :: o2, q = (a, ls) ∨ q ∈ o1 ++ o2 := fun q m => by
    rcases List.mem_append.mp m with m | m
    · exact .inr (List.mem_append_left _ m)
    · rcases List.mem_cons.mp m with m | m
      · exact .inl m
      · exact .inr (List.mem_append_right _ m)
  refine ⟨Same_upd0 g.sm y1, ⟨fp, h1.apart gr nt fun x hx m => na (by rw [List.mem_singleton] at m; rw [← m]; exact hx), h2, fun q m => ?_⟩, fun q m => ?_, ?_⟩
  · rcases cases_ q m with rfl | m
    · exact na
    · exact h3 q (old q m).2
  · rcases cases_ q m with rfl | m
    · exact ⟨y1, v, ws, upd_same, KysAt.keep gr.keep nt _ _ v h⟩
    · obtain ⟨x1, x2, us, x3, x4⟩ := g.ats q (old q m).2
      exact ⟨x1, x2, us, by rw [upd_ne (old q m).1]; exact x3, KysAt.keep gr.keep nt _ _ x2 x4⟩
  · rw [List.map_append, List.map_cons, List.nodup_append]
    exact ⟨n1, n2, n3⟩
/-- a list of the law's is new -/
theorem LW.new (g : LW Hb H C sh S own) (f : Fresh H a) {ws : List V} (v : Ky.vals ls = true) (h : KysAt H ws ls) : LW Hb (upd H a (.lst ws)) C sh S (own ++ [(a, ls)]) := by
  obtain ⟨fp, h1, h2, h3⟩ := g.ex
  have s := Same_upd (o := .lst ws) (Same.refl H) f
  have e := g.ext s
  obtain ⟨fq, k1, k2, k3⟩ := e.ex
  refine ⟨e.sm, ⟨fp, h1.ext s, h2, fun q m => ?_⟩, fun q m => ?_, ?_⟩
  · rcases List.mem_append.mp m with m | m
    · exact h3 q m
    · rw [List.mem_singleton] at m
      rw [m]
      exact h1.alloc f
  · rcases List.mem_append.mp m with m | m
    · exact e.ats q m
    · rw [List.mem_singleton] at m
      subst m
      exact ⟨Same_fresh g.sm f, v, ws, upd_same, h.same s _ _⟩
  · rw [List.map_append, List.nodup_append]
    refine ⟨g.nd, by simp, fun x hx y hy => ?_⟩
    obtain ⟨q, m, rfl⟩ := List.mem_map.mp hx
    obtain ⟨x1, x2, us, x3, x4⟩ := g.ats q m
    simp at hy
    rw [hy]
    exact f.ne x3
theorem LW.base (g : LW Hb H C sh S own) {l : Addr} {o : HO} (f : Fresh H l) : LW (upd Hb l o) (upd H l o) C sh S own := by
  obtain ⟨fp, h1, h2, h3⟩ := g.ex
  have s := Same_upd (o := o) (Same.refl H) f
  have e := g.ext s
  have nl := h1.alloc f
  have fr : ∀ {x : Addr}, x ≠ l → Fresh Hb x → Fresh (upd Hb l o) x := fun {x} n q => by
    unfold Fresh
    rw [upd_ne n]
    exact q
  refine ⟨fun b u q => ?_, ⟨fp, h1.ext s, fun x hx => fr (fun q => nl (by rw [← q]; exact hx)) (h2 x hx), h3⟩, fun q m => ?_, g.nd⟩
  · by_cases c : b = l
    · rw [c, upd_same] at q
      rw [c, upd_same]
      exact q
    · rw [upd_ne c] at q
      rw [upd_ne c]
      exact g.sm _ _ q
  · obtain ⟨x1, x2, us, x3, x4⟩ := e.ats q m
    obtain ⟨y1, y2, ws, y3, y4⟩ := g.ats q m
    exact ⟨fr (f.ne y3) y1, x2, us, x3, x4⟩
theorem LW.start {fp : List Addr} (sm : Same Hb H) (h : ShAt H C sh .no fp S) (ff : ∀ x ∈ fp, Fresh Hb x) : LW Hb H C sh S [] := ⟨sm, ⟨fp, h, ff, fun _ m => by cases m⟩, (fun _ m => by cases m), .nil⟩
end
theorem kys_ints {H : Hp} : ∀ {ns : List Int} {ws : List V}, KysAt H ws (ns.map Ky.num) → ws = ns.map V.int
  | [], _, h => by cases h; rfl
  | n :: ns, _, h => by
    cases h with
    | cons h t =>
      cases h
      rw [kys_ints t]
      rfl
theorem vals_nums : ∀ ns : List Int, Ky.vals (ns.map Ky.num) = true := fun ns => vals_iff.mpr fun k hk => by
  obtain ⟨n, _, rfl⟩ := List.mem_map.mp hk
  rfl
/-! the living pairs -/
def lvP (row held : List Ky) : List (Ky × Ky) := (row.zip held).filter fun p => decide (p.1 ≠ .non)
def Sh.lv (S : Sh) : List (Ky × Ky) := lvP S.row S.held
def pairT (p : Ky × Ky) : Ky := .tup [p.1, p.2]
theorem pairsN_lv : ∀ (row held : List Ky) (n : Nat), held.length = row.length → n ≤ row.length → pairsN row held n = (lvP (row.take n) (held.take n)).map pairT
  | row, held, 0, _, _ => rfl
  | row, held, n + 1, h, l => by
    have ih := pairsN_lv row held n h (by omega)
    have e1 : row[n]? = some row[n] := List.getElem?_eq_getElem (by omega)
    rw [pairsN, e1, List.take_succ_eq_append_getElem (by omega : n < row.length), List.take_succ_eq_append_getElem (by omega : n < held.length)]
    unfold lvP
    rw [List.zip_append (by rw [List.length_take, List.length_take]; omega), List.filter_append, List.map_append]
    dsimp only
    by_cases c : row[n] = .non
    · rw [if_pos c, ih]
      simp [c, lvP]
    · rw [if_neg c, ih]
      have e2 : held.getD n .non = held[n] := by rw [List.getD_eq_getElem?_getD, List.getElem?_eq_getElem (by omega : n < held.length)]; rfl
      rw [e2]
      simp [c, lvP, pairT]
theorem pairs_lv {S : Sh} (o : S.Ok) : S.pairs = S.lv.map pairT := by
  unfold Sh.pairs Sh.lv
  rw [pairsN_lv _ _ _ o.hl (Nat.le_refl _), List.take_length, ← o.hl, List.take_length]
theorem lvP_append (r1 r2 h1 h2 : List Ky) (e : r1.length = h1.length) : lvP (r1 ++ r2) (h1 ++ h2) = lvP r1 h1 ++ lvP r2 h2 := by
  unfold lvP
  rw [List.zip_append e, List.filter_append]
theorem lvP_key {r h : List Ky} {p : Ky × Ky} (m : p ∈ lvP r h) : p.1 ∈ r ∧ p.2 ∈ h ∧ p.1 ≠ .non := by
  unfold lvP at m
  rw [List.mem_filter] at m
  obtain ⟨m1, m2⟩ := m
  obtain ⟨a, b⟩ := p
  exact ⟨(List.of_mem_zip m1).1, (List.of_mem_zip m1).2, of_decide_eq_true m2⟩
theorem split_at {α : Type} {l : List α} {q : Nat} {x : α} (e : l[q]? = some x) : ∃ a b, l = a ++ x :: b ∧ a.length = q := by
  obtain ⟨h, e⟩ := List.getElem?_eq_some_iff.mp e
  refine ⟨l.take q, l.drop (q + 1), ?_, by rw [List.length_take]; omega⟩
  rw [← e, List.getElem_cons_drop, List.take_append_drop]
theorem set_mid {α : Type} (a b : List α) (x y : α) : (a ++ x :: b).set a.length y = a ++ y :: b := by simp
theorem Sh.Ok.split {S : Sh} (o : S.Ok) {q : Nat} {y : Ky} (e : S.row[q]? = some y) (n : y ≠ .non) : ∃ (A B : List (Ky × Ky)) (z : Ky), S.lv = A ++ (y, z) :: B ∧ S.held[q]? = some z ∧ (∀ u, (S.hold q u).lv = A ++ (y, u) :: B) ∧ (S.went q y).lv = A ++ B ∧
    (∀ p ∈ A, p.1 ≠ y) ∧ (∀ p ∈ B, p.1 ≠ y) ∧ ((∀ t, q < t → S.row.getD t .non = .non) → B = []) := by
  obtain ⟨r1, r2, er, el⟩ := split_at e
  have hq := (List.getElem?_eq_some_iff.mp e).1
  have hl := o.hl
  obtain ⟨z0, ez⟩ : ∃ z, S.held[q]? = some z := ⟨_, List.getElem?_eq_getElem (by omega)⟩
  obtain ⟨h1, h2, eh, eg⟩ := split_at ez
  have ee : r1.length = h1.length := by omega
  have one : ∀ u, lvP (r1 ++ y :: r2) (h1 ++ u :: h2) = lvP r1 h1 ++ (y, u) :: lvP r2 h2 := fun u => by
    rw [lvP_append _ _ _ _ ee]
    congr 1
    show List.filter _ ((y, u) :: r2.zip h2) = _
    rw [List.filter_cons, if_pos (decide_eq_true n)]
    rfl
  have uq : ∀ t, S.row[t]? = some y → t = q := fun t h => o.cw.nd t q y h e n
  refine ⟨lvP r1 h1, lvP r2 h2, z0, ?_, ez, fun u => ?_, ?_, fun p m => ?_, fun p m => ?_, fun h => ?_⟩
  · have := one z0
    rw [← er, ← eh] at this
    exact this
  · show lvP S.row (S.held.set q u) = _
    rw [← one u, er]
    congr 1
    rw [eh]
    rw [← eg]
    exact set_mid _ _ _ _
  · show lvP (S.row.set q .non) (S.held.set q .non) = _
    have e1 : S.row.set q .non = r1 ++ .non :: r2 := by rw [er, ← el]; exact set_mid _ _ _ _
    have e2 : S.held.set q .non = h1 ++ .non :: h2 := by rw [eh, ← eg]; exact set_mid _ _ _ _
    rw [e1, e2, lvP_append _ _ _ _ ee]
    congr 1
  · intro c
    obtain ⟨t, ht, et⟩ := List.mem_iff_getElem.mp (lvP_key m).1
    have := uq t (by rw [er, List.getElem?_append_left ht, List.getElem?_eq_getElem ht, et, c])
    omega
  · intro c
    obtain ⟨t, ht, et⟩ := List.mem_iff_getElem.mp (lvP_key m).1
    have := uq (r1.length + 1 + t) (by
      rw [er, List.getElem?_append_right (by omega), show r1.length + 1 + t - r1.length = t + 1 by omega, List.getElem?_cons_succ, List.getElem?_eq_getElem ht, et, c])
    omega
  · rw [List.eq_nil_iff_forall_not_mem]
    intro p m
    obtain ⟨k1, -, k3⟩ := lvP_key m
    obtain ⟨t, ht, et⟩ := List.mem_iff_getElem.mp k1
    have := h (r1.length + 1 + t) (by omega)
    rw [List.getD_eq_getElem?_getD, er, List.getElem?_append_right (by omega), show r1.length + 1 + t - r1.length = t + 1 by omega, List.getElem?_cons_succ, List.getElem?_eq_getElem ht, et] at this
    exact k3 this
theorem come_lv {S : Sh} (o : S.Ok) {y z : Ky} (n : y ≠ .non) : (S.come y z).lv = S.lv ++ [(y, z)] := by
  show lvP (S.row ++ [y]) (S.held ++ [z]) = _
  rw [lvP_append _ _ _ _ o.hl.symm]
  congr 1
  show List.filter _ [(y, z)] = _
  rw [List.filter_cons, if_pos (decide_eq_true n)]
  rfl
theorem lv_not {S : Sh} {y : Ky} (e : y ∉ S.row) : ∀ p ∈ S.lv, p.1 ≠ y := fun p m c => e (by rw [← c]; exact (lvP_key m).1)
theorem last_none {S : Sh} (o : S.Ok) (e : S.last = none) : S.lv = [] := by
  rw [last_liv o, lastP_none] at e
  rw [List.eq_nil_iff_forall_not_mem]
  intro p m
  obtain ⟨k1, -, k3⟩ := lvP_key m
  obtain ⟨t, ht, et⟩ := List.mem_iff_getElem.mp k1
  have := of_decide_eq_false (e t ht)
  rw [List.getD_eq_getElem?_getD, List.getElem?_eq_getElem ht, et] at this
  exact this k3
theorem last_some {S : Sh} (o : S.Ok) {q : Nat} (e : S.last = some q) : ∀ t, q < t → S.row.getD t .non = .non := fun t h => by
  rw [last_liv o, lastP_some] at e
  rcases Nat.lt_or_ge t S.row.length with g | g
  · have := of_decide_eq_false (e.2.2 t h g)
    exact Classical.byContradiction this
  · rw [List.getD_eq_getElem?_getD, List.getElem?_eq_none_iff.mpr g]
    rfl
theorem lv_len {S : Sh} (o : S.Ok) : (S.lv.length : Int) = S.com - S.goi := by
  rw [o.many]
  unfold Sh.lv lvP
  have h : ∀ (r h : List Ky), h.length = r.length → ((r.zip h).filter fun p => decide (p.1 ≠ .non)).length = (r.filter fun k => decide (k ≠ .non)).length := by
    intro r
    induction r with
    | nil => intro h e; rfl
    | cons x r ih =>
      intro h e
      cases h with
      | nil => simp at e
      | cons z h =>
        rw [List.zip_cons_cons, List.filter_cons, List.filter_cons]
        dsimp only
        split
        · rw [List.length_cons, List.length_cons, ih h (by simpa using e)]
        · exact ih h (by simpa using e)
  rw [h _ _ o.hl]
/-! a deed, and what comes of it: a number (0; 1: Full; 2: Lacking), an answer, the shelf -/
def Sh.deed (mr : Sh → Option Sh) (S : Sh) (way : Nat) (y z : Ky) : Int × Ky × Sh := match way with
  | 0 => match S.put mr y z with
    | none => (1, .non, S)
    | some (b, S') => (0, .bl b, S')
  | 1 => match S.find y with
    | none => (2, .non, S)
    | some q => (0, S.held.getD q .non, S.went q y)
  | 2 => match S.last with
    | none => (2, .non, S)
    | some q => (0, .tup [S.row.getD q .non, S.held.getD q .non], S.went q (S.row.getD q .non))
  | 3 => match S.heldAt y with
    | none => (2, .non, S)
    | some u => (0, u, S)
  | 4 => match S.heldAt y with
    | none => (0, z, S)
    | some u => (0, u, S)
  | 5 => (0, .bl (S.find y).isSome, S)
  | 6 => (0, .tup (S.counts.map Ky.num), S)
  | _ => (0, .non, S.emptied)
def spDeed (C CF CL : Addr) (mr : Sh → Option Sh) : Sp := fun vs H Q E => ∃ sh w v u p fp S y z, vs = [.ref sh, .int (w : Nat), v, u] ∧ ShAt H C sh p fp S ∧ KyAt H v y ∧ KeyOk y ∧ KyAt H u z ∧ HVal z ∧ w ≤ 7 ∧
  ((S.deed mr w y z).1 = 0 → ∀ H' fp' x, Gr fp H H' → Sub fp' fp H → ShAt H' C sh p fp' (S.deed mr w y z).2.2 → KyAt H' x (S.deed mr w y z).2.1 → Q x H') ∧
  ((S.deed mr w y z).1 = 1 → ∀ H', Same H H' → E (.ref CF) none H') ∧ ((S.deed mr w y z).1 = 2 → ∀ H', Same H H' → E (.ref CL) none H')
theorem len_deed {C CF CL : Addr} {mr : Sh → Option Sh} {vs H Q E} (h : spDeed C CF CL mr vs H Q E) : vs.length = 4 := by obtain ⟨_, _, _, _, _, _, _, _, _, rfl, _⟩ := h; rfl
def spAsked (C : Addr) (mr : Sh → Option Sh) : Sp := fun vs H Q _ => ∃ sh w v u p fp S y z, vs = [.ref sh, .int (w : Nat), v, u] ∧ ShAt H C sh p fp S ∧ KyAt H v y ∧ KeyOk y ∧ KyAt H u z ∧ HVal z ∧ w ≤ 7 ∧
  ∀ H' fp' x, Gr fp H H' → Sub fp' fp H → ShAt H' C sh p fp' (S.deed mr w y z).2.2 → KyAt H' x (.tup [.num (S.deed mr w y z).1, (S.deed mr w y z).2.1]) → Q x H'
theorem len_asked {C : Addr} {mr : Sh → Option Sh} {vs H Q E} (h : spAsked C mr vs H Q E) : vs.length = 4 := by obtain ⟨_, _, _, _, _, _, _, _, _, rfl, _⟩ := h; rfl
theorem deed_ref {mr : Sh → Option Sh} {S : Sh} {w : Nat} {y z : Ky} (h : (S.deed mr w y z).1 ≠ 0) : ((S.deed mr w y z).1 = 1 ∨ (S.deed mr w y z).1 = 2) ∧ (S.deed mr w y z).2.1 = .non ∧ (S.deed mr w y z).2.2 = S := by
  match w with
  | 0 =>
    unfold Sh.deed at h ⊢
    cases e : S.put mr y z with
    | none => exact ⟨.inl rfl, rfl, rfl⟩
    | some p => rw [e] at h; exact absurd rfl h
  | 1 =>
    unfold Sh.deed at h ⊢
    cases e : S.find y with
    | none => exact ⟨.inr rfl, rfl, rfl⟩
    | some p => rw [e] at h; exact absurd rfl h
  | 2 =>
    unfold Sh.deed at h ⊢
    cases e : S.last with
    | none => exact ⟨.inr rfl, rfl, rfl⟩
    | some p => rw [e] at h; exact absurd rfl h
  | 3 =>
    unfold Sh.deed at h ⊢
    cases e : S.heldAt y with
    | none => exact ⟨.inr rfl, rfl, rfl⟩
    | some p => rw [e] at h; exact absurd rfl h
  | 4 =>
    unfold Sh.deed at h ⊢
    cases e : S.heldAt y with
    | none => rw [e] at h; exact absurd rfl h
    | some p => rw [e] at h; exact absurd rfl h
  | 5 => exact absurd rfl h
  | 6 => exact absurd rfl h
  | n + 7 => exact absurd rfl h
theorem bl_at {H : Hp} (b : Bool) : KyAt H (.bl b) (.bl b) := .bl b
/-- the place of a key among pairs -/
def spSpot (K : PySem.W.Frag) : Sp := fun vs H Q _ => ∃ l v ws lv y, vs = [.ref l, v] ∧ SqL K H l ws ∧ KysAt H ws ((lv : List (Ky × Ky)).map pairT) ∧ KyAt H v y ∧ KeyOk y ∧ (∀ p ∈ lv, KeyOk p.1) ∧ lv.length ≤ 5000 ∧
  ((∀ p ∈ lv, p.1 ≠ y) → Q .non H) ∧ ∀ A B z, lv = A ++ (y, z) :: B → (∀ p ∈ A, p.1 ≠ y) → Q (.int (A.length : Nat)) H
theorem len_spot {K : PySem.W.Frag} {vs H Q E} (h : spSpot K vs H Q E) : vs.length = 2 := by obtain ⟨_, _, _, _, _, rfl, _⟩ := h; rfl
theorem spot_use {K : PySem.W.Frag} {H : Hp} {Q : VK} {E : XK} {l : Addr} {v : V} {ws : List V} {S : Sh} {y : Ky} (hl : H l = some (.lst ws)) (hw : KysAt H ws (S.lv.map pairT)) (o : S.Ok) (hy : KyAt H v y) (yk : KeyOk y)
    (k1 : S.find y = none → Q .non H) (k2 : ∀ q A B z, S.find y = some q → S.lv = A ++ (y, z) :: B → S.held[q]? = some z → (∀ u, (S.hold q u).lv = A ++ (y, u) :: B) → (S.went q y).lv = A ++ B → Q (.int (A.length : Nat)) H) : spSpot K [.ref l, v] H Q E := by
  have kk : ∀ p ∈ S.lv, KeyOk p.1 := fun p m => ((o.cw.rok _ (lvP_key m).1).resolve_left (lvP_key m).2.2)
  have ln : S.lv.length ≤ 5000 := by
    have h1 : S.lv.length ≤ (S.row.zip S.held).length := List.length_filter_le _ _
    rw [List.length_zip] at h1
    have := o.cw.lt
    omega
  refine ⟨l, v, ws, S.lv, y, rfl, SqL.of hl, hw, hy, yk, kk, ln, fun h => ?_, fun A B z e h => ?_⟩
  · refine k1 ((o.find_none yk.ne_non).mpr fun m => ?_)
    obtain ⟨q, hq⟩ := List.mem_iff_getElem?.mp m
    obtain ⟨A, B, z, e, -⟩ := o.split hq yk.ne_non
    exact h (y, z) (by rw [e]; simp) rfl
  · cases ef : S.find y with
    | none => exact absurd rfl (lv_not ((o.find_none yk.ne_non).mp ef) (y, z) (by rw [e]; simp))
    | some q =>
      obtain ⟨A', B', z', e', h1, h2, h3, h4, h5, -⟩ := o.split ((o.find_some yk.ne_non).mp ef) yk.ne_non
      have key : ∀ (A A' B B' : List (Ky × Ky)) (z z' : Ky), A ++ (y, z) :: B = A' ++ (y, z') :: B' → (∀ p ∈ A, p.1 ≠ y) → (∀ p ∈ A', p.1 ≠ y) → A = A' ∧ z = z' ∧ B = B' := by
        intro A
        induction A with
        | nil =>
          intro A' B B' z z' e h h'
          cases A' with
          | nil => simp at e; exact ⟨rfl, e.1, e.2⟩
          | cons a A' =>
            simp at e
            exact absurd (by rw [← e.1]) (h' a List.mem_cons_self)
        | cons a A ih =>
          intro A' B B' z z' e h h'
          cases A' with
          | nil =>
            simp at e
            exact absurd (by rw [e.1]) (h a List.mem_cons_self)
          | cons a' A' =>
            simp at e
            obtain ⟨i1, i2, i3⟩ := ih A' B B' z z' e.2 (fun p m => h p (List.mem_cons_of_mem _ m)) (fun p m => h' p (List.mem_cons_of_mem _ m))
            exact ⟨by rw [e.1, i1], i2, i3⟩
      obtain ⟨rfl, rfl, rfl⟩ := key A A' B B' z z' (by rw [← e, e']) h h4
      exact k2 q A B z ef e' h1 h2 h3
theorem pairT_vals {S : Sh} (o : S.Ok) : Ky.vals (S.lv.map pairT) = true := by
  rw [← pairs_lv o]
  exact pairsN_vals o _
theorem deed_ok {S : Sh} (o : S.Ok) {w : Nat} {y z : Ky} (yk : KeyOk y) (hz : HVal z) : (S.deed (fun _ => none) w y z).2.2.Ok := by
  match w with
  | 0 =>
    unfold Sh.deed Sh.put
    cases e : S.find y with
    | some q => exact o.hold hz
    | none =>
      dsimp only
      by_cases c : S.full = true
      · rw [if_pos c]; exact o
      · rw [if_neg c]
        exact o.come yk ((o.find_none yk.ne_non).mp e) (by simpa using c) hz
  | 1 =>
    unfold Sh.deed
    cases e : S.find y with
    | none => exact o
    | some q => exact o.went ((o.find_some yk.ne_non).mp e) yk.ne_non
  | 2 =>
    unfold Sh.deed
    cases e : S.last with
    | none => exact o
    | some q =>
      obtain ⟨y2, e1, e2, e3⟩ := liv_key o (ahead_liv e).2
      dsimp only
      rw [e3]
      exact o.went e1 e2.ne_non
  | 3 => unfold Sh.deed; cases S.heldAt y <;> exact o
  | 4 => unfold Sh.deed; cases S.heldAt y <;> exact o
  | 5 => exact o
  | 6 => exact o
  | n + 7 => exact o.emptied
end My
namespace My
open PySem PySem.Spec PyProof.Rows L2
/-! values (none within tuples, too) held against each other -/
theorem vals_cons {k : Ky} {ks : List Ky} (h : Ky.vals (k :: ks) = true) : k.val = true ∧ Ky.vals ks = true := by simpa [Ky.vals] using h
mutual
theorem Ky.eqvV : ∀ x y : Ky, x.val = true → y.val = true → PyData.eqv x.toD y.toD = Ky.beq x y
  | .num i, y, _, h => by
    cases y <;> first | (simp [Ky.val] at h; done) | (simp [Ky.toD, PyData.eqv, Ky.beq]; done) | (simp only [Ky.toD, PyData.eqv, Ky.beq]; exact Bool.beq_eq_decide_eq _ _)
  | .txt i, y, _, h => by
    cases y <;> first | (simp [Ky.val] at h; done) | (simp [Ky.toD, PyData.eqv, Ky.beq]; done) | (simp only [Ky.toD, PyData.eqv, Ky.beq]; exact Bool.beq_eq_decide_eq _ _)
  | .non, y, _, h => by
    cases y <;> first | (simp [Ky.val] at h; done) | (simp [Ky.toD, PyData.eqv, Ky.beq]; done)
  | .tup xs, .tup ys, h, g => by
    simp only [Ky.toD, PyData.eqv, Ky.beq]
    exact Ky.eqvsV xs ys (tup_val h).2 (tup_val g).2
  | .tup xs, .num _, _, _ => by simp [Ky.toD, PyData.eqv, Ky.beq]
  | .tup xs, .txt _, _, _ => by simp [Ky.toD, PyData.eqv, Ky.beq]
  | .tup xs, .non, _, _ => by simp [Ky.toD, PyData.eqv, Ky.beq]
  | .tup xs, .bl _, _, h => by simp [Ky.val] at h
  | .tup xs, .lst _, _, h => by simp [Ky.val] at h
  | .tup xs, .dct, _, h => by simp [Ky.val] at h
  | .bl _, _, h, _ => by simp [Ky.val] at h
  | .lst _, _, h, _ => by simp [Ky.val] at h
  | .dct, _, h, _ => by simp [Ky.val] at h
theorem Ky.eqvsV : ∀ xs ys : List Ky, Ky.vals xs = true → Ky.vals ys = true → PyData.eqvAll (Ky.toDs xs) (Ky.toDs ys) = Ky.beqs xs ys
  | [], [], _, _ => by simp [Ky.toDs, PyData.eqvAll, Ky.beqs]
  | x :: xs, y :: ys, h, g => by
    simp only [Ky.toDs, PyData.eqvAll, Ky.beqs]
    rw [Ky.eqvV x y (vals_cons h).1 (vals_cons g).1, Ky.eqvsV xs ys (vals_cons h).2 (vals_cons g).2]
  | [], _ :: _, _, _ => by simp [Ky.toDs, PyData.eqvAll, Ky.beqs]
  | _ :: _, [], _, _ => by simp [Ky.toDs, PyData.eqvAll, Ky.beqs]
end
mutual
theorem Ky.canLayV : ∀ k : Ky, k.val = true → k.toD.canLay0 = true
  | .num _, _ => by simp [Ky.toD, PyData.canLay0]
  | .txt x, h => by
    have h' : PyData.strOk x = true := by simpa [Ky.val] using h
    simpa [Ky.toD, PyData.canLay0] using h'
  | .non, _ => by simp [Ky.toD, PyData.canLay0]
  | .tup ks, h => by
    simp only [Ky.toD, PyData.canLay0]
    exact Ky.canLaysV ks (tup_val h).2
  | .bl _, h => by simp [Ky.val] at h
  | .lst _, h => by simp [Ky.val] at h
  | .dct, h => by simp [Ky.val] at h
theorem Ky.canLaysV : ∀ ks : List Ky, Ky.vals ks = true → PyData.canLayAll0 (Ky.toDs ks) = true
  | [], _ => by simp [Ky.toDs, PyData.canLayAll0]
  | k :: ks, h => by
    simp only [Ky.toDs, PyData.canLayAll0, Ky.canLayV k (vals_cons h).1, Ky.canLaysV ks (vals_cons h).2, Bool.and_self]
end
theorem Ky.shapedV {k : Ky} (h : k.val = true) (d : k.dep ≤ 60) : SeqAt.shaped k.toD = true := by
  unfold SeqAt.shaped
  rw [Ky.canLayV k h, Ky.depth_toD, decide_eq_true (by omega)]
  rfl
def Ky.vrow (ks : List Ky) : Prop := ∀ k ∈ ks, k.val = true ∧ k.dep ≤ 60
theorem vrow_vals {ks : List Ky} (h : Ky.vrow ks) : Ky.vals ks = true := vals_iff.mpr fun k hk => (h k hk).1
theorem vrow_deps {ks : List Ky} (h : Ky.vrow ks) : Ky.deps ks ≤ 60 := deps_of fun k hk => (h k hk).2
theorem vrow_nil : Ky.vrow [] := fun _ h => by cases h
theorem Ky.shapedVL {ks : List Ky} (h : Ky.vrow ks) : SeqAt.shaped (.list (Ky.toDs ks)) = true := by
  unfold SeqAt.shaped
  have := vrow_deps h
  rw [PyData.canLay0, Ky.canLaysV ks (vrow_vals h), PyData.depth, Ky.depths_toD, decide_eq_true (by omega)]
  rfl
section
variable {H : Hp} {K : PySem.W.Frag}
mutual
theorem KyAt.dpV : ∀ (k : Ky) (v : V), k.val = true → KyAt H v k → Dp K H v k.toD
  | .num i, _, _, h => by cases h; rw [Ky.toD]; exact .int i
  | .txt x, _, _, h => by cases h; rw [Ky.toD]; exact .str x
  | .non, _, _, h => by
    cases h
    have e : Ky.toD .non = .none := by simp [Ky.toD]
    rw [e]
    exact .non
  | .tup ks, _, g, h => by
    cases h with
    | tup h p => rw [Ky.toD]; exact .tup (SqT.of h) (KysAt.dpV ks _ (tup_val g).2 p)
  | .bl _, _, g, _ => by simp [Ky.val] at g
  | .lst _, _, g, _ => by simp [Ky.val] at g
  | .dct, _, g, _ => by simp [Ky.val] at g
theorem KysAt.dpV : ∀ (ks : List Ky) (vs : List V), Ky.vals ks = true → KysAt H vs ks → DpAll K H vs (Ky.toDs ks)
  | [], _, _, h => by cases h; rw [Ky.toDs]; exact .nil
  | k :: ks, _, g, h => by
    cases h with
    | cons h t => rw [Ky.toDs]; exact .cons (KyAt.dpV k _ (vals_cons g).1 h) (KysAt.dpV ks _ (vals_cons g).2 t)
end
theorem eq_val {v w : V} {k l : Ky} {Q : VK} (hv : KyAt H v k) (hw : KyAt H w l) (gk : k.val = true) (gl : l.val = true) (dk : k.dep ≤ 60) (dl : l.dep ≤ 60) (q : Q (.bl (decide (k = l))) H) : rEqD K v w H Q := by
  refine ⟨k.toD, l.toD, KyAt.dpV k v gk hv, KyAt.dpV l w gl hw, Ky.shapedV gk dk, Ky.shapedV gl dl, ?_⟩
  rw [Ky.eqvV _ _ gk gl, Ky.beq_dec]
  exact q
theorem ne_val {v w : V} {k l : Ky} {Q : VK} (hv : KyAt H v k) (hw : KyAt H w l) (gk : k.val = true) (gl : l.val = true) (dk : k.dep ≤ 60) (dl : l.dep ≤ 60) (q : Q (.bl (!decide (k = l))) H) : rNeD K v w H Q := by
  refine ⟨k.toD, l.toD, KyAt.dpV k v gk hv, KyAt.dpV l w gl hw, Ky.shapedV gk dk, Ky.shapedV gl dl, ?_⟩
  rw [Ky.eqvV _ _ gk gl, Ky.beq_dec]
  exact q
theorem eq_vrows {a b : Addr} {vs ws : List V} {ks ls : List Ky} {Q : VK} (ha : SqL K H a vs) (hk : KysAt H vs ks) (hb : SqL K H b ws) (hl : KysAt H ws ls) (dk : Ky.vrow ks) (dl : Ky.vrow ls) (q : Q (.bl (decide (ks = ls))) H) : rEqD K (.ref a) (.ref b) H Q := by
  refine ⟨.list (Ky.toDs ks), .list (Ky.toDs ls), .lst ha (KysAt.dpV ks _ (vrow_vals dk) hk), .lst hb (KysAt.dpV ls _ (vrow_vals dl) hl), Ky.shapedVL dk, Ky.shapedVL dl, ?_⟩
  rw [PyData.eqv, Ky.eqvsV _ _ (vrow_vals dk) (vrow_vals dl), Ky.beqs_dec]
  exact q
theorem ne_vrows {a b : Addr} {vs ws : List V} {ks ls : List Ky} {Q : VK} (ha : SqL K H a vs) (hk : KysAt H vs ks) (hb : SqL K H b ws) (hl : KysAt H ws ls) (dk : Ky.vrow ks) (dl : Ky.vrow ls) (q : Q (.bl (!decide (ks = ls))) H) : rNeD K (.ref a) (.ref b) H Q := by
  refine ⟨.list (Ky.toDs ks), .list (Ky.toDs ls), .lst ha (KysAt.dpV ks _ (vrow_vals dk) hk), .lst hb (KysAt.dpV ls _ (vrow_vals dl) hl), Ky.shapedVL dk, Ky.shapedVL dl, ?_⟩
  rw [PyData.eqv, Ky.eqvsV _ _ (vrow_vals dk) (vrow_vals dl), Ky.beqs_dec]
  exact q
end
theorem pairT_dep {S : Sh} (o : S.Ok) : ∀ k ∈ S.lv.map pairT, k.val = true ∧ k.dep ≤ 9 := fun k hk => by
  refine ⟨vals_iff.mp (pairT_vals o) k hk, ?_⟩
  obtain ⟨p, hp, rfl⟩ := List.mem_map.mp hk
  obtain ⟨k1, k2, k3⟩ := lvP_key hp
  have a1 := ((o.cw.rok _ k1).resolve_left k3).d
  have a2 := (o.hv _ k2).2
  simp only [pairT, Ky.dep, Ky.deps]
  omega
theorem lv_vrow {S : Sh} (o : S.Ok) : Ky.vrow (S.lv.map pairT) := fun k hk => ⟨(pairT_dep o k hk).1, Nat.le_trans (pairT_dep o k hk).2 (by decide)⟩
theorem lv_le {S : Sh} (o : S.Ok) : S.lv.length ≤ 2730 := by
  have h1 : S.lv.length ≤ (S.row.zip S.held).length := List.length_filter_le _ _
  rw [List.length_zip] at h1
  have := o.cw.lt
  omega
end My
namespace Law
open PySem PySem.Spec PyProof.Rows L2 My
def top (i : Nat) : Stmt := PySem.Challenge.pw_slotbook_k43_whole_row_of_pairs.main.body.getD i (.Pass ⟨0, 0, 0, 0⟩)
abbrev s_wall : Stmt := top 0
abbrev s_is_within : Stmt := top 12
abbrev s_is_key : Stmt := top 13
abbrev s_checked : Stmt := top 14
abbrev s_is_size : Stmt := top 18
abbrev s_room : Stmt := top 19
abbrev s_stride : Stmt := top 21
abbrev s_probe : Stmt := top 22
abbrev s_stamp : Stmt := top 25
abbrev s_first_bare : Stmt := top 29
abbrev s_cells_of : Stmt := top 30
abbrev s_paper : Stmt := top 31
abbrev s_place_of : Stmt := top 33
abbrev s_Shelf___init__ : Stmt := inClass (top 35) 0
abbrev s_Shelf_find : Stmt := inClass (top 35) 1
abbrev s_Shelf_lay : Stmt := inClass (top 35) 2
abbrev s_Shelf_mark_gone : Stmt := inClass (top 35) 3
abbrev s_Shelf_relay : Stmt := inClass (top 35) 4
abbrev s_Shelf_make_room : Stmt := inClass (top 35) 5
abbrev s_Shelf_put : Stmt := inClass (top 35) 6
abbrev s_Shelf_at : Stmt := inClass (top 35) 7
abbrev s_Shelf_told : Stmt := inClass (top 35) 8
abbrev s_Shelf_has : Stmt := inClass (top 35) 9
abbrev s_Shelf_take : Stmt := inClass (top 35) 10
abbrev s_Shelf_take_last : Stmt := inClass (top 35) 11
abbrev s_Shelf_emptied : Stmt := inClass (top 35) 12
abbrev s_Shelf_many : Stmt := inClass (top 35) 13
abbrev s_Shelf_pairs : Stmt := inClass (top 35) 14
abbrev s_Shelf_after : Stmt := inClass (top 35) 15
abbrev s_Shelf_ahead : Stmt := inClass (top 35) 16
abbrev s_Shelf_paper : Stmt := inClass (top 35) 17
abbrev s_Shelf_form : Stmt := inClass (top 35) 18
abbrev s_Shelf_counts : Stmt := inClass (top 35) 19
abbrev s_law_cell_at : Stmt := top 37
abbrev s_law_text : Stmt := top 38
abbrev s_law_stamp : Stmt := top 39
abbrev s_law_step : Stmt := top 40
abbrev s_law_leaf : Stmt := top 41
abbrev s_law_any_key : Stmt := top 42
abbrev s_law_key : Stmt := top 43
abbrev s_law_value : Stmt := top 44
abbrev s_law_alike : Stmt := top 45
abbrev s_law_do : Stmt := top 46
abbrev s_law_asked : Stmt := top 47
abbrev s_law_spot : Stmt := top 48
abbrev s_law_due_put : Stmt := top 49
abbrev s_law_due_out : Stmt := top 50
abbrev s_law_due : Stmt := top 51
abbrev s_law_look : Stmt := top 52
abbrev s_law_way : Stmt := top 53
abbrev s_law : Stmt := top 54
structure Ad where
  a_is_within : Addr
  d_is_within : FuncData
  a_is_key : Addr
  d_is_key : FuncData
  a_checked : Addr
  d_checked : FuncData
  a_is_size : Addr
  d_is_size : FuncData
  a_room : Addr
  d_room : FuncData
  a_stride : Addr
  d_stride : FuncData
  a_probe : Addr
  d_probe : FuncData
  a_stamp : Addr
  d_stamp : FuncData
  a_first_bare : Addr
  d_first_bare : FuncData
  a_cells_of : Addr
  d_cells_of : FuncData
  a_paper : Addr
  d_paper : FuncData
  a_place_of : Addr
  d_place_of : FuncData
  a_Shelf___init__ : Addr
  d_Shelf___init__ : FuncData
  a_Shelf_find : Addr
  d_Shelf_find : FuncData
  a_Shelf_lay : Addr
  d_Shelf_lay : FuncData
  a_Shelf_mark_gone : Addr
  d_Shelf_mark_gone : FuncData
  a_Shelf_relay : Addr
  d_Shelf_relay : FuncData
  a_Shelf_make_room : Addr
  d_Shelf_make_room : FuncData
  a_Shelf_put : Addr
  d_Shelf_put : FuncData
  a_Shelf_at : Addr
  d_Shelf_at : FuncData
  a_Shelf_told : Addr
  d_Shelf_told : FuncData
  a_Shelf_has : Addr
  d_Shelf_has : FuncData
  a_Shelf_take : Addr
  d_Shelf_take : FuncData
  a_Shelf_take_last : Addr
  d_Shelf_take_last : FuncData
  a_Shelf_emptied : Addr
  d_Shelf_emptied : FuncData
  a_Shelf_many : Addr
  d_Shelf_many : FuncData
  a_Shelf_pairs : Addr
  d_Shelf_pairs : FuncData
  a_Shelf_ahead : Addr
  d_Shelf_ahead : FuncData
  a_Shelf_counts : Addr
  d_Shelf_counts : FuncData
  a_law_cell_at : Addr
  d_law_cell_at : FuncData
  a_law_text : Addr
  d_law_text : FuncData
  a_law_stamp : Addr
  d_law_stamp : FuncData
  a_law_leaf : Addr
  d_law_leaf : FuncData
  a_law_any_key : Addr
  d_law_any_key : FuncData
  a_law_key : Addr
  d_law_key : FuncData
  a_law_value : Addr
  d_law_value : FuncData
  a_law_alike : Addr
  d_law_alike : FuncData
  a_law_do : Addr
  d_law_do : FuncData
  a_law_asked : Addr
  d_law_asked : FuncData
  a_law_spot : Addr
  d_law_spot : FuncData
  a_law_due_put : Addr
  d_law_due_put : FuncData
  a_law_due_out : Addr
  d_law_due_out : FuncData
  a_law_due : Addr
  d_law_due : FuncData
  a_law_look : Addr
  d_law_look : FuncData
  a_law_way : Addr
  d_law_way : FuncData
  a_law : Addr
  d_law : FuncData
  c_Shelf : Addr
  c_NoKey : Addr
  c_Full : Addr
  c_Lacking : Addr
  t_FAR : Tok
  t_MOST_SIGNS : Tok
  t_MOST_PARTS : Tok
  t_DEEPEST : Tok
  t_LEAST : Tok
  t_GREATEST : Tok
  t_TURN : Tok
  t_EMPTY : Tok
  t_GONE : Tok
structure Txt (K : PySem.W.Frag) (mg : Str → Option Value) (A : Ad) : Prop where
  F_is_within : Fun K "is_within" "is_within" s_is_within A.a_is_within A.d_is_within
  b_is_within : Binds K A.d_is_within ["thing", "deep"] []
  m_is_within : mg "is_within" = some (.ref A.a_is_within)
  F_is_key : Fun K "is_key" "is_key" s_is_key A.a_is_key A.d_is_key
  b_is_key : Binds K A.d_is_key ["thing"] []
  m_is_key : mg "is_key" = some (.ref A.a_is_key)
  F_checked : Fun K "checked" "checked" s_checked A.a_checked A.d_checked
  b_checked : Binds K A.d_checked ["thing"] []
  m_checked : mg "checked" = some (.ref A.a_checked)
  F_is_size : Fun K "is_size" "is_size" s_is_size A.a_is_size A.d_is_size
  b_is_size : Binds K A.d_is_size ["thing"] []
  m_is_size : mg "is_size" = some (.ref A.a_is_size)
  F_room : Fun K "room" "room" s_room A.a_room A.d_room
  b_room : Binds K A.d_room ["size"] []
  m_room : mg "room" = some (.ref A.a_room)
  F_stride : Fun K "stride" "stride" s_stride A.a_stride A.d_stride
  b_stride : Binds K A.d_stride ["stamp"] []
  m_stride : mg "stride" = some (.ref A.a_stride)
  F_probe : Fun K "probe" "probe" s_probe A.a_probe A.d_probe
  b_probe : Binds K A.d_probe ["stamp", "size", "count"] []
  m_probe : mg "probe" = some (.ref A.a_probe)
  F_stamp : Fun K "stamp" "stamp" s_stamp A.a_stamp A.d_stamp
  b_stamp : Binds K A.d_stamp ["key"] []
  m_stamp : mg "stamp" = some (.ref A.a_stamp)
  F_first_bare : Fun K "first_bare" "first_bare" s_first_bare A.a_first_bare A.d_first_bare
  b_first_bare : Binds K A.d_first_bare ["cells", "key"] []
  m_first_bare : mg "first_bare" = some (.ref A.a_first_bare)
  F_cells_of : Fun K "cells_of" "cells_of" s_cells_of A.a_cells_of A.d_cells_of
  b_cells_of : Binds K A.d_cells_of ["row", "size"] []
  m_cells_of : mg "cells_of" = some (.ref A.a_cells_of)
  F_paper : Fun K "paper" "paper" s_paper A.a_paper A.d_paper
  b_paper : Binds K A.d_paper ["cells", "row", "key"] []
  m_paper : mg "paper" = some (.ref A.a_paper)
  F_place_of : Fun K "place_of" "place_of" s_place_of A.a_place_of A.d_place_of
  b_place_of : Binds K A.d_place_of ["cells", "row", "key"] []
  m_place_of : mg "place_of" = some (.ref A.a_place_of)
  F_Shelf___init__ : FunD K "__init__" "Shelf.__init__" (defArgs s_Shelf___init__) (defBody s_Shelf___init__) (defScope s_Shelf___init__) [V.int 8] [] A.a_Shelf___init__ A.d_Shelf___init__
  b_Shelf___init___1 : ∃ ds, Vals [V.int 8] ds ∧ Binds K A.d_Shelf___init__ ["self", "size"] ds
  b_Shelf___init___2 : ∃ ds, Vals [] ds ∧ Binds K A.d_Shelf___init__ ["self", "size"] ds
  F_Shelf_find : Fun K "find" "Shelf.find" s_Shelf_find A.a_Shelf_find A.d_Shelf_find
  b_Shelf_find : Binds K A.d_Shelf_find ["self", "key"] []
  F_Shelf_lay : Fun K "lay" "Shelf.lay" s_Shelf_lay A.a_Shelf_lay A.d_Shelf_lay
  b_Shelf_lay : Binds K A.d_Shelf_lay ["self", "key", "place"] []
  F_Shelf_mark_gone : Fun K "mark_gone" "Shelf.mark_gone" s_Shelf_mark_gone A.a_Shelf_mark_gone A.d_Shelf_mark_gone
  b_Shelf_mark_gone : Binds K A.d_Shelf_mark_gone ["self", "key", "place"] []
  F_Shelf_relay : Fun K "relay" "Shelf.relay" s_Shelf_relay A.a_Shelf_relay A.d_Shelf_relay
  b_Shelf_relay : Binds K A.d_Shelf_relay ["self"] []
  F_Shelf_make_room : Fun K "make_room" "Shelf.make_room" s_Shelf_make_room A.a_Shelf_make_room A.d_Shelf_make_room
  b_Shelf_make_room : Binds K A.d_Shelf_make_room ["self"] []
  F_Shelf_put : Fun K "put" "Shelf.put" s_Shelf_put A.a_Shelf_put A.d_Shelf_put
  b_Shelf_put : Binds K A.d_Shelf_put ["self", "key", "value"] []
  F_Shelf_at : Fun K "at" "Shelf.at" s_Shelf_at A.a_Shelf_at A.d_Shelf_at
  b_Shelf_at : Binds K A.d_Shelf_at ["self", "key"] []
  F_Shelf_told : FunD K "told" "Shelf.told" (defArgs s_Shelf_told) (defBody s_Shelf_told) (defScope s_Shelf_told) [V.non] [] A.a_Shelf_told A.d_Shelf_told
  b_Shelf_told_2 : ∃ ds, Vals [V.non] ds ∧ Binds K A.d_Shelf_told ["self", "key", "other"] ds
  b_Shelf_told_3 : ∃ ds, Vals [] ds ∧ Binds K A.d_Shelf_told ["self", "key", "other"] ds
  F_Shelf_has : Fun K "has" "Shelf.has" s_Shelf_has A.a_Shelf_has A.d_Shelf_has
  b_Shelf_has : Binds K A.d_Shelf_has ["self", "key"] []
  F_Shelf_take : Fun K "take" "Shelf.take" s_Shelf_take A.a_Shelf_take A.d_Shelf_take
  b_Shelf_take : Binds K A.d_Shelf_take ["self", "key"] []
  F_Shelf_take_last : Fun K "take_last" "Shelf.take_last" s_Shelf_take_last A.a_Shelf_take_last A.d_Shelf_take_last
  b_Shelf_take_last : Binds K A.d_Shelf_take_last ["self"] []
  F_Shelf_emptied : Fun K "emptied" "Shelf.emptied" s_Shelf_emptied A.a_Shelf_emptied A.d_Shelf_emptied
  b_Shelf_emptied : Binds K A.d_Shelf_emptied ["self"] []
  F_Shelf_many : Fun K "many" "Shelf.many" s_Shelf_many A.a_Shelf_many A.d_Shelf_many
  b_Shelf_many : Binds K A.d_Shelf_many ["self"] []
  F_Shelf_pairs : Fun K "pairs" "Shelf.pairs" s_Shelf_pairs A.a_Shelf_pairs A.d_Shelf_pairs
  b_Shelf_pairs : Binds K A.d_Shelf_pairs ["self"] []
  F_Shelf_ahead : Fun K "ahead" "Shelf.ahead" s_Shelf_ahead A.a_Shelf_ahead A.d_Shelf_ahead
  b_Shelf_ahead : Binds K A.d_Shelf_ahead ["self", "number"] []
  F_Shelf_counts : Fun K "counts" "Shelf.counts" s_Shelf_counts A.a_Shelf_counts A.d_Shelf_counts
  b_Shelf_counts : Binds K A.d_Shelf_counts ["self"] []
  F_law_cell_at : Fun K "_law_cell_at" "_law_cell_at" s_law_cell_at A.a_law_cell_at A.d_law_cell_at
  b_law_cell_at : Binds K A.d_law_cell_at ["_law_script", "_law_k"] []
  m_law_cell_at : mg "_law_cell_at" = some (.ref A.a_law_cell_at)
  F_law_text : Fun K "_law_text" "_law_text" s_law_text A.a_law_text A.d_law_text
  b_law_text : Binds K A.d_law_text ["_law_number", "_law_size"] []
  m_law_text : mg "_law_text" = some (.ref A.a_law_text)
  F_law_stamp : Fun K "_law_stamp" "_law_stamp" s_law_stamp A.a_law_stamp A.d_law_stamp
  b_law_stamp : Binds K A.d_law_stamp ["_law_key_here"] []
  m_law_stamp : mg "_law_stamp" = some (.ref A.a_law_stamp)
  F_law_leaf : Fun K "_law_leaf" "_law_leaf" s_law_leaf A.a_law_leaf A.d_law_leaf
  b_law_leaf : Binds K A.d_law_leaf ["_law_number"] []
  m_law_leaf : mg "_law_leaf" = some (.ref A.a_law_leaf)
  F_law_any_key : Fun K "_law_any_key" "_law_any_key" s_law_any_key A.a_law_any_key A.d_law_any_key
  b_law_any_key : Binds K A.d_law_any_key ["_law_number"] []
  m_law_any_key : mg "_law_any_key" = some (.ref A.a_law_any_key)
  F_law_key : Fun K "_law_key" "_law_key" s_law_key A.a_law_key A.d_law_key
  b_law_key : Binds K A.d_law_key ["_law_way_here", "_law_base", "_law_j"] []
  m_law_key : mg "_law_key" = some (.ref A.a_law_key)
  F_law_value : Fun K "_law_value" "_law_value" s_law_value A.a_law_value A.d_law_value
  b_law_value : Binds K A.d_law_value ["_law_number"] []
  m_law_value : mg "_law_value" = some (.ref A.a_law_value)
  F_law_alike : Fun K "_law_alike" "_law_alike" s_law_alike A.a_law_alike A.d_law_alike
  b_law_alike : Binds K A.d_law_alike ["_law_found", "_law_due_here"] []
  m_law_alike : mg "_law_alike" = some (.ref A.a_law_alike)
  F_law_do : Fun K "_law_do" "_law_do" s_law_do A.a_law_do A.d_law_do
  b_law_do : Binds K A.d_law_do ["_law_shelf", "_law_way_here", "_law_key_here", "_law_value_here"] []
  m_law_do : mg "_law_do" = some (.ref A.a_law_do)
  F_law_asked : Fun K "_law_asked" "_law_asked" s_law_asked A.a_law_asked A.d_law_asked
  b_law_asked : Binds K A.d_law_asked ["_law_shelf", "_law_way_here", "_law_key_here", "_law_value_here"] []
  m_law_asked : mg "_law_asked" = some (.ref A.a_law_asked)
  F_law_spot : Fun K "_law_spot" "_law_spot" s_law_spot A.a_law_spot A.d_law_spot
  b_law_spot : Binds K A.d_law_spot ["_law_pairs", "_law_key_here"] []
  m_law_spot : mg "_law_spot" = some (.ref A.a_law_spot)
  F_law_due_put : Fun K "_law_due_put" "_law_due_put" s_law_due_put A.a_law_due_put A.d_law_due_put
  b_law_due_put : Binds K A.d_law_due_put ["_law_pairs", "_law_state", "_law_key_here", "_law_value_here"] []
  m_law_due_put : mg "_law_due_put" = some (.ref A.a_law_due_put)
  F_law_due_out : Fun K "_law_due_out" "_law_due_out" s_law_due_out A.a_law_due_out A.d_law_due_out
  b_law_due_out : Binds K A.d_law_due_out ["_law_pairs", "_law_state", "_law_way_here", "_law_key_here"] []
  m_law_due_out : mg "_law_due_out" = some (.ref A.a_law_due_out)
  F_law_due : Fun K "_law_due" "_law_due" s_law_due A.a_law_due A.d_law_due
  b_law_due : Binds K A.d_law_due ["_law_pairs", "_law_state", "_law_way_here", "_law_key_here", "_law_value_here"] []
  m_law_due : mg "_law_due" = some (.ref A.a_law_due)
  F_law_look : Fun K "_law_look" "_law_look" s_law_look A.a_law_look A.d_law_look
  b_law_look : Binds K A.d_law_look ["_law_shelf", "_law_pairs", "_law_key_here", "_law_first"] []
  m_law_look : mg "_law_look" = some (.ref A.a_law_look)
  F_law_way : Fun K "_law_way" "_law_way" s_law_way A.a_law_way A.d_law_way
  b_law_way : Binds K A.d_law_way ["_law_cell"] []
  m_law_way : mg "_law_way" = some (.ref A.a_law_way)
  F_law : Fun K "law" "law" s_law A.a_law A.d_law
  b_law : Binds K A.d_law ["_law_script"] []
  m_law : mg "law" = some (.ref A.a_law)
  m_paper_slots : mg "paper_slots" = some (.ref A.a_paper)
  cl_Shelf : Cls K A.c_Shelf
  m_Shelf : mg "Shelf" = some (.ref A.c_Shelf)
  na_Shelf_cells : NoAttr K A.c_Shelf "cells"
  na_Shelf_size : NoAttr K A.c_Shelf "size"
  na_Shelf_least : NoAttr K A.c_Shelf "least"
  na_Shelf_row : NoAttr K A.c_Shelf "row"
  na_Shelf_held : NoAttr K A.c_Shelf "held"
  na_Shelf_born : NoAttr K A.c_Shelf "born"
  na_Shelf_comings : NoAttr K A.c_Shelf "comings"
  na_Shelf_goings : NoAttr K A.c_Shelf "goings"
  na_Shelf_tidied : NoAttr K A.c_Shelf "tidied"
  na_Shelf_moved : NoAttr K A.c_Shelf "moved"
  mk_Shelf : Mk K A.c_Shelf A.a_Shelf___init__
  me_Shelf_find : Meth K A.c_Shelf "find" A.a_Shelf_find
  me_Shelf_lay : Meth K A.c_Shelf "lay" A.a_Shelf_lay
  me_Shelf_mark_gone : Meth K A.c_Shelf "mark_gone" A.a_Shelf_mark_gone
  me_Shelf_relay : Meth K A.c_Shelf "relay" A.a_Shelf_relay
  me_Shelf_make_room : Meth K A.c_Shelf "make_room" A.a_Shelf_make_room
  me_Shelf_put : Meth K A.c_Shelf "put" A.a_Shelf_put
  me_Shelf_at : Meth K A.c_Shelf "at" A.a_Shelf_at
  me_Shelf_told : Meth K A.c_Shelf "told" A.a_Shelf_told
  me_Shelf_has : Meth K A.c_Shelf "has" A.a_Shelf_has
  me_Shelf_take : Meth K A.c_Shelf "take" A.a_Shelf_take
  me_Shelf_take_last : Meth K A.c_Shelf "take_last" A.a_Shelf_take_last
  me_Shelf_emptied : Meth K A.c_Shelf "emptied" A.a_Shelf_emptied
  me_Shelf_many : Meth K A.c_Shelf "many" A.a_Shelf_many
  me_Shelf_pairs : Meth K A.c_Shelf "pairs" A.a_Shelf_pairs
  me_Shelf_ahead : Meth K A.c_Shelf "ahead" A.a_Shelf_ahead
  me_Shelf_counts : Meth K A.c_Shelf "counts" A.a_Shelf_counts
  m_NoKey : mg "NoKey" = some (.ref A.c_NoKey)
  x_NoKey : PySem.W.excIn K A.c_NoKey [.type "ValueError", .type "Exception", .type "BaseException", .type "object"] "ValueError.__new__" = true
  k_NoKey : PySem.W.keepIn K (.ref A.c_NoKey) = true
  eb_NoKey : PySem.W.subIn K (.ref A.c_NoKey) (.type "BaseException") = some true
  et_NoKey : PySem.W.typeIn K (.ref A.c_NoKey) = some (.type "type")
  m_Full : mg "Full" = some (.ref A.c_Full)
  x_Full : PySem.W.excIn K A.c_Full [.type "ValueError", .type "Exception", .type "BaseException", .type "object"] "ValueError.__new__" = true
  k_Full : PySem.W.keepIn K (.ref A.c_Full) = true
  eb_Full : PySem.W.subIn K (.ref A.c_Full) (.type "BaseException") = some true
  et_Full : PySem.W.typeIn K (.ref A.c_Full) = some (.type "type")
  m_Lacking : mg "Lacking" = some (.ref A.c_Lacking)
  x_Lacking : PySem.W.excIn K A.c_Lacking [.type "ValueError", .type "Exception", .type "BaseException", .type "object"] "ValueError.__new__" = true
  k_Lacking : PySem.W.keepIn K (.ref A.c_Lacking) = true
  eb_Lacking : PySem.W.subIn K (.ref A.c_Lacking) (.type "BaseException") = some true
  et_Lacking : PySem.W.typeIn K (.ref A.c_Lacking) = some (.type "type")
  ex_Full_Full : PySem.W.exmOne K (.ref A.c_Full) (.ref A.c_Full) = some true
  ex_Lacking_Full : PySem.W.exmOne K (.ref A.c_Lacking) (.ref A.c_Full) = some false
  ex_Lacking_Lacking : PySem.W.exmOne K (.ref A.c_Lacking) (.ref A.c_Lacking) = some true
  g_FAR : mg "FAR" = some (.int 1000000000000000000000000000000000000000000000000000000000000 A.t_FAR)
  g_MOST_SIGNS : mg "MOST_SIGNS" = some (.int 60 A.t_MOST_SIGNS)
  g_MOST_PARTS : mg "MOST_PARTS" = some (.int 6 A.t_MOST_PARTS)
  g_DEEPEST : mg "DEEPEST" = some (.int 3 A.t_DEEPEST)
  g_LEAST : mg "LEAST" = some (.int 8 A.t_LEAST)
  g_GREATEST : mg "GREATEST" = some (.int 4096 A.t_GREATEST)
  g_TURN : mg "TURN" = some (.int 2147483647 A.t_TURN)
  g_EMPTY : mg "EMPTY" = some (.int (-1) A.t_EMPTY)
  g_GONE : mg "GONE" = some (.int (-2) A.t_GONE)
  n_all : mg "all" = none
  n_bool : mg "bool" = none
  n_enumerate : mg "enumerate" = none
  n_int : mg "int" = none
  n_isinstance : mg "isinstance" = none
  n_len : mg "len" = none
  n_list : mg "list" = none
  n_ord : mg "ord" = none
  n_range : mg "range" = none
  n_str : mg "str" = none
  n_tuple : mg "tuple" = none
theorem sc_stamp : FnScope ["key", "found", "sign", "part"] ["key"] (defScope s_stamp) := ⟨rfl, rfl, rfl, by decide +kernel, rfl, by decide +kernel, by decide +kernel⟩
theorem ok_stamp0 {P : Program} {w : World} {K : PySem.W.Frag} {mg : Str → Option Value} {base : Heap} {A : Ad} (T : Txt K mg A) : FnOk P w K mg base CX0 1 A.a_stamp A.d_stamp ["key"] (spStamp 0) := by
  refine T.F_stamp.ok sc_stamp (fun vs H Q E h => ?_) (fun cdv A' outer s H vs Q E hr h => ?_)
  · walk_at "spl"
  · have nd := sc_stamp.nd
    have hu := hu_of hr
    refine ⟨_, (pss_cons (ps_if (pt_val (pe_callB call_isiF rfl T.n_isinstance (by decide +kernel) (pa_cons (pv 0) (pa_cons (pe_bltn (v := .ty "int") rfl T.n_int (by decide +kernel) rfl) pa_nil)))) (pss_one (ps_ret (pe_op op_mod (pv 0) (pe_glob (v := .int 2147483647) rfl T.g_TURN ⟨_, rfl⟩)))) pss_nil) (pss_cons (ps_if (pt_val (pe_callB call_isiF rfl T.n_isinstance (by decide +kernel) (pa_cons (pv 0) (pa_cons (pe_bltn (v := .ty "str") rfl T.n_str (by decide +kernel) rfl) pa_nil)))) (pss_cons (ps_set (i := 1) nd rfl (Or.inl rfl) pe_int) (pss_cons (ps_for PassesOwn.never rfl (pi_str (pv 0)) (pg_name (i := 2) nd rfl (Or.inl rfl)) (pss_one (ps_set (i := 1) nd rfl (Or.inl rfl) (pe_op op_mod (pe_op op_add (pe_op op_mulX pe_int (pv 1)) (pe_callB call_ordq rfl T.n_ord (by decide +kernel) (pa_cons (pv 2) pa_nil))) (pe_glob (v := .int 2147483647) rfl T.g_TURN ⟨_, rfl⟩))))) (pss_one (ps_ret (pv 1))))) pss_nil) pss_never)), ?_⟩
    clear nd
    obtain ⟨v, y, rfl, hk, hd, k⟩ := h
    cases hk with
    | num i =>
      walk_at "rd"
      rw [Ky.stamp] at k
      exact k
    | txt x =>
      walk_at "rd"
      rw [Ky.stamp] at k
      refine go_it walk_str (fun i σ H' => ∃ v2 v3, σ = [some (.str x), some (.int (stampT (x.cps.toList.take i))), v2, v3] ∧ H' = H) ⟨_, _, rfl, rfl⟩ (fun _ _ _ _ _ => trivial) ?_ ?_
      · rintro N i v σ H' H2 hi ⟨v2, v3, rfl, rfl⟩ ⟨rfl, c, hc, rfl⟩ hN
        walk_at "rd"
        exact ⟨mulL (by decide) (by decide), hN _ _ ⟨_, _, by rw [stampT_step (by simpa using hc)], rfl⟩⟩
      · rintro σ H' ⟨v2, v3, rfl, rfl⟩
        walk_at "rd"
        rw [show x.cps.size = x.cps.toList.length by simp, List.take_length]
        exact k
    | tup h p => have := hd.2; rw [Ky.dep] at this; omega
    | _ => have := hd.1; simp [Ky.good] at this
theorem ok_stampS {P : Program} {w : World} {K : PySem.W.Frag} {mg : Str → Option Value} {base : Heap} {A : Ad} (T : Txt K mg A) {n : Nat} (G : FnOk P w K mg base CX0 (n + 1) A.a_stamp A.d_stamp ["key"] (spStamp n)) : FnOk P w K mg base CX0 (n + 1 + 1) A.a_stamp A.d_stamp ["key"] (spStamp (n + 1)) := by
  refine T.F_stamp.ok sc_stamp (fun vs H Q E h => ?_) (fun cdv A' outer s H vs Q E hr h => ?_)
  · walk_at "spl"
  · have nd := sc_stamp.nd
    have hu := hu_of hr
    refine ⟨_, (pss_cons (ps_if (pt_val (pe_callB call_isiF rfl T.n_isinstance (by decide +kernel) (pa_cons (pv 0) (pa_cons (pe_bltn (v := .ty "int") rfl T.n_int (by decide +kernel) rfl) pa_nil)))) (pss_one (ps_ret (pe_op op_mod (pv 0) (pe_glob (v := .int 2147483647) rfl T.g_TURN ⟨_, rfl⟩)))) pss_nil) (pss_cons (ps_if (pt_val (pe_callB call_isiF rfl T.n_isinstance (by decide +kernel) (pa_cons (pv 0) (pa_cons (pe_bltn (v := .ty "str") rfl T.n_str (by decide +kernel) rfl) pa_nil)))) (pss_cons (ps_set (i := 1) nd rfl (Or.inl rfl) pe_int) (pss_cons (ps_for PassesOwn.never rfl (pi_str (pv 0)) (pg_name (i := 2) nd rfl (Or.inl rfl)) (pss_one (ps_set (i := 1) nd rfl (Or.inl rfl) (pe_op op_mod (pe_op op_add (pe_op op_mulX pe_int (pv 1)) (pe_callB call_ordq rfl T.n_ord (by decide +kernel) (pa_cons (pv 2) pa_nil))) (pe_glob (v := .int 2147483647) rfl T.g_TURN ⟨_, rfl⟩))))) (pss_one (ps_ret (pv 1))))) pss_nil) (pss_cons (ps_set (i := 1) nd rfl (Or.inl rfl) pe_int) (pss_cons (ps_for PassesOwn.never rfl (pi_tup (pv 0)) (pg_name (i := 3) nd rfl (Or.inl rfl)) (pss_one (ps_set (i := 1) nd rfl (Or.inl rfl) (pe_op op_mod (pe_op op_xor (pe_op op_mulX pe_int (pv 1)) (pe_call G hr rfl T.m_stamp T.F_stamp.kp T.b_stamp .nil pass0 (pa_cons (pv 3) pa_nil))) (pe_glob (v := .int 2147483647) rfl T.g_TURN ⟨_, rfl⟩))))) (pss_one (ps_ret (pv 1))))))), ?_⟩
    clear nd
    obtain ⟨v, y, rfl, hk, hd, k⟩ := h
    cases hk with
    | num i =>
      walk_at "rd"
      rw [Ky.stamp] at k
      exact k
    | txt x =>
      walk_at "rd"
      rw [Ky.stamp] at k
      refine go_it walk_str (fun i σ H' => ∃ v2 v3, σ = [some (.str x), some (.int (stampT (x.cps.toList.take i))), v2, v3] ∧ H' = H) ⟨_, _, rfl, rfl⟩ (fun _ _ _ _ _ => trivial) ?_ ?_
      · rintro N i v σ H' H2 hi ⟨v2, v3, rfl, rfl⟩ ⟨rfl, c, hc, rfl⟩ hN
        walk_at "rd"
        exact ⟨mulL (by decide) (by decide), hN _ _ ⟨_, _, by rw [stampT_step (by simpa using hc)], rfl⟩⟩
      · rintro σ H' ⟨v2, v3, rfl, rfl⟩
        walk_at "rd"
        rw [show x.cps.size = x.cps.toList.length by simp, List.take_length]
        exact k
    | @tup a xs ks h p =>
      walk_at "rd"
      simp only [isi_tup_int h, isi_tup_str h]
      walk_at "rd"
      rw [Ky.stamp] at k
      rw [Ky.dep] at hd
      refine ⟨⟨_, SqT.of h⟩, go_tup (fun i σ H' => ∃ v2 v3, σ = [some (.ref a), some (.int (Ky.stamps 11 (ks.take i))), v2, v3] ∧ H' = H) ⟨_, _, rfl, rfl⟩ (fun i σ H' _ ⟨_, _, _, e⟩ => by rw [e]; exact SqT.of h) ?_ ?_⟩
      · rintro N i x σ H' hx ⟨v2, v3, rfl, rfl⟩ hN
        obtain ⟨y, hy, hv⟩ := p.get hx
        walk_at "rd"
        refine ⟨mulL (by decide) (by decide), y, hv, ⟨goods_get (by simpa [Ky.good] using hd.1) hy, ?_⟩, hN _ _ ⟨_, _, by rw [stamps_step 11 hy], rfl⟩⟩
        have := dep_of_mem hy
        have := hd.2
        omega
      · rintro σ H' ⟨v2, v3, rfl, rfl⟩
        walk_at "rd"
        rw [p.len, List.take_length]
        exact k
    | _ => have := hd.1; simp [Ky.good] at this
theorem ok_stamp {P : Program} {w : World} {K : PySem.W.Frag} {mg : Str → Option Value} {base : Heap} {A : Ad} (T : Txt K mg A) : ∀ n : Nat, FnOk P w K mg base CX0 (n + 1) A.a_stamp A.d_stamp ["key"] (spStamp n)
  | 0 => ok_stamp0 T
  | n + 1 => ok_stampS T (ok_stamp T n)
theorem sc_law_stamp : FnScope ["_law_key_here", "_law_mark", "_law_sign", "_law_part"] ["_law_key_here"] (defScope s_law_stamp) := ⟨rfl, rfl, rfl, by decide +kernel, rfl, by decide +kernel, by decide +kernel⟩
theorem ok_law_stamp0 {P : Program} {w : World} {K : PySem.W.Frag} {mg : Str → Option Value} {base : Heap} {A : Ad} (T : Txt K mg A) : FnOk P w K mg base CX0 1 A.a_law_stamp A.d_law_stamp ["_law_key_here"] (spStamp 0) := by
  refine T.F_law_stamp.ok sc_law_stamp (fun vs H Q E h => ?_) (fun cdv A' outer s H vs Q E hr h => ?_)
  · walk_at "spl"
  · have nd := sc_law_stamp.nd
    have hu := hu_of hr
    refine ⟨_, (pss_cons (ps_if (pt_val (pe_callB call_isiF rfl T.n_isinstance (by decide +kernel) (pa_cons (pv 0) (pa_cons (pe_bltn (v := .ty "int") rfl T.n_int (by decide +kernel) rfl) pa_nil)))) (pss_one (ps_ret (pe_op op_mod (pv 0) pe_int))) pss_nil) (pss_cons (ps_if (pt_val (pe_callB call_isiF rfl T.n_isinstance (by decide +kernel) (pa_cons (pv 0) (pa_cons (pe_bltn (v := .ty "str") rfl T.n_str (by decide +kernel) rfl) pa_nil)))) (pss_cons (ps_set (i := 1) nd rfl (Or.inl rfl) pe_int) (pss_cons (ps_for PassesOwn.never rfl (pi_str (pv 0)) (pg_name (i := 2) nd rfl (Or.inl rfl)) (pss_one (ps_set (i := 1) nd rfl (Or.inl rfl) (pe_op op_mod (pe_op op_add (pe_op op_mulX pe_int (pv 1)) (pe_callB call_ordq rfl T.n_ord (by decide +kernel) (pa_cons (pv 2) pa_nil))) pe_int)))) (pss_one (ps_ret (pv 1))))) pss_nil) pss_never)), ?_⟩
    clear nd
    obtain ⟨v, y, rfl, hk, hd, k⟩ := h
    cases hk with
    | num i =>
      walk_at "rd"
      rw [Ky.stamp] at k
      exact k
    | txt x =>
      walk_at "rd"
      rw [Ky.stamp] at k
      refine go_it walk_str (fun i σ H' => ∃ v2 v3, σ = [some (.str x), some (.int (stampT (x.cps.toList.take i))), v2, v3] ∧ H' = H) ⟨_, _, rfl, rfl⟩ (fun _ _ _ _ _ => trivial) ?_ ?_
      · rintro N i v σ H' H2 hi ⟨v2, v3, rfl, rfl⟩ ⟨rfl, c, hc, rfl⟩ hN
        walk_at "rd"
        exact ⟨mulL (by decide) (by decide), hN _ _ ⟨_, _, by rw [stampT_step (by simpa using hc)], rfl⟩⟩
      · rintro σ H' ⟨v2, v3, rfl, rfl⟩
        walk_at "rd"
        rw [show x.cps.size = x.cps.toList.length by simp, List.take_length]
        exact k
    | tup h p => have := hd.2; rw [Ky.dep] at this; omega
    | _ => have := hd.1; simp [Ky.good] at this
theorem ok_law_stampS {P : Program} {w : World} {K : PySem.W.Frag} {mg : Str → Option Value} {base : Heap} {A : Ad} (T : Txt K mg A) {n : Nat} (G : FnOk P w K mg base CX0 (n + 1) A.a_law_stamp A.d_law_stamp ["_law_key_here"] (spStamp n)) : FnOk P w K mg base CX0 (n + 1 + 1) A.a_law_stamp A.d_law_stamp ["_law_key_here"] (spStamp (n + 1)) := by
  refine T.F_law_stamp.ok sc_law_stamp (fun vs H Q E h => ?_) (fun cdv A' outer s H vs Q E hr h => ?_)
  · walk_at "spl"
  · have nd := sc_law_stamp.nd
    have hu := hu_of hr
    refine ⟨_, (pss_cons (ps_if (pt_val (pe_callB call_isiF rfl T.n_isinstance (by decide +kernel) (pa_cons (pv 0) (pa_cons (pe_bltn (v := .ty "int") rfl T.n_int (by decide +kernel) rfl) pa_nil)))) (pss_one (ps_ret (pe_op op_mod (pv 0) pe_int))) pss_nil) (pss_cons (ps_if (pt_val (pe_callB call_isiF rfl T.n_isinstance (by decide +kernel) (pa_cons (pv 0) (pa_cons (pe_bltn (v := .ty "str") rfl T.n_str (by decide +kernel) rfl) pa_nil)))) (pss_cons (ps_set (i := 1) nd rfl (Or.inl rfl) pe_int) (pss_cons (ps_for PassesOwn.never rfl (pi_str (pv 0)) (pg_name (i := 2) nd rfl (Or.inl rfl)) (pss_one (ps_set (i := 1) nd rfl (Or.inl rfl) (pe_op op_mod (pe_op op_add (pe_op op_mulX pe_int (pv 1)) (pe_callB call_ordq rfl T.n_ord (by decide +kernel) (pa_cons (pv 2) pa_nil))) pe_int)))) (pss_one (ps_ret (pv 1))))) pss_nil) (pss_cons (ps_set (i := 1) nd rfl (Or.inl rfl) pe_int) (pss_cons (ps_for PassesOwn.never rfl (pi_tup (pv 0)) (pg_name (i := 3) nd rfl (Or.inl rfl)) (pss_one (ps_set (i := 1) nd rfl (Or.inl rfl) (pe_op op_mod (pe_op op_xor (pe_op op_mulX pe_int (pv 1)) (pe_call G hr rfl T.m_law_stamp T.F_law_stamp.kp T.b_law_stamp .nil pass0 (pa_cons (pv 3) pa_nil))) pe_int)))) (pss_one (ps_ret (pv 1))))))), ?_⟩
    clear nd
    obtain ⟨v, y, rfl, hk, hd, k⟩ := h
    cases hk with
    | num i =>
      walk_at "rd"
      rw [Ky.stamp] at k
      exact k
    | txt x =>
      walk_at "rd"
      rw [Ky.stamp] at k
      refine go_it walk_str (fun i σ H' => ∃ v2 v3, σ = [some (.str x), some (.int (stampT (x.cps.toList.take i))), v2, v3] ∧ H' = H) ⟨_, _, rfl, rfl⟩ (fun _ _ _ _ _ => trivial) ?_ ?_
      · rintro N i v σ H' H2 hi ⟨v2, v3, rfl, rfl⟩ ⟨rfl, c, hc, rfl⟩ hN
        walk_at "rd"
        exact ⟨mulL (by decide) (by decide), hN _ _ ⟨_, _, by rw [stampT_step (by simpa using hc)], rfl⟩⟩
      · rintro σ H' ⟨v2, v3, rfl, rfl⟩
        walk_at "rd"
        rw [show x.cps.size = x.cps.toList.length by simp, List.take_length]
        exact k
    | @tup a xs ks h p =>
      walk_at "rd"
      simp only [isi_tup_int h, isi_tup_str h]
      walk_at "rd"
      rw [Ky.stamp] at k
      rw [Ky.dep] at hd
      refine ⟨⟨_, SqT.of h⟩, go_tup (fun i σ H' => ∃ v2 v3, σ = [some (.ref a), some (.int (Ky.stamps 11 (ks.take i))), v2, v3] ∧ H' = H) ⟨_, _, rfl, rfl⟩ (fun i σ H' _ ⟨_, _, _, e⟩ => by rw [e]; exact SqT.of h) ?_ ?_⟩
      · rintro N i x σ H' hx ⟨v2, v3, rfl, rfl⟩ hN
        obtain ⟨y, hy, hv⟩ := p.get hx
        walk_at "rd"
        refine ⟨mulL (by decide) (by decide), y, hv, ⟨goods_get (by simpa [Ky.good] using hd.1) hy, ?_⟩, hN _ _ ⟨_, _, by rw [stamps_step 11 hy], rfl⟩⟩
        have := dep_of_mem hy
        have := hd.2
        omega
      · rintro σ H' ⟨v2, v3, rfl, rfl⟩
        walk_at "rd"
        rw [p.len, List.take_length]
        exact k
    | _ => have := hd.1; simp [Ky.good] at this
theorem ok_law_stamp {P : Program} {w : World} {K : PySem.W.Frag} {mg : Str → Option Value} {base : Heap} {A : Ad} (T : Txt K mg A) : ∀ n : Nat, FnOk P w K mg base CX0 (n + 1) A.a_law_stamp A.d_law_stamp ["_law_key_here"] (spStamp n)
  | 0 => ok_law_stamp0 T
  | n + 1 => ok_law_stampS T (ok_law_stamp T n)
theorem sc_stride : FnScope ["stamp"] ["stamp"] (defScope s_stride) := ⟨rfl, rfl, rfl, by decide +kernel, rfl, by decide +kernel, by decide +kernel⟩
theorem ok_stride {P : Program} {w : World} {K : PySem.W.Frag} {mg : Str → Option Value} {base : Heap} {A : Ad} (T : Txt K mg A) : FnOk P w K mg base CX0 1 A.a_stride A.d_stride ["stamp"] (spI1 (fun _ => True) fun n => .int (strideF n)) := by
  refine T.F_stride.ok sc_stride (fun vs H Q E h => ?_) (fun cdv A' outer s H vs Q E hr h => ?_)
  · walk_at "spl"
  · have nd := sc_stride.nd
    have hu := hu_of hr
    refine ⟨_, (pss_one (ps_ret (pe_op op_or (pe_op op_shr (pv 0) pe_int) pe_int))), ?_⟩
    clear nd
    obtain ⟨n, rfl, -, k⟩ := h
    walk_at "rd"
    exact k
theorem sc_probe : FnScope ["stamp", "size", "count"] ["stamp", "size", "count"] (defScope s_probe) := ⟨rfl, rfl, rfl, by decide +kernel, rfl, by decide +kernel, by decide +kernel⟩
theorem ok_probe {P : Program} {w : World} {K : PySem.W.Frag} {mg : Str → Option Value} {base : Heap} {A : Ad} (T : Txt K mg A) : FnOk P w K mg base CX0 2 A.a_probe A.d_probe ["stamp", "size", "count"] (spI3 (fun _ _ c => -(2 ^ 64) < c ∧ c < 2 ^ 64) fun m s c => .int (probeF m s c)) := by
  refine T.F_probe.ok sc_probe (fun vs H Q E h => ?_) (fun cdv A' outer s H vs Q E hr h => ?_)
  · walk_at "spl"
  · have nd := sc_probe.nd
    have hu := hu_of hr
    refine ⟨_, (pss_one (ps_ret (pe_op op_and (pe_op op_add (pv 0) (pe_op op_mulX (pv 2) (pe_call (ok_stride T) (hr.mono (by decide)) rfl T.m_stride T.F_stride.kp T.b_stride .nil pass0 (pa_cons (pv 0) pa_nil)))) (pe_op op_sub (pv 1) pe_int)))), ?_⟩
    clear nd
    obtain ⟨m, z, c, rfl, hc, k⟩ := h
    walk_at "rd"
    exact ⟨mulL hc.1 hc.2, k⟩
theorem sc_law_cell_at : FnScope ["_law_script", "_law_k"] ["_law_script", "_law_k"] (defScope s_law_cell_at) := ⟨rfl, rfl, rfl, by decide +kernel, rfl, by decide +kernel, by decide +kernel⟩
theorem ok_law_cell_at {P : Program} {w : World} {K : PySem.W.Frag} {mg : Str → Option Value} {base : Heap} {A : Ad} (T : Txt K mg A) : FnOk P w K mg base CX0 1 A.a_law_cell_at A.d_law_cell_at ["_law_script", "_law_k"] (spCell K) := by
  refine T.F_law_cell_at.ok sc_law_cell_at (fun vs H Q E h => ?_) (fun cdv A' outer s H vs Q E hr h => ?_)
  · walk_at "spl"
  · have nd := sc_law_cell_at.nd
    have hu := hu_of hr
    refine ⟨_, (pss_cons (ps_if (pt_cmpR op_lt (pv 1) (pe_callB call_lenU rfl T.n_len PySem.boot_len (pa_cons (pv 0) pa_nil)) (nomark _)) (pss_one (ps_ret (pe_ix ix_list (pv 0) (pv 1) (fun _ _ => rfl)))) pss_nil) (pss_one (ps_ret pe_int))), ?_⟩
    clear nd
    obtain ⟨a, ns, i, rfl, hS, hi, k⟩ := h
    walk_at "rd"
    refine ⟨_, .inl hS, ?_⟩
    rw [List.length_map]
    split
    · rename_i c
      exact ⟨_, _, hS, at_int hi c, k⟩
    · rename_i c
      have e : getI ns i = 0 := by
        unfold getI
        rw [List.getD_eq_getElem?_getD, List.getElem?_eq_none_iff.mpr (by omega)]
        rfl
      rw [e] at k
      exact k
theorem Txt.shC_Shelf {K : PySem.W.Frag} {mg : Str → Option Value} {A : Ad} (T : Txt K mg A) : ShC K A.c_Shelf := ⟨T.cl_Shelf, T.na_Shelf_cells, T.na_Shelf_size, T.na_Shelf_least, T.na_Shelf_row, T.na_Shelf_held, T.na_Shelf_born, T.na_Shelf_comings, T.na_Shelf_goings, T.na_Shelf_tidied, T.na_Shelf_moved⟩

end Law
namespace Law
open PySem PySem.Spec PyProof.Rows L2 My
theorem sc_law_text : FnScope ["_law_number", "_law_size", "_law_some", "_law_found", "_law_k"] ["_law_number", "_law_size"] (defScope s_law_text) := ⟨rfl, rfl, rfl, by decide +kernel, rfl, by decide +kernel, by decide +kernel⟩
theorem ok_law_text {P : Program} {w : World} {K : PySem.W.Frag} {mg : Str → Option Value} {base : Heap} {A : Ad} (T : Txt K mg A) : FnOk P w K mg base CX0 1 A.a_law_text A.d_law_text ["_law_number", "_law_size"] spText := by
  refine T.F_law_text.ok sc_law_text (fun vs H Q E h => ?_) (fun cdv A' outer s H vs Q E hr h => ?_)
  · walk_at "spl"
  · have nd := sc_law_text.nd
    have hu := hu_of hr
    refine ⟨_, (pss_cons (ps_set (i := 2) nd rfl (Or.inl rfl) pe_str) (pss_cons (ps_set (i := 2) nd rfl (Or.inl rfl) (pe_op op_addT (pv 2) pe_str)) (pss_cons (ps_set (i := 3) nd rfl (Or.inl rfl) pe_str) (pss_cons (ps_for PassesOwn.never rfl (pi_range1 rfl T.n_range (pa_cons (pv 1) pa_nil)) (pg_name (i := 4) nd rfl (Or.inl rfl)) (pss_cons (ps_set (i := 0) nd rfl (Or.inl rfl) (pe_op op_mod (pe_op op_add (pe_op op_mulX (pv 0) pe_int) pe_int) pe_int)) (pss_one (ps_set (i := 3) nd rfl (Or.inl rfl) (pe_op op_addT (pv 3) (pe_ix ix_str (pv 2) (pe_op op_mod (pv 0) pe_int) (fun _ _ => rfl))))))) (pss_one (ps_ret (pv 3))))))), ?_⟩
    clear nd
    obtain ⟨n, z, rfl, hz, k⟩ := h
    walk_at "rd"
    refine ⟨by with_unfolding_all decide, ?_⟩
    rw [signs_text]
    refine ⟨by omega, go_range (fun i σ H' => ∃ (m : Int) (v4 : Option V) (l : List Nat), σ = [some (.int m), some (.int z), some (.str (SX.S signs)), some (.str (SX.S l)), v4] ∧ H' = H ∧ l.length = i ∧ codesOk l ∧ i ≤ z.toNat) ⟨n, none, [], by rw [empty_S], rfl, rfl, (fun _ h => by cases h), Nat.zero_le _⟩ ?_ ?_⟩
    · rintro N i σ H' hi ⟨m, v4, l, rfl, rfl, hl, hc, hiz⟩ hN
      walk_at "rd"
      have n0 : 0 ≤ (m * 48271 + 11) % 2147483629 % 94 := Int.emod_nonneg _ (by decide)
      have n1 : (m * 48271 + 11) % 2147483629 % 94 < 94 := Int.emod_lt_of_pos _ (by decide)
      refine ⟨mulR (by decide) (by decide), signAt ((m * 48271 + 11) % 2147483629 % 94), by rw [SX.S_len]; with_unfolding_all decide, signAt_some n0 n1, ?_, hN _ _ ⟨_, _, l ++ [signAt ((m * 48271 + 11) % 2147483629 % 94)], by rw [← SX.S_cat], rfl, by simp [hl], codesOk_append hc (fun c h => ?_), hi⟩⟩
      · rw [SX.S_len, SX.S_len, sizeLine_eq]
        simp only [List.length_cons, List.length_nil]
        omega
      · rcases List.mem_cons.mp h with rfl | h
        · exact signAt_ok n0 n1
        · cases h
    · rintro σ H' ⟨m, v4, l, rfl, rfl, hl, hc, -⟩
      walk_at "rd"
      exact k l hc (by omega)
theorem sc_law_leaf : FnScope ["_law_number", "_law_rest"] ["_law_number"] (defScope s_law_leaf) := ⟨rfl, rfl, rfl, by decide +kernel, rfl, by decide +kernel, by decide +kernel⟩
theorem ok_law_leaf {P : Program} {w : World} {K : PySem.W.Frag} {mg : Str → Option Value} {base : Heap} {A : Ad} (T : Txt K mg A) : FnOk P w K mg base CX0 2 A.a_law_leaf A.d_law_leaf ["_law_number"] spAnyLeaf := by
  refine T.F_law_leaf.ok sc_law_leaf (fun vs H Q E h => ?_) (fun cdv A' outer s H vs Q E hr h => ?_)
  · walk_at "spl"
  · have nd := sc_law_leaf.nd
    have hu := hu_of hr
    refine ⟨_, (pss_cons (ps_set (i := 1) nd rfl (Or.inl rfl) (pe_op op_fdivW (pv 0) pe_int)) (pss_cons (ps_if (pt_cmpR op_eq (pe_op op_mod (pv 0) pe_int) pe_int (nomark _)) (pss_one (ps_ret (pe_op op_sub (pe_op op_mod (pv 1) pe_int) pe_int))) pss_nil) (pss_cons (ps_if (pt_cmpR op_eq (pe_op op_mod (pv 0) pe_int) pe_int (nomark _)) (pss_one (ps_ret (pe_op op_add (pe_op op_sub (pe_op op_mod (pe_op op_mulX (pv 1) (pe_op op_pow pe_int pe_int)) (pe_op op_sub (pe_op op_mulX pe_int (pe_op op_pow pe_int pe_int)) pe_int)) (pe_op op_pow pe_int pe_int)) pe_int))) pss_nil) (pss_cons (ps_if (pt_cmpR op_eq (pe_op op_mod (pv 0) pe_int) pe_int (nomark _)) (pss_one (ps_ret (pe_call (ok_law_text T) (hr.mono (by decide)) rfl T.m_law_text T.F_law_text.kp T.b_law_text .nil pass0 (pa_cons (pv 1) (pa_cons (pe_op op_mod (pe_op op_fdivW (pv 1) pe_int) pe_int) pa_nil))))) pss_nil) (pss_one (ps_ret (pe_op op_add (pe_op op_mod (pv 1) pe_int) (pe_op op_mulX pe_int (pe_op op_mod (pe_op op_fdivW (pv 1) pe_int) pe_int))))))))), ?_⟩
    clear nd
    obtain ⟨n, rfl, hn, k⟩ := h
    walk_at "rd"
    walk_at "dt"
    · exact k _ (.num _) ⟨rfl, by omega, by omega⟩
    · exact k _ (.num _) ⟨rfl, by omega, by omega⟩
    · exact ⟨_, _, rfl, by omega, fun l hc hl => k _ (.txt (SX.S l)) ⟨l, rfl, rfl, hc, by omega⟩⟩
    · exact k _ (.num _) ⟨rfl, by omega, by omega⟩
theorem sc_law_any_key : FnScope ["_law_number", "_law_rest", "_law_parts", "_law_k"] ["_law_number"] (defScope s_law_any_key) := ⟨rfl, rfl, rfl, by decide +kernel, rfl, by decide +kernel, by decide +kernel⟩
theorem ok_law_any_key {P : Program} {w : World} {K : PySem.W.Frag} {mg : Str → Option Value} {base : Heap} {A : Ad} (T : Txt K mg A) : FnOk P w K mg base CX0 3 A.a_law_any_key A.d_law_any_key ["_law_number"] spAnyKey := by
  refine T.F_law_any_key.ok sc_law_any_key (fun vs H Q E h => ?_) (fun cdv A' outer s H vs Q E hr h => ?_)
  · walk_at "spl"
  · have nd := sc_law_any_key.nd
    have hu := hu_of hr
    refine ⟨_, (pss_cons (ps_set (i := 1) nd rfl (Or.inr rfl) (pe_op op_fdivW (pv 0) pe_int)) (pss_cons (ps_if (pt_cmpR op_eq (pe_op op_mod (pv 0) pe_int) pe_int (nomark _)) (pss_one (ps_ret (pe_call (ok_law_text T) (hr.mono (by decide)) rfl T.m_law_text T.F_law_text.kp T.b_law_text .nil pass0 (pa_cons (pv 1) (pa_cons (pe_op op_mod (pv 1) pe_int) pa_nil))))) pss_nil) (pss_cons (ps_if (pt_cmpR op_lt (pe_op op_mod (pv 0) pe_int) pe_int (nomark _)) (pss_one (ps_ret (pe_call (ok_law_leaf T) (hr.mono (by decide)) rfl T.m_law_leaf T.F_law_leaf.kp T.b_law_leaf .nil pass0 (pa_cons (pv 1) pa_nil)))) pss_nil) (pss_cons (ps_setLc (i := 2) (own := [("_law_k", 3)]) rfl nd rfl rfl (sw_true rfl rfl rfl (by decide +kernel)) (pi_range1 rfl T.n_range (pa_cons (pe_op op_mod (pv 1) pe_int) pa_nil)) (blkOk_by (own := [("_law_k", 3)]) (N := ["_law_number", "_law_rest", "_law_parts", "_law_k"]) (sc := defScope s_law_any_key) (by decide +kernel)) (fun _ _ _ _ _ => (pg_name (i := 3) nd rfl (Or.inl rfl))) (fun _ _ _ _ _ => pts_nil) (fun _ _ _ _ _ => (pe_call (ok_law_leaf T) (hr.mono (by decide)) rfl T.m_law_leaf T.F_law_leaf.kp T.b_law_leaf .nil pass0 (pa_cons (pe_op op_add (pe_op op_fdivW (pv 1) (pe_op op_add (pe_op op_mulX (pv 3) (pv 3)) pe_int)) (pe_op op_mulX pe_int (pv 3))) pa_nil)))) (pss_cons (ps_if (PW.pt (pw_and (pt_cmpR op_eq (pe_op op_mod (pv 0) pe_int) pe_int (nomark _)) (pw_and1 (pt_cmpR op_gt (pe_callB call_lenU rfl T.n_len PySem.boot_len (pa_cons (pv 2) pa_nil)) pe_int (nomark _))))) (pss_one (ps_asg (pe_tup (pa_cons (pe_callTy call_tupleq rfl T.n_tuple (by decide +kernel) (pa_cons (pe_slice sl_list (pv 2) (po_some pe_int) po_none) pa_nil)) (pa_cons (pe_tup pa_nil) pa_nil))) (pg_sub (pv 2) (pe_op op_mod (pe_op op_fdivW (pv 1) pe_int) (pe_callB call_lenU rfl T.n_len PySem.boot_len (pa_cons (pv 2) pa_nil))) set_list))) pss_nil) (pss_one (ps_ret (pe_callTy call_tupleq rfl T.n_tuple (by decide +kernel) (pa_cons (pv 2) pa_nil))))))))), ?_⟩
    clear nd
    obtain ⟨n, rfl, hn, k⟩ := h
    walk_at "rd"
    refine ⟨by walk_at "side", iteB (fun c0 => ⟨_, _, rfl, by omega, fun l hc hl => k _ _ _ (Same.refl _) (.txt _) (.txt hc (by omega))⟩) fun c0 => iteB (fun c1 => ⟨_, rfl, by omega, fun v y hy => k _ _ _ (Same.refl _) hy.at hy.ok⟩) fun c1 => ⟨by omega, fun D hD => ?_⟩⟩
    refine go_lcx walk_range (fun i y H => ∃ k, Leaf y k) (by rw [sizeLine_eq]; omega) hD (fun _ _ => trivial) (fun _ _ _ _ h _ => h) ?_ ?_ gName_mono
    · rintro N i x H4 H2 hi sm ⟨rfl, rfl⟩ hN
      walk_at "rd"
      have hi6 : i < 7 := by omega
      have sq : 0 ≤ (i : Int) * i := Int.mul_nonneg (by omega) (by omega)
      have sq2 : (i : Int) * i ≤ 6 * 6 := Int.mul_le_mul (by omega) (by omega) (by omega) (by omega)
      have r0 : 0 ≤ n / 6 / ((i : Int) * i + 1) := Int.ediv_nonneg (by omega) (by omega)
      have r1 : n / 6 / ((i : Int) * i + 1) ≤ n / 6 := Int.ediv_le_self _ (by omega)
      refine ⟨mulL (by omega) (by omega), divB (by omega) (by omega), mulL (by decide) (by decide), _, rfl, by omega, fun v y hy => hN _ _ (Same.refl _) ⟨y, hy⟩⟩
    · intro H2 ys s2 hD2 hl hF
      obtain ⟨ks, hks, hok, hlk⟩ := leaves_at (H := H2) hF
      have h6 : ys.length ≤ 6 := by omega
      have fin : ∀ (zs : List V) (ls : List Ky) (H3 : Hp), Same H H3 → H3 D = some (.lst zs) → KysAt H3 zs ls → (∀ k ∈ ls, KOk 2 k) → ls.length ≤ 6 → rTupOf K [.ref D] H3 Q := by
        intro zs ls H3 s3 hD3 hz hok3 hl3
        rw [rd_tupOf]
        exact ⟨_, .inl ⟨SqL.of hD3, fun T hT => k _ _ _ (Same_upd s3 hT) (.tup upd_same (hz.same (Same_upd (Same.refl _) hT) _ _)) (.tup hok3 hl3)⟩⟩
      have plain := fin ys ks H2 s2 hD2 hks (fun k hk => (hok k hk).mono (by decide)) (by omega)
      rw [rd_tupOf] at plain
      refine iteB (fun c5 => ⟨_, .inl (SqL.of hD2), iteB (fun c6 => ?_) fun c6 => plain⟩) fun c5 => plain
      refine ⟨_, SqL.of hD2, fun p hp => ⟨_, .inl ⟨SqL.of upd_same, fun q hq => ⟨by walk_at "sz", fun r hr' => ⟨by walk_at "sz", fun t ht => ⟨by walk_at "side", _, .inl (SqL.of (by walk_at "hp")), ?_⟩⟩⟩⟩⟩⟩
      have z0 : (0 : Int) < (ys.length : Int) := c6
      have m0 : 0 ≤ n / 6 / 7 % (ys.length : Int) := Int.emod_nonneg _ (by omega)
      have m1 : n / 6 / 7 % (ys.length : Int) < ys.length := Int.emod_lt_of_pos _ z0
      refine ⟨z0, ys, _, by walk_at "hp", ixN_nat m0 m1, ?_⟩
      have hcut := cut_lo (l := ys) (show (0 : Int) ≤ 1 by decide)
      simp only [hcut] at hq hr' ht ⊢
      have sm : Same H2 (upd (upd (upd (upd H2 p (HO.lst (List.drop (Int.toNat 1) ys))) q (HO.tup (List.drop (Int.toNat 1) ys))) r (HO.tup [])) t (HO.tup [V.ref q, V.ref r])) := by walk_at "same"
      have eq : upd (upd (upd (upd H2 p (HO.lst (List.drop (Int.toNat 1) ys))) q (HO.tup (List.drop (Int.toNat 1) ys))) r (HO.tup [])) t (HO.tup [V.ref q, V.ref r]) q = some (.tup (List.drop (Int.toNat 1) ys)) := by walk_at "hp"
      have er : upd (upd (upd (upd H2 p (HO.lst (List.drop (Int.toNat 1) ys))) q (HO.tup (List.drop (Int.toNat 1) ys))) r (HO.tup [])) t (HO.tup [V.ref q, V.ref r]) r = some (.tup []) := by walk_at "hp"
      have et : upd (upd (upd (upd H2 p (HO.lst (List.drop (Int.toNat 1) ys))) q (HO.tup (List.drop (Int.toNat 1) ys))) r (HO.tup [])) t (HO.tup [V.ref q, V.ref r]) t = some (.tup [V.ref q, V.ref r]) := upd_same
      have eD := sm _ _ hD2
      generalize upd (upd (upd (upd H2 p (HO.lst (List.drop (Int.toNat 1) ys))) q (HO.tup (List.drop (Int.toNat 1) ys))) r (HO.tup [])) t (HO.tup [V.ref q, V.ref r]) = H3 at sm eq er et eD ⊢
      have kd : KysAt H3 (List.drop (Int.toNat 1) ys) (List.drop (Int.toNat 1) ks) := (hks.same sm _ _).drop _
      have hel : KyAt H3 (.ref t) (.tup [.tup (List.drop (Int.toNat 1) ks), .tup []]) := .tup et (.cons (.tup eq kd) (.cons (.tup er .nil) .nil))
      have hall : ∀ k ∈ ks.set (n / 6 / 7 % (ys.length : Int)).toNat (.tup [.tup (List.drop (Int.toNat 1) ks), .tup []]), KOk 2 k := by
        intro y hy
        rcases List.mem_or_eq_of_mem_set hy with hy | rfl
        · exact (hok y hy).mono (by decide)
        · refine .tup (fun z hz => ?_) (by simp)
          rcases List.mem_cons.mp hz with rfl | hz
          · exact .tup (fun w hw => hok w (List.mem_of_mem_drop hw)) (by rw [List.length_drop]; omega)
          · rcases List.mem_cons.mp hz with rfl | hz
            · exact (KOk.tup (d := 0) (ks := []) (fun _ h => by cases h) (by decide))
            · cases hz
      have hset : KysAt H3 (ys.set (n / 6 / 7 % (ys.length : Int)).toNat (.ref t)) (ks.set (n / 6 / 7 % (ys.length : Int)).toNat (.tup [.tup (List.drop (Int.toNat 1) ks), .tup []])) := hks.same sm _ _ |>.set hel
      have keep : ∀ b o, b ≠ D → H3 b = some o → upd H3 D (.lst (ys.set (n / 6 / 7 % (ys.length : Int)).toNat (.ref t))) b = some o := fun b o hb e => by rw [upd_ne hb]; exact e
      have last := fin _ _ (upd H3 D (.lst (ys.set (n / 6 / 7 % (ys.length : Int)).toNat (.ref t)))) (Same_upd0 (s2.trans sm) hD) upd_same (KysAt.but' keep eD _ _ (goods_of fun k hk => (hall k hk).g) hset) hall (by rw [List.length_set]; omega)
      rw [rd_tupOf] at last
      exact last

end Law
namespace Law
open PySem PySem.Spec PyProof.Rows L2 My
theorem sc_law_key : FnScope ["_law_way_here", "_law_base", "_law_j", "_law_stem", "_law_at", "_law_text_here", "_law_mark"] ["_law_way_here", "_law_base", "_law_j"] (defScope s_law_key) := ⟨rfl, rfl, rfl, by decide +kernel, rfl, by decide +kernel, by decide +kernel⟩
theorem ok_law_key {P : Program} {w : World} {K : PySem.W.Frag} {mg : Str → Option Value} {base : Heap} {A : Ad} (T : Txt K mg A) : FnOk P w K mg base CX0 5 A.a_law_key A.d_law_key ["_law_way_here", "_law_base", "_law_j"] spKey3 := by
  refine T.F_law_key.ok sc_law_key (fun vs H Q E h => ?_) (fun cdv A' outer s H vs Q E hr h => ?_)
  · walk_at "spl"
  · have nd := sc_law_key.nd
    have hu := hu_of hr
    refine ⟨_, (pss_cons (ps_if (pt_cmpR op_eq (pv 0) pe_int (nomark _)) (pss_one (ps_ret (pe_op op_add (pv 1) (pe_op op_mulX pe_int (pv 2))))) pss_nil) (pss_cons (ps_if (pt_cmpR op_eq (pv 0) pe_int (nomark _)) (pss_one (ps_ret (pe_op op_add (pv 1) (pe_op op_mulX pe_int (pv 2))))) pss_nil) (pss_cons (ps_if (pt_cmpR op_eq (pv 0) pe_int (nomark _)) (pss_cons (ps_set (i := 3) nd rfl (Or.inl rfl) (pe_call (ok_law_text T) (hr.mono (by decide)) rfl T.m_law_text T.F_law_text.kp T.b_law_text .nil pass0 (pa_cons (pv 1) (pa_cons (pe_op op_mod (pv 1) pe_int) pa_nil)))) (pss_cons (ps_set (i := 4) nd rfl (Or.inl rfl) (pe_op op_mod (pe_op op_fdivW (pv 1) pe_int) (pe_op op_add (pe_callB call_lenU rfl T.n_len PySem.boot_len (pa_cons (pv 3) pa_nil)) pe_int))) (pss_one (ps_ret (pe_op op_addT (pe_op op_addT (pe_slice sl_str (pv 3) po_none (po_some (pv 4))) (pe_call (ok_law_text T) (hr.mono (by decide)) rfl T.m_law_text T.F_law_text.kp T.b_law_text .nil pass0 (pa_cons (pv 2) (pa_cons pe_int pa_nil)))) (pe_slice sl_str (pv 3) (po_some (pv 4)) po_none)))))) pss_nil) (pss_cons (ps_if (pt_cmpR op_eq (pv 0) pe_int (nomark _)) (pss_cons (ps_set (i := 5) nd rfl (Or.inl rfl) (pe_call (ok_law_text T) (hr.mono (by decide)) rfl T.m_law_text T.F_law_text.kp T.b_law_text .nil pass0 (pa_cons (pv 1) (pa_cons (pe_op op_mod (pv 1) pe_int) pa_nil)))) (pss_cons (ps_set (i := 6) nd rfl (Or.inl rfl) (pe_call (ok_law_stamp T 3) (hr.mono (by decide)) rfl T.m_law_stamp T.F_law_stamp.kp T.b_law_stamp .nil pass0 (pa_cons (pv 5) pa_nil))) (pss_cons (ps_if (pt_cmpR op_eq (pv 2) pe_int (nomark _)) (pss_one (ps_ret (pv 5))) pss_nil) (pss_cons (ps_if (pt_cmpR op_eq (pe_op op_mod (pv 2) pe_int) pe_int (nomark _)) (pss_one (ps_ret (pe_op op_add (pv 6) (pe_op op_mulX pe_int (pe_op op_fdivW (pv 2) pe_int))))) pss_nil) (pss_one (ps_ret (pe_tup (pa_cons (pe_op op_add (pe_op op_xor pe_int (pv 6)) (pe_op op_mulX pe_int (pe_op op_sub (pe_op op_fdivW (pv 2) pe_int) pe_int))) pa_nil)))))))) pss_nil) (pss_one (ps_ret (pe_call (ok_law_any_key T) (hr.mono (by decide)) rfl T.m_law_any_key T.F_law_any_key.kp T.b_law_any_key .nil pass0 (pa_cons (pe_op op_mod (pe_op op_mulX (pe_op op_add (pv 1) (pv 2)) (pe_op op_pow pe_int pe_int)) (pe_op op_add (pe_op op_pow pe_int pe_int) pe_int)) pa_nil)))))))), ?_⟩
    clear nd
    obtain ⟨w, b, j, rfl, ⟨hb, hj⟩, k⟩ := h
    walk_at "rd"
    refine iteB (fun c1 => ⟨mulL (by decide) (by decide), k _ _ (.num _) (Same.refl _) (.num _) (.num (by omega))⟩) fun c1 => iteB (fun c2 => ⟨mulL (by decide) (by decide), k _ _ (.num _) (Same.refl _) (.num _) (.num (by omega))⟩) fun c2 => iteB (fun c3 => ?_) fun c3 => iteB (fun c4 => ?_) fun c4 => ?_
    · refine ⟨_, _, rfl, by omega, fun l hc hl => ?_⟩
      walk_at "rd"
      rw [SX.S_len]
      have a0 : 0 ≤ b / 20 % ((l.length : Int) + 1) := Int.emod_nonneg _ (by omega)
      have a1 : b / 20 % ((l.length : Int) + 1) < (l.length : Int) + 1 := Int.emod_lt_of_pos _ (by omega)
      generalize b / 20 % ((l.length : Int) + 1) = t at a0 a1 ⊢
      obtain ⟨m, rfl⟩ : ∃ m : Nat, t = (m : Int) := ⟨t.toNat, by omega⟩
      refine ⟨by walk_at "side", by rw [sizeLine_eq]; omega, by omega, ?_⟩
      refine ⟨by rw [sizeLine_eq]; omega, _, _, rfl, by omega, fun l2 hc2 hl2 => ?_⟩
      rw [cut_Slo (by omega), cut_Shi (by omega)]
      walk_at "rd"
      have e2 : SX.S (List.take m l) ++ SX.S l2 = SX.S (List.take m l ++ l2) := by rw [SX.S_cat]
      have e3 : SX.S (List.take m l ++ l2) ++ SX.S (List.drop m l) = SX.S (List.take m l ++ l2 ++ List.drop m l) := by rw [SX.S_cat (List.take m l ++ l2)]
      rw [e2, e3]
      simp only [SX.S_len, sizeLine_eq, List.length_take, List.length_drop, List.length_append]
      refine ⟨by omega, by omega, by omega, k _ _ (.txt _) (Same.refl _) (.txt _) (.txt (codesOk_append (codesOk_append (codesOk_take hc _) hc2) (codesOk_drop hc _)) ?_)⟩
      simp only [List.length_take, List.length_drop, List.length_append]
      omega
    · refine ⟨_, _, rfl, by omega, fun l hc hl => ⟨.txt (SX.S l), .txt _, ⟨by rw [Ky.good]; exact strOk_of hc, by simp [Ky.dep]⟩, ?_⟩⟩
      have hr := stamp_range (.txt (SX.S l))
      generalize Ky.stamp (.txt (SX.S l)) = s at hr ⊢
      refine iteB (fun c5 => k _ _ (.txt _) (Same.refl _) (.txt _) (.txt hc (by omega))) fun c5 => iteB (fun c6 => ⟨by walk_at "side", mulL (by decide) (by decide), k _ _ (.num _) (Same.refl _) (.num _) (.num (by omega))⟩) fun c6 => ?_
      have hx := xor_range hr.1 hr.2
      generalize Builtin.bitXor 11000033 s = x at hx ⊢
      exact ⟨by walk_at "side", mulL (by decide) (by decide), by walk_at "sz", fun p hp => k _ _ _ (Same_upd (Same.refl _) hp) (.tup upd_same (.cons (.num _) .nil)) (.tup (fun y hy => by rcases List.mem_cons.mp hy with rfl | hy; exact .num (by omega); cases hy) (by simp))⟩
    · have n0 : 0 ≤ (b + j) * 112475747406511 % 1000000000000037 := Int.emod_nonneg _ (by decide)
      have n1 : (b + j) * 112475747406511 % 1000000000000037 < 1000000000000037 := Int.emod_lt_of_pos _ (by decide)
      exact ⟨by walk_at "side", mulR (by decide) (by decide), by walk_at "side", _, rfl, by omega, k⟩
theorem sc_law_value : FnScope ["_law_number", "_law_rest"] ["_law_number"] (defScope s_law_value) := ⟨rfl, rfl, rfl, by decide +kernel, rfl, by decide +kernel, by decide +kernel⟩
theorem ok_law_value {P : Program} {w : World} {K : PySem.W.Frag} {mg : Str → Option Value} {base : Heap} {A : Ad} (T : Txt K mg A) : FnOk P w K mg base CX0 3 A.a_law_value A.d_law_value ["_law_number"] spValue := by
  refine T.F_law_value.ok sc_law_value (fun vs H Q E h => ?_) (fun cdv A' outer s H vs Q E hr h => ?_)
  · exact len_value h
  · have nd := sc_law_value.nd
    have hu := hu_of hr
    refine ⟨_, (pss_cons (ps_set (i := 1) nd rfl (Or.inl rfl) (pe_op op_fdivW (pv 0) pe_int)) (pss_cons (ps_if (pt_cmpR op_eq (pe_op op_mod (pv 0) pe_int) pe_int (nomark _)) (pss_one (ps_ret (pe_op op_sub (pe_op op_mod (pv 1) pe_int) pe_int))) pss_nil) (pss_cons (ps_if (pt_cmpR op_eq (pe_op op_mod (pv 0) pe_int) pe_int (nomark _)) (pss_one (ps_ret (pe_op op_add (pe_op op_sub (pe_op op_mod (pe_op op_mulX (pv 1) (pe_op op_pow pe_int pe_int)) (pe_op op_sub (pe_op op_mulX pe_int (pe_op op_pow pe_int pe_int)) pe_int)) (pe_op op_pow pe_int pe_int)) pe_int))) pss_nil) (pss_cons (ps_if (pt_cmpR op_eq (pe_op op_mod (pv 0) pe_int) pe_int (nomark _)) (pss_one (ps_ret (pe_call (ok_law_text T) (hr.mono (by decide)) rfl T.m_law_text T.F_law_text.kp T.b_law_text .nil pass0 (pa_cons (pv 1) (pa_cons (pe_op op_mod (pv 1) pe_int) pa_nil))))) pss_nil) (pss_cons (ps_if (pt_cmpR op_eq (pe_op op_mod (pv 0) pe_int) pe_int (nomark _)) (pss_one (ps_ret pe_non)) pss_nil) (pss_one (ps_ret (pe_tup (pa_cons (pe_op op_mod (pv 1) pe_int) (pa_cons pe_non (pa_cons (pe_call (ok_law_text T) (hr.mono (by decide)) rfl T.m_law_text T.F_law_text.kp T.b_law_text .nil pass0 (pa_cons (pv 1) (pa_cons pe_int pa_nil))) (pa_cons (pe_tup (pa_cons (pe_op op_mod (pv 1) pe_int) pa_nil)) pa_nil)))))))))))), ?_⟩
    clear nd
    obtain ⟨n, rfl, hn, k⟩ := h
    walk_at "rd"
    walk_at "dt"
    · exact k _ _ (.num _) (Same.refl _) (.num _) rfl (by simp [Ky.dep])
    · exact k _ _ (.num _) (Same.refl _) (.num _) rfl (by simp [Ky.dep])
    · exact ⟨_, _, rfl, by omega, fun l hc hl => k _ _ (.txt (SX.S l)) (Same.refl _) (.txt _) (txt_val hc) (by simp [Ky.dep])⟩
    · exact k _ _ .non (Same.refl _) .non rfl (by simp [Ky.dep])
    · refine ⟨_, _, rfl, by omega, fun l hc hl => ⟨by walk_at "sz", fun p hp => ⟨by walk_at "sz", fun q hq => ?_⟩⟩⟩
      have h1 : upd (upd H p (HO.tup [V.int (n / 5 % 3)])) q (HO.tup [V.int (n / 5 % 9), V.non, V.str (SX.S l), V.ref p]) p = some (.tup [V.int (n / 5 % 3)]) := by walk_at "hp"
      refine k _ _ (.tup [.num _, .non, .txt (SX.S l), .tup [.num _]]) (by walk_at "same") (.tup upd_same (.cons (.num _) (.cons .non (.cons (.txt _) (.cons (.tup h1 (.cons (.num _) .nil)) .nil))))) ?_ (by simp [Ky.dep, Ky.deps])
      have := txt_val hc
      simp [Ky.val, Ky.vals] at this ⊢
      exact this

end Law
namespace Law
open PySem PySem.Spec PyProof.Rows L2 My
theorem sc_law_alike : FnScope ["_law_found", "_law_due_here", "_law_k"] ["_law_found", "_law_due_here"] (defScope s_law_alike) := ⟨rfl, rfl, rfl, by decide +kernel, rfl, by decide +kernel, by decide +kernel⟩
theorem ok_law_alike0 {P : Program} {w : World} {K : PySem.W.Frag} {mg : Str → Option Value} {base : Heap} {A : Ad} (T : Txt K mg A) : FnOk P w K mg base CX0 (0 + 1) A.a_law_alike A.d_law_alike ["_law_found", "_law_due_here"] (spAlike 0) := by
  refine T.F_law_alike.ok sc_law_alike (fun vs H Q E h => ?_) (fun cdv A' outer s H vs Q E hr h => ?_)
  · exact len_alike h
  · have nd := sc_law_alike.nd
    have hu := hu_of hr
    refine ⟨_, (pss_cons (ps_if (pt_cmpR op_isN (pv 1) pe_non (nomark _)) (pss_one (ps_ret (pe_cmpR op_isN (pv 0) pe_non (nomark _)))) pss_nil) (pss_cons (ps_if (PW.pt (pw_or (pt_val (pe_callB call_isiF rfl T.n_isinstance (by decide +kernel) (pa_cons (pv 1) (pa_cons (pe_bltn (v := .ty "tuple") rfl T.n_tuple (by decide +kernel) rfl) pa_nil)))) (pw_or1 (pt_val (pe_callB call_isiF rfl T.n_isinstance (by decide +kernel) (pa_cons (pv 1) (pa_cons (pe_bltn (v := .ty "list") rfl T.n_list (by decide +kernel) rfl) pa_nil))))))) pss_never pss_nil) (pss_cons (ps_if (PW.pt (pw_or (pt_val (pe_callB call_isiF rfl T.n_isinstance (by decide +kernel) (pa_cons (pv 1) (pa_cons (pe_bltn (v := .ty "bool") rfl T.n_bool (by decide +kernel) rfl) pa_nil)))) (pw_or1 (pt_val (pe_callB call_isiF rfl T.n_isinstance (by decide +kernel) (pa_cons (pv 0) (pa_cons (pe_bltn (v := .ty "bool") rfl T.n_bool (by decide +kernel) rfl) pa_nil))))))) (pss_one (ps_ret (pe_and (pe_callB call_isiF rfl T.n_isinstance (by decide +kernel) (pa_cons (pv 1) (pa_cons (pe_bltn (v := .ty "bool") rfl T.n_bool (by decide +kernel) rfl) pa_nil))) (pe_and (pe_callB call_isiF rfl T.n_isinstance (by decide +kernel) (pa_cons (pv 0) (pa_cons (pe_bltn (v := .ty "bool") rfl T.n_bool (by decide +kernel) rfl) pa_nil))) (pe_one (pe_cmpR op_eq (pv 0) (pv 1) (nomark _))))))) pss_nil) (pss_cons (ps_if (pt_val (pe_callB call_isiF rfl T.n_isinstance (by decide +kernel) (pa_cons (pv 1) (pa_cons (pe_bltn (v := .ty "int") rfl T.n_int (by decide +kernel) rfl) pa_nil)))) (pss_one (ps_ret (pe_and (pe_callB call_isiF rfl T.n_isinstance (by decide +kernel) (pa_cons (pv 0) (pa_cons (pe_bltn (v := .ty "int") rfl T.n_int (by decide +kernel) rfl) pa_nil))) (pe_one (pe_cmpR op_eq (pv 0) (pv 1) (nomark _)))))) pss_nil) (pss_one (ps_ret (pe_and (pe_callB call_isiF rfl T.n_isinstance (by decide +kernel) (pa_cons (pv 0) (pa_cons (pe_bltn (v := .ty "str") rfl T.n_str (by decide +kernel) rfl) pa_nil))) (pe_one (pe_cmpR op_eq (pv 0) (pv 1) (nomark _)))))))))), ?_⟩
    clear nd
    obtain ⟨v, w, rfl, hA, q⟩ := h
    walk_at "rd"
    obtain ⟨rfl, sc⟩ := hA
    cases v with
    | non => walk_at "rd"; exact q _ (Same.refl _)
    | int i => walk_at "rd"; exact iteN (by simp) (q _ (Same.refl _))
    | str x => walk_at "rd"; exact iteN (by simp) (q _ (Same.refl _))
    | bl b => walk_at "rd"; exact iteN (by simp) (q _ (Same.refl _))
    | _ => cases sc

theorem ok_law_alikeS {P : Program} {w : World} {K : PySem.W.Frag} {mg : Str → Option Value} {base : Heap} {A : Ad} (T : Txt K mg A) {n : Nat} (G : FnOk P w K mg base CX0 (n + 1) A.a_law_alike A.d_law_alike ["_law_found", "_law_due_here"] (spAlike n)) : FnOk P w K mg base CX0 (n + 1 + 1) A.a_law_alike A.d_law_alike ["_law_found", "_law_due_here"] (spAlike (n + 1)) := by
  refine T.F_law_alike.ok sc_law_alike (fun vs H Q E h => ?_) (fun cdv A' outer s H vs Q E hr h => ?_)
  · exact len_alike h
  · have nd := sc_law_alike.nd
    have hu := hu_of hr
    refine ⟨_, (pss_cons (ps_if (pt_cmpR op_isN (pv 1) pe_non (nomark _)) (pss_one (ps_ret (pe_cmpR op_isN (pv 0) pe_non (nomark _)))) pss_nil) (pss_cons (ps_if (PW.pt (pw_or (pt_val (pe_callB call_isiF rfl T.n_isinstance (by decide +kernel) (pa_cons (pv 1) (pa_cons (pe_bltn (v := .ty "tuple") rfl T.n_tuple (by decide +kernel) rfl) pa_nil)))) (pw_or1 (pt_val (pe_callB call_isiF rfl T.n_isinstance (by decide +kernel) (pa_cons (pv 1) (pa_cons (pe_bltn (v := .ty "list") rfl T.n_list (by decide +kernel) rfl) pa_nil))))))) (pss_cons (ps_if (pt_cmpR op_ne (pe_callB call_isiF rfl T.n_isinstance (by decide +kernel) (pa_cons (pv 0) (pa_cons (pe_bltn (v := .ty "tuple") rfl T.n_tuple (by decide +kernel) rfl) pa_nil))) (pe_callB call_isiF rfl T.n_isinstance (by decide +kernel) (pa_cons (pv 1) (pa_cons (pe_bltn (v := .ty "tuple") rfl T.n_tuple (by decide +kernel) rfl) pa_nil))) (nomark _)) (pss_one (ps_ret pe_bl)) pss_nil) (pss_cons (ps_if (PW.pt (pw_or (pt_cmpR op_ne (pe_callB call_isiF rfl T.n_isinstance (by decide +kernel) (pa_cons (pv 0) (pa_cons (pe_bltn (v := .ty "list") rfl T.n_list (by decide +kernel) rfl) pa_nil))) (pe_callB call_isiF rfl T.n_isinstance (by decide +kernel) (pa_cons (pv 1) (pa_cons (pe_bltn (v := .ty "list") rfl T.n_list (by decide +kernel) rfl) pa_nil))) (nomark _)) (pw_or1 (pt_cmpR op_ne (pe_callB call_lenU rfl T.n_len PySem.boot_len (pa_cons (pv 0) pa_nil)) (pe_callB call_lenU rfl T.n_len PySem.boot_len (pa_cons (pv 1) pa_nil)) (nomark _))))) (pss_one (ps_ret pe_bl)) pss_nil) (pss_one (ps_ret (pe_callB (cr_all rfl) rfl T.n_all (by decide +kernel) (pa_cons (pe_lc (own := [("_law_k", 2)]) rfl nd (pi_range1 rfl T.n_range (pa_cons (pe_callB call_lenU rfl T.n_len PySem.boot_len (pa_cons (pv 1) pa_nil)) pa_nil)) (blkOk_by (own := [("_law_k", 2)]) (N := ["_law_found", "_law_due_here", "_law_k"]) (sc := defScope s_law_alike) (by decide +kernel)) (fun _ _ _ _ _ => (pg_name (i := 2) nd rfl (Or.inl rfl))) (fun _ _ _ _ _ => pts_nil) (fun _ _ _ _ _ => (pe_call G (hr.mono (Nat.le_refl _)) rfl T.m_law_alike T.F_law_alike.kp T.b_law_alike .nil pass0 (pa_cons (pe_ix (ix_seqK K rfl) (pv 0) (pv 2) (fun _ _ => rfl)) (pa_cons (pe_ix (ix_seqK K rfl) (pv 1) (pv 2) (fun _ _ => rfl)) pa_nil))))) pa_nil)))))) pss_nil) (pss_cons (ps_if (PW.pt (pw_or (pt_val (pe_callB call_isiF rfl T.n_isinstance (by decide +kernel) (pa_cons (pv 1) (pa_cons (pe_bltn (v := .ty "bool") rfl T.n_bool (by decide +kernel) rfl) pa_nil)))) (pw_or1 (pt_val (pe_callB call_isiF rfl T.n_isinstance (by decide +kernel) (pa_cons (pv 0) (pa_cons (pe_bltn (v := .ty "bool") rfl T.n_bool (by decide +kernel) rfl) pa_nil))))))) (pss_one (ps_ret (pe_and (pe_callB call_isiF rfl T.n_isinstance (by decide +kernel) (pa_cons (pv 1) (pa_cons (pe_bltn (v := .ty "bool") rfl T.n_bool (by decide +kernel) rfl) pa_nil))) (pe_and (pe_callB call_isiF rfl T.n_isinstance (by decide +kernel) (pa_cons (pv 0) (pa_cons (pe_bltn (v := .ty "bool") rfl T.n_bool (by decide +kernel) rfl) pa_nil))) (pe_one (pe_cmpR op_eq (pv 0) (pv 1) (nomark _))))))) pss_nil) (pss_cons (ps_if (pt_val (pe_callB call_isiF rfl T.n_isinstance (by decide +kernel) (pa_cons (pv 1) (pa_cons (pe_bltn (v := .ty "int") rfl T.n_int (by decide +kernel) rfl) pa_nil)))) (pss_one (ps_ret (pe_and (pe_callB call_isiF rfl T.n_isinstance (by decide +kernel) (pa_cons (pv 0) (pa_cons (pe_bltn (v := .ty "int") rfl T.n_int (by decide +kernel) rfl) pa_nil))) (pe_one (pe_cmpR op_eq (pv 0) (pv 1) (nomark _)))))) pss_nil) (pss_one (ps_ret (pe_and (pe_callB call_isiF rfl T.n_isinstance (by decide +kernel) (pa_cons (pv 0) (pa_cons (pe_bltn (v := .ty "str") rfl T.n_str (by decide +kernel) rfl) pa_nil))) (pe_one (pe_cmpR op_eq (pv 0) (pv 1) (nomark _)))))))))), ?_⟩
    clear nd
    obtain ⟨v, w, rfl, hA, q⟩ := h
    walk_at "rd"
    rcases hA with ⟨rfl, sc⟩ | ⟨a, b, xs, ys, rfl, rfl, (⟨ha, hb⟩ | ⟨ha, hb⟩), e1, e2, e3⟩
    · cases v with
      | non => walk_at "rd"; exact q _ (Same.refl _)
      | int i => walk_at "rd"; exact iteN (by simp) (q _ (Same.refl _))
      | str x => walk_at "rd"; exact iteN (by simp) (q _ (Same.refl _))
      | bl b => walk_at "rd"; exact iteN (by simp) (q _ (Same.refl _))
      | _ => cases sc
    · refine iteN (by simp) ?_
      simp only [isi_tup_tuple ha, isi_tup_tuple hb, isi_tup_list ha, isi_tup_list hb]
      walk_at "rd"
      refine ⟨_, .inr (SqT.of ha), _, .inr (SqT.of hb), iteN (by omega) ⟨_, .inr (SqT.of hb), ⟨by omega, by omega⟩, fun D hD => ?_⟩⟩
      refine go_lct (walk_range (n := ys.length)) (by rw [sizeLine_eq]; omega) hD (fun _ _ => trivial) ?_ (fun H s hl => all_true hl (q _ s)) gName_mono
      rintro N i x H4 H5 hi s4 ⟨rfl, rfl⟩ hN
      walk_at "rd"
      obtain ⟨x1, h1, a1⟩ := at_any (xs := xs) (c := (i : Nat)) (by omega) (by omega)
      obtain ⟨y1, h2, a2⟩ := at_any (xs := ys) (c := (i : Nat)) (by omega) (by omega)
      rw [Int.toNat_natCast] at h1 h2
      refine ⟨_, _, .inr (SqT.of (s4 _ _ ha)), a1, _, _, .inr (SqT.of (s4 _ _ hb)), a2, x1, y1, rfl, (e3 i x1 y1 h1 h2).same s4, fun H7 s7 => hN _ s7⟩
    · refine iteN (by simp) ?_
      simp only [isi_lst_tuple ha, isi_lst_tuple hb, isi_lst_list ha, isi_lst_list hb]
      walk_at "rd"
      refine ⟨_, .inl (SqL.of ha), _, .inl (SqL.of hb), iteN (by omega) ⟨_, .inl (SqL.of hb), ⟨by omega, by omega⟩, fun D hD => ?_⟩⟩
      refine go_lct (walk_range (n := ys.length)) (by rw [sizeLine_eq]; omega) hD (fun _ _ => trivial) ?_ (fun H s hl => all_true hl (q _ s)) gName_mono
      rintro N i x H4 H5 hi s4 ⟨rfl, rfl⟩ hN
      walk_at "rd"
      obtain ⟨x1, h1, a1⟩ := at_any (xs := xs) (c := (i : Nat)) (by omega) (by omega)
      obtain ⟨y1, h2, a2⟩ := at_any (xs := ys) (c := (i : Nat)) (by omega) (by omega)
      rw [Int.toNat_natCast] at h1 h2
      refine ⟨_, _, .inl (SqL.of (s4 _ _ ha)), a1, _, _, .inl (SqL.of (s4 _ _ hb)), a2, x1, y1, rfl, (e3 i x1 y1 h1 h2).same s4, fun H7 s7 => hN _ s7⟩
theorem ok_law_alike {P : Program} {w : World} {K : PySem.W.Frag} {mg : Str → Option Value} {base : Heap} {A : Ad} (T : Txt K mg A) : ∀ n : Nat, FnOk P w K mg base CX0 (n + 1) A.a_law_alike A.d_law_alike ["_law_found", "_law_due_here"] (spAlike n)
  | 0 => ok_law_alike0 T
  | n + 1 => ok_law_alikeS T (ok_law_alike T n)

end Law
namespace Law
open PySem PySem.Spec PyProof.Rows L2 My
theorem sc_is_within : FnScope ["thing", "deep", "part"] ["thing", "deep"] (defScope s_is_within) := ⟨rfl, rfl, rfl, by decide +kernel, rfl, by decide +kernel, by decide +kernel⟩
theorem ok_is_within0 {P : Program} {w : World} {K : PySem.W.Frag} {mg : Str → Option Value} {base : Heap} {A : Ad} (T : Txt K mg A) : FnOk P w K mg base CX0 1 A.a_is_within A.d_is_within ["thing", "deep"] (spWithin 0) := by
  refine T.F_is_within.ok sc_is_within (fun vs H Q E h => ?_) (fun cdv A' outer s H vs Q E hr h => ?_)
  · exact len_within h
  · have nd := sc_is_within.nd
    have hu := hu_of hr
    refine ⟨_, (pss_cons (ps_if (pt_val (pe_callB call_isiF rfl T.n_isinstance (by decide +kernel) (pa_cons (pv 0) (pa_cons (pe_bltn (v := .ty "bool") rfl T.n_bool (by decide +kernel) rfl) pa_nil)))) (pss_one (ps_ret pe_bl)) pss_nil) (pss_cons (ps_if (pt_val (pe_callB call_isiF rfl T.n_isinstance (by decide +kernel) (pa_cons (pv 0) (pa_cons (pe_bltn (v := .ty "int") rfl T.n_int (by decide +kernel) rfl) pa_nil)))) (pss_one (ps_ret (pe_chain op_lt op_lt (pe_un un_neg (pe_glob (v := .int 1000000000000000000000000000000000000000000000000000000000000) rfl T.g_FAR ⟨_, rfl⟩)) (pv 0) (pe_glob (v := .int 1000000000000000000000000000000000000000000000000000000000000) rfl T.g_FAR ⟨_, rfl⟩)))) pss_nil) (pss_cons (ps_if (pt_val (pe_callB call_isiF rfl T.n_isinstance (by decide +kernel) (pa_cons (pv 0) (pa_cons (pe_bltn (v := .ty "str") rfl T.n_str (by decide +kernel) rfl) pa_nil)))) (pss_one (ps_ret (pe_cmpR op_le (pe_callB call_lenU rfl T.n_len PySem.boot_len (pa_cons (pv 0) pa_nil)) (pe_glob (v := .int 60) rfl T.g_MOST_SIGNS ⟨_, rfl⟩) (nomark _)))) pss_nil) (pss_cons (ps_if (PW.pt (pw_or (pt_not (pt_val (pe_callB call_isiF rfl T.n_isinstance (by decide +kernel) (pa_cons (pv 0) (pa_cons (pe_bltn (v := .ty "tuple") rfl T.n_tuple (by decide +kernel) rfl) pa_nil))))) (pw_or (pt_cmpR op_eq (pv 1) pe_int (nomark _)) (pw_or1 (pt_cmpR op_gt (pe_callB call_lenU rfl T.n_len PySem.boot_len (pa_cons (pv 0) pa_nil)) (pe_glob (v := .int 6) rfl T.g_MOST_PARTS ⟨_, rfl⟩) (nomark _)))))) (pss_one (ps_ret pe_bl)) pss_nil) pss_never)))), ?_⟩
    clear nd
    obtain ⟨v, y, d, rfl, hk, hd, k⟩ := h
    cases hk with
    | num i =>
      walk_at "rd"
      simp only [within] at k
      refine iteB (fun c => ?_) fun c => ?_
      · rw [show decide (-(10 : Int) ^ 60 < i ∧ i < 10 ^ 60) = decide (i < 1000000000000000000000000000000000000000000000000000000000000) from by
          rw [decide_eq_decide]
          exact ⟨fun h => by omega, fun h => by omega⟩] at k
        exact k
      · rw [decide_eq_false (by omega)] at k
        exact k
    | txt x =>
      walk_at "rd"
      simp only [within] at k
      refine ⟨by have := hd.1; simp only [Ky.fit] at this; rw [sizeLine_eq]; exact of_decide_eq_true this, ?_⟩
      rw [show decide (x.length ≤ 60) = decide ((x.length : Int) ≤ 60) from by
        rw [decide_eq_decide]
        omega] at k
      exact k
    | bl b => walk_at "rd"; simpa [within] using k
    | non => walk_at "rd"; simpa [within] using k
    | lst h => walk_at "rd"; simp only [isi_lst_bool h, isi_lst_int h, isi_lst_str h, isi_lst_tuple h]; walk_at "rd"; simpa [within] using k
    | dct h => walk_at "rd"; simp only [isi_dK_bool h, isi_dK_int h, isi_dK_str h, isi_dK_tuple h]; walk_at "rd"; simpa [within] using k
    | tup h p =>
      have e : d = 0 := by omega
      subst e
      walk_at "rd"
      simp only [isi_tup_bool h, isi_tup_int h, isi_tup_str h, isi_tup_tuple h]
      walk_at "rd"
      simp only [within] at k
      exact k
theorem ok_is_withinS {P : Program} {w : World} {K : PySem.W.Frag} {mg : Str → Option Value} {base : Heap} {A : Ad} (T : Txt K mg A) {n : Nat} (G : FnOk P w K mg base CX0 (n + 1) A.a_is_within A.d_is_within ["thing", "deep"] (spWithin n)) : FnOk P w K mg base CX0 (n + 1 + 1) A.a_is_within A.d_is_within ["thing", "deep"] (spWithin (n + 1)) := by
  refine T.F_is_within.ok sc_is_within (fun vs H Q E h => ?_) (fun cdv A' outer s H vs Q E hr h => ?_)
  · exact len_within h
  · have nd := sc_is_within.nd
    have hu := hu_of hr
    refine ⟨_, (pss_cons (ps_if (pt_val (pe_callB call_isiF rfl T.n_isinstance (by decide +kernel) (pa_cons (pv 0) (pa_cons (pe_bltn (v := .ty "bool") rfl T.n_bool (by decide +kernel) rfl) pa_nil)))) (pss_one (ps_ret pe_bl)) pss_nil) (pss_cons (ps_if (pt_val (pe_callB call_isiF rfl T.n_isinstance (by decide +kernel) (pa_cons (pv 0) (pa_cons (pe_bltn (v := .ty "int") rfl T.n_int (by decide +kernel) rfl) pa_nil)))) (pss_one (ps_ret (pe_chain op_lt op_lt (pe_un un_neg (pe_glob (v := .int 1000000000000000000000000000000000000000000000000000000000000) rfl T.g_FAR ⟨_, rfl⟩)) (pv 0) (pe_glob (v := .int 1000000000000000000000000000000000000000000000000000000000000) rfl T.g_FAR ⟨_, rfl⟩)))) pss_nil) (pss_cons (ps_if (pt_val (pe_callB call_isiF rfl T.n_isinstance (by decide +kernel) (pa_cons (pv 0) (pa_cons (pe_bltn (v := .ty "str") rfl T.n_str (by decide +kernel) rfl) pa_nil)))) (pss_one (ps_ret (pe_cmpR op_le (pe_callB call_lenU rfl T.n_len PySem.boot_len (pa_cons (pv 0) pa_nil)) (pe_glob (v := .int 60) rfl T.g_MOST_SIGNS ⟨_, rfl⟩) (nomark _)))) pss_nil) (pss_cons (ps_if (PW.pt (pw_or (pt_not (pt_val (pe_callB call_isiF rfl T.n_isinstance (by decide +kernel) (pa_cons (pv 0) (pa_cons (pe_bltn (v := .ty "tuple") rfl T.n_tuple (by decide +kernel) rfl) pa_nil))))) (pw_or (pt_cmpR op_eq (pv 1) pe_int (nomark _)) (pw_or1 (pt_cmpR op_gt (pe_callB call_lenU rfl T.n_len PySem.boot_len (pa_cons (pv 0) pa_nil)) (pe_glob (v := .int 6) rfl T.g_MOST_PARTS ⟨_, rfl⟩) (nomark _)))))) (pss_one (ps_ret pe_bl)) pss_nil) (pss_cons (ps_for PassesOwn.never rfl (pi_tup (pv 0)) (pg_name (i := 2) nd rfl (Or.inl rfl)) (pss_one (ps_if (pt_not (pt_val (pe_call G hr rfl T.m_is_within T.F_is_within.kp T.b_is_within .nil pass0 (pa_cons (pv 2) (pa_cons (pe_op op_sub (pv 1) pe_int) pa_nil))))) (pss_one (ps_ret pe_bl)) pss_nil))) (pss_one (ps_ret pe_bl))))))), ?_⟩
    clear nd
    obtain ⟨v, y, d, rfl, hk, hd, k⟩ := h
    cases hk with
    | num i =>
      walk_at "rd"
      simp only [within] at k
      refine iteB (fun c => ?_) fun c => ?_
      · rw [show decide (-(10 : Int) ^ 60 < i ∧ i < 10 ^ 60) = decide (i < 1000000000000000000000000000000000000000000000000000000000000) from by
          rw [decide_eq_decide]
          exact ⟨fun h => by omega, fun h => by omega⟩] at k
        exact k
      · rw [decide_eq_false (by omega)] at k
        exact k
    | txt x =>
      walk_at "rd"
      simp only [within] at k
      refine ⟨by have := hd.1; simp only [Ky.fit] at this; rw [sizeLine_eq]; exact of_decide_eq_true this, ?_⟩
      rw [show decide (x.length ≤ 60) = decide ((x.length : Int) ≤ 60) from by
        rw [decide_eq_decide]
        omega] at k
      exact k
    | bl b => walk_at "rd"; simpa [within] using k
    | non => walk_at "rd"; simpa [within] using k
    | lst h => walk_at "rd"; simp only [isi_lst_bool h, isi_lst_int h, isi_lst_str h, isi_lst_tuple h]; walk_at "rd"; simpa [within] using k
    | dct h => walk_at "rd"; simp only [isi_dK_bool h, isi_dK_int h, isi_dK_str h, isi_dK_tuple h]; walk_at "rd"; simpa [within] using k
    | @tup a xs ks h p =>
      walk_at "rd"
      simp only [isi_tup_bool h, isi_tup_int h, isi_tup_str h, isi_tup_tuple h]
      walk_at "rd"
      have kf : Ky.fits ks = true := by simpa [Ky.fit] using hd.1
      cases d with
      | zero =>
        simp only [within] at k
        exact iteP rfl k
      | succ d =>
        simp only [within] at k
        refine iteN (by omega) ⟨_, .inr (SqT.of h), ?_⟩
        rw [p.len]
        refine iteB (fun c => ?_) fun c => ⟨⟨_, SqT.of h⟩, go_tup (fun i σ H' => ∃ v2, σ = [some (.ref a), some (.int ((d + 1 : Nat) : Int)), v2] ∧ H' = H ∧ (ks.take i).all (within d) = true) ⟨_, rfl, rfl, rfl⟩ (fun i σ H' _ ⟨_, _, e, _⟩ => by rw [e]; exact SqT.of h) ?_ ?_⟩
        · rw [decide_eq_false (by omega), Bool.false_and] at k
          exact k
        · rintro N i x σ H' hx ⟨v2, rfl, rfl, hi⟩ hN
          obtain ⟨y, hy, hv⟩ := p.get hx
          walk_at "rd"
          refine ⟨x, y, d, by rw [show (((d + 1 : Nat) : Int) - 1) = (d : Int) by omega], hv, ⟨fits_get kf hy, by have := hd.2; omega⟩, ?_⟩
          obtain ⟨hi1, e1⟩ := List.getElem?_eq_some_iff.mp hy
          have et : (ks.take (i + 1)).all (within d) = within d y := by
            rw [List.take_succ_eq_append_getElem hi1, List.all_append, hi, e1]
            simp
          walk_at "rd"
          refine iteB (fun c2 => ?_) fun c2 => hN _ _ ⟨_, rfl, rfl, ?_⟩
          · have ef : ks.all (within d) = false := by
              rw [List.all_eq_false]
              exact ⟨y, List.mem_of_getElem? hy, by simp [c2]⟩
            rw [ef, Bool.and_false] at k
            exact k
          · rw [et]
            simpa using c2
        · rintro σ H' ⟨v2, rfl, rfl, hi⟩
          walk_at "rd"
          rw [p.len, List.take_length] at hi
          rw [hi, decide_eq_true (by omega), Bool.and_true] at k
          exact k
theorem ok_is_within {P : Program} {w : World} {K : PySem.W.Frag} {mg : Str → Option Value} {base : Heap} {A : Ad} (T : Txt K mg A) : ∀ n : Nat, FnOk P w K mg base CX0 (n + 1) A.a_is_within A.d_is_within ["thing", "deep"] (spWithin n)
  | 0 => ok_is_within0 T
  | n + 1 => ok_is_withinS T (ok_is_within T n)
theorem sc_is_key : FnScope ["thing"] ["thing"] (defScope s_is_key) := ⟨rfl, rfl, rfl, by decide +kernel, rfl, by decide +kernel, by decide +kernel⟩
theorem ok_is_key {P : Program} {w : World} {K : PySem.W.Frag} {mg : Str → Option Value} {base : Heap} {A : Ad} (T : Txt K mg A) : FnOk P w K mg base CX0 5 A.a_is_key A.d_is_key ["thing"] spKeyB := by
  refine T.F_is_key.ok sc_is_key (fun vs H Q E h => ?_) (fun cdv A' outer s H vs Q E hr h => ?_)
  · exact len_keyB h
  · have nd := sc_is_key.nd
    have hu := hu_of hr
    refine ⟨_, (pss_one (ps_ret (pe_call (ok_is_within T 3) (hr.mono (by decide)) rfl T.m_is_within T.F_is_within.kp T.b_is_within .nil pass0 (pa_cons (pv 0) (pa_cons (pe_glob (v := .int 3) rfl T.g_DEEPEST ⟨_, rfl⟩) pa_nil))))), ?_⟩
    clear nd
    obtain ⟨v, y, rfl, hk, hd, k⟩ := h
    walk_at "rd"
    exact ⟨v, y, 3, rfl, hk, ⟨hd, Nat.le_refl _⟩, k⟩
theorem sc_is_size : FnScope ["thing"] ["thing"] (defScope s_is_size) := ⟨rfl, rfl, rfl, by decide +kernel, rfl, by decide +kernel, by decide +kernel⟩
theorem ok_is_size {P : Program} {w : World} {K : PySem.W.Frag} {mg : Str → Option Value} {base : Heap} {A : Ad} (T : Txt K mg A) : FnOk P w K mg base CX0 1 A.a_is_size A.d_is_size ["thing"] (spI1 (fun _ => True) fun n => .bl (sizeB n)) := by
  refine T.F_is_size.ok sc_is_size (fun vs H Q E h => ?_) (fun cdv A' outer s H vs Q E hr h => ?_)
  · walk_at "spl"
  · have nd := sc_is_size.nd
    have hu := hu_of hr
    refine ⟨_, (pss_cons (ps_if (PW.pt (pw_or (pt_not (pt_val (pe_callB call_isiF rfl T.n_isinstance (by decide +kernel) (pa_cons (pv 0) (pa_cons (pe_bltn (v := .ty "int") rfl T.n_int (by decide +kernel) rfl) pa_nil))))) (pw_or1 (pt_val (pe_callB call_isiF rfl T.n_isinstance (by decide +kernel) (pa_cons (pv 0) (pa_cons (pe_bltn (v := .ty "bool") rfl T.n_bool (by decide +kernel) rfl) pa_nil))))))) (pss_one (ps_ret pe_bl)) pss_nil) (pss_one (ps_ret (pe_and (pe_chain op_le op_le (pe_glob (v := .int 8) rfl T.g_LEAST ⟨_, rfl⟩) (pv 0) (pe_glob (v := .int 4096) rfl T.g_GREATEST ⟨_, rfl⟩)) (pe_one (pe_cmpR op_eq (pe_op op_and (pv 0) (pe_op op_sub (pv 0) pe_int)) pe_int (nomark _))))))), ?_⟩
    clear nd
    obtain ⟨n, rfl, -, k⟩ := h
    walk_at "rd"
    have e : ∀ b : Bool, b = sizeB n → Q (.bl b) H := fun b h => by rw [h]; exact k
    refine iteB (fun c1 => iteB (fun c2 => e _ ?_) fun c2 => e _ ?_) fun c1 => e _ ?_
    · unfold sizeB
      rw [decide_eq_true (show 8 ≤ n ∧ n ≤ 4096 from ⟨c1, c2⟩), Bool.true_and]
    · unfold sizeB
      rw [decide_eq_false (show ¬(8 ≤ n ∧ n ≤ 4096) from fun c => c2 c.2), Bool.false_and]
    · unfold sizeB
      rw [decide_eq_false (show ¬(8 ≤ n ∧ n ≤ 4096) from fun c => c1 c.1), Bool.false_and]
theorem sc_room : FnScope ["size"] ["size"] (defScope s_room) := ⟨rfl, rfl, rfl, by decide +kernel, rfl, by decide +kernel, by decide +kernel⟩
theorem ok_room {P : Program} {w : World} {K : PySem.W.Frag} {mg : Str → Option Value} {base : Heap} {A : Ad} (T : Txt K mg A) : FnOk P w K mg base CX0 1 A.a_room A.d_room ["size"] (spI1 (fun _ => True) fun n => .int (2 * n / 3)) := by
  refine T.F_room.ok sc_room (fun vs H Q E h => ?_) (fun cdv A' outer s H vs Q E hr h => ?_)
  · walk_at "spl"
  · have nd := sc_room.nd
    have hu := hu_of hr
    refine ⟨_, (pss_one (ps_ret (pe_op op_fdivW (pe_op op_mulX pe_int (pv 0)) pe_int))), ?_⟩
    clear nd
    obtain ⟨n, rfl, -, k⟩ := h
    walk_at "rd"
    exact ⟨by walk_at "side", by walk_at "side", k⟩
theorem sc_first_bare : FnScope ["cells", "key", "mark", "slot", "count"] ["cells", "key"] (defScope s_first_bare) := ⟨rfl, rfl, rfl, by decide +kernel, rfl, by decide +kernel, by decide +kernel⟩
theorem ok_first_bare {P : Program} {w : World} {K : PySem.W.Frag} {mg : Str → Option Value} {base : Heap} {A : Ad} (T : Txt K mg A) : FnOk P w K mg base CX0 5 A.a_first_bare A.d_first_bare ["cells", "key"] (spBare K) := by
  refine T.F_first_bare.ok sc_first_bare (fun vs H Q E h => ?_) (fun cdv A' outer s H vs Q E hr h => ?_)
  · walk_at "spl"
  · have nd := sc_first_bare.nd
    have hu := hu_of hr
    refine ⟨_, (pss_cons (ps_set (i := 2) nd rfl (Or.inl rfl) (pe_call (ok_stamp T 3) (hr.mono (by decide)) rfl T.m_stamp T.F_stamp.kp T.b_stamp .nil pass0 (pa_cons (pv 1) pa_nil))) (pss_cons (ps_set (i := 3) nd rfl (Or.inl rfl) (pe_call (ok_probe T) (hr.mono (by decide)) rfl T.m_probe T.F_probe.kp T.b_probe .nil pass0 (pa_cons (pv 2) (pa_cons (pe_callB call_lenU rfl T.n_len PySem.boot_len (pa_cons (pv 0) pa_nil)) (pa_cons pe_int pa_nil))))) (pss_cons (ps_set (i := 4) nd rfl (Or.inl rfl) pe_int) (pss_cons (ps_while PassesOwn.never (pt_cmpR op_ne (pe_ix ix_list (pv 0) (pv 3) (fun _ _ => rfl)) (pe_glob (v := .int (-1)) rfl T.g_EMPTY ⟨_, rfl⟩) (nomark _)) (pss_cons (ps_aug (i := 4) nd rfl (Or.inl rfl) pe_int ip_add) (pss_one (ps_set (i := 3) nd rfl (Or.inl rfl) (pe_call (ok_probe T) (hr.mono (by decide)) rfl T.m_probe T.F_probe.kp T.b_probe .nil pass0 (pa_cons (pv 2) (pa_cons (pe_callB call_lenU rfl T.n_len PySem.boot_len (pa_cons (pv 0) pa_nil)) (pa_cons (pv 4) pa_nil)))))))) (pss_one (ps_ret (pv 3))))))), ?_⟩
    clear nd
    obtain ⟨a, v, cs, y, j, rfl, hS, hy, hg, ⟨hl, hj, hm⟩, k⟩ := h
    walk_at "rd"
    have hb := bare_ex y.stamp hj hl hm
    refine ⟨y, hy, hg, _, .inl hS, ?_⟩
    rw [List.length_map, hl, pow_cast]
    refine go_while (fun σ H' => ∃ c : Nat, σ = [some (.ref a), some v, some (.int y.stamp), some (.int (probeF y.stamp (2 ^ j) (c : Int))), some (.int c)] ∧ H' = H ∧ c ≤ bareN cs j y.stamp) (fun σ _ => match σ with | [_, _, _, _, some (.int c)] => bareN cs j y.stamp - c.toNat | _ => 0) ⟨0, rfl, rfl, Nat.zero_le _⟩ ?_
    rintro B σ H' ⟨c, rfl, rfl, hc⟩ hB
    obtain ⟨r0, r1⟩ := probe_range y.stamp c hj
    have pc := pow_cast j
    walk_at "rd"
    refine ⟨_, _, hS, at_int r0 (by omega), ?_⟩
    walk_at "rd"
    refine iteB (fun c1 => ?_) fun c1 => ?_
    · refine hB _ fun N hN => ?_
      walk_at "rd"
      have hlt : c < bareN cs j y.stamp := by
        rcases Nat.lt_or_ge c (bareN cs j y.stamp) with h | h
        · exact h
        · have e : c = bareN cs j y.stamp := by omega
          rw [e] at c1
          exact absurd hb.2.1 c1
      have hb1 := hb.1
      have j12 := (pow_le hj).2
      refine ⟨_, .inl hS, ?_⟩
      rw [List.length_map, hl, pow_cast]
      refine ⟨⟨by omega, ?_⟩, hN _ _ ⟨c + 1, by rw [Int.natCast_add]; rfl, rfl, by omega⟩ ?_⟩
      · simp at j12
        omega
      · dsimp only
        omega
    · have e : c = bareN cs j y.stamp := Bare.uniq ⟨by have := hb.1; omega, by simpa using c1, fun i hi => hb.2.2 i (by omega)⟩ hb
      rw [e]
      exact k
theorem sc_cells_of : FnScope ["row", "size", "cells", "place", "key"] ["row", "size"] (defScope s_cells_of) := ⟨rfl, rfl, rfl, by decide +kernel, rfl, by decide +kernel, by decide +kernel⟩
theorem ok_cells_of {P : Program} {w : World} {K : PySem.W.Frag} {mg : Str → Option Value} {base : Heap} {A : Ad} (T : Txt K mg A) : FnOk P w K mg base CX0 6 A.a_cells_of A.d_cells_of ["row", "size"] (spCellsOf K) := by
  refine T.F_cells_of.ok sc_cells_of (fun vs H Q E h => ?_) (fun cdv A' outer s H vs Q E hr h => ?_)
  · walk_at "spl"
  · have nd := sc_cells_of.nd
    have hu := hu_of hr
    refine ⟨_, (pss_cons (ps_if (pt_not (pt_val (pe_call (ok_is_size T) (hr.mono (by decide)) rfl T.m_is_size T.F_is_size.kp T.b_is_size .nil pass0 (pa_cons (pv 1) pa_nil)))) (pss_one ps_never) pss_nil) (pss_cons (ps_if (pt_cmpR op_gt (pe_callB call_lenU rfl T.n_len PySem.boot_len (pa_cons (pv 0) pa_nil)) (pe_call (ok_room T) (hr.mono (by decide)) rfl T.m_room T.F_room.kp T.b_room .nil pass0 (pa_cons (pv 1) pa_nil)) (nomark _)) (pss_one ps_never) pss_nil) (pss_cons (ps_set (i := 2) nd rfl (Or.inl rfl) (pe_op op_rep (pe_lst (pa_cons (pe_glob (v := .int (-1)) rfl T.g_EMPTY ⟨_, rfl⟩) pa_nil)) (pv 1))) (pss_cons (ps_for PassesOwn.never rfl (pi_enum rfl T.n_enumerate (pa_cons (pv 0) pa_nil)) (pg_tup (n := 2) rfl (pgs_cons (pg_name (i := 3) nd rfl (Or.inl rfl)) (pgs_cons (pg_name (i := 4) nd rfl (Or.inl rfl)) pgs_nil))) (pss_one (ps_if (pt_cmpR op_notN (pv 4) pe_non (nomark _)) (pss_one (ps_asg (pv 3) (pg_sub (pv 2) (pe_call (ok_first_bare T) (hr.mono (by decide)) rfl T.m_first_bare T.F_first_bare.kp T.b_first_bare .nil pass0 (pa_cons (pv 2) (pa_cons (pv 4) pa_nil))) set_list))) pss_nil))) (pss_one (ps_ret (pv 2))))))), ?_⟩
    clear nd
    obtain ⟨a, ws, ks, j, rfl, hS, hks, hR, ⟨hj3, hj, hn⟩, k⟩ := h
    walk_at "rd"
    have hw := KysAt.len hks
    obtain ⟨p0, p1⟩ := pow_le hj
    have pc := pow_cast j
    have hz : ks.length < 2 ^ j := by omega
    rw [sizeB_pow hj3 hj]
    walk_at "rd"
    refine ⟨_, .inl hS, iteN (by omega) ⟨by walk_at "sz", fun p hp => ⟨_, upd_same, by omega, by simp at p1; omega, ?_, fun q hq => ⟨⟨_, by walk_at "sq"⟩, ?_⟩⟩⟩⟩
    · rw [sizeLine_eq]; simp at p1; simp only [List.length_cons, List.length_nil]; omega
    have e0 : (List.replicate (2 ^ j : Int).toNat [V.int (-1)]).flatten = (layN j ks 0).map V.int := by
      rw [← pc, Int.toNat_natCast, layN, List.map_replicate]
      generalize 2 ^ j = n
      induction n with
      | zero => rfl
      | succ n ih => rw [List.replicate_succ, List.flatten_cons, ih]; rfl
    rw [e0]
    have hla : ∀ i : Nat, i ≤ ks.length → Laid ks j i (layN j ks i) := laid_at hj hz
    refine go_enum (xs := ws) (fun i σ H' => ∃ v3 v4, σ = [some (.ref a), some (.int (2 ^ j)), some (.ref q), v3, v4] ∧ Same H H' ∧ H' q = some (.lst ((layN j ks i).map V.int))) ⟨_, _, rfl, by walk_at "same", upd_same⟩ (fun i σ H' _ ⟨_, _, _, s, _⟩ => s.seq hS) ?_ ?_
    · rintro N i x σ H' T hx ⟨v3, v4, rfl, sm, hL⟩ hT hN
      obtain ⟨y, hy, hv⟩ := hks.get hx
      have hv' : KyAt H' x y := hv.same sm _ _
      have hi : i < ks.length := (List.getElem?_eq_some_iff.mp hy).1
      have es := layN_step (j := j) hy
      walk_at "rd"
      refine ⟨_, SqT.of upd_same, rfl, ?_⟩
      walk_at "rd"
      have sT : Same H (upd H' T (.tup [V.int i, x])) := Same_upd sm hT
      have hLT : upd H' T (.tup [V.int i, x]) q = some (.lst ((layN j ks i).map V.int)) := Same_upd (Same.refl _) hT _ _ hL
      have hvT : KyAt (upd H' T (.tup [V.int i, x])) x y := hv.same sT _ _
      generalize upd H' T (.tup [V.int i, x]) = H3 at sT hLT hvT ⊢
      refine iteB (fun c => ?_) fun c => ?_
      · have yn : y ≠ .non := fun e => c (hv.ne_non.mpr e)
        have yk := (hR.get hy).resolve_left yn
        have L := hla i (by omega)
        refine ⟨_, y, j, SqL.of hLT, hvT, ⟨yk.g, yk.d⟩, ⟨L.len, hj, L.mem (by omega)⟩, ?_⟩
        obtain ⟨r0, r1⟩ := probe_range y.stamp (bareN (layN j ks i) j y.stamp) hj
        have hlen := L.len
        refine ⟨_, _, hLT, ixN_nat r0 (by rw [List.length_map, hlen]; omega), hN _ _ ⟨_, _, rfl, Same_upd0 sT (Same_fresh (Same_upd (Same.refl _) hp) hq), ?_⟩⟩
        rw [upd_same, es]
        unfold layS
        rw [if_neg yn, List.map_set]
      · have yn : y = .non := hv.ne_non.mp (by simpa using c)
        refine hN _ _ ⟨_, _, rfl, sT, ?_⟩
        rw [es]
        unfold layS
        rw [if_pos yn]
        exact hLT
    · rintro σ H' ⟨v3, v4, rfl, sm, hL⟩
      walk_at "rd"
      rw [hw] at hL
      exact k q H' sm (Same_fresh (Same_upd (Same.refl _) hp) hq) hL

end Law
namespace Law
open PySem PySem.Spec PyProof.Rows L2 My
theorem sc_paper : FnScope ["cells", "row", "key", "mark", "found", "count", "slot", "cell"] ["cells", "row", "key"] (defScope s_paper) := ⟨rfl, rfl, rfl, by decide +kernel, rfl, by decide +kernel, by decide +kernel⟩
theorem ok_paper {P : Program} {w : World} {K : PySem.W.Frag} {mg : Str → Option Value} {base : Heap} {A : Ad} (T : Txt K mg A) : FnOk P w K mg base CX0 5 A.a_paper A.d_paper ["cells", "row", "key"] (spPaper K) := by
  refine T.F_paper.ok sc_paper (fun vs H Q E h => ?_) (fun cdv A' outer s H vs Q E hr h => ?_)
  · walk_at "spl"
  · have nd := sc_paper.nd
    have hu := hu_of hr
    refine ⟨_, (pss_cons (ps_set (i := 3) nd rfl (Or.inl rfl) (pe_call (ok_stamp T 3) (hr.mono (by decide)) rfl T.m_stamp T.F_stamp.kp T.b_stamp .nil pass0 (pa_cons (pv 2) pa_nil))) (pss_cons (ps_set (i := 4) nd rfl (Or.inl rfl) (pe_lst pa_nil)) (pss_cons (ps_for PassesOwn.never rfl (pi_range1 rfl T.n_range (pa_cons (pe_callB call_lenU rfl T.n_len PySem.boot_len (pa_cons (pv 0) pa_nil)) pa_nil)) (pg_name (i := 5) nd rfl (Or.inl rfl)) (pss_cons (ps_set (i := 6) nd rfl (Or.inl rfl) (pe_call (ok_probe T) (hr.mono (by decide)) rfl T.m_probe T.F_probe.kp T.b_probe .nil pass0 (pa_cons (pv 3) (pa_cons (pe_callB call_lenU rfl T.n_len PySem.boot_len (pa_cons (pv 0) pa_nil)) (pa_cons (pv 5) pa_nil))))) (pss_cons (ps_set (i := 7) nd rfl (Or.inl rfl) (pe_ix ix_list (pv 0) (pv 6) (fun _ _ => rfl))) (pss_cons (ps_expr (pe_bm PySem.F.plainAttrs_list PySem.F.slot_list_append PySem.F.type_list_append mt_append (pv 4) (pa_cons (pe_tup (pa_cons (pv 6) (pa_cons (pv 7) pa_nil))) pa_nil))) (pss_cons (ps_if (pt_cmpR op_eq (pv 7) (pe_glob (v := .int (-1)) rfl T.g_EMPTY ⟨_, rfl⟩) (nomark _)) (pss_one ps_break) pss_nil) (pss_one (ps_if (PW.pt (pw_and (pt_cmpR op_ne (pv 7) (pe_glob (v := .int (-2)) rfl T.g_GONE ⟨_, rfl⟩) (nomark _)) (pw_and1 (pt_cmpR (op_eqD hr.units) (pe_ix ix_list (pv 1) (pv 7) (fun _ _ => rfl)) (pv 2) (nomark _))))) (pss_one ps_break) pss_nil))))))) (pss_one (ps_ret (pv 4)))))), ?_⟩
    clear nd
    obtain ⟨a, r, v, cs, ws, ks, y, j, rfl, hA, hS, hks, hy, hR, hK, ⟨hl, hj⟩, hC, k⟩ := h
    obtain ⟨z0, z1⟩ := pow_le hj
    simp only [Int.reducePow] at z1
    have pc := pow_cast j
    have hw := KysAt.len hks
    walk_at "rd"
    refine ⟨y, hy, ⟨hK.g, hK.d⟩, by walk_at "sz", fun p hp => ⟨_, .inl (by walk_at "sq"), ?_⟩⟩
    rw [List.length_map, hl, pc]
    refine ⟨by omega, ?_⟩
    rw [show (2 ^ j : Int).toNat = 2 ^ j by omega]
    refine go_range (fun i σ H' => ∃ (v5 v6 v7 : Option V) (xs : List V), σ = [some (.ref a), some (.ref r), some v, some (.int y.stamp), some (.ref p), v5, v6, v7] ∧ Same H H' ∧ H' p = some (.lst xs) ∧ KysAt H' xs ((List.range i).map (pairAt cs j y)) ∧ i ≤ 2 ^ j ∧ ∀ t : Nat, t < i → stopB cs ks j y t = false) ⟨_, _, _, [], rfl, by walk_at "same", upd_same, .nil, Nat.zero_le _, fun t h => by omega⟩ ?_ ?_
    · rintro N i σ H' hi ⟨v5, v6, v7, xs, rfl, sm, hp', hx, hz, hb⟩ hN
      have hxl := KysAt.len hx
      rw [List.length_map, List.length_range] at hxl
      obtain ⟨r0, r1⟩ := probe_range y.stamp i hj
      have at_ := at_int (xs := cs) r0 (by omega)
      have ec := hC _ r0 (by omega)
      walk_at "rd"
      refine ⟨_, .inl (sm.seq hA), ?_⟩
      rw [List.length_map, hl, pc]
      refine ⟨by omega, _, _, sm.seq hA, at_, ?_⟩
      walk_at "rd"
      refine ⟨tyL hp', by walk_at "sz", fun T hT => ⟨xs, by walk_at "hp", by rw [sizeLine_eq]; omega, ?_⟩⟩
      have sT : Same H (upd (upd H' T (.tup [V.int (probeF y.stamp (2 ^ j) i), V.int (getI cs (probeF y.stamp (2 ^ j) i))])) p (.lst (xs ++ [V.ref T]))) := Same_upd0 (Same_upd sm hT) hp
      have hpT : T ≠ p := (hT.ne hp').symm
      have hp2 : upd H' T (.tup [V.int (probeF y.stamp (2 ^ j) i), V.int (getI cs (probeF y.stamp (2 ^ j) i))]) p = some (.lst xs) := by walk_at "hp"
      have hx2 := hx.same (Same_upd (o := .tup [V.int (probeF y.stamp (2 ^ j) i), V.int (getI cs (probeF y.stamp (2 ^ j) i))]) (Same.refl _) hT) _ _
      have dats : Ky.dats ((List.range i).map (pairAt cs j y)) := fun q hq => by
        obtain ⟨t, _, rfl⟩ := List.mem_map.mp hq
        exact pairK_dat _ _
      have hx3 : KysAt (upd (upd H' T (.tup [V.int (probeF y.stamp (2 ^ j) i), V.int (getI cs (probeF y.stamp (2 ^ j) i))])) p (.lst (xs ++ [V.ref T]))) (xs ++ [V.ref T]) ((List.range (i + 1)).map (pairAt cs j y)) := by
        rw [List.range_succ, List.map_append]
        refine KysAt.append (hx2.butD (fun b u hb e => by rw [upd_ne hb]; exact e) hp2 dats) (.cons ?_ .nil)
        exact .tup (by rw [upd_ne hpT]; exact upd_same) (.cons (.num _) (.cons (.num _) .nil))
      have hp3 : upd (upd H' T (.tup [V.int (probeF y.stamp (2 ^ j) i), V.int (getI cs (probeF y.stamp (2 ^ j) i))])) p (.lst (xs ++ [V.ref T])) p = some (.lst (xs ++ [V.ref T])) := upd_same
      generalize upd (upd H' T (.tup [V.int (probeF y.stamp (2 ^ j) i), V.int (getI cs (probeF y.stamp (2 ^ j) i))])) p (.lst (xs ++ [V.ref T])) = H3 at sT hx3 hp3 ⊢
      have stop : stopB cs ks j y i = true → Q (.ref p) H3 := fun e => k p H3 _ sT hp hp3 (by
        unfold paperK
        rw [paperN_stop hi e hb]
        exact hx3)
      have next : stopB cs ks j y i = false → ∀ v6 v7, N [some (.ref a), some (.ref r), some v, some (.int y.stamp), some (.ref p), some (.int i), v6, v7] H3 := fun e v6 v7 => hN _ _ ⟨_, _, _, _, rfl, sT, hp3, hx3, by omega, fun t ht => by
        rcases Nat.lt_or_ge t i with q | q
        · exact hb t q
        · rw [show t = i by omega]; exact e⟩
      unfold stopB at stop next
      generalize getI cs (probeF y.stamp (2 ^ j) i) = c at *
      refine iteB (fun c1 => stop (by simp [c1])) fun c1 => iteB (fun c2 => ?_) fun c2 => next ?_ _ _
      · obtain ⟨q1, q2⟩ := (ec.resolve_left c1).resolve_left c2
        obtain ⟨u, e1, at2⟩ := at_any (xs := ws) q1 (by omega)
        obtain ⟨l, e2, hu⟩ := hks.get e1
        refine ⟨_, _, sT.seq hS, at2, ?_⟩
        have ul := RowOk.one (hR.get e2)
        have kl := RowOk.one (k := y) (.inr hK)
        refine eq_any (hu.same sT _ _) (hy.same sT _ _) ul.1 kl.1 ul.2 kl.2 ?_
        walk_at "rd"
        refine iteB (fun c3 => stop ?_) fun c3 => next ?_ _ _
        · rw [e2, c3]
          simp [c2]
        · rw [e2]
          simp [c1, c3]
      · have c2' : c = -2 := by simpa using c2
        simp [c2']
    · rintro σ H' ⟨v5, v6, v7, xs, rfl, sm, hp', hx, hz, hb⟩
      walk_at "rd"
      refine k p H' xs sm hp hp' ?_
      unfold paperK
      rw [paperN_none hb]
      exact hx
theorem sc_place_of : FnScope ["cells", "row", "key", "cell"] ["cells", "row", "key"] (defScope s_place_of) := ⟨rfl, rfl, rfl, by decide +kernel, rfl, by decide +kernel, by decide +kernel⟩
theorem ok_place_of {P : Program} {w : World} {K : PySem.W.Frag} {mg : Str → Option Value} {base : Heap} {A : Ad} (T : Txt K mg A) : FnOk P w K mg base CX0 6 A.a_place_of A.d_place_of ["cells", "row", "key"] (spPlaceOf K) := by
  refine T.F_place_of.ok sc_place_of (fun vs H Q E h => ?_) (fun cdv A' outer s H vs Q E hr h => ?_)
  · walk_at "spl"
  · have nd := sc_place_of.nd
    have hu := hu_of hr
    refine ⟨_, (pss_cons (ps_set (i := 3) nd rfl (Or.inl rfl) (pe_ix ix_tup (pe_ix ix_list (pe_call (ok_paper T) (hr.mono (by decide)) rfl T.m_paper_slots T.F_paper.kp T.b_paper .nil pass0 (pa_cons (pv 0) (pa_cons (pv 1) (pa_cons (pv 2) pa_nil)))) (pe_un un_neg pe_int) (fun _ _ => rfl)) pe_int (fun _ _ => rfl))) (pss_cons (ps_if (pt_cmpR op_eq (pv 3) (pe_glob (v := .int (-1)) rfl T.g_EMPTY ⟨_, rfl⟩) (nomark _)) (pss_one (ps_ret pe_non)) pss_nil) (pss_one (ps_ret (pv 3))))), ?_⟩
    clear nd
    obtain ⟨a, r, v, cs, ws, ks, y, j, rfl, hA, hS, hks, hy, hR, hK, ⟨hl, hj⟩, hC, k⟩ := h
    walk_at "rd"
    refine ⟨a, r, v, cs, ws, ks, y, j, rfl, hA, hS, hks, hy, hR, hK, ⟨hl, hj⟩, hC, fun p H' xs sm _ hp hx => ?_⟩
    obtain ⟨n0, n1, -, -⟩ := paperN_range cs ks j y
    have hxl := KysAt.len hx
    unfold paperK at hx hxl
    rw [List.length_map, List.length_range] at hxl
    obtain ⟨u, e1, hu⟩ := hx.at (i := paperN cs ks j y - 1) (k := pairAt cs j y (paperN cs ks j y - 1)) (by rw [List.getElem?_map, List.getElem?_range (by omega)]; rfl)
    obtain ⟨q, rfl, hq⟩ := pair_of hu
    walk_at "rd"
    refine ⟨xs, _, SqL.of hp, atI_last (by rw [hxl]; exact e1), ?_⟩
    walk_at "rd"
    refine ⟨_, _, SqT.of hq, rfl, ?_⟩
    walk_at "rd"
    have k' := k H' sm
    split
    · rename_i c
      unfold lastCell at k'
      rw [if_pos c] at k'
      exact k'
    · rename_i c
      unfold lastCell at k'
      rw [if_neg c] at k'
      exact k'
theorem sc_checked : FnScope ["thing"] ["thing"] (defScope s_checked) := ⟨rfl, rfl, rfl, by decide +kernel, rfl, by decide +kernel, by decide +kernel⟩
theorem ok_checked {P : Program} {w : World} {K : PySem.W.Frag} {mg : Str → Option Value} {base : Heap} {A : Ad} (T : Txt K mg A) : FnOk P w K mg base (L2.CX P w) 6 A.a_checked A.d_checked ["thing"] (spChecked A.c_NoKey) := by
  refine T.F_checked.okX sc_checked (fun vs H Q E h => ?_) (fun cdv A' outer s H vs Q E hr h => ?_)
  · exact len_checked h
  · have nd := sc_checked.nd
    have hu := hu_of hr
    refine ⟨_, (pss_cons (ps_if (pt_not (pt_val (pe_call (ok_is_key T) (hr.mono (by decide)) rfl T.m_is_key T.F_is_key.kp T.b_is_key .nil pass0 (pa_cons (pv 0) pa_nil)))) (pss_one (ps_raise rfl (takes_of rfl rfl rfl rfl) (pmk_own PySem.F.excBase_ValueError T.x_NoKey T.m_NoKey T.k_NoKey (raises_own T.eb_NoKey T.et_NoKey) rfl))) pss_nil) (pss_one (ps_ret (pv 0)))), ?_⟩
    clear nd
    obtain ⟨v, y, rfl, hy, hf, k1, k2⟩ := h
    walk_at "rd"
    refine ⟨v, y, rfl, hy, hf, ?_⟩
    walk_at "rd"
    cases e : within 3 y with
    | true => exact k1 e
    | false => exact k2 e

end Law
namespace Law
open PySem PySem.Spec PyProof.Rows L2 My
theorem sc_Shelf_find : FnScope ["self", "key"] ["self", "key"] (defScope s_Shelf_find) := ⟨rfl, rfl, rfl, by decide +kernel, rfl, by decide +kernel, by decide +kernel⟩
theorem ok_Shelf_find {P : Program} {w : World} {K : PySem.W.Frag} {mg : Str → Option Value} {base : Heap} {A : Ad} (T : Txt K mg A) : FnOk P w K mg base CX0 7 A.a_Shelf_find A.d_Shelf_find ["self", "key"] (spFind A.c_Shelf) := by
  refine T.F_Shelf_find.ok sc_Shelf_find (fun vs H Q E h => ?_) (fun cdv A' outer s H vs Q E hr h => ?_)
  · exact len_find h
  · have nd := sc_Shelf_find.nd
    have hu := hu_of hr
    refine ⟨_, (pss_one (ps_ret (pe_call (ok_place_of T) (hr.mono (by decide)) rfl T.m_place_of T.F_place_of.kp T.b_place_of .nil pass0 (pa_cons (pe_fld (pv 0) rfl) (pa_cons (pe_fld (pv 0) rfl) (pa_cons (pv 1) pa_nil)))))), ?_⟩
    clear nd
    obtain ⟨a, p, fp, S, v, y, rfl, hS, hy, yk, k⟩ := h
    obtain ⟨dx, c, r, hh, b, ws, us, rfl, g, ok⟩ := hS
    have ga := g.ha
    walk_at "rd"
    simp only [My.fld_cells (T.shC_Shelf) ga, My.fld_row (T.shC_Shelf) ga]
    have lp := ok.cw.last_place (y := y)
    refine ⟨_, _, _, S.cells, ws, S.row, y, S.j, rfl, SqL.of g.hc, SqL.of g.hr, g.kr, hy, ok.cw.rok, yk, ⟨ok.cw.len, ok.cw.j12⟩, ok.cw.ok, fun H' s => ?_⟩
    rw [lp]
    exact k H' s
theorem sc_Shelf_lay : FnScope ["self", "key", "place"] ["self", "key", "place"] (defScope s_Shelf_lay) := ⟨rfl, rfl, rfl, by decide +kernel, rfl, by decide +kernel, by decide +kernel⟩
theorem ok_Shelf_lay {P : Program} {w : World} {K : PySem.W.Frag} {mg : Str → Option Value} {base : Heap} {A : Ad} (T : Txt K mg A) : FnOk P w K mg base CX0 6 A.a_Shelf_lay A.d_Shelf_lay ["self", "key", "place"] (spLay A.c_Shelf) := by
  refine T.F_Shelf_lay.ok sc_Shelf_lay (fun vs H Q E h => ?_) (fun cdv A' outer s H vs Q E hr h => ?_)
  · exact len_lay h
  · have nd := sc_Shelf_lay.nd
    have hu := hu_of hr
    refine ⟨_, (pss_one (ps_asg (pv 2) (pg_sub (pe_fld (pv 0) rfl) (pe_ix ix_tup (pe_ix ix_list (pe_call (ok_paper T) (hr.mono (by decide)) rfl T.m_paper_slots T.F_paper.kp T.b_paper .nil pass0 (pa_cons (pe_fld (pv 0) rfl) (pa_cons (pe_fld (pv 0) rfl) (pa_cons (pv 1) pa_nil)))) (pe_un un_neg pe_int) (fun _ _ => rfl)) pe_int (fun _ _ => rfl)) set_list))), ?_⟩
    clear nd
    obtain ⟨a, dx, p, c, r, hh, b, S, ws, us, v, y, q, rfl, g, cw, hy, yk, k⟩ := h
    have ga := g.ha
    walk_at "rd"
    simp only [My.fld_cells (T.shC_Shelf) ga, My.fld_row (T.shC_Shelf) ga]
    walk_at "rd"
    refine ⟨_, _, _, S.cells, ws, S.row, y, S.j, rfl, SqL.of g.hc, SqL.of g.hr, g.kr, hy, cw.rok, yk, ⟨cw.len, cw.j12⟩, cw.ok, fun L H' xs s _ hp hx => ?_⟩
    obtain ⟨n0, n1, -, -⟩ := paperN_range S.cells S.row S.j y
    have hxl := KysAt.len hx
    unfold paperK at hx hxl
    rw [List.length_map, List.length_range] at hxl
    obtain ⟨u, e1, hu⟩ := hx.at (i := paperN S.cells S.row S.j y - 1) (k := pairAt S.cells S.j y (paperN S.cells S.row S.j y - 1)) (by rw [List.getElem?_map, List.getElem?_range (by omega)]; rfl)
    obtain ⟨t, rfl, ht⟩ := pair_of hu
    obtain ⟨r0, r1⟩ := probe_range y.stamp ((paperN S.cells S.row S.j y - 1 : Nat) : Int) cw.j12
    have hl := cw.len
    have pc := pow_cast S.j
    walk_at "rd"
    refine ⟨xs, _, SqL.of hp, atI_last (by rw [hxl]; exact e1), ?_⟩
    walk_at "rd"
    refine ⟨_, _, SqT.of ht, rfl, ?_⟩
    walk_at "rd"
    refine ⟨_, _, s _ _ g.hc, ixN_nat r0 (by rw [List.length_map]; omega), ?_⟩
    have k' := k H' s
    unfold lastSlot at k'
    rw [List.map_set] at k'
    exact k'
theorem sc_Shelf_make_room : FnScope ["self"] ["self"] (defScope s_Shelf_make_room) := ⟨rfl, rfl, rfl, by decide +kernel, rfl, by decide +kernel, by decide +kernel⟩
theorem ok_Shelf_make_room {P : Program} {w : World} {K : PySem.W.Frag} {mg : Str → Option Value} {base : Heap} {A : Ad} (T : Txt K mg A) : FnOk P w K mg base (L2.CX P w) 1 A.a_Shelf_make_room A.d_Shelf_make_room ["self"] (spRoom A.c_Shelf A.c_Full fun _ => none) := by
  refine T.F_Shelf_make_room.okX sc_Shelf_make_room (fun vs H Q E h => ?_) (fun cdv A' outer s H vs Q E hr h => ?_)
  · exact len_room h
  · have nd := sc_Shelf_make_room.nd
    have hu := hu_of hr
    refine ⟨_, (pss_one (ps_raise rfl (takes_of rfl rfl rfl rfl) (pmk_own PySem.F.excBase_ValueError T.x_Full T.m_Full T.k_Full (raises_own T.eb_Full T.et_Full) rfl))), ?_⟩
    clear nd
    obtain ⟨a, p, fp, S, rfl, hS, k⟩ := h
    exact k
theorem sc_Shelf_put : FnScope ["self", "key", "value", "place"] ["self", "key", "value"] (defScope s_Shelf_put) := ⟨rfl, rfl, rfl, by decide +kernel, rfl, by decide +kernel, by decide +kernel⟩
theorem ok_Shelf_put {P : Program} {w : World} {K : PySem.W.Frag} {mg : Str → Option Value} {base : Heap} {A : Ad} (T : Txt K mg A) : FnOk P w K mg base (L2.CX P w) 8 A.a_Shelf_put A.d_Shelf_put ["self", "key", "value"] (spPut A.c_Shelf A.c_NoKey A.c_Full (fun _ => none)) := by
  refine T.F_Shelf_put.okX sc_Shelf_put (fun vs H Q E h => ?_) (fun cdv A' outer s H vs Q E hr h => ?_)
  · exact len_put h
  · have nd := sc_Shelf_put.nd
    have hu := hu_of hr
    refine ⟨_, (pss_cons (ps_set (i := 3) nd rfl (Or.inl rfl) (pe_meth (pv 0) T.cl_Shelf T.me_Shelf_find (ok_Shelf_find T) (hr.mono (by decide)) T.b_Shelf_find .nil pass0 (pa_cons (pe_call (ok_checked T) (hr.mono (by decide)) rfl T.m_checked T.F_checked.kp T.b_checked .nil (passes_call (takes_of rfl rfl rfl rfl) fun _ _ _ _ h => h) (pa_cons (pv 1) pa_nil)) pa_nil))) (pss_cons (ps_if (pt_cmpR op_notN (pv 3) pe_non (nomark _)) (pss_cons (ps_asg (pv 2) (pg_sub (pe_fld (pv 0) rfl) (pv 3) set_list)) (pss_one (ps_ret pe_bl))) pss_nil) (pss_cons (ps_if (pt_cmpR op_ge (pe_callB call_lenU rfl T.n_len PySem.boot_len (pa_cons (pe_fld (pv 0) rfl) pa_nil)) (pe_call (ok_room T) (hr.mono (by decide)) rfl T.m_room T.F_room.kp T.b_room .nil pass0 (pa_cons (pe_fld (pv 0) rfl) pa_nil)) (nomark _)) (pss_one (ps_expr (pe_meth0 (pv 0) T.cl_Shelf T.me_Shelf_make_room (ok_Shelf_make_room T) (hr.mono (by decide)) T.b_Shelf_make_room .nil (passes_call (takes_of rfl rfl rfl rfl) fun _ _ _ _ h => h)))) pss_nil) (pss_cons (ps_expr (pe_meth (pv 0) T.cl_Shelf T.me_Shelf_lay (ok_Shelf_lay T) (hr.mono (by decide)) T.b_Shelf_lay .nil pass0 (pa_cons (pv 1) (pa_cons (pe_callB call_lenU rfl T.n_len PySem.boot_len (pa_cons (pe_fld (pv 0) rfl) pa_nil)) pa_nil)))) (pss_cons (ps_expr (pe_bm PySem.F.plainAttrs_list PySem.F.slot_list_append PySem.F.type_list_append mt_append (pe_fld (pv 0) rfl) (pa_cons (pv 1) pa_nil))) (pss_cons (ps_expr (pe_bm PySem.F.plainAttrs_list PySem.F.slot_list_append PySem.F.type_list_append mt_append (pe_fld (pv 0) rfl) (pa_cons (pv 2) pa_nil))) (pss_cons (ps_fldaug (pv 0) pe_int in_add) (pss_cons (ps_expr (pe_bm PySem.F.plainAttrs_list PySem.F.slot_list_append PySem.F.type_list_append mt_append (pe_fld (pv 0) rfl) (pa_cons (pe_fld (pv 0) rfl) pa_nil))) (pss_one (ps_ret pe_bl)))))))))), ?_⟩
    clear nd
    obtain ⟨a, p, fp, S, v, y, u, z, rfl, hS, hy, hf, hw, hu, hz, k1, k2⟩ := h
    have HS := hS
    obtain ⟨dx, c, r, hh, b, ws, us, rfl, g, ok⟩ := hS
    have ga := g.ha
    walk_at "rd"
    refine ⟨⟨_, _, ga, by cases p <;> with_unfolding_all rfl⟩, v, y, rfl, hy, hf, fun e => ?_, k1⟩
    have yk := hw e
    have k := k2 yk
    refine ⟨a, p, _, S, v, y, rfl, HS, hy, yk, fun H1 s1 => ?_⟩
    have g1 := g.ext s1
    have ga1 := g1.ha
    have hy1 := hy.same s1 _ _
    have hu1 := hu.same s1 _ _
    unfold Sh.put at k
    have lw := KysAt.len g.kr
    have lu := KysAt.len g.kh
    have hbl := ok.bl
    have hhl := ok.hl
    have lt := ok.cw.lt
    cases ef : S.find y with
    | some q =>
      rw [ef] at k
      dsimp only at k
      simp only [optV]
      walk_at "rd"
      refine iteP (by simp) ?_
      simp only [My.fld_held (T.shC_Shelf) ga1]
      walk_at "rd"
      have hq := (List.getElem?_eq_some_iff.mp ((ok.find_some yk.ne_non).mp ef)).1
      refine ⟨_, _, g1.hh, ixN_nat (by omega) (by omega), ?_⟩
      walk_at "rd"
      have g2 := g1.heldU (us' := us.set q u) (ks := S.held.set q z) (vals_set g.vh hz.1) (g1.kh.set hu1)
      exact k _ [a, c, r, hh, b] (((Gr.of s1).put (by simp))) Sub.refl ⟨dx, c, r, hh, b, _, _, rfl, g2, ok.hold hz⟩
    | none =>
      rw [ef] at k
      dsimp only at k
      have nin := (ok.find_none yk.ne_non).mp ef
      walk_at "rd"
      refine iteN (by simp [optV]) ?_
      simp only [My.fld_row (T.shC_Shelf) ga1]
      walk_at "rd"
      refine ⟨_, .inl (SqL.of g1.hr), ?_⟩
      simp only [My.fld_size (T.shC_Shelf) ga1]
      walk_at "rd"
      refine iteB (fun cf => ?_) fun cf => ?_
      · have ef2 : S.full = true := decide_eq_true (by omega)
        rw [ef2, if_pos rfl] at k
        refine ⟨⟨_, _, ga1, by cases p <;> with_unfolding_all rfl⟩, a, p, _, S, rfl, ⟨dx, c, r, hh, b, ws, us, rfl, g1, ok⟩, ?_⟩
        exact k H1 s1
      · have ef2 : S.full = false := decide_eq_false (by omega)
        rw [ef2, if_neg (by decide)] at k
        refine ⟨⟨_, _, ga1, by cases p <;> with_unfolding_all rfl⟩, ?_⟩
        simp only [My.fld_row T.shC_Shelf ga1]
        walk_at "rd"
        refine ⟨_, .inl (SqL.of g1.hr), a, dx, p, c, r, hh, b, S, ws, us, v, y, _, rfl, g1, ok.cw, hy1, yk, fun H2 s2 => ?_⟩
        have g2 := (g1.ext s2).cellsU (cs := S.cells.set (lastSlot S.cells S.row S.j y).toNat (ws.length : Nat))
        have ga2 := g2.ha
        have gr2 : Gr [a, c, r, hh, b] H (upd H2 c (.lst ((S.cells.set (lastSlot S.cells S.row S.j y).toNat (ws.length : Nat)).map V.int))) := (Gr.of (s1.trans s2)).put (by simp)
        have hy2 := ky_upd (o' := .lst ((S.cells.set (lastSlot S.cells S.row S.j y).toNat (ws.length : Nat)).map V.int)) (g1.ext s2).hc (fun _ z => by cases z) yk.val (hy1.same s2 _ _)
        have hu2 := ky_upd (o' := .lst ((S.cells.set (lastSlot S.cells S.row S.j y).toNat (ws.length : Nat)).map V.int)) (g1.ext s2).hc (fun _ z => by cases z) hz.1 (hu1.same s2 _ _)
        generalize upd H2 c (.lst ((S.cells.set (lastSlot S.cells S.row S.j y).toNat (ws.length : Nat)).map V.int)) = H3 at g2 ga2 gr2 hy2 hu2 ⊢
        simp only [My.fld_row T.shC_Shelf ga2]
        walk_at "rd"
        refine ⟨tyL g2.hr, _, g2.hr, by rw [sizeLine_eq]; omega, ?_⟩
        have g3 := g2.rowU (ws' := ws ++ [v]) (ks := S.row ++ [y]) (vals_append g.vr (vals_one yk.val)) (g2.kr.append (.cons hy2 .nil))
        have ga3 := g3.ha
        have gr3 : Gr [a, c, r, hh, b] H (upd H3 r (.lst (ws ++ [v]))) := gr2.put (by simp)
        have hu3 := ky_upd (o' := .lst (ws ++ [v])) g2.hr (fun _ z => by cases z) hz.1 hu2
        generalize upd H3 r (.lst (ws ++ [v])) = H4 at g3 ga3 gr3 hu3 ⊢
        simp only [My.fld_held T.shC_Shelf ga3]
        walk_at "rd"
        refine ⟨tyL g3.hh, _, g3.hh, by rw [sizeLine_eq]; omega, ?_⟩
        have g4 := g3.heldU (us' := us ++ [u]) (ks := S.held ++ [z]) (vals_append g.vh (vals_one hz.1)) (g3.kh.append (.cons hu3 .nil))
        have ga4 := g4.ha
        have gr4 : Gr [a, c, r, hh, b] H (upd H4 hh (.lst (us ++ [u]))) := gr3.put (by simp)
        generalize upd H4 hh (.lst (us ++ [u])) = H5 at g4 ga4 gr4 ⊢
        rw [aug_comings T.shC_Shelf ga4]
        have g5 := g4.fldU (S' := { S with row := S.row ++ [y], held := S.held ++ [z], com := S.com + 1, cells := S.cells.set (lastSlot S.cells S.row S.j y).toNat (ws.length : Nat) })
        have gr5 : Gr [a, c, r, hh, b] H (upd H5 a (.ins A.c_Shelf dx (shF p c r hh b { S with row := S.row ++ [y], held := S.held ++ [z], com := S.com + 1, cells := S.cells.set (lastSlot S.cells S.row S.j y).toNat (ws.length : Nat) }))) := gr4.put (by simp)
        have ga5 := g5.ha
        generalize upd H5 a (.ins A.c_Shelf dx (shF p c r hh b { S with row := S.row ++ [y], held := S.held ++ [z], com := S.com + 1, cells := S.cells.set (lastSlot S.cells S.row S.j y).toNat (ws.length : Nat) })) = H6 at g5 gr5 ga5 ⊢
        simp only [My.fld_born T.shC_Shelf ga5, My.fld_comings T.shC_Shelf ga5]
        walk_at "rd"
        refine ⟨tyL g5.hb, _, g5.hb, by rw [sizeLine_eq, List.length_map]; show S.born.length < 16777216; omega, ?_⟩
        have g6 := g5.bornU (cs := S.born ++ [S.com + 1])
        rw [List.map_append] at g6
        have ec : ({ S with row := S.row ++ [y], held := S.held ++ [z], com := S.com + 1, cells := S.cells.set (lastSlot S.cells S.row S.j y).toNat (ws.length : Nat), born := S.born ++ [S.com + 1] } : Sh) = S.come y z := by
          unfold Sh.come layS
          rw [if_neg yk.ne_non, ← ok.cw.slot_bare yk.ne_non nin, lw]
        rw [ec] at g6
        exact k _ [a, c, r, hh, b] (gr5.put (by simp)) Sub.refl ⟨dx, c, r, hh, b, _, _, rfl, g6, ok.come yk nin ef2 hz⟩

end Law
namespace Law
open PySem PySem.Spec PyProof.Rows L2 My
theorem sc_Shelf___init__ : FnScope ["self", "size"] ["self", "size"] (defScope s_Shelf___init__) := ⟨rfl, rfl, rfl, by decide +kernel, rfl, by decide +kernel, by decide +kernel⟩
theorem ok_Shelf___init__ {P : Program} {w : World} {K : PySem.W.Frag} {mg : Str → Option Value} {base : Heap} {A : Ad} (T : Txt K mg A) : FnOk P w K mg base CX0 7 A.a_Shelf___init__ A.d_Shelf___init__ ["self", "size"] (spInit A.c_Shelf) := by
  refine T.F_Shelf___init__.ok sc_Shelf___init__ (fun vs H Q E h => ?_) (fun cdv A' outer s H vs Q E hr h => ?_)
  · exact len_init h
  · have nd := sc_Shelf___init__.nd
    have hu := hu_of hr
    refine ⟨_, (pss_cons (ps_fld (pv 0) (pe_call (ok_cells_of T) (hr.mono (by decide)) rfl T.m_cells_of T.F_cells_of.kp T.b_cells_of .nil pass0 (pa_cons (pe_lst pa_nil) (pa_cons (pv 1) pa_nil))) rfl) (pss_cons (ps_fld (pv 0) (pv 1) rfl) (pss_cons (ps_fld (pv 0) (pv 1) rfl) (pss_cons (ps_fld (pv 0) (pe_lst pa_nil) rfl) (pss_cons (ps_fld (pv 0) (pe_lst pa_nil) rfl) (pss_cons (ps_fld (pv 0) (pe_lst pa_nil) rfl) (pss_cons (ps_fld (pv 0) pe_int rfl) (pss_cons (ps_fld (pv 0) pe_int rfl) (pss_cons (ps_fld (pv 0) pe_int rfl) (pss_one (ps_fld (pv 0) pe_int rfl))))))))))), ?_⟩
    clear nd
    obtain ⟨a, dx, j, rfl, ha, ⟨j3, j12⟩, k⟩ := h
    have ck := T.shC_Shelf
    have k0 := cwf_nil j3 j12
    walk_at "rd"
    refine ⟨by walk_at "sz", fun p hp => ?_⟩
    refine ⟨p, [], [], j, rfl, SqL.of upd_same, .nil, (fun _ h => by cases h), ⟨j3, j12, by simp; have := (pow_le (Nat.le_refl j)).1; omega⟩, fun c H1 s1 fc hc => ?_⟩
    have s01 : Same H H1 := (Same_upd (Same.refl _) hp).trans s1
    have fc0 : Fresh H c := Same_fresh (Same_upd (Same.refl _) hp) fc
    have hA := s01 _ _ ha
    have gr1 : Gr [a] H H1 := Gr.of s01
    have nca : c ≠ a := (fc0.ne ha).symm
    have fs : ∀ (X : Hp) (o : HO), upd X a o a = some o := fun X o => upd_same
    refine setAt_go (gs := ([("cells", .ref c)] : List (Str × V))) hA ck.cls ck.cells (by simp) (by with_unfolding_all rfl) fun H2 e2 hA => ?_
    have hc2 : H2 c = some (.lst ((layN j [] 0).map V.int)) := by rw [e2, upd_ne nca]; exact hc
    have gr2 : Gr [a] H H2 := by rw [e2]; exact gr1.put (by simp)
    clear e2
    refine setAt_go (gs := ([("cells", .ref c), ("size", .int (2 ^ j))] : List (Str × V))) hA ck.cls ck.size (by simp) (by with_unfolding_all rfl) fun H3 e3 hA => ?_
    refine setAt_go (gs := ([("cells", .ref c), ("size", .int (2 ^ j)), ("least", .int (2 ^ j))] : List (Str × V))) hA ck.cls ck.least (by simp) (by with_unfolding_all rfl) fun H4 e4 hA => ?_
    have hc4 : H4 c = some (.lst ((layN j [] 0).map V.int)) := by rw [e4, e3, upd_ne nca, upd_ne nca]; exact hc2
    have gr4 : Gr [a] H H4 := by rw [e4, e3]; exact (gr2.put (by simp)).put (by simp)
    clear e3 e4
    refine ⟨by walk_at "sz", fun r hr1 => ?_⟩
    have nrc : c ≠ r := hr1.ne hc4
    have nra : a ≠ r := hr1.ne hA
    have hA5 : upd H4 r (.lst []) a = _ := (upd_ne nra).trans hA
    refine setAt_go (gs := ([("cells", .ref c), ("size", .int (2 ^ j)), ("least", .int (2 ^ j)), ("row", .ref r)] : List (Str × V))) hA5 ck.cls ck.row (by simp) (by with_unfolding_all rfl) fun H6 e6 hA => ?_
    have hc6 : H6 c = some (.lst ((layN j [] 0).map V.int)) := by rw [e6, upd_ne nca, upd_ne nrc]; exact hc4
    have hr6 : H6 r = some (.lst []) := by rw [e6, upd_ne nra.symm]; exact upd_same
    have fr0 : Fresh H r := gr4.free _ hr1
    have gr6 : Gr [a] H H6 := by rw [e6]; exact (gr4.new fr0).put (by simp)
    clear e6 hA5
    refine ⟨by walk_at "sz", fun h' hh1 => ?_⟩
    have nhc : c ≠ h' := hh1.ne hc6
    have nha : a ≠ h' := hh1.ne hA
    have nhr : r ≠ h' := hh1.ne hr6
    have hA7 : upd H6 h' (.lst []) a = _ := (upd_ne nha).trans hA
    refine setAt_go (gs := ([("cells", .ref c), ("size", .int (2 ^ j)), ("least", .int (2 ^ j)), ("row", .ref r), ("held", .ref h')] : List (Str × V))) hA7 ck.cls ck.held (by simp) (by with_unfolding_all rfl) fun H8 e8 hA => ?_
    have hc8 : H8 c = some (.lst ((layN j [] 0).map V.int)) := by rw [e8, upd_ne nca, upd_ne nhc]; exact hc6
    have hr8 : H8 r = some (.lst []) := by rw [e8, upd_ne nra.symm, upd_ne nhr]; exact hr6
    have hh8 : H8 h' = some (.lst []) := by rw [e8, upd_ne nha.symm]; exact upd_same
    have fh0 : Fresh H h' := gr6.free _ hh1
    have gr8 : Gr [a] H H8 := by rw [e8]; exact (gr6.new fh0).put (by simp)
    clear e8 hA7
    refine ⟨by walk_at "sz", fun b' hb1 => ?_⟩
    have nbc : c ≠ b' := hb1.ne hc8
    have nba : a ≠ b' := hb1.ne hA
    have nbr : r ≠ b' := hb1.ne hr8
    have nbh : h' ≠ b' := hb1.ne hh8
    have hA9 : upd H8 b' (.lst []) a = _ := (upd_ne nba).trans hA
    refine setAt_go (gs := ([("cells", .ref c), ("size", .int (2 ^ j)), ("least", .int (2 ^ j)), ("row", .ref r), ("held", .ref h'), ("born", .ref b')] : List (Str × V))) hA9 ck.cls ck.born (by simp) (by with_unfolding_all rfl) fun H10 e10 hA => ?_
    have hc10 : H10 c = some (.lst ((layN j [] 0).map V.int)) := by rw [e10, upd_ne nca, upd_ne nbc]; exact hc8
    have hr10 : H10 r = some (.lst []) := by rw [e10, upd_ne nra.symm, upd_ne nbr]; exact hr8
    have hh10 : H10 h' = some (.lst []) := by rw [e10, upd_ne nha.symm, upd_ne nbh]; exact hh8
    have hb10 : H10 b' = some (.lst []) := by rw [e10, upd_ne nba.symm]; exact upd_same
    have fb0 : Fresh H b' := gr8.free _ hb1
    have gr10 : Gr [a] H H10 := by rw [e10]; exact (gr8.new fb0).put (by simp)
    clear e10 hA9
    refine setAt_go (gs := ([("cells", .ref c), ("size", .int (2 ^ j)), ("least", .int (2 ^ j)), ("row", .ref r), ("held", .ref h'), ("born", .ref b'), ("comings", .int 0)] : List (Str × V))) hA ck.cls ck.comings (by simp) (by with_unfolding_all rfl) fun H11 e11 hA => ?_
    refine setAt_go (gs := ([("cells", .ref c), ("size", .int (2 ^ j)), ("least", .int (2 ^ j)), ("row", .ref r), ("held", .ref h'), ("born", .ref b'), ("comings", .int 0), ("goings", .int 0)] : List (Str × V))) hA ck.cls ck.goings (by simp) (by with_unfolding_all rfl) fun H12 e12 hA => ?_
    refine setAt_go (gs := ([("cells", .ref c), ("size", .int (2 ^ j)), ("least", .int (2 ^ j)), ("row", .ref r), ("held", .ref h'), ("born", .ref b'), ("comings", .int 0), ("goings", .int 0), ("tidied", .int 0)] : List (Str × V))) hA ck.cls ck.tidied (by simp) (by with_unfolding_all rfl) fun H13 e13 hA => ?_
    refine setAt_go (gs := shF .no c r h' b' (Sh.new j)) hA ck.cls ck.moved (by simp) (by with_unfolding_all rfl) fun H14 e14 hA => ?_
    have oth : ∀ x, x ≠ a → H14 x = H10 x := fun x n => by rw [e14, e13, e12, e11, upd_ne n, upd_ne n, upd_ne n, upd_ne n]
    have gr14 : Gr [a] H H14 := by rw [e14, e13, e12, e11]; exact (((gr10.put (by simp)).put (by simp)).put (by simp)).put (by simp)
    refine k H14 [a, c, r, h', b'] gr14 (fun x hx => ?_) ⟨dx, c, r, h', b', [], [], rfl, ⟨hA, by rw [oth c nca]; exact hc10, by rw [oth r nra.symm]; exact hr10, by rw [oth h' nha.symm]; exact hh10, by rw [oth b' nba.symm]; exact hb10, .nil, .nil, rfl, rfl, ⟨nrc, nhc, nbc, nhr, nbr, nbh⟩⟩, Sh.new_ok j3 j12⟩
    simp only [List.mem_cons, List.not_mem_nil, or_false] at hx
    rcases hx with rfl | rfl | rfl | rfl | rfl
    · exact .inl (by simp)
    · exact .inr fc0
    · exact .inr fr0
    · exact .inr fh0
    · exact .inr fb0
theorem sc_Shelf_mark_gone : FnScope ["self", "key", "place"] ["self", "key", "place"] (defScope s_Shelf_mark_gone) := ⟨rfl, rfl, rfl, by decide +kernel, rfl, by decide +kernel, by decide +kernel⟩
theorem ok_Shelf_mark_gone {P : Program} {w : World} {K : PySem.W.Frag} {mg : Str → Option Value} {base : Heap} {A : Ad} (T : Txt K mg A) : FnOk P w K mg base CX0 6 A.a_Shelf_mark_gone A.d_Shelf_mark_gone ["self", "key", "place"] (spMarkGone A.c_Shelf) := by
  refine T.F_Shelf_mark_gone.ok sc_Shelf_mark_gone (fun vs H Q E h => ?_) (fun cdv A' outer s H vs Q E hr h => ?_)
  · exact len_markGone h
  · have nd := sc_Shelf_mark_gone.nd
    have hu := hu_of hr
    refine ⟨_, (pss_one (ps_asg (pe_glob (v := .int (-2)) rfl T.g_GONE ⟨_, rfl⟩) (pg_sub (pe_fld (pv 0) rfl) (pe_ix ix_tup (pe_ix ix_list (pe_call (ok_paper T) (hr.mono (by decide)) rfl T.m_paper_slots T.F_paper.kp T.b_paper .nil pass0 (pa_cons (pe_fld (pv 0) rfl) (pa_cons (pe_fld (pv 0) rfl) (pa_cons (pv 1) pa_nil)))) (pe_un un_neg pe_int) (fun _ _ => rfl)) pe_int (fun _ _ => rfl)) set_list))), ?_⟩
    clear nd
    obtain ⟨a, dx, p, c, r, hh, b, S, ws, us, v, y, w', rfl, g, cw, hy, yk, k⟩ := h
    have ga := g.ha
    walk_at "rd"
    simp only [My.fld_cells (T.shC_Shelf) ga, My.fld_row (T.shC_Shelf) ga]
    walk_at "rd"
    refine ⟨_, _, _, S.cells, ws, S.row, y, S.j, rfl, SqL.of g.hc, SqL.of g.hr, g.kr, hy, cw.rok, yk, ⟨cw.len, cw.j12⟩, cw.ok, fun L H' xs s _ hp hx => ?_⟩
    obtain ⟨n0, n1, -, -⟩ := paperN_range S.cells S.row S.j y
    have hxl := KysAt.len hx
    unfold paperK at hx hxl
    rw [List.length_map, List.length_range] at hxl
    obtain ⟨u, e1, hu⟩ := hx.at (i := paperN S.cells S.row S.j y - 1) (k := pairAt S.cells S.j y (paperN S.cells S.row S.j y - 1)) (by rw [List.getElem?_map, List.getElem?_range (by omega)]; rfl)
    obtain ⟨t, rfl, ht⟩ := pair_of hu
    obtain ⟨r0, r1⟩ := probe_range y.stamp ((paperN S.cells S.row S.j y - 1 : Nat) : Int) cw.j12
    have hl := cw.len
    have pc := pow_cast S.j
    walk_at "rd"
    refine ⟨xs, _, SqL.of hp, atI_last (by rw [hxl]; exact e1), ?_⟩
    walk_at "rd"
    refine ⟨_, _, SqT.of ht, rfl, ?_⟩
    walk_at "rd"
    refine ⟨_, _, s _ _ g.hc, ixN_nat r0 (by rw [List.length_map]; omega), ?_⟩
    have k' := k H' s
    unfold lastSlot at k'
    rw [List.map_set] at k'
    exact k'
theorem sc_Shelf_take : FnScope ["self", "key", "place", "value"] ["self", "key"] (defScope s_Shelf_take) := ⟨rfl, rfl, rfl, by decide +kernel, rfl, by decide +kernel, by decide +kernel⟩
theorem ok_Shelf_take {P : Program} {w : World} {K : PySem.W.Frag} {mg : Str → Option Value} {base : Heap} {A : Ad} (T : Txt K mg A) : FnOk P w K mg base (L2.CX P w) 8 A.a_Shelf_take A.d_Shelf_take ["self", "key"] (spTake A.c_Shelf A.c_NoKey A.c_Lacking) := by
  refine T.F_Shelf_take.okX sc_Shelf_take (fun vs H Q E h => ?_) (fun cdv A' outer s H vs Q E hr h => ?_)
  · exact len_take h
  · have nd := sc_Shelf_take.nd
    have hu := hu_of hr
    refine ⟨_, (pss_cons (ps_set (i := 2) nd rfl (Or.inl rfl) (pe_meth (pv 0) T.cl_Shelf T.me_Shelf_find (ok_Shelf_find T) (hr.mono (by decide)) T.b_Shelf_find .nil pass0 (pa_cons (pe_call (ok_checked T) (hr.mono (by decide)) rfl T.m_checked T.F_checked.kp T.b_checked .nil (passes_call (takes_of rfl rfl rfl rfl) fun _ _ _ _ h => h) (pa_cons (pv 1) pa_nil)) pa_nil))) (pss_cons (ps_if (pt_cmpR op_isN (pv 2) pe_non (nomark _)) (pss_one (ps_raise rfl (takes_of rfl rfl rfl rfl) (pmk_own PySem.F.excBase_ValueError T.x_Lacking T.m_Lacking T.k_Lacking (raises_own T.eb_Lacking T.et_Lacking) rfl))) pss_nil) (pss_cons (ps_set (i := 3) nd rfl (Or.inl rfl) (pe_ix ix_list (pe_fld (pv 0) rfl) (pv 2) (fun _ _ => rfl))) (pss_cons (ps_expr (pe_meth (pv 0) T.cl_Shelf T.me_Shelf_mark_gone (ok_Shelf_mark_gone T) (hr.mono (by decide)) T.b_Shelf_mark_gone .nil pass0 (pa_cons (pv 1) (pa_cons (pv 2) pa_nil)))) (pss_cons (ps_asg pe_non (pg_sub (pe_fld (pv 0) rfl) (pv 2) set_list)) (pss_cons (ps_asg pe_non (pg_sub (pe_fld (pv 0) rfl) (pv 2) set_list)) (pss_cons (ps_fldaug (pv 0) pe_int in_add) (pss_one (ps_ret (pv 3)))))))))), ?_⟩
    clear nd
    obtain ⟨a, p, fp, S, v, y, rfl, hS, hy, hf, hw, k1, k2⟩ := h
    have HS := hS
    obtain ⟨dx, c, r, hh, b, ws, us, rfl, g, ok⟩ := hS
    have ga := g.ha
    walk_at "rd"
    refine ⟨⟨_, _, ga, by cases p <;> with_unfolding_all rfl⟩, v, y, rfl, hy, hf, fun e => ?_, k1⟩
    have yk := hw e
    have k := k2 yk
    refine ⟨a, p, _, S, v, y, rfl, HS, hy, yk, fun H1 s1 => ?_⟩
    have g1 := g.ext s1
    have ga1 := g1.ha
    have lu := KysAt.len g.kh
    have lw := KysAt.len g.kr
    have hhl := ok.hl
    cases ef : S.find y with
    | none =>
      rw [ef] at k
      dsimp only at k
      simp only [optV]
      walk_at "rd"
      exact k H1 s1
    | some q =>
      rw [ef] at k
      dsimp only at k
      simp only [optV]
      walk_at "rd"
      refine iteN (by simp) ?_
      simp only [My.fld_held (T.shC_Shelf) ga1]
      walk_at "rd"
      have er := (ok.find_some yk.ne_non).mp ef
      have hq := (List.getElem?_eq_some_iff.mp er).1
      obtain ⟨w, e1, at2⟩ := at_any (xs := us) (c := (q : Nat)) (by omega) (by omega)
      rw [Int.toNat_natCast] at e1
      obtain ⟨z, e2, hz1⟩ := g1.kh.get e1
      have zv := ok.hv z (List.mem_of_getElem? e2)
      have hy1 := hy.same s1 _ _
      refine ⟨_, _, SqL.of g1.hh, at2, ?_⟩
      walk_at "rd"
      refine ⟨⟨_, _, ga1, by cases p <;> with_unfolding_all rfl⟩, a, dx, p, c, r, hh, b, S, ws, us, v, y, _, rfl, g1, ok.cw, hy1, yk, fun H2 s2 => ?_⟩
      have g2 := (g1.ext s2).cellsU (cs := S.cells.set (lastSlot S.cells S.row S.j y).toNat (-2))
      have ga2 := g2.ha
      have gr2 : Gr [a, c, r, hh, b] H (upd H2 c (.lst ((S.cells.set (lastSlot S.cells S.row S.j y).toNat (-2)).map V.int))) := (Gr.of (s1.trans s2)).put (by simp)
      have hz2 := ky_upd (o' := .lst ((S.cells.set (lastSlot S.cells S.row S.j y).toNat (-2)).map V.int)) (g1.ext s2).hc (fun _ z => by cases z) zv.1 (hz1.same s2 _ _)
      generalize upd H2 c (.lst ((S.cells.set (lastSlot S.cells S.row S.j y).toNat (-2)).map V.int)) = H3 at g2 ga2 gr2 hz2 ⊢
      simp only [My.fld_row (T.shC_Shelf) ga2]
      walk_at "rd"
      refine ⟨_, _, g2.hr, ixN_nat (by omega) (by omega), ?_⟩
      rw [Int.toNat_natCast]
      have g3 := g2.rowU (ws' := ws.set q .non) (ks := S.row.set q .non) (vals_set g.vr rfl) (g2.kr.set .non)
      have ga3 := g3.ha
      have gr3 : Gr [a, c, r, hh, b] H (upd H3 r (.lst (ws.set q .non))) := gr2.put (by simp)
      have hz3 := ky_upd (o' := .lst (ws.set q .non)) g2.hr (fun _ z => by cases z) zv.1 hz2
      generalize upd H3 r (.lst (ws.set q .non)) = H4 at g3 ga3 gr3 hz3 ⊢
      simp only [My.fld_held (T.shC_Shelf) ga3]
      walk_at "rd"
      refine ⟨_, _, g3.hh, ixN_nat (by omega) (by omega), ?_⟩
      rw [Int.toNat_natCast]
      have g4 := g3.heldU (us' := us.set q .non) (ks := S.held.set q .non) (vals_set g.vh rfl) (g3.kh.set .non)
      have ga4 := g4.ha
      have gr4 : Gr [a, c, r, hh, b] H (upd H4 hh (.lst (us.set q .non))) := gr3.put (by simp)
      have hz4 := ky_upd (o' := .lst (us.set q .non)) g3.hh (fun _ z => by cases z) zv.1 hz3
      generalize upd H4 hh (.lst (us.set q .non)) = H5 at g4 ga4 gr4 hz4 ⊢
      rw [aug_goings T.shC_Shelf ga4]
      have g5 := g4.fldU (S' := S.went q y)
      exact k _ [a, c, r, hh, b] w z (gr4.put (by simp)) Sub.refl ⟨dx, c, r, hh, b, _, _, rfl, g5, ok.went er yk.ne_non⟩ e2 (ky_upd ga4 (fun _ z => by cases z) zv.1 hz4)

end Law
namespace Law
open PySem PySem.Spec PyProof.Rows L2 My
theorem sc_Shelf_ahead : FnScope ["self", "number", "place"] ["self", "number"] (defScope s_Shelf_ahead) := ⟨rfl, rfl, rfl, by decide +kernel, rfl, by decide +kernel, by decide +kernel⟩
theorem ok_Shelf_ahead {P : Program} {w : World} {K : PySem.W.Frag} {mg : Str → Option Value} {base : Heap} {A : Ad} (T : Txt K mg A) : FnOk P w K mg base CX0 1 A.a_Shelf_ahead A.d_Shelf_ahead ["self", "number"] (spAheadS A.c_Shelf) := by
  refine T.F_Shelf_ahead.ok sc_Shelf_ahead (fun vs H Q E h => ?_) (fun cdv A' outer s H vs Q E hr h => ?_)
  · exact len_aheadS h
  · have nd := sc_Shelf_ahead.nd
    have hu := hu_of hr
    refine ⟨_, (pss_cons (ps_for PassesOwn.never rfl (pi_range3 rfl T.n_range (pa_cons (pe_op op_sub (pe_callB call_lenU rfl T.n_len PySem.boot_len (pa_cons (pe_fld (pv 0) rfl) pa_nil)) pe_int) (pa_cons (pe_un un_neg pe_int) (pa_cons (pe_un un_neg pe_int) pa_nil)))) (pg_name (i := 2) nd rfl (Or.inl rfl)) (pss_one (ps_if (PW.pt (pw_and (pt_cmpR op_notN (pe_ix ix_list (pe_fld (pv 0) rfl) (pv 2) (fun _ _ => rfl)) pe_non (nomark _)) (pw_and1 (pt_cmpR op_lt (pe_ix ix_list (pe_fld (pv 0) rfl) (pv 2) (fun _ _ => rfl)) (pv 1) (nomark _))))) (pss_one (ps_ret (pe_tup (pa_cons (pe_ix ix_list (pe_fld (pv 0) rfl) (pv 2) (fun _ _ => rfl)) (pa_cons (pe_ix ix_list (pe_fld (pv 0) rfl) (pv 2) (fun _ _ => rfl)) (pa_cons (pe_ix ix_list (pe_fld (pv 0) rfl) (pv 2) (fun _ _ => rfl)) pa_nil)))))) pss_nil))) (pss_one (ps_ret pe_non))), ?_⟩
    clear nd
    obtain ⟨a, p, fp, S, n, rfl, hS, k⟩ := h
    obtain ⟨dx, c, r, hh, b, ws, us, rfl, g, ok⟩ := hS
    have ga := g.ha
    have lw := KysAt.len g.kr
    have lu := KysAt.len g.kh
    have hhl := ok.hl
    have hbl := ok.bl
    have lt := ok.cw.lt
    walk_at "rd"
    simp only [My.fld_row (T.shC_Shelf) ga]
    walk_at "rd"
    refine ⟨_, .inl (SqL.of g.hr), _, RgC.neg (by omega) (by omega) (by decide) (by decide), ?_⟩
    rw [show ((ws.length : Int) - 1 - -1).toNat = ws.length by omega]
    refine go_rangeC (fun i σ H' => ∃ v2, σ = [some (.ref a), some (.int n), v2] ∧ H' = H ∧ ∀ q, ws.length - i ≤ q → q < S.row.length → S.liv (fun b => decide (b < n)) q = false) ⟨_, rfl, rfl, fun q h1 h2 => by omega⟩ ?_ ?_
    · rintro N i σ H' hi ⟨v2, rfl, rfl, hb⟩ hN
      rw [show (ws.length : Int) - 1 + (i : Nat) * -1 = ((ws.length - 1 - i : Nat) : Int) by omega]
      have hb : ∀ q, ws.length - 1 - i < q → q < S.row.length → S.liv (fun b => decide (b < n)) q = false := fun q h => hb q (by omega)
      have nx : ∀ q, ws.length - (i + 1) ≤ q → ws.length - 1 - i < q ∨ q = ws.length - 1 - i := fun q h => by omega
      have hm : ws.length - 1 - i < ws.length := by omega
      generalize ws.length - 1 - i = m at hb nx hm ⊢
      obtain ⟨x, h1, h2⟩ := at_any (xs := ws) (c := (m : Nat)) (by omega) (by omega)
      rw [Int.toNat_natCast] at h1
      obtain ⟨y, hy, hv⟩ := g.kr.get h1
      walk_at "rd"
      simp only [My.fld_row (T.shC_Shelf) ga]
      walk_at "rd"
      refine ⟨_, _, SqL.of g.hr, h2, ?_⟩
      walk_at "rd"
      have next : S.liv (fun b => decide (b < n)) m = false → N [some (V.ref a), some (V.int n), some (V.int m)] H' := fun e => hN _ _ ⟨_, rfl, rfl, fun q h1 h2 => by
        rcases nx q h1 with c | c
        · exact hb q c h2
        · rw [c]; exact e⟩
      refine iteB (fun c1 => ?_) fun c1 => next (by
        have : y = .non := hv.ne_non.mp (by simpa using c1)
        unfold Sh.liv
        rw [List.getD_eq_getElem?_getD, hy, this]
        rfl)
      simp only [My.fld_born (T.shC_Shelf) ga]
      walk_at "rd"
      refine ⟨_, _, SqL.of g.hb, at_int (by omega) (by omega), ?_⟩
      walk_at "rd"
      have lv : S.liv (fun b => decide (b < n)) m = decide (getI S.born m < n) := by
        unfold Sh.liv
        rw [List.getD_eq_getElem?_getD, hy, decide_eq_true (show (some y).getD .non ≠ .non from fun e => c1 (hv.ne_non.mpr e)), Bool.true_and]
      refine iteB (fun c2 => ?_) fun c2 => next (by rw [lv]; exact decide_eq_false (by simpa using c2))
      have ea : S.ahead n = some m := lastP_stop (by omega) (by rw [lv]; exact decide_eq_true (by simpa using c2)) hb
      rw [ea] at k
      dsimp only at k
      simp only [My.fld_born (T.shC_Shelf) ga]
      walk_at "rd"
      refine ⟨_, _, SqL.of g.hb, at_int (by omega) (by omega), ?_⟩
      simp only [My.fld_row (T.shC_Shelf) ga]
      walk_at "rd"
      refine ⟨_, _, SqL.of g.hr, h2, ?_⟩
      simp only [My.fld_held (T.shC_Shelf) ga]
      walk_at "rd"
      obtain ⟨w1, q1, q2⟩ := at_any (xs := us) (c := (m : Nat)) (by omega) (by omega)
      rw [Int.toNat_natCast] at q1
      obtain ⟨z, q3, hz⟩ := g.kh.get q1
      refine ⟨_, _, SqL.of g.hh, q2, by walk_at "sz", fun Tp hTp => ?_⟩
      have sT := Same_upd (o := .tup [.int (getI S.born m), x, w1]) (Same.refl H') hTp
      refine k _ _ sT (.tup upd_same (.cons (.num _) (.cons ?_ (.cons ?_ .nil))))
      · rw [List.getD_eq_getElem?_getD, hy]; exact hv.same sT _ _
      · rw [List.getD_eq_getElem?_getD, q3]; exact hz.same sT _ _
    · rintro σ H' ⟨v2, rfl, rfl, hb⟩
      walk_at "rd"
      have ea : S.ahead n = none := lastP_none.mpr fun q h => hb q (by omega) h
      rw [ea] at k
      exact k H' (Same.refl _)
theorem sc_Shelf_take_last : FnScope ["self", "last"] ["self"] (defScope s_Shelf_take_last) := ⟨rfl, rfl, rfl, by decide +kernel, rfl, by decide +kernel, by decide +kernel⟩
theorem ok_Shelf_take_last {P : Program} {w : World} {K : PySem.W.Frag} {mg : Str → Option Value} {base : Heap} {A : Ad} (T : Txt K mg A) : FnOk P w K mg base (L2.CX P w) 9 A.a_Shelf_take_last A.d_Shelf_take_last ["self"] (spTakeLast A.c_Shelf A.c_Lacking) := by
  refine T.F_Shelf_take_last.okX sc_Shelf_take_last (fun vs H Q E h => ?_) (fun cdv A' outer s H vs Q E hr h => ?_)
  · exact len_takeLast h
  · have nd := sc_Shelf_take_last.nd
    have hu := hu_of hr
    refine ⟨_, (pss_cons (ps_set (i := 1) nd rfl (Or.inl rfl) (pe_meth (pv 0) T.cl_Shelf T.me_Shelf_ahead (ok_Shelf_ahead T) (hr.mono (by decide)) T.b_Shelf_ahead .nil pass0 (pa_cons (pe_op op_add (pe_fld (pv 0) rfl) pe_int) pa_nil))) (pss_cons (ps_if (pt_cmpR op_isN (pv 1) pe_non (nomark _)) (pss_one (ps_raise rfl (takes_of rfl rfl rfl rfl) (pmk_own PySem.F.excBase_ValueError T.x_Lacking T.m_Lacking T.k_Lacking (raises_own T.eb_Lacking T.et_Lacking) rfl))) pss_nil) (pss_one (ps_ret (pe_tup (pa_cons (pe_ix ix_tup (pv 1) pe_int (fun _ _ => rfl)) (pa_cons (pe_meth (pv 0) T.cl_Shelf T.me_Shelf_take (ok_Shelf_take T) (hr.mono (by decide)) T.b_Shelf_take .nil (passes_call (takes_of rfl rfl rfl rfl) fun _ _ _ _ h => h) (pa_cons (pe_ix ix_tup (pv 1) pe_int (fun _ _ => rfl)) pa_nil)) pa_nil))))))), ?_⟩
    clear nd
    obtain ⟨a, p, fp, S, rfl, hS, k⟩ := h
    have HS := hS
    obtain ⟨dx, c, r, hh, b, ws, us, rfl, g, ok⟩ := hS
    have ga := g.ha
    have hhl := ok.hl
    walk_at "rd"
    refine ⟨⟨_, _, ga, by cases p <;> with_unfolding_all rfl⟩, ?_⟩
    simp only [My.fld_comings (T.shC_Shelf) ga]
    walk_at "rd"
    refine ⟨a, p, _, S, _, rfl, HS, ?_⟩
    unfold Sh.last at k
    cases ea : S.ahead (S.com + 1) with
    | none =>
      rw [ea] at k
      dsimp only at k ⊢
      intro H1 s1
      walk_at "rd"
      exact k H1 s1
    | some q =>
      rw [ea] at k
      dsimp only at k ⊢
      intro H1 x s1 hx
      obtain ⟨lq, lv⟩ := ahead_liv ea
      obtain ⟨y, ey, yk, eg⟩ := liv_key ok lv
      obtain ⟨T1, x0, x1, x2, rfl, hT, h0, h1, h2⟩ := tup3_of hx
      have g1 := g.ext s1
      rw [eg] at h1
      walk_at "rd"
      refine ⟨_, _, SqT.of hT, rfl, ?_⟩
      walk_at "rd"
      refine ⟨⟨_, _, g1.ha, by cases p <;> with_unfolding_all rfl⟩, _, _, SqT.of hT, rfl, ?_⟩
      walk_at "rd"
      refine ⟨a, p, [a, c, r, hh, b], S, x1, y, rfl, ⟨dx, c, r, hh, b, ws, us, rfl, g1, ok⟩, h1, yk.f, fun _ => yk, fun e => (by rw [yk.w] at e; cases e), fun _ => ?_⟩
      rw [(ok.find_some yk.ne_non).mpr ey]
      dsimp only
      intro H2 fp2 u z gr2 sb2 hS2 ez hu
      have hy2 := ShAt.ky ⟨dx, c, r, hh, b, ws, us, rfl, g1, ok⟩ gr2 yk.val h1
      have s3 := fun t (ht : Fresh H2 t) => Same_upd (o := .tup [x1, u]) (Same.refl H2) ht
      refine ⟨by walk_at "sz", fun t ht => ?_⟩
      rw [eg] at k
      refine k _ fp2 _ (((Gr.of s1).trans gr2).trans (Gr.of (s3 t ht))) (fun x m => (sb2 x m).imp id fun f => Same_fresh s1 f) (hS2.ext (s3 t ht)) (.tup upd_same (.cons (hy2.same (s3 t ht) _ _) (.cons ?_ .nil)))
      rw [List.getD_eq_getElem?_getD, ez]
      exact hu.same (s3 t ht) _ _
theorem sc_Shelf_at : FnScope ["self", "key", "place"] ["self", "key"] (defScope s_Shelf_at) := ⟨rfl, rfl, rfl, by decide +kernel, rfl, by decide +kernel, by decide +kernel⟩
theorem ok_Shelf_at {P : Program} {w : World} {K : PySem.W.Frag} {mg : Str → Option Value} {base : Heap} {A : Ad} (T : Txt K mg A) : FnOk P w K mg base (L2.CX P w) 8 A.a_Shelf_at A.d_Shelf_at ["self", "key"] (spAt A.c_Shelf A.c_NoKey A.c_Lacking) := by
  refine T.F_Shelf_at.okX sc_Shelf_at (fun vs H Q E h => ?_) (fun cdv A' outer s H vs Q E hr h => ?_)
  · exact len_at h
  · have nd := sc_Shelf_at.nd
    have hu := hu_of hr
    refine ⟨_, (pss_cons (ps_set (i := 2) nd rfl (Or.inl rfl) (pe_meth (pv 0) T.cl_Shelf T.me_Shelf_find (ok_Shelf_find T) (hr.mono (by decide)) T.b_Shelf_find .nil pass0 (pa_cons (pe_call (ok_checked T) (hr.mono (by decide)) rfl T.m_checked T.F_checked.kp T.b_checked .nil (passes_call (takes_of rfl rfl rfl rfl) fun _ _ _ _ h => h) (pa_cons (pv 1) pa_nil)) pa_nil))) (pss_cons (ps_if (pt_cmpR op_isN (pv 2) pe_non (nomark _)) (pss_one (ps_raise rfl (takes_of rfl rfl rfl rfl) (pmk_own PySem.F.excBase_ValueError T.x_Lacking T.m_Lacking T.k_Lacking (raises_own T.eb_Lacking T.et_Lacking) rfl))) pss_nil) (pss_one (ps_ret (pe_ix ix_list (pe_fld (pv 0) rfl) (pv 2) (fun _ _ => rfl)))))), ?_⟩
    clear nd
    obtain ⟨a, p, fp, S, v, y, rfl, hS, hy, hf, hw, k1, k2⟩ := h
    have HS := hS
    obtain ⟨dx, c, r, hh, b, ws, us, rfl, g, ok⟩ := hS
    have ga := g.ha
    walk_at "rd"
    refine ⟨⟨_, _, ga, by cases p <;> with_unfolding_all rfl⟩, v, y, rfl, hy, hf, fun e => ?_, k1⟩
    have yk := hw e
    have k := k2 yk
    refine ⟨a, p, _, S, v, y, rfl, HS, hy, yk, fun H1 s1 => ?_⟩
    have g1 := g.ext s1
    have ga1 := g1.ha
    have lu := KysAt.len g.kh
    have hhl := ok.hl
    unfold Sh.heldAt at k
    cases ef : S.find y with
    | none =>
      rw [ef] at k
      dsimp only at k
      walk_at "rd"
      exact iteP (by simp [optV]) (k H1 s1)
    | some q =>
      rw [ef] at k
      dsimp only at k
      simp only [optV]
      walk_at "rd"
      refine iteN (by simp) ?_
      simp only [My.fld_held (T.shC_Shelf) ga1]
      walk_at "rd"
      have hq := (List.getElem?_eq_some_iff.mp ((ok.find_some yk.ne_non).mp ef)).1
      obtain ⟨w, e1, at2⟩ := at_any (xs := us) (c := (q : Nat)) (by omega) (by omega)
      rw [Int.toNat_natCast] at e1
      obtain ⟨z, e2, hz⟩ := g1.kh.get e1
      rw [e2] at k
      exact ⟨_, _, SqL.of g1.hh, at2, k H1 w s1 hz⟩
theorem sc_Shelf_told : FnScope ["self", "key", "other", "place"] ["self", "key", "other"] (defScope s_Shelf_told) := ⟨rfl, rfl, rfl, by decide +kernel, rfl, by decide +kernel, by decide +kernel⟩
theorem ok_Shelf_told {P : Program} {w : World} {K : PySem.W.Frag} {mg : Str → Option Value} {base : Heap} {A : Ad} (T : Txt K mg A) : FnOk P w K mg base (L2.CX P w) 8 A.a_Shelf_told A.d_Shelf_told ["self", "key", "other"] (spTold A.c_Shelf A.c_NoKey) := by
  refine T.F_Shelf_told.ok sc_Shelf_told (fun vs H Q E h => ?_) (fun cdv A' outer s H vs Q E hr h => ?_)
  · exact len_told h
  · have nd := sc_Shelf_told.nd
    have hu := hu_of hr
    refine ⟨_, (pss_cons (ps_set (i := 3) nd rfl (Or.inl rfl) (pe_meth (pv 0) T.cl_Shelf T.me_Shelf_find (ok_Shelf_find T) (hr.mono (by decide)) T.b_Shelf_find .nil pass0 (pa_cons (pe_call (ok_checked T) (hr.mono (by decide)) rfl T.m_checked T.F_checked.kp T.b_checked .nil (passes_call (takes_of rfl rfl rfl rfl) fun _ _ _ _ h => h) (pa_cons (pv 1) pa_nil)) pa_nil))) (pss_cons (ps_if (pt_cmpR op_isN (pv 3) pe_non (nomark _)) (pss_one (ps_ret (pv 2))) pss_nil) (pss_one (ps_ret (pe_ix ix_list (pe_fld (pv 0) rfl) (pv 3) (fun _ _ => rfl)))))), ?_⟩
    clear nd
    obtain ⟨a, p, fp, S, v, y, w0, rfl, hS, hy, hf, hw, k1, k2⟩ := h
    have HS := hS
    obtain ⟨dx, c, r, hh, b, ws, us, rfl, g, ok⟩ := hS
    have ga := g.ha
    walk_at "rd"
    refine ⟨⟨_, _, ga, by cases p <;> with_unfolding_all rfl⟩, v, y, rfl, hy, hf, fun e => ?_, k1⟩
    have yk := hw e
    have k := k2 yk
    refine ⟨a, p, _, S, v, y, rfl, HS, hy, yk, fun H1 s1 => ?_⟩
    have g1 := g.ext s1
    have ga1 := g1.ha
    have lu := KysAt.len g.kh
    have hhl := ok.hl
    unfold Sh.heldAt at k
    cases ef : S.find y with
    | none =>
      rw [ef] at k
      dsimp only at k
      walk_at "rd"
      exact iteP (by simp [optV]) (k H1 s1)
    | some q =>
      rw [ef] at k
      dsimp only at k
      simp only [optV]
      walk_at "rd"
      refine iteN (by simp) ?_
      simp only [My.fld_held (T.shC_Shelf) ga1]
      walk_at "rd"
      have hq := (List.getElem?_eq_some_iff.mp ((ok.find_some yk.ne_non).mp ef)).1
      obtain ⟨w, e1, at2⟩ := at_any (xs := us) (c := (q : Nat)) (by omega) (by omega)
      rw [Int.toNat_natCast] at e1
      obtain ⟨z, e2, hz⟩ := g1.kh.get e1
      rw [e2] at k
      exact ⟨_, _, SqL.of g1.hh, at2, k H1 w s1 hz⟩

end Law
namespace Law
open PySem PySem.Spec PyProof.Rows L2 My
theorem sc_Shelf_has : FnScope ["self", "key"] ["self", "key"] (defScope s_Shelf_has) := ⟨rfl, rfl, rfl, by decide +kernel, rfl, by decide +kernel, by decide +kernel⟩
theorem ok_Shelf_has {P : Program} {w : World} {K : PySem.W.Frag} {mg : Str → Option Value} {base : Heap} {A : Ad} (T : Txt K mg A) : FnOk P w K mg base (L2.CX P w) 8 A.a_Shelf_has A.d_Shelf_has ["self", "key"] (spHas A.c_Shelf A.c_NoKey) := by
  refine T.F_Shelf_has.okX sc_Shelf_has (fun vs H Q E h => ?_) (fun cdv A' outer s H vs Q E hr h => ?_)
  · exact len_has h
  · have nd := sc_Shelf_has.nd
    have hu := hu_of hr
    refine ⟨_, (pss_one (ps_ret (pe_cmpR op_notN (pe_meth (pv 0) T.cl_Shelf T.me_Shelf_find (ok_Shelf_find T) (hr.mono (by decide)) T.b_Shelf_find .nil pass0 (pa_cons (pe_call (ok_checked T) (hr.mono (by decide)) rfl T.m_checked T.F_checked.kp T.b_checked .nil (passes_call (takes_of rfl rfl rfl rfl) fun _ _ _ _ h => h) (pa_cons (pv 1) pa_nil)) pa_nil)) pe_non (nomark _)))), ?_⟩
    clear nd
    obtain ⟨a, p, fp, S, v, y, rfl, hS, hy, hf, hw, k1, k2⟩ := h
    have HS := hS
    obtain ⟨dx, c, r, hh, b, ws, us, rfl, g, ok⟩ := hS
    have ga := g.ha
    walk_at "rd"
    refine ⟨⟨_, _, ga, by cases p <;> with_unfolding_all rfl⟩, v, y, rfl, hy, hf, fun e => ?_, k1⟩
    have yk := hw e
    have k := k2 yk
    refine ⟨a, p, _, S, v, y, rfl, HS, hy, yk, fun H1 s1 => ?_⟩
    walk_at "rd"
    have e3 : (!decide (optV (S.find y) = V.non)) = (S.find y).isSome := by cases S.find y <;> simp [optV]
    rw [e3]
    exact k H1 s1
theorem sc_Shelf_many : FnScope ["self"] ["self"] (defScope s_Shelf_many) := ⟨rfl, rfl, rfl, by decide +kernel, rfl, by decide +kernel, by decide +kernel⟩
theorem ok_Shelf_many {P : Program} {w : World} {K : PySem.W.Frag} {mg : Str → Option Value} {base : Heap} {A : Ad} (T : Txt K mg A) : FnOk P w K mg base CX0 1 A.a_Shelf_many A.d_Shelf_many ["self"] (spMany A.c_Shelf) := by
  refine T.F_Shelf_many.ok sc_Shelf_many (fun vs H Q E h => ?_) (fun cdv A' outer s H vs Q E hr h => ?_)
  · exact len_many h
  · have nd := sc_Shelf_many.nd
    have hu := hu_of hr
    refine ⟨_, (pss_one (ps_ret (pe_op op_sub (pe_fld (pv 0) rfl) (pe_fld (pv 0) rfl)))), ?_⟩
    clear nd
    obtain ⟨a, p, fp, S, rfl, hS, k⟩ := h
    obtain ⟨dx, c, r, hh, b, ws, us, rfl, g, ok⟩ := hS
    have ga := g.ha
    walk_at "rd"
    simp only [My.fld_comings (T.shC_Shelf) ga, My.fld_goings (T.shC_Shelf) ga]
    walk_at "rd"
    exact k
theorem sc_Shelf_counts : FnScope ["self"] ["self"] (defScope s_Shelf_counts) := ⟨rfl, rfl, rfl, by decide +kernel, rfl, by decide +kernel, by decide +kernel⟩
theorem ok_Shelf_counts {P : Program} {w : World} {K : PySem.W.Frag} {mg : Str → Option Value} {base : Heap} {A : Ad} (T : Txt K mg A) : FnOk P w K mg base CX0 2 A.a_Shelf_counts A.d_Shelf_counts ["self"] (spCounts A.c_Shelf) := by
  refine T.F_Shelf_counts.ok sc_Shelf_counts (fun vs H Q E h => ?_) (fun cdv A' outer s H vs Q E hr h => ?_)
  · exact len_counts h
  · have nd := sc_Shelf_counts.nd
    have hu := hu_of hr
    refine ⟨_, (pss_one (ps_ret (pe_tup (pa_cons (pe_meth0 (pv 0) T.cl_Shelf T.me_Shelf_many (ok_Shelf_many T) (hr.mono (by decide)) T.b_Shelf_many .nil pass0) (pa_cons (pe_fld (pv 0) rfl) (pa_cons (pe_fld (pv 0) rfl) (pa_cons (pe_fld (pv 0) rfl) (pa_cons (pe_fld (pv 0) rfl) pa_nil)))))))), ?_⟩
    clear nd
    obtain ⟨a, p, fp, S, rfl, hS, k⟩ := h
    have HS := hS
    obtain ⟨dx, c, r, hh, b, ws, us, rfl, g, ok⟩ := hS
    have ga := g.ha
    walk_at "rd"
    refine ⟨⟨_, _, ga, by cases p <;> with_unfolding_all rfl⟩, a, p, _, S, rfl, HS, ?_⟩
    simp only [My.fld_comings (T.shC_Shelf) ga, My.fld_goings (T.shC_Shelf) ga, My.fld_tidied (T.shC_Shelf) ga, My.fld_moved (T.shC_Shelf) ga]
    walk_at "rd"
    exact ⟨by walk_at "sz", fun T hT => k _ T (Same_upd (Same.refl _) hT) hT upd_same⟩
theorem sc_Shelf_relay : FnScope ["self"] ["self"] (defScope s_Shelf_relay) := ⟨rfl, rfl, rfl, by decide +kernel, rfl, by decide +kernel, by decide +kernel⟩
theorem ok_Shelf_relay {P : Program} {w : World} {K : PySem.W.Frag} {mg : Str → Option Value} {base : Heap} {A : Ad} (T : Txt K mg A) : FnOk P w K mg base CX0 7 A.a_Shelf_relay A.d_Shelf_relay ["self"] (spRelay A.c_Shelf) := by
  refine T.F_Shelf_relay.ok sc_Shelf_relay (fun vs H Q E h => ?_) (fun cdv A' outer s H vs Q E hr h => ?_)
  · exact len_relay h
  · have nd := sc_Shelf_relay.nd
    have hu := hu_of hr
    refine ⟨_, (pss_one (ps_fld (pv 0) (pe_call (ok_cells_of T) (hr.mono (by decide)) rfl T.m_cells_of T.F_cells_of.kp T.b_cells_of .nil pass0 (pa_cons (pe_fld (pv 0) rfl) (pa_cons (pe_fld (pv 0) rfl) pa_nil))) rfl)), ?_⟩
    clear nd
    obtain ⟨a, dx, p, c, r, hh, b, S, ws, us, rfl, g, hR, ⟨j3, j12⟩, hl, k⟩ := h
    have ga := g.ha
    walk_at "rd"
    simp only [My.fld_row (T.shC_Shelf) ga, My.fld_size (T.shC_Shelf) ga]
    walk_at "rd"
    refine ⟨r, ws, S.row, S.j, rfl, SqL.of g.hr, g.kr, hR, ⟨j3, j12, hl⟩, fun c' H1 s1 fc hc => ?_⟩
    have g1 := g.ext s1
    have ga1 := g1.ha
    dsimp only
    rw [set_cells T.shC_Shelf (cs := layN S.j S.row S.row.length) ga1]
    have g2 := g1.reC (c' := c') (cs := layN S.j S.row S.row.length) hc ⟨(fc.ne g.hr).symm, (fc.ne g.hh).symm, (fc.ne g.hb).symm⟩
    exact k _ c' ((Gr.of s1).put (by simp)) fc g2
theorem sc_Shelf_emptied : FnScope ["self"] ["self"] (defScope s_Shelf_emptied) := ⟨rfl, rfl, rfl, by decide +kernel, rfl, by decide +kernel, by decide +kernel⟩
theorem ok_Shelf_emptied {P : Program} {w : World} {K : PySem.W.Frag} {mg : Str → Option Value} {base : Heap} {A : Ad} (T : Txt K mg A) : FnOk P w K mg base CX0 8 A.a_Shelf_emptied A.d_Shelf_emptied ["self"] (spEmptied A.c_Shelf) := by
  refine T.F_Shelf_emptied.ok sc_Shelf_emptied (fun vs H Q E h => ?_) (fun cdv A' outer s H vs Q E hr h => ?_)
  · exact len_emptied h
  · have nd := sc_Shelf_emptied.nd
    have hu := hu_of hr
    refine ⟨_, (pss_cons (ps_fld (pv 0) (pe_fld (pv 0) rfl) rfl) (pss_cons (ps_fld (pv 0) (pe_fld (pv 0) rfl) rfl) (pss_cons (ps_fld (pv 0) (pe_lst pa_nil) rfl) (pss_cons (ps_fld (pv 0) (pe_lst pa_nil) rfl) (pss_cons (ps_fld (pv 0) (pe_lst pa_nil) rfl) (pss_one (ps_expr (pe_meth0 (pv 0) T.cl_Shelf T.me_Shelf_relay (ok_Shelf_relay T) (hr.mono (by decide)) T.b_Shelf_relay .nil pass0)))))))), ?_⟩
    clear nd
    obtain ⟨a, p, fp, S, rfl, hS, k⟩ := h
    obtain ⟨dx, c, r, hh, b, ws, us, rfl, g, ok⟩ := hS
    have ga := g.ha
    walk_at "rd"
    simp only [My.fld_comings (T.shC_Shelf) ga]
    walk_at "rd"
    rw [set_goings T.shC_Shelf ga]
    have g1 := g.fldU (S' := { S with goi := S.com })
    have gr1 : Gr [a] H (upd H a (.ins A.c_Shelf dx (shF p c r hh b { S with goi := S.com }))) := Gr.refl.put (by simp)
    have ga := g1.ha
    generalize upd H a (.ins A.c_Shelf dx (shF p c r hh b { S with goi := S.com })) = H1 at g1 gr1 ga ⊢
    simp only [My.fld_least (T.shC_Shelf) ga]
    walk_at "rd"
    rw [set_size T.shC_Shelf ga]
    have g2 := g1.fldU (S' := { S with goi := S.com, j := S.jl })
    have gr2 : Gr [a] H (upd H1 a (.ins A.c_Shelf dx (shF p c r hh b { S with goi := S.com, j := S.jl }))) := gr1.put (by simp)
    generalize upd H1 a (.ins A.c_Shelf dx (shF p c r hh b { S with goi := S.com, j := S.jl })) = H2 at g2 gr2 ⊢
    refine ⟨by walk_at "sz", fun r' hr1 => ?_⟩
    have n2 := g2.ne
    have g3 := g2.ext (Same_upd (o := .lst []) (Same.refl _) hr1)
    have er : upd H2 r' (.lst []) r' = some (.lst []) := upd_same
    have fr : Fresh H r' := gr2.free _ hr1
    have gr3 : Gr [a] H (upd H2 r' (.lst [])) := gr2.new fr
    have nr : c ≠ r' ∧ r' ≠ hh ∧ r' ≠ b := ⟨hr1.ne g2.hc, (hr1.ne g2.hh).symm, (hr1.ne g2.hb).symm⟩
    generalize upd H2 r' (.lst []) = H3 at g3 er gr3 ⊢
    rw [set_row T.shC_Shelf (ks := []) g3.ha]
    have g4 := g3.reR (ks := []) er rfl .nil nr
    have gr4 : Gr [a] H (upd H3 a (.ins A.c_Shelf dx (shF p c r' hh b { S with goi := S.com, j := S.jl, row := [] }))) := gr3.put (by simp)
    generalize upd H3 a (.ins A.c_Shelf dx (shF p c r' hh b { S with goi := S.com, j := S.jl, row := [] })) = H4 at g4 gr4 ⊢
    refine ⟨by walk_at "sz", fun h' hh1 => ?_⟩
    have g5 := g4.ext (Same_upd (o := .lst []) (Same.refl _) hh1)
    have eh : upd H4 h' (.lst []) h' = some (.lst []) := upd_same
    have fh : Fresh H h' := gr4.free _ hh1
    have gr5 : Gr [a] H (upd H4 h' (.lst [])) := gr4.new fh
    have nh : c ≠ h' ∧ r' ≠ h' ∧ h' ≠ b := ⟨hh1.ne g4.hc, hh1.ne g4.hr, (hh1.ne g4.hb).symm⟩
    generalize upd H4 h' (.lst []) = H5 at g5 eh gr5 ⊢
    rw [set_held T.shC_Shelf (ks := []) g5.ha]
    have g6 := g5.reH (ks := []) eh rfl .nil nh
    have gr6 : Gr [a] H (upd H5 a (.ins A.c_Shelf dx (shF p c r' h' b { S with goi := S.com, j := S.jl, row := [], held := [] }))) := gr5.put (by simp)
    generalize upd H5 a (.ins A.c_Shelf dx (shF p c r' h' b { S with goi := S.com, j := S.jl, row := [], held := [] })) = H6 at g6 gr6 ⊢
    refine ⟨by walk_at "sz", fun b' hb1 => ?_⟩
    have g7 := g6.ext (Same_upd (o := .lst []) (Same.refl _) hb1)
    have eb : upd H6 b' (.lst []) b' = some (.lst (([] : List Int).map V.int)) := upd_same
    have fb : Fresh H b' := gr6.free _ hb1
    have gr7 : Gr [a] H (upd H6 b' (.lst [])) := gr6.new fb
    have nb : c ≠ b' ∧ r' ≠ b' ∧ h' ≠ b' := ⟨hb1.ne g6.hc, hb1.ne g6.hr, hb1.ne g6.hh⟩
    generalize upd H6 b' (.lst []) = H7 at g7 eb gr7 ⊢
    rw [set_born T.shC_Shelf (cs := []) g7.ha]
    have g8 := g7.reB (cs := []) eb nb
    have gr8 : Gr [a] H (upd H7 a (.ins A.c_Shelf dx (shF p c r' h' b' { S with goi := S.com, j := S.jl, row := [], held := [], born := [] }))) := gr7.put (by simp)
    generalize upd H7 a (.ins A.c_Shelf dx (shF p c r' h' b' { S with goi := S.com, j := S.jl, row := [], held := [], born := [] })) = H8 at g8 gr8 ⊢
    refine ⟨⟨_, _, g8.ha, by cases p <;> with_unfolding_all rfl⟩, a, dx, p, c, r', h', b', _, [], [], rfl, g8, (fun _ h => by cases h), ⟨ok.l3, ok.l12⟩, ?_, fun H9 c' gr9 fc g9 => ?_⟩
    · show ((0 : Nat) : Int) ≤ _
      have : (0 : Int) < 2 ^ S.jl := (pow_le (Nat.le_refl _)).1
      show (0 : Int) ≤ 2 * 2 ^ S.jl / 3
      omega
    refine k H9 [a, c', r', h', b'] ((gr8.trans gr9).mono (by simp)) (fun x hx => ?_) ⟨dx, c', r', h', b', [], [], rfl, g9, ok.emptied⟩
    simp only [List.mem_cons, List.not_mem_nil, or_false] at hx
    rcases hx with rfl | rfl | rfl | rfl | rfl
    · exact .inl (by simp)
    · exact .inr (gr8.free _ fc)
    · exact .inr fr
    · exact .inr fh
    · exact .inr fb

end Law
namespace Law
open PySem PySem.Spec PyProof.Rows L2 My
theorem sc_Shelf_pairs : FnScope ["self", "place", "key"] ["self"] (defScope s_Shelf_pairs) := ⟨rfl, rfl, rfl, by decide +kernel, rfl, by decide +kernel, by decide +kernel⟩
theorem ok_Shelf_pairs {P : Program} {w : World} {K : PySem.W.Frag} {mg : Str → Option Value} {base : Heap} {A : Ad} (T : Txt K mg A) : FnOk P w K mg base CX0 1 A.a_Shelf_pairs A.d_Shelf_pairs ["self"] (spPairs A.c_Shelf) := by
  refine T.F_Shelf_pairs.ok sc_Shelf_pairs (fun vs H Q E h => ?_) (fun cdv A' outer s H vs Q E hr h => ?_)
  · exact len_pairs h
  · have nd := sc_Shelf_pairs.nd
    have hu := hu_of hr
    refine ⟨_, (pss_one (ps_ret (pe_lc (own := [("place", 1), ("key", 2)]) rfl nd (pi_enum rfl T.n_enumerate (pa_cons (pe_fld (pv 0) rfl) pa_nil)) (blkOk_by (own := [("place", 1), ("key", 2)]) (N := ["self", "place", "key"]) (sc := defScope s_Shelf_pairs) (by decide +kernel)) (fun _ _ _ _ _ => (pg_tupK K (n := 2) rfl rfl (pgs_cons (pg_name (i := 1) nd rfl (Or.inl rfl)) (pgs_cons (pg_name (i := 2) nd rfl (Or.inl rfl)) pgs_nil)))) (fun _ _ _ _ _ => (pts_one (pt_cmpR op_notN (pv 2) pe_non (nomark _)))) (fun _ _ _ _ _ => (pe_tup (pa_cons (pv 2) (pa_cons (pe_ix (ix_listK K rfl) (pe_fldK K rfl (pv 0) rfl) (pv 1) (fun _ _ => rfl)) pa_nil))))))), ?_⟩
    clear nd
    obtain ⟨a, p, fp, S, rfl, hS, k⟩ := h
    obtain ⟨dx, c, r, hh, b, ws, us, rfl, g, ok⟩ := hS
    have ga := g.ha
    have lw := KysAt.len g.kr
    have lu := KysAt.len g.kh
    have hhl := ok.hl
    have lt := ok.cw.lt
    walk_at "rd"
    simp only [My.fld_row (T.shC_Shelf) ga]
    walk_at "rd"
    refine ⟨⟨_, SqL.of g.hr⟩, fun D hD => ?_⟩
    refine go_lck (walk_enum (xs := ws)) (pairsN S.row S.held) rfl (fun i _ => pairsN_vals ok i) (by rw [sizeLine_eq]; omega) (fun i => pairsN_len _ _ i) hD (fun H s => SqL.of (s _ _ g.hr)) ?_ ?_
    · rintro N Z i x H4 H5 hi s4 ⟨Tp, x1, y1, rfl, hT, rfl, e1, e2⟩ hN hZ
      cases e1
      obtain ⟨y, hy, hv⟩ := g.kr.get e2
      walk_at "rd"
      refine ⟨_, SqT.of upd_same, rfl, ?_⟩
      walk_at "rd"
      have sT : Same H4 (upd H4 Tp (.tup [V.int i, y1])) := Same_upd (Same.refl _) hT
      generalize upd H4 Tp (.tup [V.int i, y1]) = H6 at sT ⊢
      have g6 := g.ext (s4.trans sT)
      have ga6 := g6.ha
      have hv6 := hv.same (s4.trans sT) _ _
      refine iteB (fun c1 => ?_) fun c1 => hZ (by rw [pairsN, hy]; dsimp only; rw [if_pos (hv.ne_non.mp (by simpa using c1))]) _ sT
      simp only [My.fld_held (T.shC_Shelf) ga6]
      walk_at "rd"
      obtain ⟨w1, q1, q2⟩ := at_any (xs := us) (c := (i : Nat)) (by omega) (by omega)
      rw [Int.toNat_natCast] at q1
      obtain ⟨z, q3, hz⟩ := g6.kh.get q1
      refine ⟨_, _, SqL.of g6.hh, q2, by walk_at "sz", fun T2 hT2 => hN _ _ _ (by rw [pairsN, hy]; dsimp only; rw [if_neg (fun e => c1 (hv.ne_non.mpr e))]) (Same_upd sT hT2) (.tup upd_same (.cons (hv6.same (Same_upd (Same.refl _) hT2) _ _) (.cons ?_ .nil)))⟩
      rw [List.getD_eq_getElem?_getD, q3]
      exact hz.same (Same_upd (Same.refl _) hT2) _ _
    · intro H4 ys s4 hL hk
      walk_at "rd"
      rw [lw] at hk
      exact k H4 D ys s4 hD hL hk

end Law
namespace Law
open PySem PySem.Spec PyProof.Rows L2 My
theorem sc_law_do : FnScope ["_law_shelf", "_law_way_here", "_law_key_here", "_law_value_here"] ["_law_shelf", "_law_way_here", "_law_key_here", "_law_value_here"] (defScope s_law_do) := ⟨rfl, rfl, rfl, by decide +kernel, rfl, by decide +kernel, by decide +kernel⟩
theorem ok_law_do {P : Program} {w : World} {K : PySem.W.Frag} {mg : Str → Option Value} {base : Heap} {A : Ad} (T : Txt K mg A) : FnOk P w K mg base (L2.CX P w) 10 A.a_law_do A.d_law_do ["_law_shelf", "_law_way_here", "_law_key_here", "_law_value_here"] (spDeed A.c_Shelf A.c_Full A.c_Lacking fun _ => none) := by
  refine T.F_law_do.okX sc_law_do (fun vs H Q E h => ?_) (fun cdv A' outer s H vs Q E hr h => ?_)
  · exact len_deed h
  · have nd := sc_law_do.nd
    have hu := hu_of hr
    refine ⟨_, (pss_cons (ps_if (pt_cmpR op_eq (pv 1) pe_int (nomark _)) (pss_one (ps_ret (pe_meth (pv 0) T.cl_Shelf T.me_Shelf_put (ok_Shelf_put T) (hr.mono (by decide)) T.b_Shelf_put .nil (passes_call (takes_of rfl rfl rfl rfl) fun _ _ _ _ h => h) (pa_cons (pv 2) (pa_cons (pv 3) pa_nil))))) pss_nil) (pss_cons (ps_if (pt_cmpR op_eq (pv 1) pe_int (nomark _)) (pss_one (ps_ret (pe_meth (pv 0) T.cl_Shelf T.me_Shelf_take (ok_Shelf_take T) (hr.mono (by decide)) T.b_Shelf_take .nil (passes_call (takes_of rfl rfl rfl rfl) fun _ _ _ _ h => h) (pa_cons (pv 2) pa_nil)))) pss_nil) (pss_cons (ps_if (pt_cmpR op_eq (pv 1) pe_int (nomark _)) (pss_one (ps_ret (pe_meth0 (pv 0) T.cl_Shelf T.me_Shelf_take_last (ok_Shelf_take_last T) (hr.mono (by decide)) T.b_Shelf_take_last .nil (passes_call (takes_of rfl rfl rfl rfl) fun _ _ _ _ h => h)))) pss_nil) (pss_cons (ps_if (pt_cmpR op_eq (pv 1) pe_int (nomark _)) (pss_one (ps_ret (pe_meth (pv 0) T.cl_Shelf T.me_Shelf_at (ok_Shelf_at T) (hr.mono (by decide)) T.b_Shelf_at .nil (passes_call (takes_of rfl rfl rfl rfl) fun _ _ _ _ h => h) (pa_cons (pv 2) pa_nil)))) pss_nil) (pss_cons (ps_if (pt_cmpR op_eq (pv 1) pe_int (nomark _)) (pss_one (ps_ret (pe_meth (pv 0) T.cl_Shelf T.me_Shelf_told (ok_Shelf_told T) (hr.mono (by decide)) T.b_Shelf_told_3.choose_spec.2 T.b_Shelf_told_3.choose_spec.1 (passes_call (takes_of rfl rfl rfl rfl) fun _ _ _ _ h => h) (pa_cons (pv 2) (pa_cons (pv 3) pa_nil))))) pss_nil) (pss_cons (ps_if (pt_cmpR op_eq (pv 1) pe_int (nomark _)) (pss_one (ps_ret (pe_meth (pv 0) T.cl_Shelf T.me_Shelf_has (ok_Shelf_has T) (hr.mono (by decide)) T.b_Shelf_has .nil (passes_call (takes_of rfl rfl rfl rfl) fun _ _ _ _ h => h) (pa_cons (pv 2) pa_nil)))) pss_nil) (pss_cons (ps_if (pt_cmpR op_eq (pv 1) pe_int (nomark _)) (pss_one (ps_ret (pe_meth0 (pv 0) T.cl_Shelf T.me_Shelf_counts (ok_Shelf_counts T) (hr.mono (by decide)) T.b_Shelf_counts .nil pass0))) pss_nil) (pss_one (ps_ret (pe_meth0 (pv 0) T.cl_Shelf T.me_Shelf_emptied (ok_Shelf_emptied T) (hr.mono (by decide)) T.b_Shelf_emptied .nil pass0)))))))))), ?_⟩
    clear nd
    obtain ⟨sh, w, v, u, p, fp, S, y, z, rfl, hS, hy, yk, hu, hz, hw, k0, k1, k2⟩ := h
    have ok := hS.ok
    have mt : ∀ m : Str, (∀ c r h b : Addr, (shF p c r h b S).lookup m = none) → MetAt H sh A.c_Shelf m := fun m l => hS.met l
    walk_at "rd"
    match w, hw with
    | 0, _ =>
      unfold Sh.deed at k0 k1 k2
      refine ⟨mt _ (by cases p <;> intros <;> with_unfolding_all rfl), ⟨_, _, _, _, _, _, _, _, rfl, hS, hy, yk.f, fun _ => yk, hu, hz, fun e => (by rw [yk.w] at e; cases e), fun _ => ?_⟩⟩
      cases e : S.put (fun _ => none) y z with
      | none =>
        rw [e] at k1
        exact k1 rfl
      | some q =>
        rw [e] at k0
        exact fun H' fp' gr sb hS' => k0 rfl H' fp' _ gr sb hS' (.bl _)
    | 1, _ =>
      unfold Sh.deed at k0 k1 k2
      refine ⟨mt _ (by cases p <;> intros <;> with_unfolding_all rfl), ⟨_, _, _, _, _, _, rfl, hS, hy, yk.f, fun _ => yk, fun e => (by rw [yk.w] at e; cases e), fun _ => ?_⟩⟩
      cases e : S.find y with
      | none =>
        rw [e] at k2
        exact k2 rfl
      | some q =>
        rw [e] at k0
        exact fun H' fp' x z' gr sb hS' ez hx => k0 rfl H' fp' x gr sb hS' (by dsimp only; rw [List.getD_eq_getElem?_getD, ez]; exact hx)
    | 2, _ =>
      unfold Sh.deed at k0 k1 k2
      refine ⟨mt _ (by cases p <;> intros <;> with_unfolding_all rfl), _, _, _, _, rfl, hS, ?_⟩
      cases e : S.last with
      | none =>
        rw [e] at k2
        exact k2 rfl
      | some q =>
        rw [e] at k0
        exact fun H' fp' x gr sb hS' hx => k0 rfl H' fp' x gr sb hS' hx
    | 3, _ =>
      unfold Sh.deed at k0 k1 k2
      refine ⟨mt _ (by cases p <;> intros <;> with_unfolding_all rfl), ⟨_, _, _, _, _, _, rfl, hS, hy, yk.f, fun _ => yk, fun e => (by rw [yk.w] at e; cases e), fun _ => ?_⟩⟩
      cases e : S.heldAt y with
      | none =>
        rw [e] at k2
        exact k2 rfl
      | some q =>
        rw [e] at k0
        exact fun H' x s hx => k0 rfl H' fp x (Gr.of s) Sub.refl (hS.ext s) hx
    | 4, _ =>
      unfold Sh.deed at k0 k1 k2
      refine ⟨mt _ (by cases p <;> intros <;> with_unfolding_all rfl), ⟨_, _, _, _, _, _, _, rfl, hS, hy, yk.f, fun _ => yk, fun e => (by rw [yk.w] at e; cases e), fun _ => ?_⟩⟩
      cases e : S.heldAt y with
      | none =>
        rw [e] at k0
        exact fun H' s => k0 rfl H' fp _ (Gr.of s) Sub.refl (hS.ext s) (hu.same s _ _)
      | some q =>
        rw [e] at k0
        exact fun H' x s hx => k0 rfl H' fp x (Gr.of s) Sub.refl (hS.ext s) hx
    | 5, _ =>
      refine ⟨mt _ (by cases p <;> intros <;> with_unfolding_all rfl), ⟨_, _, _, _, _, _, rfl, hS, hy, yk.f, fun _ => yk, fun e => (by rw [yk.w] at e; cases e), fun _ => ?_⟩⟩
      exact fun H' s => k0 rfl H' fp _ (Gr.of s) Sub.refl (hS.ext s) (.bl _)
    | 6, _ =>
      refine ⟨mt _ (by cases p <;> intros <;> with_unfolding_all rfl), _, _, _, _, rfl, hS, fun H' T' s f hT => ?_⟩
      exact k0 rfl H' fp _ (Gr.of s) Sub.refl (hS.ext s) (.tup hT (nums_at _))
    | 7, _ =>
      refine ⟨mt _ (by cases p <;> intros <;> with_unfolding_all rfl), _, _, _, _, rfl, hS, fun H' fp' gr sb hS' => ?_⟩
      exact k0 rfl H' fp' _ gr sb hS' .non

end Law
namespace Law
open PySem PySem.Spec PyProof.Rows L2 My
theorem sc_law_asked : FnScope ["_law_shelf", "_law_way_here", "_law_key_here", "_law_value_here", "_law_refused", "_law_found"] ["_law_shelf", "_law_way_here", "_law_key_here", "_law_value_here"] (defScope s_law_asked) := ⟨rfl, rfl, rfl, by decide +kernel, rfl, by decide +kernel, by decide +kernel⟩
theorem ok_law_asked {P : Program} {w : World} {K : PySem.W.Frag} {mg : Str → Option Value} {base : Heap} {A : Ad} (T : Txt K mg A) : FnOk P w K mg base CX0 11 A.a_law_asked A.d_law_asked ["_law_shelf", "_law_way_here", "_law_key_here", "_law_value_here"] (spAsked A.c_Shelf fun _ => none) := by
  refine T.F_law_asked.ok sc_law_asked (fun vs H Q E h => ?_) (fun cdv A' outer s H vs Q E hr h => ?_)
  · exact len_asked h
  · have nd := sc_law_asked.nd
    have hu := hu_of hr
    refine ⟨_, (pss_cons (ps_set (i := 4) nd rfl (Or.inl rfl) pe_int) (pss_cons (ps_set (i := 5) nd rfl (Or.inl rfl) pe_non) (pss_cons (ps_try_many rfl rfl takes0 (fun W pn xe tk po => (pss_one (ps_set (i := 5) nd rfl (Or.inl rfl) (pe_callSD (ok_law_do T) (hr.mono (by decide)) rfl T.m_law_do T.F_law_do.kp T.b_law_do .nil (fun σ => passAt tk σ) (pa_cons (pv 0) (pa_cons (pv 1) (pa_cons (pv 2) (pa_cons (pv 3) pa_nil)))))))) (.cons ⟨rfl, by decide, .inl T.m_Full⟩ (fun a oe cls d pn hz hf => (pss_one (ps_set (i := 4) nd rfl (Or.inl rfl) pe_int))) (.cons ⟨rfl, by decide, .inl T.m_Lacking⟩ (fun a oe cls d pn hz hf => (pss_one (ps_set (i := 4) nd rfl (Or.inl rfl) pe_int))) .nil))) (pss_one (ps_ret (pe_tup (pa_cons (pv 4) (pa_cons (pv 5) pa_nil)))))))), ?_⟩
    clear nd
    obtain ⟨sh, w, v, u, p, fp, S, y, z, rfl, hS, hy, yk, hu, hz, hw, k⟩ := h
    walk_at "rd"
    refine ⟨sh, w, v, u, p, fp, S, y, z, rfl, hS, hy, yk, hu, hz, hw, fun e H' fp' x gr sb hS' hx => ?_, fun e H' s => ?_, fun e H' s => ?_⟩
    · walk_at "rd"
      refine ⟨by walk_at "sz", fun t ht => ?_⟩
      have st := Same_upd (o := .tup [.int 0, x]) (Same.refl H') ht
      refine k _ fp' _ (gr.trans (Gr.of st)) sb (hS'.ext st) ?_
      rw [e]
      exact .tup upd_same (.cons (.num _) (.cons (hx.same st _ _) .nil))
    · refine wMany_yes T.ex_Full_Full fun a fa => ?_
      walk_at "rd"
      refine ⟨by walk_at "sz", fun t ht => ?_⟩
      have st := Same_upd (o := .tup [.int 1, .non]) s ht
      obtain ⟨-, e2, e3⟩ := deed_ref (mr := fun _ => none) (S := S) (w := w) (y := y) (z := z) (by rw [e]; decide)
      refine k _ fp _ (Gr.of st) Sub.refl (by rw [e3]; exact hS.ext st) ?_
      rw [e, e2]
      exact .tup upd_same (.cons (.num _) (.cons .non .nil))
    · refine wMany_no T.ex_Lacking_Full (wMany_yes T.ex_Lacking_Lacking fun a fa => ?_)
      walk_at "rd"
      refine ⟨by walk_at "sz", fun t ht => ?_⟩
      have st := Same_upd (o := .tup [.int 2, .non]) s ht
      obtain ⟨-, e2, e3⟩ := deed_ref (mr := fun _ => none) (S := S) (w := w) (y := y) (z := z) (by rw [e]; decide)
      refine k _ fp _ (Gr.of st) Sub.refl (by rw [e3]; exact hS.ext st) ?_
      rw [e, e2]
      exact .tup upd_same (.cons (.num _) (.cons .non .nil))

end Law
namespace Law
open PySem PySem.Spec PyProof.Rows L2 My
theorem sc_law_spot : FnScope ["_law_pairs", "_law_key_here", "_law_k"] ["_law_pairs", "_law_key_here"] (defScope s_law_spot) := ⟨rfl, rfl, rfl, by decide +kernel, rfl, by decide +kernel, by decide +kernel⟩
theorem ok_law_spot {P : Program} {w : World} {K : PySem.W.Frag} {mg : Str → Option Value} {base : Heap} {A : Ad} (T : Txt K mg A) : FnOk P w K mg base CX0 1 A.a_law_spot A.d_law_spot ["_law_pairs", "_law_key_here"] (spSpot K) := by
  refine T.F_law_spot.ok sc_law_spot (fun vs H Q E h => ?_) (fun cdv A' outer s H vs Q E hr h => ?_)
  · exact len_spot h
  · have nd := sc_law_spot.nd
    have hu := hu_of hr
    refine ⟨_, (pss_cons (ps_for PassesOwn.never rfl (pi_range1 rfl T.n_range (pa_cons (pe_callB call_lenU rfl T.n_len PySem.boot_len (pa_cons (pv 0) pa_nil)) pa_nil)) (pg_name (i := 2) nd rfl (Or.inl rfl)) (pss_one (ps_if (pt_cmpR (op_eqD hr.units) (pe_ix ix_tup (pe_ix ix_list (pv 0) (pv 2) (fun _ _ => rfl)) pe_int (fun _ _ => rfl)) (pv 1) (nomark _)) (pss_one (ps_ret (pv 2))) pss_nil))) (pss_one (ps_ret pe_non))), ?_⟩
    clear nd
    obtain ⟨l, v, ws, lv, y, rfl, hl, hw, hy, yk, kk, hz, k1, k2⟩ := h
    have lw := KysAt.len hw
    rw [List.length_map] at lw
    walk_at "rd"
    refine ⟨_, .inl hl, ⟨by omega, by omega⟩, ?_⟩
    rw [lw, Int.toNat_natCast]
    refine go_range (fun i σ H' => ∃ v2, σ = [some (.ref l), some v, v2] ∧ H' = H ∧ ∀ q, q < i → ∀ p, lv[q]? = some p → p.1 ≠ y) ⟨_, rfl, rfl, fun q h => by omega⟩ ?_ ?_
    · rintro N i σ H' hi ⟨v2, rfl, rfl, hb⟩ hN
      obtain ⟨x1, e1, a1⟩ := at_any (xs := ws) (c := (i : Nat)) (by omega) (by omega)
      rw [Int.toNat_natCast] at e1
      obtain ⟨k', hk', hx⟩ := hw.get e1
      rw [List.getElem?_map] at hk'
      obtain ⟨pr, hp⟩ : ∃ pr, lv[i]? = some pr := ⟨_, List.getElem?_eq_getElem hi⟩
      rw [hp] at hk'
      cases hk'
      obtain ⟨T1, x2, x3, rfl, hT, hx2, hx3⟩ := tup2_of hx
      have pk := kk pr (List.mem_of_getElem? hp)
      walk_at "rd"
      refine ⟨_, _, hl, a1, ?_⟩
      walk_at "rd"
      refine ⟨_, _, SqT.of hT, rfl, ?_⟩
      have ul := RowOk.one (.inr pk)
      have yl := RowOk.one (.inr yk)
      refine eq_any hx2 hy ul.1 yl.1 ul.2 yl.2 ?_
      walk_at "rd"
      refine iteB (fun c => ?_) fun c => hN _ _ ⟨_, rfl, rfl, fun q h p e => ?_⟩
      · obtain ⟨A, B, e, el⟩ := split_at hp
        have : pr = (y, pr.2) := by rw [← c]
        rw [this] at e
        have kq := k2 A B pr.2 e fun p m => ?_
        · rw [el] at kq
          exact kq
        · obtain ⟨q, hq, eq⟩ := List.mem_iff_getElem.mp m
          exact hb q (by omega) p (by rw [e, List.getElem?_append_left hq, List.getElem?_eq_getElem hq, eq])
      · rcases Nat.lt_or_ge q i with g | g
        · exact hb q g p e
        · rw [show q = i by omega, hp] at e
          cases e
          simpa using c
    · rintro σ H' ⟨v2, rfl, rfl, hb⟩
      walk_at "rd"
      refine k1 fun p m => ?_
      obtain ⟨q, hq, eq⟩ := List.mem_iff_getElem.mp m
      exact hb q hq p (by rw [List.getElem?_eq_getElem hq, eq])

end Law
namespace Law
open PySem PySem.Spec PyProof.Rows L2 My

def stL (S : Sh) : List Ky := ([(S.row.length : Int), S.com, S.goi, 2 * 2 ^ S.j / 3] : List Int).map Ky.num
def own (lp ls : Addr) (S : Sh) : List (Addr × List Ky) := [(lp, S.lv.map pairT), (ls, stL S)]
def spDue (C : Addr) (ws : Nat → Prop) (pre : List V → List V) : Sp := fun vs H Q _ => ∃ sh lp ls w v u Hb S y z, vs = pre [.ref lp, .ref ls, .int (w : Nat), v, u] ∧ ws w ∧ LW Hb H C sh S (own lp ls S) ∧ KyAt H v y ∧ KeyOk y ∧ KyAt H u z ∧ HVal z ∧
  ∀ H' x, LW Hb H' C sh S (own lp ls (S.deed (fun _ => none) w y z).2.2) → (∀ b o, H b = some o → b ≠ lp → b ≠ ls → H' b = some o) → KyAt H' x (.tup [.num (S.deed (fun _ => none) w y z).1, (S.deed (fun _ => none) w y z).2.1]) → Q x H'
theorem nums4 {H : Hp} {ws : List V} {a b c d : Int} (h : KysAt H ws (([a, b, c, d] : List Int).map Ky.num)) : ws = [.int a, .int b, .int c, .int d] := kys_ints h
theorem keep2 {H H' H3 : Hp} {lp ls : Addr} (h : ∀ b o, H b = some o → b ≠ lp → b ≠ ls → H' b = some o) (s : Same H' H3) : ∀ b o, H b = some o → b ≠ lp → b ≠ ls → H3 b = some o := fun b o e n m => s _ _ (h b o e n m)
theorem keepU {H H' : Hp} {lp ls a : Addr} {o : HO} (h : ∀ b o, H b = some o → b ≠ lp → b ≠ ls → H' b = some o) (e : a = lp ∨ a = ls) : ∀ b u, H b = some u → b ≠ lp → b ≠ ls → upd H' a o b = some u := fun b u q n m => by
  rw [upd_ne (by rcases e with rfl | rfl <;> assumption)]
  exact h b u q n m
theorem sc_law_due_put : FnScope ["_law_pairs", "_law_state", "_law_key_here", "_law_value_here", "_law_at"] ["_law_pairs", "_law_state", "_law_key_here", "_law_value_here"] (defScope s_law_due_put) := ⟨rfl, rfl, rfl, by decide +kernel, rfl, by decide +kernel, by decide +kernel⟩
theorem ok_law_due_put {P : Program} {w : World} {K : PySem.W.Frag} {mg : Str → Option Value} {base : Heap} {A : Ad} (T : Txt K mg A) : FnOk P w K mg base CX0 2 A.a_law_due_put A.d_law_due_put ["_law_pairs", "_law_state", "_law_key_here", "_law_value_here"] (spDue A.c_Shelf (fun w => w = 0) fun l => match l with | [a, b, _, d, e] => [a, b, d, e] | _ => []) := by
  refine T.F_law_due_put.ok sc_law_due_put (fun vs H Q E h => ?_) (fun cdv A' outer s H vs Q E hr h => ?_)
  · (obtain ⟨_, _, _, _, _, _, _, _, _, _, rfl, _⟩ := h; rfl)
  · have nd := sc_law_due_put.nd
    have hu := hu_of hr
    refine ⟨_, (pss_cons (ps_set (i := 4) nd rfl (Or.inl rfl) (pe_call (ok_law_spot T) (hr.mono (by decide)) rfl T.m_law_spot T.F_law_spot.kp T.b_law_spot .nil pass0 (pa_cons (pv 0) (pa_cons (pv 2) pa_nil)))) (pss_cons (ps_if (pt_cmpR op_notN (pv 4) pe_non (nomark _)) (pss_cons (ps_asg (pe_tup (pa_cons (pv 2) (pa_cons (pv 3) pa_nil))) (pg_sub (pv 0) (pv 4) set_list)) (pss_one (ps_ret (pe_tup (pa_cons pe_int (pa_cons pe_bl pa_nil)))))) pss_nil) (pss_cons (ps_if (pt_cmpR op_eq (pe_ix ix_list (pv 1) pe_int (fun _ _ => rfl)) (pe_ix ix_list (pv 1) pe_int (fun _ _ => rfl)) (nomark _)) (pss_one (ps_ret (pe_tup (pa_cons pe_int (pa_cons pe_non pa_nil))))) pss_nil) (pss_cons (ps_expr (pe_bm PySem.F.plainAttrs_list PySem.F.slot_list_append PySem.F.type_list_append mt_append (pv 0) (pa_cons (pe_tup (pa_cons (pv 2) (pa_cons (pv 3) pa_nil))) pa_nil))) (pss_cons (ps_asg (pe_op op_add (pe_ix ix_list (pv 1) pe_int (fun _ _ => rfl)) pe_int) (pg_sub (pv 1) pe_int set_list)) (pss_cons (ps_asg (pe_op op_add (pe_ix ix_list (pv 1) pe_int (fun _ _ => rfl)) pe_int) (pg_sub (pv 1) pe_int set_list)) (pss_one (ps_ret (pe_tup (pa_cons pe_int (pa_cons pe_bl pa_nil))))))))))), ?_⟩
    clear nd
    obtain ⟨sh, lp, ls, w, v, u, Hb, S, y, z, rfl, rfl, g, hy, yk, hu, hz, k⟩ := h
    obtain ⟨wp, hp, hwp⟩ := g.get (q := (lp, S.lv.map pairT)) (by simp [own])
    obtain ⟨wl, hs, hwl⟩ := g.get (q := (ls, stL S)) (by simp [own])
    have ew := nums4 hwl
    subst ew
    obtain ⟨fp, hS, -⟩ := g.step
    have ok := hS.ok
    have pv := pairT_vals ok
    have lw := KysAt.len hwp
    have z0 : ∀ b o, H b = some o → b ≠ lp → b ≠ ls → H b = some o := fun b o e _ _ => e
    unfold Sh.deed Sh.put at k
    have npl : lp ≠ ls := by
      have := g.nd
      simp [own] at this
      exact this
    dsimp only
    walk_at "rd"
    refine spot_use hp hwp ok hy yk (fun ef => ?_) fun q A B z0' ef e1 e2 e3 e4 => ?_
    · rw [ef] at k
      dsimp only at k
      have nin := (ok.find_none yk.ne_non).mp ef
      walk_at "rd"
      refine ⟨_, _, SqL.of hs, rfl, ?_⟩
      walk_at "rd"
      refine ⟨_, _, SqL.of hs, rfl, ?_⟩
      walk_at "rd"
      have rl := ok.cw.rl
      refine iteB (fun c => ?_) fun c => ?_
      · have cf : S.full = true := decide_eq_true (by omega)
        rw [if_pos cf] at k
        refine ⟨by walk_at "sz", fun t ht => ?_⟩
        have st := Same_upd (o := .tup [.int 1, .non]) (Same.refl H) ht
        exact k _ _ (g.ext st) (keep2 z0 st) (.tup upd_same (.cons (.num _) (.cons .non .nil)))
      · have cf : S.full = false := decide_eq_false (by omega)
        rw [cf, if_neg (by decide)] at k
        refine ⟨tyL hp, by walk_at "sz", fun t ht => ?_⟩
        have st := Same_upd (o := .tup [v, u]) (Same.refl H) ht
        have e9 : upd H t (.tup [v, u]) t = some (.tup [v, u]) := upd_same
        generalize upd H t (.tup [v, u]) = H1 at st e9 ⊢
        have g1 := g.ext st
        have lt := ok.cw.lt
        have lnl : S.lv.length ≤ 5000 := by
          have h1 : S.lv.length ≤ (S.row.zip S.held).length := List.length_filter_le _ _
          rw [List.length_zip] at h1
          omega
        refine ⟨_, st _ _ hp, by rw [sizeLine_eq, lw, List.length_map]; omega, ?_⟩
        have pv2 : Ky.vals (S.lv.map pairT ++ [.tup [y, z]]) = true := vals_append pv (vals_one (tup_vals (vals_two yk.val hz.1) (by simp)))
        have g2 := LW.put (o1 := []) (o2 := [(ls, stL S)]) (a := lp) (ls := S.lv.map pairT ++ [.tup [y, z]]) (ws := wp ++ [.ref t]) g1 pv2 ((hwp.same st _ _).append (.cons (.tup e9 (.cons (hy.same st _ _) (.cons (hu.same st _ _) .nil))) .nil))
        have z2 := keepU (o := .lst (wp ++ [.ref t])) (keep2 z0 st) (.inl rfl)
        have hs2 : upd H1 lp (.lst (wp ++ [.ref t])) ls = some (.lst [.int (S.row.length : Nat), .int S.com, .int S.goi, .int (2 * 2 ^ S.j / 3)]) := by rw [upd_ne npl.symm]; exact st _ _ hs
        generalize upd H1 lp (.lst (wp ++ [.ref t])) = H2 at g2 z2 hs2 ⊢
        refine ⟨_, _, SqL.of hs2, rfl, ?_⟩
        walk_at "rd"
        refine ⟨_, _, hs2, rfl, ?_⟩
        have g3 := LW.put (o1 := [(lp, S.lv.map pairT ++ [.tup [y, z]])]) (o2 := []) (a := ls) (ls := ([(S.row.length : Int) + 1, S.com, S.goi, 2 * 2 ^ S.j / 3] : List Int).map Ky.num) (ws := [.int ((S.row.length : Int) + 1), .int S.com, .int S.goi, .int (2 * 2 ^ S.j / 3)]) g2 (vals_nums _) (nums_at [(S.row.length : Int) + 1, S.com, S.goi, 2 * 2 ^ S.j / 3])
        have z3 := keepU (o := .lst [.int ((S.row.length : Int) + 1), .int S.com, .int S.goi, .int (2 * 2 ^ S.j / 3)]) z2 (.inr rfl)
        have hs3 : upd H2 ls (.lst [.int ((S.row.length : Int) + 1), .int S.com, .int S.goi, .int (2 * 2 ^ S.j / 3)]) ls = some (.lst [.int ((S.row.length : Int) + 1), .int S.com, .int S.goi, .int (2 * 2 ^ S.j / 3)]) := upd_same
        walk_at "rd"
        generalize upd H2 ls (.lst [.int ((S.row.length : Int) + 1), .int S.com, .int S.goi, .int (2 * 2 ^ S.j / 3)]) = H3 at g3 z3 hs3 ⊢
        refine ⟨_, _, SqL.of hs3, rfl, ?_⟩
        walk_at "rd"
        refine ⟨_, _, hs3, rfl, ?_⟩
        walk_at "rd"
        refine ⟨by walk_at "sz", fun t2 ht2 => ?_⟩
        have g4 := LW.put (o1 := [(lp, S.lv.map pairT ++ [.tup [y, z]])]) (o2 := []) (a := ls) (ls := ([(S.row.length : Int) + 1, S.com + 1, S.goi, 2 * 2 ^ S.j / 3] : List Int).map Ky.num) (ws := [.int ((S.row.length : Int) + 1), .int (S.com + 1), .int S.goi, .int (2 * 2 ^ S.j / 3)]) g3 (vals_nums _) (nums_at [(S.row.length : Int) + 1, S.com + 1, S.goi, 2 * 2 ^ S.j / 3])
        have z4 := keepU (o := .lst [.int ((S.row.length : Int) + 1), .int (S.com + 1), .int S.goi, .int (2 * 2 ^ S.j / 3)]) z3 (.inr rfl)
        have s5 := Same_upd (o := .tup [.int 0, .bl true]) (Same.refl _) ht2
        refine k _ _ ?_ (keep2 z4 s5) (.tup upd_same (.cons (.num _) (.cons (.bl _) .nil)))
        have e7 : own lp ls (S.come y z) = [(lp, S.lv.map pairT ++ [.tup [y, z]]), (ls, ([(S.row.length : Int) + 1, S.com + 1, S.goi, 2 * 2 ^ S.j / 3] : List Int).map Ky.num)] := by
          unfold own
          rw [come_lv ok yk.ne_non, List.map_append]
          show _ = _
          unfold stL Sh.come
          simp [pairT]
        show LW Hb _ _ _ _ (own lp ls (S.come y z))
        rw [e7]
        exact g4.ext s5
    · rw [ef] at k
      dsimp only at k
      walk_at "rd"
      refine iteP (by simp) ⟨by walk_at "sz", fun t ht => ?_⟩
      have st := Same_upd (o := .tup [v, u]) (Same.refl H) ht
      have e9 : upd H t (.tup [v, u]) t = some (.tup [v, u]) := upd_same
      generalize upd H t (.tup [v, u]) = H1 at st e9 ⊢
      have g1 := g.ext st
      rw [List.length_map, e1, List.length_append, List.length_cons] at lw
      refine ⟨_, _, st _ _ hp, ixN_nat (by omega) (by omega), by walk_at "sz", fun t2 ht2 => ?_⟩
      rw [Int.toNat_natCast] at *
      have hh : S.hold q z = S.hold q z := rfl
      have pm : (S.lv.map pairT).set A.length (.tup [y, z]) = (S.hold q z).lv.map pairT := by
        rw [e1, e3, List.map_append, List.map_append, List.map_cons, List.map_cons]
        have := set_mid (A.map pairT) (B.map pairT) (pairT (y, z0')) (pairT (y, z))
        rw [List.length_map] at this
        exact this
      have g2 := LW.put (o1 := []) (o2 := [(ls, stL S)]) (a := lp) (ls := (S.lv.map pairT).set A.length (.tup [y, z])) (ws := wp.set A.length (.ref t)) g1 (vals_set pv (tup_vals (vals_two yk.val hz.1) (by simp))) ((hwp.same st _ _).set (.tup e9 (.cons (hy.same st _ _) (.cons (hu.same st _ _) .nil))))
      have z2 := keepU (o := .lst (wp.set A.length (.ref t))) (keep2 z0 st) (.inl rfl)
      have s5 := Same_upd (o := .tup [.int 0, .bl false]) (Same.refl _) ht2
      refine k _ _ ?_ (keep2 z2 s5) (.tup upd_same (.cons (.num _) (.cons (.bl _) .nil)))
      show LW Hb _ _ _ _ [(lp, (S.hold q z).lv.map pairT), (ls, stL S)]
      rw [← pm]
      exact g2.ext s5

end Law
namespace Law
open PySem PySem.Spec PyProof.Rows L2 My
theorem sc_law_due_out : FnScope ["_law_pairs", "_law_state", "_law_way_here", "_law_key_here", "_law_at", "_law_pair"] ["_law_pairs", "_law_state", "_law_way_here", "_law_key_here"] (defScope s_law_due_out) := ⟨rfl, rfl, rfl, by decide +kernel, rfl, by decide +kernel, by decide +kernel⟩

theorem KysAt.erase {H : Hp} : ∀ {ks : List Ky} {ws : List V}, KysAt H ws ks → ∀ n : Nat, KysAt H (ws.eraseIdx n) (ks.eraseIdx n)
  | [], _, h, n => by cases h; exact .nil
  | k :: ks, _, h, 0 => by
    cases h with
    | cons h t => exact t
  | k :: ks, _, h, n + 1 => by
    cases h with
    | cons h t => exact .cons h (KysAt.erase t n)
theorem seq_nat {n m : Nat} (h : n < m) : seqIndex? (n : Int) m = some n := by
  unfold seqIndex?
  have e : ¬ ((n : Int) < 0) := by omega
  simp only [if_neg e]
  rw [if_pos (by simp; omega)]
  rfl
theorem ok_law_due_out {P : Program} {w : World} {K : PySem.W.Frag} {mg : Str → Option Value} {base : Heap} {A : Ad} (T : Txt K mg A) : FnOk P w K mg base CX0 2 A.a_law_due_out A.d_law_due_out ["_law_pairs", "_law_state", "_law_way_here", "_law_key_here"] (spDue A.c_Shelf (fun w => w = 1 ∨ w = 2) fun l => match l with | [a, b, c, d, _] => [a, b, c, d] | _ => []) := by
  refine T.F_law_due_out.ok sc_law_due_out (fun vs H Q E h => ?_) (fun cdv A' outer s H vs Q E hr h => ?_)
  · (obtain ⟨_, _, _, _, _, _, _, _, _, _, rfl, _⟩ := h; rfl)
  · have nd := sc_law_due_out.nd
    have hu := hu_of hr
    refine ⟨_, (pss_cons (ps_set (i := 4) nd rfl (Or.inl rfl) (pe_call (ok_law_spot T) (hr.mono (by decide)) rfl T.m_law_spot T.F_law_spot.kp T.b_law_spot .nil pass0 (pa_cons (pv 0) (pa_cons (pv 3) pa_nil)))) (pss_cons (ps_if (pt_cmpR op_eq (pv 2) pe_int (nomark _)) (pss_cons (ps_set (i := 4) nd rfl (Or.inl rfl) pe_non) (pss_one (ps_if (pt_cmpR (op_neD hr.units) (pv 0) (pe_lst pa_nil) (nomark _)) (pss_one (ps_set (i := 4) nd rfl (Or.inl rfl) (pe_op op_sub (pe_callB call_lenU rfl T.n_len PySem.boot_len (pa_cons (pv 0) pa_nil)) pe_int))) pss_nil))) pss_nil) (pss_cons (ps_if (pt_cmpR op_isN (pv 4) pe_non (nomark _)) (pss_one (ps_ret (pe_tup (pa_cons pe_int (pa_cons pe_non pa_nil))))) pss_nil) (pss_cons (ps_set (i := 5) nd rfl (Or.inl rfl) (pe_bm PySem.F.plainAttrs_list PySem.F.slot_list_pop PySem.F.type_list_pop mt_popAt (pv 0) (pa_cons (pv 4) pa_nil))) (pss_cons (ps_asg (pe_op op_add (pe_ix ix_list (pv 1) pe_int (fun _ _ => rfl)) pe_int) (pg_sub (pv 1) pe_int set_list)) (pss_cons (ps_if (pt_cmpR op_eq (pv 2) pe_int (nomark _)) (pss_one (ps_ret (pe_tup (pa_cons pe_int (pa_cons (pe_ix ix_tup (pv 5) pe_int (fun _ _ => rfl)) pa_nil))))) pss_nil) (pss_one (ps_ret (pe_tup (pa_cons pe_int (pa_cons (pv 5) pa_nil))))))))))), ?_⟩
    clear nd
    obtain ⟨sh, lp, ls, w, v, u, Hb, S, y, z, rfl, hw, g, hy, yk, hu, hz, k⟩ := h
    obtain ⟨wp, hp, hwp⟩ := g.get (q := (lp, S.lv.map pairT)) (by simp [own])
    obtain ⟨wl, hs, hwl⟩ := g.get (q := (ls, stL S)) (by simp [own])
    have ew := nums4 hwl
    subst ew
    obtain ⟨fp, hS, -⟩ := g.step
    have ok := hS.ok
    have pv := pairT_vals ok
    have lw := KysAt.len hwp
    have z0 : ∀ b o, H b = some o → b ≠ lp → b ≠ ls → H b = some o := fun b o e _ _ => e
    have npl : lp ≠ ls := by
      have := g.nd
      simp [own] at this
      exact this
    have lt := ok.cw.lt
    have lnl : S.lv.length ≤ 5000 := by
      have h1 : S.lv.length ≤ (S.row.zip S.held).length := List.length_filter_le _ _
      rw [List.length_zip] at h1
      omega
    have out : ∀ (H0 : Hp) (s0 : Same H H0) (q : Nat) (y2 : Ky) (A0 B : List (Ky × Ky)) (zq : Ky), S.lv = A0 ++ (y2, zq) :: B → (S.went q y2).lv = A0 ++ B → ∃ tq, wp[A0.length]? = some (.ref tq) ∧ (∃ x2 x3, H0 tq = some (.tup [x2, x3]) ∧ KyAt H0 (.ref tq) (.tup [y2, zq]) ∧ KyAt H0 x3 zq) ∧ zq.val = true ∧ y2.val = true ∧
        ∀ H3, H3 = upd (upd H0 lp (.lst (wp.eraseIdx A0.length))) ls (.lst [.int (S.row.length : Nat), .int S.com, .int (S.goi + 1), .int (2 * 2 ^ S.j / 3)]) → LW Hb H3 A.c_Shelf sh S (own lp ls (S.went q y2)) ∧ (∀ b o, H0 b = some o → b ≠ lp → b ≠ ls → H3 b = some o) := by
      intro H0 s0 q y2 A0 B zq e1 e4
      have hwp := hwp.same s0 _ _
      have g := g.ext s0
      have lA : A0.length < wp.length := by rw [lw, List.length_map, e1, List.length_append, List.length_cons]; omega
      obtain ⟨x, hx⟩ : ∃ x, wp[A0.length]? = some x := ⟨_, List.getElem?_eq_getElem lA⟩
      obtain ⟨kx, hk, hxk⟩ := hwp.get hx
      have e5 : kx = .tup [y2, zq] := by
        rw [e1, List.map_append, List.map_cons, List.getElem?_append_right (by rw [List.length_map]; exact Nat.le_refl _), List.length_map, Nat.sub_self] at hk
        simpa [pairT] using hk.symm
      subst e5
      obtain ⟨tq, x2, x3, rfl, ht, hx2, hx3⟩ := tup2_of hxk
      have v2 := (tup_val (vals_get pv hk)).2
      have v3 : y2.val = true ∧ zq.val = true := by simpa [Ky.vals] using v2
      refine ⟨tq, hx, ⟨x2, x3, ht, hxk, hx3⟩, v3.2, v3.1, fun H3 e3 => ?_⟩
      have pe : (S.lv.map pairT).eraseIdx A0.length = (S.went q y2).lv.map pairT := by
        rw [e1, e4, List.map_append, List.map_append, List.map_cons]
        have := List.eraseIdx_append_of_length_le (l := A0.map pairT) (k := A0.length) (by rw [List.length_map]; exact Nat.le_refl _) (pairT (y2, zq) :: B.map pairT)
        rw [this, List.length_map, Nat.sub_self]
        rfl
      have g1 := LW.put (o1 := []) (o2 := [(ls, stL S)]) (a := lp) (ls := (S.lv.map pairT).eraseIdx A0.length) (ws := wp.eraseIdx A0.length) g (vals_iff.mpr fun k' hk' => vals_iff.mp pv k' (List.mem_of_mem_eraseIdx hk')) (KysAt.erase hwp A0.length)
      have g2 := LW.put (o1 := [(lp, (S.lv.map pairT).eraseIdx A0.length)]) (o2 := []) (a := ls) (ls := ([(S.row.length : Int), S.com, S.goi + 1, 2 * 2 ^ S.j / 3] : List Int).map Ky.num) (ws := [.int (S.row.length : Nat), .int S.com, .int (S.goi + 1), .int (2 * 2 ^ S.j / 3)]) g1 (vals_nums _) (nums_at [(S.row.length : Int), S.com, S.goi + 1, 2 * 2 ^ S.j / 3])
      rw [← e3] at g2
      refine ⟨?_, fun b o e n m => ?_⟩
      · have : own lp ls (S.went q y2) = [(lp, (S.lv.map pairT).eraseIdx A0.length), (ls, ([(S.row.length : Int), S.com, S.goi + 1, 2 * 2 ^ S.j / 3] : List Int).map Ky.num)] := by
          unfold own
          rw [pe]
          unfold stL Sh.went
          simp
        rw [this]
        exact g2
      · rw [e3, upd_ne m, upd_ne n]
        exact e
    rcases hw with rfl | rfl
    · walk_at "rd"
      refine spot_use hp hwp ok hy yk (fun ef => ?_) fun q A0 B zq ef e1 e2 e3 e4 => ?_
      · unfold Sh.deed at k
        rw [ef] at k
        refine iteN (by decide) ?_
        walk_at "rd"
        refine ⟨by walk_at "sz", fun t ht => ?_⟩
        have st := Same_upd (o := .tup [.int 2, .non]) (Same.refl H) ht
        exact k _ _ (g.ext st) (keep2 z0 st) (.tup upd_same (.cons (.num _) (.cons .non .nil)))
      · unfold Sh.deed at k
        rw [ef] at k
        obtain ⟨tq, h1, ⟨x2, x3, ht, hxk, hx3⟩, v1, v2, h2⟩ := out H (Same.refl H) q y A0 B zq e1 e4
        refine iteN (by decide) ?_
        walk_at "rd"
        refine iteN (by simp) ?_
        have lA : A0.length ≤ 5000 := by have := congrArg List.length e1; rw [List.length_append] at this; omega
        refine ⟨tyL hp, lp, wp, _, A0.length, .ref tq, rfl, rfl, hp, by omega, by omega, seq_nat (List.getElem?_eq_some_iff.mp h1).1, h1, ?_⟩
        have n1 : tq ≠ lp := ne_of ht hp (by intro z; cases z)
        have n2 : tq ≠ ls := ne_of ht hs (by intro z; cases z)
        have hs1 : upd H lp (.lst (wp.eraseIdx A0.length)) ls = some (.lst [.int (S.row.length : Nat), .int S.com, .int S.goi, .int (2 * 2 ^ S.j / 3)]) := by rw [upd_ne npl.symm]; exact hs
        refine ⟨_, _, SqL.of hs1, rfl, ?_⟩
        walk_at "rd"
        refine ⟨_, _, hs1, rfl, ?_⟩
        obtain ⟨g3, z3⟩ := h2 _ rfl
        have ht3 := z3 _ _ ht n1 n2
        have nt2 : NoTup H [lp, ls] := fun b m xs e => by
          simp only [List.mem_cons, List.not_mem_nil, or_false] at m
          rcases m with rfl | rfl
          · rw [hp] at e; cases e
          · rw [hs] at e; cases e
        have bt2 : But [lp, ls] H _ := fun b o e n => z3 b o e (fun q => n (by simp [q])) (fun q => n (by simp [q]))
        have hx33 := KyAt.keep bt2 nt2 _ _ v1 hx3
        have hxk3 := KyAt.keep bt2 nt2 _ _ (tup_vals (vals_two v2 v1) (by simp)) hxk
        clear bt2
        walk_at "rd"
        generalize upd (upd H lp (.lst (wp.eraseIdx A0.length))) ls (.lst [.int (S.row.length : Nat), .int S.com, .int (S.goi + 1), .int (2 * 2 ^ S.j / 3)]) = H3 at g3 z3 ht3 hx33 hxk3 ⊢
        refine iteP (by decide) ⟨_, _, SqT.of ht3, rfl, ?_⟩
        walk_at "rd"
        refine ⟨by walk_at "sz", fun t ht => ?_⟩
        have st := Same_upd (o := .tup [.int 0, x3]) (Same.refl H3) ht
        refine k _ _ (g3.ext st) (keep2 z3 st) (.tup upd_same (.cons (.num _) (.cons ?_ .nil)))
        dsimp only
        rw [List.getD_eq_getElem?_getD, e2]
        exact hx33.same st _ _
    · walk_at "rd"
      have dts := lv_vrow ok
      refine spot_use hp hwp ok hy yk (fun ef => ?_) fun q A0 B zq ef e1 e2 e3 e4 => ?_
      · refine iteP (by decide) ?_
        refine ⟨by walk_at "sz", fun em hem => ?_⟩
        have s0 := Same_upd (o := .lst []) (Same.refl H) hem
        have g0 := g.ext s0
        refine ne_vrows (ks := S.lv.map pairT) (ls := []) (SqL.of (s0 _ _ hp)) (hwp.same s0 _ _) (SqL.of upd_same) .nil dts vrow_nil ?_
        have hp0 := s0 _ _ hp
        have hs0 := s0 _ _ hs
        generalize upd H em (.lst []) = H0 at s0 g0 hp0 hs0 ⊢
        unfold Sh.deed at k
        cases el : S.last with
        | none =>
          rw [el] at k
          rw [last_none ok el, decide_eq_true (by rfl)]
          walk_at "rd"
          refine ⟨by walk_at "sz", fun t ht => ?_⟩
          have st := Same_upd (o := .tup [.int 2, .non]) (Same.refl H0) ht
          exact k _ _ (g0.ext st) (keep2 (fun b o e _ _ => s0 b o e) st) (.tup upd_same (.cons (.num _) (.cons .non .nil)))
        | some q2 =>
          rw [el] at k
          obtain ⟨y2, er2, yk2, eg2⟩ := liv_key ok (ahead_liv el).2
          obtain ⟨A0, B2, zq2, e1, e2, e3, e4, e5, e6, e7⟩ := ok.split er2 yk2.ne_non
          have eB := e7 (last_some ok el)
          subst eB
          obtain ⟨tq, h1, ⟨x2, x3, ht, hxk, hx3⟩, v1, v2, h2⟩ := out H0 s0 q2 y2 A0 [] zq2 e1 e4
          have nel : S.lv.map pairT ≠ [] := by rw [e1]; simp
          rw [decide_eq_false nel]
          walk_at "rd"
          refine ⟨_, .inl (SqL.of hp0), iteN (by simp) ?_⟩
          rw [show ((wp.length : Int) - 1) = ((A0.length : Nat) : Int) by rw [lw, List.length_map, e1, List.length_append]; simp]
          have lA : A0.length ≤ 5000 := by have := congrArg List.length e1; rw [List.length_append] at this; omega
          refine ⟨tyL hp0, lp, wp, _, A0.length, .ref tq, rfl, rfl, hp0, by omega, by omega, seq_nat (List.getElem?_eq_some_iff.mp h1).1, h1, ?_⟩
          have n1 : tq ≠ lp := ne_of ht hp0 (by intro z; cases z)
          have n2 : tq ≠ ls := ne_of ht hs0 (by intro z; cases z)
          have hs1 : upd H0 lp (.lst (wp.eraseIdx A0.length)) ls = some (.lst [.int (S.row.length : Nat), .int S.com, .int S.goi, .int (2 * 2 ^ S.j / 3)]) := by rw [upd_ne npl.symm]; exact hs0
          refine ⟨_, _, SqL.of hs1, rfl, ?_⟩
          walk_at "rd"
          refine ⟨_, _, hs1, rfl, ?_⟩
          obtain ⟨g3, z3⟩ := h2 _ rfl
          have ht3 := z3 _ _ ht n1 n2
          have nt2 : NoTup H0 [lp, ls] := fun b m xs e => by
            simp only [List.mem_cons, List.not_mem_nil, or_false] at m
            rcases m with rfl | rfl
            · rw [hp0] at e; cases e
            · rw [hs0] at e; cases e
          have bt2 : But [lp, ls] H0 _ := fun b o e n => z3 b o e (fun q => n (by simp [q])) (fun q => n (by simp [q]))
          have hx33 := KyAt.keep bt2 nt2 _ _ v1 hx3
          have hxk3 := KyAt.keep bt2 nt2 _ _ (tup_vals (vals_two v2 v1) (by simp)) hxk
          clear bt2
          walk_at "rd"
          generalize upd (upd H0 lp (.lst (wp.eraseIdx A0.length))) ls (.lst [.int (S.row.length : Nat), .int S.com, .int (S.goi + 1), .int (2 * 2 ^ S.j / 3)]) = H3 at g3 z3 ht3 hx33 hxk3 ⊢
          refine iteN (by decide) ⟨by walk_at "sz", fun t ht => ?_⟩
          have st := Same_upd (o := .tup [.int 0, .ref tq]) (Same.refl H3) ht
          refine k _ _ (by dsimp only; rw [eg2]; exact g3.ext st) (keep2 (fun b o e n m => z3 b o (s0 b o e) n m) st) (.tup upd_same (.cons (.num _) (.cons ?_ .nil)))
          dsimp only
          rw [eg2, List.getD_eq_getElem?_getD, e2]
          exact hxk3.same st _ _
      · refine iteP (by decide) ?_
        refine ⟨by walk_at "sz", fun em hem => ?_⟩
        have s0 := Same_upd (o := .lst []) (Same.refl H) hem
        have g0 := g.ext s0
        refine ne_vrows (ks := S.lv.map pairT) (ls := []) (SqL.of (s0 _ _ hp)) (hwp.same s0 _ _) (SqL.of upd_same) .nil dts vrow_nil ?_
        have hp0 := s0 _ _ hp
        have hs0 := s0 _ _ hs
        generalize upd H em (.lst []) = H0 at s0 g0 hp0 hs0 ⊢
        unfold Sh.deed at k
        cases el : S.last with
        | none =>
          rw [el] at k
          rw [last_none ok el, decide_eq_true (by rfl)]
          walk_at "rd"
          refine ⟨by walk_at "sz", fun t ht => ?_⟩
          have st := Same_upd (o := .tup [.int 2, .non]) (Same.refl H0) ht
          exact k _ _ (g0.ext st) (keep2 (fun b o e _ _ => s0 b o e) st) (.tup upd_same (.cons (.num _) (.cons .non .nil)))
        | some q2 =>
          rw [el] at k
          obtain ⟨y2, er2, yk2, eg2⟩ := liv_key ok (ahead_liv el).2
          obtain ⟨A0, B2, zq2, e1, e2, e3, e4, e5, e6, e7⟩ := ok.split er2 yk2.ne_non
          have eB := e7 (last_some ok el)
          subst eB
          obtain ⟨tq, h1, ⟨x2, x3, ht, hxk, hx3⟩, v1, v2, h2⟩ := out H0 s0 q2 y2 A0 [] zq2 e1 e4
          have nel : S.lv.map pairT ≠ [] := by rw [e1]; simp
          rw [decide_eq_false nel]
          walk_at "rd"
          refine ⟨_, .inl (SqL.of hp0), iteN (by simp) ?_⟩
          rw [show ((wp.length : Int) - 1) = ((A0.length : Nat) : Int) by rw [lw, List.length_map, e1, List.length_append]; simp]
          have lA : A0.length ≤ 5000 := by have := congrArg List.length e1; rw [List.length_append] at this; omega
          refine ⟨tyL hp0, lp, wp, _, A0.length, .ref tq, rfl, rfl, hp0, by omega, by omega, seq_nat (List.getElem?_eq_some_iff.mp h1).1, h1, ?_⟩
          have n1 : tq ≠ lp := ne_of ht hp0 (by intro z; cases z)
          have n2 : tq ≠ ls := ne_of ht hs0 (by intro z; cases z)
          have hs1 : upd H0 lp (.lst (wp.eraseIdx A0.length)) ls = some (.lst [.int (S.row.length : Nat), .int S.com, .int S.goi, .int (2 * 2 ^ S.j / 3)]) := by rw [upd_ne npl.symm]; exact hs0
          refine ⟨_, _, SqL.of hs1, rfl, ?_⟩
          walk_at "rd"
          refine ⟨_, _, hs1, rfl, ?_⟩
          obtain ⟨g3, z3⟩ := h2 _ rfl
          have ht3 := z3 _ _ ht n1 n2
          have nt2 : NoTup H0 [lp, ls] := fun b m xs e => by
            simp only [List.mem_cons, List.not_mem_nil, or_false] at m
            rcases m with rfl | rfl
            · rw [hp0] at e; cases e
            · rw [hs0] at e; cases e
          have bt2 : But [lp, ls] H0 _ := fun b o e n => z3 b o e (fun q => n (by simp [q])) (fun q => n (by simp [q]))
          have hx33 := KyAt.keep bt2 nt2 _ _ v1 hx3
          have hxk3 := KyAt.keep bt2 nt2 _ _ (tup_vals (vals_two v2 v1) (by simp)) hxk
          clear bt2
          walk_at "rd"
          generalize upd (upd H0 lp (.lst (wp.eraseIdx A0.length))) ls (.lst [.int (S.row.length : Nat), .int S.com, .int (S.goi + 1), .int (2 * 2 ^ S.j / 3)]) = H3 at g3 z3 ht3 hx33 hxk3 ⊢
          refine iteN (by decide) ⟨by walk_at "sz", fun t ht => ?_⟩
          have st := Same_upd (o := .tup [.int 0, .ref tq]) (Same.refl H3) ht
          refine k _ _ (by dsimp only; rw [eg2]; exact g3.ext st) (keep2 (fun b o e n m => z3 b o (s0 b o e) n m) st) (.tup upd_same (.cons (.num _) (.cons ?_ .nil)))
          dsimp only
          rw [eg2, List.getD_eq_getElem?_getD, e2]
          exact hxk3.same st _ _

end Law
namespace Law
open PySem PySem.Spec PyProof.Rows L2 My
theorem sc_law_due : FnScope ["_law_pairs", "_law_state", "_law_way_here", "_law_key_here", "_law_value_here", "_law_at"] ["_law_pairs", "_law_state", "_law_way_here", "_law_key_here", "_law_value_here"] (defScope s_law_due) := ⟨rfl, rfl, rfl, by decide +kernel, rfl, by decide +kernel, by decide +kernel⟩

def Plain (S : Sh) : Prop := S.tid = 0 ∧ S.mov = 0 ∧ S.jl = S.j
def spDueA (C : Addr) : Sp := fun vs H Q _ => ∃ sh lp ls w v u Hb S y z, vs = [.ref lp, .ref ls, .int (w : Nat), v, u] ∧ w ≤ 7 ∧ Plain S ∧ LW Hb H C sh S (own lp ls S) ∧ KyAt H v y ∧ KeyOk y ∧ KyAt H u z ∧ HVal z ∧
  ∀ H' x, LW Hb H' C sh S (own lp ls (S.deed (fun _ => none) w y z).2.2) → (∀ b o, H b = some o → b ≠ lp → b ≠ ls → H' b = some o) → KyAt H' x (.tup [.num (S.deed (fun _ => none) w y z).1, (S.deed (fun _ => none) w y z).2.1]) → Q x H'
theorem len_dueA {C : Addr} {vs H Q E} (h : spDueA C vs H Q E) : vs.length = 5 := by obtain ⟨_, _, _, _, _, _, _, _, _, _, rfl, _⟩ := h; rfl
theorem deed_plain {S : Sh} (p : Plain S) {w : Nat} {y z : Ky} : Plain (S.deed (fun _ => none) w y z).2.2 ∧ (S.deed (fun _ => none) w y z).2.2.j = S.j := by
  match w with
  | 0 =>
    unfold Sh.deed Sh.put
    cases S.find y with
    | some q => exact ⟨p, rfl⟩
    | none =>
      dsimp only
      by_cases c : S.full = true
      · rw [if_pos c]; exact ⟨p, rfl⟩
      · rw [if_neg c]; exact ⟨p, rfl⟩
  | 1 => unfold Sh.deed; cases S.find y <;> exact ⟨p, rfl⟩
  | 2 => unfold Sh.deed; cases S.last <;> exact ⟨p, rfl⟩
  | 3 => unfold Sh.deed; cases S.heldAt y <;> exact ⟨p, rfl⟩
  | 4 => unfold Sh.deed; cases S.heldAt y <;> exact ⟨p, rfl⟩
  | 5 => exact ⟨p, rfl⟩
  | 6 => exact ⟨p, rfl⟩
  | n + 7 => exact ⟨⟨p.1, p.2.1, rfl⟩, p.2.2⟩
theorem ok_law_due {P : Program} {w : World} {K : PySem.W.Frag} {mg : Str → Option Value} {base : Heap} {A : Ad} (T : Txt K mg A) : FnOk P w K mg base CX0 3 A.a_law_due A.d_law_due ["_law_pairs", "_law_state", "_law_way_here", "_law_key_here", "_law_value_here"] (spDueA A.c_Shelf) := by
  refine T.F_law_due.ok sc_law_due (fun vs H Q E h => ?_) (fun cdv A' outer s H vs Q E hr h => ?_)
  · exact len_dueA h
  · have nd := sc_law_due.nd
    have hu := hu_of hr
    refine ⟨_, (pss_cons (ps_if (pt_cmpR op_eq (pv 2) pe_int (nomark _)) (pss_one (ps_ret (pe_call (ok_law_due_put T) (hr.mono (by decide)) rfl T.m_law_due_put T.F_law_due_put.kp T.b_law_due_put .nil pass0 (pa_cons (pv 0) (pa_cons (pv 1) (pa_cons (pv 3) (pa_cons (pv 4) pa_nil))))))) pss_nil) (pss_cons (ps_if (pt_cmpR op_lt (pv 2) pe_int (nomark _)) (pss_one (ps_ret (pe_call (ok_law_due_out T) (hr.mono (by decide)) rfl T.m_law_due_out T.F_law_due_out.kp T.b_law_due_out .nil pass0 (pa_cons (pv 0) (pa_cons (pv 1) (pa_cons (pv 2) (pa_cons (pv 3) pa_nil))))))) pss_nil) (pss_cons (ps_set (i := 5) nd rfl (Or.inl rfl) (pe_call (ok_law_spot T) (hr.mono (by decide)) rfl T.m_law_spot T.F_law_spot.kp T.b_law_spot .nil pass0 (pa_cons (pv 0) (pa_cons (pv 3) pa_nil)))) (pss_cons (ps_if (pt_cmpR op_eq (pv 2) pe_int (nomark _)) (pss_one (ps_ret (pe_tup (pa_cons pe_int (pa_cons (pe_cmpR op_notN (pv 5) pe_non (nomark _)) pa_nil))))) pss_nil) (pss_cons (ps_if (pt_cmpR op_eq (pv 2) pe_int (nomark _)) (pss_one (ps_ret (pe_tup (pa_cons pe_int (pa_cons (pe_tup (pa_cons (pe_callB call_lenU rfl T.n_len PySem.boot_len (pa_cons (pv 0) pa_nil)) (pa_cons (pe_ix ix_list (pv 1) pe_int (fun _ _ => rfl)) (pa_cons (pe_ix ix_list (pv 1) pe_int (fun _ _ => rfl)) (pa_cons pe_int (pa_cons pe_int pa_nil)))))) pa_nil))))) pss_nil) (pss_cons (ps_if (pt_cmpR op_eq (pv 2) pe_int (nomark _)) (pss_cons (ps_asg (pe_op op_add (pe_ix ix_list (pv 1) pe_int (fun _ _ => rfl)) (pe_callB call_lenU rfl T.n_len PySem.boot_len (pa_cons (pv 0) pa_nil))) (pg_sub (pv 1) pe_int set_list)) (pss_cons (ps_asg pe_int (pg_sub (pv 1) pe_int set_list)) (pss_cons (ps_expr (pe_bm0 PySem.F.plainAttrs_list PySem.F.slot_list_clear PySem.F.type_list_clear mt_clear (pv 0))) (pss_one (ps_ret (pe_tup (pa_cons pe_int (pa_cons pe_non pa_nil)))))))) pss_nil) (pss_cons (ps_if (pt_cmpR op_notN (pv 5) pe_non (nomark _)) (pss_one (ps_ret (pe_tup (pa_cons pe_int (pa_cons (pe_ix ix_tup (pe_ix ix_list (pv 0) (pv 5) (fun _ _ => rfl)) pe_int (fun _ _ => rfl)) pa_nil))))) pss_nil) (pss_one (ps_ret (pe_ix ix_list (pe_lst (pa_cons (pe_tup (pa_cons pe_int (pa_cons pe_non pa_nil))) (pa_cons (pe_tup (pa_cons pe_int (pa_cons (pv 4) pa_nil))) pa_nil))) (pe_op op_sub (pv 2) pe_int) (fun _ _ => rfl))))))))))), ?_⟩
    clear nd
    obtain ⟨sh, lp, ls, w, v, u, Hb, S, y, z, rfl, hw, pl, g, hy, yk, hu, hz, k⟩ := h
    obtain ⟨wp, hp, hwp⟩ := g.get (q := (lp, S.lv.map pairT)) (by simp [own])
    obtain ⟨wl, hs, hwl⟩ := g.get (q := (ls, stL S)) (by simp [own])
    have ew := nums4 hwl
    subst ew
    obtain ⟨fp, hS, -⟩ := g.step
    have ok := hS.ok
    have lw := KysAt.len hwp
    dsimp only at lw
    rw [List.length_map] at lw
    have ll := lv_len ok
    have lnl := lv_le ok
    have z0 : ∀ b o, H b = some o → b ≠ lp → b ≠ ls → H b = some o := fun b o e _ _ => e
    have npl : lp ≠ ls := by
      have := g.nd
      simp [own] at this
      exact this
    have res : ∀ (H0 : Hp) (a : Int) (d : V) (dk : Ky), LW Hb H0 A.c_Shelf sh S (own lp ls (S.deed (fun _ => none) w y z).2.2) → (∀ b o, H b = some o → b ≠ lp → b ≠ ls → H0 b = some o) → KyAt H0 d dk → (S.deed (fun _ => none) w y z).1 = a → (S.deed (fun _ => none) w y z).2.1 = dk → [V.int a, d].length ≤ sizeLine ∧ ∀ p, Fresh H0 p → Q (.ref p) (upd H0 p (.tup [.int a, d])) := by
      intro H0 a d dk h1 h2 h3 e1 e2
      refine ⟨by walk_at "sz", fun t ht => ?_⟩
      have st := Same_upd (o := .tup [.int a, d]) (Same.refl H0) ht
      refine k _ _ (h1.ext st) (keep2 h2 st) ?_
      rw [e1, e2]
      exact .tup upd_same (.cons (.num _) (.cons (h3.same st _ _) .nil))
    walk_at "rd"
    match w, hw with
    | 0, _ => exact iteP (by decide) ⟨sh, lp, ls, 0, v, u, Hb, S, y, z, rfl, rfl, g, hy, yk, hu, hz, k⟩
    | 1, _ => exact iteN (by decide) (iteP (by decide) ⟨sh, lp, ls, 1, v, u, Hb, S, y, z, rfl, .inl rfl, g, hy, yk, hu, hz, k⟩)
    | 2, _ => exact iteN (by decide) (iteP (by decide) ⟨sh, lp, ls, 2, v, u, Hb, S, y, z, rfl, .inr rfl, g, hy, yk, hu, hz, k⟩)
    | 3, _ =>
      refine iteN (by decide) (iteN (by decide) ?_)
      refine spot_use hp hwp ok hy yk (fun ef => ?_) fun q A0 B zq ef e1 e2 e3 e4 => ?_
      · refine iteN (by decide) (iteN (by decide) (iteN (by decide) (iteN (by simp) ?_)))
        have e0 : S.heldAt y = none := by unfold Sh.heldAt; rw [ef]
        unfold Sh.deed at k
        rw [e0] at k
        refine ⟨by walk_at "sz", fun p1 f1 => ⟨by walk_at "sz", fun p2 f2 => ⟨by walk_at "sz", fun p3 f3 => ⟨_, _, SqL.of upd_same, rfl, ?_⟩⟩⟩⟩
        have st : Same H (upd (upd (upd H p1 (.tup [.int 2, .non])) p2 (.tup [.int 0, u])) p3 (.lst [.ref p1, .ref p2])) := by walk_at "same"
        exact k _ _ (g.ext st) (keep2 z0 st) (.tup (by walk_at "hp") (.cons (.num _) (.cons .non .nil)))
      · refine iteN (by decide) (iteN (by decide) (iteN (by decide) (iteP (by simp) ?_)))
        have e0 : S.heldAt y = some zq := by unfold Sh.heldAt; rw [ef]; exact e2
        have lA : A0.length < wp.length := by rw [lw, e1, List.length_append, List.length_cons]; omega
        obtain ⟨x1, h1, a1⟩ := at_any (xs := wp) (c := ((A0.length : Nat) : Int)) (by omega) (by omega)
        rw [Int.toNat_natCast] at h1
        obtain ⟨kx, hk, hxk⟩ := hwp.get h1
        have e5 : kx = .tup [y, zq] := by
          dsimp only at hk
          rw [e1, List.map_append, List.map_cons, List.getElem?_append_right (by rw [List.length_map]; exact Nat.le_refl _), List.length_map, Nat.sub_self] at hk
          simpa [pairT] using hk.symm
        subst e5
        obtain ⟨tq, x2, x3, rfl, ht, hx2, hx3⟩ := tup2_of hxk
        walk_at "rd"
        refine ⟨_, _, SqL.of hp, a1, ?_⟩
        walk_at "rd"
        refine ⟨_, _, SqT.of ht, rfl, ?_⟩
        exact res H 0 x3 zq (by unfold Sh.deed; rw [e0]; exact g) z0 hx3 (by unfold Sh.deed; rw [e0]; rfl) (by unfold Sh.deed; rw [e0]; rfl)
    | 4, _ =>
      refine iteN (by decide) (iteN (by decide) ?_)
      refine spot_use hp hwp ok hy yk (fun ef => ?_) fun q A0 B zq ef e1 e2 e3 e4 => ?_
      · refine iteN (by decide) (iteN (by decide) (iteN (by decide) (iteN (by simp) ?_)))
        have e0 : S.heldAt y = none := by unfold Sh.heldAt; rw [ef]
        unfold Sh.deed at k
        rw [e0] at k
        refine ⟨by walk_at "sz", fun p1 f1 => ⟨by walk_at "sz", fun p2 f2 => ⟨by walk_at "sz", fun p3 f3 => ⟨_, _, SqL.of upd_same, rfl, ?_⟩⟩⟩⟩
        have st : Same H (upd (upd (upd H p1 (.tup [.int 2, .non])) p2 (.tup [.int 0, u])) p3 (.lst [.ref p1, .ref p2])) := by walk_at "same"
        exact k _ _ (g.ext st) (keep2 z0 st) (.tup (by walk_at "hp") (.cons (.num _) (.cons (hu.same st _ _) .nil)))
      · refine iteN (by decide) (iteN (by decide) (iteN (by decide) (iteP (by simp) ?_)))
        have e0 : S.heldAt y = some zq := by unfold Sh.heldAt; rw [ef]; exact e2
        have lA : A0.length < wp.length := by rw [lw, e1, List.length_append, List.length_cons]; omega
        obtain ⟨x1, h1, a1⟩ := at_any (xs := wp) (c := ((A0.length : Nat) : Int)) (by omega) (by omega)
        rw [Int.toNat_natCast] at h1
        obtain ⟨kx, hk, hxk⟩ := hwp.get h1
        have e5 : kx = .tup [y, zq] := by
          dsimp only at hk
          rw [e1, List.map_append, List.map_cons, List.getElem?_append_right (by rw [List.length_map]; exact Nat.le_refl _), List.length_map, Nat.sub_self] at hk
          simpa [pairT] using hk.symm
        subst e5
        obtain ⟨tq, x2, x3, rfl, ht, hx2, hx3⟩ := tup2_of hxk
        walk_at "rd"
        refine ⟨_, _, SqL.of hp, a1, ?_⟩
        walk_at "rd"
        refine ⟨_, _, SqT.of ht, rfl, ?_⟩
        exact res H 0 x3 zq (by unfold Sh.deed; rw [e0]; exact g) z0 hx3 (by unfold Sh.deed; rw [e0]; rfl) (by unfold Sh.deed; rw [e0]; rfl)
    | 5, _ =>
      refine iteN (by decide) (iteN (by decide) ?_)
      refine spot_use hp hwp ok hy yk (fun ef => ?_) fun q A0 B zq ef e1 e2 e3 e4 => ?_
      · refine iteP (by decide) ?_
        rw [decide_eq_true rfl]
        exact res H 0 (.bl false) (.bl false) g z0 (.bl _) rfl (by unfold Sh.deed; rw [ef]; rfl)
      · refine iteP (by decide) ?_
        rw [decide_eq_false (by simp)]
        exact res H 0 (.bl true) (.bl true) g z0 (.bl _) rfl (by unfold Sh.deed; rw [ef]; rfl)
    | 6, _ =>
      refine iteN (by decide) (iteN (by decide) ?_)
      refine spot_use hp hwp ok hy yk (fun ef => ?_) fun q A0 B zq ef e1 e2 e3 e4 => ?_
      · refine iteN (by decide) (iteP (by decide) ?_)
        refine ⟨_, .inl (SqL.of hp), _, _, SqL.of hs, rfl, ?_⟩
        walk_at "rd"
        refine ⟨_, _, SqL.of hs, rfl, ?_⟩
        walk_at "rd"
        refine ⟨by walk_at "sz", fun t5 f5 => ?_⟩
        have s5 := Same_upd (o := .tup [.int (wp.length : Nat), .int S.com, .int S.goi, .int 0, .int 0]) (Same.refl H) f5
        refine res _ 0 (.ref t5) (.tup (S.counts.map Ky.num)) (g.ext s5) (keep2 z0 s5) ?_ rfl rfl
        have ec : S.counts = [(wp.length : Int), S.com, S.goi, 0, 0] := by
          unfold Sh.counts
          rw [pl.1, pl.2.1, lw, ll]
        rw [ec]
        exact .tup upd_same (nums_at [(wp.length : Int), S.com, S.goi, 0, 0])
      · refine iteN (by decide) (iteP (by decide) ?_)
        refine ⟨_, .inl (SqL.of hp), _, _, SqL.of hs, rfl, ?_⟩
        walk_at "rd"
        refine ⟨_, _, SqL.of hs, rfl, ?_⟩
        walk_at "rd"
        refine ⟨by walk_at "sz", fun t5 f5 => ?_⟩
        have s5 := Same_upd (o := .tup [.int (wp.length : Nat), .int S.com, .int S.goi, .int 0, .int 0]) (Same.refl H) f5
        refine res _ 0 (.ref t5) (.tup (S.counts.map Ky.num)) (g.ext s5) (keep2 z0 s5) ?_ rfl rfl
        have ec : S.counts = [(wp.length : Int), S.com, S.goi, 0, 0] := by
          unfold Sh.counts
          rw [pl.1, pl.2.1, lw, ll]
        rw [ec]
        exact .tup upd_same (nums_at [(wp.length : Int), S.com, S.goi, 0, 0])
    | 7, _ =>
      refine iteN (by decide) (iteN (by decide) ?_)
      refine spot_use hp hwp ok hy yk (fun ef => ?_) fun q A0 B zq ef e1 e2 e3 e4 => ?_
      · refine iteN (by decide) (iteN (by decide) (iteP (by decide) ?_))
        refine ⟨_, _, SqL.of hs, rfl, ?_⟩
        walk_at "rd"
        refine ⟨_, .inl (SqL.of hp), _, _, hs, rfl, _, _, upd_same, rfl, ?_⟩
        walk_at "rd"
        rw [L2.upd_upd]
        have e7 : S.goi + (wp.length : Int) = S.com := by omega
        have g1 := LW.put (o1 := [(lp, S.lv.map pairT)]) (o2 := []) (a := ls) (ls := ([0, S.com, S.goi + (wp.length : Int), 2 * 2 ^ S.j / 3] : List Int).map Ky.num) (ws := [.int 0, .int S.com, .int (S.goi + (wp.length : Int)), .int (2 * 2 ^ S.j / 3)]) g (vals_nums _) (nums_at [0, S.com, S.goi + (wp.length : Int), 2 * 2 ^ S.j / 3])
        have g2 := LW.put (o1 := []) (o2 := [(ls, ([0, S.com, S.goi + (wp.length : Int), 2 * 2 ^ S.j / 3] : List Int).map Ky.num)]) (a := lp) (ls := []) (ws := []) g1 rfl .nil
        have hp1 : upd H ls (.lst [.int 0, .int S.com, .int (S.goi + (wp.length : Int)), .int (2 * 2 ^ S.j / 3)]) lp = some (.lst wp) := by rw [upd_ne npl]; exact hp
        have z1 := keepU (o := .lst [.int 0, .int S.com, .int (S.goi + (wp.length : Int)), .int (2 * 2 ^ S.j / 3)]) z0 (.inr rfl)
        have z2 := keepU (o := .lst []) z1 (.inl rfl)
        refine ⟨tyL hp1, lp, wp, rfl, rfl, hp1, res _ 0 .non .non ?_ z2 .non rfl rfl⟩
        have eo : own lp ls S.emptied = [(lp, []), (ls, ([0, S.com, S.goi + (wp.length : Int), 2 * 2 ^ S.j / 3] : List Int).map Ky.num)] := by
          unfold own
          rw [e7]
          show [(lp, []), (ls, ([((0 : Nat) : Int), S.com, S.com, 2 * 2 ^ S.jl / 3] : List Int).map Ky.num)] = _
          rw [pl.2.2]
          rfl
        show LW Hb _ _ _ _ (own lp ls S.emptied)
        rw [eo]
        exact g2
      · refine iteN (by decide) (iteN (by decide) (iteP (by decide) ?_))
        refine ⟨_, _, SqL.of hs, rfl, ?_⟩
        walk_at "rd"
        refine ⟨_, .inl (SqL.of hp), _, _, hs, rfl, _, _, upd_same, rfl, ?_⟩
        walk_at "rd"
        rw [L2.upd_upd]
        have e7 : S.goi + (wp.length : Int) = S.com := by omega
        have g1 := LW.put (o1 := [(lp, S.lv.map pairT)]) (o2 := []) (a := ls) (ls := ([0, S.com, S.goi + (wp.length : Int), 2 * 2 ^ S.j / 3] : List Int).map Ky.num) (ws := [.int 0, .int S.com, .int (S.goi + (wp.length : Int)), .int (2 * 2 ^ S.j / 3)]) g (vals_nums _) (nums_at [0, S.com, S.goi + (wp.length : Int), 2 * 2 ^ S.j / 3])
        have g2 := LW.put (o1 := []) (o2 := [(ls, ([0, S.com, S.goi + (wp.length : Int), 2 * 2 ^ S.j / 3] : List Int).map Ky.num)]) (a := lp) (ls := []) (ws := []) g1 rfl .nil
        have hp1 : upd H ls (.lst [.int 0, .int S.com, .int (S.goi + (wp.length : Int)), .int (2 * 2 ^ S.j / 3)]) lp = some (.lst wp) := by rw [upd_ne npl]; exact hp
        have z1 := keepU (o := .lst [.int 0, .int S.com, .int (S.goi + (wp.length : Int)), .int (2 * 2 ^ S.j / 3)]) z0 (.inr rfl)
        have z2 := keepU (o := .lst []) z1 (.inl rfl)
        refine ⟨tyL hp1, lp, wp, rfl, rfl, hp1, res _ 0 .non .non ?_ z2 .non rfl rfl⟩
        have eo : own lp ls S.emptied = [(lp, []), (ls, ([0, S.com, S.goi + (wp.length : Int), 2 * 2 ^ S.j / 3] : List Int).map Ky.num)] := by
          unfold own
          rw [e7]
          show [(lp, []), (ls, ([((0 : Nat) : Int), S.com, S.com, 2 * 2 ^ S.jl / 3] : List Int).map Ky.num)] = _
          rw [pl.2.2]
          rfl
        show LW Hb _ _ _ _ (own lp ls S.emptied)
        rw [eo]
        exact g2

end Law
namespace Law
open PySem PySem.Spec PyProof.Rows L2 My
theorem sc_law_look : FnScope ["_law_shelf", "_law_pairs", "_law_key_here", "_law_first"] ["_law_shelf", "_law_pairs", "_law_key_here", "_law_first"] (defScope s_law_look) := ⟨rfl, rfl, rfl, by decide +kernel, rfl, by decide +kernel, by decide +kernel⟩

def spLook (C : Addr) : Sp := fun vs H Q _ => ∃ sh lp v b Hb S y own, vs = [.ref sh, .ref lp, v, .bl b] ∧ LW Hb H C sh S own ∧ (lp, S.lv.map pairT) ∈ own ∧ KyAt H v y ∧ KeyOk y ∧ ∀ H', Same H H' → Q (.bl true) H'
theorem len_look {C : Addr} {vs H Q E} (h : spLook C vs H Q E) : vs.length = 4 := by obtain ⟨_, _, _, _, _, _, _, _, rfl, _⟩ := h; rfl
theorem ok_law_look {P : Program} {w : World} {K : PySem.W.Frag} {mg : Str → Option Value} {base : Heap} {A : Ad} (T : Txt K mg A) : FnOk P w K mg base CX0 14 A.a_law_look A.d_law_look ["_law_shelf", "_law_pairs", "_law_key_here", "_law_first"] (spLook A.c_Shelf) := by
  refine T.F_law_look.ok sc_law_look (fun vs H Q E h => ?_) (fun cdv A' outer s H vs Q E hr h => ?_)
  · exact len_look h
  · have nd := sc_law_look.nd
    have hu := hu_of hr
    refine ⟨_, (pss_cons (ps_if (PW.pt (pw_and (pt_val (pv 3)) (pw_and1 (pt_not (pt_val (pe_call (ok_law_alike T 12) (hr.mono (by decide)) rfl T.m_law_alike T.F_law_alike.kp T.b_law_alike .nil pass0 (pa_cons (pe_meth0 (pv 0) T.cl_Shelf T.me_Shelf_many (ok_Shelf_many T) (hr.mono (by decide)) T.b_Shelf_many .nil pass0) (pa_cons (pe_callB call_lenU rfl T.n_len PySem.boot_len (pa_cons (pv 1) pa_nil)) pa_nil)))))))) (pss_one (ps_ret pe_bl)) pss_nil) (pss_cons (ps_if (pt_not (pt_val (pe_call (ok_law_alike T 12) (hr.mono (by decide)) rfl T.m_law_alike T.F_law_alike.kp T.b_law_alike .nil pass0 (pa_cons (pe_meth (pv 0) T.cl_Shelf T.me_Shelf_has (ok_Shelf_has T) (hr.mono (by decide)) T.b_Shelf_has .nil passL (pa_cons (pv 2) pa_nil)) (pa_cons (pe_cmpR op_notN (pe_call (ok_law_spot T) (hr.mono (by decide)) rfl T.m_law_spot T.F_law_spot.kp T.b_law_spot .nil pass0 (pa_cons (pv 1) (pa_cons (pv 2) pa_nil))) pe_non (nomark _)) pa_nil))))) (pss_one (ps_ret pe_bl)) pss_nil) (pss_one (ps_ret (pe_and (pe_call (ok_law_alike T 12) (hr.mono (by decide)) rfl T.m_law_alike T.F_law_alike.kp T.b_law_alike .nil pass0 (pa_cons (pe_meth0 (pv 0) T.cl_Shelf T.me_Shelf_pairs (ok_Shelf_pairs T) (hr.mono (by decide)) T.b_Shelf_pairs .nil pass0) (pa_cons (pv 1) pa_nil))) (pe_one (pe_call (ok_law_alike T 12) (hr.mono (by decide)) rfl T.m_law_alike T.F_law_alike.kp T.b_law_alike .nil pass0 (pa_cons (pe_meth0 (pv 0) T.cl_Shelf T.me_Shelf_many (ok_Shelf_many T) (hr.mono (by decide)) T.b_Shelf_many .nil pass0) (pa_cons (pe_callB call_lenU rfl T.n_len PySem.boot_len (pa_cons (pv 1) pa_nil)) pa_nil))))))))), ?_⟩
    clear nd
    obtain ⟨sh, lp, v, b, Hb, S, y, own, rfl, g, mem, hy, yk, k⟩ := h
    obtain ⟨wp, hp, hwp⟩ := g.get mem
    dsimp only at hp hwp
    obtain ⟨fp, hS, -⟩ := g.step
    have ok := hS.ok
    have lw := KysAt.len hwp
    rw [List.length_map] at lw
    have ll := lv_len ok
    have lnl := lv_le ok
    have el : S.com - S.goi = (wp.length : Int) := by omega
    walk_at "rd"
    have rest : ∀ (H0 : Hp), Same H H0 → MetAt H0 sh A.c_Shelf "has" ∧ spHas A.c_Shelf A.c_NoKey [V.ref sh, v] H0 (fun x H1 => spSpot K [V.ref lp, v] H1 (fun x_1 H2 => spAlike 12 [x, V.bl !decide (x_1 = V.non)] H2 (fun x H' => isBl x fun k => if k = false then Q (V.bl false) H' else MetAt H' sh A.c_Shelf "pairs" ∧ spPairs A.c_Shelf [V.ref sh] H' (fun x H1 => spAlike 12 [x, V.ref lp] H1 (fun x H1 => isBl x fun c => if c = true then MetAt H1 sh A.c_Shelf "many" ∧ spMany A.c_Shelf [V.ref sh] H1 (fun x H2 => ∃ ys, (SqL K H2 lp ys ∨ SqT K H2 lp ys) ∧ spAlike 12 [x, V.int ↑ys.length] H2 Q E0) E0 else Q (V.bl false) H1) E0) E0) E0) E0) E0 := by
      intro H0 s0
      refine ⟨(hS.ext s0).met (by intros; with_unfolding_all rfl), ⟨_, _, _, _, _, _, rfl, (hS.ext s0), (hy.same s0 _ _), yk.f, fun _ => yk, fun e => (by rw [yk.w] at e; cases e), fun _ => ?_⟩⟩
      intro H1 s1
      have s1 := s0.trans s1
      have fin : ∀ b, (S.find y).isSome = b → spAlike 12 [V.bl (S.find y).isSome, V.bl b] H1 (fun x H' => isBl x fun k => if k = false then Q (V.bl false) H' else MetAt H' sh A.c_Shelf "pairs" ∧ spPairs A.c_Shelf [V.ref sh] H' (fun x H1 => spAlike 12 [x, V.ref lp] H1 (fun x H1 => isBl x fun c => if c = true then MetAt H1 sh A.c_Shelf "many" ∧ spMany A.c_Shelf [V.ref sh] H1 (fun x H2 => ∃ ys, (SqL K H2 lp ys ∨ SqT K H2 lp ys) ∧ spAlike 12 [x, V.int ↑ys.length] H2 Q E0) E0 else Q (V.bl false) H1) E0) E0) E0 := by
        intro b eb
        rw [eb]
        refine ⟨_, _, rfl, .scal rfl, fun H2 s2 => ?_⟩
        have s2 := s1.trans s2
        walk_at "rd"
        refine ⟨(hS.ext s2).met (by intros; with_unfolding_all rfl), _, _, _, _, rfl, hS.ext s2, fun H3 L3 xs s3 f3 hL hk => ?_⟩
        have s3 := s2.trans s3
        rw [pairs_lv ok] at hk
        refine ⟨_, _, rfl, alike_lst (n := 11) hL (s3 _ _ hp) hk (hwp.same s3 _ _) (fun q hq => ⟨(pairT_dep ok q hq).1, Nat.le_trans (pairT_dep ok q hq).2 (by decide)⟩) (by rw [List.length_map]; omega), fun H4 s4 => ?_⟩
        have s4 := s3.trans s4
        walk_at "rd"
        refine ⟨(hS.ext s4).met (by intros; with_unfolding_all rfl), _, _, _, _, rfl, hS.ext s4, _, .inl (SqL.of (s4 _ _ hp)), ?_⟩
        rw [el]
        exact ⟨_, _, rfl, .scal rfl, fun H5 s5 => k _ (s4.trans s5)⟩
      refine spot_use (s1 _ _ hp) (hwp.same s1 _ _) ok (hy.same s1 _ _) yk (fun ef => ?_) fun q A0 B zq ef e1 e2 e3 e4 => ?_
      · rw [decide_eq_true rfl]
        exact fin _ (by rw [ef]; rfl)
      · rw [decide_eq_false (by simp)]
        exact fin _ (by rw [ef]; rfl)
    cases b with
    | false => exact iteN (by decide) (rest H (Same.refl _))
    | true =>
      refine iteP rfl ⟨hS.met (by intros; with_unfolding_all rfl), _, _, _, _, rfl, hS, _, .inl (SqL.of hp), ?_⟩
      rw [el]
      refine ⟨_, _, rfl, .scal rfl, fun H1 s1 => ?_⟩
      walk_at "rd"
      exact rest H1 s1

end Law
namespace Law
open PySem PySem.Spec PyProof.Rows L2 My
theorem sc_law_way : FnScope ["_law_cell"] ["_law_cell"] (defScope s_law_way) := ⟨rfl, rfl, rfl, by decide +kernel, rfl, by decide +kernel, by decide +kernel⟩
theorem ok_law_way {P : Program} {w : World} {K : PySem.W.Frag} {mg : Str → Option Value} {base : Heap} {A : Ad} (T : Txt K mg A) : FnOk P w K mg base CX0 1 A.a_law_way A.d_law_way ["_law_cell"] (spAny1 fun _ v => ∃ w : Nat, w ≤ 7 ∧ v = .int w) := by
  refine T.F_law_way.ok sc_law_way (fun vs H Q E h => ?_) (fun cdv A' outer s H vs Q E hr h => ?_)
  · walk_at "spl"
  · have nd := sc_law_way.nd
    have hu := hu_of hr
    refine ⟨_, (pss_cons (ps_if (pt_cmpR op_lt (pe_op op_mod (pv 0) pe_int) pe_int (nomark _)) (pss_one (ps_ret pe_int)) pss_nil) (pss_cons (ps_if (pt_cmpR op_lt (pe_op op_mod (pv 0) pe_int) pe_int (nomark _)) (pss_one (ps_ret (pe_op op_sub (pe_op op_mod (pv 0) pe_int) pe_int))) pss_nil) (pss_cons (ps_if (PW.pt (pw_and (pt_cmpR op_eq (pe_op op_mod (pv 0) pe_int) pe_int (nomark _)) (pw_and1 (pt_cmpR op_eq (pe_op op_mod (pe_op op_fdivW (pv 0) pe_int) pe_int) pe_int (nomark _))))) (pss_one (ps_ret pe_int)) pss_nil) (pss_one (ps_ret pe_int))))), ?_⟩
    clear nd
    obtain ⟨n, rfl, k⟩ := h
    walk_at "rd"
    have q0 : 0 ≤ n % 12 := Int.emod_nonneg _ (by decide)
    refine iteB (fun c1 => k _ ⟨0, by decide, rfl⟩) fun c1 => iteB (fun c2 => k _ ⟨(n % 12 - 3).toNat, by omega, by rw [Int.toNat_of_nonneg (by omega)]⟩) fun c2 => ?_
    walk_at "dt"
    all_goals first | exact k _ ⟨7, by decide, rfl⟩ | exact k _ ⟨0, by decide, rfl⟩

end Law
namespace Law
open PySem PySem.Spec PyProof.Rows L2 My
theorem sc_law : FnScope ["_law_script", "_law_size", "_law_pool", "_law_kind", "_law_base", "_law_shelf", "_law_pairs", "_law_state", "_law_cell", "_law_number", "_law_key_here", "_law_value_here", "_law_way_here", "_law_many", "_law_k", "_law_due_here"] ["_law_script"] (defScope s_law) := ⟨rfl, rfl, rfl, by decide +kernel, rfl, by decide +kernel, by decide +kernel⟩

def ResOk (d : Ky) : Prop := (d.val = true ∧ d.dep ≤ 10) ∨ ∃ b, d = .bl b
theorem deed_res {S : Sh} (o : S.Ok) {w : Nat} {y z : Ky} (hz : HVal z) : ResOk (S.deed (fun _ => none) w y z).2.1 := by
  have n0 : ResOk .non := .inl ⟨rfl, by simp [Ky.dep]⟩
  have hh : ∀ q, ResOk (S.held.getD q .non) := fun q => .inl ⟨(o.hval q).1, Nat.le_trans (o.hval q).2 (by decide)⟩
  have ha : ∀ u, S.heldAt y = some u → ResOk u := fun u e => by
    unfold Sh.heldAt at e
    cases ef : S.find y with
    | none => rw [ef] at e; cases e
    | some q =>
      rw [ef] at e
      have := o.hv u (List.mem_of_getElem? e)
      exact .inl ⟨this.1, Nat.le_trans this.2 (by decide)⟩
  match w with
  | 0 =>
    unfold Sh.deed
    cases S.put (fun _ => none) y z with
    | none => exact n0
    | some p => exact .inr ⟨_, rfl⟩
  | 1 =>
    unfold Sh.deed
    cases S.find y with
    | none => exact n0
    | some q => exact hh q
  | 2 =>
    unfold Sh.deed
    cases el : S.last with
    | none => exact n0
    | some q =>
      obtain ⟨y2, e1, e2, e3⟩ := liv_key o (ahead_liv el).2
      dsimp only
      rw [e3]
      refine .inl ⟨tup_vals (vals_two e2.val (o.hval q).1) (by simp), ?_⟩
      have := e2.d
      have := (o.hval q).2
      simp only [Ky.dep, Ky.deps]
      omega
  | 3 =>
    unfold Sh.deed
    cases e : S.heldAt y with
    | none => exact n0
    | some u => exact ha u e
  | 4 =>
    unfold Sh.deed
    cases e : S.heldAt y with
    | none => exact .inl ⟨hz.1, Nat.le_trans hz.2 (by decide)⟩
    | some u => exact ha u e
  | 5 => exact .inr ⟨_, rfl⟩
  | 6 =>
    refine .inl ⟨tup_vals (vals_nums _) (by simp [Sh.counts]), ?_⟩
    simp [Sh.deed, Sh.counts, Ky.dep, Ky.deps]
  | n + 7 => exact n0
theorem res_keep {H H' : Hp} {fp : List Addr} {v : V} {r : Int} {d : Ky} (o : ResOk d) (b : But fp H H') (n : NoTup H fp) (h : KyAt H v (.tup [.num r, d])) : KyAt H' v (.tup [.num r, d]) := by
  rcases o with ⟨o, -⟩ | ⟨c, rfl⟩
  · exact KyAt.keep b n _ _ (tup_vals (vals_two rfl o) (by simp)) h
  · obtain ⟨T, x1, x2, rfl, e, h1, h2⟩ := tup2_of h
    cases h1
    cases h2
    exact .tup (b _ _ e fun m => n _ m _ e) (.cons (.num _) (.cons (.bl _) .nil))
theorem res_alike {H : Hp} {v w : V} {r : Int} {d : Ky} (o : ResOk d) (h : KyAt H v (.tup [.num r, d])) (g : KyAt H w (.tup [.num r, d])) : AlikeN 12 H v w := by
  rcases o with ⟨o, p⟩ | ⟨c, rfl⟩
  · refine alike_ky _ (tup_vals (vals_two rfl o) (by simp)) ?_ h g
    simp only [Ky.dep, Ky.deps]
    omega
  · obtain ⟨a, x1, x2, rfl, e, h1, h2⟩ := tup2_of h
    obtain ⟨b, y1, y2, rfl, e', g1, g2⟩ := tup2_of g
    cases h1
    cases h2
    cases g1
    cases g2
    exact alike_flat (n := 11) e e' (by simp [scalV]) (by simp)
theorem own_noTup {Hb H : Hp} {C sh : Addr} {S : Sh} {own : List (Addr × List Ky)} (g : LW Hb H C sh S own) : NoTup H (own.map Prod.fst) := fun b m xs e => by
  obtain ⟨q, mq, rfl⟩ := List.mem_map.mp m
  obtain ⟨ws, h, -⟩ := g.get mq
  rw [h] at e
  cases e
theorem ok_law {P : Program} {w : World} {K : PySem.W.Frag} {mg : Str → Option Value} {base : Heap} {A : Ad} (T : Txt K mg A) : FnOk P w K mg base CX0 15 A.a_law A.d_law ["_law_script"] (spLaw K) := by
  refine T.F_law.ok sc_law (fun vs H Q E h => ?_) (fun cdv A' outer s H vs Q E hr h => ?_)
  · walk_at "spl"
  · have nd := sc_law.nd
    have hu := hu_of hr
    refine ⟨_, (pss_cons (ps_set (i := 1) nd rfl (Or.inl rfl) (pe_op op_shl pe_int (pe_op op_mod (pe_call (ok_law_cell_at T) (hr.mono (by decide)) rfl T.m_law_cell_at T.F_law_cell_at.kp T.b_law_cell_at .nil pass0 (pa_cons (pv 0) (pa_cons pe_int pa_nil))) pe_int))) (pss_cons (ps_set (i := 2) nd rfl (Or.inl rfl) (pe_op op_add pe_int (pe_op op_mod (pe_op op_fdivW (pe_call (ok_law_cell_at T) (hr.mono (by decide)) rfl T.m_law_cell_at T.F_law_cell_at.kp T.b_law_cell_at .nil pass0 (pa_cons (pv 0) (pa_cons pe_int pa_nil))) pe_int) pe_int))) (pss_cons (ps_set (i := 3) nd rfl (Or.inl rfl) (pe_op op_mod (pe_call (ok_law_cell_at T) (hr.mono (by decide)) rfl T.m_law_cell_at T.F_law_cell_at.kp T.b_law_cell_at .nil pass0 (pa_cons (pv 0) (pa_cons pe_int pa_nil))) pe_int)) (pss_cons (ps_set (i := 4) nd rfl (Or.inl rfl) (pe_op op_mod (pe_call (ok_law_cell_at T) (hr.mono (by decide)) rfl T.m_law_cell_at T.F_law_cell_at.kp T.b_law_cell_at .nil pass0 (pa_cons (pv 0) (pa_cons pe_int pa_nil))) (pe_op op_pow pe_int pe_int))) (pss_cons (ps_set (i := 5) nd rfl (Or.inl rfl) (pe_make T.mk_Shelf (ok_Shelf___init__ T) (hr.mono (by decide)) rfl T.m_Shelf T.b_Shelf___init___2.choose_spec.2 T.b_Shelf___init___2.choose_spec.1 pass0 (pa_cons (pv 1) pa_nil))) (pss_cons (ps_set (i := 6) nd rfl (Or.inl rfl) (pe_lst pa_nil)) (pss_cons (ps_set (i := 7) nd rfl (Or.inl rfl) (pe_lst (pa_cons pe_int (pa_cons pe_int (pa_cons pe_int (pa_cons (pe_op op_fdivW (pe_op op_mulX pe_int (pv 1)) pe_int) pa_nil)))))) (pss_cons (ps_for PassesOwn.never rfl (pi_list (pe_slice sl_list (pv 0) (po_some pe_int) (po_some pe_int))) (pg_name (i := 8) nd rfl (Or.inl rfl)) (pss_cons (ps_set (i := 9) nd rfl (Or.inl rfl) (pe_op op_fdivW (pv 8) pe_int)) (pss_cons (ps_set (i := 10) nd rfl (Or.inl rfl) (pe_call (ok_law_key T) (hr.mono (by decide)) rfl T.m_law_key T.F_law_key.kp T.b_law_key .nil pass0 (pa_cons (pv 3) (pa_cons (pv 4) (pa_cons (pe_op op_mod (pv 9) (pv 2)) pa_nil))))) (pss_cons (ps_set (i := 11) nd rfl (Or.inl rfl) (pe_call (ok_law_value T) (hr.mono (by decide)) rfl T.m_law_value T.F_law_value.kp T.b_law_value .nil pass0 (pa_cons (pe_op op_mod (pe_op op_fdivW (pv 9) (pv 2)) (pe_op op_pow pe_int pe_int)) pa_nil))) (pss_cons (ps_set (i := 12) nd rfl (Or.inl rfl) (pe_call (ok_law_way T) (hr.mono (by decide)) rfl T.m_law_way T.F_law_way.kp T.b_law_way .nil pass0 (pa_cons (pv 8) pa_nil))) (pss_cons (ps_set (i := 13) nd rfl (Or.inl rfl) pe_int) (C8.pss_cut (ps_if (pt_cmpR op_eq (pe_op op_mod (pv 8) pe_int) pe_int (nomark _)) (pss_one (ps_set (i := 13) nd rfl (Or.inl rfl) (pe_op op_mod (pv 9) pe_int))) pss_nil) (pss_cons (ps_for PassesOwn.never rfl (pi_range1 rfl T.n_range (pa_cons (pv 13) pa_nil)) (pg_name (i := 14) nd rfl (Or.inl rfl)) (C8.pss_cut (ps_if (pt_cmpR op_gt (pv 14) pe_int (nomark _)) (pss_one (ps_set (i := 10) nd rfl (Or.inl rfl) (pe_call (ok_law_key T) (hr.mono (by decide)) rfl T.m_law_key T.F_law_key.kp T.b_law_key .nil pass0 (pa_cons (pv 3) (pa_cons (pv 4) (pa_cons (pe_op op_add (pe_op op_mod (pv 9) (pv 2)) (pv 14)) pa_nil)))))) pss_nil) (pss_cons (ps_set (i := 15) nd rfl (Or.inl rfl) (pe_call (ok_law_due T) (hr.mono (by decide)) rfl T.m_law_due T.F_law_due.kp T.b_law_due .nil pass0 (pa_cons (pv 6) (pa_cons (pv 7) (pa_cons (pv 12) (pa_cons (pv 10) (pa_cons (pv 11) pa_nil))))))) (pss_one (ps_if (pt_not (pt_val (pe_call (ok_law_alike T 12) (hr.mono (by decide)) rfl T.m_law_alike T.F_law_alike.kp T.b_law_alike .nil pass0 (pa_cons (pe_call (ok_law_asked T) (hr.mono (by decide)) rfl T.m_law_asked T.F_law_asked.kp T.b_law_asked .nil pass0 (pa_cons (pv 5) (pa_cons (pv 12) (pa_cons (pv 10) (pa_cons (pv 11) pa_nil))))) (pa_cons (pv 15) pa_nil))))) (pss_one (ps_ret pe_bl)) pss_nil))))) (pss_one (ps_if (pt_not (pt_val (pe_call (ok_law_look T) (hr.mono (by decide)) rfl T.m_law_look T.F_law_look.kp T.b_law_look .nil pass0 (pa_cons (pv 5) (pa_cons (pv 6) (pa_cons (pv 10) (pa_cons (pe_cmpR op_eq (pe_op op_mod (pe_op op_fdivW (pv 8) pe_int) pe_int) pe_int (nomark _)) pa_nil))))))) (pss_one (ps_ret pe_bl)) pss_nil)))))))))) (pss_one (ps_ret pe_bl)))))))))), ?_⟩
    clear nd
    obtain ⟨a, ns, rfl, hS, hl, k⟩ := h
    walk_at "rd"
    refine ⟨ns, hS, by walk_at "side", ?_⟩
    rw [pow8]
    generalize ej : (getI ns 0 % 5).toNat + 3 = j
    have j3 : 3 ≤ j := by omega
    have j7 : j ≤ 7 := by omega
    obtain ⟨z0, z1⟩ := pow_le j7
    simp only [Int.reducePow] at z1
    have pc := pow_cast j
    have hp0 : 0 ≤ getI ns 0 / 5 % 30 := Int.emod_nonneg _ (by decide)
    have hp1 : getI ns 0 / 5 % 30 < 30 := Int.emod_lt_of_pos _ (by decide)
    have hb0 : 0 ≤ getI ns 2 % 1000000000000 := Int.emod_nonneg _ (by decide)
    have hb1 : getI ns 2 % 1000000000000 < 1000000000000 := Int.emod_lt_of_pos _ (by decide)
    refine ⟨ns, hS, by walk_at "side", ns, hS, ns, hS, by walk_at "side", fun x dx fx fd _ => ?_⟩
    generalize getI ns 0 / 5 % 30 = pl at hp0 hp1 ⊢
    generalize getI ns 2 % 1000000000000 = bs at hb0 hb1 ⊢
    generalize getI ns 1 % 5 = wy
    refine ⟨x, dx, j, rfl, upd_same, ⟨j3, by omega⟩, fun H2 fp gr sb hS2 => ⟨rfl, by walk_at "sz", fun lp flp => ⟨by walk_at "side", by walk_at "side", by walk_at "sz", fun ls fls => ?_⟩⟩⟩
    obtain ⟨s2, ff2⟩ := made_same fx fd gr sb
    have g := ((LW.start s2 hS2 ff2).new flp (ls := []) (ws := []) rfl .nil).new fls (ls := ([0, 0, 0, 2 * 2 ^ j / 3] : List Int).map Ky.num) (vals_nums _) (nums_at [0, 0, 0, 2 * 2 ^ j / 3])
    have g : LW H (upd (upd H2 lp (.lst [])) ls (.lst [.int 0, .int 0, .int 0, .int (2 * 2 ^ j / 3)])) A.c_Shelf x (Sh.new j) (own lp ls (Sh.new j)) := g
    have plain : Plain (Sh.new j) ∧ (Sh.new j).j = j := ⟨⟨rfl, rfl, rfl⟩, rfl⟩
    generalize upd (upd H2 lp (.lst [])) ls (.lst [.int 0, .int 0, .int 0, .int (2 * 2 ^ j / 3)]) = H3 at g ⊢
    generalize Sh.new j = S0 at g plain ⊢
    refine ⟨_, g.sm.seq hS, fun l fl => ?_⟩
    obtain ⟨ms, em, hm⟩ := cut_map ns (some 3) (some 83)
    rw [em]
    have g := g.base (o := .lst (ms.map V.int)) fl
    have hl0 : upd H l (.lst (ms.map V.int)) l = some (.lst (ms.map V.int)) := upd_same
    generalize upd H3 l (.lst (ms.map V.int)) = H4 at g ⊢
    generalize upd H l (.lst (ms.map V.int)) = Hb at g hl0 ⊢
    refine ⟨⟨_, SqL.of (g.sm _ _ hl0)⟩, ?_⟩
    refine go_list (xs := ms.map V.int) (fun i σ H' => ∃ (S : Sh) (v8 v9 v10 v11 v12 v13 v14 v15 : Option V), σ = [some (.ref a), some (.int (2 ^ j)), some (.int (1 + pl)), some (.int wy), some (.int bs), some (.ref x), some (.ref lp), some (.ref ls), v8, v9, v10, v11, v12, v13, v14, v15] ∧ LW Hb H' A.c_Shelf x S (own lp ls S) ∧ Plain S)
      ⟨S0, _, _, _, _, _, _, _, _, rfl, g, plain.1⟩ (fun i σ H' _ ⟨_, _, _, _, _, _, _, _, _, _, g, _⟩ => SqL.of (g.sm _ _ hl0)) ?_ ?_
    · rintro N i u σ H5 hx ⟨S, v8, v9, v10, v11, v12, v13, v14, v15, rfl, g, pln⟩ hN
      obtain ⟨cell, hc, rfl⟩ := ints_at hx
      walk_at "rd"
      have q0 : 0 ≤ cell / 12 % (1 + pl) := Int.emod_nonneg _ (by omega)
      have q1 : cell / 12 % (1 + pl) < 1 + pl := Int.emod_lt_of_pos _ (by omega)
      refine ⟨by walk_at "side", by omega, _, _, _, rfl, ⟨⟨by omega, by omega⟩, by omega, by omega⟩, fun H6 v y s6 hy yk => ⟨by walk_at "side", by walk_at "side", _, rfl, ⟨Int.emod_nonneg _ (by decide), Int.lt_trans (Int.emod_lt_of_pos _ (by decide)) (by decide)⟩, fun H7 u z s7 hu hz hzd => ?_⟩⟩
      have g := g.ext (s6.trans s7)
      have hy := hy.same s7 _ _
      have HZ : HVal z := ⟨hz, hzd⟩
      intro w0 ⟨w, hw, ew⟩
      subst ew
      refine ⟨fun σ H' => ∃ mn : Int, σ = [some (.ref a), some (.int (2 ^ j)), some (.int (1 + pl)), some (.int wy), some (.int bs), some (.ref x), some (.ref lp), some (.ref ls), some (.int cell), some (.int (cell / 12)), some v, some u, some (.int w), some (.int mn), v14, v15] ∧ H' = H7 ∧ 0 ≤ mn ∧ mn < 9, ?_, ?_⟩
      · refine iteB (fun c => ⟨_, rfl, rfl, Int.emod_nonneg _ (by decide), Int.emod_lt_of_pos _ (by decide)⟩) fun c => ⟨1, rfl, rfl, by decide, by decide⟩
      rintro σ H8 ⟨mn, rfl, rfl, m0, m1⟩
      walk_at "rd"
      refine ⟨by omega, ?_⟩
      refine go_range (fun i σ H' => ∃ (S : Sh) (vk : V) (y : Ky) (v14 v15 : Option V), σ = [some (.ref a), some (.int (2 ^ j)), some (.int (1 + pl)), some (.int wy), some (.int bs), some (.ref x), some (.ref lp), some (.ref ls), some (.int cell), some (.int (cell / 12)), some vk, some u, some (.int w), some (.int mn), v14, v15] ∧ LW Hb H' A.c_Shelf x S (own lp ls S) ∧ Plain S ∧ KyAt H' vk y ∧ KeyOk y ∧ KyAt H' u z) ⟨S, v, y, _, _, rfl, g, pln, hy, yk, hu⟩ ?_ ?_
      · rintro N2 i2 σ H9 hi ⟨S, vk, y, v14, v15, rfl, g, pln, hy, yk, hu⟩ hN2
        walk_at "rd"
        refine ⟨fun σ H' => ∃ (vk : V) (y : Ky), σ = [some (.ref a), some (.int (2 ^ j)), some (.int (1 + pl)), some (.int wy), some (.int bs), some (.ref x), some (.ref lp), some (.ref ls), some (.int cell), some (.int (cell / 12)), some vk, some u, some (.int w), some (.int mn), some (.int (i2 : Nat)), v15] ∧ Same H9 H' ∧ KyAt H' vk y ∧ KeyOk y, ?_, ?_⟩
        · refine iteB (fun c => ⟨by omega, _, _, _, rfl, ⟨⟨by omega, by omega⟩, by omega, by omega⟩, fun H10 v2 y2 s10 hy2 yk2 => ⟨_, _, rfl, s10, hy2, yk2⟩⟩) fun c => ⟨_, _, rfl, Same.refl _, hy, yk⟩
        clear hy yk
        rintro σ H10 ⟨vk, y, rfl, s10, hy, yk⟩
        have g := g.ext s10
        have hu := hu.same s10 _ _
        walk_at "rd"
        refine ⟨x, lp, ls, w, vk, u, Hb, S, y, z, rfl, hw, pln, g, hy, yk, hu, HZ, fun H11 T1 g11 z11 hT1 => ?_⟩
        have nt := own_noTup g
        have bt : But ((own lp ls S).map Prod.fst) H10 H11 := fun b o e n => z11 b o e (fun q => n (by simp [own, q])) (fun q => n (by simp [own, q]))
        have hy := KyAt.keep bt nt _ _ yk.val hy
        have hu := KyAt.keep bt nt _ _ HZ.1 hu
        obtain ⟨fp11, hS11, st11⟩ := g11.step
        have ok := hS11.ok
        have dr := deed_res ok (w := w) (y := y) HZ
        walk_at "rd"
        refine ⟨x, w, vk, u, .no, fp11, S, y, z, rfl, hS11, hy, yk, hu, HZ, hw, fun H12 fp12 T2 gr12 sb12 hS12 hT2 => ?_⟩
        have g12 := st11 _ _ _ gr12 sb12 hS12
        have hy := hS11.ky gr12 yk.val hy
        have hu := hS11.ky gr12 HZ.1 hu
        have hT1 := res_keep dr gr12.keep hS11.noTup hT1
        refine ⟨_, _, rfl, res_alike dr hT2 hT1, fun H13 s13 => ?_⟩
        walk_at "rd"
        exact hN2 _ _ ⟨_, vk, y, _, _, rfl, g12.ext s13, (deed_plain pln).1, hy.same s13 _ _, yk, hu.same s13 _ _⟩
      · rintro σ H9 ⟨S, vk, y, v14, v15, rfl, g, pln, hy, yk, hu⟩
        walk_at "rd"
        refine ⟨by walk_at "side", x, lp, vk, _, Hb, S, y, own lp ls S, rfl, g, by simp [own], hy, yk, fun H10 s10 => ?_⟩
        walk_at "rd"
        exact hN _ _ ⟨S, _, _, _, _, _, _, _, _, rfl, g.ext s10, pln⟩
    · rintro σ H' ⟨S, v8, v9, v10, v11, v12, v13, v14, v15, rfl, g, -⟩
      walk_at "rd"
      exact k _

end Law
namespace Law
open PySem PySem.Spec PyProof.Rows L2 My
theorem all_mk {l : PySem.W.OpenLaw} {w : World} {K : PySem.W.Frag} {h : Heap} {mg : Str → Option Value} {fa : Addr} (X : K.In h) (G : h.Ns mainGlobals mg) (hfa : mg "law" = some (.ref fa))
    {od0 an0 : Option Addr} {sl0 : Array (Option Value)} {oc0 kV0 dc0 pm0 cd0 ct0 : Value} {f0 : Addr}
    {od1 an1 : Option Addr} {sl1 : Array (Option Value)} {oc1 kV1 dc1 pm1 cd1 ct1 : Value} {f1 : Addr}
    {od2 an2 : Option Addr} {sl2 : Array (Option Value)} {oc2 kV2 dc2 pm2 cd2 ct2 : Value} {f2 : Addr}
    {od3 an3 : Option Addr} {sl3 : Array (Option Value)} {oc3 kV3 dc3 pm3 cd3 ct3 : Value} {f3 : Addr}
    {od4 an4 : Option Addr} {sl4 : Array (Option Value)} {oc4 kV4 dc4 pm4 cd4 ct4 : Value} {f4 : Addr}
    {od5 an5 : Option Addr} {sl5 : Array (Option Value)} {oc5 kV5 dc5 pm5 cd5 ct5 : Value} {f5 : Addr}
    {od6 an6 : Option Addr} {sl6 : Array (Option Value)} {oc6 kV6 dc6 pm6 cd6 ct6 : Value} {f6 : Addr}
    {od7 an7 : Option Addr} {sl7 : Array (Option Value)} {oc7 kV7 dc7 pm7 cd7 ct7 : Value} {f7 : Addr}
    {od8 an8 : Option Addr} {sl8 : Array (Option Value)} {oc8 kV8 dc8 pm8 cd8 ct8 : Value} {f8 : Addr}
    {od9 an9 : Option Addr} {sl9 : Array (Option Value)} {oc9 kV9 dc9 pm9 cd9 ct9 : Value} {f9 : Addr}
    {od10 an10 : Option Addr} {sl10 : Array (Option Value)} {oc10 kV10 dc10 pm10 cd10 ct10 : Value} {f10 : Addr}
    {od11 an11 : Option Addr} {sl11 : Array (Option Value)} {oc11 kV11 dc11 pm11 cd11 ct11 : Value} {f11 : Addr}
    {od12 an12 : Option Addr} {sl12 : Array (Option Value)} {oc12 kV12 dc12 pm12 cd12 ct12 : Value} {f12 : Addr}
    {dT12 : Addr} {dO12 : Obj} {dn12 : Nat}
    {dk12_0 : Tok}
    {od13 an13 : Option Addr} {sl13 : Array (Option Value)} {oc13 kV13 dc13 pm13 cd13 ct13 : Value} {f13 : Addr}
    {od14 an14 : Option Addr} {sl14 : Array (Option Value)} {oc14 kV14 dc14 pm14 cd14 ct14 : Value} {f14 : Addr}
    {od15 an15 : Option Addr} {sl15 : Array (Option Value)} {oc15 kV15 dc15 pm15 cd15 ct15 : Value} {f15 : Addr}
    {od16 an16 : Option Addr} {sl16 : Array (Option Value)} {oc16 kV16 dc16 pm16 cd16 ct16 : Value} {f16 : Addr}
    {od17 an17 : Option Addr} {sl17 : Array (Option Value)} {oc17 kV17 dc17 pm17 cd17 ct17 : Value} {f17 : Addr}
    {od18 an18 : Option Addr} {sl18 : Array (Option Value)} {oc18 kV18 dc18 pm18 cd18 ct18 : Value} {f18 : Addr}
    {od19 an19 : Option Addr} {sl19 : Array (Option Value)} {oc19 kV19 dc19 pm19 cd19 ct19 : Value} {f19 : Addr}
    {od20 an20 : Option Addr} {sl20 : Array (Option Value)} {oc20 kV20 dc20 pm20 cd20 ct20 : Value} {f20 : Addr}
    {dT20 : Addr} {dO20 : Obj} {dn20 : Nat}
    {od21 an21 : Option Addr} {sl21 : Array (Option Value)} {oc21 kV21 dc21 pm21 cd21 ct21 : Value} {f21 : Addr}
    {od22 an22 : Option Addr} {sl22 : Array (Option Value)} {oc22 kV22 dc22 pm22 cd22 ct22 : Value} {f22 : Addr}
    {od23 an23 : Option Addr} {sl23 : Array (Option Value)} {oc23 kV23 dc23 pm23 cd23 ct23 : Value} {f23 : Addr}
    {od24 an24 : Option Addr} {sl24 : Array (Option Value)} {oc24 kV24 dc24 pm24 cd24 ct24 : Value} {f24 : Addr}
    {od25 an25 : Option Addr} {sl25 : Array (Option Value)} {oc25 kV25 dc25 pm25 cd25 ct25 : Value} {f25 : Addr}
    {od26 an26 : Option Addr} {sl26 : Array (Option Value)} {oc26 kV26 dc26 pm26 cd26 ct26 : Value} {f26 : Addr}
    {od27 an27 : Option Addr} {sl27 : Array (Option Value)} {oc27 kV27 dc27 pm27 cd27 ct27 : Value} {f27 : Addr}
    {od28 an28 : Option Addr} {sl28 : Array (Option Value)} {oc28 kV28 dc28 pm28 cd28 ct28 : Value} {f28 : Addr}
    {od29 an29 : Option Addr} {sl29 : Array (Option Value)} {oc29 kV29 dc29 pm29 cd29 ct29 : Value} {f29 : Addr}
    {od30 an30 : Option Addr} {sl30 : Array (Option Value)} {oc30 kV30 dc30 pm30 cd30 ct30 : Value} {f30 : Addr}
    {od31 an31 : Option Addr} {sl31 : Array (Option Value)} {oc31 kV31 dc31 pm31 cd31 ct31 : Value} {f31 : Addr}
    {od32 an32 : Option Addr} {sl32 : Array (Option Value)} {oc32 kV32 dc32 pm32 cd32 ct32 : Value} {f32 : Addr}
    {od33 an33 : Option Addr} {sl33 : Array (Option Value)} {oc33 kV33 dc33 pm33 cd33 ct33 : Value} {f33 : Addr}
    {od34 an34 : Option Addr} {sl34 : Array (Option Value)} {oc34 kV34 dc34 pm34 cd34 ct34 : Value} {f34 : Addr}
    {od35 an35 : Option Addr} {sl35 : Array (Option Value)} {oc35 kV35 dc35 pm35 cd35 ct35 : Value} {f35 : Addr}
    {od36 an36 : Option Addr} {sl36 : Array (Option Value)} {oc36 kV36 dc36 pm36 cd36 ct36 : Value} {f36 : Addr}
    {od37 an37 : Option Addr} {sl37 : Array (Option Value)} {oc37 kV37 dc37 pm37 cd37 ct37 : Value} {f37 : Addr}
    {od38 an38 : Option Addr} {sl38 : Array (Option Value)} {oc38 kV38 dc38 pm38 cd38 ct38 : Value} {f38 : Addr}
    {od39 an39 : Option Addr} {sl39 : Array (Option Value)} {oc39 kV39 dc39 pm39 cd39 ct39 : Value} {f39 : Addr}
    {od40 an40 : Option Addr} {sl40 : Array (Option Value)} {oc40 kV40 dc40 pm40 cd40 ct40 : Value} {f40 : Addr}
    {od41 an41 : Option Addr} {sl41 : Array (Option Value)} {oc41 kV41 dc41 pm41 cd41 ct41 : Value} {f41 : Addr}
    {od42 an42 : Option Addr} {sl42 : Array (Option Value)} {oc42 kV42 dc42 pm42 cd42 ct42 : Value} {f42 : Addr}
    {od43 an43 : Option Addr} {sl43 : Array (Option Value)} {oc43 kV43 dc43 pm43 cd43 ct43 : Value} {f43 : Addr}
    {od44 an44 : Option Addr} {sl44 : Array (Option Value)} {oc44 kV44 dc44 pm44 cd44 ct44 : Value} {f44 : Addr}
    {od45 an45 : Option Addr} {sl45 : Array (Option Value)} {oc45 kV45 dc45 pm45 cd45 ct45 : Value} {f45 : Addr}
    {C0 : Addr}
    {X0 : Addr}
    {X1 : Addr}
    {X2 : Addr}
    {tk0 : Tok}
    {tk1 : Tok}
    {tk2 : Tok}
    {tk3 : Tok}
    {tk4 : Tok}
    {tk5 : Tok}
    {tk6 : Tok}
    {tk7 : Tok}
    {tk8 : Tok}
    (a0 : PySem.W.nsIn K mainGlobals "is_within" = some (some (.ref f0)))
    (a1 : PySem.W.nsIn K mainGlobals "is_key" = some (some (.ref f1)))
    (a2 : PySem.W.nsIn K mainGlobals "checked" = some (some (.ref f2)))
    (a3 : PySem.W.nsIn K mainGlobals "is_size" = some (some (.ref f3)))
    (a4 : PySem.W.nsIn K mainGlobals "room" = some (some (.ref f4)))
    (a5 : PySem.W.nsIn K mainGlobals "stride" = some (some (.ref f5)))
    (a6 : PySem.W.nsIn K mainGlobals "probe" = some (some (.ref f6)))
    (a7 : PySem.W.nsIn K mainGlobals "stamp" = some (some (.ref f7)))
    (a8 : PySem.W.nsIn K mainGlobals "first_bare" = some (some (.ref f8)))
    (a9 : PySem.W.nsIn K mainGlobals "cells_of" = some (some (.ref f9)))
    (a10 : PySem.W.nsIn K mainGlobals "paper" = some (some (.ref f10)))
    (a11 : PySem.W.nsIn K mainGlobals "place_of" = some (some (.ref f11)))
    (a29 : PySem.W.nsIn K mainGlobals "_law_cell_at" = some (some (.ref f29)))
    (a30 : PySem.W.nsIn K mainGlobals "_law_text" = some (some (.ref f30)))
    (a31 : PySem.W.nsIn K mainGlobals "_law_stamp" = some (some (.ref f31)))
    (a32 : PySem.W.nsIn K mainGlobals "_law_leaf" = some (some (.ref f32)))
    (a33 : PySem.W.nsIn K mainGlobals "_law_any_key" = some (some (.ref f33)))
    (a34 : PySem.W.nsIn K mainGlobals "_law_key" = some (some (.ref f34)))
    (a35 : PySem.W.nsIn K mainGlobals "_law_value" = some (some (.ref f35)))
    (a36 : PySem.W.nsIn K mainGlobals "_law_alike" = some (some (.ref f36)))
    (a37 : PySem.W.nsIn K mainGlobals "_law_do" = some (some (.ref f37)))
    (a38 : PySem.W.nsIn K mainGlobals "_law_asked" = some (some (.ref f38)))
    (a39 : PySem.W.nsIn K mainGlobals "_law_spot" = some (some (.ref f39)))
    (a40 : PySem.W.nsIn K mainGlobals "_law_due_put" = some (some (.ref f40)))
    (a41 : PySem.W.nsIn K mainGlobals "_law_due_out" = some (some (.ref f41)))
    (a42 : PySem.W.nsIn K mainGlobals "_law_due" = some (some (.ref f42)))
    (a43 : PySem.W.nsIn K mainGlobals "_law_look" = some (some (.ref f43)))
    (a44 : PySem.W.nsIn K mainGlobals "_law_way" = some (some (.ref f44)))
    (a45 : PySem.W.nsIn K mainGlobals "law" = some (some (.ref f45)))
    (aC0 : PySem.W.nsIn K mainGlobals "Shelf" = some (some (.ref C0)))
    (xa0 : PySem.W.nsIn K mainGlobals "NoKey" = some (some (.ref X0)))
    (xa1 : PySem.W.nsIn K mainGlobals "Full" = some (some (.ref X1)))
    (xa2 : PySem.W.nsIn K mainGlobals "Lacking" = some (some (.ref X2)))
    (me0_12 : PySem.W.findIn K (.ref C0) "__init__" = some (some (.ref f12)))
    (me0_13 : PySem.W.findIn K (.ref C0) "find" = some (some (.ref f13)))
    (me0_14 : PySem.W.findIn K (.ref C0) "lay" = some (some (.ref f14)))
    (me0_15 : PySem.W.findIn K (.ref C0) "mark_gone" = some (some (.ref f15)))
    (me0_16 : PySem.W.findIn K (.ref C0) "relay" = some (some (.ref f16)))
    (me0_17 : PySem.W.findIn K (.ref C0) "make_room" = some (some (.ref f17)))
    (me0_18 : PySem.W.findIn K (.ref C0) "put" = some (some (.ref f18)))
    (me0_19 : PySem.W.findIn K (.ref C0) "at" = some (some (.ref f19)))
    (me0_20 : PySem.W.findIn K (.ref C0) "told" = some (some (.ref f20)))
    (me0_21 : PySem.W.findIn K (.ref C0) "has" = some (some (.ref f21)))
    (me0_22 : PySem.W.findIn K (.ref C0) "take" = some (some (.ref f22)))
    (me0_23 : PySem.W.findIn K (.ref C0) "take_last" = some (some (.ref f23)))
    (me0_24 : PySem.W.findIn K (.ref C0) "emptied" = some (some (.ref f24)))
    (me0_25 : PySem.W.findIn K (.ref C0) "many" = some (some (.ref f25)))
    (me0_26 : PySem.W.findIn K (.ref C0) "pairs" = some (some (.ref f26)))
    (me0_27 : PySem.W.findIn K (.ref C0) "ahead" = some (some (.ref f27)))
    (me0_28 : PySem.W.findIn K (.ref C0) "counts" = some (some (.ref f28)))
    (l0 : K.lookup f0 = some ⟨oc0, od0, .func (PySem.W.fnOf "is_within" "is_within" (defArgs s_is_within) (defBody s_is_within) (defScope s_is_within) .none kV0 dc0 pm0 an0 cd0 ct0), sl0⟩)
    (d0 : PySem.W.codeIn K cd0 "is_within" = true)
    (k0 : PySem.W.keepIn K (.ref f0) = true)
    (l1 : K.lookup f1 = some ⟨oc1, od1, .func (PySem.W.fnOf "is_key" "is_key" (defArgs s_is_key) (defBody s_is_key) (defScope s_is_key) .none kV1 dc1 pm1 an1 cd1 ct1), sl1⟩)
    (d1 : PySem.W.codeIn K cd1 "is_key" = true)
    (k1 : PySem.W.keepIn K (.ref f1) = true)
    (l2 : K.lookup f2 = some ⟨oc2, od2, .func (PySem.W.fnOf "checked" "checked" (defArgs s_checked) (defBody s_checked) (defScope s_checked) .none kV2 dc2 pm2 an2 cd2 ct2), sl2⟩)
    (d2 : PySem.W.codeIn K cd2 "checked" = true)
    (k2 : PySem.W.keepIn K (.ref f2) = true)
    (l3 : K.lookup f3 = some ⟨oc3, od3, .func (PySem.W.fnOf "is_size" "is_size" (defArgs s_is_size) (defBody s_is_size) (defScope s_is_size) .none kV3 dc3 pm3 an3 cd3 ct3), sl3⟩)
    (d3 : PySem.W.codeIn K cd3 "is_size" = true)
    (k3 : PySem.W.keepIn K (.ref f3) = true)
    (l4 : K.lookup f4 = some ⟨oc4, od4, .func (PySem.W.fnOf "room" "room" (defArgs s_room) (defBody s_room) (defScope s_room) .none kV4 dc4 pm4 an4 cd4 ct4), sl4⟩)
    (d4 : PySem.W.codeIn K cd4 "room" = true)
    (k4 : PySem.W.keepIn K (.ref f4) = true)
    (l5 : K.lookup f5 = some ⟨oc5, od5, .func (PySem.W.fnOf "stride" "stride" (defArgs s_stride) (defBody s_stride) (defScope s_stride) .none kV5 dc5 pm5 an5 cd5 ct5), sl5⟩)
    (d5 : PySem.W.codeIn K cd5 "stride" = true)
    (k5 : PySem.W.keepIn K (.ref f5) = true)
    (l6 : K.lookup f6 = some ⟨oc6, od6, .func (PySem.W.fnOf "probe" "probe" (defArgs s_probe) (defBody s_probe) (defScope s_probe) .none kV6 dc6 pm6 an6 cd6 ct6), sl6⟩)
    (d6 : PySem.W.codeIn K cd6 "probe" = true)
    (k6 : PySem.W.keepIn K (.ref f6) = true)
    (l7 : K.lookup f7 = some ⟨oc7, od7, .func (PySem.W.fnOf "stamp" "stamp" (defArgs s_stamp) (defBody s_stamp) (defScope s_stamp) .none kV7 dc7 pm7 an7 cd7 ct7), sl7⟩)
    (d7 : PySem.W.codeIn K cd7 "stamp" = true)
    (k7 : PySem.W.keepIn K (.ref f7) = true)
    (l8 : K.lookup f8 = some ⟨oc8, od8, .func (PySem.W.fnOf "first_bare" "first_bare" (defArgs s_first_bare) (defBody s_first_bare) (defScope s_first_bare) .none kV8 dc8 pm8 an8 cd8 ct8), sl8⟩)
    (d8 : PySem.W.codeIn K cd8 "first_bare" = true)
    (k8 : PySem.W.keepIn K (.ref f8) = true)
    (l9 : K.lookup f9 = some ⟨oc9, od9, .func (PySem.W.fnOf "cells_of" "cells_of" (defArgs s_cells_of) (defBody s_cells_of) (defScope s_cells_of) .none kV9 dc9 pm9 an9 cd9 ct9), sl9⟩)
    (d9 : PySem.W.codeIn K cd9 "cells_of" = true)
    (k9 : PySem.W.keepIn K (.ref f9) = true)
    (l10 : K.lookup f10 = some ⟨oc10, od10, .func (PySem.W.fnOf "paper" "paper" (defArgs s_paper) (defBody s_paper) (defScope s_paper) .none kV10 dc10 pm10 an10 cd10 ct10), sl10⟩)
    (d10 : PySem.W.codeIn K cd10 "paper" = true)
    (k10 : PySem.W.keepIn K (.ref f10) = true)
    (l11 : K.lookup f11 = some ⟨oc11, od11, .func (PySem.W.fnOf "place_of" "place_of" (defArgs s_place_of) (defBody s_place_of) (defScope s_place_of) .none kV11 dc11 pm11 an11 cd11 ct11), sl11⟩)
    (d11 : PySem.W.codeIn K cd11 "place_of" = true)
    (k11 : PySem.W.keepIn K (.ref f11) = true)
    (l12 : K.lookup f12 = some ⟨oc12, od12, .func (PySem.W.fnOf "__init__" "Shelf.__init__" (defArgs s_Shelf___init__) (defBody s_Shelf___init__) (defScope s_Shelf___init__) (.ref dT12) kV12 dc12 pm12 an12 cd12 ct12), sl12⟩)
    (dl12 : K.lookup dT12 = some dO12)
    (dd12 : dO12.data = .seq #[.int 8 dk12_0] dn12)
    (d12 : PySem.W.codeIn K cd12 "Shelf.__init__" = true)
    (k12 : PySem.W.keepIn K (.ref f12) = true)
    (l13 : K.lookup f13 = some ⟨oc13, od13, .func (PySem.W.fnOf "find" "Shelf.find" (defArgs s_Shelf_find) (defBody s_Shelf_find) (defScope s_Shelf_find) .none kV13 dc13 pm13 an13 cd13 ct13), sl13⟩)
    (d13 : PySem.W.codeIn K cd13 "Shelf.find" = true)
    (k13 : PySem.W.keepIn K (.ref f13) = true)
    (l14 : K.lookup f14 = some ⟨oc14, od14, .func (PySem.W.fnOf "lay" "Shelf.lay" (defArgs s_Shelf_lay) (defBody s_Shelf_lay) (defScope s_Shelf_lay) .none kV14 dc14 pm14 an14 cd14 ct14), sl14⟩)
    (d14 : PySem.W.codeIn K cd14 "Shelf.lay" = true)
    (k14 : PySem.W.keepIn K (.ref f14) = true)
    (l15 : K.lookup f15 = some ⟨oc15, od15, .func (PySem.W.fnOf "mark_gone" "Shelf.mark_gone" (defArgs s_Shelf_mark_gone) (defBody s_Shelf_mark_gone) (defScope s_Shelf_mark_gone) .none kV15 dc15 pm15 an15 cd15 ct15), sl15⟩)
    (d15 : PySem.W.codeIn K cd15 "Shelf.mark_gone" = true)
    (k15 : PySem.W.keepIn K (.ref f15) = true)
    (l16 : K.lookup f16 = some ⟨oc16, od16, .func (PySem.W.fnOf "relay" "Shelf.relay" (defArgs s_Shelf_relay) (defBody s_Shelf_relay) (defScope s_Shelf_relay) .none kV16 dc16 pm16 an16 cd16 ct16), sl16⟩)
    (d16 : PySem.W.codeIn K cd16 "Shelf.relay" = true)
    (k16 : PySem.W.keepIn K (.ref f16) = true)
    (l17 : K.lookup f17 = some ⟨oc17, od17, .func (PySem.W.fnOf "make_room" "Shelf.make_room" (defArgs s_Shelf_make_room) (defBody s_Shelf_make_room) (defScope s_Shelf_make_room) .none kV17 dc17 pm17 an17 cd17 ct17), sl17⟩)
    (d17 : PySem.W.codeIn K cd17 "Shelf.make_room" = true)
    (k17 : PySem.W.keepIn K (.ref f17) = true)
    (l18 : K.lookup f18 = some ⟨oc18, od18, .func (PySem.W.fnOf "put" "Shelf.put" (defArgs s_Shelf_put) (defBody s_Shelf_put) (defScope s_Shelf_put) .none kV18 dc18 pm18 an18 cd18 ct18), sl18⟩)
    (d18 : PySem.W.codeIn K cd18 "Shelf.put" = true)
    (k18 : PySem.W.keepIn K (.ref f18) = true)
    (l19 : K.lookup f19 = some ⟨oc19, od19, .func (PySem.W.fnOf "at" "Shelf.at" (defArgs s_Shelf_at) (defBody s_Shelf_at) (defScope s_Shelf_at) .none kV19 dc19 pm19 an19 cd19 ct19), sl19⟩)
    (d19 : PySem.W.codeIn K cd19 "Shelf.at" = true)
    (k19 : PySem.W.keepIn K (.ref f19) = true)
    (l20 : K.lookup f20 = some ⟨oc20, od20, .func (PySem.W.fnOf "told" "Shelf.told" (defArgs s_Shelf_told) (defBody s_Shelf_told) (defScope s_Shelf_told) (.ref dT20) kV20 dc20 pm20 an20 cd20 ct20), sl20⟩)
    (dl20 : K.lookup dT20 = some dO20)
    (dd20 : dO20.data = .seq #[.none] dn20)
    (d20 : PySem.W.codeIn K cd20 "Shelf.told" = true)
    (k20 : PySem.W.keepIn K (.ref f20) = true)
    (l21 : K.lookup f21 = some ⟨oc21, od21, .func (PySem.W.fnOf "has" "Shelf.has" (defArgs s_Shelf_has) (defBody s_Shelf_has) (defScope s_Shelf_has) .none kV21 dc21 pm21 an21 cd21 ct21), sl21⟩)
    (d21 : PySem.W.codeIn K cd21 "Shelf.has" = true)
    (k21 : PySem.W.keepIn K (.ref f21) = true)
    (l22 : K.lookup f22 = some ⟨oc22, od22, .func (PySem.W.fnOf "take" "Shelf.take" (defArgs s_Shelf_take) (defBody s_Shelf_take) (defScope s_Shelf_take) .none kV22 dc22 pm22 an22 cd22 ct22), sl22⟩)
    (d22 : PySem.W.codeIn K cd22 "Shelf.take" = true)
    (k22 : PySem.W.keepIn K (.ref f22) = true)
    (l23 : K.lookup f23 = some ⟨oc23, od23, .func (PySem.W.fnOf "take_last" "Shelf.take_last" (defArgs s_Shelf_take_last) (defBody s_Shelf_take_last) (defScope s_Shelf_take_last) .none kV23 dc23 pm23 an23 cd23 ct23), sl23⟩)
    (d23 : PySem.W.codeIn K cd23 "Shelf.take_last" = true)
    (k23 : PySem.W.keepIn K (.ref f23) = true)
    (l24 : K.lookup f24 = some ⟨oc24, od24, .func (PySem.W.fnOf "emptied" "Shelf.emptied" (defArgs s_Shelf_emptied) (defBody s_Shelf_emptied) (defScope s_Shelf_emptied) .none kV24 dc24 pm24 an24 cd24 ct24), sl24⟩)
    (d24 : PySem.W.codeIn K cd24 "Shelf.emptied" = true)
    (k24 : PySem.W.keepIn K (.ref f24) = true)
    (l25 : K.lookup f25 = some ⟨oc25, od25, .func (PySem.W.fnOf "many" "Shelf.many" (defArgs s_Shelf_many) (defBody s_Shelf_many) (defScope s_Shelf_many) .none kV25 dc25 pm25 an25 cd25 ct25), sl25⟩)
    (d25 : PySem.W.codeIn K cd25 "Shelf.many" = true)
    (k25 : PySem.W.keepIn K (.ref f25) = true)
    (l26 : K.lookup f26 = some ⟨oc26, od26, .func (PySem.W.fnOf "pairs" "Shelf.pairs" (defArgs s_Shelf_pairs) (defBody s_Shelf_pairs) (defScope s_Shelf_pairs) .none kV26 dc26 pm26 an26 cd26 ct26), sl26⟩)
    (d26 : PySem.W.codeIn K cd26 "Shelf.pairs" = true)
    (k26 : PySem.W.keepIn K (.ref f26) = true)
    (l27 : K.lookup f27 = some ⟨oc27, od27, .func (PySem.W.fnOf "ahead" "Shelf.ahead" (defArgs s_Shelf_ahead) (defBody s_Shelf_ahead) (defScope s_Shelf_ahead) .none kV27 dc27 pm27 an27 cd27 ct27), sl27⟩)
    (d27 : PySem.W.codeIn K cd27 "Shelf.ahead" = true)
    (k27 : PySem.W.keepIn K (.ref f27) = true)
    (l28 : K.lookup f28 = some ⟨oc28, od28, .func (PySem.W.fnOf "counts" "Shelf.counts" (defArgs s_Shelf_counts) (defBody s_Shelf_counts) (defScope s_Shelf_counts) .none kV28 dc28 pm28 an28 cd28 ct28), sl28⟩)
    (d28 : PySem.W.codeIn K cd28 "Shelf.counts" = true)
    (k28 : PySem.W.keepIn K (.ref f28) = true)
    (l29 : K.lookup f29 = some ⟨oc29, od29, .func (PySem.W.fnOf "_law_cell_at" "_law_cell_at" (defArgs s_law_cell_at) (defBody s_law_cell_at) (defScope s_law_cell_at) .none kV29 dc29 pm29 an29 cd29 ct29), sl29⟩)
    (d29 : PySem.W.codeIn K cd29 "_law_cell_at" = true)
    (k29 : PySem.W.keepIn K (.ref f29) = true)
    (l30 : K.lookup f30 = some ⟨oc30, od30, .func (PySem.W.fnOf "_law_text" "_law_text" (defArgs s_law_text) (defBody s_law_text) (defScope s_law_text) .none kV30 dc30 pm30 an30 cd30 ct30), sl30⟩)
    (d30 : PySem.W.codeIn K cd30 "_law_text" = true)
    (k30 : PySem.W.keepIn K (.ref f30) = true)
    (l31 : K.lookup f31 = some ⟨oc31, od31, .func (PySem.W.fnOf "_law_stamp" "_law_stamp" (defArgs s_law_stamp) (defBody s_law_stamp) (defScope s_law_stamp) .none kV31 dc31 pm31 an31 cd31 ct31), sl31⟩)
    (d31 : PySem.W.codeIn K cd31 "_law_stamp" = true)
    (k31 : PySem.W.keepIn K (.ref f31) = true)
    (l32 : K.lookup f32 = some ⟨oc32, od32, .func (PySem.W.fnOf "_law_leaf" "_law_leaf" (defArgs s_law_leaf) (defBody s_law_leaf) (defScope s_law_leaf) .none kV32 dc32 pm32 an32 cd32 ct32), sl32⟩)
    (d32 : PySem.W.codeIn K cd32 "_law_leaf" = true)
    (k32 : PySem.W.keepIn K (.ref f32) = true)
    (l33 : K.lookup f33 = some ⟨oc33, od33, .func (PySem.W.fnOf "_law_any_key" "_law_any_key" (defArgs s_law_any_key) (defBody s_law_any_key) (defScope s_law_any_key) .none kV33 dc33 pm33 an33 cd33 ct33), sl33⟩)
    (d33 : PySem.W.codeIn K cd33 "_law_any_key" = true)
    (k33 : PySem.W.keepIn K (.ref f33) = true)
    (l34 : K.lookup f34 = some ⟨oc34, od34, .func (PySem.W.fnOf "_law_key" "_law_key" (defArgs s_law_key) (defBody s_law_key) (defScope s_law_key) .none kV34 dc34 pm34 an34 cd34 ct34), sl34⟩)
    (d34 : PySem.W.codeIn K cd34 "_law_key" = true)
    (k34 : PySem.W.keepIn K (.ref f34) = true)
    (l35 : K.lookup f35 = some ⟨oc35, od35, .func (PySem.W.fnOf "_law_value" "_law_value" (defArgs s_law_value) (defBody s_law_value) (defScope s_law_value) .none kV35 dc35 pm35 an35 cd35 ct35), sl35⟩)
    (d35 : PySem.W.codeIn K cd35 "_law_value" = true)
    (k35 : PySem.W.keepIn K (.ref f35) = true)
    (l36 : K.lookup f36 = some ⟨oc36, od36, .func (PySem.W.fnOf "_law_alike" "_law_alike" (defArgs s_law_alike) (defBody s_law_alike) (defScope s_law_alike) .none kV36 dc36 pm36 an36 cd36 ct36), sl36⟩)
    (d36 : PySem.W.codeIn K cd36 "_law_alike" = true)
    (k36 : PySem.W.keepIn K (.ref f36) = true)
    (l37 : K.lookup f37 = some ⟨oc37, od37, .func (PySem.W.fnOf "_law_do" "_law_do" (defArgs s_law_do) (defBody s_law_do) (defScope s_law_do) .none kV37 dc37 pm37 an37 cd37 ct37), sl37⟩)
    (d37 : PySem.W.codeIn K cd37 "_law_do" = true)
    (k37 : PySem.W.keepIn K (.ref f37) = true)
    (l38 : K.lookup f38 = some ⟨oc38, od38, .func (PySem.W.fnOf "_law_asked" "_law_asked" (defArgs s_law_asked) (defBody s_law_asked) (defScope s_law_asked) .none kV38 dc38 pm38 an38 cd38 ct38), sl38⟩)
    (d38 : PySem.W.codeIn K cd38 "_law_asked" = true)
    (k38 : PySem.W.keepIn K (.ref f38) = true)
    (l39 : K.lookup f39 = some ⟨oc39, od39, .func (PySem.W.fnOf "_law_spot" "_law_spot" (defArgs s_law_spot) (defBody s_law_spot) (defScope s_law_spot) .none kV39 dc39 pm39 an39 cd39 ct39), sl39⟩)
    (d39 : PySem.W.codeIn K cd39 "_law_spot" = true)
    (k39 : PySem.W.keepIn K (.ref f39) = true)
    (l40 : K.lookup f40 = some ⟨oc40, od40, .func (PySem.W.fnOf "_law_due_put" "_law_due_put" (defArgs s_law_due_put) (defBody s_law_due_put) (defScope s_law_due_put) .none kV40 dc40 pm40 an40 cd40 ct40), sl40⟩)
    (d40 : PySem.W.codeIn K cd40 "_law_due_put" = true)
    (k40 : PySem.W.keepIn K (.ref f40) = true)
    (l41 : K.lookup f41 = some ⟨oc41, od41, .func (PySem.W.fnOf "_law_due_out" "_law_due_out" (defArgs s_law_due_out) (defBody s_law_due_out) (defScope s_law_due_out) .none kV41 dc41 pm41 an41 cd41 ct41), sl41⟩)
    (d41 : PySem.W.codeIn K cd41 "_law_due_out" = true)
    (k41 : PySem.W.keepIn K (.ref f41) = true)
    (l42 : K.lookup f42 = some ⟨oc42, od42, .func (PySem.W.fnOf "_law_due" "_law_due" (defArgs s_law_due) (defBody s_law_due) (defScope s_law_due) .none kV42 dc42 pm42 an42 cd42 ct42), sl42⟩)
    (d42 : PySem.W.codeIn K cd42 "_law_due" = true)
    (k42 : PySem.W.keepIn K (.ref f42) = true)
    (l43 : K.lookup f43 = some ⟨oc43, od43, .func (PySem.W.fnOf "_law_look" "_law_look" (defArgs s_law_look) (defBody s_law_look) (defScope s_law_look) .none kV43 dc43 pm43 an43 cd43 ct43), sl43⟩)
    (d43 : PySem.W.codeIn K cd43 "_law_look" = true)
    (k43 : PySem.W.keepIn K (.ref f43) = true)
    (l44 : K.lookup f44 = some ⟨oc44, od44, .func (PySem.W.fnOf "_law_way" "_law_way" (defArgs s_law_way) (defBody s_law_way) (defScope s_law_way) .none kV44 dc44 pm44 an44 cd44 ct44), sl44⟩)
    (d44 : PySem.W.codeIn K cd44 "_law_way" = true)
    (k44 : PySem.W.keepIn K (.ref f44) = true)
    (l45 : K.lookup f45 = some ⟨oc45, od45, .func (PySem.W.fnOf "law" "law" (defArgs s_law) (defBody s_law) (defScope s_law) .none kV45 dc45 pm45 an45 cd45 ct45), sl45⟩)
    (d45 : PySem.W.codeIn K cd45 "law" = true)
    (k45 : PySem.W.keepIn K (.ref f45) = true)
    (al0 : PySem.W.nsIn K mainGlobals "paper_slots" = some (some (.ref f10)))
    (pg0 : PySem.W.plainGet K C0 Str.empty = true)
    (hd0 : PySem.W.hasDictIn K C0 = true)
    (po0 : PySem.W.plainOver K C0 = true)
    (sa0 : PySem.W.findIn K (.ref C0) "__setattr__" = some (some (.builtin "object.__setattr__")))
    (na0_0 : PySem.W.findIn K (.ref C0) "cells" = some none)
    (na0_1 : PySem.W.findIn K (.ref C0) "size" = some none)
    (na0_2 : PySem.W.findIn K (.ref C0) "least" = some none)
    (na0_3 : PySem.W.findIn K (.ref C0) "row" = some none)
    (na0_4 : PySem.W.findIn K (.ref C0) "held" = some none)
    (na0_5 : PySem.W.findIn K (.ref C0) "born" = some none)
    (na0_6 : PySem.W.findIn K (.ref C0) "comings" = some none)
    (na0_7 : PySem.W.findIn K (.ref C0) "goings" = some none)
    (na0_8 : PySem.W.findIn K (.ref C0) "tidied" = some none)
    (na0_9 : PySem.W.findIn K (.ref C0) "moved" = some none)
    (fn12 : PySem.W.isFn K (.ref f12) = true)
    (mk0 : PySem.W.makesIn K C0 = true)
    (kC0 : PySem.W.keepIn K (.ref C0) = true)
    (fn13 : PySem.W.isFn K (.ref f13) = true)
    (fn14 : PySem.W.isFn K (.ref f14) = true)
    (fn15 : PySem.W.isFn K (.ref f15) = true)
    (fn16 : PySem.W.isFn K (.ref f16) = true)
    (fn17 : PySem.W.isFn K (.ref f17) = true)
    (fn18 : PySem.W.isFn K (.ref f18) = true)
    (fn19 : PySem.W.isFn K (.ref f19) = true)
    (fn20 : PySem.W.isFn K (.ref f20) = true)
    (fn21 : PySem.W.isFn K (.ref f21) = true)
    (fn22 : PySem.W.isFn K (.ref f22) = true)
    (fn23 : PySem.W.isFn K (.ref f23) = true)
    (fn24 : PySem.W.isFn K (.ref f24) = true)
    (fn25 : PySem.W.isFn K (.ref f25) = true)
    (fn26 : PySem.W.isFn K (.ref f26) = true)
    (fn27 : PySem.W.isFn K (.ref f27) = true)
    (fn28 : PySem.W.isFn K (.ref f28) = true)
    (xx0 : PySem.W.excIn K X0 [.type "ValueError", .type "Exception", .type "BaseException", .type "object"] "ValueError.__new__" = true)
    (xk0 : PySem.W.keepIn K (.ref X0) = true)
    (xb0 : PySem.W.subIn K (.ref X0) (.type "BaseException") = some true)
    (xt0 : PySem.W.typeIn K (.ref X0) = some (.type "type"))
    (xx1 : PySem.W.excIn K X1 [.type "ValueError", .type "Exception", .type "BaseException", .type "object"] "ValueError.__new__" = true)
    (xk1 : PySem.W.keepIn K (.ref X1) = true)
    (xb1 : PySem.W.subIn K (.ref X1) (.type "BaseException") = some true)
    (xt1 : PySem.W.typeIn K (.ref X1) = some (.type "type"))
    (xx2 : PySem.W.excIn K X2 [.type "ValueError", .type "Exception", .type "BaseException", .type "object"] "ValueError.__new__" = true)
    (xk2 : PySem.W.keepIn K (.ref X2) = true)
    (xb2 : PySem.W.subIn K (.ref X2) (.type "BaseException") = some true)
    (xt2 : PySem.W.typeIn K (.ref X2) = some (.type "type"))
    (xi1 : PySem.W.isClsIn K X1 = true)
    (xs0 : PySem.W.subIn K (.ref X1) (.ref X1) = some true)
    (xs1 : PySem.W.subIn K (.ref X2) (.ref X1) = some false)
    (xi2 : PySem.W.isClsIn K X2 = true)
    (xs2 : PySem.W.subIn K (.ref X2) (.ref X2) = some true)
    (gl0 : PySem.W.nsIn K mainGlobals "FAR" = some (some (.int 1000000000000000000000000000000000000000000000000000000000000 tk0)))
    (gl1 : PySem.W.nsIn K mainGlobals "MOST_SIGNS" = some (some (.int 60 tk1)))
    (gl2 : PySem.W.nsIn K mainGlobals "MOST_PARTS" = some (some (.int 6 tk2)))
    (gl3 : PySem.W.nsIn K mainGlobals "DEEPEST" = some (some (.int 3 tk3)))
    (gl4 : PySem.W.nsIn K mainGlobals "LEAST" = some (some (.int 8 tk4)))
    (gl5 : PySem.W.nsIn K mainGlobals "GREATEST" = some (some (.int 4096 tk5)))
    (gl6 : PySem.W.nsIn K mainGlobals "TURN" = some (some (.int 2147483647 tk6)))
    (gl7 : PySem.W.nsIn K mainGlobals "EMPTY" = some (some (.int (-1) tk7)))
    (gl8 : PySem.W.nsIn K mainGlobals "GONE" = some (some (.int (-2) tk8)))
    (n_all : PySem.W.nsIn K mainGlobals "all" = some none)
    (n_bool : PySem.W.nsIn K mainGlobals "bool" = some none)
    (n_enumerate : PySem.W.nsIn K mainGlobals "enumerate" = some none)
    (n_int : PySem.W.nsIn K mainGlobals "int" = some none)
    (n_isinstance : PySem.W.nsIn K mainGlobals "isinstance" = some none)
    (n_len : PySem.W.nsIn K mainGlobals "len" = some none)
    (n_list : PySem.W.nsIn K mainGlobals "list" = some none)
    (n_ord : PySem.W.nsIn K mainGlobals "ord" = some none)
    (n_range : PySem.W.nsIn K mainGlobals "range" = some none)
    (n_str : PySem.W.nsIn K mainGlobals "str" = some none)
    (n_tuple : PySem.W.nsIn K mainGlobals "tuple" = some none) :
    ∃ fd : FuncData, (∀ (s : Shared) (v : Value), BindsTo s fd ⟨[v], []⟩ [("_law_script", v)]) ∧ ∀ base : Heap, K.In base → base.Ns mainGlobals mg → FnOk l.prog w K mg base CX0 15 fa fd ["_law_script"] (spLaw K) := by
  have e := hfa.symm.trans (PySem.W.mg_of X G a45)
  cases e
  have T : Txt K mg ⟨f0, PySem.W.fnOf "is_within" "is_within" (defArgs s_is_within) (defBody s_is_within) (defScope s_is_within) .none kV0 dc0 pm0 an0 cd0 ct0, f1, PySem.W.fnOf "is_key" "is_key" (defArgs s_is_key) (defBody s_is_key) (defScope s_is_key) .none kV1 dc1 pm1 an1 cd1 ct1, f2, PySem.W.fnOf "checked" "checked" (defArgs s_checked) (defBody s_checked) (defScope s_checked) .none kV2 dc2 pm2 an2 cd2 ct2, f3, PySem.W.fnOf "is_size" "is_size" (defArgs s_is_size) (defBody s_is_size) (defScope s_is_size) .none kV3 dc3 pm3 an3 cd3 ct3, f4, PySem.W.fnOf "room" "room" (defArgs s_room) (defBody s_room) (defScope s_room) .none kV4 dc4 pm4 an4 cd4 ct4, f5, PySem.W.fnOf "stride" "stride" (defArgs s_stride) (defBody s_stride) (defScope s_stride) .none kV5 dc5 pm5 an5 cd5 ct5, f6, PySem.W.fnOf "probe" "probe" (defArgs s_probe) (defBody s_probe) (defScope s_probe) .none kV6 dc6 pm6 an6 cd6 ct6, f7, PySem.W.fnOf "stamp" "stamp" (defArgs s_stamp) (defBody s_stamp) (defScope s_stamp) .none kV7 dc7 pm7 an7 cd7 ct7, f8, PySem.W.fnOf "first_bare" "first_bare" (defArgs s_first_bare) (defBody s_first_bare) (defScope s_first_bare) .none kV8 dc8 pm8 an8 cd8 ct8, f9, PySem.W.fnOf "cells_of" "cells_of" (defArgs s_cells_of) (defBody s_cells_of) (defScope s_cells_of) .none kV9 dc9 pm9 an9 cd9 ct9, f10, PySem.W.fnOf "paper" "paper" (defArgs s_paper) (defBody s_paper) (defScope s_paper) .none kV10 dc10 pm10 an10 cd10 ct10, f11, PySem.W.fnOf "place_of" "place_of" (defArgs s_place_of) (defBody s_place_of) (defScope s_place_of) .none kV11 dc11 pm11 an11 cd11 ct11, f12, PySem.W.fnOf "__init__" "Shelf.__init__" (defArgs s_Shelf___init__) (defBody s_Shelf___init__) (defScope s_Shelf___init__) (.ref dT12) kV12 dc12 pm12 an12 cd12 ct12, f13, PySem.W.fnOf "find" "Shelf.find" (defArgs s_Shelf_find) (defBody s_Shelf_find) (defScope s_Shelf_find) .none kV13 dc13 pm13 an13 cd13 ct13, f14, PySem.W.fnOf "lay" "Shelf.lay" (defArgs s_Shelf_lay) (defBody s_Shelf_lay) (defScope s_Shelf_lay) .none kV14 dc14 pm14 an14 cd14 ct14, f15, PySem.W.fnOf "mark_gone" "Shelf.mark_gone" (defArgs s_Shelf_mark_gone) (defBody s_Shelf_mark_gone) (defScope s_Shelf_mark_gone) .none kV15 dc15 pm15 an15 cd15 ct15, f16, PySem.W.fnOf "relay" "Shelf.relay" (defArgs s_Shelf_relay) (defBody s_Shelf_relay) (defScope s_Shelf_relay) .none kV16 dc16 pm16 an16 cd16 ct16, f17, PySem.W.fnOf "make_room" "Shelf.make_room" (defArgs s_Shelf_make_room) (defBody s_Shelf_make_room) (defScope s_Shelf_make_room) .none kV17 dc17 pm17 an17 cd17 ct17, f18, PySem.W.fnOf "put" "Shelf.put" (defArgs s_Shelf_put) (defBody s_Shelf_put) (defScope s_Shelf_put) .none kV18 dc18 pm18 an18 cd18 ct18, f19, PySem.W.fnOf "at" "Shelf.at" (defArgs s_Shelf_at) (defBody s_Shelf_at) (defScope s_Shelf_at) .none kV19 dc19 pm19 an19 cd19 ct19, f20, PySem.W.fnOf "told" "Shelf.told" (defArgs s_Shelf_told) (defBody s_Shelf_told) (defScope s_Shelf_told) (.ref dT20) kV20 dc20 pm20 an20 cd20 ct20, f21, PySem.W.fnOf "has" "Shelf.has" (defArgs s_Shelf_has) (defBody s_Shelf_has) (defScope s_Shelf_has) .none kV21 dc21 pm21 an21 cd21 ct21, f22, PySem.W.fnOf "take" "Shelf.take" (defArgs s_Shelf_take) (defBody s_Shelf_take) (defScope s_Shelf_take) .none kV22 dc22 pm22 an22 cd22 ct22, f23, PySem.W.fnOf "take_last" "Shelf.take_last" (defArgs s_Shelf_take_last) (defBody s_Shelf_take_last) (defScope s_Shelf_take_last) .none kV23 dc23 pm23 an23 cd23 ct23, f24, PySem.W.fnOf "emptied" "Shelf.emptied" (defArgs s_Shelf_emptied) (defBody s_Shelf_emptied) (defScope s_Shelf_emptied) .none kV24 dc24 pm24 an24 cd24 ct24, f25, PySem.W.fnOf "many" "Shelf.many" (defArgs s_Shelf_many) (defBody s_Shelf_many) (defScope s_Shelf_many) .none kV25 dc25 pm25 an25 cd25 ct25, f26, PySem.W.fnOf "pairs" "Shelf.pairs" (defArgs s_Shelf_pairs) (defBody s_Shelf_pairs) (defScope s_Shelf_pairs) .none kV26 dc26 pm26 an26 cd26 ct26, f27, PySem.W.fnOf "ahead" "Shelf.ahead" (defArgs s_Shelf_ahead) (defBody s_Shelf_ahead) (defScope s_Shelf_ahead) .none kV27 dc27 pm27 an27 cd27 ct27, f28, PySem.W.fnOf "counts" "Shelf.counts" (defArgs s_Shelf_counts) (defBody s_Shelf_counts) (defScope s_Shelf_counts) .none kV28 dc28 pm28 an28 cd28 ct28, f29, PySem.W.fnOf "_law_cell_at" "_law_cell_at" (defArgs s_law_cell_at) (defBody s_law_cell_at) (defScope s_law_cell_at) .none kV29 dc29 pm29 an29 cd29 ct29, f30, PySem.W.fnOf "_law_text" "_law_text" (defArgs s_law_text) (defBody s_law_text) (defScope s_law_text) .none kV30 dc30 pm30 an30 cd30 ct30, f31, PySem.W.fnOf "_law_stamp" "_law_stamp" (defArgs s_law_stamp) (defBody s_law_stamp) (defScope s_law_stamp) .none kV31 dc31 pm31 an31 cd31 ct31, f32, PySem.W.fnOf "_law_leaf" "_law_leaf" (defArgs s_law_leaf) (defBody s_law_leaf) (defScope s_law_leaf) .none kV32 dc32 pm32 an32 cd32 ct32, f33, PySem.W.fnOf "_law_any_key" "_law_any_key" (defArgs s_law_any_key) (defBody s_law_any_key) (defScope s_law_any_key) .none kV33 dc33 pm33 an33 cd33 ct33, f34, PySem.W.fnOf "_law_key" "_law_key" (defArgs s_law_key) (defBody s_law_key) (defScope s_law_key) .none kV34 dc34 pm34 an34 cd34 ct34, f35, PySem.W.fnOf "_law_value" "_law_value" (defArgs s_law_value) (defBody s_law_value) (defScope s_law_value) .none kV35 dc35 pm35 an35 cd35 ct35, f36, PySem.W.fnOf "_law_alike" "_law_alike" (defArgs s_law_alike) (defBody s_law_alike) (defScope s_law_alike) .none kV36 dc36 pm36 an36 cd36 ct36, f37, PySem.W.fnOf "_law_do" "_law_do" (defArgs s_law_do) (defBody s_law_do) (defScope s_law_do) .none kV37 dc37 pm37 an37 cd37 ct37, f38, PySem.W.fnOf "_law_asked" "_law_asked" (defArgs s_law_asked) (defBody s_law_asked) (defScope s_law_asked) .none kV38 dc38 pm38 an38 cd38 ct38, f39, PySem.W.fnOf "_law_spot" "_law_spot" (defArgs s_law_spot) (defBody s_law_spot) (defScope s_law_spot) .none kV39 dc39 pm39 an39 cd39 ct39, f40, PySem.W.fnOf "_law_due_put" "_law_due_put" (defArgs s_law_due_put) (defBody s_law_due_put) (defScope s_law_due_put) .none kV40 dc40 pm40 an40 cd40 ct40, f41, PySem.W.fnOf "_law_due_out" "_law_due_out" (defArgs s_law_due_out) (defBody s_law_due_out) (defScope s_law_due_out) .none kV41 dc41 pm41 an41 cd41 ct41, f42, PySem.W.fnOf "_law_due" "_law_due" (defArgs s_law_due) (defBody s_law_due) (defScope s_law_due) .none kV42 dc42 pm42 an42 cd42 ct42, f43, PySem.W.fnOf "_law_look" "_law_look" (defArgs s_law_look) (defBody s_law_look) (defScope s_law_look) .none kV43 dc43 pm43 an43 cd43 ct43, f44, PySem.W.fnOf "_law_way" "_law_way" (defArgs s_law_way) (defBody s_law_way) (defScope s_law_way) .none kV44 dc44 pm44 an44 cd44 ct44, fa, PySem.W.fnOf "law" "law" (defArgs s_law) (defBody s_law) (defScope s_law) .none kV45 dc45 pm45 an45 cd45 ct45, C0, X0, X1, X2, tk0, tk1, tk2, tk3, tk4, tk5, tk6, tk7, tk8⟩ := ⟨fun_mk (st := s_is_within) l0 d0 k0,
    (fun_mk (st := s_is_within) l0 d0 k0).binds (ps := ["thing", "deep"]) fun _ _ _ _ _ _ us hl => match us, hl with | [_, _], _ => rfl,
    PySem.W.mg_of X G a0,
    fun_mk (st := s_is_key) l1 d1 k1,
    (fun_mk (st := s_is_key) l1 d1 k1).binds (ps := ["thing"]) fun _ _ _ _ _ _ us hl => match us, hl with | [_], _ => rfl,
    PySem.W.mg_of X G a1,
    fun_mk (st := s_checked) l2 d2 k2,
    (fun_mk (st := s_checked) l2 d2 k2).binds (ps := ["thing"]) fun _ _ _ _ _ _ us hl => match us, hl with | [_], _ => rfl,
    PySem.W.mg_of X G a2,
    fun_mk (st := s_is_size) l3 d3 k3,
    (fun_mk (st := s_is_size) l3 d3 k3).binds (ps := ["thing"]) fun _ _ _ _ _ _ us hl => match us, hl with | [_], _ => rfl,
    PySem.W.mg_of X G a3,
    fun_mk (st := s_room) l4 d4 k4,
    (fun_mk (st := s_room) l4 d4 k4).binds (ps := ["size"]) fun _ _ _ _ _ _ us hl => match us, hl with | [_], _ => rfl,
    PySem.W.mg_of X G a4,
    fun_mk (st := s_stride) l5 d5 k5,
    (fun_mk (st := s_stride) l5 d5 k5).binds (ps := ["stamp"]) fun _ _ _ _ _ _ us hl => match us, hl with | [_], _ => rfl,
    PySem.W.mg_of X G a5,
    fun_mk (st := s_probe) l6 d6 k6,
    (fun_mk (st := s_probe) l6 d6 k6).binds (ps := ["stamp", "size", "count"]) fun _ _ _ _ _ _ us hl => match us, hl with | [_, _, _], _ => rfl,
    PySem.W.mg_of X G a6,
    fun_mk (st := s_stamp) l7 d7 k7,
    (fun_mk (st := s_stamp) l7 d7 k7).binds (ps := ["key"]) fun _ _ _ _ _ _ us hl => match us, hl with | [_], _ => rfl,
    PySem.W.mg_of X G a7,
    fun_mk (st := s_first_bare) l8 d8 k8,
    (fun_mk (st := s_first_bare) l8 d8 k8).binds (ps := ["cells", "key"]) fun _ _ _ _ _ _ us hl => match us, hl with | [_, _], _ => rfl,
    PySem.W.mg_of X G a8,
    fun_mk (st := s_cells_of) l9 d9 k9,
    (fun_mk (st := s_cells_of) l9 d9 k9).binds (ps := ["row", "size"]) fun _ _ _ _ _ _ us hl => match us, hl with | [_, _], _ => rfl,
    PySem.W.mg_of X G a9,
    fun_mk (st := s_paper) l10 d10 k10,
    (fun_mk (st := s_paper) l10 d10 k10).binds (ps := ["cells", "row", "key"]) fun _ _ _ _ _ _ us hl => match us, hl with | [_, _, _], _ => rfl,
    PySem.W.mg_of X G a10,
    fun_mk (st := s_place_of) l11 d11 k11,
    (fun_mk (st := s_place_of) l11 d11 k11).binds (ps := ["cells", "row", "key"]) fun _ _ _ _ _ _ us hl => match us, hl with | [_, _, _], _ => rfl,
    PySem.W.mg_of X G a11,
    (show FunD K "__init__" "Shelf.__init__" (defArgs s_Shelf___init__) (defBody s_Shelf___init__) (defScope s_Shelf___init__) [V.int 8] [] f12 _ from fund_mk l12 d12 k12 dl12 dd12 (by decide) (by repeat' first | exact .nil | refine .cons ?_ ?_ | exact ⟨_, rfl⟩ | rfl)),
    FunD.binds1 (show FunD K "__init__" "Shelf.__init__" (defArgs s_Shelf___init__) (defBody s_Shelf___init__) (defScope s_Shelf___init__) [V.int 8] [] f12 _ from fund_mk l12 d12 k12 dl12 dd12 (by decide) (by repeat' first | exact .nil | refine .cons ?_ ?_ | exact ⟨_, rfl⟩ | rfl)) 1 0 (by decide) rfl fun T kV doc pm an cdv ct us its hu hi => match us, its, hu, hi with | [_], [_], _, _ => ⟨_, rfl, rfl⟩,
    FunD.binds1 (show FunD K "__init__" "Shelf.__init__" (defArgs s_Shelf___init__) (defBody s_Shelf___init__) (defScope s_Shelf___init__) [V.int 8] [] f12 _ from fund_mk l12 d12 k12 dl12 dd12 (by decide) (by repeat' first | exact .nil | refine .cons ?_ ?_ | exact ⟨_, rfl⟩ | rfl)) 2 1 (by decide) rfl fun T kV doc pm an cdv ct us its hu hi => match us, its, hu, hi with | [_, _], [_], _, _ => ⟨_, rfl, rfl⟩,
    fun_mk (st := s_Shelf_find) l13 d13 k13,
    (fun_mk (st := s_Shelf_find) l13 d13 k13).binds (ps := ["self", "key"]) fun _ _ _ _ _ _ us hl => match us, hl with | [_, _], _ => rfl,
    fun_mk (st := s_Shelf_lay) l14 d14 k14,
    (fun_mk (st := s_Shelf_lay) l14 d14 k14).binds (ps := ["self", "key", "place"]) fun _ _ _ _ _ _ us hl => match us, hl with | [_, _, _], _ => rfl,
    fun_mk (st := s_Shelf_mark_gone) l15 d15 k15,
    (fun_mk (st := s_Shelf_mark_gone) l15 d15 k15).binds (ps := ["self", "key", "place"]) fun _ _ _ _ _ _ us hl => match us, hl with | [_, _, _], _ => rfl,
    fun_mk (st := s_Shelf_relay) l16 d16 k16,
    (fun_mk (st := s_Shelf_relay) l16 d16 k16).binds (ps := ["self"]) fun _ _ _ _ _ _ us hl => match us, hl with | [_], _ => rfl,
    fun_mk (st := s_Shelf_make_room) l17 d17 k17,
    (fun_mk (st := s_Shelf_make_room) l17 d17 k17).binds (ps := ["self"]) fun _ _ _ _ _ _ us hl => match us, hl with | [_], _ => rfl,
    fun_mk (st := s_Shelf_put) l18 d18 k18,
    (fun_mk (st := s_Shelf_put) l18 d18 k18).binds (ps := ["self", "key", "value"]) fun _ _ _ _ _ _ us hl => match us, hl with | [_, _, _], _ => rfl,
    fun_mk (st := s_Shelf_at) l19 d19 k19,
    (fun_mk (st := s_Shelf_at) l19 d19 k19).binds (ps := ["self", "key"]) fun _ _ _ _ _ _ us hl => match us, hl with | [_, _], _ => rfl,
    (show FunD K "told" "Shelf.told" (defArgs s_Shelf_told) (defBody s_Shelf_told) (defScope s_Shelf_told) [V.non] [] f20 _ from fund_mk l20 d20 k20 dl20 dd20 (by decide) (by repeat' first | exact .nil | refine .cons ?_ ?_ | exact ⟨_, rfl⟩ | rfl)),
    FunD.binds1 (show FunD K "told" "Shelf.told" (defArgs s_Shelf_told) (defBody s_Shelf_told) (defScope s_Shelf_told) [V.non] [] f20 _ from fund_mk l20 d20 k20 dl20 dd20 (by decide) (by repeat' first | exact .nil | refine .cons ?_ ?_ | exact ⟨_, rfl⟩ | rfl)) 2 0 (by decide) rfl fun T kV doc pm an cdv ct us its hu hi => match us, its, hu, hi with | [_, _], [_], _, _ => ⟨_, rfl, rfl⟩,
    FunD.binds1 (show FunD K "told" "Shelf.told" (defArgs s_Shelf_told) (defBody s_Shelf_told) (defScope s_Shelf_told) [V.non] [] f20 _ from fund_mk l20 d20 k20 dl20 dd20 (by decide) (by repeat' first | exact .nil | refine .cons ?_ ?_ | exact ⟨_, rfl⟩ | rfl)) 3 1 (by decide) rfl fun T kV doc pm an cdv ct us its hu hi => match us, its, hu, hi with | [_, _, _], [_], _, _ => ⟨_, rfl, rfl⟩,
    fun_mk (st := s_Shelf_has) l21 d21 k21,
    (fun_mk (st := s_Shelf_has) l21 d21 k21).binds (ps := ["self", "key"]) fun _ _ _ _ _ _ us hl => match us, hl with | [_, _], _ => rfl,
    fun_mk (st := s_Shelf_take) l22 d22 k22,
    (fun_mk (st := s_Shelf_take) l22 d22 k22).binds (ps := ["self", "key"]) fun _ _ _ _ _ _ us hl => match us, hl with | [_, _], _ => rfl,
    fun_mk (st := s_Shelf_take_last) l23 d23 k23,
    (fun_mk (st := s_Shelf_take_last) l23 d23 k23).binds (ps := ["self"]) fun _ _ _ _ _ _ us hl => match us, hl with | [_], _ => rfl,
    fun_mk (st := s_Shelf_emptied) l24 d24 k24,
    (fun_mk (st := s_Shelf_emptied) l24 d24 k24).binds (ps := ["self"]) fun _ _ _ _ _ _ us hl => match us, hl with | [_], _ => rfl,
    fun_mk (st := s_Shelf_many) l25 d25 k25,
    (fun_mk (st := s_Shelf_many) l25 d25 k25).binds (ps := ["self"]) fun _ _ _ _ _ _ us hl => match us, hl with | [_], _ => rfl,
    fun_mk (st := s_Shelf_pairs) l26 d26 k26,
    (fun_mk (st := s_Shelf_pairs) l26 d26 k26).binds (ps := ["self"]) fun _ _ _ _ _ _ us hl => match us, hl with | [_], _ => rfl,
    fun_mk (st := s_Shelf_ahead) l27 d27 k27,
    (fun_mk (st := s_Shelf_ahead) l27 d27 k27).binds (ps := ["self", "number"]) fun _ _ _ _ _ _ us hl => match us, hl with | [_, _], _ => rfl,
    fun_mk (st := s_Shelf_counts) l28 d28 k28,
    (fun_mk (st := s_Shelf_counts) l28 d28 k28).binds (ps := ["self"]) fun _ _ _ _ _ _ us hl => match us, hl with | [_], _ => rfl,
    fun_mk (st := s_law_cell_at) l29 d29 k29,
    (fun_mk (st := s_law_cell_at) l29 d29 k29).binds (ps := ["_law_script", "_law_k"]) fun _ _ _ _ _ _ us hl => match us, hl with | [_, _], _ => rfl,
    PySem.W.mg_of X G a29,
    fun_mk (st := s_law_text) l30 d30 k30,
    (fun_mk (st := s_law_text) l30 d30 k30).binds (ps := ["_law_number", "_law_size"]) fun _ _ _ _ _ _ us hl => match us, hl with | [_, _], _ => rfl,
    PySem.W.mg_of X G a30,
    fun_mk (st := s_law_stamp) l31 d31 k31,
    (fun_mk (st := s_law_stamp) l31 d31 k31).binds (ps := ["_law_key_here"]) fun _ _ _ _ _ _ us hl => match us, hl with | [_], _ => rfl,
    PySem.W.mg_of X G a31,
    fun_mk (st := s_law_leaf) l32 d32 k32,
    (fun_mk (st := s_law_leaf) l32 d32 k32).binds (ps := ["_law_number"]) fun _ _ _ _ _ _ us hl => match us, hl with | [_], _ => rfl,
    PySem.W.mg_of X G a32,
    fun_mk (st := s_law_any_key) l33 d33 k33,
    (fun_mk (st := s_law_any_key) l33 d33 k33).binds (ps := ["_law_number"]) fun _ _ _ _ _ _ us hl => match us, hl with | [_], _ => rfl,
    PySem.W.mg_of X G a33,
    fun_mk (st := s_law_key) l34 d34 k34,
    (fun_mk (st := s_law_key) l34 d34 k34).binds (ps := ["_law_way_here", "_law_base", "_law_j"]) fun _ _ _ _ _ _ us hl => match us, hl with | [_, _, _], _ => rfl,
    PySem.W.mg_of X G a34,
    fun_mk (st := s_law_value) l35 d35 k35,
    (fun_mk (st := s_law_value) l35 d35 k35).binds (ps := ["_law_number"]) fun _ _ _ _ _ _ us hl => match us, hl with | [_], _ => rfl,
    PySem.W.mg_of X G a35,
    fun_mk (st := s_law_alike) l36 d36 k36,
    (fun_mk (st := s_law_alike) l36 d36 k36).binds (ps := ["_law_found", "_law_due_here"]) fun _ _ _ _ _ _ us hl => match us, hl with | [_, _], _ => rfl,
    PySem.W.mg_of X G a36,
    fun_mk (st := s_law_do) l37 d37 k37,
    (fun_mk (st := s_law_do) l37 d37 k37).binds (ps := ["_law_shelf", "_law_way_here", "_law_key_here", "_law_value_here"]) fun _ _ _ _ _ _ us hl => match us, hl with | [_, _, _, _], _ => rfl,
    PySem.W.mg_of X G a37,
    fun_mk (st := s_law_asked) l38 d38 k38,
    (fun_mk (st := s_law_asked) l38 d38 k38).binds (ps := ["_law_shelf", "_law_way_here", "_law_key_here", "_law_value_here"]) fun _ _ _ _ _ _ us hl => match us, hl with | [_, _, _, _], _ => rfl,
    PySem.W.mg_of X G a38,
    fun_mk (st := s_law_spot) l39 d39 k39,
    (fun_mk (st := s_law_spot) l39 d39 k39).binds (ps := ["_law_pairs", "_law_key_here"]) fun _ _ _ _ _ _ us hl => match us, hl with | [_, _], _ => rfl,
    PySem.W.mg_of X G a39,
    fun_mk (st := s_law_due_put) l40 d40 k40,
    (fun_mk (st := s_law_due_put) l40 d40 k40).binds (ps := ["_law_pairs", "_law_state", "_law_key_here", "_law_value_here"]) fun _ _ _ _ _ _ us hl => match us, hl with | [_, _, _, _], _ => rfl,
    PySem.W.mg_of X G a40,
    fun_mk (st := s_law_due_out) l41 d41 k41,
    (fun_mk (st := s_law_due_out) l41 d41 k41).binds (ps := ["_law_pairs", "_law_state", "_law_way_here", "_law_key_here"]) fun _ _ _ _ _ _ us hl => match us, hl with | [_, _, _, _], _ => rfl,
    PySem.W.mg_of X G a41,
    fun_mk (st := s_law_due) l42 d42 k42,
    (fun_mk (st := s_law_due) l42 d42 k42).binds (ps := ["_law_pairs", "_law_state", "_law_way_here", "_law_key_here", "_law_value_here"]) fun _ _ _ _ _ _ us hl => match us, hl with | [_, _, _, _, _], _ => rfl,
    PySem.W.mg_of X G a42,
    fun_mk (st := s_law_look) l43 d43 k43,
    (fun_mk (st := s_law_look) l43 d43 k43).binds (ps := ["_law_shelf", "_law_pairs", "_law_key_here", "_law_first"]) fun _ _ _ _ _ _ us hl => match us, hl with | [_, _, _, _], _ => rfl,
    PySem.W.mg_of X G a43,
    fun_mk (st := s_law_way) l44 d44 k44,
    (fun_mk (st := s_law_way) l44 d44 k44).binds (ps := ["_law_cell"]) fun _ _ _ _ _ _ us hl => match us, hl with | [_], _ => rfl,
    PySem.W.mg_of X G a44,
    fun_mk (st := s_law) l45 d45 k45,
    (fun_mk (st := s_law) l45 d45 k45).binds (ps := ["_law_script"]) fun _ _ _ _ _ _ us hl => match us, hl with | [_], _ => rfl,
    PySem.W.mg_of X G a45,
    PySem.W.mg_of X G al0,
    ⟨pg0, hd0, po0, sa0⟩,
    PySem.W.mg_of X G aC0,
    na0_0,
    na0_1,
    na0_2,
    na0_3,
    na0_4,
    na0_5,
    na0_6,
    na0_7,
    na0_8,
    na0_9,
    ⟨mk0, me0_12, fn12, kC0⟩,
    ⟨me0_13, fn13, k13⟩,
    ⟨me0_14, fn14, k14⟩,
    ⟨me0_15, fn15, k15⟩,
    ⟨me0_16, fn16, k16⟩,
    ⟨me0_17, fn17, k17⟩,
    ⟨me0_18, fn18, k18⟩,
    ⟨me0_19, fn19, k19⟩,
    ⟨me0_20, fn20, k20⟩,
    ⟨me0_21, fn21, k21⟩,
    ⟨me0_22, fn22, k22⟩,
    ⟨me0_23, fn23, k23⟩,
    ⟨me0_24, fn24, k24⟩,
    ⟨me0_25, fn25, k25⟩,
    ⟨me0_26, fn26, k26⟩,
    ⟨me0_27, fn27, k27⟩,
    ⟨me0_28, fn28, k28⟩,
    PySem.W.mg_of X G xa0,
    xx0,
    xk0,
    xb0,
    xt0,
    PySem.W.mg_of X G xa1,
    xx1,
    xk1,
    xb1,
    xt1,
    PySem.W.mg_of X G xa2,
    xx2,
    xk2,
    xb2,
    xt2,
    exm_of2 xb1 xi1 xt1 xs0,
    exm_of2 xb1 xi1 xt1 xs1,
    exm_of2 xb2 xi2 xt2 xs2,
    PySem.W.mg_of X G gl0,
    PySem.W.mg_of X G gl1,
    PySem.W.mg_of X G gl2,
    PySem.W.mg_of X G gl3,
    PySem.W.mg_of X G gl4,
    PySem.W.mg_of X G gl5,
    PySem.W.mg_of X G gl6,
    PySem.W.mg_of X G gl7,
    PySem.W.mg_of X G gl8,
    PySem.W.mg_none_of X G n_all,
    PySem.W.mg_none_of X G n_bool,
    PySem.W.mg_none_of X G n_enumerate,
    PySem.W.mg_none_of X G n_int,
    PySem.W.mg_none_of X G n_isinstance,
    PySem.W.mg_none_of X G n_len,
    PySem.W.mg_none_of X G n_list,
    PySem.W.mg_none_of X G n_ord,
    PySem.W.mg_none_of X G n_range,
    PySem.W.mg_none_of X G n_str,
    PySem.W.mg_none_of X G n_tuple⟩
  exact ⟨_, fun s v => .of_eq rfl, fun base _ _ => ok_law T⟩
theorem walk {l : PySem.W.OpenLaw} {q : Program} {loose : List Str} {XP : (Str → Option Value) → Heap → Prop} {YP : World → Heap → Prop} {d : DefRec} {K : Params → PySem.W.Frag} (hn : l.most = some 63) (hdf : d.params.defaults = [])
    (hY : ∀ (w : World) (h : Heap), YP w h → (K w.params).In h)
    (F : ∀ (w : World) (mg : Str → Option Value) (fa : Addr) (h : Heap), (K w.params).In h → h.Ns mainGlobals mg → mg d.name = some (.ref fa) →
      ∃ fd : FuncData, (∀ (s : Shared) (u : Value), BindsTo s fd ⟨[u], []⟩ [("_law_script", u)]) ∧ ∀ base : Heap, (K w.params).In base → base.Ns mainGlobals mg → FnOk l.prog w (K w.params) mg base CX0 15 fa fd ["_law_script"] (spLaw (K w.params))) :
    PySem.W.WalkO q loose XP YP l.row.toRowW d [] (fun f vs => PySem.call f vs) :=
  L2.walk_of (n := 63) (k := 15) (x := "_law_script") (CX := fun _ => CX0) (sp := fun w => spLaw (K w.params)) hn (by decide) hdf ⟨rfl, by decide, by decide⟩ hY F (fun _ _ a ns hl _ hS => ⟨a, ns, rfl, hS, hl, fun _ => rfl⟩) fun _ _ _ _ _ z => z

end Law

open PySem PySem.W PyProof.Rows
set_option maxRecDepth 100000 in
set_option maxHeartbeats 0 in
theorem PySem.Challenge.cw_slotbook_k43_whole_row_of_pairs_holds : PySem.Challenge.rw_slotbook_k43_whole_row_of_pairs.Holds := by
  w_on; o_law; k_head; (case hw => w_witness2)
  k_fill
  refine Law.walk (l := PySem.Challenge.rw_slotbook_k43_whole_row_of_pairs) rfl rfl (fun w h Y => PySem.W.kIn_of Y) ?F
  case F =>
    intro w mg fa h KX G hmg
    refine' Law.all_mk KX G hmg ?a0 ?a1 ?a2 ?a3 ?a4 ?a5 ?a6 ?a7 ?a8 ?a9 ?a10 ?a11 ?a29 ?a30 ?a31 ?a32 ?a33 ?a34 ?a35 ?a36 ?a37 ?a38 ?a39 ?a40 ?a41 ?a42 ?a43 ?a44 ?a45 ?aC0 ?xa0 ?xa1 ?xa2 ?me0_12 ?me0_13 ?me0_14 ?me0_15 ?me0_16 ?me0_17 ?me0_18 ?me0_19 ?me0_20 ?me0_21 ?me0_22 ?me0_23 ?me0_24 ?me0_25 ?me0_26 ?me0_27 ?me0_28 ?l0 ?d0 ?k0 ?l1 ?d1 ?k1 ?l2 ?d2 ?k2 ?l3 ?d3 ?k3 ?l4 ?d4 ?k4 ?l5 ?d5 ?k5 ?l6 ?d6 ?k6 ?l7 ?d7 ?k7 ?l8 ?d8 ?k8 ?l9 ?d9 ?k9 ?l10 ?d10 ?k10 ?l11 ?d11 ?k11 ?l12 ?dl12 ?dd12 ?d12 ?k12 ?l13 ?d13 ?k13 ?l14 ?d14 ?k14 ?l15 ?d15 ?k15 ?l16 ?d16 ?k16 ?l17 ?d17 ?k17 ?l18 ?d18 ?k18 ?l19 ?d19 ?k19 ?l20 ?dl20 ?dd20 ?d20 ?k20 ?l21 ?d21 ?k21 ?l22 ?d22 ?k22 ?l23 ?d23 ?k23 ?l24 ?d24 ?k24 ?l25 ?d25 ?k25 ?l26 ?d26 ?k26 ?l27 ?d27 ?k27 ?l28 ?d28 ?k28 ?l29 ?d29 ?k29 ?l30 ?d30 ?k30 ?l31 ?d31 ?k31 ?l32 ?d32 ?k32 ?l33 ?d33 ?k33 ?l34 ?d34 ?k34 ?l35 ?d35 ?k35 ?l36 ?d36 ?k36 ?l37 ?d37 ?k37 ?l38 ?d38 ?k38 ?l39 ?d39 ?k39 ?l40 ?d40 ?k40 ?l41 ?d41 ?k41 ?l42 ?d42 ?k42 ?l43 ?d43 ?k43 ?l44 ?d44 ?k44 ?l45 ?d45 ?k45 ?al0 ?pg0 ?hd0 ?po0 ?sa0 ?na0_0 ?na0_1 ?na0_2 ?na0_3 ?na0_4 ?na0_5 ?na0_6 ?na0_7 ?na0_8 ?na0_9 ?fn12 ?mk0 ?kC0 ?fn13 ?fn14 ?fn15 ?fn16 ?fn17 ?fn18 ?fn19 ?fn20 ?fn21 ?fn22 ?fn23 ?fn24 ?fn25 ?fn26 ?fn27 ?fn28 ?xx0 ?xk0 ?xb0 ?xt0 ?xx1 ?xk1 ?xb1 ?xt1 ?xx2 ?xk2 ?xb2 ?xt2 ?xi1 ?xs0 ?xs1 ?xi2 ?xs2 ?gl0 ?gl1 ?gl2 ?gl3 ?gl4 ?gl5 ?gl6 ?gl7 ?gl8 ?n_all ?n_bool ?n_enumerate ?n_int ?n_isinstance ?n_len ?n_list ?n_ord ?n_range ?n_str ?n_tuple
    (case a0 => k_is)
    (case a1 => k_is)
    (case a2 => k_is)
    (case a3 => k_is)
    (case a4 => k_is)
    (case a5 => k_is)
    (case a6 => k_is)
    (case a7 => k_is)
    (case a8 => k_is)
    (case a9 => k_is)
    (case a10 => k_is)
    (case a11 => k_is)
    (case a29 => k_is)
    (case a30 => k_is)
    (case a31 => k_is)
    (case a32 => k_is)
    (case a33 => k_is)
    (case a34 => k_is)
    (case a35 => k_is)
    (case a36 => k_is)
    (case a37 => k_is)
    (case a38 => k_is)
    (case a39 => k_is)
    (case a40 => k_is)
    (case a41 => k_is)
    (case a42 => k_is)
    (case a43 => k_is)
    (case a44 => k_is)
    (case a45 => k_is)
    (case aC0 => k_is)
    (case xa0 => k_is)
    (case xa1 => k_is)
    (case xa2 => k_is)
    (case me0_12 => k_is)
    (case me0_13 => k_is)
    (case me0_14 => k_is)
    (case me0_15 => k_is)
    (case me0_16 => k_is)
    (case me0_17 => k_is)
    (case me0_18 => k_is)
    (case me0_19 => k_is)
    (case me0_20 => k_is)
    (case me0_21 => k_is)
    (case me0_22 => k_is)
    (case me0_23 => k_is)
    (case me0_24 => k_is)
    (case me0_25 => k_is)
    (case me0_26 => k_is)
    (case me0_27 => k_is)
    (case me0_28 => k_is)
    (case l0 => k_is)
    (case d0 => k_is)
    (case k0 => k_is)
    (case l1 => k_is)
    (case d1 => k_is)
    (case k1 => k_is)
    (case l2 => k_is)
    (case d2 => k_is)
    (case k2 => k_is)
    (case l3 => k_is)
    (case d3 => k_is)
    (case k3 => k_is)
    (case l4 => k_is)
    (case d4 => k_is)
    (case k4 => k_is)
    (case l5 => k_is)
    (case d5 => k_is)
    (case k5 => k_is)
    (case l6 => k_is)
    (case d6 => k_is)
    (case k6 => k_is)
    (case l7 => k_is)
    (case d7 => k_is)
    (case k7 => k_is)
    (case l8 => k_is)
    (case d8 => k_is)
    (case k8 => k_is)
    (case l9 => k_is)
    (case d9 => k_is)
    (case k9 => k_is)
    (case l10 => k_is)
    (case d10 => k_is)
    (case k10 => k_is)
    (case l11 => k_is)
    (case d11 => k_is)
    (case k11 => k_is)
    (case l12 => k_is)
    (case dl12 => k_is)
    (case dd12 => first | rfl | k_is)
    (case d12 => k_is)
    (case k12 => k_is)
    (case l13 => k_is)
    (case d13 => k_is)
    (case k13 => k_is)
    (case l14 => k_is)
    (case d14 => k_is)
    (case k14 => k_is)
    (case l15 => k_is)
    (case d15 => k_is)
    (case k15 => k_is)
    (case l16 => k_is)
    (case d16 => k_is)
    (case k16 => k_is)
    (case l17 => k_is)
    (case d17 => k_is)
    (case k17 => k_is)
    (case l18 => k_is)
    (case d18 => k_is)
    (case k18 => k_is)
    (case l19 => k_is)
    (case d19 => k_is)
    (case k19 => k_is)
    (case l20 => k_is)
    (case dl20 => k_is)
    (case dd20 => first | rfl | k_is)
    (case d20 => k_is)
    (case k20 => k_is)
    (case l21 => k_is)
    (case d21 => k_is)
    (case k21 => k_is)
    (case l22 => k_is)
    (case d22 => k_is)
    (case k22 => k_is)
    (case l23 => k_is)
    (case d23 => k_is)
    (case k23 => k_is)
    (case l24 => k_is)
    (case d24 => k_is)
    (case k24 => k_is)
    (case l25 => k_is)
    (case d25 => k_is)
    (case k25 => k_is)
    (case l26 => k_is)
    (case d26 => k_is)
    (case k26 => k_is)
    (case l27 => k_is)
    (case d27 => k_is)
    (case k27 => k_is)
    (case l28 => k_is)
    (case d28 => k_is)
    (case k28 => k_is)
    (case l29 => k_is)
    (case d29 => k_is)
    (case k29 => k_is)
    (case l30 => k_is)
    (case d30 => k_is)
    (case k30 => k_is)
    (case l31 => k_is)
    (case d31 => k_is)
    (case k31 => k_is)
    (case l32 => k_is)
    (case d32 => k_is)
    (case k32 => k_is)
    (case l33 => k_is)
    (case d33 => k_is)
    (case k33 => k_is)
    (case l34 => k_is)
    (case d34 => k_is)
    (case k34 => k_is)
    (case l35 => k_is)
    (case d35 => k_is)
    (case k35 => k_is)
    (case l36 => k_is)
    (case d36 => k_is)
    (case k36 => k_is)
    (case l37 => k_is)
    (case d37 => k_is)
    (case k37 => k_is)
    (case l38 => k_is)
    (case d38 => k_is)
    (case k38 => k_is)
    (case l39 => k_is)
    (case d39 => k_is)
    (case k39 => k_is)
    (case l40 => k_is)
    (case d40 => k_is)
    (case k40 => k_is)
    (case l41 => k_is)
    (case d41 => k_is)
    (case k41 => k_is)
    (case l42 => k_is)
    (case d42 => k_is)
    (case k42 => k_is)
    (case l43 => k_is)
    (case d43 => k_is)
    (case k43 => k_is)
    (case l44 => k_is)
    (case d44 => k_is)
    (case k44 => k_is)
    (case l45 => k_is)
    (case d45 => k_is)
    (case k45 => k_is)
    (case al0 => k_is)
    (case pg0 => k_is)
    (case hd0 => k_is)
    (case po0 => k_is)
    (case sa0 => k_is)
    (case na0_0 => k_is)
    (case na0_1 => k_is)
    (case na0_2 => k_is)
    (case na0_3 => k_is)
    (case na0_4 => k_is)
    (case na0_5 => k_is)
    (case na0_6 => k_is)
    (case na0_7 => k_is)
    (case na0_8 => k_is)
    (case na0_9 => k_is)
    (case fn12 => k_is)
    (case mk0 => k_is)
    (case kC0 => k_is)
    (case fn13 => k_is)
    (case fn14 => k_is)
    (case fn15 => k_is)
    (case fn16 => k_is)
    (case fn17 => k_is)
    (case fn18 => k_is)
    (case fn19 => k_is)
    (case fn20 => k_is)
    (case fn21 => k_is)
    (case fn22 => k_is)
    (case fn23 => k_is)
    (case fn24 => k_is)
    (case fn25 => k_is)
    (case fn26 => k_is)
    (case fn27 => k_is)
    (case fn28 => k_is)
    (case xx0 => k_exc)
    (case xk0 => k_is)
    (case xb0 => k_is)
    (case xt0 => k_is)
    (case xx1 => k_exc)
    (case xk1 => k_is)
    (case xb1 => k_is)
    (case xt1 => k_is)
    (case xx2 => k_exc)
    (case xk2 => k_is)
    (case xb2 => k_is)
    (case xt2 => k_is)
    (case xi1 => k_is)
    (case xs0 => k_is)
    (case xs1 => k_is)
    (case xi2 => k_is)
    (case xs2 => k_is)
    (case gl0 => k_is)
    (case gl1 => k_is)
    (case gl2 => k_is)
    (case gl3 => k_is)
    (case gl4 => k_is)
    (case gl5 => k_is)
    (case gl6 => k_is)
    (case gl7 => k_is)
    (case gl8 => k_is)
    (case n_all => k_is)
    (case n_bool => k_is)
    (case n_enumerate => k_is)
    (case n_int => k_is)
    (case n_isinstance => k_is)
    (case n_len => k_is)
    (case n_list => k_is)
    (case n_ord => k_is)
    (case n_range => k_is)
    (case n_str => k_is)
    (case n_tuple => k_is)
