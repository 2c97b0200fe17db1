import PyProof.Rows.All
import Wide.All
import OpenK.AllK
import Wide.FinOn
import HandS.ForMost
import HandS.IsInst
import HandS.Wide
import HandS.Walk
import HandS.SetKeys
import HandS.Style
import HandS.Codes
import KE.KBits
import HandS.Deep
import HandS.Iter
import HandS.Zip
import HandS.Dict
import HandS.Defaults
import HandS.ForExc
import HandS.CallSlots
import HandS.TryMany
import HandS.ClsMeth
import HandS.Rev
import HandS.GenList
import HandS.NoneIn
import PySem.Challenge.RW_slotbook_k86_whole_rules_of_sets
set_option Elab.async false
set_option linter.all false
set_option maxRecDepth 100000
set_option maxHeartbeats 4000000
namespace My
open PySem PySem.Spec PyProof.Rows L2
section
variable {X : Cx}
theorem op_mulX : OpR X (binaryOp .Mult) (rI IntMulOk fun i j => .int (i * j)) := opI fun _ _ _ _ _ _ _ hc q => mul_int q hc
theorem mulL {i j : Int} (h1 : -(2 ^ 64) < i) (h2 : i < 2 ^ 64) : IntMulOk i j := .of_left (intBits_le_64 h1 h2)
theorem mulR {i j : Int} (h1 : -(2 ^ 64) < j) (h2 : j < 2 ^ 64) : IntMulOk i j := .of_right (intBits_le_64 h1 h2)
end
section
variable {σ : L2.St} {H : Hp} {Q : VK} {QT : Bool → Hp → Prop} {D : Ends} {ta tb te : TE} {t u c : TT} {s1 s2 : TS} {K : PySem.W.Frag}
theorem rd_var {i : Nat} : tVar i σ H Q = (match σ[i]? with | some (some v) => Q v H | _ => False) := by
  unfold tVar
  apply propext
  constructor
  · rintro ⟨v, e, q⟩
    rw [e]; exact q
  · intro h
    split at h
    · rename_i v e
      exact ⟨v, e, h⟩
    · exact h.elim
theorem rd_c {v : V} : tC v σ H Q = Q v H := rfl
theorem rd_op {r : R2} : tOp r ta tb σ H Q = ta σ H fun x H1 => tb σ H1 fun y H2 => r x y H2 Q := rfl
theorem rd_un {r : V → Hp → VK → Prop} : tUn r ta σ H Q = ta σ H fun x H1 => r x H1 Q := rfl
theorem rd_rI {C : Int → Int → Prop} {g : Int → Int → V} {i j : Int} : rI C g (.int i) (.int j) H Q = (C i j ∧ Q (g i j) H) := by
  unfold rI
  apply propext
  constructor
  · rintro ⟨a, b, e1, e2, q⟩
    cases e1; cases e2; exact q
  · intro q
    exact ⟨i, j, rfl, rfl, q⟩
theorem rd_rI0 {g : Int → Int → V} {i j : Int} : rI0 g (.int i) (.int j) H Q = Q (g i j) H := by
  unfold rI0
  apply propext
  constructor
  · rintro ⟨a, b, e1, e2, q⟩
    cases e1; cases e2; exact q
  · intro q
    exact ⟨i, j, rfl, rfl, q⟩
theorem rd_rU {g : Int → V} {i : Int} : rU g (.int i) H Q = Q (g i) H := by
  unfold rU
  apply propext
  constructor
  · rintro ⟨a, e1, q⟩
    cases e1; exact q
  · intro q
    exact ⟨i, rfl, q⟩
theorem rd_eq {x y : V} : rEq x y H Q = (scal x y = true ∧ Q (.bl (decide (x = y))) H) := rfl
theorem rd_ne {x y : V} : rNe x y H Q = (scal x y = true ∧ Q (.bl (!decide (x = y))) H) := rfl
def isBl (x : V) (f : Bool → Prop) : Prop := match x with | .bl k => f k | _ => False
theorem rd_isBl {k : Bool} {f : Bool → Prop} : isBl (.bl k) f = f k := rfl
theorem isBl_eq {x : V} {f : Bool → Prop} : (∃ k, x = .bl k ∧ f k) = isBl x f := by
  apply propext
  constructor
  · rintro ⟨k, rfl, q⟩; exact q
  · intro q
    cases x with
    | bl k => exact ⟨k, rfl, q⟩
    | _ => exact q.elim
theorem rd_test : tTest ta σ H QT = ta σ H fun x H' => isBl x fun k => QT k H' := by
  unfold tTest
  simp only [isBl_eq]
theorem rd_B : tB ta σ H QT = ta σ H fun x H' => isBl x fun k => QT k H' := by
  unfold tB
  simp only [isBl_eq]
theorem rd_and : tAnd t u σ H QT = t σ H fun c H1 => if c = true then u σ H1 QT else QT false H1 := rfl
theorem rd_or : tOr t u σ H QT = t σ H fun c H1 => if c = true then QT true H1 else u σ H1 QT := rfl
theorem rd_not : tNot t σ H QT = t σ H fun c H1 => QT (!c) H1 := rfl
theorem rd_andV : tAndV ta tb σ H Q = ta σ H fun x H1 => isBl x fun c => if c = true then tb σ H1 Q else Q (.bl false) H1 := by
  unfold tAndV; simp only [isBl_eq]
theorem rd_orV : tOrV ta tb σ H Q = ta σ H fun x H1 => isBl x fun c => if c = true then Q (.bl true) H1 else tb σ H1 Q := by
  unfold tOrV; simp only [isBl_eq]
theorem rd_notV : tNotV ta σ H Q = ta σ H fun x H1 => isBl x fun c => Q (.bl (!c)) H1 := by
  unfold tNotV; simp only [isBl_eq]
theorem rd_ifE : tIf t ta tb σ H Q = t σ H fun c H1 => if c = true then ta σ H1 Q else tb σ H1 Q := rfl
theorem rd_chain {r r' : R2} {tc : TE} : tChain r r' ta tb tc σ H Q = ta σ H fun x H1 => tb σ H1 fun y H2 => r x y H2 fun z H3 => isBl z fun k => if k = true then tc σ H3 fun w' H4 => r' y w' H4 Q else Q (.bl false) H3 := by
  unfold tChain; simp only [isBl_eq]
theorem rd_ifS : tIfS c s1 s2 D σ H = c σ H fun b H1 => if b = true then s1 D σ H1 else s2 D σ H1 := rfl
theorem rd_ret : tRet te D σ H = te σ H D.rt := rfl
theorem rd_retN : tRetN D σ H = D.rt .non H := rfl
theorem rd_seq : tSeq s1 s2 D σ H = s1 { D with nx := s2 D } σ H := rfl
theorem rd_next : tNext D σ H = D.nx σ H := rfl
theorem rd_break : tBreak D σ H = D.bk σ H := rfl
theorem rd_cont : tCont D σ H = D.ct σ H := rfl
theorem rd_drop : tDrop te D σ H = te σ H fun _ H1 => D.nx σ H1 := rfl
theorem rd_asg {g : TG} : tAsg te g D σ H = te σ H fun x H1 => g x σ H1 D.nx := rfl
theorem rd_gName {i : Nat} {v : V} {R : L2.St → Hp → Prop} : gName i v σ H R = R (σ.set i (some v)) H := rfl
theorem rd_nil {R : List V → Hp → Prop} : tNil σ H R = R [] H := rfl
theorem rd_cons {tr : TA} {R : List V → Hp → Prop} : tCons te tr σ H R = te σ H fun x H1 => tr σ H1 fun xs H2 => R (x :: xs) H2 := rfl
theorem rd_call {sp : Sp} {dvs : List V} {E : XK} {tr : TA} : tCall sp dvs E tr σ H Q = tr σ H fun vs H1 => sp (vs ++ dvs) H1 Q E := rfl
theorem rd_CB {r : List V → Hp → VK → Prop} {tr : TA} : tCB r tr σ H Q = tr σ H fun vs H1 => r vs H1 Q := rfl
theorem V_int_inj {a b : Int} : (V.int a = V.int b) = (a = b) := by simp
theorem V_bl_inj {a b : Bool} : (V.bl a = V.bl b) = (a = b) := by simp
theorem V_str_inj {a b : Str} : (V.str a = V.str b) = (a = b) := by simp
theorem scal_ii {a b : Int} : scal (.int a) (.int b) = true := rfl
theorem scal_bb {a b : Bool} : scal (.bl a) (.bl b) = true := rfl
theorem scal_ss {a b : Str} : scal (.str a) (.str b) = true := rfl
end
end My
/-! what is read further -/
namespace My
open PySem PySem.Spec PyProof.Rows L2
section
variable {σ : L2.St} {H : Hp} {Q : VK} {QT : Bool → Hp → Prop} {D : Ends} {ta tb te : TE} {t u c : TT} {s1 s2 : TS} {K : PySem.W.Frag}
/-! types of values -/
def tyS (x : V) (H : Hp) : Option String := match x with
  | .non => some "NoneType"
  | .bl _ => some "bool"
  | .int _ => some "int"
  | .str _ => some "str"
  | .ref a => match H a with
    | some (.lst _) => some "list"
    | some (.tup _) => some "tuple"
    | some (.dK _) => some "dict"
    | some (.frz _ (.lst _)) => some "list"
    | _ => none
  | _ => none
theorem tyS_ok {x : V} {t : String} (h : tyS x H = some t) : TyX K H x (.type t) := by
  cases x with
  | non => cases h; exact .base .non
  | bl b => cases h; exact .base (.bl b)
  | int i => cases h; exact .base (.int i)
  | str i => cases h; exact .base (.str i)
  | ref a =>
    unfold tyS at h
    cases e : H a with
    | none => simp [e] at h
    | some o =>
      cases o with
      | lst xs => simp [e] at h; subst h; exact .base (.lst e)
      | tup xs => simp [e] at h; subst h; exact .base (.tup e)
      | dK xs => simp [e] at h; subst h; exact .base (.dK e)
      | frz o u =>
        cases u with
        | lst xs => simp [e] at h; subst h; exact .base (.frz e)
        | _ => simp [e] at h
      | _ => simp [e] at h
  | _ => cases h
/-- isinstance with a built-in type -/
def isiF (x : V) (n : String) (H : Hp) (f : Bool → Prop) : Prop := match tyS x H with
  | some t => (match kitB t n with | some b => f b | none => False)
  | none => False
def rIsiF : List V → Hp → VK → Prop := fun xs H Q => match xs with
  | [x, .ty n] => isiF x n H fun b => Q (.bl b) H
  | _ => False
theorem rd_isiF {x : V} {n : String} : rIsiF [x, .ty n] H Q = isiF x n H fun b => Q (.bl b) H := rfl
theorem call_isiF {X : Cx} : CallR X (.builtin "isinstance") rIsiF := by
  intro pins s σ H xs us Q I r h
  refine call_isi pins s σ H xs us Q I r ?_
  unfold rIsiF at h
  split at h
  · rename_i x n
    unfold isiF at h
    split at h
    · rename_i t e
      split at h
      · rename_i b e2
        exact ⟨x, .ty n, _, _, b, rfl, .ty n, tyS_ok e, kit_ty e2, h⟩
      · exact h.elim
    · exact h.elim
  · exact h.elim
theorem isi_non_int {f : Bool → Prop} : isiF .non "int" H f = f false := by
  have e : kitB "NoneType" "int" = some false := by decide +kernel
  simp only [isiF, tyS, e]
theorem isi_non_bool {f : Bool → Prop} : isiF .non "bool" H f = f false := by
  have e : kitB "NoneType" "bool" = some false := by decide +kernel
  simp only [isiF, tyS, e]
theorem isi_non_str {f : Bool → Prop} : isiF .non "str" H f = f false := by
  have e : kitB "NoneType" "str" = some false := by decide +kernel
  simp only [isiF, tyS, e]
theorem isi_non_tuple {f : Bool → Prop} : isiF .non "tuple" H f = f false := by
  have e : kitB "NoneType" "tuple" = some false := by decide +kernel
  simp only [isiF, tyS, e]
theorem isi_non_list {f : Bool → Prop} : isiF .non "list" H f = f false := by
  have e : kitB "NoneType" "list" = some false := by decide +kernel
  simp only [isiF, tyS, e]
theorem isi_non_dict {f : Bool → Prop} : isiF .non "dict" H f = f false := by
  have e : kitB "NoneType" "dict" = some false := by decide +kernel
  simp only [isiF, tyS, e]
theorem isi_bl_int {b : Bool} {f : Bool → Prop} : isiF (.bl b) "int" H f = f true := by
  have e : kitB "bool" "int" = some true := by decide +kernel
  simp only [isiF, tyS, e]
theorem isi_bl_bool {b : Bool} {f : Bool → Prop} : isiF (.bl b) "bool" H f = f true := by
  have e : kitB "bool" "bool" = some true := by decide +kernel
  simp only [isiF, tyS, e]
theorem isi_bl_str {b : Bool} {f : Bool → Prop} : isiF (.bl b) "str" H f = f false := by
  have e : kitB "bool" "str" = some false := by decide +kernel
  simp only [isiF, tyS, e]
theorem isi_bl_tuple {b : Bool} {f : Bool → Prop} : isiF (.bl b) "tuple" H f = f false := by
  have e : kitB "bool" "tuple" = some false := by decide +kernel
  simp only [isiF, tyS, e]
theorem isi_bl_list {b : Bool} {f : Bool → Prop} : isiF (.bl b) "list" H f = f false := by
  have e : kitB "bool" "list" = some false := by decide +kernel
  simp only [isiF, tyS, e]
theorem isi_bl_dict {b : Bool} {f : Bool → Prop} : isiF (.bl b) "dict" H f = f false := by
  have e : kitB "bool" "dict" = some false := by decide +kernel
  simp only [isiF, tyS, e]
theorem isi_int_int {i : Int} {f : Bool → Prop} : isiF (.int i) "int" H f = f true := by
  have e : kitB "int" "int" = some true := by decide +kernel
  simp only [isiF, tyS, e]
theorem isi_int_bool {i : Int} {f : Bool → Prop} : isiF (.int i) "bool" H f = f false := by
  have e : kitB "int" "bool" = some false := by decide +kernel
  simp only [isiF, tyS, e]
theorem isi_int_str {i : Int} {f : Bool → Prop} : isiF (.int i) "str" H f = f false := by
  have e : kitB "int" "str" = some false := by decide +kernel
  simp only [isiF, tyS, e]
theorem isi_int_tuple {i : Int} {f : Bool → Prop} : isiF (.int i) "tuple" H f = f false := by
  have e : kitB "int" "tuple" = some false := by decide +kernel
  simp only [isiF, tyS, e]
theorem isi_int_list {i : Int} {f : Bool → Prop} : isiF (.int i) "list" H f = f false := by
  have e : kitB "int" "list" = some false := by decide +kernel
  simp only [isiF, tyS, e]
theorem isi_int_dict {i : Int} {f : Bool → Prop} : isiF (.int i) "dict" H f = f false := by
  have e : kitB "int" "dict" = some false := by decide +kernel
  simp only [isiF, tyS, e]
theorem isi_str_int {z : Str} {f : Bool → Prop} : isiF (.str z) "int" H f = f false := by
  have e : kitB "str" "int" = some false := by decide +kernel
  simp only [isiF, tyS, e]
theorem isi_str_bool {z : Str} {f : Bool → Prop} : isiF (.str z) "bool" H f = f false := by
  have e : kitB "str" "bool" = some false := by decide +kernel
  simp only [isiF, tyS, e]
theorem isi_str_str {z : Str} {f : Bool → Prop} : isiF (.str z) "str" H f = f true := by
  have e : kitB "str" "str" = some true := by decide +kernel
  simp only [isiF, tyS, e]
theorem isi_str_tuple {z : Str} {f : Bool → Prop} : isiF (.str z) "tuple" H f = f false := by
  have e : kitB "str" "tuple" = some false := by decide +kernel
  simp only [isiF, tyS, e]
theorem isi_str_list {z : Str} {f : Bool → Prop} : isiF (.str z) "list" H f = f false := by
  have e : kitB "str" "list" = some false := by decide +kernel
  simp only [isiF, tyS, e]
theorem isi_str_dict {z : Str} {f : Bool → Prop} : isiF (.str z) "dict" H f = f false := by
  have e : kitB "str" "dict" = some false := by decide +kernel
  simp only [isiF, tyS, e]
theorem isi_lst_int {a : Addr} {xs : List V} (h : H a = some (.lst xs)) {f : Bool → Prop} : isiF (.ref a) "int" H f = f false := by
  have e : kitB "list" "int" = some false := by decide +kernel
  simp only [isiF, tyS, h, e]
theorem isi_lst_bool {a : Addr} {xs : List V} (h : H a = some (.lst xs)) {f : Bool → Prop} : isiF (.ref a) "bool" H f = f false := by
  have e : kitB "list" "bool" = some false := by decide +kernel
  simp only [isiF, tyS, h, e]
theorem isi_lst_str {a : Addr} {xs : List V} (h : H a = some (.lst xs)) {f : Bool → Prop} : isiF (.ref a) "str" H f = f false := by
  have e : kitB "list" "str" = some false := by decide +kernel
  simp only [isiF, tyS, h, e]
theorem isi_lst_tuple {a : Addr} {xs : List V} (h : H a = some (.lst xs)) {f : Bool → Prop} : isiF (.ref a) "tuple" H f = f false := by
  have e : kitB "list" "tuple" = some false := by decide +kernel
  simp only [isiF, tyS, h, e]
theorem isi_lst_list {a : Addr} {xs : List V} (h : H a = some (.lst xs)) {f : Bool → Prop} : isiF (.ref a) "list" H f = f true := by
  have e : kitB "list" "list" = some true := by decide +kernel
  simp only [isiF, tyS, h, e]
theorem isi_lst_dict {a : Addr} {xs : List V} (h : H a = some (.lst xs)) {f : Bool → Prop} : isiF (.ref a) "dict" H f = f false := by
  have e : kitB "list" "dict" = some false := by decide +kernel
  simp only [isiF, tyS, h, e]
theorem isi_tup_int {a : Addr} {xs : List V} (h : H a = some (.tup xs)) {f : Bool → Prop} : isiF (.ref a) "int" H f = f false := by
  have e : kitB "tuple" "int" = some false := by decide +kernel
  simp only [isiF, tyS, h, e]
theorem isi_tup_bool {a : Addr} {xs : List V} (h : H a = some (.tup xs)) {f : Bool → Prop} : isiF (.ref a) "bool" H f = f false := by
  have e : kitB "tuple" "bool" = some false := by decide +kernel
  simp only [isiF, tyS, h, e]
theorem isi_tup_str {a : Addr} {xs : List V} (h : H a = some (.tup xs)) {f : Bool → Prop} : isiF (.ref a) "str" H f = f false := by
  have e : kitB "tuple" "str" = some false := by decide +kernel
  simp only [isiF, tyS, h, e]
theorem isi_tup_tuple {a : Addr} {xs : List V} (h : H a = some (.tup xs)) {f : Bool → Prop} : isiF (.ref a) "tuple" H f = f true := by
  have e : kitB "tuple" "tuple" = some true := by decide +kernel
  simp only [isiF, tyS, h, e]
theorem isi_tup_list {a : Addr} {xs : List V} (h : H a = some (.tup xs)) {f : Bool → Prop} : isiF (.ref a) "list" H f = f false := by
  have e : kitB "tuple" "list" = some false := by decide +kernel
  simp only [isiF, tyS, h, e]
theorem isi_tup_dict {a : Addr} {xs : List V} (h : H a = some (.tup xs)) {f : Bool → Prop} : isiF (.ref a) "dict" H f = f false := by
  have e : kitB "tuple" "dict" = some false := by decide +kernel
  simp only [isiF, tyS, h, e]
theorem isi_dK_int {a : Addr} {kvs : List (Key × V)} (h : H a = some (.dK kvs)) {f : Bool → Prop} : isiF (.ref a) "int" H f = f false := by
  have e : kitB "dict" "int" = some false := by decide +kernel
  simp only [isiF, tyS, h, e]
theorem isi_dK_bool {a : Addr} {kvs : List (Key × V)} (h : H a = some (.dK kvs)) {f : Bool → Prop} : isiF (.ref a) "bool" H f = f false := by
  have e : kitB "dict" "bool" = some false := by decide +kernel
  simp only [isiF, tyS, h, e]
theorem isi_dK_str {a : Addr} {kvs : List (Key × V)} (h : H a = some (.dK kvs)) {f : Bool → Prop} : isiF (.ref a) "str" H f = f false := by
  have e : kitB "dict" "str" = some false := by decide +kernel
  simp only [isiF, tyS, h, e]
theorem isi_dK_tuple {a : Addr} {kvs : List (Key × V)} (h : H a = some (.dK kvs)) {f : Bool → Prop} : isiF (.ref a) "tuple" H f = f false := by
  have e : kitB "dict" "tuple" = some false := by decide +kernel
  simp only [isiF, tyS, h, e]
theorem isi_dK_list {a : Addr} {kvs : List (Key × V)} (h : H a = some (.dK kvs)) {f : Bool → Prop} : isiF (.ref a) "list" H f = f false := by
  have e : kitB "dict" "list" = some false := by decide +kernel
  simp only [isiF, tyS, h, e]
theorem isi_dK_dict {a : Addr} {kvs : List (Key × V)} (h : H a = some (.dK kvs)) {f : Bool → Prop} : isiF (.ref a) "dict" H f = f true := by
  have e : kitB "dict" "dict" = some true := by decide +kernel
  simp only [isiF, tyS, h, e]

/-! loops -/
def forGo (J : It) (g : TG) (tb : TS) (D : Ends) (σ : L2.St) (H : Hp) : Prop := ∃ W : Nat → Nat → L2.St → Hp → Prop, (∃ m, W 0 m σ H) ∧ ∀ i m σ H, W i m σ H →
  (J.stop i H ∧ D.nx σ H) ∨ (J.go i H ∧ ∃ N : L2.St → Hp → Prop, (∀ σ' H', N σ' H' → ∃ m', m' < m ∧ W (i + 1) m' σ' H') ∧ ∀ x H', J.yld i H x H' → g x σ H' fun σ2 H2 => tb { D with nx := N, ct := N, bk := D.nx } σ2 H2)
theorem rd_for {wi : TI} {g : TG} {tb : TS} : tFor wi g tb D σ H = wi σ H fun J H1 => forGo J g tb D σ H1 := rfl
def isR1 (vs : List V) (f : Int → Prop) : Prop := match vs with | [.int j] => f j | _ => False
theorem rd_isR1 {j : Int} {f : Int → Prop} : isR1 [.int j] f = f j := rfl
theorem rd_rng1 {tr : TA} {R : It → Hp → Prop} : iRng1 tr σ H R = tr σ H fun vs H1 => isR1 vs fun j => (-(2 ^ 62) ≤ j ∧ j < 2 ^ 62) ∧ R (Itr 0 j.toNat) H1 := by
  unfold iRng1
  apply congrArg
  funext vs H1
  apply propext
  constructor
  · rintro ⟨j, rfl, h1, h2, r⟩; exact ⟨⟨h1, h2⟩, r⟩
  · intro h
    unfold isR1 at h
    split at h
    · rename_i j
      exact ⟨j, rfl, h.1.1, h.1.2, h.2⟩
    · exact h.elim
def isR2 (vs : List V) (f : Int → Int → Prop) : Prop := match vs with | [.int i, .int j] => f i j | _ => False
theorem rd_isR2 {i j : Int} {f : Int → Int → Prop} : isR2 [.int i, .int j] f = f i j := rfl
theorem rd_rng2 {tr : TA} {R : It → Hp → Prop} : iRng2 tr σ H R = tr σ H fun vs H1 => isR2 vs fun i j => (-(2 ^ 62) ≤ i ∧ i < 2 ^ 62 ∧ -(2 ^ 62) ≤ j ∧ j < 2 ^ 62) ∧ R (Itr i (j - i).toNat) H1 := by
  unfold iRng2
  apply congrArg
  funext vs H1
  apply propext
  constructor
  · rintro ⟨i, j, rfl, h1, r⟩; exact ⟨h1, r⟩
  · intro h
    unfold isR2 at h
    split at h
    · rename_i i j
      exact ⟨i, j, rfl, h.1, h.2⟩
    · exact h.elim
def isRef (x : V) (f : Addr → Prop) : Prop := match x with | .ref a => f a | _ => False
theorem rd_isRef {a : Addr} {f : Addr → Prop} : isRef (.ref a) f = f a := rfl
theorem isRef_eq {x : V} {f : Addr → Prop} : (∃ a, x = .ref a ∧ f a) = isRef x f := by
  apply propext
  constructor
  · rintro ⟨a, rfl, h⟩; exact h
  · intro h
    cases x with
    | ref a => exact ⟨a, rfl, h⟩
    | _ => exact h.elim
theorem rd_iList {R : It → Hp → Prop} : iList K te σ H R = te σ H fun x H1 => isRef x fun a => (∃ xs, SqL K H1 a xs) ∧ R (Itl K a) H1 := by
  unfold iList
  simp only [isRef_eq]
theorem rd_iTup {R : It → Hp → Prop} : iTup K te σ H R = te σ H fun x H1 => isRef x fun a => (∃ xs, SqT K H1 a xs) ∧ R (Itt K a) H1 := by
  unfold iTup
  simp only [isRef_eq]
def isStr (x : V) (f : Str → Prop) : Prop := match x with | .str a => f a | _ => False
theorem rd_isStr {a : Str} {f : Str → Prop} : isStr (.str a) f = f a := rfl
theorem isStr_eq {x : V} {f : Str → Prop} : (∃ a, x = .str a ∧ f a) = isStr x f := by
  apply propext
  constructor
  · rintro ⟨a, rfl, h⟩; exact h
  · intro h
    cases x with
    | str a => exact ⟨a, rfl, h⟩
    | _ => exact h.elim
theorem rd_iStr {R : It → Hp → Prop} : iStr te σ H R = te σ H fun x H1 => isStr x fun z => R (Its z) H1 := by
  unfold iStr
  simp only [isStr_eq]
theorem go_it {J : It} {n : Nat} {G : Hp → Prop} {Y : Nat → Hp → V → Hp → Prop} (w : L2.Walk J n G Y) {g : TG} {tb : TS} (Pv : Nat → L2.St → Hp → Prop) (h0 : Pv 0 σ H) (hG : ∀ i σ H, i ≤ n → Pv i σ H → G H)
    (hs : ∀ (N : L2.St → Hp → Prop) i x σ H H', i < n → Pv i σ H → Y i H x H' → (∀ σ' H', Pv (i + 1) σ' H' → N σ' H') → g x σ H' fun σ2 H2 => tb { D with nx := N, ct := N, bk := D.nx } σ2 H2) (hd : ∀ σ H, Pv n σ H → D.nx σ H) : forGo J g tb D σ H :=
  L2.for_it w Pv h0 hG (fun i x σ H H' h1 h2 h3 => hs _ i x σ H H' h1 h2 h3 fun _ _ z => z) hd
theorem go_range {lo : Int} {n : Nat} {g : TG} {tb : TS} (Pv : Nat → L2.St → Hp → Prop) (h0 : Pv 0 σ H)
    (hs : ∀ (N : L2.St → Hp → Prop) (i : Nat) σ H, i < n → Pv i σ H → (∀ σ' H', Pv (i + 1) σ' H' → N σ' H') → g (.int (lo + i)) σ H fun σ2 H2 => tb { D with nx := N, ct := N, bk := D.nx } σ2 H2) (hd : ∀ σ H, Pv n σ H → D.nx σ H) : forGo (Itr lo n) g tb D σ H :=
  for_range Pv h0 (fun i σ H h1 h2 => hs _ i σ H h1 h2 fun _ _ z => z) hd
theorem go_list {a : Addr} {xs : List V} {g : TG} {tb : TS} (Pv : Nat → L2.St → Hp → Prop) (h0 : Pv 0 σ H) (hl : ∀ i σ H, i ≤ xs.length → Pv i σ H → SqL K H a xs)
    (hs : ∀ (N : L2.St → Hp → Prop) i x σ H, xs[i]? = some x → Pv i σ H → (∀ σ' H', Pv (i + 1) σ' H' → N σ' H') → g x σ H fun σ2 H2 => tb { D with nx := N, ct := N, bk := D.nx } σ2 H2) (hd : ∀ σ H, Pv xs.length σ H → D.nx σ H) : forGo (Itl K a) g tb D σ H :=
  for_list Pv h0 hl (fun i x σ H h1 h2 => hs _ i x σ H h1 h2 fun _ _ z => z) hd
theorem go_tup {a : Addr} {xs : List V} {g : TG} {tb : TS} (Pv : Nat → L2.St → Hp → Prop) (h0 : Pv 0 σ H) (hl : ∀ i σ H, i ≤ xs.length → Pv i σ H → SqT K H a xs)
    (hs : ∀ (N : L2.St → Hp → Prop) i x σ H, xs[i]? = some x → Pv i σ H → (∀ σ' H', Pv (i + 1) σ' H' → N σ' H') → g x σ H fun σ2 H2 => tb { D with nx := N, ct := N, bk := D.nx } σ2 H2) (hd : ∀ σ H, Pv xs.length σ H → D.nx σ H) : forGo (Itt K a) g tb D σ H :=
  for_tup Pv h0 hl (fun i x σ H h1 h2 => hs _ i x σ H h1 h2 fun _ _ z => z) hd
/-! sequences -/
/-- p is new at H -/
def Fresh (H : Hp) (p : Addr) : Prop := H p = none
theorem Fresh.ne {H : Hp} {p a : Addr} {o : HO} (f : Fresh H p) (h : H a = some o) : a ≠ p := ne_of_none h f
theorem rd_lst {tr : TA} : tLst tr σ H Q = tr σ H fun xs H1 => xs.length ≤ sizeLine ∧ ∀ p, Fresh H1 p → Q (.ref p) (upd H1 p (.lst xs)) := rfl
theorem rd_tup {tr : TA} : tTup tr σ H Q = tr σ H fun xs H1 => xs.length ≤ sizeLine ∧ ∀ p, Fresh H1 p → Q (.ref p) (upd H1 p (.tup xs)) := rfl
theorem rd_cat {l b : Addr} : rCat (.ref l) (.ref b) H Q = ∃ xs zs, H l = some (.lst xs) ∧ H b = some (.lst zs) ∧ xs.length + zs.length ≤ sizeLine ∧ ∀ p, Fresh H p → Q (.ref p) (upd H p (.lst (xs ++ zs))) := by
  unfold rCat
  apply propext
  constructor
  · rintro ⟨l', b', xs, zs, e1, e2, q⟩; cases e1; cases e2; exact ⟨xs, zs, q⟩
  · rintro ⟨xs, zs, q⟩; exact ⟨l, b, xs, zs, rfl, rfl, q⟩
theorem rd_ixL {p : Addr} {i : Int} : rIxL K (.ref p) (.int i) H Q = ∃ xs v, SqL K H p xs ∧ atI xs i = some v ∧ Q v H := by
  unfold rIxL
  apply propext
  constructor
  · rintro ⟨p', xs, i', v, e1, e2, q⟩; cases e1; cases e2; exact ⟨xs, v, q⟩
  · rintro ⟨xs, v, q⟩; exact ⟨p, xs, i, v, rfl, rfl, q⟩
theorem rd_sl {r : V → Option Int → Option Int → Hp → VK → Prop} {tl th : TO} : tSl r te tl th σ H Q = te σ H fun x H1 => tl σ H1 fun l H2 => th σ H2 fun u H3 => r x l u H3 Q := rfl
theorem rd_noPart {R : Option Int → Hp → Prop} : tNoPart σ H R = R none H := rfl
def isInt (x : V) (f : Int → Prop) : Prop := match x with | .int a => f a | _ => False
theorem rd_isInt {a : Int} {f : Int → Prop} : isInt (.int a) f = f a := rfl
theorem isInt_eq {x : V} {f : Int → Prop} : (∃ a, x = .int a ∧ f a) = isInt x f := by
  apply propext
  constructor
  · rintro ⟨a, rfl, h⟩; exact h
  · intro h
    cases x with
    | int a => exact ⟨a, rfl, h⟩
    | _ => exact h.elim
theorem rd_part {R : Option Int → Hp → Prop} : tPart te σ H R = te σ H fun x H1 => isInt x fun i => R (some i) H1 := by
  unfold tPart
  simp only [isInt_eq]
theorem rd_slL {a : Addr} {lo hi : Option Int} : rSlL K (.ref a) lo hi H Q = ∃ xs, SqL K H a xs ∧ ∀ p, Fresh H p → Q (.ref p) (upd H p (.lst (cutV xs lo hi))) := by
  unfold rSlL
  apply propext
  constructor
  · rintro ⟨a', xs, e1, q⟩; cases e1; exact ⟨xs, q⟩
  · rintro ⟨xs, q⟩; exact ⟨a, xs, rfl, q⟩
def rLen (K : PySem.W.Frag) : List V → Hp → VK → Prop := fun xs H Q => ∃ p ys, xs = [.ref p] ∧ (SqL K H p ys ∨ SqT K H p ys) ∧ Q (.int ys.length) H
theorem call_lenq {X : Cx} : CallR X (.builtin "len") (rLen X.K) := call_len_seq
theorem rd_len {p : Addr} : rLen K [.ref p] H Q = ∃ ys, (SqL K H p ys ∨ SqT K H p ys) ∧ Q (.int ys.length) H := by
  unfold rLen
  apply propext
  constructor
  · rintro ⟨p', ys, e, q⟩; cases e; exact ⟨ys, q⟩
  · rintro ⟨ys, q⟩; exact ⟨p, ys, rfl, q⟩
/-! promises -/
def spI1 (Pre : Int → Prop) (f : Int → V) : Sp := fun vs H Q _ => ∃ a, vs = [.int a] ∧ Pre a ∧ Q (f a) H
def spI2 (Pre : Int → Int → Prop) (f : Int → Int → V) : Sp := fun vs H Q _ => ∃ a b, vs = [.int a, .int b] ∧ Pre a b ∧ Q (f a b) H
def spI3 (Pre : Int → Int → Int → Prop) (f : Int → Int → Int → V) : Sp := fun vs H Q _ => ∃ a b c, vs = [.int a, .int b, .int c] ∧ Pre a b c ∧ Q (f a b c) H
def spI4 (Pre : Int → Int → Int → Int → Prop) (f : Int → Int → Int → Int → V) : Sp := fun vs H Q _ => ∃ a b c d, vs = [.int a, .int b, .int c, .int d] ∧ Pre a b c d ∧ Q (f a b c d) H
variable {E : XK}
theorem rd_spI1 {Pre : Int → Prop} {f : Int → V} {a : Int} : spI1 Pre f [.int a] H Q E = (Pre a ∧ Q (f a) H) := by
  unfold spI1
  apply propext
  constructor
  · rintro ⟨a', e, q⟩; cases e; exact q
  · intro q; exact ⟨a, rfl, q⟩
theorem rd_spI2 {Pre : Int → Int → Prop} {f : Int → Int → V} {a b : Int} : spI2 Pre f [.int a, .int b] H Q E = (Pre a b ∧ Q (f a b) H) := by
  unfold spI2
  apply propext
  constructor
  · rintro ⟨a', b', e, q⟩; cases e; exact q
  · intro q; exact ⟨a, b, rfl, q⟩
theorem rd_spI3 {Pre : Int → Int → Int → Prop} {f : Int → Int → Int → V} {a b c : Int} : spI3 Pre f [.int a, .int b, .int c] H Q E = (Pre a b c ∧ Q (f a b c) H) := by
  unfold spI3
  apply propext
  constructor
  · rintro ⟨a', b', c', e, q⟩; cases e; exact q
  · intro q; exact ⟨a, b, c, rfl, q⟩
theorem rd_spI4 {Pre : Int → Int → Int → Int → Prop} {f : Int → Int → Int → Int → V} {a b c d : Int} : spI4 Pre f [.int a, .int b, .int c, .int d] H Q E = (Pre a b c d ∧ Q (f a b c d) H) := by
  unfold spI4
  apply propext
  constructor
  · rintro ⟨a', b', c', d', e, q⟩; cases e; exact q
  · intro q; exact ⟨a, b, c, d, rfl, q⟩
/-- a scalar: whether it is an int and no truth -/
def wholeV : V → Bool
  | .int _ => true
  | _ => false
def scalV : V → Bool
  | .int _ => true
  | .bl _ => true
  | .non => true
  | .str _ => true
  | _ => false
/-- a value whose kind is known -/
def thing (H : Hp) : V → Prop
  | .int _ => True
  | .bl _ => True
  | .non => True
  | .str _ => True
  | .ref a => (∃ xs, H a = some (.tup xs)) ∨ (∃ xs, H a = some (.lst xs)) ∨ ∃ xs, H a = some (.dK xs)
  | _ => False
def spWhole : Sp := fun vs H Q _ => ∃ x, vs = [x] ∧ thing H x ∧ Q (.bl (wholeV x)) H
theorem rd_whole {i : Int} : spWhole [.int i] H Q E = Q (.bl true) H := by
  unfold spWhole
  apply propext
  constructor
  · rintro ⟨x, e, _, q⟩; cases e; exact q
  · intro q; exact ⟨_, rfl, trivial, q⟩
/-- the law's own: a list of at most 63 ints, True -/
def spLaw (K : PySem.W.Frag) : Sp := fun vs H Q _ => ∃ (a : Addr) (ns : List Int), vs = [.ref a] ∧ SqL K H a (ns.map V.int) ∧ ns.length ≤ 63 ∧ ∀ H', Q (.bl true) H'
end
theorem len_spI1 {Pre : Int → Prop} {f : Int → V} {vs H Q E} (h : spI1 Pre f vs H Q E) : vs.length = 1 := by obtain ⟨_, rfl, _⟩ := h; rfl
theorem len_spI2 {Pre : Int → Int → Prop} {f : Int → Int → V} {vs H Q E} (h : spI2 Pre f vs H Q E) : vs.length = 2 := by obtain ⟨_, _, rfl, _⟩ := h; rfl
theorem len_spI3 {Pre : Int → Int → Int → Prop} {f : Int → Int → Int → V} {vs H Q E} (h : spI3 Pre f vs H Q E) : vs.length = 3 := by obtain ⟨_, _, _, rfl, _⟩ := h; rfl
theorem len_spI4 {Pre : Int → Int → Int → Int → Prop} {f : Int → Int → Int → Int → V} {vs H Q E} (h : spI4 Pre f vs H Q E) : vs.length = 4 := by obtain ⟨_, _, _, _, rfl, _⟩ := h; rfl
theorem len_whole {vs H Q E} (h : spWhole vs H Q E) : vs.length = 1 := by obtain ⟨_, rfl, _⟩ := h; rfl
theorem len_law {K : PySem.W.Frag} {vs H Q E} (h : spLaw K vs H Q E) : vs.length = 1 := by obtain ⟨_, _, rfl, _⟩ := h; rfl
theorem st_nil : L2.start [] [] = [] := rfl
theorem st_arg {x : Str} {N : List Str} {v : V} {vs : List V} : L2.start (x :: N) (v :: vs) = some v :: L2.start N vs := by
  unfold L2.start
  simp
theorem st_none {x : Str} {N : List Str} : L2.start (x :: N) [] = none :: L2.start N [] := by
  unfold L2.start
  simp [List.replicate_succ]
theorem cxK {CX : CXT} {P : Program} {w : World} {K : PySem.W.Frag} {mg : Str → Option Value} {base : Heap} {N : List Str} {qual : Str} {scope : Scope} {f : Addr} {cd : Value} {A : Around} {outer : List Env} {s : Shared} {H : Hp} {E : XK} :
    (cxOf CX P w K mg base N qual scope f cd A outer s H E).K = K := rfl
/-- a new object leaves what stood before -/
theorem Same_upd {H0 H : Hp} {p : Addr} {o : HO} (s : Same H0 H) (f : Fresh H p) : Same H0 (upd H p o) := fun b u e => by
  have e' := s b u e
  rw [upd_ne (f.ne e')]
  exact e'
theorem Same_fresh {H0 H : Hp} {p : Addr} (s : Same H0 H) (f : Fresh H p) : Fresh H0 p := s.free f
theorem Same_upd0 {H0 H : Hp} {p : Addr} {o : HO} (s : Same H0 H) (f : Fresh H0 p) : Same H0 (upd H p o) := fun b u e => by
  rw [upd_ne (f.ne e)]
  exact s b u e
/-- the items of a list of ints -/
theorem ints_at {ns : List Int} {i : Nat} {y : V} (h : (ns.map V.int)[i]? = some y) : ∃ n, ns[i]? = some n ∧ y = .int n := by
  rw [List.getElem?_map] at h
  cases e : ns[i]? with
  | none => rw [e] at h; cases h
  | some n => rw [e] at h; exact ⟨n, rfl, (Option.some.inj h).symm⟩
theorem cut_len (xs : List V) (lo hi : Option Int) : (cutV xs lo hi).length ≤ xs.length := cutV_length xs lo hi
theorem cut_map (ns : List Int) (lo hi : Option Int) : ∃ ms : List Int, cutV (ns.map V.int) lo hi = ms.map V.int ∧ ms.length ≤ ns.length := by
  unfold cutV
  rw [← List.map_drop, ← List.map_take]
  exact ⟨_, rfl, by rw [List.length_take, List.length_drop]; omega⟩
/-- the item of a list of ints at a place in bounds -/
def getI (xs : List Int) (i : Int) : Int := xs.getD i.toNat 0
theorem at_int {xs : List Int} {i : Int} (h0 : 0 ≤ i) (h1 : i < xs.length) : atI (xs.map V.int) i = some (.int (getI xs i)) := by
  obtain ⟨j, rfl⟩ : ∃ j : Nat, i = (j : Int) := ⟨i.toNat, by omega⟩
  have hj : j < xs.length := by omega
  refine atI_nat ?_
  rw [List.getElem?_map, List.getElem?_eq_getElem hj]
  show some (V.int xs[j]) = some (V.int (xs.getD j 0))
  rw [List.getD_eq_getElem?_getD, List.getElem?_eq_getElem hj]
  rfl
theorem iteN {c A B : Prop} [Decidable c] (h : ¬ c) (q : B) : if c then A else B := by rw [if_neg h]; exact q
theorem iteP {c A B : Prop} [Decidable c] (h : c) (q : A) : if c then A else B := by rw [if_pos h]; exact q
theorem tyL {K : PySem.W.Frag} {H : Hp} {l : Addr} {xs : List V} (h : H l = some (.lst xs)) : tyV K "list" (.ref l) H := Or.inl ⟨rfl, _, SqL.of h⟩
theorem rd_BM {K : PySem.W.Frag} {T : String} {r : V → List V → Hp → VK → Prop} {to : TE} {t : TA} {σ : L2.St} {H : Hp} {Q : VK} : tBM K T r to t σ H Q = to σ H fun x H1 => tyV K T x H1 ∧ t σ H1 fun xs H2 => r x xs H2 Q := rfl
theorem rd_BM0 {K : PySem.W.Frag} {T : String} {r : V → List V → Hp → VK → Prop} {to : TE} {σ : L2.St} {H : Hp} {Q : VK} : tBM0 K T r to σ H Q = to σ H fun x H1 => tyV K T x H1 ∧ r x [] H1 Q := rfl
theorem rd_append {l : Addr} {y : V} {H : Hp} {Q : VK} : rAppend (.ref l) [y] H Q = ∃ xs, H l = some (.lst xs) ∧ xs.length < sizeLine ∧ Q .non (upd H l (.lst (xs ++ [y]))) := by
  unfold rAppend
  apply propext
  constructor
  · rintro ⟨l', xs, y', e1, e2, q⟩; cases e1; cases e2; exact ⟨xs, q⟩
  · rintro ⟨xs, q⟩; exact ⟨l, xs, y, rfl, rfl, q⟩
theorem rd_rep {l : Addr} {k : Int} {H : Hp} {Q : VK} : rRep (.ref l) (.int k) H Q = ∃ xs, H l = some (.lst xs) ∧ -(2 ^ 63) ≤ k ∧ k < 2 ^ 63 ∧ xs.length * k.toNat ≤ sizeLine ∧ ∀ p, Fresh H p → Q (.ref p) (upd H p (.lst (List.replicate k.toNat xs).flatten)) := by
  unfold rRep
  apply propext
  constructor
  · rintro ⟨l', k', xs, e1, e2, q⟩; cases e1; cases e2; exact ⟨xs, q⟩
  · rintro ⟨xs, q⟩; exact ⟨l, k, xs, rfl, rfl, q⟩
theorem rd_gSub {to ti : TE} {t : TSet} {v : V} {σ : L2.St} {H : Hp} {R : L2.St → Hp → Prop} : gSub to ti t v σ H R = to σ H fun o H1 => ti σ H1 fun i H2 => t o i v H2 fun H3 => R σ H3 := rfl
theorem rd_setL {p : Addr} {k : Int} {v : V} {H : Hp} {R : Hp → Prop} : rSetL (.ref p) (.int k) v H R = ∃ xs j, H p = some (.lst xs) ∧ ixN xs.length k = some j ∧ R (upd H p (.lst (xs.set j v))) := by
  unfold rSetL
  apply propext
  constructor
  · rintro ⟨p', xs, k', j, e1, e2, q⟩; cases e1; cases e2; exact ⟨xs, j, q⟩
  · rintro ⟨xs, j, q⟩; exact ⟨p, xs, k, j, rfl, rfl, q⟩
theorem ixN_nat {n : Nat} {k : Int} (h0 : 0 ≤ k) (h1 : k < n) : ixN n k = some k.toNat := by
  unfold ixN
  rw [if_pos h0, if_pos (by omega)]
/-! lists of ints compared -/
theorem DpAll_ints {K : PySem.W.Frag} {H : Hp} : ∀ xs : List Int, DpAll K H (xs.map V.int) (xs.map PyData.int)
  | [] => .nil
  | x :: xs => .cons (.int x) (DpAll_ints xs)
theorem eqvAll_ints : ∀ xs ys : List Int, PyData.eqvAll (xs.map PyData.int) (ys.map PyData.int) = decide (xs = ys)
  | [], [] => by simp [PyData.eqvAll]
  | [], _ :: _ => by simp [PyData.eqvAll]
  | _ :: _, [] => by simp [PyData.eqvAll]
  | x :: xs, y :: ys => by
    show (PyData.eqv (.int x) (.int y) && PyData.eqvAll (xs.map PyData.int) (ys.map PyData.int)) = _
    rw [eqvAll_ints xs ys, PyData.eqv]
    by_cases h : x = y
    · subst h
      by_cases h2 : xs = ys
      · simp [h2]
      · simp [h2]
    · simp [h]
theorem canLay_ints : ∀ xs : List Int, PyData.canLayAll0 (xs.map PyData.int) = true
  | [] => by simp [PyData.canLayAll0]
  | x :: xs => by
    show (PyData.canLay0 (.int x) && PyData.canLayAll0 (xs.map PyData.int)) = true
    rw [canLay_ints xs, PyData.canLay0]
    rfl
theorem depth_ints : ∀ xs : List Int, PyData.depthAll (xs.map PyData.int) = 0
  | [] => by simp [PyData.depthAll]
  | x :: xs => by
    show max (PyData.depth (.int x)) (PyData.depthAll (xs.map PyData.int)) = 0
    rw [depth_ints xs, PyData.depth]
    rfl
theorem shaped_ints (xs : List Int) : SeqAt.shaped (.list (xs.map PyData.int)) = true := by
  unfold SeqAt.shaped
  rw [PyData.canLay0, canLay_ints, PyData.depth, depth_ints]
  decide
theorem eq_ints {K : PySem.W.Frag} {H : Hp} {a b : Addr} {xs ys : List Int} {Q : VK} (ha : SqL K H a (xs.map V.int)) (hb : SqL K H b (ys.map V.int)) (q : Q (.bl (decide (xs = ys))) H) : rEqD K (.ref a) (.ref b) H Q :=
  ⟨.list (xs.map PyData.int), .list (ys.map PyData.int), .lst ha (DpAll_ints xs), .lst hb (DpAll_ints ys), shaped_ints xs, shaped_ints ys, by rw [PyData.eqv, eqvAll_ints]; exact q⟩
/-- a cell of the script -/
def spCell (K : PySem.W.Frag) : Sp := fun vs H Q _ => ∃ (a : Addr) (ns : List Int) (i : Int), vs = [.ref a, .int i] ∧ SqL K H a (ns.map V.int) ∧ 0 ≤ i ∧ Q (.int (getI ns i)) H
theorem rd_spCell {K : PySem.W.Frag} {a : Addr} {i : Int} {H : Hp} {Q : VK} {E : XK} : spCell K [.ref a, .int i] H Q E = ∃ ns : List Int, SqL K H a (ns.map V.int) ∧ 0 ≤ i ∧ Q (.int (getI ns i)) H := by
  unfold spCell
  apply propext
  constructor
  · rintro ⟨a', ns, i', e, q⟩; cases e; exact ⟨ns, q⟩
  · rintro ⟨ns, q⟩; exact ⟨a, ns, i, rfl, q⟩
theorem len_cell {K : PySem.W.Frag} {vs H Q E} (h : spCell K vs H Q E) : vs.length = 2 := by obtain ⟨_, _, _, rfl, _⟩ := h; rfl
/-- a new list of ints by two ints -/
def spNew2 (Pre : Int → Int → Prop) (f : Int → Int → List Int) : Sp := fun vs H Q _ => ∃ m s, vs = [.int m, .int s] ∧ Pre m s ∧ ∀ p H', Same H H' → Fresh H p → H' p = some (.lst ((f m s).map V.int)) → Q (.ref p) H'
theorem rd_spNew2 {Pre : Int → Int → Prop} {f : Int → Int → List Int} {m s : Int} {H : Hp} {Q : VK} {E : XK} : spNew2 Pre f [.int m, .int s] H Q E = (Pre m s ∧ ∀ p H', Same H H' → Fresh H p → H' p = some (.lst ((f m s).map V.int)) → Q (.ref p) H') := by
  unfold spNew2
  apply propext
  constructor
  · rintro ⟨m', s', e, q⟩; cases e; exact q
  · intro q; exact ⟨m, s, rfl, q⟩
theorem len_new2 {Pre : Int → Int → Prop} {f : Int → Int → List Int} {vs H Q E} (h : spNew2 Pre f vs H Q E) : vs.length = 2 := by obtain ⟨_, _, rfl, _⟩ := h; rfl
theorem both {A B : Prop} (a : A) (b : B) : A ∧ B := ⟨a, b⟩
theorem iteB {c A B : Prop} [Decidable c] (h1 : c → A) (h2 : ¬ c → B) : if c then A else B := ite2 h1 h2
/-- // by a divisor of at most 4000 bits -/
theorem divB {i j : Int} (h : 0 < j) (hb : j < 2 ^ 200) : CDivW i j := wide_div (b := 201) h (by
  have e : (2 : Int) ^ 200 = ((2 ^ 200 : Nat) : Int) := by decide +kernel
  have e2 : (2 : Nat) ^ 200 ≤ 2 ^ 201 := by decide +kernel
  omega) (by decide) (by decide)
/-- any int -/
def spAny1 (Post : Int → V → Prop) : Sp := fun vs H Q _ => ∃ a, vs = [.int a] ∧ ∀ v, Post a v → Q v H
theorem rd_spAny1 {Post : Int → V → Prop} {a : Int} {H : Hp} {Q : VK} {E : XK} : spAny1 Post [.int a] H Q E = ∀ v, Post a v → Q v H := by
  unfold spAny1
  apply propext
  constructor
  · rintro ⟨a', e, q⟩; cases e; exact q
  · intro q; exact ⟨a, rfl, q⟩
theorem len_any1 {Post : Int → V → Prop} {vs H Q E} (h : spAny1 Post vs H Q E) : vs.length = 1 := by obtain ⟨_, rfl, _⟩ := h; rfl
theorem go_while {c : TT} {tb : TS} {D : Ends} {σ : L2.St} {H : Hp} (Pv : L2.St → Hp → Prop) (μ : L2.St → Hp → Nat) (h0 : Pv σ H)
    (hs : ∀ (B : Hp → Prop) σ H, Pv σ H → (∀ H1, (∀ N : L2.St → Hp → Prop, (∀ σ' H', Pv σ' H' → μ σ' H' < μ σ H → N σ' H') → tb { D with nx := N, ct := N, bk := D.nx } σ H1) → B H1) →
      c σ H fun b H1 => if b = true then B H1 else D.nx σ H1) : tWhile c tb D σ H := by
  refine ⟨fun m σ H => m = μ σ H ∧ Pv σ H, ⟨_, rfl, h0⟩, ?_⟩
  rintro m σ H ⟨rfl, p⟩
  refine hs (fun H1 => ∃ N : L2.St → Hp → Prop, (∀ σ' H', N σ' H' → ∃ m', m' < μ σ H ∧ m' = μ σ' H' ∧ Pv σ' H') ∧ tb { D with nx := N, ct := N, bk := D.nx } σ H1) σ H p fun H1 h => ?_
  exact ⟨fun σ' H' => Pv σ' H' ∧ μ σ' H' < μ σ H, fun σ' H' ⟨p', l⟩ => ⟨_, l, rfl, p'⟩, h _ fun σ' H' p' l => ⟨p', l⟩⟩
theorem rd_dnewK {σ : L2.St} {H : Hp} {Q : VK} : tDNewK σ H Q = ∀ p, Fresh H p → Q (.ref p) (upd H p (.dK [])) := rfl
theorem rd_dsetd {td ty tx : TE} {σ : L2.St} {H : Hp} {Q : VK} : tDSetd td ty tx σ H Q = td σ H fun x H1 => isRef x fun a => IsD H1 a ∧ ty σ H1 fun y H2 => tx σ H2 fun z H3 => ∃ (kvs : List (Key × V)) (k : Key), H3 a = some (.dK kvs) ∧ y = kV k ∧ kvs.length < sizeLine ∧
  (∀ v, valV kvs k = some v → Q v H3) ∧ (valV kvs k = none → Q z (upd H3 a (.dK (putK kvs k z)))) := by
  unfold tDSetd
  simp only [isRef_eq]
theorem exSq {K : PySem.W.Frag} {H : Hp} {a : Addr} {ms : List Int} {R : List Int → Prop} (h : SqL K H a (ms.map V.int)) (q : R ms) : ∃ ns : List Int, SqL K H a (ns.map V.int) ∧ R ns := ⟨ms, h, q⟩
theorem exSqV {K : PySem.W.Frag} {H : Hp} {a : Addr} {ms : List V} {R : List V → Prop} (h : SqL K H a ms) (q : R ms) : ∃ ns : List V, SqL K H a ns ∧ R ns := ⟨ms, h, q⟩
def rMax2 : List V → Hp → VK → Prop := fun xs H Q => ∃ i j, xs = [.int i, .int j] ∧ Q (.int (if j > i then j else i)) H
def rMin2 : List V → Hp → VK → Prop := fun xs H Q => ∃ i j, xs = [.int i, .int j] ∧ Q (.int (if j < i then j else i)) H
theorem call_max2q {X : Cx} (hc : X.calm = true) : CallR X (.builtin "max") rMax2 := call_max2 hc
theorem call_min2q {X : Cx} (hc : X.calm = true) : CallR X (.builtin "min") rMin2 := call_min2 hc
theorem rd_max2 {i j : Int} {H : Hp} {Q : VK} : rMax2 [.int i, .int j] H Q = Q (.int (if j > i then j else i)) H := by
  unfold rMax2
  apply propext
  constructor
  · rintro ⟨i', j', e, q⟩; cases e; exact q
  · intro q; exact ⟨i, j, rfl, q⟩
theorem rd_min2 {i j : Int} {H : Hp} {Q : VK} : rMin2 [.int i, .int j] H Q = Q (.int (if j < i then j else i)) H := by
  unfold rMin2
  apply propext
  constructor
  · rintro ⟨i', j', e, q⟩; cases e; exact q
  · intro q; exact ⟨i, j, rfl, q⟩
/-- len of a text, a list, a tuple -/
def rLenU (K : PySem.W.Frag) : List V → Hp → VK → Prop := fun xs H Q => (∃ z : Str, xs = [.str z] ∧ z.length ≤ sizeLine ∧ Q (.int z.length) H) ∨ rLen K xs H Q
theorem call_lenU {X : Cx} : CallR X (.builtin "len") (rLenU X.K) := by
  intro pins s σ H xs us Q I r h
  rcases h with h | h
  · exact call_len_str pins s σ H xs us Q I r h
  · exact call_len_seq pins s σ H xs us Q I r h
theorem rd_lenU_str {K : PySem.W.Frag} {z : Str} {H : Hp} {Q : VK} : rLenU K [.str z] H Q = (z.length ≤ sizeLine ∧ Q (.int z.length) H) := by
  unfold rLenU
  apply propext
  constructor
  · rintro (⟨z', e, q⟩ | ⟨p, ys, e, _⟩)
    · cases e; exact q
    · cases e
  · intro q; exact .inl ⟨z, rfl, q⟩
theorem rd_lenU_ref {K : PySem.W.Frag} {p : Addr} {H : Hp} {Q : VK} : rLenU K [.ref p] H Q = ∃ ys, (SqL K H p ys ∨ SqT K H p ys) ∧ Q (.int ys.length) H := by
  unfold rLenU
  rw [rd_len]
  apply propext
  constructor
  · rintro (⟨z', e, q⟩ | q)
    · cases e
    · exact q
  · intro q; exact .inr q
/-! further readings -/
theorem rd_lc {wi : TI} {g : TG} {tt : TT} {te : TE} {vs : List Nat} {σ : L2.St} {H : Hp} {Q : VK} : tLc wi g tt te vs σ H Q = wi σ H fun J H1 => ∀ D, Fresh H1 D → ∃ W : Nat → Nat → Hp → Prop, (∃ m, W 0 m (upd H1 D (.lst []))) ∧ ∀ i m H, W i m H →
  (J.stop i H ∧ Q (.ref D) H) ∨ (J.go i H ∧ ∃ Nx : Hp → Prop, (∀ H', Nx H' → ∃ m', m' < m ∧ W (i + 1) m' H') ∧ ∀ x H', J.yld i H x H' → g x (wipe σ vs) H' fun σ2 H2 => wipe σ2 vs = wipe σ vs ∧ tt σ2 H2 fun b H3 =>
    if b = true then te σ2 H3 fun y H4 => ∃ acc, H4 D = some (.lst acc) ∧ acc.length < sizeLine ∧ Nx (upd H4 D (.lst (acc ++ [y]))) else Nx H3) := rfl
def lcGo (J : It) (g : TG) (tt : TT) (te : TE) (vs : List Nat) (σ : L2.St) (H1 : Hp) (D : Addr) (Qd : Hp → Prop) : Prop := ∃ W : Nat → Nat → Hp → Prop, (∃ m, W 0 m (upd H1 D (.lst []))) ∧ ∀ i m H, W i m H →
  (J.stop i H ∧ Qd H) ∨ (J.go i H ∧ ∃ Nx : Hp → Prop, (∀ H', Nx H' → ∃ m', m' < m ∧ W (i + 1) m' H') ∧ ∀ x H', J.yld i H x H' → g x (wipe σ vs) H' fun σ2 H2 => wipe σ2 vs = wipe σ vs ∧ tt σ2 H2 fun b H3 =>
    if b = true then te σ2 H3 fun y H4 => ∃ acc, H4 D = some (.lst acc) ∧ acc.length < sizeLine ∧ Nx (upd H4 D (.lst (acc ++ [y]))) else Nx H3)
theorem rd_lcg {wi : TI} {g : TG} {tt : TT} {te : TE} {vs : List Nat} {σ : L2.St} {H : Hp} {Q : VK} : tLc wi g tt te vs σ H Q = wi σ H fun J H1 => ∀ D, Fresh H1 D → lcGo J g tt te vs σ H1 D (fun H2 => Q (.ref D) H2) := rfl
/-- a comprehension without tests whose items are told ahead; what was tracked stays -/
theorem go_lcm {J : It} {n : Nat} {G : Hp → Prop} {Y : Nat → Hp → V → Hp → Prop} (w : L2.Walk J n G Y) {g : TG} {te : TE} {vs : List Nat} {σ : L2.St} {H1 : Hp} {D : Addr} {Qd : Hp → Prop} (ys : List V) (hn : ys.length = n) (hz : n ≤ sizeLine) (hD : Fresh H1 D)
    (hG : ∀ H, Same H1 H → G H)
    (hs : ∀ (N : VK) i x H H', i < n → Same H1 H → Y i H x H' → (∀ y H4, ys[i]? = some y → Same H H4 → N y H4) → g x (wipe σ vs) H' fun σ2 H2 => wipe σ2 vs = wipe σ vs ∧ te σ2 H2 N)
    (hd : ∀ H, Same H1 H → H D = some (.lst ys) → Qd H) (mono : ∀ (A B : L2.St → Hp → Prop) x σ H, (∀ σ H, A σ H → B σ H) → g x σ H A → g x σ H B) : lcGo J g tYes te vs σ H1 D Qd := by
  refine lc_it w (fun i H => Same H1 H ∧ H D = some (.lst (ys.take i)) ∧ i ≤ n) ⟨Same_upd (Same.refl _) hD, by rw [upd_same, List.take_zero], Nat.zero_le _⟩ (fun i H _ h => hG H h.1) ?_ ?_
  · rintro i x H H' hi ⟨sm, hL, hin⟩ hY
    obtain ⟨y0, hy0⟩ : ∃ y, ys[i]? = some y := ⟨_, List.getElem?_eq_getElem (by omega)⟩
    refine mono _ _ _ _ _ ?_ (hs (fun y H4 => ∃ acc, H4 D = some (.lst acc) ∧ acc.length < sizeLine ∧ (Same H1 (upd H4 D (.lst (acc ++ [y]))) ∧ (upd H4 D (.lst (acc ++ [y]))) D = some (.lst (ys.take (i + 1))) ∧ i + 1 ≤ n)) i x H H' hi sm hY ?_)
    · rintro σ2 H2 ⟨e, h⟩
      refine ⟨e, ?_⟩
      unfold tYes
      dsimp only
      rw [if_pos rfl]
      exact h
    · intro y H4 hy s4
      refine ⟨ys.take i, s4 _ _ hL, by rw [List.length_take]; omega, Same_upd0 (sm.trans s4) hD, ?_, hi⟩
      rw [upd_same]
      obtain ⟨h1, h2⟩ := List.getElem?_eq_some_iff.mp hy
      rw [List.take_succ_eq_append_getElem h1, h2]
  · rintro H ⟨sm, hL, -⟩
    rw [List.take_of_length_le (by omega)] at hL
    exact hd H sm hL
theorem gName_mono {i : Nat} : ∀ (A B : L2.St → Hp → Prop) x σ H, (∀ σ H, A σ H → B σ H) → gName i x σ H A → gName i x σ H B := fun _ _ _ _ _ h q => h _ _ q
theorem rd_wipe0 {σ : L2.St} : wipe σ [] = σ := rfl
theorem rd_wipe1 {σ : L2.St} {v : Nat} {vs : List Nat} : wipe σ (v :: vs) = (wipe σ vs).set v none := rfl
def rAddT : R2 := fun x y H Q => ∃ i j, x = .str i ∧ y = .str j ∧ i.length + j.length ≤ sizeLine ∧ Q (.str (i ++ j)) H
theorem op_addT {X : Cx} : OpR X (binaryOp .Add) rAddT := op_add_str
theorem rd_addT {a b : Str} {H : Hp} {Q : VK} : rAddT (.str a) (.str b) H Q = (a.length + b.length ≤ sizeLine ∧ Q (.str (a ++ b)) H) := by
  unfold rAddT
  apply propext
  constructor
  · rintro ⟨i, j, e1, e2, q⟩; cases e1; cases e2; exact q
  · intro q; exact ⟨a, b, rfl, rfl, q⟩
theorem rd_ixS {z : Str} {i : Int} {H : Hp} {Q : VK} : rIxS (.str z) (.int i) H Q = ∃ c, z.length ≤ sizeLine ∧ atI z.cps.toList i = some c ∧ Q (.str ⟨#[c]⟩) H := by
  unfold rIxS
  apply propext
  constructor
  · rintro ⟨z', i', c, e1, e2, q⟩; cases e1; cases e2; exact ⟨c, q⟩
  · rintro ⟨c, q⟩; exact ⟨z, i, c, rfl, rfl, q⟩
theorem rd_ixT {K : PySem.W.Frag} {p : Addr} {i : Int} {H : Hp} {Q : VK} : rIxT K (.ref p) (.int i) H Q = ∃ xs v, SqT K H p xs ∧ atI xs i = some v ∧ Q v H := by
  unfold rIxT
  apply propext
  constructor
  · rintro ⟨p', xs, i', v, e1, e2, q⟩; cases e1; cases e2; exact ⟨xs, v, q⟩
  · rintro ⟨xs, v, q⟩; exact ⟨p, xs, i, v, rfl, rfl, q⟩
theorem rd_slS {z : Str} {lo hi : Option Int} {H : Hp} {Q : VK} : rSlS (.str z) lo hi H Q = (z.length ≤ sizeLine ∧ Q (.str (cutS z lo hi)) H) := by
  unfold rSlS
  apply propext
  constructor
  · rintro ⟨z', e, q⟩; cases e; exact q
  · intro q; exact ⟨z, rfl, q⟩
def rJoin (K : PySem.W.Frag) : V → List V → Hp → VK → Prop := fun x xs H Q => ∃ a p, ∃ ys : List Str, x = .str a ∧ xs = [.ref p] ∧ (SqL K H p (ys.map V.str) ∨ SqT K H p (ys.map V.str)) ∧
  (ys.map (·.length)).sum + ys.length * a.length ≤ 16777216 ∧ Q (.str (Txt.join a ys)) H
theorem mt_joinq {X : Cx} : MtR X "str.join" (rJoin X.K) := mt_join
theorem rd_M1 {r : V → List V → Hp → VK → Prop} {to te : TE} {σ : L2.St} {H : Hp} {Q : VK} : tM1 r to te σ H Q = to σ H fun x H1 => isStr x (fun _ => True) ∧ te σ H1 fun y H2 => r x [y] H2 Q := by
  unfold tM1
  apply congrArg
  funext x H1
  rw [show (∃ a, x = V.str a) = isStr x (fun _ => True) from by rw [← isStr_eq]; simp]
theorem rd_join {K : PySem.W.Frag} {a : Str} {p : Addr} {H : Hp} {Q : VK} : rJoin K (.str a) [.ref p] H Q = ∃ ys : List Str, (SqL K H p (ys.map V.str) ∨ SqT K H p (ys.map V.str)) ∧ (ys.map (·.length)).sum + ys.length * a.length ≤ 16777216 ∧ Q (.str (Txt.join a ys)) H := by
  unfold rJoin
  apply propext
  constructor
  · rintro ⟨a', p', ys, e1, e2, q⟩; cases e1; cases e2; exact ⟨ys, q⟩
  · rintro ⟨ys, q⟩; exact ⟨a, p, ys, rfl, rfl, q⟩
def rTupOf (K : PySem.W.Frag) : List V → Hp → VK → Prop := fun xs H Q => ∃ p ys, xs = [.ref p] ∧ ((SqL K H p ys ∧ ∀ l, H l = none → Q (.ref l) (upd H l (.tup ys))) ∨ (SqT K H p ys ∧ Q (.ref p) H))
theorem call_tupleq {X : Cx} : CallR X (.type "tuple") (rTupOf X.K) := call_tuple_of
theorem rd_tupOf {K : PySem.W.Frag} {p : Addr} {H : Hp} {Q : VK} : rTupOf K [.ref p] H Q = ∃ ys, ((SqL K H p ys ∧ ∀ l, Fresh H l → Q (.ref l) (upd H l (.tup ys))) ∨ (SqT K H p ys ∧ Q (.ref p) H)) := by
  unfold rTupOf
  apply propext
  constructor
  · rintro ⟨p', ys, e, q⟩; cases e; exact ⟨ys, q⟩
  · rintro ⟨ys, q⟩; exact ⟨p, ys, rfl, q⟩
def rListOf (K : PySem.W.Frag) : List V → Hp → VK → Prop := fun xs H Q => ∃ p ys, xs = [.ref p] ∧ (SqL K H p ys ∨ SqT K H p ys) ∧ ∀ l, H l = none → Q (.ref l) (upd H l (.lst ys))
theorem call_listq {X : Cx} : CallR X (.type "list") (rListOf X.K) := call_list_of
theorem rd_listOf {K : PySem.W.Frag} {p : Addr} {H : Hp} {Q : VK} : rListOf K [.ref p] H Q = ∃ ys, (SqL K H p ys ∨ SqT K H p ys) ∧ ∀ l, Fresh H l → Q (.ref l) (upd H l (.lst ys)) := by
  unfold rListOf
  apply propext
  constructor
  · rintro ⟨p', ys, e, q⟩; cases e; exact ⟨ys, q⟩
  · rintro ⟨ys, q⟩; exact ⟨p, ys, rfl, q⟩
theorem rd_gTup {K : PySem.W.Frag} {n : Nat} {t : TGs} {a : Addr} {σ : L2.St} {H : Hp} {R : L2.St → Hp → Prop} : gTup K n t (.ref a) σ H R = ∃ xs, SqT K H a xs ∧ xs.length = n ∧ t xs σ H R := by
  unfold gTup
  apply propext
  constructor
  · rintro ⟨a', xs, e, q⟩; cases e; exact ⟨xs, q⟩
  · rintro ⟨xs, q⟩; exact ⟨a, xs, rfl, q⟩
theorem rd_gCons {t : TG} {u : TGs} {v : V} {r : List V} {σ : L2.St} {H : Hp} {R : L2.St → Hp → Prop} : gCons t u (v :: r) σ H R = t v σ H fun σ' H' => u r σ' H' R := by
  unfold gCons
  apply propext
  constructor
  · rintro ⟨v', r', e, q⟩; cases e; exact q
  · intro q; exact ⟨v, r, rfl, q⟩
theorem rd_gNil {σ : L2.St} {H : Hp} {R : L2.St → Hp → Prop} : gNil [] σ H R = R σ H := by
  unfold gNil
  simp
theorem rd_isB {a b : Bool} {H : Hp} {Q : VK} : rIsB (.bl a) (.bl b) H Q = Q (.bl (decide (a = b))) H := by
  unfold rIsB
  apply propext
  constructor
  · rintro ⟨a', b', e1, e2, q⟩; cases e1; cases e2; exact q
  · intro q; exact ⟨a, b, rfl, rfl, q⟩
theorem rd_notB {a b : Bool} {H : Hp} {Q : VK} : rNotB (.bl a) (.bl b) H Q = Q (.bl (!decide (a = b))) H := by
  unfold rNotB
  apply propext
  constructor
  · rintro ⟨a', b', e1, e2, q⟩; cases e1; cases e2; exact q
  · intro q; exact ⟨a, b, rfl, rfl, q⟩
/-! texts by their code points -/
theorem S_item (c : Nat) : (⟨#[c]⟩ : Str) = SX.S [c] := rfl
theorem S_list (l : List Nat) : (SX.S l).cps.toList = l := by simp
theorem joinL_nil : ∀ ls : List (List Nat), TL.joinL [] ls = ls.flatten
  | [] => rfl
  | [p] => by simp [TL.joinL]
  | p :: q :: r => by
    rw [TL.joinL, joinL_nil (q :: r)]
    simp
theorem join_empty {e : Str} (he : e = SX.S []) (ls : List (List Nat)) : Txt.join e (ls.map SX.S) = SX.S ls.flatten := by
  rw [he, SX.join_S, joinL_nil]
theorem cut_S (l : List Nat) (lo hi : Option Int) : cutS (SX.S l) lo hi = SX.S ((l.drop (HT.sIx l.length 0 lo)).take (HT.sIx l.length l.length hi - HT.sIx l.length 0 lo)) := by
  unfold cutS
  rw [SX.S_len, S_list]
theorem lens_sum (ls : List (List Nat)) : ((ls.map SX.S).map (·.length)).sum = ls.flatten.length := by
  rw [SX.lens, List.length_flatten]
theorem own_nil : List.map (fun x : Str × Nat => x.2) [] = [] := rfl
theorem own_cons {a : Str} {n : Nat} {l : List (Str × Nat)} : List.map (fun x : Str × Nat => x.2) ((a, n) :: l) = n :: List.map (fun x : Str × Nat => x.2) l := rfl
theorem cut_hi {l : List V} {n : Int} (h0 : 0 ≤ n) : cutV l none (some n) = l.take n.toNat := by
  unfold cutV
  obtain ⟨z, rfl⟩ : ∃ z : Nat, n = (z : Int) := ⟨n.toNat, by omega⟩
  rw [HT.sIx_none, HT.sIx_nat, Int.toNat_natCast]
  simp only [List.drop_zero, Nat.sub_zero]
  by_cases h : z ≤ l.length
  · rw [Nat.min_eq_left h]
  · rw [Nat.min_eq_right (by omega), List.take_of_length_le (Nat.le_refl _), List.take_of_length_le (by omega)]
theorem cut_lo {l : List V} {n : Int} (h0 : 0 ≤ n) : cutV l (some n) none = l.drop n.toNat := by
  unfold cutV
  obtain ⟨z, rfl⟩ : ∃ z : Nat, n = (z : Int) := ⟨n.toNat, by omega⟩
  rw [HT.sIx_none, HT.sIx_nat, Int.toNat_natCast]
  by_cases h : z ≤ l.length
  · rw [Nat.min_eq_left h, List.take_of_length_le (by rw [List.length_drop]; omega)]
  · rw [Nat.min_eq_right (by omega), List.drop_of_length_le (Nat.le_refl _), List.drop_of_length_le (show l.length ≤ z by omega)]
    simp
theorem cut_span {l : List V} {a b : Int} (h0 : 0 ≤ a) (h1 : a ≤ b) : (cutV l (some a) (some b)).length ≤ (b - a).toNat := by
  unfold cutV
  obtain ⟨z, rfl⟩ : ∃ z : Nat, a = (z : Int) := ⟨a.toNat, by omega⟩
  obtain ⟨y, rfl⟩ : ∃ z : Nat, b = (z : Int) := ⟨b.toNat, by omega⟩
  rw [HT.sIx_nat, HT.sIx_nat, List.length_take, List.length_drop]
  omega
/-- a comprehension without tests; of each item a fact is known -/
theorem go_lcx {J : It} {n : Nat} {G : Hp → Prop} {Y : Nat → Hp → V → Hp → Prop} (w : L2.Walk J n G Y) {g : TG} {te : TE} {vs : List Nat} {σ : L2.St} {H1 : Hp} {D : Addr} {Qd : Hp → Prop} (F : Nat → V → Hp → Prop) (hz : n ≤ sizeLine) (hD : Fresh H1 D)
    (hG : ∀ H, Same H1 H → G H) (st : ∀ i y H H', F i y H → (∀ b o, b ≠ D → H b = some o → H' b = some o) → F i y H')
    (hs : ∀ (N : VK) i x H H', i < n → Same H1 H → Y i H x H' → (∀ y H4, Same H H4 → F i y H4 → N y H4) → g x (wipe σ vs) H' fun σ2 H2 => wipe σ2 vs = wipe σ vs ∧ te σ2 H2 N)
    (hd : ∀ H ys, Same H1 H → H D = some (.lst ys) → ys.length = n → (∀ i y, ys[i]? = some y → F i y H) → Qd H) (mono : ∀ (A B : L2.St → Hp → Prop) x σ H, (∀ σ H, A σ H → B σ H) → g x σ H A → g x σ H B) : lcGo J g tYes te vs σ H1 D Qd := by
  refine lc_it w (fun i H => Same H1 H ∧ i ≤ n ∧ ∃ ys, H D = some (.lst ys) ∧ ys.length = i ∧ ∀ j y, ys[j]? = some y → F j y H) ⟨Same_upd (Same.refl _) hD, Nat.zero_le _, [], upd_same, rfl, fun j y h => by simp at h⟩ (fun i H _ h => hG H h.1) ?_ ?_
  · rintro i x H H' hi ⟨sm, hin, ys, hL, hl, hF⟩ hY
    refine mono _ _ _ _ _ ?_ (hs (fun y H4 => ∃ acc, H4 D = some (.lst acc) ∧ acc.length < sizeLine ∧ (Same H1 (upd H4 D (.lst (acc ++ [y]))) ∧ i + 1 ≤ n ∧ ∃ zs, (upd H4 D (.lst (acc ++ [y]))) D = some (.lst zs) ∧ zs.length = i + 1 ∧ ∀ j y', zs[j]? = some y' → F j y' (upd H4 D (.lst (acc ++ [y]))))) i x H H' hi sm hY ?_)
    · rintro σ2 H2 ⟨e, h⟩
      refine ⟨e, ?_⟩
      unfold tYes
      dsimp only
      rw [if_pos rfl]
      exact h
    · intro y H4 s4 hy
      have up : ∀ b o, b ≠ D → H4 b = some o → upd H4 D (.lst (ys ++ [y])) b = some o := fun b o hb e => by rw [upd_ne hb]; exact e
      refine ⟨ys, s4 _ _ hL, by omega, Same_upd0 (sm.trans s4) hD, hi, _, upd_same, by rw [List.length_append, hl]; rfl, fun j y' h => ?_⟩
      by_cases hj : j < ys.length
      · rw [List.getElem?_append_left hj] at h
        exact st _ _ _ _ (hF j y' h) fun b o hb e => up b o hb (s4 b o e)
      · rw [List.getElem?_append_right (by omega)] at h
        have ej : j = i := by
          have h2 := (List.getElem?_eq_some_iff.mp h).1
          simp at h2
          omega
        subst ej
        rw [hl, Nat.sub_self] at h
        simp at h
        subst h
        exact st _ _ _ _ hy up
  · rintro H ⟨sm, -, ys, hL, hl, hF⟩
    exact hd H ys sm hL hl hF
end My
namespace My
open PySem PySem.Spec PyProof.Rows L2
/-- a comprehension with a test: R tells the items kept so far -/
theorem go_lcf {J : It} {n : Nat} {G : Hp → Prop} {Y : Nat → Hp → V → Hp → Prop} (w : L2.Walk J n G Y) {g : TG} {tt : TT} {te : TE} {vs : List Nat} {σ : L2.St} {H1 : Hp} {D : Addr} {Qd : Hp → Prop} (R : Nat → List V → Prop) (h0 : R 0 []) (hz : n ≤ sizeLine) (hR : ∀ i ys, R i ys → ys.length ≤ i) (hD : Fresh H1 D)
    (hG : ∀ H, Same H1 H → G H)
    (hs : ∀ (N : VK) (Z : Hp → Prop) i x ys H H', i < n → Same H1 H → R i ys → Y i H x H' → (∀ y H4, R (i + 1) (ys ++ [y]) → Same H H4 → N y H4) → (R (i + 1) ys → ∀ H4, Same H H4 → Z H4) →
      g x (wipe σ vs) H' fun σ2 H2 => wipe σ2 vs = wipe σ vs ∧ tt σ2 H2 fun b H3 => if b = true then te σ2 H3 N else Z H3)
    (hd : ∀ H ys, Same H1 H → H D = some (.lst ys) → R n ys → Qd H) : lcGo J g tt te vs σ H1 D Qd := by
  refine lc_it w (fun i H => Same H1 H ∧ ∃ ys, H D = some (.lst ys) ∧ R i ys) ⟨Same_upd (Same.refl _) hD, [], upd_same, h0⟩ (fun i H _ h => hG H h.1) ?_ ?_
  · rintro i x H H' hi ⟨sm, ys, hL, hr⟩ hY
    refine hs (fun y H4 => ∃ acc, H4 D = some (.lst acc) ∧ acc.length < sizeLine ∧ (Same H1 (upd H4 D (.lst (acc ++ [y]))) ∧ ∃ zs, (upd H4 D (.lst (acc ++ [y]))) D = some (.lst zs) ∧ R (i + 1) zs)) _ i x ys H H' hi sm hr hY ?_ ?_
    · intro y H4 hy s4
      have := hR i ys hr
      exact ⟨ys, s4 _ _ hL, by omega, Same_upd0 (sm.trans s4) hD, _, upd_same, hy⟩
    · intro hy H4 s4
      exact ⟨sm.trans s4, ys, s4 _ _ hL, hy⟩
  · rintro H ⟨sm, ys, hL, hr⟩
    exact hd H ys sm hL hr
theorem ix_listK (K : PySem.W.Frag) {X : Cx} (h : X.K = K) : IxR X (rIxL K) := h ▸ ix_list
theorem ix_tupK (K : PySem.W.Frag) {X : Cx} (h : X.K = K) : IxR X (rIxT K) := h ▸ ix_tup
theorem call_lenUK (K : PySem.W.Frag) {X : Cx} (h : X.K = K) : CallR X (.builtin "len") (rLenU K) := h ▸ call_lenU
theorem pg_tupK (K : PySem.W.Frag) {X : Cx} {pos : Pos} {es : List Expr} {k : Nat} {t : TGs} {n : Nat} (e : X.K = K) (hc : X.calm = true) (h : PGs X es t)
    (hn : (assignEach es X.env).length = n := by rfl) (hst : (assignEach es X.env).findIdx? (·.1) = none := by rfl) : PG X (.Tuple es k pos) (gTup K n t) := e ▸ pg_tup hc h hn hst
theorem op_eqDK (K : PySem.W.Frag) {X : Cx} (e : X.K = K) (hu : X.A.units + 64 < cLine) : OpR X (compareOp .Eq) (rEqD K) := e ▸ op_eqD hu
theorem op_neDK (K : PySem.W.Frag) {X : Cx} (e : X.K = K) (hu : X.A.units + 64 < cLine) : OpR X (compareOp .NotEq) (rNeD K) := e ▸ op_neD hu
end My
namespace My
open PySem PySem.W
theorem and_m1 (z : Int) : Builtin.bitAnd z (-1) = z := by
  show Spec.bitAnd z (-1) = z
  unfold Spec.bitAnd
  have h : decide ((0 : Int) ≤ -1) = false := by decide
  rw [h]
  cases e : decide (0 ≤ z) with
  | true =>
    have e' := of_decide_eq_true e
    have h2 : (Spec.bitNot (-1)).toNat = 0 := by decide
    simp [h2]
  | false =>
    have e' := of_decide_eq_false e
    have h2 : (Spec.bitNot (-1)).toNat = 0 := by decide
    simp only [h2, Nat.or_zero]
    unfold Spec.bitNot
    omega
theorem or_one (x : Int) : Builtin.bitOr x 1 = x + 1 - x % 2 := by
  have h : Builtin.bitOr x 1 = Spec.bitNot (Builtin.bitAnd (Spec.bitNot x) (Spec.bitNot 1)) := rfl
  have h1 : Spec.bitNot 1 = -2 := by decide
  rw [h, h1, kbt_halves]
  have h2 : (-2 : Int) / 2 = -1 := by decide
  have h3 : ¬ ((-2 : Int) % 2 = 1) := by decide
  rw [h2, and_m1, if_neg (fun c => h3 c.2)]
  unfold Spec.bitNot
  omega
def strideF (m : Int) : Int := Builtin.bitOr (m / 32) 1
def probeF (m s c : Int) : Int := Builtin.bitAnd (m + c * strideF m) (s - 1)
theorem strideF_eq (m : Int) : strideF m = m / 32 + 1 - m / 32 % 2 := or_one _
theorem probeF_eq (m c : Int) (k : Nat) : probeF m (2 ^ k) c = (m + c * strideF m) % 2 ^ k := kbt_mask _ k
/-- the slots of probes, one after the other -/
def slotI (m s : Int) : Nat → Int
  | 0 => Builtin.bitAnd m (s - 1)
  | i + 1 => Builtin.bitAnd (slotI m s i + strideF m) (s - 1)
def probesF (m s : Int) : List Int := (List.range s.toNat).map (slotI m s)
theorem slotI_eq (m : Int) (k : Nat) : ∀ i : Nat, slotI m (2 ^ k) i = (m + i * strideF m) % 2 ^ k
  | 0 => by
    rw [slotI, kbt_mask]
    simp
  | i + 1 => by
    rw [slotI, kbt_mask, slotI_eq m k i, Int.emod_add_emod]
    congr 1
    rw [Int.natCast_add, Int.add_mul, Int.add_assoc]
    simp
theorem pow_le {j n : Nat} (h : j ≤ n) : (0 : Int) < 2 ^ j ∧ (2 : Int) ^ j ≤ 2 ^ n := by
  have a : (2 : Nat) ^ j ≤ 2 ^ n := Nat.pow_le_pow_right (by decide) h
  have b : 0 < (2 : Nat) ^ j := Nat.pow_pos (by decide)
  have e : ((2 ^ j : Nat) : Int) = (2 : Int) ^ j := by norm_cast
  have e2 : ((2 ^ n : Nat) : Int) = (2 : Int) ^ n := by norm_cast
  omega
theorem pow8 (n : Nat) : (8 : Int) * 2 ^ n = 2 ^ (n + 3) := by
  rw [Int.pow_add, Int.mul_comm]
  rfl
/-- a slot is told by its count -/
theorem slot_of {m f st d S : Int} (h0 : 0 ≤ d) (h1 : d < S) (h : (m + f * st - d) % S = 0) : d = (m + f * st) % S := by
  have e : (m + f * st) % S = (m + f * st - d + d) % S := by rw [Int.sub_add_cancel]
  rw [e, Int.add_emod, h, Int.zero_add, Int.emod_emod, Int.emod_eq_of_lt h0 h1]
end My
namespace My
open PySem PySem.Spec PyProof.Rows L2
/-! things as data: keys (num, txt, tup), and what is none -/
inductive Ky where
  | num (i : Int) | txt (x : Str) | tup (ks : List Ky) | bl (b : Bool) | non | lst (n : Nat) | dct
mutual
def Ky.beq : Ky → Ky → Bool
  | .num i, .num j => decide (i = j)
  | .txt x, .txt y => decide (x = y)
  | .tup xs, .tup ys => Ky.beqs xs ys
  | .bl x, .bl y => decide (x = y)
  | .non, .non => true
  | .lst n, .lst m => decide (n = m)
  | .dct, .dct => true
  | _, _ => false
def Ky.beqs : List Ky → List Ky → Bool
  | [], [] => true
  | x :: xs, y :: ys => Ky.beq x y && Ky.beqs xs ys
  | [], _ :: _ => false
  | _ :: _, [] => false
end
mutual
theorem Ky.beq_iff : ∀ x y : Ky, Ky.beq x y = true ↔ x = y
  | .num i, y => by cases y <;> simp [Ky.beq]
  | .txt x, y => by cases y <;> simp [Ky.beq]
  | .tup xs, .tup ys => by
    rw [Ky.beq, Ky.beqs_iff xs ys]
    simp
  | .tup xs, .num _ => by simp [Ky.beq]
  | .tup xs, .txt _ => by simp [Ky.beq]
  | .tup xs, .bl _ => by simp [Ky.beq]
  | .tup xs, .non => by simp [Ky.beq]
  | .tup xs, .lst _ => by simp [Ky.beq]
  | .tup xs, .dct => by simp [Ky.beq]
  | .bl b, y => by cases y <;> simp [Ky.beq]
  | .non, y => by cases y <;> simp [Ky.beq]
  | .lst n, y => by cases y <;> simp [Ky.beq]
  | .dct, y => by cases y <;> simp [Ky.beq]
theorem Ky.beqs_iff : ∀ xs ys : List Ky, Ky.beqs xs ys = true ↔ xs = ys
  | [], [] => by simp [Ky.beqs]
  | x :: xs, y :: ys => by
    rw [Ky.beqs, Bool.and_eq_true, Ky.beq_iff x y, Ky.beqs_iff xs ys]
    simp
  | [], _ :: _ => by simp [Ky.beqs]
  | _ :: _, [] => by simp [Ky.beqs]
end
instance : DecidableEq Ky := fun x y => if h : Ky.beq x y = true then .isTrue ((Ky.beq_iff x y).mp h) else .isFalse fun e => h ((Ky.beq_iff x y).mpr e)
mutual
def Ky.good : Ky → Bool
  | .num _ => true
  | .txt x => PyData.strOk x
  | .tup ks => Ky.goods ks
  | _ => false
def Ky.goods : List Ky → Bool
  | [] => true
  | k :: ks => Ky.good k && Ky.goods ks
end
mutual
def Ky.toD : Ky → PyData
  | .num i => .int i
  | .txt x => .str x
  | .tup ks => .tuple (Ky.toDs ks)
  | _ => .none
def Ky.toDs : List Ky → List PyData
  | [] => []
  | k :: ks => Ky.toD k :: Ky.toDs ks
end
mutual
def Ky.dep : Ky → Nat
  | .tup ks => Ky.deps ks + 1
  | _ => 0
def Ky.deps : List Ky → Nat
  | [] => 0
  | k :: ks => max (Ky.dep k) (Ky.deps ks)
end
mutual
theorem Ky.eqv : ∀ x y : Ky, x.good = true → y.good = true → PyData.eqv x.toD y.toD = Ky.beq x y
  | .num i, .num j, _, _ => by
    simp only [Ky.toD, PyData.eqv, Ky.beq]
    exact Bool.beq_eq_decide_eq i j
  | .txt x, .txt y, _, _ => by
    simp only [Ky.toD, PyData.eqv, Ky.beq]
    exact Bool.beq_eq_decide_eq x y
  | .tup xs, .tup ys, h, g => by
    simp only [Ky.toD, PyData.eqv, Ky.beq]
    exact Ky.eqvs xs ys (by simpa [Ky.good] using h) (by simpa [Ky.good] using g)
  | .num _, .txt _, _, _ => by simp [Ky.toD, PyData.eqv, Ky.beq]
  | .num _, .tup _, _, _ => by simp [Ky.toD, PyData.eqv, Ky.beq]
  | .txt _, .num _, _, _ => by simp [Ky.toD, PyData.eqv, Ky.beq]
  | .txt _, .tup _, _, _ => by simp [Ky.toD, PyData.eqv, Ky.beq]
  | .tup _, .num _, _, _ => by simp [Ky.toD, PyData.eqv, Ky.beq]
  | .tup _, .txt _, _, _ => by simp [Ky.toD, PyData.eqv, Ky.beq]
  | .bl _, _, h, _ => by simp [Ky.good] at h
  | .non, _, h, _ => by simp [Ky.good] at h
  | .lst _, _, h, _ => by simp [Ky.good] at h
  | .dct, _, h, _ => by simp [Ky.good] at h
  | .num _, .bl _, _, h => by simp [Ky.good] at h
  | .num _, .non, _, h => by simp [Ky.good] at h
  | .num _, .lst _, _, h => by simp [Ky.good] at h
  | .num _, .dct, _, h => by simp [Ky.good] at h
  | .txt _, .bl _, _, h => by simp [Ky.good] at h
  | .txt _, .non, _, h => by simp [Ky.good] at h
  | .txt _, .lst _, _, h => by simp [Ky.good] at h
  | .txt _, .dct, _, h => by simp [Ky.good] at h
  | .tup _, .bl _, _, h => by simp [Ky.good] at h
  | .tup _, .non, _, h => by simp [Ky.good] at h
  | .tup _, .lst _, _, h => by simp [Ky.good] at h
  | .tup _, .dct, _, h => by simp [Ky.good] at h
theorem Ky.eqvs : ∀ xs ys : List Ky, Ky.goods xs = true → Ky.goods ys = true → PyData.eqvAll (Ky.toDs xs) (Ky.toDs ys) = Ky.beqs xs ys
  | [], [], _, _ => by simp [Ky.toDs, PyData.eqvAll, Ky.beqs]
  | x :: xs, y :: ys, h, g => by
    have h' : x.good = true ∧ Ky.goods xs = true := by simpa [Ky.goods] using h
    have g' : y.good = true ∧ Ky.goods ys = true := by simpa [Ky.goods] using g
    simp only [Ky.toDs, PyData.eqvAll, Ky.beqs]
    rw [Ky.eqv x y h'.1 g'.1, Ky.eqvs xs ys h'.2 g'.2]
  | [], _ :: _, _, _ => by simp [Ky.toDs, PyData.eqvAll, Ky.beqs]
  | _ :: _, [], _, _ => by simp [Ky.toDs, PyData.eqvAll, Ky.beqs]
end
mutual
theorem Ky.canLay : ∀ k : Ky, k.good = true → k.toD.canLay0 = true
  | .num _, _ => by simp [Ky.toD, PyData.canLay0]
  | .txt x, h => by
    have h' : PyData.strOk x = true := by simpa [Ky.good] using h
    simpa [Ky.toD, PyData.canLay0] using h'
  | .tup ks, h => by
    simp only [Ky.toD, PyData.canLay0]
    exact Ky.canLays ks (by simpa [Ky.good] using h)
  | .bl _, h => by simp [Ky.good] at h
  | .non, h => by simp [Ky.good] at h
  | .lst _, h => by simp [Ky.good] at h
  | .dct, h => by simp [Ky.good] at h
theorem Ky.canLays : ∀ ks : List Ky, Ky.goods ks = true → PyData.canLayAll0 (Ky.toDs ks) = true
  | [], _ => by simp [Ky.toDs, PyData.canLayAll0]
  | k :: ks, h => by
    have h' : k.good = true ∧ Ky.goods ks = true := by simpa [Ky.goods] using h
    simp only [Ky.toDs, PyData.canLayAll0, Ky.canLay k h'.1, Ky.canLays ks h'.2, Bool.and_self]
end
mutual
theorem Ky.depth_toD : ∀ k : Ky, k.toD.depth = k.dep
  | .tup ks => by
    simp only [Ky.toD, PyData.depth, Ky.dep]
    rw [Ky.depths_toD ks]
  | .num _ => by simp [Ky.toD, PyData.depth, Ky.dep]
  | .txt _ => by simp [Ky.toD, PyData.depth, Ky.dep]
  | .bl _ => by simp [Ky.toD, PyData.depth, Ky.dep]
  | .non => by simp [Ky.toD, PyData.depth, Ky.dep]
  | .lst _ => by simp [Ky.toD, PyData.depth, Ky.dep]
  | .dct => by simp [Ky.toD, PyData.depth, Ky.dep]
theorem Ky.depths_toD : ∀ ks : List Ky, PyData.depthAll (Ky.toDs ks) = Ky.deps ks
  | [] => by simp [Ky.toDs, PyData.depthAll, Ky.deps]
  | k :: ks => by
    simp only [Ky.toDs, PyData.depthAll, Ky.deps]
    rw [Ky.depth_toD k, Ky.depths_toD ks]
end
theorem Ky.shaped {k : Ky} (h : k.good = true) (d : k.dep ≤ 64) : SeqAt.shaped k.toD = true := by
  unfold SeqAt.shaped
  rw [Ky.canLay k h, Ky.depth_toD, decide_eq_true d]
  rfl
mutual
inductive KyAt (H : Hp) : V → Ky → Prop
  | num (i : Int) : KyAt H (.int i) (.num i)
  | txt (x : Str) : KyAt H (.str x) (.txt x)
  | tup {a : Addr} {xs : List V} {ks : List Ky} (h : H a = some (.tup xs)) (p : KysAt H xs ks) : KyAt H (.ref a) (.tup ks)
  | bl (b : Bool) : KyAt H (.bl b) (.bl b)
  | non : KyAt H .non .non
  | lst {a : Addr} {xs : List V} {n : Nat} (h : H a = some (.lst xs)) : KyAt H (.ref a) (.lst n)
  | dct {a : Addr} {kvs : List (Key × V)} (h : H a = some (.dK kvs)) : KyAt H (.ref a) .dct
inductive KysAt (H : Hp) : List V → List Ky → Prop
  | nil : KysAt H [] []
  | cons {v : V} {vs : List V} {k : Ky} {ks : List Ky} (h : KyAt H v k) (t : KysAt H vs ks) : KysAt H (v :: vs) (k :: ks)
end
section
variable {H H' : Hp} {K : PySem.W.Frag}
mutual
theorem KyAt.same (s : Same H H') : ∀ (k : Ky) (v : V), KyAt H v k → KyAt H' v k
  | .num i, _, h => by cases h; exact .num i
  | .txt x, _, h => by cases h; exact .txt x
  | .tup ks, _, h => by
    cases h with
    | tup h p => exact .tup (s _ _ h) (KysAt.same s ks _ p)
  | .bl b, _, h => by cases h; exact .bl b
  | .non, _, h => by cases h; exact .non
  | .lst n, _, h => by
    cases h with
    | lst h => exact .lst (s _ _ h)
  | .dct, _, h => by
    cases h with
    | dct h => exact .dct (s _ _ h)
theorem KysAt.same (s : Same H H') : ∀ (ks : List Ky) (vs : List V), KysAt H vs ks → KysAt H' vs ks
  | [], _, h => by cases h; exact .nil
  | k :: ks, _, h => by
    cases h with
    | cons h t => exact .cons (KyAt.same s k _ h) (KysAt.same s ks _ t)
end
mutual
theorem KyAt.dp : ∀ (k : Ky) (v : V), k.good = true → KyAt H v k → Dp K H v k.toD
  | .num i, _, _, h => by cases h; rw [Ky.toD]; exact .int i
  | .txt x, _, _, h => by cases h; rw [Ky.toD]; exact .str x
  | .tup ks, _, g, h => by
    cases h with
    | tup h p => rw [Ky.toD]; exact .tup (SqT.of h) (KysAt.dp ks _ (by simpa [Ky.good] using g) p)
  | .bl _, _, g, _ => by simp [Ky.good] at g
  | .non, _, g, _ => by simp [Ky.good] at g
  | .lst _, _, g, _ => by simp [Ky.good] at g
  | .dct, _, g, _ => by simp [Ky.good] at g
theorem KysAt.dp : ∀ (ks : List Ky) (vs : List V), Ky.goods ks = true → KysAt H vs ks → DpAll K H vs (Ky.toDs ks)
  | [], _, _, h => by cases h; rw [Ky.toDs]; exact .nil
  | k :: ks, _, g, h => by
    have g' : k.good = true ∧ Ky.goods ks = true := by simpa [Ky.goods] using g
    cases h with
    | cons h t => rw [Ky.toDs]; exact .cons (KyAt.dp k _ g'.1 h) (KysAt.dp ks _ g'.2 t)
end
theorem KysAt.len : ∀ {ks : List Ky} {vs : List V}, KysAt H vs ks → vs.length = ks.length
  | [], _, h => by cases h; rfl
  | k :: ks, _, h => by
    cases h with
    | cons h t => simp [KysAt.len t]
theorem KysAt.get : ∀ {ks : List Ky} {vs : List V} {i : Nat} {v : V}, KysAt H vs ks → vs[i]? = some v → ∃ k, ks[i]? = some k ∧ KyAt H v k
  | [], _, _, _, h, e => by cases h; simp at e
  | k :: ks, _, 0, v, h, e => by
    cases h with
    | cons h t =>
      simp at e
      subst e
      exact ⟨k, rfl, h⟩
  | k :: ks, _, i + 1, v, h, e => by
    cases h with
    | cons h t =>
      obtain ⟨k', e', h'⟩ := KysAt.get (i := i) t (by simpa using e)
      exact ⟨k', by simpa using e', h'⟩
theorem KysAt.append : ∀ {ks ls : List Ky} {vs ws : List V}, KysAt H vs ks → KysAt H ws ls → KysAt H (vs ++ ws) (ks ++ ls)
  | [], _, _, _, h, q => by cases h; exact q
  | k :: ks, _, _, _, h, q => by
    cases h with
    | cons h t => exact .cons h (KysAt.append t q)
/-- two keys compared -/
theorem eq_keys {v w : V} {k l : Ky} {Q : VK} (hv : KyAt H v k) (hw : KyAt H w l) (gk : k.good = true) (gl : l.good = true) (dk : k.dep ≤ 64) (dl : l.dep ≤ 64) (q : Q (.bl (decide (k = l))) H) : rEqD K v w H Q := by
  refine ⟨k.toD, l.toD, KyAt.dp k v gk hv, KyAt.dp l w gl hw, Ky.shaped gk dk, Ky.shaped gl dl, ?_⟩
  rw [Ky.eqv _ _ gk gl]
  have e : Ky.beq k l = decide (k = l) := by
    cases h : Ky.beq k l with
    | true => exact (decide_eq_true ((Ky.beq_iff k l).mp h)).symm
    | false => exact (decide_eq_false fun c => by rw [(Ky.beq_iff k l).mpr c] at h; cases h).symm
  rw [e]
  exact q
end
/-! the stamp -/
abbrev TURN : Int := 2147483647
def stampT (l : List Nat) : Int := l.foldl (fun (h : Int) (c : Nat) => (31 * h + c) % 2147483647) 7
mutual
def Ky.stamp : Ky → Int
  | .num i => i % 2147483647
  | .txt x => stampT x.cps.toList
  | .tup ks => Ky.stamps 11 ks
  | _ => 0
def Ky.stamps : Int → List Ky → Int
  | h, [] => h
  | h, k :: ks => Ky.stamps (Builtin.bitXor (1000003 * h) (Ky.stamp k) % 2147483647) ks
end
theorem stampT_range (l : List Nat) : 0 ≤ stampT l ∧ stampT l < 2147483647 := by
  have h : ∀ (l : List Nat) (a : Int), 0 ≤ a → a < 2147483647 → 0 ≤ l.foldl (fun (h : Int) (c : Nat) => (31 * h + c) % 2147483647) a ∧ l.foldl (fun (h : Int) (c : Nat) => (31 * h + c) % 2147483647) a < 2147483647 := by
    intro l
    induction l with
    | nil => intro a h0 h1; exact ⟨h0, h1⟩
    | cons c l ih => intro a h0 h1; exact ih _ (Int.emod_nonneg _ (by decide)) (Int.emod_lt_of_pos _ (by decide))
  exact h l 7 (by decide) (by decide)
theorem stamps_range : ∀ (ks : List Ky) (a : Int), 0 ≤ a → a < 2147483647 → 0 ≤ Ky.stamps a ks ∧ Ky.stamps a ks < 2147483647
  | [], a, h0, h1 => by rw [Ky.stamps]; exact ⟨h0, h1⟩
  | k :: ks, a, h0, h1 => by rw [Ky.stamps]; exact stamps_range ks _ (by omega) (by omega)
theorem stamp_range : ∀ k : Ky, 0 ≤ k.stamp ∧ k.stamp < 2147483647
  | .num i => by rw [Ky.stamp]; omega
  | .txt x => by rw [Ky.stamp]; exact stampT_range _
  | .tup ks => by rw [Ky.stamp]; exact stamps_range ks 11 (by decide) (by decide)
  | .bl _ => by simp [Ky.stamp]
  | .non => by simp [Ky.stamp]
  | .lst _ => by simp [Ky.stamp]
  | .dct => by simp [Ky.stamp]
theorem stampT_step {l : List Nat} {i c : Nat} (h : l[i]? = some c) : stampT (l.take (i + 1)) = (31 * stampT (l.take i) + c) % 2147483647 := by
  obtain ⟨hi, e⟩ := List.getElem?_eq_some_iff.mp h
  unfold stampT
  rw [List.take_succ_eq_append_getElem hi, List.foldl_append, e]
  rfl
theorem stamps_append : ∀ (a : Int) (xs ys : List Ky), Ky.stamps a (xs ++ ys) = Ky.stamps (Ky.stamps a xs) ys
  | a, [], ys => by simp [Ky.stamps]
  | a, x :: xs, ys => by
    rw [List.cons_append, Ky.stamps, Ky.stamps]
    exact stamps_append _ xs ys
theorem stamps_step {ks : List Ky} {i : Nat} {k : Ky} (a : Int) (h : ks[i]? = some k) : Ky.stamps a (ks.take (i + 1)) = Builtin.bitXor (1000003 * Ky.stamps a (ks.take i)) k.stamp % 2147483647 := by
  obtain ⟨hi, e⟩ := List.getElem?_eq_some_iff.mp h
  rw [List.take_succ_eq_append_getElem hi, stamps_append, e, Ky.stamps, Ky.stamps]
theorem dep_of_mem : ∀ {ks : List Ky} {i : Nat} {k : Ky}, ks[i]? = some k → k.dep ≤ Ky.deps ks
  | [], i, k, h => by simp at h
  | x :: xs, 0, k, h => by
    simp at h
    subst h
    rw [Ky.deps]
    omega
  | x :: xs, i + 1, k, h => by
    have := dep_of_mem (ks := xs) (i := i) (k := k) (by simpa using h)
    rw [Ky.deps]
    omega
/-- stamp of a key so deep -/
def spStamp (n : Nat) : Sp := fun vs H Q _ => ∃ v k, vs = [v] ∧ KyAt H v k ∧ (k.good = true ∧ k.dep ≤ n) ∧ Q (.int k.stamp) H
theorem rd_spStamp {n : Nat} {v : V} {H : Hp} {Q : VK} {E : XK} : spStamp n [v] H Q E = ∃ k, KyAt H v k ∧ (k.good = true ∧ k.dep ≤ n) ∧ Q (.int k.stamp) H := by
  unfold spStamp
  apply propext
  constructor
  · rintro ⟨v', k, e, q⟩; cases e; exact ⟨k, q⟩
  · rintro ⟨k, q⟩; exact ⟨v, k, rfl, q⟩
theorem len_stamp {n : Nat} {vs H Q E} (h : spStamp n vs H Q E) : vs.length = 1 := by obtain ⟨_, _, rfl, _⟩ := h; rfl
def rOrd : List V → Hp → VK → Prop := fun xs H Q => ∃ x : Str, xs = [.str x] ∧ x.length = 1 ∧ Q (.int (x.cps.getD 0 0 : Nat)) H
theorem call_ordq {X : Cx} : CallR X (.builtin "ord") rOrd := call_ord
theorem rd_ord {c : Nat} {H : Hp} {Q : VK} : rOrd [.str ⟨#[c]⟩] H Q = Q (.int c) H := by
  unfold rOrd
  apply propext
  constructor
  · rintro ⟨x, e, _, q⟩; cases e; exact q
  · intro q; exact ⟨_, rfl, rfl, q⟩
/-! what is a key -/
def within : Nat → Ky → Bool
  | _, .num i => decide (-(10 ^ 60) < i ∧ i < 10 ^ 60)
  | _, .txt x => decide (x.length ≤ 60)
  | 0, .tup _ => false
  | d + 1, .tup ks => decide (ks.length ≤ 6) && ks.all (within d)
  | _, _ => false
mutual
def Ky.fit : Ky → Bool
  | .txt x => decide (x.length ≤ 16777216)
  | .tup ks => Ky.fits ks
  | _ => true
def Ky.fits : List Ky → Bool
  | [] => true
  | k :: ks => Ky.fit k && Ky.fits ks
end
theorem fits_get : ∀ {ks : List Ky} {i : Nat} {k : Ky}, Ky.fits ks = true → ks[i]? = some k → k.fit = true
  | [], i, k, _, h => by simp at h
  | x :: xs, 0, k, g, h => by
    have g' : x.fit = true ∧ Ky.fits xs = true := by simpa [Ky.fits] using g
    simp at h
    subst h
    exact g'.1
  | x :: xs, i + 1, k, g, h => by
    have g' : x.fit = true ∧ Ky.fits xs = true := by simpa [Ky.fits] using g
    exact fits_get (ks := xs) (i := i) g'.2 (by simpa using h)
def spWithin (n : Nat) : Sp := fun vs H Q _ => ∃ (v : V) (k : Ky) (d : Nat), vs = [v, .int d] ∧ KyAt H v k ∧ (k.fit = true ∧ d ≤ n) ∧ Q (.bl (within d k)) H
theorem len_within {n : Nat} {vs H Q E} (h : spWithin n vs H Q E) : vs.length = 2 := by obtain ⟨_, _, _, rfl, _⟩ := h; rfl
def spKeyB : Sp := fun vs H Q _ => ∃ (v : V) (k : Ky), vs = [v] ∧ KyAt H v k ∧ k.fit = true ∧ Q (.bl (within 3 k)) H
theorem len_keyB {vs H Q E} (h : spKeyB vs H Q E) : vs.length = 1 := by obtain ⟨_, _, rfl, _⟩ := h; rfl
theorem goods_get : ∀ {ks : List Ky} {i : Nat} {k : Ky}, Ky.goods ks = true → ks[i]? = some k → k.good = true
  | [], i, k, _, h => by simp at h
  | x :: xs, 0, k, g, h => by
    have g' : x.good = true ∧ Ky.goods xs = true := by simpa [Ky.goods] using g
    simp at h
    subst h
    exact g'.1
  | x :: xs, i + 1, k, g, h => by
    have g' : x.good = true ∧ Ky.goods xs = true := by simpa [Ky.goods] using g
    exact goods_get (ks := xs) (i := i) g'.2 (by simpa using h)
theorem goods_append : ∀ {xs ys : List Ky}, Ky.goods xs = true → Ky.goods ys = true → Ky.goods (xs ++ ys) = true
  | [], _, _, h => h
  | x :: xs, ys, g, h => by
    have g' : x.good = true ∧ Ky.goods xs = true := by simpa [Ky.goods] using g
    rw [List.cons_append, Ky.goods, g'.1, goods_append g'.2 h]
    rfl
theorem nums_at {H : Hp} : ∀ ns : List Int, KysAt H (ns.map V.int) (ns.map Ky.num)
  | [] => .nil
  | n :: ns => .cons (.num n) (nums_at ns)
theorem within_mono : ∀ {d e : Nat}, d ≤ e → ∀ k : Ky, within d k = true → within e k = true
  | d, e, h, .num i, q => by cases d <;> cases e <;> simpa [within] using q
  | d, e, h, .txt x, q => by cases d <;> cases e <;> simpa [within] using q
  | 0, e, h, .tup ks, q => by simp [within] at q
  | d + 1, 0, h, .tup ks, q => by omega
  | d + 1, e + 1, h, .tup ks, q => by
    simp only [within, Bool.and_eq_true, List.all_eq_true] at q ⊢
    exact ⟨q.1, fun y hy => within_mono (by omega) y (q.2 y hy)⟩
  | d, e, h, .bl b, q => by cases d <;> simp [within] at q
  | d, e, h, .non, q => by cases d <;> simp [within] at q
  | d, e, h, .lst n, q => by cases d <;> simp [within] at q
  | d, e, h, .dct, q => by cases d <;> simp [within] at q
section
variable {H H' : Hp} {D : Addr} {xs0 : List V}
mutual
/-- a key's tuples stay where a list is changed -/
theorem KyAt.but (k : ∀ b o, b ≠ D → H b = some o → H' b = some o) (e : H D = some (.lst xs0)) : ∀ (y : Ky) (v : V), y.good = true → KyAt H v y → KyAt H' v y
  | .num i, _, _, h => by cases h; exact .num i
  | .txt x, _, _, h => by cases h; exact .txt x
  | .tup ks, _, g, h => by
    cases h with
    | tup h p => exact .tup (k _ _ (ne_of h e (by intro z; cases z)) h) (KysAt.but' k e ks _ (by simpa [Ky.good] using g) p)
  | .bl _, _, g, _ => by simp [Ky.good] at g
  | .non, _, g, _ => by simp [Ky.good] at g
  | .lst _, _, g, _ => by simp [Ky.good] at g
  | .dct, _, g, _ => by simp [Ky.good] at g
theorem KysAt.but' (k : ∀ b o, b ≠ D → H b = some o → H' b = some o) (e : H D = some (.lst xs0)) : ∀ (ks : List Ky) (vs : List V), Ky.goods ks = true → KysAt H vs ks → KysAt H' vs ks
  | [], _, _, h => by cases h; exact .nil
  | y :: ks, _, g, h => by
    have g' : y.good = true ∧ Ky.goods ks = true := by simpa [Ky.goods] using g
    cases h with
    | cons h t => exact .cons (KyAt.but k e y _ g'.1 h) (KysAt.but' k e ks _ g'.2 t)
end
end
end My
namespace My
open PySem PySem.Spec PyProof.Rows L2
/-- the ninety-four signs -/
def signs : List Nat := [32, 33, 34, 35, 36, 38, 39, 40, 41, 42, 43, 44, 45, 46, 47, 48, 49, 50, 51, 52, 53, 54, 55, 56, 57, 58, 59, 60, 61, 62, 63, 64, 65, 66, 67, 68, 69, 70, 71, 72, 73, 74, 75, 76, 77, 78, 79, 80, 81, 82, 83, 84, 85, 86, 87, 88, 89, 90, 91, 92, 93, 94, 95, 96, 97, 98, 99, 100, 101, 102, 103, 104, 105, 106, 107, 108, 109, 110, 111, 112, 113, 114, 115, 116, 117, 118, 119, 120, 121, 122, 123, 124, 125, 126]
theorem signs_len : signs.length = 94 := rfl
theorem signs_ok : ∀ c ∈ signs, 32 ≤ c ∧ c ≤ 126 := by decide
def signAt (n : Int) : Nat := signs.getD n.toNat 0
theorem signAt_some {n : Int} (h0 : 0 ≤ n) (h1 : n < 94) : atI signs n = some (signAt n) := by
  obtain ⟨j, rfl⟩ : ∃ j : Nat, n = (j : Int) := ⟨n.toNat, by omega⟩
  have hj : j < signs.length := by rw [signs_len]; omega
  refine atI_nat ?_
  unfold signAt
  rw [Int.toNat_natCast, List.getD_eq_getElem?_getD, List.getElem?_eq_getElem hj]
  rfl
theorem signAt_ok {n : Int} (h0 : 0 ≤ n) (h1 : n < 94) : 32 ≤ signAt n ∧ signAt n ≤ 126 := by
  have hj : n.toNat < signs.length := by rw [signs_len]; omega
  unfold signAt
  rw [List.getD_eq_getElem?_getD, List.getElem?_eq_getElem hj]
  exact signs_ok _ (List.getElem_mem hj)
def codesOk (l : List Nat) : Prop := ∀ c ∈ l, 32 ≤ c ∧ c ≤ 126
theorem strOk_of {l : List Nat} (h : codesOk l) : PyData.strOk (SX.S l) = true := by
  show (SX.S l).cps.all (· < 0x110000) = true
  rw [← Array.all_toList]
  rw [List.all_eq_true]
  intro c hc
  have := h c (by simpa using hc)
  exact decide_eq_true (by omega)
theorem signs_text : (Str.ofString " !\"#$&'()*+,-./0123456789:;<=>?@ABCDEFGHIJKLMNOPQRSTUVWXYZ[\\]^_`" ++ Str.ofString "abcdefghijklmnopqrstuvwxyz{|}~" : Str) = SX.S signs := by decide +kernel
theorem signAt_val {n : Int} (h0 : 0 ≤ n) (h1 : n < 94) : (signAt n : Int) = if n < 5 then n + 32 else n + 33 := by
  obtain ⟨j, rfl⟩ : ∃ j : Nat, n = (j : Int) := ⟨n.toNat, by omega⟩
  have h : (List.range 94).all (fun j => decide ((signAt (j : Int) : Int) = if (j : Int) < 5 then (j : Int) + 32 else (j : Int) + 33)) = true := by decide +kernel
  exact of_decide_eq_true ((List.all_eq_true.mp h) j (List.mem_range.mpr (by omega)))
/-- a row of signs by numbers -/
def rowS (cs : List Int) : List Nat := cs.map fun n => signAt (n % 94)
theorem rowS_ok (cs : List Int) : codesOk (rowS cs) := by
  intro c hc
  obtain ⟨n, _, rfl⟩ := List.mem_map.mp hc
  exact signAt_ok (Int.emod_nonneg _ (by decide)) (Int.emod_lt_of_pos _ (by decide))
theorem rowS_len (cs : List Int) : (rowS cs).length = cs.length := List.length_map _
/-- single signs -/
theorem flat_one : ∀ l : List Nat, (l.map fun c => [c]).flatten = l
  | [] => rfl
  | c :: l => by rw [List.map_cons, List.flatten_cons, flat_one l]; rfl
theorem ones_str (l : List Nat) : (l.map fun c => V.str ⟨#[c]⟩) = ((l.map fun c => [c]).map SX.S).map V.str := by
  rw [List.map_map, List.map_map]
  rfl
theorem empty_S : Str.ofString "" = SX.S [] := by decide +kernel
/-- the join of a list of single signs -/
theorem join_ones {K : PySem.W.Frag} {H : Hp} {p : Addr} {l : List Nat} {R : List Str → Prop} (h : SqL K H p (l.map fun c => V.str ⟨#[c]⟩)) (hz : l.length ≤ 1000) (q : ∀ ys, Txt.join (Str.ofString "") ys = SX.S l → R ys) :
    ∃ ys : List Str, (SqL K H p (ys.map V.str) ∨ SqT K H p (ys.map V.str)) ∧ (ys.map (·.length)).sum + ys.length * (Str.ofString "").length ≤ 16777216 ∧ R ys := by
  refine ⟨(l.map fun c => [c]).map SX.S, .inl (by rw [← ones_str]; exact h), ?_, q _ ?_⟩
  · rw [lens_sum, flat_one, empty_S, SX.S_len]
    simp
    omega
  · rw [join_empty empty_S, flat_one]
theorem stampT_cons {a b c d : Nat} {h t : List Nat} (e : 31 * (a : Int) + b = 31 * (c : Int) + d) : stampT (h ++ [a, b] ++ t) = stampT (h ++ [c, d] ++ t) := by
  unfold stampT
  rw [List.foldl_append, List.foldl_append, List.foldl_append, List.foldl_append]
  congr 1
  simp only [List.foldl_cons, List.foldl_nil]
  generalize List.foldl (fun (h : Int) (c : Nat) => (31 * h + c) % 2147483647) 7 h = x
  omega
theorem codesOk_append {a b : List Nat} (h : codesOk a) (g : codesOk b) : codesOk (a ++ b) := fun c hc => (List.mem_append.mp hc).elim (h c) (g c)
theorem codesOk_take {a : List Nat} (h : codesOk a) (n : Nat) : codesOk (a.take n) := fun c hc => h c (List.mem_of_mem_take hc)
theorem codesOk_drop {a : List Nat} (h : codesOk a) (n : Nat) : codesOk (a.drop n) := fun c hc => h c (List.mem_of_mem_drop hc)
theorem codesOk_two {a b : Nat} (h : 32 ≤ a ∧ a ≤ 126) (g : 32 ≤ b ∧ b ≤ 126) : codesOk [a, b] := fun c hc => by
  rcases List.mem_cons.mp hc with rfl | hc
  · exact h
  · rcases List.mem_cons.mp hc with rfl | hc
    · exact g
    · cases hc
theorem S_ne {a b : List Nat} (h : a ≠ b) : SX.S a ≠ SX.S b := fun e => h (SX.S_inj e)
end My
namespace My
open PySem PySem.Spec PyProof.Rows L2
/-- the count of a slot -/
def spWhen : Sp := fun vs H Q _ => ∃ (m : Int) (j : Nat) (s : Int), vs = [.int m, .int (2 ^ j), .int s] ∧ (3 ≤ j ∧ j ≤ 12) ∧ (0 ≤ m ∧ m < 2147483647) ∧ (0 ≤ s ∧ s < 2 ^ j) ∧
  ∀ f : Int, 0 ≤ f → f < 2 ^ j → (m + f * strideF m - s) % 2 ^ j = 0 → Q (.int f) H
theorem len_when {vs H Q E} (h : spWhen vs H Q E) : vs.length = 3 := by obtain ⟨_, _, _, rfl, _⟩ := h; rfl
/-- 2^r divides 1 - s * b -/
def Inv2 (s b : Int) (r : Nat) : Prop := ∃ t, 1 - s * b = 2 ^ r * t
theorem inv2_mono {s b : Int} {r q : Nat} (h : Inv2 s b r) (l : q ≤ r) : Inv2 s b q := by
  obtain ⟨t, e⟩ := h
  obtain ⟨d, rfl⟩ : ∃ d, r = q + d := ⟨r - q, by omega⟩
  exact ⟨2 ^ d * t, by rw [e, Int.pow_add, Int.mul_assoc]⟩
theorem inv2_mod {s b : Int} {r j : Nat} (h : Inv2 s b r) (l : r ≤ j) : Inv2 s (b % 2 ^ j) r := by
  obtain ⟨t, e⟩ := h
  obtain ⟨d, rfl⟩ : ∃ d, j = r + d := ⟨j - r, by omega⟩
  refine ⟨t + s * (2 ^ d * (b / 2 ^ (r + d))), ?_⟩
  have e2 : b % 2 ^ (r + d) = b - 2 ^ (r + d) * (b / 2 ^ (r + d)) := Int.emod_def _ _
  have e3 : (2 : Int) ^ (r + d) * (b / 2 ^ (r + d)) = 2 ^ r * (2 ^ d * (b / 2 ^ (r + d))) := by
    rw [← Int.mul_assoc, ← Int.pow_add]
  rw [e2, e3, Int.mul_sub, Int.mul_add, Int.mul_left_comm s]
  omega
theorem inv2_start {s : Int} (h : s % 2 = 1) : Inv2 s s 3 := by
  have h4 : s % 8 = 1 ∨ s % 8 = 3 ∨ s % 8 = 5 ∨ s % 8 = 7 := by omega
  have e := Int.emod_def s 8
  have hs : s = 8 * (s / 8) + s % 8 := by omega
  generalize s / 8 = q at hs
  generalize s % 8 = r at hs h4
  refine ⟨-(8 * (q * q) + 2 * (q * r)) + (1 - r * r) / 8, ?_⟩
  subst hs
  have x : (8 * q + r) * (8 * q + r) = 64 * (q * q) + 16 * (q * r) + r * r := by
    grind
  rw [x]
  rcases h4 with rfl | rfl | rfl | rfl <;> simp <;> omega
theorem inv2_step {s b : Int} {r : Nat} (h : Inv2 s b r) : Inv2 s (b * (2 - s * b)) (2 * r) := by
  obtain ⟨t, e⟩ := h
  refine ⟨t * t, ?_⟩
  have e2 : s * b = 1 - 2 ^ r * t := by omega
  have e3 : s * (b * (2 - s * b)) = (1 - 2 ^ r * t) * (1 + 2 ^ r * t) := by
    rw [← Int.mul_assoc, e2]
    congr 1
    omega
  rw [e3]
  have e4 : (2 : Int) ^ (2 * r) = 2 ^ r * 2 ^ r := by rw [Nat.two_mul, Int.pow_add]
  rw [e4]
  generalize (2 : Int) ^ r = x
  grind
/-- the end -/
theorem inv2_end {m s b d : Int} {j : Nat} (h : Inv2 s b j) (z : (0 : Int) < 2 ^ j) : (m + (d - m) * b % 2 ^ j * s - d) % 2 ^ j = 0 := by
  obtain ⟨t, e⟩ := h
  have e2 : (d - m) * b % 2 ^ j = (d - m) * b - 2 ^ j * ((d - m) * b / 2 ^ j) := Int.emod_def _ _
  rw [e2]
  generalize (d - m) * b / 2 ^ j = q
  generalize (2 : Int) ^ j = x at e
  have e3 : m + ((d - m) * b - x * q) * s - d = x * ((m - d) * t - q * s) := by grind
  rw [e3, Int.mul_emod_right]
end My
namespace My
open PySem PySem.Spec PyProof.Rows L2
structure KOk (d : Nat) (k : Ky) : Prop where
  w : within d k = true
  g : k.good = true
  f : k.fit = true
  d : k.dep ≤ d
abbrev KeyOk := KOk 3
theorem KOk.mono {d e : Nat} {k : Ky} (p : KOk d k) (h : d ≤ e) : KOk e k := ⟨within_mono h _ p.w, p.g, p.f, Nat.le_trans p.d h⟩
theorem goods_of : ∀ {ks : List Ky}, (∀ k ∈ ks, k.good = true) → Ky.goods ks = true
  | [], _ => by simp [Ky.goods]
  | k :: ks, h => by rw [Ky.goods, h k List.mem_cons_self, goods_of fun y hy => h y (List.mem_cons_of_mem _ hy)]; rfl
theorem fits_of : ∀ {ks : List Ky}, (∀ k ∈ ks, k.fit = true) → Ky.fits ks = true
  | [], _ => by simp [Ky.fits]
  | k :: ks, h => by rw [Ky.fits, h k List.mem_cons_self, fits_of fun y hy => h y (List.mem_cons_of_mem _ hy)]; rfl
theorem deps_of {d : Nat} : ∀ {ks : List Ky}, (∀ k ∈ ks, k.dep ≤ d) → Ky.deps ks ≤ d
  | [], _ => by simp [Ky.deps]
  | k :: ks, h => by
    have a := h k List.mem_cons_self
    have b := deps_of (ks := ks) fun y hy => h y (List.mem_cons_of_mem _ hy)
    rw [Ky.deps]
    omega
theorem KOk.tup {d : Nat} {ks : List Ky} (h : ∀ k ∈ ks, KOk d k) (z : ks.length ≤ 6) : KOk (d + 1) (.tup ks) := by
  refine ⟨?_, ?_, ?_, ?_⟩
  · simp only [within]
    rw [decide_eq_true z, Bool.true_and, List.all_eq_true]
    exact fun k hk => (h k hk).w
  · rw [Ky.good]; exact goods_of fun k hk => (h k hk).g
  · rw [Ky.fit]; exact fits_of fun k hk => (h k hk).f
  · rw [Ky.dep]
    have := deps_of (d := d) fun k hk => (h k hk).d
    omega
theorem KOk.num {d : Nat} {i : Int} (b : -(10 ^ 60) < i ∧ i < 10 ^ 60) : KOk d (.num i) := ⟨by cases d <;> (simp only [within]; exact decide_eq_true b), by simp [Ky.good], by simp [Ky.fit], by simp [Ky.dep]⟩
theorem KOk.txt {d : Nat} {l : List Nat} (c : codesOk l) (z : l.length ≤ 60) : KOk d (.txt (SX.S l)) := by
  refine ⟨?_, ?_, ?_, by simp [Ky.dep]⟩
  · cases d <;> (simp only [within]; exact decide_eq_true (by rw [SX.S_len]; exact z))
  · simp only [Ky.good]; exact strOk_of c
  · simp only [Ky.fit]; exact decide_eq_true (by rw [SX.S_len]; omega)
/-- a text of so many signs -/
def spText : Sp := fun vs H Q _ => ∃ n z : Int, vs = [.int n, .int z] ∧ (0 ≤ z ∧ z ≤ 1000) ∧ ∀ l : List Nat, codesOk l → (l.length : Int) = z → Q (.str (SX.S l)) H
theorem len_text {vs H Q E} (h : spText vs H Q E) : vs.length = 2 := by obtain ⟨_, _, rfl, _⟩ := h; rfl
/-- a number or a text -/
def Leaf : V → Ky → Prop
  | .int i, k => k = .num i ∧ (-(10 ^ 60) < i ∧ i < 10 ^ 60)
  | .str x, k => ∃ l, k = .txt (SX.S l) ∧ x = SX.S l ∧ codesOk l ∧ l.length ≤ 60
  | _, _ => False
def spAnyLeaf : Sp := fun vs H Q _ => ∃ n : Int, vs = [.int n] ∧ (0 ≤ n ∧ n < 2 ^ 60) ∧ ∀ v k, Leaf v k → Q v H
theorem len_anyLeaf {vs H Q E} (h : spAnyLeaf vs H Q E) : vs.length = 1 := by obtain ⟨_, rfl, _⟩ := h; rfl
theorem Leaf.at {H : Hp} {v : V} {k : Ky} (h : Leaf v k) : KyAt H v k := by
  cases v with
  | int i => obtain ⟨rfl, _⟩ := h; exact .num i
  | str x => obtain ⟨l, rfl, rfl, _⟩ := h; exact .txt _
  | _ => exact h.elim
theorem Leaf.ok {d : Nat} {v : V} {k : Ky} (h : Leaf v k) : KOk d k := by
  cases v with
  | int i => obtain ⟨rfl, b⟩ := h; exact .num b
  | str x => obtain ⟨l, rfl, rfl, c, z⟩ := h; exact .txt c z
  | _ => exact h.elim
/-- leaves, in a row -/
theorem leaves_at {H : Hp} : ∀ {ys : List V}, (∀ (i : Nat) y, ys[i]? = some y → ∃ k, Leaf y k) → ∃ ks, KysAt H ys ks ∧ (∀ k ∈ ks, KOk 0 k) ∧ ks.length = ys.length
  | [], _ => ⟨[], .nil, (fun _ h => by cases h), rfl⟩
  | y :: ys, h => by
    obtain ⟨k, hk⟩ := h 0 y rfl
    obtain ⟨ks, h1, h2, h3⟩ := leaves_at (H := H) (ys := ys) fun i z e => h (i + 1) z (by simpa using e)
    refine ⟨k :: ks, .cons hk.at h1, fun x hx => ?_, by simp [h3]⟩
    rcases List.mem_cons.mp hx with rfl | hx
    · exact hk.ok
    · exact h2 x hx
theorem KysAt.set {H : Hp} : ∀ {ys : List V} {ks : List Ky} {i : Nat} {v : V} {k : Ky}, KysAt H ys ks → KyAt H v k → KysAt H (ys.set i v) (ks.set i k)
  | _, [], _, _, _, h, _ => by cases h; exact .nil
  | _, x :: xs, 0, _, _, h, q => by
    cases h with
    | cons h t => exact .cons q t
  | _, x :: xs, i + 1, _, _, h, q => by
    cases h with
    | cons h t => exact .cons h (KysAt.set t q)
theorem KysAt.drop {H : Hp} : ∀ {ks : List Ky} {ys : List V} (n : Nat), KysAt H ys ks → KysAt H (ys.drop n) (ks.drop n)
  | _, _, 0, h => h
  | [], _, n + 1, h => by cases h; exact .nil
  | k :: ks, _, n + 1, h => by
    cases h with
    | cons h t => exact KysAt.drop n t
/-- any key -/
def spAnyKey : Sp := fun vs H Q _ => ∃ n : Int, vs = [.int n] ∧ (0 ≤ n ∧ n < 2 ^ 60) ∧ ∀ H' v k, Same H H' → KyAt H' v k → KeyOk k → Q v H'
theorem len_anyKey {vs H Q E} (h : spAnyKey vs H Q E) : vs.length = 1 := by obtain ⟨_, rfl, _⟩ := h; rfl
def spKey3 : Sp := fun vs H Q _ => ∃ w b j : Int, vs = [.int w, .int b, .int j] ∧ ((0 ≤ b ∧ b < 2 ^ 42) ∧ 0 ≤ j ∧ j < 2 ^ 20) ∧ ∀ H' v k, Same H H' → KyAt H' v k → KeyOk k → Q v H'
theorem xor_range {s : Int} (h0 : 0 ≤ s) (h1 : s < 2147483647) : 0 ≤ Builtin.bitXor 11000033 s ∧ Builtin.bitXor 11000033 s < 2147483648 := by
  refine ⟨Bits.bitXor_nonneg (by decide) h0, ?_⟩
  rw [Bits.bitXor_pp (by decide) h0]
  have := Nat.xor_lt_two_pow (x := (11000033 : Int).toNat) (y := s.toNat) (n := 31) (by decide) (by omega)
  omega
theorem cut_Shi {l : List Nat} {m : Nat} (h : m ≤ l.length) : cutS (SX.S l) none (some (m : Int)) = SX.S (l.take m) := by
  rw [cut_S, HT.sIx_none, HT.sIx_nat, Nat.min_eq_left h, List.drop_zero, Nat.sub_zero]
theorem cut_Slo {l : List Nat} {m : Nat} (h : m ≤ l.length) : cutS (SX.S l) (some (m : Int)) none = SX.S (l.drop m) := by
  rw [cut_S, HT.sIx_none, HT.sIx_nat, Nat.min_eq_left h, List.take_of_length_le (by rw [List.length_drop]; omega)]
theorem len_key3 {vs H Q E} (h : spKey3 vs H Q E) : vs.length = 3 := by obtain ⟨_, _, _, rfl, _⟩ := h; rfl
end My
namespace My
open PySem PySem.Spec PyProof.Rows L2
/-! rows of keys and of None -/
def Ky.dat : Ky → Bool
  | .non => true
  | k => k.good
theorem Ky.dat_of {k : Ky} (h : k.good = true) : k.dat = true := by
  cases k <;> first | exact h | simp [Ky.good] at h
theorem Ky.dat_cases {k : Ky} (h : k.dat = true) : k = .non ∨ k.good = true := by
  cases k <;> first | exact .inr h | exact .inl rfl
def Ky.dats (ks : List Ky) : Prop := ∀ k ∈ ks, k.dat = true ∧ k.dep ≤ 60
theorem Ky.eqvD (x y : Ky) (hx : x.dat = true) (hy : y.dat = true) : PyData.eqv x.toD y.toD = Ky.beq x y := by
  rcases Ky.dat_cases hx with rfl | gx <;> rcases Ky.dat_cases hy with rfl | gy
  · simp [Ky.toD, PyData.eqv, Ky.beq]
  · cases y <;> simp [Ky.good] at gy <;> simp [Ky.toD, PyData.eqv, Ky.beq]
  · cases x <;> simp [Ky.good] at gx <;> simp [Ky.toD, PyData.eqv, Ky.beq]
  · exact Ky.eqv x y gx gy
theorem Ky.canLayD (k : Ky) (h : k.dat = true) : k.toD.canLay0 = true := by
  rcases Ky.dat_cases h with rfl | g
  · simp [Ky.toD, PyData.canLay0]
  · exact Ky.canLay k g
theorem Ky.beq_dec (k l : Ky) : Ky.beq k l = decide (k = l) := by
  cases h : Ky.beq k l with
  | true => exact (decide_eq_true ((Ky.beq_iff k l).mp h)).symm
  | false => exact (decide_eq_false fun c => by rw [(Ky.beq_iff k l).mpr c] at h; cases h).symm
theorem Ky.beqs_dec (k l : List Ky) : Ky.beqs k l = decide (k = l) := by
  cases h : Ky.beqs k l with
  | true => exact (decide_eq_true ((Ky.beqs_iff k l).mp h)).symm
  | false => exact (decide_eq_false fun c => by rw [(Ky.beqs_iff k l).mpr c] at h; cases h).symm
theorem Ky.dats_cons {k : Ky} {ks : List Ky} (h : Ky.dats (k :: ks)) : (k.dat = true ∧ k.dep ≤ 60) ∧ Ky.dats ks := ⟨h k List.mem_cons_self, fun y hy => h y (List.mem_cons_of_mem _ hy)⟩
theorem Ky.dats_append {ks ls : List Ky} (h : Ky.dats ks) (g : Ky.dats ls) : Ky.dats (ks ++ ls) := fun y hy => (List.mem_append.mp hy).elim (h y) (g y)
theorem Ky.dats_nil : Ky.dats [] := fun _ h => by cases h
theorem Ky.dats_one {k : Ky} (h : k.dat = true) (d : k.dep ≤ 60) : Ky.dats [k] := fun y hy => by
  rcases List.mem_cons.mp hy with rfl | hy
  · exact ⟨h, d⟩
  · cases hy
theorem Ky.eqvsD : ∀ xs ys : List Ky, Ky.dats xs → Ky.dats ys → PyData.eqvAll (Ky.toDs xs) (Ky.toDs ys) = Ky.beqs xs ys
  | [], [], _, _ => by simp [Ky.toDs, PyData.eqvAll, Ky.beqs]
  | x :: xs, y :: ys, h, g => by
    obtain ⟨h1, h2⟩ := Ky.dats_cons h
    obtain ⟨g1, g2⟩ := Ky.dats_cons g
    simp only [Ky.toDs, PyData.eqvAll, Ky.beqs]
    rw [Ky.eqvD x y h1.1 g1.1, Ky.eqvsD xs ys h2 g2]
  | [], _ :: _, _, _ => by simp [Ky.toDs, PyData.eqvAll, Ky.beqs]
  | _ :: _, [], _, _ => by simp [Ky.toDs, PyData.eqvAll, Ky.beqs]
theorem Ky.canLaysD : ∀ ks : List Ky, Ky.dats ks → PyData.canLayAll0 (Ky.toDs ks) = true
  | [], _ => by simp [Ky.toDs, PyData.canLayAll0]
  | k :: ks, h => by
    obtain ⟨h1, h2⟩ := Ky.dats_cons h
    simp only [Ky.toDs, PyData.canLayAll0, Ky.canLayD k h1.1, Ky.canLaysD ks h2, Bool.and_self]
theorem Ky.depsD : ∀ ks : List Ky, Ky.dats ks → PyData.depthAll (Ky.toDs ks) ≤ 60
  | [], _ => by simp [Ky.toDs, PyData.depthAll]
  | k :: ks, h => by
    obtain ⟨h1, h2⟩ := Ky.dats_cons h
    simp only [Ky.toDs, PyData.depthAll]
    rw [Ky.depth_toD]
    have := Ky.depsD ks h2
    omega
theorem Ky.shapedD {k : Ky} (h : k.dat = true) (d : k.dep ≤ 60) : SeqAt.shaped k.toD = true := by
  unfold SeqAt.shaped
  rw [Ky.canLayD k h, Ky.depth_toD, decide_eq_true (by omega)]
  rfl
theorem Ky.shapedL {ks : List Ky} (h : Ky.dats ks) : SeqAt.shaped (.list (Ky.toDs ks)) = true := by
  unfold SeqAt.shaped
  have := Ky.depsD ks h
  rw [PyData.canLay0, Ky.canLaysD ks h, PyData.depth, decide_eq_true (by omega)]
  rfl
section
variable {H H' : Hp} {K : PySem.W.Frag}
theorem KyAt.dpD (k : Ky) (v : V) (g : k.dat = true) (h : KyAt H v k) : Dp K H v k.toD := by
  rcases Ky.dat_cases g with rfl | g
  · cases h
    have e : Ky.toD .non = .none := by simp [Ky.toD]
    rw [e]
    exact .non
  · exact KyAt.dp k v g h
theorem KysAt.dpD : ∀ (ks : List Ky) (vs : List V), Ky.dats ks → KysAt H vs ks → DpAll K H vs (Ky.toDs ks)
  | [], _, _, h => by cases h; rw [Ky.toDs]; exact .nil
  | k :: ks, _, g, h => by
    obtain ⟨h1, h2⟩ := Ky.dats_cons g
    cases h with
    | cons h t => rw [Ky.toDs]; exact .cons (KyAt.dpD k _ h1.1 h) (KysAt.dpD ks _ h2 t)
theorem eq_rows {a b : Addr} {vs ws : List V} {ks ls : List Ky} {Q : VK} (ha : SqL K H a vs) (hk : KysAt H vs ks) (hb : SqL K H b ws) (hl : KysAt H ws ls) (dk : Ky.dats ks) (dl : Ky.dats ls) (q : Q (.bl (decide (ks = ls))) H) : rEqD K (.ref a) (.ref b) H Q := by
  refine ⟨.list (Ky.toDs ks), .list (Ky.toDs ls), .lst ha (KysAt.dpD ks _ dk hk), .lst hb (KysAt.dpD ls _ dl hl), Ky.shapedL dk, Ky.shapedL dl, ?_⟩
  rw [PyData.eqv, Ky.eqvsD _ _ dk dl, Ky.beqs_dec]
  exact q
theorem ne_rows {a b : Addr} {vs ws : List V} {ks ls : List Ky} {Q : VK} (ha : SqL K H a vs) (hk : KysAt H vs ks) (hb : SqL K H b ws) (hl : KysAt H ws ls) (dk : Ky.dats ks) (dl : Ky.dats ls) (q : Q (.bl (!decide (ks = ls))) H) : rNeD K (.ref a) (.ref b) H Q := by
  refine ⟨.list (Ky.toDs ks), .list (Ky.toDs ls), .lst ha (KysAt.dpD ks _ dk hk), .lst hb (KysAt.dpD ls _ dl hl), Ky.shapedL dk, Ky.shapedL dl, ?_⟩
  rw [PyData.eqv, Ky.eqvsD _ _ dk dl, Ky.beqs_dec]
  exact q
theorem any_dec (k : Ky) (hk : k.dat = true) : ∀ ks : List Ky, Ky.dats ks → ((Ky.toDs ks).any fun z => PyData.eqv z k.toD) = decide (k ∈ ks)
  | [], _ => by simp [Ky.toDs]
  | x :: xs, h => by
    obtain ⟨h1, h2⟩ := Ky.dats_cons h
    rw [Ky.toDs, List.any_cons, any_dec k hk xs h2, Ky.eqvD x k h1.1 hk, Ky.beq_dec]
    by_cases e : x = k
    · subst e
      simp
    · have e' : ¬ k = x := fun c => e c.symm
      simp [e, e']
theorem in_row {v : V} {a : Addr} {vs : List V} {k : Ky} {ks : List Ky} {Q : VK} (hv : KyAt H v k) (ha : SqL K H a vs) (hks : KysAt H vs ks) (gk : k.dat = true) (dk : k.dep ≤ 60) (d : Ky.dats ks) (q : Q (.bl (decide (k ∈ ks))) H) : rInD K v (.ref a) H Q := by
  refine ⟨k.toD, Ky.toDs ks, KyAt.dpD k v gk hv, .lst ha (KysAt.dpD ks _ d hks), Ky.shapedD gk dk, Ky.shapedL d, ?_⟩
  rw [any_dec k gk ks d]
  exact q
/-- rows stay where a list is changed -/
theorem KyAt.butD {D : Addr} {xs0 : List V} (s : ∀ b o, b ≠ D → H b = some o → H' b = some o) (e : H D = some (.lst xs0)) {k : Ky} {v : V} (g : k.dat = true) (h : KyAt H v k) : KyAt H' v k := by
  rcases Ky.dat_cases g with rfl | g
  · cases h
    exact .non
  · exact KyAt.but s e k v g h
theorem KysAt.butD {D : Addr} {xs0 : List V} (s : ∀ b o, b ≠ D → H b = some o → H' b = some o) (e : H D = some (.lst xs0)) : ∀ {ks : List Ky} {vs : List V}, Ky.dats ks → KysAt H vs ks → KysAt H' vs ks
  | [], _, _, h => by cases h; exact .nil
  | k :: ks, _, g, h => by
    obtain ⟨h1, h2⟩ := Ky.dats_cons g
    cases h with
    | cons h t => exact .cons (KyAt.butD s e h1.1 h) (KysAt.butD s e h2 t)
theorem KyAt.ne_non {v : V} {k : Ky} (h : KyAt H v k) : (v = .non) ↔ (k = .non) := by
  cases h <;> simp
end
theorem units65 {A : Around} {k : Nat} (r : Room k A) : A.units + 65 < cLine := by have := r.un; omega
theorem rd_never {D : Ends} {σ : L2.St} {H : Hp} : tNever D σ H = False := rfl
theorem rd_dget {td ty : TE} {σ : L2.St} {H : Hp} {Q : VK} : tDGet td ty σ H Q = td σ H fun x H1 => ty σ H1 fun y H2 => isRef x fun a => ∃ v, DGet H2 a y (some v) ∧ Q v H2 := by
  unfold tDGet
  apply congrArg
  funext x H1
  apply congrArg
  funext y H2
  rw [← isRef_eq]
  apply propext
  constructor
  · rintro ⟨a, v, e, h⟩; exact ⟨a, e, v, h⟩
  · rintro ⟨a, e, v, h⟩; exact ⟨a, v, e, h⟩
theorem rd_din {td ty : TE} {σ : L2.St} {H : Hp} {Q : VK} : tDIn ty td σ H Q = ty σ H fun y H1 => td σ H1 fun x H2 => isRef x fun a => ∃ o, DGet H2 a y o ∧ Q (.bl o.isSome) H2 := by
  unfold tDIn
  apply congrArg
  funext y H1
  apply congrArg
  funext x H2
  rw [← isRef_eq]
  apply propext
  constructor
  · rintro ⟨a, v, e, h⟩; exact ⟨a, e, v, h⟩
  · rintro ⟨a, e, v, h⟩; exact ⟨a, v, e, h⟩
theorem rd_dnotin {td ty : TE} {σ : L2.St} {H : Hp} {Q : VK} : tDNotIn ty td σ H Q = ty σ H fun y H1 => td σ H1 fun x H2 => isRef x fun a => ∃ o, DGet H2 a y o ∧ Q (.bl (!o.isSome)) H2 := by
  unfold tDNotIn
  apply congrArg
  funext y H1
  apply congrArg
  funext x H2
  rw [← isRef_eq]
  apply propext
  constructor
  · rintro ⟨a, v, e, h⟩; exact ⟨a, e, v, h⟩
  · rintro ⟨a, e, v, h⟩; exact ⟨a, v, e, h⟩
theorem rd_dput {td ty tv : TE} {D : Ends} {σ : L2.St} {H : Hp} : sDPut td ty tv D σ H = tv σ H fun v H1 => td σ H1 fun x H2 => ty σ H2 fun y H3 => isRef x fun a => ∃ H4, DPut H3 a y v H4 ∧ D.nx σ H4 := by
  unfold sDPut
  apply congrArg
  funext v H1
  apply congrArg
  funext x H2
  apply congrArg
  funext y H3
  rw [← isRef_eq]
  apply propext
  constructor
  · rintro ⟨a, v, e, h⟩; exact ⟨a, e, v, h⟩
  · rintro ⟨a, e, v, h⟩; exact ⟨a, v, e, h⟩
def isR0 (vs : List V) (f : Addr → Prop) : Prop := match vs with | [.ref a] => f a | _ => False
theorem rd_isR0 {a : Addr} {f : Addr → Prop} : isR0 [.ref a] f = f a := rfl
theorem rd_enum {K : PySem.W.Frag} {tr : TA} {σ : L2.St} {H : Hp} {R : It → Hp → Prop} : iEnum K tr σ H R = tr σ H fun vs H1 => isR0 vs fun a => (∃ xs, SqL K H1 a xs) ∧ R (Ite K a) H1 := by
  unfold iEnum
  apply congrArg
  funext vs H1
  apply propext
  constructor
  · rintro ⟨a, xs, rfl, h, r⟩; exact ⟨⟨xs, h⟩, r⟩
  · intro h
    unfold isR0 at h
    split at h
    · obtain ⟨⟨xs, h⟩, r⟩ := h
      exact ⟨_, xs, rfl, h, r⟩
    · exact h.elim
/-- enumerate: the pair is new, then taken apart -/
theorem go_enum {K : PySem.W.Frag} {D : Ends} {σ : L2.St} {H : Hp} {a : Addr} {xs : List V} {g : TG} {tb : TS} (Pv : Nat → L2.St → Hp → Prop) (h0 : Pv 0 σ H) (hl : ∀ i σ H, i ≤ xs.length → Pv i σ H → SqL K H a xs)
    (hs : ∀ (N : L2.St → Hp → Prop) (i : Nat) x σ H T, xs[i]? = some x → Pv i σ H → Fresh H T → (∀ σ' H', Pv (i + 1) σ' H' → N σ' H') → g (.ref T) σ (upd H T (.tup [.int i, x])) fun σ2 H2 => tb { D with nx := N, ct := N, bk := D.nx } σ2 H2) (hd : ∀ σ H, Pv xs.length σ H → D.nx σ H) : forGo (Ite K a) g tb D σ H := by
  refine go_it (walk_enum (xs := xs)) Pv h0 hl ?_ hd
  rintro N i x σ H H' hi p ⟨T, x1, y1, rfl, hT, rfl, e1, e2⟩ hN
  cases e1
  exact hs N i y1 σ H T e2 p hT hN
theorem rd_aug {i : Nat} {te : TE} {ti : TIp} {D : Ends} {σ : L2.St} {H : Hp} : tAug i te ti D σ H = (match σ[i]? with | some (some x) => te σ H fun y H1 => ti x y H1 fun z H2 => D.nx (σ.set i (some z)) H2 | _ => False) := by
  unfold tAug
  apply propext
  constructor
  · rintro ⟨v, e, q⟩
    rw [e]; exact q
  · intro h
    split at h
    · rename_i v e
      exact ⟨v, e, h⟩
    · exact h.elim
theorem rd_ipI {f : Int → Int → Int} {i j : Int} {H : Hp} {Q : VK} : ipI f (.int i) (.int j) H Q = Q (.int (f i j)) H := by
  unfold ipI
  apply propext
  constructor
  · rintro ⟨a, b, e1, e2, q⟩
    cases e1; cases e2; exact q
  · intro q
    exact ⟨i, j, rfl, rfl, q⟩
def sizeB (n : Int) : Bool := decide (8 ≤ n ∧ n ≤ 4096) && decide (Builtin.bitAnd n (n - 1) = 0)
theorem sizeB_pow {j : Nat} (h0 : 3 ≤ j) (h1 : j ≤ 12) : sizeB (2 ^ j) = true := by
  have h : (List.range 13).all (fun j => decide (j < 3) || sizeB (2 ^ j)) = true := by decide +kernel
  have := (List.all_eq_true.mp h) j (List.mem_range.mpr (by omega))
  rw [decide_eq_false (by omega), Bool.false_or] at this
  exact this
theorem at_any {xs : List V} {c : Int} (h0 : 0 ≤ c) (h1 : c < xs.length) : ∃ v, xs[c.toNat]? = some v ∧ atI xs c = some v := by
  have hlt : c.toNat < xs.length := by omega
  refine ⟨xs[c.toNat], List.getElem?_eq_getElem hlt, ?_⟩
  obtain ⟨j, rfl⟩ : ∃ j : Nat, c = (j : Int) := ⟨c.toNat, by omega⟩
  exact atI_nat (List.getElem?_eq_getElem hlt)
theorem get_int {cs : List Int} {s : Int} (h0 : 0 ≤ s) (h1 : s < cs.length) : (cs.map V.int)[s.toNat]? = some (.int (getI cs s)) := by
  rw [List.getElem?_map, List.getElem?_eq_getElem (by omega)]
  unfold getI
  rw [List.getD_eq_getElem?_getD, List.getElem?_eq_getElem (by omega)]
  rfl
end My
namespace My
open PySem PySem.Spec PyProof.Rows L2
/-! laying a row of keys into slots -/
theorem inv_of {s : Int} (h : s % 2 = 1) {j : Nat} (hj : j ≤ 12) : ∃ b, Inv2 s b j := ⟨_, inv2_mono (inv2_step (inv2_step (inv2_start h))) (by omega)⟩
theorem stride_odd (m : Int) : strideF m % 2 = 1 := by rw [strideF_eq]; omega
theorem reach (m : Int) {d : Int} {j : Nat} (hj : j ≤ 12) (h0 : 0 ≤ d) (h1 : d < 2 ^ j) : ∃ c : Nat, (c : Int) < 2 ^ j ∧ probeF m (2 ^ j) c = d := by
  obtain ⟨b, hb⟩ := inv_of (stride_odd m) hj
  have z : (0 : Int) < 2 ^ j := (pow_le hj).1
  have n0 := Int.emod_nonneg ((d - m) * b) (Int.ne_of_gt z)
  have n1 := Int.emod_lt_of_pos ((d - m) * b) z
  refine ⟨((d - m) * b % 2 ^ j).toNat, by omega, ?_⟩
  rw [probeF_eq, Int.toNat_of_nonneg n0]
  exact (slot_of h0 h1 (inv2_end hb z)).symm
theorem probe_range (m c : Int) {j : Nat} (hj : j ≤ 12) : 0 ≤ probeF m (2 ^ j) c ∧ probeF m (2 ^ j) c < 2 ^ j := by
  have z : (0 : Int) < 2 ^ j := (pow_le hj).1
  rw [probeF_eq]
  exact ⟨Int.emod_nonneg _ (Int.ne_of_gt z), Int.emod_lt_of_pos _ z⟩
theorem probe_next (m : Int) (c j : Nat) : (probeF m (2 ^ j) (c : Int) + strideF m) % 2 ^ j = probeF m (2 ^ j) ((c + 1 : Nat) : Int) := by
  rw [probeF_eq, probeF_eq, Int.emod_add_emod]
  congr 1
  rw [Int.natCast_add, Int.add_mul, Int.add_assoc]
  simp
theorem probe_zero (m : Int) (j : Nat) : m % 2 ^ j = probeF m (2 ^ j) ((0 : Nat) : Int) := by
  rw [probeF_eq]
  simp
def Bare (cs : List Int) (j : Nat) (m : Int) (n : Nat) : Prop := n < 2 ^ j ∧ getI cs (probeF m (2 ^ j) n) = -1 ∧ ∀ i : Nat, i < n → getI cs (probeF m (2 ^ j) i) ≠ -1
def bareN (cs : List Int) (j : Nat) (m : Int) : Nat := ((List.range (2 ^ j)).find? fun c : Nat => decide (getI cs (probeF m (2 ^ j) (c : Int)) = -1)).getD 0
theorem getI_mem {cs : List Int} {x : Int} (h : x ∈ cs) : ∃ s : Nat, s < cs.length ∧ getI cs s = x := by
  obtain ⟨s, hs, e⟩ := List.mem_iff_getElem.mp h
  refine ⟨s, hs, ?_⟩
  unfold getI
  rw [Int.toNat_natCast, List.getD_eq_getElem?_getD, List.getElem?_eq_getElem hs]
  exact e
theorem pow_cast (j : Nat) : ((2 ^ j : Nat) : Int) = (2 : Int) ^ j := by norm_cast
theorem bare_ex {cs : List Int} {j : Nat} (m : Int) (hj : j ≤ 12) (e : cs.length = 2 ^ j) (h : (-1) ∈ cs) : Bare cs j m (bareN cs j m) := by
  obtain ⟨s, hs, es⟩ := getI_mem h
  obtain ⟨c, hc, ec⟩ := reach m (d := s) hj (by omega) (by have := pow_cast j; omega)
  have hc' : c < 2 ^ j := by have := pow_cast j; omega
  cases q : (List.range (2 ^ j)).find? fun c : Nat => decide (getI cs (probeF m (2 ^ j) (c : Int)) = -1) with
  | none =>
    rw [List.find?_eq_none] at q
    have := q c (List.mem_range.mpr hc')
    rw [ec, es] at this
    exact (this (by decide)).elim
  | some n =>
    have en : bareN cs j m = n := by unfold bareN; rw [q]; rfl
    rw [en]
    rw [List.find?_range_eq_some] at q
    obtain ⟨q1, q2, q3⟩ := q
    refine ⟨List.mem_range.mp q2, of_decide_eq_true q1, fun i hi => ?_⟩
    have := q3 i hi
    simpa using this
theorem Bare.uniq {cs : List Int} {j : Nat} {m : Int} {a b : Nat} (p : Bare cs j m a) (q : Bare cs j m b) : a = b := by
  rcases Nat.lt_trichotomy a b with h | h | h
  · exact absurd p.2.1 (q.2.2 a h)
  · exact h
  · exact absurd q.2.1 (p.2.2 b h)
theorem getI_set {cs : List Int} {a b v : Int} (h0 : 0 ≤ a) (h1 : a < cs.length) (hb : 0 ≤ b) : getI (cs.set a.toNat v) b = if b = a then v else getI cs b := by
  unfold getI
  rw [List.getD_eq_getElem?_getD, List.getElem?_set]
  by_cases e : b = a
  · subst e
    rw [if_pos rfl, if_pos (by omega), if_pos rfl]
    rfl
  · rw [if_neg (by omega), if_neg e, List.getD_eq_getElem?_getD]
def layS (cs : List Int) (j i : Nat) (k : Ky) : List Int := if k = .non then cs else cs.set (probeF k.stamp (2 ^ j) (bareN cs j k.stamp)).toNat i
def layN (j : Nat) (ks : List Ky) : Nat → List Int
  | 0 => List.replicate (2 ^ j) (-1)
  | i + 1 => match ks[i]? with
    | some k => layS (layN j ks i) j i k
    | none => layN j ks i
structure Laid (ks : List Ky) (j i : Nat) (cs : List Int) : Prop where
  len : cs.length = 2 ^ j
  cnt : 2 ^ j ≤ cs.count (-1) + i
  cell : ∀ s : Int, 0 ≤ s → s < 2 ^ j → getI cs s = -1 ∨ (0 ≤ getI cs s ∧ getI cs s < i ∧ ∃ k, ks[(getI cs s).toNat]? = some k ∧ k ≠ .non)
  inj : ∀ s t : Int, 0 ≤ s → s < 2 ^ j → 0 ≤ t → t < 2 ^ j → getI cs s = getI cs t → getI cs s ≠ -1 → s = t
  ahead : ∀ (p : Nat) k, p < i → ks[p]? = some k → k ≠ .non → ∃ n : Nat, n < 2 ^ j ∧ getI cs (probeF k.stamp (2 ^ j) n) = p ∧ ∀ t : Nat, t < n → 0 ≤ getI cs (probeF k.stamp (2 ^ j) t) ∧ getI cs (probeF k.stamp (2 ^ j) t) < p
theorem Laid.mem {ks : List Ky} {j i : Nat} {cs : List Int} (h : Laid ks j i cs) (hi : i < 2 ^ j) : (-1) ∈ cs := by
  have := h.cnt
  exact List.count_pos_iff.mp (by omega)
theorem laid_zero (ks : List Ky) (j : Nat) : Laid ks j 0 (layN j ks 0) := by
  have e : ∀ s : Int, 0 ≤ s → s < 2 ^ j → getI (List.replicate (2 ^ j) (-1 : Int)) s = -1 := by
    intro s h0 h1
    have := pow_cast j
    unfold getI
    rw [List.getD_eq_getElem?_getD, List.getElem?_replicate, if_pos (by omega)]
    rfl
  refine ⟨List.length_replicate, ?_, fun s h0 h1 => .inl (e s h0 h1), fun s t h0 h1 _ _ _ hn => absurd (e s h0 h1) hn, fun p k hp => by omega⟩
  show 2 ^ j ≤ (List.replicate (2 ^ j) (-1 : Int)).count (-1) + 0
  rw [List.count_replicate_self]
  omega
theorem laid_step {ks : List Ky} {j i : Nat} {cs : List Int} {k : Ky} (hj : j ≤ 12) (hi : i < 2 ^ j) (h : Laid ks j i cs) (hk : ks[i]? = some k) : Laid ks j (i + 1) (layS cs j i k) := by
  unfold layS
  by_cases hn : k = .non
  · rw [if_pos hn]
    refine ⟨h.len, by have := h.cnt; omega, fun s h0 h1 => ?_, h.inj, fun p k' hp e hk' => ?_⟩
    · rcases h.cell s h0 h1 with q | ⟨q1, q2, q3⟩
      · exact .inl q
      · exact .inr ⟨q1, by omega, q3⟩
    · rcases Nat.lt_or_ge p i with hp' | hp'
      · exact h.ahead p k' hp' e hk'
      · have : p = i := by omega
        subst this
        rw [hk] at e
        cases e
        exact absurd hn hk'
  · rw [if_neg hn]
    obtain ⟨b1, b2, b3⟩ := bare_ex k.stamp hj h.len (h.mem hi)
    generalize bareN cs j k.stamp = n at b1 b2 b3 ⊢
    obtain ⟨r0, r1⟩ := probe_range k.stamp n hj
    have hl := h.len
    have pc := pow_cast j
    have gs : ∀ t : Int, 0 ≤ t → getI (cs.set (probeF k.stamp (2 ^ j) n).toNat i) t = if t = probeF k.stamp (2 ^ j) n then (i : Int) else getI cs t := fun t ht => getI_set r0 (by omega) ht
    have lt : (probeF k.stamp (2 ^ j) n).toNat < cs.length := by omega
    refine ⟨by rw [List.length_set]; exact hl, ?_, fun s h0 h1 => ?_, fun s t h0 h1 t0 t1 e ne => ?_, fun p k' hp e hk' => ?_⟩
    · have c := h.cnt
      rw [List.count_set lt]
      split <;> split <;> omega
    · rw [gs s h0]
      split
      · exact .inr ⟨by omega, by omega, k, by rw [Int.toNat_natCast]; exact hk, hn⟩
      · rcases h.cell s h0 h1 with q | ⟨q1, q2, q3⟩
        · exact .inl q
        · exact .inr ⟨q1, by omega, q3⟩
    · rw [gs s h0, gs t t0] at e
      rw [gs s h0] at ne
      split at e <;> split at e
      · omega
      · rcases h.cell t t0 t1 with q | ⟨q1, q2, q3⟩ <;> omega
      · rcases h.cell s h0 h1 with q | ⟨q1, q2, q3⟩ <;> omega
      · rename_i c1 c2
        rw [if_neg c1] at ne
        exact h.inj s t h0 h1 t0 t1 e ne
    · have keep : ∀ c : Nat, getI cs (probeF k'.stamp (2 ^ j) c) ≠ -1 → getI (cs.set (probeF k.stamp (2 ^ j) n).toNat i) (probeF k'.stamp (2 ^ j) c) = getI cs (probeF k'.stamp (2 ^ j) c) := by
        intro c hc
        rw [gs _ (probe_range _ _ hj).1, if_neg]
        intro e2
        rw [e2] at hc
        exact hc b2
      rcases Nat.lt_or_ge p i with hp' | hp'
      · obtain ⟨m, a1, a2, a3⟩ := h.ahead p k' hp' e hk'
        refine ⟨m, a1, by rw [keep m (by omega)]; exact a2, fun t ht => ?_⟩
        have := a3 t ht
        rw [keep t (by omega)]
        exact this
      · have ep : p = i := by omega
        subst ep
        rw [hk] at e
        cases e
        refine ⟨n, b1, by rw [gs _ r0, if_pos rfl], fun t ht => ?_⟩
        rw [keep t (b3 t ht)]
        rcases h.cell _ (probe_range k.stamp t hj).1 (probe_range k.stamp t hj).2 with q | ⟨q1, q2, q3⟩
        · exact absurd q (b3 t ht)
        · exact ⟨q1, q2⟩
theorem laid_at {ks : List Ky} {j : Nat} (hj : j ≤ 12) (hz : ks.length < 2 ^ j) : ∀ i : Nat, i ≤ ks.length → Laid ks j i (layN j ks i)
  | 0, _ => laid_zero ks j
  | i + 1, hi => by
    have e : ks[i]? = some ks[i] := List.getElem?_eq_getElem (by omega)
    have h := laid_step hj (by omega) (laid_at hj hz i (by omega)) e
    have e2 : layN j ks (i + 1) = layS (layN j ks i) j i ks[i] := by
      rw [layN]
      simp only [e]
    rw [e2]
    exact h
theorem layN_step {ks : List Ky} {j i : Nat} {k : Ky} (h : ks[i]? = some k) : layN j ks (i + 1) = layS (layN j ks i) j i k := by
  rw [layN]
  simp only [h]
/-- the first bare slot -/
def spBare (K : PySem.W.Frag) : Sp := fun vs H Q _ => ∃ (a : Addr) (v : V) (cs : List Int) (k : Ky) (j : Nat), vs = [.ref a, v] ∧ SqL K H a (cs.map V.int) ∧ KyAt H v k ∧ (k.good = true ∧ k.dep ≤ 3) ∧ (cs.length = 2 ^ j ∧ j ≤ 12 ∧ (-1) ∈ cs) ∧ Q (.int (probeF k.stamp (2 ^ j) (bareN cs j k.stamp))) H
theorem rd_spBare {K : PySem.W.Frag} {a : Addr} {v : V} {H : Hp} {Q : VK} {E : XK} : spBare K [.ref a, v] H Q E = ∃ (cs : List Int) (k : Ky) (j : Nat), SqL K H a (cs.map V.int) ∧ KyAt H v k ∧ (k.good = true ∧ k.dep ≤ 3) ∧ (cs.length = 2 ^ j ∧ j ≤ 12 ∧ (-1) ∈ cs) ∧ Q (.int (probeF k.stamp (2 ^ j) (bareN cs j k.stamp))) H := by
  unfold spBare
  apply propext
  constructor
  · rintro ⟨a', v', cs, k, j, e, q⟩; cases e; exact ⟨cs, k, j, q⟩
  · rintro ⟨cs, k, j, q⟩; exact ⟨a, v, cs, k, j, rfl, q⟩
theorem len_bare {K : PySem.W.Frag} {vs H Q E} (h : spBare K vs H Q E) : vs.length = 2 := by obtain ⟨_, _, _, _, _, rfl, _⟩ := h; rfl
def spStream (K : PySem.W.Frag) : Sp := fun vs H Q _ => ∃ (a : Addr) (ns : List Int) (m : Int), vs = [.ref a, .int m] ∧ SqL K H a (ns.map V.int) ∧ (ns.length ≤ 100 ∧ 0 ≤ m ∧ m ≤ 10000) ∧ ∀ (p : Addr) (H' : Hp) (xs : List Int), Same H H' → Fresh H p → H' p = some (.lst (xs.map V.int)) → xs.length = m.toNat → (∀ x ∈ xs, 0 ≤ x ∧ x < 2 ^ 44) → Q (.ref p) H'
theorem len_stream {K : PySem.W.Frag} {vs H Q E} (h : spStream K vs H Q E) : vs.length = 2 := by obtain ⟨_, _, _, rfl, _⟩ := h; rfl
/-- keys, or none -/
def RowOk (ks : List Ky) : Prop := ∀ k ∈ ks, k = .non ∨ KeyOk k
theorem RowOk.dats {ks : List Ky} (h : RowOk ks) : Ky.dats ks := fun k hk => by
  rcases h k hk with rfl | h
  · exact ⟨rfl, by simp [Ky.dep]⟩
  · exact ⟨Ky.dat_of h.g, by have := h.d; omega⟩
theorem RowOk.get {ks : List Ky} {i : Nat} {k : Ky} (h : RowOk ks) (e : ks[i]? = some k) : k = .non ∨ KeyOk k := h k (List.mem_of_getElem? e)
def spCellsOf (K : PySem.W.Frag) : Sp := fun vs H Q _ => ∃ (a : Addr) (ws : List V) (ks : List Ky) (j : Nat), vs = [.ref a, .int (2 ^ j)] ∧ SqL K H a ws ∧ KysAt H ws ks ∧ RowOk ks ∧ (3 ≤ j ∧ j ≤ 12 ∧ (ks.length : Int) ≤ 2 * 2 ^ j / 3) ∧
  ∀ p H', Same H H' → Fresh H p → H' p = some (.lst ((layN j ks ks.length).map V.int)) → Q (.ref p) H'
theorem len_cellsOf {K : PySem.W.Frag} {vs H Q E} (h : spCellsOf K vs H Q E) : vs.length = 2 := by obtain ⟨_, _, _, _, rfl, _⟩ := h; rfl
def spAhead (K : PySem.W.Frag) : Sp := fun vs H Q _ => ∃ (a : Addr) (v : V) (p s : Int) (cs : List Int) (k : Ky) (j : Nat), vs = [.ref a, v, .int p, .int s] ∧ SqL K H a (cs.map V.int) ∧ KyAt H v k ∧ (k.good = true ∧ k.dep ≤ 3) ∧ (cs.length = 2 ^ j ∧ j ≤ 12) ∧
  (∃ n : Nat, n < 2 ^ j ∧ probeF k.stamp (2 ^ j) n = s ∧ ∀ t : Nat, t < n → 0 ≤ getI cs (probeF k.stamp (2 ^ j) t) ∧ getI cs (probeF k.stamp (2 ^ j) t) < p) ∧ Q (.bl true) H
theorem len_ahead {K : PySem.W.Frag} {vs H Q E} (h : spAhead K vs H Q E) : vs.length = 4 := by obtain ⟨_, _, _, _, _, _, _, rfl, _⟩ := h; rfl
def spLaid (K : PySem.W.Frag) : Sp := fun vs H Q _ => ∃ (a r : Addr) (cs : List Int) (ws : List V) (ks : List Ky) (j : Nat), vs = [.ref a, .ref r, .int (2 ^ j)] ∧ H a = some (.lst (cs.map V.int)) ∧ SqL K H r ws ∧ KysAt H ws ks ∧ RowOk ks ∧ (3 ≤ j ∧ j ≤ 12) ∧ Laid ks j ks.length cs ∧ ∀ H', Same H H' → Q (.bl true) H'
theorem len_laid {K : PySem.W.Frag} {vs H Q E} (h : spLaid K vs H Q E) : vs.length = 3 := by obtain ⟨_, _, _, _, _, _, rfl, _⟩ := h; rfl
/-- the places' slots -/
def Sl (kvs : List (Key × V)) (cs : List Int) (i : Nat) : Prop := (∀ s : Nat, s < i → getI cs s ≠ -1 → valV kvs (.inl (getI cs s)) = some (.int s)) ∧ ∀ (v : Int) x, valV kvs (.inl v) = some x → ∃ s : Nat, s < i ∧ getI cs s = v ∧ v ≠ -1
theorem Sl.nil (cs : List Int) : Sl [] cs 0 := ⟨fun s h => by omega, fun v x h => by cases h⟩
theorem Sl.skip {kvs : List (Key × V)} {cs : List Int} {i : Nat} (h : Sl kvs cs i) (e : ¬ ¬ getI cs (i : Int) = -1) : Sl kvs cs (i + 1) := by
  refine ⟨fun s hs ne => ?_, fun v x hv => ?_⟩
  · rcases Nat.lt_or_ge s i with q | q
    · exact h.1 s q ne
    · have : s = i := by omega
      subst this
      exact absurd ne e
  · obtain ⟨s, a, b⟩ := h.2 v x hv
    exact ⟨s, by omega, b⟩
theorem Sl.put {kvs : List (Key × V)} {cs : List Int} {i : Nat} {c : Int} (h : Sl kvs cs i) (e : getI cs (i : Int) = c) (ne : c ≠ -1) (nw : valV kvs (.inl c : Key) = none) : Sl (putK kvs (.inl c) (.int i)) cs (i + 1) := by
  refine ⟨fun s hs n2 => ?_, fun v x hv => ?_⟩
  · rw [valV_put]
    rcases Nat.lt_or_ge s i with q | q
    · have := h.1 s q n2
      rw [if_neg, this]
      intro c2
      rw [c2] at this
      rw [this] at nw
      cases nw
    · have : s = i := by omega
      subst this
      rw [e, if_pos rfl]
  · rw [valV_put] at hv
    split at hv
    · rename_i c2
      cases c2
      exact ⟨i, by omega, e, ne⟩
    · obtain ⟨s, a, b⟩ := h.2 v x hv
      exact ⟨s, by omega, b⟩
theorem Sl.new {ks : List Ky} {j i : Nat} {kvs : List (Key × V)} {cs : List Int} {c : Int} (L : Laid ks j ks.length cs) (h : Sl kvs cs i) (hi : i < 2 ^ j) (e : getI cs (i : Int) = c) (ne : c ≠ -1) : valV kvs (.inl c : Key) = none := by
  cases q : valV kvs (.inl c : Key) with
  | none => rfl
  | some x =>
    obtain ⟨s, h1, h2, _⟩ := h.2 c x q
    have pc := pow_cast j
    have := L.inj s i (by omega) (by omega) (by omega) (by omega) (by rw [h2, e]) (by rw [h2]; exact ne)
    omega
end My
namespace My
open PySem PySem.Spec PyProof.Rows L2
/-! papers -/
section
variable {H H' : Hp} {K : PySem.W.Frag}
theorem eq_any {v w : V} {k l : Ky} {Q : VK} (hv : KyAt H v k) (hw : KyAt H w l) (gk : k.dat = true) (gl : l.dat = true) (dk : k.dep ≤ 60) (dl : l.dep ≤ 60) (q : Q (.bl (decide (k = l))) H) : rEqD K v w H Q := by
  refine ⟨k.toD, l.toD, KyAt.dpD k v gk hv, KyAt.dpD l w gl hw, Ky.shapedD gk dk, Ky.shapedD gl dl, ?_⟩
  rw [Ky.eqvD _ _ gk gl, Ky.beq_dec]
  exact q
theorem ne_any {v w : V} {k l : Ky} {Q : VK} (hv : KyAt H v k) (hw : KyAt H w l) (gk : k.dat = true) (gl : l.dat = true) (dk : k.dep ≤ 60) (dl : l.dep ≤ 60) (q : Q (.bl (!decide (k = l))) H) : rNeD K v w H Q := by
  refine ⟨k.toD, l.toD, KyAt.dpD k v gk hv, KyAt.dpD l w gl hw, Ky.shapedD gk dk, Ky.shapedD gl dl, ?_⟩
  rw [Ky.eqvD _ _ gk gl, Ky.beq_dec]
  exact q
end
theorem RowOk.one {k : Ky} (h : k = .non ∨ KeyOk k) : k.dat = true ∧ k.dep ≤ 60 := by
  rcases h with rfl | h
  · exact ⟨rfl, by simp [Ky.dep]⟩
  · exact ⟨Ky.dat_of h.g, by have := h.d; omega⟩
def CellsOk (cs : List Int) (n : Nat) : Prop := ∀ s : Int, 0 ≤ s → s < cs.length → getI cs s = -1 ∨ getI cs s = -2 ∨ (0 ≤ getI cs s ∧ getI cs s < n)
def stopB (cs : List Int) (ks : List Ky) (j : Nat) (k : Ky) (n : Nat) : Bool := decide (getI cs (probeF k.stamp (2 ^ j) n) = -1) || (decide (getI cs (probeF k.stamp (2 ^ j) n) ≠ -2) && decide (ks[(getI cs (probeF k.stamp (2 ^ j) n)).toNat]? = some k))
def paperN (cs : List Int) (ks : List Ky) (j : Nat) (k : Ky) : Nat := match (List.range (2 ^ j)).find? (stopB cs ks j k) with
  | some n => n + 1
  | none => 2 ^ j
def pairK (a b : Int) : Ky := .tup [.num a, .num b]
def pairAt (cs : List Int) (j : Nat) (k : Ky) (n : Nat) : Ky := pairK (probeF k.stamp (2 ^ j) n) (getI cs (probeF k.stamp (2 ^ j) n))
def paperK (cs : List Int) (ks : List Ky) (j : Nat) (k : Ky) : List Ky := (List.range (paperN cs ks j k)).map (pairAt cs j k)
theorem paperN_stop {cs : List Int} {ks : List Ky} {j i : Nat} {k : Ky} (hi : i < 2 ^ j) (h : stopB cs ks j k i = true) (b : ∀ t : Nat, t < i → stopB cs ks j k t = false) : paperN cs ks j k = i + 1 := by
  have e : (List.range (2 ^ j)).find? (stopB cs ks j k) = some i := by
    rw [List.find?_range_eq_some]
    exact ⟨h, List.mem_range.mpr hi, fun t ht => by rw [b t ht]; rfl⟩
  unfold paperN
  rw [e]
theorem paperN_none {cs : List Int} {ks : List Ky} {j : Nat} {k : Ky} (b : ∀ t : Nat, t < 2 ^ j → stopB cs ks j k t = false) : paperN cs ks j k = 2 ^ j := by
  have e : (List.range (2 ^ j)).find? (stopB cs ks j k) = none := by
    rw [List.find?_eq_none]
    intro t ht
    rw [b t (List.mem_range.mp ht)]
    decide
  unfold paperN
  rw [e]
theorem paperN_range (cs : List Int) (ks : List Ky) (j : Nat) (k : Ky) : 0 < paperN cs ks j k ∧ paperN cs ks j k ≤ 2 ^ j ∧ (∀ t : Nat, t + 1 < paperN cs ks j k → stopB cs ks j k t = false) ∧ (paperN cs ks j k < 2 ^ j → stopB cs ks j k (paperN cs ks j k - 1) = true) ∧
    ((∃ t : Nat, t < 2 ^ j ∧ stopB cs ks j k t = true) → stopB cs ks j k (paperN cs ks j k - 1) = true) := by
  have z : 0 < 2 ^ j := Nat.pow_pos (by decide)
  cases q : (List.range (2 ^ j)).find? (stopB cs ks j k) with
  | none =>
    have q' := q
    rw [List.find?_eq_none] at q
    have b : ∀ t : Nat, t < 2 ^ j → stopB cs ks j k t = false := fun t ht => by simpa using q t (List.mem_range.mpr ht)
    have e := paperN_none b
    rw [e]
    refine ⟨z, Nat.le_refl _, fun t ht => b t (by omega), fun h => by omega, fun ⟨t, h1, h2⟩ => ?_⟩
    rw [b t h1] at h2
    cases h2
  | some n =>
    rw [List.find?_range_eq_some] at q
    obtain ⟨q1, q2, q3⟩ := q
    have q2 := List.mem_range.mp q2
    have b : ∀ t : Nat, t < n → stopB cs ks j k t = false := fun t ht => by simpa using q3 t ht
    rw [paperN_stop q2 q1 b]
    exact ⟨by omega, by omega, fun t ht => b t (by omega), fun _ => q1, fun _ => q1⟩
def spPaper (K : PySem.W.Frag) : Sp := fun vs H Q _ => ∃ (a r : Addr) (v : V) (cs : List Int) (ws : List V) (ks : List Ky) (k : Ky) (j : Nat), vs = [.ref a, .ref r, v] ∧ SqL K H a (cs.map V.int) ∧ SqL K H r ws ∧ KysAt H ws ks ∧ KyAt H v k ∧ RowOk ks ∧ KeyOk k ∧
  (cs.length = 2 ^ j ∧ j ≤ 12) ∧ CellsOk cs ks.length ∧ ∀ (p : Addr) (H' : Hp) (xs : List V), Same H H' → Fresh H p → H' p = some (.lst xs) → KysAt H' xs (paperK cs ks j k) → Q (.ref p) H'
theorem len_paper {K : PySem.W.Frag} {vs H Q E} (h : spPaper K vs H Q E) : vs.length = 3 := by obtain ⟨_, _, _, _, _, _, _, _, rfl, _⟩ := h; rfl
def lastCell (cs : List Int) (ks : List Ky) (j : Nat) (k : Ky) : Int := getI cs (probeF k.stamp (2 ^ j) ((paperN cs ks j k - 1 : Nat) : Int))
def spPlaceOf (K : PySem.W.Frag) : Sp := fun vs H Q _ => ∃ (a r : Addr) (v : V) (cs : List Int) (ws : List V) (ks : List Ky) (k : Ky) (j : Nat), vs = [.ref a, .ref r, v] ∧ SqL K H a (cs.map V.int) ∧ SqL K H r ws ∧ KysAt H ws ks ∧ KyAt H v k ∧ RowOk ks ∧ KeyOk k ∧
  (cs.length = 2 ^ j ∧ j ≤ 12) ∧ CellsOk cs ks.length ∧ ∀ (H' : Hp), Same H H' → Q (if lastCell cs ks j k = -1 then .non else .int (lastCell cs ks j k)) H'
theorem len_placeOf {K : PySem.W.Frag} {vs H Q E} (h : spPlaceOf K vs H Q E) : vs.length = 3 := by obtain ⟨_, _, _, _, _, _, _, _, rfl, _⟩ := h; rfl
theorem KysAt.at : ∀ {H : Hp} {ks : List Ky} {vs : List V} {i : Nat} {k : Ky}, KysAt H vs ks → ks[i]? = some k → ∃ v, vs[i]? = some v ∧ KyAt H v k
  | _, [], _, _, _, _, e => by simp at e
  | _, x :: ks, _, 0, k, h, e => by
    cases h with
    | cons h t =>
      simp at e
      subst e
      exact ⟨_, rfl, h⟩
  | _, x :: ks, _, i + 1, k, h, e => by
    cases h with
    | cons h t =>
      obtain ⟨v, e', h'⟩ := KysAt.at (i := i) t (by simpa using e)
      exact ⟨v, by simpa using e', h'⟩
theorem atI_last {xs : List V} {v : V} (h : xs[xs.length - 1]? = some v) : atI xs (-1) = some v := by
  have hp : 0 < xs.length := by
    rcases Nat.eq_zero_or_pos xs.length with e | e
    · rw [List.length_eq_zero_iff] at e
      subst e
      cases h
    · exact e
  have e : ixN xs.length (-1) = some (xs.length - 1) := by
    unfold ixN
    rw [if_neg (by decide), if_pos (by omega)]
    congr 1
    omega
  unfold atI
  rw [e]
  exact h
theorem pair_of {H : Hp} {v : V} {a b : Int} (h : KyAt H v (pairK a b)) : ∃ p : Addr, v = .ref p ∧ H p = some (.tup [.int a, .int b]) := by
  unfold pairK at h
  cases h with
  | tup h p =>
    cases p with
    | cons h1 t =>
      cases t with
      | cons h2 t =>
        cases t
        cases h1
        cases h2
        exact ⟨_, rfl, h⟩
theorem pairK_dat (a b : Int) : (pairK a b).dat = true ∧ (pairK a b).dep ≤ 60 := by
  unfold pairK
  refine ⟨by simp [Ky.dat, Ky.good, Ky.goods], by simp [Ky.dep, Ky.deps]⟩
def spPaperB (K : PySem.W.Frag) : Sp := fun vs H Q _ => ∃ (p a r : Addr) (v : V) (xs : List V) (cs : List Int) (ws : List V) (ks : List Ky) (k : Ky) (j : Nat), vs = [.ref p, .ref a, .ref r, v] ∧ H p = some (.lst xs) ∧ KysAt H xs (paperK cs ks j k) ∧ SqL K H a (cs.map V.int) ∧ SqL K H r ws ∧ KysAt H ws ks ∧ KyAt H v k ∧ RowOk ks ∧ KeyOk k ∧
  (cs.length = 2 ^ j ∧ j ≤ 12) ∧ CellsOk cs ks.length ∧ (-1) ∈ cs ∧ ∀ (H' : Hp), Same H H' → Q (.bl true) H'
theorem len_paperB {K : PySem.W.Frag} {vs H Q E} (h : spPaperB K vs H Q E) : vs.length = 4 := by obtain ⟨_, _, _, _, _, _, _, _, _, _, rfl, _⟩ := h; rfl
theorem stop_ex {cs : List Int} {ks : List Ky} {j : Nat} {k : Ky} (hj : j ≤ 12) (e : cs.length = 2 ^ j) (h : (-1) ∈ cs) : ∃ t : Nat, t < 2 ^ j ∧ stopB cs ks j k t = true := by
  have b := bare_ex k.stamp hj e h
  refine ⟨_, b.1, ?_⟩
  unfold stopB
  rw [b.2.1]
  rfl
theorem paper_stops {cs : List Int} {ks : List Ky} {j : Nat} {k : Ky} (hj : j ≤ 12) (e : cs.length = 2 ^ j) (h : (-1) ∈ cs) {i : Nat} (hi : i < paperN cs ks j k) : stopB cs ks j k i = decide (i = paperN cs ks j k - 1) := by
  obtain ⟨n0, n1, n2, n3, n4⟩ := paperN_range cs ks j k
  by_cases q : i = paperN cs ks j k - 1
  · rw [decide_eq_true q, q]
    exact n4 (stop_ex hj e h)
  · rw [decide_eq_false q]
    exact n2 i (by omega)
def spPlaceB : Sp := fun vs H Q _ => ∃ c : Int, vs = [if c = -1 then .non else .int c, .int c] ∧ Q (.bl true) H
theorem len_placeB {vs H Q E} (h : spPlaceB vs H Q E) : vs.length = 2 := by obtain ⟨_, rfl, _⟩ := h; rfl
def spRow (K : PySem.W.Frag) : Sp := fun vs H Q _ => ∃ (a : Addr) (xs : List Int) (w b : Int), vs = [.ref a, .int w, .int b] ∧ SqL K H a (xs.map V.int) ∧ (∀ x ∈ xs, 0 ≤ x ∧ x < 2 ^ 44) ∧ (xs.length ≤ 1000 ∧ 0 ≤ b ∧ b < 2 ^ 42) ∧
  ∀ (p : Addr) (H' : Hp) (ws : List V) (ks : List Ky), Same H H' → Fresh H p → H' p = some (.lst ws) → KysAt H' ws ks → RowOk ks → ws.length = xs.length → Q (.ref p) H'
theorem len_row {K : PySem.W.Frag} {vs H Q E} (h : spRow K vs H Q E) : vs.length = 3 := by obtain ⟨_, _, _, _, rfl, _⟩ := h; rfl
/-- two lists of a list of ints and a row -/
theorem eq_handed {K : PySem.W.Frag} {H : Hp} {a b c d r q : Addr} {cs : List Int} {ws us : List V} {ks : List Ky} {Q : VK} (ha : SqL K H a [.ref c, .ref r]) (hb : SqL K H b [.ref d, .ref q]) (hc : SqL K H c (cs.map V.int)) (hd : SqL K H d (cs.map V.int)) (hr : SqL K H r ws) (hw : KysAt H ws ks) (hq : SqL K H q us) (hu : KysAt H us ks) (dk : Ky.dats ks) (h : Q (.bl true) H) : rEqD K (.ref a) (.ref b) H Q := by
  have sh : SeqAt.shaped (.list [.list (cs.map PyData.int), .list (Ky.toDs ks)]) = true := by
    unfold SeqAt.shaped
    have := Ky.depsD ks dk
    simp only [PyData.canLay0, PyData.canLayAll0, canLay_ints, Ky.canLaysD ks dk, PyData.depth, PyData.depthAll, depth_ints, Bool.and_true, Bool.true_and]
    exact decide_eq_true (by omega)
  refine ⟨.list [.list (cs.map PyData.int), .list (Ky.toDs ks)], .list [.list (cs.map PyData.int), .list (Ky.toDs ks)], .lst ha (.cons (.lst hc (DpAll_ints cs)) (.cons (.lst hr (KysAt.dpD ks _ dk hw)) .nil)), .lst hb (.cons (.lst hd (DpAll_ints cs)) (.cons (.lst hq (KysAt.dpD ks _ dk hu)) .nil)), sh, sh, ?_⟩
  have e : PyData.eqv (.list [.list (cs.map PyData.int), .list (Ky.toDs ks)]) (.list [.list (cs.map PyData.int), .list (Ky.toDs ks)]) = true := by
    simp only [PyData.eqv, PyData.eqvAll, eqvAll_ints, Ky.eqvsD ks ks dk dk, Ky.beqs_dec, decide_true, Bool.and_true]
  rw [e]
  exact h
theorem getI_in {ps : List Int} {c : Int} (h0 : 0 ≤ c) (h1 : c < ps.length) : getI ps c ∈ ps := by
  have hlt : c.toNat < ps.length := by omega
  unfold getI
  rw [List.getD_eq_getElem?_getD, List.getElem?_eq_getElem hlt]
  exact List.getElem_mem hlt
theorem ne_ints {K : PySem.W.Frag} {H : Hp} {a b : Addr} {xs ys : List Int} {Q : VK} (ha : SqL K H a (xs.map V.int)) (hb : SqL K H b (ys.map V.int)) (q : Q (.bl (!decide (xs = ys))) H) : rNeD K (.ref a) (.ref b) H Q :=
  ⟨.list (xs.map PyData.int), .list (ys.map PyData.int), .lst ha (DpAll_ints xs), .lst hb (DpAll_ints ys), shaped_ints xs, shaped_ints ys, by rw [PyData.eqv, eqvAll_ints]; exact q⟩
end My
namespace My
open PySem PySem.Spec PyProof.Rows L2
/-! a sign repeated; zip -/
def rMulS : R2 := fun x y H Q => ∃ (z : Str) (c : Nat) (n : Int), x = .str z ∧ y = .int n ∧ z = ⟨#[c]⟩ ∧ (0 ≤ n ∧ n ≤ 1000) ∧ Q (.str (SX.S (List.replicate n.toNat c))) H
theorem mul_fold (c : Nat) : ∀ (n : Nat) (a : Array Nat), ((List.replicate n #[c]).foldl (· ++ ·) a).toList = a.toList ++ List.replicate n c
  | 0, a => by simp
  | n + 1, a => by
    rw [List.replicate_succ, List.foldl_cons, mul_fold c n]
    simp [List.replicate_succ]
theorem mul_one (c : Nat) {n : Int} (h : 0 ≤ n) : Txt.mul ⟨#[c]⟩ n = SX.S (List.replicate n.toNat c) := by
  unfold Txt.mul
  by_cases h1 : n < 1
  · rw [if_pos h1]
    have e : n = 0 := by omega
    subst e
    rfl
  · rw [if_neg h1]
    by_cases h2 : n = 1
    · subst h2
      rfl
    · have hl : (⟨#[c]⟩ : Str).length = 1 := rfl
      rw [if_neg (by rw [hl]; simp [h2])]
      refine TL.ext_tl ?_
      have e := mul_fold c n.toNat #[]
      simp at e
      show ((List.replicate n.toNat #[c]).foldl (· ++ ·) #[]).toList = _
      rw [e]
theorem op_mulS {X : Cx} : OpR X (binaryOp .Mult) rMulS := by
  intro pins s σ H x y v u Q I rx ry h
  obtain ⟨z, c, n, rfl, rfl, rfl, ⟨h0, h1⟩, q⟩ := h
  obtain ⟨t, rfl⟩ := rx
  obtain ⟨t2, rfl⟩ := ry
  have hl : (⟨#[c]⟩ : Str).length = 1 := rfl
  refine SB.mul (n := n) ⟨?_, fun a b => ?_, fun a b => ?_⟩ fun t' k => ?_
  · rw [decide_eq_false (by omega), decide_eq_false (by omega)]
    rfl
  · rw [hl]
    have : (1 : Int) ≤ (2 ^ 63 - 1) / n := Int.le_ediv_of_mul_le (by omega) (by omega)
    omega
  · rw [hl, Nat.one_mul]
    unfold Builtin.Str.tooLong
    simp only [sizeLine_eq]
    exact decide_eq_false (by omega)
  · rw [mul_one c h0]
    exact ⟨.str (SX.S (List.replicate n.toNat c)), H, I.tok _, ⟨_, rfl⟩, q⟩
theorem rd_mulS {z : Str} {n : Int} {H : Hp} {Q : VK} : rMulS (.str z) (.int n) H Q = ∃ c : Nat, z = ⟨#[c]⟩ ∧ (0 ≤ n ∧ n ≤ 1000) ∧ Q (.str (SX.S (List.replicate n.toNat c))) H := by
  unfold rMulS
  apply propext
  constructor
  · rintro ⟨z', c, n', e1, e2, e3, q⟩; cases e1; cases e2; exact ⟨c, e3, q⟩
  · rintro ⟨c, e3, q⟩; exact ⟨z, c, n, rfl, rfl, e3, q⟩
theorem one_sign {c : Nat} {z : Str} (h : z.cps = #[c]) : z = ⟨#[c]⟩ := by
  cases z
  exact congrArg _ h
def isR2a (vs : List V) (f : Addr → Addr → Prop) : Prop := match vs with | [.ref a, .ref b] => f a b | _ => False
theorem rd_isR2a {a b : Addr} {f : Addr → Addr → Prop} : isR2a [.ref a, .ref b] f = f a b := rfl
theorem rd_zipA {K : PySem.W.Frag} {tr : TA} {σ : L2.St} {H : Hp} {R : It → Hp → Prop} : RZ.iZipA K tr σ H R = tr σ H fun vs H1 => isR2a vs fun a b => ∃ xs ys, (SqL K H1 a xs ∧ SqL K H1 b ys ∧ R (Itz K a b) H1) ∨ (SqT K H1 a xs ∧ SqT K H1 b ys ∧ R (RZ.ItzT K a b) H1) := by
  unfold RZ.iZipA
  apply congrArg
  funext vs H1
  apply propext
  constructor
  · rintro ⟨a, b, xs, ys, rfl, h⟩; exact ⟨xs, ys, h⟩
  · intro h
    unfold isR2a at h
    split at h
    · obtain ⟨xs, ys, h⟩ := h
      exact ⟨_, _, xs, ys, rfl, h⟩
    · exact h.elim
theorem walk_zipT {K : PySem.W.Frag} {a b : Addr} {xs ys : List V} {n : Nat} (hn : n = min xs.length ys.length) : Walk (RZ.ItzT K a b) n (fun H => SqT K H a xs ∧ SqT K H b ys) (YPair (fun i => xs[i]?) (fun i => ys[i]?)) := by
  constructor
  · intro i H lt both
    have lx := List.getElem?_eq_getElem (l := xs) (i := i) (by omega)
    have ly := List.getElem?_eq_getElem (l := ys) (i := i) (by omega)
    exact ⟨xs, ys, _, _, both.1, both.2, lx, ly⟩
  · intro H both
    exact ⟨xs, ys, both.1, both.2, by omega⟩
  · intro i H v H' _ both gives
    obtain ⟨t, u1, u2, e, new, after, f1, f2⟩ := gives
    exact ⟨t, u1, u2, e, new, after, f1 xs both.1, f2 ys both.2⟩
/-- zip of two lists of one length -/
theorem go_zip {K : PySem.W.Frag} {D : Ends} {σ : L2.St} {H : Hp} {a b : Addr} {xs ys : List V} {g : TG} {tb : TS} (e : xs.length = ys.length) (Pv : Nat → L2.St → Hp → Prop) (h0 : Pv 0 σ H) (hl : ∀ i σ H, i ≤ xs.length → Pv i σ H → SqL K H a xs ∧ SqL K H b ys)
    (hs : ∀ (N : L2.St → Hp → Prop) (i : Nat) x y σ H T, xs[i]? = some x → ys[i]? = some y → Pv i σ H → Fresh H T → (∀ σ' H', Pv (i + 1) σ' H' → N σ' H') → g (.ref T) σ (upd H T (.tup [x, y])) fun σ2 H2 => tb { D with nx := N, ct := N, bk := D.nx } σ2 H2) (hd : ∀ σ H, Pv xs.length σ H → D.nx σ H) : forGo (Itz K a b) g tb D σ H := by
  refine go_it (walk_zip (xs := xs) (ys := ys) (n := xs.length) (by omega)) Pv h0 hl ?_ hd
  rintro N i x σ H H' hi p ⟨T, x1, y1, rfl, hT, rfl, e1, e2⟩ hN
  exact hs N i x1 y1 σ H T e1 e2 p hT hN
theorem rd_yes {σ : L2.St} {H : Hp} {QT : Bool → Hp → Prop} : tYes σ H QT = QT true H := rfl
/-- all of a list of True -/
theorem all_true {K : PySem.W.Frag} {H : Hp} {p : Addr} {n : Nat} {Q : VK} (h : H p = some (.lst (List.replicate n (V.bl true)))) (q : Q (.bl true) H) : rAll K [.ref p] H Q := by
  refine ⟨p, List.replicate n true, rfl, SqL.of (by rw [List.map_replicate]; exact h), ?_⟩
  have e : (List.replicate n true).all id = true := by simp
  rw [e]
  exact q
/-- a comprehension whose items are all True -/
theorem go_lct {J : It} {n : Nat} {G : Hp → Prop} {Y : Nat → Hp → V → Hp → Prop} (w : L2.Walk J n G Y) {g : TG} {te : TE} {vs : List Nat} {σ : L2.St} {H1 : Hp} {D : Addr} {Qd : Hp → Prop} (hz : n ≤ sizeLine) (hD : Fresh H1 D)
    (hG : ∀ H, Same H1 H → G H)
    (hs : ∀ (N : VK) i x H H', i < n → Same H1 H → Y i H x H' → (∀ H4, Same H H4 → N (.bl true) H4) → g x (wipe σ vs) H' fun σ2 H2 => wipe σ2 vs = wipe σ vs ∧ te σ2 H2 N)
    (hd : ∀ H, Same H1 H → H D = some (.lst (List.replicate n (V.bl true))) → Qd H) (mono : ∀ (A B : L2.St → Hp → Prop) x σ H, (∀ σ H, A σ H → B σ H) → g x σ H A → g x σ H B) : lcGo J g tYes te vs σ H1 D Qd := by
  refine go_lcm w (List.replicate n (V.bl true)) List.length_replicate hz hD hG (fun N i x H H' hi s y h => hs N i x H H' hi s y fun H4 s4 => h _ H4 ?_ s4) hd mono
  rw [List.getElem?_replicate, if_pos hi]
theorem gTup2_mono {K : PySem.W.Frag} {i j : Nat} (A B : L2.St → Hp → Prop) (x : V) (σ : L2.St) (H : Hp) (h : ∀ σ H, A σ H → B σ H) (q : gTup K 2 (gCons (gName i) (gCons (gName j) gNil)) x σ H A) : gTup K 2 (gCons (gName i) (gCons (gName j) gNil)) x σ H B := by
  obtain ⟨a, xs, rfl, hs, hl, q⟩ := q
  refine ⟨a, xs, rfl, hs, hl, ?_⟩
  match xs, hl, q with
  | [x, y], _, q =>
    simp only [rd_gCons, rd_gName, rd_gNil] at q ⊢
    exact h _ _ q
theorem rd_lenSet {K : PySem.W.Frag} {ta : TE} {σ : L2.St} {H : Hp} {Q : VK} : RZ.tLenSetI K ta σ H Q = ta σ H fun x H1 => isRef x fun l => ∃ ns : List Int, SqL K H1 l (ns.map V.int) ∧ ns.Nodup ∧ ns.length ≤ 4000 ∧ Q (.int (ns.length : Nat)) H1 := by
  unfold RZ.tLenSetI
  apply congrArg
  funext x H1
  rw [← isRef_eq]
  apply propext
  constructor
  · rintro ⟨a, v, e, h⟩; exact ⟨a, e, v, h⟩
  · rintro ⟨a, e, v, h⟩; exact ⟨a, v, e, h⟩
theorem rd_min {K : PySem.W.Frag} {a : Addr} {H : Hp} {Q : VK} : rMin K [.ref a] H Q = ∃ ns : List Int, SqL K H a (ns.map V.int) ∧ 0 < ns.length ∧ ∀ m, m ∈ ns → (∀ y, y ∈ ns → m ≤ y) → Q (.int m) H := by
  unfold rMin
  apply propext
  constructor
  · rintro ⟨a', ns, e, q⟩; cases e; exact ⟨ns, q⟩
  · rintro ⟨ns, q⟩; exact ⟨a, ns, rfl, q⟩
end My
namespace My
open PySem PySem.Spec PyProof.Rows L2
/-! values: numbers, texts, none, tuples of values -/
mutual
def Ky.val : Ky → Bool
  | .num _ => true
  | .txt x => PyData.strOk x
  | .non => true
  | .tup ks => decide (ks.length ≤ 1000) && Ky.vals ks
  | _ => false
def Ky.vals : List Ky → Bool
  | [] => true
  | k :: ks => Ky.val k && Ky.vals ks
end
theorem vals_get : ∀ {ks : List Ky} {i : Nat} {k : Ky}, Ky.vals ks = true → ks[i]? = some k → k.val = true
  | [], i, k, _, h => by simp at h
  | x :: xs, 0, k, g, h => by
    have g' : x.val = true ∧ Ky.vals xs = true := by simpa [Ky.vals] using g
    simp at h
    subst h
    exact g'.1
  | x :: xs, i + 1, k, g, h => by
    have g' : x.val = true ∧ Ky.vals xs = true := by simpa [Ky.vals] using g
    exact vals_get (ks := xs) (i := i) g'.2 (by simpa using h)
theorem vals_iff : ∀ {ks : List Ky}, Ky.vals ks = true ↔ ∀ k ∈ ks, k.val = true
  | [] => by simp [Ky.vals]
  | k :: ks => by
    rw [Ky.vals, Bool.and_eq_true, vals_iff (ks := ks)]
    simp
theorem val_of : ∀ (d : Nat) (k : Ky), within d k = true → k.good = true → k.val = true
  | _, .num _, _, _ => by simp [Ky.val]
  | _, .txt x, _, h => by simpa [Ky.val, Ky.good] using h
  | 0, .tup ks, h, _ => by simp [within] at h
  | d + 1, .tup ks, h, g => by
    simp only [within, Bool.and_eq_true, decide_eq_true_eq, List.all_eq_true] at h
    rw [Ky.val, decide_eq_true (by omega), Bool.true_and, vals_iff]
    intro k hk
    obtain ⟨i, hi, e⟩ := List.mem_iff_getElem.mp hk
    exact val_of d k (h.2 k hk) (goods_get (by simpa [Ky.good] using g) (List.getElem?_eq_some_iff.mpr ⟨hi, e⟩))
  | _, .bl _, _, h => by simp [Ky.good] at h
  | _, .non, _, h => by simp [Ky.good] at h
  | _, .lst _, _, h => by simp [Ky.good] at h
  | _, .dct, _, h => by simp [Ky.good] at h
theorem KOk.val {d : Nat} {k : Ky} (h : KOk d k) : k.val = true := val_of d k h.w h.g
theorem tup_val {ks : List Ky} (h : (Ky.tup ks).val = true) : ks.length ≤ 1000 ∧ Ky.vals ks = true := by simpa [Ky.val] using h
theorem deps_get : ∀ {ks : List Ky} {i : Nat} {k : Ky}, ks[i]? = some k → k.dep ≤ Ky.deps ks
  | [], i, k, h => by simp at h
  | x :: xs, 0, k, h => by
    simp at h
    subst h
    rw [Ky.deps]
    omega
  | x :: xs, i + 1, k, h => by
    have := deps_get (ks := xs) (i := i) (by simpa using h)
    rw [Ky.deps]
    omega
section
variable {H H' : Hp}
/-- H' keeps what stands outside of fp -/
def But (fp : List Addr) (H H' : Hp) : Prop := ∀ b o, H b = some o → b ∉ fp → H' b = some o
/-- no tuple stands at fp -/
def NoTup (H : Hp) (fp : List Addr) : Prop := ∀ b ∈ fp, ∀ xs, H b ≠ some (.tup xs)
mutual
theorem KyAt.keep {fp : List Addr} (s : But fp H H') (n : NoTup H fp) : ∀ (y : Ky) (v : V), y.val = true → KyAt H v y → KyAt H' v y
  | .num i, _, _, h => by cases h; exact .num i
  | .txt x, _, _, h => by cases h; exact .txt x
  | .non, _, _, h => by cases h; exact .non
  | .tup ks, _, g, h => by
    cases h with
    | tup h p => exact .tup (s _ _ h fun hm => n _ hm _ h) (KysAt.keep s n ks _ (tup_val g).2 p)
  | .bl _, _, g, _ => by simp [Ky.val] at g
  | .lst _, _, g, _ => by simp [Ky.val] at g
  | .dct, _, g, _ => by simp [Ky.val] at g
theorem KysAt.keep {fp : List Addr} (s : But fp H H') (n : NoTup H fp) : ∀ (ks : List Ky) (vs : List V), Ky.vals ks = true → KysAt H vs ks → KysAt H' vs ks
  | [], _, _, h => by cases h; exact .nil
  | y :: ks, _, g, h => by
    have g' : y.val = true ∧ Ky.vals ks = true := by simpa [Ky.vals] using g
    cases h with
    | cons h t => exact .cons (KyAt.keep s n y _ g'.1 h) (KysAt.keep s n ks _ g'.2 t)
end
theorem But.of (s : Same H H') (fp : List Addr) : But fp H H' := fun b o e _ => s b o e
theorem But.trans {fp : List Addr} {H1 H2 H3 : Hp} (s : But fp H1 H2) (t : But fp H2 H3) : But fp H1 H3 := fun b o e n => t b o (s b o e n) n
theorem But.mono {fp gp : List Addr} (s : But fp H H') (h : ∀ b ∈ fp, b ∈ gp) : But gp H H' := fun b o e n => s b o e fun q => n (h b q)
end
/-- a text, a number, none: told alike; tuples part by part -/
def spSame (n : Nat) : Sp := fun vs H Q _ => ∃ (v w : V) (k : Ky), vs = [v, w] ∧ KyAt H v k ∧ KyAt H w k ∧ (k.val = true ∧ k.dep ≤ n) ∧ ∀ H', Same H H' → Q (.bl true) H'
theorem len_same {n : Nat} {vs H Q E} (h : spSame n vs H Q E) : vs.length = 2 := by obtain ⟨_, _, _, rfl, _⟩ := h; rfl
def spRowsSame (K : PySem.W.Frag) : Sp := fun vs H Q _ => ∃ (a b : Addr) (xs ys : List V) (ks : List Ky), vs = [.ref a, .ref b] ∧ H a = some (.lst xs) ∧ H b = some (.lst ys) ∧ KysAt H xs ks ∧ KysAt H ys ks ∧ (∀ k ∈ ks, k.val = true ∧ k.dep ≤ 3) ∧ ks.length ≤ 5000 ∧ ∀ H', Same H H' → Q (.bl true) H'
theorem len_rowsSame {K : PySem.W.Frag} {vs H Q E} (h : spRowsSame K vs H Q E) : vs.length = 2 := by obtain ⟨_, _, _, _, _, rfl, _⟩ := h; rfl
end My
namespace My
open PySem PySem.Spec PyProof.Rows L2
/-! fields of own objects, methods, makings -/
section
variable {K : PySem.W.Frag} {H : Hp} {Q : VK} {R : Hp → Prop} {a C dx : Addr} {f : Str} {fs : List (Str × V)} {v : V} {σ : L2.St} {ta tv : TE} {D : Ends} {rd : V → V → Hp → VK → Prop}
def FldAt (K : PySem.W.Frag) (H : Hp) (a : Addr) (f : Str) (Q : VK) : Prop := ∃ C dx fs v, H a = some (.ins C dx fs) ∧ Cls K C ∧ NoAttr K C f ∧ fs.lookup f = some v ∧ Q v H
theorem rd_fld : tFld K ta f σ H Q = ta σ H fun x H1 => isRef x fun a => FldAt K H1 a f Q := by
  unfold tFld FldAt
  apply congrArg
  funext x H1
  rw [← isRef_eq]
  apply propext
  constructor
  · rintro ⟨a, C, dx, fs, v, e, h⟩; exact ⟨a, e, C, dx, fs, v, h⟩
  · rintro ⟨a, e, C, dx, fs, v, h⟩; exact ⟨a, C, dx, fs, v, e, h⟩
theorem fldAt (h : H a = some (.ins C dx fs)) (c : Cls K C) (n : NoAttr K C f) (l : fs.lookup f = some v) : FldAt K H a f Q = Q v H := by
  unfold FldAt
  apply propext
  constructor
  · rintro ⟨C', dx', fs', v', e, -, -, l', q⟩
    rw [h] at e
    cases e
    rw [l] at l'
    cases l'
    exact q
  · intro q
    exact ⟨C, dx, fs, v, h, c, n, l, q⟩
def SetAt (K : PySem.W.Frag) (H : Hp) (a : Addr) (f : Str) (y : V) (R : Hp → Prop) : Prop := ∃ C dx fs, H a = some (.ins C dx fs) ∧ Cls K C ∧ NoAttr K C f ∧ fs.length < 1000 ∧ R (upd H a (.ins C dx (putF f y fs)))
theorem rd_sfld : sFld K ta tv f D σ H = tv σ H fun y H1 => ta σ H1 fun x H2 => isRef x fun a => SetAt K H2 a f y fun H3 => D.nx σ H3 := by
  unfold sFld SetAt
  apply congrArg
  funext y H1
  apply congrArg
  funext x H2
  rw [← isRef_eq]
  apply propext
  constructor
  · rintro ⟨a, C, dx, fs, e, h⟩; exact ⟨a, e, C, dx, fs, h⟩
  · rintro ⟨a, e, C, dx, fs, h⟩; exact ⟨a, C, dx, fs, e, h⟩
theorem setAt {y : V} {gs : List (Str × V)} (h : H a = some (.ins C dx fs)) (c : Cls K C) (n : NoAttr K C f) (l : fs.length < 1000) (e : putF f y fs = gs) : SetAt K H a f y R = R (upd H a (.ins C dx gs)) := by
  unfold SetAt
  apply propext
  constructor
  · rintro ⟨C', dx', fs', e', -, -, -, q⟩
    rw [h] at e'
    cases e'
    rw [e] at q
    exact q
  · intro q
    exact ⟨C, dx, fs, h, c, n, l, by rw [e]; exact q⟩
theorem rd_aadd {i j : Int} : L2.rAdd (.int i) (.int j) H Q = Q (.int (i + j)) H := by
  unfold L2.rAdd
  apply propext
  constructor
  · rintro ⟨i', j', e1, e2, q⟩; cases e1; cases e2; exact q
  · intro q; exact ⟨i, j, rfl, rfl, q⟩
/-- o.f += e -/
def AugAt (K : PySem.W.Frag) (H : Hp) (a : Addr) (f : Str) (tv : TE) (rd : V → V → Hp → VK → Prop) (σ : L2.St) (R : Hp → Prop) : Prop := ∃ C dx fs v, H a = some (.ins C dx fs) ∧ Cls K C ∧ NoAttr K C f ∧ fs.lookup f = some v ∧
  tv σ H fun y H2 => rd v y H2 fun z H3 => ∃ dx' fs', H3 a = some (.ins C dx' fs') ∧ fs'.length < 1000 ∧ R (upd H3 a (.ins C dx' (putF f z fs')))
theorem rd_aug_fld : sFldAug K ta tv rd f D σ H = ta σ H fun x H1 => isRef x fun a => AugAt K H1 a f tv rd σ fun H3 => D.nx σ H3 := by
  unfold sFldAug AugAt
  apply congrArg
  funext x H1
  rw [← isRef_eq]
  apply propext
  constructor
  · rintro ⟨a, C, dx, fs, v, e, h⟩; exact ⟨a, e, C, dx, fs, v, h⟩
  · rintro ⟨a, e, C, dx, fs, v, h⟩; exact ⟨a, C, dx, fs, v, e, h⟩
/-- += of an int constant -/
theorem augAt {i j : Int} {gs : List (Str × V)} (h : H a = some (.ins C dx fs)) (c : Cls K C) (n : NoAttr K C f) (l : fs.lookup f = some (.int i)) (z : fs.length < 1000) (e : putF f (.int (i + j)) fs = gs) : AugAt K H a f (tC (.int j)) L2.rAdd σ R = R (upd H a (.ins C dx gs)) := by
  unfold AugAt
  apply propext
  constructor
  · rintro ⟨C', dx', fs', v', e', -, -, l', q⟩
    rw [h] at e'
    cases e'
    rw [l] at l'
    cases l'
    rw [rd_c, rd_aadd] at q
    obtain ⟨dx2, fs2, e2, -, q⟩ := q
    rw [h] at e2
    cases e2
    rw [e] at q
    exact q
  · intro q
    refine ⟨C, dx, fs, .int i, h, c, n, l, ?_⟩
    rw [rd_c, rd_aadd]
    exact ⟨dx, fs, h, z, by rw [e]; exact q⟩
/-- o.m(..): o is an instance with no field m -/
def MetAt (H : Hp) (a C : Addr) (m : Str) : Prop := ∃ dx fs, H a = some (.ins C dx fs) ∧ fs.lookup m = none
theorem rd_meth {m : Str} {sp : Sp} {dvs : List V} {E : XK} {t : TA} : tMeth C m sp dvs E ta t σ H Q = ta σ H fun x H1 => isRef x fun a => MetAt H1 a C m ∧ t σ H1 fun vs H2 => sp (.ref a :: (vs ++ dvs)) H2 Q E := by
  unfold tMeth MetAt
  apply congrArg
  funext x H1
  rw [← isRef_eq]
  apply propext
  constructor
  · rintro ⟨a, dx, fs, rfl, h, l, q⟩; exact ⟨a, rfl, ⟨dx, fs, h, l⟩, q⟩
  · rintro ⟨a, rfl, ⟨dx, fs, h, l⟩, q⟩; exact ⟨a, dx, fs, rfl, h, l, q⟩
theorem rd_make {sp : Sp} {dvs : List V} {E : XK} {t : TA} : tMake C sp dvs E t σ H Q = t σ H fun vs H1 => ∀ x dx, Fresh H1 x → Fresh H1 dx → dx ≠ x → sp (.ref x :: (vs ++ dvs)) (upd (upd H1 dx (.own x)) x (.ins C dx [])) (fun v H2 => v = .non ∧ Q (.ref x) H2) E := rfl
end
end My
namespace My
open PySem PySem.Spec PyProof.Rows L2
/-! two values alike, part by part -/
def AlikeN : Nat → Hp → V → V → Prop
  | 0, _, v, w => v = w ∧ scalV v = true
  | n + 1, H, v, w => (v = w ∧ scalV v = true) ∨ ∃ (a b : Addr) (xs ys : List V), v = .ref a ∧ w = .ref b ∧ ((H a = some (.tup xs) ∧ H b = some (.tup ys)) ∨ (H a = some (.lst xs) ∧ H b = some (.lst ys))) ∧ xs.length = ys.length ∧ xs.length ≤ 100000 ∧
    ∀ (i : Nat) x y, xs[i]? = some x → ys[i]? = some y → AlikeN n H x y
theorem AlikeN.scal {n : Nat} {H : Hp} {v : V} (h : scalV v = true) : AlikeN n H v v := by
  cases n with
  | zero => exact ⟨rfl, h⟩
  | succ n => exact .inl ⟨rfl, h⟩
theorem AlikeN.same : ∀ {n : Nat} {H H' : Hp} {v w : V}, AlikeN n H v w → Same H H' → AlikeN n H' v w
  | 0, _, _, _, _, h, _ => h
  | n + 1, H, H', v, w, h, s => by
    rcases h with h | ⟨a, b, xs, ys, e1, e2, e3, e4, e5, e6⟩
    · exact .inl h
    · exact .inr ⟨a, b, xs, ys, e1, e2, e3.elim (fun q => .inl ⟨s _ _ q.1, s _ _ q.2⟩) (fun q => .inr ⟨s _ _ q.1, s _ _ q.2⟩), e4, e5, fun i x y h1 h2 => (e6 i x y h1 h2).same s⟩
theorem alike_ky : ∀ {n : Nat} {H : Hp} {v w : V} (k : Ky), k.val = true → k.dep ≤ n → KyAt H v k → KyAt H w k → AlikeN n H v w
  | n, _, _, _, .num i, _, _, h, g => by cases h; cases g; exact .scal rfl
  | n, _, _, _, .txt x, _, _, h, g => by cases h; cases g; exact .scal rfl
  | n, _, _, _, .non, _, _, h, g => by cases h; cases g; exact .scal rfl
  | 0, _, _, _, .tup ks, _, d, _, _ => by rw [Ky.dep] at d; omega
  | n + 1, H, _, _, .tup ks, v, d, h, g => by
    rw [Ky.dep] at d
    cases h with
    | @tup a xs _ h p =>
      cases g with
      | @tup b ys _ h' p' =>
        have e1 := KysAt.len p
        have e2 := KysAt.len p'
        have := (tup_val v).1
        refine .inr ⟨a, b, xs, ys, rfl, rfl, .inl ⟨h, h'⟩, by omega, by omega, fun i x y g1 g2 => ?_⟩
        obtain ⟨k1, hk1, hx⟩ := p.get g1
        obtain ⟨k2, hk2, hy⟩ := p'.get g2
        rw [hk1] at hk2
        cases hk2
        have := deps_get hk1
        exact alike_ky k1 (vals_get (tup_val v).2 hk1) (by omega) hx hy
  | _, _, _, _, .bl _, v, _, _, _ => by simp [Ky.val] at v
  | _, _, _, _, .lst _, v, _, _, _ => by simp [Ky.val] at v
  | _, _, _, _, .dct, v, _, _, _ => by simp [Ky.val] at v
theorem alike_lst {n : Nat} {H : Hp} {a b : Addr} {xs ys : List V} {ks : List Ky} (ha : H a = some (.lst xs)) (hb : H b = some (.lst ys)) (hx : KysAt H xs ks) (hy : KysAt H ys ks) (v : ∀ k ∈ ks, k.val = true ∧ k.dep ≤ n) (z : ks.length ≤ 100000) : AlikeN (n + 1) H (.ref a) (.ref b) := by
  have e1 := KysAt.len hx
  have e2 := KysAt.len hy
  refine .inr ⟨a, b, xs, ys, rfl, rfl, .inr ⟨ha, hb⟩, by omega, by omega, fun i x y g1 g2 => ?_⟩
  obtain ⟨k1, hk1, hx1⟩ := hx.get g1
  obtain ⟨k2, hk2, hy1⟩ := hy.get g2
  rw [hk1] at hk2
  cases hk2
  obtain ⟨q1, q2⟩ := v k1 (List.mem_of_getElem? hk1)
  exact alike_ky k1 q1 q2 hx1 hy1
/-- tuples of flat things -/
theorem alike_flat {n : Nat} {H : Hp} {a b : Addr} {xs : List V} (ha : H a = some (.tup xs)) (hb : H b = some (.tup xs)) (s : ∀ x ∈ xs, scalV x = true) (z : xs.length ≤ 100000) : AlikeN (n + 1) H (.ref a) (.ref b) :=
  .inr ⟨a, b, xs, xs, rfl, rfl, .inl ⟨ha, hb⟩, rfl, z, fun i x y g1 g2 => by
    rw [g1] at g2
    cases g2
    exact .scal (s x (List.mem_of_getElem? g1))⟩
/-- what follows a cut -/
def After (u : TS) (D : Ends) (Mid : L2.St → Hp → Prop) : Prop := ∀ σ' H', Mid σ' H' → u D σ' H'
theorem rd_cut {t u : TS} {D : Ends} {σ : L2.St} {H : Hp} : C8.tCut t u D σ H = ∃ Mid : L2.St → Hp → Prop, t { D with nx := Mid } σ H ∧ After u D Mid := rfl
def spAlike (n : Nat) : Sp := fun vs H Q _ => ∃ v w, vs = [v, w] ∧ AlikeN n H v w ∧ ∀ H', Same H H' → Q (.bl true) H'
theorem len_alike {n : Nat} {vs H Q E} (h : spAlike n vs H Q E) : vs.length = 2 := by obtain ⟨_, _, rfl, _⟩ := h; rfl
theorem ix_seqK (K : PySem.W.Frag) {X : Cx} (h : X.K = K) : IxR X (rIx K) := h ▸ ix_seq
theorem rd_ixQ {K : PySem.W.Frag} {p : Addr} {i : Int} {H : Hp} {Q : VK} : rIx K (.ref p) (.int i) H Q = ∃ xs v, (SqL K H p xs ∨ SqT K H p xs) ∧ atI xs i = some v ∧ Q v H := by
  unfold rIx
  rw [rd_ixL, rd_ixT]
  apply propext
  constructor
  · rintro (⟨xs, v, h, q⟩ | ⟨xs, v, h, q⟩ | ⟨z, i, c, e, _⟩)
    · exact ⟨xs, v, .inl h, q⟩
    · exact ⟨xs, v, .inr h, q⟩
    · cases e
  · rintro ⟨xs, v, h | h, q⟩
    · exact .inl ⟨xs, v, h, q⟩
    · exact .inr (.inl ⟨xs, v, h, q⟩)
def spValue : Sp := fun vs H Q _ => ∃ n : Int, vs = [.int n] ∧ (0 ≤ n ∧ n < 2 ^ 60) ∧ ∀ H' v z, Same H H' → KyAt H' v z → z.val = true → z.dep ≤ 8 → Q v H'
theorem len_value {vs H Q E} (h : spValue vs H Q E) : vs.length = 1 := by obtain ⟨_, rfl, _⟩ := h; rfl
theorem txt_val {l : List Nat} (c : codesOk l) : (Ky.txt (SX.S l)).val = true := by rw [Ky.val]; exact strOk_of c
end My
namespace My
open PySem PySem.Spec PyProof.Rows L2
/-! methods and makings where what is raised is wished for at the slots that stand -/
section
variable {X : Cx} {CXq : CXT} {lv : Nat} {fa Cl : Addr} {fdat : FuncData} {pars : List Str} {prom : Sp} {dflt : List V} {dfv : List Value} {Ex : L2.St → XK} {nm : Str}
def tMethX (Cl : Addr) (nm : Str) (prom : Sp) (dflt : List V) (Ex : L2.St → XK) (to : TE) (ta : TA) : TE := fun σ H Q => tMeth Cl nm prom dflt (Ex σ) to ta σ H Q
def tMakeX (Cl : Addr) (prom : Sp) (dflt : List V) (Ex : L2.St → XK) (ta : TA) : TE := fun σ H Q => tMake Cl prom dflt (Ex σ) ta σ H Q
theorem pe_methX {ob first : Expr} {rest : List Expr} {to : TE} {ta : TA} {apos pos : Pos} {pl : Sem Bool} (ho : PE X ob to) (kc : Cls X.K Cl) (km : Meth X.K Cl nm fa) (ok : FnOk X.prog X.w X.K X.mg X.base CXq lv fa fdat pars prom) (room : Room lv X.A)
    (bn : Binds X.K fdat pars dfv) (vd : Vals dflt dfv) (ps : ∀ σ, PassesAt CXq X σ (Ex σ)) (as : PA X (first :: rest) ta)
    (h1 : starEach (first :: rest) X.env = (false, eval first X.env) :: starEach rest X.env := by rfl) (h2 : (backTo pos (starEach rest X.env)).any (·.1) = false := by rfl)
    (h3 : eval (.Call (.Attribute ob nm apos) (first :: rest) [] pos) X.env = (do
      let ov ← eval ob X.env
      standAt apos.atName
      let (g, bound) ← holding [ov] (getMethod ov nm pl)
      callWith pos g bound (backTo pos (starEach (first :: rest) X.env)) (backToKw pos (keywordEach [] X.env))) := by rfl) :
    PE X (.Call (.Attribute ob nm apos) (first :: rest) [] pos) (tMethX Cl nm prom dflt Ex to ta) := by
  constructor
  intro pins s0 σ H0 Qv inv hyp
  apply PySem.W.methodCall_KW (pl := pl) _ h3
  refine thn (ho.run pins s0 σ H0 _ inv hyp) ?_
  rintro u1 s1 ⟨xv, Hv, inv1, rel, ad, dd, flds, rfl, hobj, look, cont⟩
  obtain rfl : u1 = Value.ref ad := rel
  apply getmeth_ok inv1 hobj kc km look
  refine PySem.W.callWith_K (h₀ := X.base) (first := [.ref ad]) inv.ok.mod.kin km.kp ?_ h1 h2
  refine thn (as.run pos pins s1 σ Hv _ inv1 cont) ?_
  rintro us s2 ⟨args, Hw, inv2, rels, fin⟩
  exact ⟨inv2.kIn, run_fnSD (us := .ref ad :: us) (vs := .ref ad :: args) ok room bn vd (ps σ) inv2 (.cons rfl rels) fin⟩
theorem pe_meth0X {ob : Expr} {to : TE} {apos pos : Pos} {pl : Sem Bool} (ho : PE X ob to) (kc : Cls X.K Cl) (km : Meth X.K Cl nm fa) (ok : FnOk X.prog X.w X.K X.mg X.base CXq lv fa fdat pars prom) (room : Room lv X.A)
    (bn : Binds X.K fdat pars dfv) (vd : Vals dflt dfv) (ps : ∀ σ, PassesAt CXq X σ (Ex σ))
    (h3 : eval (.Call (.Attribute ob nm apos) [] [] pos) X.env = (do
      let ov ← eval ob X.env
      standAt apos.atName
      let (g, bound) ← holding [ov] (getMethod ov nm pl)
      callWith pos g bound (backTo pos (starEach [] X.env)) (backToKw pos (keywordEach [] X.env))) := by rfl) :
    PE X (.Call (.Attribute ob nm apos) [] [] pos) (tMethX Cl nm prom dflt Ex to tNil) := by
  constructor
  intro pins s0 σ H0 Qv inv hyp
  apply PySem.W.methodCall_KW (pl := pl) _ h3
  refine thn (ho.run pins s0 σ H0 _ inv hyp) ?_
  rintro u1 s1 ⟨xv, Hv, inv1, rel, ad, dd, flds, rfl, hobj, look, cont⟩
  obtain rfl : u1 = Value.ref ad := rel
  apply getmeth_ok inv1 hobj kc km look
  exact PySem.W.callWith_K0 (first := [.ref ad]) inv1.kIn km.kp (run_fnSD (us := [.ref ad]) (vs := [.ref ad]) ok room bn vd (ps σ) inv1 (.cons rfl .nil) cont)
end
/-- C.m(..), m a def of the class at C -/
def tCFun (Cl : Addr) (prom : Sp) (dflt : List V) (Ex : XK) (to : TE) (ta : TA) : TE := fun σ H Q => to σ H fun x H1 => x = .ref Cl ∧ ta σ H1 fun vs H2 => prom (vs ++ dflt) H2 Q Ex
theorem pe_cfun {X : Cx} {CXq : CXT} {lv : Nat} {fa Cl : Addr} {mc : Value} {fdat : FuncData} {pars : List Str} {prom : Sp} {dflt : List V} {dfv : List Value} {Ex : XK} {nm : Str} {ob first : Expr} {rest : List Expr} {to : TE} {ta : TA} {apos pos : Pos} {pl : Sem Bool}
    (ho : PE X ob to) (cr : ClX.CRead X.K Cl mc) (cf : PySem.W.findCls X.K (.ref Cl) mc nm = some (.val (.ref fa))) (kp : PySem.W.keepIn X.K (.ref fa) = true) (ok : FnOk X.prog X.w X.K X.mg X.base CXq lv fa fdat pars prom) (room : Room lv X.A)
    (bn : Binds X.K fdat pars dfv) (vd : Vals dflt dfv) (ps : Passes CXq X Ex) (as : PA X (first :: rest) ta)
    (h1 : starEach (first :: rest) X.env = (false, eval first X.env) :: starEach rest X.env := by rfl) (h2 : (backTo pos (starEach rest X.env)).any (·.1) = false := by rfl)
    (h3 : eval (.Call (.Attribute ob nm apos) (first :: rest) [] pos) X.env = (do
      let ov ← eval ob X.env
      standAt apos.atName
      let (g, bound) ← holding [ov] (getMethod ov nm pl)
      callWith pos g bound (backTo pos (starEach (first :: rest) X.env)) (backToKw pos (keywordEach [] X.env))) := by rfl) :
    PE X (.Call (.Attribute ob nm apos) (first :: rest) [] pos) (tCFun Cl prom dflt Ex to ta) := by
  constructor
  intro pins s0 σ H0 Qv inv hyp
  apply PySem.W.methodCall_KW (pl := pl) _ h3
  refine thn (ho.run pins s0 σ H0 _ inv hyp) ?_
  rintro u1 s1 ⟨xv, Hv, inv1, rel, rfl, cont⟩
  obtain rfl : u1 = Value.ref Cl := rel
  refine PySem.W.method_cls inv1.kIn cr.ga (ClX.getcval_ok (v := .ref fa) inv1 cr ⟨cf, rfl⟩ fun s2 inv2 => ?_)
  refine PySem.W.callWith_K (h₀ := X.base) (first := []) inv.ok.mod.kin kp ?_ h1 h2
  refine thn (as.run pos pins s2 σ Hv _ inv2 cont) ?_
  rintro us s3 ⟨args, Hw, inv3, rels, fin⟩
  exact ⟨inv3.kIn, run_fn ok room bn vd ps inv3 rels fin⟩
theorem rd_cfun {C : Addr} {sp : Sp} {dvs : List V} {E : XK} {to : TE} {t : TA} {σ : L2.St} {H : Hp} {Q : VK} : tCFun C sp dvs E to t σ H Q = to σ H fun x H1 => x = .ref C ∧ t σ H1 fun vs H2 => sp (vs ++ dvs) H2 Q E := rfl
theorem go_whileN {c : TT} {tb : TS} {D : Ends} {σ : L2.St} {H : Hp} (Pv : Nat → L2.St → Hp → Prop) (m0 : Nat) (h0 : Pv m0 σ H)
    (hs : ∀ (m : Nat) (B : Hp → Prop) σ H, Pv m σ H → (∀ H1, (∀ N : L2.St → Hp → Prop, (∀ m' σ' H', Pv m' σ' H' → m' < m → N σ' H') → tb { D with nx := N, ct := N, bk := D.nx } σ H1) → B H1) →
      c σ H fun b H1 => if b = true then B H1 else D.nx σ H1) : tWhile c tb D σ H :=
  ⟨Pv, ⟨m0, h0⟩, fun m σ H p => hs m (fun H1 => ∃ N : L2.St → Hp → Prop, (∀ σ' H', N σ' H' → ∃ m', m' < m ∧ Pv m' σ' H') ∧ tb { D with nx := N, ct := N, bk := D.nx } σ H1) σ H p
    fun H1 h => ⟨fun σ' H' => ∃ m', m' < m ∧ Pv m' σ' H', fun _ _ q => q, h _ fun m' σ' H' q l => ⟨m', l, q⟩⟩⟩
theorem rd_methX {C : Addr} {m : Str} {sp : Sp} {dvs : List V} {E : L2.St → XK} {to : TE} {t : TA} {σ : L2.St} {H : Hp} {Q : VK} : tMethX C m sp dvs E to t σ H Q = to σ H fun x H1 => isRef x fun a => MetAt H1 a C m ∧ t σ H1 fun vs H2 => sp (.ref a :: (vs ++ dvs)) H2 Q (E σ) := by
  unfold tMethX
  rw [rd_meth]
theorem rd_callSD {sp : Sp} {dvs : List V} {E : L2.St → XK} {t : TA} {σ : L2.St} {H : Hp} {Q : VK} : tCallSD sp dvs E t σ H Q = t σ H fun vs H1 => sp (vs ++ dvs) H1 Q (E σ) := rfl
end My
namespace My
open PySem PySem.Spec PyProof.Rows L2
theorem noTup_one {H : Hp} {x : Addr} {o : HO} (e : H x = some o) (n : ∀ xs, o ≠ .tup xs) : NoTup H [x] := fun b m xs z => by
  rw [List.mem_singleton] at m
  rw [m, e] at z
  cases z
  exact n _ rfl
theorem but_one {H : Hp} {x : Addr} {o : HO} : But [x] H (upd H x o) := fun b u e n => by
  rw [upd_ne (fun q => n (by rw [q]; exact List.mem_singleton_self _))]
  exact e
/-- a comprehension whose items are data: K i tells those made by i turns -/
theorem go_lck {J : It} {n : Nat} {G : Hp → Prop} {Y : Nat → Hp → V → Hp → Prop} (w : L2.Walk J n G Y) {g : TG} {tt : TT} {te : TE} {vs : List Nat} {σ : L2.St} {H1 : Hp} {D : Addr} {Qd : Hp → Prop} (K : Nat → List Ky) (h0 : K 0 = []) (hv : ∀ i, i ≤ n → Ky.vals (K i) = true) (hz : n ≤ sizeLine) (hl : ∀ i, (K i).length ≤ i) (hD : Fresh H1 D)
    (hG : ∀ H, Same H1 H → G H)
    (hs : ∀ (N : VK) (Z : Hp → Prop) i x H H', i < n → Same H1 H → Y i H x H' → (∀ y k H4, K (i + 1) = K i ++ [k] → Same H H4 → KyAt H4 y k → N y H4) → (K (i + 1) = K i → ∀ H4, Same H H4 → Z H4) →
      g x (wipe σ vs) H' fun σ2 H2 => wipe σ2 vs = wipe σ vs ∧ tt σ2 H2 fun b H3 => if b = true then te σ2 H3 N else Z H3)
    (hd : ∀ H ys, Same H1 H → H D = some (.lst ys) → KysAt H ys (K n) → Qd H) : lcGo J g tt te vs σ H1 D Qd := by
  refine lc_it w (fun i H => Same H1 H ∧ i ≤ n ∧ ∃ ys, H D = some (.lst ys) ∧ KysAt H ys (K i)) ⟨Same_upd (Same.refl _) hD, Nat.zero_le _, [], upd_same, by rw [h0]; exact .nil⟩ (fun i H _ h => hG H h.1) ?_ ?_
  · rintro i x H H' hi ⟨sm, hin, ys, hL, hr⟩ hY
    refine hs (fun y H4 => ∃ acc, H4 D = some (.lst acc) ∧ acc.length < sizeLine ∧ (Same H1 (upd H4 D (.lst (acc ++ [y]))) ∧ i + 1 ≤ n ∧ ∃ zs, (upd H4 D (.lst (acc ++ [y]))) D = some (.lst zs) ∧ KysAt (upd H4 D (.lst (acc ++ [y]))) zs (K (i + 1)))) _ i x H H' hi sm hY ?_ ?_
    · intro y k H4 e s4 hy
      have := KysAt.len hr
      have := hl i
      have v1 := hv (i + 1) hi
      refine ⟨ys, s4 _ _ hL, by omega, Same_upd0 (sm.trans s4) hD, hi, _, upd_same, ?_⟩
      refine KysAt.keep but_one (noTup_one (s4 _ _ hL) fun _ z => by cases z) _ _ v1 ?_
      rw [e]
      exact (hr.same s4 _ _).append (.cons hy .nil)
    · intro e H4 s4
      exact ⟨sm.trans s4, hi, ys, s4 _ _ hL, by rw [e]; exact hr.same s4 _ _⟩
  · rintro H ⟨sm, -, ys, hL, hr⟩
    exact hd H ys sm hL hr
theorem pe_fldK (K : PySem.W.Frag) {X : Cx} {e : Expr} {f : Str} {pos : Pos} {ta : TE} (h : X.K = K) (he : PE X e ta) (hb : attributeBase e f X.env (eval e X.env) = eval e X.env) : PE X (.Attribute e f pos) (tFld K ta f) := h ▸ pe_fld he hb
/-! range going down -/
def isR3 (vs : List V) (f : Int → Int → Int → Prop) : Prop := match vs with | [.int i, .int j, .int k] => f i j k | _ => False
theorem rd_isR3 {i j k : Int} {f : Int → Int → Int → Prop} : isR3 [.int i, .int j, .int k] f = f i j k := rfl
theorem rd_rng3 {tr : TA} {σ : L2.St} {H : Hp} {R : It → Hp → Prop} : iRng3 tr σ H R = tr σ H fun vs H1 => isR3 vs fun i j c => ∃ n, RgC i j c n ∧ R (Itc i c n) H1 := by
  unfold iRng3
  apply congrArg
  funext vs H1
  apply propext
  constructor
  · rintro ⟨i, j, c, n, rfl, h⟩; exact ⟨n, h⟩
  · intro h
    unfold isR3 at h
    split at h
    · rename_i i j c
      obtain ⟨n, h⟩ := h
      exact ⟨i, j, c, n, rfl, h⟩
    · exact h.elim
theorem go_rangeC {lo c : Int} {n : Nat} {g : TG} {tb : TS} {D : Ends} {σ : L2.St} {H : Hp} (Pv : Nat → L2.St → Hp → Prop) (h0 : Pv 0 σ H)
    (hs : ∀ (N : L2.St → Hp → Prop) (i : Nat) σ H, i < n → Pv i σ H → (∀ σ' H', Pv (i + 1) σ' H' → N σ' H') → g (.int (lo + (i : Nat) * c)) σ H fun σ2 H2 => tb { D with nx := N, ct := N, bk := D.nx } σ2 H2) (hd : ∀ σ H, Pv n σ H → D.nx σ H) : forGo (Itc lo c n) g tb D σ H :=
  for_rangeC Pv h0 (fun i σ H h1 h2 => hs _ i σ H h1 h2 fun _ _ z => z) hd
end My
namespace My
open PySem PySem.Spec PyProof.Rows L2
theorem hint_room {prog : Program} {w : World} {A : Around} {E : Value → Shared → Prop} {t : Shared} {i : Addr} {R : Bool → Shared → Prop} (kind : t.TypeIs (.ref i) "list_reverseiterator") (r : R false t) :
    wpAny (model prog w) A (Builtin.List.listLengthHint (.ref i)) R E t := by
  have parts : splitId "list_reverseiterator.__length_hint__" = some ("list_reverseiterator", "__length_hint__") := by decide +kernel
  have own : isSubtype (.type "list_reverseiterator") (.type "list_reverseiterator") = pure true := by rw [isSubtype_type]; kernel_rfl
  unfold Builtin.List.listLengthHint
  apply wpAny_bind
  apply wpAny_specialOf kind RT.nolen_lri
  apply wpAny_bind
  apply wpAny_specialOf kind RT.hint_lri
  dsimp only
  rw [parts]
  dsimp only
  apply wpAny_bind
  apply wpAny_isInstance kind own
  exact wpAny_pure r
section
variable {prog : Program} {w : World} {A : Around} {E : Value → Shared → Prop} {t : Shared}
/-- the walk over a reversed list, kept at a new list -/
theorem listed_rev {i l : Addr} {ys : Array Value} {R : Value → Shared → Prop} (calm : A.handled = none) (ri : t.heap.IsRevIter i l ((ys.size : Int) - 1)) (li : t.heap.IsList l ys) (ne : l ≠ i) (z : ys.size ≤ sizeLine)
    (fin : ∀ (g : Heap) (k : Nat) (got : Array Value) (c : Nat), (∀ b o, b ≠ i → t.heap.get? b = some o → g.get? b = some o) → g.get? t.heap.objs.size = some { cls := .type "list", dict := none, data := .seq got c, slots := #[] } → ItemsOf (fun n v => ys[ys.size - 1 - n]? = some v) got ys.size →
      R (.ref t.heap.objs.size) { t with heap := g, toks := k }) :
    wpAny (model prog w) A (call (.type "list") [.ref i]) R E t := by
  refine callType_codes (Q₁ := fun v u => v = .ref t.heap.objs.size ∧ u = { t with heap := t.heap.push { cls := .type "list", data := .seq #[] } }) F.called_list (F.typeCall_list_1 _) F.entry_list_init (code_list_new _ ⟨rfl, rfl⟩) ?_
  rintro _ _ ⟨rfl, rfl⟩
  have new : (t.heap.push { cls := .type "list", data := .seq #[] }).get? t.heap.objs.size = some { cls := .type "list", data := .seq #[] } := Heap.get?_push_size _ rfl
  refine ⟨⟨_, new, rfl⟩, F.args_list_init_2 _ _, ?_⟩
  -- what stands in the heap where the new list lies there, emptied once more
  let made : Heap := (t.heap.push { cls := .type "list", data := .seq #[] }).update t.heap.objs.size (Obj.mapSeq fun _ => #[])
  have stays : ∀ b u, t.heap.get? b = some u → made.get? b = some u := fun b u e => by
    have off : t.heap.objs.size ≠ b := fun q => Nat.lt_irrefl _ (q ▸ Heap.lt_size e)
    exact (Heap.get?_update_other _ _ off).trans (Heap.get?_push_of_some _ e)
  have there := Heap.get?_update_self (Obj.mapSeq fun _ => (#[] : Array Value)) new rfl
  obtain ⟨oi, ei, -⟩ := id ri
  obtain ⟨ol, el, -⟩ := id li
  have apart : t.heap.objs.size ≠ i ∧ t.heap.objs.size ≠ l := ⟨fun q => Nat.lt_irrefl _ (q ▸ Heap.lt_size ei), fun q => Nat.lt_irrefl _ (q ▸ Heap.lt_size el)⟩
  have ri2 : made.IsRevIter i l ((ys.size : Int) - 1) := ri.at fun u => stays i u
  have li2 : made.IsList l ys := li.at fun u => stays l u
  have kind : ({ t with heap := made } : Shared).TypeIs (.ref i) "list_reverseiterator" := ri2.typeIs
  have other : Builtin.List.listSameRef (.ref t.heap.objs.size) (.ref i) = false := by simp [Builtin.List.listSameRef, apart.1]
  unfold Builtin.«list.__init__»
  wp_walk using wpAny_pyIter_revIter ri2, hint_room kind
  have turns := (Walks.listRev (prog := prog) (w := w) (A := A.in1.in1) calm i l ne ys).toS
  have first : made.IsRevIter i l ((ys.size : Int) - 1 - ((0 : Nat) : Int)) := by simpa using ri2
  have far : t.heap.objs.size ∉ [i, l] := by simpa using apart
  refine ⟨plainId_quiet F.plain_extend_loop _, codeAny_extend_loopS turns z _ far _ _ 0 { t with heap := made } _ _ rfl (Nat.zero_le _) ⟨Nat.zero_le _, first, li2⟩ there (ItemsOf.nil _) ?_⟩
  intro u got c moved at_ all
  refine ⟨rfl, ?_⟩
  rw [Moved.eq_with moved]
  refine fin _ _ got c (fun b o nb e => moved.heap b o ?_ (stays b o e)) at_ all
  intro m
  rcases List.mem_cons.mp m with q | q
  · exact Nat.lt_irrefl _ (q ▸ Heap.lt_size e)
  · exact nb (List.mem_singleton.mp q)
end
/-- list(reversed(e)), e a list: a new list, turned about -/
def tRevNew (K : PySem.W.Frag) (te : TE) : TE := fun σ H Q => te σ H fun v H1 => isRef v fun a => ∃ xs, SqL K H1 a xs ∧ ∀ q, Fresh H1 q → Q (.ref q) (upd H1 q (.lst xs.reverse))
/-- what the walk gave, as values of the layer -/
theorem turned_vals {xs : List V} {us : List Value} {got : Array Value} (rel : Vals xs us) (all : ItemsOf (fun n v => us.toArray[us.toArray.size - 1 - n]? = some v) got us.toArray.size) : Vals xs.reverse got.toList := RT.vals_rev rel all
section
variable {X : Cx}
theorem pe_listRev {e : Expr} {te : TE} {pl pr posl posr : Pos} (calm : X.calm = true) (gl : Gl X "list") (ml : X.mg "list" = none) (gr : Gl X "reversed") (mr : X.mg "reversed" = none) (part : PE X e te)
    (one : starEach [e] X.env = (false, eval e X.env) :: starEach [] X.env := by rfl)
    (out : starEach [.Call (.Name "reversed" pr) [e] [] posr] X.env = (false, eval (.Call (.Name "reversed" pr) [e] [] posr) X.env) :: starEach [] X.env := by rfl) :
    PE X (.Call (.Name "list" pl) [.Call (.Name "reversed" pr) [e] [] posr] [] posl) (tRevNew X.K te) := by
  constructor
  intro pins s σ H Q inv want
  -- the inner call leaves a walk, laid at the end of a heap where the invariant holds
  have inner : wpAny (model X.prog X.w) X.A (eval (.Call (.Name "reversed" pr) [e] [] posr) X.env) (fun v u => ∃ (u0 : Shared) (H1 : Hp) (a : Addr) (xs : List V) (us : List Value),
      v = .ref u0.heap.objs.size ∧ u = { u0 with heap := u0.heap.push (revObj a ((us.toArray.size : Int) - 1)) } ∧ Inv X pins σ H1 u0 ∧ Vals xs us ∧ u0.heap.IsList a us.toArray ∧ xs.length ≤ sizeLine ∧ ∀ q, Fresh H1 q → Q (.ref q) (upd H1 q (.lst xs.reverse))) X.xe s := by
    refine Call_ (ld_blt inv gr mr PyProof.Rows.boot_reversed ?_)
    refine PyProof.Rows.callWith_type1 (args_cons ?_ one) one rfl
    refine thn (part.run pins s σ H _ inv want) ?_
    rintro v u0 ⟨x, H1, inv1, rel, turn⟩
    cases x with
    | ref a =>
      obtain ⟨xs, sq, turn⟩ := turn
      obtain rfl : v = Value.ref a := rel
      obtain ⟨us, vals, plain, len⟩ := inv1.list sq
      exact args_nil (call_reversed_list plain.isList ⟨u0, H1, a, xs, us, rfl, rfl, inv1, vals, plain.isList, len, turn⟩)
    | _ => exact turn.elim
  refine Call_ (ld_blt inv gl ml boot_list ?_)
  refine PyProof.Rows.callWith_type1 (args_cons (thn inner ?_) out) out rfl
  rintro v u ⟨u0, H1, a, xs, us, rfl, rfl, inv1, vals, isl, len, turn⟩
  apply args_nil
  have inv2 : Inv X pins σ H1 { u0 with heap := u0.heap.push (revObj a ((us.toArray.size : Int) - 1)) } := inv1.kept (t' := u0.toks) fun b o q => Heap.get?_push_of_some _ q
  have off := inv1.fpOk (H' := H1) (Nat.le_refl _) (inv1.hok.fresh (Nat.le_refl _))
  obtain ⟨ol, el, -⟩ := id isl
  refine listed_rev (inv1.ok.hd calm) ⟨_, Heap.get?_push_size _ rfl, rfl, rfl⟩ (isl.push _) (Nat.ne_of_lt (Heap.lt_size el)) (by rw [List.size_toArray, ← vals.length]; exact len) ?_
  intro g k got c keep lies all
  have obj : ObjOk X.prog X.w (upd H1 (u0.heap.push (revObj a ((us.toArray.size : Int) - 1))).objs.size (.lst xs.reverse)) g (u0.heap.push (revObj a ((us.toArray.size : Int) - 1))).objs.size (.lst xs.reverse) := ⟨by simpa using len, got.toList, c, turned_vals vals all, by rw [Array.toArray_toList]; exact lies⟩
  refine ⟨.ref _, _, inv2.turnedNew (ch := [u0.heap.objs.size]) (t' := k) (fun b o nb q => keep b o (fun z => nb (by simp [z])) q) (fun b mb => ?_) (Nat.le_refl _) obj, rfl, turn _ (inv2.hok.fresh (Nat.le_refl _))⟩
  rw [List.mem_singleton.mp mb]
  exact off
end
theorem rd_lstRev {K : PySem.W.Frag} {te : TE} {σ : L2.St} {H : Hp} {Q : VK} : tRevNew K te σ H Q = te σ H fun v H1 => isRef v fun a => ∃ xs, SqL K H1 a xs ∧ ∀ q, Fresh H1 q → Q (.ref q) (upd H1 q (.lst xs.reverse)) := rfl
theorem rd_revA {K : PySem.W.Frag} {te : TE} {σ : L2.St} {H : Hp} {R : It → Hp → Prop} : RT.iRevA K te σ H R = te σ H fun v H1 => isRef v fun a => ∃ xs, (SqL K H1 a xs ∧ R (Itv K a xs.length) H1) ∨ (SqT K H1 a xs ∧ R (RT.ItvT K a xs.length) H1) := by
  unfold RT.iRevA
  apply congrArg
  funext x H1
  rw [← isRef_eq]
  apply propext
  constructor
  · rintro ⟨a, xs, e, h⟩; exact ⟨a, e, xs, h⟩
  · rintro ⟨a, e, xs, h⟩; exact ⟨a, xs, e, h⟩
theorem go_rev {K : PySem.W.Frag} {a : Addr} {xs : List V} {g : TG} {tb : TS} {D : Ends} {σ : L2.St} {H : Hp} (Pv : Nat → L2.St → Hp → Prop) (h0 : Pv 0 σ H) (hl : ∀ i σ H, i ≤ xs.length → Pv i σ H → SqL K H a xs)
    (hs : ∀ (N : L2.St → Hp → Prop) i x σ H, i < xs.length → xs[xs.length - 1 - i]? = some x → Pv i σ H → (∀ σ' H', Pv (i + 1) σ' H' → N σ' H') → g x σ H fun σ2 H2 => tb { D with nx := N, ct := N, bk := D.nx } σ2 H2) (hd : ∀ σ H, Pv xs.length σ H → D.nx σ H) : forGo (Itv K a xs.length) g tb D σ H :=
  go_it (walk_rev (xs := xs)) Pv h0 hl (fun N i x σ H H' hi p y hN => by obtain ⟨rfl, e⟩ := y; exact hs N i x σ _ hi e p hN) hd
theorem rd_unl {K : PySem.W.Frag} {n : Nat} {t : TGs} {a : Addr} {σ : L2.St} {H : Hp} {R : L2.St → Hp → Prop} : gUnl K n t (.ref a) σ H R = ∃ xs, SqL K H a xs ∧ xs.length = n ∧ t xs σ H R := by
  unfold gUnl
  apply propext
  constructor
  · rintro ⟨a', xs, e, q⟩; cases e; exact ⟨xs, q⟩
  · rintro ⟨xs, q⟩; exact ⟨a, xs, rfl, q⟩
end My
local macro_rules | `(tactic| walk_at "rd") => `(tactic| try simp only [↓My.rd_var, ↓My.rd_c, ↓My.rd_op, ↓My.rd_un, ↓My.rd_test, ↓My.rd_B, ↓My.rd_and, ↓My.rd_or, ↓My.rd_not, ↓My.rd_andV, ↓My.rd_orV, ↓My.rd_notV, ↓My.rd_ifE, ↓My.rd_chain, ↓My.rd_ifS, ↓My.rd_ret, ↓My.rd_retN, ↓My.rd_seq, ↓My.rd_dnewK, ↓My.rd_dsetd, ↓My.rd_lcg, ↓My.rd_M1, ↓My.rd_BM, ↓My.rd_BM0, ↓My.rd_gSub, ↓My.rd_next, ↓My.rd_break, ↓My.rd_cont, ↓My.rd_drop, ↓My.rd_asg, ↓My.rd_gName, ↓My.rd_nil, ↓My.rd_cons, ↓My.rd_call, ↓My.rd_CB, ↓My.rd_for, ↓My.rd_rng1, ↓My.rd_rng2, ↓My.rd_rng3, My.rd_isR3, ↓My.rd_iList, ↓My.rd_iTup, ↓My.rd_iStr, ↓My.rd_lst, ↓My.rd_tup, ↓My.rd_sl, ↓My.rd_noPart, ↓My.rd_part, ↓My.rd_never, ↓My.rd_dget, ↓My.rd_din, ↓My.rd_dnotin, ↓My.rd_dput, ↓My.rd_enum, My.rd_isR0, ↓My.rd_fld, ↓My.rd_sfld, ↓My.rd_aug_fld, ↓My.rd_meth, ↓My.rd_methX, ↓My.rd_cfun, ↓My.rd_callSD, ↓My.rd_make, ↓My.rd_lenSet, ↓My.rd_lstRev, My.rd_unl, ↓My.rd_revA, My.rd_min, ↓My.rd_yes, ↓My.rd_zipA, My.rd_isR2a, My.rd_mulS, ↓My.rd_aug, My.rd_ipI, My.sizeB_pow, My.rd_spBare,
  My.rd_rI, My.rd_rI0, My.rd_rU, My.rd_eq, My.rd_ne, My.rd_isBl, My.rd_isR1, My.rd_isR2, My.rd_isRef, My.rd_isStr, My.rd_isInt, My.rd_isiF, My.rd_cat, My.rd_append, My.own_nil, My.own_cons, My.rd_wipe0, My.rd_wipe1, My.rd_addT, My.rd_ixS, My.rd_ixT, My.rd_slS, My.rd_join, My.rd_tupOf, My.rd_listOf, My.rd_gTup, My.rd_gCons, My.rd_gNil, My.rd_isB, My.rd_notB, My.rd_rep, My.rd_setL, My.rd_ixL, ↓My.rd_cut, My.rd_ixQ, My.rd_slL, My.rd_len, My.rd_lenU_str, My.rd_lenU_ref, My.rd_spI1, My.rd_spI2, My.rd_spI3, My.rd_spI4, My.rd_whole, My.rd_spCell, My.rd_max2, My.rd_min2, My.rd_spAny1, My.rd_spStamp, My.rd_ord, My.rd_spNew2,
  My.V_int_inj, My.V_bl_inj, My.V_str_inj, My.scal_ii, My.scal_bb, My.scal_ss, My.isi_non_int, My.isi_non_bool, My.isi_non_str, My.isi_non_tuple, My.isi_non_list, My.isi_bl_int, My.isi_bl_bool, My.isi_bl_str, My.isi_bl_tuple, My.isi_bl_list, My.isi_int_int, My.isi_int_bool, My.isi_int_str, My.isi_int_tuple, My.isi_int_list, My.isi_str_int, My.isi_str_bool, My.isi_str_str, My.isi_str_tuple, My.isi_str_list,
  My.st_nil, My.st_arg, My.st_none, My.cxK, Int.zero_add, Int.reduceToNat, Int.reducePow, Int.reduceMul, Int.reduceSub, Int.reduceAdd, Int.reduceNeg, Int.reduceLE, Int.reduceLT, List.getElem?_cons_zero, List.getElem?_cons_succ, List.set_cons_zero, List.set_cons_succ, List.append_nil, List.cons_append, List.nil_append, decide_eq_true_eq, Bool.not_eq_true', decide_eq_false_iff_not, Bool.not_true, Bool.not_false, Bool.false_eq_true, Bool.true_eq_false, if_true, if_false, true_and, and_true, ite_true, ite_false, if_pos, if_neg, ne_eq, not_true_eq_false, not_false_eq_true, reduceIte, Bool.not_not])
local macro_rules | `(tactic| walk_at "spl") => `(tactic| first | exact My.len_spI1 (by assumption) | exact My.len_spI2 (by assumption) | exact My.len_spI3 (by assumption) | exact My.len_spI4 (by assumption) | exact My.len_whole (by assumption) | exact My.len_law (by assumption) | exact My.len_cell (by assumption) | exact My.len_new2 (by assumption) | exact My.len_when (by assumption) | exact My.len_text (by assumption) | exact My.len_anyLeaf (by assumption) | exact My.len_anyKey (by assumption) | exact My.len_key3 (by assumption) | exact My.len_same (by assumption) | exact My.len_rowsSame (by assumption) | exact My.len_placeB (by assumption) | exact My.len_row (by assumption) | exact My.len_paperB (by assumption) | exact My.len_paper (by assumption) | exact My.len_placeOf (by assumption) | exact My.len_bare (by assumption) | exact My.len_stream (by assumption) | exact My.len_cellsOf (by assumption) | exact My.len_ahead (by assumption) | exact My.len_laid (by assumption) | exact My.len_any1 (by assumption) | exact My.len_stamp (by assumption))
local macro_rules | `(tactic| walk_at "ne") => `(tactic| first | assumption | exact Ne.symm (by assumption) | exact My.Fresh.ne (by assumption) (by walk_at "hp") | exact Ne.symm (My.Fresh.ne (by assumption) (by walk_at "hp")))
local macro_rules | `(tactic| walk_at "hp") => `(tactic| first | assumption | exact L2.upd_same | exact (by assumption : L2.Same _ _) _ _ (by walk_at "hp") | (refine Eq.trans (L2.upd_ne ?_) ?_; (walk_at "ne"); (walk_at "hp")))
local macro_rules | `(tactic| walk_at "sq") => `(tactic| first | assumption | exact L2.SqL.of (by walk_at "hp") | exact L2.SqT.of (by walk_at "hp") | (refine L2.Same.seq ?_ (by assumption); walk_at "same"))
local macro_rules | `(tactic| walk_at "same") => `(tactic| first | assumption | exact L2.Same.refl _ | exact My.Same_upd (by walk_at "same") (by assumption) | exact L2.Same.trans (by walk_at "same") (by assumption))
local macro_rules | `(tactic| walk_at "sz") => `(tactic| first | assumption | (with_unfolding_all decide) | (rw [PySem.sizeLine_eq]; simp only [List.length_append, List.length_cons, List.length_nil, List.length_map, List.length_replicate, List.length_take, List.length_drop]; omega))
local macro_rules | `(tactic| walk_at "side") => `(tactic| first | assumption | exact trivial | decide +kernel | omega | exact ⟨by decide +kernel, by decide +kernel⟩ | exact ⟨by decide +kernel, by decide +kernel, by decide +kernel⟩ | exact ⟨by omega, by omega⟩ | exact My.mulL (by omega) (by omega) | exact My.mulR (by omega) (by omega) | exact PySem.IntMulOk.of_bits (by omega) (by omega) | exact My.divB (by omega) (by omega))
local macro_rules | `(tactic| walk_at "dt") => `(tactic| repeat' first | (refine My.both ?_ ?_; (walk_at "side")) | (refine My.iteB (fun _ => ?_) (fun _ => ?_)))
local macro_rules | `(tactic| walk_at "go") => `(tactic| repeat' first | (refine My.exSq (by walk_at "sq") ?_) | (refine My.exSqV (by walk_at "sq") ?_) | (refine My.both ?_ ?_; (walk_at "side")))
namespace My
open PySem PySem.Spec PyProof.Rows L2
/-! cells of a row with gaps -/
structure CWf (row : List Ky) (j : Nat) (cs : List Int) : Prop where
  len : cs.length = 2 ^ j
  j3 : 3 ≤ j
  j12 : j ≤ 12
  rl : (row.length : Int) ≤ 2 * 2 ^ j / 3
  cnt : 2 ^ j ≤ cs.count (-1) + row.length
  cell : ∀ s : Int, 0 ≤ s → s < 2 ^ j → getI cs s = -1 ∨ getI cs s = -2 ∨ (0 ≤ getI cs s ∧ getI cs s < row.length ∧ ∃ k, row[(getI cs s).toNat]? = some k ∧ k ≠ .non)
  inj : ∀ s t : Int, 0 ≤ s → s < 2 ^ j → 0 ≤ t → t < 2 ^ j → getI cs s = getI cs t → 0 ≤ getI cs s → s = t
  ahead : ∀ (p : Nat) k, row[p]? = some k → k ≠ .non → ∃ n : Nat, n < 2 ^ j ∧ getI cs (probeF k.stamp (2 ^ j) n) = p ∧ ∀ t : Nat, t < n → getI cs (probeF k.stamp (2 ^ j) t) ≠ -1
  nd : ∀ (p q : Nat) k, row[p]? = some k → row[q]? = some k → k ≠ .non → p = q
  rok : RowOk row
section
variable {row : List Ky} {j : Nat} {cs : List Int} {y : Ky}
theorem room_lt {j : Nat} {n : Nat} (h : (n : Int) ≤ 2 * 2 ^ j / 3) : n < 2 ^ j := by
  have := pow_cast j
  have : (0 : Int) < 2 ^ j := (pow_le (Nat.le_refl j)).1
  omega
theorem CWf.mem (h : CWf row j cs) : (-1) ∈ cs := by
  have := h.cnt
  have := room_lt h.rl
  exact List.count_pos_iff.mp (by omega)
theorem CWf.ok (h : CWf row j cs) : CellsOk cs row.length := fun s h0 h1 => by
  have := pow_cast j
  have := h.len
  rcases h.cell s h0 (by omega) with q | q | ⟨q1, q2, _⟩
  · exact .inl q
  · exact .inr (.inl q)
  · exact .inr (.inr ⟨q1, q2⟩)
theorem CWf.lt (h : CWf row j cs) : row.length ≤ 2730 := by
  have := h.rl
  have := (pow_le h.j12).2
  simp only [Int.reducePow] at this
  omega
/-- the place at which a paper ends -/
def placeO (cs : List Int) (ks : List Ky) (j : Nat) (k : Ky) : Option Nat := if lastCell cs ks j k = -1 then none else some (lastCell cs ks j k).toNat
theorem CWf.last (h : CWf row j cs) (y : Ky) : stopB cs row j y (paperN cs row j y - 1) = true := (paperN_range cs row j y).2.2.2.2 (stop_ex h.j12 h.len h.mem)
theorem CWf.last_cases (h : CWf row j cs) (y : Ky) : lastCell cs row j y = -1 ∨ ∃ p : Nat, lastCell cs row j y = p ∧ row[p]? = some y := by
  have s := h.last y
  obtain ⟨n0, n1, -⟩ := paperN_range cs row j y
  obtain ⟨r0, r1⟩ := probe_range y.stamp ((paperN cs row j y - 1 : Nat) : Int) h.j12
  have c := h.cell _ r0 r1
  unfold stopB at s
  unfold lastCell
  generalize getI cs (probeF y.stamp (2 ^ j) ((paperN cs row j y - 1 : Nat) : Int)) = z at *
  rcases c with rfl | rfl | ⟨q1, q2, k, q3, q4⟩
  · exact .inl rfl
  · simp at s
  · right
    refine ⟨z.toNat, by omega, ?_⟩
    have : ¬ z = -1 := by omega
    simp only [decide_eq_false this, Bool.false_or, Bool.and_eq_true, decide_eq_true_eq] at s
    exact s.2
theorem CWf.last_in (h : CWf row j cs) {p : Nat} (e : row[p]? = some y) (n : y ≠ .non) : lastCell cs row j y = p := by
  rcases h.last_cases y with q | ⟨p', q1, q2⟩
  · obtain ⟨m, a1, a2, a3⟩ := h.ahead p y e n
    obtain ⟨-, -, n2, -⟩ := paperN_range cs row j y
    exfalso
    unfold lastCell at q
    rcases Nat.lt_or_ge (paperN cs row j y - 1) m with g | g
    · exact a3 _ g q
    · have hs : stopB cs row j y m = true := by
        unfold stopB
        rw [a2]
        have : ¬ ((p : Int) = -2) := by omega
        simp [e, this]
      rcases Nat.lt_or_ge (m + 1) (paperN cs row j y) with g2 | g2
      · rw [n2 m g2] at hs
        cases hs
      · have em : paperN cs row j y - 1 = m := by omega
        rw [em, a2] at q
        omega
  · rw [q1, h.nd p' p y q2 e n]
theorem CWf.place_some (h : CWf row j cs) (n : y ≠ .non) {p : Nat} : placeO cs row j y = some p ↔ row[p]? = some y := by
  unfold placeO
  constructor
  · intro e
    split at e
    · cases e
    · rename_i c
      rcases h.last_cases y with q | ⟨p', q1, q2⟩
      · exact absurd q c
      · cases e
        rw [q1]
        exact q2
  · intro e
    rw [h.last_in e n, if_neg (by omega), Int.toNat_natCast]
theorem CWf.place_none (h : CWf row j cs) (n : y ≠ .non) : placeO cs row j y = none ↔ y ∉ row := by
  constructor
  · intro e m
    obtain ⟨p, hp⟩ := List.mem_iff_getElem?.mp m
    rw [(h.place_some n).mpr hp] at e
    cases e
  · intro m
    cases e : placeO cs row j y with
    | none => rfl
    | some p => exact absurd (List.mem_of_getElem? ((h.place_some n).mp e)) m
theorem CWf.last_place (h : CWf row j cs) : (if lastCell cs row j y = -1 then V.non else V.int (lastCell cs row j y)) = (match placeO cs row j y with | none => V.non | some p => V.int (p : Nat)) := by
  unfold placeO
  rcases h.last_cases y with q | ⟨p, q1, q2⟩
  · rw [q]; rfl
  · rw [q1]
    have : ¬ ((p : Int) = -1) := by omega
    simp [this]
/-- the slot at which a paper ends -/
def lastSlot (cs : List Int) (ks : List Ky) (j : Nat) (k : Ky) : Int := probeF k.stamp (2 ^ j) ((paperN cs ks j k - 1 : Nat) : Int)
theorem CWf.slot_bare (h : CWf row j cs) (n : y ≠ .non) (e : y ∉ row) : lastSlot cs row j y = probeF y.stamp (2 ^ j) (bareN cs j y.stamp) := by
  have e := (h.place_none n).mpr e
  have hb := bare_ex y.stamp h.j12 h.len h.mem
  obtain ⟨n0, n1, n2, -⟩ := paperN_range cs row j y
  unfold placeO at e
  split at e
  · rename_i c
    unfold lastCell at c
    unfold lastSlot
    rw [Bare.uniq (a := paperN cs row j y - 1) ⟨by omega, c, fun i hi => ?_⟩ hb]
    have := n2 i (by omega)
    unfold stopB at this
    intro q
    rw [q] at this
    simp at this
  · cases e
theorem CWf.lay (h : CWf row j cs) (k : KeyOk y) (e : y ∉ row) (r : (row.length : Int) < 2 * 2 ^ j / 3) : CWf (row ++ [y]) j (layS cs j row.length y) := by
  have n : y ≠ .non := fun q => by rw [q] at k; have := k.g; simp [Ky.good] at this
  obtain ⟨b1, b2, b3⟩ := bare_ex y.stamp h.j12 h.len h.mem
  unfold layS
  rw [if_neg n]
  generalize bareN cs j y.stamp = m at b1 b2 b3 ⊢
  obtain ⟨r0, r1⟩ := probe_range y.stamp m h.j12
  have hl := h.len
  have pc := pow_cast j
  have gs : ∀ t : Int, 0 ≤ t → getI (cs.set (probeF y.stamp (2 ^ j) m).toNat row.length) t = if t = probeF y.stamp (2 ^ j) m then (row.length : Int) else getI cs t := fun t ht => getI_set r0 (by omega) ht
  have lt : (probeF y.stamp (2 ^ j) m).toNat < cs.length := by omega
  have old : ∀ {p : Nat} {k : Ky}, row[p]? = some k → (row ++ [y])[p]? = some k := fun {p k} q => by
    rw [List.getElem?_append_left (List.getElem?_eq_some_iff.mp q).1]; exact q
  have new : ∀ {p : Nat} {k : Ky}, (row ++ [y])[p]? = some k → row[p]? = some k ∨ (p = row.length ∧ k = y) := fun {p k} q => by
    rcases Nat.lt_or_ge p row.length with g | g
    · rw [List.getElem?_append_left g] at q; exact .inl q
    · rw [List.getElem?_append_right g] at q
      have : p - row.length = 0 := by
        have := (List.getElem?_eq_some_iff.mp q).1
        simp at this
        omega
      rw [this] at q
      simp at q
      exact .inr ⟨by omega, q.symm⟩
  have notat : ∀ s : Int, 0 ≤ s → s < 2 ^ j → getI cs s ≠ row.length := fun s h0 h1 => by
    rcases h.cell s h0 h1 with q | q | ⟨q1, q2, _⟩ <;> omega
  have keep : ∀ (k' : Ky) (c : Nat), getI cs (probeF k'.stamp (2 ^ j) c) ≠ -1 → getI (cs.set (probeF y.stamp (2 ^ j) m).toNat row.length) (probeF k'.stamp (2 ^ j) c) = getI cs (probeF k'.stamp (2 ^ j) c) := by
    intro k' c hc
    rw [gs _ (probe_range _ _ h.j12).1, if_neg]
    intro e2
    rw [e2] at hc
    exact hc b2
  refine ⟨by rw [List.length_set]; exact hl, h.j3, h.j12, by rw [List.length_append]; simp; omega, ?_, fun s h0 h1 => ?_, fun s t h0 h1 t0 t1 e2 ge => ?_, fun p k' hk' nk => ?_, fun p q k' e1 e2 nk => ?_, fun z hz => ?_⟩
  · have c := h.cnt
    rw [List.count_set lt, List.length_append, List.length_singleton]
    split <;> split <;> omega
  · rw [gs s h0]
    split
    · exact .inr (.inr ⟨by omega, by rw [List.length_append, List.length_singleton]; omega, y, by rw [Int.toNat_natCast, List.getElem?_append_right (Nat.le_refl _), Nat.sub_self]; rfl, n⟩)
    · rcases h.cell s h0 h1 with q | q | ⟨q1, q2, k', q3, q4⟩
      · exact .inl q
      · exact .inr (.inl q)
      · exact .inr (.inr ⟨q1, by rw [List.length_append, List.length_singleton]; omega, k', old q3, q4⟩)
  · rw [gs s h0, gs t t0] at e2
    rw [gs s h0] at ge
    split at e2 <;> split at e2
    · omega
    · exact absurd e2.symm (notat t t0 t1)
    · exact absurd e2 (notat s h0 h1)
    · rename_i c1 c2
      rw [if_neg c1] at ge
      exact h.inj s t h0 h1 t0 t1 e2 ge
  · rcases new hk' with q | ⟨rfl, rfl⟩
    · obtain ⟨m', a1, a2, a3⟩ := h.ahead p k' q nk
      exact ⟨m', a1, by rw [keep k' m' (by omega)]; exact a2, fun t ht => by rw [keep k' t (a3 t ht)]; exact a3 t ht⟩
    · exact ⟨m, b1, by rw [gs _ r0, if_pos rfl], fun t ht => by rw [keep k' t (b3 t ht)]; exact b3 t ht⟩
  · rcases new e1 with q1 | ⟨rfl, rfl⟩ <;> rcases new e2 with q2 | ⟨rfl, z⟩
    · exact h.nd p q k' q1 q2 nk
    · subst z
      exact absurd (List.mem_of_getElem? q1) e
    · exact absurd (List.mem_of_getElem? q2) e
    · rfl
  · rcases List.mem_append.mp hz with hz | hz
    · exact h.rok z hz
    · rw [List.mem_singleton] at hz
      rw [hz]
      exact .inr k
theorem CWf.gone (h : CWf row j cs) {p : Nat} (e : row[p]? = some y) (n : y ≠ .non) : CWf (row.set p .non) j (cs.set (lastSlot cs row j y).toNat (-2)) := by
  have hp : p < row.length := (List.getElem?_eq_some_iff.mp e).1
  have la := h.last_in e n
  unfold lastCell at la
  unfold lastSlot
  obtain ⟨r0, r1⟩ := probe_range y.stamp ((paperN cs row j y - 1 : Nat) : Int) h.j12
  generalize probeF y.stamp (2 ^ j) ((paperN cs row j y - 1 : Nat) : Int) = s0 at *
  have hl := h.len
  have pc := pow_cast j
  have gs : ∀ t : Int, 0 ≤ t → getI (cs.set s0.toNat (-2)) t = if t = s0 then -2 else getI cs t := fun t ht => getI_set r0 (by omega) ht
  have lt : s0.toNat < cs.length := by omega
  have only : ∀ s : Int, 0 ≤ s → s < 2 ^ j → getI cs s = p → s = s0 := fun s h0 h1 q => h.inj s s0 h0 h1 r0 r1 (by rw [q, la]) (by omega)
  have new : ∀ {q : Nat} {k : Ky}, (row.set p .non)[q]? = some k → k ≠ .non → row[q]? = some k ∧ q ≠ p := fun {q k} g nk => by
    rw [List.getElem?_set] at g
    split at g
    · simp at g
      exact absurd g.symm nk
    · exact ⟨g, by omega⟩
  have ge : getI cs s0 = cs[s0.toNat] := by
    unfold getI
    rw [List.getD_eq_getElem?_getD, List.getElem?_eq_getElem lt]
    rfl
  refine ⟨by rw [List.length_set]; exact hl, h.j3, h.j12, by rw [List.length_set]; exact h.rl, ?_, fun s h0 h1 => ?_, fun s t h0 h1 t0 t1 e2 gz => ?_, fun q k' hk' nk => ?_, fun q q' k' e1 e2 nk => ?_, fun z hz => ?_⟩
  · have c := h.cnt
    rw [List.count_set lt, List.length_set, ← ge, la]
    have : ¬ ((p : Int) == -1) = true := by simp
    rw [if_neg this, if_neg (by decide)]
    omega
  · rw [gs s h0]
    split
    · exact .inr (.inl rfl)
    · rename_i c
      rcases h.cell s h0 h1 with q | q | ⟨q1, q2, k', q3, q4⟩
      · exact .inl q
      · exact .inr (.inl q)
      · refine .inr (.inr ⟨q1, by rw [List.length_set]; omega, k', ?_, q4⟩)
        rw [List.getElem?_set, if_neg]
        · exact q3
        · intro z
          exact c (only s h0 h1 (by omega))
  · rw [gs s h0, gs t t0] at e2
    rw [gs s h0] at gz
    split at gz
    · omega
    · rename_i c1
      rw [if_neg c1] at e2
      split at e2
      · omega
      · exact h.inj s t h0 h1 t0 t1 e2 gz
  · obtain ⟨g, gq⟩ := new hk' nk
    obtain ⟨m', a1, a2, a3⟩ := h.ahead q k' g nk
    have np : ∀ t : Nat, getI cs (probeF k'.stamp (2 ^ j) t) ≠ -1 → getI (cs.set s0.toNat (-2)) (probeF k'.stamp (2 ^ j) t) ≠ -1 := fun t ht => by
      rw [gs _ (probe_range _ _ h.j12).1]
      split
      · decide
      · exact ht
    refine ⟨m', a1, ?_, fun t ht => np t (a3 t ht)⟩
    rw [gs _ (probe_range _ _ h.j12).1, if_neg]
    · exact a2
    · intro z
      rw [z, la] at a2
      omega
  · exact h.nd q q' k' (new e1 nk).1 (new e2 nk).1 nk
  · rcases List.mem_or_eq_of_mem_set hz with hz | hz
    · exact h.rok z hz
    · exact .inl hz
end
theorem cwf_nil {j : Nat} (h3 : 3 ≤ j) (h12 : j ≤ 12) : CWf [] j (List.replicate (2 ^ j) (-1)) := by
  have L := laid_zero [] j
  have z : (0 : Int) < 2 ^ j := (pow_le (Nat.le_refl j)).1
  refine ⟨L.len, h3, h12, by simp; omega, by simp [List.count_replicate_self], fun s h0 h1 => ?_, fun s t h0 h1 t0 t1 e g => ?_, fun p k e => by simp at e, fun p q k e => by simp at e, fun _ h => by cases h⟩
  · rcases L.cell s h0 h1 with q | ⟨q1, q2, _⟩
    · exact .inl q
    · omega
  · have a := L.cell s h0 h1
    rcases a with q | ⟨q1, q2, _⟩
    · have q' : getI (List.replicate (2 ^ j) (-1)) s = -1 := q
      omega
    · omega
theorem cwf_laid {ks : List Ky} {j : Nat} (h3 : 3 ≤ j) (h12 : j ≤ 12) (hl : (ks.length : Int) ≤ 2 * 2 ^ j / 3) (hr : RowOk ks) (nd : ∀ (p q : Nat) k, ks[p]? = some k → ks[q]? = some k → k ≠ .non → p = q) : CWf ks j (layN j ks ks.length) := by
  have L := laid_at (ks := ks) h12 (room_lt hl) ks.length (Nat.le_refl _)
  refine ⟨L.len, h3, h12, hl, L.cnt, fun s h0 h1 => ?_, fun s t h0 h1 t0 t1 e g => L.inj s t h0 h1 t0 t1 e (by omega), fun p k e n => ?_, nd, hr⟩
  · rcases L.cell s h0 h1 with q | ⟨q1, q2, q3⟩
    · exact .inl q
    · exact .inr (.inr ⟨q1, by omega, q3⟩)
  · obtain ⟨m, a1, a2, a3⟩ := L.ahead p k (List.getElem?_eq_some_iff.mp e).1 e n
    exact ⟨m, a1, a2, fun t ht => by have := (a3 t ht).1; omega⟩
end My
namespace My
open PySem PySem.Spec PyProof.Rows L2
/-! frames: what may change stands at fp -/
structure Gr (fp : List Addr) (H H' : Hp) : Prop where
  keep : ∀ b o, H b = some o → b ∉ fp → H' b = some o
  free : ∀ b, H' b = none → H b = none
def Sub (fp' fp : List Addr) (H : Hp) : Prop := ∀ x ∈ fp', x ∈ fp ∨ Fresh H x
section
variable {fp fp1 fp2 : List Addr} {H H1 H2 H3 Hb : Hp} {x : Addr} {o : HO}
theorem Gr.refl : Gr fp H H := ⟨fun _ _ e _ => e, fun _ e => e⟩
theorem Gr.of (s : Same H H1) : Gr fp H H1 := ⟨fun b o e _ => s b o e, fun _ e => s.free e⟩
theorem Gr.trans (a : Gr fp H H1) (b : Gr fp H1 H2) : Gr fp H H2 := ⟨fun q u e n => b.keep q u (a.keep q u e n) n, fun q e => a.free q (b.free q e)⟩
theorem Gr.put (s : Gr fp H H1) (m : x ∈ fp) : Gr fp H (upd H1 x o) := ⟨fun b u e n => by rw [upd_ne (fun q => n (by rw [q]; exact m))]; exact s.keep b u e n, fun b e => by
  by_cases q : b = x
  · rw [q, upd_same] at e; cases e
  · rw [upd_ne q] at e; exact s.free b e⟩
theorem Gr.new (s : Gr fp H H1) (f : Fresh H x) : Gr fp H (L2.upd H1 x o) := ⟨fun b u e n => by rw [upd_ne (f.ne e)]; exact s.keep b u e n, fun b e => by
  by_cases q : b = x
  · rw [q, upd_same] at e; cases e
  · rw [upd_ne q] at e; exact s.free b e⟩
theorem Gr.same (g : Gr fp H H1) (s : Same Hb H) (f : ∀ x ∈ fp, Fresh Hb x) : Same Hb H1 := fun b u e => g.keep b u (s b u e) fun m => by
  have := f b m
  unfold Fresh at this
  rw [this] at e
  cases e
theorem Gr.comp (a : Gr fp H H1) (s : Sub fp1 fp H) (b : Gr fp1 H1 H2) : Gr fp H H2 := ⟨fun q u e n => b.keep q u (a.keep q u e n) fun m => (s q m).elim n fun f => (by unfold Fresh at f; rw [f] at e; cases e), fun q e => a.free q (b.free q e)⟩
theorem Sub.refl : Sub fp fp H := fun _ m => .inl m
theorem Sub.comp (s : Sub fp1 fp H) (a : Gr fp H H1) (t : Sub fp2 fp1 H1) : Sub fp2 fp H := fun x m => (t x m).elim (s x) fun f => .inr (a.free x f)
theorem Sub.fresh (s : Sub fp1 fp H) (b : Same Hb H) (f : ∀ x ∈ fp, Fresh Hb x) : ∀ x ∈ fp1, Fresh Hb x := fun x m => (s x m).elim (f x) fun g => Same_fresh b g
theorem Sub.not (s : Sub fp1 fp H) (e : H x = some o) (n : x ∉ fp) : x ∉ fp1 := fun m => (s x m).elim n fun f => by unfold Fresh at f; rw [f] at e; cases e
theorem Gr.mono (g : Gr fp H H1) (h : ∀ x ∈ fp, x ∈ fp1) : Gr fp1 H H1 := ⟨fun b o e n => g.keep b o e fun m => n (h b m), g.free⟩
end
/-! the shelf: what it is -/
structure Sh where
  row : List Ky
  held : List Ky
  born : List Int
  cells : List Int
  j : Nat
  jl : Nat
  com : Int
  goi : Int
  tid : Int
  mov : Int
/-- what stands ahead of a shelf's own fields: of a kin its maker, seats, apart -/
inductive Pre where
  | no
  | kin (m s : Addr) (ap : Bool)
def preF : Pre → List (Str × V)
  | .no => []
  | .kin m s ap => [("maker", .ref m), ("seats", .ref s), ("apart", .bl ap)]
def shF (p : Pre) (c r h b : Addr) (S : Sh) : List (Str × V) := preF p ++ ([("cells", .ref c), ("size", .int (2 ^ S.j)), ("least", .int (2 ^ S.jl)), ("row", .ref r), ("held", .ref h), ("born", .ref b), ("comings", .int S.com), ("goings", .int S.goi), ("tidied", .int S.tid), ("moved", .int S.mov)] : List (Str × V))
structure ShC (K : PySem.W.Frag) (C : Addr) : Prop where
  cls : Cls K C
  cells : NoAttr K C "cells"
  size : NoAttr K C "size"
  least : NoAttr K C "least"
  row : NoAttr K C "row"
  held : NoAttr K C "held"
  born : NoAttr K C "born"
  comings : NoAttr K C "comings"
  goings : NoAttr K C "goings"
  tidied : NoAttr K C "tidied"
  moved : NoAttr K C "moved"
structure ShRaw (H : Hp) (C a dx : Addr) (p : Pre) (c r h b : Addr) (S : Sh) (ws us : List V) : Prop where
  ha : H a = some (.ins C dx (shF p c r h b S))
  hc : H c = some (.lst (S.cells.map V.int))
  hr : H r = some (.lst ws)
  hh : H h = some (.lst us)
  hb : H b = some (.lst (S.born.map V.int))
  kr : KysAt H ws S.row
  kh : KysAt H us S.held
  vr : Ky.vals S.row = true
  vh : Ky.vals S.held = true
  ne : c ≠ r ∧ c ≠ h ∧ c ≠ b ∧ r ≠ h ∧ r ≠ b ∧ h ≠ b
theorem shF_len {p : Pre} {c r h b : Addr} {S : Sh} : (shF p c r h b S).length < 1000 := by cases p <;> simp [shF, preF]
section
variable {K : PySem.W.Frag} {H H' : Hp} {Q : VK} {R : Hp → Prop} {C a dx : Addr} {p : Pre} {c r h b : Addr} {S : Sh} {ws us : List V}
theorem fld_cells (k : ShC K C) (e : H a = some (.ins C dx (shF p c r h b S))) : FldAt K H a "cells" Q = Q (.ref c) H := fldAt e k.cls k.cells (by cases p <;> with_unfolding_all rfl)
theorem fld_size (k : ShC K C) (e : H a = some (.ins C dx (shF p c r h b S))) : FldAt K H a "size" Q = Q (.int (2 ^ S.j)) H := fldAt e k.cls k.size (by cases p <;> with_unfolding_all rfl)
theorem fld_least (k : ShC K C) (e : H a = some (.ins C dx (shF p c r h b S))) : FldAt K H a "least" Q = Q (.int (2 ^ S.jl)) H := fldAt e k.cls k.least (by cases p <;> with_unfolding_all rfl)
theorem fld_row (k : ShC K C) (e : H a = some (.ins C dx (shF p c r h b S))) : FldAt K H a "row" Q = Q (.ref r) H := fldAt e k.cls k.row (by cases p <;> with_unfolding_all rfl)
theorem fld_held (k : ShC K C) (e : H a = some (.ins C dx (shF p c r h b S))) : FldAt K H a "held" Q = Q (.ref h) H := fldAt e k.cls k.held (by cases p <;> with_unfolding_all rfl)
theorem fld_born (k : ShC K C) (e : H a = some (.ins C dx (shF p c r h b S))) : FldAt K H a "born" Q = Q (.ref b) H := fldAt e k.cls k.born (by cases p <;> with_unfolding_all rfl)
theorem fld_comings (k : ShC K C) (e : H a = some (.ins C dx (shF p c r h b S))) : FldAt K H a "comings" Q = Q (.int S.com) H := fldAt e k.cls k.comings (by cases p <;> with_unfolding_all rfl)
theorem fld_goings (k : ShC K C) (e : H a = some (.ins C dx (shF p c r h b S))) : FldAt K H a "goings" Q = Q (.int S.goi) H := fldAt e k.cls k.goings (by cases p <;> with_unfolding_all rfl)
theorem fld_tidied (k : ShC K C) (e : H a = some (.ins C dx (shF p c r h b S))) : FldAt K H a "tidied" Q = Q (.int S.tid) H := fldAt e k.cls k.tidied (by cases p <;> with_unfolding_all rfl)
theorem fld_moved (k : ShC K C) (e : H a = some (.ins C dx (shF p c r h b S))) : FldAt K H a "moved" Q = Q (.int S.mov) H := fldAt e k.cls k.moved (by cases p <;> with_unfolding_all rfl)
theorem set_cells (k : ShC K C) {c' : Addr} {cs : List Int} (e : H a = some (.ins C dx (shF p c r h b S))) : SetAt K H a "cells" (.ref c') R = R (upd H a (.ins C dx (shF p c' r h b { S with cells := cs }))) := setAt e k.cls k.cells shF_len (by cases p <;> with_unfolding_all rfl)
theorem set_row (k : ShC K C) {c' : Addr} {ks : List Ky} (e : H a = some (.ins C dx (shF p c r h b S))) : SetAt K H a "row" (.ref c') R = R (upd H a (.ins C dx (shF p c c' h b { S with row := ks }))) := setAt e k.cls k.row shF_len (by cases p <;> with_unfolding_all rfl)
theorem set_held (k : ShC K C) {c' : Addr} {ks : List Ky} (e : H a = some (.ins C dx (shF p c r h b S))) : SetAt K H a "held" (.ref c') R = R (upd H a (.ins C dx (shF p c r c' b { S with held := ks }))) := setAt e k.cls k.held shF_len (by cases p <;> with_unfolding_all rfl)
theorem set_born (k : ShC K C) {c' : Addr} {cs : List Int} (e : H a = some (.ins C dx (shF p c r h b S))) : SetAt K H a "born" (.ref c') R = R (upd H a (.ins C dx (shF p c r h c' { S with born := cs }))) := setAt e k.cls k.born shF_len (by cases p <;> with_unfolding_all rfl)
theorem set_size (k : ShC K C) {j : Nat} (e : H a = some (.ins C dx (shF p c r h b S))) : SetAt K H a "size" (.int (2 ^ j)) R = R (upd H a (.ins C dx (shF p c r h b { S with j := j }))) := setAt e k.cls k.size shF_len (by cases p <;> with_unfolding_all rfl)
theorem set_goings (k : ShC K C) {n : Int} (e : H a = some (.ins C dx (shF p c r h b S))) : SetAt K H a "goings" (.int n) R = R (upd H a (.ins C dx (shF p c r h b { S with goi := n }))) := setAt e k.cls k.goings shF_len (by cases p <;> with_unfolding_all rfl)
theorem aug_comings (k : ShC K C) {σ : L2.St} {n : Int} (e : H a = some (.ins C dx (shF p c r h b S))) : AugAt K H a "comings" (tC (.int n)) L2.rAdd σ R = R (upd H a (.ins C dx (shF p c r h b { S with com := S.com + n }))) := augAt (i := S.com) e k.cls k.comings (by cases p <;> with_unfolding_all rfl) shF_len (by cases p <;> with_unfolding_all rfl)
theorem aug_goings (k : ShC K C) {σ : L2.St} {n : Int} (e : H a = some (.ins C dx (shF p c r h b S))) : AugAt K H a "goings" (tC (.int n)) L2.rAdd σ R = R (upd H a (.ins C dx (shF p c r h b { S with goi := S.goi + n }))) := augAt (i := S.goi) e k.cls k.goings (by cases p <;> with_unfolding_all rfl) shF_len (by cases p <;> with_unfolding_all rfl)
theorem aug_tidied (k : ShC K C) {σ : L2.St} {n : Int} (e : H a = some (.ins C dx (shF p c r h b S))) : AugAt K H a "tidied" (tC (.int n)) L2.rAdd σ R = R (upd H a (.ins C dx (shF p c r h b { S with tid := S.tid + n }))) := augAt (i := S.tid) e k.cls k.tidied (by cases p <;> with_unfolding_all rfl) shF_len (by cases p <;> with_unfolding_all rfl)
/-! what stores do -/
theorem ShRaw.nca (g : ShRaw H C a dx p c r h b S ws us) : a ≠ c ∧ a ≠ r ∧ a ≠ h ∧ a ≠ b := ⟨ne_of g.ha g.hc (by intro z; cases z), ne_of g.ha g.hr (by intro z; cases z), ne_of g.ha g.hh (by intro z; cases z), ne_of g.ha g.hb (by intro z; cases z)⟩
theorem ShRaw.ext (g : ShRaw H C a dx p c r h b S ws us) (s : Same H H') : ShRaw H' C a dx p c r h b S ws us := ⟨s _ _ g.ha, s _ _ g.hc, s _ _ g.hr, s _ _ g.hh, s _ _ g.hb, g.kr.same s _ _, g.kh.same s _ _, g.vr, g.vh, g.ne⟩
theorem kys_upd {x : Addr} {o o' : HO} {ws : List V} {ks : List Ky} (e : H x = some o) (n : ∀ xs, o ≠ .tup xs) (v : Ky.vals ks = true) (h : KysAt H ws ks) : KysAt (upd H x o') ws ks := KysAt.keep but_one (noTup_one e n) ks ws v h
theorem ky_upd {x : Addr} {o o' : HO} {v : V} {y : Ky} (e : H x = some o) (n : ∀ xs, o ≠ .tup xs) (g : y.val = true) (h : KyAt H v y) : KyAt (upd H x o') v y := KyAt.keep but_one (noTup_one e n) y v g h
theorem vals_append {xs ys : List Ky} (h : Ky.vals xs = true) (g : Ky.vals ys = true) : Ky.vals (xs ++ ys) = true := vals_iff.mpr fun k hk => (List.mem_append.mp hk).elim (vals_iff.mp h k) (vals_iff.mp g k)
theorem vals_set {xs : List Ky} {i : Nat} {y : Ky} (h : Ky.vals xs = true) (g : y.val = true) : Ky.vals (xs.set i y) = true := vals_iff.mpr fun k hk => (List.mem_or_eq_of_mem_set hk).elim (vals_iff.mp h k) fun e => by rw [e]; exact g
theorem vals_one {y : Ky} (g : y.val = true) : Ky.vals [y] = true := by rw [Ky.vals, g]; rfl
theorem ShRaw.fldU {S' : Sh} (g : ShRaw H C a dx p c r h b S ws us) (e1 : S'.row = S.row := by rfl) (e2 : S'.held = S.held := by rfl) (e3 : S'.born = S.born := by rfl) (e4 : S'.cells = S.cells := by rfl) : ShRaw (upd H a (.ins C dx (shF p c r h b S'))) C a dx p c r h b S' ws us := by
  obtain ⟨n1, n2, n3, n4⟩ := g.nca
  have nt : ∀ xs, HO.ins C dx (shF p c r h b S) ≠ .tup xs := fun _ z => by cases z
  refine ⟨upd_same, ?_, ?_, ?_, ?_, ?_, ?_, ?_, ?_, g.ne⟩
  · rw [upd_ne n1.symm, e4]; exact g.hc
  · rw [upd_ne n2.symm]; exact g.hr
  · rw [upd_ne n3.symm]; exact g.hh
  · rw [upd_ne n4.symm, e3]; exact g.hb
  · rw [e1]; exact kys_upd g.ha nt g.vr g.kr
  · rw [e2]; exact kys_upd g.ha nt g.vh g.kh
  · rw [e1]; exact g.vr
  · rw [e2]; exact g.vh
theorem ShRaw.cellsU {cs : List Int} (g : ShRaw H C a dx p c r h b S ws us) : ShRaw (upd H c (.lst (cs.map V.int))) C a dx p c r h b { S with cells := cs } ws us := by
  obtain ⟨n1, n2, n3, n4⟩ := g.nca
  obtain ⟨m1, m2, m3, m4, m5, m6⟩ := g.ne
  have nt : ∀ xs, HO.lst (S.cells.map V.int) ≠ .tup xs := fun _ z => by cases z
  exact ⟨by rw [upd_ne n1]; exact g.ha, upd_same, by rw [upd_ne m1.symm]; exact g.hr, by rw [upd_ne m2.symm]; exact g.hh, by rw [upd_ne m3.symm]; exact g.hb, kys_upd g.hc nt g.vr g.kr, kys_upd g.hc nt g.vh g.kh, g.vr, g.vh, g.ne⟩
theorem ShRaw.bornU {cs : List Int} (g : ShRaw H C a dx p c r h b S ws us) : ShRaw (upd H b (.lst (cs.map V.int))) C a dx p c r h b { S with born := cs } ws us := by
  obtain ⟨n1, n2, n3, n4⟩ := g.nca
  obtain ⟨m1, m2, m3, m4, m5, m6⟩ := g.ne
  have nt : ∀ xs, HO.lst (S.born.map V.int) ≠ .tup xs := fun _ z => by cases z
  exact ⟨by rw [upd_ne n4]; exact g.ha, by rw [upd_ne m3]; exact g.hc, by rw [upd_ne m5]; exact g.hr, by rw [upd_ne m6]; exact g.hh, upd_same, kys_upd g.hb nt g.vr g.kr, kys_upd g.hb nt g.vh g.kh, g.vr, g.vh, g.ne⟩
theorem ShRaw.rowU {ws' : List V} {ks : List Ky} (g : ShRaw H C a dx p c r h b S ws us) (v : Ky.vals ks = true) (k : KysAt H ws' ks) : ShRaw (upd H r (.lst ws')) C a dx p c r h b { S with row := ks } ws' us := by
  obtain ⟨n1, n2, n3, n4⟩ := g.nca
  obtain ⟨m1, m2, m3, m4, m5, m6⟩ := g.ne
  have nt : ∀ xs, HO.lst ws ≠ .tup xs := fun _ z => by cases z
  exact ⟨by rw [upd_ne n2]; exact g.ha, by rw [upd_ne m1]; exact g.hc, upd_same, by rw [upd_ne m4.symm]; exact g.hh, by rw [upd_ne m5.symm]; exact g.hb, kys_upd g.hr nt v k, kys_upd g.hr nt g.vh g.kh, v, g.vh, g.ne⟩
theorem ShRaw.heldU {us' : List V} {ks : List Ky} (g : ShRaw H C a dx p c r h b S ws us) (v : Ky.vals ks = true) (k : KysAt H us' ks) : ShRaw (upd H h (.lst us')) C a dx p c r h b { S with held := ks } ws us' := by
  obtain ⟨n1, n2, n3, n4⟩ := g.nca
  obtain ⟨m1, m2, m3, m4, m5, m6⟩ := g.ne
  have nt : ∀ xs, HO.lst us ≠ .tup xs := fun _ z => by cases z
  exact ⟨by rw [upd_ne n3]; exact g.ha, by rw [upd_ne m2]; exact g.hc, by rw [upd_ne m4]; exact g.hr, upd_same, by rw [upd_ne m6.symm]; exact g.hb, kys_upd g.hh nt g.vr g.kr, kys_upd g.hh nt v k, g.vr, v, g.ne⟩
theorem ShRaw.reC {c' : Addr} {cs : List Int} (g : ShRaw H C a dx p c r h b S ws us) (e : H c' = some (.lst (cs.map V.int))) (n : c' ≠ r ∧ c' ≠ h ∧ c' ≠ b) : ShRaw (upd H a (.ins C dx (shF p c' r h b { S with cells := cs }))) C a dx p c' r h b { S with cells := cs } ws us := by
  obtain ⟨n1, n2, n3, n4⟩ := g.nca
  have nc : a ≠ c' := ne_of g.ha e (by intro z; cases z)
  have nt : ∀ xs, HO.ins C dx (shF p c r h b S) ≠ .tup xs := fun _ z => by cases z
  exact ⟨upd_same, by rw [upd_ne nc.symm]; exact e, by rw [upd_ne n2.symm]; exact g.hr, by rw [upd_ne n3.symm]; exact g.hh, by rw [upd_ne n4.symm]; exact g.hb, kys_upd g.ha nt g.vr g.kr, kys_upd g.ha nt g.vh g.kh, g.vr, g.vh, ⟨n.1, n.2.1, n.2.2, g.ne.2.2.2⟩⟩
theorem ShRaw.reR {r' : Addr} {ws' : List V} {ks : List Ky} (g : ShRaw H C a dx p c r h b S ws us) (e : H r' = some (.lst ws')) (v : Ky.vals ks = true) (k : KysAt H ws' ks) (n : c ≠ r' ∧ r' ≠ h ∧ r' ≠ b) : ShRaw (upd H a (.ins C dx (shF p c r' h b { S with row := ks }))) C a dx p c r' h b { S with row := ks } ws' us := by
  obtain ⟨n1, n2, n3, n4⟩ := g.nca
  obtain ⟨m1, m2, m3, m4, m5, m6⟩ := g.ne
  have nc : a ≠ r' := ne_of g.ha e (by intro z; cases z)
  have nt : ∀ xs, HO.ins C dx (shF p c r h b S) ≠ .tup xs := fun _ z => by cases z
  exact ⟨upd_same, by rw [upd_ne n1.symm]; exact g.hc, by rw [upd_ne nc.symm]; exact e, by rw [upd_ne n3.symm]; exact g.hh, by rw [upd_ne n4.symm]; exact g.hb, kys_upd g.ha nt v k, kys_upd g.ha nt g.vh g.kh, v, g.vh, ⟨n.1, m2, m3, n.2.1, n.2.2, m6⟩⟩
theorem ShRaw.reH {h' : Addr} {us' : List V} {ks : List Ky} (g : ShRaw H C a dx p c r h b S ws us) (e : H h' = some (.lst us')) (v : Ky.vals ks = true) (k : KysAt H us' ks) (n : c ≠ h' ∧ r ≠ h' ∧ h' ≠ b) : ShRaw (upd H a (.ins C dx (shF p c r h' b { S with held := ks }))) C a dx p c r h' b { S with held := ks } ws us' := by
  obtain ⟨n1, n2, n3, n4⟩ := g.nca
  obtain ⟨m1, m2, m3, m4, m5, m6⟩ := g.ne
  have nc : a ≠ h' := ne_of g.ha e (by intro z; cases z)
  have nt : ∀ xs, HO.ins C dx (shF p c r h b S) ≠ .tup xs := fun _ z => by cases z
  exact ⟨upd_same, by rw [upd_ne n1.symm]; exact g.hc, by rw [upd_ne n2.symm]; exact g.hr, by rw [upd_ne nc.symm]; exact e, by rw [upd_ne n4.symm]; exact g.hb, kys_upd g.ha nt g.vr g.kr, kys_upd g.ha nt v k, g.vr, v, ⟨m1, n.1, m3, n.2.1, m5, n.2.2⟩⟩
theorem ShRaw.reB {b' : Addr} {cs : List Int} (g : ShRaw H C a dx p c r h b S ws us) (e : H b' = some (.lst (cs.map V.int))) (n : c ≠ b' ∧ r ≠ b' ∧ h ≠ b') : ShRaw (upd H a (.ins C dx (shF p c r h b' { S with born := cs }))) C a dx p c r h b' { S with born := cs } ws us := by
  obtain ⟨n1, n2, n3, n4⟩ := g.nca
  obtain ⟨m1, m2, m3, m4, m5, m6⟩ := g.ne
  have nc : a ≠ b' := ne_of g.ha e (by intro z; cases z)
  have nt : ∀ xs, HO.ins C dx (shF p c r h b S) ≠ .tup xs := fun _ z => by cases z
  exact ⟨upd_same, by rw [upd_ne n1.symm]; exact g.hc, by rw [upd_ne n2.symm]; exact g.hr, by rw [upd_ne n3.symm]; exact g.hh, by rw [upd_ne nc.symm]; exact e, kys_upd g.ha nt g.vr g.kr, kys_upd g.ha nt g.vh g.kh, g.vr, g.vh, ⟨m1, m2, n.1, m4, n.2.1, n.2.2⟩⟩
end
/-! what a shelf keeps -/
def HVal (z : Ky) : Prop := z.val = true ∧ z.dep ≤ 8
structure Sh.Ok (S : Sh) : Prop where
  cw : CWf S.row S.j S.cells
  hl : S.held.length = S.row.length
  bl : S.born.length = S.row.length
  hv : ∀ z ∈ S.held, HVal z
  l3 : 3 ≤ S.jl
  l12 : S.jl ≤ 12
  bi : S.born.Pairwise (· < ·)
  bc : ∀ n ∈ S.born, 0 < n ∧ n ≤ S.com
  c0 : 0 ≤ S.com
  many : S.com - S.goi = (S.row.filter fun k => decide (k ≠ .non)).length
def ShAt (H : Hp) (C a : Addr) (p : Pre) (fp : List Addr) (S : Sh) : Prop := ∃ dx c r h b ws us, fp = [a, c, r, h, b] ∧ ShRaw H C a dx p c r h b S ws us ∧ S.Ok
section
variable {H H' : Hp} {C a : Addr} {p : Pre} {fp : List Addr} {S : Sh}
theorem ShAt.ext (g : ShAt H C a p fp S) (s : Same H H') : ShAt H' C a p fp S := by
  obtain ⟨dx, c, r, h, b, ws, us, e, q, o⟩ := g
  exact ⟨dx, c, r, h, b, ws, us, e, q.ext s, o⟩
theorem ShAt.ok (g : ShAt H C a p fp S) : S.Ok := by
  obtain ⟨dx, c, r, h, b, ws, us, e, q, o⟩ := g
  exact o
theorem ShAt.noTup (g : ShAt H C a p fp S) : NoTup H fp := by
  obtain ⟨dx, c, r, h, b, ws, us, rfl, q, o⟩ := g
  intro x m xs e
  simp only [List.mem_cons, List.not_mem_nil, or_false] at m
  rcases m with rfl | rfl | rfl | rfl | rfl
  · rw [q.ha] at e; cases e
  · rw [q.hc] at e; cases e
  · rw [q.hr] at e; cases e
  · rw [q.hh] at e; cases e
  · rw [q.hb] at e; cases e
theorem ShAt.ky (g : ShAt H C a p fp S) (f : Gr fp H H') {v : V} {y : Ky} (d : y.val = true) (h : KyAt H v y) : KyAt H' v y := KyAt.keep f.keep g.noTup y v d h
theorem ShAt.kys (g : ShAt H C a p fp S) (f : Gr fp H H') {v : List V} {y : List Ky} (d : Ky.vals y = true) (h : KysAt H v y) : KysAt H' v y := KysAt.keep f.keep g.noTup y v d h
/-- a shelf stays where another thing changes -/
theorem ShAt.apart (g : ShAt H C a p fp S) {fq : List Addr} (f : Gr fq H H') (n : NoTup H fq) (d : ∀ x ∈ fp, x ∉ fq) : ShAt H' C a p fp S := by
  obtain ⟨dx, c, r, h, b, ws, us, rfl, q, o⟩ := g
  simp only [List.mem_cons, List.not_mem_nil, or_false, forall_eq_or_imp, forall_eq] at d
  obtain ⟨d1, d2, d3, d4, d5⟩ := d
  exact ⟨dx, c, r, h, b, ws, us, rfl, ⟨f.keep _ _ q.ha d1, f.keep _ _ q.hc d2, f.keep _ _ q.hr d3, f.keep _ _ q.hh d4, f.keep _ _ q.hb d5, KysAt.keep f.keep n _ _ q.vr q.kr, KysAt.keep f.keep n _ _ q.vh q.kh, q.vr, q.vh, q.ne⟩, o⟩
end
/-- a method's name is none of a shelf's fields -/
theorem ShAt.met {H : Hp} {C a : Addr} {p : Pre} {fp : List Addr} {S : Sh} {m : Str} (g : ShAt H C a p fp S) (l : ∀ c r h b : Addr, (shF p c r h b S).lookup m = none) : MetAt H a C m := by
  obtain ⟨dx, c, r, h, b, ws, us, e, q, o⟩ := g
  exact ⟨dx, _, q.ha, l c r h b⟩
theorem made_same {H H' : Hp} {x dx C : Addr} {fp : List Addr} (fx : Fresh H x) (fd : Fresh H dx) (gr : Gr [x] (upd (upd H dx (.own x)) x (.ins C dx [])) H') (sb : Sub fp [x] (upd (upd H dx (.own x)) x (.ins C dx []))) : Same H H' ∧ ∀ y ∈ fp, Fresh H y := by
  have s : Same H (upd (upd H dx (.own x)) x (.ins C dx [])) := Same_upd0 (Same_upd (Same.refl _) fd) fx
  have f : ∀ y ∈ [x], Fresh H y := fun y m => by
    rw [List.mem_singleton] at m
    rw [m]
    exact fx
  exact ⟨gr.same s f, sb.fresh s f⟩
theorem KeyOk.ne_non {y : Ky} (k : KeyOk y) : y ≠ .non := fun q => by rw [q] at k; have := k.g; simp [Ky.good] at this
/-! a shelf's deeds -/
def Sh.find (S : Sh) (y : Ky) : Option Nat := placeO S.cells S.row S.j y
def Sh.full (S : Sh) : Bool := decide (2 * 2 ^ S.j / 3 ≤ (S.row.length : Int))
def Sh.come (S : Sh) (y z : Ky) : Sh := { S with cells := layS S.cells S.j S.row.length y, row := S.row ++ [y], held := S.held ++ [z], com := S.com + 1, born := S.born ++ [S.com + 1] }
def Sh.hold (S : Sh) (q : Nat) (z : Ky) : Sh := { S with held := S.held.set q z }
def Sh.went (S : Sh) (q : Nat) (y : Ky) : Sh := { S with cells := S.cells.set (lastSlot S.cells S.row S.j y).toNat (-2), row := S.row.set q .non, held := S.held.set q .non, goi := S.goi + 1 }
def Sh.put (mr : Sh → Option Sh) (S : Sh) (y z : Ky) : Option (Bool × Sh) := match S.find y with
  | some q => some (false, S.hold q z)
  | none => if S.full = true then (mr S).map fun S' => (true, S'.come y z) else some (true, S.come y z)
def Sh.new (j : Nat) : Sh := { row := [], held := [], born := [], cells := List.replicate (2 ^ j) (-1), j := j, jl := j, com := 0, goi := 0, tid := 0, mov := 0 }
theorem Sh.new_ok {j : Nat} (h3 : 3 ≤ j) (h12 : j ≤ 12) : (Sh.new j).Ok := ⟨cwf_nil h3 h12, rfl, rfl, (fun _ h => by cases h), h3, h12, .nil, (fun _ h => by cases h), Int.le_refl 0, by simp [Sh.new]⟩
theorem Sh.Ok.find_some {S : Sh} (o : S.Ok) {y : Ky} (n : y ≠ .non) {q : Nat} : S.find y = some q ↔ S.row[q]? = some y := o.cw.place_some n
theorem Sh.Ok.find_none {S : Sh} (o : S.Ok) {y : Ky} (n : y ≠ .non) : S.find y = none ↔ y ∉ S.row := o.cw.place_none n
theorem Sh.Ok.hold {S : Sh} (o : S.Ok) {q : Nat} {z : Ky} (h : HVal z) : (S.hold q z).Ok := ⟨o.cw, by show (S.held.set q z).length = _; rw [List.length_set]; exact o.hl, o.bl, fun x hx => (List.mem_or_eq_of_mem_set hx).elim (o.hv x) fun e => by rw [e]; exact h, o.l3, o.l12, o.bi, o.bc, o.c0, o.many⟩
theorem Sh.Ok.come {S : Sh} (o : S.Ok) {y z : Ky} (k : KeyOk y) (e : y ∉ S.row) (f : S.full = false) (h : HVal z) : (S.come y z).Ok := by
  have c0 := o.c0
  refine ⟨o.cw.lay k e ?_, ?_, ?_, fun x hx => ?_, o.l3, o.l12, ?_, fun n hn => ?_, ?_, ?_⟩
  · have := of_decide_eq_false f
    omega
  · show (S.held ++ [z]).length = (S.row ++ [y]).length
    rw [List.length_append, List.length_append, o.hl]
    rfl
  · show (S.born ++ [S.com + 1]).length = (S.row ++ [y]).length
    rw [List.length_append, List.length_append, o.bl]
    rfl
  · rcases List.mem_append.mp hx with hx | hx
    · exact o.hv x hx
    · rw [List.mem_singleton] at hx
      rw [hx]
      exact h
  · show (S.born ++ [S.com + 1]).Pairwise (· < ·)
    rw [List.pairwise_append]
    refine ⟨o.bi, List.pairwise_singleton _ _, fun x hx u hu => ?_⟩
    rw [List.mem_singleton] at hu
    have := (o.bc x hx).2
    omega
  · show 0 < n ∧ n ≤ S.com + 1
    rcases List.mem_append.mp hn with hn | hn
    · have := o.bc n hn
      omega
    · rw [List.mem_singleton] at hn
      omega
  · show 0 ≤ S.com + 1
    omega
  · show S.com + 1 - S.goi = (((S.row ++ [y]).filter _).length : Nat)
    have := o.many
    rw [List.filter_append, List.length_append]
    simp [k.ne_non]
    simp at this
    omega
theorem filter_set_non : ∀ {l : List Ky} {q : Nat} {y : Ky}, l[q]? = some y → y ≠ .non → (((l.set q .non).filter fun k => decide (k ≠ .non)).length : Int) + 1 = ((l.filter fun k => decide (k ≠ .non)).length : Nat)
  | [], q, y, e, n => by simp at e
  | x :: l, 0, y, e, n => by
    simp at e
    subst e
    simp [n]
  | x :: l, q + 1, y, e, n => by
    have ih := filter_set_non (l := l) (q := q) (by simpa using e) n
    rw [List.set_cons_succ, List.filter_cons, List.filter_cons]
    split
    · simp only [List.length_cons]
      omega
    · exact ih
theorem Sh.Ok.went {S : Sh} (o : S.Ok) {q : Nat} {y : Ky} (e : S.row[q]? = some y) (n : y ≠ .non) : (S.went q y).Ok := by
  refine ⟨o.cw.gone e n, ?_, ?_, fun x hx => ?_, o.l3, o.l12, o.bi, o.bc, o.c0, ?_⟩
  · show (S.held.set q .non).length = (S.row.set q .non).length
    rw [List.length_set, List.length_set]
    exact o.hl
  · show S.born.length = (S.row.set q .non).length
    rw [List.length_set]
    exact o.bl
  · rcases List.mem_or_eq_of_mem_set hx with hx | hx
    · exact o.hv x hx
    · rw [hx]
      exact ⟨rfl, by simp [Ky.dep]⟩
  · show S.com - (S.goi + 1) = (((S.row.set q .non).filter _).length : Nat)
    have := filter_set_non e n
    have := o.many
    omega
end My
namespace My
open PySem PySem.Spec PyProof.Rows L2
theorem exm_of2 {K : PySem.W.Frag} {C D : Addr} {b : Bool} (h1 : PySem.W.subIn K (.ref D) (.type "BaseException") = some true) (h2 : PySem.W.isClsIn K D = true) (h3 : PySem.W.typeIn K (.ref D) = some (.type "type")) (h4 : PySem.W.subIn K (.ref C) (.ref D) = some b) : PySem.W.exmOne K (.ref C) (.ref D) = some b := by
  unfold PySem.W.exmOne
  rw [h1, if_pos (by rfl)]
  show (if ((PySem.W.clsIn K D).isSome && PySem.W.typeIn K (.ref D) == some (.type "type")) = true then PySem.W.subIn K (.ref C) (.ref D) else none) = some b
  have e : (PySem.W.clsIn K D).isSome = true := h2
  rw [e, h3, if_pos (by rfl), h4]
theorem fund_mk {K : PySem.W.Frag} {x qual : Str} {params : Arguments} {body : List Stmt} {scope : Scope} {dvs : List V} {f D : Addr} {o : Obj} {its : List Value} {n : Nat} {oc kV doc pm cdv ct : Value} {od an : Option Addr} {osl : Array (Option Value)}
    (l : K.lookup f = some ⟨oc, od, .func (PySem.W.fnOf x qual params body scope (.ref D) kV doc pm an cdv ct), osl⟩) (c : PySem.W.codeIn K cdv qual = true) (k : PySem.W.keepIn K (.ref f) = true) (lD : K.lookup D = some o) (oD : o.data = .seq its.toArray n) (ne : dvs ≠ []) (r : Vals dvs its) :
    FunD K x qual params body scope dvs [] f (PySem.W.fnOf x qual params body scope (.ref D) kV doc pm an cdv ct) := ⟨⟨oc, od, _, kV, doc, pm, an, cdv, ct, osl, rfl, l, c, .inr ⟨ne, D, o, its, n, rfl, lD, oD, r⟩, .inl rfl⟩, k⟩
theorem setAt_go {K : PySem.W.Frag} {H : Hp} {a C dx : Addr} {f : Str} {fs gs : List (Str × V)} {y : V} {R : Hp → Prop} (h : H a = some (.ins C dx fs)) (c : Cls K C) (n : NoAttr K C f) (l : fs.length < 1000) (e : putF f y fs = gs) (q : ∀ H', H' = upd H a (.ins C dx gs) → H' a = some (.ins C dx gs) → R H') : SetAt K H a f y R := by
  rw [setAt h c n l e]
  exact q _ rfl upd_same
theorem upd_upd {H : Hp} {a : Addr} {o o' : HO} : upd (upd H a o) a o' = upd H a o' := by
  funext b
  by_cases e : b = a
  · rw [e, upd_same, upd_same]
  · rw [upd_ne e, upd_ne e, upd_ne e]
/-! promises of a shelf's methods -/
def spChecked (CN : Addr) : Sp := fun vs H Q E => ∃ v y, vs = [v] ∧ KyAt H v y ∧ y.fit = true ∧ (within 3 y = true → Q v H) ∧ (within 3 y = false → E (.ref CN) none H)
theorem len_checked {CN : Addr} {vs H Q E} (h : spChecked CN vs H Q E) : vs.length = 1 := by obtain ⟨_, _, rfl, _⟩ := h; rfl
def optV : Option Nat → V
  | none => .non
  | some n => .int n
def spFind (C : Addr) : Sp := fun vs H Q _ => ∃ a p fp S v y, vs = [.ref a, v] ∧ ShAt H C a p fp S ∧ KyAt H v y ∧ KeyOk y ∧ ∀ H', Same H H' → Q (optV (S.find y)) H'
theorem len_find {C : Addr} {vs H Q E} (h : spFind C vs H Q E) : vs.length = 2 := by obtain ⟨_, _, _, _, _, _, rfl, _⟩ := h; rfl
def spLay (C : Addr) : Sp := fun vs H Q _ => ∃ a dx p c r h b S ws us v y q, vs = [.ref a, v, .int q] ∧ ShRaw H C a dx p c r h b S ws us ∧ CWf S.row S.j S.cells ∧ KyAt H v y ∧ KeyOk y ∧
  ∀ H', Same H H' → Q .non (upd H' c (.lst ((S.cells.set (lastSlot S.cells S.row S.j y).toNat q).map V.int)))
theorem len_lay {C : Addr} {vs H Q E} (h : spLay C vs H Q E) : vs.length = 3 := by obtain ⟨_, _, _, _, _, _, _, _, _, _, _, _, _, rfl, _⟩ := h; rfl
def spMarkGone (C : Addr) : Sp := fun vs H Q _ => ∃ a dx p c r h b S ws us v y w, vs = [.ref a, v, w] ∧ ShRaw H C a dx p c r h b S ws us ∧ CWf S.row S.j S.cells ∧ KyAt H v y ∧ KeyOk y ∧
  ∀ H', Same H H' → Q .non (upd H' c (.lst ((S.cells.set (lastSlot S.cells S.row S.j y).toNat (-2)).map V.int)))
theorem len_markGone {C : Addr} {vs H Q E} (h : spMarkGone C vs H Q E) : vs.length = 3 := by obtain ⟨_, _, _, _, _, _, _, _, _, _, _, _, _, rfl, _⟩ := h; rfl
def spRoom (C CF : Addr) (mr : Sh → Option Sh) : Sp := fun vs H Q E => ∃ a p fp S, vs = [.ref a] ∧ ShAt H C a p fp S ∧ (match mr S with
  | none => E (.ref CF) none H
  | some S' => ∀ H' fp', Gr fp H H' → Sub fp' fp H → ShAt H' C a p fp' S' → Q .non H')
theorem len_room {C CF : Addr} {mr : Sh → Option Sh} {vs H Q E} (h : spRoom C CF mr vs H Q E) : vs.length = 1 := by obtain ⟨_, _, _, _, rfl, _⟩ := h; rfl
/-- the thing v: no key, refused with NoKey at once; or a key -/
def spPut (C CN CF : Addr) (mr : Sh → Option Sh) : Sp := fun vs H Q E => ∃ a p fp S v y u z, vs = [.ref a, v, u] ∧ ShAt H C a p fp S ∧ KyAt H v y ∧ y.fit = true ∧ (within 3 y = true → KeyOk y) ∧ KyAt H u z ∧ HVal z ∧
  (within 3 y = false → E (.ref CN) none H) ∧ (KeyOk y → match S.put mr y z with
  | none => ∀ H', Same H H' → E (.ref CF) none H'
  | some (t, S') => ∀ H' fp', Gr fp H H' → Sub fp' fp H → ShAt H' C a p fp' S' → Q (.bl t) H')
theorem len_put {C CN CF : Addr} {mr : Sh → Option Sh} {vs H Q E} (h : spPut C CN CF mr vs H Q E) : vs.length = 3 := by obtain ⟨_, _, _, _, _, _, _, _, rfl, _⟩ := h; rfl
def Sh.heldAt (S : Sh) (y : Ky) : Option Ky := match S.find y with
  | none => none
  | some q => S.held[q]?
def spAt (C CN CL : Addr) : Sp := fun vs H Q E => ∃ a p fp S v y, vs = [.ref a, v] ∧ ShAt H C a p fp S ∧ KyAt H v y ∧ y.fit = true ∧ (within 3 y = true → KeyOk y) ∧
  (within 3 y = false → E (.ref CN) none H) ∧ (KeyOk y → match S.heldAt y with
  | none => ∀ H', Same H H' → E (.ref CL) none H'
  | some z => ∀ H' u, Same H H' → KyAt H' u z → Q u H')
theorem len_at {C CN CL : Addr} {vs H Q E} (h : spAt C CN CL vs H Q E) : vs.length = 2 := by obtain ⟨_, _, _, _, _, _, rfl, _⟩ := h; rfl
def spTold (C CN : Addr) : Sp := fun vs H Q E => ∃ a p fp S v y w, vs = [.ref a, v, w] ∧ ShAt H C a p fp S ∧ KyAt H v y ∧ y.fit = true ∧ (within 3 y = true → KeyOk y) ∧
  (within 3 y = false → E (.ref CN) none H) ∧ (KeyOk y → match S.heldAt y with
  | none => ∀ H', Same H H' → Q w H'
  | some z => ∀ H' u, Same H H' → KyAt H' u z → Q u H')
theorem len_told {C CN : Addr} {vs H Q E} (h : spTold C CN vs H Q E) : vs.length = 3 := by obtain ⟨_, _, _, _, _, _, _, rfl, _⟩ := h; rfl
def spHas (C CN : Addr) : Sp := fun vs H Q E => ∃ a p fp S v y, vs = [.ref a, v] ∧ ShAt H C a p fp S ∧ KyAt H v y ∧ y.fit = true ∧ (within 3 y = true → KeyOk y) ∧
  (within 3 y = false → E (.ref CN) none H) ∧ (KeyOk y → ∀ H', Same H H' → Q (.bl (S.find y).isSome) H')
theorem len_has {C CN : Addr} {vs H Q E} (h : spHas C CN vs H Q E) : vs.length = 2 := by obtain ⟨_, _, _, _, _, _, rfl, _⟩ := h; rfl
def spMany (C : Addr) : Sp := fun vs H Q _ => ∃ a p fp S, vs = [.ref a] ∧ ShAt H C a p fp S ∧ Q (.int (S.com - S.goi)) H
theorem len_many {C : Addr} {vs H Q E} (h : spMany C vs H Q E) : vs.length = 1 := by obtain ⟨_, _, _, _, rfl, _⟩ := h; rfl
/-- the pairs that are there, the first n places looked at -/
def pairsN (row held : List Ky) : Nat → List Ky
  | 0 => []
  | n + 1 => match row[n]? with
    | some k => if k = .non then pairsN row held n else pairsN row held n ++ [.tup [k, held.getD n .non]]
    | none => pairsN row held n
theorem pairsN_len (row held : List Ky) : ∀ i : Nat, (pairsN row held i).length ≤ i
  | 0 => Nat.le_refl _
  | i + 1 => by
    have ih := pairsN_len row held i
    rw [pairsN]
    split
    · split
      · omega
      · rw [List.length_append, List.length_singleton]
        omega
    · omega
theorem RowOk.val {ks : List Ky} (h : RowOk ks) {i : Nat} {k : Ky} (e : ks[i]? = some k) : k.val = true := by
  rcases h.get e with rfl | q
  · rfl
  · exact q.val
theorem tup_vals {ks : List Ky} (h : Ky.vals ks = true) (l : ks.length ≤ 1000) : (Ky.tup ks).val = true := by rw [Ky.val, h, decide_eq_true l]; rfl
theorem vals_two {x y : Ky} (h : x.val = true) (g : y.val = true) : Ky.vals [x, y] = true := by rw [Ky.vals, h, vals_one g]; rfl
theorem Sh.Ok.hval {S : Sh} (o : S.Ok) (n : Nat) : HVal (S.held.getD n .non) := by
  rw [List.getD_eq_getElem?_getD]
  cases e : S.held[n]? with
  | none => exact ⟨rfl, by simp [Ky.dep]⟩
  | some z => exact o.hv z (List.mem_of_getElem? e)
theorem pairsN_vals {S : Sh} (o : S.Ok) : ∀ i : Nat, Ky.vals (pairsN S.row S.held i) = true
  | 0 => rfl
  | i + 1 => by
    have ih := pairsN_vals o i
    rw [pairsN]
    split
    · rename_i k e
      split
      · exact ih
      · exact vals_append ih (vals_one (tup_vals (vals_two (o.cw.rok.val e) (o.hval i).1) (by simp)))
    · exact ih
def Sh.pairs (S : Sh) : List Ky := pairsN S.row S.held S.row.length
def spPairs (C : Addr) : Sp := fun vs H Q _ => ∃ a p fp S, vs = [.ref a] ∧ ShAt H C a p fp S ∧ ∀ H' L xs, Same H H' → Fresh H L → H' L = some (.lst xs) → KysAt H' xs S.pairs → Q (.ref L) H'
theorem len_pairs {C : Addr} {vs H Q E} (h : spPairs C vs H Q E) : vs.length = 1 := by obtain ⟨_, _, _, _, rfl, _⟩ := h; rfl
def Sh.counts (S : Sh) : List Int := [S.com - S.goi, S.com, S.goi, S.tid, S.mov]
def spCounts (C : Addr) : Sp := fun vs H Q _ => ∃ a p fp S, vs = [.ref a] ∧ ShAt H C a p fp S ∧ ∀ H' T, Same H H' → Fresh H T → H' T = some (.tup (S.counts.map V.int)) → Q (.ref T) H'
theorem len_counts {C : Addr} {vs H Q E} (h : spCounts C vs H Q E) : vs.length = 1 := by obtain ⟨_, _, _, _, rfl, _⟩ := h; rfl
/-- __init__ of a bare shelf -/
def spInit (C : Addr) : Sp := fun vs H Q _ => ∃ a dx j, vs = [.ref a, .int (2 ^ j)] ∧ H a = some (.ins C dx []) ∧ (3 ≤ j ∧ j ≤ 12) ∧ ∀ H' fp, Gr [a] H H' → Sub fp [a] H → ShAt H' C a .no fp (Sh.new j) → Q .non H'
theorem len_init {C : Addr} {vs H Q E} (h : spInit C vs H Q E) : vs.length = 2 := by obtain ⟨_, _, _, rfl, _⟩ := h; rfl
/-! taking out -/
theorem tup3_of {H : Hp} {v : V} {a b c : Ky} (h : KyAt H v (.tup [a, b, c])) : ∃ T x y z, v = .ref T ∧ H T = some (.tup [x, y, z]) ∧ KyAt H x a ∧ KyAt H y b ∧ KyAt H z c := by
  cases h with
  | tup h p =>
    cases p with
    | cons h1 p =>
      cases p with
      | cons h2 p =>
        cases p with
        | cons h3 p =>
          cases p
          exact ⟨_, _, _, _, rfl, h, h1, h2, h3⟩
theorem tup2_of {H : Hp} {v : V} {a b : Ky} (h : KyAt H v (.tup [a, b])) : ∃ T x y, v = .ref T ∧ H T = some (.tup [x, y]) ∧ KyAt H x a ∧ KyAt H y b := by
  cases h with
  | tup h p =>
    cases p with
    | cons h1 p =>
      cases p with
      | cons h2 p =>
        cases p
        exact ⟨_, _, _, rfl, h, h1, h2⟩
def spTake (C CN CL : Addr) : Sp := fun vs H Q E => ∃ a p fp S v y, vs = [.ref a, v] ∧ ShAt H C a p fp S ∧ KyAt H v y ∧ y.fit = true ∧ (within 3 y = true → KeyOk y) ∧
  (within 3 y = false → E (.ref CN) none H) ∧ (KeyOk y → match S.find y with
  | none => ∀ H', Same H H' → E (.ref CL) none H'
  | some q => ∀ H' fp' u z, Gr fp H H' → Sub fp' fp H → ShAt H' C a p fp' (S.went q y) → S.held[q]? = some z → KyAt H' u z → Q u H')
theorem len_take {C CN CL : Addr} {vs H Q E} (h : spTake C CN CL vs H Q E) : vs.length = 2 := by obtain ⟨_, _, _, _, _, _, rfl, _⟩ := h; rfl
/-- a place with a key whose number of coming is such -/
def Sh.liv (S : Sh) (f : Int → Bool) (p : Nat) : Bool := decide (S.row.getD p .non ≠ .non) && f (getI S.born p)
def Sh.after (S : Sh) (n : Int) : Option Nat := (List.range S.row.length).find? (S.liv fun b => decide (n < b))
/-- the greatest p < m with f -/
def lastP (f : Nat → Bool) : Nat → Option Nat
  | 0 => none
  | m + 1 => if f m = true then some m else lastP f m
theorem lastP_some {f : Nat → Bool} : ∀ {m p : Nat}, lastP f m = some p ↔ p < m ∧ f p = true ∧ ∀ q, p < q → q < m → f q = false
  | 0, p => by simp [lastP]
  | m + 1, p => by
    rw [lastP]
    by_cases c : f m = true
    · rw [if_pos c]
      constructor
      · intro e
        cases e
        exact ⟨Nat.lt_succ_self _, c, fun q h1 h2 => by omega⟩
      · rintro ⟨h1, h2, h3⟩
        rcases Nat.lt_or_ge p m with g | g
        · rw [h3 m g (Nat.lt_succ_self _)] at c
          cases c
        · rw [show p = m by omega]
    · rw [if_neg c, lastP_some (m := m)]
      constructor
      · rintro ⟨h1, h2, h3⟩
        refine ⟨by omega, h2, fun q g1 g2 => ?_⟩
        rcases Nat.lt_or_ge q m with g | g
        · exact h3 q g1 g
        · rw [show q = m by omega]
          simpa using c
      · rintro ⟨h1, h2, h3⟩
        refine ⟨?_, h2, fun q g1 g2 => h3 q g1 (by omega)⟩
        rcases Nat.lt_or_ge p m with g | g
        · exact g
        · rw [show p = m by omega] at h2
          exact absurd h2 c
theorem lastP_none {f : Nat → Bool} : ∀ {m : Nat}, lastP f m = none ↔ ∀ q, q < m → f q = false
  | 0 => by simp [lastP]
  | m + 1 => by
    rw [lastP]
    by_cases c : f m = true
    · rw [if_pos c]
      simp only [reduceCtorEq, false_iff]
      intro h
      rw [h m (Nat.lt_succ_self _)] at c
      cases c
    · rw [if_neg c, lastP_none (m := m)]
      constructor
      · intro h q g
        rcases Nat.lt_or_ge q m with g2 | g2
        · exact h q g2
        · rw [show q = m by omega]
          simpa using c
      · intro h q g
        exact h q (by omega)
theorem lastP_stop {f : Nat → Bool} {m p : Nat} (h : p < m) (e : f p = true) (b : ∀ q, p < q → q < m → f q = false) : lastP f m = some p := lastP_some.mpr ⟨h, e, b⟩
def Sh.ahead (S : Sh) (n : Int) : Option Nat := lastP (S.liv fun b => decide (b < n)) S.row.length
def Sh.trip (S : Sh) (p : Nat) : Ky := .tup [.num (getI S.born p), S.row.getD p .non, S.held.getD p .non]
def spAfter (C : Addr) : Sp := fun vs H Q _ => ∃ a p fp S n, vs = [.ref a, .int n] ∧ ShAt H C a p fp S ∧ (match S.after n with
  | none => ∀ H', Same H H' → Q .non H'
  | some q => ∀ H' v, Same H H' → KyAt H' v (S.trip q) → Q v H')
theorem len_after {C : Addr} {vs H Q E} (h : spAfter C vs H Q E) : vs.length = 2 := by obtain ⟨_, _, _, _, _, rfl, _⟩ := h; rfl
def spAheadS (C : Addr) : Sp := fun vs H Q _ => ∃ a p fp S n, vs = [.ref a, .int n] ∧ ShAt H C a p fp S ∧ (match S.ahead n with
  | none => ∀ H', Same H H' → Q .non H'
  | some q => ∀ H' v, Same H H' → KyAt H' v (S.trip q) → Q v H')
theorem len_aheadS {C : Addr} {vs H Q E} (h : spAheadS C vs H Q E) : vs.length = 2 := by obtain ⟨_, _, _, _, _, rfl, _⟩ := h; rfl
def Sh.last (S : Sh) : Option Nat := S.ahead (S.com + 1)
def spTakeLast (C CL : Addr) : Sp := fun vs H Q E => ∃ a p fp S, vs = [.ref a] ∧ ShAt H C a p fp S ∧ (match S.last with
  | none => ∀ H', Same H H' → E (.ref CL) none H'
  | some q => ∀ H' fp' v, Gr fp H H' → Sub fp' fp H → ShAt H' C a p fp' (S.went q (S.row.getD q .non)) → KyAt H' v (.tup [S.row.getD q .non, S.held.getD q .non]) → Q v H')
theorem len_takeLast {C CL : Addr} {vs H Q E} (h : spTakeLast C CL vs H Q E) : vs.length = 1 := by obtain ⟨_, _, _, _, rfl, _⟩ := h; rfl
theorem liv_key {S : Sh} (o : S.Ok) {f : Int → Bool} {p : Nat} (h : S.liv f p = true) : ∃ y, S.row[p]? = some y ∧ KeyOk y ∧ S.row.getD p .non = y := by
  unfold Sh.liv at h
  rw [Bool.and_eq_true, decide_eq_true_eq, List.getD_eq_getElem?_getD] at h
  cases e : S.row[p]? with
  | none => rw [e] at h; exact absurd rfl h.1
  | some y =>
    rw [e] at h
    refine ⟨y, rfl, (o.cw.rok.get e).resolve_left h.1, ?_⟩
    rw [List.getD_eq_getElem?_getD, e]
    rfl
theorem ahead_liv {S : Sh} {n : Int} {q : Nat} (h : S.ahead n = some q) : q < S.row.length ∧ S.liv (fun b => decide (b < n)) q = true := by
  have := lastP_some.mp h
  exact ⟨this.1, this.2.1⟩
theorem after_liv {S : Sh} {n : Int} {q : Nat} (h : S.after n = some q) : q < S.row.length ∧ S.liv (fun b => decide (n < b)) q = true := by
  unfold Sh.after at h
  rw [List.find?_range_eq_some] at h
  exact ⟨List.mem_range.mp h.2.1, h.1⟩
def Sh.emptied (S : Sh) : Sh := { row := [], held := [], born := [], cells := layN S.jl [] 0, j := S.jl, jl := S.jl, com := S.com, goi := S.com, tid := S.tid, mov := S.mov }
theorem Sh.Ok.emptied {S : Sh} (o : S.Ok) : S.emptied.Ok := ⟨cwf_nil o.l3 o.l12, rfl, rfl, (fun _ h => by cases h), o.l3, o.l12, .nil, (fun _ h => by cases h), o.c0, by simp [Sh.emptied]⟩
def spRelay (C : Addr) : Sp := fun vs H Q _ => ∃ a dx p c r h b S ws us, vs = [.ref a] ∧ ShRaw H C a dx p c r h b S ws us ∧ RowOk S.row ∧ (3 ≤ S.j ∧ S.j ≤ 12) ∧ (S.row.length : Int) ≤ 2 * 2 ^ S.j / 3 ∧
  ∀ H' c', Gr [a] H H' → Fresh H c' → ShRaw H' C a dx p c' r h b { S with cells := layN S.j S.row S.row.length } ws us → Q .non H'
theorem len_relay {C : Addr} {vs H Q E} (h : spRelay C vs H Q E) : vs.length = 1 := by obtain ⟨_, _, _, _, _, _, _, _, _, _, rfl, _⟩ := h; rfl
def spEmptied (C : Addr) : Sp := fun vs H Q _ => ∃ a p fp S, vs = [.ref a] ∧ ShAt H C a p fp S ∧ ∀ H' fp', Gr fp H H' → Sub fp' fp H → ShAt H' C a p fp' S.emptied → Q .non H'
theorem len_emptied {C : Addr} {vs H Q E} (h : spEmptied C vs H Q E) : vs.length = 1 := by obtain ⟨_, _, _, _, rfl, _⟩ := h; rfl
def spShPaper (C CN : Addr) : Sp := fun vs H Q E => ∃ a p fp S v y, vs = [.ref a, v] ∧ ShAt H C a p fp S ∧ KyAt H v y ∧ y.fit = true ∧ (within 3 y = true → KeyOk y) ∧
  (within 3 y = false → E (.ref CN) none H) ∧ (KeyOk y → ∀ H' L xs, Same H H' → Fresh H L → H' L = some (.lst xs) → KysAt H' xs (paperK S.cells S.row S.j y) → Q (.ref L) H')
theorem len_shPaper {C CN : Addr} {vs H Q E} (h : spShPaper C CN vs H Q E) : vs.length = 2 := by obtain ⟨_, _, _, _, _, _, rfl, _⟩ := h; rfl
def spForm (C : Addr) : Sp := fun vs H Q _ => ∃ a p fp S, vs = [.ref a] ∧ ShAt H C a p fp S ∧ ∀ H' t l1 l2 ws, Same H H' → Fresh H t → Fresh H l1 → Fresh H l2 → l1 ≠ l2 → H' t = some (.tup [.ref l1, .ref l2]) → H' l1 = some (.lst (S.cells.map V.int)) → H' l2 = some (.lst ws) → KysAt H' ws S.row → Q (.ref t) H'
theorem len_form {C : Addr} {vs H Q E} (h : spForm C vs H Q E) : vs.length = 1 := by obtain ⟨_, _, _, _, rfl, _⟩ := h; rfl
end My
namespace My
open PySem PySem.Spec PyProof.Rows L2
/-- a shelf, and beside it a law's own cells and row; Hb: what stood before these were made -/
structure LS (Hb H : Hp) (C sh lc lr : Addr) (S : Sh) (cs : List Int) (ks : List Ky) : Prop where
  sm : Same Hb H
  ex : ∃ fp us, ShAt H C sh .no fp S ∧ (∀ x ∈ fp, Fresh Hb x) ∧ H lc = some (.lst (cs.map V.int)) ∧ H lr = some (.lst us) ∧ KysAt H us ks ∧ lc ∉ fp ∧ lr ∉ fp
  ne : lc ≠ lr
  fc : Fresh Hb lc
  fr : Fresh Hb lr
  rk : RowOk ks
theorem rep_empty {j : Nat} : (List.replicate (2 ^ j : Int).toNat [V.int (-1)]).flatten = (List.replicate (2 ^ j) (-1 : Int)).map V.int := by
  rw [← pow_cast, Int.toNat_natCast, List.map_replicate]
  generalize 2 ^ j = n
  induction n with
  | zero => rfl
  | succ n ih => rw [List.replicate_succ, List.flatten_cons, ih]; rfl
theorem RowOk.vals {ks : List Ky} (h : RowOk ks) : Ky.vals ks = true := vals_iff.mpr fun k hk => by
  rcases h k hk with rfl | q
  · rfl
  · exact q.val
section
variable {Hb H H' : Hp} {C sh lc lr : Addr} {S : Sh} {cs : List Int} {ks : List Ky}
theorem LS.ext (g : LS Hb H C sh lc lr S cs ks) (s : Same H H') : LS Hb H' C sh lc lr S cs ks := by
  obtain ⟨fp, us, h1, h2, h3, h4, h5, h6, h7⟩ := g.ex
  exact ⟨g.sm.trans s, ⟨fp, us, h1.ext s, h2, s _ _ h3, s _ _ h4, h5.same s _ _, h6, h7⟩, g.ne, g.fc, g.fr, g.rk⟩
theorem LS.at (g : LS Hb H C sh lc lr S cs ks) : ∃ us, H lc = some (.lst (cs.map V.int)) ∧ H lr = some (.lst us) ∧ KysAt H us ks := by
  obtain ⟨fp, us, h1, h2, h3, h4, h5, h6, h7⟩ := g.ex
  exact ⟨us, h3, h4, h5⟩
theorem LS.step (g : LS Hb H C sh lc lr S cs ks) : ∃ fp, ShAt H C sh .no fp S ∧ ∀ H' fp' S', Gr fp H H' → Sub fp' fp H → ShAt H' C sh .no fp' S' → LS Hb H' C sh lc lr S' cs ks := by
  obtain ⟨fp, us, h1, h2, h3, h4, h5, h6, h7⟩ := g.ex
  exact ⟨fp, h1, fun H' fp' S' gr sb hS => ⟨gr.same g.sm h2, ⟨fp', us, hS, sb.fresh g.sm h2, gr.keep _ _ h3 h6, gr.keep _ _ h4 h7, h1.kys gr g.rk.vals h5, sb.not h3 h6, sb.not h4 h7⟩, g.ne, g.fc, g.fr, g.rk⟩⟩
theorem LS.cellsU (g : LS Hb H C sh lc lr S cs ks) (cs' : List Int) : LS Hb (upd H lc (.lst (cs'.map V.int))) C sh lc lr S cs' ks := by
  obtain ⟨fp, us, h1, h2, h3, h4, h5, h6, h7⟩ := g.ex
  have nt : NoTup H [lc] := noTup_one h3 fun _ z => by cases z
  have gr : Gr [lc] H (upd H lc (.lst (cs'.map V.int))) := Gr.refl.put (by simp)
  exact ⟨Same_upd0 g.sm g.fc, ⟨fp, us, h1.apart gr nt fun x hx m => h6 (by rw [List.mem_singleton] at m; rw [← m]; exact hx), h2, upd_same, by rw [upd_ne g.ne.symm]; exact h4, KysAt.keep gr.keep nt _ _ g.rk.vals h5, h6, h7⟩, g.ne, g.fc, g.fr, g.rk⟩
theorem LS.rowU (g : LS Hb H C sh lc lr S cs ks) {ws : List V} {ls : List Ky} (hw : KysAt H ws ls) (hr : RowOk ls) : LS Hb (upd H lr (.lst ws)) C sh lc lr S cs ls := by
  obtain ⟨fp, us, h1, h2, h3, h4, h5, h6, h7⟩ := g.ex
  have nt : NoTup H [lr] := noTup_one h4 fun _ z => by cases z
  have gr : Gr [lr] H (upd H lr (.lst ws)) := Gr.refl.put (by simp)
  exact ⟨Same_upd0 g.sm g.fr, ⟨fp, ws, h1.apart gr nt fun x hx m => h7 (by rw [List.mem_singleton] at m; rw [← m]; exact hx), h2, by rw [upd_ne g.ne]; exact h3, upd_same, KysAt.keep gr.keep nt _ _ hr.vals hw, h6, h7⟩, g.ne, g.fc, g.fr, hr⟩
end
theorem ShAt.alloc {H : Hp} {C a : Addr} {p : Pre} {fp : List Addr} {S : Sh} (g : ShAt H C a p fp S) {x : Addr} (f : Fresh H x) : x ∉ fp := fun m => by
  unfold Fresh at f
  obtain ⟨dx, c, r, h, b, ws, us, rfl, q, o⟩ := g
  simp only [List.mem_cons, List.not_mem_nil, or_false] at m
  rcases m with rfl | rfl | rfl | rfl | rfl
  · rw [q.ha] at f; cases f
  · rw [q.hc] at f; cases f
  · rw [q.hr] at f; cases f
  · rw [q.hh] at f; cases f
  · rw [q.hb] at f; cases f
section
variable {Hb H H' : Hp} {C sh lc lr : Addr} {S : Sh} {cs : List Int} {ks : List Ky}
theorem LS.base (g : LS Hb H C sh lc lr S cs ks) {l : Addr} {o : HO} (f : Fresh H l) : LS (upd Hb l o) (upd H l o) C sh lc lr S cs ks := by
  have e := g.ext (Same_upd (o := o) (Same.refl _) f)
  obtain ⟨fp, us, h1, h2, h3, h4, h5, h6, h7⟩ := g.ex
  have nl := h1.alloc f
  have n1 : lc ≠ l := f.ne h3
  have n2 : lr ≠ l := f.ne h4
  have fr : ∀ {x : Addr}, x ≠ l → Fresh Hb x → Fresh (upd Hb l o) x := fun {x} n q => by
    unfold Fresh
    rw [upd_ne n]
    exact q
  refine ⟨fun b u q => ?_, ⟨fp, us, h1.ext (Same_upd (Same.refl _) f), fun x hx => fr (fun q => nl (by rw [← q]; exact hx)) (h2 x hx), by rw [upd_ne n1]; exact h3, by rw [upd_ne n2]; exact h4, h5.same (Same_upd (Same.refl _) f) _ _, h6, h7⟩, g.ne, fr n1 g.fc, fr n2 g.fr, g.rk⟩
  by_cases c : b = l
  · rw [c, upd_same] at q
    rw [c, upd_same]
    exact q
  · rw [upd_ne c] at q
    rw [upd_ne c]
    exact g.sm _ _ q
theorem LS.newCells (g : LS Hb H C sh lc lr S cs ks) {l : Addr} (f : Fresh H l) (cs' : List Int) : LS Hb (upd H l (.lst (cs'.map V.int))) C sh l lr S cs' ks := by
  obtain ⟨fp, us, h1, h2, h3, h4, h5, h6, h7⟩ := g.ex
  have s := Same_upd (o := .lst (cs'.map V.int)) (Same.refl H) f
  exact ⟨g.sm.trans s, ⟨fp, us, h1.ext s, h2, upd_same, s _ _ h4, h5.same s _ _, h1.alloc f, h7⟩, (f.ne h4).symm, Same_fresh g.sm f, g.fr, g.rk⟩
theorem LS.newRow (g : LS Hb H C sh lc lr S cs ks) {l : Addr} (f : Fresh H l) : LS Hb (upd H l (.lst [])) C sh lc l S cs [] := by
  obtain ⟨fp, us, h1, h2, h3, h4, h5, h6, h7⟩ := g.ex
  have s := Same_upd (o := .lst []) (Same.refl H) f
  exact ⟨g.sm.trans s, ⟨fp, [], h1.ext s, h2, s _ _ h3, upd_same, .nil, h6, h1.alloc f⟩, f.ne h3, g.fc, Same_fresh g.sm f, fun _ h => by cases h⟩
theorem LS.start {fp : List Addr} (sm : Same Hb H) (h : ShAt H C sh .no fp S) (ff : ∀ x ∈ fp, Fresh Hb x) {l r : Addr} (f : Fresh H l) (f2 : Fresh (upd H l (.lst (cs.map V.int))) r) : LS Hb (upd (upd H l (.lst (cs.map V.int))) r (.lst [])) C sh l r S cs [] := by
  have s := Same_upd (o := .lst (cs.map V.int)) (Same.refl H) f
  have s2 := Same_upd (o := .lst []) s f2
  have n : l ≠ r := f2.ne upd_same
  exact ⟨sm.trans s2, ⟨fp, [], h.ext s2, ff, by rw [upd_ne n]; exact upd_same, upd_same, .nil, h.alloc f, h.alloc (Same_fresh s f2)⟩, n, Same_fresh sm f, Same_fresh sm (Same_fresh s f2), fun _ h => by cases h⟩
end
theorem index_int {K : PySem.W.Frag} {H : Hp} {a : Addr} {cs : List Int} {z : Int} {j : Nat} {Q : VK} (ha : SqL K H a (cs.map V.int)) (e : cs[j]? = some z) (b : ∀ m : Nat, m < j → cs[m]? ≠ some z) (q : Q (.int (j : Nat)) H) : rIndex K (.ref a) [.int z] H Q := by
  refine ⟨a, _, _, j, .int z, rfl, rfl, ha, rfl, List.all_eq_true.mpr fun x hx => ?_, by rw [List.getElem?_map, e]; rfl, by simp [eqV], fun m z' hm h => ?_, q⟩
  · obtain ⟨n, _, rfl⟩ := List.mem_map.mp hx
    rfl
  · obtain ⟨n, h1, rfl⟩ := ints_at h
    have : n ≠ z := fun c => b m hm (by rw [h1, c])
    simp [eqV, this]
/-- a wish of a try: the clause takes it -/
theorem wOnly_yes {K : PySem.W.Frag} {c cls : Value} {ts : Addr → Value → Option Addr → TS} {Wout : WX} {D : Ends} {σ : L2.St} {d : Option Addr} {H : Hp} (e : PySem.W.exmOne K cls c = some true) (k : ∀ a, Fresh H a → ts a cls d D σ H) : WE (wOnly K c ts Wout D) σ cls d H := ⟨true, e, fun _ a f => k a f, fun q => nomatch q⟩
theorem wMany_yes {K : PySem.W.Frag} {c cls : Value} {ts : Addr → Value → Option Addr → TS} {l : List (Value × (Addr → Value → Option Addr → TS))} {Wout : WX} {D : Ends} {σ : L2.St} {d : Option Addr} {H : Hp} (e : PySem.W.exmOne K cls c = some true) (k : ∀ a, Fresh H a → ts a cls d D σ H) : wMany K Wout D ((c, ts) :: l) cls d σ H := ⟨true, e, fun _ a f => k a f, fun q => nomatch q⟩
theorem wMany_no {K : PySem.W.Frag} {c cls : Value} {ts : Addr → Value → Option Addr → TS} {l : List (Value × (Addr → Value → Option Addr → TS))} {Wout : WX} {D : Ends} {σ : L2.St} {d : Option Addr} {H : Hp} (e : PySem.W.exmOne K cls c = some false) (k : wMany K Wout D l cls d σ H) : wMany K Wout D ((c, ts) :: l) cls d σ H := ⟨false, e, (fun q => nomatch q), fun _ => k⟩
/-- the last living place -/
theorem last_liv {S : Sh} (o : S.Ok) : S.last = lastP (fun p => decide (S.row.getD p .non ≠ .non)) S.row.length := by
  have e : ∀ p, p < S.row.length → S.liv (fun b => decide (b < S.com + 1)) p = decide (S.row.getD p .non ≠ .non) := fun p hp => by
    unfold Sh.liv
    have hb := o.bl
    have := (o.bc _ (getI_in (ps := S.born) (c := (p : Nat)) (by omega) (by omega))).2
    dsimp only
    rw [decide_eq_true (show getI S.born (p : Nat) < S.com + 1 by omega), Bool.and_true]
  unfold Sh.last Sh.ahead
  cases h : lastP (fun p => decide (S.row.getD p .non ≠ .non)) S.row.length with
  | none =>
    rw [lastP_none] at h ⊢
    exact fun q hq => by rw [e q hq]; exact h q hq
  | some p =>
    rw [lastP_some] at h ⊢
    exact ⟨h.1, by rw [e p h.1]; exact h.2.1, fun q h1 h2 => by rw [e q h2]; exact h.2.2 q h1 h2⟩
theorem lastP_filter (f : Nat → Bool) : ∀ n : Nat, lastP f n = ((List.range n).filter f).getLast?
  | 0 => rfl
  | n + 1 => by
    rw [lastP, List.range_succ, List.filter_append]
    by_cases c : f n = true
    · simp [c]
    · have c' : f n = false := by simpa using c
      simp [c', lastP_filter f n]
end My
namespace My
open PySem PySem.Spec PyProof.Rows L2
/-! a shelf, and beside it lists of the law's own -/
structure LW (Hb H : Hp) (C sh : Addr) (S : Sh) (own : List (Addr × List Ky)) : Prop where
  sm : Same Hb H
  ex : ∃ fp, ShAt H C sh .no fp S ∧ (∀ x ∈ fp, Fresh Hb x) ∧ ∀ q ∈ own, q.1 ∉ fp
  ats : ∀ q ∈ own, Fresh Hb q.1 ∧ Ky.vals q.2 = true ∧ ∃ ws, H q.1 = some (.lst ws) ∧ KysAt H ws q.2
  nd : (own.map Prod.fst).Nodup
section
variable {Hb H H' : Hp} {C sh a b : Addr} {S : Sh} {ks ls : List Ky} {own r : List (Addr × List Ky)}
theorem LW.ext (g : LW Hb H C sh S own) (s : Same H H') : LW Hb H' C sh S own := by
  obtain ⟨fp, h1, h2, h3⟩ := g.ex
  exact ⟨g.sm.trans s, ⟨fp, h1.ext s, h2, h3⟩, fun q m => by
    obtain ⟨x1, x2, ws, x3, x4⟩ := g.ats q m
    exact ⟨x1, x2, ws, s _ _ x3, x4.same s _ _⟩, g.nd⟩
theorem LW.step (g : LW Hb H C sh S own) : ∃ fp, ShAt H C sh .no fp S ∧ ∀ H' fp' S', Gr fp H H' → Sub fp' fp H → ShAt H' C sh .no fp' S' → LW Hb H' C sh S' own := by
  obtain ⟨fp, h1, h2, h3⟩ := g.ex
  refine ⟨fp, h1, fun H' fp' S' gr sb hS => ⟨gr.same g.sm h2, ⟨fp', hS, sb.fresh g.sm h2, fun q m => ?_⟩, fun q m => ?_, g.nd⟩⟩
  · obtain ⟨x1, x2, ws, x3, x4⟩ := g.ats q m
    exact sb.not x3 (h3 q m)
  · obtain ⟨x1, x2, ws, x3, x4⟩ := g.ats q m
    exact ⟨x1, x2, ws, gr.keep _ _ x3 (h3 q m), h1.kys gr x2 x4⟩
theorem LW.get (g : LW Hb H C sh S own) {q : Addr × List Ky} (m : q ∈ own) : ∃ ws, H q.1 = some (.lst ws) ∧ KysAt H ws q.2 := (g.ats q m).2.2
/-- a list of the law's changes -/
theorem LW.put {o1 o2 : List (Addr × List Ky)} (g : LW Hb H C sh S (o1 ++ (a, ks) :: o2)) {ws : List V} (v : Ky.vals ls = true) (h : KysAt H ws ls) : LW Hb (upd H a (.lst ws)) C sh S (o1 ++ (a, ls) :: o2) := by
  obtain ⟨fp, h1, h2, h3⟩ := g.ex
  obtain ⟨y1, y2, us, y3, y4⟩ := g.ats (a, ks) (by simp)
  have na := h3 (a, ks) (by simp)
  have nt : NoTup H [a] := noTup_one y3 fun _ z => by cases z
  have gr : Gr [a] H (upd H a (.lst ws)) := Gr.refl.put (by simp)
  have nd := g.nd
  rw [List.map_append, List.map_cons, List.nodup_append] at nd
  obtain ⟨n1, n2, n3⟩ := nd
  obtain ⟨n4, n5⟩ := List.nodup_cons.mp n2
  have old : ∀ q ∈ o1 ++ o2, q.1 ≠ a ∧ q ∈ o1 ++ (a, ks) :: o2 := fun q m => by
    rcases List.mem_append.mp m with m | m
    · exact ⟨n3 _ (List.mem_map_of_mem m) _ List.mem_cons_self, List.mem_append_left _ m⟩
    · exact ⟨fun e => n4 (show a ∈ o2.map Prod.fst from e ▸ List.mem_map_of_mem m), List.mem_append_right _ (List.mem_cons_of_mem _ m)⟩
  have cases_ : ∀ q ∈ o1 ++ (a, ls) :: o2, q = (a, ls) ∨ q ∈ o1 ++ o2 := fun q m => by
    rcases List.mem_append.mp m with m | m
    · exact .inr (List.mem_append_left _ m)
    · rcases List.mem_cons.mp m with m | m
      · exact .inl m
      · exact .inr (List.mem_append_right _ m)
  refine ⟨Same_upd0 g.sm y1, ⟨fp, h1.apart gr nt fun x hx m => na (by rw [List.mem_singleton] at m; rw [← m]; exact hx), h2, fun q m => ?_⟩, fun q m => ?_, ?_⟩
  · rcases cases_ q m with rfl | m
    · exact na
    · exact h3 q (old q m).2
  · rcases cases_ q m with rfl | m
    · exact ⟨y1, v, ws, upd_same, KysAt.keep gr.keep nt _ _ v h⟩
    · obtain ⟨x1, x2, us, x3, x4⟩ := g.ats q (old q m).2
      exact ⟨x1, x2, us, by rw [upd_ne (old q m).1]; exact x3, KysAt.keep gr.keep nt _ _ x2 x4⟩
  · rw [List.map_append, List.map_cons, List.nodup_append]
    exact ⟨n1, n2, n3⟩
/-- a list of the law's is new -/
theorem LW.new (g : LW Hb H C sh S own) (f : Fresh H a) {ws : List V} (v : Ky.vals ls = true) (h : KysAt H ws ls) : LW Hb (upd H a (.lst ws)) C sh S (own ++ [(a, ls)]) := by
  obtain ⟨fp, h1, h2, h3⟩ := g.ex
  have s := Same_upd (o := .lst ws) (Same.refl H) f
  have e := g.ext s
  obtain ⟨fq, k1, k2, k3⟩ := e.ex
  refine ⟨e.sm, ⟨fp, h1.ext s, h2, fun q m => ?_⟩, fun q m => ?_, ?_⟩
  · rcases List.mem_append.mp m with m | m
    · exact h3 q m
    · rw [List.mem_singleton] at m
      rw [m]
      exact h1.alloc f
  · rcases List.mem_append.mp m with m | m
    · exact e.ats q m
    · rw [List.mem_singleton] at m
      subst m
      exact ⟨Same_fresh g.sm f, v, ws, upd_same, h.same s _ _⟩
  · rw [List.map_append, List.nodup_append]
    refine ⟨g.nd, by simp, fun x hx y hy => ?_⟩
    obtain ⟨q, m, rfl⟩ := List.mem_map.mp hx
    obtain ⟨x1, x2, us, x3, x4⟩ := g.ats q m
    simp at hy
    rw [hy]
    exact f.ne x3
theorem LW.base (g : LW Hb H C sh S own) {l : Addr} {o : HO} (f : Fresh H l) : LW (upd Hb l o) (upd H l o) C sh S own := by
  obtain ⟨fp, h1, h2, h3⟩ := g.ex
  have s := Same_upd (o := o) (Same.refl H) f
  have e := g.ext s
  have nl := h1.alloc f
  have fr : ∀ {x : Addr}, x ≠ l → Fresh Hb x → Fresh (upd Hb l o) x := fun {x} n q => by
    unfold Fresh
    rw [upd_ne n]
    exact q
  refine ⟨fun b u q => ?_, ⟨fp, h1.ext s, fun x hx => fr (fun q => nl (by rw [← q]; exact hx)) (h2 x hx), h3⟩, fun q m => ?_, g.nd⟩
  · by_cases c : b = l
    · rw [c, upd_same] at q
      rw [c, upd_same]
      exact q
    · rw [upd_ne c] at q
      rw [upd_ne c]
      exact g.sm _ _ q
  · obtain ⟨x1, x2, us, x3, x4⟩ := e.ats q m
    obtain ⟨y1, y2, ws, y3, y4⟩ := g.ats q m
    exact ⟨fr (f.ne y3) y1, x2, us, x3, x4⟩
theorem LW.start {fp : List Addr} (sm : Same Hb H) (h : ShAt H C sh .no fp S) (ff : ∀ x ∈ fp, Fresh Hb x) : LW Hb H C sh S [] := ⟨sm, ⟨fp, h, ff, fun _ m => by cases m⟩, (fun _ m => by cases m), .nil⟩
end
theorem kys_ints {H : Hp} : ∀ {ns : List Int} {ws : List V}, KysAt H ws (ns.map Ky.num) → ws = ns.map V.int
  | [], _, h => by cases h; rfl
  | n :: ns, _, h => by
    cases h with
    | cons h t =>
      cases h
      rw [kys_ints t]
      rfl
theorem vals_nums : ∀ ns : List Int, Ky.vals (ns.map Ky.num) = true := fun ns => vals_iff.mpr fun k hk => by
  obtain ⟨n, _, rfl⟩ := List.mem_map.mp hk
  rfl
/-! the living pairs -/
def lvP (row held : List Ky) : List (Ky × Ky) := (row.zip held).filter fun p => decide (p.1 ≠ .non)
def Sh.lv (S : Sh) : List (Ky × Ky) := lvP S.row S.held
def pairT (p : Ky × Ky) : Ky := .tup [p.1, p.2]
theorem pairsN_lv : ∀ (row held : List Ky) (n : Nat), held.length = row.length → n ≤ row.length → pairsN row held n = (lvP (row.take n) (held.take n)).map pairT
  | row, held, 0, _, _ => rfl
  | row, held, n + 1, h, l => by
    have ih := pairsN_lv row held n h (by omega)
    have e1 : row[n]? = some row[n] := List.getElem?_eq_getElem (by omega)
    rw [pairsN, e1, List.take_succ_eq_append_getElem (by omega : n < row.length), List.take_succ_eq_append_getElem (by omega : n < held.length)]
    unfold lvP
    rw [List.zip_append (by rw [List.length_take, List.length_take]; omega), List.filter_append, List.map_append]
    dsimp only
    by_cases c : row[n] = .non
    · rw [if_pos c, ih]
      simp [c, lvP]
    · rw [if_neg c, ih]
      have e2 : held.getD n .non = held[n] := by rw [List.getD_eq_getElem?_getD, List.getElem?_eq_getElem (by omega : n < held.length)]; rfl
      rw [e2]
      simp [c, lvP, pairT]
theorem pairs_lv {S : Sh} (o : S.Ok) : S.pairs = S.lv.map pairT := by
  unfold Sh.pairs Sh.lv
  rw [pairsN_lv _ _ _ o.hl (Nat.le_refl _), List.take_length, ← o.hl, List.take_length]
theorem lvP_append (r1 r2 h1 h2 : List Ky) (e : r1.length = h1.length) : lvP (r1 ++ r2) (h1 ++ h2) = lvP r1 h1 ++ lvP r2 h2 := by
  unfold lvP
  rw [List.zip_append e, List.filter_append]
theorem lvP_key {r h : List Ky} {p : Ky × Ky} (m : p ∈ lvP r h) : p.1 ∈ r ∧ p.2 ∈ h ∧ p.1 ≠ .non := by
  unfold lvP at m
  rw [List.mem_filter] at m
  obtain ⟨m1, m2⟩ := m
  obtain ⟨a, b⟩ := p
  exact ⟨(List.of_mem_zip m1).1, (List.of_mem_zip m1).2, of_decide_eq_true m2⟩
theorem split_at {α : Type} {l : List α} {q : Nat} {x : α} (e : l[q]? = some x) : ∃ a b, l = a ++ x :: b ∧ a.length = q := by
  obtain ⟨h, e⟩ := List.getElem?_eq_some_iff.mp e
  refine ⟨l.take q, l.drop (q + 1), ?_, by rw [List.length_take]; omega⟩
  rw [← e, List.getElem_cons_drop, List.take_append_drop]
theorem set_mid {α : Type} (a b : List α) (x y : α) : (a ++ x :: b).set a.length y = a ++ y :: b := by simp
theorem Sh.Ok.split {S : Sh} (o : S.Ok) {q : Nat} {y : Ky} (e : S.row[q]? = some y) (n : y ≠ .non) : ∃ (A B : List (Ky × Ky)) (z : Ky), S.lv = A ++ (y, z) :: B ∧ S.held[q]? = some z ∧ (∀ u, (S.hold q u).lv = A ++ (y, u) :: B) ∧ (S.went q y).lv = A ++ B ∧
    (∀ p ∈ A, p.1 ≠ y) ∧ (∀ p ∈ B, p.1 ≠ y) ∧ ((∀ t, q < t → S.row.getD t .non = .non) → B = []) := by
  obtain ⟨r1, r2, er, el⟩ := split_at e
  have hq := (List.getElem?_eq_some_iff.mp e).1
  have hl := o.hl
  obtain ⟨z0, ez⟩ : ∃ z, S.held[q]? = some z := ⟨_, List.getElem?_eq_getElem (by omega)⟩
  obtain ⟨h1, h2, eh, eg⟩ := split_at ez
  have ee : r1.length = h1.length := by omega
  have one : ∀ u, lvP (r1 ++ y :: r2) (h1 ++ u :: h2) = lvP r1 h1 ++ (y, u) :: lvP r2 h2 := fun u => by
    rw [lvP_append _ _ _ _ ee]
    congr 1
    show List.filter _ ((y, u) :: r2.zip h2) = _
    rw [List.filter_cons, if_pos (decide_eq_true n)]
    rfl
  have uq : ∀ t, S.row[t]? = some y → t = q := fun t h => o.cw.nd t q y h e n
  refine ⟨lvP r1 h1, lvP r2 h2, z0, ?_, ez, fun u => ?_, ?_, fun p m => ?_, fun p m => ?_, fun h => ?_⟩
  · have := one z0
    rw [← er, ← eh] at this
    exact this
  · show lvP S.row (S.held.set q u) = _
    rw [← one u, er]
    congr 1
    rw [eh]
    rw [← eg]
    exact set_mid _ _ _ _
  · show lvP (S.row.set q .non) (S.held.set q .non) = _
    have e1 : S.row.set q .non = r1 ++ .non :: r2 := by rw [er, ← el]; exact set_mid _ _ _ _
    have e2 : S.held.set q .non = h1 ++ .non :: h2 := by rw [eh, ← eg]; exact set_mid _ _ _ _
    rw [e1, e2, lvP_append _ _ _ _ ee]
    congr 1
  · intro c
    obtain ⟨t, ht, et⟩ := List.mem_iff_getElem.mp (lvP_key m).1
    have := uq t (by rw [er, List.getElem?_append_left ht, List.getElem?_eq_getElem ht, et, c])
    omega
  · intro c
    obtain ⟨t, ht, et⟩ := List.mem_iff_getElem.mp (lvP_key m).1
    have := uq (r1.length + 1 + t) (by
      rw [er, List.getElem?_append_right (by omega), show r1.length + 1 + t - r1.length = t + 1 by omega, List.getElem?_cons_succ, List.getElem?_eq_getElem ht, et, c])
    omega
  · rw [List.eq_nil_iff_forall_not_mem]
    intro p m
    obtain ⟨k1, -, k3⟩ := lvP_key m
    obtain ⟨t, ht, et⟩ := List.mem_iff_getElem.mp k1
    have := h (r1.length + 1 + t) (by omega)
    rw [List.getD_eq_getElem?_getD, er, List.getElem?_append_right (by omega), show r1.length + 1 + t - r1.length = t + 1 by omega, List.getElem?_cons_succ, List.getElem?_eq_getElem ht, et] at this
    exact k3 this
theorem come_lv {S : Sh} (o : S.Ok) {y z : Ky} (n : y ≠ .non) : (S.come y z).lv = S.lv ++ [(y, z)] := by
  show lvP (S.row ++ [y]) (S.held ++ [z]) = _
  rw [lvP_append _ _ _ _ o.hl.symm]
  congr 1
  show List.filter _ [(y, z)] = _
  rw [List.filter_cons, if_pos (decide_eq_true n)]
  rfl
theorem lv_not {S : Sh} {y : Ky} (e : y ∉ S.row) : ∀ p ∈ S.lv, p.1 ≠ y := fun p m c => e (by rw [← c]; exact (lvP_key m).1)
theorem last_none {S : Sh} (o : S.Ok) (e : S.last = none) : S.lv = [] := by
  rw [last_liv o, lastP_none] at e
  rw [List.eq_nil_iff_forall_not_mem]
  intro p m
  obtain ⟨k1, -, k3⟩ := lvP_key m
  obtain ⟨t, ht, et⟩ := List.mem_iff_getElem.mp k1
  have := of_decide_eq_false (e t ht)
  rw [List.getD_eq_getElem?_getD, List.getElem?_eq_getElem ht, et] at this
  exact this k3
theorem last_some {S : Sh} (o : S.Ok) {q : Nat} (e : S.last = some q) : ∀ t, q < t → S.row.getD t .non = .non := fun t h => by
  rw [last_liv o, lastP_some] at e
  rcases Nat.lt_or_ge t S.row.length with g | g
  · have := of_decide_eq_false (e.2.2 t h g)
    exact Classical.byContradiction this
  · rw [List.getD_eq_getElem?_getD, List.getElem?_eq_none_iff.mpr g]
    rfl
theorem lv_len {S : Sh} (o : S.Ok) : (S.lv.length : Int) = S.com - S.goi := by
  rw [o.many]
  unfold Sh.lv lvP
  have h : ∀ (r h : List Ky), h.length = r.length → ((r.zip h).filter fun p => decide (p.1 ≠ .non)).length = (r.filter fun k => decide (k ≠ .non)).length := by
    intro r
    induction r with
    | nil => intro h e; rfl
    | cons x r ih =>
      intro h e
      cases h with
      | nil => simp at e
      | cons z h =>
        rw [List.zip_cons_cons, List.filter_cons, List.filter_cons]
        dsimp only
        split
        · rw [List.length_cons, List.length_cons, ih h (by simpa using e)]
        · exact ih h (by simpa using e)
  rw [h _ _ o.hl]
/-! a deed, and what comes of it: a number (0; 1: Full; 2: Lacking), an answer, the shelf -/
def Sh.deed (mr : Sh → Option Sh) (S : Sh) (way : Nat) (y z : Ky) : Int × Ky × Sh := match way with
  | 0 => match S.put mr y z with
    | none => (1, .non, S)
    | some (b, S') => (0, .bl b, S')
  | 1 => match S.find y with
    | none => (2, .non, S)
    | some q => (0, S.held.getD q .non, S.went q y)
  | 2 => match S.last with
    | none => (2, .non, S)
    | some q => (0, .tup [S.row.getD q .non, S.held.getD q .non], S.went q (S.row.getD q .non))
  | 3 => match S.heldAt y with
    | none => (2, .non, S)
    | some u => (0, u, S)
  | 4 => match S.heldAt y with
    | none => (0, z, S)
    | some u => (0, u, S)
  | 5 => (0, .bl (S.find y).isSome, S)
  | 6 => (0, .tup (S.counts.map Ky.num), S)
  | _ => (0, .non, S.emptied)
def spDeed (C CF CL : Addr) (mr : Sh → Option Sh) : Sp := fun vs H Q E => ∃ sh w v u p fp S y z, vs = [.ref sh, .int (w : Nat), v, u] ∧ ShAt H C sh p fp S ∧ KyAt H v y ∧ KeyOk y ∧ KyAt H u z ∧ HVal z ∧ w ≤ 7 ∧
  ((S.deed mr w y z).1 = 0 → ∀ H' fp' x, Gr fp H H' → Sub fp' fp H → ShAt H' C sh p fp' (S.deed mr w y z).2.2 → KyAt H' x (S.deed mr w y z).2.1 → Q x H') ∧
  ((S.deed mr w y z).1 = 1 → ∀ H', Same H H' → E (.ref CF) none H') ∧ ((S.deed mr w y z).1 = 2 → ∀ H', Same H H' → E (.ref CL) none H')
theorem len_deed {C CF CL : Addr} {mr : Sh → Option Sh} {vs H Q E} (h : spDeed C CF CL mr vs H Q E) : vs.length = 4 := by obtain ⟨_, _, _, _, _, _, _, _, _, rfl, _⟩ := h; rfl
def spAsked (C : Addr) (mr : Sh → Option Sh) : Sp := fun vs H Q _ => ∃ sh w v u p fp S y z, vs = [.ref sh, .int (w : Nat), v, u] ∧ ShAt H C sh p fp S ∧ KyAt H v y ∧ KeyOk y ∧ KyAt H u z ∧ HVal z ∧ w ≤ 7 ∧
  ∀ H' fp' x, Gr fp H H' → Sub fp' fp H → ShAt H' C sh p fp' (S.deed mr w y z).2.2 → KyAt H' x (.tup [.num (S.deed mr w y z).1, (S.deed mr w y z).2.1]) → Q x H'
theorem len_asked {C : Addr} {mr : Sh → Option Sh} {vs H Q E} (h : spAsked C mr vs H Q E) : vs.length = 4 := by obtain ⟨_, _, _, _, _, _, _, _, _, rfl, _⟩ := h; rfl
theorem deed_ref {mr : Sh → Option Sh} {S : Sh} {w : Nat} {y z : Ky} (h : (S.deed mr w y z).1 ≠ 0) : ((S.deed mr w y z).1 = 1 ∨ (S.deed mr w y z).1 = 2) ∧ (S.deed mr w y z).2.1 = .non ∧ (S.deed mr w y z).2.2 = S := by
  match w with
  | 0 =>
    unfold Sh.deed at h ⊢
    cases e : S.put mr y z with
    | none => exact ⟨.inl rfl, rfl, rfl⟩
    | some p => rw [e] at h; exact absurd rfl h
  | 1 =>
    unfold Sh.deed at h ⊢
    cases e : S.find y with
    | none => exact ⟨.inr rfl, rfl, rfl⟩
    | some p => rw [e] at h; exact absurd rfl h
  | 2 =>
    unfold Sh.deed at h ⊢
    cases e : S.last with
    | none => exact ⟨.inr rfl, rfl, rfl⟩
    | some p => rw [e] at h; exact absurd rfl h
  | 3 =>
    unfold Sh.deed at h ⊢
    cases e : S.heldAt y with
    | none => exact ⟨.inr rfl, rfl, rfl⟩
    | some p => rw [e] at h; exact absurd rfl h
  | 4 =>
    unfold Sh.deed at h ⊢
    cases e : S.heldAt y with
    | none => rw [e] at h; exact absurd rfl h
    | some p => rw [e] at h; exact absurd rfl h
  | 5 => exact absurd rfl h
  | 6 => exact absurd rfl h
  | n + 7 => exact absurd rfl h
theorem bl_at {H : Hp} (b : Bool) : KyAt H (.bl b) (.bl b) := .bl b
/-- the place of a key among pairs -/
def spSpot (K : PySem.W.Frag) : Sp := fun vs H Q _ => ∃ l v ws lv y, vs = [.ref l, v] ∧ SqL K H l ws ∧ KysAt H ws ((lv : List (Ky × Ky)).map pairT) ∧ KyAt H v y ∧ KeyOk y ∧ (∀ p ∈ lv, KeyOk p.1) ∧ lv.length ≤ 5000 ∧
  ((∀ p ∈ lv, p.1 ≠ y) → Q .non H) ∧ ∀ A B z, lv = A ++ (y, z) :: B → (∀ p ∈ A, p.1 ≠ y) → Q (.int (A.length : Nat)) H
theorem len_spot {K : PySem.W.Frag} {vs H Q E} (h : spSpot K vs H Q E) : vs.length = 2 := by obtain ⟨_, _, _, _, _, rfl, _⟩ := h; rfl
theorem spot_use {K : PySem.W.Frag} {H : Hp} {Q : VK} {E : XK} {l : Addr} {v : V} {ws : List V} {S : Sh} {y : Ky} (hl : H l = some (.lst ws)) (hw : KysAt H ws (S.lv.map pairT)) (o : S.Ok) (hy : KyAt H v y) (yk : KeyOk y)
    (k1 : S.find y = none → Q .non H) (k2 : ∀ q A B z, S.find y = some q → S.lv = A ++ (y, z) :: B → S.held[q]? = some z → (∀ u, (S.hold q u).lv = A ++ (y, u) :: B) → (S.went q y).lv = A ++ B → Q (.int (A.length : Nat)) H) : spSpot K [.ref l, v] H Q E := by
  have kk : ∀ p ∈ S.lv, KeyOk p.1 := fun p m => ((o.cw.rok _ (lvP_key m).1).resolve_left (lvP_key m).2.2)
  have ln : S.lv.length ≤ 5000 := by
    have h1 : S.lv.length ≤ (S.row.zip S.held).length := List.length_filter_le _ _
    rw [List.length_zip] at h1
    have := o.cw.lt
    omega
  refine ⟨l, v, ws, S.lv, y, rfl, SqL.of hl, hw, hy, yk, kk, ln, fun h => ?_, fun A B z e h => ?_⟩
  · refine k1 ((o.find_none yk.ne_non).mpr fun m => ?_)
    obtain ⟨q, hq⟩ := List.mem_iff_getElem?.mp m
    obtain ⟨A, B, z, e, -⟩ := o.split hq yk.ne_non
    exact h (y, z) (by rw [e]; simp) rfl
  · cases ef : S.find y with
    | none => exact absurd rfl (lv_not ((o.find_none yk.ne_non).mp ef) (y, z) (by rw [e]; simp))
    | some q =>
      obtain ⟨A', B', z', e', h1, h2, h3, h4, h5, -⟩ := o.split ((o.find_some yk.ne_non).mp ef) yk.ne_non
      have key : ∀ (A A' B B' : List (Ky × Ky)) (z z' : Ky), A ++ (y, z) :: B = A' ++ (y, z') :: B' → (∀ p ∈ A, p.1 ≠ y) → (∀ p ∈ A', p.1 ≠ y) → A = A' ∧ z = z' ∧ B = B' := by
        intro A
        induction A with
        | nil =>
          intro A' B B' z z' e h h'
          cases A' with
          | nil => simp at e; exact ⟨rfl, e.1, e.2⟩
          | cons a A' =>
            simp at e
            exact absurd (by rw [← e.1]) (h' a List.mem_cons_self)
        | cons a A ih =>
          intro A' B B' z z' e h h'
          cases A' with
          | nil =>
            simp at e
            exact absurd (by rw [e.1]) (h a List.mem_cons_self)
          | cons a' A' =>
            simp at e
            obtain ⟨i1, i2, i3⟩ := ih A' B B' z z' e.2 (fun p m => h p (List.mem_cons_of_mem _ m)) (fun p m => h' p (List.mem_cons_of_mem _ m))
            exact ⟨by rw [e.1, i1], i2, i3⟩
      obtain ⟨rfl, rfl, rfl⟩ := key A A' B B' z z' (by rw [← e, e']) h h4
      exact k2 q A B z ef e' h1 h2 h3
theorem pairT_vals {S : Sh} (o : S.Ok) : Ky.vals (S.lv.map pairT) = true := by
  rw [← pairs_lv o]
  exact pairsN_vals o _
theorem deed_ok {S : Sh} (o : S.Ok) {w : Nat} {y z : Ky} (yk : KeyOk y) (hz : HVal z) : (S.deed (fun _ => none) w y z).2.2.Ok := by
  match w with
  | 0 =>
    unfold Sh.deed Sh.put
    cases e : S.find y with
    | some q => exact o.hold hz
    | none =>
      dsimp only
      by_cases c : S.full = true
      · rw [if_pos c]; exact o
      · rw [if_neg c]
        exact o.come yk ((o.find_none yk.ne_non).mp e) (by simpa using c) hz
  | 1 =>
    unfold Sh.deed
    cases e : S.find y with
    | none => exact o
    | some q => exact o.went ((o.find_some yk.ne_non).mp e) yk.ne_non
  | 2 =>
    unfold Sh.deed
    cases e : S.last with
    | none => exact o
    | some q =>
      obtain ⟨y2, e1, e2, e3⟩ := liv_key o (ahead_liv e).2
      dsimp only
      rw [e3]
      exact o.went e1 e2.ne_non
  | 3 => unfold Sh.deed; cases S.heldAt y <;> exact o
  | 4 => unfold Sh.deed; cases S.heldAt y <;> exact o
  | 5 => exact o
  | 6 => exact o
  | n + 7 => exact o.emptied
end My
namespace My
open PySem PySem.Spec PyProof.Rows L2
/-! values (none within tuples, too) held against each other -/
theorem vals_cons {k : Ky} {ks : List Ky} (h : Ky.vals (k :: ks) = true) : k.val = true ∧ Ky.vals ks = true := by simpa [Ky.vals] using h
mutual
theorem Ky.eqvV : ∀ x y : Ky, x.val = true → y.val = true → PyData.eqv x.toD y.toD = Ky.beq x y
  | .num i, y, _, h => by
    cases y <;> first | (simp [Ky.val] at h; done) | (simp [Ky.toD, PyData.eqv, Ky.beq]; done) | (simp only [Ky.toD, PyData.eqv, Ky.beq]; exact Bool.beq_eq_decide_eq _ _)
  | .txt i, y, _, h => by
    cases y <;> first | (simp [Ky.val] at h; done) | (simp [Ky.toD, PyData.eqv, Ky.beq]; done) | (simp only [Ky.toD, PyData.eqv, Ky.beq]; exact Bool.beq_eq_decide_eq _ _)
  | .non, y, _, h => by
    cases y <;> first | (simp [Ky.val] at h; done) | (simp [Ky.toD, PyData.eqv, Ky.beq]; done)
  | .tup xs, .tup ys, h, g => by
    simp only [Ky.toD, PyData.eqv, Ky.beq]
    exact Ky.eqvsV xs ys (tup_val h).2 (tup_val g).2
  | .tup xs, .num _, _, _ => by simp [Ky.toD, PyData.eqv, Ky.beq]
  | .tup xs, .txt _, _, _ => by simp [Ky.toD, PyData.eqv, Ky.beq]
  | .tup xs, .non, _, _ => by simp [Ky.toD, PyData.eqv, Ky.beq]
  | .tup xs, .bl _, _, h => by simp [Ky.val] at h
  | .tup xs, .lst _, _, h => by simp [Ky.val] at h
  | .tup xs, .dct, _, h => by simp [Ky.val] at h
  | .bl _, _, h, _ => by simp [Ky.val] at h
  | .lst _, _, h, _ => by simp [Ky.val] at h
  | .dct, _, h, _ => by simp [Ky.val] at h
theorem Ky.eqvsV : ∀ xs ys : List Ky, Ky.vals xs = true → Ky.vals ys = true → PyData.eqvAll (Ky.toDs xs) (Ky.toDs ys) = Ky.beqs xs ys
  | [], [], _, _ => by simp [Ky.toDs, PyData.eqvAll, Ky.beqs]
  | x :: xs, y :: ys, h, g => by
    simp only [Ky.toDs, PyData.eqvAll, Ky.beqs]
    rw [Ky.eqvV x y (vals_cons h).1 (vals_cons g).1, Ky.eqvsV xs ys (vals_cons h).2 (vals_cons g).2]
  | [], _ :: _, _, _ => by simp [Ky.toDs, PyData.eqvAll, Ky.beqs]
  | _ :: _, [], _, _ => by simp [Ky.toDs, PyData.eqvAll, Ky.beqs]
end
mutual
theorem Ky.canLayV : ∀ k : Ky, k.val = true → k.toD.canLay0 = true
  | .num _, _ => by simp [Ky.toD, PyData.canLay0]
  | .txt x, h => by
    have h' : PyData.strOk x = true := by simpa [Ky.val] using h
    simpa [Ky.toD, PyData.canLay0] using h'
  | .non, _ => by simp [Ky.toD, PyData.canLay0]
  | .tup ks, h => by
    simp only [Ky.toD, PyData.canLay0]
    exact Ky.canLaysV ks (tup_val h).2
  | .bl _, h => by simp [Ky.val] at h
  | .lst _, h => by simp [Ky.val] at h
  | .dct, h => by simp [Ky.val] at h
theorem Ky.canLaysV : ∀ ks : List Ky, Ky.vals ks = true → PyData.canLayAll0 (Ky.toDs ks) = true
  | [], _ => by simp [Ky.toDs, PyData.canLayAll0]
  | k :: ks, h => by
    simp only [Ky.toDs, PyData.canLayAll0, Ky.canLayV k (vals_cons h).1, Ky.canLaysV ks (vals_cons h).2, Bool.and_self]
end
theorem Ky.shapedV {k : Ky} (h : k.val = true) (d : k.dep ≤ 60) : SeqAt.shaped k.toD = true := by
  unfold SeqAt.shaped
  rw [Ky.canLayV k h, Ky.depth_toD, decide_eq_true (by omega)]
  rfl
def Ky.vrow (ks : List Ky) : Prop := ∀ k ∈ ks, k.val = true ∧ k.dep ≤ 60
theorem vrow_vals {ks : List Ky} (h : Ky.vrow ks) : Ky.vals ks = true := vals_iff.mpr fun k hk => (h k hk).1
theorem vrow_deps {ks : List Ky} (h : Ky.vrow ks) : Ky.deps ks ≤ 60 := deps_of fun k hk => (h k hk).2
theorem vrow_nil : Ky.vrow [] := fun _ h => by cases h
theorem Ky.shapedVL {ks : List Ky} (h : Ky.vrow ks) : SeqAt.shaped (.list (Ky.toDs ks)) = true := by
  unfold SeqAt.shaped
  have := vrow_deps h
  rw [PyData.canLay0, Ky.canLaysV ks (vrow_vals h), PyData.depth, Ky.depths_toD, decide_eq_true (by omega)]
  rfl
section
variable {H : Hp} {K : PySem.W.Frag}
mutual
theorem KyAt.dpV : ∀ (k : Ky) (v : V), k.val = true → KyAt H v k → Dp K H v k.toD
  | .num i, _, _, h => by cases h; rw [Ky.toD]; exact .int i
  | .txt x, _, _, h => by cases h; rw [Ky.toD]; exact .str x
  | .non, _, _, h => by
    cases h
    have e : Ky.toD .non = .none := by simp [Ky.toD]
    rw [e]
    exact .non
  | .tup ks, _, g, h => by
    cases h with
    | tup h p => rw [Ky.toD]; exact .tup (SqT.of h) (KysAt.dpV ks _ (tup_val g).2 p)
  | .bl _, _, g, _ => by simp [Ky.val] at g
  | .lst _, _, g, _ => by simp [Ky.val] at g
  | .dct, _, g, _ => by simp [Ky.val] at g
theorem KysAt.dpV : ∀ (ks : List Ky) (vs : List V), Ky.vals ks = true → KysAt H vs ks → DpAll K H vs (Ky.toDs ks)
  | [], _, _, h => by cases h; rw [Ky.toDs]; exact .nil
  | k :: ks, _, g, h => by
    cases h with
    | cons h t => rw [Ky.toDs]; exact .cons (KyAt.dpV k _ (vals_cons g).1 h) (KysAt.dpV ks _ (vals_cons g).2 t)
end
theorem eq_val {v w : V} {k l : Ky} {Q : VK} (hv : KyAt H v k) (hw : KyAt H w l) (gk : k.val = true) (gl : l.val = true) (dk : k.dep ≤ 60) (dl : l.dep ≤ 60) (q : Q (.bl (decide (k = l))) H) : rEqD K v w H Q := by
  refine ⟨k.toD, l.toD, KyAt.dpV k v gk hv, KyAt.dpV l w gl hw, Ky.shapedV gk dk, Ky.shapedV gl dl, ?_⟩
  rw [Ky.eqvV _ _ gk gl, Ky.beq_dec]
  exact q
theorem ne_val {v w : V} {k l : Ky} {Q : VK} (hv : KyAt H v k) (hw : KyAt H w l) (gk : k.val = true) (gl : l.val = true) (dk : k.dep ≤ 60) (dl : l.dep ≤ 60) (q : Q (.bl (!decide (k = l))) H) : rNeD K v w H Q := by
  refine ⟨k.toD, l.toD, KyAt.dpV k v gk hv, KyAt.dpV l w gl hw, Ky.shapedV gk dk, Ky.shapedV gl dl, ?_⟩
  rw [Ky.eqvV _ _ gk gl, Ky.beq_dec]
  exact q
theorem eq_vrows {a b : Addr} {vs ws : List V} {ks ls : List Ky} {Q : VK} (ha : SqL K H a vs) (hk : KysAt H vs ks) (hb : SqL K H b ws) (hl : KysAt H ws ls) (dk : Ky.vrow ks) (dl : Ky.vrow ls) (q : Q (.bl (decide (ks = ls))) H) : rEqD K (.ref a) (.ref b) H Q := by
  refine ⟨.list (Ky.toDs ks), .list (Ky.toDs ls), .lst ha (KysAt.dpV ks _ (vrow_vals dk) hk), .lst hb (KysAt.dpV ls _ (vrow_vals dl) hl), Ky.shapedVL dk, Ky.shapedVL dl, ?_⟩
  rw [PyData.eqv, Ky.eqvsV _ _ (vrow_vals dk) (vrow_vals dl), Ky.beqs_dec]
  exact q
theorem ne_vrows {a b : Addr} {vs ws : List V} {ks ls : List Ky} {Q : VK} (ha : SqL K H a vs) (hk : KysAt H vs ks) (hb : SqL K H b ws) (hl : KysAt H ws ls) (dk : Ky.vrow ks) (dl : Ky.vrow ls) (q : Q (.bl (!decide (ks = ls))) H) : rNeD K (.ref a) (.ref b) H Q := by
  refine ⟨.list (Ky.toDs ks), .list (Ky.toDs ls), .lst ha (KysAt.dpV ks _ (vrow_vals dk) hk), .lst hb (KysAt.dpV ls _ (vrow_vals dl) hl), Ky.shapedVL dk, Ky.shapedVL dl, ?_⟩
  rw [PyData.eqv, Ky.eqvsV _ _ (vrow_vals dk) (vrow_vals dl), Ky.beqs_dec]
  exact q
end
theorem pairT_dep {S : Sh} (o : S.Ok) : ∀ k ∈ S.lv.map pairT, k.val = true ∧ k.dep ≤ 9 := fun k hk => by
  refine ⟨vals_iff.mp (pairT_vals o) k hk, ?_⟩
  obtain ⟨p, hp, rfl⟩ := List.mem_map.mp hk
  obtain ⟨k1, k2, k3⟩ := lvP_key hp
  have a1 := ((o.cw.rok _ k1).resolve_left k3).d
  have a2 := (o.hv _ k2).2
  simp only [pairT, Ky.dep, Ky.deps]
  omega
theorem lv_vrow {S : Sh} (o : S.Ok) : Ky.vrow (S.lv.map pairT) := fun k hk => ⟨(pairT_dep o k hk).1, Nat.le_trans (pairT_dep o k hk).2 (by decide)⟩
theorem lv_le {S : Sh} (o : S.Ok) : S.lv.length ≤ 2730 := by
  have h1 : S.lv.length ≤ (S.row.zip S.held).length := List.length_filter_le _ _
  rw [List.length_zip] at h1
  have := o.cw.lt
  omega
end My
namespace My
open PySem PySem.Spec PyProof.Rows L2
/-! packing, sizes; a table's tidying -/
def keptK : List Ky → List Ky → List Ky × List Ky
  | k :: ks, u :: us => if k = .non then keptK ks us else (k :: (keptK ks us).1, u :: (keptK ks us).2)
  | _, _ => ([], [])
def spPacked (K : PySem.W.Frag) : Sp := fun vs H Q _ => ∃ (a b : Addr) (xs ys : List V) (ks us : List Ky), vs = [.ref a, .ref b] ∧ SqL K H a xs ∧ SqL K H b ys ∧ KysAt H xs ks ∧ KysAt H ys us ∧ (Ky.vals ks = true ∧ Ky.vals us = true) ∧ ks.length ≤ 5000 ∧ ks.length = us.length ∧
  ∀ (t c d : Addr) (ws zs : List V) (H' : Hp), Same H H' → c ≠ d → Fresh H c → Fresh H d → H' t = some (.tup [.ref c, .ref d]) → H' c = some (.lst ws) → H' d = some (.lst zs) → KysAt H' ws (keptK ks us).1 → KysAt H' zs (keptK ks us).2 → Q (.ref t) H'
theorem len_packed {K : PySem.W.Frag} {vs H Q E} (h : spPacked K vs H Q E) : vs.length = 2 := by obtain ⟨_, _, _, _, _, _, rfl, _⟩ := h; rfl
theorem keptK_mem : ∀ (ks us : List Ky) (z : Ky), (z ∈ (keptK ks us).1 → z ∈ ks) ∧ (z ∈ (keptK ks us).2 → z ∈ us)
  | [], _, z => by simp [keptK]
  | _ :: _, [], z => by simp [keptK]
  | k :: ks, u :: us, z => by
    have := keptK_mem ks us z
    rw [keptK]
    split
    · exact ⟨fun h => List.mem_cons_of_mem _ (this.1 h), fun h => List.mem_cons_of_mem _ (this.2 h)⟩
    · refine ⟨fun h => ?_, fun h => ?_⟩
      · rcases List.mem_cons.mp h with rfl | h
        · exact List.mem_cons_self
        · exact List.mem_cons_of_mem _ (this.1 h)
      · rcases List.mem_cons.mp h with rfl | h
        · exact List.mem_cons_self
        · exact List.mem_cons_of_mem _ (this.2 h)
theorem keptK_take {ks us : List Ky} : ∀ {i : Nat} {k u : Ky}, ks[i]? = some k → us[i]? = some u → keptK (ks.take (i + 1)) (us.take (i + 1)) = if k = .non then keptK (ks.take i) (us.take i) else ((keptK (ks.take i) (us.take i)).1 ++ [k], (keptK (ks.take i) (us.take i)).2 ++ [u]) := by
  induction ks generalizing us with
  | nil => intro i k u h; simp at h
  | cons x xs ih =>
    intro i k u h g
    cases us with
    | nil => simp at g
    | cons y ys =>
      cases i with
      | zero =>
        simp at h g
        subst h
        subst g
        simp [keptK]
      | succ i =>
        have := ih (us := ys) (i := i) (by simpa using h) (by simpa using g)
        simp only [List.take_succ_cons, keptK] at this ⊢
        rw [this]
        by_cases c : x = .non
        · simp [c]
        · by_cases c2 : k = .non
          · simp [c, c2]
          · simp [c, c2]
def spSizeFor : Sp := fun vs H Q _ => ∃ n : Int, vs = [.int n] ∧ (0 ≤ n ∧ n ≤ 1365) ∧ ∀ j : Nat, (3 ≤ j ∧ j ≤ 12) → 3 * n ≤ 2 ^ j → (j = 3 ∨ 2 ^ (j - 1) < 3 * n) → Q (.int (2 ^ j)) H
theorem len_sizefor {vs H Q E} (h : spSizeFor vs H Q E) : vs.length = 1 := by obtain ⟨_, rfl, _⟩ := h; rfl
end My
namespace My
open PySem PySem.Spec PyProof.Rows L2
theorem keptK_lv : ∀ (ks us : List Ky), keptK ks us = ((lvP ks us).map Prod.fst, (lvP ks us).map Prod.snd)
  | [], us => by simp [keptK, lvP]
  | _ :: _, [] => by simp [keptK, lvP]
  | k :: ks, u :: us => by
    rw [keptK, keptK_lv ks us]
    unfold lvP
    rw [List.zip_cons_cons, List.filter_cons]
    by_cases c : k = .non <;> simp [c]
def keptI (row : List Ky) (born : List Int) : List Int := ((row.zip born).filter fun p => decide (p.1 ≠ .non)).map Prod.snd
theorem keptI_nums (row : List Ky) (born : List Int) : (keptK row (born.map Ky.num)).2 = (keptI row born).map Ky.num := by
  rw [keptK_lv]
  unfold keptI lvP
  show ((row.zip (born.map Ky.num)).filter fun p => decide (p.1 ≠ .non)).map Prod.snd = (((row.zip born).filter fun p => decide (p.1 ≠ .non)).map Prod.snd).map Ky.num
  rw [List.zip_map_right, List.filter_map, List.map_map, List.map_map]
  rfl
theorem keptI_sub (row : List Ky) (born : List Int) (e : born.length = row.length) : (keptI row born).Sublist born := by
  unfold keptI
  have h := (List.filter_sublist (p := fun p : Ky × Int => decide (p.1 ≠ .non)) (l := row.zip born)).map Prod.snd
  have e2 : (row.zip born).map Prod.snd = born := List.map_snd_zip (by omega)
  rw [e2] at h
  exact h
theorem keptI_len : ∀ (row held : List Ky) (born : List Int), held.length = row.length → born.length = row.length → (keptI row born).length = (lvP row held).length
  | [], held, born, h1, h2 => by
    have : born = [] := List.length_eq_zero_iff.mp (by simpa using h2)
    subst this
    simp [keptI, lvP]
  | k :: row, z :: held, n :: born, h1, h2 => by
    have ih := keptI_len row held born (by simpa using h1) (by simpa using h2)
    unfold keptI lvP at ih ⊢
    rw [List.zip_cons_cons, List.zip_cons_cons, List.filter_cons, List.filter_cons]
    dsimp only
    split
    · rw [List.map_cons, List.length_cons, List.length_cons, ih]
    · exact ih
  | _ :: _, [], _, h1, _ => by simp at h1
  | _ :: _, _ :: _, [], _, h2 => by simp at h2
theorem kept1_eq (row : List Ky) (held : List Ky) (born : List Int) (e1 : held.length = row.length) (e2 : born.length = row.length) : (keptK row (born.map Ky.num)).1 = (keptK row held).1 := by
  rw [keptK_lv, keptK_lv]
  dsimp only
  revert held born
  induction row with
  | nil => intro held born _ _; simp [lvP]
  | cons k row ih =>
    intro held born e1 e2
    cases held with
    | nil => simp at e1
    | cons z held =>
      cases born with
      | nil => simp at e2
      | cons n born =>
        have := ih held born (by simpa using e1) (by simpa using e2)
        unfold lvP at this ⊢
        rw [List.map_cons, List.zip_cons_cons, List.zip_cons_cons, List.filter_cons, List.filter_cons]
        dsimp only
        split
        · rw [List.map_cons, List.map_cons, this]
        · exact this
def szJ (n : Nat) : Nat := if n ≤ 2 then 3 else if n ≤ 5 then 4 else if n ≤ 10 then 5 else if n ≤ 21 then 6 else if n ≤ 42 then 7 else if n ≤ 85 then 8 else if n ≤ 170 then 9 else if n ≤ 341 then 10 else if n ≤ 682 then 11 else 12
theorem szJ_at {n j : Nat} (h : 3 ≤ j ∧ j ≤ 12) (e : 3 * (n : Int) ≤ 2 ^ j) (l : j = 3 ∨ (2 : Int) ^ (j - 1) < 3 * n) : j = szJ n := by
  have c : j = 3 ∨ j = 4 ∨ j = 5 ∨ j = 6 ∨ j = 7 ∨ j = 8 ∨ j = 9 ∨ j = 10 ∨ j = 11 ∨ j = 12 := by omega
  unfold szJ
  rcases c with rfl | rfl | rfl | rfl | rfl | rfl | rfl | rfl | rfl | rfl <;> simp only [Int.reducePow, Nat.reduceSub] at e l
  · rw [if_pos (by omega)]
  · rw [if_neg (by omega), if_pos (by omega)]
  · rw [if_neg (by omega), if_neg (by omega), if_pos (by omega)]
  · rw [if_neg (by omega), if_neg (by omega), if_neg (by omega), if_pos (by omega)]
  · rw [if_neg (by omega), if_neg (by omega), if_neg (by omega), if_neg (by omega), if_pos (by omega)]
  · rw [if_neg (by omega), if_neg (by omega), if_neg (by omega), if_neg (by omega), if_neg (by omega), if_pos (by omega)]
  · rw [if_neg (by omega), if_neg (by omega), if_neg (by omega), if_neg (by omega), if_neg (by omega), if_neg (by omega), if_pos (by omega)]
  · rw [if_neg (by omega), if_neg (by omega), if_neg (by omega), if_neg (by omega), if_neg (by omega), if_neg (by omega), if_neg (by omega), if_pos (by omega)]
  · rw [if_neg (by omega), if_neg (by omega), if_neg (by omega), if_neg (by omega), if_neg (by omega), if_neg (by omega), if_neg (by omega), if_neg (by omega), if_pos (by omega)]
  · rw [if_neg (by omega), if_neg (by omega), if_neg (by omega), if_neg (by omega), if_neg (by omega), if_neg (by omega), if_neg (by omega), if_neg (by omega), if_neg (by omega)]
theorem szJ_range (n : Nat) : 3 ≤ szJ n ∧ szJ n ≤ 12 := by
  unfold szJ
  (repeat' split) <;> omega
theorem szJ_le {n : Nat} (h : n ≤ 1365) : 3 * (n : Int) ≤ 2 ^ szJ n := by
  unfold szJ
  (repeat' split) <;> simp only [Int.reducePow] <;> omega
theorem szJ_room {n : Nat} (h : n ≤ 1365) : (n : Int) < 2 * 2 ^ szJ n / 3 := by
  have h1 := szJ_le h
  have h2 := (pow_le (szJ_range n).1).2
  simp only [Int.reducePow] at h2
  omega
def Sh.tidy (S : Sh) : Sh := { row := S.lv.map Prod.fst, held := S.lv.map Prod.snd, born := keptI S.row S.born, cells := layN (szJ S.lv.length) (S.lv.map Prod.fst) S.lv.length, j := szJ S.lv.length, jl := S.jl, com := S.com, goi := S.goi, tid := S.tid + 1, mov := S.mov + (S.lv.length : Nat) }
theorem lvP_nodup : ∀ (row held : List Ky), (∀ (p q : Nat) k, row[p]? = some k → row[q]? = some k → k ≠ .non → p = q) → ((lvP row held).map Prod.fst).Nodup
  | [], _, _ => by simp [lvP]
  | _ :: _, [], _ => by simp [lvP]
  | k :: row, z :: held, nd => by
    have ih := lvP_nodup row held fun p q k h1 h2 n => by
      have := nd (p + 1) (q + 1) k (by simpa using h1) (by simpa using h2) n
      omega
    unfold lvP at ih ⊢
    rw [List.zip_cons_cons, List.filter_cons]
    dsimp only
    split
    · rename_i c
      rw [List.map_cons, List.nodup_cons]
      refine ⟨fun m => ?_, ih⟩
      obtain ⟨p, hp, e⟩ := List.mem_map.mp m
      have m2 : p.1 ∈ row := (lvP_key (r := row) (h := held) hp).1
      dsimp only at e
      rw [e] at m2
      obtain ⟨i, hi⟩ := List.mem_iff_getElem?.mp m2
      have := nd 0 (i + 1) k rfl (by simpa using hi) (of_decide_eq_true c)
      omega
    · exact ih
theorem nodup_at : ∀ {l : List Ky}, l.Nodup → ∀ (p q : Nat) k, l[p]? = some k → l[q]? = some k → p = q
  | [], _, p, q, k, h1, _ => by simp at h1
  | x :: l, h, 0, 0, k, _, _ => rfl
  | x :: l, h, 0, q + 1, k, h1, h2 => by
    simp at h1 h2
    exact absurd (List.mem_of_getElem? h2) (h1 ▸ (List.nodup_cons.mp h).1)
  | x :: l, h, p + 1, 0, k, h1, h2 => by
    simp at h1 h2
    exact absurd (List.mem_of_getElem? h1) (h2 ▸ (List.nodup_cons.mp h).1)
  | x :: l, h, p + 1, q + 1, k, h1, h2 => by
    rw [nodup_at (List.nodup_cons.mp h).2 p q k (by simpa using h1) (by simpa using h2)]
theorem Sh.Ok.tidy {S : Sh} (o : S.Ok) (h : S.lv.length ≤ 1365) : S.tidy.Ok := by
  have hl := o.hl
  have hb := o.bl
  have nn : ∀ k ∈ S.lv.map Prod.fst, k ≠ .non := fun k m => by
    obtain ⟨p, hp, rfl⟩ := List.mem_map.mp m
    exact (lvP_key hp).2.2
  have sub := keptI_sub S.row S.born hb
  refine ⟨?_, ?_, ?_, fun z m => ?_, o.l3, o.l12, ?_, fun n m => ?_, o.c0, ?_⟩
  · show CWf (S.lv.map Prod.fst) (szJ S.lv.length) (layN (szJ S.lv.length) (S.lv.map Prod.fst) S.lv.length)
    have e : S.lv.length = (S.lv.map Prod.fst).length := by rw [List.length_map]
    have c := cwf_laid (ks := S.lv.map Prod.fst) (j := szJ S.lv.length) (szJ_range _).1 (szJ_range _).2 (by rw [List.length_map]; have := szJ_room h; omega) (fun k m => by
      obtain ⟨p, hp, rfl⟩ := List.mem_map.mp m
      exact o.cw.rok _ (lvP_key hp).1) fun p q k h1 h2 _ => nodup_at (lvP_nodup _ _ o.cw.nd) p q k h1 h2
    rw [List.length_map] at c
    exact c
  · show (S.lv.map Prod.snd).length = (S.lv.map Prod.fst).length
    rw [List.length_map, List.length_map]
  · show (keptI S.row S.born).length = (S.lv.map Prod.fst).length
    rw [List.length_map, keptI_len _ _ _ hl hb]
    rfl
  · obtain ⟨p, hp, rfl⟩ := List.mem_map.mp m
    exact o.hv _ (lvP_key hp).2.1
  · exact o.bi.sublist sub
  · exact o.bc n (sub.subset m)
  · show S.com - S.goi = (((S.lv.map Prod.fst).filter fun k => decide (k ≠ .non)).length : Nat)
    rw [List.filter_eq_self.mpr fun k m => decide_eq_true (nn k m), List.length_map, lv_len o]
theorem tidy_lv {S : Sh} : S.tidy.lv = S.lv := by
  show lvP (S.lv.map Prod.fst) (S.lv.map Prod.snd) = S.lv
  unfold lvP
  rw [List.zip_map', List.filter_map]
  have : (S.lv.filter ((fun p : Ky × Ky => decide (p.1 ≠ .non)) ∘ fun x => (x.1, x.2))) = S.lv := List.filter_eq_self.mpr fun p m => decide_eq_true (lvP_key m).2.2
  rw [this]
  simp
theorem tidy_room {S : Sh} (h : S.lv.length ≤ 1365) : S.tidy.full = false := decide_eq_false (by
  show ¬ 2 * 2 ^ szJ S.lv.length / 3 ≤ (((S.lv.map Prod.fst).length : Nat) : Int)
  rw [List.length_map]
  have := szJ_room h
  omega)
theorem tidy_not {S : Sh} {y : Ky} (e : y ∉ S.row) : y ∉ S.tidy.row := fun m => by
  obtain ⟨p, hp, q⟩ := List.mem_map.mp m
  exact lv_not e p hp q
/-- a table's put -/
def Sh.putT (S : Sh) (y z : Ky) : Bool × Sh := match S.find y with
  | some q => (false, S.hold q z)
  | none => if S.full = true then (true, S.tidy.come y z) else (true, S.come y z)
def spRoomT (C : Addr) : Sp := fun vs H Q _ => ∃ a p fp S, vs = [.ref a] ∧ ShAt H C a p fp S ∧ S.lv.length ≤ 1365 ∧ ∀ H' fp', Gr fp H H' → Sub fp' fp H → ShAt H' C a p fp' S.tidy → Q .non H'
theorem len_roomT {C : Addr} {vs H Q E} (h : spRoomT C vs H Q E) : vs.length = 1 := by obtain ⟨_, _, _, _, rfl, _⟩ := h; rfl
def spPutT (C CN : Addr) : Sp := fun vs H Q E => ∃ a p fp S v y u z, vs = [.ref a, v, u] ∧ ShAt H C a p fp S ∧ KyAt H v y ∧ y.fit = true ∧ (within 3 y = true → KeyOk y) ∧ KyAt H u z ∧ HVal z ∧ S.lv.length ≤ 1365 ∧
  (within 3 y = false → E (.ref CN) none H) ∧ (KeyOk y → ∀ H' fp', Gr fp H H' → Sub fp' fp H → ShAt H' C a p fp' (S.putT y z).2 → Q (.bl (S.putT y z).1) H')
theorem len_putT {C CN : Addr} {vs H Q E} (h : spPutT C CN vs H Q E) : vs.length = 3 := by obtain ⟨_, _, _, _, _, _, _, _, rfl, _⟩ := h; rfl
theorem Sh.Ok.putT {S : Sh} (o : S.Ok) {y z : Ky} (yk : KeyOk y) (hz : HVal z) (h : S.lv.length ≤ 1365) : (S.putT y z).2.Ok := by
  unfold Sh.putT
  cases e : S.find y with
  | some q => exact o.hold hz
  | none =>
    have nin := (o.find_none yk.ne_non).mp e
    dsimp only
    by_cases c : S.full = true
    · rw [if_pos c]
      exact (o.tidy h).come yk (tidy_not nin) (tidy_room h) hz
    · rw [if_neg c]
      exact o.come yk nin (by simpa using c) hz
/-- __init__ of a shelf's own part, whatever its class -/
def spInitG (K : PySem.W.Frag) : Sp := fun vs H Q _ => ∃ C a dx j, ShC K C ∧ vs = [.ref a, .int (2 ^ j)] ∧ H a = some (.ins C dx []) ∧ (3 ≤ j ∧ j ≤ 12) ∧ ∀ H' fp, Gr [a] H H' → Sub fp [a] H → ShAt H' C a .no fp (Sh.new j) → Q .non H'
theorem len_initG {K : PySem.W.Frag} {vs H Q E} (h : spInitG K vs H Q E) : vs.length = 2 := by obtain ⟨_, _, _, _, _, rfl, _⟩ := h; rfl
def spInitT (C : Addr) : Sp := fun vs H Q _ => ∃ a dx, vs = [.ref a] ∧ H a = some (.ins C dx []) ∧ ∀ H' fp, Gr [a] H H' → Sub fp [a] H → ShAt H' C a .no fp (Sh.new 3) → Q .non H'
theorem len_initT {C : Addr} {vs H Q E} (h : spInitT C vs H Q E) : vs.length = 1 := by obtain ⟨_, _, rfl, _⟩ := h; rfl
end My
namespace My
open PySem PySem.Spec PyProof.Rows L2
/-! sets of keys: an object with a table -/
structure KsC (K : PySem.W.Frag) (C : Addr) : Prop where
  cls : Cls K C
  book : NoAttr K C "book"
def ksF (t : Addr) : List (Str × V) := [("book", .ref t)]
def Sh.keys (S : Sh) : List Ky := S.lv.map Prod.fst
def addL (r : List Ky) (k : Ky) : List Ky := if k ∈ r then r else r ++ [k]
def onceL (l : List Ky) : List Ky := l.foldl addL []
def dropL (r : List Ky) (y : Ky) : List Ky := r.filter fun k => decide (k ≠ y)
def KsAt (H : Hp) (C CT a : Addr) (fp : List Addr) (ks : List Ky) : Prop := ∃ dx t fq S, fp = a :: fq ∧ H a = some (.ins C dx (ksF t)) ∧ ShAt H CT t .no fq S ∧ a ∉ fq ∧ S.keys = ks
theorem ks_fld {K : PySem.W.Frag} {H : Hp} {Q : VK} {C a dx t : Addr} (k : KsC K C) (e : H a = some (.ins C dx (ksF t))) : FldAt K H a "book" Q = Q (.ref t) H := fldAt e k.cls k.book (by with_unfolding_all rfl)
section
variable {H H' : Hp} {C CT a : Addr} {fp : List Addr} {ks : List Ky} {S : Sh} {y z : Ky}
theorem KsAt.step (h : KsAt H C CT a fp ks) : ∃ dx t fq S, H a = some (.ins C dx (ksF t)) ∧ ShAt H CT t .no fq S ∧ S.keys = ks ∧ (∀ x ∈ fq, x ∈ fp) ∧
    ∀ H' fp' S', Gr fq H H' → Sub fp' fq H → ShAt H' CT t .no fp' S' → KsAt H' C CT a (a :: fp') S'.keys ∧ Gr fp H H' ∧ Sub (a :: fp') fp H := by
  obtain ⟨dx, t, fq, S, rfl, ha, hS, na, e⟩ := h
  refine ⟨dx, t, fq, S, ha, hS, e, fun x m => List.mem_cons_of_mem _ m, fun H' fp' S' gr sb hS' => ⟨⟨dx, t, fp', S', rfl, gr.keep _ _ ha na, hS', sb.not ha na, rfl⟩, gr.mono fun x m => List.mem_cons_of_mem _ m, fun x m => ?_⟩⟩
  rcases List.mem_cons.mp m with rfl | m
  · exact .inl List.mem_cons_self
  · exact (sb x m).imp (List.mem_cons_of_mem _) id
theorem KsAt.ext (h : KsAt H C CT a fp ks) (s : Same H H') : KsAt H' C CT a fp ks := by
  obtain ⟨dx, t, fq, S, e, ha, hS, na, q⟩ := h
  exact ⟨dx, t, fq, S, e, s _ _ ha, hS.ext s, na, q⟩
theorem KsAt.noTup (h : KsAt H C CT a fp ks) : NoTup H fp := by
  obtain ⟨dx, t, fq, S, rfl, ha, hS, na, q⟩ := h
  intro x m xs e
  rcases List.mem_cons.mp m with rfl | m
  · rw [ha] at e; cases e
  · exact hS.noTup x m xs e
theorem KsAt.apart {fq : List Addr} (h : KsAt H C CT a fp ks) (f : Gr fq H H') (n : NoTup H fq) (d : ∀ x ∈ fp, x ∉ fq) : KsAt H' C CT a fp ks := by
  obtain ⟨dx, t, fr, S, rfl, ha, hS, na, q⟩ := h
  exact ⟨dx, t, fr, S, rfl, f.keep _ _ ha (d _ List.mem_cons_self), hS.apart f n fun x m => d x (List.mem_cons_of_mem _ m), na, q⟩
theorem keys_mem (o : S.Ok) (n : y ≠ .non) : y ∈ S.keys ↔ y ∈ S.row := by
  constructor
  · intro m
    obtain ⟨p, hp, rfl⟩ := List.mem_map.mp m
    exact (lvP_key hp).1
  · intro m
    obtain ⟨q, hq⟩ := List.mem_iff_getElem?.mp m
    obtain ⟨A, B, z, e, -⟩ := o.split hq n
    unfold Sh.keys
    rw [e]
    simp
theorem keys_none (o : S.Ok) (n : y ≠ .non) : S.find y = none ↔ y ∉ S.keys := by rw [o.find_none n, keys_mem o n]
theorem keys_has (o : S.Ok) (n : y ≠ .non) : (S.find y).isSome = decide (y ∈ S.keys) := by
  cases e : S.find y with
  | none => rw [decide_eq_false ((keys_none o n).mp e)]; rfl
  | some q =>
    rw [decide_eq_true]
    · rfl
    · refine Classical.byContradiction fun c => ?_
      rw [(keys_none o n).mpr c] at e
      cases e
theorem putT_keys (o : S.Ok) (yk : KeyOk y) : (S.putT y z).2.keys = addL S.keys y ∧ (S.putT y z).1 = !decide (y ∈ S.keys) := by
  have n := yk.ne_non
  unfold Sh.putT addL
  cases e : S.find y with
  | some q =>
    have m : y ∈ S.keys := by
      refine Classical.byContradiction fun c => ?_
      rw [(keys_none o n).mpr c] at e
      cases e
    rw [if_pos m, decide_eq_true m]
    obtain ⟨A, B, z', e1, -, e2, -⟩ := o.split ((o.find_some n).mp e) n
    refine ⟨?_, rfl⟩
    unfold Sh.keys
    dsimp only
    rw [e2, e1]
    simp
  | none =>
    have m := (keys_none o n).mp e
    rw [if_neg m, decide_eq_false m]
    dsimp only
    split
    · refine ⟨?_, rfl⟩
      show ((lvP (S.lv.map Prod.fst ++ [y]) (S.lv.map Prod.snd ++ [z])).map Prod.fst) = _
      rw [lvP_append _ _ _ _ (by rw [List.length_map, List.length_map])]
      have := tidy_lv (S := S)
      unfold Sh.tidy at this
      unfold Sh.lv at this
      dsimp only at this
      unfold Sh.keys Sh.lv
      rw [this, List.map_append]
      congr 1
      unfold lvP
      simp [n]
    · refine ⟨?_, rfl⟩
      unfold Sh.keys
      dsimp only
      rw [come_lv o n, List.map_append]
      rfl
theorem went_keys (o : S.Ok) (n : y ≠ .non) {q : Nat} (e : S.find y = some q) : (S.went q y).keys = dropL S.keys y := by
  obtain ⟨A, B, z', e1, -, -, e3, h4, h5, -⟩ := o.split ((o.find_some n).mp e) n
  unfold Sh.keys dropL
  rw [e1, e3, List.map_append, List.map_append, List.filter_append, List.map_cons, List.filter_cons, if_neg (by simp)]
  congr 1
  · rw [List.filter_eq_self.mpr]
    intro k m
    obtain ⟨p, hp, rfl⟩ := List.mem_map.mp m
    exact decide_eq_true (h4 p hp)
  · rw [List.filter_eq_self.mpr]
    intro k m
    obtain ⟨p, hp, rfl⟩ := List.mem_map.mp m
    exact decide_eq_true (h5 p hp)
theorem keys_many (o : S.Ok) : S.com - S.goi = (S.keys.length : Nat) := by
  unfold Sh.keys
  rw [List.length_map]
  exact (lv_len o).symm
theorem keys_key (o : S.Ok) : ∀ k ∈ S.keys, KeyOk k := fun k m => by
  obtain ⟨p, hp, rfl⟩ := List.mem_map.mp m
  exact (o.cw.rok _ (lvP_key hp).1).resolve_left (lvP_key hp).2.2
theorem keys_nodup (o : S.Ok) : S.keys.Nodup := lvP_nodup _ _ o.cw.nd
theorem KsAt.key (h : KsAt H C CT a fp ks) : ∀ k ∈ ks, KeyOk k := by
  obtain ⟨dx, t, fq, S, rfl, ha, hS, na, rfl⟩ := h
  exact keys_key hS.ok
theorem KsAt.nodup (h : KsAt H C CT a fp ks) : ks.Nodup := by
  obtain ⟨dx, t, fq, S, rfl, ha, hS, na, rfl⟩ := h
  exact keys_nodup hS.ok
theorem KsAt.len (h : KsAt H C CT a fp ks) : ks.length ≤ 5000 := by
  obtain ⟨dx, t, fq, S, rfl, ha, hS, na, rfl⟩ := h
  have o := hS.ok
  have h1 : S.lv.length ≤ (S.row.zip S.held).length := List.length_filter_le _ _
  rw [List.length_zip] at h1
  have := o.cw.lt
  unfold Sh.keys
  rw [List.length_map]
  omega
theorem KsAt.met {m : Str} (h : KsAt H C CT a fp ks) (l : ∀ t : Addr, (ksF t).lookup m = none) : MetAt H a C m := by
  obtain ⟨dx, t, fq, S, rfl, ha, hS, na, q⟩ := h
  exact ⟨dx, _, ha, l t⟩
theorem KsAt.ky (h : KsAt H C CT a fp ks) (f : Gr fp H H') {v : V} (d : y.val = true) (g : KyAt H v y) : KyAt H' v y := KyAt.keep f.keep h.noTup y v d g
theorem KsAt.kys (h : KsAt H C CT a fp ks) (f : Gr fp H H') {v : List V} {l : List Ky} (d : Ky.vals l = true) (g : KysAt H v l) : KysAt H' v l := KysAt.keep f.keep h.noTup l v d g
theorem addL_len (r : List Ky) (k : Ky) : (addL r k).length ≤ r.length + 1 := by
  unfold addL
  split
  · omega
  · rw [List.length_append]; exact Nat.le_refl _
theorem fold_len : ∀ (l r : List Ky), (l.foldl addL r).length ≤ r.length + l.length
  | [], r => Nat.le_refl _
  | k :: l, r => by
    have := fold_len l (addL r k)
    have := addL_len r k
    rw [List.foldl_cons, List.length_cons]
    omega
theorem onceL_len (l : List Ky) : (onceL l).length ≤ l.length := by
  have := fold_len l []
  unfold onceL
  simpa using this
theorem onceL_take {l : List Ky} {i : Nat} {k : Ky} (e : l[i]? = some k) : onceL (l.take (i + 1)) = addL (onceL (l.take i)) k := by
  obtain ⟨h, e⟩ := List.getElem?_eq_some_iff.mp e
  unfold onceL
  rw [List.take_succ_eq_append_getElem h, List.foldl_append, e]
  rfl
theorem keys_vals {ks : List Ky} (h : ∀ k ∈ ks, KeyOk k) : Ky.vals ks = true := vals_iff.mpr fun k m => (h k m).val
end
/-- nothing of data stands at fp -/
def NoDat (H : Hp) (fp : List Addr) : Prop := ∀ b ∈ fp, ∀ o, H b = some o → (∀ xs, o ≠ .tup xs) ∧ (∀ xs, o ≠ .lst xs) ∧ ∀ kvs, o ≠ .dK kvs
section
variable {H H' : Hp}
mutual
theorem KyAt.keepA {fp : List Addr} (s : But fp H H') (n : NoDat H fp) : ∀ (y : Ky) (v : V), KyAt H v y → KyAt H' v y
  | .num i, _, h => by cases h; exact .num i
  | .txt x, _, h => by cases h; exact .txt x
  | .non, _, h => by cases h; exact .non
  | .bl b, _, h => by cases h; exact .bl b
  | .tup ks, _, h => by
    cases h with
    | tup h p => exact .tup (s _ _ h fun hm => (n _ hm _ h).1 _ rfl) (KysAt.keepA s n ks _ p)
  | .lst m, _, h => by
    cases h with
    | lst h => exact .lst (s _ _ h fun hm => (n _ hm _ h).2.1 _ rfl)
  | .dct, _, h => by
    cases h with
    | dct h => exact .dct (s _ _ h fun hm => (n _ hm _ h).2.2 _ rfl)
theorem KysAt.keepA {fp : List Addr} (s : But fp H H') (n : NoDat H fp) : ∀ (ks : List Ky) (vs : List V), KysAt H vs ks → KysAt H' vs ks
  | [], _, h => by cases h; exact .nil
  | y :: ks, _, h => by
    cases h with
    | cons h t => exact .cons (KyAt.keepA s n y _ h) (KysAt.keepA s n ks _ t)
end
end
theorem noDat_one {H : Hp} {a C dx : Addr} {fs : List (Str × V)} (e : H a = some (.ins C dx fs)) : NoDat H [a] := fun b m o h => by
  rw [List.mem_singleton] at m
  rw [m, e] at h
  cases h
  exact ⟨(fun _ z => by cases z), (fun _ z => by cases z), fun _ z => by cases z⟩
/-- a thing that may be no key -/
def Fitt (y : Ky) : Prop := y.fit = true ∧ (within 3 y = true → KeyOk y)
theorem KOk.fitt {y : Ky} (h : KeyOk y) : Fitt y := ⟨h.f, fun _ => h⟩
def spKsInit (C CT CN : Addr) : Sp := fun vs H Q E => ∃ a dx v ks, vs = [.ref a, v] ∧ H a = some (.ins C dx []) ∧ (v = .non ∧ ks = [] ∨ ∃ l ws, v = .ref l ∧ H l = some (.lst ws) ∧ KysAt H ws ks) ∧ (∀ k ∈ ks, Fitt k) ∧ ks.length ≤ 1365 ∧
  ((∃ k ∈ ks, within 3 k = false) → ∀ H', Gr [a] H H' → E (.ref CN) none H') ∧ ((∀ k ∈ ks, KeyOk k) → ∀ H' fp, Gr [a] H H' → Sub fp [a] H → KsAt H' C CT a fp (onceL ks) → Q .non H')
theorem len_ksInit {C CT CN : Addr} {vs H Q E} (h : spKsInit C CT CN vs H Q E) : vs.length = 2 := by obtain ⟨_, _, _, _, rfl, _⟩ := h; rfl
def spKsAdd (C CT CN : Addr) : Sp := fun vs H Q E => ∃ a fp ks v y, vs = [.ref a, v] ∧ KsAt H C CT a fp ks ∧ KyAt H v y ∧ Fitt y ∧ ks.length ≤ 1365 ∧ (within 3 y = false → E (.ref CN) none H) ∧ (KeyOk y → ∀ H' fp', Gr fp H H' → Sub fp' fp H → KsAt H' C CT a fp' (addL ks y) → Q (.bl (!decide (y ∈ ks))) H')
theorem len_ksAdd {C CT CN : Addr} {vs H Q E} (h : spKsAdd C CT CN vs H Q E) : vs.length = 2 := by obtain ⟨_, _, _, _, _, rfl, _⟩ := h; rfl
def spKsDrop (C CT CN : Addr) : Sp := fun vs H Q E => ∃ a fp ks v y, vs = [.ref a, v] ∧ KsAt H C CT a fp ks ∧ KyAt H v y ∧ Fitt y ∧ (within 3 y = false → E (.ref CN) none H) ∧ (KeyOk y → ∀ H' fp', Gr fp H H' → Sub fp' fp H → KsAt H' C CT a fp' (dropL ks y) → Q (.bl (decide (y ∈ ks))) H')
theorem len_ksDrop {C CT CN : Addr} {vs H Q E} (h : spKsDrop C CT CN vs H Q E) : vs.length = 2 := by obtain ⟨_, _, _, _, _, rfl, _⟩ := h; rfl
def spKsHas (C CT CN : Addr) : Sp := fun vs H Q E => ∃ a fp ks v y, vs = [.ref a, v] ∧ KsAt H C CT a fp ks ∧ KyAt H v y ∧ Fitt y ∧ (within 3 y = false → E (.ref CN) none H) ∧ (KeyOk y → ∀ H', Same H H' → Q (.bl (decide (y ∈ ks))) H')
theorem len_ksHas {C CT CN : Addr} {vs H Q E} (h : spKsHas C CT CN vs H Q E) : vs.length = 2 := by obtain ⟨_, _, _, _, _, rfl, _⟩ := h; rfl
def spKsMany (C CT : Addr) : Sp := fun vs H Q _ => ∃ a fp ks, vs = [.ref a] ∧ KsAt H C CT a fp ks ∧ Q (.int (ks.length : Nat)) H
theorem len_ksMany {C CT : Addr} {vs H Q E} (h : spKsMany C CT vs H Q E) : vs.length = 1 := by obtain ⟨_, _, _, rfl, _⟩ := h; rfl
def spKsListed (C CT : Addr) : Sp := fun vs H Q _ => ∃ a fp ks, vs = [.ref a] ∧ KsAt H C CT a fp ks ∧ ∀ H' L xs, Same H H' → Fresh H L → H' L = some (.lst xs) → KysAt H' xs ks → Q (.ref L) H'
theorem len_ksListed {C CT : Addr} {vs H Q E} (h : spKsListed C CT vs H Q E) : vs.length = 1 := by obtain ⟨_, _, _, rfl, _⟩ := h; rfl
end My
namespace My
open PySem PySem.Spec PyProof.Rows L2
theorem op_inDK (K : PySem.W.Frag) {X : Cx} (e : X.K = K) (hu : X.A.units + 65 < cLine) : OpR X (compareOp .In) (rInD K) := e ▸ op_inD hu
theorem op_notInDK (K : PySem.W.Frag) {X : Cx} (e : X.K = K) (hu : X.A.units + 65 < cLine) : OpR X (compareOp .NotIn) (rNotInD K) := e ▸ op_notInD hu
section
variable {K : PySem.W.Frag} {H : Hp} {Q : VK} {a C dx D : Addr} {fs : List (Str × V)} {b : Bool}
theorem isi_ins (h : H a = some (.ins C dx fs)) (o : C8.InsC K C) (k : PySem.W.kitOne K (.ref C) (.ref D) = some b) (q : Q (.bl b) H) : rIsi K [.ref a, .ref D] H Q :=
  ⟨_, _, _, _, b, rfl, .own D, .base (.ins h o.cl o.ha o.hn o.htk o.hm), k, q⟩
theorem isi_nonC (k : PySem.W.kitOne K (.type "NoneType") (.ref D) = some b) (q : Q (.bl b) H) : rIsi K [.non, .ref D] H Q :=
  ⟨_, _, _, _, b, rfl, .own D, .base .non, k, q⟩
end
end My
namespace Law
open PySem PySem.Spec PyProof.Rows L2 My
def top (i : Nat) : Stmt := PySem.Challenge.pw_slotbook_k86_whole_rules_of_sets.main.body.getD i (.Pass ⟨0, 0, 0, 0⟩)
abbrev s_wall : Stmt := top 0
abbrev s_is_within : Stmt := top 12
abbrev s_is_key : Stmt := top 13
abbrev s_checked : Stmt := top 14
abbrev s_is_size : Stmt := top 18
abbrev s_room : Stmt := top 19
abbrev s_size_for : Stmt := top 20
abbrev s_stride : Stmt := top 22
abbrev s_probe : Stmt := top 23
abbrev s_stamp : Stmt := top 26
abbrev s_first_bare : Stmt := top 30
abbrev s_cells_of : Stmt := top 31
abbrev s_paper : Stmt := top 32
abbrev s_place_of : Stmt := top 34
abbrev s_Shelf___init__ : Stmt := inClass (top 36) 0
abbrev s_Shelf_find : Stmt := inClass (top 36) 1
abbrev s_Shelf_lay : Stmt := inClass (top 36) 2
abbrev s_Shelf_mark_gone : Stmt := inClass (top 36) 3
abbrev s_Shelf_relay : Stmt := inClass (top 36) 4
abbrev s_Shelf_make_room : Stmt := inClass (top 36) 5
abbrev s_Shelf_put : Stmt := inClass (top 36) 6
abbrev s_Shelf_at : Stmt := inClass (top 36) 7
abbrev s_Shelf_told : Stmt := inClass (top 36) 8
abbrev s_Shelf_has : Stmt := inClass (top 36) 9
abbrev s_Shelf_take : Stmt := inClass (top 36) 10
abbrev s_Shelf_take_last : Stmt := inClass (top 36) 11
abbrev s_Shelf_emptied : Stmt := inClass (top 36) 12
abbrev s_Shelf_many : Stmt := inClass (top 36) 13
abbrev s_Shelf_pairs : Stmt := inClass (top 36) 14
abbrev s_Shelf_after : Stmt := inClass (top 36) 15
abbrev s_Shelf_ahead : Stmt := inClass (top 36) 16
abbrev s_Shelf_paper : Stmt := inClass (top 36) 17
abbrev s_Shelf_form : Stmt := inClass (top 36) 18
abbrev s_Shelf_counts : Stmt := inClass (top 36) 19
abbrev s_packed : Stmt := top 38
abbrev s_Table___init__ : Stmt := inClass (top 40) 0
abbrev s_Table_make_room : Stmt := inClass (top 40) 1
abbrev s_Keyset___init__ : Stmt := inClass (top 42) 0
abbrev s_Keyset_add : Stmt := inClass (top 42) 1
abbrev s_Keyset_drop : Stmt := inClass (top 42) 2
abbrev s_Keyset_has : Stmt := inClass (top 42) 3
abbrev s_Keyset_many : Stmt := inClass (top 42) 4
abbrev s_Keyset_listed : Stmt := inClass (top 42) 5
abbrev s_met : Stmt := top 44
abbrev s_lacking : Stmt := top 45
abbrev s_joined : Stmt := top 46
abbrev s_either : Stmt := top 47
abbrev s_within : Stmt := top 48
abbrev s_apart : Stmt := top 49
abbrev s_alike : Stmt := top 50
abbrev s_law_cell_at : Stmt := top 52
abbrev s_law_sign : Stmt := top 53
abbrev s_law_key : Stmt := top 54
abbrev s_law_same : Stmt := top 55
abbrev s_law_row : Stmt := top 56
abbrev s_law_once : Stmt := top 57
abbrev s_law_sets : Stmt := top 58
abbrev s_law_even : Stmt := top 59
abbrev s_law_two : Stmt := top 60
abbrev s_law : Stmt := top 61
structure Ad where
  a_is_within : Addr
  d_is_within : FuncData
  a_is_key : Addr
  d_is_key : FuncData
  a_checked : Addr
  d_checked : FuncData
  a_is_size : Addr
  d_is_size : FuncData
  a_room : Addr
  d_room : FuncData
  a_size_for : Addr
  d_size_for : FuncData
  a_stride : Addr
  d_stride : FuncData
  a_probe : Addr
  d_probe : FuncData
  a_stamp : Addr
  d_stamp : FuncData
  a_first_bare : Addr
  d_first_bare : FuncData
  a_cells_of : Addr
  d_cells_of : FuncData
  a_paper : Addr
  d_paper : FuncData
  a_place_of : Addr
  d_place_of : FuncData
  a_Shelf___init__ : Addr
  d_Shelf___init__ : FuncData
  a_Shelf_find : Addr
  d_Shelf_find : FuncData
  a_Shelf_lay : Addr
  d_Shelf_lay : FuncData
  a_Shelf_mark_gone : Addr
  d_Shelf_mark_gone : FuncData
  a_Shelf_relay : Addr
  d_Shelf_relay : FuncData
  a_Shelf_make_room : Addr
  d_Shelf_make_room : FuncData
  a_Shelf_put : Addr
  d_Shelf_put : FuncData
  a_Shelf_has : Addr
  d_Shelf_has : FuncData
  a_Shelf_take : Addr
  d_Shelf_take : FuncData
  a_Shelf_many : Addr
  d_Shelf_many : FuncData
  a_Shelf_pairs : Addr
  d_Shelf_pairs : FuncData
  a_packed : Addr
  d_packed : FuncData
  a_Table___init__ : Addr
  d_Table___init__ : FuncData
  a_Table_make_room : Addr
  d_Table_make_room : FuncData
  a_Keyset___init__ : Addr
  d_Keyset___init__ : FuncData
  a_Keyset_add : Addr
  d_Keyset_add : FuncData
  a_Keyset_drop : Addr
  d_Keyset_drop : FuncData
  a_Keyset_has : Addr
  d_Keyset_has : FuncData
  a_Keyset_many : Addr
  d_Keyset_many : FuncData
  a_Keyset_listed : Addr
  d_Keyset_listed : FuncData
  a_met : Addr
  d_met : FuncData
  a_lacking : Addr
  d_lacking : FuncData
  a_joined : Addr
  d_joined : FuncData
  a_either : Addr
  d_either : FuncData
  a_within : Addr
  d_within : FuncData
  a_apart : Addr
  d_apart : FuncData
  a_alike : Addr
  d_alike : FuncData
  a_law_cell_at : Addr
  d_law_cell_at : FuncData
  a_law_sign : Addr
  d_law_sign : FuncData
  a_law_key : Addr
  d_law_key : FuncData
  a_law_same : Addr
  d_law_same : FuncData
  a_law_row : Addr
  d_law_row : FuncData
  a_law_sets : Addr
  d_law_sets : FuncData
  a_law_even : Addr
  d_law_even : FuncData
  a_law_two : Addr
  d_law_two : FuncData
  a_law : Addr
  d_law : FuncData
  c_Shelf : Addr
  c_Table : Addr
  c_Keyset : Addr
  c_NoKey : Addr
  c_Full : Addr
  c_Lacking : Addr
  t_FAR : Tok
  t_MOST_SIGNS : Tok
  t_MOST_PARTS : Tok
  t_DEEPEST : Tok
  t_LEAST : Tok
  t_GREATEST : Tok
  t_TURN : Tok
  t_EMPTY : Tok
  t_GONE : Tok
structure Txt (K : PySem.W.Frag) (mg : Str → Option Value) (A : Ad) : Prop where
  F_is_within : Fun K "is_within" "is_within" s_is_within A.a_is_within A.d_is_within
  b_is_within : Binds K A.d_is_within ["thing", "deep"] []
  m_is_within : mg "is_within" = some (.ref A.a_is_within)
  F_is_key : Fun K "is_key" "is_key" s_is_key A.a_is_key A.d_is_key
  b_is_key : Binds K A.d_is_key ["thing"] []
  m_is_key : mg "is_key" = some (.ref A.a_is_key)
  F_checked : Fun K "checked" "checked" s_checked A.a_checked A.d_checked
  b_checked : Binds K A.d_checked ["thing"] []
  m_checked : mg "checked" = some (.ref A.a_checked)
  F_is_size : Fun K "is_size" "is_size" s_is_size A.a_is_size A.d_is_size
  b_is_size : Binds K A.d_is_size ["thing"] []
  m_is_size : mg "is_size" = some (.ref A.a_is_size)
  F_room : Fun K "room" "room" s_room A.a_room A.d_room
  b_room : Binds K A.d_room ["size"] []
  m_room : mg "room" = some (.ref A.a_room)
  F_size_for : Fun K "size_for" "size_for" s_size_for A.a_size_for A.d_size_for
  b_size_for : Binds K A.d_size_for ["many"] []
  m_size_for : mg "size_for" = some (.ref A.a_size_for)
  F_stride : Fun K "stride" "stride" s_stride A.a_stride A.d_stride
  b_stride : Binds K A.d_stride ["stamp"] []
  m_stride : mg "stride" = some (.ref A.a_stride)
  F_probe : Fun K "probe" "probe" s_probe A.a_probe A.d_probe
  b_probe : Binds K A.d_probe ["stamp", "size", "count"] []
  m_probe : mg "probe" = some (.ref A.a_probe)
  F_stamp : Fun K "stamp" "stamp" s_stamp A.a_stamp A.d_stamp
  b_stamp : Binds K A.d_stamp ["key"] []
  m_stamp : mg "stamp" = some (.ref A.a_stamp)
  F_first_bare : Fun K "first_bare" "first_bare" s_first_bare A.a_first_bare A.d_first_bare
  b_first_bare : Binds K A.d_first_bare ["cells", "key"] []
  m_first_bare : mg "first_bare" = some (.ref A.a_first_bare)
  F_cells_of : Fun K "cells_of" "cells_of" s_cells_of A.a_cells_of A.d_cells_of
  b_cells_of : Binds K A.d_cells_of ["row", "size"] []
  m_cells_of : mg "cells_of" = some (.ref A.a_cells_of)
  F_paper : Fun K "paper" "paper" s_paper A.a_paper A.d_paper
  b_paper : Binds K A.d_paper ["cells", "row", "key"] []
  m_paper : mg "paper" = some (.ref A.a_paper)
  F_place_of : Fun K "place_of" "place_of" s_place_of A.a_place_of A.d_place_of
  b_place_of : Binds K A.d_place_of ["cells", "row", "key"] []
  m_place_of : mg "place_of" = some (.ref A.a_place_of)
  F_Shelf___init__ : FunD K "__init__" "Shelf.__init__" (defArgs s_Shelf___init__) (defBody s_Shelf___init__) (defScope s_Shelf___init__) [V.int 8] [] A.a_Shelf___init__ A.d_Shelf___init__
  b_Shelf___init___1 : ∃ ds, Vals [V.int 8] ds ∧ Binds K A.d_Shelf___init__ ["self", "size"] ds
  b_Shelf___init___2 : ∃ ds, Vals [] ds ∧ Binds K A.d_Shelf___init__ ["self", "size"] ds
  F_Shelf_find : Fun K "find" "Shelf.find" s_Shelf_find A.a_Shelf_find A.d_Shelf_find
  b_Shelf_find : Binds K A.d_Shelf_find ["self", "key"] []
  F_Shelf_lay : Fun K "lay" "Shelf.lay" s_Shelf_lay A.a_Shelf_lay A.d_Shelf_lay
  b_Shelf_lay : Binds K A.d_Shelf_lay ["self", "key", "place"] []
  F_Shelf_mark_gone : Fun K "mark_gone" "Shelf.mark_gone" s_Shelf_mark_gone A.a_Shelf_mark_gone A.d_Shelf_mark_gone
  b_Shelf_mark_gone : Binds K A.d_Shelf_mark_gone ["self", "key", "place"] []
  F_Shelf_relay : Fun K "relay" "Shelf.relay" s_Shelf_relay A.a_Shelf_relay A.d_Shelf_relay
  b_Shelf_relay : Binds K A.d_Shelf_relay ["self"] []
  F_Shelf_make_room : Fun K "make_room" "Shelf.make_room" s_Shelf_make_room A.a_Shelf_make_room A.d_Shelf_make_room
  b_Shelf_make_room : Binds K A.d_Shelf_make_room ["self"] []
  F_Shelf_put : Fun K "put" "Shelf.put" s_Shelf_put A.a_Shelf_put A.d_Shelf_put
  b_Shelf_put : Binds K A.d_Shelf_put ["self", "key", "value"] []
  F_Shelf_has : Fun K "has" "Shelf.has" s_Shelf_has A.a_Shelf_has A.d_Shelf_has
  b_Shelf_has : Binds K A.d_Shelf_has ["self", "key"] []
  F_Shelf_take : Fun K "take" "Shelf.take" s_Shelf_take A.a_Shelf_take A.d_Shelf_take
  b_Shelf_take : Binds K A.d_Shelf_take ["self", "key"] []
  F_Shelf_many : Fun K "many" "Shelf.many" s_Shelf_many A.a_Shelf_many A.d_Shelf_many
  b_Shelf_many : Binds K A.d_Shelf_many ["self"] []
  F_Shelf_pairs : Fun K "pairs" "Shelf.pairs" s_Shelf_pairs A.a_Shelf_pairs A.d_Shelf_pairs
  b_Shelf_pairs : Binds K A.d_Shelf_pairs ["self"] []
  F_packed : Fun K "packed" "packed" s_packed A.a_packed A.d_packed
  b_packed : Binds K A.d_packed ["row", "beside"] []
  m_packed : mg "packed" = some (.ref A.a_packed)
  F_Table___init__ : Fun K "__init__" "Table.__init__" s_Table___init__ A.a_Table___init__ A.d_Table___init__
  b_Table___init__ : Binds K A.d_Table___init__ ["self"] []
  F_Table_make_room : Fun K "make_room" "Table.make_room" s_Table_make_room A.a_Table_make_room A.d_Table_make_room
  b_Table_make_room : Binds K A.d_Table_make_room ["self"] []
  F_Keyset___init__ : FunD K "__init__" "Keyset.__init__" (defArgs s_Keyset___init__) (defBody s_Keyset___init__) (defScope s_Keyset___init__) [V.non] [] A.a_Keyset___init__ A.d_Keyset___init__
  b_Keyset___init___1 : ∃ ds, Vals [V.non] ds ∧ Binds K A.d_Keyset___init__ ["self", "some"] ds
  b_Keyset___init___2 : ∃ ds, Vals [] ds ∧ Binds K A.d_Keyset___init__ ["self", "some"] ds
  F_Keyset_add : Fun K "add" "Keyset.add" s_Keyset_add A.a_Keyset_add A.d_Keyset_add
  b_Keyset_add : Binds K A.d_Keyset_add ["self", "key"] []
  F_Keyset_drop : Fun K "drop" "Keyset.drop" s_Keyset_drop A.a_Keyset_drop A.d_Keyset_drop
  b_Keyset_drop : Binds K A.d_Keyset_drop ["self", "key"] []
  F_Keyset_has : Fun K "has" "Keyset.has" s_Keyset_has A.a_Keyset_has A.d_Keyset_has
  b_Keyset_has : Binds K A.d_Keyset_has ["self", "key"] []
  F_Keyset_many : Fun K "many" "Keyset.many" s_Keyset_many A.a_Keyset_many A.d_Keyset_many
  b_Keyset_many : Binds K A.d_Keyset_many ["self"] []
  F_Keyset_listed : Fun K "listed" "Keyset.listed" s_Keyset_listed A.a_Keyset_listed A.d_Keyset_listed
  b_Keyset_listed : Binds K A.d_Keyset_listed ["self"] []
  F_met : Fun K "met" "met" s_met A.a_met A.d_met
  b_met : Binds K A.d_met ["one", "other"] []
  m_met : mg "met" = some (.ref A.a_met)
  F_lacking : Fun K "lacking" "lacking" s_lacking A.a_lacking A.d_lacking
  b_lacking : Binds K A.d_lacking ["one", "other"] []
  m_lacking : mg "lacking" = some (.ref A.a_lacking)
  F_joined : Fun K "joined" "joined" s_joined A.a_joined A.d_joined
  b_joined : Binds K A.d_joined ["one", "other"] []
  m_joined : mg "joined" = some (.ref A.a_joined)
  F_either : Fun K "either" "either" s_either A.a_either A.d_either
  b_either : Binds K A.d_either ["one", "other"] []
  m_either : mg "either" = some (.ref A.a_either)
  F_within : Fun K "within" "within" s_within A.a_within A.d_within
  b_within : Binds K A.d_within ["one", "other"] []
  m_within : mg "within" = some (.ref A.a_within)
  F_apart : Fun K "apart" "apart" s_apart A.a_apart A.d_apart
  b_apart : Binds K A.d_apart ["one", "other"] []
  m_apart : mg "apart" = some (.ref A.a_apart)
  F_alike : Fun K "alike" "alike" s_alike A.a_alike A.d_alike
  b_alike : Binds K A.d_alike ["one", "other"] []
  m_alike : mg "alike" = some (.ref A.a_alike)
  F_law_cell_at : Fun K "_law_cell_at" "_law_cell_at" s_law_cell_at A.a_law_cell_at A.d_law_cell_at
  b_law_cell_at : Binds K A.d_law_cell_at ["_law_script", "_law_k"] []
  m_law_cell_at : mg "_law_cell_at" = some (.ref A.a_law_cell_at)
  F_law_sign : Fun K "_law_sign" "_law_sign" s_law_sign A.a_law_sign A.d_law_sign
  b_law_sign : Binds K A.d_law_sign ["_law_cell"] []
  m_law_sign : mg "_law_sign" = some (.ref A.a_law_sign)
  F_law_key : Fun K "_law_key" "_law_key" s_law_key A.a_law_key A.d_law_key
  b_law_key : Binds K A.d_law_key ["_law_cell"] []
  m_law_key : mg "_law_key" = some (.ref A.a_law_key)
  F_law_same : Fun K "_law_same" "_law_same" s_law_same A.a_law_same A.d_law_same
  b_law_same : Binds K A.d_law_same ["_law_found", "_law_due"] []
  m_law_same : mg "_law_same" = some (.ref A.a_law_same)
  F_law_row : Fun K "_law_row" "_law_row" s_law_row A.a_law_row A.d_law_row
  b_law_row : Binds K A.d_law_row ["_law_found", "_law_row_here"] []
  m_law_row : mg "_law_row" = some (.ref A.a_law_row)
  F_law_sets : Fun K "_law_sets" "_law_sets" s_law_sets A.a_law_sets A.d_law_sets
  b_law_sets : Binds K A.d_law_sets ["_law_script"] []
  m_law_sets : mg "_law_sets" = some (.ref A.a_law_sets)
  F_law_even : Fun K "_law_even" "_law_even" s_law_even A.a_law_even A.d_law_even
  b_law_even : Binds K A.d_law_even ["_law_one", "_law_other"] []
  m_law_even : mg "_law_even" = some (.ref A.a_law_even)
  F_law_two : Fun K "_law_two" "_law_two" s_law_two A.a_law_two A.d_law_two
  b_law_two : Binds K A.d_law_two ["_law_one", "_law_other"] []
  m_law_two : mg "_law_two" = some (.ref A.a_law_two)
  F_law : Fun K "law" "law" s_law A.a_law A.d_law
  b_law : Binds K A.d_law ["_law_script"] []
  m_law : mg "law" = some (.ref A.a_law)
  m_paper_slots : mg "paper_slots" = some (.ref A.a_paper)
  cl_Shelf : Cls K A.c_Shelf
  m_Shelf : mg "Shelf" = some (.ref A.c_Shelf)
  na_Shelf_cells : NoAttr K A.c_Shelf "cells"
  na_Shelf_size : NoAttr K A.c_Shelf "size"
  na_Shelf_least : NoAttr K A.c_Shelf "least"
  na_Shelf_row : NoAttr K A.c_Shelf "row"
  na_Shelf_held : NoAttr K A.c_Shelf "held"
  na_Shelf_born : NoAttr K A.c_Shelf "born"
  na_Shelf_comings : NoAttr K A.c_Shelf "comings"
  na_Shelf_goings : NoAttr K A.c_Shelf "goings"
  na_Shelf_tidied : NoAttr K A.c_Shelf "tidied"
  na_Shelf_moved : NoAttr K A.c_Shelf "moved"
  mk_Shelf : Mk K A.c_Shelf A.a_Shelf___init__
  me_Shelf_find : Meth K A.c_Shelf "find" A.a_Shelf_find
  me_Shelf_lay : Meth K A.c_Shelf "lay" A.a_Shelf_lay
  me_Shelf_mark_gone : Meth K A.c_Shelf "mark_gone" A.a_Shelf_mark_gone
  me_Shelf_relay : Meth K A.c_Shelf "relay" A.a_Shelf_relay
  me_Shelf_make_room : Meth K A.c_Shelf "make_room" A.a_Shelf_make_room
  me_Shelf_put : Meth K A.c_Shelf "put" A.a_Shelf_put
  me_Shelf_has : Meth K A.c_Shelf "has" A.a_Shelf_has
  me_Shelf_take : Meth K A.c_Shelf "take" A.a_Shelf_take
  me_Shelf_many : Meth K A.c_Shelf "many" A.a_Shelf_many
  me_Shelf_pairs : Meth K A.c_Shelf "pairs" A.a_Shelf_pairs
  cl_Table : Cls K A.c_Table
  m_Table : mg "Table" = some (.ref A.c_Table)
  na_Table_cells : NoAttr K A.c_Table "cells"
  na_Table_size : NoAttr K A.c_Table "size"
  na_Table_least : NoAttr K A.c_Table "least"
  na_Table_row : NoAttr K A.c_Table "row"
  na_Table_held : NoAttr K A.c_Table "held"
  na_Table_born : NoAttr K A.c_Table "born"
  na_Table_comings : NoAttr K A.c_Table "comings"
  na_Table_goings : NoAttr K A.c_Table "goings"
  na_Table_tidied : NoAttr K A.c_Table "tidied"
  na_Table_moved : NoAttr K A.c_Table "moved"
  mk_Table : Mk K A.c_Table A.a_Table___init__
  me_Table_make_room : Meth K A.c_Table "make_room" A.a_Table_make_room
  me_Table_find : Meth K A.c_Table "find" A.a_Shelf_find
  me_Table_lay : Meth K A.c_Table "lay" A.a_Shelf_lay
  me_Table_mark_gone : Meth K A.c_Table "mark_gone" A.a_Shelf_mark_gone
  me_Table_relay : Meth K A.c_Table "relay" A.a_Shelf_relay
  me_Table_put : Meth K A.c_Table "put" A.a_Shelf_put
  me_Table_has : Meth K A.c_Table "has" A.a_Shelf_has
  me_Table_take : Meth K A.c_Table "take" A.a_Shelf_take
  me_Table_many : Meth K A.c_Table "many" A.a_Shelf_many
  me_Table_pairs : Meth K A.c_Table "pairs" A.a_Shelf_pairs
  cl_Keyset : Cls K A.c_Keyset
  m_Keyset : mg "Keyset" = some (.ref A.c_Keyset)
  na_Keyset_book : NoAttr K A.c_Keyset "book"
  mk_Keyset : Mk K A.c_Keyset A.a_Keyset___init__
  me_Keyset_add : Meth K A.c_Keyset "add" A.a_Keyset_add
  me_Keyset_drop : Meth K A.c_Keyset "drop" A.a_Keyset_drop
  me_Keyset_has : Meth K A.c_Keyset "has" A.a_Keyset_has
  me_Keyset_many : Meth K A.c_Keyset "many" A.a_Keyset_many
  me_Keyset_listed : Meth K A.c_Keyset "listed" A.a_Keyset_listed
  cr_Shelf : ClX.CRead K A.c_Shelf (.type "type")
  cf_Shelf_init__ : PySem.W.findCls K (.ref A.c_Shelf) (.type "type") "__init__" = some (.val (.ref A.a_Shelf___init__))
  m_NoKey : mg "NoKey" = some (.ref A.c_NoKey)
  x_NoKey : PySem.W.excIn K A.c_NoKey [.type "ValueError", .type "Exception", .type "BaseException", .type "object"] "ValueError.__new__" = true
  k_NoKey : PySem.W.keepIn K (.ref A.c_NoKey) = true
  eb_NoKey : PySem.W.subIn K (.ref A.c_NoKey) (.type "BaseException") = some true
  et_NoKey : PySem.W.typeIn K (.ref A.c_NoKey) = some (.type "type")
  m_Full : mg "Full" = some (.ref A.c_Full)
  x_Full : PySem.W.excIn K A.c_Full [.type "ValueError", .type "Exception", .type "BaseException", .type "object"] "ValueError.__new__" = true
  k_Full : PySem.W.keepIn K (.ref A.c_Full) = true
  eb_Full : PySem.W.subIn K (.ref A.c_Full) (.type "BaseException") = some true
  et_Full : PySem.W.typeIn K (.ref A.c_Full) = some (.type "type")
  m_Lacking : mg "Lacking" = some (.ref A.c_Lacking)
  x_Lacking : PySem.W.excIn K A.c_Lacking [.type "ValueError", .type "Exception", .type "BaseException", .type "object"] "ValueError.__new__" = true
  k_Lacking : PySem.W.keepIn K (.ref A.c_Lacking) = true
  eb_Lacking : PySem.W.subIn K (.ref A.c_Lacking) (.type "BaseException") = some true
  et_Lacking : PySem.W.typeIn K (.ref A.c_Lacking) = some (.type "type")
  g_FAR : mg "FAR" = some (.int 1000000000000000000000000000000000000000000000000000000000000 A.t_FAR)
  g_MOST_SIGNS : mg "MOST_SIGNS" = some (.int 60 A.t_MOST_SIGNS)
  g_MOST_PARTS : mg "MOST_PARTS" = some (.int 6 A.t_MOST_PARTS)
  g_DEEPEST : mg "DEEPEST" = some (.int 3 A.t_DEEPEST)
  g_LEAST : mg "LEAST" = some (.int 8 A.t_LEAST)
  g_GREATEST : mg "GREATEST" = some (.int 4096 A.t_GREATEST)
  g_TURN : mg "TURN" = some (.int 2147483647 A.t_TURN)
  g_EMPTY : mg "EMPTY" = some (.int (-1) A.t_EMPTY)
  g_GONE : mg "GONE" = some (.int (-2) A.t_GONE)
  n_all : mg "all" = none
  n_any : mg "any" = none
  n_bool : mg "bool" = none
  n_enumerate : mg "enumerate" = none
  n_int : mg "int" = none
  n_isinstance : mg "isinstance" = none
  n_len : mg "len" = none
  n_list : mg "list" = none
  n_ord : mg "ord" = none
  n_range : mg "range" = none
  n_str : mg "str" = none
  n_tuple : mg "tuple" = none
  n_zip : mg "zip" = none
theorem sc_stamp : FnScope ["key", "found", "sign", "part"] ["key"] (defScope s_stamp) := ⟨rfl, rfl, rfl, by decide +kernel, rfl, by decide +kernel, by decide +kernel⟩
theorem ok_stamp0 {P : Program} {w : World} {K : PySem.W.Frag} {mg : Str → Option Value} {base : Heap} {A : Ad} (T : Txt K mg A) : FnOk P w K mg base CX0 1 A.a_stamp A.d_stamp ["key"] (spStamp 0) := by
  refine T.F_stamp.ok sc_stamp (fun vs H Q E h => ?_) (fun cdv A' outer s H vs Q E hr h => ?_)
  · walk_at "spl"
  · have nd := sc_stamp.nd
    have hu := hu_of hr
    refine ⟨_, (pss_cons (ps_if (pt_val (pe_callB call_isiF rfl T.n_isinstance (by decide +kernel) (pa_cons (pv 0) (pa_cons (pe_bltn (v := .ty "int") rfl T.n_int (by decide +kernel) rfl) pa_nil)))) (pss_one (ps_ret (pe_op op_mod (pv 0) (pe_glob (v := .int 2147483647) rfl T.g_TURN ⟨_, rfl⟩)))) pss_nil) (pss_cons (ps_if (pt_val (pe_callB call_isiF rfl T.n_isinstance (by decide +kernel) (pa_cons (pv 0) (pa_cons (pe_bltn (v := .ty "str") rfl T.n_str (by decide +kernel) rfl) pa_nil)))) (pss_cons (ps_set (i := 1) nd rfl (Or.inl rfl) pe_int) (pss_cons (ps_for PassesOwn.never rfl (pi_str (pv 0)) (pg_name (i := 2) nd rfl (Or.inl rfl)) (pss_one (ps_set (i := 1) nd rfl (Or.inl rfl) (pe_op op_mod (pe_op op_add (pe_op op_mulX pe_int (pv 1)) (pe_callB call_ordq rfl T.n_ord (by decide +kernel) (pa_cons (pv 2) pa_nil))) (pe_glob (v := .int 2147483647) rfl T.g_TURN ⟨_, rfl⟩))))) (pss_one (ps_ret (pv 1))))) pss_nil) pss_never)), ?_⟩
    clear nd
    obtain ⟨v, y, rfl, hk, hd, k⟩ := h
    cases hk with
    | num i =>
      walk_at "rd"
      rw [Ky.stamp] at k
      exact k
    | txt x =>
      walk_at "rd"
      rw [Ky.stamp] at k
      refine go_it walk_str (fun i σ H' => ∃ v2 v3, σ = [some (.str x), some (.int (stampT (x.cps.toList.take i))), v2, v3] ∧ H' = H) ⟨_, _, rfl, rfl⟩ (fun _ _ _ _ _ => trivial) ?_ ?_
      · rintro N i v σ H' H2 hi ⟨v2, v3, rfl, rfl⟩ ⟨rfl, c, hc, rfl⟩ hN
        walk_at "rd"
        exact ⟨mulL (by decide) (by decide), hN _ _ ⟨_, _, by rw [stampT_step (by simpa using hc)], rfl⟩⟩
      · rintro σ H' ⟨v2, v3, rfl, rfl⟩
        walk_at "rd"
        rw [show x.cps.size = x.cps.toList.length by simp, List.take_length]
        exact k
    | tup h p => have := hd.2; rw [Ky.dep] at this; omega
    | _ => have := hd.1; simp [Ky.good] at this
theorem ok_stampS {P : Program} {w : World} {K : PySem.W.Frag} {mg : Str → Option Value} {base : Heap} {A : Ad} (T : Txt K mg A) {n : Nat} (G : FnOk P w K mg base CX0 (n + 1) A.a_stamp A.d_stamp ["key"] (spStamp n)) : FnOk P w K mg base CX0 (n + 1 + 1) A.a_stamp A.d_stamp ["key"] (spStamp (n + 1)) := by
  refine T.F_stamp.ok sc_stamp (fun vs H Q E h => ?_) (fun cdv A' outer s H vs Q E hr h => ?_)
  · walk_at "spl"
  · have nd := sc_stamp.nd
    have hu := hu_of hr
    refine ⟨_, (pss_cons (ps_if (pt_val (pe_callB call_isiF rfl T.n_isinstance (by decide +kernel) (pa_cons (pv 0) (pa_cons (pe_bltn (v := .ty "int") rfl T.n_int (by decide +kernel) rfl) pa_nil)))) (pss_one (ps_ret (pe_op op_mod (pv 0) (pe_glob (v := .int 2147483647) rfl T.g_TURN ⟨_, rfl⟩)))) pss_nil) (pss_cons (ps_if (pt_val (pe_callB call_isiF rfl T.n_isinstance (by decide +kernel) (pa_cons (pv 0) (pa_cons (pe_bltn (v := .ty "str") rfl T.n_str (by decide +kernel) rfl) pa_nil)))) (pss_cons (ps_set (i := 1) nd rfl (Or.inl rfl) pe_int) (pss_cons (ps_for PassesOwn.never rfl (pi_str (pv 0)) (pg_name (i := 2) nd rfl (Or.inl rfl)) (pss_one (ps_set (i := 1) nd rfl (Or.inl rfl) (pe_op op_mod (pe_op op_add (pe_op op_mulX pe_int (pv 1)) (pe_callB call_ordq rfl T.n_ord (by decide +kernel) (pa_cons (pv 2) pa_nil))) (pe_glob (v := .int 2147483647) rfl T.g_TURN ⟨_, rfl⟩))))) (pss_one (ps_ret (pv 1))))) pss_nil) (pss_cons (ps_set (i := 1) nd rfl (Or.inl rfl) pe_int) (pss_cons (ps_for PassesOwn.never rfl (pi_tup (pv 0)) (pg_name (i := 3) nd rfl (Or.inl rfl)) (pss_one (ps_set (i := 1) nd rfl (Or.inl rfl) (pe_op op_mod (pe_op op_xor (pe_op op_mulX pe_int (pv 1)) (pe_call G hr rfl T.m_stamp T.F_stamp.kp T.b_stamp .nil pass0 (pa_cons (pv 3) pa_nil))) (pe_glob (v := .int 2147483647) rfl T.g_TURN ⟨_, rfl⟩))))) (pss_one (ps_ret (pv 1))))))), ?_⟩
    clear nd
    obtain ⟨v, y, rfl, hk, hd, k⟩ := h
    cases hk with
    | num i =>
      walk_at "rd"
      rw [Ky.stamp] at k
      exact k
    | txt x =>
      walk_at "rd"
      rw [Ky.stamp] at k
      refine go_it walk_str (fun i σ H' => ∃ v2 v3, σ = [some (.str x), some (.int (stampT (x.cps.toList.take i))), v2, v3] ∧ H' = H) ⟨_, _, rfl, rfl⟩ (fun _ _ _ _ _ => trivial) ?_ ?_
      · rintro N i v σ H' H2 hi ⟨v2, v3, rfl, rfl⟩ ⟨rfl, c, hc, rfl⟩ hN
        walk_at "rd"
        exact ⟨mulL (by decide) (by decide), hN _ _ ⟨_, _, by rw [stampT_step (by simpa using hc)], rfl⟩⟩
      · rintro σ H' ⟨v2, v3, rfl, rfl⟩
        walk_at "rd"
        rw [show x.cps.size = x.cps.toList.length by simp, List.take_length]
        exact k
    | @tup a xs ks h p =>
      walk_at "rd"
      simp only [isi_tup_int h, isi_tup_str h]
      walk_at "rd"
      rw [Ky.stamp] at k
      rw [Ky.dep] at hd
      refine ⟨⟨_, SqT.of h⟩, go_tup (fun i σ H' => ∃ v2 v3, σ = [some (.ref a), some (.int (Ky.stamps 11 (ks.take i))), v2, v3] ∧ H' = H) ⟨_, _, rfl, rfl⟩ (fun i σ H' _ ⟨_, _, _, e⟩ => by rw [e]; exact SqT.of h) ?_ ?_⟩
      · rintro N i x σ H' hx ⟨v2, v3, rfl, rfl⟩ hN
        obtain ⟨y, hy, hv⟩ := p.get hx
        walk_at "rd"
        refine ⟨mulL (by decide) (by decide), y, hv, ⟨goods_get (by simpa [Ky.good] using hd.1) hy, ?_⟩, hN _ _ ⟨_, _, by rw [stamps_step 11 hy], rfl⟩⟩
        have := dep_of_mem hy
        have := hd.2
        omega
      · rintro σ H' ⟨v2, v3, rfl, rfl⟩
        walk_at "rd"
        rw [p.len, List.take_length]
        exact k
    | _ => have := hd.1; simp [Ky.good] at this
theorem ok_stamp {P : Program} {w : World} {K : PySem.W.Frag} {mg : Str → Option Value} {base : Heap} {A : Ad} (T : Txt K mg A) : ∀ n : Nat, FnOk P w K mg base CX0 (n + 1) A.a_stamp A.d_stamp ["key"] (spStamp n)
  | 0 => ok_stamp0 T
  | n + 1 => ok_stampS T (ok_stamp T n)
theorem sc_stride : FnScope ["stamp"] ["stamp"] (defScope s_stride) := ⟨rfl, rfl, rfl, by decide +kernel, rfl, by decide +kernel, by decide +kernel⟩
theorem ok_stride {P : Program} {w : World} {K : PySem.W.Frag} {mg : Str → Option Value} {base : Heap} {A : Ad} (T : Txt K mg A) : FnOk P w K mg base CX0 1 A.a_stride A.d_stride ["stamp"] (spI1 (fun _ => True) fun n => .int (strideF n)) := by
  refine T.F_stride.ok sc_stride (fun vs H Q E h => ?_) (fun cdv A' outer s H vs Q E hr h => ?_)
  · walk_at "spl"
  · have nd := sc_stride.nd
    have hu := hu_of hr
    refine ⟨_, (pss_one (ps_ret (pe_op op_or (pe_op op_shr (pv 0) pe_int) pe_int))), ?_⟩
    clear nd
    obtain ⟨n, rfl, -, k⟩ := h
    walk_at "rd"
    exact k
theorem sc_probe : FnScope ["stamp", "size", "count"] ["stamp", "size", "count"] (defScope s_probe) := ⟨rfl, rfl, rfl, by decide +kernel, rfl, by decide +kernel, by decide +kernel⟩
theorem ok_probe {P : Program} {w : World} {K : PySem.W.Frag} {mg : Str → Option Value} {base : Heap} {A : Ad} (T : Txt K mg A) : FnOk P w K mg base CX0 2 A.a_probe A.d_probe ["stamp", "size", "count"] (spI3 (fun _ _ c => -(2 ^ 64) < c ∧ c < 2 ^ 64) fun m s c => .int (probeF m s c)) := by
  refine T.F_probe.ok sc_probe (fun vs H Q E h => ?_) (fun cdv A' outer s H vs Q E hr h => ?_)
  · walk_at "spl"
  · have nd := sc_probe.nd
    have hu := hu_of hr
    refine ⟨_, (pss_one (ps_ret (pe_op op_and (pe_op op_add (pv 0) (pe_op op_mulX (pv 2) (pe_call (ok_stride T) (hr.mono (by decide)) rfl T.m_stride T.F_stride.kp T.b_stride .nil pass0 (pa_cons (pv 0) pa_nil)))) (pe_op op_sub (pv 1) pe_int)))), ?_⟩
    clear nd
    obtain ⟨m, z, c, rfl, hc, k⟩ := h
    walk_at "rd"
    exact ⟨mulL hc.1 hc.2, k⟩
theorem sc_law_cell_at : FnScope ["_law_script", "_law_k"] ["_law_script", "_law_k"] (defScope s_law_cell_at) := ⟨rfl, rfl, rfl, by decide +kernel, rfl, by decide +kernel, by decide +kernel⟩
theorem ok_law_cell_at {P : Program} {w : World} {K : PySem.W.Frag} {mg : Str → Option Value} {base : Heap} {A : Ad} (T : Txt K mg A) : FnOk P w K mg base CX0 1 A.a_law_cell_at A.d_law_cell_at ["_law_script", "_law_k"] (My.spCell K) := by
  refine T.F_law_cell_at.ok sc_law_cell_at (fun vs H Q E h => ?_) (fun cdv A' outer s H vs Q E hr h => ?_)
  · walk_at "spl"
  · have nd := sc_law_cell_at.nd
    have hu := hu_of hr
    refine ⟨_, (pss_cons (ps_if (pt_cmpR op_lt (pv 1) (pe_callB call_lenU rfl T.n_len PySem.boot_len (pa_cons (pv 0) pa_nil)) (nomark _)) (pss_one (ps_ret (pe_ix ix_list (pv 0) (pv 1) (fun _ _ => rfl)))) pss_nil) (pss_one (ps_ret pe_int))), ?_⟩
    clear nd
    obtain ⟨a, ns, i, rfl, hS, hi, k⟩ := h
    walk_at "rd"
    refine ⟨_, .inl hS, ?_⟩
    rw [List.length_map]
    split
    · rename_i c
      exact ⟨_, _, hS, at_int hi c, k⟩
    · rename_i c
      have e : getI ns i = 0 := by
        unfold getI
        rw [List.getD_eq_getElem?_getD, List.getElem?_eq_none_iff.mpr (by omega)]
        rfl
      rw [e] at k
      exact k
theorem Txt.shC_Table {K : PySem.W.Frag} {mg : Str → Option Value} {A : Ad} (T : Txt K mg A) : ShC K A.c_Table := ⟨T.cl_Table, T.na_Table_cells, T.na_Table_size, T.na_Table_least, T.na_Table_row, T.na_Table_held, T.na_Table_born, T.na_Table_comings, T.na_Table_goings, T.na_Table_tidied, T.na_Table_moved⟩

end Law
namespace Law
open PySem PySem.Spec PyProof.Rows L2 My
theorem sc_is_within : FnScope ["thing", "deep", "part"] ["thing", "deep"] (defScope s_is_within) := ⟨rfl, rfl, rfl, by decide +kernel, rfl, by decide +kernel, by decide +kernel⟩
theorem ok_is_within0 {P : Program} {w : World} {K : PySem.W.Frag} {mg : Str → Option Value} {base : Heap} {A : Ad} (T : Txt K mg A) : FnOk P w K mg base CX0 1 A.a_is_within A.d_is_within ["thing", "deep"] (spWithin 0) := by
  refine T.F_is_within.ok sc_is_within (fun vs H Q E h => ?_) (fun cdv A' outer s H vs Q E hr h => ?_)
  · exact len_within h
  · have nd := sc_is_within.nd
    have hu := hu_of hr
    refine ⟨_, (pss_cons (ps_if (pt_val (pe_callB call_isiF rfl T.n_isinstance (by decide +kernel) (pa_cons (pv 0) (pa_cons (pe_bltn (v := .ty "bool") rfl T.n_bool (by decide +kernel) rfl) pa_nil)))) (pss_one (ps_ret pe_bl)) pss_nil) (pss_cons (ps_if (pt_val (pe_callB call_isiF rfl T.n_isinstance (by decide +kernel) (pa_cons (pv 0) (pa_cons (pe_bltn (v := .ty "int") rfl T.n_int (by decide +kernel) rfl) pa_nil)))) (pss_one (ps_ret (pe_chain op_lt op_lt (pe_un un_neg (pe_glob (v := .int 1000000000000000000000000000000000000000000000000000000000000) rfl T.g_FAR ⟨_, rfl⟩)) (pv 0) (pe_glob (v := .int 1000000000000000000000000000000000000000000000000000000000000) rfl T.g_FAR ⟨_, rfl⟩)))) pss_nil) (pss_cons (ps_if (pt_val (pe_callB call_isiF rfl T.n_isinstance (by decide +kernel) (pa_cons (pv 0) (pa_cons (pe_bltn (v := .ty "str") rfl T.n_str (by decide +kernel) rfl) pa_nil)))) (pss_one (ps_ret (pe_cmpR op_le (pe_callB call_lenU rfl T.n_len PySem.boot_len (pa_cons (pv 0) pa_nil)) (pe_glob (v := .int 60) rfl T.g_MOST_SIGNS ⟨_, rfl⟩) (nomark _)))) pss_nil) (pss_cons (ps_if (PW.pt (pw_or (pt_not (pt_val (pe_callB call_isiF rfl T.n_isinstance (by decide +kernel) (pa_cons (pv 0) (pa_cons (pe_bltn (v := .ty "tuple") rfl T.n_tuple (by decide +kernel) rfl) pa_nil))))) (pw_or (pt_cmpR op_eq (pv 1) pe_int (nomark _)) (pw_or1 (pt_cmpR op_gt (pe_callB call_lenU rfl T.n_len PySem.boot_len (pa_cons (pv 0) pa_nil)) (pe_glob (v := .int 6) rfl T.g_MOST_PARTS ⟨_, rfl⟩) (nomark _)))))) (pss_one (ps_ret pe_bl)) pss_nil) pss_never)))), ?_⟩
    clear nd
    obtain ⟨v, y, d, rfl, hk, hd, k⟩ := h
    cases hk with
    | num i =>
      walk_at "rd"
      simp only [within] at k
      refine iteB (fun c => ?_) fun c => ?_
      · rw [show decide (-(10 : Int) ^ 60 < i ∧ i < 10 ^ 60) = decide (i < 1000000000000000000000000000000000000000000000000000000000000) from by
          rw [decide_eq_decide]
          exact ⟨fun h => by omega, fun h => by omega⟩] at k
        exact k
      · rw [decide_eq_false (by omega)] at k
        exact k
    | txt x =>
      walk_at "rd"
      simp only [within] at k
      refine ⟨by have := hd.1; simp only [Ky.fit] at this; rw [sizeLine_eq]; exact of_decide_eq_true this, ?_⟩
      rw [show decide (x.length ≤ 60) = decide ((x.length : Int) ≤ 60) from by
        rw [decide_eq_decide]
        omega] at k
      exact k
    | bl b => walk_at "rd"; simpa [within] using k
    | non => walk_at "rd"; simpa [within] using k
    | lst h => walk_at "rd"; simp only [isi_lst_bool h, isi_lst_int h, isi_lst_str h, isi_lst_tuple h]; walk_at "rd"; simpa [within] using k
    | dct h => walk_at "rd"; simp only [isi_dK_bool h, isi_dK_int h, isi_dK_str h, isi_dK_tuple h]; walk_at "rd"; simpa [within] using k
    | tup h p =>
      have e : d = 0 := by omega
      subst e
      walk_at "rd"
      simp only [isi_tup_bool h, isi_tup_int h, isi_tup_str h, isi_tup_tuple h]
      walk_at "rd"
      simp only [within] at k
      exact k
theorem ok_is_withinS {P : Program} {w : World} {K : PySem.W.Frag} {mg : Str → Option Value} {base : Heap} {A : Ad} (T : Txt K mg A) {n : Nat} (G : FnOk P w K mg base CX0 (n + 1) A.a_is_within A.d_is_within ["thing", "deep"] (spWithin n)) : FnOk P w K mg base CX0 (n + 1 + 1) A.a_is_within A.d_is_within ["thing", "deep"] (spWithin (n + 1)) := by
  refine T.F_is_within.ok sc_is_within (fun vs H Q E h => ?_) (fun cdv A' outer s H vs Q E hr h => ?_)
  · exact len_within h
  · have nd := sc_is_within.nd
    have hu := hu_of hr
    refine ⟨_, (pss_cons (ps_if (pt_val (pe_callB call_isiF rfl T.n_isinstance (by decide +kernel) (pa_cons (pv 0) (pa_cons (pe_bltn (v := .ty "bool") rfl T.n_bool (by decide +kernel) rfl) pa_nil)))) (pss_one (ps_ret pe_bl)) pss_nil) (pss_cons (ps_if (pt_val (pe_callB call_isiF rfl T.n_isinstance (by decide +kernel) (pa_cons (pv 0) (pa_cons (pe_bltn (v := .ty "int") rfl T.n_int (by decide +kernel) rfl) pa_nil)))) (pss_one (ps_ret (pe_chain op_lt op_lt (pe_un un_neg (pe_glob (v := .int 1000000000000000000000000000000000000000000000000000000000000) rfl T.g_FAR ⟨_, rfl⟩)) (pv 0) (pe_glob (v := .int 1000000000000000000000000000000000000000000000000000000000000) rfl T.g_FAR ⟨_, rfl⟩)))) pss_nil) (pss_cons (ps_if (pt_val (pe_callB call_isiF rfl T.n_isinstance (by decide +kernel) (pa_cons (pv 0) (pa_cons (pe_bltn (v := .ty "str") rfl T.n_str (by decide +kernel) rfl) pa_nil)))) (pss_one (ps_ret (pe_cmpR op_le (pe_callB call_lenU rfl T.n_len PySem.boot_len (pa_cons (pv 0) pa_nil)) (pe_glob (v := .int 60) rfl T.g_MOST_SIGNS ⟨_, rfl⟩) (nomark _)))) pss_nil) (pss_cons (ps_if (PW.pt (pw_or (pt_not (pt_val (pe_callB call_isiF rfl T.n_isinstance (by decide +kernel) (pa_cons (pv 0) (pa_cons (pe_bltn (v := .ty "tuple") rfl T.n_tuple (by decide +kernel) rfl) pa_nil))))) (pw_or (pt_cmpR op_eq (pv 1) pe_int (nomark _)) (pw_or1 (pt_cmpR op_gt (pe_callB call_lenU rfl T.n_len PySem.boot_len (pa_cons (pv 0) pa_nil)) (pe_glob (v := .int 6) rfl T.g_MOST_PARTS ⟨_, rfl⟩) (nomark _)))))) (pss_one (ps_ret pe_bl)) pss_nil) (pss_cons (ps_for PassesOwn.never rfl (pi_tup (pv 0)) (pg_name (i := 2) nd rfl (Or.inl rfl)) (pss_one (ps_if (pt_not (pt_val (pe_call G hr rfl T.m_is_within T.F_is_within.kp T.b_is_within .nil pass0 (pa_cons (pv 2) (pa_cons (pe_op op_sub (pv 1) pe_int) pa_nil))))) (pss_one (ps_ret pe_bl)) pss_nil))) (pss_one (ps_ret pe_bl))))))), ?_⟩
    clear nd
    obtain ⟨v, y, d, rfl, hk, hd, k⟩ := h
    cases hk with
    | num i =>
      walk_at "rd"
      simp only [within] at k
      refine iteB (fun c => ?_) fun c => ?_
      · rw [show decide (-(10 : Int) ^ 60 < i ∧ i < 10 ^ 60) = decide (i < 1000000000000000000000000000000000000000000000000000000000000) from by
          rw [decide_eq_decide]
          exact ⟨fun h => by omega, fun h => by omega⟩] at k
        exact k
      · rw [decide_eq_false (by omega)] at k
        exact k
    | txt x =>
      walk_at "rd"
      simp only [within] at k
      refine ⟨by have := hd.1; simp only [Ky.fit] at this; rw [sizeLine_eq]; exact of_decide_eq_true this, ?_⟩
      rw [show decide (x.length ≤ 60) = decide ((x.length : Int) ≤ 60) from by
        rw [decide_eq_decide]
        omega] at k
      exact k
    | bl b => walk_at "rd"; simpa [within] using k
    | non => walk_at "rd"; simpa [within] using k
    | lst h => walk_at "rd"; simp only [isi_lst_bool h, isi_lst_int h, isi_lst_str h, isi_lst_tuple h]; walk_at "rd"; simpa [within] using k
    | dct h => walk_at "rd"; simp only [isi_dK_bool h, isi_dK_int h, isi_dK_str h, isi_dK_tuple h]; walk_at "rd"; simpa [within] using k
    | @tup a xs ks h p =>
      walk_at "rd"
      simp only [isi_tup_bool h, isi_tup_int h, isi_tup_str h, isi_tup_tuple h]
      walk_at "rd"
      have kf : Ky.fits ks = true := by simpa [Ky.fit] using hd.1
      cases d with
      | zero =>
        simp only [within] at k
        exact iteP rfl k
      | succ d =>
        simp only [within] at k
        refine iteN (by omega) ⟨_, .inr (SqT.of h), ?_⟩
        rw [p.len]
        refine iteB (fun c => ?_) fun c => ⟨⟨_, SqT.of h⟩, go_tup (fun i σ H' => ∃ v2, σ = [some (.ref a), some (.int ((d + 1 : Nat) : Int)), v2] ∧ H' = H ∧ (ks.take i).all (within d) = true) ⟨_, rfl, rfl, rfl⟩ (fun i σ H' _ ⟨_, _, e, _⟩ => by rw [e]; exact SqT.of h) ?_ ?_⟩
        · rw [decide_eq_false (by omega), Bool.false_and] at k
          exact k
        · rintro N i x σ H' hx ⟨v2, rfl, rfl, hi⟩ hN
          obtain ⟨y, hy, hv⟩ := p.get hx
          walk_at "rd"
          refine ⟨x, y, d, by rw [show (((d + 1 : Nat) : Int) - 1) = (d : Int) by omega], hv, ⟨fits_get kf hy, by have := hd.2; omega⟩, ?_⟩
          obtain ⟨hi1, e1⟩ := List.getElem?_eq_some_iff.mp hy
          have et : (ks.take (i + 1)).all (within d) = within d y := by
            rw [List.take_succ_eq_append_getElem hi1, List.all_append, hi, e1]
            simp
          walk_at "rd"
          refine iteB (fun c2 => ?_) fun c2 => hN _ _ ⟨_, rfl, rfl, ?_⟩
          · have ef : ks.all (within d) = false := by
              rw [List.all_eq_false]
              exact ⟨y, List.mem_of_getElem? hy, by simp [c2]⟩
            rw [ef, Bool.and_false] at k
            exact k
          · rw [et]
            simpa using c2
        · rintro σ H' ⟨v2, rfl, rfl, hi⟩
          walk_at "rd"
          rw [p.len, List.take_length] at hi
          rw [hi, decide_eq_true (by omega), Bool.and_true] at k
          exact k
theorem ok_is_within {P : Program} {w : World} {K : PySem.W.Frag} {mg : Str → Option Value} {base : Heap} {A : Ad} (T : Txt K mg A) : ∀ n : Nat, FnOk P w K mg base CX0 (n + 1) A.a_is_within A.d_is_within ["thing", "deep"] (spWithin n)
  | 0 => ok_is_within0 T
  | n + 1 => ok_is_withinS T (ok_is_within T n)
theorem sc_is_key : FnScope ["thing"] ["thing"] (defScope s_is_key) := ⟨rfl, rfl, rfl, by decide +kernel, rfl, by decide +kernel, by decide +kernel⟩
theorem ok_is_key {P : Program} {w : World} {K : PySem.W.Frag} {mg : Str → Option Value} {base : Heap} {A : Ad} (T : Txt K mg A) : FnOk P w K mg base CX0 5 A.a_is_key A.d_is_key ["thing"] spKeyB := by
  refine T.F_is_key.ok sc_is_key (fun vs H Q E h => ?_) (fun cdv A' outer s H vs Q E hr h => ?_)
  · exact len_keyB h
  · have nd := sc_is_key.nd
    have hu := hu_of hr
    refine ⟨_, (pss_one (ps_ret (pe_call (ok_is_within T 3) (hr.mono (by decide)) rfl T.m_is_within T.F_is_within.kp T.b_is_within .nil pass0 (pa_cons (pv 0) (pa_cons (pe_glob (v := .int 3) rfl T.g_DEEPEST ⟨_, rfl⟩) pa_nil))))), ?_⟩
    clear nd
    obtain ⟨v, y, rfl, hk, hd, k⟩ := h
    walk_at "rd"
    exact ⟨v, y, 3, rfl, hk, ⟨hd, Nat.le_refl _⟩, k⟩
theorem sc_is_size : FnScope ["thing"] ["thing"] (defScope s_is_size) := ⟨rfl, rfl, rfl, by decide +kernel, rfl, by decide +kernel, by decide +kernel⟩
theorem ok_is_size {P : Program} {w : World} {K : PySem.W.Frag} {mg : Str → Option Value} {base : Heap} {A : Ad} (T : Txt K mg A) : FnOk P w K mg base CX0 1 A.a_is_size A.d_is_size ["thing"] (spI1 (fun _ => True) fun n => .bl (sizeB n)) := by
  refine T.F_is_size.ok sc_is_size (fun vs H Q E h => ?_) (fun cdv A' outer s H vs Q E hr h => ?_)
  · walk_at "spl"
  · have nd := sc_is_size.nd
    have hu := hu_of hr
    refine ⟨_, (pss_cons (ps_if (PW.pt (pw_or (pt_not (pt_val (pe_callB call_isiF rfl T.n_isinstance (by decide +kernel) (pa_cons (pv 0) (pa_cons (pe_bltn (v := .ty "int") rfl T.n_int (by decide +kernel) rfl) pa_nil))))) (pw_or1 (pt_val (pe_callB call_isiF rfl T.n_isinstance (by decide +kernel) (pa_cons (pv 0) (pa_cons (pe_bltn (v := .ty "bool") rfl T.n_bool (by decide +kernel) rfl) pa_nil))))))) (pss_one (ps_ret pe_bl)) pss_nil) (pss_one (ps_ret (pe_and (pe_chain op_le op_le (pe_glob (v := .int 8) rfl T.g_LEAST ⟨_, rfl⟩) (pv 0) (pe_glob (v := .int 4096) rfl T.g_GREATEST ⟨_, rfl⟩)) (pe_one (pe_cmpR op_eq (pe_op op_and (pv 0) (pe_op op_sub (pv 0) pe_int)) pe_int (nomark _))))))), ?_⟩
    clear nd
    obtain ⟨n, rfl, -, k⟩ := h
    walk_at "rd"
    have e : ∀ b : Bool, b = sizeB n → Q (.bl b) H := fun b h => by rw [h]; exact k
    refine iteB (fun c1 => iteB (fun c2 => e _ ?_) fun c2 => e _ ?_) fun c1 => e _ ?_
    · unfold sizeB
      rw [decide_eq_true (show 8 ≤ n ∧ n ≤ 4096 from ⟨c1, c2⟩), Bool.true_and]
    · unfold sizeB
      rw [decide_eq_false (show ¬(8 ≤ n ∧ n ≤ 4096) from fun c => c2 c.2), Bool.false_and]
    · unfold sizeB
      rw [decide_eq_false (show ¬(8 ≤ n ∧ n ≤ 4096) from fun c => c1 c.1), Bool.false_and]
theorem sc_room : FnScope ["size"] ["size"] (defScope s_room) := ⟨rfl, rfl, rfl, by decide +kernel, rfl, by decide +kernel, by decide +kernel⟩
theorem ok_room {P : Program} {w : World} {K : PySem.W.Frag} {mg : Str → Option Value} {base : Heap} {A : Ad} (T : Txt K mg A) : FnOk P w K mg base CX0 1 A.a_room A.d_room ["size"] (spI1 (fun _ => True) fun n => .int (2 * n / 3)) := by
  refine T.F_room.ok sc_room (fun vs H Q E h => ?_) (fun cdv A' outer s H vs Q E hr h => ?_)
  · walk_at "spl"
  · have nd := sc_room.nd
    have hu := hu_of hr
    refine ⟨_, (pss_one (ps_ret (pe_op op_fdivW (pe_op op_mulX pe_int (pv 0)) pe_int))), ?_⟩
    clear nd
    obtain ⟨n, rfl, -, k⟩ := h
    walk_at "rd"
    exact ⟨by walk_at "side", by walk_at "side", k⟩
theorem sc_first_bare : FnScope ["cells", "key", "mark", "slot", "count"] ["cells", "key"] (defScope s_first_bare) := ⟨rfl, rfl, rfl, by decide +kernel, rfl, by decide +kernel, by decide +kernel⟩
theorem ok_first_bare {P : Program} {w : World} {K : PySem.W.Frag} {mg : Str → Option Value} {base : Heap} {A : Ad} (T : Txt K mg A) : FnOk P w K mg base CX0 5 A.a_first_bare A.d_first_bare ["cells", "key"] (spBare K) := by
  refine T.F_first_bare.ok sc_first_bare (fun vs H Q E h => ?_) (fun cdv A' outer s H vs Q E hr h => ?_)
  · walk_at "spl"
  · have nd := sc_first_bare.nd
    have hu := hu_of hr
    refine ⟨_, (pss_cons (ps_set (i := 2) nd rfl (Or.inl rfl) (pe_call (ok_stamp T 3) (hr.mono (by decide)) rfl T.m_stamp T.F_stamp.kp T.b_stamp .nil pass0 (pa_cons (pv 1) pa_nil))) (pss_cons (ps_set (i := 3) nd rfl (Or.inl rfl) (pe_call (ok_probe T) (hr.mono (by decide)) rfl T.m_probe T.F_probe.kp T.b_probe .nil pass0 (pa_cons (pv 2) (pa_cons (pe_callB call_lenU rfl T.n_len PySem.boot_len (pa_cons (pv 0) pa_nil)) (pa_cons pe_int pa_nil))))) (pss_cons (ps_set (i := 4) nd rfl (Or.inl rfl) pe_int) (pss_cons (ps_while PassesOwn.never (pt_cmpR op_ne (pe_ix ix_list (pv 0) (pv 3) (fun _ _ => rfl)) (pe_glob (v := .int (-1)) rfl T.g_EMPTY ⟨_, rfl⟩) (nomark _)) (pss_cons (ps_aug (i := 4) nd rfl (Or.inl rfl) pe_int ip_add) (pss_one (ps_set (i := 3) nd rfl (Or.inl rfl) (pe_call (ok_probe T) (hr.mono (by decide)) rfl T.m_probe T.F_probe.kp T.b_probe .nil pass0 (pa_cons (pv 2) (pa_cons (pe_callB call_lenU rfl T.n_len PySem.boot_len (pa_cons (pv 0) pa_nil)) (pa_cons (pv 4) pa_nil)))))))) (pss_one (ps_ret (pv 3))))))), ?_⟩
    clear nd
    obtain ⟨a, v, cs, y, j, rfl, hS, hy, hg, ⟨hl, hj, hm⟩, k⟩ := h
    walk_at "rd"
    have hb := bare_ex y.stamp hj hl hm
    refine ⟨y, hy, hg, _, .inl hS, ?_⟩
    rw [List.length_map, hl, pow_cast]
    refine go_while (fun σ H' => ∃ c : Nat, σ = [some (.ref a), some v, some (.int y.stamp), some (.int (probeF y.stamp (2 ^ j) (c : Int))), some (.int c)] ∧ H' = H ∧ c ≤ bareN cs j y.stamp) (fun σ _ => match σ with | [_, _, _, _, some (.int c)] => bareN cs j y.stamp - c.toNat | _ => 0) ⟨0, rfl, rfl, Nat.zero_le _⟩ ?_
    rintro B σ H' ⟨c, rfl, rfl, hc⟩ hB
    obtain ⟨r0, r1⟩ := probe_range y.stamp c hj
    have pc := pow_cast j
    walk_at "rd"
    refine ⟨_, _, hS, at_int r0 (by omega), ?_⟩
    walk_at "rd"
    refine iteB (fun c1 => ?_) fun c1 => ?_
    · refine hB _ fun N hN => ?_
      walk_at "rd"
      have hlt : c < bareN cs j y.stamp := by
        rcases Nat.lt_or_ge c (bareN cs j y.stamp) with h | h
        · exact h
        · have e : c = bareN cs j y.stamp := by omega
          rw [e] at c1
          exact absurd hb.2.1 c1
      have hb1 := hb.1
      have j12 := (pow_le hj).2
      refine ⟨_, .inl hS, ?_⟩
      rw [List.length_map, hl, pow_cast]
      refine ⟨⟨by omega, ?_⟩, hN _ _ ⟨c + 1, by rw [Int.natCast_add]; rfl, rfl, by omega⟩ ?_⟩
      · simp at j12
        omega
      · dsimp only
        omega
    · have e : c = bareN cs j y.stamp := Bare.uniq ⟨by have := hb.1; omega, by simpa using c1, fun i hi => hb.2.2 i (by omega)⟩ hb
      rw [e]
      exact k
theorem sc_cells_of : FnScope ["row", "size", "cells", "place", "key"] ["row", "size"] (defScope s_cells_of) := ⟨rfl, rfl, rfl, by decide +kernel, rfl, by decide +kernel, by decide +kernel⟩
theorem ok_cells_of {P : Program} {w : World} {K : PySem.W.Frag} {mg : Str → Option Value} {base : Heap} {A : Ad} (T : Txt K mg A) : FnOk P w K mg base CX0 6 A.a_cells_of A.d_cells_of ["row", "size"] (spCellsOf K) := by
  refine T.F_cells_of.ok sc_cells_of (fun vs H Q E h => ?_) (fun cdv A' outer s H vs Q E hr h => ?_)
  · walk_at "spl"
  · have nd := sc_cells_of.nd
    have hu := hu_of hr
    refine ⟨_, (pss_cons (ps_if (pt_not (pt_val (pe_call (ok_is_size T) (hr.mono (by decide)) rfl T.m_is_size T.F_is_size.kp T.b_is_size .nil pass0 (pa_cons (pv 1) pa_nil)))) (pss_one ps_never) pss_nil) (pss_cons (ps_if (pt_cmpR op_gt (pe_callB call_lenU rfl T.n_len PySem.boot_len (pa_cons (pv 0) pa_nil)) (pe_call (ok_room T) (hr.mono (by decide)) rfl T.m_room T.F_room.kp T.b_room .nil pass0 (pa_cons (pv 1) pa_nil)) (nomark _)) (pss_one ps_never) pss_nil) (pss_cons (ps_set (i := 2) nd rfl (Or.inl rfl) (pe_op op_rep (pe_lst (pa_cons (pe_glob (v := .int (-1)) rfl T.g_EMPTY ⟨_, rfl⟩) pa_nil)) (pv 1))) (pss_cons (ps_for PassesOwn.never rfl (pi_enum rfl T.n_enumerate (pa_cons (pv 0) pa_nil)) (pg_tup (n := 2) rfl (pgs_cons (pg_name (i := 3) nd rfl (Or.inl rfl)) (pgs_cons (pg_name (i := 4) nd rfl (Or.inl rfl)) pgs_nil))) (pss_one (ps_if (pt_cmpR op_notN (pv 4) pe_non (nomark _)) (pss_one (ps_asg (pv 3) (pg_sub (pv 2) (pe_call (ok_first_bare T) (hr.mono (by decide)) rfl T.m_first_bare T.F_first_bare.kp T.b_first_bare .nil pass0 (pa_cons (pv 2) (pa_cons (pv 4) pa_nil))) set_list))) pss_nil))) (pss_one (ps_ret (pv 2))))))), ?_⟩
    clear nd
    obtain ⟨a, ws, ks, j, rfl, hS, hks, hR, ⟨hj3, hj, hn⟩, k⟩ := h
    walk_at "rd"
    have hw := KysAt.len hks
    obtain ⟨p0, p1⟩ := pow_le hj
    have pc := pow_cast j
    have hz : ks.length < 2 ^ j := by omega
    rw [sizeB_pow hj3 hj]
    walk_at "rd"
    refine ⟨_, .inl hS, iteN (by omega) ⟨by walk_at "sz", fun p hp => ⟨_, upd_same, by omega, by simp at p1; omega, ?_, fun q hq => ⟨⟨_, by walk_at "sq"⟩, ?_⟩⟩⟩⟩
    · rw [sizeLine_eq]; simp at p1; simp only [List.length_cons, List.length_nil]; omega
    have e0 : (List.replicate (2 ^ j : Int).toNat [V.int (-1)]).flatten = (layN j ks 0).map V.int := by
      rw [← pc, Int.toNat_natCast, layN, List.map_replicate]
      generalize 2 ^ j = n
      induction n with
      | zero => rfl
      | succ n ih => rw [List.replicate_succ, List.flatten_cons, ih]; rfl
    rw [e0]
    have hla : ∀ i : Nat, i ≤ ks.length → Laid ks j i (layN j ks i) := laid_at hj hz
    refine go_enum (xs := ws) (fun i σ H' => ∃ v3 v4, σ = [some (.ref a), some (.int (2 ^ j)), some (.ref q), v3, v4] ∧ Same H H' ∧ H' q = some (.lst ((layN j ks i).map V.int))) ⟨_, _, rfl, by walk_at "same", upd_same⟩ (fun i σ H' _ ⟨_, _, _, s, _⟩ => s.seq hS) ?_ ?_
    · rintro N i x σ H' T hx ⟨v3, v4, rfl, sm, hL⟩ hT hN
      obtain ⟨y, hy, hv⟩ := hks.get hx
      have hv' : KyAt H' x y := hv.same sm _ _
      have hi : i < ks.length := (List.getElem?_eq_some_iff.mp hy).1
      have es := layN_step (j := j) hy
      walk_at "rd"
      refine ⟨_, SqT.of upd_same, rfl, ?_⟩
      walk_at "rd"
      have sT : Same H (upd H' T (.tup [V.int i, x])) := Same_upd sm hT
      have hLT : upd H' T (.tup [V.int i, x]) q = some (.lst ((layN j ks i).map V.int)) := Same_upd (Same.refl _) hT _ _ hL
      have hvT : KyAt (upd H' T (.tup [V.int i, x])) x y := hv.same sT _ _
      generalize upd H' T (.tup [V.int i, x]) = H3 at sT hLT hvT ⊢
      refine iteB (fun c => ?_) fun c => ?_
      · have yn : y ≠ .non := fun e => c (hv.ne_non.mpr e)
        have yk := (hR.get hy).resolve_left yn
        have L := hla i (by omega)
        refine ⟨_, y, j, SqL.of hLT, hvT, ⟨yk.g, yk.d⟩, ⟨L.len, hj, L.mem (by omega)⟩, ?_⟩
        obtain ⟨r0, r1⟩ := probe_range y.stamp (bareN (layN j ks i) j y.stamp) hj
        have hlen := L.len
        refine ⟨_, _, hLT, ixN_nat r0 (by rw [List.length_map, hlen]; omega), hN _ _ ⟨_, _, rfl, Same_upd0 sT (Same_fresh (Same_upd (Same.refl _) hp) hq), ?_⟩⟩
        rw [upd_same, es]
        unfold layS
        rw [if_neg yn, List.map_set]
      · have yn : y = .non := hv.ne_non.mp (by simpa using c)
        refine hN _ _ ⟨_, _, rfl, sT, ?_⟩
        rw [es]
        unfold layS
        rw [if_pos yn]
        exact hLT
    · rintro σ H' ⟨v3, v4, rfl, sm, hL⟩
      walk_at "rd"
      rw [hw] at hL
      exact k q H' sm (Same_fresh (Same_upd (Same.refl _) hp) hq) hL
theorem sc_size_for : FnScope ["many", "size"] ["many"] (defScope s_size_for) := ⟨rfl, rfl, rfl, by decide +kernel, rfl, by decide +kernel, by decide +kernel⟩
theorem ok_size_for {P : Program} {w : World} {K : PySem.W.Frag} {mg : Str → Option Value} {base : Heap} {A : Ad} (T : Txt K mg A) : FnOk P w K mg base CX0 1 A.a_size_for A.d_size_for ["many"] spSizeFor := by
  refine T.F_size_for.ok sc_size_for (fun vs H Q E h => ?_) (fun cdv A' outer s H vs Q E hr h => ?_)
  · exact len_sizefor h
  · have nd := sc_size_for.nd
    have hu := hu_of hr
    refine ⟨_, (pss_cons (ps_set (i := 1) nd rfl (Or.inl rfl) (pe_glob (v := .int 8) rfl T.g_LEAST ⟨_, rfl⟩)) (pss_cons (ps_while PassesOwn.never (pt_cmpR op_lt (pv 1) (pe_op op_mulX pe_int (pv 0)) (nomark _)) (pss_one (ps_set (i := 1) nd rfl (Or.inl rfl) (pe_op op_shl (pv 1) pe_int)))) (pss_one (ps_ret (pv 1))))), ?_⟩
    clear nd
    obtain ⟨n, rfl, hn, k⟩ := h
    walk_at "rd"
    refine go_while (fun σ H' => ∃ j : Nat, σ = [some (.int n), some (.int (2 ^ j))] ∧ H' = H ∧ (3 ≤ j ∧ j ≤ 12) ∧ (j = 3 ∨ 2 ^ (j - 1) < 3 * n)) (fun σ _ => match σ with | [_, some (.int r)] => (8192 - r).toNat | _ => 0) ⟨3, rfl, rfl, by decide, .inl rfl⟩ ?_
    rintro B σ H' ⟨j, rfl, rfl, hj, hc⟩ hB
    walk_at "rd"
    have z3 : (2 : Int) ^ 12 = 4096 := by decide
    obtain ⟨z1, z2⟩ := pow_le hj.2
    refine ⟨mulL (by decide) (by decide), iteB (fun c => hB _ fun N hN => ?_) fun c => ?_⟩
    · walk_at "rd"
      have hj12 : j < 12 := by
        apply Classical.byContradiction
        intro h
        have : j = 12 := by omega
        subst this
        omega
      have e : (2 : Int) ^ j * 2 = 2 ^ (j + 1) := by rw [Int.pow_succ]
      refine ⟨⟨by decide, by decide, by omega⟩, hN _ _ ⟨j + 1, by rw [e], rfl, by omega, .inr (by simpa using c)⟩ ?_⟩
      show (8192 - (2 : Int) ^ j * 2).toNat < (8192 - (2 : Int) ^ j).toNat
      omega
    · walk_at "rd"
      exact k j hj (by omega) hc

end Law
namespace Law
open PySem PySem.Spec PyProof.Rows L2 My
theorem sc_paper : FnScope ["cells", "row", "key", "mark", "found", "count", "slot", "cell"] ["cells", "row", "key"] (defScope s_paper) := ⟨rfl, rfl, rfl, by decide +kernel, rfl, by decide +kernel, by decide +kernel⟩
theorem ok_paper {P : Program} {w : World} {K : PySem.W.Frag} {mg : Str → Option Value} {base : Heap} {A : Ad} (T : Txt K mg A) : FnOk P w K mg base CX0 5 A.a_paper A.d_paper ["cells", "row", "key"] (spPaper K) := by
  refine T.F_paper.ok sc_paper (fun vs H Q E h => ?_) (fun cdv A' outer s H vs Q E hr h => ?_)
  · walk_at "spl"
  · have nd := sc_paper.nd
    have hu := hu_of hr
    refine ⟨_, (pss_cons (ps_set (i := 3) nd rfl (Or.inl rfl) (pe_call (ok_stamp T 3) (hr.mono (by decide)) rfl T.m_stamp T.F_stamp.kp T.b_stamp .nil pass0 (pa_cons (pv 2) pa_nil))) (pss_cons (ps_set (i := 4) nd rfl (Or.inl rfl) (pe_lst pa_nil)) (pss_cons (ps_for PassesOwn.never rfl (pi_range1 rfl T.n_range (pa_cons (pe_callB call_lenU rfl T.n_len PySem.boot_len (pa_cons (pv 0) pa_nil)) pa_nil)) (pg_name (i := 5) nd rfl (Or.inl rfl)) (pss_cons (ps_set (i := 6) nd rfl (Or.inl rfl) (pe_call (ok_probe T) (hr.mono (by decide)) rfl T.m_probe T.F_probe.kp T.b_probe .nil pass0 (pa_cons (pv 3) (pa_cons (pe_callB call_lenU rfl T.n_len PySem.boot_len (pa_cons (pv 0) pa_nil)) (pa_cons (pv 5) pa_nil))))) (pss_cons (ps_set (i := 7) nd rfl (Or.inl rfl) (pe_ix ix_list (pv 0) (pv 6) (fun _ _ => rfl))) (pss_cons (ps_expr (pe_bm PySem.F.plainAttrs_list PySem.F.slot_list_append PySem.F.type_list_append mt_append (pv 4) (pa_cons (pe_tup (pa_cons (pv 6) (pa_cons (pv 7) pa_nil))) pa_nil))) (pss_cons (ps_if (pt_cmpR op_eq (pv 7) (pe_glob (v := .int (-1)) rfl T.g_EMPTY ⟨_, rfl⟩) (nomark _)) (pss_one ps_break) pss_nil) (pss_one (ps_if (PW.pt (pw_and (pt_cmpR op_ne (pv 7) (pe_glob (v := .int (-2)) rfl T.g_GONE ⟨_, rfl⟩) (nomark _)) (pw_and1 (pt_cmpR (op_eqD hr.units) (pe_ix ix_list (pv 1) (pv 7) (fun _ _ => rfl)) (pv 2) (nomark _))))) (pss_one ps_break) pss_nil))))))) (pss_one (ps_ret (pv 4)))))), ?_⟩
    clear nd
    obtain ⟨a, r, v, cs, ws, ks, y, j, rfl, hA, hS, hks, hy, hR, hK, ⟨hl, hj⟩, hC, k⟩ := h
    obtain ⟨z0, z1⟩ := pow_le hj
    simp only [Int.reducePow] at z1
    have pc := pow_cast j
    have hw := KysAt.len hks
    walk_at "rd"
    refine ⟨y, hy, ⟨hK.g, hK.d⟩, by walk_at "sz", fun p hp => ⟨_, .inl (by walk_at "sq"), ?_⟩⟩
    rw [List.length_map, hl, pc]
    refine ⟨by omega, ?_⟩
    rw [show (2 ^ j : Int).toNat = 2 ^ j by omega]
    refine go_range (fun i σ H' => ∃ (v5 v6 v7 : Option V) (xs : List V), σ = [some (.ref a), some (.ref r), some v, some (.int y.stamp), some (.ref p), v5, v6, v7] ∧ Same H H' ∧ H' p = some (.lst xs) ∧ KysAt H' xs ((List.range i).map (pairAt cs j y)) ∧ i ≤ 2 ^ j ∧ ∀ t : Nat, t < i → stopB cs ks j y t = false) ⟨_, _, _, [], rfl, by walk_at "same", upd_same, .nil, Nat.zero_le _, fun t h => by omega⟩ ?_ ?_
    · rintro N i σ H' hi ⟨v5, v6, v7, xs, rfl, sm, hp', hx, hz, hb⟩ hN
      have hxl := KysAt.len hx
      rw [List.length_map, List.length_range] at hxl
      obtain ⟨r0, r1⟩ := probe_range y.stamp i hj
      have at_ := at_int (xs := cs) r0 (by omega)
      have ec := hC _ r0 (by omega)
      walk_at "rd"
      refine ⟨_, .inl (sm.seq hA), ?_⟩
      rw [List.length_map, hl, pc]
      refine ⟨by omega, _, _, sm.seq hA, at_, ?_⟩
      walk_at "rd"
      refine ⟨tyL hp', by walk_at "sz", fun T hT => ⟨xs, by walk_at "hp", by rw [sizeLine_eq]; omega, ?_⟩⟩
      have sT : Same H (upd (upd H' T (.tup [V.int (probeF y.stamp (2 ^ j) i), V.int (getI cs (probeF y.stamp (2 ^ j) i))])) p (.lst (xs ++ [V.ref T]))) := Same_upd0 (Same_upd sm hT) hp
      have hpT : T ≠ p := (hT.ne hp').symm
      have hp2 : upd H' T (.tup [V.int (probeF y.stamp (2 ^ j) i), V.int (getI cs (probeF y.stamp (2 ^ j) i))]) p = some (.lst xs) := by walk_at "hp"
      have hx2 := hx.same (Same_upd (o := .tup [V.int (probeF y.stamp (2 ^ j) i), V.int (getI cs (probeF y.stamp (2 ^ j) i))]) (Same.refl _) hT) _ _
      have dats : Ky.dats ((List.range i).map (pairAt cs j y)) := fun q hq => by
        obtain ⟨t, _, rfl⟩ := List.mem_map.mp hq
        exact pairK_dat _ _
      have hx3 : KysAt (upd (upd H' T (.tup [V.int (probeF y.stamp (2 ^ j) i), V.int (getI cs (probeF y.stamp (2 ^ j) i))])) p (.lst (xs ++ [V.ref T]))) (xs ++ [V.ref T]) ((List.range (i + 1)).map (pairAt cs j y)) := by
        rw [List.range_succ, List.map_append]
        refine KysAt.append (hx2.butD (fun b u hb e => by rw [upd_ne hb]; exact e) hp2 dats) (.cons ?_ .nil)
        exact .tup (by rw [upd_ne hpT]; exact upd_same) (.cons (.num _) (.cons (.num _) .nil))
      have hp3 : upd (upd H' T (.tup [V.int (probeF y.stamp (2 ^ j) i), V.int (getI cs (probeF y.stamp (2 ^ j) i))])) p (.lst (xs ++ [V.ref T])) p = some (.lst (xs ++ [V.ref T])) := upd_same
      generalize upd (upd H' T (.tup [V.int (probeF y.stamp (2 ^ j) i), V.int (getI cs (probeF y.stamp (2 ^ j) i))])) p (.lst (xs ++ [V.ref T])) = H3 at sT hx3 hp3 ⊢
      have stop : stopB cs ks j y i = true → Q (.ref p) H3 := fun e => k p H3 _ sT hp hp3 (by
        unfold paperK
        rw [paperN_stop hi e hb]
        exact hx3)
      have next : stopB cs ks j y i = false → ∀ v6 v7, N [some (.ref a), some (.ref r), some v, some (.int y.stamp), some (.ref p), some (.int i), v6, v7] H3 := fun e v6 v7 => hN _ _ ⟨_, _, _, _, rfl, sT, hp3, hx3, by omega, fun t ht => by
        rcases Nat.lt_or_ge t i with q | q
        · exact hb t q
        · rw [show t = i by omega]; exact e⟩
      unfold stopB at stop next
      generalize getI cs (probeF y.stamp (2 ^ j) i) = c at *
      refine iteB (fun c1 => stop (by simp [c1])) fun c1 => iteB (fun c2 => ?_) fun c2 => next ?_ _ _
      · obtain ⟨q1, q2⟩ := (ec.resolve_left c1).resolve_left c2
        obtain ⟨u, e1, at2⟩ := at_any (xs := ws) q1 (by omega)
        obtain ⟨l, e2, hu⟩ := hks.get e1
        refine ⟨_, _, sT.seq hS, at2, ?_⟩
        have ul := RowOk.one (hR.get e2)
        have kl := RowOk.one (k := y) (.inr hK)
        refine eq_any (hu.same sT _ _) (hy.same sT _ _) ul.1 kl.1 ul.2 kl.2 ?_
        walk_at "rd"
        refine iteB (fun c3 => stop ?_) fun c3 => next ?_ _ _
        · rw [e2, c3]
          simp [c2]
        · rw [e2]
          simp [c1, c3]
      · have c2' : c = -2 := by simpa using c2
        simp [c2']
    · rintro σ H' ⟨v5, v6, v7, xs, rfl, sm, hp', hx, hz, hb⟩
      walk_at "rd"
      refine k p H' xs sm hp hp' ?_
      unfold paperK
      rw [paperN_none hb]
      exact hx
theorem sc_place_of : FnScope ["cells", "row", "key", "cell"] ["cells", "row", "key"] (defScope s_place_of) := ⟨rfl, rfl, rfl, by decide +kernel, rfl, by decide +kernel, by decide +kernel⟩
theorem ok_place_of {P : Program} {w : World} {K : PySem.W.Frag} {mg : Str → Option Value} {base : Heap} {A : Ad} (T : Txt K mg A) : FnOk P w K mg base CX0 6 A.a_place_of A.d_place_of ["cells", "row", "key"] (spPlaceOf K) := by
  refine T.F_place_of.ok sc_place_of (fun vs H Q E h => ?_) (fun cdv A' outer s H vs Q E hr h => ?_)
  · walk_at "spl"
  · have nd := sc_place_of.nd
    have hu := hu_of hr
    refine ⟨_, (pss_cons (ps_set (i := 3) nd rfl (Or.inl rfl) (pe_ix ix_tup (pe_ix ix_list (pe_call (ok_paper T) (hr.mono (by decide)) rfl T.m_paper_slots T.F_paper.kp T.b_paper .nil pass0 (pa_cons (pv 0) (pa_cons (pv 1) (pa_cons (pv 2) pa_nil)))) (pe_un un_neg pe_int) (fun _ _ => rfl)) pe_int (fun _ _ => rfl))) (pss_cons (ps_if (pt_cmpR op_eq (pv 3) (pe_glob (v := .int (-1)) rfl T.g_EMPTY ⟨_, rfl⟩) (nomark _)) (pss_one (ps_ret pe_non)) pss_nil) (pss_one (ps_ret (pv 3))))), ?_⟩
    clear nd
    obtain ⟨a, r, v, cs, ws, ks, y, j, rfl, hA, hS, hks, hy, hR, hK, ⟨hl, hj⟩, hC, k⟩ := h
    walk_at "rd"
    refine ⟨a, r, v, cs, ws, ks, y, j, rfl, hA, hS, hks, hy, hR, hK, ⟨hl, hj⟩, hC, fun p H' xs sm _ hp hx => ?_⟩
    obtain ⟨n0, n1, -, -⟩ := paperN_range cs ks j y
    have hxl := KysAt.len hx
    unfold paperK at hx hxl
    rw [List.length_map, List.length_range] at hxl
    obtain ⟨u, e1, hu⟩ := hx.at (i := paperN cs ks j y - 1) (k := pairAt cs j y (paperN cs ks j y - 1)) (by rw [List.getElem?_map, List.getElem?_range (by omega)]; rfl)
    obtain ⟨q, rfl, hq⟩ := pair_of hu
    walk_at "rd"
    refine ⟨xs, _, SqL.of hp, atI_last (by rw [hxl]; exact e1), ?_⟩
    walk_at "rd"
    refine ⟨_, _, SqT.of hq, rfl, ?_⟩
    walk_at "rd"
    have k' := k H' sm
    split
    · rename_i c
      unfold lastCell at k'
      rw [if_pos c] at k'
      exact k'
    · rename_i c
      unfold lastCell at k'
      rw [if_neg c] at k'
      exact k'
theorem sc_checked : FnScope ["thing"] ["thing"] (defScope s_checked) := ⟨rfl, rfl, rfl, by decide +kernel, rfl, by decide +kernel, by decide +kernel⟩
theorem ok_checked {P : Program} {w : World} {K : PySem.W.Frag} {mg : Str → Option Value} {base : Heap} {A : Ad} (T : Txt K mg A) : FnOk P w K mg base (L2.CX P w) 6 A.a_checked A.d_checked ["thing"] (spChecked A.c_NoKey) := by
  refine T.F_checked.okX sc_checked (fun vs H Q E h => ?_) (fun cdv A' outer s H vs Q E hr h => ?_)
  · exact len_checked h
  · have nd := sc_checked.nd
    have hu := hu_of hr
    refine ⟨_, (pss_cons (ps_if (pt_not (pt_val (pe_call (ok_is_key T) (hr.mono (by decide)) rfl T.m_is_key T.F_is_key.kp T.b_is_key .nil pass0 (pa_cons (pv 0) pa_nil)))) (pss_one (ps_raise rfl (takes_of rfl rfl rfl rfl) (pmk_own PySem.F.excBase_ValueError T.x_NoKey T.m_NoKey T.k_NoKey (raises_own T.eb_NoKey T.et_NoKey) rfl))) pss_nil) (pss_one (ps_ret (pv 0)))), ?_⟩
    clear nd
    obtain ⟨v, y, rfl, hy, hf, k1, k2⟩ := h
    walk_at "rd"
    refine ⟨v, y, rfl, hy, hf, ?_⟩
    walk_at "rd"
    cases e : within 3 y with
    | true => exact k1 e
    | false => exact k2 e
theorem sc_packed : FnScope ["row", "beside", "keys", "kept", "key", "thing"] ["row", "beside"] (defScope s_packed) := ⟨rfl, rfl, rfl, by decide +kernel, rfl, by decide +kernel, by decide +kernel⟩
theorem ok_packed {P : Program} {w : World} {K : PySem.W.Frag} {mg : Str → Option Value} {base : Heap} {A : Ad} (T : Txt K mg A) : FnOk P w K mg base CX0 2 A.a_packed A.d_packed ["row", "beside"] (spPacked K) := by
  refine T.F_packed.ok sc_packed (fun vs H Q E h => ?_) (fun cdv A' outer s H vs Q E hr h => ?_)
  · exact len_packed h
  · have nd := sc_packed.nd
    have hu := hu_of hr
    refine ⟨_, (pss_cons (ps_set (i := 2) nd rfl (Or.inl rfl) (pe_lst pa_nil)) (pss_cons (ps_set (i := 3) nd rfl (Or.inl rfl) (pe_lst pa_nil)) (pss_cons (ps_for PassesOwn.never rfl (RZ.pi_zipA rfl T.n_zip (pa_cons (pv 0) (pa_cons (pv 1) pa_nil))) (pg_tup (n := 2) rfl (pgs_cons (pg_name (i := 4) nd rfl (Or.inl rfl)) (pgs_cons (pg_name (i := 5) nd rfl (Or.inl rfl)) pgs_nil))) (pss_one (ps_if (pt_cmpR op_notN (pv 4) pe_non (nomark _)) (pss_cons (ps_expr (pe_bm PySem.F.plainAttrs_list PySem.F.slot_list_append PySem.F.type_list_append mt_append (pv 2) (pa_cons (pv 4) pa_nil))) (pss_one (ps_expr (pe_bm PySem.F.plainAttrs_list PySem.F.slot_list_append PySem.F.type_list_append mt_append (pv 3) (pa_cons (pv 5) pa_nil))))) pss_nil))) (pss_one (ps_ret (pe_tup (pa_cons (pv 2) (pa_cons (pv 3) pa_nil)))))))), ?_⟩
    clear nd
    obtain ⟨a, b, xs, ys, ks, us, rfl, ha, hb, hx, hy, hv, hz, hl, k⟩ := h
    have e1 := KysAt.len hx
    have e2 := KysAt.len hy
    walk_at "rd"
    refine ⟨by walk_at "sz", fun p hp => ⟨by walk_at "sz", fun p1 hp1 => ⟨xs, ys, .inl ⟨by walk_at "sq", by walk_at "sq", ?_⟩⟩⟩⟩
    have npp : p ≠ p1 := hp1.ne upd_same
    have fp1 : Fresh H p1 := Same_fresh (Same_upd (Same.refl _) hp) hp1
    refine go_zip (xs := xs) (ys := ys) (by omega) (fun i σ H' => ∃ (v4 v5 : Option V) (ws zs : List V), σ = [some (.ref a), some (.ref b), some (.ref p), some (.ref p1), v4, v5] ∧ Same H H' ∧ H' p = some (.lst ws) ∧ H' p1 = some (.lst zs) ∧ KysAt H' ws (keptK (ks.take i) (us.take i)).1 ∧ KysAt H' zs (keptK (ks.take i) (us.take i)).2 ∧ ws.length ≤ i ∧ zs.length ≤ i)
      ⟨_, _, [], [], rfl, by walk_at "same", by walk_at "hp", upd_same, .nil, .nil, Nat.le_refl _, Nat.le_refl _⟩ (fun i σ H' _ ⟨_, _, _, _, _, s, _⟩ => ⟨s.seq ha, s.seq hb⟩) ?_ ?_
    · rintro N i x y σ H' T g1 g2 ⟨v4, v5, ws, zs, rfl, sm, hL, hM, hw, hq, l1, l2⟩ hT hN
      obtain ⟨k1, hk1, hx1⟩ := hx.get g1
      obtain ⟨k2, hk2, hy1⟩ := hy.get g2
      have hi : i < ks.length := (List.getElem?_eq_some_iff.mp hk1).1
      have ek := keptK_take hk1 hk2
      walk_at "rd"
      refine ⟨_, SqT.of upd_same, rfl, ?_⟩
      walk_at "rd"
      have sT := Same_upd (o := .tup [x, y]) (Same.refl H') hT
      have hL3 := sT _ _ hL
      have hM3 := sT _ _ hM
      have hw3 := hw.same sT _ _
      have hq3 := hq.same sT _ _
      have hx3 := hx1.same (sm.trans sT) _ _
      have hy3 := hy1.same (sm.trans sT) _ _
      have sT := sm.trans sT
      generalize upd H' T (.tup [x, y]) = H3 at hL3 hM3 hw3 hq3 hx3 hy3 sT ⊢
      refine iteB (fun c => ?_) fun c => hN _ _ ⟨_, _, ws, zs, rfl, sT, hL3, hM3, ?_, ?_, by omega, by omega⟩
      · have kn : k1 ≠ .non := fun e => c (hx1.ne_non.mpr e)
        rw [if_neg kn] at ek
        refine ⟨tyL hL3, ws, hL3, by rw [sizeLine_eq]; omega, tyL (by walk_at "hp"), zs, by walk_at "hp", by rw [sizeLine_eq]; omega, ?_⟩
        have bt : But [p, p1] H3 (upd (upd H3 p (.lst (ws ++ [x]))) p1 (.lst (zs ++ [y]))) := fun bb o e n => by
          have n1 : bb ≠ p := fun q => n (by rw [q]; exact List.mem_cons_self)
          have n2 : bb ≠ p1 := fun q => n (by rw [q]; exact List.mem_cons_of_mem _ List.mem_cons_self)
          rw [upd_ne n2, upd_ne n1]
          exact e
        have nt : NoTup H3 [p, p1] := fun bb hb xs e => by
          rcases List.mem_cons.mp hb with rfl | hb
          · rw [hL3] at e; cases e
          · rcases List.mem_cons.mp hb with rfl | hb
            · rw [hM3] at e; cases e
            · cases hb
        have v1 : Ky.vals (keptK (ks.take i) (us.take i)).1 = true := vals_iff.mpr fun z hz => vals_iff.mp hv.1 z (List.mem_of_mem_take (keptK_mem _ _ z |>.1 hz))
        have v2 : Ky.vals (keptK (ks.take i) (us.take i)).2 = true := vals_iff.mpr fun z hz => vals_iff.mp hv.2 z (List.mem_of_mem_take (keptK_mem _ _ z |>.2 hz))
        refine hN _ _ ⟨_, _, ws ++ [x], zs ++ [y], rfl, Same_upd0 (Same_upd0 sT hp) fp1, by rw [upd_ne npp]; exact upd_same, upd_same, ?_, ?_, by simp; omega, by simp; omega⟩
        · rw [ek]
          exact KysAt.append (hw3.keep bt nt _ _ v1) (.cons (hx3.keep bt nt _ _ (vals_get hv.1 hk1)) .nil)
        · rw [ek]
          exact KysAt.append (hq3.keep bt nt _ _ v2) (.cons (hy3.keep bt nt _ _ (vals_get hv.2 hk2)) .nil)
      · have kn : k1 = .non := hx1.ne_non.mp (by simpa using c)
        rw [ek, if_pos kn]
        exact hw3
      · have kn : k1 = .non := hx1.ne_non.mp (by simpa using c)
        rw [ek, if_pos kn]
        exact hq3
    · rintro σ H' ⟨v4, v5, ws, zs, rfl, sm, hL, hM, hw, hq, -, -⟩
      rw [List.take_of_length_le (by omega), List.take_of_length_le (by omega)] at hw hq
      walk_at "rd"
      refine ⟨by walk_at "sz", fun t ht => ?_⟩
      have sT := Same_upd (o := .tup [V.ref p, V.ref p1]) (Same.refl H') ht
      exact k t p p1 ws zs _ (sm.trans sT) npp hp fp1 upd_same (sT _ _ hL) (sT _ _ hM) (hw.same sT _ _) (hq.same sT _ _)

end Law
namespace Law
open PySem PySem.Spec PyProof.Rows L2 My
theorem sc_Shelf___init__ : FnScope ["self", "size"] ["self", "size"] (defScope s_Shelf___init__) := ⟨rfl, rfl, rfl, by decide +kernel, rfl, by decide +kernel, by decide +kernel⟩
theorem ok_Shelf_initG {P : Program} {w : World} {K : PySem.W.Frag} {mg : Str → Option Value} {base : Heap} {A : Ad} (T : Txt K mg A) : FnOk P w K mg base CX0 7 A.a_Shelf___init__ A.d_Shelf___init__ ["self", "size"] (spInitG K) := by
  refine T.F_Shelf___init__.ok sc_Shelf___init__ (fun vs H Q E h => ?_) (fun cdv A' outer s H vs Q E hr h => ?_)
  · exact len_initG h
  · have nd := sc_Shelf___init__.nd
    have hu := hu_of hr
    refine ⟨_, (pss_cons (ps_fld (pv 0) (pe_call (ok_cells_of T) (hr.mono (by decide)) rfl T.m_cells_of T.F_cells_of.kp T.b_cells_of .nil pass0 (pa_cons (pe_lst pa_nil) (pa_cons (pv 1) pa_nil))) rfl) (pss_cons (ps_fld (pv 0) (pv 1) rfl) (pss_cons (ps_fld (pv 0) (pv 1) rfl) (pss_cons (ps_fld (pv 0) (pe_lst pa_nil) rfl) (pss_cons (ps_fld (pv 0) (pe_lst pa_nil) rfl) (pss_cons (ps_fld (pv 0) (pe_lst pa_nil) rfl) (pss_cons (ps_fld (pv 0) pe_int rfl) (pss_cons (ps_fld (pv 0) pe_int rfl) (pss_cons (ps_fld (pv 0) pe_int rfl) (pss_one (ps_fld (pv 0) pe_int rfl))))))))))), ?_⟩
    clear nd
    obtain ⟨C, a, dx, j, ck, rfl, ha, ⟨j3, j12⟩, k⟩ := h
    have k0 := cwf_nil j3 j12
    walk_at "rd"
    refine ⟨by walk_at "sz", fun p hp => ?_⟩
    refine ⟨p, [], [], j, rfl, SqL.of upd_same, .nil, (fun _ h => by cases h), ⟨j3, j12, by simp; have := (pow_le (Nat.le_refl j)).1; omega⟩, fun c H1 s1 fc hc => ?_⟩
    have s01 : Same H H1 := (Same_upd (Same.refl _) hp).trans s1
    have fc0 : Fresh H c := Same_fresh (Same_upd (Same.refl _) hp) fc
    have hA := s01 _ _ ha
    have gr1 : Gr [a] H H1 := Gr.of s01
    have nca : c ≠ a := (fc0.ne ha).symm
    have fs : ∀ (X : Hp) (o : HO), upd X a o a = some o := fun X o => upd_same
    refine setAt_go (gs := ([("cells", .ref c)] : List (Str × V))) hA ck.cls ck.cells (by simp) (by with_unfolding_all rfl) fun H2 e2 hA => ?_
    have hc2 : H2 c = some (.lst ((layN j [] 0).map V.int)) := by rw [e2, upd_ne nca]; exact hc
    have gr2 : Gr [a] H H2 := by rw [e2]; exact gr1.put (by simp)
    clear e2
    refine setAt_go (gs := ([("cells", .ref c), ("size", .int (2 ^ j))] : List (Str × V))) hA ck.cls ck.size (by simp) (by with_unfolding_all rfl) fun H3 e3 hA => ?_
    refine setAt_go (gs := ([("cells", .ref c), ("size", .int (2 ^ j)), ("least", .int (2 ^ j))] : List (Str × V))) hA ck.cls ck.least (by simp) (by with_unfolding_all rfl) fun H4 e4 hA => ?_
    have hc4 : H4 c = some (.lst ((layN j [] 0).map V.int)) := by rw [e4, e3, upd_ne nca, upd_ne nca]; exact hc2
    have gr4 : Gr [a] H H4 := by rw [e4, e3]; exact (gr2.put (by simp)).put (by simp)
    clear e3 e4
    refine ⟨by walk_at "sz", fun r hr1 => ?_⟩
    have nrc : c ≠ r := hr1.ne hc4
    have nra : a ≠ r := hr1.ne hA
    have hA5 : upd H4 r (.lst []) a = _ := (upd_ne nra).trans hA
    refine setAt_go (gs := ([("cells", .ref c), ("size", .int (2 ^ j)), ("least", .int (2 ^ j)), ("row", .ref r)] : List (Str × V))) hA5 ck.cls ck.row (by simp) (by with_unfolding_all rfl) fun H6 e6 hA => ?_
    have hc6 : H6 c = some (.lst ((layN j [] 0).map V.int)) := by rw [e6, upd_ne nca, upd_ne nrc]; exact hc4
    have hr6 : H6 r = some (.lst []) := by rw [e6, upd_ne nra.symm]; exact upd_same
    have fr0 : Fresh H r := gr4.free _ hr1
    have gr6 : Gr [a] H H6 := by rw [e6]; exact (gr4.new fr0).put (by simp)
    clear e6 hA5
    refine ⟨by walk_at "sz", fun h' hh1 => ?_⟩
    have nhc : c ≠ h' := hh1.ne hc6
    have nha : a ≠ h' := hh1.ne hA
    have nhr : r ≠ h' := hh1.ne hr6
    have hA7 : upd H6 h' (.lst []) a = _ := (upd_ne nha).trans hA
    refine setAt_go (gs := ([("cells", .ref c), ("size", .int (2 ^ j)), ("least", .int (2 ^ j)), ("row", .ref r), ("held", .ref h')] : List (Str × V))) hA7 ck.cls ck.held (by simp) (by with_unfolding_all rfl) fun H8 e8 hA => ?_
    have hc8 : H8 c = some (.lst ((layN j [] 0).map V.int)) := by rw [e8, upd_ne nca, upd_ne nhc]; exact hc6
    have hr8 : H8 r = some (.lst []) := by rw [e8, upd_ne nra.symm, upd_ne nhr]; exact hr6
    have hh8 : H8 h' = some (.lst []) := by rw [e8, upd_ne nha.symm]; exact upd_same
    have fh0 : Fresh H h' := gr6.free _ hh1
    have gr8 : Gr [a] H H8 := by rw [e8]; exact (gr6.new fh0).put (by simp)
    clear e8 hA7
    refine ⟨by walk_at "sz", fun b' hb1 => ?_⟩
    have nbc : c ≠ b' := hb1.ne hc8
    have nba : a ≠ b' := hb1.ne hA
    have nbr : r ≠ b' := hb1.ne hr8
    have nbh : h' ≠ b' := hb1.ne hh8
    have hA9 : upd H8 b' (.lst []) a = _ := (upd_ne nba).trans hA
    refine setAt_go (gs := ([("cells", .ref c), ("size", .int (2 ^ j)), ("least", .int (2 ^ j)), ("row", .ref r), ("held", .ref h'), ("born", .ref b')] : List (Str × V))) hA9 ck.cls ck.born (by simp) (by with_unfolding_all rfl) fun H10 e10 hA => ?_
    have hc10 : H10 c = some (.lst ((layN j [] 0).map V.int)) := by rw [e10, upd_ne nca, upd_ne nbc]; exact hc8
    have hr10 : H10 r = some (.lst []) := by rw [e10, upd_ne nra.symm, upd_ne nbr]; exact hr8
    have hh10 : H10 h' = some (.lst []) := by rw [e10, upd_ne nha.symm, upd_ne nbh]; exact hh8
    have hb10 : H10 b' = some (.lst []) := by rw [e10, upd_ne nba.symm]; exact upd_same
    have fb0 : Fresh H b' := gr8.free _ hb1
    have gr10 : Gr [a] H H10 := by rw [e10]; exact (gr8.new fb0).put (by simp)
    clear e10 hA9
    refine setAt_go (gs := ([("cells", .ref c), ("size", .int (2 ^ j)), ("least", .int (2 ^ j)), ("row", .ref r), ("held", .ref h'), ("born", .ref b'), ("comings", .int 0)] : List (Str × V))) hA ck.cls ck.comings (by simp) (by with_unfolding_all rfl) fun H11 e11 hA => ?_
    refine setAt_go (gs := ([("cells", .ref c), ("size", .int (2 ^ j)), ("least", .int (2 ^ j)), ("row", .ref r), ("held", .ref h'), ("born", .ref b'), ("comings", .int 0), ("goings", .int 0)] : List (Str × V))) hA ck.cls ck.goings (by simp) (by with_unfolding_all rfl) fun H12 e12 hA => ?_
    refine setAt_go (gs := ([("cells", .ref c), ("size", .int (2 ^ j)), ("least", .int (2 ^ j)), ("row", .ref r), ("held", .ref h'), ("born", .ref b'), ("comings", .int 0), ("goings", .int 0), ("tidied", .int 0)] : List (Str × V))) hA ck.cls ck.tidied (by simp) (by with_unfolding_all rfl) fun H13 e13 hA => ?_
    refine setAt_go (gs := shF .no c r h' b' (Sh.new j)) hA ck.cls ck.moved (by simp) (by with_unfolding_all rfl) fun H14 e14 hA => ?_
    have oth : ∀ x, x ≠ a → H14 x = H10 x := fun x n => by rw [e14, e13, e12, e11, upd_ne n, upd_ne n, upd_ne n, upd_ne n]
    have gr14 : Gr [a] H H14 := by rw [e14, e13, e12, e11]; exact (((gr10.put (by simp)).put (by simp)).put (by simp)).put (by simp)
    refine k H14 [a, c, r, h', b'] gr14 (fun x hx => ?_) ⟨dx, c, r, h', b', [], [], rfl, ⟨hA, by rw [oth c nca]; exact hc10, by rw [oth r nra.symm]; exact hr10, by rw [oth h' nha.symm]; exact hh10, by rw [oth b' nba.symm]; exact hb10, .nil, .nil, rfl, rfl, ⟨nrc, nhc, nbc, nhr, nbr, nbh⟩⟩, Sh.new_ok j3 j12⟩
    simp only [List.mem_cons, List.not_mem_nil, or_false] at hx
    rcases hx with rfl | rfl | rfl | rfl | rfl
    · exact .inl (by simp)
    · exact .inr fc0
    · exact .inr fr0
    · exact .inr fh0
    · exact .inr fb0
theorem sc_Table___init__ : FnScope ["self"] ["self"] (defScope s_Table___init__) := ⟨rfl, rfl, rfl, by decide +kernel, rfl, by decide +kernel, by decide +kernel⟩
theorem ok_Table___init__ {P : Program} {w : World} {K : PySem.W.Frag} {mg : Str → Option Value} {base : Heap} {A : Ad} (T : Txt K mg A) : FnOk P w K mg base CX0 8 A.a_Table___init__ A.d_Table___init__ ["self"] (spInitT A.c_Table) := by
  refine T.F_Table___init__.ok sc_Table___init__ (fun vs H Q E h => ?_) (fun cdv A' outer s H vs Q E hr h => ?_)
  · exact len_initT h
  · have nd := sc_Table___init__.nd
    have hu := hu_of hr
    refine ⟨_, (pss_one (ps_expr (pe_cfun (pe_glob (v := .ref A.c_Shelf) rfl T.m_Shelf rfl) T.cr_Shelf T.cf_Shelf_init__ T.F_Shelf___init__.kp (ok_Shelf_initG T) (hr.mono (by decide)) T.b_Shelf___init___2.choose_spec.2 T.b_Shelf___init___2.choose_spec.1 pass0 (pa_cons (pv 0) (pa_cons (pe_glob (v := .int 8) rfl T.g_LEAST ⟨_, rfl⟩) pa_nil))))), ?_⟩
    clear nd
    obtain ⟨a, dx, rfl, ha, k⟩ := h
    walk_at "rd"
    exact ⟨_, a, dx, 3, T.shC_Table, rfl, ha, by decide, fun H' fp gr sb hS => k H' fp gr sb hS⟩

end Law
namespace Law
open PySem PySem.Spec PyProof.Rows L2 My
theorem sc_Shelf_relay : FnScope ["self"] ["self"] (defScope s_Shelf_relay) := ⟨rfl, rfl, rfl, by decide +kernel, rfl, by decide +kernel, by decide +kernel⟩
theorem ok_Table_relay {P : Program} {w : World} {K : PySem.W.Frag} {mg : Str → Option Value} {base : Heap} {A : Ad} (T : Txt K mg A) : FnOk P w K mg base CX0 7 A.a_Shelf_relay A.d_Shelf_relay ["self"] (spRelay A.c_Table) := by
  refine T.F_Shelf_relay.ok sc_Shelf_relay (fun vs H Q E h => ?_) (fun cdv A' outer s H vs Q E hr h => ?_)
  · exact len_relay h
  · have nd := sc_Shelf_relay.nd
    have hu := hu_of hr
    refine ⟨_, (pss_one (ps_fld (pv 0) (pe_call (ok_cells_of T) (hr.mono (by decide)) rfl T.m_cells_of T.F_cells_of.kp T.b_cells_of .nil pass0 (pa_cons (pe_fld (pv 0) rfl) (pa_cons (pe_fld (pv 0) rfl) pa_nil))) rfl)), ?_⟩
    clear nd
    obtain ⟨a, dx, p, c, r, hh, b, S, ws, us, rfl, g, hR, ⟨j3, j12⟩, hl, k⟩ := h
    have ga := g.ha
    walk_at "rd"
    simp only [My.fld_row (T.shC_Table) ga, My.fld_size (T.shC_Table) ga]
    walk_at "rd"
    refine ⟨r, ws, S.row, S.j, rfl, SqL.of g.hr, g.kr, hR, ⟨j3, j12, hl⟩, fun c' H1 s1 fc hc => ?_⟩
    have g1 := g.ext s1
    have ga1 := g1.ha
    dsimp only
    rw [set_cells T.shC_Table (cs := layN S.j S.row S.row.length) ga1]
    have g2 := g1.reC (c' := c') (cs := layN S.j S.row S.row.length) hc ⟨(fc.ne g.hr).symm, (fc.ne g.hh).symm, (fc.ne g.hb).symm⟩
    exact k _ c' ((Gr.of s1).put (by simp)) fc g2
theorem sc_Table_make_room : FnScope ["self", "row", "held", "born"] ["self"] (defScope s_Table_make_room) := ⟨rfl, rfl, rfl, by decide +kernel, rfl, by decide +kernel, by decide +kernel⟩
theorem ok_Table_make_room {P : Program} {w : World} {K : PySem.W.Frag} {mg : Str → Option Value} {base : Heap} {A : Ad} (T : Txt K mg A) : FnOk P w K mg base CX0 8 A.a_Table_make_room A.d_Table_make_room ["self"] (spRoomT A.c_Table) := by
  refine T.F_Table_make_room.ok sc_Table_make_room (fun vs H Q E h => ?_) (fun cdv A' outer s H vs Q E hr h => ?_)
  · exact len_roomT h
  · have nd := sc_Table_make_room.nd
    have hu := hu_of hr
    refine ⟨_, (pss_cons (ps_asg (pe_call (ok_packed T) (hr.mono (by decide)) rfl T.m_packed T.F_packed.kp T.b_packed .nil pass0 (pa_cons (pe_fld (pv 0) rfl) (pa_cons (pe_fld (pv 0) rfl) pa_nil))) (pg_tup (n := 2) rfl (pgs_cons (pg_name (i := 1) nd rfl (Or.inl rfl)) (pgs_cons (pg_name (i := 2) nd rfl (Or.inl rfl)) pgs_nil)))) (pss_cons (ps_asg (pe_call (ok_packed T) (hr.mono (by decide)) rfl T.m_packed T.F_packed.kp T.b_packed .nil pass0 (pa_cons (pe_fld (pv 0) rfl) (pa_cons (pe_fld (pv 0) rfl) pa_nil))) (pg_tup (n := 2) rfl (pgs_cons (pg_name (i := 1) nd rfl (Or.inl rfl)) (pgs_cons (pg_name (i := 3) nd rfl (Or.inl rfl)) pgs_nil)))) (pss_cons (ps_fld (pv 0) (pv 1) rfl) (pss_cons (ps_fld (pv 0) (pv 2) rfl) (pss_cons (ps_fld (pv 0) (pv 3) rfl) (pss_cons (ps_fld (pv 0) (pe_call (ok_size_for T) (hr.mono (by decide)) rfl T.m_size_for T.F_size_for.kp T.b_size_for .nil pass0 (pa_cons (pe_callB call_lenU rfl T.n_len PySem.boot_len (pa_cons (pv 1) pa_nil)) pa_nil)) rfl) (pss_cons (ps_expr (pe_meth0 (pv 0) T.cl_Table T.me_Table_relay (ok_Table_relay T) (hr.mono (by decide)) T.b_Shelf_relay .nil pass0)) (pss_cons (ps_fldaug (pv 0) pe_int in_add) (pss_one (ps_fldaug (pv 0) (pe_callB call_lenU rfl T.n_len PySem.boot_len (pa_cons (pv 1) pa_nil)) in_add)))))))))), ?_⟩
    clear nd
    obtain ⟨a, p, fp, S, rfl, hS, ln, k⟩ := h
    obtain ⟨dx, c, r, hh, b, ws, us, rfl, g, ok⟩ := hS
    have ga := g.ha
    have hl := ok.hl
    have hb := ok.bl
    have lt := ok.cw.lt
    have e1 := keptK_lv S.row S.held
    have e2 : (keptK S.row (S.born.map Ky.num)).1 = S.lv.map Prod.fst := by rw [kept1_eq S.row S.held S.born hl hb, e1]; rfl
    have e3 := keptI_nums S.row S.born
    walk_at "rd"
    simp only [My.fld_row (T.shC_Table) ga, My.fld_held (T.shC_Table) ga]
    walk_at "rd"
    refine ⟨r, hh, ws, us, S.row, S.held, rfl, SqL.of g.hr, SqL.of g.hh, g.kr, g.kh, ⟨g.vr, g.vh⟩, by omega, hl.symm, fun t1 r1 h1 wr1 wh1 H1 s1 n1 fr1 fh1 ht1 hr1 hh1 kr1 kh1 => ?_⟩
    rw [e1] at kr1 kh1
    have g1 := g.ext s1
    have ga1 := g1.ha
    walk_at "rd"
    refine ⟨_, SqT.of ht1, rfl, ?_⟩
    walk_at "rd"
    simp only [My.fld_row (T.shC_Table) ga1, My.fld_born (T.shC_Table) ga1]
    walk_at "rd"
    refine ⟨r, b, ws, S.born.map V.int, S.row, S.born.map Ky.num, rfl, SqL.of g1.hr, SqL.of g1.hb, g1.kr, nums_at _, ⟨g.vr, vals_nums _⟩, by omega, by rw [List.length_map]; omega, fun t2 r2 b2 wr2 wb2 H2 s2 n2 fr2 fb2 ht2 hr2 hb2 kr2 kb2 => ?_⟩
    rw [e2] at kr2
    rw [e3] at kb2
    have eb := kys_ints kb2
    subst eb
    walk_at "rd"
    refine ⟨_, SqT.of ht2, rfl, ?_⟩
    walk_at "rd"
    have g2 := g1.ext s2
    have ga2 := g2.ha
    have v1 : Ky.vals (S.lv.map Prod.fst) = true := vals_iff.mpr fun q hq => by
      obtain ⟨x, hx, rfl⟩ := List.mem_map.mp hq
      exact vals_iff.mp g.vr _ (lvP_key hx).1
    have v2 : Ky.vals (S.lv.map Prod.snd) = true := vals_iff.mpr fun q hq => by
      obtain ⟨x, hx, rfl⟩ := List.mem_map.mp hq
      exact vals_iff.mp g.vh _ (lvP_key hx).2.1
    have rk : RowOk (S.lv.map Prod.fst) := fun q hq => by
      obtain ⟨x, hx, rfl⟩ := List.mem_map.mp hq
      exact ok.cw.rok _ (lvP_key hx).1
    have lw2 := KysAt.len kr2
    rw [List.length_map] at lw2
    have nt : ∀ {S' : Sh} {c r h b : Addr} xs, HO.ins A.c_Table dx (shF p c r h b S') ≠ .tup xs := fun _ z => by cases z
    have gr2 : Gr [a] H H2 := Gr.of (s1.trans s2)
    have hh2 := s2 _ _ hh1
    have kh2 : KysAt H2 wh1 (S.lv.map Prod.snd) := kh1.same s2 _ _
    have na : a ≠ h1 := fh1.ne g.ha
    have nb : a ≠ b2 := fb2.ne g1.ha
    rw [set_row T.shC_Table (ks := S.lv.map Prod.fst) ga2]
    have g3 := g2.reR (ks := S.lv.map Prod.fst) hr2 v1 kr2 ⟨fr2.ne g1.hc, (fr2.ne g1.hh).symm, (fr2.ne g1.hb).symm⟩
    have gr3 : Gr [a] H (upd H2 a (.ins A.c_Table dx (shF p c r2 hh b { S with row := S.lv.map Prod.fst }))) := gr2.put (by simp)
    have hh3 : upd H2 a (.ins A.c_Table dx (shF p c r2 hh b { S with row := S.lv.map Prod.fst })) h1 = some (.lst wh1) := by rw [upd_ne na.symm]; exact hh2
    have hb3 : upd H2 a (.ins A.c_Table dx (shF p c r2 hh b { S with row := S.lv.map Prod.fst })) b2 = some (.lst ((keptI S.row S.born).map V.int)) := by rw [upd_ne nb.symm]; exact hb2
    have kh3 : KysAt (upd H2 a (.ins A.c_Table dx (shF p c r2 hh b { S with row := S.lv.map Prod.fst }))) wh1 (S.lv.map Prod.snd) := kys_upd ga2 nt v2 kh2
    generalize upd H2 a (.ins A.c_Table dx (shF p c r2 hh b { S with row := S.lv.map Prod.fst })) = H3 at g3 gr3 hh3 hb3 kh3 ⊢
    rw [set_held T.shC_Table (ks := S.lv.map Prod.snd) g3.ha]
    have g4 := g3.reH (ks := S.lv.map Prod.snd) hh3 v2 kh3 ⟨fh1.ne g.hc, (fr2.ne hh1).symm, (fh1.ne g.hb).symm⟩
    have gr4 : Gr [a] H (upd H3 a (.ins A.c_Table dx (shF p c r2 h1 b { S with row := S.lv.map Prod.fst, held := S.lv.map Prod.snd }))) := gr3.put (by simp)
    have hb4 : upd H3 a (.ins A.c_Table dx (shF p c r2 h1 b { S with row := S.lv.map Prod.fst, held := S.lv.map Prod.snd })) b2 = some (.lst ((keptI S.row S.born).map V.int)) := by rw [upd_ne nb.symm]; exact hb3
    generalize upd H3 a (.ins A.c_Table dx (shF p c r2 h1 b { S with row := S.lv.map Prod.fst, held := S.lv.map Prod.snd })) = H4 at g4 gr4 hb4 ⊢
    rw [set_born T.shC_Table (cs := keptI S.row S.born) g4.ha]
    have g5 := g4.reB (cs := keptI S.row S.born) hb4 ⟨fb2.ne g1.hc, n2, fb2.ne hh1⟩
    have gr5 : Gr [a] H (upd H4 a (.ins A.c_Table dx (shF p c r2 h1 b2 { S with row := S.lv.map Prod.fst, held := S.lv.map Prod.snd, born := keptI S.row S.born }))) := gr4.put (by simp)
    generalize upd H4 a (.ins A.c_Table dx (shF p c r2 h1 b2 { S with row := S.lv.map Prod.fst, held := S.lv.map Prod.snd, born := keptI S.row S.born })) = H5 at g5 gr5 ⊢
    refine ⟨_, .inl (SqL.of g5.hr), _, rfl, ⟨by omega, by omega⟩, fun j jr q1 q2 => ?_⟩
    rw [lw2] at q1 q2
    have ej := szJ_at jr q1 q2
    subst ej
    rw [set_size T.shC_Table g5.ha]
    have g6 := g5.fldU (S' := { S with row := S.lv.map Prod.fst, held := S.lv.map Prod.snd, born := keptI S.row S.born, j := szJ S.lv.length })
    have gr6 : Gr [a] H (upd H5 a (.ins A.c_Table dx (shF p c r2 h1 b2 { S with row := S.lv.map Prod.fst, held := S.lv.map Prod.snd, born := keptI S.row S.born, j := szJ S.lv.length }))) := gr5.put (by simp)
    generalize upd H5 a (.ins A.c_Table dx (shF p c r2 h1 b2 { S with row := S.lv.map Prod.fst, held := S.lv.map Prod.snd, born := keptI S.row S.born, j := szJ S.lv.length })) = H6 at g6 gr6 ⊢
    refine ⟨⟨_, _, g6.ha, by cases p <;> with_unfolding_all rfl⟩, a, dx, p, c, r2, h1, b2, _, _, _, rfl, g6, rk, szJ_range _, ?_, fun H7 c' gr7 fc g7 => ?_⟩
    · show (((S.lv.map Prod.fst).length : Nat) : Int) ≤ 2 * 2 ^ szJ S.lv.length / 3
      rw [List.length_map]
      exact Int.le_of_lt (szJ_room ln)
    dsimp only at g7 ⊢
    rw [aug_tidied T.shC_Table g7.ha]
    have g8 := g7.fldU (S' := { S with row := S.lv.map Prod.fst, held := S.lv.map Prod.snd, born := keptI S.row S.born, j := szJ S.lv.length, cells := layN (szJ S.lv.length) (S.lv.map Prod.fst) (S.lv.map Prod.fst).length, tid := S.tid + 1 })
    have gr8 : Gr [a] H (upd H7 a (.ins A.c_Table dx (shF p c' r2 h1 b2 { S with row := S.lv.map Prod.fst, held := S.lv.map Prod.snd, born := keptI S.row S.born, j := szJ S.lv.length, cells := layN (szJ S.lv.length) (S.lv.map Prod.fst) (S.lv.map Prod.fst).length, tid := S.tid + 1 }))) := (gr6.trans gr7).put (by simp)
    generalize upd H7 a (.ins A.c_Table dx (shF p c' r2 h1 b2 { S with row := S.lv.map Prod.fst, held := S.lv.map Prod.snd, born := keptI S.row S.born, j := szJ S.lv.length, cells := layN (szJ S.lv.length) (S.lv.map Prod.fst) (S.lv.map Prod.fst).length, tid := S.tid + 1 })) = H8 at g8 gr8 ⊢
    unfold My.AugAt
    refine ⟨_, _, _, _, g8.ha, T.shC_Table.cls, T.shC_Table.moved, by cases p <;> with_unfolding_all rfl, ?_⟩
    walk_at "rd"
    refine ⟨_, .inl (SqL.of g8.hr), _, _, rfl, rfl, _, _, g8.ha, shF_len, ?_⟩
    have ep : ∀ (c r h b : Addr) (S : Sh) (n : Int), putF (Str.ofString "moved") (.int (S.mov + n)) (shF p c r h b S) = shF p c r h b { S with mov := S.mov + n } := fun _ _ _ _ _ _ => by cases p <;> with_unfolding_all rfl
    have g9 := g8.fldU (S' := S.tidy) rfl rfl rfl (by unfold Sh.tidy; dsimp only; rw [List.length_map])
    have e9 : shF p c' r2 h1 b2 S.tidy = putF (Str.ofString "moved") (.int (S.mov + (wr2.length : Nat))) (shF p c' r2 h1 b2 { S with row := S.lv.map Prod.fst, held := S.lv.map Prod.snd, born := keptI S.row S.born, j := szJ S.lv.length, cells := layN (szJ S.lv.length) (S.lv.map Prod.fst) (S.lv.map Prod.fst).length, tid := S.tid + 1 }) := by
      rw [lw2]
      cases p <;> with_unfolding_all rfl
    rw [e9] at g9
    refine k _ [a, c', r2, h1, b2] ((gr8.put (by simp)).mono (by simp)) (fun x hx => ?_) ⟨dx, c', r2, h1, b2, _, _, rfl, g9, ok.tidy ln⟩
    simp only [List.mem_cons, List.not_mem_nil, or_false] at hx
    rcases hx with rfl | rfl | rfl | rfl | rfl
    · exact .inl (by simp)
    · exact .inr (gr6.free _ fc)
    · exact .inr (Same_fresh s1 fr2)
    · exact .inr fh1
    · exact .inr (Same_fresh s1 fb2)

end Law
namespace Law
open PySem PySem.Spec PyProof.Rows L2 My
theorem sc_Shelf_find : FnScope ["self", "key"] ["self", "key"] (defScope s_Shelf_find) := ⟨rfl, rfl, rfl, by decide +kernel, rfl, by decide +kernel, by decide +kernel⟩
theorem ok_Table_find {P : Program} {w : World} {K : PySem.W.Frag} {mg : Str → Option Value} {base : Heap} {A : Ad} (T : Txt K mg A) : FnOk P w K mg base CX0 7 A.a_Shelf_find A.d_Shelf_find ["self", "key"] (spFind A.c_Table) := by
  refine T.F_Shelf_find.ok sc_Shelf_find (fun vs H Q E h => ?_) (fun cdv A' outer s H vs Q E hr h => ?_)
  · exact len_find h
  · have nd := sc_Shelf_find.nd
    have hu := hu_of hr
    refine ⟨_, (pss_one (ps_ret (pe_call (ok_place_of T) (hr.mono (by decide)) rfl T.m_place_of T.F_place_of.kp T.b_place_of .nil pass0 (pa_cons (pe_fld (pv 0) rfl) (pa_cons (pe_fld (pv 0) rfl) (pa_cons (pv 1) pa_nil)))))), ?_⟩
    clear nd
    obtain ⟨a, p, fp, S, v, y, rfl, hS, hy, yk, k⟩ := h
    obtain ⟨dx, c, r, hh, b, ws, us, rfl, g, ok⟩ := hS
    have ga := g.ha
    walk_at "rd"
    simp only [My.fld_cells (T.shC_Table) ga, My.fld_row (T.shC_Table) ga]
    have lp := ok.cw.last_place (y := y)
    refine ⟨_, _, _, S.cells, ws, S.row, y, S.j, rfl, SqL.of g.hc, SqL.of g.hr, g.kr, hy, ok.cw.rok, yk, ⟨ok.cw.len, ok.cw.j12⟩, ok.cw.ok, fun H' s => ?_⟩
    rw [lp]
    exact k H' s
theorem sc_Shelf_lay : FnScope ["self", "key", "place"] ["self", "key", "place"] (defScope s_Shelf_lay) := ⟨rfl, rfl, rfl, by decide +kernel, rfl, by decide +kernel, by decide +kernel⟩
theorem ok_Table_lay {P : Program} {w : World} {K : PySem.W.Frag} {mg : Str → Option Value} {base : Heap} {A : Ad} (T : Txt K mg A) : FnOk P w K mg base CX0 6 A.a_Shelf_lay A.d_Shelf_lay ["self", "key", "place"] (spLay A.c_Table) := by
  refine T.F_Shelf_lay.ok sc_Shelf_lay (fun vs H Q E h => ?_) (fun cdv A' outer s H vs Q E hr h => ?_)
  · exact len_lay h
  · have nd := sc_Shelf_lay.nd
    have hu := hu_of hr
    refine ⟨_, (pss_one (ps_asg (pv 2) (pg_sub (pe_fld (pv 0) rfl) (pe_ix ix_tup (pe_ix ix_list (pe_call (ok_paper T) (hr.mono (by decide)) rfl T.m_paper_slots T.F_paper.kp T.b_paper .nil pass0 (pa_cons (pe_fld (pv 0) rfl) (pa_cons (pe_fld (pv 0) rfl) (pa_cons (pv 1) pa_nil)))) (pe_un un_neg pe_int) (fun _ _ => rfl)) pe_int (fun _ _ => rfl)) set_list))), ?_⟩
    clear nd
    obtain ⟨a, dx, p, c, r, hh, b, S, ws, us, v, y, q, rfl, g, cw, hy, yk, k⟩ := h
    have ga := g.ha
    walk_at "rd"
    simp only [My.fld_cells (T.shC_Table) ga, My.fld_row (T.shC_Table) ga]
    walk_at "rd"
    refine ⟨_, _, _, S.cells, ws, S.row, y, S.j, rfl, SqL.of g.hc, SqL.of g.hr, g.kr, hy, cw.rok, yk, ⟨cw.len, cw.j12⟩, cw.ok, fun L H' xs s _ hp hx => ?_⟩
    obtain ⟨n0, n1, -, -⟩ := paperN_range S.cells S.row S.j y
    have hxl := KysAt.len hx
    unfold paperK at hx hxl
    rw [List.length_map, List.length_range] at hxl
    obtain ⟨u, e1, hu⟩ := hx.at (i := paperN S.cells S.row S.j y - 1) (k := pairAt S.cells S.j y (paperN S.cells S.row S.j y - 1)) (by rw [List.getElem?_map, List.getElem?_range (by omega)]; rfl)
    obtain ⟨t, rfl, ht⟩ := pair_of hu
    obtain ⟨r0, r1⟩ := probe_range y.stamp ((paperN S.cells S.row S.j y - 1 : Nat) : Int) cw.j12
    have hl := cw.len
    have pc := pow_cast S.j
    walk_at "rd"
    refine ⟨xs, _, SqL.of hp, atI_last (by rw [hxl]; exact e1), ?_⟩
    walk_at "rd"
    refine ⟨_, _, SqT.of ht, rfl, ?_⟩
    walk_at "rd"
    refine ⟨_, _, s _ _ g.hc, ixN_nat r0 (by rw [List.length_map]; omega), ?_⟩
    have k' := k H' s
    unfold lastSlot at k'
    rw [List.map_set] at k'
    exact k'
theorem sc_Shelf_put : FnScope ["self", "key", "value", "place"] ["self", "key", "value"] (defScope s_Shelf_put) := ⟨rfl, rfl, rfl, by decide +kernel, rfl, by decide +kernel, by decide +kernel⟩
theorem ok_Table_put {P : Program} {w : World} {K : PySem.W.Frag} {mg : Str → Option Value} {base : Heap} {A : Ad} (T : Txt K mg A) : FnOk P w K mg base (L2.CX P w) 9 A.a_Shelf_put A.d_Shelf_put ["self", "key", "value"] (spPutT A.c_Table A.c_NoKey) := by
  refine T.F_Shelf_put.okX sc_Shelf_put (fun vs H Q E h => ?_) (fun cdv A' outer s H vs Q E hr h => ?_)
  · exact len_putT h
  · have nd := sc_Shelf_put.nd
    have hu := hu_of hr
    refine ⟨_, (pss_cons (ps_set (i := 3) nd rfl (Or.inl rfl) (pe_meth (pv 0) T.cl_Table T.me_Table_find (ok_Table_find T) (hr.mono (by decide)) T.b_Shelf_find .nil pass0 (pa_cons (pe_call (ok_checked T) (hr.mono (by decide)) rfl T.m_checked T.F_checked.kp T.b_checked .nil (passes_call (takes_of rfl rfl rfl rfl) fun _ _ _ _ h => h) (pa_cons (pv 1) pa_nil)) pa_nil))) (pss_cons (ps_if (pt_cmpR op_notN (pv 3) pe_non (nomark _)) (pss_cons (ps_asg (pv 2) (pg_sub (pe_fld (pv 0) rfl) (pv 3) set_list)) (pss_one (ps_ret pe_bl))) pss_nil) (C8.pss_cut (ps_if (pt_cmpR op_ge (pe_callB call_lenU rfl T.n_len PySem.boot_len (pa_cons (pe_fld (pv 0) rfl) pa_nil)) (pe_call (ok_room T) (hr.mono (by decide)) rfl T.m_room T.F_room.kp T.b_room .nil pass0 (pa_cons (pe_fld (pv 0) rfl) pa_nil)) (nomark _)) (pss_one (ps_expr (pe_meth0 (pv 0) T.cl_Table T.me_Table_make_room (ok_Table_make_room T) (hr.mono (by decide)) T.b_Table_make_room .nil pass0))) pss_nil) (pss_cons (ps_expr (pe_meth (pv 0) T.cl_Table T.me_Table_lay (ok_Table_lay T) (hr.mono (by decide)) T.b_Shelf_lay .nil pass0 (pa_cons (pv 1) (pa_cons (pe_callB call_lenU rfl T.n_len PySem.boot_len (pa_cons (pe_fld (pv 0) rfl) pa_nil)) pa_nil)))) (pss_cons (ps_expr (pe_bm PySem.F.plainAttrs_list PySem.F.slot_list_append PySem.F.type_list_append mt_append (pe_fld (pv 0) rfl) (pa_cons (pv 1) pa_nil))) (pss_cons (ps_expr (pe_bm PySem.F.plainAttrs_list PySem.F.slot_list_append PySem.F.type_list_append mt_append (pe_fld (pv 0) rfl) (pa_cons (pv 2) pa_nil))) (pss_cons (ps_fldaug (pv 0) pe_int in_add) (pss_cons (ps_expr (pe_bm PySem.F.plainAttrs_list PySem.F.slot_list_append PySem.F.type_list_append mt_append (pe_fld (pv 0) rfl) (pa_cons (pe_fld (pv 0) rfl) pa_nil))) (pss_one (ps_ret pe_bl)))))))))), ?_⟩
    clear nd
    obtain ⟨a, p, fp, S, v, y, u, z, rfl, hS, hy, hf, hw, hu, hz, ln, k1, k2⟩ := h
    have HS := hS
    obtain ⟨dx, c, r, hh, b, ws, us, rfl, g, ok⟩ := hS
    have ga := g.ha
    walk_at "rd"
    refine ⟨⟨_, _, ga, by cases p <;> with_unfolding_all rfl⟩, v, y, rfl, hy, hf, fun e => ?_, k1⟩
    have yk := hw e
    have k := k2 yk
    refine ⟨a, p, _, S, v, y, rfl, HS, hy, yk, fun H1 s1 => ?_⟩
    have g1 := g.ext s1
    have ga1 := g1.ha
    have hy1 := hy.same s1 _ _
    have hu1 := hu.same s1 _ _
    unfold Sh.putT at k
    have lw := KysAt.len g.kr
    have lu := KysAt.len g.kh
    have hhl := ok.hl
    have lt := ok.cw.lt
    cases ef : S.find y with
    | some q =>
      rw [ef] at k
      dsimp only at k
      simp only [optV]
      walk_at "rd"
      refine iteP (by simp) ?_
      simp only [My.fld_held (T.shC_Table) ga1]
      walk_at "rd"
      have hq := (List.getElem?_eq_some_iff.mp ((ok.find_some yk.ne_non).mp ef)).1
      refine ⟨_, _, g1.hh, ixN_nat (by omega) (by omega), ?_⟩
      walk_at "rd"
      have g2 := g1.heldU (us' := us.set q u) (ks := S.held.set q z) (vals_set g.vh hz.1) (g1.kh.set hu1)
      exact k _ [a, c, r, hh, b] (((Gr.of s1).put (by simp))) Sub.refl ⟨dx, c, r, hh, b, _, _, rfl, g2, ok.hold hz⟩
    | none =>
      rw [ef] at k
      dsimp only at k
      have nin := (ok.find_none yk.ne_non).mp ef
      walk_at "rd"
      refine iteN (by simp [optV]) ?_
      refine ⟨fun σ H' => σ = [some (.ref a), some v, some u, some .non] ∧ ∃ fp' S1, Gr [a, c, r, hh, b] H H' ∧ Sub fp' [a, c, r, hh, b] H ∧ ShAt H' A.c_Table a p fp' S1 ∧ S1.full = false ∧ y ∉ S1.row ∧ ∀ H'' fp'', Gr [a, c, r, hh, b] H H'' → Sub fp'' [a, c, r, hh, b] H → ShAt H'' A.c_Table a p fp'' (S1.come y z) → Q (.bl true) H'', ?_, ?_⟩
      · simp only [My.fld_row (T.shC_Table) ga1]
        walk_at "rd"
        refine ⟨_, .inl (SqL.of g1.hr), ?_⟩
        simp only [My.fld_size (T.shC_Table) ga1]
        walk_at "rd"
        refine iteB (fun cf => ?_) fun cf => ?_
        · have ef2 : S.full = true := decide_eq_true (by omega)
          rw [ef2, if_pos rfl] at k
          refine ⟨⟨_, _, ga1, by cases p <;> with_unfolding_all rfl⟩, a, p, _, S, rfl, ⟨dx, c, r, hh, b, ws, us, rfl, g1, ok⟩, ln, fun H2 fp2 gr2 sb2 hS2 => ?_⟩
          exact ⟨rfl, fp2, _, (Gr.of s1).trans gr2, fun x m => (sb2 x m).imp id fun f => Same_fresh s1 f, hS2, tidy_room ln, tidy_not nin, k⟩
        · have ef2 : S.full = false := decide_eq_false (by omega)
          rw [ef2, if_neg (by decide)] at k
          exact ⟨rfl, _, S, Gr.of s1, Sub.refl, ⟨dx, c, r, hh, b, ws, us, rfl, g1, ok⟩, ef2, nin, k⟩
      clear g1 ga1 hy1 hu1 lw lu hhl lt
      clear s1
      rintro σ H1 ⟨rfl, fp1, S, gr1, sb1, hS1, ef2, nin, k⟩
      have hy1 := HS.ky gr1 yk.val hy
      have hu1 := HS.ky gr1 hz.1 hu
      clear g ga ef ok
      generalize [a, c, r, hh, b] = fp0 at *
      obtain ⟨dx, c, r, hh, b, ws, us, rfl, g1, ok⟩ := hS1
      clear HS ln k2
      have ga1 := g1.ha
      have lw := KysAt.len g1.kr
      have lu := KysAt.len g1.kh
      have hhl := ok.hl
      have hbl := ok.bl
      have lt := ok.cw.lt
      walk_at "rd"
      refine ⟨⟨_, _, ga1, by cases p <;> with_unfolding_all rfl⟩, ?_⟩
      simp only [My.fld_row T.shC_Table ga1]
      walk_at "rd"
      refine ⟨_, .inl (SqL.of g1.hr), a, dx, p, c, r, hh, b, S, ws, us, v, y, _, rfl, g1, ok.cw, hy1, yk, fun H2 s2 => ?_⟩
      have g2 := (g1.ext s2).cellsU (cs := S.cells.set (lastSlot S.cells S.row S.j y).toNat (ws.length : Nat))
      have ga2 := g2.ha
      have gr2 : Gr [a, c, r, hh, b] H1 (upd H2 c (.lst ((S.cells.set (lastSlot S.cells S.row S.j y).toNat (ws.length : Nat)).map V.int))) := (Gr.of s2).put (by simp)
      have hy2 := ky_upd (o' := .lst ((S.cells.set (lastSlot S.cells S.row S.j y).toNat (ws.length : Nat)).map V.int)) (g1.ext s2).hc (fun _ z => by cases z) yk.val (hy1.same s2 _ _)
      have hu2 := ky_upd (o' := .lst ((S.cells.set (lastSlot S.cells S.row S.j y).toNat (ws.length : Nat)).map V.int)) (g1.ext s2).hc (fun _ z => by cases z) hz.1 (hu1.same s2 _ _)
      generalize upd H2 c (.lst ((S.cells.set (lastSlot S.cells S.row S.j y).toNat (ws.length : Nat)).map V.int)) = H3 at g2 ga2 gr2 hy2 hu2 ⊢
      simp only [My.fld_row T.shC_Table ga2]
      walk_at "rd"
      refine ⟨tyL g2.hr, _, g2.hr, by rw [sizeLine_eq]; omega, ?_⟩
      have g3 := g2.rowU (ws' := ws ++ [v]) (ks := S.row ++ [y]) (vals_append g1.vr (vals_one yk.val)) (g2.kr.append (.cons hy2 .nil))
      have ga3 := g3.ha
      have gr3 : Gr [a, c, r, hh, b] H1 (upd H3 r (.lst (ws ++ [v]))) := gr2.put (by simp)
      have hu3 := ky_upd (o' := .lst (ws ++ [v])) g2.hr (fun _ z => by cases z) hz.1 hu2
      generalize upd H3 r (.lst (ws ++ [v])) = H4 at g3 ga3 gr3 hu3 ⊢
      simp only [My.fld_held T.shC_Table ga3]
      walk_at "rd"
      refine ⟨tyL g3.hh, _, g3.hh, by rw [sizeLine_eq]; omega, ?_⟩
      have g4 := g3.heldU (us' := us ++ [u]) (ks := S.held ++ [z]) (vals_append g1.vh (vals_one hz.1)) (g3.kh.append (.cons hu3 .nil))
      have ga4 := g4.ha
      have gr4 : Gr [a, c, r, hh, b] H1 (upd H4 hh (.lst (us ++ [u]))) := gr3.put (by simp)
      generalize upd H4 hh (.lst (us ++ [u])) = H5 at g4 ga4 gr4 ⊢
      rw [aug_comings T.shC_Table ga4]
      have g5 := g4.fldU (S' := { S with row := S.row ++ [y], held := S.held ++ [z], com := S.com + 1, cells := S.cells.set (lastSlot S.cells S.row S.j y).toNat (ws.length : Nat) })
      have gr5 : Gr [a, c, r, hh, b] H1 (upd H5 a (.ins A.c_Table dx (shF p c r hh b { S with row := S.row ++ [y], held := S.held ++ [z], com := S.com + 1, cells := S.cells.set (lastSlot S.cells S.row S.j y).toNat (ws.length : Nat) }))) := gr4.put (by simp)
      have ga5 := g5.ha
      generalize upd H5 a (.ins A.c_Table dx (shF p c r hh b { S with row := S.row ++ [y], held := S.held ++ [z], com := S.com + 1, cells := S.cells.set (lastSlot S.cells S.row S.j y).toNat (ws.length : Nat) })) = H6 at g5 gr5 ga5 ⊢
      simp only [My.fld_born T.shC_Table ga5, My.fld_comings T.shC_Table ga5]
      walk_at "rd"
      refine ⟨tyL g5.hb, _, g5.hb, by rw [sizeLine_eq, List.length_map]; show S.born.length < 16777216; omega, ?_⟩
      have g6 := g5.bornU (cs := S.born ++ [S.com + 1])
      rw [List.map_append] at g6
      have ec : ({ S with row := S.row ++ [y], held := S.held ++ [z], com := S.com + 1, cells := S.cells.set (lastSlot S.cells S.row S.j y).toNat (ws.length : Nat), born := S.born ++ [S.com + 1] } : Sh) = S.come y z := by
        unfold Sh.come layS
        rw [if_neg yk.ne_non, ← ok.cw.slot_bare yk.ne_non nin, lw]
      rw [ec] at g6
      exact k _ [a, c, r, hh, b] (gr1.comp sb1 (gr5.put (by simp))) sb1 ⟨dx, c, r, hh, b, _, _, rfl, g6, ok.come yk nin ef2 hz⟩

end Law
namespace Law
open PySem PySem.Spec PyProof.Rows L2 My
theorem sc_Shelf_mark_gone : FnScope ["self", "key", "place"] ["self", "key", "place"] (defScope s_Shelf_mark_gone) := ⟨rfl, rfl, rfl, by decide +kernel, rfl, by decide +kernel, by decide +kernel⟩
theorem ok_Table_mark_gone {P : Program} {w : World} {K : PySem.W.Frag} {mg : Str → Option Value} {base : Heap} {A : Ad} (T : Txt K mg A) : FnOk P w K mg base CX0 6 A.a_Shelf_mark_gone A.d_Shelf_mark_gone ["self", "key", "place"] (spMarkGone A.c_Table) := by
  refine T.F_Shelf_mark_gone.ok sc_Shelf_mark_gone (fun vs H Q E h => ?_) (fun cdv A' outer s H vs Q E hr h => ?_)
  · exact len_markGone h
  · have nd := sc_Shelf_mark_gone.nd
    have hu := hu_of hr
    refine ⟨_, (pss_one (ps_asg (pe_glob (v := .int (-2)) rfl T.g_GONE ⟨_, rfl⟩) (pg_sub (pe_fld (pv 0) rfl) (pe_ix ix_tup (pe_ix ix_list (pe_call (ok_paper T) (hr.mono (by decide)) rfl T.m_paper_slots T.F_paper.kp T.b_paper .nil pass0 (pa_cons (pe_fld (pv 0) rfl) (pa_cons (pe_fld (pv 0) rfl) (pa_cons (pv 1) pa_nil)))) (pe_un un_neg pe_int) (fun _ _ => rfl)) pe_int (fun _ _ => rfl)) set_list))), ?_⟩
    clear nd
    obtain ⟨a, dx, p, c, r, hh, b, S, ws, us, v, y, w', rfl, g, cw, hy, yk, k⟩ := h
    have ga := g.ha
    walk_at "rd"
    simp only [My.fld_cells (T.shC_Table) ga, My.fld_row (T.shC_Table) ga]
    walk_at "rd"
    refine ⟨_, _, _, S.cells, ws, S.row, y, S.j, rfl, SqL.of g.hc, SqL.of g.hr, g.kr, hy, cw.rok, yk, ⟨cw.len, cw.j12⟩, cw.ok, fun L H' xs s _ hp hx => ?_⟩
    obtain ⟨n0, n1, -, -⟩ := paperN_range S.cells S.row S.j y
    have hxl := KysAt.len hx
    unfold paperK at hx hxl
    rw [List.length_map, List.length_range] at hxl
    obtain ⟨u, e1, hu⟩ := hx.at (i := paperN S.cells S.row S.j y - 1) (k := pairAt S.cells S.j y (paperN S.cells S.row S.j y - 1)) (by rw [List.getElem?_map, List.getElem?_range (by omega)]; rfl)
    obtain ⟨t, rfl, ht⟩ := pair_of hu
    obtain ⟨r0, r1⟩ := probe_range y.stamp ((paperN S.cells S.row S.j y - 1 : Nat) : Int) cw.j12
    have hl := cw.len
    have pc := pow_cast S.j
    walk_at "rd"
    refine ⟨xs, _, SqL.of hp, atI_last (by rw [hxl]; exact e1), ?_⟩
    walk_at "rd"
    refine ⟨_, _, SqT.of ht, rfl, ?_⟩
    walk_at "rd"
    refine ⟨_, _, s _ _ g.hc, ixN_nat r0 (by rw [List.length_map]; omega), ?_⟩
    have k' := k H' s
    unfold lastSlot at k'
    rw [List.map_set] at k'
    exact k'
theorem sc_Shelf_take : FnScope ["self", "key", "place", "value"] ["self", "key"] (defScope s_Shelf_take) := ⟨rfl, rfl, rfl, by decide +kernel, rfl, by decide +kernel, by decide +kernel⟩
theorem ok_Table_take {P : Program} {w : World} {K : PySem.W.Frag} {mg : Str → Option Value} {base : Heap} {A : Ad} (T : Txt K mg A) : FnOk P w K mg base (L2.CX P w) 8 A.a_Shelf_take A.d_Shelf_take ["self", "key"] (spTake A.c_Table A.c_NoKey A.c_Lacking) := by
  refine T.F_Shelf_take.okX sc_Shelf_take (fun vs H Q E h => ?_) (fun cdv A' outer s H vs Q E hr h => ?_)
  · exact len_take h
  · have nd := sc_Shelf_take.nd
    have hu := hu_of hr
    refine ⟨_, (pss_cons (ps_set (i := 2) nd rfl (Or.inl rfl) (pe_meth (pv 0) T.cl_Table T.me_Table_find (ok_Table_find T) (hr.mono (by decide)) T.b_Shelf_find .nil pass0 (pa_cons (pe_call (ok_checked T) (hr.mono (by decide)) rfl T.m_checked T.F_checked.kp T.b_checked .nil (passes_call (takes_of rfl rfl rfl rfl) fun _ _ _ _ h => h) (pa_cons (pv 1) pa_nil)) pa_nil))) (pss_cons (ps_if (pt_cmpR op_isN (pv 2) pe_non (nomark _)) (pss_one (ps_raise rfl (takes_of rfl rfl rfl rfl) (pmk_own PySem.F.excBase_ValueError T.x_Lacking T.m_Lacking T.k_Lacking (raises_own T.eb_Lacking T.et_Lacking) rfl))) pss_nil) (pss_cons (ps_set (i := 3) nd rfl (Or.inl rfl) (pe_ix ix_list (pe_fld (pv 0) rfl) (pv 2) (fun _ _ => rfl))) (pss_cons (ps_expr (pe_meth (pv 0) T.cl_Table T.me_Table_mark_gone (ok_Table_mark_gone T) (hr.mono (by decide)) T.b_Shelf_mark_gone .nil pass0 (pa_cons (pv 1) (pa_cons (pv 2) pa_nil)))) (pss_cons (ps_asg pe_non (pg_sub (pe_fld (pv 0) rfl) (pv 2) set_list)) (pss_cons (ps_asg pe_non (pg_sub (pe_fld (pv 0) rfl) (pv 2) set_list)) (pss_cons (ps_fldaug (pv 0) pe_int in_add) (pss_one (ps_ret (pv 3)))))))))), ?_⟩
    clear nd
    obtain ⟨a, p, fp, S, v, y, rfl, hS, hy, hf, hw, k1, k2⟩ := h
    have HS := hS
    obtain ⟨dx, c, r, hh, b, ws, us, rfl, g, ok⟩ := hS
    have ga := g.ha
    walk_at "rd"
    refine ⟨⟨_, _, ga, by cases p <;> with_unfolding_all rfl⟩, v, y, rfl, hy, hf, fun e => ?_, k1⟩
    have yk := hw e
    have k := k2 yk
    refine ⟨a, p, _, S, v, y, rfl, HS, hy, yk, fun H1 s1 => ?_⟩
    have g1 := g.ext s1
    have ga1 := g1.ha
    have lu := KysAt.len g.kh
    have lw := KysAt.len g.kr
    have hhl := ok.hl
    cases ef : S.find y with
    | none =>
      rw [ef] at k
      dsimp only at k
      simp only [optV]
      walk_at "rd"
      exact k H1 s1
    | some q =>
      rw [ef] at k
      dsimp only at k
      simp only [optV]
      walk_at "rd"
      refine iteN (by simp) ?_
      simp only [My.fld_held (T.shC_Table) ga1]
      walk_at "rd"
      have er := (ok.find_some yk.ne_non).mp ef
      have hq := (List.getElem?_eq_some_iff.mp er).1
      obtain ⟨w, e1, at2⟩ := at_any (xs := us) (c := (q : Nat)) (by omega) (by omega)
      rw [Int.toNat_natCast] at e1
      obtain ⟨z, e2, hz1⟩ := g1.kh.get e1
      have zv := ok.hv z (List.mem_of_getElem? e2)
      have hy1 := hy.same s1 _ _
      refine ⟨_, _, SqL.of g1.hh, at2, ?_⟩
      walk_at "rd"
      refine ⟨⟨_, _, ga1, by cases p <;> with_unfolding_all rfl⟩, a, dx, p, c, r, hh, b, S, ws, us, v, y, _, rfl, g1, ok.cw, hy1, yk, fun H2 s2 => ?_⟩
      have g2 := (g1.ext s2).cellsU (cs := S.cells.set (lastSlot S.cells S.row S.j y).toNat (-2))
      have ga2 := g2.ha
      have gr2 : Gr [a, c, r, hh, b] H (upd H2 c (.lst ((S.cells.set (lastSlot S.cells S.row S.j y).toNat (-2)).map V.int))) := (Gr.of (s1.trans s2)).put (by simp)
      have hz2 := ky_upd (o' := .lst ((S.cells.set (lastSlot S.cells S.row S.j y).toNat (-2)).map V.int)) (g1.ext s2).hc (fun _ z => by cases z) zv.1 (hz1.same s2 _ _)
      generalize upd H2 c (.lst ((S.cells.set (lastSlot S.cells S.row S.j y).toNat (-2)).map V.int)) = H3 at g2 ga2 gr2 hz2 ⊢
      simp only [My.fld_row (T.shC_Table) ga2]
      walk_at "rd"
      refine ⟨_, _, g2.hr, ixN_nat (by omega) (by omega), ?_⟩
      rw [Int.toNat_natCast]
      have g3 := g2.rowU (ws' := ws.set q .non) (ks := S.row.set q .non) (vals_set g.vr rfl) (g2.kr.set .non)
      have ga3 := g3.ha
      have gr3 : Gr [a, c, r, hh, b] H (upd H3 r (.lst (ws.set q .non))) := gr2.put (by simp)
      have hz3 := ky_upd (o' := .lst (ws.set q .non)) g2.hr (fun _ z => by cases z) zv.1 hz2
      generalize upd H3 r (.lst (ws.set q .non)) = H4 at g3 ga3 gr3 hz3 ⊢
      simp only [My.fld_held (T.shC_Table) ga3]
      walk_at "rd"
      refine ⟨_, _, g3.hh, ixN_nat (by omega) (by omega), ?_⟩
      rw [Int.toNat_natCast]
      have g4 := g3.heldU (us' := us.set q .non) (ks := S.held.set q .non) (vals_set g.vh rfl) (g3.kh.set .non)
      have ga4 := g4.ha
      have gr4 : Gr [a, c, r, hh, b] H (upd H4 hh (.lst (us.set q .non))) := gr3.put (by simp)
      have hz4 := ky_upd (o' := .lst (us.set q .non)) g3.hh (fun _ z => by cases z) zv.1 hz3
      generalize upd H4 hh (.lst (us.set q .non)) = H5 at g4 ga4 gr4 hz4 ⊢
      rw [aug_goings T.shC_Table ga4]
      have g5 := g4.fldU (S' := S.went q y)
      exact k _ [a, c, r, hh, b] w z (gr4.put (by simp)) Sub.refl ⟨dx, c, r, hh, b, _, _, rfl, g5, ok.went er yk.ne_non⟩ e2 (ky_upd ga4 (fun _ z => by cases z) zv.1 hz4)
theorem sc_Shelf_has : FnScope ["self", "key"] ["self", "key"] (defScope s_Shelf_has) := ⟨rfl, rfl, rfl, by decide +kernel, rfl, by decide +kernel, by decide +kernel⟩
theorem ok_Table_has {P : Program} {w : World} {K : PySem.W.Frag} {mg : Str → Option Value} {base : Heap} {A : Ad} (T : Txt K mg A) : FnOk P w K mg base (L2.CX P w) 8 A.a_Shelf_has A.d_Shelf_has ["self", "key"] (spHas A.c_Table A.c_NoKey) := by
  refine T.F_Shelf_has.okX sc_Shelf_has (fun vs H Q E h => ?_) (fun cdv A' outer s H vs Q E hr h => ?_)
  · exact len_has h
  · have nd := sc_Shelf_has.nd
    have hu := hu_of hr
    refine ⟨_, (pss_one (ps_ret (pe_cmpR op_notN (pe_meth (pv 0) T.cl_Table T.me_Table_find (ok_Table_find T) (hr.mono (by decide)) T.b_Shelf_find .nil pass0 (pa_cons (pe_call (ok_checked T) (hr.mono (by decide)) rfl T.m_checked T.F_checked.kp T.b_checked .nil (passes_call (takes_of rfl rfl rfl rfl) fun _ _ _ _ h => h) (pa_cons (pv 1) pa_nil)) pa_nil)) pe_non (nomark _)))), ?_⟩
    clear nd
    obtain ⟨a, p, fp, S, v, y, rfl, hS, hy, hf, hw, k1, k2⟩ := h
    have HS := hS
    obtain ⟨dx, c, r, hh, b, ws, us, rfl, g, ok⟩ := hS
    have ga := g.ha
    walk_at "rd"
    refine ⟨⟨_, _, ga, by cases p <;> with_unfolding_all rfl⟩, v, y, rfl, hy, hf, fun e => ?_, k1⟩
    have yk := hw e
    have k := k2 yk
    refine ⟨a, p, _, S, v, y, rfl, HS, hy, yk, fun H1 s1 => ?_⟩
    walk_at "rd"
    have e3 : (!decide (optV (S.find y) = V.non)) = (S.find y).isSome := by cases S.find y <;> simp [optV]
    rw [e3]
    exact k H1 s1
theorem sc_Shelf_many : FnScope ["self"] ["self"] (defScope s_Shelf_many) := ⟨rfl, rfl, rfl, by decide +kernel, rfl, by decide +kernel, by decide +kernel⟩
theorem ok_Table_many {P : Program} {w : World} {K : PySem.W.Frag} {mg : Str → Option Value} {base : Heap} {A : Ad} (T : Txt K mg A) : FnOk P w K mg base CX0 1 A.a_Shelf_many A.d_Shelf_many ["self"] (spMany A.c_Table) := by
  refine T.F_Shelf_many.ok sc_Shelf_many (fun vs H Q E h => ?_) (fun cdv A' outer s H vs Q E hr h => ?_)
  · exact len_many h
  · have nd := sc_Shelf_many.nd
    have hu := hu_of hr
    refine ⟨_, (pss_one (ps_ret (pe_op op_sub (pe_fld (pv 0) rfl) (pe_fld (pv 0) rfl)))), ?_⟩
    clear nd
    obtain ⟨a, p, fp, S, rfl, hS, k⟩ := h
    obtain ⟨dx, c, r, hh, b, ws, us, rfl, g, ok⟩ := hS
    have ga := g.ha
    walk_at "rd"
    simp only [My.fld_comings (T.shC_Table) ga, My.fld_goings (T.shC_Table) ga]
    walk_at "rd"
    exact k
theorem sc_Shelf_pairs : FnScope ["self", "place", "key"] ["self"] (defScope s_Shelf_pairs) := ⟨rfl, rfl, rfl, by decide +kernel, rfl, by decide +kernel, by decide +kernel⟩
theorem ok_Table_pairs {P : Program} {w : World} {K : PySem.W.Frag} {mg : Str → Option Value} {base : Heap} {A : Ad} (T : Txt K mg A) : FnOk P w K mg base CX0 1 A.a_Shelf_pairs A.d_Shelf_pairs ["self"] (spPairs A.c_Table) := by
  refine T.F_Shelf_pairs.ok sc_Shelf_pairs (fun vs H Q E h => ?_) (fun cdv A' outer s H vs Q E hr h => ?_)
  · exact len_pairs h
  · have nd := sc_Shelf_pairs.nd
    have hu := hu_of hr
    refine ⟨_, (pss_one (ps_ret (pe_lc (own := [("place", 1), ("key", 2)]) rfl nd (pi_enum rfl T.n_enumerate (pa_cons (pe_fld (pv 0) rfl) pa_nil)) (blkOk_by (own := [("place", 1), ("key", 2)]) (N := ["self", "place", "key"]) (sc := defScope s_Shelf_pairs) (by decide +kernel)) (fun _ _ _ _ _ => (pg_tupK K (n := 2) rfl rfl (pgs_cons (pg_name (i := 1) nd rfl (Or.inl rfl)) (pgs_cons (pg_name (i := 2) nd rfl (Or.inl rfl)) pgs_nil)))) (fun _ _ _ _ _ => (pts_one (pt_cmpR op_notN (pv 2) pe_non (nomark _)))) (fun _ _ _ _ _ => (pe_tup (pa_cons (pv 2) (pa_cons (pe_ix (ix_listK K rfl) (pe_fldK K rfl (pv 0) rfl) (pv 1) (fun _ _ => rfl)) pa_nil))))))), ?_⟩
    clear nd
    obtain ⟨a, p, fp, S, rfl, hS, k⟩ := h
    obtain ⟨dx, c, r, hh, b, ws, us, rfl, g, ok⟩ := hS
    have ga := g.ha
    have lw := KysAt.len g.kr
    have lu := KysAt.len g.kh
    have hhl := ok.hl
    have lt := ok.cw.lt
    walk_at "rd"
    simp only [My.fld_row (T.shC_Table) ga]
    walk_at "rd"
    refine ⟨⟨_, SqL.of g.hr⟩, fun D hD => ?_⟩
    refine go_lck (walk_enum (xs := ws)) (pairsN S.row S.held) rfl (fun i _ => pairsN_vals ok i) (by rw [sizeLine_eq]; omega) (fun i => pairsN_len _ _ i) hD (fun H s => SqL.of (s _ _ g.hr)) ?_ ?_
    · rintro N Z i x H4 H5 hi s4 ⟨Tp, x1, y1, rfl, hT, rfl, e1, e2⟩ hN hZ
      cases e1
      obtain ⟨y, hy, hv⟩ := g.kr.get e2
      walk_at "rd"
      refine ⟨_, SqT.of upd_same, rfl, ?_⟩
      walk_at "rd"
      have sT : Same H4 (upd H4 Tp (.tup [V.int i, y1])) := Same_upd (Same.refl _) hT
      generalize upd H4 Tp (.tup [V.int i, y1]) = H6 at sT ⊢
      have g6 := g.ext (s4.trans sT)
      have ga6 := g6.ha
      have hv6 := hv.same (s4.trans sT) _ _
      refine iteB (fun c1 => ?_) fun c1 => hZ (by rw [pairsN, hy]; dsimp only; rw [if_pos (hv.ne_non.mp (by simpa using c1))]) _ sT
      simp only [My.fld_held (T.shC_Table) ga6]
      walk_at "rd"
      obtain ⟨w1, q1, q2⟩ := at_any (xs := us) (c := (i : Nat)) (by omega) (by omega)
      rw [Int.toNat_natCast] at q1
      obtain ⟨z, q3, hz⟩ := g6.kh.get q1
      refine ⟨_, _, SqL.of g6.hh, q2, by walk_at "sz", fun T2 hT2 => hN _ _ _ (by rw [pairsN, hy]; dsimp only; rw [if_neg (fun e => c1 (hv.ne_non.mpr e))]) (Same_upd sT hT2) (.tup upd_same (.cons (hv6.same (Same_upd (Same.refl _) hT2) _ _) (.cons ?_ .nil)))⟩
      rw [List.getD_eq_getElem?_getD, q3]
      exact hz.same (Same_upd (Same.refl _) hT2) _ _
    · intro H4 ys s4 hL hk
      walk_at "rd"
      rw [lw] at hk
      exact k H4 D ys s4 hD hL hk

end Law
namespace Law
open PySem PySem.Spec PyProof.Rows L2 My
theorem Txt.ksC {K : PySem.W.Frag} {mg : Str → Option Value} {A : Ad} (T : Txt K mg A) : KsC K A.c_Keyset := ⟨T.cl_Keyset, T.na_Keyset_book⟩
theorem sc_Keyset___init__ : FnScope ["self", "some", "key"] ["self", "some"] (defScope s_Keyset___init__) := ⟨rfl, rfl, rfl, by decide +kernel, rfl, by decide +kernel, by decide +kernel⟩
theorem ok_Keyset___init__ {P : Program} {w : World} {K : PySem.W.Frag} {mg : Str → Option Value} {base : Heap} {A : Ad} (T : Txt K mg A) : FnOk P w K mg base (L2.CX P w) 10 A.a_Keyset___init__ A.d_Keyset___init__ ["self", "some"] (spKsInit A.c_Keyset A.c_Table A.c_NoKey) := by
  refine T.F_Keyset___init__.ok sc_Keyset___init__ (fun vs H Q E h => ?_) (fun cdv A' outer s H vs Q E hr h => ?_)
  · exact len_ksInit h
  · have nd := sc_Keyset___init__.nd
    have hu := hu_of hr
    refine ⟨_, (pss_cons (ps_fld (pv 0) (pe_make0 T.mk_Table (ok_Table___init__ T) (hr.mono (by decide)) rfl T.m_Table T.b_Table___init__ .nil pass0) rfl) (pss_one (ps_if (pt_cmpR op_notN (pv 1) pe_non (nomark _)) (pss_one (ps_for (passes_of rfl) rfl (pi_list (pv 1)) (pg_name (i := 2) nd rfl (Or.inl rfl)) (pss_one (ps_expr (pe_meth (pe_fld (pv 0) rfl) T.cl_Table T.me_Table_put (ok_Table_put T) (hr.mono (by decide)) T.b_Shelf_put .nil (passes_call (takes_of rfl rfl rfl rfl) fun _ _ _ _ h => h) (pa_cons (pv 2) (pa_cons pe_non pa_nil))))))) pss_nil))), ?_⟩
    clear nd
    obtain ⟨a, dx, v, ks, rfl, ha, hv, kf, kl, kE, k⟩ := h
    walk_at "rd"
    refine fun x dx2 fx fd _ => ⟨x, dx2, rfl, upd_same, fun H1 fp1 gr1 sb1 hS1 => ?_⟩
    obtain ⟨s1, ff1⟩ := made_same fx fd gr1 sb1
    have ha1 := s1 _ _ ha
    rw [setAt (gs := ksF x) ha1 T.ksC.cls T.ksC.book (by decide) (by with_unfolding_all rfl)]
    have na : a ∉ fp1 := fun m => (ff1 a m).ne ha rfl
    have g2 : Gr [a] H1 (upd H1 a (.ins A.c_Keyset dx (ksF x))) := Gr.refl.put (by simp)
    have hS2 := hS1.apart g2 (noTup_one ha1 fun _ z => by cases z) fun y m q => na (by rw [List.mem_singleton] at q; rw [← q]; exact m)
    have gr2 : Gr [a] H (upd H1 a (.ins A.c_Keyset dx (ksF x))) := (Gr.of s1).put (by simp)
    have hK : KsAt (upd H1 a (.ins A.c_Keyset dx (ksF x))) A.c_Keyset A.c_Table a (a :: fp1) [] := ⟨dx, x, fp1, _, rfl, upd_same, hS2, na, rfl⟩
    have sb2 : Sub (a :: fp1) [a] H := fun y m => by
      rcases List.mem_cons.mp m with rfl | m
      · exact .inl (by simp)
      · exact .inr (ff1 y m)
    generalize upd H1 a (.ins A.c_Keyset dx (ksF x)) = H2 at gr2 hK ⊢
    generalize a :: fp1 = fp2 at hK sb2
    rcases hv with ⟨rfl, rfl⟩ | ⟨l, ws, rfl, hl, hw⟩
    · walk_at "rd"
      exact k (fun _ h => by cases h) _ _ gr2 sb2 hK
    · have nl : l ≠ a := ne_of hl ha (by intro z; cases z)
      have keep : ∀ H', Gr [a] H H' → H' l = some (.lst ws) := fun H' g => g.keep _ _ hl (by simpa using nl)
      walk_at "rd"
      have lw := KysAt.len hw
      refine ⟨⟨_, SqL.of (keep _ gr2)⟩, ?_⟩
      refine go_list (xs := ws) (fun i σ H' => ∃ v2 fp', σ = [some (.ref a), some (.ref l), v2] ∧ Gr [a] H H' ∧ Sub fp' [a] H ∧ KsAt H' A.c_Keyset A.c_Table a fp' (onceL (ks.take i)) ∧ ∀ k ∈ ks.take i, KeyOk k) ⟨_, _, rfl, gr2, sb2, hK, fun _ h => by simp at h⟩ (fun i σ H' _ ⟨_, _, _, g, _⟩ => SqL.of (keep _ g)) ?_ ?_
      · rintro N i u σ H3 hx ⟨v2, fp3, rfl, gr3, sb3, hK3, kk⟩ hN
        obtain ⟨y, hy, hv⟩ := hw.get hx
        have yf := kf y (List.mem_of_getElem? hy)
        have hv3 := KyAt.keepA gr3.keep (noDat_one ha) y u hv
        obtain ⟨dx3, t, fq, S, ha3, hS3, e3, -, st⟩ := hK3.step
        walk_at "rd"
        rw [ks_fld T.ksC ha3]
        have ln : S.lv.length ≤ 1365 := by
          have h1 := onceL_len (ks.take i)
          have h2 := List.length_take_le' i ks
          rw [← e3] at h1
          unfold Sh.keys at h1
          rw [List.length_map] at h1
          omega
        refine ⟨hS3.met (by intros; with_unfolding_all rfl), ⟨_, _, _, _, _, _, _, _, rfl, hS3, hv3, yf.1, yf.2, .non, ⟨rfl, by simp [Ky.dep]⟩, ln, fun e => kE ⟨y, List.mem_of_getElem? hy, e⟩ _ gr3, fun yk => ?_⟩⟩
        intro H4 fp4 gr4 sb4 hS4
        obtain ⟨hK4, gq, sq⟩ := st _ _ _ gr4 sb4 hS4
        rw [(putT_keys hS3.ok yk).1, e3, ← onceL_take hy] at hK4
        refine hN _ _ ⟨_, _, rfl, gr3.comp sb3 gq, sb3.comp gr3 sq, hK4, fun z hz => ?_⟩
        obtain ⟨hi, e⟩ := List.getElem?_eq_some_iff.mp hy
        rw [List.take_succ_eq_append_getElem hi] at hz
        rcases List.mem_append.mp hz with hz | hz
        · exact kk z hz
        · rw [List.mem_singleton, e] at hz
          rw [hz]
          exact yk
      · rintro σ H3 ⟨v2, fp3, rfl, gr3, sb3, hK3, kk⟩
        rw [lw, List.take_length] at hK3 kk
        walk_at "rd"
        exact k kk _ _ gr3 sb3 hK3
theorem sc_Keyset_add : FnScope ["self", "key"] ["self", "key"] (defScope s_Keyset_add) := ⟨rfl, rfl, rfl, by decide +kernel, rfl, by decide +kernel, by decide +kernel⟩
theorem ok_Keyset_add {P : Program} {w : World} {K : PySem.W.Frag} {mg : Str → Option Value} {base : Heap} {A : Ad} (T : Txt K mg A) : FnOk P w K mg base (L2.CX P w) 10 A.a_Keyset_add A.d_Keyset_add ["self", "key"] (spKsAdd A.c_Keyset A.c_Table A.c_NoKey) := by
  refine T.F_Keyset_add.okX sc_Keyset_add (fun vs H Q E h => ?_) (fun cdv A' outer s H vs Q E hr h => ?_)
  · exact len_ksAdd h
  · have nd := sc_Keyset_add.nd
    have hu := hu_of hr
    refine ⟨_, (pss_one (ps_ret (pe_meth (pe_fld (pv 0) rfl) T.cl_Table T.me_Table_put (ok_Table_put T) (hr.mono (by decide)) T.b_Shelf_put .nil (passes_call (takes_of rfl rfl rfl rfl) fun _ _ _ _ h => h) (pa_cons (pv 1) (pa_cons pe_non pa_nil))))), ?_⟩
    clear nd
    obtain ⟨a, fp, ks, v, y, rfl, hK, hy, yf, kl, kE, k⟩ := h
    obtain ⟨dx, t, fq, S, ha, hS, e, -, st⟩ := hK.step
    have ln : S.lv.length ≤ 1365 := by
      rw [← e] at kl
      unfold Sh.keys at kl
      rw [List.length_map] at kl
      exact kl
    walk_at "rd"
    rw [ks_fld T.ksC ha]
    refine ⟨hS.met (by intros; with_unfolding_all rfl), ⟨_, _, _, _, _, _, _, _, rfl, hS, hy, yf.1, yf.2, .non, ⟨rfl, by simp [Ky.dep]⟩, ln, kE, fun yk => ?_⟩⟩
    intro H4 fp4 gr4 sb4 hS4
    obtain ⟨hK4, gq, sq⟩ := st _ _ _ gr4 sb4 hS4
    have pk := putT_keys (z := .non) hS.ok yk
    rw [pk.1, e] at hK4
    rw [pk.2, e]
    exact k yk _ _ gq sq hK4
theorem sc_Keyset_has : FnScope ["self", "key"] ["self", "key"] (defScope s_Keyset_has) := ⟨rfl, rfl, rfl, by decide +kernel, rfl, by decide +kernel, by decide +kernel⟩
theorem ok_Keyset_has {P : Program} {w : World} {K : PySem.W.Frag} {mg : Str → Option Value} {base : Heap} {A : Ad} (T : Txt K mg A) : FnOk P w K mg base (L2.CX P w) 9 A.a_Keyset_has A.d_Keyset_has ["self", "key"] (spKsHas A.c_Keyset A.c_Table A.c_NoKey) := by
  refine T.F_Keyset_has.okX sc_Keyset_has (fun vs H Q E h => ?_) (fun cdv A' outer s H vs Q E hr h => ?_)
  · exact len_ksHas h
  · have nd := sc_Keyset_has.nd
    have hu := hu_of hr
    refine ⟨_, (pss_one (ps_ret (pe_meth (pe_fld (pv 0) rfl) T.cl_Table T.me_Table_has (ok_Table_has T) (hr.mono (by decide)) T.b_Shelf_has .nil (passes_call (takes_of rfl rfl rfl rfl) fun _ _ _ _ h => h) (pa_cons (pv 1) pa_nil)))), ?_⟩
    clear nd
    obtain ⟨a, fp, ks, v, y, rfl, hK, hy, yf, kE, k⟩ := h
    obtain ⟨dx, t, fq, S, ha, hS, e, -, st⟩ := hK.step
    walk_at "rd"
    rw [ks_fld T.ksC ha]
    refine ⟨hS.met (by intros; with_unfolding_all rfl), ⟨_, _, _, _, _, _, rfl, hS, hy, yf.1, yf.2, kE, fun yk => ?_⟩⟩
    intro H4 s4
    rw [keys_has hS.ok yk.ne_non, e]
    exact k yk _ s4
theorem sc_Keyset_many : FnScope ["self"] ["self"] (defScope s_Keyset_many) := ⟨rfl, rfl, rfl, by decide +kernel, rfl, by decide +kernel, by decide +kernel⟩
theorem ok_Keyset_many {P : Program} {w : World} {K : PySem.W.Frag} {mg : Str → Option Value} {base : Heap} {A : Ad} (T : Txt K mg A) : FnOk P w K mg base CX0 2 A.a_Keyset_many A.d_Keyset_many ["self"] (spKsMany A.c_Keyset A.c_Table) := by
  refine T.F_Keyset_many.ok sc_Keyset_many (fun vs H Q E h => ?_) (fun cdv A' outer s H vs Q E hr h => ?_)
  · exact len_ksMany h
  · have nd := sc_Keyset_many.nd
    have hu := hu_of hr
    refine ⟨_, (pss_one (ps_ret (pe_meth0 (pe_fld (pv 0) rfl) T.cl_Table T.me_Table_many (ok_Table_many T) (hr.mono (by decide)) T.b_Shelf_many .nil pass0))), ?_⟩
    clear nd
    obtain ⟨a, fp, ks, rfl, hK, k⟩ := h
    obtain ⟨dx, t, fq, S, ha, hS, e, -, st⟩ := hK.step
    walk_at "rd"
    rw [ks_fld T.ksC ha]
    refine ⟨hS.met (by intros; with_unfolding_all rfl), _, _, _, _, rfl, hS, ?_⟩
    rw [keys_many hS.ok, e]
    exact k
theorem sc_Keyset_drop : FnScope ["self", "key"] ["self", "key"] (defScope s_Keyset_drop) := ⟨rfl, rfl, rfl, by decide +kernel, rfl, by decide +kernel, by decide +kernel⟩
theorem ok_Keyset_drop {P : Program} {w : World} {K : PySem.W.Frag} {mg : Str → Option Value} {base : Heap} {A : Ad} (T : Txt K mg A) : FnOk P w K mg base (L2.CX P w) 9 A.a_Keyset_drop A.d_Keyset_drop ["self", "key"] (spKsDrop A.c_Keyset A.c_Table A.c_NoKey) := by
  refine T.F_Keyset_drop.okX sc_Keyset_drop (fun vs H Q E h => ?_) (fun cdv A' outer s H vs Q E hr h => ?_)
  · exact len_ksDrop h
  · have nd := sc_Keyset_drop.nd
    have hu := hu_of hr
    refine ⟨_, (pss_cons (ps_if (pt_not (pt_val (pe_meth (pe_fld (pv 0) rfl) T.cl_Table T.me_Table_has (ok_Table_has T) (hr.mono (by decide)) T.b_Shelf_has .nil (passes_call (takes_of rfl rfl rfl rfl) fun _ _ _ _ h => h) (pa_cons (pv 1) pa_nil)))) (pss_one (ps_ret pe_bl)) pss_nil) (pss_cons (ps_expr (pe_meth (pe_fld (pv 0) rfl) T.cl_Table T.me_Table_take (ok_Table_take T) (hr.mono (by decide)) T.b_Shelf_take .nil (passes_call (takes_of rfl rfl rfl rfl) fun _ _ _ _ h => h) (pa_cons (pv 1) pa_nil))) (pss_one (ps_ret pe_bl)))), ?_⟩
    clear nd
    obtain ⟨a, fp, ks, v, y, rfl, hK, hy, yf, kE, k⟩ := h
    obtain ⟨dx, t, fq, S, ha, hS, e, -, st⟩ := hK.step
    have ok := hS.ok
    walk_at "rd"
    rw [ks_fld T.ksC ha]
    refine ⟨hS.met (by intros; with_unfolding_all rfl), ⟨_, _, _, _, _, _, rfl, hS, hy, yf.1, yf.2, kE, fun yk => ?_⟩⟩
    have kh := keys_has ok yk.ne_non
    have k := k yk
    intro H4 s4
    walk_at "rd"
    rw [kh, e]
    by_cases c : y ∈ ks
    · rw [decide_eq_true c] at k ⊢
      refine iteN (by decide) ?_
      rw [ks_fld T.ksC (s4 _ _ ha)]
      refine ⟨(hS.ext s4).met (by intros; with_unfolding_all rfl), ⟨_, _, _, _, _, _, rfl, (hS.ext s4), (hy.same s4 _ _), yk.f, fun _ => yk, fun e => (by rw [yk.w] at e; cases e), fun _ => ?_⟩⟩
      cases ef : S.find y with
      | none => exact absurd (by rw [e]; exact c) ((keys_none ok yk.ne_non).mp ef)
      | some q =>
        intro H5 fp5 u z gr5 sb5 hS5 ez hu
        obtain ⟨hK5, gq, sq⟩ := st _ _ _ ((Gr.of s4).trans gr5) (fun x m => (sb5 x m).imp id fun f => Same_fresh s4 f) hS5
        rw [went_keys ok yk.ne_non ef, e] at hK5
        exact k _ _ gq sq hK5
    · rw [decide_eq_false c] at k ⊢
      refine iteP rfl ?_
      have : dropL ks y = ks := List.filter_eq_self.mpr fun q m => decide_eq_true fun z => c (by rw [← z]; exact m)
      rw [this] at k
      exact k _ _ (Gr.of s4) Sub.refl (hK.ext s4)
theorem sc_Keyset_listed : FnScope ["self", "pair"] ["self"] (defScope s_Keyset_listed) := ⟨rfl, rfl, rfl, by decide +kernel, rfl, by decide +kernel, by decide +kernel⟩
theorem ok_Keyset_listed {P : Program} {w : World} {K : PySem.W.Frag} {mg : Str → Option Value} {base : Heap} {A : Ad} (T : Txt K mg A) : FnOk P w K mg base CX0 2 A.a_Keyset_listed A.d_Keyset_listed ["self"] (spKsListed A.c_Keyset A.c_Table) := by
  refine T.F_Keyset_listed.ok sc_Keyset_listed (fun vs H Q E h => ?_) (fun cdv A' outer s H vs Q E hr h => ?_)
  · exact len_ksListed h
  · have nd := sc_Keyset_listed.nd
    have hu := hu_of hr
    refine ⟨_, (pss_one (ps_ret (pe_lc (own := [("pair", 1)]) rfl nd (pi_list (pe_meth0 (pe_fld (pv 0) rfl) T.cl_Table T.me_Table_pairs (ok_Table_pairs T) (hr.mono (by decide)) T.b_Shelf_pairs .nil pass0)) (blkOk_by (own := [("pair", 1)]) (N := ["self", "pair"]) (sc := defScope s_Keyset_listed) (by decide +kernel)) (fun _ _ _ _ _ => (pg_name (i := 1) nd rfl (Or.inl rfl))) (fun _ _ _ _ _ => pts_nil) (fun _ _ _ _ _ => (pe_ix (ix_tupK K rfl) (pv 1) pe_int (fun _ _ => rfl)))))), ?_⟩
    clear nd
    obtain ⟨a, fp, ks, rfl, hK, k⟩ := h
    obtain ⟨dx, t, fq, S, ha, hS, e, -, st⟩ := hK.step
    have kk := hK.key
    have kv := keys_vals kk
    have kl := hK.len
    walk_at "rd"
    rw [ks_fld T.ksC ha]
    refine ⟨hS.met (by intros; with_unfolding_all rfl), _, _, _, _, rfl, hS, fun H1 L ws s1 fL hL hw => ?_⟩
    rw [pairs_lv hS.ok] at hw
    have lw := KysAt.len hw
    rw [List.length_map] at lw
    have ew : S.lv.length = ks.length := by rw [← e]; unfold Sh.keys; rw [List.length_map]
    walk_at "rd"
    refine ⟨⟨_, SqL.of hL⟩, fun D hD => ?_⟩
    refine go_lck (walk_list (xs := ws)) (fun i => ks.take i) rfl (fun i _ => vals_iff.mpr fun q m => (kk q (List.mem_of_mem_take m)).val) (by rw [sizeLine_eq]; omega) (fun i => by rw [List.length_take]; omega) hD (fun H s => SqL.of (s _ _ hL)) ?_ ?_
    · rintro N Z i x H4 H5 hi s4 ⟨rfl, hx⟩ hN hZ
      obtain ⟨y, hy, hv⟩ := hw.get hx
      rw [List.getElem?_map] at hy
      obtain ⟨p, hp, rfl⟩ := Option.map_eq_some_iff.mp hy
      obtain ⟨t1, x1, x2, rfl, ht, h1, h2⟩ := tup2_of hv
      walk_at "rd"
      refine ⟨_, _, SqT.of (s4 _ _ ht), rfl, ?_⟩
      have ek : ks[i]? = some p.1 := by
        rw [← e]
        unfold Sh.keys
        rw [List.getElem?_map, hp]
        rfl
      obtain ⟨hi2, e2⟩ := List.getElem?_eq_some_iff.mp ek
      exact hN _ _ _ (by rw [List.take_succ_eq_append_getElem hi2, e2]) (Same.refl _) (h1.same s4 _ _)
    · intro H4 ys s4 hL4 hk
      rw [show ws.length = ks.length by omega, List.take_length] at hk
      exact k _ _ _ (s1.trans s4) (Same_fresh s1 hD) hL4 hk

end Law
namespace My
open PySem PySem.Spec PyProof.Rows L2
/-! sets of keys: plain -/
def metL (ks ls : List Ky) : List Ky := ks.filter fun k => decide (k ∈ ls)
def lackL (ks ls : List Ky) : List Ky := ks.filter fun k => !decide (k ∈ ls)
def joinedL (ks ls : List Ky) : List Ky := ks ++ lackL ls ks
def eithL (ks ls : List Ky) : List Ky := lackL ks ls ++ lackL ls ks
def madeL (w : Int) (ks ls : List Ky) : List Ky := if w = 0 then joinedL ks ls else if w = 1 then metL ks ls else if w = 2 then lackL ks ls else eithL ks ls
theorem filter_take {α : Type} {p : α → Bool} {l : List α} {i : Nat} {y : α} (e : l[i]? = some y) : (l.take (i + 1)).filter p = (l.take i).filter p ++ if p y = true then [y] else [] := by
  obtain ⟨h, e⟩ := List.getElem?_eq_some_iff.mp e
  rw [List.take_succ_eq_append_getElem h, List.filter_append, e]
  congr 1
  rw [List.filter_cons]
  simp
theorem addL_new {r : List Ky} {k : Ky} (h : k ∉ r) : addL r k = r ++ [k] := if_neg h
theorem fold_nodup : ∀ (l r : List Ky), (r ++ l).Nodup → l.foldl addL r = r ++ l
  | [], r, _ => by simp
  | k :: l, r, h => by
    have n : k ∉ r := fun m => by
      rw [List.nodup_append] at h
      exact h.2.2 k m k List.mem_cons_self rfl
    rw [List.foldl_cons, addL_new n, fold_nodup l (r ++ [k]) (by simpa using h)]
    simp
theorem onceL_nodup {l : List Ky} (h : l.Nodup) : onceL l = l := fold_nodup l [] (by simpa using h)
theorem addL_nodup {r : List Ky} {k : Ky} (h : r.Nodup) : (addL r k).Nodup := by
  unfold addL
  split
  · exact h
  · rename_i n
    rw [List.nodup_append]
    exact ⟨h, by simp, fun x hx y hy e => n (by simp at hy; rw [← hy, ← e]; exact hx)⟩
theorem fold_nd : ∀ (l r : List Ky), r.Nodup → (l.foldl addL r).Nodup
  | [], r, h => h
  | k :: l, r, h => fold_nd l _ (addL_nodup h)
theorem onceL_nd (l : List Ky) : (onceL l).Nodup := fold_nd l [] .nil
theorem addL_mem {r : List Ky} {k y : Ky} : y ∈ addL r k ↔ y ∈ r ∨ y = k := by
  unfold addL
  split
  · rename_i h
    exact ⟨.inl, fun q => q.elim id fun e => by rw [e]; exact h⟩
  · simp
theorem fold_mem : ∀ (l r : List Ky) (y : Ky), y ∈ l.foldl addL r ↔ y ∈ r ∨ y ∈ l
  | [], r, y => by simp
  | k :: l, r, y => by
    rw [List.foldl_cons, fold_mem l, addL_mem, List.mem_cons]
    constructor
    · rintro ((h | h) | h)
      · exact .inl h
      · exact .inr (.inl h)
      · exact .inr (.inr h)
    · rintro (h | h | h)
      · exact .inl (.inl h)
      · exact .inl (.inr h)
      · exact .inr h
theorem onceL_mem {l : List Ky} {y : Ky} : y ∈ onceL l ↔ y ∈ l := by
  unfold onceL
  rw [fold_mem]
  simp
theorem onceL_all {P : Ky → Prop} {l : List Ky} (h : ∀ k ∈ l, P k) : ∀ k ∈ onceL l, P k := fun k m => h k (onceL_mem.mp m)
theorem metL_nd {ks ls : List Ky} (h : ks.Nodup) : (metL ks ls).Nodup := List.Nodup.sublist List.filter_sublist h
theorem lackL_nd {ks ls : List Ky} (h : ks.Nodup) : (lackL ks ls).Nodup := List.Nodup.sublist List.filter_sublist h
theorem metL_mem {ks ls : List Ky} {k : Ky} : k ∈ metL ks ls ↔ k ∈ ks ∧ k ∈ ls := by unfold metL; rw [List.mem_filter]; simp
theorem lackL_mem {ks ls : List Ky} {k : Ky} : k ∈ lackL ks ls ↔ k ∈ ks ∧ k ∉ ls := by unfold lackL; rw [List.mem_filter]; simp
theorem metL_len (ks ls : List Ky) : (metL ks ls).length ≤ ks.length := List.length_filter_le _ _
theorem lackL_len (ks ls : List Ky) : (lackL ks ls).length ≤ ks.length := List.length_filter_le _ _
theorem joinedL_nd {ks ls : List Ky} (h : ks.Nodup) (g : ls.Nodup) : (joinedL ks ls).Nodup := by
  unfold joinedL
  rw [List.nodup_append]
  exact ⟨h, lackL_nd g, fun x hx y hy e => (lackL_mem.mp hy).2 (by rw [← e]; exact hx)⟩
theorem eithL_nd {ks ls : List Ky} (h : ks.Nodup) (g : ls.Nodup) : (eithL ks ls).Nodup := by
  unfold eithL
  rw [List.nodup_append]
  exact ⟨lackL_nd h, lackL_nd g, fun x hx y hy e => (lackL_mem.mp hy).2 (by rw [← e]; exact (lackL_mem.mp hx).1)⟩
theorem joinedL_mem {ks ls : List Ky} {k : Ky} : k ∈ joinedL ks ls ↔ k ∈ ks ∨ k ∈ ls := by
  unfold joinedL
  rw [List.mem_append, lackL_mem]
  by_cases c : k ∈ ks <;> simp [c]
theorem eithL_mem {ks ls : List Ky} {k : Ky} : k ∈ eithL ks ls ↔ (k ∈ ks ∧ k ∉ ls) ∨ (k ∈ ls ∧ k ∉ ks) := by
  unfold eithL
  rw [List.mem_append, lackL_mem, lackL_mem]
theorem madeL_mem {w : Int} {ks ls : List Ky} {k : Ky} (h : k ∈ madeL w ks ls) : k ∈ ks ∨ k ∈ ls := by
  unfold madeL at h
  split at h
  · exact joinedL_mem.mp h
  · split at h
    · exact .inl (metL_mem.mp h).1
    · split at h
      · exact .inl (lackL_mem.mp h).1
      · rcases eithL_mem.mp h with h | h
        · exact .inl h.1
        · exact .inr h.1
theorem madeL_nd {w : Int} {ks ls : List Ky} (h : ks.Nodup) (g : ls.Nodup) : (madeL w ks ls).Nodup := by
  unfold madeL
  split
  · exact joinedL_nd h g
  · split
    · exact metL_nd h
    · split
      · exact lackL_nd h
      · exact eithL_nd h g
theorem madeL_len (w : Int) (ks ls : List Ky) : (madeL w ks ls).length ≤ ks.length + ls.length := by
  have h1 := metL_len ks ls
  have h2 := lackL_len ks ls
  have h3 := lackL_len ls ks
  unfold madeL
  split
  · unfold joinedL; rw [List.length_append]; omega
  · split
    · omega
    · split
      · omega
      · unfold eithL; rw [List.length_append]; omega
/-- what is made of two sets -/
def spMade (C CT : Addr) (f : List Ky → List Ky → List Ky) : Sp := fun vs H Q _ => ∃ a b fp1 fp2 ks ls, vs = [.ref a, .ref b] ∧ KsAt H C CT a fp1 ks ∧ KsAt H C CT b fp2 ls ∧ ks.length + ls.length ≤ 1365 ∧ ∀ H' x fp, Same H H' → (∀ y ∈ fp, Fresh H y) → KsAt H' C CT x fp (f ks ls) → Q (.ref x) H'
theorem len_made {C CT : Addr} {f : List Ky → List Ky → List Ky} {vs H Q E} (h : spMade C CT f vs H Q E) : vs.length = 2 := by obtain ⟨_, _, _, _, _, _, rfl, _⟩ := h; rfl
/-- a truth about two sets -/
def spTold2 (C CT : Addr) (f : List Ky → List Ky → Bool) : Sp := fun vs H Q _ => ∃ a b fp1 fp2 ks ls, vs = [.ref a, .ref b] ∧ KsAt H C CT a fp1 ks ∧ KsAt H C CT b fp2 ls ∧ ∀ H', Same H H' → Q (.bl (f ks ls)) H'
theorem len_told2 {C CT : Addr} {f : List Ky → List Ky → Bool} {vs H Q E} (h : spTold2 C CT f vs H Q E) : vs.length = 2 := by obtain ⟨_, _, _, _, _, _, rfl, _⟩ := h; rfl
theorem key_dats {ks : List Ky} (h : ∀ k ∈ ks, KeyOk k) : Ky.dats ks := fun k m => ⟨Ky.dat_of (h k m).g, by have := (h k m).d; omega⟩
/-! the law's keys -/
def SKey (y : Ky) : Prop := KeyOk y ∧ ∀ a b, y ≠ .tup [a, b]
def spSetKey : Sp := fun vs H Q _ => ∃ n : Int, vs = [.int n] ∧ ∀ H' v y, Same H H' → KyAt H' v y → SKey y → Q v H'
theorem len_setKey {vs H Q E} (h : spSetKey vs H Q E) : vs.length = 1 := by obtain ⟨_, rfl, _⟩ := h; rfl
theorem SKey.num {i : Int} (h : -(10 ^ 60) < i ∧ i < 10 ^ 60) : SKey (.num i) := ⟨.num h, fun _ _ e => by cases e⟩
theorem SKey.txt {l : List Nat} (c : codesOk l) (z : l.length ≤ 60) : SKey (.txt (SX.S l)) := ⟨.txt c z, fun _ _ e => by cases e⟩
def spSign : Sp := spAny1 fun _ v => ∃ c : Nat, (32 ≤ c ∧ c ≤ 126) ∧ v = .str ⟨#[c]⟩
theorem ones_of : ∀ {ys : List V}, (∀ (i : Nat) y, ys[i]? = some y → ∃ c : Nat, (32 ≤ c ∧ c ≤ 126) ∧ y = V.str ⟨#[c]⟩) → ∃ l : List Nat, codesOk l ∧ ys = l.map fun c => V.str ⟨#[c]⟩
  | [], _ => ⟨[], (fun _ h => by cases h), rfl⟩
  | y :: ys, h => by
    obtain ⟨c, hc, rfl⟩ := h 0 y rfl
    obtain ⟨l, h1, h2⟩ := ones_of (ys := ys) fun i z e => h (i + 1) z (by simpa using e)
    exact ⟨c :: l, fun d hd => by
      rcases List.mem_cons.mp hd with rfl | hd
      · exact hc
      · exact h1 d hd, by rw [h2]; rfl⟩
theorem at_code {l : List Nat} {i : Int} (h0 : 0 ≤ i) (h1 : i < l.length) (c : codesOk l) : ∃ d : Nat, (32 ≤ d ∧ d ≤ 126) ∧ atI (SX.S l).cps.toList i = some d := by
  have hj : i.toNat < l.length := by omega
  obtain ⟨j, rfl⟩ : ∃ j : Nat, i = (j : Int) := ⟨i.toNat, by omega⟩
  rw [S_list]
  exact ⟨l[j], c _ (List.getElem_mem _), atI_nat (List.getElem?_eq_getElem (by omega))⟩
theorem digs_S : Str.ofString "0123456789" = SX.S [48, 49, 50, 51, 52, 53, 54, 55, 56, 57] := by decide +kernel
theorem abC_S : Str.ofString "abC" = SX.S [97, 98, 67] := by decide +kernel
theorem ab_S : Str.ofString "ab" = SX.S [97, 98] := by decide +kernel
theorem codes_one {c : Nat} (h : 32 ≤ c ∧ c ≤ 126) : codesOk [c] := fun d m => by rw [List.mem_singleton] at m; rw [m]; exact h
/-- two keys alike -/
def spSameK (n : Nat) : Sp := fun vs H Q _ => ∃ (v w : V) (k : Ky), vs = [v, w] ∧ KyAt H v k ∧ KyAt H w k ∧ (k.val = true ∧ k.good = true ∧ k.dep ≤ n) ∧ ∀ H', Same H H' → Q (.bl true) H'
theorem len_sameK {n : Nat} {vs H Q E} (h : spSameK n vs H Q E) : vs.length = 2 := by obtain ⟨_, _, _, rfl, _⟩ := h; rfl
def spRowK (K : PySem.W.Frag) : Sp := fun vs H Q _ => ∃ (a b : Addr) (xs ys : List V) (ks : List Ky), vs = [.ref a, .ref b] ∧ H a = some (.lst xs) ∧ H b = some (.lst ys) ∧ KysAt H xs ks ∧ KysAt H ys ks ∧ (∀ k ∈ ks, KeyOk k) ∧ ks.length ≤ 5000 ∧ ∀ H', Same H H' → Q (.bl true) H'
theorem len_rowK {K : PySem.W.Frag} {vs H Q E} (h : spRowK K vs H Q E) : vs.length = 2 := by obtain ⟨_, _, _, _, _, rfl, _⟩ := h; rfl
/-- a list of keys gives a new one -/
def spOnce : Sp := fun vs H Q _ => ∃ (a : Addr) (ws : List V) (ks : List Ky), vs = [.ref a] ∧ H a = some (.lst ws) ∧ KysAt H ws ks ∧ (∀ k ∈ ks, KeyOk k) ∧ ks.length ≤ 5000 ∧ ∀ H' L us, Same H H' → Fresh H L → H' L = some (.lst us) → KysAt H' us (onceL ks) → Q (.ref L) H'
theorem len_once {vs H Q E} (h : spOnce vs H Q E) : vs.length = 1 := by obtain ⟨_, _, _, rfl, _⟩ := h; rfl
section
variable {H : Hp} {K : PySem.W.Frag}
theorem notin_row {v : V} {a : Addr} {vs : List V} {k : Ky} {ks : List Ky} {Q : VK} (hv : KyAt H v k) (ha : SqL K H a vs) (hks : KysAt H vs ks) (gk : k.dat = true) (dk : k.dep ≤ 60) (d : Ky.dats ks) (q : Q (.bl (!decide (k ∈ ks))) H) : rNotInD K v (.ref a) H Q := by
  refine ⟨k.toD, Ky.toDs ks, KyAt.dpD k v gk hv, .lst ha (KysAt.dpD ks _ d hks), Ky.shapedD gk dk, Ky.shapedL d, ?_⟩
  rw [any_dec k gk ks d]
  exact q
end
theorem KysAt.take {H : Hp} : ∀ {ks : List Ky} {ys : List V} (n : Nat), KysAt H ys ks → KysAt H (ys.take n) (ks.take n)
  | _, _, 0, _ => by simp; exact .nil
  | [], _, n + 1, h => by cases h; simp; exact .nil
  | k :: ks, _, n + 1, h => by
    cases h with
    | cons h t => simp; exact .cons h (KysAt.take n t)
/-- keys at a heap where what stood stands -/
theorem fresh_upd2 {H : Hp} {x dx : Addr} {o1 o2 : HO} (fx : Fresh H x) (fd : Fresh H dx) : Same H (upd (upd H dx o1) x o2) := Same_upd0 (Same_upd (Same.refl _) fd) fx
/-! how two sets lie -/
def subL (ks ls : List Ky) : Bool := decide (lackL ks ls = [])
def apartL (ks ls : List Ky) : Bool := decide (metL ks ls = [])
def alikeL (ks ls : List Ky) : Bool := decide (ks.length = ls.length) && subL ks ls
theorem sub_iff {ks ls : List Ky} : lackL ks ls = [] ↔ ∀ k ∈ ks, k ∈ ls := by
  unfold lackL
  rw [List.filter_eq_nil_iff]
  simp
theorem apart_iff {ks ls : List Ky} : metL ks ls = [] ↔ ∀ k ∈ ks, k ∉ ls := by
  unfold metL
  rw [List.filter_eq_nil_iff]
  simp
theorem apart_comm (ks ls : List Ky) : apartL ks ls = apartL ls ks := by
  unfold apartL
  rw [decide_eq_decide, apart_iff, apart_iff]
  exact ⟨fun h k m q => h k q m, fun h k m q => h k q m⟩
theorem sub_len : ∀ {ks ls : List Ky}, ks.Nodup → (∀ k ∈ ks, k ∈ ls) → ks.length ≤ ls.length
  | [], _, _, _ => Nat.zero_le _
  | k :: ks, ls, h, s => by
    obtain ⟨h1, h2⟩ := List.nodup_cons.mp h
    obtain ⟨a, b, rfl⟩ := List.append_of_mem (s k List.mem_cons_self)
    have := sub_len (ks := ks) (ls := a ++ b) h2 fun x m => by
      have q := s x (List.mem_cons_of_mem _ m)
      rw [List.mem_append, List.mem_cons] at q
      rw [List.mem_append]
      rcases q with q | rfl | q
      · exact .inl q
      · exact absurd m h1
      · exact .inr q
    simp only [List.length_cons, List.length_append] at this ⊢
    omega
theorem alike_both {ks ls : List Ky} (h : ks.Nodup) (g : ls.Nodup) : alikeL ks ls = (subL ks ls && subL ls ks) := by
  unfold alikeL subL
  by_cases c : lackL ks ls = []
  · rw [decide_eq_true c, Bool.and_true, Bool.true_and, decide_eq_decide]
    constructor
    · intro e
      rw [sub_iff]
      intro l ml
      refine Classical.byContradiction fun n => ?_
      have := sub_len (ks := l :: ks) (ls := ls) (List.nodup_cons.mpr ⟨n, h⟩) fun x m => by
        rcases List.mem_cons.mp m with rfl | m
        · exact ml
        · exact sub_iff.mp c x m
      rw [List.length_cons] at this
      omega
    · intro e
      have h1 := sub_len h (sub_iff.mp c)
      have h2 := sub_len g (sub_iff.mp e)
      omega
  · rw [decide_eq_false c, Bool.and_false, Bool.false_and]
def spApart0 (C CT : Addr) : Sp := fun vs H Q _ => ∃ a b fp1 fp2 ks ls, vs = [.ref a, .ref b] ∧ KsAt H C CT a fp1 ks ∧ KsAt H C CT b fp2 ls ∧ ks.length ≤ ls.length ∧ ∀ H', Same H H' → Q (.bl (apartL ks ls)) H'
theorem len_apart0 {C CT : Addr} {vs H Q E} (h : spApart0 C CT vs H Q E) : vs.length = 2 := by obtain ⟨_, _, _, _, _, _, rfl, _⟩ := h; rfl
end My
namespace Law
open PySem PySem.Spec PyProof.Rows L2 My
theorem sc_met : FnScope ["one", "other", "key"] ["one", "other"] (defScope s_met) := ⟨rfl, rfl, rfl, by decide +kernel, rfl, by decide +kernel, by decide +kernel⟩
theorem ok_met {P : Program} {w : World} {K : PySem.W.Frag} {mg : Str → Option Value} {base : Heap} {A : Ad} (T : Txt K mg A) : FnOk P w K mg base CX0 12 A.a_met A.d_met ["one", "other"] (spMade A.c_Keyset A.c_Table metL) := by
  refine T.F_met.ok sc_met (fun vs H Q E h => ?_) (fun cdv A' outer s H vs Q E hr h => ?_)
  · exact len_made h
  · have nd := sc_met.nd
    have hu := hu_of hr
    refine ⟨_, (pss_one (ps_ret (pe_make T.mk_Keyset (ok_Keyset___init__ T) (hr.mono (by decide)) rfl T.m_Keyset T.b_Keyset___init___2.choose_spec.2 T.b_Keyset___init___2.choose_spec.1 passL (pa_cons (pe_lc (own := [("key", 2)]) rfl nd (pi_list (pe_meth0 (pv 0) T.cl_Keyset T.me_Keyset_listed (ok_Keyset_listed T) (hr.mono (by decide)) T.b_Keyset_listed .nil pass0)) (blkOk_by (own := [("key", 2)]) (N := ["one", "other", "key"]) (sc := defScope s_met) (by decide +kernel)) (fun _ _ _ _ _ => (pg_name (i := 2) nd rfl (Or.inl rfl))) (fun _ _ _ _ _ => (pts_one (pt_val (pe_meth (pv 1) T.cl_Keyset T.me_Keyset_has (ok_Keyset_has T) (hr.mono (by decide)) T.b_Keyset_has .nil passL (pa_cons (pv 2) pa_nil))))) (fun _ _ _ _ _ => (pv 2))) pa_nil)))), ?_⟩
    clear nd
    obtain ⟨a, b, fp1, fp2, ks, ls, rfl, h1, h2, hl, k⟩ := h
    have kk := h1.key
    have nd := h1.nodup
    walk_at "rd"
    refine ⟨h1.met (by intros; with_unfolding_all rfl), _, _, _, rfl, h1, fun H1 L ws s1 fL hL hw => ?_⟩
    have lw := KysAt.len hw
    walk_at "rd"
    refine ⟨⟨_, SqL.of hL⟩, fun D hD => ?_⟩
    refine go_lck (walk_list (xs := ws)) (fun i => metL (ks.take i) ls) rfl (fun i _ => vals_iff.mpr fun q m => (kk q (List.mem_of_mem_take (List.mem_filter.mp m |>.1))).val) (by rw [sizeLine_eq]; omega) (fun i => Nat.le_trans (List.length_filter_le _ _) (by rw [List.length_take]; omega)) hD (fun H s => SqL.of (s _ _ hL)) ?_ ?_
    · rintro N Z i x H4 H5 hi s4 ⟨rfl, hx⟩ hN hZ
      obtain ⟨y, hy, hv⟩ := hw.get hx
      have yk := kk y (List.mem_of_getElem? hy)
      have ft := filter_take (p := fun k => decide (k ∈ ls)) hy
      walk_at "rd"
      refine ⟨(h2.ext (s1.trans s4)).met (by intros; with_unfolding_all rfl), ⟨_, _, _, _, _, rfl, h2.ext (s1.trans s4), hv.same s4 _ _, yk.fitt, fun e => (by rw [yk.w] at e; cases e), fun _ H6 s6 => ?_⟩⟩
      walk_at "rd"
      refine iteB (fun c => hN _ y _ ?_ s6 (hv.same (s4.trans s6) _ _)) fun c => hZ ?_ _ s6
      · unfold metL
        rw [ft]
        simp [c]
      · unfold metL
        rw [ft]
        try simp at c
        simp [c]
    · intro H4 ys s4 hL4 hk
      rw [lw, List.take_length] at hk
      intro x dx fx fd _
      have sM := fresh_upd2 (o1 := .own x) (o2 := .ins A.c_Keyset dx []) fx fd
      have km : ∀ z ∈ metL ks ls, KeyOk z := fun z m => kk z (List.mem_filter.mp m |>.1)
      refine ⟨x, dx, .ref D, metL ks ls, rfl, upd_same, .inr ⟨D, ys, rfl, sM _ _ hL4, hk.same sM _ _⟩, fun z m => (km z m).fitt, by have := List.length_filter_le (fun k => decide (k ∈ ls)) ks; unfold metL; omega, fun ⟨z, m, e⟩ => (by rw [(km z m).w] at e; cases e), fun _ H6 fp gr sb hK => ⟨rfl, ?_⟩⟩
      obtain ⟨s6, f6⟩ := made_same fx fd gr sb
      have e1 : onceL (metL ks ls) = metL ks ls := onceL_nodup (metL_nd nd)
      rw [e1] at hK
      exact k _ _ _ ((s1.trans s4).trans s6) (fun y m => Same_fresh (s1.trans s4) (f6 y m)) hK
theorem sc_lacking : FnScope ["one", "other", "key"] ["one", "other"] (defScope s_lacking) := ⟨rfl, rfl, rfl, by decide +kernel, rfl, by decide +kernel, by decide +kernel⟩
theorem ok_lacking {P : Program} {w : World} {K : PySem.W.Frag} {mg : Str → Option Value} {base : Heap} {A : Ad} (T : Txt K mg A) : FnOk P w K mg base CX0 12 A.a_lacking A.d_lacking ["one", "other"] (spMade A.c_Keyset A.c_Table lackL) := by
  refine T.F_lacking.ok sc_lacking (fun vs H Q E h => ?_) (fun cdv A' outer s H vs Q E hr h => ?_)
  · exact len_made h
  · have nd := sc_lacking.nd
    have hu := hu_of hr
    refine ⟨_, (pss_one (ps_ret (pe_make T.mk_Keyset (ok_Keyset___init__ T) (hr.mono (by decide)) rfl T.m_Keyset T.b_Keyset___init___2.choose_spec.2 T.b_Keyset___init___2.choose_spec.1 passL (pa_cons (pe_lc (own := [("key", 2)]) rfl nd (pi_list (pe_meth0 (pv 0) T.cl_Keyset T.me_Keyset_listed (ok_Keyset_listed T) (hr.mono (by decide)) T.b_Keyset_listed .nil pass0)) (blkOk_by (own := [("key", 2)]) (N := ["one", "other", "key"]) (sc := defScope s_lacking) (by decide +kernel)) (fun _ _ _ _ _ => (pg_name (i := 2) nd rfl (Or.inl rfl))) (fun _ _ _ _ _ => (pts_one (pt_not (pt_val (pe_meth (pv 1) T.cl_Keyset T.me_Keyset_has (ok_Keyset_has T) (hr.mono (by decide)) T.b_Keyset_has .nil passL (pa_cons (pv 2) pa_nil)))))) (fun _ _ _ _ _ => (pv 2))) pa_nil)))), ?_⟩
    clear nd
    obtain ⟨a, b, fp1, fp2, ks, ls, rfl, h1, h2, hl, k⟩ := h
    have kk := h1.key
    have nd := h1.nodup
    walk_at "rd"
    refine ⟨h1.met (by intros; with_unfolding_all rfl), _, _, _, rfl, h1, fun H1 L ws s1 fL hL hw => ?_⟩
    have lw := KysAt.len hw
    walk_at "rd"
    refine ⟨⟨_, SqL.of hL⟩, fun D hD => ?_⟩
    refine go_lck (walk_list (xs := ws)) (fun i => lackL (ks.take i) ls) rfl (fun i _ => vals_iff.mpr fun q m => (kk q (List.mem_of_mem_take (List.mem_filter.mp m |>.1))).val) (by rw [sizeLine_eq]; omega) (fun i => Nat.le_trans (List.length_filter_le _ _) (by rw [List.length_take]; omega)) hD (fun H s => SqL.of (s _ _ hL)) ?_ ?_
    · rintro N Z i x H4 H5 hi s4 ⟨rfl, hx⟩ hN hZ
      obtain ⟨y, hy, hv⟩ := hw.get hx
      have yk := kk y (List.mem_of_getElem? hy)
      have ft := filter_take (p := fun k => !decide (k ∈ ls)) hy
      walk_at "rd"
      refine ⟨(h2.ext (s1.trans s4)).met (by intros; with_unfolding_all rfl), ⟨_, _, _, _, _, rfl, h2.ext (s1.trans s4), hv.same s4 _ _, yk.fitt, fun e => (by rw [yk.w] at e; cases e), fun _ H6 s6 => ?_⟩⟩
      walk_at "rd"
      refine iteB (fun c => hN _ y _ ?_ s6 (hv.same (s4.trans s6) _ _)) fun c => hZ ?_ _ s6
      · unfold lackL
        rw [ft]
        simp [c]
      · unfold lackL
        rw [ft]
        try simp at c
        simp [c]
    · intro H4 ys s4 hL4 hk
      rw [lw, List.take_length] at hk
      intro x dx fx fd _
      have sM := fresh_upd2 (o1 := .own x) (o2 := .ins A.c_Keyset dx []) fx fd
      have km : ∀ z ∈ lackL ks ls, KeyOk z := fun z m => kk z (List.mem_filter.mp m |>.1)
      refine ⟨x, dx, .ref D, lackL ks ls, rfl, upd_same, .inr ⟨D, ys, rfl, sM _ _ hL4, hk.same sM _ _⟩, fun z m => (km z m).fitt, by have := List.length_filter_le (fun k => !decide (k ∈ ls)) ks; unfold lackL; omega, fun ⟨z, m, e⟩ => (by rw [(km z m).w] at e; cases e), fun _ H6 fp gr sb hK => ⟨rfl, ?_⟩⟩
      obtain ⟨s6, f6⟩ := made_same fx fd gr sb
      have e1 : onceL (lackL ks ls) = lackL ks ls := onceL_nodup (lackL_nd nd)
      rw [e1] at hK
      exact k _ _ _ ((s1.trans s4).trans s6) (fun y m => Same_fresh (s1.trans s4) (f6 y m)) hK
theorem sc_joined : FnScope ["one", "other"] ["one", "other"] (defScope s_joined) := ⟨rfl, rfl, rfl, by decide +kernel, rfl, by decide +kernel, by decide +kernel⟩
theorem ok_joined {P : Program} {w : World} {K : PySem.W.Frag} {mg : Str → Option Value} {base : Heap} {A : Ad} (T : Txt K mg A) : FnOk P w K mg base CX0 13 A.a_joined A.d_joined ["one", "other"] (spMade A.c_Keyset A.c_Table joinedL) := by
  refine T.F_joined.ok sc_joined (fun vs H Q E h => ?_) (fun cdv A' outer s H vs Q E hr h => ?_)
  · exact len_made h
  · have nd := sc_joined.nd
    have hu := hu_of hr
    refine ⟨_, (pss_one (ps_ret (pe_make T.mk_Keyset (ok_Keyset___init__ T) (hr.mono (by decide)) rfl T.m_Keyset T.b_Keyset___init___2.choose_spec.2 T.b_Keyset___init___2.choose_spec.1 passL (pa_cons (pe_op op_cat (pe_meth0 (pv 0) T.cl_Keyset T.me_Keyset_listed (ok_Keyset_listed T) (hr.mono (by decide)) T.b_Keyset_listed .nil pass0) (pe_meth0 (pe_call (ok_lacking T) (hr.mono (by decide)) rfl T.m_lacking T.F_lacking.kp T.b_lacking .nil pass0 (pa_cons (pv 1) (pa_cons (pv 0) pa_nil))) T.cl_Keyset T.me_Keyset_listed (ok_Keyset_listed T) (hr.mono (by decide)) T.b_Keyset_listed .nil pass0)) pa_nil)))), ?_⟩
    clear nd
    obtain ⟨a, b, fp1, fp2, ks, ls, rfl, h1, h2, hl, k⟩ := h
    have ll := lackL_len ls ks
    walk_at "rd"
    refine ⟨h1.met (by intros; with_unfolding_all rfl), _, _, _, rfl, h1, fun H1 L1 ws1 s1 f1 e1 w1 => ?_⟩
    refine ⟨b, a, fp2, fp1, ls, ks, rfl, h2.ext s1, h1.ext s1, by omega, fun H2 x2 fp s2 f2 g2 => ?_⟩
    walk_at "rd"
    refine ⟨g2.met (by intros; with_unfolding_all rfl), _, _, _, rfl, g2, fun H3 L3 ws3 s3 f3 e3 w3 => ?_⟩
    have lw1 := KysAt.len w1
    have lw3 := KysAt.len w3
    walk_at "rd"
    refine ⟨_, _, (s2.trans s3) _ _ e1, e3, by rw [sizeLine_eq]; omega, fun p hp => ?_⟩
    have s4 := Same_upd (o := .lst (ws1 ++ ws3)) (Same.refl H3) hp
    have w4 : KysAt (upd H3 p (.lst (ws1 ++ ws3))) (ws1 ++ ws3) (joinedL ks ls) := ((w1.same (s2.trans s3) _ _).append w3).same s4 _ _
    have e4 : upd H3 p (.lst (ws1 ++ ws3)) p = some (.lst (ws1 ++ ws3)) := upd_same
    generalize upd H3 p (.lst (ws1 ++ ws3)) = H4 at s4 w4 e4 ⊢
    have sA := ((s1.trans s2).trans s3).trans s4
    have km : ∀ z ∈ joinedL ks ls, KeyOk z := fun z m => (joinedL_mem.mp m).elim (h1.key z) (h2.key z)
    intro x dx fx fd _
    have sM := fresh_upd2 (o1 := .own x) (o2 := .ins A.c_Keyset dx []) fx fd
    refine ⟨x, dx, .ref p, joinedL ks ls, rfl, upd_same, .inr ⟨p, _, rfl, sM _ _ e4, w4.same sM _ _⟩, fun z m => (km z m).fitt, by unfold joinedL; rw [List.length_append]; omega, fun ⟨z, m, e⟩ => (by rw [(km z m).w] at e; cases e), fun _ H6 fp gr sb hK => ⟨rfl, ?_⟩⟩
    obtain ⟨s6, f6⟩ := made_same fx fd gr sb
    have e1 : onceL (joinedL ks ls) = joinedL ks ls := onceL_nodup (joinedL_nd h1.nodup h2.nodup)
    rw [e1] at hK
    exact k _ _ _ (sA.trans s6) (fun y m => Same_fresh sA (f6 y m)) hK
theorem sc_either : FnScope ["one", "other"] ["one", "other"] (defScope s_either) := ⟨rfl, rfl, rfl, by decide +kernel, rfl, by decide +kernel, by decide +kernel⟩
theorem ok_either {P : Program} {w : World} {K : PySem.W.Frag} {mg : Str → Option Value} {base : Heap} {A : Ad} (T : Txt K mg A) : FnOk P w K mg base CX0 13 A.a_either A.d_either ["one", "other"] (spMade A.c_Keyset A.c_Table eithL) := by
  refine T.F_either.ok sc_either (fun vs H Q E h => ?_) (fun cdv A' outer s H vs Q E hr h => ?_)
  · exact len_made h
  · have nd := sc_either.nd
    have hu := hu_of hr
    refine ⟨_, (pss_one (ps_ret (pe_make T.mk_Keyset (ok_Keyset___init__ T) (hr.mono (by decide)) rfl T.m_Keyset T.b_Keyset___init___2.choose_spec.2 T.b_Keyset___init___2.choose_spec.1 passL (pa_cons (pe_op op_cat (pe_meth0 (pe_call (ok_lacking T) (hr.mono (by decide)) rfl T.m_lacking T.F_lacking.kp T.b_lacking .nil pass0 (pa_cons (pv 0) (pa_cons (pv 1) pa_nil))) T.cl_Keyset T.me_Keyset_listed (ok_Keyset_listed T) (hr.mono (by decide)) T.b_Keyset_listed .nil pass0) (pe_meth0 (pe_call (ok_lacking T) (hr.mono (by decide)) rfl T.m_lacking T.F_lacking.kp T.b_lacking .nil pass0 (pa_cons (pv 1) (pa_cons (pv 0) pa_nil))) T.cl_Keyset T.me_Keyset_listed (ok_Keyset_listed T) (hr.mono (by decide)) T.b_Keyset_listed .nil pass0)) pa_nil)))), ?_⟩
    clear nd
    obtain ⟨a, b, fp1, fp2, ks, ls, rfl, h1, h2, hl, k⟩ := h
    have l1 := lackL_len ks ls
    have l2 := lackL_len ls ks
    walk_at "rd"
    refine ⟨a, b, fp1, fp2, ks, ls, rfl, h1, h2, by omega, fun H0 x0 fp0 s0 f0 g0 => ?_⟩
    walk_at "rd"
    refine ⟨g0.met (by intros; with_unfolding_all rfl), _, _, _, rfl, g0, fun H1 L1 ws1 s1 f1 e1 w1 => ?_⟩
    have s1 := s0.trans s1
    refine ⟨b, a, fp2, fp1, ls, ks, rfl, h2.ext s1, h1.ext s1, by omega, fun H2 x2 fp s2 f2 g2 => ?_⟩
    walk_at "rd"
    refine ⟨g2.met (by intros; with_unfolding_all rfl), _, _, _, rfl, g2, fun H3 L3 ws3 s3 f3 e3 w3 => ?_⟩
    have lw1 := KysAt.len w1
    have lw3 := KysAt.len w3
    walk_at "rd"
    refine ⟨_, _, (s2.trans s3) _ _ e1, e3, by rw [sizeLine_eq]; omega, fun p hp => ?_⟩
    have s4 := Same_upd (o := .lst (ws1 ++ ws3)) (Same.refl H3) hp
    have w4 : KysAt (upd H3 p (.lst (ws1 ++ ws3))) (ws1 ++ ws3) (eithL ks ls) := ((w1.same (s2.trans s3) _ _).append w3).same s4 _ _
    have e4 : upd H3 p (.lst (ws1 ++ ws3)) p = some (.lst (ws1 ++ ws3)) := upd_same
    generalize upd H3 p (.lst (ws1 ++ ws3)) = H4 at s4 w4 e4 ⊢
    have sA := ((s1.trans s2).trans s3).trans s4
    have km : ∀ z ∈ eithL ks ls, KeyOk z := fun z m => (eithL_mem.mp m).elim (fun q => h1.key z q.1) fun q => h2.key z q.1
    intro x dx fx fd _
    have sM := fresh_upd2 (o1 := .own x) (o2 := .ins A.c_Keyset dx []) fx fd
    refine ⟨x, dx, .ref p, eithL ks ls, rfl, upd_same, .inr ⟨p, _, rfl, sM _ _ e4, w4.same sM _ _⟩, fun z m => (km z m).fitt, by unfold eithL; rw [List.length_append]; omega, fun ⟨z, m, e⟩ => (by rw [(km z m).w] at e; cases e), fun _ H6 fp gr sb hK => ⟨rfl, ?_⟩⟩
    obtain ⟨s6, f6⟩ := made_same fx fd gr sb
    have e1 : onceL (eithL ks ls) = eithL ks ls := onceL_nodup (eithL_nd h1.nodup h2.nodup)
    rw [e1] at hK
    exact k _ _ _ (sA.trans s6) (fun y m => Same_fresh sA (f6 y m)) hK
theorem sc_within : FnScope ["one", "other", "key"] ["one", "other"] (defScope s_within) := ⟨rfl, rfl, rfl, by decide +kernel, rfl, by decide +kernel, by decide +kernel⟩
theorem ok_within {P : Program} {w : World} {K : PySem.W.Frag} {mg : Str → Option Value} {base : Heap} {A : Ad} (T : Txt K mg A) : FnOk P w K mg base CX0 10 A.a_within A.d_within ["one", "other"] (spTold2 A.c_Keyset A.c_Table subL) := by
  refine T.F_within.ok sc_within (fun vs H Q E h => ?_) (fun cdv A' outer s H vs Q E hr h => ?_)
  · exact len_told2 h
  · have nd := sc_within.nd
    have hu := hu_of hr
    refine ⟨_, (pss_cons (ps_if (pt_cmpR op_gt (pe_meth0 (pv 0) T.cl_Keyset T.me_Keyset_many (ok_Keyset_many T) (hr.mono (by decide)) T.b_Keyset_many .nil pass0) (pe_meth0 (pv 1) T.cl_Keyset T.me_Keyset_many (ok_Keyset_many T) (hr.mono (by decide)) T.b_Keyset_many .nil pass0) (nomark _)) (pss_one (ps_ret pe_bl)) pss_nil) (pss_one (ps_ret (pe_callB (cr_all rfl) rfl T.n_all (by decide +kernel) (pa_cons (pe_lc (own := [("key", 2)]) rfl nd (pi_list (pe_meth0 (pv 0) T.cl_Keyset T.me_Keyset_listed (ok_Keyset_listed T) (hr.mono (by decide)) T.b_Keyset_listed .nil pass0)) (blkOk_by (own := [("key", 2)]) (N := ["one", "other", "key"]) (sc := defScope s_within) (by decide +kernel)) (fun _ _ _ _ _ => (pg_name (i := 2) nd rfl (Or.inl rfl))) (fun _ _ _ _ _ => pts_nil) (fun _ _ _ _ _ => (pe_meth (pv 1) T.cl_Keyset T.me_Keyset_has (ok_Keyset_has T) (hr.mono (by decide)) T.b_Keyset_has .nil passL (pa_cons (pv 2) pa_nil)))) pa_nil))))), ?_⟩
    clear nd
    obtain ⟨a, b, fp1, fp2, ks, ls, rfl, h1, h2, k⟩ := h
    have kk := h1.key
    have nd := h1.nodup
    have kl := h1.len
    walk_at "rd"
    refine ⟨h1.met (by intros; with_unfolding_all rfl), _, _, _, rfl, h1, ?_⟩
    refine ⟨h2.met (by intros; with_unfolding_all rfl), _, _, _, rfl, h2, ?_⟩
    walk_at "rd"
    refine iteB (fun c => ?_) fun c => ?_
    · have e : subL ks ls = false := decide_eq_false fun e => by
        have := sub_len nd (sub_iff.mp e)
        omega
      rw [e] at k
      exact k _ (Same.refl _)
    refine ⟨h1.met (by intros; with_unfolding_all rfl), _, _, _, rfl, h1, fun H1 L ws s1 fL hL hw => ?_⟩
    have lw := KysAt.len hw
    walk_at "rd"
    refine ⟨⟨_, SqL.of hL⟩, fun D hD => ?_⟩
    refine go_lcm (walk_list (xs := ws)) (ks.map fun k => V.bl (decide (k ∈ ls))) (by rw [List.length_map]; exact lw.symm) (by rw [sizeLine_eq]; omega) hD (fun H s => SqL.of (s _ _ hL)) ?_ ?_ gName_mono
    · rintro N i x H4 H5 hi s4 ⟨rfl, hx⟩ hN
      obtain ⟨y, hy, hv⟩ := hw.get hx
      have yk := kk y (List.mem_of_getElem? hy)
      walk_at "rd"
      refine ⟨(h2.ext (s1.trans s4)).met (by intros; with_unfolding_all rfl), ⟨_, _, _, _, _, rfl, h2.ext (s1.trans s4), hv.same s4 _ _, yk.fitt, fun e => (by rw [yk.w] at e; cases e), fun _ H6 s6 => hN _ _ ?_ s6⟩⟩
      rw [List.getElem?_map, hy]
      rfl
    · intro H4 s4 hL4
      refine ⟨D, ks.map fun k => decide (k ∈ ls), rfl, SqL.of (by rw [List.map_map]; exact hL4), ?_⟩
      have e : (ks.map fun k => decide (k ∈ ls)).all id = subL ks ls := by
        unfold subL lackL
        rw [Bool.eq_iff_iff]
        simp
      rw [e]
      exact k _ (s1.trans s4)
theorem sc_apart : FnScope ["one", "other", "key"] ["one", "other"] (defScope s_apart) := ⟨rfl, rfl, rfl, by decide +kernel, rfl, by decide +kernel, by decide +kernel⟩
theorem ok_apart0 {P : Program} {w : World} {K : PySem.W.Frag} {mg : Str → Option Value} {base : Heap} {A : Ad} (T : Txt K mg A) : FnOk P w K mg base CX0 10 A.a_apart A.d_apart ["one", "other"] (spApart0 A.c_Keyset A.c_Table) := by
  refine T.F_apart.ok sc_apart (fun vs H Q E h => ?_) (fun cdv A' outer s H vs Q E hr h => ?_)
  · exact len_apart0 h
  · have nd := sc_apart.nd
    have hu := hu_of hr
    refine ⟨_, (pss_cons (ps_if (pt_cmpR op_gt (pe_meth0 (pv 0) T.cl_Keyset T.me_Keyset_many (ok_Keyset_many T) (hr.mono (by decide)) T.b_Keyset_many .nil pass0) (pe_meth0 (pv 1) T.cl_Keyset T.me_Keyset_many (ok_Keyset_many T) (hr.mono (by decide)) T.b_Keyset_many .nil pass0) (nomark _)) pss_never pss_nil) (pss_one (ps_ret (pe_not (pe_callB (cr_any rfl) rfl T.n_any (by decide +kernel) (pa_cons (pe_lc (own := [("key", 2)]) rfl nd (pi_list (pe_meth0 (pv 0) T.cl_Keyset T.me_Keyset_listed (ok_Keyset_listed T) (hr.mono (by decide)) T.b_Keyset_listed .nil pass0)) (blkOk_by (own := [("key", 2)]) (N := ["one", "other", "key"]) (sc := defScope s_apart) (by decide +kernel)) (fun _ _ _ _ _ => (pg_name (i := 2) nd rfl (Or.inl rfl))) (fun _ _ _ _ _ => pts_nil) (fun _ _ _ _ _ => (pe_meth (pv 1) T.cl_Keyset T.me_Keyset_has (ok_Keyset_has T) (hr.mono (by decide)) T.b_Keyset_has .nil passL (pa_cons (pv 2) pa_nil)))) pa_nil)))))), ?_⟩
    clear nd
    obtain ⟨a, b, fp1, fp2, ks, ls, rfl, h1, h2, hkl, k⟩ := h
    have kk := h1.key
    have nd := h1.nodup
    have kl := h1.len
    walk_at "rd"
    refine ⟨h1.met (by intros; with_unfolding_all rfl), _, _, _, rfl, h1, ?_⟩
    refine ⟨h2.met (by intros; with_unfolding_all rfl), _, _, _, rfl, h2, ?_⟩
    walk_at "rd"
    refine iteN (by omega) ?_
    refine ⟨h1.met (by intros; with_unfolding_all rfl), _, _, _, rfl, h1, fun H1 L ws s1 fL hL hw => ?_⟩
    have lw := KysAt.len hw
    walk_at "rd"
    refine ⟨⟨_, SqL.of hL⟩, fun D hD => ?_⟩
    refine go_lcm (walk_list (xs := ws)) (ks.map fun k => V.bl (decide (k ∈ ls))) (by rw [List.length_map]; exact lw.symm) (by rw [sizeLine_eq]; omega) hD (fun H s => SqL.of (s _ _ hL)) ?_ ?_ gName_mono
    · rintro N i x H4 H5 hi s4 ⟨rfl, hx⟩ hN
      obtain ⟨y, hy, hv⟩ := hw.get hx
      have yk := kk y (List.mem_of_getElem? hy)
      walk_at "rd"
      refine ⟨(h2.ext (s1.trans s4)).met (by intros; with_unfolding_all rfl), ⟨_, _, _, _, _, rfl, h2.ext (s1.trans s4), hv.same s4 _ _, yk.fitt, fun e => (by rw [yk.w] at e; cases e), fun _ H6 s6 => hN _ _ ?_ s6⟩⟩
      rw [List.getElem?_map, hy]
      rfl
    · intro H4 s4 hL4
      refine ⟨D, ks.map fun k => decide (k ∈ ls), rfl, SqL.of (by rw [List.map_map]; exact hL4), ?_⟩
      have e : (!(ks.map fun k => decide (k ∈ ls)).any id) = apartL ks ls := by
        unfold apartL metL
        rw [Bool.eq_iff_iff]
        simp
      walk_at "rd"
      rw [e]
      exact k _ (s1.trans s4)
theorem ok_apartS {P : Program} {w : World} {K : PySem.W.Frag} {mg : Str → Option Value} {base : Heap} {A : Ad} (T : Txt K mg A) (G : FnOk P w K mg base CX0 10 A.a_apart A.d_apart ["one", "other"] (spApart0 A.c_Keyset A.c_Table)) : FnOk P w K mg base CX0 11 A.a_apart A.d_apart ["one", "other"] (spTold2 A.c_Keyset A.c_Table apartL) := by
  refine T.F_apart.ok sc_apart (fun vs H Q E h => ?_) (fun cdv A' outer s H vs Q E hr h => ?_)
  · exact len_told2 h
  · have nd := sc_apart.nd
    have hu := hu_of hr
    refine ⟨_, (pss_cons (ps_if (pt_cmpR op_gt (pe_meth0 (pv 0) T.cl_Keyset T.me_Keyset_many (ok_Keyset_many T) (hr.mono (by decide)) T.b_Keyset_many .nil pass0) (pe_meth0 (pv 1) T.cl_Keyset T.me_Keyset_many (ok_Keyset_many T) (hr.mono (by decide)) T.b_Keyset_many .nil pass0) (nomark _)) (pss_one (ps_ret (pe_call G (hr.mono (by decide)) rfl T.m_apart T.F_apart.kp T.b_apart .nil pass0 (pa_cons (pv 1) (pa_cons (pv 0) pa_nil))))) pss_nil) (pss_one (ps_ret (pe_not (pe_callB (cr_any rfl) rfl T.n_any (by decide +kernel) (pa_cons (pe_lc (own := [("key", 2)]) rfl nd (pi_list (pe_meth0 (pv 0) T.cl_Keyset T.me_Keyset_listed (ok_Keyset_listed T) (hr.mono (by decide)) T.b_Keyset_listed .nil pass0)) (blkOk_by (own := [("key", 2)]) (N := ["one", "other", "key"]) (sc := defScope s_apart) (by decide +kernel)) (fun _ _ _ _ _ => (pg_name (i := 2) nd rfl (Or.inl rfl))) (fun _ _ _ _ _ => pts_nil) (fun _ _ _ _ _ => (pe_meth (pv 1) T.cl_Keyset T.me_Keyset_has (ok_Keyset_has T) (hr.mono (by decide)) T.b_Keyset_has .nil passL (pa_cons (pv 2) pa_nil)))) pa_nil)))))), ?_⟩
    clear nd
    obtain ⟨a, b, fp1, fp2, ks, ls, rfl, h1, h2, k⟩ := h
    have kk := h1.key
    have nd := h1.nodup
    have kl := h1.len
    walk_at "rd"
    refine ⟨h1.met (by intros; with_unfolding_all rfl), _, _, _, rfl, h1, ?_⟩
    refine ⟨h2.met (by intros; with_unfolding_all rfl), _, _, _, rfl, h2, ?_⟩
    walk_at "rd"
    refine iteB (fun c => ?_) fun c => ?_
    · rw [apart_comm] at k
      exact ⟨b, a, fp2, fp1, ls, ks, rfl, h2, h1, by omega, k⟩
    refine ⟨h1.met (by intros; with_unfolding_all rfl), _, _, _, rfl, h1, fun H1 L ws s1 fL hL hw => ?_⟩
    have lw := KysAt.len hw
    walk_at "rd"
    refine ⟨⟨_, SqL.of hL⟩, fun D hD => ?_⟩
    refine go_lcm (walk_list (xs := ws)) (ks.map fun k => V.bl (decide (k ∈ ls))) (by rw [List.length_map]; exact lw.symm) (by rw [sizeLine_eq]; omega) hD (fun H s => SqL.of (s _ _ hL)) ?_ ?_ gName_mono
    · rintro N i x H4 H5 hi s4 ⟨rfl, hx⟩ hN
      obtain ⟨y, hy, hv⟩ := hw.get hx
      have yk := kk y (List.mem_of_getElem? hy)
      walk_at "rd"
      refine ⟨(h2.ext (s1.trans s4)).met (by intros; with_unfolding_all rfl), ⟨_, _, _, _, _, rfl, h2.ext (s1.trans s4), hv.same s4 _ _, yk.fitt, fun e => (by rw [yk.w] at e; cases e), fun _ H6 s6 => hN _ _ ?_ s6⟩⟩
      rw [List.getElem?_map, hy]
      rfl
    · intro H4 s4 hL4
      refine ⟨D, ks.map fun k => decide (k ∈ ls), rfl, SqL.of (by rw [List.map_map]; exact hL4), ?_⟩
      have e : (!(ks.map fun k => decide (k ∈ ls)).any id) = apartL ks ls := by
        unfold apartL metL
        rw [Bool.eq_iff_iff]
        simp
      walk_at "rd"
      rw [e]
      exact k _ (s1.trans s4)
theorem ok_apart {P : Program} {w : World} {K : PySem.W.Frag} {mg : Str → Option Value} {base : Heap} {A : Ad} (T : Txt K mg A) : FnOk P w K mg base CX0 11 A.a_apart A.d_apart ["one", "other"] (spTold2 A.c_Keyset A.c_Table apartL) := ok_apartS T (ok_apart0 T)
theorem sc_alike : FnScope ["one", "other"] ["one", "other"] (defScope s_alike) := ⟨rfl, rfl, rfl, by decide +kernel, rfl, by decide +kernel, by decide +kernel⟩
theorem ok_alike {P : Program} {w : World} {K : PySem.W.Frag} {mg : Str → Option Value} {base : Heap} {A : Ad} (T : Txt K mg A) : FnOk P w K mg base CX0 11 A.a_alike A.d_alike ["one", "other"] (spTold2 A.c_Keyset A.c_Table alikeL) := by
  refine T.F_alike.ok sc_alike (fun vs H Q E h => ?_) (fun cdv A' outer s H vs Q E hr h => ?_)
  · exact len_told2 h
  · have nd := sc_alike.nd
    have hu := hu_of hr
    refine ⟨_, (pss_one (ps_ret (pe_and (pe_cmpR op_eq (pe_meth0 (pv 0) T.cl_Keyset T.me_Keyset_many (ok_Keyset_many T) (hr.mono (by decide)) T.b_Keyset_many .nil pass0) (pe_meth0 (pv 1) T.cl_Keyset T.me_Keyset_many (ok_Keyset_many T) (hr.mono (by decide)) T.b_Keyset_many .nil pass0) (nomark _)) (pe_one (pe_call (ok_within T) (hr.mono (by decide)) rfl T.m_within T.F_within.kp T.b_within .nil pass0 (pa_cons (pv 0) (pa_cons (pv 1) pa_nil))))))), ?_⟩
    clear nd
    obtain ⟨a, b, fp1, fp2, ks, ls, rfl, h1, h2, k⟩ := h
    walk_at "rd"
    refine ⟨h1.met (by intros; with_unfolding_all rfl), _, _, _, rfl, h1, ?_⟩
    refine ⟨h2.met (by intros; with_unfolding_all rfl), _, _, _, rfl, h2, ?_⟩
    unfold alikeL at k
    walk_at "rd"
    refine iteB (fun c => ?_) fun c => ?_
    · rw [decide_eq_true (by omega), Bool.true_and] at k
      exact ⟨a, b, fp1, fp2, ks, ls, rfl, h1, h2, k⟩
    · rw [decide_eq_false (by omega), Bool.false_and] at k
      exact k _ (Same.refl _)

end Law
namespace Law
open PySem PySem.Spec PyProof.Rows L2 My
theorem sc_law_sign : FnScope ["_law_cell", "_law_some"] ["_law_cell"] (defScope s_law_sign) := ⟨rfl, rfl, rfl, by decide +kernel, rfl, by decide +kernel, by decide +kernel⟩
theorem ok_law_sign {P : Program} {w : World} {K : PySem.W.Frag} {mg : Str → Option Value} {base : Heap} {A : Ad} (T : Txt K mg A) : FnOk P w K mg base CX0 1 A.a_law_sign A.d_law_sign ["_law_cell"] spSign := by
  refine T.F_law_sign.ok sc_law_sign (fun vs H Q E h => ?_) (fun cdv A' outer s H vs Q E hr h => ?_)
  · exact len_any1 h
  · have nd := sc_law_sign.nd
    have hu := hu_of hr
    refine ⟨_, (pss_cons (ps_set (i := 1) nd rfl (Or.inl rfl) pe_str) (pss_cons (ps_set (i := 1) nd rfl (Or.inl rfl) (pe_op op_addT (pv 1) pe_str)) (pss_one (ps_ret (pe_ix ix_str (pv 1) (pe_op op_mod (pv 0) pe_int) (fun _ _ => rfl)))))), ?_⟩
    clear nd
    obtain ⟨n, rfl, k⟩ := h
    walk_at "rd"
    refine ⟨by with_unfolding_all decide, ?_⟩
    rw [signs_text]
    have n0 : 0 ≤ n % 94 := Int.emod_nonneg _ (by decide)
    have n1 : n % 94 < 94 := Int.emod_lt_of_pos _ (by decide)
    refine ⟨signAt (n % 94), by rw [SX.S_len]; with_unfolding_all decide, signAt_some n0 n1, k _ ⟨_, signAt_ok n0 n1, rfl⟩⟩
theorem sc_law_key : FnScope ["_law_cell", "_law_rest", "_law_way", "_law_k"] ["_law_cell"] (defScope s_law_key) := ⟨rfl, rfl, rfl, by decide +kernel, rfl, by decide +kernel, by decide +kernel⟩
theorem ok_law_key {P : Program} {w : World} {K : PySem.W.Frag} {mg : Str → Option Value} {base : Heap} {A : Ad} (T : Txt K mg A) : FnOk P w K mg base CX0 2 A.a_law_key A.d_law_key ["_law_cell"] spSetKey := by
  refine T.F_law_key.ok sc_law_key (fun vs H Q E h => ?_) (fun cdv A' outer s H vs Q E hr h => ?_)
  · exact len_setKey h
  · have nd := sc_law_key.nd
    have hu := hu_of hr
    refine ⟨_, (pss_cons (ps_set (i := 1) nd rfl (Or.inr rfl) (pe_op op_fdivW (pv 0) pe_int)) (pss_cons (ps_set (i := 2) nd rfl (Or.inl rfl) (pe_op op_mod (pv 0) pe_int)) (pss_cons (ps_if (pt_cmpR op_eq (pv 2) pe_int (nomark _)) (pss_one (ps_ret (pe_op op_mod (pv 1) pe_int))) pss_nil) (pss_cons (ps_if (pt_cmpR op_eq (pv 2) pe_int (nomark _)) (pss_one (ps_ret (pe_op op_add (pe_op op_mod (pv 1) pe_int) (pe_op op_mulX pe_int (pe_op op_mod (pe_op op_fdivW (pv 1) pe_int) pe_int))))) pss_nil) (pss_cons (ps_if (pt_cmpR op_eq (pv 2) pe_int (nomark _)) (pss_one (ps_ret (pe_op op_mulX (pe_op op_mod (pv 1) pe_int) pe_int))) pss_nil) (pss_cons (ps_if (pt_cmpR op_eq (pv 2) pe_int (nomark _)) (pss_one (ps_ret (pe_op op_sub (pe_op op_mod (pv 1) (pe_op op_sub (pe_op op_mulX pe_int (pe_op op_pow pe_int pe_int)) pe_int)) (pe_op op_sub (pe_op op_pow pe_int pe_int) pe_int)))) pss_nil) (pss_cons (ps_if (PW.pt (pw_and (pt_cmpR op_eq (pv 2) pe_int (nomark _)) (pw_and1 (pt_cmpR op_eq (pe_op op_mod (pe_op op_fdivW (pv 1) pe_int) pe_int) pe_int (nomark _))))) (pss_one (ps_ret (pe_ix ix_str pe_str (pe_op op_mod (pv 1) pe_int) (fun _ _ => rfl)))) pss_nil) (pss_cons (ps_if (pt_cmpR op_eq (pv 2) pe_int (nomark _)) (pss_one (ps_ret (pe_op op_addT (pe_op op_addT (pe_ix ix_str pe_str (pe_op op_mod (pv 1) pe_int) (fun _ _ => rfl)) (pe_ix ix_str pe_str (pe_op op_mod (pe_op op_fdivW (pv 1) pe_int) pe_int) (fun _ _ => rfl))) (pe_op op_mulS pe_str (pe_op op_mod (pe_op op_fdivW (pv 1) pe_int) pe_int))))) pss_nil) (pss_cons (ps_if (pt_cmpR op_eq (pv 2) pe_int (nomark _)) (pss_one (ps_ret (pe_m1 PySem.F.slot_str_join PySem.F.type_str_join mt_joinq pe_str (pe_lc (own := [("_law_k", 3)]) rfl nd (pi_range1 rfl T.n_range (pa_cons (pe_op op_mod (pv 1) pe_int) pa_nil)) (blkOk_by (own := [("_law_k", 3)]) (N := ["_law_cell", "_law_rest", "_law_way", "_law_k"]) (sc := defScope s_law_key) (by decide +kernel)) (fun _ _ _ _ _ => (pg_name (i := 3) nd rfl (Or.inl rfl))) (fun _ _ _ _ _ => pts_nil) (fun _ _ _ _ _ => (pe_call (ok_law_sign T) (hr.mono (by decide)) rfl T.m_law_sign T.F_law_sign.kp T.b_law_sign .nil pass0 (pa_cons (pe_op op_add (pe_op op_fdivW (pv 1) pe_int) (pe_op op_mulX (pe_op op_mod (pe_op op_fdivW (pv 1) pe_int) pe_int) (pv 3))) pa_nil))))))) pss_nil) (pss_one (ps_ret (pe_tup (pa_cons (pe_op op_mod (pv 1) pe_int) (pa_cons (pe_slice sl_str pe_str po_none (po_some (pe_op op_mod (pe_op op_fdivW (pv 1) pe_int) pe_int))) (pa_cons (pe_ix ix_list (pe_lst (pa_cons (pe_tup pa_nil) (pa_cons (pe_tup (pa_cons (pe_op op_mod (pe_op op_fdivW (pv 1) pe_int) pe_int) pa_nil)) pa_nil))) (pe_op op_mod (pe_op op_fdivW (pv 1) pe_int) pe_int) (fun _ _ => rfl)) pa_nil))))))))))))))), ?_⟩
    clear nd
    obtain ⟨n, rfl, k⟩ := h
    walk_at "rd"
    walk_at "dt"
    all_goals try (exfalso; omega)
    · exact k _ _ _ (Same.refl _) (.num _) (.num (by omega))
    · exact k _ _ _ (Same.refl _) (.num _) (.num (by omega))
    · exact k _ _ _ (Same.refl _) (.num _) (.num (by omega))
    · exact k _ _ _ (Same.refl _) (.num _) (.num (by omega))
    · rw [digs_S]
      obtain ⟨c, hc, e⟩ := at_code (l := [48, 49, 50, 51, 52, 53, 54, 55, 56, 57]) (i := n / 7 % 10) (by omega) (by simp; omega) (by unfold codesOk; decide)
      exact ⟨c, by rw [SX.S_len]; walk_at "sz", e, k _ _ _ (Same.refl _) (.txt _) (SKey.txt (l := [c]) (codes_one hc) (by simp))⟩
    · rw [abC_S]
      obtain ⟨c, hc, e⟩ := at_code (l := [97, 98, 67]) (i := n / 7 % 3) (by omega) (by simp; omega) (by unfold codesOk; decide)
      obtain ⟨d, hd, f⟩ := at_code (l := [97, 98, 67]) (i := n / 7 / 3 % 3) (by omega) (by simp; omega) (by unfold codesOk; decide)
      refine ⟨c, by rw [SX.S_len]; walk_at "sz", e, by walk_at "side", d, by rw [SX.S_len]; walk_at "sz", f, by rw [S_item, S_item, SX.S_len, SX.S_len]; walk_at "sz", by walk_at "side", 98, by decide +kernel, by omega, ?_, ?_⟩
      · rw [S_item, S_item, SX.S_cat, SX.S_len, SX.S_len, List.length_replicate, sizeLine_eq]
        simp only [List.length_append, List.length_cons, List.length_nil]
        omega
      · rw [S_item, S_item, SX.S_cat, SX.S_cat]
        refine k _ _ _ (Same.refl _) (.txt _) (SKey.txt (codesOk_append (codesOk_append (codes_one hc) (codes_one hd)) fun x hx => ?_) ?_)
        · have := (List.mem_replicate.mp hx).2
          omega
        · simp only [List.length_append, List.length_cons, List.length_nil, List.length_replicate]
          omega
    · intro D hD
      refine go_lcx walk_range (fun i y H => ∃ c : Nat, (32 ≤ c ∧ c ≤ 126) ∧ y = V.str ⟨#[c]⟩) (by rw [sizeLine_eq]; omega) hD (fun _ _ => trivial) (fun _ _ _ _ h _ => h) ?_ ?_ gName_mono
      · rintro N i x H4 H2 hi sm ⟨rfl, rfl⟩ hN
        walk_at "rd"
        refine ⟨by walk_at "side", by walk_at "side", mulL (by omega) (by omega), ?_⟩
        exact ⟨_, rfl, fun v hv => hN _ _ (Same.refl _) hv⟩
      · intro H2 ys s2 hD2 hl hF
        obtain ⟨l, hc, rfl⟩ := ones_of hF
        rw [List.length_map] at hl
        refine join_ones (SqL.of hD2) (by omega) fun ys e => ?_
        rw [e]
        exact k _ _ _ s2 (.txt _) (SKey.txt hc (by omega))
    · intro p hp
      refine ⟨by walk_at "side", by walk_at "sz", fun p1 hp1 => ⟨by walk_at "sz", fun p2 hp2 => ⟨by walk_at "side", ?_⟩⟩⟩
      rw [ab_S]
      have cc : ∃ l : List Nat, codesOk l ∧ l.length ≤ 2 ∧ cutS (SX.S [97, 98]) none (some (n / 7 / 3 % 3)) = SX.S l := by
        obtain ⟨j, hj⟩ : ∃ j : Nat, n / 7 / 3 % 3 = (j : Int) := ⟨(n / 7 / 3 % 3).toNat, by omega⟩
        rw [hj, cut_Shi (by simp; omega)]
        exact ⟨_, codesOk_take (by unfold codesOk; decide) _, by rw [List.length_take]; exact Nat.min_le_right _ _, rfl⟩
      obtain ⟨l, hc, hl, el⟩ := cc
      rw [el]
      have kx : KOk 1 (.txt (SX.S l)) := .txt hc (by omega)
      rcases (by omega : n / 7 / 18 % 2 = 0 ∨ n / 7 / 18 % 2 = 1) with e | e
      · rw [e]
        refine ⟨_, _, SqL.of upd_same, rfl, by walk_at "sz", fun p3 hp3 => ?_⟩
        have e0 : upd (upd (upd (upd H p (HO.tup [])) p1 (HO.tup [V.int (n / 7 / 9 % 2)])) p2 (HO.lst [V.ref p, V.ref p1])) p3 (HO.tup [V.int (n / 7 % 3), V.str (SX.S l), V.ref p]) p = some (.tup []) := by walk_at "hp"
        refine k _ _ (.tup [.num _, .txt (SX.S l), .tup []]) (by walk_at "same") (.tup upd_same (.cons (.num _) (.cons (.txt _) (.cons (.tup e0 .nil) .nil)))) ⟨.tup (d := 2) (fun y hy => ?_) (by simp), fun _ _ z => by cases z⟩
        simp only [List.mem_cons, List.not_mem_nil, or_false] at hy
        rcases hy with rfl | rfl | rfl
        · exact .num (by omega)
        · exact kx.mono (by decide)
        · exact KOk.mono (KOk.tup (d := 0) (ks := []) (fun _ h => by cases h) (by decide)) (by decide)
      · rw [e]
        refine ⟨_, _, SqL.of upd_same, rfl, by walk_at "sz", fun p3 hp3 => ?_⟩
        have e0 : upd (upd (upd (upd H p (HO.tup [])) p1 (HO.tup [V.int (n / 7 / 9 % 2)])) p2 (HO.lst [V.ref p, V.ref p1])) p3 (HO.tup [V.int (n / 7 % 3), V.str (SX.S l), V.ref p1]) p1 = some (.tup [V.int (n / 7 / 9 % 2)]) := by walk_at "hp"
        refine k _ _ (.tup [.num _, .txt (SX.S l), .tup [.num _]]) (by walk_at "same") (.tup upd_same (.cons (.num _) (.cons (.txt _) (.cons (.tup e0 (.cons (.num _) .nil)) .nil)))) ⟨.tup (d := 2) (fun y hy => ?_) (by simp), fun _ _ z => by cases z⟩
        simp only [List.mem_cons, List.not_mem_nil, or_false] at hy
        rcases hy with rfl | rfl | rfl
        · exact .num (by omega)
        · exact kx.mono (by decide)
        · exact KOk.mono (KOk.tup (d := 0) (ks := [.num _]) (fun y h => by rw [List.mem_singleton] at h; rw [h]; exact .num (by omega)) (by simp)) (by decide)

end Law
namespace Law
open PySem PySem.Spec PyProof.Rows L2 My
theorem sc_law_same : FnScope ["_law_found", "_law_due", "_law_k"] ["_law_found", "_law_due"] (defScope s_law_same) := ⟨rfl, rfl, rfl, by decide +kernel, rfl, by decide +kernel, by decide +kernel⟩
theorem ok_law_same0 {P : Program} {w : World} {K : PySem.W.Frag} {mg : Str → Option Value} {base : Heap} {A : Ad} (T : Txt K mg A) : FnOk P w K mg base CX0 (0 + 1) A.a_law_same A.d_law_same ["_law_found", "_law_due"] (spSameK 0) := by
  refine T.F_law_same.ok sc_law_same (fun vs H Q E h => ?_) (fun cdv A' outer s H vs Q E hr h => ?_)
  · exact len_sameK h
  · have nd := sc_law_same.nd
    have hu := hu_of hr
    refine ⟨_, (pss_cons (ps_if (pt_val (pe_callB call_isiF rfl T.n_isinstance (by decide +kernel) (pa_cons (pv 1) (pa_cons (pe_bltn (v := .ty "tuple") rfl T.n_tuple (by decide +kernel) rfl) pa_nil)))) pss_never pss_nil) (pss_cons (ps_if (pt_val (pe_callB call_isiF rfl T.n_isinstance (by decide +kernel) (pa_cons (pv 1) (pa_cons (pe_bltn (v := .ty "str") rfl T.n_str (by decide +kernel) rfl) pa_nil)))) (pss_one (ps_ret (pe_and (pe_callB call_isiF rfl T.n_isinstance (by decide +kernel) (pa_cons (pv 0) (pa_cons (pe_bltn (v := .ty "str") rfl T.n_str (by decide +kernel) rfl) pa_nil))) (pe_one (pe_cmpR (op_eqD hr.units) (pv 0) (pv 1) (nomark _)))))) pss_nil) (pss_one (ps_ret (pe_and (pe_callB call_isiF rfl T.n_isinstance (by decide +kernel) (pa_cons (pv 0) (pa_cons (pe_bltn (v := .ty "int") rfl T.n_int (by decide +kernel) rfl) pa_nil))) (pe_and (pe_not (pe_callB call_isiF rfl T.n_isinstance (by decide +kernel) (pa_cons (pv 0) (pa_cons (pe_bltn (v := .ty "bool") rfl T.n_bool (by decide +kernel) rfl) pa_nil)))) (pe_one (pe_cmpR (op_eqD hr.units) (pv 0) (pv 1) (nomark _))))))))), ?_⟩
    clear nd
    obtain ⟨v, w, k, rfl, hv, hw, ⟨hz, hg, hd⟩, q⟩ := h
    walk_at "rd"
    cases k with
    | num i =>
      cases hv
      cases hw
      walk_at "rd"
      refine eq_keys (k := .num i) (l := .num i) (.num i) (.num i) hg hg (by omega) (by omega) ?_
      rw [decide_eq_true rfl]
      exact q _ (Same.refl _)
    | txt x =>
      cases hv
      cases hw
      walk_at "rd"
      refine eq_keys (k := .txt x) (l := .txt x) (.txt x) (.txt x) hg hg (by simp [Ky.dep]) (by simp [Ky.dep]) ?_
      rw [decide_eq_true rfl]
      exact q _ (Same.refl _)
    | tup ks => rw [Ky.dep] at hd; omega
    | bl b => simp [Ky.good] at hg
    | non => simp [Ky.good] at hg
    | lst n => simp [Ky.good] at hg
    | dct => simp [Ky.good] at hg
theorem ok_law_sameS {P : Program} {w : World} {K : PySem.W.Frag} {mg : Str → Option Value} {base : Heap} {A : Ad} (T : Txt K mg A) {n : Nat} (G : FnOk P w K mg base CX0 (n + 1) A.a_law_same A.d_law_same ["_law_found", "_law_due"] (spSameK n)) : FnOk P w K mg base CX0 (n + 1 + 1) A.a_law_same A.d_law_same ["_law_found", "_law_due"] (spSameK (n + 1)) := by
  refine T.F_law_same.ok sc_law_same (fun vs H Q E h => ?_) (fun cdv A' outer s H vs Q E hr h => ?_)
  · exact len_sameK h
  · have nd := sc_law_same.nd
    have hu := hu_of hr
    refine ⟨_, (pss_cons (ps_if (pt_val (pe_callB call_isiF rfl T.n_isinstance (by decide +kernel) (pa_cons (pv 1) (pa_cons (pe_bltn (v := .ty "tuple") rfl T.n_tuple (by decide +kernel) rfl) pa_nil)))) (pss_cons (ps_if (PW.pt (pw_or (pt_not (pt_val (pe_callB call_isiF rfl T.n_isinstance (by decide +kernel) (pa_cons (pv 0) (pa_cons (pe_bltn (v := .ty "tuple") rfl T.n_tuple (by decide +kernel) rfl) pa_nil))))) (pw_or1 (pt_cmpR op_ne (pe_callB call_lenU rfl T.n_len PySem.boot_len (pa_cons (pv 0) pa_nil)) (pe_callB call_lenU rfl T.n_len PySem.boot_len (pa_cons (pv 1) pa_nil)) (nomark _))))) (pss_one (ps_ret pe_bl)) pss_nil) (pss_one (ps_ret (pe_callB (cr_all rfl) rfl T.n_all (by decide +kernel) (pa_cons (pe_lc (own := [("_law_k", 2)]) rfl nd (pi_range1 rfl T.n_range (pa_cons (pe_callB call_lenU rfl T.n_len PySem.boot_len (pa_cons (pv 1) pa_nil)) pa_nil)) (blkOk_by (own := [("_law_k", 2)]) (N := ["_law_found", "_law_due", "_law_k"]) (sc := defScope s_law_same) (by decide +kernel)) (fun _ _ _ _ _ => (pg_name (i := 2) nd rfl (Or.inl rfl))) (fun _ _ _ _ _ => pts_nil) (fun _ _ _ _ _ => (pe_call G (hr.mono (Nat.le_refl _)) rfl T.m_law_same T.F_law_same.kp T.b_law_same .nil pass0 (pa_cons (pe_ix (ix_tupK K rfl) (pv 0) (pv 2) (fun _ _ => rfl)) (pa_cons (pe_ix (ix_tupK K rfl) (pv 1) (pv 2) (fun _ _ => rfl)) pa_nil))))) pa_nil))))) pss_nil) (pss_cons (ps_if (pt_val (pe_callB call_isiF rfl T.n_isinstance (by decide +kernel) (pa_cons (pv 1) (pa_cons (pe_bltn (v := .ty "str") rfl T.n_str (by decide +kernel) rfl) pa_nil)))) (pss_one (ps_ret (pe_and (pe_callB call_isiF rfl T.n_isinstance (by decide +kernel) (pa_cons (pv 0) (pa_cons (pe_bltn (v := .ty "str") rfl T.n_str (by decide +kernel) rfl) pa_nil))) (pe_one (pe_cmpR (op_eqD hr.units) (pv 0) (pv 1) (nomark _)))))) pss_nil) (pss_one (ps_ret (pe_and (pe_callB call_isiF rfl T.n_isinstance (by decide +kernel) (pa_cons (pv 0) (pa_cons (pe_bltn (v := .ty "int") rfl T.n_int (by decide +kernel) rfl) pa_nil))) (pe_and (pe_not (pe_callB call_isiF rfl T.n_isinstance (by decide +kernel) (pa_cons (pv 0) (pa_cons (pe_bltn (v := .ty "bool") rfl T.n_bool (by decide +kernel) rfl) pa_nil)))) (pe_one (pe_cmpR (op_eqD hr.units) (pv 0) (pv 1) (nomark _))))))))), ?_⟩
    clear nd
    obtain ⟨v, w, k, rfl, hv, hw, ⟨hz, hg, hd⟩, q⟩ := h
    walk_at "rd"
    cases k with
    | num i =>
      cases hv
      cases hw
      walk_at "rd"
      refine eq_keys (k := .num i) (l := .num i) (.num i) (.num i) hg hg (by simp [Ky.dep]) (by simp [Ky.dep]) ?_
      rw [decide_eq_true rfl]
      exact q _ (Same.refl _)
    | txt x =>
      cases hv
      cases hw
      walk_at "rd"
      refine eq_keys (k := .txt x) (l := .txt x) (.txt x) (.txt x) hg hg (by simp [Ky.dep]) (by simp [Ky.dep]) ?_
      rw [decide_eq_true rfl]
      exact q _ (Same.refl _)
    | tup ks => 
      cases hv with
      | @tup a xs _ h p =>
        cases hw with
        | @tup b ys _ h' p' =>
          have e1 := KysAt.len p
          have e2 := KysAt.len p'
          have hk := (tup_val hz).1
          simp only [isi_tup_tuple h, isi_tup_tuple h']
          walk_at "rd"
          refine ⟨_, .inr (SqT.of h), _, .inr (SqT.of h'), iteN (by omega) ⟨_, .inr (SqT.of h'), ⟨by omega, by omega⟩, fun D hD => ?_⟩⟩
          refine go_lct (walk_range (n := ys.length)) (by rw [sizeLine_eq]; omega) hD (fun _ _ => trivial) ?_ (fun H s hl => all_true hl (q _ s)) gName_mono
          rintro N i x H4 H5 hi s4 ⟨rfl, rfl⟩ hN
          walk_at "rd"
          obtain ⟨x1, h1, a1⟩ := at_any (xs := xs) (c := (i : Nat)) (by omega) (by omega)
          obtain ⟨y1, h2, a2⟩ := at_any (xs := ys) (c := (i : Nat)) (by omega) (by omega)
          rw [Int.toNat_natCast] at h1 h2
          obtain ⟨k1, hk1, hx⟩ := p.get h1
          obtain ⟨k2, hk2, hy⟩ := p'.get h2
          rw [hk1] at hk2
          cases hk2
          have d1 := deps_get hk1
          rw [Ky.dep] at hd
          exact ⟨_, _, SqT.of (s4 _ _ h), a1, _, _, SqT.of (s4 _ _ h'), a2, x1, y1, k1, rfl, hx.same s4 _ _, hy.same s4 _ _, ⟨vals_get (tup_val hz).2 hk1, goods_get (by simpa [Ky.good] using hg) hk1, by omega⟩, fun H7 s7 => hN _ s7⟩
    | bl b => simp [Ky.good] at hg
    | non => simp [Ky.good] at hg
    | lst n => simp [Ky.good] at hg
    | dct => simp [Ky.good] at hg
theorem ok_law_same {P : Program} {w : World} {K : PySem.W.Frag} {mg : Str → Option Value} {base : Heap} {A : Ad} (T : Txt K mg A) : ∀ n : Nat, FnOk P w K mg base CX0 (n + 1) A.a_law_same A.d_law_same ["_law_found", "_law_due"] (spSameK n)
  | 0 => ok_law_same0 T
  | n + 1 => ok_law_sameS T (ok_law_same T n)
theorem sc_law_row : FnScope ["_law_found", "_law_row_here", "_law_k"] ["_law_found", "_law_row_here"] (defScope s_law_row) := ⟨rfl, rfl, rfl, by decide +kernel, rfl, by decide +kernel, by decide +kernel⟩
theorem ok_law_row {P : Program} {w : World} {K : PySem.W.Frag} {mg : Str → Option Value} {base : Heap} {A : Ad} (T : Txt K mg A) : FnOk P w K mg base CX0 6 A.a_law_row A.d_law_row ["_law_found", "_law_row_here"] (spRowK K) := by
  refine T.F_law_row.ok sc_law_row (fun vs H Q E h => ?_) (fun cdv A' outer s H vs Q E hr h => ?_)
  · exact len_rowK h
  · have nd := sc_law_row.nd
    have hu := hu_of hr
    refine ⟨_, (pss_cons (ps_if (PW.pt (pw_or (pt_not (pt_val (pe_callB call_isiF rfl T.n_isinstance (by decide +kernel) (pa_cons (pv 0) (pa_cons (pe_bltn (v := .ty "list") rfl T.n_list (by decide +kernel) rfl) pa_nil))))) (pw_or1 (pt_cmpR op_ne (pe_callB call_lenU rfl T.n_len PySem.boot_len (pa_cons (pv 0) pa_nil)) (pe_callB call_lenU rfl T.n_len PySem.boot_len (pa_cons (pv 1) pa_nil)) (nomark _))))) (pss_one (ps_ret pe_bl)) pss_nil) (pss_one (ps_ret (pe_callB (cr_all rfl) rfl T.n_all (by decide +kernel) (pa_cons (pe_lc (own := [("_law_k", 2)]) rfl nd (pi_range1 rfl T.n_range (pa_cons (pe_callB call_lenU rfl T.n_len PySem.boot_len (pa_cons (pv 1) pa_nil)) pa_nil)) (blkOk_by (own := [("_law_k", 2)]) (N := ["_law_found", "_law_row_here", "_law_k"]) (sc := defScope s_law_row) (by decide +kernel)) (fun _ _ _ _ _ => (pg_name (i := 2) nd rfl (Or.inl rfl))) (fun _ _ _ _ _ => pts_nil) (fun _ _ _ _ _ => (pe_call (ok_law_same T 4) (hr.mono (by decide)) rfl T.m_law_same T.F_law_same.kp T.b_law_same .nil pass0 (pa_cons (pe_ix (ix_listK K rfl) (pv 0) (pv 2) (fun _ _ => rfl)) (pa_cons (pe_ix (ix_listK K rfl) (pv 1) (pv 2) (fun _ _ => rfl)) pa_nil))))) pa_nil))))), ?_⟩
    clear nd
    obtain ⟨a, b, xs, ys, ks, rfl, ha, hb, hx, hy, kk, kl, k⟩ := h
    have e1 := KysAt.len hx
    have e2 := KysAt.len hy
    walk_at "rd"
    simp only [isi_lst_list ha]
    walk_at "rd"
    refine ⟨_, .inl (SqL.of ha), _, .inl (SqL.of hb), iteN (by omega) ⟨_, .inl (SqL.of hb), ⟨by omega, by omega⟩, fun D hD => ?_⟩⟩
    refine go_lct (walk_range (n := ys.length)) (by rw [sizeLine_eq]; omega) hD (fun _ _ => trivial) ?_ (fun H s hl => all_true hl (k _ s)) gName_mono
    rintro N i x H4 H5 hi s4 ⟨rfl, rfl⟩ hN
    walk_at "rd"
    obtain ⟨x1, h1, a1⟩ := at_any (xs := xs) (c := (i : Nat)) (by omega) (by omega)
    obtain ⟨y1, h2, a2⟩ := at_any (xs := ys) (c := (i : Nat)) (by omega) (by omega)
    rw [Int.toNat_natCast] at h1 h2
    obtain ⟨k1, hk1, hx⟩ := hx.get h1
    obtain ⟨k2, hk2, hy⟩ := hy.get h2
    rw [hk1] at hk2
    cases hk2
    have yk := kk k1 (List.mem_of_getElem? hk1)
    exact ⟨_, _, SqL.of (s4 _ _ ha), a1, _, _, SqL.of (s4 _ _ hb), a2, x1, y1, k1, rfl, hx.same s4 _ _, hy.same s4 _ _, ⟨yk.val, yk.g, Nat.le_trans yk.d (by decide)⟩, fun H7 s7 => hN _ s7⟩

end Law
namespace My
open PySem PySem.Spec PyProof.Rows L2
/-! a set that a law owns -/
def KW (Hb H : Hp) (C CT x : Addr) (ks : List Ky) : Prop := Same Hb H ∧ ∃ fp, KsAt H C CT x fp ks ∧ ∀ y ∈ fp, Fresh Hb y
section
variable {Hb H H' : Hp} {C CT x a : Addr} {ks : List Ky}
theorem KsAt.alloc {fp : List Addr} (h : KsAt H C CT x fp ks) {l : Addr} (f : Fresh H l) : l ∉ fp := by
  obtain ⟨dx, t, fq, S, rfl, ha, hS, na, q⟩ := h
  intro m
  rcases List.mem_cons.mp m with rfl | m
  · exact f.ne ha rfl
  · exact hS.alloc f m
theorem KW.ext (g : KW Hb H C CT x ks) (s : Same H H') : KW Hb H' C CT x ks := by
  obtain ⟨sm, fp, h, f⟩ := g
  exact ⟨sm.trans s, fp, h.ext s, f⟩
theorem KW.step (g : KW Hb H C CT x ks) : ∃ fp, KsAt H C CT x fp ks ∧ ∀ H' fp' ks', Gr fp H H' → Sub fp' fp H → KsAt H' C CT x fp' ks' → KW Hb H' C CT x ks' := by
  obtain ⟨sm, fp, h, f⟩ := g
  exact ⟨fp, h, fun H' fp' ks' gr sb h' => ⟨gr.same sm f, fp', h', sb.fresh sm f⟩⟩
theorem KW.base (g : KW Hb H C CT x ks) {l : Addr} {o : HO} (fl : Fresh H l) : KW (upd Hb l o) (upd H l o) C CT x ks := by
  obtain ⟨sm, fp, h, f⟩ := g
  refine ⟨fun b u q => ?_, fp, h.ext (Same_upd (Same.refl H) fl), fun y m => ?_⟩
  · by_cases c : b = l
    · rw [c, upd_same] at q
      rw [c, upd_same]
      exact q
    · rw [upd_ne c] at q
      rw [upd_ne c]
      exact sm _ _ q
  · have n : y ≠ l := fun e => h.alloc fl (by rw [← e]; exact m)
    unfold Fresh
    rw [upd_ne n]
    exact f y m
end
/-- a comprehension whose items are keys of a kind -/
theorem go_lcP {J : It} {n : Nat} {G : Hp → Prop} {Y : Nat → Hp → V → Hp → Prop} (w : L2.Walk J n G Y) {g : TG} {te : TE} {vs : List Nat} {σ : L2.St} {H1 : Hp} {D : Addr} {Qd : Hp → Prop} (P : Ky → Prop) (hP : ∀ k, P k → k.val = true) (hz : n ≤ sizeLine) (hD : Fresh H1 D)
    (hG : ∀ H, Same H1 H → G H)
    (hs : ∀ (N : VK) i x H H', i < n → Same H1 H → Y i H x H' → (∀ y k H4, P k → Same H H4 → KyAt H4 y k → N y H4) → g x (wipe σ vs) H' fun σ2 H2 => wipe σ2 vs = wipe σ vs ∧ te σ2 H2 N)
    (hd : ∀ H ys ks, Same H1 H → H D = some (.lst ys) → KysAt H ys ks → (∀ k ∈ ks, P k) → ks.length = n → Qd H) (mono : ∀ (A B : L2.St → Hp → Prop) x σ H, (∀ σ H, A σ H → B σ H) → g x σ H A → g x σ H B) : lcGo J g tYes te vs σ H1 D Qd := by
  refine lc_it w (fun i H => Same H1 H ∧ i ≤ n ∧ ∃ ys ks, H D = some (.lst ys) ∧ KysAt H ys ks ∧ (∀ k ∈ ks, P k) ∧ ks.length = i) ⟨Same_upd (Same.refl _) hD, Nat.zero_le _, [], [], upd_same, .nil, (fun _ h => by cases h), rfl⟩ (fun i H _ h => hG H h.1) ?_ ?_
  · rintro i x H H' hi ⟨sm, hin, ys, ks, hL, hk, hp, hl⟩ hY
    refine mono _ _ _ _ _ ?_ (hs (fun y H4 => ∃ acc, H4 D = some (.lst acc) ∧ acc.length < sizeLine ∧ (Same H1 (upd H4 D (.lst (acc ++ [y]))) ∧ i + 1 ≤ n ∧ ∃ zs ks, (upd H4 D (.lst (acc ++ [y]))) D = some (.lst zs) ∧ KysAt (upd H4 D (.lst (acc ++ [y]))) zs ks ∧ (∀ k ∈ ks, P k) ∧ ks.length = i + 1)) i x H H' hi sm hY ?_)
    · rintro σ2 H2 ⟨e, h⟩
      refine ⟨e, ?_⟩
      unfold tYes
      dsimp only
      rw [if_pos rfl]
      exact h
    · intro y k H4 pk s4 hy
      have lk := KysAt.len hk
      have hp' : ∀ z ∈ ks ++ [k], P z := fun z m => by
        rcases List.mem_append.mp m with m | m
        · exact hp z m
        · rw [List.mem_singleton] at m
          rw [m]
          exact pk
      refine ⟨ys, s4 _ _ hL, by omega, Same_upd0 (sm.trans s4) hD, hi, _, ks ++ [k], upd_same, ?_, hp', by simp [hl]⟩
      exact KysAt.keep but_one (noTup_one (s4 _ _ hL) fun _ z => by cases z) _ _ (vals_iff.mpr fun z m => hP z (hp' z m)) ((hk.same s4 _ _).append (.cons hy .nil))
  · rintro H ⟨sm, -, ys, ks, hL, hk, hp, hl⟩
    exact hd H ys ks sm hL hk hp hl
def spSecond (K : PySem.W.Frag) : Sp := fun vs H Q _ => ∃ (a b : Addr) (ns : List Int) (ws : List V) (ks : List Ky), vs = [.ref a, .ref b] ∧ SqL K H a (ns.map V.int) ∧ H b = some (.lst ws) ∧ KysAt H ws ks ∧ (∀ k ∈ ks, SKey k) ∧ ns.length ≤ 63 ∧ ks.length ≤ 5000 ∧
  ∀ H' L us ls, Same H H' → Fresh H L → H' L = some (.lst us) → KysAt H' us ls → (∀ k ∈ ls, SKey k) → ls.length = ns.length → Q (.ref L) H'
theorem len_second {K : PySem.W.Frag} {vs H Q E} (h : spSecond K vs H Q E) : vs.length = 2 := by obtain ⟨_, _, _, _, _, rfl, _⟩ := h; rfl
def spLived (C CT : Addr) : Sp := fun vs H Q _ => ∃ b n ws ks, vs = [.ref b, .int n] ∧ H b = some (.lst ws) ∧ KysAt H ws ks ∧ (∀ k ∈ ks, SKey k) ∧ ks.Nodup ∧ ks.length ≤ 1000 ∧ ∀ H' x fp, Same H H' → (∀ y ∈ fp, Fresh H y) → KsAt H' C CT x fp ks → Q (.ref x) H'
theorem len_lived {C CT : Addr} {vs H Q E} (h : spLived C CT vs H Q E) : vs.length = 2 := by obtain ⟨_, _, _, _, rfl, _⟩ := h; rfl
def spMadeW (C CT : Addr) : Sp := fun vs H Q _ => ∃ w a b fp1 fp2 ks ls, vs = [.int w, .ref a, .ref b] ∧ KsAt H C CT a fp1 ks ∧ KsAt H C CT b fp2 ls ∧ ks.length + ls.length ≤ 1365 ∧ ∀ H' x fp, Same H H' → (∀ y ∈ fp, Fresh H y) → KsAt H' C CT x fp (madeL w ks ls) → Q (.ref x) H'
theorem len_madeW {C CT : Addr} {vs H Q E} (h : spMadeW C CT vs H Q E) : vs.length = 3 := by obtain ⟨_, _, _, _, _, _, _, rfl, _⟩ := h; rfl
def spDueW (K : PySem.W.Frag) : Sp := fun vs H Q _ => ∃ w a b ws us ks ls, vs = [.int w, .ref a, .ref b] ∧ H a = some (.lst ws) ∧ H b = some (.lst us) ∧ KysAt H ws ks ∧ KysAt H us ls ∧ (∀ k ∈ ks, KeyOk k) ∧ (∀ k ∈ ls, KeyOk k) ∧ ks.length ≤ 2000 ∧ ls.length ≤ 2000 ∧
  ∀ H' L zs, Same H H' → Fresh H L → H' L = some (.lst zs) → KysAt H' zs (madeL w ks ls) → Q (.ref L) H'
theorem len_dueW {K : PySem.W.Frag} {vs H Q E} (h : spDueW K vs H Q E) : vs.length = 3 := by obtain ⟨_, _, _, _, _, _, _, rfl, _⟩ := h; rfl
def spIsSet (C CT : Addr) : Sp := fun vs H Q _ => ∃ x b fp ws ks, vs = [.ref x, .ref b] ∧ KsAt H C CT x fp ks ∧ H b = some (.lst ws) ∧ KysAt H ws ks ∧ ∀ H', Same H H' → Q (.bl true) H'
theorem len_isSet {C CT : Addr} {vs H Q E} (h : spIsSet C CT vs H Q E) : vs.length = 2 := by obtain ⟨_, _, _, _, _, rfl, _⟩ := h; rfl
/-! made and changed again -/
def goneK (k : Nat) : Ky := .tup [.txt "gone", .num k]
def gones (m : Nat) : List Ky := (List.range m).map goneK
theorem gone_key (k : Nat) (h : k < 100) : KeyOk (goneK k) := by
  refine .tup (d := 2) (fun y hy => ?_) (by simp)
  simp only [List.mem_cons, List.not_mem_nil, or_false] at hy
  rcases hy with rfl | rfl
  · have e : (Str.ofString "gone") = SX.S [103, 111, 110, 101] := by decide +kernel
    show KOk 2 (.txt (Str.ofString "gone"))
    rw [e]
    exact .txt (by unfold codesOk; decide) (by simp)
  · exact .num (by omega)
theorem gones_key {m : Nat} (h : m < 100) : ∀ k ∈ gones m, KeyOk k := fun k hk => by
  obtain ⟨j, hj, rfl⟩ := List.mem_map.mp hk
  rw [List.mem_range] at hj
  exact gone_key j (by omega)
theorem gones_nd (m : Nat) : (gones m).Nodup := by
  unfold gones
  rw [List.nodup_iff_pairwise_ne, List.pairwise_map]
  refine List.Pairwise.imp (fun {a b} h e => h ?_) (List.nodup_iff_pairwise_ne.mp List.nodup_range)
  unfold goneK at e
  simp at e
  omega
theorem gones_succ (m : Nat) : gones (m + 1) = gones m ++ [goneK m] := by
  unfold gones
  rw [List.range_succ, List.map_append]
  rfl
theorem dropL_mid {a b : List Ky} {k : Ky} (h : (a ++ k :: b).Nodup) : dropL (a ++ k :: b) k = a ++ b := by
  unfold dropL
  rw [List.nodup_append, List.nodup_cons] at h
  obtain ⟨h1, ⟨h2, h3⟩, h4⟩ := h
  rw [List.filter_append, List.filter_cons, if_neg (by simp), List.filter_eq_self.mpr, List.filter_eq_self.mpr]
  · intro x m
    exact decide_eq_true fun e => h2 (by rw [← e]; exact m)
  · intro x m
    exact decide_eq_true fun e => h4 x m k List.mem_cons_self e
theorem drop_cons {l : List Ky} {i : Nat} {y : Ky} (h : l[i]? = some y) : l.drop i = y :: l.drop (i + 1) := by
  obtain ⟨hi, e⟩ := List.getElem?_eq_some_iff.mp h
  rw [← e, List.getElem_cons_drop]
theorem take_snoc {l : List Ky} {i : Nat} {y : Ky} (h : l[i]? = some y) : l.take (i + 1) = l.take i ++ [y] := by
  obtain ⟨hi, e⟩ := List.getElem?_eq_some_iff.mp h
  rw [List.take_succ_eq_append_getElem hi, e]
theorem lived_start {g ks : List Ky} {m : Nat} (h : ks.Nodup) (hg : g.Nodup) (d : ∀ k ∈ ks, k ∉ g) : (g ++ (ks.drop m ++ ks.take m)).Nodup := by
  have hn : (ks.drop m ++ ks.take m).Nodup := by
    have p : (ks.drop m ++ ks.take m).Perm ks := List.perm_append_comm.trans (by rw [List.take_append_drop])
    exact p.nodup_iff.mpr h
  rw [List.nodup_append]
  refine ⟨hg, hn, fun x hx y hy e => d y ?_ (by rw [← e]; exact hx)⟩
  rcases List.mem_append.mp hy with hy | hy
  · exact List.mem_of_mem_drop hy
  · exact List.mem_of_mem_take hy
end My
namespace My
open PySem PySem.Spec PyProof.Rows L2
/-! sets that a law owns, and lists of its own beside them -/
inductive Pay where
  | ks (l : List Ky)
  | vs (l : List V)
def Pay.at (H : Hp) (ws : List V) : Pay → Prop
  | .ks l => Ky.vals l = true ∧ KysAt H ws l
  | .vs l => ws = l
theorem Pay.same {H H' : Hp} {ws : List V} (s : Same H H') : ∀ {p : Pay}, p.at H ws → p.at H' ws
  | .ks l, h => ⟨h.1, h.2.same s _ _⟩
  | .vs l, h => h
theorem Pay.keep {H H' : Hp} {ws : List V} {fp : List Addr} (b : But fp H H') (n : NoTup H fp) : ∀ {p : Pay}, p.at H ws → p.at H' ws
  | .ks l, h => ⟨h.1, KysAt.keep b n _ _ h.1 h.2⟩
  | .vs l, h => h
structure FW (Hb H : Hp) (C CT : Addr) (sets : List (Addr × List Ky)) (own : List (Addr × Pay)) : Prop where
  sm : Same Hb H
  fam : ∃ f : Addr → List Addr, (∀ q ∈ sets, KsAt H C CT q.1 (f q.1) q.2 ∧ (∀ y ∈ f q.1, Fresh Hb y) ∧ ∀ o ∈ own, o.1 ∉ f q.1) ∧ ∀ q ∈ sets, ∀ r ∈ sets, q.1 ≠ r.1 → ∀ y ∈ f q.1, y ∉ f r.1
  ats : ∀ o ∈ own, Fresh Hb o.1 ∧ ∃ ws, H o.1 = some (.lst ws) ∧ o.2.at H ws
  nd : (own.map Prod.fst).Nodup
  ns : (sets.map Prod.fst).Nodup
theorem nd_inj {α : Type} {l : List α} (h : l.Nodup) {i j : Nat} {hi : i < l.length} {hj : j < l.length} (e : l[i] = l[j]) : i = j := by
  have p := List.pairwise_iff_getElem.mp h
  rcases Nat.lt_trichotomy i j with c | c | c
  · exact absurd e (p i j hi hj c)
  · exact c
  · exact absurd e.symm (p j i hj hi c)
theorem KsAt.self {H : Hp} {C CT x : Addr} {fp : List Addr} {ks : List Ky} (h : KsAt H C CT x fp ks) : x ∈ fp := by
  obtain ⟨dx, t, fq, S, rfl, ha, hS, na, q⟩ := h
  exact List.mem_cons_self
section
variable {Hb H H' : Hp} {C CT a x : Addr} {ks ks' : List Ky} {p p' : Pay} {sets sets' : List (Addr × List Ky)} {own own' o1 o2 : List (Addr × Pay)}
theorem FW.start (s : Same Hb H) : FW Hb H C CT [] [] := ⟨s, ⟨fun _ => [], (fun _ m => by cases m), fun _ m => by cases m⟩, (fun _ m => by cases m), .nil, .nil⟩
theorem FW.ext (g : FW Hb H C CT sets own) (s : Same H H') : FW Hb H' C CT sets own := by
  obtain ⟨f, h1, h2⟩ := g.fam
  exact ⟨g.sm.trans s, ⟨f, fun q m => ⟨(h1 q m).1.ext s, (h1 q m).2⟩, h2⟩, fun o m => by
    obtain ⟨x1, ws, x2, x3⟩ := g.ats o m
    exact ⟨x1, ws, s _ _ x2, Pay.same s x3⟩, g.nd, g.ns⟩
theorem FW.get (g : FW Hb H C CT sets own) {o : Addr × Pay} (m : o ∈ own) : ∃ ws, H o.1 = some (.lst ws) ∧ o.2.at H ws := (g.ats o m).2
theorem FW.set (g : FW Hb H C CT sets own) {i : Nat} (e : sets[i]? = some (x, ks)) : ∃ fp, KsAt H C CT x fp ks ∧ ∀ H' fp' ks', Gr fp H H' → Sub fp' fp H → KsAt H' C CT x fp' ks' → FW Hb H' C CT (sets.set i (x, ks')) own := by
  obtain ⟨f, h1, h2⟩ := g.fam
  have m := List.mem_of_getElem? e
  obtain ⟨hK, ff, fo⟩ := h1 _ m
  dsimp only at hK ff fo
  refine ⟨f x, hK, fun H' fp' ks' gr sb h' => ?_⟩
  obtain ⟨hi, e⟩ := List.getElem?_eq_some_iff.mp e
  have cases_ : ∀ q ∈ sets.set i (x, ks'), q = (x, ks') ∨ (q ∈ sets ∧ q.1 ≠ x) := fun q mq => by
    obtain ⟨j, hj, ej⟩ := List.mem_iff_getElem.mp mq
    rw [List.length_set] at hj
    rw [List.getElem_set] at ej
    split at ej
    · exact .inl ej.symm
    · rename_i n
      refine .inr ⟨by rw [← ej]; exact List.getElem_mem _, fun z => n ?_⟩
      have e1 : (sets.map Prod.fst)[i]'(by rw [List.length_map]; exact hi) = x := by rw [List.getElem_map, e]
      have e2 : (sets.map Prod.fst)[j]'(by rw [List.length_map]; exact hj) = x := by rw [List.getElem_map, ej]; exact z
      exact nd_inj g.ns (e1.trans e2.symm)
  refine ⟨gr.same g.sm ff, ⟨fun y => if y = x then fp' else f y, fun q mq => ?_, fun q mq r mr n y my => ?_⟩, fun o mo => ?_, g.nd, ?_⟩
  · rcases cases_ q mq with rfl | ⟨mq, nq⟩
    · dsimp only
      rw [if_pos rfl]
      refine ⟨h', sb.fresh g.sm ff, fun o mo => ?_⟩
      obtain ⟨z1, ws, z2, z3⟩ := g.ats o mo
      exact sb.not z2 (fo o mo)
    · dsimp only
      rw [if_neg nq]
      obtain ⟨k1, k2, k3⟩ := h1 q mq
      exact ⟨k1.apart gr hK.noTup fun z mz => h2 q mq _ m nq z mz, k2, k3⟩
  · dsimp only at my ⊢
    rcases cases_ q mq with rfl | ⟨mq, nq⟩ <;> rcases cases_ r mr with rfl | ⟨mr, nr⟩
    · exact absurd rfl n
    · rw [if_pos rfl] at my
      rw [if_neg nr]
      rcases sb y my with my | my
      · exact h2 _ m r mr (Ne.symm nr) y my
      · exact (h1 r mr).1.alloc my
    · rw [if_neg nq] at my
      rw [if_pos rfl]
      intro my2
      rcases sb y my2 with my2 | my2
      · exact h2 q mq _ m nq y my my2
      · exact (h1 q mq).1.alloc my2 my
    · rw [if_neg nq] at my
      rw [if_neg nr]
      exact h2 q mq r mr n y my
  · obtain ⟨z1, ws, z2, z3⟩ := g.ats o mo
    exact ⟨z1, ws, gr.keep _ _ z2 (fo o mo), Pay.keep gr.keep hK.noTup z3⟩
  · have em : (sets.set i (x, ks')).map Prod.fst = sets.map Prod.fst := by
      rw [List.map_set]
      apply List.ext_getElem?
      intro j
      rw [List.getElem?_set]
      split
      · rename_i c
        subst c
        rw [List.length_map, if_pos hi, List.getElem?_map, List.getElem?_eq_getElem hi, e]
        rfl
      · rfl
    rw [em]
    exact g.ns
theorem FW.put (g : FW Hb H C CT sets (o1 ++ (a, p) :: o2)) {ws : List V} (h : p'.at H ws) : FW Hb (upd H a (.lst ws)) C CT sets (o1 ++ (a, p') :: o2) := by
  obtain ⟨f, h1, h2⟩ := g.fam
  obtain ⟨y1, us, y2, y3⟩ := g.ats (a, p) (by simp)
  dsimp only at y1 y2 y3
  have nt : NoTup H [a] := noTup_one y2 fun _ z => by cases z
  have gr : Gr [a] H (upd H a (.lst ws)) := Gr.refl.put (by simp)
  have nd := g.nd
  rw [List.map_append, List.map_cons, List.nodup_append] at nd
  obtain ⟨n1, n2, n3⟩ := nd
  obtain ⟨n4, n5⟩ := List.nodup_cons.mp n2
  have old : ∀ q ∈ o1 ++ o2, q.1 ≠ a ∧ q ∈ o1 ++ (a, p) :: o2 := fun q m => by
    rcases List.mem_append.mp m with m | m
    · exact ⟨n3 _ (List.mem_map_of_mem m) _ List.mem_cons_self, List.mem_append_left _ m⟩
    · exact ⟨fun e => n4 (show a ∈ o2.map Prod.fst from e ▸ List.mem_map_of_mem m), List.mem_append_right _ (List.mem_cons_of_mem _ m)⟩
  have cases_ : ∀ q ∈ o1 ++ (a, p') :: o2, q = (a, p') ∨ q ∈ o1 ++ o2 := fun q m => by
    rcases List.mem_append.mp m with m | m
    · exact .inr (List.mem_append_left _ m)
    · rcases List.mem_cons.mp m with m | m
      · exact .inl m
      · exact .inr (List.mem_append_right _ m)
  refine ⟨Same_upd0 g.sm y1, ⟨f, fun q mq => ?_, h2⟩, fun q m => ?_, ?_, g.ns⟩
  · obtain ⟨k1, k2, k3⟩ := h1 q mq
    refine ⟨k1.apart gr nt fun z mz m => k3 (a, p) (by simp) (by rw [List.mem_singleton] at m; rw [← m]; exact mz), k2, fun o mo => ?_⟩
    rcases cases_ o mo with rfl | mo
    · exact k3 (a, p) (by simp)
    · exact k3 o (old o mo).2
  · rcases cases_ q m with rfl | m
    · exact ⟨y1, ws, upd_same, Pay.keep gr.keep nt h⟩
    · obtain ⟨x1, us, x2, x3⟩ := g.ats q (old q m).2
      exact ⟨x1, us, by rw [upd_ne (old q m).1]; exact x2, Pay.keep gr.keep nt x3⟩
  · rw [List.map_append, List.map_cons, List.nodup_append]
    exact ⟨n1, n2, n3⟩
theorem FW.new (g : FW Hb H C CT sets own) (f : Fresh H a) {ws : List V} (h : p.at H ws) : FW Hb (upd H a (.lst ws)) C CT sets (own ++ [(a, p)]) := by
  have s := Same_upd (o := .lst ws) (Same.refl H) f
  have e := g.ext s
  obtain ⟨fa, h1, h2⟩ := e.fam
  obtain ⟨fb, k1, k2⟩ := g.fam
  refine ⟨e.sm, ⟨fb, fun q mq => ⟨(k1 q mq).1.ext s, (k1 q mq).2.1, fun o mo => ?_⟩, k2⟩, fun o mo => ?_, ?_, g.ns⟩
  · rcases List.mem_append.mp mo with mo | mo
    · exact (k1 q mq).2.2 o mo
    · rw [List.mem_singleton] at mo
      rw [mo]
      exact (k1 q mq).1.alloc f
  · rcases List.mem_append.mp mo with mo | mo
    · exact e.ats o mo
    · rw [List.mem_singleton] at mo
      subst mo
      exact ⟨Same_fresh g.sm f, ws, upd_same, Pay.same s h⟩
  · rw [List.map_append, List.nodup_append]
    refine ⟨g.nd, by simp, fun z hz y hy => ?_⟩
    obtain ⟨q, m, rfl⟩ := List.mem_map.mp hz
    obtain ⟨x1, us, x2, x3⟩ := g.ats q m
    simp at hy
    rw [hy]
    exact f.ne x2
theorem FW.made (g : FW Hb H C CT sets own) {fp : List Addr} (s : Same H H') (hK : KsAt H' C CT x fp ks) (ff : ∀ y ∈ fp, Fresh H y) : FW Hb H' C CT (sets ++ [(x, ks)]) own := by
  obtain ⟨f, h1, h2⟩ := g.fam
  have e := g.ext s
  have nx : ∀ q ∈ sets, q.1 ≠ x := fun q mq z => (h1 q mq).1.alloc (ff x hK.self) (by rw [← z]; exact (h1 q mq).1.self)
  have cases_ : ∀ q ∈ sets ++ [(x, ks)], q ∈ sets ∨ q = (x, ks) := fun q m => (List.mem_append.mp m).imp id fun m => List.mem_singleton.mp m
  refine ⟨e.sm, ⟨fun y => if y = x then fp else f y, fun q mq => ?_, fun q mq r mr n y my => ?_⟩, e.ats, g.nd, ?_⟩
  · rcases cases_ q mq with mq | rfl
    · dsimp only
      rw [if_neg (nx q mq)]
      exact ⟨(h1 q mq).1.ext s, (h1 q mq).2⟩
    · dsimp only
      rw [if_pos rfl]
      refine ⟨hK, fun y my => Same_fresh g.sm (ff y my), fun o mo m => ?_⟩
      obtain ⟨z1, ws, z2, z3⟩ := g.ats o mo
      exact (ff _ m).ne z2 rfl
  · dsimp only at my ⊢
    rcases cases_ q mq with mq | rfl <;> rcases cases_ r mr with mr | rfl
    · rw [if_neg (nx q mq)] at my
      rw [if_neg (nx r mr)]
      exact h2 q mq r mr n y my
    · rw [if_neg (nx q mq)] at my
      rw [if_pos rfl]
      exact fun my2 => (h1 q mq).1.alloc (ff y my2) my
    · rw [if_pos rfl] at my
      rw [if_neg (nx r mr)]
      exact (h1 r mr).1.alloc (ff y my)
    · exact absurd rfl n
  · rw [List.map_append, List.nodup_append]
    refine ⟨g.ns, by simp, fun z hz y hy => ?_⟩
    obtain ⟨q, m, rfl⟩ := List.mem_map.mp hz
    simp at hy
    rw [hy]
    exact nx q m
theorem FW.less (g : FW Hb H C CT sets own) (s : own'.Sublist own) : FW Hb H C CT sets own' := by
  obtain ⟨f, h1, h2⟩ := g.fam
  exact ⟨g.sm, ⟨f, fun q mq => ⟨(h1 q mq).1, (h1 q mq).2.1, fun o mo => (h1 q mq).2.2 o (s.subset mo)⟩, h2⟩, fun o mo => g.ats o (s.subset mo), g.nd.sublist (s.map _), g.ns⟩
theorem FW.base (g : FW Hb H C CT sets own) {l : Addr} {o : HO} (fl : Fresh H l) : FW (upd Hb l o) (upd H l o) C CT sets own := by
  have s := Same_upd (o := o) (Same.refl H) fl
  have e := g.ext s
  obtain ⟨f, h1, h2⟩ := g.fam
  have fr : ∀ {x : Addr}, x ≠ l → Fresh Hb x → Fresh (upd Hb l o) x := fun {x} n q => by
    unfold Fresh
    rw [upd_ne n]
    exact q
  refine ⟨fun b u q => ?_, ⟨f, fun q mq => ⟨(h1 q mq).1.ext s, fun y my => fr (fun z => (h1 q mq).1.alloc fl (by rw [← z]; exact my)) ((h1 q mq).2.1 y my), (h1 q mq).2.2⟩, h2⟩, fun q m => ?_, g.nd, g.ns⟩
  · by_cases c : b = l
    · rw [c, upd_same] at q
      rw [c, upd_same]
      exact q
    · rw [upd_ne c] at q
      rw [upd_ne c]
      exact g.sm _ _ q
  · obtain ⟨x1, us, x2, x3⟩ := e.ats q m
    obtain ⟨y1, ws, y2, y3⟩ := g.ats q m
    exact ⟨fr (fl.ne y2) y1, us, x2, x3⟩
/-- a key's data stays while a set changes -/
theorem FW.setKeep (g : FW Hb H C CT sets own) {i : Nat} (e : sets[i]? = some (x, ks)) : ∃ fp, KsAt H C CT x fp ks ∧ ∀ H' fp' ks', Gr fp H H' → Sub fp' fp H → KsAt H' C CT x fp' ks' → FW Hb H' C CT (sets.set i (x, ks')) own ∧ ∀ v y, y.val = true → KyAt H v y → KyAt H' v y := by
  obtain ⟨fp, hK, st⟩ := g.set e
  exact ⟨fp, hK, fun H' fp' ks' gr sb h' => ⟨st H' fp' ks' gr sb h', fun v y d h => hK.ky gr d h⟩⟩
theorem FW.low {H0 : Hp} (g : FW Hb H C CT sets own) (s : Same H0 Hb) : FW H0 H C CT sets own := by
  obtain ⟨f, h1, h2⟩ := g.fam
  exact ⟨s.trans g.sm, ⟨f, fun q mq => ⟨(h1 q mq).1, fun y my => Same_fresh s ((h1 q mq).2.1 y my), (h1 q mq).2.2⟩, h2⟩, fun o mo => ⟨Same_fresh s (g.ats o mo).1, (g.ats o mo).2⟩, g.nd, g.ns⟩
theorem FW.is (g : FW Hb H C CT sets own) {q : Addr × List Ky} (m : q ∈ sets) : ∃ fp, KsAt H C CT q.1 fp q.2 := by
  obtain ⟨f, h1, h2⟩ := g.fam
  exact ⟨_, (h1 q m).1⟩
theorem set_last {sets : List (Addr × List Ky)} {q r : Addr × List Ky} : (sets ++ [q]).set sets.length r = sets ++ [r] := by simp
end
end My
namespace My
open PySem PySem.Spec PyProof.Rows L2
/-! rules of sets -/
theorem filter_eq {α : Type} {p q : α → Bool} {l : List α} (h : ∀ x ∈ l, p x = q x) : l.filter p = l.filter q := List.filter_congr h
theorem lack_joined (a b c : List Ky) : lackL a (joinedL b c) = metL (lackL a b) (lackL a c) := by
  unfold lackL metL
  rw [List.filter_filter]
  refine filter_eq fun x hx => ?_
  have e := joinedL_mem (ks := b) (ls := c) (k := x)
  have e2 := lackL_mem (ks := a) (ls := c) (k := x)
  unfold lackL at e2
  rw [Bool.eq_iff_iff]
  simp only [Bool.not_eq_true', decide_eq_false_iff_not, Bool.and_eq_true, decide_eq_true_eq, e, e2]
  constructor
  · intro h
    exact ⟨⟨hx, fun q => h (.inr q)⟩, fun q => h (.inl q)⟩
  · rintro ⟨⟨_, h1⟩, h2⟩ (q | q)
    · exact h2 q
    · exact h1 q
theorem met_lack (a b c : List Ky) : metL a (lackL b c) = lackL (metL a b) c := by
  unfold lackL metL
  rw [List.filter_filter]
  refine filter_eq fun x hx => ?_
  have e := lackL_mem (ks := b) (ls := c) (k := x)
  unfold lackL at e
  rw [Bool.eq_iff_iff]
  simp only [Bool.not_eq_true', decide_eq_false_iff_not, Bool.and_eq_true, decide_eq_true_eq, e]
  exact ⟨fun h => ⟨h.2, h.1⟩, fun h => ⟨h.2, h.1⟩⟩
theorem joined_assoc (a b c : List Ky) : joinedL (joinedL a b) c = joinedL a (joinedL b c) := by
  show (a ++ lackL b a) ++ lackL c (a ++ lackL b a) = a ++ lackL (b ++ lackL c b) a
  rw [List.append_assoc]
  congr 1
  show _ = List.filter _ (b ++ lackL c b)
  rw [List.filter_append]
  congr 1
  unfold lackL
  rw [List.filter_filter]
  refine filter_eq fun x hx => ?_
  have e := lackL_mem (ks := b) (ls := a) (k := x)
  unfold lackL at e
  rw [Bool.eq_iff_iff]
  simp only [Bool.not_eq_true', decide_eq_false_iff_not, Bool.and_eq_true, List.mem_append, e]
  by_cases h1 : x ∈ a <;> by_cases h2 : x ∈ b <;> simp [h1, h2]
theorem alike_met {a b c : List Ky} (ha : a.Nodup) (hb : b.Nodup) (hc : c.Nodup) : alikeL (metL a (joinedL b c)) (joinedL (metL a b) (metL a c)) = true := by
  rw [alike_both (metL_nd ha) (joinedL_nd (metL_nd ha) (metL_nd ha))]
  unfold subL
  rw [Bool.and_eq_true, decide_eq_true_eq, decide_eq_true_eq, sub_iff, sub_iff]
  constructor
  · intro k hk
    obtain ⟨h1, h2⟩ := metL_mem.mp hk
    rcases joinedL_mem.mp h2 with h2 | h2
    · exact joinedL_mem.mpr (.inl (metL_mem.mpr ⟨h1, h2⟩))
    · exact joinedL_mem.mpr (.inr (metL_mem.mpr ⟨h1, h2⟩))
  · intro k hk
    rcases joinedL_mem.mp hk with h | h
    · exact metL_mem.mpr ⟨(metL_mem.mp h).1, joinedL_mem.mpr (.inl (metL_mem.mp h).2)⟩
    · exact metL_mem.mpr ⟨(metL_mem.mp h).1, joinedL_mem.mpr (.inr (metL_mem.mp h).2)⟩
theorem either_lack (a b : List Ky) : eithL a b = lackL (joinedL a b) (metL a b) := by
  show lackL a b ++ lackL b a = List.filter _ (a ++ lackL b a)
  rw [List.filter_append]
  congr 1
  · refine filter_eq fun x hx => ?_
    have e := metL_mem (ks := a) (ls := b) (k := x)
    rw [Bool.eq_iff_iff]
    simp [e, hx]
  · symm
    rw [List.filter_eq_self]
    intro x hx
    have e := metL_mem (ks := a) (ls := b) (k := x)
    have := (lackL_mem.mp hx).2
    simp [e, this]
theorem apart_either (a b : List Ky) : apartL (eithL a b) (metL a b) = true := by
  unfold apartL
  rw [decide_eq_true_eq, apart_iff]
  intro k hk hm
  obtain ⟨m1, m2⟩ := metL_mem.mp hm
  rcases eithL_mem.mp hk with h | h
  · exact h.2 m2
  · exact h.2 m1
theorem len_lack_met (a b : List Ky) : (lackL a b).length + (metL a b).length = a.length := by
  unfold lackL metL
  induction a with
  | nil => rfl
  | cons x a ih =>
    rw [List.filter_cons, List.filter_cons]
    by_cases h : x ∈ b
    · simp only [h, decide_true, Bool.not_true, if_false, if_true, List.length_cons, Bool.false_eq_true]
      omega
    · simp only [h, decide_false, Bool.not_false, if_false, if_true, List.length_cons, Bool.false_eq_true]
      omega
theorem len_joined_met {a b : List Ky} (ha : a.Nodup) (hb : b.Nodup) : (joinedL a b).length + (metL a b).length = a.length + b.length := by
  have h1 := sub_len (metL_nd (ls := b) ha) (ls := metL b a) fun k m => metL_mem.mpr ⟨(metL_mem.mp m).2, (metL_mem.mp m).1⟩
  have h2 := sub_len (metL_nd (ls := a) hb) (ls := metL a b) fun k m => metL_mem.mpr ⟨(metL_mem.mp m).2, (metL_mem.mp m).1⟩
  have h3 := len_lack_met b a
  unfold joinedL
  rw [List.length_append]
  omega
theorem sub_met (a b : List Ky) : subL (metL a b) b = true := by
  unfold subL
  rw [decide_eq_true_eq, sub_iff]
  exact fun k h => (metL_mem.mp h).2
theorem sub_joined (a b : List Ky) : subL a (joinedL a b) = true := by
  unfold subL
  rw [decide_eq_true_eq, sub_iff]
  exact fun k h => joinedL_mem.mpr (.inl h)
theorem apart_lack (a b : List Ky) : apartL (lackL a b) b = true := by
  unfold apartL
  rw [decide_eq_true_eq, apart_iff]
  exact fun k h => (lackL_mem.mp h).2
theorem joinedL_len (ks ls : List Ky) : (joinedL ks ls).length ≤ ks.length + ls.length := by
  have := lackL_len ls ks
  unfold joinedL
  rw [List.length_append]
  omega
theorem eithL_len (ks ls : List Ky) : (eithL ks ls).length ≤ ks.length + ls.length := by
  have := lackL_len ls ks
  have := lackL_len ks ls
  unfold eithL
  rw [List.length_append]
  omega
def spEven (C CT : Addr) : Sp := fun vs H Q _ => ∃ a b fp1 fp2 ks, vs = [.ref a, .ref b] ∧ KsAt H C CT a fp1 ks ∧ KsAt H C CT b fp2 ks ∧ ∀ H', Same H H' → Q (.bl true) H'
theorem len_even {C CT : Addr} {vs H Q E} (h : spEven C CT vs H Q E) : vs.length = 2 := by obtain ⟨_, _, _, _, _, rfl, _⟩ := h; rfl
def spTwo (C CT : Addr) : Sp := fun vs H Q _ => ∃ a b fp1 fp2 ks ls, vs = [.ref a, .ref b] ∧ KsAt H C CT a fp1 ks ∧ KsAt H C CT b fp2 ls ∧ ks.length ≤ 100 ∧ ls.length ≤ 100 ∧ ∀ H', Same H H' → Q (.bl true) H'
theorem len_two {C CT : Addr} {vs H Q E} (h : spTwo C CT vs H Q E) : vs.length = 2 := by obtain ⟨_, _, _, _, _, _, rfl, _⟩ := h; rfl
def spSets3 (K : PySem.W.Frag) (C CT : Addr) : Sp := fun vs H Q _ => ∃ (a : Addr) (ns : List Int), vs = [.ref a] ∧ SqL K H a (ns.map V.int) ∧ ns.length ≤ 63 ∧
  ∀ H' L x y z fx fy fz kx ky kz, Same H H' → H' L = some (.lst [.ref x, .ref y, .ref z]) → KsAt H' C CT x fx kx → KsAt H' C CT y fy ky → KsAt H' C CT z fz kz → kx.length ≤ 10 ∧ ky.length ≤ 10 ∧ kz.length ≤ 10 → Q (.ref L) H'
theorem len_sets3 {K : PySem.W.Frag} {C CT : Addr} {vs H Q E} (h : spSets3 K C CT vs H Q E) : vs.length = 1 := by obtain ⟨_, _, rfl, _⟩ := h; rfl
end My
namespace Law
open PySem PySem.Spec PyProof.Rows L2 My
theorem sc_law_even : FnScope ["_law_one", "_law_other"] ["_law_one", "_law_other"] (defScope s_law_even) := ⟨rfl, rfl, rfl, by decide +kernel, rfl, by decide +kernel, by decide +kernel⟩
theorem ok_law_even {P : Program} {w : World} {K : PySem.W.Frag} {mg : Str → Option Value} {base : Heap} {A : Ad} (T : Txt K mg A) : FnOk P w K mg base CX0 7 A.a_law_even A.d_law_even ["_law_one", "_law_other"] (spEven A.c_Keyset A.c_Table) := by
  refine T.F_law_even.ok sc_law_even (fun vs H Q E h => ?_) (fun cdv A' outer s H vs Q E hr h => ?_)
  · exact len_even h
  · have nd := sc_law_even.nd
    have hu := hu_of hr
    refine ⟨_, (pss_one (ps_ret (pe_call (ok_law_row T) (hr.mono (by decide)) rfl T.m_law_row T.F_law_row.kp T.b_law_row .nil pass0 (pa_cons (pe_meth0 (pv 0) T.cl_Keyset T.me_Keyset_listed (ok_Keyset_listed T) (hr.mono (by decide)) T.b_Keyset_listed .nil pass0) (pa_cons (pe_meth0 (pv 1) T.cl_Keyset T.me_Keyset_listed (ok_Keyset_listed T) (hr.mono (by decide)) T.b_Keyset_listed .nil pass0) pa_nil))))), ?_⟩
    clear nd
    obtain ⟨a, b, fp1, fp2, ks, rfl, h1, h2, k⟩ := h
    walk_at "rd"
    refine ⟨h1.met (by intros; with_unfolding_all rfl), _, _, _, rfl, h1, fun H1 L1 xs s1 f1 e1 w1 => ?_⟩
    refine ⟨(h2.ext s1).met (by intros; with_unfolding_all rfl), _, _, _, rfl, h2.ext s1, fun H2 L2 ys s2 f2 e2 w2 => ?_⟩
    exact ⟨L1, L2, xs, ys, ks, rfl, s2 _ _ e1, e2, w1.same s2 _ _, w2, h1.key, h1.len, fun H3 s3 => k _ ((s1.trans s2).trans s3)⟩

end Law
namespace Law
open PySem PySem.Spec PyProof.Rows L2 My
theorem sc_law_two : FnScope ["_law_one", "_law_other", "_law_both", "_law_all_of", "_law_apiece"] ["_law_one", "_law_other"] (defScope s_law_two) := ⟨rfl, rfl, rfl, by decide +kernel, rfl, by decide +kernel, by decide +kernel⟩
theorem ok_law_two {P : Program} {w : World} {K : PySem.W.Frag} {mg : Str → Option Value} {base : Heap} {A : Ad} (T : Txt K mg A) : FnOk P w K mg base CX0 14 A.a_law_two A.d_law_two ["_law_one", "_law_other"] (spTwo A.c_Keyset A.c_Table) := by
  refine T.F_law_two.ok sc_law_two (fun vs H Q E h => ?_) (fun cdv A' outer s H vs Q E hr h => ?_)
  · exact len_two h
  · have nd := sc_law_two.nd
    have hu := hu_of hr
    refine ⟨_, (pss_cons (ps_set (i := 2) nd rfl (Or.inl rfl) (pe_call (ok_met T) (hr.mono (by decide)) rfl T.m_met T.F_met.kp T.b_met .nil pass0 (pa_cons (pv 0) (pa_cons (pv 1) pa_nil)))) (pss_cons (ps_set (i := 3) nd rfl (Or.inl rfl) (pe_call (ok_joined T) (hr.mono (by decide)) rfl T.m_joined T.F_joined.kp T.b_joined .nil pass0 (pa_cons (pv 0) (pa_cons (pv 1) pa_nil)))) (pss_cons (ps_set (i := 4) nd rfl (Or.inl rfl) (pe_call (ok_either T) (hr.mono (by decide)) rfl T.m_either T.F_either.kp T.b_either .nil pass0 (pa_cons (pv 0) (pa_cons (pv 1) pa_nil)))) (pss_cons (ps_if (PW.pt (pw_or (pt_not (pt_val (pe_call (ok_law_even T) (hr.mono (by decide)) rfl T.m_law_even T.F_law_even.kp T.b_law_even .nil pass0 (pa_cons (pv 4) (pa_cons (pe_call (ok_lacking T) (hr.mono (by decide)) rfl T.m_lacking T.F_lacking.kp T.b_lacking .nil pass0 (pa_cons (pv 3) (pa_cons (pv 2) pa_nil))) pa_nil))))) (pw_or1 (pt_cmpR op_notBl (pe_call (ok_apart T) (hr.mono (by decide)) rfl T.m_apart T.F_apart.kp T.b_apart .nil pass0 (pa_cons (pv 4) (pa_cons (pv 2) pa_nil))) pe_bl (nomark _))))) (pss_one (ps_ret pe_bl)) pss_nil) (pss_cons (ps_if (pt_cmpR op_ne (pe_op op_add (pe_meth0 (pv 3) T.cl_Keyset T.me_Keyset_many (ok_Keyset_many T) (hr.mono (by decide)) T.b_Keyset_many .nil pass0) (pe_meth0 (pv 2) T.cl_Keyset T.me_Keyset_many (ok_Keyset_many T) (hr.mono (by decide)) T.b_Keyset_many .nil pass0)) (pe_op op_add (pe_meth0 (pv 0) T.cl_Keyset T.me_Keyset_many (ok_Keyset_many T) (hr.mono (by decide)) T.b_Keyset_many .nil pass0) (pe_meth0 (pv 1) T.cl_Keyset T.me_Keyset_many (ok_Keyset_many T) (hr.mono (by decide)) T.b_Keyset_many .nil pass0)) (nomark _)) (pss_one (ps_ret pe_bl)) pss_nil) (pss_cons (ps_if (PW.pt (pw_or (pt_cmpR op_notBl (pe_call (ok_within T) (hr.mono (by decide)) rfl T.m_within T.F_within.kp T.b_within .nil pass0 (pa_cons (pv 2) (pa_cons (pv 1) pa_nil))) pe_bl (nomark _)) (pw_or1 (pt_cmpR op_notBl (pe_call (ok_within T) (hr.mono (by decide)) rfl T.m_within T.F_within.kp T.b_within .nil pass0 (pa_cons (pv 0) (pa_cons (pv 3) pa_nil))) pe_bl (nomark _))))) (pss_one (ps_ret pe_bl)) pss_nil) (pss_one (ps_ret (pe_cmpR op_isBl (pe_call (ok_apart T) (hr.mono (by decide)) rfl T.m_apart T.F_apart.kp T.b_apart .nil pass0 (pa_cons (pe_call (ok_lacking T) (hr.mono (by decide)) rfl T.m_lacking T.F_lacking.kp T.b_lacking .nil pass0 (pa_cons (pv 0) (pa_cons (pv 1) pa_nil))) (pa_cons (pv 1) pa_nil))) pe_bl (nomark _)))))))))), ?_⟩
    clear nd
    obtain ⟨a, b, fp1, fp2, ks, ls, rfl, h1, h2, kl, ll, k⟩ := h
    have n1 := h1.nodup
    have n2 := h2.nodup
    have b1 := metL_len ks ls
    have b2 := joinedL_len ks ls
    have b3 := eithL_len ks ls
    have b4 := lackL_len ks ls
    have z := Same.refl H
    walk_at "rd"
    refine ⟨_, _, _, _, _, _, rfl, h1, h2, by omega, fun H_1 x_1 fp_1 s_1 ff_1 hm => ?_⟩
    have z := z.trans s_1
    have h1 := h1.ext s_1
    have h2 := h2.ext s_1
    refine ⟨_, _, _, _, _, _, rfl, h1, h2, by omega, fun H_2 x_2 fp_2 s_2 ff_2 hj => ?_⟩
    have z := z.trans s_2
    have h1 := h1.ext s_2
    have h2 := h2.ext s_2
    have hm := hm.ext s_2
    refine ⟨_, _, _, _, _, _, rfl, h1, h2, by omega, fun H_3 x_3 fp_3 s_3 ff_3 he => ?_⟩
    have z := z.trans s_3
    have h1 := h1.ext s_3
    have h2 := h2.ext s_3
    have hm := hm.ext s_3
    have hj := hj.ext s_3
    walk_at "rd"
    refine ⟨_, _, _, _, _, _, rfl, hj, hm, by omega, fun H_4 x_4 fp_4 s_4 ff_4 hl => ?_⟩
    have z := z.trans s_4
    have h1 := h1.ext s_4
    have h2 := h2.ext s_4
    have hm := hm.ext s_4
    have hj := hj.ext s_4
    have he := he.ext s_4
    rw [either_lack] at he
    refine ⟨_, _, _, _, _, rfl, he, hl, fun H_5 s_5 => ?_⟩
    have z := z.trans s_5
    have h1 := h1.ext s_5
    have h2 := h2.ext s_5
    have hm := hm.ext s_5
    have hj := hj.ext s_5
    have he := he.ext s_5
    have hl := hl.ext s_5
    walk_at "rd"
    rw [← either_lack] at he
    refine ⟨_, _, _, _, _, _, rfl, he, hm, fun H_6 s_6 => ?_⟩
    have z := z.trans s_6
    have h1 := h1.ext s_6
    have h2 := h2.ext s_6
    have hm := hm.ext s_6
    have hj := hj.ext s_6
    have he := he.ext s_6
    have hl := hl.ext s_6
    rw [apart_either]
    walk_at "rd"
    refine ⟨hj.met (by intros; with_unfolding_all rfl), _, _, _, rfl, hj, ?_⟩
    refine ⟨hm.met (by intros; with_unfolding_all rfl), _, _, _, rfl, hm, ?_⟩
    walk_at "rd"
    refine ⟨h1.met (by intros; with_unfolding_all rfl), _, _, _, rfl, h1, ?_⟩
    refine ⟨h2.met (by intros; with_unfolding_all rfl), _, _, _, rfl, h2, ?_⟩
    walk_at "rd"
    have lj := len_joined_met n1 n2
    refine iteN (by omega) ?_
    refine ⟨_, _, _, _, _, _, rfl, hm, h2, fun H_7 s_7 => ?_⟩
    have z := z.trans s_7
    have h1 := h1.ext s_7
    have h2 := h2.ext s_7
    have hm := hm.ext s_7
    have hj := hj.ext s_7
    have he := he.ext s_7
    have hl := hl.ext s_7
    rw [sub_met]
    walk_at "rd"
    refine ⟨_, _, _, _, _, _, rfl, h1, hj, fun H_8 s_8 => ?_⟩
    have z := z.trans s_8
    have h1 := h1.ext s_8
    have h2 := h2.ext s_8
    have hm := hm.ext s_8
    have hj := hj.ext s_8
    have he := he.ext s_8
    have hl := hl.ext s_8
    rw [sub_joined]
    walk_at "rd"
    refine ⟨_, _, _, _, _, _, rfl, h1, h2, by omega, fun H_9 x_9 fp_9 s_9 ff_9 hl2 => ?_⟩
    have z := z.trans s_9
    have h1 := h1.ext s_9
    have h2 := h2.ext s_9
    have hm := hm.ext s_9
    have hj := hj.ext s_9
    have he := he.ext s_9
    have hl := hl.ext s_9
    refine ⟨_, _, _, _, _, _, rfl, hl2, h2, fun H_10 s_10 => ?_⟩
    rw [apart_lack]
    walk_at "rd"
    exact k _ (z.trans s_10)

end Law
namespace Law
open PySem PySem.Spec PyProof.Rows L2 My
theorem sc_law_sets : FnScope ["_law_script", "_law_came", "_law_lots", "_law_k", "_law_row_here", "_law_cell", "_law_key_here"] ["_law_script"] (defScope s_law_sets) := ⟨rfl, rfl, rfl, by decide +kernel, rfl, by decide +kernel, by decide +kernel⟩
theorem ok_law_sets {P : Program} {w : World} {K : PySem.W.Frag} {mg : Str → Option Value} {base : Heap} {A : Ad} (T : Txt K mg A) : FnOk P w K mg base CX0 12 A.a_law_sets A.d_law_sets ["_law_script"] (spSets3 K A.c_Keyset A.c_Table) := by
  refine T.F_law_sets.ok sc_law_sets (fun vs H Q E h => ?_) (fun cdv A' outer s H vs Q E hr h => ?_)
  · exact len_sets3 h
  · have nd := sc_law_sets.nd
    have hu := hu_of hr
    refine ⟨_, (pss_cons (ps_set (i := 1) nd rfl (Or.inl rfl) (pe_lst pa_nil)) (pss_cons (ps_set (i := 2) nd rfl (Or.inl rfl) (pe_lst pa_nil)) (pss_cons (ps_for PassesOwn.never rfl (pi_range1 rfl T.n_range (pa_cons pe_int pa_nil)) (pg_name (i := 3) nd rfl (Or.inl rfl)) (pss_cons (ps_set (i := 4) nd rfl (Or.inl rfl) (pe_lst pa_nil)) (pss_cons (ps_for PassesOwn.never rfl (pi_list (pe_slice sl_list (pe_slice sl_list (pv 0) (po_some (pe_op op_add pe_int (pe_op op_mulX pe_int (pv 3)))) (po_some (pe_op op_add pe_int (pe_op op_mulX pe_int (pv 3))))) po_none (po_some (pe_op op_mod (pe_op op_fdivW (pe_call (ok_law_cell_at T) (hr.mono (by decide)) rfl T.m_law_cell_at T.F_law_cell_at.kp T.b_law_cell_at .nil pass0 (pa_cons (pv 0) (pa_cons pe_int pa_nil))) (pe_op op_add pe_int (pe_op op_mulX pe_int (pv 3)))) pe_int)))) (pg_name (i := 5) nd rfl (Or.inl rfl)) (pss_cons (ps_set (i := 6) nd rfl (Or.inl rfl) (pe_call (ok_law_key T) (hr.mono (by decide)) rfl T.m_law_key T.F_law_key.kp T.b_law_key .nil pass0 (pa_cons (pe_op op_fdivW (pv 5) pe_int) pa_nil))) (C8.pss_cut (ps_if (PW.pt (pw_and (pt_cmpR op_eq (pe_op op_mod (pv 5) pe_int) pe_int (nomark _)) (pw_and1 (pt_cmpR (op_neD hr.units) (pv 1) (pe_lst pa_nil) (nomark _))))) (pss_one (ps_set (i := 6) nd rfl (Or.inl rfl) (pe_ix ix_list (pv 1) (pe_op op_mod (pe_op op_fdivW (pv 5) pe_int) (pe_callB call_lenU rfl T.n_len PySem.boot_len (pa_cons (pv 1) pa_nil))) (fun _ _ => rfl)))) pss_nil) (pss_cons (ps_expr (pe_bm PySem.F.plainAttrs_list PySem.F.slot_list_append PySem.F.type_list_append mt_append (pv 4) (pa_cons (pv 6) pa_nil))) (pss_one (ps_expr (pe_bm PySem.F.plainAttrs_list PySem.F.slot_list_append PySem.F.type_list_append mt_append (pv 1) (pa_cons (pv 6) pa_nil)))))))) (pss_cons (ps_expr (pe_bm PySem.F.plainAttrs_list PySem.F.slot_list_append PySem.F.type_list_append mt_append (pv 2) (pa_cons (pe_make T.mk_Keyset (ok_Keyset___init__ T) (hr.mono (by decide)) rfl T.m_Keyset T.b_Keyset___init___2.choose_spec.2 T.b_Keyset___init___2.choose_spec.1 passL (pa_cons (pv 4) pa_nil)) pa_nil))) (pss_one (ps_if (PW.pt (pw_and (pt_cmpR (op_neD hr.units) (pv 4) (pe_lst pa_nil) (nomark _)) (pw_and1 (pt_cmpR op_eq (pe_op op_mod (pe_op op_fdivW (pe_call (ok_law_cell_at T) (hr.mono (by decide)) rfl T.m_law_cell_at T.F_law_cell_at.kp T.b_law_cell_at .nil pass0 (pa_cons (pv 0) (pa_cons pe_int pa_nil))) pe_int) pe_int) pe_int (nomark _))))) (pss_cons (ps_expr (pe_meth (pe_ix ix_list (pv 2) (pv 3) (fun _ _ => rfl)) T.cl_Keyset T.me_Keyset_drop (ok_Keyset_drop T) (hr.mono (by decide)) T.b_Keyset_drop .nil passL (pa_cons (pe_ix ix_list (pv 4) (pe_op op_mod (pe_call (ok_law_cell_at T) (hr.mono (by decide)) rfl T.m_law_cell_at T.F_law_cell_at.kp T.b_law_cell_at .nil pass0 (pa_cons (pv 0) (pa_cons (pe_op op_add pe_int (pv 3)) pa_nil))) (pe_callB call_lenU rfl T.n_len PySem.boot_len (pa_cons (pv 4) pa_nil))) (fun _ _ => rfl)) pa_nil))) (pss_one (ps_expr (pe_meth (pe_ix ix_list (pv 2) (pv 3) (fun _ _ => rfl)) T.cl_Keyset T.me_Keyset_add (ok_Keyset_add T) (hr.mono (by decide)) T.b_Keyset_add .nil passL (pa_cons (pe_ix ix_list (pv 4) (pe_op op_mod (pe_call (ok_law_cell_at T) (hr.mono (by decide)) rfl T.m_law_cell_at T.F_law_cell_at.kp T.b_law_cell_at .nil pass0 (pa_cons (pv 0) (pa_cons (pe_op op_add pe_int (pv 3)) pa_nil))) (pe_callB call_lenU rfl T.n_len PySem.boot_len (pa_cons (pv 4) pa_nil))) (fun _ _ => rfl)) pa_nil))))) pss_nil)))))) (C8.pss_cut (ps_if (pt_cmpR op_eq (pe_op op_mod (pe_call (ok_law_cell_at T) (hr.mono (by decide)) rfl T.m_law_cell_at T.F_law_cell_at.kp T.b_law_cell_at .nil pass0 (pa_cons (pv 0) (pa_cons pe_int pa_nil))) pe_int) pe_int (nomark _)) (pss_one (ps_asg (pe_ix ix_list (pv 2) (pe_op op_mod (pe_op op_fdivW (pe_call (ok_law_cell_at T) (hr.mono (by decide)) rfl T.m_law_cell_at T.F_law_cell_at.kp T.b_law_cell_at .nil pass0 (pa_cons (pv 0) (pa_cons pe_int pa_nil))) pe_int) pe_int) (fun _ _ => rfl)) (pg_sub (pv 2) (pe_op op_mod (pe_op op_fdivW (pe_call (ok_law_cell_at T) (hr.mono (by decide)) rfl T.m_law_cell_at T.F_law_cell_at.kp T.b_law_cell_at .nil pass0 (pa_cons (pv 0) (pa_cons pe_int pa_nil))) pe_int) pe_int) set_list))) pss_nil) (pss_one (ps_ret (pv 2))))))), ?_⟩
    clear nd
    obtain ⟨a, ns, rfl, hS, hl, k⟩ := h
    walk_at "rd"
    refine ⟨by walk_at "sz", fun p hp => ⟨by walk_at "sz", fun q hq => ?_⟩⟩
    have g := ((FW.start (C := A.c_Keyset) (CT := A.c_Table) (Same.refl H)).new (p := .ks []) hp (ws := []) ⟨rfl, .nil⟩).new (p := .vs []) hq (ws := []) rfl
    rw [List.nil_append, List.cons_append, List.nil_append] at g
    generalize upd (upd H p (.lst [])) q (.lst []) = H0 at g ⊢
    refine go_range (fun i σ H' => ∃ (cs : List Ky) (sets : List (Addr × List Ky)) (v3 v4 v5 v6 : Option V), σ = [some (.ref a), some (.ref p), some (.ref q), v3, v4, v5, v6] ∧ FW H H' A.c_Keyset A.c_Table sets [(p, .ks cs), (q, .vs (sets.map fun s => .ref s.1))] ∧ (∀ k ∈ cs, KeyOk k) ∧ cs.length ≤ 9 * i ∧ sets.length = i ∧ i ≤ 3 ∧ ∀ s ∈ sets, s.2.length ≤ 10) ⟨[], [], _, _, _, _, rfl, g, (fun _ h => by cases h), by simp, rfl, by decide, fun _ h => by cases h⟩ ?_ ?_
    · clear g hp hq
      rintro N i σ H1 hi ⟨cs, sets, v3, v4, v5, v6, rfl, g, kcs, lcs, lsets, -, lks⟩ hN
      walk_at "rd"
      refine ⟨by walk_at "sz", fun r hr => ?_⟩
      have g := g.new (p := .ks []) hr (ws := []) ⟨rfl, .nil⟩
      rw [List.cons_append, List.cons_append, List.nil_append] at g
      generalize upd H1 r (.lst []) = H2 at g ⊢
      refine ⟨mulL (by decide) (by decide), mulL (by decide) (by decide), _, g.sm.seq hS, fun t1 ht1 => ⟨ns, ?_⟩⟩
      obtain ⟨ms, em, hm⟩ := cut_map ns (some (2 + 10 * (i : Int))) (some (11 + 10 * (i : Int)))
      have hm9 : ms.length ≤ 9 := by
        have := cut_span (l := ns.map V.int) (a := 2 + 10 * (i : Int)) (b := 11 + 10 * (i : Int)) (by omega) (by omega)
        rw [em, List.length_map] at this
        omega
      rw [em]
      have s1 := Same_upd (o := .lst (ms.map V.int)) (Same.refl H) (Same_fresh g.sm ht1)
      have g := g.base (o := .lst (ms.map V.int)) ht1
      have e1 : upd H t1 (.lst (ms.map V.int)) t1 = some (.lst (ms.map V.int)) := upd_same
      generalize upd H t1 (.lst (ms.map V.int)) = Hb at s1 g e1
      generalize upd H2 t1 (.lst (ms.map V.int)) = H3 at g ⊢
      refine ⟨(s1.trans g.sm).seq hS, mulL (by decide) (by decide), divB (by omega) (by omega), _, SqL.of (g.sm _ _ e1), fun t2 ht2 => ?_⟩
      obtain ⟨ms2, em2, hm2⟩ := cut_map ms none (some (getI ns 0 / (1 + 16 * (i : Int)) % 10))
      rw [em2]
      have s2 := s1.trans (Same_upd (o := .lst (ms2.map V.int)) (Same.refl Hb) (Same_fresh g.sm ht2))
      have g := g.base (o := .lst (ms2.map V.int)) ht2
      have e2 : upd Hb t2 (.lst (ms2.map V.int)) t2 = some (.lst (ms2.map V.int)) := upd_same
      generalize upd Hb t2 (.lst (ms2.map V.int)) = Hc at s2 g e2
      generalize upd H3 t2 (.lst (ms2.map V.int)) = H4 at g ⊢
      refine ⟨⟨_, SqL.of (g.sm _ _ e2)⟩, ?_⟩
      refine go_list (xs := ms2.map V.int) (fun j σ H' => ∃ (cs rs : List Ky) (v5 v6 : Option V), σ = [some (.ref a), some (.ref p), some (.ref q), some (.int (i : Nat)), some (.ref r), v5, v6] ∧ FW Hc H' A.c_Keyset A.c_Table sets [(p, .ks cs), (q, .vs (sets.map fun s => .ref s.1)), (r, .ks rs)] ∧ (∀ k ∈ cs, KeyOk k) ∧ (∀ k ∈ rs, KeyOk k) ∧ cs.length ≤ 9 * i + j ∧ rs.length = j) ⟨cs, [], _, _, rfl, g, kcs, (fun _ h => by cases h), by omega, rfl⟩ (fun j σ H' _ ⟨_, _, _, _, _, g, _⟩ => SqL.of (g.sm _ _ e2)) ?_ ?_
      · rintro N2 j u σ H5 hx ⟨cs, rs, v5, v6, rfl, g, kcs, krs, lcs, lrs⟩ hN2
        obtain ⟨c, hc, rfl⟩ := ints_at hx
        have hj : j < ms2.length := (List.getElem?_eq_some_iff.mp hc).1
        walk_at "rd"
        refine ⟨by walk_at "side", _, rfl, fun H6 v y s6 hy yk => ?_⟩
        have g := g.ext s6
        walk_at "rd"
        refine ⟨fun σ H' => ∃ v2 y2, σ = [some (.ref a), some (.ref p), some (.ref q), some (.int (i : Nat)), some (.ref r), some (.int c), some v2] ∧ Same H6 H' ∧ KyAt H' v2 y2 ∧ KeyOk y2, iteB (fun c1 => ?_) fun c1 => ⟨v, y, rfl, Same.refl _, hy, yk.1⟩, ?_⟩
        · refine ⟨by walk_at "sz", fun p1 hp1 => ?_⟩
          obtain ⟨ws, hw, -, hwk⟩ := g.get (o := (p, .ks cs)) (by simp)
          dsimp only at hw hwk
          have lw := KysAt.len hwk
          have s3 := Same_upd (o := .lst []) (Same.refl H6) hp1
          refine ne_rows (SqL.of (s3 _ _ hw)) (hwk.same s3 _ _) (SqL.of upd_same) .nil (key_dats kcs) Ky.dats_nil ?_
          walk_at "rd"
          refine iteB (fun c2 => ?_) fun c2 => ⟨v, y, rfl, s3, hy.same s3 _ _, yk.1⟩
          have pos : 0 < ws.length := by
            rw [lw]
            exact List.length_pos_iff.mpr (by simpa using c2)
          have m0 : 0 ≤ c / 3 % (ws.length : Int) := Int.emod_nonneg _ (by omega)
          have m1 : c / 3 % (ws.length : Int) < ws.length := Int.emod_lt_of_pos _ (by omega)
          obtain ⟨x1, h1, a1⟩ := at_any (xs := ws) m0 m1
          obtain ⟨k1, hk1, hx1⟩ := hwk.get h1
          refine ⟨by walk_at "side", _, .inl (SqL.of (s3 _ _ hw)), by omega, _, _, SqL.of (s3 _ _ hw), a1, ?_⟩
          exact ⟨x1, k1, rfl, s3, hx1.same s3 _ _, kcs k1 (List.mem_of_getElem? hk1)⟩
        · rintro σ H7 ⟨v2, y2, rfl, s7, hy2, yk2⟩
          have g := g.ext s7
          obtain ⟨us, hu, huv, huk⟩ := g.get (o := (r, .ks rs)) (by simp)
          dsimp only at hu
          have lu := KysAt.len huk
          walk_at "rd"
          refine ⟨tyL hu, us, hu, by rw [sizeLine_eq]; omega, ?_⟩
          have g8 := FW.put (o1 := [(p, .ks cs), (q, .vs (sets.map fun s => .ref s.1))]) (o2 := []) (a := r) (p' := .ks (rs ++ [y2])) g (ws := us ++ [v2]) ⟨vals_append huv (vals_one yk2.val), huk.append (.cons hy2 .nil)⟩
          have hy8 : KyAt (upd H7 r (.lst (us ++ [v2]))) v2 y2 := ky_upd hu (fun _ z => by cases z) yk2.val hy2
          rw [List.cons_append, List.cons_append, List.nil_append] at g8
          generalize upd H7 r (.lst (us ++ [v2])) = H8 at g8 hy8 ⊢
          obtain ⟨ws, hw, hwv, hwk⟩ := g8.get (o := (p, .ks cs)) (by simp)
          dsimp only at hw
          have lw := KysAt.len hwk
          refine ⟨tyL hw, ws, hw, by rw [sizeLine_eq]; omega, hN2 _ _ ⟨cs ++ [y2], rs ++ [y2], _, _, rfl, FW.put (o1 := []) (p' := .ks (cs ++ [y2])) g8 (ws := ws ++ [v2]) ⟨vals_append hwv (vals_one yk2.val), hwk.append (.cons hy8 .nil)⟩, fun z m => ?_, fun z m => ?_, by simp; omega, by simp [lrs]⟩⟩
          · rcases List.mem_append.mp m with m | m
            · exact kcs z m
            · rw [List.mem_singleton] at m
              rw [m]
              exact yk2
          · rcases List.mem_append.mp m with m | m
            · exact krs z m
            · rw [List.mem_singleton] at m
              rw [m]
              exact yk2
      · clear g kcs lcs e1 e2
        rintro σ H5 ⟨cs, rs, v5, v6, rfl, g, kcs, krs, lcs, lrs⟩
        have g := g.low s2
        clear s1 s2
        rw [List.length_map] at lcs lrs
        obtain ⟨us, hu, huv, huk⟩ := g.get (o := (r, .ks rs)) (by simp)
        obtain ⟨qs, hq, hqe⟩ := g.get (o := (q, .vs (sets.map fun s => .ref s.1))) (by simp)
        dsimp only at hu hq
        cases (show qs = _ from hqe)
        walk_at "rd"
        refine ⟨tyL hq, ?_⟩
        intro x dx fx fd _
        have sM := fresh_upd2 (o1 := .own x) (o2 := .ins A.c_Keyset dx []) fx fd
        refine ⟨x, dx, .ref r, rs, rfl, upd_same, .inr ⟨r, us, rfl, sM _ _ hu, huk.same sM _ _⟩, fun z m => (krs z m).fitt, by omega, fun ⟨z, m, e⟩ => (by rw [(krs z m).w] at e; cases e), fun _ H6 fp gr sb hK => ⟨rfl, ?_⟩⟩
        obtain ⟨s6, f6⟩ := made_same fx fd gr sb
        have g6 := g.made s6 hK f6
        have g7 := FW.put (o1 := [(p, .ks cs)]) (o2 := [(r, .ks rs)]) (p' := .vs ((sets ++ [(x, onceL rs)]).map fun s => V.ref s.1)) g6 (ws := (sets.map fun s => V.ref s.1) ++ [.ref x]) (by simp [Pay.at])
        rw [List.cons_append, List.nil_append] at g7
        refine ⟨_, s6 _ _ hq, by rw [sizeLine_eq, List.length_map]; omega, ?_⟩
        have lo := onceL_len rs
        have mx : ∀ z ∈ rs, z ∈ onceL rs := fun z m => onceL_mem.mpr m
        clear g6 hK sb gr sM hu hq g huk
        generalize upd H6 q (.lst ((sets.map fun s => V.ref s.1) ++ [.ref x])) = H7 at g7 ⊢
        have fin : ∀ H' ks' v5 v6, FW H H' A.c_Keyset A.c_Table (sets ++ [(x, ks')]) [(p, .ks cs), (q, .vs ((sets ++ [(x, onceL rs)]).map fun s => V.ref s.1)), (r, .ks rs)] → ks'.length ≤ 10 → N [some (.ref a), some (.ref p), some (.ref q), some (.int (i : Nat)), some (.ref r), v5, v6] H' := fun H' ks' v5 v6 g h => by
          have g := g.less (own' := [(p, .ks cs), (q, .vs ((sets ++ [(x, onceL rs)]).map fun s => V.ref s.1))]) (by simp)
          refine hN _ _ ⟨cs, sets ++ [(x, ks')], _, _, _, _, rfl, by simpa using g, kcs, by omega, by simp [lsets], by omega, fun s m => ?_⟩
          rcases List.mem_append.mp m with m | m
          · exact lks s m
          · rw [List.mem_singleton] at m
            rw [m]
            exact h
        refine ⟨by walk_at "sz", fun p1 hp1 => ?_⟩
        have s8 := Same_upd (o := .lst []) (Same.refl H7) hp1
        obtain ⟨us, hu, huv, huk⟩ := g7.get (o := (r, .ks rs)) (by simp)
        dsimp only at hu
        refine ne_rows (SqL.of (s8 _ _ hu)) (huk.same s8 _ _) (SqL.of upd_same) .nil (key_dats krs) Ky.dats_nil ?_
        have g8 := g7.ext s8
        clear g7 hu huk huv s8
        generalize upd H7 p1 (.lst []) = H8 at g8 ⊢
        walk_at "rd"
        refine iteB (fun c2 => ?_) fun c2 => fin _ _ _ _ g8 (by omega)
        refine ⟨_, g8.sm.seq hS, by walk_at "side", iteB (fun c3 => ?_) fun c3 => fin _ _ _ _ g8 (by omega)⟩
        obtain ⟨us, hu, huv, huk⟩ := g8.get (o := (r, .ks rs)) (by simp)
        obtain ⟨qs, hq, hqe⟩ := g8.get (o := (q, .vs ((sets ++ [(x, onceL rs)]).map fun s => V.ref s.1))) (by simp)
        dsimp only at hu hq
        cases (show qs = _ from hqe)
        have lu := KysAt.len huk
        have pos : 0 < us.length := by
          rw [lu]
          exact List.length_pos_iff.mpr (by simpa using c2)
        have ax : atI ((sets ++ [(x, onceL rs)]).map fun s => V.ref s.1) (i : Nat) = some (.ref x) := atI_nat (by rw [← lsets]; simp)
        generalize ew : getI ns (32 + (i : Int)) % (us.length : Int) = w
        have w0 : 0 ≤ w := by rw [← ew]; exact Int.emod_nonneg _ (by omega)
        have w1 : w < us.length := by rw [← ew]; exact Int.emod_lt_of_pos _ (by omega)
        obtain ⟨x1, h1, a1⟩ := at_any (xs := us) w0 w1
        obtain ⟨k1, hk1, hx1⟩ := huk.get h1
        have m1 := List.mem_of_getElem? hk1
        have yk1 := krs k1 m1
        obtain ⟨fp8, hK8, st8⟩ := g8.setKeep (i := sets.length) (x := x) (ks := onceL rs) (by simp)
        refine ⟨_, _, SqL.of hq, ax, ?_⟩
        walk_at "rd"
        refine ⟨hK8.met (by intros; with_unfolding_all rfl), ns, g8.sm.seq hS, by omega, _, .inl (SqL.of hu), by omega, us, x1, SqL.of hu, by rw [ew]; exact a1, ?_⟩
        refine ⟨_, _, _, _, _, rfl, hK8, hx1, yk1.fitt, fun e => (by rw [yk1.w] at e; cases e), fun _ H9 fp9 gr9 sb9 hK9 => ?_⟩
        obtain ⟨g9, kp9⟩ := st8 _ _ _ gr9 sb9 hK9
        rw [set_last] at g9
        have hx9 := kp9 _ _ yk1.val hx1
        clear st8 kp9 hK8 gr9 sb9 hK9 hu hq huk
        obtain ⟨us', hu, -, huk⟩ := g9.get (o := (r, .ks rs)) (by simp)
        obtain ⟨qs, hq, hqe⟩ := g9.get (o := (q, .vs ((sets ++ [(x, onceL rs)]).map fun s => V.ref s.1))) (by simp)
        dsimp only at hu hq
        cases (show qs = _ from hqe)
        have lu' := KysAt.len huk
        obtain ⟨x2, h2, a2⟩ := at_any (xs := us') w0 (by omega)
        obtain ⟨k2, hk2, hx2⟩ := huk.get h2
        rw [hk1] at hk2
        cases hk2
        obtain ⟨fp9, hK9, st9⟩ := g9.setKeep (i := sets.length) (x := x) (ks := dropL (onceL rs) k1) (by simp)
        refine ⟨_, _, SqL.of hq, ax, ?_⟩
        walk_at "rd"
        have ld : (dropL (onceL rs) k1).length ≤ (onceL rs).length := List.length_filter_le _ _
        refine ⟨hK9.met (by intros; with_unfolding_all rfl), ns, g9.sm.seq hS, by omega, _, .inl (SqL.of hu), by omega, us', x2, SqL.of hu, by rw [lu', ← lu, ew]; exact a2, ?_⟩
        refine ⟨_, _, _, _, _, rfl, hK9, hx2, yk1.fitt, by omega, fun e => (by rw [yk1.w] at e; cases e), fun _ H10 fp10 gr10 sb10 hK10 => ?_⟩
        obtain ⟨g10, -⟩ := st9 _ _ _ gr10 sb10 hK10
        rw [set_last] at g10
        have la := addL_len (dropL (onceL rs) k1) k1
        exact fin _ _ _ _ g10 (by omega)
    · rintro σ H1 ⟨cs, sets, v3, v4, v5, v6, rfl, g, kcs, lcs, lsets, -, lks⟩
      walk_at "rd"
      have g := g.less (own' := [(q, .vs (sets.map fun s => V.ref s.1))]) (by simp)
      have fin : ∀ H' (rs : List V), FW H H' A.c_Keyset A.c_Table sets [(q, .vs rs)] → rs.length = 3 → (∀ v ∈ rs, ∃ s ∈ sets, v = .ref s.1) → Q (.ref q) H' := fun H' rs g h m => by
        obtain ⟨ws, hw, hwe⟩ := g.get (o := (q, .vs rs)) (by simp)
        cases (show ws = _ from hwe)
        match rs, h, m, hw with
        | [x, y, z], _, m, hw =>
          obtain ⟨sx, mx, rfl⟩ := m x (by simp)
          obtain ⟨sy, my, rfl⟩ := m y (by simp)
          obtain ⟨sz, mz, rfl⟩ := m z (by simp)
          obtain ⟨fx, hx⟩ := g.is mx
          obtain ⟨fy, hy⟩ := g.is my
          obtain ⟨fz, hz⟩ := g.is mz
          exact k H' q _ _ _ _ _ _ _ _ _ g.sm hw hx hy hz ⟨lks _ mx, lks _ my, lks _ mz⟩
      have refs : ∀ v ∈ sets.map (fun s => V.ref s.1), ∃ s ∈ sets, v = .ref s.1 := fun v m => by
        obtain ⟨s, ms, rfl⟩ := List.mem_map.mp m
        exact ⟨s, ms, rfl⟩
      have l3 : (sets.map fun s => V.ref s.1).length = 3 := by rw [List.length_map, lsets]
      refine ⟨fun σ H' => σ = [some (.ref a), some (.ref p), some (.ref q), v3, v4, v5, v6] ∧ ∃ rs, FW H H' A.c_Keyset A.c_Table sets [(q, .vs rs)] ∧ rs.length = 3 ∧ ∀ v ∈ rs, ∃ s ∈ sets, v = .ref s.1, ⟨ns, g.sm.seq hS, iteB (fun c => ?_) fun c => ⟨rfl, _, g, l3, refs⟩⟩, ?_⟩
      · obtain ⟨ws, hw, hwe⟩ := g.get (o := (q, .vs (sets.map fun s => V.ref s.1))) (by simp)
        cases (show ws = _ from hwe)
        have a0 : 0 ≤ getI ns 1 / 21 % 3 := Int.emod_nonneg _ (by decide)
        have a1 : getI ns 1 / 21 % 3 < 3 := Int.emod_lt_of_pos _ (by decide)
        have b0 : 0 ≤ getI ns 1 / 7 % 3 := Int.emod_nonneg _ (by decide)
        have b1 : getI ns 1 / 7 % 3 < 3 := Int.emod_lt_of_pos _ (by decide)
        obtain ⟨x1, h1, e1⟩ := at_any (xs := sets.map fun s => V.ref s.1) a0 (by rw [l3]; exact a1)
        refine ⟨ns, g.sm.seq hS, by walk_at "side", _, _, SqL.of hw, e1, ns, g.sm.seq hS, by walk_at "side", _, _, hw, ixN_nat b0 (by rw [l3]; exact b1), ?_⟩
        refine ⟨rfl, _, FW.put (o1 := []) (o2 := []) (p' := .vs ((sets.map fun s => V.ref s.1).set (getI ns 1 / 7 % 3).toNat x1)) g rfl, by rw [List.length_set, l3], fun v m => ?_⟩
        rcases List.mem_or_eq_of_mem_set m with m | m
        · exact refs v m
        · rw [m]
          exact refs _ (List.mem_of_getElem? h1)
      · rintro σ H2 ⟨rfl, rs, g2, l2, r2⟩
        walk_at "rd"
        exact fin _ _ g2 l2 r2

end Law
namespace Law
open PySem PySem.Spec PyProof.Rows L2 My
theorem sc_law : FnScope ["_law_script", "_law_one", "_law_other", "_law_third"] ["_law_script"] (defScope s_law) := ⟨rfl, rfl, rfl, by decide +kernel, rfl, by decide +kernel, by decide +kernel⟩
theorem ok_law {P : Program} {w : World} {K : PySem.W.Frag} {mg : Str → Option Value} {base : Heap} {A : Ad} (T : Txt K mg A) : FnOk P w K mg base CX0 15 A.a_law A.d_law ["_law_script"] (spLaw K) := by
  refine T.F_law.ok sc_law (fun vs H Q E h => ?_) (fun cdv A' outer s H vs Q E hr h => ?_)
  · walk_at "spl"
  · have nd := sc_law.nd
    have hu := hu_of hr
    refine ⟨_, (pss_cons (ps_asg (pe_call (ok_law_sets T) (hr.mono (by decide)) rfl T.m_law_sets T.F_law_sets.kp T.b_law_sets .nil pass0 (pa_cons (pv 0) pa_nil)) (pg_unl (n := 3) rfl (pgs_cons (pg_name (i := 1) nd rfl (Or.inl rfl)) (pgs_cons (pg_name (i := 2) nd rfl (Or.inl rfl)) (pgs_cons (pg_name (i := 3) nd rfl (Or.inl rfl)) pgs_nil))))) (pss_cons (ps_if (pt_not (pt_val (pe_call (ok_law_even T) (hr.mono (by decide)) rfl T.m_law_even T.F_law_even.kp T.b_law_even .nil pass0 (pa_cons (pe_call (ok_lacking T) (hr.mono (by decide)) rfl T.m_lacking T.F_lacking.kp T.b_lacking .nil pass0 (pa_cons (pv 1) (pa_cons (pe_call (ok_joined T) (hr.mono (by decide)) rfl T.m_joined T.F_joined.kp T.b_joined .nil pass0 (pa_cons (pv 2) (pa_cons (pv 3) pa_nil))) pa_nil))) (pa_cons (pe_call (ok_met T) (hr.mono (by decide)) rfl T.m_met T.F_met.kp T.b_met .nil pass0 (pa_cons (pe_call (ok_lacking T) (hr.mono (by decide)) rfl T.m_lacking T.F_lacking.kp T.b_lacking .nil pass0 (pa_cons (pv 1) (pa_cons (pv 2) pa_nil))) (pa_cons (pe_call (ok_lacking T) (hr.mono (by decide)) rfl T.m_lacking T.F_lacking.kp T.b_lacking .nil pass0 (pa_cons (pv 1) (pa_cons (pv 3) pa_nil))) pa_nil))) pa_nil))))) (pss_one (ps_ret pe_bl)) pss_nil) (pss_cons (ps_if (pt_not (pt_val (pe_call (ok_law_even T) (hr.mono (by decide)) rfl T.m_law_even T.F_law_even.kp T.b_law_even .nil pass0 (pa_cons (pe_call (ok_met T) (hr.mono (by decide)) rfl T.m_met T.F_met.kp T.b_met .nil pass0 (pa_cons (pv 1) (pa_cons (pe_call (ok_lacking T) (hr.mono (by decide)) rfl T.m_lacking T.F_lacking.kp T.b_lacking .nil pass0 (pa_cons (pv 2) (pa_cons (pv 3) pa_nil))) pa_nil))) (pa_cons (pe_call (ok_lacking T) (hr.mono (by decide)) rfl T.m_lacking T.F_lacking.kp T.b_lacking .nil pass0 (pa_cons (pe_call (ok_met T) (hr.mono (by decide)) rfl T.m_met T.F_met.kp T.b_met .nil pass0 (pa_cons (pv 1) (pa_cons (pv 2) pa_nil))) (pa_cons (pv 3) pa_nil))) pa_nil))))) (pss_one (ps_ret pe_bl)) pss_nil) (pss_cons (ps_if (pt_not (pt_val (pe_call (ok_law_even T) (hr.mono (by decide)) rfl T.m_law_even T.F_law_even.kp T.b_law_even .nil pass0 (pa_cons (pe_call (ok_joined T) (hr.mono (by decide)) rfl T.m_joined T.F_joined.kp T.b_joined .nil pass0 (pa_cons (pe_call (ok_joined T) (hr.mono (by decide)) rfl T.m_joined T.F_joined.kp T.b_joined .nil pass0 (pa_cons (pv 1) (pa_cons (pv 2) pa_nil))) (pa_cons (pv 3) pa_nil))) (pa_cons (pe_call (ok_joined T) (hr.mono (by decide)) rfl T.m_joined T.F_joined.kp T.b_joined .nil pass0 (pa_cons (pv 1) (pa_cons (pe_call (ok_joined T) (hr.mono (by decide)) rfl T.m_joined T.F_joined.kp T.b_joined .nil pass0 (pa_cons (pv 2) (pa_cons (pv 3) pa_nil))) pa_nil))) pa_nil))))) (pss_one (ps_ret pe_bl)) pss_nil) (pss_cons (ps_if (pt_cmpR op_notBl (pe_call (ok_alike T) (hr.mono (by decide)) rfl T.m_alike T.F_alike.kp T.b_alike .nil pass0 (pa_cons (pe_call (ok_met T) (hr.mono (by decide)) rfl T.m_met T.F_met.kp T.b_met .nil pass0 (pa_cons (pv 1) (pa_cons (pe_call (ok_joined T) (hr.mono (by decide)) rfl T.m_joined T.F_joined.kp T.b_joined .nil pass0 (pa_cons (pv 2) (pa_cons (pv 3) pa_nil))) pa_nil))) (pa_cons (pe_call (ok_joined T) (hr.mono (by decide)) rfl T.m_joined T.F_joined.kp T.b_joined .nil pass0 (pa_cons (pe_call (ok_met T) (hr.mono (by decide)) rfl T.m_met T.F_met.kp T.b_met .nil pass0 (pa_cons (pv 1) (pa_cons (pv 2) pa_nil))) (pa_cons (pe_call (ok_met T) (hr.mono (by decide)) rfl T.m_met T.F_met.kp T.b_met .nil pass0 (pa_cons (pv 1) (pa_cons (pv 3) pa_nil))) pa_nil))) pa_nil))) pe_bl (nomark _)) (pss_one (ps_ret pe_bl)) pss_nil) (pss_one (ps_ret (pe_and (pe_call (ok_law_two T) (hr.mono (by decide)) rfl T.m_law_two T.F_law_two.kp T.b_law_two .nil pass0 (pa_cons (pv 1) (pa_cons (pv 2) pa_nil))) (pe_one (pe_call (ok_law_two T) (hr.mono (by decide)) rfl T.m_law_two T.F_law_two.kp T.b_law_two .nil pass0 (pa_cons (pv 2) (pa_cons (pv 3) pa_nil)))))))))))), ?_⟩
    clear nd
    obtain ⟨a, ns, rfl, hS, hl, k⟩ := h
    walk_at "rd"
    refine ⟨a, ns, rfl, hS, hl, fun H0 L x y zz fx fy fz kx ky kz s0 hL h1 h2 h3 ⟨l1, l2, l3⟩ => ?_⟩
    have z := s0
    have n1 := h1.nodup
    have n2 := h2.nodup
    have n3 := h3.nodup
    have b1 := joinedL_len ky kz
    have b2 := lackL_len kx ky
    have b3 := lackL_len kx kz
    have b4 := metL_len kx ky
    have b5 := lackL_len ky kz
    have b6 := joinedL_len kx ky
    have b7 := metL_len kx (joinedL ky kz)
    have b8 := metL_len kx kz
    walk_at "rd"
    refine ⟨_, SqL.of hL, rfl, ?_⟩
    walk_at "rd"
    refine ⟨_, _, _, _, _, _, rfl, h2, h3, by omega, fun H_1 x_1 fp_1 s_1 ff_1 hj => ?_⟩
    have z := z.trans s_1
    have h1 := h1.ext s_1
    have h2 := h2.ext s_1
    have h3 := h3.ext s_1
    refine ⟨_, _, _, _, _, _, rfl, h1, hj, by omega, fun H_2 x_2 fp_2 s_2 ff_2 hl1 => ?_⟩
    have z := z.trans s_2
    have h1 := h1.ext s_2
    have h2 := h2.ext s_2
    have h3 := h3.ext s_2
    have hj := hj.ext s_2
    refine ⟨_, _, _, _, _, _, rfl, h1, h2, by omega, fun H_3 x_3 fp_3 s_3 ff_3 hl2 => ?_⟩
    have z := z.trans s_3
    have h1 := h1.ext s_3
    have h2 := h2.ext s_3
    have h3 := h3.ext s_3
    have hj := hj.ext s_3
    have hl1 := hl1.ext s_3
    refine ⟨_, _, _, _, _, _, rfl, h1, h3, by omega, fun H_4 x_4 fp_4 s_4 ff_4 hl3 => ?_⟩
    have z := z.trans s_4
    have h1 := h1.ext s_4
    have h2 := h2.ext s_4
    have h3 := h3.ext s_4
    have hj := hj.ext s_4
    have hl1 := hl1.ext s_4
    have hl2 := hl2.ext s_4
    refine ⟨_, _, _, _, _, _, rfl, hl2, hl3, by omega, fun H_5 x_5 fp_5 s_5 ff_5 hm1 => ?_⟩
    have z := z.trans s_5
    have h1 := h1.ext s_5
    have h2 := h2.ext s_5
    have h3 := h3.ext s_5
    have hj := hj.ext s_5
    have hl1 := hl1.ext s_5
    have hl2 := hl2.ext s_5
    have hl3 := hl3.ext s_5
    rw [lack_joined] at hl1
    refine ⟨_, _, _, _, _, rfl, hl1, hm1, fun H_6 s_6 => ?_⟩
    have z := z.trans s_6
    have h1 := h1.ext s_6
    have h2 := h2.ext s_6
    have h3 := h3.ext s_6
    have hj := hj.ext s_6
    have hl1 := hl1.ext s_6
    have hl2 := hl2.ext s_6
    have hl3 := hl3.ext s_6
    have hm1 := hm1.ext s_6
    walk_at "rd"
    refine ⟨_, _, _, _, _, _, rfl, h2, h3, by omega, fun H_7 x_7 fp_7 s_7 ff_7 hl4 => ?_⟩
    have z := z.trans s_7
    have h1 := h1.ext s_7
    have h2 := h2.ext s_7
    have h3 := h3.ext s_7
    have hj := hj.ext s_7
    have hl1 := hl1.ext s_7
    have hl2 := hl2.ext s_7
    have hl3 := hl3.ext s_7
    have hm1 := hm1.ext s_7
    refine ⟨_, _, _, _, _, _, rfl, h1, hl4, by omega, fun H_8 x_8 fp_8 s_8 ff_8 hm2 => ?_⟩
    have z := z.trans s_8
    have h1 := h1.ext s_8
    have h2 := h2.ext s_8
    have h3 := h3.ext s_8
    have hj := hj.ext s_8
    have hl1 := hl1.ext s_8
    have hl2 := hl2.ext s_8
    have hl3 := hl3.ext s_8
    have hm1 := hm1.ext s_8
    have hl4 := hl4.ext s_8
    refine ⟨_, _, _, _, _, _, rfl, h1, h2, by omega, fun H_9 x_9 fp_9 s_9 ff_9 hm3 => ?_⟩
    have z := z.trans s_9
    have h1 := h1.ext s_9
    have h2 := h2.ext s_9
    have h3 := h3.ext s_9
    have hj := hj.ext s_9
    have hl1 := hl1.ext s_9
    have hl2 := hl2.ext s_9
    have hl3 := hl3.ext s_9
    have hm1 := hm1.ext s_9
    have hl4 := hl4.ext s_9
    have hm2 := hm2.ext s_9
    refine ⟨_, _, _, _, _, _, rfl, hm3, h3, by omega, fun H_10 x_10 fp_10 s_10 ff_10 hl5 => ?_⟩
    have z := z.trans s_10
    have h1 := h1.ext s_10
    have h2 := h2.ext s_10
    have h3 := h3.ext s_10
    have hj := hj.ext s_10
    have hl1 := hl1.ext s_10
    have hl2 := hl2.ext s_10
    have hl3 := hl3.ext s_10
    have hm1 := hm1.ext s_10
    have hl4 := hl4.ext s_10
    have hm2 := hm2.ext s_10
    have hm3 := hm3.ext s_10
    rw [met_lack] at hm2
    refine ⟨_, _, _, _, _, rfl, hm2, hl5, fun H_11 s_11 => ?_⟩
    have z := z.trans s_11
    have h1 := h1.ext s_11
    have h2 := h2.ext s_11
    have h3 := h3.ext s_11
    have hj := hj.ext s_11
    have hl1 := hl1.ext s_11
    have hl2 := hl2.ext s_11
    have hl3 := hl3.ext s_11
    have hm1 := hm1.ext s_11
    have hl4 := hl4.ext s_11
    have hm2 := hm2.ext s_11
    have hm3 := hm3.ext s_11
    have hl5 := hl5.ext s_11
    walk_at "rd"
    refine ⟨_, _, _, _, _, _, rfl, h1, h2, by omega, fun H_12 x_12 fp_12 s_12 ff_12 hj1 => ?_⟩
    have z := z.trans s_12
    have h1 := h1.ext s_12
    have h2 := h2.ext s_12
    have h3 := h3.ext s_12
    have hj := hj.ext s_12
    have hl1 := hl1.ext s_12
    have hl2 := hl2.ext s_12
    have hl3 := hl3.ext s_12
    have hm1 := hm1.ext s_12
    have hl4 := hl4.ext s_12
    have hm2 := hm2.ext s_12
    have hm3 := hm3.ext s_12
    have hl5 := hl5.ext s_12
    refine ⟨_, _, _, _, _, _, rfl, hj1, h3, by omega, fun H_13 x_13 fp_13 s_13 ff_13 hj2 => ?_⟩
    have z := z.trans s_13
    have h1 := h1.ext s_13
    have h2 := h2.ext s_13
    have h3 := h3.ext s_13
    have hj := hj.ext s_13
    have hl1 := hl1.ext s_13
    have hl2 := hl2.ext s_13
    have hl3 := hl3.ext s_13
    have hm1 := hm1.ext s_13
    have hl4 := hl4.ext s_13
    have hm2 := hm2.ext s_13
    have hm3 := hm3.ext s_13
    have hl5 := hl5.ext s_13
    have hj1 := hj1.ext s_13
    refine ⟨_, _, _, _, _, _, rfl, h2, h3, by omega, fun H_14 x_14 fp_14 s_14 ff_14 hj3 => ?_⟩
    have z := z.trans s_14
    have h1 := h1.ext s_14
    have h2 := h2.ext s_14
    have h3 := h3.ext s_14
    have hj := hj.ext s_14
    have hl1 := hl1.ext s_14
    have hl2 := hl2.ext s_14
    have hl3 := hl3.ext s_14
    have hm1 := hm1.ext s_14
    have hl4 := hl4.ext s_14
    have hm2 := hm2.ext s_14
    have hm3 := hm3.ext s_14
    have hl5 := hl5.ext s_14
    have hj1 := hj1.ext s_14
    have hj2 := hj2.ext s_14
    refine ⟨_, _, _, _, _, _, rfl, h1, hj3, by omega, fun H_15 x_15 fp_15 s_15 ff_15 hj4 => ?_⟩
    have z := z.trans s_15
    have h1 := h1.ext s_15
    have h2 := h2.ext s_15
    have h3 := h3.ext s_15
    have hj := hj.ext s_15
    have hl1 := hl1.ext s_15
    have hl2 := hl2.ext s_15
    have hl3 := hl3.ext s_15
    have hm1 := hm1.ext s_15
    have hl4 := hl4.ext s_15
    have hm2 := hm2.ext s_15
    have hm3 := hm3.ext s_15
    have hl5 := hl5.ext s_15
    have hj1 := hj1.ext s_15
    have hj2 := hj2.ext s_15
    have hj3 := hj3.ext s_15
    rw [joined_assoc] at hj2
    refine ⟨_, _, _, _, _, rfl, hj2, hj4, fun H_16 s_16 => ?_⟩
    have z := z.trans s_16
    have h1 := h1.ext s_16
    have h2 := h2.ext s_16
    have h3 := h3.ext s_16
    have hj := hj.ext s_16
    have hl1 := hl1.ext s_16
    have hl2 := hl2.ext s_16
    have hl3 := hl3.ext s_16
    have hm1 := hm1.ext s_16
    have hl4 := hl4.ext s_16
    have hm2 := hm2.ext s_16
    have hm3 := hm3.ext s_16
    have hl5 := hl5.ext s_16
    have hj1 := hj1.ext s_16
    have hj2 := hj2.ext s_16
    have hj3 := hj3.ext s_16
    have hj4 := hj4.ext s_16
    walk_at "rd"
    refine ⟨_, _, _, _, _, _, rfl, h2, h3, by omega, fun H_17 x_17 fp_17 s_17 ff_17 hj5 => ?_⟩
    have z := z.trans s_17
    have h1 := h1.ext s_17
    have h2 := h2.ext s_17
    have h3 := h3.ext s_17
    have hj := hj.ext s_17
    have hl1 := hl1.ext s_17
    have hl2 := hl2.ext s_17
    have hl3 := hl3.ext s_17
    have hm1 := hm1.ext s_17
    have hl4 := hl4.ext s_17
    have hm2 := hm2.ext s_17
    have hm3 := hm3.ext s_17
    have hl5 := hl5.ext s_17
    have hj1 := hj1.ext s_17
    have hj2 := hj2.ext s_17
    have hj3 := hj3.ext s_17
    have hj4 := hj4.ext s_17
    refine ⟨_, _, _, _, _, _, rfl, h1, hj5, by omega, fun H_18 x_18 fp_18 s_18 ff_18 hm4 => ?_⟩
    have z := z.trans s_18
    have h1 := h1.ext s_18
    have h2 := h2.ext s_18
    have h3 := h3.ext s_18
    have hj := hj.ext s_18
    have hl1 := hl1.ext s_18
    have hl2 := hl2.ext s_18
    have hl3 := hl3.ext s_18
    have hm1 := hm1.ext s_18
    have hl4 := hl4.ext s_18
    have hm2 := hm2.ext s_18
    have hm3 := hm3.ext s_18
    have hl5 := hl5.ext s_18
    have hj1 := hj1.ext s_18
    have hj2 := hj2.ext s_18
    have hj3 := hj3.ext s_18
    have hj4 := hj4.ext s_18
    have hj5 := hj5.ext s_18
    refine ⟨_, _, _, _, _, _, rfl, h1, h2, by omega, fun H_19 x_19 fp_19 s_19 ff_19 hm5 => ?_⟩
    have z := z.trans s_19
    have h1 := h1.ext s_19
    have h2 := h2.ext s_19
    have h3 := h3.ext s_19
    have hj := hj.ext s_19
    have hl1 := hl1.ext s_19
    have hl2 := hl2.ext s_19
    have hl3 := hl3.ext s_19
    have hm1 := hm1.ext s_19
    have hl4 := hl4.ext s_19
    have hm2 := hm2.ext s_19
    have hm3 := hm3.ext s_19
    have hl5 := hl5.ext s_19
    have hj1 := hj1.ext s_19
    have hj2 := hj2.ext s_19
    have hj3 := hj3.ext s_19
    have hj4 := hj4.ext s_19
    have hj5 := hj5.ext s_19
    have hm4 := hm4.ext s_19
    refine ⟨_, _, _, _, _, _, rfl, h1, h3, by omega, fun H_20 x_20 fp_20 s_20 ff_20 hm6 => ?_⟩
    have z := z.trans s_20
    have h1 := h1.ext s_20
    have h2 := h2.ext s_20
    have h3 := h3.ext s_20
    have hj := hj.ext s_20
    have hl1 := hl1.ext s_20
    have hl2 := hl2.ext s_20
    have hl3 := hl3.ext s_20
    have hm1 := hm1.ext s_20
    have hl4 := hl4.ext s_20
    have hm2 := hm2.ext s_20
    have hm3 := hm3.ext s_20
    have hl5 := hl5.ext s_20
    have hj1 := hj1.ext s_20
    have hj2 := hj2.ext s_20
    have hj3 := hj3.ext s_20
    have hj4 := hj4.ext s_20
    have hj5 := hj5.ext s_20
    have hm4 := hm4.ext s_20
    have hm5 := hm5.ext s_20
    refine ⟨_, _, _, _, _, _, rfl, hm5, hm6, by omega, fun H_21 x_21 fp_21 s_21 ff_21 hj6 => ?_⟩
    have z := z.trans s_21
    have h1 := h1.ext s_21
    have h2 := h2.ext s_21
    have h3 := h3.ext s_21
    have hj := hj.ext s_21
    have hl1 := hl1.ext s_21
    have hl2 := hl2.ext s_21
    have hl3 := hl3.ext s_21
    have hm1 := hm1.ext s_21
    have hl4 := hl4.ext s_21
    have hm2 := hm2.ext s_21
    have hm3 := hm3.ext s_21
    have hl5 := hl5.ext s_21
    have hj1 := hj1.ext s_21
    have hj2 := hj2.ext s_21
    have hj3 := hj3.ext s_21
    have hj4 := hj4.ext s_21
    have hj5 := hj5.ext s_21
    have hm4 := hm4.ext s_21
    have hm5 := hm5.ext s_21
    have hm6 := hm6.ext s_21
    refine ⟨_, _, _, _, _, _, rfl, hm4, hj6, fun H_22 s_22 => ?_⟩
    have z := z.trans s_22
    have h1 := h1.ext s_22
    have h2 := h2.ext s_22
    have h3 := h3.ext s_22
    have hj := hj.ext s_22
    have hl1 := hl1.ext s_22
    have hl2 := hl2.ext s_22
    have hl3 := hl3.ext s_22
    have hm1 := hm1.ext s_22
    have hl4 := hl4.ext s_22
    have hm2 := hm2.ext s_22
    have hm3 := hm3.ext s_22
    have hl5 := hl5.ext s_22
    have hj1 := hj1.ext s_22
    have hj2 := hj2.ext s_22
    have hj3 := hj3.ext s_22
    have hj4 := hj4.ext s_22
    have hj5 := hj5.ext s_22
    have hm4 := hm4.ext s_22
    have hm5 := hm5.ext s_22
    have hm6 := hm6.ext s_22
    have hj6 := hj6.ext s_22
    rw [alike_met n1 n2 n3]
    walk_at "rd"
    refine ⟨_, _, _, _, _, _, rfl, h1, h2, by omega, by omega, fun H_y s_y => ?_⟩
    walk_at "rd"
    exact ⟨_, _, _, _, _, _, rfl, h2.ext s_y, h3.ext s_y, by omega, by omega, fun H_z s_z => k _⟩

end Law
namespace Law
open PySem PySem.Spec PyProof.Rows L2 My
theorem all_mk {l : PySem.W.OpenLaw} {w : World} {K : PySem.W.Frag} {h : Heap} {mg : Str → Option Value} {fa : Addr} (X : K.In h) (G : h.Ns mainGlobals mg) (hfa : mg "law" = some (.ref fa))
    {od0 an0 : Option Addr} {sl0 : Array (Option Value)} {oc0 kV0 dc0 pm0 cd0 ct0 : Value} {f0 : Addr}
    {od1 an1 : Option Addr} {sl1 : Array (Option Value)} {oc1 kV1 dc1 pm1 cd1 ct1 : Value} {f1 : Addr}
    {od2 an2 : Option Addr} {sl2 : Array (Option Value)} {oc2 kV2 dc2 pm2 cd2 ct2 : Value} {f2 : Addr}
    {od3 an3 : Option Addr} {sl3 : Array (Option Value)} {oc3 kV3 dc3 pm3 cd3 ct3 : Value} {f3 : Addr}
    {od4 an4 : Option Addr} {sl4 : Array (Option Value)} {oc4 kV4 dc4 pm4 cd4 ct4 : Value} {f4 : Addr}
    {od5 an5 : Option Addr} {sl5 : Array (Option Value)} {oc5 kV5 dc5 pm5 cd5 ct5 : Value} {f5 : Addr}
    {od6 an6 : Option Addr} {sl6 : Array (Option Value)} {oc6 kV6 dc6 pm6 cd6 ct6 : Value} {f6 : Addr}
    {od7 an7 : Option Addr} {sl7 : Array (Option Value)} {oc7 kV7 dc7 pm7 cd7 ct7 : Value} {f7 : Addr}
    {od8 an8 : Option Addr} {sl8 : Array (Option Value)} {oc8 kV8 dc8 pm8 cd8 ct8 : Value} {f8 : Addr}
    {od9 an9 : Option Addr} {sl9 : Array (Option Value)} {oc9 kV9 dc9 pm9 cd9 ct9 : Value} {f9 : Addr}
    {od10 an10 : Option Addr} {sl10 : Array (Option Value)} {oc10 kV10 dc10 pm10 cd10 ct10 : Value} {f10 : Addr}
    {od11 an11 : Option Addr} {sl11 : Array (Option Value)} {oc11 kV11 dc11 pm11 cd11 ct11 : Value} {f11 : Addr}
    {od12 an12 : Option Addr} {sl12 : Array (Option Value)} {oc12 kV12 dc12 pm12 cd12 ct12 : Value} {f12 : Addr}
    {od13 an13 : Option Addr} {sl13 : Array (Option Value)} {oc13 kV13 dc13 pm13 cd13 ct13 : Value} {f13 : Addr}
    {dT13 : Addr} {dO13 : Obj} {dn13 : Nat}
    {dk13_0 : Tok}
    {od14 an14 : Option Addr} {sl14 : Array (Option Value)} {oc14 kV14 dc14 pm14 cd14 ct14 : Value} {f14 : Addr}
    {od15 an15 : Option Addr} {sl15 : Array (Option Value)} {oc15 kV15 dc15 pm15 cd15 ct15 : Value} {f15 : Addr}
    {od16 an16 : Option Addr} {sl16 : Array (Option Value)} {oc16 kV16 dc16 pm16 cd16 ct16 : Value} {f16 : Addr}
    {od17 an17 : Option Addr} {sl17 : Array (Option Value)} {oc17 kV17 dc17 pm17 cd17 ct17 : Value} {f17 : Addr}
    {od18 an18 : Option Addr} {sl18 : Array (Option Value)} {oc18 kV18 dc18 pm18 cd18 ct18 : Value} {f18 : Addr}
    {od19 an19 : Option Addr} {sl19 : Array (Option Value)} {oc19 kV19 dc19 pm19 cd19 ct19 : Value} {f19 : Addr}
    {od20 an20 : Option Addr} {sl20 : Array (Option Value)} {oc20 kV20 dc20 pm20 cd20 ct20 : Value} {f20 : Addr}
    {od21 an21 : Option Addr} {sl21 : Array (Option Value)} {oc21 kV21 dc21 pm21 cd21 ct21 : Value} {f21 : Addr}
    {od22 an22 : Option Addr} {sl22 : Array (Option Value)} {oc22 kV22 dc22 pm22 cd22 ct22 : Value} {f22 : Addr}
    {od23 an23 : Option Addr} {sl23 : Array (Option Value)} {oc23 kV23 dc23 pm23 cd23 ct23 : Value} {f23 : Addr}
    {od24 an24 : Option Addr} {sl24 : Array (Option Value)} {oc24 kV24 dc24 pm24 cd24 ct24 : Value} {f24 : Addr}
    {od25 an25 : Option Addr} {sl25 : Array (Option Value)} {oc25 kV25 dc25 pm25 cd25 ct25 : Value} {f25 : Addr}
    {od26 an26 : Option Addr} {sl26 : Array (Option Value)} {oc26 kV26 dc26 pm26 cd26 ct26 : Value} {f26 : Addr}
    {od27 an27 : Option Addr} {sl27 : Array (Option Value)} {oc27 kV27 dc27 pm27 cd27 ct27 : Value} {f27 : Addr}
    {dT27 : Addr} {dO27 : Obj} {dn27 : Nat}
    {od28 an28 : Option Addr} {sl28 : Array (Option Value)} {oc28 kV28 dc28 pm28 cd28 ct28 : Value} {f28 : Addr}
    {od29 an29 : Option Addr} {sl29 : Array (Option Value)} {oc29 kV29 dc29 pm29 cd29 ct29 : Value} {f29 : Addr}
    {od30 an30 : Option Addr} {sl30 : Array (Option Value)} {oc30 kV30 dc30 pm30 cd30 ct30 : Value} {f30 : Addr}
    {od31 an31 : Option Addr} {sl31 : Array (Option Value)} {oc31 kV31 dc31 pm31 cd31 ct31 : Value} {f31 : Addr}
    {od32 an32 : Option Addr} {sl32 : Array (Option Value)} {oc32 kV32 dc32 pm32 cd32 ct32 : Value} {f32 : Addr}
    {od33 an33 : Option Addr} {sl33 : Array (Option Value)} {oc33 kV33 dc33 pm33 cd33 ct33 : Value} {f33 : Addr}
    {od34 an34 : Option Addr} {sl34 : Array (Option Value)} {oc34 kV34 dc34 pm34 cd34 ct34 : Value} {f34 : Addr}
    {od35 an35 : Option Addr} {sl35 : Array (Option Value)} {oc35 kV35 dc35 pm35 cd35 ct35 : Value} {f35 : Addr}
    {od36 an36 : Option Addr} {sl36 : Array (Option Value)} {oc36 kV36 dc36 pm36 cd36 ct36 : Value} {f36 : Addr}
    {od37 an37 : Option Addr} {sl37 : Array (Option Value)} {oc37 kV37 dc37 pm37 cd37 ct37 : Value} {f37 : Addr}
    {od38 an38 : Option Addr} {sl38 : Array (Option Value)} {oc38 kV38 dc38 pm38 cd38 ct38 : Value} {f38 : Addr}
    {od39 an39 : Option Addr} {sl39 : Array (Option Value)} {oc39 kV39 dc39 pm39 cd39 ct39 : Value} {f39 : Addr}
    {od40 an40 : Option Addr} {sl40 : Array (Option Value)} {oc40 kV40 dc40 pm40 cd40 ct40 : Value} {f40 : Addr}
    {od41 an41 : Option Addr} {sl41 : Array (Option Value)} {oc41 kV41 dc41 pm41 cd41 ct41 : Value} {f41 : Addr}
    {od42 an42 : Option Addr} {sl42 : Array (Option Value)} {oc42 kV42 dc42 pm42 cd42 ct42 : Value} {f42 : Addr}
    {od43 an43 : Option Addr} {sl43 : Array (Option Value)} {oc43 kV43 dc43 pm43 cd43 ct43 : Value} {f43 : Addr}
    {od44 an44 : Option Addr} {sl44 : Array (Option Value)} {oc44 kV44 dc44 pm44 cd44 ct44 : Value} {f44 : Addr}
    {od45 an45 : Option Addr} {sl45 : Array (Option Value)} {oc45 kV45 dc45 pm45 cd45 ct45 : Value} {f45 : Addr}
    {od46 an46 : Option Addr} {sl46 : Array (Option Value)} {oc46 kV46 dc46 pm46 cd46 ct46 : Value} {f46 : Addr}
    {od47 an47 : Option Addr} {sl47 : Array (Option Value)} {oc47 kV47 dc47 pm47 cd47 ct47 : Value} {f47 : Addr}
    {od48 an48 : Option Addr} {sl48 : Array (Option Value)} {oc48 kV48 dc48 pm48 cd48 ct48 : Value} {f48 : Addr}
    {C0 : Addr}
    {C1 : Addr}
    {C2 : Addr}
    {X0 : Addr}
    {X1 : Addr}
    {X2 : Addr}
    {tk0 : Tok}
    {tk1 : Tok}
    {tk2 : Tok}
    {tk3 : Tok}
    {tk4 : Tok}
    {tk5 : Tok}
    {tk6 : Tok}
    {tk7 : Tok}
    {tk8 : Tok}
    (a0 : PySem.W.nsIn K mainGlobals "is_within" = some (some (.ref f0)))
    (a1 : PySem.W.nsIn K mainGlobals "is_key" = some (some (.ref f1)))
    (a2 : PySem.W.nsIn K mainGlobals "checked" = some (some (.ref f2)))
    (a3 : PySem.W.nsIn K mainGlobals "is_size" = some (some (.ref f3)))
    (a4 : PySem.W.nsIn K mainGlobals "room" = some (some (.ref f4)))
    (a5 : PySem.W.nsIn K mainGlobals "size_for" = some (some (.ref f5)))
    (a6 : PySem.W.nsIn K mainGlobals "stride" = some (some (.ref f6)))
    (a7 : PySem.W.nsIn K mainGlobals "probe" = some (some (.ref f7)))
    (a8 : PySem.W.nsIn K mainGlobals "stamp" = some (some (.ref f8)))
    (a9 : PySem.W.nsIn K mainGlobals "first_bare" = some (some (.ref f9)))
    (a10 : PySem.W.nsIn K mainGlobals "cells_of" = some (some (.ref f10)))
    (a11 : PySem.W.nsIn K mainGlobals "paper" = some (some (.ref f11)))
    (a12 : PySem.W.nsIn K mainGlobals "place_of" = some (some (.ref f12)))
    (a24 : PySem.W.nsIn K mainGlobals "packed" = some (some (.ref f24)))
    (a33 : PySem.W.nsIn K mainGlobals "met" = some (some (.ref f33)))
    (a34 : PySem.W.nsIn K mainGlobals "lacking" = some (some (.ref f34)))
    (a35 : PySem.W.nsIn K mainGlobals "joined" = some (some (.ref f35)))
    (a36 : PySem.W.nsIn K mainGlobals "either" = some (some (.ref f36)))
    (a37 : PySem.W.nsIn K mainGlobals "within" = some (some (.ref f37)))
    (a38 : PySem.W.nsIn K mainGlobals "apart" = some (some (.ref f38)))
    (a39 : PySem.W.nsIn K mainGlobals "alike" = some (some (.ref f39)))
    (a40 : PySem.W.nsIn K mainGlobals "_law_cell_at" = some (some (.ref f40)))
    (a41 : PySem.W.nsIn K mainGlobals "_law_sign" = some (some (.ref f41)))
    (a42 : PySem.W.nsIn K mainGlobals "_law_key" = some (some (.ref f42)))
    (a43 : PySem.W.nsIn K mainGlobals "_law_same" = some (some (.ref f43)))
    (a44 : PySem.W.nsIn K mainGlobals "_law_row" = some (some (.ref f44)))
    (a45 : PySem.W.nsIn K mainGlobals "_law_sets" = some (some (.ref f45)))
    (a46 : PySem.W.nsIn K mainGlobals "_law_even" = some (some (.ref f46)))
    (a47 : PySem.W.nsIn K mainGlobals "_law_two" = some (some (.ref f47)))
    (a48 : PySem.W.nsIn K mainGlobals "law" = some (some (.ref f48)))
    (aC0 : PySem.W.nsIn K mainGlobals "Shelf" = some (some (.ref C0)))
    (aC1 : PySem.W.nsIn K mainGlobals "Table" = some (some (.ref C1)))
    (aC2 : PySem.W.nsIn K mainGlobals "Keyset" = some (some (.ref C2)))
    (xa0 : PySem.W.nsIn K mainGlobals "NoKey" = some (some (.ref X0)))
    (xa1 : PySem.W.nsIn K mainGlobals "Full" = some (some (.ref X1)))
    (xa2 : PySem.W.nsIn K mainGlobals "Lacking" = some (some (.ref X2)))
    (me0_13 : PySem.W.findIn K (.ref C0) "__init__" = some (some (.ref f13)))
    (me0_14 : PySem.W.findIn K (.ref C0) "find" = some (some (.ref f14)))
    (me0_15 : PySem.W.findIn K (.ref C0) "lay" = some (some (.ref f15)))
    (me0_16 : PySem.W.findIn K (.ref C0) "mark_gone" = some (some (.ref f16)))
    (me0_17 : PySem.W.findIn K (.ref C0) "relay" = some (some (.ref f17)))
    (me0_18 : PySem.W.findIn K (.ref C0) "make_room" = some (some (.ref f18)))
    (me0_19 : PySem.W.findIn K (.ref C0) "put" = some (some (.ref f19)))
    (me0_20 : PySem.W.findIn K (.ref C0) "has" = some (some (.ref f20)))
    (me0_21 : PySem.W.findIn K (.ref C0) "take" = some (some (.ref f21)))
    (me0_22 : PySem.W.findIn K (.ref C0) "many" = some (some (.ref f22)))
    (me0_23 : PySem.W.findIn K (.ref C0) "pairs" = some (some (.ref f23)))
    (me1_25 : PySem.W.findIn K (.ref C1) "__init__" = some (some (.ref f25)))
    (me1_26 : PySem.W.findIn K (.ref C1) "make_room" = some (some (.ref f26)))
    (me1_14 : PySem.W.findIn K (.ref C1) "find" = some (some (.ref f14)))
    (me1_15 : PySem.W.findIn K (.ref C1) "lay" = some (some (.ref f15)))
    (me1_16 : PySem.W.findIn K (.ref C1) "mark_gone" = some (some (.ref f16)))
    (me1_17 : PySem.W.findIn K (.ref C1) "relay" = some (some (.ref f17)))
    (me1_19 : PySem.W.findIn K (.ref C1) "put" = some (some (.ref f19)))
    (me1_20 : PySem.W.findIn K (.ref C1) "has" = some (some (.ref f20)))
    (me1_21 : PySem.W.findIn K (.ref C1) "take" = some (some (.ref f21)))
    (me1_22 : PySem.W.findIn K (.ref C1) "many" = some (some (.ref f22)))
    (me1_23 : PySem.W.findIn K (.ref C1) "pairs" = some (some (.ref f23)))
    (me2_27 : PySem.W.findIn K (.ref C2) "__init__" = some (some (.ref f27)))
    (me2_28 : PySem.W.findIn K (.ref C2) "add" = some (some (.ref f28)))
    (me2_29 : PySem.W.findIn K (.ref C2) "drop" = some (some (.ref f29)))
    (me2_30 : PySem.W.findIn K (.ref C2) "has" = some (some (.ref f30)))
    (me2_31 : PySem.W.findIn K (.ref C2) "many" = some (some (.ref f31)))
    (me2_32 : PySem.W.findIn K (.ref C2) "listed" = some (some (.ref f32)))
    (l0 : K.lookup f0 = some ⟨oc0, od0, .func (PySem.W.fnOf "is_within" "is_within" (defArgs s_is_within) (defBody s_is_within) (defScope s_is_within) .none kV0 dc0 pm0 an0 cd0 ct0), sl0⟩)
    (d0 : PySem.W.codeIn K cd0 "is_within" = true)
    (k0 : PySem.W.keepIn K (.ref f0) = true)
    (l1 : K.lookup f1 = some ⟨oc1, od1, .func (PySem.W.fnOf "is_key" "is_key" (defArgs s_is_key) (defBody s_is_key) (defScope s_is_key) .none kV1 dc1 pm1 an1 cd1 ct1), sl1⟩)
    (d1 : PySem.W.codeIn K cd1 "is_key" = true)
    (k1 : PySem.W.keepIn K (.ref f1) = true)
    (l2 : K.lookup f2 = some ⟨oc2, od2, .func (PySem.W.fnOf "checked" "checked" (defArgs s_checked) (defBody s_checked) (defScope s_checked) .none kV2 dc2 pm2 an2 cd2 ct2), sl2⟩)
    (d2 : PySem.W.codeIn K cd2 "checked" = true)
    (k2 : PySem.W.keepIn K (.ref f2) = true)
    (l3 : K.lookup f3 = some ⟨oc3, od3, .func (PySem.W.fnOf "is_size" "is_size" (defArgs s_is_size) (defBody s_is_size) (defScope s_is_size) .none kV3 dc3 pm3 an3 cd3 ct3), sl3⟩)
    (d3 : PySem.W.codeIn K cd3 "is_size" = true)
    (k3 : PySem.W.keepIn K (.ref f3) = true)
    (l4 : K.lookup f4 = some ⟨oc4, od4, .func (PySem.W.fnOf "room" "room" (defArgs s_room) (defBody s_room) (defScope s_room) .none kV4 dc4 pm4 an4 cd4 ct4), sl4⟩)
    (d4 : PySem.W.codeIn K cd4 "room" = true)
    (k4 : PySem.W.keepIn K (.ref f4) = true)
    (l5 : K.lookup f5 = some ⟨oc5, od5, .func (PySem.W.fnOf "size_for" "size_for" (defArgs s_size_for) (defBody s_size_for) (defScope s_size_for) .none kV5 dc5 pm5 an5 cd5 ct5), sl5⟩)
    (d5 : PySem.W.codeIn K cd5 "size_for" = true)
    (k5 : PySem.W.keepIn K (.ref f5) = true)
    (l6 : K.lookup f6 = some ⟨oc6, od6, .func (PySem.W.fnOf "stride" "stride" (defArgs s_stride) (defBody s_stride) (defScope s_stride) .none kV6 dc6 pm6 an6 cd6 ct6), sl6⟩)
    (d6 : PySem.W.codeIn K cd6 "stride" = true)
    (k6 : PySem.W.keepIn K (.ref f6) = true)
    (l7 : K.lookup f7 = some ⟨oc7, od7, .func (PySem.W.fnOf "probe" "probe" (defArgs s_probe) (defBody s_probe) (defScope s_probe) .none kV7 dc7 pm7 an7 cd7 ct7), sl7⟩)
    (d7 : PySem.W.codeIn K cd7 "probe" = true)
    (k7 : PySem.W.keepIn K (.ref f7) = true)
    (l8 : K.lookup f8 = some ⟨oc8, od8, .func (PySem.W.fnOf "stamp" "stamp" (defArgs s_stamp) (defBody s_stamp) (defScope s_stamp) .none kV8 dc8 pm8 an8 cd8 ct8), sl8⟩)
    (d8 : PySem.W.codeIn K cd8 "stamp" = true)
    (k8 : PySem.W.keepIn K (.ref f8) = true)
    (l9 : K.lookup f9 = some ⟨oc9, od9, .func (PySem.W.fnOf "first_bare" "first_bare" (defArgs s_first_bare) (defBody s_first_bare) (defScope s_first_bare) .none kV9 dc9 pm9 an9 cd9 ct9), sl9⟩)
    (d9 : PySem.W.codeIn K cd9 "first_bare" = true)
    (k9 : PySem.W.keepIn K (.ref f9) = true)
    (l10 : K.lookup f10 = some ⟨oc10, od10, .func (PySem.W.fnOf "cells_of" "cells_of" (defArgs s_cells_of) (defBody s_cells_of) (defScope s_cells_of) .none kV10 dc10 pm10 an10 cd10 ct10), sl10⟩)
    (d10 : PySem.W.codeIn K cd10 "cells_of" = true)
    (k10 : PySem.W.keepIn K (.ref f10) = true)
    (l11 : K.lookup f11 = some ⟨oc11, od11, .func (PySem.W.fnOf "paper" "paper" (defArgs s_paper) (defBody s_paper) (defScope s_paper) .none kV11 dc11 pm11 an11 cd11 ct11), sl11⟩)
    (d11 : PySem.W.codeIn K cd11 "paper" = true)
    (k11 : PySem.W.keepIn K (.ref f11) = true)
    (l12 : K.lookup f12 = some ⟨oc12, od12, .func (PySem.W.fnOf "place_of" "place_of" (defArgs s_place_of) (defBody s_place_of) (defScope s_place_of) .none kV12 dc12 pm12 an12 cd12 ct12), sl12⟩)
    (d12 : PySem.W.codeIn K cd12 "place_of" = true)
    (k12 : PySem.W.keepIn K (.ref f12) = true)
    (l13 : K.lookup f13 = some ⟨oc13, od13, .func (PySem.W.fnOf "__init__" "Shelf.__init__" (defArgs s_Shelf___init__) (defBody s_Shelf___init__) (defScope s_Shelf___init__) (.ref dT13) kV13 dc13 pm13 an13 cd13 ct13), sl13⟩)
    (dl13 : K.lookup dT13 = some dO13)
    (dd13 : dO13.data = .seq #[.int 8 dk13_0] dn13)
    (d13 : PySem.W.codeIn K cd13 "Shelf.__init__" = true)
    (k13 : PySem.W.keepIn K (.ref f13) = true)
    (l14 : K.lookup f14 = some ⟨oc14, od14, .func (PySem.W.fnOf "find" "Shelf.find" (defArgs s_Shelf_find) (defBody s_Shelf_find) (defScope s_Shelf_find) .none kV14 dc14 pm14 an14 cd14 ct14), sl14⟩)
    (d14 : PySem.W.codeIn K cd14 "Shelf.find" = true)
    (k14 : PySem.W.keepIn K (.ref f14) = true)
    (l15 : K.lookup f15 = some ⟨oc15, od15, .func (PySem.W.fnOf "lay" "Shelf.lay" (defArgs s_Shelf_lay) (defBody s_Shelf_lay) (defScope s_Shelf_lay) .none kV15 dc15 pm15 an15 cd15 ct15), sl15⟩)
    (d15 : PySem.W.codeIn K cd15 "Shelf.lay" = true)
    (k15 : PySem.W.keepIn K (.ref f15) = true)
    (l16 : K.lookup f16 = some ⟨oc16, od16, .func (PySem.W.fnOf "mark_gone" "Shelf.mark_gone" (defArgs s_Shelf_mark_gone) (defBody s_Shelf_mark_gone) (defScope s_Shelf_mark_gone) .none kV16 dc16 pm16 an16 cd16 ct16), sl16⟩)
    (d16 : PySem.W.codeIn K cd16 "Shelf.mark_gone" = true)
    (k16 : PySem.W.keepIn K (.ref f16) = true)
    (l17 : K.lookup f17 = some ⟨oc17, od17, .func (PySem.W.fnOf "relay" "Shelf.relay" (defArgs s_Shelf_relay) (defBody s_Shelf_relay) (defScope s_Shelf_relay) .none kV17 dc17 pm17 an17 cd17 ct17), sl17⟩)
    (d17 : PySem.W.codeIn K cd17 "Shelf.relay" = true)
    (k17 : PySem.W.keepIn K (.ref f17) = true)
    (l18 : K.lookup f18 = some ⟨oc18, od18, .func (PySem.W.fnOf "make_room" "Shelf.make_room" (defArgs s_Shelf_make_room) (defBody s_Shelf_make_room) (defScope s_Shelf_make_room) .none kV18 dc18 pm18 an18 cd18 ct18), sl18⟩)
    (d18 : PySem.W.codeIn K cd18 "Shelf.make_room" = true)
    (k18 : PySem.W.keepIn K (.ref f18) = true)
    (l19 : K.lookup f19 = some ⟨oc19, od19, .func (PySem.W.fnOf "put" "Shelf.put" (defArgs s_Shelf_put) (defBody s_Shelf_put) (defScope s_Shelf_put) .none kV19 dc19 pm19 an19 cd19 ct19), sl19⟩)
    (d19 : PySem.W.codeIn K cd19 "Shelf.put" = true)
    (k19 : PySem.W.keepIn K (.ref f19) = true)
    (l20 : K.lookup f20 = some ⟨oc20, od20, .func (PySem.W.fnOf "has" "Shelf.has" (defArgs s_Shelf_has) (defBody s_Shelf_has) (defScope s_Shelf_has) .none kV20 dc20 pm20 an20 cd20 ct20), sl20⟩)
    (d20 : PySem.W.codeIn K cd20 "Shelf.has" = true)
    (k20 : PySem.W.keepIn K (.ref f20) = true)
    (l21 : K.lookup f21 = some ⟨oc21, od21, .func (PySem.W.fnOf "take" "Shelf.take" (defArgs s_Shelf_take) (defBody s_Shelf_take) (defScope s_Shelf_take) .none kV21 dc21 pm21 an21 cd21 ct21), sl21⟩)
    (d21 : PySem.W.codeIn K cd21 "Shelf.take" = true)
    (k21 : PySem.W.keepIn K (.ref f21) = true)
    (l22 : K.lookup f22 = some ⟨oc22, od22, .func (PySem.W.fnOf "many" "Shelf.many" (defArgs s_Shelf_many) (defBody s_Shelf_many) (defScope s_Shelf_many) .none kV22 dc22 pm22 an22 cd22 ct22), sl22⟩)
    (d22 : PySem.W.codeIn K cd22 "Shelf.many" = true)
    (k22 : PySem.W.keepIn K (.ref f22) = true)
    (l23 : K.lookup f23 = some ⟨oc23, od23, .func (PySem.W.fnOf "pairs" "Shelf.pairs" (defArgs s_Shelf_pairs) (defBody s_Shelf_pairs) (defScope s_Shelf_pairs) .none kV23 dc23 pm23 an23 cd23 ct23), sl23⟩)
    (d23 : PySem.W.codeIn K cd23 "Shelf.pairs" = true)
    (k23 : PySem.W.keepIn K (.ref f23) = true)
    (l24 : K.lookup f24 = some ⟨oc24, od24, .func (PySem.W.fnOf "packed" "packed" (defArgs s_packed) (defBody s_packed) (defScope s_packed) .none kV24 dc24 pm24 an24 cd24 ct24), sl24⟩)
    (d24 : PySem.W.codeIn K cd24 "packed" = true)
    (k24 : PySem.W.keepIn K (.ref f24) = true)
    (l25 : K.lookup f25 = some ⟨oc25, od25, .func (PySem.W.fnOf "__init__" "Table.__init__" (defArgs s_Table___init__) (defBody s_Table___init__) (defScope s_Table___init__) .none kV25 dc25 pm25 an25 cd25 ct25), sl25⟩)
    (d25 : PySem.W.codeIn K cd25 "Table.__init__" = true)
    (k25 : PySem.W.keepIn K (.ref f25) = true)
    (l26 : K.lookup f26 = some ⟨oc26, od26, .func (PySem.W.fnOf "make_room" "Table.make_room" (defArgs s_Table_make_room) (defBody s_Table_make_room) (defScope s_Table_make_room) .none kV26 dc26 pm26 an26 cd26 ct26), sl26⟩)
    (d26 : PySem.W.codeIn K cd26 "Table.make_room" = true)
    (k26 : PySem.W.keepIn K (.ref f26) = true)
    (l27 : K.lookup f27 = some ⟨oc27, od27, .func (PySem.W.fnOf "__init__" "Keyset.__init__" (defArgs s_Keyset___init__) (defBody s_Keyset___init__) (defScope s_Keyset___init__) (.ref dT27) kV27 dc27 pm27 an27 cd27 ct27), sl27⟩)
    (dl27 : K.lookup dT27 = some dO27)
    (dd27 : dO27.data = .seq #[.none] dn27)
    (d27 : PySem.W.codeIn K cd27 "Keyset.__init__" = true)
    (k27 : PySem.W.keepIn K (.ref f27) = true)
    (l28 : K.lookup f28 = some ⟨oc28, od28, .func (PySem.W.fnOf "add" "Keyset.add" (defArgs s_Keyset_add) (defBody s_Keyset_add) (defScope s_Keyset_add) .none kV28 dc28 pm28 an28 cd28 ct28), sl28⟩)
    (d28 : PySem.W.codeIn K cd28 "Keyset.add" = true)
    (k28 : PySem.W.keepIn K (.ref f28) = true)
    (l29 : K.lookup f29 = some ⟨oc29, od29, .func (PySem.W.fnOf "drop" "Keyset.drop" (defArgs s_Keyset_drop) (defBody s_Keyset_drop) (defScope s_Keyset_drop) .none kV29 dc29 pm29 an29 cd29 ct29), sl29⟩)
    (d29 : PySem.W.codeIn K cd29 "Keyset.drop" = true)
    (k29 : PySem.W.keepIn K (.ref f29) = true)
    (l30 : K.lookup f30 = some ⟨oc30, od30, .func (PySem.W.fnOf "has" "Keyset.has" (defArgs s_Keyset_has) (defBody s_Keyset_has) (defScope s_Keyset_has) .none kV30 dc30 pm30 an30 cd30 ct30), sl30⟩)
    (d30 : PySem.W.codeIn K cd30 "Keyset.has" = true)
    (k30 : PySem.W.keepIn K (.ref f30) = true)
    (l31 : K.lookup f31 = some ⟨oc31, od31, .func (PySem.W.fnOf "many" "Keyset.many" (defArgs s_Keyset_many) (defBody s_Keyset_many) (defScope s_Keyset_many) .none kV31 dc31 pm31 an31 cd31 ct31), sl31⟩)
    (d31 : PySem.W.codeIn K cd31 "Keyset.many" = true)
    (k31 : PySem.W.keepIn K (.ref f31) = true)
    (l32 : K.lookup f32 = some ⟨oc32, od32, .func (PySem.W.fnOf "listed" "Keyset.listed" (defArgs s_Keyset_listed) (defBody s_Keyset_listed) (defScope s_Keyset_listed) .none kV32 dc32 pm32 an32 cd32 ct32), sl32⟩)
    (d32 : PySem.W.codeIn K cd32 "Keyset.listed" = true)
    (k32 : PySem.W.keepIn K (.ref f32) = true)
    (l33 : K.lookup f33 = some ⟨oc33, od33, .func (PySem.W.fnOf "met" "met" (defArgs s_met) (defBody s_met) (defScope s_met) .none kV33 dc33 pm33 an33 cd33 ct33), sl33⟩)
    (d33 : PySem.W.codeIn K cd33 "met" = true)
    (k33 : PySem.W.keepIn K (.ref f33) = true)
    (l34 : K.lookup f34 = some ⟨oc34, od34, .func (PySem.W.fnOf "lacking" "lacking" (defArgs s_lacking) (defBody s_lacking) (defScope s_lacking) .none kV34 dc34 pm34 an34 cd34 ct34), sl34⟩)
    (d34 : PySem.W.codeIn K cd34 "lacking" = true)
    (k34 : PySem.W.keepIn K (.ref f34) = true)
    (l35 : K.lookup f35 = some ⟨oc35, od35, .func (PySem.W.fnOf "joined" "joined" (defArgs s_joined) (defBody s_joined) (defScope s_joined) .none kV35 dc35 pm35 an35 cd35 ct35), sl35⟩)
    (d35 : PySem.W.codeIn K cd35 "joined" = true)
    (k35 : PySem.W.keepIn K (.ref f35) = true)
    (l36 : K.lookup f36 = some ⟨oc36, od36, .func (PySem.W.fnOf "either" "either" (defArgs s_either) (defBody s_either) (defScope s_either) .none kV36 dc36 pm36 an36 cd36 ct36), sl36⟩)
    (d36 : PySem.W.codeIn K cd36 "either" = true)
    (k36 : PySem.W.keepIn K (.ref f36) = true)
    (l37 : K.lookup f37 = some ⟨oc37, od37, .func (PySem.W.fnOf "within" "within" (defArgs s_within) (defBody s_within) (defScope s_within) .none kV37 dc37 pm37 an37 cd37 ct37), sl37⟩)
    (d37 : PySem.W.codeIn K cd37 "within" = true)
    (k37 : PySem.W.keepIn K (.ref f37) = true)
    (l38 : K.lookup f38 = some ⟨oc38, od38, .func (PySem.W.fnOf "apart" "apart" (defArgs s_apart) (defBody s_apart) (defScope s_apart) .none kV38 dc38 pm38 an38 cd38 ct38), sl38⟩)
    (d38 : PySem.W.codeIn K cd38 "apart" = true)
    (k38 : PySem.W.keepIn K (.ref f38) = true)
    (l39 : K.lookup f39 = some ⟨oc39, od39, .func (PySem.W.fnOf "alike" "alike" (defArgs s_alike) (defBody s_alike) (defScope s_alike) .none kV39 dc39 pm39 an39 cd39 ct39), sl39⟩)
    (d39 : PySem.W.codeIn K cd39 "alike" = true)
    (k39 : PySem.W.keepIn K (.ref f39) = true)
    (l40 : K.lookup f40 = some ⟨oc40, od40, .func (PySem.W.fnOf "_law_cell_at" "_law_cell_at" (defArgs s_law_cell_at) (defBody s_law_cell_at) (defScope s_law_cell_at) .none kV40 dc40 pm40 an40 cd40 ct40), sl40⟩)
    (d40 : PySem.W.codeIn K cd40 "_law_cell_at" = true)
    (k40 : PySem.W.keepIn K (.ref f40) = true)
    (l41 : K.lookup f41 = some ⟨oc41, od41, .func (PySem.W.fnOf "_law_sign" "_law_sign" (defArgs s_law_sign) (defBody s_law_sign) (defScope s_law_sign) .none kV41 dc41 pm41 an41 cd41 ct41), sl41⟩)
    (d41 : PySem.W.codeIn K cd41 "_law_sign" = true)
    (k41 : PySem.W.keepIn K (.ref f41) = true)
    (l42 : K.lookup f42 = some ⟨oc42, od42, .func (PySem.W.fnOf "_law_key" "_law_key" (defArgs s_law_key) (defBody s_law_key) (defScope s_law_key) .none kV42 dc42 pm42 an42 cd42 ct42), sl42⟩)
    (d42 : PySem.W.codeIn K cd42 "_law_key" = true)
    (k42 : PySem.W.keepIn K (.ref f42) = true)
    (l43 : K.lookup f43 = some ⟨oc43, od43, .func (PySem.W.fnOf "_law_same" "_law_same" (defArgs s_law_same) (defBody s_law_same) (defScope s_law_same) .none kV43 dc43 pm43 an43 cd43 ct43), sl43⟩)
    (d43 : PySem.W.codeIn K cd43 "_law_same" = true)
    (k43 : PySem.W.keepIn K (.ref f43) = true)
    (l44 : K.lookup f44 = some ⟨oc44, od44, .func (PySem.W.fnOf "_law_row" "_law_row" (defArgs s_law_row) (defBody s_law_row) (defScope s_law_row) .none kV44 dc44 pm44 an44 cd44 ct44), sl44⟩)
    (d44 : PySem.W.codeIn K cd44 "_law_row" = true)
    (k44 : PySem.W.keepIn K (.ref f44) = true)
    (l45 : K.lookup f45 = some ⟨oc45, od45, .func (PySem.W.fnOf "_law_sets" "_law_sets" (defArgs s_law_sets) (defBody s_law_sets) (defScope s_law_sets) .none kV45 dc45 pm45 an45 cd45 ct45), sl45⟩)
    (d45 : PySem.W.codeIn K cd45 "_law_sets" = true)
    (k45 : PySem.W.keepIn K (.ref f45) = true)
    (l46 : K.lookup f46 = some ⟨oc46, od46, .func (PySem.W.fnOf "_law_even" "_law_even" (defArgs s_law_even) (defBody s_law_even) (defScope s_law_even) .none kV46 dc46 pm46 an46 cd46 ct46), sl46⟩)
    (d46 : PySem.W.codeIn K cd46 "_law_even" = true)
    (k46 : PySem.W.keepIn K (.ref f46) = true)
    (l47 : K.lookup f47 = some ⟨oc47, od47, .func (PySem.W.fnOf "_law_two" "_law_two" (defArgs s_law_two) (defBody s_law_two) (defScope s_law_two) .none kV47 dc47 pm47 an47 cd47 ct47), sl47⟩)
    (d47 : PySem.W.codeIn K cd47 "_law_two" = true)
    (k47 : PySem.W.keepIn K (.ref f47) = true)
    (l48 : K.lookup f48 = some ⟨oc48, od48, .func (PySem.W.fnOf "law" "law" (defArgs s_law) (defBody s_law) (defScope s_law) .none kV48 dc48 pm48 an48 cd48 ct48), sl48⟩)
    (d48 : PySem.W.codeIn K cd48 "law" = true)
    (k48 : PySem.W.keepIn K (.ref f48) = true)
    (al0 : PySem.W.nsIn K mainGlobals "paper_slots" = some (some (.ref f11)))
    (pg0 : PySem.W.plainGet K C0 Str.empty = true)
    (hd0 : PySem.W.hasDictIn K C0 = true)
    (po0 : PySem.W.plainOver K C0 = true)
    (sa0 : PySem.W.findIn K (.ref C0) "__setattr__" = some (some (.builtin "object.__setattr__")))
    (na0_0 : PySem.W.findIn K (.ref C0) "cells" = some none)
    (na0_1 : PySem.W.findIn K (.ref C0) "size" = some none)
    (na0_2 : PySem.W.findIn K (.ref C0) "least" = some none)
    (na0_3 : PySem.W.findIn K (.ref C0) "row" = some none)
    (na0_4 : PySem.W.findIn K (.ref C0) "held" = some none)
    (na0_5 : PySem.W.findIn K (.ref C0) "born" = some none)
    (na0_6 : PySem.W.findIn K (.ref C0) "comings" = some none)
    (na0_7 : PySem.W.findIn K (.ref C0) "goings" = some none)
    (na0_8 : PySem.W.findIn K (.ref C0) "tidied" = some none)
    (na0_9 : PySem.W.findIn K (.ref C0) "moved" = some none)
    (fn13 : PySem.W.isFn K (.ref f13) = true)
    (mk0 : PySem.W.makesIn K C0 = true)
    (kC0 : PySem.W.keepIn K (.ref C0) = true)
    (fn14 : PySem.W.isFn K (.ref f14) = true)
    (fn15 : PySem.W.isFn K (.ref f15) = true)
    (fn16 : PySem.W.isFn K (.ref f16) = true)
    (fn17 : PySem.W.isFn K (.ref f17) = true)
    (fn18 : PySem.W.isFn K (.ref f18) = true)
    (fn19 : PySem.W.isFn K (.ref f19) = true)
    (fn20 : PySem.W.isFn K (.ref f20) = true)
    (fn21 : PySem.W.isFn K (.ref f21) = true)
    (fn22 : PySem.W.isFn K (.ref f22) = true)
    (fn23 : PySem.W.isFn K (.ref f23) = true)
    (pg1 : PySem.W.plainGet K C1 Str.empty = true)
    (hd1 : PySem.W.hasDictIn K C1 = true)
    (po1 : PySem.W.plainOver K C1 = true)
    (sa1 : PySem.W.findIn K (.ref C1) "__setattr__" = some (some (.builtin "object.__setattr__")))
    (na1_0 : PySem.W.findIn K (.ref C1) "cells" = some none)
    (na1_1 : PySem.W.findIn K (.ref C1) "size" = some none)
    (na1_2 : PySem.W.findIn K (.ref C1) "least" = some none)
    (na1_3 : PySem.W.findIn K (.ref C1) "row" = some none)
    (na1_4 : PySem.W.findIn K (.ref C1) "held" = some none)
    (na1_5 : PySem.W.findIn K (.ref C1) "born" = some none)
    (na1_6 : PySem.W.findIn K (.ref C1) "comings" = some none)
    (na1_7 : PySem.W.findIn K (.ref C1) "goings" = some none)
    (na1_8 : PySem.W.findIn K (.ref C1) "tidied" = some none)
    (na1_9 : PySem.W.findIn K (.ref C1) "moved" = some none)
    (fn25 : PySem.W.isFn K (.ref f25) = true)
    (mk1 : PySem.W.makesIn K C1 = true)
    (kC1 : PySem.W.keepIn K (.ref C1) = true)
    (fn26 : PySem.W.isFn K (.ref f26) = true)
    (pg2 : PySem.W.plainGet K C2 Str.empty = true)
    (hd2 : PySem.W.hasDictIn K C2 = true)
    (po2 : PySem.W.plainOver K C2 = true)
    (sa2 : PySem.W.findIn K (.ref C2) "__setattr__" = some (some (.builtin "object.__setattr__")))
    (na2_0 : PySem.W.findIn K (.ref C2) "book" = some none)
    (fn27 : PySem.W.isFn K (.ref f27) = true)
    (mk2 : PySem.W.makesIn K C2 = true)
    (kC2 : PySem.W.keepIn K (.ref C2) = true)
    (fn28 : PySem.W.isFn K (.ref f28) = true)
    (fn29 : PySem.W.isFn K (.ref f29) = true)
    (fn30 : PySem.W.isFn K (.ref f30) = true)
    (fn31 : PySem.W.isFn K (.ref f31) = true)
    (fn32 : PySem.W.isFn K (.ref f32) = true)
    (xx0 : PySem.W.excIn K X0 [.type "ValueError", .type "Exception", .type "BaseException", .type "object"] "ValueError.__new__" = true)
    (xk0 : PySem.W.keepIn K (.ref X0) = true)
    (xb0 : PySem.W.subIn K (.ref X0) (.type "BaseException") = some true)
    (xt0 : PySem.W.typeIn K (.ref X0) = some (.type "type"))
    (xx1 : PySem.W.excIn K X1 [.type "ValueError", .type "Exception", .type "BaseException", .type "object"] "ValueError.__new__" = true)
    (xk1 : PySem.W.keepIn K (.ref X1) = true)
    (xb1 : PySem.W.subIn K (.ref X1) (.type "BaseException") = some true)
    (xt1 : PySem.W.typeIn K (.ref X1) = some (.type "type"))
    (xx2 : PySem.W.excIn K X2 [.type "ValueError", .type "Exception", .type "BaseException", .type "object"] "ValueError.__new__" = true)
    (xk2 : PySem.W.keepIn K (.ref X2) = true)
    (xb2 : PySem.W.subIn K (.ref X2) (.type "BaseException") = some true)
    (xt2 : PySem.W.typeIn K (.ref X2) = some (.type "type"))
    (cr0 : PySem.W.readsIn K C0 (.type "type") = true)
    (cg0 : PySem.W.specialIn K (.ref C0) "__getattribute__" = some (some (.builtin "type.__getattribute__")))
    (cf0 : PySem.W.findCls K (.ref C0) (.type "type") "__init__" = some (.val (.ref f13)))
    (gl0 : PySem.W.nsIn K mainGlobals "FAR" = some (some (.int 1000000000000000000000000000000000000000000000000000000000000 tk0)))
    (gl1 : PySem.W.nsIn K mainGlobals "MOST_SIGNS" = some (some (.int 60 tk1)))
    (gl2 : PySem.W.nsIn K mainGlobals "MOST_PARTS" = some (some (.int 6 tk2)))
    (gl3 : PySem.W.nsIn K mainGlobals "DEEPEST" = some (some (.int 3 tk3)))
    (gl4 : PySem.W.nsIn K mainGlobals "LEAST" = some (some (.int 8 tk4)))
    (gl5 : PySem.W.nsIn K mainGlobals "GREATEST" = some (some (.int 4096 tk5)))
    (gl6 : PySem.W.nsIn K mainGlobals "TURN" = some (some (.int 2147483647 tk6)))
    (gl7 : PySem.W.nsIn K mainGlobals "EMPTY" = some (some (.int (-1) tk7)))
    (gl8 : PySem.W.nsIn K mainGlobals "GONE" = some (some (.int (-2) tk8)))
    (n_all : PySem.W.nsIn K mainGlobals "all" = some none)
    (n_any : PySem.W.nsIn K mainGlobals "any" = some none)
    (n_bool : PySem.W.nsIn K mainGlobals "bool" = some none)
    (n_enumerate : PySem.W.nsIn K mainGlobals "enumerate" = some none)
    (n_int : PySem.W.nsIn K mainGlobals "int" = some none)
    (n_isinstance : PySem.W.nsIn K mainGlobals "isinstance" = some none)
    (n_len : PySem.W.nsIn K mainGlobals "len" = some none)
    (n_list : PySem.W.nsIn K mainGlobals "list" = some none)
    (n_ord : PySem.W.nsIn K mainGlobals "ord" = some none)
    (n_range : PySem.W.nsIn K mainGlobals "range" = some none)
    (n_str : PySem.W.nsIn K mainGlobals "str" = some none)
    (n_tuple : PySem.W.nsIn K mainGlobals "tuple" = some none)
    (n_zip : PySem.W.nsIn K mainGlobals "zip" = some none) :
    ∃ fd : FuncData, (∀ (s : Shared) (v : Value), BindsTo s fd ⟨[v], []⟩ [("_law_script", v)]) ∧ ∀ base : Heap, K.In base → base.Ns mainGlobals mg → FnOk l.prog w K mg base CX0 15 fa fd ["_law_script"] (spLaw K) := by
  have e := hfa.symm.trans (PySem.W.mg_of X G a48)
  cases e
  have T : Txt K mg ⟨f0, PySem.W.fnOf "is_within" "is_within" (defArgs s_is_within) (defBody s_is_within) (defScope s_is_within) .none kV0 dc0 pm0 an0 cd0 ct0, f1, PySem.W.fnOf "is_key" "is_key" (defArgs s_is_key) (defBody s_is_key) (defScope s_is_key) .none kV1 dc1 pm1 an1 cd1 ct1, f2, PySem.W.fnOf "checked" "checked" (defArgs s_checked) (defBody s_checked) (defScope s_checked) .none kV2 dc2 pm2 an2 cd2 ct2, f3, PySem.W.fnOf "is_size" "is_size" (defArgs s_is_size) (defBody s_is_size) (defScope s_is_size) .none kV3 dc3 pm3 an3 cd3 ct3, f4, PySem.W.fnOf "room" "room" (defArgs s_room) (defBody s_room) (defScope s_room) .none kV4 dc4 pm4 an4 cd4 ct4, f5, PySem.W.fnOf "size_for" "size_for" (defArgs s_size_for) (defBody s_size_for) (defScope s_size_for) .none kV5 dc5 pm5 an5 cd5 ct5, f6, PySem.W.fnOf "stride" "stride" (defArgs s_stride) (defBody s_stride) (defScope s_stride) .none kV6 dc6 pm6 an6 cd6 ct6, f7, PySem.W.fnOf "probe" "probe" (defArgs s_probe) (defBody s_probe) (defScope s_probe) .none kV7 dc7 pm7 an7 cd7 ct7, f8, PySem.W.fnOf "stamp" "stamp" (defArgs s_stamp) (defBody s_stamp) (defScope s_stamp) .none kV8 dc8 pm8 an8 cd8 ct8, f9, PySem.W.fnOf "first_bare" "first_bare" (defArgs s_first_bare) (defBody s_first_bare) (defScope s_first_bare) .none kV9 dc9 pm9 an9 cd9 ct9, f10, PySem.W.fnOf "cells_of" "cells_of" (defArgs s_cells_of) (defBody s_cells_of) (defScope s_cells_of) .none kV10 dc10 pm10 an10 cd10 ct10, f11, PySem.W.fnOf "paper" "paper" (defArgs s_paper) (defBody s_paper) (defScope s_paper) .none kV11 dc11 pm11 an11 cd11 ct11, f12, PySem.W.fnOf "place_of" "place_of" (defArgs s_place_of) (defBody s_place_of) (defScope s_place_of) .none kV12 dc12 pm12 an12 cd12 ct12, f13, PySem.W.fnOf "__init__" "Shelf.__init__" (defArgs s_Shelf___init__) (defBody s_Shelf___init__) (defScope s_Shelf___init__) (.ref dT13) kV13 dc13 pm13 an13 cd13 ct13, f14, PySem.W.fnOf "find" "Shelf.find" (defArgs s_Shelf_find) (defBody s_Shelf_find) (defScope s_Shelf_find) .none kV14 dc14 pm14 an14 cd14 ct14, f15, PySem.W.fnOf "lay" "Shelf.lay" (defArgs s_Shelf_lay) (defBody s_Shelf_lay) (defScope s_Shelf_lay) .none kV15 dc15 pm15 an15 cd15 ct15, f16, PySem.W.fnOf "mark_gone" "Shelf.mark_gone" (defArgs s_Shelf_mark_gone) (defBody s_Shelf_mark_gone) (defScope s_Shelf_mark_gone) .none kV16 dc16 pm16 an16 cd16 ct16, f17, PySem.W.fnOf "relay" "Shelf.relay" (defArgs s_Shelf_relay) (defBody s_Shelf_relay) (defScope s_Shelf_relay) .none kV17 dc17 pm17 an17 cd17 ct17, f18, PySem.W.fnOf "make_room" "Shelf.make_room" (defArgs s_Shelf_make_room) (defBody s_Shelf_make_room) (defScope s_Shelf_make_room) .none kV18 dc18 pm18 an18 cd18 ct18, f19, PySem.W.fnOf "put" "Shelf.put" (defArgs s_Shelf_put) (defBody s_Shelf_put) (defScope s_Shelf_put) .none kV19 dc19 pm19 an19 cd19 ct19, f20, PySem.W.fnOf "has" "Shelf.has" (defArgs s_Shelf_has) (defBody s_Shelf_has) (defScope s_Shelf_has) .none kV20 dc20 pm20 an20 cd20 ct20, f21, PySem.W.fnOf "take" "Shelf.take" (defArgs s_Shelf_take) (defBody s_Shelf_take) (defScope s_Shelf_take) .none kV21 dc21 pm21 an21 cd21 ct21, f22, PySem.W.fnOf "many" "Shelf.many" (defArgs s_Shelf_many) (defBody s_Shelf_many) (defScope s_Shelf_many) .none kV22 dc22 pm22 an22 cd22 ct22, f23, PySem.W.fnOf "pairs" "Shelf.pairs" (defArgs s_Shelf_pairs) (defBody s_Shelf_pairs) (defScope s_Shelf_pairs) .none kV23 dc23 pm23 an23 cd23 ct23, f24, PySem.W.fnOf "packed" "packed" (defArgs s_packed) (defBody s_packed) (defScope s_packed) .none kV24 dc24 pm24 an24 cd24 ct24, f25, PySem.W.fnOf "__init__" "Table.__init__" (defArgs s_Table___init__) (defBody s_Table___init__) (defScope s_Table___init__) .none kV25 dc25 pm25 an25 cd25 ct25, f26, PySem.W.fnOf "make_room" "Table.make_room" (defArgs s_Table_make_room) (defBody s_Table_make_room) (defScope s_Table_make_room) .none kV26 dc26 pm26 an26 cd26 ct26, f27, PySem.W.fnOf "__init__" "Keyset.__init__" (defArgs s_Keyset___init__) (defBody s_Keyset___init__) (defScope s_Keyset___init__) (.ref dT27) kV27 dc27 pm27 an27 cd27 ct27, f28, PySem.W.fnOf "add" "Keyset.add" (defArgs s_Keyset_add) (defBody s_Keyset_add) (defScope s_Keyset_add) .none kV28 dc28 pm28 an28 cd28 ct28, f29, PySem.W.fnOf "drop" "Keyset.drop" (defArgs s_Keyset_drop) (defBody s_Keyset_drop) (defScope s_Keyset_drop) .none kV29 dc29 pm29 an29 cd29 ct29, f30, PySem.W.fnOf "has" "Keyset.has" (defArgs s_Keyset_has) (defBody s_Keyset_has) (defScope s_Keyset_has) .none kV30 dc30 pm30 an30 cd30 ct30, f31, PySem.W.fnOf "many" "Keyset.many" (defArgs s_Keyset_many) (defBody s_Keyset_many) (defScope s_Keyset_many) .none kV31 dc31 pm31 an31 cd31 ct31, f32, PySem.W.fnOf "listed" "Keyset.listed" (defArgs s_Keyset_listed) (defBody s_Keyset_listed) (defScope s_Keyset_listed) .none kV32 dc32 pm32 an32 cd32 ct32, f33, PySem.W.fnOf "met" "met" (defArgs s_met) (defBody s_met) (defScope s_met) .none kV33 dc33 pm33 an33 cd33 ct33, f34, PySem.W.fnOf "lacking" "lacking" (defArgs s_lacking) (defBody s_lacking) (defScope s_lacking) .none kV34 dc34 pm34 an34 cd34 ct34, f35, PySem.W.fnOf "joined" "joined" (defArgs s_joined) (defBody s_joined) (defScope s_joined) .none kV35 dc35 pm35 an35 cd35 ct35, f36, PySem.W.fnOf "either" "either" (defArgs s_either) (defBody s_either) (defScope s_either) .none kV36 dc36 pm36 an36 cd36 ct36, f37, PySem.W.fnOf "within" "within" (defArgs s_within) (defBody s_within) (defScope s_within) .none kV37 dc37 pm37 an37 cd37 ct37, f38, PySem.W.fnOf "apart" "apart" (defArgs s_apart) (defBody s_apart) (defScope s_apart) .none kV38 dc38 pm38 an38 cd38 ct38, f39, PySem.W.fnOf "alike" "alike" (defArgs s_alike) (defBody s_alike) (defScope s_alike) .none kV39 dc39 pm39 an39 cd39 ct39, f40, PySem.W.fnOf "_law_cell_at" "_law_cell_at" (defArgs s_law_cell_at) (defBody s_law_cell_at) (defScope s_law_cell_at) .none kV40 dc40 pm40 an40 cd40 ct40, f41, PySem.W.fnOf "_law_sign" "_law_sign" (defArgs s_law_sign) (defBody s_law_sign) (defScope s_law_sign) .none kV41 dc41 pm41 an41 cd41 ct41, f42, PySem.W.fnOf "_law_key" "_law_key" (defArgs s_law_key) (defBody s_law_key) (defScope s_law_key) .none kV42 dc42 pm42 an42 cd42 ct42, f43, PySem.W.fnOf "_law_same" "_law_same" (defArgs s_law_same) (defBody s_law_same) (defScope s_law_same) .none kV43 dc43 pm43 an43 cd43 ct43, f44, PySem.W.fnOf "_law_row" "_law_row" (defArgs s_law_row) (defBody s_law_row) (defScope s_law_row) .none kV44 dc44 pm44 an44 cd44 ct44, f45, PySem.W.fnOf "_law_sets" "_law_sets" (defArgs s_law_sets) (defBody s_law_sets) (defScope s_law_sets) .none kV45 dc45 pm45 an45 cd45 ct45, f46, PySem.W.fnOf "_law_even" "_law_even" (defArgs s_law_even) (defBody s_law_even) (defScope s_law_even) .none kV46 dc46 pm46 an46 cd46 ct46, f47, PySem.W.fnOf "_law_two" "_law_two" (defArgs s_law_two) (defBody s_law_two) (defScope s_law_two) .none kV47 dc47 pm47 an47 cd47 ct47, fa, PySem.W.fnOf "law" "law" (defArgs s_law) (defBody s_law) (defScope s_law) .none kV48 dc48 pm48 an48 cd48 ct48, C0, C1, C2, X0, X1, X2, tk0, tk1, tk2, tk3, tk4, tk5, tk6, tk7, tk8⟩ := ⟨fun_mk (st := s_is_within) l0 d0 k0,
    (fun_mk (st := s_is_within) l0 d0 k0).binds (ps := ["thing", "deep"]) fun _ _ _ _ _ _ us hl => match us, hl with | [_, _], _ => rfl,
    PySem.W.mg_of X G a0,
    fun_mk (st := s_is_key) l1 d1 k1,
    (fun_mk (st := s_is_key) l1 d1 k1).binds (ps := ["thing"]) fun _ _ _ _ _ _ us hl => match us, hl with | [_], _ => rfl,
    PySem.W.mg_of X G a1,
    fun_mk (st := s_checked) l2 d2 k2,
    (fun_mk (st := s_checked) l2 d2 k2).binds (ps := ["thing"]) fun _ _ _ _ _ _ us hl => match us, hl with | [_], _ => rfl,
    PySem.W.mg_of X G a2,
    fun_mk (st := s_is_size) l3 d3 k3,
    (fun_mk (st := s_is_size) l3 d3 k3).binds (ps := ["thing"]) fun _ _ _ _ _ _ us hl => match us, hl with | [_], _ => rfl,
    PySem.W.mg_of X G a3,
    fun_mk (st := s_room) l4 d4 k4,
    (fun_mk (st := s_room) l4 d4 k4).binds (ps := ["size"]) fun _ _ _ _ _ _ us hl => match us, hl with | [_], _ => rfl,
    PySem.W.mg_of X G a4,
    fun_mk (st := s_size_for) l5 d5 k5,
    (fun_mk (st := s_size_for) l5 d5 k5).binds (ps := ["many"]) fun _ _ _ _ _ _ us hl => match us, hl with | [_], _ => rfl,
    PySem.W.mg_of X G a5,
    fun_mk (st := s_stride) l6 d6 k6,
    (fun_mk (st := s_stride) l6 d6 k6).binds (ps := ["stamp"]) fun _ _ _ _ _ _ us hl => match us, hl with | [_], _ => rfl,
    PySem.W.mg_of X G a6,
    fun_mk (st := s_probe) l7 d7 k7,
    (fun_mk (st := s_probe) l7 d7 k7).binds (ps := ["stamp", "size", "count"]) fun _ _ _ _ _ _ us hl => match us, hl with | [_, _, _], _ => rfl,
    PySem.W.mg_of X G a7,
    fun_mk (st := s_stamp) l8 d8 k8,
    (fun_mk (st := s_stamp) l8 d8 k8).binds (ps := ["key"]) fun _ _ _ _ _ _ us hl => match us, hl with | [_], _ => rfl,
    PySem.W.mg_of X G a8,
    fun_mk (st := s_first_bare) l9 d9 k9,
    (fun_mk (st := s_first_bare) l9 d9 k9).binds (ps := ["cells", "key"]) fun _ _ _ _ _ _ us hl => match us, hl with | [_, _], _ => rfl,
    PySem.W.mg_of X G a9,
    fun_mk (st := s_cells_of) l10 d10 k10,
    (fun_mk (st := s_cells_of) l10 d10 k10).binds (ps := ["row", "size"]) fun _ _ _ _ _ _ us hl => match us, hl with | [_, _], _ => rfl,
    PySem.W.mg_of X G a10,
    fun_mk (st := s_paper) l11 d11 k11,
    (fun_mk (st := s_paper) l11 d11 k11).binds (ps := ["cells", "row", "key"]) fun _ _ _ _ _ _ us hl => match us, hl with | [_, _, _], _ => rfl,
    PySem.W.mg_of X G a11,
    fun_mk (st := s_place_of) l12 d12 k12,
    (fun_mk (st := s_place_of) l12 d12 k12).binds (ps := ["cells", "row", "key"]) fun _ _ _ _ _ _ us hl => match us, hl with | [_, _, _], _ => rfl,
    PySem.W.mg_of X G a12,
    (show FunD K "__init__" "Shelf.__init__" (defArgs s_Shelf___init__) (defBody s_Shelf___init__) (defScope s_Shelf___init__) [V.int 8] [] f13 _ from fund_mk l13 d13 k13 dl13 dd13 (by decide) (by repeat' first | exact .nil | refine .cons ?_ ?_ | exact ⟨_, rfl⟩ | rfl)),
    FunD.binds1 (show FunD K "__init__" "Shelf.__init__" (defArgs s_Shelf___init__) (defBody s_Shelf___init__) (defScope s_Shelf___init__) [V.int 8] [] f13 _ from fund_mk l13 d13 k13 dl13 dd13 (by decide) (by repeat' first | exact .nil | refine .cons ?_ ?_ | exact ⟨_, rfl⟩ | rfl)) 1 0 (by decide) rfl fun T kV doc pm an cdv ct us its hu hi => match us, its, hu, hi with | [_], [_], _, _ => ⟨_, rfl, rfl⟩,
    FunD.binds1 (show FunD K "__init__" "Shelf.__init__" (defArgs s_Shelf___init__) (defBody s_Shelf___init__) (defScope s_Shelf___init__) [V.int 8] [] f13 _ from fund_mk l13 d13 k13 dl13 dd13 (by decide) (by repeat' first | exact .nil | refine .cons ?_ ?_ | exact ⟨_, rfl⟩ | rfl)) 2 1 (by decide) rfl fun T kV doc pm an cdv ct us its hu hi => match us, its, hu, hi with | [_, _], [_], _, _ => ⟨_, rfl, rfl⟩,
    fun_mk (st := s_Shelf_find) l14 d14 k14,
    (fun_mk (st := s_Shelf_find) l14 d14 k14).binds (ps := ["self", "key"]) fun _ _ _ _ _ _ us hl => match us, hl with | [_, _], _ => rfl,
    fun_mk (st := s_Shelf_lay) l15 d15 k15,
    (fun_mk (st := s_Shelf_lay) l15 d15 k15).binds (ps := ["self", "key", "place"]) fun _ _ _ _ _ _ us hl => match us, hl with | [_, _, _], _ => rfl,
    fun_mk (st := s_Shelf_mark_gone) l16 d16 k16,
    (fun_mk (st := s_Shelf_mark_gone) l16 d16 k16).binds (ps := ["self", "key", "place"]) fun _ _ _ _ _ _ us hl => match us, hl with | [_, _, _], _ => rfl,
    fun_mk (st := s_Shelf_relay) l17 d17 k17,
    (fun_mk (st := s_Shelf_relay) l17 d17 k17).binds (ps := ["self"]) fun _ _ _ _ _ _ us hl => match us, hl with | [_], _ => rfl,
    fun_mk (st := s_Shelf_make_room) l18 d18 k18,
    (fun_mk (st := s_Shelf_make_room) l18 d18 k18).binds (ps := ["self"]) fun _ _ _ _ _ _ us hl => match us, hl with | [_], _ => rfl,
    fun_mk (st := s_Shelf_put) l19 d19 k19,
    (fun_mk (st := s_Shelf_put) l19 d19 k19).binds (ps := ["self", "key", "value"]) fun _ _ _ _ _ _ us hl => match us, hl with | [_, _, _], _ => rfl,
    fun_mk (st := s_Shelf_has) l20 d20 k20,
    (fun_mk (st := s_Shelf_has) l20 d20 k20).binds (ps := ["self", "key"]) fun _ _ _ _ _ _ us hl => match us, hl with | [_, _], _ => rfl,
    fun_mk (st := s_Shelf_take) l21 d21 k21,
    (fun_mk (st := s_Shelf_take) l21 d21 k21).binds (ps := ["self", "key"]) fun _ _ _ _ _ _ us hl => match us, hl with | [_, _], _ => rfl,
    fun_mk (st := s_Shelf_many) l22 d22 k22,
    (fun_mk (st := s_Shelf_many) l22 d22 k22).binds (ps := ["self"]) fun _ _ _ _ _ _ us hl => match us, hl with | [_], _ => rfl,
    fun_mk (st := s_Shelf_pairs) l23 d23 k23,
    (fun_mk (st := s_Shelf_pairs) l23 d23 k23).binds (ps := ["self"]) fun _ _ _ _ _ _ us hl => match us, hl with | [_], _ => rfl,
    fun_mk (st := s_packed) l24 d24 k24,
    (fun_mk (st := s_packed) l24 d24 k24).binds (ps := ["row", "beside"]) fun _ _ _ _ _ _ us hl => match us, hl with | [_, _], _ => rfl,
    PySem.W.mg_of X G a24,
    fun_mk (st := s_Table___init__) l25 d25 k25,
    (fun_mk (st := s_Table___init__) l25 d25 k25).binds (ps := ["self"]) fun _ _ _ _ _ _ us hl => match us, hl with | [_], _ => rfl,
    fun_mk (st := s_Table_make_room) l26 d26 k26,
    (fun_mk (st := s_Table_make_room) l26 d26 k26).binds (ps := ["self"]) fun _ _ _ _ _ _ us hl => match us, hl with | [_], _ => rfl,
    (show FunD K "__init__" "Keyset.__init__" (defArgs s_Keyset___init__) (defBody s_Keyset___init__) (defScope s_Keyset___init__) [V.non] [] f27 _ from fund_mk l27 d27 k27 dl27 dd27 (by decide) (by repeat' first | exact .nil | refine .cons ?_ ?_ | exact ⟨_, rfl⟩ | rfl)),
    FunD.binds1 (show FunD K "__init__" "Keyset.__init__" (defArgs s_Keyset___init__) (defBody s_Keyset___init__) (defScope s_Keyset___init__) [V.non] [] f27 _ from fund_mk l27 d27 k27 dl27 dd27 (by decide) (by repeat' first | exact .nil | refine .cons ?_ ?_ | exact ⟨_, rfl⟩ | rfl)) 1 0 (by decide) rfl fun T kV doc pm an cdv ct us its hu hi => match us, its, hu, hi with | [_], [_], _, _ => ⟨_, rfl, rfl⟩,
    FunD.binds1 (show FunD K "__init__" "Keyset.__init__" (defArgs s_Keyset___init__) (defBody s_Keyset___init__) (defScope s_Keyset___init__) [V.non] [] f27 _ from fund_mk l27 d27 k27 dl27 dd27 (by decide) (by repeat' first | exact .nil | refine .cons ?_ ?_ | exact ⟨_, rfl⟩ | rfl)) 2 1 (by decide) rfl fun T kV doc pm an cdv ct us its hu hi => match us, its, hu, hi with | [_, _], [_], _, _ => ⟨_, rfl, rfl⟩,
    fun_mk (st := s_Keyset_add) l28 d28 k28,
    (fun_mk (st := s_Keyset_add) l28 d28 k28).binds (ps := ["self", "key"]) fun _ _ _ _ _ _ us hl => match us, hl with | [_, _], _ => rfl,
    fun_mk (st := s_Keyset_drop) l29 d29 k29,
    (fun_mk (st := s_Keyset_drop) l29 d29 k29).binds (ps := ["self", "key"]) fun _ _ _ _ _ _ us hl => match us, hl with | [_, _], _ => rfl,
    fun_mk (st := s_Keyset_has) l30 d30 k30,
    (fun_mk (st := s_Keyset_has) l30 d30 k30).binds (ps := ["self", "key"]) fun _ _ _ _ _ _ us hl => match us, hl with | [_, _], _ => rfl,
    fun_mk (st := s_Keyset_many) l31 d31 k31,
    (fun_mk (st := s_Keyset_many) l31 d31 k31).binds (ps := ["self"]) fun _ _ _ _ _ _ us hl => match us, hl with | [_], _ => rfl,
    fun_mk (st := s_Keyset_listed) l32 d32 k32,
    (fun_mk (st := s_Keyset_listed) l32 d32 k32).binds (ps := ["self"]) fun _ _ _ _ _ _ us hl => match us, hl with | [_], _ => rfl,
    fun_mk (st := s_met) l33 d33 k33,
    (fun_mk (st := s_met) l33 d33 k33).binds (ps := ["one", "other"]) fun _ _ _ _ _ _ us hl => match us, hl with | [_, _], _ => rfl,
    PySem.W.mg_of X G a33,
    fun_mk (st := s_lacking) l34 d34 k34,
    (fun_mk (st := s_lacking) l34 d34 k34).binds (ps := ["one", "other"]) fun _ _ _ _ _ _ us hl => match us, hl with | [_, _], _ => rfl,
    PySem.W.mg_of X G a34,
    fun_mk (st := s_joined) l35 d35 k35,
    (fun_mk (st := s_joined) l35 d35 k35).binds (ps := ["one", "other"]) fun _ _ _ _ _ _ us hl => match us, hl with | [_, _], _ => rfl,
    PySem.W.mg_of X G a35,
    fun_mk (st := s_either) l36 d36 k36,
    (fun_mk (st := s_either) l36 d36 k36).binds (ps := ["one", "other"]) fun _ _ _ _ _ _ us hl => match us, hl with | [_, _], _ => rfl,
    PySem.W.mg_of X G a36,
    fun_mk (st := s_within) l37 d37 k37,
    (fun_mk (st := s_within) l37 d37 k37).binds (ps := ["one", "other"]) fun _ _ _ _ _ _ us hl => match us, hl with | [_, _], _ => rfl,
    PySem.W.mg_of X G a37,
    fun_mk (st := s_apart) l38 d38 k38,
    (fun_mk (st := s_apart) l38 d38 k38).binds (ps := ["one", "other"]) fun _ _ _ _ _ _ us hl => match us, hl with | [_, _], _ => rfl,
    PySem.W.mg_of X G a38,
    fun_mk (st := s_alike) l39 d39 k39,
    (fun_mk (st := s_alike) l39 d39 k39).binds (ps := ["one", "other"]) fun _ _ _ _ _ _ us hl => match us, hl with | [_, _], _ => rfl,
    PySem.W.mg_of X G a39,
    fun_mk (st := s_law_cell_at) l40 d40 k40,
    (fun_mk (st := s_law_cell_at) l40 d40 k40).binds (ps := ["_law_script", "_law_k"]) fun _ _ _ _ _ _ us hl => match us, hl with | [_, _], _ => rfl,
    PySem.W.mg_of X G a40,
    fun_mk (st := s_law_sign) l41 d41 k41,
    (fun_mk (st := s_law_sign) l41 d41 k41).binds (ps := ["_law_cell"]) fun _ _ _ _ _ _ us hl => match us, hl with | [_], _ => rfl,
    PySem.W.mg_of X G a41,
    fun_mk (st := s_law_key) l42 d42 k42,
    (fun_mk (st := s_law_key) l42 d42 k42).binds (ps := ["_law_cell"]) fun _ _ _ _ _ _ us hl => match us, hl with | [_], _ => rfl,
    PySem.W.mg_of X G a42,
    fun_mk (st := s_law_same) l43 d43 k43,
    (fun_mk (st := s_law_same) l43 d43 k43).binds (ps := ["_law_found", "_law_due"]) fun _ _ _ _ _ _ us hl => match us, hl with | [_, _], _ => rfl,
    PySem.W.mg_of X G a43,
    fun_mk (st := s_law_row) l44 d44 k44,
    (fun_mk (st := s_law_row) l44 d44 k44).binds (ps := ["_law_found", "_law_row_here"]) fun _ _ _ _ _ _ us hl => match us, hl with | [_, _], _ => rfl,
    PySem.W.mg_of X G a44,
    fun_mk (st := s_law_sets) l45 d45 k45,
    (fun_mk (st := s_law_sets) l45 d45 k45).binds (ps := ["_law_script"]) fun _ _ _ _ _ _ us hl => match us, hl with | [_], _ => rfl,
    PySem.W.mg_of X G a45,
    fun_mk (st := s_law_even) l46 d46 k46,
    (fun_mk (st := s_law_even) l46 d46 k46).binds (ps := ["_law_one", "_law_other"]) fun _ _ _ _ _ _ us hl => match us, hl with | [_, _], _ => rfl,
    PySem.W.mg_of X G a46,
    fun_mk (st := s_law_two) l47 d47 k47,
    (fun_mk (st := s_law_two) l47 d47 k47).binds (ps := ["_law_one", "_law_other"]) fun _ _ _ _ _ _ us hl => match us, hl with | [_, _], _ => rfl,
    PySem.W.mg_of X G a47,
    fun_mk (st := s_law) l48 d48 k48,
    (fun_mk (st := s_law) l48 d48 k48).binds (ps := ["_law_script"]) fun _ _ _ _ _ _ us hl => match us, hl with | [_], _ => rfl,
    PySem.W.mg_of X G a48,
    PySem.W.mg_of X G al0,
    ⟨pg0, hd0, po0, sa0⟩,
    PySem.W.mg_of X G aC0,
    na0_0,
    na0_1,
    na0_2,
    na0_3,
    na0_4,
    na0_5,
    na0_6,
    na0_7,
    na0_8,
    na0_9,
    ⟨mk0, me0_13, fn13, kC0⟩,
    ⟨me0_14, fn14, k14⟩,
    ⟨me0_15, fn15, k15⟩,
    ⟨me0_16, fn16, k16⟩,
    ⟨me0_17, fn17, k17⟩,
    ⟨me0_18, fn18, k18⟩,
    ⟨me0_19, fn19, k19⟩,
    ⟨me0_20, fn20, k20⟩,
    ⟨me0_21, fn21, k21⟩,
    ⟨me0_22, fn22, k22⟩,
    ⟨me0_23, fn23, k23⟩,
    ⟨pg1, hd1, po1, sa1⟩,
    PySem.W.mg_of X G aC1,
    na1_0,
    na1_1,
    na1_2,
    na1_3,
    na1_4,
    na1_5,
    na1_6,
    na1_7,
    na1_8,
    na1_9,
    ⟨mk1, me1_25, fn25, kC1⟩,
    ⟨me1_26, fn26, k26⟩,
    ⟨me1_14, fn14, k14⟩,
    ⟨me1_15, fn15, k15⟩,
    ⟨me1_16, fn16, k16⟩,
    ⟨me1_17, fn17, k17⟩,
    ⟨me1_19, fn19, k19⟩,
    ⟨me1_20, fn20, k20⟩,
    ⟨me1_21, fn21, k21⟩,
    ⟨me1_22, fn22, k22⟩,
    ⟨me1_23, fn23, k23⟩,
    ⟨pg2, hd2, po2, sa2⟩,
    PySem.W.mg_of X G aC2,
    na2_0,
    ⟨mk2, me2_27, fn27, kC2⟩,
    ⟨me2_28, fn28, k28⟩,
    ⟨me2_29, fn29, k29⟩,
    ⟨me2_30, fn30, k30⟩,
    ⟨me2_31, fn31, k31⟩,
    ⟨me2_32, fn32, k32⟩,
    ⟨cr0, cg0⟩,
    cf0,
    PySem.W.mg_of X G xa0,
    xx0,
    xk0,
    xb0,
    xt0,
    PySem.W.mg_of X G xa1,
    xx1,
    xk1,
    xb1,
    xt1,
    PySem.W.mg_of X G xa2,
    xx2,
    xk2,
    xb2,
    xt2,
    PySem.W.mg_of X G gl0,
    PySem.W.mg_of X G gl1,
    PySem.W.mg_of X G gl2,
    PySem.W.mg_of X G gl3,
    PySem.W.mg_of X G gl4,
    PySem.W.mg_of X G gl5,
    PySem.W.mg_of X G gl6,
    PySem.W.mg_of X G gl7,
    PySem.W.mg_of X G gl8,
    PySem.W.mg_none_of X G n_all,
    PySem.W.mg_none_of X G n_any,
    PySem.W.mg_none_of X G n_bool,
    PySem.W.mg_none_of X G n_enumerate,
    PySem.W.mg_none_of X G n_int,
    PySem.W.mg_none_of X G n_isinstance,
    PySem.W.mg_none_of X G n_len,
    PySem.W.mg_none_of X G n_list,
    PySem.W.mg_none_of X G n_ord,
    PySem.W.mg_none_of X G n_range,
    PySem.W.mg_none_of X G n_str,
    PySem.W.mg_none_of X G n_tuple,
    PySem.W.mg_none_of X G n_zip⟩
  exact ⟨_, fun s v => .of_eq rfl, fun base _ _ => ok_law T⟩
theorem walk {l : PySem.W.OpenLaw} {q : Program} {loose : List Str} {XP : (Str → Option Value) → Heap → Prop} {YP : World → Heap → Prop} {d : DefRec} {K : Params → PySem.W.Frag} (hn : l.most = some 63) (hdf : d.params.defaults = [])
    (hY : ∀ (w : World) (h : Heap), YP w h → (K w.params).In h)
    (F : ∀ (w : World) (mg : Str → Option Value) (fa : Addr) (h : Heap), (K w.params).In h → h.Ns mainGlobals mg → mg d.name = some (.ref fa) →
      ∃ fd : FuncData, (∀ (s : Shared) (u : Value), BindsTo s fd ⟨[u], []⟩ [("_law_script", u)]) ∧ ∀ base : Heap, (K w.params).In base → base.Ns mainGlobals mg → FnOk l.prog w (K w.params) mg base CX0 15 fa fd ["_law_script"] (spLaw (K w.params))) :
    PySem.W.WalkO q loose XP YP l.row.toRowW d [] (fun f vs => PySem.call f vs) :=
  L2.walk_of (n := 63) (k := 15) (x := "_law_script") (CX := fun _ => CX0) (sp := fun w => spLaw (K w.params)) hn (by decide) hdf ⟨rfl, by decide, by decide⟩ hY F (fun _ _ a ns hl _ hS => ⟨a, ns, rfl, hS, hl, fun _ => rfl⟩) fun _ _ _ _ _ z => z

end Law

open PySem PySem.W PyProof.Rows
set_option maxRecDepth 100000 in
set_option maxHeartbeats 0 in
theorem PySem.Challenge.cw_slotbook_k86_whole_rules_of_sets_holds : PySem.Challenge.rw_slotbook_k86_whole_rules_of_sets.Holds := by
  w_on; o_law; k_head; (case hw => w_witness2)
  k_fill
  refine Law.walk (l := PySem.Challenge.rw_slotbook_k86_whole_rules_of_sets) rfl rfl (fun w h Y => PySem.W.kIn_of Y) ?F
  case F =>
    intro w mg fa h KX G hmg
    refine' Law.all_mk KX G hmg ?a0 ?a1 ?a2 ?a3 ?a4 ?a5 ?a6 ?a7 ?a8 ?a9 ?a10 ?a11 ?a12 ?a24 ?a33 ?a34 ?a35 ?a36 ?a37 ?a38 ?a39 ?a40 ?a41 ?a42 ?a43 ?a44 ?a45 ?a46 ?a47 ?a48 ?aC0 ?aC1 ?aC2 ?xa0 ?xa1 ?xa2 ?me0_13 ?me0_14 ?me0_15 ?me0_16 ?me0_17 ?me0_18 ?me0_19 ?me0_20 ?me0_21 ?me0_22 ?me0_23 ?me1_25 ?me1_26 ?me1_14 ?me1_15 ?me1_16 ?me1_17 ?me1_19 ?me1_20 ?me1_21 ?me1_22 ?me1_23 ?me2_27 ?me2_28 ?me2_29 ?me2_30 ?me2_31 ?me2_32 ?l0 ?d0 ?k0 ?l1 ?d1 ?k1 ?l2 ?d2 ?k2 ?l3 ?d3 ?k3 ?l4 ?d4 ?k4 ?l5 ?d5 ?k5 ?l6 ?d6 ?k6 ?l7 ?d7 ?k7 ?l8 ?d8 ?k8 ?l9 ?d9 ?k9 ?l10 ?d10 ?k10 ?l11 ?d11 ?k11 ?l12 ?d12 ?k12 ?l13 ?dl13 ?dd13 ?d13 ?k13 ?l14 ?d14 ?k14 ?l15 ?d15 ?k15 ?l16 ?d16 ?k16 ?l17 ?d17 ?k17 ?l18 ?d18 ?k18 ?l19 ?d19 ?k19 ?l20 ?d20 ?k20 ?l21 ?d21 ?k21 ?l22 ?d22 ?k22 ?l23 ?d23 ?k23 ?l24 ?d24 ?k24 ?l25 ?d25 ?k25 ?l26 ?d26 ?k26 ?l27 ?dl27 ?dd27 ?d27 ?k27 ?l28 ?d28 ?k28 ?l29 ?d29 ?k29 ?l30 ?d30 ?k30 ?l31 ?d31 ?k31 ?l32 ?d32 ?k32 ?l33 ?d33 ?k33 ?l34 ?d34 ?k34 ?l35 ?d35 ?k35 ?l36 ?d36 ?k36 ?l37 ?d37 ?k37 ?l38 ?d38 ?k38 ?l39 ?d39 ?k39 ?l40 ?d40 ?k40 ?l41 ?d41 ?k41 ?l42 ?d42 ?k42 ?l43 ?d43 ?k43 ?l44 ?d44 ?k44 ?l45 ?d45 ?k45 ?l46 ?d46 ?k46 ?l47 ?d47 ?k47 ?l48 ?d48 ?k48 ?al0 ?pg0 ?hd0 ?po0 ?sa0 ?na0_0 ?na0_1 ?na0_2 ?na0_3 ?na0_4 ?na0_5 ?na0_6 ?na0_7 ?na0_8 ?na0_9 ?fn13 ?mk0 ?kC0 ?fn14 ?fn15 ?fn16 ?fn17 ?fn18 ?fn19 ?fn20 ?fn21 ?fn22 ?fn23 ?pg1 ?hd1 ?po1 ?sa1 ?na1_0 ?na1_1 ?na1_2 ?na1_3 ?na1_4 ?na1_5 ?na1_6 ?na1_7 ?na1_8 ?na1_9 ?fn25 ?mk1 ?kC1 ?fn26 ?pg2 ?hd2 ?po2 ?sa2 ?na2_0 ?fn27 ?mk2 ?kC2 ?fn28 ?fn29 ?fn30 ?fn31 ?fn32 ?xx0 ?xk0 ?xb0 ?xt0 ?xx1 ?xk1 ?xb1 ?xt1 ?xx2 ?xk2 ?xb2 ?xt2 ?cr0 ?cg0 ?cf0 ?gl0 ?gl1 ?gl2 ?gl3 ?gl4 ?gl5 ?gl6 ?gl7 ?gl8 ?n_all ?n_any ?n_bool ?n_enumerate ?n_int ?n_isinstance ?n_len ?n_list ?n_ord ?n_range ?n_str ?n_tuple ?n_zip
    (case a0 => k_is)
    (case a1 => k_is)
    (case a2 => k_is)
    (case a3 => k_is)
    (case a4 => k_is)
    (case a5 => k_is)
    (case a6 => k_is)
    (case a7 => k_is)
    (case a8 => k_is)
    (case a9 => k_is)
    (case a10 => k_is)
    (case a11 => k_is)
    (case a12 => k_is)
    (case a24 => k_is)
    (case a33 => k_is)
    (case a34 => k_is)
    (case a35 => k_is)
    (case a36 => k_is)
    (case a37 => k_is)
    (case a38 => k_is)
    (case a39 => k_is)
    (case a40 => k_is)
    (case a41 => k_is)
    (case a42 => k_is)
    (case a43 => k_is)
    (case a44 => k_is)
    (case a45 => k_is)
    (case a46 => k_is)
    (case a47 => k_is)
    (case a48 => k_is)
    (case aC0 => k_is)
    (case aC1 => k_is)
    (case aC2 => k_is)
    (case xa0 => k_is)
    (case xa1 => k_is)
    (case xa2 => k_is)
    (case me0_13 => k_is)
    (case me0_14 => k_is)
    (case me0_15 => k_is)
    (case me0_16 => k_is)
    (case me0_17 => k_is)
    (case me0_18 => k_is)
    (case me0_19 => k_is)
    (case me0_20 => k_is)
    (case me0_21 => k_is)
    (case me0_22 => k_is)
    (case me0_23 => k_is)
    (case me1_25 => k_is)
    (case me1_26 => k_is)
    (case me1_14 => k_is)
    (case me1_15 => k_is)
    (case me1_16 => k_is)
    (case me1_17 => k_is)
    (case me1_19 => k_is)
    (case me1_20 => k_is)
    (case me1_21 => k_is)
    (case me1_22 => k_is)
    (case me1_23 => k_is)
    (case me2_27 => k_is)
    (case me2_28 => k_is)
    (case me2_29 => k_is)
    (case me2_30 => k_is)
    (case me2_31 => k_is)
    (case me2_32 => k_is)
    (case l0 => k_is)
    (case d0 => k_is)
    (case k0 => k_is)
    (case l1 => k_is)
    (case d1 => k_is)
    (case k1 => k_is)
    (case l2 => k_is)
    (case d2 => k_is)
    (case k2 => k_is)
    (case l3 => k_is)
    (case d3 => k_is)
    (case k3 => k_is)
    (case l4 => k_is)
    (case d4 => k_is)
    (case k4 => k_is)
    (case l5 => k_is)
    (case d5 => k_is)
    (case k5 => k_is)
    (case l6 => k_is)
    (case d6 => k_is)
    (case k6 => k_is)
    (case l7 => k_is)
    (case d7 => k_is)
    (case k7 => k_is)
    (case l8 => k_is)
    (case d8 => k_is)
    (case k8 => k_is)
    (case l9 => k_is)
    (case d9 => k_is)
    (case k9 => k_is)
    (case l10 => k_is)
    (case d10 => k_is)
    (case k10 => k_is)
    (case l11 => k_is)
    (case d11 => k_is)
    (case k11 => k_is)
    (case l12 => k_is)
    (case d12 => k_is)
    (case k12 => k_is)
    (case l13 => k_is)
    (case dl13 => k_is)
    (case dd13 => first | rfl | k_is)
    (case d13 => k_is)
    (case k13 => k_is)
    (case l14 => k_is)
    (case d14 => k_is)
    (case k14 => k_is)
    (case l15 => k_is)
    (case d15 => k_is)
    (case k15 => k_is)
    (case l16 => k_is)
    (case d16 => k_is)
    (case k16 => k_is)
    (case l17 => k_is)
    (case d17 => k_is)
    (case k17 => k_is)
    (case l18 => k_is)
    (case d18 => k_is)
    (case k18 => k_is)
    (case l19 => k_is)
    (case d19 => k_is)
    (case k19 => k_is)
    (case l20 => k_is)
    (case d20 => k_is)
    (case k20 => k_is)
    (case l21 => k_is)
    (case d21 => k_is)
    (case k21 => k_is)
    (case l22 => k_is)
    (case d22 => k_is)
    (case k22 => k_is)
    (case l23 => k_is)
    (case d23 => k_is)
    (case k23 => k_is)
    (case l24 => k_is)
    (case d24 => k_is)
    (case k24 => k_is)
    (case l25 => k_is)
    (case d25 => k_is)
    (case k25 => k_is)
    (case l26 => k_is)
    (case d26 => k_is)
    (case k26 => k_is)
    (case l27 => k_is)
    (case dl27 => k_is)
    (case dd27 => first | rfl | k_is)
    (case d27 => k_is)
    (case k27 => k_is)
    (case l28 => k_is)
    (case d28 => k_is)
    (case k28 => k_is)
    (case l29 => k_is)
    (case d29 => k_is)
    (case k29 => k_is)
    (case l30 => k_is)
    (case d30 => k_is)
    (case k30 => k_is)
    (case l31 => k_is)
    (case d31 => k_is)
    (case k31 => k_is)
    (case l32 => k_is)
    (case d32 => k_is)
    (case k32 => k_is)
    (case l33 => k_is)
    (case d33 => k_is)
    (case k33 => k_is)
    (case l34 => k_is)
    (case d34 => k_is)
    (case k34 => k_is)
    (case l35 => k_is)
    (case d35 => k_is)
    (case k35 => k_is)
    (case l36 => k_is)
    (case d36 => k_is)
    (case k36 => k_is)
    (case l37 => k_is)
    (case d37 => k_is)
    (case k37 => k_is)
    (case l38 => k_is)
    (case d38 => k_is)
    (case k38 => k_is)
    (case l39 => k_is)
    (case d39 => k_is)
    (case k39 => k_is)
    (case l40 => k_is)
    (case d40 => k_is)
    (case k40 => k_is)
    (case l41 => k_is)
    (case d41 => k_is)
    (case k41 => k_is)
    (case l42 => k_is)
    (case d42 => k_is)
    (case k42 => k_is)
    (case l43 => k_is)
    (case d43 => k_is)
    (case k43 => k_is)
    (case l44 => k_is)
    (case d44 => k_is)
    (case k44 => k_is)
    (case l45 => k_is)
    (case d45 => k_is)
    (case k45 => k_is)
    (case l46 => k_is)
    (case d46 => k_is)
    (case k46 => k_is)
    (case l47 => k_is)
    (case d47 => k_is)
    (case k47 => k_is)
    (case l48 => k_is)
    (case d48 => k_is)
    (case k48 => k_is)
    (case al0 => k_is)
    (case pg0 => k_is)
    (case hd0 => k_is)
    (case po0 => k_is)
    (case sa0 => k_is)
    (case na0_0 => k_is)
    (case na0_1 => k_is)
    (case na0_2 => k_is)
    (case na0_3 => k_is)
    (case na0_4 => k_is)
    (case na0_5 => k_is)
    (case na0_6 => k_is)
    (case na0_7 => k_is)
    (case na0_8 => k_is)
    (case na0_9 => k_is)
    (case fn13 => k_is)
    (case mk0 => k_is)
    (case kC0 => k_is)
    (case fn14 => k_is)
    (case fn15 => k_is)
    (case fn16 => k_is)
    (case fn17 => k_is)
    (case fn18 => k_is)
    (case fn19 => k_is)
    (case fn20 => k_is)
    (case fn21 => k_is)
    (case fn22 => k_is)
    (case fn23 => k_is)
    (case pg1 => k_is)
    (case hd1 => k_is)
    (case po1 => k_is)
    (case sa1 => k_is)
    (case na1_0 => k_is)
    (case na1_1 => k_is)
    (case na1_2 => k_is)
    (case na1_3 => k_is)
    (case na1_4 => k_is)
    (case na1_5 => k_is)
    (case na1_6 => k_is)
    (case na1_7 => k_is)
    (case na1_8 => k_is)
    (case na1_9 => k_is)
    (case fn25 => k_is)
    (case mk1 => k_is)
    (case kC1 => k_is)
    (case fn26 => k_is)
    (case pg2 => k_is)
    (case hd2 => k_is)
    (case po2 => k_is)
    (case sa2 => k_is)
    (case na2_0 => k_is)
    (case fn27 => k_is)
    (case mk2 => k_is)
    (case kC2 => k_is)
    (case fn28 => k_is)
    (case fn29 => k_is)
    (case fn30 => k_is)
    (case fn31 => k_is)
    (case fn32 => k_is)
    (case xx0 => k_exc)
    (case xk0 => k_is)
    (case xb0 => k_is)
    (case xt0 => k_is)
    (case xx1 => k_exc)
    (case xk1 => k_is)
    (case xb1 => k_is)
    (case xt1 => k_is)
    (case xx2 => k_exc)
    (case xk2 => k_is)
    (case xb2 => k_is)
    (case xt2 => k_is)
    (case cr0 => k_is)
    (case cg0 => k_is)
    (case cf0 => k_is)
    (case gl0 => k_is)
    (case gl1 => k_is)
    (case gl2 => k_is)
    (case gl3 => k_is)
    (case gl4 => k_is)
    (case gl5 => k_is)
    (case gl6 => k_is)
    (case gl7 => k_is)
    (case gl8 => k_is)
    (case n_all => k_is)
    (case n_any => k_is)
    (case n_bool => k_is)
    (case n_enumerate => k_is)
    (case n_int => k_is)
    (case n_isinstance => k_is)
    (case n_len => k_is)
    (case n_list => k_is)
    (case n_ord => k_is)
    (case n_range => k_is)
    (case n_str => k_is)
    (case n_tuple => k_is)
    (case n_zip => k_is)
