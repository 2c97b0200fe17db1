import PyProof.Rows.All
import Wide.All
import OpenK.AllK
import Wide.FinOn
import HandS.ForMost
import HandS.IsInst
import HandS.Wide
import HandS.Walk
import HandS.SetKeys
import HandS.Style
import HandS.Codes
import KE.KBits
import HandS.Deep
import HandS.Iter
import HandS.Zip
import HandS.Dict
import HandS.Defaults
import HandS.ForExc
import HandS.CallSlots
import HandS.TryMany
import HandS.ClsMeth
import HandS.Rev
import HandS.GenList
import HandS.NoneIn
import KE.DataFind
import HandS.SetFor
import KE.KeyNested
import KE.KDictCopyH
import KE.KDictList
import HandS.EndBits
import HandS.HotCalls
import HandS.ExcIs
import PySem.Challenge.RW_slotbook_k72_whole_a_kin_is_a_table
set_option Elab.async false
set_option linter.all false
set_option maxRecDepth 100000
set_option maxHeartbeats 4000000
namespace My
open PySem PySem.Spec PyProof.Rows L2
section
variable {X : Cx}
theorem op_mulX : OpR X (binaryOp .Mult) (rI IntMulOk fun i j => .int (i * j)) := opI fun _ _ _ _ _ _ _ hc q => mul_int q hc
theorem mulL {i j : Int} (h1 : -(2 ^ 64) < i) (h2 : i < 2 ^ 64) : IntMulOk i j := .of_left (intBits_le_64 h1 h2)
theorem mulR {i j : Int} (h1 : -(2 ^ 64) < j) (h2 : j < 2 ^ 64) : IntMulOk i j := .of_right (intBits_le_64 h1 h2)
end
section
variable {σ : L2.St} {H : Hp} {Q : VK} {QT : Bool → Hp → Prop} {D : Ends} {ta tb te : TE} {t u c : TT} {s1 s2 : TS} {K : PySem.W.Frag}
theorem rd_var {i : Nat} : tVar i σ H Q = (match σ[i]? with | some (some v) => Q v H | _ => False) := by
  unfold tVar
  apply propext
  constructor
  · rintro ⟨v, e, q⟩
    rw [e]; exact q
  · intro h
    split at h
    · rename_i v e
      exact ⟨v, e, h⟩
    · exact h.elim
theorem rd_c {v : V} : tC v σ H Q = Q v H := rfl
theorem rd_op {r : R2} : tOp r ta tb σ H Q = ta σ H fun x H1 => tb σ H1 fun y H2 => r x y H2 Q := rfl
theorem rd_un {r : V → Hp → VK → Prop} : tUn r ta σ H Q = ta σ H fun x H1 => r x H1 Q := rfl
theorem rd_rI {C : Int → Int → Prop} {g : Int → Int → V} {i j : Int} : rI C g (.int i) (.int j) H Q = (C i j ∧ Q (g i j) H) := by
  unfold rI
  apply propext
  constructor
  · rintro ⟨a, b, e1, e2, q⟩
    cases e1; cases e2; exact q
  · intro q
    exact ⟨i, j, rfl, rfl, q⟩
theorem rd_rI0 {g : Int → Int → V} {i j : Int} : rI0 g (.int i) (.int j) H Q = Q (g i j) H := by
  unfold rI0
  apply propext
  constructor
  · rintro ⟨a, b, e1, e2, q⟩
    cases e1; cases e2; exact q
  · intro q
    exact ⟨i, j, rfl, rfl, q⟩
theorem rd_rU {g : Int → V} {i : Int} : rU g (.int i) H Q = Q (g i) H := by
  unfold rU
  apply propext
  constructor
  · rintro ⟨a, e1, q⟩
    cases e1; exact q
  · intro q
    exact ⟨i, rfl, q⟩
theorem rd_eq {x y : V} : rEq x y H Q = (scal x y = true ∧ Q (.bl (decide (x = y))) H) := rfl
theorem rd_ne {x y : V} : rNe x y H Q = (scal x y = true ∧ Q (.bl (!decide (x = y))) H) := rfl
def isBl (x : V) (f : Bool → Prop) : Prop := match x with | .bl k => f k | _ => False
theorem rd_isBl {k : Bool} {f : Bool → Prop} : isBl (.bl k) f = f k := rfl
theorem isBl_eq {x : V} {f : Bool → Prop} : (∃ k, x = .bl k ∧ f k) = isBl x f := by
  apply propext
  constructor
  · rintro ⟨k, rfl, q⟩; exact q
  · intro q
    cases x with
    | bl k => exact ⟨k, rfl, q⟩
    | _ => exact q.elim
theorem rd_test : tTest ta σ H QT = ta σ H fun x H' => isBl x fun k => QT k H' := by
  unfold tTest
  simp only [isBl_eq]
theorem rd_B : tB ta σ H QT = ta σ H fun x H' => isBl x fun k => QT k H' := by
  unfold tB
  simp only [isBl_eq]
theorem rd_and : tAnd t u σ H QT = t σ H fun c H1 => if c = true then u σ H1 QT else QT false H1 := rfl
theorem rd_or : tOr t u σ H QT = t σ H fun c H1 => if c = true then QT true H1 else u σ H1 QT := rfl
theorem rd_not : tNot t σ H QT = t σ H fun c H1 => QT (!c) H1 := rfl
theorem rd_andV : tAndV ta tb σ H Q = ta σ H fun x H1 => isBl x fun c => if c = true then tb σ H1 Q else Q (.bl false) H1 := by
  unfold tAndV; simp only [isBl_eq]
theorem rd_orV : tOrV ta tb σ H Q = ta σ H fun x H1 => isBl x fun c => if c = true then Q (.bl true) H1 else tb σ H1 Q := by
  unfold tOrV; simp only [isBl_eq]
theorem rd_notV : tNotV ta σ H Q = ta σ H fun x H1 => isBl x fun c => Q (.bl (!c)) H1 := by
  unfold tNotV; simp only [isBl_eq]
theorem rd_ifE : tIf t ta tb σ H Q = t σ H fun c H1 => if c = true then ta σ H1 Q else tb σ H1 Q := rfl
theorem rd_chain {r r' : R2} {tc : TE} : tChain r r' ta tb tc σ H Q = ta σ H fun x H1 => tb σ H1 fun y H2 => r x y H2 fun z H3 => isBl z fun k => if k = true then tc σ H3 fun w' H4 => r' y w' H4 Q else Q (.bl false) H3 := by
  unfold tChain; simp only [isBl_eq]
theorem rd_ifS : tIfS c s1 s2 D σ H = c σ H fun b H1 => if b = true then s1 D σ H1 else s2 D σ H1 := rfl
theorem rd_ret : tRet te D σ H = te σ H D.rt := rfl
theorem rd_retN : tRetN D σ H = D.rt .non H := rfl
theorem rd_seq : tSeq s1 s2 D σ H = s1 { D with nx := s2 D } σ H := rfl
theorem rd_next : tNext D σ H = D.nx σ H := rfl
theorem rd_break : tBreak D σ H = D.bk σ H := rfl
theorem rd_cont : tCont D σ H = D.ct σ H := rfl
theorem rd_drop : tDrop te D σ H = te σ H fun _ H1 => D.nx σ H1 := rfl
theorem rd_asg {g : TG} : tAsg te g D σ H = te σ H fun x H1 => g x σ H1 D.nx := rfl
theorem rd_gName {i : Nat} {v : V} {R : L2.St → Hp → Prop} : gName i v σ H R = R (σ.set i (some v)) H := rfl
theorem rd_nil {R : List V → Hp → Prop} : tNil σ H R = R [] H := rfl
theorem rd_cons {tr : TA} {R : List V → Hp → Prop} : tCons te tr σ H R = te σ H fun x H1 => tr σ H1 fun xs H2 => R (x :: xs) H2 := rfl
theorem rd_call {sp : Sp} {dvs : List V} {E : XK} {tr : TA} : tCall sp dvs E tr σ H Q = tr σ H fun vs H1 => sp (vs ++ dvs) H1 Q E := rfl
theorem rd_CB {r : List V → Hp → VK → Prop} {tr : TA} : tCB r tr σ H Q = tr σ H fun vs H1 => r vs H1 Q := rfl
theorem V_int_inj {a b : Int} : (V.int a = V.int b) = (a = b) := by simp
theorem V_bl_inj {a b : Bool} : (V.bl a = V.bl b) = (a = b) := by simp
theorem V_str_inj {a b : Str} : (V.str a = V.str b) = (a = b) := by simp
theorem scal_ii {a b : Int} : scal (.int a) (.int b) = true := rfl
theorem scal_bb {a b : Bool} : scal (.bl a) (.bl b) = true := rfl
theorem scal_ss {a b : Str} : scal (.str a) (.str b) = true := rfl
end
end My
/-! what is read further -/
namespace My
open PySem PySem.Spec PyProof.Rows L2
section
variable {σ : L2.St} {H : Hp} {Q : VK} {QT : Bool → Hp → Prop} {D : Ends} {ta tb te : TE} {t u c : TT} {s1 s2 : TS} {K : PySem.W.Frag}
/-! types of values -/
def tyS (x : V) (H : Hp) : Option String := match x with
  | .non => some "NoneType"
  | .bl _ => some "bool"
  | .int _ => some "int"
  | .str _ => some "str"
  | .ref a => match H a with
    | some (.lst _) => some "list"
    | some (.tup _) => some "tuple"
    | some (.dK _) => some "dict"
    | some (.frz _ (.lst _)) => some "list"
    | _ => none
  | _ => none
theorem tyS_ok {x : V} {t : String} (h : tyS x H = some t) : TyX K H x (.type t) := by
  cases x with
  | non => cases h; exact .base .non
  | bl b => cases h; exact .base (.bl b)
  | int i => cases h; exact .base (.int i)
  | str i => cases h; exact .base (.str i)
  | ref a =>
    unfold tyS at h
    cases e : H a with
    | none => simp [e] at h
    | some o =>
      cases o with
      | lst xs => simp [e] at h; subst h; exact .base (.lst e)
      | tup xs => simp [e] at h; subst h; exact .base (.tup e)
      | dK xs => simp [e] at h; subst h; exact .base (.dK e)
      | frz o u =>
        cases u with
        | lst xs => simp [e] at h; subst h; exact .base (.frz e)
        | _ => simp [e] at h
      | _ => simp [e] at h
  | _ => cases h
/-- isinstance with a built-in type -/
def isiF (x : V) (n : String) (H : Hp) (f : Bool → Prop) : Prop := match tyS x H with
  | some t => (match kitB t n with | some b => f b | none => False)
  | none => False
def rIsiF : List V → Hp → VK → Prop := fun xs H Q => match xs with
  | [x, .ty n] => isiF x n H fun b => Q (.bl b) H
  | _ => False
theorem rd_isiF {x : V} {n : String} : rIsiF [x, .ty n] H Q = isiF x n H fun b => Q (.bl b) H := rfl
theorem call_isiF {X : Cx} : CallR X (.builtin "isinstance") rIsiF := by
  intro pins s σ H xs us Q I r h
  refine call_isi pins s σ H xs us Q I r ?_
  unfold rIsiF at h
  split at h
  · rename_i x n
    unfold isiF at h
    split at h
    · rename_i t e
      split at h
      · rename_i b e2
        exact ⟨x, .ty n, _, _, b, rfl, .ty n, tyS_ok e, kit_ty e2, h⟩
      · exact h.elim
    · exact h.elim
  · exact h.elim
theorem isi_non_int {f : Bool → Prop} : isiF .non "int" H f = f false := by
  have e : kitB "NoneType" "int" = some false := by decide +kernel
  simp only [isiF, tyS, e]
theorem isi_non_bool {f : Bool → Prop} : isiF .non "bool" H f = f false := by
  have e : kitB "NoneType" "bool" = some false := by decide +kernel
  simp only [isiF, tyS, e]
theorem isi_non_str {f : Bool → Prop} : isiF .non "str" H f = f false := by
  have e : kitB "NoneType" "str" = some false := by decide +kernel
  simp only [isiF, tyS, e]
theorem isi_non_tuple {f : Bool → Prop} : isiF .non "tuple" H f = f false := by
  have e : kitB "NoneType" "tuple" = some false := by decide +kernel
  simp only [isiF, tyS, e]
theorem isi_non_list {f : Bool → Prop} : isiF .non "list" H f = f false := by
  have e : kitB "NoneType" "list" = some false := by decide +kernel
  simp only [isiF, tyS, e]
theorem isi_non_dict {f : Bool → Prop} : isiF .non "dict" H f = f false := by
  have e : kitB "NoneType" "dict" = some false := by decide +kernel
  simp only [isiF, tyS, e]
theorem isi_bl_int {b : Bool} {f : Bool → Prop} : isiF (.bl b) "int" H f = f true := by
  have e : kitB "bool" "int" = some true := by decide +kernel
  simp only [isiF, tyS, e]
theorem isi_bl_bool {b : Bool} {f : Bool → Prop} : isiF (.bl b) "bool" H f = f true := by
  have e : kitB "bool" "bool" = some true := by decide +kernel
  simp only [isiF, tyS, e]
theorem isi_bl_str {b : Bool} {f : Bool → Prop} : isiF (.bl b) "str" H f = f false := by
  have e : kitB "bool" "str" = some false := by decide +kernel
  simp only [isiF, tyS, e]
theorem isi_bl_tuple {b : Bool} {f : Bool → Prop} : isiF (.bl b) "tuple" H f = f false := by
  have e : kitB "bool" "tuple" = some false := by decide +kernel
  simp only [isiF, tyS, e]
theorem isi_bl_list {b : Bool} {f : Bool → Prop} : isiF (.bl b) "list" H f = f false := by
  have e : kitB "bool" "list" = some false := by decide +kernel
  simp only [isiF, tyS, e]
theorem isi_bl_dict {b : Bool} {f : Bool → Prop} : isiF (.bl b) "dict" H f = f false := by
  have e : kitB "bool" "dict" = some false := by decide +kernel
  simp only [isiF, tyS, e]
theorem isi_int_int {i : Int} {f : Bool → Prop} : isiF (.int i) "int" H f = f true := by
  have e : kitB "int" "int" = some true := by decide +kernel
  simp only [isiF, tyS, e]
theorem isi_int_bool {i : Int} {f : Bool → Prop} : isiF (.int i) "bool" H f = f false := by
  have e : kitB "int" "bool" = some false := by decide +kernel
  simp only [isiF, tyS, e]
theorem isi_int_str {i : Int} {f : Bool → Prop} : isiF (.int i) "str" H f = f false := by
  have e : kitB "int" "str" = some false := by decide +kernel
  simp only [isiF, tyS, e]
theorem isi_int_tuple {i : Int} {f : Bool → Prop} : isiF (.int i) "tuple" H f = f false := by
  have e : kitB "int" "tuple" = some false := by decide +kernel
  simp only [isiF, tyS, e]
theorem isi_int_list {i : Int} {f : Bool → Prop} : isiF (.int i) "list" H f = f false := by
  have e : kitB "int" "list" = some false := by decide +kernel
  simp only [isiF, tyS, e]
theorem isi_int_dict {i : Int} {f : Bool → Prop} : isiF (.int i) "dict" H f = f false := by
  have e : kitB "int" "dict" = some false := by decide +kernel
  simp only [isiF, tyS, e]
theorem isi_str_int {z : Str} {f : Bool → Prop} : isiF (.str z) "int" H f = f false := by
  have e : kitB "str" "int" = some false := by decide +kernel
  simp only [isiF, tyS, e]
theorem isi_str_bool {z : Str} {f : Bool → Prop} : isiF (.str z) "bool" H f = f false := by
  have e : kitB "str" "bool" = some false := by decide +kernel
  simp only [isiF, tyS, e]
theorem isi_str_str {z : Str} {f : Bool → Prop} : isiF (.str z) "str" H f = f true := by
  have e : kitB "str" "str" = some true := by decide +kernel
  simp only [isiF, tyS, e]
theorem isi_str_tuple {z : Str} {f : Bool → Prop} : isiF (.str z) "tuple" H f = f false := by
  have e : kitB "str" "tuple" = some false := by decide +kernel
  simp only [isiF, tyS, e]
theorem isi_str_list {z : Str} {f : Bool → Prop} : isiF (.str z) "list" H f = f false := by
  have e : kitB "str" "list" = some false := by decide +kernel
  simp only [isiF, tyS, e]
theorem isi_str_dict {z : Str} {f : Bool → Prop} : isiF (.str z) "dict" H f = f false := by
  have e : kitB "str" "dict" = some false := by decide +kernel
  simp only [isiF, tyS, e]
theorem isi_lst_int {a : Addr} {xs : List V} (h : H a = some (.lst xs)) {f : Bool → Prop} : isiF (.ref a) "int" H f = f false := by
  have e : kitB "list" "int" = some false := by decide +kernel
  simp only [isiF, tyS, h, e]
theorem isi_lst_bool {a : Addr} {xs : List V} (h : H a = some (.lst xs)) {f : Bool → Prop} : isiF (.ref a) "bool" H f = f false := by
  have e : kitB "list" "bool" = some false := by decide +kernel
  simp only [isiF, tyS, h, e]
theorem isi_lst_str {a : Addr} {xs : List V} (h : H a = some (.lst xs)) {f : Bool → Prop} : isiF (.ref a) "str" H f = f false := by
  have e : kitB "list" "str" = some false := by decide +kernel
  simp only [isiF, tyS, h, e]
theorem isi_lst_tuple {a : Addr} {xs : List V} (h : H a = some (.lst xs)) {f : Bool → Prop} : isiF (.ref a) "tuple" H f = f false := by
  have e : kitB "list" "tuple" = some false := by decide +kernel
  simp only [isiF, tyS, h, e]
theorem isi_lst_list {a : Addr} {xs : List V} (h : H a = some (.lst xs)) {f : Bool → Prop} : isiF (.ref a) "list" H f = f true := by
  have e : kitB "list" "list" = some true := by decide +kernel
  simp only [isiF, tyS, h, e]
theorem isi_lst_dict {a : Addr} {xs : List V} (h : H a = some (.lst xs)) {f : Bool → Prop} : isiF (.ref a) "dict" H f = f false := by
  have e : kitB "list" "dict" = some false := by decide +kernel
  simp only [isiF, tyS, h, e]
theorem isi_tup_int {a : Addr} {xs : List V} (h : H a = some (.tup xs)) {f : Bool → Prop} : isiF (.ref a) "int" H f = f false := by
  have e : kitB "tuple" "int" = some false := by decide +kernel
  simp only [isiF, tyS, h, e]
theorem isi_tup_bool {a : Addr} {xs : List V} (h : H a = some (.tup xs)) {f : Bool → Prop} : isiF (.ref a) "bool" H f = f false := by
  have e : kitB "tuple" "bool" = some false := by decide +kernel
  simp only [isiF, tyS, h, e]
theorem isi_tup_str {a : Addr} {xs : List V} (h : H a = some (.tup xs)) {f : Bool → Prop} : isiF (.ref a) "str" H f = f false := by
  have e : kitB "tuple" "str" = some false := by decide +kernel
  simp only [isiF, tyS, h, e]
theorem isi_tup_tuple {a : Addr} {xs : List V} (h : H a = some (.tup xs)) {f : Bool → Prop} : isiF (.ref a) "tuple" H f = f true := by
  have e : kitB "tuple" "tuple" = some true := by decide +kernel
  simp only [isiF, tyS, h, e]
theorem isi_tup_list {a : Addr} {xs : List V} (h : H a = some (.tup xs)) {f : Bool → Prop} : isiF (.ref a) "list" H f = f false := by
  have e : kitB "tuple" "list" = some false := by decide +kernel
  simp only [isiF, tyS, h, e]
theorem isi_tup_dict {a : Addr} {xs : List V} (h : H a = some (.tup xs)) {f : Bool → Prop} : isiF (.ref a) "dict" H f = f false := by
  have e : kitB "tuple" "dict" = some false := by decide +kernel
  simp only [isiF, tyS, h, e]
theorem isi_dK_int {a : Addr} {kvs : List (Key × V)} (h : H a = some (.dK kvs)) {f : Bool → Prop} : isiF (.ref a) "int" H f = f false := by
  have e : kitB "dict" "int" = some false := by decide +kernel
  simp only [isiF, tyS, h, e]
theorem isi_dK_bool {a : Addr} {kvs : List (Key × V)} (h : H a = some (.dK kvs)) {f : Bool → Prop} : isiF (.ref a) "bool" H f = f false := by
  have e : kitB "dict" "bool" = some false := by decide +kernel
  simp only [isiF, tyS, h, e]
theorem isi_dK_str {a : Addr} {kvs : List (Key × V)} (h : H a = some (.dK kvs)) {f : Bool → Prop} : isiF (.ref a) "str" H f = f false := by
  have e : kitB "dict" "str" = some false := by decide +kernel
  simp only [isiF, tyS, h, e]
theorem isi_dK_tuple {a : Addr} {kvs : List (Key × V)} (h : H a = some (.dK kvs)) {f : Bool → Prop} : isiF (.ref a) "tuple" H f = f false := by
  have e : kitB "dict" "tuple" = some false := by decide +kernel
  simp only [isiF, tyS, h, e]
theorem isi_dK_list {a : Addr} {kvs : List (Key × V)} (h : H a = some (.dK kvs)) {f : Bool → Prop} : isiF (.ref a) "list" H f = f false := by
  have e : kitB "dict" "list" = some false := by decide +kernel
  simp only [isiF, tyS, h, e]
theorem isi_dK_dict {a : Addr} {kvs : List (Key × V)} (h : H a = some (.dK kvs)) {f : Bool → Prop} : isiF (.ref a) "dict" H f = f true := by
  have e : kitB "dict" "dict" = some true := by decide +kernel
  simp only [isiF, tyS, h, e]

/-! loops -/
def forGo (J : It) (g : TG) (tb : TS) (D : Ends) (σ : L2.St) (H : Hp) : Prop := ∃ W : Nat → Nat → L2.St → Hp → Prop, (∃ m, W 0 m σ H) ∧ ∀ i m σ H, W i m σ H →
  (J.stop i H ∧ D.nx σ H) ∨ (J.go i H ∧ ∃ N : L2.St → Hp → Prop, (∀ σ' H', N σ' H' → ∃ m', m' < m ∧ W (i + 1) m' σ' H') ∧ ∀ x H', J.yld i H x H' → g x σ H' fun σ2 H2 => tb { D with nx := N, ct := N, bk := D.nx } σ2 H2)
theorem rd_for {wi : TI} {g : TG} {tb : TS} : tFor wi g tb D σ H = wi σ H fun J H1 => forGo J g tb D σ H1 := rfl
def isR1 (vs : List V) (f : Int → Prop) : Prop := match vs with | [.int j] => f j | _ => False
theorem rd_isR1 {j : Int} {f : Int → Prop} : isR1 [.int j] f = f j := rfl
theorem rd_rng1 {tr : TA} {R : It → Hp → Prop} : iRng1 tr σ H R = tr σ H fun vs H1 => isR1 vs fun j => (-(2 ^ 62) ≤ j ∧ j < 2 ^ 62) ∧ R (Itr 0 j.toNat) H1 := by
  unfold iRng1
  apply congrArg
  funext vs H1
  apply propext
  constructor
  · rintro ⟨j, rfl, h1, h2, r⟩; exact ⟨⟨h1, h2⟩, r⟩
  · intro h
    unfold isR1 at h
    split at h
    · rename_i j
      exact ⟨j, rfl, h.1.1, h.1.2, h.2⟩
    · exact h.elim
def isR2 (vs : List V) (f : Int → Int → Prop) : Prop := match vs with | [.int i, .int j] => f i j | _ => False
theorem rd_isR2 {i j : Int} {f : Int → Int → Prop} : isR2 [.int i, .int j] f = f i j := rfl
theorem rd_rng2 {tr : TA} {R : It → Hp → Prop} : iRng2 tr σ H R = tr σ H fun vs H1 => isR2 vs fun i j => (-(2 ^ 62) ≤ i ∧ i < 2 ^ 62 ∧ -(2 ^ 62) ≤ j ∧ j < 2 ^ 62) ∧ R (Itr i (j - i).toNat) H1 := by
  unfold iRng2
  apply congrArg
  funext vs H1
  apply propext
  constructor
  · rintro ⟨i, j, rfl, h1, r⟩; exact ⟨h1, r⟩
  · intro h
    unfold isR2 at h
    split at h
    · rename_i i j
      exact ⟨i, j, rfl, h.1, h.2⟩
    · exact h.elim
def isRef (x : V) (f : Addr → Prop) : Prop := match x with | .ref a => f a | _ => False
theorem rd_isRef {a : Addr} {f : Addr → Prop} : isRef (.ref a) f = f a := rfl
theorem isRef_eq {x : V} {f : Addr → Prop} : (∃ a, x = .ref a ∧ f a) = isRef x f := by
  apply propext
  constructor
  · rintro ⟨a, rfl, h⟩; exact h
  · intro h
    cases x with
    | ref a => exact ⟨a, rfl, h⟩
    | _ => exact h.elim
theorem rd_iList {R : It → Hp → Prop} : iList K te σ H R = te σ H fun x H1 => isRef x fun a => (∃ xs, SqL K H1 a xs) ∧ R (Itl K a) H1 := by
  unfold iList
  simp only [isRef_eq]
theorem rd_iTup {R : It → Hp → Prop} : iTup K te σ H R = te σ H fun x H1 => isRef x fun a => (∃ xs, SqT K H1 a xs) ∧ R (Itt K a) H1 := by
  unfold iTup
  simp only [isRef_eq]
def isStr (x : V) (f : Str → Prop) : Prop := match x with | .str a => f a | _ => False
theorem rd_isStr {a : Str} {f : Str → Prop} : isStr (.str a) f = f a := rfl
theorem isStr_eq {x : V} {f : Str → Prop} : (∃ a, x = .str a ∧ f a) = isStr x f := by
  apply propext
  constructor
  · rintro ⟨a, rfl, h⟩; exact h
  · intro h
    cases x with
    | str a => exact ⟨a, rfl, h⟩
    | _ => exact h.elim
theorem rd_iStr {R : It → Hp → Prop} : iStr te σ H R = te σ H fun x H1 => isStr x fun z => R (Its z) H1 := by
  unfold iStr
  simp only [isStr_eq]
theorem go_it {J : It} {n : Nat} {G : Hp → Prop} {Y : Nat → Hp → V → Hp → Prop} (w : L2.Walk J n G Y) {g : TG} {tb : TS} (Pv : Nat → L2.St → Hp → Prop) (h0 : Pv 0 σ H) (hG : ∀ i σ H, i ≤ n → Pv i σ H → G H)
    (hs : ∀ (N : L2.St → Hp → Prop) i x σ H H', i < n → Pv i σ H → Y i H x H' → (∀ σ' H', Pv (i + 1) σ' H' → N σ' H') → g x σ H' fun σ2 H2 => tb { D with nx := N, ct := N, bk := D.nx } σ2 H2) (hd : ∀ σ H, Pv n σ H → D.nx σ H) : forGo J g tb D σ H :=
  L2.for_it w Pv h0 hG (fun i x σ H H' h1 h2 h3 => hs _ i x σ H H' h1 h2 h3 fun _ _ z => z) hd
theorem go_range {lo : Int} {n : Nat} {g : TG} {tb : TS} (Pv : Nat → L2.St → Hp → Prop) (h0 : Pv 0 σ H)
    (hs : ∀ (N : L2.St → Hp → Prop) (i : Nat) σ H, i < n → Pv i σ H → (∀ σ' H', Pv (i + 1) σ' H' → N σ' H') → g (.int (lo + i)) σ H fun σ2 H2 => tb { D with nx := N, ct := N, bk := D.nx } σ2 H2) (hd : ∀ σ H, Pv n σ H → D.nx σ H) : forGo (Itr lo n) g tb D σ H :=
  for_range Pv h0 (fun i σ H h1 h2 => hs _ i σ H h1 h2 fun _ _ z => z) hd
theorem go_list {a : Addr} {xs : List V} {g : TG} {tb : TS} (Pv : Nat → L2.St → Hp → Prop) (h0 : Pv 0 σ H) (hl : ∀ i σ H, i ≤ xs.length → Pv i σ H → SqL K H a xs)
    (hs : ∀ (N : L2.St → Hp → Prop) i x σ H, xs[i]? = some x → Pv i σ H → (∀ σ' H', Pv (i + 1) σ' H' → N σ' H') → g x σ H fun σ2 H2 => tb { D with nx := N, ct := N, bk := D.nx } σ2 H2) (hd : ∀ σ H, Pv xs.length σ H → D.nx σ H) : forGo (Itl K a) g tb D σ H :=
  for_list Pv h0 hl (fun i x σ H h1 h2 => hs _ i x σ H h1 h2 fun _ _ z => z) hd
theorem go_tup {a : Addr} {xs : List V} {g : TG} {tb : TS} (Pv : Nat → L2.St → Hp → Prop) (h0 : Pv 0 σ H) (hl : ∀ i σ H, i ≤ xs.length → Pv i σ H → SqT K H a xs)
    (hs : ∀ (N : L2.St → Hp → Prop) i x σ H, xs[i]? = some x → Pv i σ H → (∀ σ' H', Pv (i + 1) σ' H' → N σ' H') → g x σ H fun σ2 H2 => tb { D with nx := N, ct := N, bk := D.nx } σ2 H2) (hd : ∀ σ H, Pv xs.length σ H → D.nx σ H) : forGo (Itt K a) g tb D σ H :=
  for_tup Pv h0 hl (fun i x σ H h1 h2 => hs _ i x σ H h1 h2 fun _ _ z => z) hd
/-! sequences -/
/-- p is new at H -/
def Fresh (H : Hp) (p : Addr) : Prop := H p = none
theorem Fresh.ne {H : Hp} {p a : Addr} {o : HO} (f : Fresh H p) (h : H a = some o) : a ≠ p := ne_of_none h f
theorem rd_lst {tr : TA} : tLst tr σ H Q = tr σ H fun xs H1 => xs.length ≤ sizeLine ∧ ∀ p, Fresh H1 p → Q (.ref p) (upd H1 p (.lst xs)) := rfl
theorem rd_tup {tr : TA} : tTup tr σ H Q = tr σ H fun xs H1 => xs.length ≤ sizeLine ∧ ∀ p, Fresh H1 p → Q (.ref p) (upd H1 p (.tup xs)) := rfl
theorem rd_cat {l b : Addr} : rCat (.ref l) (.ref b) H Q = ∃ xs zs, H l = some (.lst xs) ∧ H b = some (.lst zs) ∧ xs.length + zs.length ≤ sizeLine ∧ ∀ p, Fresh H p → Q (.ref p) (upd H p (.lst (xs ++ zs))) := by
  unfold rCat
  apply propext
  constructor
  · rintro ⟨l', b', xs, zs, e1, e2, q⟩; cases e1; cases e2; exact ⟨xs, zs, q⟩
  · rintro ⟨xs, zs, q⟩; exact ⟨l, b, xs, zs, rfl, rfl, q⟩
theorem rd_ixL {p : Addr} {i : Int} : rIxL K (.ref p) (.int i) H Q = ∃ xs v, SqL K H p xs ∧ atI xs i = some v ∧ Q v H := by
  unfold rIxL
  apply propext
  constructor
  · rintro ⟨p', xs, i', v, e1, e2, q⟩; cases e1; cases e2; exact ⟨xs, v, q⟩
  · rintro ⟨xs, v, q⟩; exact ⟨p, xs, i, v, rfl, rfl, q⟩
theorem rd_sl {r : V → Option Int → Option Int → Hp → VK → Prop} {tl th : TO} : tSl r te tl th σ H Q = te σ H fun x H1 => tl σ H1 fun l H2 => th σ H2 fun u H3 => r x l u H3 Q := rfl
theorem rd_noPart {R : Option Int → Hp → Prop} : tNoPart σ H R = R none H := rfl
def isInt (x : V) (f : Int → Prop) : Prop := match x with | .int a => f a | _ => False
theorem rd_isInt {a : Int} {f : Int → Prop} : isInt (.int a) f = f a := rfl
theorem isInt_eq {x : V} {f : Int → Prop} : (∃ a, x = .int a ∧ f a) = isInt x f := by
  apply propext
  constructor
  · rintro ⟨a, rfl, h⟩; exact h
  · intro h
    cases x with
    | int a => exact ⟨a, rfl, h⟩
    | _ => exact h.elim
theorem rd_part {R : Option Int → Hp → Prop} : tPart te σ H R = te σ H fun x H1 => isInt x fun i => R (some i) H1 := by
  unfold tPart
  simp only [isInt_eq]
theorem rd_slL {a : Addr} {lo hi : Option Int} : rSlL K (.ref a) lo hi H Q = ∃ xs, SqL K H a xs ∧ ∀ p, Fresh H p → Q (.ref p) (upd H p (.lst (cutV xs lo hi))) := by
  unfold rSlL
  apply propext
  constructor
  · rintro ⟨a', xs, e1, q⟩; cases e1; exact ⟨xs, q⟩
  · rintro ⟨xs, q⟩; exact ⟨a, xs, rfl, q⟩
def rLen (K : PySem.W.Frag) : List V → Hp → VK → Prop := fun xs H Q => ∃ p ys, xs = [.ref p] ∧ (SqL K H p ys ∨ SqT K H p ys) ∧ Q (.int ys.length) H
theorem call_lenq {X : Cx} : CallR X (.builtin "len") (rLen X.K) := call_len_seq
theorem rd_len {p : Addr} : rLen K [.ref p] H Q = ∃ ys, (SqL K H p ys ∨ SqT K H p ys) ∧ Q (.int ys.length) H := by
  unfold rLen
  apply propext
  constructor
  · rintro ⟨p', ys, e, q⟩; cases e; exact ⟨ys, q⟩
  · rintro ⟨ys, q⟩; exact ⟨p, ys, rfl, q⟩
/-! promises -/
def spI1 (Pre : Int → Prop) (f : Int → V) : Sp := fun vs H Q _ => ∃ a, vs = [.int a] ∧ Pre a ∧ Q (f a) H
def spI2 (Pre : Int → Int → Prop) (f : Int → Int → V) : Sp := fun vs H Q _ => ∃ a b, vs = [.int a, .int b] ∧ Pre a b ∧ Q (f a b) H
def spI3 (Pre : Int → Int → Int → Prop) (f : Int → Int → Int → V) : Sp := fun vs H Q _ => ∃ a b c, vs = [.int a, .int b, .int c] ∧ Pre a b c ∧ Q (f a b c) H
def spI4 (Pre : Int → Int → Int → Int → Prop) (f : Int → Int → Int → Int → V) : Sp := fun vs H Q _ => ∃ a b c d, vs = [.int a, .int b, .int c, .int d] ∧ Pre a b c d ∧ Q (f a b c d) H
variable {E : XK}
theorem rd_spI1 {Pre : Int → Prop} {f : Int → V} {a : Int} : spI1 Pre f [.int a] H Q E = (Pre a ∧ Q (f a) H) := by
  unfold spI1
  apply propext
  constructor
  · rintro ⟨a', e, q⟩; cases e; exact q
  · intro q; exact ⟨a, rfl, q⟩
theorem rd_spI2 {Pre : Int → Int → Prop} {f : Int → Int → V} {a b : Int} : spI2 Pre f [.int a, .int b] H Q E = (Pre a b ∧ Q (f a b) H) := by
  unfold spI2
  apply propext
  constructor
  · rintro ⟨a', b', e, q⟩; cases e; exact q
  · intro q; exact ⟨a, b, rfl, q⟩
theorem rd_spI3 {Pre : Int → Int → Int → Prop} {f : Int → Int → Int → V} {a b c : Int} : spI3 Pre f [.int a, .int b, .int c] H Q E = (Pre a b c ∧ Q (f a b c) H) := by
  unfold spI3
  apply propext
  constructor
  · rintro ⟨a', b', c', e, q⟩; cases e; exact q
  · intro q; exact ⟨a, b, c, rfl, q⟩
theorem rd_spI4 {Pre : Int → Int → Int → Int → Prop} {f : Int → Int → Int → Int → V} {a b c d : Int} : spI4 Pre f [.int a, .int b, .int c, .int d] H Q E = (Pre a b c d ∧ Q (f a b c d) H) := by
  unfold spI4
  apply propext
  constructor
  · rintro ⟨a', b', c', d', e, q⟩; cases e; exact q
  · intro q; exact ⟨a, b, c, d, rfl, q⟩
/-- a scalar: whether it is an int and no truth -/
def wholeV : V → Bool
  | .int _ => true
  | _ => false
def scalV : V → Bool
  | .int _ => true
  | .bl _ => true
  | .non => true
  | .str _ => true
  | _ => false
/-- a value whose kind is known -/
def thing (H : Hp) : V → Prop
  | .int _ => True
  | .bl _ => True
  | .non => True
  | .str _ => True
  | .ref a => (∃ xs, H a = some (.tup xs)) ∨ (∃ xs, H a = some (.lst xs)) ∨ ∃ xs, H a = some (.dK xs)
  | _ => False
def spWhole : Sp := fun vs H Q _ => ∃ x, vs = [x] ∧ thing H x ∧ Q (.bl (wholeV x)) H
theorem rd_whole {i : Int} : spWhole [.int i] H Q E = Q (.bl true) H := by
  unfold spWhole
  apply propext
  constructor
  · rintro ⟨x, e, _, q⟩; cases e; exact q
  · intro q; exact ⟨_, rfl, trivial, q⟩
/-- the law's own: a list of at most 63 ints, True -/
def spLaw (K : PySem.W.Frag) : Sp := fun vs H Q _ => ∃ (a : Addr) (ns : List Int), vs = [.ref a] ∧ SqL K H a (ns.map V.int) ∧ ns.length ≤ 63 ∧ ∀ H', Q (.bl true) H'
end
theorem len_spI1 {Pre : Int → Prop} {f : Int → V} {vs H Q E} (h : spI1 Pre f vs H Q E) : vs.length = 1 := by obtain ⟨_, rfl, _⟩ := h; rfl
theorem len_spI2 {Pre : Int → Int → Prop} {f : Int → Int → V} {vs H Q E} (h : spI2 Pre f vs H Q E) : vs.length = 2 := by obtain ⟨_, _, rfl, _⟩ := h; rfl
theorem len_spI3 {Pre : Int → Int → Int → Prop} {f : Int → Int → Int → V} {vs H Q E} (h : spI3 Pre f vs H Q E) : vs.length = 3 := by obtain ⟨_, _, _, rfl, _⟩ := h; rfl
theorem len_spI4 {Pre : Int → Int → Int → Int → Prop} {f : Int → Int → Int → Int → V} {vs H Q E} (h : spI4 Pre f vs H Q E) : vs.length = 4 := by obtain ⟨_, _, _, _, rfl, _⟩ := h; rfl
theorem len_whole {vs H Q E} (h : spWhole vs H Q E) : vs.length = 1 := by obtain ⟨_, rfl, _⟩ := h; rfl
theorem len_law {K : PySem.W.Frag} {vs H Q E} (h : spLaw K vs H Q E) : vs.length = 1 := by obtain ⟨_, _, rfl, _⟩ := h; rfl
theorem st_nil : L2.start [] [] = [] := rfl
theorem st_arg {x : Str} {N : List Str} {v : V} {vs : List V} : L2.start (x :: N) (v :: vs) = some v :: L2.start N vs := by
  unfold L2.start
  simp
theorem st_none {x : Str} {N : List Str} : L2.start (x :: N) [] = none :: L2.start N [] := by
  unfold L2.start
  simp [List.replicate_succ]
theorem cxK {CX : CXT} {P : Program} {w : World} {K : PySem.W.Frag} {mg : Str → Option Value} {base : Heap} {N : List Str} {qual : Str} {scope : Scope} {f : Addr} {cd : Value} {A : Around} {outer : List Env} {s : Shared} {H : Hp} {E : XK} :
    (cxOf CX P w K mg base N qual scope f cd A outer s H E).K = K := rfl
/-- a new object leaves what stood before -/
theorem Same_upd {H0 H : Hp} {p : Addr} {o : HO} (s : Same H0 H) (f : Fresh H p) : Same H0 (upd H p o) := fun b u e => by
  have e' := s b u e
  rw [upd_ne (f.ne e')]
  exact e'
theorem Same_fresh {H0 H : Hp} {p : Addr} (s : Same H0 H) (f : Fresh H p) : Fresh H0 p := s.free f
theorem Same_upd0 {H0 H : Hp} {p : Addr} {o : HO} (s : Same H0 H) (f : Fresh H0 p) : Same H0 (upd H p o) := fun b u e => by
  rw [upd_ne (f.ne e)]
  exact s b u e
/-- the items of a list of ints -/
theorem ints_at {ns : List Int} {i : Nat} {y : V} (h : (ns.map V.int)[i]? = some y) : ∃ n, ns[i]? = some n ∧ y = .int n := by
  rw [List.getElem?_map] at h
  cases e : ns[i]? with
  | none => rw [e] at h; cases h
  | some n => rw [e] at h; exact ⟨n, rfl, (Option.some.inj h).symm⟩
theorem cut_len (xs : List V) (lo hi : Option Int) : (cutV xs lo hi).length ≤ xs.length := cutV_length xs lo hi
theorem cut_map (ns : List Int) (lo hi : Option Int) : ∃ ms : List Int, cutV (ns.map V.int) lo hi = ms.map V.int ∧ ms.length ≤ ns.length := by
  unfold cutV
  rw [← List.map_drop, ← List.map_take]
  exact ⟨_, rfl, by rw [List.length_take, List.length_drop]; omega⟩
/-- the item of a list of ints at a place in bounds -/
def getI (xs : List Int) (i : Int) : Int := xs.getD i.toNat 0
theorem at_int {xs : List Int} {i : Int} (h0 : 0 ≤ i) (h1 : i < xs.length) : atI (xs.map V.int) i = some (.int (getI xs i)) := by
  obtain ⟨j, rfl⟩ : ∃ j : Nat, i = (j : Int) := ⟨i.toNat, by omega⟩
  have hj : j < xs.length := by omega
  refine atI_nat ?_
  rw [List.getElem?_map, List.getElem?_eq_getElem hj]
  show some (V.int xs[j]) = some (V.int (xs.getD j 0))
  rw [List.getD_eq_getElem?_getD, List.getElem?_eq_getElem hj]
  rfl
theorem iteN {c A B : Prop} [Decidable c] (h : ¬ c) (q : B) : if c then A else B := by rw [if_neg h]; exact q
theorem iteP {c A B : Prop} [Decidable c] (h : c) (q : A) : if c then A else B := by rw [if_pos h]; exact q
theorem tyL {K : PySem.W.Frag} {H : Hp} {l : Addr} {xs : List V} (h : H l = some (.lst xs)) : tyV K "list" (.ref l) H := Or.inl ⟨rfl, _, SqL.of h⟩
theorem rd_BM {K : PySem.W.Frag} {T : String} {r : V → List V → Hp → VK → Prop} {to : TE} {t : TA} {σ : L2.St} {H : Hp} {Q : VK} : tBM K T r to t σ H Q = to σ H fun x H1 => tyV K T x H1 ∧ t σ H1 fun xs H2 => r x xs H2 Q := rfl
theorem rd_BM0 {K : PySem.W.Frag} {T : String} {r : V → List V → Hp → VK → Prop} {to : TE} {σ : L2.St} {H : Hp} {Q : VK} : tBM0 K T r to σ H Q = to σ H fun x H1 => tyV K T x H1 ∧ r x [] H1 Q := rfl
theorem rd_append {l : Addr} {y : V} {H : Hp} {Q : VK} : rAppend (.ref l) [y] H Q = ∃ xs, H l = some (.lst xs) ∧ xs.length < sizeLine ∧ Q .non (upd H l (.lst (xs ++ [y]))) := by
  unfold rAppend
  apply propext
  constructor
  · rintro ⟨l', xs, y', e1, e2, q⟩; cases e1; cases e2; exact ⟨xs, q⟩
  · rintro ⟨xs, q⟩; exact ⟨l, xs, y, rfl, rfl, q⟩
theorem rd_rep {l : Addr} {k : Int} {H : Hp} {Q : VK} : rRep (.ref l) (.int k) H Q = ∃ xs, H l = some (.lst xs) ∧ -(2 ^ 63) ≤ k ∧ k < 2 ^ 63 ∧ xs.length * k.toNat ≤ sizeLine ∧ ∀ p, Fresh H p → Q (.ref p) (upd H p (.lst (List.replicate k.toNat xs).flatten)) := by
  unfold rRep
  apply propext
  constructor
  · rintro ⟨l', k', xs, e1, e2, q⟩; cases e1; cases e2; exact ⟨xs, q⟩
  · rintro ⟨xs, q⟩; exact ⟨l, k, xs, rfl, rfl, q⟩
theorem rd_gSub {to ti : TE} {t : TSet} {v : V} {σ : L2.St} {H : Hp} {R : L2.St → Hp → Prop} : gSub to ti t v σ H R = to σ H fun o H1 => ti σ H1 fun i H2 => t o i v H2 fun H3 => R σ H3 := rfl
theorem rd_setL {p : Addr} {k : Int} {v : V} {H : Hp} {R : Hp → Prop} : rSetL (.ref p) (.int k) v H R = ∃ xs j, H p = some (.lst xs) ∧ ixN xs.length k = some j ∧ R (upd H p (.lst (xs.set j v))) := by
  unfold rSetL
  apply propext
  constructor
  · rintro ⟨p', xs, k', j, e1, e2, q⟩; cases e1; cases e2; exact ⟨xs, j, q⟩
  · rintro ⟨xs, j, q⟩; exact ⟨p, xs, k, j, rfl, rfl, q⟩
theorem ixN_nat {n : Nat} {k : Int} (h0 : 0 ≤ k) (h1 : k < n) : ixN n k = some k.toNat := by
  unfold ixN
  rw [if_pos h0, if_pos (by omega)]
/-! lists of ints compared -/
theorem DpAll_ints {K : PySem.W.Frag} {H : Hp} : ∀ xs : List Int, DpAll K H (xs.map V.int) (xs.map PyData.int)
  | [] => .nil
  | x :: xs => .cons (.int x) (DpAll_ints xs)
theorem eqvAll_ints : ∀ xs ys : List Int, PyData.eqvAll (xs.map PyData.int) (ys.map PyData.int) = decide (xs = ys)
  | [], [] => by simp [PyData.eqvAll]
  | [], _ :: _ => by simp [PyData.eqvAll]
  | _ :: _, [] => by simp [PyData.eqvAll]
  | x :: xs, y :: ys => by
    show (PyData.eqv (.int x) (.int y) && PyData.eqvAll (xs.map PyData.int) (ys.map PyData.int)) = _
    rw [eqvAll_ints xs ys, PyData.eqv]
    by_cases h : x = y
    · subst h
      by_cases h2 : xs = ys
      · simp [h2]
      · simp [h2]
    · simp [h]
theorem canLay_ints : ∀ xs : List Int, PyData.canLayAll0 (xs.map PyData.int) = true
  | [] => by simp [PyData.canLayAll0]
  | x :: xs => by
    show (PyData.canLay0 (.int x) && PyData.canLayAll0 (xs.map PyData.int)) = true
    rw [canLay_ints xs, PyData.canLay0]
    rfl
theorem depth_ints : ∀ xs : List Int, PyData.depthAll (xs.map PyData.int) = 0
  | [] => by simp [PyData.depthAll]
  | x :: xs => by
    show max (PyData.depth (.int x)) (PyData.depthAll (xs.map PyData.int)) = 0
    rw [depth_ints xs, PyData.depth]
    rfl
theorem shaped_ints (xs : List Int) : SeqAt.shaped (.list (xs.map PyData.int)) = true := by
  unfold SeqAt.shaped
  rw [PyData.canLay0, canLay_ints, PyData.depth, depth_ints]
  decide
theorem eq_ints {K : PySem.W.Frag} {H : Hp} {a b : Addr} {xs ys : List Int} {Q : VK} (ha : SqL K H a (xs.map V.int)) (hb : SqL K H b (ys.map V.int)) (q : Q (.bl (decide (xs = ys))) H) : rEqD K (.ref a) (.ref b) H Q :=
  ⟨.list (xs.map PyData.int), .list (ys.map PyData.int), .lst ha (DpAll_ints xs), .lst hb (DpAll_ints ys), shaped_ints xs, shaped_ints ys, by rw [PyData.eqv, eqvAll_ints]; exact q⟩
/-- a cell of the script -/
def spCell (K : PySem.W.Frag) : Sp := fun vs H Q _ => ∃ (a : Addr) (ns : List Int) (i : Int), vs = [.ref a, .int i] ∧ SqL K H a (ns.map V.int) ∧ 0 ≤ i ∧ Q (.int (getI ns i)) H
theorem rd_spCell {K : PySem.W.Frag} {a : Addr} {i : Int} {H : Hp} {Q : VK} {E : XK} : spCell K [.ref a, .int i] H Q E = ∃ ns : List Int, SqL K H a (ns.map V.int) ∧ 0 ≤ i ∧ Q (.int (getI ns i)) H := by
  unfold spCell
  apply propext
  constructor
  · rintro ⟨a', ns, i', e, q⟩; cases e; exact ⟨ns, q⟩
  · rintro ⟨ns, q⟩; exact ⟨a, ns, i, rfl, q⟩
theorem len_cell {K : PySem.W.Frag} {vs H Q E} (h : spCell K vs H Q E) : vs.length = 2 := by obtain ⟨_, _, _, rfl, _⟩ := h; rfl
/-- a new list of ints by two ints -/
def spNew2 (Pre : Int → Int → Prop) (f : Int → Int → List Int) : Sp := fun vs H Q _ => ∃ m s, vs = [.int m, .int s] ∧ Pre m s ∧ ∀ p H', Same H H' → Fresh H p → H' p = some (.lst ((f m s).map V.int)) → Q (.ref p) H'
theorem rd_spNew2 {Pre : Int → Int → Prop} {f : Int → Int → List Int} {m s : Int} {H : Hp} {Q : VK} {E : XK} : spNew2 Pre f [.int m, .int s] H Q E = (Pre m s ∧ ∀ p H', Same H H' → Fresh H p → H' p = some (.lst ((f m s).map V.int)) → Q (.ref p) H') := by
  unfold spNew2
  apply propext
  constructor
  · rintro ⟨m', s', e, q⟩; cases e; exact q
  · intro q; exact ⟨m, s, rfl, q⟩
theorem len_new2 {Pre : Int → Int → Prop} {f : Int → Int → List Int} {vs H Q E} (h : spNew2 Pre f vs H Q E) : vs.length = 2 := by obtain ⟨_, _, rfl, _⟩ := h; rfl
theorem both {A B : Prop} (a : A) (b : B) : A ∧ B := ⟨a, b⟩
theorem iteB {c A B : Prop} [Decidable c] (h1 : c → A) (h2 : ¬ c → B) : if c then A else B := ite2 h1 h2
/-- // by a divisor of at most 4000 bits -/
theorem divB {i j : Int} (h : 0 < j) (hb : j < 2 ^ 200) : CDivW i j := wide_div (b := 201) h (by
  have e : (2 : Int) ^ 200 = ((2 ^ 200 : Nat) : Int) := by decide +kernel
  have e2 : (2 : Nat) ^ 200 ≤ 2 ^ 201 := by decide +kernel
  omega) (by decide) (by decide)
/-- any int -/
def spAny1 (Post : Int → V → Prop) : Sp := fun vs H Q _ => ∃ a, vs = [.int a] ∧ ∀ v, Post a v → Q v H
theorem rd_spAny1 {Post : Int → V → Prop} {a : Int} {H : Hp} {Q : VK} {E : XK} : spAny1 Post [.int a] H Q E = ∀ v, Post a v → Q v H := by
  unfold spAny1
  apply propext
  constructor
  · rintro ⟨a', e, q⟩; cases e; exact q
  · intro q; exact ⟨a, rfl, q⟩
theorem len_any1 {Post : Int → V → Prop} {vs H Q E} (h : spAny1 Post vs H Q E) : vs.length = 1 := by obtain ⟨_, rfl, _⟩ := h; rfl
theorem go_while {c : TT} {tb : TS} {D : Ends} {σ : L2.St} {H : Hp} (Pv : L2.St → Hp → Prop) (μ : L2.St → Hp → Nat) (h0 : Pv σ H)
    (hs : ∀ (B : Hp → Prop) σ H, Pv σ H → (∀ H1, (∀ N : L2.St → Hp → Prop, (∀ σ' H', Pv σ' H' → μ σ' H' < μ σ H → N σ' H') → tb { D with nx := N, ct := N, bk := D.nx } σ H1) → B H1) →
      c σ H fun b H1 => if b = true then B H1 else D.nx σ H1) : tWhile c tb D σ H := by
  refine ⟨fun m σ H => m = μ σ H ∧ Pv σ H, ⟨_, rfl, h0⟩, ?_⟩
  rintro m σ H ⟨rfl, p⟩
  refine hs (fun H1 => ∃ N : L2.St → Hp → Prop, (∀ σ' H', N σ' H' → ∃ m', m' < μ σ H ∧ m' = μ σ' H' ∧ Pv σ' H') ∧ tb { D with nx := N, ct := N, bk := D.nx } σ H1) σ H p fun H1 h => ?_
  exact ⟨fun σ' H' => Pv σ' H' ∧ μ σ' H' < μ σ H, fun σ' H' ⟨p', l⟩ => ⟨_, l, rfl, p'⟩, h _ fun σ' H' p' l => ⟨p', l⟩⟩
theorem rd_dnewK {σ : L2.St} {H : Hp} {Q : VK} : tDNewK σ H Q = ∀ p, Fresh H p → Q (.ref p) (upd H p (.dK [])) := rfl
theorem rd_dsetd {td ty tx : TE} {σ : L2.St} {H : Hp} {Q : VK} : tDSetd td ty tx σ H Q = td σ H fun x H1 => isRef x fun a => IsD H1 a ∧ ty σ H1 fun y H2 => tx σ H2 fun z H3 => ∃ (kvs : List (Key × V)) (k : Key), H3 a = some (.dK kvs) ∧ y = kV k ∧ kvs.length < sizeLine ∧
  (∀ v, valV kvs k = some v → Q v H3) ∧ (valV kvs k = none → Q z (upd H3 a (.dK (putK kvs k z)))) := by
  unfold tDSetd
  simp only [isRef_eq]
theorem exSq {K : PySem.W.Frag} {H : Hp} {a : Addr} {ms : List Int} {R : List Int → Prop} (h : SqL K H a (ms.map V.int)) (q : R ms) : ∃ ns : List Int, SqL K H a (ns.map V.int) ∧ R ns := ⟨ms, h, q⟩
theorem exSqV {K : PySem.W.Frag} {H : Hp} {a : Addr} {ms : List V} {R : List V → Prop} (h : SqL K H a ms) (q : R ms) : ∃ ns : List V, SqL K H a ns ∧ R ns := ⟨ms, h, q⟩
def rMax2 : List V → Hp → VK → Prop := fun xs H Q => ∃ i j, xs = [.int i, .int j] ∧ Q (.int (if j > i then j else i)) H
def rMin2 : List V → Hp → VK → Prop := fun xs H Q => ∃ i j, xs = [.int i, .int j] ∧ Q (.int (if j < i then j else i)) H
theorem call_max2q {X : Cx} (hc : X.calm = true) : CallR X (.builtin "max") rMax2 := call_max2 hc
theorem call_min2q {X : Cx} (hc : X.calm = true) : CallR X (.builtin "min") rMin2 := call_min2 hc
theorem rd_max2 {i j : Int} {H : Hp} {Q : VK} : rMax2 [.int i, .int j] H Q = Q (.int (if j > i then j else i)) H := by
  unfold rMax2
  apply propext
  constructor
  · rintro ⟨i', j', e, q⟩; cases e; exact q
  · intro q; exact ⟨i, j, rfl, q⟩
theorem rd_min2 {i j : Int} {H : Hp} {Q : VK} : rMin2 [.int i, .int j] H Q = Q (.int (if j < i then j else i)) H := by
  unfold rMin2
  apply propext
  constructor
  · rintro ⟨i', j', e, q⟩; cases e; exact q
  · intro q; exact ⟨i, j, rfl, q⟩
/-- len of a text, a list, a tuple -/
def rLenU (K : PySem.W.Frag) : List V → Hp → VK → Prop := fun xs H Q => (∃ z : Str, xs = [.str z] ∧ z.length ≤ sizeLine ∧ Q (.int z.length) H) ∨ rLen K xs H Q
theorem call_lenU {X : Cx} : CallR X (.builtin "len") (rLenU X.K) := by
  intro pins s σ H xs us Q I r h
  rcases h with h | h
  · exact call_len_str pins s σ H xs us Q I r h
  · exact call_len_seq pins s σ H xs us Q I r h
theorem rd_lenU_str {K : PySem.W.Frag} {z : Str} {H : Hp} {Q : VK} : rLenU K [.str z] H Q = (z.length ≤ sizeLine ∧ Q (.int z.length) H) := by
  unfold rLenU
  apply propext
  constructor
  · rintro (⟨z', e, q⟩ | ⟨p, ys, e, _⟩)
    · cases e; exact q
    · cases e
  · intro q; exact .inl ⟨z, rfl, q⟩
theorem rd_lenU_ref {K : PySem.W.Frag} {p : Addr} {H : Hp} {Q : VK} : rLenU K [.ref p] H Q = ∃ ys, (SqL K H p ys ∨ SqT K H p ys) ∧ Q (.int ys.length) H := by
  unfold rLenU
  rw [rd_len]
  apply propext
  constructor
  · rintro (⟨z', e, q⟩ | q)
    · cases e
    · exact q
  · intro q; exact .inr q
/-! further readings -/
def lcGo (J : It) (g : TG) (tt : TT) (te : TE) (vs : List Nat) (σ : L2.St) (H1 : Hp) (D : Addr) (Qd : Hp → Prop) : Prop := ∃ W : Nat → Nat → Hp → Prop, (∃ m, W 0 m (upd H1 D (.lst []))) ∧ ∀ i m H, W i m H →
  (J.stop i H ∧ Qd H) ∨ (J.go i H ∧ ∃ Nx : Hp → Prop, (∀ H', Nx H' → ∃ m', m' < m ∧ W (i + 1) m' H') ∧ ∀ x H', J.yld i H x H' → g x (wipe σ vs) H' fun σ2 H2 => wipe σ2 vs = wipe σ vs ∧ tt σ2 H2 fun b H3 =>
    if b = true then te σ2 H3 fun y H4 => ∃ acc, H4 D = some (.lst acc) ∧ acc.length < sizeLine ∧ Nx (upd H4 D (.lst (acc ++ [y]))) else Nx H3)
theorem rd_lcg {wi : TI} {g : TG} {tt : TT} {te : TE} {vs : List Nat} {σ : L2.St} {H : Hp} {Q : VK} : tLc wi g tt te vs σ H Q = wi σ H fun J H1 => ∀ D, Fresh H1 D → lcGo J g tt te vs σ H1 D (fun H2 => Q (.ref D) H2) := rfl
/-- a comprehension without tests whose items are told ahead; what was tracked stays -/
theorem go_lcm {J : It} {n : Nat} {G : Hp → Prop} {Y : Nat → Hp → V → Hp → Prop} (w : L2.Walk J n G Y) {g : TG} {te : TE} {vs : List Nat} {σ : L2.St} {H1 : Hp} {D : Addr} {Qd : Hp → Prop} (ys : List V) (hn : ys.length = n) (hz : n ≤ sizeLine) (hD : Fresh H1 D)
    (hG : ∀ H, Same H1 H → G H)
    (hs : ∀ (N : VK) i x H H', i < n → Same H1 H → Y i H x H' → (∀ y H4, ys[i]? = some y → Same H H4 → N y H4) → g x (wipe σ vs) H' fun σ2 H2 => wipe σ2 vs = wipe σ vs ∧ te σ2 H2 N)
    (hd : ∀ H, Same H1 H → H D = some (.lst ys) → Qd H) (mono : ∀ (A B : L2.St → Hp → Prop) x σ H, (∀ σ H, A σ H → B σ H) → g x σ H A → g x σ H B) : lcGo J g tYes te vs σ H1 D Qd := by
  refine lc_it w (fun i H => Same H1 H ∧ H D = some (.lst (ys.take i)) ∧ i ≤ n) ⟨Same_upd (Same.refl _) hD, by rw [upd_same, List.take_zero], Nat.zero_le _⟩ (fun i H _ h => hG H h.1) ?_ ?_
  · rintro i x H H' hi ⟨sm, hL, hin⟩ hY
    obtain ⟨y0, hy0⟩ : ∃ y, ys[i]? = some y := ⟨_, List.getElem?_eq_getElem (by omega)⟩
    refine mono _ _ _ _ _ ?_ (hs (fun y H4 => ∃ acc, H4 D = some (.lst acc) ∧ acc.length < sizeLine ∧ (Same H1 (upd H4 D (.lst (acc ++ [y]))) ∧ (upd H4 D (.lst (acc ++ [y]))) D = some (.lst (ys.take (i + 1))) ∧ i + 1 ≤ n)) i x H H' hi sm hY ?_)
    · rintro σ2 H2 ⟨e, h⟩
      refine ⟨e, ?_⟩
      unfold tYes
      dsimp only
      rw [if_pos rfl]
      exact h
    · intro y H4 hy s4
      refine ⟨ys.take i, s4 _ _ hL, by rw [List.length_take]; omega, Same_upd0 (sm.trans s4) hD, ?_, hi⟩
      rw [upd_same]
      obtain ⟨h1, h2⟩ := List.getElem?_eq_some_iff.mp hy
      rw [List.take_succ_eq_append_getElem h1, h2]
  · rintro H ⟨sm, hL, -⟩
    rw [List.take_of_length_le (by omega)] at hL
    exact hd H sm hL
theorem gName_mono {i : Nat} : ∀ (A B : L2.St → Hp → Prop) x σ H, (∀ σ H, A σ H → B σ H) → gName i x σ H A → gName i x σ H B := fun _ _ _ _ _ h q => h _ _ q
theorem rd_wipe0 {σ : L2.St} : wipe σ [] = σ := rfl
theorem rd_wipe1 {σ : L2.St} {v : Nat} {vs : List Nat} : wipe σ (v :: vs) = (wipe σ vs).set v none := rfl
def rAddT : R2 := fun x y H Q => ∃ i j, x = .str i ∧ y = .str j ∧ i.length + j.length ≤ sizeLine ∧ Q (.str (i ++ j)) H
theorem op_addT {X : Cx} : OpR X (binaryOp .Add) rAddT := op_add_str
theorem rd_addT {a b : Str} {H : Hp} {Q : VK} : rAddT (.str a) (.str b) H Q = (a.length + b.length ≤ sizeLine ∧ Q (.str (a ++ b)) H) := by
  unfold rAddT
  apply propext
  constructor
  · rintro ⟨i, j, e1, e2, q⟩; cases e1; cases e2; exact q
  · intro q; exact ⟨a, b, rfl, rfl, q⟩
theorem rd_ixS {z : Str} {i : Int} {H : Hp} {Q : VK} : rIxS (.str z) (.int i) H Q = ∃ c, z.length ≤ sizeLine ∧ atI z.cps.toList i = some c ∧ Q (.str ⟨#[c]⟩) H := by
  unfold rIxS
  apply propext
  constructor
  · rintro ⟨z', i', c, e1, e2, q⟩; cases e1; cases e2; exact ⟨c, q⟩
  · rintro ⟨c, q⟩; exact ⟨z, i, c, rfl, rfl, q⟩
theorem rd_ixT {K : PySem.W.Frag} {p : Addr} {i : Int} {H : Hp} {Q : VK} : rIxT K (.ref p) (.int i) H Q = ∃ xs v, SqT K H p xs ∧ atI xs i = some v ∧ Q v H := by
  unfold rIxT
  apply propext
  constructor
  · rintro ⟨p', xs, i', v, e1, e2, q⟩; cases e1; cases e2; exact ⟨xs, v, q⟩
  · rintro ⟨xs, v, q⟩; exact ⟨p, xs, i, v, rfl, rfl, q⟩
theorem rd_slS {z : Str} {lo hi : Option Int} {H : Hp} {Q : VK} : rSlS (.str z) lo hi H Q = (z.length ≤ sizeLine ∧ Q (.str (cutS z lo hi)) H) := by
  unfold rSlS
  apply propext
  constructor
  · rintro ⟨z', e, q⟩; cases e; exact q
  · intro q; exact ⟨z, rfl, q⟩
def rJoin (K : PySem.W.Frag) : V → List V → Hp → VK → Prop := fun x xs H Q => ∃ a p, ∃ ys : List Str, x = .str a ∧ xs = [.ref p] ∧ (SqL K H p (ys.map V.str) ∨ SqT K H p (ys.map V.str)) ∧
  (ys.map (·.length)).sum + ys.length * a.length ≤ 16777216 ∧ Q (.str (Txt.join a ys)) H
theorem mt_joinq {X : Cx} : MtR X "str.join" (rJoin X.K) := mt_join
theorem rd_M1 {r : V → List V → Hp → VK → Prop} {to te : TE} {σ : L2.St} {H : Hp} {Q : VK} : tM1 r to te σ H Q = to σ H fun x H1 => isStr x (fun _ => True) ∧ te σ H1 fun y H2 => r x [y] H2 Q := by
  unfold tM1
  apply congrArg
  funext x H1
  rw [show (∃ a, x = V.str a) = isStr x (fun _ => True) from by rw [← isStr_eq]; simp]
theorem rd_join {K : PySem.W.Frag} {a : Str} {p : Addr} {H : Hp} {Q : VK} : rJoin K (.str a) [.ref p] H Q = ∃ ys : List Str, (SqL K H p (ys.map V.str) ∨ SqT K H p (ys.map V.str)) ∧ (ys.map (·.length)).sum + ys.length * a.length ≤ 16777216 ∧ Q (.str (Txt.join a ys)) H := by
  unfold rJoin
  apply propext
  constructor
  · rintro ⟨a', p', ys, e1, e2, q⟩; cases e1; cases e2; exact ⟨ys, q⟩
  · rintro ⟨ys, q⟩; exact ⟨a, p, ys, rfl, rfl, q⟩
def rTupOf (K : PySem.W.Frag) : List V → Hp → VK → Prop := fun xs H Q => ∃ p ys, xs = [.ref p] ∧ ((SqL K H p ys ∧ ∀ l, H l = none → Q (.ref l) (upd H l (.tup ys))) ∨ (SqT K H p ys ∧ Q (.ref p) H))
theorem call_tupleq {X : Cx} : CallR X (.type "tuple") (rTupOf X.K) := call_tuple_of
theorem rd_tupOf {K : PySem.W.Frag} {p : Addr} {H : Hp} {Q : VK} : rTupOf K [.ref p] H Q = ∃ ys, ((SqL K H p ys ∧ ∀ l, Fresh H l → Q (.ref l) (upd H l (.tup ys))) ∨ (SqT K H p ys ∧ Q (.ref p) H)) := by
  unfold rTupOf
  apply propext
  constructor
  · rintro ⟨p', ys, e, q⟩; cases e; exact ⟨ys, q⟩
  · rintro ⟨ys, q⟩; exact ⟨p, ys, rfl, q⟩
def rListOf (K : PySem.W.Frag) : List V → Hp → VK → Prop := fun xs H Q => ∃ p ys, xs = [.ref p] ∧ (SqL K H p ys ∨ SqT K H p ys) ∧ ∀ l, H l = none → Q (.ref l) (upd H l (.lst ys))
theorem call_listq {X : Cx} : CallR X (.type "list") (rListOf X.K) := call_list_of
theorem rd_listOf {K : PySem.W.Frag} {p : Addr} {H : Hp} {Q : VK} : rListOf K [.ref p] H Q = ∃ ys, (SqL K H p ys ∨ SqT K H p ys) ∧ ∀ l, Fresh H l → Q (.ref l) (upd H l (.lst ys)) := by
  unfold rListOf
  apply propext
  constructor
  · rintro ⟨p', ys, e, q⟩; cases e; exact ⟨ys, q⟩
  · rintro ⟨ys, q⟩; exact ⟨p, ys, rfl, q⟩
theorem rd_gTup {K : PySem.W.Frag} {n : Nat} {t : TGs} {a : Addr} {σ : L2.St} {H : Hp} {R : L2.St → Hp → Prop} : gTup K n t (.ref a) σ H R = ∃ xs, SqT K H a xs ∧ xs.length = n ∧ t xs σ H R := by
  unfold gTup
  apply propext
  constructor
  · rintro ⟨a', xs, e, q⟩; cases e; exact ⟨xs, q⟩
  · rintro ⟨xs, q⟩; exact ⟨a, xs, rfl, q⟩
theorem rd_gCons {t : TG} {u : TGs} {v : V} {r : List V} {σ : L2.St} {H : Hp} {R : L2.St → Hp → Prop} : gCons t u (v :: r) σ H R = t v σ H fun σ' H' => u r σ' H' R := by
  unfold gCons
  apply propext
  constructor
  · rintro ⟨v', r', e, q⟩; cases e; exact q
  · intro q; exact ⟨v, r, rfl, q⟩
theorem rd_gNil {σ : L2.St} {H : Hp} {R : L2.St → Hp → Prop} : gNil [] σ H R = R σ H := by
  unfold gNil
  simp
theorem rd_isB {a b : Bool} {H : Hp} {Q : VK} : rIsB (.bl a) (.bl b) H Q = Q (.bl (decide (a = b))) H := by
  unfold rIsB
  apply propext
  constructor
  · rintro ⟨a', b', e1, e2, q⟩; cases e1; cases e2; exact q
  · intro q; exact ⟨a, b, rfl, rfl, q⟩
theorem rd_notB {a b : Bool} {H : Hp} {Q : VK} : rNotB (.bl a) (.bl b) H Q = Q (.bl (!decide (a = b))) H := by
  unfold rNotB
  apply propext
  constructor
  · rintro ⟨a', b', e1, e2, q⟩; cases e1; cases e2; exact q
  · intro q; exact ⟨a, b, rfl, rfl, q⟩
/-! texts by their code points -/
theorem S_item (c : Nat) : (⟨#[c]⟩ : Str) = SX.S [c] := rfl
theorem S_list (l : List Nat) : (SX.S l).cps.toList = l := by simp
theorem joinL_nil : ∀ ls : List (List Nat), TL.joinL [] ls = ls.flatten
  | [] => rfl
  | [p] => by simp [TL.joinL]
  | p :: q :: r => by
    rw [TL.joinL, joinL_nil (q :: r)]
    simp
theorem join_empty {e : Str} (he : e = SX.S []) (ls : List (List Nat)) : Txt.join e (ls.map SX.S) = SX.S ls.flatten := by
  rw [he, SX.join_S, joinL_nil]
theorem cut_S (l : List Nat) (lo hi : Option Int) : cutS (SX.S l) lo hi = SX.S ((l.drop (HT.sIx l.length 0 lo)).take (HT.sIx l.length l.length hi - HT.sIx l.length 0 lo)) := by
  unfold cutS
  rw [SX.S_len, S_list]
theorem lens_sum (ls : List (List Nat)) : ((ls.map SX.S).map (·.length)).sum = ls.flatten.length := by
  rw [SX.lens, List.length_flatten]
theorem own_nil : List.map (fun x : Str × Nat => x.2) [] = [] := rfl
theorem own_cons {a : Str} {n : Nat} {l : List (Str × Nat)} : List.map (fun x : Str × Nat => x.2) ((a, n) :: l) = n :: List.map (fun x : Str × Nat => x.2) l := rfl
theorem cut_hi {l : List V} {n : Int} (h0 : 0 ≤ n) : cutV l none (some n) = l.take n.toNat := by
  unfold cutV
  obtain ⟨z, rfl⟩ : ∃ z : Nat, n = (z : Int) := ⟨n.toNat, by omega⟩
  rw [HT.sIx_none, HT.sIx_nat, Int.toNat_natCast]
  simp only [List.drop_zero, Nat.sub_zero]
  by_cases h : z ≤ l.length
  · rw [Nat.min_eq_left h]
  · rw [Nat.min_eq_right (by omega), List.take_of_length_le (Nat.le_refl _), List.take_of_length_le (by omega)]
theorem cut_lo {l : List V} {n : Int} (h0 : 0 ≤ n) : cutV l (some n) none = l.drop n.toNat := by
  unfold cutV
  obtain ⟨z, rfl⟩ : ∃ z : Nat, n = (z : Int) := ⟨n.toNat, by omega⟩
  rw [HT.sIx_none, HT.sIx_nat, Int.toNat_natCast]
  by_cases h : z ≤ l.length
  · rw [Nat.min_eq_left h, List.take_of_length_le (by rw [List.length_drop]; omega)]
  · rw [Nat.min_eq_right (by omega), List.drop_of_length_le (Nat.le_refl _), List.drop_of_length_le (show l.length ≤ z by omega)]
    simp
theorem cut_span {l : List V} {a b : Int} (h0 : 0 ≤ a) (h1 : a ≤ b) : (cutV l (some a) (some b)).length ≤ (b - a).toNat := by
  unfold cutV
  obtain ⟨z, rfl⟩ : ∃ z : Nat, a = (z : Int) := ⟨a.toNat, by omega⟩
  obtain ⟨y, rfl⟩ : ∃ z : Nat, b = (z : Int) := ⟨b.toNat, by omega⟩
  rw [HT.sIx_nat, HT.sIx_nat, List.length_take, List.length_drop]
  omega
/-- a comprehension without tests; of each item a fact is known -/
theorem go_lcx {J : It} {n : Nat} {G : Hp → Prop} {Y : Nat → Hp → V → Hp → Prop} (w : L2.Walk J n G Y) {g : TG} {te : TE} {vs : List Nat} {σ : L2.St} {H1 : Hp} {D : Addr} {Qd : Hp → Prop} (F : Nat → V → Hp → Prop) (hz : n ≤ sizeLine) (hD : Fresh H1 D)
    (hG : ∀ H, Same H1 H → G H) (st : ∀ i y H H', F i y H → (∀ b o, b ≠ D → H b = some o → H' b = some o) → F i y H')
    (hs : ∀ (N : VK) i x H H', i < n → Same H1 H → Y i H x H' → (∀ y H4, Same H H4 → F i y H4 → N y H4) → g x (wipe σ vs) H' fun σ2 H2 => wipe σ2 vs = wipe σ vs ∧ te σ2 H2 N)
    (hd : ∀ H ys, Same H1 H → H D = some (.lst ys) → ys.length = n → (∀ i y, ys[i]? = some y → F i y H) → Qd H) (mono : ∀ (A B : L2.St → Hp → Prop) x σ H, (∀ σ H, A σ H → B σ H) → g x σ H A → g x σ H B) : lcGo J g tYes te vs σ H1 D Qd := by
  refine lc_it w (fun i H => Same H1 H ∧ i ≤ n ∧ ∃ ys, H D = some (.lst ys) ∧ ys.length = i ∧ ∀ j y, ys[j]? = some y → F j y H) ⟨Same_upd (Same.refl _) hD, Nat.zero_le _, [], upd_same, rfl, fun j y h => by simp at h⟩ (fun i H _ h => hG H h.1) ?_ ?_
  · rintro i x H H' hi ⟨sm, hin, ys, hL, hl, hF⟩ hY
    refine mono _ _ _ _ _ ?_ (hs (fun y H4 => ∃ acc, H4 D = some (.lst acc) ∧ acc.length < sizeLine ∧ (Same H1 (upd H4 D (.lst (acc ++ [y]))) ∧ i + 1 ≤ n ∧ ∃ zs, (upd H4 D (.lst (acc ++ [y]))) D = some (.lst zs) ∧ zs.length = i + 1 ∧ ∀ j y', zs[j]? = some y' → F j y' (upd H4 D (.lst (acc ++ [y]))))) i x H H' hi sm hY ?_)
    · rintro σ2 H2 ⟨e, h⟩
      refine ⟨e, ?_⟩
      unfold tYes
      dsimp only
      rw [if_pos rfl]
      exact h
    · intro y H4 s4 hy
      have up : ∀ b o, b ≠ D → H4 b = some o → upd H4 D (.lst (ys ++ [y])) b = some o := fun b o hb e => by rw [upd_ne hb]; exact e
      refine ⟨ys, s4 _ _ hL, by omega, Same_upd0 (sm.trans s4) hD, hi, _, upd_same, by rw [List.length_append, hl]; rfl, fun j y' h => ?_⟩
      by_cases hj : j < ys.length
      · rw [List.getElem?_append_left hj] at h
        exact st _ _ _ _ (hF j y' h) fun b o hb e => up b o hb (s4 b o e)
      · rw [List.getElem?_append_right (by omega)] at h
        have ej : j = i := by
          have h2 := (List.getElem?_eq_some_iff.mp h).1
          simp at h2
          omega
        subst ej
        rw [hl, Nat.sub_self] at h
        simp at h
        subst h
        exact st _ _ _ _ hy up
  · rintro H ⟨sm, -, ys, hL, hl, hF⟩
    exact hd H ys sm hL hl hF
end My
namespace My
open PySem PySem.Spec PyProof.Rows L2
/-- a comprehension with a test: R tells the items kept so far -/
theorem go_lcf {J : It} {n : Nat} {G : Hp → Prop} {Y : Nat → Hp → V → Hp → Prop} (w : L2.Walk J n G Y) {g : TG} {tt : TT} {te : TE} {vs : List Nat} {σ : L2.St} {H1 : Hp} {D : Addr} {Qd : Hp → Prop} (R : Nat → List V → Prop) (h0 : R 0 []) (hz : n ≤ sizeLine) (hR : ∀ i ys, R i ys → ys.length ≤ i) (hD : Fresh H1 D)
    (hG : ∀ H, Same H1 H → G H)
    (hs : ∀ (N : VK) (Z : Hp → Prop) i x ys H H', i < n → Same H1 H → R i ys → Y i H x H' → (∀ y H4, R (i + 1) (ys ++ [y]) → Same H H4 → N y H4) → (R (i + 1) ys → ∀ H4, Same H H4 → Z H4) →
      g x (wipe σ vs) H' fun σ2 H2 => wipe σ2 vs = wipe σ vs ∧ tt σ2 H2 fun b H3 => if b = true then te σ2 H3 N else Z H3)
    (hd : ∀ H ys, Same H1 H → H D = some (.lst ys) → R n ys → Qd H) : lcGo J g tt te vs σ H1 D Qd := by
  refine lc_it w (fun i H => Same H1 H ∧ ∃ ys, H D = some (.lst ys) ∧ R i ys) ⟨Same_upd (Same.refl _) hD, [], upd_same, h0⟩ (fun i H _ h => hG H h.1) ?_ ?_
  · rintro i x H H' hi ⟨sm, ys, hL, hr⟩ hY
    refine hs (fun y H4 => ∃ acc, H4 D = some (.lst acc) ∧ acc.length < sizeLine ∧ (Same H1 (upd H4 D (.lst (acc ++ [y]))) ∧ ∃ zs, (upd H4 D (.lst (acc ++ [y]))) D = some (.lst zs) ∧ R (i + 1) zs)) _ i x ys H H' hi sm hr hY ?_ ?_
    · intro y H4 hy s4
      have := hR i ys hr
      exact ⟨ys, s4 _ _ hL, by omega, Same_upd0 (sm.trans s4) hD, _, upd_same, hy⟩
    · intro hy H4 s4
      exact ⟨sm.trans s4, ys, s4 _ _ hL, hy⟩
  · rintro H ⟨sm, ys, hL, hr⟩
    exact hd H ys sm hL hr
theorem ix_listK (K : PySem.W.Frag) {X : Cx} (h : X.K = K) : IxR X (rIxL K) := h ▸ ix_list
theorem ix_tupK (K : PySem.W.Frag) {X : Cx} (h : X.K = K) : IxR X (rIxT K) := h ▸ ix_tup
theorem call_lenUK (K : PySem.W.Frag) {X : Cx} (h : X.K = K) : CallR X (.builtin "len") (rLenU K) := h ▸ call_lenU
theorem pg_tupK (K : PySem.W.Frag) {X : Cx} {pos : Pos} {es : List Expr} {k : Nat} {t : TGs} {n : Nat} (e : X.K = K) (hc : X.calm = true) (h : PGs X es t)
    (hn : (assignEach es X.env).length = n := by rfl) (hst : (assignEach es X.env).findIdx? (·.1) = none := by rfl) : PG X (.Tuple es k pos) (gTup K n t) := e ▸ pg_tup hc h hn hst
theorem op_eqDK (K : PySem.W.Frag) {X : Cx} (e : X.K = K) (hu : X.A.units + 64 < cLine) : OpR X (compareOp .Eq) (rEqD K) := e ▸ op_eqD hu
theorem op_neDK (K : PySem.W.Frag) {X : Cx} (e : X.K = K) (hu : X.A.units + 64 < cLine) : OpR X (compareOp .NotEq) (rNeD K) := e ▸ op_neD hu
end My
namespace My
open PySem PySem.W
theorem and_m1 (z : Int) : Builtin.bitAnd z (-1) = z := by
  show Spec.bitAnd z (-1) = z
  unfold Spec.bitAnd
  have h : decide ((0 : Int) ≤ -1) = false := by decide
  rw [h]
  cases e : decide (0 ≤ z) with
  | true =>
    have e' := of_decide_eq_true e
    have h2 : (Spec.bitNot (-1)).toNat = 0 := by decide
    simp [h2]
  | false =>
    have e' := of_decide_eq_false e
    have h2 : (Spec.bitNot (-1)).toNat = 0 := by decide
    simp only [h2, Nat.or_zero]
    unfold Spec.bitNot
    omega
theorem or_one (x : Int) : Builtin.bitOr x 1 = x + 1 - x % 2 := by
  have h : Builtin.bitOr x 1 = Spec.bitNot (Builtin.bitAnd (Spec.bitNot x) (Spec.bitNot 1)) := rfl
  have h1 : Spec.bitNot 1 = -2 := by decide
  rw [h, h1, kbt_halves]
  have h2 : (-2 : Int) / 2 = -1 := by decide
  have h3 : ¬ ((-2 : Int) % 2 = 1) := by decide
  rw [h2, and_m1, if_neg (fun c => h3 c.2)]
  unfold Spec.bitNot
  omega
def strideF (m : Int) : Int := Builtin.bitOr (m / 32) 1
def probeF (m s c : Int) : Int := Builtin.bitAnd (m + c * strideF m) (s - 1)
theorem strideF_eq (m : Int) : strideF m = m / 32 + 1 - m / 32 % 2 := or_one _
theorem probeF_eq (m c : Int) (k : Nat) : probeF m (2 ^ k) c = (m + c * strideF m) % 2 ^ k := kbt_mask _ k
/-- the slots of probes, one after the other -/
def slotI (m s : Int) : Nat → Int
  | 0 => Builtin.bitAnd m (s - 1)
  | i + 1 => Builtin.bitAnd (slotI m s i + strideF m) (s - 1)
def probesF (m s : Int) : List Int := (List.range s.toNat).map (slotI m s)
theorem slotI_eq (m : Int) (k : Nat) : ∀ i : Nat, slotI m (2 ^ k) i = (m + i * strideF m) % 2 ^ k
  | 0 => by
    rw [slotI, kbt_mask]
    simp
  | i + 1 => by
    rw [slotI, kbt_mask, slotI_eq m k i, Int.emod_add_emod]
    congr 1
    rw [Int.natCast_add, Int.add_mul, Int.add_assoc]
    simp
theorem pow_le {j n : Nat} (h : j ≤ n) : (0 : Int) < 2 ^ j ∧ (2 : Int) ^ j ≤ 2 ^ n := by
  have a : (2 : Nat) ^ j ≤ 2 ^ n := Nat.pow_le_pow_right (by decide) h
  have b : 0 < (2 : Nat) ^ j := Nat.pow_pos (by decide)
  have e : ((2 ^ j : Nat) : Int) = (2 : Int) ^ j := by norm_cast
  have e2 : ((2 ^ n : Nat) : Int) = (2 : Int) ^ n := by norm_cast
  omega
theorem pow8 (n : Nat) : (8 : Int) * 2 ^ n = 2 ^ (n + 3) := by
  rw [Int.pow_add, Int.mul_comm]
  rfl
/-- a slot is told by its count -/
theorem slot_of {m f st d S : Int} (h0 : 0 ≤ d) (h1 : d < S) (h : (m + f * st - d) % S = 0) : d = (m + f * st) % S := by
  have e : (m + f * st) % S = (m + f * st - d + d) % S := by rw [Int.sub_add_cancel]
  rw [e, Int.add_emod, h, Int.zero_add, Int.emod_emod, Int.emod_eq_of_lt h0 h1]
end My
namespace My
open PySem PySem.Spec PyProof.Rows L2
/-! things as data: keys (num, txt, tup), and what is none -/
inductive Ky where
  | num (i : Int) | txt (x : Str) | tup (ks : List Ky) | bl (b : Bool) | non | lst (n : Nat) | dct
mutual
def Ky.beq : Ky → Ky → Bool
  | .num i, .num j => decide (i = j)
  | .txt x, .txt y => decide (x = y)
  | .tup xs, .tup ys => Ky.beqs xs ys
  | .bl x, .bl y => decide (x = y)
  | .non, .non => true
  | .lst n, .lst m => decide (n = m)
  | .dct, .dct => true
  | _, _ => false
def Ky.beqs : List Ky → List Ky → Bool
  | [], [] => true
  | x :: xs, y :: ys => Ky.beq x y && Ky.beqs xs ys
  | [], _ :: _ => false
  | _ :: _, [] => false
end
mutual
theorem Ky.beq_iff : ∀ x y : Ky, Ky.beq x y = true ↔ x = y
  | .num i, y => by cases y <;> simp [Ky.beq]
  | .txt x, y => by cases y <;> simp [Ky.beq]
  | .tup xs, .tup ys => by
    rw [Ky.beq, Ky.beqs_iff xs ys]
    simp
  | .tup xs, .num _ => by simp [Ky.beq]
  | .tup xs, .txt _ => by simp [Ky.beq]
  | .tup xs, .bl _ => by simp [Ky.beq]
  | .tup xs, .non => by simp [Ky.beq]
  | .tup xs, .lst _ => by simp [Ky.beq]
  | .tup xs, .dct => by simp [Ky.beq]
  | .bl b, y => by cases y <;> simp [Ky.beq]
  | .non, y => by cases y <;> simp [Ky.beq]
  | .lst n, y => by cases y <;> simp [Ky.beq]
  | .dct, y => by cases y <;> simp [Ky.beq]
theorem Ky.beqs_iff : ∀ xs ys : List Ky, Ky.beqs xs ys = true ↔ xs = ys
  | [], [] => by simp [Ky.beqs]
  | x :: xs, y :: ys => by
    rw [Ky.beqs, Bool.and_eq_true, Ky.beq_iff x y, Ky.beqs_iff xs ys]
    simp
  | [], _ :: _ => by simp [Ky.beqs]
  | _ :: _, [] => by simp [Ky.beqs]
end
instance : DecidableEq Ky := fun x y => if h : Ky.beq x y = true then .isTrue ((Ky.beq_iff x y).mp h) else .isFalse fun e => h ((Ky.beq_iff x y).mpr e)
mutual
def Ky.good : Ky → Bool
  | .num _ => true
  | .txt x => PyData.strOk x
  | .tup ks => Ky.goods ks
  | _ => false
def Ky.goods : List Ky → Bool
  | [] => true
  | k :: ks => Ky.good k && Ky.goods ks
end
mutual
def Ky.toD : Ky → PyData
  | .num i => .int i
  | .txt x => .str x
  | .tup ks => .tuple (Ky.toDs ks)
  | _ => .none
def Ky.toDs : List Ky → List PyData
  | [] => []
  | k :: ks => Ky.toD k :: Ky.toDs ks
end
mutual
def Ky.dep : Ky → Nat
  | .tup ks => Ky.deps ks + 1
  | _ => 0
def Ky.deps : List Ky → Nat
  | [] => 0
  | k :: ks => max (Ky.dep k) (Ky.deps ks)
end
mutual
theorem Ky.eqv : ∀ x y : Ky, x.good = true → y.good = true → PyData.eqv x.toD y.toD = Ky.beq x y
  | .num i, .num j, _, _ => by
    simp only [Ky.toD, PyData.eqv, Ky.beq]
    exact Bool.beq_eq_decide_eq i j
  | .txt x, .txt y, _, _ => by
    simp only [Ky.toD, PyData.eqv, Ky.beq]
    exact Bool.beq_eq_decide_eq x y
  | .tup xs, .tup ys, h, g => by
    simp only [Ky.toD, PyData.eqv, Ky.beq]
    exact Ky.eqvs xs ys (by simpa [Ky.good] using h) (by simpa [Ky.good] using g)
  | .num _, .txt _, _, _ => by simp [Ky.toD, PyData.eqv, Ky.beq]
  | .num _, .tup _, _, _ => by simp [Ky.toD, PyData.eqv, Ky.beq]
  | .txt _, .num _, _, _ => by simp [Ky.toD, PyData.eqv, Ky.beq]
  | .txt _, .tup _, _, _ => by simp [Ky.toD, PyData.eqv, Ky.beq]
  | .tup _, .num _, _, _ => by simp [Ky.toD, PyData.eqv, Ky.beq]
  | .tup _, .txt _, _, _ => by simp [Ky.toD, PyData.eqv, Ky.beq]
  | .bl _, _, h, _ => by simp [Ky.good] at h
  | .non, _, h, _ => by simp [Ky.good] at h
  | .lst _, _, h, _ => by simp [Ky.good] at h
  | .dct, _, h, _ => by simp [Ky.good] at h
  | .num _, .bl _, _, h => by simp [Ky.good] at h
  | .num _, .non, _, h => by simp [Ky.good] at h
  | .num _, .lst _, _, h => by simp [Ky.good] at h
  | .num _, .dct, _, h => by simp [Ky.good] at h
  | .txt _, .bl _, _, h => by simp [Ky.good] at h
  | .txt _, .non, _, h => by simp [Ky.good] at h
  | .txt _, .lst _, _, h => by simp [Ky.good] at h
  | .txt _, .dct, _, h => by simp [Ky.good] at h
  | .tup _, .bl _, _, h => by simp [Ky.good] at h
  | .tup _, .non, _, h => by simp [Ky.good] at h
  | .tup _, .lst _, _, h => by simp [Ky.good] at h
  | .tup _, .dct, _, h => by simp [Ky.good] at h
theorem Ky.eqvs : ∀ xs ys : List Ky, Ky.goods xs = true → Ky.goods ys = true → PyData.eqvAll (Ky.toDs xs) (Ky.toDs ys) = Ky.beqs xs ys
  | [], [], _, _ => by simp [Ky.toDs, PyData.eqvAll, Ky.beqs]
  | x :: xs, y :: ys, h, g => by
    have h' : x.good = true ∧ Ky.goods xs = true := by simpa [Ky.goods] using h
    have g' : y.good = true ∧ Ky.goods ys = true := by simpa [Ky.goods] using g
    simp only [Ky.toDs, PyData.eqvAll, Ky.beqs]
    rw [Ky.eqv x y h'.1 g'.1, Ky.eqvs xs ys h'.2 g'.2]
  | [], _ :: _, _, _ => by simp [Ky.toDs, PyData.eqvAll, Ky.beqs]
  | _ :: _, [], _, _ => by simp [Ky.toDs, PyData.eqvAll, Ky.beqs]
end
mutual
theorem Ky.canLay : ∀ k : Ky, k.good = true → k.toD.canLay0 = true
  | .num _, _ => by simp [Ky.toD, PyData.canLay0]
  | .txt x, h => by
    have h' : PyData.strOk x = true := by simpa [Ky.good] using h
    simpa [Ky.toD, PyData.canLay0] using h'
  | .tup ks, h => by
    simp only [Ky.toD, PyData.canLay0]
    exact Ky.canLays ks (by simpa [Ky.good] using h)
  | .bl _, h => by simp [Ky.good] at h
  | .non, h => by simp [Ky.good] at h
  | .lst _, h => by simp [Ky.good] at h
  | .dct, h => by simp [Ky.good] at h
theorem Ky.canLays : ∀ ks : List Ky, Ky.goods ks = true → PyData.canLayAll0 (Ky.toDs ks) = true
  | [], _ => by simp [Ky.toDs, PyData.canLayAll0]
  | k :: ks, h => by
    have h' : k.good = true ∧ Ky.goods ks = true := by simpa [Ky.goods] using h
    simp only [Ky.toDs, PyData.canLayAll0, Ky.canLay k h'.1, Ky.canLays ks h'.2, Bool.and_self]
end
mutual
theorem Ky.depth_toD : ∀ k : Ky, k.toD.depth = k.dep
  | .tup ks => by
    simp only [Ky.toD, PyData.depth, Ky.dep]
    rw [Ky.depths_toD ks]
  | .num _ => by simp [Ky.toD, PyData.depth, Ky.dep]
  | .txt _ => by simp [Ky.toD, PyData.depth, Ky.dep]
  | .bl _ => by simp [Ky.toD, PyData.depth, Ky.dep]
  | .non => by simp [Ky.toD, PyData.depth, Ky.dep]
  | .lst _ => by simp [Ky.toD, PyData.depth, Ky.dep]
  | .dct => by simp [Ky.toD, PyData.depth, Ky.dep]
theorem Ky.depths_toD : ∀ ks : List Ky, PyData.depthAll (Ky.toDs ks) = Ky.deps ks
  | [] => by simp [Ky.toDs, PyData.depthAll, Ky.deps]
  | k :: ks => by
    simp only [Ky.toDs, PyData.depthAll, Ky.deps]
    rw [Ky.depth_toD k, Ky.depths_toD ks]
end
theorem Ky.shaped {k : Ky} (h : k.good = true) (d : k.dep ≤ 64) : SeqAt.shaped k.toD = true := by
  unfold SeqAt.shaped
  rw [Ky.canLay k h, Ky.depth_toD, decide_eq_true d]
  rfl
mutual
inductive KyAt (H : Hp) : V → Ky → Prop
  | num (i : Int) : KyAt H (.int i) (.num i)
  | txt (x : Str) : KyAt H (.str x) (.txt x)
  | tup {a : Addr} {xs : List V} {ks : List Ky} (h : H a = some (.tup xs)) (p : KysAt H xs ks) : KyAt H (.ref a) (.tup ks)
  | bl (b : Bool) : KyAt H (.bl b) (.bl b)
  | non : KyAt H .non .non
  | lst {a : Addr} {xs : List V} {n : Nat} (h : H a = some (.lst xs)) : KyAt H (.ref a) (.lst n)
  | dct {a : Addr} {kvs : List (Key × V)} (h : H a = some (.dK kvs)) : KyAt H (.ref a) .dct
inductive KysAt (H : Hp) : List V → List Ky → Prop
  | nil : KysAt H [] []
  | cons {v : V} {vs : List V} {k : Ky} {ks : List Ky} (h : KyAt H v k) (t : KysAt H vs ks) : KysAt H (v :: vs) (k :: ks)
end
section
variable {H H' : Hp} {K : PySem.W.Frag}
mutual
theorem KyAt.same (s : Same H H') : ∀ (k : Ky) (v : V), KyAt H v k → KyAt H' v k
  | .num i, _, h => by cases h; exact .num i
  | .txt x, _, h => by cases h; exact .txt x
  | .tup ks, _, h => by
    cases h with
    | tup h p => exact .tup (s _ _ h) (KysAt.same s ks _ p)
  | .bl b, _, h => by cases h; exact .bl b
  | .non, _, h => by cases h; exact .non
  | .lst n, _, h => by
    cases h with
    | lst h => exact .lst (s _ _ h)
  | .dct, _, h => by
    cases h with
    | dct h => exact .dct (s _ _ h)
theorem KysAt.same (s : Same H H') : ∀ (ks : List Ky) (vs : List V), KysAt H vs ks → KysAt H' vs ks
  | [], _, h => by cases h; exact .nil
  | k :: ks, _, h => by
    cases h with
    | cons h t => exact .cons (KyAt.same s k _ h) (KysAt.same s ks _ t)
end
mutual
theorem KyAt.dp : ∀ (k : Ky) (v : V), k.good = true → KyAt H v k → Dp K H v k.toD
  | .num i, _, _, h => by cases h; rw [Ky.toD]; exact .int i
  | .txt x, _, _, h => by cases h; rw [Ky.toD]; exact .str x
  | .tup ks, _, g, h => by
    cases h with
    | tup h p => rw [Ky.toD]; exact .tup (SqT.of h) (KysAt.dp ks _ (by simpa [Ky.good] using g) p)
  | .bl _, _, g, _ => by simp [Ky.good] at g
  | .non, _, g, _ => by simp [Ky.good] at g
  | .lst _, _, g, _ => by simp [Ky.good] at g
  | .dct, _, g, _ => by simp [Ky.good] at g
theorem KysAt.dp : ∀ (ks : List Ky) (vs : List V), Ky.goods ks = true → KysAt H vs ks → DpAll K H vs (Ky.toDs ks)
  | [], _, _, h => by cases h; rw [Ky.toDs]; exact .nil
  | k :: ks, _, g, h => by
    have g' : k.good = true ∧ Ky.goods ks = true := by simpa [Ky.goods] using g
    cases h with
    | cons h t => rw [Ky.toDs]; exact .cons (KyAt.dp k _ g'.1 h) (KysAt.dp ks _ g'.2 t)
end
theorem KysAt.len : ∀ {ks : List Ky} {vs : List V}, KysAt H vs ks → vs.length = ks.length
  | [], _, h => by cases h; rfl
  | k :: ks, _, h => by
    cases h with
    | cons h t => simp [KysAt.len t]
theorem KysAt.get : ∀ {ks : List Ky} {vs : List V} {i : Nat} {v : V}, KysAt H vs ks → vs[i]? = some v → ∃ k, ks[i]? = some k ∧ KyAt H v k
  | [], _, _, _, h, e => by cases h; simp at e
  | k :: ks, _, 0, v, h, e => by
    cases h with
    | cons h t =>
      simp at e
      subst e
      exact ⟨k, rfl, h⟩
  | k :: ks, _, i + 1, v, h, e => by
    cases h with
    | cons h t =>
      obtain ⟨k', e', h'⟩ := KysAt.get (i := i) t (by simpa using e)
      exact ⟨k', by simpa using e', h'⟩
theorem KysAt.append : ∀ {ks ls : List Ky} {vs ws : List V}, KysAt H vs ks → KysAt H ws ls → KysAt H (vs ++ ws) (ks ++ ls)
  | [], _, _, _, h, q => by cases h; exact q
  | k :: ks, _, _, _, h, q => by
    cases h with
    | cons h t => exact .cons h (KysAt.append t q)
/-- two keys compared -/
theorem eq_keys {v w : V} {k l : Ky} {Q : VK} (hv : KyAt H v k) (hw : KyAt H w l) (gk : k.good = true) (gl : l.good = true) (dk : k.dep ≤ 64) (dl : l.dep ≤ 64) (q : Q (.bl (decide (k = l))) H) : rEqD K v w H Q := by
  refine ⟨k.toD, l.toD, KyAt.dp k v gk hv, KyAt.dp l w gl hw, Ky.shaped gk dk, Ky.shaped gl dl, ?_⟩
  rw [Ky.eqv _ _ gk gl]
  have e : Ky.beq k l = decide (k = l) := by
    cases h : Ky.beq k l with
    | true => exact (decide_eq_true ((Ky.beq_iff k l).mp h)).symm
    | false => exact (decide_eq_false fun c => by rw [(Ky.beq_iff k l).mpr c] at h; cases h).symm
  rw [e]
  exact q
end
/-! the stamp -/
abbrev TURN : Int := 2147483647
def stampT (l : List Nat) : Int := l.foldl (fun (h : Int) (c : Nat) => (31 * h + c) % 2147483647) 7
mutual
def Ky.stamp : Ky → Int
  | .num i => i % 2147483647
  | .txt x => stampT x.cps.toList
  | .tup ks => Ky.stamps 11 ks
  | _ => 0
def Ky.stamps : Int → List Ky → Int
  | h, [] => h
  | h, k :: ks => Ky.stamps (Builtin.bitXor (1000003 * h) (Ky.stamp k) % 2147483647) ks
end
theorem stampT_range (l : List Nat) : 0 ≤ stampT l ∧ stampT l < 2147483647 := by
  have h : ∀ (l : List Nat) (a : Int), 0 ≤ a → a < 2147483647 → 0 ≤ l.foldl (fun (h : Int) (c : Nat) => (31 * h + c) % 2147483647) a ∧ l.foldl (fun (h : Int) (c : Nat) => (31 * h + c) % 2147483647) a < 2147483647 := by
    intro l
    induction l with
    | nil => intro a h0 h1; exact ⟨h0, h1⟩
    | cons c l ih => intro a h0 h1; exact ih _ (Int.emod_nonneg _ (by decide)) (Int.emod_lt_of_pos _ (by decide))
  exact h l 7 (by decide) (by decide)
theorem stamps_range : ∀ (ks : List Ky) (a : Int), 0 ≤ a → a < 2147483647 → 0 ≤ Ky.stamps a ks ∧ Ky.stamps a ks < 2147483647
  | [], a, h0, h1 => by rw [Ky.stamps]; exact ⟨h0, h1⟩
  | k :: ks, a, h0, h1 => by rw [Ky.stamps]; exact stamps_range ks _ (by omega) (by omega)
theorem stamp_range : ∀ k : Ky, 0 ≤ k.stamp ∧ k.stamp < 2147483647
  | .num i => by rw [Ky.stamp]; omega
  | .txt x => by rw [Ky.stamp]; exact stampT_range _
  | .tup ks => by rw [Ky.stamp]; exact stamps_range ks 11 (by decide) (by decide)
  | .bl _ => by simp [Ky.stamp]
  | .non => by simp [Ky.stamp]
  | .lst _ => by simp [Ky.stamp]
  | .dct => by simp [Ky.stamp]
theorem stampT_step {l : List Nat} {i c : Nat} (h : l[i]? = some c) : stampT (l.take (i + 1)) = (31 * stampT (l.take i) + c) % 2147483647 := by
  obtain ⟨hi, e⟩ := List.getElem?_eq_some_iff.mp h
  unfold stampT
  rw [List.take_succ_eq_append_getElem hi, List.foldl_append, e]
  rfl
theorem stamps_append : ∀ (a : Int) (xs ys : List Ky), Ky.stamps a (xs ++ ys) = Ky.stamps (Ky.stamps a xs) ys
  | a, [], ys => by simp [Ky.stamps]
  | a, x :: xs, ys => by
    rw [List.cons_append, Ky.stamps, Ky.stamps]
    exact stamps_append _ xs ys
theorem stamps_step {ks : List Ky} {i : Nat} {k : Ky} (a : Int) (h : ks[i]? = some k) : Ky.stamps a (ks.take (i + 1)) = Builtin.bitXor (1000003 * Ky.stamps a (ks.take i)) k.stamp % 2147483647 := by
  obtain ⟨hi, e⟩ := List.getElem?_eq_some_iff.mp h
  rw [List.take_succ_eq_append_getElem hi, stamps_append, e, Ky.stamps, Ky.stamps]
theorem dep_of_mem : ∀ {ks : List Ky} {i : Nat} {k : Ky}, ks[i]? = some k → k.dep ≤ Ky.deps ks
  | [], i, k, h => by simp at h
  | x :: xs, 0, k, h => by
    simp at h
    subst h
    rw [Ky.deps]
    omega
  | x :: xs, i + 1, k, h => by
    have := dep_of_mem (ks := xs) (i := i) (k := k) (by simpa using h)
    rw [Ky.deps]
    omega
/-- stamp of a key so deep -/
def spStamp (n : Nat) : Sp := fun vs H Q _ => ∃ v k, vs = [v] ∧ KyAt H v k ∧ (k.good = true ∧ k.dep ≤ n) ∧ Q (.int k.stamp) H
theorem rd_spStamp {n : Nat} {v : V} {H : Hp} {Q : VK} {E : XK} : spStamp n [v] H Q E = ∃ k, KyAt H v k ∧ (k.good = true ∧ k.dep ≤ n) ∧ Q (.int k.stamp) H := by
  unfold spStamp
  apply propext
  constructor
  · rintro ⟨v', k, e, q⟩; cases e; exact ⟨k, q⟩
  · rintro ⟨k, q⟩; exact ⟨v, k, rfl, q⟩
theorem len_stamp {n : Nat} {vs H Q E} (h : spStamp n vs H Q E) : vs.length = 1 := by obtain ⟨_, _, rfl, _⟩ := h; rfl
def rOrd : List V → Hp → VK → Prop := fun xs H Q => ∃ x : Str, xs = [.str x] ∧ x.length = 1 ∧ Q (.int (x.cps.getD 0 0 : Nat)) H
theorem call_ordq {X : Cx} : CallR X (.builtin "ord") rOrd := call_ord
theorem rd_ord {c : Nat} {H : Hp} {Q : VK} : rOrd [.str ⟨#[c]⟩] H Q = Q (.int c) H := by
  unfold rOrd
  apply propext
  constructor
  · rintro ⟨x, e, _, q⟩; cases e; exact q
  · intro q; exact ⟨_, rfl, rfl, q⟩
/-! what is a key -/
def within : Nat → Ky → Bool
  | _, .num i => decide (-(10 ^ 60) < i ∧ i < 10 ^ 60)
  | _, .txt x => decide (x.length ≤ 60)
  | 0, .tup _ => false
  | d + 1, .tup ks => decide (ks.length ≤ 6) && ks.all (within d)
  | _, _ => false
mutual
def Ky.fit : Ky → Bool
  | .txt x => decide (x.length ≤ 16777216)
  | .tup ks => Ky.fits ks
  | _ => true
def Ky.fits : List Ky → Bool
  | [] => true
  | k :: ks => Ky.fit k && Ky.fits ks
end
theorem fits_get : ∀ {ks : List Ky} {i : Nat} {k : Ky}, Ky.fits ks = true → ks[i]? = some k → k.fit = true
  | [], i, k, _, h => by simp at h
  | x :: xs, 0, k, g, h => by
    have g' : x.fit = true ∧ Ky.fits xs = true := by simpa [Ky.fits] using g
    simp at h
    subst h
    exact g'.1
  | x :: xs, i + 1, k, g, h => by
    have g' : x.fit = true ∧ Ky.fits xs = true := by simpa [Ky.fits] using g
    exact fits_get (ks := xs) (i := i) g'.2 (by simpa using h)
def spWithin (n : Nat) : Sp := fun vs H Q _ => ∃ (v : V) (k : Ky) (d : Nat), vs = [v, .int d] ∧ KyAt H v k ∧ (k.fit = true ∧ d ≤ n) ∧ Q (.bl (within d k)) H
theorem len_within {n : Nat} {vs H Q E} (h : spWithin n vs H Q E) : vs.length = 2 := by obtain ⟨_, _, _, rfl, _⟩ := h; rfl
def spKeyB : Sp := fun vs H Q _ => ∃ (v : V) (k : Ky), vs = [v] ∧ KyAt H v k ∧ k.fit = true ∧ Q (.bl (within 3 k)) H
theorem len_keyB {vs H Q E} (h : spKeyB vs H Q E) : vs.length = 1 := by obtain ⟨_, _, rfl, _⟩ := h; rfl
theorem goods_get : ∀ {ks : List Ky} {i : Nat} {k : Ky}, Ky.goods ks = true → ks[i]? = some k → k.good = true
  | [], i, k, _, h => by simp at h
  | x :: xs, 0, k, g, h => by
    have g' : x.good = true ∧ Ky.goods xs = true := by simpa [Ky.goods] using g
    simp at h
    subst h
    exact g'.1
  | x :: xs, i + 1, k, g, h => by
    have g' : x.good = true ∧ Ky.goods xs = true := by simpa [Ky.goods] using g
    exact goods_get (ks := xs) (i := i) g'.2 (by simpa using h)
theorem goods_append : ∀ {xs ys : List Ky}, Ky.goods xs = true → Ky.goods ys = true → Ky.goods (xs ++ ys) = true
  | [], _, _, h => h
  | x :: xs, ys, g, h => by
    have g' : x.good = true ∧ Ky.goods xs = true := by simpa [Ky.goods] using g
    rw [List.cons_append, Ky.goods, g'.1, goods_append g'.2 h]
    rfl
theorem nums_at {H : Hp} : ∀ ns : List Int, KysAt H (ns.map V.int) (ns.map Ky.num)
  | [] => .nil
  | n :: ns => .cons (.num n) (nums_at ns)
theorem within_mono : ∀ {d e : Nat}, d ≤ e → ∀ k : Ky, within d k = true → within e k = true
  | d, e, h, .num i, q => by cases d <;> cases e <;> simpa [within] using q
  | d, e, h, .txt x, q => by cases d <;> cases e <;> simpa [within] using q
  | 0, e, h, .tup ks, q => by simp [within] at q
  | d + 1, 0, h, .tup ks, q => by omega
  | d + 1, e + 1, h, .tup ks, q => by
    simp only [within, Bool.and_eq_true, List.all_eq_true] at q ⊢
    exact ⟨q.1, fun y hy => within_mono (by omega) y (q.2 y hy)⟩
  | d, e, h, .bl b, q => by cases d <;> simp [within] at q
  | d, e, h, .non, q => by cases d <;> simp [within] at q
  | d, e, h, .lst n, q => by cases d <;> simp [within] at q
  | d, e, h, .dct, q => by cases d <;> simp [within] at q
section
variable {H H' : Hp} {D : Addr} {xs0 : List V}
mutual
/-- a key's tuples stay where a list is changed -/
theorem KyAt.but (k : ∀ b o, b ≠ D → H b = some o → H' b = some o) (e : H D = some (.lst xs0)) : ∀ (y : Ky) (v : V), y.good = true → KyAt H v y → KyAt H' v y
  | .num i, _, _, h => by cases h; exact .num i
  | .txt x, _, _, h => by cases h; exact .txt x
  | .tup ks, _, g, h => by
    cases h with
    | tup h p => exact .tup (k _ _ (ne_of h e (by intro z; cases z)) h) (KysAt.but' k e ks _ (by simpa [Ky.good] using g) p)
  | .bl _, _, g, _ => by simp [Ky.good] at g
  | .non, _, g, _ => by simp [Ky.good] at g
  | .lst _, _, g, _ => by simp [Ky.good] at g
  | .dct, _, g, _ => by simp [Ky.good] at g
theorem KysAt.but' (k : ∀ b o, b ≠ D → H b = some o → H' b = some o) (e : H D = some (.lst xs0)) : ∀ (ks : List Ky) (vs : List V), Ky.goods ks = true → KysAt H vs ks → KysAt H' vs ks
  | [], _, _, h => by cases h; exact .nil
  | y :: ks, _, g, h => by
    have g' : y.good = true ∧ Ky.goods ks = true := by simpa [Ky.goods] using g
    cases h with
    | cons h t => exact .cons (KyAt.but k e y _ g'.1 h) (KysAt.but' k e ks _ g'.2 t)
end
end
end My
namespace My
open PySem PySem.Spec PyProof.Rows L2
/-- the ninety-four signs -/
def signs : List Nat := [32, 33, 34, 35, 36, 38, 39, 40, 41, 42, 43, 44, 45, 46, 47, 48, 49, 50, 51, 52, 53, 54, 55, 56, 57, 58, 59, 60, 61, 62, 63, 64, 65, 66, 67, 68, 69, 70, 71, 72, 73, 74, 75, 76, 77, 78, 79, 80, 81, 82, 83, 84, 85, 86, 87, 88, 89, 90, 91, 92, 93, 94, 95, 96, 97, 98, 99, 100, 101, 102, 103, 104, 105, 106, 107, 108, 109, 110, 111, 112, 113, 114, 115, 116, 117, 118, 119, 120, 121, 122, 123, 124, 125, 126]
theorem signs_len : signs.length = 94 := rfl
theorem signs_ok : ∀ c ∈ signs, 32 ≤ c ∧ c ≤ 126 := by decide
def signAt (n : Int) : Nat := signs.getD n.toNat 0
theorem signAt_some {n : Int} (h0 : 0 ≤ n) (h1 : n < 94) : atI signs n = some (signAt n) := by
  obtain ⟨j, rfl⟩ : ∃ j : Nat, n = (j : Int) := ⟨n.toNat, by omega⟩
  have hj : j < signs.length := by rw [signs_len]; omega
  refine atI_nat ?_
  unfold signAt
  rw [Int.toNat_natCast, List.getD_eq_getElem?_getD, List.getElem?_eq_getElem hj]
  rfl
theorem signAt_ok {n : Int} (h0 : 0 ≤ n) (h1 : n < 94) : 32 ≤ signAt n ∧ signAt n ≤ 126 := by
  have hj : n.toNat < signs.length := by rw [signs_len]; omega
  unfold signAt
  rw [List.getD_eq_getElem?_getD, List.getElem?_eq_getElem hj]
  exact signs_ok _ (List.getElem_mem hj)
def codesOk (l : List Nat) : Prop := ∀ c ∈ l, 32 ≤ c ∧ c ≤ 126
theorem strOk_of {l : List Nat} (h : codesOk l) : PyData.strOk (SX.S l) = true := by
  show (SX.S l).cps.all (· < 0x110000) = true
  rw [← Array.all_toList]
  rw [List.all_eq_true]
  intro c hc
  have := h c (by simpa using hc)
  exact decide_eq_true (by omega)
theorem signs_text : (Str.ofString " !\"#$&'()*+,-./0123456789:;<=>?@ABCDEFGHIJKLMNOPQRSTUVWXYZ[\\]^_`" ++ Str.ofString "abcdefghijklmnopqrstuvwxyz{|}~" : Str) = SX.S signs := by decide +kernel
theorem signAt_val {n : Int} (h0 : 0 ≤ n) (h1 : n < 94) : (signAt n : Int) = if n < 5 then n + 32 else n + 33 := by
  obtain ⟨j, rfl⟩ : ∃ j : Nat, n = (j : Int) := ⟨n.toNat, by omega⟩
  have h : (List.range 94).all (fun j => decide ((signAt (j : Int) : Int) = if (j : Int) < 5 then (j : Int) + 32 else (j : Int) + 33)) = true := by decide +kernel
  exact of_decide_eq_true ((List.all_eq_true.mp h) j (List.mem_range.mpr (by omega)))
/-- a row of signs by numbers -/
def rowS (cs : List Int) : List Nat := cs.map fun n => signAt (n % 94)
theorem rowS_ok (cs : List Int) : codesOk (rowS cs) := by
  intro c hc
  obtain ⟨n, _, rfl⟩ := List.mem_map.mp hc
  exact signAt_ok (Int.emod_nonneg _ (by decide)) (Int.emod_lt_of_pos _ (by decide))
theorem rowS_len (cs : List Int) : (rowS cs).length = cs.length := List.length_map _
/-- single signs -/
theorem flat_one : ∀ l : List Nat, (l.map fun c => [c]).flatten = l
  | [] => rfl
  | c :: l => by rw [List.map_cons, List.flatten_cons, flat_one l]; rfl
theorem ones_str (l : List Nat) : (l.map fun c => V.str ⟨#[c]⟩) = ((l.map fun c => [c]).map SX.S).map V.str := by
  rw [List.map_map, List.map_map]
  rfl
theorem empty_S : Str.ofString "" = SX.S [] := by decide +kernel
/-- the join of a list of single signs -/
theorem join_ones {K : PySem.W.Frag} {H : Hp} {p : Addr} {l : List Nat} {R : List Str → Prop} (h : SqL K H p (l.map fun c => V.str ⟨#[c]⟩)) (hz : l.length ≤ 1000) (q : ∀ ys, Txt.join (Str.ofString "") ys = SX.S l → R ys) :
    ∃ ys : List Str, (SqL K H p (ys.map V.str) ∨ SqT K H p (ys.map V.str)) ∧ (ys.map (·.length)).sum + ys.length * (Str.ofString "").length ≤ 16777216 ∧ R ys := by
  refine ⟨(l.map fun c => [c]).map SX.S, .inl (by rw [← ones_str]; exact h), ?_, q _ ?_⟩
  · rw [lens_sum, flat_one, empty_S, SX.S_len]
    simp
    omega
  · rw [join_empty empty_S, flat_one]
theorem stampT_cons {a b c d : Nat} {h t : List Nat} (e : 31 * (a : Int) + b = 31 * (c : Int) + d) : stampT (h ++ [a, b] ++ t) = stampT (h ++ [c, d] ++ t) := by
  unfold stampT
  rw [List.foldl_append, List.foldl_append, List.foldl_append, List.foldl_append]
  congr 1
  simp only [List.foldl_cons, List.foldl_nil]
  generalize List.foldl (fun (h : Int) (c : Nat) => (31 * h + c) % 2147483647) 7 h = x
  omega
theorem codesOk_append {a b : List Nat} (h : codesOk a) (g : codesOk b) : codesOk (a ++ b) := fun c hc => (List.mem_append.mp hc).elim (h c) (g c)
theorem codesOk_take {a : List Nat} (h : codesOk a) (n : Nat) : codesOk (a.take n) := fun c hc => h c (List.mem_of_mem_take hc)
theorem codesOk_drop {a : List Nat} (h : codesOk a) (n : Nat) : codesOk (a.drop n) := fun c hc => h c (List.mem_of_mem_drop hc)
theorem codesOk_two {a b : Nat} (h : 32 ≤ a ∧ a ≤ 126) (g : 32 ≤ b ∧ b ≤ 126) : codesOk [a, b] := fun c hc => by
  rcases List.mem_cons.mp hc with rfl | hc
  · exact h
  · rcases List.mem_cons.mp hc with rfl | hc
    · exact g
    · cases hc
theorem S_ne {a b : List Nat} (h : a ≠ b) : SX.S a ≠ SX.S b := fun e => h (SX.S_inj e)
end My
namespace My
open PySem PySem.Spec PyProof.Rows L2
/-- the count of a slot -/
def spWhen : Sp := fun vs H Q _ => ∃ (m : Int) (j : Nat) (s : Int), vs = [.int m, .int (2 ^ j), .int s] ∧ (3 ≤ j ∧ j ≤ 12) ∧ (0 ≤ m ∧ m < 2147483647) ∧ (0 ≤ s ∧ s < 2 ^ j) ∧
  ∀ f : Int, 0 ≤ f → f < 2 ^ j → (m + f * strideF m - s) % 2 ^ j = 0 → Q (.int f) H
theorem len_when {vs H Q E} (h : spWhen vs H Q E) : vs.length = 3 := by obtain ⟨_, _, _, rfl, _⟩ := h; rfl
/-- 2^r divides 1 - s * b -/
def Inv2 (s b : Int) (r : Nat) : Prop := ∃ t, 1 - s * b = 2 ^ r * t
theorem inv2_mono {s b : Int} {r q : Nat} (h : Inv2 s b r) (l : q ≤ r) : Inv2 s b q := by
  obtain ⟨t, e⟩ := h
  obtain ⟨d, rfl⟩ : ∃ d, r = q + d := ⟨r - q, by omega⟩
  exact ⟨2 ^ d * t, by rw [e, Int.pow_add, Int.mul_assoc]⟩
theorem inv2_mod {s b : Int} {r j : Nat} (h : Inv2 s b r) (l : r ≤ j) : Inv2 s (b % 2 ^ j) r := by
  obtain ⟨t, e⟩ := h
  obtain ⟨d, rfl⟩ : ∃ d, j = r + d := ⟨j - r, by omega⟩
  refine ⟨t + s * (2 ^ d * (b / 2 ^ (r + d))), ?_⟩
  have e2 : b % 2 ^ (r + d) = b - 2 ^ (r + d) * (b / 2 ^ (r + d)) := Int.emod_def _ _
  have e3 : (2 : Int) ^ (r + d) * (b / 2 ^ (r + d)) = 2 ^ r * (2 ^ d * (b / 2 ^ (r + d))) := by
    rw [← Int.mul_assoc, ← Int.pow_add]
  rw [e2, e3, Int.mul_sub, Int.mul_add, Int.mul_left_comm s]
  omega
theorem inv2_start {s : Int} (h : s % 2 = 1) : Inv2 s s 3 := by
  have h4 : s % 8 = 1 ∨ s % 8 = 3 ∨ s % 8 = 5 ∨ s % 8 = 7 := by omega
  have e := Int.emod_def s 8
  have hs : s = 8 * (s / 8) + s % 8 := by omega
  generalize s / 8 = q at hs
  generalize s % 8 = r at hs h4
  refine ⟨-(8 * (q * q) + 2 * (q * r)) + (1 - r * r) / 8, ?_⟩
  subst hs
  have x : (8 * q + r) * (8 * q + r) = 64 * (q * q) + 16 * (q * r) + r * r := by
    grind
  rw [x]
  rcases h4 with rfl | rfl | rfl | rfl <;> simp <;> omega
theorem inv2_step {s b : Int} {r : Nat} (h : Inv2 s b r) : Inv2 s (b * (2 - s * b)) (2 * r) := by
  obtain ⟨t, e⟩ := h
  refine ⟨t * t, ?_⟩
  have e2 : s * b = 1 - 2 ^ r * t := by omega
  have e3 : s * (b * (2 - s * b)) = (1 - 2 ^ r * t) * (1 + 2 ^ r * t) := by
    rw [← Int.mul_assoc, e2]
    congr 1
    omega
  rw [e3]
  have e4 : (2 : Int) ^ (2 * r) = 2 ^ r * 2 ^ r := by rw [Nat.two_mul, Int.pow_add]
  rw [e4]
  generalize (2 : Int) ^ r = x
  grind
/-- the end -/
theorem inv2_end {m s b d : Int} {j : Nat} (h : Inv2 s b j) (z : (0 : Int) < 2 ^ j) : (m + (d - m) * b % 2 ^ j * s - d) % 2 ^ j = 0 := by
  obtain ⟨t, e⟩ := h
  have e2 : (d - m) * b % 2 ^ j = (d - m) * b - 2 ^ j * ((d - m) * b / 2 ^ j) := Int.emod_def _ _
  rw [e2]
  generalize (d - m) * b / 2 ^ j = q
  generalize (2 : Int) ^ j = x at e
  have e3 : m + ((d - m) * b - x * q) * s - d = x * ((m - d) * t - q * s) := by grind
  rw [e3, Int.mul_emod_right]
end My
namespace My
open PySem PySem.Spec PyProof.Rows L2
structure KOk (d : Nat) (k : Ky) : Prop where
  w : within d k = true
  g : k.good = true
  f : k.fit = true
  d : k.dep ≤ d
abbrev KeyOk := KOk 3
theorem KOk.mono {d e : Nat} {k : Ky} (p : KOk d k) (h : d ≤ e) : KOk e k := ⟨within_mono h _ p.w, p.g, p.f, Nat.le_trans p.d h⟩
theorem goods_of : ∀ {ks : List Ky}, (∀ k ∈ ks, k.good = true) → Ky.goods ks = true
  | [], _ => by simp [Ky.goods]
  | k :: ks, h => by rw [Ky.goods, h k List.mem_cons_self, goods_of fun y hy => h y (List.mem_cons_of_mem _ hy)]; rfl
theorem fits_of : ∀ {ks : List Ky}, (∀ k ∈ ks, k.fit = true) → Ky.fits ks = true
  | [], _ => by simp [Ky.fits]
  | k :: ks, h => by rw [Ky.fits, h k List.mem_cons_self, fits_of fun y hy => h y (List.mem_cons_of_mem _ hy)]; rfl
theorem deps_of {d : Nat} : ∀ {ks : List Ky}, (∀ k ∈ ks, k.dep ≤ d) → Ky.deps ks ≤ d
  | [], _ => by simp [Ky.deps]
  | k :: ks, h => by
    have a := h k List.mem_cons_self
    have b := deps_of (ks := ks) fun y hy => h y (List.mem_cons_of_mem _ hy)
    rw [Ky.deps]
    omega
theorem KOk.tup {d : Nat} {ks : List Ky} (h : ∀ k ∈ ks, KOk d k) (z : ks.length ≤ 6) : KOk (d + 1) (.tup ks) := by
  refine ⟨?_, ?_, ?_, ?_⟩
  · simp only [within]
    rw [decide_eq_true z, Bool.true_and, List.all_eq_true]
    exact fun k hk => (h k hk).w
  · rw [Ky.good]; exact goods_of fun k hk => (h k hk).g
  · rw [Ky.fit]; exact fits_of fun k hk => (h k hk).f
  · rw [Ky.dep]
    have := deps_of (d := d) fun k hk => (h k hk).d
    omega
theorem KOk.num {d : Nat} {i : Int} (b : -(10 ^ 60) < i ∧ i < 10 ^ 60) : KOk d (.num i) := ⟨by cases d <;> (simp only [within]; exact decide_eq_true b), by simp [Ky.good], by simp [Ky.fit], by simp [Ky.dep]⟩
theorem KOk.txt {d : Nat} {l : List Nat} (c : codesOk l) (z : l.length ≤ 60) : KOk d (.txt (SX.S l)) := by
  refine ⟨?_, ?_, ?_, by simp [Ky.dep]⟩
  · cases d <;> (simp only [within]; exact decide_eq_true (by rw [SX.S_len]; exact z))
  · simp only [Ky.good]; exact strOk_of c
  · simp only [Ky.fit]; exact decide_eq_true (by rw [SX.S_len]; omega)
/-- a text of so many signs -/
def spText : Sp := fun vs H Q _ => ∃ n z : Int, vs = [.int n, .int z] ∧ (0 ≤ z ∧ z ≤ 1000) ∧ ∀ l : List Nat, codesOk l → (l.length : Int) = z → Q (.str (SX.S l)) H
theorem len_text {vs H Q E} (h : spText vs H Q E) : vs.length = 2 := by obtain ⟨_, _, rfl, _⟩ := h; rfl
/-- a number or a text -/
def Leaf : V → Ky → Prop
  | .int i, k => k = .num i ∧ (-(10 ^ 60) < i ∧ i < 10 ^ 60)
  | .str x, k => ∃ l, k = .txt (SX.S l) ∧ x = SX.S l ∧ codesOk l ∧ l.length ≤ 60
  | _, _ => False
def spAnyLeaf : Sp := fun vs H Q _ => ∃ n : Int, vs = [.int n] ∧ (0 ≤ n ∧ n < 2 ^ 60) ∧ ∀ v k, Leaf v k → Q v H
theorem len_anyLeaf {vs H Q E} (h : spAnyLeaf vs H Q E) : vs.length = 1 := by obtain ⟨_, rfl, _⟩ := h; rfl
theorem Leaf.at {H : Hp} {v : V} {k : Ky} (h : Leaf v k) : KyAt H v k := by
  cases v with
  | int i => obtain ⟨rfl, _⟩ := h; exact .num i
  | str x => obtain ⟨l, rfl, rfl, _⟩ := h; exact .txt _
  | _ => exact h.elim
theorem Leaf.ok {d : Nat} {v : V} {k : Ky} (h : Leaf v k) : KOk d k := by
  cases v with
  | int i => obtain ⟨rfl, b⟩ := h; exact .num b
  | str x => obtain ⟨l, rfl, rfl, c, z⟩ := h; exact .txt c z
  | _ => exact h.elim
/-- leaves, in a row -/
theorem leaves_at {H : Hp} : ∀ {ys : List V}, (∀ (i : Nat) y, ys[i]? = some y → ∃ k, Leaf y k) → ∃ ks, KysAt H ys ks ∧ (∀ k ∈ ks, KOk 0 k) ∧ ks.length = ys.length
  | [], _ => ⟨[], .nil, (fun _ h => by cases h), rfl⟩
  | y :: ys, h => by
    obtain ⟨k, hk⟩ := h 0 y rfl
    obtain ⟨ks, h1, h2, h3⟩ := leaves_at (H := H) (ys := ys) fun i z e => h (i + 1) z (by simpa using e)
    refine ⟨k :: ks, .cons hk.at h1, fun x hx => ?_, by simp [h3]⟩
    rcases List.mem_cons.mp hx with rfl | hx
    · exact hk.ok
    · exact h2 x hx
theorem KysAt.set {H : Hp} : ∀ {ys : List V} {ks : List Ky} {i : Nat} {v : V} {k : Ky}, KysAt H ys ks → KyAt H v k → KysAt H (ys.set i v) (ks.set i k)
  | _, [], _, _, _, h, _ => by cases h; exact .nil
  | _, x :: xs, 0, _, _, h, q => by
    cases h with
    | cons h t => exact .cons q t
  | _, x :: xs, i + 1, _, _, h, q => by
    cases h with
    | cons h t => exact .cons h (KysAt.set t q)
theorem KysAt.drop {H : Hp} : ∀ {ks : List Ky} {ys : List V} (n : Nat), KysAt H ys ks → KysAt H (ys.drop n) (ks.drop n)
  | _, _, 0, h => h
  | [], _, n + 1, h => by cases h; exact .nil
  | k :: ks, _, n + 1, h => by
    cases h with
    | cons h t => exact KysAt.drop n t
/-- any key -/
def spAnyKey : Sp := fun vs H Q _ => ∃ n : Int, vs = [.int n] ∧ (0 ≤ n ∧ n < 2 ^ 60) ∧ ∀ H' v k, Same H H' → KyAt H' v k → KeyOk k → Q v H'
theorem len_anyKey {vs H Q E} (h : spAnyKey vs H Q E) : vs.length = 1 := by obtain ⟨_, rfl, _⟩ := h; rfl
def spKey3 : Sp := fun vs H Q _ => ∃ w b j : Int, vs = [.int w, .int b, .int j] ∧ ((0 ≤ b ∧ b < 2 ^ 42) ∧ 0 ≤ j ∧ j < 2 ^ 20) ∧ ∀ H' v k, Same H H' → KyAt H' v k → KeyOk k → Q v H'
theorem xor_range {s : Int} (h0 : 0 ≤ s) (h1 : s < 2147483647) : 0 ≤ Builtin.bitXor 11000033 s ∧ Builtin.bitXor 11000033 s < 2147483648 := by
  refine ⟨Bits.bitXor_nonneg (by decide) h0, ?_⟩
  rw [Bits.bitXor_pp (by decide) h0]
  have := Nat.xor_lt_two_pow (x := (11000033 : Int).toNat) (y := s.toNat) (n := 31) (by decide) (by omega)
  omega
theorem cut_Shi {l : List Nat} {m : Nat} (h : m ≤ l.length) : cutS (SX.S l) none (some (m : Int)) = SX.S (l.take m) := by
  rw [cut_S, HT.sIx_none, HT.sIx_nat, Nat.min_eq_left h, List.drop_zero, Nat.sub_zero]
theorem cut_Slo {l : List Nat} {m : Nat} (h : m ≤ l.length) : cutS (SX.S l) (some (m : Int)) none = SX.S (l.drop m) := by
  rw [cut_S, HT.sIx_none, HT.sIx_nat, Nat.min_eq_left h, List.take_of_length_le (by rw [List.length_drop]; omega)]
theorem len_key3 {vs H Q E} (h : spKey3 vs H Q E) : vs.length = 3 := by obtain ⟨_, _, _, rfl, _⟩ := h; rfl
end My
namespace My
open PySem PySem.Spec PyProof.Rows L2
/-! rows of keys and of None -/
def Ky.dat : Ky → Bool
  | .non => true
  | k => k.good
theorem Ky.dat_of {k : Ky} (h : k.good = true) : k.dat = true := by
  cases k <;> first | exact h | simp [Ky.good] at h
theorem Ky.dat_cases {k : Ky} (h : k.dat = true) : k = .non ∨ k.good = true := by
  cases k <;> first | exact .inr h | exact .inl rfl
def Ky.dats (ks : List Ky) : Prop := ∀ k ∈ ks, k.dat = true ∧ k.dep ≤ 60
theorem Ky.eqvD (x y : Ky) (hx : x.dat = true) (hy : y.dat = true) : PyData.eqv x.toD y.toD = Ky.beq x y := by
  rcases Ky.dat_cases hx with rfl | gx <;> rcases Ky.dat_cases hy with rfl | gy
  · simp [Ky.toD, PyData.eqv, Ky.beq]
  · cases y <;> simp [Ky.good] at gy <;> simp [Ky.toD, PyData.eqv, Ky.beq]
  · cases x <;> simp [Ky.good] at gx <;> simp [Ky.toD, PyData.eqv, Ky.beq]
  · exact Ky.eqv x y gx gy
theorem Ky.canLayD (k : Ky) (h : k.dat = true) : k.toD.canLay0 = true := by
  rcases Ky.dat_cases h with rfl | g
  · simp [Ky.toD, PyData.canLay0]
  · exact Ky.canLay k g
theorem Ky.beq_dec (k l : Ky) : Ky.beq k l = decide (k = l) := by
  cases h : Ky.beq k l with
  | true => exact (decide_eq_true ((Ky.beq_iff k l).mp h)).symm
  | false => exact (decide_eq_false fun c => by rw [(Ky.beq_iff k l).mpr c] at h; cases h).symm
theorem Ky.beqs_dec (k l : List Ky) : Ky.beqs k l = decide (k = l) := by
  cases h : Ky.beqs k l with
  | true => exact (decide_eq_true ((Ky.beqs_iff k l).mp h)).symm
  | false => exact (decide_eq_false fun c => by rw [(Ky.beqs_iff k l).mpr c] at h; cases h).symm
theorem Ky.dats_cons {k : Ky} {ks : List Ky} (h : Ky.dats (k :: ks)) : (k.dat = true ∧ k.dep ≤ 60) ∧ Ky.dats ks := ⟨h k List.mem_cons_self, fun y hy => h y (List.mem_cons_of_mem _ hy)⟩
theorem Ky.dats_append {ks ls : List Ky} (h : Ky.dats ks) (g : Ky.dats ls) : Ky.dats (ks ++ ls) := fun y hy => (List.mem_append.mp hy).elim (h y) (g y)
theorem Ky.dats_nil : Ky.dats [] := fun _ h => by cases h
theorem Ky.dats_one {k : Ky} (h : k.dat = true) (d : k.dep ≤ 60) : Ky.dats [k] := fun y hy => by
  rcases List.mem_cons.mp hy with rfl | hy
  · exact ⟨h, d⟩
  · cases hy
theorem Ky.eqvsD : ∀ xs ys : List Ky, Ky.dats xs → Ky.dats ys → PyData.eqvAll (Ky.toDs xs) (Ky.toDs ys) = Ky.beqs xs ys
  | [], [], _, _ => by simp [Ky.toDs, PyData.eqvAll, Ky.beqs]
  | x :: xs, y :: ys, h, g => by
    obtain ⟨h1, h2⟩ := Ky.dats_cons h
    obtain ⟨g1, g2⟩ := Ky.dats_cons g
    simp only [Ky.toDs, PyData.eqvAll, Ky.beqs]
    rw [Ky.eqvD x y h1.1 g1.1, Ky.eqvsD xs ys h2 g2]
  | [], _ :: _, _, _ => by simp [Ky.toDs, PyData.eqvAll, Ky.beqs]
  | _ :: _, [], _, _ => by simp [Ky.toDs, PyData.eqvAll, Ky.beqs]
theorem Ky.canLaysD : ∀ ks : List Ky, Ky.dats ks → PyData.canLayAll0 (Ky.toDs ks) = true
  | [], _ => by simp [Ky.toDs, PyData.canLayAll0]
  | k :: ks, h => by
    obtain ⟨h1, h2⟩ := Ky.dats_cons h
    simp only [Ky.toDs, PyData.canLayAll0, Ky.canLayD k h1.1, Ky.canLaysD ks h2, Bool.and_self]
theorem Ky.depsD : ∀ ks : List Ky, Ky.dats ks → PyData.depthAll (Ky.toDs ks) ≤ 60
  | [], _ => by simp [Ky.toDs, PyData.depthAll]
  | k :: ks, h => by
    obtain ⟨h1, h2⟩ := Ky.dats_cons h
    simp only [Ky.toDs, PyData.depthAll]
    rw [Ky.depth_toD]
    have := Ky.depsD ks h2
    omega
theorem Ky.shapedD {k : Ky} (h : k.dat = true) (d : k.dep ≤ 60) : SeqAt.shaped k.toD = true := by
  unfold SeqAt.shaped
  rw [Ky.canLayD k h, Ky.depth_toD, decide_eq_true (by omega)]
  rfl
theorem Ky.shapedL {ks : List Ky} (h : Ky.dats ks) : SeqAt.shaped (.list (Ky.toDs ks)) = true := by
  unfold SeqAt.shaped
  have := Ky.depsD ks h
  rw [PyData.canLay0, Ky.canLaysD ks h, PyData.depth, decide_eq_true (by omega)]
  rfl
section
variable {H H' : Hp} {K : PySem.W.Frag}
theorem KyAt.dpD (k : Ky) (v : V) (g : k.dat = true) (h : KyAt H v k) : Dp K H v k.toD := by
  rcases Ky.dat_cases g with rfl | g
  · cases h
    have e : Ky.toD .non = .none := by simp [Ky.toD]
    rw [e]
    exact .non
  · exact KyAt.dp k v g h
theorem KysAt.dpD : ∀ (ks : List Ky) (vs : List V), Ky.dats ks → KysAt H vs ks → DpAll K H vs (Ky.toDs ks)
  | [], _, _, h => by cases h; rw [Ky.toDs]; exact .nil
  | k :: ks, _, g, h => by
    obtain ⟨h1, h2⟩ := Ky.dats_cons g
    cases h with
    | cons h t => rw [Ky.toDs]; exact .cons (KyAt.dpD k _ h1.1 h) (KysAt.dpD ks _ h2 t)
theorem eq_rows {a b : Addr} {vs ws : List V} {ks ls : List Ky} {Q : VK} (ha : SqL K H a vs) (hk : KysAt H vs ks) (hb : SqL K H b ws) (hl : KysAt H ws ls) (dk : Ky.dats ks) (dl : Ky.dats ls) (q : Q (.bl (decide (ks = ls))) H) : rEqD K (.ref a) (.ref b) H Q := by
  refine ⟨.list (Ky.toDs ks), .list (Ky.toDs ls), .lst ha (KysAt.dpD ks _ dk hk), .lst hb (KysAt.dpD ls _ dl hl), Ky.shapedL dk, Ky.shapedL dl, ?_⟩
  rw [PyData.eqv, Ky.eqvsD _ _ dk dl, Ky.beqs_dec]
  exact q
theorem ne_rows {a b : Addr} {vs ws : List V} {ks ls : List Ky} {Q : VK} (ha : SqL K H a vs) (hk : KysAt H vs ks) (hb : SqL K H b ws) (hl : KysAt H ws ls) (dk : Ky.dats ks) (dl : Ky.dats ls) (q : Q (.bl (!decide (ks = ls))) H) : rNeD K (.ref a) (.ref b) H Q := by
  refine ⟨.list (Ky.toDs ks), .list (Ky.toDs ls), .lst ha (KysAt.dpD ks _ dk hk), .lst hb (KysAt.dpD ls _ dl hl), Ky.shapedL dk, Ky.shapedL dl, ?_⟩
  rw [PyData.eqv, Ky.eqvsD _ _ dk dl, Ky.beqs_dec]
  exact q
theorem any_dec (k : Ky) (hk : k.dat = true) : ∀ ks : List Ky, Ky.dats ks → ((Ky.toDs ks).any fun z => PyData.eqv z k.toD) = decide (k ∈ ks)
  | [], _ => by simp [Ky.toDs]
  | x :: xs, h => by
    obtain ⟨h1, h2⟩ := Ky.dats_cons h
    rw [Ky.toDs, List.any_cons, any_dec k hk xs h2, Ky.eqvD x k h1.1 hk, Ky.beq_dec]
    by_cases e : x = k
    · subst e
      simp
    · have e' : ¬ k = x := fun c => e c.symm
      simp [e, e']
theorem in_row {v : V} {a : Addr} {vs : List V} {k : Ky} {ks : List Ky} {Q : VK} (hv : KyAt H v k) (ha : SqL K H a vs) (hks : KysAt H vs ks) (gk : k.dat = true) (dk : k.dep ≤ 60) (d : Ky.dats ks) (q : Q (.bl (decide (k ∈ ks))) H) : rInD K v (.ref a) H Q := by
  refine ⟨k.toD, Ky.toDs ks, KyAt.dpD k v gk hv, .lst ha (KysAt.dpD ks _ d hks), Ky.shapedD gk dk, Ky.shapedL d, ?_⟩
  rw [any_dec k gk ks d]
  exact q
/-- rows stay where a list is changed -/
theorem KyAt.butD {D : Addr} {xs0 : List V} (s : ∀ b o, b ≠ D → H b = some o → H' b = some o) (e : H D = some (.lst xs0)) {k : Ky} {v : V} (g : k.dat = true) (h : KyAt H v k) : KyAt H' v k := by
  rcases Ky.dat_cases g with rfl | g
  · cases h
    exact .non
  · exact KyAt.but s e k v g h
theorem KysAt.butD {D : Addr} {xs0 : List V} (s : ∀ b o, b ≠ D → H b = some o → H' b = some o) (e : H D = some (.lst xs0)) : ∀ {ks : List Ky} {vs : List V}, Ky.dats ks → KysAt H vs ks → KysAt H' vs ks
  | [], _, _, h => by cases h; exact .nil
  | k :: ks, _, g, h => by
    obtain ⟨h1, h2⟩ := Ky.dats_cons g
    cases h with
    | cons h t => exact .cons (KyAt.butD s e h1.1 h) (KysAt.butD s e h2 t)
theorem KyAt.ne_non {v : V} {k : Ky} (h : KyAt H v k) : (v = .non) ↔ (k = .non) := by
  cases h <;> simp
end
theorem units65 {A : Around} {k : Nat} (r : Room k A) : A.units + 65 < cLine := by have := r.un; omega
theorem rd_never {D : Ends} {σ : L2.St} {H : Hp} : tNever D σ H = False := rfl
theorem rd_dget {td ty : TE} {σ : L2.St} {H : Hp} {Q : VK} : tDGet td ty σ H Q = td σ H fun x H1 => ty σ H1 fun y H2 => isRef x fun a => ∃ v, DGet H2 a y (some v) ∧ Q v H2 := by
  unfold tDGet
  apply congrArg
  funext x H1
  apply congrArg
  funext y H2
  rw [← isRef_eq]
  apply propext
  constructor
  · rintro ⟨a, v, e, h⟩; exact ⟨a, e, v, h⟩
  · rintro ⟨a, e, v, h⟩; exact ⟨a, v, e, h⟩
theorem rd_din {td ty : TE} {σ : L2.St} {H : Hp} {Q : VK} : tDIn ty td σ H Q = ty σ H fun y H1 => td σ H1 fun x H2 => isRef x fun a => ∃ o, DGet H2 a y o ∧ Q (.bl o.isSome) H2 := by
  unfold tDIn
  apply congrArg
  funext y H1
  apply congrArg
  funext x H2
  rw [← isRef_eq]
  apply propext
  constructor
  · rintro ⟨a, v, e, h⟩; exact ⟨a, e, v, h⟩
  · rintro ⟨a, e, v, h⟩; exact ⟨a, v, e, h⟩
theorem rd_dnotin {td ty : TE} {σ : L2.St} {H : Hp} {Q : VK} : tDNotIn ty td σ H Q = ty σ H fun y H1 => td σ H1 fun x H2 => isRef x fun a => ∃ o, DGet H2 a y o ∧ Q (.bl (!o.isSome)) H2 := by
  unfold tDNotIn
  apply congrArg
  funext y H1
  apply congrArg
  funext x H2
  rw [← isRef_eq]
  apply propext
  constructor
  · rintro ⟨a, v, e, h⟩; exact ⟨a, e, v, h⟩
  · rintro ⟨a, e, v, h⟩; exact ⟨a, v, e, h⟩
theorem rd_dput {td ty tv : TE} {D : Ends} {σ : L2.St} {H : Hp} : sDPut td ty tv D σ H = tv σ H fun v H1 => td σ H1 fun x H2 => ty σ H2 fun y H3 => isRef x fun a => ∃ H4, DPut H3 a y v H4 ∧ D.nx σ H4 := by
  unfold sDPut
  apply congrArg
  funext v H1
  apply congrArg
  funext x H2
  apply congrArg
  funext y H3
  rw [← isRef_eq]
  apply propext
  constructor
  · rintro ⟨a, v, e, h⟩; exact ⟨a, e, v, h⟩
  · rintro ⟨a, e, v, h⟩; exact ⟨a, v, e, h⟩
def isR0 (vs : List V) (f : Addr → Prop) : Prop := match vs with | [.ref a] => f a | _ => False
theorem rd_isR0 {a : Addr} {f : Addr → Prop} : isR0 [.ref a] f = f a := rfl
theorem rd_enum {K : PySem.W.Frag} {tr : TA} {σ : L2.St} {H : Hp} {R : It → Hp → Prop} : iEnum K tr σ H R = tr σ H fun vs H1 => isR0 vs fun a => (∃ xs, SqL K H1 a xs) ∧ R (Ite K a) H1 := by
  unfold iEnum
  apply congrArg
  funext vs H1
  apply propext
  constructor
  · rintro ⟨a, xs, rfl, h, r⟩; exact ⟨⟨xs, h⟩, r⟩
  · intro h
    unfold isR0 at h
    split at h
    · obtain ⟨⟨xs, h⟩, r⟩ := h
      exact ⟨_, xs, rfl, h, r⟩
    · exact h.elim
/-- enumerate: the pair is new, then taken apart -/
theorem go_enum {K : PySem.W.Frag} {D : Ends} {σ : L2.St} {H : Hp} {a : Addr} {xs : List V} {g : TG} {tb : TS} (Pv : Nat → L2.St → Hp → Prop) (h0 : Pv 0 σ H) (hl : ∀ i σ H, i ≤ xs.length → Pv i σ H → SqL K H a xs)
    (hs : ∀ (N : L2.St → Hp → Prop) (i : Nat) x σ H T, xs[i]? = some x → Pv i σ H → Fresh H T → (∀ σ' H', Pv (i + 1) σ' H' → N σ' H') → g (.ref T) σ (upd H T (.tup [.int i, x])) fun σ2 H2 => tb { D with nx := N, ct := N, bk := D.nx } σ2 H2) (hd : ∀ σ H, Pv xs.length σ H → D.nx σ H) : forGo (Ite K a) g tb D σ H := by
  refine go_it (walk_enum (xs := xs)) Pv h0 hl ?_ hd
  rintro N i x σ H H' hi p ⟨T, x1, y1, rfl, hT, rfl, e1, e2⟩ hN
  cases e1
  exact hs N i y1 σ H T e2 p hT hN
theorem rd_aug {i : Nat} {te : TE} {ti : TIp} {D : Ends} {σ : L2.St} {H : Hp} : tAug i te ti D σ H = (match σ[i]? with | some (some x) => te σ H fun y H1 => ti x y H1 fun z H2 => D.nx (σ.set i (some z)) H2 | _ => False) := by
  unfold tAug
  apply propext
  constructor
  · rintro ⟨v, e, q⟩
    rw [e]; exact q
  · intro h
    split at h
    · rename_i v e
      exact ⟨v, e, h⟩
    · exact h.elim
theorem rd_ipI {f : Int → Int → Int} {i j : Int} {H : Hp} {Q : VK} : ipI f (.int i) (.int j) H Q = Q (.int (f i j)) H := by
  unfold ipI
  apply propext
  constructor
  · rintro ⟨a, b, e1, e2, q⟩
    cases e1; cases e2; exact q
  · intro q
    exact ⟨i, j, rfl, rfl, q⟩
def sizeB (n : Int) : Bool := decide (8 ≤ n ∧ n ≤ 4096) && decide (Builtin.bitAnd n (n - 1) = 0)
theorem sizeB_pow {j : Nat} (h0 : 3 ≤ j) (h1 : j ≤ 12) : sizeB (2 ^ j) = true := by
  have h : (List.range 13).all (fun j => decide (j < 3) || sizeB (2 ^ j)) = true := by decide +kernel
  have := (List.all_eq_true.mp h) j (List.mem_range.mpr (by omega))
  rw [decide_eq_false (by omega), Bool.false_or] at this
  exact this
theorem at_any {xs : List V} {c : Int} (h0 : 0 ≤ c) (h1 : c < xs.length) : ∃ v, xs[c.toNat]? = some v ∧ atI xs c = some v := by
  have hlt : c.toNat < xs.length := by omega
  refine ⟨xs[c.toNat], List.getElem?_eq_getElem hlt, ?_⟩
  obtain ⟨j, rfl⟩ : ∃ j : Nat, c = (j : Int) := ⟨c.toNat, by omega⟩
  exact atI_nat (List.getElem?_eq_getElem hlt)
theorem get_int {cs : List Int} {s : Int} (h0 : 0 ≤ s) (h1 : s < cs.length) : (cs.map V.int)[s.toNat]? = some (.int (getI cs s)) := by
  rw [List.getElem?_map, List.getElem?_eq_getElem (by omega)]
  unfold getI
  rw [List.getD_eq_getElem?_getD, List.getElem?_eq_getElem (by omega)]
  rfl
end My
namespace My
open PySem PySem.Spec PyProof.Rows L2
/-! laying a row of keys into slots -/
theorem inv_of {s : Int} (h : s % 2 = 1) {j : Nat} (hj : j ≤ 12) : ∃ b, Inv2 s b j := ⟨_, inv2_mono (inv2_step (inv2_step (inv2_start h))) (by omega)⟩
theorem stride_odd (m : Int) : strideF m % 2 = 1 := by rw [strideF_eq]; omega
theorem reach (m : Int) {d : Int} {j : Nat} (hj : j ≤ 12) (h0 : 0 ≤ d) (h1 : d < 2 ^ j) : ∃ c : Nat, (c : Int) < 2 ^ j ∧ probeF m (2 ^ j) c = d := by
  obtain ⟨b, hb⟩ := inv_of (stride_odd m) hj
  have z : (0 : Int) < 2 ^ j := (pow_le hj).1
  have n0 := Int.emod_nonneg ((d - m) * b) (Int.ne_of_gt z)
  have n1 := Int.emod_lt_of_pos ((d - m) * b) z
  refine ⟨((d - m) * b % 2 ^ j).toNat, by omega, ?_⟩
  rw [probeF_eq, Int.toNat_of_nonneg n0]
  exact (slot_of h0 h1 (inv2_end hb z)).symm
theorem probe_range (m c : Int) {j : Nat} (hj : j ≤ 12) : 0 ≤ probeF m (2 ^ j) c ∧ probeF m (2 ^ j) c < 2 ^ j := by
  have z : (0 : Int) < 2 ^ j := (pow_le hj).1
  rw [probeF_eq]
  exact ⟨Int.emod_nonneg _ (Int.ne_of_gt z), Int.emod_lt_of_pos _ z⟩
theorem probe_next (m : Int) (c j : Nat) : (probeF m (2 ^ j) (c : Int) + strideF m) % 2 ^ j = probeF m (2 ^ j) ((c + 1 : Nat) : Int) := by
  rw [probeF_eq, probeF_eq, Int.emod_add_emod]
  congr 1
  rw [Int.natCast_add, Int.add_mul, Int.add_assoc]
  simp
theorem probe_zero (m : Int) (j : Nat) : m % 2 ^ j = probeF m (2 ^ j) ((0 : Nat) : Int) := by
  rw [probeF_eq]
  simp
def Bare (cs : List Int) (j : Nat) (m : Int) (n : Nat) : Prop := n < 2 ^ j ∧ getI cs (probeF m (2 ^ j) n) = -1 ∧ ∀ i : Nat, i < n → getI cs (probeF m (2 ^ j) i) ≠ -1
def bareN (cs : List Int) (j : Nat) (m : Int) : Nat := ((List.range (2 ^ j)).find? fun c : Nat => decide (getI cs (probeF m (2 ^ j) (c : Int)) = -1)).getD 0
theorem getI_mem {cs : List Int} {x : Int} (h : x ∈ cs) : ∃ s : Nat, s < cs.length ∧ getI cs s = x := by
  obtain ⟨s, hs, e⟩ := List.mem_iff_getElem.mp h
  refine ⟨s, hs, ?_⟩
  unfold getI
  rw [Int.toNat_natCast, List.getD_eq_getElem?_getD, List.getElem?_eq_getElem hs]
  exact e
theorem pow_cast (j : Nat) : ((2 ^ j : Nat) : Int) = (2 : Int) ^ j := by norm_cast
theorem bare_ex {cs : List Int} {j : Nat} (m : Int) (hj : j ≤ 12) (e : cs.length = 2 ^ j) (h : (-1) ∈ cs) : Bare cs j m (bareN cs j m) := by
  obtain ⟨s, hs, es⟩ := getI_mem h
  obtain ⟨c, hc, ec⟩ := reach m (d := s) hj (by omega) (by have := pow_cast j; omega)
  have hc' : c < 2 ^ j := by have := pow_cast j; omega
  cases q : (List.range (2 ^ j)).find? fun c : Nat => decide (getI cs (probeF m (2 ^ j) (c : Int)) = -1) with
  | none =>
    rw [List.find?_eq_none] at q
    have := q c (List.mem_range.mpr hc')
    rw [ec, es] at this
    exact (this (by decide)).elim
  | some n =>
    have en : bareN cs j m = n := by unfold bareN; rw [q]; rfl
    rw [en]
    rw [List.find?_range_eq_some] at q
    obtain ⟨q1, q2, q3⟩ := q
    refine ⟨List.mem_range.mp q2, of_decide_eq_true q1, fun i hi => ?_⟩
    have := q3 i hi
    simpa using this
theorem Bare.uniq {cs : List Int} {j : Nat} {m : Int} {a b : Nat} (p : Bare cs j m a) (q : Bare cs j m b) : a = b := by
  rcases Nat.lt_trichotomy a b with h | h | h
  · exact absurd p.2.1 (q.2.2 a h)
  · exact h
  · exact absurd q.2.1 (p.2.2 b h)
theorem getI_set {cs : List Int} {a b v : Int} (h0 : 0 ≤ a) (h1 : a < cs.length) (hb : 0 ≤ b) : getI (cs.set a.toNat v) b = if b = a then v else getI cs b := by
  unfold getI
  rw [List.getD_eq_getElem?_getD, List.getElem?_set]
  by_cases e : b = a
  · subst e
    rw [if_pos rfl, if_pos (by omega), if_pos rfl]
    rfl
  · rw [if_neg (by omega), if_neg e, List.getD_eq_getElem?_getD]
def layS (cs : List Int) (j i : Nat) (k : Ky) : List Int := if k = .non then cs else cs.set (probeF k.stamp (2 ^ j) (bareN cs j k.stamp)).toNat i
def layN (j : Nat) (ks : List Ky) : Nat → List Int
  | 0 => List.replicate (2 ^ j) (-1)
  | i + 1 => match ks[i]? with
    | some k => layS (layN j ks i) j i k
    | none => layN j ks i
structure Laid (ks : List Ky) (j i : Nat) (cs : List Int) : Prop where
  len : cs.length = 2 ^ j
  cnt : 2 ^ j ≤ cs.count (-1) + i
  cell : ∀ s : Int, 0 ≤ s → s < 2 ^ j → getI cs s = -1 ∨ (0 ≤ getI cs s ∧ getI cs s < i ∧ ∃ k, ks[(getI cs s).toNat]? = some k ∧ k ≠ .non)
  inj : ∀ s t : Int, 0 ≤ s → s < 2 ^ j → 0 ≤ t → t < 2 ^ j → getI cs s = getI cs t → getI cs s ≠ -1 → s = t
  ahead : ∀ (p : Nat) k, p < i → ks[p]? = some k → k ≠ .non → ∃ n : Nat, n < 2 ^ j ∧ getI cs (probeF k.stamp (2 ^ j) n) = p ∧ ∀ t : Nat, t < n → 0 ≤ getI cs (probeF k.stamp (2 ^ j) t) ∧ getI cs (probeF k.stamp (2 ^ j) t) < p
theorem Laid.mem {ks : List Ky} {j i : Nat} {cs : List Int} (h : Laid ks j i cs) (hi : i < 2 ^ j) : (-1) ∈ cs := by
  have := h.cnt
  exact List.count_pos_iff.mp (by omega)
theorem laid_zero (ks : List Ky) (j : Nat) : Laid ks j 0 (layN j ks 0) := by
  have e : ∀ s : Int, 0 ≤ s → s < 2 ^ j → getI (List.replicate (2 ^ j) (-1 : Int)) s = -1 := by
    intro s h0 h1
    have := pow_cast j
    unfold getI
    rw [List.getD_eq_getElem?_getD, List.getElem?_replicate, if_pos (by omega)]
    rfl
  refine ⟨List.length_replicate, ?_, fun s h0 h1 => .inl (e s h0 h1), fun s t h0 h1 _ _ _ hn => absurd (e s h0 h1) hn, fun p k hp => by omega⟩
  show 2 ^ j ≤ (List.replicate (2 ^ j) (-1 : Int)).count (-1) + 0
  rw [List.count_replicate_self]
  omega
theorem laid_step {ks : List Ky} {j i : Nat} {cs : List Int} {k : Ky} (hj : j ≤ 12) (hi : i < 2 ^ j) (h : Laid ks j i cs) (hk : ks[i]? = some k) : Laid ks j (i + 1) (layS cs j i k) := by
  unfold layS
  by_cases hn : k = .non
  · rw [if_pos hn]
    refine ⟨h.len, by have := h.cnt; omega, fun s h0 h1 => ?_, h.inj, fun p k' hp e hk' => ?_⟩
    · rcases h.cell s h0 h1 with q | ⟨q1, q2, q3⟩
      · exact .inl q
      · exact .inr ⟨q1, by omega, q3⟩
    · rcases Nat.lt_or_ge p i with hp' | hp'
      · exact h.ahead p k' hp' e hk'
      · have : p = i := by omega
        subst this
        rw [hk] at e
        cases e
        exact absurd hn hk'
  · rw [if_neg hn]
    obtain ⟨b1, b2, b3⟩ := bare_ex k.stamp hj h.len (h.mem hi)
    generalize bareN cs j k.stamp = n at b1 b2 b3 ⊢
    obtain ⟨r0, r1⟩ := probe_range k.stamp n hj
    have hl := h.len
    have pc := pow_cast j
    have gs : ∀ t : Int, 0 ≤ t → getI (cs.set (probeF k.stamp (2 ^ j) n).toNat i) t = if t = probeF k.stamp (2 ^ j) n then (i : Int) else getI cs t := fun t ht => getI_set r0 (by omega) ht
    have lt : (probeF k.stamp (2 ^ j) n).toNat < cs.length := by omega
    refine ⟨by rw [List.length_set]; exact hl, ?_, fun s h0 h1 => ?_, fun s t h0 h1 t0 t1 e ne => ?_, fun p k' hp e hk' => ?_⟩
    · have c := h.cnt
      rw [List.count_set lt]
      split <;> split <;> omega
    · rw [gs s h0]
      split
      · exact .inr ⟨by omega, by omega, k, by rw [Int.toNat_natCast]; exact hk, hn⟩
      · rcases h.cell s h0 h1 with q | ⟨q1, q2, q3⟩
        · exact .inl q
        · exact .inr ⟨q1, by omega, q3⟩
    · rw [gs s h0, gs t t0] at e
      rw [gs s h0] at ne
      split at e <;> split at e
      · omega
      · rcases h.cell t t0 t1 with q | ⟨q1, q2, q3⟩ <;> omega
      · rcases h.cell s h0 h1 with q | ⟨q1, q2, q3⟩ <;> omega
      · rename_i c1 c2
        rw [if_neg c1] at ne
        exact h.inj s t h0 h1 t0 t1 e ne
    · have keep : ∀ c : Nat, getI cs (probeF k'.stamp (2 ^ j) c) ≠ -1 → getI (cs.set (probeF k.stamp (2 ^ j) n).toNat i) (probeF k'.stamp (2 ^ j) c) = getI cs (probeF k'.stamp (2 ^ j) c) := by
        intro c hc
        rw [gs _ (probe_range _ _ hj).1, if_neg]
        intro e2
        rw [e2] at hc
        exact hc b2
      rcases Nat.lt_or_ge p i with hp' | hp'
      · obtain ⟨m, a1, a2, a3⟩ := h.ahead p k' hp' e hk'
        refine ⟨m, a1, by rw [keep m (by omega)]; exact a2, fun t ht => ?_⟩
        have := a3 t ht
        rw [keep t (by omega)]
        exact this
      · have ep : p = i := by omega
        subst ep
        rw [hk] at e
        cases e
        refine ⟨n, b1, by rw [gs _ r0, if_pos rfl], fun t ht => ?_⟩
        rw [keep t (b3 t ht)]
        rcases h.cell _ (probe_range k.stamp t hj).1 (probe_range k.stamp t hj).2 with q | ⟨q1, q2, q3⟩
        · exact absurd q (b3 t ht)
        · exact ⟨q1, q2⟩
theorem laid_at {ks : List Ky} {j : Nat} (hj : j ≤ 12) (hz : ks.length < 2 ^ j) : ∀ i : Nat, i ≤ ks.length → Laid ks j i (layN j ks i)
  | 0, _ => laid_zero ks j
  | i + 1, hi => by
    have e : ks[i]? = some ks[i] := List.getElem?_eq_getElem (by omega)
    have h := laid_step hj (by omega) (laid_at hj hz i (by omega)) e
    have e2 : layN j ks (i + 1) = layS (layN j ks i) j i ks[i] := by
      rw [layN]
      simp only [e]
    rw [e2]
    exact h
theorem layN_step {ks : List Ky} {j i : Nat} {k : Ky} (h : ks[i]? = some k) : layN j ks (i + 1) = layS (layN j ks i) j i k := by
  rw [layN]
  simp only [h]
/-- the first bare slot -/
def spBare (K : PySem.W.Frag) : Sp := fun vs H Q _ => ∃ (a : Addr) (v : V) (cs : List Int) (k : Ky) (j : Nat), vs = [.ref a, v] ∧ SqL K H a (cs.map V.int) ∧ KyAt H v k ∧ (k.good = true ∧ k.dep ≤ 3) ∧ (cs.length = 2 ^ j ∧ j ≤ 12 ∧ (-1) ∈ cs) ∧ Q (.int (probeF k.stamp (2 ^ j) (bareN cs j k.stamp))) H
theorem rd_spBare {K : PySem.W.Frag} {a : Addr} {v : V} {H : Hp} {Q : VK} {E : XK} : spBare K [.ref a, v] H Q E = ∃ (cs : List Int) (k : Ky) (j : Nat), SqL K H a (cs.map V.int) ∧ KyAt H v k ∧ (k.good = true ∧ k.dep ≤ 3) ∧ (cs.length = 2 ^ j ∧ j ≤ 12 ∧ (-1) ∈ cs) ∧ Q (.int (probeF k.stamp (2 ^ j) (bareN cs j k.stamp))) H := by
  unfold spBare
  apply propext
  constructor
  · rintro ⟨a', v', cs, k, j, e, q⟩; cases e; exact ⟨cs, k, j, q⟩
  · rintro ⟨cs, k, j, q⟩; exact ⟨a, v, cs, k, j, rfl, q⟩
theorem len_bare {K : PySem.W.Frag} {vs H Q E} (h : spBare K vs H Q E) : vs.length = 2 := by obtain ⟨_, _, _, _, _, rfl, _⟩ := h; rfl
def spStream (K : PySem.W.Frag) : Sp := fun vs H Q _ => ∃ (a : Addr) (ns : List Int) (m : Int), vs = [.ref a, .int m] ∧ SqL K H a (ns.map V.int) ∧ (ns.length ≤ 100 ∧ 0 ≤ m ∧ m ≤ 10000) ∧ ∀ (p : Addr) (H' : Hp) (xs : List Int), Same H H' → Fresh H p → H' p = some (.lst (xs.map V.int)) → xs.length = m.toNat → (∀ x ∈ xs, 0 ≤ x ∧ x < 2 ^ 44) → Q (.ref p) H'
theorem len_stream {K : PySem.W.Frag} {vs H Q E} (h : spStream K vs H Q E) : vs.length = 2 := by obtain ⟨_, _, _, rfl, _⟩ := h; rfl
/-- keys, or none -/
def RowOk (ks : List Ky) : Prop := ∀ k ∈ ks, k = .non ∨ KeyOk k
theorem RowOk.dats {ks : List Ky} (h : RowOk ks) : Ky.dats ks := fun k hk => by
  rcases h k hk with rfl | h
  · exact ⟨rfl, by simp [Ky.dep]⟩
  · exact ⟨Ky.dat_of h.g, by have := h.d; omega⟩
theorem RowOk.get {ks : List Ky} {i : Nat} {k : Ky} (h : RowOk ks) (e : ks[i]? = some k) : k = .non ∨ KeyOk k := h k (List.mem_of_getElem? e)
def spCellsOf (K : PySem.W.Frag) : Sp := fun vs H Q _ => ∃ (a : Addr) (ws : List V) (ks : List Ky) (j : Nat), vs = [.ref a, .int (2 ^ j)] ∧ SqL K H a ws ∧ KysAt H ws ks ∧ RowOk ks ∧ (3 ≤ j ∧ j ≤ 12 ∧ (ks.length : Int) ≤ 2 * 2 ^ j / 3) ∧
  ∀ p H', Same H H' → Fresh H p → H' p = some (.lst ((layN j ks ks.length).map V.int)) → Q (.ref p) H'
theorem len_cellsOf {K : PySem.W.Frag} {vs H Q E} (h : spCellsOf K vs H Q E) : vs.length = 2 := by obtain ⟨_, _, _, _, rfl, _⟩ := h; rfl
def spAhead (K : PySem.W.Frag) : Sp := fun vs H Q _ => ∃ (a : Addr) (v : V) (p s : Int) (cs : List Int) (k : Ky) (j : Nat), vs = [.ref a, v, .int p, .int s] ∧ SqL K H a (cs.map V.int) ∧ KyAt H v k ∧ (k.good = true ∧ k.dep ≤ 3) ∧ (cs.length = 2 ^ j ∧ j ≤ 12) ∧
  (∃ n : Nat, n < 2 ^ j ∧ probeF k.stamp (2 ^ j) n = s ∧ ∀ t : Nat, t < n → 0 ≤ getI cs (probeF k.stamp (2 ^ j) t) ∧ getI cs (probeF k.stamp (2 ^ j) t) < p) ∧ Q (.bl true) H
theorem len_ahead {K : PySem.W.Frag} {vs H Q E} (h : spAhead K vs H Q E) : vs.length = 4 := by obtain ⟨_, _, _, _, _, _, _, rfl, _⟩ := h; rfl
def spLaid (K : PySem.W.Frag) : Sp := fun vs H Q _ => ∃ (a r : Addr) (cs : List Int) (ws : List V) (ks : List Ky) (j : Nat), vs = [.ref a, .ref r, .int (2 ^ j)] ∧ H a = some (.lst (cs.map V.int)) ∧ SqL K H r ws ∧ KysAt H ws ks ∧ RowOk ks ∧ (3 ≤ j ∧ j ≤ 12) ∧ Laid ks j ks.length cs ∧ ∀ H', Same H H' → Q (.bl true) H'
theorem len_laid {K : PySem.W.Frag} {vs H Q E} (h : spLaid K vs H Q E) : vs.length = 3 := by obtain ⟨_, _, _, _, _, _, rfl, _⟩ := h; rfl
/-- the places' slots -/
def Sl (kvs : List (Key × V)) (cs : List Int) (i : Nat) : Prop := (∀ s : Nat, s < i → getI cs s ≠ -1 → valV kvs (.inl (getI cs s)) = some (.int s)) ∧ ∀ (v : Int) x, valV kvs (.inl v) = some x → ∃ s : Nat, s < i ∧ getI cs s = v ∧ v ≠ -1
theorem Sl.nil (cs : List Int) : Sl [] cs 0 := ⟨fun s h => by omega, fun v x h => by cases h⟩
theorem Sl.skip {kvs : List (Key × V)} {cs : List Int} {i : Nat} (h : Sl kvs cs i) (e : ¬ ¬ getI cs (i : Int) = -1) : Sl kvs cs (i + 1) := by
  refine ⟨fun s hs ne => ?_, fun v x hv => ?_⟩
  · rcases Nat.lt_or_ge s i with q | q
    · exact h.1 s q ne
    · have : s = i := by omega
      subst this
      exact absurd ne e
  · obtain ⟨s, a, b⟩ := h.2 v x hv
    exact ⟨s, by omega, b⟩
theorem Sl.put {kvs : List (Key × V)} {cs : List Int} {i : Nat} {c : Int} (h : Sl kvs cs i) (e : getI cs (i : Int) = c) (ne : c ≠ -1) (nw : valV kvs (.inl c : Key) = none) : Sl (putK kvs (.inl c) (.int i)) cs (i + 1) := by
  refine ⟨fun s hs n2 => ?_, fun v x hv => ?_⟩
  · rw [valV_put]
    rcases Nat.lt_or_ge s i with q | q
    · have := h.1 s q n2
      rw [if_neg, this]
      intro c2
      rw [c2] at this
      rw [this] at nw
      cases nw
    · have : s = i := by omega
      subst this
      rw [e, if_pos rfl]
  · rw [valV_put] at hv
    split at hv
    · rename_i c2
      cases c2
      exact ⟨i, by omega, e, ne⟩
    · obtain ⟨s, a, b⟩ := h.2 v x hv
      exact ⟨s, by omega, b⟩
theorem Sl.new {ks : List Ky} {j i : Nat} {kvs : List (Key × V)} {cs : List Int} {c : Int} (L : Laid ks j ks.length cs) (h : Sl kvs cs i) (hi : i < 2 ^ j) (e : getI cs (i : Int) = c) (ne : c ≠ -1) : valV kvs (.inl c : Key) = none := by
  cases q : valV kvs (.inl c : Key) with
  | none => rfl
  | some x =>
    obtain ⟨s, h1, h2, _⟩ := h.2 c x q
    have pc := pow_cast j
    have := L.inj s i (by omega) (by omega) (by omega) (by omega) (by rw [h2, e]) (by rw [h2]; exact ne)
    omega
end My
namespace My
open PySem PySem.Spec PyProof.Rows L2
/-! papers -/
section
variable {H H' : Hp} {K : PySem.W.Frag}
theorem eq_any {v w : V} {k l : Ky} {Q : VK} (hv : KyAt H v k) (hw : KyAt H w l) (gk : k.dat = true) (gl : l.dat = true) (dk : k.dep ≤ 60) (dl : l.dep ≤ 60) (q : Q (.bl (decide (k = l))) H) : rEqD K v w H Q := by
  refine ⟨k.toD, l.toD, KyAt.dpD k v gk hv, KyAt.dpD l w gl hw, Ky.shapedD gk dk, Ky.shapedD gl dl, ?_⟩
  rw [Ky.eqvD _ _ gk gl, Ky.beq_dec]
  exact q
theorem ne_any {v w : V} {k l : Ky} {Q : VK} (hv : KyAt H v k) (hw : KyAt H w l) (gk : k.dat = true) (gl : l.dat = true) (dk : k.dep ≤ 60) (dl : l.dep ≤ 60) (q : Q (.bl (!decide (k = l))) H) : rNeD K v w H Q := by
  refine ⟨k.toD, l.toD, KyAt.dpD k v gk hv, KyAt.dpD l w gl hw, Ky.shapedD gk dk, Ky.shapedD gl dl, ?_⟩
  rw [Ky.eqvD _ _ gk gl, Ky.beq_dec]
  exact q
end
theorem RowOk.one {k : Ky} (h : k = .non ∨ KeyOk k) : k.dat = true ∧ k.dep ≤ 60 := by
  rcases h with rfl | h
  · exact ⟨rfl, by simp [Ky.dep]⟩
  · exact ⟨Ky.dat_of h.g, by have := h.d; omega⟩
def CellsOk (cs : List Int) (n : Nat) : Prop := ∀ s : Int, 0 ≤ s → s < cs.length → getI cs s = -1 ∨ getI cs s = -2 ∨ (0 ≤ getI cs s ∧ getI cs s < n)
def stopB (cs : List Int) (ks : List Ky) (j : Nat) (k : Ky) (n : Nat) : Bool := decide (getI cs (probeF k.stamp (2 ^ j) n) = -1) || (decide (getI cs (probeF k.stamp (2 ^ j) n) ≠ -2) && decide (ks[(getI cs (probeF k.stamp (2 ^ j) n)).toNat]? = some k))
def paperN (cs : List Int) (ks : List Ky) (j : Nat) (k : Ky) : Nat := match (List.range (2 ^ j)).find? (stopB cs ks j k) with
  | some n => n + 1
  | none => 2 ^ j
def pairK (a b : Int) : Ky := .tup [.num a, .num b]
def pairAt (cs : List Int) (j : Nat) (k : Ky) (n : Nat) : Ky := pairK (probeF k.stamp (2 ^ j) n) (getI cs (probeF k.stamp (2 ^ j) n))
def paperK (cs : List Int) (ks : List Ky) (j : Nat) (k : Ky) : List Ky := (List.range (paperN cs ks j k)).map (pairAt cs j k)
theorem paperN_stop {cs : List Int} {ks : List Ky} {j i : Nat} {k : Ky} (hi : i < 2 ^ j) (h : stopB cs ks j k i = true) (b : ∀ t : Nat, t < i → stopB cs ks j k t = false) : paperN cs ks j k = i + 1 := by
  have e : (List.range (2 ^ j)).find? (stopB cs ks j k) = some i := by
    rw [List.find?_range_eq_some]
    exact ⟨h, List.mem_range.mpr hi, fun t ht => by rw [b t ht]; rfl⟩
  unfold paperN
  rw [e]
theorem paperN_none {cs : List Int} {ks : List Ky} {j : Nat} {k : Ky} (b : ∀ t : Nat, t < 2 ^ j → stopB cs ks j k t = false) : paperN cs ks j k = 2 ^ j := by
  have e : (List.range (2 ^ j)).find? (stopB cs ks j k) = none := by
    rw [List.find?_eq_none]
    intro t ht
    rw [b t (List.mem_range.mp ht)]
    decide
  unfold paperN
  rw [e]
theorem paperN_range (cs : List Int) (ks : List Ky) (j : Nat) (k : Ky) : 0 < paperN cs ks j k ∧ paperN cs ks j k ≤ 2 ^ j ∧ (∀ t : Nat, t + 1 < paperN cs ks j k → stopB cs ks j k t = false) ∧ (paperN cs ks j k < 2 ^ j → stopB cs ks j k (paperN cs ks j k - 1) = true) ∧
    ((∃ t : Nat, t < 2 ^ j ∧ stopB cs ks j k t = true) → stopB cs ks j k (paperN cs ks j k - 1) = true) := by
  have z : 0 < 2 ^ j := Nat.pow_pos (by decide)
  cases q : (List.range (2 ^ j)).find? (stopB cs ks j k) with
  | none =>
    have q' := q
    rw [List.find?_eq_none] at q
    have b : ∀ t : Nat, t < 2 ^ j → stopB cs ks j k t = false := fun t ht => by simpa using q t (List.mem_range.mpr ht)
    have e := paperN_none b
    rw [e]
    refine ⟨z, Nat.le_refl _, fun t ht => b t (by omega), fun h => by omega, fun ⟨t, h1, h2⟩ => ?_⟩
    rw [b t h1] at h2
    cases h2
  | some n =>
    rw [List.find?_range_eq_some] at q
    obtain ⟨q1, q2, q3⟩ := q
    have q2 := List.mem_range.mp q2
    have b : ∀ t : Nat, t < n → stopB cs ks j k t = false := fun t ht => by simpa using q3 t ht
    rw [paperN_stop q2 q1 b]
    exact ⟨by omega, by omega, fun t ht => b t (by omega), fun _ => q1, fun _ => q1⟩
def spPaper (K : PySem.W.Frag) : Sp := fun vs H Q _ => ∃ (a r : Addr) (v : V) (cs : List Int) (ws : List V) (ks : List Ky) (k : Ky) (j : Nat), vs = [.ref a, .ref r, v] ∧ SqL K H a (cs.map V.int) ∧ SqL K H r ws ∧ KysAt H ws ks ∧ KyAt H v k ∧ RowOk ks ∧ KeyOk k ∧
  (cs.length = 2 ^ j ∧ j ≤ 12) ∧ CellsOk cs ks.length ∧ ∀ (p : Addr) (H' : Hp) (xs : List V), Same H H' → Fresh H p → H' p = some (.lst xs) → KysAt H' xs (paperK cs ks j k) → Q (.ref p) H'
theorem len_paper {K : PySem.W.Frag} {vs H Q E} (h : spPaper K vs H Q E) : vs.length = 3 := by obtain ⟨_, _, _, _, _, _, _, _, rfl, _⟩ := h; rfl
def lastCell (cs : List Int) (ks : List Ky) (j : Nat) (k : Ky) : Int := getI cs (probeF k.stamp (2 ^ j) ((paperN cs ks j k - 1 : Nat) : Int))
def spPlaceOf (K : PySem.W.Frag) : Sp := fun vs H Q _ => ∃ (a r : Addr) (v : V) (cs : List Int) (ws : List V) (ks : List Ky) (k : Ky) (j : Nat), vs = [.ref a, .ref r, v] ∧ SqL K H a (cs.map V.int) ∧ SqL K H r ws ∧ KysAt H ws ks ∧ KyAt H v k ∧ RowOk ks ∧ KeyOk k ∧
  (cs.length = 2 ^ j ∧ j ≤ 12) ∧ CellsOk cs ks.length ∧ ∀ (H' : Hp), Same H H' → Q (if lastCell cs ks j k = -1 then .non else .int (lastCell cs ks j k)) H'
theorem len_placeOf {K : PySem.W.Frag} {vs H Q E} (h : spPlaceOf K vs H Q E) : vs.length = 3 := by obtain ⟨_, _, _, _, _, _, _, _, rfl, _⟩ := h; rfl
theorem KysAt.at : ∀ {H : Hp} {ks : List Ky} {vs : List V} {i : Nat} {k : Ky}, KysAt H vs ks → ks[i]? = some k → ∃ v, vs[i]? = some v ∧ KyAt H v k
  | _, [], _, _, _, _, e => by simp at e
  | _, x :: ks, _, 0, k, h, e => by
    cases h with
    | cons h t =>
      simp at e
      subst e
      exact ⟨_, rfl, h⟩
  | _, x :: ks, _, i + 1, k, h, e => by
    cases h with
    | cons h t =>
      obtain ⟨v, e', h'⟩ := KysAt.at (i := i) t (by simpa using e)
      exact ⟨v, by simpa using e', h'⟩
theorem atI_last {xs : List V} {v : V} (h : xs[xs.length - 1]? = some v) : atI xs (-1) = some v := by
  have hp : 0 < xs.length := by
    rcases Nat.eq_zero_or_pos xs.length with e | e
    · rw [List.length_eq_zero_iff] at e
      subst e
      cases h
    · exact e
  have e : ixN xs.length (-1) = some (xs.length - 1) := by
    unfold ixN
    rw [if_neg (by decide), if_pos (by omega)]
    congr 1
    omega
  unfold atI
  rw [e]
  exact h
theorem pair_of {H : Hp} {v : V} {a b : Int} (h : KyAt H v (pairK a b)) : ∃ p : Addr, v = .ref p ∧ H p = some (.tup [.int a, .int b]) := by
  unfold pairK at h
  cases h with
  | tup h p =>
    cases p with
    | cons h1 t =>
      cases t with
      | cons h2 t =>
        cases t
        cases h1
        cases h2
        exact ⟨_, rfl, h⟩
theorem pairK_dat (a b : Int) : (pairK a b).dat = true ∧ (pairK a b).dep ≤ 60 := by
  unfold pairK
  refine ⟨by simp [Ky.dat, Ky.good, Ky.goods], by simp [Ky.dep, Ky.deps]⟩
def spPaperB (K : PySem.W.Frag) : Sp := fun vs H Q _ => ∃ (p a r : Addr) (v : V) (xs : List V) (cs : List Int) (ws : List V) (ks : List Ky) (k : Ky) (j : Nat), vs = [.ref p, .ref a, .ref r, v] ∧ H p = some (.lst xs) ∧ KysAt H xs (paperK cs ks j k) ∧ SqL K H a (cs.map V.int) ∧ SqL K H r ws ∧ KysAt H ws ks ∧ KyAt H v k ∧ RowOk ks ∧ KeyOk k ∧
  (cs.length = 2 ^ j ∧ j ≤ 12) ∧ CellsOk cs ks.length ∧ (-1) ∈ cs ∧ ∀ (H' : Hp), Same H H' → Q (.bl true) H'
theorem len_paperB {K : PySem.W.Frag} {vs H Q E} (h : spPaperB K vs H Q E) : vs.length = 4 := by obtain ⟨_, _, _, _, _, _, _, _, _, _, rfl, _⟩ := h; rfl
theorem stop_ex {cs : List Int} {ks : List Ky} {j : Nat} {k : Ky} (hj : j ≤ 12) (e : cs.length = 2 ^ j) (h : (-1) ∈ cs) : ∃ t : Nat, t < 2 ^ j ∧ stopB cs ks j k t = true := by
  have b := bare_ex k.stamp hj e h
  refine ⟨_, b.1, ?_⟩
  unfold stopB
  rw [b.2.1]
  rfl
theorem paper_stops {cs : List Int} {ks : List Ky} {j : Nat} {k : Ky} (hj : j ≤ 12) (e : cs.length = 2 ^ j) (h : (-1) ∈ cs) {i : Nat} (hi : i < paperN cs ks j k) : stopB cs ks j k i = decide (i = paperN cs ks j k - 1) := by
  obtain ⟨n0, n1, n2, n3, n4⟩ := paperN_range cs ks j k
  by_cases q : i = paperN cs ks j k - 1
  · rw [decide_eq_true q, q]
    exact n4 (stop_ex hj e h)
  · rw [decide_eq_false q]
    exact n2 i (by omega)
def spPlaceB : Sp := fun vs H Q _ => ∃ c : Int, vs = [if c = -1 then .non else .int c, .int c] ∧ Q (.bl true) H
theorem len_placeB {vs H Q E} (h : spPlaceB vs H Q E) : vs.length = 2 := by obtain ⟨_, rfl, _⟩ := h; rfl
def spRow (K : PySem.W.Frag) : Sp := fun vs H Q _ => ∃ (a : Addr) (xs : List Int) (w b : Int), vs = [.ref a, .int w, .int b] ∧ SqL K H a (xs.map V.int) ∧ (∀ x ∈ xs, 0 ≤ x ∧ x < 2 ^ 44) ∧ (xs.length ≤ 1000 ∧ 0 ≤ b ∧ b < 2 ^ 42) ∧
  ∀ (p : Addr) (H' : Hp) (ws : List V) (ks : List Ky), Same H H' → Fresh H p → H' p = some (.lst ws) → KysAt H' ws ks → RowOk ks → ws.length = xs.length → Q (.ref p) H'
theorem len_row {K : PySem.W.Frag} {vs H Q E} (h : spRow K vs H Q E) : vs.length = 3 := by obtain ⟨_, _, _, _, rfl, _⟩ := h; rfl
/-- two lists of a list of ints and a row -/
theorem eq_handed {K : PySem.W.Frag} {H : Hp} {a b c d r q : Addr} {cs : List Int} {ws us : List V} {ks : List Ky} {Q : VK} (ha : SqL K H a [.ref c, .ref r]) (hb : SqL K H b [.ref d, .ref q]) (hc : SqL K H c (cs.map V.int)) (hd : SqL K H d (cs.map V.int)) (hr : SqL K H r ws) (hw : KysAt H ws ks) (hq : SqL K H q us) (hu : KysAt H us ks) (dk : Ky.dats ks) (h : Q (.bl true) H) : rEqD K (.ref a) (.ref b) H Q := by
  have sh : SeqAt.shaped (.list [.list (cs.map PyData.int), .list (Ky.toDs ks)]) = true := by
    unfold SeqAt.shaped
    have := Ky.depsD ks dk
    simp only [PyData.canLay0, PyData.canLayAll0, canLay_ints, Ky.canLaysD ks dk, PyData.depth, PyData.depthAll, depth_ints, Bool.and_true, Bool.true_and]
    exact decide_eq_true (by omega)
  refine ⟨.list [.list (cs.map PyData.int), .list (Ky.toDs ks)], .list [.list (cs.map PyData.int), .list (Ky.toDs ks)], .lst ha (.cons (.lst hc (DpAll_ints cs)) (.cons (.lst hr (KysAt.dpD ks _ dk hw)) .nil)), .lst hb (.cons (.lst hd (DpAll_ints cs)) (.cons (.lst hq (KysAt.dpD ks _ dk hu)) .nil)), sh, sh, ?_⟩
  have e : PyData.eqv (.list [.list (cs.map PyData.int), .list (Ky.toDs ks)]) (.list [.list (cs.map PyData.int), .list (Ky.toDs ks)]) = true := by
    simp only [PyData.eqv, PyData.eqvAll, eqvAll_ints, Ky.eqvsD ks ks dk dk, Ky.beqs_dec, decide_true, Bool.and_true]
  rw [e]
  exact h
theorem getI_in {ps : List Int} {c : Int} (h0 : 0 ≤ c) (h1 : c < ps.length) : getI ps c ∈ ps := by
  have hlt : c.toNat < ps.length := by omega
  unfold getI
  rw [List.getD_eq_getElem?_getD, List.getElem?_eq_getElem hlt]
  exact List.getElem_mem hlt
theorem ne_ints {K : PySem.W.Frag} {H : Hp} {a b : Addr} {xs ys : List Int} {Q : VK} (ha : SqL K H a (xs.map V.int)) (hb : SqL K H b (ys.map V.int)) (q : Q (.bl (!decide (xs = ys))) H) : rNeD K (.ref a) (.ref b) H Q :=
  ⟨.list (xs.map PyData.int), .list (ys.map PyData.int), .lst ha (DpAll_ints xs), .lst hb (DpAll_ints ys), shaped_ints xs, shaped_ints ys, by rw [PyData.eqv, eqvAll_ints]; exact q⟩
end My
namespace My
open PySem PySem.Spec PyProof.Rows L2
/-! a sign repeated; zip -/
def rMulS : R2 := fun x y H Q => ∃ (z : Str) (c : Nat) (n : Int), x = .str z ∧ y = .int n ∧ z = ⟨#[c]⟩ ∧ (0 ≤ n ∧ n ≤ 1000) ∧ Q (.str (SX.S (List.replicate n.toNat c))) H
theorem mul_fold (c : Nat) : ∀ (n : Nat) (a : Array Nat), ((List.replicate n #[c]).foldl (· ++ ·) a).toList = a.toList ++ List.replicate n c
  | 0, a => by simp
  | n + 1, a => by
    rw [List.replicate_succ, List.foldl_cons, mul_fold c n]
    simp [List.replicate_succ]
theorem mul_one (c : Nat) {n : Int} (h : 0 ≤ n) : Txt.mul ⟨#[c]⟩ n = SX.S (List.replicate n.toNat c) := by
  unfold Txt.mul
  by_cases h1 : n < 1
  · rw [if_pos h1]
    have e : n = 0 := by omega
    subst e
    rfl
  · rw [if_neg h1]
    by_cases h2 : n = 1
    · subst h2
      rfl
    · have hl : (⟨#[c]⟩ : Str).length = 1 := rfl
      rw [if_neg (by rw [hl]; simp [h2])]
      refine TL.ext_tl ?_
      have e := mul_fold c n.toNat #[]
      simp at e
      show ((List.replicate n.toNat #[c]).foldl (· ++ ·) #[]).toList = _
      rw [e]
theorem op_mulS {X : Cx} : OpR X (binaryOp .Mult) rMulS := by
  intro pins s σ H x y v u Q I rx ry h
  obtain ⟨z, c, n, rfl, rfl, rfl, ⟨h0, h1⟩, q⟩ := h
  obtain ⟨t, rfl⟩ := rx
  obtain ⟨t2, rfl⟩ := ry
  have hl : (⟨#[c]⟩ : Str).length = 1 := rfl
  refine SB.mul (n := n) ⟨?_, fun a b => ?_, fun a b => ?_⟩ fun t' k => ?_
  · rw [decide_eq_false (by omega), decide_eq_false (by omega)]
    rfl
  · rw [hl]
    have : (1 : Int) ≤ (2 ^ 63 - 1) / n := Int.le_ediv_of_mul_le (by omega) (by omega)
    omega
  · rw [hl, Nat.one_mul]
    unfold Builtin.Str.tooLong
    simp only [sizeLine_eq]
    exact decide_eq_false (by omega)
  · rw [mul_one c h0]
    exact ⟨.str (SX.S (List.replicate n.toNat c)), H, I.tok _, ⟨_, rfl⟩, q⟩
theorem rd_mulS {z : Str} {n : Int} {H : Hp} {Q : VK} : rMulS (.str z) (.int n) H Q = ∃ c : Nat, z = ⟨#[c]⟩ ∧ (0 ≤ n ∧ n ≤ 1000) ∧ Q (.str (SX.S (List.replicate n.toNat c))) H := by
  unfold rMulS
  apply propext
  constructor
  · rintro ⟨z', c, n', e1, e2, e3, q⟩; cases e1; cases e2; exact ⟨c, e3, q⟩
  · rintro ⟨c, e3, q⟩; exact ⟨z, c, n, rfl, rfl, e3, q⟩
theorem one_sign {c : Nat} {z : Str} (h : z.cps = #[c]) : z = ⟨#[c]⟩ := by
  cases z
  exact congrArg _ h
def isR2a (vs : List V) (f : Addr → Addr → Prop) : Prop := match vs with | [.ref a, .ref b] => f a b | _ => False
theorem rd_isR2a {a b : Addr} {f : Addr → Addr → Prop} : isR2a [.ref a, .ref b] f = f a b := rfl
theorem rd_zipA {K : PySem.W.Frag} {tr : TA} {σ : L2.St} {H : Hp} {R : It → Hp → Prop} : RZ.iZipA K tr σ H R = tr σ H fun vs H1 => isR2a vs fun a b => ∃ xs ys, (SqL K H1 a xs ∧ SqL K H1 b ys ∧ R (Itz K a b) H1) ∨ (SqT K H1 a xs ∧ SqT K H1 b ys ∧ R (RZ.ItzT K a b) H1) := by
  unfold RZ.iZipA
  apply congrArg
  funext vs H1
  apply propext
  constructor
  · rintro ⟨a, b, xs, ys, rfl, h⟩; exact ⟨xs, ys, h⟩
  · intro h
    unfold isR2a at h
    split at h
    · obtain ⟨xs, ys, h⟩ := h
      exact ⟨_, _, xs, ys, rfl, h⟩
    · exact h.elim
theorem walk_zipT {K : PySem.W.Frag} {a b : Addr} {xs ys : List V} {n : Nat} (hn : n = min xs.length ys.length) : Walk (RZ.ItzT K a b) n (fun H => SqT K H a xs ∧ SqT K H b ys) (YPair (fun i => xs[i]?) (fun i => ys[i]?)) := by
  constructor
  · intro i H lt both
    have lx := List.getElem?_eq_getElem (l := xs) (i := i) (by omega)
    have ly := List.getElem?_eq_getElem (l := ys) (i := i) (by omega)
    exact ⟨xs, ys, _, _, both.1, both.2, lx, ly⟩
  · intro H both
    exact ⟨xs, ys, both.1, both.2, by omega⟩
  · intro i H v H' _ both gives
    obtain ⟨t, u1, u2, e, new, after, f1, f2⟩ := gives
    exact ⟨t, u1, u2, e, new, after, f1 xs both.1, f2 ys both.2⟩
/-- zip of two lists of one length -/
theorem go_zip {K : PySem.W.Frag} {D : Ends} {σ : L2.St} {H : Hp} {a b : Addr} {xs ys : List V} {g : TG} {tb : TS} (e : xs.length = ys.length) (Pv : Nat → L2.St → Hp → Prop) (h0 : Pv 0 σ H) (hl : ∀ i σ H, i ≤ xs.length → Pv i σ H → SqL K H a xs ∧ SqL K H b ys)
    (hs : ∀ (N : L2.St → Hp → Prop) (i : Nat) x y σ H T, xs[i]? = some x → ys[i]? = some y → Pv i σ H → Fresh H T → (∀ σ' H', Pv (i + 1) σ' H' → N σ' H') → g (.ref T) σ (upd H T (.tup [x, y])) fun σ2 H2 => tb { D with nx := N, ct := N, bk := D.nx } σ2 H2) (hd : ∀ σ H, Pv xs.length σ H → D.nx σ H) : forGo (Itz K a b) g tb D σ H := by
  refine go_it (walk_zip (xs := xs) (ys := ys) (n := xs.length) (by omega)) Pv h0 hl ?_ hd
  rintro N i x σ H H' hi p ⟨T, x1, y1, rfl, hT, rfl, e1, e2⟩ hN
  exact hs N i x1 y1 σ H T e1 e2 p hT hN
theorem rd_yes {σ : L2.St} {H : Hp} {QT : Bool → Hp → Prop} : tYes σ H QT = QT true H := rfl
/-- all of a list of True -/
theorem all_true {K : PySem.W.Frag} {H : Hp} {p : Addr} {n : Nat} {Q : VK} (h : H p = some (.lst (List.replicate n (V.bl true)))) (q : Q (.bl true) H) : rAll K [.ref p] H Q := by
  refine ⟨p, List.replicate n true, rfl, SqL.of (by rw [List.map_replicate]; exact h), ?_⟩
  have e : (List.replicate n true).all id = true := by simp
  rw [e]
  exact q
/-- a comprehension whose items are all True -/
theorem go_lct {J : It} {n : Nat} {G : Hp → Prop} {Y : Nat → Hp → V → Hp → Prop} (w : L2.Walk J n G Y) {g : TG} {te : TE} {vs : List Nat} {σ : L2.St} {H1 : Hp} {D : Addr} {Qd : Hp → Prop} (hz : n ≤ sizeLine) (hD : Fresh H1 D)
    (hG : ∀ H, Same H1 H → G H)
    (hs : ∀ (N : VK) i x H H', i < n → Same H1 H → Y i H x H' → (∀ H4, Same H H4 → N (.bl true) H4) → g x (wipe σ vs) H' fun σ2 H2 => wipe σ2 vs = wipe σ vs ∧ te σ2 H2 N)
    (hd : ∀ H, Same H1 H → H D = some (.lst (List.replicate n (V.bl true))) → Qd H) (mono : ∀ (A B : L2.St → Hp → Prop) x σ H, (∀ σ H, A σ H → B σ H) → g x σ H A → g x σ H B) : lcGo J g tYes te vs σ H1 D Qd := by
  refine go_lcm w (List.replicate n (V.bl true)) List.length_replicate hz hD hG (fun N i x H H' hi s y h => hs N i x H H' hi s y fun H4 s4 => h _ H4 ?_ s4) hd mono
  rw [List.getElem?_replicate, if_pos hi]
theorem gTup2_mono {K : PySem.W.Frag} {i j : Nat} (A B : L2.St → Hp → Prop) (x : V) (σ : L2.St) (H : Hp) (h : ∀ σ H, A σ H → B σ H) (q : gTup K 2 (gCons (gName i) (gCons (gName j) gNil)) x σ H A) : gTup K 2 (gCons (gName i) (gCons (gName j) gNil)) x σ H B := by
  obtain ⟨a, xs, rfl, hs, hl, q⟩ := q
  refine ⟨a, xs, rfl, hs, hl, ?_⟩
  match xs, hl, q with
  | [x, y], _, q =>
    simp only [rd_gCons, rd_gName, rd_gNil] at q ⊢
    exact h _ _ q
theorem rd_lenSet {K : PySem.W.Frag} {ta : TE} {σ : L2.St} {H : Hp} {Q : VK} : RZ.tLenSetI K ta σ H Q = ta σ H fun x H1 => isRef x fun l => ∃ ns : List Int, SqL K H1 l (ns.map V.int) ∧ ns.Nodup ∧ ns.length ≤ 4000 ∧ Q (.int (ns.length : Nat)) H1 := by
  unfold RZ.tLenSetI
  apply congrArg
  funext x H1
  rw [← isRef_eq]
  apply propext
  constructor
  · rintro ⟨a, v, e, h⟩; exact ⟨a, e, v, h⟩
  · rintro ⟨a, e, v, h⟩; exact ⟨a, v, e, h⟩
theorem rd_min {K : PySem.W.Frag} {a : Addr} {H : Hp} {Q : VK} : rMin K [.ref a] H Q = ∃ ns : List Int, SqL K H a (ns.map V.int) ∧ 0 < ns.length ∧ ∀ m, m ∈ ns → (∀ y, y ∈ ns → m ≤ y) → Q (.int m) H := by
  unfold rMin
  apply propext
  constructor
  · rintro ⟨a', ns, e, q⟩; cases e; exact ⟨ns, q⟩
  · rintro ⟨ns, q⟩; exact ⟨a, ns, rfl, q⟩
end My
namespace My
open PySem PySem.Spec PyProof.Rows L2
/-! values: numbers, texts, none, tuples of values -/
mutual
def Ky.val : Ky → Bool
  | .num _ => true
  | .txt x => PyData.strOk x
  | .non => true
  | .tup ks => decide (ks.length ≤ 1000) && Ky.vals ks
  | _ => false
def Ky.vals : List Ky → Bool
  | [] => true
  | k :: ks => Ky.val k && Ky.vals ks
end
theorem vals_get : ∀ {ks : List Ky} {i : Nat} {k : Ky}, Ky.vals ks = true → ks[i]? = some k → k.val = true
  | [], i, k, _, h => by simp at h
  | x :: xs, 0, k, g, h => by
    have g' : x.val = true ∧ Ky.vals xs = true := by simpa [Ky.vals] using g
    simp at h
    subst h
    exact g'.1
  | x :: xs, i + 1, k, g, h => by
    have g' : x.val = true ∧ Ky.vals xs = true := by simpa [Ky.vals] using g
    exact vals_get (ks := xs) (i := i) g'.2 (by simpa using h)
theorem vals_iff : ∀ {ks : List Ky}, Ky.vals ks = true ↔ ∀ k ∈ ks, k.val = true
  | [] => by simp [Ky.vals]
  | k :: ks => by
    rw [Ky.vals, Bool.and_eq_true, vals_iff (ks := ks)]
    simp
theorem val_of : ∀ (d : Nat) (k : Ky), within d k = true → k.good = true → k.val = true
  | _, .num _, _, _ => by simp [Ky.val]
  | _, .txt x, _, h => by simpa [Ky.val, Ky.good] using h
  | 0, .tup ks, h, _ => by simp [within] at h
  | d + 1, .tup ks, h, g => by
    simp only [within, Bool.and_eq_true, decide_eq_true_eq, List.all_eq_true] at h
    rw [Ky.val, decide_eq_true (by omega), Bool.true_and, vals_iff]
    intro k hk
    obtain ⟨i, hi, e⟩ := List.mem_iff_getElem.mp hk
    exact val_of d k (h.2 k hk) (goods_get (by simpa [Ky.good] using g) (List.getElem?_eq_some_iff.mpr ⟨hi, e⟩))
  | _, .bl _, _, h => by simp [Ky.good] at h
  | _, .non, _, h => by simp [Ky.good] at h
  | _, .lst _, _, h => by simp [Ky.good] at h
  | _, .dct, _, h => by simp [Ky.good] at h
theorem KOk.val {d : Nat} {k : Ky} (h : KOk d k) : k.val = true := val_of d k h.w h.g
theorem tup_val {ks : List Ky} (h : (Ky.tup ks).val = true) : ks.length ≤ 1000 ∧ Ky.vals ks = true := by simpa [Ky.val] using h
theorem deps_get : ∀ {ks : List Ky} {i : Nat} {k : Ky}, ks[i]? = some k → k.dep ≤ Ky.deps ks
  | [], i, k, h => by simp at h
  | x :: xs, 0, k, h => by
    simp at h
    subst h
    rw [Ky.deps]
    omega
  | x :: xs, i + 1, k, h => by
    have := deps_get (ks := xs) (i := i) (by simpa using h)
    rw [Ky.deps]
    omega
section
variable {H H' : Hp}
/-- H' keeps what stands outside of fp -/
def But (fp : List Addr) (H H' : Hp) : Prop := ∀ b o, H b = some o → b ∉ fp → H' b = some o
/-- no tuple stands at fp -/
def NoTup (H : Hp) (fp : List Addr) : Prop := ∀ b ∈ fp, ∀ xs, H b ≠ some (.tup xs)
mutual
theorem KyAt.keep {fp : List Addr} (s : But fp H H') (n : NoTup H fp) : ∀ (y : Ky) (v : V), y.val = true → KyAt H v y → KyAt H' v y
  | .num i, _, _, h => by cases h; exact .num i
  | .txt x, _, _, h => by cases h; exact .txt x
  | .non, _, _, h => by cases h; exact .non
  | .tup ks, _, g, h => by
    cases h with
    | tup h p => exact .tup (s _ _ h fun hm => n _ hm _ h) (KysAt.keep s n ks _ (tup_val g).2 p)
  | .bl _, _, g, _ => by simp [Ky.val] at g
  | .lst _, _, g, _ => by simp [Ky.val] at g
  | .dct, _, g, _ => by simp [Ky.val] at g
theorem KysAt.keep {fp : List Addr} (s : But fp H H') (n : NoTup H fp) : ∀ (ks : List Ky) (vs : List V), Ky.vals ks = true → KysAt H vs ks → KysAt H' vs ks
  | [], _, _, h => by cases h; exact .nil
  | y :: ks, _, g, h => by
    have g' : y.val = true ∧ Ky.vals ks = true := by simpa [Ky.vals] using g
    cases h with
    | cons h t => exact .cons (KyAt.keep s n y _ g'.1 h) (KysAt.keep s n ks _ g'.2 t)
end
theorem But.of (s : Same H H') (fp : List Addr) : But fp H H' := fun b o e _ => s b o e
theorem But.trans {fp : List Addr} {H1 H2 H3 : Hp} (s : But fp H1 H2) (t : But fp H2 H3) : But fp H1 H3 := fun b o e n => t b o (s b o e n) n
theorem But.mono {fp gp : List Addr} (s : But fp H H') (h : ∀ b ∈ fp, b ∈ gp) : But gp H H' := fun b o e n => s b o e fun q => n (h b q)
end
/-- a text, a number, none: told alike; tuples part by part -/
def spSame (n : Nat) : Sp := fun vs H Q _ => ∃ (v w : V) (k : Ky), vs = [v, w] ∧ KyAt H v k ∧ KyAt H w k ∧ (k.val = true ∧ k.dep ≤ n) ∧ ∀ H', Same H H' → Q (.bl true) H'
theorem len_same {n : Nat} {vs H Q E} (h : spSame n vs H Q E) : vs.length = 2 := by obtain ⟨_, _, _, rfl, _⟩ := h; rfl
def spRowsSame (K : PySem.W.Frag) : Sp := fun vs H Q _ => ∃ (a b : Addr) (xs ys : List V) (ks : List Ky), vs = [.ref a, .ref b] ∧ H a = some (.lst xs) ∧ H b = some (.lst ys) ∧ KysAt H xs ks ∧ KysAt H ys ks ∧ (∀ k ∈ ks, k.val = true ∧ k.dep ≤ 3) ∧ ks.length ≤ 5000 ∧ ∀ H', Same H H' → Q (.bl true) H'
theorem len_rowsSame {K : PySem.W.Frag} {vs H Q E} (h : spRowsSame K vs H Q E) : vs.length = 2 := by obtain ⟨_, _, _, _, _, rfl, _⟩ := h; rfl
end My
namespace My
open PySem PySem.Spec PyProof.Rows L2
/-! fields of own objects, methods, makings -/
section
variable {K : PySem.W.Frag} {H : Hp} {Q : VK} {R : Hp → Prop} {a C dx : Addr} {f : Str} {fs : List (Str × V)} {v : V} {σ : L2.St} {ta tv : TE} {D : Ends} {rd : V → V → Hp → VK → Prop}
def FldAt (K : PySem.W.Frag) (H : Hp) (a : Addr) (f : Str) (Q : VK) : Prop := ∃ C dx fs v, H a = some (.ins C dx fs) ∧ Cls K C ∧ NoAttr K C f ∧ fs.lookup f = some v ∧ Q v H
theorem rd_fld : tFld K ta f σ H Q = ta σ H fun x H1 => isRef x fun a => FldAt K H1 a f Q := by
  unfold tFld FldAt
  apply congrArg
  funext x H1
  rw [← isRef_eq]
  apply propext
  constructor
  · rintro ⟨a, C, dx, fs, v, e, h⟩; exact ⟨a, e, C, dx, fs, v, h⟩
  · rintro ⟨a, e, C, dx, fs, v, h⟩; exact ⟨a, C, dx, fs, v, e, h⟩
theorem fldAt (h : H a = some (.ins C dx fs)) (c : Cls K C) (n : NoAttr K C f) (l : fs.lookup f = some v) : FldAt K H a f Q = Q v H := by
  unfold FldAt
  apply propext
  constructor
  · rintro ⟨C', dx', fs', v', e, -, -, l', q⟩
    rw [h] at e
    cases e
    rw [l] at l'
    cases l'
    exact q
  · intro q
    exact ⟨C, dx, fs, v, h, c, n, l, q⟩
def SetAt (K : PySem.W.Frag) (H : Hp) (a : Addr) (f : Str) (y : V) (R : Hp → Prop) : Prop := ∃ C dx fs, H a = some (.ins C dx fs) ∧ Cls K C ∧ NoAttr K C f ∧ fs.length < 1000 ∧ R (upd H a (.ins C dx (putF f y fs)))
theorem rd_sfld : sFld K ta tv f D σ H = tv σ H fun y H1 => ta σ H1 fun x H2 => isRef x fun a => SetAt K H2 a f y fun H3 => D.nx σ H3 := by
  unfold sFld SetAt
  apply congrArg
  funext y H1
  apply congrArg
  funext x H2
  rw [← isRef_eq]
  apply propext
  constructor
  · rintro ⟨a, C, dx, fs, e, h⟩; exact ⟨a, e, C, dx, fs, h⟩
  · rintro ⟨a, e, C, dx, fs, h⟩; exact ⟨a, C, dx, fs, e, h⟩
theorem setAt {y : V} {gs : List (Str × V)} (h : H a = some (.ins C dx fs)) (c : Cls K C) (n : NoAttr K C f) (l : fs.length < 1000) (e : putF f y fs = gs) : SetAt K H a f y R = R (upd H a (.ins C dx gs)) := by
  unfold SetAt
  apply propext
  constructor
  · rintro ⟨C', dx', fs', e', -, -, -, q⟩
    rw [h] at e'
    cases e'
    rw [e] at q
    exact q
  · intro q
    exact ⟨C, dx, fs, h, c, n, l, by rw [e]; exact q⟩
theorem rd_aadd {i j : Int} : L2.rAdd (.int i) (.int j) H Q = Q (.int (i + j)) H := by
  unfold L2.rAdd
  apply propext
  constructor
  · rintro ⟨i', j', e1, e2, q⟩; cases e1; cases e2; exact q
  · intro q; exact ⟨i, j, rfl, rfl, q⟩
/-- o.f += e -/
def AugAt (K : PySem.W.Frag) (H : Hp) (a : Addr) (f : Str) (tv : TE) (rd : V → V → Hp → VK → Prop) (σ : L2.St) (R : Hp → Prop) : Prop := ∃ C dx fs v, H a = some (.ins C dx fs) ∧ Cls K C ∧ NoAttr K C f ∧ fs.lookup f = some v ∧
  tv σ H fun y H2 => rd v y H2 fun z H3 => ∃ dx' fs', H3 a = some (.ins C dx' fs') ∧ fs'.length < 1000 ∧ R (upd H3 a (.ins C dx' (putF f z fs')))
theorem rd_aug_fld : sFldAug K ta tv rd f D σ H = ta σ H fun x H1 => isRef x fun a => AugAt K H1 a f tv rd σ fun H3 => D.nx σ H3 := by
  unfold sFldAug AugAt
  apply congrArg
  funext x H1
  rw [← isRef_eq]
  apply propext
  constructor
  · rintro ⟨a, C, dx, fs, v, e, h⟩; exact ⟨a, e, C, dx, fs, v, h⟩
  · rintro ⟨a, e, C, dx, fs, v, h⟩; exact ⟨a, C, dx, fs, v, e, h⟩
/-- += of an int constant -/
theorem augAt {i j : Int} {gs : List (Str × V)} (h : H a = some (.ins C dx fs)) (c : Cls K C) (n : NoAttr K C f) (l : fs.lookup f = some (.int i)) (z : fs.length < 1000) (e : putF f (.int (i + j)) fs = gs) : AugAt K H a f (tC (.int j)) L2.rAdd σ R = R (upd H a (.ins C dx gs)) := by
  unfold AugAt
  apply propext
  constructor
  · rintro ⟨C', dx', fs', v', e', -, -, l', q⟩
    rw [h] at e'
    cases e'
    rw [l] at l'
    cases l'
    rw [rd_c, rd_aadd] at q
    obtain ⟨dx2, fs2, e2, -, q⟩ := q
    rw [h] at e2
    cases e2
    rw [e] at q
    exact q
  · intro q
    refine ⟨C, dx, fs, .int i, h, c, n, l, ?_⟩
    rw [rd_c, rd_aadd]
    exact ⟨dx, fs, h, z, by rw [e]; exact q⟩
/-- o.m(..): o is an instance with no field m -/
def MetAt (H : Hp) (a C : Addr) (m : Str) : Prop := ∃ dx fs, H a = some (.ins C dx fs) ∧ fs.lookup m = none
theorem rd_meth {m : Str} {sp : Sp} {dvs : List V} {E : XK} {t : TA} : tMeth C m sp dvs E ta t σ H Q = ta σ H fun x H1 => isRef x fun a => MetAt H1 a C m ∧ t σ H1 fun vs H2 => sp (.ref a :: (vs ++ dvs)) H2 Q E := by
  unfold tMeth MetAt
  apply congrArg
  funext x H1
  rw [← isRef_eq]
  apply propext
  constructor
  · rintro ⟨a, dx, fs, rfl, h, l, q⟩; exact ⟨a, rfl, ⟨dx, fs, h, l⟩, q⟩
  · rintro ⟨a, rfl, ⟨dx, fs, h, l⟩, q⟩; exact ⟨a, dx, fs, rfl, h, l, q⟩
theorem rd_make {sp : Sp} {dvs : List V} {E : XK} {t : TA} : tMake C sp dvs E t σ H Q = t σ H fun vs H1 => ∀ x dx, Fresh H1 x → Fresh H1 dx → dx ≠ x → sp (.ref x :: (vs ++ dvs)) (upd (upd H1 dx (.own x)) x (.ins C dx [])) (fun v H2 => v = .non ∧ Q (.ref x) H2) E := rfl
end
end My
namespace My
open PySem PySem.Spec PyProof.Rows L2
/-! two values alike, part by part -/
def AlikeN : Nat → Hp → V → V → Prop
  | 0, _, v, w => v = w ∧ scalV v = true
  | n + 1, H, v, w => (v = w ∧ scalV v = true) ∨ ∃ (a b : Addr) (xs ys : List V), v = .ref a ∧ w = .ref b ∧ ((H a = some (.tup xs) ∧ H b = some (.tup ys)) ∨ (H a = some (.lst xs) ∧ H b = some (.lst ys))) ∧ xs.length = ys.length ∧ xs.length ≤ 100000 ∧
    ∀ (i : Nat) x y, xs[i]? = some x → ys[i]? = some y → AlikeN n H x y
theorem AlikeN.scal {n : Nat} {H : Hp} {v : V} (h : scalV v = true) : AlikeN n H v v := by
  cases n with
  | zero => exact ⟨rfl, h⟩
  | succ n => exact .inl ⟨rfl, h⟩
theorem AlikeN.same : ∀ {n : Nat} {H H' : Hp} {v w : V}, AlikeN n H v w → Same H H' → AlikeN n H' v w
  | 0, _, _, _, _, h, _ => h
  | n + 1, H, H', v, w, h, s => by
    rcases h with h | ⟨a, b, xs, ys, e1, e2, e3, e4, e5, e6⟩
    · exact .inl h
    · exact .inr ⟨a, b, xs, ys, e1, e2, e3.elim (fun q => .inl ⟨s _ _ q.1, s _ _ q.2⟩) (fun q => .inr ⟨s _ _ q.1, s _ _ q.2⟩), e4, e5, fun i x y h1 h2 => (e6 i x y h1 h2).same s⟩
theorem alike_ky : ∀ {n : Nat} {H : Hp} {v w : V} (k : Ky), k.val = true → k.dep ≤ n → KyAt H v k → KyAt H w k → AlikeN n H v w
  | n, _, _, _, .num i, _, _, h, g => by cases h; cases g; exact .scal rfl
  | n, _, _, _, .txt x, _, _, h, g => by cases h; cases g; exact .scal rfl
  | n, _, _, _, .non, _, _, h, g => by cases h; cases g; exact .scal rfl
  | 0, _, _, _, .tup ks, _, d, _, _ => by rw [Ky.dep] at d; omega
  | n + 1, H, _, _, .tup ks, v, d, h, g => by
    rw [Ky.dep] at d
    cases h with
    | @tup a xs _ h p =>
      cases g with
      | @tup b ys _ h' p' =>
        have e1 := KysAt.len p
        have e2 := KysAt.len p'
        have := (tup_val v).1
        refine .inr ⟨a, b, xs, ys, rfl, rfl, .inl ⟨h, h'⟩, by omega, by omega, fun i x y g1 g2 => ?_⟩
        obtain ⟨k1, hk1, hx⟩ := p.get g1
        obtain ⟨k2, hk2, hy⟩ := p'.get g2
        rw [hk1] at hk2
        cases hk2
        have := deps_get hk1
        exact alike_ky k1 (vals_get (tup_val v).2 hk1) (by omega) hx hy
  | _, _, _, _, .bl _, v, _, _, _ => by simp [Ky.val] at v
  | _, _, _, _, .lst _, v, _, _, _ => by simp [Ky.val] at v
  | _, _, _, _, .dct, v, _, _, _ => by simp [Ky.val] at v
theorem alike_lst {n : Nat} {H : Hp} {a b : Addr} {xs ys : List V} {ks : List Ky} (ha : H a = some (.lst xs)) (hb : H b = some (.lst ys)) (hx : KysAt H xs ks) (hy : KysAt H ys ks) (v : ∀ k ∈ ks, k.val = true ∧ k.dep ≤ n) (z : ks.length ≤ 100000) : AlikeN (n + 1) H (.ref a) (.ref b) := by
  have e1 := KysAt.len hx
  have e2 := KysAt.len hy
  refine .inr ⟨a, b, xs, ys, rfl, rfl, .inr ⟨ha, hb⟩, by omega, by omega, fun i x y g1 g2 => ?_⟩
  obtain ⟨k1, hk1, hx1⟩ := hx.get g1
  obtain ⟨k2, hk2, hy1⟩ := hy.get g2
  rw [hk1] at hk2
  cases hk2
  obtain ⟨q1, q2⟩ := v k1 (List.mem_of_getElem? hk1)
  exact alike_ky k1 q1 q2 hx1 hy1
/-- tuples of flat things -/
theorem alike_flat {n : Nat} {H : Hp} {a b : Addr} {xs : List V} (ha : H a = some (.tup xs)) (hb : H b = some (.tup xs)) (s : ∀ x ∈ xs, scalV x = true) (z : xs.length ≤ 100000) : AlikeN (n + 1) H (.ref a) (.ref b) :=
  .inr ⟨a, b, xs, xs, rfl, rfl, .inl ⟨ha, hb⟩, rfl, z, fun i x y g1 g2 => by
    rw [g1] at g2
    cases g2
    exact .scal (s x (List.mem_of_getElem? g1))⟩
/-- what follows a cut -/
def After (u : TS) (D : Ends) (Mid : L2.St → Hp → Prop) : Prop := ∀ σ' H', Mid σ' H' → u D σ' H'
theorem rd_cut {t u : TS} {D : Ends} {σ : L2.St} {H : Hp} : C8.tCut t u D σ H = ∃ Mid : L2.St → Hp → Prop, t { D with nx := Mid } σ H ∧ After u D Mid := rfl
def spAlike (n : Nat) : Sp := fun vs H Q _ => ∃ v w, vs = [v, w] ∧ AlikeN n H v w ∧ ∀ H', Same H H' → Q (.bl true) H'
theorem len_alike {n : Nat} {vs H Q E} (h : spAlike n vs H Q E) : vs.length = 2 := by obtain ⟨_, _, rfl, _⟩ := h; rfl
theorem ix_seqK (K : PySem.W.Frag) {X : Cx} (h : X.K = K) : IxR X (rIx K) := h ▸ ix_seq
theorem rd_ixQ {K : PySem.W.Frag} {p : Addr} {i : Int} {H : Hp} {Q : VK} : rIx K (.ref p) (.int i) H Q = ∃ xs v, (SqL K H p xs ∨ SqT K H p xs) ∧ atI xs i = some v ∧ Q v H := by
  unfold rIx
  rw [rd_ixL, rd_ixT]
  apply propext
  constructor
  · rintro (⟨xs, v, h, q⟩ | ⟨xs, v, h, q⟩ | ⟨z, i, c, e, _⟩)
    · exact ⟨xs, v, .inl h, q⟩
    · exact ⟨xs, v, .inr h, q⟩
    · cases e
  · rintro ⟨xs, v, h | h, q⟩
    · exact .inl ⟨xs, v, h, q⟩
    · exact .inr (.inl ⟨xs, v, h, q⟩)
def spValue : Sp := fun vs H Q _ => ∃ n : Int, vs = [.int n] ∧ (0 ≤ n ∧ n < 2 ^ 60) ∧ ∀ H' v z, Same H H' → KyAt H' v z → z.val = true → z.dep ≤ 8 → Q v H'
theorem len_value {vs H Q E} (h : spValue vs H Q E) : vs.length = 1 := by obtain ⟨_, rfl, _⟩ := h; rfl
theorem txt_val {l : List Nat} (c : codesOk l) : (Ky.txt (SX.S l)).val = true := by rw [Ky.val]; exact strOk_of c
end My
namespace My
open PySem PySem.Spec PyProof.Rows L2
/-! methods and makings where what is raised is wished for at the slots that stand -/
section
variable {X : Cx} {CXq : CXT} {lv : Nat} {fa Cl : Addr} {fdat : FuncData} {pars : List Str} {prom : Sp} {dflt : List V} {dfv : List Value} {Ex : L2.St → XK} {nm : Str}
def tMethX (Cl : Addr) (nm : Str) (prom : Sp) (dflt : List V) (Ex : L2.St → XK) (to : TE) (ta : TA) : TE := fun σ H Q => tMeth Cl nm prom dflt (Ex σ) to ta σ H Q
def tMakeX (Cl : Addr) (prom : Sp) (dflt : List V) (Ex : L2.St → XK) (ta : TA) : TE := fun σ H Q => tMake Cl prom dflt (Ex σ) ta σ H Q
theorem pe_methX {ob first : Expr} {rest : List Expr} {to : TE} {ta : TA} {apos pos : Pos} {pl : Sem Bool} (ho : PE X ob to) (kc : Cls X.K Cl) (km : Meth X.K Cl nm fa) (ok : FnOk X.prog X.w X.K X.mg X.base CXq lv fa fdat pars prom) (room : Room lv X.A)
    (bn : Binds X.K fdat pars dfv) (vd : Vals dflt dfv) (ps : ∀ σ, PassesAt CXq X σ (Ex σ)) (as : PA X (first :: rest) ta)
    (h1 : starEach (first :: rest) X.env = (false, eval first X.env) :: starEach rest X.env := by rfl) (h2 : (backTo pos (starEach rest X.env)).any (·.1) = false := by rfl)
    (h3 : eval (.Call (.Attribute ob nm apos) (first :: rest) [] pos) X.env = (do
      let ov ← eval ob X.env
      standAt apos.atName
      let (g, bound) ← holding [ov] (getMethod ov nm pl)
      callWith pos g bound (backTo pos (starEach (first :: rest) X.env)) (backToKw pos (keywordEach [] X.env))) := by rfl) :
    PE X (.Call (.Attribute ob nm apos) (first :: rest) [] pos) (tMethX Cl nm prom dflt Ex to ta) := by
  constructor
  intro pins s0 σ H0 Qv inv hyp
  apply PySem.W.methodCall_KW (pl := pl) _ h3
  refine thn (ho.run pins s0 σ H0 _ inv hyp) ?_
  rintro u1 s1 ⟨xv, Hv, inv1, rel, ad, dd, flds, rfl, hobj, look, cont⟩
  obtain rfl : u1 = Value.ref ad := rel
  apply getmeth_ok inv1 hobj kc km look
  refine PySem.W.callWith_K (h₀ := X.base) (first := [.ref ad]) inv.ok.mod.kin km.kp ?_ h1 h2
  refine thn (as.run pos pins s1 σ Hv _ inv1 cont) ?_
  rintro us s2 ⟨args, Hw, inv2, rels, fin⟩
  exact ⟨inv2.kIn, run_fnSD (us := .ref ad :: us) (vs := .ref ad :: args) ok room bn vd (ps σ) inv2 (.cons rfl rels) fin⟩
theorem pe_meth0X {ob : Expr} {to : TE} {apos pos : Pos} {pl : Sem Bool} (ho : PE X ob to) (kc : Cls X.K Cl) (km : Meth X.K Cl nm fa) (ok : FnOk X.prog X.w X.K X.mg X.base CXq lv fa fdat pars prom) (room : Room lv X.A)
    (bn : Binds X.K fdat pars dfv) (vd : Vals dflt dfv) (ps : ∀ σ, PassesAt CXq X σ (Ex σ))
    (h3 : eval (.Call (.Attribute ob nm apos) [] [] pos) X.env = (do
      let ov ← eval ob X.env
      standAt apos.atName
      let (g, bound) ← holding [ov] (getMethod ov nm pl)
      callWith pos g bound (backTo pos (starEach [] X.env)) (backToKw pos (keywordEach [] X.env))) := by rfl) :
    PE X (.Call (.Attribute ob nm apos) [] [] pos) (tMethX Cl nm prom dflt Ex to tNil) := by
  constructor
  intro pins s0 σ H0 Qv inv hyp
  apply PySem.W.methodCall_KW (pl := pl) _ h3
  refine thn (ho.run pins s0 σ H0 _ inv hyp) ?_
  rintro u1 s1 ⟨xv, Hv, inv1, rel, ad, dd, flds, rfl, hobj, look, cont⟩
  obtain rfl : u1 = Value.ref ad := rel
  apply getmeth_ok inv1 hobj kc km look
  exact PySem.W.callWith_K0 (first := [.ref ad]) inv1.kIn km.kp (run_fnSD (us := [.ref ad]) (vs := [.ref ad]) ok room bn vd (ps σ) inv1 (.cons rfl .nil) cont)
end
/-- C.m(..), m a def of the class at C -/
def tCFun (Cl : Addr) (prom : Sp) (dflt : List V) (Ex : XK) (to : TE) (ta : TA) : TE := fun σ H Q => to σ H fun x H1 => x = .ref Cl ∧ ta σ H1 fun vs H2 => prom (vs ++ dflt) H2 Q Ex
theorem pe_cfun {X : Cx} {CXq : CXT} {lv : Nat} {fa Cl : Addr} {mc : Value} {fdat : FuncData} {pars : List Str} {prom : Sp} {dflt : List V} {dfv : List Value} {Ex : XK} {nm : Str} {ob first : Expr} {rest : List Expr} {to : TE} {ta : TA} {apos pos : Pos} {pl : Sem Bool}
    (ho : PE X ob to) (cr : ClX.CRead X.K Cl mc) (cf : PySem.W.findCls X.K (.ref Cl) mc nm = some (.val (.ref fa))) (kp : PySem.W.keepIn X.K (.ref fa) = true) (ok : FnOk X.prog X.w X.K X.mg X.base CXq lv fa fdat pars prom) (room : Room lv X.A)
    (bn : Binds X.K fdat pars dfv) (vd : Vals dflt dfv) (ps : Passes CXq X Ex) (as : PA X (first :: rest) ta)
    (h1 : starEach (first :: rest) X.env = (false, eval first X.env) :: starEach rest X.env := by rfl) (h2 : (backTo pos (starEach rest X.env)).any (·.1) = false := by rfl)
    (h3 : eval (.Call (.Attribute ob nm apos) (first :: rest) [] pos) X.env = (do
      let ov ← eval ob X.env
      standAt apos.atName
      let (g, bound) ← holding [ov] (getMethod ov nm pl)
      callWith pos g bound (backTo pos (starEach (first :: rest) X.env)) (backToKw pos (keywordEach [] X.env))) := by rfl) :
    PE X (.Call (.Attribute ob nm apos) (first :: rest) [] pos) (tCFun Cl prom dflt Ex to ta) := by
  constructor
  intro pins s0 σ H0 Qv inv hyp
  apply PySem.W.methodCall_KW (pl := pl) _ h3
  refine thn (ho.run pins s0 σ H0 _ inv hyp) ?_
  rintro u1 s1 ⟨xv, Hv, inv1, rel, rfl, cont⟩
  obtain rfl : u1 = Value.ref Cl := rel
  refine PySem.W.method_cls inv1.kIn cr.ga (ClX.getcval_ok (v := .ref fa) inv1 cr ⟨cf, rfl⟩ fun s2 inv2 => ?_)
  refine PySem.W.callWith_K (h₀ := X.base) (first := []) inv.ok.mod.kin kp ?_ h1 h2
  refine thn (as.run pos pins s2 σ Hv _ inv2 cont) ?_
  rintro us s3 ⟨args, Hw, inv3, rels, fin⟩
  exact ⟨inv3.kIn, run_fn ok room bn vd ps inv3 rels fin⟩
theorem rd_cfun {C : Addr} {sp : Sp} {dvs : List V} {E : XK} {to : TE} {t : TA} {σ : L2.St} {H : Hp} {Q : VK} : tCFun C sp dvs E to t σ H Q = to σ H fun x H1 => x = .ref C ∧ t σ H1 fun vs H2 => sp (vs ++ dvs) H2 Q E := rfl
theorem go_whileN {c : TT} {tb : TS} {D : Ends} {σ : L2.St} {H : Hp} (Pv : Nat → L2.St → Hp → Prop) (m0 : Nat) (h0 : Pv m0 σ H)
    (hs : ∀ (m : Nat) (B : Hp → Prop) σ H, Pv m σ H → (∀ H1, (∀ N : L2.St → Hp → Prop, (∀ m' σ' H', Pv m' σ' H' → m' < m → N σ' H') → tb { D with nx := N, ct := N, bk := D.nx } σ H1) → B H1) →
      c σ H fun b H1 => if b = true then B H1 else D.nx σ H1) : tWhile c tb D σ H :=
  ⟨Pv, ⟨m0, h0⟩, fun m σ H p => hs m (fun H1 => ∃ N : L2.St → Hp → Prop, (∀ σ' H', N σ' H' → ∃ m', m' < m ∧ Pv m' σ' H') ∧ tb { D with nx := N, ct := N, bk := D.nx } σ H1) σ H p
    fun H1 h => ⟨fun σ' H' => ∃ m', m' < m ∧ Pv m' σ' H', fun _ _ q => q, h _ fun m' σ' H' q l => ⟨m', l, q⟩⟩⟩
theorem rd_methX {C : Addr} {m : Str} {sp : Sp} {dvs : List V} {E : L2.St → XK} {to : TE} {t : TA} {σ : L2.St} {H : Hp} {Q : VK} : tMethX C m sp dvs E to t σ H Q = to σ H fun x H1 => isRef x fun a => MetAt H1 a C m ∧ t σ H1 fun vs H2 => sp (.ref a :: (vs ++ dvs)) H2 Q (E σ) := by
  unfold tMethX
  rw [rd_meth]
theorem rd_callSD {sp : Sp} {dvs : List V} {E : L2.St → XK} {t : TA} {σ : L2.St} {H : Hp} {Q : VK} : tCallSD sp dvs E t σ H Q = t σ H fun vs H1 => sp (vs ++ dvs) H1 Q (E σ) := rfl
end My
namespace My
open PySem PySem.Spec PyProof.Rows L2
theorem noTup_one {H : Hp} {x : Addr} {o : HO} (e : H x = some o) (n : ∀ xs, o ≠ .tup xs) : NoTup H [x] := fun b m xs z => by
  rw [List.mem_singleton] at m
  rw [m, e] at z
  cases z
  exact n _ rfl
theorem but_one {H : Hp} {x : Addr} {o : HO} : But [x] H (upd H x o) := fun b u e n => by
  rw [upd_ne (fun q => n (by rw [q]; exact List.mem_singleton_self _))]
  exact e
/-- a comprehension whose items are data: K i tells those made by i turns -/
theorem go_lck {J : It} {n : Nat} {G : Hp → Prop} {Y : Nat → Hp → V → Hp → Prop} (w : L2.Walk J n G Y) {g : TG} {tt : TT} {te : TE} {vs : List Nat} {σ : L2.St} {H1 : Hp} {D : Addr} {Qd : Hp → Prop} (K : Nat → List Ky) (h0 : K 0 = []) (hv : ∀ i, i ≤ n → Ky.vals (K i) = true) (hz : n ≤ sizeLine) (hl : ∀ i, (K i).length ≤ i) (hD : Fresh H1 D)
    (hG : ∀ H, Same H1 H → G H)
    (hs : ∀ (N : VK) (Z : Hp → Prop) i x H H', i < n → Same H1 H → Y i H x H' → (∀ y k H4, K (i + 1) = K i ++ [k] → Same H H4 → KyAt H4 y k → N y H4) → (K (i + 1) = K i → ∀ H4, Same H H4 → Z H4) →
      g x (wipe σ vs) H' fun σ2 H2 => wipe σ2 vs = wipe σ vs ∧ tt σ2 H2 fun b H3 => if b = true then te σ2 H3 N else Z H3)
    (hd : ∀ H ys, Same H1 H → H D = some (.lst ys) → KysAt H ys (K n) → Qd H) : lcGo J g tt te vs σ H1 D Qd := by
  refine lc_it w (fun i H => Same H1 H ∧ i ≤ n ∧ ∃ ys, H D = some (.lst ys) ∧ KysAt H ys (K i)) ⟨Same_upd (Same.refl _) hD, Nat.zero_le _, [], upd_same, by rw [h0]; exact .nil⟩ (fun i H _ h => hG H h.1) ?_ ?_
  · rintro i x H H' hi ⟨sm, hin, ys, hL, hr⟩ hY
    refine hs (fun y H4 => ∃ acc, H4 D = some (.lst acc) ∧ acc.length < sizeLine ∧ (Same H1 (upd H4 D (.lst (acc ++ [y]))) ∧ i + 1 ≤ n ∧ ∃ zs, (upd H4 D (.lst (acc ++ [y]))) D = some (.lst zs) ∧ KysAt (upd H4 D (.lst (acc ++ [y]))) zs (K (i + 1)))) _ i x H H' hi sm hY ?_ ?_
    · intro y k H4 e s4 hy
      have := KysAt.len hr
      have := hl i
      have v1 := hv (i + 1) hi
      refine ⟨ys, s4 _ _ hL, by omega, Same_upd0 (sm.trans s4) hD, hi, _, upd_same, ?_⟩
      refine KysAt.keep but_one (noTup_one (s4 _ _ hL) fun _ z => by cases z) _ _ v1 ?_
      rw [e]
      exact (hr.same s4 _ _).append (.cons hy .nil)
    · intro e H4 s4
      exact ⟨sm.trans s4, hi, ys, s4 _ _ hL, by rw [e]; exact hr.same s4 _ _⟩
  · rintro H ⟨sm, -, ys, hL, hr⟩
    exact hd H ys sm hL hr
theorem pe_fldK (K : PySem.W.Frag) {X : Cx} {e : Expr} {f : Str} {pos : Pos} {ta : TE} (h : X.K = K) (he : PE X e ta) (hb : attributeBase e f X.env (eval e X.env) = eval e X.env) : PE X (.Attribute e f pos) (tFld K ta f) := h ▸ pe_fld he hb
theorem call_listqK (K : PySem.W.Frag) {X : Cx} (h : X.K = K) : CallR X (.type "list") (rListOf K) := h ▸ call_listq
theorem call_tupleqK (K : PySem.W.Frag) {X : Cx} (h : X.K = K) : CallR X (.type "tuple") (rTupOf K) := h ▸ call_tupleq
/-! range going down -/
def isR3 (vs : List V) (f : Int → Int → Int → Prop) : Prop := match vs with | [.int i, .int j, .int k] => f i j k | _ => False
theorem rd_isR3 {i j k : Int} {f : Int → Int → Int → Prop} : isR3 [.int i, .int j, .int k] f = f i j k := rfl
theorem rd_rng3 {tr : TA} {σ : L2.St} {H : Hp} {R : It → Hp → Prop} : iRng3 tr σ H R = tr σ H fun vs H1 => isR3 vs fun i j c => ∃ n, RgC i j c n ∧ R (Itc i c n) H1 := by
  unfold iRng3
  apply congrArg
  funext vs H1
  apply propext
  constructor
  · rintro ⟨i, j, c, n, rfl, h⟩; exact ⟨n, h⟩
  · intro h
    unfold isR3 at h
    split at h
    · rename_i i j c
      obtain ⟨n, h⟩ := h
      exact ⟨i, j, c, n, rfl, h⟩
    · exact h.elim
theorem go_rangeC {lo c : Int} {n : Nat} {g : TG} {tb : TS} {D : Ends} {σ : L2.St} {H : Hp} (Pv : Nat → L2.St → Hp → Prop) (h0 : Pv 0 σ H)
    (hs : ∀ (N : L2.St → Hp → Prop) (i : Nat) σ H, i < n → Pv i σ H → (∀ σ' H', Pv (i + 1) σ' H' → N σ' H') → g (.int (lo + (i : Nat) * c)) σ H fun σ2 H2 => tb { D with nx := N, ct := N, bk := D.nx } σ2 H2) (hd : ∀ σ H, Pv n σ H → D.nx σ H) : forGo (Itc lo c n) g tb D σ H :=
  for_rangeC Pv h0 (fun i σ H h1 h2 => hs _ i σ H h1 h2 fun _ _ z => z) hd
end My
namespace My
open PySem PySem.Spec PyProof.Rows L2
theorem hint_room {prog : Program} {w : World} {A : Around} {E : Value → Shared → Prop} {t : Shared} {i : Addr} {R : Bool → Shared → Prop} (kind : t.TypeIs (.ref i) "list_reverseiterator") (r : R false t) :
    wpAny (model prog w) A (Builtin.List.listLengthHint (.ref i)) R E t := by
  have parts : splitId "list_reverseiterator.__length_hint__" = some ("list_reverseiterator", "__length_hint__") := by decide +kernel
  have own : isSubtype (.type "list_reverseiterator") (.type "list_reverseiterator") = pure true := by rw [isSubtype_type]; kernel_rfl
  unfold Builtin.List.listLengthHint
  apply wpAny_bind
  apply wpAny_specialOf kind RT.nolen_lri
  apply wpAny_bind
  apply wpAny_specialOf kind RT.hint_lri
  dsimp only
  rw [parts]
  dsimp only
  apply wpAny_bind
  apply wpAny_isInstance kind own
  exact wpAny_pure r
section
variable {prog : Program} {w : World} {A : Around} {E : Value → Shared → Prop} {t : Shared}
/-- the walk over a reversed list, kept at a new list -/
theorem listed_rev {i l : Addr} {ys : Array Value} {R : Value → Shared → Prop} (calm : A.handled = none) (ri : t.heap.IsRevIter i l ((ys.size : Int) - 1)) (li : t.heap.IsList l ys) (ne : l ≠ i) (z : ys.size ≤ sizeLine)
    (fin : ∀ (g : Heap) (k : Nat) (got : Array Value) (c : Nat), (∀ b o, b ≠ i → t.heap.get? b = some o → g.get? b = some o) → g.get? t.heap.objs.size = some { cls := .type "list", dict := none, data := .seq got c, slots := #[] } → ItemsOf (fun n v => ys[ys.size - 1 - n]? = some v) got ys.size →
      R (.ref t.heap.objs.size) { t with heap := g, toks := k }) :
    wpAny (model prog w) A (call (.type "list") [.ref i]) R E t := by
  refine callType_codes (Q₁ := fun v u => v = .ref t.heap.objs.size ∧ u = { t with heap := t.heap.push { cls := .type "list", data := .seq #[] } }) F.called_list (F.typeCall_list_1 _) F.entry_list_init (code_list_new _ ⟨rfl, rfl⟩) ?_
  rintro _ _ ⟨rfl, rfl⟩
  have new : (t.heap.push { cls := .type "list", data := .seq #[] }).get? t.heap.objs.size = some { cls := .type "list", data := .seq #[] } := Heap.get?_push_size _ rfl
  refine ⟨⟨_, new, rfl⟩, F.args_list_init_2 _ _, ?_⟩
  -- what stands in the heap where the new list lies there, emptied once more
  let made : Heap := (t.heap.push { cls := .type "list", data := .seq #[] }).update t.heap.objs.size (Obj.mapSeq fun _ => #[])
  have stays : ∀ b u, t.heap.get? b = some u → made.get? b = some u := fun b u e => by
    have off : t.heap.objs.size ≠ b := fun q => Nat.lt_irrefl _ (q ▸ Heap.lt_size e)
    exact (Heap.get?_update_other _ _ off).trans (Heap.get?_push_of_some _ e)
  have there := Heap.get?_update_self (Obj.mapSeq fun _ => (#[] : Array Value)) new rfl
  obtain ⟨oi, ei, -⟩ := id ri
  obtain ⟨ol, el, -⟩ := id li
  have apart : t.heap.objs.size ≠ i ∧ t.heap.objs.size ≠ l := ⟨fun q => Nat.lt_irrefl _ (q ▸ Heap.lt_size ei), fun q => Nat.lt_irrefl _ (q ▸ Heap.lt_size el)⟩
  have ri2 : made.IsRevIter i l ((ys.size : Int) - 1) := ri.at fun u => stays i u
  have li2 : made.IsList l ys := li.at fun u => stays l u
  have kind : ({ t with heap := made } : Shared).TypeIs (.ref i) "list_reverseiterator" := ri2.typeIs
  have other : Builtin.List.listSameRef (.ref t.heap.objs.size) (.ref i) = false := by simp [Builtin.List.listSameRef, apart.1]
  unfold Builtin.«list.__init__»
  wp_walk using wpAny_pyIter_revIter ri2, hint_room kind
  have turns := (Walks.listRev (prog := prog) (w := w) (A := A.in1.in1) calm i l ne ys).toS
  have first : made.IsRevIter i l ((ys.size : Int) - 1 - ((0 : Nat) : Int)) := by simpa using ri2
  have far : t.heap.objs.size ∉ [i, l] := by simpa using apart
  refine ⟨plainId_quiet F.plain_extend_loop _, codeAny_extend_loopS turns z _ far _ _ 0 { t with heap := made } _ _ rfl (Nat.zero_le _) ⟨Nat.zero_le _, first, li2⟩ there (ItemsOf.nil _) ?_⟩
  intro u got c moved at_ all
  refine ⟨rfl, ?_⟩
  rw [Moved.eq_with moved]
  refine fin _ _ got c (fun b o nb e => moved.heap b o ?_ (stays b o e)) at_ all
  intro m
  rcases List.mem_cons.mp m with q | q
  · exact Nat.lt_irrefl _ (q ▸ Heap.lt_size e)
  · exact nb (List.mem_singleton.mp q)
end
/-- list(reversed(e)), e a list: a new list, turned about -/
def tRevNew (K : PySem.W.Frag) (te : TE) : TE := fun σ H Q => te σ H fun v H1 => isRef v fun a => ∃ xs, SqL K H1 a xs ∧ ∀ q, Fresh H1 q → Q (.ref q) (upd H1 q (.lst xs.reverse))
/-- what the walk gave, as values of the layer -/
theorem turned_vals {xs : List V} {us : List Value} {got : Array Value} (rel : Vals xs us) (all : ItemsOf (fun n v => us.toArray[us.toArray.size - 1 - n]? = some v) got us.toArray.size) : Vals xs.reverse got.toList := RT.vals_rev rel all
section
variable {X : Cx}
theorem pe_listRev {e : Expr} {te : TE} {pl pr posl posr : Pos} (calm : X.calm = true) (gl : Gl X "list") (ml : X.mg "list" = none) (gr : Gl X "reversed") (mr : X.mg "reversed" = none) (part : PE X e te)
    (one : starEach [e] X.env = (false, eval e X.env) :: starEach [] X.env := by rfl)
    (out : starEach [.Call (.Name "reversed" pr) [e] [] posr] X.env = (false, eval (.Call (.Name "reversed" pr) [e] [] posr) X.env) :: starEach [] X.env := by rfl) :
    PE X (.Call (.Name "list" pl) [.Call (.Name "reversed" pr) [e] [] posr] [] posl) (tRevNew X.K te) := by
  constructor
  intro pins s σ H Q inv want
  -- the inner call leaves a walk, laid at the end of a heap where the invariant holds
  have inner : wpAny (model X.prog X.w) X.A (eval (.Call (.Name "reversed" pr) [e] [] posr) X.env) (fun v u => ∃ (u0 : Shared) (H1 : Hp) (a : Addr) (xs : List V) (us : List Value),
      v = .ref u0.heap.objs.size ∧ u = { u0 with heap := u0.heap.push (revObj a ((us.toArray.size : Int) - 1)) } ∧ Inv X pins σ H1 u0 ∧ Vals xs us ∧ u0.heap.IsList a us.toArray ∧ xs.length ≤ sizeLine ∧ ∀ q, Fresh H1 q → Q (.ref q) (upd H1 q (.lst xs.reverse))) X.xe s := by
    refine Call_ (ld_blt inv gr mr PyProof.Rows.boot_reversed ?_)
    refine PyProof.Rows.callWith_type1 (args_cons ?_ one) one rfl
    refine thn (part.run pins s σ H _ inv want) ?_
    rintro v u0 ⟨x, H1, inv1, rel, turn⟩
    cases x with
    | ref a =>
      obtain ⟨xs, sq, turn⟩ := turn
      obtain rfl : v = Value.ref a := rel
      obtain ⟨us, vals, plain, len⟩ := inv1.list sq
      exact args_nil (call_reversed_list plain.isList ⟨u0, H1, a, xs, us, rfl, rfl, inv1, vals, plain.isList, len, turn⟩)
    | _ => exact turn.elim
  refine Call_ (ld_blt inv gl ml boot_list ?_)
  refine PyProof.Rows.callWith_type1 (args_cons (thn inner ?_) out) out rfl
  rintro v u ⟨u0, H1, a, xs, us, rfl, rfl, inv1, vals, isl, len, turn⟩
  apply args_nil
  have inv2 : Inv X pins σ H1 { u0 with heap := u0.heap.push (revObj a ((us.toArray.size : Int) - 1)) } := inv1.kept (t' := u0.toks) fun b o q => Heap.get?_push_of_some _ q
  have off := inv1.fpOk (H' := H1) (Nat.le_refl _) (inv1.hok.fresh (Nat.le_refl _))
  obtain ⟨ol, el, -⟩ := id isl
  refine listed_rev (inv1.ok.hd calm) ⟨_, Heap.get?_push_size _ rfl, rfl, rfl⟩ (isl.push _) (Nat.ne_of_lt (Heap.lt_size el)) (by rw [List.size_toArray, ← vals.length]; exact len) ?_
  intro g k got c keep lies all
  have obj : ObjOk X.prog X.w (upd H1 (u0.heap.push (revObj a ((us.toArray.size : Int) - 1))).objs.size (.lst xs.reverse)) g (u0.heap.push (revObj a ((us.toArray.size : Int) - 1))).objs.size (.lst xs.reverse) := ⟨by simpa using len, got.toList, c, turned_vals vals all, by rw [Array.toArray_toList]; exact lies⟩
  refine ⟨.ref _, _, inv2.turnedNew (ch := [u0.heap.objs.size]) (t' := k) (fun b o nb q => keep b o (fun z => nb (by simp [z])) q) (fun b mb => ?_) (Nat.le_refl _) obj, rfl, turn _ (inv2.hok.fresh (Nat.le_refl _))⟩
  rw [List.mem_singleton.mp mb]
  exact off
end
theorem rd_lstRev {K : PySem.W.Frag} {te : TE} {σ : L2.St} {H : Hp} {Q : VK} : tRevNew K te σ H Q = te σ H fun v H1 => isRef v fun a => ∃ xs, SqL K H1 a xs ∧ ∀ q, Fresh H1 q → Q (.ref q) (upd H1 q (.lst xs.reverse)) := rfl
theorem rd_revA {K : PySem.W.Frag} {te : TE} {σ : L2.St} {H : Hp} {R : It → Hp → Prop} : RT.iRevA K te σ H R = te σ H fun v H1 => isRef v fun a => ∃ xs, (SqL K H1 a xs ∧ R (Itv K a xs.length) H1) ∨ (SqT K H1 a xs ∧ R (RT.ItvT K a xs.length) H1) := by
  unfold RT.iRevA
  apply congrArg
  funext x H1
  rw [← isRef_eq]
  apply propext
  constructor
  · rintro ⟨a, xs, e, h⟩; exact ⟨a, e, xs, h⟩
  · rintro ⟨a, e, xs, h⟩; exact ⟨a, xs, e, h⟩
theorem go_rev {K : PySem.W.Frag} {a : Addr} {xs : List V} {g : TG} {tb : TS} {D : Ends} {σ : L2.St} {H : Hp} (Pv : Nat → L2.St → Hp → Prop) (h0 : Pv 0 σ H) (hl : ∀ i σ H, i ≤ xs.length → Pv i σ H → SqL K H a xs)
    (hs : ∀ (N : L2.St → Hp → Prop) i x σ H, i < xs.length → xs[xs.length - 1 - i]? = some x → Pv i σ H → (∀ σ' H', Pv (i + 1) σ' H' → N σ' H') → g x σ H fun σ2 H2 => tb { D with nx := N, ct := N, bk := D.nx } σ2 H2) (hd : ∀ σ H, Pv xs.length σ H → D.nx σ H) : forGo (Itv K a xs.length) g tb D σ H :=
  go_it (walk_rev (xs := xs)) Pv h0 hl (fun N i x σ H H' hi p y hN => by obtain ⟨rfl, e⟩ := y; exact hs N i x σ _ hi e p hN) hd
theorem rd_unl {K : PySem.W.Frag} {n : Nat} {t : TGs} {a : Addr} {σ : L2.St} {H : Hp} {R : L2.St → Hp → Prop} : gUnl K n t (.ref a) σ H R = ∃ xs, SqL K H a xs ∧ xs.length = n ∧ t xs σ H R := by
  unfold gUnl
  apply propext
  constructor
  · rintro ⟨a', xs, e, q⟩; cases e; exact ⟨xs, q⟩
  · rintro ⟨xs, q⟩; exact ⟨a, xs, rfl, q⟩
end My
namespace Mix
open PySem PySem.Spec PyProof.Rows
/-! dicts whose keys are numbers, texts, None, and tuples of these together: at the library's level. -/
/-- the entry e is kept for the key k -/
structure Has (w : World) (h : Heap) (k : NestedKey) (e : DictEntry) : Prop where
  is : NestedIs h k e.key
  hash : e.hash = k.hash w
  dep : k.depth ≤ 8
/-- the entries es are those of the keys ks -/
structure Rows (w : World) (h : Heap) (es : Array DictEntry) (ks : List NestedKey) : Prop where
  sz : es.size = ks.length
  has : ∀ (i : Nat) (k : NestedKey) (e : DictEntry), ks[i]? = some k → es[i]? = some e → Has w h k e
  nd : ks.Nodup
theorem nodup_ix {α : Type} {l : List α} (n : l.Nodup) {i j : Nat} {x : α} (a : l[i]? = some x) (b : l[j]? = some x) : i = j := by
  have hi := (List.getElem?_eq_some_iff.mp a).1
  exact (List.getElem?_inj hi n).mp (a.trans b.symm)
section
variable {w : World} {h : Heap} {es : Array DictEntry} {ks : List NestedKey}
theorem Rows.ent (R : Rows w h es ks) {i : Nat} {k : NestedKey} (a : ks[i]? = some k) : ∃ e, es[i]? = some e ∧ Has w h k e := by
  have hi := (List.getElem?_eq_some_iff.mp a).1
  have hz : i < es.size := by rw [R.sz]; exact hi
  exact ⟨es[i], Array.getElem?_eq_getElem hz, R.has i k _ a (Array.getElem?_eq_getElem hz)⟩
theorem Rows.key (R : Rows w h es ks) {i : Nat} {e : DictEntry} (a : es[i]? = some e) : ∃ k, ks[i]? = some k ∧ Has w h k e := by
  have hz : i < es.size := (Array.getElem?_eq_some_iff.mp a).1
  have hi : i < ks.length := by rw [← R.sz]; exact hz
  exact ⟨ks[i], List.getElem?_eq_getElem hi, R.has i _ e (List.getElem?_eq_getElem hi) a⟩
end
section
variable {prog : Program} {w : World} {A : Around} {E : Value → Shared → Prop} {s : Shared}
theorem iteW {α : Type} {M : Model} {c : Prop} [Decidable c] {a b : Sem α} {Q : α → Shared → Prop} (h1 : c → wpAny M A a Q E s) (h2 : ¬ c → wpAny M A b Q E s) : wpAny M A (if c then a else b) Q E s := by
  by_cases z : c
  · rw [if_pos z]; exact h1 z
  · rw [if_neg z]; exact h2 z
/-- the places that are looked at -/
abbrev spots (es : Array DictEntry) (hv : Int) : List Nat := placesWithHash es.size (fun i => es[i]?.map (·.hash)) hv
theorem spots_nodup {es : Array DictEntry} {hv : Int} : (spots es hv).Nodup := by
  unfold spots placesWithHash
  exact List.Nodup.sublist List.filter_sublist List.nodup_range
theorem spots_ent {es : Array DictEntry} {hv : Int} {i : Nat} (m : i ∈ spots es hv) : ∃ e, es[i]? = some e ∧ (e.hash == hv) = true := by
  unfold spots placesWithHash at m
  have q := (List.mem_filter.mp m).2
  dsimp only at q
  cases e : es[i]? with
  | none => rw [e] at q; cases q
  | some x =>
    rw [e] at q
    refine ⟨x, rfl, ?_⟩
    simpa using q
theorem spots_mem {es : Array DictEntry} {ks : List NestedKey} {k : NestedKey} (R : Rows w s.heap es ks) {i : Nat} (a : ks[i]? = some k) : i ∈ spots es (k.hash w) := by
  obtain ⟨e, he, hh⟩ := R.ent a
  unfold spots placesWithHash
  refine List.mem_filter.mpr ⟨List.mem_range.mpr (Array.getElem?_eq_some_iff.mp he).1, ?_⟩
  dsimp only
  rw [he]
  show (some e.hash == some (k.hash w)) = true
  rw [hh.hash]
  simp
/-- how far the search has come: the places done, the place found -/
def Sought (ks : List NestedKey) (k : NestedKey) (done : List Nat) (hit : Option Nat) : Prop := (hit = none ∧ ∀ j ∈ done, ks[j]? ≠ some k) ∨ ∃ j, hit = some j ∧ j ∈ done ∧ ks[j]? = some k
theorem quiet_all {stored : List Value} {u : Value} {k : NestedKey} {Q : Bool → Shared → Prop} (hk : NestedIs s.heap k u) (dk : k.depth ≤ 8) (hs : ∀ v ∈ stored, ∃ k, NestedIs s.heap k v ∧ k.depth ≤ 8) (q : Q false s) :
    wpAny (model prog w) A (tableMayTell u stored) Q E s := by
  unfold tableMayTell
  by_cases c : stored.isEmpty = true
  · rw [if_pos c]
    exact wpAny_pure q
  rw [if_neg c]
  refine wpAny_bind (quiet_key k u 8 s hk dk A E _ ?_)
  rw [if_neg (by simp)]
  refine wpAny_bind (wpAny_forIn_list _ (fun l r s2 => s2 = s ∧ r.1 = none ∧ ∀ v ∈ l, v ∈ stored) _ (fun v l r s2 g => ?_) (fun r s2 g => ?_) _ _ ⟨rfl, rfl, fun _ m => m⟩)
  · obtain ⟨rfl, e, sub⟩ := g
    obtain ⟨k2, n2, d2⟩ := hs v (sub v List.mem_cons_self)
    refine wpAny_bind (quiet_key k2 v 8 s2 n2 d2 A E _ ?_)
    rw [if_neg (by simp)]
    exact wpAny_pure ⟨rfl, by first | exact e | rfl, fun z m => sub z (List.mem_cons_of_mem _ m)⟩
  · obtain ⟨rfl, e, -⟩ := g
    obtain ⟨r1, r2⟩ := r
    dsimp only at e
    subst e
    exact wpAny_pure q
/-- the search among keys that are all carried by value -/
theorem walkPlain {d : Addr} {o : Obj} {es : Array DictEntry} {ep : Nat} {ks : List NestedKey} {k : NestedKey} {u : Value} {Q : Option Nat → Shared → Prop} (R : Rows w s.heap es ks) (ho : s.heap.get? d = some o) (hd : o.data = .dict es ep)
    (same : ∀ (k2 : NestedKey) (v : Value) (F : Bool → Shared → Prop), NestedIs s.heap k2 v → F (decide (k2 = k)) s → wpAny (model prog w) A (eqBool v u) F E s)
    (q0 : (∀ j ∈ spots es (k.hash w), ks[j]? ≠ some k) → Q none s) (q1 : ∀ i, ks[i]? = some k → Q (some i) s) : wpAny (model prog w) A (dictWalkPlain d u (k.hash w) es (spots es (k.hash w))) Q E s := by
  unfold dictWalkPlain
  refine wpAny_bind (wpAny_forIn_list _ (fun l b s2 => s2 = s ∧ b.1 = none ∧ ∃ dn, spots es (k.hash w) = dn ++ l ∧ ∀ j ∈ dn, ks[j]? ≠ some k) _ ?_ ?_ _ _ ⟨rfl, rfl, [], rfl, fun _ m => by cases m⟩)
  · rintro x l ⟨b1, b2⟩ s2 ⟨rfl, e, dn, ed, g⟩
    obtain ⟨e1, he, hh⟩ := spots_ent (i := x) (show x ∈ spots es (k.hash w) by rw [ed]; simp)
    obtain ⟨k2, hx, hs2⟩ := R.key he
    dsimp only
    rw [he]
    dsimp only
    rw [if_pos hh]
    refine wpAny_bind (wpAny_dictEpoch ho hd (wpAny_bind (same k2 _ _ hs2.is (wpAny_bind (wpAny_dictEpoch ho hd ?_)))))
    rw [if_neg (by simp)]
    by_cases c : k2 = k
    · rw [decide_eq_true c, if_pos rfl]
      refine wpAny_bind (wpAny_rule (wpAny_pure ?_))
      exact wpAny_pure (q1 x (by rw [← c]; exact hx))
    · rw [decide_eq_false c, if_neg (by simp)]
      refine wpAny_bind (wpAny_rule (wpAny_pure ⟨rfl, rfl, dn ++ [x], by rw [ed]; simp, fun j m => ?_⟩))
      rcases List.mem_append.mp m with m | m
      · exact g j m
      · rw [List.mem_singleton] at m
        rw [m, hx]
        exact fun z => c (Option.some.inj z)
  · rintro ⟨b1, b2⟩ s2 ⟨rfl, e, dn, ed, g⟩
    dsimp only at e
    subst e
    exact wpAny_pure (q0 fun j m => g j (by rw [ed, List.append_nil] at m; exact m))
theorem find {d : Addr} {o : Obj} {es : Array DictEntry} {ep : Nat} {ks : List NestedKey} {k : NestedKey} {u : Value} {Q : Option Nat → Shared → Prop} (hu : A.units + 8 < cLine) (R : Rows w s.heap es ks) (hk : NestedIs s.heap k u) (dk : k.depth ≤ 8)
    (ho : s.heap.get? d = some o) (hd : o.data = .dict es ep) (q0 : k ∉ ks → Q none s) (q1 : ∀ i, ks[i]? = some k → Q (some i) s) : wpAny (model prog w) A (dictFind d u (k.hash w)) Q E s := by
  have same : ∀ (k2 : NestedKey) (v : Value) (F : Bool → Shared → Prop), NestedIs s.heap k2 v → F (decide (k2 = k)) s → wpAny (model prog w) A (eqBool v u) F E s := fun k2 v F n2 f => by
    refine eqAt_key k2 k A s v u n2 hk (by omega) _ _ _ _ ?_
    rw [← NestedKey.decide_eq]
    exact f
  have out : ∀ hit, Sought ks k (spots es (k.hash w)) hit → Q hit s := fun hit g => by
    rcases g with ⟨rfl, n⟩ | ⟨j, rfl, -, e⟩
    · refine q0 fun m => ?_
      obtain ⟨j, e⟩ := List.mem_iff_getElem?.mp m
      exact n j (spots_mem R e) e
    · exact q1 j e
  have step : ∀ {dn l : List Nat} {x : Nat} {hit : Option Nat} {k2 : NestedKey}, spots es (k.hash w) = dn ++ x :: l → Sought ks k dn hit → ks[x]? = some k2 → (k2 = k → hit = none) ∧ (k2 ≠ k → Sought ks k (dn ++ [x]) hit) := by
    intro dn l x hit k2 e g hx
    have nd := spots_nodup (es := es) (hv := k.hash w)
    rw [e, List.nodup_append] at nd
    constructor
    · rintro rfl
      rcases g with ⟨rfl, -⟩ | ⟨j, -, m, ej⟩
      · rfl
      · have := nodup_ix R.nd ej hx
        subst this
        exact absurd rfl (nd.2.2 j m j List.mem_cons_self)
    · intro n
      rcases g with ⟨rfl, f⟩ | ⟨j, rfl, m, ej⟩
      · refine .inl ⟨rfl, fun j m => ?_⟩
        rcases List.mem_append.mp m with m | m
        · exact f j m
        · rw [List.mem_singleton] at m
          rw [m, hx]
          exact fun z => n (Option.some.inj z)
      · exact .inr ⟨j, rfl, List.mem_append_left _ m, ej⟩
  have kept : ∀ v ∈ (spots es (k.hash w)).filterMap (fun i => es[i]?.map (·.key)), ∃ k2, NestedIs s.heap k2 v ∧ k2.depth ≤ 8 := fun v m => by
    obtain ⟨i, -, e⟩ := List.mem_filterMap.mp m
    cases z : es[i]? with
    | none => rw [z] at e; cases e
    | some x =>
      rw [z] at e
      cases e
      obtain ⟨k2, -, g⟩ := R.key z
      exact ⟨k2, g.is, g.dep⟩
  have seek0 : (∀ j ∈ spots es (k.hash w), ks[j]? ≠ some k) → Q none s := fun n => out none (.inl ⟨rfl, n⟩)
  have form : u = .none ∨ (∃ b, u = .bool b) ∨ (∃ i t, u = .int i t) ∨ (∃ x t, u = .str x t) ∨ ∃ a, u = .ref a := by
    cases hk with
    | none => exact .inl rfl
    | bool eb => exact .inr (.inl ⟨_, rfl⟩)
    | int i t => exact .inr (.inr (.inl ⟨_, _, rfl⟩))
    | text x t => exact .inr (.inr (.inr (.inl ⟨_, _, rfl⟩)))
    | tup h1 h2 h3 h4 => exact .inr (.inr (.inr (.inr ⟨_, rfl⟩)))
  unfold dictFind
  refine wpAny_holding (wpAny_bind (wpAny_dictEntries ho hd ?_))
  rcases form with rfl | ⟨b, rfl⟩ | ⟨i, t, rfl⟩ | ⟨x, t, rfl⟩ | ⟨a, rfl⟩
  all_goals dsimp only
  rotate_left 3
  by_cases hx : (es.all fun e => isExactStrKey e.key) = true
  · rw [if_pos hx]
    have isk : ∀ (j : Nat) (e : DictEntry) (k2 : NestedKey), es[j]? = some e → ks[j]? = some k2 → e.key.isStr x = decide (k2 = k) := fun j e k2 he hk2 => by
      have g := (R.has j k2 e hk2 he).is
      have z := Array.all_eq_true_iff_forall_mem.mp hx e (Array.mem_of_getElem? he)
      cases hk
      cases ek : e.key with
      | str y t2 =>
        rw [ek] at g
        cases g
        rw [Bool.eq_iff_iff]
        simp [Value.isStr]
      | _ => rw [ek] at z; cases z
    unfold foundByValue
    cases fi : es.findIdx? fun e => e.key.isStr x with
    | none =>
      refine wpAny_pure (q0 fun m => ?_)
      obtain ⟨j, ej⟩ := List.mem_iff_getElem?.mp m
      obtain ⟨e, he, -⟩ := R.ent ej
      have z := isk j e k he ej
      rw [decide_eq_true rfl] at z
      have n := Array.findIdx?_eq_none_iff.mp fi e (Array.mem_of_getElem? he)
      rw [n] at z
      cases z
    | some i =>
      obtain ⟨hi, z, -⟩ := Array.findIdx?_eq_some_iff_getElem.mp fi
      have he := Array.getElem?_eq_getElem hi
      obtain ⟨k2, hk2, g⟩ := R.key he
      rw [isk i _ k2 he hk2, decide_eq_true_eq] at z
      dsimp only
      rw [he]
      dsimp only
      refine wpAny_bind (wpAny_dictEpoch ho hd (wpAny_bind (same k2 _ _ g.is (wpAny_bind (wpAny_dictEpoch ho hd ?_)))))
      rw [if_neg (by simp), decide_eq_true z, if_pos rfl]
      exact wpAny_bind (wpAny_rule (wpAny_pure (q1 i (by rw [← z]; exact hk2))))
  rw [if_neg hx]
  rotate_left 1
  have fresh : ¬ (es.any fun e => e.key == Value.ref a && e.hash != k.hash w) = true := fun z => by
    obtain ⟨i, hi, z⟩ := Array.any_eq_true.mp z
    rw [Bool.and_eq_true] at z
    obtain ⟨z1, z2⟩ := z
    obtain ⟨k2, hx, g⟩ := R.key (i := i) (Array.getElem?_eq_getElem hi)
    have ek : es[i].key = .ref a := eq_of_beq z1
    have g1 := g.is
    rw [ek] at g1
    have := NestedIs.inj _ _ _ g1 hk
    rw [g.hash, this] at z2
    simp at z2
  rw [if_neg fresh]
  all_goals
    refine iteW (fun _ => ?_) fun _ => ?_
    · exact walkPlain R ho hd same seek0 q1
    refine iteW (fun _ => wpAny_bind (wpAny_pure ?_)) fun _ => wpAny_bind (quiet_all hk dk kept ?_)
  all_goals
    rw [if_neg (by simp)]
    refine wpAny_bind (wpAny_forIn_list _ (fun l b s2 => s2 = s ∧ b.1 = none ∧ ∃ dn, spots es (k.hash w) = dn ++ l ∧ Sought ks k dn b.2) _ ?_ ?_ _ _ ⟨rfl, rfl, [], rfl, .inl ⟨rfl, fun _ m => by cases m⟩⟩)
    · rintro x l ⟨b1, b2⟩ s2 ⟨rfl, e, dn, ed, g⟩
      dsimp only at e
      subst e
      obtain ⟨e1, he, hh⟩ := spots_ent (i := x) (show x ∈ spots es (k.hash w) by rw [ed]; simp)
      obtain ⟨k2, hx, hs2⟩ := R.key he
      obtain ⟨st1, st2⟩ := step ed g hx
      dsimp only
      rw [he]
      dsimp only
      rw [if_pos hh]
      refine wpAny_bind (wpAny_dictEpoch ho hd (wpAny_bind (same k2 _ _ hs2.is (wpAny_bind (wpAny_dictEpoch ho hd ?_)))))
      rw [if_neg (by simp)]
      by_cases c : k2 = k
      · rw [decide_eq_true c, if_pos rfl]
        cases st1 c
        rw [if_neg (by simp)]
        refine wpAny_bind (wpAny_rule ?_)
        refine iteW (fun _ => ?_) fun _ => ?_
        · exact wpAny_pure (wpAny_pure (q1 x (by rw [← c]; exact hx)))
        · exact wpAny_pure ⟨rfl, rfl, dn ++ [x], by rw [ed]; simp, .inr ⟨x, rfl, by simp, by rw [← c]; exact hx⟩⟩
      · rw [decide_eq_false c, if_neg (by simp)]
        refine wpAny_bind (wpAny_rule ?_)
        rw [if_neg (by simp)]
        exact wpAny_pure ⟨rfl, rfl, dn ++ [x], by rw [ed]; simp, st2 c⟩
    · rintro ⟨b1, b2⟩ s2 ⟨rfl, e, dn, ed, g⟩
      dsimp only at e
      subst e
      rw [List.append_nil] at ed
      rw [← ed] at g
      exact wpAny_pure (out _ g)
end
end Mix
namespace Mix
open PySem PySem.Spec PyProof.Rows
section
variable {w : World} {h h' : Heap} {es : Array DictEntry} {ks : List NestedKey}
/-- keys stay while the dict alone is changed -/
theorem is_but {d : Addr} {o : Obj} {ep : Nat} {k : NestedKey} {v : Value} (x : NestedIs h k v) (ho : h.get? d = some o) (hd : o.data = .dict es ep) (b : Heap.SameBut d h h') : NestedIs h' k v :=
  NestedIs.at (fun a ob vs n e f => by
    have ne : a ≠ d := fun z => by
      rw [z, ho] at e
      cases e
      rw [hd] at f
      cases f
    rw [b.2 a ne]
    exact e) k v x
theorem Rows.to (R : Rows w h es ks) (f : ∀ k v, NestedIs h k v → NestedIs h' k v) : Rows w h' es ks :=
  ⟨R.sz, fun i k e a b => ⟨f _ _ (R.has i k e a b).is, (R.has i k e a b).hash, (R.has i k e a b).dep⟩, R.nd⟩
theorem Rows.push (R : Rows w h es ks) {k : NestedKey} {u v : Value} (n : k ∉ ks) (hk : NestedIs h k u) (dk : k.depth ≤ 8) : Rows w h (es.push ⟨k.hash w, u, v⟩) (ks ++ [k]) := by
  refine ⟨by rw [Array.size_push, R.sz, List.length_append]; rfl, fun i k2 e a b => ?_, ?_⟩
  · have hi := (List.getElem?_eq_some_iff.mp a).1
    rw [List.length_append, List.length_singleton] at hi
    by_cases c : i < ks.length
    · rw [List.getElem?_append_left c] at a
      rw [Array.getElem?_push, if_neg (by rw [R.sz]; omega)] at b
      exact R.has i k2 e a b
    · have z : i = ks.length := by omega
      subst z
      rw [List.getElem?_append_right (Nat.le_refl _), Nat.sub_self] at a
      cases a
      rw [Array.getElem?_push, if_pos R.sz.symm] at b
      cases b
      exact ⟨hk, rfl, dk⟩
  · rw [List.nodup_append]
    refine ⟨R.nd, by simp, fun x hx y hy z => n ?_⟩
    rw [List.mem_singleton] at hy
    rw [← hy, ← z]
    exact hx
theorem Rows.mod (R : Rows w h es ks) (j : Nat) (v : Value) : Rows w h (es.modify j fun e => { e with val := v }) ks := by
  refine ⟨by rw [Array.size_modify, R.sz], fun i k e a b => ?_, R.nd⟩
  rw [Array.getElem?_modify] at b
  split at b
  · obtain ⟨e0, he, rfl⟩ := Option.map_eq_some_iff.mp b
    have g := R.has i k e0 a he
    exact ⟨g.is, g.hash, g.dep⟩
  · exact R.has i k e a b
theorem erase_list {j : Nat} : (es.eraseIdxIfInBounds j).toList = es.toList.eraseIdx j := by
  obtain ⟨l⟩ := es
  simp
theorem Rows.erase (R : Rows w h es ks) (j : Nat) : Rows w h (es.eraseIdxIfInBounds j) (ks.eraseIdx j) := by
  have lz : es.toList.length = ks.length := by rw [Array.length_toList, R.sz]
  refine ⟨?_, fun i k e a b => ?_, R.nd.sublist (List.eraseIdx_sublist _ _)⟩
  · rw [← Array.length_toList, erase_list, List.length_eraseIdx, List.length_eraseIdx, lz]
  · rw [← Array.getElem?_toList, erase_list] at b
    rw [List.getElem?_eraseIdx] at a b
    split at a <;> rename_i c
    · rw [if_pos c, Array.getElem?_toList] at b
      exact R.has i k e a b
    · rw [if_neg c, Array.getElem?_toList] at b
      exact R.has (i + 1) k e a b
end
section
variable {prog : Program} {w : World} {A : Around} {E : Value → Shared → Prop} {s : Shared} {d : Addr} {o : Obj} {es : Array DictEntry} {ep : Nat} {ks : List NestedKey} {k : NestedKey} {u : Value}
/-- the hash, the search -/
theorem getW {Q : Option Value → Shared → Prop} (hu : A.units + 8 < cLine) (R : Rows w s.heap es ks) (hk : NestedIs s.heap k u) (dk : k.depth ≤ 8) (ho : s.heap.get? d = some o) (hd : o.data = .dict es ep)
    (q0 : k ∉ ks → Q none { s with toks := s.toks + k.draws }) (q1 : ∀ (i : Nat) (e : DictEntry), ks[i]? = some k → es[i]? = some e → Q (some e.val) { s with toks := s.toks + k.draws }) : wpAny (model prog w) A (dictGet d u) Q E s := by
  unfold dictGet
  refine wpAny_holding (wpAny_bind (pyHash_key k u A s _ hk (by omega) (wpAny_bind ?_)))
  refine find (s := { s with toks := s.toks + k.draws }) hu R hk dk ho hd (fun n => wpAny_pure (q0 n)) fun i a => ?_
  obtain ⟨e, he, -⟩ := R.ent a
  refine wpAny_bind (wpAny_dictEntries (s := { s with toks := s.toks + k.draws }) ho hd ?_)
  rw [he]
  exact wpAny_pure (q1 i e a he)
theorem setW {v : Value} {Q : Unit → Shared → Prop} (hu : A.units + 8 < cLine) (R : Rows w s.heap es ks) (hk : NestedIs s.heap k u) (dk : k.depth ≤ 8) (ho : s.heap.get? d = some o) (hx : o.ExactDict) (hd : o.data = .dict es ep) (hz : es.size ≤ sizeLine)
    (q0 : k ∉ ks → ∀ h' o', h'.get? d = some o' → o'.ExactDict → o'.data = .dict (es.push ⟨k.hash w, u, v⟩) (ep + 1) → Heap.SameBut d s.heap h' → Q () { s with heap := h', toks := s.toks + k.draws })
    (q1 : ∀ i, ks[i]? = some k → ∀ h' o', h'.get? d = some o' → o'.ExactDict → o'.data = .dict (es.modify i fun e => { e with val := v }) ep → Heap.SameBut d s.heap h' → Q () { s with heap := h', toks := s.toks + k.draws }) : wpAny (model prog w) A (dictSet d u v) Q E s := by
  unfold dictSet dictSetHashed
  refine wpAny_holding (wpAny_bind (pyHash_key k u A s _ hk (by omega) (wpAny_holding (wpAny_bind ?_))))
  refine find (s := { s with toks := s.toks + k.draws }) hu R hk dk ho hd (fun n => ?_) fun i a => ?_
  · refine wpAny_bind (wpAny_rule ?_)
    have z := Obj.data_mapDictKeys hd (fun l : Array DictEntry => l.push ⟨k.hash w, u, v⟩)
    exact wpAny_updateDictKeys (hz := hz) (s := { s with toks := s.toks + k.draws }) ho hd (q0 n _ _ (Heap.get?_update_self _ ho (Obj.isFreed_of_dict z)) (hx.mapDictKeys _) z (Heap.SameBut.update ..))
  · refine wpAny_bind (wpAny_rule (wpAny_bind ?_))
    have z := Obj.data_mapDict hd (fun l : Array DictEntry => l.modify i fun e => { e with val := v })
    exact wpAny_updateDict (s := { s with toks := s.toks + k.draws }) ho hd (wpAny_point (q1 i a _ _ (Heap.get?_update_self _ ho (Obj.isFreed_of_dict z)) (hx.mapDict _) z (Heap.SameBut.update ..)))
theorem outW {Q : Option DictEntry → Shared → Prop} (hu : A.units + 8 < cLine) (R : Rows w s.heap es ks) (hk : NestedIs s.heap k u) (dk : k.depth ≤ 8) (ho : s.heap.get? d = some o) (hx : o.ExactDict) (hd : o.data = .dict es ep) (hz : es.size ≤ sizeLine)
    (m : k ∈ ks) (q1 : ∀ (i : Nat) (e : DictEntry), ks[i]? = some k → es[i]? = some e → ∀ h' o', h'.get? d = some o' → o'.ExactDict → o'.data = .dict (es.eraseIdxIfInBounds i) (ep + 1) → Heap.SameBut d s.heap h' → Q (some e) { s with heap := h', toks := s.toks + k.draws }) :
    wpAny (model prog w) A (Builtin.Dict.takeOut d u) Q E s := by
  unfold Builtin.Dict.takeOut
  refine wpAny_holding (wpAny_bind (pyHash_key k u A s _ hk (by omega) (wpAny_bind ?_)))
  refine find (s := { s with toks := s.toks + k.draws }) hu R hk dk ho hd (fun n => absurd m n) fun i a => ?_
  obtain ⟨e, he, -⟩ := R.ent a
  refine wpAny_bind (wpAny_dictEntries (s := { s with toks := s.toks + k.draws }) ho hd ?_)
  rw [he]
  have z := Obj.data_mapDictKeys hd (fun l : Array DictEntry => l.eraseIdxIfInBounds i)
  exact wpAny_bind (wpAny_updateDictKeys (hz := hz) (s := { s with toks := s.toks + k.draws }) ho hd (wpAny_pure (q1 i e a he _ _ (Heap.get?_update_self _ ho (Obj.isFreed_of_dict z)) (hx.mapDictKeys _) z (Heap.SameBut.update ..))))
/-! the roads to them -/
theorem inW {Q : Bool → Shared → Prop} (hu : A.units + 9 < cLine) (lo : (d == sysModules) = false) (R : Rows w s.heap es ks) (hk : NestedIs s.heap k u) (dk : k.depth ≤ 8) (ho : s.heap.get? d = some o) (hx : o.ExactDict) (hd : o.data = .dict es ep)
    (q : Q (decide (k ∈ ks)) { s with toks := s.toks + k.draws }) : wpAny (model prog w) A (contains (.ref d) u) Q E s := by
  have ty : s.TypeIs (.ref d) "dict" := ⟨o, ho, hx.1⟩
  refine wpAny_contains_slot ty F.slot_dict_contains ?_
  refine call_meetsIn (S := fun A2 R2 s2 => A2 = A ∧ s2 = s ∧ R2 (.ok (.ret (.bool (decide (k ∈ ks))))) { s with toks := s.toks + k.draws }) F.slot_dict_contains ty F.entry_dict_contains (F.args_dict_contains_2 _ _) (fun A2 R2 s2 g => ?_) ⟨rfl, rfl, wpAny_truthy_bool q⟩
  obtain ⟨rfl, rfl, g⟩ := g
  show wpAny _ _ (dictGet d u >>= _) _ _ _
  refine wpAny_bind (getW (by rw [Around.in1_units]; omega) R hk dk ho hd (fun n => ?_) fun i e a b => ?_)
  · rw [decide_eq_false n] at g
    show wpAny _ _ (Builtin.Dict.pendingKey? d u >>= _) _ _ _
    exact wpAny_bind (wpAny_pendingKey_other lo (wpAny_pure g))
  · rw [decide_eq_true (List.mem_of_getElem? a)] at g
    show wpAny _ _ (ret (.bool true)) _ _ _
    exact wpAny_pure g
theorem itemW {Q : Value → Shared → Prop} (hu : A.units + 9 < cLine) (R : Rows w s.heap es ks) (hk : NestedIs s.heap k u) (dk : k.depth ≤ 8) (ho : s.heap.get? d = some o) (hx : o.ExactDict) (hd : o.data = .dict es ep)
    (m : k ∈ ks) (q : ∀ (i : Nat) (e : DictEntry), ks[i]? = some k → es[i]? = some e → Q e.val { s with toks := s.toks + k.draws }) : wpAny (model prog w) A (getItem (.ref d) u) Q E s := by
  have ty : s.TypeIs (.ref d) "dict" := ⟨o, ho, hx.1⟩
  refine wpAny_getItem_slot ty (by decide) F.slot_dict_getitem ?_
  refine call_meetsIn (S := fun A2 R2 s2 => A2 = A ∧ s2 = s ∧ ∀ (i : Nat) (e : DictEntry), ks[i]? = some k → es[i]? = some e → R2 (.ok (.ret e.val)) { s with toks := s.toks + k.draws }) F.slot_dict_getitem ty F.entry_dict_getitem (F.args_dict_getitem_2 _ _) (fun A2 R2 s2 g => ?_) ⟨rfl, rfl, q⟩
  obtain ⟨rfl, rfl, g⟩ := g
  show wpAny _ _ (dictGet d u >>= _) _ _ _
  exact wpAny_bind (getW (by rw [Around.in1_units]; omega) R hk dk ho hd (fun n => absurd m n) fun i e a b => wpAny_pure (g i e a b))
theorem putW {v : Value} {Q : Unit → Shared → Prop} (hu : A.units + 9 < cLine) (R : Rows w s.heap es ks) (hk : NestedIs s.heap k u) (dk : k.depth ≤ 8) (ho : s.heap.get? d = some o) (hx : o.ExactDict) (hd : o.data = .dict es ep) (hz : es.size ≤ sizeLine)
    (q0 : k ∉ ks → ∀ h' o', h'.get? d = some o' → o'.ExactDict → o'.data = .dict (es.push ⟨k.hash w, u, v⟩) (ep + 1) → Heap.SameBut d s.heap h' → Q () { s with heap := h', toks := s.toks + k.draws })
    (q1 : ∀ i, ks[i]? = some k → ∀ h' o', h'.get? d = some o' → o'.ExactDict → o'.data = .dict (es.modify i fun e => { e with val := v }) ep → Heap.SameBut d s.heap h' → Q () { s with heap := h', toks := s.toks + k.draws }) : wpAny (model prog w) A (setItem (.ref d) u v) Q E s := by
  have ty : s.TypeIs (.ref d) "dict" := ⟨o, ho, hx.1⟩
  unfold setItem
  refine wpAny_holding (wpAny_bind (wpAny_sequenceKey ty (by decide) (wpAny_bind (wpAny_callSpecial?_slot ty F.slot_dict_setitem ?_))))
  refine call_meetsIn (S := fun A2 R2 s2 => A2 = A ∧ s2 = s ∧ ∀ s', Q () s' → R2 (.ok (.ret .none)) s') F.slot_dict_setitem ty F.entry_dict_setitem (F.args_dict_setitem_3 _ _ _) (fun A2 R2 s2 g => ?_) ⟨rfl, rfl, fun s' q => wpAny_pure q⟩
  obtain ⟨rfl, rfl, g⟩ := g
  show wpAny _ _ (Builtin.Dict.notOrdered "__setitem__" _ >>= _) _ _ _
  refine wpAny_bind (wpAny_notOrdered_dict ty ?_)
  show wpAny _ _ (dictSet d u v >>= _) _ _ _
  refine wpAny_bind (setW (by rw [Around.in1_units]; omega) R hk dk ho hx hd hz (fun n h' o' a b c e => ?_) fun i a h' o' b c e f => ?_)
  · exact wpAny_pure (g _ (q0 n h' o' a b c e))
  · exact wpAny_pure (g _ (q1 i a h' o' b c e f))
theorem getMW {Q : Value → Shared → Prop} (hu : A.units + 9 < cLine) (lo : (d == sysModules) = false) (R : Rows w s.heap es ks) (hk : NestedIs s.heap k u) (dk : k.depth ≤ 8) (ho : s.heap.get? d = some o) (hx : o.ExactDict) (hd : o.data = .dict es ep)
    (q0 : k ∉ ks → Q .none { s with toks := s.toks + k.draws }) (q1 : ∀ (i : Nat) (e : DictEntry), ks[i]? = some k → es[i]? = some e → Q e.val { s with toks := s.toks + k.draws }) : wpAny (model prog w) A (call (.builtin "dict.get") [.ref d, u]) Q E s := by
  have ty : s.TypeIs (.ref d) "dict" := ⟨o, ho, hx.1⟩
  refine call_meetsIn (S := fun A2 R2 s2 => A2 = A ∧ s2 = s ∧ (k ∉ ks → R2 (.ok (.ret .none)) { s with toks := s.toks + k.draws }) ∧ ∀ (i : Nat) (e : DictEntry), ks[i]? = some k → es[i]? = some e → R2 (.ok (.ret e.val)) { s with toks := s.toks + k.draws }) F.slot_dict_get ty F.entry_dict_get (F.args_dict_get_2 _ _) (fun A2 R2 s2 g => ?_) ⟨rfl, rfl, q0, q1⟩
  obtain ⟨rfl, rfl, g0, g1⟩ := g
  show wpAny _ _ (dictGet d u >>= _) _ _ _
  refine wpAny_bind (getW (by rw [Around.in1_units]; omega) R hk dk ho hd (fun n => ?_) fun i e a b => wpAny_pure (g1 i e a b))
  show wpAny _ _ (Builtin.Dict.missed d u >>= _) _ _ _
  exact wpAny_bind (wpAny_missed_other lo (wpAny_pure (g0 n)))
theorem popMW {Q : Value → Shared → Prop} (hu : A.units + 9 < cLine) (R : Rows w s.heap es ks) (hk : NestedIs s.heap k u) (dk : k.depth ≤ 8) (ho : s.heap.get? d = some o) (hx : o.ExactDict) (hd : o.data = .dict es ep) (hz : es.size ≤ sizeLine) (m : k ∈ ks)
    (q : ∀ (i : Nat) (e : DictEntry), ks[i]? = some k → es[i]? = some e → ∀ h' o', h'.get? d = some o' → o'.ExactDict → o'.data = .dict (es.eraseIdxIfInBounds i) (ep + 1) → Heap.SameBut d s.heap h' → Q e.val { s with heap := h', toks := s.toks + k.draws }) : wpAny (model prog w) A (call (.builtin "dict.pop") [.ref d, u]) Q E s := by
  have ty : s.TypeIs (.ref d) "dict" := ⟨o, ho, hx.1⟩
  refine call_meetsIn (S := fun A2 R2 s2 => A2 = A ∧ s2 = s ∧ ∀ (i : Nat) (e : DictEntry), ks[i]? = some k → es[i]? = some e → ∀ h' o', h'.get? d = some o' → o'.ExactDict → o'.data = .dict (es.eraseIdxIfInBounds i) (ep + 1) → Heap.SameBut d s.heap h' → R2 (.ok (.ret e.val)) { s with heap := h', toks := s.toks + k.draws }) F.slot_dict_pop ty F.entry_dict_pop (F.args_dict_pop_2 _ _) (fun A2 R2 s2 g => ?_) ⟨rfl, rfl, q⟩
  obtain ⟨rfl, rfl, g⟩ := g
  unfold Builtin.«dict.pop»
  refine wpAny_bind ?_
  unfold Builtin.Dict.keyAndDefault
  refine wpAny_bind (wpAny_notOrdered_dict ty ?_)
  show wpAny _ _ (pure (d, u, none)) _ _ _
  refine wpAny_pure ?_
  dsimp only
  have full : es.isEmpty = false := by
    obtain ⟨j, ej⟩ := List.mem_iff_getElem?.mp m
    have := (List.getElem?_eq_some_iff.mp ej).1
    have z := R.sz
    rw [Array.isEmpty]
    simp
    intro c
    rw [c] at z
    simp at z
    omega
  have rest : wpAny (model prog w) A2.in1 (Builtin.Dict.takeOut d u) (fun old s3 => ∃ e, old = some e ∧ R2 (.ok (.ret e.val)) s3) (fun e s' => R2 (.error e) s') s2 := outW (by rw [Around.in1_units]; omega) R hk dk ho hx hd hz m fun i e a b h' o' c f gg hh => ⟨e, rfl, g i e a b h' o' c f gg hh⟩
  refine iteW (fun _ => wpAny_bind (wpAny_pure ?_)) fun _ => wpAny_bind (wpAny_dictEntries ho hd (wpAny_bind (wpAny_pure ?_)))
  all_goals
    first | rw [full, if_neg (by simp)] | rw [if_neg (by simp)]
    refine wpAny_bind (wpAny_mono rest (fun old s3 f => ?_) fun _ _ z => z)
    obtain ⟨e, rfl, f⟩ := f
    rw [if_neg (by simp)]
    exact wpAny_bind (wpAny_letGo (wpAny_pure f))
end
end Mix
namespace My
open PySem PySem.Spec PyProof.Rows L2
/-! dicts whose keys are any data (numbers, texts, None, tuples of these), tracked -/
mutual
def Ky.toN : Ky → NestedKey
  | .num i => .num i
  | .txt x => .text x
  | .tup ks => .tup (Ky.toNs ks)
  | _ => .none
def Ky.toNs : List Ky → List NestedKey
  | [] => []
  | k :: ks => Ky.toN k :: Ky.toNs ks
end
mutual
theorem Ky.toN_inj : ∀ x y : Ky, x.val = true → y.val = true → x.toN = y.toN → x = y
  | .num i, .num j, _, _, e => by simp only [Ky.toN] at e; cases e; rfl
  | .txt i, .txt j, _, _, e => by simp only [Ky.toN] at e; cases e; rfl
  | .non, .non, _, _, _ => rfl
  | .tup xs, .tup ys, h, g, e => by
    simp only [Ky.toN] at e
    injection e with e
    rw [Ky.toNs_inj xs ys (tup_val h).2 (tup_val g).2 e]
  | .num _, .txt _, _, _, e => by simp [Ky.toN] at e
  | .num _, .non, _, _, e => by simp [Ky.toN] at e
  | .num _, .tup _, _, _, e => by simp [Ky.toN] at e
  | .txt _, .num _, _, _, e => by simp [Ky.toN] at e
  | .txt _, .non, _, _, e => by simp [Ky.toN] at e
  | .txt _, .tup _, _, _, e => by simp [Ky.toN] at e
  | .non, .num _, _, _, e => by simp [Ky.toN] at e
  | .non, .txt _, _, _, e => by simp [Ky.toN] at e
  | .non, .tup _, _, _, e => by simp [Ky.toN] at e
  | .tup _, .num _, _, _, e => by simp [Ky.toN] at e
  | .tup _, .txt _, _, _, e => by simp [Ky.toN] at e
  | .tup _, .non, _, _, e => by simp [Ky.toN] at e
  | .bl _, _, h, _, _ => by simp [Ky.val] at h
  | .lst _, _, h, _, _ => by simp [Ky.val] at h
  | .dct, _, h, _, _ => by simp [Ky.val] at h
  | .num _, .bl _, _, h, _ => by simp [Ky.val] at h
  | .num _, .lst _, _, h, _ => by simp [Ky.val] at h
  | .num _, .dct, _, h, _ => by simp [Ky.val] at h
  | .txt _, .bl _, _, h, _ => by simp [Ky.val] at h
  | .txt _, .lst _, _, h, _ => by simp [Ky.val] at h
  | .txt _, .dct, _, h, _ => by simp [Ky.val] at h
  | .non, .bl _, _, h, _ => by simp [Ky.val] at h
  | .non, .lst _, _, h, _ => by simp [Ky.val] at h
  | .non, .dct, _, h, _ => by simp [Ky.val] at h
  | .tup _, .bl _, _, h, _ => by simp [Ky.val] at h
  | .tup _, .lst _, _, h, _ => by simp [Ky.val] at h
  | .tup _, .dct, _, h, _ => by simp [Ky.val] at h
theorem Ky.toNs_inj : ∀ xs ys : List Ky, Ky.vals xs = true → Ky.vals ys = true → Ky.toNs xs = Ky.toNs ys → xs = ys
  | [], [], _, _, _ => rfl
  | x :: xs, y :: ys, h, g, e => by
    simp only [Ky.toNs] at e
    injection e with e1 e2
    have h' : x.val = true ∧ Ky.vals xs = true := by simpa [Ky.vals] using h
    have g' : y.val = true ∧ Ky.vals ys = true := by simpa [Ky.vals] using g
    rw [Ky.toN_inj x y h'.1 g'.1 e1, Ky.toNs_inj xs ys h'.2 g'.2 e2]
  | [], _ :: _, _, _, e => by simp [Ky.toNs] at e
  | _ :: _, [], _, _, e => by simp [Ky.toNs] at e
end
mutual
theorem Ky.toN_dep : ∀ k : Ky, k.toN.depth = k.dep
  | .tup ks => by
    simp only [Ky.toN, NestedKey.depth, Ky.dep]
    rw [Ky.toNs_dep ks]
  | .num _ => by simp [Ky.toN, NestedKey.depth, Ky.dep]
  | .txt _ => by simp [Ky.toN, NestedKey.depth, Ky.dep]
  | .bl _ => by simp [Ky.toN, NestedKey.depth, Ky.dep]
  | .non => by simp [Ky.toN, NestedKey.depth, Ky.dep]
  | .lst _ => by simp [Ky.toN, NestedKey.depth, Ky.dep]
  | .dct => by simp [Ky.toN, NestedKey.depth, Ky.dep]
theorem Ky.toNs_dep : ∀ ks : List Ky, NestedKey.depthAll (Ky.toNs ks) = Ky.deps ks
  | [] => by simp [Ky.toNs, NestedKey.depthAll, Ky.deps]
  | k :: ks => by
    simp only [Ky.toNs, NestedKey.depthAll, Ky.deps]
    rw [Ky.toN_dep k, Ky.toNs_dep ks]
end
section
variable {P : Program} {w : World} {H : Hp} {h : Heap}
mutual
theorem KyAt.nested (ok : HOk P w H h) : ∀ (k : Ky) (v : V) (u : Value), k.val = true → KyAt H v k → RelV v u → NestedIs h k.toN u
  | .num i, _, u, _, x, r => by
    cases x
    obtain ⟨t, rfl⟩ := r
    exact .int i t
  | .txt y, _, u, _, x, r => by
    cases x
    obtain ⟨t, rfl⟩ := r
    exact .text y t
  | .non, _, u, _, x, r => by
    cases x
    cases r
    exact .none
  | .tup ks, _, u, g, x, r => by
    cases x with
    | tup e p =>
      cases r
      obtain ⟨_, its, rel, o, ho, hc, n, hd⟩ := ok _ _ e
      exact .tup ho hc hd (KysAt.nested ok ks _ _ (tup_val g).2 p (by simpa using rel))
  | .bl _, _, _, g, _, _ => by simp [Ky.val] at g
  | .lst _, _, _, g, _, _ => by simp [Ky.val] at g
  | .dct, _, _, g, _, _ => by simp [Ky.val] at g
theorem KysAt.nested (ok : HOk P w H h) : ∀ (ks : List Ky) (vs : List V) (us : List Value), Ky.vals ks = true → KysAt H vs ks → Vals vs us → NestedAll h (Ky.toNs ks) us
  | [], _, _, _, x, r => by
    cases x
    cases r
    exact .nil
  | k :: ks, _, _, g, x, r => by
    have g' : k.val = true ∧ Ky.vals ks = true := by simpa [Ky.vals] using g
    cases x with
    | cons x1 x2 =>
      cases r with
      | cons r1 r2 => exact .cons (KyAt.nested ok k _ _ g'.1 x1 r1) (KysAt.nested ok ks _ _ g'.2 x2 r2)
end
end
/-- what may be a key there -/
def MKey (k : Ky) : Prop := k.val = true ∧ k.dep ≤ 8
theorem KOk.mkey {k : Ky} (h : KeyOk k) : MKey k := ⟨h.val, Nat.le_trans h.d (by decide)⟩
theorem mkey_non : MKey .non := ⟨rfl, by simp [Ky.dep]⟩
def mixP (w : World) (a : Addr) (ks : List Ky) (us vs : List V) (h : Heap) : Prop := (a == sysModules) = false ∧ ks.length ≤ sizeLine ∧ ∃ o es ep, h.get? a = some o ∧ o.ExactDict ∧ o.data = .dict es ep ∧ es.size = ks.length ∧ us.length = ks.length ∧ vs.length = ks.length ∧
  ∀ (i : Nat) (e : DictEntry) (k : Ky) (u v : V), es[i]? = some e → ks[i]? = some k → us[i]? = some u → vs[i]? = some v → RelV u e.key ∧ e.hash = k.toN.hash w ∧ RelV v e.val
def mixO (w : World) (a : Addr) (ks : List Ky) (us vs : List V) : HO := .ext (mixP w a ks us vs)
/-- at a stands a dict from the keys ks to the values vs, in the order of coming -/
structure MixAt (w : World) (H : Hp) (a : Addr) (ks : List Ky) (vs : List V) : Prop where
  ex : ∃ us, H a = some (mixO w a ks us vs) ∧ KysAt H us ks
  nd : ks.Nodup
  key : ∀ k ∈ ks, MKey k
  len : vs.length = ks.length
theorem mix_ok {P : Program} {w : World} {H : Hp} {h : Heap} {a : Addr} {ks : List Ky} {us vs : List V} (p : mixP w a ks us vs h) : ObjOk P w H h a (mixO w a ks us vs) := by
  obtain ⟨_, _, o, es, ep, ho, _⟩ := id p
  refine ⟨p, ⟨o, ho⟩, fun h1 h2 q st => ?_⟩
  obtain ⟨q1, q2, o, es, ep, ho, q⟩ := q
  exact ⟨q1, q2, o, es, ep, st o ho, q⟩
theorem mix_new {w : World} {h : Heap} (lo : (h.objs.size == sysModules) = false) : mixP w h.objs.size [] [] [] (h.push { cls := .type "dict", data := .dict #[] }) :=
  ⟨lo, Nat.zero_le _, _, #[], 0, Heap.get?_push_size _ rfl, ⟨rfl, rfl, rfl⟩, rfl, rfl, rfl, rfl, fun i e k u v a _ _ _ => by simp at a⟩
theorem toN_mem {ks : List Ky} {k : Ky} (hk : k.val = true) (h : ∀ x ∈ ks, MKey x) : k.toN ∈ ks.map Ky.toN ↔ k ∈ ks := by
  constructor
  · intro m
    obtain ⟨y, my, e⟩ := List.mem_map.mp m
    rw [← Ky.toN_inj y k (h y my).1 hk e]
    exact my
  · exact fun m => List.mem_map_of_mem m
theorem toN_at {ks : List Ky} {k : Ky} (hk : k.val = true) (h : ∀ x ∈ ks, MKey x) {i : Nat} (e : (ks.map Ky.toN)[i]? = some k.toN) : ks[i]? = some k := by
  rw [List.getElem?_map] at e
  obtain ⟨y, ey, z⟩ := Option.map_eq_some_iff.mp e
  rw [ey, Ky.toN_inj y k (h y (List.mem_of_getElem? ey)).1 hk z]
theorem toN_nodup {ks : List Ky} (n : ks.Nodup) (h : ∀ x ∈ ks, MKey x) : (ks.map Ky.toN).Nodup := by
  rw [List.nodup_iff_pairwise_ne, List.pairwise_map]
  refine List.Pairwise.imp_of_mem (fun {a b} ma mb ne e => ne ?_) (List.nodup_iff_pairwise_ne.mp n)
  exact Ky.toN_inj a b (h a ma).1 (h b mb).1 e
theorem KysAt.get' {H : Hp} {ks : List Ky} {us : List V} {i : Nat} {k : Ky} (h : KysAt H us ks) (e : ks[i]? = some k) : ∃ u, us[i]? = some u ∧ KyAt H u k := by
  have hi := (List.getElem?_eq_some_iff.mp e).1
  have hu : i < us.length := by rw [KysAt.len h]; exact hi
  obtain ⟨k2, e2, q⟩ := h.get (List.getElem?_eq_getElem hu)
  rw [e] at e2
  cases e2
  exact ⟨_, List.getElem?_eq_getElem hu, q⟩
section
variable {X : Cx} {pins : List (Addr × Obj)} {σ : L2.St} {H : Hp} {s : Shared} {a : Addr} {ks : List Ky} {vs us : List V}
/-- its entries, as the library sees them -/
theorem mix_rows (I : Inv X pins σ H s) (e : H a = some (mixO X.w a ks us vs)) (hu : KysAt H us ks) (nd : ks.Nodup) (hk : ∀ k ∈ ks, MKey k) : ∃ o es ep, (a == sysModules) = false ∧ es.size ≤ sizeLine ∧ s.heap.get? a = some o ∧ o.ExactDict ∧ o.data = .dict es ep ∧ Mix.Rows X.w s.heap es (ks.map Ky.toN) ∧
    vs.length = ks.length ∧ (∀ (i : Nat) (e : DictEntry) (u : V), es[i]? = some e → us[i]? = some u → RelV u e.key) ∧ ∀ (i : Nat) (e : DictEntry) (v : V), es[i]? = some e → vs[i]? = some v → RelV v e.val := by
  obtain ⟨lo, ln, o, es, ep, ho, hx, hd, sz, lu, lv, at_⟩ := (I.hok a _ e).1
  have full : ∀ (i : Nat) (e : DictEntry), es[i]? = some e → ∃ k u v, ks[i]? = some k ∧ us[i]? = some u ∧ vs[i]? = some v := fun i e a => by
    have hi : i < ks.length := by rw [← sz]; exact (Array.getElem?_eq_some_iff.mp a).1
    exact ⟨_, _, _, List.getElem?_eq_getElem hi, List.getElem?_eq_getElem (by rw [lu]; exact hi), List.getElem?_eq_getElem (by rw [lv]; exact hi)⟩
  refine ⟨o, es, ep, lo, by rw [sz]; exact ln, ho, hx, hd, ⟨by rw [List.length_map]; exact sz, fun i n e a b => ?_, toN_nodup nd hk⟩, lv, fun i e u a b => ?_, fun i e v a b => ?_⟩
  · obtain ⟨k, u, v, e1, e2, e3⟩ := full i e b
    obtain ⟨q1, q2, q3⟩ := at_ i e k u v b e1 e2 e3
    rw [List.getElem?_map, e1] at a
    cases a
    have mk := hk k (List.mem_of_getElem? e1)
    obtain ⟨k2, e4, q⟩ := hu.get e2
    rw [e1] at e4
    cases e4
    exact ⟨KyAt.nested I.hok k u _ mk.1 q q1, q2, by rw [Ky.toN_dep]; exact mk.2⟩
  · obtain ⟨k, u2, v, e1, e2, e3⟩ := full i e a
    rw [b] at e2
    cases e2
    exact (at_ i e k u v a e1 b e3).1
  · obtain ⟨k, u, v2, e1, e2, e3⟩ := full i e a
    rw [b] at e3
    cases e3
    exact (at_ i e k u v a e1 e2 b).2.2
/-- written: the entries that it has then -/
theorem mix_write {h' : Heap} {t' : Nat} {ks' : List Ky} {us' vs' : List V} (I : Inv X pins σ H s) (e : H a = some (mixO X.w a ks us vs)) (sb : Heap.SameBut a s.heap h') (p : mixP X.w a ks' us' vs' h') : Inv X pins σ (upd H a (mixO X.w a ks' us' vs')) { s with heap := h', toks := t' } := by
  obtain ⟨_, _, o, es, ep, ho, _⟩ := id p
  exact d_write I (by rw [e]; exact True.intro) sb ⟨o, ho⟩ (mix_ok p)
theorem mix_keep {ks2 : List Ky} {us2 : List V} {o : HO} (e : H a = some (mixO X.w a ks us vs)) (v : Ky.vals ks2 = true) (h : KysAt H us2 ks2) : KysAt (upd H a o) us2 ks2 := KysAt.keep but_one (noTup_one e fun _ z => by cases z) _ _ v h
end
/-! the rules -/
def rInM (w : World) : R2 := fun x y H Q => ∃ (k : Ky) (d : Addr) (ks : List Ky) (vs : List V), y = .ref d ∧ KyAt H x k ∧ MKey k ∧ MixAt w H d ks vs ∧ Q (.bl (decide (k ∈ ks))) H
def rNotInM (w : World) : R2 := fun x y H Q => ∃ (k : Ky) (d : Addr) (ks : List Ky) (vs : List V), y = .ref d ∧ KyAt H x k ∧ MKey k ∧ MixAt w H d ks vs ∧ Q (.bl (!decide (k ∈ ks))) H
def rIxM (w : World) : R2 := fun x y H Q => ∃ (k : Ky) (d : Addr) (ks : List Ky) (vs : List V) (i : Nat) (v : V), x = .ref d ∧ KyAt H y k ∧ MKey k ∧ MixAt w H d ks vs ∧ ks[i]? = some k ∧ vs[i]? = some v ∧ Q v H
/-- the keys, the values behind d[k] = v -/
def putKs (ks : List Ky) (k : Ky) : List Ky := if k ∈ ks then ks else ks ++ [k]
def putVs (ks : List Ky) (vs : List V) (k : Ky) (v : V) : List V := if k ∈ ks then vs.set (ks.idxOf k) v else vs ++ [v]
def rSetM (w : World) : TSet := fun x y v H R => ∃ (k : Ky) (d : Addr) (ks : List Ky) (vs : List V), x = .ref d ∧ KyAt H y k ∧ MKey k ∧ MixAt w H d ks vs ∧ ks.length < sizeLine ∧ ∀ o, MixAt w (upd H d o) d (putKs ks k) (putVs ks vs k v) → (∀ xs, o ≠ .tup xs) → R (upd H d o)
def rGetM (w : World) : V → List V → Hp → VK → Prop := fun x ys H Q => ∃ (y : V) (k : Ky) (d : Addr) (ks : List Ky) (vs : List V), x = .ref d ∧ ys = [y] ∧ KyAt H y k ∧ MKey k ∧ MixAt w H d ks vs ∧ (k ∉ ks → Q .non H) ∧ ∀ (i : Nat) (v : V), ks[i]? = some k → vs[i]? = some v → Q v H
def rPopM (w : World) : V → List V → Hp → VK → Prop := fun x ys H Q => ∃ (y : V) (k : Ky) (d : Addr) (ks : List Ky) (vs : List V) (i : Nat) (v : V), x = .ref d ∧ ys = [y] ∧ KyAt H y k ∧ MKey k ∧ MixAt w H d ks vs ∧ ks[i]? = some k ∧ vs[i]? = some v ∧ ∀ o, MixAt w (upd H d o) d (ks.eraseIdx i) (vs.eraseIdx i) → (∀ xs, o ≠ .tup xs) → Q v (upd H d o)
def rClearM (w : World) : V → List V → Hp → VK → Prop := fun x ys H Q => ∃ (d : Addr) (ks : List Ky) (vs : List V), x = .ref d ∧ ys = [] ∧ MixAt w H d ks vs ∧ ∀ o, MixAt w (upd H d o) d [] [] → (∀ xs, o ≠ .tup xs) → Q .non (upd H d o)
def rLenM (w : World) : List V → Hp → VK → Prop := fun xs H Q => ∃ (d : Addr) (ks : List Ky) (vs : List V), xs = [.ref d] ∧ MixAt w H d ks vs ∧ Q (.int (ks.length : Nat)) H
def rListM (w : World) : List V → Hp → VK → Prop := fun xs H Q => ∃ (d : Addr) (ks : List Ky) (vs : List V), xs = [.ref d] ∧ MixAt w H d ks vs ∧ ∀ p us, Fresh H p → KysAt (upd H p (.lst us)) us ks → Q (.ref p) (upd H p (.lst us))
def tDNewM (w : World) : TE := fun _ H Q => ∀ p o, Fresh H p → MixAt w (upd H p o) p [] [] → Q (.ref p) (upd H p o)
section
variable {X : Cx}
theorem op_inM (hu : X.A.units + 65 < cLine) : OpR X (compareOp .In) (rInM X.w) := by
  intro pins s σ H x y v u Q I rx ry h
  obtain ⟨k, d, ks, vs, rfl, hk, mk, ⟨⟨us, e, hus⟩, nd, ky, _⟩, q⟩ := h
  cases ry
  obtain ⟨o, es, ep, lo, z, ho, hx, hd, R, lv, _, _⟩ := mix_rows I e hus nd ky
  show wpAny _ _ (contains (.ref d) v >>= fun b => pure (Value.bool b)) _ _ _
  refine wpAny_bind (Mix.inW (by omega) lo R (KyAt.nested I.hok k x v mk.1 hk rx) (by rw [Ky.toN_dep]; exact mk.2) ho hx hd (wpAny_pure ⟨.bl (decide (k ∈ ks)), H, I.tok _, ?_, q⟩))
  show Value.bool _ = Value.bool _
  rw [decide_eq_decide.mpr (toN_mem mk.1 ky)]
theorem op_notInM (hu : X.A.units + 65 < cLine) : OpR X (compareOp .NotIn) (rNotInM X.w) := by
  intro pins s σ H x y v u Q I rx ry h
  obtain ⟨k, d, ks, vs, rfl, hk, mk, ⟨⟨us, e, hus⟩, nd, ky, _⟩, q⟩ := h
  cases ry
  obtain ⟨o, es, ep, lo, z, ho, hx, hd, R, lv, _, _⟩ := mix_rows I e hus nd ky
  show wpAny _ _ (contains (.ref d) v >>= fun b => pure (Value.bool (!b))) _ _ _
  refine wpAny_bind (Mix.inW (by omega) lo R (KyAt.nested I.hok k x v mk.1 hk rx) (by rw [Ky.toN_dep]; exact mk.2) ho hx hd (wpAny_pure ⟨.bl (!decide (k ∈ ks)), H, I.tok _, ?_, q⟩))
  show Value.bool _ = Value.bool _
  rw [decide_eq_decide.mpr (toN_mem mk.1 ky)]
theorem ix_mix (hu : X.A.units + 65 < cLine) : IxR X (rIxM X.w) := by
  intro value slice pins s σ H x y v u Q I rx ry h hs
  obtain ⟨k, d, ks, vs, i, w', rfl, hk, mk, ⟨⟨us, e, hus⟩, nd, ky, _⟩, e1, e2, q⟩ := h
  cases rx
  obtain ⟨o, es, ep, lo, z, ho, hx, hd, R, lv, _, rv⟩ := mix_rows I e hus nd ky
  have hi : i < es.size := by rw [R.sz, List.length_map]; exact (List.getElem?_eq_some_iff.mp e1).1
  have ei : es[i]? = some es[i] := Array.getElem?_eq_getElem hi
  refine subscriptTail_builtinR (x := es[i].val) (id := "dict.__getitem__") ⟨o, ho, hx.1⟩ PySem.F.slot_dict_getitem.lookup (Mix.itemW (by omega) R (KyAt.nested I.hok k y u mk.1 hk ry) (by rw [Ky.toN_dep]; exact mk.2) ho hx hd (List.mem_map_of_mem (List.mem_of_getElem? e1)) fun j e a b => ?_) hs
  have ej : j = i := Mix.nodup_ix nd (toN_at mk.1 ky a) e1
  subst ej
  rw [ei] at b
  cases b
  exact ⟨rfl, w', H, I.tok _, rv j _ _ ei e2, q⟩
end
end My
namespace My
open PySem PySem.Spec PyProof.Rows L2
theorem vals_ix : ∀ {xs : List V} {us : List Value}, xs.length = us.length → (∀ (i : Nat) x u, xs[i]? = some x → us[i]? = some u → RelV x u) → Vals xs us
  | [], [], _, _ => .nil
  | x :: xs, u :: us, l, h => .cons (h 0 x u rfl rfl) (vals_ix (by simpa using l) fun i y z a b => h (i + 1) y z (by simpa using a) (by simpa using b))
  | [], _ :: _, l, _ => by simp at l
  | _ :: _, [], l, _ => by simp at l
theorem idx_of {ks : List Ky} {k : Ky} {i : Nat} (nd : ks.Nodup) (e : ks[i]? = some k) : ks.idxOf k = i := by
  have m := List.mem_of_getElem? e
  have h : ks.idxOf k < ks.length := List.idxOf_lt_length_of_mem m
  have g : ks[ks.idxOf k]? = some k := by
    rw [List.getElem?_eq_getElem h]
    congr 1
    exact List.getElem_idxOf h
  exact Mix.nodup_ix nd g e
theorem putKs_len (ks : List Ky) (k : Ky) : (putKs ks k).length ≤ ks.length + 1 := by
  unfold putKs
  split
  · omega
  · rw [List.length_append]; exact Nat.le_refl _
theorem putKs_mem {ks : List Ky} {k y : Ky} : y ∈ putKs ks k ↔ y ∈ ks ∨ y = k := by
  unfold putKs
  split
  · rename_i h
    exact ⟨.inl, fun q => q.elim id fun e => by rw [e]; exact h⟩
  · simp
theorem putKs_nd {ks : List Ky} {k : Ky} (h : ks.Nodup) : (putKs ks k).Nodup := by
  unfold putKs
  split
  · exact h
  · rename_i n
    rw [List.nodup_append]
    exact ⟨h, by simp, fun x hx y hy e => n (by simp at hy; rw [← hy, ← e]; exact hx)⟩
theorem snoc_at {α : Type} {l : List α} {x y : α} {i : Nat} (h : (l ++ [x])[i]? = some y) : l[i]? = some y ∨ (i = l.length ∧ y = x) := by
  by_cases c : i < l.length
  · rw [List.getElem?_append_left c] at h
    exact .inl h
  · rw [List.getElem?_append_right (by omega)] at h
    have hi := (List.getElem?_eq_some_iff.mp h).1
    simp at hi
    have e : i = l.length := by omega
    subst e
    rw [Nat.sub_self] at h
    cases h
    exact .inr ⟨rfl, rfl⟩
theorem snoc_old {α : Type} {l : List α} {x y : α} {i : Nat} (h : (l ++ [x])[i]? = some y) (n : i < l.length) : l[i]? = some y := by
  rcases snoc_at h with h | ⟨e, -⟩
  · exact h
  · omega
theorem snoc_new {α : Type} {l : List α} {x y : α} {i : Nat} (h : (l ++ [x])[i]? = some y) (n : i = l.length) : y = x := by
  rcases snoc_at h with h | ⟨-, e⟩
  · have := (List.getElem?_eq_some_iff.mp h).1
    omega
  · exact e
section
variable {X : Cx}
theorem set_mix (hu : X.A.units + 65 < cLine) : PSet X (rSetM X.w) := by
  intro pins s σ H x y v ov iv u Q I ro ri rv h
  obtain ⟨k, d, ks, vs, rfl, hk, mk, ⟨⟨us, e, hus⟩, nd, ky, lv⟩, ln, q⟩ := h
  cases ro
  have ho0 := (I.hok d _ e).1
  obtain ⟨-, -, o0, es0, ep0, g0, -, g2, sz, lu, -, at0⟩ := ho0
  obtain ⟨o, es, ep, lo, z, ho, hx, hd, R, -, ru, rv'⟩ := mix_rows I e hus nd ky
  rw [ho] at g0
  cases g0
  rw [hd] at g2
  cases g2
  have vk : Ky.vals ks = true := vals_iff.mpr fun k m => (ky k m).1
  refine Mix.putW (by omega) R (KyAt.nested I.hok k y iv mk.1 hk ri) (by rw [Ky.toN_dep]; exact mk.2) ho hx hd z (fun n h' o' ho' hx' hd' sb => ?_) fun i a h' o' ho' hx' hd' sb => ?_
  · have nk : k ∉ ks := fun m => n (List.mem_map_of_mem m)
    have p : mixP X.w d (ks ++ [k]) (us ++ [y]) (vs ++ [v]) h' := by
      refine ⟨lo, by rw [List.length_append, List.length_singleton]; omega, o', _, _, ho', hx', hd', by rw [Array.size_push, sz, List.length_append]; rfl, by rw [List.length_append, List.length_append, lu]; rfl, by rw [List.length_append, List.length_append, lv]; rfl, fun j e2 k2 u2 v2 a b c f => ?_⟩
      by_cases hj : j < ks.length
      · rw [Array.getElem?_push, if_neg (by omega)] at a
        exact at0 j e2 k2 u2 v2 a (snoc_old b hj) (snoc_old c (by omega)) (snoc_old f (by omega))
      · have hj2 : j = ks.length := by
          have := (List.getElem?_eq_some_iff.mp b).1
          rw [List.length_append, List.length_singleton] at this
          omega
        rw [Array.getElem?_push, if_pos (by omega)] at a
        cases a
        rw [snoc_new b hj2, snoc_new c (by omega), snoc_new f (by omega)]
        exact ⟨ri, rfl, rv⟩
    refine ⟨_, mix_write I e sb p, q _ ⟨⟨us ++ [y], ?_, ?_⟩, putKs_nd nd, fun x m => (putKs_mem.mp m).elim (ky x) fun z => by rw [z]; exact mk, ?_⟩ fun _ z => by cases z⟩
    · unfold putKs putVs
      rw [if_neg nk, if_neg nk]
      exact upd_same
    · unfold putKs
      rw [if_neg nk]
      exact (mix_keep e vk hus).append (.cons (KyAt.keep but_one (noTup_one e fun _ z => by cases z) _ _ mk.1 hk) .nil)
    · unfold putKs putVs
      rw [if_neg nk, if_neg nk, List.length_append, List.length_append, lv]
      rfl
  · have ea := toN_at mk.1 ky a
    have m := List.mem_of_getElem? ea
    have ix := idx_of nd ea
    have p : mixP X.w d ks us (vs.set i v) h' := by
      refine ⟨lo, by omega, o', _, _, ho', hx', hd', by rw [Array.size_modify, sz], lu, by rw [List.length_set, lv], fun j e2 k2 u2 v2 a b c f => ?_⟩
      rw [Array.getElem?_modify] at a
      have hj := (List.getElem?_eq_some_iff.mp b).1
      rw [List.getElem?_set] at f
      split at a <;> rename_i cc
      · obtain ⟨e3, he, rfl⟩ := Option.map_eq_some_iff.mp a
        rw [if_pos cc, if_pos (by omega)] at f
        cases f
        obtain ⟨v3, hv3⟩ : ∃ v3, vs[j]? = some v3 := ⟨_, List.getElem?_eq_getElem (by omega)⟩
        obtain ⟨w1, w2, -⟩ := at0 j e3 k2 u2 v3 he b c hv3
        exact ⟨w1, w2, rv⟩
      · rw [if_neg cc] at f
        exact at0 j e2 k2 u2 v2 a b c f
    refine ⟨_, mix_write I e sb p, q _ ⟨⟨us, ?_, ?_⟩, putKs_nd nd, fun x m => (putKs_mem.mp m).elim (ky x) fun z => by rw [z]; exact mk, ?_⟩ fun _ z => by cases z⟩
    · unfold putKs putVs
      rw [if_pos m, if_pos m, ix]
      exact upd_same
    · unfold putKs
      rw [if_pos m]
      exact mix_keep e vk hus
    · unfold putKs putVs
      rw [if_pos m, if_pos m, List.length_set, lv]
theorem mt_getM (hu : X.A.units + 65 < cLine) : MtR X "dict.get" (rGetM X.w) := by
  intro pins s σ H x ys v us0 Q I rx rs h
  obtain ⟨y, k, d, ks, vs, rfl, rfl, hk, mk, ⟨⟨us, e, hus⟩, nd, ky, lv⟩, q0, q1⟩ := h
  cases rx
  obtain ⟨u, rfl, ry⟩ := vals1 rs
  obtain ⟨o, es, ep, lo, z, ho, hx, hd, R, -, ru, rv⟩ := mix_rows I e hus nd ky
  refine Mix.getMW (by omega) lo R (KyAt.nested I.hok k y u mk.1 hk ry) (by rw [Ky.toN_dep]; exact mk.2) ho hx hd (fun n => ?_) fun i e2 a b => ?_
  · exact ⟨.non, H, I.tok _, rfl, q0 fun m => n (List.mem_map_of_mem m)⟩
  · have ea := toN_at mk.1 ky a
    have hi := (List.getElem?_eq_some_iff.mp ea).1
    obtain ⟨v, hv⟩ : ∃ v, vs[i]? = some v := ⟨_, List.getElem?_eq_getElem (by omega)⟩
    exact ⟨v, H, I.tok _, rv i e2 v b hv, q1 i v ea hv⟩
theorem mt_popM (hu : X.A.units + 65 < cLine) : MtR X "dict.pop" (rPopM X.w) := by
  intro pins s σ H x ys v us0 Q I rx rs h
  obtain ⟨y, k, d, ks, vs, i, v0, rfl, rfl, hk, mk, ⟨⟨us, e, hus⟩, nd, ky, lv⟩, e1, e2, q⟩ := h
  cases rx
  obtain ⟨u, rfl, ry⟩ := vals1 rs
  have ho0 := (I.hok d _ e).1
  obtain ⟨-, -, o0, es0, ep0, g0, -, g2, sz, lu, -, at0⟩ := ho0
  obtain ⟨o, es, ep, lo, z, ho, hx, hd, R, -, ru, rv'⟩ := mix_rows I e hus nd ky
  rw [ho] at g0
  cases g0
  rw [hd] at g2
  cases g2
  have vk : Ky.vals ks = true := vals_iff.mpr fun k m => (ky k m).1
  refine Mix.popMW (by omega) R (KyAt.nested I.hok k y u mk.1 hk ry) (by rw [Ky.toN_dep]; exact mk.2) ho hx hd z (List.mem_map_of_mem (List.mem_of_getElem? e1)) fun j e3 a b h' o' ho' hx' hd' sb => ?_
  have ej : j = i := Mix.nodup_ix nd (toN_at mk.1 ky a) e1
  subst ej
  have hj := (List.getElem?_eq_some_iff.mp e1).1
  have p : mixP X.w d (ks.eraseIdx j) (us.eraseIdx j) (vs.eraseIdx j) h' := by
    refine ⟨lo, by rw [List.length_eraseIdx]; split <;> omega, o', _, _, ho', hx', hd', ?_, ?_, ?_, fun n e4 k2 u2 v2 a b c f => ?_⟩
    · rw [← Array.length_toList, Mix.erase_list, List.length_eraseIdx, List.length_eraseIdx, Array.length_toList, sz]
    · rw [List.length_eraseIdx, List.length_eraseIdx, lu]
    · rw [List.length_eraseIdx, List.length_eraseIdx, lv]
    · rw [← Array.getElem?_toList, Mix.erase_list] at a
      rw [List.getElem?_eraseIdx] at a b c f
      split at a <;> rename_i cc
      · rw [if_pos cc] at b c f
        rw [Array.getElem?_toList] at a
        exact at0 n e4 k2 u2 v2 a b c f
      · rw [if_neg cc] at b c f
        rw [Array.getElem?_toList] at a
        exact at0 (n + 1) e4 k2 u2 v2 a b c f
  have kys : ∀ {ks : List Ky} {us : List V} (j : Nat), KysAt H us ks → KysAt H (us.eraseIdx j) (ks.eraseIdx j) := by
    intro ks
    induction ks with
    | nil => intro us j h; cases h; exact .nil
    | cons k ks ih =>
      intro us j h
      cases h with
      | cons h t =>
        cases j with
        | zero => exact t
        | succ j => exact .cons h (ih j t)
  have sub := List.eraseIdx_sublist ks j
  have ky' : ∀ x ∈ ks.eraseIdx j, MKey x := fun x m => ky x (sub.subset m)
  exact ⟨v0, _, mix_write I e sb p, rv' j e3 v0 b e2, q _ ⟨⟨us.eraseIdx j, upd_same, mix_keep e (vals_iff.mpr fun k m => (ky' k m).1) (kys j hus)⟩, nd.sublist sub, ky', by rw [List.length_eraseIdx, List.length_eraseIdx, lv]⟩ fun _ z => by cases z⟩
theorem mt_clearM : MtR X "dict.clear" (rClearM X.w) := by
  intro pins s σ H x ys v us0 Q I rx rs h
  obtain ⟨d, ks, vs, rfl, rfl, ⟨⟨us, e, hus⟩, nd, ky, lv⟩, q⟩ := h
  cases rx
  cases rs
  obtain ⟨o, es, ep, lo, z, ho, hx, hd, R, -, ru, rv⟩ := mix_rows I e hus nd ky
  refine call_meetsIn PySem.F.slot_dict_clear ⟨o, ho, hx.1⟩ PySem.F.entry_dict_clear (PySem.F.args_dict_clear_1 _) (PySem.meets_dict_clear_raw d) ⟨es, ep, ⟨o, ho, hx, hd⟩, z, fun h' r sb => ?_⟩
  obtain ⟨o', ho', hx', hd'⟩ := r
  have p : mixP X.w d [] [] [] h' := ⟨lo, Nat.zero_le _, o', _, _, ho', hx', hd', rfl, rfl, rfl, fun i e k u v a _ _ _ => by simp at a⟩
  exact ⟨.non, _, mix_write (t' := s.toks) I e sb p, rfl, q _ ⟨⟨[], upd_same, .nil⟩, .nil, (fun _ m => by cases m), rfl⟩ fun _ z => by cases z⟩
theorem call_lenM : CallR X (.builtin "len") (rLenM X.w) := by
  intro pins s σ H xs us0 Q I r h
  obtain ⟨d, ks, vs, rfl, ⟨⟨us, e, hus⟩, nd, ky, lv⟩, q⟩ := h
  obtain ⟨u, rfl, rx⟩ := vals1 r
  cases rx
  obtain ⟨o, es, ep, lo, z, ho, hx, hd, R, -, ru, rv⟩ := mix_rows I e hus nd ky
  have sz := R.sz
  rw [List.length_map] at sz
  rw [sizeLine_eq] at z
  refine call_len_slot (n := (es.size : Nat)) ⟨o, ho, hx.1⟩ PySem.F.slot_dict_len (fun Q' q' => PySem.call_len_raw lo ⟨o, ho, hx, hd⟩ q') (by omega) (by omega) ⟨.int (ks.length : Nat), H, I.tok _, ?_, q⟩
  rw [sz]
  exact ⟨_, rfl⟩
theorem call_listM (hc : X.calm = true) : CallR X (.type "list") (rListM X.w) := by
  intro pins s σ H xs us0 Q I r h
  obtain ⟨d, ks, vs, rfl, ⟨⟨us, e, hus⟩, nd, ky, lv⟩, q⟩ := h
  obtain ⟨u, rfl, rx⟩ := vals1 r
  cases rx
  obtain ⟨o, es, ep, lo, z, ho, hx, hd, R, -, ru, rv⟩ := mix_rows I e hus nd ky
  have sz := R.sz
  rw [List.length_map] at sz
  have lu := KysAt.len hus
  refine PySem.W.kdl_call (PySem.KdlSrc.rawDict (es := es) (ep := ep) lo) (I.ok.hd hc) ⟨o, ho, hx, hd⟩ z fun h' tk acc c' hk hD hacc => ?_
  have hv : Vals us acc.toList := vals_ix (lu.trans (sz.symm.trans (hacc.1.symm.trans Array.length_toList.symm))) fun i x u a b => by
    obtain ⟨hi, rfl⟩ := hacc.2 i u (by rw [← Array.getElem?_toList]; exact b)
    exact ru i _ x (Array.getElem?_eq_getElem hi) a
  have fr : Fresh H s.heap.objs.size := I.hok.fresh (Nat.le_refl _)
  exact ⟨.ref s.heap.objs.size, _, I.laid (t' := tk) hk (Nat.le_refl _) (show ObjOk X.prog X.w _ h' _ (.lst us) from ⟨by rw [lu, ← sz]; exact z, acc.toList, c', hv, by rw [Array.toArray_toList]; exact hD⟩), rfl, q _ us fr (hus.same (Same_upd (Same.refl _) fr) _ _)⟩
theorem pe_dnewM {pos : Pos} : PE X (.Dict [] [] pos) (tDNewM X.w) := by
  refine ⟨fun pins s σ H Q I h => wpAny_Dict_empty ?_⟩
  have lo : (s.heap.objs.size == sysModules) = false := beq_eq_false_iff_ne.mpr (Nat.ne_of_gt I.big)
  have fr : Fresh H s.heap.objs.size := I.hok.fresh (Nat.le_refl _)
  exact ⟨.ref s.heap.objs.size, _, I.laid (t' := s.toks) (fun _ _ q => Heap.get?_push_of_some _ q) (Nat.le_refl _) (mix_ok (mix_new lo)), rfl, h _ _ fr ⟨⟨[], upd_same, .nil⟩, .nil, (fun _ m => by cases m), rfl⟩⟩
/-- the receiver is such a dict -/
def IsMix (w : World) (H : Hp) (x : V) : Prop := ∃ d ks us vs, x = .ref d ∧ H d = some (mixO w d ks us vs)
theorem MixAt.isM {w : World} {H : Hp} {d : Addr} {ks : List Ky} {vs : List V} (m : MixAt w H d ks vs) : IsMix w H (.ref d) := by
  obtain ⟨us, e, -⟩ := m.ex
  exact ⟨d, ks, us, vs, rfl, e⟩
def tMM0 (w : World) (r : V → List V → Hp → VK → Prop) (to : TE) : TE := fun σ H Q => to σ H fun x H1 => IsMix w H1 x ∧ r x [] H1 Q
def tMM (w : World) (r : V → List V → Hp → VK → Prop) (to : TE) (t : TA) : TE := fun σ H Q => to σ H fun x H1 => IsMix w H1 x ∧ t σ H1 fun xs H2 => r x xs H2 Q
variable {o e : Expr} {es : List Expr} {to : TE} {t : TA} {name : Str} {apos cpos : Pos} {id : String} {r : V → List V → Hp → VK → Prop}
theorem isMix_ty {pins : List (Addr × Obj)} {σ : L2.St} {H : Hp} {s : Shared} {x : V} {v : Value} (I : Inv X pins σ H s) (rx : RelV x v) (m : IsMix X.w H x) : s.TypeIs v "dict" ∧ ∀ b, v = .ref b → ∃ ob, s.heap.get? b = some ob ∧ ob.dict = none := by
  obtain ⟨d, ks, us, vs, rfl, e⟩ := m
  cases rx
  obtain ⟨-, -, o, es, ep, ho, hx, -⟩ := (I.hok d _ e).1
  refine ⟨⟨o, ho, hx.1⟩, fun b eb => ?_⟩
  cases eb
  exact ⟨o, ho, hx.2.1⟩
theorem pe_mm0 (slot : Slot "dict" name id) (hty : typeOf (.builtin id) = pure (.type "method_descriptor")) (hm : MtR X id r) (ho : PE X o to)
    (hbase : attributeBase o name X.env (eval o X.env) = eval o X.env := by rfl) (hline : (apos.endLine == cpos.line) = true := by rfl) : PE X (.Call (.Attribute o name apos) [] [] cpos) (tMM0 X.w r to) := by
  refine ⟨fun pins s σ H Q I h => wpAny_Call_method0_late hbase hline (thn (ho.run pins s σ H _ I h) fun v s1 g => ?_)⟩
  obtain ⟨x, H1, I1, r1, ty, q1⟩ := g
  obtain ⟨h1, h2⟩ := isMix_ty I1 r1 ty
  exact ⟨"dict", id, PySem.F.plainAttrs_dict, slot, hty, h1, h2, Calls.callWith_builtin rfl (PySem.evalArgs_none (hm pins s1 σ H1 x [] v [] Q I1 r1 .nil q1))⟩
theorem pe_mm (slot : Slot "dict" name id) (hty : typeOf (.builtin id) = pure (.type "method_descriptor")) (hm : MtR X id r) (ho : PE X o to) (ha : PA X [e] t)
    (hbase : attributeBase o name X.env (eval o X.env) = eval o X.env := by rfl) (hline : (apos.endLine == cpos.line) = true := by rfl) (hs : starEach [e] X.env = [(false, eval e X.env)] := by rfl) :
    PE X (.Call (.Attribute o name apos) [e] [] cpos) (tMM X.w r to t) := by
  refine ⟨fun pins s σ H Q I h => wpAny_Call_method1_late hbase hline (by rw [hs]; rfl) (thn (ho.run pins s σ H _ I h) fun v s1 g => ?_)⟩
  obtain ⟨x, H1, I1, r1, ty, q1⟩ := g
  obtain ⟨h1, h2⟩ := isMix_ty I1 r1 ty
  refine ⟨"dict", id, PySem.F.plainAttrs_dict, slot, hty, h1, h2, ?_⟩
  have hA := ha.run cpos pins s1 σ H1 _ I1 q1
  rw [hs] at hA
  refine Calls.callWith_builtin rfl (Calls.evalArgs_plain ?_)
  exact thn hA fun us s2 g => by
    obtain ⟨vs, H2, I2, r2, q2⟩ := g
    exact hm pins s2 σ H2 x vs v us Q I2 r1 r2 q2
end
end My
namespace My
open PySem PySem.Spec PyProof.Rows L2
/-! cells of a row with gaps -/
structure CWf (row : List Ky) (j : Nat) (cs : List Int) : Prop where
  len : cs.length = 2 ^ j
  j3 : 3 ≤ j
  j12 : j ≤ 12
  rl : (row.length : Int) ≤ 2 * 2 ^ j / 3
  cnt : 2 ^ j ≤ cs.count (-1) + row.length
  cell : ∀ s : Int, 0 ≤ s → s < 2 ^ j → getI cs s = -1 ∨ getI cs s = -2 ∨ (0 ≤ getI cs s ∧ getI cs s < row.length ∧ ∃ k, row[(getI cs s).toNat]? = some k ∧ k ≠ .non)
  inj : ∀ s t : Int, 0 ≤ s → s < 2 ^ j → 0 ≤ t → t < 2 ^ j → getI cs s = getI cs t → 0 ≤ getI cs s → s = t
  ahead : ∀ (p : Nat) k, row[p]? = some k → k ≠ .non → ∃ n : Nat, n < 2 ^ j ∧ getI cs (probeF k.stamp (2 ^ j) n) = p ∧ ∀ t : Nat, t < n → getI cs (probeF k.stamp (2 ^ j) t) ≠ -1
  nd : ∀ (p q : Nat) k, row[p]? = some k → row[q]? = some k → k ≠ .non → p = q
  rok : RowOk row
section
variable {row : List Ky} {j : Nat} {cs : List Int} {y : Ky}
theorem room_lt {j : Nat} {n : Nat} (h : (n : Int) ≤ 2 * 2 ^ j / 3) : n < 2 ^ j := by
  have := pow_cast j
  have : (0 : Int) < 2 ^ j := (pow_le (Nat.le_refl j)).1
  omega
theorem CWf.mem (h : CWf row j cs) : (-1) ∈ cs := by
  have := h.cnt
  have := room_lt h.rl
  exact List.count_pos_iff.mp (by omega)
theorem CWf.ok (h : CWf row j cs) : CellsOk cs row.length := fun s h0 h1 => by
  have := pow_cast j
  have := h.len
  rcases h.cell s h0 (by omega) with q | q | ⟨q1, q2, _⟩
  · exact .inl q
  · exact .inr (.inl q)
  · exact .inr (.inr ⟨q1, q2⟩)
theorem CWf.lt (h : CWf row j cs) : row.length ≤ 2730 := by
  have := h.rl
  have := (pow_le h.j12).2
  simp only [Int.reducePow] at this
  omega
/-- the place at which a paper ends -/
def placeO (cs : List Int) (ks : List Ky) (j : Nat) (k : Ky) : Option Nat := if lastCell cs ks j k = -1 then none else some (lastCell cs ks j k).toNat
theorem CWf.last (h : CWf row j cs) (y : Ky) : stopB cs row j y (paperN cs row j y - 1) = true := (paperN_range cs row j y).2.2.2.2 (stop_ex h.j12 h.len h.mem)
theorem CWf.last_cases (h : CWf row j cs) (y : Ky) : lastCell cs row j y = -1 ∨ ∃ p : Nat, lastCell cs row j y = p ∧ row[p]? = some y := by
  have s := h.last y
  obtain ⟨n0, n1, -⟩ := paperN_range cs row j y
  obtain ⟨r0, r1⟩ := probe_range y.stamp ((paperN cs row j y - 1 : Nat) : Int) h.j12
  have c := h.cell _ r0 r1
  unfold stopB at s
  unfold lastCell
  generalize getI cs (probeF y.stamp (2 ^ j) ((paperN cs row j y - 1 : Nat) : Int)) = z at *
  rcases c with rfl | rfl | ⟨q1, q2, k, q3, q4⟩
  · exact .inl rfl
  · simp at s
  · right
    refine ⟨z.toNat, by omega, ?_⟩
    have : ¬ z = -1 := by omega
    simp only [decide_eq_false this, Bool.false_or, Bool.and_eq_true, decide_eq_true_eq] at s
    exact s.2
theorem CWf.last_in (h : CWf row j cs) {p : Nat} (e : row[p]? = some y) (n : y ≠ .non) : lastCell cs row j y = p := by
  rcases h.last_cases y with q | ⟨p', q1, q2⟩
  · obtain ⟨m, a1, a2, a3⟩ := h.ahead p y e n
    obtain ⟨-, -, n2, -⟩ := paperN_range cs row j y
    exfalso
    unfold lastCell at q
    rcases Nat.lt_or_ge (paperN cs row j y - 1) m with g | g
    · exact a3 _ g q
    · have hs : stopB cs row j y m = true := by
        unfold stopB
        rw [a2]
        have : ¬ ((p : Int) = -2) := by omega
        simp [e, this]
      rcases Nat.lt_or_ge (m + 1) (paperN cs row j y) with g2 | g2
      · rw [n2 m g2] at hs
        cases hs
      · have em : paperN cs row j y - 1 = m := by omega
        rw [em, a2] at q
        omega
  · rw [q1, h.nd p' p y q2 e n]
theorem CWf.place_some (h : CWf row j cs) (n : y ≠ .non) {p : Nat} : placeO cs row j y = some p ↔ row[p]? = some y := by
  unfold placeO
  constructor
  · intro e
    split at e
    · cases e
    · rename_i c
      rcases h.last_cases y with q | ⟨p', q1, q2⟩
      · exact absurd q c
      · cases e
        rw [q1]
        exact q2
  · intro e
    rw [h.last_in e n, if_neg (by omega), Int.toNat_natCast]
theorem CWf.place_none (h : CWf row j cs) (n : y ≠ .non) : placeO cs row j y = none ↔ y ∉ row := by
  constructor
  · intro e m
    obtain ⟨p, hp⟩ := List.mem_iff_getElem?.mp m
    rw [(h.place_some n).mpr hp] at e
    cases e
  · intro m
    cases e : placeO cs row j y with
    | none => rfl
    | some p => exact absurd (List.mem_of_getElem? ((h.place_some n).mp e)) m
theorem CWf.last_place (h : CWf row j cs) : (if lastCell cs row j y = -1 then V.non else V.int (lastCell cs row j y)) = (match placeO cs row j y with | none => V.non | some p => V.int (p : Nat)) := by
  unfold placeO
  rcases h.last_cases y with q | ⟨p, q1, q2⟩
  · rw [q]; rfl
  · rw [q1]
    have : ¬ ((p : Int) = -1) := by omega
    simp [this]
/-- the slot at which a paper ends -/
def lastSlot (cs : List Int) (ks : List Ky) (j : Nat) (k : Ky) : Int := probeF k.stamp (2 ^ j) ((paperN cs ks j k - 1 : Nat) : Int)
theorem CWf.slot_bare (h : CWf row j cs) (n : y ≠ .non) (e : y ∉ row) : lastSlot cs row j y = probeF y.stamp (2 ^ j) (bareN cs j y.stamp) := by
  have e := (h.place_none n).mpr e
  have hb := bare_ex y.stamp h.j12 h.len h.mem
  obtain ⟨n0, n1, n2, -⟩ := paperN_range cs row j y
  unfold placeO at e
  split at e
  · rename_i c
    unfold lastCell at c
    unfold lastSlot
    rw [Bare.uniq (a := paperN cs row j y - 1) ⟨by omega, c, fun i hi => ?_⟩ hb]
    have := n2 i (by omega)
    unfold stopB at this
    intro q
    rw [q] at this
    simp at this
  · cases e
theorem CWf.lay (h : CWf row j cs) (k : KeyOk y) (e : y ∉ row) (r : (row.length : Int) < 2 * 2 ^ j / 3) : CWf (row ++ [y]) j (layS cs j row.length y) := by
  have n : y ≠ .non := fun q => by rw [q] at k; have := k.g; simp [Ky.good] at this
  obtain ⟨b1, b2, b3⟩ := bare_ex y.stamp h.j12 h.len h.mem
  unfold layS
  rw [if_neg n]
  generalize bareN cs j y.stamp = m at b1 b2 b3 ⊢
  obtain ⟨r0, r1⟩ := probe_range y.stamp m h.j12
  have hl := h.len
  have pc := pow_cast j
  have gs : ∀ t : Int, 0 ≤ t → getI (cs.set (probeF y.stamp (2 ^ j) m).toNat row.length) t = if t = probeF y.stamp (2 ^ j) m then (row.length : Int) else getI cs t := fun t ht => getI_set r0 (by omega) ht
  have lt : (probeF y.stamp (2 ^ j) m).toNat < cs.length := by omega
  have old : ∀ {p : Nat} {k : Ky}, row[p]? = some k → (row ++ [y])[p]? = some k := fun {p k} q => by
    rw [List.getElem?_append_left (List.getElem?_eq_some_iff.mp q).1]; exact q
  have new : ∀ {p : Nat} {k : Ky}, (row ++ [y])[p]? = some k → row[p]? = some k ∨ (p = row.length ∧ k = y) := fun {p k} q => by
    rcases Nat.lt_or_ge p row.length with g | g
    · rw [List.getElem?_append_left g] at q; exact .inl q
    · rw [List.getElem?_append_right g] at q
      have : p - row.length = 0 := by
        have := (List.getElem?_eq_some_iff.mp q).1
        simp at this
        omega
      rw [this] at q
      simp at q
      exact .inr ⟨by omega, q.symm⟩
  have notat : ∀ s : Int, 0 ≤ s → s < 2 ^ j → getI cs s ≠ row.length := fun s h0 h1 => by
    rcases h.cell s h0 h1 with q | q | ⟨q1, q2, _⟩ <;> omega
  have keep : ∀ (k' : Ky) (c : Nat), getI cs (probeF k'.stamp (2 ^ j) c) ≠ -1 → getI (cs.set (probeF y.stamp (2 ^ j) m).toNat row.length) (probeF k'.stamp (2 ^ j) c) = getI cs (probeF k'.stamp (2 ^ j) c) := by
    intro k' c hc
    rw [gs _ (probe_range _ _ h.j12).1, if_neg]
    intro e2
    rw [e2] at hc
    exact hc b2
  refine ⟨by rw [List.length_set]; exact hl, h.j3, h.j12, by rw [List.length_append]; simp; omega, ?_, fun s h0 h1 => ?_, fun s t h0 h1 t0 t1 e2 ge => ?_, fun p k' hk' nk => ?_, fun p q k' e1 e2 nk => ?_, fun z hz => ?_⟩
  · have c := h.cnt
    rw [List.count_set lt, List.length_append, List.length_singleton]
    split <;> split <;> omega
  · rw [gs s h0]
    split
    · exact .inr (.inr ⟨by omega, by rw [List.length_append, List.length_singleton]; omega, y, by rw [Int.toNat_natCast, List.getElem?_append_right (Nat.le_refl _), Nat.sub_self]; rfl, n⟩)
    · rcases h.cell s h0 h1 with q | q | ⟨q1, q2, k', q3, q4⟩
      · exact .inl q
      · exact .inr (.inl q)
      · exact .inr (.inr ⟨q1, by rw [List.length_append, List.length_singleton]; omega, k', old q3, q4⟩)
  · rw [gs s h0, gs t t0] at e2
    rw [gs s h0] at ge
    split at e2 <;> split at e2
    · omega
    · exact absurd e2.symm (notat t t0 t1)
    · exact absurd e2 (notat s h0 h1)
    · rename_i c1 c2
      rw [if_neg c1] at ge
      exact h.inj s t h0 h1 t0 t1 e2 ge
  · rcases new hk' with q | ⟨rfl, rfl⟩
    · obtain ⟨m', a1, a2, a3⟩ := h.ahead p k' q nk
      exact ⟨m', a1, by rw [keep k' m' (by omega)]; exact a2, fun t ht => by rw [keep k' t (a3 t ht)]; exact a3 t ht⟩
    · exact ⟨m, b1, by rw [gs _ r0, if_pos rfl], fun t ht => by rw [keep k' t (b3 t ht)]; exact b3 t ht⟩
  · rcases new e1 with q1 | ⟨rfl, rfl⟩ <;> rcases new e2 with q2 | ⟨rfl, z⟩
    · exact h.nd p q k' q1 q2 nk
    · subst z
      exact absurd (List.mem_of_getElem? q1) e
    · exact absurd (List.mem_of_getElem? q2) e
    · rfl
  · rcases List.mem_append.mp hz with hz | hz
    · exact h.rok z hz
    · rw [List.mem_singleton] at hz
      rw [hz]
      exact .inr k
theorem CWf.gone (h : CWf row j cs) {p : Nat} (e : row[p]? = some y) (n : y ≠ .non) : CWf (row.set p .non) j (cs.set (lastSlot cs row j y).toNat (-2)) := by
  have hp : p < row.length := (List.getElem?_eq_some_iff.mp e).1
  have la := h.last_in e n
  unfold lastCell at la
  unfold lastSlot
  obtain ⟨r0, r1⟩ := probe_range y.stamp ((paperN cs row j y - 1 : Nat) : Int) h.j12
  generalize probeF y.stamp (2 ^ j) ((paperN cs row j y - 1 : Nat) : Int) = s0 at *
  have hl := h.len
  have pc := pow_cast j
  have gs : ∀ t : Int, 0 ≤ t → getI (cs.set s0.toNat (-2)) t = if t = s0 then -2 else getI cs t := fun t ht => getI_set r0 (by omega) ht
  have lt : s0.toNat < cs.length := by omega
  have only : ∀ s : Int, 0 ≤ s → s < 2 ^ j → getI cs s = p → s = s0 := fun s h0 h1 q => h.inj s s0 h0 h1 r0 r1 (by rw [q, la]) (by omega)
  have new : ∀ {q : Nat} {k : Ky}, (row.set p .non)[q]? = some k → k ≠ .non → row[q]? = some k ∧ q ≠ p := fun {q k} g nk => by
    rw [List.getElem?_set] at g
    split at g
    · simp at g
      exact absurd g.symm nk
    · exact ⟨g, by omega⟩
  have ge : getI cs s0 = cs[s0.toNat] := by
    unfold getI
    rw [List.getD_eq_getElem?_getD, List.getElem?_eq_getElem lt]
    rfl
  refine ⟨by rw [List.length_set]; exact hl, h.j3, h.j12, by rw [List.length_set]; exact h.rl, ?_, fun s h0 h1 => ?_, fun s t h0 h1 t0 t1 e2 gz => ?_, fun q k' hk' nk => ?_, fun q q' k' e1 e2 nk => ?_, fun z hz => ?_⟩
  · have c := h.cnt
    rw [List.count_set lt, List.length_set, ← ge, la]
    have : ¬ ((p : Int) == -1) = true := by simp
    rw [if_neg this, if_neg (by decide)]
    omega
  · rw [gs s h0]
    split
    · exact .inr (.inl rfl)
    · rename_i c
      rcases h.cell s h0 h1 with q | q | ⟨q1, q2, k', q3, q4⟩
      · exact .inl q
      · exact .inr (.inl q)
      · refine .inr (.inr ⟨q1, by rw [List.length_set]; omega, k', ?_, q4⟩)
        rw [List.getElem?_set, if_neg]
        · exact q3
        · intro z
          exact c (only s h0 h1 (by omega))
  · rw [gs s h0, gs t t0] at e2
    rw [gs s h0] at gz
    split at gz
    · omega
    · rename_i c1
      rw [if_neg c1] at e2
      split at e2
      · omega
      · exact h.inj s t h0 h1 t0 t1 e2 gz
  · obtain ⟨g, gq⟩ := new hk' nk
    obtain ⟨m', a1, a2, a3⟩ := h.ahead q k' g nk
    have np : ∀ t : Nat, getI cs (probeF k'.stamp (2 ^ j) t) ≠ -1 → getI (cs.set s0.toNat (-2)) (probeF k'.stamp (2 ^ j) t) ≠ -1 := fun t ht => by
      rw [gs _ (probe_range _ _ h.j12).1]
      split
      · decide
      · exact ht
    refine ⟨m', a1, ?_, fun t ht => np t (a3 t ht)⟩
    rw [gs _ (probe_range _ _ h.j12).1, if_neg]
    · exact a2
    · intro z
      rw [z, la] at a2
      omega
  · exact h.nd q q' k' (new e1 nk).1 (new e2 nk).1 nk
  · rcases List.mem_or_eq_of_mem_set hz with hz | hz
    · exact h.rok z hz
    · exact .inl hz
end
theorem cwf_nil {j : Nat} (h3 : 3 ≤ j) (h12 : j ≤ 12) : CWf [] j (List.replicate (2 ^ j) (-1)) := by
  have L := laid_zero [] j
  have z : (0 : Int) < 2 ^ j := (pow_le (Nat.le_refl j)).1
  refine ⟨L.len, h3, h12, by simp; omega, by simp [List.count_replicate_self], fun s h0 h1 => ?_, fun s t h0 h1 t0 t1 e g => ?_, fun p k e => by simp at e, fun p q k e => by simp at e, fun _ h => by cases h⟩
  · rcases L.cell s h0 h1 with q | ⟨q1, q2, _⟩
    · exact .inl q
    · omega
  · have a := L.cell s h0 h1
    rcases a with q | ⟨q1, q2, _⟩
    · have q' : getI (List.replicate (2 ^ j) (-1)) s = -1 := q
      omega
    · omega
theorem cwf_laid {ks : List Ky} {j : Nat} (h3 : 3 ≤ j) (h12 : j ≤ 12) (hl : (ks.length : Int) ≤ 2 * 2 ^ j / 3) (hr : RowOk ks) (nd : ∀ (p q : Nat) k, ks[p]? = some k → ks[q]? = some k → k ≠ .non → p = q) : CWf ks j (layN j ks ks.length) := by
  have L := laid_at (ks := ks) h12 (room_lt hl) ks.length (Nat.le_refl _)
  refine ⟨L.len, h3, h12, hl, L.cnt, fun s h0 h1 => ?_, fun s t h0 h1 t0 t1 e g => L.inj s t h0 h1 t0 t1 e (by omega), fun p k e n => ?_, nd, hr⟩
  · rcases L.cell s h0 h1 with q | ⟨q1, q2, q3⟩
    · exact .inl q
    · exact .inr (.inr ⟨q1, by omega, q3⟩)
  · obtain ⟨m, a1, a2, a3⟩ := L.ahead p k (List.getElem?_eq_some_iff.mp e).1 e n
    exact ⟨m, a1, a2, fun t ht => by have := (a3 t ht).1; omega⟩
end My
namespace My
open PySem PySem.Spec PyProof.Rows L2
/-! frames: what may change stands at fp -/
structure Gr (fp : List Addr) (H H' : Hp) : Prop where
  keep : ∀ b o, H b = some o → b ∉ fp → H' b = some o
  free : ∀ b, H' b = none → H b = none
def Sub (fp' fp : List Addr) (H : Hp) : Prop := ∀ x ∈ fp', x ∈ fp ∨ Fresh H x
section
variable {fp fp1 fp2 : List Addr} {H H1 H2 H3 Hb : Hp} {x : Addr} {o : HO}
theorem Gr.refl : Gr fp H H := ⟨fun _ _ e _ => e, fun _ e => e⟩
theorem Gr.of (s : Same H H1) : Gr fp H H1 := ⟨fun b o e _ => s b o e, fun _ e => s.free e⟩
theorem Gr.trans (a : Gr fp H H1) (b : Gr fp H1 H2) : Gr fp H H2 := ⟨fun q u e n => b.keep q u (a.keep q u e n) n, fun q e => a.free q (b.free q e)⟩
theorem Gr.put (s : Gr fp H H1) (m : x ∈ fp) : Gr fp H (upd H1 x o) := ⟨fun b u e n => by rw [upd_ne (fun q => n (by rw [q]; exact m))]; exact s.keep b u e n, fun b e => by
  by_cases q : b = x
  · rw [q, upd_same] at e; cases e
  · rw [upd_ne q] at e; exact s.free b e⟩
theorem Gr.new (s : Gr fp H H1) (f : Fresh H x) : Gr fp H (L2.upd H1 x o) := ⟨fun b u e n => by rw [upd_ne (f.ne e)]; exact s.keep b u e n, fun b e => by
  by_cases q : b = x
  · rw [q, upd_same] at e; cases e
  · rw [upd_ne q] at e; exact s.free b e⟩
theorem Gr.same (g : Gr fp H H1) (s : Same Hb H) (f : ∀ x ∈ fp, Fresh Hb x) : Same Hb H1 := fun b u e => g.keep b u (s b u e) fun m => by
  have := f b m
  unfold Fresh at this
  rw [this] at e
  cases e
theorem Gr.comp (a : Gr fp H H1) (s : Sub fp1 fp H) (b : Gr fp1 H1 H2) : Gr fp H H2 := ⟨fun q u e n => b.keep q u (a.keep q u e n) fun m => (s q m).elim n fun f => (by unfold Fresh at f; rw [f] at e; cases e), fun q e => a.free q (b.free q e)⟩
theorem Sub.refl : Sub fp fp H := fun _ m => .inl m
theorem Sub.comp (s : Sub fp1 fp H) (a : Gr fp H H1) (t : Sub fp2 fp1 H1) : Sub fp2 fp H := fun x m => (t x m).elim (s x) fun f => .inr (a.free x f)
theorem Sub.fresh (s : Sub fp1 fp H) (b : Same Hb H) (f : ∀ x ∈ fp, Fresh Hb x) : ∀ x ∈ fp1, Fresh Hb x := fun x m => (s x m).elim (f x) fun g => Same_fresh b g
theorem Sub.not (s : Sub fp1 fp H) (e : H x = some o) (n : x ∉ fp) : x ∉ fp1 := fun m => (s x m).elim n fun f => by unfold Fresh at f; rw [f] at e; cases e
theorem Gr.mono (g : Gr fp H H1) (h : ∀ x ∈ fp, x ∈ fp1) : Gr fp1 H H1 := ⟨fun b o e n => g.keep b o e fun m => n (h b m), g.free⟩
end
/-! the shelf: what it is -/
structure Sh where
  row : List Ky
  held : List Ky
  born : List Int
  cells : List Int
  j : Nat
  jl : Nat
  com : Int
  goi : Int
  tid : Int
  mov : Int
/-- what stands ahead of a shelf's own fields: of a kin its maker, seats, apart -/
inductive Pre where
  | no
  | kin (m s : Addr) (ap : Bool)
def preF : Pre → List (Str × V)
  | .no => []
  | .kin m s ap => [("maker", .ref m), ("seats", .ref s), ("apart", .bl ap)]
def shF (p : Pre) (c r h b : Addr) (S : Sh) : List (Str × V) := preF p ++ ([("cells", .ref c), ("size", .int (2 ^ S.j)), ("least", .int (2 ^ S.jl)), ("row", .ref r), ("held", .ref h), ("born", .ref b), ("comings", .int S.com), ("goings", .int S.goi), ("tidied", .int S.tid), ("moved", .int S.mov)] : List (Str × V))
structure ShC (K : PySem.W.Frag) (C : Addr) : Prop where
  cls : Cls K C
  cells : NoAttr K C "cells"
  size : NoAttr K C "size"
  least : NoAttr K C "least"
  row : NoAttr K C "row"
  held : NoAttr K C "held"
  born : NoAttr K C "born"
  comings : NoAttr K C "comings"
  goings : NoAttr K C "goings"
  tidied : NoAttr K C "tidied"
  moved : NoAttr K C "moved"
structure ShRaw (H : Hp) (C a dx : Addr) (p : Pre) (c r h b : Addr) (S : Sh) (ws us : List V) : Prop where
  ha : H a = some (.ins C dx (shF p c r h b S))
  hc : H c = some (.lst (S.cells.map V.int))
  hr : H r = some (.lst ws)
  hh : H h = some (.lst us)
  hb : H b = some (.lst (S.born.map V.int))
  kr : KysAt H ws S.row
  kh : KysAt H us S.held
  vr : Ky.vals S.row = true
  vh : Ky.vals S.held = true
  ne : c ≠ r ∧ c ≠ h ∧ c ≠ b ∧ r ≠ h ∧ r ≠ b ∧ h ≠ b
theorem shF_len {p : Pre} {c r h b : Addr} {S : Sh} : (shF p c r h b S).length < 1000 := by cases p <;> simp [shF, preF]
section
variable {K : PySem.W.Frag} {H H' : Hp} {Q : VK} {R : Hp → Prop} {C a dx : Addr} {p : Pre} {c r h b : Addr} {S : Sh} {ws us : List V}
theorem fld_cells (k : ShC K C) (e : H a = some (.ins C dx (shF p c r h b S))) : FldAt K H a "cells" Q = Q (.ref c) H := fldAt e k.cls k.cells (by cases p <;> with_unfolding_all rfl)
theorem fld_size (k : ShC K C) (e : H a = some (.ins C dx (shF p c r h b S))) : FldAt K H a "size" Q = Q (.int (2 ^ S.j)) H := fldAt e k.cls k.size (by cases p <;> with_unfolding_all rfl)
theorem fld_least (k : ShC K C) (e : H a = some (.ins C dx (shF p c r h b S))) : FldAt K H a "least" Q = Q (.int (2 ^ S.jl)) H := fldAt e k.cls k.least (by cases p <;> with_unfolding_all rfl)
theorem fld_row (k : ShC K C) (e : H a = some (.ins C dx (shF p c r h b S))) : FldAt K H a "row" Q = Q (.ref r) H := fldAt e k.cls k.row (by cases p <;> with_unfolding_all rfl)
theorem fld_held (k : ShC K C) (e : H a = some (.ins C dx (shF p c r h b S))) : FldAt K H a "held" Q = Q (.ref h) H := fldAt e k.cls k.held (by cases p <;> with_unfolding_all rfl)
theorem fld_born (k : ShC K C) (e : H a = some (.ins C dx (shF p c r h b S))) : FldAt K H a "born" Q = Q (.ref b) H := fldAt e k.cls k.born (by cases p <;> with_unfolding_all rfl)
theorem fld_comings (k : ShC K C) (e : H a = some (.ins C dx (shF p c r h b S))) : FldAt K H a "comings" Q = Q (.int S.com) H := fldAt e k.cls k.comings (by cases p <;> with_unfolding_all rfl)
theorem fld_goings (k : ShC K C) (e : H a = some (.ins C dx (shF p c r h b S))) : FldAt K H a "goings" Q = Q (.int S.goi) H := fldAt e k.cls k.goings (by cases p <;> with_unfolding_all rfl)
theorem fld_tidied (k : ShC K C) (e : H a = some (.ins C dx (shF p c r h b S))) : FldAt K H a "tidied" Q = Q (.int S.tid) H := fldAt e k.cls k.tidied (by cases p <;> with_unfolding_all rfl)
theorem fld_moved (k : ShC K C) (e : H a = some (.ins C dx (shF p c r h b S))) : FldAt K H a "moved" Q = Q (.int S.mov) H := fldAt e k.cls k.moved (by cases p <;> with_unfolding_all rfl)
theorem set_cells (k : ShC K C) {c' : Addr} {cs : List Int} (e : H a = some (.ins C dx (shF p c r h b S))) : SetAt K H a "cells" (.ref c') R = R (upd H a (.ins C dx (shF p c' r h b { S with cells := cs }))) := setAt e k.cls k.cells shF_len (by cases p <;> with_unfolding_all rfl)
theorem set_row (k : ShC K C) {c' : Addr} {ks : List Ky} (e : H a = some (.ins C dx (shF p c r h b S))) : SetAt K H a "row" (.ref c') R = R (upd H a (.ins C dx (shF p c c' h b { S with row := ks }))) := setAt e k.cls k.row shF_len (by cases p <;> with_unfolding_all rfl)
theorem set_held (k : ShC K C) {c' : Addr} {ks : List Ky} (e : H a = some (.ins C dx (shF p c r h b S))) : SetAt K H a "held" (.ref c') R = R (upd H a (.ins C dx (shF p c r c' b { S with held := ks }))) := setAt e k.cls k.held shF_len (by cases p <;> with_unfolding_all rfl)
theorem set_born (k : ShC K C) {c' : Addr} {cs : List Int} (e : H a = some (.ins C dx (shF p c r h b S))) : SetAt K H a "born" (.ref c') R = R (upd H a (.ins C dx (shF p c r h c' { S with born := cs }))) := setAt e k.cls k.born shF_len (by cases p <;> with_unfolding_all rfl)
theorem set_size (k : ShC K C) {j : Nat} (e : H a = some (.ins C dx (shF p c r h b S))) : SetAt K H a "size" (.int (2 ^ j)) R = R (upd H a (.ins C dx (shF p c r h b { S with j := j }))) := setAt e k.cls k.size shF_len (by cases p <;> with_unfolding_all rfl)
theorem set_goings (k : ShC K C) {n : Int} (e : H a = some (.ins C dx (shF p c r h b S))) : SetAt K H a "goings" (.int n) R = R (upd H a (.ins C dx (shF p c r h b { S with goi := n }))) := setAt e k.cls k.goings shF_len (by cases p <;> with_unfolding_all rfl)
theorem aug_comings (k : ShC K C) {σ : L2.St} {n : Int} (e : H a = some (.ins C dx (shF p c r h b S))) : AugAt K H a "comings" (tC (.int n)) L2.rAdd σ R = R (upd H a (.ins C dx (shF p c r h b { S with com := S.com + n }))) := augAt (i := S.com) e k.cls k.comings (by cases p <;> with_unfolding_all rfl) shF_len (by cases p <;> with_unfolding_all rfl)
theorem aug_goings (k : ShC K C) {σ : L2.St} {n : Int} (e : H a = some (.ins C dx (shF p c r h b S))) : AugAt K H a "goings" (tC (.int n)) L2.rAdd σ R = R (upd H a (.ins C dx (shF p c r h b { S with goi := S.goi + n }))) := augAt (i := S.goi) e k.cls k.goings (by cases p <;> with_unfolding_all rfl) shF_len (by cases p <;> with_unfolding_all rfl)
theorem aug_tidied (k : ShC K C) {σ : L2.St} {n : Int} (e : H a = some (.ins C dx (shF p c r h b S))) : AugAt K H a "tidied" (tC (.int n)) L2.rAdd σ R = R (upd H a (.ins C dx (shF p c r h b { S with tid := S.tid + n }))) := augAt (i := S.tid) e k.cls k.tidied (by cases p <;> with_unfolding_all rfl) shF_len (by cases p <;> with_unfolding_all rfl)
/-! what stores do -/
theorem ShRaw.nca (g : ShRaw H C a dx p c r h b S ws us) : a ≠ c ∧ a ≠ r ∧ a ≠ h ∧ a ≠ b := ⟨ne_of g.ha g.hc (by intro z; cases z), ne_of g.ha g.hr (by intro z; cases z), ne_of g.ha g.hh (by intro z; cases z), ne_of g.ha g.hb (by intro z; cases z)⟩
theorem ShRaw.ext (g : ShRaw H C a dx p c r h b S ws us) (s : Same H H') : ShRaw H' C a dx p c r h b S ws us := ⟨s _ _ g.ha, s _ _ g.hc, s _ _ g.hr, s _ _ g.hh, s _ _ g.hb, g.kr.same s _ _, g.kh.same s _ _, g.vr, g.vh, g.ne⟩
theorem kys_upd {x : Addr} {o o' : HO} {ws : List V} {ks : List Ky} (e : H x = some o) (n : ∀ xs, o ≠ .tup xs) (v : Ky.vals ks = true) (h : KysAt H ws ks) : KysAt (upd H x o') ws ks := KysAt.keep but_one (noTup_one e n) ks ws v h
theorem ky_upd {x : Addr} {o o' : HO} {v : V} {y : Ky} (e : H x = some o) (n : ∀ xs, o ≠ .tup xs) (g : y.val = true) (h : KyAt H v y) : KyAt (upd H x o') v y := KyAt.keep but_one (noTup_one e n) y v g h
theorem vals_append {xs ys : List Ky} (h : Ky.vals xs = true) (g : Ky.vals ys = true) : Ky.vals (xs ++ ys) = true := vals_iff.mpr fun k hk => (List.mem_append.mp hk).elim (vals_iff.mp h k) (vals_iff.mp g k)
theorem vals_set {xs : List Ky} {i : Nat} {y : Ky} (h : Ky.vals xs = true) (g : y.val = true) : Ky.vals (xs.set i y) = true := vals_iff.mpr fun k hk => (List.mem_or_eq_of_mem_set hk).elim (vals_iff.mp h k) fun e => by rw [e]; exact g
theorem vals_one {y : Ky} (g : y.val = true) : Ky.vals [y] = true := by rw [Ky.vals, g]; rfl
theorem ShRaw.fldU {S' : Sh} (g : ShRaw H C a dx p c r h b S ws us) (e1 : S'.row = S.row := by rfl) (e2 : S'.held = S.held := by rfl) (e3 : S'.born = S.born := by rfl) (e4 : S'.cells = S.cells := by rfl) : ShRaw (upd H a (.ins C dx (shF p c r h b S'))) C a dx p c r h b S' ws us := by
  obtain ⟨n1, n2, n3, n4⟩ := g.nca
  have nt : ∀ xs, HO.ins C dx (shF p c r h b S) ≠ .tup xs := fun _ z => by cases z
  refine ⟨upd_same, ?_, ?_, ?_, ?_, ?_, ?_, ?_, ?_, g.ne⟩
  · rw [upd_ne n1.symm, e4]; exact g.hc
  · rw [upd_ne n2.symm]; exact g.hr
  · rw [upd_ne n3.symm]; exact g.hh
  · rw [upd_ne n4.symm, e3]; exact g.hb
  · rw [e1]; exact kys_upd g.ha nt g.vr g.kr
  · rw [e2]; exact kys_upd g.ha nt g.vh g.kh
  · rw [e1]; exact g.vr
  · rw [e2]; exact g.vh
theorem ShRaw.cellsU {cs : List Int} (g : ShRaw H C a dx p c r h b S ws us) : ShRaw (upd H c (.lst (cs.map V.int))) C a dx p c r h b { S with cells := cs } ws us := by
  obtain ⟨n1, n2, n3, n4⟩ := g.nca
  obtain ⟨m1, m2, m3, m4, m5, m6⟩ := g.ne
  have nt : ∀ xs, HO.lst (S.cells.map V.int) ≠ .tup xs := fun _ z => by cases z
  exact ⟨by rw [upd_ne n1]; exact g.ha, upd_same, by rw [upd_ne m1.symm]; exact g.hr, by rw [upd_ne m2.symm]; exact g.hh, by rw [upd_ne m3.symm]; exact g.hb, kys_upd g.hc nt g.vr g.kr, kys_upd g.hc nt g.vh g.kh, g.vr, g.vh, g.ne⟩
theorem ShRaw.bornU {cs : List Int} (g : ShRaw H C a dx p c r h b S ws us) : ShRaw (upd H b (.lst (cs.map V.int))) C a dx p c r h b { S with born := cs } ws us := by
  obtain ⟨n1, n2, n3, n4⟩ := g.nca
  obtain ⟨m1, m2, m3, m4, m5, m6⟩ := g.ne
  have nt : ∀ xs, HO.lst (S.born.map V.int) ≠ .tup xs := fun _ z => by cases z
  exact ⟨by rw [upd_ne n4]; exact g.ha, by rw [upd_ne m3]; exact g.hc, by rw [upd_ne m5]; exact g.hr, by rw [upd_ne m6]; exact g.hh, upd_same, kys_upd g.hb nt g.vr g.kr, kys_upd g.hb nt g.vh g.kh, g.vr, g.vh, g.ne⟩
theorem ShRaw.rowU {ws' : List V} {ks : List Ky} (g : ShRaw H C a dx p c r h b S ws us) (v : Ky.vals ks = true) (k : KysAt H ws' ks) : ShRaw (upd H r (.lst ws')) C a dx p c r h b { S with row := ks } ws' us := by
  obtain ⟨n1, n2, n3, n4⟩ := g.nca
  obtain ⟨m1, m2, m3, m4, m5, m6⟩ := g.ne
  have nt : ∀ xs, HO.lst ws ≠ .tup xs := fun _ z => by cases z
  exact ⟨by rw [upd_ne n2]; exact g.ha, by rw [upd_ne m1]; exact g.hc, upd_same, by rw [upd_ne m4.symm]; exact g.hh, by rw [upd_ne m5.symm]; exact g.hb, kys_upd g.hr nt v k, kys_upd g.hr nt g.vh g.kh, v, g.vh, g.ne⟩
theorem ShRaw.heldU {us' : List V} {ks : List Ky} (g : ShRaw H C a dx p c r h b S ws us) (v : Ky.vals ks = true) (k : KysAt H us' ks) : ShRaw (upd H h (.lst us')) C a dx p c r h b { S with held := ks } ws us' := by
  obtain ⟨n1, n2, n3, n4⟩ := g.nca
  obtain ⟨m1, m2, m3, m4, m5, m6⟩ := g.ne
  have nt : ∀ xs, HO.lst us ≠ .tup xs := fun _ z => by cases z
  exact ⟨by rw [upd_ne n3]; exact g.ha, by rw [upd_ne m2]; exact g.hc, by rw [upd_ne m4]; exact g.hr, upd_same, by rw [upd_ne m6.symm]; exact g.hb, kys_upd g.hh nt g.vr g.kr, kys_upd g.hh nt v k, g.vr, v, g.ne⟩
theorem ShRaw.reC {c' : Addr} {cs : List Int} (g : ShRaw H C a dx p c r h b S ws us) (e : H c' = some (.lst (cs.map V.int))) (n : c' ≠ r ∧ c' ≠ h ∧ c' ≠ b) : ShRaw (upd H a (.ins C dx (shF p c' r h b { S with cells := cs }))) C a dx p c' r h b { S with cells := cs } ws us := by
  obtain ⟨n1, n2, n3, n4⟩ := g.nca
  have nc : a ≠ c' := ne_of g.ha e (by intro z; cases z)
  have nt : ∀ xs, HO.ins C dx (shF p c r h b S) ≠ .tup xs := fun _ z => by cases z
  exact ⟨upd_same, by rw [upd_ne nc.symm]; exact e, by rw [upd_ne n2.symm]; exact g.hr, by rw [upd_ne n3.symm]; exact g.hh, by rw [upd_ne n4.symm]; exact g.hb, kys_upd g.ha nt g.vr g.kr, kys_upd g.ha nt g.vh g.kh, g.vr, g.vh, ⟨n.1, n.2.1, n.2.2, g.ne.2.2.2⟩⟩
theorem ShRaw.reR {r' : Addr} {ws' : List V} {ks : List Ky} (g : ShRaw H C a dx p c r h b S ws us) (e : H r' = some (.lst ws')) (v : Ky.vals ks = true) (k : KysAt H ws' ks) (n : c ≠ r' ∧ r' ≠ h ∧ r' ≠ b) : ShRaw (upd H a (.ins C dx (shF p c r' h b { S with row := ks }))) C a dx p c r' h b { S with row := ks } ws' us := by
  obtain ⟨n1, n2, n3, n4⟩ := g.nca
  obtain ⟨m1, m2, m3, m4, m5, m6⟩ := g.ne
  have nc : a ≠ r' := ne_of g.ha e (by intro z; cases z)
  have nt : ∀ xs, HO.ins C dx (shF p c r h b S) ≠ .tup xs := fun _ z => by cases z
  exact ⟨upd_same, by rw [upd_ne n1.symm]; exact g.hc, by rw [upd_ne nc.symm]; exact e, by rw [upd_ne n3.symm]; exact g.hh, by rw [upd_ne n4.symm]; exact g.hb, kys_upd g.ha nt v k, kys_upd g.ha nt g.vh g.kh, v, g.vh, ⟨n.1, m2, m3, n.2.1, n.2.2, m6⟩⟩
theorem ShRaw.reH {h' : Addr} {us' : List V} {ks : List Ky} (g : ShRaw H C a dx p c r h b S ws us) (e : H h' = some (.lst us')) (v : Ky.vals ks = true) (k : KysAt H us' ks) (n : c ≠ h' ∧ r ≠ h' ∧ h' ≠ b) : ShRaw (upd H a (.ins C dx (shF p c r h' b { S with held := ks }))) C a dx p c r h' b { S with held := ks } ws us' := by
  obtain ⟨n1, n2, n3, n4⟩ := g.nca
  obtain ⟨m1, m2, m3, m4, m5, m6⟩ := g.ne
  have nc : a ≠ h' := ne_of g.ha e (by intro z; cases z)
  have nt : ∀ xs, HO.ins C dx (shF p c r h b S) ≠ .tup xs := fun _ z => by cases z
  exact ⟨upd_same, by rw [upd_ne n1.symm]; exact g.hc, by rw [upd_ne n2.symm]; exact g.hr, by rw [upd_ne nc.symm]; exact e, by rw [upd_ne n4.symm]; exact g.hb, kys_upd g.ha nt g.vr g.kr, kys_upd g.ha nt v k, g.vr, v, ⟨m1, n.1, m3, n.2.1, m5, n.2.2⟩⟩
theorem ShRaw.reB {b' : Addr} {cs : List Int} (g : ShRaw H C a dx p c r h b S ws us) (e : H b' = some (.lst (cs.map V.int))) (n : c ≠ b' ∧ r ≠ b' ∧ h ≠ b') : ShRaw (upd H a (.ins C dx (shF p c r h b' { S with born := cs }))) C a dx p c r h b' { S with born := cs } ws us := by
  obtain ⟨n1, n2, n3, n4⟩ := g.nca
  obtain ⟨m1, m2, m3, m4, m5, m6⟩ := g.ne
  have nc : a ≠ b' := ne_of g.ha e (by intro z; cases z)
  have nt : ∀ xs, HO.ins C dx (shF p c r h b S) ≠ .tup xs := fun _ z => by cases z
  exact ⟨upd_same, by rw [upd_ne n1.symm]; exact g.hc, by rw [upd_ne n2.symm]; exact g.hr, by rw [upd_ne n3.symm]; exact g.hh, by rw [upd_ne nc.symm]; exact e, kys_upd g.ha nt g.vr g.kr, kys_upd g.ha nt g.vh g.kh, g.vr, g.vh, ⟨m1, m2, n.1, m4, n.2.1, n.2.2⟩⟩
end
/-! what a shelf keeps -/
def HVal (z : Ky) : Prop := z.val = true ∧ z.dep ≤ 8
structure Sh.Ok (S : Sh) : Prop where
  cw : CWf S.row S.j S.cells
  hl : S.held.length = S.row.length
  bl : S.born.length = S.row.length
  hv : ∀ z ∈ S.held, HVal z
  l3 : 3 ≤ S.jl
  l12 : S.jl ≤ 12
  bi : S.born.Pairwise (· < ·)
  bc : ∀ n ∈ S.born, 0 < n ∧ n ≤ S.com
  c0 : 0 ≤ S.com
  many : S.com - S.goi = (S.row.filter fun k => decide (k ≠ .non)).length
def ShAt (H : Hp) (C a : Addr) (p : Pre) (fp : List Addr) (S : Sh) : Prop := ∃ dx c r h b ws us, fp = [a, c, r, h, b] ∧ ShRaw H C a dx p c r h b S ws us ∧ S.Ok
section
variable {H H' : Hp} {C a : Addr} {p : Pre} {fp : List Addr} {S : Sh}
theorem ShAt.ext (g : ShAt H C a p fp S) (s : Same H H') : ShAt H' C a p fp S := by
  obtain ⟨dx, c, r, h, b, ws, us, e, q, o⟩ := g
  exact ⟨dx, c, r, h, b, ws, us, e, q.ext s, o⟩
theorem ShAt.ok (g : ShAt H C a p fp S) : S.Ok := by
  obtain ⟨dx, c, r, h, b, ws, us, e, q, o⟩ := g
  exact o
theorem ShAt.noTup (g : ShAt H C a p fp S) : NoTup H fp := by
  obtain ⟨dx, c, r, h, b, ws, us, rfl, q, o⟩ := g
  intro x m xs e
  simp only [List.mem_cons, List.not_mem_nil, or_false] at m
  rcases m with rfl | rfl | rfl | rfl | rfl
  · rw [q.ha] at e; cases e
  · rw [q.hc] at e; cases e
  · rw [q.hr] at e; cases e
  · rw [q.hh] at e; cases e
  · rw [q.hb] at e; cases e
theorem ShAt.ky (g : ShAt H C a p fp S) (f : Gr fp H H') {v : V} {y : Ky} (d : y.val = true) (h : KyAt H v y) : KyAt H' v y := KyAt.keep f.keep g.noTup y v d h
theorem ShAt.kys (g : ShAt H C a p fp S) (f : Gr fp H H') {v : List V} {y : List Ky} (d : Ky.vals y = true) (h : KysAt H v y) : KysAt H' v y := KysAt.keep f.keep g.noTup y v d h
/-- a shelf stays where another thing changes -/
theorem ShAt.apart (g : ShAt H C a p fp S) {fq : List Addr} (f : Gr fq H H') (n : NoTup H fq) (d : ∀ x ∈ fp, x ∉ fq) : ShAt H' C a p fp S := by
  obtain ⟨dx, c, r, h, b, ws, us, rfl, q, o⟩ := g
  simp only [List.mem_cons, List.not_mem_nil, or_false, forall_eq_or_imp, forall_eq] at d
  obtain ⟨d1, d2, d3, d4, d5⟩ := d
  exact ⟨dx, c, r, h, b, ws, us, rfl, ⟨f.keep _ _ q.ha d1, f.keep _ _ q.hc d2, f.keep _ _ q.hr d3, f.keep _ _ q.hh d4, f.keep _ _ q.hb d5, KysAt.keep f.keep n _ _ q.vr q.kr, KysAt.keep f.keep n _ _ q.vh q.kh, q.vr, q.vh, q.ne⟩, o⟩
end
/-- a method's name is none of a shelf's fields -/
theorem ShAt.met {H : Hp} {C a : Addr} {p : Pre} {fp : List Addr} {S : Sh} {m : Str} (g : ShAt H C a p fp S) (l : ∀ c r h b : Addr, (shF p c r h b S).lookup m = none) : MetAt H a C m := by
  obtain ⟨dx, c, r, h, b, ws, us, e, q, o⟩ := g
  exact ⟨dx, _, q.ha, l c r h b⟩
theorem made_same {H H' : Hp} {x dx C : Addr} {fp : List Addr} (fx : Fresh H x) (fd : Fresh H dx) (gr : Gr [x] (upd (upd H dx (.own x)) x (.ins C dx [])) H') (sb : Sub fp [x] (upd (upd H dx (.own x)) x (.ins C dx []))) : Same H H' ∧ ∀ y ∈ fp, Fresh H y := by
  have s : Same H (upd (upd H dx (.own x)) x (.ins C dx [])) := Same_upd0 (Same_upd (Same.refl _) fd) fx
  have f : ∀ y ∈ [x], Fresh H y := fun y m => by
    rw [List.mem_singleton] at m
    rw [m]
    exact fx
  exact ⟨gr.same s f, sb.fresh s f⟩
theorem KeyOk.ne_non {y : Ky} (k : KeyOk y) : y ≠ .non := fun q => by rw [q] at k; have := k.g; simp [Ky.good] at this
/-! a shelf's deeds -/
def Sh.find (S : Sh) (y : Ky) : Option Nat := placeO S.cells S.row S.j y
def Sh.full (S : Sh) : Bool := decide (2 * 2 ^ S.j / 3 ≤ (S.row.length : Int))
def Sh.come (S : Sh) (y z : Ky) : Sh := { S with cells := layS S.cells S.j S.row.length y, row := S.row ++ [y], held := S.held ++ [z], com := S.com + 1, born := S.born ++ [S.com + 1] }
def Sh.hold (S : Sh) (q : Nat) (z : Ky) : Sh := { S with held := S.held.set q z }
def Sh.went (S : Sh) (q : Nat) (y : Ky) : Sh := { S with cells := S.cells.set (lastSlot S.cells S.row S.j y).toNat (-2), row := S.row.set q .non, held := S.held.set q .non, goi := S.goi + 1 }
def Sh.put (mr : Sh → Option Sh) (S : Sh) (y z : Ky) : Option (Bool × Sh) := match S.find y with
  | some q => some (false, S.hold q z)
  | none => if S.full = true then (mr S).map fun S' => (true, S'.come y z) else some (true, S.come y z)
def Sh.new (j : Nat) : Sh := { row := [], held := [], born := [], cells := List.replicate (2 ^ j) (-1), j := j, jl := j, com := 0, goi := 0, tid := 0, mov := 0 }
theorem Sh.new_ok {j : Nat} (h3 : 3 ≤ j) (h12 : j ≤ 12) : (Sh.new j).Ok := ⟨cwf_nil h3 h12, rfl, rfl, (fun _ h => by cases h), h3, h12, .nil, (fun _ h => by cases h), Int.le_refl 0, by simp [Sh.new]⟩
theorem Sh.Ok.find_some {S : Sh} (o : S.Ok) {y : Ky} (n : y ≠ .non) {q : Nat} : S.find y = some q ↔ S.row[q]? = some y := o.cw.place_some n
theorem Sh.Ok.find_none {S : Sh} (o : S.Ok) {y : Ky} (n : y ≠ .non) : S.find y = none ↔ y ∉ S.row := o.cw.place_none n
theorem Sh.Ok.hold {S : Sh} (o : S.Ok) {q : Nat} {z : Ky} (h : HVal z) : (S.hold q z).Ok := ⟨o.cw, by show (S.held.set q z).length = _; rw [List.length_set]; exact o.hl, o.bl, fun x hx => (List.mem_or_eq_of_mem_set hx).elim (o.hv x) fun e => by rw [e]; exact h, o.l3, o.l12, o.bi, o.bc, o.c0, o.many⟩
theorem Sh.Ok.come {S : Sh} (o : S.Ok) {y z : Ky} (k : KeyOk y) (e : y ∉ S.row) (f : S.full = false) (h : HVal z) : (S.come y z).Ok := by
  have c0 := o.c0
  refine ⟨o.cw.lay k e ?_, ?_, ?_, fun x hx => ?_, o.l3, o.l12, ?_, fun n hn => ?_, ?_, ?_⟩
  · have := of_decide_eq_false f
    omega
  · show (S.held ++ [z]).length = (S.row ++ [y]).length
    rw [List.length_append, List.length_append, o.hl]
    rfl
  · show (S.born ++ [S.com + 1]).length = (S.row ++ [y]).length
    rw [List.length_append, List.length_append, o.bl]
    rfl
  · rcases List.mem_append.mp hx with hx | hx
    · exact o.hv x hx
    · rw [List.mem_singleton] at hx
      rw [hx]
      exact h
  · show (S.born ++ [S.com + 1]).Pairwise (· < ·)
    rw [List.pairwise_append]
    refine ⟨o.bi, List.pairwise_singleton _ _, fun x hx u hu => ?_⟩
    rw [List.mem_singleton] at hu
    have := (o.bc x hx).2
    omega
  · show 0 < n ∧ n ≤ S.com + 1
    rcases List.mem_append.mp hn with hn | hn
    · have := o.bc n hn
      omega
    · rw [List.mem_singleton] at hn
      omega
  · show 0 ≤ S.com + 1
    omega
  · show S.com + 1 - S.goi = (((S.row ++ [y]).filter _).length : Nat)
    have := o.many
    rw [List.filter_append, List.length_append]
    simp [k.ne_non]
    simp at this
    omega
theorem filter_set_non : ∀ {l : List Ky} {q : Nat} {y : Ky}, l[q]? = some y → y ≠ .non → (((l.set q .non).filter fun k => decide (k ≠ .non)).length : Int) + 1 = ((l.filter fun k => decide (k ≠ .non)).length : Nat)
  | [], q, y, e, n => by simp at e
  | x :: l, 0, y, e, n => by
    simp at e
    subst e
    simp [n]
  | x :: l, q + 1, y, e, n => by
    have ih := filter_set_non (l := l) (q := q) (by simpa using e) n
    rw [List.set_cons_succ, List.filter_cons, List.filter_cons]
    split
    · simp only [List.length_cons]
      omega
    · exact ih
theorem Sh.Ok.went {S : Sh} (o : S.Ok) {q : Nat} {y : Ky} (e : S.row[q]? = some y) (n : y ≠ .non) : (S.went q y).Ok := by
  refine ⟨o.cw.gone e n, ?_, ?_, fun x hx => ?_, o.l3, o.l12, o.bi, o.bc, o.c0, ?_⟩
  · show (S.held.set q .non).length = (S.row.set q .non).length
    rw [List.length_set, List.length_set]
    exact o.hl
  · show S.born.length = (S.row.set q .non).length
    rw [List.length_set]
    exact o.bl
  · rcases List.mem_or_eq_of_mem_set hx with hx | hx
    · exact o.hv x hx
    · rw [hx]
      exact ⟨rfl, by simp [Ky.dep]⟩
  · show S.com - (S.goi + 1) = (((S.row.set q .non).filter _).length : Nat)
    have := filter_set_non e n
    have := o.many
    omega
end My
namespace My
open PySem PySem.Spec PyProof.Rows L2
theorem exm_of2 {K : PySem.W.Frag} {C D : Addr} {b : Bool} (h1 : PySem.W.subIn K (.ref D) (.type "BaseException") = some true) (h2 : PySem.W.isClsIn K D = true) (h3 : PySem.W.typeIn K (.ref D) = some (.type "type")) (h4 : PySem.W.subIn K (.ref C) (.ref D) = some b) : PySem.W.exmOne K (.ref C) (.ref D) = some b := by
  unfold PySem.W.exmOne
  rw [h1, if_pos (by rfl)]
  show (if ((PySem.W.clsIn K D).isSome && PySem.W.typeIn K (.ref D) == some (.type "type")) = true then PySem.W.subIn K (.ref C) (.ref D) else none) = some b
  have e : (PySem.W.clsIn K D).isSome = true := h2
  rw [e, h3, if_pos (by rfl), h4]
theorem fund_mk {K : PySem.W.Frag} {x qual : Str} {params : Arguments} {body : List Stmt} {scope : Scope} {dvs : List V} {f D : Addr} {o : Obj} {its : List Value} {n : Nat} {oc kV doc pm cdv ct : Value} {od an : Option Addr} {osl : Array (Option Value)}
    (l : K.lookup f = some ⟨oc, od, .func (PySem.W.fnOf x qual params body scope (.ref D) kV doc pm an cdv ct), osl⟩) (c : PySem.W.codeIn K cdv qual = true) (k : PySem.W.keepIn K (.ref f) = true) (lD : K.lookup D = some o) (oD : o.data = .seq its.toArray n) (ne : dvs ≠ []) (r : Vals dvs its) :
    FunD K x qual params body scope dvs [] f (PySem.W.fnOf x qual params body scope (.ref D) kV doc pm an cdv ct) := ⟨⟨oc, od, _, kV, doc, pm, an, cdv, ct, osl, rfl, l, c, .inr ⟨ne, D, o, its, n, rfl, lD, oD, r⟩, .inl rfl⟩, k⟩
theorem setAt_go {K : PySem.W.Frag} {H : Hp} {a C dx : Addr} {f : Str} {fs gs : List (Str × V)} {y : V} {R : Hp → Prop} (h : H a = some (.ins C dx fs)) (c : Cls K C) (n : NoAttr K C f) (l : fs.length < 1000) (e : putF f y fs = gs) (q : ∀ H', H' = upd H a (.ins C dx gs) → H' a = some (.ins C dx gs) → R H') : SetAt K H a f y R := by
  rw [setAt h c n l e]
  exact q _ rfl upd_same
theorem upd_upd {H : Hp} {a : Addr} {o o' : HO} : upd (upd H a o) a o' = upd H a o' := by
  funext b
  by_cases e : b = a
  · rw [e, upd_same, upd_same]
  · rw [upd_ne e, upd_ne e, upd_ne e]
/-! promises of a shelf's methods -/
def spChecked (CN : Addr) : Sp := fun vs H Q E => ∃ v y, vs = [v] ∧ KyAt H v y ∧ y.fit = true ∧ (within 3 y = true → Q v H) ∧ (within 3 y = false → E (.ref CN) none H)
theorem len_checked {CN : Addr} {vs H Q E} (h : spChecked CN vs H Q E) : vs.length = 1 := by obtain ⟨_, _, rfl, _⟩ := h; rfl
def optV : Option Nat → V
  | none => .non
  | some n => .int n
def spFind (C : Addr) : Sp := fun vs H Q _ => ∃ a p fp S v y, vs = [.ref a, v] ∧ ShAt H C a p fp S ∧ KyAt H v y ∧ KeyOk y ∧ ∀ H', Same H H' → Q (optV (S.find y)) H'
theorem len_find {C : Addr} {vs H Q E} (h : spFind C vs H Q E) : vs.length = 2 := by obtain ⟨_, _, _, _, _, _, rfl, _⟩ := h; rfl
def spLay (C : Addr) : Sp := fun vs H Q _ => ∃ a dx p c r h b S ws us v y q, vs = [.ref a, v, .int q] ∧ ShRaw H C a dx p c r h b S ws us ∧ CWf S.row S.j S.cells ∧ KyAt H v y ∧ KeyOk y ∧
  ∀ H', Same H H' → Q .non (upd H' c (.lst ((S.cells.set (lastSlot S.cells S.row S.j y).toNat q).map V.int)))
theorem len_lay {C : Addr} {vs H Q E} (h : spLay C vs H Q E) : vs.length = 3 := by obtain ⟨_, _, _, _, _, _, _, _, _, _, _, _, _, rfl, _⟩ := h; rfl
def spMarkGone (C : Addr) : Sp := fun vs H Q _ => ∃ a dx p c r h b S ws us v y w, vs = [.ref a, v, w] ∧ ShRaw H C a dx p c r h b S ws us ∧ CWf S.row S.j S.cells ∧ KyAt H v y ∧ KeyOk y ∧
  ∀ H', Same H H' → Q .non (upd H' c (.lst ((S.cells.set (lastSlot S.cells S.row S.j y).toNat (-2)).map V.int)))
theorem len_markGone {C : Addr} {vs H Q E} (h : spMarkGone C vs H Q E) : vs.length = 3 := by obtain ⟨_, _, _, _, _, _, _, _, _, _, _, _, _, rfl, _⟩ := h; rfl
def spRoom (C CF : Addr) (mr : Sh → Option Sh) : Sp := fun vs H Q E => ∃ a p fp S, vs = [.ref a] ∧ ShAt H C a p fp S ∧ (match mr S with
  | none => E (.ref CF) none H
  | some S' => ∀ H' fp', Gr fp H H' → Sub fp' fp H → ShAt H' C a p fp' S' → Q .non H')
theorem len_room {C CF : Addr} {mr : Sh → Option Sh} {vs H Q E} (h : spRoom C CF mr vs H Q E) : vs.length = 1 := by obtain ⟨_, _, _, _, rfl, _⟩ := h; rfl
/-- the thing v: no key, refused with NoKey at once; or a key -/
def spPut (C CN CF : Addr) (mr : Sh → Option Sh) : Sp := fun vs H Q E => ∃ a p fp S v y u z, vs = [.ref a, v, u] ∧ ShAt H C a p fp S ∧ KyAt H v y ∧ y.fit = true ∧ (within 3 y = true → KeyOk y) ∧ KyAt H u z ∧ HVal z ∧
  (within 3 y = false → E (.ref CN) none H) ∧ (KeyOk y → match S.put mr y z with
  | none => ∀ H', Same H H' → E (.ref CF) none H'
  | some (t, S') => ∀ H' fp', Gr fp H H' → Sub fp' fp H → ShAt H' C a p fp' S' → Q (.bl t) H')
theorem len_put {C CN CF : Addr} {mr : Sh → Option Sh} {vs H Q E} (h : spPut C CN CF mr vs H Q E) : vs.length = 3 := by obtain ⟨_, _, _, _, _, _, _, _, rfl, _⟩ := h; rfl
def Sh.heldAt (S : Sh) (y : Ky) : Option Ky := match S.find y with
  | none => none
  | some q => S.held[q]?
def spAt (C CN CL : Addr) : Sp := fun vs H Q E => ∃ a p fp S v y, vs = [.ref a, v] ∧ ShAt H C a p fp S ∧ KyAt H v y ∧ y.fit = true ∧ (within 3 y = true → KeyOk y) ∧
  (within 3 y = false → E (.ref CN) none H) ∧ (KeyOk y → match S.heldAt y with
  | none => ∀ H', Same H H' → E (.ref CL) none H'
  | some z => ∀ H' u, Same H H' → KyAt H' u z → Q u H')
theorem len_at {C CN CL : Addr} {vs H Q E} (h : spAt C CN CL vs H Q E) : vs.length = 2 := by obtain ⟨_, _, _, _, _, _, rfl, _⟩ := h; rfl
def spTold (C CN : Addr) : Sp := fun vs H Q E => ∃ a p fp S v y w, vs = [.ref a, v, w] ∧ ShAt H C a p fp S ∧ KyAt H v y ∧ y.fit = true ∧ (within 3 y = true → KeyOk y) ∧
  (within 3 y = false → E (.ref CN) none H) ∧ (KeyOk y → match S.heldAt y with
  | none => ∀ H', Same H H' → Q w H'
  | some z => ∀ H' u, Same H H' → KyAt H' u z → Q u H')
theorem len_told {C CN : Addr} {vs H Q E} (h : spTold C CN vs H Q E) : vs.length = 3 := by obtain ⟨_, _, _, _, _, _, _, rfl, _⟩ := h; rfl
def spHas (C CN : Addr) : Sp := fun vs H Q E => ∃ a p fp S v y, vs = [.ref a, v] ∧ ShAt H C a p fp S ∧ KyAt H v y ∧ y.fit = true ∧ (within 3 y = true → KeyOk y) ∧
  (within 3 y = false → E (.ref CN) none H) ∧ (KeyOk y → ∀ H', Same H H' → Q (.bl (S.find y).isSome) H')
theorem len_has {C CN : Addr} {vs H Q E} (h : spHas C CN vs H Q E) : vs.length = 2 := by obtain ⟨_, _, _, _, _, _, rfl, _⟩ := h; rfl
def spMany (C : Addr) : Sp := fun vs H Q _ => ∃ a p fp S, vs = [.ref a] ∧ ShAt H C a p fp S ∧ Q (.int (S.com - S.goi)) H
theorem len_many {C : Addr} {vs H Q E} (h : spMany C vs H Q E) : vs.length = 1 := by obtain ⟨_, _, _, _, rfl, _⟩ := h; rfl
/-- the pairs that are there, the first n places looked at -/
def pairsN (row held : List Ky) : Nat → List Ky
  | 0 => []
  | n + 1 => match row[n]? with
    | some k => if k = .non then pairsN row held n else pairsN row held n ++ [.tup [k, held.getD n .non]]
    | none => pairsN row held n
theorem pairsN_len (row held : List Ky) : ∀ i : Nat, (pairsN row held i).length ≤ i
  | 0 => Nat.le_refl _
  | i + 1 => by
    have ih := pairsN_len row held i
    rw [pairsN]
    split
    · split
      · omega
      · rw [List.length_append, List.length_singleton]
        omega
    · omega
theorem RowOk.val {ks : List Ky} (h : RowOk ks) {i : Nat} {k : Ky} (e : ks[i]? = some k) : k.val = true := by
  rcases h.get e with rfl | q
  · rfl
  · exact q.val
theorem tup_vals {ks : List Ky} (h : Ky.vals ks = true) (l : ks.length ≤ 1000) : (Ky.tup ks).val = true := by rw [Ky.val, h, decide_eq_true l]; rfl
theorem vals_two {x y : Ky} (h : x.val = true) (g : y.val = true) : Ky.vals [x, y] = true := by rw [Ky.vals, h, vals_one g]; rfl
theorem Sh.Ok.hval {S : Sh} (o : S.Ok) (n : Nat) : HVal (S.held.getD n .non) := by
  rw [List.getD_eq_getElem?_getD]
  cases e : S.held[n]? with
  | none => exact ⟨rfl, by simp [Ky.dep]⟩
  | some z => exact o.hv z (List.mem_of_getElem? e)
theorem pairsN_vals {S : Sh} (o : S.Ok) : ∀ i : Nat, Ky.vals (pairsN S.row S.held i) = true
  | 0 => rfl
  | i + 1 => by
    have ih := pairsN_vals o i
    rw [pairsN]
    split
    · rename_i k e
      split
      · exact ih
      · exact vals_append ih (vals_one (tup_vals (vals_two (o.cw.rok.val e) (o.hval i).1) (by simp)))
    · exact ih
def Sh.pairs (S : Sh) : List Ky := pairsN S.row S.held S.row.length
def spPairs (C : Addr) : Sp := fun vs H Q _ => ∃ a p fp S, vs = [.ref a] ∧ ShAt H C a p fp S ∧ ∀ H' L xs, Same H H' → Fresh H L → H' L = some (.lst xs) → KysAt H' xs S.pairs → Q (.ref L) H'
theorem len_pairs {C : Addr} {vs H Q E} (h : spPairs C vs H Q E) : vs.length = 1 := by obtain ⟨_, _, _, _, rfl, _⟩ := h; rfl
def Sh.counts (S : Sh) : List Int := [S.com - S.goi, S.com, S.goi, S.tid, S.mov]
def spCounts (C : Addr) : Sp := fun vs H Q _ => ∃ a p fp S, vs = [.ref a] ∧ ShAt H C a p fp S ∧ ∀ H' T, Same H H' → Fresh H T → H' T = some (.tup (S.counts.map V.int)) → Q (.ref T) H'
theorem len_counts {C : Addr} {vs H Q E} (h : spCounts C vs H Q E) : vs.length = 1 := by obtain ⟨_, _, _, _, rfl, _⟩ := h; rfl
/-- __init__ of a bare shelf -/
def spInit (C : Addr) : Sp := fun vs H Q _ => ∃ a dx j, vs = [.ref a, .int (2 ^ j)] ∧ H a = some (.ins C dx []) ∧ (3 ≤ j ∧ j ≤ 12) ∧ ∀ H' fp, Gr [a] H H' → Sub fp [a] H → ShAt H' C a .no fp (Sh.new j) → Q .non H'
theorem len_init {C : Addr} {vs H Q E} (h : spInit C vs H Q E) : vs.length = 2 := by obtain ⟨_, _, _, rfl, _⟩ := h; rfl
/-! taking out -/
theorem tup3_of {H : Hp} {v : V} {a b c : Ky} (h : KyAt H v (.tup [a, b, c])) : ∃ T x y z, v = .ref T ∧ H T = some (.tup [x, y, z]) ∧ KyAt H x a ∧ KyAt H y b ∧ KyAt H z c := by
  cases h with
  | tup h p =>
    cases p with
    | cons h1 p =>
      cases p with
      | cons h2 p =>
        cases p with
        | cons h3 p =>
          cases p
          exact ⟨_, _, _, _, rfl, h, h1, h2, h3⟩
theorem tup2_of {H : Hp} {v : V} {a b : Ky} (h : KyAt H v (.tup [a, b])) : ∃ T x y, v = .ref T ∧ H T = some (.tup [x, y]) ∧ KyAt H x a ∧ KyAt H y b := by
  cases h with
  | tup h p =>
    cases p with
    | cons h1 p =>
      cases p with
      | cons h2 p =>
        cases p
        exact ⟨_, _, _, rfl, h, h1, h2⟩
def spTake (C CN CL : Addr) : Sp := fun vs H Q E => ∃ a p fp S v y, vs = [.ref a, v] ∧ ShAt H C a p fp S ∧ KyAt H v y ∧ y.fit = true ∧ (within 3 y = true → KeyOk y) ∧
  (within 3 y = false → E (.ref CN) none H) ∧ (KeyOk y → match S.find y with
  | none => ∀ H', Same H H' → E (.ref CL) none H'
  | some q => ∀ H' fp' u z, Gr fp H H' → Sub fp' fp H → ShAt H' C a p fp' (S.went q y) → S.held[q]? = some z → KyAt H' u z → Q u H')
theorem len_take {C CN CL : Addr} {vs H Q E} (h : spTake C CN CL vs H Q E) : vs.length = 2 := by obtain ⟨_, _, _, _, _, _, rfl, _⟩ := h; rfl
/-- a place with a key whose number of coming is such -/
def Sh.liv (S : Sh) (f : Int → Bool) (p : Nat) : Bool := decide (S.row.getD p .non ≠ .non) && f (getI S.born p)
def Sh.after (S : Sh) (n : Int) : Option Nat := (List.range S.row.length).find? (S.liv fun b => decide (n < b))
/-- the greatest p < m with f -/
def lastP (f : Nat → Bool) : Nat → Option Nat
  | 0 => none
  | m + 1 => if f m = true then some m else lastP f m
theorem lastP_some {f : Nat → Bool} : ∀ {m p : Nat}, lastP f m = some p ↔ p < m ∧ f p = true ∧ ∀ q, p < q → q < m → f q = false
  | 0, p => by simp [lastP]
  | m + 1, p => by
    rw [lastP]
    by_cases c : f m = true
    · rw [if_pos c]
      constructor
      · intro e
        cases e
        exact ⟨Nat.lt_succ_self _, c, fun q h1 h2 => by omega⟩
      · rintro ⟨h1, h2, h3⟩
        rcases Nat.lt_or_ge p m with g | g
        · rw [h3 m g (Nat.lt_succ_self _)] at c
          cases c
        · rw [show p = m by omega]
    · rw [if_neg c, lastP_some (m := m)]
      constructor
      · rintro ⟨h1, h2, h3⟩
        refine ⟨by omega, h2, fun q g1 g2 => ?_⟩
        rcases Nat.lt_or_ge q m with g | g
        · exact h3 q g1 g
        · rw [show q = m by omega]
          simpa using c
      · rintro ⟨h1, h2, h3⟩
        refine ⟨?_, h2, fun q g1 g2 => h3 q g1 (by omega)⟩
        rcases Nat.lt_or_ge p m with g | g
        · exact g
        · rw [show p = m by omega] at h2
          exact absurd h2 c
theorem lastP_none {f : Nat → Bool} : ∀ {m : Nat}, lastP f m = none ↔ ∀ q, q < m → f q = false
  | 0 => by simp [lastP]
  | m + 1 => by
    rw [lastP]
    by_cases c : f m = true
    · rw [if_pos c]
      simp only [reduceCtorEq, false_iff]
      intro h
      rw [h m (Nat.lt_succ_self _)] at c
      cases c
    · rw [if_neg c, lastP_none (m := m)]
      constructor
      · intro h q g
        rcases Nat.lt_or_ge q m with g2 | g2
        · exact h q g2
        · rw [show q = m by omega]
          simpa using c
      · intro h q g
        exact h q (by omega)
theorem lastP_stop {f : Nat → Bool} {m p : Nat} (h : p < m) (e : f p = true) (b : ∀ q, p < q → q < m → f q = false) : lastP f m = some p := lastP_some.mpr ⟨h, e, b⟩
def Sh.ahead (S : Sh) (n : Int) : Option Nat := lastP (S.liv fun b => decide (b < n)) S.row.length
def Sh.trip (S : Sh) (p : Nat) : Ky := .tup [.num (getI S.born p), S.row.getD p .non, S.held.getD p .non]
def spAfter (C : Addr) : Sp := fun vs H Q _ => ∃ a p fp S n, vs = [.ref a, .int n] ∧ ShAt H C a p fp S ∧ (match S.after n with
  | none => ∀ H', Same H H' → Q .non H'
  | some q => ∀ H' v, Same H H' → KyAt H' v (S.trip q) → Q v H')
theorem len_after {C : Addr} {vs H Q E} (h : spAfter C vs H Q E) : vs.length = 2 := by obtain ⟨_, _, _, _, _, rfl, _⟩ := h; rfl
def spAheadS (C : Addr) : Sp := fun vs H Q _ => ∃ a p fp S n, vs = [.ref a, .int n] ∧ ShAt H C a p fp S ∧ (match S.ahead n with
  | none => ∀ H', Same H H' → Q .non H'
  | some q => ∀ H' v, Same H H' → KyAt H' v (S.trip q) → Q v H')
theorem len_aheadS {C : Addr} {vs H Q E} (h : spAheadS C vs H Q E) : vs.length = 2 := by obtain ⟨_, _, _, _, _, rfl, _⟩ := h; rfl
def Sh.last (S : Sh) : Option Nat := S.ahead (S.com + 1)
def spTakeLast (C CL : Addr) : Sp := fun vs H Q E => ∃ a p fp S, vs = [.ref a] ∧ ShAt H C a p fp S ∧ (match S.last with
  | none => ∀ H', Same H H' → E (.ref CL) none H'
  | some q => ∀ H' fp' v, Gr fp H H' → Sub fp' fp H → ShAt H' C a p fp' (S.went q (S.row.getD q .non)) → KyAt H' v (.tup [S.row.getD q .non, S.held.getD q .non]) → Q v H')
theorem len_takeLast {C CL : Addr} {vs H Q E} (h : spTakeLast C CL vs H Q E) : vs.length = 1 := by obtain ⟨_, _, _, _, rfl, _⟩ := h; rfl
theorem liv_key {S : Sh} (o : S.Ok) {f : Int → Bool} {p : Nat} (h : S.liv f p = true) : ∃ y, S.row[p]? = some y ∧ KeyOk y ∧ S.row.getD p .non = y := by
  unfold Sh.liv at h
  rw [Bool.and_eq_true, decide_eq_true_eq, List.getD_eq_getElem?_getD] at h
  cases e : S.row[p]? with
  | none => rw [e] at h; exact absurd rfl h.1
  | some y =>
    rw [e] at h
    refine ⟨y, rfl, (o.cw.rok.get e).resolve_left h.1, ?_⟩
    rw [List.getD_eq_getElem?_getD, e]
    rfl
theorem ahead_liv {S : Sh} {n : Int} {q : Nat} (h : S.ahead n = some q) : q < S.row.length ∧ S.liv (fun b => decide (b < n)) q = true := by
  have := lastP_some.mp h
  exact ⟨this.1, this.2.1⟩
theorem after_liv {S : Sh} {n : Int} {q : Nat} (h : S.after n = some q) : q < S.row.length ∧ S.liv (fun b => decide (n < b)) q = true := by
  unfold Sh.after at h
  rw [List.find?_range_eq_some] at h
  exact ⟨List.mem_range.mp h.2.1, h.1⟩
def Sh.emptied (S : Sh) : Sh := { row := [], held := [], born := [], cells := layN S.jl [] 0, j := S.jl, jl := S.jl, com := S.com, goi := S.com, tid := S.tid, mov := S.mov }
theorem Sh.Ok.emptied {S : Sh} (o : S.Ok) : S.emptied.Ok := ⟨cwf_nil o.l3 o.l12, rfl, rfl, (fun _ h => by cases h), o.l3, o.l12, .nil, (fun _ h => by cases h), o.c0, by simp [Sh.emptied]⟩
def spRelay (C : Addr) : Sp := fun vs H Q _ => ∃ a dx p c r h b S ws us, vs = [.ref a] ∧ ShRaw H C a dx p c r h b S ws us ∧ RowOk S.row ∧ (3 ≤ S.j ∧ S.j ≤ 12) ∧ (S.row.length : Int) ≤ 2 * 2 ^ S.j / 3 ∧
  ∀ H' c', Gr [a] H H' → Fresh H c' → ShRaw H' C a dx p c' r h b { S with cells := layN S.j S.row S.row.length } ws us → Q .non H'
theorem len_relay {C : Addr} {vs H Q E} (h : spRelay C vs H Q E) : vs.length = 1 := by obtain ⟨_, _, _, _, _, _, _, _, _, _, rfl, _⟩ := h; rfl
def spEmptied (C : Addr) : Sp := fun vs H Q _ => ∃ a p fp S, vs = [.ref a] ∧ ShAt H C a p fp S ∧ ∀ H' fp', Gr fp H H' → Sub fp' fp H → ShAt H' C a p fp' S.emptied → Q .non H'
theorem len_emptied {C : Addr} {vs H Q E} (h : spEmptied C vs H Q E) : vs.length = 1 := by obtain ⟨_, _, _, _, rfl, _⟩ := h; rfl
def spShPaper (C CN : Addr) : Sp := fun vs H Q E => ∃ a p fp S v y, vs = [.ref a, v] ∧ ShAt H C a p fp S ∧ KyAt H v y ∧ y.fit = true ∧ (within 3 y = true → KeyOk y) ∧
  (within 3 y = false → E (.ref CN) none H) ∧ (KeyOk y → ∀ H' L xs, Same H H' → Fresh H L → H' L = some (.lst xs) → KysAt H' xs (paperK S.cells S.row S.j y) → Q (.ref L) H')
theorem len_shPaper {C CN : Addr} {vs H Q E} (h : spShPaper C CN vs H Q E) : vs.length = 2 := by obtain ⟨_, _, _, _, _, _, rfl, _⟩ := h; rfl
def spForm (C : Addr) : Sp := fun vs H Q _ => ∃ a p fp S, vs = [.ref a] ∧ ShAt H C a p fp S ∧ ∀ H' t l1 l2 ws, Same H H' → Fresh H t → Fresh H l1 → Fresh H l2 → l1 ≠ l2 → H' t = some (.tup [.ref l1, .ref l2]) → H' l1 = some (.lst (S.cells.map V.int)) → H' l2 = some (.lst ws) → KysAt H' ws S.row → Q (.ref t) H'
theorem len_form {C : Addr} {vs H Q E} (h : spForm C vs H Q E) : vs.length = 1 := by obtain ⟨_, _, _, _, rfl, _⟩ := h; rfl
end My
namespace My
open PySem PySem.Spec PyProof.Rows L2
/-- a shelf, and beside it a law's own cells and row; Hb: what stood before these were made -/
structure LS (Hb H : Hp) (C sh lc lr : Addr) (S : Sh) (cs : List Int) (ks : List Ky) : Prop where
  sm : Same Hb H
  ex : ∃ fp us, ShAt H C sh .no fp S ∧ (∀ x ∈ fp, Fresh Hb x) ∧ H lc = some (.lst (cs.map V.int)) ∧ H lr = some (.lst us) ∧ KysAt H us ks ∧ lc ∉ fp ∧ lr ∉ fp
  ne : lc ≠ lr
  fc : Fresh Hb lc
  fr : Fresh Hb lr
  rk : RowOk ks
theorem rep_empty {j : Nat} : (List.replicate (2 ^ j : Int).toNat [V.int (-1)]).flatten = (List.replicate (2 ^ j) (-1 : Int)).map V.int := by
  rw [← pow_cast, Int.toNat_natCast, List.map_replicate]
  generalize 2 ^ j = n
  induction n with
  | zero => rfl
  | succ n ih => rw [List.replicate_succ, List.flatten_cons, ih]; rfl
theorem RowOk.vals {ks : List Ky} (h : RowOk ks) : Ky.vals ks = true := vals_iff.mpr fun k hk => by
  rcases h k hk with rfl | q
  · rfl
  · exact q.val
section
variable {Hb H H' : Hp} {C sh lc lr : Addr} {S : Sh} {cs : List Int} {ks : List Ky}
theorem LS.ext (g : LS Hb H C sh lc lr S cs ks) (s : Same H H') : LS Hb H' C sh lc lr S cs ks := by
  obtain ⟨fp, us, h1, h2, h3, h4, h5, h6, h7⟩ := g.ex
  exact ⟨g.sm.trans s, ⟨fp, us, h1.ext s, h2, s _ _ h3, s _ _ h4, h5.same s _ _, h6, h7⟩, g.ne, g.fc, g.fr, g.rk⟩
theorem LS.at (g : LS Hb H C sh lc lr S cs ks) : ∃ us, H lc = some (.lst (cs.map V.int)) ∧ H lr = some (.lst us) ∧ KysAt H us ks := by
  obtain ⟨fp, us, h1, h2, h3, h4, h5, h6, h7⟩ := g.ex
  exact ⟨us, h3, h4, h5⟩
theorem LS.step (g : LS Hb H C sh lc lr S cs ks) : ∃ fp, ShAt H C sh .no fp S ∧ ∀ H' fp' S', Gr fp H H' → Sub fp' fp H → ShAt H' C sh .no fp' S' → LS Hb H' C sh lc lr S' cs ks := by
  obtain ⟨fp, us, h1, h2, h3, h4, h5, h6, h7⟩ := g.ex
  exact ⟨fp, h1, fun H' fp' S' gr sb hS => ⟨gr.same g.sm h2, ⟨fp', us, hS, sb.fresh g.sm h2, gr.keep _ _ h3 h6, gr.keep _ _ h4 h7, h1.kys gr g.rk.vals h5, sb.not h3 h6, sb.not h4 h7⟩, g.ne, g.fc, g.fr, g.rk⟩⟩
theorem LS.cellsU (g : LS Hb H C sh lc lr S cs ks) (cs' : List Int) : LS Hb (upd H lc (.lst (cs'.map V.int))) C sh lc lr S cs' ks := by
  obtain ⟨fp, us, h1, h2, h3, h4, h5, h6, h7⟩ := g.ex
  have nt : NoTup H [lc] := noTup_one h3 fun _ z => by cases z
  have gr : Gr [lc] H (upd H lc (.lst (cs'.map V.int))) := Gr.refl.put (by simp)
  exact ⟨Same_upd0 g.sm g.fc, ⟨fp, us, h1.apart gr nt fun x hx m => h6 (by rw [List.mem_singleton] at m; rw [← m]; exact hx), h2, upd_same, by rw [upd_ne g.ne.symm]; exact h4, KysAt.keep gr.keep nt _ _ g.rk.vals h5, h6, h7⟩, g.ne, g.fc, g.fr, g.rk⟩
theorem LS.rowU (g : LS Hb H C sh lc lr S cs ks) {ws : List V} {ls : List Ky} (hw : KysAt H ws ls) (hr : RowOk ls) : LS Hb (upd H lr (.lst ws)) C sh lc lr S cs ls := by
  obtain ⟨fp, us, h1, h2, h3, h4, h5, h6, h7⟩ := g.ex
  have nt : NoTup H [lr] := noTup_one h4 fun _ z => by cases z
  have gr : Gr [lr] H (upd H lr (.lst ws)) := Gr.refl.put (by simp)
  exact ⟨Same_upd0 g.sm g.fr, ⟨fp, ws, h1.apart gr nt fun x hx m => h7 (by rw [List.mem_singleton] at m; rw [← m]; exact hx), h2, by rw [upd_ne g.ne]; exact h3, upd_same, KysAt.keep gr.keep nt _ _ hr.vals hw, h6, h7⟩, g.ne, g.fc, g.fr, hr⟩
end
theorem ShAt.alloc {H : Hp} {C a : Addr} {p : Pre} {fp : List Addr} {S : Sh} (g : ShAt H C a p fp S) {x : Addr} (f : Fresh H x) : x ∉ fp := fun m => by
  unfold Fresh at f
  obtain ⟨dx, c, r, h, b, ws, us, rfl, q, o⟩ := g
  simp only [List.mem_cons, List.not_mem_nil, or_false] at m
  rcases m with rfl | rfl | rfl | rfl | rfl
  · rw [q.ha] at f; cases f
  · rw [q.hc] at f; cases f
  · rw [q.hr] at f; cases f
  · rw [q.hh] at f; cases f
  · rw [q.hb] at f; cases f
section
variable {Hb H H' : Hp} {C sh lc lr : Addr} {S : Sh} {cs : List Int} {ks : List Ky}
theorem LS.base (g : LS Hb H C sh lc lr S cs ks) {l : Addr} {o : HO} (f : Fresh H l) : LS (upd Hb l o) (upd H l o) C sh lc lr S cs ks := by
  have e := g.ext (Same_upd (o := o) (Same.refl _) f)
  obtain ⟨fp, us, h1, h2, h3, h4, h5, h6, h7⟩ := g.ex
  have nl := h1.alloc f
  have n1 : lc ≠ l := f.ne h3
  have n2 : lr ≠ l := f.ne h4
  have fr : ∀ {x : Addr}, x ≠ l → Fresh Hb x → Fresh (upd Hb l o) x := fun {x} n q => by
    unfold Fresh
    rw [upd_ne n]
    exact q
  refine ⟨fun b u q => ?_, ⟨fp, us, h1.ext (Same_upd (Same.refl _) f), fun x hx => fr (fun q => nl (by rw [← q]; exact hx)) (h2 x hx), by rw [upd_ne n1]; exact h3, by rw [upd_ne n2]; exact h4, h5.same (Same_upd (Same.refl _) f) _ _, h6, h7⟩, g.ne, fr n1 g.fc, fr n2 g.fr, g.rk⟩
  by_cases c : b = l
  · rw [c, upd_same] at q
    rw [c, upd_same]
    exact q
  · rw [upd_ne c] at q
    rw [upd_ne c]
    exact g.sm _ _ q
theorem LS.newCells (g : LS Hb H C sh lc lr S cs ks) {l : Addr} (f : Fresh H l) (cs' : List Int) : LS Hb (upd H l (.lst (cs'.map V.int))) C sh l lr S cs' ks := by
  obtain ⟨fp, us, h1, h2, h3, h4, h5, h6, h7⟩ := g.ex
  have s := Same_upd (o := .lst (cs'.map V.int)) (Same.refl H) f
  exact ⟨g.sm.trans s, ⟨fp, us, h1.ext s, h2, upd_same, s _ _ h4, h5.same s _ _, h1.alloc f, h7⟩, (f.ne h4).symm, Same_fresh g.sm f, g.fr, g.rk⟩
theorem LS.newRow (g : LS Hb H C sh lc lr S cs ks) {l : Addr} (f : Fresh H l) : LS Hb (upd H l (.lst [])) C sh lc l S cs [] := by
  obtain ⟨fp, us, h1, h2, h3, h4, h5, h6, h7⟩ := g.ex
  have s := Same_upd (o := .lst []) (Same.refl H) f
  exact ⟨g.sm.trans s, ⟨fp, [], h1.ext s, h2, s _ _ h3, upd_same, .nil, h6, h1.alloc f⟩, f.ne h3, g.fc, Same_fresh g.sm f, fun _ h => by cases h⟩
theorem LS.start {fp : List Addr} (sm : Same Hb H) (h : ShAt H C sh .no fp S) (ff : ∀ x ∈ fp, Fresh Hb x) {l r : Addr} (f : Fresh H l) (f2 : Fresh (upd H l (.lst (cs.map V.int))) r) : LS Hb (upd (upd H l (.lst (cs.map V.int))) r (.lst [])) C sh l r S cs [] := by
  have s := Same_upd (o := .lst (cs.map V.int)) (Same.refl H) f
  have s2 := Same_upd (o := .lst []) s f2
  have n : l ≠ r := f2.ne upd_same
  exact ⟨sm.trans s2, ⟨fp, [], h.ext s2, ff, by rw [upd_ne n]; exact upd_same, upd_same, .nil, h.alloc f, h.alloc (Same_fresh s f2)⟩, n, Same_fresh sm f, Same_fresh sm (Same_fresh s f2), fun _ h => by cases h⟩
end
theorem index_int {K : PySem.W.Frag} {H : Hp} {a : Addr} {cs : List Int} {z : Int} {j : Nat} {Q : VK} (ha : SqL K H a (cs.map V.int)) (e : cs[j]? = some z) (b : ∀ m : Nat, m < j → cs[m]? ≠ some z) (q : Q (.int (j : Nat)) H) : rIndex K (.ref a) [.int z] H Q := by
  refine ⟨a, _, _, j, .int z, rfl, rfl, ha, rfl, List.all_eq_true.mpr fun x hx => ?_, by rw [List.getElem?_map, e]; rfl, by simp [eqV], fun m z' hm h => ?_, q⟩
  · obtain ⟨n, _, rfl⟩ := List.mem_map.mp hx
    rfl
  · obtain ⟨n, h1, rfl⟩ := ints_at h
    have : n ≠ z := fun c => b m hm (by rw [h1, c])
    simp [eqV, this]
/-- a wish of a try: the clause takes it -/
theorem wOnly_yes {K : PySem.W.Frag} {c cls : Value} {ts : Addr → Value → Option Addr → TS} {Wout : WX} {D : Ends} {σ : L2.St} {d : Option Addr} {H : Hp} (e : PySem.W.exmOne K cls c = some true) (k : ∀ a, Fresh H a → ts a cls d D σ H) : WE (wOnly K c ts Wout D) σ cls d H := ⟨true, e, fun _ a f => k a f, fun q => nomatch q⟩
theorem wMany_yes {K : PySem.W.Frag} {c cls : Value} {ts : Addr → Value → Option Addr → TS} {l : List (Value × (Addr → Value → Option Addr → TS))} {Wout : WX} {D : Ends} {σ : L2.St} {d : Option Addr} {H : Hp} (e : PySem.W.exmOne K cls c = some true) (k : ∀ a, Fresh H a → ts a cls d D σ H) : wMany K Wout D ((c, ts) :: l) cls d σ H := ⟨true, e, fun _ a f => k a f, fun q => nomatch q⟩
theorem wMany_no {K : PySem.W.Frag} {c cls : Value} {ts : Addr → Value → Option Addr → TS} {l : List (Value × (Addr → Value → Option Addr → TS))} {Wout : WX} {D : Ends} {σ : L2.St} {d : Option Addr} {H : Hp} (e : PySem.W.exmOne K cls c = some false) (k : wMany K Wout D l cls d σ H) : wMany K Wout D ((c, ts) :: l) cls d σ H := ⟨false, e, (fun q => nomatch q), fun _ => k⟩
/-- the last living place -/
theorem last_liv {S : Sh} (o : S.Ok) : S.last = lastP (fun p => decide (S.row.getD p .non ≠ .non)) S.row.length := by
  have e : ∀ p, p < S.row.length → S.liv (fun b => decide (b < S.com + 1)) p = decide (S.row.getD p .non ≠ .non) := fun p hp => by
    unfold Sh.liv
    have hb := o.bl
    have := (o.bc _ (getI_in (ps := S.born) (c := (p : Nat)) (by omega) (by omega))).2
    dsimp only
    rw [decide_eq_true (show getI S.born (p : Nat) < S.com + 1 by omega), Bool.and_true]
  unfold Sh.last Sh.ahead
  cases h : lastP (fun p => decide (S.row.getD p .non ≠ .non)) S.row.length with
  | none =>
    rw [lastP_none] at h ⊢
    exact fun q hq => by rw [e q hq]; exact h q hq
  | some p =>
    rw [lastP_some] at h ⊢
    exact ⟨h.1, by rw [e p h.1]; exact h.2.1, fun q h1 h2 => by rw [e q h2]; exact h.2.2 q h1 h2⟩
theorem lastP_filter (f : Nat → Bool) : ∀ n : Nat, lastP f n = ((List.range n).filter f).getLast?
  | 0 => rfl
  | n + 1 => by
    rw [lastP, List.range_succ, List.filter_append]
    by_cases c : f n = true
    · simp [c]
    · have c' : f n = false := by simpa using c
      simp [c', lastP_filter f n]
end My
namespace My
open PySem PySem.Spec PyProof.Rows L2
/-! a shelf, and beside it lists of the law's own -/
structure LW (Hb H : Hp) (C sh : Addr) (S : Sh) (own : List (Addr × List Ky)) : Prop where
  sm : Same Hb H
  ex : ∃ fp, ShAt H C sh .no fp S ∧ (∀ x ∈ fp, Fresh Hb x) ∧ ∀ q ∈ own, q.1 ∉ fp
  ats : ∀ q ∈ own, Fresh Hb q.1 ∧ Ky.vals q.2 = true ∧ ∃ ws, H q.1 = some (.lst ws) ∧ KysAt H ws q.2
  nd : (own.map Prod.fst).Nodup
section
variable {Hb H H' : Hp} {C sh a b : Addr} {S : Sh} {ks ls : List Ky} {own r : List (Addr × List Ky)}
theorem LW.ext (g : LW Hb H C sh S own) (s : Same H H') : LW Hb H' C sh S own := by
  obtain ⟨fp, h1, h2, h3⟩ := g.ex
  exact ⟨g.sm.trans s, ⟨fp, h1.ext s, h2, h3⟩, fun q m => by
    obtain ⟨x1, x2, ws, x3, x4⟩ := g.ats q m
    exact ⟨x1, x2, ws, s _ _ x3, x4.same s _ _⟩, g.nd⟩
theorem LW.step (g : LW Hb H C sh S own) : ∃ fp, ShAt H C sh .no fp S ∧ ∀ H' fp' S', Gr fp H H' → Sub fp' fp H → ShAt H' C sh .no fp' S' → LW Hb H' C sh S' own := by
  obtain ⟨fp, h1, h2, h3⟩ := g.ex
  refine ⟨fp, h1, fun H' fp' S' gr sb hS => ⟨gr.same g.sm h2, ⟨fp', hS, sb.fresh g.sm h2, fun q m => ?_⟩, fun q m => ?_, g.nd⟩⟩
  · obtain ⟨x1, x2, ws, x3, x4⟩ := g.ats q m
    exact sb.not x3 (h3 q m)
  · obtain ⟨x1, x2, ws, x3, x4⟩ := g.ats q m
    exact ⟨x1, x2, ws, gr.keep _ _ x3 (h3 q m), h1.kys gr x2 x4⟩
theorem LW.get (g : LW Hb H C sh S own) {q : Addr × List Ky} (m : q ∈ own) : ∃ ws, H q.1 = some (.lst ws) ∧ KysAt H ws q.2 := (g.ats q m).2.2
/-- a list of the law's changes -/
theorem LW.put {o1 o2 : List (Addr × List Ky)} (g : LW Hb H C sh S (o1 ++ (a, ks) :: o2)) {ws : List V} (v : Ky.vals ls = true) (h : KysAt H ws ls) : LW Hb (upd H a (.lst ws)) C sh S (o1 ++ (a, ls) :: o2) := by
  obtain ⟨fp, h1, h2, h3⟩ := g.ex
  obtain ⟨y1, y2, us, y3, y4⟩ := g.ats (a, ks) (by simp)
  have na := h3 (a, ks) (by simp)
  have nt : NoTup H [a] := noTup_one y3 fun _ z => by cases z
  have gr : Gr [a] H (upd H a (.lst ws)) := Gr.refl.put (by simp)
  have nd := g.nd
  rw [List.map_append, List.map_cons, List.nodup_append] at nd
  obtain ⟨n1, n2, n3⟩ := nd
  obtain ⟨n4, n5⟩ := List.nodup_cons.mp n2
  have old : ∀ q ∈ o1 ++ o2, q.1 ≠ a ∧ q ∈ o1 ++ (a, ks) :: o2 := fun q m => by
    rcases List.mem_append.mp m with m | m
    · exact ⟨n3 _ (List.mem_map_of_mem m) _ List.mem_cons_self, List.mem_append_left _ m⟩
    · exact ⟨fun e => n4 (show a ∈ o2.map Prod.fst from e ▸ List.mem_map_of_mem m), List.mem_append_right _ (List.mem_cons_of_mem _ m)⟩
  have cases_ : ∀ q ∈ o1 ++ (a, ls) :: o2, q = (a, ls) ∨ q ∈ o1 ++ o2 := fun q m => by
    rcases List.mem_append.mp m with m | m
    · exact .inr (List.mem_append_left _ m)
    · rcases List.mem_cons.mp m with m | m
      · exact .inl m
      · exact .inr (List.mem_append_right _ m)
  refine ⟨Same_upd0 g.sm y1, ⟨fp, h1.apart gr nt fun x hx m => na (by rw [List.mem_singleton] at m; rw [← m]; exact hx), h2, fun q m => ?_⟩, fun q m => ?_, ?_⟩
  · rcases cases_ q m with rfl | m
    · exact na
    · exact h3 q (old q m).2
  · rcases cases_ q m with rfl | m
    · exact ⟨y1, v, ws, upd_same, KysAt.keep gr.keep nt _ _ v h⟩
    · obtain ⟨x1, x2, us, x3, x4⟩ := g.ats q (old q m).2
      exact ⟨x1, x2, us, by rw [upd_ne (old q m).1]; exact x3, KysAt.keep gr.keep nt _ _ x2 x4⟩
  · rw [List.map_append, List.map_cons, List.nodup_append]
    exact ⟨n1, n2, n3⟩
/-- a list of the law's is new -/
theorem LW.new (g : LW Hb H C sh S own) (f : Fresh H a) {ws : List V} (v : Ky.vals ls = true) (h : KysAt H ws ls) : LW Hb (upd H a (.lst ws)) C sh S (own ++ [(a, ls)]) := by
  obtain ⟨fp, h1, h2, h3⟩ := g.ex
  have s := Same_upd (o := .lst ws) (Same.refl H) f
  have e := g.ext s
  obtain ⟨fq, k1, k2, k3⟩ := e.ex
  refine ⟨e.sm, ⟨fp, h1.ext s, h2, fun q m => ?_⟩, fun q m => ?_, ?_⟩
  · rcases List.mem_append.mp m with m | m
    · exact h3 q m
    · rw [List.mem_singleton] at m
      rw [m]
      exact h1.alloc f
  · rcases List.mem_append.mp m with m | m
    · exact e.ats q m
    · rw [List.mem_singleton] at m
      subst m
      exact ⟨Same_fresh g.sm f, v, ws, upd_same, h.same s _ _⟩
  · rw [List.map_append, List.nodup_append]
    refine ⟨g.nd, by simp, fun x hx y hy => ?_⟩
    obtain ⟨q, m, rfl⟩ := List.mem_map.mp hx
    obtain ⟨x1, x2, us, x3, x4⟩ := g.ats q m
    simp at hy
    rw [hy]
    exact f.ne x3
theorem LW.base (g : LW Hb H C sh S own) {l : Addr} {o : HO} (f : Fresh H l) : LW (upd Hb l o) (upd H l o) C sh S own := by
  obtain ⟨fp, h1, h2, h3⟩ := g.ex
  have s := Same_upd (o := o) (Same.refl H) f
  have e := g.ext s
  have nl := h1.alloc f
  have fr : ∀ {x : Addr}, x ≠ l → Fresh Hb x → Fresh (upd Hb l o) x := fun {x} n q => by
    unfold Fresh
    rw [upd_ne n]
    exact q
  refine ⟨fun b u q => ?_, ⟨fp, h1.ext s, fun x hx => fr (fun q => nl (by rw [← q]; exact hx)) (h2 x hx), h3⟩, fun q m => ?_, g.nd⟩
  · by_cases c : b = l
    · rw [c, upd_same] at q
      rw [c, upd_same]
      exact q
    · rw [upd_ne c] at q
      rw [upd_ne c]
      exact g.sm _ _ q
  · obtain ⟨x1, x2, us, x3, x4⟩ := e.ats q m
    obtain ⟨y1, y2, ws, y3, y4⟩ := g.ats q m
    exact ⟨fr (f.ne y3) y1, x2, us, x3, x4⟩
theorem LW.start {fp : List Addr} (sm : Same Hb H) (h : ShAt H C sh .no fp S) (ff : ∀ x ∈ fp, Fresh Hb x) : LW Hb H C sh S [] := ⟨sm, ⟨fp, h, ff, fun _ m => by cases m⟩, (fun _ m => by cases m), .nil⟩
end
theorem kys_ints {H : Hp} : ∀ {ns : List Int} {ws : List V}, KysAt H ws (ns.map Ky.num) → ws = ns.map V.int
  | [], _, h => by cases h; rfl
  | n :: ns, _, h => by
    cases h with
    | cons h t =>
      cases h
      rw [kys_ints t]
      rfl
theorem vals_nums : ∀ ns : List Int, Ky.vals (ns.map Ky.num) = true := fun ns => vals_iff.mpr fun k hk => by
  obtain ⟨n, _, rfl⟩ := List.mem_map.mp hk
  rfl
/-! the living pairs -/
def lvP (row held : List Ky) : List (Ky × Ky) := (row.zip held).filter fun p => decide (p.1 ≠ .non)
def Sh.lv (S : Sh) : List (Ky × Ky) := lvP S.row S.held
def pairT (p : Ky × Ky) : Ky := .tup [p.1, p.2]
theorem pairsN_lv : ∀ (row held : List Ky) (n : Nat), held.length = row.length → n ≤ row.length → pairsN row held n = (lvP (row.take n) (held.take n)).map pairT
  | row, held, 0, _, _ => rfl
  | row, held, n + 1, h, l => by
    have ih := pairsN_lv row held n h (by omega)
    have e1 : row[n]? = some row[n] := List.getElem?_eq_getElem (by omega)
    rw [pairsN, e1, List.take_succ_eq_append_getElem (by omega : n < row.length), List.take_succ_eq_append_getElem (by omega : n < held.length)]
    unfold lvP
    rw [List.zip_append (by rw [List.length_take, List.length_take]; omega), List.filter_append, List.map_append]
    dsimp only
    by_cases c : row[n] = .non
    · rw [if_pos c, ih]
      simp [c, lvP]
    · rw [if_neg c, ih]
      have e2 : held.getD n .non = held[n] := by rw [List.getD_eq_getElem?_getD, List.getElem?_eq_getElem (by omega : n < held.length)]; rfl
      rw [e2]
      simp [c, lvP, pairT]
theorem pairs_lv {S : Sh} (o : S.Ok) : S.pairs = S.lv.map pairT := by
  unfold Sh.pairs Sh.lv
  rw [pairsN_lv _ _ _ o.hl (Nat.le_refl _), List.take_length, ← o.hl, List.take_length]
theorem lvP_append (r1 r2 h1 h2 : List Ky) (e : r1.length = h1.length) : lvP (r1 ++ r2) (h1 ++ h2) = lvP r1 h1 ++ lvP r2 h2 := by
  unfold lvP
  rw [List.zip_append e, List.filter_append]
theorem lvP_key {r h : List Ky} {p : Ky × Ky} (m : p ∈ lvP r h) : p.1 ∈ r ∧ p.2 ∈ h ∧ p.1 ≠ .non := by
  unfold lvP at m
  rw [List.mem_filter] at m
  obtain ⟨m1, m2⟩ := m
  obtain ⟨a, b⟩ := p
  exact ⟨(List.of_mem_zip m1).1, (List.of_mem_zip m1).2, of_decide_eq_true m2⟩
theorem split_at {α : Type} {l : List α} {q : Nat} {x : α} (e : l[q]? = some x) : ∃ a b, l = a ++ x :: b ∧ a.length = q := by
  obtain ⟨h, e⟩ := List.getElem?_eq_some_iff.mp e
  refine ⟨l.take q, l.drop (q + 1), ?_, by rw [List.length_take]; omega⟩
  rw [← e, List.getElem_cons_drop, List.take_append_drop]
theorem set_mid {α : Type} (a b : List α) (x y : α) : (a ++ x :: b).set a.length y = a ++ y :: b := by simp
theorem Sh.Ok.split {S : Sh} (o : S.Ok) {q : Nat} {y : Ky} (e : S.row[q]? = some y) (n : y ≠ .non) : ∃ (A B : List (Ky × Ky)) (z : Ky), S.lv = A ++ (y, z) :: B ∧ S.held[q]? = some z ∧ (∀ u, (S.hold q u).lv = A ++ (y, u) :: B) ∧ (S.went q y).lv = A ++ B ∧
    (∀ p ∈ A, p.1 ≠ y) ∧ (∀ p ∈ B, p.1 ≠ y) ∧ ((∀ t, q < t → S.row.getD t .non = .non) → B = []) := by
  obtain ⟨r1, r2, er, el⟩ := split_at e
  have hq := (List.getElem?_eq_some_iff.mp e).1
  have hl := o.hl
  obtain ⟨z0, ez⟩ : ∃ z, S.held[q]? = some z := ⟨_, List.getElem?_eq_getElem (by omega)⟩
  obtain ⟨h1, h2, eh, eg⟩ := split_at ez
  have ee : r1.length = h1.length := by omega
  have one : ∀ u, lvP (r1 ++ y :: r2) (h1 ++ u :: h2) = lvP r1 h1 ++ (y, u) :: lvP r2 h2 := fun u => by
    rw [lvP_append _ _ _ _ ee]
    congr 1
    show List.filter _ ((y, u) :: r2.zip h2) = _
    rw [List.filter_cons, if_pos (decide_eq_true n)]
    rfl
  have uq : ∀ t, S.row[t]? = some y → t = q := fun t h => o.cw.nd t q y h e n
  refine ⟨lvP r1 h1, lvP r2 h2, z0, ?_, ez, fun u => ?_, ?_, fun p m => ?_, fun p m => ?_, fun h => ?_⟩
  · have := one z0
    rw [← er, ← eh] at this
    exact this
  · show lvP S.row (S.held.set q u) = _
    rw [← one u, er]
    congr 1
    rw [eh]
    rw [← eg]
    exact set_mid _ _ _ _
  · show lvP (S.row.set q .non) (S.held.set q .non) = _
    have e1 : S.row.set q .non = r1 ++ .non :: r2 := by rw [er, ← el]; exact set_mid _ _ _ _
    have e2 : S.held.set q .non = h1 ++ .non :: h2 := by rw [eh, ← eg]; exact set_mid _ _ _ _
    rw [e1, e2, lvP_append _ _ _ _ ee]
    congr 1
  · intro c
    obtain ⟨t, ht, et⟩ := List.mem_iff_getElem.mp (lvP_key m).1
    have := uq t (by rw [er, List.getElem?_append_left ht, List.getElem?_eq_getElem ht, et, c])
    omega
  · intro c
    obtain ⟨t, ht, et⟩ := List.mem_iff_getElem.mp (lvP_key m).1
    have := uq (r1.length + 1 + t) (by
      rw [er, List.getElem?_append_right (by omega), show r1.length + 1 + t - r1.length = t + 1 by omega, List.getElem?_cons_succ, List.getElem?_eq_getElem ht, et, c])
    omega
  · rw [List.eq_nil_iff_forall_not_mem]
    intro p m
    obtain ⟨k1, -, k3⟩ := lvP_key m
    obtain ⟨t, ht, et⟩ := List.mem_iff_getElem.mp k1
    have := h (r1.length + 1 + t) (by omega)
    rw [List.getD_eq_getElem?_getD, er, List.getElem?_append_right (by omega), show r1.length + 1 + t - r1.length = t + 1 by omega, List.getElem?_cons_succ, List.getElem?_eq_getElem ht, et] at this
    exact k3 this
theorem come_lv {S : Sh} (o : S.Ok) {y z : Ky} (n : y ≠ .non) : (S.come y z).lv = S.lv ++ [(y, z)] := by
  show lvP (S.row ++ [y]) (S.held ++ [z]) = _
  rw [lvP_append _ _ _ _ o.hl.symm]
  congr 1
  show List.filter _ [(y, z)] = _
  rw [List.filter_cons, if_pos (decide_eq_true n)]
  rfl
theorem lv_not {S : Sh} {y : Ky} (e : y ∉ S.row) : ∀ p ∈ S.lv, p.1 ≠ y := fun p m c => e (by rw [← c]; exact (lvP_key m).1)
theorem last_none {S : Sh} (o : S.Ok) (e : S.last = none) : S.lv = [] := by
  rw [last_liv o, lastP_none] at e
  rw [List.eq_nil_iff_forall_not_mem]
  intro p m
  obtain ⟨k1, -, k3⟩ := lvP_key m
  obtain ⟨t, ht, et⟩ := List.mem_iff_getElem.mp k1
  have := of_decide_eq_false (e t ht)
  rw [List.getD_eq_getElem?_getD, List.getElem?_eq_getElem ht, et] at this
  exact this k3
theorem last_some {S : Sh} (o : S.Ok) {q : Nat} (e : S.last = some q) : ∀ t, q < t → S.row.getD t .non = .non := fun t h => by
  rw [last_liv o, lastP_some] at e
  rcases Nat.lt_or_ge t S.row.length with g | g
  · have := of_decide_eq_false (e.2.2 t h g)
    exact Classical.byContradiction this
  · rw [List.getD_eq_getElem?_getD, List.getElem?_eq_none_iff.mpr g]
    rfl
theorem lv_len {S : Sh} (o : S.Ok) : (S.lv.length : Int) = S.com - S.goi := by
  rw [o.many]
  unfold Sh.lv lvP
  have h : ∀ (r h : List Ky), h.length = r.length → ((r.zip h).filter fun p => decide (p.1 ≠ .non)).length = (r.filter fun k => decide (k ≠ .non)).length := by
    intro r
    induction r with
    | nil => intro h e; rfl
    | cons x r ih =>
      intro h e
      cases h with
      | nil => simp at e
      | cons z h =>
        rw [List.zip_cons_cons, List.filter_cons, List.filter_cons]
        dsimp only
        split
        · rw [List.length_cons, List.length_cons, ih h (by simpa using e)]
        · exact ih h (by simpa using e)
  rw [h _ _ o.hl]
/-! a deed, and what comes of it: a number (0; 1: Full; 2: Lacking), an answer, the shelf -/
def Sh.deed (mr : Sh → Option Sh) (S : Sh) (way : Nat) (y z : Ky) : Int × Ky × Sh := match way with
  | 0 => match S.put mr y z with
    | none => (1, .non, S)
    | some (b, S') => (0, .bl b, S')
  | 1 => match S.find y with
    | none => (2, .non, S)
    | some q => (0, S.held.getD q .non, S.went q y)
  | 2 => match S.last with
    | none => (2, .non, S)
    | some q => (0, .tup [S.row.getD q .non, S.held.getD q .non], S.went q (S.row.getD q .non))
  | 3 => match S.heldAt y with
    | none => (2, .non, S)
    | some u => (0, u, S)
  | 4 => match S.heldAt y with
    | none => (0, z, S)
    | some u => (0, u, S)
  | 5 => (0, .bl (S.find y).isSome, S)
  | 6 => (0, .tup (S.counts.map Ky.num), S)
  | _ => (0, .non, S.emptied)
def spDeed (C CF CL : Addr) (mr : Sh → Option Sh) : Sp := fun vs H Q E => ∃ sh w v u p fp S y z, vs = [.ref sh, .int (w : Nat), v, u] ∧ ShAt H C sh p fp S ∧ KyAt H v y ∧ KeyOk y ∧ KyAt H u z ∧ HVal z ∧ w ≤ 7 ∧
  ((S.deed mr w y z).1 = 0 → ∀ H' fp' x, Gr fp H H' → Sub fp' fp H → ShAt H' C sh p fp' (S.deed mr w y z).2.2 → KyAt H' x (S.deed mr w y z).2.1 → Q x H') ∧
  ((S.deed mr w y z).1 = 1 → ∀ H', Same H H' → E (.ref CF) none H') ∧ ((S.deed mr w y z).1 = 2 → ∀ H', Same H H' → E (.ref CL) none H')
theorem len_deed {C CF CL : Addr} {mr : Sh → Option Sh} {vs H Q E} (h : spDeed C CF CL mr vs H Q E) : vs.length = 4 := by obtain ⟨_, _, _, _, _, _, _, _, _, rfl, _⟩ := h; rfl
def spAsked (C : Addr) (mr : Sh → Option Sh) : Sp := fun vs H Q _ => ∃ sh w v u p fp S y z, vs = [.ref sh, .int (w : Nat), v, u] ∧ ShAt H C sh p fp S ∧ KyAt H v y ∧ KeyOk y ∧ KyAt H u z ∧ HVal z ∧ w ≤ 7 ∧
  ∀ H' fp' x, Gr fp H H' → Sub fp' fp H → ShAt H' C sh p fp' (S.deed mr w y z).2.2 → KyAt H' x (.tup [.num (S.deed mr w y z).1, (S.deed mr w y z).2.1]) → Q x H'
theorem len_asked {C : Addr} {mr : Sh → Option Sh} {vs H Q E} (h : spAsked C mr vs H Q E) : vs.length = 4 := by obtain ⟨_, _, _, _, _, _, _, _, _, rfl, _⟩ := h; rfl
theorem deed_ref {mr : Sh → Option Sh} {S : Sh} {w : Nat} {y z : Ky} (h : (S.deed mr w y z).1 ≠ 0) : ((S.deed mr w y z).1 = 1 ∨ (S.deed mr w y z).1 = 2) ∧ (S.deed mr w y z).2.1 = .non ∧ (S.deed mr w y z).2.2 = S := by
  match w with
  | 0 =>
    unfold Sh.deed at h ⊢
    cases e : S.put mr y z with
    | none => exact ⟨.inl rfl, rfl, rfl⟩
    | some p => rw [e] at h; exact absurd rfl h
  | 1 =>
    unfold Sh.deed at h ⊢
    cases e : S.find y with
    | none => exact ⟨.inr rfl, rfl, rfl⟩
    | some p => rw [e] at h; exact absurd rfl h
  | 2 =>
    unfold Sh.deed at h ⊢
    cases e : S.last with
    | none => exact ⟨.inr rfl, rfl, rfl⟩
    | some p => rw [e] at h; exact absurd rfl h
  | 3 =>
    unfold Sh.deed at h ⊢
    cases e : S.heldAt y with
    | none => exact ⟨.inr rfl, rfl, rfl⟩
    | some p => rw [e] at h; exact absurd rfl h
  | 4 =>
    unfold Sh.deed at h ⊢
    cases e : S.heldAt y with
    | none => rw [e] at h; exact absurd rfl h
    | some p => rw [e] at h; exact absurd rfl h
  | 5 => exact absurd rfl h
  | 6 => exact absurd rfl h
  | n + 7 => exact absurd rfl h
theorem bl_at {H : Hp} (b : Bool) : KyAt H (.bl b) (.bl b) := .bl b
/-- the place of a key among pairs -/
def spSpot (K : PySem.W.Frag) : Sp := fun vs H Q _ => ∃ l v ws lv y, vs = [.ref l, v] ∧ SqL K H l ws ∧ KysAt H ws ((lv : List (Ky × Ky)).map pairT) ∧ KyAt H v y ∧ KeyOk y ∧ (∀ p ∈ lv, KeyOk p.1) ∧ lv.length ≤ 5000 ∧
  ((∀ p ∈ lv, p.1 ≠ y) → Q .non H) ∧ ∀ A B z, lv = A ++ (y, z) :: B → (∀ p ∈ A, p.1 ≠ y) → Q (.int (A.length : Nat)) H
theorem len_spot {K : PySem.W.Frag} {vs H Q E} (h : spSpot K vs H Q E) : vs.length = 2 := by obtain ⟨_, _, _, _, _, rfl, _⟩ := h; rfl
theorem spot_use {K : PySem.W.Frag} {H : Hp} {Q : VK} {E : XK} {l : Addr} {v : V} {ws : List V} {S : Sh} {y : Ky} (hl : H l = some (.lst ws)) (hw : KysAt H ws (S.lv.map pairT)) (o : S.Ok) (hy : KyAt H v y) (yk : KeyOk y)
    (k1 : S.find y = none → Q .non H) (k2 : ∀ q A B z, S.find y = some q → S.lv = A ++ (y, z) :: B → S.held[q]? = some z → (∀ u, (S.hold q u).lv = A ++ (y, u) :: B) → (S.went q y).lv = A ++ B → Q (.int (A.length : Nat)) H) : spSpot K [.ref l, v] H Q E := by
  have kk : ∀ p ∈ S.lv, KeyOk p.1 := fun p m => ((o.cw.rok _ (lvP_key m).1).resolve_left (lvP_key m).2.2)
  have ln : S.lv.length ≤ 5000 := by
    have h1 : S.lv.length ≤ (S.row.zip S.held).length := List.length_filter_le _ _
    rw [List.length_zip] at h1
    have := o.cw.lt
    omega
  refine ⟨l, v, ws, S.lv, y, rfl, SqL.of hl, hw, hy, yk, kk, ln, fun h => ?_, fun A B z e h => ?_⟩
  · refine k1 ((o.find_none yk.ne_non).mpr fun m => ?_)
    obtain ⟨q, hq⟩ := List.mem_iff_getElem?.mp m
    obtain ⟨A, B, z, e, -⟩ := o.split hq yk.ne_non
    exact h (y, z) (by rw [e]; simp) rfl
  · cases ef : S.find y with
    | none => exact absurd rfl (lv_not ((o.find_none yk.ne_non).mp ef) (y, z) (by rw [e]; simp))
    | some q =>
      obtain ⟨A', B', z', e', h1, h2, h3, h4, h5, -⟩ := o.split ((o.find_some yk.ne_non).mp ef) yk.ne_non
      have key : ∀ (A A' B B' : List (Ky × Ky)) (z z' : Ky), A ++ (y, z) :: B = A' ++ (y, z') :: B' → (∀ p ∈ A, p.1 ≠ y) → (∀ p ∈ A', p.1 ≠ y) → A = A' ∧ z = z' ∧ B = B' := by
        intro A
        induction A with
        | nil =>
          intro A' B B' z z' e h h'
          cases A' with
          | nil => simp at e; exact ⟨rfl, e.1, e.2⟩
          | cons a A' =>
            simp at e
            exact absurd (by rw [← e.1]) (h' a List.mem_cons_self)
        | cons a A ih =>
          intro A' B B' z z' e h h'
          cases A' with
          | nil =>
            simp at e
            exact absurd (by rw [e.1]) (h a List.mem_cons_self)
          | cons a' A' =>
            simp at e
            obtain ⟨i1, i2, i3⟩ := ih A' B B' z z' e.2 (fun p m => h p (List.mem_cons_of_mem _ m)) (fun p m => h' p (List.mem_cons_of_mem _ m))
            exact ⟨by rw [e.1, i1], i2, i3⟩
      obtain ⟨rfl, rfl, rfl⟩ := key A A' B B' z z' (by rw [← e, e']) h h4
      exact k2 q A B z ef e' h1 h2 h3
theorem pairT_vals {S : Sh} (o : S.Ok) : Ky.vals (S.lv.map pairT) = true := by
  rw [← pairs_lv o]
  exact pairsN_vals o _
theorem deed_ok {S : Sh} (o : S.Ok) {w : Nat} {y z : Ky} (yk : KeyOk y) (hz : HVal z) : (S.deed (fun _ => none) w y z).2.2.Ok := by
  match w with
  | 0 =>
    unfold Sh.deed Sh.put
    cases e : S.find y with
    | some q => exact o.hold hz
    | none =>
      dsimp only
      by_cases c : S.full = true
      · rw [if_pos c]; exact o
      · rw [if_neg c]
        exact o.come yk ((o.find_none yk.ne_non).mp e) (by simpa using c) hz
  | 1 =>
    unfold Sh.deed
    cases e : S.find y with
    | none => exact o
    | some q => exact o.went ((o.find_some yk.ne_non).mp e) yk.ne_non
  | 2 =>
    unfold Sh.deed
    cases e : S.last with
    | none => exact o
    | some q =>
      obtain ⟨y2, e1, e2, e3⟩ := liv_key o (ahead_liv e).2
      dsimp only
      rw [e3]
      exact o.went e1 e2.ne_non
  | 3 => unfold Sh.deed; cases S.heldAt y <;> exact o
  | 4 => unfold Sh.deed; cases S.heldAt y <;> exact o
  | 5 => exact o
  | 6 => exact o
  | n + 7 => exact o.emptied
end My
namespace My
open PySem PySem.Spec PyProof.Rows L2
/-! values (none within tuples, too) held against each other -/
theorem vals_cons {k : Ky} {ks : List Ky} (h : Ky.vals (k :: ks) = true) : k.val = true ∧ Ky.vals ks = true := by simpa [Ky.vals] using h
mutual
theorem Ky.eqvV : ∀ x y : Ky, x.val = true → y.val = true → PyData.eqv x.toD y.toD = Ky.beq x y
  | .num i, y, _, h => by
    cases y <;> first | (simp [Ky.val] at h; done) | (simp [Ky.toD, PyData.eqv, Ky.beq]; done) | (simp only [Ky.toD, PyData.eqv, Ky.beq]; exact Bool.beq_eq_decide_eq _ _)
  | .txt i, y, _, h => by
    cases y <;> first | (simp [Ky.val] at h; done) | (simp [Ky.toD, PyData.eqv, Ky.beq]; done) | (simp only [Ky.toD, PyData.eqv, Ky.beq]; exact Bool.beq_eq_decide_eq _ _)
  | .non, y, _, h => by
    cases y <;> first | (simp [Ky.val] at h; done) | (simp [Ky.toD, PyData.eqv, Ky.beq]; done)
  | .tup xs, .tup ys, h, g => by
    simp only [Ky.toD, PyData.eqv, Ky.beq]
    exact Ky.eqvsV xs ys (tup_val h).2 (tup_val g).2
  | .tup xs, .num _, _, _ => by simp [Ky.toD, PyData.eqv, Ky.beq]
  | .tup xs, .txt _, _, _ => by simp [Ky.toD, PyData.eqv, Ky.beq]
  | .tup xs, .non, _, _ => by simp [Ky.toD, PyData.eqv, Ky.beq]
  | .tup xs, .bl _, _, h => by simp [Ky.val] at h
  | .tup xs, .lst _, _, h => by simp [Ky.val] at h
  | .tup xs, .dct, _, h => by simp [Ky.val] at h
  | .bl _, _, h, _ => by simp [Ky.val] at h
  | .lst _, _, h, _ => by simp [Ky.val] at h
  | .dct, _, h, _ => by simp [Ky.val] at h
theorem Ky.eqvsV : ∀ xs ys : List Ky, Ky.vals xs = true → Ky.vals ys = true → PyData.eqvAll (Ky.toDs xs) (Ky.toDs ys) = Ky.beqs xs ys
  | [], [], _, _ => by simp [Ky.toDs, PyData.eqvAll, Ky.beqs]
  | x :: xs, y :: ys, h, g => by
    simp only [Ky.toDs, PyData.eqvAll, Ky.beqs]
    rw [Ky.eqvV x y (vals_cons h).1 (vals_cons g).1, Ky.eqvsV xs ys (vals_cons h).2 (vals_cons g).2]
  | [], _ :: _, _, _ => by simp [Ky.toDs, PyData.eqvAll, Ky.beqs]
  | _ :: _, [], _, _ => by simp [Ky.toDs, PyData.eqvAll, Ky.beqs]
end
mutual
theorem Ky.canLayV : ∀ k : Ky, k.val = true → k.toD.canLay0 = true
  | .num _, _ => by simp [Ky.toD, PyData.canLay0]
  | .txt x, h => by
    have h' : PyData.strOk x = true := by simpa [Ky.val] using h
    simpa [Ky.toD, PyData.canLay0] using h'
  | .non, _ => by simp [Ky.toD, PyData.canLay0]
  | .tup ks, h => by
    simp only [Ky.toD, PyData.canLay0]
    exact Ky.canLaysV ks (tup_val h).2
  | .bl _, h => by simp [Ky.val] at h
  | .lst _, h => by simp [Ky.val] at h
  | .dct, h => by simp [Ky.val] at h
theorem Ky.canLaysV : ∀ ks : List Ky, Ky.vals ks = true → PyData.canLayAll0 (Ky.toDs ks) = true
  | [], _ => by simp [Ky.toDs, PyData.canLayAll0]
  | k :: ks, h => by
    simp only [Ky.toDs, PyData.canLayAll0, Ky.canLayV k (vals_cons h).1, Ky.canLaysV ks (vals_cons h).2, Bool.and_self]
end
theorem Ky.shapedV {k : Ky} (h : k.val = true) (d : k.dep ≤ 60) : SeqAt.shaped k.toD = true := by
  unfold SeqAt.shaped
  rw [Ky.canLayV k h, Ky.depth_toD, decide_eq_true (by omega)]
  rfl
def Ky.vrow (ks : List Ky) : Prop := ∀ k ∈ ks, k.val = true ∧ k.dep ≤ 60
theorem vrow_vals {ks : List Ky} (h : Ky.vrow ks) : Ky.vals ks = true := vals_iff.mpr fun k hk => (h k hk).1
theorem vrow_deps {ks : List Ky} (h : Ky.vrow ks) : Ky.deps ks ≤ 60 := deps_of fun k hk => (h k hk).2
theorem vrow_nil : Ky.vrow [] := fun _ h => by cases h
theorem Ky.shapedVL {ks : List Ky} (h : Ky.vrow ks) : SeqAt.shaped (.list (Ky.toDs ks)) = true := by
  unfold SeqAt.shaped
  have := vrow_deps h
  rw [PyData.canLay0, Ky.canLaysV ks (vrow_vals h), PyData.depth, Ky.depths_toD, decide_eq_true (by omega)]
  rfl
section
variable {H : Hp} {K : PySem.W.Frag}
mutual
theorem KyAt.dpV : ∀ (k : Ky) (v : V), k.val = true → KyAt H v k → Dp K H v k.toD
  | .num i, _, _, h => by cases h; rw [Ky.toD]; exact .int i
  | .txt x, _, _, h => by cases h; rw [Ky.toD]; exact .str x
  | .non, _, _, h => by
    cases h
    have e : Ky.toD .non = .none := by simp [Ky.toD]
    rw [e]
    exact .non
  | .tup ks, _, g, h => by
    cases h with
    | tup h p => rw [Ky.toD]; exact .tup (SqT.of h) (KysAt.dpV ks _ (tup_val g).2 p)
  | .bl _, _, g, _ => by simp [Ky.val] at g
  | .lst _, _, g, _ => by simp [Ky.val] at g
  | .dct, _, g, _ => by simp [Ky.val] at g
theorem KysAt.dpV : ∀ (ks : List Ky) (vs : List V), Ky.vals ks = true → KysAt H vs ks → DpAll K H vs (Ky.toDs ks)
  | [], _, _, h => by cases h; rw [Ky.toDs]; exact .nil
  | k :: ks, _, g, h => by
    cases h with
    | cons h t => rw [Ky.toDs]; exact .cons (KyAt.dpV k _ (vals_cons g).1 h) (KysAt.dpV ks _ (vals_cons g).2 t)
end
theorem eq_val {v w : V} {k l : Ky} {Q : VK} (hv : KyAt H v k) (hw : KyAt H w l) (gk : k.val = true) (gl : l.val = true) (dk : k.dep ≤ 60) (dl : l.dep ≤ 60) (q : Q (.bl (decide (k = l))) H) : rEqD K v w H Q := by
  refine ⟨k.toD, l.toD, KyAt.dpV k v gk hv, KyAt.dpV l w gl hw, Ky.shapedV gk dk, Ky.shapedV gl dl, ?_⟩
  rw [Ky.eqvV _ _ gk gl, Ky.beq_dec]
  exact q
theorem ne_val {v w : V} {k l : Ky} {Q : VK} (hv : KyAt H v k) (hw : KyAt H w l) (gk : k.val = true) (gl : l.val = true) (dk : k.dep ≤ 60) (dl : l.dep ≤ 60) (q : Q (.bl (!decide (k = l))) H) : rNeD K v w H Q := by
  refine ⟨k.toD, l.toD, KyAt.dpV k v gk hv, KyAt.dpV l w gl hw, Ky.shapedV gk dk, Ky.shapedV gl dl, ?_⟩
  rw [Ky.eqvV _ _ gk gl, Ky.beq_dec]
  exact q
theorem eq_vrows {a b : Addr} {vs ws : List V} {ks ls : List Ky} {Q : VK} (ha : SqL K H a vs) (hk : KysAt H vs ks) (hb : SqL K H b ws) (hl : KysAt H ws ls) (dk : Ky.vrow ks) (dl : Ky.vrow ls) (q : Q (.bl (decide (ks = ls))) H) : rEqD K (.ref a) (.ref b) H Q := by
  refine ⟨.list (Ky.toDs ks), .list (Ky.toDs ls), .lst ha (KysAt.dpV ks _ (vrow_vals dk) hk), .lst hb (KysAt.dpV ls _ (vrow_vals dl) hl), Ky.shapedVL dk, Ky.shapedVL dl, ?_⟩
  rw [PyData.eqv, Ky.eqvsV _ _ (vrow_vals dk) (vrow_vals dl), Ky.beqs_dec]
  exact q
theorem ne_vrows {a b : Addr} {vs ws : List V} {ks ls : List Ky} {Q : VK} (ha : SqL K H a vs) (hk : KysAt H vs ks) (hb : SqL K H b ws) (hl : KysAt H ws ls) (dk : Ky.vrow ks) (dl : Ky.vrow ls) (q : Q (.bl (!decide (ks = ls))) H) : rNeD K (.ref a) (.ref b) H Q := by
  refine ⟨.list (Ky.toDs ks), .list (Ky.toDs ls), .lst ha (KysAt.dpV ks _ (vrow_vals dk) hk), .lst hb (KysAt.dpV ls _ (vrow_vals dl) hl), Ky.shapedVL dk, Ky.shapedVL dl, ?_⟩
  rw [PyData.eqv, Ky.eqvsV _ _ (vrow_vals dk) (vrow_vals dl), Ky.beqs_dec]
  exact q
end
theorem pairT_dep {S : Sh} (o : S.Ok) : ∀ k ∈ S.lv.map pairT, k.val = true ∧ k.dep ≤ 9 := fun k hk => by
  refine ⟨vals_iff.mp (pairT_vals o) k hk, ?_⟩
  obtain ⟨p, hp, rfl⟩ := List.mem_map.mp hk
  obtain ⟨k1, k2, k3⟩ := lvP_key hp
  have a1 := ((o.cw.rok _ k1).resolve_left k3).d
  have a2 := (o.hv _ k2).2
  simp only [pairT, Ky.dep, Ky.deps]
  omega
theorem lv_vrow {S : Sh} (o : S.Ok) : Ky.vrow (S.lv.map pairT) := fun k hk => ⟨(pairT_dep o k hk).1, Nat.le_trans (pairT_dep o k hk).2 (by decide)⟩
theorem lv_le {S : Sh} (o : S.Ok) : S.lv.length ≤ 2730 := by
  have h1 : S.lv.length ≤ (S.row.zip S.held).length := List.length_filter_le _ _
  rw [List.length_zip] at h1
  have := o.cw.lt
  omega
end My
namespace My
open PySem PySem.Spec PyProof.Rows L2
/-! packing, sizes; a table's tidying -/
def keptK : List Ky → List Ky → List Ky × List Ky
  | k :: ks, u :: us => if k = .non then keptK ks us else (k :: (keptK ks us).1, u :: (keptK ks us).2)
  | _, _ => ([], [])
def spPacked (K : PySem.W.Frag) : Sp := fun vs H Q _ => ∃ (a b : Addr) (xs ys : List V) (ks us : List Ky), vs = [.ref a, .ref b] ∧ SqL K H a xs ∧ SqL K H b ys ∧ KysAt H xs ks ∧ KysAt H ys us ∧ (Ky.vals ks = true ∧ Ky.vals us = true) ∧ ks.length ≤ 5000 ∧ ks.length = us.length ∧
  ∀ (t c d : Addr) (ws zs : List V) (H' : Hp), Same H H' → c ≠ d → Fresh H c → Fresh H d → H' t = some (.tup [.ref c, .ref d]) → H' c = some (.lst ws) → H' d = some (.lst zs) → KysAt H' ws (keptK ks us).1 → KysAt H' zs (keptK ks us).2 → Q (.ref t) H'
theorem len_packed {K : PySem.W.Frag} {vs H Q E} (h : spPacked K vs H Q E) : vs.length = 2 := by obtain ⟨_, _, _, _, _, _, rfl, _⟩ := h; rfl
theorem keptK_mem : ∀ (ks us : List Ky) (z : Ky), (z ∈ (keptK ks us).1 → z ∈ ks) ∧ (z ∈ (keptK ks us).2 → z ∈ us)
  | [], _, z => by simp [keptK]
  | _ :: _, [], z => by simp [keptK]
  | k :: ks, u :: us, z => by
    have := keptK_mem ks us z
    rw [keptK]
    split
    · exact ⟨fun h => List.mem_cons_of_mem _ (this.1 h), fun h => List.mem_cons_of_mem _ (this.2 h)⟩
    · refine ⟨fun h => ?_, fun h => ?_⟩
      · rcases List.mem_cons.mp h with rfl | h
        · exact List.mem_cons_self
        · exact List.mem_cons_of_mem _ (this.1 h)
      · rcases List.mem_cons.mp h with rfl | h
        · exact List.mem_cons_self
        · exact List.mem_cons_of_mem _ (this.2 h)
theorem keptK_take {ks us : List Ky} : ∀ {i : Nat} {k u : Ky}, ks[i]? = some k → us[i]? = some u → keptK (ks.take (i + 1)) (us.take (i + 1)) = if k = .non then keptK (ks.take i) (us.take i) else ((keptK (ks.take i) (us.take i)).1 ++ [k], (keptK (ks.take i) (us.take i)).2 ++ [u]) := by
  induction ks generalizing us with
  | nil => intro i k u h; simp at h
  | cons x xs ih =>
    intro i k u h g
    cases us with
    | nil => simp at g
    | cons y ys =>
      cases i with
      | zero =>
        simp at h g
        subst h
        subst g
        simp [keptK]
      | succ i =>
        have := ih (us := ys) (i := i) (by simpa using h) (by simpa using g)
        simp only [List.take_succ_cons, keptK] at this ⊢
        rw [this]
        by_cases c : x = .non
        · simp [c]
        · by_cases c2 : k = .non
          · simp [c, c2]
          · simp [c, c2]
def spSizeFor : Sp := fun vs H Q _ => ∃ n : Int, vs = [.int n] ∧ (0 ≤ n ∧ n ≤ 1365) ∧ ∀ j : Nat, (3 ≤ j ∧ j ≤ 12) → 3 * n ≤ 2 ^ j → (j = 3 ∨ 2 ^ (j - 1) < 3 * n) → Q (.int (2 ^ j)) H
theorem len_sizefor {vs H Q E} (h : spSizeFor vs H Q E) : vs.length = 1 := by obtain ⟨_, rfl, _⟩ := h; rfl
end My
namespace My
open PySem PySem.Spec PyProof.Rows L2
theorem keptK_lv : ∀ (ks us : List Ky), keptK ks us = ((lvP ks us).map Prod.fst, (lvP ks us).map Prod.snd)
  | [], us => by simp [keptK, lvP]
  | _ :: _, [] => by simp [keptK, lvP]
  | k :: ks, u :: us => by
    rw [keptK, keptK_lv ks us]
    unfold lvP
    rw [List.zip_cons_cons, List.filter_cons]
    by_cases c : k = .non <;> simp [c]
def keptI (row : List Ky) (born : List Int) : List Int := ((row.zip born).filter fun p => decide (p.1 ≠ .non)).map Prod.snd
theorem keptI_nums (row : List Ky) (born : List Int) : (keptK row (born.map Ky.num)).2 = (keptI row born).map Ky.num := by
  rw [keptK_lv]
  unfold keptI lvP
  show ((row.zip (born.map Ky.num)).filter fun p => decide (p.1 ≠ .non)).map Prod.snd = (((row.zip born).filter fun p => decide (p.1 ≠ .non)).map Prod.snd).map Ky.num
  rw [List.zip_map_right, List.filter_map, List.map_map, List.map_map]
  rfl
theorem keptI_sub (row : List Ky) (born : List Int) (e : born.length = row.length) : (keptI row born).Sublist born := by
  unfold keptI
  have h := (List.filter_sublist (p := fun p : Ky × Int => decide (p.1 ≠ .non)) (l := row.zip born)).map Prod.snd
  have e2 : (row.zip born).map Prod.snd = born := List.map_snd_zip (by omega)
  rw [e2] at h
  exact h
theorem keptI_len : ∀ (row held : List Ky) (born : List Int), held.length = row.length → born.length = row.length → (keptI row born).length = (lvP row held).length
  | [], held, born, h1, h2 => by
    have : born = [] := List.length_eq_zero_iff.mp (by simpa using h2)
    subst this
    simp [keptI, lvP]
  | k :: row, z :: held, n :: born, h1, h2 => by
    have ih := keptI_len row held born (by simpa using h1) (by simpa using h2)
    unfold keptI lvP at ih ⊢
    rw [List.zip_cons_cons, List.zip_cons_cons, List.filter_cons, List.filter_cons]
    dsimp only
    split
    · rw [List.map_cons, List.length_cons, List.length_cons, ih]
    · exact ih
  | _ :: _, [], _, h1, _ => by simp at h1
  | _ :: _, _ :: _, [], _, h2 => by simp at h2
theorem kept1_eq (row : List Ky) (held : List Ky) (born : List Int) (e1 : held.length = row.length) (e2 : born.length = row.length) : (keptK row (born.map Ky.num)).1 = (keptK row held).1 := by
  rw [keptK_lv, keptK_lv]
  dsimp only
  revert held born
  induction row with
  | nil => intro held born _ _; simp [lvP]
  | cons k row ih =>
    intro held born e1 e2
    cases held with
    | nil => simp at e1
    | cons z held =>
      cases born with
      | nil => simp at e2
      | cons n born =>
        have := ih held born (by simpa using e1) (by simpa using e2)
        unfold lvP at this ⊢
        rw [List.map_cons, List.zip_cons_cons, List.zip_cons_cons, List.filter_cons, List.filter_cons]
        dsimp only
        split
        · rw [List.map_cons, List.map_cons, this]
        · exact this
def szJ (n : Nat) : Nat := if n ≤ 2 then 3 else if n ≤ 5 then 4 else if n ≤ 10 then 5 else if n ≤ 21 then 6 else if n ≤ 42 then 7 else if n ≤ 85 then 8 else if n ≤ 170 then 9 else if n ≤ 341 then 10 else if n ≤ 682 then 11 else 12
theorem szJ_at {n j : Nat} (h : 3 ≤ j ∧ j ≤ 12) (e : 3 * (n : Int) ≤ 2 ^ j) (l : j = 3 ∨ (2 : Int) ^ (j - 1) < 3 * n) : j = szJ n := by
  have c : j = 3 ∨ j = 4 ∨ j = 5 ∨ j = 6 ∨ j = 7 ∨ j = 8 ∨ j = 9 ∨ j = 10 ∨ j = 11 ∨ j = 12 := by omega
  unfold szJ
  rcases c with rfl | rfl | rfl | rfl | rfl | rfl | rfl | rfl | rfl | rfl <;> simp only [Int.reducePow, Nat.reduceSub] at e l
  · rw [if_pos (by omega)]
  · rw [if_neg (by omega), if_pos (by omega)]
  · rw [if_neg (by omega), if_neg (by omega), if_pos (by omega)]
  · rw [if_neg (by omega), if_neg (by omega), if_neg (by omega), if_pos (by omega)]
  · rw [if_neg (by omega), if_neg (by omega), if_neg (by omega), if_neg (by omega), if_pos (by omega)]
  · rw [if_neg (by omega), if_neg (by omega), if_neg (by omega), if_neg (by omega), if_neg (by omega), if_pos (by omega)]
  · rw [if_neg (by omega), if_neg (by omega), if_neg (by omega), if_neg (by omega), if_neg (by omega), if_neg (by omega), if_pos (by omega)]
  · rw [if_neg (by omega), if_neg (by omega), if_neg (by omega), if_neg (by omega), if_neg (by omega), if_neg (by omega), if_neg (by omega), if_pos (by omega)]
  · rw [if_neg (by omega), if_neg (by omega), if_neg (by omega), if_neg (by omega), if_neg (by omega), if_neg (by omega), if_neg (by omega), if_neg (by omega), if_pos (by omega)]
  · rw [if_neg (by omega), if_neg (by omega), if_neg (by omega), if_neg (by omega), if_neg (by omega), if_neg (by omega), if_neg (by omega), if_neg (by omega), if_neg (by omega)]
theorem szJ_range (n : Nat) : 3 ≤ szJ n ∧ szJ n ≤ 12 := by
  unfold szJ
  (repeat' split) <;> omega
theorem szJ_le {n : Nat} (h : n ≤ 1365) : 3 * (n : Int) ≤ 2 ^ szJ n := by
  unfold szJ
  (repeat' split) <;> simp only [Int.reducePow] <;> omega
theorem szJ_room {n : Nat} (h : n ≤ 1365) : (n : Int) < 2 * 2 ^ szJ n / 3 := by
  have h1 := szJ_le h
  have h2 := (pow_le (szJ_range n).1).2
  simp only [Int.reducePow] at h2
  omega
def Sh.tidy (S : Sh) : Sh := { row := S.lv.map Prod.fst, held := S.lv.map Prod.snd, born := keptI S.row S.born, cells := layN (szJ S.lv.length) (S.lv.map Prod.fst) S.lv.length, j := szJ S.lv.length, jl := S.jl, com := S.com, goi := S.goi, tid := S.tid + 1, mov := S.mov + (S.lv.length : Nat) }
theorem lvP_nodup : ∀ (row held : List Ky), (∀ (p q : Nat) k, row[p]? = some k → row[q]? = some k → k ≠ .non → p = q) → ((lvP row held).map Prod.fst).Nodup
  | [], _, _ => by simp [lvP]
  | _ :: _, [], _ => by simp [lvP]
  | k :: row, z :: held, nd => by
    have ih := lvP_nodup row held fun p q k h1 h2 n => by
      have := nd (p + 1) (q + 1) k (by simpa using h1) (by simpa using h2) n
      omega
    unfold lvP at ih ⊢
    rw [List.zip_cons_cons, List.filter_cons]
    dsimp only
    split
    · rename_i c
      rw [List.map_cons, List.nodup_cons]
      refine ⟨fun m => ?_, ih⟩
      obtain ⟨p, hp, e⟩ := List.mem_map.mp m
      have m2 : p.1 ∈ row := (lvP_key (r := row) (h := held) hp).1
      dsimp only at e
      rw [e] at m2
      obtain ⟨i, hi⟩ := List.mem_iff_getElem?.mp m2
      have := nd 0 (i + 1) k rfl (by simpa using hi) (of_decide_eq_true c)
      omega
    · exact ih
theorem nodup_at : ∀ {l : List Ky}, l.Nodup → ∀ (p q : Nat) k, l[p]? = some k → l[q]? = some k → p = q
  | [], _, p, q, k, h1, _ => by simp at h1
  | x :: l, h, 0, 0, k, _, _ => rfl
  | x :: l, h, 0, q + 1, k, h1, h2 => by
    simp at h1 h2
    exact absurd (List.mem_of_getElem? h2) (h1 ▸ (List.nodup_cons.mp h).1)
  | x :: l, h, p + 1, 0, k, h1, h2 => by
    simp at h1 h2
    exact absurd (List.mem_of_getElem? h1) (h2 ▸ (List.nodup_cons.mp h).1)
  | x :: l, h, p + 1, q + 1, k, h1, h2 => by
    rw [nodup_at (List.nodup_cons.mp h).2 p q k (by simpa using h1) (by simpa using h2)]
theorem Sh.Ok.tidy {S : Sh} (o : S.Ok) (h : S.lv.length ≤ 1365) : S.tidy.Ok := by
  have hl := o.hl
  have hb := o.bl
  have nn : ∀ k ∈ S.lv.map Prod.fst, k ≠ .non := fun k m => by
    obtain ⟨p, hp, rfl⟩ := List.mem_map.mp m
    exact (lvP_key hp).2.2
  have sub := keptI_sub S.row S.born hb
  refine ⟨?_, ?_, ?_, fun z m => ?_, o.l3, o.l12, ?_, fun n m => ?_, o.c0, ?_⟩
  · show CWf (S.lv.map Prod.fst) (szJ S.lv.length) (layN (szJ S.lv.length) (S.lv.map Prod.fst) S.lv.length)
    have e : S.lv.length = (S.lv.map Prod.fst).length := by rw [List.length_map]
    have c := cwf_laid (ks := S.lv.map Prod.fst) (j := szJ S.lv.length) (szJ_range _).1 (szJ_range _).2 (by rw [List.length_map]; have := szJ_room h; omega) (fun k m => by
      obtain ⟨p, hp, rfl⟩ := List.mem_map.mp m
      exact o.cw.rok _ (lvP_key hp).1) fun p q k h1 h2 _ => nodup_at (lvP_nodup _ _ o.cw.nd) p q k h1 h2
    rw [List.length_map] at c
    exact c
  · show (S.lv.map Prod.snd).length = (S.lv.map Prod.fst).length
    rw [List.length_map, List.length_map]
  · show (keptI S.row S.born).length = (S.lv.map Prod.fst).length
    rw [List.length_map, keptI_len _ _ _ hl hb]
    rfl
  · obtain ⟨p, hp, rfl⟩ := List.mem_map.mp m
    exact o.hv _ (lvP_key hp).2.1
  · exact o.bi.sublist sub
  · exact o.bc n (sub.subset m)
  · show S.com - S.goi = (((S.lv.map Prod.fst).filter fun k => decide (k ≠ .non)).length : Nat)
    rw [List.filter_eq_self.mpr fun k m => decide_eq_true (nn k m), List.length_map, lv_len o]
theorem tidy_lv {S : Sh} : S.tidy.lv = S.lv := by
  show lvP (S.lv.map Prod.fst) (S.lv.map Prod.snd) = S.lv
  unfold lvP
  rw [List.zip_map', List.filter_map]
  have : (S.lv.filter ((fun p : Ky × Ky => decide (p.1 ≠ .non)) ∘ fun x => (x.1, x.2))) = S.lv := List.filter_eq_self.mpr fun p m => decide_eq_true (lvP_key m).2.2
  rw [this]
  simp
theorem tidy_room {S : Sh} (h : S.lv.length ≤ 1365) : S.tidy.full = false := decide_eq_false (by
  show ¬ 2 * 2 ^ szJ S.lv.length / 3 ≤ (((S.lv.map Prod.fst).length : Nat) : Int)
  rw [List.length_map]
  have := szJ_room h
  omega)
theorem tidy_not {S : Sh} {y : Ky} (e : y ∉ S.row) : y ∉ S.tidy.row := fun m => by
  obtain ⟨p, hp, q⟩ := List.mem_map.mp m
  exact lv_not e p hp q
/-- a table's put -/
def Sh.putT (S : Sh) (y z : Ky) : Bool × Sh := match S.find y with
  | some q => (false, S.hold q z)
  | none => if S.full = true then (true, S.tidy.come y z) else (true, S.come y z)
def spRoomT (C : Addr) : Sp := fun vs H Q _ => ∃ a p fp S, vs = [.ref a] ∧ ShAt H C a p fp S ∧ S.lv.length ≤ 1365 ∧ ∀ H' fp', Gr fp H H' → Sub fp' fp H → ShAt H' C a p fp' S.tidy → Q .non H'
theorem len_roomT {C : Addr} {vs H Q E} (h : spRoomT C vs H Q E) : vs.length = 1 := by obtain ⟨_, _, _, _, rfl, _⟩ := h; rfl
def spPutT (C CN : Addr) : Sp := fun vs H Q E => ∃ a p fp S v y u z, vs = [.ref a, v, u] ∧ ShAt H C a p fp S ∧ KyAt H v y ∧ y.fit = true ∧ (within 3 y = true → KeyOk y) ∧ KyAt H u z ∧ HVal z ∧ S.lv.length ≤ 1365 ∧
  (within 3 y = false → E (.ref CN) none H) ∧ (KeyOk y → ∀ H' fp', Gr fp H H' → Sub fp' fp H → ShAt H' C a p fp' (S.putT y z).2 → Q (.bl (S.putT y z).1) H')
theorem len_putT {C CN : Addr} {vs H Q E} (h : spPutT C CN vs H Q E) : vs.length = 3 := by obtain ⟨_, _, _, _, _, _, _, _, rfl, _⟩ := h; rfl
theorem Sh.Ok.putT {S : Sh} (o : S.Ok) {y z : Ky} (yk : KeyOk y) (hz : HVal z) (h : S.lv.length ≤ 1365) : (S.putT y z).2.Ok := by
  unfold Sh.putT
  cases e : S.find y with
  | some q => exact o.hold hz
  | none =>
    have nin := (o.find_none yk.ne_non).mp e
    dsimp only
    by_cases c : S.full = true
    · rw [if_pos c]
      exact (o.tidy h).come yk (tidy_not nin) (tidy_room h) hz
    · rw [if_neg c]
      exact o.come yk nin (by simpa using c) hz
/-- __init__ of a shelf's own part, whatever its class -/
def spInitG (K : PySem.W.Frag) : Sp := fun vs H Q _ => ∃ C a dx j, ShC K C ∧ vs = [.ref a, .int (2 ^ j)] ∧ H a = some (.ins C dx []) ∧ (3 ≤ j ∧ j ≤ 12) ∧ ∀ H' fp, Gr [a] H H' → Sub fp [a] H → ShAt H' C a .no fp (Sh.new j) → Q .non H'
theorem len_initG {K : PySem.W.Frag} {vs H Q E} (h : spInitG K vs H Q E) : vs.length = 2 := by obtain ⟨_, _, _, _, _, rfl, _⟩ := h; rfl
def spInitT (C : Addr) : Sp := fun vs H Q _ => ∃ a dx, vs = [.ref a] ∧ H a = some (.ins C dx []) ∧ ∀ H' fp, Gr [a] H H' → Sub fp [a] H → ShAt H' C a .no fp (Sh.new 3) → Q .non H'
theorem len_initT {C : Addr} {vs H Q E} (h : spInitT C vs H Q E) : vs.length = 1 := by obtain ⟨_, _, rfl, _⟩ := h; rfl
end My
namespace My
open PySem PySem.Spec PyProof.Rows L2
/-! what stands in a law's own list -/
inductive Pay where
  | ks (l : List Ky)
  | vs (l : List V)
  | any
def Pay.at (H : Hp) (ws : List V) : Pay → Prop
  | .ks l => Ky.vals l = true ∧ KysAt H ws l
  | .vs l => ws = l
  | .any => True
theorem Pay.same {H H' : Hp} {ws : List V} (s : Same H H') : ∀ {p : Pay}, p.at H ws → p.at H' ws
  | .ks l, h => ⟨h.1, h.2.same s _ _⟩
  | .vs l, h => h
  | .any, h => h
theorem Pay.keep {H H' : Hp} {ws : List V} {fp : List Addr} (b : But fp H H') (n : NoTup H fp) : ∀ {p : Pay}, p.at H ws → p.at H' ws
  | .ks l, h => ⟨h.1, KysAt.keep b n _ _ h.1 h.2⟩
  | .vs l, h => h
  | .any, h => h
end My
namespace My
open PySem PySem.Spec PyProof.Rows L2
/-! what a law owns: things that stand apart, made since a base that stays -/
abbrev Thing := Hp → List Addr → Prop
structure Good (t : Thing) : Prop where
  ext : ∀ {H H' : Hp} {fp : List Addr}, t H fp → Same H H' → t H' fp
  apart : ∀ {H H' : Hp} {fp fq : List Addr}, t H fp → Gr fq H H' → NoTup H fq → (∀ x ∈ fp, x ∉ fq) → t H' fp
  noTup : ∀ {H : Hp} {fp : List Addr}, t H fp → NoTup H fp
  alloc : ∀ {H : Hp} {fp : List Addr} {x : Addr}, t H fp → Fresh H x → x ∉ fp
structure GW (Hb H : Hp) (ts : List Thing) : Prop where
  sm : Same Hb H
  ex : ∃ fps : List (List Addr), fps.length = ts.length ∧ (∀ (i : Nat) (t : Thing) (fp : List Addr), ts[i]? = some t → fps[i]? = some fp → t H fp ∧ Good t ∧ ∀ x ∈ fp, Fresh Hb x) ∧ ∀ (i j : Nat) (fp fq : List Addr), i ≠ j → fps[i]? = some fp → fps[j]? = some fq → ∀ x ∈ fp, x ∉ fq
/-- data stays -/
def Keeps (H H' : Hp) : Prop := ∀ (v : V) (y : Ky), y.val = true → KyAt H v y → KyAt H' v y
section
variable {Hb H H' : Hp} {ts ts' : List Thing} {t : Thing} {a : Addr}
theorem Keeps.refl : Keeps H H := fun _ _ _ h => h
theorem Keeps.of (s : Same H H') : Keeps H H' := fun v y _ h => h.same s _ _
theorem Keeps.trans {H1 : Hp} (a : Keeps H H1) (b : Keeps H1 H') : Keeps H H' := fun v y d h => b v y d (a v y d h)
theorem Keeps.kys (k : Keeps H H') : ∀ {ks : List Ky} {vs : List V}, Ky.vals ks = true → KysAt H vs ks → KysAt H' vs ks
  | [], _, _, h => by cases h; exact .nil
  | y :: ks, _, g, h => by
    have g' : y.val = true ∧ Ky.vals ks = true := by simpa [Ky.vals] using g
    cases h with
    | cons h t => exact .cons (k _ _ g'.1 h) (Keeps.kys k g'.2 t)
theorem Keeps.gr {fp : List Addr} (gr : Gr fp H H') (n : NoTup H fp) : Keeps H H' := fun v y d h => KyAt.keep gr.keep n y v d h
theorem GW.start (s : Same Hb H) : GW Hb H [] := ⟨s, [], rfl, (fun i t fp e _ => by simp at e), fun i j fp fq _ e _ => by simp at e⟩
theorem GW.ext (g : GW Hb H ts) (s : Same H H') : GW Hb H' ts := by
  obtain ⟨fps, l, h1, h2⟩ := g.ex
  exact ⟨g.sm.trans s, fps, l, fun i t fp e f => let ⟨x, y, z⟩ := h1 i t fp e f; ⟨y.ext x s, y, z⟩, h2⟩
theorem GW.low {H0 : Hp} (g : GW Hb H ts) (s : Same H0 Hb) : GW H0 H ts := by
  obtain ⟨fps, l, h1, h2⟩ := g.ex
  exact ⟨s.trans g.sm, fps, l, fun i t fp e f => let ⟨x, y, z⟩ := h1 i t fp e f; ⟨x, y, fun q m => Same_fresh s (z q m)⟩, h2⟩
theorem GW.fp (g : GW Hb H ts) {i : Nat} (e : ts[i]? = some t) : ∃ (fps : List (List Addr)) (fp : List Addr), fps.length = ts.length ∧ fps[i]? = some fp ∧ t H fp ∧ Good t ∧ (∀ x ∈ fp, Fresh Hb x) ∧ (∀ (i : Nat) (t : Thing) (fp : List Addr), ts[i]? = some t → fps[i]? = some fp → t H fp ∧ Good t ∧ ∀ x ∈ fp, Fresh Hb x) ∧ ∀ (i j : Nat) (fp fq : List Addr), i ≠ j → fps[i]? = some fp → fps[j]? = some fq → ∀ x ∈ fp, x ∉ fq := by
  obtain ⟨fps, l, h1, h2⟩ := g.ex
  have hi := (List.getElem?_eq_some_iff.mp e).1
  have f : fps[i]? = some (fps[i]'(by omega)) := List.getElem?_eq_getElem (by omega)
  obtain ⟨x, y, z⟩ := h1 i t _ e f
  exact ⟨fps, _, l, f, x, y, z, h1, h2⟩
/-- a thing is changed -/
theorem GW.at (g : GW Hb H ts) {i : Nat} (e : ts[i]? = some t) : ∃ fp, t H fp ∧ ∀ H' fp' t', Gr fp H H' → Sub fp' fp H → t' H' fp' → Good t' → GW Hb H' (ts.set i t') ∧ Keeps H H' := by
  obtain ⟨fps, fp, l, f, x, y, z, h1, h2⟩ := g.fp e
  have hi := (List.getElem?_eq_some_iff.mp e).1
  refine ⟨fp, x, fun H' fp' t' gr sb x' y' => ⟨⟨gr.same g.sm z, fps.set i fp', by rw [List.length_set, List.length_set, l], fun j u fq ej fj => ?_, fun j k fq fr n fj fk q mq => ?_⟩, Keeps.gr gr (y.noTup x)⟩⟩
  · rw [List.getElem?_set] at ej fj
    by_cases c : i = j
    · rw [if_pos c, if_pos hi] at ej
      rw [if_pos c, if_pos (by omega)] at fj
      cases ej
      cases fj
      exact ⟨x', y', sb.fresh g.sm z⟩
    · rw [if_neg c] at fj ej
      obtain ⟨a1, a2, a3⟩ := h1 j u fq ej fj
      exact ⟨a2.apart a1 gr (y.noTup x) fun q m => h2 j i fq fp (Ne.symm c) fj f q m, a2, a3⟩
  · rw [List.getElem?_set] at fj fk
    split at fj <;> rename_i c1 <;> split at fk <;> rename_i c2
    · exact absurd (c1.symm.trans c2) n
    · rw [if_pos (by omega)] at fj
      cases fj
      intro m
      rcases sb q mq with m2 | m2
      · exact h2 i k fp fr c2 f fk q m2 m
      · have hk : k < ts.length := by rw [← l]; exact (List.getElem?_eq_some_iff.mp fk).1
        obtain ⟨a1, a2, -⟩ := h1 k _ fr (List.getElem?_eq_getElem hk) fk
        exact a2.alloc a1 m2 m
    · rw [if_pos (by omega)] at fk
      cases fk
      intro m
      rcases sb q m with m2 | m2
      · exact h2 i j fp fq c1 f fj q m2 mq
      · have hj : j < ts.length := by rw [← l]; exact (List.getElem?_eq_some_iff.mp fj).1
        obtain ⟨a1, a2, -⟩ := h1 j _ fq (List.getElem?_eq_getElem hj) fj
        exact a2.alloc a1 m2 mq
    · exact h2 j k fq fr n fj fk q mq
theorem GW.is (g : GW Hb H ts) {i : Nat} (e : ts[i]? = some t) : ∃ fp, t H fp := by
  obtain ⟨fp, h, -⟩ := g.at e
  exact ⟨fp, h⟩
/-- a thing more -/
theorem GW.new (g : GW Hb H ts) {fp : List Addr} (s : Same H H') (h : t H' fp) (f : ∀ x ∈ fp, Fresh H x) (gd : Good t) : GW Hb H' (ts ++ [t]) := by
  obtain ⟨fps, l, h1, h2⟩ := g.ex
  have far : ∀ (j : Nat) (fq : List Addr), fps[j]? = some fq → ∀ x ∈ fq, ¬ Fresh H x := fun j fq e x m fx => by
    have hj : j < ts.length := by rw [← l]; exact (List.getElem?_eq_some_iff.mp e).1
    obtain ⟨a1, a2, -⟩ := h1 j _ fq (List.getElem?_eq_getElem hj) e
    exact a2.alloc a1 fx m
  refine ⟨g.sm.trans s, fps ++ [fp], by rw [List.length_append, List.length_append, l]; rfl, fun j u fq ej fj => ?_, fun j k fq fr n fj fk q mq mr => ?_⟩
  · rcases snoc_at ej with e1 | ⟨e1, rfl⟩
    · obtain ⟨a1, a2, a3⟩ := h1 j u fq e1 (snoc_old fj (by rw [l]; exact (List.getElem?_eq_some_iff.mp e1).1))
      exact ⟨a2.ext a1 s, a2, a3⟩
    · rw [snoc_new fj (by omega)]
      exact ⟨h, gd, fun x m => Same_fresh g.sm (f x m)⟩
  · rcases snoc_at fj with e1 | ⟨e1, rfl⟩ <;> rcases snoc_at fk with e2 | ⟨e2, rfl⟩
    · exact h2 j k fq fr n e1 e2 q mq mr
    · exact far j fq e1 q mq (f q mr)
    · exact far k fr e2 q mr (f q mq)
    · omega
theorem GW.base (g : GW Hb H ts) {l : Addr} {o : HO} (fl : Fresh H l) : GW (upd Hb l o) (upd H l o) ts := by
  have s := Same_upd (o := o) (Same.refl H) fl
  obtain ⟨fps, ln, h1, h2⟩ := g.ex
  refine ⟨fun b u q => ?_, fps, ln, fun i t fp e f => ?_, h2⟩
  · by_cases c : b = l
    · rw [c, upd_same] at q
      rw [c, upd_same]
      exact q
    · rw [upd_ne c] at q
      rw [upd_ne c]
      exact g.sm _ _ q
  · obtain ⟨x, y, z⟩ := h1 i t fp e f
    refine ⟨y.ext x s, y, fun q m => ?_⟩
    have n : q ≠ l := fun e => y.alloc x fl (by rw [← e]; exact m)
    unfold Fresh
    rw [upd_ne n]
    exact z q m
/-- the last thing forgotten -/
theorem GW.pop (g : GW Hb H (ts ++ [t])) : GW Hb H ts := by
  obtain ⟨fps, l, h1, h2⟩ := g.ex
  rw [List.length_append, List.length_singleton] at l
  have tk : ∀ (i : Nat) (fp : List Addr), (fps.take ts.length)[i]? = some fp → i < ts.length ∧ fps[i]? = some fp := fun i fp e => by
    have hi := (List.getElem?_eq_some_iff.mp e).1
    rw [List.length_take] at hi
    rw [List.getElem?_take_of_lt (by omega)] at e
    exact ⟨by omega, e⟩
  refine ⟨g.sm, fps.take ts.length, by rw [List.length_take]; omega, fun i u fp e f => ?_, fun i j fp fq n e f => h2 i j fp fq n (tk i fp e).2 (tk j fq f).2⟩
  exact h1 i u fp (by rw [List.getElem?_append_left (tk i fp f).1]; exact e) (tk i fp f).2
end
/-! things -/
def shT (C a : Addr) (S : Sh) : Thing := fun H fp => ShAt H C a .no fp S
theorem shT_good {C a : Addr} {S : Sh} : Good (shT C a S) := ⟨fun h s => ShAt.ext h s, fun h f n d => ShAt.apart h f n d, fun h => ShAt.noTup h, fun h f => ShAt.alloc h f⟩
def lstT (a : Addr) (p : Pay) : Thing := fun H fp => fp = [a] ∧ ∃ ws, H a = some (.lst ws) ∧ p.at H ws
theorem lstT_good {a : Addr} {p : Pay} : Good (lstT a p) where
  ext := by
    rintro H H' fp ⟨rfl, ws, e, h⟩ s
    exact ⟨rfl, ws, s _ _ e, Pay.same s h⟩
  apart := by
    rintro H H' fp fq ⟨rfl, ws, e, h⟩ f n d
    exact ⟨rfl, ws, f.keep _ _ e (d a (by simp)), Pay.keep f.keep n h⟩
  noTup := by
    rintro H fp ⟨rfl, ws, e, h⟩
    exact noTup_one e fun _ z => by cases z
  alloc := by
    rintro H fp x ⟨rfl, ws, e, h⟩ f m
    rw [List.mem_singleton] at m
    rw [m] at f
    exact f.ne e rfl
theorem mixO_nt {w : World} {a : Addr} {ks : List Ky} {us vs : List V} : ∀ xs, mixO w a ks us vs ≠ .tup xs := fun _ z => by cases z
theorem MixAt.same {w : World} {H H' : Hp} {a : Addr} {ks : List Ky} {vs : List V} (m : MixAt w H a ks vs) (s : Same H H') : MixAt w H' a ks vs := by
  obtain ⟨us, e, h⟩ := m.ex
  exact ⟨⟨us, s _ _ e, h.same s _ _⟩, m.nd, m.key, m.len⟩
theorem MixAt.vals {w : World} {H : Hp} {a : Addr} {ks : List Ky} {vs : List V} (m : MixAt w H a ks vs) : Ky.vals ks = true := vals_iff.mpr fun k q => (m.key k q).1
def mixT (w : World) (a : Addr) (ks : List Ky) (p : Pay) : Thing := fun H fp => fp = [a] ∧ ∃ vs, MixAt w H a ks vs ∧ p.at H vs
theorem mixT_good {w : World} {a : Addr} {ks : List Ky} {p : Pay} : Good (mixT w a ks p) where
  ext := by
    rintro H H' fp ⟨rfl, vs, m, h⟩ s
    exact ⟨rfl, vs, m.same s, Pay.same s h⟩
  apart := by
    rintro H H' fp fq ⟨rfl, vs, m, h⟩ f n d
    obtain ⟨us, e, hu⟩ := m.ex
    exact ⟨rfl, vs, ⟨⟨us, f.keep _ _ e (d a (by simp)), KysAt.keep f.keep n _ _ m.vals hu⟩, m.nd, m.key, m.len⟩, Pay.keep f.keep n h⟩
  noTup := by
    rintro H fp ⟨rfl, vs, m, h⟩
    obtain ⟨us, e, hu⟩ := m.ex
    exact noTup_one e mixO_nt
  alloc := by
    rintro H fp x ⟨rfl, vs, m, h⟩ f q
    obtain ⟨us, e, hu⟩ := m.ex
    rw [List.mem_singleton] at q
    rw [q] at f
    exact f.ne e rfl
section
variable {Hb H H' : Hp} {ts ts' : List Thing} {t : Thing} {a C : Addr} {i : Nat} {p p' : Pay} {w : World} {ks ks' : List Ky} {S : Sh}
theorem gr_one {o : HO} : Gr [a] H (upd H a o) := Gr.refl.put (by simp)
theorem GW.lst (g : GW Hb H ts) (e : ts[i]? = some (lstT a p)) : ∃ ws, H a = some (.lst ws) ∧ p.at H ws := by
  obtain ⟨fp, -, h⟩ := g.is e
  exact h
theorem GW.lput (g : GW Hb H ts) (e : ts[i]? = some (lstT a p)) {ws : List V} (h : p'.at H ws) : GW Hb (upd H a (.lst ws)) (ts.set i (lstT a p')) ∧ Keeps H (upd H a (.lst ws)) := by
  obtain ⟨fp, ⟨rfl, us, e1, -⟩, st⟩ := g.at e
  exact st _ [a] _ gr_one Sub.refl ⟨rfl, ws, upd_same, Pay.keep gr_one.keep (noTup_one e1 fun _ z => by cases z) h⟩ lstT_good
theorem GW.mix (g : GW Hb H ts) (e : ts[i]? = some (mixT w a ks p)) : ∃ vs, MixAt w H a ks vs ∧ p.at H vs := by
  obtain ⟨fp, -, h⟩ := g.is e
  exact h
theorem GW.mput (g : GW Hb H ts) (e : ts[i]? = some (mixT w a ks p)) {o : HO} {vs : List V} (m : MixAt w (upd H a o) a ks' vs) (h : p'.at H vs) : GW Hb (upd H a o) (ts.set i (mixT w a ks' p')) ∧ Keeps H (upd H a o) := by
  obtain ⟨fp, ⟨rfl, us, m0, -⟩, st⟩ := g.at e
  obtain ⟨u0, e0, -⟩ := m0.ex
  exact st _ [a] _ gr_one Sub.refl ⟨rfl, vs, m, Pay.keep gr_one.keep (noTup_one e0 mixO_nt) h⟩ mixT_good
theorem GW.sh (g : GW Hb H ts) (e : ts[i]? = some (shT C a S)) : ∃ fp, ShAt H C a .no fp S ∧ ∀ H' fp' S', Gr fp H H' → Sub fp' fp H → ShAt H' C a .no fp' S' → GW Hb H' (ts.set i (shT C a S')) ∧ Keeps H H' := by
  obtain ⟨fp, h, st⟩ := g.at e
  exact ⟨fp, h, fun H' fp' S' gr sb h' => st H' fp' _ gr sb h' shT_good⟩
theorem GW.newL (g : GW Hb H ts) (f : Fresh H a) {ws : List V} (h : p.at H ws) : GW Hb (upd H a (.lst ws)) (ts ++ [lstT a p]) :=
  g.new (Same_upd (Same.refl H) f) ⟨rfl, ws, upd_same, Pay.same (Same_upd (Same.refl H) f) h⟩ (fun x m => by rw [List.mem_singleton] at m; rw [m]; exact f) lstT_good
theorem GW.newM (g : GW Hb H ts) (f : Fresh H a) {o : HO} (m : MixAt w (upd H a o) a [] []) (h : p.at H []) : GW Hb (upd H a o) (ts ++ [mixT w a [] p]) :=
  g.new (Same_upd (Same.refl H) f) ⟨rfl, [], m, Pay.same (Same_upd (Same.refl H) f) h⟩ (fun x q => by rw [List.mem_singleton] at q; rw [q]; exact f) mixT_good
theorem GW.newS (g : GW Hb H ts) {fp : List Addr} (s : Same H H') (h : ShAt H' C a .no fp S) (f : ∀ x ∈ fp, Fresh H x) : GW Hb H' (ts ++ [shT C a S]) := g.new s h f shT_good
end
section
variable {w : World} {H : Hp} {Q : VK} {v : V} {k : Ky} {d : Addr} {ks : List Ky} {vs : List V}
theorem in_mix (m : MixAt w H d ks vs) (h : KyAt H v k) (mk : MKey k) (q : Q (.bl (decide (k ∈ ks))) H) : rInM w v (.ref d) H Q := ⟨k, d, ks, vs, rfl, h, mk, m, q⟩
theorem notin_mix (m : MixAt w H d ks vs) (h : KyAt H v k) (mk : MKey k) (q : Q (.bl (!decide (k ∈ ks))) H) : rNotInM w v (.ref d) H Q := ⟨k, d, ks, vs, rfl, h, mk, m, q⟩
theorem rd_mm {r : V → List V → Hp → VK → Prop} {to : TE} {t : TA} {σ : L2.St} : tMM w r to t σ H Q = to σ H fun x H1 => IsMix w H1 x ∧ t σ H1 fun xs H2 => r x xs H2 Q := rfl
theorem rd_mm0 {r : V → List V → Hp → VK → Prop} {to : TE} {σ : L2.St} : tMM0 w r to σ H Q = to σ H fun x H1 => IsMix w H1 x ∧ r x [] H1 Q := rfl
theorem rd_dnewM {σ : L2.St} : tDNewM w σ H Q = ∀ p o, Fresh H p → MixAt w (upd H p o) p [] [] → Q (.ref p) (upd H p o) := rfl
end
section
variable {X : Cx}
theorem op_inMK (w : World) (e : X.w = w) (hu : X.A.units + 65 < cLine) : OpR X (compareOp .In) (rInM w) := e ▸ op_inM hu
theorem op_notInMK (w : World) (e : X.w = w) (hu : X.A.units + 65 < cLine) : OpR X (compareOp .NotIn) (rNotInM w) := e ▸ op_notInM hu
theorem ix_mixK (w : World) (e : X.w = w) (hu : X.A.units + 65 < cLine) : IxR X (rIxM w) := e ▸ ix_mix hu
theorem set_mixK (w : World) (e : X.w = w) (hu : X.A.units + 65 < cLine) : PSet X (rSetM w) := e ▸ set_mix hu
theorem call_lenMK (w : World) (e : X.w = w) : CallR X (.builtin "len") (rLenM w) := e ▸ call_lenM
theorem call_listMK (w : World) (e : X.w = w) (hc : X.calm = true) : CallR X (.type "list") (rListM w) := e ▸ call_listM hc
theorem pe_dnewMK (w : World) (e : X.w = w) {pos : Pos} : PE X (.Dict [] [] pos) (tDNewM w) := e ▸ pe_dnewM
variable {o e : Expr} {to : TE} {t : TA} {apos cpos : Pos}
theorem pe_popM (w : World) (ew : X.w = w) (hu : X.A.units + 65 < cLine) (ho : PE X o to) (ha : PA X [e] t)
    (hbase : attributeBase o "pop" X.env (eval o X.env) = eval o X.env := by rfl) (hline : (apos.endLine == cpos.line) = true := by rfl) (hs : starEach [e] X.env = [(false, eval e X.env)] := by rfl) :
    PE X (.Call (.Attribute o "pop" apos) [e] [] cpos) (tMM w (rPopM w) to t) := by
  subst ew
  exact pe_mm PySem.F.slot_dict_pop PySem.F.type_dict_pop (mt_popM hu) ho ha hbase hline hs
theorem pe_getM (w : World) (ew : X.w = w) (hu : X.A.units + 65 < cLine) (ho : PE X o to) (ha : PA X [e] t)
    (hbase : attributeBase o "get" X.env (eval o X.env) = eval o X.env := by rfl) (hline : (apos.endLine == cpos.line) = true := by rfl) (hs : starEach [e] X.env = [(false, eval e X.env)] := by rfl) :
    PE X (.Call (.Attribute o "get" apos) [e] [] cpos) (tMM w (rGetM w) to t) := by
  subst ew
  exact pe_mm PySem.F.slot_dict_get PySem.F.type_dict_get (mt_getM hu) ho ha hbase hline hs
theorem pe_clearM (w : World) (ew : X.w = w) (ho : PE X o to)
    (hbase : attributeBase o "clear" X.env (eval o X.env) = eval o X.env := by rfl) (hline : (apos.endLine == cpos.line) = true := by rfl) : PE X (.Call (.Attribute o "clear" apos) [] [] cpos) (tMM0 w (rClearM w) to) := by
  subst ew
  exact pe_mm0 PySem.F.slot_dict_clear PySem.F.type_dict_clear mt_clearM ho hbase hline
end
/-! an object of one of two classes -/
def tOr2 (t1 t2 : TE) : TE := fun σ H Q => t1 σ H Q ∨ t2 σ H Q
theorem pe_or {X : Cx} {e : Expr} {t1 t2 : TE} (h1 : PE X e t1) (h2 : PE X e t2) : PE X e (tOr2 t1 t2) := ⟨fun pins s σ H Q I h => h.elim (h1.run pins s σ H Q I) (h2.run pins s σ H Q I)⟩
theorem rd_or2 {t1 t2 : TE} {σ : L2.St} {H : Hp} {Q : VK} : tOr2 t1 t2 σ H Q = (t1 σ H Q ∨ t2 σ H Q) := rfl
theorem GW.lstv {Hb H : Hp} {ts : List Thing} {i : Nat} {a : Addr} {vs : List V} (g : GW Hb H ts) (e : ts[i]? = some (lstT a (.vs vs))) : H a = some (.lst vs) := by
  obtain ⟨us, h, eu⟩ := g.lst e
  cases (show us = _ from eu)
  exact h
theorem GW.lputv {Hb H : Hp} {ts : List Thing} {i : Nat} {a : Addr} {vs us : List V} (g : GW Hb H ts) (e : ts[i]? = some (lstT a (.vs vs))) : GW Hb (upd H a (.lst us)) (ts.set i (lstT a (.vs us))) ∧ Keeps H (upd H a (.lst us)) := g.lput (p' := .vs us) (ws := us) e rfl
end My
namespace My
open PySem PySem.Spec PyProof.Rows L2
/-! numbers of so many bits: what the script may hold, and what is made of it -/
def Bd (e : Nat) (n : Int) : Prop := ∃ b, b ≤ 1048576 + e ∧ n.natAbs < 2 ^ b
theorem Bd.mono {e f : Nat} {n : Int} (h : Bd e n) (l : e ≤ f) : Bd f n := let ⟨b, h1, h2⟩ := h; ⟨b, by omega, h2⟩
theorem Bd.of_bits {n : Int} (h : Builtin.Int.intBits n ≤ 1048576) : Bd 0 n := by
  refine ⟨Builtin.Int.intBits n, h, ?_⟩
  unfold Builtin.Int.intBits
  by_cases c : n = 0
  · rw [c]
    simp
  · rw [if_neg (by simpa using c)]
    exact Nat.lt_log2_self
theorem Bd.zero {e : Nat} : Bd e 0 := ⟨0, Nat.zero_le _, by simp⟩
theorem abs_div (n : Int) {k : Int} (h : 0 < k) : (n / k).natAbs ≤ n.natAbs := by
  by_cases c : 0 ≤ n
  · have h1 := Int.ediv_nonneg c (Int.le_of_lt h)
    have h2 := Int.ediv_le_self k c
    omega
  · have h1 : n / k < 0 := Int.ediv_neg_of_neg_of_pos (by omega) h
    have h2 : n ≤ n / k := by
      rw [Int.le_ediv_iff_mul_le h]
      have := Int.mul_le_mul_of_nonpos_left (a := n) (b := k) (c := 1) (by omega) (by omega)
      omega
    omega
theorem Bd.div {e : Nat} {n k : Int} (h : Bd e n) (p : 0 < k) : Bd e (n / k) := by
  obtain ⟨b, h1, h2⟩ := h
  exact ⟨b, h1, Nat.lt_of_le_of_lt (abs_div n p) h2⟩
theorem Bd.add {e : Nat} {n c : Int} (h : Bd e n) (p : c.natAbs ≤ 1000) : Bd (e + 1) (n + c) := by
  obtain ⟨b, h1, h2⟩ := h
  refine ⟨max b 10 + 1, by omega, ?_⟩
  have p1 : 2 ^ b ≤ 2 ^ (max b 10) := Nat.pow_le_pow_right (by decide) (by omega)
  have p2 : 2 ^ 10 ≤ 2 ^ (max b 10) := Nat.pow_le_pow_right (by decide) (by omega)
  have p3 : (2 : Nat) ^ 10 = 1024 := by decide
  rw [Nat.pow_succ]
  generalize 2 ^ (max b 10) = z at p1 p2 ⊢
  omega
theorem Bd.bits {e b : Nat} {n : Int} (h : n.natAbs < 2 ^ b) : Builtin.Int.intBits n ≤ b := by
  unfold Builtin.Int.intBits
  by_cases c : n = 0
  · rw [c]
    simp
  · rw [if_neg (by simpa using c)]
    have : n.natAbs ≠ 0 := by omega
    exact (Nat.log2_lt this).mpr h
theorem Bd.mul {e : Nat} {n c : Int} (h : Bd e n) (l : e ≤ 1000) (p : c.natAbs < 2 ^ 1000) : IntMulOk n c := by
  obtain ⟨b, h1, h2⟩ := h
  have b1 := Bd.bits (e := e) h2
  have b2 := Bd.bits (e := e) p
  unfold IntMulOk Builtin.Int.intTooBig bitsLine
  have e27 : (2 : Nat) ^ 27 = 134217728 := by decide
  rw [e27]
  simp
  intro _ _
  omega
def spLawB (K : PySem.W.Frag) : Sp := fun vs H Q _ => ∃ (a : Addr) (ns : List Int), vs = [.ref a] ∧ SqL K H a (ns.map V.int) ∧ ns.length ≤ 63 ∧ (∀ n ∈ ns, Bd 0 n) ∧ ∀ H', Q (.bl true) H'
theorem len_lawB {K : PySem.W.Frag} {vs H Q E} (h : spLawB K vs H Q E) : vs.length = 1 := by obtain ⟨_, _, rfl, _⟩ := h; rfl
theorem getI_bd {ns : List Int} (h : ∀ n ∈ ns, Bd 0 n) (i : Int) : Bd 0 (getI ns i) := by
  unfold getI
  rw [List.getD_eq_getElem?_getD]
  cases e : ns[i.toNat]? with
  | none => exact Bd.zero
  | some x => exact h x (List.mem_of_getElem? e)
end My
namespace My
open PySem PySem.Spec PyProof.Rows L2
/-! o.m(k = v, ..): a method called with keywords alone -/
section
variable {X : Cx} {CXq : CXT} {lv : Nat} {fa Cl : Addr} {fdat : FuncData} {pars ks : List Str} {prom : Sp} {Ex : XK} {nm : Str} {g : List Value → List Value → List Value} {gV : List V → List V → List V}
def tMethK (Cl : Addr) (nm : Str) (m : Nat) (prom : Sp) (gV : List V → List V → List V) (Ex : XK) (to : TE) (tk : TA) : TE := fun σ H Q => to σ H fun x H1 => isRef x fun a => MetAt H1 a Cl nm ∧ tk σ H1 fun zs H2 => zs.length = m ∧ prom (gV [.ref a] zs) H2 Q Ex
theorem pe_methK {ob : Expr} {to : TE} {tk : TA} {kws : List Keyword} {apos pos : Pos} {pl : Sem Bool} (ho : PE X ob to) (kc : Cls X.K Cl) (km : Meth X.K Cl nm fa) (ok : FnOk X.prog X.w X.K X.mg X.base CXq lv fa fdat pars prom) (room : Room lv X.A)
    (kb : KBn X.K fdat pars 1 ks g gV) (ps : Passes CXq X Ex) (hk : PK X kws tk)
    (hall : (backToKw pos (keywordEach kws X.env)).all (·.1.isSome) = true := by rfl) (hks : (backToKw pos (keywordEach kws X.env)).filterMap (·.1) = ks := by rfl)
    (hpl : ((backTo pos (starEach [] X.env)).any (·.1) || (backToKw pos (keywordEach kws X.env)).any (·.1.isNone)) = false := by rfl)
    (h3 : eval (.Call (.Attribute ob nm apos) [] kws pos) X.env = (do
      let ov ← eval ob X.env
      standAt apos.atName
      let (g, bound) ← holding [ov] (getMethod ov nm pl)
      callWith pos g bound (backTo pos (starEach [] X.env)) (backToKw pos (keywordEach kws X.env))) := by rfl) :
    PE X (.Call (.Attribute ob nm apos) [] kws pos) (tMethK Cl nm ks.length prom gV Ex to tk) := by
  refine ⟨fun pins s σ H Q I h => PySem.W.methodCall_KW (pl := pl) (thn (ho.run pins s σ H _ I h) fun u1 s1 hq => ?_) h3⟩
  obtain ⟨xv, H1, I1, rel, hx⟩ := hq
  unfold isRef at hx
  split at hx
  case h_2 => exact hx.elim
  rename_i a
  obtain ⟨⟨dx, fs, e, l⟩, hz⟩ := hx
  have : u1 = Value.ref a := rel
  subst this
  refine getmeth_ok I1 e kc km l (PySem.W.callWith_KW0 (h₀ := X.base) (first := [.ref a]) I.ok.mod.kin km.kp hall ?_ hpl)
  refine thn (hk.run pos pins s1 σ H1 _ I1 hz) fun ws s2 hw => ?_
  obtain ⟨zs, H2, I2, rz, l2, q2⟩ := hw
  refine ⟨I2.kIn, ?_⟩
  rw [hks]
  exact run_fnN (us := [.ref a]) (vs := [.ref a]) ok room kb ps I2 (.cons rfl .nil) rz rfl l2 q2
theorem rd_methK {Cl : Addr} {nm : Str} {m : Nat} {prom : Sp} {gV : List V → List V → List V} {Ex : XK} {to : TE} {tk : TA} {σ : L2.St} {H : Hp} {Q : VK} : tMethK Cl nm m prom gV Ex to tk σ H Q = to σ H fun x H1 => isRef x fun a => MetAt H1 a Cl nm ∧ tk σ H1 fun zs H2 => zs.length = m ∧ prom (gV [.ref a] zs) H2 Q Ex := rfl
end
end My
namespace My
open PySem PySem.Spec PyProof.Rows L2
/-! exceptions as values of the layer: tracked from the except clause on that catches them -/
def ExcO (C a : Addr) : HO := .ext fun h => ∃ (oe : Obj) (vs : Array Value), h.get? a = some oe ∧ L2N.Zn (.ref C) none oe ∧ oe.data = .fields vs
section
variable {X : Cx} {pins : List (Addr × Obj)} {σ : L2.St} {H : Hp} {s sI : Shared} {a C : Addr} {o : HO} {oe : Obj} {vs : Array Value} {B : Heap} {cls : Value} {d : Option Addr}
theorem excO_ok {h : Heap} (e : h.get? a = some oe) (z : L2N.Zn (.ref C) none oe) (f : oe.data = .fields vs) : ObjOk X.prog X.w H h a (ExcO C a) :=
  ⟨⟨oe, vs, e, z, f⟩, ⟨oe, e⟩, fun _ _ ⟨o1, v1, e1, r⟩ k => ⟨o1, v1, k _ e1, r⟩⟩
/-- an object newer than the def's start is tracked from here on -/
theorem track_new (I : Inv X pins σ H s) (na : H a = none) (s0 : X.s_0.heap.get? a = none) (nL : a ≠ X.env.locals) (nC : ∀ x c, X.env.cells.lookup x = some c → c ≠ a) (np : ∀ p ∈ X.pn ++ pins, p.1 ≠ a) (ok : ObjOk X.prog X.w (upd H a o) s.heap a o) : Inv X pins σ (upd H a o) s := by
  have oth : ∀ b, b ≠ a → upd H a o b = H b := fun b n => upd_ne n
  have old : ∀ b u, H b = some u → upd H a o b = some u := fun b u e => (oth b (ne_of_none e na)).trans e
  exact {
    ok := I.ok, os := I.os, bare := I.bare, loc := I.loc, cell := I.cell, len := I.len
    base := { keep := I.base.keep, slot := I.base.slot, there := I.base.there
              free := fun b ob e n hx => (oth b fun q => by rw [q, s0] at e; cases e).trans (I.base.free b ob e n hx)
              tups := fun b xs e => old _ _ (I.base.tups b xs e)
              frzs := fun b ob u e => old _ _ (I.base.frzs b ob u e)
              tbls := fun b ps e => (I.base.tbls b ps e).imp fun _ q => old _ _ q }
    free := (oth _ (Ne.symm nL)).trans I.free
    freeC := fun x c e => (oth _ (nC x c e)).trans (I.freeC x c e)
    pin := fun p m => ⟨(I.pin p m).1, (oth _ (np p m)).trans (I.pin p m).2.1, (I.pin p m).2.2⟩
    hok := fun b u e => by
      by_cases q : b = a
      · rw [q, upd_same] at e
        rw [q, ← Option.some.inj e]
        exact ok
      · rw [oth b q] at e
        exact (I.hok b u e).stay (fun _ _ _ z => z) (fun c z => old _ _ z) fun c xs z => old _ _ z }
/-- the exception at a has come down to the frame of X; sI: the state without it -/
structure Air (X : Cx) (pins : List (Addr × Obj)) (a : Addr) (B : Heap) (sI : Shared) (cls : Value) (d : Option Addr) (σ : L2.St) (H : Hp) (s : Shared) : Prop where
  inv : Inv X pins σ H sI
  gr : ∀ b o, sI.heap.get? b = some o → b ∉ frs X.stack → B.get? b = some o
  up : sI.heap.UpToSlots s.heap
  fl : HandSPX.FlyingZ B (X.env :: X.outer) a (L2N.Zn cls d) s.heap
  na : H a = none
  os : s.os = sI.os
  ag : AllBare s.gens
theorem Air.to (w : Air X pins a B sI cls d σ H s) {h : Heap} (f : HandSPX.FlyingZ B (X.env :: X.outer) a (L2N.Zn cls d) h) (u : s.heap.UpToSlots h) : Air X pins a B sI cls d σ H { s with heap := h } :=
  ⟨w.inv, w.gr, w.up.trans u, f, w.na, w.os, w.ag⟩
theorem Air.here (w : Air X pins a B sI cls d σ H s) : Inv X pins σ H s := w.inv.landed w.gr w.fl.1 w.up w.os w.ag
theorem Air.frame (w : Air X pins a B sI cls d σ H s) : a ∉ frs (X.env :: X.outer) := fun m => by
  obtain ⟨o1, v1, e1, -, f1⟩ := w.fl.there
  obtain ⟨-, o2, e2, n2⟩ := w.fl.2.2.1.mem m
  rw [e1] at e2
  exact n2 v1 (Option.some.inj e2 ▸ f1)
theorem Air.new (w : Air X pins a B sI cls d σ H s) (hs : X.stack = X.env :: X.outer) : sI.heap.get? a = none := by
  cases q : sI.heap.get? a with
  | none => rfl
  | some o =>
    have := w.gr a o q (by rw [hs]; exact w.frame)
    rw [w.fl.2.1] at this
    cases this
/-- tracked -/
theorem Air.track (w : Air X pins a B sI (.ref C) none σ H s) (hs : X.stack = X.env :: X.outer) (hf : X.env.frame = some X.env.locals) (hx : X.ex = []) : Inv X pins σ (upd H a (ExcO C a)) s := by
  have new := w.new hs
  have not : ∀ b o, sI.heap.get? b = some o → b ≠ a := fun b o e q => by rw [q, new] at e; cases e
  obtain ⟨oe, vs, e, z, f⟩ := w.fl.there
  refine track_new w.here w.na ?_ (fun q => w.frame (List.mem_filterMap.mpr ⟨X.env, List.mem_cons_self, by rw [hf, q]⟩)) (fun x c l => ?_) (fun p m => not _ _ (w.inv.pin p m).1) (excO_ok e z f)
  · cases q : X.s_0.heap.get? a with
    | none => rfl
    | some o =>
      obtain ⟨o2, e2⟩ := w.inv.base.there a o q (by rw [hx]; exact List.not_mem_nil)
      exact absurd rfl (not a o2 e2)
  · obtain ⟨v, o, e2, -⟩ := w.inv.cell x c l
    exact not c o e2
/-- into the suite's context, and back -/
theorem into_suite (I : Inv X pins σ H s) : Inv (X.suite a (X.pn ++ pins)) [] σ H s :=
  { ok := I.ok.suite _ _, os := I.os, bare := I.bare, base := I.base, loc := I.loc, cell := I.cell, free := I.free, freeC := I.freeC, hok := I.hok, len := I.len, pin := fun p m => I.pin p (by simpa using m) }
theorem out_suite (I : Inv (X.suite a (X.pn ++ pins)) [] σ H s) (ok : X.Ok) : Inv X pins σ H s :=
  { ok := ok, os := I.os, bare := I.bare, base := I.base, loc := I.loc, cell := I.cell, free := I.free, freeC := I.freeC, hok := I.hok, len := I.len, pin := fun p m => I.pin p (List.mem_append_left _ m) }
end
/-! the clauses -/
abbrev Clause := Value × Option Nat × (Addr → TS)
def setSl (sl : Option Nat) (a : Addr) (σ : L2.St) : L2.St := match sl with
  | none => σ
  | some i => σ.set i (some (.ref a))
def clrSl (sl : Option Nat) (σ : L2.St) : L2.St := match sl with
  | none => σ
  | some i => σ.set i none
def endSl (sl : Option Nat) (D : Ends) : Ends := { nx := fun σ H => D.nx (clrSl sl σ) H, rt := D.rt, bk := fun σ H => D.bk (clrSl sl σ) H, ct := fun σ H => D.ct (clrSl sl σ) H }
def wT (K : PySem.W.Frag) (Wo : WX) (D : Ends) : List Clause → WX
  | [] => Wo
  | (c, sl, ts) :: r => fun cls d σ H => ∃ b, PySem.W.exmOne K cls c = some b ∧ (b = true → ∃ C, cls = .ref C ∧ d = none ∧ ∀ a, H a = none → ts a (endSl sl D) (setSl sl a σ) (upd H a (ExcO C a))) ∧ (b = false → wT K Wo D r cls d σ H)
def NameAt (X : Cx) (nm : Option Str) (sl : Option Nat) : Prop := match nm, sl with
  | none, none => True
  | some n, some i => X.N[i]? = some n ∧ X.env.kindOf n = some .local
  | _, _ => False
inductive HdsT (X : Cx) : List ExceptHandler → List Clause → Prop
  | nil : HdsT X [] []
  | cons {x : Str} {c : Value} {nm : Option Str} {sl : Option Nat} {ts : Addr → TS} {b0 : Stmt} {su : List Stmt} {np p2 : Pos} {hds : List ExceptHandler} {l : List Clause} (hc : Names X x c) (hn : NameAt X nm sl)
      (hsu : ∀ (a : Addr) (pn : List (Addr × Obj)), PSs (X.suite a pn) (b0 :: su) (ts a)) (r : HdsT X hds l) : HdsT X (.ExceptHandler (some (.Name x np)) nm (b0 :: su) p2 :: hds) ((c, sl, ts) :: l)
section
variable {X : Cx} {pins : List (Addr × Obj)} {σ : L2.St} {H : Hp} {s sI : Shared} {a : Addr} {B : Heap} {cls : Value} {d : Option Addr} {D : Ends}
/-- a flow's end, seen from behind the suite -/
theorem sp_out {X1 : Cx} {f : Flow} {E1 : Ends} {q : Shared → Prop} (sp : SP X1 [] E1 f s) (nx : ∀ σ H, Inv X1 [] σ H s → (E1.nx σ H → q s) ∧ (E1.bk σ H → q s) ∧ (E1.ct σ H → q s) ∧ ∀ u v, RelV v u → E1.rt v H → q s) : q s := by
  cases f with
  | next => obtain ⟨σ1, H1, I1, z⟩ := sp; exact (nx σ1 H1 I1).1 z
  | brk => obtain ⟨σ1, H1, I1, z⟩ := sp; exact (nx σ1 H1 I1).2.1 z
  | cont => obtain ⟨σ1, H1, I1, z⟩ := sp; exact (nx σ1 H1 I1).2.2.1 z
  | ret u => obtain ⟨v, σ1, H1, I1, rv, z⟩ := sp; exact (nx σ1 H1 I1).2.2.2 u v rv z
theorem suite_none {f : Flow} (ok : X.Ok) (sp : SP (X.suite a (X.pn ++ pins)) [] (endSl none D) f s) : SP X pins D f s := by
  cases f with
  | next => obtain ⟨σ1, H1, I1, z⟩ := sp; exact ⟨σ1, H1, out_suite I1 ok, z⟩
  | brk => obtain ⟨σ1, H1, I1, z⟩ := sp; exact ⟨σ1, H1, out_suite I1 ok, z⟩
  | cont => obtain ⟨σ1, H1, I1, z⟩ := sp; exact ⟨σ1, H1, out_suite I1 ok, z⟩
  | ret u => obtain ⟨v, σ1, H1, I1, rv, z⟩ := sp; exact ⟨v, σ1, H1, out_suite I1 ok, rv, z⟩
theorem suite_some {i : Nat} {n : Str} {f : Flow} {p2 : Pos} (ok : X.Ok) (hN : X.N.Nodup) (hi : X.N[i]? = some n) (hl : X.env.kindOf n = some .local) (sp : SP (X.suite a (X.pn ++ pins)) [] (endSl (some i) D) f s) :
    wpAny (model X.prog X.w) X.A (do bindName X.env n .none; unbindBehindTheSuite X.env n p2) (fun _ s3 => SP X pins D f s3) X.xe s := by
  cases f with
  | next => obtain ⟨σ1, H1, I1, z⟩ := sp; exact gone_ok (out_suite I1 ok) hN hi hl fun s3 I3 => ⟨_, H1, I3, z⟩
  | brk => obtain ⟨σ1, H1, I1, z⟩ := sp; exact gone_ok (out_suite I1 ok) hN hi hl fun s3 I3 => ⟨_, H1, I3, z⟩
  | cont => obtain ⟨σ1, H1, I1, z⟩ := sp; exact gone_ok (out_suite I1 ok) hN hi hl fun s3 I3 => ⟨_, H1, I3, z⟩
  | ret u => obtain ⟨v, σ1, H1, I1, rv, z⟩ := sp; exact gone_ok (out_suite I1 ok) hN hi hl fun s3 I3 => ⟨v, _, H1, I3, rv, z⟩
/-- the clauses one after the other -/
theorem clauses {hds : List ExceptHandler} {l : List Clause} {Wo : WX} (hs : X.stack = X.env :: X.outer) (hf : X.env.frame = some X.env.locals) (hx : X.ex = []) (hN : X.N.Nodup) (tk : L2N.Takes X Wo) (hh : HdsT X hds l) (w : Air X pins a B sI cls d σ H s) (ok : X.Ok) (wish : wT X.K Wo D l cls d σ H) :
    wpAny (model X.prog X.w) X.A (handleBy (.ref a) X.env hds) (SP X pins D) X.xe s := by
  induction hh with
  | nil =>
    -- no clause: it flies on from here
    obtain ⟨-, -, -, oe, vs, T, oT, us, e, z, f, h1, -⟩ := id w.fl
    have on : wpAny (model X.prog X.w) X.A (setFlight (.ref a) X.env.frame) (fun _ s4 => wpAny (model X.prog X.w) X.A (throw (.ref a) : Sem Flow) (SP X pins D) X.xe s4) X.xe s := by
      rw [hf]
      exact HandSPX.setFlight_upZ w.fl fun h4 held up4 => wpAny_throw (tk _ _ ⟨a, B, sI, pins, σ, H, cls, d, rfl, w.inv, w.gr, w.up.trans up4, .inr (.inr (by rw [hs]; exact held)), w.na, w.os, w.ag, wish⟩)
    refine wpAny_handleBy_nil ?_
    unfold PySem.passOn
    refine wpAny_bind (wpAny_field e f h1 ?_)
    rw [if_neg (by simp)]
    first
      | exact wpAny_bind on
      | exact wpAny_bind (wpAny_pure (wpAny_bind on))
  | @cons x c nm sl ts b0 su np p2 hds l hc hn hsu r ih =>
    obtain ⟨b, eb, yes, no⟩ := wish
    obtain ⟨oe, vs, e, z, f⟩ := w.fl.there
    have cl : PySem.W.Looks (model X.prog X.w) s.heap (typeOf (.ref a)) cls := fun A' Q' E' s2 k q => wpAny_typeOf_ref (k _ _ e) (z.1 ▸ q)
    have mt := PySem.W.exm_one (M := model X.prog X.w) w.here.kIn cl eb
    have inn := into_suite (a := a) w.here
    refine wpAny_handleBy_cons (codeAny_handlers_test ?_) fun q => by cases q
    have name : ∀ {Q' : Value → Shared → Prop} {E' : Value → Shared → Prop}, Q' c s → wpAny (model X.prog X.w) (X.A.mark (some (.ref a))) (eval (.Name x np) X.env) Q' E' s := fun {Q' E'} q => by
      rcases hc with ⟨g, db, m | ⟨m, v, nn⟩⟩
      · exact ld_glob (X := X.suite a (X.pn ++ pins)) inn g m q db
      · exact ld_blt (X := X.suite a (X.pn ++ pins)) inn g m v q nn db
    refine name (mt.here ?_)
    cases b with
    | false => exact ih (no rfl)
    | true =>
      obtain ⟨C, rfl, rfl, go⟩ := yes rfl
      cases nm with
      | none =>
        cases sl with
        | some i => exact hn.elim
        | none =>
          refine codeAny_handlers_suite (HandSPX.lands_againZ w.fl fun h4 f4 up4 => ?_)
          have w4 := w.to f4 up4
          exact wpAny_mono ((hsu a _).run [] _ σ _ _ (into_suite (w4.track hs hf hx)) (go a w.na)) (fun fl s6 sp => suite_none ok sp) fun _ _ z => z.elim
      | some n =>
        cases sl with
        | none => exact hn.elim
        | some i =>
          refine codeAny_handlers_suite_as (HandSPX.lands_againZ w.fl fun h4 f4 up4 => ?_)
          have w4 := w.to f4 up4
          refine store_ok (X := X.suite a (X.pn ++ pins)) (v := .ref a) (into_suite (w4.track hs hf hx)) hN hn.1 (.inl hn.2) rfl (fun s5 I5 => ?_) (.inr hn.2)
          exact wpAny_mono ((hsu a _).run [] s5 _ _ _ I5 (go a w.na)) (fun fl s6 sp => suite_some ok hN hn.1 hn.2 sp) fun _ _ z => z.elim
theorem ps_tryT {body : List Stmt} {h0 : ExceptHandler} {hds : List ExceptHandler} {l : List Clause} {pos : Pos} {tb : WX → TS} {Wo : WX} (hs : X.stack = X.env :: X.outer) (hf : X.env.frame = some X.env.locals) (hx : X.ex = []) (hN : X.N.Nodup) (tk : L2N.Takes X Wo)
    (hb : ∀ (W : WX) (pn : List (Addr × Obj)) (xe : Value → Shared → Prop), L2N.Takes (X.tr pn xe) W → PassesOwn (model X.prog X.w) X.A X.env xe → PSs (X.tr pn xe) body (tb W))
    (hh : HdsT X (h0 :: hds) l) : PS X (.Try body (h0 :: hds) [] [] pos) (fun D σ H => tb (wT X.K Wo D l) D σ H) := by
  constructor
  intro pins s σ H D I h
  have fr : X.A.frames = some (X.env :: X.outer) := by rw [I.ok.frames, hs]
  apply wpAny_Try_except
  refine wpAny_mono ((hb (wT X.K Wo D l) (X.pn ++ pins) _ ?_ PassesOwn.looking).run [] s σ H D (I.toTry _) h) ?_ fun _ _ z => z
  · rintro u s1 ⟨a, B, sI, pins1, σ1, H1, cls, d, rfl, I1, gr, up, sky, na, os, ag, wish⟩
    have J := I1.ofTry I.ok
    refine L2N.Sky.land L2N.Zn.steady fr hf (hs ▸ sky) fun h3 f3 up3 => ?_
    exact clauses hs hf hx hN tk hh ⟨J, gr, up.trans up3, f3, na, os, ag⟩ I.ok wish
  · intro f s1 sp
    cases f with
    | next => obtain ⟨σ1, H1, I1, z⟩ := sp; exact wpAny_execs_nil ⟨σ1, H1, I1.ofTry I.ok, z⟩
    | brk => obtain ⟨σ1, H1, I1, z⟩ := sp; exact ⟨σ1, H1, I1.ofTry I.ok, z⟩
    | cont => obtain ⟨σ1, H1, I1, z⟩ := sp; exact ⟨σ1, H1, I1.ofTry I.ok, z⟩
    | ret u => obtain ⟨v, σ1, H1, I1, rv, z⟩ := sp; exact ⟨v, σ1, H1, I1.ofTry I.ok, rv, z⟩
end
end My
namespace My
open PySem PySem.Spec PyProof.Rows L2
section
variable {X : Cx} {H : Hp} {K : PySem.W.Frag} {Q : VK} {a C D : Addr} {b : Bool} {σ : L2.St}
/-- isinstance of a tracked exception -/
def rIsX (K : PySem.W.Frag) : List V → Hp → VK → Prop := fun xs H Q => ∃ (a C : Addr) (c : V) (cv : Value) (b : Bool), xs = [.ref a, c] ∧ H a = some (ExcO C a) ∧ ExcC K C ∧ (∀ u, RelV c u → u = cv) ∧ PySem.W.kitOne K (.ref C) cv = some b ∧ Q (.bl b) H
theorem call_isX : CallR X (.builtin "isinstance") (rIsX X.K) := by
  intro pins s σ H xs us Q I r h
  obtain ⟨a, C, c, cv, b, rfl, e, ec, one, kit, q⟩ := h
  obtain ⟨⟨oe, vs, g, ⟨z1, z2, -⟩, f⟩, -⟩ := I.hok a _ e
  have at_ : PySem.W.InstAt s.heap a oe C none := by
    rcases oe with ⟨c1, d1, t1, s1⟩
    cases z1
    cases z2
    cases f
    exact ⟨g, rfl, rfl, trivial⟩
  match us, r with
  | _, .cons r1 (.cons r2 .nil) =>
    cases r1
    cases one _ r2
    exact PySem.W.kia_one (PySem.W.handS_kitx_exc ec.hg ec.hk ec.hs ec.hd ec.ha ec.hn ec.ht ec.hm) I.kIn at_ kit (fun z => by cases z) fun tk => ⟨.bl b, H, I.kept (t' := tk) fun _ _ k => k, rfl, q⟩
theorem is_exc (e : H a = some (ExcO C a)) (ec : ExcC K C) (k : PySem.W.kitOne K (.ref C) (.ref D) = some b) (q : Q (.bl b) H) : rIsX K [.ref a, .ref D] H Q := ⟨a, C, .ref D, .ref D, b, rfl, e, ec, fun _ r => r, k, q⟩
theorem is_excT {n : String} (e : H a = some (ExcO C a)) (ec : ExcC K C) (k : PySem.W.kitOne K (.ref C) (.type n) = some b) (q : Q (.bl b) H) : rIsX K [.ref a, .ty n] H Q := ⟨a, C, .ty n, .type n, b, rfl, e, ec, fun _ r => r, k, q⟩
theorem wT_yes {Wo : WX} {D : Ends} {c : Value} {sl : Option Nat} {ts : Addr → TS} {r : List Clause} (e : PySem.W.exmOne K (.ref C) c = some true) (q : ∀ a, Fresh H a → ts a (endSl sl D) (setSl sl a σ) (upd H a (ExcO C a))) : wT K Wo D ((c, sl, ts) :: r) (.ref C) none σ H :=
  ⟨true, e, fun _ => ⟨C, rfl, rfl, q⟩, fun z => by cases z⟩
theorem wT_no {Wo : WX} {D : Ends} {c : Value} {sl : Option Nat} {ts : Addr → TS} {r : List Clause} (e : PySem.W.exmOne K (.ref C) c = some false) (q : wT K Wo D r (.ref C) none σ H) : wT K Wo D ((c, sl, ts) :: r) (.ref C) none σ H :=
  ⟨false, e, (fun z => by cases z), fun _ => q⟩
end
/-- around a body that lets nothing out -/
theorem takes0N {X : Cx} : L2N.Takes X (fun _ _ _ _ => False) := by
  rintro u s' ⟨_, _, _, _, _, _, _, _, _, _, _, _, _, _, _, _, z⟩
  exact z.elim
theorem passLN {X : Cx} : Passes (L2N.CX X.prog X.w) X E0 := by
  rintro _ _ _ _ _ _ _ ⟨_, _, _, _, _, _, _, _, _, _, _, _, z⟩
  exact z.elim
theorem okN {P : Program} {w : World} {K : PySem.W.Frag} {mg : Str → Option Value} {base : Heap} {x qual : Str} {st : Stmt} {f : Addr} {fd : FuncData} {N ps : List Str} {k : Nat} {sp : Sp} (F : Fun K x qual st f fd) (S : FnScope N ps (defScope st)) (len : ∀ vs H Q E, sp vs H Q E → vs.length = ps.length)
    (body : ∀ (cdv : Value) (A : Around) (outer : List Env) (s : Shared) (H : Hp) (vs : List V) (Q : VK) (E : XK), Room k (A.deeper (envOfC qual (defScope st) s.heap.objs.size f cdv)) → sp vs H Q E →
      ∃ t, PSs (cxOf (L2N.CX P w) P w K mg base N qual (defScope st) f cdv A outer s H E) (defBody st) t ∧ t { nx := fun _ H' => Q .non H', rt := Q } (L2.start N vs) H) : FnOk P w K mg base (L2N.CX P w) (k + 1) f fd ps sp := by
  rcases F.ex with ⟨c1, d1, v1, v2, v3, a1, v4, v5, sl, rfl, look, code⟩
  refine fn_of look code S len ?_
  intro A outer s H vs Q E room h
  exact body v4 A outer s H vs Q E room h
theorem rd_setS {i : Nat} {a : Addr} {σ : L2.St} : setSl (some i) a σ = σ.set i (some (.ref a)) := rfl
theorem rd_setN {a : Addr} {σ : L2.St} : setSl none a σ = σ := rfl
theorem rd_clrS {i : Nat} {σ : L2.St} : clrSl (some i) σ = σ.set i none := rfl
theorem rd_clrN {σ : L2.St} : clrSl none σ = σ := rfl
theorem rd_endS {sl : Option Nat} {D : Ends} : endSl sl D = { nx := fun σ H => D.nx (clrSl sl σ) H, rt := D.rt, bk := fun σ H => D.bk (clrSl sl σ) H, ct := fun σ H => D.ct (clrSl sl σ) H } := rfl
theorem call_isXK (K : PySem.W.Frag) {X : Cx} (e : X.K = K) : CallR X (.builtin "isinstance") (rIsX K) := e ▸ call_isX
end My
local macro_rules | `(tactic| walk_at "rd") => `(tactic| try simp only [↓My.rd_var, ↓My.rd_c, ↓My.rd_op, ↓My.rd_un, ↓My.rd_test, ↓My.rd_B, ↓My.rd_and, ↓My.rd_or, ↓My.rd_not, ↓My.rd_andV, ↓My.rd_orV, ↓My.rd_notV, ↓My.rd_ifE, ↓My.rd_chain, ↓My.rd_ifS, ↓My.rd_ret, ↓My.rd_retN, ↓My.rd_seq, ↓My.rd_dnewK, ↓My.rd_dsetd, ↓My.rd_mm, ↓My.rd_mm0, ↓My.rd_dnewM, ↓My.rd_or2, ↓My.rd_methK, ↓My.rd_endS, My.rd_setS, My.rd_setN, My.rd_clrS, My.rd_clrN, ↓My.rd_lcg, ↓My.rd_M1, ↓My.rd_BM, ↓My.rd_BM0, ↓My.rd_gSub, ↓My.rd_next, ↓My.rd_break, ↓My.rd_cont, ↓My.rd_drop, ↓My.rd_asg, ↓My.rd_gName, ↓My.rd_nil, ↓My.rd_cons, ↓My.rd_call, ↓My.rd_CB, ↓My.rd_for, ↓My.rd_rng1, ↓My.rd_rng2, ↓My.rd_rng3, My.rd_isR3, ↓My.rd_iList, ↓My.rd_iTup, ↓My.rd_iStr, ↓My.rd_lst, ↓My.rd_tup, ↓My.rd_sl, ↓My.rd_noPart, ↓My.rd_part, ↓My.rd_never, ↓My.rd_dget, ↓My.rd_din, ↓My.rd_dnotin, ↓My.rd_dput, ↓My.rd_enum, My.rd_isR0, ↓My.rd_fld, ↓My.rd_sfld, ↓My.rd_aug_fld, ↓My.rd_meth, ↓My.rd_methX, ↓My.rd_cfun, ↓My.rd_callSD, ↓My.rd_make, ↓My.rd_lenSet, ↓My.rd_lstRev, My.rd_unl, ↓My.rd_revA, My.rd_min, ↓My.rd_yes, ↓My.rd_zipA, My.rd_isR2a, My.rd_mulS, ↓My.rd_aug, My.rd_ipI, My.sizeB_pow, My.rd_spBare,
  My.rd_rI, My.rd_rI0, My.rd_rU, My.rd_eq, My.rd_ne, My.rd_isBl, My.rd_isR1, My.rd_isR2, My.rd_isRef, My.rd_isStr, My.rd_isInt, My.rd_isiF, My.rd_cat, My.rd_append, My.own_nil, My.own_cons, My.rd_wipe0, My.rd_wipe1, My.rd_addT, My.rd_ixS, My.rd_ixT, My.rd_slS, My.rd_join, My.rd_tupOf, My.rd_listOf, My.rd_gTup, My.rd_gCons, My.rd_gNil, My.rd_isB, My.rd_notB, My.rd_rep, My.rd_setL, My.rd_ixL, ↓My.rd_cut, My.rd_ixQ, My.rd_slL, My.rd_len, My.rd_lenU_str, My.rd_lenU_ref, My.rd_spI1, My.rd_spI2, My.rd_spI3, My.rd_spI4, My.rd_whole, My.rd_spCell, My.rd_max2, My.rd_min2, My.rd_spAny1, My.rd_spStamp, My.rd_ord, My.rd_spNew2,
  My.V_int_inj, My.V_bl_inj, My.V_str_inj, My.scal_ii, My.scal_bb, My.scal_ss, My.isi_non_int, My.isi_non_bool, My.isi_non_str, My.isi_non_tuple, My.isi_non_list, My.isi_bl_int, My.isi_bl_bool, My.isi_bl_str, My.isi_bl_tuple, My.isi_bl_list, My.isi_int_int, My.isi_int_bool, My.isi_int_str, My.isi_int_tuple, My.isi_int_list, My.isi_str_int, My.isi_str_bool, My.isi_str_str, My.isi_str_tuple, My.isi_str_list,
  My.st_nil, My.st_arg, My.st_none, My.cxK, Int.zero_add, Int.reduceToNat, Int.reducePow, Int.reduceMul, Int.reduceSub, Int.reduceAdd, Int.reduceNeg, Int.reduceLE, Int.reduceLT, List.getElem?_cons_zero, List.getElem?_cons_succ, List.set_cons_zero, List.set_cons_succ, List.append_nil, List.cons_append, List.nil_append, decide_eq_true_eq, Bool.not_eq_true', decide_eq_false_iff_not, Bool.not_true, Bool.not_false, Bool.false_eq_true, Bool.true_eq_false, if_true, if_false, true_and, and_true, ite_true, ite_false, if_pos, if_neg, ne_eq, not_true_eq_false, not_false_eq_true, reduceIte, Bool.not_not])
local macro_rules | `(tactic| walk_at "spl") => `(tactic| first | exact My.len_spI1 (by assumption) | exact My.len_spI2 (by assumption) | exact My.len_spI3 (by assumption) | exact My.len_spI4 (by assumption) | exact My.len_whole (by assumption) | exact My.len_law (by assumption) | exact My.len_cell (by assumption) | exact My.len_new2 (by assumption) | exact My.len_when (by assumption) | exact My.len_text (by assumption) | exact My.len_anyLeaf (by assumption) | exact My.len_anyKey (by assumption) | exact My.len_key3 (by assumption) | exact My.len_same (by assumption) | exact My.len_rowsSame (by assumption) | exact My.len_placeB (by assumption) | exact My.len_row (by assumption) | exact My.len_paperB (by assumption) | exact My.len_paper (by assumption) | exact My.len_placeOf (by assumption) | exact My.len_bare (by assumption) | exact My.len_stream (by assumption) | exact My.len_cellsOf (by assumption) | exact My.len_ahead (by assumption) | exact My.len_laid (by assumption) | exact My.len_any1 (by assumption) | exact My.len_stamp (by assumption))
local macro_rules | `(tactic| walk_at "ne") => `(tactic| first | assumption | exact Ne.symm (by assumption) | exact My.Fresh.ne (by assumption) (by walk_at "hp") | exact Ne.symm (My.Fresh.ne (by assumption) (by walk_at "hp")))
local macro_rules | `(tactic| walk_at "hp") => `(tactic| first | assumption | exact L2.upd_same | exact (by assumption : L2.Same _ _) _ _ (by walk_at "hp") | (refine Eq.trans (L2.upd_ne ?_) ?_; (walk_at "ne"); (walk_at "hp")))
local macro_rules | `(tactic| walk_at "sq") => `(tactic| first | assumption | exact L2.SqL.of (by walk_at "hp") | exact L2.SqT.of (by walk_at "hp") | (refine L2.Same.seq ?_ (by assumption); walk_at "same"))
local macro_rules | `(tactic| walk_at "same") => `(tactic| first | assumption | exact L2.Same.refl _ | exact My.Same_upd (by walk_at "same") (by assumption) | exact L2.Same.trans (by walk_at "same") (by assumption))
local macro_rules | `(tactic| walk_at "sz") => `(tactic| first | assumption | (with_unfolding_all decide) | (rw [PySem.sizeLine_eq]; simp only [List.length_append, List.length_cons, List.length_nil, List.length_map, List.length_replicate, List.length_take, List.length_drop]; omega))
local macro_rules | `(tactic| walk_at "side") => `(tactic| first | assumption | exact trivial | decide +kernel | omega | exact ⟨by decide +kernel, by decide +kernel⟩ | exact ⟨by decide +kernel, by decide +kernel, by decide +kernel⟩ | exact ⟨by omega, by omega⟩ | exact My.mulL (by omega) (by omega) | exact My.mulR (by omega) (by omega) | exact PySem.IntMulOk.of_bits (by omega) (by omega) | exact My.divB (by omega) (by omega))
local macro_rules | `(tactic| walk_at "dt") => `(tactic| repeat' first | (refine My.both ?_ ?_; (walk_at "side")) | (refine My.iteB (fun _ => ?_) (fun _ => ?_)))
local macro_rules | `(tactic| walk_at "go") => `(tactic| repeat' first | (refine My.exSq (by walk_at "sq") ?_) | (refine My.exSqV (by walk_at "sq") ?_) | (refine My.both ?_ ?_; (walk_at "side")))
namespace Law
open PySem PySem.Spec PyProof.Rows L2 My
def top (i : Nat) : Stmt := PySem.Challenge.pw_slotbook_k72_whole_a_kin_is_a_table.main.body.getD i (.Pass ⟨0, 0, 0, 0⟩)
abbrev s_is_within : Stmt := top 11
abbrev s_is_key : Stmt := top 12
abbrev s_checked : Stmt := top 13
abbrev s_stride : Stmt := top 15
abbrev s_probe : Stmt := top 16
abbrev s_is_size : Stmt := top 20
abbrev s_room : Stmt := top 21
abbrev s_size_for : Stmt := top 22
abbrev s_stamp : Stmt := top 25
abbrev s_first_bare : Stmt := top 29
abbrev s_cells_of : Stmt := top 30
abbrev s_paper : Stmt := top 31
abbrev s_place_of : Stmt := top 33
abbrev s_Shelf___init__ : Stmt := inClass (top 35) 0
abbrev s_Shelf_find : Stmt := inClass (top 35) 1
abbrev s_Shelf_lay : Stmt := inClass (top 35) 2
abbrev s_Shelf_mark_gone : Stmt := inClass (top 35) 3
abbrev s_Shelf_relay : Stmt := inClass (top 35) 4
abbrev s_Shelf_make_room : Stmt := inClass (top 35) 5
abbrev s_Shelf_put : Stmt := inClass (top 35) 6
abbrev s_Shelf_at : Stmt := inClass (top 35) 7
abbrev s_Shelf_told : Stmt := inClass (top 35) 8
abbrev s_Shelf_has : Stmt := inClass (top 35) 9
abbrev s_Shelf_take : Stmt := inClass (top 35) 10
abbrev s_Shelf_take_last : Stmt := inClass (top 35) 11
abbrev s_Shelf_emptied : Stmt := inClass (top 35) 12
abbrev s_Shelf_many : Stmt := inClass (top 35) 13
abbrev s_Shelf_pairs : Stmt := inClass (top 35) 14
abbrev s_Shelf_after : Stmt := inClass (top 35) 15
abbrev s_Shelf_ahead : Stmt := inClass (top 35) 16
abbrev s_Shelf_paper : Stmt := inClass (top 35) 17
abbrev s_Shelf_form : Stmt := inClass (top 35) 18
abbrev s_Shelf_counts : Stmt := inClass (top 35) 19
abbrev s_packed : Stmt := top 37
abbrev s_Table___init__ : Stmt := inClass (top 39) 0
abbrev s_Table_make_room : Stmt := inClass (top 39) 1
abbrev s_Kin___init__ : Stmt := inClass (top 41) 0
abbrev s_Kin_parted : Stmt := inClass (top 41) 1
abbrev s_Kin_find : Stmt := inClass (top 41) 2
abbrev s_Kin_lay : Stmt := inClass (top 41) 3
abbrev s_Kin_mark_gone : Stmt := inClass (top 41) 4
abbrev s_Kin_relay : Stmt := inClass (top 41) 5
abbrev s_Kin_paper : Stmt := inClass (top 41) 6
abbrev s_Kin_form : Stmt := inClass (top 41) 7
abbrev s_Maker___init__ : Stmt := inClass (top 44) 0
abbrev s_Maker_number_of : Stmt := inClass (top 44) 1
abbrev s_Maker_taken_in : Stmt := inClass (top 44) 2
abbrev s_Maker_paper : Stmt := inClass (top 44) 3
abbrev s_Maker_form : Stmt := inClass (top 44) 4
abbrev s_law_cell_at : Stmt := top 46
abbrev s_law_pool : Stmt := top 47
abbrev s_law_alike : Stmt := top 48
abbrev s_law_value : Stmt := top 49
abbrev s_law_asked : Stmt := top 50
abbrev s_law_said : Stmt := top 51
abbrev s_law_both : Stmt := top 52
abbrev s_law_turns : Stmt := top 53
abbrev s_law_deed : Stmt := top 54
abbrev s_law_found : Stmt := top 55
abbrev s_law_between : Stmt := top 56
abbrev s_law : Stmt := top 57
structure Ad where
  a_is_within : Addr
  d_is_within : FuncData
  a_is_key : Addr
  d_is_key : FuncData
  a_checked : Addr
  d_checked : FuncData
  a_stride : Addr
  d_stride : FuncData
  a_probe : Addr
  d_probe : FuncData
  a_is_size : Addr
  d_is_size : FuncData
  a_room : Addr
  d_room : FuncData
  a_size_for : Addr
  d_size_for : FuncData
  a_stamp : Addr
  d_stamp : FuncData
  a_first_bare : Addr
  d_first_bare : FuncData
  a_cells_of : Addr
  d_cells_of : FuncData
  a_paper : Addr
  d_paper : FuncData
  a_place_of : Addr
  d_place_of : FuncData
  a_Shelf___init__ : Addr
  d_Shelf___init__ : FuncData
  a_Shelf_find : Addr
  d_Shelf_find : FuncData
  a_Shelf_lay : Addr
  d_Shelf_lay : FuncData
  a_Shelf_mark_gone : Addr
  d_Shelf_mark_gone : FuncData
  a_Shelf_relay : Addr
  d_Shelf_relay : FuncData
  a_Shelf_put : Addr
  d_Shelf_put : FuncData
  a_Shelf_at : Addr
  d_Shelf_at : FuncData
  a_Shelf_told : Addr
  d_Shelf_told : FuncData
  a_Shelf_has : Addr
  d_Shelf_has : FuncData
  a_Shelf_take : Addr
  d_Shelf_take : FuncData
  a_Shelf_take_last : Addr
  d_Shelf_take_last : FuncData
  a_Shelf_emptied : Addr
  d_Shelf_emptied : FuncData
  a_Shelf_many : Addr
  d_Shelf_many : FuncData
  a_Shelf_pairs : Addr
  d_Shelf_pairs : FuncData
  a_Shelf_after : Addr
  d_Shelf_after : FuncData
  a_Shelf_ahead : Addr
  d_Shelf_ahead : FuncData
  a_Shelf_paper : Addr
  d_Shelf_paper : FuncData
  a_Shelf_counts : Addr
  d_Shelf_counts : FuncData
  a_packed : Addr
  d_packed : FuncData
  a_Table___init__ : Addr
  d_Table___init__ : FuncData
  a_Table_make_room : Addr
  d_Table_make_room : FuncData
  a_Kin___init__ : Addr
  d_Kin___init__ : FuncData
  a_Kin_parted : Addr
  d_Kin_parted : FuncData
  a_Kin_find : Addr
  d_Kin_find : FuncData
  a_Kin_lay : Addr
  d_Kin_lay : FuncData
  a_Kin_mark_gone : Addr
  d_Kin_mark_gone : FuncData
  a_Kin_relay : Addr
  d_Kin_relay : FuncData
  a_Kin_paper : Addr
  d_Kin_paper : FuncData
  a_Maker___init__ : Addr
  d_Maker___init__ : FuncData
  a_Maker_number_of : Addr
  d_Maker_number_of : FuncData
  a_Maker_taken_in : Addr
  d_Maker_taken_in : FuncData
  a_Maker_paper : Addr
  d_Maker_paper : FuncData
  a_law_cell_at : Addr
  d_law_cell_at : FuncData
  a_law_pool : Addr
  d_law_pool : FuncData
  a_law_alike : Addr
  d_law_alike : FuncData
  a_law_value : Addr
  d_law_value : FuncData
  a_law_asked : Addr
  d_law_asked : FuncData
  a_law_said : Addr
  d_law_said : FuncData
  a_law_both : Addr
  d_law_both : FuncData
  a_law_turns : Addr
  d_law_turns : FuncData
  a_law_deed : Addr
  d_law_deed : FuncData
  a_law_found : Addr
  d_law_found : FuncData
  a_law_between : Addr
  d_law_between : FuncData
  a_law : Addr
  d_law : FuncData
  c_Shelf : Addr
  c_Table : Addr
  c_Kin : Addr
  c_Maker : Addr
  c_NoKey : Addr
  c_Lacking : Addr
  t_FAR : Tok
  t_MOST_SIGNS : Tok
  t_MOST_PARTS : Tok
  t_DEEPEST : Tok
  t_LEAST : Tok
  t_GREATEST : Tok
  t_TURN : Tok
  t_EMPTY : Tok
  t_GONE : Tok
  t_SHARED : Tok
structure Txt (K : PySem.W.Frag) (mg : Str → Option Value) (A : Ad) : Prop where
  F_is_within : Fun K "is_within" "is_within" s_is_within A.a_is_within A.d_is_within
  b_is_within : Binds K A.d_is_within ["thing", "deep"] []
  m_is_within : mg "is_within" = some (.ref A.a_is_within)
  F_is_key : Fun K "is_key" "is_key" s_is_key A.a_is_key A.d_is_key
  b_is_key : Binds K A.d_is_key ["thing"] []
  m_is_key : mg "is_key" = some (.ref A.a_is_key)
  F_checked : Fun K "checked" "checked" s_checked A.a_checked A.d_checked
  b_checked : Binds K A.d_checked ["thing"] []
  m_checked : mg "checked" = some (.ref A.a_checked)
  F_stride : Fun K "stride" "stride" s_stride A.a_stride A.d_stride
  b_stride : Binds K A.d_stride ["stamp"] []
  m_stride : mg "stride" = some (.ref A.a_stride)
  F_probe : Fun K "probe" "probe" s_probe A.a_probe A.d_probe
  b_probe : Binds K A.d_probe ["stamp", "size", "count"] []
  m_probe : mg "probe" = some (.ref A.a_probe)
  F_is_size : Fun K "is_size" "is_size" s_is_size A.a_is_size A.d_is_size
  b_is_size : Binds K A.d_is_size ["thing"] []
  m_is_size : mg "is_size" = some (.ref A.a_is_size)
  F_room : Fun K "room" "room" s_room A.a_room A.d_room
  b_room : Binds K A.d_room ["size"] []
  m_room : mg "room" = some (.ref A.a_room)
  F_size_for : Fun K "size_for" "size_for" s_size_for A.a_size_for A.d_size_for
  b_size_for : Binds K A.d_size_for ["many"] []
  m_size_for : mg "size_for" = some (.ref A.a_size_for)
  F_stamp : Fun K "stamp" "stamp" s_stamp A.a_stamp A.d_stamp
  b_stamp : Binds K A.d_stamp ["key"] []
  m_stamp : mg "stamp" = some (.ref A.a_stamp)
  F_first_bare : Fun K "first_bare" "first_bare" s_first_bare A.a_first_bare A.d_first_bare
  b_first_bare : Binds K A.d_first_bare ["cells", "key"] []
  m_first_bare : mg "first_bare" = some (.ref A.a_first_bare)
  F_cells_of : Fun K "cells_of" "cells_of" s_cells_of A.a_cells_of A.d_cells_of
  b_cells_of : Binds K A.d_cells_of ["row", "size"] []
  m_cells_of : mg "cells_of" = some (.ref A.a_cells_of)
  F_paper : Fun K "paper" "paper" s_paper A.a_paper A.d_paper
  b_paper : Binds K A.d_paper ["cells", "row", "key"] []
  m_paper : mg "paper" = some (.ref A.a_paper)
  F_place_of : Fun K "place_of" "place_of" s_place_of A.a_place_of A.d_place_of
  b_place_of : Binds K A.d_place_of ["cells", "row", "key"] []
  m_place_of : mg "place_of" = some (.ref A.a_place_of)
  F_Shelf___init__ : FunD K "__init__" "Shelf.__init__" (defArgs s_Shelf___init__) (defBody s_Shelf___init__) (defScope s_Shelf___init__) [V.int 8] [] A.a_Shelf___init__ A.d_Shelf___init__
  b_Shelf___init___1 : ∃ ds, Vals [V.int 8] ds ∧ Binds K A.d_Shelf___init__ ["self", "size"] ds
  b_Shelf___init___2 : ∃ ds, Vals [] ds ∧ Binds K A.d_Shelf___init__ ["self", "size"] ds
  F_Shelf_find : Fun K "find" "Shelf.find" s_Shelf_find A.a_Shelf_find A.d_Shelf_find
  b_Shelf_find : Binds K A.d_Shelf_find ["self", "key"] []
  F_Shelf_lay : Fun K "lay" "Shelf.lay" s_Shelf_lay A.a_Shelf_lay A.d_Shelf_lay
  b_Shelf_lay : Binds K A.d_Shelf_lay ["self", "key", "place"] []
  F_Shelf_mark_gone : Fun K "mark_gone" "Shelf.mark_gone" s_Shelf_mark_gone A.a_Shelf_mark_gone A.d_Shelf_mark_gone
  b_Shelf_mark_gone : Binds K A.d_Shelf_mark_gone ["self", "key", "place"] []
  F_Shelf_relay : Fun K "relay" "Shelf.relay" s_Shelf_relay A.a_Shelf_relay A.d_Shelf_relay
  b_Shelf_relay : Binds K A.d_Shelf_relay ["self"] []
  F_Shelf_put : Fun K "put" "Shelf.put" s_Shelf_put A.a_Shelf_put A.d_Shelf_put
  b_Shelf_put : Binds K A.d_Shelf_put ["self", "key", "value"] []
  F_Shelf_at : Fun K "at" "Shelf.at" s_Shelf_at A.a_Shelf_at A.d_Shelf_at
  b_Shelf_at : Binds K A.d_Shelf_at ["self", "key"] []
  F_Shelf_told : FunD K "told" "Shelf.told" (defArgs s_Shelf_told) (defBody s_Shelf_told) (defScope s_Shelf_told) [V.non] [] A.a_Shelf_told A.d_Shelf_told
  b_Shelf_told_2 : ∃ ds, Vals [V.non] ds ∧ Binds K A.d_Shelf_told ["self", "key", "other"] ds
  b_Shelf_told_3 : ∃ ds, Vals [] ds ∧ Binds K A.d_Shelf_told ["self", "key", "other"] ds
  F_Shelf_has : Fun K "has" "Shelf.has" s_Shelf_has A.a_Shelf_has A.d_Shelf_has
  b_Shelf_has : Binds K A.d_Shelf_has ["self", "key"] []
  F_Shelf_take : Fun K "take" "Shelf.take" s_Shelf_take A.a_Shelf_take A.d_Shelf_take
  b_Shelf_take : Binds K A.d_Shelf_take ["self", "key"] []
  F_Shelf_take_last : Fun K "take_last" "Shelf.take_last" s_Shelf_take_last A.a_Shelf_take_last A.d_Shelf_take_last
  b_Shelf_take_last : Binds K A.d_Shelf_take_last ["self"] []
  F_Shelf_emptied : Fun K "emptied" "Shelf.emptied" s_Shelf_emptied A.a_Shelf_emptied A.d_Shelf_emptied
  b_Shelf_emptied : Binds K A.d_Shelf_emptied ["self"] []
  F_Shelf_many : Fun K "many" "Shelf.many" s_Shelf_many A.a_Shelf_many A.d_Shelf_many
  b_Shelf_many : Binds K A.d_Shelf_many ["self"] []
  F_Shelf_pairs : Fun K "pairs" "Shelf.pairs" s_Shelf_pairs A.a_Shelf_pairs A.d_Shelf_pairs
  b_Shelf_pairs : Binds K A.d_Shelf_pairs ["self"] []
  F_Shelf_after : Fun K "after" "Shelf.after" s_Shelf_after A.a_Shelf_after A.d_Shelf_after
  b_Shelf_after : Binds K A.d_Shelf_after ["self", "number"] []
  F_Shelf_ahead : Fun K "ahead" "Shelf.ahead" s_Shelf_ahead A.a_Shelf_ahead A.d_Shelf_ahead
  b_Shelf_ahead : Binds K A.d_Shelf_ahead ["self", "number"] []
  F_Shelf_paper : Fun K "paper" "Shelf.paper" s_Shelf_paper A.a_Shelf_paper A.d_Shelf_paper
  b_Shelf_paper : Binds K A.d_Shelf_paper ["self", "key"] []
  F_Shelf_counts : Fun K "counts" "Shelf.counts" s_Shelf_counts A.a_Shelf_counts A.d_Shelf_counts
  b_Shelf_counts : Binds K A.d_Shelf_counts ["self"] []
  F_packed : Fun K "packed" "packed" s_packed A.a_packed A.d_packed
  b_packed : Binds K A.d_packed ["row", "beside"] []
  m_packed : mg "packed" = some (.ref A.a_packed)
  F_Table___init__ : Fun K "__init__" "Table.__init__" s_Table___init__ A.a_Table___init__ A.d_Table___init__
  b_Table___init__ : Binds K A.d_Table___init__ ["self"] []
  F_Table_make_room : Fun K "make_room" "Table.make_room" s_Table_make_room A.a_Table_make_room A.d_Table_make_room
  b_Table_make_room : Binds K A.d_Table_make_room ["self"] []
  F_Kin___init__ : Fun K "__init__" "Kin.__init__" s_Kin___init__ A.a_Kin___init__ A.d_Kin___init__
  b_Kin___init__ : Binds K A.d_Kin___init__ ["self", "maker"] []
  F_Kin_parted : Fun K "parted" "Kin.parted" s_Kin_parted A.a_Kin_parted A.d_Kin_parted
  b_Kin_parted : Binds K A.d_Kin_parted ["self"] []
  F_Kin_find : Fun K "find" "Kin.find" s_Kin_find A.a_Kin_find A.d_Kin_find
  b_Kin_find : Binds K A.d_Kin_find ["self", "key"] []
  F_Kin_lay : Fun K "lay" "Kin.lay" s_Kin_lay A.a_Kin_lay A.d_Kin_lay
  b_Kin_lay : Binds K A.d_Kin_lay ["self", "key", "place"] []
  F_Kin_mark_gone : Fun K "mark_gone" "Kin.mark_gone" s_Kin_mark_gone A.a_Kin_mark_gone A.d_Kin_mark_gone
  b_Kin_mark_gone : Binds K A.d_Kin_mark_gone ["self", "key", "place"] []
  F_Kin_relay : Fun K "relay" "Kin.relay" s_Kin_relay A.a_Kin_relay A.d_Kin_relay
  b_Kin_relay : Binds K A.d_Kin_relay ["self"] []
  F_Kin_paper : Fun K "paper" "Kin.paper" s_Kin_paper A.a_Kin_paper A.d_Kin_paper
  b_Kin_paper : Binds K A.d_Kin_paper ["self", "key"] []
  F_Maker___init__ : Fun K "__init__" "Maker.__init__" s_Maker___init__ A.a_Maker___init__ A.d_Maker___init__
  b_Maker___init__ : Binds K A.d_Maker___init__ ["self"] []
  F_Maker_number_of : Fun K "number_of" "Maker.number_of" s_Maker_number_of A.a_Maker_number_of A.d_Maker_number_of
  b_Maker_number_of : Binds K A.d_Maker_number_of ["self", "key"] []
  F_Maker_taken_in : Fun K "taken_in" "Maker.taken_in" s_Maker_taken_in A.a_Maker_taken_in A.d_Maker_taken_in
  b_Maker_taken_in : Binds K A.d_Maker_taken_in ["self", "key"] []
  F_Maker_paper : Fun K "paper" "Maker.paper" s_Maker_paper A.a_Maker_paper A.d_Maker_paper
  b_Maker_paper : Binds K A.d_Maker_paper ["self", "key"] []
  F_law_cell_at : Fun K "_law_cell_at" "_law_cell_at" s_law_cell_at A.a_law_cell_at A.d_law_cell_at
  b_law_cell_at : Binds K A.d_law_cell_at ["_law_script", "_law_k"] []
  m_law_cell_at : mg "_law_cell_at" = some (.ref A.a_law_cell_at)
  F_law_pool : Fun K "_law_pool" "_law_pool" s_law_pool A.a_law_pool A.d_law_pool
  b_law_pool : Binds K A.d_law_pool ["_law_cell"] []
  m_law_pool : mg "_law_pool" = some (.ref A.a_law_pool)
  F_law_alike : Fun K "_law_alike" "_law_alike" s_law_alike A.a_law_alike A.d_law_alike
  b_law_alike : Binds K A.d_law_alike ["_law_found_here", "_law_due"] []
  m_law_alike : mg "_law_alike" = some (.ref A.a_law_alike)
  F_law_value : Fun K "_law_value" "_law_value" s_law_value A.a_law_value A.d_law_value
  b_law_value : Binds K A.d_law_value ["_law_number"] []
  m_law_value : mg "_law_value" = some (.ref A.a_law_value)
  F_law_asked : Fun K "_law_asked" "_law_asked" s_law_asked A.a_law_asked A.d_law_asked
  b_law_asked : Binds K A.d_law_asked ["_law_book", "_law_way", "_law_key", "_law_number"] []
  m_law_asked : mg "_law_asked" = some (.ref A.a_law_asked)
  F_law_said : Fun K "_law_said" "_law_said" s_law_said A.a_law_said A.d_law_said
  b_law_said : Binds K A.d_law_said ["_law_book", "_law_way", "_law_key", "_law_number"] []
  m_law_said : mg "_law_said" = some (.ref A.a_law_said)
  F_law_both : Fun K "_law_both" "_law_both" s_law_both A.a_law_both A.d_law_both
  b_law_both : Binds K A.d_law_both ["_law_kin", "_law_book", "_law_way", "_law_key", "_law_number"] []
  m_law_both : mg "_law_both" = some (.ref A.a_law_both)
  F_law_turns : Fun K "_law_turns" "_law_turns" s_law_turns A.a_law_turns A.d_law_turns
  b_law_turns : Binds K A.d_law_turns ["_law_kin", "_law_book", "_law_key", "_law_many"] []
  m_law_turns : mg "_law_turns" = some (.ref A.a_law_turns)
  F_law_deed : Fun K "_law_deed" "_law_deed" s_law_deed A.a_law_deed A.d_law_deed
  b_law_deed : Binds K A.d_law_deed ["_law_kin", "_law_book", "_law_pool_here", "_law_number"] []
  m_law_deed : mg "_law_deed" = some (.ref A.a_law_deed)
  F_law_found : Fun K "_law_found" "_law_found" s_law_found A.a_law_found A.d_law_found
  b_law_found : Binds K A.d_law_found ["_law_kin", "_law_key"] []
  m_law_found : mg "_law_found" = some (.ref A.a_law_found)
  F_law_between : Fun K "_law_between" "_law_between" s_law_between A.a_law_between A.d_law_between
  b_law_between : Binds K A.d_law_between ["_law_maker", "_law_other", "_law_pool_here", "_law_number"] []
  m_law_between : mg "_law_between" = some (.ref A.a_law_between)
  F_law : Fun K "law" "law" s_law A.a_law A.d_law
  b_law : Binds K A.d_law ["_law_script"] []
  m_law : mg "law" = some (.ref A.a_law)
  m_paper_slots : mg "paper_slots" = some (.ref A.a_paper)
  cl_Shelf : Cls K A.c_Shelf
  m_Shelf : mg "Shelf" = some (.ref A.c_Shelf)
  na_Shelf_cells : NoAttr K A.c_Shelf "cells"
  na_Shelf_size : NoAttr K A.c_Shelf "size"
  na_Shelf_least : NoAttr K A.c_Shelf "least"
  na_Shelf_row : NoAttr K A.c_Shelf "row"
  na_Shelf_held : NoAttr K A.c_Shelf "held"
  na_Shelf_born : NoAttr K A.c_Shelf "born"
  na_Shelf_comings : NoAttr K A.c_Shelf "comings"
  na_Shelf_goings : NoAttr K A.c_Shelf "goings"
  na_Shelf_tidied : NoAttr K A.c_Shelf "tidied"
  na_Shelf_moved : NoAttr K A.c_Shelf "moved"
  mk_Shelf : Mk K A.c_Shelf A.a_Shelf___init__
  me_Shelf_find : Meth K A.c_Shelf "find" A.a_Shelf_find
  me_Shelf_lay : Meth K A.c_Shelf "lay" A.a_Shelf_lay
  me_Shelf_mark_gone : Meth K A.c_Shelf "mark_gone" A.a_Shelf_mark_gone
  me_Shelf_relay : Meth K A.c_Shelf "relay" A.a_Shelf_relay
  me_Shelf_put : Meth K A.c_Shelf "put" A.a_Shelf_put
  me_Shelf_at : Meth K A.c_Shelf "at" A.a_Shelf_at
  me_Shelf_told : Meth K A.c_Shelf "told" A.a_Shelf_told
  me_Shelf_has : Meth K A.c_Shelf "has" A.a_Shelf_has
  me_Shelf_take : Meth K A.c_Shelf "take" A.a_Shelf_take
  me_Shelf_take_last : Meth K A.c_Shelf "take_last" A.a_Shelf_take_last
  me_Shelf_emptied : Meth K A.c_Shelf "emptied" A.a_Shelf_emptied
  me_Shelf_many : Meth K A.c_Shelf "many" A.a_Shelf_many
  me_Shelf_pairs : Meth K A.c_Shelf "pairs" A.a_Shelf_pairs
  me_Shelf_after : Meth K A.c_Shelf "after" A.a_Shelf_after
  me_Shelf_ahead : Meth K A.c_Shelf "ahead" A.a_Shelf_ahead
  me_Shelf_paper : Meth K A.c_Shelf "paper" A.a_Shelf_paper
  me_Shelf_counts : Meth K A.c_Shelf "counts" A.a_Shelf_counts
  cl_Table : Cls K A.c_Table
  m_Table : mg "Table" = some (.ref A.c_Table)
  na_Table_cells : NoAttr K A.c_Table "cells"
  na_Table_size : NoAttr K A.c_Table "size"
  na_Table_least : NoAttr K A.c_Table "least"
  na_Table_row : NoAttr K A.c_Table "row"
  na_Table_held : NoAttr K A.c_Table "held"
  na_Table_born : NoAttr K A.c_Table "born"
  na_Table_comings : NoAttr K A.c_Table "comings"
  na_Table_goings : NoAttr K A.c_Table "goings"
  na_Table_tidied : NoAttr K A.c_Table "tidied"
  na_Table_moved : NoAttr K A.c_Table "moved"
  mk_Table : Mk K A.c_Table A.a_Table___init__
  me_Table_make_room : Meth K A.c_Table "make_room" A.a_Table_make_room
  me_Table_find : Meth K A.c_Table "find" A.a_Shelf_find
  me_Table_lay : Meth K A.c_Table "lay" A.a_Shelf_lay
  me_Table_mark_gone : Meth K A.c_Table "mark_gone" A.a_Shelf_mark_gone
  me_Table_relay : Meth K A.c_Table "relay" A.a_Shelf_relay
  me_Table_put : Meth K A.c_Table "put" A.a_Shelf_put
  me_Table_at : Meth K A.c_Table "at" A.a_Shelf_at
  me_Table_told : Meth K A.c_Table "told" A.a_Shelf_told
  me_Table_has : Meth K A.c_Table "has" A.a_Shelf_has
  me_Table_take : Meth K A.c_Table "take" A.a_Shelf_take
  me_Table_take_last : Meth K A.c_Table "take_last" A.a_Shelf_take_last
  me_Table_emptied : Meth K A.c_Table "emptied" A.a_Shelf_emptied
  me_Table_many : Meth K A.c_Table "many" A.a_Shelf_many
  me_Table_pairs : Meth K A.c_Table "pairs" A.a_Shelf_pairs
  me_Table_after : Meth K A.c_Table "after" A.a_Shelf_after
  me_Table_ahead : Meth K A.c_Table "ahead" A.a_Shelf_ahead
  me_Table_paper : Meth K A.c_Table "paper" A.a_Shelf_paper
  me_Table_counts : Meth K A.c_Table "counts" A.a_Shelf_counts
  cl_Kin : Cls K A.c_Kin
  m_Kin : mg "Kin" = some (.ref A.c_Kin)
  na_Kin_cells : NoAttr K A.c_Kin "cells"
  na_Kin_size : NoAttr K A.c_Kin "size"
  na_Kin_least : NoAttr K A.c_Kin "least"
  na_Kin_row : NoAttr K A.c_Kin "row"
  na_Kin_held : NoAttr K A.c_Kin "held"
  na_Kin_born : NoAttr K A.c_Kin "born"
  na_Kin_comings : NoAttr K A.c_Kin "comings"
  na_Kin_goings : NoAttr K A.c_Kin "goings"
  na_Kin_tidied : NoAttr K A.c_Kin "tidied"
  na_Kin_moved : NoAttr K A.c_Kin "moved"
  na_Kin_maker : NoAttr K A.c_Kin "maker"
  na_Kin_seats : NoAttr K A.c_Kin "seats"
  na_Kin_apart : NoAttr K A.c_Kin "apart"
  mk_Kin : Mk K A.c_Kin A.a_Kin___init__
  me_Kin_parted : Meth K A.c_Kin "parted" A.a_Kin_parted
  me_Kin_find : Meth K A.c_Kin "find" A.a_Kin_find
  me_Kin_lay : Meth K A.c_Kin "lay" A.a_Kin_lay
  me_Kin_mark_gone : Meth K A.c_Kin "mark_gone" A.a_Kin_mark_gone
  me_Kin_relay : Meth K A.c_Kin "relay" A.a_Kin_relay
  me_Kin_paper : Meth K A.c_Kin "paper" A.a_Kin_paper
  me_Kin_make_room : Meth K A.c_Kin "make_room" A.a_Table_make_room
  me_Kin_put : Meth K A.c_Kin "put" A.a_Shelf_put
  me_Kin_at : Meth K A.c_Kin "at" A.a_Shelf_at
  me_Kin_told : Meth K A.c_Kin "told" A.a_Shelf_told
  me_Kin_has : Meth K A.c_Kin "has" A.a_Shelf_has
  me_Kin_take : Meth K A.c_Kin "take" A.a_Shelf_take
  me_Kin_take_last : Meth K A.c_Kin "take_last" A.a_Shelf_take_last
  me_Kin_emptied : Meth K A.c_Kin "emptied" A.a_Shelf_emptied
  me_Kin_many : Meth K A.c_Kin "many" A.a_Shelf_many
  me_Kin_pairs : Meth K A.c_Kin "pairs" A.a_Shelf_pairs
  me_Kin_after : Meth K A.c_Kin "after" A.a_Shelf_after
  me_Kin_ahead : Meth K A.c_Kin "ahead" A.a_Shelf_ahead
  me_Kin_counts : Meth K A.c_Kin "counts" A.a_Shelf_counts
  cl_Maker : Cls K A.c_Maker
  m_Maker : mg "Maker" = some (.ref A.c_Maker)
  na_Maker_row : NoAttr K A.c_Maker "row"
  na_Maker_cells : NoAttr K A.c_Maker "cells"
  mk_Maker : Mk K A.c_Maker A.a_Maker___init__
  me_Maker_number_of : Meth K A.c_Maker "number_of" A.a_Maker_number_of
  me_Maker_taken_in : Meth K A.c_Maker "taken_in" A.a_Maker_taken_in
  me_Maker_paper : Meth K A.c_Maker "paper" A.a_Maker_paper
  cr_Shelf : ClX.CRead K A.c_Shelf (.type "type")
  cf_Shelf_init__ : PySem.W.findCls K (.ref A.c_Shelf) (.type "type") "__init__" = some (.val (.ref A.a_Shelf___init__))
  cr_Table : ClX.CRead K A.c_Table (.type "type")
  cf_Table_init__ : PySem.W.findCls K (.ref A.c_Table) (.type "type") "__init__" = some (.val (.ref A.a_Table___init__))
  of_Kin : C8.InsC K A.c_Kin
  ki_Kin_Table : PySem.W.kitOne K (.ref A.c_Kin) (.ref A.c_Table) = some true
  m_NoKey : mg "NoKey" = some (.ref A.c_NoKey)
  x_NoKey : PySem.W.excIn K A.c_NoKey [.type "ValueError", .type "Exception", .type "BaseException", .type "object"] "ValueError.__new__" = true
  k_NoKey : PySem.W.keepIn K (.ref A.c_NoKey) = true
  eb_NoKey : PySem.W.subIn K (.ref A.c_NoKey) (.type "BaseException") = some true
  et_NoKey : PySem.W.typeIn K (.ref A.c_NoKey) = some (.type "type")
  m_Lacking : mg "Lacking" = some (.ref A.c_Lacking)
  x_Lacking : PySem.W.excIn K A.c_Lacking [.type "ValueError", .type "Exception", .type "BaseException", .type "object"] "ValueError.__new__" = true
  k_Lacking : PySem.W.keepIn K (.ref A.c_Lacking) = true
  eb_Lacking : PySem.W.subIn K (.ref A.c_Lacking) (.type "BaseException") = some true
  et_Lacking : PySem.W.typeIn K (.ref A.c_Lacking) = some (.type "type")
  ec_Lacking : ExcC K A.c_Lacking
  ec_NoKey : ExcC K A.c_NoKey
  kx_Lacking_NoKey : PySem.W.kitOne K (.ref A.c_Lacking) (.ref A.c_NoKey) = some false
  kx_NoKey_ValueError : PySem.W.kitOne K (.ref A.c_NoKey) (.type "ValueError") = some true
  ex_Lacking_Lacking : PySem.W.exmOne K (.ref A.c_Lacking) (.ref A.c_Lacking) = some true
  ex_NoKey_Lacking : PySem.W.exmOne K (.ref A.c_NoKey) (.ref A.c_Lacking) = some false
  ex_NoKey_NoKey : PySem.W.exmOne K (.ref A.c_NoKey) (.ref A.c_NoKey) = some true
  g_FAR : mg "FAR" = some (.int 1000000000000000000000000000000000000000000000000000000000000 A.t_FAR)
  g_MOST_SIGNS : mg "MOST_SIGNS" = some (.int 60 A.t_MOST_SIGNS)
  g_MOST_PARTS : mg "MOST_PARTS" = some (.int 6 A.t_MOST_PARTS)
  g_DEEPEST : mg "DEEPEST" = some (.int 3 A.t_DEEPEST)
  g_LEAST : mg "LEAST" = some (.int 8 A.t_LEAST)
  g_GREATEST : mg "GREATEST" = some (.int 4096 A.t_GREATEST)
  g_TURN : mg "TURN" = some (.int 2147483647 A.t_TURN)
  g_EMPTY : mg "EMPTY" = some (.int (-1) A.t_EMPTY)
  g_GONE : mg "GONE" = some (.int (-2) A.t_GONE)
  g_SHARED : mg "SHARED" = some (.int 32 A.t_SHARED)
  n_ValueError : mg "ValueError" = none
  n_all : mg "all" = none
  n_bool : mg "bool" = none
  n_enumerate : mg "enumerate" = none
  n_int : mg "int" = none
  n_isinstance : mg "isinstance" = none
  n_len : mg "len" = none
  n_list : mg "list" = none
  n_ord : mg "ord" = none
  n_range : mg "range" = none
  n_str : mg "str" = none
  n_tuple : mg "tuple" = none
  n_zip : mg "zip" = none
theorem sc_stamp : FnScope ["key", "found", "sign", "part"] ["key"] (defScope s_stamp) := ⟨rfl, rfl, rfl, by decide +kernel, rfl, by decide +kernel, by decide +kernel⟩
theorem ok_stamp0 {P : Program} {w : World} {K : PySem.W.Frag} {mg : Str → Option Value} {base : Heap} {A : Ad} (T : Txt K mg A) : FnOk P w K mg base CX0 1 A.a_stamp A.d_stamp ["key"] (spStamp 0) := by
  refine T.F_stamp.ok sc_stamp (fun vs H Q E h => ?_) (fun cdv A' outer s H vs Q E hr h => ?_)
  · walk_at "spl"
  · have nd := sc_stamp.nd
    have hu := hu_of hr
    refine ⟨_, (pss_cons (ps_if (pt_val (pe_callB call_isiF rfl T.n_isinstance (by decide +kernel) (pa_cons (pv 0) (pa_cons (pe_bltn (v := .ty "int") rfl T.n_int (by decide +kernel) rfl) pa_nil)))) (pss_one (ps_ret (pe_op op_mod (pv 0) (pe_glob (v := .int 2147483647) rfl T.g_TURN ⟨_, rfl⟩)))) pss_nil) (pss_cons (ps_if (pt_val (pe_callB call_isiF rfl T.n_isinstance (by decide +kernel) (pa_cons (pv 0) (pa_cons (pe_bltn (v := .ty "str") rfl T.n_str (by decide +kernel) rfl) pa_nil)))) (pss_cons (ps_set (i := 1) nd rfl (Or.inl rfl) pe_int) (pss_cons (ps_for PassesOwn.never rfl (pi_str (pv 0)) (pg_name (i := 2) nd rfl (Or.inl rfl)) (pss_one (ps_set (i := 1) nd rfl (Or.inl rfl) (pe_op op_mod (pe_op op_add (pe_op op_mulX pe_int (pv 1)) (pe_callB call_ordq rfl T.n_ord (by decide +kernel) (pa_cons (pv 2) pa_nil))) (pe_glob (v := .int 2147483647) rfl T.g_TURN ⟨_, rfl⟩))))) (pss_one (ps_ret (pv 1))))) pss_nil) pss_never)), ?_⟩
    clear nd
    obtain ⟨v, y, rfl, hk, hd, k⟩ := h
    cases hk with
    | num i =>
      walk_at "rd"
      rw [Ky.stamp] at k
      exact k
    | txt x =>
      walk_at "rd"
      rw [Ky.stamp] at k
      refine go_it walk_str (fun i σ H' => ∃ v2 v3, σ = [some (.str x), some (.int (stampT (x.cps.toList.take i))), v2, v3] ∧ H' = H) ⟨_, _, rfl, rfl⟩ (fun _ _ _ _ _ => trivial) ?_ ?_
      · rintro N i v σ H' H2 hi ⟨v2, v3, rfl, rfl⟩ ⟨rfl, c, hc, rfl⟩ hN
        walk_at "rd"
        exact ⟨mulL (by decide) (by decide), hN _ _ ⟨_, _, by rw [stampT_step (by simpa using hc)], rfl⟩⟩
      · rintro σ H' ⟨v2, v3, rfl, rfl⟩
        walk_at "rd"
        rw [show x.cps.size = x.cps.toList.length by simp, List.take_length]
        exact k
    | tup h p => have := hd.2; rw [Ky.dep] at this; omega
    | _ => have := hd.1; simp [Ky.good] at this
theorem ok_stampS {P : Program} {w : World} {K : PySem.W.Frag} {mg : Str → Option Value} {base : Heap} {A : Ad} (T : Txt K mg A) {n : Nat} (G : FnOk P w K mg base CX0 (n + 1) A.a_stamp A.d_stamp ["key"] (spStamp n)) : FnOk P w K mg base CX0 (n + 1 + 1) A.a_stamp A.d_stamp ["key"] (spStamp (n + 1)) := by
  refine T.F_stamp.ok sc_stamp (fun vs H Q E h => ?_) (fun cdv A' outer s H vs Q E hr h => ?_)
  · walk_at "spl"
  · have nd := sc_stamp.nd
    have hu := hu_of hr
    refine ⟨_, (pss_cons (ps_if (pt_val (pe_callB call_isiF rfl T.n_isinstance (by decide +kernel) (pa_cons (pv 0) (pa_cons (pe_bltn (v := .ty "int") rfl T.n_int (by decide +kernel) rfl) pa_nil)))) (pss_one (ps_ret (pe_op op_mod (pv 0) (pe_glob (v := .int 2147483647) rfl T.g_TURN ⟨_, rfl⟩)))) pss_nil) (pss_cons (ps_if (pt_val (pe_callB call_isiF rfl T.n_isinstance (by decide +kernel) (pa_cons (pv 0) (pa_cons (pe_bltn (v := .ty "str") rfl T.n_str (by decide +kernel) rfl) pa_nil)))) (pss_cons (ps_set (i := 1) nd rfl (Or.inl rfl) pe_int) (pss_cons (ps_for PassesOwn.never rfl (pi_str (pv 0)) (pg_name (i := 2) nd rfl (Or.inl rfl)) (pss_one (ps_set (i := 1) nd rfl (Or.inl rfl) (pe_op op_mod (pe_op op_add (pe_op op_mulX pe_int (pv 1)) (pe_callB call_ordq rfl T.n_ord (by decide +kernel) (pa_cons (pv 2) pa_nil))) (pe_glob (v := .int 2147483647) rfl T.g_TURN ⟨_, rfl⟩))))) (pss_one (ps_ret (pv 1))))) pss_nil) (pss_cons (ps_set (i := 1) nd rfl (Or.inl rfl) pe_int) (pss_cons (ps_for PassesOwn.never rfl (pi_tup (pv 0)) (pg_name (i := 3) nd rfl (Or.inl rfl)) (pss_one (ps_set (i := 1) nd rfl (Or.inl rfl) (pe_op op_mod (pe_op op_xor (pe_op op_mulX pe_int (pv 1)) (pe_call G hr rfl T.m_stamp T.F_stamp.kp T.b_stamp .nil pass0 (pa_cons (pv 3) pa_nil))) (pe_glob (v := .int 2147483647) rfl T.g_TURN ⟨_, rfl⟩))))) (pss_one (ps_ret (pv 1))))))), ?_⟩
    clear nd
    obtain ⟨v, y, rfl, hk, hd, k⟩ := h
    cases hk with
    | num i =>
      walk_at "rd"
      rw [Ky.stamp] at k
      exact k
    | txt x =>
      walk_at "rd"
      rw [Ky.stamp] at k
      refine go_it walk_str (fun i σ H' => ∃ v2 v3, σ = [some (.str x), some (.int (stampT (x.cps.toList.take i))), v2, v3] ∧ H' = H) ⟨_, _, rfl, rfl⟩ (fun _ _ _ _ _ => trivial) ?_ ?_
      · rintro N i v σ H' H2 hi ⟨v2, v3, rfl, rfl⟩ ⟨rfl, c, hc, rfl⟩ hN
        walk_at "rd"
        exact ⟨mulL (by decide) (by decide), hN _ _ ⟨_, _, by rw [stampT_step (by simpa using hc)], rfl⟩⟩
      · rintro σ H' ⟨v2, v3, rfl, rfl⟩
        walk_at "rd"
        rw [show x.cps.size = x.cps.toList.length by simp, List.take_length]
        exact k
    | @tup a xs ks h p =>
      walk_at "rd"
      simp only [isi_tup_int h, isi_tup_str h]
      walk_at "rd"
      rw [Ky.stamp] at k
      rw [Ky.dep] at hd
      refine ⟨⟨_, SqT.of h⟩, go_tup (fun i σ H' => ∃ v2 v3, σ = [some (.ref a), some (.int (Ky.stamps 11 (ks.take i))), v2, v3] ∧ H' = H) ⟨_, _, rfl, rfl⟩ (fun i σ H' _ ⟨_, _, _, e⟩ => by rw [e]; exact SqT.of h) ?_ ?_⟩
      · rintro N i x σ H' hx ⟨v2, v3, rfl, rfl⟩ hN
        obtain ⟨y, hy, hv⟩ := p.get hx
        walk_at "rd"
        refine ⟨mulL (by decide) (by decide), y, hv, ⟨goods_get (by simpa [Ky.good] using hd.1) hy, ?_⟩, hN _ _ ⟨_, _, by rw [stamps_step 11 hy], rfl⟩⟩
        have := dep_of_mem hy
        have := hd.2
        omega
      · rintro σ H' ⟨v2, v3, rfl, rfl⟩
        walk_at "rd"
        rw [p.len, List.take_length]
        exact k
    | _ => have := hd.1; simp [Ky.good] at this
theorem ok_stamp {P : Program} {w : World} {K : PySem.W.Frag} {mg : Str → Option Value} {base : Heap} {A : Ad} (T : Txt K mg A) : ∀ n : Nat, FnOk P w K mg base CX0 (n + 1) A.a_stamp A.d_stamp ["key"] (spStamp n)
  | 0 => ok_stamp0 T
  | n + 1 => ok_stampS T (ok_stamp T n)
theorem sc_stride : FnScope ["stamp"] ["stamp"] (defScope s_stride) := ⟨rfl, rfl, rfl, by decide +kernel, rfl, by decide +kernel, by decide +kernel⟩
theorem ok_stride {P : Program} {w : World} {K : PySem.W.Frag} {mg : Str → Option Value} {base : Heap} {A : Ad} (T : Txt K mg A) : FnOk P w K mg base CX0 1 A.a_stride A.d_stride ["stamp"] (spI1 (fun _ => True) fun n => .int (strideF n)) := by
  refine T.F_stride.ok sc_stride (fun vs H Q E h => ?_) (fun cdv A' outer s H vs Q E hr h => ?_)
  · walk_at "spl"
  · have nd := sc_stride.nd
    have hu := hu_of hr
    refine ⟨_, (pss_one (ps_ret (pe_op op_or (pe_op op_shr (pv 0) pe_int) pe_int))), ?_⟩
    clear nd
    obtain ⟨n, rfl, -, k⟩ := h
    walk_at "rd"
    exact k
theorem sc_probe : FnScope ["stamp", "size", "count"] ["stamp", "size", "count"] (defScope s_probe) := ⟨rfl, rfl, rfl, by decide +kernel, rfl, by decide +kernel, by decide +kernel⟩
theorem ok_probe {P : Program} {w : World} {K : PySem.W.Frag} {mg : Str → Option Value} {base : Heap} {A : Ad} (T : Txt K mg A) : FnOk P w K mg base CX0 2 A.a_probe A.d_probe ["stamp", "size", "count"] (spI3 (fun _ _ c => -(2 ^ 64) < c ∧ c < 2 ^ 64) fun m s c => .int (probeF m s c)) := by
  refine T.F_probe.ok sc_probe (fun vs H Q E h => ?_) (fun cdv A' outer s H vs Q E hr h => ?_)
  · walk_at "spl"
  · have nd := sc_probe.nd
    have hu := hu_of hr
    refine ⟨_, (pss_one (ps_ret (pe_op op_and (pe_op op_add (pv 0) (pe_op op_mulX (pv 2) (pe_call (ok_stride (P := P) (w := w) T) (hr.mono (by decide)) rfl T.m_stride T.F_stride.kp T.b_stride .nil pass0 (pa_cons (pv 0) pa_nil)))) (pe_op op_sub (pv 1) pe_int)))), ?_⟩
    clear nd
    obtain ⟨m, z, c, rfl, hc, k⟩ := h
    walk_at "rd"
    exact ⟨mulL hc.1 hc.2, k⟩
theorem sc_law_cell_at : FnScope ["_law_script", "_law_k"] ["_law_script", "_law_k"] (defScope s_law_cell_at) := ⟨rfl, rfl, rfl, by decide +kernel, rfl, by decide +kernel, by decide +kernel⟩
theorem ok_law_cell_at {P : Program} {w : World} {K : PySem.W.Frag} {mg : Str → Option Value} {base : Heap} {A : Ad} (T : Txt K mg A) : FnOk P w K mg base CX0 1 A.a_law_cell_at A.d_law_cell_at ["_law_script", "_law_k"] (My.spCell K) := by
  refine T.F_law_cell_at.ok sc_law_cell_at (fun vs H Q E h => ?_) (fun cdv A' outer s H vs Q E hr h => ?_)
  · walk_at "spl"
  · have nd := sc_law_cell_at.nd
    have hu := hu_of hr
    refine ⟨_, (pss_cons (ps_if (pt_cmpR op_lt (pv 1) (pe_callB call_lenU rfl T.n_len PySem.boot_len (pa_cons (pv 0) pa_nil)) (nomark _)) (pss_one (ps_ret (pe_ix ix_list (pv 0) (pv 1) (fun _ _ => rfl)))) pss_nil) (pss_one (ps_ret pe_int))), ?_⟩
    clear nd
    obtain ⟨a, ns, i, rfl, hS, hi, k⟩ := h
    walk_at "rd"
    refine ⟨_, .inl hS, ?_⟩
    rw [List.length_map]
    split
    · rename_i c
      exact ⟨_, _, hS, at_int hi c, k⟩
    · rename_i c
      have e : getI ns i = 0 := by
        unfold getI
        rw [List.getD_eq_getElem?_getD, List.getElem?_eq_none_iff.mpr (by omega)]
        rfl
      rw [e] at k
      exact k

end Law
namespace Law
open PySem PySem.Spec PyProof.Rows L2 My
theorem sc_is_within : FnScope ["thing", "deep", "part"] ["thing", "deep"] (defScope s_is_within) := ⟨rfl, rfl, rfl, by decide +kernel, rfl, by decide +kernel, by decide +kernel⟩
theorem ok_is_within0 {P : Program} {w : World} {K : PySem.W.Frag} {mg : Str → Option Value} {base : Heap} {A : Ad} (T : Txt K mg A) : FnOk P w K mg base CX0 1 A.a_is_within A.d_is_within ["thing", "deep"] (spWithin 0) := by
  refine T.F_is_within.ok sc_is_within (fun vs H Q E h => ?_) (fun cdv A' outer s H vs Q E hr h => ?_)
  · exact len_within h
  · have nd := sc_is_within.nd
    have hu := hu_of hr
    refine ⟨_, (pss_cons (ps_if (pt_val (pe_callB call_isiF rfl T.n_isinstance (by decide +kernel) (pa_cons (pv 0) (pa_cons (pe_bltn (v := .ty "bool") rfl T.n_bool (by decide +kernel) rfl) pa_nil)))) (pss_one (ps_ret pe_bl)) pss_nil) (pss_cons (ps_if (pt_val (pe_callB call_isiF rfl T.n_isinstance (by decide +kernel) (pa_cons (pv 0) (pa_cons (pe_bltn (v := .ty "int") rfl T.n_int (by decide +kernel) rfl) pa_nil)))) (pss_one (ps_ret (pe_chain op_lt op_lt (pe_un un_neg (pe_glob (v := .int 1000000000000000000000000000000000000000000000000000000000000) rfl T.g_FAR ⟨_, rfl⟩)) (pv 0) (pe_glob (v := .int 1000000000000000000000000000000000000000000000000000000000000) rfl T.g_FAR ⟨_, rfl⟩)))) pss_nil) (pss_cons (ps_if (pt_val (pe_callB call_isiF rfl T.n_isinstance (by decide +kernel) (pa_cons (pv 0) (pa_cons (pe_bltn (v := .ty "str") rfl T.n_str (by decide +kernel) rfl) pa_nil)))) (pss_one (ps_ret (pe_cmpR op_le (pe_callB call_lenU rfl T.n_len PySem.boot_len (pa_cons (pv 0) pa_nil)) (pe_glob (v := .int 60) rfl T.g_MOST_SIGNS ⟨_, rfl⟩) (nomark _)))) pss_nil) (pss_cons (ps_if (PW.pt (pw_or (pt_not (pt_val (pe_callB call_isiF rfl T.n_isinstance (by decide +kernel) (pa_cons (pv 0) (pa_cons (pe_bltn (v := .ty "tuple") rfl T.n_tuple (by decide +kernel) rfl) pa_nil))))) (pw_or (pt_cmpR op_eq (pv 1) pe_int (nomark _)) (pw_or1 (pt_cmpR op_gt (pe_callB call_lenU rfl T.n_len PySem.boot_len (pa_cons (pv 0) pa_nil)) (pe_glob (v := .int 6) rfl T.g_MOST_PARTS ⟨_, rfl⟩) (nomark _)))))) (pss_one (ps_ret pe_bl)) pss_nil) pss_never)))), ?_⟩
    clear nd
    obtain ⟨v, y, d, rfl, hk, hd, k⟩ := h
    cases hk with
    | num i =>
      walk_at "rd"
      simp only [within] at k
      refine iteB (fun c => ?_) fun c => ?_
      · rw [show decide (-(10 : Int) ^ 60 < i ∧ i < 10 ^ 60) = decide (i < 1000000000000000000000000000000000000000000000000000000000000) from by
          rw [decide_eq_decide]
          exact ⟨fun h => by omega, fun h => by omega⟩] at k
        exact k
      · rw [decide_eq_false (by omega)] at k
        exact k
    | txt x =>
      walk_at "rd"
      simp only [within] at k
      refine ⟨by have := hd.1; simp only [Ky.fit] at this; rw [sizeLine_eq]; exact of_decide_eq_true this, ?_⟩
      rw [show decide (x.length ≤ 60) = decide ((x.length : Int) ≤ 60) from by
        rw [decide_eq_decide]
        omega] at k
      exact k
    | bl b => walk_at "rd"; simpa [within] using k
    | non => walk_at "rd"; simpa [within] using k
    | lst h => walk_at "rd"; simp only [isi_lst_bool h, isi_lst_int h, isi_lst_str h, isi_lst_tuple h]; walk_at "rd"; simpa [within] using k
    | dct h => walk_at "rd"; simp only [isi_dK_bool h, isi_dK_int h, isi_dK_str h, isi_dK_tuple h]; walk_at "rd"; simpa [within] using k
    | tup h p =>
      have e : d = 0 := by omega
      subst e
      walk_at "rd"
      simp only [isi_tup_bool h, isi_tup_int h, isi_tup_str h, isi_tup_tuple h]
      walk_at "rd"
      simp only [within] at k
      exact k
theorem ok_is_withinS {P : Program} {w : World} {K : PySem.W.Frag} {mg : Str → Option Value} {base : Heap} {A : Ad} (T : Txt K mg A) {n : Nat} (G : FnOk P w K mg base CX0 (n + 1) A.a_is_within A.d_is_within ["thing", "deep"] (spWithin n)) : FnOk P w K mg base CX0 (n + 1 + 1) A.a_is_within A.d_is_within ["thing", "deep"] (spWithin (n + 1)) := by
  refine T.F_is_within.ok sc_is_within (fun vs H Q E h => ?_) (fun cdv A' outer s H vs Q E hr h => ?_)
  · exact len_within h
  · have nd := sc_is_within.nd
    have hu := hu_of hr
    refine ⟨_, (pss_cons (ps_if (pt_val (pe_callB call_isiF rfl T.n_isinstance (by decide +kernel) (pa_cons (pv 0) (pa_cons (pe_bltn (v := .ty "bool") rfl T.n_bool (by decide +kernel) rfl) pa_nil)))) (pss_one (ps_ret pe_bl)) pss_nil) (pss_cons (ps_if (pt_val (pe_callB call_isiF rfl T.n_isinstance (by decide +kernel) (pa_cons (pv 0) (pa_cons (pe_bltn (v := .ty "int") rfl T.n_int (by decide +kernel) rfl) pa_nil)))) (pss_one (ps_ret (pe_chain op_lt op_lt (pe_un un_neg (pe_glob (v := .int 1000000000000000000000000000000000000000000000000000000000000) rfl T.g_FAR ⟨_, rfl⟩)) (pv 0) (pe_glob (v := .int 1000000000000000000000000000000000000000000000000000000000000) rfl T.g_FAR ⟨_, rfl⟩)))) pss_nil) (pss_cons (ps_if (pt_val (pe_callB call_isiF rfl T.n_isinstance (by decide +kernel) (pa_cons (pv 0) (pa_cons (pe_bltn (v := .ty "str") rfl T.n_str (by decide +kernel) rfl) pa_nil)))) (pss_one (ps_ret (pe_cmpR op_le (pe_callB call_lenU rfl T.n_len PySem.boot_len (pa_cons (pv 0) pa_nil)) (pe_glob (v := .int 60) rfl T.g_MOST_SIGNS ⟨_, rfl⟩) (nomark _)))) pss_nil) (pss_cons (ps_if (PW.pt (pw_or (pt_not (pt_val (pe_callB call_isiF rfl T.n_isinstance (by decide +kernel) (pa_cons (pv 0) (pa_cons (pe_bltn (v := .ty "tuple") rfl T.n_tuple (by decide +kernel) rfl) pa_nil))))) (pw_or (pt_cmpR op_eq (pv 1) pe_int (nomark _)) (pw_or1 (pt_cmpR op_gt (pe_callB call_lenU rfl T.n_len PySem.boot_len (pa_cons (pv 0) pa_nil)) (pe_glob (v := .int 6) rfl T.g_MOST_PARTS ⟨_, rfl⟩) (nomark _)))))) (pss_one (ps_ret pe_bl)) pss_nil) (pss_cons (ps_for PassesOwn.never rfl (pi_tup (pv 0)) (pg_name (i := 2) nd rfl (Or.inl rfl)) (pss_one (ps_if (pt_not (pt_val (pe_call G hr rfl T.m_is_within T.F_is_within.kp T.b_is_within .nil pass0 (pa_cons (pv 2) (pa_cons (pe_op op_sub (pv 1) pe_int) pa_nil))))) (pss_one (ps_ret pe_bl)) pss_nil))) (pss_one (ps_ret pe_bl))))))), ?_⟩
    clear nd
    obtain ⟨v, y, d, rfl, hk, hd, k⟩ := h
    cases hk with
    | num i =>
      walk_at "rd"
      simp only [within] at k
      refine iteB (fun c => ?_) fun c => ?_
      · rw [show decide (-(10 : Int) ^ 60 < i ∧ i < 10 ^ 60) = decide (i < 1000000000000000000000000000000000000000000000000000000000000) from by
          rw [decide_eq_decide]
          exact ⟨fun h => by omega, fun h => by omega⟩] at k
        exact k
      · rw [decide_eq_false (by omega)] at k
        exact k
    | txt x =>
      walk_at "rd"
      simp only [within] at k
      refine ⟨by have := hd.1; simp only [Ky.fit] at this; rw [sizeLine_eq]; exact of_decide_eq_true this, ?_⟩
      rw [show decide (x.length ≤ 60) = decide ((x.length : Int) ≤ 60) from by
        rw [decide_eq_decide]
        omega] at k
      exact k
    | bl b => walk_at "rd"; simpa [within] using k
    | non => walk_at "rd"; simpa [within] using k
    | lst h => walk_at "rd"; simp only [isi_lst_bool h, isi_lst_int h, isi_lst_str h, isi_lst_tuple h]; walk_at "rd"; simpa [within] using k
    | dct h => walk_at "rd"; simp only [isi_dK_bool h, isi_dK_int h, isi_dK_str h, isi_dK_tuple h]; walk_at "rd"; simpa [within] using k
    | @tup a xs ks h p =>
      walk_at "rd"
      simp only [isi_tup_bool h, isi_tup_int h, isi_tup_str h, isi_tup_tuple h]
      walk_at "rd"
      have kf : Ky.fits ks = true := by simpa [Ky.fit] using hd.1
      cases d with
      | zero =>
        simp only [within] at k
        exact iteP rfl k
      | succ d =>
        simp only [within] at k
        refine iteN (by omega) ⟨_, .inr (SqT.of h), ?_⟩
        rw [p.len]
        refine iteB (fun c => ?_) fun c => ⟨⟨_, SqT.of h⟩, go_tup (fun i σ H' => ∃ v2, σ = [some (.ref a), some (.int ((d + 1 : Nat) : Int)), v2] ∧ H' = H ∧ (ks.take i).all (within d) = true) ⟨_, rfl, rfl, rfl⟩ (fun i σ H' _ ⟨_, _, e, _⟩ => by rw [e]; exact SqT.of h) ?_ ?_⟩
        · rw [decide_eq_false (by omega), Bool.false_and] at k
          exact k
        · rintro N i x σ H' hx ⟨v2, rfl, rfl, hi⟩ hN
          obtain ⟨y, hy, hv⟩ := p.get hx
          walk_at "rd"
          refine ⟨x, y, d, by rw [show (((d + 1 : Nat) : Int) - 1) = (d : Int) by omega], hv, ⟨fits_get kf hy, by have := hd.2; omega⟩, ?_⟩
          obtain ⟨hi1, e1⟩ := List.getElem?_eq_some_iff.mp hy
          have et : (ks.take (i + 1)).all (within d) = within d y := by
            rw [List.take_succ_eq_append_getElem hi1, List.all_append, hi, e1]
            simp
          walk_at "rd"
          refine iteB (fun c2 => ?_) fun c2 => hN _ _ ⟨_, rfl, rfl, ?_⟩
          · have ef : ks.all (within d) = false := by
              rw [List.all_eq_false]
              exact ⟨y, List.mem_of_getElem? hy, by simp [c2]⟩
            rw [ef, Bool.and_false] at k
            exact k
          · rw [et]
            simpa using c2
        · rintro σ H' ⟨v2, rfl, rfl, hi⟩
          walk_at "rd"
          rw [p.len, List.take_length] at hi
          rw [hi, decide_eq_true (by omega), Bool.and_true] at k
          exact k
theorem ok_is_within {P : Program} {w : World} {K : PySem.W.Frag} {mg : Str → Option Value} {base : Heap} {A : Ad} (T : Txt K mg A) : ∀ n : Nat, FnOk P w K mg base CX0 (n + 1) A.a_is_within A.d_is_within ["thing", "deep"] (spWithin n)
  | 0 => ok_is_within0 T
  | n + 1 => ok_is_withinS T (ok_is_within T n)
theorem sc_is_key : FnScope ["thing"] ["thing"] (defScope s_is_key) := ⟨rfl, rfl, rfl, by decide +kernel, rfl, by decide +kernel, by decide +kernel⟩
theorem ok_is_key {P : Program} {w : World} {K : PySem.W.Frag} {mg : Str → Option Value} {base : Heap} {A : Ad} (T : Txt K mg A) : FnOk P w K mg base CX0 5 A.a_is_key A.d_is_key ["thing"] spKeyB := by
  refine T.F_is_key.ok sc_is_key (fun vs H Q E h => ?_) (fun cdv A' outer s H vs Q E hr h => ?_)
  · exact len_keyB h
  · have nd := sc_is_key.nd
    have hu := hu_of hr
    refine ⟨_, (pss_one (ps_ret (pe_call (ok_is_within T 3) (hr.mono (by decide)) rfl T.m_is_within T.F_is_within.kp T.b_is_within .nil pass0 (pa_cons (pv 0) (pa_cons (pe_glob (v := .int 3) rfl T.g_DEEPEST ⟨_, rfl⟩) pa_nil))))), ?_⟩
    clear nd
    obtain ⟨v, y, rfl, hk, hd, k⟩ := h
    walk_at "rd"
    exact ⟨v, y, 3, rfl, hk, ⟨hd, Nat.le_refl _⟩, k⟩
theorem sc_is_size : FnScope ["thing"] ["thing"] (defScope s_is_size) := ⟨rfl, rfl, rfl, by decide +kernel, rfl, by decide +kernel, by decide +kernel⟩
theorem ok_is_size {P : Program} {w : World} {K : PySem.W.Frag} {mg : Str → Option Value} {base : Heap} {A : Ad} (T : Txt K mg A) : FnOk P w K mg base CX0 1 A.a_is_size A.d_is_size ["thing"] (spI1 (fun _ => True) fun n => .bl (sizeB n)) := by
  refine T.F_is_size.ok sc_is_size (fun vs H Q E h => ?_) (fun cdv A' outer s H vs Q E hr h => ?_)
  · walk_at "spl"
  · have nd := sc_is_size.nd
    have hu := hu_of hr
    refine ⟨_, (pss_cons (ps_if (PW.pt (pw_or (pt_not (pt_val (pe_callB call_isiF rfl T.n_isinstance (by decide +kernel) (pa_cons (pv 0) (pa_cons (pe_bltn (v := .ty "int") rfl T.n_int (by decide +kernel) rfl) pa_nil))))) (pw_or1 (pt_val (pe_callB call_isiF rfl T.n_isinstance (by decide +kernel) (pa_cons (pv 0) (pa_cons (pe_bltn (v := .ty "bool") rfl T.n_bool (by decide +kernel) rfl) pa_nil))))))) (pss_one (ps_ret pe_bl)) pss_nil) (pss_one (ps_ret (pe_and (pe_chain op_le op_le (pe_glob (v := .int 8) rfl T.g_LEAST ⟨_, rfl⟩) (pv 0) (pe_glob (v := .int 4096) rfl T.g_GREATEST ⟨_, rfl⟩)) (pe_one (pe_cmpR op_eq (pe_op op_and (pv 0) (pe_op op_sub (pv 0) pe_int)) pe_int (nomark _))))))), ?_⟩
    clear nd
    obtain ⟨n, rfl, -, k⟩ := h
    walk_at "rd"
    have e : ∀ b : Bool, b = sizeB n → Q (.bl b) H := fun b h => by rw [h]; exact k
    refine iteB (fun c1 => iteB (fun c2 => e _ ?_) fun c2 => e _ ?_) fun c1 => e _ ?_
    · unfold sizeB
      rw [decide_eq_true (show 8 ≤ n ∧ n ≤ 4096 from ⟨c1, c2⟩), Bool.true_and]
    · unfold sizeB
      rw [decide_eq_false (show ¬(8 ≤ n ∧ n ≤ 4096) from fun c => c2 c.2), Bool.false_and]
    · unfold sizeB
      rw [decide_eq_false (show ¬(8 ≤ n ∧ n ≤ 4096) from fun c => c1 c.1), Bool.false_and]
theorem sc_room : FnScope ["size"] ["size"] (defScope s_room) := ⟨rfl, rfl, rfl, by decide +kernel, rfl, by decide +kernel, by decide +kernel⟩
theorem ok_room {P : Program} {w : World} {K : PySem.W.Frag} {mg : Str → Option Value} {base : Heap} {A : Ad} (T : Txt K mg A) : FnOk P w K mg base CX0 1 A.a_room A.d_room ["size"] (spI1 (fun _ => True) fun n => .int (2 * n / 3)) := by
  refine T.F_room.ok sc_room (fun vs H Q E h => ?_) (fun cdv A' outer s H vs Q E hr h => ?_)
  · walk_at "spl"
  · have nd := sc_room.nd
    have hu := hu_of hr
    refine ⟨_, (pss_one (ps_ret (pe_op op_fdivW (pe_op op_mulX pe_int (pv 0)) pe_int))), ?_⟩
    clear nd
    obtain ⟨n, rfl, -, k⟩ := h
    walk_at "rd"
    exact ⟨by walk_at "side", by walk_at "side", k⟩
theorem sc_first_bare : FnScope ["cells", "key", "mark", "slot", "count"] ["cells", "key"] (defScope s_first_bare) := ⟨rfl, rfl, rfl, by decide +kernel, rfl, by decide +kernel, by decide +kernel⟩
theorem ok_first_bare {P : Program} {w : World} {K : PySem.W.Frag} {mg : Str → Option Value} {base : Heap} {A : Ad} (T : Txt K mg A) : FnOk P w K mg base CX0 5 A.a_first_bare A.d_first_bare ["cells", "key"] (spBare K) := by
  refine T.F_first_bare.ok sc_first_bare (fun vs H Q E h => ?_) (fun cdv A' outer s H vs Q E hr h => ?_)
  · walk_at "spl"
  · have nd := sc_first_bare.nd
    have hu := hu_of hr
    refine ⟨_, (pss_cons (ps_set (i := 2) nd rfl (Or.inl rfl) (pe_call (ok_stamp T 3) (hr.mono (by decide)) rfl T.m_stamp T.F_stamp.kp T.b_stamp .nil pass0 (pa_cons (pv 1) pa_nil))) (pss_cons (ps_set (i := 3) nd rfl (Or.inl rfl) (pe_call (ok_probe (P := P) (w := w) T) (hr.mono (by decide)) rfl T.m_probe T.F_probe.kp T.b_probe .nil pass0 (pa_cons (pv 2) (pa_cons (pe_callB call_lenU rfl T.n_len PySem.boot_len (pa_cons (pv 0) pa_nil)) (pa_cons pe_int pa_nil))))) (pss_cons (ps_set (i := 4) nd rfl (Or.inl rfl) pe_int) (pss_cons (ps_while PassesOwn.never (pt_cmpR op_ne (pe_ix ix_list (pv 0) (pv 3) (fun _ _ => rfl)) (pe_glob (v := .int (-1)) rfl T.g_EMPTY ⟨_, rfl⟩) (nomark _)) (pss_cons (ps_aug (i := 4) nd rfl (Or.inl rfl) pe_int ip_add) (pss_one (ps_set (i := 3) nd rfl (Or.inl rfl) (pe_call (ok_probe (P := P) (w := w) T) (hr.mono (by decide)) rfl T.m_probe T.F_probe.kp T.b_probe .nil pass0 (pa_cons (pv 2) (pa_cons (pe_callB call_lenU rfl T.n_len PySem.boot_len (pa_cons (pv 0) pa_nil)) (pa_cons (pv 4) pa_nil)))))))) (pss_one (ps_ret (pv 3))))))), ?_⟩
    clear nd
    obtain ⟨a, v, cs, y, j, rfl, hS, hy, hg, ⟨hl, hj, hm⟩, k⟩ := h
    walk_at "rd"
    have hb := bare_ex y.stamp hj hl hm
    refine ⟨y, hy, hg, _, .inl hS, ?_⟩
    rw [List.length_map, hl, pow_cast]
    refine go_while (fun σ H' => ∃ c : Nat, σ = [some (.ref a), some v, some (.int y.stamp), some (.int (probeF y.stamp (2 ^ j) (c : Int))), some (.int c)] ∧ H' = H ∧ c ≤ bareN cs j y.stamp) (fun σ _ => match σ with | [_, _, _, _, some (.int c)] => bareN cs j y.stamp - c.toNat | _ => 0) ⟨0, rfl, rfl, Nat.zero_le _⟩ ?_
    rintro B σ H' ⟨c, rfl, rfl, hc⟩ hB
    obtain ⟨r0, r1⟩ := probe_range y.stamp c hj
    have pc := pow_cast j
    walk_at "rd"
    refine ⟨_, _, hS, at_int r0 (by omega), ?_⟩
    walk_at "rd"
    refine iteB (fun c1 => ?_) fun c1 => ?_
    · refine hB _ fun N hN => ?_
      walk_at "rd"
      have hlt : c < bareN cs j y.stamp := by
        rcases Nat.lt_or_ge c (bareN cs j y.stamp) with h | h
        · exact h
        · have e : c = bareN cs j y.stamp := by omega
          rw [e] at c1
          exact absurd hb.2.1 c1
      have hb1 := hb.1
      have j12 := (pow_le hj).2
      refine ⟨_, .inl hS, ?_⟩
      rw [List.length_map, hl, pow_cast]
      refine ⟨⟨by omega, ?_⟩, hN _ _ ⟨c + 1, by rw [Int.natCast_add]; rfl, rfl, by omega⟩ ?_⟩
      · simp at j12
        omega
      · dsimp only
        omega
    · have e : c = bareN cs j y.stamp := Bare.uniq ⟨by have := hb.1; omega, by simpa using c1, fun i hi => hb.2.2 i (by omega)⟩ hb
      rw [e]
      exact k
theorem sc_cells_of : FnScope ["row", "size", "cells", "place", "key"] ["row", "size"] (defScope s_cells_of) := ⟨rfl, rfl, rfl, by decide +kernel, rfl, by decide +kernel, by decide +kernel⟩
theorem ok_cells_of {P : Program} {w : World} {K : PySem.W.Frag} {mg : Str → Option Value} {base : Heap} {A : Ad} (T : Txt K mg A) : FnOk P w K mg base CX0 6 A.a_cells_of A.d_cells_of ["row", "size"] (spCellsOf K) := by
  refine T.F_cells_of.ok sc_cells_of (fun vs H Q E h => ?_) (fun cdv A' outer s H vs Q E hr h => ?_)
  · walk_at "spl"
  · have nd := sc_cells_of.nd
    have hu := hu_of hr
    refine ⟨_, (pss_cons (ps_if (pt_not (pt_val (pe_call (ok_is_size (P := P) (w := w) T) (hr.mono (by decide)) rfl T.m_is_size T.F_is_size.kp T.b_is_size .nil pass0 (pa_cons (pv 1) pa_nil)))) (pss_one ps_never) pss_nil) (pss_cons (ps_if (pt_cmpR op_gt (pe_callB call_lenU rfl T.n_len PySem.boot_len (pa_cons (pv 0) pa_nil)) (pe_call (ok_room (P := P) (w := w) T) (hr.mono (by decide)) rfl T.m_room T.F_room.kp T.b_room .nil pass0 (pa_cons (pv 1) pa_nil)) (nomark _)) (pss_one ps_never) pss_nil) (pss_cons (ps_set (i := 2) nd rfl (Or.inl rfl) (pe_op op_rep (pe_lst (pa_cons (pe_glob (v := .int (-1)) rfl T.g_EMPTY ⟨_, rfl⟩) pa_nil)) (pv 1))) (pss_cons (ps_for PassesOwn.never rfl (pi_enum rfl T.n_enumerate (pa_cons (pv 0) pa_nil)) (pg_tup (n := 2) rfl (pgs_cons (pg_name (i := 3) nd rfl (Or.inl rfl)) (pgs_cons (pg_name (i := 4) nd rfl (Or.inl rfl)) pgs_nil))) (pss_one (ps_if (pt_cmpR op_notN (pv 4) pe_non (nomark _)) (pss_one (ps_asg (pv 3) (pg_sub (pv 2) (pe_call (ok_first_bare (P := P) (w := w) T) (hr.mono (by decide)) rfl T.m_first_bare T.F_first_bare.kp T.b_first_bare .nil pass0 (pa_cons (pv 2) (pa_cons (pv 4) pa_nil))) set_list))) pss_nil))) (pss_one (ps_ret (pv 2))))))), ?_⟩
    clear nd
    obtain ⟨a, ws, ks, j, rfl, hS, hks, hR, ⟨hj3, hj, hn⟩, k⟩ := h
    walk_at "rd"
    have hw := KysAt.len hks
    obtain ⟨p0, p1⟩ := pow_le hj
    have pc := pow_cast j
    have hz : ks.length < 2 ^ j := by omega
    rw [sizeB_pow hj3 hj]
    walk_at "rd"
    refine ⟨_, .inl hS, iteN (by omega) ⟨by walk_at "sz", fun p hp => ⟨_, upd_same, by omega, by simp at p1; omega, ?_, fun q hq => ⟨⟨_, by walk_at "sq"⟩, ?_⟩⟩⟩⟩
    · rw [sizeLine_eq]; simp at p1; simp only [List.length_cons, List.length_nil]; omega
    have e0 : (List.replicate (2 ^ j : Int).toNat [V.int (-1)]).flatten = (layN j ks 0).map V.int := by
      rw [← pc, Int.toNat_natCast, layN, List.map_replicate]
      generalize 2 ^ j = n
      induction n with
      | zero => rfl
      | succ n ih => rw [List.replicate_succ, List.flatten_cons, ih]; rfl
    rw [e0]
    have hla : ∀ i : Nat, i ≤ ks.length → Laid ks j i (layN j ks i) := laid_at hj hz
    refine go_enum (xs := ws) (fun i σ H' => ∃ v3 v4, σ = [some (.ref a), some (.int (2 ^ j)), some (.ref q), v3, v4] ∧ Same H H' ∧ H' q = some (.lst ((layN j ks i).map V.int))) ⟨_, _, rfl, by walk_at "same", upd_same⟩ (fun i σ H' _ ⟨_, _, _, s, _⟩ => s.seq hS) ?_ ?_
    · rintro N i x σ H' T hx ⟨v3, v4, rfl, sm, hL⟩ hT hN
      obtain ⟨y, hy, hv⟩ := hks.get hx
      have hv' : KyAt H' x y := hv.same sm _ _
      have hi : i < ks.length := (List.getElem?_eq_some_iff.mp hy).1
      have es := layN_step (j := j) hy
      walk_at "rd"
      refine ⟨_, SqT.of upd_same, rfl, ?_⟩
      walk_at "rd"
      have sT : Same H (upd H' T (.tup [V.int i, x])) := Same_upd sm hT
      have hLT : upd H' T (.tup [V.int i, x]) q = some (.lst ((layN j ks i).map V.int)) := Same_upd (Same.refl _) hT _ _ hL
      have hvT : KyAt (upd H' T (.tup [V.int i, x])) x y := hv.same sT _ _
      generalize upd H' T (.tup [V.int i, x]) = H3 at sT hLT hvT ⊢
      refine iteB (fun c => ?_) fun c => ?_
      · have yn : y ≠ .non := fun e => c (hv.ne_non.mpr e)
        have yk := (hR.get hy).resolve_left yn
        have L := hla i (by omega)
        refine ⟨_, y, j, SqL.of hLT, hvT, ⟨yk.g, yk.d⟩, ⟨L.len, hj, L.mem (by omega)⟩, ?_⟩
        obtain ⟨r0, r1⟩ := probe_range y.stamp (bareN (layN j ks i) j y.stamp) hj
        have hlen := L.len
        refine ⟨_, _, hLT, ixN_nat r0 (by rw [List.length_map, hlen]; omega), hN _ _ ⟨_, _, rfl, Same_upd0 sT (Same_fresh (Same_upd (Same.refl _) hp) hq), ?_⟩⟩
        rw [upd_same, es]
        unfold layS
        rw [if_neg yn, List.map_set]
      · have yn : y = .non := hv.ne_non.mp (by simpa using c)
        refine hN _ _ ⟨_, _, rfl, sT, ?_⟩
        rw [es]
        unfold layS
        rw [if_pos yn]
        exact hLT
    · rintro σ H' ⟨v3, v4, rfl, sm, hL⟩
      walk_at "rd"
      rw [hw] at hL
      exact k q H' sm (Same_fresh (Same_upd (Same.refl _) hp) hq) hL
theorem sc_size_for : FnScope ["many", "size"] ["many"] (defScope s_size_for) := ⟨rfl, rfl, rfl, by decide +kernel, rfl, by decide +kernel, by decide +kernel⟩
theorem ok_size_for {P : Program} {w : World} {K : PySem.W.Frag} {mg : Str → Option Value} {base : Heap} {A : Ad} (T : Txt K mg A) : FnOk P w K mg base CX0 1 A.a_size_for A.d_size_for ["many"] spSizeFor := by
  refine T.F_size_for.ok sc_size_for (fun vs H Q E h => ?_) (fun cdv A' outer s H vs Q E hr h => ?_)
  · exact len_sizefor h
  · have nd := sc_size_for.nd
    have hu := hu_of hr
    refine ⟨_, (pss_cons (ps_set (i := 1) nd rfl (Or.inl rfl) (pe_glob (v := .int 8) rfl T.g_LEAST ⟨_, rfl⟩)) (pss_cons (ps_while PassesOwn.never (pt_cmpR op_lt (pv 1) (pe_op op_mulX pe_int (pv 0)) (nomark _)) (pss_one (ps_set (i := 1) nd rfl (Or.inl rfl) (pe_op op_shl (pv 1) pe_int)))) (pss_one (ps_ret (pv 1))))), ?_⟩
    clear nd
    obtain ⟨n, rfl, hn, k⟩ := h
    walk_at "rd"
    refine go_while (fun σ H' => ∃ j : Nat, σ = [some (.int n), some (.int (2 ^ j))] ∧ H' = H ∧ (3 ≤ j ∧ j ≤ 12) ∧ (j = 3 ∨ 2 ^ (j - 1) < 3 * n)) (fun σ _ => match σ with | [_, some (.int r)] => (8192 - r).toNat | _ => 0) ⟨3, rfl, rfl, by decide, .inl rfl⟩ ?_
    rintro B σ H' ⟨j, rfl, rfl, hj, hc⟩ hB
    walk_at "rd"
    have z3 : (2 : Int) ^ 12 = 4096 := by decide
    obtain ⟨z1, z2⟩ := pow_le hj.2
    refine ⟨mulL (by decide) (by decide), iteB (fun c => hB _ fun N hN => ?_) fun c => ?_⟩
    · walk_at "rd"
      have hj12 : j < 12 := by
        apply Classical.byContradiction
        intro h
        have : j = 12 := by omega
        subst this
        omega
      have e : (2 : Int) ^ j * 2 = 2 ^ (j + 1) := by rw [Int.pow_succ]
      refine ⟨⟨by decide, by decide, by omega⟩, hN _ _ ⟨j + 1, by rw [e], rfl, by omega, .inr (by simpa using c)⟩ ?_⟩
      show (8192 - (2 : Int) ^ j * 2).toNat < (8192 - (2 : Int) ^ j).toNat
      omega
    · walk_at "rd"
      exact k j hj (by omega) hc

end Law
namespace Law
open PySem PySem.Spec PyProof.Rows L2 My
theorem sc_paper : FnScope ["cells", "row", "key", "mark", "found", "count", "slot", "cell"] ["cells", "row", "key"] (defScope s_paper) := ⟨rfl, rfl, rfl, by decide +kernel, rfl, by decide +kernel, by decide +kernel⟩
theorem ok_paper {P : Program} {w : World} {K : PySem.W.Frag} {mg : Str → Option Value} {base : Heap} {A : Ad} (T : Txt K mg A) : FnOk P w K mg base CX0 5 A.a_paper A.d_paper ["cells", "row", "key"] (spPaper K) := by
  refine T.F_paper.ok sc_paper (fun vs H Q E h => ?_) (fun cdv A' outer s H vs Q E hr h => ?_)
  · walk_at "spl"
  · have nd := sc_paper.nd
    have hu := hu_of hr
    refine ⟨_, (pss_cons (ps_set (i := 3) nd rfl (Or.inl rfl) (pe_call (ok_stamp T 3) (hr.mono (by decide)) rfl T.m_stamp T.F_stamp.kp T.b_stamp .nil pass0 (pa_cons (pv 2) pa_nil))) (pss_cons (ps_set (i := 4) nd rfl (Or.inl rfl) (pe_lst pa_nil)) (pss_cons (ps_for PassesOwn.never rfl (pi_range1 rfl T.n_range (pa_cons (pe_callB call_lenU rfl T.n_len PySem.boot_len (pa_cons (pv 0) pa_nil)) pa_nil)) (pg_name (i := 5) nd rfl (Or.inl rfl)) (pss_cons (ps_set (i := 6) nd rfl (Or.inl rfl) (pe_call (ok_probe (P := P) (w := w) T) (hr.mono (by decide)) rfl T.m_probe T.F_probe.kp T.b_probe .nil pass0 (pa_cons (pv 3) (pa_cons (pe_callB call_lenU rfl T.n_len PySem.boot_len (pa_cons (pv 0) pa_nil)) (pa_cons (pv 5) pa_nil))))) (pss_cons (ps_set (i := 7) nd rfl (Or.inl rfl) (pe_ix ix_list (pv 0) (pv 6) (fun _ _ => rfl))) (pss_cons (ps_expr (pe_bm PySem.F.plainAttrs_list PySem.F.slot_list_append PySem.F.type_list_append mt_append (pv 4) (pa_cons (pe_tup (pa_cons (pv 6) (pa_cons (pv 7) pa_nil))) pa_nil))) (pss_cons (ps_if (pt_cmpR op_eq (pv 7) (pe_glob (v := .int (-1)) rfl T.g_EMPTY ⟨_, rfl⟩) (nomark _)) (pss_one ps_break) pss_nil) (pss_one (ps_if (PW.pt (pw_and (pt_cmpR op_ne (pv 7) (pe_glob (v := .int (-2)) rfl T.g_GONE ⟨_, rfl⟩) (nomark _)) (pw_and1 (pt_cmpR (op_eqD hr.units) (pe_ix ix_list (pv 1) (pv 7) (fun _ _ => rfl)) (pv 2) (nomark _))))) (pss_one ps_break) pss_nil))))))) (pss_one (ps_ret (pv 4)))))), ?_⟩
    clear nd
    obtain ⟨a, r, v, cs, ws, ks, y, j, rfl, hA, hS, hks, hy, hR, hK, ⟨hl, hj⟩, hC, k⟩ := h
    obtain ⟨z0, z1⟩ := pow_le hj
    simp only [Int.reducePow] at z1
    have pc := pow_cast j
    have hw := KysAt.len hks
    walk_at "rd"
    refine ⟨y, hy, ⟨hK.g, hK.d⟩, by walk_at "sz", fun p hp => ⟨_, .inl (by walk_at "sq"), ?_⟩⟩
    rw [List.length_map, hl, pc]
    refine ⟨by omega, ?_⟩
    rw [show (2 ^ j : Int).toNat = 2 ^ j by omega]
    refine go_range (fun i σ H' => ∃ (v5 v6 v7 : Option V) (xs : List V), σ = [some (.ref a), some (.ref r), some v, some (.int y.stamp), some (.ref p), v5, v6, v7] ∧ Same H H' ∧ H' p = some (.lst xs) ∧ KysAt H' xs ((List.range i).map (pairAt cs j y)) ∧ i ≤ 2 ^ j ∧ ∀ t : Nat, t < i → stopB cs ks j y t = false) ⟨_, _, _, [], rfl, by walk_at "same", upd_same, .nil, Nat.zero_le _, fun t h => by omega⟩ ?_ ?_
    · rintro N i σ H' hi ⟨v5, v6, v7, xs, rfl, sm, hp', hx, hz, hb⟩ hN
      have hxl := KysAt.len hx
      rw [List.length_map, List.length_range] at hxl
      obtain ⟨r0, r1⟩ := probe_range y.stamp i hj
      have at_ := at_int (xs := cs) r0 (by omega)
      have ec := hC _ r0 (by omega)
      walk_at "rd"
      refine ⟨_, .inl (sm.seq hA), ?_⟩
      rw [List.length_map, hl, pc]
      refine ⟨by omega, _, _, sm.seq hA, at_, ?_⟩
      walk_at "rd"
      refine ⟨tyL hp', by walk_at "sz", fun T hT => ⟨xs, by walk_at "hp", by rw [sizeLine_eq]; omega, ?_⟩⟩
      have sT : Same H (upd (upd H' T (.tup [V.int (probeF y.stamp (2 ^ j) i), V.int (getI cs (probeF y.stamp (2 ^ j) i))])) p (.lst (xs ++ [V.ref T]))) := Same_upd0 (Same_upd sm hT) hp
      have hpT : T ≠ p := (hT.ne hp').symm
      have hp2 : upd H' T (.tup [V.int (probeF y.stamp (2 ^ j) i), V.int (getI cs (probeF y.stamp (2 ^ j) i))]) p = some (.lst xs) := by walk_at "hp"
      have hx2 := hx.same (Same_upd (o := .tup [V.int (probeF y.stamp (2 ^ j) i), V.int (getI cs (probeF y.stamp (2 ^ j) i))]) (Same.refl _) hT) _ _
      have dats : Ky.dats ((List.range i).map (pairAt cs j y)) := fun q hq => by
        obtain ⟨t, _, rfl⟩ := List.mem_map.mp hq
        exact pairK_dat _ _
      have hx3 : KysAt (upd (upd H' T (.tup [V.int (probeF y.stamp (2 ^ j) i), V.int (getI cs (probeF y.stamp (2 ^ j) i))])) p (.lst (xs ++ [V.ref T]))) (xs ++ [V.ref T]) ((List.range (i + 1)).map (pairAt cs j y)) := by
        rw [List.range_succ, List.map_append]
        refine KysAt.append (hx2.butD (fun b u hb e => by rw [upd_ne hb]; exact e) hp2 dats) (.cons ?_ .nil)
        exact .tup (by rw [upd_ne hpT]; exact upd_same) (.cons (.num _) (.cons (.num _) .nil))
      have hp3 : upd (upd H' T (.tup [V.int (probeF y.stamp (2 ^ j) i), V.int (getI cs (probeF y.stamp (2 ^ j) i))])) p (.lst (xs ++ [V.ref T])) p = some (.lst (xs ++ [V.ref T])) := upd_same
      generalize upd (upd H' T (.tup [V.int (probeF y.stamp (2 ^ j) i), V.int (getI cs (probeF y.stamp (2 ^ j) i))])) p (.lst (xs ++ [V.ref T])) = H3 at sT hx3 hp3 ⊢
      have stop : stopB cs ks j y i = true → Q (.ref p) H3 := fun e => k p H3 _ sT hp hp3 (by
        unfold paperK
        rw [paperN_stop hi e hb]
        exact hx3)
      have next : stopB cs ks j y i = false → ∀ v6 v7, N [some (.ref a), some (.ref r), some v, some (.int y.stamp), some (.ref p), some (.int i), v6, v7] H3 := fun e v6 v7 => hN _ _ ⟨_, _, _, _, rfl, sT, hp3, hx3, by omega, fun t ht => by
        rcases Nat.lt_or_ge t i with q | q
        · exact hb t q
        · rw [show t = i by omega]; exact e⟩
      unfold stopB at stop next
      generalize getI cs (probeF y.stamp (2 ^ j) i) = c at *
      refine iteB (fun c1 => stop (by simp [c1])) fun c1 => iteB (fun c2 => ?_) fun c2 => next ?_ _ _
      · obtain ⟨q1, q2⟩ := (ec.resolve_left c1).resolve_left c2
        obtain ⟨u, e1, at2⟩ := at_any (xs := ws) q1 (by omega)
        obtain ⟨l, e2, hu⟩ := hks.get e1
        refine ⟨_, _, sT.seq hS, at2, ?_⟩
        have ul := RowOk.one (hR.get e2)
        have kl := RowOk.one (k := y) (.inr hK)
        refine eq_any (hu.same sT _ _) (hy.same sT _ _) ul.1 kl.1 ul.2 kl.2 ?_
        walk_at "rd"
        refine iteB (fun c3 => stop ?_) fun c3 => next ?_ _ _
        · rw [e2, c3]
          simp [c2]
        · rw [e2]
          simp [c1, c3]
      · have c2' : c = -2 := by simpa using c2
        simp [c2']
    · rintro σ H' ⟨v5, v6, v7, xs, rfl, sm, hp', hx, hz, hb⟩
      walk_at "rd"
      refine k p H' xs sm hp hp' ?_
      unfold paperK
      rw [paperN_none hb]
      exact hx
theorem sc_place_of : FnScope ["cells", "row", "key", "cell"] ["cells", "row", "key"] (defScope s_place_of) := ⟨rfl, rfl, rfl, by decide +kernel, rfl, by decide +kernel, by decide +kernel⟩
theorem ok_place_of {P : Program} {w : World} {K : PySem.W.Frag} {mg : Str → Option Value} {base : Heap} {A : Ad} (T : Txt K mg A) : FnOk P w K mg base CX0 6 A.a_place_of A.d_place_of ["cells", "row", "key"] (spPlaceOf K) := by
  refine T.F_place_of.ok sc_place_of (fun vs H Q E h => ?_) (fun cdv A' outer s H vs Q E hr h => ?_)
  · walk_at "spl"
  · have nd := sc_place_of.nd
    have hu := hu_of hr
    refine ⟨_, (pss_cons (ps_set (i := 3) nd rfl (Or.inl rfl) (pe_ix ix_tup (pe_ix ix_list (pe_call (ok_paper (P := P) (w := w) T) (hr.mono (by decide)) rfl T.m_paper_slots T.F_paper.kp T.b_paper .nil pass0 (pa_cons (pv 0) (pa_cons (pv 1) (pa_cons (pv 2) pa_nil)))) (pe_un un_neg pe_int) (fun _ _ => rfl)) pe_int (fun _ _ => rfl))) (pss_cons (ps_if (pt_cmpR op_eq (pv 3) (pe_glob (v := .int (-1)) rfl T.g_EMPTY ⟨_, rfl⟩) (nomark _)) (pss_one (ps_ret pe_non)) pss_nil) (pss_one (ps_ret (pv 3))))), ?_⟩
    clear nd
    obtain ⟨a, r, v, cs, ws, ks, y, j, rfl, hA, hS, hks, hy, hR, hK, ⟨hl, hj⟩, hC, k⟩ := h
    walk_at "rd"
    refine ⟨a, r, v, cs, ws, ks, y, j, rfl, hA, hS, hks, hy, hR, hK, ⟨hl, hj⟩, hC, fun p H' xs sm _ hp hx => ?_⟩
    obtain ⟨n0, n1, -, -⟩ := paperN_range cs ks j y
    have hxl := KysAt.len hx
    unfold paperK at hx hxl
    rw [List.length_map, List.length_range] at hxl
    obtain ⟨u, e1, hu⟩ := hx.at (i := paperN cs ks j y - 1) (k := pairAt cs j y (paperN cs ks j y - 1)) (by rw [List.getElem?_map, List.getElem?_range (by omega)]; rfl)
    obtain ⟨q, rfl, hq⟩ := pair_of hu
    walk_at "rd"
    refine ⟨xs, _, SqL.of hp, atI_last (by rw [hxl]; exact e1), ?_⟩
    walk_at "rd"
    refine ⟨_, _, SqT.of hq, rfl, ?_⟩
    walk_at "rd"
    have k' := k H' sm
    split
    · rename_i c
      unfold lastCell at k'
      rw [if_pos c] at k'
      exact k'
    · rename_i c
      unfold lastCell at k'
      rw [if_neg c] at k'
      exact k'
theorem sc_checked : FnScope ["thing"] ["thing"] (defScope s_checked) := ⟨rfl, rfl, rfl, by decide +kernel, rfl, by decide +kernel, by decide +kernel⟩
theorem ok_checked {P : Program} {w : World} {K : PySem.W.Frag} {mg : Str → Option Value} {base : Heap} {A : Ad} (T : Txt K mg A) : FnOk P w K mg base (L2N.CX P w) 6 A.a_checked A.d_checked ["thing"] (spChecked A.c_NoKey) := by
  refine My.okN T.F_checked sc_checked (fun vs H Q E h => ?_) (fun cdv A' outer s H vs Q E hr h => ?_)
  · exact len_checked h
  · have nd := sc_checked.nd
    have hu := hu_of hr
    refine ⟨_, (pss_cons (ps_if (pt_not (pt_val (pe_call (ok_is_key (P := P) (w := w) T) (hr.mono (by decide)) rfl T.m_is_key T.F_is_key.kp T.b_is_key .nil pass0 (pa_cons (pv 0) pa_nil)))) (pss_one (L2N.ps_raise rfl (L2N.takes_of rfl rfl rfl rfl) (L2N.pmk_own PySem.F.excBase_ValueError T.x_NoKey T.m_NoKey T.k_NoKey (raises_own T.eb_NoKey T.et_NoKey) rfl))) pss_nil) (pss_one (ps_ret (pv 0)))), ?_⟩
    clear nd
    obtain ⟨v, y, rfl, hy, hf, k1, k2⟩ := h
    walk_at "rd"
    refine ⟨v, y, rfl, hy, hf, ?_⟩
    walk_at "rd"
    cases e : within 3 y with
    | true => exact k1 e
    | false => exact k2 e
theorem sc_packed : FnScope ["row", "beside", "keys", "kept", "key", "thing"] ["row", "beside"] (defScope s_packed) := ⟨rfl, rfl, rfl, by decide +kernel, rfl, by decide +kernel, by decide +kernel⟩
theorem ok_packed {P : Program} {w : World} {K : PySem.W.Frag} {mg : Str → Option Value} {base : Heap} {A : Ad} (T : Txt K mg A) : FnOk P w K mg base CX0 2 A.a_packed A.d_packed ["row", "beside"] (spPacked K) := by
  refine T.F_packed.ok sc_packed (fun vs H Q E h => ?_) (fun cdv A' outer s H vs Q E hr h => ?_)
  · exact len_packed h
  · have nd := sc_packed.nd
    have hu := hu_of hr
    refine ⟨_, (pss_cons (ps_set (i := 2) nd rfl (Or.inl rfl) (pe_lst pa_nil)) (pss_cons (ps_set (i := 3) nd rfl (Or.inl rfl) (pe_lst pa_nil)) (pss_cons (ps_for PassesOwn.never rfl (RZ.pi_zipA rfl T.n_zip (pa_cons (pv 0) (pa_cons (pv 1) pa_nil))) (pg_tup (n := 2) rfl (pgs_cons (pg_name (i := 4) nd rfl (Or.inl rfl)) (pgs_cons (pg_name (i := 5) nd rfl (Or.inl rfl)) pgs_nil))) (pss_one (ps_if (pt_cmpR op_notN (pv 4) pe_non (nomark _)) (pss_cons (ps_expr (pe_bm PySem.F.plainAttrs_list PySem.F.slot_list_append PySem.F.type_list_append mt_append (pv 2) (pa_cons (pv 4) pa_nil))) (pss_one (ps_expr (pe_bm PySem.F.plainAttrs_list PySem.F.slot_list_append PySem.F.type_list_append mt_append (pv 3) (pa_cons (pv 5) pa_nil))))) pss_nil))) (pss_one (ps_ret (pe_tup (pa_cons (pv 2) (pa_cons (pv 3) pa_nil)))))))), ?_⟩
    clear nd
    obtain ⟨a, b, xs, ys, ks, us, rfl, ha, hb, hx, hy, hv, hz, hl, k⟩ := h
    have e1 := KysAt.len hx
    have e2 := KysAt.len hy
    walk_at "rd"
    refine ⟨by walk_at "sz", fun p hp => ⟨by walk_at "sz", fun p1 hp1 => ⟨xs, ys, .inl ⟨by walk_at "sq", by walk_at "sq", ?_⟩⟩⟩⟩
    have npp : p ≠ p1 := hp1.ne upd_same
    have fp1 : Fresh H p1 := Same_fresh (Same_upd (Same.refl _) hp) hp1
    refine go_zip (xs := xs) (ys := ys) (by omega) (fun i σ H' => ∃ (v4 v5 : Option V) (ws zs : List V), σ = [some (.ref a), some (.ref b), some (.ref p), some (.ref p1), v4, v5] ∧ Same H H' ∧ H' p = some (.lst ws) ∧ H' p1 = some (.lst zs) ∧ KysAt H' ws (keptK (ks.take i) (us.take i)).1 ∧ KysAt H' zs (keptK (ks.take i) (us.take i)).2 ∧ ws.length ≤ i ∧ zs.length ≤ i)
      ⟨_, _, [], [], rfl, by walk_at "same", by walk_at "hp", upd_same, .nil, .nil, Nat.le_refl _, Nat.le_refl _⟩ (fun i σ H' _ ⟨_, _, _, _, _, s, _⟩ => ⟨s.seq ha, s.seq hb⟩) ?_ ?_
    · rintro N i x y σ H' T g1 g2 ⟨v4, v5, ws, zs, rfl, sm, hL, hM, hw, hq, l1, l2⟩ hT hN
      obtain ⟨k1, hk1, hx1⟩ := hx.get g1
      obtain ⟨k2, hk2, hy1⟩ := hy.get g2
      have hi : i < ks.length := (List.getElem?_eq_some_iff.mp hk1).1
      have ek := keptK_take hk1 hk2
      walk_at "rd"
      refine ⟨_, SqT.of upd_same, rfl, ?_⟩
      walk_at "rd"
      have sT := Same_upd (o := .tup [x, y]) (Same.refl H') hT
      have hL3 := sT _ _ hL
      have hM3 := sT _ _ hM
      have hw3 := hw.same sT _ _
      have hq3 := hq.same sT _ _
      have hx3 := hx1.same (sm.trans sT) _ _
      have hy3 := hy1.same (sm.trans sT) _ _
      have sT := sm.trans sT
      generalize upd H' T (.tup [x, y]) = H3 at hL3 hM3 hw3 hq3 hx3 hy3 sT ⊢
      refine iteB (fun c => ?_) fun c => hN _ _ ⟨_, _, ws, zs, rfl, sT, hL3, hM3, ?_, ?_, by omega, by omega⟩
      · have kn : k1 ≠ .non := fun e => c (hx1.ne_non.mpr e)
        rw [if_neg kn] at ek
        refine ⟨tyL hL3, ws, hL3, by rw [sizeLine_eq]; omega, tyL (by walk_at "hp"), zs, by walk_at "hp", by rw [sizeLine_eq]; omega, ?_⟩
        have bt : But [p, p1] H3 (upd (upd H3 p (.lst (ws ++ [x]))) p1 (.lst (zs ++ [y]))) := fun bb o e n => by
          have n1 : bb ≠ p := fun q => n (by rw [q]; exact List.mem_cons_self)
          have n2 : bb ≠ p1 := fun q => n (by rw [q]; exact List.mem_cons_of_mem _ List.mem_cons_self)
          rw [upd_ne n2, upd_ne n1]
          exact e
        have nt : NoTup H3 [p, p1] := fun bb hb xs e => by
          rcases List.mem_cons.mp hb with rfl | hb
          · rw [hL3] at e; cases e
          · rcases List.mem_cons.mp hb with rfl | hb
            · rw [hM3] at e; cases e
            · cases hb
        have v1 : Ky.vals (keptK (ks.take i) (us.take i)).1 = true := vals_iff.mpr fun z hz => vals_iff.mp hv.1 z (List.mem_of_mem_take (keptK_mem _ _ z |>.1 hz))
        have v2 : Ky.vals (keptK (ks.take i) (us.take i)).2 = true := vals_iff.mpr fun z hz => vals_iff.mp hv.2 z (List.mem_of_mem_take (keptK_mem _ _ z |>.2 hz))
        refine hN _ _ ⟨_, _, ws ++ [x], zs ++ [y], rfl, Same_upd0 (Same_upd0 sT hp) fp1, by rw [upd_ne npp]; exact upd_same, upd_same, ?_, ?_, by simp; omega, by simp; omega⟩
        · rw [ek]
          exact KysAt.append (hw3.keep bt nt _ _ v1) (.cons (hx3.keep bt nt _ _ (vals_get hv.1 hk1)) .nil)
        · rw [ek]
          exact KysAt.append (hq3.keep bt nt _ _ v2) (.cons (hy3.keep bt nt _ _ (vals_get hv.2 hk2)) .nil)
      · have kn : k1 = .non := hx1.ne_non.mp (by simpa using c)
        rw [ek, if_pos kn]
        exact hw3
      · have kn : k1 = .non := hx1.ne_non.mp (by simpa using c)
        rw [ek, if_pos kn]
        exact hq3
    · rintro σ H' ⟨v4, v5, ws, zs, rfl, sm, hL, hM, hw, hq, -, -⟩
      rw [List.take_of_length_le (by omega), List.take_of_length_le (by omega)] at hw hq
      walk_at "rd"
      refine ⟨by walk_at "sz", fun t ht => ?_⟩
      have sT := Same_upd (o := .tup [V.ref p, V.ref p1]) (Same.refl H') ht
      exact k t p p1 ws zs _ (sm.trans sT) npp hp fp1 upd_same (sT _ _ hL) (sT _ _ hM) (hw.same sT _ _) (hq.same sT _ _)

end Law
namespace My
open PySem PySem.Spec PyProof.Rows L2
/-! sets of keys: an object with a table -/
structure KsC (K : PySem.W.Frag) (C : Addr) : Prop where
  cls : Cls K C
  book : NoAttr K C "book"
def ksF (t : Addr) : List (Str × V) := [("book", .ref t)]
def Sh.keys (S : Sh) : List Ky := S.lv.map Prod.fst
def addL (r : List Ky) (k : Ky) : List Ky := if k ∈ r then r else r ++ [k]
def onceL (l : List Ky) : List Ky := l.foldl addL []
def dropL (r : List Ky) (y : Ky) : List Ky := r.filter fun k => decide (k ≠ y)
def KsAt (H : Hp) (C CT a : Addr) (fp : List Addr) (ks : List Ky) : Prop := ∃ dx t fq S, fp = a :: fq ∧ H a = some (.ins C dx (ksF t)) ∧ ShAt H CT t .no fq S ∧ a ∉ fq ∧ S.keys = ks
theorem ks_fld {K : PySem.W.Frag} {H : Hp} {Q : VK} {C a dx t : Addr} (k : KsC K C) (e : H a = some (.ins C dx (ksF t))) : FldAt K H a "book" Q = Q (.ref t) H := fldAt e k.cls k.book (by with_unfolding_all rfl)
section
variable {H H' : Hp} {C CT a : Addr} {fp : List Addr} {ks : List Ky} {S : Sh} {y z : Ky}
theorem KsAt.step (h : KsAt H C CT a fp ks) : ∃ dx t fq S, H a = some (.ins C dx (ksF t)) ∧ ShAt H CT t .no fq S ∧ S.keys = ks ∧ (∀ x ∈ fq, x ∈ fp) ∧
    ∀ H' fp' S', Gr fq H H' → Sub fp' fq H → ShAt H' CT t .no fp' S' → KsAt H' C CT a (a :: fp') S'.keys ∧ Gr fp H H' ∧ Sub (a :: fp') fp H := by
  obtain ⟨dx, t, fq, S, rfl, ha, hS, na, e⟩ := h
  refine ⟨dx, t, fq, S, ha, hS, e, fun x m => List.mem_cons_of_mem _ m, fun H' fp' S' gr sb hS' => ⟨⟨dx, t, fp', S', rfl, gr.keep _ _ ha na, hS', sb.not ha na, rfl⟩, gr.mono fun x m => List.mem_cons_of_mem _ m, fun x m => ?_⟩⟩
  rcases List.mem_cons.mp m with rfl | m
  · exact .inl List.mem_cons_self
  · exact (sb x m).imp (List.mem_cons_of_mem _) id
theorem KsAt.ext (h : KsAt H C CT a fp ks) (s : Same H H') : KsAt H' C CT a fp ks := by
  obtain ⟨dx, t, fq, S, e, ha, hS, na, q⟩ := h
  exact ⟨dx, t, fq, S, e, s _ _ ha, hS.ext s, na, q⟩
theorem KsAt.noTup (h : KsAt H C CT a fp ks) : NoTup H fp := by
  obtain ⟨dx, t, fq, S, rfl, ha, hS, na, q⟩ := h
  intro x m xs e
  rcases List.mem_cons.mp m with rfl | m
  · rw [ha] at e; cases e
  · exact hS.noTup x m xs e
theorem KsAt.apart {fq : List Addr} (h : KsAt H C CT a fp ks) (f : Gr fq H H') (n : NoTup H fq) (d : ∀ x ∈ fp, x ∉ fq) : KsAt H' C CT a fp ks := by
  obtain ⟨dx, t, fr, S, rfl, ha, hS, na, q⟩ := h
  exact ⟨dx, t, fr, S, rfl, f.keep _ _ ha (d _ List.mem_cons_self), hS.apart f n fun x m => d x (List.mem_cons_of_mem _ m), na, q⟩
theorem keys_mem (o : S.Ok) (n : y ≠ .non) : y ∈ S.keys ↔ y ∈ S.row := by
  constructor
  · intro m
    obtain ⟨p, hp, rfl⟩ := List.mem_map.mp m
    exact (lvP_key hp).1
  · intro m
    obtain ⟨q, hq⟩ := List.mem_iff_getElem?.mp m
    obtain ⟨A, B, z, e, -⟩ := o.split hq n
    unfold Sh.keys
    rw [e]
    simp
theorem keys_none (o : S.Ok) (n : y ≠ .non) : S.find y = none ↔ y ∉ S.keys := by rw [o.find_none n, keys_mem o n]
theorem keys_has (o : S.Ok) (n : y ≠ .non) : (S.find y).isSome = decide (y ∈ S.keys) := by
  cases e : S.find y with
  | none => rw [decide_eq_false ((keys_none o n).mp e)]; rfl
  | some q =>
    rw [decide_eq_true]
    · rfl
    · refine Classical.byContradiction fun c => ?_
      rw [(keys_none o n).mpr c] at e
      cases e
theorem putT_keys (o : S.Ok) (yk : KeyOk y) : (S.putT y z).2.keys = addL S.keys y ∧ (S.putT y z).1 = !decide (y ∈ S.keys) := by
  have n := yk.ne_non
  unfold Sh.putT addL
  cases e : S.find y with
  | some q =>
    have m : y ∈ S.keys := by
      refine Classical.byContradiction fun c => ?_
      rw [(keys_none o n).mpr c] at e
      cases e
    rw [if_pos m, decide_eq_true m]
    obtain ⟨A, B, z', e1, -, e2, -⟩ := o.split ((o.find_some n).mp e) n
    refine ⟨?_, rfl⟩
    unfold Sh.keys
    dsimp only
    rw [e2, e1]
    simp
  | none =>
    have m := (keys_none o n).mp e
    rw [if_neg m, decide_eq_false m]
    dsimp only
    split
    · refine ⟨?_, rfl⟩
      show ((lvP (S.lv.map Prod.fst ++ [y]) (S.lv.map Prod.snd ++ [z])).map Prod.fst) = _
      rw [lvP_append _ _ _ _ (by rw [List.length_map, List.length_map])]
      have := tidy_lv (S := S)
      unfold Sh.tidy at this
      unfold Sh.lv at this
      dsimp only at this
      unfold Sh.keys Sh.lv
      rw [this, List.map_append]
      congr 1
      unfold lvP
      simp [n]
    · refine ⟨?_, rfl⟩
      unfold Sh.keys
      dsimp only
      rw [come_lv o n, List.map_append]
      rfl
theorem went_keys (o : S.Ok) (n : y ≠ .non) {q : Nat} (e : S.find y = some q) : (S.went q y).keys = dropL S.keys y := by
  obtain ⟨A, B, z', e1, -, -, e3, h4, h5, -⟩ := o.split ((o.find_some n).mp e) n
  unfold Sh.keys dropL
  rw [e1, e3, List.map_append, List.map_append, List.filter_append, List.map_cons, List.filter_cons, if_neg (by simp)]
  congr 1
  · rw [List.filter_eq_self.mpr]
    intro k m
    obtain ⟨p, hp, rfl⟩ := List.mem_map.mp m
    exact decide_eq_true (h4 p hp)
  · rw [List.filter_eq_self.mpr]
    intro k m
    obtain ⟨p, hp, rfl⟩ := List.mem_map.mp m
    exact decide_eq_true (h5 p hp)
theorem keys_many (o : S.Ok) : S.com - S.goi = (S.keys.length : Nat) := by
  unfold Sh.keys
  rw [List.length_map]
  exact (lv_len o).symm
theorem keys_key (o : S.Ok) : ∀ k ∈ S.keys, KeyOk k := fun k m => by
  obtain ⟨p, hp, rfl⟩ := List.mem_map.mp m
  exact (o.cw.rok _ (lvP_key hp).1).resolve_left (lvP_key hp).2.2
theorem keys_nodup (o : S.Ok) : S.keys.Nodup := lvP_nodup _ _ o.cw.nd
theorem KsAt.key (h : KsAt H C CT a fp ks) : ∀ k ∈ ks, KeyOk k := by
  obtain ⟨dx, t, fq, S, rfl, ha, hS, na, rfl⟩ := h
  exact keys_key hS.ok
theorem KsAt.nodup (h : KsAt H C CT a fp ks) : ks.Nodup := by
  obtain ⟨dx, t, fq, S, rfl, ha, hS, na, rfl⟩ := h
  exact keys_nodup hS.ok
theorem KsAt.len (h : KsAt H C CT a fp ks) : ks.length ≤ 5000 := by
  obtain ⟨dx, t, fq, S, rfl, ha, hS, na, rfl⟩ := h
  have o := hS.ok
  have h1 : S.lv.length ≤ (S.row.zip S.held).length := List.length_filter_le _ _
  rw [List.length_zip] at h1
  have := o.cw.lt
  unfold Sh.keys
  rw [List.length_map]
  omega
theorem KsAt.met {m : Str} (h : KsAt H C CT a fp ks) (l : ∀ t : Addr, (ksF t).lookup m = none) : MetAt H a C m := by
  obtain ⟨dx, t, fq, S, rfl, ha, hS, na, q⟩ := h
  exact ⟨dx, _, ha, l t⟩
theorem KsAt.ky (h : KsAt H C CT a fp ks) (f : Gr fp H H') {v : V} (d : y.val = true) (g : KyAt H v y) : KyAt H' v y := KyAt.keep f.keep h.noTup y v d g
theorem KsAt.kys (h : KsAt H C CT a fp ks) (f : Gr fp H H') {v : List V} {l : List Ky} (d : Ky.vals l = true) (g : KysAt H v l) : KysAt H' v l := KysAt.keep f.keep h.noTup l v d g
theorem addL_len (r : List Ky) (k : Ky) : (addL r k).length ≤ r.length + 1 := by
  unfold addL
  split
  · omega
  · rw [List.length_append]; exact Nat.le_refl _
theorem fold_len : ∀ (l r : List Ky), (l.foldl addL r).length ≤ r.length + l.length
  | [], r => Nat.le_refl _
  | k :: l, r => by
    have := fold_len l (addL r k)
    have := addL_len r k
    rw [List.foldl_cons, List.length_cons]
    omega
theorem onceL_len (l : List Ky) : (onceL l).length ≤ l.length := by
  have := fold_len l []
  unfold onceL
  simpa using this
theorem onceL_take {l : List Ky} {i : Nat} {k : Ky} (e : l[i]? = some k) : onceL (l.take (i + 1)) = addL (onceL (l.take i)) k := by
  obtain ⟨h, e⟩ := List.getElem?_eq_some_iff.mp e
  unfold onceL
  rw [List.take_succ_eq_append_getElem h, List.foldl_append, e]
  rfl
theorem keys_vals {ks : List Ky} (h : ∀ k ∈ ks, KeyOk k) : Ky.vals ks = true := vals_iff.mpr fun k m => (h k m).val
end
/-- nothing of data stands at fp -/
def NoDat (H : Hp) (fp : List Addr) : Prop := ∀ b ∈ fp, ∀ o, H b = some o → (∀ xs, o ≠ .tup xs) ∧ (∀ xs, o ≠ .lst xs) ∧ ∀ kvs, o ≠ .dK kvs
section
variable {H H' : Hp}
mutual
theorem KyAt.keepA {fp : List Addr} (s : But fp H H') (n : NoDat H fp) : ∀ (y : Ky) (v : V), KyAt H v y → KyAt H' v y
  | .num i, _, h => by cases h; exact .num i
  | .txt x, _, h => by cases h; exact .txt x
  | .non, _, h => by cases h; exact .non
  | .bl b, _, h => by cases h; exact .bl b
  | .tup ks, _, h => by
    cases h with
    | tup h p => exact .tup (s _ _ h fun hm => (n _ hm _ h).1 _ rfl) (KysAt.keepA s n ks _ p)
  | .lst m, _, h => by
    cases h with
    | lst h => exact .lst (s _ _ h fun hm => (n _ hm _ h).2.1 _ rfl)
  | .dct, _, h => by
    cases h with
    | dct h => exact .dct (s _ _ h fun hm => (n _ hm _ h).2.2 _ rfl)
theorem KysAt.keepA {fp : List Addr} (s : But fp H H') (n : NoDat H fp) : ∀ (ks : List Ky) (vs : List V), KysAt H vs ks → KysAt H' vs ks
  | [], _, h => by cases h; exact .nil
  | y :: ks, _, h => by
    cases h with
    | cons h t => exact .cons (KyAt.keepA s n y _ h) (KysAt.keepA s n ks _ t)
end
end
theorem noDat_one {H : Hp} {a C dx : Addr} {fs : List (Str × V)} (e : H a = some (.ins C dx fs)) : NoDat H [a] := fun b m o h => by
  rw [List.mem_singleton] at m
  rw [m, e] at h
  cases h
  exact ⟨(fun _ z => by cases z), (fun _ z => by cases z), fun _ z => by cases z⟩
/-- a thing that may be no key -/
def Fitt (y : Ky) : Prop := y.fit = true ∧ (within 3 y = true → KeyOk y)
theorem KOk.fitt {y : Ky} (h : KeyOk y) : Fitt y := ⟨h.f, fun _ => h⟩
def spKsInit (C CT CN : Addr) : Sp := fun vs H Q E => ∃ a dx v ks, vs = [.ref a, v] ∧ H a = some (.ins C dx []) ∧ (v = .non ∧ ks = [] ∨ ∃ l ws, v = .ref l ∧ H l = some (.lst ws) ∧ KysAt H ws ks) ∧ (∀ k ∈ ks, Fitt k) ∧ ks.length ≤ 1365 ∧
  ((∃ k ∈ ks, within 3 k = false) → ∀ H', Gr [a] H H' → E (.ref CN) none H') ∧ ((∀ k ∈ ks, KeyOk k) → ∀ H' fp, Gr [a] H H' → Sub fp [a] H → KsAt H' C CT a fp (onceL ks) → Q .non H')
theorem len_ksInit {C CT CN : Addr} {vs H Q E} (h : spKsInit C CT CN vs H Q E) : vs.length = 2 := by obtain ⟨_, _, _, _, rfl, _⟩ := h; rfl
def spKsAdd (C CT CN : Addr) : Sp := fun vs H Q E => ∃ a fp ks v y, vs = [.ref a, v] ∧ KsAt H C CT a fp ks ∧ KyAt H v y ∧ Fitt y ∧ ks.length ≤ 1365 ∧ (within 3 y = false → E (.ref CN) none H) ∧ (KeyOk y → ∀ H' fp', Gr fp H H' → Sub fp' fp H → KsAt H' C CT a fp' (addL ks y) → Q (.bl (!decide (y ∈ ks))) H')
theorem len_ksAdd {C CT CN : Addr} {vs H Q E} (h : spKsAdd C CT CN vs H Q E) : vs.length = 2 := by obtain ⟨_, _, _, _, _, rfl, _⟩ := h; rfl
def spKsDrop (C CT CN : Addr) : Sp := fun vs H Q E => ∃ a fp ks v y, vs = [.ref a, v] ∧ KsAt H C CT a fp ks ∧ KyAt H v y ∧ Fitt y ∧ (within 3 y = false → E (.ref CN) none H) ∧ (KeyOk y → ∀ H' fp', Gr fp H H' → Sub fp' fp H → KsAt H' C CT a fp' (dropL ks y) → Q (.bl (decide (y ∈ ks))) H')
theorem len_ksDrop {C CT CN : Addr} {vs H Q E} (h : spKsDrop C CT CN vs H Q E) : vs.length = 2 := by obtain ⟨_, _, _, _, _, rfl, _⟩ := h; rfl
def spKsHas (C CT CN : Addr) : Sp := fun vs H Q E => ∃ a fp ks v y, vs = [.ref a, v] ∧ KsAt H C CT a fp ks ∧ KyAt H v y ∧ Fitt y ∧ (within 3 y = false → E (.ref CN) none H) ∧ (KeyOk y → ∀ H', Same H H' → Q (.bl (decide (y ∈ ks))) H')
theorem len_ksHas {C CT CN : Addr} {vs H Q E} (h : spKsHas C CT CN vs H Q E) : vs.length = 2 := by obtain ⟨_, _, _, _, _, rfl, _⟩ := h; rfl
def spKsMany (C CT : Addr) : Sp := fun vs H Q _ => ∃ a fp ks, vs = [.ref a] ∧ KsAt H C CT a fp ks ∧ Q (.int (ks.length : Nat)) H
theorem len_ksMany {C CT : Addr} {vs H Q E} (h : spKsMany C CT vs H Q E) : vs.length = 1 := by obtain ⟨_, _, _, rfl, _⟩ := h; rfl
def spKsListed (C CT : Addr) : Sp := fun vs H Q _ => ∃ a fp ks, vs = [.ref a] ∧ KsAt H C CT a fp ks ∧ ∀ H' L xs, Same H H' → Fresh H L → H' L = some (.lst xs) → KysAt H' xs ks → Q (.ref L) H'
theorem len_ksListed {C CT : Addr} {vs H Q E} (h : spKsListed C CT vs H Q E) : vs.length = 1 := by obtain ⟨_, _, _, rfl, _⟩ := h; rfl
end My
namespace My
open PySem PySem.Spec PyProof.Rows L2
/-! keys by a way and a number -/
def spKeyBy : Sp := fun vs H Q _ => ∃ w n : Int, vs = [.int w, .int n] ∧ Bd 100 n ∧ ∀ H' v y, Same H H' → KyAt H' v y → KeyOk y → Q v H'
theorem len_keyBy {vs H Q E} (h : spKeyBy vs H Q E) : vs.length = 2 := by obtain ⟨_, _, rfl, _⟩ := h; rfl
theorem abbC {i : Int} (h0 : 0 ≤ i) (h1 : i < 2) : ∃ l, codesOk l ∧ l.length = 2 ∧ atI [V.str (Str.ofString "ab"), V.str (Str.ofString "bC")] i = some (.str (SX.S l)) := by
  have e1 : Str.ofString "ab" = SX.S [97, 98] := by decide +kernel
  have e2 : Str.ofString "bC" = SX.S [98, 67] := by decide +kernel
  rw [e1, e2]
  rcases (by omega : i = 0 ∨ i = 1) with rfl | rfl
  · exact ⟨_, by unfold codesOk; decide, rfl, rfl⟩
  · exact ⟨_, by unfold codesOk; decide, rfl, rfl⟩
theorem cat_S (a b : List Nat) : SX.S a ++ SX.S b = SX.S (a ++ b) := by rw [SX.S_cat]
theorem codes_rep {c n : Nat} (h : 32 ≤ c ∧ c ≤ 126) : codesOk (List.replicate n c) := fun d m => by
  rw [(List.mem_replicate.mp m).2]
  exact h
theorem key_empty {d : Nat} : KOk d (.txt (Str.ofString "")) := by
  have e : Str.ofString "" = SX.S [] := by decide +kernel
  rw [e]
  exact .txt (fun _ h => by cases h) (by simp)
theorem key_tup0 : KOk (0 + 1) (.tup []) := KOk.tup (fun _ h => by cases h) (by simp)
def spValueBy : Sp := fun vs H Q _ => ∃ n : Int, vs = [.int n] ∧ ∀ H' v z, Same H H' → KyAt H' v z → HVal z → z.dep ≤ 1 → Q v H'
theorem len_valueBy {vs H Q E} (h : spValueBy vs H Q E) : vs.length = 1 := by obtain ⟨_, rfl, _⟩ := h; rfl
theorem KysAt.firsts {H : Hp} : ∀ {ks : List Ky} {ys : List V} (n : Nat), KysAt H ys ks → KysAt H (ys.take n) (ks.take n)
  | _, _, 0, _ => by rw [List.take_zero, List.take_zero]; exact .nil
  | [], _, n + 1, h => by cases h; exact .nil
  | _ :: _, _, n + 1, h => by
    cases h with
    | cons h t => exact .cons h (KysAt.firsts n t)
theorem KysAt.turn {H : Hp} : ∀ {ks : List Ky} {ys : List V}, KysAt H ys ks → KysAt H ys.reverse ks.reverse
  | [], _, h => by cases h; exact .nil
  | _ :: _, _, h => by
    cases h with
    | cons h t =>
      rw [List.reverse_cons, List.reverse_cons]
      exact KysAt.append (KysAt.turn t) (.cons h .nil)
/-- the last of those that are there -/
theorem last_key {S : Sh} (o : S.Ok) {q : Nat} (e : S.last = some q) : ∃ (A : List Ky) (y : Ky), S.row.getD q .non = y ∧ KeyOk y ∧ S.find y = some q ∧ S.keys = A ++ [y] := by
  obtain ⟨y, e1, e2, e3⟩ := liv_key o (ahead_liv e).2
  obtain ⟨A, B, z, h1, -, -, -, -, -, h7⟩ := o.split e1 e2.ne_non
  refine ⟨A.map Prod.fst, y, e3, e2, (o.find_some e2.ne_non).mpr e1, ?_⟩
  have := h7 (last_some o e)
  subst this
  unfold Sh.keys
  rw [h1]
  simp
theorem kys_nums {H : Hp} : ∀ ns : List Int, KysAt H (ns.map V.int) (ns.map Ky.num)
  | [] => .nil
  | n :: ns => .cons (.num n) (kys_nums ns)
theorem nums_inj : ∀ {xs ys : List Int}, xs.map Ky.num = ys.map Ky.num → xs = ys
  | [], [], _ => rfl
  | [], _ :: _, h => by simp at h
  | _ :: _, [], h => by simp at h
  | x :: xs, y :: ys, h => by
    simp only [List.map_cons, List.cons.injEq, Ky.num.injEq] at h
    rw [h.1, nums_inj h.2]
theorem nums_dep (ns : List Int) : (Ky.tup (ns.map Ky.num)).dep ≤ 1 := by
  have : ∀ ns : List Int, Ky.deps (ns.map Ky.num) = 0 := fun ns => by
    induction ns with
    | nil => rfl
    | cons n ns ih => simp [Ky.deps, Ky.dep, ih]
  simp [Ky.dep, this]
section
variable {K : PySem.W.Frag} {H : Hp} {Q : VK} {a b : Addr} {xs ys : List Int}
theorem eq_nums (ha : H a = some (.tup (xs.map V.int))) (hb : H b = some (.tup (ys.map V.int))) (lx : xs.length ≤ 1000) (ly : ys.length ≤ 1000) (q : Q (.bl (decide (xs = ys))) H) : rEqD K (.ref a) (.ref b) H Q := by
  refine eq_val (.tup ha (kys_nums xs)) (.tup hb (kys_nums ys)) (tup_vals (vals_nums xs) (by rw [List.length_map]; exact lx)) (tup_vals (vals_nums ys) (by rw [List.length_map]; exact ly)) (Nat.le_trans (nums_dep xs) (by decide)) (Nat.le_trans (nums_dep ys) (by decide)) ?_
  have e : decide (Ky.tup (xs.map Ky.num) = Ky.tup (ys.map Ky.num)) = decide (xs = ys) := by
    by_cases c : xs = ys
    · rw [c, decide_eq_true rfl, decide_eq_true rfl]
    · rw [decide_eq_false c, decide_eq_false fun z => c (nums_inj (by simpa using z))]
  rw [e]
  exact q
theorem ne_nums (ha : H a = some (.tup (xs.map V.int))) (hb : H b = some (.tup (ys.map V.int))) (lx : xs.length ≤ 1000) (ly : ys.length ≤ 1000) (q : Q (.bl (!decide (xs = ys))) H) : rNeD K (.ref a) (.ref b) H Q := by
  refine ne_val (.tup ha (kys_nums xs)) (.tup hb (kys_nums ys)) (tup_vals (vals_nums xs) (by rw [List.length_map]; exact lx)) (tup_vals (vals_nums ys) (by rw [List.length_map]; exact ly)) (Nat.le_trans (nums_dep xs) (by decide)) (Nat.le_trans (nums_dep ys) (by decide)) ?_
  have e : decide (Ky.tup (xs.map Ky.num) = Ky.tup (ys.map Ky.num)) = decide (xs = ys) := by
    by_cases c : xs = ys
    · rw [c, decide_eq_true rfl, decide_eq_true rfl]
    · rw [decide_eq_false c, decide_eq_false fun z => c (nums_inj (by simpa using z))]
  rw [e]
  exact q
end
theorem new_keys {j : Nat} : (Sh.new j).keys = [] := rfl
theorem cut_mem {l : List V} {lo hi : Option Int} {x : V} (m : x ∈ cutV l lo hi) : x ∈ l := by
  unfold cutV at m
  exact List.mem_of_mem_drop (List.mem_of_mem_take m)
def Sh.five (S : Sh) : List Int := [((S.keys.length : Nat) : Int), S.com, S.goi, S.tid, S.mov]
theorem counts_five {S : Sh} (o : S.Ok) : S.counts = S.five := by
  unfold Sh.counts Sh.five
  rw [keys_many o]
theorem counts_len {S : Sh} : S.counts.length = 5 := rfl
/-! keys and values as functions of the way and the number -/
def wayF (w n : Int) : Int := if w = 6 then n / 23 % 6 else w
def abbF (i : Int) : List Nat := if i = 0 then [97, 98] else [98, 67]
theorem abbF_at {i : Int} (h0 : 0 ≤ i) (h1 : i < 2) : codesOk (abbF i) ∧ (abbF i).length = 2 ∧ atI [V.str (Str.ofString "ab"), V.str (Str.ofString "bC")] i = some (.str (SX.S (abbF i))) := by
  have e1 : Str.ofString "ab" = SX.S [97, 98] := by decide +kernel
  have e2 : Str.ofString "bC" = SX.S [98, 67] := by decide +kernel
  rw [e1, e2]
  rcases (by omega : i = 0 ∨ i = 1) with rfl | rfl
  · exact ⟨by unfold codesOk; decide, rfl, rfl⟩
  · exact ⟨by unfold codesOk; decide, rfl, rfl⟩
def emptyF : Ky := .txt (Str.ofString "")
def keyG (w m n : Int) : Ky :=
  if w = 0 then (if 19 < m then (if m = 20 then .tup [] else if m = 21 then emptyF else .tup [.tup [.tup [emptyF]]]) else .num (m - 9))
  else if w = 1 then .num (5 + 2147483647 * (m - 11))
  else if w = 2 then .num (3 + 131072 * m)
  else if w = 3 then .num (n * 883442552349694852000662753891742254493121925538533209741814637 % 1999999999999999999999999999999999999999999999999999999999999 - 1000000000000000000000000000000000000000000000000000000000000 + 1)
  else if w = 4 then .txt (SX.S (abbF (m % 2) ++ abbF (m / 2 % 2) ++ abbF (m / 4 % 2) ++ abbF (m / 8 % 2) ++ List.replicate (m / 16).toNat 126))
  else .tup [.tup [.num (m % 4), .txt (SX.S (List.replicate (m / 4 % 3).toNat 107)), .tup [.num (m / 12)]], .txt (SX.S (List.replicate (m / 20 * 60).toNat 115)), .tup [], emptyF, .num 0, .num (m % 2)]
def keyF (w n : Int) : Ky := keyG (wayF w n) (n % 23) n
def valF (n : Int) : Ky :=
  if n % 5 = 0 then .non else if n % 5 = 1 then emptyF else if n % 5 = 2 then .tup [.num (n / 5 % 100), .txt (SX.S [116])] else if n % 5 = 3 then .num (n / 5 % 13 - 6)
  else .num (n / 5 % 1999999999999999999999999999999999999999999999999999999999999 - 1000000000000000000000000000000000000000000000000000000000000 + 1)
def spKeyByF : Sp := fun vs H Q _ => ∃ w n : Int, vs = [.int w, .int n] ∧ Bd 100 n ∧ ∀ H' v, Same H H' → KyAt H' v (keyF w n) → KeyOk (keyF w n) → Q v H'
theorem len_keyByF {vs H Q E} (h : spKeyByF vs H Q E) : vs.length = 2 := by obtain ⟨_, _, rfl, _⟩ := h; rfl
def spValueByF : Sp := fun vs H Q _ => ∃ n : Int, vs = [.int n] ∧ ∀ H' v, Same H H' → KyAt H' v (valF n) → HVal (valF n) → Q v H'
theorem len_valueByF {vs H Q E} (h : spValueByF vs H Q E) : vs.length = 1 := by obtain ⟨_, rfl, _⟩ := h; rfl
end My
namespace My
open PySem PySem.Spec PyProof.Rows L2
/-! the living pairs with their numbers of coming -/
abbrev Tri := Ky × Ky × Int
def triP (row held : List Ky) (born : List Int) : List Tri := (row.zip (held.zip born)).filter fun p => decide (p.1 ≠ .non)
def Sh.tri (S : Sh) : List Tri := triP S.row S.held S.born
theorem triP_append (r1 r2 h1 h2 : List Ky) (b1 b2 : List Int) (e : r1.length = h1.length) (f : r1.length = b1.length) : triP (r1 ++ r2) (h1 ++ h2) (b1 ++ b2) = triP r1 h1 b1 ++ triP r2 h2 b2 := by
  unfold triP
  rw [List.zip_append (by omega), List.zip_append (by rw [List.length_zip]; omega), List.filter_append]
theorem triP_cons (k z : Ky) (n : Int) (r h : List Ky) (b : List Int) : triP (k :: r) (z :: h) (n :: b) = if k ≠ .non then (k, z, n) :: triP r h b else triP r h b := by
  unfold triP
  rw [List.zip_cons_cons, List.zip_cons_cons, List.filter_cons]
  dsimp only
  by_cases c : k = .non
  · rw [if_neg (by simp [c]), if_neg (by simp [c])]
  · rw [if_pos (by simp [c]), if_pos c]
theorem triP_lv : ∀ (r h : List Ky) (b : List Int), h.length = r.length → b.length = r.length → (triP r h b).map (fun t => (t.1, t.2.1)) = lvP r h
  | [], _, _, _, _ => by simp [triP, lvP]
  | k :: r, z :: h, n :: b, e, f => by
    have ih := triP_lv r h b (by simpa using e) (by simpa using f)
    rw [triP_cons]
    unfold lvP at ih ⊢
    rw [List.zip_cons_cons, List.filter_cons]
    dsimp only
    by_cases c : k = .non
    · rw [if_neg (by simp [c]), if_neg (by simp [c]), ih]
    · rw [if_pos c, if_pos (by simp [c]), List.map_cons, ih]
  | _ :: _, [], _, e, _ => by simp at e
  | _ :: _, _ :: _, [], _, f => by simp at f
theorem triP_born : ∀ (r h : List Ky) (b : List Int), h.length = r.length → b.length = r.length → (triP r h b).map (fun t => t.2.2) = keptI r b
  | [], _, _, _, _ => by simp [triP, keptI]
  | k :: r, z :: h, n :: b, e, f => by
    have ih := triP_born r h b (by simpa using e) (by simpa using f)
    rw [triP_cons]
    unfold keptI at ih ⊢
    rw [List.zip_cons_cons, List.filter_cons]
    dsimp only
    by_cases c : k = .non
    · rw [if_neg (by simp [c]), if_neg (by simp [c]), ih]
    · rw [if_pos c, if_pos (by simp [c]), List.map_cons, List.map_cons, ih]
  | _ :: _, [], _, e, _ => by simp at e
  | _ :: _, _ :: _, [], _, f => by simp at f
theorem triP_mem {r h : List Ky} {b : List Int} {t : Tri} (m : t ∈ triP r h b) : t.1 ∈ r ∧ t.2.1 ∈ h ∧ t.2.2 ∈ b ∧ t.1 ≠ .non := by
  unfold triP at m
  rw [List.mem_filter] at m
  obtain ⟨m1, m2⟩ := m
  obtain ⟨a, c, d⟩ := t
  have := List.of_mem_zip m1
  exact ⟨this.1, (List.of_mem_zip this.2).1, (List.of_mem_zip this.2).2, of_decide_eq_true m2⟩
section
variable {S : Sh} {y z : Ky} {q : Nat} {t : Tri}
theorem tri_lv (o : S.Ok) : S.tri.map (fun t => (t.1, t.2.1)) = S.lv := triP_lv _ _ _ o.hl o.bl
theorem tri_keys (o : S.Ok) : S.tri.map Prod.fst = S.keys := by
  unfold Sh.keys
  rw [← tri_lv o, List.map_map]
  rfl
theorem tri_len (o : S.Ok) : S.tri.length = S.keys.length := by rw [← tri_keys o, List.length_map]
theorem tri_born (o : S.Ok) : S.tri.map (fun t => t.2.2) = keptI S.row S.born := triP_born _ _ _ o.hl o.bl
theorem tri_ok (o : S.Ok) (m : t ∈ S.tri) : KeyOk t.1 ∧ HVal t.2.1 ∧ 0 < t.2.2 ∧ t.2.2 ≤ S.com := by
  obtain ⟨a, b, c, d⟩ := triP_mem m
  exact ⟨(o.cw.rok _ a).resolve_left d, o.hv _ b, o.bc _ c⟩
theorem tri_sorted (o : S.Ok) : (S.tri.map fun t => t.2.2).Pairwise (· < ·) := by
  rw [tri_born o]
  exact o.bi.sublist (keptI_sub _ _ o.bl)
theorem tri_key (o : S.Ok) (m : y ∈ S.keys) : ∃ t ∈ S.tri, t.1 = y := by
  rw [← tri_keys o] at m
  obtain ⟨t, h1, h2⟩ := List.mem_map.mp m
  exact ⟨t, h1, h2⟩
theorem key_tri (o : S.Ok) (m : t ∈ S.tri) : t.1 ∈ S.keys := by
  rw [← tri_keys o]
  exact List.mem_map_of_mem m
theorem Sh.Ok.tsplit (o : S.Ok) (e : S.row[q]? = some y) (n : y ≠ .non) : ∃ (A B : List Tri) (z : Ky) (b : Int), S.tri = A ++ (y, z, b) :: B ∧ S.held[q]? = some z ∧ S.born[q]? = some b ∧ (∀ u, (S.hold q u).tri = A ++ (y, u, b) :: B) ∧ (S.went q y).tri = A ++ B ∧
    (∀ p ∈ A, p.1 ≠ y) ∧ (∀ p ∈ B, p.1 ≠ y) ∧ ((∀ t, q < t → S.row.getD t .non = .non) → B = []) := by
  obtain ⟨r1, r2, er, el⟩ := split_at e
  have hq := (List.getElem?_eq_some_iff.mp e).1
  have hl := o.hl
  have hb := o.bl
  obtain ⟨z0, ez⟩ : ∃ z, S.held[q]? = some z := ⟨_, List.getElem?_eq_getElem (by omega)⟩
  obtain ⟨b0, eb⟩ : ∃ z, S.born[q]? = some z := ⟨_, List.getElem?_eq_getElem (by omega)⟩
  obtain ⟨h1, h2, eh, eg⟩ := split_at ez
  obtain ⟨c1, c2, ec, ek⟩ := split_at eb
  have one : ∀ u, triP (r1 ++ y :: r2) (h1 ++ u :: h2) (c1 ++ b0 :: c2) = triP r1 h1 c1 ++ (y, u, b0) :: triP r2 h2 c2 := fun u => by
    rw [triP_append _ _ _ _ _ _ (by omega) (by omega), triP_cons, if_pos n]
  have uq : ∀ t, S.row[t]? = some y → t = q := fun t h => o.cw.nd t q y h e n
  refine ⟨triP r1 h1 c1, triP r2 h2 c2, z0, b0, ?_, ez, eb, fun u => ?_, ?_, fun p m => ?_, fun p m => ?_, fun h => ?_⟩
  · have := one z0
    rw [← er, ← eh, ← ec] at this
    exact this
  · show triP S.row (S.held.set q u) S.born = _
    rw [← one u, er, ec]
    congr 1
    rw [eh, ← eg]
    exact set_mid _ _ _ _
  · show triP (S.row.set q .non) (S.held.set q .non) S.born = _
    have e1 : S.row.set q .non = r1 ++ .non :: r2 := by rw [er, ← el]; exact set_mid _ _ _ _
    have e2 : S.held.set q .non = h1 ++ .non :: h2 := by rw [eh, ← eg]; exact set_mid _ _ _ _
    rw [e1, e2, ec, triP_append _ _ _ _ _ _ (by omega) (by omega), triP_cons, if_neg (by simp)]
  · intro c
    obtain ⟨t, ht, et⟩ := List.mem_iff_getElem.mp (triP_mem m).1
    have := uq t (by rw [er, List.getElem?_append_left ht, List.getElem?_eq_getElem ht, et, c])
    omega
  · intro c
    obtain ⟨t, ht, et⟩ := List.mem_iff_getElem.mp (triP_mem m).1
    have := uq (r1.length + 1 + t) (by
      rw [er, List.getElem?_append_right (by omega), show r1.length + 1 + t - r1.length = t + 1 by omega, List.getElem?_cons_succ, List.getElem?_eq_getElem ht, et, c])
    omega
  · rw [List.eq_nil_iff_forall_not_mem]
    intro p m
    obtain ⟨k1, -, -, k3⟩ := triP_mem m
    obtain ⟨t, ht, et⟩ := List.mem_iff_getElem.mp k1
    have := h (r1.length + 1 + t) (by omega)
    rw [List.getD_eq_getElem?_getD, er, List.getElem?_append_right (by omega), show r1.length + 1 + t - r1.length = t + 1 by omega, List.getElem?_cons_succ, List.getElem?_eq_getElem ht, et] at this
    exact k3 this
theorem come_tri (o : S.Ok) (n : y ≠ .non) : (S.come y z).tri = S.tri ++ [(y, z, S.com + 1)] := by
  show triP (S.row ++ [y]) (S.held ++ [z]) (S.born ++ [S.com + 1]) = _
  rw [triP_append _ _ _ _ _ _ o.hl.symm o.bl.symm, triP_cons, if_pos n]
  rfl
theorem triP_again : ∀ (l : List Tri), (∀ t ∈ l, t.1 ≠ .non) → triP (l.map fun t => t.1) (l.map fun t => t.2.1) (l.map fun t => t.2.2) = l
  | [], _ => rfl
  | t :: l, h => by
    rw [List.map_cons, List.map_cons, List.map_cons, triP_cons, if_pos (h t List.mem_cons_self), triP_again l fun s m => h s (List.mem_cons_of_mem _ m)]
theorem tidy_tri (o : S.Ok) : S.tidy.tri = S.tri := by
  show triP (S.lv.map Prod.fst) (S.lv.map Prod.snd) (keptI S.row S.born) = S.tri
  rw [← tri_lv o, ← tri_born o, List.map_map, List.map_map]
  exact triP_again _ fun t m => (triP_mem m).2.2.2
theorem emptied_tri : S.emptied.tri = [] := rfl
theorem new_tri {j : Nat} : (Sh.new j).tri = [] := rfl
/-- a put, told by the living pairs -/
def putTri (l : List Tri) (y z : Ky) (n : Int) : List Tri := if y ∈ l.map Prod.fst then l.map (fun t => if t.1 = y then (y, z, t.2.2) else t) else l ++ [(y, z, n)]
theorem map_mid {A B : List Tri} {z0 : Ky} {b : Int} (h1 : ∀ p ∈ A, p.1 ≠ y) (h2 : ∀ p ∈ B, p.1 ≠ y) : (A ++ (y, z0, b) :: B).map (fun t => if t.1 = y then (y, z, t.2.2) else t) = A ++ (y, z, b) :: B := by
  have e : ∀ l : List Tri, (∀ p ∈ l, p.1 ≠ y) → l.map (fun t => if t.1 = y then (y, z, t.2.2) else t) = l := fun l h => by
    conv => rhs; rw [← List.map_id l]
    exact List.map_congr_left fun t m => by rw [if_neg (h t m)]; rfl
  rw [List.map_append, List.map_cons, e A h1, e B h2, if_pos rfl]
theorem putT_tri (o : S.Ok) (yk : KeyOk y) : (S.putT y z).2.tri = putTri S.tri y z (S.com + 1) := by
  have n := yk.ne_non
  unfold Sh.putT putTri
  rw [tri_keys o]
  cases e : S.find y with
  | some q =>
    have m : y ∈ S.keys := by
      refine Classical.byContradiction fun c => ?_
      rw [(keys_none o n).mpr c] at e
      cases e
    rw [if_pos m]
    obtain ⟨A, B, z', b, e1, -, -, e2, -, h1, h2, -⟩ := o.tsplit ((o.find_some n).mp e) n
    dsimp only
    rw [e2, e1, map_mid h1 h2]
  | none =>
    have m := (keys_none o n).mp e
    rw [if_neg m]
    dsimp only
    split
    · show triP (S.tidy.row ++ [y]) (S.tidy.held ++ [z]) (S.tidy.born ++ [S.com + 1]) = _
      have hl : S.tidy.row.length = S.tidy.held.length := by show (S.lv.map Prod.fst).length = (S.lv.map Prod.snd).length; rw [List.length_map, List.length_map]
      have hb : S.tidy.row.length = S.tidy.born.length := by
        show (S.lv.map Prod.fst).length = (keptI S.row S.born).length
        rw [List.length_map, keptI_len _ _ _ o.hl o.bl]
        rfl
      rw [triP_append _ _ _ _ _ _ hl hb, triP_cons, if_pos n]
      have := tidy_tri o
      unfold Sh.tri at this
      rw [this]
      rfl
    · exact come_tri o n
theorem went_tri (o : S.Ok) (n : y ≠ .non) (e : S.find y = some q) : ∃ (A B : List Tri) (z : Ky) (b : Int), S.tri = A ++ (y, z, b) :: B ∧ S.held[q]? = some z ∧ S.born[q]? = some b ∧ (S.went q y).tri = A ++ B ∧ (∀ p ∈ A, p.1 ≠ y) ∧ ∀ p ∈ B, p.1 ≠ y := by
  obtain ⟨A, B, z, b, e1, e2, e3, -, e5, e6, e7, -⟩ := o.tsplit ((o.find_some n).mp e) n
  exact ⟨A, B, z, b, e1, e2, e3, e5, e6, e7⟩
theorem tri_uniq (o : S.Ok) {A B : List Tri} {t : Tri} (e : S.tri = A ++ t :: B) : (∀ p ∈ A, p.1 ≠ t.1) ∧ ∀ p ∈ B, p.1 ≠ t.1 := by
  have nd := keys_nodup o
  rw [← tri_keys o, e, List.map_append, List.map_cons, List.nodup_append, List.nodup_cons] at nd
  obtain ⟨-, ⟨n1, -⟩, n2⟩ := nd
  exact ⟨fun p m c => n2 p.1 (List.mem_map_of_mem m) t.1 List.mem_cons_self c, fun p m c => n1 (c ▸ List.mem_map_of_mem m)⟩
end
end My
namespace My
open PySem PySem.Spec PyProof.Rows L2
/-! a law's own dict of rows, beside a table -/
def FOk (f : Tri → Ky) : Prop := ∀ t : Tri, KeyOk t.1 → HVal t.2.1 → (f t).val = true
structure LOk (l : List Tri) : Prop where
  ok : ∀ t ∈ l, KeyOk t.1 ∧ HVal t.2.1
  nd : (l.map Prod.fst).Nodup
def rowsT (w : World) (d : Addr) (f : Tri → Ky) (l : List Tri) : Thing := mixT w d (l.map Prod.fst) (.ks (l.map f))
theorem Sh.Ok.lok {S : Sh} (o : S.Ok) : LOk S.tri := ⟨fun t m => ⟨(tri_ok o m).1, (tri_ok o m).2.1⟩, by rw [tri_keys o]; exact keys_nodup o⟩
theorem KysAt.lessI {H : Hp} : ∀ {ks : List Ky} {ws : List V} (j : Nat), KysAt H ws ks → KysAt H (ws.eraseIdx j) (ks.eraseIdx j)
  | [], _, _, h => by cases h; exact .nil
  | k :: ks, _, 0, h => by cases h with | cons a t => exact t
  | k :: ks, _, j + 1, h => by cases h with | cons a t => exact .cons a (KysAt.lessI j t)
theorem LOk.uniq {l A B : List Tri} {t : Tri} (o : LOk l) (e : l = A ++ t :: B) : (∀ p ∈ A, p.1 ≠ t.1) ∧ ∀ p ∈ B, p.1 ≠ t.1 := by
  have nd := o.nd
  rw [e, List.map_append, List.map_cons, List.nodup_append, List.nodup_cons] at nd
  obtain ⟨-, ⟨n1, -⟩, n2⟩ := nd
  exact ⟨fun p m c => n2 p.1 (List.mem_map_of_mem m) t.1 List.mem_cons_self c, fun p m c => n1 (c ▸ List.mem_map_of_mem m)⟩
theorem LOk.inj {l : List Tri} (o : LOk l) {s t : Tri} (hs : s ∈ l) (ht : t ∈ l) (e : s.1 = t.1) : s = t := by
  obtain ⟨A, B, es⟩ := List.append_of_mem ht
  obtain ⟨h1, h2⟩ := o.uniq es
  rw [es, List.mem_append, List.mem_cons] at hs
  rcases hs with h | h | h
  · exact absurd e (h1 s h)
  · exact h
  · exact absurd e (h2 s h)
theorem mem_split {l : List Tri} {y : Ky} (m : y ∈ l.map Prod.fst) : ∃ A t B, l = A ++ t :: B ∧ t.1 = y := by
  obtain ⟨t, h1, h2⟩ := List.mem_map.mp m
  obtain ⟨A, B, e⟩ := List.append_of_mem h1
  exact ⟨A, t, B, e, h2⟩
theorem putTri_old {l A B : List Tri} {t : Tri} {z : Ky} {n : Int} (o : LOk l) (e : l = A ++ t :: B) : putTri l t.1 z n = A ++ (t.1, z, t.2.2) :: B := by
  obtain ⟨h1, h2⟩ := o.uniq e
  unfold putTri
  rw [if_pos (by rw [e]; simp), e]
  exact map_mid h1 h2
theorem putTri_new {l : List Tri} {y z : Ky} {n : Int} (c : y ∉ l.map Prod.fst) : putTri l y z n = l ++ [(y, z, n)] := if_neg c
section
variable {Hb H : Hp} {ts : List Thing} {i j : Nat} {w : World} {d a C CN CL : Addr} {f : Tri → Ky} {l A B : List Tri} {t : Tri} {v u : V} {y z : Ky} {n : Int} {Q : VK} {E : XK} {R : Hp → Prop} {S : Sh}
theorem KeyOk.mk (k : KeyOk y) : MKey y := k.mkey
theorem GW.rows (g : GW Hb H ts) (e : ts[j]? = some (rowsT w d f l)) : ∃ vs, MixAt w H d (l.map Prod.fst) vs ∧ Ky.vals (l.map f) = true ∧ KysAt H vs (l.map f) := g.mix e
theorem rows_in (g : GW Hb H ts) (e : ts[j]? = some (rowsT w d f l)) (hy : KyAt H v y) (yk : KeyOk y) (q : Q (.bl (decide (y ∈ l.map Prod.fst))) H) : rInM w v (.ref d) H Q := by
  obtain ⟨vs, m, -⟩ := g.mix e
  exact in_mix m hy yk.mkey q
theorem rows_notin (g : GW Hb H ts) (e : ts[j]? = some (rowsT w d f l)) (hy : KyAt H v y) (yk : KeyOk y) (q : Q (.bl (!decide (y ∈ l.map Prod.fst))) H) : rNotInM w v (.ref d) H Q := by
  obtain ⟨vs, m, -⟩ := g.mix e
  exact notin_mix m hy yk.mkey q
theorem at_split {α : Type} {A B : List α} {x : α} : (A ++ x :: B)[A.length]? = some x := by
  rw [List.getElem?_append_right (Nat.le_refl _), Nat.sub_self]
  rfl
theorem rows_ix (g : GW Hb H ts) (e : ts[j]? = some (rowsT w d f l)) (m : t ∈ l) (hy : KyAt H v t.1) (yk : KeyOk t.1) (k : ∀ x, KyAt H x (f t) → Q x H) : rIxM w (.ref d) v H Q := by
  obtain ⟨vs, mx, -, hv⟩ := g.mix e
  obtain ⟨A, B, rfl⟩ := List.append_of_mem m
  have e1 : ((A ++ t :: B).map Prod.fst)[A.length]? = some t.1 := by rw [List.getElem?_map, at_split]; rfl
  have e2 : ((A ++ t :: B).map f)[A.length]? = some (f t) := by rw [List.getElem?_map, at_split]; rfl
  obtain ⟨x, hx, hk⟩ := hv.get' e2
  exact ⟨t.1, d, _, vs, A.length, x, rfl, hy, yk.mkey, mx, e1, hx, k x hk⟩
theorem rows_get (g : GW Hb H ts) (e : ts[j]? = some (rowsT w d f l)) (hy : KyAt H v y) (yk : KeyOk y) (k0 : y ∉ l.map Prod.fst → Q .non H) (k : ∀ t ∈ l, t.1 = y → ∀ x, KyAt H x (f t) → Q x H) : rGetM w (.ref d) [v] H Q := by
  obtain ⟨vs, mx, -, hv⟩ := g.mix e
  refine ⟨v, y, d, _, vs, rfl, rfl, hy, yk.mkey, mx, k0, fun i x h1 h2 => ?_⟩
  rw [List.getElem?_map] at h1
  obtain ⟨t, e1, e2⟩ := Option.map_eq_some_iff.mp h1
  obtain ⟨z, hz, hk⟩ := hv.get h2
  rw [List.getElem?_map, e1] at hz
  cases hz
  exact k t (List.mem_of_getElem? e1) e2 x hk
theorem rows_new (g : GW Hb H ts) (e : ts[j]? = some (rowsT w d f l)) (fo : FOk f) (hy : KyAt H v y) (yk : KeyOk y) (hz : HVal z) (ln : l.length < sizeLine) (c : y ∉ l.map Prod.fst) (hu : KyAt H u (f (y, z, n)))
    (k : ∀ H', GW Hb H' (ts.set j (rowsT w d f (l ++ [(y, z, n)]))) → Keeps H H' → R H') : rSetM w (.ref d) v u H R := by
  obtain ⟨vs, mx, vl, hv⟩ := g.mix e
  refine ⟨y, d, _, vs, rfl, hy, yk.mkey, mx, by rw [List.length_map]; exact ln, fun o m no => ?_⟩
  have e1 : putKs (l.map Prod.fst) y = (l ++ [(y, z, n)]).map Prod.fst := by unfold putKs; rw [if_neg c, List.map_append]; rfl
  have e2 : putVs (l.map Prod.fst) vs y u = vs ++ [u] := if_neg c
  rw [e1, e2] at m
  have q : Pay.at H (vs ++ [u]) (.ks ((l ++ [(y, z, n)]).map f)) := by
    rw [List.map_append]
    exact ⟨vals_append vl (vals_one (fo _ yk hz)), hv.append (.cons hu .nil)⟩
  obtain ⟨g', kp⟩ := g.mput e m q
  exact k _ g' kp
theorem rows_old (g : GW Hb H ts) (e : ts[j]? = some (rowsT w d f l)) (fo : FOk f) (lo : LOk l) (es : l = A ++ t :: B) (hy : KyAt H v t.1) (hz : HVal z) (ln : l.length < sizeLine) (hu : KyAt H u (f (t.1, z, t.2.2)))
    (k : ∀ H', GW Hb H' (ts.set j (rowsT w d f (A ++ (t.1, z, t.2.2) :: B))) → Keeps H H' → R H') : rSetM w (.ref d) v u H R := by
  obtain ⟨vs, mx, vl, hv⟩ := g.mix e
  have yk := (lo.ok t (by rw [es]; simp)).1
  have nd := lo.nd
  refine ⟨t.1, d, _, vs, rfl, hy, yk.mkey, mx, by rw [List.length_map]; exact ln, fun o m no => ?_⟩
  subst es
  have e0 : ((A ++ t :: B).map Prod.fst)[A.length]? = some t.1 := by rw [List.getElem?_map, at_split]; rfl
  have mem := List.mem_of_getElem? e0
  have e1 : putKs ((A ++ t :: B).map Prod.fst) t.1 = (A ++ (t.1, z, t.2.2) :: B).map Prod.fst := by
    unfold putKs
    rw [if_pos mem]
    simp
  have e2 : putVs ((A ++ t :: B).map Prod.fst) vs t.1 u = vs.set A.length u := by
    unfold putVs
    rw [if_pos mem, idx_of nd e0]
  rw [e1, e2] at m
  have e3 : ((A ++ t :: B).map f).set A.length (f (t.1, z, t.2.2)) = (A ++ (t.1, z, t.2.2) :: B).map f := by
    rw [List.map_append, List.map_append, List.map_cons, List.map_cons, ← List.length_map (f := f) (as := A)]
    exact set_mid _ _ _ _
  have q : Pay.at H (vs.set A.length u) (.ks ((A ++ (t.1, z, t.2.2) :: B).map f)) := by
    rw [← e3]
    exact ⟨vals_set vl (fo _ yk hz), hv.set hu⟩
  obtain ⟨g', kp⟩ := g.mput e m q
  exact k _ g' kp
theorem rows_set (g : GW Hb H ts) (e : ts[j]? = some (rowsT w d f l)) (fo : FOk f) (lo : LOk l) (hy : KyAt H v y) (yk : KeyOk y) (hz : HVal z) (ln : l.length < sizeLine) (hu : ∀ n, KyAt H u (f (y, z, n))) (n : Int)
    (k : ∀ H', GW Hb H' (ts.set j (rowsT w d f (putTri l y z n))) → Keeps H H' → R H') : rSetM w (.ref d) v u H R := by
  by_cases c : y ∈ l.map Prod.fst
  · obtain ⟨A, t, B, es, rfl⟩ := mem_split c
    refine rows_old g e fo lo es hy hz ln (hu _) ?_
    rw [← putTri_old lo es]
    exact k
  · refine rows_new (n := n) g e fo hy yk hz ln c (hu _) ?_
    rw [← putTri_new c]
    exact k
theorem rows_pop (g : GW Hb H ts) (e : ts[j]? = some (rowsT w d f l)) (lo : LOk l) (es : l = A ++ t :: B) (hy : KyAt H v t.1)
    (k : ∀ x H', KyAt H' x (f t) → GW Hb H' (ts.set j (rowsT w d f (A ++ B))) → Keeps H H' → Q x H') : rPopM w (.ref d) [v] H Q := by
  obtain ⟨vs, mx, vl, hv⟩ := g.mix e
  have yk := (lo.ok t (by rw [es]; simp)).1
  subst es
  have e0 : ((A ++ t :: B).map Prod.fst)[A.length]? = some t.1 := by rw [List.getElem?_map, at_split]; rfl
  have e2 : ((A ++ t :: B).map f)[A.length]? = some (f t) := by rw [List.getElem?_map, at_split]; rfl
  obtain ⟨x, hx, hk⟩ := hv.get' e2
  refine ⟨v, t.1, d, _, vs, A.length, x, rfl, rfl, hy, yk.mkey, mx, e0, hx, fun o m no => ?_⟩
  have ee : ∀ h : Tri → Ky, ((A ++ t :: B).map h).eraseIdx A.length = (A ++ B).map h := fun h => by
    rw [List.map_append, List.map_append, List.map_cons, List.eraseIdx_append_of_length_le (by rw [List.length_map]; exact Nat.le_refl _), List.length_map, Nat.sub_self]
    rfl
  rw [ee] at m
  have hl := hv.lessI A.length
  rw [ee] at hl
  have vl2 : Ky.vals ((A ++ B).map f) = true := vals_iff.mpr fun k m => vals_iff.mp vl k (by
    rw [List.map_append, List.mem_append] at m ⊢
    exact m.imp id fun h => by rw [List.map_cons]; exact List.mem_cons_of_mem _ h)
  obtain ⟨g', kp⟩ := g.mput (p' := .ks ((A ++ B).map f)) e m ⟨vl2, hl⟩
  exact k x _ (kp _ _ (vals_iff.mp vl _ (List.mem_of_getElem? e2)) hk) g' kp
theorem rows_clear (g : GW Hb H ts) (e : ts[j]? = some (rowsT w d f l)) (k : ∀ H', GW Hb H' (ts.set j (rowsT w d f [])) → Keeps H H' → Q .non H') : rClearM w (.ref d) [] H Q := by
  obtain ⟨vs, mx, -⟩ := g.mix e
  refine ⟨d, _, vs, rfl, rfl, mx, fun o m no => ?_⟩
  obtain ⟨g', kp⟩ := g.mput (ks' := []) (p' := .ks []) e m ⟨rfl, .nil⟩
  exact k _ g' kp
theorem rows_list (g : GW Hb H ts) (e : ts[j]? = some (rowsT w d f l)) (k : ∀ Hc H' p us, Same Hb Hc → Same H H' → Hc p = some (.lst us) → H' p = some (.lst us) → KysAt H' us (l.map Prod.fst) → GW Hc H' ts → Q (.ref p) H') : rListM w [.ref d] H Q := by
  obtain ⟨vs, mx, -⟩ := g.mix e
  refine ⟨d, _, vs, rfl, mx, fun p us fp hu => ?_⟩
  exact k _ _ p us (Same_upd (Same.refl _) (Same_fresh g.sm fp)) (Same_upd (Same.refl _) fp) upd_same upd_same hu (g.base fp)
theorem rows_len (g : GW Hb H ts) (e : ts[j]? = some (rowsT w d f l)) (q : Q (.int (l.length : Nat)) H) : rLenM w [.ref d] H Q := by
  obtain ⟨vs, mx, -⟩ := g.mix e
  exact ⟨d, _, vs, rfl, mx, by rw [List.length_map]; exact q⟩
theorem rows_isM (g : GW Hb H ts) (e : ts[j]? = some (rowsT w d f l)) : IsMix w H (.ref d) := by
  obtain ⟨vs, mx, -⟩ := g.mix e
  exact mx.isM
/-! the table's deeds, told by the living pairs -/
theorem GW.met (g : GW Hb H ts) (e : ts[i]? = some (shT C a S)) {m : Str} (l : ∀ c r h b : Addr, (shF .no c r h b S).lookup m = none) : MetAt H a C m := by
  obtain ⟨fp, hS, -⟩ := g.sh e
  exact hS.met l
theorem GW.ok (g : GW Hb H ts) (e : ts[i]? = some (shT C a S)) : S.Ok := by
  obtain ⟨fp, hS, -⟩ := g.sh e
  exact hS.ok
theorem KeyOk.no {P : Prop} (k : KeyOk y) : within 3 y = false → P := fun e => by rw [k.w] at e; cases e
theorem tri_lvlen (o : S.Ok) : S.lv.length = S.tri.length := by rw [tri_len o, keys_lv0]
where keys_lv0 : S.lv.length = S.keys.length := by unfold Sh.keys; rw [List.length_map]
theorem putT_old (o : S.Ok) (yk : KeyOk y) : (S.putT y z).1 = !decide (y ∈ S.tri.map Prod.fst) := by rw [tri_keys o]; exact (putT_keys o yk).2
theorem tab_put (g : GW Hb H ts) (e : ts[i]? = some (shT C a S)) (hy : KyAt H v y) (yk : KeyOk y) (hu : KyAt H u z) (hz : HVal z) (ln : S.tri.length ≤ 1365)
    (k : ∀ H', GW Hb H' (ts.set i (shT C a (S.putT y z).2)) → Keeps H H' → Q (.bl (!decide (y ∈ S.tri.map Prod.fst))) H') : spPutT C CN [.ref a, v, u] H Q E := by
  obtain ⟨fp, hS, st⟩ := g.sh e
  have ok := hS.ok
  refine ⟨a, .no, fp, S, v, y, u, z, rfl, hS, hy, yk.f, fun _ => yk, hu, hz, by rw [tri_lvlen ok]; exact ln, yk.no, fun _ H1 fp1 gr sb hS1 => ?_⟩
  obtain ⟨g', kp⟩ := st H1 fp1 _ gr sb hS1
  rw [putT_old ok yk]
  exact k _ g' kp
theorem tab_take (g : GW Hb H ts) (e : ts[i]? = some (shT C a S)) (hy : KyAt H v y) (yk : KeyOk y) (k0 : y ∉ S.tri.map Prod.fst → ∀ H', Same H H' → E (.ref CL) none H')
    (k : ∀ A t B q, S.tri = A ++ t :: B → t.1 = y → (S.went q y).tri = A ++ B → ∀ H' x, GW Hb H' (ts.set i (shT C a (S.went q y))) → Keeps H H' → KyAt H' x t.2.1 → Q x H') : spTake C CN CL [.ref a, v] H Q E := by
  obtain ⟨fp, hS, st⟩ := g.sh e
  have ok := hS.ok
  refine ⟨a, .no, fp, S, v, y, rfl, hS, hy, yk.f, fun _ => yk, yk.no, fun _ => ?_⟩
  cases eq : S.find y with
  | none => exact k0 (by rw [tri_keys ok]; exact (keys_none ok yk.ne_non).mp eq)
  | some q =>
    intro H1 fp1 x z gr sb hS1 hz hx
    obtain ⟨A, B, z', b, e1, e2, -, e4, -, -⟩ := went_tri ok yk.ne_non eq
    rw [hz] at e2
    cases e2
    obtain ⟨g', kp⟩ := st H1 fp1 _ gr sb hS1
    exact k A _ B q e1 rfl e4 H1 x g' kp hx
theorem tab_last (g : GW Hb H ts) (e : ts[i]? = some (shT C a S)) (k0 : S.tri = [] → ∀ H', Same H H' → E (.ref CL) none H')
    (k : ∀ A t q, S.tri = A ++ [t] → (S.went q t.1).tri = A → ∀ H' x, GW Hb H' (ts.set i (shT C a (S.went q t.1))) → Keeps H H' → KyAt H' x (.tup [t.1, t.2.1]) → Q x H') : spTakeLast C CL [.ref a] H Q E := by
  obtain ⟨fp, hS, st⟩ := g.sh e
  have ok := hS.ok
  refine ⟨a, .no, fp, S, rfl, hS, ?_⟩
  cases el : S.last with
  | none =>
    have z := last_none ok el
    exact k0 (by
      have := tri_lvlen ok
      rw [z] at this
      exact List.length_eq_zero_iff.mp this.symm)
  | some q =>
    obtain ⟨y, e1, e2, e3⟩ := liv_key ok (ahead_liv el).2
    obtain ⟨A, B, z, b, h1, h2, -, -, h5, -, -, h8⟩ := ok.tsplit e1 e2.ne_non
    have := h8 (last_some ok el)
    subst this
    dsimp only
    rw [e3, show S.held.getD q .non = z by rw [List.getD_eq_getElem?_getD, h2]; rfl]
    intro H1 fp1 x gr sb hS1 hx
    obtain ⟨g', kp⟩ := st H1 fp1 _ gr sb hS1
    exact k A (y, z, b) q h1 (by rw [h5, List.append_nil]) H1 x g' kp hx
theorem tab_emptied (g : GW Hb H ts) (e : ts[i]? = some (shT C a S)) (k : ∀ H', GW Hb H' (ts.set i (shT C a S.emptied)) → Keeps H H' → Q .non H') : spEmptied C [.ref a] H Q E := by
  obtain ⟨fp, hS, st⟩ := g.sh e
  refine ⟨a, .no, fp, S, rfl, hS, fun H1 fp1 gr sb hS1 => ?_⟩
  obtain ⟨g', kp⟩ := st H1 fp1 _ gr sb hS1
  exact k _ g' kp
theorem tab_has (g : GW Hb H ts) (e : ts[i]? = some (shT C a S)) (hy : KyAt H v y) (yk : KeyOk y) (k : ∀ H', Same H H' → Q (.bl (decide (y ∈ S.tri.map Prod.fst))) H') : spHas C CN [.ref a, v] H Q E := by
  obtain ⟨fp, hS, st⟩ := g.sh e
  have ok := hS.ok
  refine ⟨a, .no, fp, S, v, y, rfl, hS, hy, yk.f, fun _ => yk, yk.no, fun _ H1 s1 => ?_⟩
  rw [keys_has ok yk.ne_non, ← tri_keys ok]
  exact k _ s1
theorem held_tri (ok : S.Ok) (yk : KeyOk y) : (y ∉ S.tri.map Prod.fst ∧ S.heldAt y = none) ∨ ∃ t ∈ S.tri, t.1 = y ∧ S.heldAt y = some t.2.1 := by
  unfold Sh.heldAt
  cases eq : S.find y with
  | none => exact .inl ⟨by rw [tri_keys ok]; exact (keys_none ok yk.ne_non).mp eq, rfl⟩
  | some q =>
    obtain ⟨A, B, z', b, e1, e2, -⟩ := went_tri ok yk.ne_non eq
    exact .inr ⟨(y, z', b), by rw [e1]; simp, rfl, e2⟩
theorem tab_at (g : GW Hb H ts) (e : ts[i]? = some (shT C a S)) (hy : KyAt H v y) (yk : KeyOk y) (k0 : y ∉ S.tri.map Prod.fst → ∀ H', Same H H' → E (.ref CL) none H') (k : ∀ t ∈ S.tri, t.1 = y → ∀ H' x, Same H H' → KyAt H' x t.2.1 → Q x H') : spAt C CN CL [.ref a, v] H Q E := by
  obtain ⟨fp, hS, st⟩ := g.sh e
  have ok := hS.ok
  refine ⟨a, .no, fp, S, v, y, rfl, hS, hy, yk.f, fun _ => yk, yk.no, fun _ => ?_⟩
  rcases held_tri ok yk with ⟨h1, h2⟩ | ⟨t, h1, h2, h3⟩
  · rw [h2]
    exact k0 h1
  · rw [h3]
    exact k t h1 h2
theorem tab_told (g : GW Hb H ts) (e : ts[i]? = some (shT C a S)) (hy : KyAt H v y) (yk : KeyOk y) (k0 : y ∉ S.tri.map Prod.fst → ∀ H', Same H H' → Q u H') (k : ∀ t ∈ S.tri, t.1 = y → ∀ H' x, Same H H' → KyAt H' x t.2.1 → Q x H') : spTold C CN [.ref a, v, u] H Q E := by
  obtain ⟨fp, hS, st⟩ := g.sh e
  have ok := hS.ok
  refine ⟨a, .no, fp, S, v, y, u, rfl, hS, hy, yk.f, fun _ => yk, yk.no, fun _ => ?_⟩
  rcases held_tri ok yk with ⟨h1, h2⟩ | ⟨t, h1, h2, h3⟩
  · rw [h2]
    exact k0 h1
  · rw [h3]
    exact k t h1 h2
theorem tab_many (g : GW Hb H ts) (e : ts[i]? = some (shT C a S)) (k : Q (.int (S.tri.length : Nat)) H) : spMany C [.ref a] H Q E := by
  obtain ⟨fp, hS, st⟩ := g.sh e
  have ok := hS.ok
  refine ⟨a, .no, fp, S, rfl, hS, ?_⟩
  rw [keys_many ok, ← tri_len ok]
  exact k
def triPair (t : Tri) : Ky := .tup [t.1, t.2.1]
theorem tab_pairs (g : GW Hb H ts) (e : ts[i]? = some (shT C a S)) (k : ∀ H' L xs, Same H H' → Fresh H L → H' L = some (.lst xs) → KysAt H' xs (S.tri.map triPair) → Q (.ref L) H') : spPairs C [.ref a] H Q E := by
  obtain ⟨fp, hS, st⟩ := g.sh e
  have ok := hS.ok
  refine ⟨a, .no, fp, S, rfl, hS, fun H1 L xs s1 fL eL hL => k H1 L xs s1 fL eL ?_⟩
  rw [pairs_lv ok, ← tri_lv ok, List.map_map] at hL
  exact hL
end
end My
namespace My
open PySem PySem.Spec PyProof.Rows L2
def f1 (t : Tri) : Ky := t.2.1
theorem f1_ok : FOk f1 := fun t _ h => h.1
section
variable {K : PySem.W.Frag} {Hb H : Hp} {ts : List Thing} {j : Nat} {w : World} {d p q D : Addr} {f : Tri → Ky} {l : List Tri} {us xs ys : List V} {σ : L2.St} {kx ky rx n : Nat} {Qd : Hp → Prop} {ks : List Ky}
/-- a key with what the rows hold of it -/
def pairF (f : Tri → Ky) (t : Tri) : Ky := .tup [t.1, f t]
theorem pairF_val (fo : FOk f) {t : Tri} (h : KeyOk t.1 ∧ HVal t.2.1) : (pairF f t).val = true := tup_vals (vals_two h.1.val (fo t h.1 h.2)) (by simp)
theorem map_vals (h : ∀ t ∈ l, (f t).val = true) : Ky.vals (l.map f) = true := vals_iff.mpr fun k m => by
  obtain ⟨t, mt, rfl⟩ := List.mem_map.mp m
  exact h t mt
/-- [(k, rows[k]) for k in a list of the rows' keys] -/
theorem pairs_lc (g : GW Hb H ts) (e : ts[j]? = some (rowsT w d f l)) (fo : FOk f) (lo : LOk l) (ln : l.length ≤ 5000) (eP : H p = some (.lst us)) (hu : KysAt H us (l.map Prod.fst)) (hD : Fresh H D)
    (er : ∀ x : V, ((wipe σ [kx]).set kx (some x))[rx]? = some (some (.ref d))) (ek : ∀ x : V, ((wipe σ [kx]).set kx (some x))[kx]? = some (some x)) (ew : ∀ x : V, wipe ((wipe σ [kx]).set kx (some x)) [kx] = wipe σ [kx])
    (k : ∀ H' ys, Same H H' → H' D = some (.lst ys) → KysAt H' ys (l.map (pairF f)) → Qd H') : lcGo (Itl K p) (gName kx) tYes (tTup (tCons (tVar kx) (tCons (tOp (rIxM w) (tVar rx) (tVar kx)) tNil))) [kx] σ H D Qd := by
  have lu := KysAt.len hu
  rw [List.length_map] at lu
  refine go_lck (walk_list (xs := us)) (fun i => (l.take i).map (pairF f)) rfl (fun i _ => map_vals fun t m => pairF_val fo (lo.ok t (List.mem_of_mem_take m))) (by rw [sizeLine_eq]; omega) (fun i => by rw [List.length_map, List.length_take]; omega) hD (fun H' s => SqL.of (s _ _ eP)) ?_ fun H' ys s eD hy => ?_
  · rintro N Z i x H4 H5 hi s4 ⟨rfl, hx⟩ hN -
    obtain ⟨y, hy, hv⟩ := hu.get hx
    rw [List.getElem?_map] at hy
    obtain ⟨t, ht, rfl⟩ := Option.map_eq_some_iff.mp hy
    have mt := List.mem_of_getElem? ht
    obtain ⟨yk, hz⟩ := lo.ok t mt
    rw [rd_gName]
    refine ⟨ew x, ?_⟩
    rw [rd_yes, if_pos rfl]
    simp only [rd_tup, rd_cons, rd_var, ek, er, rd_op, rd_nil]
    refine rows_ix (j := j) (g.ext s4) e mt (hv.same s4 _ _) yk fun z hz => ⟨by rw [sizeLine_eq]; simp, fun T hT => ?_⟩
    have sT := Same_upd (o := .tup [x, z]) (Same.refl H5) hT
    refine hN _ (pairF f t) _ ?_ sT (.tup upd_same (.cons (hv.same (s4.trans sT) _ _) (.cons (hz.same sT _ _) .nil)))
    obtain ⟨h1, h2⟩ := List.getElem?_eq_some_iff.mp ht
    rw [List.take_succ_eq_append_getElem h1, h2, List.map_append]
    rfl
  · rw [lu, List.take_length] at hy
    exact k H' ys s eD hy
/-- all the parts of two lists of the same data are alike -/
theorem same_lc (ha : H p = some (.lst xs)) (hb : H q = some (.lst ys)) (hx : KysAt H xs ks) (hy : KysAt H ys ks) (hk : ∀ k ∈ ks, k.val = true ∧ k.dep ≤ n) (ln : ks.length ≤ 100000) (hD : Fresh H D)
    (ek : ∀ x y : V, (((wipe σ [kx, ky]).set kx (some x)).set ky (some y))[kx]? = some (some x)) (el : ∀ x y : V, (((wipe σ [kx, ky]).set kx (some x)).set ky (some y))[ky]? = some (some y)) (ew : ∀ x y : V, wipe (((wipe σ [kx, ky]).set kx (some x)).set ky (some y)) [kx, ky] = wipe σ [kx, ky])
    (k : ∀ H', Same H H' → H' D = some (.lst (List.replicate xs.length (V.bl true))) → Qd H') : lcGo (Itz K p q) (gTup K 2 (gCons (gName kx) (gCons (gName ky) gNil))) tYes (tCall (spSame n) [] E0 (tCons (tVar kx) (tCons (tVar ky) tNil))) [kx, ky] σ H D Qd := by
  have e1 := KysAt.len hx
  have e2 := KysAt.len hy
  refine go_lct (walk_zip (xs := xs) (ys := ys) (n := xs.length) (by omega)) (by rw [sizeLine_eq]; omega) hD (fun H' s => ⟨SqL.of (s _ _ ha), SqL.of (s _ _ hb)⟩) ?_ k gTup2_mono
  rintro N i x H4 H5 hi s4 ⟨T, x1, y1, rfl, hT, rfl, g1, g2⟩ hN
  obtain ⟨k1, hk1, hx1⟩ := hx.get g1
  obtain ⟨k2, hk2, hy1⟩ := hy.get g2
  rw [hk1] at hk2
  cases hk2
  refine ⟨T, [x1, y1], rfl, SqT.of upd_same, rfl, ?_⟩
  simp only [rd_gCons, rd_gName, rd_gNil, rd_call, rd_cons, rd_var, ek, el, rd_nil, List.append_nil]
  refine ⟨ew _ _, ?_⟩
  have sT := Same_upd (o := .tup [x1, y1]) s4 hT
  obtain ⟨q1, q2⟩ := hk k1 (List.mem_of_getElem? hk1)
  exact ⟨_, _, k1, rfl, hx1.same sT _ _, hy1.same sT _ _, ⟨q1, q2⟩, fun H7 s7 => hN _ ((Same_upd (Same.refl _) hT).trans s7)⟩
end
end My
namespace My
open PySem PySem.Spec PyProof.Rows L2
/-! the least above, the greatest below a number of coming -/
def f2 (t : Tri) : Ky := .tup [.num t.2.2, t.1, t.2.1]
def f3 (t : Tri) : Ky := .tup [.num t.2.2, t.2.1]
theorem f2_ok : FOk f2 := fun t h1 h2 => tup_vals (show Ky.vals [.num t.2.2, t.1, t.2.1] = true by rw [Ky.vals, vals_two h1.val h2.1]; rfl) (by simp)
theorem f3_ok : FOk f3 := fun t h1 h2 => tup_vals (vals_two rfl h2.1) (by simp)
def optK : Option Ky → Ky
  | none => .non
  | some k => k
def aboveO (l : List Tri) (n : Int) : Option Tri := l.find? fun t => decide (n < t.2.2)
def belowO (l : List Tri) (n : Int) : Option Tri := (l.filter fun t => decide (t.2.2 < n)).getLast?
section
variable {S : Sh} {t s : Tri} {n : Int} {l A B : List Tri} {q : Nat}
theorem tri_place (m : t ∈ S.tri) : ∃ r : Nat, S.row[r]? = some t.1 ∧ S.held[r]? = some t.2.1 ∧ S.born[r]? = some t.2.2 := by
  obtain ⟨m1, -⟩ := List.mem_filter.mp m
  obtain ⟨r, hr⟩ := List.mem_iff_getElem?.mp m1
  rw [List.getElem?_zip_eq_some, List.getElem?_zip_eq_some] at hr
  exact ⟨r, hr.1, hr.2.1, hr.2.2⟩
theorem born_lt (o : S.Ok) {i j : Nat} {a b : Int} (hi : S.born[i]? = some a) (hj : S.born[j]? = some b) (h : a < b) : i < j := by
  rcases Nat.lt_or_ge i j with g | g
  · exact g
  · obtain ⟨li, ei⟩ := List.getElem?_eq_some_iff.mp hi
    obtain ⟨lj, ej⟩ := List.getElem?_eq_some_iff.mp hj
    rcases Nat.lt_or_ge j i with g2 | g2
    · have := List.pairwise_iff_getElem.mp o.bi j i lj li g2
      omega
    · have : i = j := by omega
      subst this
      omega
theorem born_inj (o : S.Ok) {i j : Nat} {a : Int} (hi : S.born[i]? = some a) (hj : S.born[j]? = some a) : i = j := by
  obtain ⟨li, ei⟩ := List.getElem?_eq_some_iff.mp hi
  obtain ⟨lj, ej⟩ := List.getElem?_eq_some_iff.mp hj
  rcases Nat.lt_trichotomy i j with g | g | g
  · have := List.pairwise_iff_getElem.mp o.bi i j li lj g
    omega
  · exact g
  · have := List.pairwise_iff_getElem.mp o.bi j i lj li g
    omega
theorem tri_num (o : S.Ok) (hs : s ∈ S.tri) (ht : t ∈ S.tri) (e : s.2.2 = t.2.2) : s = t := by
  obtain ⟨i, h1, h2, h3⟩ := tri_place hs
  obtain ⟨j, g1, g2, g3⟩ := tri_place ht
  rw [e] at h3
  have := born_inj o h3 g3
  subst this
  rw [h1] at g1
  rw [h2] at g2
  obtain ⟨a, b, c⟩ := s
  obtain ⟨a', b', c'⟩ := t
  simp only [Option.some.injEq] at g1 g2 e
  rw [g1, g2, e]
theorem liv_tri (o : S.Ok) {f : Int → Bool} (h : S.liv f q = true) : ∃ t ∈ S.tri, S.row[q]? = some t.1 ∧ S.held[q]? = some t.2.1 ∧ S.born[q]? = some t.2.2 ∧ f t.2.2 = true ∧ S.trip q = f2 t := by
  obtain ⟨y, e1, e2, e3⟩ := liv_key o h
  obtain ⟨A, B, z, b, h1, h2, h3, -⟩ := o.tsplit e1 e2.ne_non
  refine ⟨(y, z, b), by rw [h1]; simp, e1, h2, h3, ?_, ?_⟩
  · unfold Sh.liv at h
    rw [Bool.and_eq_true] at h
    have := h.2
    unfold getI at this
    rw [Int.toNat_natCast, List.getD_eq_getElem?_getD, h3] at this
    exact this
  · unfold Sh.trip f2 getI
    rw [Int.toNat_natCast, List.getD_eq_getElem?_getD, List.getD_eq_getElem?_getD, List.getD_eq_getElem?_getD, e1, h2, h3]
    rfl
theorem place_liv (o : S.Ok) {f : Int → Bool} (m : t ∈ S.tri) (h : f t.2.2 = true) : ∃ r, S.liv f r = true ∧ r < S.row.length ∧ S.born[r]? = some t.2.2 := by
  obtain ⟨r, h1, h2, h3⟩ := tri_place m
  refine ⟨r, ?_, (List.getElem?_eq_some_iff.mp h1).1, h3⟩
  unfold Sh.liv getI
  rw [Int.toNat_natCast, List.getD_eq_getElem?_getD, List.getD_eq_getElem?_getD, h1, h3]
  have := (triP_mem m).2.2.2
  simp [this, h]
theorem sorted_le (o : S.Ok) (e : S.tri = A ++ t :: B) : (∀ s ∈ A, s.2.2 < t.2.2) ∧ ∀ s ∈ B, t.2.2 < s.2.2 := by
  have h := tri_sorted o
  rw [e, List.map_append, List.map_cons, List.pairwise_append, List.pairwise_cons] at h
  exact ⟨fun s m => h.2.2 _ (List.mem_map_of_mem m) _ List.mem_cons_self, fun s m => h.2.1.1 _ (List.mem_map_of_mem m)⟩
theorem after_tri (o : S.Ok) : match S.after n with
    | none => aboveO S.tri n = none
    | some q => ∃ t, aboveO S.tri n = some t ∧ S.trip q = f2 t := by
  cases e : S.after n with
  | none =>
    dsimp only
    unfold aboveO
    rw [List.find?_eq_none]
    intro t m h
    obtain ⟨r, h1, h2, -⟩ := place_liv (f := fun b => decide (n < b)) o m h
    unfold Sh.after at e
    rw [List.find?_eq_none] at e
    exact e r (List.mem_range.mpr h2) h1
  | some q =>
    obtain ⟨lq, hq⟩ := after_liv e
    obtain ⟨t, m, h1, h2, h3, h4, h5⟩ := liv_tri o hq
    refine ⟨t, ?_, h5⟩
    have h4 : n < t.2.2 := of_decide_eq_true h4
    unfold aboveO
    cases e2 : S.tri.find? fun t => decide (n < t.2.2) with
    | none =>
      rw [List.find?_eq_none] at e2
      exact absurd (decide_eq_true h4) (e2 t m)
    | some s =>
      have ms := List.mem_of_find?_eq_some e2
      have hs : n < s.2.2 := of_decide_eq_true (p := n < s.2.2) (List.find?_some (p := fun t : Tri => decide (n < t.2.2)) e2)
      rw [tri_num o ms m ?_]
      rcases Int.lt_trichotomy s.2.2 t.2.2 with g | g | g
      · obtain ⟨r, r1, r2, r3⟩ := place_liv (f := fun b => decide (n < b)) o ms (decide_eq_true hs)
        have lt := born_lt o r3 h3 g
        unfold Sh.after at e
        rw [List.find?_range_eq_some] at e
        have := e.2.2 r lt
        rw [r1] at this
        cases this
      · exact g
      · obtain ⟨X, Y, hX⟩ := List.find?_eq_some_iff_append.mp e2 |>.2
        have := (sorted_le o hX.1).2
        rw [hX.1, List.mem_append, List.mem_cons] at m
        rcases m with m | m | m
        · have := hX.2 t m
          simp at this
          omega
        · rw [m]
        · have := this t m
          omega
theorem ahead_tri (o : S.Ok) : match S.ahead n with
    | none => belowO S.tri n = none
    | some q => ∃ t, belowO S.tri n = some t ∧ S.trip q = f2 t := by
  cases e : S.ahead n with
  | none =>
    dsimp only
    unfold belowO
    rw [List.getLast?_eq_none_iff, List.filter_eq_nil_iff]
    intro t m h
    obtain ⟨r, h1, h2, -⟩ := place_liv (f := fun b => decide (b < n)) o m h
    unfold Sh.ahead at e
    rw [lastP_none] at e
    rw [e r h2] at h1
    cases h1
  | some q =>
    obtain ⟨lq, hq⟩ := ahead_liv e
    obtain ⟨t, m, h1, h2, h3, h4, h5⟩ := liv_tri o hq
    refine ⟨t, ?_, h5⟩
    have h4 : t.2.2 < n := of_decide_eq_true h4
    obtain ⟨A, B, eS⟩ := List.append_of_mem m
    have hB : B.filter (fun t => decide (t.2.2 < n)) = [] := by
      rw [List.filter_eq_nil_iff]
      intro s ms hs
      have lt := (sorted_le o eS).2 s ms
      obtain ⟨r, r1, r2, r3⟩ := place_liv (f := fun b => decide (b < n)) o (show s ∈ S.tri by rw [eS]; simp [ms]) hs
      have := born_lt o h3 r3 lt
      unfold Sh.ahead at e
      rw [lastP_some] at e
      rw [e.2.2 r this r2] at r1
      cases r1
    unfold belowO
    rw [eS, List.filter_append, List.filter_cons, if_pos (decide_eq_true h4), hB]
    simp
theorem above_next (o : S.Ok) (e : S.tri = A ++ t :: B) (h1 : ∀ s ∈ A, s.2.2 ≤ n) (h2 : n < t.2.2) : aboveO S.tri n = some t := by
  unfold aboveO
  rw [e, List.find?_append, List.find?_eq_none.mpr fun s m h => by
    have := h1 s m
    have := of_decide_eq_true h
    omega]
  rw [List.find?_cons, decide_eq_true h2]
  rfl
theorem above_none (h : ∀ s ∈ l, s.2.2 ≤ n) : aboveO l n = none := List.find?_eq_none.mpr fun s m e => by
  have := h s m
  have := of_decide_eq_true e
  omega
end
section
variable {Hb H : Hp} {ts : List Thing} {i j : Nat} {w : World} {d a C CN CL : Addr} {f : Tri → Ky} {l A B : List Tri} {t : Tri} {v u : V} {y z : Ky} {n : Int} {Q : VK} {E : XK} {R : Hp → Prop} {S : Sh}
theorem tab_after (g : GW Hb H ts) (e : ts[i]? = some (shT C a S)) (k : ∀ H' x, Same H H' → KyAt H' x (optK ((aboveO S.tri n).map f2)) → Q x H') : spAfter C [.ref a, .int n] H Q E := by
  obtain ⟨fp, hS, st⟩ := g.sh e
  have ok := hS.ok
  refine ⟨a, .no, fp, S, n, rfl, hS, ?_⟩
  have h := after_tri (n := n) ok
  cases eq : S.after n with
  | none =>
    rw [eq] at h
    dsimp only at h ⊢
    rw [h] at k
    exact fun H1 s1 => k H1 .non s1 .non
  | some q =>
    rw [eq] at h
    obtain ⟨t, h1, h2⟩ := h
    rw [h1] at k
    intro H1 x s1 hx
    rw [h2] at hx
    exact k H1 x s1 hx
theorem tab_ahead (g : GW Hb H ts) (e : ts[i]? = some (shT C a S)) (k : ∀ H' x, Same H H' → KyAt H' x (optK ((belowO S.tri n).map f2)) → Q x H') : spAheadS C [.ref a, .int n] H Q E := by
  obtain ⟨fp, hS, st⟩ := g.sh e
  have ok := hS.ok
  refine ⟨a, .no, fp, S, n, rfl, hS, ?_⟩
  have h := ahead_tri (n := n) ok
  cases eq : S.ahead n with
  | none =>
    rw [eq] at h
    dsimp only at h ⊢
    rw [h] at k
    exact fun H1 s1 => k H1 .non s1 .non
  | some q =>
    rw [eq] at h
    obtain ⟨t, h1, h2⟩ := h
    rw [h1] at k
    intro H1 x s1 hx
    rw [h2] at hx
    exact k H1 x s1 hx
theorem mem_out {x : Ky} (m : x ∈ (A ++ t :: B).map Prod.fst) (n : x ≠ t.1) : x ∈ (A ++ B).map Prod.fst := by
  rw [List.map_append, List.mem_append] at m ⊢
  rcases m with m | m
  · exact .inl m
  · rw [List.map_cons, List.mem_cons] at m
    exact .inr (m.resolve_left n)
theorem putT_com {S : Sh} {y z : Ky} (o : S.Ok) (yk : KeyOk y) : (S.putT y z).2.com = if y ∈ S.tri.map Prod.fst then S.com else S.com + 1 := by
  rw [tri_keys o]
  unfold Sh.putT
  cases e : S.find y with
  | some q =>
    have m : y ∈ S.keys := by
      refine Classical.byContradiction fun c => ?_
      rw [(keys_none o yk.ne_non).mpr c] at e
      cases e
    rw [if_pos m]
    rfl
  | none =>
    rw [if_neg ((keys_none o yk.ne_non).mp e)]
    dsimp only
    split <;> rfl
theorem putTri_len (l : List Tri) (y z : Ky) (n : Int) : (putTri l y z n).length ≤ l.length + 1 := by
  unfold putTri
  split
  · rw [List.length_map]; omega
  · rw [List.length_append]; exact Nat.le_refl _
theorem putTri_in {l : List Tri} {y z : Ky} {n : Int} : y ∈ (putTri l y z n).map Prod.fst := by
  unfold putTri
  split
  · rename_i c
    obtain ⟨t, h1, h2⟩ := List.mem_map.mp c
    rw [List.map_map]
    exact List.mem_map.mpr ⟨t, h1, by simp [h2]⟩
  · simp
theorem above_mem0 {l : List Tri} {n : Int} {t : Tri} (e : aboveO l n = some t) : t ∈ l := List.mem_of_find?_eq_some e
theorem below_mem0 {l : List Tri} {n : Int} {t : Tri} (e : belowO l n = some t) : t ∈ l := by
  unfold belowO at e
  exact (List.mem_filter.mp (List.mem_of_getLast? e)).1
end
theorem take_snoc_tri {l : List Tri} {i : Nat} {t : Tri} (e : l[i]? = some t) : l.take (i + 1) = l.take i ++ [t] := by
  obtain ⟨h1, h2⟩ := List.getElem?_eq_some_iff.mp e
  rw [List.take_succ_eq_append_getElem h1, h2]
end My
namespace My
open PySem PySem.Spec PyProof.Rows L2
/-! an object by itself -/
def insT (C a : Addr) (fs : List (Str × V)) : Thing := fun H fp => fp = [a] ∧ ∃ dx, H a = some (.ins C dx fs)
theorem insT_good {C a : Addr} {fs : List (Str × V)} : Good (insT C a fs) where
  ext := by
    rintro H H' fp ⟨rfl, dx, e⟩ s
    exact ⟨rfl, dx, s _ _ e⟩
  apart := by
    rintro H H' fp fq ⟨rfl, dx, e⟩ f n d
    exact ⟨rfl, dx, f.keep _ _ e (d a (by simp))⟩
  noTup := by
    rintro H fp ⟨rfl, dx, e⟩
    exact noTup_one e fun _ z => by cases z
  alloc := by
    rintro H fp x ⟨rfl, dx, e⟩ f m
    rw [List.mem_singleton] at m
    rw [m] at f
    exact f.ne e rfl
section
variable {Hb H H' : Hp} {ts : List Thing} {i j : Nat} {C a lot : Addr} {fs gs : List (Str × V)} {K : PySem.W.Frag} {Q : VK} {R : Hp → Prop} {dx : Addr}
theorem GW.ins (g : GW Hb H ts) (e : ts[j]? = some (insT C a fs)) : ∃ dx, H a = some (.ins C dx fs) := by
  obtain ⟨fp, -, h⟩ := g.is e
  exact h
theorem GW.iput (g : GW Hb H ts) (e : ts[j]? = some (insT C a fs)) : GW Hb (upd H a (.ins C dx gs)) (ts.set j (insT C a gs)) ∧ Keeps H (upd H a (.ins C dx gs)) := by
  obtain ⟨fp, ⟨rfl, dx0, e1⟩, st⟩ := g.at e
  exact st _ [a] _ gr_one Sub.refl ⟨rfl, dx, upd_same⟩ insT_good
theorem ins_fld {f : Str} {v : V} (g : GW Hb H ts) (e : ts[j]? = some (insT C a fs)) (c : Cls K C) (n : NoAttr K C f) (l : fs.lookup f = some v) : FldAt K H a f Q = Q v H := by
  obtain ⟨dx, h⟩ := g.ins e
  exact fldAt h c n l
theorem ins_set {f : Str} {y : V} (g : GW Hb H ts) (e : ts[j]? = some (insT C a fs)) (c : Cls K C) (n : NoAttr K C f) (l : fs.length < 1000) (eg : putF f y fs = gs) (k : ∀ H', GW Hb H' (ts.set j (insT C a gs)) → Keeps H H' → R H') : SetAt K H a f y R := by
  obtain ⟨dx, h⟩ := g.ins e
  rw [setAt h c n l eg]
  obtain ⟨g', kp⟩ := g.iput (dx := dx) (gs := gs) e
  exact k _ g' kp
theorem ins_met {m : Str} (g : GW Hb H ts) (e : ts[j]? = some (insT C a fs)) (l : fs.lookup m = none) : MetAt H a C m := by
  obtain ⟨dx, h⟩ := g.ins e
  exact ⟨dx, fs, h, l⟩
/-- a new object, not yet filled -/
theorem GW.made {x dx : Addr} (g : GW Hb H ts) (fx : Fresh H x) (fd : Fresh H dx) : GW Hb (upd (upd H dx (.own x)) x (.ins C dx [])) (ts ++ [insT C x []]) :=
  g.new (fp := [x]) (Same_upd0 (Same_upd (Same.refl _) fd) fx) ⟨rfl, dx, upd_same⟩ (fun y m => by rw [List.mem_singleton] at m; rw [m]; exact fx) insT_good
theorem set_set {α : Type} {l : List α} {i : Nat} {x y : α} : (l.set i x).set i y = l.set i y := List.set_set ..
theorem set_at {α : Type} {l : List α} {i : Nat} {x y : α} (e : l[i]? = some x) : (l.set i y)[i]? = some y := by
  have := (List.getElem?_eq_some_iff.mp e).1
  rw [List.getElem?_set_self this]
theorem set_ne {α : Type} {l : List α} {i j : Nat} {x y : α} (e : l[j]? = some x) (n : i ≠ j) : (l.set i y)[j]? = some x := by rw [List.getElem?_set_ne n]; exact e
end
/-- what came newly stays from now on -/
theorem GW.freeze {Hb H H' : Hp} {ts : List Thing} (g : GW Hb H ts) (s : Same H H') : ∃ Hb', Same Hb Hb' ∧ GW Hb' H' ts ∧ ∀ a o, Fresh H a → H' a = some o → Hb' a = some o := by
  obtain ⟨fps, l, h1, h2⟩ := g.ex
  have hn : ∀ a, H a = none → (fun a => match H a with | none => H' a | some _ => Hb a : Hp) a = H' a := fun a e => by show (match H a with | none => H' a | some _ => Hb a) = _; rw [e]
  have hs : ∀ a o, H a = some o → (fun a => match H a with | none => H' a | some _ => Hb a : Hp) a = Hb a := fun a o e => by show (match H a with | none => H' a | some _ => Hb a) = _; rw [e]
  generalize (fun a => match H a with | none => H' a | some _ => Hb a : Hp) = Hc at hn hs
  refine ⟨Hc, fun b u q => by rw [hs b u (g.sm _ _ q)]; exact q, ⟨fun b u q => ?_, fps, l, fun i t fp e f => ?_, h2⟩, fun a o f e => by rw [hn a f]; exact e⟩
  · cases e : H b with
    | none => rw [hn b e] at q; exact q
    | some o => rw [hs b o e] at q; exact s _ _ (g.sm _ _ q)
  · obtain ⟨x, y, z⟩ := h1 i t fp e f
    refine ⟨y.ext x s, y, fun q m => ?_⟩
    unfold Fresh
    cases e2 : H q with
    | none => exact absurd m (y.alloc x e2)
    | some o => rw [hs q o e2]; exact z q m
/-- things told in another order, or fewer of them -/
theorem GW.re {Hb H : Hp} {ts ts' : List Thing} (g : GW Hb H ts) (f : Nat → Nat) (l : ∀ (i : Nat) (t : Thing), ts'[i]? = some t → ts[f i]? = some t) (inj : ∀ i j : Nat, i < ts'.length → j < ts'.length → f i = f j → i = j) : GW Hb H ts' := by
  obtain ⟨fps, ln, h1, h2⟩ := g.ex
  have at' : ∀ (i : Nat) (fp : List Addr), ((List.range ts'.length).map fun i => fps.getD (f i) [])[i]? = some fp → i < ts'.length ∧ fps[f i]? = some fp := fun i fp e => by
    rw [List.getElem?_map] at e
    obtain ⟨j, e1, e2⟩ := Option.map_eq_some_iff.mp e
    obtain ⟨hj, e3⟩ := List.getElem?_eq_some_iff.mp e1
    rw [List.getElem_range] at e3
    subst e3
    rw [List.length_range] at hj
    have e4 := l i _ (List.getElem?_eq_getElem hj)
    have h := (List.getElem?_eq_some_iff.mp e4).1
    refine ⟨hj, ?_⟩
    rw [← e2, List.getD_eq_getElem?_getD, List.getElem?_eq_getElem (by omega)]
    rfl
  refine ⟨g.sm, (List.range ts'.length).map fun i => fps.getD (f i) [], by rw [List.length_map, List.length_range], fun i t fp e e2 => h1 (f i) t fp (l i t e) (at' i fp e2).2, fun i j fp fq n e1 e2 => ?_⟩
  obtain ⟨a1, a2⟩ := at' i fp e1
  obtain ⟨b1, b2⟩ := at' j fq e2
  exact h2 (f i) (f j) fp fq (fun e => n (inj i j a1 b1 e)) a2 b2
/-! walks -/
structure Wk where
  lot : Addr
  back : Bool
  strict : Bool
  chg : Int
  over : Bool
  last : Int
def wkF (k : Wk) : List (Str × V) := [("book", .ref k.lot), ("back", .bl k.back), ("strict", .bl k.strict), ("changes", .int k.chg), ("over", .bl k.over), ("last", .int k.last)]
def wkT (C a : Addr) (k : Wk) : Thing := insT C a (wkF k)
structure WkC (K : PySem.W.Frag) (C : Addr) : Prop where
  cls : Cls K C
  book : NoAttr K C "book"
  back : NoAttr K C "back"
  strict : NoAttr K C "strict"
  changes : NoAttr K C "changes"
  over : NoAttr K C "over"
  last : NoAttr K C "last"
def Wk.due (k : Wk) (l : List Tri) : Option Tri := if k.back = true then belowO l k.last else aboveO l k.last
def Wk.next (k : Wk) (l : List Tri) : Wk := match k.due l with
  | none => { k with over := true }
  | some t => { k with last := t.2.2 }
section
variable {Hb H : Hp} {ts : List Thing} {i j : Nat} {C a : Addr} {K : PySem.W.Frag} {Q : VK} {R : Hp → Prop} {k : Wk}
theorem wk_book (g : GW Hb H ts) (e : ts[j]? = some (wkT C a k)) (c : WkC K C) : FldAt K H a "book" Q = Q (.ref k.lot) H := ins_fld g e c.cls c.book (by with_unfolding_all rfl)
theorem wk_back (g : GW Hb H ts) (e : ts[j]? = some (wkT C a k)) (c : WkC K C) : FldAt K H a "back" Q = Q (.bl k.back) H := ins_fld g e c.cls c.back (by with_unfolding_all rfl)
theorem wk_strict (g : GW Hb H ts) (e : ts[j]? = some (wkT C a k)) (c : WkC K C) : FldAt K H a "strict" Q = Q (.bl k.strict) H := ins_fld g e c.cls c.strict (by with_unfolding_all rfl)
theorem wk_changes (g : GW Hb H ts) (e : ts[j]? = some (wkT C a k)) (c : WkC K C) : FldAt K H a "changes" Q = Q (.int k.chg) H := ins_fld g e c.cls c.changes (by with_unfolding_all rfl)
theorem wk_over (g : GW Hb H ts) (e : ts[j]? = some (wkT C a k)) (c : WkC K C) : FldAt K H a "over" Q = Q (.bl k.over) H := ins_fld g e c.cls c.over (by with_unfolding_all rfl)
theorem wk_last (g : GW Hb H ts) (e : ts[j]? = some (wkT C a k)) (c : WkC K C) : FldAt K H a "last" Q = Q (.int k.last) H := ins_fld g e c.cls c.last (by with_unfolding_all rfl)
theorem wk_setOver (g : GW Hb H ts) (e : ts[j]? = some (wkT C a k)) (c : WkC K C) (q : ∀ H', GW Hb H' (ts.set j (wkT C a { k with over := true })) → Keeps H H' → R H') : SetAt K H a "over" (.bl true) R := ins_set (gs := wkF { k with over := true }) g e c.cls c.over (by simp [wkF]) (by with_unfolding_all rfl) q
theorem wk_setLast {n : Int} (g : GW Hb H ts) (e : ts[j]? = some (wkT C a k)) (c : WkC K C) (q : ∀ H', GW Hb H' (ts.set j (wkT C a { k with last := n })) → Keeps H H' → R H') : SetAt K H a "last" (.int n) R := ins_set (gs := wkF { k with last := n }) g e c.cls c.last (by simp [wkF]) (by with_unfolding_all rfl) q
end
/-- how many came or went -/
def spChanges (Cs Ct : Addr) : Sp := fun vs H Q _ => ∃ (lot C : Addr) (Hb : Hp) (ts : List Thing) (i : Nat) (S : Sh), vs = [.ref lot] ∧ GW Hb H ts ∧ ts[i]? = some (shT C lot S) ∧ (C = Cs ∨ C = Ct) ∧ ∀ H', Same H H' → Q (.int (S.com + S.goi)) H'
theorem len_changes {Cs Ct : Addr} {vs H Q E} (h : spChanges Cs Ct vs H Q E) : vs.length = 1 := by obtain ⟨_, _, _, _, _, _, rfl, _⟩ := h; rfl
def spWkInit (CW Cs Ct : Addr) : Sp := fun vs H Q _ => ∃ (a lot C : Addr) (b s : Bool) (Hb : Hp) (ts : List Thing) (i j : Nat) (S : Sh), vs = [.ref a, .ref lot, .bl b, .bl s] ∧ GW Hb H ts ∧ ts[i]? = some (shT C lot S) ∧ ts[j]? = some (insT CW a []) ∧ i ≠ j ∧ (C = Cs ∨ C = Ct) ∧
  ∀ H', GW Hb H' (ts.set j (wkT CW a ⟨lot, b, s, S.com + S.goi, false, if b = true then S.com + 1 else 0⟩)) → Keeps H H' → Q .non H'
theorem len_wkInit {CW Cs Ct : Addr} {vs H Q E} (h : spWkInit CW Cs Ct vs H Q E) : vs.length = 4 := by obtain ⟨_, _, _, _, _, _, _, _, _, _, rfl, _⟩ := h; rfl
def spStep (CW Cs Ct CB : Addr) : Sp := fun vs H Q E => ∃ (a C : Addr) (Hb : Hp) (ts : List Thing) (i j : Nat) (S : Sh) (k : Wk), vs = [.ref a] ∧ GW Hb H ts ∧ ts[i]? = some (shT C k.lot S) ∧ ts[j]? = some (wkT CW a k) ∧ i ≠ j ∧ (C = Cs ∨ C = Ct) ∧
  (k.over = true → Q .non H) ∧ (k.over = false → k.strict = true → k.chg ≠ S.com + S.goi → ∀ H', Same H H' → E (.ref CB) none H') ∧
  (k.over = false → (k.strict = true → k.chg = S.com + S.goi) → ∀ H' x, GW Hb H' (ts.set j (wkT CW a (k.next S.tri))) → Keeps H H' → KyAt H' x (optK ((k.due S.tri).map triPair)) → Q x H')
theorem len_step {CW Cs Ct CB : Addr} {vs H Q E} (h : spStep CW Cs Ct CB vs H Q E) : vs.length = 1 := by obtain ⟨_, _, _, _, _, _, _, _, rfl, _⟩ := h; rfl
section
variable {Hb H : Hp} {ts : List Thing} {i j : Nat} {w : World} {d a C Cs Ct CN CF CL : Addr} {v u : V} {y z : Ky} {n : Int} {Q : VK} {E : XK} {S : Sh}
theorem tab_counts (g : GW Hb H ts) (e : ts[i]? = some (shT C a S)) (k : ∀ H' T, Same H H' → H' T = some (.tup (S.counts.map V.int)) → Q (.ref T) H') : spCounts C [.ref a] H Q E := by
  obtain ⟨fp, hS, st⟩ := g.sh e
  exact ⟨a, .no, fp, S, rfl, hS, fun H' T s _ eT => k H' T s eT⟩
/-- a shelf of 512 cells, or a table -/
def BK (Cs Ct C : Addr) (S : Sh) : Prop := C = Ct ∨ (C = Cs ∧ S.j = 9 ∧ S.jl = 9)
theorem put_room9 {S : Sh} (o : S.Ok) (j : S.j = 9) (l : S.row.length ≤ 340) : ∃ b, S.put (fun _ => none) y z = some (b, (S.putT y z).2) ∧ b = (S.putT y z).1 := by
  have nf : S.full = false := decide_eq_false (by rw [j]; simp only [Int.reducePow]; omega)
  unfold Sh.put Sh.putT
  cases S.find y with
  | some q => exact ⟨_, rfl, rfl⟩
  | none =>
    dsimp only
    rw [nf, if_neg (by decide), if_neg (by decide)]
    exact ⟨_, rfl, rfl⟩
theorem shelf_put (g : GW Hb H ts) (e : ts[i]? = some (shT C a S)) (j9 : S.j = 9) (hy : KyAt H v y) (yk : KeyOk y) (hu : KyAt H u z) (hz : HVal z) (ln : S.row.length ≤ 340)
    (k : ∀ H', GW Hb H' (ts.set i (shT C a (S.putT y z).2)) → Keeps H H' → Q (.bl (!decide (y ∈ S.tri.map Prod.fst))) H') : spPut C CN CF (fun _ => none) [.ref a, v, u] H Q E := by
  obtain ⟨fp, hS, st⟩ := g.sh e
  have ok := hS.ok
  refine ⟨a, .no, fp, S, v, y, u, z, rfl, hS, hy, yk.f, fun _ => yk, hu, hz, yk.no, fun _ => ?_⟩
  obtain ⟨b, e1, e2⟩ := put_room9 (y := y) (z := z) ok j9 ln
  rw [e1]
  intro H1 fp1 gr sb hS1
  obtain ⟨g', kp⟩ := st H1 fp1 _ gr sb hS1
  rw [e2, putT_old ok yk]
  exact k _ g' kp
theorem tri_row {S : Sh} : S.tri.length ≤ S.row.length := by
  have h1 : S.tri.length ≤ (S.row.zip (S.held.zip S.born)).length := List.length_filter_le _ _
  rw [List.length_zip] at h1
  omega
theorem table_put (g : GW Hb H ts) (e : ts[i]? = some (shT C a S)) (hy : KyAt H v y) (yk : KeyOk y) (hu : KyAt H u z) (hz : HVal z) (ln : S.row.length ≤ 340)
    (k : ∀ H', GW Hb H' (ts.set i (shT C a (S.putT y z).2)) → Keeps H H' → Q (.bl (!decide (y ∈ S.tri.map Prod.fst))) H') : spPutT C CN [.ref a, v, u] H Q E :=
  tab_put g e hy yk hu hz (by have := tri_row (S := S); omega) k
theorem BK.put {S : Sh} (bk : BK Cs Ct C S) (l : S.row.length ≤ 340) : BK Cs Ct C (S.putT y z).2 := by
  rcases bk with rfl | ⟨rfl, j9, l9⟩
  · exact .inl rfl
  · refine .inr ⟨rfl, ?_⟩
    have nf : S.full = false := decide_eq_false (by rw [j9]; simp only [Int.reducePow]; omega)
    unfold Sh.putT
    cases S.find y with
    | some q => exact ⟨j9, l9⟩
    | none =>
      dsimp only
      rw [nf, if_neg (by decide)]
      exact ⟨j9, l9⟩
theorem BK.went {S : Sh} {q : Nat} (bk : BK Cs Ct C S) : BK Cs Ct C (S.went q y) := bk
theorem BK.emptied {S : Sh} (bk : BK Cs Ct C S) : BK Cs Ct C S.emptied := bk.imp id fun h => ⟨h.1, h.2.2, h.2.2⟩
theorem BK.cls {S : Sh} (bk : BK Cs Ct C S) : C = Cs ∨ C = Ct := bk.elim .inr fun h => .inl h.1
theorem putT_row {S : Sh} (o : S.Ok) : (S.putT y z).2.row.length ≤ S.row.length + 1 := by
  unfold Sh.putT
  cases S.find y with
  | some q => exact Nat.le_succ _
  | none =>
    dsimp only
    split
    · show (S.lv.map Prod.fst ++ [y]).length ≤ _
      have h1 : S.lv.length ≤ (S.row.zip S.held).length := List.length_filter_le _ _
      rw [List.length_zip] at h1
      rw [List.length_append, List.length_map, List.length_singleton]
      omega
    · show (S.row ++ [y]).length ≤ _
      rw [List.length_append]
      exact Nat.le_refl _
theorem book_or {P1 P2 : Prop} (h : C = Cs ∨ C = Ct) (h1 : C = Cs → P1) (h2 : C = Ct → P2) : P1 ∨ P2 := h.imp h1 h2
end
end My
namespace My
open PySem PySem.Spec PyProof.Rows L2
/-! a maker: one row of keys with its cells -/
structure Mk where
  row : List Ky
  cells : List Int
structure Mk.Ok (M : Mk) : Prop where
  cw : CWf M.row 5 M.cells
  keys : ∀ y ∈ M.row, KeyOk y
  lo : ∀ x ∈ M.cells, -1 ≤ x
def mkF (r c : Addr) : List (Str × V) := [("row", .ref r), ("cells", .ref c)]
structure MkC (K : PySem.W.Frag) (C : Addr) : Prop where
  cls : Cls K C
  row : NoAttr K C "row"
  cells : NoAttr K C "cells"
def MkAt (H : Hp) (C a : Addr) (fp : List Addr) (M : Mk) : Prop := ∃ dx r c ws, fp = [a, r, c] ∧ r ≠ c ∧ H a = some (.ins C dx (mkF r c)) ∧ H r = some (.lst ws) ∧ H c = some (.lst (M.cells.map V.int)) ∧ KysAt H ws M.row ∧ M.Ok
def mkT (C a : Addr) (M : Mk) : Thing := fun H fp => MkAt H C a fp M
theorem Mk.Ok.vals {M : Mk} (o : M.Ok) : Ky.vals M.row = true := vals_iff.mpr fun y m => (o.keys y m).val
theorem mkT_good {C a : Addr} {M : Mk} : Good (mkT C a M) where
  ext := by
    rintro H H' fp ⟨dx, r, c, ws, e, n, h1, h2, h3, h4, o⟩ s
    exact ⟨dx, r, c, ws, e, n, s _ _ h1, s _ _ h2, s _ _ h3, h4.same s _ _, o⟩
  apart := by
    rintro H H' fp fq ⟨dx, r, c, ws, rfl, n, h1, h2, h3, h4, o⟩ f nt d
    exact ⟨dx, r, c, ws, rfl, n, f.keep _ _ h1 (d a (by simp)), f.keep _ _ h2 (d r (by simp)), f.keep _ _ h3 (d c (by simp)), KysAt.keep f.keep nt _ _ o.vals h4, o⟩
  noTup := by
    rintro H fp ⟨dx, r, c, ws, rfl, n, h1, h2, h3, h4, o⟩ b m xs e
    simp only [List.mem_cons, List.not_mem_nil, or_false] at m
    rcases m with rfl | rfl | rfl
    · rw [h1] at e; cases e
    · rw [h2] at e; cases e
    · rw [h3] at e; cases e
  alloc := by
    rintro H fp x ⟨dx, r, c, ws, rfl, n, h1, h2, h3, h4, o⟩ f m
    simp only [List.mem_cons, List.not_mem_nil, or_false] at m
    rcases m with rfl | rfl | rfl
    · exact f.ne h1 rfl
    · exact f.ne h2 rfl
    · exact f.ne h3 rfl
def Mk.new : Mk := ⟨[], List.replicate 32 (-1)⟩
theorem Mk.new_ok : Mk.new.Ok := ⟨cwf_nil (j := 5) (by decide) (by decide), (fun _ h => by cases h), fun x h => by rw [(List.mem_replicate.mp h).2]; exact Int.le_refl _⟩
def Mk.find (M : Mk) (y : Ky) : Option Nat := placeO M.cells M.row 5 y
def Mk.come (M : Mk) (y : Ky) : Mk := ⟨M.row ++ [y], layS M.cells 5 M.row.length y⟩
def Mk.takeIn (M : Mk) (y : Ky) : Option Nat × Mk := match M.find y with
  | some q => (some q, M)
  | none => if M.row.length < 21 then (some M.row.length, M.come y) else (none, M)
section
variable {M : Mk} {y : Ky}
theorem Mk.Ok.find_some (o : M.Ok) (k : KeyOk y) {q : Nat} : M.find y = some q ↔ M.row[q]? = some y := o.cw.place_some k.ne_non
theorem Mk.Ok.find_none (o : M.Ok) (k : KeyOk y) : M.find y = none ↔ y ∉ M.row := o.cw.place_none k.ne_non
theorem Mk.Ok.le (o : M.Ok) : M.row.length ≤ 21 := by
  have := o.cw.rl
  simp only [Int.reducePow] at this
  omega
theorem Mk.Ok.come (o : M.Ok) (k : KeyOk y) (n : y ∉ M.row) (l : M.row.length < 21) : (M.come y).Ok := by
  refine ⟨o.cw.lay k n (by simp only [Int.reducePow]; omega), fun z m => ?_, fun x m => ?_⟩
  · rcases List.mem_append.mp m with m | m
    · exact o.keys z m
    · rw [List.mem_singleton] at m
      rw [m]
      exact k
  · have m : x ∈ layS M.cells 5 M.row.length y := m
    unfold layS at m
    rw [if_neg k.ne_non] at m
    rcases List.mem_or_eq_of_mem_set m with m | rfl
    · exact o.lo x m
    · omega
theorem Mk.Ok.takeIn (o : M.Ok) (k : KeyOk y) : (M.takeIn y).2.Ok := by
  unfold Mk.takeIn
  cases e : M.find y with
  | some q => exact o
  | none =>
    dsimp only
    split
    · exact o.come k ((o.find_none k).mp e) (by assumption)
    · exact o
end
section
variable {Hb H : Hp} {ts : List Thing} {i : Nat} {C a : Addr} {M M' : Mk} {K : PySem.W.Frag} {Q : VK} {R : Hp → Prop}
theorem GW.mkr (g : GW Hb H ts) (e : ts[i]? = some (mkT C a M)) : ∃ fp, MkAt H C a fp M ∧ ∀ H' fp' M', Gr fp H H' → Sub fp' fp H → MkAt H' C a fp' M' → GW Hb H' (ts.set i (mkT C a M')) ∧ Keeps H H' := by
  obtain ⟨fp, h, st⟩ := g.at e
  exact ⟨fp, h, fun H' fp' M' gr sb h' => st H' fp' _ gr sb h' mkT_good⟩
theorem GW.mkOk (g : GW Hb H ts) (e : ts[i]? = some (mkT C a M)) : M.Ok := by
  obtain ⟨fp, ⟨_, _, _, _, _, _, _, _, _, _, o⟩, -⟩ := g.mkr e
  exact o
theorem GW.mkMet (g : GW Hb H ts) (e : ts[i]? = some (mkT C a M)) {m : Str} (l : ∀ r c : Addr, (mkF r c).lookup m = none) : MetAt H a C m := by
  obtain ⟨fp, ⟨dx, r, c, ws, _, _, h1, _⟩, -⟩ := g.mkr e
  exact ⟨dx, _, h1, l r c⟩
end
def spMkInit (C : Addr) : Sp := fun vs H Q _ => ∃ (a : Addr) (Hb : Hp) (ts : List Thing) (i : Nat), vs = [.ref a] ∧ GW Hb H ts ∧ ts[i]? = some (insT C a []) ∧ ∀ H', GW Hb H' (ts.set i (mkT C a .new)) → Keeps H H' → Q .non H'
theorem len_mkInit {C : Addr} {vs H Q E} (h : spMkInit C vs H Q E) : vs.length = 1 := by obtain ⟨_, _, _, _, rfl, _⟩ := h; rfl
def spNumber (C CN : Addr) : Sp := fun vs H Q E => ∃ (a : Addr) (Hb : Hp) (ts : List Thing) (i : Nat) (M : Mk) (v : V) (y : Ky), vs = [.ref a, v] ∧ GW Hb H ts ∧ ts[i]? = some (mkT C a M) ∧ KyAt H v y ∧ y.fit = true ∧ (within 3 y = true → KeyOk y) ∧
  (within 3 y = false → E (.ref CN) none H) ∧ (KeyOk y → ∀ H', Same H H' → Q (optV (M.find y)) H')
theorem len_number {C CN : Addr} {vs H Q E} (h : spNumber C CN vs H Q E) : vs.length = 2 := by obtain ⟨_, _, _, _, _, _, _, rfl, _⟩ := h; rfl
def spTakenIn (C CN : Addr) : Sp := fun vs H Q E => ∃ (a : Addr) (Hb : Hp) (ts : List Thing) (i : Nat) (M : Mk) (v : V) (y : Ky), vs = [.ref a, v] ∧ GW Hb H ts ∧ ts[i]? = some (mkT C a M) ∧ KyAt H v y ∧ y.fit = true ∧ (within 3 y = true → KeyOk y) ∧
  (within 3 y = false → E (.ref CN) none H) ∧ (KeyOk y → ∀ H', GW Hb H' (ts.set i (mkT C a (M.takeIn y).2)) → Keeps H H' → Q (optV (M.takeIn y).1) H')
theorem len_takenIn {C CN : Addr} {vs H Q E} (h : spTakenIn C CN vs H Q E) : vs.length = 2 := by obtain ⟨_, _, _, _, _, _, _, rfl, _⟩ := h; rfl
def spMkPaper (C CN : Addr) : Sp := fun vs H Q E => ∃ (a : Addr) (Hb : Hp) (ts : List Thing) (i : Nat) (M : Mk) (v : V) (y : Ky), vs = [.ref a, v] ∧ GW Hb H ts ∧ ts[i]? = some (mkT C a M) ∧ KyAt H v y ∧ y.fit = true ∧ (within 3 y = true → KeyOk y) ∧
  (within 3 y = false → E (.ref CN) none H) ∧ (KeyOk y → ∀ p H' xs, Same H H' → Fresh H p → H' p = some (.lst xs) → KysAt H' xs (paperK M.cells M.row 5 y) → Q (.ref p) H')
theorem len_mkPaper {C CN : Addr} {vs H Q E} (h : spMkPaper C CN vs H Q E) : vs.length = 2 := by obtain ⟨_, _, _, _, _, _, _, rfl, _⟩ := h; rfl
def spMkForm (C : Addr) : Sp := fun vs H Q _ => ∃ (a : Addr) (Hb : Hp) (ts : List Thing) (i : Nat) (M : Mk), vs = [.ref a] ∧ GW Hb H ts ∧ ts[i]? = some (mkT C a M) ∧
  ∀ H' t l1 l2 ws, Same H H' → Fresh H t → Fresh H l1 → Fresh H l2 → l1 ≠ l2 → H' t = some (.tup [.ref l1, .ref l2]) → H' l1 = some (.lst (M.cells.map V.int)) → H' l2 = some (.lst ws) → KysAt H' ws M.row → Q (.ref t) H'
theorem len_mkForm {C : Addr} {vs H Q E} (h : spMkForm C vs H Q E) : vs.length = 1 := by obtain ⟨_, _, _, _, _, rfl, _⟩ := h; rfl
/-! a pool of keys -/
def six71 : List Nat := [97, 98, 126, 32, 40, 34]
theorem six_text : Str.ofString "ab~ (\"" = SX.S six71 := by decide +kernel
def sixAt (n : Int) : Nat := six71.getD n.toNat 0
theorem sixAt_some {n : Int} (h0 : 0 ≤ n) (h1 : n < 6) : atI six71 n = some (sixAt n) := by
  obtain ⟨j, rfl⟩ : ∃ j : Nat, n = (j : Int) := ⟨n.toNat, by omega⟩
  have hj : j < six71.length := by show j < 6; omega
  refine atI_nat ?_
  unfold sixAt
  rw [Int.toNat_natCast, List.getD_eq_getElem?_getD, List.getElem?_eq_getElem hj]
  rfl
theorem sixAt_ok {n : Int} (h0 : 0 ≤ n) (h1 : n < 6) : 32 ≤ sixAt n ∧ sixAt n ≤ 126 := by
  have hj : n.toNat < six71.length := by show n.toNat < 6; omega
  unfold sixAt
  rw [List.getD_eq_getElem?_getD, List.getElem?_eq_getElem hj]
  exact (by decide : ∀ c ∈ six71, 32 ≤ c ∧ c ≤ 126) _ (List.getElem_mem hj)
def stem71 (n : Int) (m : Nat) : List Nat := (List.range m).map fun (i : Nat) => sixAt ((n / ((i : Int) + 3) + (i : Int) * (i : Int)) % 6)
theorem stem71_len (n : Int) (m : Nat) : (stem71 n m).length = m := by simp [stem71]
theorem stem71_ok (n : Int) (m : Nat) : codesOk (stem71 n m) := by
  intro c h
  obtain ⟨i, _, rfl⟩ := List.mem_map.mp h
  exact sixAt_ok (Int.emod_nonneg _ (by decide)) (Int.emod_lt_of_pos _ (by decide))
def abc71 : List Nat := [65, 66, 67, 68, 69, 70, 71, 72, 73, 74, 75, 76, 77, 78, 79, 80, 81, 82, 83, 84, 85, 86, 87, 88, 89, 90, 97, 98, 99, 100, 101, 102, 103, 104, 105, 106, 107, 108, 109, 110]
theorem abc_at {m i : Nat} (h : i < m) (hm : m ≤ 40) : ∃ c, atI (abc71.take m) (i : Nat) = some c ∧ (32 ≤ c ∧ c ≤ 126) := by
  have hj : i < abc71.length := by show i < 40; omega
  have ht : i < (abc71.take m).length := by rw [List.length_take]; show i < min m 40; omega
  refine ⟨(abc71.take m)[i], atI_nat (List.getElem?_eq_getElem ht), ?_⟩
  rw [List.getElem_take]
  exact (by decide : ∀ c ∈ abc71, 32 ≤ c ∧ c ≤ 126) _ (List.getElem_mem hj)
def spPool (m : Nat) : Sp := fun vs H Q _ => ∃ n, vs = [.int n] ∧ Bd 0 n ∧ ∀ H' p ws ks, Same H H' → Fresh H p → H' p = some (.lst ws) → KysAt H' ws ks → ks.length = m → (∀ k ∈ ks, KeyOk k) → Q (.ref p) H'
theorem len_pool {m : Nat} {vs H Q E} (h : spPool m vs H Q E) : vs.length = 1 := by obtain ⟨_, rfl, _⟩ := h; rfl
end My
namespace My
open PySem PySem.Spec PyProof.Rows L2
theorem set_id {α : Type} {l : List α} {i : Nat} {x : α} (e : l[i]? = some x) : l.set i x = l := by
  obtain ⟨h, rfl⟩ := List.getElem?_eq_some_iff.mp e
  exact List.set_getElem_self h
/-! x is True, x None or a truth -/
def rIsT : R2 := fun x y H Q => ∃ b : Bool, y = .bl b ∧ ((x = .non ∧ Q (.bl false) H) ∨ ∃ a : Bool, x = .bl a ∧ Q (.bl (decide (a = b))) H)
theorem op_isT {X : Cx} : OpR X (compareOp .Is) rIsT := by
  intro pins s σ H x y v u Q I rx ry h
  obtain ⟨b, rfl, ⟨rfl, q⟩ | ⟨a, rfl, q⟩⟩ := h
  · obtain rfl : v = Value.none := rx
    obtain rfl : u = Value.bool b := ry
    exact wpAny_is_other rfl (fun z => nomatch z) ⟨.bl false, H, I, rfl, q⟩
  · exact op_isBl pins s σ H _ _ v u Q I rx ry ⟨a, b, rfl, rfl, q⟩
theorem isT_non {b : Bool} {H : Hp} {Q : VK} (q : Q (.bl false) H) : rIsT .non (.bl b) H Q := ⟨b, rfl, .inl ⟨rfl, q⟩⟩
theorem isT_bl {a b : Bool} {H : Hp} {Q : VK} (q : Q (.bl (decide (a = b))) H) : rIsT (.bl a) (.bl b) H Q := ⟨b, rfl, .inr ⟨a, rfl, q⟩⟩
/-! cells and a row as data -/
def formD (cs : List Int) (ks : List Ky) : PyData := .tuple [.list (cs.map PyData.int), .list (Ky.toDs ks)]
theorem form_dp {K : PySem.W.Frag} {H : Hp} {t l1 l2 : Addr} {cs : List Int} {ws : List V} {ks : List Ky} (et : H t = some (.tup [.ref l1, .ref l2])) (e1 : H l1 = some (.lst (cs.map V.int))) (e2 : H l2 = some (.lst ws)) (h : KysAt H ws ks) (d : Ky.vrow ks) : Dp K H (.ref t) (formD cs ks) :=
  .tup (SqT.of et) (.cons (.lst (SqL.of e1) (DpAll_ints cs)) (.cons (.lst (SqL.of e2) (KysAt.dpV ks _ (vrow_vals d) h)) .nil))
theorem form_shaped {cs : List Int} {ks : List Ky} (d : Ky.vrow ks) : SeqAt.shaped (formD cs ks) = true := by
  have h1 := vrow_deps d
  have h2 := Ky.canLaysV ks (vrow_vals d)
  have h3 := depth_ints cs
  have h4 := canLay_ints cs
  have h5 := Ky.depths_toD ks
  unfold SeqAt.shaped formD
  simp only [PyData.canLay0, PyData.canLayAll0, PyData.depth, PyData.depthAll, h2, h3, h4, h5, Bool.and_self, Bool.true_and]
  exact decide_eq_true (by omega)
theorem eq_same {K : PySem.W.Frag} {H : Hp} {v w : V} {d : PyData} {Q : VK} (hv : Dp K H v d) (hw : Dp K H w d) (s : SeqAt.shaped d = true) (q : Q (.bl true) H) : rEqD K v w H Q := ⟨d, d, hv, hw, s, s, by rw [SeqAt.eqv_refl _ (SeqAt.canLay_of_shaped s)]; exact q⟩
theorem ne_same {K : PySem.W.Frag} {H : Hp} {v w : V} {d : PyData} {Q : VK} (hv : Dp K H v d) (hw : Dp K H w d) (s : SeqAt.shaped d = true) (q : Q (.bl false) H) : rNeD K v w H Q := ⟨d, d, hv, hw, s, s, by rw [SeqAt.eqv_refl _ (SeqAt.canLay_of_shaped s)]; exact q⟩
theorem seqT_same {K : PySem.W.Frag} {H H' : Hp} {a : Addr} {xs : List V} (s : Same H H') (h : SqT K H a xs) : SqT K H' a xs := by
  rcases h with (h | ⟨o, h⟩) | h
  · exact .inl (.inl (s _ _ h))
  · exact .inl (.inr ⟨o, s _ _ h⟩)
  · exact .inr h
mutual
theorem dp_same {K : PySem.W.Frag} {H H' : Hp} (s : Same H H') : ∀ (d : PyData) (v : V), Dp K H v d → Dp K H' v d
  | _, _, .non => .non
  | _, _, .bl b => .bl b
  | _, _, .int i => .int i
  | _, _, .str x => .str x
  | .list ds, _, .lst h t => .lst (s.seq h) (dps_same s ds _ t)
  | .tuple ds, _, .tup h t => .tup (seqT_same s h) (dps_same s ds _ t)
theorem dps_same {K : PySem.W.Frag} {H H' : Hp} (s : Same H H') : ∀ (ds : List PyData) (vs : List V), DpAll K H vs ds → DpAll K H' vs ds
  | [], _, .nil => .nil
  | d :: ds, _, .cons h t => .cons (dp_same s d _ h) (dps_same s ds _ t)
end
theorem ints_dp {K : PySem.W.Frag} {H : Hp} {a : Addr} {xs : List Int} (e : H a = some (.lst (xs.map V.int))) : Dp K H (.ref a) (.list (xs.map PyData.int)) := .lst (SqL.of e) (DpAll_ints xs)
end My
namespace My
open PySem PySem.Spec PyProof.Rows L2
/-! a kin: a shelf's fields, its seats, its maker -/
structure VRaw (H : Hp) (C a dx : Addr) (p : Pre) (c r h b : Addr) (S : Sh) (cs : List Int) (ws us : List V) : Prop where
  ha : H a = some (.ins C dx (shF p c r h b S))
  hc : H c = some (.lst (cs.map V.int))
  hr : H r = some (.lst ws)
  hh : H h = some (.lst us)
  hb : H b = some (.lst (S.born.map V.int))
  kr : KysAt H ws S.row
  kh : KysAt H us S.held
  vr : Ky.vals S.row = true
  vh : Ky.vals S.held = true
  ne : c ≠ r ∧ c ≠ h ∧ c ≠ b ∧ r ≠ h ∧ r ≠ b ∧ h ≠ b
section
variable {H H' : Hp} {C a dx : Addr} {p : Pre} {c r h b : Addr} {S : Sh} {cs : List Int} {ws us : List V}
theorem VRaw.dn (g : VRaw H C a dx p c r h b S cs ws us) : ShRaw H C a dx p c r h b { S with cells := cs } ws us := ⟨g.ha, g.hc, g.hr, g.hh, g.hb, g.kr, g.kh, g.vr, g.vh, g.ne⟩
theorem ShRaw.vup {S' : Sh} (g : ShRaw H C a dx p c r h b S' ws us) (e : S' = { S with cells := cs }) : VRaw H C a dx p c r h b S cs ws us := by
  subst e
  exact ⟨g.ha, g.hc, g.hr, g.hh, g.hb, g.kr, g.kh, g.vr, g.vh, g.ne⟩
theorem VRaw.nca (g : VRaw H C a dx p c r h b S cs ws us) : a ≠ c ∧ a ≠ r ∧ a ≠ h ∧ a ≠ b := g.dn.nca
theorem VRaw.ext (g : VRaw H C a dx p c r h b S cs ws us) (s : Same H H') : VRaw H' C a dx p c r h b S cs ws us := (g.dn.ext s).vup rfl
theorem VRaw.fldU {S' : Sh} (g : VRaw H C a dx p c r h b S cs ws us) (e1 : S'.row = S.row := by rfl) (e2 : S'.held = S.held := by rfl) (e3 : S'.born = S.born := by rfl) : VRaw (upd H a (.ins C dx (shF p c r h b S'))) C a dx p c r h b S' cs ws us :=
  (g.dn.fldU (S' := { S' with cells := cs }) e1 e2 e3 rfl).vup rfl
theorem VRaw.cellsU {cs' : List Int} (g : VRaw H C a dx p c r h b S cs ws us) : VRaw (upd H c (.lst (cs'.map V.int))) C a dx p c r h b S cs' ws us := (g.dn.cellsU (cs := cs')).vup rfl
theorem VRaw.bornU {ns : List Int} (g : VRaw H C a dx p c r h b S cs ws us) : VRaw (upd H b (.lst (ns.map V.int))) C a dx p c r h b { S with born := ns } cs ws us := (g.dn.bornU (cs := ns)).vup rfl
theorem VRaw.rowU {ws' : List V} {ks : List Ky} (g : VRaw H C a dx p c r h b S cs ws us) (v : Ky.vals ks = true) (k : KysAt H ws' ks) : VRaw (upd H r (.lst ws')) C a dx p c r h b { S with row := ks } cs ws' us := (g.dn.rowU v k).vup rfl
theorem VRaw.heldU {us' : List V} {ks : List Ky} (g : VRaw H C a dx p c r h b S cs ws us) (v : Ky.vals ks = true) (k : KysAt H us' ks) : VRaw (upd H h (.lst us')) C a dx p c r h b { S with held := ks } cs ws us' := (g.dn.heldU v k).vup rfl
theorem VRaw.reC {c' : Addr} {cs' : List Int} (g : VRaw H C a dx p c r h b S cs ws us) (e : H c' = some (.lst (cs'.map V.int))) (n : c' ≠ r ∧ c' ≠ h ∧ c' ≠ b) : VRaw (upd H a (.ins C dx (shF p c' r h b S))) C a dx p c' r h b S cs' ws us := (g.dn.reC e n).vup rfl
theorem VRaw.reR {r' : Addr} {ws' : List V} {ks : List Ky} (g : VRaw H C a dx p c r h b S cs ws us) (e : H r' = some (.lst ws')) (v : Ky.vals ks = true) (k : KysAt H ws' ks) (n : c ≠ r' ∧ r' ≠ h ∧ r' ≠ b) : VRaw (upd H a (.ins C dx (shF p c r' h b { S with row := ks }))) C a dx p c r' h b { S with row := ks } cs ws' us := (g.dn.reR e v k n).vup rfl
theorem VRaw.reH {h' : Addr} {us' : List V} {ks : List Ky} (g : VRaw H C a dx p c r h b S cs ws us) (e : H h' = some (.lst us')) (v : Ky.vals ks = true) (k : KysAt H us' ks) (n : c ≠ h' ∧ r ≠ h' ∧ h' ≠ b) : VRaw (upd H a (.ins C dx (shF p c r h' b { S with held := ks }))) C a dx p c r h' b { S with held := ks } cs ws us' := (g.dn.reH e v k n).vup rfl
theorem VRaw.reB {b' : Addr} {ns : List Int} (g : VRaw H C a dx p c r h b S cs ws us) (e : H b' = some (.lst (ns.map V.int))) (n : c ≠ b' ∧ r ≠ b' ∧ h ≠ b') : VRaw (upd H a (.ins C dx (shF p c r h b' { S with born := ns }))) C a dx p c r h b' { S with born := ns } cs ws us := (g.dn.reB e n).vup rfl
end
structure Kx where
  m : Addr
  ap : Bool
  seats : List (Nat × Nat)
  cells : List Int
def seatK (l : List (Nat × Nat)) : List Ky := l.map fun e => .num e.1
def seatV (l : List (Nat × Nat)) : List V := l.map fun e => .int e.2
structure KnRaw (w : World) (H : Hp) (C a dx : Addr) (c r h b s : Addr) (S : Sh) (x : Kx) (ws us : List V) : Prop where
  v : VRaw H C a dx (.kin x.m s x.ap) c r h b S x.cells ws us
  mx : MixAt w H s (seatK x.seats) (seatV x.seats)
  ns : s ≠ a ∧ s ≠ c ∧ s ≠ r ∧ s ≠ h ∧ s ≠ b
def KnAt (w : World) (H : Hp) (C a : Addr) (fp : List Addr) (S : Sh) (x : Kx) : Prop := ∃ dx c r h b s ws us, fp = [a, c, r, h, b, s] ∧ KnRaw w H C a dx c r h b s S x ws us
def knT (w : World) (C a : Addr) (S : Sh) (x : Kx) : Thing := fun H fp => KnAt w H C a fp S x
theorem MixAt.keepG {w : World} {H H' : Hp} {a : Addr} {ks : List Ky} {vs : List V} {fq : List Addr} (m : MixAt w H a ks vs) (f : Gr fq H H') (n : NoTup H fq) (d : a ∉ fq) : MixAt w H' a ks vs := by
  obtain ⟨us, e, hu⟩ := m.ex
  exact ⟨⟨us, f.keep _ _ e d, KysAt.keep f.keep n _ _ m.vals hu⟩, m.nd, m.key, m.len⟩
theorem knT_good {w : World} {C a : Addr} {S : Sh} {x : Kx} : Good (knT w C a S x) where
  ext := by
    rintro H H' fp ⟨dx, c, r, h, b, s, ws, us, e, g⟩ st
    exact ⟨dx, c, r, h, b, s, ws, us, e, g.v.ext st, g.mx.same st, g.ns⟩
  apart := by
    rintro H H' fp fq ⟨dx, c, r, h, b, s, ws, us, rfl, g⟩ f n d
    simp only [List.mem_cons, List.not_mem_nil, or_false, forall_eq_or_imp, forall_eq] at d
    obtain ⟨d1, d2, d3, d4, d5, d6⟩ := d
    exact ⟨dx, c, r, h, b, s, ws, us, rfl, ⟨f.keep _ _ g.v.ha d1, f.keep _ _ g.v.hc d2, f.keep _ _ g.v.hr d3, f.keep _ _ g.v.hh d4, f.keep _ _ g.v.hb d5, KysAt.keep f.keep n _ _ g.v.vr g.v.kr, KysAt.keep f.keep n _ _ g.v.vh g.v.kh, g.v.vr, g.v.vh, g.v.ne⟩, g.mx.keepG f n d6, g.ns⟩
  noTup := by
    rintro H fp ⟨dx, c, r, h, b, s, ws, us, rfl, g⟩ y m xs e
    obtain ⟨vs, es, -⟩ := g.mx.ex
    simp only [List.mem_cons, List.not_mem_nil, or_false] at m
    rcases m with rfl | rfl | rfl | rfl | rfl | rfl
    · rw [g.v.ha] at e; cases e
    · rw [g.v.hc] at e; cases e
    · rw [g.v.hr] at e; cases e
    · rw [g.v.hh] at e; cases e
    · rw [g.v.hb] at e; cases e
    · rw [es] at e; exact mixO_nt xs (Option.some.inj e)
  alloc := by
    rintro H fp y ⟨dx, c, r, h, b, s, ws, us, rfl, g⟩ f m
    obtain ⟨vs, es, -⟩ := g.mx.ex
    simp only [List.mem_cons, List.not_mem_nil, or_false] at m
    rcases m with rfl | rfl | rfl | rfl | rfl | rfl
    · exact f.ne g.v.ha rfl
    · exact f.ne g.v.hc rfl
    · exact f.ne g.v.hr rfl
    · exact f.ne g.v.hh rfl
    · exact f.ne g.v.hb rfl
    · exact f.ne es rfl
/-- the seats tell of each key that is there its place -/
structure Seated (mrow row : List Ky) (l : List (Nat × Nat)) : Prop where
  all : ∀ (p : Nat) y, row[p]? = some y → y ≠ .non → ∃ n, mrow[n]? = some y ∧ (n, p) ∈ l
  only : ∀ n p, (n, p) ∈ l → ∃ y, y ≠ .non ∧ mrow[n]? = some y ∧ row[p]? = some y
  few : l.length ≤ row.length
structure Kr (S : Sh) (x : Kx) (M : Mk) : Prop where
  ok : S.Ok
  cw : x.ap = true → CWf S.row S.j x.cells
  seat : x.ap = false → Seated M.row S.row x.seats
def Mk.Le (M M' : Mk) : Prop := ∃ e, M'.row = M.row ++ e
theorem Mk.Le.refl {M : Mk} : M.Le M := ⟨[], (List.append_nil _).symm⟩
theorem Mk.Le.trans {M M1 M2 : Mk} (a : M.Le M1) (b : M1.Le M2) : M.Le M2 := by
  obtain ⟨e, h⟩ := a
  obtain ⟨f, g⟩ := b
  exact ⟨e ++ f, by rw [g, h, List.append_assoc]⟩
theorem Mk.takeIn_le {M : Mk} {y : Ky} : M.Le (M.takeIn y).2 := by
  unfold Mk.takeIn
  cases M.find y with
  | some q => exact .refl
  | none =>
    dsimp only
    split
    · exact ⟨[y], rfl⟩
    · exact .refl
theorem Seated.le {mrow row e : List Ky} {l : List (Nat × Nat)} (s : Seated mrow row l) : Seated (mrow ++ e) row l :=
  ⟨fun p y h n => let ⟨k, h1, h2⟩ := s.all p y h n; ⟨k, by rw [List.getElem?_append_left (List.getElem?_eq_some_iff.mp h1).1]; exact h1, h2⟩,
   fun n p h => let ⟨y, h1, h2, h3⟩ := s.only n p h; ⟨y, h1, by rw [List.getElem?_append_left (List.getElem?_eq_some_iff.mp h2).1]; exact h2, h3⟩, s.few⟩
theorem Kr.le {S : Sh} {x : Kx} {M M' : Mk} (k : Kr S x M) (l : M.Le M') : Kr S x M' := ⟨k.ok, k.cw, fun e => by
  obtain ⟨f, h⟩ := l
  rw [h]
  exact (k.seat e).le⟩
theorem mrow_inj {M : Mk} (o : M.Ok) {p q : Nat} {y : Ky} (h1 : M.row[p]? = some y) (h2 : M.row[q]? = some y) : p = q := o.cw.nd p q y h1 h2 (o.keys y (List.mem_of_getElem? h1)).ne_non
theorem Seated.at {M : Mk} {S : Sh} {l : List (Nat × Nat)} (s : Seated M.row S.row l) (om : M.Ok) (os : S.Ok) {y : Ky} (yk : KeyOk y) {n : Nat} (hn : M.row[n]? = some y) : ∀ p, (n, p) ∈ l ↔ S.row[p]? = some y := fun p => by
  constructor
  · intro m
    obtain ⟨z, z1, z2, z3⟩ := s.only n p m
    rw [hn] at z2
    cases z2
    exact z3
  · intro e
    obtain ⟨k, k1, k2⟩ := s.all p y e yk.ne_non
    rw [mrow_inj om hn k1]
    exact k2
theorem Seated.non {M : Mk} {S : Sh} {l : List (Nat × Nat)} (s : Seated M.row S.row l) {y : Ky} (yk : KeyOk y) (h : y ∉ M.row) : y ∉ S.row := fun m => by
  obtain ⟨p, hp⟩ := List.mem_iff_getElem?.mp m
  obtain ⟨n, h1, -⟩ := s.all p y hp yk.ne_non
  exact h (List.mem_of_getElem? h1)
/-! the parts of a kin's deeds: whether it has parted, its cells, its maker -/
abbrev KC := Bool × List Int × Mk
def layC (S : Sh) (x : Kx) (M : Mk) (y : Ky) : KC := if x.ap = true then (true, layS x.cells S.j S.row.length y, M) else match (M.takeIn y).1 with
  | some _ => (false, x.cells, (M.takeIn y).2)
  | none => (true, layS (layN S.j S.row S.row.length) S.j S.row.length y, M)
structure KE (w : World) (C CM : Addr) (Hb H : Hp) (ts : List Thing) (i j : Nat) (a : Addr) (S : Sh) (x : Kx) (M : Mk) : Prop where
  g : GW Hb H ts
  hi : ts[i]? = some (knT w C a S x)
  hj : ts[j]? = some (mkT CM x.m M)
  ij : i ≠ j
def spKFind (w : World) (C CM : Addr) : Sp := fun vs H Q _ => ∃ (a : Addr) (Hb : Hp) (ts : List Thing) (i j : Nat) (S : Sh) (x : Kx) (M : Mk) (v : V) (y : Ky), vs = [.ref a, v] ∧ KE w C CM Hb H ts i j a S x M ∧ Kr S x M ∧ KyAt H v y ∧ KeyOk y ∧ ∀ H', Same H H' → Q (optV (S.find y)) H'
theorem len_kfind {w : World} {C CM : Addr} {vs H Q E} (h : spKFind w C CM vs H Q E) : vs.length = 2 := by obtain ⟨_, _, _, _, _, _, _, _, _, _, rfl, _⟩ := h; rfl
def spKRelay (w : World) (C CM : Addr) : Sp := fun vs H Q _ => ∃ (a : Addr) (Hb : Hp) (ts : List Thing) (i j : Nat) (S : Sh) (x : Kx) (M : Mk), vs = [.ref a] ∧ KE w C CM Hb H ts i j a S x M ∧ RowOk S.row ∧ (3 ≤ S.j ∧ S.j ≤ 12) ∧ (S.row.length : Int) ≤ 2 * 2 ^ S.j / 3 ∧ (∀ (p q : Nat) k, S.row[p]? = some k → S.row[q]? = some k → k ≠ .non → p = q) ∧ (x.ap = false → ∀ y ∈ S.row, y ≠ .non → y ∈ M.row) ∧
  ∀ H' l, Gr [a] H H' → GW Hb H' (ts.set i (knT w C a S ⟨x.m, x.ap, l, if x.ap = true then layN S.j S.row S.row.length else x.cells⟩)) → Keeps H H' → (x.ap = false → Seated M.row S.row l) → Q .non H'
theorem len_krelay {w : World} {C CM : Addr} {vs H Q E} (h : spKRelay w C CM vs H Q E) : vs.length = 1 := by obtain ⟨_, _, _, _, _, _, _, _, rfl, _⟩ := h; rfl
def spKLay (w : World) (C CM : Addr) : Sp := fun vs H Q _ => ∃ (a : Addr) (Hb : Hp) (ts : List Thing) (i j : Nat) (S : Sh) (x : Kx) (M : Mk) (v : V) (y : Ky), vs = [.ref a, v, .int (S.row.length : Nat)] ∧ KE w C CM Hb H ts i j a S x M ∧ Kr S x M ∧ KyAt H v y ∧ KeyOk y ∧ y ∉ S.row ∧ S.full = false ∧
  ∀ H' l, GW Hb H' ((ts.set i (knT w C a S ⟨x.m, (layC S x M y).1, l, (layC S x M y).2.1⟩)).set j (mkT CM x.m (layC S x M y).2.2)) → Keeps H H' → ((layC S x M y).1 = true → CWf (S.row ++ [y]) S.j (layC S x M y).2.1) → ((layC S x M y).1 = false → Seated (layC S x M y).2.2.row (S.row ++ [y]) l) → Q .non H'
theorem len_klay {w : World} {C CM : Addr} {vs H Q E} (h : spKLay w C CM vs H Q E) : vs.length = 3 := by obtain ⟨_, _, _, _, _, _, _, _, _, _, rfl, _⟩ := h; rfl
def goneC (S : Sh) (x : Kx) (y : Ky) : List Int := if x.ap = true then x.cells.set (lastSlot x.cells S.row S.j y).toNat (-2) else x.cells
def spKGone (w : World) (C CM : Addr) : Sp := fun vs H Q _ => ∃ (a : Addr) (Hb : Hp) (ts : List Thing) (i j : Nat) (S : Sh) (x : Kx) (M : Mk) (v : V) (y : Ky) (q : Nat) (u : V), vs = [.ref a, v, u] ∧ KE w C CM Hb H ts i j a S x M ∧ Kr S x M ∧ KyAt H v y ∧ KeyOk y ∧ S.row[q]? = some y ∧
  ∀ H' l, GW Hb H' (ts.set i (knT w C a S ⟨x.m, x.ap, l, goneC S x y⟩)) → Keeps H H' → (x.ap = true → CWf (S.row.set q .non) S.j (goneC S x y)) → (x.ap = false → Seated M.row (S.row.set q .non) l) → Q .non H'
theorem len_kgone {w : World} {C CM : Addr} {vs H Q E} (h : spKGone w C CM vs H Q E) : vs.length = 3 := by obtain ⟨_, _, _, _, _, _, _, _, _, _, _, _, rfl, _⟩ := h; rfl
structure KnC (K : PySem.W.Frag) (C : Addr) : Prop where
  sh : ShC K C
  maker : NoAttr K C "maker"
  seats : NoAttr K C "seats"
  apart : NoAttr K C "apart"
section
variable {w : World} {H H' Hb : Hp} {C CM a dx c r h b s m m' s2 y : Addr} {ap ap' : Bool} {S : Sh} {cs : List Int} {ws us : List V} {K : PySem.W.Frag} {Q : VK} {R : Hp → Prop} {x : Kx} {ts : List Thing} {i j : Nat} {M : Mk}
theorem kn_maker (k : KnC K C) (e : H a = some (.ins C dx (shF (.kin m s ap) c r h b S))) : FldAt K H a "maker" Q = Q (.ref m) H := fldAt e k.sh.cls k.maker (by with_unfolding_all rfl)
theorem kn_seats (k : KnC K C) (e : H a = some (.ins C dx (shF (.kin m s ap) c r h b S))) : FldAt K H a "seats" Q = Q (.ref s) H := fldAt e k.sh.cls k.seats (by with_unfolding_all rfl)
theorem kn_apart (k : KnC K C) (e : H a = some (.ins C dx (shF (.kin m s ap) c r h b S))) : FldAt K H a "apart" Q = Q (.bl ap) H := fldAt e k.sh.cls k.apart (by with_unfolding_all rfl)
theorem set_seats (k : KnC K C) (e : H a = some (.ins C dx (shF (.kin m s ap) c r h b S))) : SetAt K H a "seats" (.ref s2) R = R (upd H a (.ins C dx (shF (.kin m s2 ap) c r h b S))) := setAt e k.sh.cls k.seats shF_len (by with_unfolding_all rfl)
theorem set_apart (k : KnC K C) (e : H a = some (.ins C dx (shF (.kin m s ap) c r h b S))) : SetAt K H a "apart" (.bl ap') R = R (upd H a (.ins C dx (shF (.kin m s ap') c r h b S))) := setAt e k.sh.cls k.apart shF_len (by with_unfolding_all rfl)
theorem VRaw.preU {p p' : Pre} (g : VRaw H C a dx p c r h b S cs ws us) : VRaw (upd H a (.ins C dx (shF p' c r h b S))) C a dx p' c r h b S cs ws us := by
  obtain ⟨n1, n2, n3, n4⟩ := g.nca
  have nt : ∀ xs, HO.ins C dx (shF p c r h b S) ≠ .tup xs := fun _ z => by cases z
  exact ⟨upd_same, by rw [upd_ne n1.symm]; exact g.hc, by rw [upd_ne n2.symm]; exact g.hr, by rw [upd_ne n3.symm]; exact g.hh, by rw [upd_ne n4.symm]; exact g.hb, kys_upd g.ha nt g.vr g.kr, kys_upd g.ha nt g.vh g.kh, g.vr, g.vh, g.ne⟩
theorem VRaw.away {p : Pre} {o o' : HO} (g : VRaw H C a dx p c r h b S cs ws us) (e : H y = some o) (nt : ∀ xs, o ≠ .tup xs) (n : y ≠ a ∧ y ≠ c ∧ y ≠ r ∧ y ≠ h ∧ y ≠ b) : VRaw (upd H y o') C a dx p c r h b S cs ws us :=
  ⟨by rw [upd_ne n.1.symm]; exact g.ha, by rw [upd_ne n.2.1.symm]; exact g.hc, by rw [upd_ne n.2.2.1.symm]; exact g.hr, by rw [upd_ne n.2.2.2.1.symm]; exact g.hh, by rw [upd_ne n.2.2.2.2.symm]; exact g.hb, kys_upd e nt g.vr g.kr, kys_upd e nt g.vh g.kh, g.vr, g.vh, g.ne⟩
theorem KnRaw.ext (g : KnRaw w H C a dx c r h b s S x ws us) (st : Same H H') : KnRaw w H' C a dx c r h b s S x ws us := ⟨g.v.ext st, g.mx.same st, g.ns⟩
theorem KnRaw.is (g : KnRaw w H C a dx c r h b s S x ws us) : IsMix w H (.ref s) := g.mx.isM
theorem MixAt.is {d : Addr} {ks : List Ky} {vs : List V} (m : MixAt w H d ks vs) : ∃ o, H d = some o ∧ ∀ xs, o ≠ .tup xs := by
  obtain ⟨us, e, -⟩ := m.ex
  exact ⟨_, e, mixO_nt⟩
theorem MixAt.away {d : Addr} {ks : List Ky} {vs : List V} {o o' : HO} (m : MixAt w H d ks vs) (e : H y = some o) (nt : ∀ xs, o ≠ .tup xs) (n : d ≠ y) : MixAt w (upd H y o') d ks vs := by
  obtain ⟨us, e1, h1⟩ := m.ex
  exact ⟨⟨us, by rw [upd_ne n]; exact e1, kys_upd e nt m.vals h1⟩, m.nd, m.key, m.len⟩
theorem find_same {row : List Ky} {j j' : Nat} {cs cs' : List Int} (h1 : CWf row j cs) (h2 : CWf row j' cs') {z : Ky} (n : z ≠ .non) : placeO cs row j z = placeO cs' row j' z := by
  cases e : placeO cs row j z with
  | none => exact ((h2.place_none n).mpr ((h1.place_none n).mp e)).symm
  | some q => exact ((h2.place_some n).mpr ((h1.place_some n).mp e)).symm
theorem seat_at {l : List (Nat × Nat)} {k n : Nat} (e : (seatK l)[k]? = some (.num n)) : ∃ p, l[k]? = some (n, p) ∧ (seatV l)[k]? = some (.int p) := by
  unfold seatK at e
  rw [List.getElem?_map] at e
  obtain ⟨⟨n', p⟩, e1, e2⟩ := Option.map_eq_some_iff.mp e
  have e3 : n' = n := by
    have e4 : Ky.num (n' : Int) = Ky.num n := e2
    injection e4 with e5
    omega
  subst e3
  exact ⟨p, e1, by unfold seatV; rw [List.getElem?_map, e1]; rfl⟩
theorem seat_in {l : List (Nat × Nat)} {n p : Nat} (m : (n, p) ∈ l) : Ky.num n ∈ seatK l := List.mem_map.mpr ⟨_, m, rfl⟩
theorem seat_put {l : List (Nat × Nat)} {n p : Nat} (h : ∀ q, (n, q) ∉ l) : putKs (seatK l) (.num n) = seatK (l ++ [(n, p)]) ∧ putVs (seatK l) (seatV l) (.num n) (.int p) = seatV (l ++ [(n, p)]) := by
  have no : Ky.num n ∉ seatK l := fun m => by
    obtain ⟨k, hk⟩ := List.mem_iff_getElem?.mp m
    obtain ⟨q, e1, -⟩ := seat_at hk
    exact h q (List.mem_of_getElem? e1)
  unfold putKs putVs
  rw [if_neg no, if_neg no]
  unfold seatK seatV
  rw [List.map_append, List.map_append]
  exact ⟨rfl, rfl⟩
theorem map_erase {α β : Type} (f : α → β) : ∀ (l : List α) (k : Nat), (l.map f).eraseIdx k = (l.eraseIdx k).map f
  | [], k => by simp
  | x :: l, 0 => rfl
  | x :: l, k + 1 => by rw [List.map_cons, List.eraseIdx_cons_succ, List.eraseIdx_cons_succ, List.map_cons, map_erase f l k]
theorem seat_erase {l : List (Nat × Nat)} (k : Nat) : (seatK l).eraseIdx k = seatK (l.eraseIdx k) ∧ (seatV l).eraseIdx k = seatV (l.eraseIdx k) := by
  unfold seatK seatV
  exact ⟨map_erase _ l k, map_erase _ l k⟩
theorem seat_but {l : List (Nat × Nat)} {k n q : Nat} (nd : (seatK l).Nodup) (e : l[k]? = some (n, q)) : ∀ n' p, (n', p) ∈ l.eraseIdx k ↔ ((n', p) ∈ l ∧ n' ≠ n) := by
  intro n' p
  have at_ : ∀ {k1 k2 : Nat} {a : Nat} {b c : Nat}, l[k1]? = some (a, b) → l[k2]? = some (a, c) → k1 = k2 := fun {k1 k2 a b c} h1 h2 => nodup_at nd k1 k2 (.num a) (by unfold seatK; rw [List.getElem?_map, h1]; rfl) (by unfold seatK; rw [List.getElem?_map, h2]; rfl)
  rw [List.mem_eraseIdx_iff_getElem?]
  constructor
  · rintro ⟨i, ne, h⟩
    refine ⟨List.mem_of_getElem? h, fun e2 => ?_⟩
    rw [e2] at h
    exact ne (at_ h e)
  · rintro ⟨m, ne⟩
    obtain ⟨i, h⟩ := List.mem_iff_getElem?.mp m
    refine ⟨i, fun e2 => ?_, h⟩
    rw [e2, e] at h
    cases h
    exact ne rfl
theorem num_mkey {n : Int} : MKey (.num n) := ⟨rfl, by simp [Ky.dep]⟩
end
/-! promises of a kin's methods -/
def spKMany (w : World) (C : Addr) : Sp := fun vs H Q _ => ∃ a fp S x, vs = [.ref a] ∧ KnAt w H C a fp S x ∧ S.Ok ∧ Q (.int (S.com - S.goi)) H
theorem len_kmany {w : World} {C : Addr} {vs H Q E} (h : spKMany w C vs H Q E) : vs.length = 1 := by obtain ⟨_, _, _, _, rfl, _⟩ := h; rfl
def spKPairs (w : World) (C : Addr) : Sp := fun vs H Q _ => ∃ a fp S x, vs = [.ref a] ∧ KnAt w H C a fp S x ∧ S.Ok ∧ ∀ H' L xs, Same H H' → Fresh H L → H' L = some (.lst xs) → KysAt H' xs S.pairs → Q (.ref L) H'
theorem len_kpairs {w : World} {C : Addr} {vs H Q E} (h : spKPairs w C vs H Q E) : vs.length = 1 := by obtain ⟨_, _, _, _, rfl, _⟩ := h; rfl
def spKCounts (w : World) (C : Addr) : Sp := fun vs H Q _ => ∃ a fp S x, vs = [.ref a] ∧ KnAt w H C a fp S x ∧ S.Ok ∧ ∀ H' T, Same H H' → Fresh H T → H' T = some (.tup (S.counts.map V.int)) → Q (.ref T) H'
theorem len_kcounts {w : World} {C : Addr} {vs H Q E} (h : spKCounts w C vs H Q E) : vs.length = 1 := by obtain ⟨_, _, _, _, rfl, _⟩ := h; rfl
def spKAfter (w : World) (C : Addr) : Sp := fun vs H Q _ => ∃ a fp S x n, vs = [.ref a, .int n] ∧ KnAt w H C a fp S x ∧ S.Ok ∧ (match S.after n with
  | none => ∀ H', Same H H' → Q .non H'
  | some q => ∀ H' v, Same H H' → KyAt H' v (S.trip q) → Q v H')
theorem len_kafter {w : World} {C : Addr} {vs H Q E} (h : spKAfter w C vs H Q E) : vs.length = 2 := by obtain ⟨_, _, _, _, _, rfl, _⟩ := h; rfl
def spKAhead (w : World) (C : Addr) : Sp := fun vs H Q _ => ∃ a fp S x n, vs = [.ref a, .int n] ∧ KnAt w H C a fp S x ∧ S.Ok ∧ (match S.ahead n with
  | none => ∀ H', Same H H' → Q .non H'
  | some q => ∀ H' v, Same H H' → KyAt H' v (S.trip q) → Q v H')
theorem len_kahead {w : World} {C : Addr} {vs H Q E} (h : spKAhead w C vs H Q E) : vs.length = 2 := by obtain ⟨_, _, _, _, _, rfl, _⟩ := h; rfl
def spInitP (K : PySem.W.Frag) : Sp := fun vs H Q _ => ∃ C a dx p j, ShC K C ∧ vs = [.ref a, .int (2 ^ j)] ∧ H a = some (.ins C dx (preF p)) ∧ (3 ≤ j ∧ j ≤ 12) ∧ ∀ H' fp, Gr [a] H H' → Sub fp [a] H → ShAt H' C a p fp (Sh.new j) → Q .non H'
theorem len_initP {K : PySem.W.Frag} {vs H Q E} (h : spInitP K vs H Q E) : vs.length = 2 := by obtain ⟨_, _, _, _, _, _, rfl, _⟩ := h; rfl
def spInitTP (K : PySem.W.Frag) : Sp := fun vs H Q _ => ∃ C a dx p, ShC K C ∧ vs = [.ref a] ∧ H a = some (.ins C dx (preF p)) ∧ ∀ H' fp, Gr [a] H H' → Sub fp [a] H → ShAt H' C a p fp (Sh.new 3) → Q .non H'
theorem len_initTP {K : PySem.W.Frag} {vs H Q E} (h : spInitTP K vs H Q E) : vs.length = 1 := by obtain ⟨_, _, _, _, _, rfl, _⟩ := h; rfl
def spKInit (w : World) (C : Addr) : Sp := fun vs H Q _ => ∃ (a m : Addr) (Hb : Hp) (ts : List Thing) (i : Nat), vs = [.ref a, .ref m] ∧ GW Hb H ts ∧ ts[i]? = some (insT C a []) ∧
  ∀ H' cs, GW Hb H' (ts.set i (knT w C a (Sh.new 3) ⟨m, false, [], cs⟩)) → Keeps H H' → (∀ M, Kr (Sh.new 3) ⟨m, false, [], cs⟩ M) → Q .non H'
theorem len_kinit {w : World} {C : Addr} {vs H Q E} (h : spKInit w C vs H Q E) : vs.length = 2 := by obtain ⟨_, _, _, _, _, rfl, _⟩ := h; rfl
def tidyCells (S : Sh) (x : Kx) : List Int := if x.ap = true then layN S.tidy.j S.tidy.row S.tidy.row.length else x.cells
def spKRoom (w : World) (C CM : Addr) : Sp := fun vs H Q _ => ∃ (a : Addr) (Hb : Hp) (ts : List Thing) (i j : Nat) (S : Sh) (x : Kx) (M : Mk), vs = [.ref a] ∧ KE w C CM Hb H ts i j a S x M ∧ Kr S x M ∧ S.lv.length ≤ 1365 ∧
  ∀ H' l, GW Hb H' (ts.set i (knT w C a S.tidy ⟨x.m, x.ap, l, tidyCells S x⟩)) → Keeps H H' → Kr S.tidy ⟨x.m, x.ap, l, tidyCells S x⟩ M → Q .non H'
theorem len_kroom {w : World} {C CM : Addr} {vs H Q E} (h : spKRoom w C CM vs H Q E) : vs.length = 1 := by obtain ⟨_, _, _, _, _, _, _, _, rfl, _⟩ := h; rfl
def putC (S : Sh) (x : Kx) (M : Mk) (y : Ky) : KC := match S.find y with
  | some _ => (x.ap, x.cells, M)
  | none => if S.full = true then layC S.tidy ⟨x.m, x.ap, x.seats, tidyCells S x⟩ M y else layC S x M y
def spKPut (w : World) (C CM CN : Addr) : Sp := fun vs H Q E => ∃ (a : Addr) (Hb : Hp) (ts : List Thing) (i j : Nat) (S : Sh) (x : Kx) (M : Mk) (v u : V) (y z : Ky), vs = [.ref a, v, u] ∧ KE w C CM Hb H ts i j a S x M ∧ Kr S x M ∧ KyAt H v y ∧ y.fit = true ∧ (within 3 y = true → KeyOk y) ∧ KyAt H u z ∧ HVal z ∧ S.lv.length ≤ 1365 ∧
  (within 3 y = false → E (.ref CN) none H) ∧ (KeyOk y → ∀ H' x' M', x'.m = x.m → GW Hb H' ((ts.set i (knT w C a (S.putT y z).2 x')).set j (mkT CM x.m M')) → Kr (S.putT y z).2 x' M' → M.Le M' → Keeps H H' → (x'.ap, x'.cells, M') = putC S x M y → Q (.bl (S.putT y z).1) H')
theorem len_kput {w : World} {C CM CN : Addr} {vs H Q E} (h : spKPut w C CM CN vs H Q E) : vs.length = 3 := by obtain ⟨_, _, _, _, _, _, _, _, _, _, _, _, rfl, _⟩ := h; rfl
def spKAt (w : World) (C CM CN CL : Addr) : Sp := fun vs H Q E => ∃ (a : Addr) (Hb : Hp) (ts : List Thing) (i j : Nat) (S : Sh) (x : Kx) (M : Mk) (v : V) (y : Ky), vs = [.ref a, v] ∧ KE w C CM Hb H ts i j a S x M ∧ Kr S x M ∧ KyAt H v y ∧ y.fit = true ∧ (within 3 y = true → KeyOk y) ∧
  (within 3 y = false → E (.ref CN) none H) ∧ (KeyOk y → match S.heldAt y with
  | none => ∀ H', Same H H' → E (.ref CL) none H'
  | some z => ∀ H' u, Same H H' → KyAt H' u z → Q u H')
theorem len_kat {w : World} {C CM CN CL : Addr} {vs H Q E} (h : spKAt w C CM CN CL vs H Q E) : vs.length = 2 := by obtain ⟨_, _, _, _, _, _, _, _, _, _, rfl, _⟩ := h; rfl
def spKTold (w : World) (C CM CN : Addr) : Sp := fun vs H Q E => ∃ (a : Addr) (Hb : Hp) (ts : List Thing) (i j : Nat) (S : Sh) (x : Kx) (M : Mk) (v : V) (y : Ky) (w0 : V), vs = [.ref a, v, w0] ∧ KE w C CM Hb H ts i j a S x M ∧ Kr S x M ∧ KyAt H v y ∧ y.fit = true ∧ (within 3 y = true → KeyOk y) ∧
  (within 3 y = false → E (.ref CN) none H) ∧ (KeyOk y → match S.heldAt y with
  | none => ∀ H', Same H H' → Q w0 H'
  | some z => ∀ H' u, Same H H' → KyAt H' u z → Q u H')
theorem len_ktold {w : World} {C CM CN : Addr} {vs H Q E} (h : spKTold w C CM CN vs H Q E) : vs.length = 3 := by obtain ⟨_, _, _, _, _, _, _, _, _, _, _, rfl, _⟩ := h; rfl
def spKHas (w : World) (C CM CN : Addr) : Sp := fun vs H Q E => ∃ (a : Addr) (Hb : Hp) (ts : List Thing) (i j : Nat) (S : Sh) (x : Kx) (M : Mk) (v : V) (y : Ky), vs = [.ref a, v] ∧ KE w C CM Hb H ts i j a S x M ∧ Kr S x M ∧ KyAt H v y ∧ y.fit = true ∧ (within 3 y = true → KeyOk y) ∧
  (within 3 y = false → E (.ref CN) none H) ∧ (KeyOk y → ∀ H', Same H H' → Q (.bl (S.find y).isSome) H')
theorem len_khas {w : World} {C CM CN : Addr} {vs H Q E} (h : spKHas w C CM CN vs H Q E) : vs.length = 2 := by obtain ⟨_, _, _, _, _, _, _, _, _, _, rfl, _⟩ := h; rfl
def spKTake (w : World) (C CM CN CL : Addr) : Sp := fun vs H Q E => ∃ (a : Addr) (Hb : Hp) (ts : List Thing) (i j : Nat) (S : Sh) (x : Kx) (M : Mk) (v : V) (y : Ky), vs = [.ref a, v] ∧ KE w C CM Hb H ts i j a S x M ∧ Kr S x M ∧ KyAt H v y ∧ y.fit = true ∧ (within 3 y = true → KeyOk y) ∧
  (within 3 y = false → E (.ref CN) none H) ∧ (KeyOk y → match S.find y with
  | none => ∀ H', Same H H' → E (.ref CL) none H'
  | some q => ∀ H' l u z, GW Hb H' (ts.set i (knT w C a (S.went q y) ⟨x.m, x.ap, l, goneC S x y⟩)) → Kr (S.went q y) ⟨x.m, x.ap, l, goneC S x y⟩ M → Keeps H H' → S.held[q]? = some z → KyAt H' u z → Q u H')
theorem len_ktake {w : World} {C CM CN CL : Addr} {vs H Q E} (h : spKTake w C CM CN CL vs H Q E) : vs.length = 2 := by obtain ⟨_, _, _, _, _, _, _, _, _, _, rfl, _⟩ := h; rfl
def spKLast (w : World) (C CM CL : Addr) : Sp := fun vs H Q E => ∃ (a : Addr) (Hb : Hp) (ts : List Thing) (i j : Nat) (S : Sh) (x : Kx) (M : Mk), vs = [.ref a] ∧ KE w C CM Hb H ts i j a S x M ∧ Kr S x M ∧ (match S.last with
  | none => ∀ H', Same H H' → E (.ref CL) none H'
  | some q => ∀ H' l v, GW Hb H' (ts.set i (knT w C a (S.went q (S.row.getD q .non)) ⟨x.m, x.ap, l, goneC S x (S.row.getD q .non)⟩)) → Kr (S.went q (S.row.getD q .non)) ⟨x.m, x.ap, l, goneC S x (S.row.getD q .non)⟩ M → Keeps H H' → KyAt H' v (.tup [S.row.getD q .non, S.held.getD q .non]) → Q v H')
theorem len_klast {w : World} {C CM CL : Addr} {vs H Q E} (h : spKLast w C CM CL vs H Q E) : vs.length = 1 := by obtain ⟨_, _, _, _, _, _, _, _, rfl, _⟩ := h; rfl
def emptyCells (S : Sh) (x : Kx) : List Int := if x.ap = true then List.replicate (2 ^ S.jl) (-1) else x.cells
def spKEmptied (w : World) (C CM : Addr) : Sp := fun vs H Q _ => ∃ (a : Addr) (Hb : Hp) (ts : List Thing) (i j : Nat) (S : Sh) (x : Kx) (M : Mk), vs = [.ref a] ∧ KE w C CM Hb H ts i j a S x M ∧ Kr S x M ∧
  ∀ H' l, GW Hb H' (ts.set i (knT w C a S.emptied ⟨x.m, x.ap, l, emptyCells S x⟩)) → Kr S.emptied ⟨x.m, x.ap, l, emptyCells S x⟩ M → Keeps H H' → Q .non H'
theorem len_kemptied {w : World} {C CM : Addr} {vs H Q E} (h : spKEmptied w C CM vs H Q E) : vs.length = 1 := by obtain ⟨_, _, _, _, _, _, _, _, rfl, _⟩ := h; rfl
def spKPaper (w : World) (C CM CN : Addr) : Sp := fun vs H Q E => ∃ (a : Addr) (Hb : Hp) (ts : List Thing) (i j : Nat) (S : Sh) (x : Kx) (M : Mk) (v : V) (y : Ky), vs = [.ref a, v] ∧ KE w C CM Hb H ts i j a S x M ∧ Kr S x M ∧ KyAt H v y ∧ y.fit = true ∧ (within 3 y = true → KeyOk y) ∧
  (within 3 y = false → E (.ref CN) none H) ∧ (KeyOk y → ∀ H' L xs, Same H H' → Fresh H L → H' L = some (.lst xs) → KysAt H' xs (if x.ap = true then paperK x.cells S.row S.j y else paperK M.cells M.row 5 y) → Q (.ref L) H')
theorem len_kpaper {w : World} {C CM CN : Addr} {vs H Q E} (h : spKPaper w C CM CN vs H Q E) : vs.length = 2 := by obtain ⟨_, _, _, _, _, _, _, _, _, _, rfl, _⟩ := h; rfl
def spKParted (w : World) (C : Addr) : Sp := fun vs H Q _ => ∃ a fp S x, vs = [.ref a] ∧ KnAt w H C a fp S x ∧ Q (.bl x.ap) H
theorem len_kparted {w : World} {C : Addr} {vs H Q E} (h : spKParted w C vs H Q E) : vs.length = 1 := by obtain ⟨_, _, _, _, rfl, _⟩ := h; rfl
theorem KE.met {w : World} {C CM : Addr} {Hb H : Hp} {ts : List Thing} {i j : Nat} {a : Addr} {S : Sh} {x : Kx} {M : Mk} (ke : KE w C CM Hb H ts i j a S x M) {m : Str} (l : ∀ (mm s : Addr) (ap : Bool) (c r h b : Addr), (shF (.kin mm s ap) c r h b S).lookup m = none) : MetAt H a C m := by
  obtain ⟨fp, ⟨dx, c, r, h, b, s, ws, us, _, g⟩, -⟩ := ke.g.at ke.hi
  exact ⟨dx, _, g.v.ha, l _ _ _ _ _ _ _⟩
theorem KE.ext {w : World} {C CM : Addr} {Hb H H' : Hp} {ts : List Thing} {i j : Nat} {a : Addr} {S : Sh} {x : Kx} {M : Mk} (ke : KE w C CM Hb H ts i j a S x M) (s : Same H H') : KE w C CM Hb H' ts i j a S x M := ⟨ke.g.ext s, ke.hi, ke.hj, ke.ij⟩
end My
namespace Law
open PySem PySem.Spec PyProof.Rows L2 My
theorem Txt.mkC {K : PySem.W.Frag} {mg : Str → Option Value} {A : Ad} (T : Txt K mg A) : MkC K A.c_Maker := ⟨T.cl_Maker, T.na_Maker_row, T.na_Maker_cells⟩
theorem sc_Maker___init__ : FnScope ["self"] ["self"] (defScope s_Maker___init__) := ⟨rfl, rfl, rfl, by decide +kernel, rfl, by decide +kernel, by decide +kernel⟩
theorem ok_Maker___init__ {P : Program} {w : World} {K : PySem.W.Frag} {mg : Str → Option Value} {base : Heap} {A : Ad} (T : Txt K mg A) : FnOk P w K mg base CX0 7 A.a_Maker___init__ A.d_Maker___init__ ["self"] (spMkInit A.c_Maker) := by
  refine T.F_Maker___init__.ok sc_Maker___init__ (fun vs H Q E h => ?_) (fun cdv A' outer s H vs Q E hr h => ?_)
  · exact len_mkInit h
  · have nd := sc_Maker___init__.nd
    have hu := hu_of hr
    refine ⟨_, (pss_cons (ps_fld (pv 0) (pe_lst pa_nil) rfl) (pss_one (ps_fld (pv 0) (pe_call (ok_cells_of (P := P) (w := w) T) (hr.mono (by decide)) rfl T.m_cells_of T.F_cells_of.kp T.b_cells_of .nil pass0 (pa_cons (pe_lst pa_nil) (pa_cons (pe_glob (v := .int 32) rfl T.g_SHARED ⟨_, rfl⟩) pa_nil))) rfl))), ?_⟩
    clear nd
    obtain ⟨a, Hb, ts, i, rfl, gw, hi, k⟩ := h
    have ck := T.mkC
    obtain ⟨fp, ⟨rfl, dx, h1⟩, st⟩ := gw.at hi
    walk_at "rd"
    refine ⟨by walk_at "sz", fun p hp => ?_⟩
    have na : a ≠ p := hp.ne h1
    have hA1 : upd H p (.lst []) a = some (.ins A.c_Maker dx []) := (upd_ne na).trans h1
    have e1 := upd_same (H := H) (a := p) (o := .lst [])
    have gr1 : Gr [a] H (upd H p (.lst [])) := Gr.refl.new hp
    generalize upd H p (.lst []) = H1 at hA1 e1 gr1 ⊢
    refine setAt_go (gs := [("row", .ref p)]) hA1 ck.cls ck.row (by simp) (by with_unfolding_all rfl) fun H2 e2 hA2 => ⟨by walk_at "sz", fun q hq => ?_⟩
    have p2 : H2 p = some (.lst []) := by rw [e2, upd_ne na.symm]; exact e1
    have gr2 : Gr [a] H H2 := by rw [e2]; exact gr1.put (by simp)
    clear e2
    have sq := Same_upd (o := .lst []) (Same.refl H2) hq
    refine ⟨q, [], [], 5, by rw [show (2 : Int) ^ 5 = 32 from by decide], SqL.of upd_same, .nil, (fun _ h => by cases h), ⟨by decide, by decide, by decide⟩, fun c H4 s4 fc hc => ?_⟩
    have s24 := sq.trans s4
    have fc2 : Fresh H2 c := Same_fresh sq fc
    have nc : c ≠ a := (fc2.ne hA2).symm
    have np : p ≠ c := fc2.ne p2
    have gr4 : Gr [a] H H4 := gr2.trans (Gr.of s24)
    refine setAt_go (gs := mkF p c) (s24 _ _ hA2) ck.cls ck.cells (by simp) (by with_unfolding_all rfl) fun H5 e5 hA5 => ?_
    have p5 : H5 p = some (.lst []) := by rw [e5, upd_ne na.symm]; exact s24 _ _ p2
    have c5 : H5 c = some (.lst ((Mk.new.cells).map V.int)) := by rw [e5, upd_ne nc]; exact hc
    have gr5 : Gr [a] H H5 := by rw [e5]; exact gr4.put (by simp)
    obtain ⟨g', kp⟩ := st H5 [a, p, c] (mkT A.c_Maker a .new) gr5 (fun x m => by
      simp only [List.mem_cons, List.not_mem_nil, or_false] at m
      rcases m with rfl | rfl | rfl
      · exact .inl (by simp)
      · exact .inr hp
      · exact .inr (gr2.free _ fc2)) ⟨dx, p, c, [], rfl, np, hA5, p5, c5, .nil, Mk.new_ok⟩ mkT_good
    walk_at "rd"
    exact k H5 g' kp
theorem sc_Maker_number_of : FnScope ["self", "key"] ["self", "key"] (defScope s_Maker_number_of) := ⟨rfl, rfl, rfl, by decide +kernel, rfl, by decide +kernel, by decide +kernel⟩
theorem ok_Maker_number_of {P : Program} {w : World} {K : PySem.W.Frag} {mg : Str → Option Value} {base : Heap} {A : Ad} (T : Txt K mg A) : FnOk P w K mg base (L2N.CX P w) 7 A.a_Maker_number_of A.d_Maker_number_of ["self", "key"] (spNumber A.c_Maker A.c_NoKey) := by
  refine My.okN T.F_Maker_number_of sc_Maker_number_of (fun vs H Q E h => ?_) (fun cdv A' outer s H vs Q E hr h => ?_)
  · exact len_number h
  · have nd := sc_Maker_number_of.nd
    have hu := hu_of hr
    refine ⟨_, (pss_one (ps_ret (pe_call (ok_place_of (P := P) (w := w) T) (hr.mono (by decide)) rfl T.m_place_of T.F_place_of.kp T.b_place_of .nil pass0 (pa_cons (pe_fld (pv 0) rfl) (pa_cons (pe_fld (pv 0) rfl) (pa_cons (pe_call (ok_checked (P := P) (w := w) T) (hr.mono (by decide)) rfl T.m_checked T.F_checked.kp T.b_checked .nil (L2N.passes_call (L2N.takes_of rfl rfl rfl rfl) fun _ _ _ _ h => h) (pa_cons (pv 1) pa_nil)) pa_nil)))))), ?_⟩
    clear nd
    obtain ⟨a, Hb, ts, i, M, v, y, rfl, gw, hi, hy, hf, hw, k1, k2⟩ := h
    have gw0 := gw
    obtain ⟨fp, ⟨dx, r, c, ws, rfl, ne, h1, h2, h3, h4, ok⟩, st⟩ := gw.mkr hi
    have ck := T.mkC
    have fr : ∀ (Q : VK), FldAt K H a "row" Q = Q (.ref r) H := fun Q => fldAt h1 ck.cls ck.row (by with_unfolding_all rfl)
    have fc : ∀ (Q : VK), FldAt K H a "cells" Q = Q (.ref c) H := fun Q => fldAt h1 ck.cls ck.cells (by with_unfolding_all rfl)
    have rok : RowOk M.row := ok.cw.rok
    walk_at "rd"
    rw [fc, fr]
    refine ⟨v, y, rfl, hy, hf, fun e => ?_, k1⟩
    have yk := hw e
    have lp := ok.cw.last_place (y := y)
    refine ⟨_, _, _, M.cells, ws, M.row, y, 5, rfl, SqL.of h3, SqL.of h2, h4, hy, rok, yk, ⟨ok.cw.len, ok.cw.j12⟩, ok.cw.ok, fun H' s => ?_⟩
    rw [lp]
    exact k2 yk H' s
theorem sc_Maker_taken_in : FnScope ["self", "key", "slot", "cell"] ["self", "key"] (defScope s_Maker_taken_in) := ⟨rfl, rfl, rfl, by decide +kernel, rfl, by decide +kernel, by decide +kernel⟩
theorem ok_Maker_taken_in {P : Program} {w : World} {K : PySem.W.Frag} {mg : Str → Option Value} {base : Heap} {A : Ad} (T : Txt K mg A) : FnOk P w K mg base (L2N.CX P w) 7 A.a_Maker_taken_in A.d_Maker_taken_in ["self", "key"] (spTakenIn A.c_Maker A.c_NoKey) := by
  refine My.okN T.F_Maker_taken_in sc_Maker_taken_in (fun vs H Q E h => ?_) (fun cdv A' outer s H vs Q E hr h => ?_)
  · exact len_takenIn h
  · have nd := sc_Maker_taken_in.nd
    have hu := hu_of hr
    refine ⟨_, (pss_cons (ps_asg (pe_ix ix_list (pe_call (ok_paper (P := P) (w := w) T) (hr.mono (by decide)) rfl T.m_paper_slots T.F_paper.kp T.b_paper .nil pass0 (pa_cons (pe_fld (pv 0) rfl) (pa_cons (pe_fld (pv 0) rfl) (pa_cons (pe_call (ok_checked (P := P) (w := w) T) (hr.mono (by decide)) rfl T.m_checked T.F_checked.kp T.b_checked .nil (L2N.passes_call (L2N.takes_of rfl rfl rfl rfl) fun _ _ _ _ h => h) (pa_cons (pv 1) pa_nil)) pa_nil)))) (pe_un un_neg pe_int) (fun _ _ => rfl)) (pg_tup (n := 2) rfl (pgs_cons (pg_name (i := 2) nd rfl (Or.inl rfl)) (pgs_cons (pg_name (i := 3) nd rfl (Or.inl rfl)) pgs_nil)))) (pss_cons (ps_if (pt_cmpR op_ne (pv 3) (pe_glob (v := .int (-1)) rfl T.g_EMPTY ⟨_, rfl⟩) (nomark _)) (pss_one (ps_ret (pv 3))) pss_nil) (pss_cons (ps_if (pt_cmpR op_ge (pe_callB call_lenU rfl T.n_len PySem.boot_len (pa_cons (pe_fld (pv 0) rfl) pa_nil)) (pe_call (ok_room (P := P) (w := w) T) (hr.mono (by decide)) rfl T.m_room T.F_room.kp T.b_room .nil pass0 (pa_cons (pe_glob (v := .int 32) rfl T.g_SHARED ⟨_, rfl⟩) pa_nil)) (nomark _)) (pss_one (ps_ret pe_non)) pss_nil) (pss_cons (ps_asg (pe_callB call_lenU rfl T.n_len PySem.boot_len (pa_cons (pe_fld (pv 0) rfl) pa_nil)) (pg_sub (pe_fld (pv 0) rfl) (pv 2) set_list)) (pss_cons (ps_expr (pe_bm PySem.F.plainAttrs_list PySem.F.slot_list_append PySem.F.type_list_append mt_append (pe_fld (pv 0) rfl) (pa_cons (pv 1) pa_nil))) (pss_one (ps_ret (pe_op op_sub (pe_callB call_lenU rfl T.n_len PySem.boot_len (pa_cons (pe_fld (pv 0) rfl) pa_nil)) pe_int)))))))), ?_⟩
    clear nd
    obtain ⟨a, Hb, ts, i, M, v, y, rfl, gw, hi, hy, hf, hw, k1, k2⟩ := h
    have gw0 := gw
    obtain ⟨fp, ⟨dx, r, c, ws, rfl, ne, h1, h2, h3, h4, ok⟩, st⟩ := gw.mkr hi
    have ck := T.mkC
    have fr : ∀ (Q : VK), FldAt K H a "row" Q = Q (.ref r) H := fun Q => fldAt h1 ck.cls ck.row (by with_unfolding_all rfl)
    have fc : ∀ (Q : VK), FldAt K H a "cells" Q = Q (.ref c) H := fun Q => fldAt h1 ck.cls ck.cells (by with_unfolding_all rfl)
    have rok : RowOk M.row := ok.cw.rok
    walk_at "rd"
    rw [fc, fr]
    refine ⟨v, y, rfl, hy, hf, fun e => ?_, k1⟩
    have yk := hw e
    have k := k2 yk
    refine ⟨_, _, _, M.cells, ws, M.row, y, 5, rfl, SqL.of h3, SqL.of h2, h4, hy, rok, yk, ⟨ok.cw.len, ok.cw.j12⟩, ok.cw.ok, fun L H1 xs s1 _ hp hx => ?_⟩
    obtain ⟨n0, n1, -, -⟩ := paperN_range M.cells M.row 5 y
    have hxl := KysAt.len hx
    unfold paperK at hx hxl
    rw [List.length_map, List.length_range] at hxl
    obtain ⟨u, e1, hu⟩ := hx.at (i := paperN M.cells M.row 5 y - 1) (k := pairAt M.cells 5 y (paperN M.cells M.row 5 y - 1)) (by rw [List.getElem?_map, List.getElem?_range (by omega)]; rfl)
    obtain ⟨t, rfl, ht⟩ := pair_of hu
    obtain ⟨r0, r1⟩ := probe_range y.stamp ((paperN M.cells M.row 5 y - 1 : Nat) : Int) ok.cw.j12
    have hl := ok.cw.len
    have lw := h4.len
    have le := ok.le
    have pc := pow_cast 5
    walk_at "rd"
    refine ⟨xs, _, SqL.of hp, atI_last (by rw [hxl]; exact e1), ?_⟩
    walk_at "rd"
    refine ⟨_, SqT.of ht, rfl, ?_⟩
    walk_at "rd"
    have lc : getI M.cells (probeF y.stamp (2 ^ 5) ((paperN M.cells M.row 5 y - 1 : Nat) : Int)) = lastCell M.cells M.row 5 y := rfl
    have ls : probeF y.stamp (2 ^ 5) ((paperN M.cells M.row 5 y - 1 : Nat) : Int) = lastSlot M.cells M.row 5 y := rfl
    rw [show (32 : Int) = 2 ^ 5 from by decide, lc, ls]
    rw [ls] at r0 r1
    have at1 : MkAt H1 A.c_Maker a [a, r, c] M := ⟨dx, r, c, ws, rfl, ne, s1 _ _ h1, s1 _ _ h2, s1 _ _ h3, h4.same s1 _ _, ok⟩
    have stay : (M.takeIn y).2 = M → GW Hb H1 (ts.set i (mkT A.c_Maker a (M.takeIn y).2)) ∧ Keeps H H1 := fun e => by
      rw [e]
      exact st H1 _ M (Gr.of s1) Sub.refl at1
    rcases ok.cw.last_cases y with q | ⟨p, q1, q2⟩
    · have fn : M.find y = none := by unfold Mk.find placeO; rw [if_pos q]
      have nin := (ok.find_none yk).mp fn
      rw [q]
      refine iteN (by simp) ?_
      rw [fldAt (s1 _ _ h1) ck.cls ck.row (by with_unfolding_all rfl)]
      walk_at "rd"
      refine ⟨_, .inl (SqL.of (s1 _ _ h2)), iteB (fun c1 => ?_) fun c1 => ?_⟩
      · have e3 : M.takeIn y = (none, M) := by
          unfold Mk.takeIn
          rw [fn]
          dsimp only
          rw [if_neg (by omega)]
        obtain ⟨g', kp⟩ := stay (by rw [e3])
        have k := k H1 g' kp
        rw [e3] at k
        exact k
      · have e3 : M.takeIn y = (some M.row.length, M.come y) := by
          unfold Mk.takeIn
          rw [fn]
          dsimp only
          rw [if_pos (by omega)]
        rw [fldAt (s1 _ _ h1) ck.cls ck.row (by with_unfolding_all rfl)]
        walk_at "rd"
        refine ⟨_, .inl (SqL.of (s1 _ _ h2)), ?_⟩
        rw [fldAt (s1 _ _ h1) ck.cls ck.cells (by with_unfolding_all rfl)]
        walk_at "rd"
        refine ⟨_, _, s1 _ _ h3, ixN_nat r0 (by rw [List.length_map]; omega), ?_⟩
        have nac : a ≠ c := ne_of h1 h3 (by intro z; cases z)
        have nar : a ≠ r := ne_of h1 h2 (by intro z; cases z)
        have a2 : upd H1 c (.lst ((M.cells.map V.int).set (lastSlot M.cells M.row 5 y).toNat (.int (ws.length : Nat)))) a = some (.ins A.c_Maker dx (mkF r c)) := (upd_ne nac).trans (s1 _ _ h1)
        have r2 : upd H1 c (.lst ((M.cells.map V.int).set (lastSlot M.cells M.row 5 y).toNat (.int (ws.length : Nat)))) r = some (.lst ws) := (upd_ne ne).trans (s1 _ _ h2)
        have c2 := upd_same (H := H1) (a := c) (o := .lst ((M.cells.map V.int).set (lastSlot M.cells M.row 5 y).toNat (.int (ws.length : Nat))))
        have k2 : KysAt (upd H1 c (.lst ((M.cells.map V.int).set (lastSlot M.cells M.row 5 y).toNat (.int (ws.length : Nat))))) ws M.row := kys_upd (s1 _ _ h3) (fun _ z => by cases z) ok.vals (h4.same s1 _ _)
        have v2 : KyAt (upd H1 c (.lst ((M.cells.map V.int).set (lastSlot M.cells M.row 5 y).toNat (.int (ws.length : Nat))))) v y := ky_upd (s1 _ _ h3) (fun _ z => by cases z) yk.val (hy.same s1 _ _)
        have gr2 : Gr [a, r, c] H (upd H1 c (.lst ((M.cells.map V.int).set (lastSlot M.cells M.row 5 y).toNat (.int (ws.length : Nat))))) := (Gr.of s1).put (by simp)
        generalize upd H1 c (.lst ((M.cells.map V.int).set (lastSlot M.cells M.row 5 y).toNat (.int (ws.length : Nat)))) = H2 at a2 r2 c2 k2 v2 gr2 ⊢
        rw [fldAt a2 ck.cls ck.row (by with_unfolding_all rfl)]
        walk_at "rd"
        refine ⟨tyL r2, _, r2, by rw [sizeLine_eq]; omega, ?_⟩
        have a3 : upd H2 r (.lst (ws ++ [v])) a = some (.ins A.c_Maker dx (mkF r c)) := (upd_ne nar).trans a2
        have c3 : upd H2 r (.lst (ws ++ [v])) c = some (.lst ((M.cells.map V.int).set (lastSlot M.cells M.row 5 y).toNat (.int (ws.length : Nat)))) := (upd_ne ne.symm).trans c2
        have r3 := upd_same (H := H2) (a := r) (o := .lst (ws ++ [v]))
        have k3 : KysAt (upd H2 r (.lst (ws ++ [v]))) (ws ++ [v]) (M.row ++ [y]) := kys_upd r2 (fun _ z => by cases z) (vals_append ok.vals (vals_one yk.val)) (k2.append (.cons v2 .nil))
        have gr3 : Gr [a, r, c] H (upd H2 r (.lst (ws ++ [v]))) := gr2.put (by simp)
        generalize upd H2 r (.lst (ws ++ [v])) = H3 at a3 r3 c3 k3 gr3 ⊢
        rw [fldAt a3 ck.cls ck.row (by with_unfolding_all rfl)]
        walk_at "rd"
        refine ⟨_, .inl (SqL.of r3), ?_⟩
        have ec : (M.come y).cells.map V.int = (M.cells.map V.int).set (lastSlot M.cells M.row 5 y).toNat (.int (ws.length : Nat)) := by
          show (layS M.cells 5 M.row.length y).map V.int = _
          unfold layS
          rw [if_neg yk.ne_non, ← ok.cw.slot_bare yk.ne_non nin, List.map_set, lw]
        obtain ⟨g', kp⟩ := st H3 [a, r, c] (M.come y) gr3 Sub.refl ⟨dx, r, c, ws ++ [v], rfl, ne, a3, r3, by rw [ec]; exact c3, k3, ok.come yk nin (by omega)⟩
        have k := k H3 (by rw [e3]; exact g') kp
        rw [e3] at k
        rw [List.length_append, List.length_singleton, lw, show ((M.row.length + 1 : Nat) : Int) - 1 = (M.row.length : Nat) by omega]
        exact k
    · have fs : M.find y = some p := (ok.find_some yk).mpr q2
      have e3 : M.takeIn y = (some p, M) := by
        unfold Mk.takeIn
        rw [fs]
      obtain ⟨g', kp⟩ := stay (by rw [e3])
      have k := k H1 g' kp
      rw [e3] at k
      rw [q1]
      exact iteP (by omega) k

end Law
namespace Law
open PySem PySem.Spec PyProof.Rows L2 My
theorem Txt.shC_Kin {K : PySem.W.Frag} {mg : Str → Option Value} {A : Ad} (T : Txt K mg A) : ShC K A.c_Kin := ⟨T.cl_Kin, T.na_Kin_cells, T.na_Kin_size, T.na_Kin_least, T.na_Kin_row, T.na_Kin_held, T.na_Kin_born, T.na_Kin_comings, T.na_Kin_goings, T.na_Kin_tidied, T.na_Kin_moved⟩
theorem Txt.knC {K : PySem.W.Frag} {mg : Str → Option Value} {A : Ad} (T : Txt K mg A) : KnC K A.c_Kin := ⟨T.shC_Kin, T.na_Kin_maker, T.na_Kin_seats, T.na_Kin_apart⟩
theorem sc_Kin_find : FnScope ["self", "key", "number"] ["self", "key"] (defScope s_Kin_find) := ⟨rfl, rfl, rfl, by decide +kernel, rfl, by decide +kernel, by decide +kernel⟩
theorem ok_Kin_find {P : Program} {w : World} {K : PySem.W.Frag} {mg : Str → Option Value} {base : Heap} {A : Ad} (T : Txt K mg A) : FnOk P w K mg base CX0 8 A.a_Kin_find A.d_Kin_find ["self", "key"] (spKFind w A.c_Kin A.c_Maker) := by
  refine T.F_Kin_find.ok sc_Kin_find (fun vs H Q E h => ?_) (fun cdv A' outer s H vs Q E hr h => ?_)
  · exact len_kfind h
  · have nd := sc_Kin_find.nd
    have hu := hu_of hr
    refine ⟨_, (pss_cons (ps_if (pt_val (pe_fld (pv 0) rfl)) (pss_one (ps_ret (pe_call (ok_place_of (P := P) (w := w) T) (hr.mono (by decide)) rfl T.m_place_of T.F_place_of.kp T.b_place_of .nil pass0 (pa_cons (pe_fld (pv 0) rfl) (pa_cons (pe_fld (pv 0) rfl) (pa_cons (pv 1) pa_nil)))))) pss_nil) (pss_cons (ps_set (i := 2) nd rfl (Or.inl rfl) (pe_meth (pe_fld (pv 0) rfl) T.cl_Maker T.me_Maker_number_of (ok_Maker_number_of (P := P) (w := w) T) (hr.mono (by decide)) T.b_Maker_number_of .nil My.passLN (pa_cons (pv 1) pa_nil))) (pss_cons (ps_if (pt_cmpR op_isN (pv 2) pe_non (nomark _)) (pss_one (ps_ret pe_non)) pss_nil) (pss_one (ps_ret (pe_getM w rfl (My.units65 hr) (pe_fld (pv 0) rfl) (pa_cons (pv 2) pa_nil))))))), ?_⟩
    clear nd
    obtain ⟨a, Hb, ts, i, j, S, x, M, v, y, rfl, ke, kr, hy, yk, k⟩ := h
    obtain ⟨gw, hi, hj, ij⟩ := ke
    obtain ⟨fp, ⟨dx, c, r, hh, b, s', ws, us, rfl, g⟩, st⟩ := gw.at hi
    have ga := g.v.ha
    walk_at "rd"
    have ok := kr.ok
    rw [kn_apart T.knC ga]
    walk_at "rd"
    cases eap : x.ap with
    | true =>
      have cw := kr.cw eap
      refine iteP rfl ?_
      simp only [My.fld_cells (T.shC_Kin) ga, My.fld_row (T.shC_Kin) ga]
      walk_at "rd"
      have lp := cw.last_place (y := y)
      refine ⟨_, _, _, x.cells, ws, S.row, y, S.j, rfl, SqL.of g.v.hc, SqL.of g.v.hr, g.v.kr, hy, cw.rok, yk, ⟨cw.len, cw.j12⟩, cw.ok, fun H' s1 => ?_⟩
      rw [lp, find_same cw ok.cw yk.ne_non]
      exact k H' s1
    | false =>
      have se := kr.seat eap
      have om := gw.mkOk hj
      refine iteN (by simp) ?_
      rw [kn_maker T.knC ga]
      walk_at "rd"
      refine ⟨gw.mkMet hj (fun _ _ => by with_unfolding_all rfl), x.m, Hb, ts, j, M, v, y, rfl, gw, hj, hy, yk.f, fun _ => yk, yk.no, fun _ H1 s1 => ?_⟩
      have k := k H1 s1
      have g1 := g.ext s1
      cases em : M.find y with
      | none =>
        have sn : S.find y = none := (ok.find_none yk.ne_non).mpr (se.non yk ((om.find_none yk).mp em))
        rw [sn] at k
        exact iteP rfl k
      | some n =>
        have hn := (om.find_some yk).mp em
        have iff := se.at om ok yk hn
        refine iteN (by simp [optV]) ?_
        rw [kn_seats T.knC g1.v.ha]
        refine ⟨g1.is, .int n, .num n, _, _, _, rfl, rfl, .num _, num_mkey, g1.mx, fun no => ?_, fun q u e1 e2 => ?_⟩
        · have sn : S.find y = none := by
            refine (ok.find_none yk.ne_non).mpr fun m => ?_
            obtain ⟨p, hp⟩ := List.mem_iff_getElem?.mp m
            exact no (seat_in ((iff p).mpr hp))
          rw [sn] at k
          exact k
        · obtain ⟨p, e3, e4⟩ := seat_at e1
          rw [e4] at e2
          cases e2
          rw [(ok.find_some yk.ne_non).mpr ((iff p).mp (List.mem_of_getElem? e3))] at k
          exact k

end Law
namespace Law
open PySem PySem.Spec PyProof.Rows L2 My
theorem sc_Kin_relay : FnScope ["self", "place", "key"] ["self"] (defScope s_Kin_relay) := ⟨rfl, rfl, rfl, by decide +kernel, rfl, by decide +kernel, by decide +kernel⟩
theorem ok_Kin_relay {P : Program} {w : World} {K : PySem.W.Frag} {mg : Str → Option Value} {base : Heap} {A : Ad} (T : Txt K mg A) : FnOk P w K mg base CX0 8 A.a_Kin_relay A.d_Kin_relay ["self"] (spKRelay w A.c_Kin A.c_Maker) := by
  refine T.F_Kin_relay.ok sc_Kin_relay (fun vs H Q E h => ?_) (fun cdv A' outer s H vs Q E hr h => ?_)
  · exact len_krelay h
  · have nd := sc_Kin_relay.nd
    have hu := hu_of hr
    refine ⟨_, (pss_cons (ps_if (pt_val (pe_fld (pv 0) rfl)) (pss_cons (ps_fld (pv 0) (pe_call (ok_cells_of (P := P) (w := w) T) (hr.mono (by decide)) rfl T.m_cells_of T.F_cells_of.kp T.b_cells_of .nil pass0 (pa_cons (pe_fld (pv 0) rfl) (pa_cons (pe_fld (pv 0) rfl) pa_nil))) rfl) (pss_one ps_retN)) pss_nil) (pss_cons (ps_fld (pv 0) (pe_dnewMK w rfl) rfl) (pss_one (ps_for PassesOwn.never rfl (pi_enum rfl T.n_enumerate (pa_cons (pe_fld (pv 0) rfl) pa_nil)) (pg_tup (n := 2) rfl (pgs_cons (pg_name (i := 1) nd rfl (Or.inl rfl)) (pgs_cons (pg_name (i := 2) nd rfl (Or.inl rfl)) pgs_nil))) (pss_one (ps_if (pt_cmpR op_notN (pv 2) pe_non (nomark _)) (pss_one (ps_asg (pv 1) (pg_sub (pe_fld (pv 0) rfl) (pe_meth (pe_fld (pv 0) rfl) T.cl_Maker T.me_Maker_number_of (ok_Maker_number_of (P := P) (w := w) T) (hr.mono (by decide)) T.b_Maker_number_of .nil My.passLN (pa_cons (pv 2) pa_nil)) (set_mixK w rfl (My.units65 hr))))) pss_nil)))))), ?_⟩
    clear nd
    obtain ⟨a, Hb, ts, i, j, S, x, M, rfl, ⟨gw, hi, hj, ij⟩, hR, ⟨j3, j12⟩, hl, nd, inM, k⟩ := h
    obtain ⟨fp, ⟨dx, c, r, hh, b, s', ws, us, rfl, g⟩, st⟩ := gw.at hi
    have ga := g.v.ha
    walk_at "rd"
    rw [kn_apart T.knC ga]
    walk_at "rd"
    cases eap : x.ap with
    | true =>
      rw [eap, if_pos rfl] at k
      refine iteP rfl ?_
      simp only [My.fld_row (T.shC_Kin) ga, My.fld_size (T.shC_Kin) ga]
      walk_at "rd"
      refine ⟨r, ws, S.row, S.j, rfl, SqL.of g.v.hr, g.v.kr, hR, ⟨j3, j12, hl⟩, fun c' H1 s1 fc hc => ?_⟩
      have g1 := g.ext s1
      dsimp only
      rw [set_cells T.shC_Kin (cs := []) g1.v.ha]
      have fc0 : ∀ z o, H z = some o → c' ≠ z := fun z o e => (fc.ne e).symm
      have g2 := g1.v.reC (c' := c') (cs' := layN S.j S.row S.row.length) hc ⟨fc0 _ _ g.v.hr, fc0 _ _ g.v.hh, fc0 _ _ g.v.hb⟩
      obtain ⟨so, es, nso⟩ := g.mx.is
      have m2 := g1.mx.away (o' := .ins A.c_Kin dx (shF (.kin x.m s' x.ap) c' r hh b S)) g1.v.ha (fun _ z => by cases z) g.ns.1
      obtain ⟨g', kp⟩ := st _ [a, c', r, hh, b, s'] (knT w A.c_Kin a S ⟨x.m, true, x.seats, layN S.j S.row S.row.length⟩) ((Gr.of s1).put (x := a) (o := .ins A.c_Kin dx (shF (.kin x.m s' x.ap) c' r hh b S)) (by simp)) (fun z m => by
        simp only [List.mem_cons, List.not_mem_nil, or_false] at m
        rcases m with rfl | rfl | rfl | rfl | rfl | rfl
        · exact .inl (by simp)
        · exact .inr fc
        · exact .inl (by simp)
        · exact .inl (by simp)
        · exact .inl (by simp)
        · exact .inl (by simp)) ⟨dx, c', r, hh, b, s', ws, us, rfl, by rw [eap] at g2 m2 ⊢; exact g2, by rw [eap] at m2 ⊢; exact m2, ⟨g.ns.1, (fc0 _ _ es).symm, g.ns.2.2⟩⟩ knT_good
      exact k _ x.seats ((Gr.of s1).put (by simp)) g' kp fun e => by cases e
    | false =>
      rw [eap, if_neg (by decide)] at k
      have inM := inM eap
      have om := gw.mkOk hj
      refine iteN (by simp) fun s2 o fs m2 => ?_
      have s1 := Same_upd (o := o) (Same.refl H) fs
      obtain ⟨o2, eo2, no2⟩ := m2.is
      generalize upd H s2 o = H1 at s1 m2 eo2 ⊢
      have g1 := g.ext s1
      rw [set_seats T.knC g1.v.ha]
      have fs0 : ∀ z o, H z = some o → s2 ≠ z := fun z o e => (fs.ne e).symm
      have v2 := g1.v.preU (p' := .kin x.m s2 x.ap)
      have m3 := m2.away (o' := .ins A.c_Kin dx (shF (.kin x.m s2 x.ap) c r hh b S)) g1.v.ha (fun _ z => by cases z) (fs0 _ _ g.v.ha)
      have gr2 : Gr [a] H (upd H1 a (.ins A.c_Kin dx (shF (.kin x.m s2 x.ap) c r hh b S))) := (Gr.of s1).put (by simp)
      generalize upd H1 a (.ins A.c_Kin dx (shF (.kin x.m s2 x.ap) c r hh b S)) = H2 at v2 m3 gr2 ⊢
      have ns2 : s2 ≠ a ∧ s2 ≠ c ∧ s2 ≠ r ∧ s2 ≠ hh ∧ s2 ≠ b := ⟨fs0 _ _ g.v.ha, fs0 _ _ g.v.hc, fs0 _ _ g.v.hr, fs0 _ _ g.v.hh, fs0 _ _ g.v.hb⟩
      have sub : Sub [a, c, r, hh, b, s2] [a, c, r, hh, b, s'] H := fun z m => by
        simp only [List.mem_cons, List.not_mem_nil, or_false] at m
        rcases m with rfl | rfl | rfl | rfl | rfl | rfl
        · exact .inl (by simp)
        · exact .inl (by simp)
        · exact .inl (by simp)
        · exact .inl (by simp)
        · exact .inl (by simp)
        · exact .inr fs
      have gwOf : ∀ (H' : Hp) (l : List (Nat × Nat)), Gr [a] H H' → KnRaw w H' A.c_Kin a dx c r hh b s2 S ⟨x.m, x.ap, l, x.cells⟩ ws us → GW Hb H' (ts.set i (knT w A.c_Kin a S ⟨x.m, x.ap, l, x.cells⟩)) ∧ Keeps H H' := fun H' l gr kn => st H' [a, c, r, hh, b, s2] _ (gr.mono (by simp)) sub ⟨dx, c, r, hh, b, s2, ws, us, rfl, kn⟩ knT_good
      have lw := g.v.kr.len
      rw [My.fld_row T.shC_Kin v2.ha]
      walk_at "rd"
      refine ⟨⟨_, SqL.of v2.hr⟩, go_enum (xs := ws) (fun q σ H' => ∃ v1 v2 l, σ = [some (.ref a), v1, v2] ∧ Gr [a] H H' ∧ KnRaw w H' A.c_Kin a dx c r hh b s2 S ⟨x.m, x.ap, l, x.cells⟩ ws us ∧ Seated M.row (S.row.take q) l) ⟨_, _, [], rfl, gr2, ⟨v2, m3, ns2⟩, ⟨fun p y e _ => by simp at e, fun n p m => (by cases m), Nat.zero_le _⟩⟩ (fun q σ H' _ ⟨_, _, _, _, _, kn, _⟩ => SqL.of kn.v.hr) ?_ ?_⟩
      · rintro N q u σ H3 Tq hx ⟨v1, v2, l, rfl, gr, kn, se⟩ hT hN
        have hq := (List.getElem?_eq_some_iff.mp hx).1
        obtain ⟨y, hy, hv⟩ := kn.v.kr.get hx
        walk_at "rd"
        refine ⟨_, SqT.of upd_same, rfl, ?_⟩
        walk_at "rd"
        have sT := Same_upd (o := .tup [V.int q, u]) (Same.refl H3) hT
        generalize upd H3 Tq (.tup [V.int q, u]) = H4 at sT ⊢
        have kn4 := kn.ext sT
        have gr4 := gr.trans (Gr.of sT)
        have hv4 := hv.same sT _ _
        have ts1 : S.row.take (q + 1) = S.row.take q ++ [y] := by
          obtain ⟨h1, h2⟩ := List.getElem?_eq_some_iff.mp hy
          rw [List.take_succ_eq_append_getElem h1, h2]
        have grow : ∀ {p : Nat} {z : Ky}, (S.row.take q)[p]? = some z → (S.row.take q ++ [y])[p]? = some z := fun {p z} e => by rw [List.getElem?_append_left (List.getElem?_eq_some_iff.mp e).1]; exact e
        have lq : (S.row.take q).length = q := by rw [List.length_take]; omega
        have ll := se.few
        refine iteB (fun c1 => ?_) fun c1 => hN _ _ ⟨_, _, l, rfl, gr4, kn4, ?_⟩
        · have yn : y ≠ .non := fun e => c1 (hv.ne_non.mpr e)
          have yk := (hR y (List.mem_of_getElem? hy)).resolve_left yn
          obtain ⟨n, hn⟩ := List.mem_iff_getElem?.mp (inM y (List.mem_of_getElem? hy) yn)
          have em := (om.find_some yk).mpr hn
          obtain ⟨g4, -⟩ := gwOf H4 l gr4 kn4
          have hj4 := set_ne (y := knT w A.c_Kin a S ⟨x.m, x.ap, l, x.cells⟩) hj ij
          rw [kn_seats T.knC kn4.v.ha, kn_maker T.knC kn4.v.ha]
          walk_at "rd"
          refine ⟨g4.mkMet hj4 (fun _ _ => by with_unfolding_all rfl), x.m, Hb, _, j, M, u, y, rfl, g4, hj4, hv4, yk.f, fun _ => yk, yk.no, fun _ H5 s5 => ?_⟩
          have kn5 := kn4.ext s5
          rw [em]
          refine ⟨.num n, s2, _, _, rfl, .num _, num_mkey, kn5.mx, by unfold seatK; rw [List.length_map]; show l.length < sizeLine; rw [sizeLine_eq]; have := hl; have := (pow_le j12).2; simp only [Int.reducePow] at this; omega, fun o5 m5 no5 => ?_⟩
          have fresh : ∀ p, (n, p) ∉ l := fun p m => by
            obtain ⟨z, z1, z2, z3⟩ := se.only n p m
            rw [hn] at z2
            cases z2
            have h1 := (List.getElem?_eq_some_iff.mp z3).1
            rw [List.getElem?_take_of_lt (by omega)] at z3
            have := nd p q y z3 hy yn
            omega
          obtain ⟨e1, e2⟩ := seat_put (p := q) fresh
          have e2' : putVs (seatK l) (seatV l) (.num n) (.int (q : Nat)) = seatV (l ++ [(n, q)]) := e2
          rw [e1, e2'] at m5
          obtain ⟨o4, eo4, no4⟩ := kn5.mx.is
          refine hN _ _ ⟨_, _, l ++ [(n, q)], rfl, (gr4.trans (Gr.of s5)).new fs, ⟨kn5.v.away eo4 no4 ns2, m5, ns2⟩, ?_⟩
          rw [ts1]
          refine ⟨fun p z e zn => ?_, fun n' p m => ?_, by simp only [List.length_append, List.length_singleton]; omega⟩
          · rcases snoc_at e with e | ⟨ep, rfl⟩
            · obtain ⟨k1, k2, k3⟩ := se.all p z e zn
              exact ⟨k1, k2, List.mem_append_left _ k3⟩
            · exact ⟨n, hn, by rw [ep, lq]; exact List.mem_append_right _ (by simp)⟩
          · rcases List.mem_append.mp m with m | m
            · obtain ⟨z, z1, z2, z3⟩ := se.only n' p m
              exact ⟨z, z1, z2, grow z3⟩
            · rw [List.mem_singleton] at m
              cases m
              exact ⟨y, yn, hn, by rw [List.getElem?_append_right (by omega), lq, Nat.sub_self]; rfl⟩
        · have yn : y = .non := hv.ne_non.mp (by simpa using c1)
          rw [ts1]
          refine ⟨fun p z e zn => ?_, fun n' p m => let ⟨z, z1, z2, z3⟩ := se.only n' p m; ⟨z, z1, z2, grow z3⟩, by simp only [List.length_append, List.length_singleton]; omega⟩
          rcases snoc_at e with e | ⟨e, rfl⟩
          · exact se.all p z e zn
          · exact absurd yn zn
      · rintro σ H3 ⟨v1, v2, l, rfl, gr, kn, se⟩
        walk_at "rd"
        obtain ⟨g4, kp4⟩ := gwOf H3 l gr kn
        rw [lw, List.take_length] at se
        rw [eap] at g4
        exact k H3 l gr g4 kp4 fun _ => se

end Law
namespace Law
open PySem PySem.Spec PyProof.Rows L2 My
theorem sc_Kin_lay : FnScope ["self", "key", "place", "number", "slot"] ["self", "key", "place"] (defScope s_Kin_lay) := ⟨rfl, rfl, rfl, by decide +kernel, rfl, by decide +kernel, by decide +kernel⟩
theorem ok_Kin_lay {P : Program} {w : World} {K : PySem.W.Frag} {mg : Str → Option Value} {base : Heap} {A : Ad} (T : Txt K mg A) : FnOk P w K mg base CX0 9 A.a_Kin_lay A.d_Kin_lay ["self", "key", "place"] (spKLay w A.c_Kin A.c_Maker) := by
  refine T.F_Kin_lay.ok sc_Kin_lay (fun vs H Q E h => ?_) (fun cdv A' outer s H vs Q E hr h => ?_)
  · exact len_klay h
  · have nd := sc_Kin_lay.nd
    have hu := hu_of hr
    refine ⟨_, (pss_cons (ps_if (pt_not (pt_val (pe_fld (pv 0) rfl))) (pss_cons (ps_set (i := 3) nd rfl (Or.inl rfl) (pe_meth (pe_fld (pv 0) rfl) T.cl_Maker T.me_Maker_taken_in (ok_Maker_taken_in (P := P) (w := w) T) (hr.mono (by decide)) T.b_Maker_taken_in .nil My.passLN (pa_cons (pv 1) pa_nil))) (pss_cons (ps_if (pt_cmpR op_notN (pv 3) pe_non (nomark _)) (pss_cons (ps_asg (pv 2) (pg_sub (pe_fld (pv 0) rfl) (pv 3) (set_mixK w rfl (My.units65 hr)))) (pss_one ps_retN)) pss_nil) (pss_cons (ps_fld (pv 0) pe_bl rfl) (pss_one (ps_expr (pe_meth0 (pv 0) T.cl_Kin T.me_Kin_relay (ok_Kin_relay (P := P) (w := w) T) (hr.mono (by decide)) T.b_Kin_relay .nil pass0)))))) pss_nil) (pss_cons (ps_set (i := 4) nd rfl (Or.inl rfl) (pe_ix ix_tup (pe_ix ix_list (pe_call (ok_paper (P := P) (w := w) T) (hr.mono (by decide)) rfl T.m_paper_slots T.F_paper.kp T.b_paper .nil pass0 (pa_cons (pe_fld (pv 0) rfl) (pa_cons (pe_fld (pv 0) rfl) (pa_cons (pv 1) pa_nil)))) (pe_un un_neg pe_int) (fun _ _ => rfl)) pe_int (fun _ _ => rfl))) (pss_one (ps_asg (pv 2) (pg_sub (pe_fld (pv 0) rfl) (pv 4) set_list))))), ?_⟩
    clear nd
    obtain ⟨a, Hb, ts, i, j, S, x, M, v, y, rfl, ke, kr, hy, yk, nin, nf, k⟩ := h
    obtain ⟨gw, hi, hj, ij⟩ := ke
    obtain ⟨fp, ⟨dx, c, r, hh, b, s', ws, us, rfl, g⟩, st⟩ := gw.at hi
    have ga := g.v.ha
    walk_at "rd"
    have ok := kr.ok
    have room : (S.row.length : Int) < 2 * 2 ^ S.j / 3 := by have := of_decide_eq_false nf; omega
    rw [kn_apart T.knC ga]
    walk_at "rd"
    cases eap : x.ap with
    | true =>
      have cw := kr.cw eap
      have eL : layC S x M y = (true, layS x.cells S.j S.row.length y, M) := by unfold layC; rw [if_pos eap]
      rw [eL] at k
      refine iteN (by simp) ?_
      simp only [My.fld_cells (T.shC_Kin) ga, My.fld_row (T.shC_Kin) ga]
      walk_at "rd"
      refine ⟨_, _, _, x.cells, ws, S.row, y, S.j, rfl, SqL.of g.v.hc, SqL.of g.v.hr, g.v.kr, hy, cw.rok, yk, ⟨cw.len, cw.j12⟩, cw.ok, fun L H9 xs s9 _ hp hx => ?_⟩
      obtain ⟨n0, n1, -, -⟩ := paperN_range x.cells S.row S.j y
      have hxl := KysAt.len hx
      unfold paperK at hx hxl
      rw [List.length_map, List.length_range] at hxl
      obtain ⟨u9, e9, hu9⟩ := hx.at (i := paperN x.cells S.row S.j y - 1) (k := pairAt x.cells S.j y (paperN x.cells S.row S.j y - 1)) (by rw [List.getElem?_map, List.getElem?_range (by omega)]; rfl)
      obtain ⟨t9, rfl, ht9⟩ := pair_of hu9
      obtain ⟨r0, r1⟩ := probe_range y.stamp ((paperN x.cells S.row S.j y - 1 : Nat) : Int) cw.j12
      have hl9 := cw.len
      have pc9 := pow_cast S.j
      have g := g.ext s9
      walk_at "rd"
      refine ⟨xs, _, SqL.of hp, atI_last (by rw [hxl]; exact e9), ?_⟩
      walk_at "rd"
      refine ⟨_, _, SqT.of ht9, rfl, ?_⟩
      rw [My.fld_cells T.shC_Kin g.v.ha]
      walk_at "rd"
      refine ⟨_, _, g.v.hc, ixN_nat r0 (by show _ < ((x.cells.map V.int).length : Int); rw [List.length_map]; omega), ?_⟩
      have v9 := g.v.cellsU (cs' := x.cells.set (lastSlot x.cells S.row S.j y).toNat (S.row.length : Nat))
      have m9 := g.mx.away (o' := .lst ((x.cells.set (lastSlot x.cells S.row S.j y).toNat (S.row.length : Nat)).map V.int)) g.v.hc (fun _ z => by cases z) g.ns.2.1
      have e10 : (x.cells.map V.int).set (probeF y.stamp (2 ^ S.j) ((paperN x.cells S.row S.j y - 1 : Nat) : Int)).toNat (.int (S.row.length : Nat)) = (x.cells.set (lastSlot x.cells S.row S.j y).toNat (S.row.length : Nat)).map V.int := by rw [List.map_set]; rfl
      rw [e10]
      
      have ec : x.cells.set (lastSlot x.cells S.row S.j y).toNat (S.row.length : Nat) = layS x.cells S.j S.row.length y := by
        unfold layS
        rw [if_neg yk.ne_non, ← cw.slot_bare yk.ne_non nin]
      rw [ec] at v9 m9 ⊢
      obtain ⟨g', kp⟩ := st _ [a, c, r, hh, b, s'] (knT w A.c_Kin a S ⟨x.m, true, x.seats, layS x.cells S.j S.row.length y⟩) ((Gr.of s9).put (x := c) (o := .lst ((layS x.cells S.j S.row.length y).map V.int)) (by simp)) Sub.refl ⟨dx, c, r, hh, b, s', ws, us, rfl, by rw [eap] at v9; exact v9, m9, g.ns⟩ knT_good
      have hj' := set_ne (y := knT w A.c_Kin a S ⟨x.m, true, x.seats, layS x.cells S.j S.row.length y⟩) hj ij
      refine k _ x.seats (by rw [set_id hj']; exact g') kp (fun _ => cw.lay yk nin room) fun e => by cases e
    | false =>
      have se := kr.seat eap
      have om := gw.mkOk hj
      refine iteP rfl ?_
      rw [kn_maker T.knC ga]
      walk_at "rd"
      refine ⟨gw.mkMet hj (fun _ _ => by with_unfolding_all rfl), x.m, Hb, ts, j, M, v, y, rfl, gw, hj, hy, yk.f, fun _ => yk, yk.no, fun _ H1 gw1 kp1 => ?_⟩
      have hi1 := set_ne (y := mkT A.c_Maker x.m (M.takeIn y).2) hi (Ne.symm ij)
      have hj1 := set_at (y := mkT A.c_Maker x.m (M.takeIn y).2) hj
      have hy1 := kp1 _ _ yk.val hy
      cases et : (M.takeIn y).1 with
      | some n =>
        have eL : layC S x M y = (false, x.cells, (M.takeIn y).2) := by unfold layC; rw [if_neg (by rw [eap]; decide), et]
        rw [eL] at k
        have hn : (M.takeIn y).2.row[n]? = some y := by
          unfold Mk.takeIn at et ⊢
          cases ef : M.find y with
          | some q =>
            rw [ef] at et
            cases et
            exact (om.find_some yk).mp ef
          | none =>
            rw [ef] at et
            dsimp only at et ⊢
            split at et
            · rename_i c21
              rw [if_pos c21]
              cases et
              show (M.row ++ [y])[M.row.length]? = some y
              rw [List.getElem?_append_right (Nat.le_refl _), Nat.sub_self]
              rfl
            · cases et
        have om1 := gw1.mkOk hj1
        obtain ⟨e, he⟩ := Mk.takeIn_le (M := M) (y := y)
        have se1 : Seated (M.takeIn y).2.row S.row x.seats := by rw [he]; exact se.le
        refine iteP (by simp [optV]) ?_
        obtain ⟨fp1, ⟨dx, c, r, hh, b, s', ws, us, rfl, g⟩, st⟩ := gw1.at hi1
        rw [kn_seats T.knC g.v.ha]
        have fresh : ∀ p, (n, p) ∉ x.seats := fun p m => by
          have := (se1.at om1 ok yk hn p).mp m
          exact nin (List.mem_of_getElem? this)
        have ls : x.seats.length < sizeLine := by have := se.few; have := ok.cw.lt; rw [sizeLine_eq]; omega
        refine ⟨.num n, s', _, _, rfl, .num _, num_mkey, g.mx, by unfold seatK; rw [List.length_map]; exact ls, fun o5 m5 no5 => ?_⟩
        obtain ⟨e1, e2⟩ := seat_put (p := S.row.length) fresh
        have e2' : putVs (seatK x.seats) (seatV x.seats) (.num n) (.int (S.row.length : Nat)) = seatV (x.seats ++ [(n, S.row.length)]) := e2
        rw [e1, e2'] at m5
        obtain ⟨o4, eo4, no4⟩ := g.mx.is
        obtain ⟨g', kp⟩ := st _ [a, c, r, hh, b, s'] (knT w A.c_Kin a S ⟨x.m, false, x.seats ++ [(n, S.row.length)], x.cells⟩) (Gr.refl.put (x := s') (o := o5) (by simp)) Sub.refl ⟨dx, c, r, hh, b, s', ws, us, rfl, by have v9 := g.v.away (o' := o5) eo4 no4 g.ns; rw [eap] at v9; exact v9, m5, g.ns⟩ knT_good
        refine k _ (x.seats ++ [(n, S.row.length)]) (by rw [List.set_comm _ _ ij]; exact g') (kp1.trans kp) (fun e => by cases e) fun _ => ⟨fun p z ez zn => ?_, fun n' p m => ?_, by have := se.few; simp only [List.length_append, List.length_singleton]; omega⟩
        · rcases snoc_at ez with ez | ⟨ep, rfl⟩
          · obtain ⟨k1, k2, k3⟩ := se1.all p z ez zn
            exact ⟨k1, k2, List.mem_append_left _ k3⟩
          · exact ⟨n, hn, by rw [ep]; exact List.mem_append_right _ (by simp)⟩
        · rcases List.mem_append.mp m with m | m
          · obtain ⟨z, z1, z2, z3⟩ := se1.only n' p m
            exact ⟨z, z1, z2, by rw [List.getElem?_append_left (List.getElem?_eq_some_iff.mp z3).1]; exact z3⟩
          · rw [List.mem_singleton] at m
            cases m
            exact ⟨y, yk.ne_non, hn, by rw [List.getElem?_append_right (Nat.le_refl _), Nat.sub_self]; rfl⟩
      | none =>
        have e2 : (M.takeIn y).2 = M := by
          unfold Mk.takeIn at et ⊢
          cases ef : M.find y with
          | some q => rfl
          | none =>
            rw [ef] at et
            dsimp only at et ⊢
            split at et
            · cases et
            · rename_i c21
              rw [if_neg c21]
        have eL : layC S x M y = (true, layS (layN S.j S.row S.row.length) S.j S.row.length y, M) := by unfold layC; rw [if_neg (by rw [eap]; decide), et]
        rw [eL] at k
        rw [e2, set_id hj] at gw1
        clear hi1 hj1
        obtain ⟨fp1, ⟨dx, c, r, hh, b, s', ws, us, rfl, g⟩, st⟩ := gw1.at hi
        refine iteN (by simp [optV]) ?_
        rw [set_apart T.knC g.v.ha]
        have v2 := g.v.preU (p' := .kin x.m s' true)
        have m2 := g.mx.away (o' := .ins A.c_Kin dx (shF (.kin x.m s' true) c r hh b S)) g.v.ha (fun _ z => by cases z) g.ns.1
        obtain ⟨gw2, kp2⟩ := st _ [a, c, r, hh, b, s'] (knT w A.c_Kin a S ⟨x.m, true, x.seats, x.cells⟩) (Gr.refl.put (x := a) (o := .ins A.c_Kin dx (shF (.kin x.m s' true) c r hh b S)) (by simp)) Sub.refl ⟨dx, c, r, hh, b, s', ws, us, rfl, v2, m2, g.ns⟩ knT_good
        have a2 := v2.ha
        generalize upd H1 a (.ins A.c_Kin dx (shF (.kin x.m s' true) c r hh b S)) = H2 at gw2 kp2 a2 ⊢
        clear v2 m2 st g
        refine ⟨⟨_, _, a2, by with_unfolding_all rfl⟩, a, Hb, _, i, j, S, ⟨x.m, true, x.seats, x.cells⟩, M, rfl, ⟨gw2, set_at hi, set_ne hj ij, ij⟩, ok.cw.rok, ⟨ok.cw.j3, ok.cw.j12⟩, ok.cw.rl, ok.cw.nd, (fun e => by cases e), fun H3 l _ gw3 kp3 _ => ?_⟩
        rw [set_set] at gw3
        have gw3 : GW Hb H3 (ts.set i (knT w A.c_Kin a S ⟨x.m, true, l, layN S.j S.row S.row.length⟩)) := gw3
        have hi3 := set_at (y := knT w A.c_Kin a S ⟨x.m, true, l, layN S.j S.row S.row.length⟩) hi
        have kp13 := kp1.trans (kp2.trans kp3)
        have hy3 := kp13 _ _ yk.val hy
        obtain ⟨fp3, ⟨dx, c, r, hh, b, s', ws, us, rfl, g⟩, st⟩ := gw3.at hi3
        have cw : CWf S.row S.j (layN S.j S.row S.row.length) := cwf_laid ok.cw.j3 ok.cw.j12 ok.cw.rl ok.cw.rok ok.cw.nd
        rw [My.fld_cells T.shC_Kin g.v.ha, My.fld_row T.shC_Kin g.v.ha]
        refine ⟨_, _, _, (layN S.j S.row S.row.length), ws, S.row, y, S.j, rfl, SqL.of g.v.hc, SqL.of g.v.hr, g.v.kr, hy3, cw.rok, yk, ⟨cw.len, cw.j12⟩, cw.ok, fun L H9 xs s9 _ hp hx => ?_⟩
        obtain ⟨n0, n1, -, -⟩ := paperN_range (layN S.j S.row S.row.length) S.row S.j y
        have hxl := KysAt.len hx
        unfold paperK at hx hxl
        rw [List.length_map, List.length_range] at hxl
        obtain ⟨u9, e9, hu9⟩ := hx.at (i := paperN (layN S.j S.row S.row.length) S.row S.j y - 1) (k := pairAt (layN S.j S.row S.row.length) S.j y (paperN (layN S.j S.row S.row.length) S.row S.j y - 1)) (by rw [List.getElem?_map, List.getElem?_range (by omega)]; rfl)
        obtain ⟨t9, rfl, ht9⟩ := pair_of hu9
        obtain ⟨r0, r1⟩ := probe_range y.stamp ((paperN (layN S.j S.row S.row.length) S.row S.j y - 1 : Nat) : Int) cw.j12
        have hl9 := cw.len
        have pc9 := pow_cast S.j
        have g := g.ext s9
        walk_at "rd"
        refine ⟨xs, _, SqL.of hp, atI_last (by rw [hxl]; exact e9), ?_⟩
        walk_at "rd"
        refine ⟨_, _, SqT.of ht9, rfl, ?_⟩
        rw [My.fld_cells T.shC_Kin g.v.ha]
        walk_at "rd"
        refine ⟨_, _, g.v.hc, ixN_nat r0 (by show _ < (((layN S.j S.row S.row.length).map V.int).length : Int); rw [List.length_map]; omega), ?_⟩
        have v9 := g.v.cellsU (cs' := (layN S.j S.row S.row.length).set (lastSlot (layN S.j S.row S.row.length) S.row S.j y).toNat (S.row.length : Nat))
        have m9 := g.mx.away (o' := .lst (((layN S.j S.row S.row.length).set (lastSlot (layN S.j S.row S.row.length) S.row S.j y).toNat (S.row.length : Nat)).map V.int)) g.v.hc (fun _ z => by cases z) g.ns.2.1
        have e10 : ((layN S.j S.row S.row.length).map V.int).set (probeF y.stamp (2 ^ S.j) ((paperN (layN S.j S.row S.row.length) S.row S.j y - 1 : Nat) : Int)).toNat (.int (S.row.length : Nat)) = ((layN S.j S.row S.row.length).set (lastSlot (layN S.j S.row S.row.length) S.row S.j y).toNat (S.row.length : Nat)).map V.int := by rw [List.map_set]; rfl
        rw [e10]
        
        have ec : (layN S.j S.row S.row.length).set (lastSlot (layN S.j S.row S.row.length) S.row S.j y).toNat (S.row.length : Nat) = layS (layN S.j S.row S.row.length) S.j S.row.length y := by
          unfold layS
          rw [if_neg yk.ne_non, ← cw.slot_bare yk.ne_non nin]
        rw [ec] at v9 m9 ⊢
        obtain ⟨g', kp⟩ := st _ [a, c, r, hh, b, s'] (knT w A.c_Kin a S ⟨x.m, true, l, layS (layN S.j S.row S.row.length) S.j S.row.length y⟩) ((Gr.of s9).put (x := c) (o := .lst ((layS (layN S.j S.row S.row.length) S.j S.row.length y).map V.int)) (by simp)) Sub.refl ⟨dx, c, r, hh, b, s', ws, us, rfl, v9, m9, g.ns⟩ knT_good
        rw [set_set] at g'
        have hj' := set_ne (y := knT w A.c_Kin a S ⟨x.m, true, l, layS (layN S.j S.row S.row.length) S.j S.row.length y⟩) hj ij
        exact k _ l (by rw [set_id hj']; exact g') (kp13.trans kp) (fun _ => cw.lay yk nin room) fun e => by cases e

end Law
namespace Law
open PySem PySem.Spec PyProof.Rows L2 My
theorem sc_Kin_mark_gone : FnScope ["self", "key", "place", "slot"] ["self", "key", "place"] (defScope s_Kin_mark_gone) := ⟨rfl, rfl, rfl, by decide +kernel, rfl, by decide +kernel, by decide +kernel⟩
theorem ok_Kin_mark_gone {P : Program} {w : World} {K : PySem.W.Frag} {mg : Str → Option Value} {base : Heap} {A : Ad} (T : Txt K mg A) : FnOk P w K mg base CX0 8 A.a_Kin_mark_gone A.d_Kin_mark_gone ["self", "key", "place"] (spKGone w A.c_Kin A.c_Maker) := by
  refine T.F_Kin_mark_gone.ok sc_Kin_mark_gone (fun vs H Q E h => ?_) (fun cdv A' outer s H vs Q E hr h => ?_)
  · exact len_kgone h
  · have nd := sc_Kin_mark_gone.nd
    have hu := hu_of hr
    refine ⟨_, (pss_cons (ps_if (pt_not (pt_val (pe_fld (pv 0) rfl))) (pss_cons (ps_expr (pe_popM w rfl (My.units65 hr) (pe_fld (pv 0) rfl) (pa_cons (pe_meth (pe_fld (pv 0) rfl) T.cl_Maker T.me_Maker_number_of (ok_Maker_number_of (P := P) (w := w) T) (hr.mono (by decide)) T.b_Maker_number_of .nil My.passLN (pa_cons (pv 1) pa_nil)) pa_nil))) (pss_one ps_retN)) pss_nil) (pss_cons (ps_set (i := 3) nd rfl (Or.inl rfl) (pe_ix ix_tup (pe_ix ix_list (pe_call (ok_paper (P := P) (w := w) T) (hr.mono (by decide)) rfl T.m_paper_slots T.F_paper.kp T.b_paper .nil pass0 (pa_cons (pe_fld (pv 0) rfl) (pa_cons (pe_fld (pv 0) rfl) (pa_cons (pv 1) pa_nil)))) (pe_un un_neg pe_int) (fun _ _ => rfl)) pe_int (fun _ _ => rfl))) (pss_one (ps_asg (pe_glob (v := .int (-2)) rfl T.g_GONE ⟨_, rfl⟩) (pg_sub (pe_fld (pv 0) rfl) (pv 3) set_list))))), ?_⟩
    clear nd
    obtain ⟨a, Hb, ts, i, j, S, x, M, v, y, q, u, rfl, ke, kr, hy, yk, eq, k⟩ := h
    obtain ⟨gw, hi, hj, ij⟩ := ke
    obtain ⟨fp, ⟨dx, c, r, hh, b, s', ws, us, rfl, g⟩, st⟩ := gw.at hi
    have ga := g.v.ha
    walk_at "rd"
    have ok := kr.ok
    rw [kn_apart T.knC ga]
    walk_at "rd"
    cases eap : x.ap with
    | true =>
      have cw := kr.cw eap
      have eG : goneC S x y = x.cells.set (lastSlot x.cells S.row S.j y).toNat (-2) := by unfold goneC; rw [if_pos eap]
      rw [eG] at k
      refine iteN (by simp) ?_
      simp only [My.fld_cells (T.shC_Kin) ga, My.fld_row (T.shC_Kin) ga]
      walk_at "rd"
      refine ⟨_, _, _, x.cells, ws, S.row, y, S.j, rfl, SqL.of g.v.hc, SqL.of g.v.hr, g.v.kr, hy, cw.rok, yk, ⟨cw.len, cw.j12⟩, cw.ok, fun L H9 xs s9 _ hp hx => ?_⟩
      obtain ⟨n0, n1, -, -⟩ := paperN_range x.cells S.row S.j y
      have hxl := KysAt.len hx
      unfold paperK at hx hxl
      rw [List.length_map, List.length_range] at hxl
      obtain ⟨u9, e9, hu9⟩ := hx.at (i := paperN x.cells S.row S.j y - 1) (k := pairAt x.cells S.j y (paperN x.cells S.row S.j y - 1)) (by rw [List.getElem?_map, List.getElem?_range (by omega)]; rfl)
      obtain ⟨t9, rfl, ht9⟩ := pair_of hu9
      obtain ⟨r0, r1⟩ := probe_range y.stamp ((paperN x.cells S.row S.j y - 1 : Nat) : Int) cw.j12
      have hl9 := cw.len
      have pc9 := pow_cast S.j
      have g := g.ext s9
      walk_at "rd"
      refine ⟨xs, _, SqL.of hp, atI_last (by rw [hxl]; exact e9), ?_⟩
      walk_at "rd"
      refine ⟨_, _, SqT.of ht9, rfl, ?_⟩
      rw [My.fld_cells T.shC_Kin g.v.ha]
      walk_at "rd"
      refine ⟨_, _, g.v.hc, ixN_nat r0 (by show _ < ((x.cells.map V.int).length : Int); rw [List.length_map]; omega), ?_⟩
      have v9 := g.v.cellsU (cs' := x.cells.set (lastSlot x.cells S.row S.j y).toNat (-2))
      have m9 := g.mx.away (o' := .lst ((x.cells.set (lastSlot x.cells S.row S.j y).toNat (-2)).map V.int)) g.v.hc (fun _ z => by cases z) g.ns.2.1
      have e10 : (x.cells.map V.int).set (probeF y.stamp (2 ^ S.j) ((paperN x.cells S.row S.j y - 1 : Nat) : Int)).toNat (.int (-2)) = (x.cells.set (lastSlot x.cells S.row S.j y).toNat (-2)).map V.int := by rw [List.map_set]; rfl
      rw [e10]
      
      obtain ⟨g', kp⟩ := st _ [a, c, r, hh, b, s'] (knT w A.c_Kin a S ⟨x.m, x.ap, x.seats, x.cells.set (lastSlot x.cells S.row S.j y).toNat (-2)⟩) ((Gr.of s9).put (x := c) (o := .lst ((x.cells.set (lastSlot x.cells S.row S.j y).toNat (-2)).map V.int)) (by simp)) Sub.refl ⟨dx, c, r, hh, b, s', ws, us, rfl, v9, m9, g.ns⟩ knT_good
      exact k _ x.seats g' kp (fun _ => cw.gone eq yk.ne_non) fun e => by rw [eap] at e; cases e
    | false =>
      have eG : goneC S x y = x.cells := by unfold goneC; rw [if_neg (by rw [eap]; decide)]
      rw [eG] at k
      have se := kr.seat eap
      have om := gw.mkOk hj
      obtain ⟨n, hn, m1⟩ := se.all q y eq yk.ne_non
      have em := (om.find_some yk).mpr hn
      refine iteP rfl ?_
      rw [kn_seats T.knC ga]
      refine ⟨g.is, ?_⟩
      rw [kn_maker T.knC ga]
      walk_at "rd"
      refine ⟨gw.mkMet hj (fun _ _ => by with_unfolding_all rfl), x.m, Hb, ts, j, M, v, y, rfl, gw, hj, hy, yk.f, fun _ => yk, yk.no, fun _ H1 s1 => ?_⟩
      have g := g.ext s1
      rw [em]
      obtain ⟨k1, hk1⟩ := List.mem_iff_getElem?.mp m1
      refine ⟨.int n, .num n, s', _, _, k1, .int q, rfl, rfl, .num _, num_mkey, g.mx, by unfold seatK; rw [List.getElem?_map, hk1]; rfl, by unfold seatV; rw [List.getElem?_map, hk1]; rfl, fun o5 m5 no5 => ?_⟩
      rw [(seat_erase k1).1, (seat_erase k1).2] at m5
      obtain ⟨o4, eo4, no4⟩ := g.mx.is
      obtain ⟨g', kp⟩ := st _ [a, c, r, hh, b, s'] (knT w A.c_Kin a S ⟨x.m, x.ap, x.seats.eraseIdx k1, x.cells⟩) ((Gr.of s1).put (x := s') (o := o5) (by simp)) Sub.refl ⟨dx, c, r, hh, b, s', ws, us, rfl, g.v.away eo4 no4 g.ns, m5, g.ns⟩ knT_good
      have nds := g.mx.nd
      have other : ∀ n' p, (n', p) ∈ x.seats.eraseIdx k1 ↔ ((n', p) ∈ x.seats ∧ n' ≠ n) := seat_but nds hk1
      refine k _ (x.seats.eraseIdx k1) g' kp (fun e => by rw [eap] at e; cases e) fun _ => ⟨fun p z ez zn => ?_, fun n' p m => ?_, by rw [List.length_set]; exact Nat.le_trans (List.length_eraseIdx_le _ _) se.few⟩
      · rw [List.getElem?_set] at ez
        split at ez
        · split at ez
          · cases ez; exact absurd rfl zn
          · cases ez
        · rename_i pq
          obtain ⟨n', h1, h2⟩ := se.all p z ez zn
          refine ⟨n', h1, (other n' p).mpr ⟨h2, fun e => ?_⟩⟩
          rw [e] at h1 h2
          rw [hn] at h1
          cases h1
          exact pq (ok.cw.nd q p y eq ez zn)
      · obtain ⟨m2, ne⟩ := (other n' p).mp m
        obtain ⟨z, z1, z2, z3⟩ := se.only n' p m2
        refine ⟨z, z1, z2, ?_⟩
        rw [List.getElem?_set, if_neg]
        · exact z3
        · intro e
          rw [← e] at z3
          rw [eq] at z3
          cases z3
          exact ne (mrow_inj om z2 hn)

end Law
namespace Law
open PySem PySem.Spec PyProof.Rows L2 My
theorem sc_Shelf_take : FnScope ["self", "key", "place", "value"] ["self", "key"] (defScope s_Shelf_take) := ⟨rfl, rfl, rfl, by decide +kernel, rfl, by decide +kernel, by decide +kernel⟩
theorem ok_Kin_take {P : Program} {w : World} {K : PySem.W.Frag} {mg : Str → Option Value} {base : Heap} {A : Ad} (T : Txt K mg A) : FnOk P w K mg base (L2N.CX P w) 9 A.a_Shelf_take A.d_Shelf_take ["self", "key"] (spKTake w A.c_Kin A.c_Maker A.c_NoKey A.c_Lacking) := by
  refine My.okN T.F_Shelf_take sc_Shelf_take (fun vs H Q E h => ?_) (fun cdv A' outer s H vs Q E hr h => ?_)
  · exact len_ktake h
  · have nd := sc_Shelf_take.nd
    have hu := hu_of hr
    refine ⟨_, (pss_cons (ps_set (i := 2) nd rfl (Or.inl rfl) (pe_meth (pv 0) T.cl_Kin T.me_Kin_find (ok_Kin_find (P := P) (w := w) T) (hr.mono (by decide)) T.b_Kin_find .nil pass0 (pa_cons (pe_call (ok_checked (P := P) (w := w) T) (hr.mono (by decide)) rfl T.m_checked T.F_checked.kp T.b_checked .nil (L2N.passes_call (L2N.takes_of rfl rfl rfl rfl) fun _ _ _ _ h => h) (pa_cons (pv 1) pa_nil)) pa_nil))) (pss_cons (ps_if (pt_cmpR op_isN (pv 2) pe_non (nomark _)) (pss_one (L2N.ps_raise rfl (L2N.takes_of rfl rfl rfl rfl) (L2N.pmk_own PySem.F.excBase_ValueError T.x_Lacking T.m_Lacking T.k_Lacking (raises_own T.eb_Lacking T.et_Lacking) rfl))) pss_nil) (pss_cons (ps_set (i := 3) nd rfl (Or.inl rfl) (pe_ix ix_list (pe_fld (pv 0) rfl) (pv 2) (fun _ _ => rfl))) (pss_cons (ps_expr (pe_meth (pv 0) T.cl_Kin T.me_Kin_mark_gone (ok_Kin_mark_gone (P := P) (w := w) T) (hr.mono (by decide)) T.b_Kin_mark_gone .nil pass0 (pa_cons (pv 1) (pa_cons (pv 2) pa_nil)))) (pss_cons (ps_asg pe_non (pg_sub (pe_fld (pv 0) rfl) (pv 2) set_list)) (pss_cons (ps_asg pe_non (pg_sub (pe_fld (pv 0) rfl) (pv 2) set_list)) (pss_cons (ps_fldaug (pv 0) pe_int in_add) (pss_one (ps_ret (pv 3)))))))))), ?_⟩
    clear nd
    obtain ⟨a, Hb, ts, i, j, S, x, M, v, y, rfl, ke, kr, hy, hf, hw, k1, k2⟩ := h
    have ok := kr.ok
    walk_at "rd"
    refine ⟨ke.met (fun _ _ _ _ _ _ _ => by with_unfolding_all rfl), v, y, rfl, hy, hf, fun e => ?_, k1⟩
    have yk := hw e
    have k := k2 yk
    refine ⟨a, Hb, ts, i, j, S, x, M, v, y, rfl, ke, kr, hy, yk, fun H1 s1 => ?_⟩
    obtain ⟨gw, hi, hj, ij⟩ := ke
    obtain ⟨fp, ⟨dx, c, r, hh, b, s', ws, us, rfl, g⟩, st⟩ := gw.at hi
    have g1 := g.ext s1
    have ga1 := g1.v.ha
    have lu := KysAt.len g.v.kh
    have lw := KysAt.len g.v.kr
    have hhl := ok.hl
    cases ef : S.find y with
    | none =>
      rw [ef] at k
      dsimp only at k
      simp only [optV]
      walk_at "rd"
      exact k H1 s1
    | some q =>
      rw [ef] at k
      dsimp only at k
      simp only [optV]
      walk_at "rd"
      refine iteN (by simp) ?_
      simp only [My.fld_held (T.shC_Kin) ga1]
      walk_at "rd"
      have er := (ok.find_some yk.ne_non).mp ef
      have hq := (List.getElem?_eq_some_iff.mp er).1
      obtain ⟨u9, e1, at2⟩ := at_any (xs := us) (c := (q : Nat)) (by omega) (by omega)
      rw [Int.toNat_natCast] at e1
      obtain ⟨z, e2, hz1⟩ := g1.v.kh.get e1
      have zv := ok.hv z (List.mem_of_getElem? e2)
      have hy1 := hy.same s1 _ _
      refine ⟨_, _, SqL.of g1.v.hh, at2, ?_⟩
      walk_at "rd"
      refine ⟨⟨_, _, ga1, by with_unfolding_all rfl⟩, a, Hb, ts, i, j, S, x, M, v, y, q, _, rfl, ⟨gw.ext s1, hi, hj, ij⟩, kr, hy1, yk, er, fun H2 l gw2 kp2 cw2 se2 => ?_⟩
      have hz2 := kp2 _ _ zv.1 hz1
      clear st g g1 ga1 lu lw e1 at2
      obtain ⟨fp2, ⟨dx, c, r, hh, b, s', ws, us, rfl, g⟩, st⟩ := gw2.at (set_at hi)
      have lw := KysAt.len g.v.kr
      have lu := KysAt.len g.v.kh
      have ga2 := g.v.ha
      simp only [My.fld_row (T.shC_Kin) ga2]
      walk_at "rd"
      refine ⟨_, _, g.v.hr, ixN_nat (by omega) (by omega), ?_⟩
      rw [Int.toNat_natCast]
      have g3 := g.v.rowU (ws' := ws.set q .non) (ks := S.row.set q .non) (vals_set g.v.vr rfl) (g.v.kr.set .non)
      have m3 := g.mx.away (o' := .lst (ws.set q .non)) g.v.hr (fun _ z => by cases z) g.ns.2.2.1
      have ga3 := g3.ha
      have gr3 : Gr [a, c, r, hh, b, s'] H2 (upd H2 r (.lst (ws.set q .non))) := Gr.refl.put (by simp)
      have hz3 := ky_upd (o' := .lst (ws.set q .non)) g.v.hr (fun _ z => by cases z) zv.1 hz2
      generalize upd H2 r (.lst (ws.set q .non)) = H4 at g3 ga3 gr3 hz3 m3 ⊢
      simp only [My.fld_held (T.shC_Kin) ga3]
      walk_at "rd"
      refine ⟨_, _, g3.hh, ixN_nat (by omega) (by omega), ?_⟩
      rw [Int.toNat_natCast]
      have g4 := g3.heldU (us' := us.set q .non) (ks := S.held.set q .non) (vals_set g.v.vh rfl) (g3.kh.set .non)
      have m4 := m3.away (o' := .lst (us.set q .non)) g3.hh (fun _ z => by cases z) g.ns.2.2.2.1
      have ga4 := g4.ha
      have gr4 : Gr [a, c, r, hh, b, s'] H2 (upd H4 hh (.lst (us.set q .non))) := gr3.put (by simp)
      have hz4 := ky_upd (o' := .lst (us.set q .non)) g3.hh (fun _ z => by cases z) zv.1 hz3
      generalize upd H4 hh (.lst (us.set q .non)) = H5 at g4 ga4 gr4 hz4 m4 ⊢
      rw [aug_goings T.shC_Kin ga4]
      have g5 := g4.fldU (S' := S.went q y)
      have m5 := m4.away (o' := .ins A.c_Kin dx (shF (.kin x.m s' x.ap) c r hh b (S.went q y))) ga4 (fun _ z => by cases z) g.ns.1
      obtain ⟨g', kp⟩ := st _ [a, c, r, hh, b, s'] (knT w A.c_Kin a (S.went q y) ⟨x.m, x.ap, l, goneC S x y⟩) (gr4.put (x := a) (o := .ins A.c_Kin dx (shF (.kin x.m s' x.ap) c r hh b (S.went q y))) (by simp)) Sub.refl ⟨dx, c, r, hh, b, s', _, _, rfl, g5, m5, g.ns⟩ knT_good
      rw [set_set] at g'
      exact k _ l u9 z g' ⟨ok.went er yk.ne_non, cw2, se2⟩ (((Keeps.of s1).trans kp2).trans kp) e2 (ky_upd ga4 (fun _ z => by cases z) zv.1 hz4)
theorem sc_Shelf_ahead : FnScope ["self", "number", "place"] ["self", "number"] (defScope s_Shelf_ahead) := ⟨rfl, rfl, rfl, by decide +kernel, rfl, by decide +kernel, by decide +kernel⟩
theorem ok_Kin_ahead {P : Program} {w : World} {K : PySem.W.Frag} {mg : Str → Option Value} {base : Heap} {A : Ad} (T : Txt K mg A) : FnOk P w K mg base CX0 1 A.a_Shelf_ahead A.d_Shelf_ahead ["self", "number"] (spKAhead w A.c_Kin) := by
  refine T.F_Shelf_ahead.ok sc_Shelf_ahead (fun vs H Q E h => ?_) (fun cdv A' outer s H vs Q E hr h => ?_)
  · exact len_kahead h
  · have nd := sc_Shelf_ahead.nd
    have hu := hu_of hr
    refine ⟨_, (pss_cons (ps_for PassesOwn.never rfl (pi_range3 rfl T.n_range (pa_cons (pe_op op_sub (pe_callB call_lenU rfl T.n_len PySem.boot_len (pa_cons (pe_fld (pv 0) rfl) pa_nil)) pe_int) (pa_cons (pe_un un_neg pe_int) (pa_cons (pe_un un_neg pe_int) pa_nil)))) (pg_name (i := 2) nd rfl (Or.inl rfl)) (pss_one (ps_if (PW.pt (pw_and (pt_cmpR op_notN (pe_ix ix_list (pe_fld (pv 0) rfl) (pv 2) (fun _ _ => rfl)) pe_non (nomark _)) (pw_and1 (pt_cmpR op_lt (pe_ix ix_list (pe_fld (pv 0) rfl) (pv 2) (fun _ _ => rfl)) (pv 1) (nomark _))))) (pss_one (ps_ret (pe_tup (pa_cons (pe_ix ix_list (pe_fld (pv 0) rfl) (pv 2) (fun _ _ => rfl)) (pa_cons (pe_ix ix_list (pe_fld (pv 0) rfl) (pv 2) (fun _ _ => rfl)) (pa_cons (pe_ix ix_list (pe_fld (pv 0) rfl) (pv 2) (fun _ _ => rfl)) pa_nil)))))) pss_nil))) (pss_one (ps_ret pe_non))), ?_⟩
    clear nd
    obtain ⟨a, fp, S, x9, n, rfl, hS, ok9, k⟩ := h
    obtain ⟨dx, c, r, hh, b, s9, ws, us, rfl, gk⟩ := hS
    have g := gk.v
    have ok := ok9
    have ga := g.ha
    have lw := KysAt.len g.kr
    have lu := KysAt.len g.kh
    have hhl := ok.hl
    have hbl := ok.bl
    have lt := ok.cw.lt
    walk_at "rd"
    simp only [My.fld_row (T.shC_Kin) ga]
    walk_at "rd"
    refine ⟨_, .inl (SqL.of g.hr), _, RgC.neg (by omega) (by omega) (by decide) (by decide), ?_⟩
    rw [show ((ws.length : Int) - 1 - -1).toNat = ws.length by omega]
    refine go_rangeC (fun i σ H' => ∃ v2, σ = [some (.ref a), some (.int n), v2] ∧ H' = H ∧ ∀ q, ws.length - i ≤ q → q < S.row.length → S.liv (fun b => decide (b < n)) q = false) ⟨_, rfl, rfl, fun q h1 h2 => by omega⟩ ?_ ?_
    · rintro N i σ H' hi ⟨v2, rfl, rfl, hb⟩ hN
      rw [show (ws.length : Int) - 1 + (i : Nat) * -1 = ((ws.length - 1 - i : Nat) : Int) by omega]
      have hb : ∀ q, ws.length - 1 - i < q → q < S.row.length → S.liv (fun b => decide (b < n)) q = false := fun q h => hb q (by omega)
      have nx : ∀ q, ws.length - (i + 1) ≤ q → ws.length - 1 - i < q ∨ q = ws.length - 1 - i := fun q h => by omega
      have hm : ws.length - 1 - i < ws.length := by omega
      generalize ws.length - 1 - i = m at hb nx hm ⊢
      obtain ⟨x, h1, h2⟩ := at_any (xs := ws) (c := (m : Nat)) (by omega) (by omega)
      rw [Int.toNat_natCast] at h1
      obtain ⟨y, hy, hv⟩ := g.kr.get h1
      walk_at "rd"
      simp only [My.fld_row (T.shC_Kin) ga]
      walk_at "rd"
      refine ⟨_, _, SqL.of g.hr, h2, ?_⟩
      walk_at "rd"
      have next : S.liv (fun b => decide (b < n)) m = false → N [some (V.ref a), some (V.int n), some (V.int m)] H' := fun e => hN _ _ ⟨_, rfl, rfl, fun q h1 h2 => by
        rcases nx q h1 with c | c
        · exact hb q c h2
        · rw [c]; exact e⟩
      refine iteB (fun c1 => ?_) fun c1 => next (by
        have : y = .non := hv.ne_non.mp (by simpa using c1)
        unfold Sh.liv
        rw [List.getD_eq_getElem?_getD, hy, this]
        rfl)
      simp only [My.fld_born (T.shC_Kin) ga]
      walk_at "rd"
      refine ⟨_, _, SqL.of g.hb, at_int (by omega) (by omega), ?_⟩
      walk_at "rd"
      have lv : S.liv (fun b => decide (b < n)) m = decide (getI S.born m < n) := by
        unfold Sh.liv
        rw [List.getD_eq_getElem?_getD, hy, decide_eq_true (show (some y).getD .non ≠ .non from fun e => c1 (hv.ne_non.mpr e)), Bool.true_and]
      refine iteB (fun c2 => ?_) fun c2 => next (by rw [lv]; exact decide_eq_false (by simpa using c2))
      have ea : S.ahead n = some m := lastP_stop (by omega) (by rw [lv]; exact decide_eq_true (by simpa using c2)) hb
      rw [ea] at k
      dsimp only at k
      simp only [My.fld_born (T.shC_Kin) ga]
      walk_at "rd"
      refine ⟨_, _, SqL.of g.hb, at_int (by omega) (by omega), ?_⟩
      simp only [My.fld_row (T.shC_Kin) ga]
      walk_at "rd"
      refine ⟨_, _, SqL.of g.hr, h2, ?_⟩
      simp only [My.fld_held (T.shC_Kin) ga]
      walk_at "rd"
      obtain ⟨w1, q1, q2⟩ := at_any (xs := us) (c := (m : Nat)) (by omega) (by omega)
      rw [Int.toNat_natCast] at q1
      obtain ⟨z, q3, hz⟩ := g.kh.get q1
      refine ⟨_, _, SqL.of g.hh, q2, by walk_at "sz", fun Tp hTp => ?_⟩
      have sT := Same_upd (o := .tup [.int (getI S.born m), x, w1]) (Same.refl H') hTp
      refine k _ _ sT (.tup upd_same (.cons (.num _) (.cons ?_ (.cons ?_ .nil))))
      · rw [List.getD_eq_getElem?_getD, hy]; exact hv.same sT _ _
      · rw [List.getD_eq_getElem?_getD, q3]; exact hz.same sT _ _
    · rintro σ H' ⟨v2, rfl, rfl, hb⟩
      walk_at "rd"
      have ea : S.ahead n = none := lastP_none.mpr fun q h => hb q (by omega) h
      rw [ea] at k
      exact k H' (Same.refl _)
theorem sc_Shelf_take_last : FnScope ["self", "last"] ["self"] (defScope s_Shelf_take_last) := ⟨rfl, rfl, rfl, by decide +kernel, rfl, by decide +kernel, by decide +kernel⟩
theorem ok_Kin_take_last {P : Program} {w : World} {K : PySem.W.Frag} {mg : Str → Option Value} {base : Heap} {A : Ad} (T : Txt K mg A) : FnOk P w K mg base (L2N.CX P w) 10 A.a_Shelf_take_last A.d_Shelf_take_last ["self"] (spKLast w A.c_Kin A.c_Maker A.c_Lacking) := by
  refine My.okN T.F_Shelf_take_last sc_Shelf_take_last (fun vs H Q E h => ?_) (fun cdv A' outer s H vs Q E hr h => ?_)
  · exact len_klast h
  · have nd := sc_Shelf_take_last.nd
    have hu := hu_of hr
    refine ⟨_, (pss_cons (ps_set (i := 1) nd rfl (Or.inl rfl) (pe_meth (pv 0) T.cl_Kin T.me_Kin_ahead (ok_Kin_ahead (P := P) (w := w) T) (hr.mono (by decide)) T.b_Shelf_ahead .nil pass0 (pa_cons (pe_op op_add (pe_fld (pv 0) rfl) pe_int) pa_nil))) (pss_cons (ps_if (pt_cmpR op_isN (pv 1) pe_non (nomark _)) (pss_one (L2N.ps_raise rfl (L2N.takes_of rfl rfl rfl rfl) (L2N.pmk_own PySem.F.excBase_ValueError T.x_Lacking T.m_Lacking T.k_Lacking (raises_own T.eb_Lacking T.et_Lacking) rfl))) pss_nil) (pss_one (ps_ret (pe_tup (pa_cons (pe_ix ix_tup (pv 1) pe_int (fun _ _ => rfl)) (pa_cons (pe_meth (pv 0) T.cl_Kin T.me_Kin_take (ok_Kin_take (P := P) (w := w) T) (hr.mono (by decide)) T.b_Shelf_take .nil (L2N.passes_call (L2N.takes_of rfl rfl rfl rfl) fun _ _ _ _ h => h) (pa_cons (pe_ix ix_tup (pv 1) pe_int (fun _ _ => rfl)) pa_nil)) pa_nil))))))), ?_⟩
    clear nd
    obtain ⟨a, Hb, ts, i, j, S, x, M, rfl, ke, kr, k⟩ := h
    have ok := kr.ok
    have KE0 := ke
    obtain ⟨gw, hi, hj, ij⟩ := ke
    obtain ⟨fp, KN, st⟩ := gw.at hi
    have KN0 : KnAt w H A.c_Kin a fp S x := KN
    obtain ⟨dx, c, r, hh, b, s', ws, us, rfl, g⟩ := KN
    have ga := g.v.ha
    have hhl := ok.hl
    walk_at "rd"
    refine ⟨⟨_, _, ga, by with_unfolding_all rfl⟩, ?_⟩
    simp only [My.fld_comings (T.shC_Kin) ga]
    walk_at "rd"
    refine ⟨a, _, S, x, _, rfl, KN0, ok, ?_⟩
    unfold Sh.last at k
    cases ea : S.ahead (S.com + 1) with
    | none =>
      rw [ea] at k
      dsimp only at k ⊢
      intro H1 s1
      walk_at "rd"
      exact k H1 s1
    | some q =>
      rw [ea] at k
      dsimp only at k ⊢
      intro H1 x9 s1 hx
      obtain ⟨lq, lv⟩ := ahead_liv ea
      obtain ⟨y, ey, yk, eg⟩ := liv_key ok lv
      obtain ⟨T1, x0, x1, x2, rfl, hT, h0, h1, h2⟩ := tup3_of hx
      rw [eg] at h1
      walk_at "rd"
      refine ⟨_, _, SqT.of hT, rfl, ?_⟩
      walk_at "rd"
      refine ⟨(KE0.ext s1).met (fun _ _ _ _ _ _ _ => by with_unfolding_all rfl), _, _, SqT.of hT, rfl, ?_⟩
      walk_at "rd"
      refine ⟨a, Hb, ts, i, j, S, x, M, x1, y, rfl, KE0.ext s1, kr, h1, yk.f, fun _ => yk, yk.no, fun _ => ?_⟩
      rw [(ok.find_some yk.ne_non).mpr ey]
      dsimp only
      intro H2 l u z gw2 kr2 kp2 ez hu
      have hy2 := kp2 _ _ yk.val h1
      refine ⟨by walk_at "sz", fun t ht => ?_⟩
      have s3 := Same_upd (o := .tup [x1, u]) (Same.refl H2) ht
      rw [eg] at k
      refine k _ l _ (gw2.ext s3) kr2 (((Keeps.of s1).trans kp2).trans (Keeps.of s3)) (.tup upd_same (.cons (hy2.same s3 _ _) (.cons ?_ .nil)))
      rw [List.getD_eq_getElem?_getD, ez]
      exact hu.same s3 _ _
theorem sc_Shelf_after : FnScope ["self", "number", "place", "key"] ["self", "number"] (defScope s_Shelf_after) := ⟨rfl, rfl, rfl, by decide +kernel, rfl, by decide +kernel, by decide +kernel⟩
theorem ok_Kin_after {P : Program} {w : World} {K : PySem.W.Frag} {mg : Str → Option Value} {base : Heap} {A : Ad} (T : Txt K mg A) : FnOk P w K mg base CX0 1 A.a_Shelf_after A.d_Shelf_after ["self", "number"] (spKAfter w A.c_Kin) := by
  refine T.F_Shelf_after.ok sc_Shelf_after (fun vs H Q E h => ?_) (fun cdv A' outer s H vs Q E hr h => ?_)
  · exact len_kafter h
  · have nd := sc_Shelf_after.nd
    have hu := hu_of hr
    refine ⟨_, (pss_cons (ps_for PassesOwn.never rfl (pi_enum rfl T.n_enumerate (pa_cons (pe_fld (pv 0) rfl) pa_nil)) (pg_tup (n := 2) rfl (pgs_cons (pg_name (i := 2) nd rfl (Or.inl rfl)) (pgs_cons (pg_name (i := 3) nd rfl (Or.inl rfl)) pgs_nil))) (pss_one (ps_if (PW.pt (pw_and (pt_cmpR op_notN (pv 3) pe_non (nomark _)) (pw_and1 (pt_cmpR op_gt (pe_ix ix_list (pe_fld (pv 0) rfl) (pv 2) (fun _ _ => rfl)) (pv 1) (nomark _))))) (pss_one (ps_ret (pe_tup (pa_cons (pe_ix ix_list (pe_fld (pv 0) rfl) (pv 2) (fun _ _ => rfl)) (pa_cons (pv 3) (pa_cons (pe_ix ix_list (pe_fld (pv 0) rfl) (pv 2) (fun _ _ => rfl)) pa_nil)))))) pss_nil))) (pss_one (ps_ret pe_non))), ?_⟩
    clear nd
    obtain ⟨a, fp, S, x9, n, rfl, hS, ok9, k⟩ := h
    obtain ⟨dx, c, r, hh, b, s9, ws, us, rfl, gk⟩ := hS
    have g := gk.v
    have ok := ok9
    have ga := g.ha
    have lw := KysAt.len g.kr
    have lu := KysAt.len g.kh
    have hhl := ok.hl
    have hbl := ok.bl
    have lt := ok.cw.lt
    walk_at "rd"
    simp only [My.fld_row (T.shC_Kin) ga]
    walk_at "rd"
    refine ⟨⟨_, SqL.of g.hr⟩, ?_⟩
    refine go_enum (xs := ws) (fun i σ H' => ∃ v2 v3, σ = [some (.ref a), some (.int n), v2, v3] ∧ Same H H' ∧ ∀ q, q < i → S.liv (fun b => decide (n < b)) q = false) ⟨_, _, rfl, Same.refl _, fun q h => by omega⟩ (fun i σ H' _ ⟨_, _, _, s, _⟩ => s.seq (SqL.of g.hr)) ?_ ?_
    · rintro N i x σ H' Tq hx ⟨v2, v3, rfl, sm, hb⟩ hT hN
      obtain ⟨y, hy, hv⟩ := g.kr.get hx
      have hi : i < ws.length := (List.getElem?_eq_some_iff.mp hx).1
      walk_at "rd"
      refine ⟨_, SqT.of upd_same, rfl, ?_⟩
      walk_at "rd"
      have sT : Same H (upd H' Tq (.tup [V.int i, x])) := Same_upd sm hT
      generalize upd H' Tq (.tup [V.int i, x]) = H6 at sT ⊢
      have g := g.ext sT
      have ga := g.ha
      have hv := hv.same sT _ _
      have next : S.liv (fun b => decide (n < b)) i = false → N [some (V.ref a), some (V.int n), some (V.int i), some x] H6 := fun e => hN _ _ ⟨_, _, rfl, sT, fun q h => by
        rcases Nat.lt_or_ge q i with c | c
        · exact hb q c
        · rw [show q = i by omega]; exact e⟩
      refine iteB (fun c1 => ?_) fun c1 => next (by
        have : y = .non := hv.ne_non.mp (by simpa using c1)
        unfold Sh.liv
        rw [List.getD_eq_getElem?_getD, hy, this]
        rfl)
      simp only [My.fld_born (T.shC_Kin) ga]
      walk_at "rd"
      refine ⟨_, _, SqL.of g.hb, at_int (by omega) (by omega), ?_⟩
      walk_at "rd"
      have lv : S.liv (fun b => decide (n < b)) i = decide (n < getI S.born i) := by
        unfold Sh.liv
        rw [List.getD_eq_getElem?_getD, hy, decide_eq_true (show (some y).getD .non ≠ .non from fun e => c1 (hv.ne_non.mpr e)), Bool.true_and]
      refine iteB (fun c2 => ?_) fun c2 => next (by rw [lv]; exact decide_eq_false (by simpa using c2))
      have ea : S.after n = some i := by
        unfold Sh.after
        rw [List.find?_range_eq_some]
        exact ⟨by rw [lv]; exact decide_eq_true (by simpa using c2), List.mem_range.mpr (by omega), fun q h => by rw [hb q h]; rfl⟩
      rw [ea] at k
      dsimp only at k
      simp only [My.fld_born (T.shC_Kin) ga]
      walk_at "rd"
      obtain ⟨w1, q1, q2⟩ := at_any (xs := us) (c := ((i : Nat) : Int)) (by omega) (by omega)
      rw [Int.toNat_natCast] at q1
      obtain ⟨z, q3, hz⟩ := g.kh.get q1
      refine ⟨_, _, SqL.of g.hb, at_int (by omega) (by omega), ?_⟩
      simp only [My.fld_held (T.shC_Kin) ga]
      walk_at "rd"
      refine ⟨_, _, SqL.of g.hh, q2, by walk_at "sz", fun Tp hTp => ?_⟩
      have sU := Same_upd (o := .tup [.int (getI S.born i), x, w1]) (Same.refl H6) hTp
      refine k _ _ (sT.trans sU) (.tup upd_same (.cons (.num _) (.cons ?_ (.cons ?_ .nil))))
      · rw [List.getD_eq_getElem?_getD, hy]; exact hv.same sU _ _
      · rw [List.getD_eq_getElem?_getD, q3]; exact hz.same sU _ _
    · rintro σ H' ⟨v2, v3, rfl, sm, hb⟩
      walk_at "rd"
      have ea : S.after n = none := by
        unfold Sh.after
        rw [List.find?_eq_none]
        intro q hq
        rw [hb q (by have := List.mem_range.mp hq; omega)]
        decide
      rw [ea] at k
      exact k H' sm
theorem sc_Shelf_at : FnScope ["self", "key", "place"] ["self", "key"] (defScope s_Shelf_at) := ⟨rfl, rfl, rfl, by decide +kernel, rfl, by decide +kernel, by decide +kernel⟩
theorem ok_Kin_at {P : Program} {w : World} {K : PySem.W.Frag} {mg : Str → Option Value} {base : Heap} {A : Ad} (T : Txt K mg A) : FnOk P w K mg base (L2N.CX P w) 9 A.a_Shelf_at A.d_Shelf_at ["self", "key"] (spKAt w A.c_Kin A.c_Maker A.c_NoKey A.c_Lacking) := by
  refine My.okN T.F_Shelf_at sc_Shelf_at (fun vs H Q E h => ?_) (fun cdv A' outer s H vs Q E hr h => ?_)
  · exact len_kat h
  · have nd := sc_Shelf_at.nd
    have hu := hu_of hr
    refine ⟨_, (pss_cons (ps_set (i := 2) nd rfl (Or.inl rfl) (pe_meth (pv 0) T.cl_Kin T.me_Kin_find (ok_Kin_find (P := P) (w := w) T) (hr.mono (by decide)) T.b_Kin_find .nil pass0 (pa_cons (pe_call (ok_checked (P := P) (w := w) T) (hr.mono (by decide)) rfl T.m_checked T.F_checked.kp T.b_checked .nil (L2N.passes_call (L2N.takes_of rfl rfl rfl rfl) fun _ _ _ _ h => h) (pa_cons (pv 1) pa_nil)) pa_nil))) (pss_cons (ps_if (pt_cmpR op_isN (pv 2) pe_non (nomark _)) (pss_one (L2N.ps_raise rfl (L2N.takes_of rfl rfl rfl rfl) (L2N.pmk_own PySem.F.excBase_ValueError T.x_Lacking T.m_Lacking T.k_Lacking (raises_own T.eb_Lacking T.et_Lacking) rfl))) pss_nil) (pss_one (ps_ret (pe_ix ix_list (pe_fld (pv 0) rfl) (pv 2) (fun _ _ => rfl)))))), ?_⟩
    clear nd
    obtain ⟨a, Hb, ts, i, j, S, x, M, v, y, rfl, ke, kr, hy, hf, hw, k1, k2⟩ := h
    have ok := kr.ok
    walk_at "rd"
    refine ⟨ke.met (fun _ _ _ _ _ _ _ => by with_unfolding_all rfl), v, y, rfl, hy, hf, fun e => ?_, k1⟩
    have yk := hw e
    have k := k2 yk
    refine ⟨a, Hb, ts, i, j, S, x, M, v, y, rfl, ke, kr, hy, yk, fun H1 s1 => ?_⟩
    obtain ⟨gw, hi, hj, ij⟩ := ke
    obtain ⟨fp, ⟨dx, c, r, hh, b, s', ws, us, rfl, g⟩, st⟩ := gw.at hi
    have g1 := g.ext s1
    have ga1 := g1.v.ha
    have lu := KysAt.len g.v.kh
    have hhl := ok.hl
    unfold Sh.heldAt at k
    cases ef : S.find y with
    | none =>
      rw [ef] at k
      dsimp only at k
      walk_at "rd"
      exact iteP (by simp [optV]) (k H1 s1)
    | some q =>
      rw [ef] at k
      dsimp only at k
      simp only [optV]
      walk_at "rd"
      refine iteN (by simp) ?_
      simp only [My.fld_held (T.shC_Kin) ga1]
      walk_at "rd"
      have hq := (List.getElem?_eq_some_iff.mp ((ok.find_some yk.ne_non).mp ef)).1
      obtain ⟨u9, e1, at2⟩ := at_any (xs := us) (c := (q : Nat)) (by omega) (by omega)
      rw [Int.toNat_natCast] at e1
      obtain ⟨z, e2, hz⟩ := g1.v.kh.get e1
      rw [e2] at k
      exact ⟨_, _, SqL.of g1.v.hh, at2, k H1 u9 s1 hz⟩
theorem sc_Shelf_told : FnScope ["self", "key", "other", "place"] ["self", "key", "other"] (defScope s_Shelf_told) := ⟨rfl, rfl, rfl, by decide +kernel, rfl, by decide +kernel, by decide +kernel⟩
theorem ok_Kin_told {P : Program} {w : World} {K : PySem.W.Frag} {mg : Str → Option Value} {base : Heap} {A : Ad} (T : Txt K mg A) : FnOk P w K mg base (L2N.CX P w) 9 A.a_Shelf_told A.d_Shelf_told ["self", "key", "other"] (spKTold w A.c_Kin A.c_Maker A.c_NoKey) := by
  refine T.F_Shelf_told.ok sc_Shelf_told (fun vs H Q E h => ?_) (fun cdv A' outer s H vs Q E hr h => ?_)
  · exact len_ktold h
  · have nd := sc_Shelf_told.nd
    have hu := hu_of hr
    refine ⟨_, (pss_cons (ps_set (i := 3) nd rfl (Or.inl rfl) (pe_meth (pv 0) T.cl_Kin T.me_Kin_find (ok_Kin_find (P := P) (w := w) T) (hr.mono (by decide)) T.b_Kin_find .nil pass0 (pa_cons (pe_call (ok_checked (P := P) (w := w) T) (hr.mono (by decide)) rfl T.m_checked T.F_checked.kp T.b_checked .nil (L2N.passes_call (L2N.takes_of rfl rfl rfl rfl) fun _ _ _ _ h => h) (pa_cons (pv 1) pa_nil)) pa_nil))) (pss_cons (ps_if (pt_cmpR op_isN (pv 3) pe_non (nomark _)) (pss_one (ps_ret (pv 2))) pss_nil) (pss_one (ps_ret (pe_ix ix_list (pe_fld (pv 0) rfl) (pv 3) (fun _ _ => rfl)))))), ?_⟩
    clear nd
    obtain ⟨a, Hb, ts, i, j, S, x, M, v, y, w0, rfl, ke, kr, hy, hf, hw, k1, k2⟩ := h
    have ok := kr.ok
    walk_at "rd"
    refine ⟨ke.met (fun _ _ _ _ _ _ _ => by with_unfolding_all rfl), v, y, rfl, hy, hf, fun e => ?_, k1⟩
    have yk := hw e
    have k := k2 yk
    refine ⟨a, Hb, ts, i, j, S, x, M, v, y, rfl, ke, kr, hy, yk, fun H1 s1 => ?_⟩
    obtain ⟨gw, hi, hj, ij⟩ := ke
    obtain ⟨fp, ⟨dx, c, r, hh, b, s', ws, us, rfl, g⟩, st⟩ := gw.at hi
    have g1 := g.ext s1
    have ga1 := g1.v.ha
    have lu := KysAt.len g.v.kh
    have hhl := ok.hl
    unfold Sh.heldAt at k
    cases ef : S.find y with
    | none =>
      rw [ef] at k
      dsimp only at k
      walk_at "rd"
      exact iteP (by simp [optV]) (k H1 s1)
    | some q =>
      rw [ef] at k
      dsimp only at k
      simp only [optV]
      walk_at "rd"
      refine iteN (by simp) ?_
      simp only [My.fld_held (T.shC_Kin) ga1]
      walk_at "rd"
      have hq := (List.getElem?_eq_some_iff.mp ((ok.find_some yk.ne_non).mp ef)).1
      obtain ⟨u9, e1, at2⟩ := at_any (xs := us) (c := (q : Nat)) (by omega) (by omega)
      rw [Int.toNat_natCast] at e1
      obtain ⟨z, e2, hz⟩ := g1.v.kh.get e1
      rw [e2] at k
      exact ⟨_, _, SqL.of g1.v.hh, at2, k H1 u9 s1 hz⟩
theorem sc_Shelf_has : FnScope ["self", "key"] ["self", "key"] (defScope s_Shelf_has) := ⟨rfl, rfl, rfl, by decide +kernel, rfl, by decide +kernel, by decide +kernel⟩
theorem ok_Kin_has {P : Program} {w : World} {K : PySem.W.Frag} {mg : Str → Option Value} {base : Heap} {A : Ad} (T : Txt K mg A) : FnOk P w K mg base (L2N.CX P w) 9 A.a_Shelf_has A.d_Shelf_has ["self", "key"] (spKHas w A.c_Kin A.c_Maker A.c_NoKey) := by
  refine My.okN T.F_Shelf_has sc_Shelf_has (fun vs H Q E h => ?_) (fun cdv A' outer s H vs Q E hr h => ?_)
  · exact len_khas h
  · have nd := sc_Shelf_has.nd
    have hu := hu_of hr
    refine ⟨_, (pss_one (ps_ret (pe_cmpR op_notN (pe_meth (pv 0) T.cl_Kin T.me_Kin_find (ok_Kin_find (P := P) (w := w) T) (hr.mono (by decide)) T.b_Kin_find .nil pass0 (pa_cons (pe_call (ok_checked (P := P) (w := w) T) (hr.mono (by decide)) rfl T.m_checked T.F_checked.kp T.b_checked .nil (L2N.passes_call (L2N.takes_of rfl rfl rfl rfl) fun _ _ _ _ h => h) (pa_cons (pv 1) pa_nil)) pa_nil)) pe_non (nomark _)))), ?_⟩
    clear nd
    obtain ⟨a, Hb, ts, i, j, S, x, M, v, y, rfl, ke, kr, hy, hf, hw, k1, k2⟩ := h
    have ok := kr.ok
    walk_at "rd"
    refine ⟨ke.met (fun _ _ _ _ _ _ _ => by with_unfolding_all rfl), v, y, rfl, hy, hf, fun e => ?_, k1⟩
    have yk := hw e
    have k := k2 yk
    refine ⟨a, Hb, ts, i, j, S, x, M, v, y, rfl, ke, kr, hy, yk, fun H1 s1 => ?_⟩
    obtain ⟨gw, hi, hj, ij⟩ := ke
    obtain ⟨fp, ⟨dx, c, r, hh, b, s', ws, us, rfl, g⟩, st⟩ := gw.at hi
    walk_at "rd"
    have e3 : (!decide (optV (S.find y) = V.non)) = (S.find y).isSome := by cases S.find y <;> simp [optV]
    rw [e3]
    exact k H1 s1
theorem sc_Shelf_many : FnScope ["self"] ["self"] (defScope s_Shelf_many) := ⟨rfl, rfl, rfl, by decide +kernel, rfl, by decide +kernel, by decide +kernel⟩
theorem ok_Kin_many {P : Program} {w : World} {K : PySem.W.Frag} {mg : Str → Option Value} {base : Heap} {A : Ad} (T : Txt K mg A) : FnOk P w K mg base CX0 1 A.a_Shelf_many A.d_Shelf_many ["self"] (spKMany w A.c_Kin) := by
  refine T.F_Shelf_many.ok sc_Shelf_many (fun vs H Q E h => ?_) (fun cdv A' outer s H vs Q E hr h => ?_)
  · exact len_kmany h
  · have nd := sc_Shelf_many.nd
    have hu := hu_of hr
    refine ⟨_, (pss_one (ps_ret (pe_op op_sub (pe_fld (pv 0) rfl) (pe_fld (pv 0) rfl)))), ?_⟩
    clear nd
    obtain ⟨a, fp, S, x9, rfl, hS, ok9, k⟩ := h
    obtain ⟨dx, c, r, hh, b, s9, ws, us, rfl, gk⟩ := hS
    have g := gk.v
    have ok := ok9
    have ga := g.ha
    walk_at "rd"
    simp only [My.fld_comings (T.shC_Kin) ga, My.fld_goings (T.shC_Kin) ga]
    walk_at "rd"
    exact k
theorem sc_Shelf_counts : FnScope ["self"] ["self"] (defScope s_Shelf_counts) := ⟨rfl, rfl, rfl, by decide +kernel, rfl, by decide +kernel, by decide +kernel⟩
theorem ok_Kin_counts {P : Program} {w : World} {K : PySem.W.Frag} {mg : Str → Option Value} {base : Heap} {A : Ad} (T : Txt K mg A) : FnOk P w K mg base CX0 2 A.a_Shelf_counts A.d_Shelf_counts ["self"] (spKCounts w A.c_Kin) := by
  refine T.F_Shelf_counts.ok sc_Shelf_counts (fun vs H Q E h => ?_) (fun cdv A' outer s H vs Q E hr h => ?_)
  · exact len_kcounts h
  · have nd := sc_Shelf_counts.nd
    have hu := hu_of hr
    refine ⟨_, (pss_one (ps_ret (pe_tup (pa_cons (pe_meth0 (pv 0) T.cl_Kin T.me_Kin_many (ok_Kin_many (P := P) (w := w) T) (hr.mono (by decide)) T.b_Shelf_many .nil pass0) (pa_cons (pe_fld (pv 0) rfl) (pa_cons (pe_fld (pv 0) rfl) (pa_cons (pe_fld (pv 0) rfl) (pa_cons (pe_fld (pv 0) rfl) pa_nil)))))))), ?_⟩
    clear nd
    obtain ⟨a, fp, S, x9, rfl, hS, ok9, k⟩ := h
    have HS := hS
    obtain ⟨dx, c, r, hh, b, s9, ws, us, rfl, gk⟩ := hS
    have g := gk.v
    have ok := ok9
    have ga := g.ha
    walk_at "rd"
    refine ⟨⟨_, _, ga, by with_unfolding_all rfl⟩, a, _, S, x9, rfl, HS, ok9, ?_⟩
    simp only [My.fld_comings (T.shC_Kin) ga, My.fld_goings (T.shC_Kin) ga, My.fld_tidied (T.shC_Kin) ga, My.fld_moved (T.shC_Kin) ga]
    walk_at "rd"
    exact ⟨by walk_at "sz", fun T hT => k _ T (Same_upd (Same.refl _) hT) hT upd_same⟩
theorem sc_Shelf_pairs : FnScope ["self", "place", "key"] ["self"] (defScope s_Shelf_pairs) := ⟨rfl, rfl, rfl, by decide +kernel, rfl, by decide +kernel, by decide +kernel⟩
theorem ok_Kin_pairs {P : Program} {w : World} {K : PySem.W.Frag} {mg : Str → Option Value} {base : Heap} {A : Ad} (T : Txt K mg A) : FnOk P w K mg base CX0 1 A.a_Shelf_pairs A.d_Shelf_pairs ["self"] (spKPairs w A.c_Kin) := by
  refine T.F_Shelf_pairs.ok sc_Shelf_pairs (fun vs H Q E h => ?_) (fun cdv A' outer s H vs Q E hr h => ?_)
  · exact len_kpairs h
  · have nd := sc_Shelf_pairs.nd
    have hu := hu_of hr
    refine ⟨_, (pss_one (ps_ret (pe_lc (own := [("place", 1), ("key", 2)]) rfl nd (pi_enum rfl T.n_enumerate (pa_cons (pe_fld (pv 0) rfl) pa_nil)) (blkOk_by (own := [("place", 1), ("key", 2)]) (N := ["self", "place", "key"]) (sc := defScope s_Shelf_pairs) (by decide +kernel)) (fun _ _ _ _ _ => (pg_tupK K (n := 2) rfl rfl (pgs_cons (pg_name (i := 1) nd rfl (Or.inl rfl)) (pgs_cons (pg_name (i := 2) nd rfl (Or.inl rfl)) pgs_nil)))) (fun _ _ _ _ _ => (pts_one (pt_cmpR op_notN (pv 2) pe_non (nomark _)))) (fun _ _ _ _ _ => (pe_tup (pa_cons (pv 2) (pa_cons (pe_ix (ix_listK K rfl) (pe_fldK K rfl (pv 0) rfl) (pv 1) (fun _ _ => rfl)) pa_nil))))))), ?_⟩
    clear nd
    obtain ⟨a, fp, S, x9, rfl, hS, ok9, k⟩ := h
    obtain ⟨dx, c, r, hh, b, s9, ws, us, rfl, gk⟩ := hS
    have g := gk.v
    have ok := ok9
    have ga := g.ha
    have lw := KysAt.len g.kr
    have lu := KysAt.len g.kh
    have hhl := ok.hl
    have lt := ok.cw.lt
    walk_at "rd"
    simp only [My.fld_row (T.shC_Kin) ga]
    walk_at "rd"
    refine ⟨⟨_, SqL.of g.hr⟩, fun D hD => ?_⟩
    refine go_lck (walk_enum (xs := ws)) (pairsN S.row S.held) rfl (fun i _ => pairsN_vals ok i) (by rw [sizeLine_eq]; omega) (fun i => pairsN_len _ _ i) hD (fun H s => SqL.of (s _ _ g.hr)) ?_ ?_
    · rintro N Z i x H4 H5 hi s4 ⟨Tp, x1, y1, rfl, hT, rfl, e1, e2⟩ hN hZ
      cases e1
      obtain ⟨y, hy, hv⟩ := g.kr.get e2
      walk_at "rd"
      refine ⟨_, SqT.of upd_same, rfl, ?_⟩
      walk_at "rd"
      have sT : Same H4 (upd H4 Tp (.tup [V.int i, y1])) := Same_upd (Same.refl _) hT
      generalize upd H4 Tp (.tup [V.int i, y1]) = H6 at sT ⊢
      have g6 := g.ext (s4.trans sT)
      have ga6 := g6.ha
      have hv6 := hv.same (s4.trans sT) _ _
      refine iteB (fun c1 => ?_) fun c1 => hZ (by rw [pairsN, hy]; dsimp only; rw [if_pos (hv.ne_non.mp (by simpa using c1))]) _ sT
      simp only [My.fld_held (T.shC_Kin) ga6]
      walk_at "rd"
      obtain ⟨w1, q1, q2⟩ := at_any (xs := us) (c := (i : Nat)) (by omega) (by omega)
      rw [Int.toNat_natCast] at q1
      obtain ⟨z, q3, hz⟩ := g6.kh.get q1
      refine ⟨_, _, SqL.of g6.hh, q2, by walk_at "sz", fun T2 hT2 => hN _ _ _ (by rw [pairsN, hy]; dsimp only; rw [if_neg (fun e => c1 (hv.ne_non.mpr e))]) (Same_upd sT hT2) (.tup upd_same (.cons (hv6.same (Same_upd (Same.refl _) hT2) _ _) (.cons ?_ .nil)))⟩
      rw [List.getD_eq_getElem?_getD, q3]
      exact hz.same (Same_upd (Same.refl _) hT2) _ _
    · intro H4 ys s4 hL hk
      walk_at "rd"
      rw [lw] at hk
      exact k H4 D ys s4 hD hL hk

end Law
namespace Law
open PySem PySem.Spec PyProof.Rows L2 My
theorem sc_Table_make_room : FnScope ["self", "row", "held", "born"] ["self"] (defScope s_Table_make_room) := ⟨rfl, rfl, rfl, by decide +kernel, rfl, by decide +kernel, by decide +kernel⟩
theorem ok_Kin_make_room {P : Program} {w : World} {K : PySem.W.Frag} {mg : Str → Option Value} {base : Heap} {A : Ad} (T : Txt K mg A) : FnOk P w K mg base CX0 9 A.a_Table_make_room A.d_Table_make_room ["self"] (spKRoom w A.c_Kin A.c_Maker) := by
  refine T.F_Table_make_room.ok sc_Table_make_room (fun vs H Q E h => ?_) (fun cdv A' outer s H vs Q E hr h => ?_)
  · exact len_kroom h
  · have nd := sc_Table_make_room.nd
    have hu := hu_of hr
    refine ⟨_, (pss_cons (ps_asg (pe_call (ok_packed (P := P) (w := w) T) (hr.mono (by decide)) rfl T.m_packed T.F_packed.kp T.b_packed .nil pass0 (pa_cons (pe_fld (pv 0) rfl) (pa_cons (pe_fld (pv 0) rfl) pa_nil))) (pg_tup (n := 2) rfl (pgs_cons (pg_name (i := 1) nd rfl (Or.inl rfl)) (pgs_cons (pg_name (i := 2) nd rfl (Or.inl rfl)) pgs_nil)))) (pss_cons (ps_asg (pe_call (ok_packed (P := P) (w := w) T) (hr.mono (by decide)) rfl T.m_packed T.F_packed.kp T.b_packed .nil pass0 (pa_cons (pe_fld (pv 0) rfl) (pa_cons (pe_fld (pv 0) rfl) pa_nil))) (pg_tup (n := 2) rfl (pgs_cons (pg_name (i := 1) nd rfl (Or.inl rfl)) (pgs_cons (pg_name (i := 3) nd rfl (Or.inl rfl)) pgs_nil)))) (pss_cons (ps_fld (pv 0) (pv 1) rfl) (pss_cons (ps_fld (pv 0) (pv 2) rfl) (pss_cons (ps_fld (pv 0) (pv 3) rfl) (pss_cons (ps_fld (pv 0) (pe_call (ok_size_for (P := P) (w := w) T) (hr.mono (by decide)) rfl T.m_size_for T.F_size_for.kp T.b_size_for .nil pass0 (pa_cons (pe_callB call_lenU rfl T.n_len PySem.boot_len (pa_cons (pv 1) pa_nil)) pa_nil)) rfl) (pss_cons (ps_expr (pe_meth0 (pv 0) T.cl_Kin T.me_Kin_relay (ok_Kin_relay (P := P) (w := w) T) (hr.mono (by decide)) T.b_Kin_relay .nil pass0)) (pss_cons (ps_fldaug (pv 0) pe_int in_add) (pss_one (ps_fldaug (pv 0) (pe_callB call_lenU rfl T.n_len PySem.boot_len (pa_cons (pv 1) pa_nil)) in_add)))))))))), ?_⟩
    clear nd
    obtain ⟨a, Hb, ts, i, j, S, x, M, rfl, ke, kr, ln, k⟩ := h
    have ok := kr.ok
    obtain ⟨gw, hi, hj, ij⟩ := ke
    obtain ⟨fp, ⟨dx, c, r, hh, b, s', ws, us, rfl, gk⟩, st⟩ := gw.at hi
    have g := gk.v
    obtain ⟨ns1, ns2, ns3, ns4, ns5⟩ := gk.ns
    have gm := gk.mx
    have ga := g.ha
    have hl := ok.hl
    have hb := ok.bl
    have lt := ok.cw.lt
    have e1 := keptK_lv S.row S.held
    have e2 : (keptK S.row (S.born.map Ky.num)).1 = S.lv.map Prod.fst := by rw [kept1_eq S.row S.held S.born hl hb, e1]; rfl
    have e3 := keptI_nums S.row S.born
    walk_at "rd"
    simp only [My.fld_row (T.shC_Kin) ga, My.fld_held (T.shC_Kin) ga]
    walk_at "rd"
    refine ⟨r, hh, ws, us, S.row, S.held, rfl, SqL.of g.hr, SqL.of g.hh, g.kr, g.kh, ⟨g.vr, g.vh⟩, by omega, hl.symm, fun t1 r1 h1 wr1 wh1 H1 s1 n1 fr1 fh1 ht1 hr1 hh1 kr1 kh1 => ?_⟩
    rw [e1] at kr1 kh1
    have g1 := g.ext s1
    have ga1 := g1.ha
    walk_at "rd"
    refine ⟨_, SqT.of ht1, rfl, ?_⟩
    walk_at "rd"
    simp only [My.fld_row (T.shC_Kin) ga1, My.fld_born (T.shC_Kin) ga1]
    walk_at "rd"
    refine ⟨r, b, ws, S.born.map V.int, S.row, S.born.map Ky.num, rfl, SqL.of g1.hr, SqL.of g1.hb, g1.kr, nums_at _, ⟨g.vr, vals_nums _⟩, by omega, by rw [List.length_map]; omega, fun t2 r2 b2 wr2 wb2 H2 s2 n2 fr2 fb2 ht2 hr2 hb2 kr2 kb2 => ?_⟩
    rw [e2] at kr2
    rw [e3] at kb2
    have eb := kys_ints kb2
    subst eb
    walk_at "rd"
    refine ⟨_, SqT.of ht2, rfl, ?_⟩
    walk_at "rd"
    have g2 := g1.ext s2
    have ga2 := g2.ha
    have v1 : Ky.vals (S.lv.map Prod.fst) = true := vals_iff.mpr fun q hq => by
      obtain ⟨x, hx, rfl⟩ := List.mem_map.mp hq
      exact vals_iff.mp g.vr _ (lvP_key hx).1
    have v2 : Ky.vals (S.lv.map Prod.snd) = true := vals_iff.mpr fun q hq => by
      obtain ⟨x, hx, rfl⟩ := List.mem_map.mp hq
      exact vals_iff.mp g.vh _ (lvP_key hx).2.1
    have rk : RowOk (S.lv.map Prod.fst) := fun q hq => by
      obtain ⟨x, hx, rfl⟩ := List.mem_map.mp hq
      exact ok.cw.rok _ (lvP_key hx).1
    have lw2 := KysAt.len kr2
    rw [List.length_map] at lw2
    have nt : ∀ {S' : Sh} {c r h b : Addr} xs, HO.ins A.c_Kin dx (shF (.kin x.m s' x.ap) c r h b S') ≠ .tup xs := fun _ z => by cases z
    have gr2 : Gr [a] H H2 := Gr.of (s1.trans s2)
    have hh2 := s2 _ _ hh1
    have kh2 : KysAt H2 wh1 (S.lv.map Prod.snd) := kh1.same s2 _ _
    have na : a ≠ h1 := fh1.ne g.ha
    have nb : a ≠ b2 := fb2.ne g1.ha
    rw [set_row T.shC_Kin (ks := S.lv.map Prod.fst) ga2]
    have g3 := g2.reR (ks := S.lv.map Prod.fst) hr2 v1 kr2 ⟨fr2.ne g1.hc, (fr2.ne g1.hh).symm, (fr2.ne g1.hb).symm⟩
    have gr3 : Gr [a] H (upd H2 a (.ins A.c_Kin dx (shF (.kin x.m s' x.ap) c r2 hh b { S with row := S.lv.map Prod.fst }))) := gr2.put (by simp)
    have hh3 : upd H2 a (.ins A.c_Kin dx (shF (.kin x.m s' x.ap) c r2 hh b { S with row := S.lv.map Prod.fst })) h1 = some (.lst wh1) := by rw [upd_ne na.symm]; exact hh2
    have hb3 : upd H2 a (.ins A.c_Kin dx (shF (.kin x.m s' x.ap) c r2 hh b { S with row := S.lv.map Prod.fst })) b2 = some (.lst ((keptI S.row S.born).map V.int)) := by rw [upd_ne nb.symm]; exact hb2
    have kh3 : KysAt (upd H2 a (.ins A.c_Kin dx (shF (.kin x.m s' x.ap) c r2 hh b { S with row := S.lv.map Prod.fst }))) wh1 (S.lv.map Prod.snd) := kys_upd ga2 nt v2 kh2
    generalize upd H2 a (.ins A.c_Kin dx (shF (.kin x.m s' x.ap) c r2 hh b { S with row := S.lv.map Prod.fst })) = H3 at g3 gr3 hh3 hb3 kh3 ⊢
    rw [set_held T.shC_Kin (ks := S.lv.map Prod.snd) g3.ha]
    have g4 := g3.reH (ks := S.lv.map Prod.snd) hh3 v2 kh3 ⟨fh1.ne g.hc, (fr2.ne hh1).symm, (fh1.ne g.hb).symm⟩
    have gr4 : Gr [a] H (upd H3 a (.ins A.c_Kin dx (shF (.kin x.m s' x.ap) c r2 h1 b { S with row := S.lv.map Prod.fst, held := S.lv.map Prod.snd }))) := gr3.put (by simp)
    have hb4 : upd H3 a (.ins A.c_Kin dx (shF (.kin x.m s' x.ap) c r2 h1 b { S with row := S.lv.map Prod.fst, held := S.lv.map Prod.snd })) b2 = some (.lst ((keptI S.row S.born).map V.int)) := by rw [upd_ne nb.symm]; exact hb3
    generalize upd H3 a (.ins A.c_Kin dx (shF (.kin x.m s' x.ap) c r2 h1 b { S with row := S.lv.map Prod.fst, held := S.lv.map Prod.snd })) = H4 at g4 gr4 hb4 ⊢
    rw [set_born T.shC_Kin (cs := keptI S.row S.born) g4.ha]
    have g5 := g4.reB (ns := keptI S.row S.born) hb4 ⟨fb2.ne g1.hc, n2, fb2.ne hh1⟩
    have gr5 : Gr [a] H (upd H4 a (.ins A.c_Kin dx (shF (.kin x.m s' x.ap) c r2 h1 b2 { S with row := S.lv.map Prod.fst, held := S.lv.map Prod.snd, born := keptI S.row S.born }))) := gr4.put (by simp)
    generalize upd H4 a (.ins A.c_Kin dx (shF (.kin x.m s' x.ap) c r2 h1 b2 { S with row := S.lv.map Prod.fst, held := S.lv.map Prod.snd, born := keptI S.row S.born })) = H5 at g5 gr5 ⊢
    refine ⟨_, .inl (SqL.of g5.hr), _, rfl, ⟨by omega, by omega⟩, fun j jr q1 q2 => ?_⟩
    rw [lw2] at q1 q2
    have ej := szJ_at jr q1 q2
    subst ej
    rw [set_size T.shC_Kin g5.ha]
    have g6 := g5.fldU (S' := { S with row := S.lv.map Prod.fst, held := S.lv.map Prod.snd, born := keptI S.row S.born, j := szJ S.lv.length })
    have gr6 : Gr [a] H (upd H5 a (.ins A.c_Kin dx (shF (.kin x.m s' x.ap) c r2 h1 b2 { S with row := S.lv.map Prod.fst, held := S.lv.map Prod.snd, born := keptI S.row S.born, j := szJ S.lv.length }))) := gr5.put (by simp)
    generalize upd H5 a (.ins A.c_Kin dx (shF (.kin x.m s' x.ap) c r2 h1 b2 { S with row := S.lv.map Prod.fst, held := S.lv.map Prod.snd, born := keptI S.row S.born, j := szJ S.lv.length })) = H6 at g6 gr6 ⊢
    have m6 := gm.keepG gr6 (fun y m xs e => by
      rw [List.mem_singleton] at m
      subst m
      rw [g.ha] at e
      cases e) (by simpa using ns1)
    have sub6 : Sub [a, c, r2, h1, b2, s'] [a, c, r, hh, b, s'] H := fun x hx => by
      simp only [List.mem_cons, List.not_mem_nil, or_false] at hx
      rcases hx with rfl | rfl | rfl | rfl | rfl | rfl
      · exact .inl (by simp)
      · exact .inl (by simp)
      · exact .inr (Same_fresh s1 fr2)
      · exact .inr fh1
      · exact .inr (Same_fresh s1 fb2)
      · exact .inl (by simp)
    obtain ⟨so, es, nso⟩ := gm.is
    have sf : ∀ z, Fresh H z → s' ≠ z := fun z f => f.ne es
    have g6ha := g6.ha
    have g6hr := g6.hr
    obtain ⟨gw6, kp6⟩ := st _ [a, c, r2, h1, b2, s'] (knT w A.c_Kin a { S with row := S.lv.map Prod.fst, held := S.lv.map Prod.snd, born := keptI S.row S.born, j := szJ S.lv.length } x) (gr6.mono (by simp)) sub6 ⟨dx, c, r2, h1, b2, s', _, _, rfl, g6, m6, ⟨ns1, ns2, (sf _ (Same_fresh s1 fr2)), sf _ fh1, sf _ (Same_fresh s1 fb2)⟩⟩ knT_good
    have okt := ok.tidy ln
    clear st g g1 g2 g3 g4 g5 g6 gr2 gr3 gr4 gr5 gr6 sub6 gk m6
    have ij' := ij
    refine ⟨⟨_, _, g6ha, by with_unfolding_all rfl⟩, a, Hb, _, i, j, _, x, M, rfl, ⟨gw6, set_at hi, set_ne hj ij, ij⟩, rk, szJ_range _, ?_, ?_, ?_, fun H7 l gr7 gw7 kp7 se7 => ?_⟩
    · show (((S.lv.map Prod.fst).length : Nat) : Int) ≤ 2 * 2 ^ szJ S.lv.length / 3
      rw [List.length_map]
      exact Int.le_of_lt (szJ_room ln)
    · exact okt.cw.nd
    · intro e y my yn
      have my : y ∈ S.tidy.row := my
      have mr : y ∈ S.row := Classical.byContradiction fun n => tidy_not n my
      obtain ⟨p, hp⟩ := List.mem_iff_getElem?.mp mr
      obtain ⟨n, hn, -⟩ := (kr.seat e).all p y hp yn
      exact List.mem_of_getElem? hn
    · rw [set_set] at gw7
      obtain ⟨fp7, ⟨dx, c, r, hh, b, s', ws, us, rfl, gk⟩, st⟩ := gw7.at (set_at hi)
      have g7 := gk.v
      have gm := gk.mx
      have gk := gk.ns
      dsimp only at g7 gm
      have ra : r2 ≠ a := fun e => by rw [e, g6ha] at g6hr; cases g6hr
      have r7 := gr7.keep _ _ g6hr (by simpa using ra)
      have nt : ∀ {S' : Sh} {c r h b : Addr} xs, HO.ins A.c_Kin dx (shF (.kin x.m s' x.ap) c r h b S') ≠ .tup xs := fun _ z => by cases z
      rw [aug_tidied T.shC_Kin g7.ha]
      have g8 := g7.fldU (S' := { S with row := S.lv.map Prod.fst, held := S.lv.map Prod.snd, born := keptI S.row S.born, j := szJ S.lv.length, tid := S.tid + 1 })
      have m8 := gm.away (o' := .ins A.c_Kin dx (shF (.kin x.m s' x.ap) c r hh b { S with row := S.lv.map Prod.fst, held := S.lv.map Prod.snd, born := keptI S.row S.born, j := szJ S.lv.length, tid := S.tid + 1 })) g7.ha nt gk.1
      have gr8 : Gr [a, c, r, hh, b, s'] H7 (upd H7 a (.ins A.c_Kin dx (shF (.kin x.m s' x.ap) c r hh b { S with row := S.lv.map Prod.fst, held := S.lv.map Prod.snd, born := keptI S.row S.born, j := szJ S.lv.length, tid := S.tid + 1 }))) := Gr.refl.put (by simp)
      have r8 : upd H7 a (.ins A.c_Kin dx (shF (.kin x.m s' x.ap) c r hh b { S with row := S.lv.map Prod.fst, held := S.lv.map Prod.snd, born := keptI S.row S.born, j := szJ S.lv.length, tid := S.tid + 1 })) r2 = some (.lst wr2) := by rw [upd_ne ra]; exact r7
      generalize upd H7 a (.ins A.c_Kin dx (shF (.kin x.m s' x.ap) c r hh b { S with row := S.lv.map Prod.fst, held := S.lv.map Prod.snd, born := keptI S.row S.born, j := szJ S.lv.length, tid := S.tid + 1 })) = H8 at g8 gr8 m8 r8 ⊢
      have r2at : H8 r2 = some (.lst wr2) := r8
      unfold My.AugAt
      refine ⟨_, _, _, _, g8.ha, T.shC_Kin.cls, T.shC_Kin.moved, by with_unfolding_all rfl, ?_⟩
      walk_at "rd"
      refine ⟨_, .inl (SqL.of r2at), _, _, rfl, rfl, _, _, g8.ha, shF_len, ?_⟩
      have g9 := g8.fldU (S' := S.tidy)
      have m9 := m8.away (o' := .ins A.c_Kin dx (shF (.kin x.m s' x.ap) c r hh b S.tidy)) g8.ha nt gk.1
      have e9 : shF (.kin x.m s' x.ap) c r hh b S.tidy = putF (Str.ofString "moved") (.int (S.mov + (wr2.length : Nat))) (shF (.kin x.m s' x.ap) c r hh b { S with row := S.lv.map Prod.fst, held := S.lv.map Prod.snd, born := keptI S.row S.born, j := szJ S.lv.length, tid := S.tid + 1 }) := by
        rw [lw2]
        with_unfolding_all rfl
      rw [e9] at g9 m9
      obtain ⟨gw9, kp9⟩ := st _ [a, c, r, hh, b, s'] (knT w A.c_Kin a S.tidy ⟨x.m, x.ap, l, tidyCells S x⟩) (gr8.put (x := a) (by simp)) Sub.refl ⟨dx, c, r, hh, b, s', _, _, rfl, by rw [show tidyCells S x = (if x.ap = true then layN (szJ S.lv.length) (S.lv.map Prod.fst) (S.lv.map Prod.fst).length else x.cells) from rfl]; exact g9, m9, gk⟩ knT_good
      rw [set_set] at gw9
      refine k _ l gw9 ((kp6.trans kp7).trans kp9) ⟨okt, fun e => ?_, se7⟩
      have h := okt.cw
      have e1 : tidyCells S x = S.tidy.cells := by
        unfold tidyCells
        have e : x.ap = true := e
        rw [if_pos e]
        show layN _ _ (S.lv.map Prod.fst).length = layN _ _ S.lv.length
        rw [List.length_map]
        rfl
      show CWf S.tidy.row S.tidy.j (tidyCells S x)
      rw [e1]
      exact h

end Law
namespace Law
open PySem PySem.Spec PyProof.Rows L2 My
theorem sc_Shelf_put : FnScope ["self", "key", "value", "place"] ["self", "key", "value"] (defScope s_Shelf_put) := ⟨rfl, rfl, rfl, by decide +kernel, rfl, by decide +kernel, by decide +kernel⟩
theorem ok_Kin_put {P : Program} {w : World} {K : PySem.W.Frag} {mg : Str → Option Value} {base : Heap} {A : Ad} (T : Txt K mg A) : FnOk P w K mg base (L2N.CX P w) 10 A.a_Shelf_put A.d_Shelf_put ["self", "key", "value"] (spKPut w A.c_Kin A.c_Maker A.c_NoKey) := by
  refine My.okN T.F_Shelf_put sc_Shelf_put (fun vs H Q E h => ?_) (fun cdv A' outer s H vs Q E hr h => ?_)
  · exact len_kput h
  · have nd := sc_Shelf_put.nd
    have hu := hu_of hr
    refine ⟨_, (pss_cons (ps_set (i := 3) nd rfl (Or.inl rfl) (pe_meth (pv 0) T.cl_Kin T.me_Kin_find (ok_Kin_find (P := P) (w := w) T) (hr.mono (by decide)) T.b_Kin_find .nil pass0 (pa_cons (pe_call (ok_checked (P := P) (w := w) T) (hr.mono (by decide)) rfl T.m_checked T.F_checked.kp T.b_checked .nil (L2N.passes_call (L2N.takes_of rfl rfl rfl rfl) fun _ _ _ _ h => h) (pa_cons (pv 1) pa_nil)) pa_nil))) (pss_cons (ps_if (pt_cmpR op_notN (pv 3) pe_non (nomark _)) (pss_cons (ps_asg (pv 2) (pg_sub (pe_fld (pv 0) rfl) (pv 3) set_list)) (pss_one (ps_ret pe_bl))) pss_nil) (C8.pss_cut (ps_if (pt_cmpR op_ge (pe_callB call_lenU rfl T.n_len PySem.boot_len (pa_cons (pe_fld (pv 0) rfl) pa_nil)) (pe_call (ok_room (P := P) (w := w) T) (hr.mono (by decide)) rfl T.m_room T.F_room.kp T.b_room .nil pass0 (pa_cons (pe_fld (pv 0) rfl) pa_nil)) (nomark _)) (pss_one (ps_expr (pe_meth0 (pv 0) T.cl_Kin T.me_Kin_make_room (ok_Kin_make_room (P := P) (w := w) T) (hr.mono (by decide)) T.b_Table_make_room .nil pass0))) pss_nil) (pss_cons (ps_expr (pe_meth (pv 0) T.cl_Kin T.me_Kin_lay (ok_Kin_lay (P := P) (w := w) T) (hr.mono (by decide)) T.b_Kin_lay .nil pass0 (pa_cons (pv 1) (pa_cons (pe_callB call_lenU rfl T.n_len PySem.boot_len (pa_cons (pe_fld (pv 0) rfl) pa_nil)) pa_nil)))) (pss_cons (ps_expr (pe_bm PySem.F.plainAttrs_list PySem.F.slot_list_append PySem.F.type_list_append mt_append (pe_fld (pv 0) rfl) (pa_cons (pv 1) pa_nil))) (pss_cons (ps_expr (pe_bm PySem.F.plainAttrs_list PySem.F.slot_list_append PySem.F.type_list_append mt_append (pe_fld (pv 0) rfl) (pa_cons (pv 2) pa_nil))) (pss_cons (ps_fldaug (pv 0) pe_int in_add) (pss_cons (ps_expr (pe_bm PySem.F.plainAttrs_list PySem.F.slot_list_append PySem.F.type_list_append mt_append (pe_fld (pv 0) rfl) (pa_cons (pe_fld (pv 0) rfl) pa_nil))) (pss_one (ps_ret pe_bl)))))))))), ?_⟩
    clear nd
    obtain ⟨a, Hb, ts, i, j, S, x, M, v, u, y, z, rfl, ke, kr, hy, hf, hw, hu, hz, ln, k1, k2⟩ := h
    have ok := kr.ok
    have KE0 := ke
    walk_at "rd"
    refine ⟨ke.met (fun _ _ _ _ _ _ _ => by with_unfolding_all rfl), v, y, rfl, hy, hf, fun e => ?_, k1⟩
    have yk := hw e
    have k := k2 yk
    refine ⟨a, Hb, ts, i, j, S, x, M, v, y, rfl, ke, kr, hy, yk, fun H1 s1 => ?_⟩
    have ke1 := ke.ext s1
    have hy1 := hy.same s1 _ _
    have hu1 := hu.same s1 _ _
    have kp1 := Keeps.of s1
    obtain ⟨gw, hi, hj, ij⟩ := ke1
    obtain ⟨fp, ⟨dx, c, r, hh, b, s', ws, us, rfl, g⟩, st⟩ := gw.at hi
    have ga1 := g.v.ha
    unfold Sh.putT at k
    unfold putC at k
    have lw := KysAt.len g.v.kr
    have lu := KysAt.len g.v.kh
    have hhl := ok.hl
    have lt := ok.cw.lt
    cases ef : S.find y with
    | some q =>
      rw [ef] at k
      dsimp only at k
      simp only [optV]
      walk_at "rd"
      refine iteP (by simp) ?_
      simp only [My.fld_held (T.shC_Kin) ga1]
      walk_at "rd"
      have hq := (List.getElem?_eq_some_iff.mp ((ok.find_some yk.ne_non).mp ef)).1
      refine ⟨_, _, g.v.hh, ixN_nat (by omega) (by omega), ?_⟩
      walk_at "rd"
      have g2 := g.v.heldU (us' := us.set q u) (ks := S.held.set q z) (vals_set g.v.vh hz.1) (g.v.kh.set hu1)
      have m2 := g.mx.away (o' := .lst (us.set q u)) g.v.hh (fun _ z => by cases z) g.ns.2.2.2.1
      obtain ⟨gw2, kp2⟩ := st _ [a, c, r, hh, b, s'] (knT w A.c_Kin a (S.hold q z) x) (Gr.refl.put (x := hh) (by simp)) Sub.refl ⟨dx, c, r, hh, b, s', _, _, rfl, g2, m2, g.ns⟩ knT_good
      exact k _ x M rfl (by rw [set_id (set_ne hj ij)]; exact gw2) ⟨ok.hold hz, kr.cw, kr.seat⟩ .refl (kp1.trans kp2) rfl
    | none =>
      rw [ef] at k
      dsimp only at k
      have nin := (ok.find_none yk.ne_non).mp ef
      walk_at "rd"
      refine iteN (by simp [optV]) ?_
      refine ⟨fun σ H' => σ = [some (.ref a), some v, some u, some .non] ∧ ∃ ts' S1 x1, KE w A.c_Kin A.c_Maker Hb H' ts' i j a S1 x1 M ∧ Kr S1 x1 M ∧ Keeps H H' ∧ S1.full = false ∧ y ∉ S1.row ∧ ∀ H'' x' M', x'.m = x1.m → GW Hb H'' ((ts'.set i (knT w A.c_Kin a (S1.come y z) x')).set j (mkT A.c_Maker x1.m M')) → Kr (S1.come y z) x' M' → M.Le M' → Keeps H H'' → (x'.ap, x'.cells, M') = layC S1 x1 M y → Q (.bl true) H'', ?_, ?_⟩
      · simp only [My.fld_row (T.shC_Kin) ga1]
        walk_at "rd"
        refine ⟨_, .inl (SqL.of g.v.hr), ?_⟩
        simp only [My.fld_size (T.shC_Kin) ga1]
        walk_at "rd"
        refine iteB (fun cf => ?_) fun cf => ?_
        · have ef2 : S.full = true := decide_eq_true (by omega)
          simp only [ef2, if_true] at k
          refine ⟨⟨_, _, ga1, by with_unfolding_all rfl⟩, a, Hb, ts, i, j, S, x, M, rfl, ⟨gw, hi, hj, ij⟩, kr, ln, fun H2 l gw2 kp2 kr2 => ?_⟩
          refine ⟨rfl, _, S.tidy, _, ⟨gw2, set_at hi, set_ne hj ij, ij⟩, kr2, kp1.trans kp2, tidy_room ln, tidy_not nin, fun H'' x' M' e g9 => ?_⟩
          rw [set_set] at g9
          have e : x'.m = x.m := e
          intro k4 k5 k6 k7
          refine k H'' x' M' e g9 k4 k5 k6 (k7.trans ?_)
          unfold layC
          rfl
        · have ef2 : S.full = false := decide_eq_false (by omega)
          simp only [ef2, Bool.false_eq_true, if_false] at k
          exact ⟨rfl, ts, S, x, ⟨gw, hi, hj, ij⟩, kr, kp1, ef2, nin, k⟩
      clear lw lu hhl lt st g ga1 gw hi hj hy1 hu1 kp1 s1 k1 k2 KE0 ke kr ok ef ln nin
      rintro σ H1 ⟨rfl, ts, S, x, ke, kr, kp1, ef2, nin, k⟩
      have hy1 := kp1 _ _ yk.val hy
      have hu1 := kp1 _ _ hz.1 hu
      have ok := kr.ok
      walk_at "rd"
      refine ⟨ke.met (fun _ _ _ _ _ _ _ => by with_unfolding_all rfl), ?_⟩
      obtain ⟨gw, hi, hj, ij⟩ := ke
      obtain ⟨fp, ⟨dx, c, r, hh, b, s', ws, us, rfl, g⟩, st⟩ := gw.at hi
      have ga1 := g.v.ha
      have lw := KysAt.len g.v.kr
      simp only [My.fld_row (T.shC_Kin) ga1]
      walk_at "rd"
      refine ⟨_, .inl (SqL.of g.v.hr), ?_⟩
      rw [lw]
      refine ⟨a, Hb, ts, i, j, S, x, M, v, y, rfl, ⟨gw, hi, hj, ij⟩, kr, hy1, yk, nin, ef2, fun H2 l gw2 kp2 cw2 se2 => ?_⟩
      have hy2 := kp2 _ _ yk.val hy1
      have hu2 := kp2 _ _ hz.1 hu1
      clear st g ga1 lw
      have leM : M.Le (layC S x M y).2.2 := by
        unfold layC
        split
        · exact .refl
        · cases et : (M.takeIn y).1 with
          | some n => exact Mk.takeIn_le
          | none => exact .refl
      have hi2 : ((ts.set i (knT w A.c_Kin a S ⟨x.m, (layC S x M y).1, l, (layC S x M y).2.1⟩)).set j (mkT A.c_Maker x.m (layC S x M y).2.2))[i]? = some (knT w A.c_Kin a S ⟨x.m, (layC S x M y).1, l, (layC S x M y).2.1⟩) := set_ne (set_at hi) (Ne.symm ij)
      obtain ⟨fp2, ⟨dx, c, r, hh, b, s', ws, us, rfl, g⟩, st⟩ := gw2.at hi2
      generalize layC S x M y = KCx at *
      obtain ⟨ap', cs', M'⟩ := KCx
      dsimp only at *
      have lw := KysAt.len g.v.kr
      have lu := KysAt.len g.v.kh
      have hhl := ok.hl
      have hbl := ok.bl
      have lt := ok.cw.lt
      obtain ⟨n1, n2, n3, n4, n5⟩ := g.ns
      have g2 := g.v
      have m2 := g.mx
      have ga2 := g2.ha
      have gr2 : Gr [a, c, r, hh, b, s'] H2 H2 := Gr.refl
      simp only [My.fld_row T.shC_Kin ga2]
      walk_at "rd"
      refine ⟨tyL g2.hr, _, g2.hr, by rw [sizeLine_eq]; omega, ?_⟩
      have g3 := g2.rowU (ws' := ws ++ [v]) (ks := S.row ++ [y]) (vals_append g2.vr (vals_one yk.val)) (g2.kr.append (.cons hy2 .nil))
      have m3 := m2.away (o' := .lst (ws ++ [v])) g2.hr (fun _ z => by cases z) n3
      have ga3 := g3.ha
      have gr3 : Gr [a, c, r, hh, b, s'] H2 (upd H2 r (.lst (ws ++ [v]))) := gr2.put (by simp)
      have hu3 := ky_upd (o' := .lst (ws ++ [v])) g2.hr (fun _ z => by cases z) hz.1 hu2
      generalize upd H2 r (.lst (ws ++ [v])) = H4 at g3 ga3 gr3 hu3 m3 ⊢
      simp only [My.fld_held T.shC_Kin ga3]
      walk_at "rd"
      refine ⟨tyL g3.hh, _, g3.hh, by rw [sizeLine_eq]; omega, ?_⟩
      have g4 := g3.heldU (us' := us ++ [u]) (ks := S.held ++ [z]) (vals_append g3.vh (vals_one hz.1)) (g3.kh.append (.cons hu3 .nil))
      have m4 := m3.away (o' := .lst (us ++ [u])) g3.hh (fun _ z => by cases z) n4
      have ga4 := g4.ha
      have gr4 : Gr [a, c, r, hh, b, s'] H2 (upd H4 hh (.lst (us ++ [u]))) := gr3.put (by simp)
      generalize upd H4 hh (.lst (us ++ [u])) = H5 at g4 ga4 gr4 m4 ⊢
      rw [aug_comings T.shC_Kin ga4]
      have g5 := g4.fldU (S' := { S with row := S.row ++ [y], held := S.held ++ [z], com := S.com + 1 })
      have m5 := m4.away (o' := .ins A.c_Kin dx (shF (.kin x.m s' ap') c r hh b { S with row := S.row ++ [y], held := S.held ++ [z], com := S.com + 1 })) g4.ha (fun _ z => by cases z) n1
      have gr5 : Gr [a, c, r, hh, b, s'] H2 (upd H5 a (.ins A.c_Kin dx (shF (.kin x.m s' ap') c r hh b { S with row := S.row ++ [y], held := S.held ++ [z], com := S.com + 1 }))) := gr4.put (by simp)
      have ga5 := g5.ha
      generalize upd H5 a (.ins A.c_Kin dx (shF (.kin x.m s' ap') c r hh b { S with row := S.row ++ [y], held := S.held ++ [z], com := S.com + 1 })) = H6 at g5 gr5 ga5 m5 ⊢
      simp only [My.fld_born T.shC_Kin ga5, My.fld_comings T.shC_Kin ga5]
      walk_at "rd"
      refine ⟨tyL g5.hb, _, g5.hb, by rw [sizeLine_eq, List.length_map]; show S.born.length < 16777216; omega, ?_⟩
      have g6 := g5.bornU (ns := S.born ++ [S.com + 1])
      rw [List.map_append] at g6
      have m6 := m5.away (o' := .lst (S.born.map V.int ++ [V.int (S.com + 1)])) g5.hb (fun _ z => by cases z) n5
      obtain ⟨gw9, kp9⟩ := st _ [a, c, r, hh, b, s'] (knT w A.c_Kin a (S.come y z) ⟨x.m, ap', l, cs'⟩) (gr5.put (x := b) (by simp)) Sub.refl ⟨dx, c, r, hh, b, s', _, _, rfl, ⟨g6.ha, g6.hc, g6.hr, g6.hh, g6.hb, g6.kr, g6.kh, g6.vr, g6.vh, g6.ne⟩, m6, ⟨n1, n2, n3, n4, n5⟩⟩ knT_good
      refine k _ ⟨x.m, ap', l, cs'⟩ M' rfl ?_ ⟨ok.come yk nin ef2 hz, cw2, se2⟩ leM ((kp1.trans kp2).trans kp9) rfl
      rw [List.set_comm _ _ ij, set_set, List.set_comm _ _ (Ne.symm ij)] at gw9
      exact gw9

end Law
namespace Law
open PySem PySem.Spec PyProof.Rows L2 My
theorem sc_Shelf_emptied : FnScope ["self"] ["self"] (defScope s_Shelf_emptied) := ⟨rfl, rfl, rfl, by decide +kernel, rfl, by decide +kernel, by decide +kernel⟩
theorem ok_Kin_emptied {P : Program} {w : World} {K : PySem.W.Frag} {mg : Str → Option Value} {base : Heap} {A : Ad} (T : Txt K mg A) : FnOk P w K mg base CX0 9 A.a_Shelf_emptied A.d_Shelf_emptied ["self"] (spKEmptied w A.c_Kin A.c_Maker) := by
  refine T.F_Shelf_emptied.ok sc_Shelf_emptied (fun vs H Q E h => ?_) (fun cdv A' outer s H vs Q E hr h => ?_)
  · exact len_kemptied h
  · have nd := sc_Shelf_emptied.nd
    have hu := hu_of hr
    refine ⟨_, (pss_cons (ps_fld (pv 0) (pe_fld (pv 0) rfl) rfl) (pss_cons (ps_fld (pv 0) (pe_fld (pv 0) rfl) rfl) (pss_cons (ps_fld (pv 0) (pe_lst pa_nil) rfl) (pss_cons (ps_fld (pv 0) (pe_lst pa_nil) rfl) (pss_cons (ps_fld (pv 0) (pe_lst pa_nil) rfl) (pss_one (ps_expr (pe_meth0 (pv 0) T.cl_Kin T.me_Kin_relay (ok_Kin_relay (P := P) (w := w) T) (hr.mono (by decide)) T.b_Kin_relay .nil pass0)))))))), ?_⟩
    clear nd
    obtain ⟨a, Hb, ts, i, j, S, x, M, rfl, ke, kr, k⟩ := h
    have ok := kr.ok
    obtain ⟨gw, hi, hj, ij⟩ := ke
    obtain ⟨fp, ⟨dx, c, r, hh, b, s', ws, us, rfl, gk⟩, st⟩ := gw.at hi
    have g := gk.v
    obtain ⟨ns1, ns2, ns3, ns4, ns5⟩ := gk.ns
    have gm := gk.mx
    have ga := g.ha
    walk_at "rd"
    simp only [My.fld_comings (T.shC_Kin) ga]
    walk_at "rd"
    rw [set_goings T.shC_Kin ga]
    have g1 := g.fldU (S' := { S with goi := S.com })
    have gr1 : Gr [a] H (upd H a (.ins A.c_Kin dx (shF (.kin x.m s' x.ap) c r hh b { S with goi := S.com }))) := Gr.refl.put (by simp)
    have ga := g1.ha
    generalize upd H a (.ins A.c_Kin dx (shF (.kin x.m s' x.ap) c r hh b { S with goi := S.com })) = H1 at g1 gr1 ga ⊢
    simp only [My.fld_least (T.shC_Kin) ga]
    walk_at "rd"
    rw [set_size T.shC_Kin ga]
    have g2 := g1.fldU (S' := { S with goi := S.com, j := S.jl })
    have gr2 : Gr [a] H (upd H1 a (.ins A.c_Kin dx (shF (.kin x.m s' x.ap) c r hh b { S with goi := S.com, j := S.jl }))) := gr1.put (by simp)
    generalize upd H1 a (.ins A.c_Kin dx (shF (.kin x.m s' x.ap) c r hh b { S with goi := S.com, j := S.jl })) = H2 at g2 gr2 ⊢
    refine ⟨by walk_at "sz", fun r' hr1 => ?_⟩
    have n2 := g2.ne
    have g3 := g2.ext (Same_upd (o := .lst []) (Same.refl _) hr1)
    have er : upd H2 r' (.lst []) r' = some (.lst []) := upd_same
    have fr : Fresh H r' := gr2.free _ hr1
    have gr3 : Gr [a] H (upd H2 r' (.lst [])) := gr2.new fr
    have nr : c ≠ r' ∧ r' ≠ hh ∧ r' ≠ b := ⟨hr1.ne g2.hc, (hr1.ne g2.hh).symm, (hr1.ne g2.hb).symm⟩
    generalize upd H2 r' (.lst []) = H3 at g3 er gr3 ⊢
    rw [set_row T.shC_Kin (ks := []) g3.ha]
    have g4 := g3.reR (ks := []) er rfl .nil nr
    have gr4 : Gr [a] H (upd H3 a (.ins A.c_Kin dx (shF (.kin x.m s' x.ap) c r' hh b { S with goi := S.com, j := S.jl, row := [] }))) := gr3.put (by simp)
    generalize upd H3 a (.ins A.c_Kin dx (shF (.kin x.m s' x.ap) c r' hh b { S with goi := S.com, j := S.jl, row := [] })) = H4 at g4 gr4 ⊢
    refine ⟨by walk_at "sz", fun h' hh1 => ?_⟩
    have g5 := g4.ext (Same_upd (o := .lst []) (Same.refl _) hh1)
    have eh : upd H4 h' (.lst []) h' = some (.lst []) := upd_same
    have fh : Fresh H h' := gr4.free _ hh1
    have gr5 : Gr [a] H (upd H4 h' (.lst [])) := gr4.new fh
    have nh : c ≠ h' ∧ r' ≠ h' ∧ h' ≠ b := ⟨hh1.ne g4.hc, hh1.ne g4.hr, (hh1.ne g4.hb).symm⟩
    generalize upd H4 h' (.lst []) = H5 at g5 eh gr5 ⊢
    rw [set_held T.shC_Kin (ks := []) g5.ha]
    have g6 := g5.reH (ks := []) eh rfl .nil nh
    have gr6 : Gr [a] H (upd H5 a (.ins A.c_Kin dx (shF (.kin x.m s' x.ap) c r' h' b { S with goi := S.com, j := S.jl, row := [], held := [] }))) := gr5.put (by simp)
    generalize upd H5 a (.ins A.c_Kin dx (shF (.kin x.m s' x.ap) c r' h' b { S with goi := S.com, j := S.jl, row := [], held := [] })) = H6 at g6 gr6 ⊢
    refine ⟨by walk_at "sz", fun b' hb1 => ?_⟩
    have g7 := g6.ext (Same_upd (o := .lst []) (Same.refl _) hb1)
    have eb : upd H6 b' (.lst []) b' = some (.lst (([] : List Int).map V.int)) := upd_same
    have fb : Fresh H b' := gr6.free _ hb1
    have gr7 : Gr [a] H (upd H6 b' (.lst [])) := gr6.new fb
    have nb : c ≠ b' ∧ r' ≠ b' ∧ h' ≠ b' := ⟨hb1.ne g6.hc, hb1.ne g6.hr, hb1.ne g6.hh⟩
    generalize upd H6 b' (.lst []) = H7 at g7 eb gr7 ⊢
    rw [set_born T.shC_Kin (cs := []) g7.ha]
    have g8 := g7.reB (ns := []) eb nb
    have gr8 : Gr [a] H (upd H7 a (.ins A.c_Kin dx (shF (.kin x.m s' x.ap) c r' h' b' { S with goi := S.com, j := S.jl, row := [], held := [], born := [] }))) := gr7.put (by simp)
    generalize upd H7 a (.ins A.c_Kin dx (shF (.kin x.m s' x.ap) c r' h' b' { S with goi := S.com, j := S.jl, row := [], held := [], born := [] })) = H8 at g8 gr8 ⊢
    have m8 := gm.keepG gr8 (fun y m xs e => by
      rw [List.mem_singleton] at m
      subst m
      rw [g.ha] at e
      cases e) (by simpa using ns1)
    have sub8 : Sub [a, c, r', h', b', s'] [a, c, r, hh, b, s'] H := fun x hx => by
      simp only [List.mem_cons, List.not_mem_nil, or_false] at hx
      rcases hx with rfl | rfl | rfl | rfl | rfl | rfl
      · exact .inl (by simp)
      · exact .inl (by simp)
      · exact .inr fr
      · exact .inr fh
      · exact .inr fb
      · exact .inl (by simp)
    obtain ⟨so, es, nso⟩ := gm.is
    have sf : ∀ z, Fresh H z → s' ≠ z := fun z f => f.ne es
    have g8' : VRaw H8 A.c_Kin a dx (.kin x.m s' x.ap) c r' h' b' S.emptied x.cells [] [] := ⟨g8.ha, g8.hc, g8.hr, g8.hh, g8.hb, g8.kr, g8.kh, g8.vr, g8.vh, g8.ne⟩
    obtain ⟨gw8, kp8⟩ := st _ [a, c, r', h', b', s'] (knT w A.c_Kin a S.emptied x) (gr8.mono (by simp)) sub8 ⟨dx, c, r', h', b', s', _, _, rfl, g8', m8, ⟨ns1, ns2, sf _ fr, sf _ fh, sf _ fb⟩⟩ knT_good
    have oke := ok.emptied
    refine ⟨⟨_, _, g8.ha, by with_unfolding_all rfl⟩, a, Hb, _, i, j, _, x, M, rfl, ⟨gw8, set_at hi, set_ne hj ij, ij⟩, (fun _ h => by cases h), ⟨ok.l3, ok.l12⟩, ?_, (fun p q k h1 => by simp [Sh.emptied] at h1), (fun _ y m => by cases m), fun H9 l _ gw9 kp9 se9 => ?_⟩
    · show ((0 : Nat) : Int) ≤ _
      have : (0 : Int) < 2 ^ S.jl := (pow_le (Nat.le_refl _)).1
      show (0 : Int) ≤ 2 * 2 ^ S.jl / 3
      omega
    · rw [set_set] at gw9
      refine k H9 l gw9 ⟨oke, fun e => ?_, se9⟩ (kp8.trans kp9)
      have e : x.ap = true := e
      show CWf S.emptied.row S.emptied.j (emptyCells S x)
      unfold emptyCells
      rw [if_pos e]
      exact cwf_nil ok.l3 ok.l12
theorem sc_Shelf___init__ : FnScope ["self", "size"] ["self", "size"] (defScope s_Shelf___init__) := ⟨rfl, rfl, rfl, by decide +kernel, rfl, by decide +kernel, by decide +kernel⟩
theorem ok_Shelf_initP {P : Program} {w : World} {K : PySem.W.Frag} {mg : Str → Option Value} {base : Heap} {A : Ad} (T : Txt K mg A) : FnOk P w K mg base CX0 7 A.a_Shelf___init__ A.d_Shelf___init__ ["self", "size"] (spInitP K) := by
  refine T.F_Shelf___init__.ok sc_Shelf___init__ (fun vs H Q E h => ?_) (fun cdv A' outer s H vs Q E hr h => ?_)
  · exact len_initP h
  · have nd := sc_Shelf___init__.nd
    have hu := hu_of hr
    refine ⟨_, (pss_cons (ps_fld (pv 0) (pe_call (ok_cells_of (P := P) (w := w) T) (hr.mono (by decide)) rfl T.m_cells_of T.F_cells_of.kp T.b_cells_of .nil pass0 (pa_cons (pe_lst pa_nil) (pa_cons (pv 1) pa_nil))) rfl) (pss_cons (ps_fld (pv 0) (pv 1) rfl) (pss_cons (ps_fld (pv 0) (pv 1) rfl) (pss_cons (ps_fld (pv 0) (pe_lst pa_nil) rfl) (pss_cons (ps_fld (pv 0) (pe_lst pa_nil) rfl) (pss_cons (ps_fld (pv 0) (pe_lst pa_nil) rfl) (pss_cons (ps_fld (pv 0) pe_int rfl) (pss_cons (ps_fld (pv 0) pe_int rfl) (pss_cons (ps_fld (pv 0) pe_int rfl) (pss_one (ps_fld (pv 0) pe_int rfl))))))))))), ?_⟩
    clear nd
    obtain ⟨C, a, dx, pp, j, ck, rfl, ha, ⟨j3, j12⟩, k⟩ := h
    have k0 := cwf_nil j3 j12
    walk_at "rd"
    refine ⟨by walk_at "sz", fun p hp => ?_⟩
    refine ⟨p, [], [], j, rfl, SqL.of upd_same, .nil, (fun _ h => by cases h), ⟨j3, j12, by simp; have := (pow_le (Nat.le_refl j)).1; omega⟩, fun c H1 s1 fc hc => ?_⟩
    have s01 : Same H H1 := (Same_upd (Same.refl _) hp).trans s1
    have fc0 : Fresh H c := Same_fresh (Same_upd (Same.refl _) hp) fc
    have hA := s01 _ _ ha
    have gr1 : Gr [a] H H1 := Gr.of s01
    have nca : c ≠ a := (fc0.ne ha).symm
    have fs : ∀ (X : Hp) (o : HO), upd X a o a = some o := fun X o => upd_same
    refine setAt_go (gs := preF pp ++ ([("cells", .ref c)] : List (Str × V))) hA ck.cls ck.cells (by cases pp <;> simp [preF]) (by cases pp <;> with_unfolding_all rfl) fun H2 e2 hA => ?_
    have hc2 : H2 c = some (.lst ((layN j [] 0).map V.int)) := by rw [e2, upd_ne nca]; exact hc
    have gr2 : Gr [a] H H2 := by rw [e2]; exact gr1.put (by simp)
    clear e2
    refine setAt_go (gs := preF pp ++ ([("cells", .ref c), ("size", .int (2 ^ j))] : List (Str × V))) hA ck.cls ck.size (by cases pp <;> simp [preF]) (by cases pp <;> with_unfolding_all rfl) fun H3 e3 hA => ?_
    refine setAt_go (gs := preF pp ++ ([("cells", .ref c), ("size", .int (2 ^ j)), ("least", .int (2 ^ j))] : List (Str × V))) hA ck.cls ck.least (by cases pp <;> simp [preF]) (by cases pp <;> with_unfolding_all rfl) fun H4 e4 hA => ?_
    have hc4 : H4 c = some (.lst ((layN j [] 0).map V.int)) := by rw [e4, e3, upd_ne nca, upd_ne nca]; exact hc2
    have gr4 : Gr [a] H H4 := by rw [e4, e3]; exact (gr2.put (by simp)).put (by simp)
    clear e3 e4
    refine ⟨by walk_at "sz", fun r hr1 => ?_⟩
    have nrc : c ≠ r := hr1.ne hc4
    have nra : a ≠ r := hr1.ne hA
    have hA5 : upd H4 r (.lst []) a = _ := (upd_ne nra).trans hA
    refine setAt_go (gs := preF pp ++ ([("cells", .ref c), ("size", .int (2 ^ j)), ("least", .int (2 ^ j)), ("row", .ref r)] : List (Str × V))) hA5 ck.cls ck.row (by cases pp <;> simp [preF]) (by cases pp <;> with_unfolding_all rfl) fun H6 e6 hA => ?_
    have hc6 : H6 c = some (.lst ((layN j [] 0).map V.int)) := by rw [e6, upd_ne nca, upd_ne nrc]; exact hc4
    have hr6 : H6 r = some (.lst []) := by rw [e6, upd_ne nra.symm]; exact upd_same
    have fr0 : Fresh H r := gr4.free _ hr1
    have gr6 : Gr [a] H H6 := by rw [e6]; exact (gr4.new fr0).put (by simp)
    clear e6 hA5
    refine ⟨by walk_at "sz", fun h' hh1 => ?_⟩
    have nhc : c ≠ h' := hh1.ne hc6
    have nha : a ≠ h' := hh1.ne hA
    have nhr : r ≠ h' := hh1.ne hr6
    have hA7 : upd H6 h' (.lst []) a = _ := (upd_ne nha).trans hA
    refine setAt_go (gs := preF pp ++ ([("cells", .ref c), ("size", .int (2 ^ j)), ("least", .int (2 ^ j)), ("row", .ref r), ("held", .ref h')] : List (Str × V))) hA7 ck.cls ck.held (by cases pp <;> simp [preF]) (by cases pp <;> with_unfolding_all rfl) fun H8 e8 hA => ?_
    have hc8 : H8 c = some (.lst ((layN j [] 0).map V.int)) := by rw [e8, upd_ne nca, upd_ne nhc]; exact hc6
    have hr8 : H8 r = some (.lst []) := by rw [e8, upd_ne nra.symm, upd_ne nhr]; exact hr6
    have hh8 : H8 h' = some (.lst []) := by rw [e8, upd_ne nha.symm]; exact upd_same
    have fh0 : Fresh H h' := gr6.free _ hh1
    have gr8 : Gr [a] H H8 := by rw [e8]; exact (gr6.new fh0).put (by simp)
    clear e8 hA7
    refine ⟨by walk_at "sz", fun b' hb1 => ?_⟩
    have nbc : c ≠ b' := hb1.ne hc8
    have nba : a ≠ b' := hb1.ne hA
    have nbr : r ≠ b' := hb1.ne hr8
    have nbh : h' ≠ b' := hb1.ne hh8
    have hA9 : upd H8 b' (.lst []) a = _ := (upd_ne nba).trans hA
    refine setAt_go (gs := preF pp ++ ([("cells", .ref c), ("size", .int (2 ^ j)), ("least", .int (2 ^ j)), ("row", .ref r), ("held", .ref h'), ("born", .ref b')] : List (Str × V))) hA9 ck.cls ck.born (by cases pp <;> simp [preF]) (by cases pp <;> with_unfolding_all rfl) fun H10 e10 hA => ?_
    have hc10 : H10 c = some (.lst ((layN j [] 0).map V.int)) := by rw [e10, upd_ne nca, upd_ne nbc]; exact hc8
    have hr10 : H10 r = some (.lst []) := by rw [e10, upd_ne nra.symm, upd_ne nbr]; exact hr8
    have hh10 : H10 h' = some (.lst []) := by rw [e10, upd_ne nha.symm, upd_ne nbh]; exact hh8
    have hb10 : H10 b' = some (.lst []) := by rw [e10, upd_ne nba.symm]; exact upd_same
    have fb0 : Fresh H b' := gr8.free _ hb1
    have gr10 : Gr [a] H H10 := by rw [e10]; exact (gr8.new fb0).put (by simp)
    clear e10 hA9
    refine setAt_go (gs := preF pp ++ ([("cells", .ref c), ("size", .int (2 ^ j)), ("least", .int (2 ^ j)), ("row", .ref r), ("held", .ref h'), ("born", .ref b'), ("comings", .int 0)] : List (Str × V))) hA ck.cls ck.comings (by cases pp <;> simp [preF]) (by cases pp <;> with_unfolding_all rfl) fun H11 e11 hA => ?_
    refine setAt_go (gs := preF pp ++ ([("cells", .ref c), ("size", .int (2 ^ j)), ("least", .int (2 ^ j)), ("row", .ref r), ("held", .ref h'), ("born", .ref b'), ("comings", .int 0), ("goings", .int 0)] : List (Str × V))) hA ck.cls ck.goings (by cases pp <;> simp [preF]) (by cases pp <;> with_unfolding_all rfl) fun H12 e12 hA => ?_
    refine setAt_go (gs := preF pp ++ ([("cells", .ref c), ("size", .int (2 ^ j)), ("least", .int (2 ^ j)), ("row", .ref r), ("held", .ref h'), ("born", .ref b'), ("comings", .int 0), ("goings", .int 0), ("tidied", .int 0)] : List (Str × V))) hA ck.cls ck.tidied (by cases pp <;> simp [preF]) (by cases pp <;> with_unfolding_all rfl) fun H13 e13 hA => ?_
    refine setAt_go (gs := shF pp c r h' b' (Sh.new j)) hA ck.cls ck.moved (by cases pp <;> simp [preF]) (by cases pp <;> with_unfolding_all rfl) fun H14 e14 hA => ?_
    have oth : ∀ x, x ≠ a → H14 x = H10 x := fun x n => by rw [e14, e13, e12, e11, upd_ne n, upd_ne n, upd_ne n, upd_ne n]
    have gr14 : Gr [a] H H14 := by rw [e14, e13, e12, e11]; exact (((gr10.put (by simp)).put (by simp)).put (by simp)).put (by simp)
    refine k H14 [a, c, r, h', b'] gr14 (fun x hx => ?_) ⟨dx, c, r, h', b', [], [], rfl, ⟨hA, by rw [oth c nca]; exact hc10, by rw [oth r nra.symm]; exact hr10, by rw [oth h' nha.symm]; exact hh10, by rw [oth b' nba.symm]; exact hb10, .nil, .nil, rfl, rfl, ⟨nrc, nhc, nbc, nhr, nbr, nbh⟩⟩, Sh.new_ok j3 j12⟩
    simp only [List.mem_cons, List.not_mem_nil, or_false] at hx
    rcases hx with rfl | rfl | rfl | rfl | rfl
    · exact .inl (by simp)
    · exact .inr fc0
    · exact .inr fr0
    · exact .inr fh0
    · exact .inr fb0
theorem sc_Table___init__ : FnScope ["self"] ["self"] (defScope s_Table___init__) := ⟨rfl, rfl, rfl, by decide +kernel, rfl, by decide +kernel, by decide +kernel⟩
theorem ok_Table_initP {P : Program} {w : World} {K : PySem.W.Frag} {mg : Str → Option Value} {base : Heap} {A : Ad} (T : Txt K mg A) : FnOk P w K mg base CX0 8 A.a_Table___init__ A.d_Table___init__ ["self"] (spInitTP K) := by
  refine T.F_Table___init__.ok sc_Table___init__ (fun vs H Q E h => ?_) (fun cdv A' outer s H vs Q E hr h => ?_)
  · exact len_initTP h
  · have nd := sc_Table___init__.nd
    have hu := hu_of hr
    refine ⟨_, (pss_one (ps_expr (pe_cfun (pe_glob (v := .ref A.c_Shelf) rfl T.m_Shelf rfl) T.cr_Shelf T.cf_Shelf_init__ T.F_Shelf___init__.kp (ok_Shelf_initP T) (hr.mono (by decide)) T.b_Shelf___init___2.choose_spec.2 T.b_Shelf___init___2.choose_spec.1 pass0 (pa_cons (pv 0) (pa_cons (pe_glob (v := .int 8) rfl T.g_LEAST ⟨_, rfl⟩) pa_nil))))), ?_⟩
    clear nd
    obtain ⟨C, a, dx, pp, ck, rfl, ha, k⟩ := h
    walk_at "rd"
    exact ⟨_, a, dx, pp, 3, ck, rfl, ha, by decide, fun H' fp gr sb hS => k H' fp gr sb hS⟩
theorem sc_Kin___init__ : FnScope ["self", "maker"] ["self", "maker"] (defScope s_Kin___init__) := ⟨rfl, rfl, rfl, by decide +kernel, rfl, by decide +kernel, by decide +kernel⟩
theorem ok_Kin___init__ {P : Program} {w : World} {K : PySem.W.Frag} {mg : Str → Option Value} {base : Heap} {A : Ad} (T : Txt K mg A) : FnOk P w K mg base CX0 9 A.a_Kin___init__ A.d_Kin___init__ ["self", "maker"] (spKInit w A.c_Kin) := by
  refine T.F_Kin___init__.ok sc_Kin___init__ (fun vs H Q E h => ?_) (fun cdv A' outer s H vs Q E hr h => ?_)
  · exact len_kinit h
  · have nd := sc_Kin___init__.nd
    have hu := hu_of hr
    refine ⟨_, (pss_cons (ps_fld (pv 0) (pv 1) rfl) (pss_cons (ps_fld (pv 0) (pe_dnewMK w rfl) rfl) (pss_cons (ps_fld (pv 0) pe_bl rfl) (pss_one (ps_expr (pe_cfun (pe_glob (v := .ref A.c_Table) rfl T.m_Table rfl) T.cr_Table T.cf_Table_init__ T.F_Table___init__.kp (ok_Table_initP T) (hr.mono (by decide)) T.b_Table___init__ .nil pass0 (pa_cons (pv 0) pa_nil))))))), ?_⟩
    clear nd
    obtain ⟨a, m, Hb, ts, i, rfl, gw, hi, k⟩ := h
    have ck := T.knC
    obtain ⟨fp, ⟨rfl, dx, h1⟩, st⟩ := gw.at hi
    walk_at "rd"
    refine setAt_go (gs := ([("maker", .ref m)] : List (Str × V))) h1 ck.sh.cls ck.maker (by simp) (by with_unfolding_all rfl) fun H2 e2 hA2 => ?_
    have gr2 : Gr [a] H H2 := by rw [e2]; exact Gr.refl.put (by simp)
    clear e2
    walk_at "rd"
    refine fun s o fs mx => ?_
    have s3 := Same_upd (o := o) (Same.refl H2) fs
    have gr3 : Gr [a] H (upd H2 s o) := gr2.trans (Gr.of s3)
    have hA3 := s3 _ _ hA2
    have na : s ≠ a := (fs.ne hA2).symm
    generalize upd H2 s o = H3 at s3 gr3 hA3 mx ⊢
    refine setAt_go (gs := ([("maker", .ref m), ("seats", .ref s)] : List (Str × V))) hA3 ck.sh.cls ck.seats (by simp) (by with_unfolding_all rfl) fun H4 e4 hA4 => ?_
    have m4 : MixAt w H4 s [] [] := by rw [e4]; exact mx.away hA3 (fun _ z => by cases z) na
    have gr4 : Gr [a] H H4 := by rw [e4]; exact gr3.put (by simp)
    clear e4 mx
    refine setAt_go (gs := preF (.kin m s false)) hA4 ck.sh.cls ck.apart (by simp) (by with_unfolding_all rfl) fun H5 e5 hA5 => ?_
    have m5 : MixAt w H5 s [] [] := by rw [e5]; exact m4.away hA4 (fun _ z => by cases z) na
    have gr5 : Gr [a] H H5 := by rw [e5]; exact gr4.put (by simp)
    clear e5 m4
    walk_at "rd"
    refine ⟨A.c_Kin, a, dx, _, ck.sh, rfl, hA5, fun H6 fp6 gr6 sub6 hS => ?_⟩
    obtain ⟨dx, c, r, hh, b, ws, us, rfl, g, ok⟩ := hS
    obtain ⟨so, es, nso⟩ := m5.is
    have m6 := m5.keepG gr6 (fun y m xs e => by
      rw [List.mem_singleton] at m
      subst m
      rw [hA5] at e
      cases e) (by simpa using na)
    have nn : s ∉ [a, c, r, hh, b] := sub6.not es (by simpa using na)
    simp only [List.mem_cons, List.not_mem_nil, or_false, not_or] at nn
    obtain ⟨gw7, kp7⟩ := st H6 [a, c, r, hh, b, s] (knT w A.c_Kin a (Sh.new 3) ⟨m, false, [], (Sh.new 3).cells⟩) (gr5.trans gr6) (fun x hx => by
      simp only [List.mem_cons, List.not_mem_nil, or_false] at hx
      rcases hx with rfl | rfl | rfl | rfl | rfl | rfl
      · exact .inl (by simp)
      · exact (sub6 _ (by simp)).imp id fun f => gr5.free _ f
      · exact (sub6 _ (by simp)).imp id fun f => gr5.free _ f
      · exact (sub6 _ (by simp)).imp id fun f => gr5.free _ f
      · exact (sub6 _ (by simp)).imp id fun f => gr5.free _ f
      · exact .inr (gr2.free _ fs)) ⟨dx, c, r, hh, b, s, ws, us, rfl, g.vup rfl, m6, ⟨nn.1, nn.2.1, nn.2.2.1, nn.2.2.2.1, nn.2.2.2.2⟩⟩ knT_good
    exact k H6 _ gw7 kp7 fun M => ⟨ok, (fun e => by cases e), fun _ => ⟨fun p y e _ => by simp [Sh.new] at e, fun n p m => (by cases m), Nat.zero_le _⟩⟩
theorem sc_Maker_paper : FnScope ["self", "key"] ["self", "key"] (defScope s_Maker_paper) := ⟨rfl, rfl, rfl, by decide +kernel, rfl, by decide +kernel, by decide +kernel⟩
theorem ok_Maker_paper {P : Program} {w : World} {K : PySem.W.Frag} {mg : Str → Option Value} {base : Heap} {A : Ad} (T : Txt K mg A) : FnOk P w K mg base (L2N.CX P w) 7 A.a_Maker_paper A.d_Maker_paper ["self", "key"] (spMkPaper A.c_Maker A.c_NoKey) := by
  refine My.okN T.F_Maker_paper sc_Maker_paper (fun vs H Q E h => ?_) (fun cdv A' outer s H vs Q E hr h => ?_)
  · exact len_mkPaper h
  · have nd := sc_Maker_paper.nd
    have hu := hu_of hr
    refine ⟨_, (pss_one (ps_ret (pe_call (ok_paper (P := P) (w := w) T) (hr.mono (by decide)) rfl T.m_paper_slots T.F_paper.kp T.b_paper .nil pass0 (pa_cons (pe_fld (pv 0) rfl) (pa_cons (pe_fld (pv 0) rfl) (pa_cons (pe_call (ok_checked (P := P) (w := w) T) (hr.mono (by decide)) rfl T.m_checked T.F_checked.kp T.b_checked .nil (L2N.passes_call (L2N.takes_of rfl rfl rfl rfl) fun _ _ _ _ h => h) (pa_cons (pv 1) pa_nil)) pa_nil)))))), ?_⟩
    clear nd
    obtain ⟨a, Hb, ts, i, M, v, y, rfl, gw, hi, hy, hf, hw, k1, k2⟩ := h
    have gw0 := gw
    obtain ⟨fp, ⟨dx, r, c, ws, rfl, ne, h1, h2, h3, h4, ok⟩, st⟩ := gw.mkr hi
    have ck := T.mkC
    have fr : ∀ (Q : VK), FldAt K H a "row" Q = Q (.ref r) H := fun Q => fldAt h1 ck.cls ck.row (by with_unfolding_all rfl)
    have fc : ∀ (Q : VK), FldAt K H a "cells" Q = Q (.ref c) H := fun Q => fldAt h1 ck.cls ck.cells (by with_unfolding_all rfl)
    have rok : RowOk M.row := ok.cw.rok
    walk_at "rd"
    rw [fc, fr]
    refine ⟨v, y, rfl, hy, hf, fun e => ?_, k1⟩
    have yk := hw e
    exact ⟨_, _, _, M.cells, ws, M.row, y, 5, rfl, SqL.of h3, SqL.of h2, h4, hy, rok, yk, ⟨ok.cw.len, ok.cw.j12⟩, ok.cw.ok, fun p H' xs s f e hx => k2 yk p H' xs s f e hx⟩
theorem sc_Kin_paper : FnScope ["self", "key"] ["self", "key"] (defScope s_Kin_paper) := ⟨rfl, rfl, rfl, by decide +kernel, rfl, by decide +kernel, by decide +kernel⟩
theorem ok_Kin_paper {P : Program} {w : World} {K : PySem.W.Frag} {mg : Str → Option Value} {base : Heap} {A : Ad} (T : Txt K mg A) : FnOk P w K mg base (L2N.CX P w) 8 A.a_Kin_paper A.d_Kin_paper ["self", "key"] (spKPaper w A.c_Kin A.c_Maker A.c_NoKey) := by
  refine My.okN T.F_Kin_paper sc_Kin_paper (fun vs H Q E h => ?_) (fun cdv A' outer s H vs Q E hr h => ?_)
  · exact len_kpaper h
  · have nd := sc_Kin_paper.nd
    have hu := hu_of hr
    refine ⟨_, (pss_cons (ps_if (pt_not (pt_val (pe_fld (pv 0) rfl))) (pss_one (ps_ret (pe_meth (pe_fld (pv 0) rfl) T.cl_Maker T.me_Maker_paper (ok_Maker_paper (P := P) (w := w) T) (hr.mono (by decide)) T.b_Maker_paper .nil (L2N.passes_call (L2N.takes_of rfl rfl rfl rfl) fun _ _ _ _ h => h) (pa_cons (pv 1) pa_nil)))) pss_nil) (pss_one (ps_ret (pe_call (ok_paper (P := P) (w := w) T) (hr.mono (by decide)) rfl T.m_paper_slots T.F_paper.kp T.b_paper .nil pass0 (pa_cons (pe_fld (pv 0) rfl) (pa_cons (pe_fld (pv 0) rfl) (pa_cons (pe_call (ok_checked (P := P) (w := w) T) (hr.mono (by decide)) rfl T.m_checked T.F_checked.kp T.b_checked .nil (L2N.passes_call (L2N.takes_of rfl rfl rfl rfl) fun _ _ _ _ h => h) (pa_cons (pv 1) pa_nil)) pa_nil))))))), ?_⟩
    clear nd
    obtain ⟨a, Hb, ts, i, j, S, x, M, v, y, rfl, ke, kr, hy, hf, hw, k1, k2⟩ := h
    have ok := kr.ok
    have KE0 := ke
    obtain ⟨gw, hi, hj, ij⟩ := ke
    obtain ⟨fp, ⟨dx, c, r, hh, b, s', ws, us, rfl, g⟩, st⟩ := gw.at hi
    have ga := g.v.ha
    walk_at "rd"
    rw [kn_apart T.knC ga]
    walk_at "rd"
    cases eap : x.ap with
    | true =>
      have cw := kr.cw eap
      refine iteN (by simp) ?_
      simp only [My.fld_cells (T.shC_Kin) ga, My.fld_row (T.shC_Kin) ga]
      walk_at "rd"
      refine ⟨v, y, rfl, hy, hf, fun e => ?_, k1⟩
      have yk := hw e
      have k := k2 yk
      rw [eap, if_pos rfl] at k
      exact ⟨_, _, _, x.cells, ws, S.row, y, S.j, rfl, SqL.of g.v.hc, SqL.of g.v.hr, g.v.kr, hy, cw.rok, yk, ⟨cw.len, cw.j12⟩, cw.ok, fun L H9 xs s9 fL hp hx => k H9 L xs s9 fL hp hx⟩
    | false =>
      refine iteP rfl ?_
      rw [kn_maker T.knC ga]
      walk_at "rd"
      refine ⟨gw.mkMet hj (fun _ _ => by with_unfolding_all rfl), x.m, Hb, ts, j, M, v, y, rfl, gw, hj, hy, hf, hw, k1, fun yk p H1 xs s1 fp ep hx => ?_⟩
      have k := k2 yk
      rw [eap, if_neg (by decide)] at k
      exact k H1 p xs s1 fp ep hx
theorem sc_Kin_parted : FnScope ["self"] ["self"] (defScope s_Kin_parted) := ⟨rfl, rfl, rfl, by decide +kernel, rfl, by decide +kernel, by decide +kernel⟩
theorem ok_Kin_parted {P : Program} {w : World} {K : PySem.W.Frag} {mg : Str → Option Value} {base : Heap} {A : Ad} (T : Txt K mg A) : FnOk P w K mg base CX0 1 A.a_Kin_parted A.d_Kin_parted ["self"] (spKParted w A.c_Kin) := by
  refine T.F_Kin_parted.ok sc_Kin_parted (fun vs H Q E h => ?_) (fun cdv A' outer s H vs Q E hr h => ?_)
  · exact len_kparted h
  · have nd := sc_Kin_parted.nd
    have hu := hu_of hr
    refine ⟨_, (pss_one (ps_ret (pe_fld (pv 0) rfl))), ?_⟩
    clear nd
    obtain ⟨a, fp, S, x, rfl, ⟨dx, c, r, hh, b, s', ws, us, rfl, g⟩, k⟩ := h
    have ga := g.v.ha
    walk_at "rd"
    rw [kn_apart T.knC ga]
    exact k

end Law
namespace Law
open PySem PySem.Spec PyProof.Rows L2 My
theorem Txt.shC_Table {K : PySem.W.Frag} {mg : Str → Option Value} {A : Ad} (T : Txt K mg A) : ShC K A.c_Table := ⟨T.cl_Table, T.na_Table_cells, T.na_Table_size, T.na_Table_least, T.na_Table_row, T.na_Table_held, T.na_Table_born, T.na_Table_comings, T.na_Table_goings, T.na_Table_tidied, T.na_Table_moved⟩
theorem sc_Shelf_relay : FnScope ["self"] ["self"] (defScope s_Shelf_relay) := ⟨rfl, rfl, rfl, by decide +kernel, rfl, by decide +kernel, by decide +kernel⟩
theorem ok_Table_relay {P : Program} {w : World} {K : PySem.W.Frag} {mg : Str → Option Value} {base : Heap} {A : Ad} (T : Txt K mg A) : FnOk P w K mg base CX0 7 A.a_Shelf_relay A.d_Shelf_relay ["self"] (spRelay A.c_Table) := by
  refine T.F_Shelf_relay.ok sc_Shelf_relay (fun vs H Q E h => ?_) (fun cdv A' outer s H vs Q E hr h => ?_)
  · exact len_relay h
  · have nd := sc_Shelf_relay.nd
    have hu := hu_of hr
    refine ⟨_, (pss_one (ps_fld (pv 0) (pe_call (ok_cells_of (P := P) (w := w) T) (hr.mono (by decide)) rfl T.m_cells_of T.F_cells_of.kp T.b_cells_of .nil pass0 (pa_cons (pe_fld (pv 0) rfl) (pa_cons (pe_fld (pv 0) rfl) pa_nil))) rfl)), ?_⟩
    clear nd
    obtain ⟨a, dx, p, c, r, hh, b, S, ws, us, rfl, g, hR, ⟨j3, j12⟩, hl, k⟩ := h
    have ga := g.ha
    walk_at "rd"
    simp only [My.fld_row (T.shC_Table) ga, My.fld_size (T.shC_Table) ga]
    walk_at "rd"
    refine ⟨r, ws, S.row, S.j, rfl, SqL.of g.hr, g.kr, hR, ⟨j3, j12, hl⟩, fun c' H1 s1 fc hc => ?_⟩
    have g1 := g.ext s1
    have ga1 := g1.ha
    dsimp only
    rw [set_cells T.shC_Table (cs := layN S.j S.row S.row.length) ga1]
    have g2 := g1.reC (c' := c') (cs := layN S.j S.row S.row.length) hc ⟨(fc.ne g.hr).symm, (fc.ne g.hh).symm, (fc.ne g.hb).symm⟩
    exact k _ c' ((Gr.of s1).put (by simp)) fc g2
theorem ok_Table_make_room {P : Program} {w : World} {K : PySem.W.Frag} {mg : Str → Option Value} {base : Heap} {A : Ad} (T : Txt K mg A) : FnOk P w K mg base CX0 8 A.a_Table_make_room A.d_Table_make_room ["self"] (spRoomT A.c_Table) := by
  refine T.F_Table_make_room.ok sc_Table_make_room (fun vs H Q E h => ?_) (fun cdv A' outer s H vs Q E hr h => ?_)
  · exact len_roomT h
  · have nd := sc_Table_make_room.nd
    have hu := hu_of hr
    refine ⟨_, (pss_cons (ps_asg (pe_call (ok_packed (P := P) (w := w) T) (hr.mono (by decide)) rfl T.m_packed T.F_packed.kp T.b_packed .nil pass0 (pa_cons (pe_fld (pv 0) rfl) (pa_cons (pe_fld (pv 0) rfl) pa_nil))) (pg_tup (n := 2) rfl (pgs_cons (pg_name (i := 1) nd rfl (Or.inl rfl)) (pgs_cons (pg_name (i := 2) nd rfl (Or.inl rfl)) pgs_nil)))) (pss_cons (ps_asg (pe_call (ok_packed (P := P) (w := w) T) (hr.mono (by decide)) rfl T.m_packed T.F_packed.kp T.b_packed .nil pass0 (pa_cons (pe_fld (pv 0) rfl) (pa_cons (pe_fld (pv 0) rfl) pa_nil))) (pg_tup (n := 2) rfl (pgs_cons (pg_name (i := 1) nd rfl (Or.inl rfl)) (pgs_cons (pg_name (i := 3) nd rfl (Or.inl rfl)) pgs_nil)))) (pss_cons (ps_fld (pv 0) (pv 1) rfl) (pss_cons (ps_fld (pv 0) (pv 2) rfl) (pss_cons (ps_fld (pv 0) (pv 3) rfl) (pss_cons (ps_fld (pv 0) (pe_call (ok_size_for (P := P) (w := w) T) (hr.mono (by decide)) rfl T.m_size_for T.F_size_for.kp T.b_size_for .nil pass0 (pa_cons (pe_callB call_lenU rfl T.n_len PySem.boot_len (pa_cons (pv 1) pa_nil)) pa_nil)) rfl) (pss_cons (ps_expr (pe_meth0 (pv 0) T.cl_Table T.me_Table_relay (ok_Table_relay (P := P) (w := w) T) (hr.mono (by decide)) T.b_Shelf_relay .nil pass0)) (pss_cons (ps_fldaug (pv 0) pe_int in_add) (pss_one (ps_fldaug (pv 0) (pe_callB call_lenU rfl T.n_len PySem.boot_len (pa_cons (pv 1) pa_nil)) in_add)))))))))), ?_⟩
    clear nd
    obtain ⟨a, p, fp, S, rfl, hS, ln, k⟩ := h
    obtain ⟨dx, c, r, hh, b, ws, us, rfl, g, ok⟩ := hS
    have ga := g.ha
    have hl := ok.hl
    have hb := ok.bl
    have lt := ok.cw.lt
    have e1 := keptK_lv S.row S.held
    have e2 : (keptK S.row (S.born.map Ky.num)).1 = S.lv.map Prod.fst := by rw [kept1_eq S.row S.held S.born hl hb, e1]; rfl
    have e3 := keptI_nums S.row S.born
    walk_at "rd"
    simp only [My.fld_row (T.shC_Table) ga, My.fld_held (T.shC_Table) ga]
    walk_at "rd"
    refine ⟨r, hh, ws, us, S.row, S.held, rfl, SqL.of g.hr, SqL.of g.hh, g.kr, g.kh, ⟨g.vr, g.vh⟩, by omega, hl.symm, fun t1 r1 h1 wr1 wh1 H1 s1 n1 fr1 fh1 ht1 hr1 hh1 kr1 kh1 => ?_⟩
    rw [e1] at kr1 kh1
    have g1 := g.ext s1
    have ga1 := g1.ha
    walk_at "rd"
    refine ⟨_, SqT.of ht1, rfl, ?_⟩
    walk_at "rd"
    simp only [My.fld_row (T.shC_Table) ga1, My.fld_born (T.shC_Table) ga1]
    walk_at "rd"
    refine ⟨r, b, ws, S.born.map V.int, S.row, S.born.map Ky.num, rfl, SqL.of g1.hr, SqL.of g1.hb, g1.kr, nums_at _, ⟨g.vr, vals_nums _⟩, by omega, by rw [List.length_map]; omega, fun t2 r2 b2 wr2 wb2 H2 s2 n2 fr2 fb2 ht2 hr2 hb2 kr2 kb2 => ?_⟩
    rw [e2] at kr2
    rw [e3] at kb2
    have eb := kys_ints kb2
    subst eb
    walk_at "rd"
    refine ⟨_, SqT.of ht2, rfl, ?_⟩
    walk_at "rd"
    have g2 := g1.ext s2
    have ga2 := g2.ha
    have v1 : Ky.vals (S.lv.map Prod.fst) = true := vals_iff.mpr fun q hq => by
      obtain ⟨x, hx, rfl⟩ := List.mem_map.mp hq
      exact vals_iff.mp g.vr _ (lvP_key hx).1
    have v2 : Ky.vals (S.lv.map Prod.snd) = true := vals_iff.mpr fun q hq => by
      obtain ⟨x, hx, rfl⟩ := List.mem_map.mp hq
      exact vals_iff.mp g.vh _ (lvP_key hx).2.1
    have rk : RowOk (S.lv.map Prod.fst) := fun q hq => by
      obtain ⟨x, hx, rfl⟩ := List.mem_map.mp hq
      exact ok.cw.rok _ (lvP_key hx).1
    have lw2 := KysAt.len kr2
    rw [List.length_map] at lw2
    have nt : ∀ {S' : Sh} {c r h b : Addr} xs, HO.ins A.c_Table dx (shF p c r h b S') ≠ .tup xs := fun _ z => by cases z
    have gr2 : Gr [a] H H2 := Gr.of (s1.trans s2)
    have hh2 := s2 _ _ hh1
    have kh2 : KysAt H2 wh1 (S.lv.map Prod.snd) := kh1.same s2 _ _
    have na : a ≠ h1 := fh1.ne g.ha
    have nb : a ≠ b2 := fb2.ne g1.ha
    rw [set_row T.shC_Table (ks := S.lv.map Prod.fst) ga2]
    have g3 := g2.reR (ks := S.lv.map Prod.fst) hr2 v1 kr2 ⟨fr2.ne g1.hc, (fr2.ne g1.hh).symm, (fr2.ne g1.hb).symm⟩
    have gr3 : Gr [a] H (upd H2 a (.ins A.c_Table dx (shF p c r2 hh b { S with row := S.lv.map Prod.fst }))) := gr2.put (by simp)
    have hh3 : upd H2 a (.ins A.c_Table dx (shF p c r2 hh b { S with row := S.lv.map Prod.fst })) h1 = some (.lst wh1) := by rw [upd_ne na.symm]; exact hh2
    have hb3 : upd H2 a (.ins A.c_Table dx (shF p c r2 hh b { S with row := S.lv.map Prod.fst })) b2 = some (.lst ((keptI S.row S.born).map V.int)) := by rw [upd_ne nb.symm]; exact hb2
    have kh3 : KysAt (upd H2 a (.ins A.c_Table dx (shF p c r2 hh b { S with row := S.lv.map Prod.fst }))) wh1 (S.lv.map Prod.snd) := kys_upd ga2 nt v2 kh2
    generalize upd H2 a (.ins A.c_Table dx (shF p c r2 hh b { S with row := S.lv.map Prod.fst })) = H3 at g3 gr3 hh3 hb3 kh3 ⊢
    rw [set_held T.shC_Table (ks := S.lv.map Prod.snd) g3.ha]
    have g4 := g3.reH (ks := S.lv.map Prod.snd) hh3 v2 kh3 ⟨fh1.ne g.hc, (fr2.ne hh1).symm, (fh1.ne g.hb).symm⟩
    have gr4 : Gr [a] H (upd H3 a (.ins A.c_Table dx (shF p c r2 h1 b { S with row := S.lv.map Prod.fst, held := S.lv.map Prod.snd }))) := gr3.put (by simp)
    have hb4 : upd H3 a (.ins A.c_Table dx (shF p c r2 h1 b { S with row := S.lv.map Prod.fst, held := S.lv.map Prod.snd })) b2 = some (.lst ((keptI S.row S.born).map V.int)) := by rw [upd_ne nb.symm]; exact hb3
    generalize upd H3 a (.ins A.c_Table dx (shF p c r2 h1 b { S with row := S.lv.map Prod.fst, held := S.lv.map Prod.snd })) = H4 at g4 gr4 hb4 ⊢
    rw [set_born T.shC_Table (cs := keptI S.row S.born) g4.ha]
    have g5 := g4.reB (cs := keptI S.row S.born) hb4 ⟨fb2.ne g1.hc, n2, fb2.ne hh1⟩
    have gr5 : Gr [a] H (upd H4 a (.ins A.c_Table dx (shF p c r2 h1 b2 { S with row := S.lv.map Prod.fst, held := S.lv.map Prod.snd, born := keptI S.row S.born }))) := gr4.put (by simp)
    generalize upd H4 a (.ins A.c_Table dx (shF p c r2 h1 b2 { S with row := S.lv.map Prod.fst, held := S.lv.map Prod.snd, born := keptI S.row S.born })) = H5 at g5 gr5 ⊢
    refine ⟨_, .inl (SqL.of g5.hr), _, rfl, ⟨by omega, by omega⟩, fun j jr q1 q2 => ?_⟩
    rw [lw2] at q1 q2
    have ej := szJ_at jr q1 q2
    subst ej
    rw [set_size T.shC_Table g5.ha]
    have g6 := g5.fldU (S' := { S with row := S.lv.map Prod.fst, held := S.lv.map Prod.snd, born := keptI S.row S.born, j := szJ S.lv.length })
    have gr6 : Gr [a] H (upd H5 a (.ins A.c_Table dx (shF p c r2 h1 b2 { S with row := S.lv.map Prod.fst, held := S.lv.map Prod.snd, born := keptI S.row S.born, j := szJ S.lv.length }))) := gr5.put (by simp)
    generalize upd H5 a (.ins A.c_Table dx (shF p c r2 h1 b2 { S with row := S.lv.map Prod.fst, held := S.lv.map Prod.snd, born := keptI S.row S.born, j := szJ S.lv.length })) = H6 at g6 gr6 ⊢
    refine ⟨⟨_, _, g6.ha, by cases p <;> with_unfolding_all rfl⟩, a, dx, p, c, r2, h1, b2, _, _, _, rfl, g6, rk, szJ_range _, ?_, fun H7 c' gr7 fc g7 => ?_⟩
    · show (((S.lv.map Prod.fst).length : Nat) : Int) ≤ 2 * 2 ^ szJ S.lv.length / 3
      rw [List.length_map]
      exact Int.le_of_lt (szJ_room ln)
    dsimp only at g7 ⊢
    rw [aug_tidied T.shC_Table g7.ha]
    have g8 := g7.fldU (S' := { S with row := S.lv.map Prod.fst, held := S.lv.map Prod.snd, born := keptI S.row S.born, j := szJ S.lv.length, cells := layN (szJ S.lv.length) (S.lv.map Prod.fst) (S.lv.map Prod.fst).length, tid := S.tid + 1 })
    have gr8 : Gr [a] H (upd H7 a (.ins A.c_Table dx (shF p c' r2 h1 b2 { S with row := S.lv.map Prod.fst, held := S.lv.map Prod.snd, born := keptI S.row S.born, j := szJ S.lv.length, cells := layN (szJ S.lv.length) (S.lv.map Prod.fst) (S.lv.map Prod.fst).length, tid := S.tid + 1 }))) := (gr6.trans gr7).put (by simp)
    generalize upd H7 a (.ins A.c_Table dx (shF p c' r2 h1 b2 { S with row := S.lv.map Prod.fst, held := S.lv.map Prod.snd, born := keptI S.row S.born, j := szJ S.lv.length, cells := layN (szJ S.lv.length) (S.lv.map Prod.fst) (S.lv.map Prod.fst).length, tid := S.tid + 1 })) = H8 at g8 gr8 ⊢
    unfold My.AugAt
    refine ⟨_, _, _, _, g8.ha, T.shC_Table.cls, T.shC_Table.moved, by cases p <;> with_unfolding_all rfl, ?_⟩
    walk_at "rd"
    refine ⟨_, .inl (SqL.of g8.hr), _, _, rfl, rfl, _, _, g8.ha, shF_len, ?_⟩
    have ep : ∀ (c r h b : Addr) (S : Sh) (n : Int), putF (Str.ofString "moved") (.int (S.mov + n)) (shF p c r h b S) = shF p c r h b { S with mov := S.mov + n } := fun _ _ _ _ _ _ => by cases p <;> with_unfolding_all rfl
    have g9 := g8.fldU (S' := S.tidy) rfl rfl rfl (by unfold Sh.tidy; dsimp only; rw [List.length_map])
    have e9 : shF p c' r2 h1 b2 S.tidy = putF (Str.ofString "moved") (.int (S.mov + (wr2.length : Nat))) (shF p c' r2 h1 b2 { S with row := S.lv.map Prod.fst, held := S.lv.map Prod.snd, born := keptI S.row S.born, j := szJ S.lv.length, cells := layN (szJ S.lv.length) (S.lv.map Prod.fst) (S.lv.map Prod.fst).length, tid := S.tid + 1 }) := by
      rw [lw2]
      cases p <;> with_unfolding_all rfl
    rw [e9] at g9
    refine k _ [a, c', r2, h1, b2] ((gr8.put (by simp)).mono (by simp)) (fun x hx => ?_) ⟨dx, c', r2, h1, b2, _, _, rfl, g9, ok.tidy ln⟩
    simp only [List.mem_cons, List.not_mem_nil, or_false] at hx
    rcases hx with rfl | rfl | rfl | rfl | rfl
    · exact .inl (by simp)
    · exact .inr (gr6.free _ fc)
    · exact .inr (Same_fresh s1 fr2)
    · exact .inr fh1
    · exact .inr (Same_fresh s1 fb2)

end Law
namespace Law
open PySem PySem.Spec PyProof.Rows L2 My
theorem sc_Shelf_find : FnScope ["self", "key"] ["self", "key"] (defScope s_Shelf_find) := ⟨rfl, rfl, rfl, by decide +kernel, rfl, by decide +kernel, by decide +kernel⟩
theorem ok_Table_find {P : Program} {w : World} {K : PySem.W.Frag} {mg : Str → Option Value} {base : Heap} {A : Ad} (T : Txt K mg A) : FnOk P w K mg base CX0 7 A.a_Shelf_find A.d_Shelf_find ["self", "key"] (spFind A.c_Table) := by
  refine T.F_Shelf_find.ok sc_Shelf_find (fun vs H Q E h => ?_) (fun cdv A' outer s H vs Q E hr h => ?_)
  · exact len_find h
  · have nd := sc_Shelf_find.nd
    have hu := hu_of hr
    refine ⟨_, (pss_one (ps_ret (pe_call (ok_place_of (P := P) (w := w) T) (hr.mono (by decide)) rfl T.m_place_of T.F_place_of.kp T.b_place_of .nil pass0 (pa_cons (pe_fld (pv 0) rfl) (pa_cons (pe_fld (pv 0) rfl) (pa_cons (pv 1) pa_nil)))))), ?_⟩
    clear nd
    obtain ⟨a, p, fp, S, v, y, rfl, hS, hy, yk, k⟩ := h
    obtain ⟨dx, c, r, hh, b, ws, us, rfl, g, ok⟩ := hS
    have ga := g.ha
    walk_at "rd"
    simp only [My.fld_cells (T.shC_Table) ga, My.fld_row (T.shC_Table) ga]
    have lp := ok.cw.last_place (y := y)
    refine ⟨_, _, _, S.cells, ws, S.row, y, S.j, rfl, SqL.of g.hc, SqL.of g.hr, g.kr, hy, ok.cw.rok, yk, ⟨ok.cw.len, ok.cw.j12⟩, ok.cw.ok, fun H' s => ?_⟩
    rw [lp]
    exact k H' s
theorem sc_Shelf_lay : FnScope ["self", "key", "place"] ["self", "key", "place"] (defScope s_Shelf_lay) := ⟨rfl, rfl, rfl, by decide +kernel, rfl, by decide +kernel, by decide +kernel⟩
theorem ok_Table_lay {P : Program} {w : World} {K : PySem.W.Frag} {mg : Str → Option Value} {base : Heap} {A : Ad} (T : Txt K mg A) : FnOk P w K mg base CX0 6 A.a_Shelf_lay A.d_Shelf_lay ["self", "key", "place"] (spLay A.c_Table) := by
  refine T.F_Shelf_lay.ok sc_Shelf_lay (fun vs H Q E h => ?_) (fun cdv A' outer s H vs Q E hr h => ?_)
  · exact len_lay h
  · have nd := sc_Shelf_lay.nd
    have hu := hu_of hr
    refine ⟨_, (pss_one (ps_asg (pv 2) (pg_sub (pe_fld (pv 0) rfl) (pe_ix ix_tup (pe_ix ix_list (pe_call (ok_paper (P := P) (w := w) T) (hr.mono (by decide)) rfl T.m_paper_slots T.F_paper.kp T.b_paper .nil pass0 (pa_cons (pe_fld (pv 0) rfl) (pa_cons (pe_fld (pv 0) rfl) (pa_cons (pv 1) pa_nil)))) (pe_un un_neg pe_int) (fun _ _ => rfl)) pe_int (fun _ _ => rfl)) set_list))), ?_⟩
    clear nd
    obtain ⟨a, dx, p, c, r, hh, b, S, ws, us, v, y, q, rfl, g, cw, hy, yk, k⟩ := h
    have ga := g.ha
    walk_at "rd"
    simp only [My.fld_cells (T.shC_Table) ga, My.fld_row (T.shC_Table) ga]
    walk_at "rd"
    refine ⟨_, _, _, S.cells, ws, S.row, y, S.j, rfl, SqL.of g.hc, SqL.of g.hr, g.kr, hy, cw.rok, yk, ⟨cw.len, cw.j12⟩, cw.ok, fun L H' xs s _ hp hx => ?_⟩
    obtain ⟨n0, n1, -, -⟩ := paperN_range S.cells S.row S.j y
    have hxl := KysAt.len hx
    unfold paperK at hx hxl
    rw [List.length_map, List.length_range] at hxl
    obtain ⟨u, e1, hu⟩ := hx.at (i := paperN S.cells S.row S.j y - 1) (k := pairAt S.cells S.j y (paperN S.cells S.row S.j y - 1)) (by rw [List.getElem?_map, List.getElem?_range (by omega)]; rfl)
    obtain ⟨t, rfl, ht⟩ := pair_of hu
    obtain ⟨r0, r1⟩ := probe_range y.stamp ((paperN S.cells S.row S.j y - 1 : Nat) : Int) cw.j12
    have hl := cw.len
    have pc := pow_cast S.j
    walk_at "rd"
    refine ⟨xs, _, SqL.of hp, atI_last (by rw [hxl]; exact e1), ?_⟩
    walk_at "rd"
    refine ⟨_, _, SqT.of ht, rfl, ?_⟩
    walk_at "rd"
    refine ⟨_, _, s _ _ g.hc, ixN_nat r0 (by rw [List.length_map]; omega), ?_⟩
    have k' := k H' s
    unfold lastSlot at k'
    rw [List.map_set] at k'
    exact k'
theorem ok_Table_put {P : Program} {w : World} {K : PySem.W.Frag} {mg : Str → Option Value} {base : Heap} {A : Ad} (T : Txt K mg A) : FnOk P w K mg base (L2N.CX P w) 9 A.a_Shelf_put A.d_Shelf_put ["self", "key", "value"] (spPutT A.c_Table A.c_NoKey) := by
  refine My.okN T.F_Shelf_put sc_Shelf_put (fun vs H Q E h => ?_) (fun cdv A' outer s H vs Q E hr h => ?_)
  · exact len_putT h
  · have nd := sc_Shelf_put.nd
    have hu := hu_of hr
    refine ⟨_, (pss_cons (ps_set (i := 3) nd rfl (Or.inl rfl) (pe_meth (pv 0) T.cl_Table T.me_Table_find (ok_Table_find (P := P) (w := w) T) (hr.mono (by decide)) T.b_Shelf_find .nil pass0 (pa_cons (pe_call (ok_checked (P := P) (w := w) T) (hr.mono (by decide)) rfl T.m_checked T.F_checked.kp T.b_checked .nil (L2N.passes_call (L2N.takes_of rfl rfl rfl rfl) fun _ _ _ _ h => h) (pa_cons (pv 1) pa_nil)) pa_nil))) (pss_cons (ps_if (pt_cmpR op_notN (pv 3) pe_non (nomark _)) (pss_cons (ps_asg (pv 2) (pg_sub (pe_fld (pv 0) rfl) (pv 3) set_list)) (pss_one (ps_ret pe_bl))) pss_nil) (C8.pss_cut (ps_if (pt_cmpR op_ge (pe_callB call_lenU rfl T.n_len PySem.boot_len (pa_cons (pe_fld (pv 0) rfl) pa_nil)) (pe_call (ok_room (P := P) (w := w) T) (hr.mono (by decide)) rfl T.m_room T.F_room.kp T.b_room .nil pass0 (pa_cons (pe_fld (pv 0) rfl) pa_nil)) (nomark _)) (pss_one (ps_expr (pe_meth0 (pv 0) T.cl_Table T.me_Table_make_room (ok_Table_make_room (P := P) (w := w) T) (hr.mono (by decide)) T.b_Table_make_room .nil pass0))) pss_nil) (pss_cons (ps_expr (pe_meth (pv 0) T.cl_Table T.me_Table_lay (ok_Table_lay (P := P) (w := w) T) (hr.mono (by decide)) T.b_Shelf_lay .nil pass0 (pa_cons (pv 1) (pa_cons (pe_callB call_lenU rfl T.n_len PySem.boot_len (pa_cons (pe_fld (pv 0) rfl) pa_nil)) pa_nil)))) (pss_cons (ps_expr (pe_bm PySem.F.plainAttrs_list PySem.F.slot_list_append PySem.F.type_list_append mt_append (pe_fld (pv 0) rfl) (pa_cons (pv 1) pa_nil))) (pss_cons (ps_expr (pe_bm PySem.F.plainAttrs_list PySem.F.slot_list_append PySem.F.type_list_append mt_append (pe_fld (pv 0) rfl) (pa_cons (pv 2) pa_nil))) (pss_cons (ps_fldaug (pv 0) pe_int in_add) (pss_cons (ps_expr (pe_bm PySem.F.plainAttrs_list PySem.F.slot_list_append PySem.F.type_list_append mt_append (pe_fld (pv 0) rfl) (pa_cons (pe_fld (pv 0) rfl) pa_nil))) (pss_one (ps_ret pe_bl)))))))))), ?_⟩
    clear nd
    obtain ⟨a, p, fp, S, v, y, u, z, rfl, hS, hy, hf, hw, hu, hz, ln, k1, k2⟩ := h
    have HS := hS
    obtain ⟨dx, c, r, hh, b, ws, us, rfl, g, ok⟩ := hS
    have ga := g.ha
    walk_at "rd"
    refine ⟨⟨_, _, ga, by cases p <;> with_unfolding_all rfl⟩, v, y, rfl, hy, hf, fun e => ?_, k1⟩
    have yk := hw e
    have k := k2 yk
    refine ⟨a, p, _, S, v, y, rfl, HS, hy, yk, fun H1 s1 => ?_⟩
    have g1 := g.ext s1
    have ga1 := g1.ha
    have hy1 := hy.same s1 _ _
    have hu1 := hu.same s1 _ _
    unfold Sh.putT at k
    have lw := KysAt.len g.kr
    have lu := KysAt.len g.kh
    have hhl := ok.hl
    have lt := ok.cw.lt
    cases ef : S.find y with
    | some q =>
      rw [ef] at k
      dsimp only at k
      simp only [optV]
      walk_at "rd"
      refine iteP (by simp) ?_
      simp only [My.fld_held (T.shC_Table) ga1]
      walk_at "rd"
      have hq := (List.getElem?_eq_some_iff.mp ((ok.find_some yk.ne_non).mp ef)).1
      refine ⟨_, _, g1.hh, ixN_nat (by omega) (by omega), ?_⟩
      walk_at "rd"
      have g2 := g1.heldU (us' := us.set q u) (ks := S.held.set q z) (vals_set g.vh hz.1) (g1.kh.set hu1)
      exact k _ [a, c, r, hh, b] (((Gr.of s1).put (by simp))) Sub.refl ⟨dx, c, r, hh, b, _, _, rfl, g2, ok.hold hz⟩
    | none =>
      rw [ef] at k
      dsimp only at k
      have nin := (ok.find_none yk.ne_non).mp ef
      walk_at "rd"
      refine iteN (by simp [optV]) ?_
      refine ⟨fun σ H' => σ = [some (.ref a), some v, some u, some .non] ∧ ∃ fp' S1, Gr [a, c, r, hh, b] H H' ∧ Sub fp' [a, c, r, hh, b] H ∧ ShAt H' A.c_Table a p fp' S1 ∧ S1.full = false ∧ y ∉ S1.row ∧ ∀ H'' fp'', Gr [a, c, r, hh, b] H H'' → Sub fp'' [a, c, r, hh, b] H → ShAt H'' A.c_Table a p fp'' (S1.come y z) → Q (.bl true) H'', ?_, ?_⟩
      · simp only [My.fld_row (T.shC_Table) ga1]
        walk_at "rd"
        refine ⟨_, .inl (SqL.of g1.hr), ?_⟩
        simp only [My.fld_size (T.shC_Table) ga1]
        walk_at "rd"
        refine iteB (fun cf => ?_) fun cf => ?_
        · have ef2 : S.full = true := decide_eq_true (by omega)
          rw [ef2, if_pos rfl] at k
          refine ⟨⟨_, _, ga1, by cases p <;> with_unfolding_all rfl⟩, a, p, _, S, rfl, ⟨dx, c, r, hh, b, ws, us, rfl, g1, ok⟩, ln, fun H2 fp2 gr2 sb2 hS2 => ?_⟩
          exact ⟨rfl, fp2, _, (Gr.of s1).trans gr2, fun x m => (sb2 x m).imp id fun f => Same_fresh s1 f, hS2, tidy_room ln, tidy_not nin, k⟩
        · have ef2 : S.full = false := decide_eq_false (by omega)
          rw [ef2, if_neg (by decide)] at k
          exact ⟨rfl, _, S, Gr.of s1, Sub.refl, ⟨dx, c, r, hh, b, ws, us, rfl, g1, ok⟩, ef2, nin, k⟩
      clear g1 ga1 hy1 hu1 lw lu hhl lt
      clear s1
      rintro σ H1 ⟨rfl, fp1, S, gr1, sb1, hS1, ef2, nin, k⟩
      have hy1 := HS.ky gr1 yk.val hy
      have hu1 := HS.ky gr1 hz.1 hu
      clear g ga ef ok
      generalize [a, c, r, hh, b] = fp0 at *
      obtain ⟨dx, c, r, hh, b, ws, us, rfl, g1, ok⟩ := hS1
      clear HS ln k2
      have ga1 := g1.ha
      have lw := KysAt.len g1.kr
      have lu := KysAt.len g1.kh
      have hhl := ok.hl
      have hbl := ok.bl
      have lt := ok.cw.lt
      walk_at "rd"
      refine ⟨⟨_, _, ga1, by cases p <;> with_unfolding_all rfl⟩, ?_⟩
      simp only [My.fld_row T.shC_Table ga1]
      walk_at "rd"
      refine ⟨_, .inl (SqL.of g1.hr), a, dx, p, c, r, hh, b, S, ws, us, v, y, _, rfl, g1, ok.cw, hy1, yk, fun H2 s2 => ?_⟩
      have g2 := (g1.ext s2).cellsU (cs := S.cells.set (lastSlot S.cells S.row S.j y).toNat (ws.length : Nat))
      have ga2 := g2.ha
      have gr2 : Gr [a, c, r, hh, b] H1 (upd H2 c (.lst ((S.cells.set (lastSlot S.cells S.row S.j y).toNat (ws.length : Nat)).map V.int))) := (Gr.of s2).put (by simp)
      have hy2 := ky_upd (o' := .lst ((S.cells.set (lastSlot S.cells S.row S.j y).toNat (ws.length : Nat)).map V.int)) (g1.ext s2).hc (fun _ z => by cases z) yk.val (hy1.same s2 _ _)
      have hu2 := ky_upd (o' := .lst ((S.cells.set (lastSlot S.cells S.row S.j y).toNat (ws.length : Nat)).map V.int)) (g1.ext s2).hc (fun _ z => by cases z) hz.1 (hu1.same s2 _ _)
      generalize upd H2 c (.lst ((S.cells.set (lastSlot S.cells S.row S.j y).toNat (ws.length : Nat)).map V.int)) = H3 at g2 ga2 gr2 hy2 hu2 ⊢
      simp only [My.fld_row T.shC_Table ga2]
      walk_at "rd"
      refine ⟨tyL g2.hr, _, g2.hr, by rw [sizeLine_eq]; omega, ?_⟩
      have g3 := g2.rowU (ws' := ws ++ [v]) (ks := S.row ++ [y]) (vals_append g1.vr (vals_one yk.val)) (g2.kr.append (.cons hy2 .nil))
      have ga3 := g3.ha
      have gr3 : Gr [a, c, r, hh, b] H1 (upd H3 r (.lst (ws ++ [v]))) := gr2.put (by simp)
      have hu3 := ky_upd (o' := .lst (ws ++ [v])) g2.hr (fun _ z => by cases z) hz.1 hu2
      generalize upd H3 r (.lst (ws ++ [v])) = H4 at g3 ga3 gr3 hu3 ⊢
      simp only [My.fld_held T.shC_Table ga3]
      walk_at "rd"
      refine ⟨tyL g3.hh, _, g3.hh, by rw [sizeLine_eq]; omega, ?_⟩
      have g4 := g3.heldU (us' := us ++ [u]) (ks := S.held ++ [z]) (vals_append g1.vh (vals_one hz.1)) (g3.kh.append (.cons hu3 .nil))
      have ga4 := g4.ha
      have gr4 : Gr [a, c, r, hh, b] H1 (upd H4 hh (.lst (us ++ [u]))) := gr3.put (by simp)
      generalize upd H4 hh (.lst (us ++ [u])) = H5 at g4 ga4 gr4 ⊢
      rw [aug_comings T.shC_Table ga4]
      have g5 := g4.fldU (S' := { S with row := S.row ++ [y], held := S.held ++ [z], com := S.com + 1, cells := S.cells.set (lastSlot S.cells S.row S.j y).toNat (ws.length : Nat) })
      have gr5 : Gr [a, c, r, hh, b] H1 (upd H5 a (.ins A.c_Table dx (shF p c r hh b { S with row := S.row ++ [y], held := S.held ++ [z], com := S.com + 1, cells := S.cells.set (lastSlot S.cells S.row S.j y).toNat (ws.length : Nat) }))) := gr4.put (by simp)
      have ga5 := g5.ha
      generalize upd H5 a (.ins A.c_Table dx (shF p c r hh b { S with row := S.row ++ [y], held := S.held ++ [z], com := S.com + 1, cells := S.cells.set (lastSlot S.cells S.row S.j y).toNat (ws.length : Nat) })) = H6 at g5 gr5 ga5 ⊢
      simp only [My.fld_born T.shC_Table ga5, My.fld_comings T.shC_Table ga5]
      walk_at "rd"
      refine ⟨tyL g5.hb, _, g5.hb, by rw [sizeLine_eq, List.length_map]; show S.born.length < 16777216; omega, ?_⟩
      have g6 := g5.bornU (cs := S.born ++ [S.com + 1])
      rw [List.map_append] at g6
      have ec : ({ S with row := S.row ++ [y], held := S.held ++ [z], com := S.com + 1, cells := S.cells.set (lastSlot S.cells S.row S.j y).toNat (ws.length : Nat), born := S.born ++ [S.com + 1] } : Sh) = S.come y z := by
        unfold Sh.come layS
        rw [if_neg yk.ne_non, ← ok.cw.slot_bare yk.ne_non nin, lw]
      rw [ec] at g6
      exact k _ [a, c, r, hh, b] (gr1.comp sb1 (gr5.put (by simp))) sb1 ⟨dx, c, r, hh, b, _, _, rfl, g6, ok.come yk nin ef2 hz⟩

end Law
namespace Law
open PySem PySem.Spec PyProof.Rows L2 My
theorem sc_Shelf_mark_gone : FnScope ["self", "key", "place"] ["self", "key", "place"] (defScope s_Shelf_mark_gone) := ⟨rfl, rfl, rfl, by decide +kernel, rfl, by decide +kernel, by decide +kernel⟩
theorem ok_Table_mark_gone {P : Program} {w : World} {K : PySem.W.Frag} {mg : Str → Option Value} {base : Heap} {A : Ad} (T : Txt K mg A) : FnOk P w K mg base CX0 6 A.a_Shelf_mark_gone A.d_Shelf_mark_gone ["self", "key", "place"] (spMarkGone A.c_Table) := by
  refine T.F_Shelf_mark_gone.ok sc_Shelf_mark_gone (fun vs H Q E h => ?_) (fun cdv A' outer s H vs Q E hr h => ?_)
  · exact len_markGone h
  · have nd := sc_Shelf_mark_gone.nd
    have hu := hu_of hr
    refine ⟨_, (pss_one (ps_asg (pe_glob (v := .int (-2)) rfl T.g_GONE ⟨_, rfl⟩) (pg_sub (pe_fld (pv 0) rfl) (pe_ix ix_tup (pe_ix ix_list (pe_call (ok_paper (P := P) (w := w) T) (hr.mono (by decide)) rfl T.m_paper_slots T.F_paper.kp T.b_paper .nil pass0 (pa_cons (pe_fld (pv 0) rfl) (pa_cons (pe_fld (pv 0) rfl) (pa_cons (pv 1) pa_nil)))) (pe_un un_neg pe_int) (fun _ _ => rfl)) pe_int (fun _ _ => rfl)) set_list))), ?_⟩
    clear nd
    obtain ⟨a, dx, p, c, r, hh, b, S, ws, us, v, y, w', rfl, g, cw, hy, yk, k⟩ := h
    have ga := g.ha
    walk_at "rd"
    simp only [My.fld_cells (T.shC_Table) ga, My.fld_row (T.shC_Table) ga]
    walk_at "rd"
    refine ⟨_, _, _, S.cells, ws, S.row, y, S.j, rfl, SqL.of g.hc, SqL.of g.hr, g.kr, hy, cw.rok, yk, ⟨cw.len, cw.j12⟩, cw.ok, fun L H' xs s _ hp hx => ?_⟩
    obtain ⟨n0, n1, -, -⟩ := paperN_range S.cells S.row S.j y
    have hxl := KysAt.len hx
    unfold paperK at hx hxl
    rw [List.length_map, List.length_range] at hxl
    obtain ⟨u, e1, hu⟩ := hx.at (i := paperN S.cells S.row S.j y - 1) (k := pairAt S.cells S.j y (paperN S.cells S.row S.j y - 1)) (by rw [List.getElem?_map, List.getElem?_range (by omega)]; rfl)
    obtain ⟨t, rfl, ht⟩ := pair_of hu
    obtain ⟨r0, r1⟩ := probe_range y.stamp ((paperN S.cells S.row S.j y - 1 : Nat) : Int) cw.j12
    have hl := cw.len
    have pc := pow_cast S.j
    walk_at "rd"
    refine ⟨xs, _, SqL.of hp, atI_last (by rw [hxl]; exact e1), ?_⟩
    walk_at "rd"
    refine ⟨_, _, SqT.of ht, rfl, ?_⟩
    walk_at "rd"
    refine ⟨_, _, s _ _ g.hc, ixN_nat r0 (by rw [List.length_map]; omega), ?_⟩
    have k' := k H' s
    unfold lastSlot at k'
    rw [List.map_set] at k'
    exact k'
theorem ok_Table_take {P : Program} {w : World} {K : PySem.W.Frag} {mg : Str → Option Value} {base : Heap} {A : Ad} (T : Txt K mg A) : FnOk P w K mg base (L2N.CX P w) 8 A.a_Shelf_take A.d_Shelf_take ["self", "key"] (spTake A.c_Table A.c_NoKey A.c_Lacking) := by
  refine My.okN T.F_Shelf_take sc_Shelf_take (fun vs H Q E h => ?_) (fun cdv A' outer s H vs Q E hr h => ?_)
  · exact len_take h
  · have nd := sc_Shelf_take.nd
    have hu := hu_of hr
    refine ⟨_, (pss_cons (ps_set (i := 2) nd rfl (Or.inl rfl) (pe_meth (pv 0) T.cl_Table T.me_Table_find (ok_Table_find (P := P) (w := w) T) (hr.mono (by decide)) T.b_Shelf_find .nil pass0 (pa_cons (pe_call (ok_checked (P := P) (w := w) T) (hr.mono (by decide)) rfl T.m_checked T.F_checked.kp T.b_checked .nil (L2N.passes_call (L2N.takes_of rfl rfl rfl rfl) fun _ _ _ _ h => h) (pa_cons (pv 1) pa_nil)) pa_nil))) (pss_cons (ps_if (pt_cmpR op_isN (pv 2) pe_non (nomark _)) (pss_one (L2N.ps_raise rfl (L2N.takes_of rfl rfl rfl rfl) (L2N.pmk_own PySem.F.excBase_ValueError T.x_Lacking T.m_Lacking T.k_Lacking (raises_own T.eb_Lacking T.et_Lacking) rfl))) pss_nil) (pss_cons (ps_set (i := 3) nd rfl (Or.inl rfl) (pe_ix ix_list (pe_fld (pv 0) rfl) (pv 2) (fun _ _ => rfl))) (pss_cons (ps_expr (pe_meth (pv 0) T.cl_Table T.me_Table_mark_gone (ok_Table_mark_gone (P := P) (w := w) T) (hr.mono (by decide)) T.b_Shelf_mark_gone .nil pass0 (pa_cons (pv 1) (pa_cons (pv 2) pa_nil)))) (pss_cons (ps_asg pe_non (pg_sub (pe_fld (pv 0) rfl) (pv 2) set_list)) (pss_cons (ps_asg pe_non (pg_sub (pe_fld (pv 0) rfl) (pv 2) set_list)) (pss_cons (ps_fldaug (pv 0) pe_int in_add) (pss_one (ps_ret (pv 3)))))))))), ?_⟩
    clear nd
    obtain ⟨a, p, fp, S, v, y, rfl, hS, hy, hf, hw, k1, k2⟩ := h
    have HS := hS
    obtain ⟨dx, c, r, hh, b, ws, us, rfl, g, ok⟩ := hS
    have ga := g.ha
    walk_at "rd"
    refine ⟨⟨_, _, ga, by cases p <;> with_unfolding_all rfl⟩, v, y, rfl, hy, hf, fun e => ?_, k1⟩
    have yk := hw e
    have k := k2 yk
    refine ⟨a, p, _, S, v, y, rfl, HS, hy, yk, fun H1 s1 => ?_⟩
    have g1 := g.ext s1
    have ga1 := g1.ha
    have lu := KysAt.len g.kh
    have lw := KysAt.len g.kr
    have hhl := ok.hl
    cases ef : S.find y with
    | none =>
      rw [ef] at k
      dsimp only at k
      simp only [optV]
      walk_at "rd"
      exact k H1 s1
    | some q =>
      rw [ef] at k
      dsimp only at k
      simp only [optV]
      walk_at "rd"
      refine iteN (by simp) ?_
      simp only [My.fld_held (T.shC_Table) ga1]
      walk_at "rd"
      have er := (ok.find_some yk.ne_non).mp ef
      have hq := (List.getElem?_eq_some_iff.mp er).1
      obtain ⟨w, e1, at2⟩ := at_any (xs := us) (c := (q : Nat)) (by omega) (by omega)
      rw [Int.toNat_natCast] at e1
      obtain ⟨z, e2, hz1⟩ := g1.kh.get e1
      have zv := ok.hv z (List.mem_of_getElem? e2)
      have hy1 := hy.same s1 _ _
      refine ⟨_, _, SqL.of g1.hh, at2, ?_⟩
      walk_at "rd"
      refine ⟨⟨_, _, ga1, by cases p <;> with_unfolding_all rfl⟩, a, dx, p, c, r, hh, b, S, ws, us, v, y, _, rfl, g1, ok.cw, hy1, yk, fun H2 s2 => ?_⟩
      have g2 := (g1.ext s2).cellsU (cs := S.cells.set (lastSlot S.cells S.row S.j y).toNat (-2))
      have ga2 := g2.ha
      have gr2 : Gr [a, c, r, hh, b] H (upd H2 c (.lst ((S.cells.set (lastSlot S.cells S.row S.j y).toNat (-2)).map V.int))) := (Gr.of (s1.trans s2)).put (by simp)
      have hz2 := ky_upd (o' := .lst ((S.cells.set (lastSlot S.cells S.row S.j y).toNat (-2)).map V.int)) (g1.ext s2).hc (fun _ z => by cases z) zv.1 (hz1.same s2 _ _)
      generalize upd H2 c (.lst ((S.cells.set (lastSlot S.cells S.row S.j y).toNat (-2)).map V.int)) = H3 at g2 ga2 gr2 hz2 ⊢
      simp only [My.fld_row (T.shC_Table) ga2]
      walk_at "rd"
      refine ⟨_, _, g2.hr, ixN_nat (by omega) (by omega), ?_⟩
      rw [Int.toNat_natCast]
      have g3 := g2.rowU (ws' := ws.set q .non) (ks := S.row.set q .non) (vals_set g.vr rfl) (g2.kr.set .non)
      have ga3 := g3.ha
      have gr3 : Gr [a, c, r, hh, b] H (upd H3 r (.lst (ws.set q .non))) := gr2.put (by simp)
      have hz3 := ky_upd (o' := .lst (ws.set q .non)) g2.hr (fun _ z => by cases z) zv.1 hz2
      generalize upd H3 r (.lst (ws.set q .non)) = H4 at g3 ga3 gr3 hz3 ⊢
      simp only [My.fld_held (T.shC_Table) ga3]
      walk_at "rd"
      refine ⟨_, _, g3.hh, ixN_nat (by omega) (by omega), ?_⟩
      rw [Int.toNat_natCast]
      have g4 := g3.heldU (us' := us.set q .non) (ks := S.held.set q .non) (vals_set g.vh rfl) (g3.kh.set .non)
      have ga4 := g4.ha
      have gr4 : Gr [a, c, r, hh, b] H (upd H4 hh (.lst (us.set q .non))) := gr3.put (by simp)
      have hz4 := ky_upd (o' := .lst (us.set q .non)) g3.hh (fun _ z => by cases z) zv.1 hz3
      generalize upd H4 hh (.lst (us.set q .non)) = H5 at g4 ga4 gr4 hz4 ⊢
      rw [aug_goings T.shC_Table ga4]
      have g5 := g4.fldU (S' := S.went q y)
      exact k _ [a, c, r, hh, b] w z (gr4.put (by simp)) Sub.refl ⟨dx, c, r, hh, b, _, _, rfl, g5, ok.went er yk.ne_non⟩ e2 (ky_upd ga4 (fun _ z => by cases z) zv.1 hz4)
theorem ok_Table_ahead {P : Program} {w : World} {K : PySem.W.Frag} {mg : Str → Option Value} {base : Heap} {A : Ad} (T : Txt K mg A) : FnOk P w K mg base CX0 1 A.a_Shelf_ahead A.d_Shelf_ahead ["self", "number"] (spAheadS A.c_Table) := by
  refine T.F_Shelf_ahead.ok sc_Shelf_ahead (fun vs H Q E h => ?_) (fun cdv A' outer s H vs Q E hr h => ?_)
  · exact len_aheadS h
  · have nd := sc_Shelf_ahead.nd
    have hu := hu_of hr
    refine ⟨_, (pss_cons (ps_for PassesOwn.never rfl (pi_range3 rfl T.n_range (pa_cons (pe_op op_sub (pe_callB call_lenU rfl T.n_len PySem.boot_len (pa_cons (pe_fld (pv 0) rfl) pa_nil)) pe_int) (pa_cons (pe_un un_neg pe_int) (pa_cons (pe_un un_neg pe_int) pa_nil)))) (pg_name (i := 2) nd rfl (Or.inl rfl)) (pss_one (ps_if (PW.pt (pw_and (pt_cmpR op_notN (pe_ix ix_list (pe_fld (pv 0) rfl) (pv 2) (fun _ _ => rfl)) pe_non (nomark _)) (pw_and1 (pt_cmpR op_lt (pe_ix ix_list (pe_fld (pv 0) rfl) (pv 2) (fun _ _ => rfl)) (pv 1) (nomark _))))) (pss_one (ps_ret (pe_tup (pa_cons (pe_ix ix_list (pe_fld (pv 0) rfl) (pv 2) (fun _ _ => rfl)) (pa_cons (pe_ix ix_list (pe_fld (pv 0) rfl) (pv 2) (fun _ _ => rfl)) (pa_cons (pe_ix ix_list (pe_fld (pv 0) rfl) (pv 2) (fun _ _ => rfl)) pa_nil)))))) pss_nil))) (pss_one (ps_ret pe_non))), ?_⟩
    clear nd
    obtain ⟨a, p, fp, S, n, rfl, hS, k⟩ := h
    obtain ⟨dx, c, r, hh, b, ws, us, rfl, g, ok⟩ := hS
    have ga := g.ha
    have lw := KysAt.len g.kr
    have lu := KysAt.len g.kh
    have hhl := ok.hl
    have hbl := ok.bl
    have lt := ok.cw.lt
    walk_at "rd"
    simp only [My.fld_row (T.shC_Table) ga]
    walk_at "rd"
    refine ⟨_, .inl (SqL.of g.hr), _, RgC.neg (by omega) (by omega) (by decide) (by decide), ?_⟩
    rw [show ((ws.length : Int) - 1 - -1).toNat = ws.length by omega]
    refine go_rangeC (fun i σ H' => ∃ v2, σ = [some (.ref a), some (.int n), v2] ∧ H' = H ∧ ∀ q, ws.length - i ≤ q → q < S.row.length → S.liv (fun b => decide (b < n)) q = false) ⟨_, rfl, rfl, fun q h1 h2 => by omega⟩ ?_ ?_
    · rintro N i σ H' hi ⟨v2, rfl, rfl, hb⟩ hN
      rw [show (ws.length : Int) - 1 + (i : Nat) * -1 = ((ws.length - 1 - i : Nat) : Int) by omega]
      have hb : ∀ q, ws.length - 1 - i < q → q < S.row.length → S.liv (fun b => decide (b < n)) q = false := fun q h => hb q (by omega)
      have nx : ∀ q, ws.length - (i + 1) ≤ q → ws.length - 1 - i < q ∨ q = ws.length - 1 - i := fun q h => by omega
      have hm : ws.length - 1 - i < ws.length := by omega
      generalize ws.length - 1 - i = m at hb nx hm ⊢
      obtain ⟨x, h1, h2⟩ := at_any (xs := ws) (c := (m : Nat)) (by omega) (by omega)
      rw [Int.toNat_natCast] at h1
      obtain ⟨y, hy, hv⟩ := g.kr.get h1
      walk_at "rd"
      simp only [My.fld_row (T.shC_Table) ga]
      walk_at "rd"
      refine ⟨_, _, SqL.of g.hr, h2, ?_⟩
      walk_at "rd"
      have next : S.liv (fun b => decide (b < n)) m = false → N [some (V.ref a), some (V.int n), some (V.int m)] H' := fun e => hN _ _ ⟨_, rfl, rfl, fun q h1 h2 => by
        rcases nx q h1 with c | c
        · exact hb q c h2
        · rw [c]; exact e⟩
      refine iteB (fun c1 => ?_) fun c1 => next (by
        have : y = .non := hv.ne_non.mp (by simpa using c1)
        unfold Sh.liv
        rw [List.getD_eq_getElem?_getD, hy, this]
        rfl)
      simp only [My.fld_born (T.shC_Table) ga]
      walk_at "rd"
      refine ⟨_, _, SqL.of g.hb, at_int (by omega) (by omega), ?_⟩
      walk_at "rd"
      have lv : S.liv (fun b => decide (b < n)) m = decide (getI S.born m < n) := by
        unfold Sh.liv
        rw [List.getD_eq_getElem?_getD, hy, decide_eq_true (show (some y).getD .non ≠ .non from fun e => c1 (hv.ne_non.mpr e)), Bool.true_and]
      refine iteB (fun c2 => ?_) fun c2 => next (by rw [lv]; exact decide_eq_false (by simpa using c2))
      have ea : S.ahead n = some m := lastP_stop (by omega) (by rw [lv]; exact decide_eq_true (by simpa using c2)) hb
      rw [ea] at k
      dsimp only at k
      simp only [My.fld_born (T.shC_Table) ga]
      walk_at "rd"
      refine ⟨_, _, SqL.of g.hb, at_int (by omega) (by omega), ?_⟩
      simp only [My.fld_row (T.shC_Table) ga]
      walk_at "rd"
      refine ⟨_, _, SqL.of g.hr, h2, ?_⟩
      simp only [My.fld_held (T.shC_Table) ga]
      walk_at "rd"
      obtain ⟨w1, q1, q2⟩ := at_any (xs := us) (c := (m : Nat)) (by omega) (by omega)
      rw [Int.toNat_natCast] at q1
      obtain ⟨z, q3, hz⟩ := g.kh.get q1
      refine ⟨_, _, SqL.of g.hh, q2, by walk_at "sz", fun Tp hTp => ?_⟩
      have sT := Same_upd (o := .tup [.int (getI S.born m), x, w1]) (Same.refl H') hTp
      refine k _ _ sT (.tup upd_same (.cons (.num _) (.cons ?_ (.cons ?_ .nil))))
      · rw [List.getD_eq_getElem?_getD, hy]; exact hv.same sT _ _
      · rw [List.getD_eq_getElem?_getD, q3]; exact hz.same sT _ _
    · rintro σ H' ⟨v2, rfl, rfl, hb⟩
      walk_at "rd"
      have ea : S.ahead n = none := lastP_none.mpr fun q h => hb q (by omega) h
      rw [ea] at k
      exact k H' (Same.refl _)
theorem ok_Table_take_last {P : Program} {w : World} {K : PySem.W.Frag} {mg : Str → Option Value} {base : Heap} {A : Ad} (T : Txt K mg A) : FnOk P w K mg base (L2N.CX P w) 9 A.a_Shelf_take_last A.d_Shelf_take_last ["self"] (spTakeLast A.c_Table A.c_Lacking) := by
  refine My.okN T.F_Shelf_take_last sc_Shelf_take_last (fun vs H Q E h => ?_) (fun cdv A' outer s H vs Q E hr h => ?_)
  · exact len_takeLast h
  · have nd := sc_Shelf_take_last.nd
    have hu := hu_of hr
    refine ⟨_, (pss_cons (ps_set (i := 1) nd rfl (Or.inl rfl) (pe_meth (pv 0) T.cl_Table T.me_Table_ahead (ok_Table_ahead (P := P) (w := w) T) (hr.mono (by decide)) T.b_Shelf_ahead .nil pass0 (pa_cons (pe_op op_add (pe_fld (pv 0) rfl) pe_int) pa_nil))) (pss_cons (ps_if (pt_cmpR op_isN (pv 1) pe_non (nomark _)) (pss_one (L2N.ps_raise rfl (L2N.takes_of rfl rfl rfl rfl) (L2N.pmk_own PySem.F.excBase_ValueError T.x_Lacking T.m_Lacking T.k_Lacking (raises_own T.eb_Lacking T.et_Lacking) rfl))) pss_nil) (pss_one (ps_ret (pe_tup (pa_cons (pe_ix ix_tup (pv 1) pe_int (fun _ _ => rfl)) (pa_cons (pe_meth (pv 0) T.cl_Table T.me_Table_take (ok_Table_take (P := P) (w := w) T) (hr.mono (by decide)) T.b_Shelf_take .nil (L2N.passes_call (L2N.takes_of rfl rfl rfl rfl) fun _ _ _ _ h => h) (pa_cons (pe_ix ix_tup (pv 1) pe_int (fun _ _ => rfl)) pa_nil)) pa_nil))))))), ?_⟩
    clear nd
    obtain ⟨a, p, fp, S, rfl, hS, k⟩ := h
    have HS := hS
    obtain ⟨dx, c, r, hh, b, ws, us, rfl, g, ok⟩ := hS
    have ga := g.ha
    have hhl := ok.hl
    walk_at "rd"
    refine ⟨⟨_, _, ga, by cases p <;> with_unfolding_all rfl⟩, ?_⟩
    simp only [My.fld_comings (T.shC_Table) ga]
    walk_at "rd"
    refine ⟨a, p, _, S, _, rfl, HS, ?_⟩
    unfold Sh.last at k
    cases ea : S.ahead (S.com + 1) with
    | none =>
      rw [ea] at k
      dsimp only at k ⊢
      intro H1 s1
      walk_at "rd"
      exact k H1 s1
    | some q =>
      rw [ea] at k
      dsimp only at k ⊢
      intro H1 x s1 hx
      obtain ⟨lq, lv⟩ := ahead_liv ea
      obtain ⟨y, ey, yk, eg⟩ := liv_key ok lv
      obtain ⟨T1, x0, x1, x2, rfl, hT, h0, h1, h2⟩ := tup3_of hx
      have g1 := g.ext s1
      rw [eg] at h1
      walk_at "rd"
      refine ⟨_, _, SqT.of hT, rfl, ?_⟩
      walk_at "rd"
      refine ⟨⟨_, _, g1.ha, by cases p <;> with_unfolding_all rfl⟩, _, _, SqT.of hT, rfl, ?_⟩
      walk_at "rd"
      refine ⟨a, p, [a, c, r, hh, b], S, x1, y, rfl, ⟨dx, c, r, hh, b, ws, us, rfl, g1, ok⟩, h1, yk.f, fun _ => yk, fun e => (by rw [yk.w] at e; cases e), fun _ => ?_⟩
      rw [(ok.find_some yk.ne_non).mpr ey]
      dsimp only
      intro H2 fp2 u z gr2 sb2 hS2 ez hu
      have hy2 := ShAt.ky ⟨dx, c, r, hh, b, ws, us, rfl, g1, ok⟩ gr2 yk.val h1
      have s3 := fun t (ht : Fresh H2 t) => Same_upd (o := .tup [x1, u]) (Same.refl H2) ht
      refine ⟨by walk_at "sz", fun t ht => ?_⟩
      rw [eg] at k
      refine k _ fp2 _ (((Gr.of s1).trans gr2).trans (Gr.of (s3 t ht))) (fun x m => (sb2 x m).imp id fun f => Same_fresh s1 f) (hS2.ext (s3 t ht)) (.tup upd_same (.cons (hy2.same (s3 t ht) _ _) (.cons ?_ .nil)))
      rw [List.getD_eq_getElem?_getD, ez]
      exact hu.same (s3 t ht) _ _
theorem ok_Table_after {P : Program} {w : World} {K : PySem.W.Frag} {mg : Str → Option Value} {base : Heap} {A : Ad} (T : Txt K mg A) : FnOk P w K mg base CX0 1 A.a_Shelf_after A.d_Shelf_after ["self", "number"] (spAfter A.c_Table) := by
  refine T.F_Shelf_after.ok sc_Shelf_after (fun vs H Q E h => ?_) (fun cdv A' outer s H vs Q E hr h => ?_)
  · exact len_after h
  · have nd := sc_Shelf_after.nd
    have hu := hu_of hr
    refine ⟨_, (pss_cons (ps_for PassesOwn.never rfl (pi_enum rfl T.n_enumerate (pa_cons (pe_fld (pv 0) rfl) pa_nil)) (pg_tup (n := 2) rfl (pgs_cons (pg_name (i := 2) nd rfl (Or.inl rfl)) (pgs_cons (pg_name (i := 3) nd rfl (Or.inl rfl)) pgs_nil))) (pss_one (ps_if (PW.pt (pw_and (pt_cmpR op_notN (pv 3) pe_non (nomark _)) (pw_and1 (pt_cmpR op_gt (pe_ix ix_list (pe_fld (pv 0) rfl) (pv 2) (fun _ _ => rfl)) (pv 1) (nomark _))))) (pss_one (ps_ret (pe_tup (pa_cons (pe_ix ix_list (pe_fld (pv 0) rfl) (pv 2) (fun _ _ => rfl)) (pa_cons (pv 3) (pa_cons (pe_ix ix_list (pe_fld (pv 0) rfl) (pv 2) (fun _ _ => rfl)) pa_nil)))))) pss_nil))) (pss_one (ps_ret pe_non))), ?_⟩
    clear nd
    obtain ⟨a, p, fp, S, n, rfl, hS, k⟩ := h
    obtain ⟨dx, c, r, hh, b, ws, us, rfl, g, ok⟩ := hS
    have ga := g.ha
    have lw := KysAt.len g.kr
    have lu := KysAt.len g.kh
    have hhl := ok.hl
    have hbl := ok.bl
    have lt := ok.cw.lt
    walk_at "rd"
    simp only [My.fld_row (T.shC_Table) ga]
    walk_at "rd"
    refine ⟨⟨_, SqL.of g.hr⟩, ?_⟩
    refine go_enum (xs := ws) (fun i σ H' => ∃ v2 v3, σ = [some (.ref a), some (.int n), v2, v3] ∧ Same H H' ∧ ∀ q, q < i → S.liv (fun b => decide (n < b)) q = false) ⟨_, _, rfl, Same.refl _, fun q h => by omega⟩ (fun i σ H' _ ⟨_, _, _, s, _⟩ => s.seq (SqL.of g.hr)) ?_ ?_
    · rintro N i x σ H' Tq hx ⟨v2, v3, rfl, sm, hb⟩ hT hN
      obtain ⟨y, hy, hv⟩ := g.kr.get hx
      have hi : i < ws.length := (List.getElem?_eq_some_iff.mp hx).1
      walk_at "rd"
      refine ⟨_, SqT.of upd_same, rfl, ?_⟩
      walk_at "rd"
      have sT : Same H (upd H' Tq (.tup [V.int i, x])) := Same_upd sm hT
      generalize upd H' Tq (.tup [V.int i, x]) = H6 at sT ⊢
      have g := g.ext sT
      have ga := g.ha
      have hv := hv.same sT _ _
      have next : S.liv (fun b => decide (n < b)) i = false → N [some (V.ref a), some (V.int n), some (V.int i), some x] H6 := fun e => hN _ _ ⟨_, _, rfl, sT, fun q h => by
        rcases Nat.lt_or_ge q i with c | c
        · exact hb q c
        · rw [show q = i by omega]; exact e⟩
      refine iteB (fun c1 => ?_) fun c1 => next (by
        have : y = .non := hv.ne_non.mp (by simpa using c1)
        unfold Sh.liv
        rw [List.getD_eq_getElem?_getD, hy, this]
        rfl)
      simp only [My.fld_born (T.shC_Table) ga]
      walk_at "rd"
      refine ⟨_, _, SqL.of g.hb, at_int (by omega) (by omega), ?_⟩
      walk_at "rd"
      have lv : S.liv (fun b => decide (n < b)) i = decide (n < getI S.born i) := by
        unfold Sh.liv
        rw [List.getD_eq_getElem?_getD, hy, decide_eq_true (show (some y).getD .non ≠ .non from fun e => c1 (hv.ne_non.mpr e)), Bool.true_and]
      refine iteB (fun c2 => ?_) fun c2 => next (by rw [lv]; exact decide_eq_false (by simpa using c2))
      have ea : S.after n = some i := by
        unfold Sh.after
        rw [List.find?_range_eq_some]
        exact ⟨by rw [lv]; exact decide_eq_true (by simpa using c2), List.mem_range.mpr (by omega), fun q h => by rw [hb q h]; rfl⟩
      rw [ea] at k
      dsimp only at k
      simp only [My.fld_born (T.shC_Table) ga]
      walk_at "rd"
      obtain ⟨w1, q1, q2⟩ := at_any (xs := us) (c := ((i : Nat) : Int)) (by omega) (by omega)
      rw [Int.toNat_natCast] at q1
      obtain ⟨z, q3, hz⟩ := g.kh.get q1
      refine ⟨_, _, SqL.of g.hb, at_int (by omega) (by omega), ?_⟩
      simp only [My.fld_held (T.shC_Table) ga]
      walk_at "rd"
      refine ⟨_, _, SqL.of g.hh, q2, by walk_at "sz", fun Tp hTp => ?_⟩
      have sU := Same_upd (o := .tup [.int (getI S.born i), x, w1]) (Same.refl H6) hTp
      refine k _ _ (sT.trans sU) (.tup upd_same (.cons (.num _) (.cons ?_ (.cons ?_ .nil))))
      · rw [List.getD_eq_getElem?_getD, hy]; exact hv.same sU _ _
      · rw [List.getD_eq_getElem?_getD, q3]; exact hz.same sU _ _
    · rintro σ H' ⟨v2, v3, rfl, sm, hb⟩
      walk_at "rd"
      have ea : S.after n = none := by
        unfold Sh.after
        rw [List.find?_eq_none]
        intro q hq
        rw [hb q (by have := List.mem_range.mp hq; omega)]
        decide
      rw [ea] at k
      exact k H' sm
theorem ok_Table_at {P : Program} {w : World} {K : PySem.W.Frag} {mg : Str → Option Value} {base : Heap} {A : Ad} (T : Txt K mg A) : FnOk P w K mg base (L2N.CX P w) 8 A.a_Shelf_at A.d_Shelf_at ["self", "key"] (spAt A.c_Table A.c_NoKey A.c_Lacking) := by
  refine My.okN T.F_Shelf_at sc_Shelf_at (fun vs H Q E h => ?_) (fun cdv A' outer s H vs Q E hr h => ?_)
  · exact len_at h
  · have nd := sc_Shelf_at.nd
    have hu := hu_of hr
    refine ⟨_, (pss_cons (ps_set (i := 2) nd rfl (Or.inl rfl) (pe_meth (pv 0) T.cl_Table T.me_Table_find (ok_Table_find (P := P) (w := w) T) (hr.mono (by decide)) T.b_Shelf_find .nil pass0 (pa_cons (pe_call (ok_checked (P := P) (w := w) T) (hr.mono (by decide)) rfl T.m_checked T.F_checked.kp T.b_checked .nil (L2N.passes_call (L2N.takes_of rfl rfl rfl rfl) fun _ _ _ _ h => h) (pa_cons (pv 1) pa_nil)) pa_nil))) (pss_cons (ps_if (pt_cmpR op_isN (pv 2) pe_non (nomark _)) (pss_one (L2N.ps_raise rfl (L2N.takes_of rfl rfl rfl rfl) (L2N.pmk_own PySem.F.excBase_ValueError T.x_Lacking T.m_Lacking T.k_Lacking (raises_own T.eb_Lacking T.et_Lacking) rfl))) pss_nil) (pss_one (ps_ret (pe_ix ix_list (pe_fld (pv 0) rfl) (pv 2) (fun _ _ => rfl)))))), ?_⟩
    clear nd
    obtain ⟨a, p, fp, S, v, y, rfl, hS, hy, hf, hw, k1, k2⟩ := h
    have HS := hS
    obtain ⟨dx, c, r, hh, b, ws, us, rfl, g, ok⟩ := hS
    have ga := g.ha
    walk_at "rd"
    refine ⟨⟨_, _, ga, by cases p <;> with_unfolding_all rfl⟩, v, y, rfl, hy, hf, fun e => ?_, k1⟩
    have yk := hw e
    have k := k2 yk
    refine ⟨a, p, _, S, v, y, rfl, HS, hy, yk, fun H1 s1 => ?_⟩
    have g1 := g.ext s1
    have ga1 := g1.ha
    have lu := KysAt.len g.kh
    have hhl := ok.hl
    unfold Sh.heldAt at k
    cases ef : S.find y with
    | none =>
      rw [ef] at k
      dsimp only at k
      walk_at "rd"
      exact iteP (by simp [optV]) (k H1 s1)
    | some q =>
      rw [ef] at k
      dsimp only at k
      simp only [optV]
      walk_at "rd"
      refine iteN (by simp) ?_
      simp only [My.fld_held (T.shC_Table) ga1]
      walk_at "rd"
      have hq := (List.getElem?_eq_some_iff.mp ((ok.find_some yk.ne_non).mp ef)).1
      obtain ⟨w, e1, at2⟩ := at_any (xs := us) (c := (q : Nat)) (by omega) (by omega)
      rw [Int.toNat_natCast] at e1
      obtain ⟨z, e2, hz⟩ := g1.kh.get e1
      rw [e2] at k
      exact ⟨_, _, SqL.of g1.hh, at2, k H1 w s1 hz⟩
theorem ok_Table_told {P : Program} {w : World} {K : PySem.W.Frag} {mg : Str → Option Value} {base : Heap} {A : Ad} (T : Txt K mg A) : FnOk P w K mg base (L2N.CX P w) 8 A.a_Shelf_told A.d_Shelf_told ["self", "key", "other"] (spTold A.c_Table A.c_NoKey) := by
  refine T.F_Shelf_told.ok sc_Shelf_told (fun vs H Q E h => ?_) (fun cdv A' outer s H vs Q E hr h => ?_)
  · exact len_told h
  · have nd := sc_Shelf_told.nd
    have hu := hu_of hr
    refine ⟨_, (pss_cons (ps_set (i := 3) nd rfl (Or.inl rfl) (pe_meth (pv 0) T.cl_Table T.me_Table_find (ok_Table_find (P := P) (w := w) T) (hr.mono (by decide)) T.b_Shelf_find .nil pass0 (pa_cons (pe_call (ok_checked (P := P) (w := w) T) (hr.mono (by decide)) rfl T.m_checked T.F_checked.kp T.b_checked .nil (L2N.passes_call (L2N.takes_of rfl rfl rfl rfl) fun _ _ _ _ h => h) (pa_cons (pv 1) pa_nil)) pa_nil))) (pss_cons (ps_if (pt_cmpR op_isN (pv 3) pe_non (nomark _)) (pss_one (ps_ret (pv 2))) pss_nil) (pss_one (ps_ret (pe_ix ix_list (pe_fld (pv 0) rfl) (pv 3) (fun _ _ => rfl)))))), ?_⟩
    clear nd
    obtain ⟨a, p, fp, S, v, y, w0, rfl, hS, hy, hf, hw, k1, k2⟩ := h
    have HS := hS
    obtain ⟨dx, c, r, hh, b, ws, us, rfl, g, ok⟩ := hS
    have ga := g.ha
    walk_at "rd"
    refine ⟨⟨_, _, ga, by cases p <;> with_unfolding_all rfl⟩, v, y, rfl, hy, hf, fun e => ?_, k1⟩
    have yk := hw e
    have k := k2 yk
    refine ⟨a, p, _, S, v, y, rfl, HS, hy, yk, fun H1 s1 => ?_⟩
    have g1 := g.ext s1
    have ga1 := g1.ha
    have lu := KysAt.len g.kh
    have hhl := ok.hl
    unfold Sh.heldAt at k
    cases ef : S.find y with
    | none =>
      rw [ef] at k
      dsimp only at k
      walk_at "rd"
      exact iteP (by simp [optV]) (k H1 s1)
    | some q =>
      rw [ef] at k
      dsimp only at k
      simp only [optV]
      walk_at "rd"
      refine iteN (by simp) ?_
      simp only [My.fld_held (T.shC_Table) ga1]
      walk_at "rd"
      have hq := (List.getElem?_eq_some_iff.mp ((ok.find_some yk.ne_non).mp ef)).1
      obtain ⟨w, e1, at2⟩ := at_any (xs := us) (c := (q : Nat)) (by omega) (by omega)
      rw [Int.toNat_natCast] at e1
      obtain ⟨z, e2, hz⟩ := g1.kh.get e1
      rw [e2] at k
      exact ⟨_, _, SqL.of g1.hh, at2, k H1 w s1 hz⟩
theorem ok_Table_has {P : Program} {w : World} {K : PySem.W.Frag} {mg : Str → Option Value} {base : Heap} {A : Ad} (T : Txt K mg A) : FnOk P w K mg base (L2N.CX P w) 8 A.a_Shelf_has A.d_Shelf_has ["self", "key"] (spHas A.c_Table A.c_NoKey) := by
  refine My.okN T.F_Shelf_has sc_Shelf_has (fun vs H Q E h => ?_) (fun cdv A' outer s H vs Q E hr h => ?_)
  · exact len_has h
  · have nd := sc_Shelf_has.nd
    have hu := hu_of hr
    refine ⟨_, (pss_one (ps_ret (pe_cmpR op_notN (pe_meth (pv 0) T.cl_Table T.me_Table_find (ok_Table_find (P := P) (w := w) T) (hr.mono (by decide)) T.b_Shelf_find .nil pass0 (pa_cons (pe_call (ok_checked (P := P) (w := w) T) (hr.mono (by decide)) rfl T.m_checked T.F_checked.kp T.b_checked .nil (L2N.passes_call (L2N.takes_of rfl rfl rfl rfl) fun _ _ _ _ h => h) (pa_cons (pv 1) pa_nil)) pa_nil)) pe_non (nomark _)))), ?_⟩
    clear nd
    obtain ⟨a, p, fp, S, v, y, rfl, hS, hy, hf, hw, k1, k2⟩ := h
    have HS := hS
    obtain ⟨dx, c, r, hh, b, ws, us, rfl, g, ok⟩ := hS
    have ga := g.ha
    walk_at "rd"
    refine ⟨⟨_, _, ga, by cases p <;> with_unfolding_all rfl⟩, v, y, rfl, hy, hf, fun e => ?_, k1⟩
    have yk := hw e
    have k := k2 yk
    refine ⟨a, p, _, S, v, y, rfl, HS, hy, yk, fun H1 s1 => ?_⟩
    walk_at "rd"
    have e3 : (!decide (optV (S.find y) = V.non)) = (S.find y).isSome := by cases S.find y <;> simp [optV]
    rw [e3]
    exact k H1 s1
theorem ok_Table_many {P : Program} {w : World} {K : PySem.W.Frag} {mg : Str → Option Value} {base : Heap} {A : Ad} (T : Txt K mg A) : FnOk P w K mg base CX0 1 A.a_Shelf_many A.d_Shelf_many ["self"] (spMany A.c_Table) := by
  refine T.F_Shelf_many.ok sc_Shelf_many (fun vs H Q E h => ?_) (fun cdv A' outer s H vs Q E hr h => ?_)
  · exact len_many h
  · have nd := sc_Shelf_many.nd
    have hu := hu_of hr
    refine ⟨_, (pss_one (ps_ret (pe_op op_sub (pe_fld (pv 0) rfl) (pe_fld (pv 0) rfl)))), ?_⟩
    clear nd
    obtain ⟨a, p, fp, S, rfl, hS, k⟩ := h
    obtain ⟨dx, c, r, hh, b, ws, us, rfl, g, ok⟩ := hS
    have ga := g.ha
    walk_at "rd"
    simp only [My.fld_comings (T.shC_Table) ga, My.fld_goings (T.shC_Table) ga]
    walk_at "rd"
    exact k
theorem ok_Table_counts {P : Program} {w : World} {K : PySem.W.Frag} {mg : Str → Option Value} {base : Heap} {A : Ad} (T : Txt K mg A) : FnOk P w K mg base CX0 2 A.a_Shelf_counts A.d_Shelf_counts ["self"] (spCounts A.c_Table) := by
  refine T.F_Shelf_counts.ok sc_Shelf_counts (fun vs H Q E h => ?_) (fun cdv A' outer s H vs Q E hr h => ?_)
  · exact len_counts h
  · have nd := sc_Shelf_counts.nd
    have hu := hu_of hr
    refine ⟨_, (pss_one (ps_ret (pe_tup (pa_cons (pe_meth0 (pv 0) T.cl_Table T.me_Table_many (ok_Table_many (P := P) (w := w) T) (hr.mono (by decide)) T.b_Shelf_many .nil pass0) (pa_cons (pe_fld (pv 0) rfl) (pa_cons (pe_fld (pv 0) rfl) (pa_cons (pe_fld (pv 0) rfl) (pa_cons (pe_fld (pv 0) rfl) pa_nil)))))))), ?_⟩
    clear nd
    obtain ⟨a, p, fp, S, rfl, hS, k⟩ := h
    have HS := hS
    obtain ⟨dx, c, r, hh, b, ws, us, rfl, g, ok⟩ := hS
    have ga := g.ha
    walk_at "rd"
    refine ⟨⟨_, _, ga, by cases p <;> with_unfolding_all rfl⟩, a, p, _, S, rfl, HS, ?_⟩
    simp only [My.fld_comings (T.shC_Table) ga, My.fld_goings (T.shC_Table) ga, My.fld_tidied (T.shC_Table) ga, My.fld_moved (T.shC_Table) ga]
    walk_at "rd"
    exact ⟨by walk_at "sz", fun T hT => k _ T (Same_upd (Same.refl _) hT) hT upd_same⟩
theorem ok_Table_pairs {P : Program} {w : World} {K : PySem.W.Frag} {mg : Str → Option Value} {base : Heap} {A : Ad} (T : Txt K mg A) : FnOk P w K mg base CX0 1 A.a_Shelf_pairs A.d_Shelf_pairs ["self"] (spPairs A.c_Table) := by
  refine T.F_Shelf_pairs.ok sc_Shelf_pairs (fun vs H Q E h => ?_) (fun cdv A' outer s H vs Q E hr h => ?_)
  · exact len_pairs h
  · have nd := sc_Shelf_pairs.nd
    have hu := hu_of hr
    refine ⟨_, (pss_one (ps_ret (pe_lc (own := [("place", 1), ("key", 2)]) rfl nd (pi_enum rfl T.n_enumerate (pa_cons (pe_fld (pv 0) rfl) pa_nil)) (blkOk_by (own := [("place", 1), ("key", 2)]) (N := ["self", "place", "key"]) (sc := defScope s_Shelf_pairs) (by decide +kernel)) (fun _ _ _ _ _ => (pg_tupK K (n := 2) rfl rfl (pgs_cons (pg_name (i := 1) nd rfl (Or.inl rfl)) (pgs_cons (pg_name (i := 2) nd rfl (Or.inl rfl)) pgs_nil)))) (fun _ _ _ _ _ => (pts_one (pt_cmpR op_notN (pv 2) pe_non (nomark _)))) (fun _ _ _ _ _ => (pe_tup (pa_cons (pv 2) (pa_cons (pe_ix (ix_listK K rfl) (pe_fldK K rfl (pv 0) rfl) (pv 1) (fun _ _ => rfl)) pa_nil))))))), ?_⟩
    clear nd
    obtain ⟨a, p, fp, S, rfl, hS, k⟩ := h
    obtain ⟨dx, c, r, hh, b, ws, us, rfl, g, ok⟩ := hS
    have ga := g.ha
    have lw := KysAt.len g.kr
    have lu := KysAt.len g.kh
    have hhl := ok.hl
    have lt := ok.cw.lt
    walk_at "rd"
    simp only [My.fld_row (T.shC_Table) ga]
    walk_at "rd"
    refine ⟨⟨_, SqL.of g.hr⟩, fun D hD => ?_⟩
    refine go_lck (walk_enum (xs := ws)) (pairsN S.row S.held) rfl (fun i _ => pairsN_vals ok i) (by rw [sizeLine_eq]; omega) (fun i => pairsN_len _ _ i) hD (fun H s => SqL.of (s _ _ g.hr)) ?_ ?_
    · rintro N Z i x H4 H5 hi s4 ⟨Tp, x1, y1, rfl, hT, rfl, e1, e2⟩ hN hZ
      cases e1
      obtain ⟨y, hy, hv⟩ := g.kr.get e2
      walk_at "rd"
      refine ⟨_, SqT.of upd_same, rfl, ?_⟩
      walk_at "rd"
      have sT : Same H4 (upd H4 Tp (.tup [V.int i, y1])) := Same_upd (Same.refl _) hT
      generalize upd H4 Tp (.tup [V.int i, y1]) = H6 at sT ⊢
      have g6 := g.ext (s4.trans sT)
      have ga6 := g6.ha
      have hv6 := hv.same (s4.trans sT) _ _
      refine iteB (fun c1 => ?_) fun c1 => hZ (by rw [pairsN, hy]; dsimp only; rw [if_pos (hv.ne_non.mp (by simpa using c1))]) _ sT
      simp only [My.fld_held (T.shC_Table) ga6]
      walk_at "rd"
      obtain ⟨w1, q1, q2⟩ := at_any (xs := us) (c := (i : Nat)) (by omega) (by omega)
      rw [Int.toNat_natCast] at q1
      obtain ⟨z, q3, hz⟩ := g6.kh.get q1
      refine ⟨_, _, SqL.of g6.hh, q2, by walk_at "sz", fun T2 hT2 => hN _ _ _ (by rw [pairsN, hy]; dsimp only; rw [if_neg (fun e => c1 (hv.ne_non.mpr e))]) (Same_upd sT hT2) (.tup upd_same (.cons (hv6.same (Same_upd (Same.refl _) hT2) _ _) (.cons ?_ .nil)))⟩
      rw [List.getD_eq_getElem?_getD, q3]
      exact hz.same (Same_upd (Same.refl _) hT2) _ _
    · intro H4 ys s4 hL hk
      walk_at "rd"
      rw [lw] at hk
      exact k H4 D ys s4 hD hL hk
theorem ok_Table_emptied {P : Program} {w : World} {K : PySem.W.Frag} {mg : Str → Option Value} {base : Heap} {A : Ad} (T : Txt K mg A) : FnOk P w K mg base CX0 8 A.a_Shelf_emptied A.d_Shelf_emptied ["self"] (spEmptied A.c_Table) := by
  refine T.F_Shelf_emptied.ok sc_Shelf_emptied (fun vs H Q E h => ?_) (fun cdv A' outer s H vs Q E hr h => ?_)
  · exact len_emptied h
  · have nd := sc_Shelf_emptied.nd
    have hu := hu_of hr
    refine ⟨_, (pss_cons (ps_fld (pv 0) (pe_fld (pv 0) rfl) rfl) (pss_cons (ps_fld (pv 0) (pe_fld (pv 0) rfl) rfl) (pss_cons (ps_fld (pv 0) (pe_lst pa_nil) rfl) (pss_cons (ps_fld (pv 0) (pe_lst pa_nil) rfl) (pss_cons (ps_fld (pv 0) (pe_lst pa_nil) rfl) (pss_one (ps_expr (pe_meth0 (pv 0) T.cl_Table T.me_Table_relay (ok_Table_relay (P := P) (w := w) T) (hr.mono (by decide)) T.b_Shelf_relay .nil pass0)))))))), ?_⟩
    clear nd
    obtain ⟨a, p, fp, S, rfl, hS, k⟩ := h
    obtain ⟨dx, c, r, hh, b, ws, us, rfl, g, ok⟩ := hS
    have ga := g.ha
    walk_at "rd"
    simp only [My.fld_comings (T.shC_Table) ga]
    walk_at "rd"
    rw [set_goings T.shC_Table ga]
    have g1 := g.fldU (S' := { S with goi := S.com })
    have gr1 : Gr [a] H (upd H a (.ins A.c_Table dx (shF p c r hh b { S with goi := S.com }))) := Gr.refl.put (by simp)
    have ga := g1.ha
    generalize upd H a (.ins A.c_Table dx (shF p c r hh b { S with goi := S.com })) = H1 at g1 gr1 ga ⊢
    simp only [My.fld_least (T.shC_Table) ga]
    walk_at "rd"
    rw [set_size T.shC_Table ga]
    have g2 := g1.fldU (S' := { S with goi := S.com, j := S.jl })
    have gr2 : Gr [a] H (upd H1 a (.ins A.c_Table dx (shF p c r hh b { S with goi := S.com, j := S.jl }))) := gr1.put (by simp)
    generalize upd H1 a (.ins A.c_Table dx (shF p c r hh b { S with goi := S.com, j := S.jl })) = H2 at g2 gr2 ⊢
    refine ⟨by walk_at "sz", fun r' hr1 => ?_⟩
    have n2 := g2.ne
    have g3 := g2.ext (Same_upd (o := .lst []) (Same.refl _) hr1)
    have er : upd H2 r' (.lst []) r' = some (.lst []) := upd_same
    have fr : Fresh H r' := gr2.free _ hr1
    have gr3 : Gr [a] H (upd H2 r' (.lst [])) := gr2.new fr
    have nr : c ≠ r' ∧ r' ≠ hh ∧ r' ≠ b := ⟨hr1.ne g2.hc, (hr1.ne g2.hh).symm, (hr1.ne g2.hb).symm⟩
    generalize upd H2 r' (.lst []) = H3 at g3 er gr3 ⊢
    rw [set_row T.shC_Table (ks := []) g3.ha]
    have g4 := g3.reR (ks := []) er rfl .nil nr
    have gr4 : Gr [a] H (upd H3 a (.ins A.c_Table dx (shF p c r' hh b { S with goi := S.com, j := S.jl, row := [] }))) := gr3.put (by simp)
    generalize upd H3 a (.ins A.c_Table dx (shF p c r' hh b { S with goi := S.com, j := S.jl, row := [] })) = H4 at g4 gr4 ⊢
    refine ⟨by walk_at "sz", fun h' hh1 => ?_⟩
    have g5 := g4.ext (Same_upd (o := .lst []) (Same.refl _) hh1)
    have eh : upd H4 h' (.lst []) h' = some (.lst []) := upd_same
    have fh : Fresh H h' := gr4.free _ hh1
    have gr5 : Gr [a] H (upd H4 h' (.lst [])) := gr4.new fh
    have nh : c ≠ h' ∧ r' ≠ h' ∧ h' ≠ b := ⟨hh1.ne g4.hc, hh1.ne g4.hr, (hh1.ne g4.hb).symm⟩
    generalize upd H4 h' (.lst []) = H5 at g5 eh gr5 ⊢
    rw [set_held T.shC_Table (ks := []) g5.ha]
    have g6 := g5.reH (ks := []) eh rfl .nil nh
    have gr6 : Gr [a] H (upd H5 a (.ins A.c_Table dx (shF p c r' h' b { S with goi := S.com, j := S.jl, row := [], held := [] }))) := gr5.put (by simp)
    generalize upd H5 a (.ins A.c_Table dx (shF p c r' h' b { S with goi := S.com, j := S.jl, row := [], held := [] })) = H6 at g6 gr6 ⊢
    refine ⟨by walk_at "sz", fun b' hb1 => ?_⟩
    have g7 := g6.ext (Same_upd (o := .lst []) (Same.refl _) hb1)
    have eb : upd H6 b' (.lst []) b' = some (.lst (([] : List Int).map V.int)) := upd_same
    have fb : Fresh H b' := gr6.free _ hb1
    have gr7 : Gr [a] H (upd H6 b' (.lst [])) := gr6.new fb
    have nb : c ≠ b' ∧ r' ≠ b' ∧ h' ≠ b' := ⟨hb1.ne g6.hc, hb1.ne g6.hr, hb1.ne g6.hh⟩
    generalize upd H6 b' (.lst []) = H7 at g7 eb gr7 ⊢
    rw [set_born T.shC_Table (cs := []) g7.ha]
    have g8 := g7.reB (cs := []) eb nb
    have gr8 : Gr [a] H (upd H7 a (.ins A.c_Table dx (shF p c r' h' b' { S with goi := S.com, j := S.jl, row := [], held := [], born := [] }))) := gr7.put (by simp)
    generalize upd H7 a (.ins A.c_Table dx (shF p c r' h' b' { S with goi := S.com, j := S.jl, row := [], held := [], born := [] })) = H8 at g8 gr8 ⊢
    refine ⟨⟨_, _, g8.ha, by cases p <;> with_unfolding_all rfl⟩, a, dx, p, c, r', h', b', _, [], [], rfl, g8, (fun _ h => by cases h), ⟨ok.l3, ok.l12⟩, ?_, fun H9 c' gr9 fc g9 => ?_⟩
    · show ((0 : Nat) : Int) ≤ _
      have : (0 : Int) < 2 ^ S.jl := (pow_le (Nat.le_refl _)).1
      show (0 : Int) ≤ 2 * 2 ^ S.jl / 3
      omega
    refine k H9 [a, c', r', h', b'] ((gr8.trans gr9).mono (by simp)) (fun x hx => ?_) ⟨dx, c', r', h', b', [], [], rfl, g9, ok.emptied⟩
    simp only [List.mem_cons, List.not_mem_nil, or_false] at hx
    rcases hx with rfl | rfl | rfl | rfl | rfl
    · exact .inl (by simp)
    · exact .inr (gr8.free _ fc)
    · exact .inr fr
    · exact .inr fh
    · exact .inr fb
theorem sc_Shelf_paper : FnScope ["self", "key"] ["self", "key"] (defScope s_Shelf_paper) := ⟨rfl, rfl, rfl, by decide +kernel, rfl, by decide +kernel, by decide +kernel⟩
theorem ok_Table_paper {P : Program} {w : World} {K : PySem.W.Frag} {mg : Str → Option Value} {base : Heap} {A : Ad} (T : Txt K mg A) : FnOk P w K mg base (L2N.CX P w) 7 A.a_Shelf_paper A.d_Shelf_paper ["self", "key"] (spShPaper A.c_Table A.c_NoKey) := by
  refine My.okN T.F_Shelf_paper sc_Shelf_paper (fun vs H Q E h => ?_) (fun cdv A' outer s H vs Q E hr h => ?_)
  · exact len_shPaper h
  · have nd := sc_Shelf_paper.nd
    have hu := hu_of hr
    refine ⟨_, (pss_one (ps_ret (pe_call (ok_paper (P := P) (w := w) T) (hr.mono (by decide)) rfl T.m_paper_slots T.F_paper.kp T.b_paper .nil pass0 (pa_cons (pe_fld (pv 0) rfl) (pa_cons (pe_fld (pv 0) rfl) (pa_cons (pe_call (ok_checked (P := P) (w := w) T) (hr.mono (by decide)) rfl T.m_checked T.F_checked.kp T.b_checked .nil (L2N.passes_call (L2N.takes_of rfl rfl rfl rfl) fun _ _ _ _ h => h) (pa_cons (pv 1) pa_nil)) pa_nil)))))), ?_⟩
    clear nd
    obtain ⟨a, p, fp, S, v, y, rfl, hS, hy, hf, hw, k1, k2⟩ := h
    obtain ⟨dx, c, r, hh, b, ws, us, rfl, g, ok⟩ := hS
    have ga := g.ha
    walk_at "rd"
    simp only [My.fld_cells (T.shC_Table) ga, My.fld_row (T.shC_Table) ga]
    walk_at "rd"
    refine ⟨v, y, rfl, hy, hf, fun e => ?_, k1⟩
    have yk := hw e
    exact ⟨_, _, _, S.cells, ws, S.row, y, S.j, rfl, SqL.of g.hc, SqL.of g.hr, g.kr, hy, ok.cw.rok, yk, ⟨ok.cw.len, ok.cw.j12⟩, ok.cw.ok, fun L H' xs s f hp hx => k2 yk H' L xs s f hp hx⟩

end Law
namespace My
open PySem PySem.Spec PyProof.Rows L2
theorem op_inDK (K : PySem.W.Frag) {X : Cx} (e : X.K = K) (hu : X.A.units + 65 < cLine) : OpR X (compareOp .In) (rInD K) := e ▸ op_inD hu
theorem op_notInDK (K : PySem.W.Frag) {X : Cx} (e : X.K = K) (hu : X.A.units + 65 < cLine) : OpR X (compareOp .NotIn) (rNotInD K) := e ▸ op_notInD hu
section
variable {K : PySem.W.Frag} {H : Hp} {Q : VK} {a C dx D : Addr} {fs : List (Str × V)} {b : Bool}
theorem isi_ins (h : H a = some (.ins C dx fs)) (o : C8.InsC K C) (k : PySem.W.kitOne K (.ref C) (.ref D) = some b) (q : Q (.bl b) H) : rIsi K [.ref a, .ref D] H Q :=
  ⟨_, _, _, _, b, rfl, .own D, .base (.ins h o.cl o.ha o.hn o.htk o.hm), k, q⟩
theorem isi_nonC (k : PySem.W.kitOne K (.type "NoneType") (.ref D) = some b) (q : Q (.bl b) H) : rIsi K [.non, .ref D] H Q :=
  ⟨_, _, _, _, b, rfl, .own D, .base .non, k, q⟩
end
end My
namespace My
open PySem PySem.Spec PyProof.Rows L2
/-- isinstance(x, (T1, T2)) of two built-in types -/
def rIsiF2 : List V → Hp → VK → Prop := fun xs H Q => ∃ (x : V) (tp : Addr) (n m t : String) (b c : Bool), xs = [x, .ref tp] ∧ H tp = some (.tup [.ty n, .ty m]) ∧ tyS x H = some t ∧ kitB t n = some b ∧ kitB t m = some c ∧ Q (.bl (b || c)) H
theorem call_isiF2 {X : Cx} : CallR X (.builtin "isinstance") rIsiF2 := by
  intro pins s σ H xs us Q I r h
  obtain ⟨x, tp, n, m, t, b, c, rfl, hT, ht, hb, hc, q⟩ := h
  refine call_isiT pins s σ H _ us Q I r ⟨x, tp, _, _, [.type n, .type m], b || c, rfl, hT, .cons (.ty n) (.cons (.ty m) .nil), tyS_ok ht, ?_, q⟩
  refine kitAny_cons (b := b) (kit_ty hb) (fun e => ?_) fun e => by rw [e]; rfl
  refine kitAny_cons (b := c) (kit_ty hc) (fun e2 => ?_) fun e2 => by rw [e2]; cases b <;> rfl
  rw [e, e2]
  rfl
theorem tyS_tup {H : Hp} {a : Addr} {xs : List V} (h : H a = some (.tup xs)) : tyS (.ref a) H = some "tuple" := by simp only [tyS, h]
theorem tyS_lst {H : Hp} {a : Addr} {xs : List V} (h : H a = some (.lst xs)) : tyS (.ref a) H = some "list" := by simp only [tyS, h]
/-- is it a list or a tuple -/
theorem isT_seq {H : Hp} {p a : Addr} {xs : List V} {Q : VK} (hp : H p = some (.tup [.ty "list", .ty "tuple"])) (h : H a = some (.tup xs) ∨ H a = some (.lst xs)) (q : Q (.bl true) H) : rIsiF2 [.ref a, .ref p] H Q := by
  rcases h with h | h
  · exact ⟨_, p, _, _, _, false, true, rfl, hp, tyS_tup h, by decide +kernel, by decide +kernel, q⟩
  · exact ⟨_, p, _, _, _, true, false, rfl, hp, tyS_lst h, by decide +kernel, by decide +kernel, q⟩
theorem isT_no {H : Hp} {p : Addr} {v : V} {Q : VK} (hp : H p = some (.tup [.ty "list", .ty "tuple"])) (h : scalV v = true) (q : Q (.bl false) H) : rIsiF2 [v, .ref p] H Q := by
  cases v with
  | int i => exact ⟨_, p, _, _, "int", false, false, rfl, hp, rfl, by decide +kernel, by decide +kernel, q⟩
  | bl i => exact ⟨_, p, _, _, "bool", false, false, rfl, hp, rfl, by decide +kernel, by decide +kernel, q⟩
  | non => exact ⟨_, p, _, _, "NoneType", false, false, rfl, hp, rfl, by decide +kernel, by decide +kernel, q⟩
  | str i => exact ⟨_, p, _, _, "str", false, false, rfl, hp, rfl, by decide +kernel, by decide +kernel, q⟩
  | _ => cases h
end My
namespace My
open PySem PySem.Spec PyProof.Rows L2
/-! a kin's deeds, told by the living pairs -/
section
variable {w : World} {C CM CN CL : Addr} {Hb H : Hp} {ts : List Thing} {i j k : Nat} {a d : Addr} {S : Sh} {x : Kx} {M : Mk} {v u : V} {y z : Ky} {Q : VK} {E : XK}
theorem kin_put (ke : KE w C CM Hb H ts i j a S x M) (kr : Kr S x M) (hy : KyAt H v y) (yk : KeyOk y) (hu : KyAt H u z) (hz : HVal z) (ln : S.tri.length ≤ 1365)
    (k : ∀ H' x' M', x'.m = x.m → GW Hb H' ((ts.set i (knT w C a (S.putT y z).2 x')).set j (mkT CM x.m M')) → Kr (S.putT y z).2 x' M' → M.Le M' → Keeps H H' → (x'.ap, x'.cells, M') = putC S x M y → Q (.bl (!decide (y ∈ S.tri.map Prod.fst))) H') : spKPut w C CM CN [.ref a, v, u] H Q E := by
  refine ⟨a, Hb, ts, i, j, S, x, M, v, u, y, z, rfl, ke, kr, hy, yk.f, fun _ => yk, hu, hz, by rw [tri_lvlen kr.ok]; exact ln, yk.no, fun _ H' x' M' e g kr' le kp pc => ?_⟩
  rw [putT_old kr.ok yk]
  exact k H' x' M' e g kr' le kp pc
theorem kin_take (ke : KE w C CM Hb H ts i j a S x M) (kr : Kr S x M) (hy : KyAt H v y) (yk : KeyOk y) (k0 : y ∉ S.tri.map Prod.fst → ∀ H', Same H H' → E (.ref CL) none H')
    (k : ∀ A t B q, S.tri = A ++ t :: B → t.1 = y → (S.went q y).tri = A ++ B → S.find y = some q → ∀ H' l v', GW Hb H' (ts.set i (knT w C a (S.went q y) ⟨x.m, x.ap, l, goneC S x y⟩)) → Kr (S.went q y) ⟨x.m, x.ap, l, goneC S x y⟩ M → Keeps H H' → KyAt H' v' t.2.1 → Q v' H') : spKTake w C CM CN CL [.ref a, v] H Q E := by
  have ok := kr.ok
  refine ⟨a, Hb, ts, i, j, S, x, M, v, y, rfl, ke, kr, hy, yk.f, fun _ => yk, yk.no, fun _ => ?_⟩
  cases eq : S.find y with
  | none => exact k0 (by rw [tri_keys ok]; exact (keys_none ok yk.ne_non).mp eq)
  | some q =>
    intro H1 l u' z gw kr1 kp hz hu
    obtain ⟨A, B, z', b, e1, e2, -, e4, -, -⟩ := went_tri ok yk.ne_non eq
    rw [hz] at e2
    cases e2
    exact k A _ B q e1 rfl e4 eq H1 l u' gw kr1 kp hu
theorem kin_last (ke : KE w C CM Hb H ts i j a S x M) (kr : Kr S x M) (k0 : S.tri = [] → ∀ H', Same H H' → E (.ref CL) none H')
    (k : ∀ A t q, S.tri = A ++ [t] → (S.went q t.1).tri = A → S.last = some q → ∀ H' l v', GW Hb H' (ts.set i (knT w C a (S.went q t.1) ⟨x.m, x.ap, l, goneC S x t.1⟩)) → Kr (S.went q t.1) ⟨x.m, x.ap, l, goneC S x t.1⟩ M → Keeps H H' → KyAt H' v' (.tup [t.1, t.2.1]) → Q v' H') : spKLast w C CM CL [.ref a] H Q E := by
  have ok := kr.ok
  refine ⟨a, Hb, ts, i, j, S, x, M, rfl, ke, kr, ?_⟩
  cases el : S.last with
  | none =>
    have z := last_none ok el
    exact k0 (by
      have := tri_lvlen ok
      rw [z] at this
      exact List.length_eq_zero_iff.mp this.symm)
  | some q =>
    obtain ⟨y, e1, e2, e3⟩ := liv_key ok (ahead_liv el).2
    obtain ⟨A, B, z, b, h1, h2, -, -, h5, -, -, h8⟩ := ok.tsplit e1 e2.ne_non
    have := h8 (last_some ok el)
    subst this
    dsimp only
    rw [e3, show S.held.getD q .non = z by rw [List.getD_eq_getElem?_getD, h2]; rfl]
    intro H1 l v' gw kr1 kp hx
    exact k A (y, z, b) q h1 (by rw [h5, List.append_nil]) el H1 l v' gw kr1 kp hx
theorem kin_has (ke : KE w C CM Hb H ts i j a S x M) (kr : Kr S x M) (hy : KyAt H v y) (yk : KeyOk y) (k : ∀ H', Same H H' → Q (.bl (decide (y ∈ S.tri.map Prod.fst))) H') : spKHas w C CM CN [.ref a, v] H Q E := by
  refine ⟨a, Hb, ts, i, j, S, x, M, v, y, rfl, ke, kr, hy, yk.f, fun _ => yk, yk.no, fun _ H1 s1 => ?_⟩
  rw [keys_has kr.ok yk.ne_non, ← tri_keys kr.ok]
  exact k _ s1
theorem kin_at (ke : KE w C CM Hb H ts i j a S x M) (kr : Kr S x M) (hy : KyAt H v y) (yk : KeyOk y) (k0 : y ∉ S.tri.map Prod.fst → ∀ H', Same H H' → E (.ref CL) none H') (k : ∀ t ∈ S.tri, t.1 = y → ∀ H' x, Same H H' → KyAt H' x t.2.1 → Q x H') : spKAt w C CM CN CL [.ref a, v] H Q E := by
  refine ⟨a, Hb, ts, i, j, S, x, M, v, y, rfl, ke, kr, hy, yk.f, fun _ => yk, yk.no, fun _ => ?_⟩
  rcases held_tri kr.ok yk with ⟨h1, h2⟩ | ⟨t, h1, h2, h3⟩
  · rw [h2]
    exact k0 h1
  · rw [h3]
    exact k t h1 h2
theorem kin_told (ke : KE w C CM Hb H ts i j a S x M) (kr : Kr S x M) (hy : KyAt H v y) (yk : KeyOk y) (k0 : y ∉ S.tri.map Prod.fst → ∀ H', Same H H' → Q u H') (k : ∀ t ∈ S.tri, t.1 = y → ∀ H' x, Same H H' → KyAt H' x t.2.1 → Q x H') : spKTold w C CM CN [.ref a, v, u] H Q E := by
  refine ⟨a, Hb, ts, i, j, S, x, M, v, y, u, rfl, ke, kr, hy, yk.f, fun _ => yk, yk.no, fun _ => ?_⟩
  rcases held_tri kr.ok yk with ⟨h1, h2⟩ | ⟨t, h1, h2, h3⟩
  · rw [h2]
    exact k0 h1
  · rw [h3]
    exact k t h1 h2
theorem KE.kn (ke : KE w C CM Hb H ts i j a S x M) : ∃ fp, KnAt w H C a fp S x := by
  obtain ⟨fp, h, -⟩ := ke.g.at ke.hi
  exact ⟨fp, h⟩
theorem kin_many (ke : KE w C CM Hb H ts i j a S x M) (kr : Kr S x M) (k : Q (.int (S.tri.length : Nat)) H) : spKMany w C [.ref a] H Q E := by
  obtain ⟨fp, hS⟩ := ke.kn
  refine ⟨a, fp, S, x, rfl, hS, kr.ok, ?_⟩
  rw [keys_many kr.ok, ← tri_len kr.ok]
  exact k
theorem kin_pairs (ke : KE w C CM Hb H ts i j a S x M) (kr : Kr S x M) (k : ∀ H' L xs, Same H H' → Fresh H L → H' L = some (.lst xs) → KysAt H' xs (S.tri.map triPair) → Q (.ref L) H') : spKPairs w C [.ref a] H Q E := by
  obtain ⟨fp, hS⟩ := ke.kn
  refine ⟨a, fp, S, x, rfl, hS, kr.ok, fun H1 L xs s1 fL eL hL => k H1 L xs s1 fL eL ?_⟩
  rw [pairs_lv kr.ok, ← tri_lv kr.ok, List.map_map] at hL
  exact hL
theorem kin_emptied (ke : KE w C CM Hb H ts i j a S x M) (kr : Kr S x M) (k : ∀ H' l, GW Hb H' (ts.set i (knT w C a S.emptied ⟨x.m, x.ap, l, emptyCells S x⟩)) → Kr S.emptied ⟨x.m, x.ap, l, emptyCells S x⟩ M → Keeps H H' → Q .non H') : spKEmptied w C CM [.ref a] H Q E :=
  ⟨a, Hb, ts, i, j, S, x, M, rfl, ke, kr, k⟩
/-! a kin beside a dict of its own pairs -/
/-- things as they were, but for a kin, its dict and its maker -/
def put3 (w : World) (C CM : Addr) (ts : List Thing) (i j k : Nat) (a d : Addr) (S : Sh) (x : Kx) (M : Mk) : List Thing := ((ts.set i (knT w C a S x)).set k (rowsT w d f1 S.tri)).set j (mkT CM x.m M)
structure KD (w : World) (C CM : Addr) (Hb H : Hp) (ts : List Thing) (i j k : Nat) (a d : Addr) (S : Sh) (x : Kx) (M : Mk) : Prop where
  ke : KE w C CM Hb H ts i j a S x M
  kr : Kr S x M
  hk : ts[k]? = some (rowsT w d f1 S.tri)
  ik : i ≠ k
  jk : j ≠ k
  nm : ∀ t ∈ S.tri, ∃ n : Int, t.2.1 = .num n
theorem KD.ext {H' : Hp} (g : KD w C CM Hb H ts i j k a d S x M) (s : Same H H') : KD w C CM Hb H' ts i j k a d S x M := ⟨g.ke.ext s, g.kr, g.hk, g.ik, g.jk, g.nm⟩
theorem KD.low {H0 : Hp} (g : KD w C CM Hb H ts i j k a d S x M) (s : Same H0 Hb) : KD w C CM H0 H ts i j k a d S x M := ⟨⟨g.ke.g.low s, g.ke.hi, g.ke.hj, g.ke.ij⟩, g.kr, g.hk, g.ik, g.jk, g.nm⟩
theorem put3_put3 {S' : Sh} {x' : Kx} {M' : Mk} (ij : i ≠ j) (ik : i ≠ k) (jk : j ≠ k) (e : x'.m = x.m) : put3 w C CM (put3 w C CM ts i j k a d S x M) i j k a d S' x' M' = put3 w C CM ts i j k a d S' x' M' := by
  unfold put3
  rw [e]
  rw [List.set_comm (i := j) (j := i) _ _ (Ne.symm ij), List.set_comm (i := k) (j := i) _ _ (Ne.symm ik), set_set, List.set_comm (i := j) (j := k) _ _ jk, set_set, set_set]
theorem put3_same (hi : ts[i]? = some (knT w C a S x)) (hj : ts[j]? = some (mkT CM x.m M)) (hk : ts[k]? = some (rowsT w d f1 S.tri)) : put3 w C CM ts i j k a d S x M = ts := by
  unfold put3
  rw [set_id hi, set_id hk, set_id hj]
/-- a deed behind a deed -/
theorem KD.next {S' : Sh} {x' : Kx} {M' : Mk} {H' : Hp} (g : KD w C CM Hb H ts i j k a d S x M) (e : x'.m = x.m) (g' : GW Hb H' (put3 w C CM ts i j k a d S' x' M')) (kr : Kr S' x' M') (nm : ∀ t ∈ S'.tri, ∃ n : Int, t.2.1 = .num n) : KD w C CM Hb H' (put3 w C CM ts i j k a d S' x' M') i j k a d S' x' M' := by
  refine ⟨⟨g', ?_, ?_, g.ke.ij⟩, kr, ?_, g.ik, g.jk, nm⟩
  · unfold put3
    exact set_ne (set_ne (set_at g.ke.hi) (Ne.symm g.ik)) (Ne.symm g.ke.ij)
  · unfold put3
    exact set_at (set_ne (set_ne g.ke.hj g.ke.ij) (Ne.symm g.jk))
  · unfold put3
    exact set_ne (set_at (set_ne g.hk g.ik)) g.jk
/-- what a deed leaves -/
def KDeed (w : World) (C CM : Addr) (Hb H : Hp) (ts : List Thing) (i j k : Nat) (a d : Addr) (S : Sh) (x : Kx) (M : Mk) (n : Nat) (q : Hp → Prop) : Prop := ∀ H' S' x' M', x'.m = x.m → GW Hb H' (put3 w C CM ts i j k a d S' x' M') → Kr S' x' M' → M.Le M' → (∀ t ∈ S'.tri, ∃ n : Int, t.2.1 = .num n) → S'.tri.length ≤ S.tri.length + n → Keeps H H' → q H'
theorem KD.done {n : Nat} {q : Hp → Prop} {H' : Hp} (g : KD w C CM Hb H' ts i j k a d S x M) (kp : Keeps H H') (h : KDeed w C CM Hb H ts i j k a d S x M n q) : q H' :=
  h H' S x M rfl (by rw [put3_same g.ke.hi g.ke.hj g.hk]; exact g.ke.g) g.kr .refl g.nm (by omega) kp
theorem putTri_num {l : List Tri} {b n : Int} (h : ∀ t ∈ l, ∃ n : Int, t.2.1 = .num n) : ∀ t ∈ putTri l y (.num n) b, ∃ n : Int, t.2.1 = .num n := fun t m => by
  unfold putTri at m
  split at m
  · obtain ⟨s, hs, rfl⟩ := List.mem_map.mp m
    by_cases c : s.1 = y
    · rw [if_pos c]
      exact ⟨n, rfl⟩
    · rw [if_neg c]
      exact h s hs
  · rcases List.mem_append.mp m with m | m
    · exact h t m
    · rw [List.mem_singleton] at m
      rw [m]
      exact ⟨n, rfl⟩
end
/-- a pool of keys in the base -/
structure PoolAt (Hb : Hp) (p : Addr) (wp : List V) (kp : List Ky) (m : Nat) : Prop where
  at_ : Hb p = some (.lst wp)
  ks : KysAt Hb wp kp
  len : kp.length = m
  ok : ∀ k ∈ kp, KeyOk k
theorem PoolAt.pick {Hb : Hp} {p : Addr} {wp : List V} {kp : List Ky} {m : Nat} (pl : PoolAt Hb p wp kp m) (n : Int) (m0 : 0 < m) : ∃ v y, atI wp (n % m) = some v ∧ KyAt Hb v y ∧ KeyOk y := by
  have g0 := Int.emod_nonneg n (show (m : Int) ≠ 0 by omega)
  have g1 := Int.emod_lt_of_pos n (show (0 : Int) < m by omega)
  have l1 := pl.ks.len
  have l2 := pl.len
  obtain ⟨u, e1, a1⟩ := at_any (xs := wp) (c := n % m) (by omega) (by omega)
  obtain ⟨y, ey, hy⟩ := pl.ks.get e1
  exact ⟨u, y, a1, hy, pl.ok y (List.mem_of_getElem? ey)⟩
theorem PoolAt.low {H0 Hb : Hp} {p : Addr} {wp : List V} {kp : List Ky} {m : Nat} (pl : PoolAt H0 p wp kp m) (s : Same H0 Hb) : PoolAt Hb p wp kp m := ⟨s _ _ pl.at_, pl.ks.same s _ _, pl.len, pl.ok⟩
theorem put3_app {w : World} {C CM : Addr} {ts r : List Thing} {i j k : Nat} {a d : Addr} {S : Sh} {x : Kx} {M : Mk} (hi : i < ts.length) (hj : j < ts.length) (hk : k < ts.length) : put3 w C CM (ts ++ r) i j k a d S x M = put3 w C CM ts i j k a d S x M ++ r := by
  unfold put3
  rw [List.set_append_left _ _ hi, List.set_append_left _ _ (by rw [List.length_set]; exact hk), List.set_append_left _ _ (by rw [List.length_set, List.length_set]; exact hj)]
theorem get_app {ts r : List Thing} {i : Nat} {t : Thing} (e : ts[i]? = some t) : (ts ++ r)[i]? = some t := by rw [List.getElem?_append_left (List.getElem?_eq_some_iff.mp e).1]; exact e
theorem KD.app {w : World} {C CM : Addr} {Hb H : Hp} {ts r : List Thing} {i j k : Nat} {a d : Addr} {S : Sh} {x : Kx} {M : Mk} (g : KD w C CM Hb H ts i j k a d S x M) (g' : GW Hb H (ts ++ r)) : KD w C CM Hb H (ts ++ r) i j k a d S x M := ⟨⟨g', get_app g.ke.hi, get_app g.ke.hj, g.ke.ij⟩, g.kr, get_app g.hk, g.ik, g.jk, g.nm⟩
theorem KD.app3 {w : World} {C CM : Addr} {Hb H : Hp} {ts r : List Thing} {i j k : Nat} {a d : Addr} {S S' : Sh} {x x' : Kx} {M M' : Mk} (g : KD w C CM Hb H ts i j k a d S x M) : put3 w C CM (ts ++ r) i j k a d S' x' M' = put3 w C CM ts i j k a d S' x' M' ++ r := put3_app (List.getElem?_eq_some_iff.mp g.ke.hi).1 (List.getElem?_eq_some_iff.mp g.ke.hj).1 (List.getElem?_eq_some_iff.mp g.hk).1
theorem triPairs_vrow {l : List Tri} (lo : LOk l) : Ky.vrow (l.map triPair) := fun k m => by
  obtain ⟨t, mt, rfl⟩ := List.mem_map.mp m
  obtain ⟨h1, h2⟩ := lo.ok t mt
  refine ⟨pairF_val f1_ok ⟨h1, h2⟩, ?_⟩
  have := h1.d
  have := h2.2
  simp [triPair, Ky.dep, Ky.deps]
  omega
theorem row_dp {K : PySem.W.Frag} {H : Hp} {p : Addr} {ws : List V} {ks : List Ky} (e : H p = some (.lst ws)) (h : KysAt H ws ks) (d : Ky.vrow ks) : Dp K H (.ref p) (.list (Ky.toDs ks)) := .lst (SqL.of e) (KysAt.dpV ks _ (vrow_vals d) h)
theorem Sh.Ok.few {S : Sh} (o : S.Ok) : S.tri.length ≤ 5000 := by
  have h1 : S.lv.length ≤ (S.row.zip S.held).length := List.length_filter_le _ _
  rw [List.length_zip] at h1
  have := o.cw.lt
  have := tri_lvlen o
  omega
end My
namespace My
open PySem PySem.Spec PyProof.Rows L2
theorem set_last {ts : List Thing} {x y : Thing} : (ts ++ [x]).set ts.length y = ts ++ [y] := by
  induction ts with
  | nil => rfl
  | cons t ts ih => rw [List.cons_append, List.length_cons, List.set_cons_succ, ih]; rfl
theorem last_get {ts : List Thing} {x : Thing} : (ts ++ [x])[ts.length]? = some x := by
  rw [List.getElem?_append_right (Nat.le_refl _), Nat.sub_self]
  rfl
/-- a comprehension of truths, each True; what the law owns changes in its turns -/
theorem go_gwt {J : It} {n : Nat} {G : Hp → Prop} {Y : Nat → Hp → V → Hp → Prop} (w : L2.Walk J n G Y) {g : TG} {te : TE} {vs : List Nat} {σ : L2.St} {H1 Hb : Hp} {D : Addr} {Qd : Hp → Prop} {ts0 : List Thing} (Inv : Nat → List Thing → Prop) (hz : n ≤ sizeLine) (hD : Fresh H1 D)
    (g0 : GW Hb H1 ts0) (i0 : Inv 0 ts0) (hG : ∀ i H ts, GW Hb H ts → Inv i ts → G H)
    (hs : ∀ (N : VK) i x H H' ts t, i < n → GW Hb H (ts ++ [t]) → Inv i ts → Keeps H1 H → Y i H x H' → (∀ ts' H4, GW Hb H4 (ts' ++ [t]) → Inv (i + 1) ts' → Keeps H1 H4 → N (.bl true) H4) → g x (wipe σ vs) H' fun σ2 H2 => wipe σ2 vs = wipe σ vs ∧ te σ2 H2 N)
    (hd : ∀ H ts, GW Hb H ts → Inv n ts → Keeps H1 H → H D = some (.lst (List.replicate n (V.bl true))) → Qd H) (mono : ∀ (A B : L2.St → Hp → Prop) x σ H, (∀ σ H, A σ H → B σ H) → g x σ H A → g x σ H B) : lcGo J g tYes te vs σ H1 D Qd := by
  refine lc_it w (fun i H => ∃ ts, GW Hb H (ts ++ [lstT D (.vs (List.replicate i (V.bl true)))]) ∧ Inv i ts ∧ Keeps H1 H ∧ i ≤ n) ⟨ts0, g0.newL hD rfl, i0, Keeps.of (Same_upd (Same.refl _) hD), Nat.zero_le _⟩ (fun i H _ ⟨ts, gt, iv, _⟩ => hG i H ts gt.pop iv) ?_ ?_
  · rintro i x H H' hi ⟨ts, gt, iv, kp, le⟩ hY
    refine mono _ _ _ _ _ ?_ (hs (fun y H4 => ∃ acc, H4 D = some (.lst acc) ∧ acc.length < sizeLine ∧ (∃ ts', GW Hb (upd H4 D (.lst (acc ++ [y]))) (ts' ++ [lstT D (.vs (List.replicate (i + 1) (V.bl true)))]) ∧ Inv (i + 1) ts' ∧ Keeps H1 (upd H4 D (.lst (acc ++ [y]))) ∧ i + 1 ≤ n)) i x H H' ts _ hi gt iv kp hY ?_)
    · rintro σ2 H2 ⟨e, h⟩
      refine ⟨e, ?_⟩
      unfold tYes
      dsimp only
      rw [if_pos rfl]
      exact h
    · intro ts' H4 g4 iv4 kp4
      have e := g4.lstv last_get
      obtain ⟨g5, k5⟩ := g4.lputv (us := List.replicate i (V.bl true) ++ [V.bl true]) last_get
      rw [set_last] at g5
      have er : List.replicate i (V.bl true) ++ [V.bl true] = List.replicate (i + 1) (V.bl true) := by rw [List.replicate_succ']
      refine ⟨_, e, by rw [List.length_replicate]; omega, ts', ?_, iv4, kp4.trans k5, hi⟩
      rw [er] at g5 ⊢
      exact g5
  · rintro H ⟨ts, gt, iv, kp, -⟩
    exact hd H ts gt.pop iv kp (gt.lstv last_get)
end My
namespace Law
open PySem PySem.Spec PyProof.Rows L2 My
theorem sc_law_pool : FnScope ["_law_cell", "_law_base", "_law_some", "_law_stem", "_law_k", "_law_at", "_law_step", "_law_pool_here", "_law_text"] ["_law_cell"] (defScope s_law_pool) := ⟨rfl, rfl, rfl, by decide +kernel, rfl, by decide +kernel, by decide +kernel⟩
theorem ok_law_pool {P : Program} {w : World} {K : PySem.W.Frag} {mg : Str → Option Value} {base : Heap} {A : Ad} (T : Txt K mg A) : FnOk P w K mg base CX0 1 A.a_law_pool A.d_law_pool ["_law_cell"] (spPool 40) := by
  refine T.F_law_pool.ok sc_law_pool (fun vs H Q E h => ?_) (fun cdv A' outer s H vs Q E hr h => ?_)
  · exact len_pool h
  · have nd := sc_law_pool.nd
    have hu := hu_of hr
    refine ⟨_, (pss_cons (ps_set (i := 1) nd rfl (Or.inl rfl) (pe_op op_mod (pe_op op_mulX (pv 0) (pe_op op_pow pe_int pe_int)) (pe_ix ix_list (pe_lst (pa_cons (pe_op op_pow pe_int pe_int) (pa_cons (pe_op op_pow pe_int pe_int) pa_nil))) (pe_op op_mod (pv 0) pe_int) (fun _ _ => rfl)))) (pss_cons (ps_set (i := 2) nd rfl (Or.inr rfl) pe_str) (pss_cons (ps_set (i := 3) nd rfl (Or.inl rfl) (pe_m1 PySem.F.slot_str_join PySem.F.type_str_join mt_joinq pe_str (pe_lc (own := [("_law_k", 4)]) rfl nd (pi_range1 rfl T.n_range (pa_cons (pe_op op_mod (pe_op op_fdivW (pv 0) pe_int) (pe_ix ix_list (pe_lst (pa_cons pe_int (pa_cons pe_int (pa_cons pe_int (pa_cons pe_int pa_nil))))) (pe_op op_mod (pe_op op_fdivW (pv 0) pe_int) pe_int) (fun _ _ => rfl))) pa_nil)) (blkOk_by (own := [("_law_k", 4)]) (N := ["_law_cell", "_law_base", "_law_some", "_law_stem", "_law_k", "_law_at", "_law_step", "_law_pool_here", "_law_text"]) (sc := defScope s_law_pool) (by decide +kernel)) (fun _ _ _ _ _ => (pg_name (i := 4) nd rfl (Or.inl rfl))) (fun _ _ _ _ _ => pts_nil) (fun _ _ _ _ _ => (pe_ix ix_str (pv 2) (pe_op op_mod (pe_op op_add (pe_op op_fdivW (pv 0) (pe_op op_add (pv 4) pe_int)) (pe_op op_mulX (pv 4) (pv 4))) pe_int) (fun _ _ => rfl)))))) (pss_cons (ps_set (i := 5) nd rfl (Or.inl rfl) (pe_op op_mod (pe_op op_fdivW (pv 0) pe_int) (pe_op op_add (pe_callB call_lenU rfl T.n_len PySem.boot_len (pa_cons (pv 3) pa_nil)) pe_int))) (pss_cons (ps_set (i := 6) nd rfl (Or.inl rfl) (pe_ix ix_list (pe_lst (pa_cons pe_int (pa_cons pe_int (pa_cons pe_int (pa_cons (pe_op op_add pe_int (pe_op op_mod (pe_op op_fdivW (pv 0) pe_int) (pe_op op_pow pe_int pe_int))) pa_nil))))) (pe_op op_mod (pe_op op_fdivW (pv 0) pe_int) pe_int) (fun _ _ => rfl))) (pss_cons (ps_set (i := 7) nd rfl (Or.inl rfl) (pe_lst pa_nil)) (pss_cons (ps_for PassesOwn.never rfl (pi_range1 rfl T.n_range (pa_cons pe_int pa_nil)) (pg_name (i := 4) nd rfl (Or.inl rfl)) (pss_cons (ps_set (i := 8) nd rfl (Or.inl rfl) (pe_op op_addT (pe_op op_addT (pe_slice sl_str (pv 3) po_none (po_some (pv 5))) (pe_ix ix_str pe_str (pv 4) (fun _ _ => rfl))) (pe_slice sl_str (pv 3) (po_some (pv 5)) po_none))) (pss_one (ps_if (pt_cmpR op_lt (pe_op op_mod (pv 4) pe_int) (pe_op op_add pe_int (pe_op op_mod (pe_op op_fdivW (pv 0) pe_int) pe_int)) (nomark _)) (pss_one (ps_expr (pe_bm PySem.F.plainAttrs_list PySem.F.slot_list_append PySem.F.type_list_append mt_append (pv 7) (pa_cons (pe_op op_add (pv 1) (pe_op op_mulX (pv 4) (pv 6))) pa_nil)))) (pss_one (ps_if (pt_cmpR op_eq (pe_op op_mod (pv 4) pe_int) pe_int (nomark _)) (pss_one (ps_expr (pe_bm PySem.F.plainAttrs_list PySem.F.slot_list_append PySem.F.type_list_append mt_append (pv 7) (pa_cons (pe_tup (pa_cons (pv 8) (pa_cons (pv 4) (pa_cons (pe_un un_neg (pv 4)) (pa_cons pe_str (pa_cons (pe_tup pa_nil) (pa_cons pe_int pa_nil))))))) pa_nil)))) (pss_one (ps_if (pt_cmpR op_eq (pe_op op_mod (pv 4) pe_int) pe_int (nomark _)) (pss_one (ps_expr (pe_bm PySem.F.plainAttrs_list PySem.F.slot_list_append PySem.F.type_list_append mt_append (pv 7) (pa_cons (pv 8) pa_nil)))) (pss_one (ps_expr (pe_bm PySem.F.plainAttrs_list PySem.F.slot_list_append PySem.F.type_list_append mt_append (pv 7) (pa_cons (pe_tup (pa_cons (pv 8) (pa_cons (pe_tup (pa_cons (pv 4) (pa_cons (pe_tup pa_nil) pa_nil))) pa_nil))) pa_nil)))))))))))) (pss_one (ps_ret (pv 7)))))))))), ?_⟩
    clear nd
    obtain ⟨n, rfl, hb, k⟩ := h
    walk_at "rd"
    refine ⟨by walk_at "side", hb.mul (by decide) (by decide), by walk_at "side", by walk_at "side", by walk_at "sz", fun p hp => ?_⟩
    obtain ⟨z, ez, z0, z1⟩ : ∃ z : Int, atI [V.int 1000, V.int 100000000000000000000000000000000000000000000000000000000000] (n % 2) = some (.int z) ∧ 0 < z ∧ z ≤ 100000000000000000000000000000000000000000000000000000000000 := by
      rcases (show n % 2 = 0 ∨ n % 2 = 1 by omega) with e | e <;> rw [e]
      · exact ⟨_, rfl, by decide, by decide⟩
      · exact ⟨_, rfl, by decide, by decide⟩
    have s1 := Same_upd (o := .lst [V.int 1000, V.int 100000000000000000000000000000000000000000000000000000000000]) (Same.refl H) hp
    refine ⟨_, _, SqL.of upd_same, ez, ?_⟩
    generalize upd H p (HO.lst [V.int 1000, V.int 100000000000000000000000000000000000000000000000000000000000]) = H1 at s1 ⊢
    walk_at "rd"
    have b0 := Int.emod_nonneg (n * 948273388530662767682822077) (show z ≠ 0 by omega)
    have b1 := Int.emod_lt_of_pos (n * 948273388530662767682822077) z0
    generalize n * 948273388530662767682822077 % z = b at b0 b1 ⊢
    refine ⟨z0, by walk_at "side", by walk_at "sz", fun p2 hp2 => ⟨by walk_at "side", ?_⟩⟩
    obtain ⟨z2, ez2, hz2⟩ : ∃ z : Int, atI [V.int 20, V.int 20, V.int 20, V.int 60] (n / 11 % 4) = some (.int z) ∧ (z = 20 ∨ z = 60) := by
      rcases (show n / 11 % 4 = 0 ∨ n / 11 % 4 = 1 ∨ n / 11 % 4 = 2 ∨ n / 11 % 4 = 3 by omega) with e | e | e | e <;> rw [e]
      · exact ⟨_, rfl, .inl rfl⟩
      · exact ⟨_, rfl, .inl rfl⟩
      · exact ⟨_, rfl, .inl rfl⟩
      · exact ⟨_, rfl, .inr rfl⟩
    have s2 := Same_upd (o := .lst [V.int 20, V.int 20, V.int 20, V.int 60]) s1 hp2
    refine ⟨_, _, SqL.of upd_same, ez2, ?_⟩
    generalize upd H1 p2 (HO.lst [V.int 20, V.int 20, V.int 20, V.int 60]) = H2 at s2 ⊢
    walk_at "rd"
    have m0 := Int.emod_nonneg (n / 2) (show z2 ≠ 0 by omega)
    have m1 := Int.emod_lt_of_pos (n / 2) (show 0 < z2 by omega)
    generalize n / 2 % z2 = m at m0 m1 ⊢
    refine ⟨by omega, ⟨by omega, by omega⟩, fun D hD => ?_⟩
    refine go_lcm walk_range ((stem71 n m.toNat).map fun c => V.str ⟨#[c]⟩) (by rw [List.length_map, stem71_len]) (by rw [sizeLine_eq]; omega) hD (fun H' s => trivial) ?_ ?_ gName_mono
    · rintro N i x H4 H5 hi sm ⟨rfl, rfl⟩ hN
      walk_at "rd"
      have g0 := Int.emod_nonneg (n / ((i : Int) + 3) + (i : Int) * (i : Int)) (show (6 : Int) ≠ 0 by decide)
      have g1 := Int.emod_lt_of_pos (n / ((i : Int) + 3) + (i : Int) * (i : Int)) (show (0 : Int) < 6 by decide)
      rw [six_text]
      refine ⟨divB (by omega) (by omega), mulL (by omega) (by omega), sixAt ((n / ((i : Int) + 3) + (i : Int) * (i : Int)) % 6), by rw [SX.S_len]; with_unfolding_all decide, sixAt_some g0 g1, hN _ _ ?_ (Same.refl _)⟩
      rw [List.getElem?_map, stem71, List.getElem?_map, List.getElem?_range hi]
      rfl
    intro H3 s3 hD3
    refine join_ones (SqL.of hD3) (by rw [stem71_len]; omega) fun ys ey => ?_
    rw [ey]
    have lc := stem71_ok n m.toNat
    have ll : (stem71 n m.toNat).length ≤ 59 := by rw [stem71_len]; omega
    have s03 := s2.trans s3
    clear ey
    generalize stem71 n m.toNat = l at lc ll ⊢
    walk_at "rd"
    rw [SX.S_len]
    have t0 := Int.emod_nonneg (n / 40) (show ((l.length : Int) + 1) ≠ 0 by omega)
    have t1 := Int.emod_lt_of_pos (n / 40) (show (0 : Int) < (l.length : Int) + 1 by omega)
    obtain ⟨t, et⟩ : ∃ t : Nat, n / 40 % ((l.length : Int) + 1) = (t : Int) := ⟨(n / 40 % ((l.length : Int) + 1)).toNat, by omega⟩
    rw [et] at t0 t1 ⊢
    refine ⟨by walk_at "side", by rw [sizeLine_eq]; omega, by omega, by walk_at "side", by walk_at "side", by walk_at "sz", fun p3 hp3 => ⟨by walk_at "side", ?_⟩⟩
    obtain ⟨z3, ez3, hz3⟩ : ∃ z : Int, atI [V.int 2147483647, V.int 2147483647, V.int 131072, V.int (1 + n / 7 % 1000000000)] (n / 3 % 4) = some (.int z) ∧ (0 < z ∧ z ≤ 2147483647) := by
      rcases (show n / 3 % 4 = 0 ∨ n / 3 % 4 = 1 ∨ n / 3 % 4 = 2 ∨ n / 3 % 4 = 3 by omega) with e | e | e | e <;> rw [e]
      · exact ⟨_, rfl, by decide, by decide⟩
      · exact ⟨_, rfl, by decide, by decide⟩
      · exact ⟨_, rfl, by decide, by decide⟩
      · exact ⟨_, rfl, by omega, by omega⟩
    have s4 := Same_upd (o := .lst [V.int 2147483647, V.int 2147483647, V.int 131072, V.int (1 + n / 7 % 1000000000)]) s03 hp3
    refine ⟨_, _, SqL.of upd_same, ez3, by walk_at "sz", fun P hP => ?_⟩
    generalize upd H3 p3 (HO.lst [V.int 2147483647, V.int 2147483647, V.int 131072, V.int (1 + n / 7 % 1000000000)]) = H4 at s4 hP ⊢
    have fP := Same_fresh s4 hP
    have gw := (GW.start (Same.refl H4)).newL (p := .ks []) hP ⟨rfl, .nil⟩
    refine go_range (fun i σ H' => ∃ v4 v8 ks, σ = [some (.int n), some (.int b), some (.str (Str.ofString "ab~ (\"")), some (.str (SX.S l)), v4, some (.int t), some (.int z3), some (.ref P), v8] ∧ GW H4 H' [lstT P (.ks ks)] ∧ ks.length = i ∧ (∀ k ∈ ks, KeyOk k)) ⟨_, _, [], rfl, gw, rfl, fun _ h => by cases h⟩ ?_ ?_
    · rintro N i σ H5 hi ⟨v4, v8, ks, rfl, gw, lk, ok⟩ hN
      obtain ⟨ws, eP, ew⟩ := gw.lst (i := 0) rfl
      have lw := ew.2.len
      obtain ⟨cc, ec, hcc⟩ := abc_at (m := 40) (i := i) (by omega) (by decide)
      have eabc : Str.ofString "ABCDEFGHIJKLMNOPQRSTUVWXYZabcdefghijklmn" = SX.S (abc71.take 40) := by decide +kernel
      have ctx : codesOk (l.take t ++ [cc] ++ l.drop t) := codesOk_append (codesOk_append (codesOk_take lc _) (fun x m => by rw [List.mem_singleton] at m; rw [m]; exact hcc)) (codesOk_drop lc _)
      have ltx : (l.take t ++ [cc] ++ l.drop t).length ≤ 60 := by
        rw [List.length_append, List.length_append, List.length_take, List.length_drop, List.length_singleton]
        omega
      walk_at "rd"
      rw [eabc]
      refine ⟨by rw [SX.S_len, sizeLine_eq]; omega, cc, by rw [SX.S_len]; with_unfolding_all decide, ec, ?_⟩
      rw [cut_Slo (by omega), cut_Shi (by omega), S_item]
      have e2 : SX.S (List.take t l) ++ SX.S [cc] = SX.S (List.take t l ++ [cc]) := by rw [SX.S_cat]
      have e3 : SX.S (List.take t l ++ [cc]) ++ SX.S (List.drop t l) = SX.S (List.take t l ++ [cc] ++ List.drop t l) := by rw [SX.S_cat (List.take t l ++ [cc])]
      rw [e2, e3]
      have fin : ∀ (H6 : Hp) (u : V) (y : Ky), Same H5 H6 → KyAt H6 u y → KeyOk y → ∃ xs, H6 P = some (.lst xs) ∧ xs.length < sizeLine ∧ N [some (.int n), some (.int b), some (.str (Str.ofString "ab~ (\"")), some (.str (SX.S l)), some (.int i), some (.int t), some (.int z3), some (.ref P), some (.str (SX.S (l.take t ++ [cc] ++ l.drop t)))] (upd H6 P (.lst (xs ++ [u]))) := by
        intro H6 u y s6 hu yk
        have g6 := gw.ext s6
        obtain ⟨g7, -⟩ := g6.lput (i := 0) (p' := .ks (ks ++ [y])) (ws := ws ++ [u]) rfl ⟨vals_append ew.1 (vals_one yk.val), (ew.2.same s6 _ _).append (.cons hu .nil)⟩
        exact ⟨ws, s6 _ _ eP, by rw [sizeLine_eq]; omega, hN _ _ ⟨_, _, ks ++ [y], rfl, g7, by rw [List.length_append, List.length_singleton, lk], fun k m => (List.mem_append.mp m).elim (ok k) fun m => by rw [List.mem_singleton] at m; rw [m]; exact yk⟩⟩
      have la : (SX.S (l.take t)).length + (SX.S [cc]).length ≤ sizeLine := by rw [SX.S_len, SX.S_len, List.length_take, sizeLine_eq]; simp only [List.length_singleton]; omega
      have lb : (SX.S (l.take t ++ [cc])).length + (SX.S (l.drop t)).length ≤ sizeLine := by rw [SX.S_len, SX.S_len, List.length_append, List.length_take, List.length_drop, sizeLine_eq]; simp only [List.length_singleton]; omega
      refine ⟨la, by rw [SX.S_len, sizeLine_eq]; omega, lb, by walk_at "side", ?_⟩
      clear la lb e2 e3
      generalize ek : l.take t ++ [cc] ++ l.drop t = tx at ctx ltx fin ⊢
      have tok : ∀ {d : Nat}, KOk d (.txt (SX.S tx)) := KOk.txt ctx ltx
      have iok : ∀ {d : Nat}, KOk d (.num (i : Nat)) := KOk.num (by omega)
      have uok : ∀ {d : Nat}, KOk (d + 1) (.tup []) := KOk.tup (fun _ h => by cases h) (by decide)
      refine iteB (fun _ => ⟨tyL eP, mulL (by omega) (by omega), fin _ _ (.num (b + i * z3)) (Same.refl _) (.num _) (.num ?_)⟩) fun _ => iteB (fun _ => ⟨tyL eP, by walk_at "sz", fun q1 h1 => ⟨by walk_at "sz", fun q2 h2 => ?_⟩⟩) fun _ => iteB (fun _ => ⟨tyL eP, fin _ _ _ (Same.refl _) (.txt _) tok⟩) fun _ => ⟨tyL eP, by walk_at "sz", fun q1 h1 => ⟨by walk_at "sz", fun q2 h2 => ⟨by walk_at "sz", fun q3 h3 => ?_⟩⟩⟩
      · have h1 : 0 ≤ (i : Int) * z3 := Int.mul_nonneg (by omega) (by omega)
        have h2 : (i : Int) * z3 ≤ 40 * 2147483647 := Int.mul_le_mul (by omega) (by omega) (by omega) (by omega)
        omega
      · have sq1 := Same_upd (o := .tup []) (Same.refl H5) h1
        have sq2 := Same_upd (o := .tup [.str (SX.S tx), .int i, .int (-i), .str (Str.ofString ""), .ref q1, .int 0]) sq1 h2
        refine fin _ _ (.tup [.txt (SX.S tx), .num i, .num (-i), .txt (SX.S []), .tup [], .num 0]) sq2 (.tup upd_same (.cons (.txt _) (.cons (.num _) (.cons (.num _) (.cons ?_ (.cons (.tup (Same_upd (Same.refl _) h2 _ _ upd_same) .nil) (.cons (.num _) .nil))))))) (.tup (fun y m => ?_) (by simp))
        · rw [empty_S]
          exact .txt _
        · simp only [List.mem_cons, List.not_mem_nil, or_false] at m
          rcases m with rfl | rfl | rfl | rfl | rfl | rfl
          · exact tok
          · exact iok
          · exact .num (by omega)
          · exact .txt (fun _ h => by cases h) (by simp)
          · exact uok
          · exact .num (by omega)
      · have sq1 := Same_upd (o := .tup []) (Same.refl H5) h1
        have sq2 := Same_upd (o := .tup [.int i, .ref q1]) sq1 h2
        have e1 := Same_upd (o := .tup [.int i, .ref q1]) (Same.refl _) h2 _ _ (upd_same (H := H5) (a := q1) (o := .tup []))
        have e2 := upd_same (H := upd H5 q1 (.tup [])) (a := q2) (o := .tup [.int i, .ref q1])
        have sq3 := Same_upd (o := .tup [.str (SX.S tx), .ref q2]) sq2 h3
        refine fin _ _ (.tup [.txt (SX.S tx), .tup [.num i, .tup []]]) sq3 (.tup upd_same (.cons (.txt _) (.cons (.tup (Same_upd (Same.refl _) h3 _ _ e2) (.cons (.num _) (.cons (.tup (Same_upd (Same.refl _) h3 _ _ e1) .nil) .nil))) .nil))) (.tup (fun y m => ?_) (by simp))
        simp only [List.mem_cons, List.not_mem_nil, or_false] at m
        rcases m with rfl | rfl
        · exact tok
        · exact .tup (fun y m => by
            simp only [List.mem_cons, List.not_mem_nil, or_false] at m
            rcases m with rfl | rfl
            · exact iok
            · exact uok) (by simp)
    · rintro σ H5 ⟨v4, v8, ks, rfl, gw, lk, ok⟩
      obtain ⟨ws, eP, ew⟩ := gw.lst (i := 0) rfl
      walk_at "rd"
      exact k _ P ws ks (s4.trans gw.sm) fP eP ew.2 lk ok

end Law
namespace Law
open PySem PySem.Spec PyProof.Rows L2 My
theorem sc_law_alike : FnScope ["_law_found_here", "_law_due", "_law_one", "_law_two"] ["_law_found_here", "_law_due"] (defScope s_law_alike) := ⟨rfl, rfl, rfl, by decide +kernel, rfl, by decide +kernel, by decide +kernel⟩
theorem ok_law_alike0 {P : Program} {w : World} {K : PySem.W.Frag} {mg : Str → Option Value} {base : Heap} {A : Ad} (T : Txt K mg A) : FnOk P w K mg base CX0 (0 + 1) A.a_law_alike A.d_law_alike ["_law_found_here", "_law_due"] (spAlike 0) := by
  refine T.F_law_alike.ok sc_law_alike (fun vs H Q E h => ?_) (fun cdv A' outer s H vs Q E hr h => ?_)
  · exact len_alike h
  · have nd := sc_law_alike.nd
    have hu := hu_of hr
    refine ⟨_, (pss_cons (ps_if (pt_val (pe_callB My.call_isiF2 rfl T.n_isinstance (by decide +kernel) (pa_cons (pv 1) (pa_cons (pe_tup (pa_cons (pe_bltn (v := .ty "list") rfl T.n_list (by decide +kernel) rfl) (pa_cons (pe_bltn (v := .ty "tuple") rfl T.n_tuple (by decide +kernel) rfl) pa_nil))) pa_nil)))) pss_never pss_nil) (pss_cons (ps_if (PW.pt (pw_or (pt_cmpR op_ne (pe_callB call_isiF rfl T.n_isinstance (by decide +kernel) (pa_cons (pv 1) (pa_cons (pe_bltn (v := .ty "bool") rfl T.n_bool (by decide +kernel) rfl) pa_nil))) (pe_callB call_isiF rfl T.n_isinstance (by decide +kernel) (pa_cons (pv 0) (pa_cons (pe_bltn (v := .ty "bool") rfl T.n_bool (by decide +kernel) rfl) pa_nil))) (nomark _)) (pw_or1 (pt_cmpR op_ne (pe_callB call_isiF rfl T.n_isinstance (by decide +kernel) (pa_cons (pv 1) (pa_cons (pe_bltn (v := .ty "str") rfl T.n_str (by decide +kernel) rfl) pa_nil))) (pe_callB call_isiF rfl T.n_isinstance (by decide +kernel) (pa_cons (pv 0) (pa_cons (pe_bltn (v := .ty "str") rfl T.n_str (by decide +kernel) rfl) pa_nil))) (nomark _))))) (pss_one (ps_ret pe_bl)) pss_nil) (pss_one (ps_ret (pe_cmpR op_eq (pv 0) (pv 1) (nomark _)))))), ?_⟩
    clear nd
    obtain ⟨v, w', rfl, hA, q⟩ := h
    obtain ⟨rfl, sc⟩ := hA
    walk_at "rd"
    refine ⟨by walk_at "sz", fun p hp => isT_no upd_same sc ?_⟩
    have s1 := Same_upd (o := .tup [.ty "list", .ty "tuple"]) (Same.refl H) hp
    generalize upd H p (.tup [.ty "list", .ty "tuple"]) = H1 at s1 ⊢
    cases v with
    | non => walk_at "rd"; exact ⟨rfl, by simpa using q _ s1⟩
    | int i => walk_at "rd"; simpa using q _ s1
    | str x => walk_at "rd"; simpa using q _ s1
    | bl b => walk_at "rd"; simpa using q _ s1
    | _ => cases sc
theorem ok_law_alikeS {P : Program} {w : World} {K : PySem.W.Frag} {mg : Str → Option Value} {base : Heap} {A : Ad} (T : Txt K mg A) {n : Nat} (G : FnOk P w K mg base CX0 (n + 1) A.a_law_alike A.d_law_alike ["_law_found_here", "_law_due"] (spAlike n)) : FnOk P w K mg base CX0 (n + 1 + 1) A.a_law_alike A.d_law_alike ["_law_found_here", "_law_due"] (spAlike (n + 1)) := by
  refine T.F_law_alike.ok sc_law_alike (fun vs H Q E h => ?_) (fun cdv A' outer s H vs Q E hr h => ?_)
  · exact len_alike h
  · have nd := sc_law_alike.nd
    have hu := hu_of hr
    refine ⟨_, (pss_cons (ps_if (pt_val (pe_callB My.call_isiF2 rfl T.n_isinstance (by decide +kernel) (pa_cons (pv 1) (pa_cons (pe_tup (pa_cons (pe_bltn (v := .ty "list") rfl T.n_list (by decide +kernel) rfl) (pa_cons (pe_bltn (v := .ty "tuple") rfl T.n_tuple (by decide +kernel) rfl) pa_nil))) pa_nil)))) (pss_cons (ps_if (PW.pt (pw_or (pt_cmpR op_ne (pe_callB call_isiF rfl T.n_isinstance (by decide +kernel) (pa_cons (pv 0) (pa_cons (pe_bltn (v := .ty "list") rfl T.n_list (by decide +kernel) rfl) pa_nil))) (pe_callB call_isiF rfl T.n_isinstance (by decide +kernel) (pa_cons (pv 1) (pa_cons (pe_bltn (v := .ty "list") rfl T.n_list (by decide +kernel) rfl) pa_nil))) (nomark _)) (pw_or1 (pt_not (pt_val (pe_callB My.call_isiF2 rfl T.n_isinstance (by decide +kernel) (pa_cons (pv 0) (pa_cons (pe_tup (pa_cons (pe_bltn (v := .ty "list") rfl T.n_list (by decide +kernel) rfl) (pa_cons (pe_bltn (v := .ty "tuple") rfl T.n_tuple (by decide +kernel) rfl) pa_nil))) pa_nil)))))))) (pss_one (ps_ret pe_bl)) pss_nil) (pss_one (ps_ret (pe_and (pe_cmpR op_eq (pe_callB call_lenU rfl T.n_len PySem.boot_len (pa_cons (pv 0) pa_nil)) (pe_callB call_lenU rfl T.n_len PySem.boot_len (pa_cons (pv 1) pa_nil)) (nomark _)) (pe_one (pe_callB (cr_all rfl) rfl T.n_all (by decide +kernel) (pa_cons (pe_lc (own := [("_law_one", 2), ("_law_two", 3)]) rfl nd (RZ.pi_zipA rfl T.n_zip (pa_cons (pv 0) (pa_cons (pv 1) pa_nil))) (blkOk_by (own := [("_law_one", 2), ("_law_two", 3)]) (N := ["_law_found_here", "_law_due", "_law_one", "_law_two"]) (sc := defScope s_law_alike) (by decide +kernel)) (fun _ _ _ _ _ => (pg_tupK K (n := 2) rfl rfl (pgs_cons (pg_name (i := 2) nd rfl (Or.inl rfl)) (pgs_cons (pg_name (i := 3) nd rfl (Or.inl rfl)) pgs_nil)))) (fun _ _ _ _ _ => pts_nil) (fun _ _ _ _ _ => (pe_call G (hr.mono (Nat.le_refl _)) rfl T.m_law_alike T.F_law_alike.kp T.b_law_alike .nil pass0 (pa_cons (pv 2) (pa_cons (pv 3) pa_nil))))) pa_nil))))))) pss_nil) (pss_cons (ps_if (PW.pt (pw_or (pt_cmpR op_ne (pe_callB call_isiF rfl T.n_isinstance (by decide +kernel) (pa_cons (pv 1) (pa_cons (pe_bltn (v := .ty "bool") rfl T.n_bool (by decide +kernel) rfl) pa_nil))) (pe_callB call_isiF rfl T.n_isinstance (by decide +kernel) (pa_cons (pv 0) (pa_cons (pe_bltn (v := .ty "bool") rfl T.n_bool (by decide +kernel) rfl) pa_nil))) (nomark _)) (pw_or1 (pt_cmpR op_ne (pe_callB call_isiF rfl T.n_isinstance (by decide +kernel) (pa_cons (pv 1) (pa_cons (pe_bltn (v := .ty "str") rfl T.n_str (by decide +kernel) rfl) pa_nil))) (pe_callB call_isiF rfl T.n_isinstance (by decide +kernel) (pa_cons (pv 0) (pa_cons (pe_bltn (v := .ty "str") rfl T.n_str (by decide +kernel) rfl) pa_nil))) (nomark _))))) (pss_one (ps_ret pe_bl)) pss_nil) (pss_one (ps_ret (pe_cmpR op_eq (pv 0) (pv 1) (nomark _)))))), ?_⟩
    clear nd
    obtain ⟨v, w', rfl, hA, q⟩ := h
    walk_at "rd"
    rcases hA with ⟨rfl, sc⟩ | ⟨a, b, xs, ys, rfl, rfl, (⟨ha, hb⟩ | ⟨ha, hb⟩), e1, e2, e3⟩
    · skip
      refine ⟨by walk_at "sz", fun p hp => isT_no upd_same sc ?_⟩
      have s1 := Same_upd (o := .tup [.ty "list", .ty "tuple"]) (Same.refl H) hp
      generalize upd H p (.tup [.ty "list", .ty "tuple"]) = H1 at s1 ⊢
      cases v with
      | non => walk_at "rd"; exact ⟨rfl, by simpa using q _ s1⟩
      | int i => walk_at "rd"; simpa using q _ s1
      | str x => walk_at "rd"; simpa using q _ s1
      | bl b => walk_at "rd"; simpa using q _ s1
      | _ => cases sc
    · refine ⟨by walk_at "sz", fun p hp => ?_⟩
      have s1 := Same_upd (o := .tup [.ty "list", .ty "tuple"]) (Same.refl H) hp
      have hp1 := upd_same (H := H) (a := p) (o := .tup [.ty "list", .ty "tuple"])
      generalize upd H p (.tup [.ty "list", .ty "tuple"]) = H1 at s1 hp1 ⊢
      refine isT_seq hp1 (.inl (s1 _ _ hb)) ?_
      have ha1 := s1 _ _ ha
      have hb1 := s1 _ _ hb
      walk_at "rd"
      rw [isi_tup_list ha1, isi_tup_list hb1]
      walk_at "rd"
      refine ⟨by walk_at "sz", fun p2 hp2 => ?_⟩
      have s2 := Same_upd (o := .tup [.ty "list", .ty "tuple"]) s1 hp2
      have hp3 := upd_same (H := H1) (a := p2) (o := .tup [.ty "list", .ty "tuple"])
      generalize upd H1 p2 (.tup [.ty "list", .ty "tuple"]) = H2 at s2 hp3 ⊢
      refine isT_seq hp3 (.inl (s2 _ _ ha)) ?_
      walk_at "rd"
      refine ⟨_, .inr (SqT.of (s2 _ _ ha)), _, .inr (SqT.of (s2 _ _ hb)), iteP (by omega) ⟨xs, ys, .inr ⟨SqT.of (s2 _ _ ha), SqT.of (s2 _ _ hb), fun D hD => ?_⟩⟩⟩
      refine go_lct (walk_zipT (xs := xs) (ys := ys) (n := xs.length) (by omega)) (by rw [sizeLine_eq]; omega) hD (fun H s => ⟨SqT.of (s _ _ (s2 _ _ ha)), SqT.of (s _ _ (s2 _ _ hb))⟩) ?_ (fun H s hl => all_true hl (q _ (s2.trans s))) gTup2_mono
      rintro N i x H4 H5 hi s4 ⟨T, x1, y1, rfl, hT, rfl, g1, g2⟩ hN
      have sT := Same_upd (o := .tup [x1, y1]) (Same.refl H4) hT
      walk_at "rd"
      refine ⟨_, SqT.of upd_same, rfl, ?_⟩
      walk_at "rd"
      exact ⟨x1, y1, rfl, (e3 i x1 y1 g1 g2).same ((s2.trans s4).trans sT), fun H7 s7 => hN _ (sT.trans s7)⟩
    · refine ⟨by walk_at "sz", fun p hp => ?_⟩
      have s1 := Same_upd (o := .tup [.ty "list", .ty "tuple"]) (Same.refl H) hp
      have hp1 := upd_same (H := H) (a := p) (o := .tup [.ty "list", .ty "tuple"])
      generalize upd H p (.tup [.ty "list", .ty "tuple"]) = H1 at s1 hp1 ⊢
      refine isT_seq hp1 (.inr (s1 _ _ hb)) ?_
      have ha1 := s1 _ _ ha
      have hb1 := s1 _ _ hb
      walk_at "rd"
      rw [isi_lst_list ha1, isi_lst_list hb1]
      walk_at "rd"
      refine ⟨by walk_at "sz", fun p2 hp2 => ?_⟩
      have s2 := Same_upd (o := .tup [.ty "list", .ty "tuple"]) s1 hp2
      have hp3 := upd_same (H := H1) (a := p2) (o := .tup [.ty "list", .ty "tuple"])
      generalize upd H1 p2 (.tup [.ty "list", .ty "tuple"]) = H2 at s2 hp3 ⊢
      refine isT_seq hp3 (.inr (s2 _ _ ha)) ?_
      walk_at "rd"
      refine ⟨_, .inl (SqL.of (s2 _ _ ha)), _, .inl (SqL.of (s2 _ _ hb)), iteP (by omega) ⟨xs, ys, .inl ⟨SqL.of (s2 _ _ ha), SqL.of (s2 _ _ hb), fun D hD => ?_⟩⟩⟩
      refine go_lct (walk_zip (xs := xs) (ys := ys) (n := xs.length) (by omega)) (by rw [sizeLine_eq]; omega) hD (fun H s => ⟨SqL.of (s _ _ (s2 _ _ ha)), SqL.of (s _ _ (s2 _ _ hb))⟩) ?_ (fun H s hl => all_true hl (q _ (s2.trans s))) gTup2_mono
      rintro N i x H4 H5 hi s4 ⟨T, x1, y1, rfl, hT, rfl, g1, g2⟩ hN
      have sT := Same_upd (o := .tup [x1, y1]) (Same.refl H4) hT
      walk_at "rd"
      refine ⟨_, SqT.of upd_same, rfl, ?_⟩
      walk_at "rd"
      exact ⟨x1, y1, rfl, (e3 i x1 y1 g1 g2).same ((s2.trans s4).trans sT), fun H7 s7 => hN _ (sT.trans s7)⟩
theorem ok_law_alike {P : Program} {w : World} {K : PySem.W.Frag} {mg : Str → Option Value} {base : Heap} {A : Ad} (T : Txt K mg A) : ∀ n : Nat, FnOk P w K mg base CX0 (n + 1) A.a_law_alike A.d_law_alike ["_law_found_here", "_law_due"] (spAlike n)
  | 0 => ok_law_alike0 T
  | n + 1 => ok_law_alikeS T (ok_law_alike T n)

end Law
namespace My
open PySem PySem.Spec PyProof.Rows L2
def val72 (n : Int) : Ky := if n % 6 = 0 then .num n else if n % 6 = 1 then .non else if n % 6 = 2 then .txt (Str.ofString "") else if n % 6 = 3 then .tup [] else if n % 6 = 4 then .num (5 - n * 915284143142894488543036909848597452525493493 % 1000000000000000000000000000000000000000000000000000000000000) else .tup [.txt (Str.ofString "a"), .non]
def spVal72 : Sp := fun vs H Q _ => ∃ n : Int, vs = [.int n] ∧ (0 ≤ n ∧ n < 2 ^ 60) ∧ ∀ H' v, Same H H' → KyAt H' v (val72 n) → Q v H'
theorem len_val72 {vs H Q E} (h : spVal72 vs H Q E) : vs.length = 1 := by obtain ⟨_, rfl, _⟩ := h; rfl
/-! what is told of a kin, and of the table beside it -/
inductive Sd where
  | lack
  | nokey
  | ky (k : Ky)
  | lst (ks : List Ky)
  | bl (b : Bool)
def RawAt (Hb H : Hp) (v : V) : Sd → Prop
  | .lack => False
  | .nokey => False
  | .ky k => k.val = true ∧ k.dep ≤ 10 ∧ KyAt H v k
  | .lst ks => ∃ (L : Addr) (xs : List V), v = .ref L ∧ Hb L = some (.lst xs) ∧ KysAt H xs ks ∧ (∀ k ∈ ks, k.val = true ∧ k.dep ≤ 10) ∧ ks.length ≤ 5000
  | .bl b => v = .bl b
def Sh.tripO (S : Sh) : Option Nat → Ky
  | none => .non
  | some q => S.trip q
def keyed (way : Int) : Bool := decide (way = 0 ∨ way = 1 ∨ way = 2 ∨ way = 7 ∨ way = 8 ∨ way = 11)
def ask72 (S : Sh) (way : Int) (y : Ky) (n : Int) : Sd × Sh :=
  if keyed way = true ∧ within 3 y = false then (.nokey, S)
  else if way = 0 then (match S.heldAt y with | none => .lack | some z => .ky z, S)
  else if way = 1 then (match S.heldAt y with | none => .ky (.tup [.non, .num n]) | some z => .ky (.tup [z, z]), S)
  else if way = 2 then (.bl (S.find y).isSome, S)
  else if way = 3 then (.ky (.num (S.com - S.goi)), S)
  else if way = 4 then (.lst S.pairs, S)
  else if way = 5 then (.ky (.tup [S.tripO (S.after (n % 50 - 2)), S.tripO (S.ahead (n % 50 - 2))]), S)
  else if way = 6 then (.ky (.tup (S.counts.map .num)), S)
  else if way = 7 then (.bl (S.putT y (val72 n)).1, (S.putT y (val72 n)).2)
  else if way = 8 then (match S.find y with | none => (.lack, S) | some q => (.ky (S.held.getD q .non), S.went q y))
  else if way = 9 then (match S.last with | none => (.lack, S) | some q => (.ky (.tup [S.row.getD q .non, S.held.getD q .non]), S.went q (S.row.getD q .non)))
  else (.ky .non, S.emptied)
def put2 (w : World) (C CM : Addr) (ts : List Thing) (i j : Nat) (a : Addr) (S : Sh) (x : Kx) (M : Mk) : List Thing := (ts.set i (knT w C a S x)).set j (mkT CM x.m M)
def spAskedK (w : World) (C CM CN CL : Addr) : Sp := fun vs H Q E => ∃ (a : Addr) (way n : Int) (v : V) (y : Ky) (Hb : Hp) (ts : List Thing) (i j : Nat) (S : Sh) (x : Kx) (M : Mk), vs = [.ref a, .int way, v, .int n] ∧ KE w C CM Hb H ts i j a S x M ∧ Kr S x M ∧ KyAt H v y ∧ y.fit = true ∧ (within 3 y = true → KeyOk y) ∧ (0 ≤ n ∧ n < 2 ^ 60) ∧ S.lv.length ≤ 1365 ∧ (0 ≤ way ∧ way ≤ 11) ∧ (way = 11 → within 3 y = false) ∧
  ((ask72 S way y n).1 = .nokey → ∀ H', Same H H' → E (.ref CN) none H') ∧ ((ask72 S way y n).1 = .lack → ∀ H', Same H H' → E (.ref CL) none H') ∧
  ∀ H' Hb' v' x' M', x'.m = x.m → Same Hb Hb' → GW Hb' H' (put2 w C CM ts i j a (ask72 S way y n).2 x' M') → Kr (ask72 S way y n).2 x' M' → M.Le M' → Keeps H H' → (x.ap = true → x'.ap = true) → RawAt Hb' H' v' (ask72 S way y n).1 → Q v' H'
theorem len_askedK {w : World} {C CM CN CL : Addr} {vs H Q E} (h : spAskedK w C CM CN CL vs H Q E) : vs.length = 4 := by obtain ⟨_, _, _, _, _, _, _, _, _, _, _, _, rfl, _⟩ := h; rfl
def spAskedT (C CN CL : Addr) : Sp := fun vs H Q E => ∃ (a : Addr) (way n : Int) (v : V) (y : Ky) (Hb : Hp) (ts : List Thing) (i : Nat) (S : Sh), vs = [.ref a, .int way, v, .int n] ∧ GW Hb H ts ∧ ts[i]? = some (shT C a S) ∧ KyAt H v y ∧ y.fit = true ∧ (within 3 y = true → KeyOk y) ∧ (0 ≤ n ∧ n < 2 ^ 60) ∧ S.lv.length ≤ 1365 ∧ (0 ≤ way ∧ way ≤ 11) ∧ (way = 11 → within 3 y = false) ∧
  ((ask72 S way y n).1 = .nokey → ∀ H', Same H H' → E (.ref CN) none H') ∧ ((ask72 S way y n).1 = .lack → ∀ H', Same H H' → E (.ref CL) none H') ∧
  ∀ H' Hb' v', Same Hb Hb' → GW Hb' H' (ts.set i (shT C a (ask72 S way y n).2)) → Keeps H H' → RawAt Hb' H' v' (ask72 S way y n).1 → Q v' H'
theorem len_askedT {C CN CL : Addr} {vs H Q E} (h : spAskedT C CN CL vs H Q E) : vs.length = 4 := by obtain ⟨_, _, _, _, _, _, _, _, _, rfl, _⟩ := h; rfl
section
variable {S : Sh} {way : Int} {y : Ky} {n : Int} {w : World} {C CM : Addr} {ts : List Thing} {i j : Nat} {a : Addr} {x : Kx} {M : Mk} {H H' : Hp} {Q : VK}
theorem ask_bad (h : keyed way = true) (b : within 3 y = false) : ask72 S way y n = (.nokey, S) := by unfold ask72; rw [if_pos ⟨h, b⟩]
theorem ask_0 (h : within 3 y = true) : ask72 S 0 y n = (match S.heldAt y with | none => .lack | some z => .ky z, S) := by simp [ask72, h]
theorem ask_1 (h : within 3 y = true) : ask72 S 1 y n = (match S.heldAt y with | none => .ky (.tup [.non, .num n]) | some z => .ky (.tup [z, z]), S) := by simp [ask72, h]
theorem ask_2 (h : within 3 y = true) : ask72 S 2 y n = (.bl (S.find y).isSome, S) := by simp [ask72, h]
theorem ask_3 : ask72 S 3 y n = (.ky (.num (S.com - S.goi)), S) := by simp [ask72, keyed]
theorem ask_4 : ask72 S 4 y n = (.lst S.pairs, S) := by simp [ask72, keyed]
theorem ask_5 : ask72 S 5 y n = (.ky (.tup [S.tripO (S.after (n % 50 - 2)), S.tripO (S.ahead (n % 50 - 2))]), S) := by simp [ask72, keyed]
theorem ask_6 : ask72 S 6 y n = (.ky (.tup (S.counts.map .num)), S) := by simp [ask72, keyed]
theorem ask_7 (h : within 3 y = true) : ask72 S 7 y n = (.bl (S.putT y (val72 n)).1, (S.putT y (val72 n)).2) := by simp [ask72, h]
theorem ask_8 (h : within 3 y = true) : ask72 S 8 y n = (match S.find y with | none => (.lack, S) | some q => (.ky (S.held.getD q .non), S.went q y)) := by simp [ask72, h]
theorem ask_9 : ask72 S 9 y n = (match S.last with | none => (.lack, S) | some q => (.ky (.tup [S.row.getD q .non, S.held.getD q .non]), S.went q (S.row.getD q .non))) := by simp [ask72, keyed]
theorem ask_10 : ask72 S 10 y n = (.ky .non, S.emptied) := by simp [ask72, keyed]
theorem put2_same (hi : ts[i]? = some (knT w C a S x)) (hj : ts[j]? = some (mkT CM x.m M)) : put2 w C CM ts i j a S x M = ts := by
  unfold put2
  rw [set_id hi, set_id hj]
theorem putC_ap (e : x.ap = true) : (putC S x M y).1 = true := by
  unfold putC
  split
  · exact e
  · split
    · unfold layC; rw [if_pos e]
    · unfold layC; rw [if_pos e]
theorem heldAt_mem {z : Ky} (h : S.heldAt y = some z) : z ∈ S.held := by
  unfold Sh.heldAt at h
  split at h
  · cases h
  · exact List.mem_of_getElem? h
theorem two_ok {a b : Ky} (ha : a.val = true ∧ a.dep ≤ 9) (hb : b.val = true ∧ b.dep ≤ 9) : (Ky.tup [a, b]).val = true ∧ (Ky.tup [a, b]).dep ≤ 10 :=
  ⟨tup_vals (vals_two ha.1 hb.1) (by simp), by simp [Ky.dep, Ky.deps]; omega⟩
theorem getD_row (o : S.Ok) (q : Nat) : (S.row.getD q .non).val = true ∧ (S.row.getD q .non).dep ≤ 8 := by
  rw [List.getD_eq_getElem?_getD]
  cases e : S.row[q]? with
  | none => exact ⟨rfl, by simp [Ky.dep]⟩
  | some k =>
    rcases o.cw.rok k (List.mem_of_getElem? e) with h | h
    · rw [h]
      exact ⟨rfl, by simp [Ky.dep]⟩
    · exact ⟨h.val, Nat.le_trans h.d (by decide)⟩
theorem getD_held (o : S.Ok) (q : Nat) : (S.held.getD q .non).val = true ∧ (S.held.getD q .non).dep ≤ 8 := by
  rw [List.getD_eq_getElem?_getD]
  cases e : S.held[q]? with
  | none => exact ⟨rfl, by simp [Ky.dep]⟩
  | some k => exact o.hv k (List.mem_of_getElem? e)
theorem trip_ok (o : S.Ok) : ∀ p : Option Nat, (S.tripO p).val = true ∧ (S.tripO p).dep ≤ 9
  | none => ⟨rfl, by simp [Sh.tripO, Ky.dep]⟩
  | some q => by
    have h1 := getD_row o q
    have h2 := getD_held o q
    refine ⟨?_, ?_⟩
    · unfold Sh.tripO Sh.trip
      exact tup_vals (by simp only [Ky.vals, Ky.val, h1.1, h2.1, Bool.and_self]) (by simp)
    · unfold Sh.tripO Sh.trip
      simp only [Ky.dep, Ky.deps]
      omega
theorem after_of {p : Option Nat} : (∀ H' u, Same H H' → KyAt H' u (S.tripO p) → Q u H') → (match p with
    | none => ∀ H', Same H H' → Q .non H'
    | some q => ∀ H' v, Same H H' → KyAt H' v (S.trip q) → Q v H') := by
  intro h
  cases p with
  | none => exact fun H' s => h H' _ s .non
  | some q => exact fun H' v s hv => h H' v s hv
theorem pairs_ok (o : S.Ok) : (∀ k ∈ S.pairs, k.val = true ∧ k.dep ≤ 10) ∧ S.pairs.length ≤ 5000 := by
  have e : S.pairs = S.tri.map triPair := by
    rw [pairs_lv o, ← tri_lv o, List.map_map]
    rfl
  rw [e]
  refine ⟨fun k m => ?_, by rw [List.length_map]; exact o.few⟩
  obtain ⟨t, mt, rfl⟩ := List.mem_map.mp m
  obtain ⟨h1, h2⟩ := o.lok.ok t mt
  exact two_ok ⟨h1.val, Nat.le_trans h1.d (by decide)⟩ ⟨h2.1, Nat.le_trans h2.2 (by decide)⟩
theorem counts_ok : (Ky.tup (S.counts.map .num)).val = true ∧ (Ky.tup (S.counts.map .num)).dep ≤ 10 := by
  unfold Sh.counts
  refine ⟨by simp [Ky.val, Ky.vals], by simp [Ky.dep, Ky.deps]⟩
theorem val72_ok : HVal (val72 n) := by
  unfold val72
  split
  · exact ⟨rfl, by simp [Ky.dep]⟩
  split
  · exact ⟨rfl, by simp [Ky.dep]⟩
  split
  · exact ⟨by decide +kernel, by simp [Ky.dep]⟩
  split
  · exact ⟨rfl, by simp [Ky.dep, Ky.deps]⟩
  split
  · exact ⟨rfl, by simp [Ky.dep]⟩
  · exact ⟨by decide +kernel, by simp [Ky.dep, Ky.deps]⟩
end
def SaidAt (Hb H : Hp) (v : V) : Sd → Prop
  | .lack => ∃ T, v = .ref T ∧ Hb T = some (.tup [.str (Str.ofString "refused"), .str (Str.ofString "lacking"), .bl false])
  | .nokey => ∃ T, v = .ref T ∧ Hb T = some (.tup [.str (Str.ofString "refused"), .str (Str.ofString "no key"), .bl true])
  | sd => ∃ (T : Addr) (u : V), v = .ref T ∧ Hb T = some (.tup [.str (Str.ofString "said"), u]) ∧ RawAt Hb H u sd
def spSaidK (w : World) (C CM : Addr) : Sp := fun vs H Q _ => ∃ (a : Addr) (way n : Int) (v : V) (y : Ky) (Hb : Hp) (ts : List Thing) (i j : Nat) (S : Sh) (x : Kx) (M : Mk), vs = [.ref a, .int way, v, .int n] ∧ KE w C CM Hb H ts i j a S x M ∧ Kr S x M ∧ KyAt H v y ∧ y.fit = true ∧ (within 3 y = true → KeyOk y) ∧ (0 ≤ n ∧ n < 2 ^ 60) ∧ S.lv.length ≤ 1365 ∧ (0 ≤ way ∧ way ≤ 11) ∧ (way = 11 → within 3 y = false) ∧
  ∀ H' Hb' v' x' M', x'.m = x.m → Same Hb Hb' → GW Hb' H' (put2 w C CM ts i j a (ask72 S way y n).2 x' M') → Kr (ask72 S way y n).2 x' M' → M.Le M' → Keeps H H' → (x.ap = true → x'.ap = true) → SaidAt Hb' H' v' (ask72 S way y n).1 → Q v' H'
theorem len_saidK {w : World} {C CM : Addr} {vs H Q E} (h : spSaidK w C CM vs H Q E) : vs.length = 4 := by obtain ⟨_, _, _, _, _, _, _, _, _, _, _, _, rfl, _⟩ := h; rfl
def spSaidT (C : Addr) : Sp := fun vs H Q _ => ∃ (a : Addr) (way n : Int) (v : V) (y : Ky) (Hb : Hp) (ts : List Thing) (i : Nat) (S : Sh), vs = [.ref a, .int way, v, .int n] ∧ GW Hb H ts ∧ ts[i]? = some (shT C a S) ∧ KyAt H v y ∧ y.fit = true ∧ (within 3 y = true → KeyOk y) ∧ (0 ≤ n ∧ n < 2 ^ 60) ∧ S.lv.length ≤ 1365 ∧ (0 ≤ way ∧ way ≤ 11) ∧ (way = 11 → within 3 y = false) ∧
  ∀ H' Hb' v', Same Hb Hb' → GW Hb' H' (ts.set i (shT C a (ask72 S way y n).2)) → Keeps H H' → SaidAt Hb' H' v' (ask72 S way y n).1 → Q v' H'
theorem len_saidT {C : Addr} {vs H Q E} (h : spSaidT C vs H Q E) : vs.length = 4 := by obtain ⟨_, _, _, _, _, _, _, _, _, rfl, _⟩ := h; rfl
theorem fn_or {P : Program} {w : World} {K : PySem.W.Frag} {mg : Str → Option Value} {base : Heap} {CX : CXT} {k : Nat} {f : Addr} {fd : FuncData} {ps : List Str} {sp1 sp2 : Sp} (F1 : FnOk P w K mg base CX k f fd ps sp1) (F2 : FnOk P w K mg base CX k f fd ps sp2) : FnOk P w K mg base CX k f fd ps (fun vs H Q E => sp1 vs H Q E ∨ sp2 vs H Q E) :=
  ⟨fun vs H Q E h => h.elim (F1.len vs H Q E) (F2.len vs H Q E), fun A outer s H args us vs Q E hr e0 b r h => h.elim (F1.run A outer s H args us vs Q E hr e0 b r) (F2.run A outer s H args us vs Q E hr e0 b r)⟩
def Still (S : Sh) (r : Sd × Sh) : Prop := r.2 = S ∨ (r.1 ≠ .lack ∧ r.1 ≠ .nokey)
theorem still_ite {S : Sh} {c : Prop} [Decidable c] {a b : Sd × Sh} (ha : Still S a) (hb : Still S b) : Still S (if c then a else b) := by
  by_cases h : c
  · rw [if_pos h]; exact ha
  · rw [if_neg h]; exact hb
theorem ask_cases {S : Sh} {way : Int} {y : Ky} {n : Int} : Still S (ask72 S way y n) := by
  unfold ask72
  refine still_ite (.inl rfl) (still_ite (.inl rfl) (still_ite (.inl rfl) (still_ite (.inl rfl) (still_ite (.inl rfl) (still_ite (.inl rfl) (still_ite (.inl rfl) (still_ite (.inl rfl) (still_ite ?_ (still_ite ?_ (still_ite ?_ ?_))))))))))
  · exact .inr ⟨(fun z => nomatch z), (fun z => nomatch z)⟩
  · cases S.find y with
    | none => exact .inl rfl
    | some q => exact .inr ⟨(fun z => nomatch z), (fun z => nomatch z)⟩
  · cases S.last with
    | none => exact .inl rfl
    | some q => exact .inr ⟨(fun z => nomatch z), (fun z => nomatch z)⟩
  · exact .inr ⟨(fun z => nomatch z), (fun z => nomatch z)⟩
theorem ask_same {S : Sh} {way : Int} {y : Ky} {n : Int} (e : (ask72 S way y n).1 = .lack ∨ (ask72 S way y n).1 = .nokey) : (ask72 S way y n).2 = S :=
  ask_cases.resolve_right fun h => e.elim h.1 h.2
theorem RawAt.low {Hb Hb' H H' : Hp} {v : V} {sd : Sd} (s : Same Hb Hb') (kp : Keeps H H') (h : RawAt Hb H v sd) : RawAt Hb' H' v sd := by
  cases sd with
  | lack => exact h.elim
  | nokey => exact h.elim
  | ky k => exact ⟨h.1, h.2.1, kp _ _ h.1 h.2.2⟩
  | lst ks =>
    obtain ⟨L, xs, e1, e2, e3, e4, e5⟩ := h
    exact ⟨L, xs, e1, s _ _ e2, kp.kys (vals_iff.mpr fun k m => (e4 k m).1) e3, e4, e5⟩
  | bl b => exact h
theorem SaidAt.low {Hb Hb' H H' : Hp} {v : V} {sd : Sd} (s : Same Hb Hb') (kp : Keeps H H') (h : SaidAt Hb H v sd) : SaidAt Hb' H' v sd := by
  cases sd with
  | lack => obtain ⟨T, e1, e2⟩ := h; exact ⟨T, e1, s _ _ e2⟩
  | nokey => obtain ⟨T, e1, e2⟩ := h; exact ⟨T, e1, s _ _ e2⟩
  | ky k => obtain ⟨T, u, e1, e2, r⟩ := h; exact ⟨T, u, e1, s _ _ e2, r.low s kp⟩
  | lst ks => obtain ⟨T, u, e1, e2, r⟩ := h; exact ⟨T, u, e1, s _ _ e2, r.low s kp⟩
  | bl b => obtain ⟨T, u, e1, e2, r⟩ := h; exact ⟨T, u, e1, s _ _ e2, r.low s kp⟩
theorem SaidAt.raw {Hb H : Hp} {T : Addr} {u : V} {sd : Sd} (e : Hb T = some (.tup [.str (Str.ofString "said"), u])) (r : RawAt Hb H u sd) : SaidAt Hb H (.ref T) sd := by
  cases sd with
  | lack => exact r.elim
  | nokey => exact r.elim
  | ky k => exact ⟨T, u, rfl, e, r⟩
  | lst ks => exact ⟨T, u, rfl, e, r⟩
  | bl b => exact ⟨T, u, rfl, e, r⟩
theorem raw_alike {Hb H : Hp} {u v : V} {sd : Sd} (s : Same Hb H) (h1 : RawAt Hb H u sd) (h2 : RawAt Hb H v sd) : AlikeN 11 H u v := by
  cases sd with
  | lack => exact h1.elim
  | nokey => exact h1.elim
  | ky k => exact alike_ky k h1.1 (Nat.le_trans h1.2.1 (by decide)) h1.2.2 h2.2.2
  | lst ks =>
    obtain ⟨L, xs, rfl, e2, e3, e4, e5⟩ := h1
    obtain ⟨L', xs', rfl, e2', e3', -, -⟩ := h2
    exact alike_lst (s _ _ e2) (s _ _ e2') e3 e3' e4 (by omega)
  | bl b =>
    cases h1
    cases h2
    exact .scal rfl
theorem two_alike {H : Hp} {a b : Addr} {u v c : V} (ha : H a = some (.tup [c, u])) (hb : H b = some (.tup [c, v])) (sc : scalV c = true) (h : AlikeN 11 H u v) : AlikeN 12 H (.ref a) (.ref b) :=
  .inr ⟨a, b, _, _, rfl, rfl, .inl ⟨ha, hb⟩, rfl, by simp, fun i x y g1 g2 => by
    match i with
    | 0 => cases g1; cases g2; exact .scal sc
    | 1 => cases g1; cases g2; exact h
    | i + 2 => simp at g1⟩
theorem said_alike {Hb H : Hp} {u v : V} {sd : Sd} (s : Same Hb H) (h1 : SaidAt Hb H u sd) (h2 : SaidAt Hb H v sd) : AlikeN 12 H u v := by
  have flat : ∀ {a b : Addr} {xs : List V}, Hb a = some (.tup xs) → Hb b = some (.tup xs) → (∀ x ∈ xs, scalV x = true) → xs.length ≤ 100000 → AlikeN 12 H (.ref a) (.ref b) := fun ha hb hs z => alike_flat (s _ _ ha) (s _ _ hb) hs z
  cases sd with
  | lack =>
    obtain ⟨T, rfl, e1⟩ := h1
    obtain ⟨T', rfl, e2⟩ := h2
    exact flat e1 e2 (by simp [scalV]) (by simp)
  | nokey =>
    obtain ⟨T, rfl, e1⟩ := h1
    obtain ⟨T', rfl, e2⟩ := h2
    exact flat e1 e2 (by simp [scalV]) (by simp)
  | ky k =>
    obtain ⟨T, u, rfl, e1, r1⟩ := h1
    obtain ⟨T', v, rfl, e2, r2⟩ := h2
    exact two_alike (s _ _ e1) (s _ _ e2) rfl (raw_alike s r1 r2)
  | lst k =>
    obtain ⟨T, u, rfl, e1, r1⟩ := h1
    obtain ⟨T', v, rfl, e2, r2⟩ := h2
    exact two_alike (s _ _ e1) (s _ _ e2) rfl (raw_alike s r1 r2)
  | bl k =>
    obtain ⟨T, u, rfl, e1, r1⟩ := h1
    obtain ⟨T', v, rfl, e2, r2⟩ := h2
    exact two_alike (s _ _ e1) (s _ _ e2) rfl (raw_alike s r1 r2)
end My
namespace Law
open PySem PySem.Spec PyProof.Rows L2 My
theorem sc_law_value : FnScope ["_law_number", "_law_some"] ["_law_number"] (defScope s_law_value) := ⟨rfl, rfl, rfl, by decide +kernel, rfl, by decide +kernel, by decide +kernel⟩
theorem ok_law_value {P : Program} {w : World} {K : PySem.W.Frag} {mg : Str → Option Value} {base : Heap} {A : Ad} (T : Txt K mg A) : FnOk P w K mg base CX0 1 A.a_law_value A.d_law_value ["_law_number"] spVal72 := by
  refine T.F_law_value.ok sc_law_value (fun vs H Q E h => ?_) (fun cdv A' outer s H vs Q E hr h => ?_)
  · exact len_val72 h
  · have nd := sc_law_value.nd
    have hu := hu_of hr
    refine ⟨_, (pss_cons (ps_set (i := 1) nd rfl (Or.inl rfl) (pe_lst (pa_cons (pv 0) (pa_cons pe_non (pa_cons pe_str (pa_cons (pe_tup pa_nil) (pa_cons (pe_op op_sub pe_int (pe_op op_mod (pe_op op_mulX (pv 0) (pe_op op_pow pe_int pe_int)) (pe_op op_pow pe_int pe_int))) (pa_cons (pe_tup (pa_cons pe_str (pa_cons pe_non pa_nil))) pa_nil)))))))) (pss_one (ps_ret (pe_ix ix_list (pv 1) (pe_op op_mod (pv 0) pe_int) (fun _ _ => rfl))))), ?_⟩
    clear nd
    obtain ⟨n, rfl, hn, k⟩ := h
    have hb : Bd 0 n := ⟨60, by decide, by omega⟩
    walk_at "rd"
    have m0 := Int.emod_nonneg n (show (6 : Int) ≠ 0 by decide)
    have m1 := Int.emod_lt_of_pos n (show (0 : Int) < 6 by decide)
    refine ⟨by walk_at "sz", fun p hp => ⟨by walk_at "side", hb.mul (by decide) (by decide +kernel), by walk_at "side", by walk_at "sz", fun q hq => ⟨by walk_at "sz", fun r hr => ?_⟩⟩⟩
    have e1 := upd_same (H := H) (a := p) (o := .tup [])
    have s1 := Same_upd (o := .tup []) (Same.refl H) hp
    generalize upd H p (.tup []) = H1 at e1 s1 hq hr ⊢
    have e2 := upd_same (H := H1) (a := q) (o := .tup [V.str (Str.ofString "a"), V.non])
    have s2 := Same_upd (o := .tup [V.str (Str.ofString "a"), V.non]) (Same.refl H1) hq
    have e1 := s2 _ _ e1
    have s2 := s1.trans s2
    generalize upd H1 q (.tup [V.str (Str.ofString "a"), V.non]) = H2 at e1 e2 s2 hr ⊢
    have k := fun o v hy => k (upd H2 r o) v (Same_upd (o := o) s2 hr) hy
    unfold val72 at k
    rcases (by omega : n % 6 = 0 ∨ n % 6 = 1 ∨ n % 6 = 2 ∨ n % 6 = 3 ∨ n % 6 = 4 ∨ n % 6 = 5) with e | e | e | e | e | e
    · exact ⟨_, _, SqL.of upd_same, by rw [e]; rfl, k _ _ (by simp only [e]; exact .num _)⟩
    · exact ⟨_, _, SqL.of upd_same, by rw [e]; rfl, k _ _ (by simp only [e]; exact .non)⟩
    · exact ⟨_, _, SqL.of upd_same, by rw [e]; rfl, k _ _ (by simp only [e]; exact .txt _)⟩
    · exact ⟨_, _, SqL.of upd_same, by rw [e]; rfl, k _ _ (by simp only [e]; exact .tup ((upd_ne (hr.ne e1)).trans e1) .nil)⟩
    · exact ⟨_, _, SqL.of upd_same, by rw [e]; rfl, k _ _ (by simp only [e]; exact .num _)⟩
    · exact ⟨_, _, SqL.of upd_same, by rw [e]; rfl, k _ _ (by simp only [e]; exact .tup ((upd_ne (hr.ne e2)).trans e2) (.cons (.txt _) (.cons .non .nil)))⟩

end Law
namespace Law
open PySem PySem.Spec PyProof.Rows L2 My
theorem sc_law_asked : FnScope ["_law_book", "_law_way", "_law_key", "_law_number"] ["_law_book", "_law_way", "_law_key", "_law_number"] (defScope s_law_asked) := ⟨rfl, rfl, rfl, by decide +kernel, rfl, by decide +kernel, by decide +kernel⟩
theorem ok_askedK {P : Program} {w : World} {K : PySem.W.Frag} {mg : Str → Option Value} {base : Heap} {A : Ad} (T : Txt K mg A) : FnOk P w K mg base (L2N.CX P w) 11 A.a_law_asked A.d_law_asked ["_law_book", "_law_way", "_law_key", "_law_number"] (spAskedK w A.c_Kin A.c_Maker A.c_NoKey A.c_Lacking) := by
  refine My.okN T.F_law_asked sc_law_asked (fun vs H Q E h => ?_) (fun cdv A' outer s H vs Q E hr h => ?_)
  · exact len_askedK h
  · have nd := sc_law_asked.nd
    have hu := hu_of hr
    refine ⟨_, (pss_cons (ps_if (pt_cmpR op_eq (pv 1) pe_int (nomark _)) (pss_one (ps_ret (My.pe_or (pe_meth (pv 0) T.cl_Kin T.me_Kin_at (ok_Kin_at (P := P) (w := w) T) (hr.mono (by decide)) T.b_Shelf_at .nil (L2N.passes_call (L2N.takes_of rfl rfl rfl rfl) fun _ _ _ _ h => h) (pa_cons (pv 2) pa_nil)) (pe_meth (pv 0) T.cl_Table T.me_Table_at (ok_Table_at (P := P) (w := w) T) (hr.mono (by decide)) T.b_Shelf_at .nil (L2N.passes_call (L2N.takes_of rfl rfl rfl rfl) fun _ _ _ _ h => h) (pa_cons (pv 2) pa_nil))))) pss_nil) (pss_cons (ps_if (pt_cmpR op_eq (pv 1) pe_int (nomark _)) (pss_one (ps_ret (pe_tup (pa_cons (My.pe_or (pe_meth (pv 0) T.cl_Kin T.me_Kin_told (ok_Kin_told (P := P) (w := w) T) (hr.mono (by decide)) T.b_Shelf_told_2.choose_spec.2 T.b_Shelf_told_2.choose_spec.1 (L2N.passes_call (L2N.takes_of rfl rfl rfl rfl) fun _ _ _ _ h => h) (pa_cons (pv 2) pa_nil)) (pe_meth (pv 0) T.cl_Table T.me_Table_told (ok_Table_told (P := P) (w := w) T) (hr.mono (by decide)) T.b_Shelf_told_2.choose_spec.2 T.b_Shelf_told_2.choose_spec.1 (L2N.passes_call (L2N.takes_of rfl rfl rfl rfl) fun _ _ _ _ h => h) (pa_cons (pv 2) pa_nil))) (pa_cons (My.pe_or (pe_meth (pv 0) T.cl_Kin T.me_Kin_told (ok_Kin_told (P := P) (w := w) T) (hr.mono (by decide)) T.b_Shelf_told_3.choose_spec.2 T.b_Shelf_told_3.choose_spec.1 (L2N.passes_call (L2N.takes_of rfl rfl rfl rfl) fun _ _ _ _ h => h) (pa_cons (pv 2) (pa_cons (pv 3) pa_nil))) (pe_meth (pv 0) T.cl_Table T.me_Table_told (ok_Table_told (P := P) (w := w) T) (hr.mono (by decide)) T.b_Shelf_told_3.choose_spec.2 T.b_Shelf_told_3.choose_spec.1 (L2N.passes_call (L2N.takes_of rfl rfl rfl rfl) fun _ _ _ _ h => h) (pa_cons (pv 2) (pa_cons (pv 3) pa_nil)))) pa_nil))))) pss_nil) (pss_cons (ps_if (pt_cmpR op_eq (pv 1) pe_int (nomark _)) (pss_one (ps_ret (My.pe_or (pe_meth (pv 0) T.cl_Kin T.me_Kin_has (ok_Kin_has (P := P) (w := w) T) (hr.mono (by decide)) T.b_Shelf_has .nil (L2N.passes_call (L2N.takes_of rfl rfl rfl rfl) fun _ _ _ _ h => h) (pa_cons (pv 2) pa_nil)) (pe_meth (pv 0) T.cl_Table T.me_Table_has (ok_Table_has (P := P) (w := w) T) (hr.mono (by decide)) T.b_Shelf_has .nil (L2N.passes_call (L2N.takes_of rfl rfl rfl rfl) fun _ _ _ _ h => h) (pa_cons (pv 2) pa_nil))))) pss_nil) (pss_cons (ps_if (pt_cmpR op_eq (pv 1) pe_int (nomark _)) (pss_one (ps_ret (My.pe_or (pe_meth0 (pv 0) T.cl_Kin T.me_Kin_many (ok_Kin_many (P := P) (w := w) T) (hr.mono (by decide)) T.b_Shelf_many .nil pass0) (pe_meth0 (pv 0) T.cl_Table T.me_Table_many (ok_Table_many (P := P) (w := w) T) (hr.mono (by decide)) T.b_Shelf_many .nil pass0)))) pss_nil) (pss_cons (ps_if (pt_cmpR op_eq (pv 1) pe_int (nomark _)) (pss_one (ps_ret (My.pe_or (pe_meth0 (pv 0) T.cl_Kin T.me_Kin_pairs (ok_Kin_pairs (P := P) (w := w) T) (hr.mono (by decide)) T.b_Shelf_pairs .nil pass0) (pe_meth0 (pv 0) T.cl_Table T.me_Table_pairs (ok_Table_pairs (P := P) (w := w) T) (hr.mono (by decide)) T.b_Shelf_pairs .nil pass0)))) pss_nil) (pss_cons (ps_if (pt_cmpR op_eq (pv 1) pe_int (nomark _)) (pss_one (ps_ret (pe_tup (pa_cons (My.pe_or (pe_meth (pv 0) T.cl_Kin T.me_Kin_after (ok_Kin_after (P := P) (w := w) T) (hr.mono (by decide)) T.b_Shelf_after .nil pass0 (pa_cons (pe_op op_sub (pe_op op_mod (pv 3) pe_int) pe_int) pa_nil)) (pe_meth (pv 0) T.cl_Table T.me_Table_after (ok_Table_after (P := P) (w := w) T) (hr.mono (by decide)) T.b_Shelf_after .nil pass0 (pa_cons (pe_op op_sub (pe_op op_mod (pv 3) pe_int) pe_int) pa_nil))) (pa_cons (My.pe_or (pe_meth (pv 0) T.cl_Kin T.me_Kin_ahead (ok_Kin_ahead (P := P) (w := w) T) (hr.mono (by decide)) T.b_Shelf_ahead .nil pass0 (pa_cons (pe_op op_sub (pe_op op_mod (pv 3) pe_int) pe_int) pa_nil)) (pe_meth (pv 0) T.cl_Table T.me_Table_ahead (ok_Table_ahead (P := P) (w := w) T) (hr.mono (by decide)) T.b_Shelf_ahead .nil pass0 (pa_cons (pe_op op_sub (pe_op op_mod (pv 3) pe_int) pe_int) pa_nil))) pa_nil))))) pss_nil) (pss_cons (ps_if (pt_cmpR op_eq (pv 1) pe_int (nomark _)) (pss_one (ps_ret (My.pe_or (pe_meth0 (pv 0) T.cl_Kin T.me_Kin_counts (ok_Kin_counts (P := P) (w := w) T) (hr.mono (by decide)) T.b_Shelf_counts .nil pass0) (pe_meth0 (pv 0) T.cl_Table T.me_Table_counts (ok_Table_counts (P := P) (w := w) T) (hr.mono (by decide)) T.b_Shelf_counts .nil pass0)))) pss_nil) (pss_cons (ps_if (pt_cmpR op_eq (pv 1) pe_int (nomark _)) (pss_one (ps_ret (My.pe_or (pe_meth (pv 0) T.cl_Kin T.me_Kin_put (ok_Kin_put (P := P) (w := w) T) (hr.mono (by decide)) T.b_Shelf_put .nil (L2N.passes_call (L2N.takes_of rfl rfl rfl rfl) fun _ _ _ _ h => h) (pa_cons (pv 2) (pa_cons (pe_call (ok_law_value (P := P) (w := w) T) (hr.mono (by decide)) rfl T.m_law_value T.F_law_value.kp T.b_law_value .nil pass0 (pa_cons (pv 3) pa_nil)) pa_nil))) (pe_meth (pv 0) T.cl_Table T.me_Table_put (ok_Table_put (P := P) (w := w) T) (hr.mono (by decide)) T.b_Shelf_put .nil (L2N.passes_call (L2N.takes_of rfl rfl rfl rfl) fun _ _ _ _ h => h) (pa_cons (pv 2) (pa_cons (pe_call (ok_law_value (P := P) (w := w) T) (hr.mono (by decide)) rfl T.m_law_value T.F_law_value.kp T.b_law_value .nil pass0 (pa_cons (pv 3) pa_nil)) pa_nil)))))) pss_nil) (pss_cons (ps_if (pt_cmpR op_eq (pv 1) pe_int (nomark _)) (pss_one (ps_ret (My.pe_or (pe_meth (pv 0) T.cl_Kin T.me_Kin_take (ok_Kin_take (P := P) (w := w) T) (hr.mono (by decide)) T.b_Shelf_take .nil (L2N.passes_call (L2N.takes_of rfl rfl rfl rfl) fun _ _ _ _ h => h) (pa_cons (pv 2) pa_nil)) (pe_meth (pv 0) T.cl_Table T.me_Table_take (ok_Table_take (P := P) (w := w) T) (hr.mono (by decide)) T.b_Shelf_take .nil (L2N.passes_call (L2N.takes_of rfl rfl rfl rfl) fun _ _ _ _ h => h) (pa_cons (pv 2) pa_nil))))) pss_nil) (pss_cons (ps_if (pt_cmpR op_eq (pv 1) pe_int (nomark _)) (pss_one (ps_ret (My.pe_or (pe_meth0 (pv 0) T.cl_Kin T.me_Kin_take_last (ok_Kin_take_last (P := P) (w := w) T) (hr.mono (by decide)) T.b_Shelf_take_last .nil (L2N.passes_call (L2N.takes_of rfl rfl rfl rfl) fun _ _ _ _ h => h)) (pe_meth0 (pv 0) T.cl_Table T.me_Table_take_last (ok_Table_take_last (P := P) (w := w) T) (hr.mono (by decide)) T.b_Shelf_take_last .nil (L2N.passes_call (L2N.takes_of rfl rfl rfl rfl) fun _ _ _ _ h => h))))) pss_nil) (pss_cons (ps_if (pt_cmpR op_eq (pv 1) pe_int (nomark _)) (pss_one (ps_ret (My.pe_or (pe_meth (pv 0) T.cl_Kin T.me_Kin_paper (ok_Kin_paper (P := P) (w := w) T) (hr.mono (by decide)) T.b_Kin_paper .nil (L2N.passes_call (L2N.takes_of rfl rfl rfl rfl) fun _ _ _ _ h => h) (pa_cons (pv 2) pa_nil)) (pe_meth (pv 0) T.cl_Table T.me_Table_paper (ok_Table_paper (P := P) (w := w) T) (hr.mono (by decide)) T.b_Shelf_paper .nil (L2N.passes_call (L2N.takes_of rfl rfl rfl rfl) fun _ _ _ _ h => h) (pa_cons (pv 2) pa_nil))))) pss_nil) (pss_one (ps_ret (My.pe_or (pe_meth0 (pv 0) T.cl_Kin T.me_Kin_emptied (ok_Kin_emptied (P := P) (w := w) T) (hr.mono (by decide)) T.b_Shelf_emptied .nil pass0) (pe_meth0 (pv 0) T.cl_Table T.me_Table_emptied (ok_Table_emptied (P := P) (w := w) T) (hr.mono (by decide)) T.b_Shelf_emptied .nil pass0))))))))))))))), ?_⟩
    clear nd
    obtain ⟨a, way, n, v, y, Hb, ts, i, j, S, x, M, rfl, ke, kr, hy, hf, hw, hn, ln, hway, h11, kn, kl, k⟩ := h
    have ok := kr.ok
    obtain ⟨fp, hS⟩ := ke.kn
    have free : ∀ sd, ask72 S way y n = (sd, S) → ∀ H' Hb' v', Same Hb Hb' → GW Hb' H' ts → Same H H' → RawAt Hb' H' v' sd → Q v' H' := fun sd e H' Hb' v' sb g' s r => by
      rw [e] at k
      exact k H' Hb' v' x M rfl sb (by rw [put2_same ke.hi ke.hj]; exact g') kr .refl (Keeps.of s) id r
    have stay : ∀ sd, ask72 S way y n = (sd, S) → ∀ H' v', Same H H' → RawAt Hb H' v' sd → Q v' H' := fun sd e H' v' s r => free sd e H' Hb v' (Same.refl _) (ke.g.ext s) s r
    have go : ∀ sd S', ask72 S way y n = (sd, S') → ∀ H' l cs v', GW Hb H' (ts.set i (knT w A.c_Kin a S' ⟨x.m, x.ap, l, cs⟩)) → Kr S' ⟨x.m, x.ap, l, cs⟩ M → Keeps H H' → RawAt Hb H' v' sd → Q v' H' := fun sd S' e H' l cs v' g' kr' kp r => by
      rw [e] at k
      refine k H' Hb v' ⟨x.m, x.ap, l, cs⟩ M rfl (Same.refl _) ?_ kr' .refl kp id r
      unfold put2
      rw [set_id (set_ne ke.hj ke.ij)]
      exact g'
    have y9 : ∀ z, HVal z → z.val = true ∧ z.dep ≤ 9 := fun z h => ⟨h.1, Nat.le_trans h.2 (by decide)⟩
    walk_at "rd"
    refine iteB (fun c => ?_) fun c0 => iteB (fun c => ?_) fun c1 => iteB (fun c => ?_) fun c2 => iteB (fun c => ?_) fun c3 => iteB (fun c => ?_) fun c4 => iteB (fun c => ?_) fun c5 => iteB (fun c => ?_) fun c6 => iteB (fun c => ?_) fun c7 => iteB (fun c => ?_) fun c8 => iteB (fun c => ?_) fun c9 => iteB (fun c => ?_) fun c11 => ?_
    · subst c
      refine .inl ⟨ke.met (fun _ _ _ _ _ _ _ => by with_unfolding_all rfl), a, Hb, ts, i, j, S, x, M, v, y, rfl, ke, kr, hy, hf, hw, fun wn => kn (by rw [ask_bad rfl wn]) H (Same.refl H), fun yk => ?_⟩
      have e := ask_0 (S := S) (n := n) yk.w
      cases eh : S.heldAt y with
      | none =>
        rw [eh] at e
        exact fun H' s => kl (by rw [e]) H' s
      | some z =>
        rw [eh] at e
        have hz := y9 z (ok.hv z (heldAt_mem eh))
        exact fun H' u s hu => stay _ e H' u s ⟨hz.1, Nat.le_trans hz.2 (by decide), hu⟩
    · subst c
      refine .inl ⟨ke.met (fun _ _ _ _ _ _ _ => by with_unfolding_all rfl), a, Hb, ts, i, j, S, x, M, v, y, .non, rfl, ke, kr, hy, hf, hw, fun wn => kn (by rw [ask_bad rfl wn]) H (Same.refl H), fun yk => ?_⟩
      have e := ask_1 (S := S) (n := n) yk.w
      cases eh : S.heldAt y with
      | none =>
        rw [eh] at e
        intro H1 s1
        obtain ⟨fp1, hS1⟩ := (ke.ext s1).kn
        refine .inl ⟨(ke.ext s1).met (fun _ _ _ _ _ _ _ => by with_unfolding_all rfl), a, Hb, ts, i, j, S, x, M, v, y, .int n, rfl, ke.ext s1, kr, hy.same s1 _ _, hf, hw, yk.no, fun yk => ?_⟩
        rw [eh]
        refine fun H2 s2 => ⟨by walk_at "sz", fun p hp => ?_⟩
        exact stay _ e _ _ ((s1.trans s2).trans (Same_upd (Same.refl _) hp)) ⟨rfl, by simp [Ky.dep, Ky.deps], .tup upd_same (.cons .non (.cons (.num _) .nil))⟩
      | some z =>
        rw [eh] at e
        have hz := y9 z (ok.hv z (heldAt_mem eh))
        intro H1 u1 s1 h1
        obtain ⟨fp1, hS1⟩ := (ke.ext s1).kn
        refine .inl ⟨(ke.ext s1).met (fun _ _ _ _ _ _ _ => by with_unfolding_all rfl), a, Hb, ts, i, j, S, x, M, v, y, .int n, rfl, ke.ext s1, kr, hy.same s1 _ _, hf, hw, yk.no, fun yk => ?_⟩
        rw [eh]
        refine fun H2 u2 s2 h2 => ⟨by walk_at "sz", fun p hp => ?_⟩
        have s3 := Same_upd (o := .tup [u1, u2]) (Same.refl H2) hp
        have tw := two_ok hz hz
        exact stay _ e _ _ ((s1.trans s2).trans s3) ⟨tw.1, tw.2, .tup upd_same (.cons (h1.same (s2.trans s3) _ _) (.cons (h2.same s3 _ _) .nil))⟩
    · subst c
      exact .inl ⟨ke.met (fun _ _ _ _ _ _ _ => by with_unfolding_all rfl), a, Hb, ts, i, j, S, x, M, v, y, rfl, ke, kr, hy, hf, hw, fun wn => kn (by rw [ask_bad rfl wn]) H (Same.refl H), fun yk H' s => stay _ (ask_2 yk.w) H' _ s rfl⟩
    · subst c
      exact .inl ⟨ke.met (fun _ _ _ _ _ _ _ => by with_unfolding_all rfl), a, fp, S, x, rfl, hS, ok, stay _ ask_3 H _ (Same.refl H) ⟨rfl, by simp [Ky.dep], .num _⟩⟩
    · subst c
      refine .inl ⟨ke.met (fun _ _ _ _ _ _ _ => by with_unfolding_all rfl), a, fp, S, x, rfl, hS, ok, fun H' L xs s fL eL hL => ?_⟩
      obtain ⟨Hb', sb, g', hf'⟩ := ke.g.freeze s
      have po := pairs_ok ok
      exact free _ ask_4 H' Hb' _ sb g' s ⟨L, xs, rfl, hf' L _ fL eL, hL, po.1, po.2⟩
    · subst c
      have fin2 : ∀ H1 u1 H2 u2, Same H H1 → KyAt H1 u1 (S.tripO (S.after (n % 50 - 2))) → Same H1 H2 → KyAt H2 u2 (S.tripO (S.ahead (n % 50 - 2))) → [u1, u2].length ≤ sizeLine ∧ ∀ p, Fresh H2 p → Q (.ref p) (upd H2 p (.tup [u1, u2])) := by
        intro H1 u1 H2 u2 s1 h1 s2 h2
        refine ⟨by walk_at "sz", fun p hp => ?_⟩
        have s3 := Same_upd (o := .tup [u1, u2]) (Same.refl H2) hp
        have tw := two_ok (trip_ok ok (S.after (n % 50 - 2))) (trip_ok ok (S.ahead (n % 50 - 2)))
        exact stay _ ask_5 _ _ ((s1.trans s2).trans s3) ⟨tw.1, tw.2, .tup upd_same (.cons (h1.same (s2.trans s3) _ _) (.cons (h2.same s3 _ _) .nil))⟩
      have fin : ∀ H1 u1, Same H H1 → KyAt H1 u1 (S.tripO (S.after (n % 50 - 2))) → spKAhead w A.c_Kin [.ref a, .int (n % 50 - 2)] H1 (fun u2 H2 => [u1, u2].length ≤ sizeLine ∧ ∀ p, Fresh H2 p → Q (.ref p) (upd H2 p (.tup [u1, u2]))) E0 := by
        intro H1 u1 s1 h1
        obtain ⟨fp1, hS1⟩ := (ke.ext s1).kn
        refine ⟨a, fp1, S, x, _, rfl, hS1, ok, ?_⟩
        cases ea : S.ahead (n % 50 - 2) with
        | none => exact fun H2 s2 => fin2 H1 u1 H2 _ s1 h1 s2 (by rw [ea]; exact .non)
        | some q => exact fun H2 u2 s2 h2 => fin2 H1 u1 H2 _ s1 h1 s2 (by rw [ea]; exact h2)
      refine .inl ⟨ke.met (fun _ _ _ _ _ _ _ => by with_unfolding_all rfl), a, fp, S, x, _, rfl, hS, ok, ?_⟩
      cases ea : S.after (n % 50 - 2) with
      | none => exact fun H1 s1 => .inl ⟨(ke.ext s1).met (fun _ _ _ _ _ _ _ => by with_unfolding_all rfl), fin H1 _ s1 (by rw [ea]; exact .non)⟩
      | some q => exact fun H1 u1 s1 h1 => .inl ⟨(ke.ext s1).met (fun _ _ _ _ _ _ _ => by with_unfolding_all rfl), fin H1 _ s1 (by rw [ea]; exact h1)⟩
    · subst c
      exact .inl ⟨ke.met (fun _ _ _ _ _ _ _ => by with_unfolding_all rfl), a, fp, S, x, rfl, hS, ok, fun H' T s _ eT => stay _ ask_6 H' _ s ⟨counts_ok.1, counts_ok.2, .tup eT (nums_at _)⟩⟩
    · subst c
      refine .inl ⟨ke.met (fun _ _ _ _ _ _ _ => by with_unfolding_all rfl), n, rfl, hn, fun H1 u s1 hu => ?_⟩
      obtain ⟨fp1, hS1⟩ := (ke.ext s1).kn
      refine ⟨a, Hb, ts, i, j, S, x, M, v, u, y, val72 n, rfl, ke.ext s1, kr, hy.same s1 _ _, hf, hw, hu, val72_ok, ln, fun wn => kn (by rw [ask_bad rfl wn]) H1 s1, fun yk H' x' M' ex g' kr' le kp pc => ?_⟩
      have e := ask_7 (S := S) (n := n) yk.w
      rw [e] at k
      refine k H' Hb _ x' M' ex (Same.refl _) ?_ kr' le ((Keeps.of s1).trans kp) (fun z => ?_) rfl
      · unfold put2
        rw [ex]
        exact g'
      · have := putC_ap (S := S) (M := M) (y := y) z
        rw [← pc] at this
        exact this
    · subst c
      refine .inl ⟨ke.met (fun _ _ _ _ _ _ _ => by with_unfolding_all rfl), a, Hb, ts, i, j, S, x, M, v, y, rfl, ke, kr, hy, hf, hw, fun wn => kn (by rw [ask_bad rfl wn]) H (Same.refl H), fun yk => ?_⟩
      have e := ask_8 (S := S) (n := n) yk.w
      cases eq : S.find y with
      | none =>
        rw [eq] at e
        exact fun H' s => kl (by rw [e]) H' s
      | some q =>
        rw [eq] at e
        exact fun H' l u z g' kr' kp ez hu => go _ _ e H' l _ u g' kr' kp (by
          rw [List.getD_eq_getElem?_getD, ez]
          have hz := y9 z (ok.hv z (List.mem_of_getElem? ez))
          exact ⟨hz.1, Nat.le_trans hz.2 (by decide), hu⟩)
    · subst c
      refine .inl ⟨ke.met (fun _ _ _ _ _ _ _ => by with_unfolding_all rfl), a, Hb, ts, i, j, S, x, M, rfl, ke, kr, ?_⟩
      have e := ask_9 (S := S) (n := n) (y := y)
      cases eq : S.last with
      | none =>
        rw [eq] at e
        exact fun H' s => kl (by rw [e]) H' s
      | some q =>
        rw [eq] at e
        have h1 := getD_row ok q
        have h2 := getD_held ok q
        have tw := two_ok ⟨h1.1, Nat.le_trans h1.2 (by decide)⟩ ⟨h2.1, Nat.le_trans h2.2 (by decide)⟩
        exact fun H' l v' g' kr' kp hv => go _ _ e H' l _ v' g' kr' kp ⟨tw.1, tw.2, hv⟩
    · subst c
      have wn := h11 rfl
      exact .inl ⟨ke.met (fun _ _ _ _ _ _ _ => by with_unfolding_all rfl), a, Hb, ts, i, j, S, x, M, v, y, rfl, ke, kr, hy, hf, hw, fun wn => kn (by rw [ask_bad rfl wn]) H (Same.refl H), fun yk => yk.no wn⟩
    · have : way = 10 := by omega
      subst this
      refine .inl ⟨ke.met (fun _ _ _ _ _ _ _ => by with_unfolding_all rfl), a, Hb, ts, i, j, S, x, M, rfl, ke, kr, fun H' l g' kr' kp => go _ _ ask_10 H' l _ _ g' kr' kp ⟨rfl, by simp [Ky.dep], .non⟩⟩

end Law
namespace Law
open PySem PySem.Spec PyProof.Rows L2 My
theorem ok_askedT {P : Program} {w : World} {K : PySem.W.Frag} {mg : Str → Option Value} {base : Heap} {A : Ad} (T : Txt K mg A) : FnOk P w K mg base (L2N.CX P w) 11 A.a_law_asked A.d_law_asked ["_law_book", "_law_way", "_law_key", "_law_number"] (spAskedT A.c_Table A.c_NoKey A.c_Lacking) := by
  refine My.okN T.F_law_asked sc_law_asked (fun vs H Q E h => ?_) (fun cdv A' outer s H vs Q E hr h => ?_)
  · exact len_askedT h
  · have nd := sc_law_asked.nd
    have hu := hu_of hr
    refine ⟨_, (pss_cons (ps_if (pt_cmpR op_eq (pv 1) pe_int (nomark _)) (pss_one (ps_ret (My.pe_or (pe_meth (pv 0) T.cl_Kin T.me_Kin_at (ok_Kin_at (P := P) (w := w) T) (hr.mono (by decide)) T.b_Shelf_at .nil (L2N.passes_call (L2N.takes_of rfl rfl rfl rfl) fun _ _ _ _ h => h) (pa_cons (pv 2) pa_nil)) (pe_meth (pv 0) T.cl_Table T.me_Table_at (ok_Table_at (P := P) (w := w) T) (hr.mono (by decide)) T.b_Shelf_at .nil (L2N.passes_call (L2N.takes_of rfl rfl rfl rfl) fun _ _ _ _ h => h) (pa_cons (pv 2) pa_nil))))) pss_nil) (pss_cons (ps_if (pt_cmpR op_eq (pv 1) pe_int (nomark _)) (pss_one (ps_ret (pe_tup (pa_cons (My.pe_or (pe_meth (pv 0) T.cl_Kin T.me_Kin_told (ok_Kin_told (P := P) (w := w) T) (hr.mono (by decide)) T.b_Shelf_told_2.choose_spec.2 T.b_Shelf_told_2.choose_spec.1 (L2N.passes_call (L2N.takes_of rfl rfl rfl rfl) fun _ _ _ _ h => h) (pa_cons (pv 2) pa_nil)) (pe_meth (pv 0) T.cl_Table T.me_Table_told (ok_Table_told (P := P) (w := w) T) (hr.mono (by decide)) T.b_Shelf_told_2.choose_spec.2 T.b_Shelf_told_2.choose_spec.1 (L2N.passes_call (L2N.takes_of rfl rfl rfl rfl) fun _ _ _ _ h => h) (pa_cons (pv 2) pa_nil))) (pa_cons (My.pe_or (pe_meth (pv 0) T.cl_Kin T.me_Kin_told (ok_Kin_told (P := P) (w := w) T) (hr.mono (by decide)) T.b_Shelf_told_3.choose_spec.2 T.b_Shelf_told_3.choose_spec.1 (L2N.passes_call (L2N.takes_of rfl rfl rfl rfl) fun _ _ _ _ h => h) (pa_cons (pv 2) (pa_cons (pv 3) pa_nil))) (pe_meth (pv 0) T.cl_Table T.me_Table_told (ok_Table_told (P := P) (w := w) T) (hr.mono (by decide)) T.b_Shelf_told_3.choose_spec.2 T.b_Shelf_told_3.choose_spec.1 (L2N.passes_call (L2N.takes_of rfl rfl rfl rfl) fun _ _ _ _ h => h) (pa_cons (pv 2) (pa_cons (pv 3) pa_nil)))) pa_nil))))) pss_nil) (pss_cons (ps_if (pt_cmpR op_eq (pv 1) pe_int (nomark _)) (pss_one (ps_ret (My.pe_or (pe_meth (pv 0) T.cl_Kin T.me_Kin_has (ok_Kin_has (P := P) (w := w) T) (hr.mono (by decide)) T.b_Shelf_has .nil (L2N.passes_call (L2N.takes_of rfl rfl rfl rfl) fun _ _ _ _ h => h) (pa_cons (pv 2) pa_nil)) (pe_meth (pv 0) T.cl_Table T.me_Table_has (ok_Table_has (P := P) (w := w) T) (hr.mono (by decide)) T.b_Shelf_has .nil (L2N.passes_call (L2N.takes_of rfl rfl rfl rfl) fun _ _ _ _ h => h) (pa_cons (pv 2) pa_nil))))) pss_nil) (pss_cons (ps_if (pt_cmpR op_eq (pv 1) pe_int (nomark _)) (pss_one (ps_ret (My.pe_or (pe_meth0 (pv 0) T.cl_Kin T.me_Kin_many (ok_Kin_many (P := P) (w := w) T) (hr.mono (by decide)) T.b_Shelf_many .nil pass0) (pe_meth0 (pv 0) T.cl_Table T.me_Table_many (ok_Table_many (P := P) (w := w) T) (hr.mono (by decide)) T.b_Shelf_many .nil pass0)))) pss_nil) (pss_cons (ps_if (pt_cmpR op_eq (pv 1) pe_int (nomark _)) (pss_one (ps_ret (My.pe_or (pe_meth0 (pv 0) T.cl_Kin T.me_Kin_pairs (ok_Kin_pairs (P := P) (w := w) T) (hr.mono (by decide)) T.b_Shelf_pairs .nil pass0) (pe_meth0 (pv 0) T.cl_Table T.me_Table_pairs (ok_Table_pairs (P := P) (w := w) T) (hr.mono (by decide)) T.b_Shelf_pairs .nil pass0)))) pss_nil) (pss_cons (ps_if (pt_cmpR op_eq (pv 1) pe_int (nomark _)) (pss_one (ps_ret (pe_tup (pa_cons (My.pe_or (pe_meth (pv 0) T.cl_Kin T.me_Kin_after (ok_Kin_after (P := P) (w := w) T) (hr.mono (by decide)) T.b_Shelf_after .nil pass0 (pa_cons (pe_op op_sub (pe_op op_mod (pv 3) pe_int) pe_int) pa_nil)) (pe_meth (pv 0) T.cl_Table T.me_Table_after (ok_Table_after (P := P) (w := w) T) (hr.mono (by decide)) T.b_Shelf_after .nil pass0 (pa_cons (pe_op op_sub (pe_op op_mod (pv 3) pe_int) pe_int) pa_nil))) (pa_cons (My.pe_or (pe_meth (pv 0) T.cl_Kin T.me_Kin_ahead (ok_Kin_ahead (P := P) (w := w) T) (hr.mono (by decide)) T.b_Shelf_ahead .nil pass0 (pa_cons (pe_op op_sub (pe_op op_mod (pv 3) pe_int) pe_int) pa_nil)) (pe_meth (pv 0) T.cl_Table T.me_Table_ahead (ok_Table_ahead (P := P) (w := w) T) (hr.mono (by decide)) T.b_Shelf_ahead .nil pass0 (pa_cons (pe_op op_sub (pe_op op_mod (pv 3) pe_int) pe_int) pa_nil))) pa_nil))))) pss_nil) (pss_cons (ps_if (pt_cmpR op_eq (pv 1) pe_int (nomark _)) (pss_one (ps_ret (My.pe_or (pe_meth0 (pv 0) T.cl_Kin T.me_Kin_counts (ok_Kin_counts (P := P) (w := w) T) (hr.mono (by decide)) T.b_Shelf_counts .nil pass0) (pe_meth0 (pv 0) T.cl_Table T.me_Table_counts (ok_Table_counts (P := P) (w := w) T) (hr.mono (by decide)) T.b_Shelf_counts .nil pass0)))) pss_nil) (pss_cons (ps_if (pt_cmpR op_eq (pv 1) pe_int (nomark _)) (pss_one (ps_ret (My.pe_or (pe_meth (pv 0) T.cl_Kin T.me_Kin_put (ok_Kin_put (P := P) (w := w) T) (hr.mono (by decide)) T.b_Shelf_put .nil (L2N.passes_call (L2N.takes_of rfl rfl rfl rfl) fun _ _ _ _ h => h) (pa_cons (pv 2) (pa_cons (pe_call (ok_law_value (P := P) (w := w) T) (hr.mono (by decide)) rfl T.m_law_value T.F_law_value.kp T.b_law_value .nil pass0 (pa_cons (pv 3) pa_nil)) pa_nil))) (pe_meth (pv 0) T.cl_Table T.me_Table_put (ok_Table_put (P := P) (w := w) T) (hr.mono (by decide)) T.b_Shelf_put .nil (L2N.passes_call (L2N.takes_of rfl rfl rfl rfl) fun _ _ _ _ h => h) (pa_cons (pv 2) (pa_cons (pe_call (ok_law_value (P := P) (w := w) T) (hr.mono (by decide)) rfl T.m_law_value T.F_law_value.kp T.b_law_value .nil pass0 (pa_cons (pv 3) pa_nil)) pa_nil)))))) pss_nil) (pss_cons (ps_if (pt_cmpR op_eq (pv 1) pe_int (nomark _)) (pss_one (ps_ret (My.pe_or (pe_meth (pv 0) T.cl_Kin T.me_Kin_take (ok_Kin_take (P := P) (w := w) T) (hr.mono (by decide)) T.b_Shelf_take .nil (L2N.passes_call (L2N.takes_of rfl rfl rfl rfl) fun _ _ _ _ h => h) (pa_cons (pv 2) pa_nil)) (pe_meth (pv 0) T.cl_Table T.me_Table_take (ok_Table_take (P := P) (w := w) T) (hr.mono (by decide)) T.b_Shelf_take .nil (L2N.passes_call (L2N.takes_of rfl rfl rfl rfl) fun _ _ _ _ h => h) (pa_cons (pv 2) pa_nil))))) pss_nil) (pss_cons (ps_if (pt_cmpR op_eq (pv 1) pe_int (nomark _)) (pss_one (ps_ret (My.pe_or (pe_meth0 (pv 0) T.cl_Kin T.me_Kin_take_last (ok_Kin_take_last (P := P) (w := w) T) (hr.mono (by decide)) T.b_Shelf_take_last .nil (L2N.passes_call (L2N.takes_of rfl rfl rfl rfl) fun _ _ _ _ h => h)) (pe_meth0 (pv 0) T.cl_Table T.me_Table_take_last (ok_Table_take_last (P := P) (w := w) T) (hr.mono (by decide)) T.b_Shelf_take_last .nil (L2N.passes_call (L2N.takes_of rfl rfl rfl rfl) fun _ _ _ _ h => h))))) pss_nil) (pss_cons (ps_if (pt_cmpR op_eq (pv 1) pe_int (nomark _)) (pss_one (ps_ret (My.pe_or (pe_meth (pv 0) T.cl_Kin T.me_Kin_paper (ok_Kin_paper (P := P) (w := w) T) (hr.mono (by decide)) T.b_Kin_paper .nil (L2N.passes_call (L2N.takes_of rfl rfl rfl rfl) fun _ _ _ _ h => h) (pa_cons (pv 2) pa_nil)) (pe_meth (pv 0) T.cl_Table T.me_Table_paper (ok_Table_paper (P := P) (w := w) T) (hr.mono (by decide)) T.b_Shelf_paper .nil (L2N.passes_call (L2N.takes_of rfl rfl rfl rfl) fun _ _ _ _ h => h) (pa_cons (pv 2) pa_nil))))) pss_nil) (pss_one (ps_ret (My.pe_or (pe_meth0 (pv 0) T.cl_Kin T.me_Kin_emptied (ok_Kin_emptied (P := P) (w := w) T) (hr.mono (by decide)) T.b_Shelf_emptied .nil pass0) (pe_meth0 (pv 0) T.cl_Table T.me_Table_emptied (ok_Table_emptied (P := P) (w := w) T) (hr.mono (by decide)) T.b_Shelf_emptied .nil pass0))))))))))))))), ?_⟩
    clear nd
    obtain ⟨a, way, n, v, y, Hb, ts, i, S, rfl, g, hi, hy, hf, hw, hn, ln, hway, h11, kn, kl, k⟩ := h
    obtain ⟨fp, hS, st⟩ := g.sh hi
    have ok := hS.ok
    have free : ∀ sd, ask72 S way y n = (sd, S) → ∀ H' Hb' v', Same Hb Hb' → GW Hb' H' ts → Same H H' → RawAt Hb' H' v' sd → Q v' H' := fun sd e H' Hb' v' sb g' s r => by
      rw [e] at k
      exact k H' Hb' v' sb (by rw [set_id hi]; exact g') (Keeps.of s) r
    have stay : ∀ sd, ask72 S way y n = (sd, S) → ∀ H' v', Same H H' → RawAt Hb H' v' sd → Q v' H' := fun sd e H' v' s r => free sd e H' Hb v' (Same.refl _) (g.ext s) s r
    have go : ∀ sd S', ask72 S way y n = (sd, S') → ∀ H' fp' v', Gr fp H H' → Sub fp' fp H → ShAt H' A.c_Table a .no fp' S' → RawAt Hb H' v' sd → Q v' H' := fun sd S' e H' fp' v' gr sb h' r => by
      rw [e] at k
      obtain ⟨g', kp⟩ := st H' fp' _ gr sb h'
      exact k H' Hb v' (Same.refl _) g' kp r
    have y9 : ∀ z, HVal z → z.val = true ∧ z.dep ≤ 9 := fun z h => ⟨h.1, Nat.le_trans h.2 (by decide)⟩
    walk_at "rd"
    refine iteB (fun c => ?_) fun c0 => iteB (fun c => ?_) fun c1 => iteB (fun c => ?_) fun c2 => iteB (fun c => ?_) fun c3 => iteB (fun c => ?_) fun c4 => iteB (fun c => ?_) fun c5 => iteB (fun c => ?_) fun c6 => iteB (fun c => ?_) fun c7 => iteB (fun c => ?_) fun c8 => iteB (fun c => ?_) fun c9 => iteB (fun c => ?_) fun c11 => ?_
    · subst c
      refine .inr ⟨g.met hi (by intros; with_unfolding_all rfl), a, .no, fp, S, v, y, rfl, hS, hy, hf, hw, fun wn => kn (by rw [ask_bad rfl wn]) H (Same.refl H), fun yk => ?_⟩
      have e := ask_0 (S := S) (n := n) yk.w
      cases eh : S.heldAt y with
      | none =>
        rw [eh] at e
        exact fun H' s => kl (by rw [e]) H' s
      | some z =>
        rw [eh] at e
        have hz := y9 z (ok.hv z (heldAt_mem eh))
        exact fun H' u s hu => stay _ e H' u s ⟨hz.1, Nat.le_trans hz.2 (by decide), hu⟩
    · subst c
      refine .inr ⟨g.met hi (by intros; with_unfolding_all rfl), a, .no, fp, S, v, y, .non, rfl, hS, hy, hf, hw, fun wn => kn (by rw [ask_bad rfl wn]) H (Same.refl H), fun yk => ?_⟩
      have e := ask_1 (S := S) (n := n) yk.w
      cases eh : S.heldAt y with
      | none =>
        rw [eh] at e
        intro H1 s1
        skip
        refine .inr ⟨(g.ext s1).met hi (by intros; with_unfolding_all rfl), a, .no, fp, S, v, y, .int n, rfl, hS.ext s1, hy.same s1 _ _, hf, hw, yk.no, fun yk => ?_⟩
        rw [eh]
        refine fun H2 s2 => ⟨by walk_at "sz", fun p hp => ?_⟩
        exact stay _ e _ _ ((s1.trans s2).trans (Same_upd (Same.refl _) hp)) ⟨rfl, by simp [Ky.dep, Ky.deps], .tup upd_same (.cons .non (.cons (.num _) .nil))⟩
      | some z =>
        rw [eh] at e
        have hz := y9 z (ok.hv z (heldAt_mem eh))
        intro H1 u1 s1 h1
        skip
        refine .inr ⟨(g.ext s1).met hi (by intros; with_unfolding_all rfl), a, .no, fp, S, v, y, .int n, rfl, hS.ext s1, hy.same s1 _ _, hf, hw, yk.no, fun yk => ?_⟩
        rw [eh]
        refine fun H2 u2 s2 h2 => ⟨by walk_at "sz", fun p hp => ?_⟩
        have s3 := Same_upd (o := .tup [u1, u2]) (Same.refl H2) hp
        have tw := two_ok hz hz
        exact stay _ e _ _ ((s1.trans s2).trans s3) ⟨tw.1, tw.2, .tup upd_same (.cons (h1.same (s2.trans s3) _ _) (.cons (h2.same s3 _ _) .nil))⟩
    · subst c
      exact .inr ⟨g.met hi (by intros; with_unfolding_all rfl), a, .no, fp, S, v, y, rfl, hS, hy, hf, hw, fun wn => kn (by rw [ask_bad rfl wn]) H (Same.refl H), fun yk H' s => stay _ (ask_2 yk.w) H' _ s rfl⟩
    · subst c
      exact .inr ⟨g.met hi (by intros; with_unfolding_all rfl), a, .no, fp, S, rfl, hS, stay _ ask_3 H _ (Same.refl H) ⟨rfl, by simp [Ky.dep], .num _⟩⟩
    · subst c
      refine .inr ⟨g.met hi (by intros; with_unfolding_all rfl), a, .no, fp, S, rfl, hS, fun H' L xs s fL eL hL => ?_⟩
      obtain ⟨Hb', sb, g', hf'⟩ := g.freeze s
      have po := pairs_ok ok
      exact free _ ask_4 H' Hb' _ sb g' s ⟨L, xs, rfl, hf' L _ fL eL, hL, po.1, po.2⟩
    · subst c
      have fin2 : ∀ H1 u1 H2 u2, Same H H1 → KyAt H1 u1 (S.tripO (S.after (n % 50 - 2))) → Same H1 H2 → KyAt H2 u2 (S.tripO (S.ahead (n % 50 - 2))) → [u1, u2].length ≤ sizeLine ∧ ∀ p, Fresh H2 p → Q (.ref p) (upd H2 p (.tup [u1, u2])) := by
        intro H1 u1 H2 u2 s1 h1 s2 h2
        refine ⟨by walk_at "sz", fun p hp => ?_⟩
        have s3 := Same_upd (o := .tup [u1, u2]) (Same.refl H2) hp
        have tw := two_ok (trip_ok ok (S.after (n % 50 - 2))) (trip_ok ok (S.ahead (n % 50 - 2)))
        exact stay _ ask_5 _ _ ((s1.trans s2).trans s3) ⟨tw.1, tw.2, .tup upd_same (.cons (h1.same (s2.trans s3) _ _) (.cons (h2.same s3 _ _) .nil))⟩
      have fin : ∀ H1 u1, Same H H1 → KyAt H1 u1 (S.tripO (S.after (n % 50 - 2))) → spAheadS A.c_Table [.ref a, .int (n % 50 - 2)] H1 (fun u2 H2 => [u1, u2].length ≤ sizeLine ∧ ∀ p, Fresh H2 p → Q (.ref p) (upd H2 p (.tup [u1, u2]))) E0 := by
        intro H1 u1 s1 h1
        skip
        refine ⟨a, .no, fp, S, _, rfl, hS.ext s1, ?_⟩
        cases ea : S.ahead (n % 50 - 2) with
        | none => exact fun H2 s2 => fin2 H1 u1 H2 _ s1 h1 s2 (by rw [ea]; exact .non)
        | some q => exact fun H2 u2 s2 h2 => fin2 H1 u1 H2 _ s1 h1 s2 (by rw [ea]; exact h2)
      refine .inr ⟨g.met hi (by intros; with_unfolding_all rfl), a, .no, fp, S, _, rfl, hS, ?_⟩
      cases ea : S.after (n % 50 - 2) with
      | none => exact fun H1 s1 => .inr ⟨(g.ext s1).met hi (by intros; with_unfolding_all rfl), fin H1 _ s1 (by rw [ea]; exact .non)⟩
      | some q => exact fun H1 u1 s1 h1 => .inr ⟨(g.ext s1).met hi (by intros; with_unfolding_all rfl), fin H1 _ s1 (by rw [ea]; exact h1)⟩
    · subst c
      exact .inr ⟨g.met hi (by intros; with_unfolding_all rfl), a, .no, fp, S, rfl, hS, fun H' T s _ eT => stay _ ask_6 H' _ s ⟨counts_ok.1, counts_ok.2, .tup eT (nums_at _)⟩⟩
    · subst c
      refine .inr ⟨g.met hi (by intros; with_unfolding_all rfl), n, rfl, hn, fun H1 u s1 hu => ?_⟩
      skip
      refine ⟨a, .no, fp, S, v, y, u, val72 n, rfl, hS.ext s1, hy.same s1 _ _, hf, hw, hu, val72_ok, ln, fun wn => kn (by rw [ask_bad rfl wn]) H1 s1, fun yk H' fp' gr sb h' => ?_⟩
      have e := ask_7 (S := S) (n := n) yk.w
      rw [e] at k
      obtain ⟨g', kp⟩ := (g.ext s1).sh hi
      exact go _ _ e H' fp' _ ((Gr.of s1).trans gr) (fun z m => (sb z m).imp id fun f => Same_fresh s1 f) h' rfl
    · subst c
      refine .inr ⟨g.met hi (by intros; with_unfolding_all rfl), a, .no, fp, S, v, y, rfl, hS, hy, hf, hw, fun wn => kn (by rw [ask_bad rfl wn]) H (Same.refl H), fun yk => ?_⟩
      have e := ask_8 (S := S) (n := n) yk.w
      cases eq : S.find y with
      | none =>
        rw [eq] at e
        exact fun H' s => kl (by rw [e]) H' s
      | some q =>
        rw [eq] at e
        exact fun H' fp' u z gr sb h' ez hu => go _ _ e H' fp' u gr sb h' (by
          rw [List.getD_eq_getElem?_getD, ez]
          have hz := y9 z (ok.hv z (List.mem_of_getElem? ez))
          exact ⟨hz.1, Nat.le_trans hz.2 (by decide), hu⟩)
    · subst c
      refine .inr ⟨g.met hi (by intros; with_unfolding_all rfl), a, .no, fp, S, rfl, hS, ?_⟩
      have e := ask_9 (S := S) (n := n) (y := y)
      cases eq : S.last with
      | none =>
        rw [eq] at e
        exact fun H' s => kl (by rw [e]) H' s
      | some q =>
        rw [eq] at e
        have h1 := getD_row ok q
        have h2 := getD_held ok q
        have tw := two_ok ⟨h1.1, Nat.le_trans h1.2 (by decide)⟩ ⟨h2.1, Nat.le_trans h2.2 (by decide)⟩
        exact fun H' fp' v' gr sb h' hv => go _ _ e H' fp' v' gr sb h' ⟨tw.1, tw.2, hv⟩
    · subst c
      have wn := h11 rfl
      exact .inr ⟨g.met hi (by intros; with_unfolding_all rfl), a, .no, fp, S, v, y, rfl, hS, hy, hf, hw, fun wn => kn (by rw [ask_bad rfl wn]) H (Same.refl H), fun yk => yk.no wn⟩
    · have : way = 10 := by omega
      subst this
      refine .inr ⟨g.met hi (by intros; with_unfolding_all rfl), a, .no, fp, S, rfl, hS, fun H' fp' gr sb h' => go _ _ ask_10 H' fp' _ gr sb h' ⟨rfl, by simp [Ky.dep], .non⟩⟩

end Law
namespace Law
open PySem PySem.Spec PyProof.Rows L2 My
theorem sc_law_said : FnScope ["_law_book", "_law_way", "_law_key", "_law_number", "_law_found_here", "e"] ["_law_book", "_law_way", "_law_key", "_law_number"] (defScope s_law_said) := ⟨rfl, rfl, rfl, by decide +kernel, rfl, by decide +kernel, by decide +kernel⟩
theorem ok_saidK {P : Program} {w : World} {K : PySem.W.Frag} {mg : Str → Option Value} {base : Heap} {A : Ad} (T : Txt K mg A) : FnOk P w K mg base CX0 12 A.a_law_said A.d_law_said ["_law_book", "_law_way", "_law_key", "_law_number"] (spSaidK w A.c_Kin A.c_Maker) := by
  refine T.F_law_said.ok sc_law_said (fun vs H Q E h => ?_) (fun cdv A' outer s H vs Q E hr h => ?_)
  · exact len_saidK h
  · have nd := sc_law_said.nd
    have hu := hu_of hr
    refine ⟨_, (pss_cons (My.ps_tryT rfl rfl rfl nd My.takes0N (fun W pn xe tk po => (pss_one (ps_set (i := 4) nd rfl (Or.inl rfl) (pe_callSD (My.fn_or (ok_askedK (P := P) (w := w) T) (ok_askedT (P := P) (w := w) T)) (hr.mono (by decide)) rfl T.m_law_asked T.F_law_asked.kp T.b_law_asked .nil (fun σ => L2N.passAt tk σ) (pa_cons (pv 0) (pa_cons (pv 1) (pa_cons (pv 2) (pa_cons (pv 3) pa_nil)))))))) (.cons (sl := some 5) ⟨rfl, by decide, .inl T.m_Lacking⟩ ⟨rfl, rfl⟩ (fun a pn => (pss_one (ps_ret (pe_tup (pa_cons pe_str (pa_cons pe_str (pa_cons (pe_callB (My.call_isXK K rfl) rfl T.n_isinstance (by decide +kernel) (pa_cons (pv 5) (pa_cons (pe_glob (v := .ref A.c_NoKey) rfl T.m_NoKey rfl) pa_nil))) pa_nil))))))) (.cons (sl := some 5) ⟨rfl, by decide, .inl T.m_NoKey⟩ ⟨rfl, rfl⟩ (fun a pn => (pss_one (ps_ret (pe_tup (pa_cons pe_str (pa_cons pe_str (pa_cons (pe_callB (My.call_isXK K rfl) rfl T.n_isinstance (by decide +kernel) (pa_cons (pv 5) (pa_cons (pe_bltn (v := .ty "ValueError") rfl T.n_ValueError (by decide +kernel) rfl) pa_nil))) pa_nil))))))) .nil))) (pss_one (ps_ret (pe_tup (pa_cons pe_str (pa_cons (pv 4) pa_nil)))))), ?_⟩
    clear nd
    obtain ⟨a, way, n, v, y, Hb, ts, i, j, S, x, M, rfl, ke, kr, hy, hf, hw, hn, ln, hway, h11, k⟩ := h
    walk_at "rd"
    refine .inl ⟨a, way, n, v, y, Hb, ts, i, j, S, x, M, rfl, ke, kr, hy, hf, hw, hn, ln, hway, h11, fun e H1 s1 => ?_, fun e H1 s1 => ?_, fun H' Hb' v' x' M' ex sb g' kr' le kp ap r => ⟨by walk_at "sz", fun p hp => ?_⟩⟩
    · refine wT_no T.ex_NoKey_Lacking (wT_yes T.ex_NoKey_NoKey fun z fz => ?_)
      have s2 := Same_upd (o := ExcO A.c_NoKey z) s1 fz
      walk_at "rd"
      refine is_excT upd_same T.ec_NoKey T.kx_NoKey_ValueError ?_
      generalize upd H1 z (ExcO A.c_NoKey z) = H2 at s2 ⊢
      walk_at "rd"
      refine ⟨by walk_at "sz", fun p hp => ?_⟩
      have e2 := ask_same (.inr e)
      rw [e, e2] at k
      have g1 := ke.g.ext s2
      exact k _ _ _ x M rfl (Same_upd (Same.refl _) (Same_fresh g1.sm hp)) (by rw [put2_same ke.hi ke.hj]; exact g1.base hp) kr .refl (Keeps.of (s2.trans (Same_upd (Same.refl _) hp))) id ⟨p, rfl, upd_same⟩
    · refine wT_yes T.ex_Lacking_Lacking fun z fz => ?_
      have s2 := Same_upd (o := ExcO A.c_Lacking z) s1 fz
      walk_at "rd"
      refine is_exc upd_same T.ec_Lacking T.kx_Lacking_NoKey ?_
      generalize upd H1 z (ExcO A.c_Lacking z) = H2 at s2 ⊢
      walk_at "rd"
      refine ⟨by walk_at "sz", fun p hp => ?_⟩
      have e2 := ask_same (.inl e)
      rw [e, e2] at k
      have g1 := ke.g.ext s2
      exact k _ _ _ x M rfl (Same_upd (Same.refl _) (Same_fresh g1.sm hp)) (by rw [put2_same ke.hi ke.hj]; exact g1.base hp) kr .refl (Keeps.of (s2.trans (Same_upd (Same.refl _) hp))) id ⟨p, rfl, upd_same⟩
    · have sp := Same_upd (o := .tup [.str (Str.ofString "said"), v']) (Same.refl H') hp
      have sq := Same_upd (o := .tup [.str (Str.ofString "said"), v']) (Same.refl Hb') (Same_fresh g'.sm hp)
      exact k _ _ _ x' M' ex (sb.trans sq) (g'.base hp) kr' le (kp.trans (Keeps.of sp)) ap (SaidAt.raw upd_same (r.low sq (Keeps.of sp)))

end Law
namespace Law
open PySem PySem.Spec PyProof.Rows L2 My
theorem ok_saidT {P : Program} {w : World} {K : PySem.W.Frag} {mg : Str → Option Value} {base : Heap} {A : Ad} (T : Txt K mg A) : FnOk P w K mg base CX0 12 A.a_law_said A.d_law_said ["_law_book", "_law_way", "_law_key", "_law_number"] (spSaidT A.c_Table) := by
  refine T.F_law_said.ok sc_law_said (fun vs H Q E h => ?_) (fun cdv A' outer s H vs Q E hr h => ?_)
  · exact len_saidT h
  · have nd := sc_law_said.nd
    have hu := hu_of hr
    refine ⟨_, (pss_cons (My.ps_tryT rfl rfl rfl nd My.takes0N (fun W pn xe tk po => (pss_one (ps_set (i := 4) nd rfl (Or.inl rfl) (pe_callSD (My.fn_or (ok_askedK (P := P) (w := w) T) (ok_askedT (P := P) (w := w) T)) (hr.mono (by decide)) rfl T.m_law_asked T.F_law_asked.kp T.b_law_asked .nil (fun σ => L2N.passAt tk σ) (pa_cons (pv 0) (pa_cons (pv 1) (pa_cons (pv 2) (pa_cons (pv 3) pa_nil)))))))) (.cons (sl := some 5) ⟨rfl, by decide, .inl T.m_Lacking⟩ ⟨rfl, rfl⟩ (fun a pn => (pss_one (ps_ret (pe_tup (pa_cons pe_str (pa_cons pe_str (pa_cons (pe_callB (My.call_isXK K rfl) rfl T.n_isinstance (by decide +kernel) (pa_cons (pv 5) (pa_cons (pe_glob (v := .ref A.c_NoKey) rfl T.m_NoKey rfl) pa_nil))) pa_nil))))))) (.cons (sl := some 5) ⟨rfl, by decide, .inl T.m_NoKey⟩ ⟨rfl, rfl⟩ (fun a pn => (pss_one (ps_ret (pe_tup (pa_cons pe_str (pa_cons pe_str (pa_cons (pe_callB (My.call_isXK K rfl) rfl T.n_isinstance (by decide +kernel) (pa_cons (pv 5) (pa_cons (pe_bltn (v := .ty "ValueError") rfl T.n_ValueError (by decide +kernel) rfl) pa_nil))) pa_nil))))))) .nil))) (pss_one (ps_ret (pe_tup (pa_cons pe_str (pa_cons (pv 4) pa_nil)))))), ?_⟩
    clear nd
    obtain ⟨a, way, n, v, y, Hb, ts, i, S, rfl, g, hi, hy, hf, hw, hn, ln, hway, h11, k⟩ := h
    walk_at "rd"
    refine .inr ⟨a, way, n, v, y, Hb, ts, i, S, rfl, g, hi, hy, hf, hw, hn, ln, hway, h11, fun e H1 s1 => ?_, fun e H1 s1 => ?_, fun H' Hb' v' sb g' kp r => ⟨by walk_at "sz", fun p hp => ?_⟩⟩
    · refine wT_no T.ex_NoKey_Lacking (wT_yes T.ex_NoKey_NoKey fun z fz => ?_)
      have s2 := Same_upd (o := ExcO A.c_NoKey z) s1 fz
      walk_at "rd"
      refine is_excT upd_same T.ec_NoKey T.kx_NoKey_ValueError ?_
      generalize upd H1 z (ExcO A.c_NoKey z) = H2 at s2 ⊢
      walk_at "rd"
      refine ⟨by walk_at "sz", fun p hp => ?_⟩
      have e2 := ask_same (.inr e)
      rw [e, e2] at k
      have g1 := g.ext s2
      exact k _ _ _ (Same_upd (Same.refl _) (Same_fresh g1.sm hp)) (by rw [set_id hi]; exact g1.base hp) (Keeps.of (s2.trans (Same_upd (Same.refl _) hp))) ⟨p, rfl, upd_same⟩
    · refine wT_yes T.ex_Lacking_Lacking fun z fz => ?_
      have s2 := Same_upd (o := ExcO A.c_Lacking z) s1 fz
      walk_at "rd"
      refine is_exc upd_same T.ec_Lacking T.kx_Lacking_NoKey ?_
      generalize upd H1 z (ExcO A.c_Lacking z) = H2 at s2 ⊢
      walk_at "rd"
      refine ⟨by walk_at "sz", fun p hp => ?_⟩
      have e2 := ask_same (.inl e)
      rw [e, e2] at k
      have g1 := g.ext s2
      exact k _ _ _ (Same_upd (Same.refl _) (Same_fresh g1.sm hp)) (by rw [set_id hi]; exact g1.base hp) (Keeps.of (s2.trans (Same_upd (Same.refl _) hp))) ⟨p, rfl, upd_same⟩
    · have sp := Same_upd (o := .tup [.str (Str.ofString "said"), v']) (Same.refl H') hp
      have sq := Same_upd (o := .tup [.str (Str.ofString "said"), v']) (Same.refl Hb') (Same_fresh g'.sm hp)
      exact k _ _ _ (sb.trans sq) (g'.base hp) (kp.trans (Keeps.of sp)) (SaidAt.raw upd_same (r.low sq (Keeps.of sp)))

end Law
namespace My
open PySem PySem.Spec PyProof.Rows L2
/-- a kin and a table of one state -/
structure KT (w : World) (C CM CT : Addr) (Hb H : Hp) (ts : List Thing) (i j b : Nat) (a book : Addr) (S : Sh) (x : Kx) (M : Mk) : Prop where
  ke : KE w C CM Hb H ts i j a S x M
  kr : Kr S x M
  hb : ts[b]? = some (shT CT book S)
  ib : i ≠ b
  jb : j ≠ b
def put2b (w : World) (C CM CT : Addr) (ts : List Thing) (i j b : Nat) (a book : Addr) (S : Sh) (x : Kx) (M : Mk) : List Thing := (put2 w C CM ts i j a S x M).set b (shT CT book S)
section
variable {w : World} {C CM CT : Addr} {Hb Hb' H H' : Hp} {ts : List Thing} {i j b : Nat} {a book : Addr} {S S' : Sh} {x x' : Kx} {M M' : Mk}
theorem KT.ext (g : KT w C CM CT Hb H ts i j b a book S x M) (s : Same H H') : KT w C CM CT Hb H' ts i j b a book S x M := ⟨g.ke.ext s, g.kr, g.hb, g.ib, g.jb⟩
theorem KT.next (g : KT w C CM CT Hb H ts i j b a book S x M) (e : x'.m = x.m) (g' : GW Hb' H' (put2b w C CM CT ts i j b a book S' x' M')) (kr : Kr S' x' M') : KT w C CM CT Hb' H' (put2b w C CM CT ts i j b a book S' x' M') i j b a book S' x' M' := by
  refine ⟨⟨g', ?_, ?_, g.ke.ij⟩, kr, ?_, g.ib, g.jb⟩
  · unfold put2b put2
    exact set_ne (set_ne (set_at g.ke.hi) (Ne.symm g.ke.ij)) (Ne.symm g.ib)
  · unfold put2b put2
    exact set_ne (set_at (set_ne g.ke.hj g.ke.ij)) (Ne.symm g.jb)
  · unfold put2b put2
    exact set_at (set_ne (set_ne g.hb g.ib) g.jb)
theorem put2b_put2b (ij : i ≠ j) (ib : i ≠ b) (jb : j ≠ b) (e : x'.m = x.m) : put2b w C CM CT (put2b w C CM CT ts i j b a book S x M) i j b a book S' x' M' = put2b w C CM CT ts i j b a book S' x' M' := by
  unfold put2b put2
  rw [e]
  rw [List.set_comm (i := b) (j := i) _ _ (Ne.symm ib), List.set_comm (i := j) (j := i) _ _ (Ne.symm ij), set_set, List.set_comm (i := b) (j := j) _ _ (Ne.symm jb), set_set, set_set]
theorem put2b_same (g : KT w C CM CT Hb H ts i j b a book S x M) : put2b w C CM CT ts i j b a book S x M = ts := by
  unfold put2b
  rw [put2_same g.ke.hi g.ke.hj, set_id g.hb]
end
def LenP (S : Sh) (r : Sd × Sh) : Prop := r.2.lv.length ≤ S.lv.length + 1
theorem pred_ite {S : Sh} {c : Prop} [Decidable c] {a b : Sd × Sh} (ha : c → LenP S a) (hb : ¬ c → LenP S b) : LenP S (if c then a else b) := by
  by_cases h : c
  · rw [if_pos h]; exact ha h
  · rw [if_neg h]; exact hb h
theorem went_len {S : Sh} {y : Ky} {q : Nat} (o : S.Ok) (n : y ≠ .non) (e : S.find y = some q) : (S.went q y).lv.length ≤ S.lv.length := by
  obtain ⟨A, B, z', b, e1, -, -, e4, -, -⟩ := went_tri o n e
  have o2 := o.went ((o.find_some n).mp e) n
  rw [tri_lvlen o, tri_lvlen o2, e1, e4]
  simp
theorem ask_len {S : Sh} {way : Int} {y : Ky} {n : Int} (o : S.Ok) (hw : within 3 y = true → KeyOk y) (ln : S.lv.length ≤ 1365) : (ask72 S way y n).2.lv.length ≤ S.lv.length + 1 := by
  show LenP S (ask72 S way y n)
  unfold ask72
  have z : ∀ {s : Sd}, LenP S (s, S) := fun {s} => Nat.le_succ _
  refine pred_ite (fun _ => z) fun b => pred_ite (fun _ => z) fun _ => pred_ite (fun _ => z) fun _ => pred_ite (fun _ => z) fun _ => pred_ite (fun _ => z) fun _ => pred_ite (fun _ => z) fun _ => pred_ite (fun _ => z) fun _ => pred_ite (fun _ => z) fun _ => pred_ite (fun c => ?_) fun _ => pred_ite (fun c => ?_) fun _ => pred_ite (fun _ => ?_) fun _ => ?_
  · have yk : KeyOk y := hw (by
      cases e : within 3 y with
      | true => rfl
      | false => exact absurd ⟨by rw [c]; rfl, e⟩ b)
    show (S.putT y (val72 n)).2.lv.length ≤ _
    rw [tri_lvlen (o.putT yk val72_ok ln), tri_lvlen o, putT_tri o yk]
    unfold putTri
    split
    · rw [List.length_map]; omega
    · rw [List.length_append]; exact Nat.le_refl _
  · have yk : KeyOk y := hw (by
      cases e : within 3 y with
      | true => rfl
      | false => exact absurd ⟨by rw [c]; rfl, e⟩ b)
    cases e : S.find y with
    | none => exact z
    | some q => exact Nat.le_succ_of_le (went_len o yk.ne_non e)
  · cases e : S.last with
    | none => exact z
    | some q =>
      obtain ⟨y', e1, e2, e3⟩ := liv_key o (ahead_liv e).2
      show (S.went q (S.row.getD q .non)).lv.length ≤ _
      rw [e3]
      exact Nat.le_succ_of_le (went_len o e2.ne_non ((o.find_some e2.ne_non).mpr e1))
  · exact Nat.zero_le _
/-- what a deed to both leaves -/
def Both72 (w : World) (C CM CT : Addr) (Hb H : Hp) (ts : List Thing) (i j b : Nat) (a book : Addr) (S : Sh) (x : Kx) (M : Mk) (n : Nat) (q : Hp → Prop) : Prop := ∀ H' S' x' M', x'.m = x.m → GW Hb H' (put2b w C CM CT ts i j b a book S' x' M') → Kr S' x' M' → M.Le M' → S'.lv.length ≤ S.lv.length + n → Keeps H H' → (x.ap = true → x'.ap = true) → q H'
def spBoth72 (w : World) (C CM CT : Addr) : Sp := fun vs H Q _ => ∃ (a book : Addr) (way n : Int) (v : V) (y : Ky) (Hb : Hp) (ts : List Thing) (i j b : Nat) (S : Sh) (x : Kx) (M : Mk), vs = [.ref a, .ref book, .int way, v, .int n] ∧ KT w C CM CT Hb H ts i j b a book S x M ∧ KyAt Hb v y ∧ y.fit = true ∧ (within 3 y = true → KeyOk y) ∧ (0 ≤ n ∧ n < 2 ^ 60) ∧ S.lv.length ≤ 1365 ∧ (0 ≤ way ∧ way ≤ 11) ∧ (way = 11 → within 3 y = false) ∧ Both72 w C CM CT Hb H ts i j b a book S x M 1 (Q (.bl true))
theorem len_both72 {w : World} {C CM CT : Addr} {vs H Q E} (h : spBoth72 w C CM CT vs H Q E) : vs.length = 5 := by obtain ⟨_, _, _, _, _, _, _, _, _, _, _, _, _, _, rfl, _⟩ := h; rfl
theorem KT.done {w : World} {C CM CT : Addr} {Hb H H' : Hp} {ts : List Thing} {i j b : Nat} {a book : Addr} {S : Sh} {x : Kx} {M : Mk} {n : Nat} {q : Hp → Prop} (g : KT w C CM CT Hb H' ts i j b a book S x M) (kp : Keeps H H') (h : Both72 w C CM CT Hb H ts i j b a book S x M n q) : q H' :=
  h H' S x M rfl (by rw [put2b_same g]; exact g.ke.g) g.kr .refl (by omega) kp id
/-- how far some deeds to both have come -/
structure St72 (w : World) (C CM CT : Addr) (Hb H : Hp) (ts : List Thing) (i j b : Nat) (a book : Addr) (S : Sh) (x : Kx) (M : Mk) (n : Nat) (H' : Hp) (S' : Sh) (x' : Kx) (M' : Mk) : Prop where
  ex : x'.m = x.m
  g : GW Hb H' (put2b w C CM CT ts i j b a book S' x' M')
  kr : Kr S' x' M'
  le : M.Le M'
  ln : S'.lv.length ≤ S.lv.length + n
  kp : Keeps H H'
  ap : x.ap = true → x'.ap = true
section
variable {w : World} {C CM CT : Addr} {Hb H H' H'' : Hp} {ts : List Thing} {i j b : Nat} {a book : Addr} {S S' : Sh} {x x' : Kx} {M M' : Mk} {n m : Nat} {q : Hp → Prop}
theorem KT.start (g : KT w C CM CT Hb H ts i j b a book S x M) : St72 w C CM CT Hb H ts i j b a book S x M 0 H S x M := ⟨rfl, by rw [put2b_same g]; exact g.ke.g, g.kr, .refl, by omega, .refl, id⟩
theorem St72.kt (s : St72 w C CM CT Hb H ts i j b a book S x M n H' S' x' M') (g : KT w C CM CT Hb H ts i j b a book S x M) : KT w C CM CT Hb H' (put2b w C CM CT ts i j b a book S' x' M') i j b a book S' x' M' := g.next s.ex s.g s.kr
theorem St72.both (s : St72 w C CM CT Hb H ts i j b a book S x M n H' S' x' M') (g : KT w C CM CT Hb H ts i j b a book S x M) (k : ∀ H'' S'' x'' M'', St72 w C CM CT Hb H ts i j b a book S x M (n + m) H'' S'' x'' M'' → q H'') : Both72 w C CM CT Hb H' (put2b w C CM CT ts i j b a book S' x' M') i j b a book S' x' M' m q := fun H'' S'' x'' M'' e g' kr le ln kp ap => by
  rw [put2b_put2b g.ke.ij g.ib g.jb e] at g'
  exact k H'' S'' x'' M'' ⟨e.trans s.ex, g', kr, s.le.trans le, by have := s.ln; omega, s.kp.trans kp, fun z => ap (s.ap z)⟩
theorem St72.fin (s : St72 w C CM CT Hb H ts i j b a book S x M n H' S' x' M') (h : Both72 w C CM CT Hb H ts i j b a book S x M m q) (l : n ≤ m) : q H' := h H' S' x' M' s.ex s.g s.kr s.le (by have := s.ln; omega) s.kp s.ap
theorem St72.mono (s : St72 w C CM CT Hb H ts i j b a book S x M n H' S' x' M') (l : n ≤ m) : St72 w C CM CT Hb H ts i j b a book S x M m H' S' x' M' := ⟨s.ex, s.g, s.kr, s.le, by have := s.ln; omega, s.kp, s.ap⟩
theorem Both72.more {Hb0 H0 : Hp} (h : Both72 w C CM CT Hb0 H0 ts i j b a book S x M n q) (sb : Same Hb0 Hb) (kp : Keeps H0 H) (l : m ≤ n) : Both72 w C CM CT Hb H ts i j b a book S x M m q := fun H' S' x' M' e g kr le ln k2 ap => h H' S' x' M' e (g.low sb) kr le (by omega) (kp.trans k2) ap
theorem put2b_app {r : List Thing} (g : KT w C CM CT Hb H ts i j b a book S x M) : put2b w C CM CT (ts ++ r) i j b a book S' x' M' = put2b w C CM CT ts i j b a book S' x' M' ++ r := by
  have hi := (List.getElem?_eq_some_iff.mp g.ke.hi).1
  have hj := (List.getElem?_eq_some_iff.mp g.ke.hj).1
  have hb := (List.getElem?_eq_some_iff.mp g.hb).1
  unfold put2b put2
  rw [List.set_append_left _ _ hi, List.set_append_left _ _ (by rw [List.length_set]; exact hj), List.set_append_left _ _ (by rw [List.length_set, List.length_set]; exact hb)]
theorem KT.app {r : List Thing} (g : KT w C CM CT Hb H ts i j b a book S x M) (g' : GW Hb H (ts ++ r)) : KT w C CM CT Hb H (ts ++ r) i j b a book S x M := ⟨⟨g', get_app g.ke.hi, get_app g.ke.hj, g.ke.ij⟩, g.kr, get_app g.hb, g.ib, g.jb⟩
end
theorem put_len {S : Sh} {y z : Ky} (o : S.Ok) (yk : KeyOk y) (hz : HVal z) (ln : S.lv.length ≤ 1365) : (S.putT y z).2.lv.length ≤ S.lv.length + 1 := by
  rw [tri_lvlen (o.putT yk hz ln), tri_lvlen o, putT_tri o yk]
  unfold putTri
  split
  · rw [List.length_map]; omega
  · rw [List.length_append]; exact Nat.le_refl _
/-- where a parted kin's paper ends -/
theorem last_ends {S : Sh} {x : Kx} {M : Mk} {y : Ky} (kr : Kr S x M) (e : x.ap = true) (yk : KeyOk y) : decide (0 ≤ lastCell x.cells S.row S.j y) = (S.find y).isSome := by
  have cw := kr.cw e
  have lp : (if lastCell x.cells S.row S.j y = -1 then V.non else V.int (lastCell x.cells S.row S.j y)) = optV (placeO x.cells S.row S.j y) := cw.last_place (y := y)
  rw [find_same cw kr.ok.cw yk.ne_non] at lp
  change _ = optV (S.find y) at lp
  cases ef : S.find y with
  | none =>
    rw [ef] at lp
    split at lp
    · rename_i h; rw [h]; rfl
    · cases lp
  | some q =>
    rw [ef] at lp
    split at lp
    · cases lp
    · have e2 : lastCell x.cells S.row S.j y = (q : Nat) := by injection lp
      rw [e2]
      exact decide_eq_true (by omega)
def spTurns72 (w : World) (C CM CT : Addr) : Sp := fun vs H Q _ => ∃ (a book : Addr) (n : Int) (v : V) (y : Ky) (Hb : Hp) (ts : List Thing) (i j b : Nat) (S : Sh) (x : Kx) (M : Mk), vs = [.ref a, .ref book, v, .int n] ∧ KT w C CM CT Hb H ts i j b a book S x M ∧ KyAt Hb v y ∧ KeyOk y ∧ (0 ≤ n ∧ n < 4) ∧ S.lv.length ≤ 1300 ∧ Both72 w C CM CT Hb H ts i j b a book S x M 6 (Q (.bl true))
theorem len_turns72 {w : World} {C CM CT : Addr} {vs H Q E} (h : spTurns72 w C CM CT vs H Q E) : vs.length = 4 := by obtain ⟨_, _, _, _, _, _, _, _, _, _, _, _, _, rfl, _⟩ := h; rfl
def spDeed72 (w : World) (C CM CT : Addr) : Sp := fun vs H Q _ => ∃ (a book p : Addr) (n : Int) (wp : List V) (kp : List Ky) (Hb : Hp) (ts : List Thing) (i j b : Nat) (S : Sh) (x : Kx) (M : Mk), vs = [.ref a, .ref book, .ref p, .int n] ∧ KT w C CM CT Hb H ts i j b a book S x M ∧ PoolAt Hb p wp kp 40 ∧ (0 ≤ n ∧ n < 2 ^ 60) ∧ S.lv.length ≤ 1300 ∧ Both72 w C CM CT Hb H ts i j b a book S x M 12 (Q (.bl true))
theorem len_deed72 {w : World} {C CM CT : Addr} {vs H Q E} (h : spDeed72 w C CM CT vs H Q E) : vs.length = 4 := by obtain ⟨_, _, _, _, _, _, _, _, _, _, _, _, _, _, rfl, _⟩ := h; rfl
def spFound72 (w : World) (C CM : Addr) : Sp := fun vs H Q _ => ∃ (a : Addr) (v : V) (y : Ky) (Hb : Hp) (ts : List Thing) (i j : Nat) (S : Sh) (x : Kx) (M : Mk), vs = [.ref a, v] ∧ KE w C CM Hb H ts i j a S x M ∧ Kr S x M ∧ KyAt H v y ∧ KeyOk y ∧ ∀ H', Same H H' → Q (.bl true) H'
theorem len_found72 {w : World} {C CM : Addr} {vs H Q E} (h : spFound72 w C CM vs H Q E) : vs.length = 2 := by obtain ⟨_, _, _, _, _, _, _, _, _, _, rfl, _⟩ := h; rfl
def spBetween72 (w : World) (C CM : Addr) : Sp := fun vs H Q _ => ∃ (a p m : Addr) (n : Int) (wp : List V) (kp : List Ky) (Hb : Hp) (ts : List Thing) (i j : Nat) (S : Sh) (x : Kx) (M : Mk), vs = [.ref m, .ref a, .ref p, .int n] ∧ x.m = m ∧ KE w C CM Hb H ts i j a S x M ∧ Kr S x M ∧ PoolAt Hb p wp kp 40 ∧ (0 ≤ n ∧ n < 2 ^ 60) ∧ S.lv.length ≤ 1300 ∧
  ∀ H' S' x' M', x'.m = x.m → GW Hb H' (put2 w C CM ts i j a S' x' M') → Kr S' x' M' → M.Le M' → S'.lv.length ≤ S.lv.length + 1 → Q .non H'
theorem len_between72 {w : World} {C CM : Addr} {vs H Q E} (h : spBetween72 w C CM vs H Q E) : vs.length = 4 := by obtain ⟨_, _, _, _, _, _, _, _, _, _, _, _, _, rfl, _⟩ := h; rfl
def ts72 (w : World) (C CM CT m a o book : Addr) (M : Mk) (S S2 : Sh) (x x2 : Kx) : List Thing := [mkT CM m M, knT w C a S x, knT w C o S2 x2, shT CT book S]
structure G72 (w : World) (C CM CT m a o book : Addr) (Hb H : Hp) (M : Mk) (S S2 : Sh) (x x2 : Kx) (N : Nat) : Prop where
  g : GW Hb H (ts72 w C CM CT m a o book M S S2 x x2)
  kr : Kr S x M
  kr2 : Kr S2 x2 M
  em : x.m = m
  em2 : x2.m = m
  ln : S.lv.length ≤ N
  ln2 : S2.lv.length ≤ N
section
variable {w : World} {C CM CT m a o book : Addr} {Hb H H' : Hp} {M M' : Mk} {S S2 S' : Sh} {x x2 x' : Kx} {N n : Nat}
theorem G72.ext (g : G72 w C CM CT m a o book Hb H M S S2 x x2 N) (s : Same H H') : G72 w C CM CT m a o book Hb H' M S S2 x x2 N := ⟨g.g.ext s, g.kr, g.kr2, g.em, g.em2, g.ln, g.ln2⟩
theorem G72.mono {N' : Nat} (g : G72 w C CM CT m a o book Hb H M S S2 x x2 N) (l : N ≤ N') : G72 w C CM CT m a o book Hb H M S S2 x x2 N' := ⟨g.g, g.kr, g.kr2, g.em, g.em2, Nat.le_trans g.ln l, Nat.le_trans g.ln2 l⟩
theorem G72.kt (g : G72 w C CM CT m a o book Hb H M S S2 x x2 N) : KT w C CM CT Hb H (ts72 w C CM CT m a o book M S S2 x x2) 1 0 3 a book S x M :=
  ⟨⟨g.g, rfl, by rw [g.em]; rfl, by decide⟩, g.kr, rfl, by decide, by decide⟩
theorem G72.oe (g : G72 w C CM CT m a o book Hb H M S S2 x x2 N) : KE w C CM Hb H (ts72 w C CM CT m a o book M S S2 x x2) 2 0 o S2 x2 M :=
  ⟨g.g, rfl, by rw [g.em2]; rfl, by decide⟩
theorem G72.deed (g : G72 w C CM CT m a o book Hb H M S S2 x x2 N) (ex : x'.m = x.m) (g' : GW Hb H' (put2b w C CM CT (ts72 w C CM CT m a o book M S S2 x x2) 1 0 3 a book S' x' M')) (kr : Kr S' x' M') (le : M.Le M') (ln : S'.lv.length ≤ S.lv.length + n) : G72 w C CM CT m a o book Hb H' M' S' S2 x' x2 (N + n) := by
  refine ⟨?_, kr, g.kr2.le le, ex.trans g.em, g.em2, by have := g.ln; omega, by have := g.ln2; omega⟩
  have e : put2b w C CM CT (ts72 w C CM CT m a o book M S S2 x x2) 1 0 3 a book S' x' M' = ts72 w C CM CT m a o book M' S' S2 x' x2 := by
    unfold put2b put2 ts72
    rw [ex.trans g.em]
    rfl
  rw [← e]
  exact g'
theorem G72.other (g : G72 w C CM CT m a o book Hb H M S S2 x x2 N) (ex : x'.m = x2.m) (g' : GW Hb H' (put2 w C CM (ts72 w C CM CT m a o book M S S2 x x2) 2 0 o S' x' M')) (kr : Kr S' x' M') (le : M.Le M') (ln : S'.lv.length ≤ S2.lv.length + n) : G72 w C CM CT m a o book Hb H' M' S S' x x' (N + n) := by
  refine ⟨?_, g.kr.le le, kr, g.em, ex.trans g.em2, by have := g.ln; omega, by have := g.ln2; omega⟩
  have e : put2 w C CM (ts72 w C CM CT m a o book M S S2 x x2) 2 0 o S' x' M' = ts72 w C CM CT m a o book M' S S' x x' := by
    unfold put2 ts72
    rw [ex.trans g.em2]
    rfl
  rw [← e]
  exact g'
end
end My
namespace Law
open PySem PySem.Spec PyProof.Rows L2 My
theorem sc_law_both : FnScope ["_law_kin", "_law_book", "_law_way", "_law_key", "_law_number", "_law_found_here", "_law_due"] ["_law_kin", "_law_book", "_law_way", "_law_key", "_law_number"] (defScope s_law_both) := ⟨rfl, rfl, rfl, by decide +kernel, rfl, by decide +kernel, by decide +kernel⟩
theorem ok_law_both {P : Program} {w : World} {K : PySem.W.Frag} {mg : Str → Option Value} {base : Heap} {A : Ad} (T : Txt K mg A) : FnOk P w K mg base CX0 14 A.a_law_both A.d_law_both ["_law_kin", "_law_book", "_law_way", "_law_key", "_law_number"] (spBoth72 w A.c_Kin A.c_Maker A.c_Table) := by
  refine T.F_law_both.ok sc_law_both (fun vs H Q E h => ?_) (fun cdv A' outer s H vs Q E hr h => ?_)
  · exact len_both72 h
  · have nd := sc_law_both.nd
    have hu := hu_of hr
    refine ⟨_, (pss_cons (ps_set (i := 5) nd rfl (Or.inl rfl) (pe_call (My.fn_or (ok_saidK (P := P) (w := w) T) (ok_saidT (P := P) (w := w) T)) (hr.mono (by decide)) rfl T.m_law_said T.F_law_said.kp T.b_law_said .nil pass0 (pa_cons (pv 0) (pa_cons (pv 2) (pa_cons (pv 3) (pa_cons (pv 4) pa_nil)))))) (pss_cons (ps_set (i := 6) nd rfl (Or.inl rfl) (pe_call (My.fn_or (ok_saidK (P := P) (w := w) T) (ok_saidT (P := P) (w := w) T)) (hr.mono (by decide)) rfl T.m_law_said T.F_law_said.kp T.b_law_said .nil pass0 (pa_cons (pv 1) (pa_cons (pv 2) (pa_cons (pv 3) (pa_cons (pv 4) pa_nil)))))) (pss_one (ps_ret (pe_call (ok_law_alike T 12) (hr.mono (by decide)) rfl T.m_law_alike T.F_law_alike.kp T.b_law_alike .nil pass0 (pa_cons (pv 5) (pa_cons (pv 6) pa_nil))))))), ?_⟩
    clear nd
    obtain ⟨a, book, way, n, v, y, Hb, ts, i, j, b, S, x, M, rfl, g, hy, hf, hw, hn, ln, hway, h11, k⟩ := h
    walk_at "rd"
    have hy0 := hy.same g.ke.g.sm _ _
    refine .inl ⟨a, way, n, v, y, Hb, ts, i, j, S, x, M, rfl, g.ke, g.kr, hy0, hf, hw, hn, ln, hway, h11, fun H1 Hb1 v1 x' M' ex sb g1 kr1 le kp ap r1 => .inr ?_⟩
    have hb1 : (put2 w A.c_Kin A.c_Maker ts i j a (ask72 S way y n).2 x' M')[b]? = some (shT A.c_Table book S) := set_ne (set_ne g.hb g.ib) g.jb
    have hy1 := hy.same (sb.trans g1.sm) _ _
    refine ⟨book, way, n, v, y, Hb1, _, b, S, rfl, g1, hb1, hy1, hf, hw, hn, ln, hway, h11, fun H2 Hb2 v2 sb2 g2 kp2 r2 => ?_⟩
    refine ⟨v1, v2, rfl, said_alike g2.sm (r1.low sb2 kp2) r2, fun H3 s3 => ?_⟩
    exact k H3 (ask72 S way y n).2 x' M' ex ((g2.ext s3).low (sb.trans sb2)) kr1 le (ask_len g.kr.ok hw ln) ((kp.trans kp2).trans (Keeps.of s3)) ap

end Law
namespace Law
open PySem PySem.Spec PyProof.Rows L2 My
theorem sc_law_turns : FnScope ["_law_kin", "_law_book", "_law_key", "_law_many", "_law_k"] ["_law_kin", "_law_book", "_law_key", "_law_many"] (defScope s_law_turns) := ⟨rfl, rfl, rfl, by decide +kernel, rfl, by decide +kernel, by decide +kernel⟩
theorem ok_law_turns {P : Program} {w : World} {K : PySem.W.Frag} {mg : Str → Option Value} {base : Heap} {A : Ad} (T : Txt K mg A) : FnOk P w K mg base CX0 15 A.a_law_turns A.d_law_turns ["_law_kin", "_law_book", "_law_key", "_law_many"] (spTurns72 w A.c_Kin A.c_Maker A.c_Table) := by
  refine T.F_law_turns.ok sc_law_turns (fun vs H Q E h => ?_) (fun cdv A' outer s H vs Q E hr h => ?_)
  · exact len_turns72 h
  · have nd := sc_law_turns.nd
    have hu := hu_of hr
    refine ⟨_, (pss_cons (ps_for PassesOwn.never rfl (pi_range1 rfl T.n_range (pa_cons (pv 3) pa_nil)) (pg_name (i := 4) nd rfl (Or.inl rfl)) (pss_one (ps_if (PW.pt (pw_or (pt_not (pt_val (pe_call (ok_law_both (P := P) (w := w) T) (hr.mono (by decide)) rfl T.m_law_both T.F_law_both.kp T.b_law_both .nil pass0 (pa_cons (pv 0) (pa_cons (pv 1) (pa_cons pe_int (pa_cons (pv 2) (pa_cons (pv 4) pa_nil)))))))) (pw_or1 (pt_not (pt_val (pe_call (ok_law_both (P := P) (w := w) T) (hr.mono (by decide)) rfl T.m_law_both T.F_law_both.kp T.b_law_both .nil pass0 (pa_cons (pv 0) (pa_cons (pv 1) (pa_cons pe_int (pa_cons (pv 2) (pa_cons (pv 4) pa_nil))))))))))) (pss_one (ps_ret pe_bl)) pss_nil))) (pss_one (ps_ret pe_bl))), ?_⟩
    clear nd
    obtain ⟨a, book, n, v, y, Hb, ts, i, j, b, S, x, M, rfl, g, hy, yk, hn, ln, k⟩ := h
    walk_at "rd"
    refine ⟨⟨by omega, by omega⟩, ?_⟩
    refine go_range (fun q σ H' => ∃ v4 S' x' M', σ = [some (.ref a), some (.ref book), some v, some (.int n), v4] ∧ St72 w A.c_Kin A.c_Maker A.c_Table Hb H ts i j b a book S x M (2 * q) H' S' x' M') ⟨_, S, x, M, rfl, g.start⟩ ?_ ?_
    · rintro N q σ H1 hq ⟨v4, S1, x1, M1, rfl, s1⟩ hN
      have l1 := s1.ln
      walk_at "rd"
      refine ⟨a, book, 7, q, v, y, Hb, _, i, j, b, _, _, _, rfl, s1.kt g, hy, yk.f, fun _ => yk, ⟨by omega, by omega⟩, by omega, ⟨by omega, by omega⟩, (fun z => absurd z (by omega)), s1.both g fun H2 S2 x2 M2 s2 => ?_⟩
      have l2 := s2.ln
      walk_at "rd"
      refine ⟨a, book, 8, q, v, y, Hb, _, i, j, b, _, _, _, rfl, s2.kt g, hy, yk.f, fun _ => yk, ⟨by omega, by omega⟩, by omega, ⟨by omega, by omega⟩, (fun z => absurd z (by omega)), s2.both g fun H3 S3 x3 M3 s3 => ?_⟩
      walk_at "rd"
      exact hN _ _ ⟨_, _, _, _, rfl, s3.mono (by omega)⟩
    · rintro σ H1 ⟨v4, S1, x1, M1, rfl, s1⟩
      walk_at "rd"
      exact s1.fin k (by omega)

end Law
namespace Law
open PySem PySem.Spec PyProof.Rows L2 My
theorem sc_law_deed : FnScope ["_law_kin", "_law_book", "_law_pool_here", "_law_number", "_law_way", "_law_key", "_law_more", "_law_many", "_law_k", "_law_bad"] ["_law_kin", "_law_book", "_law_pool_here", "_law_number"] (defScope s_law_deed) := ⟨rfl, rfl, rfl, by decide +kernel, rfl, by decide +kernel, by decide +kernel⟩
theorem ok_law_deed {P : Program} {w : World} {K : PySem.W.Frag} {mg : Str → Option Value} {base : Heap} {A : Ad} (T : Txt K mg A) : FnOk P w K mg base CX0 16 A.a_law_deed A.d_law_deed ["_law_kin", "_law_book", "_law_pool_here", "_law_number"] (spDeed72 w A.c_Kin A.c_Maker A.c_Table) := by
  refine T.F_law_deed.ok sc_law_deed (fun vs H Q E h => ?_) (fun cdv A' outer s H vs Q E hr h => ?_)
  · exact len_deed72 h
  · have nd := sc_law_deed.nd
    have hu := hu_of hr
    refine ⟨_, (pss_cons (ps_set (i := 4) nd rfl (Or.inl rfl) (pe_op op_mod (pv 3) pe_int)) (pss_cons (ps_set (i := 5) nd rfl (Or.inl rfl) (pe_ix ix_list (pv 2) (pe_op op_mod (pe_op op_fdivW (pv 3) pe_int) pe_int) (fun _ _ => rfl))) (pss_cons (ps_set (i := 6) nd rfl (Or.inr rfl) (pe_op op_fdivW (pv 3) pe_int)) (pss_cons (ps_if (pt_cmpR op_lt (pv 4) pe_int (nomark _)) (pss_one (ps_ret (pe_call (ok_law_both (P := P) (w := w) T) (hr.mono (by decide)) rfl T.m_law_both T.F_law_both.kp T.b_law_both .nil pass0 (pa_cons (pv 0) (pa_cons (pv 1) (pa_cons pe_int (pa_cons (pv 5) (pa_cons (pv 6) pa_nil)))))))) pss_nil) (pss_cons (ps_if (pt_cmpR op_eq (pv 4) pe_int (nomark _)) (pss_cons (ps_set (i := 7) nd rfl (Or.inl rfl) (pe_op op_add pe_int (pe_op op_mod (pv 6) pe_int))) (pss_one (ps_ret (pe_callB (cr_all rfl) rfl T.n_all (by decide +kernel) (pa_cons (pe_lc (own := [("_law_k", 8)]) rfl nd (pi_range1 rfl T.n_range (pa_cons (pv 7) pa_nil)) (blkOk_by (own := [("_law_k", 8)]) (N := ["_law_kin", "_law_book", "_law_pool_here", "_law_number", "_law_way", "_law_key", "_law_more", "_law_many", "_law_k", "_law_bad"]) (sc := defScope s_law_deed) (by decide +kernel)) (fun _ _ _ _ _ => (pg_name (i := 8) nd rfl (Or.inl rfl))) (fun _ _ _ _ _ => pts_nil) (fun _ _ _ _ _ => (pe_call (ok_law_both (P := P) (w := w) T) (hr.mono (by decide)) rfl T.m_law_both T.F_law_both.kp T.b_law_both .nil pass0 (pa_cons (pv 0) (pa_cons (pv 1) (pa_cons pe_int (pa_cons (pe_ix (ix_listK K rfl) (pv 2) (pe_op op_mod (pe_op op_add (pe_op op_fdivW (pv 3) pe_int) (pv 8)) pe_int) (fun _ _ => rfl)) (pa_cons (pv 6) pa_nil)))))))) pa_nil))))) pss_nil) (pss_cons (ps_if (pt_cmpR op_eq (pv 4) pe_int (nomark _)) (pss_one (ps_ret (pe_call (ok_law_turns (P := P) (w := w) T) (hr.mono (by decide)) rfl T.m_law_turns T.F_law_turns.kp T.b_law_turns .nil pass0 (pa_cons (pv 0) (pa_cons (pv 1) (pa_cons (pv 5) (pa_cons (pe_op op_mod (pv 6) pe_int) pa_nil))))))) pss_nil) (pss_cons (ps_if (pt_cmpR op_lt (pv 4) pe_int (nomark _)) (pss_one (ps_ret (pe_call (ok_law_both (P := P) (w := w) T) (hr.mono (by decide)) rfl T.m_law_both T.F_law_both.kp T.b_law_both .nil pass0 (pa_cons (pv 0) (pa_cons (pv 1) (pa_cons pe_int (pa_cons (pv 5) (pa_cons (pv 6) pa_nil)))))))) pss_nil) (pss_cons (ps_if (PW.pt (pw_and (pt_cmpR op_eq (pv 4) pe_int (nomark _)) (pw_and1 (pt_cmpR op_eq (pe_op op_mod (pv 6) pe_int) pe_int (nomark _))))) (pss_one (ps_ret (pe_call (ok_law_both (P := P) (w := w) T) (hr.mono (by decide)) rfl T.m_law_both T.F_law_both.kp T.b_law_both .nil pass0 (pa_cons (pv 0) (pa_cons (pv 1) (pa_cons pe_int (pa_cons (pv 5) (pa_cons (pv 6) pa_nil)))))))) pss_nil) (pss_cons (ps_if (pt_cmpR op_eq (pv 4) pe_int (nomark _)) (pss_one (ps_ret (pe_call (ok_law_both (P := P) (w := w) T) (hr.mono (by decide)) rfl T.m_law_both T.F_law_both.kp T.b_law_both .nil pass0 (pa_cons (pv 0) (pa_cons (pv 1) (pa_cons pe_int (pa_cons (pv 5) (pa_cons (pv 6) pa_nil)))))))) pss_nil) (pss_cons (ps_if (pt_cmpR op_eq (pv 4) pe_int (nomark _)) (pss_cons (ps_set (i := 9) nd rfl (Or.inl rfl) (pe_ix ix_list (pe_lst (pa_cons pe_bl (pa_cons pe_non (pa_cons (pe_lst (pa_cons (pv 5) pa_nil)) (pa_cons (pe_op op_pow pe_int pe_int) (pa_cons (pe_tup (pa_cons pe_str (pa_cons pe_bl pa_nil))) (pa_cons (pe_op op_mulS pe_str pe_int) pa_nil))))))) (pe_op op_mod (pv 6) pe_int) (fun _ _ => rfl))) (pss_one (ps_ret (pe_call (ok_law_both (P := P) (w := w) T) (hr.mono (by decide)) rfl T.m_law_both T.F_law_both.kp T.b_law_both .nil pass0 (pa_cons (pv 0) (pa_cons (pv 1) (pa_cons (pe_ix ix_list (pe_lst (pa_cons pe_int (pa_cons pe_int (pa_cons pe_int (pa_cons pe_int (pa_cons pe_int (pa_cons pe_int pa_nil))))))) (pe_op op_mod (pe_op op_fdivW (pv 6) pe_int) pe_int) (fun _ _ => rfl)) (pa_cons (pv 9) (pa_cons (pv 6) pa_nil))))))))) pss_nil) (pss_one (ps_ret (pe_call (ok_law_both (P := P) (w := w) T) (hr.mono (by decide)) rfl T.m_law_both T.F_law_both.kp T.b_law_both .nil pass0 (pa_cons (pv 0) (pa_cons (pv 1) (pa_cons (pe_op op_mod (pv 6) pe_int) (pa_cons (pv 5) (pa_cons (pe_op op_fdivW (pv 6) pe_int) pa_nil)))))))))))))))))), ?_⟩
    clear nd
    obtain ⟨a, book, p, n, wp, kp, Hb, ts, i, j, b, S, x, M, rfl, g, pl, hn, ln, k⟩ := h
    walk_at "rd"
    obtain ⟨v, y, av, hy, yk⟩ := pl.pick (n / 13) (by decide)
    refine ⟨by walk_at "side", _, _, SqL.of (g.ke.g.sm _ _ pl.at_), av, by walk_at "side", iteB (fun _ => ⟨a, book, 7, _, v, y, Hb, _, i, j, b, _, _, _, rfl, g, hy, yk.f, fun _ => yk, ⟨by omega, by omega⟩, by omega, ⟨by omega, by omega⟩, (fun z => absurd z (by omega)), k.more (Same.refl _) .refl (by decide)⟩) fun _ => iteB (fun _ => ⟨⟨by omega, by omega⟩, fun D hD => ?_⟩) fun _ => iteB (fun _ => ⟨a, book, _, v, y, Hb, ts, i, j, b, S, x, M, rfl, g, hy, yk, ⟨by omega, by omega⟩, ln, k.more (Same.refl _) .refl (by decide)⟩) fun _ => iteB (fun _ => ⟨a, book, 8, _, v, y, Hb, _, i, j, b, _, _, _, rfl, g, hy, yk.f, fun _ => yk, ⟨by omega, by omega⟩, by omega, ⟨by omega, by omega⟩, (fun z => absurd z (by omega)), k.more (Same.refl _) .refl (by decide)⟩) fun _ => ?_⟩
    · refine go_gwt walk_range (fun q ts' => ∃ S' x' M', ts' = put2b w A.c_Kin A.c_Maker A.c_Table ts i j b a book S' x' M' ∧ x'.m = x.m ∧ Kr S' x' M' ∧ M.Le M' ∧ S'.lv.length ≤ S.lv.length + q ∧ (x.ap = true → x'.ap = true)) (by rw [sizeLine_eq]; omega) hD g.ke.g ⟨S, x, M, (put2b_same g).symm, rfl, g.kr, .refl, by omega, id⟩ (fun _ _ _ _ _ => trivial) ?_ ?_ gName_mono
      · rintro N q u H4 H5 ts' t hq gt ⟨S', x', M', rfl, ex, kr', le', ln', ap'⟩ kp' ⟨rfl, rfl⟩ hN
        walk_at "rd"
        obtain ⟨v, y, av, hy, yk⟩ := pl.pick (n / 13 + q) (by decide)
        have g1 := g.next ex gt.pop kr'
        refine ⟨by walk_at "side", _, _, SqL.of (gt.sm _ _ pl.at_), av, ?_⟩
        refine ⟨a, book, 7, _, v, y, Hb, _, i, j, b, S', x', M', rfl, g1.app gt, hy, yk.f, fun _ => yk, ⟨by omega, by omega⟩, by omega, ⟨by omega, by omega⟩, (fun z => absurd z (by omega)), fun H6 S2 x2 M2 e2 g2 kr2 le2 ln2 kp2 ap2 => ?_⟩
        rw [put2b_app g1, put2b_put2b g.ke.ij g.ib g.jb e2] at g2
        exact hN _ _ g2 ⟨S2, x2, M2, rfl, e2.trans ex, kr2, le'.trans le2, by omega, fun z => ap2 (ap' z)⟩ (kp'.trans kp2)
      · rintro H4 ts' g4 ⟨S', x', M', rfl, ex, kr', le', ln', ap'⟩ kp4 hL
        exact all_true hL (k _ S' x' M' ex g4 kr' le' (by omega) kp4 ap')
    · have nine : ∀ {P1 P2 : Prop}, (n % 13 = 9 → P1) → (¬ n % 13 = 9 → P2) → (if n % 13 = 9 then P1 else P2) := fun h1 h2 => iteB h1 h2
      refine iteB (fun c8 => iteB (fun _ => ⟨a, book, 10, _, v, y, Hb, _, i, j, b, _, _, _, rfl, g, hy, yk.f, fun _ => yk, ⟨by omega, by omega⟩, by omega, ⟨by omega, by omega⟩, (fun z => absurd z (by omega)), k.more (Same.refl _) .refl (by decide)⟩) fun _ => iteP c8 ⟨a, book, 9, _, v, y, Hb, _, i, j, b, _, _, _, rfl, g, hy, yk.f, fun _ => yk, ⟨by omega, by omega⟩, by omega, ⟨by omega, by omega⟩, (fun z => absurd z (by omega)), k.more (Same.refl _) .refl (by decide)⟩) fun c8 => iteN c8 (iteB (fun c9 => ?_) fun c9 => ⟨by walk_at "side", ⟨a, book, _, _, v, y, Hb, _, i, j, b, _, _, _, rfl, g, hy, yk.f, fun _ => yk, ⟨by omega, by omega⟩, by omega, ⟨by omega, by omega⟩, (fun z => absurd z (by omega)), k.more (Same.refl _) .refl (by decide)⟩⟩)
      refine ⟨by walk_at "sz", fun p1 hp1 => ⟨by walk_at "side", by walk_at "sz", fun p2 hp2 => ⟨97, by decide +kernel, by walk_at "sz", fun p3 hp3 => ?_⟩⟩⟩
      have e1 := upd_same (H := Hb) (a := p1) (o := .lst [v])
      have g1 := g.ke.g.base (o := .lst [v]) hp1
      have sb1 := Same_upd (o := .lst [v]) (Same.refl Hb) (Same_fresh g.ke.g.sm hp1)
      have sh1 := Same_upd (o := .lst [v]) (Same.refl H) hp1
      generalize upd Hb p1 (.lst [v]) = Hb1 at e1 g1 sb1
      generalize upd H p1 (.lst [v]) = H1 at g1 sh1 hp2 hp3 ⊢
      have e2 := upd_same (H := Hb1) (a := p2) (o := .tup [V.str (Str.ofString "a"), V.bl false])
      have g2 := g1.base (o := .tup [V.str (Str.ofString "a"), V.bl false]) hp2
      have sb2 := Same_upd (o := .tup [V.str (Str.ofString "a"), V.bl false]) (Same.refl Hb1) (Same_fresh g1.sm hp2)
      have sh2 := Same_upd (o := .tup [V.str (Str.ofString "a"), V.bl false]) sh1 hp2
      have e1 := sb2 _ _ e1
      have sb2 := sb1.trans sb2
      generalize upd Hb1 p2 (.tup [V.str (Str.ofString "a"), V.bl false]) = Hb2 at e1 e2 g2 sb2
      generalize upd H1 p2 (.tup [V.str (Str.ofString "a"), V.bl false]) = H2 at g2 sh2 hp3 ⊢
      have m0 := Int.emod_nonneg (n / 520) (show (6 : Int) ≠ 0 by decide)
      have m1 := Int.emod_lt_of_pos (n / 520) (show (0 : Int) < 6 by decide)
      obtain ⟨z, u, ez, hz, zf, zw⟩ : ∃ z u, atI [V.bl true, V.non, V.ref p1, V.int 1000000000000000000000000000000000000000000000000000000000000, V.ref p2, V.str (SX.S (List.replicate 61 97))] (n / 520 % 6) = some u ∧ KyAt Hb2 u z ∧ z.fit = true ∧ within 3 z = false := by
        rcases (by omega : n / 520 % 6 = 0 ∨ n / 520 % 6 = 1 ∨ n / 520 % 6 = 2 ∨ n / 520 % 6 = 3 ∨ n / 520 % 6 = 4 ∨ n / 520 % 6 = 5) with e | e | e | e | e | e <;> rw [e]
        · exact ⟨.bl true, _, rfl, .bl _, rfl, rfl⟩
        · exact ⟨.non, _, rfl, .non, rfl, rfl⟩
        · exact ⟨.lst 1, _, rfl, .lst e1, rfl, rfl⟩
        · exact ⟨.num _, _, rfl, .num _, rfl, by decide +kernel⟩
        · exact ⟨.tup [.txt (Str.ofString "a"), .bl false], _, rfl, .tup e2 (.cons (.txt _) (.cons (.bl _) .nil)), by decide +kernel, by decide +kernel⟩
        · exact ⟨.txt _, _, rfl, .txt _, by decide +kernel, by decide +kernel⟩
      refine ⟨_, u, SqL.of upd_same, ez, ?_⟩
      have g3 := g2.ext (Same_upd (o := .lst [V.bl true, V.non, V.ref p1, V.int 1000000000000000000000000000000000000000000000000000000000000, V.ref p2, V.str (SX.S (List.replicate 61 97))]) (Same.refl H2) hp3)
      have sh3 := Same_upd (o := .lst [V.bl true, V.non, V.ref p1, V.int 1000000000000000000000000000000000000000000000000000000000000, V.ref p2, V.str (SX.S (List.replicate 61 97))]) sh2 hp3
      generalize upd H2 p3 (.lst [V.bl true, V.non, V.ref p1, V.int 1000000000000000000000000000000000000000000000000000000000000, V.ref p2, V.str (SX.S (List.replicate 61 97))]) = H3 at g3 sh3 ⊢
      refine ⟨by walk_at "sz", fun p4 hp4 => ?_⟩
      have g4 := g3.ext (Same_upd (o := .lst [V.int 0, V.int 1, V.int 2, V.int 7, V.int 8, V.int 11]) (Same.refl H3) hp4)
      have sh4 := Same_upd (o := .lst [V.int 0, V.int 1, V.int 2, V.int 7, V.int 8, V.int 11]) sh3 hp4
      have w0 := Int.emod_nonneg (n / 520 / 6) (show (6 : Int) ≠ 0 by decide)
      have w1 := Int.emod_lt_of_pos (n / 520 / 6) (show (0 : Int) < 6 by decide)
      obtain ⟨m, ew, mr⟩ : ∃ m : Int, atI [V.int 0, V.int 1, V.int 2, V.int 7, V.int 8, V.int 11] (n / 520 / 6 % 6) = some (.int m) ∧ (0 ≤ m ∧ m ≤ 11) := by
        rcases (by omega : n / 520 / 6 % 6 = 0 ∨ n / 520 / 6 % 6 = 1 ∨ n / 520 / 6 % 6 = 2 ∨ n / 520 / 6 % 6 = 3 ∨ n / 520 / 6 % 6 = 4 ∨ n / 520 / 6 % 6 = 5) with e | e | e | e | e | e <;> rw [e]
        · exact ⟨_, rfl, by decide⟩
        · exact ⟨_, rfl, by decide⟩
        · exact ⟨_, rfl, by decide⟩
        · exact ⟨_, rfl, by decide⟩
        · exact ⟨_, rfl, by decide⟩
        · exact ⟨_, rfl, by decide⟩
      refine ⟨by walk_at "side", _, _, SqL.of upd_same, ew, ?_⟩
      generalize upd H3 p4 (.lst [V.int 0, V.int 1, V.int 2, V.int 7, V.int 8, V.int 11]) = H4 at g4 sh4 ⊢
      exact ⟨a, book, m, _, u, z, Hb2, ts, i, j, b, S, x, M, rfl, ⟨⟨g4, g.ke.hi, g.ke.hj, g.ke.ij⟩, g.kr, g.hb, g.ib, g.jb⟩, hz, zf, (fun e => by rw [zw] at e; cases e), ⟨by omega, by omega⟩, by omega, mr, fun _ => zw, k.more sb2 (Keeps.of sh4) (by decide)⟩

end Law
namespace Law
open PySem PySem.Spec PyProof.Rows L2 My
theorem sc_law_found : FnScope ["_law_kin", "_law_key", "_law_found_here"] ["_law_kin", "_law_key"] (defScope s_law_found) := ⟨rfl, rfl, rfl, by decide +kernel, rfl, by decide +kernel, by decide +kernel⟩
theorem ok_law_found {P : Program} {w : World} {K : PySem.W.Frag} {mg : Str → Option Value} {base : Heap} {A : Ad} (T : Txt K mg A) : FnOk P w K mg base CX0 10 A.a_law_found A.d_law_found ["_law_kin", "_law_key"] (spFound72 w A.c_Kin A.c_Maker) := by
  refine T.F_law_found.ok sc_law_found (fun vs H Q E h => ?_) (fun cdv A' outer s H vs Q E hr h => ?_)
  · exact len_found72 h
  · have nd := sc_law_found.nd
    have hu := hu_of hr
    refine ⟨_, (pss_cons (ps_set (i := 2) nd rfl (Or.inl rfl) (pe_meth (pv 0) T.cl_Kin T.me_Kin_paper (ok_Kin_paper (P := P) (w := w) T) (hr.mono (by decide)) T.b_Kin_paper .nil My.passLN (pa_cons (pv 1) pa_nil))) (pss_cons (ps_if (PW.pt (pw_or (pt_not (pt_val (pe_callB call_isiF rfl T.n_isinstance (by decide +kernel) (pa_cons (pv 2) (pa_cons (pe_bltn (v := .ty "list") rfl T.n_list (by decide +kernel) rfl) pa_nil))))) (pw_or1 (pt_cmpR op_lt (pe_callB call_lenU rfl T.n_len PySem.boot_len (pa_cons (pv 2) pa_nil)) pe_int (nomark _))))) (pss_one (ps_ret pe_bl)) pss_nil) (pss_one (ps_ret (pe_or (pe_not (pe_meth0 (pv 0) T.cl_Kin T.me_Kin_parted (ok_Kin_parted (P := P) (w := w) T) (hr.mono (by decide)) T.b_Kin_parted .nil pass0)) (pe_one (pe_cmpR op_eq (pe_cmpR op_ge (pe_ix ix_tup (pe_ix ix_list (pv 2) (pe_un un_neg pe_int) (fun _ _ => rfl)) pe_int (fun _ _ => rfl)) pe_int (nomark _)) (pe_meth (pv 0) T.cl_Kin T.me_Kin_has (ok_Kin_has (P := P) (w := w) T) (hr.mono (by decide)) T.b_Shelf_has .nil My.passLN (pa_cons (pv 1) pa_nil)) (nomark _)))))))), ?_⟩
    clear nd
    obtain ⟨a, v, y, Hb, ts, i, j, S, x, M, rfl, ke, kr, hy, yk, k⟩ := h
    walk_at "rd"
    refine ⟨ke.met (fun _ _ _ _ _ _ _ => by with_unfolding_all rfl), a, Hb, ts, i, j, S, x, M, v, y, rfl, ke, kr, hy, yk.f, fun _ => yk, yk.no, fun _ H1 L xs s1 fL eL hL => ?_⟩
    have hl : 1 ≤ xs.length := by
      have l := hL.len
      split at l
      · obtain ⟨n0, n1, -, -⟩ := paperN_range x.cells S.row S.j y
        unfold paperK at l
        rw [List.length_map, List.length_range] at l
        omega
      · obtain ⟨n0, n1, -, -⟩ := paperN_range M.cells M.row 5 y
        unfold paperK at l
        rw [List.length_map, List.length_range] at l
        omega
    dsimp only
    rw [isi_lst_list eL]
    walk_at "rd"
    refine ⟨_, .inl (SqL.of eL), ?_⟩
    walk_at "rd"
    refine iteN (by omega) ⟨(ke.ext s1).met (fun _ _ _ _ _ _ _ => by with_unfolding_all rfl), ?_⟩
    obtain ⟨fp, hS⟩ := (ke.ext s1).kn
    refine ⟨a, fp, S, x, rfl, hS, ?_⟩
    cases eap : x.ap with
    | false =>
      walk_at "rd"
      exact k H1 s1
    | true =>
      walk_at "rd"
      rw [eap, if_pos rfl] at hL
      obtain ⟨n0, n1, -, -⟩ := paperN_range x.cells S.row S.j y
      have hxl := hL.len
      unfold paperK at hL hxl
      rw [List.length_map, List.length_range] at hxl
      obtain ⟨u9, e9, hu9⟩ := hL.at (i := paperN x.cells S.row S.j y - 1) (k := pairAt x.cells S.j y (paperN x.cells S.row S.j y - 1)) (by rw [List.getElem?_map, List.getElem?_range (by omega)]; rfl)
      obtain ⟨t9, rfl, ht9⟩ := pair_of hu9
      refine ⟨xs, _, SqL.of eL, atI_last (by rw [hxl]; exact e9), ?_⟩
      walk_at "rd"
      refine ⟨_, _, SqT.of ht9, rfl, ?_⟩
      walk_at "rd"
      refine ⟨(ke.ext s1).met (fun _ _ _ _ _ _ _ => by with_unfolding_all rfl), a, Hb, ts, i, j, S, x, M, v, y, rfl, ke.ext s1, kr, hy.same s1 _ _, yk.f, fun _ => yk, yk.no, fun _ H2 s2 => ⟨rfl, ?_⟩⟩
      have le := last_ends kr eap yk
      rw [← le]
      have ee : ∀ z : Int, (decide (V.bl (decide (0 ≤ z)) = V.bl (decide (0 ≤ z)))) = true := fun z => decide_eq_true rfl
      exact (show Q (V.bl (decide (V.bl (decide (0 ≤ lastCell x.cells S.row S.j y)) = V.bl (decide (0 ≤ lastCell x.cells S.row S.j y))))) H2 from by rw [ee]; exact k H2 (s1.trans s2))

end Law
namespace Law
open PySem PySem.Spec PyProof.Rows L2 My
theorem sc_law_between : FnScope ["_law_maker", "_law_other", "_law_pool_here", "_law_number", "_law_key"] ["_law_maker", "_law_other", "_law_pool_here", "_law_number"] (defScope s_law_between) := ⟨rfl, rfl, rfl, by decide +kernel, rfl, by decide +kernel, by decide +kernel⟩
theorem ok_law_between {P : Program} {w : World} {K : PySem.W.Frag} {mg : Str → Option Value} {base : Heap} {A : Ad} (T : Txt K mg A) : FnOk P w K mg base CX0 11 A.a_law_between A.d_law_between ["_law_maker", "_law_other", "_law_pool_here", "_law_number"] (spBetween72 w A.c_Kin A.c_Maker) := by
  refine T.F_law_between.ok sc_law_between (fun vs H Q E h => ?_) (fun cdv A' outer s H vs Q E hr h => ?_)
  · exact len_between72 h
  · have nd := sc_law_between.nd
    have hu := hu_of hr
    refine ⟨_, (pss_cons (ps_set (i := 4) nd rfl (Or.inl rfl) (pe_ix ix_list (pv 2) (pe_op op_mod (pe_op op_fdivW (pv 3) pe_int) pe_int) (fun _ _ => rfl))) (pss_cons (ps_if (pt_cmpR op_eq (pe_op op_mod (pv 3) pe_int) pe_int (nomark _)) (pss_one (ps_expr (pe_meth (pv 0) T.cl_Maker T.me_Maker_taken_in (ok_Maker_taken_in (P := P) (w := w) T) (hr.mono (by decide)) T.b_Maker_taken_in .nil My.passLN (pa_cons (pv 4) pa_nil)))) pss_nil) (pss_cons (ps_if (pt_cmpR op_eq (pe_op op_mod (pv 3) pe_int) pe_int (nomark _)) (pss_one (ps_expr (pe_meth (pv 1) T.cl_Kin T.me_Kin_put (ok_Kin_put (P := P) (w := w) T) (hr.mono (by decide)) T.b_Shelf_put .nil My.passLN (pa_cons (pv 4) (pa_cons (pv 3) pa_nil))))) pss_nil) (pss_one (ps_if (pt_cmpR op_eq (pe_op op_mod (pv 3) pe_int) pe_int (nomark _)) (pss_one (ps_expr (pe_meth0 (pv 1) T.cl_Kin T.me_Kin_emptied (ok_Kin_emptied (P := P) (w := w) T) (hr.mono (by decide)) T.b_Shelf_emptied .nil pass0))) pss_nil))))), ?_⟩
    clear nd
    obtain ⟨a, p, m, n, wp, kp, Hb, ts, i, j, S, x, M, rfl, em, ke, kr, pl, hn, ln, k⟩ := h
    walk_at "rd"
    subst em
    obtain ⟨v, y, av, hyb, yk⟩ := pl.pick (n / 7) (by decide)
    have hy := hyb.same ke.g.sm _ _
    refine ⟨by walk_at "side", _, _, SqL.of (ke.g.sm _ _ pl.at_), av, iteB (fun c => ?_) fun c0 => iteB (fun c => ?_) fun c1 => iteB (fun c => ?_) fun c2 => ?_⟩
    · refine ⟨ke.g.mkMet ke.hj (fun _ _ => by with_unfolding_all rfl), x.m, Hb, ts, j, M, v, y, rfl, ke.g, ke.hj, hy, yk.f, fun _ => yk, yk.no, fun _ H1 g1 kp1 => ?_⟩
      refine iteN (by omega) (iteN (by omega) (k H1 S x (M.takeIn y).2 rfl ?_ (kr.le Mk.takeIn_le) Mk.takeIn_le (by omega)))
      unfold put2
      rw [set_id ke.hi]
      exact g1
    · have hz : HVal (.num n) := ⟨rfl, by simp [Ky.dep]⟩
      refine ⟨ke.met (fun _ _ _ _ _ _ _ => by with_unfolding_all rfl), a, Hb, ts, i, j, S, x, M, v, _, y, .num n, rfl, ke, kr, hy, yk.f, fun _ => yk, .num n, hz, by omega, yk.no, fun _ H1 x' M' ex g1 kr1 le1 kp1 _ => ?_⟩
      refine iteN (by omega) (k H1 (S.putT y (.num n)).2 x' M' ex ?_ kr1 le1 (put_len kr.ok yk hz (by omega)))
      unfold put2
      rw [ex]
      exact g1
    · refine ⟨ke.met (fun _ _ _ _ _ _ _ => by with_unfolding_all rfl), a, Hb, ts, i, j, S, x, M, rfl, ke, kr, fun H1 l g1 kr1 kp1 => k H1 S.emptied ⟨x.m, x.ap, l, emptyCells S x⟩ M rfl ?_ kr1 .refl (Nat.zero_le _)⟩
      unfold put2
      rw [set_id (set_ne ke.hj ke.ij)]
      exact g1
    · exact k H S x M rfl (by rw [put2_same ke.hi ke.hj]; exact ke.g) kr .refl (by omega)

end Law
namespace Law
open PySem PySem.Spec PyProof.Rows L2 My
theorem sc_law : FnScope ["_law_script", "_law_pool_here", "_law_maker", "_law_kin", "_law_other", "_law_book", "_law_parted", "_law_cell", "_law_number", "_law_way"] ["_law_script"] (defScope s_law) := ⟨rfl, rfl, rfl, by decide +kernel, rfl, by decide +kernel, by decide +kernel⟩
theorem ok_law {P : Program} {w : World} {K : PySem.W.Frag} {mg : Str → Option Value} {base : Heap} {A : Ad} (T : Txt K mg A) : FnOk P w K mg base CX0 17 A.a_law A.d_law ["_law_script"] (spLawB K) := by
  refine T.F_law.ok sc_law (fun vs H Q E h => ?_) (fun cdv A' outer s H vs Q E hr h => ?_)
  · exact len_lawB h
  · have nd := sc_law.nd
    have hu := hu_of hr
    refine ⟨_, (pss_cons (ps_set (i := 1) nd rfl (Or.inr rfl) (pe_call (ok_law_pool (P := P) (w := w) T) (hr.mono (by decide)) rfl T.m_law_pool T.F_law_pool.kp T.b_law_pool .nil pass0 (pa_cons (pe_call (ok_law_cell_at (P := P) (w := w) T) (hr.mono (by decide)) rfl T.m_law_cell_at T.F_law_cell_at.kp T.b_law_cell_at .nil pass0 (pa_cons (pv 0) (pa_cons pe_int pa_nil))) pa_nil))) (pss_cons (ps_set (i := 2) nd rfl (Or.inl rfl) (pe_make0 T.mk_Maker (ok_Maker___init__ (P := P) (w := w) T) (hr.mono (by decide)) rfl T.m_Maker T.b_Maker___init__ .nil pass0)) (pss_cons (ps_set (i := 3) nd rfl (Or.inr rfl) (pe_make T.mk_Kin (ok_Kin___init__ (P := P) (w := w) T) (hr.mono (by decide)) rfl T.m_Kin T.b_Kin___init__ .nil pass0 (pa_cons (pv 2) pa_nil))) (pss_cons (ps_set (i := 4) nd rfl (Or.inl rfl) (pe_make T.mk_Kin (ok_Kin___init__ (P := P) (w := w) T) (hr.mono (by decide)) rfl T.m_Kin T.b_Kin___init__ .nil pass0 (pa_cons (pv 2) pa_nil))) (pss_cons (ps_set (i := 5) nd rfl (Or.inr rfl) (pe_make0 T.mk_Table (ok_Table_initP T) (hr.mono (by decide)) rfl T.m_Table T.b_Table___init__ .nil pass0)) (pss_cons (ps_set (i := 6) nd rfl (Or.inl rfl) pe_bl) (pss_cons (ps_if (pt_not (pt_val (pe_callB call_isi rfl T.n_isinstance (by decide +kernel) (pa_cons (pv 3) (pa_cons (pe_glob (v := .ref A.c_Table) rfl T.m_Table rfl) pa_nil))))) (pss_one (ps_ret pe_bl)) pss_nil) (pss_cons (ps_for PassesOwn.never rfl (pi_list (pe_slice sl_list (pv 0) (po_some pe_int) (po_some pe_int))) (pg_name (i := 7) nd rfl (Or.inl rfl)) (pss_cons (ps_set (i := 8) nd rfl (Or.inl rfl) (pe_op op_mod (pe_op op_mulX (pv 7) pe_int) (pe_op op_add (pe_op op_pow pe_int pe_int) pe_int))) (pss_cons (ps_if (pt_not (pt_val (pe_call (ok_law_deed (P := P) (w := w) T) (hr.mono (by decide)) rfl T.m_law_deed T.F_law_deed.kp T.b_law_deed .nil pass0 (pa_cons (pv 3) (pa_cons (pv 5) (pa_cons (pv 1) (pa_cons (pv 8) pa_nil))))))) (pss_one (ps_ret pe_bl)) pss_nil) (pss_cons (ps_if (PW.pt (pw_or (PW.pt (pw_and (pt_val (pv 6)) (pw_and1 (pt_not (pt_val (pe_meth0 (pv 3) T.cl_Kin T.me_Kin_parted (ok_Kin_parted (P := P) (w := w) T) (hr.mono (by decide)) T.b_Kin_parted .nil pass0)))))) (pw_or1 (pt_not (pt_val (pe_callB call_isiF rfl T.n_isinstance (by decide +kernel) (pa_cons (pe_meth0 (pv 3) T.cl_Kin T.me_Kin_parted (ok_Kin_parted (P := P) (w := w) T) (hr.mono (by decide)) T.b_Kin_parted .nil pass0) (pa_cons (pe_bltn (v := .ty "bool") rfl T.n_bool (by decide +kernel) rfl) pa_nil)))))))) (pss_one (ps_ret pe_bl)) pss_nil) (pss_cons (ps_set (i := 6) nd rfl (Or.inl rfl) (pe_meth0 (pv 3) T.cl_Kin T.me_Kin_parted (ok_Kin_parted (P := P) (w := w) T) (hr.mono (by decide)) T.b_Kin_parted .nil pass0)) (pss_cons (ps_expr (pe_call (ok_law_between (P := P) (w := w) T) (hr.mono (by decide)) rfl T.m_law_between T.F_law_between.kp T.b_law_between .nil pass0 (pa_cons (pv 2) (pa_cons (pv 4) (pa_cons (pv 1) (pa_cons (pe_op op_mod (pe_op op_mulX (pv 7) pe_int) (pe_op op_add (pe_op op_pow pe_int pe_int) pe_int)) pa_nil)))))) (pss_one (ps_if (pt_not (pt_val (pe_call (ok_law_found (P := P) (w := w) T) (hr.mono (by decide)) rfl T.m_law_found T.F_law_found.kp T.b_law_found .nil pass0 (pa_cons (pv 3) (pa_cons (pe_ix ix_list (pv 1) (pe_op op_mod (pe_op op_fdivW (pv 8) pe_int) pe_int) (fun _ _ => rfl)) pa_nil))))) (pss_one (ps_ret pe_bl)) pss_nil)))))))) (pss_one (ps_ret (pe_callB (cr_all rfl) rfl T.n_all (by decide +kernel) (pa_cons (pe_lc (own := [("_law_way", 9)]) rfl nd (pi_range1 rfl T.n_range (pa_cons pe_int pa_nil)) (blkOk_by (own := [("_law_way", 9)]) (N := ["_law_script", "_law_pool_here", "_law_maker", "_law_kin", "_law_other", "_law_book", "_law_parted", "_law_cell", "_law_number", "_law_way"]) (sc := defScope s_law) (by decide +kernel)) (fun _ _ _ _ _ => (pg_name (i := 9) nd rfl (Or.inl rfl))) (fun _ _ _ _ _ => pts_nil) (fun _ _ _ _ _ => (pe_call (ok_law_both (P := P) (w := w) T) (hr.mono (by decide)) rfl T.m_law_both T.F_law_both.kp T.b_law_both .nil pass0 (pa_cons (pv 3) (pa_cons (pv 5) (pa_cons (pv 9) (pa_cons (pe_ix (ix_listK K rfl) (pv 1) (pv 9) (fun _ _ => rfl)) (pa_cons (pe_callB (call_lenUK K rfl) rfl T.n_len PySem.boot_len (pa_cons (pv 0) pa_nil)) pa_nil)))))))) pa_nil)))))))))))), ?_⟩
    clear nd
    obtain ⟨a, ns, rfl, hS, hl, hbn, k⟩ := h
    walk_at "rd"
    have hS0 := hS
    refine ⟨ns, hS, _, rfl, getI_bd hbn 0, fun H1 P wp kp s1 fP eP hkp lkp okp => ?_⟩
    intro x1 d1 fx1 fd1 nd1
    have g1 := (GW.start (Same.refl H1)).made (C := A.c_Maker) fx1 fd1
    refine ⟨x1, H1, _, 0, rfl, g1, rfl, fun H2 g2 kp2 => ⟨rfl, ?_⟩⟩
    have g2 : GW H1 H2 [mkT A.c_Maker x1 .new] := g2
    walk_at "rd"
    intro a0 e0 f0 f0' n0
    refine ⟨a0, x1, H1, _, 1, rfl, g2.made (C := A.c_Kin) f0 f0', rfl, fun H3 c0 g3 _ k0 => ⟨rfl, ?_⟩⟩
    have g3 : GW H1 H3 [mkT A.c_Maker x1 .new, knT w A.c_Kin a0 (Sh.new 3) ⟨x1, false, [], c0⟩] := g3
    intro a1 e1 f1' f1'' n1
    refine ⟨a1, x1, H1, _, 2, rfl, g3.made (C := A.c_Kin) f1' f1'', rfl, fun H4 c1 g4 _ k1 => ⟨rfl, ?_⟩⟩
    have g4 : GW H1 H4 [mkT A.c_Maker x1 .new, knT w A.c_Kin a0 (Sh.new 3) ⟨x1, false, [], c0⟩, knT w A.c_Kin a1 (Sh.new 3) ⟨x1, false, [], c1⟩] := g4
    walk_at "rd"
    intro tb dt ft ft' nt
    refine ⟨A.c_Table, tb, dt, .no, T.shC_Table, rfl, upd_same, fun H5 fp gr sb hS => ⟨rfl, ?_⟩⟩
    obtain ⟨s5, f5⟩ := made_same ft ft' gr sb
    have g5 := g4.newS s5 hS f5
    obtain ⟨fp0, hK, -⟩ := g5.at (i := 1) rfl
    obtain ⟨dx0, c, r, hh, b, s', ws, us, -, gk⟩ := hK
    refine isi_ins gk.v.ha T.of_Kin T.ki_Kin_Table ?_
    clear gk
    walk_at "rd"
    have sm := s1.trans g5.sm
    refine ⟨_, sm.seq hS0, fun p hp => ⟨⟨_, SqL.of upd_same⟩, ?_⟩⟩
    obtain ⟨ms, em, hm⟩ := cut_map ns (some 1) (some 61)
    have sub : ∀ n ∈ ms, Bd 0 n := fun n m => by
      have z : V.int n ∈ cutV (ns.map V.int) (some 1) (some 61) := by rw [em]; exact List.mem_map_of_mem m
      obtain ⟨u, hu, e⟩ := List.mem_map.mp (cut_mem z)
      cases e
      exact hbn _ hu
    have lm : ms.length ≤ 60 := by
      have e2 : (cutV (ns.map V.int) (some 1) (some 61)).length ≤ 60 := cut_span (by decide) (by decide)
      rw [em, List.length_map] at e2
      exact e2
    rw [em]
    have pl : PoolAt H1 P wp kp 40 := ⟨eP, hkp, lkp, okp⟩
    have g6 := g5.base (o := .lst (ms.map V.int)) hp
    have g0 : G72 w A.c_Kin A.c_Maker A.c_Table x1 a0 a1 tb (upd H1 p (.lst (ms.map V.int))) (upd H5 p (.lst (ms.map V.int))) .new (Sh.new 3) (Sh.new 3) ⟨x1, false, [], c0⟩ ⟨x1, false, [], c1⟩ 0 := ⟨g6, k0 _, k1 _, rfl, rfl, Nat.le_refl _, Nat.le_refl _⟩
    have sb1 := Same_upd (o := .lst (ms.map V.int)) (Same.refl H1) (Same_fresh g5.sm hp)
    have sh := s1.trans sb1
    have ep : upd H1 p (.lst (ms.map V.int)) p = some (.lst (ms.map V.int)) := upd_same
    have pl := pl.low sb1
    generalize upd H1 p (.lst (ms.map V.int)) = Hb at g0 ep pl sh
    generalize upd H5 p (.lst (ms.map V.int)) = H6 at g0 ⊢
    clear g6 g5 hS
    refine go_list (xs := ms.map V.int) (fun i σ H' => ∃ pt v7 v8 v9 M S S2 x x2, σ = [some (.ref a), some (.ref P), some (.ref x1), some (.ref a0), some (.ref a1), some (.ref tb), some (.bl pt), v7, v8, v9] ∧ G72 w A.c_Kin A.c_Maker A.c_Table x1 a0 a1 tb Hb H' M S S2 x x2 (13 * i) ∧ (pt = true → x.ap = true)) ⟨false, _, _, _, _, _, _, _, _, rfl, g0, (fun z => by cases z)⟩ (fun i σ H' _ ⟨_, _, _, _, _, _, _, _, _, _, g, _⟩ => SqL.of (g.g.sm _ _ ep)) ?_ ?_
    · rintro N i u σ H7 hx ⟨pt, v7, v8, v9, M, S, S2, x, x2, rfl, g, hpt⟩ hN
      obtain ⟨c, hc, rfl⟩ := ints_at hx
      have hi : i < ms.length := (List.getElem?_eq_some_iff.mp hc).1
      have hbc := sub c (List.mem_of_getElem? hc)
      walk_at "rd"
      have n0 : 0 ≤ c * 982451653 % 1000000000039 := Int.emod_nonneg _ (by decide)
      have n1 : c * 982451653 % 1000000000039 < 1000000000039 := Int.emod_lt_of_pos _ (by decide)
      have m0 : 0 ≤ c * 1000003 % 1000000007 := Int.emod_nonneg _ (by decide)
      have m1 : c * 1000003 % 1000000007 < 1000000007 := Int.emod_lt_of_pos _ (by decide)
      have h1 : IntMulOk c 982451653 := hbc.mul (by decide) (by decide)
      have h2 : IntMulOk c 1000003 := hbc.mul (by decide) (by decide)
      have l1 := g.ln
      have l2 := g.ln2
      refine ⟨h1, by walk_at "side", a0, tb, P, _, wp, kp, Hb, _, 1, 0, 3, S, x, M, rfl, g.kt, pl, ⟨n0, by omega⟩, by omega, fun H8 S8 x8 M8 ex g8 kr8 le8 ln8 kp8 ap8 => ?_⟩
      have g9 := g.deed ex g8 kr8 le8 ln8
      walk_at "rd"
      obtain ⟨fp8, hK8⟩ := g9.kt.ke.kn
      have met8 : MetAt H8 a0 A.c_Kin (Str.ofString "parted") := g9.kt.ke.met (fun _ _ _ _ _ _ _ => by with_unfolding_all rfl)
      refine iteB (fun cp => ⟨met8, a0, fp8, S8, x8, rfl, hK8, ?_⟩) fun cp => ?_
      · rw [ap8 (hpt cp)]
        walk_at "rd"
        refine ⟨met8, a0, fp8, S8, x8, rfl, hK8, ?_⟩
        dsimp only
        rw [isi_bl_bool]
        walk_at "rd"
        refine ⟨met8, a0, fp8, S8, x8, rfl, hK8, ?_⟩
        walk_at "rd"
        refine ⟨h2, by walk_at "side", ?_⟩
        refine ⟨a1, P, x1, _, wp, kp, Hb, _, 2, 0, S2, x2, M8, rfl, g9.em2, g9.oe, g9.kr2, pl, ⟨m0, by omega⟩, by omega, fun H10 S10 x10 M10 e10 g10 kr10 le10 ln10 => ?_⟩
        have g11 := g9.other e10 g10 kr10 le10 ln10
        walk_at "rd"
        obtain ⟨v, y, av, hy, yk⟩ := pl.pick (c * 982451653 % 1000000000039 / 17) (by decide)
        refine ⟨by walk_at "side", _, _, SqL.of (g11.g.sm _ _ pl.at_), av, ?_⟩
        refine ⟨a0, v, y, Hb, _, 1, 0, S8, x8, M10, rfl, g11.kt.ke, g11.kr, hy.same g11.g.sm _ _, yk, fun H12 s12 => ?_⟩
        walk_at "rd"
        exact hN _ _ ⟨x8.ap, _, _, _, M10, S8, S10, x8, x10, rfl, (g11.ext s12).mono (by omega), id⟩
      · refine ⟨met8, a0, fp8, S8, x8, rfl, hK8, ?_⟩
        dsimp only
        rw [isi_bl_bool]
        walk_at "rd"
        refine ⟨met8, a0, fp8, S8, x8, rfl, hK8, ?_⟩
        walk_at "rd"
        refine ⟨h2, by walk_at "side", ?_⟩
        refine ⟨a1, P, x1, _, wp, kp, Hb, _, 2, 0, S2, x2, M8, rfl, g9.em2, g9.oe, g9.kr2, pl, ⟨m0, by omega⟩, by omega, fun H10 S10 x10 M10 e10 g10 kr10 le10 ln10 => ?_⟩
        have g11 := g9.other e10 g10 kr10 le10 ln10
        walk_at "rd"
        obtain ⟨v, y, av, hy, yk⟩ := pl.pick (c * 982451653 % 1000000000039 / 17) (by decide)
        refine ⟨by walk_at "side", _, _, SqL.of (g11.g.sm _ _ pl.at_), av, ?_⟩
        refine ⟨a0, v, y, Hb, _, 1, 0, S8, x8, M10, rfl, g11.kt.ke, g11.kr, hy.same g11.g.sm _ _, yk, fun H12 s12 => ?_⟩
        walk_at "rd"
        exact hN _ _ ⟨x8.ap, _, _, _, M10, S8, S10, x8, x10, rfl, (g11.ext s12).mono (by omega), id⟩
    · rintro σ H7 ⟨pt, v7, v8, v9, M, S, S2, x, x2, rfl, g, hpt⟩
      walk_at "rd"
      have l1 := g.ln
      rw [List.length_map] at l1
      intro D hD
      refine go_gwt walk_range (fun q ts' => ∃ S' x' M', ts' = put2b w A.c_Kin A.c_Maker A.c_Table (ts72 w A.c_Kin A.c_Maker A.c_Table x1 a0 a1 tb M S S2 x x2) 1 0 3 a0 tb S' x' M' ∧ x'.m = x.m ∧ Kr S' x' M' ∧ M.Le M' ∧ S'.lv.length ≤ S.lv.length + q) (by rw [sizeLine_eq]; decide) hD g.g ⟨S, x, M, (put2b_same g.kt).symm, rfl, g.kr, .refl, by omega⟩ (fun _ _ _ _ _ => trivial) ?_ ?_ gName_mono
      · rintro N q u H4 H5 ts' t hq gt ⟨S', x', M', rfl, ex, kr', le', ln'⟩ kp' ⟨rfl, rfl⟩ hN
        walk_at "rd"
        obtain ⟨v, y, av, hy, yk⟩ := pl.pick (q : Int) (by decide)
        rw [show (q : Int) % ((40 : Nat) : Int) = q by omega] at av
        have g1 := g.kt.next ex gt.pop kr'
        refine ⟨_, _, SqL.of (gt.sm _ _ pl.at_), av, _, .inl ((sh.trans gt.sm).seq hS0), ?_⟩
        simp only [List.length_map]
        refine ⟨a0, tb, q, _, v, y, Hb, _, 1, 0, 3, S', x', M', rfl, g1.app gt, hy, yk.f, fun _ => yk, ⟨by omega, by omega⟩, by omega, ⟨by omega, by omega⟩, (fun z => absurd z (by omega)), fun H6 S3 x3 M3 e3 g3 kr3 le3 ln3 kp3 ap3 => ?_⟩
        rw [put2b_app g1, put2b_put2b (by decide) (by decide) (by decide) e3] at g3
        exact hN _ _ g3 ⟨S3, x3, M3, rfl, e3.trans ex, kr3, le'.trans le3, by omega⟩ (kp'.trans kp3)
      · rintro H4 ts' g4 ⟨S', x', M', rfl, ex, kr', le', ln'⟩ kp4 hL
        exact all_true hL (k _)

end Law
namespace Law
open PySem PySem.Spec PyProof.Rows L2 My
theorem all_mk {l : PySem.W.OpenLaw} {w : World} {K : PySem.W.Frag} {h : Heap} {mg : Str → Option Value} {fa : Addr} (X : K.In h) (G : h.Ns mainGlobals mg) (hfa : mg "law" = some (.ref fa))
    {od0 an0 : Option Addr} {sl0 : Array (Option Value)} {oc0 kV0 dc0 pm0 cd0 ct0 : Value} {f0 : Addr}
    {od1 an1 : Option Addr} {sl1 : Array (Option Value)} {oc1 kV1 dc1 pm1 cd1 ct1 : Value} {f1 : Addr}
    {od2 an2 : Option Addr} {sl2 : Array (Option Value)} {oc2 kV2 dc2 pm2 cd2 ct2 : Value} {f2 : Addr}
    {od3 an3 : Option Addr} {sl3 : Array (Option Value)} {oc3 kV3 dc3 pm3 cd3 ct3 : Value} {f3 : Addr}
    {od4 an4 : Option Addr} {sl4 : Array (Option Value)} {oc4 kV4 dc4 pm4 cd4 ct4 : Value} {f4 : Addr}
    {od5 an5 : Option Addr} {sl5 : Array (Option Value)} {oc5 kV5 dc5 pm5 cd5 ct5 : Value} {f5 : Addr}
    {od6 an6 : Option Addr} {sl6 : Array (Option Value)} {oc6 kV6 dc6 pm6 cd6 ct6 : Value} {f6 : Addr}
    {od7 an7 : Option Addr} {sl7 : Array (Option Value)} {oc7 kV7 dc7 pm7 cd7 ct7 : Value} {f7 : Addr}
    {od8 an8 : Option Addr} {sl8 : Array (Option Value)} {oc8 kV8 dc8 pm8 cd8 ct8 : Value} {f8 : Addr}
    {od9 an9 : Option Addr} {sl9 : Array (Option Value)} {oc9 kV9 dc9 pm9 cd9 ct9 : Value} {f9 : Addr}
    {od10 an10 : Option Addr} {sl10 : Array (Option Value)} {oc10 kV10 dc10 pm10 cd10 ct10 : Value} {f10 : Addr}
    {od11 an11 : Option Addr} {sl11 : Array (Option Value)} {oc11 kV11 dc11 pm11 cd11 ct11 : Value} {f11 : Addr}
    {od12 an12 : Option Addr} {sl12 : Array (Option Value)} {oc12 kV12 dc12 pm12 cd12 ct12 : Value} {f12 : Addr}
    {od13 an13 : Option Addr} {sl13 : Array (Option Value)} {oc13 kV13 dc13 pm13 cd13 ct13 : Value} {f13 : Addr}
    {dT13 : Addr} {dO13 : Obj} {dn13 : Nat}
    {dk13_0 : Tok}
    {od14 an14 : Option Addr} {sl14 : Array (Option Value)} {oc14 kV14 dc14 pm14 cd14 ct14 : Value} {f14 : Addr}
    {od15 an15 : Option Addr} {sl15 : Array (Option Value)} {oc15 kV15 dc15 pm15 cd15 ct15 : Value} {f15 : Addr}
    {od16 an16 : Option Addr} {sl16 : Array (Option Value)} {oc16 kV16 dc16 pm16 cd16 ct16 : Value} {f16 : Addr}
    {od17 an17 : Option Addr} {sl17 : Array (Option Value)} {oc17 kV17 dc17 pm17 cd17 ct17 : Value} {f17 : Addr}
    {od18 an18 : Option Addr} {sl18 : Array (Option Value)} {oc18 kV18 dc18 pm18 cd18 ct18 : Value} {f18 : Addr}
    {od19 an19 : Option Addr} {sl19 : Array (Option Value)} {oc19 kV19 dc19 pm19 cd19 ct19 : Value} {f19 : Addr}
    {od20 an20 : Option Addr} {sl20 : Array (Option Value)} {oc20 kV20 dc20 pm20 cd20 ct20 : Value} {f20 : Addr}
    {dT20 : Addr} {dO20 : Obj} {dn20 : Nat}
    {od21 an21 : Option Addr} {sl21 : Array (Option Value)} {oc21 kV21 dc21 pm21 cd21 ct21 : Value} {f21 : Addr}
    {od22 an22 : Option Addr} {sl22 : Array (Option Value)} {oc22 kV22 dc22 pm22 cd22 ct22 : Value} {f22 : Addr}
    {od23 an23 : Option Addr} {sl23 : Array (Option Value)} {oc23 kV23 dc23 pm23 cd23 ct23 : Value} {f23 : Addr}
    {od24 an24 : Option Addr} {sl24 : Array (Option Value)} {oc24 kV24 dc24 pm24 cd24 ct24 : Value} {f24 : Addr}
    {od25 an25 : Option Addr} {sl25 : Array (Option Value)} {oc25 kV25 dc25 pm25 cd25 ct25 : Value} {f25 : Addr}
    {od26 an26 : Option Addr} {sl26 : Array (Option Value)} {oc26 kV26 dc26 pm26 cd26 ct26 : Value} {f26 : Addr}
    {od27 an27 : Option Addr} {sl27 : Array (Option Value)} {oc27 kV27 dc27 pm27 cd27 ct27 : Value} {f27 : Addr}
    {od28 an28 : Option Addr} {sl28 : Array (Option Value)} {oc28 kV28 dc28 pm28 cd28 ct28 : Value} {f28 : Addr}
    {od29 an29 : Option Addr} {sl29 : Array (Option Value)} {oc29 kV29 dc29 pm29 cd29 ct29 : Value} {f29 : Addr}
    {od30 an30 : Option Addr} {sl30 : Array (Option Value)} {oc30 kV30 dc30 pm30 cd30 ct30 : Value} {f30 : Addr}
    {od31 an31 : Option Addr} {sl31 : Array (Option Value)} {oc31 kV31 dc31 pm31 cd31 ct31 : Value} {f31 : Addr}
    {od32 an32 : Option Addr} {sl32 : Array (Option Value)} {oc32 kV32 dc32 pm32 cd32 ct32 : Value} {f32 : Addr}
    {od33 an33 : Option Addr} {sl33 : Array (Option Value)} {oc33 kV33 dc33 pm33 cd33 ct33 : Value} {f33 : Addr}
    {od34 an34 : Option Addr} {sl34 : Array (Option Value)} {oc34 kV34 dc34 pm34 cd34 ct34 : Value} {f34 : Addr}
    {od35 an35 : Option Addr} {sl35 : Array (Option Value)} {oc35 kV35 dc35 pm35 cd35 ct35 : Value} {f35 : Addr}
    {od36 an36 : Option Addr} {sl36 : Array (Option Value)} {oc36 kV36 dc36 pm36 cd36 ct36 : Value} {f36 : Addr}
    {od37 an37 : Option Addr} {sl37 : Array (Option Value)} {oc37 kV37 dc37 pm37 cd37 ct37 : Value} {f37 : Addr}
    {od38 an38 : Option Addr} {sl38 : Array (Option Value)} {oc38 kV38 dc38 pm38 cd38 ct38 : Value} {f38 : Addr}
    {od39 an39 : Option Addr} {sl39 : Array (Option Value)} {oc39 kV39 dc39 pm39 cd39 ct39 : Value} {f39 : Addr}
    {od40 an40 : Option Addr} {sl40 : Array (Option Value)} {oc40 kV40 dc40 pm40 cd40 ct40 : Value} {f40 : Addr}
    {od41 an41 : Option Addr} {sl41 : Array (Option Value)} {oc41 kV41 dc41 pm41 cd41 ct41 : Value} {f41 : Addr}
    {od42 an42 : Option Addr} {sl42 : Array (Option Value)} {oc42 kV42 dc42 pm42 cd42 ct42 : Value} {f42 : Addr}
    {od43 an43 : Option Addr} {sl43 : Array (Option Value)} {oc43 kV43 dc43 pm43 cd43 ct43 : Value} {f43 : Addr}
    {od44 an44 : Option Addr} {sl44 : Array (Option Value)} {oc44 kV44 dc44 pm44 cd44 ct44 : Value} {f44 : Addr}
    {od45 an45 : Option Addr} {sl45 : Array (Option Value)} {oc45 kV45 dc45 pm45 cd45 ct45 : Value} {f45 : Addr}
    {od46 an46 : Option Addr} {sl46 : Array (Option Value)} {oc46 kV46 dc46 pm46 cd46 ct46 : Value} {f46 : Addr}
    {od47 an47 : Option Addr} {sl47 : Array (Option Value)} {oc47 kV47 dc47 pm47 cd47 ct47 : Value} {f47 : Addr}
    {od48 an48 : Option Addr} {sl48 : Array (Option Value)} {oc48 kV48 dc48 pm48 cd48 ct48 : Value} {f48 : Addr}
    {od49 an49 : Option Addr} {sl49 : Array (Option Value)} {oc49 kV49 dc49 pm49 cd49 ct49 : Value} {f49 : Addr}
    {od50 an50 : Option Addr} {sl50 : Array (Option Value)} {oc50 kV50 dc50 pm50 cd50 ct50 : Value} {f50 : Addr}
    {od51 an51 : Option Addr} {sl51 : Array (Option Value)} {oc51 kV51 dc51 pm51 cd51 ct51 : Value} {f51 : Addr}
    {od52 an52 : Option Addr} {sl52 : Array (Option Value)} {oc52 kV52 dc52 pm52 cd52 ct52 : Value} {f52 : Addr}
    {od53 an53 : Option Addr} {sl53 : Array (Option Value)} {oc53 kV53 dc53 pm53 cd53 ct53 : Value} {f53 : Addr}
    {od54 an54 : Option Addr} {sl54 : Array (Option Value)} {oc54 kV54 dc54 pm54 cd54 ct54 : Value} {f54 : Addr}
    {od55 an55 : Option Addr} {sl55 : Array (Option Value)} {oc55 kV55 dc55 pm55 cd55 ct55 : Value} {f55 : Addr}
    {od56 an56 : Option Addr} {sl56 : Array (Option Value)} {oc56 kV56 dc56 pm56 cd56 ct56 : Value} {f56 : Addr}
    {C0 : Addr}
    {C1 : Addr}
    {C2 : Addr}
    {C3 : Addr}
    {X0 : Addr}
    {X1 : Addr}
    {tk0 : Tok}
    {tk1 : Tok}
    {tk2 : Tok}
    {tk3 : Tok}
    {tk4 : Tok}
    {tk5 : Tok}
    {tk6 : Tok}
    {tk7 : Tok}
    {tk8 : Tok}
    {tk9 : Tok}
    (a0 : PySem.W.nsIn K mainGlobals "is_within" = some (some (.ref f0)))
    (a1 : PySem.W.nsIn K mainGlobals "is_key" = some (some (.ref f1)))
    (a2 : PySem.W.nsIn K mainGlobals "checked" = some (some (.ref f2)))
    (a3 : PySem.W.nsIn K mainGlobals "stride" = some (some (.ref f3)))
    (a4 : PySem.W.nsIn K mainGlobals "probe" = some (some (.ref f4)))
    (a5 : PySem.W.nsIn K mainGlobals "is_size" = some (some (.ref f5)))
    (a6 : PySem.W.nsIn K mainGlobals "room" = some (some (.ref f6)))
    (a7 : PySem.W.nsIn K mainGlobals "size_for" = some (some (.ref f7)))
    (a8 : PySem.W.nsIn K mainGlobals "stamp" = some (some (.ref f8)))
    (a9 : PySem.W.nsIn K mainGlobals "first_bare" = some (some (.ref f9)))
    (a10 : PySem.W.nsIn K mainGlobals "cells_of" = some (some (.ref f10)))
    (a11 : PySem.W.nsIn K mainGlobals "paper" = some (some (.ref f11)))
    (a12 : PySem.W.nsIn K mainGlobals "place_of" = some (some (.ref f12)))
    (a31 : PySem.W.nsIn K mainGlobals "packed" = some (some (.ref f31)))
    (a45 : PySem.W.nsIn K mainGlobals "_law_cell_at" = some (some (.ref f45)))
    (a46 : PySem.W.nsIn K mainGlobals "_law_pool" = some (some (.ref f46)))
    (a47 : PySem.W.nsIn K mainGlobals "_law_alike" = some (some (.ref f47)))
    (a48 : PySem.W.nsIn K mainGlobals "_law_value" = some (some (.ref f48)))
    (a49 : PySem.W.nsIn K mainGlobals "_law_asked" = some (some (.ref f49)))
    (a50 : PySem.W.nsIn K mainGlobals "_law_said" = some (some (.ref f50)))
    (a51 : PySem.W.nsIn K mainGlobals "_law_both" = some (some (.ref f51)))
    (a52 : PySem.W.nsIn K mainGlobals "_law_turns" = some (some (.ref f52)))
    (a53 : PySem.W.nsIn K mainGlobals "_law_deed" = some (some (.ref f53)))
    (a54 : PySem.W.nsIn K mainGlobals "_law_found" = some (some (.ref f54)))
    (a55 : PySem.W.nsIn K mainGlobals "_law_between" = some (some (.ref f55)))
    (a56 : PySem.W.nsIn K mainGlobals "law" = some (some (.ref f56)))
    (aC0 : PySem.W.nsIn K mainGlobals "Shelf" = some (some (.ref C0)))
    (aC1 : PySem.W.nsIn K mainGlobals "Table" = some (some (.ref C1)))
    (aC2 : PySem.W.nsIn K mainGlobals "Kin" = some (some (.ref C2)))
    (aC3 : PySem.W.nsIn K mainGlobals "Maker" = some (some (.ref C3)))
    (xa0 : PySem.W.nsIn K mainGlobals "NoKey" = some (some (.ref X0)))
    (xa1 : PySem.W.nsIn K mainGlobals "Lacking" = some (some (.ref X1)))
    (me0_13 : PySem.W.findIn K (.ref C0) "__init__" = some (some (.ref f13)))
    (me0_14 : PySem.W.findIn K (.ref C0) "find" = some (some (.ref f14)))
    (me0_15 : PySem.W.findIn K (.ref C0) "lay" = some (some (.ref f15)))
    (me0_16 : PySem.W.findIn K (.ref C0) "mark_gone" = some (some (.ref f16)))
    (me0_17 : PySem.W.findIn K (.ref C0) "relay" = some (some (.ref f17)))
    (me0_18 : PySem.W.findIn K (.ref C0) "put" = some (some (.ref f18)))
    (me0_19 : PySem.W.findIn K (.ref C0) "at" = some (some (.ref f19)))
    (me0_20 : PySem.W.findIn K (.ref C0) "told" = some (some (.ref f20)))
    (me0_21 : PySem.W.findIn K (.ref C0) "has" = some (some (.ref f21)))
    (me0_22 : PySem.W.findIn K (.ref C0) "take" = some (some (.ref f22)))
    (me0_23 : PySem.W.findIn K (.ref C0) "take_last" = some (some (.ref f23)))
    (me0_24 : PySem.W.findIn K (.ref C0) "emptied" = some (some (.ref f24)))
    (me0_25 : PySem.W.findIn K (.ref C0) "many" = some (some (.ref f25)))
    (me0_26 : PySem.W.findIn K (.ref C0) "pairs" = some (some (.ref f26)))
    (me0_27 : PySem.W.findIn K (.ref C0) "after" = some (some (.ref f27)))
    (me0_28 : PySem.W.findIn K (.ref C0) "ahead" = some (some (.ref f28)))
    (me0_29 : PySem.W.findIn K (.ref C0) "paper" = some (some (.ref f29)))
    (me0_30 : PySem.W.findIn K (.ref C0) "counts" = some (some (.ref f30)))
    (me1_32 : PySem.W.findIn K (.ref C1) "__init__" = some (some (.ref f32)))
    (me1_33 : PySem.W.findIn K (.ref C1) "make_room" = some (some (.ref f33)))
    (me1_14 : PySem.W.findIn K (.ref C1) "find" = some (some (.ref f14)))
    (me1_15 : PySem.W.findIn K (.ref C1) "lay" = some (some (.ref f15)))
    (me1_16 : PySem.W.findIn K (.ref C1) "mark_gone" = some (some (.ref f16)))
    (me1_17 : PySem.W.findIn K (.ref C1) "relay" = some (some (.ref f17)))
    (me1_18 : PySem.W.findIn K (.ref C1) "put" = some (some (.ref f18)))
    (me1_19 : PySem.W.findIn K (.ref C1) "at" = some (some (.ref f19)))
    (me1_20 : PySem.W.findIn K (.ref C1) "told" = some (some (.ref f20)))
    (me1_21 : PySem.W.findIn K (.ref C1) "has" = some (some (.ref f21)))
    (me1_22 : PySem.W.findIn K (.ref C1) "take" = some (some (.ref f22)))
    (me1_23 : PySem.W.findIn K (.ref C1) "take_last" = some (some (.ref f23)))
    (me1_24 : PySem.W.findIn K (.ref C1) "emptied" = some (some (.ref f24)))
    (me1_25 : PySem.W.findIn K (.ref C1) "many" = some (some (.ref f25)))
    (me1_26 : PySem.W.findIn K (.ref C1) "pairs" = some (some (.ref f26)))
    (me1_27 : PySem.W.findIn K (.ref C1) "after" = some (some (.ref f27)))
    (me1_28 : PySem.W.findIn K (.ref C1) "ahead" = some (some (.ref f28)))
    (me1_29 : PySem.W.findIn K (.ref C1) "paper" = some (some (.ref f29)))
    (me1_30 : PySem.W.findIn K (.ref C1) "counts" = some (some (.ref f30)))
    (me2_34 : PySem.W.findIn K (.ref C2) "__init__" = some (some (.ref f34)))
    (me2_35 : PySem.W.findIn K (.ref C2) "parted" = some (some (.ref f35)))
    (me2_36 : PySem.W.findIn K (.ref C2) "find" = some (some (.ref f36)))
    (me2_37 : PySem.W.findIn K (.ref C2) "lay" = some (some (.ref f37)))
    (me2_38 : PySem.W.findIn K (.ref C2) "mark_gone" = some (some (.ref f38)))
    (me2_39 : PySem.W.findIn K (.ref C2) "relay" = some (some (.ref f39)))
    (me2_40 : PySem.W.findIn K (.ref C2) "paper" = some (some (.ref f40)))
    (me2_33 : PySem.W.findIn K (.ref C2) "make_room" = some (some (.ref f33)))
    (me2_18 : PySem.W.findIn K (.ref C2) "put" = some (some (.ref f18)))
    (me2_19 : PySem.W.findIn K (.ref C2) "at" = some (some (.ref f19)))
    (me2_20 : PySem.W.findIn K (.ref C2) "told" = some (some (.ref f20)))
    (me2_21 : PySem.W.findIn K (.ref C2) "has" = some (some (.ref f21)))
    (me2_22 : PySem.W.findIn K (.ref C2) "take" = some (some (.ref f22)))
    (me2_23 : PySem.W.findIn K (.ref C2) "take_last" = some (some (.ref f23)))
    (me2_24 : PySem.W.findIn K (.ref C2) "emptied" = some (some (.ref f24)))
    (me2_25 : PySem.W.findIn K (.ref C2) "many" = some (some (.ref f25)))
    (me2_26 : PySem.W.findIn K (.ref C2) "pairs" = some (some (.ref f26)))
    (me2_27 : PySem.W.findIn K (.ref C2) "after" = some (some (.ref f27)))
    (me2_28 : PySem.W.findIn K (.ref C2) "ahead" = some (some (.ref f28)))
    (me2_30 : PySem.W.findIn K (.ref C2) "counts" = some (some (.ref f30)))
    (me3_41 : PySem.W.findIn K (.ref C3) "__init__" = some (some (.ref f41)))
    (me3_42 : PySem.W.findIn K (.ref C3) "number_of" = some (some (.ref f42)))
    (me3_43 : PySem.W.findIn K (.ref C3) "taken_in" = some (some (.ref f43)))
    (me3_44 : PySem.W.findIn K (.ref C3) "paper" = some (some (.ref f44)))
    (l0 : K.lookup f0 = some ⟨oc0, od0, .func (PySem.W.fnOf "is_within" "is_within" (defArgs s_is_within) (defBody s_is_within) (defScope s_is_within) .none kV0 dc0 pm0 an0 cd0 ct0), sl0⟩)
    (d0 : PySem.W.codeIn K cd0 "is_within" = true)
    (k0 : PySem.W.keepIn K (.ref f0) = true)
    (l1 : K.lookup f1 = some ⟨oc1, od1, .func (PySem.W.fnOf "is_key" "is_key" (defArgs s_is_key) (defBody s_is_key) (defScope s_is_key) .none kV1 dc1 pm1 an1 cd1 ct1), sl1⟩)
    (d1 : PySem.W.codeIn K cd1 "is_key" = true)
    (k1 : PySem.W.keepIn K (.ref f1) = true)
    (l2 : K.lookup f2 = some ⟨oc2, od2, .func (PySem.W.fnOf "checked" "checked" (defArgs s_checked) (defBody s_checked) (defScope s_checked) .none kV2 dc2 pm2 an2 cd2 ct2), sl2⟩)
    (d2 : PySem.W.codeIn K cd2 "checked" = true)
    (k2 : PySem.W.keepIn K (.ref f2) = true)
    (l3 : K.lookup f3 = some ⟨oc3, od3, .func (PySem.W.fnOf "stride" "stride" (defArgs s_stride) (defBody s_stride) (defScope s_stride) .none kV3 dc3 pm3 an3 cd3 ct3), sl3⟩)
    (d3 : PySem.W.codeIn K cd3 "stride" = true)
    (k3 : PySem.W.keepIn K (.ref f3) = true)
    (l4 : K.lookup f4 = some ⟨oc4, od4, .func (PySem.W.fnOf "probe" "probe" (defArgs s_probe) (defBody s_probe) (defScope s_probe) .none kV4 dc4 pm4 an4 cd4 ct4), sl4⟩)
    (d4 : PySem.W.codeIn K cd4 "probe" = true)
    (k4 : PySem.W.keepIn K (.ref f4) = true)
    (l5 : K.lookup f5 = some ⟨oc5, od5, .func (PySem.W.fnOf "is_size" "is_size" (defArgs s_is_size) (defBody s_is_size) (defScope s_is_size) .none kV5 dc5 pm5 an5 cd5 ct5), sl5⟩)
    (d5 : PySem.W.codeIn K cd5 "is_size" = true)
    (k5 : PySem.W.keepIn K (.ref f5) = true)
    (l6 : K.lookup f6 = some ⟨oc6, od6, .func (PySem.W.fnOf "room" "room" (defArgs s_room) (defBody s_room) (defScope s_room) .none kV6 dc6 pm6 an6 cd6 ct6), sl6⟩)
    (d6 : PySem.W.codeIn K cd6 "room" = true)
    (k6 : PySem.W.keepIn K (.ref f6) = true)
    (l7 : K.lookup f7 = some ⟨oc7, od7, .func (PySem.W.fnOf "size_for" "size_for" (defArgs s_size_for) (defBody s_size_for) (defScope s_size_for) .none kV7 dc7 pm7 an7 cd7 ct7), sl7⟩)
    (d7 : PySem.W.codeIn K cd7 "size_for" = true)
    (k7 : PySem.W.keepIn K (.ref f7) = true)
    (l8 : K.lookup f8 = some ⟨oc8, od8, .func (PySem.W.fnOf "stamp" "stamp" (defArgs s_stamp) (defBody s_stamp) (defScope s_stamp) .none kV8 dc8 pm8 an8 cd8 ct8), sl8⟩)
    (d8 : PySem.W.codeIn K cd8 "stamp" = true)
    (k8 : PySem.W.keepIn K (.ref f8) = true)
    (l9 : K.lookup f9 = some ⟨oc9, od9, .func (PySem.W.fnOf "first_bare" "first_bare" (defArgs s_first_bare) (defBody s_first_bare) (defScope s_first_bare) .none kV9 dc9 pm9 an9 cd9 ct9), sl9⟩)
    (d9 : PySem.W.codeIn K cd9 "first_bare" = true)
    (k9 : PySem.W.keepIn K (.ref f9) = true)
    (l10 : K.lookup f10 = some ⟨oc10, od10, .func (PySem.W.fnOf "cells_of" "cells_of" (defArgs s_cells_of) (defBody s_cells_of) (defScope s_cells_of) .none kV10 dc10 pm10 an10 cd10 ct10), sl10⟩)
    (d10 : PySem.W.codeIn K cd10 "cells_of" = true)
    (k10 : PySem.W.keepIn K (.ref f10) = true)
    (l11 : K.lookup f11 = some ⟨oc11, od11, .func (PySem.W.fnOf "paper" "paper" (defArgs s_paper) (defBody s_paper) (defScope s_paper) .none kV11 dc11 pm11 an11 cd11 ct11), sl11⟩)
    (d11 : PySem.W.codeIn K cd11 "paper" = true)
    (k11 : PySem.W.keepIn K (.ref f11) = true)
    (l12 : K.lookup f12 = some ⟨oc12, od12, .func (PySem.W.fnOf "place_of" "place_of" (defArgs s_place_of) (defBody s_place_of) (defScope s_place_of) .none kV12 dc12 pm12 an12 cd12 ct12), sl12⟩)
    (d12 : PySem.W.codeIn K cd12 "place_of" = true)
    (k12 : PySem.W.keepIn K (.ref f12) = true)
    (l13 : K.lookup f13 = some ⟨oc13, od13, .func (PySem.W.fnOf "__init__" "Shelf.__init__" (defArgs s_Shelf___init__) (defBody s_Shelf___init__) (defScope s_Shelf___init__) (.ref dT13) kV13 dc13 pm13 an13 cd13 ct13), sl13⟩)
    (dl13 : K.lookup dT13 = some dO13)
    (dd13 : dO13.data = .seq #[.int 8 dk13_0] dn13)
    (d13 : PySem.W.codeIn K cd13 "Shelf.__init__" = true)
    (k13 : PySem.W.keepIn K (.ref f13) = true)
    (l14 : K.lookup f14 = some ⟨oc14, od14, .func (PySem.W.fnOf "find" "Shelf.find" (defArgs s_Shelf_find) (defBody s_Shelf_find) (defScope s_Shelf_find) .none kV14 dc14 pm14 an14 cd14 ct14), sl14⟩)
    (d14 : PySem.W.codeIn K cd14 "Shelf.find" = true)
    (k14 : PySem.W.keepIn K (.ref f14) = true)
    (l15 : K.lookup f15 = some ⟨oc15, od15, .func (PySem.W.fnOf "lay" "Shelf.lay" (defArgs s_Shelf_lay) (defBody s_Shelf_lay) (defScope s_Shelf_lay) .none kV15 dc15 pm15 an15 cd15 ct15), sl15⟩)
    (d15 : PySem.W.codeIn K cd15 "Shelf.lay" = true)
    (k15 : PySem.W.keepIn K (.ref f15) = true)
    (l16 : K.lookup f16 = some ⟨oc16, od16, .func (PySem.W.fnOf "mark_gone" "Shelf.mark_gone" (defArgs s_Shelf_mark_gone) (defBody s_Shelf_mark_gone) (defScope s_Shelf_mark_gone) .none kV16 dc16 pm16 an16 cd16 ct16), sl16⟩)
    (d16 : PySem.W.codeIn K cd16 "Shelf.mark_gone" = true)
    (k16 : PySem.W.keepIn K (.ref f16) = true)
    (l17 : K.lookup f17 = some ⟨oc17, od17, .func (PySem.W.fnOf "relay" "Shelf.relay" (defArgs s_Shelf_relay) (defBody s_Shelf_relay) (defScope s_Shelf_relay) .none kV17 dc17 pm17 an17 cd17 ct17), sl17⟩)
    (d17 : PySem.W.codeIn K cd17 "Shelf.relay" = true)
    (k17 : PySem.W.keepIn K (.ref f17) = true)
    (l18 : K.lookup f18 = some ⟨oc18, od18, .func (PySem.W.fnOf "put" "Shelf.put" (defArgs s_Shelf_put) (defBody s_Shelf_put) (defScope s_Shelf_put) .none kV18 dc18 pm18 an18 cd18 ct18), sl18⟩)
    (d18 : PySem.W.codeIn K cd18 "Shelf.put" = true)
    (k18 : PySem.W.keepIn K (.ref f18) = true)
    (l19 : K.lookup f19 = some ⟨oc19, od19, .func (PySem.W.fnOf "at" "Shelf.at" (defArgs s_Shelf_at) (defBody s_Shelf_at) (defScope s_Shelf_at) .none kV19 dc19 pm19 an19 cd19 ct19), sl19⟩)
    (d19 : PySem.W.codeIn K cd19 "Shelf.at" = true)
    (k19 : PySem.W.keepIn K (.ref f19) = true)
    (l20 : K.lookup f20 = some ⟨oc20, od20, .func (PySem.W.fnOf "told" "Shelf.told" (defArgs s_Shelf_told) (defBody s_Shelf_told) (defScope s_Shelf_told) (.ref dT20) kV20 dc20 pm20 an20 cd20 ct20), sl20⟩)
    (dl20 : K.lookup dT20 = some dO20)
    (dd20 : dO20.data = .seq #[.none] dn20)
    (d20 : PySem.W.codeIn K cd20 "Shelf.told" = true)
    (k20 : PySem.W.keepIn K (.ref f20) = true)
    (l21 : K.lookup f21 = some ⟨oc21, od21, .func (PySem.W.fnOf "has" "Shelf.has" (defArgs s_Shelf_has) (defBody s_Shelf_has) (defScope s_Shelf_has) .none kV21 dc21 pm21 an21 cd21 ct21), sl21⟩)
    (d21 : PySem.W.codeIn K cd21 "Shelf.has" = true)
    (k21 : PySem.W.keepIn K (.ref f21) = true)
    (l22 : K.lookup f22 = some ⟨oc22, od22, .func (PySem.W.fnOf "take" "Shelf.take" (defArgs s_Shelf_take) (defBody s_Shelf_take) (defScope s_Shelf_take) .none kV22 dc22 pm22 an22 cd22 ct22), sl22⟩)
    (d22 : PySem.W.codeIn K cd22 "Shelf.take" = true)
    (k22 : PySem.W.keepIn K (.ref f22) = true)
    (l23 : K.lookup f23 = some ⟨oc23, od23, .func (PySem.W.fnOf "take_last" "Shelf.take_last" (defArgs s_Shelf_take_last) (defBody s_Shelf_take_last) (defScope s_Shelf_take_last) .none kV23 dc23 pm23 an23 cd23 ct23), sl23⟩)
    (d23 : PySem.W.codeIn K cd23 "Shelf.take_last" = true)
    (k23 : PySem.W.keepIn K (.ref f23) = true)
    (l24 : K.lookup f24 = some ⟨oc24, od24, .func (PySem.W.fnOf "emptied" "Shelf.emptied" (defArgs s_Shelf_emptied) (defBody s_Shelf_emptied) (defScope s_Shelf_emptied) .none kV24 dc24 pm24 an24 cd24 ct24), sl24⟩)
    (d24 : PySem.W.codeIn K cd24 "Shelf.emptied" = true)
    (k24 : PySem.W.keepIn K (.ref f24) = true)
    (l25 : K.lookup f25 = some ⟨oc25, od25, .func (PySem.W.fnOf "many" "Shelf.many" (defArgs s_Shelf_many) (defBody s_Shelf_many) (defScope s_Shelf_many) .none kV25 dc25 pm25 an25 cd25 ct25), sl25⟩)
    (d25 : PySem.W.codeIn K cd25 "Shelf.many" = true)
    (k25 : PySem.W.keepIn K (.ref f25) = true)
    (l26 : K.lookup f26 = some ⟨oc26, od26, .func (PySem.W.fnOf "pairs" "Shelf.pairs" (defArgs s_Shelf_pairs) (defBody s_Shelf_pairs) (defScope s_Shelf_pairs) .none kV26 dc26 pm26 an26 cd26 ct26), sl26⟩)
    (d26 : PySem.W.codeIn K cd26 "Shelf.pairs" = true)
    (k26 : PySem.W.keepIn K (.ref f26) = true)
    (l27 : K.lookup f27 = some ⟨oc27, od27, .func (PySem.W.fnOf "after" "Shelf.after" (defArgs s_Shelf_after) (defBody s_Shelf_after) (defScope s_Shelf_after) .none kV27 dc27 pm27 an27 cd27 ct27), sl27⟩)
    (d27 : PySem.W.codeIn K cd27 "Shelf.after" = true)
    (k27 : PySem.W.keepIn K (.ref f27) = true)
    (l28 : K.lookup f28 = some ⟨oc28, od28, .func (PySem.W.fnOf "ahead" "Shelf.ahead" (defArgs s_Shelf_ahead) (defBody s_Shelf_ahead) (defScope s_Shelf_ahead) .none kV28 dc28 pm28 an28 cd28 ct28), sl28⟩)
    (d28 : PySem.W.codeIn K cd28 "Shelf.ahead" = true)
    (k28 : PySem.W.keepIn K (.ref f28) = true)
    (l29 : K.lookup f29 = some ⟨oc29, od29, .func (PySem.W.fnOf "paper" "Shelf.paper" (defArgs s_Shelf_paper) (defBody s_Shelf_paper) (defScope s_Shelf_paper) .none kV29 dc29 pm29 an29 cd29 ct29), sl29⟩)
    (d29 : PySem.W.codeIn K cd29 "Shelf.paper" = true)
    (k29 : PySem.W.keepIn K (.ref f29) = true)
    (l30 : K.lookup f30 = some ⟨oc30, od30, .func (PySem.W.fnOf "counts" "Shelf.counts" (defArgs s_Shelf_counts) (defBody s_Shelf_counts) (defScope s_Shelf_counts) .none kV30 dc30 pm30 an30 cd30 ct30), sl30⟩)
    (d30 : PySem.W.codeIn K cd30 "Shelf.counts" = true)
    (k30 : PySem.W.keepIn K (.ref f30) = true)
    (l31 : K.lookup f31 = some ⟨oc31, od31, .func (PySem.W.fnOf "packed" "packed" (defArgs s_packed) (defBody s_packed) (defScope s_packed) .none kV31 dc31 pm31 an31 cd31 ct31), sl31⟩)
    (d31 : PySem.W.codeIn K cd31 "packed" = true)
    (k31 : PySem.W.keepIn K (.ref f31) = true)
    (l32 : K.lookup f32 = some ⟨oc32, od32, .func (PySem.W.fnOf "__init__" "Table.__init__" (defArgs s_Table___init__) (defBody s_Table___init__) (defScope s_Table___init__) .none kV32 dc32 pm32 an32 cd32 ct32), sl32⟩)
    (d32 : PySem.W.codeIn K cd32 "Table.__init__" = true)
    (k32 : PySem.W.keepIn K (.ref f32) = true)
    (l33 : K.lookup f33 = some ⟨oc33, od33, .func (PySem.W.fnOf "make_room" "Table.make_room" (defArgs s_Table_make_room) (defBody s_Table_make_room) (defScope s_Table_make_room) .none kV33 dc33 pm33 an33 cd33 ct33), sl33⟩)
    (d33 : PySem.W.codeIn K cd33 "Table.make_room" = true)
    (k33 : PySem.W.keepIn K (.ref f33) = true)
    (l34 : K.lookup f34 = some ⟨oc34, od34, .func (PySem.W.fnOf "__init__" "Kin.__init__" (defArgs s_Kin___init__) (defBody s_Kin___init__) (defScope s_Kin___init__) .none kV34 dc34 pm34 an34 cd34 ct34), sl34⟩)
    (d34 : PySem.W.codeIn K cd34 "Kin.__init__" = true)
    (k34 : PySem.W.keepIn K (.ref f34) = true)
    (l35 : K.lookup f35 = some ⟨oc35, od35, .func (PySem.W.fnOf "parted" "Kin.parted" (defArgs s_Kin_parted) (defBody s_Kin_parted) (defScope s_Kin_parted) .none kV35 dc35 pm35 an35 cd35 ct35), sl35⟩)
    (d35 : PySem.W.codeIn K cd35 "Kin.parted" = true)
    (k35 : PySem.W.keepIn K (.ref f35) = true)
    (l36 : K.lookup f36 = some ⟨oc36, od36, .func (PySem.W.fnOf "find" "Kin.find" (defArgs s_Kin_find) (defBody s_Kin_find) (defScope s_Kin_find) .none kV36 dc36 pm36 an36 cd36 ct36), sl36⟩)
    (d36 : PySem.W.codeIn K cd36 "Kin.find" = true)
    (k36 : PySem.W.keepIn K (.ref f36) = true)
    (l37 : K.lookup f37 = some ⟨oc37, od37, .func (PySem.W.fnOf "lay" "Kin.lay" (defArgs s_Kin_lay) (defBody s_Kin_lay) (defScope s_Kin_lay) .none kV37 dc37 pm37 an37 cd37 ct37), sl37⟩)
    (d37 : PySem.W.codeIn K cd37 "Kin.lay" = true)
    (k37 : PySem.W.keepIn K (.ref f37) = true)
    (l38 : K.lookup f38 = some ⟨oc38, od38, .func (PySem.W.fnOf "mark_gone" "Kin.mark_gone" (defArgs s_Kin_mark_gone) (defBody s_Kin_mark_gone) (defScope s_Kin_mark_gone) .none kV38 dc38 pm38 an38 cd38 ct38), sl38⟩)
    (d38 : PySem.W.codeIn K cd38 "Kin.mark_gone" = true)
    (k38 : PySem.W.keepIn K (.ref f38) = true)
    (l39 : K.lookup f39 = some ⟨oc39, od39, .func (PySem.W.fnOf "relay" "Kin.relay" (defArgs s_Kin_relay) (defBody s_Kin_relay) (defScope s_Kin_relay) .none kV39 dc39 pm39 an39 cd39 ct39), sl39⟩)
    (d39 : PySem.W.codeIn K cd39 "Kin.relay" = true)
    (k39 : PySem.W.keepIn K (.ref f39) = true)
    (l40 : K.lookup f40 = some ⟨oc40, od40, .func (PySem.W.fnOf "paper" "Kin.paper" (defArgs s_Kin_paper) (defBody s_Kin_paper) (defScope s_Kin_paper) .none kV40 dc40 pm40 an40 cd40 ct40), sl40⟩)
    (d40 : PySem.W.codeIn K cd40 "Kin.paper" = true)
    (k40 : PySem.W.keepIn K (.ref f40) = true)
    (l41 : K.lookup f41 = some ⟨oc41, od41, .func (PySem.W.fnOf "__init__" "Maker.__init__" (defArgs s_Maker___init__) (defBody s_Maker___init__) (defScope s_Maker___init__) .none kV41 dc41 pm41 an41 cd41 ct41), sl41⟩)
    (d41 : PySem.W.codeIn K cd41 "Maker.__init__" = true)
    (k41 : PySem.W.keepIn K (.ref f41) = true)
    (l42 : K.lookup f42 = some ⟨oc42, od42, .func (PySem.W.fnOf "number_of" "Maker.number_of" (defArgs s_Maker_number_of) (defBody s_Maker_number_of) (defScope s_Maker_number_of) .none kV42 dc42 pm42 an42 cd42 ct42), sl42⟩)
    (d42 : PySem.W.codeIn K cd42 "Maker.number_of" = true)
    (k42 : PySem.W.keepIn K (.ref f42) = true)
    (l43 : K.lookup f43 = some ⟨oc43, od43, .func (PySem.W.fnOf "taken_in" "Maker.taken_in" (defArgs s_Maker_taken_in) (defBody s_Maker_taken_in) (defScope s_Maker_taken_in) .none kV43 dc43 pm43 an43 cd43 ct43), sl43⟩)
    (d43 : PySem.W.codeIn K cd43 "Maker.taken_in" = true)
    (k43 : PySem.W.keepIn K (.ref f43) = true)
    (l44 : K.lookup f44 = some ⟨oc44, od44, .func (PySem.W.fnOf "paper" "Maker.paper" (defArgs s_Maker_paper) (defBody s_Maker_paper) (defScope s_Maker_paper) .none kV44 dc44 pm44 an44 cd44 ct44), sl44⟩)
    (d44 : PySem.W.codeIn K cd44 "Maker.paper" = true)
    (k44 : PySem.W.keepIn K (.ref f44) = true)
    (l45 : K.lookup f45 = some ⟨oc45, od45, .func (PySem.W.fnOf "_law_cell_at" "_law_cell_at" (defArgs s_law_cell_at) (defBody s_law_cell_at) (defScope s_law_cell_at) .none kV45 dc45 pm45 an45 cd45 ct45), sl45⟩)
    (d45 : PySem.W.codeIn K cd45 "_law_cell_at" = true)
    (k45 : PySem.W.keepIn K (.ref f45) = true)
    (l46 : K.lookup f46 = some ⟨oc46, od46, .func (PySem.W.fnOf "_law_pool" "_law_pool" (defArgs s_law_pool) (defBody s_law_pool) (defScope s_law_pool) .none kV46 dc46 pm46 an46 cd46 ct46), sl46⟩)
    (d46 : PySem.W.codeIn K cd46 "_law_pool" = true)
    (k46 : PySem.W.keepIn K (.ref f46) = true)
    (l47 : K.lookup f47 = some ⟨oc47, od47, .func (PySem.W.fnOf "_law_alike" "_law_alike" (defArgs s_law_alike) (defBody s_law_alike) (defScope s_law_alike) .none kV47 dc47 pm47 an47 cd47 ct47), sl47⟩)
    (d47 : PySem.W.codeIn K cd47 "_law_alike" = true)
    (k47 : PySem.W.keepIn K (.ref f47) = true)
    (l48 : K.lookup f48 = some ⟨oc48, od48, .func (PySem.W.fnOf "_law_value" "_law_value" (defArgs s_law_value) (defBody s_law_value) (defScope s_law_value) .none kV48 dc48 pm48 an48 cd48 ct48), sl48⟩)
    (d48 : PySem.W.codeIn K cd48 "_law_value" = true)
    (k48 : PySem.W.keepIn K (.ref f48) = true)
    (l49 : K.lookup f49 = some ⟨oc49, od49, .func (PySem.W.fnOf "_law_asked" "_law_asked" (defArgs s_law_asked) (defBody s_law_asked) (defScope s_law_asked) .none kV49 dc49 pm49 an49 cd49 ct49), sl49⟩)
    (d49 : PySem.W.codeIn K cd49 "_law_asked" = true)
    (k49 : PySem.W.keepIn K (.ref f49) = true)
    (l50 : K.lookup f50 = some ⟨oc50, od50, .func (PySem.W.fnOf "_law_said" "_law_said" (defArgs s_law_said) (defBody s_law_said) (defScope s_law_said) .none kV50 dc50 pm50 an50 cd50 ct50), sl50⟩)
    (d50 : PySem.W.codeIn K cd50 "_law_said" = true)
    (k50 : PySem.W.keepIn K (.ref f50) = true)
    (l51 : K.lookup f51 = some ⟨oc51, od51, .func (PySem.W.fnOf "_law_both" "_law_both" (defArgs s_law_both) (defBody s_law_both) (defScope s_law_both) .none kV51 dc51 pm51 an51 cd51 ct51), sl51⟩)
    (d51 : PySem.W.codeIn K cd51 "_law_both" = true)
    (k51 : PySem.W.keepIn K (.ref f51) = true)
    (l52 : K.lookup f52 = some ⟨oc52, od52, .func (PySem.W.fnOf "_law_turns" "_law_turns" (defArgs s_law_turns) (defBody s_law_turns) (defScope s_law_turns) .none kV52 dc52 pm52 an52 cd52 ct52), sl52⟩)
    (d52 : PySem.W.codeIn K cd52 "_law_turns" = true)
    (k52 : PySem.W.keepIn K (.ref f52) = true)
    (l53 : K.lookup f53 = some ⟨oc53, od53, .func (PySem.W.fnOf "_law_deed" "_law_deed" (defArgs s_law_deed) (defBody s_law_deed) (defScope s_law_deed) .none kV53 dc53 pm53 an53 cd53 ct53), sl53⟩)
    (d53 : PySem.W.codeIn K cd53 "_law_deed" = true)
    (k53 : PySem.W.keepIn K (.ref f53) = true)
    (l54 : K.lookup f54 = some ⟨oc54, od54, .func (PySem.W.fnOf "_law_found" "_law_found" (defArgs s_law_found) (defBody s_law_found) (defScope s_law_found) .none kV54 dc54 pm54 an54 cd54 ct54), sl54⟩)
    (d54 : PySem.W.codeIn K cd54 "_law_found" = true)
    (k54 : PySem.W.keepIn K (.ref f54) = true)
    (l55 : K.lookup f55 = some ⟨oc55, od55, .func (PySem.W.fnOf "_law_between" "_law_between" (defArgs s_law_between) (defBody s_law_between) (defScope s_law_between) .none kV55 dc55 pm55 an55 cd55 ct55), sl55⟩)
    (d55 : PySem.W.codeIn K cd55 "_law_between" = true)
    (k55 : PySem.W.keepIn K (.ref f55) = true)
    (l56 : K.lookup f56 = some ⟨oc56, od56, .func (PySem.W.fnOf "law" "law" (defArgs s_law) (defBody s_law) (defScope s_law) .none kV56 dc56 pm56 an56 cd56 ct56), sl56⟩)
    (d56 : PySem.W.codeIn K cd56 "law" = true)
    (k56 : PySem.W.keepIn K (.ref f56) = true)
    (al0 : PySem.W.nsIn K mainGlobals "paper_slots" = some (some (.ref f11)))
    (pg0 : PySem.W.plainGet K C0 Str.empty = true)
    (hd0 : PySem.W.hasDictIn K C0 = true)
    (po0 : PySem.W.plainOver K C0 = true)
    (sa0 : PySem.W.findIn K (.ref C0) "__setattr__" = some (some (.builtin "object.__setattr__")))
    (na0_0 : PySem.W.findIn K (.ref C0) "cells" = some none)
    (na0_1 : PySem.W.findIn K (.ref C0) "size" = some none)
    (na0_2 : PySem.W.findIn K (.ref C0) "least" = some none)
    (na0_3 : PySem.W.findIn K (.ref C0) "row" = some none)
    (na0_4 : PySem.W.findIn K (.ref C0) "held" = some none)
    (na0_5 : PySem.W.findIn K (.ref C0) "born" = some none)
    (na0_6 : PySem.W.findIn K (.ref C0) "comings" = some none)
    (na0_7 : PySem.W.findIn K (.ref C0) "goings" = some none)
    (na0_8 : PySem.W.findIn K (.ref C0) "tidied" = some none)
    (na0_9 : PySem.W.findIn K (.ref C0) "moved" = some none)
    (fn13 : PySem.W.isFn K (.ref f13) = true)
    (mk0 : PySem.W.makesIn K C0 = true)
    (kC0 : PySem.W.keepIn K (.ref C0) = true)
    (fn14 : PySem.W.isFn K (.ref f14) = true)
    (fn15 : PySem.W.isFn K (.ref f15) = true)
    (fn16 : PySem.W.isFn K (.ref f16) = true)
    (fn17 : PySem.W.isFn K (.ref f17) = true)
    (fn18 : PySem.W.isFn K (.ref f18) = true)
    (fn19 : PySem.W.isFn K (.ref f19) = true)
    (fn20 : PySem.W.isFn K (.ref f20) = true)
    (fn21 : PySem.W.isFn K (.ref f21) = true)
    (fn22 : PySem.W.isFn K (.ref f22) = true)
    (fn23 : PySem.W.isFn K (.ref f23) = true)
    (fn24 : PySem.W.isFn K (.ref f24) = true)
    (fn25 : PySem.W.isFn K (.ref f25) = true)
    (fn26 : PySem.W.isFn K (.ref f26) = true)
    (fn27 : PySem.W.isFn K (.ref f27) = true)
    (fn28 : PySem.W.isFn K (.ref f28) = true)
    (fn29 : PySem.W.isFn K (.ref f29) = true)
    (fn30 : PySem.W.isFn K (.ref f30) = true)
    (pg1 : PySem.W.plainGet K C1 Str.empty = true)
    (hd1 : PySem.W.hasDictIn K C1 = true)
    (po1 : PySem.W.plainOver K C1 = true)
    (sa1 : PySem.W.findIn K (.ref C1) "__setattr__" = some (some (.builtin "object.__setattr__")))
    (na1_0 : PySem.W.findIn K (.ref C1) "cells" = some none)
    (na1_1 : PySem.W.findIn K (.ref C1) "size" = some none)
    (na1_2 : PySem.W.findIn K (.ref C1) "least" = some none)
    (na1_3 : PySem.W.findIn K (.ref C1) "row" = some none)
    (na1_4 : PySem.W.findIn K (.ref C1) "held" = some none)
    (na1_5 : PySem.W.findIn K (.ref C1) "born" = some none)
    (na1_6 : PySem.W.findIn K (.ref C1) "comings" = some none)
    (na1_7 : PySem.W.findIn K (.ref C1) "goings" = some none)
    (na1_8 : PySem.W.findIn K (.ref C1) "tidied" = some none)
    (na1_9 : PySem.W.findIn K (.ref C1) "moved" = some none)
    (fn32 : PySem.W.isFn K (.ref f32) = true)
    (mk1 : PySem.W.makesIn K C1 = true)
    (kC1 : PySem.W.keepIn K (.ref C1) = true)
    (fn33 : PySem.W.isFn K (.ref f33) = true)
    (pg2 : PySem.W.plainGet K C2 Str.empty = true)
    (hd2 : PySem.W.hasDictIn K C2 = true)
    (po2 : PySem.W.plainOver K C2 = true)
    (sa2 : PySem.W.findIn K (.ref C2) "__setattr__" = some (some (.builtin "object.__setattr__")))
    (na2_0 : PySem.W.findIn K (.ref C2) "cells" = some none)
    (na2_1 : PySem.W.findIn K (.ref C2) "size" = some none)
    (na2_2 : PySem.W.findIn K (.ref C2) "least" = some none)
    (na2_3 : PySem.W.findIn K (.ref C2) "row" = some none)
    (na2_4 : PySem.W.findIn K (.ref C2) "held" = some none)
    (na2_5 : PySem.W.findIn K (.ref C2) "born" = some none)
    (na2_6 : PySem.W.findIn K (.ref C2) "comings" = some none)
    (na2_7 : PySem.W.findIn K (.ref C2) "goings" = some none)
    (na2_8 : PySem.W.findIn K (.ref C2) "tidied" = some none)
    (na2_9 : PySem.W.findIn K (.ref C2) "moved" = some none)
    (na2_10 : PySem.W.findIn K (.ref C2) "maker" = some none)
    (na2_11 : PySem.W.findIn K (.ref C2) "seats" = some none)
    (na2_12 : PySem.W.findIn K (.ref C2) "apart" = some none)
    (fn34 : PySem.W.isFn K (.ref f34) = true)
    (mk2 : PySem.W.makesIn K C2 = true)
    (kC2 : PySem.W.keepIn K (.ref C2) = true)
    (fn35 : PySem.W.isFn K (.ref f35) = true)
    (fn36 : PySem.W.isFn K (.ref f36) = true)
    (fn37 : PySem.W.isFn K (.ref f37) = true)
    (fn38 : PySem.W.isFn K (.ref f38) = true)
    (fn39 : PySem.W.isFn K (.ref f39) = true)
    (fn40 : PySem.W.isFn K (.ref f40) = true)
    (pg3 : PySem.W.plainGet K C3 Str.empty = true)
    (hd3 : PySem.W.hasDictIn K C3 = true)
    (po3 : PySem.W.plainOver K C3 = true)
    (sa3 : PySem.W.findIn K (.ref C3) "__setattr__" = some (some (.builtin "object.__setattr__")))
    (na3_0 : PySem.W.findIn K (.ref C3) "row" = some none)
    (na3_1 : PySem.W.findIn K (.ref C3) "cells" = some none)
    (fn41 : PySem.W.isFn K (.ref f41) = true)
    (mk3 : PySem.W.makesIn K C3 = true)
    (kC3 : PySem.W.keepIn K (.ref C3) = true)
    (fn42 : PySem.W.isFn K (.ref f42) = true)
    (fn43 : PySem.W.isFn K (.ref f43) = true)
    (fn44 : PySem.W.isFn K (.ref f44) = true)
    (ia0 : PySem.W.findIn K (.ref C2) "__class__" = some (some (.builtin "object.__class__")))
    (in0 : PySem.W.specialIn K (.builtin "object.__class__") "__get__" = some (some (.builtin "getset_descriptor.__get__")))
    (it0 : PySem.W.takesIn K (.builtin "object.__class__") = some true)
    (im0 : PySem.W.mroIn K C2 (.type "object") = some true)
    (iq0 : PySem.W.kitOne K (.ref C2) (.ref C2) = some true)
    (io0 : PySem.W.kitOne K (.ref C2) (.ref C1) = some true)
    (xx0 : PySem.W.excIn K X0 [.type "ValueError", .type "Exception", .type "BaseException", .type "object"] "ValueError.__new__" = true)
    (xk0 : PySem.W.keepIn K (.ref X0) = true)
    (xb0 : PySem.W.subIn K (.ref X0) (.type "BaseException") = some true)
    (xt0 : PySem.W.typeIn K (.ref X0) = some (.type "type"))
    (xx1 : PySem.W.excIn K X1 [.type "ValueError", .type "Exception", .type "BaseException", .type "object"] "ValueError.__new__" = true)
    (xk1 : PySem.W.keepIn K (.ref X1) = true)
    (xb1 : PySem.W.subIn K (.ref X1) (.type "BaseException") = some true)
    (xt1 : PySem.W.typeIn K (.ref X1) = some (.type "type"))
    (cr0 : PySem.W.readsIn K C0 (.type "type") = true)
    (cg0 : PySem.W.specialIn K (.ref C0) "__getattribute__" = some (some (.builtin "type.__getattribute__")))
    (cf0 : PySem.W.findCls K (.ref C0) (.type "type") "__init__" = some (.val (.ref f13)))
    (cr1 : PySem.W.readsIn K C1 (.type "type") = true)
    (cg1 : PySem.W.specialIn K (.ref C1) "__getattribute__" = some (some (.builtin "type.__getattribute__")))
    (cf1 : PySem.W.findCls K (.ref C1) (.type "type") "__init__" = some (.val (.ref f32)))
    (xi1 : PySem.W.isClsIn K X1 = true)
    (xs0 : PySem.W.subIn K (.ref X1) (.ref X1) = some true)
    (xs1 : PySem.W.subIn K (.ref X0) (.ref X1) = some false)
    (xi0 : PySem.W.isClsIn K X0 = true)
    (xs2 : PySem.W.subIn K (.ref X0) (.ref X0) = some true)
    (eg0 : PySem.W.findIn K (.ref X1) "__getattribute__" = some (some (.builtin "BaseException.__getattribute__")))
    (ek0 : PySem.W.findIn K (.ref X1) "__getattr__" = some none)
    (ed0 : PySem.W.hasDictIn K X1 = true)
    (ea0 : PySem.W.findIn K (.ref X1) "__class__" = some (some (.builtin "object.__class__")))
    (em0 : PySem.W.mroIn K X1 (.type "object") = some true)
    (eg1 : PySem.W.findIn K (.ref X0) "__getattribute__" = some (some (.builtin "BaseException.__getattribute__")))
    (ek1 : PySem.W.findIn K (.ref X0) "__getattr__" = some none)
    (ed1 : PySem.W.hasDictIn K X0 = true)
    (ea1 : PySem.W.findIn K (.ref X0) "__class__" = some (some (.builtin "object.__class__")))
    (em1 : PySem.W.mroIn K X0 (.type "object") = some true)
    (iox0 : PySem.W.kitOne K (.ref X1) (.ref X0) = some false)
    (iox1 : PySem.W.kitOne K (.ref X0) (.type "ValueError") = some true)
    (gl0 : PySem.W.nsIn K mainGlobals "FAR" = some (some (.int 1000000000000000000000000000000000000000000000000000000000000 tk0)))
    (gl1 : PySem.W.nsIn K mainGlobals "MOST_SIGNS" = some (some (.int 60 tk1)))
    (gl2 : PySem.W.nsIn K mainGlobals "MOST_PARTS" = some (some (.int 6 tk2)))
    (gl3 : PySem.W.nsIn K mainGlobals "DEEPEST" = some (some (.int 3 tk3)))
    (gl4 : PySem.W.nsIn K mainGlobals "LEAST" = some (some (.int 8 tk4)))
    (gl5 : PySem.W.nsIn K mainGlobals "GREATEST" = some (some (.int 4096 tk5)))
    (gl6 : PySem.W.nsIn K mainGlobals "TURN" = some (some (.int 2147483647 tk6)))
    (gl7 : PySem.W.nsIn K mainGlobals "EMPTY" = some (some (.int (-1) tk7)))
    (gl8 : PySem.W.nsIn K mainGlobals "GONE" = some (some (.int (-2) tk8)))
    (gl9 : PySem.W.nsIn K mainGlobals "SHARED" = some (some (.int 32 tk9)))
    (n_ValueError : PySem.W.nsIn K mainGlobals "ValueError" = some none)
    (n_all : PySem.W.nsIn K mainGlobals "all" = some none)
    (n_bool : PySem.W.nsIn K mainGlobals "bool" = some none)
    (n_enumerate : PySem.W.nsIn K mainGlobals "enumerate" = some none)
    (n_int : PySem.W.nsIn K mainGlobals "int" = some none)
    (n_isinstance : PySem.W.nsIn K mainGlobals "isinstance" = some none)
    (n_len : PySem.W.nsIn K mainGlobals "len" = some none)
    (n_list : PySem.W.nsIn K mainGlobals "list" = some none)
    (n_ord : PySem.W.nsIn K mainGlobals "ord" = some none)
    (n_range : PySem.W.nsIn K mainGlobals "range" = some none)
    (n_str : PySem.W.nsIn K mainGlobals "str" = some none)
    (n_tuple : PySem.W.nsIn K mainGlobals "tuple" = some none)
    (n_zip : PySem.W.nsIn K mainGlobals "zip" = some none) :
    ∃ fd : FuncData, (∀ (s : Shared) (v : Value), BindsTo s fd ⟨[v], []⟩ [("_law_script", v)]) ∧ ∀ base : Heap, K.In base → base.Ns mainGlobals mg → FnOk l.prog w K mg base CX0 17 fa fd ["_law_script"] (spLawB K) := by
  have e := hfa.symm.trans (PySem.W.mg_of X G a56)
  cases e
  have T : Txt K mg ⟨f0, PySem.W.fnOf "is_within" "is_within" (defArgs s_is_within) (defBody s_is_within) (defScope s_is_within) .none kV0 dc0 pm0 an0 cd0 ct0, f1, PySem.W.fnOf "is_key" "is_key" (defArgs s_is_key) (defBody s_is_key) (defScope s_is_key) .none kV1 dc1 pm1 an1 cd1 ct1, f2, PySem.W.fnOf "checked" "checked" (defArgs s_checked) (defBody s_checked) (defScope s_checked) .none kV2 dc2 pm2 an2 cd2 ct2, f3, PySem.W.fnOf "stride" "stride" (defArgs s_stride) (defBody s_stride) (defScope s_stride) .none kV3 dc3 pm3 an3 cd3 ct3, f4, PySem.W.fnOf "probe" "probe" (defArgs s_probe) (defBody s_probe) (defScope s_probe) .none kV4 dc4 pm4 an4 cd4 ct4, f5, PySem.W.fnOf "is_size" "is_size" (defArgs s_is_size) (defBody s_is_size) (defScope s_is_size) .none kV5 dc5 pm5 an5 cd5 ct5, f6, PySem.W.fnOf "room" "room" (defArgs s_room) (defBody s_room) (defScope s_room) .none kV6 dc6 pm6 an6 cd6 ct6, f7, PySem.W.fnOf "size_for" "size_for" (defArgs s_size_for) (defBody s_size_for) (defScope s_size_for) .none kV7 dc7 pm7 an7 cd7 ct7, f8, PySem.W.fnOf "stamp" "stamp" (defArgs s_stamp) (defBody s_stamp) (defScope s_stamp) .none kV8 dc8 pm8 an8 cd8 ct8, f9, PySem.W.fnOf "first_bare" "first_bare" (defArgs s_first_bare) (defBody s_first_bare) (defScope s_first_bare) .none kV9 dc9 pm9 an9 cd9 ct9, f10, PySem.W.fnOf "cells_of" "cells_of" (defArgs s_cells_of) (defBody s_cells_of) (defScope s_cells_of) .none kV10 dc10 pm10 an10 cd10 ct10, f11, PySem.W.fnOf "paper" "paper" (defArgs s_paper) (defBody s_paper) (defScope s_paper) .none kV11 dc11 pm11 an11 cd11 ct11, f12, PySem.W.fnOf "place_of" "place_of" (defArgs s_place_of) (defBody s_place_of) (defScope s_place_of) .none kV12 dc12 pm12 an12 cd12 ct12, f13, PySem.W.fnOf "__init__" "Shelf.__init__" (defArgs s_Shelf___init__) (defBody s_Shelf___init__) (defScope s_Shelf___init__) (.ref dT13) kV13 dc13 pm13 an13 cd13 ct13, f14, PySem.W.fnOf "find" "Shelf.find" (defArgs s_Shelf_find) (defBody s_Shelf_find) (defScope s_Shelf_find) .none kV14 dc14 pm14 an14 cd14 ct14, f15, PySem.W.fnOf "lay" "Shelf.lay" (defArgs s_Shelf_lay) (defBody s_Shelf_lay) (defScope s_Shelf_lay) .none kV15 dc15 pm15 an15 cd15 ct15, f16, PySem.W.fnOf "mark_gone" "Shelf.mark_gone" (defArgs s_Shelf_mark_gone) (defBody s_Shelf_mark_gone) (defScope s_Shelf_mark_gone) .none kV16 dc16 pm16 an16 cd16 ct16, f17, PySem.W.fnOf "relay" "Shelf.relay" (defArgs s_Shelf_relay) (defBody s_Shelf_relay) (defScope s_Shelf_relay) .none kV17 dc17 pm17 an17 cd17 ct17, f18, PySem.W.fnOf "put" "Shelf.put" (defArgs s_Shelf_put) (defBody s_Shelf_put) (defScope s_Shelf_put) .none kV18 dc18 pm18 an18 cd18 ct18, f19, PySem.W.fnOf "at" "Shelf.at" (defArgs s_Shelf_at) (defBody s_Shelf_at) (defScope s_Shelf_at) .none kV19 dc19 pm19 an19 cd19 ct19, f20, PySem.W.fnOf "told" "Shelf.told" (defArgs s_Shelf_told) (defBody s_Shelf_told) (defScope s_Shelf_told) (.ref dT20) kV20 dc20 pm20 an20 cd20 ct20, f21, PySem.W.fnOf "has" "Shelf.has" (defArgs s_Shelf_has) (defBody s_Shelf_has) (defScope s_Shelf_has) .none kV21 dc21 pm21 an21 cd21 ct21, f22, PySem.W.fnOf "take" "Shelf.take" (defArgs s_Shelf_take) (defBody s_Shelf_take) (defScope s_Shelf_take) .none kV22 dc22 pm22 an22 cd22 ct22, f23, PySem.W.fnOf "take_last" "Shelf.take_last" (defArgs s_Shelf_take_last) (defBody s_Shelf_take_last) (defScope s_Shelf_take_last) .none kV23 dc23 pm23 an23 cd23 ct23, f24, PySem.W.fnOf "emptied" "Shelf.emptied" (defArgs s_Shelf_emptied) (defBody s_Shelf_emptied) (defScope s_Shelf_emptied) .none kV24 dc24 pm24 an24 cd24 ct24, f25, PySem.W.fnOf "many" "Shelf.many" (defArgs s_Shelf_many) (defBody s_Shelf_many) (defScope s_Shelf_many) .none kV25 dc25 pm25 an25 cd25 ct25, f26, PySem.W.fnOf "pairs" "Shelf.pairs" (defArgs s_Shelf_pairs) (defBody s_Shelf_pairs) (defScope s_Shelf_pairs) .none kV26 dc26 pm26 an26 cd26 ct26, f27, PySem.W.fnOf "after" "Shelf.after" (defArgs s_Shelf_after) (defBody s_Shelf_after) (defScope s_Shelf_after) .none kV27 dc27 pm27 an27 cd27 ct27, f28, PySem.W.fnOf "ahead" "Shelf.ahead" (defArgs s_Shelf_ahead) (defBody s_Shelf_ahead) (defScope s_Shelf_ahead) .none kV28 dc28 pm28 an28 cd28 ct28, f29, PySem.W.fnOf "paper" "Shelf.paper" (defArgs s_Shelf_paper) (defBody s_Shelf_paper) (defScope s_Shelf_paper) .none kV29 dc29 pm29 an29 cd29 ct29, f30, PySem.W.fnOf "counts" "Shelf.counts" (defArgs s_Shelf_counts) (defBody s_Shelf_counts) (defScope s_Shelf_counts) .none kV30 dc30 pm30 an30 cd30 ct30, f31, PySem.W.fnOf "packed" "packed" (defArgs s_packed) (defBody s_packed) (defScope s_packed) .none kV31 dc31 pm31 an31 cd31 ct31, f32, PySem.W.fnOf "__init__" "Table.__init__" (defArgs s_Table___init__) (defBody s_Table___init__) (defScope s_Table___init__) .none kV32 dc32 pm32 an32 cd32 ct32, f33, PySem.W.fnOf "make_room" "Table.make_room" (defArgs s_Table_make_room) (defBody s_Table_make_room) (defScope s_Table_make_room) .none kV33 dc33 pm33 an33 cd33 ct33, f34, PySem.W.fnOf "__init__" "Kin.__init__" (defArgs s_Kin___init__) (defBody s_Kin___init__) (defScope s_Kin___init__) .none kV34 dc34 pm34 an34 cd34 ct34, f35, PySem.W.fnOf "parted" "Kin.parted" (defArgs s_Kin_parted) (defBody s_Kin_parted) (defScope s_Kin_parted) .none kV35 dc35 pm35 an35 cd35 ct35, f36, PySem.W.fnOf "find" "Kin.find" (defArgs s_Kin_find) (defBody s_Kin_find) (defScope s_Kin_find) .none kV36 dc36 pm36 an36 cd36 ct36, f37, PySem.W.fnOf "lay" "Kin.lay" (defArgs s_Kin_lay) (defBody s_Kin_lay) (defScope s_Kin_lay) .none kV37 dc37 pm37 an37 cd37 ct37, f38, PySem.W.fnOf "mark_gone" "Kin.mark_gone" (defArgs s_Kin_mark_gone) (defBody s_Kin_mark_gone) (defScope s_Kin_mark_gone) .none kV38 dc38 pm38 an38 cd38 ct38, f39, PySem.W.fnOf "relay" "Kin.relay" (defArgs s_Kin_relay) (defBody s_Kin_relay) (defScope s_Kin_relay) .none kV39 dc39 pm39 an39 cd39 ct39, f40, PySem.W.fnOf "paper" "Kin.paper" (defArgs s_Kin_paper) (defBody s_Kin_paper) (defScope s_Kin_paper) .none kV40 dc40 pm40 an40 cd40 ct40, f41, PySem.W.fnOf "__init__" "Maker.__init__" (defArgs s_Maker___init__) (defBody s_Maker___init__) (defScope s_Maker___init__) .none kV41 dc41 pm41 an41 cd41 ct41, f42, PySem.W.fnOf "number_of" "Maker.number_of" (defArgs s_Maker_number_of) (defBody s_Maker_number_of) (defScope s_Maker_number_of) .none kV42 dc42 pm42 an42 cd42 ct42, f43, PySem.W.fnOf "taken_in" "Maker.taken_in" (defArgs s_Maker_taken_in) (defBody s_Maker_taken_in) (defScope s_Maker_taken_in) .none kV43 dc43 pm43 an43 cd43 ct43, f44, PySem.W.fnOf "paper" "Maker.paper" (defArgs s_Maker_paper) (defBody s_Maker_paper) (defScope s_Maker_paper) .none kV44 dc44 pm44 an44 cd44 ct44, f45, PySem.W.fnOf "_law_cell_at" "_law_cell_at" (defArgs s_law_cell_at) (defBody s_law_cell_at) (defScope s_law_cell_at) .none kV45 dc45 pm45 an45 cd45 ct45, f46, PySem.W.fnOf "_law_pool" "_law_pool" (defArgs s_law_pool) (defBody s_law_pool) (defScope s_law_pool) .none kV46 dc46 pm46 an46 cd46 ct46, f47, PySem.W.fnOf "_law_alike" "_law_alike" (defArgs s_law_alike) (defBody s_law_alike) (defScope s_law_alike) .none kV47 dc47 pm47 an47 cd47 ct47, f48, PySem.W.fnOf "_law_value" "_law_value" (defArgs s_law_value) (defBody s_law_value) (defScope s_law_value) .none kV48 dc48 pm48 an48 cd48 ct48, f49, PySem.W.fnOf "_law_asked" "_law_asked" (defArgs s_law_asked) (defBody s_law_asked) (defScope s_law_asked) .none kV49 dc49 pm49 an49 cd49 ct49, f50, PySem.W.fnOf "_law_said" "_law_said" (defArgs s_law_said) (defBody s_law_said) (defScope s_law_said) .none kV50 dc50 pm50 an50 cd50 ct50, f51, PySem.W.fnOf "_law_both" "_law_both" (defArgs s_law_both) (defBody s_law_both) (defScope s_law_both) .none kV51 dc51 pm51 an51 cd51 ct51, f52, PySem.W.fnOf "_law_turns" "_law_turns" (defArgs s_law_turns) (defBody s_law_turns) (defScope s_law_turns) .none kV52 dc52 pm52 an52 cd52 ct52, f53, PySem.W.fnOf "_law_deed" "_law_deed" (defArgs s_law_deed) (defBody s_law_deed) (defScope s_law_deed) .none kV53 dc53 pm53 an53 cd53 ct53, f54, PySem.W.fnOf "_law_found" "_law_found" (defArgs s_law_found) (defBody s_law_found) (defScope s_law_found) .none kV54 dc54 pm54 an54 cd54 ct54, f55, PySem.W.fnOf "_law_between" "_law_between" (defArgs s_law_between) (defBody s_law_between) (defScope s_law_between) .none kV55 dc55 pm55 an55 cd55 ct55, fa, PySem.W.fnOf "law" "law" (defArgs s_law) (defBody s_law) (defScope s_law) .none kV56 dc56 pm56 an56 cd56 ct56, C0, C1, C2, C3, X0, X1, tk0, tk1, tk2, tk3, tk4, tk5, tk6, tk7, tk8, tk9⟩ := ⟨fun_mk (st := s_is_within) l0 d0 k0,
    (fun_mk (st := s_is_within) l0 d0 k0).binds (ps := ["thing", "deep"]) fun _ _ _ _ _ _ us hl => match us, hl with | [_, _], _ => rfl,
    PySem.W.mg_of X G a0,
    fun_mk (st := s_is_key) l1 d1 k1,
    (fun_mk (st := s_is_key) l1 d1 k1).binds (ps := ["thing"]) fun _ _ _ _ _ _ us hl => match us, hl with | [_], _ => rfl,
    PySem.W.mg_of X G a1,
    fun_mk (st := s_checked) l2 d2 k2,
    (fun_mk (st := s_checked) l2 d2 k2).binds (ps := ["thing"]) fun _ _ _ _ _ _ us hl => match us, hl with | [_], _ => rfl,
    PySem.W.mg_of X G a2,
    fun_mk (st := s_stride) l3 d3 k3,
    (fun_mk (st := s_stride) l3 d3 k3).binds (ps := ["stamp"]) fun _ _ _ _ _ _ us hl => match us, hl with | [_], _ => rfl,
    PySem.W.mg_of X G a3,
    fun_mk (st := s_probe) l4 d4 k4,
    (fun_mk (st := s_probe) l4 d4 k4).binds (ps := ["stamp", "size", "count"]) fun _ _ _ _ _ _ us hl => match us, hl with | [_, _, _], _ => rfl,
    PySem.W.mg_of X G a4,
    fun_mk (st := s_is_size) l5 d5 k5,
    (fun_mk (st := s_is_size) l5 d5 k5).binds (ps := ["thing"]) fun _ _ _ _ _ _ us hl => match us, hl with | [_], _ => rfl,
    PySem.W.mg_of X G a5,
    fun_mk (st := s_room) l6 d6 k6,
    (fun_mk (st := s_room) l6 d6 k6).binds (ps := ["size"]) fun _ _ _ _ _ _ us hl => match us, hl with | [_], _ => rfl,
    PySem.W.mg_of X G a6,
    fun_mk (st := s_size_for) l7 d7 k7,
    (fun_mk (st := s_size_for) l7 d7 k7).binds (ps := ["many"]) fun _ _ _ _ _ _ us hl => match us, hl with | [_], _ => rfl,
    PySem.W.mg_of X G a7,
    fun_mk (st := s_stamp) l8 d8 k8,
    (fun_mk (st := s_stamp) l8 d8 k8).binds (ps := ["key"]) fun _ _ _ _ _ _ us hl => match us, hl with | [_], _ => rfl,
    PySem.W.mg_of X G a8,
    fun_mk (st := s_first_bare) l9 d9 k9,
    (fun_mk (st := s_first_bare) l9 d9 k9).binds (ps := ["cells", "key"]) fun _ _ _ _ _ _ us hl => match us, hl with | [_, _], _ => rfl,
    PySem.W.mg_of X G a9,
    fun_mk (st := s_cells_of) l10 d10 k10,
    (fun_mk (st := s_cells_of) l10 d10 k10).binds (ps := ["row", "size"]) fun _ _ _ _ _ _ us hl => match us, hl with | [_, _], _ => rfl,
    PySem.W.mg_of X G a10,
    fun_mk (st := s_paper) l11 d11 k11,
    (fun_mk (st := s_paper) l11 d11 k11).binds (ps := ["cells", "row", "key"]) fun _ _ _ _ _ _ us hl => match us, hl with | [_, _, _], _ => rfl,
    PySem.W.mg_of X G a11,
    fun_mk (st := s_place_of) l12 d12 k12,
    (fun_mk (st := s_place_of) l12 d12 k12).binds (ps := ["cells", "row", "key"]) fun _ _ _ _ _ _ us hl => match us, hl with | [_, _, _], _ => rfl,
    PySem.W.mg_of X G a12,
    (show FunD K "__init__" "Shelf.__init__" (defArgs s_Shelf___init__) (defBody s_Shelf___init__) (defScope s_Shelf___init__) [V.int 8] [] f13 _ from fund_mk l13 d13 k13 dl13 dd13 (by decide) (by repeat' first | exact .nil | refine .cons ?_ ?_ | exact ⟨_, rfl⟩ | rfl)),
    FunD.binds1 (show FunD K "__init__" "Shelf.__init__" (defArgs s_Shelf___init__) (defBody s_Shelf___init__) (defScope s_Shelf___init__) [V.int 8] [] f13 _ from fund_mk l13 d13 k13 dl13 dd13 (by decide) (by repeat' first | exact .nil | refine .cons ?_ ?_ | exact ⟨_, rfl⟩ | rfl)) 1 0 (by decide) rfl fun T kV doc pm an cdv ct us its hu hi => match us, its, hu, hi with | [_], [_], _, _ => ⟨_, rfl, rfl⟩,
    FunD.binds1 (show FunD K "__init__" "Shelf.__init__" (defArgs s_Shelf___init__) (defBody s_Shelf___init__) (defScope s_Shelf___init__) [V.int 8] [] f13 _ from fund_mk l13 d13 k13 dl13 dd13 (by decide) (by repeat' first | exact .nil | refine .cons ?_ ?_ | exact ⟨_, rfl⟩ | rfl)) 2 1 (by decide) rfl fun T kV doc pm an cdv ct us its hu hi => match us, its, hu, hi with | [_, _], [_], _, _ => ⟨_, rfl, rfl⟩,
    fun_mk (st := s_Shelf_find) l14 d14 k14,
    (fun_mk (st := s_Shelf_find) l14 d14 k14).binds (ps := ["self", "key"]) fun _ _ _ _ _ _ us hl => match us, hl with | [_, _], _ => rfl,
    fun_mk (st := s_Shelf_lay) l15 d15 k15,
    (fun_mk (st := s_Shelf_lay) l15 d15 k15).binds (ps := ["self", "key", "place"]) fun _ _ _ _ _ _ us hl => match us, hl with | [_, _, _], _ => rfl,
    fun_mk (st := s_Shelf_mark_gone) l16 d16 k16,
    (fun_mk (st := s_Shelf_mark_gone) l16 d16 k16).binds (ps := ["self", "key", "place"]) fun _ _ _ _ _ _ us hl => match us, hl with | [_, _, _], _ => rfl,
    fun_mk (st := s_Shelf_relay) l17 d17 k17,
    (fun_mk (st := s_Shelf_relay) l17 d17 k17).binds (ps := ["self"]) fun _ _ _ _ _ _ us hl => match us, hl with | [_], _ => rfl,
    fun_mk (st := s_Shelf_put) l18 d18 k18,
    (fun_mk (st := s_Shelf_put) l18 d18 k18).binds (ps := ["self", "key", "value"]) fun _ _ _ _ _ _ us hl => match us, hl with | [_, _, _], _ => rfl,
    fun_mk (st := s_Shelf_at) l19 d19 k19,
    (fun_mk (st := s_Shelf_at) l19 d19 k19).binds (ps := ["self", "key"]) fun _ _ _ _ _ _ us hl => match us, hl with | [_, _], _ => rfl,
    (show FunD K "told" "Shelf.told" (defArgs s_Shelf_told) (defBody s_Shelf_told) (defScope s_Shelf_told) [V.non] [] f20 _ from fund_mk l20 d20 k20 dl20 dd20 (by decide) (by repeat' first | exact .nil | refine .cons ?_ ?_ | exact ⟨_, rfl⟩ | rfl)),
    FunD.binds1 (show FunD K "told" "Shelf.told" (defArgs s_Shelf_told) (defBody s_Shelf_told) (defScope s_Shelf_told) [V.non] [] f20 _ from fund_mk l20 d20 k20 dl20 dd20 (by decide) (by repeat' first | exact .nil | refine .cons ?_ ?_ | exact ⟨_, rfl⟩ | rfl)) 2 0 (by decide) rfl fun T kV doc pm an cdv ct us its hu hi => match us, its, hu, hi with | [_, _], [_], _, _ => ⟨_, rfl, rfl⟩,
    FunD.binds1 (show FunD K "told" "Shelf.told" (defArgs s_Shelf_told) (defBody s_Shelf_told) (defScope s_Shelf_told) [V.non] [] f20 _ from fund_mk l20 d20 k20 dl20 dd20 (by decide) (by repeat' first | exact .nil | refine .cons ?_ ?_ | exact ⟨_, rfl⟩ | rfl)) 3 1 (by decide) rfl fun T kV doc pm an cdv ct us its hu hi => match us, its, hu, hi with | [_, _, _], [_], _, _ => ⟨_, rfl, rfl⟩,
    fun_mk (st := s_Shelf_has) l21 d21 k21,
    (fun_mk (st := s_Shelf_has) l21 d21 k21).binds (ps := ["self", "key"]) fun _ _ _ _ _ _ us hl => match us, hl with | [_, _], _ => rfl,
    fun_mk (st := s_Shelf_take) l22 d22 k22,
    (fun_mk (st := s_Shelf_take) l22 d22 k22).binds (ps := ["self", "key"]) fun _ _ _ _ _ _ us hl => match us, hl with | [_, _], _ => rfl,
    fun_mk (st := s_Shelf_take_last) l23 d23 k23,
    (fun_mk (st := s_Shelf_take_last) l23 d23 k23).binds (ps := ["self"]) fun _ _ _ _ _ _ us hl => match us, hl with | [_], _ => rfl,
    fun_mk (st := s_Shelf_emptied) l24 d24 k24,
    (fun_mk (st := s_Shelf_emptied) l24 d24 k24).binds (ps := ["self"]) fun _ _ _ _ _ _ us hl => match us, hl with | [_], _ => rfl,
    fun_mk (st := s_Shelf_many) l25 d25 k25,
    (fun_mk (st := s_Shelf_many) l25 d25 k25).binds (ps := ["self"]) fun _ _ _ _ _ _ us hl => match us, hl with | [_], _ => rfl,
    fun_mk (st := s_Shelf_pairs) l26 d26 k26,
    (fun_mk (st := s_Shelf_pairs) l26 d26 k26).binds (ps := ["self"]) fun _ _ _ _ _ _ us hl => match us, hl with | [_], _ => rfl,
    fun_mk (st := s_Shelf_after) l27 d27 k27,
    (fun_mk (st := s_Shelf_after) l27 d27 k27).binds (ps := ["self", "number"]) fun _ _ _ _ _ _ us hl => match us, hl with | [_, _], _ => rfl,
    fun_mk (st := s_Shelf_ahead) l28 d28 k28,
    (fun_mk (st := s_Shelf_ahead) l28 d28 k28).binds (ps := ["self", "number"]) fun _ _ _ _ _ _ us hl => match us, hl with | [_, _], _ => rfl,
    fun_mk (st := s_Shelf_paper) l29 d29 k29,
    (fun_mk (st := s_Shelf_paper) l29 d29 k29).binds (ps := ["self", "key"]) fun _ _ _ _ _ _ us hl => match us, hl with | [_, _], _ => rfl,
    fun_mk (st := s_Shelf_counts) l30 d30 k30,
    (fun_mk (st := s_Shelf_counts) l30 d30 k30).binds (ps := ["self"]) fun _ _ _ _ _ _ us hl => match us, hl with | [_], _ => rfl,
    fun_mk (st := s_packed) l31 d31 k31,
    (fun_mk (st := s_packed) l31 d31 k31).binds (ps := ["row", "beside"]) fun _ _ _ _ _ _ us hl => match us, hl with | [_, _], _ => rfl,
    PySem.W.mg_of X G a31,
    fun_mk (st := s_Table___init__) l32 d32 k32,
    (fun_mk (st := s_Table___init__) l32 d32 k32).binds (ps := ["self"]) fun _ _ _ _ _ _ us hl => match us, hl with | [_], _ => rfl,
    fun_mk (st := s_Table_make_room) l33 d33 k33,
    (fun_mk (st := s_Table_make_room) l33 d33 k33).binds (ps := ["self"]) fun _ _ _ _ _ _ us hl => match us, hl with | [_], _ => rfl,
    fun_mk (st := s_Kin___init__) l34 d34 k34,
    (fun_mk (st := s_Kin___init__) l34 d34 k34).binds (ps := ["self", "maker"]) fun _ _ _ _ _ _ us hl => match us, hl with | [_, _], _ => rfl,
    fun_mk (st := s_Kin_parted) l35 d35 k35,
    (fun_mk (st := s_Kin_parted) l35 d35 k35).binds (ps := ["self"]) fun _ _ _ _ _ _ us hl => match us, hl with | [_], _ => rfl,
    fun_mk (st := s_Kin_find) l36 d36 k36,
    (fun_mk (st := s_Kin_find) l36 d36 k36).binds (ps := ["self", "key"]) fun _ _ _ _ _ _ us hl => match us, hl with | [_, _], _ => rfl,
    fun_mk (st := s_Kin_lay) l37 d37 k37,
    (fun_mk (st := s_Kin_lay) l37 d37 k37).binds (ps := ["self", "key", "place"]) fun _ _ _ _ _ _ us hl => match us, hl with | [_, _, _], _ => rfl,
    fun_mk (st := s_Kin_mark_gone) l38 d38 k38,
    (fun_mk (st := s_Kin_mark_gone) l38 d38 k38).binds (ps := ["self", "key", "place"]) fun _ _ _ _ _ _ us hl => match us, hl with | [_, _, _], _ => rfl,
    fun_mk (st := s_Kin_relay) l39 d39 k39,
    (fun_mk (st := s_Kin_relay) l39 d39 k39).binds (ps := ["self"]) fun _ _ _ _ _ _ us hl => match us, hl with | [_], _ => rfl,
    fun_mk (st := s_Kin_paper) l40 d40 k40,
    (fun_mk (st := s_Kin_paper) l40 d40 k40).binds (ps := ["self", "key"]) fun _ _ _ _ _ _ us hl => match us, hl with | [_, _], _ => rfl,
    fun_mk (st := s_Maker___init__) l41 d41 k41,
    (fun_mk (st := s_Maker___init__) l41 d41 k41).binds (ps := ["self"]) fun _ _ _ _ _ _ us hl => match us, hl with | [_], _ => rfl,
    fun_mk (st := s_Maker_number_of) l42 d42 k42,
    (fun_mk (st := s_Maker_number_of) l42 d42 k42).binds (ps := ["self", "key"]) fun _ _ _ _ _ _ us hl => match us, hl with | [_, _], _ => rfl,
    fun_mk (st := s_Maker_taken_in) l43 d43 k43,
    (fun_mk (st := s_Maker_taken_in) l43 d43 k43).binds (ps := ["self", "key"]) fun _ _ _ _ _ _ us hl => match us, hl with | [_, _], _ => rfl,
    fun_mk (st := s_Maker_paper) l44 d44 k44,
    (fun_mk (st := s_Maker_paper) l44 d44 k44).binds (ps := ["self", "key"]) fun _ _ _ _ _ _ us hl => match us, hl with | [_, _], _ => rfl,
    fun_mk (st := s_law_cell_at) l45 d45 k45,
    (fun_mk (st := s_law_cell_at) l45 d45 k45).binds (ps := ["_law_script", "_law_k"]) fun _ _ _ _ _ _ us hl => match us, hl with | [_, _], _ => rfl,
    PySem.W.mg_of X G a45,
    fun_mk (st := s_law_pool) l46 d46 k46,
    (fun_mk (st := s_law_pool) l46 d46 k46).binds (ps := ["_law_cell"]) fun _ _ _ _ _ _ us hl => match us, hl with | [_], _ => rfl,
    PySem.W.mg_of X G a46,
    fun_mk (st := s_law_alike) l47 d47 k47,
    (fun_mk (st := s_law_alike) l47 d47 k47).binds (ps := ["_law_found_here", "_law_due"]) fun _ _ _ _ _ _ us hl => match us, hl with | [_, _], _ => rfl,
    PySem.W.mg_of X G a47,
    fun_mk (st := s_law_value) l48 d48 k48,
    (fun_mk (st := s_law_value) l48 d48 k48).binds (ps := ["_law_number"]) fun _ _ _ _ _ _ us hl => match us, hl with | [_], _ => rfl,
    PySem.W.mg_of X G a48,
    fun_mk (st := s_law_asked) l49 d49 k49,
    (fun_mk (st := s_law_asked) l49 d49 k49).binds (ps := ["_law_book", "_law_way", "_law_key", "_law_number"]) fun _ _ _ _ _ _ us hl => match us, hl with | [_, _, _, _], _ => rfl,
    PySem.W.mg_of X G a49,
    fun_mk (st := s_law_said) l50 d50 k50,
    (fun_mk (st := s_law_said) l50 d50 k50).binds (ps := ["_law_book", "_law_way", "_law_key", "_law_number"]) fun _ _ _ _ _ _ us hl => match us, hl with | [_, _, _, _], _ => rfl,
    PySem.W.mg_of X G a50,
    fun_mk (st := s_law_both) l51 d51 k51,
    (fun_mk (st := s_law_both) l51 d51 k51).binds (ps := ["_law_kin", "_law_book", "_law_way", "_law_key", "_law_number"]) fun _ _ _ _ _ _ us hl => match us, hl with | [_, _, _, _, _], _ => rfl,
    PySem.W.mg_of X G a51,
    fun_mk (st := s_law_turns) l52 d52 k52,
    (fun_mk (st := s_law_turns) l52 d52 k52).binds (ps := ["_law_kin", "_law_book", "_law_key", "_law_many"]) fun _ _ _ _ _ _ us hl => match us, hl with | [_, _, _, _], _ => rfl,
    PySem.W.mg_of X G a52,
    fun_mk (st := s_law_deed) l53 d53 k53,
    (fun_mk (st := s_law_deed) l53 d53 k53).binds (ps := ["_law_kin", "_law_book", "_law_pool_here", "_law_number"]) fun _ _ _ _ _ _ us hl => match us, hl with | [_, _, _, _], _ => rfl,
    PySem.W.mg_of X G a53,
    fun_mk (st := s_law_found) l54 d54 k54,
    (fun_mk (st := s_law_found) l54 d54 k54).binds (ps := ["_law_kin", "_law_key"]) fun _ _ _ _ _ _ us hl => match us, hl with | [_, _], _ => rfl,
    PySem.W.mg_of X G a54,
    fun_mk (st := s_law_between) l55 d55 k55,
    (fun_mk (st := s_law_between) l55 d55 k55).binds (ps := ["_law_maker", "_law_other", "_law_pool_here", "_law_number"]) fun _ _ _ _ _ _ us hl => match us, hl with | [_, _, _, _], _ => rfl,
    PySem.W.mg_of X G a55,
    fun_mk (st := s_law) l56 d56 k56,
    (fun_mk (st := s_law) l56 d56 k56).binds (ps := ["_law_script"]) fun _ _ _ _ _ _ us hl => match us, hl with | [_], _ => rfl,
    PySem.W.mg_of X G a56,
    PySem.W.mg_of X G al0,
    ⟨pg0, hd0, po0, sa0⟩,
    PySem.W.mg_of X G aC0,
    na0_0,
    na0_1,
    na0_2,
    na0_3,
    na0_4,
    na0_5,
    na0_6,
    na0_7,
    na0_8,
    na0_9,
    ⟨mk0, me0_13, fn13, kC0⟩,
    ⟨me0_14, fn14, k14⟩,
    ⟨me0_15, fn15, k15⟩,
    ⟨me0_16, fn16, k16⟩,
    ⟨me0_17, fn17, k17⟩,
    ⟨me0_18, fn18, k18⟩,
    ⟨me0_19, fn19, k19⟩,
    ⟨me0_20, fn20, k20⟩,
    ⟨me0_21, fn21, k21⟩,
    ⟨me0_22, fn22, k22⟩,
    ⟨me0_23, fn23, k23⟩,
    ⟨me0_24, fn24, k24⟩,
    ⟨me0_25, fn25, k25⟩,
    ⟨me0_26, fn26, k26⟩,
    ⟨me0_27, fn27, k27⟩,
    ⟨me0_28, fn28, k28⟩,
    ⟨me0_29, fn29, k29⟩,
    ⟨me0_30, fn30, k30⟩,
    ⟨pg1, hd1, po1, sa1⟩,
    PySem.W.mg_of X G aC1,
    na1_0,
    na1_1,
    na1_2,
    na1_3,
    na1_4,
    na1_5,
    na1_6,
    na1_7,
    na1_8,
    na1_9,
    ⟨mk1, me1_32, fn32, kC1⟩,
    ⟨me1_33, fn33, k33⟩,
    ⟨me1_14, fn14, k14⟩,
    ⟨me1_15, fn15, k15⟩,
    ⟨me1_16, fn16, k16⟩,
    ⟨me1_17, fn17, k17⟩,
    ⟨me1_18, fn18, k18⟩,
    ⟨me1_19, fn19, k19⟩,
    ⟨me1_20, fn20, k20⟩,
    ⟨me1_21, fn21, k21⟩,
    ⟨me1_22, fn22, k22⟩,
    ⟨me1_23, fn23, k23⟩,
    ⟨me1_24, fn24, k24⟩,
    ⟨me1_25, fn25, k25⟩,
    ⟨me1_26, fn26, k26⟩,
    ⟨me1_27, fn27, k27⟩,
    ⟨me1_28, fn28, k28⟩,
    ⟨me1_29, fn29, k29⟩,
    ⟨me1_30, fn30, k30⟩,
    ⟨pg2, hd2, po2, sa2⟩,
    PySem.W.mg_of X G aC2,
    na2_0,
    na2_1,
    na2_2,
    na2_3,
    na2_4,
    na2_5,
    na2_6,
    na2_7,
    na2_8,
    na2_9,
    na2_10,
    na2_11,
    na2_12,
    ⟨mk2, me2_34, fn34, kC2⟩,
    ⟨me2_35, fn35, k35⟩,
    ⟨me2_36, fn36, k36⟩,
    ⟨me2_37, fn37, k37⟩,
    ⟨me2_38, fn38, k38⟩,
    ⟨me2_39, fn39, k39⟩,
    ⟨me2_40, fn40, k40⟩,
    ⟨me2_33, fn33, k33⟩,
    ⟨me2_18, fn18, k18⟩,
    ⟨me2_19, fn19, k19⟩,
    ⟨me2_20, fn20, k20⟩,
    ⟨me2_21, fn21, k21⟩,
    ⟨me2_22, fn22, k22⟩,
    ⟨me2_23, fn23, k23⟩,
    ⟨me2_24, fn24, k24⟩,
    ⟨me2_25, fn25, k25⟩,
    ⟨me2_26, fn26, k26⟩,
    ⟨me2_27, fn27, k27⟩,
    ⟨me2_28, fn28, k28⟩,
    ⟨me2_30, fn30, k30⟩,
    ⟨pg3, hd3, po3, sa3⟩,
    PySem.W.mg_of X G aC3,
    na3_0,
    na3_1,
    ⟨mk3, me3_41, fn41, kC3⟩,
    ⟨me3_42, fn42, k42⟩,
    ⟨me3_43, fn43, k43⟩,
    ⟨me3_44, fn44, k44⟩,
    ⟨cr0, cg0⟩,
    cf0,
    ⟨cr1, cg1⟩,
    cf1,
    ⟨⟨pg2, hd2, po2, sa2⟩, ia0, in0, it0, im0, iq0⟩,
    io0,
    PySem.W.mg_of X G xa0,
    xx0,
    xk0,
    xb0,
    xt0,
    PySem.W.mg_of X G xa1,
    xx1,
    xk1,
    xb1,
    xt1,
    ⟨eg0, ek0, xb1, ed0, ea0, in0, it0, em0⟩,
    ⟨eg1, ek1, xb0, ed1, ea1, in0, it0, em1⟩,
    iox0,
    iox1,
    exm_of2 xb1 xi1 xt1 xs0,
    exm_of2 xb1 xi1 xt1 xs1,
    exm_of2 xb0 xi0 xt0 xs2,
    PySem.W.mg_of X G gl0,
    PySem.W.mg_of X G gl1,
    PySem.W.mg_of X G gl2,
    PySem.W.mg_of X G gl3,
    PySem.W.mg_of X G gl4,
    PySem.W.mg_of X G gl5,
    PySem.W.mg_of X G gl6,
    PySem.W.mg_of X G gl7,
    PySem.W.mg_of X G gl8,
    PySem.W.mg_of X G gl9,
    PySem.W.mg_none_of X G n_ValueError,
    PySem.W.mg_none_of X G n_all,
    PySem.W.mg_none_of X G n_bool,
    PySem.W.mg_none_of X G n_enumerate,
    PySem.W.mg_none_of X G n_int,
    PySem.W.mg_none_of X G n_isinstance,
    PySem.W.mg_none_of X G n_len,
    PySem.W.mg_none_of X G n_list,
    PySem.W.mg_none_of X G n_ord,
    PySem.W.mg_none_of X G n_range,
    PySem.W.mg_none_of X G n_str,
    PySem.W.mg_none_of X G n_tuple,
    PySem.W.mg_none_of X G n_zip⟩
  exact ⟨_, fun s v => .of_eq rfl, fun base _ _ => ok_law T⟩
theorem walk {l : PySem.W.OpenLaw} {q : Program} {loose : List Str} {XP : (Str → Option Value) → Heap → Prop} {YP : World → Heap → Prop} {d : DefRec} {K : Params → PySem.W.Frag} (hn : l.most = some 63) (hdf : d.params.defaults = [])
    (hY : ∀ (w : World) (h : Heap), YP w h → (K w.params).In h)
    (F : ∀ (w : World) (mg : Str → Option Value) (fa : Addr) (h : Heap), (K w.params).In h → h.Ns mainGlobals mg → mg d.name = some (.ref fa) →
      ∃ fd : FuncData, (∀ (s : Shared) (u : Value), BindsTo s fd ⟨[u], []⟩ [("_law_script", u)]) ∧ ∀ base : Heap, (K w.params).In base → base.Ns mainGlobals mg → FnOk l.prog w (K w.params) mg base CX0 17 fa fd ["_law_script"] (spLawB (K w.params))) :
    PySem.W.WalkO q loose XP YP l.row.toRowW d [] (fun f vs => PySem.call f vs) :=
  L2.walk_ofB (n := 63) (k := 17) (x := "_law_script") (CX := fun _ => CX0) (sp := fun w => spLawB (K w.params)) hn (by decide) hdf ⟨rfl, by decide, by decide⟩ hY F (fun _ _ a ns hl hb _ hS => ⟨a, ns, rfl, hS, hl, fun n m => Bd.of_bits (hb n m), fun _ => rfl⟩) fun _ _ _ _ _ z => z

end Law

open PySem PySem.W PyProof.Rows
set_option maxRecDepth 100000 in
set_option maxHeartbeats 0 in
theorem PySem.Challenge.cw_slotbook_k72_whole_a_kin_is_a_table_holds : PySem.Challenge.rw_slotbook_k72_whole_a_kin_is_a_table.Holds := by
  w_on; o_law; k_head; (case hw => w_witness2)
  k_fill
  refine Law.walk (l := PySem.Challenge.rw_slotbook_k72_whole_a_kin_is_a_table) rfl rfl (fun w h Y => PySem.W.kIn_of Y) ?F
  case F =>
    intro w mg fa h KX G hmg
    refine' Law.all_mk KX G hmg ?a0 ?a1 ?a2 ?a3 ?a4 ?a5 ?a6 ?a7 ?a8 ?a9 ?a10 ?a11 ?a12 ?a31 ?a45 ?a46 ?a47 ?a48 ?a49 ?a50 ?a51 ?a52 ?a53 ?a54 ?a55 ?a56 ?aC0 ?aC1 ?aC2 ?aC3 ?xa0 ?xa1 ?me0_13 ?me0_14 ?me0_15 ?me0_16 ?me0_17 ?me0_18 ?me0_19 ?me0_20 ?me0_21 ?me0_22 ?me0_23 ?me0_24 ?me0_25 ?me0_26 ?me0_27 ?me0_28 ?me0_29 ?me0_30 ?me1_32 ?me1_33 ?me1_14 ?me1_15 ?me1_16 ?me1_17 ?me1_18 ?me1_19 ?me1_20 ?me1_21 ?me1_22 ?me1_23 ?me1_24 ?me1_25 ?me1_26 ?me1_27 ?me1_28 ?me1_29 ?me1_30 ?me2_34 ?me2_35 ?me2_36 ?me2_37 ?me2_38 ?me2_39 ?me2_40 ?me2_33 ?me2_18 ?me2_19 ?me2_20 ?me2_21 ?me2_22 ?me2_23 ?me2_24 ?me2_25 ?me2_26 ?me2_27 ?me2_28 ?me2_30 ?me3_41 ?me3_42 ?me3_43 ?me3_44 ?l0 ?d0 ?k0 ?l1 ?d1 ?k1 ?l2 ?d2 ?k2 ?l3 ?d3 ?k3 ?l4 ?d4 ?k4 ?l5 ?d5 ?k5 ?l6 ?d6 ?k6 ?l7 ?d7 ?k7 ?l8 ?d8 ?k8 ?l9 ?d9 ?k9 ?l10 ?d10 ?k10 ?l11 ?d11 ?k11 ?l12 ?d12 ?k12 ?l13 ?dl13 ?dd13 ?d13 ?k13 ?l14 ?d14 ?k14 ?l15 ?d15 ?k15 ?l16 ?d16 ?k16 ?l17 ?d17 ?k17 ?l18 ?d18 ?k18 ?l19 ?d19 ?k19 ?l20 ?dl20 ?dd20 ?d20 ?k20 ?l21 ?d21 ?k21 ?l22 ?d22 ?k22 ?l23 ?d23 ?k23 ?l24 ?d24 ?k24 ?l25 ?d25 ?k25 ?l26 ?d26 ?k26 ?l27 ?d27 ?k27 ?l28 ?d28 ?k28 ?l29 ?d29 ?k29 ?l30 ?d30 ?k30 ?l31 ?d31 ?k31 ?l32 ?d32 ?k32 ?l33 ?d33 ?k33 ?l34 ?d34 ?k34 ?l35 ?d35 ?k35 ?l36 ?d36 ?k36 ?l37 ?d37 ?k37 ?l38 ?d38 ?k38 ?l39 ?d39 ?k39 ?l40 ?d40 ?k40 ?l41 ?d41 ?k41 ?l42 ?d42 ?k42 ?l43 ?d43 ?k43 ?l44 ?d44 ?k44 ?l45 ?d45 ?k45 ?l46 ?d46 ?k46 ?l47 ?d47 ?k47 ?l48 ?d48 ?k48 ?l49 ?d49 ?k49 ?l50 ?d50 ?k50 ?l51 ?d51 ?k51 ?l52 ?d52 ?k52 ?l53 ?d53 ?k53 ?l54 ?d54 ?k54 ?l55 ?d55 ?k55 ?l56 ?d56 ?k56 ?al0 ?pg0 ?hd0 ?po0 ?sa0 ?na0_0 ?na0_1 ?na0_2 ?na0_3 ?na0_4 ?na0_5 ?na0_6 ?na0_7 ?na0_8 ?na0_9 ?fn13 ?mk0 ?kC0 ?fn14 ?fn15 ?fn16 ?fn17 ?fn18 ?fn19 ?fn20 ?fn21 ?fn22 ?fn23 ?fn24 ?fn25 ?fn26 ?fn27 ?fn28 ?fn29 ?fn30 ?pg1 ?hd1 ?po1 ?sa1 ?na1_0 ?na1_1 ?na1_2 ?na1_3 ?na1_4 ?na1_5 ?na1_6 ?na1_7 ?na1_8 ?na1_9 ?fn32 ?mk1 ?kC1 ?fn33 ?pg2 ?hd2 ?po2 ?sa2 ?na2_0 ?na2_1 ?na2_2 ?na2_3 ?na2_4 ?na2_5 ?na2_6 ?na2_7 ?na2_8 ?na2_9 ?na2_10 ?na2_11 ?na2_12 ?fn34 ?mk2 ?kC2 ?fn35 ?fn36 ?fn37 ?fn38 ?fn39 ?fn40 ?pg3 ?hd3 ?po3 ?sa3 ?na3_0 ?na3_1 ?fn41 ?mk3 ?kC3 ?fn42 ?fn43 ?fn44 ?ia0 ?in0 ?it0 ?im0 ?iq0 ?io0 ?xx0 ?xk0 ?xb0 ?xt0 ?xx1 ?xk1 ?xb1 ?xt1 ?cr0 ?cg0 ?cf0 ?cr1 ?cg1 ?cf1 ?xi1 ?xs0 ?xs1 ?xi0 ?xs2 ?eg0 ?ek0 ?ed0 ?ea0 ?em0 ?eg1 ?ek1 ?ed1 ?ea1 ?em1 ?iox0 ?iox1 ?gl0 ?gl1 ?gl2 ?gl3 ?gl4 ?gl5 ?gl6 ?gl7 ?gl8 ?gl9 ?n_ValueError ?n_all ?n_bool ?n_enumerate ?n_int ?n_isinstance ?n_len ?n_list ?n_ord ?n_range ?n_str ?n_tuple ?n_zip
    (case a0 => k_is)
    (case a1 => k_is)
    (case a2 => k_is)
    (case a3 => k_is)
    (case a4 => k_is)
    (case a5 => k_is)
    (case a6 => k_is)
    (case a7 => k_is)
    (case a8 => k_is)
    (case a9 => k_is)
    (case a10 => k_is)
    (case a11 => k_is)
    (case a12 => k_is)
    (case a31 => k_is)
    (case a45 => k_is)
    (case a46 => k_is)
    (case a47 => k_is)
    (case a48 => k_is)
    (case a49 => k_is)
    (case a50 => k_is)
    (case a51 => k_is)
    (case a52 => k_is)
    (case a53 => k_is)
    (case a54 => k_is)
    (case a55 => k_is)
    (case a56 => k_is)
    (case aC0 => k_is)
    (case aC1 => k_is)
    (case aC2 => k_is)
    (case aC3 => k_is)
    (case xa0 => k_is)
    (case xa1 => k_is)
    (case me0_13 => k_is)
    (case me0_14 => k_is)
    (case me0_15 => k_is)
    (case me0_16 => k_is)
    (case me0_17 => k_is)
    (case me0_18 => k_is)
    (case me0_19 => k_is)
    (case me0_20 => k_is)
    (case me0_21 => k_is)
    (case me0_22 => k_is)
    (case me0_23 => k_is)
    (case me0_24 => k_is)
    (case me0_25 => k_is)
    (case me0_26 => k_is)
    (case me0_27 => k_is)
    (case me0_28 => k_is)
    (case me0_29 => k_is)
    (case me0_30 => k_is)
    (case me1_32 => k_is)
    (case me1_33 => k_is)
    (case me1_14 => k_is)
    (case me1_15 => k_is)
    (case me1_16 => k_is)
    (case me1_17 => k_is)
    (case me1_18 => k_is)
    (case me1_19 => k_is)
    (case me1_20 => k_is)
    (case me1_21 => k_is)
    (case me1_22 => k_is)
    (case me1_23 => k_is)
    (case me1_24 => k_is)
    (case me1_25 => k_is)
    (case me1_26 => k_is)
    (case me1_27 => k_is)
    (case me1_28 => k_is)
    (case me1_29 => k_is)
    (case me1_30 => k_is)
    (case me2_34 => k_is)
    (case me2_35 => k_is)
    (case me2_36 => k_is)
    (case me2_37 => k_is)
    (case me2_38 => k_is)
    (case me2_39 => k_is)
    (case me2_40 => k_is)
    (case me2_33 => k_is)
    (case me2_18 => k_is)
    (case me2_19 => k_is)
    (case me2_20 => k_is)
    (case me2_21 => k_is)
    (case me2_22 => k_is)
    (case me2_23 => k_is)
    (case me2_24 => k_is)
    (case me2_25 => k_is)
    (case me2_26 => k_is)
    (case me2_27 => k_is)
    (case me2_28 => k_is)
    (case me2_30 => k_is)
    (case me3_41 => k_is)
    (case me3_42 => k_is)
    (case me3_43 => k_is)
    (case me3_44 => k_is)
    (case l0 => k_is)
    (case d0 => k_is)
    (case k0 => k_is)
    (case l1 => k_is)
    (case d1 => k_is)
    (case k1 => k_is)
    (case l2 => k_is)
    (case d2 => k_is)
    (case k2 => k_is)
    (case l3 => k_is)
    (case d3 => k_is)
    (case k3 => k_is)
    (case l4 => k_is)
    (case d4 => k_is)
    (case k4 => k_is)
    (case l5 => k_is)
    (case d5 => k_is)
    (case k5 => k_is)
    (case l6 => k_is)
    (case d6 => k_is)
    (case k6 => k_is)
    (case l7 => k_is)
    (case d7 => k_is)
    (case k7 => k_is)
    (case l8 => k_is)
    (case d8 => k_is)
    (case k8 => k_is)
    (case l9 => k_is)
    (case d9 => k_is)
    (case k9 => k_is)
    (case l10 => k_is)
    (case d10 => k_is)
    (case k10 => k_is)
    (case l11 => k_is)
    (case d11 => k_is)
    (case k11 => k_is)
    (case l12 => k_is)
    (case d12 => k_is)
    (case k12 => k_is)
    (case l13 => k_is)
    (case dl13 => k_is)
    (case dd13 => first | rfl | k_is)
    (case d13 => k_is)
    (case k13 => k_is)
    (case l14 => k_is)
    (case d14 => k_is)
    (case k14 => k_is)
    (case l15 => k_is)
    (case d15 => k_is)
    (case k15 => k_is)
    (case l16 => k_is)
    (case d16 => k_is)
    (case k16 => k_is)
    (case l17 => k_is)
    (case d17 => k_is)
    (case k17 => k_is)
    (case l18 => k_is)
    (case d18 => k_is)
    (case k18 => k_is)
    (case l19 => k_is)
    (case d19 => k_is)
    (case k19 => k_is)
    (case l20 => k_is)
    (case dl20 => k_is)
    (case dd20 => first | rfl | k_is)
    (case d20 => k_is)
    (case k20 => k_is)
    (case l21 => k_is)
    (case d21 => k_is)
    (case k21 => k_is)
    (case l22 => k_is)
    (case d22 => k_is)
    (case k22 => k_is)
    (case l23 => k_is)
    (case d23 => k_is)
    (case k23 => k_is)
    (case l24 => k_is)
    (case d24 => k_is)
    (case k24 => k_is)
    (case l25 => k_is)
    (case d25 => k_is)
    (case k25 => k_is)
    (case l26 => k_is)
    (case d26 => k_is)
    (case k26 => k_is)
    (case l27 => k_is)
    (case d27 => k_is)
    (case k27 => k_is)
    (case l28 => k_is)
    (case d28 => k_is)
    (case k28 => k_is)
    (case l29 => k_is)
    (case d29 => k_is)
    (case k29 => k_is)
    (case l30 => k_is)
    (case d30 => k_is)
    (case k30 => k_is)
    (case l31 => k_is)
    (case d31 => k_is)
    (case k31 => k_is)
    (case l32 => k_is)
    (case d32 => k_is)
    (case k32 => k_is)
    (case l33 => k_is)
    (case d33 => k_is)
    (case k33 => k_is)
    (case l34 => k_is)
    (case d34 => k_is)
    (case k34 => k_is)
    (case l35 => k_is)
    (case d35 => k_is)
    (case k35 => k_is)
    (case l36 => k_is)
    (case d36 => k_is)
    (case k36 => k_is)
    (case l37 => k_is)
    (case d37 => k_is)
    (case k37 => k_is)
    (case l38 => k_is)
    (case d38 => k_is)
    (case k38 => k_is)
    (case l39 => k_is)
    (case d39 => k_is)
    (case k39 => k_is)
    (case l40 => k_is)
    (case d40 => k_is)
    (case k40 => k_is)
    (case l41 => k_is)
    (case d41 => k_is)
    (case k41 => k_is)
    (case l42 => k_is)
    (case d42 => k_is)
    (case k42 => k_is)
    (case l43 => k_is)
    (case d43 => k_is)
    (case k43 => k_is)
    (case l44 => k_is)
    (case d44 => k_is)
    (case k44 => k_is)
    (case l45 => k_is)
    (case d45 => k_is)
    (case k45 => k_is)
    (case l46 => k_is)
    (case d46 => k_is)
    (case k46 => k_is)
    (case l47 => k_is)
    (case d47 => k_is)
    (case k47 => k_is)
    (case l48 => k_is)
    (case d48 => k_is)
    (case k48 => k_is)
    (case l49 => k_is)
    (case d49 => k_is)
    (case k49 => k_is)
    (case l50 => k_is)
    (case d50 => k_is)
    (case k50 => k_is)
    (case l51 => k_is)
    (case d51 => k_is)
    (case k51 => k_is)
    (case l52 => k_is)
    (case d52 => k_is)
    (case k52 => k_is)
    (case l53 => k_is)
    (case d53 => k_is)
    (case k53 => k_is)
    (case l54 => k_is)
    (case d54 => k_is)
    (case k54 => k_is)
    (case l55 => k_is)
    (case d55 => k_is)
    (case k55 => k_is)
    (case l56 => k_is)
    (case d56 => k_is)
    (case k56 => k_is)
    (case al0 => k_is)
    (case pg0 => k_is)
    (case hd0 => k_is)
    (case po0 => k_is)
    (case sa0 => k_is)
    (case na0_0 => k_is)
    (case na0_1 => k_is)
    (case na0_2 => k_is)
    (case na0_3 => k_is)
    (case na0_4 => k_is)
    (case na0_5 => k_is)
    (case na0_6 => k_is)
    (case na0_7 => k_is)
    (case na0_8 => k_is)
    (case na0_9 => k_is)
    (case fn13 => k_is)
    (case mk0 => k_is)
    (case kC0 => k_is)
    (case fn14 => k_is)
    (case fn15 => k_is)
    (case fn16 => k_is)
    (case fn17 => k_is)
    (case fn18 => k_is)
    (case fn19 => k_is)
    (case fn20 => k_is)
    (case fn21 => k_is)
    (case fn22 => k_is)
    (case fn23 => k_is)
    (case fn24 => k_is)
    (case fn25 => k_is)
    (case fn26 => k_is)
    (case fn27 => k_is)
    (case fn28 => k_is)
    (case fn29 => k_is)
    (case fn30 => k_is)
    (case pg1 => k_is)
    (case hd1 => k_is)
    (case po1 => k_is)
    (case sa1 => k_is)
    (case na1_0 => k_is)
    (case na1_1 => k_is)
    (case na1_2 => k_is)
    (case na1_3 => k_is)
    (case na1_4 => k_is)
    (case na1_5 => k_is)
    (case na1_6 => k_is)
    (case na1_7 => k_is)
    (case na1_8 => k_is)
    (case na1_9 => k_is)
    (case fn32 => k_is)
    (case mk1 => k_is)
    (case kC1 => k_is)
    (case fn33 => k_is)
    (case pg2 => k_is)
    (case hd2 => k_is)
    (case po2 => k_is)
    (case sa2 => k_is)
    (case na2_0 => k_is)
    (case na2_1 => k_is)
    (case na2_2 => k_is)
    (case na2_3 => k_is)
    (case na2_4 => k_is)
    (case na2_5 => k_is)
    (case na2_6 => k_is)
    (case na2_7 => k_is)
    (case na2_8 => k_is)
    (case na2_9 => k_is)
    (case na2_10 => k_is)
    (case na2_11 => k_is)
    (case na2_12 => k_is)
    (case fn34 => k_is)
    (case mk2 => k_is)
    (case kC2 => k_is)
    (case fn35 => k_is)
    (case fn36 => k_is)
    (case fn37 => k_is)
    (case fn38 => k_is)
    (case fn39 => k_is)
    (case fn40 => k_is)
    (case pg3 => k_is)
    (case hd3 => k_is)
    (case po3 => k_is)
    (case sa3 => k_is)
    (case na3_0 => k_is)
    (case na3_1 => k_is)
    (case fn41 => k_is)
    (case mk3 => k_is)
    (case kC3 => k_is)
    (case fn42 => k_is)
    (case fn43 => k_is)
    (case fn44 => k_is)
    (case ia0 => k_is)
    (case in0 => k_is)
    (case it0 => k_is)
    (case im0 => k_is)
    (case iq0 => kit_is)
    (case io0 => kit_is)
    (case xx0 => k_exc)
    (case xk0 => k_is)
    (case xb0 => k_is)
    (case xt0 => k_is)
    (case xx1 => k_exc)
    (case xk1 => k_is)
    (case xb1 => k_is)
    (case xt1 => k_is)
    (case cr0 => k_is)
    (case cg0 => k_is)
    (case cf0 => k_is)
    (case cr1 => k_is)
    (case cg1 => k_is)
    (case cf1 => k_is)
    (case xi1 => k_is)
    (case xs0 => k_is)
    (case xs1 => k_is)
    (case xi0 => k_is)
    (case xs2 => k_is)
    (case eg0 => k_is)
    (case ek0 => k_is)
    (case ed0 => k_is)
    (case ea0 => k_is)
    (case em0 => k_is)
    (case eg1 => k_is)
    (case ek1 => k_is)
    (case ed1 => k_is)
    (case ea1 => k_is)
    (case em1 => k_is)
    (case iox0 => kit_is)
    (case iox1 => kit_is)
    (case gl0 => k_is)
    (case gl1 => k_is)
    (case gl2 => k_is)
    (case gl3 => k_is)
    (case gl4 => k_is)
    (case gl5 => k_is)
    (case gl6 => k_is)
    (case gl7 => k_is)
    (case gl8 => k_is)
    (case gl9 => k_is)
    (case n_ValueError => k_is)
    (case n_all => k_is)
    (case n_bool => k_is)
    (case n_enumerate => k_is)
    (case n_int => k_is)
    (case n_isinstance => k_is)
    (case n_len => k_is)
    (case n_list => k_is)
    (case n_ord => k_is)
    (case n_range => k_is)
    (case n_str => k_is)
    (case n_tuple => k_is)
    (case n_zip => k_is)
