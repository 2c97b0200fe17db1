import PyProof.Rows.All
import Wide.All
import OpenK.AllK
import Wide.FinOn
import HandS.ForMost
import HandS.IsInst
import HandS.Wide
import HandS.Walk
import HandS.SetKeys
import HandS.Style
import HandS.Codes
import KE.KBits
import HandS.Deep
import HandS.Iter
import HandS.Zip
import HandS.Dict
import HandS.Defaults
import HandS.ForExc
import HandS.CallSlots
import HandS.TryMany
import HandS.ClsMeth
import HandS.Rev
import HandS.GenList
import HandS.NoneIn
import KE.DataFind
import HandS.Replace
import HandS.ReplaceLit
import HandS.ReplaceList
import HandS.ReplaceDef
import HandS.Text
import KE.IntTextText
import KE.KIntText
import HandS.SetFor
import KE.KeyNested
import KE.KDictCopyH
import KE.KDictList
import HandS.EndBits
import HandS.HotCalls
import HandS.ExcIs
import PySem.Challenge.RW_slotbook_k92_texts_refused
set_option Elab.async false
set_option linter.all false
set_option maxRecDepth 100000
set_option maxHeartbeats 4000000
namespace My
open PySem PySem.Spec PyProof.Rows L2
section
variable {X : Cx}
theorem op_mulX : OpR X (binaryOp .Mult) (rI IntMulOk fun i j => .int (i * j)) := opI fun _ _ _ _ _ _ _ hc q => mul_int q hc
theorem mulL {i j : Int} (h1 : -(2 ^ 64) < i) (h2 : i < 2 ^ 64) : IntMulOk i j := .of_left (intBits_le_64 h1 h2)
theorem mulR {i j : Int} (h1 : -(2 ^ 64) < j) (h2 : j < 2 ^ 64) : IntMulOk i j := .of_right (intBits_le_64 h1 h2)
end
section
variable {σ : L2.St} {H : Hp} {Q : VK} {QT : Bool → Hp → Prop} {D : Ends} {ta tb te : TE} {t u c : TT} {s1 s2 : TS} {K : PySem.W.Frag}
theorem rd_var {i : Nat} : tVar i σ H Q = (match σ[i]? with | some (some v) => Q v H | _ => False) := by
  unfold tVar
  apply propext
  constructor
  · rintro ⟨v, e, q⟩
    rw [e]; exact q
  · intro h
    split at h
    · rename_i v e
      exact ⟨v, e, h⟩
    · exact h.elim
theorem rd_c {v : V} : tC v σ H Q = Q v H := rfl
theorem rd_op {r : R2} : tOp r ta tb σ H Q = ta σ H fun x H1 => tb σ H1 fun y H2 => r x y H2 Q := rfl
theorem rd_un {r : V → Hp → VK → Prop} : tUn r ta σ H Q = ta σ H fun x H1 => r x H1 Q := rfl
theorem rd_rI {C : Int → Int → Prop} {g : Int → Int → V} {i j : Int} : rI C g (.int i) (.int j) H Q = (C i j ∧ Q (g i j) H) := by
  unfold rI
  apply propext
  constructor
  · rintro ⟨a, b, e1, e2, q⟩
    cases e1; cases e2; exact q
  · intro q
    exact ⟨i, j, rfl, rfl, q⟩
theorem rd_rI0 {g : Int → Int → V} {i j : Int} : rI0 g (.int i) (.int j) H Q = Q (g i j) H := by
  unfold rI0
  apply propext
  constructor
  · rintro ⟨a, b, e1, e2, q⟩
    cases e1; cases e2; exact q
  · intro q
    exact ⟨i, j, rfl, rfl, q⟩
theorem rd_rU {g : Int → V} {i : Int} : rU g (.int i) H Q = Q (g i) H := by
  unfold rU
  apply propext
  constructor
  · rintro ⟨a, e1, q⟩
    cases e1; exact q
  · intro q
    exact ⟨i, rfl, q⟩
theorem rd_eq {x y : V} : rEq x y H Q = (scal x y = true ∧ Q (.bl (decide (x = y))) H) := rfl
theorem rd_ne {x y : V} : rNe x y H Q = (scal x y = true ∧ Q (.bl (!decide (x = y))) H) := rfl
def isBl (x : V) (f : Bool → Prop) : Prop := match x with | .bl k => f k | _ => False
theorem rd_isBl {k : Bool} {f : Bool → Prop} : isBl (.bl k) f = f k := rfl
theorem isBl_eq {x : V} {f : Bool → Prop} : (∃ k, x = .bl k ∧ f k) = isBl x f := by
  apply propext
  constructor
  · rintro ⟨k, rfl, q⟩; exact q
  · intro q
    cases x with
    | bl k => exact ⟨k, rfl, q⟩
    | _ => exact q.elim
theorem rd_test : tTest ta σ H QT = ta σ H fun x H' => isBl x fun k => QT k H' := by
  unfold tTest
  simp only [isBl_eq]
theorem rd_B : tB ta σ H QT = ta σ H fun x H' => isBl x fun k => QT k H' := by
  unfold tB
  simp only [isBl_eq]
theorem rd_and : tAnd t u σ H QT = t σ H fun c H1 => if c = true then u σ H1 QT else QT false H1 := rfl
theorem rd_or : tOr t u σ H QT = t σ H fun c H1 => if c = true then QT true H1 else u σ H1 QT := rfl
theorem rd_not : tNot t σ H QT = t σ H fun c H1 => QT (!c) H1 := rfl
theorem rd_andV : tAndV ta tb σ H Q = ta σ H fun x H1 => isBl x fun c => if c = true then tb σ H1 Q else Q (.bl false) H1 := by
  unfold tAndV; simp only [isBl_eq]
theorem rd_orV : tOrV ta tb σ H Q = ta σ H fun x H1 => isBl x fun c => if c = true then Q (.bl true) H1 else tb σ H1 Q := by
  unfold tOrV; simp only [isBl_eq]
theorem rd_notV : tNotV ta σ H Q = ta σ H fun x H1 => isBl x fun c => Q (.bl (!c)) H1 := by
  unfold tNotV; simp only [isBl_eq]
theorem rd_ifE : tIf t ta tb σ H Q = t σ H fun c H1 => if c = true then ta σ H1 Q else tb σ H1 Q := rfl
theorem rd_chain {r r' : R2} {tc : TE} : tChain r r' ta tb tc σ H Q = ta σ H fun x H1 => tb σ H1 fun y H2 => r x y H2 fun z H3 => isBl z fun k => if k = true then tc σ H3 fun w' H4 => r' y w' H4 Q else Q (.bl false) H3 := by
  unfold tChain; simp only [isBl_eq]
theorem rd_ifS : tIfS c s1 s2 D σ H = c σ H fun b H1 => if b = true then s1 D σ H1 else s2 D σ H1 := rfl
theorem rd_ret : tRet te D σ H = te σ H D.rt := rfl
theorem rd_retN : tRetN D σ H = D.rt .non H := rfl
theorem rd_seq : tSeq s1 s2 D σ H = s1 { D with nx := s2 D } σ H := rfl
theorem rd_next : tNext D σ H = D.nx σ H := rfl
theorem rd_break : tBreak D σ H = D.bk σ H := rfl
theorem rd_cont : tCont D σ H = D.ct σ H := rfl
theorem rd_drop : tDrop te D σ H = te σ H fun _ H1 => D.nx σ H1 := rfl
theorem rd_asg {g : TG} : tAsg te g D σ H = te σ H fun x H1 => g x σ H1 D.nx := rfl
theorem rd_gName {i : Nat} {v : V} {R : L2.St → Hp → Prop} : gName i v σ H R = R (σ.set i (some v)) H := rfl
theorem rd_nil {R : List V → Hp → Prop} : tNil σ H R = R [] H := rfl
theorem rd_cons {tr : TA} {R : List V → Hp → Prop} : tCons te tr σ H R = te σ H fun x H1 => tr σ H1 fun xs H2 => R (x :: xs) H2 := rfl
theorem rd_call {sp : Sp} {dvs : List V} {E : XK} {tr : TA} : tCall sp dvs E tr σ H Q = tr σ H fun vs H1 => sp (vs ++ dvs) H1 Q E := rfl
theorem rd_CB {r : List V → Hp → VK → Prop} {tr : TA} : tCB r tr σ H Q = tr σ H fun vs H1 => r vs H1 Q := rfl
theorem V_int_inj {a b : Int} : (V.int a = V.int b) = (a = b) := by simp
theorem V_bl_inj {a b : Bool} : (V.bl a = V.bl b) = (a = b) := by simp
theorem V_str_inj {a b : Str} : (V.str a = V.str b) = (a = b) := by simp
theorem scal_ii {a b : Int} : scal (.int a) (.int b) = true := rfl
theorem scal_bb {a b : Bool} : scal (.bl a) (.bl b) = true := rfl
theorem scal_ss {a b : Str} : scal (.str a) (.str b) = true := rfl
end
end My
/-! what is read further -/
namespace My
open PySem PySem.Spec PyProof.Rows L2
section
variable {σ : L2.St} {H : Hp} {Q : VK} {QT : Bool → Hp → Prop} {D : Ends} {ta tb te : TE} {t u c : TT} {s1 s2 : TS} {K : PySem.W.Frag}
/-! types of values -/
def tyS (x : V) (H : Hp) : Option String := match x with
  | .non => some "NoneType"
  | .bl _ => some "bool"
  | .int _ => some "int"
  | .str _ => some "str"
  | .ref a => match H a with
    | some (.lst _) => some "list"
    | some (.tup _) => some "tuple"
    | some (.dK _) => some "dict"
    | some (.frz _ (.lst _)) => some "list"
    | _ => none
  | _ => none
theorem tyS_ok {x : V} {t : String} (h : tyS x H = some t) : TyX K H x (.type t) := by
  cases x with
  | non => cases h; exact .base .non
  | bl b => cases h; exact .base (.bl b)
  | int i => cases h; exact .base (.int i)
  | str i => cases h; exact .base (.str i)
  | ref a =>
    unfold tyS at h
    cases e : H a with
    | none => simp [e] at h
    | some o =>
      cases o with
      | lst xs => simp [e] at h; subst h; exact .base (.lst e)
      | tup xs => simp [e] at h; subst h; exact .base (.tup e)
      | dK xs => simp [e] at h; subst h; exact .base (.dK e)
      | frz o u =>
        cases u with
        | lst xs => simp [e] at h; subst h; exact .base (.frz e)
        | _ => simp [e] at h
      | _ => simp [e] at h
  | _ => cases h
/-- isinstance with a built-in type -/
def isiF (x : V) (n : String) (H : Hp) (f : Bool → Prop) : Prop := match tyS x H with
  | some t => (match kitB t n with | some b => f b | none => False)
  | none => False
def rIsiF : List V → Hp → VK → Prop := fun xs H Q => match xs with
  | [x, .ty n] => isiF x n H fun b => Q (.bl b) H
  | _ => False
theorem rd_isiF {x : V} {n : String} : rIsiF [x, .ty n] H Q = isiF x n H fun b => Q (.bl b) H := rfl
theorem call_isiF {X : Cx} : CallR X (.builtin "isinstance") rIsiF := by
  intro pins s σ H xs us Q I r h
  refine call_isi pins s σ H xs us Q I r ?_
  unfold rIsiF at h
  split at h
  · rename_i x n
    unfold isiF at h
    split at h
    · rename_i t e
      split at h
      · rename_i b e2
        exact ⟨x, .ty n, _, _, b, rfl, .ty n, tyS_ok e, kit_ty e2, h⟩
      · exact h.elim
    · exact h.elim
  · exact h.elim
theorem isi_non_int {f : Bool → Prop} : isiF .non "int" H f = f false := by
  have e : kitB "NoneType" "int" = some false := by decide +kernel
  simp only [isiF, tyS, e]
theorem isi_non_bool {f : Bool → Prop} : isiF .non "bool" H f = f false := by
  have e : kitB "NoneType" "bool" = some false := by decide +kernel
  simp only [isiF, tyS, e]
theorem isi_non_str {f : Bool → Prop} : isiF .non "str" H f = f false := by
  have e : kitB "NoneType" "str" = some false := by decide +kernel
  simp only [isiF, tyS, e]
theorem isi_non_tuple {f : Bool → Prop} : isiF .non "tuple" H f = f false := by
  have e : kitB "NoneType" "tuple" = some false := by decide +kernel
  simp only [isiF, tyS, e]
theorem isi_non_list {f : Bool → Prop} : isiF .non "list" H f = f false := by
  have e : kitB "NoneType" "list" = some false := by decide +kernel
  simp only [isiF, tyS, e]
theorem isi_non_dict {f : Bool → Prop} : isiF .non "dict" H f = f false := by
  have e : kitB "NoneType" "dict" = some false := by decide +kernel
  simp only [isiF, tyS, e]
theorem isi_bl_int {b : Bool} {f : Bool → Prop} : isiF (.bl b) "int" H f = f true := by
  have e : kitB "bool" "int" = some true := by decide +kernel
  simp only [isiF, tyS, e]
theorem isi_bl_bool {b : Bool} {f : Bool → Prop} : isiF (.bl b) "bool" H f = f true := by
  have e : kitB "bool" "bool" = some true := by decide +kernel
  simp only [isiF, tyS, e]
theorem isi_bl_str {b : Bool} {f : Bool → Prop} : isiF (.bl b) "str" H f = f false := by
  have e : kitB "bool" "str" = some false := by decide +kernel
  simp only [isiF, tyS, e]
theorem isi_bl_tuple {b : Bool} {f : Bool → Prop} : isiF (.bl b) "tuple" H f = f false := by
  have e : kitB "bool" "tuple" = some false := by decide +kernel
  simp only [isiF, tyS, e]
theorem isi_bl_list {b : Bool} {f : Bool → Prop} : isiF (.bl b) "list" H f = f false := by
  have e : kitB "bool" "list" = some false := by decide +kernel
  simp only [isiF, tyS, e]
theorem isi_bl_dict {b : Bool} {f : Bool → Prop} : isiF (.bl b) "dict" H f = f false := by
  have e : kitB "bool" "dict" = some false := by decide +kernel
  simp only [isiF, tyS, e]
theorem isi_int_int {i : Int} {f : Bool → Prop} : isiF (.int i) "int" H f = f true := by
  have e : kitB "int" "int" = some true := by decide +kernel
  simp only [isiF, tyS, e]
theorem isi_int_bool {i : Int} {f : Bool → Prop} : isiF (.int i) "bool" H f = f false := by
  have e : kitB "int" "bool" = some false := by decide +kernel
  simp only [isiF, tyS, e]
theorem isi_int_str {i : Int} {f : Bool → Prop} : isiF (.int i) "str" H f = f false := by
  have e : kitB "int" "str" = some false := by decide +kernel
  simp only [isiF, tyS, e]
theorem isi_int_tuple {i : Int} {f : Bool → Prop} : isiF (.int i) "tuple" H f = f false := by
  have e : kitB "int" "tuple" = some false := by decide +kernel
  simp only [isiF, tyS, e]
theorem isi_int_list {i : Int} {f : Bool → Prop} : isiF (.int i) "list" H f = f false := by
  have e : kitB "int" "list" = some false := by decide +kernel
  simp only [isiF, tyS, e]
theorem isi_int_dict {i : Int} {f : Bool → Prop} : isiF (.int i) "dict" H f = f false := by
  have e : kitB "int" "dict" = some false := by decide +kernel
  simp only [isiF, tyS, e]
theorem isi_str_int {z : Str} {f : Bool → Prop} : isiF (.str z) "int" H f = f false := by
  have e : kitB "str" "int" = some false := by decide +kernel
  simp only [isiF, tyS, e]
theorem isi_str_bool {z : Str} {f : Bool → Prop} : isiF (.str z) "bool" H f = f false := by
  have e : kitB "str" "bool" = some false := by decide +kernel
  simp only [isiF, tyS, e]
theorem isi_str_str {z : Str} {f : Bool → Prop} : isiF (.str z) "str" H f = f true := by
  have e : kitB "str" "str" = some true := by decide +kernel
  simp only [isiF, tyS, e]
theorem isi_str_tuple {z : Str} {f : Bool → Prop} : isiF (.str z) "tuple" H f = f false := by
  have e : kitB "str" "tuple" = some false := by decide +kernel
  simp only [isiF, tyS, e]
theorem isi_str_list {z : Str} {f : Bool → Prop} : isiF (.str z) "list" H f = f false := by
  have e : kitB "str" "list" = some false := by decide +kernel
  simp only [isiF, tyS, e]
theorem isi_str_dict {z : Str} {f : Bool → Prop} : isiF (.str z) "dict" H f = f false := by
  have e : kitB "str" "dict" = some false := by decide +kernel
  simp only [isiF, tyS, e]
theorem isi_lst_int {a : Addr} {xs : List V} (h : H a = some (.lst xs)) {f : Bool → Prop} : isiF (.ref a) "int" H f = f false := by
  have e : kitB "list" "int" = some false := by decide +kernel
  simp only [isiF, tyS, h, e]
theorem isi_lst_bool {a : Addr} {xs : List V} (h : H a = some (.lst xs)) {f : Bool → Prop} : isiF (.ref a) "bool" H f = f false := by
  have e : kitB "list" "bool" = some false := by decide +kernel
  simp only [isiF, tyS, h, e]
theorem isi_lst_str {a : Addr} {xs : List V} (h : H a = some (.lst xs)) {f : Bool → Prop} : isiF (.ref a) "str" H f = f false := by
  have e : kitB "list" "str" = some false := by decide +kernel
  simp only [isiF, tyS, h, e]
theorem isi_lst_tuple {a : Addr} {xs : List V} (h : H a = some (.lst xs)) {f : Bool → Prop} : isiF (.ref a) "tuple" H f = f false := by
  have e : kitB "list" "tuple" = some false := by decide +kernel
  simp only [isiF, tyS, h, e]
theorem isi_lst_list {a : Addr} {xs : List V} (h : H a = some (.lst xs)) {f : Bool → Prop} : isiF (.ref a) "list" H f = f true := by
  have e : kitB "list" "list" = some true := by decide +kernel
  simp only [isiF, tyS, h, e]
theorem isi_lst_dict {a : Addr} {xs : List V} (h : H a = some (.lst xs)) {f : Bool → Prop} : isiF (.ref a) "dict" H f = f false := by
  have e : kitB "list" "dict" = some false := by decide +kernel
  simp only [isiF, tyS, h, e]
theorem isi_tup_int {a : Addr} {xs : List V} (h : H a = some (.tup xs)) {f : Bool → Prop} : isiF (.ref a) "int" H f = f false := by
  have e : kitB "tuple" "int" = some false := by decide +kernel
  simp only [isiF, tyS, h, e]
theorem isi_tup_bool {a : Addr} {xs : List V} (h : H a = some (.tup xs)) {f : Bool → Prop} : isiF (.ref a) "bool" H f = f false := by
  have e : kitB "tuple" "bool" = some false := by decide +kernel
  simp only [isiF, tyS, h, e]
theorem isi_tup_str {a : Addr} {xs : List V} (h : H a = some (.tup xs)) {f : Bool → Prop} : isiF (.ref a) "str" H f = f false := by
  have e : kitB "tuple" "str" = some false := by decide +kernel
  simp only [isiF, tyS, h, e]
theorem isi_tup_tuple {a : Addr} {xs : List V} (h : H a = some (.tup xs)) {f : Bool → Prop} : isiF (.ref a) "tuple" H f = f true := by
  have e : kitB "tuple" "tuple" = some true := by decide +kernel
  simp only [isiF, tyS, h, e]
theorem isi_tup_list {a : Addr} {xs : List V} (h : H a = some (.tup xs)) {f : Bool → Prop} : isiF (.ref a) "list" H f = f false := by
  have e : kitB "tuple" "list" = some false := by decide +kernel
  simp only [isiF, tyS, h, e]
theorem isi_tup_dict {a : Addr} {xs : List V} (h : H a = some (.tup xs)) {f : Bool → Prop} : isiF (.ref a) "dict" H f = f false := by
  have e : kitB "tuple" "dict" = some false := by decide +kernel
  simp only [isiF, tyS, h, e]
theorem isi_dK_int {a : Addr} {kvs : List (Key × V)} (h : H a = some (.dK kvs)) {f : Bool → Prop} : isiF (.ref a) "int" H f = f false := by
  have e : kitB "dict" "int" = some false := by decide +kernel
  simp only [isiF, tyS, h, e]
theorem isi_dK_bool {a : Addr} {kvs : List (Key × V)} (h : H a = some (.dK kvs)) {f : Bool → Prop} : isiF (.ref a) "bool" H f = f false := by
  have e : kitB "dict" "bool" = some false := by decide +kernel
  simp only [isiF, tyS, h, e]
theorem isi_dK_str {a : Addr} {kvs : List (Key × V)} (h : H a = some (.dK kvs)) {f : Bool → Prop} : isiF (.ref a) "str" H f = f false := by
  have e : kitB "dict" "str" = some false := by decide +kernel
  simp only [isiF, tyS, h, e]
theorem isi_dK_tuple {a : Addr} {kvs : List (Key × V)} (h : H a = some (.dK kvs)) {f : Bool → Prop} : isiF (.ref a) "tuple" H f = f false := by
  have e : kitB "dict" "tuple" = some false := by decide +kernel
  simp only [isiF, tyS, h, e]
theorem isi_dK_list {a : Addr} {kvs : List (Key × V)} (h : H a = some (.dK kvs)) {f : Bool → Prop} : isiF (.ref a) "list" H f = f false := by
  have e : kitB "dict" "list" = some false := by decide +kernel
  simp only [isiF, tyS, h, e]
theorem isi_dK_dict {a : Addr} {kvs : List (Key × V)} (h : H a = some (.dK kvs)) {f : Bool → Prop} : isiF (.ref a) "dict" H f = f true := by
  have e : kitB "dict" "dict" = some true := by decide +kernel
  simp only [isiF, tyS, h, e]

/-! loops -/
def forGo (J : It) (g : TG) (tb : TS) (D : Ends) (σ : L2.St) (H : Hp) : Prop := ∃ W : Nat → Nat → L2.St → Hp → Prop, (∃ m, W 0 m σ H) ∧ ∀ i m σ H, W i m σ H →
  (J.stop i H ∧ D.nx σ H) ∨ (J.go i H ∧ ∃ N : L2.St → Hp → Prop, (∀ σ' H', N σ' H' → ∃ m', m' < m ∧ W (i + 1) m' σ' H') ∧ ∀ x H', J.yld i H x H' → g x σ H' fun σ2 H2 => tb { D with nx := N, ct := N, bk := D.nx } σ2 H2)
theorem rd_for {wi : TI} {g : TG} {tb : TS} : tFor wi g tb D σ H = wi σ H fun J H1 => forGo J g tb D σ H1 := rfl
def isR1 (vs : List V) (f : Int → Prop) : Prop := match vs with | [.int j] => f j | _ => False
theorem rd_isR1 {j : Int} {f : Int → Prop} : isR1 [.int j] f = f j := rfl
theorem rd_rng1 {tr : TA} {R : It → Hp → Prop} : iRng1 tr σ H R = tr σ H fun vs H1 => isR1 vs fun j => (-(2 ^ 62) ≤ j ∧ j < 2 ^ 62) ∧ R (Itr 0 j.toNat) H1 := by
  unfold iRng1
  apply congrArg
  funext vs H1
  apply propext
  constructor
  · rintro ⟨j, rfl, h1, h2, r⟩; exact ⟨⟨h1, h2⟩, r⟩
  · intro h
    unfold isR1 at h
    split at h
    · rename_i j
      exact ⟨j, rfl, h.1.1, h.1.2, h.2⟩
    · exact h.elim
def isR2 (vs : List V) (f : Int → Int → Prop) : Prop := match vs with | [.int i, .int j] => f i j | _ => False
theorem rd_isR2 {i j : Int} {f : Int → Int → Prop} : isR2 [.int i, .int j] f = f i j := rfl
theorem rd_rng2 {tr : TA} {R : It → Hp → Prop} : iRng2 tr σ H R = tr σ H fun vs H1 => isR2 vs fun i j => (-(2 ^ 62) ≤ i ∧ i < 2 ^ 62 ∧ -(2 ^ 62) ≤ j ∧ j < 2 ^ 62) ∧ R (Itr i (j - i).toNat) H1 := by
  unfold iRng2
  apply congrArg
  funext vs H1
  apply propext
  constructor
  · rintro ⟨i, j, rfl, h1, r⟩; exact ⟨h1, r⟩
  · intro h
    unfold isR2 at h
    split at h
    · rename_i i j
      exact ⟨i, j, rfl, h.1, h.2⟩
    · exact h.elim
def isRef (x : V) (f : Addr → Prop) : Prop := match x with | .ref a => f a | _ => False
theorem rd_isRef {a : Addr} {f : Addr → Prop} : isRef (.ref a) f = f a := rfl
theorem isRef_eq {x : V} {f : Addr → Prop} : (∃ a, x = .ref a ∧ f a) = isRef x f := by
  apply propext
  constructor
  · rintro ⟨a, rfl, h⟩; exact h
  · intro h
    cases x with
    | ref a => exact ⟨a, rfl, h⟩
    | _ => exact h.elim
theorem rd_iList {R : It → Hp → Prop} : iList K te σ H R = te σ H fun x H1 => isRef x fun a => (∃ xs, SqL K H1 a xs) ∧ R (Itl K a) H1 := by
  unfold iList
  simp only [isRef_eq]
theorem rd_iTup {R : It → Hp → Prop} : iTup K te σ H R = te σ H fun x H1 => isRef x fun a => (∃ xs, SqT K H1 a xs) ∧ R (Itt K a) H1 := by
  unfold iTup
  simp only [isRef_eq]
def isStr (x : V) (f : Str → Prop) : Prop := match x with | .str a => f a | _ => False
theorem rd_isStr {a : Str} {f : Str → Prop} : isStr (.str a) f = f a := rfl
theorem isStr_eq {x : V} {f : Str → Prop} : (∃ a, x = .str a ∧ f a) = isStr x f := by
  apply propext
  constructor
  · rintro ⟨a, rfl, h⟩; exact h
  · intro h
    cases x with
    | str a => exact ⟨a, rfl, h⟩
    | _ => exact h.elim
theorem rd_iStr {R : It → Hp → Prop} : iStr te σ H R = te σ H fun x H1 => isStr x fun z => R (Its z) H1 := by
  unfold iStr
  simp only [isStr_eq]
theorem go_it {J : It} {n : Nat} {G : Hp → Prop} {Y : Nat → Hp → V → Hp → Prop} (w : L2.Walk J n G Y) {g : TG} {tb : TS} (Pv : Nat → L2.St → Hp → Prop) (h0 : Pv 0 σ H) (hG : ∀ i σ H, i ≤ n → Pv i σ H → G H)
    (hs : ∀ (N : L2.St → Hp → Prop) i x σ H H', i < n → Pv i σ H → Y i H x H' → (∀ σ' H', Pv (i + 1) σ' H' → N σ' H') → g x σ H' fun σ2 H2 => tb { D with nx := N, ct := N, bk := D.nx } σ2 H2) (hd : ∀ σ H, Pv n σ H → D.nx σ H) : forGo J g tb D σ H :=
  L2.for_it w Pv h0 hG (fun i x σ H H' h1 h2 h3 => hs _ i x σ H H' h1 h2 h3 fun _ _ z => z) hd
theorem go_range {lo : Int} {n : Nat} {g : TG} {tb : TS} (Pv : Nat → L2.St → Hp → Prop) (h0 : Pv 0 σ H)
    (hs : ∀ (N : L2.St → Hp → Prop) (i : Nat) σ H, i < n → Pv i σ H → (∀ σ' H', Pv (i + 1) σ' H' → N σ' H') → g (.int (lo + i)) σ H fun σ2 H2 => tb { D with nx := N, ct := N, bk := D.nx } σ2 H2) (hd : ∀ σ H, Pv n σ H → D.nx σ H) : forGo (Itr lo n) g tb D σ H :=
  for_range Pv h0 (fun i σ H h1 h2 => hs _ i σ H h1 h2 fun _ _ z => z) hd
theorem go_list {a : Addr} {xs : List V} {g : TG} {tb : TS} (Pv : Nat → L2.St → Hp → Prop) (h0 : Pv 0 σ H) (hl : ∀ i σ H, i ≤ xs.length → Pv i σ H → SqL K H a xs)
    (hs : ∀ (N : L2.St → Hp → Prop) i x σ H, xs[i]? = some x → Pv i σ H → (∀ σ' H', Pv (i + 1) σ' H' → N σ' H') → g x σ H fun σ2 H2 => tb { D with nx := N, ct := N, bk := D.nx } σ2 H2) (hd : ∀ σ H, Pv xs.length σ H → D.nx σ H) : forGo (Itl K a) g tb D σ H :=
  for_list Pv h0 hl (fun i x σ H h1 h2 => hs _ i x σ H h1 h2 fun _ _ z => z) hd
theorem go_tup {a : Addr} {xs : List V} {g : TG} {tb : TS} (Pv : Nat → L2.St → Hp → Prop) (h0 : Pv 0 σ H) (hl : ∀ i σ H, i ≤ xs.length → Pv i σ H → SqT K H a xs)
    (hs : ∀ (N : L2.St → Hp → Prop) i x σ H, xs[i]? = some x → Pv i σ H → (∀ σ' H', Pv (i + 1) σ' H' → N σ' H') → g x σ H fun σ2 H2 => tb { D with nx := N, ct := N, bk := D.nx } σ2 H2) (hd : ∀ σ H, Pv xs.length σ H → D.nx σ H) : forGo (Itt K a) g tb D σ H :=
  for_tup Pv h0 hl (fun i x σ H h1 h2 => hs _ i x σ H h1 h2 fun _ _ z => z) hd
/-! sequences -/
/-- p is new at H -/
def Fresh (H : Hp) (p : Addr) : Prop := H p = none
theorem Fresh.ne {H : Hp} {p a : Addr} {o : HO} (f : Fresh H p) (h : H a = some o) : a ≠ p := ne_of_none h f
theorem rd_lst {tr : TA} : tLst tr σ H Q = tr σ H fun xs H1 => xs.length ≤ sizeLine ∧ ∀ p, Fresh H1 p → Q (.ref p) (upd H1 p (.lst xs)) := rfl
theorem rd_tup {tr : TA} : tTup tr σ H Q = tr σ H fun xs H1 => xs.length ≤ sizeLine ∧ ∀ p, Fresh H1 p → Q (.ref p) (upd H1 p (.tup xs)) := rfl
theorem rd_cat {l b : Addr} : rCat (.ref l) (.ref b) H Q = ∃ xs zs, H l = some (.lst xs) ∧ H b = some (.lst zs) ∧ xs.length + zs.length ≤ sizeLine ∧ ∀ p, Fresh H p → Q (.ref p) (upd H p (.lst (xs ++ zs))) := by
  unfold rCat
  apply propext
  constructor
  · rintro ⟨l', b', xs, zs, e1, e2, q⟩; cases e1; cases e2; exact ⟨xs, zs, q⟩
  · rintro ⟨xs, zs, q⟩; exact ⟨l, b, xs, zs, rfl, rfl, q⟩
theorem rd_ixL {p : Addr} {i : Int} : rIxL K (.ref p) (.int i) H Q = ∃ xs v, SqL K H p xs ∧ atI xs i = some v ∧ Q v H := by
  unfold rIxL
  apply propext
  constructor
  · rintro ⟨p', xs, i', v, e1, e2, q⟩; cases e1; cases e2; exact ⟨xs, v, q⟩
  · rintro ⟨xs, v, q⟩; exact ⟨p, xs, i, v, rfl, rfl, q⟩
theorem rd_sl {r : V → Option Int → Option Int → Hp → VK → Prop} {tl th : TO} : tSl r te tl th σ H Q = te σ H fun x H1 => tl σ H1 fun l H2 => th σ H2 fun u H3 => r x l u H3 Q := rfl
theorem rd_noPart {R : Option Int → Hp → Prop} : tNoPart σ H R = R none H := rfl
def isInt (x : V) (f : Int → Prop) : Prop := match x with | .int a => f a | _ => False
theorem rd_isInt {a : Int} {f : Int → Prop} : isInt (.int a) f = f a := rfl
theorem isInt_eq {x : V} {f : Int → Prop} : (∃ a, x = .int a ∧ f a) = isInt x f := by
  apply propext
  constructor
  · rintro ⟨a, rfl, h⟩; exact h
  · intro h
    cases x with
    | int a => exact ⟨a, rfl, h⟩
    | _ => exact h.elim
theorem rd_part {R : Option Int → Hp → Prop} : tPart te σ H R = te σ H fun x H1 => isInt x fun i => R (some i) H1 := by
  unfold tPart
  simp only [isInt_eq]
theorem rd_slL {a : Addr} {lo hi : Option Int} : rSlL K (.ref a) lo hi H Q = ∃ xs, SqL K H a xs ∧ ∀ p, Fresh H p → Q (.ref p) (upd H p (.lst (cutV xs lo hi))) := by
  unfold rSlL
  apply propext
  constructor
  · rintro ⟨a', xs, e1, q⟩; cases e1; exact ⟨xs, q⟩
  · rintro ⟨xs, q⟩; exact ⟨a, xs, rfl, q⟩
def rLen (K : PySem.W.Frag) : List V → Hp → VK → Prop := fun xs H Q => ∃ p ys, xs = [.ref p] ∧ (SqL K H p ys ∨ SqT K H p ys) ∧ Q (.int ys.length) H
theorem call_lenq {X : Cx} : CallR X (.builtin "len") (rLen X.K) := call_len_seq
theorem rd_len {p : Addr} : rLen K [.ref p] H Q = ∃ ys, (SqL K H p ys ∨ SqT K H p ys) ∧ Q (.int ys.length) H := by
  unfold rLen
  apply propext
  constructor
  · rintro ⟨p', ys, e, q⟩; cases e; exact ⟨ys, q⟩
  · rintro ⟨ys, q⟩; exact ⟨p, ys, rfl, q⟩
/-! promises -/
def spI1 (Pre : Int → Prop) (f : Int → V) : Sp := fun vs H Q _ => ∃ a, vs = [.int a] ∧ Pre a ∧ Q (f a) H
def spI2 (Pre : Int → Int → Prop) (f : Int → Int → V) : Sp := fun vs H Q _ => ∃ a b, vs = [.int a, .int b] ∧ Pre a b ∧ Q (f a b) H
def spI3 (Pre : Int → Int → Int → Prop) (f : Int → Int → Int → V) : Sp := fun vs H Q _ => ∃ a b c, vs = [.int a, .int b, .int c] ∧ Pre a b c ∧ Q (f a b c) H
def spI4 (Pre : Int → Int → Int → Int → Prop) (f : Int → Int → Int → Int → V) : Sp := fun vs H Q _ => ∃ a b c d, vs = [.int a, .int b, .int c, .int d] ∧ Pre a b c d ∧ Q (f a b c d) H
variable {E : XK}
theorem rd_spI1 {Pre : Int → Prop} {f : Int → V} {a : Int} : spI1 Pre f [.int a] H Q E = (Pre a ∧ Q (f a) H) := by
  unfold spI1
  apply propext
  constructor
  · rintro ⟨a', e, q⟩; cases e; exact q
  · intro q; exact ⟨a, rfl, q⟩
theorem rd_spI2 {Pre : Int → Int → Prop} {f : Int → Int → V} {a b : Int} : spI2 Pre f [.int a, .int b] H Q E = (Pre a b ∧ Q (f a b) H) := by
  unfold spI2
  apply propext
  constructor
  · rintro ⟨a', b', e, q⟩; cases e; exact q
  · intro q; exact ⟨a, b, rfl, q⟩
theorem rd_spI3 {Pre : Int → Int → Int → Prop} {f : Int → Int → Int → V} {a b c : Int} : spI3 Pre f [.int a, .int b, .int c] H Q E = (Pre a b c ∧ Q (f a b c) H) := by
  unfold spI3
  apply propext
  constructor
  · rintro ⟨a', b', c', e, q⟩; cases e; exact q
  · intro q; exact ⟨a, b, c, rfl, q⟩
theorem rd_spI4 {Pre : Int → Int → Int → Int → Prop} {f : Int → Int → Int → Int → V} {a b c d : Int} : spI4 Pre f [.int a, .int b, .int c, .int d] H Q E = (Pre a b c d ∧ Q (f a b c d) H) := by
  unfold spI4
  apply propext
  constructor
  · rintro ⟨a', b', c', d', e, q⟩; cases e; exact q
  · intro q; exact ⟨a, b, c, d, rfl, q⟩
/-- a scalar: whether it is an int and no truth -/
def wholeV : V → Bool
  | .int _ => true
  | _ => false
def scalV : V → Bool
  | .int _ => true
  | .bl _ => true
  | .non => true
  | .str _ => true
  | _ => false
/-- a value whose kind is known -/
def thing (H : Hp) : V → Prop
  | .int _ => True
  | .bl _ => True
  | .non => True
  | .str _ => True
  | .ref a => (∃ xs, H a = some (.tup xs)) ∨ (∃ xs, H a = some (.lst xs)) ∨ ∃ xs, H a = some (.dK xs)
  | _ => False
def spWhole : Sp := fun vs H Q _ => ∃ x, vs = [x] ∧ thing H x ∧ Q (.bl (wholeV x)) H
theorem rd_whole {i : Int} : spWhole [.int i] H Q E = Q (.bl true) H := by
  unfold spWhole
  apply propext
  constructor
  · rintro ⟨x, e, _, q⟩; cases e; exact q
  · intro q; exact ⟨_, rfl, trivial, q⟩
/-- the law's own: a list of at most 63 ints, True -/
def spLaw (K : PySem.W.Frag) : Sp := fun vs H Q _ => ∃ (a : Addr) (ns : List Int), vs = [.ref a] ∧ SqL K H a (ns.map V.int) ∧ ns.length ≤ 63 ∧ ∀ H', Q (.bl true) H'
end
theorem len_spI1 {Pre : Int → Prop} {f : Int → V} {vs H Q E} (h : spI1 Pre f vs H Q E) : vs.length = 1 := by obtain ⟨_, rfl, _⟩ := h; rfl
theorem len_spI2 {Pre : Int → Int → Prop} {f : Int → Int → V} {vs H Q E} (h : spI2 Pre f vs H Q E) : vs.length = 2 := by obtain ⟨_, _, rfl, _⟩ := h; rfl
theorem len_spI3 {Pre : Int → Int → Int → Prop} {f : Int → Int → Int → V} {vs H Q E} (h : spI3 Pre f vs H Q E) : vs.length = 3 := by obtain ⟨_, _, _, rfl, _⟩ := h; rfl
theorem len_spI4 {Pre : Int → Int → Int → Int → Prop} {f : Int → Int → Int → Int → V} {vs H Q E} (h : spI4 Pre f vs H Q E) : vs.length = 4 := by obtain ⟨_, _, _, _, rfl, _⟩ := h; rfl
theorem len_whole {vs H Q E} (h : spWhole vs H Q E) : vs.length = 1 := by obtain ⟨_, rfl, _⟩ := h; rfl
theorem len_law {K : PySem.W.Frag} {vs H Q E} (h : spLaw K vs H Q E) : vs.length = 1 := by obtain ⟨_, _, rfl, _⟩ := h; rfl
theorem st_nil : L2.start [] [] = [] := rfl
theorem st_arg {x : Str} {N : List Str} {v : V} {vs : List V} : L2.start (x :: N) (v :: vs) = some v :: L2.start N vs := by
  unfold L2.start
  simp
theorem st_none {x : Str} {N : List Str} : L2.start (x :: N) [] = none :: L2.start N [] := by
  unfold L2.start
  simp [List.replicate_succ]
theorem cxK {CX : CXT} {P : Program} {w : World} {K : PySem.W.Frag} {mg : Str → Option Value} {base : Heap} {N : List Str} {qual : Str} {scope : Scope} {f : Addr} {cd : Value} {A : Around} {outer : List Env} {s : Shared} {H : Hp} {E : XK} :
    (cxOf CX P w K mg base N qual scope f cd A outer s H E).K = K := rfl
/-- a new object leaves what stood before -/
theorem Same_upd {H0 H : Hp} {p : Addr} {o : HO} (s : Same H0 H) (f : Fresh H p) : Same H0 (upd H p o) := fun b u e => by
  have e' := s b u e
  rw [upd_ne (f.ne e')]
  exact e'
theorem Same_fresh {H0 H : Hp} {p : Addr} (s : Same H0 H) (f : Fresh H p) : Fresh H0 p := s.free f
theorem Same_upd0 {H0 H : Hp} {p : Addr} {o : HO} (s : Same H0 H) (f : Fresh H0 p) : Same H0 (upd H p o) := fun b u e => by
  rw [upd_ne (f.ne e)]
  exact s b u e
/-- the items of a list of ints -/
theorem ints_at {ns : List Int} {i : Nat} {y : V} (h : (ns.map V.int)[i]? = some y) : ∃ n, ns[i]? = some n ∧ y = .int n := by
  rw [List.getElem?_map] at h
  cases e : ns[i]? with
  | none => rw [e] at h; cases h
  | some n => rw [e] at h; exact ⟨n, rfl, (Option.some.inj h).symm⟩
theorem cut_len (xs : List V) (lo hi : Option Int) : (cutV xs lo hi).length ≤ xs.length := cutV_length xs lo hi
theorem cut_map (ns : List Int) (lo hi : Option Int) : ∃ ms : List Int, cutV (ns.map V.int) lo hi = ms.map V.int ∧ ms.length ≤ ns.length := by
  unfold cutV
  rw [← List.map_drop, ← List.map_take]
  exact ⟨_, rfl, by rw [List.length_take, List.length_drop]; omega⟩
/-- the item of a list of ints at a place in bounds -/
def getI (xs : List Int) (i : Int) : Int := xs.getD i.toNat 0
theorem at_int {xs : List Int} {i : Int} (h0 : 0 ≤ i) (h1 : i < xs.length) : atI (xs.map V.int) i = some (.int (getI xs i)) := by
  obtain ⟨j, rfl⟩ : ∃ j : Nat, i = (j : Int) := ⟨i.toNat, by omega⟩
  have hj : j < xs.length := by omega
  refine atI_nat ?_
  rw [List.getElem?_map, List.getElem?_eq_getElem hj]
  show some (V.int xs[j]) = some (V.int (xs.getD j 0))
  rw [List.getD_eq_getElem?_getD, List.getElem?_eq_getElem hj]
  rfl
theorem iteN {c A B : Prop} [Decidable c] (h : ¬ c) (q : B) : if c then A else B := by rw [if_neg h]; exact q
theorem iteP {c A B : Prop} [Decidable c] (h : c) (q : A) : if c then A else B := by rw [if_pos h]; exact q
theorem tyL {K : PySem.W.Frag} {H : Hp} {l : Addr} {xs : List V} (h : H l = some (.lst xs)) : tyV K "list" (.ref l) H := Or.inl ⟨rfl, _, SqL.of h⟩
theorem rd_BM {K : PySem.W.Frag} {T : String} {r : V → List V → Hp → VK → Prop} {to : TE} {t : TA} {σ : L2.St} {H : Hp} {Q : VK} : tBM K T r to t σ H Q = to σ H fun x H1 => tyV K T x H1 ∧ t σ H1 fun xs H2 => r x xs H2 Q := rfl
theorem rd_BM0 {K : PySem.W.Frag} {T : String} {r : V → List V → Hp → VK → Prop} {to : TE} {σ : L2.St} {H : Hp} {Q : VK} : tBM0 K T r to σ H Q = to σ H fun x H1 => tyV K T x H1 ∧ r x [] H1 Q := rfl
theorem rd_append {l : Addr} {y : V} {H : Hp} {Q : VK} : rAppend (.ref l) [y] H Q = ∃ xs, H l = some (.lst xs) ∧ xs.length < sizeLine ∧ Q .non (upd H l (.lst (xs ++ [y]))) := by
  unfold rAppend
  apply propext
  constructor
  · rintro ⟨l', xs, y', e1, e2, q⟩; cases e1; cases e2; exact ⟨xs, q⟩
  · rintro ⟨xs, q⟩; exact ⟨l, xs, y, rfl, rfl, q⟩
theorem rd_rep {l : Addr} {k : Int} {H : Hp} {Q : VK} : rRep (.ref l) (.int k) H Q = ∃ xs, H l = some (.lst xs) ∧ -(2 ^ 63) ≤ k ∧ k < 2 ^ 63 ∧ xs.length * k.toNat ≤ sizeLine ∧ ∀ p, Fresh H p → Q (.ref p) (upd H p (.lst (List.replicate k.toNat xs).flatten)) := by
  unfold rRep
  apply propext
  constructor
  · rintro ⟨l', k', xs, e1, e2, q⟩; cases e1; cases e2; exact ⟨xs, q⟩
  · rintro ⟨xs, q⟩; exact ⟨l, k, xs, rfl, rfl, q⟩
theorem rd_gSub {to ti : TE} {t : TSet} {v : V} {σ : L2.St} {H : Hp} {R : L2.St → Hp → Prop} : gSub to ti t v σ H R = to σ H fun o H1 => ti σ H1 fun i H2 => t o i v H2 fun H3 => R σ H3 := rfl
theorem rd_setL {p : Addr} {k : Int} {v : V} {H : Hp} {R : Hp → Prop} : rSetL (.ref p) (.int k) v H R = ∃ xs j, H p = some (.lst xs) ∧ ixN xs.length k = some j ∧ R (upd H p (.lst (xs.set j v))) := by
  unfold rSetL
  apply propext
  constructor
  · rintro ⟨p', xs, k', j, e1, e2, q⟩; cases e1; cases e2; exact ⟨xs, j, q⟩
  · rintro ⟨xs, j, q⟩; exact ⟨p, xs, k, j, rfl, rfl, q⟩
theorem ixN_nat {n : Nat} {k : Int} (h0 : 0 ≤ k) (h1 : k < n) : ixN n k = some k.toNat := by
  unfold ixN
  rw [if_pos h0, if_pos (by omega)]
/-! lists of ints compared -/
theorem DpAll_ints {K : PySem.W.Frag} {H : Hp} : ∀ xs : List Int, DpAll K H (xs.map V.int) (xs.map PyData.int)
  | [] => .nil
  | x :: xs => .cons (.int x) (DpAll_ints xs)
theorem eqvAll_ints : ∀ xs ys : List Int, PyData.eqvAll (xs.map PyData.int) (ys.map PyData.int) = decide (xs = ys)
  | [], [] => by simp [PyData.eqvAll]
  | [], _ :: _ => by simp [PyData.eqvAll]
  | _ :: _, [] => by simp [PyData.eqvAll]
  | x :: xs, y :: ys => by
    show (PyData.eqv (.int x) (.int y) && PyData.eqvAll (xs.map PyData.int) (ys.map PyData.int)) = _
    rw [eqvAll_ints xs ys, PyData.eqv]
    by_cases h : x = y
    · subst h
      by_cases h2 : xs = ys
      · simp [h2]
      · simp [h2]
    · simp [h]
theorem canLay_ints : ∀ xs : List Int, PyData.canLayAll0 (xs.map PyData.int) = true
  | [] => by simp [PyData.canLayAll0]
  | x :: xs => by
    show (PyData.canLay0 (.int x) && PyData.canLayAll0 (xs.map PyData.int)) = true
    rw [canLay_ints xs, PyData.canLay0]
    rfl
theorem depth_ints : ∀ xs : List Int, PyData.depthAll (xs.map PyData.int) = 0
  | [] => by simp [PyData.depthAll]
  | x :: xs => by
    show max (PyData.depth (.int x)) (PyData.depthAll (xs.map PyData.int)) = 0
    rw [depth_ints xs, PyData.depth]
    rfl
theorem shaped_ints (xs : List Int) : SeqAt.shaped (.list (xs.map PyData.int)) = true := by
  unfold SeqAt.shaped
  rw [PyData.canLay0, canLay_ints, PyData.depth, depth_ints]
  decide
theorem eq_ints {K : PySem.W.Frag} {H : Hp} {a b : Addr} {xs ys : List Int} {Q : VK} (ha : SqL K H a (xs.map V.int)) (hb : SqL K H b (ys.map V.int)) (q : Q (.bl (decide (xs = ys))) H) : rEqD K (.ref a) (.ref b) H Q :=
  ⟨.list (xs.map PyData.int), .list (ys.map PyData.int), .lst ha (DpAll_ints xs), .lst hb (DpAll_ints ys), shaped_ints xs, shaped_ints ys, by rw [PyData.eqv, eqvAll_ints]; exact q⟩
/-- a cell of the script -/
def spCell (K : PySem.W.Frag) : Sp := fun vs H Q _ => ∃ (a : Addr) (ns : List Int) (i : Int), vs = [.ref a, .int i] ∧ SqL K H a (ns.map V.int) ∧ 0 ≤ i ∧ Q (.int (getI ns i)) H
theorem rd_spCell {K : PySem.W.Frag} {a : Addr} {i : Int} {H : Hp} {Q : VK} {E : XK} : spCell K [.ref a, .int i] H Q E = ∃ ns : List Int, SqL K H a (ns.map V.int) ∧ 0 ≤ i ∧ Q (.int (getI ns i)) H := by
  unfold spCell
  apply propext
  constructor
  · rintro ⟨a', ns, i', e, q⟩; cases e; exact ⟨ns, q⟩
  · rintro ⟨ns, q⟩; exact ⟨a, ns, i, rfl, q⟩
theorem len_cell {K : PySem.W.Frag} {vs H Q E} (h : spCell K vs H Q E) : vs.length = 2 := by obtain ⟨_, _, _, rfl, _⟩ := h; rfl
/-- a new list of ints by two ints -/
def spNew2 (Pre : Int → Int → Prop) (f : Int → Int → List Int) : Sp := fun vs H Q _ => ∃ m s, vs = [.int m, .int s] ∧ Pre m s ∧ ∀ p H', Same H H' → Fresh H p → H' p = some (.lst ((f m s).map V.int)) → Q (.ref p) H'
theorem rd_spNew2 {Pre : Int → Int → Prop} {f : Int → Int → List Int} {m s : Int} {H : Hp} {Q : VK} {E : XK} : spNew2 Pre f [.int m, .int s] H Q E = (Pre m s ∧ ∀ p H', Same H H' → Fresh H p → H' p = some (.lst ((f m s).map V.int)) → Q (.ref p) H') := by
  unfold spNew2
  apply propext
  constructor
  · rintro ⟨m', s', e, q⟩; cases e; exact q
  · intro q; exact ⟨m, s, rfl, q⟩
theorem len_new2 {Pre : Int → Int → Prop} {f : Int → Int → List Int} {vs H Q E} (h : spNew2 Pre f vs H Q E) : vs.length = 2 := by obtain ⟨_, _, rfl, _⟩ := h; rfl
theorem both {A B : Prop} (a : A) (b : B) : A ∧ B := ⟨a, b⟩
theorem iteB {c A B : Prop} [Decidable c] (h1 : c → A) (h2 : ¬ c → B) : if c then A else B := ite2 h1 h2
/-- // by a divisor of at most 4000 bits -/
theorem divB {i j : Int} (h : 0 < j) (hb : j < 2 ^ 200) : CDivW i j := wide_div (b := 201) h (by
  have e : (2 : Int) ^ 200 = ((2 ^ 200 : Nat) : Int) := by decide +kernel
  have e2 : (2 : Nat) ^ 200 ≤ 2 ^ 201 := by decide +kernel
  omega) (by decide) (by decide)
/-- any int -/
def spAny1 (Post : Int → V → Prop) : Sp := fun vs H Q _ => ∃ a, vs = [.int a] ∧ ∀ v, Post a v → Q v H
theorem rd_spAny1 {Post : Int → V → Prop} {a : Int} {H : Hp} {Q : VK} {E : XK} : spAny1 Post [.int a] H Q E = ∀ v, Post a v → Q v H := by
  unfold spAny1
  apply propext
  constructor
  · rintro ⟨a', e, q⟩; cases e; exact q
  · intro q; exact ⟨a, rfl, q⟩
theorem len_any1 {Post : Int → V → Prop} {vs H Q E} (h : spAny1 Post vs H Q E) : vs.length = 1 := by obtain ⟨_, rfl, _⟩ := h; rfl
theorem go_while {c : TT} {tb : TS} {D : Ends} {σ : L2.St} {H : Hp} (Pv : L2.St → Hp → Prop) (μ : L2.St → Hp → Nat) (h0 : Pv σ H)
    (hs : ∀ (B : Hp → Prop) σ H, Pv σ H → (∀ H1, (∀ N : L2.St → Hp → Prop, (∀ σ' H', Pv σ' H' → μ σ' H' < μ σ H → N σ' H') → tb { D with nx := N, ct := N, bk := D.nx } σ H1) → B H1) →
      c σ H fun b H1 => if b = true then B H1 else D.nx σ H1) : tWhile c tb D σ H := by
  refine ⟨fun m σ H => m = μ σ H ∧ Pv σ H, ⟨_, rfl, h0⟩, ?_⟩
  rintro m σ H ⟨rfl, p⟩
  refine hs (fun H1 => ∃ N : L2.St → Hp → Prop, (∀ σ' H', N σ' H' → ∃ m', m' < μ σ H ∧ m' = μ σ' H' ∧ Pv σ' H') ∧ tb { D with nx := N, ct := N, bk := D.nx } σ H1) σ H p fun H1 h => ?_
  exact ⟨fun σ' H' => Pv σ' H' ∧ μ σ' H' < μ σ H, fun σ' H' ⟨p', l⟩ => ⟨_, l, rfl, p'⟩, h _ fun σ' H' p' l => ⟨p', l⟩⟩
theorem rd_dnewK {σ : L2.St} {H : Hp} {Q : VK} : tDNewK σ H Q = ∀ p, Fresh H p → Q (.ref p) (upd H p (.dK [])) := rfl
theorem rd_dsetd {td ty tx : TE} {σ : L2.St} {H : Hp} {Q : VK} : tDSetd td ty tx σ H Q = td σ H fun x H1 => isRef x fun a => IsD H1 a ∧ ty σ H1 fun y H2 => tx σ H2 fun z H3 => ∃ (kvs : List (Key × V)) (k : Key), H3 a = some (.dK kvs) ∧ y = kV k ∧ kvs.length < sizeLine ∧
  (∀ v, valV kvs k = some v → Q v H3) ∧ (valV kvs k = none → Q z (upd H3 a (.dK (putK kvs k z)))) := by
  unfold tDSetd
  simp only [isRef_eq]
theorem exSq {K : PySem.W.Frag} {H : Hp} {a : Addr} {ms : List Int} {R : List Int → Prop} (h : SqL K H a (ms.map V.int)) (q : R ms) : ∃ ns : List Int, SqL K H a (ns.map V.int) ∧ R ns := ⟨ms, h, q⟩
theorem exSqV {K : PySem.W.Frag} {H : Hp} {a : Addr} {ms : List V} {R : List V → Prop} (h : SqL K H a ms) (q : R ms) : ∃ ns : List V, SqL K H a ns ∧ R ns := ⟨ms, h, q⟩
def rMax2 : List V → Hp → VK → Prop := fun xs H Q => ∃ i j, xs = [.int i, .int j] ∧ Q (.int (if j > i then j else i)) H
def rMin2 : List V → Hp → VK → Prop := fun xs H Q => ∃ i j, xs = [.int i, .int j] ∧ Q (.int (if j < i then j else i)) H
theorem call_max2q {X : Cx} (hc : X.calm = true) : CallR X (.builtin "max") rMax2 := call_max2 hc
theorem call_min2q {X : Cx} (hc : X.calm = true) : CallR X (.builtin "min") rMin2 := call_min2 hc
theorem rd_max2 {i j : Int} {H : Hp} {Q : VK} : rMax2 [.int i, .int j] H Q = Q (.int (if j > i then j else i)) H := by
  unfold rMax2
  apply propext
  constructor
  · rintro ⟨i', j', e, q⟩; cases e; exact q
  · intro q; exact ⟨i, j, rfl, q⟩
theorem rd_min2 {i j : Int} {H : Hp} {Q : VK} : rMin2 [.int i, .int j] H Q = Q (.int (if j < i then j else i)) H := by
  unfold rMin2
  apply propext
  constructor
  · rintro ⟨i', j', e, q⟩; cases e; exact q
  · intro q; exact ⟨i, j, rfl, q⟩
/-- len of a text, a list, a tuple -/
def rLenU (K : PySem.W.Frag) : List V → Hp → VK → Prop := fun xs H Q => (∃ z : Str, xs = [.str z] ∧ z.length ≤ sizeLine ∧ Q (.int z.length) H) ∨ rLen K xs H Q
theorem call_lenU {X : Cx} : CallR X (.builtin "len") (rLenU X.K) := by
  intro pins s σ H xs us Q I r h
  rcases h with h | h
  · exact call_len_str pins s σ H xs us Q I r h
  · exact call_len_seq pins s σ H xs us Q I r h
theorem rd_lenU_str {K : PySem.W.Frag} {z : Str} {H : Hp} {Q : VK} : rLenU K [.str z] H Q = (z.length ≤ sizeLine ∧ Q (.int z.length) H) := by
  unfold rLenU
  apply propext
  constructor
  · rintro (⟨z', e, q⟩ | ⟨p, ys, e, _⟩)
    · cases e; exact q
    · cases e
  · intro q; exact .inl ⟨z, rfl, q⟩
theorem rd_lenU_ref {K : PySem.W.Frag} {p : Addr} {H : Hp} {Q : VK} : rLenU K [.ref p] H Q = ∃ ys, (SqL K H p ys ∨ SqT K H p ys) ∧ Q (.int ys.length) H := by
  unfold rLenU
  rw [rd_len]
  apply propext
  constructor
  · rintro (⟨z', e, q⟩ | q)
    · cases e
    · exact q
  · intro q; exact .inr q
/-! further readings -/
def lcGo (J : It) (g : TG) (tt : TT) (te : TE) (vs : List Nat) (σ : L2.St) (H1 : Hp) (D : Addr) (Qd : Hp → Prop) : Prop := ∃ W : Nat → Nat → Hp → Prop, (∃ m, W 0 m (upd H1 D (.lst []))) ∧ ∀ i m H, W i m H →
  (J.stop i H ∧ Qd H) ∨ (J.go i H ∧ ∃ Nx : Hp → Prop, (∀ H', Nx H' → ∃ m', m' < m ∧ W (i + 1) m' H') ∧ ∀ x H', J.yld i H x H' → g x (wipe σ vs) H' fun σ2 H2 => wipe σ2 vs = wipe σ vs ∧ tt σ2 H2 fun b H3 =>
    if b = true then te σ2 H3 fun y H4 => ∃ acc, H4 D = some (.lst acc) ∧ acc.length < sizeLine ∧ Nx (upd H4 D (.lst (acc ++ [y]))) else Nx H3)
theorem rd_lcg {wi : TI} {g : TG} {tt : TT} {te : TE} {vs : List Nat} {σ : L2.St} {H : Hp} {Q : VK} : tLc wi g tt te vs σ H Q = wi σ H fun J H1 => ∀ D, Fresh H1 D → lcGo J g tt te vs σ H1 D (fun H2 => Q (.ref D) H2) := rfl
/-- a comprehension without tests whose items are told ahead; what was tracked stays -/
theorem go_lcm {J : It} {n : Nat} {G : Hp → Prop} {Y : Nat → Hp → V → Hp → Prop} (w : L2.Walk J n G Y) {g : TG} {te : TE} {vs : List Nat} {σ : L2.St} {H1 : Hp} {D : Addr} {Qd : Hp → Prop} (ys : List V) (hn : ys.length = n) (hz : n ≤ sizeLine) (hD : Fresh H1 D)
    (hG : ∀ H, Same H1 H → G H)
    (hs : ∀ (N : VK) i x H H', i < n → Same H1 H → Y i H x H' → (∀ y H4, ys[i]? = some y → Same H H4 → N y H4) → g x (wipe σ vs) H' fun σ2 H2 => wipe σ2 vs = wipe σ vs ∧ te σ2 H2 N)
    (hd : ∀ H, Same H1 H → H D = some (.lst ys) → Qd H) (mono : ∀ (A B : L2.St → Hp → Prop) x σ H, (∀ σ H, A σ H → B σ H) → g x σ H A → g x σ H B) : lcGo J g tYes te vs σ H1 D Qd := by
  refine lc_it w (fun i H => Same H1 H ∧ H D = some (.lst (ys.take i)) ∧ i ≤ n) ⟨Same_upd (Same.refl _) hD, by rw [upd_same, List.take_zero], Nat.zero_le _⟩ (fun i H _ h => hG H h.1) ?_ ?_
  · rintro i x H H' hi ⟨sm, hL, hin⟩ hY
    obtain ⟨y0, hy0⟩ : ∃ y, ys[i]? = some y := ⟨_, List.getElem?_eq_getElem (by omega)⟩
    refine mono _ _ _ _ _ ?_ (hs (fun y H4 => ∃ acc, H4 D = some (.lst acc) ∧ acc.length < sizeLine ∧ (Same H1 (upd H4 D (.lst (acc ++ [y]))) ∧ (upd H4 D (.lst (acc ++ [y]))) D = some (.lst (ys.take (i + 1))) ∧ i + 1 ≤ n)) i x H H' hi sm hY ?_)
    · rintro σ2 H2 ⟨e, h⟩
      refine ⟨e, ?_⟩
      unfold tYes
      dsimp only
      rw [if_pos rfl]
      exact h
    · intro y H4 hy s4
      refine ⟨ys.take i, s4 _ _ hL, by rw [List.length_take]; omega, Same_upd0 (sm.trans s4) hD, ?_, hi⟩
      rw [upd_same]
      obtain ⟨h1, h2⟩ := List.getElem?_eq_some_iff.mp hy
      rw [List.take_succ_eq_append_getElem h1, h2]
  · rintro H ⟨sm, hL, -⟩
    rw [List.take_of_length_le (by omega)] at hL
    exact hd H sm hL
theorem gName_mono {i : Nat} : ∀ (A B : L2.St → Hp → Prop) x σ H, (∀ σ H, A σ H → B σ H) → gName i x σ H A → gName i x σ H B := fun _ _ _ _ _ h q => h _ _ q
theorem rd_wipe0 {σ : L2.St} : wipe σ [] = σ := rfl
theorem rd_wipe1 {σ : L2.St} {v : Nat} {vs : List Nat} : wipe σ (v :: vs) = (wipe σ vs).set v none := rfl
def rAddT : R2 := fun x y H Q => ∃ i j, x = .str i ∧ y = .str j ∧ i.length + j.length ≤ sizeLine ∧ Q (.str (i ++ j)) H
theorem op_addT {X : Cx} : OpR X (binaryOp .Add) rAddT := op_add_str
theorem rd_addT {a b : Str} {H : Hp} {Q : VK} : rAddT (.str a) (.str b) H Q = (a.length + b.length ≤ sizeLine ∧ Q (.str (a ++ b)) H) := by
  unfold rAddT
  apply propext
  constructor
  · rintro ⟨i, j, e1, e2, q⟩; cases e1; cases e2; exact q
  · intro q; exact ⟨a, b, rfl, rfl, q⟩
theorem rd_ixS {z : Str} {i : Int} {H : Hp} {Q : VK} : rIxS (.str z) (.int i) H Q = ∃ c, z.length ≤ sizeLine ∧ atI z.cps.toList i = some c ∧ Q (.str ⟨#[c]⟩) H := by
  unfold rIxS
  apply propext
  constructor
  · rintro ⟨z', i', c, e1, e2, q⟩; cases e1; cases e2; exact ⟨c, q⟩
  · rintro ⟨c, q⟩; exact ⟨z, i, c, rfl, rfl, q⟩
theorem rd_ixT {K : PySem.W.Frag} {p : Addr} {i : Int} {H : Hp} {Q : VK} : rIxT K (.ref p) (.int i) H Q = ∃ xs v, SqT K H p xs ∧ atI xs i = some v ∧ Q v H := by
  unfold rIxT
  apply propext
  constructor
  · rintro ⟨p', xs, i', v, e1, e2, q⟩; cases e1; cases e2; exact ⟨xs, v, q⟩
  · rintro ⟨xs, v, q⟩; exact ⟨p, xs, i, v, rfl, rfl, q⟩
theorem rd_slS {z : Str} {lo hi : Option Int} {H : Hp} {Q : VK} : rSlS (.str z) lo hi H Q = (z.length ≤ sizeLine ∧ Q (.str (cutS z lo hi)) H) := by
  unfold rSlS
  apply propext
  constructor
  · rintro ⟨z', e, q⟩; cases e; exact q
  · intro q; exact ⟨z, rfl, q⟩
def rJoin (K : PySem.W.Frag) : V → List V → Hp → VK → Prop := fun x xs H Q => ∃ a p, ∃ ys : List Str, x = .str a ∧ xs = [.ref p] ∧ (SqL K H p (ys.map V.str) ∨ SqT K H p (ys.map V.str)) ∧
  (ys.map (·.length)).sum + ys.length * a.length ≤ 16777216 ∧ Q (.str (Txt.join a ys)) H
theorem mt_joinq {X : Cx} : MtR X "str.join" (rJoin X.K) := mt_join
theorem rd_M1 {r : V → List V → Hp → VK → Prop} {to te : TE} {σ : L2.St} {H : Hp} {Q : VK} : tM1 r to te σ H Q = to σ H fun x H1 => isStr x (fun _ => True) ∧ te σ H1 fun y H2 => r x [y] H2 Q := by
  unfold tM1
  apply congrArg
  funext x H1
  rw [show (∃ a, x = V.str a) = isStr x (fun _ => True) from by rw [← isStr_eq]; simp]
theorem rd_join {K : PySem.W.Frag} {a : Str} {p : Addr} {H : Hp} {Q : VK} : rJoin K (.str a) [.ref p] H Q = ∃ ys : List Str, (SqL K H p (ys.map V.str) ∨ SqT K H p (ys.map V.str)) ∧ (ys.map (·.length)).sum + ys.length * a.length ≤ 16777216 ∧ Q (.str (Txt.join a ys)) H := by
  unfold rJoin
  apply propext
  constructor
  · rintro ⟨a', p', ys, e1, e2, q⟩; cases e1; cases e2; exact ⟨ys, q⟩
  · rintro ⟨ys, q⟩; exact ⟨a, p, ys, rfl, rfl, q⟩
def rTupOf (K : PySem.W.Frag) : List V → Hp → VK → Prop := fun xs H Q => ∃ p ys, xs = [.ref p] ∧ ((SqL K H p ys ∧ ∀ l, H l = none → Q (.ref l) (upd H l (.tup ys))) ∨ (SqT K H p ys ∧ Q (.ref p) H))
theorem call_tupleq {X : Cx} : CallR X (.type "tuple") (rTupOf X.K) := call_tuple_of
theorem rd_tupOf {K : PySem.W.Frag} {p : Addr} {H : Hp} {Q : VK} : rTupOf K [.ref p] H Q = ∃ ys, ((SqL K H p ys ∧ ∀ l, Fresh H l → Q (.ref l) (upd H l (.tup ys))) ∨ (SqT K H p ys ∧ Q (.ref p) H)) := by
  unfold rTupOf
  apply propext
  constructor
  · rintro ⟨p', ys, e, q⟩; cases e; exact ⟨ys, q⟩
  · rintro ⟨ys, q⟩; exact ⟨p, ys, rfl, q⟩
def rListOf (K : PySem.W.Frag) : List V → Hp → VK → Prop := fun xs H Q => ∃ p ys, xs = [.ref p] ∧ (SqL K H p ys ∨ SqT K H p ys) ∧ ∀ l, H l = none → Q (.ref l) (upd H l (.lst ys))
theorem call_listq {X : Cx} : CallR X (.type "list") (rListOf X.K) := call_list_of
theorem rd_listOf {K : PySem.W.Frag} {p : Addr} {H : Hp} {Q : VK} : rListOf K [.ref p] H Q = ∃ ys, (SqL K H p ys ∨ SqT K H p ys) ∧ ∀ l, Fresh H l → Q (.ref l) (upd H l (.lst ys)) := by
  unfold rListOf
  apply propext
  constructor
  · rintro ⟨p', ys, e, q⟩; cases e; exact ⟨ys, q⟩
  · rintro ⟨ys, q⟩; exact ⟨p, ys, rfl, q⟩
theorem rd_gTup {K : PySem.W.Frag} {n : Nat} {t : TGs} {a : Addr} {σ : L2.St} {H : Hp} {R : L2.St → Hp → Prop} : gTup K n t (.ref a) σ H R = ∃ xs, SqT K H a xs ∧ xs.length = n ∧ t xs σ H R := by
  unfold gTup
  apply propext
  constructor
  · rintro ⟨a', xs, e, q⟩; cases e; exact ⟨xs, q⟩
  · rintro ⟨xs, q⟩; exact ⟨a, xs, rfl, q⟩
theorem rd_gCons {t : TG} {u : TGs} {v : V} {r : List V} {σ : L2.St} {H : Hp} {R : L2.St → Hp → Prop} : gCons t u (v :: r) σ H R = t v σ H fun σ' H' => u r σ' H' R := by
  unfold gCons
  apply propext
  constructor
  · rintro ⟨v', r', e, q⟩; cases e; exact q
  · intro q; exact ⟨v, r, rfl, q⟩
theorem rd_gNil {σ : L2.St} {H : Hp} {R : L2.St → Hp → Prop} : gNil [] σ H R = R σ H := by
  unfold gNil
  simp
theorem rd_isB {a b : Bool} {H : Hp} {Q : VK} : rIsB (.bl a) (.bl b) H Q = Q (.bl (decide (a = b))) H := by
  unfold rIsB
  apply propext
  constructor
  · rintro ⟨a', b', e1, e2, q⟩; cases e1; cases e2; exact q
  · intro q; exact ⟨a, b, rfl, rfl, q⟩
theorem rd_notB {a b : Bool} {H : Hp} {Q : VK} : rNotB (.bl a) (.bl b) H Q = Q (.bl (!decide (a = b))) H := by
  unfold rNotB
  apply propext
  constructor
  · rintro ⟨a', b', e1, e2, q⟩; cases e1; cases e2; exact q
  · intro q; exact ⟨a, b, rfl, rfl, q⟩
/-! texts by their code points -/
theorem S_item (c : Nat) : (⟨#[c]⟩ : Str) = SX.S [c] := rfl
theorem S_list (l : List Nat) : (SX.S l).cps.toList = l := by simp
theorem joinL_nil : ∀ ls : List (List Nat), TL.joinL [] ls = ls.flatten
  | [] => rfl
  | [p] => by simp [TL.joinL]
  | p :: q :: r => by
    rw [TL.joinL, joinL_nil (q :: r)]
    simp
theorem join_empty {e : Str} (he : e = SX.S []) (ls : List (List Nat)) : Txt.join e (ls.map SX.S) = SX.S ls.flatten := by
  rw [he, SX.join_S, joinL_nil]
theorem cut_S (l : List Nat) (lo hi : Option Int) : cutS (SX.S l) lo hi = SX.S ((l.drop (HT.sIx l.length 0 lo)).take (HT.sIx l.length l.length hi - HT.sIx l.length 0 lo)) := by
  unfold cutS
  rw [SX.S_len, S_list]
theorem lens_sum (ls : List (List Nat)) : ((ls.map SX.S).map (·.length)).sum = ls.flatten.length := by
  rw [SX.lens, List.length_flatten]
theorem own_nil : List.map (fun x : Str × Nat => x.2) [] = [] := rfl
theorem own_cons {a : Str} {n : Nat} {l : List (Str × Nat)} : List.map (fun x : Str × Nat => x.2) ((a, n) :: l) = n :: List.map (fun x : Str × Nat => x.2) l := rfl
theorem cut_hi {l : List V} {n : Int} (h0 : 0 ≤ n) : cutV l none (some n) = l.take n.toNat := by
  unfold cutV
  obtain ⟨z, rfl⟩ : ∃ z : Nat, n = (z : Int) := ⟨n.toNat, by omega⟩
  rw [HT.sIx_none, HT.sIx_nat, Int.toNat_natCast]
  simp only [List.drop_zero, Nat.sub_zero]
  by_cases h : z ≤ l.length
  · rw [Nat.min_eq_left h]
  · rw [Nat.min_eq_right (by omega), List.take_of_length_le (Nat.le_refl _), List.take_of_length_le (by omega)]
theorem cut_lo {l : List V} {n : Int} (h0 : 0 ≤ n) : cutV l (some n) none = l.drop n.toNat := by
  unfold cutV
  obtain ⟨z, rfl⟩ : ∃ z : Nat, n = (z : Int) := ⟨n.toNat, by omega⟩
  rw [HT.sIx_none, HT.sIx_nat, Int.toNat_natCast]
  by_cases h : z ≤ l.length
  · rw [Nat.min_eq_left h, List.take_of_length_le (by rw [List.length_drop]; omega)]
  · rw [Nat.min_eq_right (by omega), List.drop_of_length_le (Nat.le_refl _), List.drop_of_length_le (show l.length ≤ z by omega)]
    simp
theorem cut_span {l : List V} {a b : Int} (h0 : 0 ≤ a) (h1 : a ≤ b) : (cutV l (some a) (some b)).length ≤ (b - a).toNat := by
  unfold cutV
  obtain ⟨z, rfl⟩ : ∃ z : Nat, a = (z : Int) := ⟨a.toNat, by omega⟩
  obtain ⟨y, rfl⟩ : ∃ z : Nat, b = (z : Int) := ⟨b.toNat, by omega⟩
  rw [HT.sIx_nat, HT.sIx_nat, List.length_take, List.length_drop]
  omega
/-- a comprehension without tests; of each item a fact is known -/
theorem go_lcx {J : It} {n : Nat} {G : Hp → Prop} {Y : Nat → Hp → V → Hp → Prop} (w : L2.Walk J n G Y) {g : TG} {te : TE} {vs : List Nat} {σ : L2.St} {H1 : Hp} {D : Addr} {Qd : Hp → Prop} (F : Nat → V → Hp → Prop) (hz : n ≤ sizeLine) (hD : Fresh H1 D)
    (hG : ∀ H, Same H1 H → G H) (st : ∀ i y H H', F i y H → (∀ b o, b ≠ D → H b = some o → H' b = some o) → F i y H')
    (hs : ∀ (N : VK) i x H H', i < n → Same H1 H → Y i H x H' → (∀ y H4, Same H H4 → F i y H4 → N y H4) → g x (wipe σ vs) H' fun σ2 H2 => wipe σ2 vs = wipe σ vs ∧ te σ2 H2 N)
    (hd : ∀ H ys, Same H1 H → H D = some (.lst ys) → ys.length = n → (∀ i y, ys[i]? = some y → F i y H) → Qd H) (mono : ∀ (A B : L2.St → Hp → Prop) x σ H, (∀ σ H, A σ H → B σ H) → g x σ H A → g x σ H B) : lcGo J g tYes te vs σ H1 D Qd := by
  refine lc_it w (fun i H => Same H1 H ∧ i ≤ n ∧ ∃ ys, H D = some (.lst ys) ∧ ys.length = i ∧ ∀ j y, ys[j]? = some y → F j y H) ⟨Same_upd (Same.refl _) hD, Nat.zero_le _, [], upd_same, rfl, fun j y h => by simp at h⟩ (fun i H _ h => hG H h.1) ?_ ?_
  · rintro i x H H' hi ⟨sm, hin, ys, hL, hl, hF⟩ hY
    refine mono _ _ _ _ _ ?_ (hs (fun y H4 => ∃ acc, H4 D = some (.lst acc) ∧ acc.length < sizeLine ∧ (Same H1 (upd H4 D (.lst (acc ++ [y]))) ∧ i + 1 ≤ n ∧ ∃ zs, (upd H4 D (.lst (acc ++ [y]))) D = some (.lst zs) ∧ zs.length = i + 1 ∧ ∀ j y', zs[j]? = some y' → F j y' (upd H4 D (.lst (acc ++ [y]))))) i x H H' hi sm hY ?_)
    · rintro σ2 H2 ⟨e, h⟩
      refine ⟨e, ?_⟩
      unfold tYes
      dsimp only
      rw [if_pos rfl]
      exact h
    · intro y H4 s4 hy
      have up : ∀ b o, b ≠ D → H4 b = some o → upd H4 D (.lst (ys ++ [y])) b = some o := fun b o hb e => by rw [upd_ne hb]; exact e
      refine ⟨ys, s4 _ _ hL, by omega, Same_upd0 (sm.trans s4) hD, hi, _, upd_same, by rw [List.length_append, hl]; rfl, fun j y' h => ?_⟩
      by_cases hj : j < ys.length
      · rw [List.getElem?_append_left hj] at h
        exact st _ _ _ _ (hF j y' h) fun b o hb e => up b o hb (s4 b o e)
      · rw [List.getElem?_append_right (by omega)] at h
        have ej : j = i := by
          have h2 := (List.getElem?_eq_some_iff.mp h).1
          simp at h2
          omega
        subst ej
        rw [hl, Nat.sub_self] at h
        simp at h
        subst h
        exact st _ _ _ _ hy up
  · rintro H ⟨sm, -, ys, hL, hl, hF⟩
    exact hd H ys sm hL hl hF
end My
namespace My
open PySem PySem.Spec PyProof.Rows L2
/-- a comprehension with a test: R tells the items kept so far -/
theorem go_lcf {J : It} {n : Nat} {G : Hp → Prop} {Y : Nat → Hp → V → Hp → Prop} (w : L2.Walk J n G Y) {g : TG} {tt : TT} {te : TE} {vs : List Nat} {σ : L2.St} {H1 : Hp} {D : Addr} {Qd : Hp → Prop} (R : Nat → List V → Prop) (h0 : R 0 []) (hz : n ≤ sizeLine) (hR : ∀ i ys, R i ys → ys.length ≤ i) (hD : Fresh H1 D)
    (hG : ∀ H, Same H1 H → G H)
    (hs : ∀ (N : VK) (Z : Hp → Prop) i x ys H H', i < n → Same H1 H → R i ys → Y i H x H' → (∀ y H4, R (i + 1) (ys ++ [y]) → Same H H4 → N y H4) → (R (i + 1) ys → ∀ H4, Same H H4 → Z H4) →
      g x (wipe σ vs) H' fun σ2 H2 => wipe σ2 vs = wipe σ vs ∧ tt σ2 H2 fun b H3 => if b = true then te σ2 H3 N else Z H3)
    (hd : ∀ H ys, Same H1 H → H D = some (.lst ys) → R n ys → Qd H) : lcGo J g tt te vs σ H1 D Qd := by
  refine lc_it w (fun i H => Same H1 H ∧ ∃ ys, H D = some (.lst ys) ∧ R i ys) ⟨Same_upd (Same.refl _) hD, [], upd_same, h0⟩ (fun i H _ h => hG H h.1) ?_ ?_
  · rintro i x H H' hi ⟨sm, ys, hL, hr⟩ hY
    refine hs (fun y H4 => ∃ acc, H4 D = some (.lst acc) ∧ acc.length < sizeLine ∧ (Same H1 (upd H4 D (.lst (acc ++ [y]))) ∧ ∃ zs, (upd H4 D (.lst (acc ++ [y]))) D = some (.lst zs) ∧ R (i + 1) zs)) _ i x ys H H' hi sm hr hY ?_ ?_
    · intro y H4 hy s4
      have := hR i ys hr
      exact ⟨ys, s4 _ _ hL, by omega, Same_upd0 (sm.trans s4) hD, _, upd_same, hy⟩
    · intro hy H4 s4
      exact ⟨sm.trans s4, ys, s4 _ _ hL, hy⟩
  · rintro H ⟨sm, ys, hL, hr⟩
    exact hd H ys sm hL hr
theorem ix_listK (K : PySem.W.Frag) {X : Cx} (h : X.K = K) : IxR X (rIxL K) := h ▸ ix_list
theorem ix_tupK (K : PySem.W.Frag) {X : Cx} (h : X.K = K) : IxR X (rIxT K) := h ▸ ix_tup
theorem call_lenUK (K : PySem.W.Frag) {X : Cx} (h : X.K = K) : CallR X (.builtin "len") (rLenU K) := h ▸ call_lenU
theorem pg_tupK (K : PySem.W.Frag) {X : Cx} {pos : Pos} {es : List Expr} {k : Nat} {t : TGs} {n : Nat} (e : X.K = K) (hc : X.calm = true) (h : PGs X es t)
    (hn : (assignEach es X.env).length = n := by rfl) (hst : (assignEach es X.env).findIdx? (·.1) = none := by rfl) : PG X (.Tuple es k pos) (gTup K n t) := e ▸ pg_tup hc h hn hst
theorem op_eqDK (K : PySem.W.Frag) {X : Cx} (e : X.K = K) (hu : X.A.units + 64 < cLine) : OpR X (compareOp .Eq) (rEqD K) := e ▸ op_eqD hu
theorem op_neDK (K : PySem.W.Frag) {X : Cx} (e : X.K = K) (hu : X.A.units + 64 < cLine) : OpR X (compareOp .NotEq) (rNeD K) := e ▸ op_neD hu
end My
namespace My
open PySem PySem.W
theorem and_m1 (z : Int) : Builtin.bitAnd z (-1) = z := by
  show Spec.bitAnd z (-1) = z
  unfold Spec.bitAnd
  have h : decide ((0 : Int) ≤ -1) = false := by decide
  rw [h]
  cases e : decide (0 ≤ z) with
  | true =>
    have e' := of_decide_eq_true e
    have h2 : (Spec.bitNot (-1)).toNat = 0 := by decide
    simp [h2]
  | false =>
    have e' := of_decide_eq_false e
    have h2 : (Spec.bitNot (-1)).toNat = 0 := by decide
    simp only [h2, Nat.or_zero]
    unfold Spec.bitNot
    omega
theorem or_one (x : Int) : Builtin.bitOr x 1 = x + 1 - x % 2 := by
  have h : Builtin.bitOr x 1 = Spec.bitNot (Builtin.bitAnd (Spec.bitNot x) (Spec.bitNot 1)) := rfl
  have h1 : Spec.bitNot 1 = -2 := by decide
  rw [h, h1, kbt_halves]
  have h2 : (-2 : Int) / 2 = -1 := by decide
  have h3 : ¬ ((-2 : Int) % 2 = 1) := by decide
  rw [h2, and_m1, if_neg (fun c => h3 c.2)]
  unfold Spec.bitNot
  omega
def strideF (m : Int) : Int := Builtin.bitOr (m / 32) 1
def probeF (m s c : Int) : Int := Builtin.bitAnd (m + c * strideF m) (s - 1)
theorem strideF_eq (m : Int) : strideF m = m / 32 + 1 - m / 32 % 2 := or_one _
theorem probeF_eq (m c : Int) (k : Nat) : probeF m (2 ^ k) c = (m + c * strideF m) % 2 ^ k := kbt_mask _ k
/-- the slots of probes, one after the other -/
def slotI (m s : Int) : Nat → Int
  | 0 => Builtin.bitAnd m (s - 1)
  | i + 1 => Builtin.bitAnd (slotI m s i + strideF m) (s - 1)
def probesF (m s : Int) : List Int := (List.range s.toNat).map (slotI m s)
theorem slotI_eq (m : Int) (k : Nat) : ∀ i : Nat, slotI m (2 ^ k) i = (m + i * strideF m) % 2 ^ k
  | 0 => by
    rw [slotI, kbt_mask]
    simp
  | i + 1 => by
    rw [slotI, kbt_mask, slotI_eq m k i, Int.emod_add_emod]
    congr 1
    rw [Int.natCast_add, Int.add_mul, Int.add_assoc]
    simp
theorem pow_le {j n : Nat} (h : j ≤ n) : (0 : Int) < 2 ^ j ∧ (2 : Int) ^ j ≤ 2 ^ n := by
  have a : (2 : Nat) ^ j ≤ 2 ^ n := Nat.pow_le_pow_right (by decide) h
  have b : 0 < (2 : Nat) ^ j := Nat.pow_pos (by decide)
  have e : ((2 ^ j : Nat) : Int) = (2 : Int) ^ j := by norm_cast
  have e2 : ((2 ^ n : Nat) : Int) = (2 : Int) ^ n := by norm_cast
  omega
theorem pow8 (n : Nat) : (8 : Int) * 2 ^ n = 2 ^ (n + 3) := by
  rw [Int.pow_add, Int.mul_comm]
  rfl
/-- a slot is told by its count -/
theorem slot_of {m f st d S : Int} (h0 : 0 ≤ d) (h1 : d < S) (h : (m + f * st - d) % S = 0) : d = (m + f * st) % S := by
  have e : (m + f * st) % S = (m + f * st - d + d) % S := by rw [Int.sub_add_cancel]
  rw [e, Int.add_emod, h, Int.zero_add, Int.emod_emod, Int.emod_eq_of_lt h0 h1]
end My
namespace My
open PySem PySem.Spec PyProof.Rows L2
/-! things as data: keys (num, txt, tup), and what is none -/
inductive Ky where
  | num (i : Int) | txt (x : Str) | tup (ks : List Ky) | bl (b : Bool) | non | lst (n : Nat) | dct
mutual
def Ky.beq : Ky → Ky → Bool
  | .num i, .num j => decide (i = j)
  | .txt x, .txt y => decide (x = y)
  | .tup xs, .tup ys => Ky.beqs xs ys
  | .bl x, .bl y => decide (x = y)
  | .non, .non => true
  | .lst n, .lst m => decide (n = m)
  | .dct, .dct => true
  | _, _ => false
def Ky.beqs : List Ky → List Ky → Bool
  | [], [] => true
  | x :: xs, y :: ys => Ky.beq x y && Ky.beqs xs ys
  | [], _ :: _ => false
  | _ :: _, [] => false
end
mutual
theorem Ky.beq_iff : ∀ x y : Ky, Ky.beq x y = true ↔ x = y
  | .num i, y => by cases y <;> simp [Ky.beq]
  | .txt x, y => by cases y <;> simp [Ky.beq]
  | .tup xs, .tup ys => by
    rw [Ky.beq, Ky.beqs_iff xs ys]
    simp
  | .tup xs, .num _ => by simp [Ky.beq]
  | .tup xs, .txt _ => by simp [Ky.beq]
  | .tup xs, .bl _ => by simp [Ky.beq]
  | .tup xs, .non => by simp [Ky.beq]
  | .tup xs, .lst _ => by simp [Ky.beq]
  | .tup xs, .dct => by simp [Ky.beq]
  | .bl b, y => by cases y <;> simp [Ky.beq]
  | .non, y => by cases y <;> simp [Ky.beq]
  | .lst n, y => by cases y <;> simp [Ky.beq]
  | .dct, y => by cases y <;> simp [Ky.beq]
theorem Ky.beqs_iff : ∀ xs ys : List Ky, Ky.beqs xs ys = true ↔ xs = ys
  | [], [] => by simp [Ky.beqs]
  | x :: xs, y :: ys => by
    rw [Ky.beqs, Bool.and_eq_true, Ky.beq_iff x y, Ky.beqs_iff xs ys]
    simp
  | [], _ :: _ => by simp [Ky.beqs]
  | _ :: _, [] => by simp [Ky.beqs]
end
instance : DecidableEq Ky := fun x y => if h : Ky.beq x y = true then .isTrue ((Ky.beq_iff x y).mp h) else .isFalse fun e => h ((Ky.beq_iff x y).mpr e)
mutual
def Ky.good : Ky → Bool
  | .num _ => true
  | .txt x => PyData.strOk x
  | .tup ks => Ky.goods ks
  | _ => false
def Ky.goods : List Ky → Bool
  | [] => true
  | k :: ks => Ky.good k && Ky.goods ks
end
mutual
def Ky.toD : Ky → PyData
  | .num i => .int i
  | .txt x => .str x
  | .tup ks => .tuple (Ky.toDs ks)
  | _ => .none
def Ky.toDs : List Ky → List PyData
  | [] => []
  | k :: ks => Ky.toD k :: Ky.toDs ks
end
mutual
def Ky.dep : Ky → Nat
  | .tup ks => Ky.deps ks + 1
  | _ => 0
def Ky.deps : List Ky → Nat
  | [] => 0
  | k :: ks => max (Ky.dep k) (Ky.deps ks)
end
mutual
theorem Ky.eqv : ∀ x y : Ky, x.good = true → y.good = true → PyData.eqv x.toD y.toD = Ky.beq x y
  | .num i, .num j, _, _ => by
    simp only [Ky.toD, PyData.eqv, Ky.beq]
    exact Bool.beq_eq_decide_eq i j
  | .txt x, .txt y, _, _ => by
    simp only [Ky.toD, PyData.eqv, Ky.beq]
    exact Bool.beq_eq_decide_eq x y
  | .tup xs, .tup ys, h, g => by
    simp only [Ky.toD, PyData.eqv, Ky.beq]
    exact Ky.eqvs xs ys (by simpa [Ky.good] using h) (by simpa [Ky.good] using g)
  | .num _, .txt _, _, _ => by simp [Ky.toD, PyData.eqv, Ky.beq]
  | .num _, .tup _, _, _ => by simp [Ky.toD, PyData.eqv, Ky.beq]
  | .txt _, .num _, _, _ => by simp [Ky.toD, PyData.eqv, Ky.beq]
  | .txt _, .tup _, _, _ => by simp [Ky.toD, PyData.eqv, Ky.beq]
  | .tup _, .num _, _, _ => by simp [Ky.toD, PyData.eqv, Ky.beq]
  | .tup _, .txt _, _, _ => by simp [Ky.toD, PyData.eqv, Ky.beq]
  | .bl _, _, h, _ => by simp [Ky.good] at h
  | .non, _, h, _ => by simp [Ky.good] at h
  | .lst _, _, h, _ => by simp [Ky.good] at h
  | .dct, _, h, _ => by simp [Ky.good] at h
  | .num _, .bl _, _, h => by simp [Ky.good] at h
  | .num _, .non, _, h => by simp [Ky.good] at h
  | .num _, .lst _, _, h => by simp [Ky.good] at h
  | .num _, .dct, _, h => by simp [Ky.good] at h
  | .txt _, .bl _, _, h => by simp [Ky.good] at h
  | .txt _, .non, _, h => by simp [Ky.good] at h
  | .txt _, .lst _, _, h => by simp [Ky.good] at h
  | .txt _, .dct, _, h => by simp [Ky.good] at h
  | .tup _, .bl _, _, h => by simp [Ky.good] at h
  | .tup _, .non, _, h => by simp [Ky.good] at h
  | .tup _, .lst _, _, h => by simp [Ky.good] at h
  | .tup _, .dct, _, h => by simp [Ky.good] at h
theorem Ky.eqvs : ∀ xs ys : List Ky, Ky.goods xs = true → Ky.goods ys = true → PyData.eqvAll (Ky.toDs xs) (Ky.toDs ys) = Ky.beqs xs ys
  | [], [], _, _ => by simp [Ky.toDs, PyData.eqvAll, Ky.beqs]
  | x :: xs, y :: ys, h, g => by
    have h' : x.good = true ∧ Ky.goods xs = true := by simpa [Ky.goods] using h
    have g' : y.good = true ∧ Ky.goods ys = true := by simpa [Ky.goods] using g
    simp only [Ky.toDs, PyData.eqvAll, Ky.beqs]
    rw [Ky.eqv x y h'.1 g'.1, Ky.eqvs xs ys h'.2 g'.2]
  | [], _ :: _, _, _ => by simp [Ky.toDs, PyData.eqvAll, Ky.beqs]
  | _ :: _, [], _, _ => by simp [Ky.toDs, PyData.eqvAll, Ky.beqs]
end
mutual
theorem Ky.canLay : ∀ k : Ky, k.good = true → k.toD.canLay0 = true
  | .num _, _ => by simp [Ky.toD, PyData.canLay0]
  | .txt x, h => by
    have h' : PyData.strOk x = true := by simpa [Ky.good] using h
    simpa [Ky.toD, PyData.canLay0] using h'
  | .tup ks, h => by
    simp only [Ky.toD, PyData.canLay0]
    exact Ky.canLays ks (by simpa [Ky.good] using h)
  | .bl _, h => by simp [Ky.good] at h
  | .non, h => by simp [Ky.good] at h
  | .lst _, h => by simp [Ky.good] at h
  | .dct, h => by simp [Ky.good] at h
theorem Ky.canLays : ∀ ks : List Ky, Ky.goods ks = true → PyData.canLayAll0 (Ky.toDs ks) = true
  | [], _ => by simp [Ky.toDs, PyData.canLayAll0]
  | k :: ks, h => by
    have h' : k.good = true ∧ Ky.goods ks = true := by simpa [Ky.goods] using h
    simp only [Ky.toDs, PyData.canLayAll0, Ky.canLay k h'.1, Ky.canLays ks h'.2, Bool.and_self]
end
mutual
theorem Ky.depth_toD : ∀ k : Ky, k.toD.depth = k.dep
  | .tup ks => by
    simp only [Ky.toD, PyData.depth, Ky.dep]
    rw [Ky.depths_toD ks]
  | .num _ => by simp [Ky.toD, PyData.depth, Ky.dep]
  | .txt _ => by simp [Ky.toD, PyData.depth, Ky.dep]
  | .bl _ => by simp [Ky.toD, PyData.depth, Ky.dep]
  | .non => by simp [Ky.toD, PyData.depth, Ky.dep]
  | .lst _ => by simp [Ky.toD, PyData.depth, Ky.dep]
  | .dct => by simp [Ky.toD, PyData.depth, Ky.dep]
theorem Ky.depths_toD : ∀ ks : List Ky, PyData.depthAll (Ky.toDs ks) = Ky.deps ks
  | [] => by simp [Ky.toDs, PyData.depthAll, Ky.deps]
  | k :: ks => by
    simp only [Ky.toDs, PyData.depthAll, Ky.deps]
    rw [Ky.depth_toD k, Ky.depths_toD ks]
end
theorem Ky.shaped {k : Ky} (h : k.good = true) (d : k.dep ≤ 64) : SeqAt.shaped k.toD = true := by
  unfold SeqAt.shaped
  rw [Ky.canLay k h, Ky.depth_toD, decide_eq_true d]
  rfl
mutual
inductive KyAt (H : Hp) : V → Ky → Prop
  | num (i : Int) : KyAt H (.int i) (.num i)
  | txt (x : Str) : KyAt H (.str x) (.txt x)
  | tup {a : Addr} {xs : List V} {ks : List Ky} (h : H a = some (.tup xs)) (p : KysAt H xs ks) : KyAt H (.ref a) (.tup ks)
  | bl (b : Bool) : KyAt H (.bl b) (.bl b)
  | non : KyAt H .non .non
  | lst {a : Addr} {xs : List V} {n : Nat} (h : H a = some (.lst xs)) : KyAt H (.ref a) (.lst n)
  | dct {a : Addr} {kvs : List (Key × V)} (h : H a = some (.dK kvs)) : KyAt H (.ref a) .dct
inductive KysAt (H : Hp) : List V → List Ky → Prop
  | nil : KysAt H [] []
  | cons {v : V} {vs : List V} {k : Ky} {ks : List Ky} (h : KyAt H v k) (t : KysAt H vs ks) : KysAt H (v :: vs) (k :: ks)
end
section
variable {H H' : Hp} {K : PySem.W.Frag}
mutual
theorem KyAt.same (s : Same H H') : ∀ (k : Ky) (v : V), KyAt H v k → KyAt H' v k
  | .num i, _, h => by cases h; exact .num i
  | .txt x, _, h => by cases h; exact .txt x
  | .tup ks, _, h => by
    cases h with
    | tup h p => exact .tup (s _ _ h) (KysAt.same s ks _ p)
  | .bl b, _, h => by cases h; exact .bl b
  | .non, _, h => by cases h; exact .non
  | .lst n, _, h => by
    cases h with
    | lst h => exact .lst (s _ _ h)
  | .dct, _, h => by
    cases h with
    | dct h => exact .dct (s _ _ h)
theorem KysAt.same (s : Same H H') : ∀ (ks : List Ky) (vs : List V), KysAt H vs ks → KysAt H' vs ks
  | [], _, h => by cases h; exact .nil
  | k :: ks, _, h => by
    cases h with
    | cons h t => exact .cons (KyAt.same s k _ h) (KysAt.same s ks _ t)
end
mutual
theorem KyAt.dp : ∀ (k : Ky) (v : V), k.good = true → KyAt H v k → Dp K H v k.toD
  | .num i, _, _, h => by cases h; rw [Ky.toD]; exact .int i
  | .txt x, _, _, h => by cases h; rw [Ky.toD]; exact .str x
  | .tup ks, _, g, h => by
    cases h with
    | tup h p => rw [Ky.toD]; exact .tup (SqT.of h) (KysAt.dp ks _ (by simpa [Ky.good] using g) p)
  | .bl _, _, g, _ => by simp [Ky.good] at g
  | .non, _, g, _ => by simp [Ky.good] at g
  | .lst _, _, g, _ => by simp [Ky.good] at g
  | .dct, _, g, _ => by simp [Ky.good] at g
theorem KysAt.dp : ∀ (ks : List Ky) (vs : List V), Ky.goods ks = true → KysAt H vs ks → DpAll K H vs (Ky.toDs ks)
  | [], _, _, h => by cases h; rw [Ky.toDs]; exact .nil
  | k :: ks, _, g, h => by
    have g' : k.good = true ∧ Ky.goods ks = true := by simpa [Ky.goods] using g
    cases h with
    | cons h t => rw [Ky.toDs]; exact .cons (KyAt.dp k _ g'.1 h) (KysAt.dp ks _ g'.2 t)
end
theorem KysAt.len : ∀ {ks : List Ky} {vs : List V}, KysAt H vs ks → vs.length = ks.length
  | [], _, h => by cases h; rfl
  | k :: ks, _, h => by
    cases h with
    | cons h t => simp [KysAt.len t]
theorem KysAt.get : ∀ {ks : List Ky} {vs : List V} {i : Nat} {v : V}, KysAt H vs ks → vs[i]? = some v → ∃ k, ks[i]? = some k ∧ KyAt H v k
  | [], _, _, _, h, e => by cases h; simp at e
  | k :: ks, _, 0, v, h, e => by
    cases h with
    | cons h t =>
      simp at e
      subst e
      exact ⟨k, rfl, h⟩
  | k :: ks, _, i + 1, v, h, e => by
    cases h with
    | cons h t =>
      obtain ⟨k', e', h'⟩ := KysAt.get (i := i) t (by simpa using e)
      exact ⟨k', by simpa using e', h'⟩
theorem KysAt.append : ∀ {ks ls : List Ky} {vs ws : List V}, KysAt H vs ks → KysAt H ws ls → KysAt H (vs ++ ws) (ks ++ ls)
  | [], _, _, _, h, q => by cases h; exact q
  | k :: ks, _, _, _, h, q => by
    cases h with
    | cons h t => exact .cons h (KysAt.append t q)
/-- two keys compared -/
theorem eq_keys {v w : V} {k l : Ky} {Q : VK} (hv : KyAt H v k) (hw : KyAt H w l) (gk : k.good = true) (gl : l.good = true) (dk : k.dep ≤ 64) (dl : l.dep ≤ 64) (q : Q (.bl (decide (k = l))) H) : rEqD K v w H Q := by
  refine ⟨k.toD, l.toD, KyAt.dp k v gk hv, KyAt.dp l w gl hw, Ky.shaped gk dk, Ky.shaped gl dl, ?_⟩
  rw [Ky.eqv _ _ gk gl]
  have e : Ky.beq k l = decide (k = l) := by
    cases h : Ky.beq k l with
    | true => exact (decide_eq_true ((Ky.beq_iff k l).mp h)).symm
    | false => exact (decide_eq_false fun c => by rw [(Ky.beq_iff k l).mpr c] at h; cases h).symm
  rw [e]
  exact q
end
/-! the stamp -/
abbrev TURN : Int := 2147483647
def stampT (l : List Nat) : Int := l.foldl (fun (h : Int) (c : Nat) => (31 * h + c) % 2147483647) 7
mutual
def Ky.stamp : Ky → Int
  | .num i => i % 2147483647
  | .txt x => stampT x.cps.toList
  | .tup ks => Ky.stamps 11 ks
  | _ => 0
def Ky.stamps : Int → List Ky → Int
  | h, [] => h
  | h, k :: ks => Ky.stamps (Builtin.bitXor (1000003 * h) (Ky.stamp k) % 2147483647) ks
end
theorem stampT_range (l : List Nat) : 0 ≤ stampT l ∧ stampT l < 2147483647 := by
  have h : ∀ (l : List Nat) (a : Int), 0 ≤ a → a < 2147483647 → 0 ≤ l.foldl (fun (h : Int) (c : Nat) => (31 * h + c) % 2147483647) a ∧ l.foldl (fun (h : Int) (c : Nat) => (31 * h + c) % 2147483647) a < 2147483647 := by
    intro l
    induction l with
    | nil => intro a h0 h1; exact ⟨h0, h1⟩
    | cons c l ih => intro a h0 h1; exact ih _ (Int.emod_nonneg _ (by decide)) (Int.emod_lt_of_pos _ (by decide))
  exact h l 7 (by decide) (by decide)
theorem stamps_range : ∀ (ks : List Ky) (a : Int), 0 ≤ a → a < 2147483647 → 0 ≤ Ky.stamps a ks ∧ Ky.stamps a ks < 2147483647
  | [], a, h0, h1 => by rw [Ky.stamps]; exact ⟨h0, h1⟩
  | k :: ks, a, h0, h1 => by rw [Ky.stamps]; exact stamps_range ks _ (by omega) (by omega)
theorem stamp_range : ∀ k : Ky, 0 ≤ k.stamp ∧ k.stamp < 2147483647
  | .num i => by rw [Ky.stamp]; omega
  | .txt x => by rw [Ky.stamp]; exact stampT_range _
  | .tup ks => by rw [Ky.stamp]; exact stamps_range ks 11 (by decide) (by decide)
  | .bl _ => by simp [Ky.stamp]
  | .non => by simp [Ky.stamp]
  | .lst _ => by simp [Ky.stamp]
  | .dct => by simp [Ky.stamp]
theorem stampT_step {l : List Nat} {i c : Nat} (h : l[i]? = some c) : stampT (l.take (i + 1)) = (31 * stampT (l.take i) + c) % 2147483647 := by
  obtain ⟨hi, e⟩ := List.getElem?_eq_some_iff.mp h
  unfold stampT
  rw [List.take_succ_eq_append_getElem hi, List.foldl_append, e]
  rfl
theorem stamps_append : ∀ (a : Int) (xs ys : List Ky), Ky.stamps a (xs ++ ys) = Ky.stamps (Ky.stamps a xs) ys
  | a, [], ys => by simp [Ky.stamps]
  | a, x :: xs, ys => by
    rw [List.cons_append, Ky.stamps, Ky.stamps]
    exact stamps_append _ xs ys
theorem stamps_step {ks : List Ky} {i : Nat} {k : Ky} (a : Int) (h : ks[i]? = some k) : Ky.stamps a (ks.take (i + 1)) = Builtin.bitXor (1000003 * Ky.stamps a (ks.take i)) k.stamp % 2147483647 := by
  obtain ⟨hi, e⟩ := List.getElem?_eq_some_iff.mp h
  rw [List.take_succ_eq_append_getElem hi, stamps_append, e, Ky.stamps, Ky.stamps]
theorem dep_of_mem : ∀ {ks : List Ky} {i : Nat} {k : Ky}, ks[i]? = some k → k.dep ≤ Ky.deps ks
  | [], i, k, h => by simp at h
  | x :: xs, 0, k, h => by
    simp at h
    subst h
    rw [Ky.deps]
    omega
  | x :: xs, i + 1, k, h => by
    have := dep_of_mem (ks := xs) (i := i) (k := k) (by simpa using h)
    rw [Ky.deps]
    omega
/-- stamp of a key so deep -/
def spStamp (n : Nat) : Sp := fun vs H Q _ => ∃ v k, vs = [v] ∧ KyAt H v k ∧ (k.good = true ∧ k.dep ≤ n) ∧ Q (.int k.stamp) H
theorem rd_spStamp {n : Nat} {v : V} {H : Hp} {Q : VK} {E : XK} : spStamp n [v] H Q E = ∃ k, KyAt H v k ∧ (k.good = true ∧ k.dep ≤ n) ∧ Q (.int k.stamp) H := by
  unfold spStamp
  apply propext
  constructor
  · rintro ⟨v', k, e, q⟩; cases e; exact ⟨k, q⟩
  · rintro ⟨k, q⟩; exact ⟨v, k, rfl, q⟩
theorem len_stamp {n : Nat} {vs H Q E} (h : spStamp n vs H Q E) : vs.length = 1 := by obtain ⟨_, _, rfl, _⟩ := h; rfl
def rOrd : List V → Hp → VK → Prop := fun xs H Q => ∃ x : Str, xs = [.str x] ∧ x.length = 1 ∧ Q (.int (x.cps.getD 0 0 : Nat)) H
theorem call_ordq {X : Cx} : CallR X (.builtin "ord") rOrd := call_ord
theorem rd_ord {c : Nat} {H : Hp} {Q : VK} : rOrd [.str ⟨#[c]⟩] H Q = Q (.int c) H := by
  unfold rOrd
  apply propext
  constructor
  · rintro ⟨x, e, _, q⟩; cases e; exact q
  · intro q; exact ⟨_, rfl, rfl, q⟩
/-! what is a key -/
def within : Nat → Ky → Bool
  | _, .num i => decide (-(10 ^ 60) < i ∧ i < 10 ^ 60)
  | _, .txt x => decide (x.length ≤ 60)
  | 0, .tup _ => false
  | d + 1, .tup ks => decide (ks.length ≤ 6) && ks.all (within d)
  | _, _ => false
mutual
def Ky.fit : Ky → Bool
  | .txt x => decide (x.length ≤ 16777216)
  | .tup ks => Ky.fits ks
  | _ => true
def Ky.fits : List Ky → Bool
  | [] => true
  | k :: ks => Ky.fit k && Ky.fits ks
end
theorem fits_get : ∀ {ks : List Ky} {i : Nat} {k : Ky}, Ky.fits ks = true → ks[i]? = some k → k.fit = true
  | [], i, k, _, h => by simp at h
  | x :: xs, 0, k, g, h => by
    have g' : x.fit = true ∧ Ky.fits xs = true := by simpa [Ky.fits] using g
    simp at h
    subst h
    exact g'.1
  | x :: xs, i + 1, k, g, h => by
    have g' : x.fit = true ∧ Ky.fits xs = true := by simpa [Ky.fits] using g
    exact fits_get (ks := xs) (i := i) g'.2 (by simpa using h)
def spWithin (n : Nat) : Sp := fun vs H Q _ => ∃ (v : V) (k : Ky) (d : Nat), vs = [v, .int d] ∧ KyAt H v k ∧ (k.fit = true ∧ d ≤ n) ∧ Q (.bl (within d k)) H
theorem len_within {n : Nat} {vs H Q E} (h : spWithin n vs H Q E) : vs.length = 2 := by obtain ⟨_, _, _, rfl, _⟩ := h; rfl
def spKeyB : Sp := fun vs H Q _ => ∃ (v : V) (k : Ky), vs = [v] ∧ KyAt H v k ∧ k.fit = true ∧ Q (.bl (within 3 k)) H
theorem len_keyB {vs H Q E} (h : spKeyB vs H Q E) : vs.length = 1 := by obtain ⟨_, _, rfl, _⟩ := h; rfl
theorem goods_get : ∀ {ks : List Ky} {i : Nat} {k : Ky}, Ky.goods ks = true → ks[i]? = some k → k.good = true
  | [], i, k, _, h => by simp at h
  | x :: xs, 0, k, g, h => by
    have g' : x.good = true ∧ Ky.goods xs = true := by simpa [Ky.goods] using g
    simp at h
    subst h
    exact g'.1
  | x :: xs, i + 1, k, g, h => by
    have g' : x.good = true ∧ Ky.goods xs = true := by simpa [Ky.goods] using g
    exact goods_get (ks := xs) (i := i) g'.2 (by simpa using h)
theorem goods_append : ∀ {xs ys : List Ky}, Ky.goods xs = true → Ky.goods ys = true → Ky.goods (xs ++ ys) = true
  | [], _, _, h => h
  | x :: xs, ys, g, h => by
    have g' : x.good = true ∧ Ky.goods xs = true := by simpa [Ky.goods] using g
    rw [List.cons_append, Ky.goods, g'.1, goods_append g'.2 h]
    rfl
theorem nums_at {H : Hp} : ∀ ns : List Int, KysAt H (ns.map V.int) (ns.map Ky.num)
  | [] => .nil
  | n :: ns => .cons (.num n) (nums_at ns)
theorem within_mono : ∀ {d e : Nat}, d ≤ e → ∀ k : Ky, within d k = true → within e k = true
  | d, e, h, .num i, q => by cases d <;> cases e <;> simpa [within] using q
  | d, e, h, .txt x, q => by cases d <;> cases e <;> simpa [within] using q
  | 0, e, h, .tup ks, q => by simp [within] at q
  | d + 1, 0, h, .tup ks, q => by omega
  | d + 1, e + 1, h, .tup ks, q => by
    simp only [within, Bool.and_eq_true, List.all_eq_true] at q ⊢
    exact ⟨q.1, fun y hy => within_mono (by omega) y (q.2 y hy)⟩
  | d, e, h, .bl b, q => by cases d <;> simp [within] at q
  | d, e, h, .non, q => by cases d <;> simp [within] at q
  | d, e, h, .lst n, q => by cases d <;> simp [within] at q
  | d, e, h, .dct, q => by cases d <;> simp [within] at q
section
variable {H H' : Hp} {D : Addr} {xs0 : List V}
mutual
/-- a key's tuples stay where a list is changed -/
theorem KyAt.but (k : ∀ b o, b ≠ D → H b = some o → H' b = some o) (e : H D = some (.lst xs0)) : ∀ (y : Ky) (v : V), y.good = true → KyAt H v y → KyAt H' v y
  | .num i, _, _, h => by cases h; exact .num i
  | .txt x, _, _, h => by cases h; exact .txt x
  | .tup ks, _, g, h => by
    cases h with
    | tup h p => exact .tup (k _ _ (ne_of h e (by intro z; cases z)) h) (KysAt.but' k e ks _ (by simpa [Ky.good] using g) p)
  | .bl _, _, g, _ => by simp [Ky.good] at g
  | .non, _, g, _ => by simp [Ky.good] at g
  | .lst _, _, g, _ => by simp [Ky.good] at g
  | .dct, _, g, _ => by simp [Ky.good] at g
theorem KysAt.but' (k : ∀ b o, b ≠ D → H b = some o → H' b = some o) (e : H D = some (.lst xs0)) : ∀ (ks : List Ky) (vs : List V), Ky.goods ks = true → KysAt H vs ks → KysAt H' vs ks
  | [], _, _, h => by cases h; exact .nil
  | y :: ks, _, g, h => by
    have g' : y.good = true ∧ Ky.goods ks = true := by simpa [Ky.goods] using g
    cases h with
    | cons h t => exact .cons (KyAt.but k e y _ g'.1 h) (KysAt.but' k e ks _ g'.2 t)
end
end
end My
namespace My
open PySem PySem.Spec PyProof.Rows L2
/-- the ninety-four signs -/
def signs : List Nat := [32, 33, 34, 35, 36, 38, 39, 40, 41, 42, 43, 44, 45, 46, 47, 48, 49, 50, 51, 52, 53, 54, 55, 56, 57, 58, 59, 60, 61, 62, 63, 64, 65, 66, 67, 68, 69, 70, 71, 72, 73, 74, 75, 76, 77, 78, 79, 80, 81, 82, 83, 84, 85, 86, 87, 88, 89, 90, 91, 92, 93, 94, 95, 96, 97, 98, 99, 100, 101, 102, 103, 104, 105, 106, 107, 108, 109, 110, 111, 112, 113, 114, 115, 116, 117, 118, 119, 120, 121, 122, 123, 124, 125, 126]
theorem signs_len : signs.length = 94 := rfl
theorem signs_ok : ∀ c ∈ signs, 32 ≤ c ∧ c ≤ 126 := by decide
def signAt (n : Int) : Nat := signs.getD n.toNat 0
theorem signAt_some {n : Int} (h0 : 0 ≤ n) (h1 : n < 94) : atI signs n = some (signAt n) := by
  obtain ⟨j, rfl⟩ : ∃ j : Nat, n = (j : Int) := ⟨n.toNat, by omega⟩
  have hj : j < signs.length := by rw [signs_len]; omega
  refine atI_nat ?_
  unfold signAt
  rw [Int.toNat_natCast, List.getD_eq_getElem?_getD, List.getElem?_eq_getElem hj]
  rfl
theorem signAt_ok {n : Int} (h0 : 0 ≤ n) (h1 : n < 94) : 32 ≤ signAt n ∧ signAt n ≤ 126 := by
  have hj : n.toNat < signs.length := by rw [signs_len]; omega
  unfold signAt
  rw [List.getD_eq_getElem?_getD, List.getElem?_eq_getElem hj]
  exact signs_ok _ (List.getElem_mem hj)
def codesOk (l : List Nat) : Prop := ∀ c ∈ l, 32 ≤ c ∧ c ≤ 126
theorem strOk_of {l : List Nat} (h : codesOk l) : PyData.strOk (SX.S l) = true := by
  show (SX.S l).cps.all (· < 0x110000) = true
  rw [← Array.all_toList]
  rw [List.all_eq_true]
  intro c hc
  have := h c (by simpa using hc)
  exact decide_eq_true (by omega)
theorem signs_text : (Str.ofString " !\"#$&'()*+,-./0123456789:;<=>?@ABCDEFGHIJKLMNOPQRSTUVWXYZ[\\]^_`" ++ Str.ofString "abcdefghijklmnopqrstuvwxyz{|}~" : Str) = SX.S signs := by decide +kernel
theorem signAt_val {n : Int} (h0 : 0 ≤ n) (h1 : n < 94) : (signAt n : Int) = if n < 5 then n + 32 else n + 33 := by
  obtain ⟨j, rfl⟩ : ∃ j : Nat, n = (j : Int) := ⟨n.toNat, by omega⟩
  have h : (List.range 94).all (fun j => decide ((signAt (j : Int) : Int) = if (j : Int) < 5 then (j : Int) + 32 else (j : Int) + 33)) = true := by decide +kernel
  exact of_decide_eq_true ((List.all_eq_true.mp h) j (List.mem_range.mpr (by omega)))
/-- a row of signs by numbers -/
def rowS (cs : List Int) : List Nat := cs.map fun n => signAt (n % 94)
theorem rowS_ok (cs : List Int) : codesOk (rowS cs) := by
  intro c hc
  obtain ⟨n, _, rfl⟩ := List.mem_map.mp hc
  exact signAt_ok (Int.emod_nonneg _ (by decide)) (Int.emod_lt_of_pos _ (by decide))
theorem rowS_len (cs : List Int) : (rowS cs).length = cs.length := List.length_map _
/-- single signs -/
theorem flat_one : ∀ l : List Nat, (l.map fun c => [c]).flatten = l
  | [] => rfl
  | c :: l => by rw [List.map_cons, List.flatten_cons, flat_one l]; rfl
theorem ones_str (l : List Nat) : (l.map fun c => V.str ⟨#[c]⟩) = ((l.map fun c => [c]).map SX.S).map V.str := by
  rw [List.map_map, List.map_map]
  rfl
theorem empty_S : Str.ofString "" = SX.S [] := by decide +kernel
/-- the join of a list of single signs -/
theorem join_ones {K : PySem.W.Frag} {H : Hp} {p : Addr} {l : List Nat} {R : List Str → Prop} (h : SqL K H p (l.map fun c => V.str ⟨#[c]⟩)) (hz : l.length ≤ 1000) (q : ∀ ys, Txt.join (Str.ofString "") ys = SX.S l → R ys) :
    ∃ ys : List Str, (SqL K H p (ys.map V.str) ∨ SqT K H p (ys.map V.str)) ∧ (ys.map (·.length)).sum + ys.length * (Str.ofString "").length ≤ 16777216 ∧ R ys := by
  refine ⟨(l.map fun c => [c]).map SX.S, .inl (by rw [← ones_str]; exact h), ?_, q _ ?_⟩
  · rw [lens_sum, flat_one, empty_S, SX.S_len]
    simp
    omega
  · rw [join_empty empty_S, flat_one]
theorem stampT_cons {a b c d : Nat} {h t : List Nat} (e : 31 * (a : Int) + b = 31 * (c : Int) + d) : stampT (h ++ [a, b] ++ t) = stampT (h ++ [c, d] ++ t) := by
  unfold stampT
  rw [List.foldl_append, List.foldl_append, List.foldl_append, List.foldl_append]
  congr 1
  simp only [List.foldl_cons, List.foldl_nil]
  generalize List.foldl (fun (h : Int) (c : Nat) => (31 * h + c) % 2147483647) 7 h = x
  omega
theorem codesOk_append {a b : List Nat} (h : codesOk a) (g : codesOk b) : codesOk (a ++ b) := fun c hc => (List.mem_append.mp hc).elim (h c) (g c)
theorem codesOk_take {a : List Nat} (h : codesOk a) (n : Nat) : codesOk (a.take n) := fun c hc => h c (List.mem_of_mem_take hc)
theorem codesOk_drop {a : List Nat} (h : codesOk a) (n : Nat) : codesOk (a.drop n) := fun c hc => h c (List.mem_of_mem_drop hc)
theorem codesOk_two {a b : Nat} (h : 32 ≤ a ∧ a ≤ 126) (g : 32 ≤ b ∧ b ≤ 126) : codesOk [a, b] := fun c hc => by
  rcases List.mem_cons.mp hc with rfl | hc
  · exact h
  · rcases List.mem_cons.mp hc with rfl | hc
    · exact g
    · cases hc
theorem S_ne {a b : List Nat} (h : a ≠ b) : SX.S a ≠ SX.S b := fun e => h (SX.S_inj e)
end My
namespace My
open PySem PySem.Spec PyProof.Rows L2
/-- the count of a slot -/
def spWhen : Sp := fun vs H Q _ => ∃ (m : Int) (j : Nat) (s : Int), vs = [.int m, .int (2 ^ j), .int s] ∧ (3 ≤ j ∧ j ≤ 12) ∧ (0 ≤ m ∧ m < 2147483647) ∧ (0 ≤ s ∧ s < 2 ^ j) ∧
  ∀ f : Int, 0 ≤ f → f < 2 ^ j → (m + f * strideF m - s) % 2 ^ j = 0 → Q (.int f) H
theorem len_when {vs H Q E} (h : spWhen vs H Q E) : vs.length = 3 := by obtain ⟨_, _, _, rfl, _⟩ := h; rfl
/-- 2^r divides 1 - s * b -/
def Inv2 (s b : Int) (r : Nat) : Prop := ∃ t, 1 - s * b = 2 ^ r * t
theorem inv2_mono {s b : Int} {r q : Nat} (h : Inv2 s b r) (l : q ≤ r) : Inv2 s b q := by
  obtain ⟨t, e⟩ := h
  obtain ⟨d, rfl⟩ : ∃ d, r = q + d := ⟨r - q, by omega⟩
  exact ⟨2 ^ d * t, by rw [e, Int.pow_add, Int.mul_assoc]⟩
theorem inv2_mod {s b : Int} {r j : Nat} (h : Inv2 s b r) (l : r ≤ j) : Inv2 s (b % 2 ^ j) r := by
  obtain ⟨t, e⟩ := h
  obtain ⟨d, rfl⟩ : ∃ d, j = r + d := ⟨j - r, by omega⟩
  refine ⟨t + s * (2 ^ d * (b / 2 ^ (r + d))), ?_⟩
  have e2 : b % 2 ^ (r + d) = b - 2 ^ (r + d) * (b / 2 ^ (r + d)) := Int.emod_def _ _
  have e3 : (2 : Int) ^ (r + d) * (b / 2 ^ (r + d)) = 2 ^ r * (2 ^ d * (b / 2 ^ (r + d))) := by
    rw [← Int.mul_assoc, ← Int.pow_add]
  rw [e2, e3, Int.mul_sub, Int.mul_add, Int.mul_left_comm s]
  omega
theorem inv2_start {s : Int} (h : s % 2 = 1) : Inv2 s s 3 := by
  have h4 : s % 8 = 1 ∨ s % 8 = 3 ∨ s % 8 = 5 ∨ s % 8 = 7 := by omega
  have e := Int.emod_def s 8
  have hs : s = 8 * (s / 8) + s % 8 := by omega
  generalize s / 8 = q at hs
  generalize s % 8 = r at hs h4
  refine ⟨-(8 * (q * q) + 2 * (q * r)) + (1 - r * r) / 8, ?_⟩
  subst hs
  have x : (8 * q + r) * (8 * q + r) = 64 * (q * q) + 16 * (q * r) + r * r := by
    grind
  rw [x]
  rcases h4 with rfl | rfl | rfl | rfl <;> simp <;> omega
theorem inv2_step {s b : Int} {r : Nat} (h : Inv2 s b r) : Inv2 s (b * (2 - s * b)) (2 * r) := by
  obtain ⟨t, e⟩ := h
  refine ⟨t * t, ?_⟩
  have e2 : s * b = 1 - 2 ^ r * t := by omega
  have e3 : s * (b * (2 - s * b)) = (1 - 2 ^ r * t) * (1 + 2 ^ r * t) := by
    rw [← Int.mul_assoc, e2]
    congr 1
    omega
  rw [e3]
  have e4 : (2 : Int) ^ (2 * r) = 2 ^ r * 2 ^ r := by rw [Nat.two_mul, Int.pow_add]
  rw [e4]
  generalize (2 : Int) ^ r = x
  grind
/-- the end -/
theorem inv2_end {m s b d : Int} {j : Nat} (h : Inv2 s b j) (z : (0 : Int) < 2 ^ j) : (m + (d - m) * b % 2 ^ j * s - d) % 2 ^ j = 0 := by
  obtain ⟨t, e⟩ := h
  have e2 : (d - m) * b % 2 ^ j = (d - m) * b - 2 ^ j * ((d - m) * b / 2 ^ j) := Int.emod_def _ _
  rw [e2]
  generalize (d - m) * b / 2 ^ j = q
  generalize (2 : Int) ^ j = x at e
  have e3 : m + ((d - m) * b - x * q) * s - d = x * ((m - d) * t - q * s) := by grind
  rw [e3, Int.mul_emod_right]
end My
namespace My
open PySem PySem.Spec PyProof.Rows L2
structure KOk (d : Nat) (k : Ky) : Prop where
  w : within d k = true
  g : k.good = true
  f : k.fit = true
  d : k.dep ≤ d
abbrev KeyOk := KOk 3
theorem KOk.mono {d e : Nat} {k : Ky} (p : KOk d k) (h : d ≤ e) : KOk e k := ⟨within_mono h _ p.w, p.g, p.f, Nat.le_trans p.d h⟩
theorem goods_of : ∀ {ks : List Ky}, (∀ k ∈ ks, k.good = true) → Ky.goods ks = true
  | [], _ => by simp [Ky.goods]
  | k :: ks, h => by rw [Ky.goods, h k List.mem_cons_self, goods_of fun y hy => h y (List.mem_cons_of_mem _ hy)]; rfl
theorem fits_of : ∀ {ks : List Ky}, (∀ k ∈ ks, k.fit = true) → Ky.fits ks = true
  | [], _ => by simp [Ky.fits]
  | k :: ks, h => by rw [Ky.fits, h k List.mem_cons_self, fits_of fun y hy => h y (List.mem_cons_of_mem _ hy)]; rfl
theorem deps_of {d : Nat} : ∀ {ks : List Ky}, (∀ k ∈ ks, k.dep ≤ d) → Ky.deps ks ≤ d
  | [], _ => by simp [Ky.deps]
  | k :: ks, h => by
    have a := h k List.mem_cons_self
    have b := deps_of (ks := ks) fun y hy => h y (List.mem_cons_of_mem _ hy)
    rw [Ky.deps]
    omega
theorem KOk.tup {d : Nat} {ks : List Ky} (h : ∀ k ∈ ks, KOk d k) (z : ks.length ≤ 6) : KOk (d + 1) (.tup ks) := by
  refine ⟨?_, ?_, ?_, ?_⟩
  · simp only [within]
    rw [decide_eq_true z, Bool.true_and, List.all_eq_true]
    exact fun k hk => (h k hk).w
  · rw [Ky.good]; exact goods_of fun k hk => (h k hk).g
  · rw [Ky.fit]; exact fits_of fun k hk => (h k hk).f
  · rw [Ky.dep]
    have := deps_of (d := d) fun k hk => (h k hk).d
    omega
theorem KOk.num {d : Nat} {i : Int} (b : -(10 ^ 60) < i ∧ i < 10 ^ 60) : KOk d (.num i) := ⟨by cases d <;> (simp only [within]; exact decide_eq_true b), by simp [Ky.good], by simp [Ky.fit], by simp [Ky.dep]⟩
theorem KOk.txt {d : Nat} {l : List Nat} (c : codesOk l) (z : l.length ≤ 60) : KOk d (.txt (SX.S l)) := by
  refine ⟨?_, ?_, ?_, by simp [Ky.dep]⟩
  · cases d <;> (simp only [within]; exact decide_eq_true (by rw [SX.S_len]; exact z))
  · simp only [Ky.good]; exact strOk_of c
  · simp only [Ky.fit]; exact decide_eq_true (by rw [SX.S_len]; omega)
/-- a text of so many signs -/
def spText : Sp := fun vs H Q _ => ∃ n z : Int, vs = [.int n, .int z] ∧ (0 ≤ z ∧ z ≤ 1000) ∧ ∀ l : List Nat, codesOk l → (l.length : Int) = z → Q (.str (SX.S l)) H
theorem len_text {vs H Q E} (h : spText vs H Q E) : vs.length = 2 := by obtain ⟨_, _, rfl, _⟩ := h; rfl
/-- a number or a text -/
def Leaf : V → Ky → Prop
  | .int i, k => k = .num i ∧ (-(10 ^ 60) < i ∧ i < 10 ^ 60)
  | .str x, k => ∃ l, k = .txt (SX.S l) ∧ x = SX.S l ∧ codesOk l ∧ l.length ≤ 60
  | _, _ => False
def spAnyLeaf : Sp := fun vs H Q _ => ∃ n : Int, vs = [.int n] ∧ (0 ≤ n ∧ n < 2 ^ 60) ∧ ∀ v k, Leaf v k → Q v H
theorem len_anyLeaf {vs H Q E} (h : spAnyLeaf vs H Q E) : vs.length = 1 := by obtain ⟨_, rfl, _⟩ := h; rfl
theorem Leaf.at {H : Hp} {v : V} {k : Ky} (h : Leaf v k) : KyAt H v k := by
  cases v with
  | int i => obtain ⟨rfl, _⟩ := h; exact .num i
  | str x => obtain ⟨l, rfl, rfl, _⟩ := h; exact .txt _
  | _ => exact h.elim
theorem Leaf.ok {d : Nat} {v : V} {k : Ky} (h : Leaf v k) : KOk d k := by
  cases v with
  | int i => obtain ⟨rfl, b⟩ := h; exact .num b
  | str x => obtain ⟨l, rfl, rfl, c, z⟩ := h; exact .txt c z
  | _ => exact h.elim
/-- leaves, in a row -/
theorem leaves_at {H : Hp} : ∀ {ys : List V}, (∀ (i : Nat) y, ys[i]? = some y → ∃ k, Leaf y k) → ∃ ks, KysAt H ys ks ∧ (∀ k ∈ ks, KOk 0 k) ∧ ks.length = ys.length
  | [], _ => ⟨[], .nil, (fun _ h => by cases h), rfl⟩
  | y :: ys, h => by
    obtain ⟨k, hk⟩ := h 0 y rfl
    obtain ⟨ks, h1, h2, h3⟩ := leaves_at (H := H) (ys := ys) fun i z e => h (i + 1) z (by simpa using e)
    refine ⟨k :: ks, .cons hk.at h1, fun x hx => ?_, by simp [h3]⟩
    rcases List.mem_cons.mp hx with rfl | hx
    · exact hk.ok
    · exact h2 x hx
theorem KysAt.set {H : Hp} : ∀ {ys : List V} {ks : List Ky} {i : Nat} {v : V} {k : Ky}, KysAt H ys ks → KyAt H v k → KysAt H (ys.set i v) (ks.set i k)
  | _, [], _, _, _, h, _ => by cases h; exact .nil
  | _, x :: xs, 0, _, _, h, q => by
    cases h with
    | cons h t => exact .cons q t
  | _, x :: xs, i + 1, _, _, h, q => by
    cases h with
    | cons h t => exact .cons h (KysAt.set t q)
theorem KysAt.drop {H : Hp} : ∀ {ks : List Ky} {ys : List V} (n : Nat), KysAt H ys ks → KysAt H (ys.drop n) (ks.drop n)
  | _, _, 0, h => h
  | [], _, n + 1, h => by cases h; exact .nil
  | k :: ks, _, n + 1, h => by
    cases h with
    | cons h t => exact KysAt.drop n t
/-- any key -/
def spAnyKey : Sp := fun vs H Q _ => ∃ n : Int, vs = [.int n] ∧ (0 ≤ n ∧ n < 2 ^ 60) ∧ ∀ H' v k, Same H H' → KyAt H' v k → KeyOk k → Q v H'
theorem len_anyKey {vs H Q E} (h : spAnyKey vs H Q E) : vs.length = 1 := by obtain ⟨_, rfl, _⟩ := h; rfl
def spKey3 : Sp := fun vs H Q _ => ∃ w b j : Int, vs = [.int w, .int b, .int j] ∧ ((0 ≤ b ∧ b < 2 ^ 42) ∧ 0 ≤ j ∧ j < 2 ^ 20) ∧ ∀ H' v k, Same H H' → KyAt H' v k → KeyOk k → Q v H'
theorem xor_range {s : Int} (h0 : 0 ≤ s) (h1 : s < 2147483647) : 0 ≤ Builtin.bitXor 11000033 s ∧ Builtin.bitXor 11000033 s < 2147483648 := by
  refine ⟨Bits.bitXor_nonneg (by decide) h0, ?_⟩
  rw [Bits.bitXor_pp (by decide) h0]
  have := Nat.xor_lt_two_pow (x := (11000033 : Int).toNat) (y := s.toNat) (n := 31) (by decide) (by omega)
  omega
theorem cut_Shi {l : List Nat} {m : Nat} (h : m ≤ l.length) : cutS (SX.S l) none (some (m : Int)) = SX.S (l.take m) := by
  rw [cut_S, HT.sIx_none, HT.sIx_nat, Nat.min_eq_left h, List.drop_zero, Nat.sub_zero]
theorem cut_Slo {l : List Nat} {m : Nat} (h : m ≤ l.length) : cutS (SX.S l) (some (m : Int)) none = SX.S (l.drop m) := by
  rw [cut_S, HT.sIx_none, HT.sIx_nat, Nat.min_eq_left h, List.take_of_length_le (by rw [List.length_drop]; omega)]
theorem len_key3 {vs H Q E} (h : spKey3 vs H Q E) : vs.length = 3 := by obtain ⟨_, _, _, rfl, _⟩ := h; rfl
end My
namespace My
open PySem PySem.Spec PyProof.Rows L2
/-! rows of keys and of None -/
def Ky.dat : Ky → Bool
  | .non => true
  | k => k.good
theorem Ky.dat_of {k : Ky} (h : k.good = true) : k.dat = true := by
  cases k <;> first | exact h | simp [Ky.good] at h
theorem Ky.dat_cases {k : Ky} (h : k.dat = true) : k = .non ∨ k.good = true := by
  cases k <;> first | exact .inr h | exact .inl rfl
def Ky.dats (ks : List Ky) : Prop := ∀ k ∈ ks, k.dat = true ∧ k.dep ≤ 60
theorem Ky.eqvD (x y : Ky) (hx : x.dat = true) (hy : y.dat = true) : PyData.eqv x.toD y.toD = Ky.beq x y := by
  rcases Ky.dat_cases hx with rfl | gx <;> rcases Ky.dat_cases hy with rfl | gy
  · simp [Ky.toD, PyData.eqv, Ky.beq]
  · cases y <;> simp [Ky.good] at gy <;> simp [Ky.toD, PyData.eqv, Ky.beq]
  · cases x <;> simp [Ky.good] at gx <;> simp [Ky.toD, PyData.eqv, Ky.beq]
  · exact Ky.eqv x y gx gy
theorem Ky.canLayD (k : Ky) (h : k.dat = true) : k.toD.canLay0 = true := by
  rcases Ky.dat_cases h with rfl | g
  · simp [Ky.toD, PyData.canLay0]
  · exact Ky.canLay k g
theorem Ky.beq_dec (k l : Ky) : Ky.beq k l = decide (k = l) := by
  cases h : Ky.beq k l with
  | true => exact (decide_eq_true ((Ky.beq_iff k l).mp h)).symm
  | false => exact (decide_eq_false fun c => by rw [(Ky.beq_iff k l).mpr c] at h; cases h).symm
theorem Ky.beqs_dec (k l : List Ky) : Ky.beqs k l = decide (k = l) := by
  cases h : Ky.beqs k l with
  | true => exact (decide_eq_true ((Ky.beqs_iff k l).mp h)).symm
  | false => exact (decide_eq_false fun c => by rw [(Ky.beqs_iff k l).mpr c] at h; cases h).symm
theorem Ky.dats_cons {k : Ky} {ks : List Ky} (h : Ky.dats (k :: ks)) : (k.dat = true ∧ k.dep ≤ 60) ∧ Ky.dats ks := ⟨h k List.mem_cons_self, fun y hy => h y (List.mem_cons_of_mem _ hy)⟩
theorem Ky.dats_append {ks ls : List Ky} (h : Ky.dats ks) (g : Ky.dats ls) : Ky.dats (ks ++ ls) := fun y hy => (List.mem_append.mp hy).elim (h y) (g y)
theorem Ky.dats_nil : Ky.dats [] := fun _ h => by cases h
theorem Ky.dats_one {k : Ky} (h : k.dat = true) (d : k.dep ≤ 60) : Ky.dats [k] := fun y hy => by
  rcases List.mem_cons.mp hy with rfl | hy
  · exact ⟨h, d⟩
  · cases hy
theorem Ky.eqvsD : ∀ xs ys : List Ky, Ky.dats xs → Ky.dats ys → PyData.eqvAll (Ky.toDs xs) (Ky.toDs ys) = Ky.beqs xs ys
  | [], [], _, _ => by simp [Ky.toDs, PyData.eqvAll, Ky.beqs]
  | x :: xs, y :: ys, h, g => by
    obtain ⟨h1, h2⟩ := Ky.dats_cons h
    obtain ⟨g1, g2⟩ := Ky.dats_cons g
    simp only [Ky.toDs, PyData.eqvAll, Ky.beqs]
    rw [Ky.eqvD x y h1.1 g1.1, Ky.eqvsD xs ys h2 g2]
  | [], _ :: _, _, _ => by simp [Ky.toDs, PyData.eqvAll, Ky.beqs]
  | _ :: _, [], _, _ => by simp [Ky.toDs, PyData.eqvAll, Ky.beqs]
theorem Ky.canLaysD : ∀ ks : List Ky, Ky.dats ks → PyData.canLayAll0 (Ky.toDs ks) = true
  | [], _ => by simp [Ky.toDs, PyData.canLayAll0]
  | k :: ks, h => by
    obtain ⟨h1, h2⟩ := Ky.dats_cons h
    simp only [Ky.toDs, PyData.canLayAll0, Ky.canLayD k h1.1, Ky.canLaysD ks h2, Bool.and_self]
theorem Ky.depsD : ∀ ks : List Ky, Ky.dats ks → PyData.depthAll (Ky.toDs ks) ≤ 60
  | [], _ => by simp [Ky.toDs, PyData.depthAll]
  | k :: ks, h => by
    obtain ⟨h1, h2⟩ := Ky.dats_cons h
    simp only [Ky.toDs, PyData.depthAll]
    rw [Ky.depth_toD]
    have := Ky.depsD ks h2
    omega
theorem Ky.shapedD {k : Ky} (h : k.dat = true) (d : k.dep ≤ 60) : SeqAt.shaped k.toD = true := by
  unfold SeqAt.shaped
  rw [Ky.canLayD k h, Ky.depth_toD, decide_eq_true (by omega)]
  rfl
theorem Ky.shapedL {ks : List Ky} (h : Ky.dats ks) : SeqAt.shaped (.list (Ky.toDs ks)) = true := by
  unfold SeqAt.shaped
  have := Ky.depsD ks h
  rw [PyData.canLay0, Ky.canLaysD ks h, PyData.depth, decide_eq_true (by omega)]
  rfl
section
variable {H H' : Hp} {K : PySem.W.Frag}
theorem KyAt.dpD (k : Ky) (v : V) (g : k.dat = true) (h : KyAt H v k) : Dp K H v k.toD := by
  rcases Ky.dat_cases g with rfl | g
  · cases h
    have e : Ky.toD .non = .none := by simp [Ky.toD]
    rw [e]
    exact .non
  · exact KyAt.dp k v g h
theorem KysAt.dpD : ∀ (ks : List Ky) (vs : List V), Ky.dats ks → KysAt H vs ks → DpAll K H vs (Ky.toDs ks)
  | [], _, _, h => by cases h; rw [Ky.toDs]; exact .nil
  | k :: ks, _, g, h => by
    obtain ⟨h1, h2⟩ := Ky.dats_cons g
    cases h with
    | cons h t => rw [Ky.toDs]; exact .cons (KyAt.dpD k _ h1.1 h) (KysAt.dpD ks _ h2 t)
theorem eq_rows {a b : Addr} {vs ws : List V} {ks ls : List Ky} {Q : VK} (ha : SqL K H a vs) (hk : KysAt H vs ks) (hb : SqL K H b ws) (hl : KysAt H ws ls) (dk : Ky.dats ks) (dl : Ky.dats ls) (q : Q (.bl (decide (ks = ls))) H) : rEqD K (.ref a) (.ref b) H Q := by
  refine ⟨.list (Ky.toDs ks), .list (Ky.toDs ls), .lst ha (KysAt.dpD ks _ dk hk), .lst hb (KysAt.dpD ls _ dl hl), Ky.shapedL dk, Ky.shapedL dl, ?_⟩
  rw [PyData.eqv, Ky.eqvsD _ _ dk dl, Ky.beqs_dec]
  exact q
theorem ne_rows {a b : Addr} {vs ws : List V} {ks ls : List Ky} {Q : VK} (ha : SqL K H a vs) (hk : KysAt H vs ks) (hb : SqL K H b ws) (hl : KysAt H ws ls) (dk : Ky.dats ks) (dl : Ky.dats ls) (q : Q (.bl (!decide (ks = ls))) H) : rNeD K (.ref a) (.ref b) H Q := by
  refine ⟨.list (Ky.toDs ks), .list (Ky.toDs ls), .lst ha (KysAt.dpD ks _ dk hk), .lst hb (KysAt.dpD ls _ dl hl), Ky.shapedL dk, Ky.shapedL dl, ?_⟩
  rw [PyData.eqv, Ky.eqvsD _ _ dk dl, Ky.beqs_dec]
  exact q
theorem any_dec (k : Ky) (hk : k.dat = true) : ∀ ks : List Ky, Ky.dats ks → ((Ky.toDs ks).any fun z => PyData.eqv z k.toD) = decide (k ∈ ks)
  | [], _ => by simp [Ky.toDs]
  | x :: xs, h => by
    obtain ⟨h1, h2⟩ := Ky.dats_cons h
    rw [Ky.toDs, List.any_cons, any_dec k hk xs h2, Ky.eqvD x k h1.1 hk, Ky.beq_dec]
    by_cases e : x = k
    · subst e
      simp
    · have e' : ¬ k = x := fun c => e c.symm
      simp [e, e']
theorem in_row {v : V} {a : Addr} {vs : List V} {k : Ky} {ks : List Ky} {Q : VK} (hv : KyAt H v k) (ha : SqL K H a vs) (hks : KysAt H vs ks) (gk : k.dat = true) (dk : k.dep ≤ 60) (d : Ky.dats ks) (q : Q (.bl (decide (k ∈ ks))) H) : rInD K v (.ref a) H Q := by
  refine ⟨k.toD, Ky.toDs ks, KyAt.dpD k v gk hv, .lst ha (KysAt.dpD ks _ d hks), Ky.shapedD gk dk, Ky.shapedL d, ?_⟩
  rw [any_dec k gk ks d]
  exact q
/-- rows stay where a list is changed -/
theorem KyAt.butD {D : Addr} {xs0 : List V} (s : ∀ b o, b ≠ D → H b = some o → H' b = some o) (e : H D = some (.lst xs0)) {k : Ky} {v : V} (g : k.dat = true) (h : KyAt H v k) : KyAt H' v k := by
  rcases Ky.dat_cases g with rfl | g
  · cases h
    exact .non
  · exact KyAt.but s e k v g h
theorem KysAt.butD {D : Addr} {xs0 : List V} (s : ∀ b o, b ≠ D → H b = some o → H' b = some o) (e : H D = some (.lst xs0)) : ∀ {ks : List Ky} {vs : List V}, Ky.dats ks → KysAt H vs ks → KysAt H' vs ks
  | [], _, _, h => by cases h; exact .nil
  | k :: ks, _, g, h => by
    obtain ⟨h1, h2⟩ := Ky.dats_cons g
    cases h with
    | cons h t => exact .cons (KyAt.butD s e h1.1 h) (KysAt.butD s e h2 t)
theorem KyAt.ne_non {v : V} {k : Ky} (h : KyAt H v k) : (v = .non) ↔ (k = .non) := by
  cases h <;> simp
end
theorem units65 {A : Around} {k : Nat} (r : Room k A) : A.units + 65 < cLine := by have := r.un; omega
theorem rd_never {D : Ends} {σ : L2.St} {H : Hp} : tNever D σ H = False := rfl
theorem rd_dget {td ty : TE} {σ : L2.St} {H : Hp} {Q : VK} : tDGet td ty σ H Q = td σ H fun x H1 => ty σ H1 fun y H2 => isRef x fun a => ∃ v, DGet H2 a y (some v) ∧ Q v H2 := by
  unfold tDGet
  apply congrArg
  funext x H1
  apply congrArg
  funext y H2
  rw [← isRef_eq]
  apply propext
  constructor
  · rintro ⟨a, v, e, h⟩; exact ⟨a, e, v, h⟩
  · rintro ⟨a, e, v, h⟩; exact ⟨a, v, e, h⟩
theorem rd_din {td ty : TE} {σ : L2.St} {H : Hp} {Q : VK} : tDIn ty td σ H Q = ty σ H fun y H1 => td σ H1 fun x H2 => isRef x fun a => ∃ o, DGet H2 a y o ∧ Q (.bl o.isSome) H2 := by
  unfold tDIn
  apply congrArg
  funext y H1
  apply congrArg
  funext x H2
  rw [← isRef_eq]
  apply propext
  constructor
  · rintro ⟨a, v, e, h⟩; exact ⟨a, e, v, h⟩
  · rintro ⟨a, e, v, h⟩; exact ⟨a, v, e, h⟩
theorem rd_dnotin {td ty : TE} {σ : L2.St} {H : Hp} {Q : VK} : tDNotIn ty td σ H Q = ty σ H fun y H1 => td σ H1 fun x H2 => isRef x fun a => ∃ o, DGet H2 a y o ∧ Q (.bl (!o.isSome)) H2 := by
  unfold tDNotIn
  apply congrArg
  funext y H1
  apply congrArg
  funext x H2
  rw [← isRef_eq]
  apply propext
  constructor
  · rintro ⟨a, v, e, h⟩; exact ⟨a, e, v, h⟩
  · rintro ⟨a, e, v, h⟩; exact ⟨a, v, e, h⟩
theorem rd_dput {td ty tv : TE} {D : Ends} {σ : L2.St} {H : Hp} : sDPut td ty tv D σ H = tv σ H fun v H1 => td σ H1 fun x H2 => ty σ H2 fun y H3 => isRef x fun a => ∃ H4, DPut H3 a y v H4 ∧ D.nx σ H4 := by
  unfold sDPut
  apply congrArg
  funext v H1
  apply congrArg
  funext x H2
  apply congrArg
  funext y H3
  rw [← isRef_eq]
  apply propext
  constructor
  · rintro ⟨a, v, e, h⟩; exact ⟨a, e, v, h⟩
  · rintro ⟨a, e, v, h⟩; exact ⟨a, v, e, h⟩
def isR0 (vs : List V) (f : Addr → Prop) : Prop := match vs with | [.ref a] => f a | _ => False
theorem rd_isR0 {a : Addr} {f : Addr → Prop} : isR0 [.ref a] f = f a := rfl
theorem rd_enum {K : PySem.W.Frag} {tr : TA} {σ : L2.St} {H : Hp} {R : It → Hp → Prop} : iEnum K tr σ H R = tr σ H fun vs H1 => isR0 vs fun a => (∃ xs, SqL K H1 a xs) ∧ R (Ite K a) H1 := by
  unfold iEnum
  apply congrArg
  funext vs H1
  apply propext
  constructor
  · rintro ⟨a, xs, rfl, h, r⟩; exact ⟨⟨xs, h⟩, r⟩
  · intro h
    unfold isR0 at h
    split at h
    · obtain ⟨⟨xs, h⟩, r⟩ := h
      exact ⟨_, xs, rfl, h, r⟩
    · exact h.elim
/-- enumerate: the pair is new, then taken apart -/
theorem go_enum {K : PySem.W.Frag} {D : Ends} {σ : L2.St} {H : Hp} {a : Addr} {xs : List V} {g : TG} {tb : TS} (Pv : Nat → L2.St → Hp → Prop) (h0 : Pv 0 σ H) (hl : ∀ i σ H, i ≤ xs.length → Pv i σ H → SqL K H a xs)
    (hs : ∀ (N : L2.St → Hp → Prop) (i : Nat) x σ H T, xs[i]? = some x → Pv i σ H → Fresh H T → (∀ σ' H', Pv (i + 1) σ' H' → N σ' H') → g (.ref T) σ (upd H T (.tup [.int i, x])) fun σ2 H2 => tb { D with nx := N, ct := N, bk := D.nx } σ2 H2) (hd : ∀ σ H, Pv xs.length σ H → D.nx σ H) : forGo (Ite K a) g tb D σ H := by
  refine go_it (walk_enum (xs := xs)) Pv h0 hl ?_ hd
  rintro N i x σ H H' hi p ⟨T, x1, y1, rfl, hT, rfl, e1, e2⟩ hN
  cases e1
  exact hs N i y1 σ H T e2 p hT hN
theorem rd_aug {i : Nat} {te : TE} {ti : TIp} {D : Ends} {σ : L2.St} {H : Hp} : tAug i te ti D σ H = (match σ[i]? with | some (some x) => te σ H fun y H1 => ti x y H1 fun z H2 => D.nx (σ.set i (some z)) H2 | _ => False) := by
  unfold tAug
  apply propext
  constructor
  · rintro ⟨v, e, q⟩
    rw [e]; exact q
  · intro h
    split at h
    · rename_i v e
      exact ⟨v, e, h⟩
    · exact h.elim
theorem rd_ipI {f : Int → Int → Int} {i j : Int} {H : Hp} {Q : VK} : ipI f (.int i) (.int j) H Q = Q (.int (f i j)) H := by
  unfold ipI
  apply propext
  constructor
  · rintro ⟨a, b, e1, e2, q⟩
    cases e1; cases e2; exact q
  · intro q
    exact ⟨i, j, rfl, rfl, q⟩
def sizeB (n : Int) : Bool := decide (8 ≤ n ∧ n ≤ 4096) && decide (Builtin.bitAnd n (n - 1) = 0)
theorem sizeB_pow {j : Nat} (h0 : 3 ≤ j) (h1 : j ≤ 12) : sizeB (2 ^ j) = true := by
  have h : (List.range 13).all (fun j => decide (j < 3) || sizeB (2 ^ j)) = true := by decide +kernel
  have := (List.all_eq_true.mp h) j (List.mem_range.mpr (by omega))
  rw [decide_eq_false (by omega), Bool.false_or] at this
  exact this
theorem at_any {xs : List V} {c : Int} (h0 : 0 ≤ c) (h1 : c < xs.length) : ∃ v, xs[c.toNat]? = some v ∧ atI xs c = some v := by
  have hlt : c.toNat < xs.length := by omega
  refine ⟨xs[c.toNat], List.getElem?_eq_getElem hlt, ?_⟩
  obtain ⟨j, rfl⟩ : ∃ j : Nat, c = (j : Int) := ⟨c.toNat, by omega⟩
  exact atI_nat (List.getElem?_eq_getElem hlt)
theorem get_int {cs : List Int} {s : Int} (h0 : 0 ≤ s) (h1 : s < cs.length) : (cs.map V.int)[s.toNat]? = some (.int (getI cs s)) := by
  rw [List.getElem?_map, List.getElem?_eq_getElem (by omega)]
  unfold getI
  rw [List.getD_eq_getElem?_getD, List.getElem?_eq_getElem (by omega)]
  rfl
end My
namespace My
open PySem PySem.Spec PyProof.Rows L2
/-! laying a row of keys into slots -/
theorem inv_of {s : Int} (h : s % 2 = 1) {j : Nat} (hj : j ≤ 12) : ∃ b, Inv2 s b j := ⟨_, inv2_mono (inv2_step (inv2_step (inv2_start h))) (by omega)⟩
theorem stride_odd (m : Int) : strideF m % 2 = 1 := by rw [strideF_eq]; omega
theorem reach (m : Int) {d : Int} {j : Nat} (hj : j ≤ 12) (h0 : 0 ≤ d) (h1 : d < 2 ^ j) : ∃ c : Nat, (c : Int) < 2 ^ j ∧ probeF m (2 ^ j) c = d := by
  obtain ⟨b, hb⟩ := inv_of (stride_odd m) hj
  have z : (0 : Int) < 2 ^ j := (pow_le hj).1
  have n0 := Int.emod_nonneg ((d - m) * b) (Int.ne_of_gt z)
  have n1 := Int.emod_lt_of_pos ((d - m) * b) z
  refine ⟨((d - m) * b % 2 ^ j).toNat, by omega, ?_⟩
  rw [probeF_eq, Int.toNat_of_nonneg n0]
  exact (slot_of h0 h1 (inv2_end hb z)).symm
theorem probe_range (m c : Int) {j : Nat} (hj : j ≤ 12) : 0 ≤ probeF m (2 ^ j) c ∧ probeF m (2 ^ j) c < 2 ^ j := by
  have z : (0 : Int) < 2 ^ j := (pow_le hj).1
  rw [probeF_eq]
  exact ⟨Int.emod_nonneg _ (Int.ne_of_gt z), Int.emod_lt_of_pos _ z⟩
theorem probe_next (m : Int) (c j : Nat) : (probeF m (2 ^ j) (c : Int) + strideF m) % 2 ^ j = probeF m (2 ^ j) ((c + 1 : Nat) : Int) := by
  rw [probeF_eq, probeF_eq, Int.emod_add_emod]
  congr 1
  rw [Int.natCast_add, Int.add_mul, Int.add_assoc]
  simp
theorem probe_zero (m : Int) (j : Nat) : m % 2 ^ j = probeF m (2 ^ j) ((0 : Nat) : Int) := by
  rw [probeF_eq]
  simp
def Bare (cs : List Int) (j : Nat) (m : Int) (n : Nat) : Prop := n < 2 ^ j ∧ getI cs (probeF m (2 ^ j) n) = -1 ∧ ∀ i : Nat, i < n → getI cs (probeF m (2 ^ j) i) ≠ -1
def bareN (cs : List Int) (j : Nat) (m : Int) : Nat := ((List.range (2 ^ j)).find? fun c : Nat => decide (getI cs (probeF m (2 ^ j) (c : Int)) = -1)).getD 0
theorem getI_mem {cs : List Int} {x : Int} (h : x ∈ cs) : ∃ s : Nat, s < cs.length ∧ getI cs s = x := by
  obtain ⟨s, hs, e⟩ := List.mem_iff_getElem.mp h
  refine ⟨s, hs, ?_⟩
  unfold getI
  rw [Int.toNat_natCast, List.getD_eq_getElem?_getD, List.getElem?_eq_getElem hs]
  exact e
theorem pow_cast (j : Nat) : ((2 ^ j : Nat) : Int) = (2 : Int) ^ j := by norm_cast
theorem bare_ex {cs : List Int} {j : Nat} (m : Int) (hj : j ≤ 12) (e : cs.length = 2 ^ j) (h : (-1) ∈ cs) : Bare cs j m (bareN cs j m) := by
  obtain ⟨s, hs, es⟩ := getI_mem h
  obtain ⟨c, hc, ec⟩ := reach m (d := s) hj (by omega) (by have := pow_cast j; omega)
  have hc' : c < 2 ^ j := by have := pow_cast j; omega
  cases q : (List.range (2 ^ j)).find? fun c : Nat => decide (getI cs (probeF m (2 ^ j) (c : Int)) = -1) with
  | none =>
    rw [List.find?_eq_none] at q
    have := q c (List.mem_range.mpr hc')
    rw [ec, es] at this
    exact (this (by decide)).elim
  | some n =>
    have en : bareN cs j m = n := by unfold bareN; rw [q]; rfl
    rw [en]
    rw [List.find?_range_eq_some] at q
    obtain ⟨q1, q2, q3⟩ := q
    refine ⟨List.mem_range.mp q2, of_decide_eq_true q1, fun i hi => ?_⟩
    have := q3 i hi
    simpa using this
theorem Bare.uniq {cs : List Int} {j : Nat} {m : Int} {a b : Nat} (p : Bare cs j m a) (q : Bare cs j m b) : a = b := by
  rcases Nat.lt_trichotomy a b with h | h | h
  · exact absurd p.2.1 (q.2.2 a h)
  · exact h
  · exact absurd q.2.1 (p.2.2 b h)
theorem getI_set {cs : List Int} {a b v : Int} (h0 : 0 ≤ a) (h1 : a < cs.length) (hb : 0 ≤ b) : getI (cs.set a.toNat v) b = if b = a then v else getI cs b := by
  unfold getI
  rw [List.getD_eq_getElem?_getD, List.getElem?_set]
  by_cases e : b = a
  · subst e
    rw [if_pos rfl, if_pos (by omega), if_pos rfl]
    rfl
  · rw [if_neg (by omega), if_neg e, List.getD_eq_getElem?_getD]
def layS (cs : List Int) (j i : Nat) (k : Ky) : List Int := if k = .non then cs else cs.set (probeF k.stamp (2 ^ j) (bareN cs j k.stamp)).toNat i
def layN (j : Nat) (ks : List Ky) : Nat → List Int
  | 0 => List.replicate (2 ^ j) (-1)
  | i + 1 => match ks[i]? with
    | some k => layS (layN j ks i) j i k
    | none => layN j ks i
structure Laid (ks : List Ky) (j i : Nat) (cs : List Int) : Prop where
  len : cs.length = 2 ^ j
  cnt : 2 ^ j ≤ cs.count (-1) + i
  cell : ∀ s : Int, 0 ≤ s → s < 2 ^ j → getI cs s = -1 ∨ (0 ≤ getI cs s ∧ getI cs s < i ∧ ∃ k, ks[(getI cs s).toNat]? = some k ∧ k ≠ .non)
  inj : ∀ s t : Int, 0 ≤ s → s < 2 ^ j → 0 ≤ t → t < 2 ^ j → getI cs s = getI cs t → getI cs s ≠ -1 → s = t
  ahead : ∀ (p : Nat) k, p < i → ks[p]? = some k → k ≠ .non → ∃ n : Nat, n < 2 ^ j ∧ getI cs (probeF k.stamp (2 ^ j) n) = p ∧ ∀ t : Nat, t < n → 0 ≤ getI cs (probeF k.stamp (2 ^ j) t) ∧ getI cs (probeF k.stamp (2 ^ j) t) < p
theorem Laid.mem {ks : List Ky} {j i : Nat} {cs : List Int} (h : Laid ks j i cs) (hi : i < 2 ^ j) : (-1) ∈ cs := by
  have := h.cnt
  exact List.count_pos_iff.mp (by omega)
theorem laid_zero (ks : List Ky) (j : Nat) : Laid ks j 0 (layN j ks 0) := by
  have e : ∀ s : Int, 0 ≤ s → s < 2 ^ j → getI (List.replicate (2 ^ j) (-1 : Int)) s = -1 := by
    intro s h0 h1
    have := pow_cast j
    unfold getI
    rw [List.getD_eq_getElem?_getD, List.getElem?_replicate, if_pos (by omega)]
    rfl
  refine ⟨List.length_replicate, ?_, fun s h0 h1 => .inl (e s h0 h1), fun s t h0 h1 _ _ _ hn => absurd (e s h0 h1) hn, fun p k hp => by omega⟩
  show 2 ^ j ≤ (List.replicate (2 ^ j) (-1 : Int)).count (-1) + 0
  rw [List.count_replicate_self]
  omega
theorem laid_step {ks : List Ky} {j i : Nat} {cs : List Int} {k : Ky} (hj : j ≤ 12) (hi : i < 2 ^ j) (h : Laid ks j i cs) (hk : ks[i]? = some k) : Laid ks j (i + 1) (layS cs j i k) := by
  unfold layS
  by_cases hn : k = .non
  · rw [if_pos hn]
    refine ⟨h.len, by have := h.cnt; omega, fun s h0 h1 => ?_, h.inj, fun p k' hp e hk' => ?_⟩
    · rcases h.cell s h0 h1 with q | ⟨q1, q2, q3⟩
      · exact .inl q
      · exact .inr ⟨q1, by omega, q3⟩
    · rcases Nat.lt_or_ge p i with hp' | hp'
      · exact h.ahead p k' hp' e hk'
      · have : p = i := by omega
        subst this
        rw [hk] at e
        cases e
        exact absurd hn hk'
  · rw [if_neg hn]
    obtain ⟨b1, b2, b3⟩ := bare_ex k.stamp hj h.len (h.mem hi)
    generalize bareN cs j k.stamp = n at b1 b2 b3 ⊢
    obtain ⟨r0, r1⟩ := probe_range k.stamp n hj
    have hl := h.len
    have pc := pow_cast j
    have gs : ∀ t : Int, 0 ≤ t → getI (cs.set (probeF k.stamp (2 ^ j) n).toNat i) t = if t = probeF k.stamp (2 ^ j) n then (i : Int) else getI cs t := fun t ht => getI_set r0 (by omega) ht
    have lt : (probeF k.stamp (2 ^ j) n).toNat < cs.length := by omega
    refine ⟨by rw [List.length_set]; exact hl, ?_, fun s h0 h1 => ?_, fun s t h0 h1 t0 t1 e ne => ?_, fun p k' hp e hk' => ?_⟩
    · have c := h.cnt
      rw [List.count_set lt]
      split <;> split <;> omega
    · rw [gs s h0]
      split
      · exact .inr ⟨by omega, by omega, k, by rw [Int.toNat_natCast]; exact hk, hn⟩
      · rcases h.cell s h0 h1 with q | ⟨q1, q2, q3⟩
        · exact .inl q
        · exact .inr ⟨q1, by omega, q3⟩
    · rw [gs s h0, gs t t0] at e
      rw [gs s h0] at ne
      split at e <;> split at e
      · omega
      · rcases h.cell t t0 t1 with q | ⟨q1, q2, q3⟩ <;> omega
      · rcases h.cell s h0 h1 with q | ⟨q1, q2, q3⟩ <;> omega
      · rename_i c1 c2
        rw [if_neg c1] at ne
        exact h.inj s t h0 h1 t0 t1 e ne
    · have keep : ∀ c : Nat, getI cs (probeF k'.stamp (2 ^ j) c) ≠ -1 → getI (cs.set (probeF k.stamp (2 ^ j) n).toNat i) (probeF k'.stamp (2 ^ j) c) = getI cs (probeF k'.stamp (2 ^ j) c) := by
        intro c hc
        rw [gs _ (probe_range _ _ hj).1, if_neg]
        intro e2
        rw [e2] at hc
        exact hc b2
      rcases Nat.lt_or_ge p i with hp' | hp'
      · obtain ⟨m, a1, a2, a3⟩ := h.ahead p k' hp' e hk'
        refine ⟨m, a1, by rw [keep m (by omega)]; exact a2, fun t ht => ?_⟩
        have := a3 t ht
        rw [keep t (by omega)]
        exact this
      · have ep : p = i := by omega
        subst ep
        rw [hk] at e
        cases e
        refine ⟨n, b1, by rw [gs _ r0, if_pos rfl], fun t ht => ?_⟩
        rw [keep t (b3 t ht)]
        rcases h.cell _ (probe_range k.stamp t hj).1 (probe_range k.stamp t hj).2 with q | ⟨q1, q2, q3⟩
        · exact absurd q (b3 t ht)
        · exact ⟨q1, q2⟩
theorem laid_at {ks : List Ky} {j : Nat} (hj : j ≤ 12) (hz : ks.length < 2 ^ j) : ∀ i : Nat, i ≤ ks.length → Laid ks j i (layN j ks i)
  | 0, _ => laid_zero ks j
  | i + 1, hi => by
    have e : ks[i]? = some ks[i] := List.getElem?_eq_getElem (by omega)
    have h := laid_step hj (by omega) (laid_at hj hz i (by omega)) e
    have e2 : layN j ks (i + 1) = layS (layN j ks i) j i ks[i] := by
      rw [layN]
      simp only [e]
    rw [e2]
    exact h
theorem layN_step {ks : List Ky} {j i : Nat} {k : Ky} (h : ks[i]? = some k) : layN j ks (i + 1) = layS (layN j ks i) j i k := by
  rw [layN]
  simp only [h]
/-- the first bare slot -/
def spBare (K : PySem.W.Frag) : Sp := fun vs H Q _ => ∃ (a : Addr) (v : V) (cs : List Int) (k : Ky) (j : Nat), vs = [.ref a, v] ∧ SqL K H a (cs.map V.int) ∧ KyAt H v k ∧ (k.good = true ∧ k.dep ≤ 3) ∧ (cs.length = 2 ^ j ∧ j ≤ 12 ∧ (-1) ∈ cs) ∧ Q (.int (probeF k.stamp (2 ^ j) (bareN cs j k.stamp))) H
theorem rd_spBare {K : PySem.W.Frag} {a : Addr} {v : V} {H : Hp} {Q : VK} {E : XK} : spBare K [.ref a, v] H Q E = ∃ (cs : List Int) (k : Ky) (j : Nat), SqL K H a (cs.map V.int) ∧ KyAt H v k ∧ (k.good = true ∧ k.dep ≤ 3) ∧ (cs.length = 2 ^ j ∧ j ≤ 12 ∧ (-1) ∈ cs) ∧ Q (.int (probeF k.stamp (2 ^ j) (bareN cs j k.stamp))) H := by
  unfold spBare
  apply propext
  constructor
  · rintro ⟨a', v', cs, k, j, e, q⟩; cases e; exact ⟨cs, k, j, q⟩
  · rintro ⟨cs, k, j, q⟩; exact ⟨a, v, cs, k, j, rfl, q⟩
theorem len_bare {K : PySem.W.Frag} {vs H Q E} (h : spBare K vs H Q E) : vs.length = 2 := by obtain ⟨_, _, _, _, _, rfl, _⟩ := h; rfl
def spStream (K : PySem.W.Frag) : Sp := fun vs H Q _ => ∃ (a : Addr) (ns : List Int) (m : Int), vs = [.ref a, .int m] ∧ SqL K H a (ns.map V.int) ∧ (ns.length ≤ 100 ∧ 0 ≤ m ∧ m ≤ 10000) ∧ ∀ (p : Addr) (H' : Hp) (xs : List Int), Same H H' → Fresh H p → H' p = some (.lst (xs.map V.int)) → xs.length = m.toNat → (∀ x ∈ xs, 0 ≤ x ∧ x < 2 ^ 44) → Q (.ref p) H'
theorem len_stream {K : PySem.W.Frag} {vs H Q E} (h : spStream K vs H Q E) : vs.length = 2 := by obtain ⟨_, _, _, rfl, _⟩ := h; rfl
/-- keys, or none -/
def RowOk (ks : List Ky) : Prop := ∀ k ∈ ks, k = .non ∨ KeyOk k
theorem RowOk.dats {ks : List Ky} (h : RowOk ks) : Ky.dats ks := fun k hk => by
  rcases h k hk with rfl | h
  · exact ⟨rfl, by simp [Ky.dep]⟩
  · exact ⟨Ky.dat_of h.g, by have := h.d; omega⟩
theorem RowOk.get {ks : List Ky} {i : Nat} {k : Ky} (h : RowOk ks) (e : ks[i]? = some k) : k = .non ∨ KeyOk k := h k (List.mem_of_getElem? e)
def spCellsOf (K : PySem.W.Frag) : Sp := fun vs H Q _ => ∃ (a : Addr) (ws : List V) (ks : List Ky) (j : Nat), vs = [.ref a, .int (2 ^ j)] ∧ SqL K H a ws ∧ KysAt H ws ks ∧ RowOk ks ∧ (3 ≤ j ∧ j ≤ 12 ∧ (ks.length : Int) ≤ 2 * 2 ^ j / 3) ∧
  ∀ p H', Same H H' → Fresh H p → H' p = some (.lst ((layN j ks ks.length).map V.int)) → Q (.ref p) H'
theorem len_cellsOf {K : PySem.W.Frag} {vs H Q E} (h : spCellsOf K vs H Q E) : vs.length = 2 := by obtain ⟨_, _, _, _, rfl, _⟩ := h; rfl
def spAhead (K : PySem.W.Frag) : Sp := fun vs H Q _ => ∃ (a : Addr) (v : V) (p s : Int) (cs : List Int) (k : Ky) (j : Nat), vs = [.ref a, v, .int p, .int s] ∧ SqL K H a (cs.map V.int) ∧ KyAt H v k ∧ (k.good = true ∧ k.dep ≤ 3) ∧ (cs.length = 2 ^ j ∧ j ≤ 12) ∧
  (∃ n : Nat, n < 2 ^ j ∧ probeF k.stamp (2 ^ j) n = s ∧ ∀ t : Nat, t < n → 0 ≤ getI cs (probeF k.stamp (2 ^ j) t) ∧ getI cs (probeF k.stamp (2 ^ j) t) < p) ∧ Q (.bl true) H
theorem len_ahead {K : PySem.W.Frag} {vs H Q E} (h : spAhead K vs H Q E) : vs.length = 4 := by obtain ⟨_, _, _, _, _, _, _, rfl, _⟩ := h; rfl
def spLaid (K : PySem.W.Frag) : Sp := fun vs H Q _ => ∃ (a r : Addr) (cs : List Int) (ws : List V) (ks : List Ky) (j : Nat), vs = [.ref a, .ref r, .int (2 ^ j)] ∧ H a = some (.lst (cs.map V.int)) ∧ SqL K H r ws ∧ KysAt H ws ks ∧ RowOk ks ∧ (3 ≤ j ∧ j ≤ 12) ∧ Laid ks j ks.length cs ∧ ∀ H', Same H H' → Q (.bl true) H'
theorem len_laid {K : PySem.W.Frag} {vs H Q E} (h : spLaid K vs H Q E) : vs.length = 3 := by obtain ⟨_, _, _, _, _, _, rfl, _⟩ := h; rfl
/-- the places' slots -/
def Sl (kvs : List (Key × V)) (cs : List Int) (i : Nat) : Prop := (∀ s : Nat, s < i → getI cs s ≠ -1 → valV kvs (.inl (getI cs s)) = some (.int s)) ∧ ∀ (v : Int) x, valV kvs (.inl v) = some x → ∃ s : Nat, s < i ∧ getI cs s = v ∧ v ≠ -1
theorem Sl.nil (cs : List Int) : Sl [] cs 0 := ⟨fun s h => by omega, fun v x h => by cases h⟩
theorem Sl.skip {kvs : List (Key × V)} {cs : List Int} {i : Nat} (h : Sl kvs cs i) (e : ¬ ¬ getI cs (i : Int) = -1) : Sl kvs cs (i + 1) := by
  refine ⟨fun s hs ne => ?_, fun v x hv => ?_⟩
  · rcases Nat.lt_or_ge s i with q | q
    · exact h.1 s q ne
    · have : s = i := by omega
      subst this
      exact absurd ne e
  · obtain ⟨s, a, b⟩ := h.2 v x hv
    exact ⟨s, by omega, b⟩
theorem Sl.put {kvs : List (Key × V)} {cs : List Int} {i : Nat} {c : Int} (h : Sl kvs cs i) (e : getI cs (i : Int) = c) (ne : c ≠ -1) (nw : valV kvs (.inl c : Key) = none) : Sl (putK kvs (.inl c) (.int i)) cs (i + 1) := by
  refine ⟨fun s hs n2 => ?_, fun v x hv => ?_⟩
  · rw [valV_put]
    rcases Nat.lt_or_ge s i with q | q
    · have := h.1 s q n2
      rw [if_neg, this]
      intro c2
      rw [c2] at this
      rw [this] at nw
      cases nw
    · have : s = i := by omega
      subst this
      rw [e, if_pos rfl]
  · rw [valV_put] at hv
    split at hv
    · rename_i c2
      cases c2
      exact ⟨i, by omega, e, ne⟩
    · obtain ⟨s, a, b⟩ := h.2 v x hv
      exact ⟨s, by omega, b⟩
theorem Sl.new {ks : List Ky} {j i : Nat} {kvs : List (Key × V)} {cs : List Int} {c : Int} (L : Laid ks j ks.length cs) (h : Sl kvs cs i) (hi : i < 2 ^ j) (e : getI cs (i : Int) = c) (ne : c ≠ -1) : valV kvs (.inl c : Key) = none := by
  cases q : valV kvs (.inl c : Key) with
  | none => rfl
  | some x =>
    obtain ⟨s, h1, h2, _⟩ := h.2 c x q
    have pc := pow_cast j
    have := L.inj s i (by omega) (by omega) (by omega) (by omega) (by rw [h2, e]) (by rw [h2]; exact ne)
    omega
end My
namespace My
open PySem PySem.Spec PyProof.Rows L2
/-! papers -/
section
variable {H H' : Hp} {K : PySem.W.Frag}
theorem eq_any {v w : V} {k l : Ky} {Q : VK} (hv : KyAt H v k) (hw : KyAt H w l) (gk : k.dat = true) (gl : l.dat = true) (dk : k.dep ≤ 60) (dl : l.dep ≤ 60) (q : Q (.bl (decide (k = l))) H) : rEqD K v w H Q := by
  refine ⟨k.toD, l.toD, KyAt.dpD k v gk hv, KyAt.dpD l w gl hw, Ky.shapedD gk dk, Ky.shapedD gl dl, ?_⟩
  rw [Ky.eqvD _ _ gk gl, Ky.beq_dec]
  exact q
theorem ne_any {v w : V} {k l : Ky} {Q : VK} (hv : KyAt H v k) (hw : KyAt H w l) (gk : k.dat = true) (gl : l.dat = true) (dk : k.dep ≤ 60) (dl : l.dep ≤ 60) (q : Q (.bl (!decide (k = l))) H) : rNeD K v w H Q := by
  refine ⟨k.toD, l.toD, KyAt.dpD k v gk hv, KyAt.dpD l w gl hw, Ky.shapedD gk dk, Ky.shapedD gl dl, ?_⟩
  rw [Ky.eqvD _ _ gk gl, Ky.beq_dec]
  exact q
end
theorem RowOk.one {k : Ky} (h : k = .non ∨ KeyOk k) : k.dat = true ∧ k.dep ≤ 60 := by
  rcases h with rfl | h
  · exact ⟨rfl, by simp [Ky.dep]⟩
  · exact ⟨Ky.dat_of h.g, by have := h.d; omega⟩
def CellsOk (cs : List Int) (n : Nat) : Prop := ∀ s : Int, 0 ≤ s → s < cs.length → getI cs s = -1 ∨ getI cs s = -2 ∨ (0 ≤ getI cs s ∧ getI cs s < n)
def stopB (cs : List Int) (ks : List Ky) (j : Nat) (k : Ky) (n : Nat) : Bool := decide (getI cs (probeF k.stamp (2 ^ j) n) = -1) || (decide (getI cs (probeF k.stamp (2 ^ j) n) ≠ -2) && decide (ks[(getI cs (probeF k.stamp (2 ^ j) n)).toNat]? = some k))
def paperN (cs : List Int) (ks : List Ky) (j : Nat) (k : Ky) : Nat := match (List.range (2 ^ j)).find? (stopB cs ks j k) with
  | some n => n + 1
  | none => 2 ^ j
def pairK (a b : Int) : Ky := .tup [.num a, .num b]
def pairAt (cs : List Int) (j : Nat) (k : Ky) (n : Nat) : Ky := pairK (probeF k.stamp (2 ^ j) n) (getI cs (probeF k.stamp (2 ^ j) n))
def paperK (cs : List Int) (ks : List Ky) (j : Nat) (k : Ky) : List Ky := (List.range (paperN cs ks j k)).map (pairAt cs j k)
theorem paperN_stop {cs : List Int} {ks : List Ky} {j i : Nat} {k : Ky} (hi : i < 2 ^ j) (h : stopB cs ks j k i = true) (b : ∀ t : Nat, t < i → stopB cs ks j k t = false) : paperN cs ks j k = i + 1 := by
  have e : (List.range (2 ^ j)).find? (stopB cs ks j k) = some i := by
    rw [List.find?_range_eq_some]
    exact ⟨h, List.mem_range.mpr hi, fun t ht => by rw [b t ht]; rfl⟩
  unfold paperN
  rw [e]
theorem paperN_none {cs : List Int} {ks : List Ky} {j : Nat} {k : Ky} (b : ∀ t : Nat, t < 2 ^ j → stopB cs ks j k t = false) : paperN cs ks j k = 2 ^ j := by
  have e : (List.range (2 ^ j)).find? (stopB cs ks j k) = none := by
    rw [List.find?_eq_none]
    intro t ht
    rw [b t (List.mem_range.mp ht)]
    decide
  unfold paperN
  rw [e]
theorem paperN_range (cs : List Int) (ks : List Ky) (j : Nat) (k : Ky) : 0 < paperN cs ks j k ∧ paperN cs ks j k ≤ 2 ^ j ∧ (∀ t : Nat, t + 1 < paperN cs ks j k → stopB cs ks j k t = false) ∧ (paperN cs ks j k < 2 ^ j → stopB cs ks j k (paperN cs ks j k - 1) = true) ∧
    ((∃ t : Nat, t < 2 ^ j ∧ stopB cs ks j k t = true) → stopB cs ks j k (paperN cs ks j k - 1) = true) := by
  have z : 0 < 2 ^ j := Nat.pow_pos (by decide)
  cases q : (List.range (2 ^ j)).find? (stopB cs ks j k) with
  | none =>
    have q' := q
    rw [List.find?_eq_none] at q
    have b : ∀ t : Nat, t < 2 ^ j → stopB cs ks j k t = false := fun t ht => by simpa using q t (List.mem_range.mpr ht)
    have e := paperN_none b
    rw [e]
    refine ⟨z, Nat.le_refl _, fun t ht => b t (by omega), fun h => by omega, fun ⟨t, h1, h2⟩ => ?_⟩
    rw [b t h1] at h2
    cases h2
  | some n =>
    rw [List.find?_range_eq_some] at q
    obtain ⟨q1, q2, q3⟩ := q
    have q2 := List.mem_range.mp q2
    have b : ∀ t : Nat, t < n → stopB cs ks j k t = false := fun t ht => by simpa using q3 t ht
    rw [paperN_stop q2 q1 b]
    exact ⟨by omega, by omega, fun t ht => b t (by omega), fun _ => q1, fun _ => q1⟩
def spPaper (K : PySem.W.Frag) : Sp := fun vs H Q _ => ∃ (a r : Addr) (v : V) (cs : List Int) (ws : List V) (ks : List Ky) (k : Ky) (j : Nat), vs = [.ref a, .ref r, v] ∧ SqL K H a (cs.map V.int) ∧ SqL K H r ws ∧ KysAt H ws ks ∧ KyAt H v k ∧ RowOk ks ∧ KeyOk k ∧
  (cs.length = 2 ^ j ∧ j ≤ 12) ∧ CellsOk cs ks.length ∧ ∀ (p : Addr) (H' : Hp) (xs : List V), Same H H' → Fresh H p → H' p = some (.lst xs) → KysAt H' xs (paperK cs ks j k) → Q (.ref p) H'
theorem len_paper {K : PySem.W.Frag} {vs H Q E} (h : spPaper K vs H Q E) : vs.length = 3 := by obtain ⟨_, _, _, _, _, _, _, _, rfl, _⟩ := h; rfl
def lastCell (cs : List Int) (ks : List Ky) (j : Nat) (k : Ky) : Int := getI cs (probeF k.stamp (2 ^ j) ((paperN cs ks j k - 1 : Nat) : Int))
def spPlaceOf (K : PySem.W.Frag) : Sp := fun vs H Q _ => ∃ (a r : Addr) (v : V) (cs : List Int) (ws : List V) (ks : List Ky) (k : Ky) (j : Nat), vs = [.ref a, .ref r, v] ∧ SqL K H a (cs.map V.int) ∧ SqL K H r ws ∧ KysAt H ws ks ∧ KyAt H v k ∧ RowOk ks ∧ KeyOk k ∧
  (cs.length = 2 ^ j ∧ j ≤ 12) ∧ CellsOk cs ks.length ∧ ∀ (H' : Hp), Same H H' → Q (if lastCell cs ks j k = -1 then .non else .int (lastCell cs ks j k)) H'
theorem len_placeOf {K : PySem.W.Frag} {vs H Q E} (h : spPlaceOf K vs H Q E) : vs.length = 3 := by obtain ⟨_, _, _, _, _, _, _, _, rfl, _⟩ := h; rfl
theorem KysAt.at : ∀ {H : Hp} {ks : List Ky} {vs : List V} {i : Nat} {k : Ky}, KysAt H vs ks → ks[i]? = some k → ∃ v, vs[i]? = some v ∧ KyAt H v k
  | _, [], _, _, _, _, e => by simp at e
  | _, x :: ks, _, 0, k, h, e => by
    cases h with
    | cons h t =>
      simp at e
      subst e
      exact ⟨_, rfl, h⟩
  | _, x :: ks, _, i + 1, k, h, e => by
    cases h with
    | cons h t =>
      obtain ⟨v, e', h'⟩ := KysAt.at (i := i) t (by simpa using e)
      exact ⟨v, by simpa using e', h'⟩
theorem atI_last {xs : List V} {v : V} (h : xs[xs.length - 1]? = some v) : atI xs (-1) = some v := by
  have hp : 0 < xs.length := by
    rcases Nat.eq_zero_or_pos xs.length with e | e
    · rw [List.length_eq_zero_iff] at e
      subst e
      cases h
    · exact e
  have e : ixN xs.length (-1) = some (xs.length - 1) := by
    unfold ixN
    rw [if_neg (by decide), if_pos (by omega)]
    congr 1
    omega
  unfold atI
  rw [e]
  exact h
theorem pair_of {H : Hp} {v : V} {a b : Int} (h : KyAt H v (pairK a b)) : ∃ p : Addr, v = .ref p ∧ H p = some (.tup [.int a, .int b]) := by
  unfold pairK at h
  cases h with
  | tup h p =>
    cases p with
    | cons h1 t =>
      cases t with
      | cons h2 t =>
        cases t
        cases h1
        cases h2
        exact ⟨_, rfl, h⟩
theorem pairK_dat (a b : Int) : (pairK a b).dat = true ∧ (pairK a b).dep ≤ 60 := by
  unfold pairK
  refine ⟨by simp [Ky.dat, Ky.good, Ky.goods], by simp [Ky.dep, Ky.deps]⟩
def spPaperB (K : PySem.W.Frag) : Sp := fun vs H Q _ => ∃ (p a r : Addr) (v : V) (xs : List V) (cs : List Int) (ws : List V) (ks : List Ky) (k : Ky) (j : Nat), vs = [.ref p, .ref a, .ref r, v] ∧ H p = some (.lst xs) ∧ KysAt H xs (paperK cs ks j k) ∧ SqL K H a (cs.map V.int) ∧ SqL K H r ws ∧ KysAt H ws ks ∧ KyAt H v k ∧ RowOk ks ∧ KeyOk k ∧
  (cs.length = 2 ^ j ∧ j ≤ 12) ∧ CellsOk cs ks.length ∧ (-1) ∈ cs ∧ ∀ (H' : Hp), Same H H' → Q (.bl true) H'
theorem len_paperB {K : PySem.W.Frag} {vs H Q E} (h : spPaperB K vs H Q E) : vs.length = 4 := by obtain ⟨_, _, _, _, _, _, _, _, _, _, rfl, _⟩ := h; rfl
theorem stop_ex {cs : List Int} {ks : List Ky} {j : Nat} {k : Ky} (hj : j ≤ 12) (e : cs.length = 2 ^ j) (h : (-1) ∈ cs) : ∃ t : Nat, t < 2 ^ j ∧ stopB cs ks j k t = true := by
  have b := bare_ex k.stamp hj e h
  refine ⟨_, b.1, ?_⟩
  unfold stopB
  rw [b.2.1]
  rfl
theorem paper_stops {cs : List Int} {ks : List Ky} {j : Nat} {k : Ky} (hj : j ≤ 12) (e : cs.length = 2 ^ j) (h : (-1) ∈ cs) {i : Nat} (hi : i < paperN cs ks j k) : stopB cs ks j k i = decide (i = paperN cs ks j k - 1) := by
  obtain ⟨n0, n1, n2, n3, n4⟩ := paperN_range cs ks j k
  by_cases q : i = paperN cs ks j k - 1
  · rw [decide_eq_true q, q]
    exact n4 (stop_ex hj e h)
  · rw [decide_eq_false q]
    exact n2 i (by omega)
def spPlaceB : Sp := fun vs H Q _ => ∃ c : Int, vs = [if c = -1 then .non else .int c, .int c] ∧ Q (.bl true) H
theorem len_placeB {vs H Q E} (h : spPlaceB vs H Q E) : vs.length = 2 := by obtain ⟨_, rfl, _⟩ := h; rfl
def spRow (K : PySem.W.Frag) : Sp := fun vs H Q _ => ∃ (a : Addr) (xs : List Int) (w b : Int), vs = [.ref a, .int w, .int b] ∧ SqL K H a (xs.map V.int) ∧ (∀ x ∈ xs, 0 ≤ x ∧ x < 2 ^ 44) ∧ (xs.length ≤ 1000 ∧ 0 ≤ b ∧ b < 2 ^ 42) ∧
  ∀ (p : Addr) (H' : Hp) (ws : List V) (ks : List Ky), Same H H' → Fresh H p → H' p = some (.lst ws) → KysAt H' ws ks → RowOk ks → ws.length = xs.length → Q (.ref p) H'
theorem len_row {K : PySem.W.Frag} {vs H Q E} (h : spRow K vs H Q E) : vs.length = 3 := by obtain ⟨_, _, _, _, rfl, _⟩ := h; rfl
/-- two lists of a list of ints and a row -/
theorem eq_handed {K : PySem.W.Frag} {H : Hp} {a b c d r q : Addr} {cs : List Int} {ws us : List V} {ks : List Ky} {Q : VK} (ha : SqL K H a [.ref c, .ref r]) (hb : SqL K H b [.ref d, .ref q]) (hc : SqL K H c (cs.map V.int)) (hd : SqL K H d (cs.map V.int)) (hr : SqL K H r ws) (hw : KysAt H ws ks) (hq : SqL K H q us) (hu : KysAt H us ks) (dk : Ky.dats ks) (h : Q (.bl true) H) : rEqD K (.ref a) (.ref b) H Q := by
  have sh : SeqAt.shaped (.list [.list (cs.map PyData.int), .list (Ky.toDs ks)]) = true := by
    unfold SeqAt.shaped
    have := Ky.depsD ks dk
    simp only [PyData.canLay0, PyData.canLayAll0, canLay_ints, Ky.canLaysD ks dk, PyData.depth, PyData.depthAll, depth_ints, Bool.and_true, Bool.true_and]
    exact decide_eq_true (by omega)
  refine ⟨.list [.list (cs.map PyData.int), .list (Ky.toDs ks)], .list [.list (cs.map PyData.int), .list (Ky.toDs ks)], .lst ha (.cons (.lst hc (DpAll_ints cs)) (.cons (.lst hr (KysAt.dpD ks _ dk hw)) .nil)), .lst hb (.cons (.lst hd (DpAll_ints cs)) (.cons (.lst hq (KysAt.dpD ks _ dk hu)) .nil)), sh, sh, ?_⟩
  have e : PyData.eqv (.list [.list (cs.map PyData.int), .list (Ky.toDs ks)]) (.list [.list (cs.map PyData.int), .list (Ky.toDs ks)]) = true := by
    simp only [PyData.eqv, PyData.eqvAll, eqvAll_ints, Ky.eqvsD ks ks dk dk, Ky.beqs_dec, decide_true, Bool.and_true]
  rw [e]
  exact h
theorem getI_in {ps : List Int} {c : Int} (h0 : 0 ≤ c) (h1 : c < ps.length) : getI ps c ∈ ps := by
  have hlt : c.toNat < ps.length := by omega
  unfold getI
  rw [List.getD_eq_getElem?_getD, List.getElem?_eq_getElem hlt]
  exact List.getElem_mem hlt
theorem ne_ints {K : PySem.W.Frag} {H : Hp} {a b : Addr} {xs ys : List Int} {Q : VK} (ha : SqL K H a (xs.map V.int)) (hb : SqL K H b (ys.map V.int)) (q : Q (.bl (!decide (xs = ys))) H) : rNeD K (.ref a) (.ref b) H Q :=
  ⟨.list (xs.map PyData.int), .list (ys.map PyData.int), .lst ha (DpAll_ints xs), .lst hb (DpAll_ints ys), shaped_ints xs, shaped_ints ys, by rw [PyData.eqv, eqvAll_ints]; exact q⟩
end My
namespace My
open PySem PySem.Spec PyProof.Rows L2
/-! a sign repeated; zip -/
def rMulS : R2 := fun x y H Q => ∃ (z : Str) (c : Nat) (n : Int), x = .str z ∧ y = .int n ∧ z = ⟨#[c]⟩ ∧ (0 ≤ n ∧ n ≤ 1000) ∧ Q (.str (SX.S (List.replicate n.toNat c))) H
theorem mul_fold (c : Nat) : ∀ (n : Nat) (a : Array Nat), ((List.replicate n #[c]).foldl (· ++ ·) a).toList = a.toList ++ List.replicate n c
  | 0, a => by simp
  | n + 1, a => by
    rw [List.replicate_succ, List.foldl_cons, mul_fold c n]
    simp [List.replicate_succ]
theorem mul_one (c : Nat) {n : Int} (h : 0 ≤ n) : Txt.mul ⟨#[c]⟩ n = SX.S (List.replicate n.toNat c) := by
  unfold Txt.mul
  by_cases h1 : n < 1
  · rw [if_pos h1]
    have e : n = 0 := by omega
    subst e
    rfl
  · rw [if_neg h1]
    by_cases h2 : n = 1
    · subst h2
      rfl
    · have hl : (⟨#[c]⟩ : Str).length = 1 := rfl
      rw [if_neg (by rw [hl]; simp [h2])]
      refine TL.ext_tl ?_
      have e := mul_fold c n.toNat #[]
      simp at e
      show ((List.replicate n.toNat #[c]).foldl (· ++ ·) #[]).toList = _
      rw [e]
theorem op_mulS {X : Cx} : OpR X (binaryOp .Mult) rMulS := by
  intro pins s σ H x y v u Q I rx ry h
  obtain ⟨z, c, n, rfl, rfl, rfl, ⟨h0, h1⟩, q⟩ := h
  obtain ⟨t, rfl⟩ := rx
  obtain ⟨t2, rfl⟩ := ry
  have hl : (⟨#[c]⟩ : Str).length = 1 := rfl
  refine SB.mul (n := n) ⟨?_, fun a b => ?_, fun a b => ?_⟩ fun t' k => ?_
  · rw [decide_eq_false (by omega), decide_eq_false (by omega)]
    rfl
  · rw [hl]
    have : (1 : Int) ≤ (2 ^ 63 - 1) / n := Int.le_ediv_of_mul_le (by omega) (by omega)
    omega
  · rw [hl, Nat.one_mul]
    unfold Builtin.Str.tooLong
    simp only [sizeLine_eq]
    exact decide_eq_false (by omega)
  · rw [mul_one c h0]
    exact ⟨.str (SX.S (List.replicate n.toNat c)), H, I.tok _, ⟨_, rfl⟩, q⟩
theorem rd_mulS {z : Str} {n : Int} {H : Hp} {Q : VK} : rMulS (.str z) (.int n) H Q = ∃ c : Nat, z = ⟨#[c]⟩ ∧ (0 ≤ n ∧ n ≤ 1000) ∧ Q (.str (SX.S (List.replicate n.toNat c))) H := by
  unfold rMulS
  apply propext
  constructor
  · rintro ⟨z', c, n', e1, e2, e3, q⟩; cases e1; cases e2; exact ⟨c, e3, q⟩
  · rintro ⟨c, e3, q⟩; exact ⟨z, c, n, rfl, rfl, e3, q⟩
theorem one_sign {c : Nat} {z : Str} (h : z.cps = #[c]) : z = ⟨#[c]⟩ := by
  cases z
  exact congrArg _ h
def isR2a (vs : List V) (f : Addr → Addr → Prop) : Prop := match vs with | [.ref a, .ref b] => f a b | _ => False
theorem rd_isR2a {a b : Addr} {f : Addr → Addr → Prop} : isR2a [.ref a, .ref b] f = f a b := rfl
theorem rd_zipA {K : PySem.W.Frag} {tr : TA} {σ : L2.St} {H : Hp} {R : It → Hp → Prop} : RZ.iZipA K tr σ H R = tr σ H fun vs H1 => isR2a vs fun a b => ∃ xs ys, (SqL K H1 a xs ∧ SqL K H1 b ys ∧ R (Itz K a b) H1) ∨ (SqT K H1 a xs ∧ SqT K H1 b ys ∧ R (RZ.ItzT K a b) H1) := by
  unfold RZ.iZipA
  apply congrArg
  funext vs H1
  apply propext
  constructor
  · rintro ⟨a, b, xs, ys, rfl, h⟩; exact ⟨xs, ys, h⟩
  · intro h
    unfold isR2a at h
    split at h
    · obtain ⟨xs, ys, h⟩ := h
      exact ⟨_, _, xs, ys, rfl, h⟩
    · exact h.elim
theorem walk_zipT {K : PySem.W.Frag} {a b : Addr} {xs ys : List V} {n : Nat} (hn : n = min xs.length ys.length) : Walk (RZ.ItzT K a b) n (fun H => SqT K H a xs ∧ SqT K H b ys) (YPair (fun i => xs[i]?) (fun i => ys[i]?)) := by
  constructor
  · intro i H lt both
    have lx := List.getElem?_eq_getElem (l := xs) (i := i) (by omega)
    have ly := List.getElem?_eq_getElem (l := ys) (i := i) (by omega)
    exact ⟨xs, ys, _, _, both.1, both.2, lx, ly⟩
  · intro H both
    exact ⟨xs, ys, both.1, both.2, by omega⟩
  · intro i H v H' _ both gives
    obtain ⟨t, u1, u2, e, new, after, f1, f2⟩ := gives
    exact ⟨t, u1, u2, e, new, after, f1 xs both.1, f2 ys both.2⟩
/-- zip of two lists of one length -/
theorem go_zip {K : PySem.W.Frag} {D : Ends} {σ : L2.St} {H : Hp} {a b : Addr} {xs ys : List V} {g : TG} {tb : TS} (e : xs.length = ys.length) (Pv : Nat → L2.St → Hp → Prop) (h0 : Pv 0 σ H) (hl : ∀ i σ H, i ≤ xs.length → Pv i σ H → SqL K H a xs ∧ SqL K H b ys)
    (hs : ∀ (N : L2.St → Hp → Prop) (i : Nat) x y σ H T, xs[i]? = some x → ys[i]? = some y → Pv i σ H → Fresh H T → (∀ σ' H', Pv (i + 1) σ' H' → N σ' H') → g (.ref T) σ (upd H T (.tup [x, y])) fun σ2 H2 => tb { D with nx := N, ct := N, bk := D.nx } σ2 H2) (hd : ∀ σ H, Pv xs.length σ H → D.nx σ H) : forGo (Itz K a b) g tb D σ H := by
  refine go_it (walk_zip (xs := xs) (ys := ys) (n := xs.length) (by omega)) Pv h0 hl ?_ hd
  rintro N i x σ H H' hi p ⟨T, x1, y1, rfl, hT, rfl, e1, e2⟩ hN
  exact hs N i x1 y1 σ H T e1 e2 p hT hN
theorem rd_yes {σ : L2.St} {H : Hp} {QT : Bool → Hp → Prop} : tYes σ H QT = QT true H := rfl
/-- all of a list of True -/
theorem all_true {K : PySem.W.Frag} {H : Hp} {p : Addr} {n : Nat} {Q : VK} (h : H p = some (.lst (List.replicate n (V.bl true)))) (q : Q (.bl true) H) : rAll K [.ref p] H Q := by
  refine ⟨p, List.replicate n true, rfl, SqL.of (by rw [List.map_replicate]; exact h), ?_⟩
  have e : (List.replicate n true).all id = true := by simp
  rw [e]
  exact q
/-- a comprehension whose items are all True -/
theorem go_lct {J : It} {n : Nat} {G : Hp → Prop} {Y : Nat → Hp → V → Hp → Prop} (w : L2.Walk J n G Y) {g : TG} {te : TE} {vs : List Nat} {σ : L2.St} {H1 : Hp} {D : Addr} {Qd : Hp → Prop} (hz : n ≤ sizeLine) (hD : Fresh H1 D)
    (hG : ∀ H, Same H1 H → G H)
    (hs : ∀ (N : VK) i x H H', i < n → Same H1 H → Y i H x H' → (∀ H4, Same H H4 → N (.bl true) H4) → g x (wipe σ vs) H' fun σ2 H2 => wipe σ2 vs = wipe σ vs ∧ te σ2 H2 N)
    (hd : ∀ H, Same H1 H → H D = some (.lst (List.replicate n (V.bl true))) → Qd H) (mono : ∀ (A B : L2.St → Hp → Prop) x σ H, (∀ σ H, A σ H → B σ H) → g x σ H A → g x σ H B) : lcGo J g tYes te vs σ H1 D Qd := by
  refine go_lcm w (List.replicate n (V.bl true)) List.length_replicate hz hD hG (fun N i x H H' hi s y h => hs N i x H H' hi s y fun H4 s4 => h _ H4 ?_ s4) hd mono
  rw [List.getElem?_replicate, if_pos hi]
theorem gTup2_mono {K : PySem.W.Frag} {i j : Nat} (A B : L2.St → Hp → Prop) (x : V) (σ : L2.St) (H : Hp) (h : ∀ σ H, A σ H → B σ H) (q : gTup K 2 (gCons (gName i) (gCons (gName j) gNil)) x σ H A) : gTup K 2 (gCons (gName i) (gCons (gName j) gNil)) x σ H B := by
  obtain ⟨a, xs, rfl, hs, hl, q⟩ := q
  refine ⟨a, xs, rfl, hs, hl, ?_⟩
  match xs, hl, q with
  | [x, y], _, q =>
    simp only [rd_gCons, rd_gName, rd_gNil] at q ⊢
    exact h _ _ q
theorem rd_lenSet {K : PySem.W.Frag} {ta : TE} {σ : L2.St} {H : Hp} {Q : VK} : RZ.tLenSetI K ta σ H Q = ta σ H fun x H1 => isRef x fun l => ∃ ns : List Int, SqL K H1 l (ns.map V.int) ∧ ns.Nodup ∧ ns.length ≤ 4000 ∧ Q (.int (ns.length : Nat)) H1 := by
  unfold RZ.tLenSetI
  apply congrArg
  funext x H1
  rw [← isRef_eq]
  apply propext
  constructor
  · rintro ⟨a, v, e, h⟩; exact ⟨a, e, v, h⟩
  · rintro ⟨a, e, v, h⟩; exact ⟨a, v, e, h⟩
theorem rd_min {K : PySem.W.Frag} {a : Addr} {H : Hp} {Q : VK} : rMin K [.ref a] H Q = ∃ ns : List Int, SqL K H a (ns.map V.int) ∧ 0 < ns.length ∧ ∀ m, m ∈ ns → (∀ y, y ∈ ns → m ≤ y) → Q (.int m) H := by
  unfold rMin
  apply propext
  constructor
  · rintro ⟨a', ns, e, q⟩; cases e; exact ⟨ns, q⟩
  · rintro ⟨ns, q⟩; exact ⟨a, ns, rfl, q⟩
end My
namespace My
open PySem PySem.Spec PyProof.Rows L2
/-! values: numbers, texts, none, tuples of values -/
mutual
def Ky.val : Ky → Bool
  | .num _ => true
  | .txt x => PyData.strOk x
  | .non => true
  | .tup ks => decide (ks.length ≤ 1000) && Ky.vals ks
  | _ => false
def Ky.vals : List Ky → Bool
  | [] => true
  | k :: ks => Ky.val k && Ky.vals ks
end
theorem vals_get : ∀ {ks : List Ky} {i : Nat} {k : Ky}, Ky.vals ks = true → ks[i]? = some k → k.val = true
  | [], i, k, _, h => by simp at h
  | x :: xs, 0, k, g, h => by
    have g' : x.val = true ∧ Ky.vals xs = true := by simpa [Ky.vals] using g
    simp at h
    subst h
    exact g'.1
  | x :: xs, i + 1, k, g, h => by
    have g' : x.val = true ∧ Ky.vals xs = true := by simpa [Ky.vals] using g
    exact vals_get (ks := xs) (i := i) g'.2 (by simpa using h)
theorem vals_iff : ∀ {ks : List Ky}, Ky.vals ks = true ↔ ∀ k ∈ ks, k.val = true
  | [] => by simp [Ky.vals]
  | k :: ks => by
    rw [Ky.vals, Bool.and_eq_true, vals_iff (ks := ks)]
    simp
theorem val_of : ∀ (d : Nat) (k : Ky), within d k = true → k.good = true → k.val = true
  | _, .num _, _, _ => by simp [Ky.val]
  | _, .txt x, _, h => by simpa [Ky.val, Ky.good] using h
  | 0, .tup ks, h, _ => by simp [within] at h
  | d + 1, .tup ks, h, g => by
    simp only [within, Bool.and_eq_true, decide_eq_true_eq, List.all_eq_true] at h
    rw [Ky.val, decide_eq_true (by omega), Bool.true_and, vals_iff]
    intro k hk
    obtain ⟨i, hi, e⟩ := List.mem_iff_getElem.mp hk
    exact val_of d k (h.2 k hk) (goods_get (by simpa [Ky.good] using g) (List.getElem?_eq_some_iff.mpr ⟨hi, e⟩))
  | _, .bl _, _, h => by simp [Ky.good] at h
  | _, .non, _, h => by simp [Ky.good] at h
  | _, .lst _, _, h => by simp [Ky.good] at h
  | _, .dct, _, h => by simp [Ky.good] at h
theorem KOk.val {d : Nat} {k : Ky} (h : KOk d k) : k.val = true := val_of d k h.w h.g
theorem tup_val {ks : List Ky} (h : (Ky.tup ks).val = true) : ks.length ≤ 1000 ∧ Ky.vals ks = true := by simpa [Ky.val] using h
theorem deps_get : ∀ {ks : List Ky} {i : Nat} {k : Ky}, ks[i]? = some k → k.dep ≤ Ky.deps ks
  | [], i, k, h => by simp at h
  | x :: xs, 0, k, h => by
    simp at h
    subst h
    rw [Ky.deps]
    omega
  | x :: xs, i + 1, k, h => by
    have := deps_get (ks := xs) (i := i) (by simpa using h)
    rw [Ky.deps]
    omega
section
variable {H H' : Hp}
/-- H' keeps what stands outside of fp -/
def But (fp : List Addr) (H H' : Hp) : Prop := ∀ b o, H b = some o → b ∉ fp → H' b = some o
/-- no tuple stands at fp -/
def NoTup (H : Hp) (fp : List Addr) : Prop := ∀ b ∈ fp, ∀ xs, H b ≠ some (.tup xs)
mutual
theorem KyAt.keep {fp : List Addr} (s : But fp H H') (n : NoTup H fp) : ∀ (y : Ky) (v : V), y.val = true → KyAt H v y → KyAt H' v y
  | .num i, _, _, h => by cases h; exact .num i
  | .txt x, _, _, h => by cases h; exact .txt x
  | .non, _, _, h => by cases h; exact .non
  | .tup ks, _, g, h => by
    cases h with
    | tup h p => exact .tup (s _ _ h fun hm => n _ hm _ h) (KysAt.keep s n ks _ (tup_val g).2 p)
  | .bl _, _, g, _ => by simp [Ky.val] at g
  | .lst _, _, g, _ => by simp [Ky.val] at g
  | .dct, _, g, _ => by simp [Ky.val] at g
theorem KysAt.keep {fp : List Addr} (s : But fp H H') (n : NoTup H fp) : ∀ (ks : List Ky) (vs : List V), Ky.vals ks = true → KysAt H vs ks → KysAt H' vs ks
  | [], _, _, h => by cases h; exact .nil
  | y :: ks, _, g, h => by
    have g' : y.val = true ∧ Ky.vals ks = true := by simpa [Ky.vals] using g
    cases h with
    | cons h t => exact .cons (KyAt.keep s n y _ g'.1 h) (KysAt.keep s n ks _ g'.2 t)
end
theorem But.of (s : Same H H') (fp : List Addr) : But fp H H' := fun b o e _ => s b o e
theorem But.trans {fp : List Addr} {H1 H2 H3 : Hp} (s : But fp H1 H2) (t : But fp H2 H3) : But fp H1 H3 := fun b o e n => t b o (s b o e n) n
theorem But.mono {fp gp : List Addr} (s : But fp H H') (h : ∀ b ∈ fp, b ∈ gp) : But gp H H' := fun b o e n => s b o e fun q => n (h b q)
end
/-- a text, a number, none: told alike; tuples part by part -/
def spSame (n : Nat) : Sp := fun vs H Q _ => ∃ (v w : V) (k : Ky), vs = [v, w] ∧ KyAt H v k ∧ KyAt H w k ∧ (k.val = true ∧ k.dep ≤ n) ∧ ∀ H', Same H H' → Q (.bl true) H'
theorem len_same {n : Nat} {vs H Q E} (h : spSame n vs H Q E) : vs.length = 2 := by obtain ⟨_, _, _, rfl, _⟩ := h; rfl
def spRowsSame (K : PySem.W.Frag) : Sp := fun vs H Q _ => ∃ (a b : Addr) (xs ys : List V) (ks : List Ky), vs = [.ref a, .ref b] ∧ H a = some (.lst xs) ∧ H b = some (.lst ys) ∧ KysAt H xs ks ∧ KysAt H ys ks ∧ (∀ k ∈ ks, k.val = true ∧ k.dep ≤ 3) ∧ ks.length ≤ 5000 ∧ ∀ H', Same H H' → Q (.bl true) H'
theorem len_rowsSame {K : PySem.W.Frag} {vs H Q E} (h : spRowsSame K vs H Q E) : vs.length = 2 := by obtain ⟨_, _, _, _, _, rfl, _⟩ := h; rfl
end My
namespace My
open PySem PySem.Spec PyProof.Rows L2
/-! fields of own objects, methods, makings -/
section
variable {K : PySem.W.Frag} {H : Hp} {Q : VK} {R : Hp → Prop} {a C dx : Addr} {f : Str} {fs : List (Str × V)} {v : V} {σ : L2.St} {ta tv : TE} {D : Ends} {rd : V → V → Hp → VK → Prop}
def FldAt (K : PySem.W.Frag) (H : Hp) (a : Addr) (f : Str) (Q : VK) : Prop := ∃ C dx fs v, H a = some (.ins C dx fs) ∧ Cls K C ∧ NoAttr K C f ∧ fs.lookup f = some v ∧ Q v H
theorem rd_fld : tFld K ta f σ H Q = ta σ H fun x H1 => isRef x fun a => FldAt K H1 a f Q := by
  unfold tFld FldAt
  apply congrArg
  funext x H1
  rw [← isRef_eq]
  apply propext
  constructor
  · rintro ⟨a, C, dx, fs, v, e, h⟩; exact ⟨a, e, C, dx, fs, v, h⟩
  · rintro ⟨a, e, C, dx, fs, v, h⟩; exact ⟨a, C, dx, fs, v, e, h⟩
theorem fldAt (h : H a = some (.ins C dx fs)) (c : Cls K C) (n : NoAttr K C f) (l : fs.lookup f = some v) : FldAt K H a f Q = Q v H := by
  unfold FldAt
  apply propext
  constructor
  · rintro ⟨C', dx', fs', v', e, -, -, l', q⟩
    rw [h] at e
    cases e
    rw [l] at l'
    cases l'
    exact q
  · intro q
    exact ⟨C, dx, fs, v, h, c, n, l, q⟩
def SetAt (K : PySem.W.Frag) (H : Hp) (a : Addr) (f : Str) (y : V) (R : Hp → Prop) : Prop := ∃ C dx fs, H a = some (.ins C dx fs) ∧ Cls K C ∧ NoAttr K C f ∧ fs.length < 1000 ∧ R (upd H a (.ins C dx (putF f y fs)))
theorem rd_sfld : sFld K ta tv f D σ H = tv σ H fun y H1 => ta σ H1 fun x H2 => isRef x fun a => SetAt K H2 a f y fun H3 => D.nx σ H3 := by
  unfold sFld SetAt
  apply congrArg
  funext y H1
  apply congrArg
  funext x H2
  rw [← isRef_eq]
  apply propext
  constructor
  · rintro ⟨a, C, dx, fs, e, h⟩; exact ⟨a, e, C, dx, fs, h⟩
  · rintro ⟨a, e, C, dx, fs, h⟩; exact ⟨a, C, dx, fs, e, h⟩
theorem setAt {y : V} {gs : List (Str × V)} (h : H a = some (.ins C dx fs)) (c : Cls K C) (n : NoAttr K C f) (l : fs.length < 1000) (e : putF f y fs = gs) : SetAt K H a f y R = R (upd H a (.ins C dx gs)) := by
  unfold SetAt
  apply propext
  constructor
  · rintro ⟨C', dx', fs', e', -, -, -, q⟩
    rw [h] at e'
    cases e'
    rw [e] at q
    exact q
  · intro q
    exact ⟨C, dx, fs, h, c, n, l, by rw [e]; exact q⟩
theorem rd_aadd {i j : Int} : L2.rAdd (.int i) (.int j) H Q = Q (.int (i + j)) H := by
  unfold L2.rAdd
  apply propext
  constructor
  · rintro ⟨i', j', e1, e2, q⟩; cases e1; cases e2; exact q
  · intro q; exact ⟨i, j, rfl, rfl, q⟩
/-- o.f += e -/
def AugAt (K : PySem.W.Frag) (H : Hp) (a : Addr) (f : Str) (tv : TE) (rd : V → V → Hp → VK → Prop) (σ : L2.St) (R : Hp → Prop) : Prop := ∃ C dx fs v, H a = some (.ins C dx fs) ∧ Cls K C ∧ NoAttr K C f ∧ fs.lookup f = some v ∧
  tv σ H fun y H2 => rd v y H2 fun z H3 => ∃ dx' fs', H3 a = some (.ins C dx' fs') ∧ fs'.length < 1000 ∧ R (upd H3 a (.ins C dx' (putF f z fs')))
theorem rd_aug_fld : sFldAug K ta tv rd f D σ H = ta σ H fun x H1 => isRef x fun a => AugAt K H1 a f tv rd σ fun H3 => D.nx σ H3 := by
  unfold sFldAug AugAt
  apply congrArg
  funext x H1
  rw [← isRef_eq]
  apply propext
  constructor
  · rintro ⟨a, C, dx, fs, v, e, h⟩; exact ⟨a, e, C, dx, fs, v, h⟩
  · rintro ⟨a, e, C, dx, fs, v, h⟩; exact ⟨a, C, dx, fs, v, e, h⟩
/-- += of an int constant -/
theorem augAt {i j : Int} {gs : List (Str × V)} (h : H a = some (.ins C dx fs)) (c : Cls K C) (n : NoAttr K C f) (l : fs.lookup f = some (.int i)) (z : fs.length < 1000) (e : putF f (.int (i + j)) fs = gs) : AugAt K H a f (tC (.int j)) L2.rAdd σ R = R (upd H a (.ins C dx gs)) := by
  unfold AugAt
  apply propext
  constructor
  · rintro ⟨C', dx', fs', v', e', -, -, l', q⟩
    rw [h] at e'
    cases e'
    rw [l] at l'
    cases l'
    rw [rd_c, rd_aadd] at q
    obtain ⟨dx2, fs2, e2, -, q⟩ := q
    rw [h] at e2
    cases e2
    rw [e] at q
    exact q
  · intro q
    refine ⟨C, dx, fs, .int i, h, c, n, l, ?_⟩
    rw [rd_c, rd_aadd]
    exact ⟨dx, fs, h, z, by rw [e]; exact q⟩
/-- o.m(..): o is an instance with no field m -/
def MetAt (H : Hp) (a C : Addr) (m : Str) : Prop := ∃ dx fs, H a = some (.ins C dx fs) ∧ fs.lookup m = none
theorem rd_meth {m : Str} {sp : Sp} {dvs : List V} {E : XK} {t : TA} : tMeth C m sp dvs E ta t σ H Q = ta σ H fun x H1 => isRef x fun a => MetAt H1 a C m ∧ t σ H1 fun vs H2 => sp (.ref a :: (vs ++ dvs)) H2 Q E := by
  unfold tMeth MetAt
  apply congrArg
  funext x H1
  rw [← isRef_eq]
  apply propext
  constructor
  · rintro ⟨a, dx, fs, rfl, h, l, q⟩; exact ⟨a, rfl, ⟨dx, fs, h, l⟩, q⟩
  · rintro ⟨a, rfl, ⟨dx, fs, h, l⟩, q⟩; exact ⟨a, dx, fs, rfl, h, l, q⟩
theorem rd_make {sp : Sp} {dvs : List V} {E : XK} {t : TA} : tMake C sp dvs E t σ H Q = t σ H fun vs H1 => ∀ x dx, Fresh H1 x → Fresh H1 dx → dx ≠ x → sp (.ref x :: (vs ++ dvs)) (upd (upd H1 dx (.own x)) x (.ins C dx [])) (fun v H2 => v = .non ∧ Q (.ref x) H2) E := rfl
end
end My
namespace My
open PySem PySem.Spec PyProof.Rows L2
/-! two values alike, part by part -/
def AlikeN : Nat → Hp → V → V → Prop
  | 0, _, v, w => v = w ∧ scalV v = true
  | n + 1, H, v, w => (v = w ∧ scalV v = true) ∨ ∃ (a b : Addr) (xs ys : List V), v = .ref a ∧ w = .ref b ∧ ((H a = some (.tup xs) ∧ H b = some (.tup ys)) ∨ (H a = some (.lst xs) ∧ H b = some (.lst ys))) ∧ xs.length = ys.length ∧ xs.length ≤ 100000 ∧
    ∀ (i : Nat) x y, xs[i]? = some x → ys[i]? = some y → AlikeN n H x y
theorem AlikeN.scal {n : Nat} {H : Hp} {v : V} (h : scalV v = true) : AlikeN n H v v := by
  cases n with
  | zero => exact ⟨rfl, h⟩
  | succ n => exact .inl ⟨rfl, h⟩
theorem AlikeN.same : ∀ {n : Nat} {H H' : Hp} {v w : V}, AlikeN n H v w → Same H H' → AlikeN n H' v w
  | 0, _, _, _, _, h, _ => h
  | n + 1, H, H', v, w, h, s => by
    rcases h with h | ⟨a, b, xs, ys, e1, e2, e3, e4, e5, e6⟩
    · exact .inl h
    · exact .inr ⟨a, b, xs, ys, e1, e2, e3.elim (fun q => .inl ⟨s _ _ q.1, s _ _ q.2⟩) (fun q => .inr ⟨s _ _ q.1, s _ _ q.2⟩), e4, e5, fun i x y h1 h2 => (e6 i x y h1 h2).same s⟩
theorem alike_ky : ∀ {n : Nat} {H : Hp} {v w : V} (k : Ky), k.val = true → k.dep ≤ n → KyAt H v k → KyAt H w k → AlikeN n H v w
  | n, _, _, _, .num i, _, _, h, g => by cases h; cases g; exact .scal rfl
  | n, _, _, _, .txt x, _, _, h, g => by cases h; cases g; exact .scal rfl
  | n, _, _, _, .non, _, _, h, g => by cases h; cases g; exact .scal rfl
  | 0, _, _, _, .tup ks, _, d, _, _ => by rw [Ky.dep] at d; omega
  | n + 1, H, _, _, .tup ks, v, d, h, g => by
    rw [Ky.dep] at d
    cases h with
    | @tup a xs _ h p =>
      cases g with
      | @tup b ys _ h' p' =>
        have e1 := KysAt.len p
        have e2 := KysAt.len p'
        have := (tup_val v).1
        refine .inr ⟨a, b, xs, ys, rfl, rfl, .inl ⟨h, h'⟩, by omega, by omega, fun i x y g1 g2 => ?_⟩
        obtain ⟨k1, hk1, hx⟩ := p.get g1
        obtain ⟨k2, hk2, hy⟩ := p'.get g2
        rw [hk1] at hk2
        cases hk2
        have := deps_get hk1
        exact alike_ky k1 (vals_get (tup_val v).2 hk1) (by omega) hx hy
  | _, _, _, _, .bl _, v, _, _, _ => by simp [Ky.val] at v
  | _, _, _, _, .lst _, v, _, _, _ => by simp [Ky.val] at v
  | _, _, _, _, .dct, v, _, _, _ => by simp [Ky.val] at v
theorem alike_lst {n : Nat} {H : Hp} {a b : Addr} {xs ys : List V} {ks : List Ky} (ha : H a = some (.lst xs)) (hb : H b = some (.lst ys)) (hx : KysAt H xs ks) (hy : KysAt H ys ks) (v : ∀ k ∈ ks, k.val = true ∧ k.dep ≤ n) (z : ks.length ≤ 100000) : AlikeN (n + 1) H (.ref a) (.ref b) := by
  have e1 := KysAt.len hx
  have e2 := KysAt.len hy
  refine .inr ⟨a, b, xs, ys, rfl, rfl, .inr ⟨ha, hb⟩, by omega, by omega, fun i x y g1 g2 => ?_⟩
  obtain ⟨k1, hk1, hx1⟩ := hx.get g1
  obtain ⟨k2, hk2, hy1⟩ := hy.get g2
  rw [hk1] at hk2
  cases hk2
  obtain ⟨q1, q2⟩ := v k1 (List.mem_of_getElem? hk1)
  exact alike_ky k1 q1 q2 hx1 hy1
/-- tuples of flat things -/
theorem alike_flat {n : Nat} {H : Hp} {a b : Addr} {xs : List V} (ha : H a = some (.tup xs)) (hb : H b = some (.tup xs)) (s : ∀ x ∈ xs, scalV x = true) (z : xs.length ≤ 100000) : AlikeN (n + 1) H (.ref a) (.ref b) :=
  .inr ⟨a, b, xs, xs, rfl, rfl, .inl ⟨ha, hb⟩, rfl, z, fun i x y g1 g2 => by
    rw [g1] at g2
    cases g2
    exact .scal (s x (List.mem_of_getElem? g1))⟩
/-- what follows a cut -/
def After (u : TS) (D : Ends) (Mid : L2.St → Hp → Prop) : Prop := ∀ σ' H', Mid σ' H' → u D σ' H'
theorem rd_cut {t u : TS} {D : Ends} {σ : L2.St} {H : Hp} : C8.tCut t u D σ H = ∃ Mid : L2.St → Hp → Prop, t { D with nx := Mid } σ H ∧ After u D Mid := rfl
def spAlike (n : Nat) : Sp := fun vs H Q _ => ∃ v w, vs = [v, w] ∧ AlikeN n H v w ∧ ∀ H', Same H H' → Q (.bl true) H'
theorem len_alike {n : Nat} {vs H Q E} (h : spAlike n vs H Q E) : vs.length = 2 := by obtain ⟨_, _, rfl, _⟩ := h; rfl
theorem ix_seqK (K : PySem.W.Frag) {X : Cx} (h : X.K = K) : IxR X (rIx K) := h ▸ ix_seq
theorem rd_ixQ {K : PySem.W.Frag} {p : Addr} {i : Int} {H : Hp} {Q : VK} : rIx K (.ref p) (.int i) H Q = ∃ xs v, (SqL K H p xs ∨ SqT K H p xs) ∧ atI xs i = some v ∧ Q v H := by
  unfold rIx
  rw [rd_ixL, rd_ixT]
  apply propext
  constructor
  · rintro (⟨xs, v, h, q⟩ | ⟨xs, v, h, q⟩ | ⟨z, i, c, e, _⟩)
    · exact ⟨xs, v, .inl h, q⟩
    · exact ⟨xs, v, .inr h, q⟩
    · cases e
  · rintro ⟨xs, v, h | h, q⟩
    · exact .inl ⟨xs, v, h, q⟩
    · exact .inr (.inl ⟨xs, v, h, q⟩)
def spValue : Sp := fun vs H Q _ => ∃ n : Int, vs = [.int n] ∧ (0 ≤ n ∧ n < 2 ^ 60) ∧ ∀ H' v z, Same H H' → KyAt H' v z → z.val = true → z.dep ≤ 8 → Q v H'
theorem len_value {vs H Q E} (h : spValue vs H Q E) : vs.length = 1 := by obtain ⟨_, rfl, _⟩ := h; rfl
theorem txt_val {l : List Nat} (c : codesOk l) : (Ky.txt (SX.S l)).val = true := by rw [Ky.val]; exact strOk_of c
end My
namespace My
open PySem PySem.Spec PyProof.Rows L2
/-! methods and makings where what is raised is wished for at the slots that stand -/
section
variable {X : Cx} {CXq : CXT} {lv : Nat} {fa Cl : Addr} {fdat : FuncData} {pars : List Str} {prom : Sp} {dflt : List V} {dfv : List Value} {Ex : L2.St → XK} {nm : Str}
def tMethX (Cl : Addr) (nm : Str) (prom : Sp) (dflt : List V) (Ex : L2.St → XK) (to : TE) (ta : TA) : TE := fun σ H Q => tMeth Cl nm prom dflt (Ex σ) to ta σ H Q
def tMakeX (Cl : Addr) (prom : Sp) (dflt : List V) (Ex : L2.St → XK) (ta : TA) : TE := fun σ H Q => tMake Cl prom dflt (Ex σ) ta σ H Q
theorem pe_methX {ob first : Expr} {rest : List Expr} {to : TE} {ta : TA} {apos pos : Pos} {pl : Sem Bool} (ho : PE X ob to) (kc : Cls X.K Cl) (km : Meth X.K Cl nm fa) (ok : FnOk X.prog X.w X.K X.mg X.base CXq lv fa fdat pars prom) (room : Room lv X.A)
    (bn : Binds X.K fdat pars dfv) (vd : Vals dflt dfv) (ps : ∀ σ, PassesAt CXq X σ (Ex σ)) (as : PA X (first :: rest) ta)
    (h1 : starEach (first :: rest) X.env = (false, eval first X.env) :: starEach rest X.env := by rfl) (h2 : (backTo pos (starEach rest X.env)).any (·.1) = false := by rfl)
    (h3 : eval (.Call (.Attribute ob nm apos) (first :: rest) [] pos) X.env = (do
      let ov ← eval ob X.env
      standAt apos.atName
      let (g, bound) ← holding [ov] (getMethod ov nm pl)
      callWith pos g bound (backTo pos (starEach (first :: rest) X.env)) (backToKw pos (keywordEach [] X.env))) := by rfl) :
    PE X (.Call (.Attribute ob nm apos) (first :: rest) [] pos) (tMethX Cl nm prom dflt Ex to ta) := by
  constructor
  intro pins s0 σ H0 Qv inv hyp
  apply PySem.W.methodCall_KW (pl := pl) _ h3
  refine thn (ho.run pins s0 σ H0 _ inv hyp) ?_
  rintro u1 s1 ⟨xv, Hv, inv1, rel, ad, dd, flds, rfl, hobj, look, cont⟩
  obtain rfl : u1 = Value.ref ad := rel
  apply getmeth_ok inv1 hobj kc km look
  refine PySem.W.callWith_K (h₀ := X.base) (first := [.ref ad]) inv.ok.mod.kin km.kp ?_ h1 h2
  refine thn (as.run pos pins s1 σ Hv _ inv1 cont) ?_
  rintro us s2 ⟨args, Hw, inv2, rels, fin⟩
  exact ⟨inv2.kIn, run_fnSD (us := .ref ad :: us) (vs := .ref ad :: args) ok room bn vd (ps σ) inv2 (.cons rfl rels) fin⟩
theorem pe_meth0X {ob : Expr} {to : TE} {apos pos : Pos} {pl : Sem Bool} (ho : PE X ob to) (kc : Cls X.K Cl) (km : Meth X.K Cl nm fa) (ok : FnOk X.prog X.w X.K X.mg X.base CXq lv fa fdat pars prom) (room : Room lv X.A)
    (bn : Binds X.K fdat pars dfv) (vd : Vals dflt dfv) (ps : ∀ σ, PassesAt CXq X σ (Ex σ))
    (h3 : eval (.Call (.Attribute ob nm apos) [] [] pos) X.env = (do
      let ov ← eval ob X.env
      standAt apos.atName
      let (g, bound) ← holding [ov] (getMethod ov nm pl)
      callWith pos g bound (backTo pos (starEach [] X.env)) (backToKw pos (keywordEach [] X.env))) := by rfl) :
    PE X (.Call (.Attribute ob nm apos) [] [] pos) (tMethX Cl nm prom dflt Ex to tNil) := by
  constructor
  intro pins s0 σ H0 Qv inv hyp
  apply PySem.W.methodCall_KW (pl := pl) _ h3
  refine thn (ho.run pins s0 σ H0 _ inv hyp) ?_
  rintro u1 s1 ⟨xv, Hv, inv1, rel, ad, dd, flds, rfl, hobj, look, cont⟩
  obtain rfl : u1 = Value.ref ad := rel
  apply getmeth_ok inv1 hobj kc km look
  exact PySem.W.callWith_K0 (first := [.ref ad]) inv1.kIn km.kp (run_fnSD (us := [.ref ad]) (vs := [.ref ad]) ok room bn vd (ps σ) inv1 (.cons rfl .nil) cont)
end
/-- C.m(..), m a def of the class at C -/
def tCFun (Cl : Addr) (prom : Sp) (dflt : List V) (Ex : XK) (to : TE) (ta : TA) : TE := fun σ H Q => to σ H fun x H1 => x = .ref Cl ∧ ta σ H1 fun vs H2 => prom (vs ++ dflt) H2 Q Ex
theorem pe_cfun {X : Cx} {CXq : CXT} {lv : Nat} {fa Cl : Addr} {mc : Value} {fdat : FuncData} {pars : List Str} {prom : Sp} {dflt : List V} {dfv : List Value} {Ex : XK} {nm : Str} {ob first : Expr} {rest : List Expr} {to : TE} {ta : TA} {apos pos : Pos} {pl : Sem Bool}
    (ho : PE X ob to) (cr : ClX.CRead X.K Cl mc) (cf : PySem.W.findCls X.K (.ref Cl) mc nm = some (.val (.ref fa))) (kp : PySem.W.keepIn X.K (.ref fa) = true) (ok : FnOk X.prog X.w X.K X.mg X.base CXq lv fa fdat pars prom) (room : Room lv X.A)
    (bn : Binds X.K fdat pars dfv) (vd : Vals dflt dfv) (ps : Passes CXq X Ex) (as : PA X (first :: rest) ta)
    (h1 : starEach (first :: rest) X.env = (false, eval first X.env) :: starEach rest X.env := by rfl) (h2 : (backTo pos (starEach rest X.env)).any (·.1) = false := by rfl)
    (h3 : eval (.Call (.Attribute ob nm apos) (first :: rest) [] pos) X.env = (do
      let ov ← eval ob X.env
      standAt apos.atName
      let (g, bound) ← holding [ov] (getMethod ov nm pl)
      callWith pos g bound (backTo pos (starEach (first :: rest) X.env)) (backToKw pos (keywordEach [] X.env))) := by rfl) :
    PE X (.Call (.Attribute ob nm apos) (first :: rest) [] pos) (tCFun Cl prom dflt Ex to ta) := by
  constructor
  intro pins s0 σ H0 Qv inv hyp
  apply PySem.W.methodCall_KW (pl := pl) _ h3
  refine thn (ho.run pins s0 σ H0 _ inv hyp) ?_
  rintro u1 s1 ⟨xv, Hv, inv1, rel, rfl, cont⟩
  obtain rfl : u1 = Value.ref Cl := rel
  refine PySem.W.method_cls inv1.kIn cr.ga (ClX.getcval_ok (v := .ref fa) inv1 cr ⟨cf, rfl⟩ fun s2 inv2 => ?_)
  refine PySem.W.callWith_K (h₀ := X.base) (first := []) inv.ok.mod.kin kp ?_ h1 h2
  refine thn (as.run pos pins s2 σ Hv _ inv2 cont) ?_
  rintro us s3 ⟨args, Hw, inv3, rels, fin⟩
  exact ⟨inv3.kIn, run_fn ok room bn vd ps inv3 rels fin⟩
theorem rd_cfun {C : Addr} {sp : Sp} {dvs : List V} {E : XK} {to : TE} {t : TA} {σ : L2.St} {H : Hp} {Q : VK} : tCFun C sp dvs E to t σ H Q = to σ H fun x H1 => x = .ref C ∧ t σ H1 fun vs H2 => sp (vs ++ dvs) H2 Q E := rfl
theorem go_whileN {c : TT} {tb : TS} {D : Ends} {σ : L2.St} {H : Hp} (Pv : Nat → L2.St → Hp → Prop) (m0 : Nat) (h0 : Pv m0 σ H)
    (hs : ∀ (m : Nat) (B : Hp → Prop) σ H, Pv m σ H → (∀ H1, (∀ N : L2.St → Hp → Prop, (∀ m' σ' H', Pv m' σ' H' → m' < m → N σ' H') → tb { D with nx := N, ct := N, bk := D.nx } σ H1) → B H1) →
      c σ H fun b H1 => if b = true then B H1 else D.nx σ H1) : tWhile c tb D σ H :=
  ⟨Pv, ⟨m0, h0⟩, fun m σ H p => hs m (fun H1 => ∃ N : L2.St → Hp → Prop, (∀ σ' H', N σ' H' → ∃ m', m' < m ∧ Pv m' σ' H') ∧ tb { D with nx := N, ct := N, bk := D.nx } σ H1) σ H p
    fun H1 h => ⟨fun σ' H' => ∃ m', m' < m ∧ Pv m' σ' H', fun _ _ q => q, h _ fun m' σ' H' q l => ⟨m', l, q⟩⟩⟩
theorem rd_methX {C : Addr} {m : Str} {sp : Sp} {dvs : List V} {E : L2.St → XK} {to : TE} {t : TA} {σ : L2.St} {H : Hp} {Q : VK} : tMethX C m sp dvs E to t σ H Q = to σ H fun x H1 => isRef x fun a => MetAt H1 a C m ∧ t σ H1 fun vs H2 => sp (.ref a :: (vs ++ dvs)) H2 Q (E σ) := by
  unfold tMethX
  rw [rd_meth]
theorem rd_callSD {sp : Sp} {dvs : List V} {E : L2.St → XK} {t : TA} {σ : L2.St} {H : Hp} {Q : VK} : tCallSD sp dvs E t σ H Q = t σ H fun vs H1 => sp (vs ++ dvs) H1 Q (E σ) := rfl
end My
namespace My
open PySem PySem.Spec PyProof.Rows L2
theorem noTup_one {H : Hp} {x : Addr} {o : HO} (e : H x = some o) (n : ∀ xs, o ≠ .tup xs) : NoTup H [x] := fun b m xs z => by
  rw [List.mem_singleton] at m
  rw [m, e] at z
  cases z
  exact n _ rfl
theorem but_one {H : Hp} {x : Addr} {o : HO} : But [x] H (upd H x o) := fun b u e n => by
  rw [upd_ne (fun q => n (by rw [q]; exact List.mem_singleton_self _))]
  exact e
/-- a comprehension whose items are data: K i tells those made by i turns -/
theorem go_lck {J : It} {n : Nat} {G : Hp → Prop} {Y : Nat → Hp → V → Hp → Prop} (w : L2.Walk J n G Y) {g : TG} {tt : TT} {te : TE} {vs : List Nat} {σ : L2.St} {H1 : Hp} {D : Addr} {Qd : Hp → Prop} (K : Nat → List Ky) (h0 : K 0 = []) (hv : ∀ i, i ≤ n → Ky.vals (K i) = true) (hz : n ≤ sizeLine) (hl : ∀ i, (K i).length ≤ i) (hD : Fresh H1 D)
    (hG : ∀ H, Same H1 H → G H)
    (hs : ∀ (N : VK) (Z : Hp → Prop) i x H H', i < n → Same H1 H → Y i H x H' → (∀ y k H4, K (i + 1) = K i ++ [k] → Same H H4 → KyAt H4 y k → N y H4) → (K (i + 1) = K i → ∀ H4, Same H H4 → Z H4) →
      g x (wipe σ vs) H' fun σ2 H2 => wipe σ2 vs = wipe σ vs ∧ tt σ2 H2 fun b H3 => if b = true then te σ2 H3 N else Z H3)
    (hd : ∀ H ys, Same H1 H → H D = some (.lst ys) → KysAt H ys (K n) → Qd H) : lcGo J g tt te vs σ H1 D Qd := by
  refine lc_it w (fun i H => Same H1 H ∧ i ≤ n ∧ ∃ ys, H D = some (.lst ys) ∧ KysAt H ys (K i)) ⟨Same_upd (Same.refl _) hD, Nat.zero_le _, [], upd_same, by rw [h0]; exact .nil⟩ (fun i H _ h => hG H h.1) ?_ ?_
  · rintro i x H H' hi ⟨sm, hin, ys, hL, hr⟩ hY
    refine hs (fun y H4 => ∃ acc, H4 D = some (.lst acc) ∧ acc.length < sizeLine ∧ (Same H1 (upd H4 D (.lst (acc ++ [y]))) ∧ i + 1 ≤ n ∧ ∃ zs, (upd H4 D (.lst (acc ++ [y]))) D = some (.lst zs) ∧ KysAt (upd H4 D (.lst (acc ++ [y]))) zs (K (i + 1)))) _ i x H H' hi sm hY ?_ ?_
    · intro y k H4 e s4 hy
      have := KysAt.len hr
      have := hl i
      have v1 := hv (i + 1) hi
      refine ⟨ys, s4 _ _ hL, by omega, Same_upd0 (sm.trans s4) hD, hi, _, upd_same, ?_⟩
      refine KysAt.keep but_one (noTup_one (s4 _ _ hL) fun _ z => by cases z) _ _ v1 ?_
      rw [e]
      exact (hr.same s4 _ _).append (.cons hy .nil)
    · intro e H4 s4
      exact ⟨sm.trans s4, hi, ys, s4 _ _ hL, by rw [e]; exact hr.same s4 _ _⟩
  · rintro H ⟨sm, -, ys, hL, hr⟩
    exact hd H ys sm hL hr
theorem pe_fldK (K : PySem.W.Frag) {X : Cx} {e : Expr} {f : Str} {pos : Pos} {ta : TE} (h : X.K = K) (he : PE X e ta) (hb : attributeBase e f X.env (eval e X.env) = eval e X.env) : PE X (.Attribute e f pos) (tFld K ta f) := h ▸ pe_fld he hb
theorem call_listqK (K : PySem.W.Frag) {X : Cx} (h : X.K = K) : CallR X (.type "list") (rListOf K) := h ▸ call_listq
theorem call_tupleqK (K : PySem.W.Frag) {X : Cx} (h : X.K = K) : CallR X (.type "tuple") (rTupOf K) := h ▸ call_tupleq
/-! range going down -/
def isR3 (vs : List V) (f : Int → Int → Int → Prop) : Prop := match vs with | [.int i, .int j, .int k] => f i j k | _ => False
theorem rd_isR3 {i j k : Int} {f : Int → Int → Int → Prop} : isR3 [.int i, .int j, .int k] f = f i j k := rfl
theorem rd_rng3 {tr : TA} {σ : L2.St} {H : Hp} {R : It → Hp → Prop} : iRng3 tr σ H R = tr σ H fun vs H1 => isR3 vs fun i j c => ∃ n, RgC i j c n ∧ R (Itc i c n) H1 := by
  unfold iRng3
  apply congrArg
  funext vs H1
  apply propext
  constructor
  · rintro ⟨i, j, c, n, rfl, h⟩; exact ⟨n, h⟩
  · intro h
    unfold isR3 at h
    split at h
    · rename_i i j c
      obtain ⟨n, h⟩ := h
      exact ⟨i, j, c, n, rfl, h⟩
    · exact h.elim
theorem go_rangeC {lo c : Int} {n : Nat} {g : TG} {tb : TS} {D : Ends} {σ : L2.St} {H : Hp} (Pv : Nat → L2.St → Hp → Prop) (h0 : Pv 0 σ H)
    (hs : ∀ (N : L2.St → Hp → Prop) (i : Nat) σ H, i < n → Pv i σ H → (∀ σ' H', Pv (i + 1) σ' H' → N σ' H') → g (.int (lo + (i : Nat) * c)) σ H fun σ2 H2 => tb { D with nx := N, ct := N, bk := D.nx } σ2 H2) (hd : ∀ σ H, Pv n σ H → D.nx σ H) : forGo (Itc lo c n) g tb D σ H :=
  for_rangeC Pv h0 (fun i σ H h1 h2 => hs _ i σ H h1 h2 fun _ _ z => z) hd
end My
namespace My
open PySem PySem.Spec PyProof.Rows L2
theorem hint_room {prog : Program} {w : World} {A : Around} {E : Value → Shared → Prop} {t : Shared} {i : Addr} {R : Bool → Shared → Prop} (kind : t.TypeIs (.ref i) "list_reverseiterator") (r : R false t) :
    wpAny (model prog w) A (Builtin.List.listLengthHint (.ref i)) R E t := by
  have parts : splitId "list_reverseiterator.__length_hint__" = some ("list_reverseiterator", "__length_hint__") := by decide +kernel
  have own : isSubtype (.type "list_reverseiterator") (.type "list_reverseiterator") = pure true := by rw [isSubtype_type]; kernel_rfl
  unfold Builtin.List.listLengthHint
  apply wpAny_bind
  apply wpAny_specialOf kind RT.nolen_lri
  apply wpAny_bind
  apply wpAny_specialOf kind RT.hint_lri
  dsimp only
  rw [parts]
  dsimp only
  apply wpAny_bind
  apply wpAny_isInstance kind own
  exact wpAny_pure r
section
variable {prog : Program} {w : World} {A : Around} {E : Value → Shared → Prop} {t : Shared}
/-- the walk over a reversed list, kept at a new list -/
theorem listed_rev {i l : Addr} {ys : Array Value} {R : Value → Shared → Prop} (calm : A.handled = none) (ri : t.heap.IsRevIter i l ((ys.size : Int) - 1)) (li : t.heap.IsList l ys) (ne : l ≠ i) (z : ys.size ≤ sizeLine)
    (fin : ∀ (g : Heap) (k : Nat) (got : Array Value) (c : Nat), (∀ b o, b ≠ i → t.heap.get? b = some o → g.get? b = some o) → g.get? t.heap.objs.size = some { cls := .type "list", dict := none, data := .seq got c, slots := #[] } → ItemsOf (fun n v => ys[ys.size - 1 - n]? = some v) got ys.size →
      R (.ref t.heap.objs.size) { t with heap := g, toks := k }) :
    wpAny (model prog w) A (call (.type "list") [.ref i]) R E t := by
  refine callType_codes (Q₁ := fun v u => v = .ref t.heap.objs.size ∧ u = { t with heap := t.heap.push { cls := .type "list", data := .seq #[] } }) F.called_list (F.typeCall_list_1 _) F.entry_list_init (code_list_new _ ⟨rfl, rfl⟩) ?_
  rintro _ _ ⟨rfl, rfl⟩
  have new : (t.heap.push { cls := .type "list", data := .seq #[] }).get? t.heap.objs.size = some { cls := .type "list", data := .seq #[] } := Heap.get?_push_size _ rfl
  refine ⟨⟨_, new, rfl⟩, F.args_list_init_2 _ _, ?_⟩
  -- what stands in the heap where the new list lies there, emptied once more
  let made : Heap := (t.heap.push { cls := .type "list", data := .seq #[] }).update t.heap.objs.size (Obj.mapSeq fun _ => #[])
  have stays : ∀ b u, t.heap.get? b = some u → made.get? b = some u := fun b u e => by
    have off : t.heap.objs.size ≠ b := fun q => Nat.lt_irrefl _ (q ▸ Heap.lt_size e)
    exact (Heap.get?_update_other _ _ off).trans (Heap.get?_push_of_some _ e)
  have there := Heap.get?_update_self (Obj.mapSeq fun _ => (#[] : Array Value)) new rfl
  obtain ⟨oi, ei, -⟩ := id ri
  obtain ⟨ol, el, -⟩ := id li
  have apart : t.heap.objs.size ≠ i ∧ t.heap.objs.size ≠ l := ⟨fun q => Nat.lt_irrefl _ (q ▸ Heap.lt_size ei), fun q => Nat.lt_irrefl _ (q ▸ Heap.lt_size el)⟩
  have ri2 : made.IsRevIter i l ((ys.size : Int) - 1) := ri.at fun u => stays i u
  have li2 : made.IsList l ys := li.at fun u => stays l u
  have kind : ({ t with heap := made } : Shared).TypeIs (.ref i) "list_reverseiterator" := ri2.typeIs
  have other : Builtin.List.listSameRef (.ref t.heap.objs.size) (.ref i) = false := by simp [Builtin.List.listSameRef, apart.1]
  unfold Builtin.«list.__init__»
  wp_walk using wpAny_pyIter_revIter ri2, hint_room kind
  have turns := (Walks.listRev (prog := prog) (w := w) (A := A.in1.in1) calm i l ne ys).toS
  have first : made.IsRevIter i l ((ys.size : Int) - 1 - ((0 : Nat) : Int)) := by simpa using ri2
  have far : t.heap.objs.size ∉ [i, l] := by simpa using apart
  refine ⟨plainId_quiet F.plain_extend_loop _, codeAny_extend_loopS turns z _ far _ _ 0 { t with heap := made } _ _ rfl (Nat.zero_le _) ⟨Nat.zero_le _, first, li2⟩ there (ItemsOf.nil _) ?_⟩
  intro u got c moved at_ all
  refine ⟨rfl, ?_⟩
  rw [Moved.eq_with moved]
  refine fin _ _ got c (fun b o nb e => moved.heap b o ?_ (stays b o e)) at_ all
  intro m
  rcases List.mem_cons.mp m with q | q
  · exact Nat.lt_irrefl _ (q ▸ Heap.lt_size e)
  · exact nb (List.mem_singleton.mp q)
end
/-- list(reversed(e)), e a list: a new list, turned about -/
def tRevNew (K : PySem.W.Frag) (te : TE) : TE := fun σ H Q => te σ H fun v H1 => isRef v fun a => ∃ xs, SqL K H1 a xs ∧ ∀ q, Fresh H1 q → Q (.ref q) (upd H1 q (.lst xs.reverse))
/-- what the walk gave, as values of the layer -/
theorem turned_vals {xs : List V} {us : List Value} {got : Array Value} (rel : Vals xs us) (all : ItemsOf (fun n v => us.toArray[us.toArray.size - 1 - n]? = some v) got us.toArray.size) : Vals xs.reverse got.toList := RT.vals_rev rel all
section
variable {X : Cx}
theorem pe_listRev {e : Expr} {te : TE} {pl pr posl posr : Pos} (calm : X.calm = true) (gl : Gl X "list") (ml : X.mg "list" = none) (gr : Gl X "reversed") (mr : X.mg "reversed" = none) (part : PE X e te)
    (one : starEach [e] X.env = (false, eval e X.env) :: starEach [] X.env := by rfl)
    (out : starEach [.Call (.Name "reversed" pr) [e] [] posr] X.env = (false, eval (.Call (.Name "reversed" pr) [e] [] posr) X.env) :: starEach [] X.env := by rfl) :
    PE X (.Call (.Name "list" pl) [.Call (.Name "reversed" pr) [e] [] posr] [] posl) (tRevNew X.K te) := by
  constructor
  intro pins s σ H Q inv want
  -- the inner call leaves a walk, laid at the end of a heap where the invariant holds
  have inner : wpAny (model X.prog X.w) X.A (eval (.Call (.Name "reversed" pr) [e] [] posr) X.env) (fun v u => ∃ (u0 : Shared) (H1 : Hp) (a : Addr) (xs : List V) (us : List Value),
      v = .ref u0.heap.objs.size ∧ u = { u0 with heap := u0.heap.push (revObj a ((us.toArray.size : Int) - 1)) } ∧ Inv X pins σ H1 u0 ∧ Vals xs us ∧ u0.heap.IsList a us.toArray ∧ xs.length ≤ sizeLine ∧ ∀ q, Fresh H1 q → Q (.ref q) (upd H1 q (.lst xs.reverse))) X.xe s := by
    refine Call_ (ld_blt inv gr mr PyProof.Rows.boot_reversed ?_)
    refine PyProof.Rows.callWith_type1 (args_cons ?_ one) one rfl
    refine thn (part.run pins s σ H _ inv want) ?_
    rintro v u0 ⟨x, H1, inv1, rel, turn⟩
    cases x with
    | ref a =>
      obtain ⟨xs, sq, turn⟩ := turn
      obtain rfl : v = Value.ref a := rel
      obtain ⟨us, vals, plain, len⟩ := inv1.list sq
      exact args_nil (call_reversed_list plain.isList ⟨u0, H1, a, xs, us, rfl, rfl, inv1, vals, plain.isList, len, turn⟩)
    | _ => exact turn.elim
  refine Call_ (ld_blt inv gl ml boot_list ?_)
  refine PyProof.Rows.callWith_type1 (args_cons (thn inner ?_) out) out rfl
  rintro v u ⟨u0, H1, a, xs, us, rfl, rfl, inv1, vals, isl, len, turn⟩
  apply args_nil
  have inv2 : Inv X pins σ H1 { u0 with heap := u0.heap.push (revObj a ((us.toArray.size : Int) - 1)) } := inv1.kept (t' := u0.toks) fun b o q => Heap.get?_push_of_some _ q
  have off := inv1.fpOk (H' := H1) (Nat.le_refl _) (inv1.hok.fresh (Nat.le_refl _))
  obtain ⟨ol, el, -⟩ := id isl
  refine listed_rev (inv1.ok.hd calm) ⟨_, Heap.get?_push_size _ rfl, rfl, rfl⟩ (isl.push _) (Nat.ne_of_lt (Heap.lt_size el)) (by rw [List.size_toArray, ← vals.length]; exact len) ?_
  intro g k got c keep lies all
  have obj : ObjOk X.prog X.w (upd H1 (u0.heap.push (revObj a ((us.toArray.size : Int) - 1))).objs.size (.lst xs.reverse)) g (u0.heap.push (revObj a ((us.toArray.size : Int) - 1))).objs.size (.lst xs.reverse) := ⟨by simpa using len, got.toList, c, turned_vals vals all, by rw [Array.toArray_toList]; exact lies⟩
  refine ⟨.ref _, _, inv2.turnedNew (ch := [u0.heap.objs.size]) (t' := k) (fun b o nb q => keep b o (fun z => nb (by simp [z])) q) (fun b mb => ?_) (Nat.le_refl _) obj, rfl, turn _ (inv2.hok.fresh (Nat.le_refl _))⟩
  rw [List.mem_singleton.mp mb]
  exact off
end
theorem rd_lstRev {K : PySem.W.Frag} {te : TE} {σ : L2.St} {H : Hp} {Q : VK} : tRevNew K te σ H Q = te σ H fun v H1 => isRef v fun a => ∃ xs, SqL K H1 a xs ∧ ∀ q, Fresh H1 q → Q (.ref q) (upd H1 q (.lst xs.reverse)) := rfl
theorem rd_revA {K : PySem.W.Frag} {te : TE} {σ : L2.St} {H : Hp} {R : It → Hp → Prop} : RT.iRevA K te σ H R = te σ H fun v H1 => isRef v fun a => ∃ xs, (SqL K H1 a xs ∧ R (Itv K a xs.length) H1) ∨ (SqT K H1 a xs ∧ R (RT.ItvT K a xs.length) H1) := by
  unfold RT.iRevA
  apply congrArg
  funext x H1
  rw [← isRef_eq]
  apply propext
  constructor
  · rintro ⟨a, xs, e, h⟩; exact ⟨a, e, xs, h⟩
  · rintro ⟨a, e, xs, h⟩; exact ⟨a, xs, e, h⟩
theorem go_rev {K : PySem.W.Frag} {a : Addr} {xs : List V} {g : TG} {tb : TS} {D : Ends} {σ : L2.St} {H : Hp} (Pv : Nat → L2.St → Hp → Prop) (h0 : Pv 0 σ H) (hl : ∀ i σ H, i ≤ xs.length → Pv i σ H → SqL K H a xs)
    (hs : ∀ (N : L2.St → Hp → Prop) i x σ H, i < xs.length → xs[xs.length - 1 - i]? = some x → Pv i σ H → (∀ σ' H', Pv (i + 1) σ' H' → N σ' H') → g x σ H fun σ2 H2 => tb { D with nx := N, ct := N, bk := D.nx } σ2 H2) (hd : ∀ σ H, Pv xs.length σ H → D.nx σ H) : forGo (Itv K a xs.length) g tb D σ H :=
  go_it (walk_rev (xs := xs)) Pv h0 hl (fun N i x σ H H' hi p y hN => by obtain ⟨rfl, e⟩ := y; exact hs N i x σ _ hi e p hN) hd
theorem rd_unl {K : PySem.W.Frag} {n : Nat} {t : TGs} {a : Addr} {σ : L2.St} {H : Hp} {R : L2.St → Hp → Prop} : gUnl K n t (.ref a) σ H R = ∃ xs, SqL K H a xs ∧ xs.length = n ∧ t xs σ H R := by
  unfold gUnl
  apply propext
  constructor
  · rintro ⟨a', xs, e, q⟩; cases e; exact ⟨xs, q⟩
  · rintro ⟨xs, q⟩; exact ⟨a, xs, rfl, q⟩
end My
namespace Mix
open PySem PySem.Spec PyProof.Rows
/-! dicts whose keys are numbers, texts, None, and tuples of these together: at the library's level. -/
/-- the entry e is kept for the key k -/
structure Has (w : World) (h : Heap) (k : NestedKey) (e : DictEntry) : Prop where
  is : NestedIs h k e.key
  hash : e.hash = k.hash w
  dep : k.depth ≤ 8
/-- the entries es are those of the keys ks -/
structure Rows (w : World) (h : Heap) (es : Array DictEntry) (ks : List NestedKey) : Prop where
  sz : es.size = ks.length
  has : ∀ (i : Nat) (k : NestedKey) (e : DictEntry), ks[i]? = some k → es[i]? = some e → Has w h k e
  nd : ks.Nodup
theorem nodup_ix {α : Type} {l : List α} (n : l.Nodup) {i j : Nat} {x : α} (a : l[i]? = some x) (b : l[j]? = some x) : i = j := by
  have hi := (List.getElem?_eq_some_iff.mp a).1
  exact (List.getElem?_inj hi n).mp (a.trans b.symm)
section
variable {w : World} {h : Heap} {es : Array DictEntry} {ks : List NestedKey}
theorem Rows.ent (R : Rows w h es ks) {i : Nat} {k : NestedKey} (a : ks[i]? = some k) : ∃ e, es[i]? = some e ∧ Has w h k e := by
  have hi := (List.getElem?_eq_some_iff.mp a).1
  have hz : i < es.size := by rw [R.sz]; exact hi
  exact ⟨es[i], Array.getElem?_eq_getElem hz, R.has i k _ a (Array.getElem?_eq_getElem hz)⟩
theorem Rows.key (R : Rows w h es ks) {i : Nat} {e : DictEntry} (a : es[i]? = some e) : ∃ k, ks[i]? = some k ∧ Has w h k e := by
  have hz : i < es.size := (Array.getElem?_eq_some_iff.mp a).1
  have hi : i < ks.length := by rw [← R.sz]; exact hz
  exact ⟨ks[i], List.getElem?_eq_getElem hi, R.has i _ e (List.getElem?_eq_getElem hi) a⟩
end
section
variable {prog : Program} {w : World} {A : Around} {E : Value → Shared → Prop} {s : Shared}
theorem iteW {α : Type} {M : Model} {c : Prop} [Decidable c] {a b : Sem α} {Q : α → Shared → Prop} (h1 : c → wpAny M A a Q E s) (h2 : ¬ c → wpAny M A b Q E s) : wpAny M A (if c then a else b) Q E s := by
  by_cases z : c
  · rw [if_pos z]; exact h1 z
  · rw [if_neg z]; exact h2 z
/-- the places that are looked at -/
abbrev spots (es : Array DictEntry) (hv : Int) : List Nat := placesWithHash es.size (fun i => es[i]?.map (·.hash)) hv
theorem spots_nodup {es : Array DictEntry} {hv : Int} : (spots es hv).Nodup := by
  unfold spots placesWithHash
  exact List.Nodup.sublist List.filter_sublist List.nodup_range
theorem spots_ent {es : Array DictEntry} {hv : Int} {i : Nat} (m : i ∈ spots es hv) : ∃ e, es[i]? = some e ∧ (e.hash == hv) = true := by
  unfold spots placesWithHash at m
  have q := (List.mem_filter.mp m).2
  dsimp only at q
  cases e : es[i]? with
  | none => rw [e] at q; cases q
  | some x =>
    rw [e] at q
    refine ⟨x, rfl, ?_⟩
    simpa using q
theorem spots_mem {es : Array DictEntry} {ks : List NestedKey} {k : NestedKey} (R : Rows w s.heap es ks) {i : Nat} (a : ks[i]? = some k) : i ∈ spots es (k.hash w) := by
  obtain ⟨e, he, hh⟩ := R.ent a
  unfold spots placesWithHash
  refine List.mem_filter.mpr ⟨List.mem_range.mpr (Array.getElem?_eq_some_iff.mp he).1, ?_⟩
  dsimp only
  rw [he]
  show (some e.hash == some (k.hash w)) = true
  rw [hh.hash]
  simp
/-- how far the search has come: the places done, the place found -/
def Sought (ks : List NestedKey) (k : NestedKey) (done : List Nat) (hit : Option Nat) : Prop := (hit = none ∧ ∀ j ∈ done, ks[j]? ≠ some k) ∨ ∃ j, hit = some j ∧ j ∈ done ∧ ks[j]? = some k
theorem quiet_all {stored : List Value} {u : Value} {k : NestedKey} {Q : Bool → Shared → Prop} (hk : NestedIs s.heap k u) (dk : k.depth ≤ 8) (hs : ∀ v ∈ stored, ∃ k, NestedIs s.heap k v ∧ k.depth ≤ 8) (q : Q false s) :
    wpAny (model prog w) A (tableMayTell u stored) Q E s := by
  unfold tableMayTell
  by_cases c : stored.isEmpty = true
  · rw [if_pos c]
    exact wpAny_pure q
  rw [if_neg c]
  refine wpAny_bind (quiet_key k u 8 s hk dk A E _ ?_)
  rw [if_neg (by simp)]
  refine wpAny_bind (wpAny_forIn_list _ (fun l r s2 => s2 = s ∧ r.1 = none ∧ ∀ v ∈ l, v ∈ stored) _ (fun v l r s2 g => ?_) (fun r s2 g => ?_) _ _ ⟨rfl, rfl, fun _ m => m⟩)
  · obtain ⟨rfl, e, sub⟩ := g
    obtain ⟨k2, n2, d2⟩ := hs v (sub v List.mem_cons_self)
    refine wpAny_bind (quiet_key k2 v 8 s2 n2 d2 A E _ ?_)
    rw [if_neg (by simp)]
    exact wpAny_pure ⟨rfl, by first | exact e | rfl, fun z m => sub z (List.mem_cons_of_mem _ m)⟩
  · obtain ⟨rfl, e, -⟩ := g
    obtain ⟨r1, r2⟩ := r
    dsimp only at e
    subst e
    exact wpAny_pure q
/-- the search among keys that are all carried by value -/
theorem walkPlain {d : Addr} {o : Obj} {es : Array DictEntry} {ep : Nat} {ks : List NestedKey} {k : NestedKey} {u : Value} {Q : Option Nat → Shared → Prop} (R : Rows w s.heap es ks) (ho : s.heap.get? d = some o) (hd : o.data = .dict es ep)
    (same : ∀ (k2 : NestedKey) (v : Value) (F : Bool → Shared → Prop), NestedIs s.heap k2 v → F (decide (k2 = k)) s → wpAny (model prog w) A (eqBool v u) F E s)
    (q0 : (∀ j ∈ spots es (k.hash w), ks[j]? ≠ some k) → Q none s) (q1 : ∀ i, ks[i]? = some k → Q (some i) s) : wpAny (model prog w) A (dictWalkPlain d u (k.hash w) es (spots es (k.hash w))) Q E s := by
  unfold dictWalkPlain
  refine wpAny_bind (wpAny_forIn_list _ (fun l b s2 => s2 = s ∧ b.1 = none ∧ ∃ dn, spots es (k.hash w) = dn ++ l ∧ ∀ j ∈ dn, ks[j]? ≠ some k) _ ?_ ?_ _ _ ⟨rfl, rfl, [], rfl, fun _ m => by cases m⟩)
  · rintro x l ⟨b1, b2⟩ s2 ⟨rfl, e, dn, ed, g⟩
    obtain ⟨e1, he, hh⟩ := spots_ent (i := x) (show x ∈ spots es (k.hash w) by rw [ed]; simp)
    obtain ⟨k2, hx, hs2⟩ := R.key he
    dsimp only
    rw [he]
    dsimp only
    rw [if_pos hh]
    refine wpAny_bind (wpAny_dictEpoch ho hd (wpAny_bind (same k2 _ _ hs2.is (wpAny_bind (wpAny_dictEpoch ho hd ?_)))))
    rw [if_neg (by simp)]
    by_cases c : k2 = k
    · rw [decide_eq_true c, if_pos rfl]
      refine wpAny_bind (wpAny_rule (wpAny_pure ?_))
      exact wpAny_pure (q1 x (by rw [← c]; exact hx))
    · rw [decide_eq_false c, if_neg (by simp)]
      refine wpAny_bind (wpAny_rule (wpAny_pure ⟨rfl, rfl, dn ++ [x], by rw [ed]; simp, fun j m => ?_⟩))
      rcases List.mem_append.mp m with m | m
      · exact g j m
      · rw [List.mem_singleton] at m
        rw [m, hx]
        exact fun z => c (Option.some.inj z)
  · rintro ⟨b1, b2⟩ s2 ⟨rfl, e, dn, ed, g⟩
    dsimp only at e
    subst e
    exact wpAny_pure (q0 fun j m => g j (by rw [ed, List.append_nil] at m; exact m))
theorem find {d : Addr} {o : Obj} {es : Array DictEntry} {ep : Nat} {ks : List NestedKey} {k : NestedKey} {u : Value} {Q : Option Nat → Shared → Prop} (hu : A.units + 8 < cLine) (R : Rows w s.heap es ks) (hk : NestedIs s.heap k u) (dk : k.depth ≤ 8)
    (ho : s.heap.get? d = some o) (hd : o.data = .dict es ep) (q0 : k ∉ ks → Q none s) (q1 : ∀ i, ks[i]? = some k → Q (some i) s) : wpAny (model prog w) A (dictFind d u (k.hash w)) Q E s := by
  have same : ∀ (k2 : NestedKey) (v : Value) (F : Bool → Shared → Prop), NestedIs s.heap k2 v → F (decide (k2 = k)) s → wpAny (model prog w) A (eqBool v u) F E s := fun k2 v F n2 f => by
    refine eqAt_key k2 k A s v u n2 hk (by omega) _ _ _ _ ?_
    rw [← NestedKey.decide_eq]
    exact f
  have out : ∀ hit, Sought ks k (spots es (k.hash w)) hit → Q hit s := fun hit g => by
    rcases g with ⟨rfl, n⟩ | ⟨j, rfl, -, e⟩
    · refine q0 fun m => ?_
      obtain ⟨j, e⟩ := List.mem_iff_getElem?.mp m
      exact n j (spots_mem R e) e
    · exact q1 j e
  have step : ∀ {dn l : List Nat} {x : Nat} {hit : Option Nat} {k2 : NestedKey}, spots es (k.hash w) = dn ++ x :: l → Sought ks k dn hit → ks[x]? = some k2 → (k2 = k → hit = none) ∧ (k2 ≠ k → Sought ks k (dn ++ [x]) hit) := by
    intro dn l x hit k2 e g hx
    have nd := spots_nodup (es := es) (hv := k.hash w)
    rw [e, List.nodup_append] at nd
    constructor
    · rintro rfl
      rcases g with ⟨rfl, -⟩ | ⟨j, -, m, ej⟩
      · rfl
      · have := nodup_ix R.nd ej hx
        subst this
        exact absurd rfl (nd.2.2 j m j List.mem_cons_self)
    · intro n
      rcases g with ⟨rfl, f⟩ | ⟨j, rfl, m, ej⟩
      · refine .inl ⟨rfl, fun j m => ?_⟩
        rcases List.mem_append.mp m with m | m
        · exact f j m
        · rw [List.mem_singleton] at m
          rw [m, hx]
          exact fun z => n (Option.some.inj z)
      · exact .inr ⟨j, rfl, List.mem_append_left _ m, ej⟩
  have kept : ∀ v ∈ (spots es (k.hash w)).filterMap (fun i => es[i]?.map (·.key)), ∃ k2, NestedIs s.heap k2 v ∧ k2.depth ≤ 8 := fun v m => by
    obtain ⟨i, -, e⟩ := List.mem_filterMap.mp m
    cases z : es[i]? with
    | none => rw [z] at e; cases e
    | some x =>
      rw [z] at e
      cases e
      obtain ⟨k2, -, g⟩ := R.key z
      exact ⟨k2, g.is, g.dep⟩
  have seek0 : (∀ j ∈ spots es (k.hash w), ks[j]? ≠ some k) → Q none s := fun n => out none (.inl ⟨rfl, n⟩)
  have form : u = .none ∨ (∃ b, u = .bool b) ∨ (∃ i t, u = .int i t) ∨ (∃ x t, u = .str x t) ∨ ∃ a, u = .ref a := by
    cases hk with
    | none => exact .inl rfl
    | bool eb => exact .inr (.inl ⟨_, rfl⟩)
    | int i t => exact .inr (.inr (.inl ⟨_, _, rfl⟩))
    | text x t => exact .inr (.inr (.inr (.inl ⟨_, _, rfl⟩)))
    | tup h1 h2 h3 h4 => exact .inr (.inr (.inr (.inr ⟨_, rfl⟩)))
  unfold dictFind
  refine wpAny_holding (wpAny_bind (wpAny_dictEntries ho hd ?_))
  rcases form with rfl | ⟨b, rfl⟩ | ⟨i, t, rfl⟩ | ⟨x, t, rfl⟩ | ⟨a, rfl⟩
  all_goals dsimp only
  rotate_left 3
  by_cases hx : (es.all fun e => isExactStrKey e.key) = true
  · rw [if_pos hx]
    have isk : ∀ (j : Nat) (e : DictEntry) (k2 : NestedKey), es[j]? = some e → ks[j]? = some k2 → e.key.isStr x = decide (k2 = k) := fun j e k2 he hk2 => by
      have g := (R.has j k2 e hk2 he).is
      have z := Array.all_eq_true_iff_forall_mem.mp hx e (Array.mem_of_getElem? he)
      cases hk
      cases ek : e.key with
      | str y t2 =>
        rw [ek] at g
        cases g
        rw [Bool.eq_iff_iff]
        simp [Value.isStr]
      | _ => rw [ek] at z; cases z
    unfold foundByValue
    cases fi : es.findIdx? fun e => e.key.isStr x with
    | none =>
      refine wpAny_pure (q0 fun m => ?_)
      obtain ⟨j, ej⟩ := List.mem_iff_getElem?.mp m
      obtain ⟨e, he, -⟩ := R.ent ej
      have z := isk j e k he ej
      rw [decide_eq_true rfl] at z
      have n := Array.findIdx?_eq_none_iff.mp fi e (Array.mem_of_getElem? he)
      rw [n] at z
      cases z
    | some i =>
      obtain ⟨hi, z, -⟩ := Array.findIdx?_eq_some_iff_getElem.mp fi
      have he := Array.getElem?_eq_getElem hi
      obtain ⟨k2, hk2, g⟩ := R.key he
      rw [isk i _ k2 he hk2, decide_eq_true_eq] at z
      dsimp only
      rw [he]
      dsimp only
      refine wpAny_bind (wpAny_dictEpoch ho hd (wpAny_bind (same k2 _ _ g.is (wpAny_bind (wpAny_dictEpoch ho hd ?_)))))
      rw [if_neg (by simp), decide_eq_true z, if_pos rfl]
      exact wpAny_bind (wpAny_rule (wpAny_pure (q1 i (by rw [← z]; exact hk2))))
  rw [if_neg hx]
  rotate_left 1
  have fresh : ¬ (es.any fun e => e.key == Value.ref a && e.hash != k.hash w) = true := fun z => by
    obtain ⟨i, hi, z⟩ := Array.any_eq_true.mp z
    rw [Bool.and_eq_true] at z
    obtain ⟨z1, z2⟩ := z
    obtain ⟨k2, hx, g⟩ := R.key (i := i) (Array.getElem?_eq_getElem hi)
    have ek : es[i].key = .ref a := eq_of_beq z1
    have g1 := g.is
    rw [ek] at g1
    have := NestedIs.inj _ _ _ g1 hk
    rw [g.hash, this] at z2
    simp at z2
  rw [if_neg fresh]
  all_goals
    refine iteW (fun _ => ?_) fun _ => ?_
    · exact walkPlain R ho hd same seek0 q1
    refine iteW (fun _ => wpAny_bind (wpAny_pure ?_)) fun _ => wpAny_bind (quiet_all hk dk kept ?_)
  all_goals
    rw [if_neg (by simp)]
    refine wpAny_bind (wpAny_forIn_list _ (fun l b s2 => s2 = s ∧ b.1 = none ∧ ∃ dn, spots es (k.hash w) = dn ++ l ∧ Sought ks k dn b.2) _ ?_ ?_ _ _ ⟨rfl, rfl, [], rfl, .inl ⟨rfl, fun _ m => by cases m⟩⟩)
    · rintro x l ⟨b1, b2⟩ s2 ⟨rfl, e, dn, ed, g⟩
      dsimp only at e
      subst e
      obtain ⟨e1, he, hh⟩ := spots_ent (i := x) (show x ∈ spots es (k.hash w) by rw [ed]; simp)
      obtain ⟨k2, hx, hs2⟩ := R.key he
      obtain ⟨st1, st2⟩ := step ed g hx
      dsimp only
      rw [he]
      dsimp only
      rw [if_pos hh]
      refine wpAny_bind (wpAny_dictEpoch ho hd (wpAny_bind (same k2 _ _ hs2.is (wpAny_bind (wpAny_dictEpoch ho hd ?_)))))
      rw [if_neg (by simp)]
      by_cases c : k2 = k
      · rw [decide_eq_true c, if_pos rfl]
        cases st1 c
        rw [if_neg (by simp)]
        refine wpAny_bind (wpAny_rule ?_)
        refine iteW (fun _ => ?_) fun _ => ?_
        · exact wpAny_pure (wpAny_pure (q1 x (by rw [← c]; exact hx)))
        · exact wpAny_pure ⟨rfl, rfl, dn ++ [x], by rw [ed]; simp, .inr ⟨x, rfl, by simp, by rw [← c]; exact hx⟩⟩
      · rw [decide_eq_false c, if_neg (by simp)]
        refine wpAny_bind (wpAny_rule ?_)
        rw [if_neg (by simp)]
        exact wpAny_pure ⟨rfl, rfl, dn ++ [x], by rw [ed]; simp, st2 c⟩
    · rintro ⟨b1, b2⟩ s2 ⟨rfl, e, dn, ed, g⟩
      dsimp only at e
      subst e
      rw [List.append_nil] at ed
      rw [← ed] at g
      exact wpAny_pure (out _ g)
end
end Mix
namespace Mix
open PySem PySem.Spec PyProof.Rows
section
variable {w : World} {h h' : Heap} {es : Array DictEntry} {ks : List NestedKey}
/-- keys stay while the dict alone is changed -/
theorem is_but {d : Addr} {o : Obj} {ep : Nat} {k : NestedKey} {v : Value} (x : NestedIs h k v) (ho : h.get? d = some o) (hd : o.data = .dict es ep) (b : Heap.SameBut d h h') : NestedIs h' k v :=
  NestedIs.at (fun a ob vs n e f => by
    have ne : a ≠ d := fun z => by
      rw [z, ho] at e
      cases e
      rw [hd] at f
      cases f
    rw [b.2 a ne]
    exact e) k v x
theorem Rows.to (R : Rows w h es ks) (f : ∀ k v, NestedIs h k v → NestedIs h' k v) : Rows w h' es ks :=
  ⟨R.sz, fun i k e a b => ⟨f _ _ (R.has i k e a b).is, (R.has i k e a b).hash, (R.has i k e a b).dep⟩, R.nd⟩
theorem Rows.push (R : Rows w h es ks) {k : NestedKey} {u v : Value} (n : k ∉ ks) (hk : NestedIs h k u) (dk : k.depth ≤ 8) : Rows w h (es.push ⟨k.hash w, u, v⟩) (ks ++ [k]) := by
  refine ⟨by rw [Array.size_push, R.sz, List.length_append]; rfl, fun i k2 e a b => ?_, ?_⟩
  · have hi := (List.getElem?_eq_some_iff.mp a).1
    rw [List.length_append, List.length_singleton] at hi
    by_cases c : i < ks.length
    · rw [List.getElem?_append_left c] at a
      rw [Array.getElem?_push, if_neg (by rw [R.sz]; omega)] at b
      exact R.has i k2 e a b
    · have z : i = ks.length := by omega
      subst z
      rw [List.getElem?_append_right (Nat.le_refl _), Nat.sub_self] at a
      cases a
      rw [Array.getElem?_push, if_pos R.sz.symm] at b
      cases b
      exact ⟨hk, rfl, dk⟩
  · rw [List.nodup_append]
    refine ⟨R.nd, by simp, fun x hx y hy z => n ?_⟩
    rw [List.mem_singleton] at hy
    rw [← hy, ← z]
    exact hx
theorem Rows.mod (R : Rows w h es ks) (j : Nat) (v : Value) : Rows w h (es.modify j fun e => { e with val := v }) ks := by
  refine ⟨by rw [Array.size_modify, R.sz], fun i k e a b => ?_, R.nd⟩
  rw [Array.getElem?_modify] at b
  split at b
  · obtain ⟨e0, he, rfl⟩ := Option.map_eq_some_iff.mp b
    have g := R.has i k e0 a he
    exact ⟨g.is, g.hash, g.dep⟩
  · exact R.has i k e a b
theorem erase_list {j : Nat} : (es.eraseIdxIfInBounds j).toList = es.toList.eraseIdx j := by
  obtain ⟨l⟩ := es
  simp
theorem Rows.erase (R : Rows w h es ks) (j : Nat) : Rows w h (es.eraseIdxIfInBounds j) (ks.eraseIdx j) := by
  have lz : es.toList.length = ks.length := by rw [Array.length_toList, R.sz]
  refine ⟨?_, fun i k e a b => ?_, R.nd.sublist (List.eraseIdx_sublist _ _)⟩
  · rw [← Array.length_toList, erase_list, List.length_eraseIdx, List.length_eraseIdx, lz]
  · rw [← Array.getElem?_toList, erase_list] at b
    rw [List.getElem?_eraseIdx] at a b
    split at a <;> rename_i c
    · rw [if_pos c, Array.getElem?_toList] at b
      exact R.has i k e a b
    · rw [if_neg c, Array.getElem?_toList] at b
      exact R.has (i + 1) k e a b
end
section
variable {prog : Program} {w : World} {A : Around} {E : Value → Shared → Prop} {s : Shared} {d : Addr} {o : Obj} {es : Array DictEntry} {ep : Nat} {ks : List NestedKey} {k : NestedKey} {u : Value}
/-- the hash, the search -/
theorem getW {Q : Option Value → Shared → Prop} (hu : A.units + 8 < cLine) (R : Rows w s.heap es ks) (hk : NestedIs s.heap k u) (dk : k.depth ≤ 8) (ho : s.heap.get? d = some o) (hd : o.data = .dict es ep)
    (q0 : k ∉ ks → Q none { s with toks := s.toks + k.draws }) (q1 : ∀ (i : Nat) (e : DictEntry), ks[i]? = some k → es[i]? = some e → Q (some e.val) { s with toks := s.toks + k.draws }) : wpAny (model prog w) A (dictGet d u) Q E s := by
  unfold dictGet
  refine wpAny_holding (wpAny_bind (pyHash_key k u A s _ hk (by omega) (wpAny_bind ?_)))
  refine find (s := { s with toks := s.toks + k.draws }) hu R hk dk ho hd (fun n => wpAny_pure (q0 n)) fun i a => ?_
  obtain ⟨e, he, -⟩ := R.ent a
  refine wpAny_bind (wpAny_dictEntries (s := { s with toks := s.toks + k.draws }) ho hd ?_)
  rw [he]
  exact wpAny_pure (q1 i e a he)
theorem setW {v : Value} {Q : Unit → Shared → Prop} (hu : A.units + 8 < cLine) (R : Rows w s.heap es ks) (hk : NestedIs s.heap k u) (dk : k.depth ≤ 8) (ho : s.heap.get? d = some o) (hx : o.ExactDict) (hd : o.data = .dict es ep) (hz : es.size ≤ sizeLine)
    (q0 : k ∉ ks → ∀ h' o', h'.get? d = some o' → o'.ExactDict → o'.data = .dict (es.push ⟨k.hash w, u, v⟩) (ep + 1) → Heap.SameBut d s.heap h' → Q () { s with heap := h', toks := s.toks + k.draws })
    (q1 : ∀ i, ks[i]? = some k → ∀ h' o', h'.get? d = some o' → o'.ExactDict → o'.data = .dict (es.modify i fun e => { e with val := v }) ep → Heap.SameBut d s.heap h' → Q () { s with heap := h', toks := s.toks + k.draws }) : wpAny (model prog w) A (dictSet d u v) Q E s := by
  unfold dictSet dictSetHashed
  refine wpAny_holding (wpAny_bind (pyHash_key k u A s _ hk (by omega) (wpAny_holding (wpAny_bind ?_))))
  refine find (s := { s with toks := s.toks + k.draws }) hu R hk dk ho hd (fun n => ?_) fun i a => ?_
  · refine wpAny_bind (wpAny_rule ?_)
    have z := Obj.data_mapDictKeys hd (fun l : Array DictEntry => l.push ⟨k.hash w, u, v⟩)
    exact wpAny_updateDictKeys (hz := hz) (s := { s with toks := s.toks + k.draws }) ho hd (q0 n _ _ (Heap.get?_update_self _ ho (Obj.isFreed_of_dict z)) (hx.mapDictKeys _) z (Heap.SameBut.update ..))
  · refine wpAny_bind (wpAny_rule (wpAny_bind ?_))
    have z := Obj.data_mapDict hd (fun l : Array DictEntry => l.modify i fun e => { e with val := v })
    exact wpAny_updateDict (s := { s with toks := s.toks + k.draws }) ho hd (wpAny_point (q1 i a _ _ (Heap.get?_update_self _ ho (Obj.isFreed_of_dict z)) (hx.mapDict _) z (Heap.SameBut.update ..)))
theorem outW {Q : Option DictEntry → Shared → Prop} (hu : A.units + 8 < cLine) (R : Rows w s.heap es ks) (hk : NestedIs s.heap k u) (dk : k.depth ≤ 8) (ho : s.heap.get? d = some o) (hx : o.ExactDict) (hd : o.data = .dict es ep) (hz : es.size ≤ sizeLine)
    (m : k ∈ ks) (q1 : ∀ (i : Nat) (e : DictEntry), ks[i]? = some k → es[i]? = some e → ∀ h' o', h'.get? d = some o' → o'.ExactDict → o'.data = .dict (es.eraseIdxIfInBounds i) (ep + 1) → Heap.SameBut d s.heap h' → Q (some e) { s with heap := h', toks := s.toks + k.draws }) :
    wpAny (model prog w) A (Builtin.Dict.takeOut d u) Q E s := by
  unfold Builtin.Dict.takeOut
  refine wpAny_holding (wpAny_bind (pyHash_key k u A s _ hk (by omega) (wpAny_bind ?_)))
  refine find (s := { s with toks := s.toks + k.draws }) hu R hk dk ho hd (fun n => absurd m n) fun i a => ?_
  obtain ⟨e, he, -⟩ := R.ent a
  refine wpAny_bind (wpAny_dictEntries (s := { s with toks := s.toks + k.draws }) ho hd ?_)
  rw [he]
  have z := Obj.data_mapDictKeys hd (fun l : Array DictEntry => l.eraseIdxIfInBounds i)
  exact wpAny_bind (wpAny_updateDictKeys (hz := hz) (s := { s with toks := s.toks + k.draws }) ho hd (wpAny_pure (q1 i e a he _ _ (Heap.get?_update_self _ ho (Obj.isFreed_of_dict z)) (hx.mapDictKeys _) z (Heap.SameBut.update ..))))
/-! the roads to them -/
theorem inW {Q : Bool → Shared → Prop} (hu : A.units + 9 < cLine) (lo : (d == sysModules) = false) (R : Rows w s.heap es ks) (hk : NestedIs s.heap k u) (dk : k.depth ≤ 8) (ho : s.heap.get? d = some o) (hx : o.ExactDict) (hd : o.data = .dict es ep)
    (q : Q (decide (k ∈ ks)) { s with toks := s.toks + k.draws }) : wpAny (model prog w) A (contains (.ref d) u) Q E s := by
  have ty : s.TypeIs (.ref d) "dict" := ⟨o, ho, hx.1⟩
  refine wpAny_contains_slot ty F.slot_dict_contains ?_
  refine call_meetsIn (S := fun A2 R2 s2 => A2 = A ∧ s2 = s ∧ R2 (.ok (.ret (.bool (decide (k ∈ ks))))) { s with toks := s.toks + k.draws }) F.slot_dict_contains ty F.entry_dict_contains (F.args_dict_contains_2 _ _) (fun A2 R2 s2 g => ?_) ⟨rfl, rfl, wpAny_truthy_bool q⟩
  obtain ⟨rfl, rfl, g⟩ := g
  show wpAny _ _ (dictGet d u >>= _) _ _ _
  refine wpAny_bind (getW (by rw [Around.in1_units]; omega) R hk dk ho hd (fun n => ?_) fun i e a b => ?_)
  · rw [decide_eq_false n] at g
    show wpAny _ _ (Builtin.Dict.pendingKey? d u >>= _) _ _ _
    exact wpAny_bind (wpAny_pendingKey_other lo (wpAny_pure g))
  · rw [decide_eq_true (List.mem_of_getElem? a)] at g
    show wpAny _ _ (ret (.bool true)) _ _ _
    exact wpAny_pure g
theorem itemW {Q : Value → Shared → Prop} (hu : A.units + 9 < cLine) (R : Rows w s.heap es ks) (hk : NestedIs s.heap k u) (dk : k.depth ≤ 8) (ho : s.heap.get? d = some o) (hx : o.ExactDict) (hd : o.data = .dict es ep)
    (m : k ∈ ks) (q : ∀ (i : Nat) (e : DictEntry), ks[i]? = some k → es[i]? = some e → Q e.val { s with toks := s.toks + k.draws }) : wpAny (model prog w) A (getItem (.ref d) u) Q E s := by
  have ty : s.TypeIs (.ref d) "dict" := ⟨o, ho, hx.1⟩
  refine wpAny_getItem_slot ty (by decide) F.slot_dict_getitem ?_
  refine call_meetsIn (S := fun A2 R2 s2 => A2 = A ∧ s2 = s ∧ ∀ (i : Nat) (e : DictEntry), ks[i]? = some k → es[i]? = some e → R2 (.ok (.ret e.val)) { s with toks := s.toks + k.draws }) F.slot_dict_getitem ty F.entry_dict_getitem (F.args_dict_getitem_2 _ _) (fun A2 R2 s2 g => ?_) ⟨rfl, rfl, q⟩
  obtain ⟨rfl, rfl, g⟩ := g
  show wpAny _ _ (dictGet d u >>= _) _ _ _
  exact wpAny_bind (getW (by rw [Around.in1_units]; omega) R hk dk ho hd (fun n => absurd m n) fun i e a b => wpAny_pure (g i e a b))
theorem putW {v : Value} {Q : Unit → Shared → Prop} (hu : A.units + 9 < cLine) (R : Rows w s.heap es ks) (hk : NestedIs s.heap k u) (dk : k.depth ≤ 8) (ho : s.heap.get? d = some o) (hx : o.ExactDict) (hd : o.data = .dict es ep) (hz : es.size ≤ sizeLine)
    (q0 : k ∉ ks → ∀ h' o', h'.get? d = some o' → o'.ExactDict → o'.data = .dict (es.push ⟨k.hash w, u, v⟩) (ep + 1) → Heap.SameBut d s.heap h' → Q () { s with heap := h', toks := s.toks + k.draws })
    (q1 : ∀ i, ks[i]? = some k → ∀ h' o', h'.get? d = some o' → o'.ExactDict → o'.data = .dict (es.modify i fun e => { e with val := v }) ep → Heap.SameBut d s.heap h' → Q () { s with heap := h', toks := s.toks + k.draws }) : wpAny (model prog w) A (setItem (.ref d) u v) Q E s := by
  have ty : s.TypeIs (.ref d) "dict" := ⟨o, ho, hx.1⟩
  unfold setItem
  refine wpAny_holding (wpAny_bind (wpAny_sequenceKey ty (by decide) (wpAny_bind (wpAny_callSpecial?_slot ty F.slot_dict_setitem ?_))))
  refine call_meetsIn (S := fun A2 R2 s2 => A2 = A ∧ s2 = s ∧ ∀ s', Q () s' → R2 (.ok (.ret .none)) s') F.slot_dict_setitem ty F.entry_dict_setitem (F.args_dict_setitem_3 _ _ _) (fun A2 R2 s2 g => ?_) ⟨rfl, rfl, fun s' q => wpAny_pure q⟩
  obtain ⟨rfl, rfl, g⟩ := g
  show wpAny _ _ (Builtin.Dict.notOrdered "__setitem__" _ >>= _) _ _ _
  refine wpAny_bind (wpAny_notOrdered_dict ty ?_)
  show wpAny _ _ (dictSet d u v >>= _) _ _ _
  refine wpAny_bind (setW (by rw [Around.in1_units]; omega) R hk dk ho hx hd hz (fun n h' o' a b c e => ?_) fun i a h' o' b c e f => ?_)
  · exact wpAny_pure (g _ (q0 n h' o' a b c e))
  · exact wpAny_pure (g _ (q1 i a h' o' b c e f))
theorem getMW {Q : Value → Shared → Prop} (hu : A.units + 9 < cLine) (lo : (d == sysModules) = false) (R : Rows w s.heap es ks) (hk : NestedIs s.heap k u) (dk : k.depth ≤ 8) (ho : s.heap.get? d = some o) (hx : o.ExactDict) (hd : o.data = .dict es ep)
    (q0 : k ∉ ks → Q .none { s with toks := s.toks + k.draws }) (q1 : ∀ (i : Nat) (e : DictEntry), ks[i]? = some k → es[i]? = some e → Q e.val { s with toks := s.toks + k.draws }) : wpAny (model prog w) A (call (.builtin "dict.get") [.ref d, u]) Q E s := by
  have ty : s.TypeIs (.ref d) "dict" := ⟨o, ho, hx.1⟩
  refine call_meetsIn (S := fun A2 R2 s2 => A2 = A ∧ s2 = s ∧ (k ∉ ks → R2 (.ok (.ret .none)) { s with toks := s.toks + k.draws }) ∧ ∀ (i : Nat) (e : DictEntry), ks[i]? = some k → es[i]? = some e → R2 (.ok (.ret e.val)) { s with toks := s.toks + k.draws }) F.slot_dict_get ty F.entry_dict_get (F.args_dict_get_2 _ _) (fun A2 R2 s2 g => ?_) ⟨rfl, rfl, q0, q1⟩
  obtain ⟨rfl, rfl, g0, g1⟩ := g
  show wpAny _ _ (dictGet d u >>= _) _ _ _
  refine wpAny_bind (getW (by rw [Around.in1_units]; omega) R hk dk ho hd (fun n => ?_) fun i e a b => wpAny_pure (g1 i e a b))
  show wpAny _ _ (Builtin.Dict.missed d u >>= _) _ _ _
  exact wpAny_bind (wpAny_missed_other lo (wpAny_pure (g0 n)))
theorem popMW {Q : Value → Shared → Prop} (hu : A.units + 9 < cLine) (R : Rows w s.heap es ks) (hk : NestedIs s.heap k u) (dk : k.depth ≤ 8) (ho : s.heap.get? d = some o) (hx : o.ExactDict) (hd : o.data = .dict es ep) (hz : es.size ≤ sizeLine) (m : k ∈ ks)
    (q : ∀ (i : Nat) (e : DictEntry), ks[i]? = some k → es[i]? = some e → ∀ h' o', h'.get? d = some o' → o'.ExactDict → o'.data = .dict (es.eraseIdxIfInBounds i) (ep + 1) → Heap.SameBut d s.heap h' → Q e.val { s with heap := h', toks := s.toks + k.draws }) : wpAny (model prog w) A (call (.builtin "dict.pop") [.ref d, u]) Q E s := by
  have ty : s.TypeIs (.ref d) "dict" := ⟨o, ho, hx.1⟩
  refine call_meetsIn (S := fun A2 R2 s2 => A2 = A ∧ s2 = s ∧ ∀ (i : Nat) (e : DictEntry), ks[i]? = some k → es[i]? = some e → ∀ h' o', h'.get? d = some o' → o'.ExactDict → o'.data = .dict (es.eraseIdxIfInBounds i) (ep + 1) → Heap.SameBut d s.heap h' → R2 (.ok (.ret e.val)) { s with heap := h', toks := s.toks + k.draws }) F.slot_dict_pop ty F.entry_dict_pop (F.args_dict_pop_2 _ _) (fun A2 R2 s2 g => ?_) ⟨rfl, rfl, q⟩
  obtain ⟨rfl, rfl, g⟩ := g
  unfold Builtin.«dict.pop»
  refine wpAny_bind ?_
  unfold Builtin.Dict.keyAndDefault
  refine wpAny_bind (wpAny_notOrdered_dict ty ?_)
  show wpAny _ _ (pure (d, u, none)) _ _ _
  refine wpAny_pure ?_
  dsimp only
  have full : es.isEmpty = false := by
    obtain ⟨j, ej⟩ := List.mem_iff_getElem?.mp m
    have := (List.getElem?_eq_some_iff.mp ej).1
    have z := R.sz
    rw [Array.isEmpty]
    simp
    intro c
    rw [c] at z
    simp at z
    omega
  have rest : wpAny (model prog w) A2.in1 (Builtin.Dict.takeOut d u) (fun old s3 => ∃ e, old = some e ∧ R2 (.ok (.ret e.val)) s3) (fun e s' => R2 (.error e) s') s2 := outW (by rw [Around.in1_units]; omega) R hk dk ho hx hd hz m fun i e a b h' o' c f gg hh => ⟨e, rfl, g i e a b h' o' c f gg hh⟩
  refine iteW (fun _ => wpAny_bind (wpAny_pure ?_)) fun _ => wpAny_bind (wpAny_dictEntries ho hd (wpAny_bind (wpAny_pure ?_)))
  all_goals
    first | rw [full, if_neg (by simp)] | rw [if_neg (by simp)]
    refine wpAny_bind (wpAny_mono rest (fun old s3 f => ?_) fun _ _ z => z)
    obtain ⟨e, rfl, f⟩ := f
    rw [if_neg (by simp)]
    exact wpAny_bind (wpAny_letGo (wpAny_pure f))
end
end Mix
namespace My
open PySem PySem.Spec PyProof.Rows L2
/-! dicts whose keys are any data (numbers, texts, None, tuples of these), tracked -/
mutual
def Ky.toN : Ky → NestedKey
  | .num i => .num i
  | .txt x => .text x
  | .tup ks => .tup (Ky.toNs ks)
  | _ => .none
def Ky.toNs : List Ky → List NestedKey
  | [] => []
  | k :: ks => Ky.toN k :: Ky.toNs ks
end
mutual
theorem Ky.toN_inj : ∀ x y : Ky, x.val = true → y.val = true → x.toN = y.toN → x = y
  | .num i, .num j, _, _, e => by simp only [Ky.toN] at e; cases e; rfl
  | .txt i, .txt j, _, _, e => by simp only [Ky.toN] at e; cases e; rfl
  | .non, .non, _, _, _ => rfl
  | .tup xs, .tup ys, h, g, e => by
    simp only [Ky.toN] at e
    injection e with e
    rw [Ky.toNs_inj xs ys (tup_val h).2 (tup_val g).2 e]
  | .num _, .txt _, _, _, e => by simp [Ky.toN] at e
  | .num _, .non, _, _, e => by simp [Ky.toN] at e
  | .num _, .tup _, _, _, e => by simp [Ky.toN] at e
  | .txt _, .num _, _, _, e => by simp [Ky.toN] at e
  | .txt _, .non, _, _, e => by simp [Ky.toN] at e
  | .txt _, .tup _, _, _, e => by simp [Ky.toN] at e
  | .non, .num _, _, _, e => by simp [Ky.toN] at e
  | .non, .txt _, _, _, e => by simp [Ky.toN] at e
  | .non, .tup _, _, _, e => by simp [Ky.toN] at e
  | .tup _, .num _, _, _, e => by simp [Ky.toN] at e
  | .tup _, .txt _, _, _, e => by simp [Ky.toN] at e
  | .tup _, .non, _, _, e => by simp [Ky.toN] at e
  | .bl _, _, h, _, _ => by simp [Ky.val] at h
  | .lst _, _, h, _, _ => by simp [Ky.val] at h
  | .dct, _, h, _, _ => by simp [Ky.val] at h
  | .num _, .bl _, _, h, _ => by simp [Ky.val] at h
  | .num _, .lst _, _, h, _ => by simp [Ky.val] at h
  | .num _, .dct, _, h, _ => by simp [Ky.val] at h
  | .txt _, .bl _, _, h, _ => by simp [Ky.val] at h
  | .txt _, .lst _, _, h, _ => by simp [Ky.val] at h
  | .txt _, .dct, _, h, _ => by simp [Ky.val] at h
  | .non, .bl _, _, h, _ => by simp [Ky.val] at h
  | .non, .lst _, _, h, _ => by simp [Ky.val] at h
  | .non, .dct, _, h, _ => by simp [Ky.val] at h
  | .tup _, .bl _, _, h, _ => by simp [Ky.val] at h
  | .tup _, .lst _, _, h, _ => by simp [Ky.val] at h
  | .tup _, .dct, _, h, _ => by simp [Ky.val] at h
theorem Ky.toNs_inj : ∀ xs ys : List Ky, Ky.vals xs = true → Ky.vals ys = true → Ky.toNs xs = Ky.toNs ys → xs = ys
  | [], [], _, _, _ => rfl
  | x :: xs, y :: ys, h, g, e => by
    simp only [Ky.toNs] at e
    injection e with e1 e2
    have h' : x.val = true ∧ Ky.vals xs = true := by simpa [Ky.vals] using h
    have g' : y.val = true ∧ Ky.vals ys = true := by simpa [Ky.vals] using g
    rw [Ky.toN_inj x y h'.1 g'.1 e1, Ky.toNs_inj xs ys h'.2 g'.2 e2]
  | [], _ :: _, _, _, e => by simp [Ky.toNs] at e
  | _ :: _, [], _, _, e => by simp [Ky.toNs] at e
end
mutual
theorem Ky.toN_dep : ∀ k : Ky, k.toN.depth = k.dep
  | .tup ks => by
    simp only [Ky.toN, NestedKey.depth, Ky.dep]
    rw [Ky.toNs_dep ks]
  | .num _ => by simp [Ky.toN, NestedKey.depth, Ky.dep]
  | .txt _ => by simp [Ky.toN, NestedKey.depth, Ky.dep]
  | .bl _ => by simp [Ky.toN, NestedKey.depth, Ky.dep]
  | .non => by simp [Ky.toN, NestedKey.depth, Ky.dep]
  | .lst _ => by simp [Ky.toN, NestedKey.depth, Ky.dep]
  | .dct => by simp [Ky.toN, NestedKey.depth, Ky.dep]
theorem Ky.toNs_dep : ∀ ks : List Ky, NestedKey.depthAll (Ky.toNs ks) = Ky.deps ks
  | [] => by simp [Ky.toNs, NestedKey.depthAll, Ky.deps]
  | k :: ks => by
    simp only [Ky.toNs, NestedKey.depthAll, Ky.deps]
    rw [Ky.toN_dep k, Ky.toNs_dep ks]
end
section
variable {P : Program} {w : World} {H : Hp} {h : Heap}
mutual
theorem KyAt.nested (ok : HOk P w H h) : ∀ (k : Ky) (v : V) (u : Value), k.val = true → KyAt H v k → RelV v u → NestedIs h k.toN u
  | .num i, _, u, _, x, r => by
    cases x
    obtain ⟨t, rfl⟩ := r
    exact .int i t
  | .txt y, _, u, _, x, r => by
    cases x
    obtain ⟨t, rfl⟩ := r
    exact .text y t
  | .non, _, u, _, x, r => by
    cases x
    cases r
    exact .none
  | .tup ks, _, u, g, x, r => by
    cases x with
    | tup e p =>
      cases r
      obtain ⟨_, its, rel, o, ho, hc, n, hd⟩ := ok _ _ e
      exact .tup ho hc hd (KysAt.nested ok ks _ _ (tup_val g).2 p (by simpa using rel))
  | .bl _, _, _, g, _, _ => by simp [Ky.val] at g
  | .lst _, _, _, g, _, _ => by simp [Ky.val] at g
  | .dct, _, _, g, _, _ => by simp [Ky.val] at g
theorem KysAt.nested (ok : HOk P w H h) : ∀ (ks : List Ky) (vs : List V) (us : List Value), Ky.vals ks = true → KysAt H vs ks → Vals vs us → NestedAll h (Ky.toNs ks) us
  | [], _, _, _, x, r => by
    cases x
    cases r
    exact .nil
  | k :: ks, _, _, g, x, r => by
    have g' : k.val = true ∧ Ky.vals ks = true := by simpa [Ky.vals] using g
    cases x with
    | cons x1 x2 =>
      cases r with
      | cons r1 r2 => exact .cons (KyAt.nested ok k _ _ g'.1 x1 r1) (KysAt.nested ok ks _ _ g'.2 x2 r2)
end
end
/-- what may be a key there -/
def MKey (k : Ky) : Prop := k.val = true ∧ k.dep ≤ 8
theorem KOk.mkey {k : Ky} (h : KeyOk k) : MKey k := ⟨h.val, Nat.le_trans h.d (by decide)⟩
theorem mkey_non : MKey .non := ⟨rfl, by simp [Ky.dep]⟩
def mixP (w : World) (a : Addr) (ks : List Ky) (us vs : List V) (h : Heap) : Prop := (a == sysModules) = false ∧ ks.length ≤ sizeLine ∧ ∃ o es ep, h.get? a = some o ∧ o.ExactDict ∧ o.data = .dict es ep ∧ es.size = ks.length ∧ us.length = ks.length ∧ vs.length = ks.length ∧
  ∀ (i : Nat) (e : DictEntry) (k : Ky) (u v : V), es[i]? = some e → ks[i]? = some k → us[i]? = some u → vs[i]? = some v → RelV u e.key ∧ e.hash = k.toN.hash w ∧ RelV v e.val
def mixO (w : World) (a : Addr) (ks : List Ky) (us vs : List V) : HO := .ext (mixP w a ks us vs)
/-- at a stands a dict from the keys ks to the values vs, in the order of coming -/
structure MixAt (w : World) (H : Hp) (a : Addr) (ks : List Ky) (vs : List V) : Prop where
  ex : ∃ us, H a = some (mixO w a ks us vs) ∧ KysAt H us ks
  nd : ks.Nodup
  key : ∀ k ∈ ks, MKey k
  len : vs.length = ks.length
theorem mix_ok {P : Program} {w : World} {H : Hp} {h : Heap} {a : Addr} {ks : List Ky} {us vs : List V} (p : mixP w a ks us vs h) : ObjOk P w H h a (mixO w a ks us vs) := by
  obtain ⟨_, _, o, es, ep, ho, _⟩ := id p
  refine ⟨p, ⟨o, ho⟩, fun h1 h2 q st => ?_⟩
  obtain ⟨q1, q2, o, es, ep, ho, q⟩ := q
  exact ⟨q1, q2, o, es, ep, st o ho, q⟩
theorem mix_new {w : World} {h : Heap} (lo : (h.objs.size == sysModules) = false) : mixP w h.objs.size [] [] [] (h.push { cls := .type "dict", data := .dict #[] }) :=
  ⟨lo, Nat.zero_le _, _, #[], 0, Heap.get?_push_size _ rfl, ⟨rfl, rfl, rfl⟩, rfl, rfl, rfl, rfl, fun i e k u v a _ _ _ => by simp at a⟩
theorem toN_mem {ks : List Ky} {k : Ky} (hk : k.val = true) (h : ∀ x ∈ ks, MKey x) : k.toN ∈ ks.map Ky.toN ↔ k ∈ ks := by
  constructor
  · intro m
    obtain ⟨y, my, e⟩ := List.mem_map.mp m
    rw [← Ky.toN_inj y k (h y my).1 hk e]
    exact my
  · exact fun m => List.mem_map_of_mem m
theorem toN_at {ks : List Ky} {k : Ky} (hk : k.val = true) (h : ∀ x ∈ ks, MKey x) {i : Nat} (e : (ks.map Ky.toN)[i]? = some k.toN) : ks[i]? = some k := by
  rw [List.getElem?_map] at e
  obtain ⟨y, ey, z⟩ := Option.map_eq_some_iff.mp e
  rw [ey, Ky.toN_inj y k (h y (List.mem_of_getElem? ey)).1 hk z]
theorem toN_nodup {ks : List Ky} (n : ks.Nodup) (h : ∀ x ∈ ks, MKey x) : (ks.map Ky.toN).Nodup := by
  rw [List.nodup_iff_pairwise_ne, List.pairwise_map]
  refine List.Pairwise.imp_of_mem (fun {a b} ma mb ne e => ne ?_) (List.nodup_iff_pairwise_ne.mp n)
  exact Ky.toN_inj a b (h a ma).1 (h b mb).1 e
theorem KysAt.get' {H : Hp} {ks : List Ky} {us : List V} {i : Nat} {k : Ky} (h : KysAt H us ks) (e : ks[i]? = some k) : ∃ u, us[i]? = some u ∧ KyAt H u k := by
  have hi := (List.getElem?_eq_some_iff.mp e).1
  have hu : i < us.length := by rw [KysAt.len h]; exact hi
  obtain ⟨k2, e2, q⟩ := h.get (List.getElem?_eq_getElem hu)
  rw [e] at e2
  cases e2
  exact ⟨_, List.getElem?_eq_getElem hu, q⟩
section
variable {X : Cx} {pins : List (Addr × Obj)} {σ : L2.St} {H : Hp} {s : Shared} {a : Addr} {ks : List Ky} {vs us : List V}
/-- its entries, as the library sees them -/
theorem mix_rows (I : Inv X pins σ H s) (e : H a = some (mixO X.w a ks us vs)) (hu : KysAt H us ks) (nd : ks.Nodup) (hk : ∀ k ∈ ks, MKey k) : ∃ o es ep, (a == sysModules) = false ∧ es.size ≤ sizeLine ∧ s.heap.get? a = some o ∧ o.ExactDict ∧ o.data = .dict es ep ∧ Mix.Rows X.w s.heap es (ks.map Ky.toN) ∧
    vs.length = ks.length ∧ (∀ (i : Nat) (e : DictEntry) (u : V), es[i]? = some e → us[i]? = some u → RelV u e.key) ∧ ∀ (i : Nat) (e : DictEntry) (v : V), es[i]? = some e → vs[i]? = some v → RelV v e.val := by
  obtain ⟨lo, ln, o, es, ep, ho, hx, hd, sz, lu, lv, at_⟩ := (I.hok a _ e).1
  have full : ∀ (i : Nat) (e : DictEntry), es[i]? = some e → ∃ k u v, ks[i]? = some k ∧ us[i]? = some u ∧ vs[i]? = some v := fun i e a => by
    have hi : i < ks.length := by rw [← sz]; exact (Array.getElem?_eq_some_iff.mp a).1
    exact ⟨_, _, _, List.getElem?_eq_getElem hi, List.getElem?_eq_getElem (by rw [lu]; exact hi), List.getElem?_eq_getElem (by rw [lv]; exact hi)⟩
  refine ⟨o, es, ep, lo, by rw [sz]; exact ln, ho, hx, hd, ⟨by rw [List.length_map]; exact sz, fun i n e a b => ?_, toN_nodup nd hk⟩, lv, fun i e u a b => ?_, fun i e v a b => ?_⟩
  · obtain ⟨k, u, v, e1, e2, e3⟩ := full i e b
    obtain ⟨q1, q2, q3⟩ := at_ i e k u v b e1 e2 e3
    rw [List.getElem?_map, e1] at a
    cases a
    have mk := hk k (List.mem_of_getElem? e1)
    obtain ⟨k2, e4, q⟩ := hu.get e2
    rw [e1] at e4
    cases e4
    exact ⟨KyAt.nested I.hok k u _ mk.1 q q1, q2, by rw [Ky.toN_dep]; exact mk.2⟩
  · obtain ⟨k, u2, v, e1, e2, e3⟩ := full i e a
    rw [b] at e2
    cases e2
    exact (at_ i e k u v a e1 b e3).1
  · obtain ⟨k, u, v2, e1, e2, e3⟩ := full i e a
    rw [b] at e3
    cases e3
    exact (at_ i e k u v a e1 e2 b).2.2
/-- written: the entries that it has then -/
theorem mix_write {h' : Heap} {t' : Nat} {ks' : List Ky} {us' vs' : List V} (I : Inv X pins σ H s) (e : H a = some (mixO X.w a ks us vs)) (sb : Heap.SameBut a s.heap h') (p : mixP X.w a ks' us' vs' h') : Inv X pins σ (upd H a (mixO X.w a ks' us' vs')) { s with heap := h', toks := t' } := by
  obtain ⟨_, _, o, es, ep, ho, _⟩ := id p
  exact d_write I (by rw [e]; exact True.intro) sb ⟨o, ho⟩ (mix_ok p)
theorem mix_keep {ks2 : List Ky} {us2 : List V} {o : HO} (e : H a = some (mixO X.w a ks us vs)) (v : Ky.vals ks2 = true) (h : KysAt H us2 ks2) : KysAt (upd H a o) us2 ks2 := KysAt.keep but_one (noTup_one e fun _ z => by cases z) _ _ v h
end
/-! the rules -/
def rInM (w : World) : R2 := fun x y H Q => ∃ (k : Ky) (d : Addr) (ks : List Ky) (vs : List V), y = .ref d ∧ KyAt H x k ∧ MKey k ∧ MixAt w H d ks vs ∧ Q (.bl (decide (k ∈ ks))) H
def rNotInM (w : World) : R2 := fun x y H Q => ∃ (k : Ky) (d : Addr) (ks : List Ky) (vs : List V), y = .ref d ∧ KyAt H x k ∧ MKey k ∧ MixAt w H d ks vs ∧ Q (.bl (!decide (k ∈ ks))) H
def rIxM (w : World) : R2 := fun x y H Q => ∃ (k : Ky) (d : Addr) (ks : List Ky) (vs : List V) (i : Nat) (v : V), x = .ref d ∧ KyAt H y k ∧ MKey k ∧ MixAt w H d ks vs ∧ ks[i]? = some k ∧ vs[i]? = some v ∧ Q v H
/-- the keys, the values behind d[k] = v -/
def putKs (ks : List Ky) (k : Ky) : List Ky := if k ∈ ks then ks else ks ++ [k]
def putVs (ks : List Ky) (vs : List V) (k : Ky) (v : V) : List V := if k ∈ ks then vs.set (ks.idxOf k) v else vs ++ [v]
def rSetM (w : World) : TSet := fun x y v H R => ∃ (k : Ky) (d : Addr) (ks : List Ky) (vs : List V), x = .ref d ∧ KyAt H y k ∧ MKey k ∧ MixAt w H d ks vs ∧ ks.length < sizeLine ∧ ∀ o, MixAt w (upd H d o) d (putKs ks k) (putVs ks vs k v) → (∀ xs, o ≠ .tup xs) → R (upd H d o)
def rGetM (w : World) : V → List V → Hp → VK → Prop := fun x ys H Q => ∃ (y : V) (k : Ky) (d : Addr) (ks : List Ky) (vs : List V), x = .ref d ∧ ys = [y] ∧ KyAt H y k ∧ MKey k ∧ MixAt w H d ks vs ∧ (k ∉ ks → Q .non H) ∧ ∀ (i : Nat) (v : V), ks[i]? = some k → vs[i]? = some v → Q v H
def rPopM (w : World) : V → List V → Hp → VK → Prop := fun x ys H Q => ∃ (y : V) (k : Ky) (d : Addr) (ks : List Ky) (vs : List V) (i : Nat) (v : V), x = .ref d ∧ ys = [y] ∧ KyAt H y k ∧ MKey k ∧ MixAt w H d ks vs ∧ ks[i]? = some k ∧ vs[i]? = some v ∧ ∀ o, MixAt w (upd H d o) d (ks.eraseIdx i) (vs.eraseIdx i) → (∀ xs, o ≠ .tup xs) → Q v (upd H d o)
def rClearM (w : World) : V → List V → Hp → VK → Prop := fun x ys H Q => ∃ (d : Addr) (ks : List Ky) (vs : List V), x = .ref d ∧ ys = [] ∧ MixAt w H d ks vs ∧ ∀ o, MixAt w (upd H d o) d [] [] → (∀ xs, o ≠ .tup xs) → Q .non (upd H d o)
def rLenM (w : World) : List V → Hp → VK → Prop := fun xs H Q => ∃ (d : Addr) (ks : List Ky) (vs : List V), xs = [.ref d] ∧ MixAt w H d ks vs ∧ Q (.int (ks.length : Nat)) H
def rListM (w : World) : List V → Hp → VK → Prop := fun xs H Q => ∃ (d : Addr) (ks : List Ky) (vs : List V), xs = [.ref d] ∧ MixAt w H d ks vs ∧ ∀ p us, Fresh H p → KysAt (upd H p (.lst us)) us ks → Q (.ref p) (upd H p (.lst us))
def tDNewM (w : World) : TE := fun _ H Q => ∀ p o, Fresh H p → MixAt w (upd H p o) p [] [] → Q (.ref p) (upd H p o)
section
variable {X : Cx}
theorem op_inM (hu : X.A.units + 65 < cLine) : OpR X (compareOp .In) (rInM X.w) := by
  intro pins s σ H x y v u Q I rx ry h
  obtain ⟨k, d, ks, vs, rfl, hk, mk, ⟨⟨us, e, hus⟩, nd, ky, _⟩, q⟩ := h
  cases ry
  obtain ⟨o, es, ep, lo, z, ho, hx, hd, R, lv, _, _⟩ := mix_rows I e hus nd ky
  show wpAny _ _ (contains (.ref d) v >>= fun b => pure (Value.bool b)) _ _ _
  refine wpAny_bind (Mix.inW (by omega) lo R (KyAt.nested I.hok k x v mk.1 hk rx) (by rw [Ky.toN_dep]; exact mk.2) ho hx hd (wpAny_pure ⟨.bl (decide (k ∈ ks)), H, I.tok _, ?_, q⟩))
  show Value.bool _ = Value.bool _
  rw [decide_eq_decide.mpr (toN_mem mk.1 ky)]
theorem op_notInM (hu : X.A.units + 65 < cLine) : OpR X (compareOp .NotIn) (rNotInM X.w) := by
  intro pins s σ H x y v u Q I rx ry h
  obtain ⟨k, d, ks, vs, rfl, hk, mk, ⟨⟨us, e, hus⟩, nd, ky, _⟩, q⟩ := h
  cases ry
  obtain ⟨o, es, ep, lo, z, ho, hx, hd, R, lv, _, _⟩ := mix_rows I e hus nd ky
  show wpAny _ _ (contains (.ref d) v >>= fun b => pure (Value.bool (!b))) _ _ _
  refine wpAny_bind (Mix.inW (by omega) lo R (KyAt.nested I.hok k x v mk.1 hk rx) (by rw [Ky.toN_dep]; exact mk.2) ho hx hd (wpAny_pure ⟨.bl (!decide (k ∈ ks)), H, I.tok _, ?_, q⟩))
  show Value.bool _ = Value.bool _
  rw [decide_eq_decide.mpr (toN_mem mk.1 ky)]
theorem ix_mix (hu : X.A.units + 65 < cLine) : IxR X (rIxM X.w) := by
  intro value slice pins s σ H x y v u Q I rx ry h hs
  obtain ⟨k, d, ks, vs, i, w', rfl, hk, mk, ⟨⟨us, e, hus⟩, nd, ky, _⟩, e1, e2, q⟩ := h
  cases rx
  obtain ⟨o, es, ep, lo, z, ho, hx, hd, R, lv, _, rv⟩ := mix_rows I e hus nd ky
  have hi : i < es.size := by rw [R.sz, List.length_map]; exact (List.getElem?_eq_some_iff.mp e1).1
  have ei : es[i]? = some es[i] := Array.getElem?_eq_getElem hi
  refine subscriptTail_builtinR (x := es[i].val) (id := "dict.__getitem__") ⟨o, ho, hx.1⟩ PySem.F.slot_dict_getitem.lookup (Mix.itemW (by omega) R (KyAt.nested I.hok k y u mk.1 hk ry) (by rw [Ky.toN_dep]; exact mk.2) ho hx hd (List.mem_map_of_mem (List.mem_of_getElem? e1)) fun j e a b => ?_) hs
  have ej : j = i := Mix.nodup_ix nd (toN_at mk.1 ky a) e1
  subst ej
  rw [ei] at b
  cases b
  exact ⟨rfl, w', H, I.tok _, rv j _ _ ei e2, q⟩
end
end My
namespace My
open PySem PySem.Spec PyProof.Rows L2
theorem vals_ix : ∀ {xs : List V} {us : List Value}, xs.length = us.length → (∀ (i : Nat) x u, xs[i]? = some x → us[i]? = some u → RelV x u) → Vals xs us
  | [], [], _, _ => .nil
  | x :: xs, u :: us, l, h => .cons (h 0 x u rfl rfl) (vals_ix (by simpa using l) fun i y z a b => h (i + 1) y z (by simpa using a) (by simpa using b))
  | [], _ :: _, l, _ => by simp at l
  | _ :: _, [], l, _ => by simp at l
theorem idx_of {ks : List Ky} {k : Ky} {i : Nat} (nd : ks.Nodup) (e : ks[i]? = some k) : ks.idxOf k = i := by
  have m := List.mem_of_getElem? e
  have h : ks.idxOf k < ks.length := List.idxOf_lt_length_of_mem m
  have g : ks[ks.idxOf k]? = some k := by
    rw [List.getElem?_eq_getElem h]
    congr 1
    exact List.getElem_idxOf h
  exact Mix.nodup_ix nd g e
theorem putKs_len (ks : List Ky) (k : Ky) : (putKs ks k).length ≤ ks.length + 1 := by
  unfold putKs
  split
  · omega
  · rw [List.length_append]; exact Nat.le_refl _
theorem putKs_mem {ks : List Ky} {k y : Ky} : y ∈ putKs ks k ↔ y ∈ ks ∨ y = k := by
  unfold putKs
  split
  · rename_i h
    exact ⟨.inl, fun q => q.elim id fun e => by rw [e]; exact h⟩
  · simp
theorem putKs_nd {ks : List Ky} {k : Ky} (h : ks.Nodup) : (putKs ks k).Nodup := by
  unfold putKs
  split
  · exact h
  · rename_i n
    rw [List.nodup_append]
    exact ⟨h, by simp, fun x hx y hy e => n (by simp at hy; rw [← hy, ← e]; exact hx)⟩
theorem snoc_at {α : Type} {l : List α} {x y : α} {i : Nat} (h : (l ++ [x])[i]? = some y) : l[i]? = some y ∨ (i = l.length ∧ y = x) := by
  by_cases c : i < l.length
  · rw [List.getElem?_append_left c] at h
    exact .inl h
  · rw [List.getElem?_append_right (by omega)] at h
    have hi := (List.getElem?_eq_some_iff.mp h).1
    simp at hi
    have e : i = l.length := by omega
    subst e
    rw [Nat.sub_self] at h
    cases h
    exact .inr ⟨rfl, rfl⟩
theorem snoc_old {α : Type} {l : List α} {x y : α} {i : Nat} (h : (l ++ [x])[i]? = some y) (n : i < l.length) : l[i]? = some y := by
  rcases snoc_at h with h | ⟨e, -⟩
  · exact h
  · omega
theorem snoc_new {α : Type} {l : List α} {x y : α} {i : Nat} (h : (l ++ [x])[i]? = some y) (n : i = l.length) : y = x := by
  rcases snoc_at h with h | ⟨-, e⟩
  · have := (List.getElem?_eq_some_iff.mp h).1
    omega
  · exact e
section
variable {X : Cx}
theorem set_mix (hu : X.A.units + 65 < cLine) : PSet X (rSetM X.w) := by
  intro pins s σ H x y v ov iv u Q I ro ri rv h
  obtain ⟨k, d, ks, vs, rfl, hk, mk, ⟨⟨us, e, hus⟩, nd, ky, lv⟩, ln, q⟩ := h
  cases ro
  have ho0 := (I.hok d _ e).1
  obtain ⟨-, -, o0, es0, ep0, g0, -, g2, sz, lu, -, at0⟩ := ho0
  obtain ⟨o, es, ep, lo, z, ho, hx, hd, R, -, ru, rv'⟩ := mix_rows I e hus nd ky
  rw [ho] at g0
  cases g0
  rw [hd] at g2
  cases g2
  have vk : Ky.vals ks = true := vals_iff.mpr fun k m => (ky k m).1
  refine Mix.putW (by omega) R (KyAt.nested I.hok k y iv mk.1 hk ri) (by rw [Ky.toN_dep]; exact mk.2) ho hx hd z (fun n h' o' ho' hx' hd' sb => ?_) fun i a h' o' ho' hx' hd' sb => ?_
  · have nk : k ∉ ks := fun m => n (List.mem_map_of_mem m)
    have p : mixP X.w d (ks ++ [k]) (us ++ [y]) (vs ++ [v]) h' := by
      refine ⟨lo, by rw [List.length_append, List.length_singleton]; omega, o', _, _, ho', hx', hd', by rw [Array.size_push, sz, List.length_append]; rfl, by rw [List.length_append, List.length_append, lu]; rfl, by rw [List.length_append, List.length_append, lv]; rfl, fun j e2 k2 u2 v2 a b c f => ?_⟩
      by_cases hj : j < ks.length
      · rw [Array.getElem?_push, if_neg (by omega)] at a
        exact at0 j e2 k2 u2 v2 a (snoc_old b hj) (snoc_old c (by omega)) (snoc_old f (by omega))
      · have hj2 : j = ks.length := by
          have := (List.getElem?_eq_some_iff.mp b).1
          rw [List.length_append, List.length_singleton] at this
          omega
        rw [Array.getElem?_push, if_pos (by omega)] at a
        cases a
        rw [snoc_new b hj2, snoc_new c (by omega), snoc_new f (by omega)]
        exact ⟨ri, rfl, rv⟩
    refine ⟨_, mix_write I e sb p, q _ ⟨⟨us ++ [y], ?_, ?_⟩, putKs_nd nd, fun x m => (putKs_mem.mp m).elim (ky x) fun z => by rw [z]; exact mk, ?_⟩ fun _ z => by cases z⟩
    · unfold putKs putVs
      rw [if_neg nk, if_neg nk]
      exact upd_same
    · unfold putKs
      rw [if_neg nk]
      exact (mix_keep e vk hus).append (.cons (KyAt.keep but_one (noTup_one e fun _ z => by cases z) _ _ mk.1 hk) .nil)
    · unfold putKs putVs
      rw [if_neg nk, if_neg nk, List.length_append, List.length_append, lv]
      rfl
  · have ea := toN_at mk.1 ky a
    have m := List.mem_of_getElem? ea
    have ix := idx_of nd ea
    have p : mixP X.w d ks us (vs.set i v) h' := by
      refine ⟨lo, by omega, o', _, _, ho', hx', hd', by rw [Array.size_modify, sz], lu, by rw [List.length_set, lv], fun j e2 k2 u2 v2 a b c f => ?_⟩
      rw [Array.getElem?_modify] at a
      have hj := (List.getElem?_eq_some_iff.mp b).1
      rw [List.getElem?_set] at f
      split at a <;> rename_i cc
      · obtain ⟨e3, he, rfl⟩ := Option.map_eq_some_iff.mp a
        rw [if_pos cc, if_pos (by omega)] at f
        cases f
        obtain ⟨v3, hv3⟩ : ∃ v3, vs[j]? = some v3 := ⟨_, List.getElem?_eq_getElem (by omega)⟩
        obtain ⟨w1, w2, -⟩ := at0 j e3 k2 u2 v3 he b c hv3
        exact ⟨w1, w2, rv⟩
      · rw [if_neg cc] at f
        exact at0 j e2 k2 u2 v2 a b c f
    refine ⟨_, mix_write I e sb p, q _ ⟨⟨us, ?_, ?_⟩, putKs_nd nd, fun x m => (putKs_mem.mp m).elim (ky x) fun z => by rw [z]; exact mk, ?_⟩ fun _ z => by cases z⟩
    · unfold putKs putVs
      rw [if_pos m, if_pos m, ix]
      exact upd_same
    · unfold putKs
      rw [if_pos m]
      exact mix_keep e vk hus
    · unfold putKs putVs
      rw [if_pos m, if_pos m, List.length_set, lv]
theorem mt_getM (hu : X.A.units + 65 < cLine) : MtR X "dict.get" (rGetM X.w) := by
  intro pins s σ H x ys v us0 Q I rx rs h
  obtain ⟨y, k, d, ks, vs, rfl, rfl, hk, mk, ⟨⟨us, e, hus⟩, nd, ky, lv⟩, q0, q1⟩ := h
  cases rx
  obtain ⟨u, rfl, ry⟩ := vals1 rs
  obtain ⟨o, es, ep, lo, z, ho, hx, hd, R, -, ru, rv⟩ := mix_rows I e hus nd ky
  refine Mix.getMW (by omega) lo R (KyAt.nested I.hok k y u mk.1 hk ry) (by rw [Ky.toN_dep]; exact mk.2) ho hx hd (fun n => ?_) fun i e2 a b => ?_
  · exact ⟨.non, H, I.tok _, rfl, q0 fun m => n (List.mem_map_of_mem m)⟩
  · have ea := toN_at mk.1 ky a
    have hi := (List.getElem?_eq_some_iff.mp ea).1
    obtain ⟨v, hv⟩ : ∃ v, vs[i]? = some v := ⟨_, List.getElem?_eq_getElem (by omega)⟩
    exact ⟨v, H, I.tok _, rv i e2 v b hv, q1 i v ea hv⟩
theorem mt_popM (hu : X.A.units + 65 < cLine) : MtR X "dict.pop" (rPopM X.w) := by
  intro pins s σ H x ys v us0 Q I rx rs h
  obtain ⟨y, k, d, ks, vs, i, v0, rfl, rfl, hk, mk, ⟨⟨us, e, hus⟩, nd, ky, lv⟩, e1, e2, q⟩ := h
  cases rx
  obtain ⟨u, rfl, ry⟩ := vals1 rs
  have ho0 := (I.hok d _ e).1
  obtain ⟨-, -, o0, es0, ep0, g0, -, g2, sz, lu, -, at0⟩ := ho0
  obtain ⟨o, es, ep, lo, z, ho, hx, hd, R, -, ru, rv'⟩ := mix_rows I e hus nd ky
  rw [ho] at g0
  cases g0
  rw [hd] at g2
  cases g2
  have vk : Ky.vals ks = true := vals_iff.mpr fun k m => (ky k m).1
  refine Mix.popMW (by omega) R (KyAt.nested I.hok k y u mk.1 hk ry) (by rw [Ky.toN_dep]; exact mk.2) ho hx hd z (List.mem_map_of_mem (List.mem_of_getElem? e1)) fun j e3 a b h' o' ho' hx' hd' sb => ?_
  have ej : j = i := Mix.nodup_ix nd (toN_at mk.1 ky a) e1
  subst ej
  have hj := (List.getElem?_eq_some_iff.mp e1).1
  have p : mixP X.w d (ks.eraseIdx j) (us.eraseIdx j) (vs.eraseIdx j) h' := by
    refine ⟨lo, by rw [List.length_eraseIdx]; split <;> omega, o', _, _, ho', hx', hd', ?_, ?_, ?_, fun n e4 k2 u2 v2 a b c f => ?_⟩
    · rw [← Array.length_toList, Mix.erase_list, List.length_eraseIdx, List.length_eraseIdx, Array.length_toList, sz]
    · rw [List.length_eraseIdx, List.length_eraseIdx, lu]
    · rw [List.length_eraseIdx, List.length_eraseIdx, lv]
    · rw [← Array.getElem?_toList, Mix.erase_list] at a
      rw [List.getElem?_eraseIdx] at a b c f
      split at a <;> rename_i cc
      · rw [if_pos cc] at b c f
        rw [Array.getElem?_toList] at a
        exact at0 n e4 k2 u2 v2 a b c f
      · rw [if_neg cc] at b c f
        rw [Array.getElem?_toList] at a
        exact at0 (n + 1) e4 k2 u2 v2 a b c f
  have kys : ∀ {ks : List Ky} {us : List V} (j : Nat), KysAt H us ks → KysAt H (us.eraseIdx j) (ks.eraseIdx j) := by
    intro ks
    induction ks with
    | nil => intro us j h; cases h; exact .nil
    | cons k ks ih =>
      intro us j h
      cases h with
      | cons h t =>
        cases j with
        | zero => exact t
        | succ j => exact .cons h (ih j t)
  have sub := List.eraseIdx_sublist ks j
  have ky' : ∀ x ∈ ks.eraseIdx j, MKey x := fun x m => ky x (sub.subset m)
  exact ⟨v0, _, mix_write I e sb p, rv' j e3 v0 b e2, q _ ⟨⟨us.eraseIdx j, upd_same, mix_keep e (vals_iff.mpr fun k m => (ky' k m).1) (kys j hus)⟩, nd.sublist sub, ky', by rw [List.length_eraseIdx, List.length_eraseIdx, lv]⟩ fun _ z => by cases z⟩
theorem mt_clearM : MtR X "dict.clear" (rClearM X.w) := by
  intro pins s σ H x ys v us0 Q I rx rs h
  obtain ⟨d, ks, vs, rfl, rfl, ⟨⟨us, e, hus⟩, nd, ky, lv⟩, q⟩ := h
  cases rx
  cases rs
  obtain ⟨o, es, ep, lo, z, ho, hx, hd, R, -, ru, rv⟩ := mix_rows I e hus nd ky
  refine call_meetsIn PySem.F.slot_dict_clear ⟨o, ho, hx.1⟩ PySem.F.entry_dict_clear (PySem.F.args_dict_clear_1 _) (PySem.meets_dict_clear_raw d) ⟨es, ep, ⟨o, ho, hx, hd⟩, z, fun h' r sb => ?_⟩
  obtain ⟨o', ho', hx', hd'⟩ := r
  have p : mixP X.w d [] [] [] h' := ⟨lo, Nat.zero_le _, o', _, _, ho', hx', hd', rfl, rfl, rfl, fun i e k u v a _ _ _ => by simp at a⟩
  exact ⟨.non, _, mix_write (t' := s.toks) I e sb p, rfl, q _ ⟨⟨[], upd_same, .nil⟩, .nil, (fun _ m => by cases m), rfl⟩ fun _ z => by cases z⟩
theorem call_lenM : CallR X (.builtin "len") (rLenM X.w) := by
  intro pins s σ H xs us0 Q I r h
  obtain ⟨d, ks, vs, rfl, ⟨⟨us, e, hus⟩, nd, ky, lv⟩, q⟩ := h
  obtain ⟨u, rfl, rx⟩ := vals1 r
  cases rx
  obtain ⟨o, es, ep, lo, z, ho, hx, hd, R, -, ru, rv⟩ := mix_rows I e hus nd ky
  have sz := R.sz
  rw [List.length_map] at sz
  rw [sizeLine_eq] at z
  refine call_len_slot (n := (es.size : Nat)) ⟨o, ho, hx.1⟩ PySem.F.slot_dict_len (fun Q' q' => PySem.call_len_raw lo ⟨o, ho, hx, hd⟩ q') (by omega) (by omega) ⟨.int (ks.length : Nat), H, I.tok _, ?_, q⟩
  rw [sz]
  exact ⟨_, rfl⟩
theorem call_listM (hc : X.calm = true) : CallR X (.type "list") (rListM X.w) := by
  intro pins s σ H xs us0 Q I r h
  obtain ⟨d, ks, vs, rfl, ⟨⟨us, e, hus⟩, nd, ky, lv⟩, q⟩ := h
  obtain ⟨u, rfl, rx⟩ := vals1 r
  cases rx
  obtain ⟨o, es, ep, lo, z, ho, hx, hd, R, -, ru, rv⟩ := mix_rows I e hus nd ky
  have sz := R.sz
  rw [List.length_map] at sz
  have lu := KysAt.len hus
  refine PySem.W.kdl_call (PySem.KdlSrc.rawDict (es := es) (ep := ep) lo) (I.ok.hd hc) ⟨o, ho, hx, hd⟩ z fun h' tk acc c' hk hD hacc => ?_
  have hv : Vals us acc.toList := vals_ix (lu.trans (sz.symm.trans (hacc.1.symm.trans Array.length_toList.symm))) fun i x u a b => by
    obtain ⟨hi, rfl⟩ := hacc.2 i u (by rw [← Array.getElem?_toList]; exact b)
    exact ru i _ x (Array.getElem?_eq_getElem hi) a
  have fr : Fresh H s.heap.objs.size := I.hok.fresh (Nat.le_refl _)
  exact ⟨.ref s.heap.objs.size, _, I.laid (t' := tk) hk (Nat.le_refl _) (show ObjOk X.prog X.w _ h' _ (.lst us) from ⟨by rw [lu, ← sz]; exact z, acc.toList, c', hv, by rw [Array.toArray_toList]; exact hD⟩), rfl, q _ us fr (hus.same (Same_upd (Same.refl _) fr) _ _)⟩
theorem pe_dnewM {pos : Pos} : PE X (.Dict [] [] pos) (tDNewM X.w) := by
  refine ⟨fun pins s σ H Q I h => wpAny_Dict_empty ?_⟩
  have lo : (s.heap.objs.size == sysModules) = false := beq_eq_false_iff_ne.mpr (Nat.ne_of_gt I.big)
  have fr : Fresh H s.heap.objs.size := I.hok.fresh (Nat.le_refl _)
  exact ⟨.ref s.heap.objs.size, _, I.laid (t' := s.toks) (fun _ _ q => Heap.get?_push_of_some _ q) (Nat.le_refl _) (mix_ok (mix_new lo)), rfl, h _ _ fr ⟨⟨[], upd_same, .nil⟩, .nil, (fun _ m => by cases m), rfl⟩⟩
/-- the receiver is such a dict -/
def IsMix (w : World) (H : Hp) (x : V) : Prop := ∃ d ks us vs, x = .ref d ∧ H d = some (mixO w d ks us vs)
theorem MixAt.isM {w : World} {H : Hp} {d : Addr} {ks : List Ky} {vs : List V} (m : MixAt w H d ks vs) : IsMix w H (.ref d) := by
  obtain ⟨us, e, -⟩ := m.ex
  exact ⟨d, ks, us, vs, rfl, e⟩
def tMM0 (w : World) (r : V → List V → Hp → VK → Prop) (to : TE) : TE := fun σ H Q => to σ H fun x H1 => IsMix w H1 x ∧ r x [] H1 Q
def tMM (w : World) (r : V → List V → Hp → VK → Prop) (to : TE) (t : TA) : TE := fun σ H Q => to σ H fun x H1 => IsMix w H1 x ∧ t σ H1 fun xs H2 => r x xs H2 Q
variable {o e : Expr} {es : List Expr} {to : TE} {t : TA} {name : Str} {apos cpos : Pos} {id : String} {r : V → List V → Hp → VK → Prop}
theorem isMix_ty {pins : List (Addr × Obj)} {σ : L2.St} {H : Hp} {s : Shared} {x : V} {v : Value} (I : Inv X pins σ H s) (rx : RelV x v) (m : IsMix X.w H x) : s.TypeIs v "dict" ∧ ∀ b, v = .ref b → ∃ ob, s.heap.get? b = some ob ∧ ob.dict = none := by
  obtain ⟨d, ks, us, vs, rfl, e⟩ := m
  cases rx
  obtain ⟨-, -, o, es, ep, ho, hx, -⟩ := (I.hok d _ e).1
  refine ⟨⟨o, ho, hx.1⟩, fun b eb => ?_⟩
  cases eb
  exact ⟨o, ho, hx.2.1⟩
theorem pe_mm0 (slot : Slot "dict" name id) (hty : typeOf (.builtin id) = pure (.type "method_descriptor")) (hm : MtR X id r) (ho : PE X o to)
    (hbase : attributeBase o name X.env (eval o X.env) = eval o X.env := by rfl) (hline : (apos.endLine == cpos.line) = true := by rfl) : PE X (.Call (.Attribute o name apos) [] [] cpos) (tMM0 X.w r to) := by
  refine ⟨fun pins s σ H Q I h => wpAny_Call_method0_late hbase hline (thn (ho.run pins s σ H _ I h) fun v s1 g => ?_)⟩
  obtain ⟨x, H1, I1, r1, ty, q1⟩ := g
  obtain ⟨h1, h2⟩ := isMix_ty I1 r1 ty
  exact ⟨"dict", id, PySem.F.plainAttrs_dict, slot, hty, h1, h2, Calls.callWith_builtin rfl (PySem.evalArgs_none (hm pins s1 σ H1 x [] v [] Q I1 r1 .nil q1))⟩
theorem pe_mm (slot : Slot "dict" name id) (hty : typeOf (.builtin id) = pure (.type "method_descriptor")) (hm : MtR X id r) (ho : PE X o to) (ha : PA X [e] t)
    (hbase : attributeBase o name X.env (eval o X.env) = eval o X.env := by rfl) (hline : (apos.endLine == cpos.line) = true := by rfl) (hs : starEach [e] X.env = [(false, eval e X.env)] := by rfl) :
    PE X (.Call (.Attribute o name apos) [e] [] cpos) (tMM X.w r to t) := by
  refine ⟨fun pins s σ H Q I h => wpAny_Call_method1_late hbase hline (by rw [hs]; rfl) (thn (ho.run pins s σ H _ I h) fun v s1 g => ?_)⟩
  obtain ⟨x, H1, I1, r1, ty, q1⟩ := g
  obtain ⟨h1, h2⟩ := isMix_ty I1 r1 ty
  refine ⟨"dict", id, PySem.F.plainAttrs_dict, slot, hty, h1, h2, ?_⟩
  have hA := ha.run cpos pins s1 σ H1 _ I1 q1
  rw [hs] at hA
  refine Calls.callWith_builtin rfl (Calls.evalArgs_plain ?_)
  exact thn hA fun us s2 g => by
    obtain ⟨vs, H2, I2, r2, q2⟩ := g
    exact hm pins s2 σ H2 x vs v us Q I2 r1 r2 q2
end
end My
namespace My
open PySem PySem.Spec PyProof.Rows L2
/-! cells of a row with gaps -/
structure CWf (row : List Ky) (j : Nat) (cs : List Int) : Prop where
  len : cs.length = 2 ^ j
  j3 : 3 ≤ j
  j12 : j ≤ 12
  rl : (row.length : Int) ≤ 2 * 2 ^ j / 3
  cnt : 2 ^ j ≤ cs.count (-1) + row.length
  cell : ∀ s : Int, 0 ≤ s → s < 2 ^ j → getI cs s = -1 ∨ getI cs s = -2 ∨ (0 ≤ getI cs s ∧ getI cs s < row.length ∧ ∃ k, row[(getI cs s).toNat]? = some k ∧ k ≠ .non)
  inj : ∀ s t : Int, 0 ≤ s → s < 2 ^ j → 0 ≤ t → t < 2 ^ j → getI cs s = getI cs t → 0 ≤ getI cs s → s = t
  ahead : ∀ (p : Nat) k, row[p]? = some k → k ≠ .non → ∃ n : Nat, n < 2 ^ j ∧ getI cs (probeF k.stamp (2 ^ j) n) = p ∧ ∀ t : Nat, t < n → getI cs (probeF k.stamp (2 ^ j) t) ≠ -1
  nd : ∀ (p q : Nat) k, row[p]? = some k → row[q]? = some k → k ≠ .non → p = q
  rok : RowOk row
section
variable {row : List Ky} {j : Nat} {cs : List Int} {y : Ky}
theorem room_lt {j : Nat} {n : Nat} (h : (n : Int) ≤ 2 * 2 ^ j / 3) : n < 2 ^ j := by
  have := pow_cast j
  have : (0 : Int) < 2 ^ j := (pow_le (Nat.le_refl j)).1
  omega
theorem CWf.mem (h : CWf row j cs) : (-1) ∈ cs := by
  have := h.cnt
  have := room_lt h.rl
  exact List.count_pos_iff.mp (by omega)
theorem CWf.ok (h : CWf row j cs) : CellsOk cs row.length := fun s h0 h1 => by
  have := pow_cast j
  have := h.len
  rcases h.cell s h0 (by omega) with q | q | ⟨q1, q2, _⟩
  · exact .inl q
  · exact .inr (.inl q)
  · exact .inr (.inr ⟨q1, q2⟩)
theorem CWf.lt (h : CWf row j cs) : row.length ≤ 2730 := by
  have := h.rl
  have := (pow_le h.j12).2
  simp only [Int.reducePow] at this
  omega
/-- the place at which a paper ends -/
def placeO (cs : List Int) (ks : List Ky) (j : Nat) (k : Ky) : Option Nat := if lastCell cs ks j k = -1 then none else some (lastCell cs ks j k).toNat
theorem CWf.last (h : CWf row j cs) (y : Ky) : stopB cs row j y (paperN cs row j y - 1) = true := (paperN_range cs row j y).2.2.2.2 (stop_ex h.j12 h.len h.mem)
theorem CWf.last_cases (h : CWf row j cs) (y : Ky) : lastCell cs row j y = -1 ∨ ∃ p : Nat, lastCell cs row j y = p ∧ row[p]? = some y := by
  have s := h.last y
  obtain ⟨n0, n1, -⟩ := paperN_range cs row j y
  obtain ⟨r0, r1⟩ := probe_range y.stamp ((paperN cs row j y - 1 : Nat) : Int) h.j12
  have c := h.cell _ r0 r1
  unfold stopB at s
  unfold lastCell
  generalize getI cs (probeF y.stamp (2 ^ j) ((paperN cs row j y - 1 : Nat) : Int)) = z at *
  rcases c with rfl | rfl | ⟨q1, q2, k, q3, q4⟩
  · exact .inl rfl
  · simp at s
  · right
    refine ⟨z.toNat, by omega, ?_⟩
    have : ¬ z = -1 := by omega
    simp only [decide_eq_false this, Bool.false_or, Bool.and_eq_true, decide_eq_true_eq] at s
    exact s.2
theorem CWf.last_in (h : CWf row j cs) {p : Nat} (e : row[p]? = some y) (n : y ≠ .non) : lastCell cs row j y = p := by
  rcases h.last_cases y with q | ⟨p', q1, q2⟩
  · obtain ⟨m, a1, a2, a3⟩ := h.ahead p y e n
    obtain ⟨-, -, n2, -⟩ := paperN_range cs row j y
    exfalso
    unfold lastCell at q
    rcases Nat.lt_or_ge (paperN cs row j y - 1) m with g | g
    · exact a3 _ g q
    · have hs : stopB cs row j y m = true := by
        unfold stopB
        rw [a2]
        have : ¬ ((p : Int) = -2) := by omega
        simp [e, this]
      rcases Nat.lt_or_ge (m + 1) (paperN cs row j y) with g2 | g2
      · rw [n2 m g2] at hs
        cases hs
      · have em : paperN cs row j y - 1 = m := by omega
        rw [em, a2] at q
        omega
  · rw [q1, h.nd p' p y q2 e n]
theorem CWf.place_some (h : CWf row j cs) (n : y ≠ .non) {p : Nat} : placeO cs row j y = some p ↔ row[p]? = some y := by
  unfold placeO
  constructor
  · intro e
    split at e
    · cases e
    · rename_i c
      rcases h.last_cases y with q | ⟨p', q1, q2⟩
      · exact absurd q c
      · cases e
        rw [q1]
        exact q2
  · intro e
    rw [h.last_in e n, if_neg (by omega), Int.toNat_natCast]
theorem CWf.place_none (h : CWf row j cs) (n : y ≠ .non) : placeO cs row j y = none ↔ y ∉ row := by
  constructor
  · intro e m
    obtain ⟨p, hp⟩ := List.mem_iff_getElem?.mp m
    rw [(h.place_some n).mpr hp] at e
    cases e
  · intro m
    cases e : placeO cs row j y with
    | none => rfl
    | some p => exact absurd (List.mem_of_getElem? ((h.place_some n).mp e)) m
theorem CWf.last_place (h : CWf row j cs) : (if lastCell cs row j y = -1 then V.non else V.int (lastCell cs row j y)) = (match placeO cs row j y with | none => V.non | some p => V.int (p : Nat)) := by
  unfold placeO
  rcases h.last_cases y with q | ⟨p, q1, q2⟩
  · rw [q]; rfl
  · rw [q1]
    have : ¬ ((p : Int) = -1) := by omega
    simp [this]
/-- the slot at which a paper ends -/
def lastSlot (cs : List Int) (ks : List Ky) (j : Nat) (k : Ky) : Int := probeF k.stamp (2 ^ j) ((paperN cs ks j k - 1 : Nat) : Int)
theorem CWf.slot_bare (h : CWf row j cs) (n : y ≠ .non) (e : y ∉ row) : lastSlot cs row j y = probeF y.stamp (2 ^ j) (bareN cs j y.stamp) := by
  have e := (h.place_none n).mpr e
  have hb := bare_ex y.stamp h.j12 h.len h.mem
  obtain ⟨n0, n1, n2, -⟩ := paperN_range cs row j y
  unfold placeO at e
  split at e
  · rename_i c
    unfold lastCell at c
    unfold lastSlot
    rw [Bare.uniq (a := paperN cs row j y - 1) ⟨by omega, c, fun i hi => ?_⟩ hb]
    have := n2 i (by omega)
    unfold stopB at this
    intro q
    rw [q] at this
    simp at this
  · cases e
theorem CWf.lay (h : CWf row j cs) (k : KeyOk y) (e : y ∉ row) (r : (row.length : Int) < 2 * 2 ^ j / 3) : CWf (row ++ [y]) j (layS cs j row.length y) := by
  have n : y ≠ .non := fun q => by rw [q] at k; have := k.g; simp [Ky.good] at this
  obtain ⟨b1, b2, b3⟩ := bare_ex y.stamp h.j12 h.len h.mem
  unfold layS
  rw [if_neg n]
  generalize bareN cs j y.stamp = m at b1 b2 b3 ⊢
  obtain ⟨r0, r1⟩ := probe_range y.stamp m h.j12
  have hl := h.len
  have pc := pow_cast j
  have gs : ∀ t : Int, 0 ≤ t → getI (cs.set (probeF y.stamp (2 ^ j) m).toNat row.length) t = if t = probeF y.stamp (2 ^ j) m then (row.length : Int) else getI cs t := fun t ht => getI_set r0 (by omega) ht
  have lt : (probeF y.stamp (2 ^ j) m).toNat < cs.length := by omega
  have old : ∀ {p : Nat} {k : Ky}, row[p]? = some k → (row ++ [y])[p]? = some k := fun {p k} q => by
    rw [List.getElem?_append_left (List.getElem?_eq_some_iff.mp q).1]; exact q
  have new : ∀ {p : Nat} {k : Ky}, (row ++ [y])[p]? = some k → row[p]? = some k ∨ (p = row.length ∧ k = y) := fun {p k} q => by
    rcases Nat.lt_or_ge p row.length with g | g
    · rw [List.getElem?_append_left g] at q; exact .inl q
    · rw [List.getElem?_append_right g] at q
      have : p - row.length = 0 := by
        have := (List.getElem?_eq_some_iff.mp q).1
        simp at this
        omega
      rw [this] at q
      simp at q
      exact .inr ⟨by omega, q.symm⟩
  have notat : ∀ s : Int, 0 ≤ s → s < 2 ^ j → getI cs s ≠ row.length := fun s h0 h1 => by
    rcases h.cell s h0 h1 with q | q | ⟨q1, q2, _⟩ <;> omega
  have keep : ∀ (k' : Ky) (c : Nat), getI cs (probeF k'.stamp (2 ^ j) c) ≠ -1 → getI (cs.set (probeF y.stamp (2 ^ j) m).toNat row.length) (probeF k'.stamp (2 ^ j) c) = getI cs (probeF k'.stamp (2 ^ j) c) := by
    intro k' c hc
    rw [gs _ (probe_range _ _ h.j12).1, if_neg]
    intro e2
    rw [e2] at hc
    exact hc b2
  refine ⟨by rw [List.length_set]; exact hl, h.j3, h.j12, by rw [List.length_append]; simp; omega, ?_, fun s h0 h1 => ?_, fun s t h0 h1 t0 t1 e2 ge => ?_, fun p k' hk' nk => ?_, fun p q k' e1 e2 nk => ?_, fun z hz => ?_⟩
  · have c := h.cnt
    rw [List.count_set lt, List.length_append, List.length_singleton]
    split <;> split <;> omega
  · rw [gs s h0]
    split
    · exact .inr (.inr ⟨by omega, by rw [List.length_append, List.length_singleton]; omega, y, by rw [Int.toNat_natCast, List.getElem?_append_right (Nat.le_refl _), Nat.sub_self]; rfl, n⟩)
    · rcases h.cell s h0 h1 with q | q | ⟨q1, q2, k', q3, q4⟩
      · exact .inl q
      · exact .inr (.inl q)
      · exact .inr (.inr ⟨q1, by rw [List.length_append, List.length_singleton]; omega, k', old q3, q4⟩)
  · rw [gs s h0, gs t t0] at e2
    rw [gs s h0] at ge
    split at e2 <;> split at e2
    · omega
    · exact absurd e2.symm (notat t t0 t1)
    · exact absurd e2 (notat s h0 h1)
    · rename_i c1 c2
      rw [if_neg c1] at ge
      exact h.inj s t h0 h1 t0 t1 e2 ge
  · rcases new hk' with q | ⟨rfl, rfl⟩
    · obtain ⟨m', a1, a2, a3⟩ := h.ahead p k' q nk
      exact ⟨m', a1, by rw [keep k' m' (by omega)]; exact a2, fun t ht => by rw [keep k' t (a3 t ht)]; exact a3 t ht⟩
    · exact ⟨m, b1, by rw [gs _ r0, if_pos rfl], fun t ht => by rw [keep k' t (b3 t ht)]; exact b3 t ht⟩
  · rcases new e1 with q1 | ⟨rfl, rfl⟩ <;> rcases new e2 with q2 | ⟨rfl, z⟩
    · exact h.nd p q k' q1 q2 nk
    · subst z
      exact absurd (List.mem_of_getElem? q1) e
    · exact absurd (List.mem_of_getElem? q2) e
    · rfl
  · rcases List.mem_append.mp hz with hz | hz
    · exact h.rok z hz
    · rw [List.mem_singleton] at hz
      rw [hz]
      exact .inr k
theorem CWf.gone (h : CWf row j cs) {p : Nat} (e : row[p]? = some y) (n : y ≠ .non) : CWf (row.set p .non) j (cs.set (lastSlot cs row j y).toNat (-2)) := by
  have hp : p < row.length := (List.getElem?_eq_some_iff.mp e).1
  have la := h.last_in e n
  unfold lastCell at la
  unfold lastSlot
  obtain ⟨r0, r1⟩ := probe_range y.stamp ((paperN cs row j y - 1 : Nat) : Int) h.j12
  generalize probeF y.stamp (2 ^ j) ((paperN cs row j y - 1 : Nat) : Int) = s0 at *
  have hl := h.len
  have pc := pow_cast j
  have gs : ∀ t : Int, 0 ≤ t → getI (cs.set s0.toNat (-2)) t = if t = s0 then -2 else getI cs t := fun t ht => getI_set r0 (by omega) ht
  have lt : s0.toNat < cs.length := by omega
  have only : ∀ s : Int, 0 ≤ s → s < 2 ^ j → getI cs s = p → s = s0 := fun s h0 h1 q => h.inj s s0 h0 h1 r0 r1 (by rw [q, la]) (by omega)
  have new : ∀ {q : Nat} {k : Ky}, (row.set p .non)[q]? = some k → k ≠ .non → row[q]? = some k ∧ q ≠ p := fun {q k} g nk => by
    rw [List.getElem?_set] at g
    split at g
    · simp at g
      exact absurd g.symm nk
    · exact ⟨g, by omega⟩
  have ge : getI cs s0 = cs[s0.toNat] := by
    unfold getI
    rw [List.getD_eq_getElem?_getD, List.getElem?_eq_getElem lt]
    rfl
  refine ⟨by rw [List.length_set]; exact hl, h.j3, h.j12, by rw [List.length_set]; exact h.rl, ?_, fun s h0 h1 => ?_, fun s t h0 h1 t0 t1 e2 gz => ?_, fun q k' hk' nk => ?_, fun q q' k' e1 e2 nk => ?_, fun z hz => ?_⟩
  · have c := h.cnt
    rw [List.count_set lt, List.length_set, ← ge, la]
    have : ¬ ((p : Int) == -1) = true := by simp
    rw [if_neg this, if_neg (by decide)]
    omega
  · rw [gs s h0]
    split
    · exact .inr (.inl rfl)
    · rename_i c
      rcases h.cell s h0 h1 with q | q | ⟨q1, q2, k', q3, q4⟩
      · exact .inl q
      · exact .inr (.inl q)
      · refine .inr (.inr ⟨q1, by rw [List.length_set]; omega, k', ?_, q4⟩)
        rw [List.getElem?_set, if_neg]
        · exact q3
        · intro z
          exact c (only s h0 h1 (by omega))
  · rw [gs s h0, gs t t0] at e2
    rw [gs s h0] at gz
    split at gz
    · omega
    · rename_i c1
      rw [if_neg c1] at e2
      split at e2
      · omega
      · exact h.inj s t h0 h1 t0 t1 e2 gz
  · obtain ⟨g, gq⟩ := new hk' nk
    obtain ⟨m', a1, a2, a3⟩ := h.ahead q k' g nk
    have np : ∀ t : Nat, getI cs (probeF k'.stamp (2 ^ j) t) ≠ -1 → getI (cs.set s0.toNat (-2)) (probeF k'.stamp (2 ^ j) t) ≠ -1 := fun t ht => by
      rw [gs _ (probe_range _ _ h.j12).1]
      split
      · decide
      · exact ht
    refine ⟨m', a1, ?_, fun t ht => np t (a3 t ht)⟩
    rw [gs _ (probe_range _ _ h.j12).1, if_neg]
    · exact a2
    · intro z
      rw [z, la] at a2
      omega
  · exact h.nd q q' k' (new e1 nk).1 (new e2 nk).1 nk
  · rcases List.mem_or_eq_of_mem_set hz with hz | hz
    · exact h.rok z hz
    · exact .inl hz
end
theorem cwf_nil {j : Nat} (h3 : 3 ≤ j) (h12 : j ≤ 12) : CWf [] j (List.replicate (2 ^ j) (-1)) := by
  have L := laid_zero [] j
  have z : (0 : Int) < 2 ^ j := (pow_le (Nat.le_refl j)).1
  refine ⟨L.len, h3, h12, by simp; omega, by simp [List.count_replicate_self], fun s h0 h1 => ?_, fun s t h0 h1 t0 t1 e g => ?_, fun p k e => by simp at e, fun p q k e => by simp at e, fun _ h => by cases h⟩
  · rcases L.cell s h0 h1 with q | ⟨q1, q2, _⟩
    · exact .inl q
    · omega
  · have a := L.cell s h0 h1
    rcases a with q | ⟨q1, q2, _⟩
    · have q' : getI (List.replicate (2 ^ j) (-1)) s = -1 := q
      omega
    · omega
theorem cwf_laid {ks : List Ky} {j : Nat} (h3 : 3 ≤ j) (h12 : j ≤ 12) (hl : (ks.length : Int) ≤ 2 * 2 ^ j / 3) (hr : RowOk ks) (nd : ∀ (p q : Nat) k, ks[p]? = some k → ks[q]? = some k → k ≠ .non → p = q) : CWf ks j (layN j ks ks.length) := by
  have L := laid_at (ks := ks) h12 (room_lt hl) ks.length (Nat.le_refl _)
  refine ⟨L.len, h3, h12, hl, L.cnt, fun s h0 h1 => ?_, fun s t h0 h1 t0 t1 e g => L.inj s t h0 h1 t0 t1 e (by omega), fun p k e n => ?_, nd, hr⟩
  · rcases L.cell s h0 h1 with q | ⟨q1, q2, q3⟩
    · exact .inl q
    · exact .inr (.inr ⟨q1, by omega, q3⟩)
  · obtain ⟨m, a1, a2, a3⟩ := L.ahead p k (List.getElem?_eq_some_iff.mp e).1 e n
    exact ⟨m, a1, a2, fun t ht => by have := (a3 t ht).1; omega⟩
end My
namespace My
open PySem PySem.Spec PyProof.Rows L2
/-! frames: what may change stands at fp -/
structure Gr (fp : List Addr) (H H' : Hp) : Prop where
  keep : ∀ b o, H b = some o → b ∉ fp → H' b = some o
  free : ∀ b, H' b = none → H b = none
def Sub (fp' fp : List Addr) (H : Hp) : Prop := ∀ x ∈ fp', x ∈ fp ∨ Fresh H x
section
variable {fp fp1 fp2 : List Addr} {H H1 H2 H3 Hb : Hp} {x : Addr} {o : HO}
theorem Gr.refl : Gr fp H H := ⟨fun _ _ e _ => e, fun _ e => e⟩
theorem Gr.of (s : Same H H1) : Gr fp H H1 := ⟨fun b o e _ => s b o e, fun _ e => s.free e⟩
theorem Gr.trans (a : Gr fp H H1) (b : Gr fp H1 H2) : Gr fp H H2 := ⟨fun q u e n => b.keep q u (a.keep q u e n) n, fun q e => a.free q (b.free q e)⟩
theorem Gr.put (s : Gr fp H H1) (m : x ∈ fp) : Gr fp H (upd H1 x o) := ⟨fun b u e n => by rw [upd_ne (fun q => n (by rw [q]; exact m))]; exact s.keep b u e n, fun b e => by
  by_cases q : b = x
  · rw [q, upd_same] at e; cases e
  · rw [upd_ne q] at e; exact s.free b e⟩
theorem Gr.new (s : Gr fp H H1) (f : Fresh H x) : Gr fp H (L2.upd H1 x o) := ⟨fun b u e n => by rw [upd_ne (f.ne e)]; exact s.keep b u e n, fun b e => by
  by_cases q : b = x
  · rw [q, upd_same] at e; cases e
  · rw [upd_ne q] at e; exact s.free b e⟩
theorem Gr.same (g : Gr fp H H1) (s : Same Hb H) (f : ∀ x ∈ fp, Fresh Hb x) : Same Hb H1 := fun b u e => g.keep b u (s b u e) fun m => by
  have := f b m
  unfold Fresh at this
  rw [this] at e
  cases e
theorem Gr.comp (a : Gr fp H H1) (s : Sub fp1 fp H) (b : Gr fp1 H1 H2) : Gr fp H H2 := ⟨fun q u e n => b.keep q u (a.keep q u e n) fun m => (s q m).elim n fun f => (by unfold Fresh at f; rw [f] at e; cases e), fun q e => a.free q (b.free q e)⟩
theorem Sub.refl : Sub fp fp H := fun _ m => .inl m
theorem Sub.comp (s : Sub fp1 fp H) (a : Gr fp H H1) (t : Sub fp2 fp1 H1) : Sub fp2 fp H := fun x m => (t x m).elim (s x) fun f => .inr (a.free x f)
theorem Sub.fresh (s : Sub fp1 fp H) (b : Same Hb H) (f : ∀ x ∈ fp, Fresh Hb x) : ∀ x ∈ fp1, Fresh Hb x := fun x m => (s x m).elim (f x) fun g => Same_fresh b g
theorem Sub.not (s : Sub fp1 fp H) (e : H x = some o) (n : x ∉ fp) : x ∉ fp1 := fun m => (s x m).elim n fun f => by unfold Fresh at f; rw [f] at e; cases e
theorem Gr.mono (g : Gr fp H H1) (h : ∀ x ∈ fp, x ∈ fp1) : Gr fp1 H H1 := ⟨fun b o e n => g.keep b o e fun m => n (h b m), g.free⟩
end
/-! the shelf: what it is -/
structure Sh where
  row : List Ky
  held : List Ky
  born : List Int
  cells : List Int
  j : Nat
  jl : Nat
  com : Int
  goi : Int
  tid : Int
  mov : Int
/-- what stands ahead of a shelf's own fields: of a kin its maker, seats, apart -/
inductive Pre where
  | no
  | kin (m s : Addr) (ap : Bool)
def preF : Pre → List (Str × V)
  | .no => []
  | .kin m s ap => [("maker", .ref m), ("seats", .ref s), ("apart", .bl ap)]
def shF (p : Pre) (c r h b : Addr) (S : Sh) : List (Str × V) := preF p ++ ([("cells", .ref c), ("size", .int (2 ^ S.j)), ("least", .int (2 ^ S.jl)), ("row", .ref r), ("held", .ref h), ("born", .ref b), ("comings", .int S.com), ("goings", .int S.goi), ("tidied", .int S.tid), ("moved", .int S.mov)] : List (Str × V))
structure ShC (K : PySem.W.Frag) (C : Addr) : Prop where
  cls : Cls K C
  cells : NoAttr K C "cells"
  size : NoAttr K C "size"
  least : NoAttr K C "least"
  row : NoAttr K C "row"
  held : NoAttr K C "held"
  born : NoAttr K C "born"
  comings : NoAttr K C "comings"
  goings : NoAttr K C "goings"
  tidied : NoAttr K C "tidied"
  moved : NoAttr K C "moved"
structure ShRaw (H : Hp) (C a dx : Addr) (p : Pre) (c r h b : Addr) (S : Sh) (ws us : List V) : Prop where
  ha : H a = some (.ins C dx (shF p c r h b S))
  hc : H c = some (.lst (S.cells.map V.int))
  hr : H r = some (.lst ws)
  hh : H h = some (.lst us)
  hb : H b = some (.lst (S.born.map V.int))
  kr : KysAt H ws S.row
  kh : KysAt H us S.held
  vr : Ky.vals S.row = true
  vh : Ky.vals S.held = true
  ne : c ≠ r ∧ c ≠ h ∧ c ≠ b ∧ r ≠ h ∧ r ≠ b ∧ h ≠ b
theorem shF_len {p : Pre} {c r h b : Addr} {S : Sh} : (shF p c r h b S).length < 1000 := by cases p <;> simp [shF, preF]
section
variable {K : PySem.W.Frag} {H H' : Hp} {Q : VK} {R : Hp → Prop} {C a dx : Addr} {p : Pre} {c r h b : Addr} {S : Sh} {ws us : List V}
theorem fld_cells (k : ShC K C) (e : H a = some (.ins C dx (shF p c r h b S))) : FldAt K H a "cells" Q = Q (.ref c) H := fldAt e k.cls k.cells (by cases p <;> with_unfolding_all rfl)
theorem fld_size (k : ShC K C) (e : H a = some (.ins C dx (shF p c r h b S))) : FldAt K H a "size" Q = Q (.int (2 ^ S.j)) H := fldAt e k.cls k.size (by cases p <;> with_unfolding_all rfl)
theorem fld_least (k : ShC K C) (e : H a = some (.ins C dx (shF p c r h b S))) : FldAt K H a "least" Q = Q (.int (2 ^ S.jl)) H := fldAt e k.cls k.least (by cases p <;> with_unfolding_all rfl)
theorem fld_row (k : ShC K C) (e : H a = some (.ins C dx (shF p c r h b S))) : FldAt K H a "row" Q = Q (.ref r) H := fldAt e k.cls k.row (by cases p <;> with_unfolding_all rfl)
theorem fld_held (k : ShC K C) (e : H a = some (.ins C dx (shF p c r h b S))) : FldAt K H a "held" Q = Q (.ref h) H := fldAt e k.cls k.held (by cases p <;> with_unfolding_all rfl)
theorem fld_born (k : ShC K C) (e : H a = some (.ins C dx (shF p c r h b S))) : FldAt K H a "born" Q = Q (.ref b) H := fldAt e k.cls k.born (by cases p <;> with_unfolding_all rfl)
theorem fld_comings (k : ShC K C) (e : H a = some (.ins C dx (shF p c r h b S))) : FldAt K H a "comings" Q = Q (.int S.com) H := fldAt e k.cls k.comings (by cases p <;> with_unfolding_all rfl)
theorem fld_goings (k : ShC K C) (e : H a = some (.ins C dx (shF p c r h b S))) : FldAt K H a "goings" Q = Q (.int S.goi) H := fldAt e k.cls k.goings (by cases p <;> with_unfolding_all rfl)
theorem fld_tidied (k : ShC K C) (e : H a = some (.ins C dx (shF p c r h b S))) : FldAt K H a "tidied" Q = Q (.int S.tid) H := fldAt e k.cls k.tidied (by cases p <;> with_unfolding_all rfl)
theorem fld_moved (k : ShC K C) (e : H a = some (.ins C dx (shF p c r h b S))) : FldAt K H a "moved" Q = Q (.int S.mov) H := fldAt e k.cls k.moved (by cases p <;> with_unfolding_all rfl)
theorem set_cells (k : ShC K C) {c' : Addr} {cs : List Int} (e : H a = some (.ins C dx (shF p c r h b S))) : SetAt K H a "cells" (.ref c') R = R (upd H a (.ins C dx (shF p c' r h b { S with cells := cs }))) := setAt e k.cls k.cells shF_len (by cases p <;> with_unfolding_all rfl)
theorem set_row (k : ShC K C) {c' : Addr} {ks : List Ky} (e : H a = some (.ins C dx (shF p c r h b S))) : SetAt K H a "row" (.ref c') R = R (upd H a (.ins C dx (shF p c c' h b { S with row := ks }))) := setAt e k.cls k.row shF_len (by cases p <;> with_unfolding_all rfl)
theorem set_held (k : ShC K C) {c' : Addr} {ks : List Ky} (e : H a = some (.ins C dx (shF p c r h b S))) : SetAt K H a "held" (.ref c') R = R (upd H a (.ins C dx (shF p c r c' b { S with held := ks }))) := setAt e k.cls k.held shF_len (by cases p <;> with_unfolding_all rfl)
theorem set_born (k : ShC K C) {c' : Addr} {cs : List Int} (e : H a = some (.ins C dx (shF p c r h b S))) : SetAt K H a "born" (.ref c') R = R (upd H a (.ins C dx (shF p c r h c' { S with born := cs }))) := setAt e k.cls k.born shF_len (by cases p <;> with_unfolding_all rfl)
theorem set_size (k : ShC K C) {j : Nat} (e : H a = some (.ins C dx (shF p c r h b S))) : SetAt K H a "size" (.int (2 ^ j)) R = R (upd H a (.ins C dx (shF p c r h b { S with j := j }))) := setAt e k.cls k.size shF_len (by cases p <;> with_unfolding_all rfl)
theorem set_goings (k : ShC K C) {n : Int} (e : H a = some (.ins C dx (shF p c r h b S))) : SetAt K H a "goings" (.int n) R = R (upd H a (.ins C dx (shF p c r h b { S with goi := n }))) := setAt e k.cls k.goings shF_len (by cases p <;> with_unfolding_all rfl)
theorem aug_comings (k : ShC K C) {σ : L2.St} {n : Int} (e : H a = some (.ins C dx (shF p c r h b S))) : AugAt K H a "comings" (tC (.int n)) L2.rAdd σ R = R (upd H a (.ins C dx (shF p c r h b { S with com := S.com + n }))) := augAt (i := S.com) e k.cls k.comings (by cases p <;> with_unfolding_all rfl) shF_len (by cases p <;> with_unfolding_all rfl)
theorem aug_goings (k : ShC K C) {σ : L2.St} {n : Int} (e : H a = some (.ins C dx (shF p c r h b S))) : AugAt K H a "goings" (tC (.int n)) L2.rAdd σ R = R (upd H a (.ins C dx (shF p c r h b { S with goi := S.goi + n }))) := augAt (i := S.goi) e k.cls k.goings (by cases p <;> with_unfolding_all rfl) shF_len (by cases p <;> with_unfolding_all rfl)
theorem aug_tidied (k : ShC K C) {σ : L2.St} {n : Int} (e : H a = some (.ins C dx (shF p c r h b S))) : AugAt K H a "tidied" (tC (.int n)) L2.rAdd σ R = R (upd H a (.ins C dx (shF p c r h b { S with tid := S.tid + n }))) := augAt (i := S.tid) e k.cls k.tidied (by cases p <;> with_unfolding_all rfl) shF_len (by cases p <;> with_unfolding_all rfl)
/-! what stores do -/
theorem ShRaw.nca (g : ShRaw H C a dx p c r h b S ws us) : a ≠ c ∧ a ≠ r ∧ a ≠ h ∧ a ≠ b := ⟨ne_of g.ha g.hc (by intro z; cases z), ne_of g.ha g.hr (by intro z; cases z), ne_of g.ha g.hh (by intro z; cases z), ne_of g.ha g.hb (by intro z; cases z)⟩
theorem ShRaw.ext (g : ShRaw H C a dx p c r h b S ws us) (s : Same H H') : ShRaw H' C a dx p c r h b S ws us := ⟨s _ _ g.ha, s _ _ g.hc, s _ _ g.hr, s _ _ g.hh, s _ _ g.hb, g.kr.same s _ _, g.kh.same s _ _, g.vr, g.vh, g.ne⟩
theorem kys_upd {x : Addr} {o o' : HO} {ws : List V} {ks : List Ky} (e : H x = some o) (n : ∀ xs, o ≠ .tup xs) (v : Ky.vals ks = true) (h : KysAt H ws ks) : KysAt (upd H x o') ws ks := KysAt.keep but_one (noTup_one e n) ks ws v h
theorem ky_upd {x : Addr} {o o' : HO} {v : V} {y : Ky} (e : H x = some o) (n : ∀ xs, o ≠ .tup xs) (g : y.val = true) (h : KyAt H v y) : KyAt (upd H x o') v y := KyAt.keep but_one (noTup_one e n) y v g h
theorem vals_append {xs ys : List Ky} (h : Ky.vals xs = true) (g : Ky.vals ys = true) : Ky.vals (xs ++ ys) = true := vals_iff.mpr fun k hk => (List.mem_append.mp hk).elim (vals_iff.mp h k) (vals_iff.mp g k)
theorem vals_set {xs : List Ky} {i : Nat} {y : Ky} (h : Ky.vals xs = true) (g : y.val = true) : Ky.vals (xs.set i y) = true := vals_iff.mpr fun k hk => (List.mem_or_eq_of_mem_set hk).elim (vals_iff.mp h k) fun e => by rw [e]; exact g
theorem vals_one {y : Ky} (g : y.val = true) : Ky.vals [y] = true := by rw [Ky.vals, g]; rfl
theorem ShRaw.fldU {S' : Sh} (g : ShRaw H C a dx p c r h b S ws us) (e1 : S'.row = S.row := by rfl) (e2 : S'.held = S.held := by rfl) (e3 : S'.born = S.born := by rfl) (e4 : S'.cells = S.cells := by rfl) : ShRaw (upd H a (.ins C dx (shF p c r h b S'))) C a dx p c r h b S' ws us := by
  obtain ⟨n1, n2, n3, n4⟩ := g.nca
  have nt : ∀ xs, HO.ins C dx (shF p c r h b S) ≠ .tup xs := fun _ z => by cases z
  refine ⟨upd_same, ?_, ?_, ?_, ?_, ?_, ?_, ?_, ?_, g.ne⟩
  · rw [upd_ne n1.symm, e4]; exact g.hc
  · rw [upd_ne n2.symm]; exact g.hr
  · rw [upd_ne n3.symm]; exact g.hh
  · rw [upd_ne n4.symm, e3]; exact g.hb
  · rw [e1]; exact kys_upd g.ha nt g.vr g.kr
  · rw [e2]; exact kys_upd g.ha nt g.vh g.kh
  · rw [e1]; exact g.vr
  · rw [e2]; exact g.vh
theorem ShRaw.cellsU {cs : List Int} (g : ShRaw H C a dx p c r h b S ws us) : ShRaw (upd H c (.lst (cs.map V.int))) C a dx p c r h b { S with cells := cs } ws us := by
  obtain ⟨n1, n2, n3, n4⟩ := g.nca
  obtain ⟨m1, m2, m3, m4, m5, m6⟩ := g.ne
  have nt : ∀ xs, HO.lst (S.cells.map V.int) ≠ .tup xs := fun _ z => by cases z
  exact ⟨by rw [upd_ne n1]; exact g.ha, upd_same, by rw [upd_ne m1.symm]; exact g.hr, by rw [upd_ne m2.symm]; exact g.hh, by rw [upd_ne m3.symm]; exact g.hb, kys_upd g.hc nt g.vr g.kr, kys_upd g.hc nt g.vh g.kh, g.vr, g.vh, g.ne⟩
theorem ShRaw.bornU {cs : List Int} (g : ShRaw H C a dx p c r h b S ws us) : ShRaw (upd H b (.lst (cs.map V.int))) C a dx p c r h b { S with born := cs } ws us := by
  obtain ⟨n1, n2, n3, n4⟩ := g.nca
  obtain ⟨m1, m2, m3, m4, m5, m6⟩ := g.ne
  have nt : ∀ xs, HO.lst (S.born.map V.int) ≠ .tup xs := fun _ z => by cases z
  exact ⟨by rw [upd_ne n4]; exact g.ha, by rw [upd_ne m3]; exact g.hc, by rw [upd_ne m5]; exact g.hr, by rw [upd_ne m6]; exact g.hh, upd_same, kys_upd g.hb nt g.vr g.kr, kys_upd g.hb nt g.vh g.kh, g.vr, g.vh, g.ne⟩
theorem ShRaw.rowU {ws' : List V} {ks : List Ky} (g : ShRaw H C a dx p c r h b S ws us) (v : Ky.vals ks = true) (k : KysAt H ws' ks) : ShRaw (upd H r (.lst ws')) C a dx p c r h b { S with row := ks } ws' us := by
  obtain ⟨n1, n2, n3, n4⟩ := g.nca
  obtain ⟨m1, m2, m3, m4, m5, m6⟩ := g.ne
  have nt : ∀ xs, HO.lst ws ≠ .tup xs := fun _ z => by cases z
  exact ⟨by rw [upd_ne n2]; exact g.ha, by rw [upd_ne m1]; exact g.hc, upd_same, by rw [upd_ne m4.symm]; exact g.hh, by rw [upd_ne m5.symm]; exact g.hb, kys_upd g.hr nt v k, kys_upd g.hr nt g.vh g.kh, v, g.vh, g.ne⟩
theorem ShRaw.heldU {us' : List V} {ks : List Ky} (g : ShRaw H C a dx p c r h b S ws us) (v : Ky.vals ks = true) (k : KysAt H us' ks) : ShRaw (upd H h (.lst us')) C a dx p c r h b { S with held := ks } ws us' := by
  obtain ⟨n1, n2, n3, n4⟩ := g.nca
  obtain ⟨m1, m2, m3, m4, m5, m6⟩ := g.ne
  have nt : ∀ xs, HO.lst us ≠ .tup xs := fun _ z => by cases z
  exact ⟨by rw [upd_ne n3]; exact g.ha, by rw [upd_ne m2]; exact g.hc, by rw [upd_ne m4]; exact g.hr, upd_same, by rw [upd_ne m6.symm]; exact g.hb, kys_upd g.hh nt g.vr g.kr, kys_upd g.hh nt v k, g.vr, v, g.ne⟩
theorem ShRaw.reC {c' : Addr} {cs : List Int} (g : ShRaw H C a dx p c r h b S ws us) (e : H c' = some (.lst (cs.map V.int))) (n : c' ≠ r ∧ c' ≠ h ∧ c' ≠ b) : ShRaw (upd H a (.ins C dx (shF p c' r h b { S with cells := cs }))) C a dx p c' r h b { S with cells := cs } ws us := by
  obtain ⟨n1, n2, n3, n4⟩ := g.nca
  have nc : a ≠ c' := ne_of g.ha e (by intro z; cases z)
  have nt : ∀ xs, HO.ins C dx (shF p c r h b S) ≠ .tup xs := fun _ z => by cases z
  exact ⟨upd_same, by rw [upd_ne nc.symm]; exact e, by rw [upd_ne n2.symm]; exact g.hr, by rw [upd_ne n3.symm]; exact g.hh, by rw [upd_ne n4.symm]; exact g.hb, kys_upd g.ha nt g.vr g.kr, kys_upd g.ha nt g.vh g.kh, g.vr, g.vh, ⟨n.1, n.2.1, n.2.2, g.ne.2.2.2⟩⟩
theorem ShRaw.reR {r' : Addr} {ws' : List V} {ks : List Ky} (g : ShRaw H C a dx p c r h b S ws us) (e : H r' = some (.lst ws')) (v : Ky.vals ks = true) (k : KysAt H ws' ks) (n : c ≠ r' ∧ r' ≠ h ∧ r' ≠ b) : ShRaw (upd H a (.ins C dx (shF p c r' h b { S with row := ks }))) C a dx p c r' h b { S with row := ks } ws' us := by
  obtain ⟨n1, n2, n3, n4⟩ := g.nca
  obtain ⟨m1, m2, m3, m4, m5, m6⟩ := g.ne
  have nc : a ≠ r' := ne_of g.ha e (by intro z; cases z)
  have nt : ∀ xs, HO.ins C dx (shF p c r h b S) ≠ .tup xs := fun _ z => by cases z
  exact ⟨upd_same, by rw [upd_ne n1.symm]; exact g.hc, by rw [upd_ne nc.symm]; exact e, by rw [upd_ne n3.symm]; exact g.hh, by rw [upd_ne n4.symm]; exact g.hb, kys_upd g.ha nt v k, kys_upd g.ha nt g.vh g.kh, v, g.vh, ⟨n.1, m2, m3, n.2.1, n.2.2, m6⟩⟩
theorem ShRaw.reH {h' : Addr} {us' : List V} {ks : List Ky} (g : ShRaw H C a dx p c r h b S ws us) (e : H h' = some (.lst us')) (v : Ky.vals ks = true) (k : KysAt H us' ks) (n : c ≠ h' ∧ r ≠ h' ∧ h' ≠ b) : ShRaw (upd H a (.ins C dx (shF p c r h' b { S with held := ks }))) C a dx p c r h' b { S with held := ks } ws us' := by
  obtain ⟨n1, n2, n3, n4⟩ := g.nca
  obtain ⟨m1, m2, m3, m4, m5, m6⟩ := g.ne
  have nc : a ≠ h' := ne_of g.ha e (by intro z; cases z)
  have nt : ∀ xs, HO.ins C dx (shF p c r h b S) ≠ .tup xs := fun _ z => by cases z
  exact ⟨upd_same, by rw [upd_ne n1.symm]; exact g.hc, by rw [upd_ne n2.symm]; exact g.hr, by rw [upd_ne nc.symm]; exact e, by rw [upd_ne n4.symm]; exact g.hb, kys_upd g.ha nt g.vr g.kr, kys_upd g.ha nt v k, g.vr, v, ⟨m1, n.1, m3, n.2.1, m5, n.2.2⟩⟩
theorem ShRaw.reB {b' : Addr} {cs : List Int} (g : ShRaw H C a dx p c r h b S ws us) (e : H b' = some (.lst (cs.map V.int))) (n : c ≠ b' ∧ r ≠ b' ∧ h ≠ b') : ShRaw (upd H a (.ins C dx (shF p c r h b' { S with born := cs }))) C a dx p c r h b' { S with born := cs } ws us := by
  obtain ⟨n1, n2, n3, n4⟩ := g.nca
  obtain ⟨m1, m2, m3, m4, m5, m6⟩ := g.ne
  have nc : a ≠ b' := ne_of g.ha e (by intro z; cases z)
  have nt : ∀ xs, HO.ins C dx (shF p c r h b S) ≠ .tup xs := fun _ z => by cases z
  exact ⟨upd_same, by rw [upd_ne n1.symm]; exact g.hc, by rw [upd_ne n2.symm]; exact g.hr, by rw [upd_ne n3.symm]; exact g.hh, by rw [upd_ne nc.symm]; exact e, kys_upd g.ha nt g.vr g.kr, kys_upd g.ha nt g.vh g.kh, g.vr, g.vh, ⟨m1, m2, n.1, m4, n.2.1, n.2.2⟩⟩
end
/-! what a shelf keeps -/
def HVal (z : Ky) : Prop := z.val = true ∧ z.dep ≤ 8
structure Sh.Ok (S : Sh) : Prop where
  cw : CWf S.row S.j S.cells
  hl : S.held.length = S.row.length
  bl : S.born.length = S.row.length
  hv : ∀ z ∈ S.held, HVal z
  l3 : 3 ≤ S.jl
  l12 : S.jl ≤ 12
  bi : S.born.Pairwise (· < ·)
  bc : ∀ n ∈ S.born, 0 < n ∧ n ≤ S.com
  c0 : 0 ≤ S.com
  many : S.com - S.goi = (S.row.filter fun k => decide (k ≠ .non)).length
def ShAt (H : Hp) (C a : Addr) (p : Pre) (fp : List Addr) (S : Sh) : Prop := ∃ dx c r h b ws us, fp = [a, c, r, h, b] ∧ ShRaw H C a dx p c r h b S ws us ∧ S.Ok
section
variable {H H' : Hp} {C a : Addr} {p : Pre} {fp : List Addr} {S : Sh}
theorem ShAt.ext (g : ShAt H C a p fp S) (s : Same H H') : ShAt H' C a p fp S := by
  obtain ⟨dx, c, r, h, b, ws, us, e, q, o⟩ := g
  exact ⟨dx, c, r, h, b, ws, us, e, q.ext s, o⟩
theorem ShAt.ok (g : ShAt H C a p fp S) : S.Ok := by
  obtain ⟨dx, c, r, h, b, ws, us, e, q, o⟩ := g
  exact o
theorem ShAt.noTup (g : ShAt H C a p fp S) : NoTup H fp := by
  obtain ⟨dx, c, r, h, b, ws, us, rfl, q, o⟩ := g
  intro x m xs e
  simp only [List.mem_cons, List.not_mem_nil, or_false] at m
  rcases m with rfl | rfl | rfl | rfl | rfl
  · rw [q.ha] at e; cases e
  · rw [q.hc] at e; cases e
  · rw [q.hr] at e; cases e
  · rw [q.hh] at e; cases e
  · rw [q.hb] at e; cases e
theorem ShAt.ky (g : ShAt H C a p fp S) (f : Gr fp H H') {v : V} {y : Ky} (d : y.val = true) (h : KyAt H v y) : KyAt H' v y := KyAt.keep f.keep g.noTup y v d h
theorem ShAt.kys (g : ShAt H C a p fp S) (f : Gr fp H H') {v : List V} {y : List Ky} (d : Ky.vals y = true) (h : KysAt H v y) : KysAt H' v y := KysAt.keep f.keep g.noTup y v d h
/-- a shelf stays where another thing changes -/
theorem ShAt.apart (g : ShAt H C a p fp S) {fq : List Addr} (f : Gr fq H H') (n : NoTup H fq) (d : ∀ x ∈ fp, x ∉ fq) : ShAt H' C a p fp S := by
  obtain ⟨dx, c, r, h, b, ws, us, rfl, q, o⟩ := g
  simp only [List.mem_cons, List.not_mem_nil, or_false, forall_eq_or_imp, forall_eq] at d
  obtain ⟨d1, d2, d3, d4, d5⟩ := d
  exact ⟨dx, c, r, h, b, ws, us, rfl, ⟨f.keep _ _ q.ha d1, f.keep _ _ q.hc d2, f.keep _ _ q.hr d3, f.keep _ _ q.hh d4, f.keep _ _ q.hb d5, KysAt.keep f.keep n _ _ q.vr q.kr, KysAt.keep f.keep n _ _ q.vh q.kh, q.vr, q.vh, q.ne⟩, o⟩
end
/-- a method's name is none of a shelf's fields -/
theorem ShAt.met {H : Hp} {C a : Addr} {p : Pre} {fp : List Addr} {S : Sh} {m : Str} (g : ShAt H C a p fp S) (l : ∀ c r h b : Addr, (shF p c r h b S).lookup m = none) : MetAt H a C m := by
  obtain ⟨dx, c, r, h, b, ws, us, e, q, o⟩ := g
  exact ⟨dx, _, q.ha, l c r h b⟩
theorem made_same {H H' : Hp} {x dx C : Addr} {fp : List Addr} (fx : Fresh H x) (fd : Fresh H dx) (gr : Gr [x] (upd (upd H dx (.own x)) x (.ins C dx [])) H') (sb : Sub fp [x] (upd (upd H dx (.own x)) x (.ins C dx []))) : Same H H' ∧ ∀ y ∈ fp, Fresh H y := by
  have s : Same H (upd (upd H dx (.own x)) x (.ins C dx [])) := Same_upd0 (Same_upd (Same.refl _) fd) fx
  have f : ∀ y ∈ [x], Fresh H y := fun y m => by
    rw [List.mem_singleton] at m
    rw [m]
    exact fx
  exact ⟨gr.same s f, sb.fresh s f⟩
theorem KeyOk.ne_non {y : Ky} (k : KeyOk y) : y ≠ .non := fun q => by rw [q] at k; have := k.g; simp [Ky.good] at this
/-! a shelf's deeds -/
def Sh.find (S : Sh) (y : Ky) : Option Nat := placeO S.cells S.row S.j y
def Sh.full (S : Sh) : Bool := decide (2 * 2 ^ S.j / 3 ≤ (S.row.length : Int))
def Sh.come (S : Sh) (y z : Ky) : Sh := { S with cells := layS S.cells S.j S.row.length y, row := S.row ++ [y], held := S.held ++ [z], com := S.com + 1, born := S.born ++ [S.com + 1] }
def Sh.hold (S : Sh) (q : Nat) (z : Ky) : Sh := { S with held := S.held.set q z }
def Sh.went (S : Sh) (q : Nat) (y : Ky) : Sh := { S with cells := S.cells.set (lastSlot S.cells S.row S.j y).toNat (-2), row := S.row.set q .non, held := S.held.set q .non, goi := S.goi + 1 }
def Sh.put (mr : Sh → Option Sh) (S : Sh) (y z : Ky) : Option (Bool × Sh) := match S.find y with
  | some q => some (false, S.hold q z)
  | none => if S.full = true then (mr S).map fun S' => (true, S'.come y z) else some (true, S.come y z)
def Sh.new (j : Nat) : Sh := { row := [], held := [], born := [], cells := List.replicate (2 ^ j) (-1), j := j, jl := j, com := 0, goi := 0, tid := 0, mov := 0 }
theorem Sh.new_ok {j : Nat} (h3 : 3 ≤ j) (h12 : j ≤ 12) : (Sh.new j).Ok := ⟨cwf_nil h3 h12, rfl, rfl, (fun _ h => by cases h), h3, h12, .nil, (fun _ h => by cases h), Int.le_refl 0, by simp [Sh.new]⟩
theorem Sh.Ok.find_some {S : Sh} (o : S.Ok) {y : Ky} (n : y ≠ .non) {q : Nat} : S.find y = some q ↔ S.row[q]? = some y := o.cw.place_some n
theorem Sh.Ok.find_none {S : Sh} (o : S.Ok) {y : Ky} (n : y ≠ .non) : S.find y = none ↔ y ∉ S.row := o.cw.place_none n
theorem Sh.Ok.hold {S : Sh} (o : S.Ok) {q : Nat} {z : Ky} (h : HVal z) : (S.hold q z).Ok := ⟨o.cw, by show (S.held.set q z).length = _; rw [List.length_set]; exact o.hl, o.bl, fun x hx => (List.mem_or_eq_of_mem_set hx).elim (o.hv x) fun e => by rw [e]; exact h, o.l3, o.l12, o.bi, o.bc, o.c0, o.many⟩
theorem Sh.Ok.come {S : Sh} (o : S.Ok) {y z : Ky} (k : KeyOk y) (e : y ∉ S.row) (f : S.full = false) (h : HVal z) : (S.come y z).Ok := by
  have c0 := o.c0
  refine ⟨o.cw.lay k e ?_, ?_, ?_, fun x hx => ?_, o.l3, o.l12, ?_, fun n hn => ?_, ?_, ?_⟩
  · have := of_decide_eq_false f
    omega
  · show (S.held ++ [z]).length = (S.row ++ [y]).length
    rw [List.length_append, List.length_append, o.hl]
    rfl
  · show (S.born ++ [S.com + 1]).length = (S.row ++ [y]).length
    rw [List.length_append, List.length_append, o.bl]
    rfl
  · rcases List.mem_append.mp hx with hx | hx
    · exact o.hv x hx
    · rw [List.mem_singleton] at hx
      rw [hx]
      exact h
  · show (S.born ++ [S.com + 1]).Pairwise (· < ·)
    rw [List.pairwise_append]
    refine ⟨o.bi, List.pairwise_singleton _ _, fun x hx u hu => ?_⟩
    rw [List.mem_singleton] at hu
    have := (o.bc x hx).2
    omega
  · show 0 < n ∧ n ≤ S.com + 1
    rcases List.mem_append.mp hn with hn | hn
    · have := o.bc n hn
      omega
    · rw [List.mem_singleton] at hn
      omega
  · show 0 ≤ S.com + 1
    omega
  · show S.com + 1 - S.goi = (((S.row ++ [y]).filter _).length : Nat)
    have := o.many
    rw [List.filter_append, List.length_append]
    simp [k.ne_non]
    simp at this
    omega
theorem filter_set_non : ∀ {l : List Ky} {q : Nat} {y : Ky}, l[q]? = some y → y ≠ .non → (((l.set q .non).filter fun k => decide (k ≠ .non)).length : Int) + 1 = ((l.filter fun k => decide (k ≠ .non)).length : Nat)
  | [], q, y, e, n => by simp at e
  | x :: l, 0, y, e, n => by
    simp at e
    subst e
    simp [n]
  | x :: l, q + 1, y, e, n => by
    have ih := filter_set_non (l := l) (q := q) (by simpa using e) n
    rw [List.set_cons_succ, List.filter_cons, List.filter_cons]
    split
    · simp only [List.length_cons]
      omega
    · exact ih
theorem Sh.Ok.went {S : Sh} (o : S.Ok) {q : Nat} {y : Ky} (e : S.row[q]? = some y) (n : y ≠ .non) : (S.went q y).Ok := by
  refine ⟨o.cw.gone e n, ?_, ?_, fun x hx => ?_, o.l3, o.l12, o.bi, o.bc, o.c0, ?_⟩
  · show (S.held.set q .non).length = (S.row.set q .non).length
    rw [List.length_set, List.length_set]
    exact o.hl
  · show S.born.length = (S.row.set q .non).length
    rw [List.length_set]
    exact o.bl
  · rcases List.mem_or_eq_of_mem_set hx with hx | hx
    · exact o.hv x hx
    · rw [hx]
      exact ⟨rfl, by simp [Ky.dep]⟩
  · show S.com - (S.goi + 1) = (((S.row.set q .non).filter _).length : Nat)
    have := filter_set_non e n
    have := o.many
    omega
end My
namespace My
open PySem PySem.Spec PyProof.Rows L2
theorem exm_of2 {K : PySem.W.Frag} {C D : Addr} {b : Bool} (h1 : PySem.W.subIn K (.ref D) (.type "BaseException") = some true) (h2 : PySem.W.isClsIn K D = true) (h3 : PySem.W.typeIn K (.ref D) = some (.type "type")) (h4 : PySem.W.subIn K (.ref C) (.ref D) = some b) : PySem.W.exmOne K (.ref C) (.ref D) = some b := by
  unfold PySem.W.exmOne
  rw [h1, if_pos (by rfl)]
  show (if ((PySem.W.clsIn K D).isSome && PySem.W.typeIn K (.ref D) == some (.type "type")) = true then PySem.W.subIn K (.ref C) (.ref D) else none) = some b
  have e : (PySem.W.clsIn K D).isSome = true := h2
  rw [e, h3, if_pos (by rfl), h4]
theorem fund_mk {K : PySem.W.Frag} {x qual : Str} {params : Arguments} {body : List Stmt} {scope : Scope} {dvs : List V} {f D : Addr} {o : Obj} {its : List Value} {n : Nat} {oc kV doc pm cdv ct : Value} {od an : Option Addr} {osl : Array (Option Value)}
    (l : K.lookup f = some ⟨oc, od, .func (PySem.W.fnOf x qual params body scope (.ref D) kV doc pm an cdv ct), osl⟩) (c : PySem.W.codeIn K cdv qual = true) (k : PySem.W.keepIn K (.ref f) = true) (lD : K.lookup D = some o) (oD : o.data = .seq its.toArray n) (ne : dvs ≠ []) (r : Vals dvs its) :
    FunD K x qual params body scope dvs [] f (PySem.W.fnOf x qual params body scope (.ref D) kV doc pm an cdv ct) := ⟨⟨oc, od, _, kV, doc, pm, an, cdv, ct, osl, rfl, l, c, .inr ⟨ne, D, o, its, n, rfl, lD, oD, r⟩, .inl rfl⟩, k⟩
theorem setAt_go {K : PySem.W.Frag} {H : Hp} {a C dx : Addr} {f : Str} {fs gs : List (Str × V)} {y : V} {R : Hp → Prop} (h : H a = some (.ins C dx fs)) (c : Cls K C) (n : NoAttr K C f) (l : fs.length < 1000) (e : putF f y fs = gs) (q : ∀ H', H' = upd H a (.ins C dx gs) → H' a = some (.ins C dx gs) → R H') : SetAt K H a f y R := by
  rw [setAt h c n l e]
  exact q _ rfl upd_same
theorem upd_upd {H : Hp} {a : Addr} {o o' : HO} : upd (upd H a o) a o' = upd H a o' := by
  funext b
  by_cases e : b = a
  · rw [e, upd_same, upd_same]
  · rw [upd_ne e, upd_ne e, upd_ne e]
/-! promises of a shelf's methods -/
def spChecked (CN : Addr) : Sp := fun vs H Q E => ∃ v y, vs = [v] ∧ KyAt H v y ∧ y.fit = true ∧ (within 3 y = true → Q v H) ∧ (within 3 y = false → E (.ref CN) none H)
theorem len_checked {CN : Addr} {vs H Q E} (h : spChecked CN vs H Q E) : vs.length = 1 := by obtain ⟨_, _, rfl, _⟩ := h; rfl
def optV : Option Nat → V
  | none => .non
  | some n => .int n
def spFind (C : Addr) : Sp := fun vs H Q _ => ∃ a p fp S v y, vs = [.ref a, v] ∧ ShAt H C a p fp S ∧ KyAt H v y ∧ KeyOk y ∧ ∀ H', Same H H' → Q (optV (S.find y)) H'
theorem len_find {C : Addr} {vs H Q E} (h : spFind C vs H Q E) : vs.length = 2 := by obtain ⟨_, _, _, _, _, _, rfl, _⟩ := h; rfl
def spLay (C : Addr) : Sp := fun vs H Q _ => ∃ a dx p c r h b S ws us v y q, vs = [.ref a, v, .int q] ∧ ShRaw H C a dx p c r h b S ws us ∧ CWf S.row S.j S.cells ∧ KyAt H v y ∧ KeyOk y ∧
  ∀ H', Same H H' → Q .non (upd H' c (.lst ((S.cells.set (lastSlot S.cells S.row S.j y).toNat q).map V.int)))
theorem len_lay {C : Addr} {vs H Q E} (h : spLay C vs H Q E) : vs.length = 3 := by obtain ⟨_, _, _, _, _, _, _, _, _, _, _, _, _, rfl, _⟩ := h; rfl
def spMarkGone (C : Addr) : Sp := fun vs H Q _ => ∃ a dx p c r h b S ws us v y w, vs = [.ref a, v, w] ∧ ShRaw H C a dx p c r h b S ws us ∧ CWf S.row S.j S.cells ∧ KyAt H v y ∧ KeyOk y ∧
  ∀ H', Same H H' → Q .non (upd H' c (.lst ((S.cells.set (lastSlot S.cells S.row S.j y).toNat (-2)).map V.int)))
theorem len_markGone {C : Addr} {vs H Q E} (h : spMarkGone C vs H Q E) : vs.length = 3 := by obtain ⟨_, _, _, _, _, _, _, _, _, _, _, _, _, rfl, _⟩ := h; rfl
def spRoom (C CF : Addr) (mr : Sh → Option Sh) : Sp := fun vs H Q E => ∃ a p fp S, vs = [.ref a] ∧ ShAt H C a p fp S ∧ (match mr S with
  | none => E (.ref CF) none H
  | some S' => ∀ H' fp', Gr fp H H' → Sub fp' fp H → ShAt H' C a p fp' S' → Q .non H')
theorem len_room {C CF : Addr} {mr : Sh → Option Sh} {vs H Q E} (h : spRoom C CF mr vs H Q E) : vs.length = 1 := by obtain ⟨_, _, _, _, rfl, _⟩ := h; rfl
/-- the thing v: no key, refused with NoKey at once; or a key -/
def spPut (C CN CF : Addr) (mr : Sh → Option Sh) : Sp := fun vs H Q E => ∃ a p fp S v y u z, vs = [.ref a, v, u] ∧ ShAt H C a p fp S ∧ KyAt H v y ∧ y.fit = true ∧ (within 3 y = true → KeyOk y) ∧ KyAt H u z ∧ HVal z ∧
  (within 3 y = false → E (.ref CN) none H) ∧ (KeyOk y → match S.put mr y z with
  | none => ∀ H', Same H H' → E (.ref CF) none H'
  | some (t, S') => ∀ H' fp', Gr fp H H' → Sub fp' fp H → ShAt H' C a p fp' S' → Q (.bl t) H')
theorem len_put {C CN CF : Addr} {mr : Sh → Option Sh} {vs H Q E} (h : spPut C CN CF mr vs H Q E) : vs.length = 3 := by obtain ⟨_, _, _, _, _, _, _, _, rfl, _⟩ := h; rfl
def Sh.heldAt (S : Sh) (y : Ky) : Option Ky := match S.find y with
  | none => none
  | some q => S.held[q]?
def spAt (C CN CL : Addr) : Sp := fun vs H Q E => ∃ a p fp S v y, vs = [.ref a, v] ∧ ShAt H C a p fp S ∧ KyAt H v y ∧ y.fit = true ∧ (within 3 y = true → KeyOk y) ∧
  (within 3 y = false → E (.ref CN) none H) ∧ (KeyOk y → match S.heldAt y with
  | none => ∀ H', Same H H' → E (.ref CL) none H'
  | some z => ∀ H' u, Same H H' → KyAt H' u z → Q u H')
theorem len_at {C CN CL : Addr} {vs H Q E} (h : spAt C CN CL vs H Q E) : vs.length = 2 := by obtain ⟨_, _, _, _, _, _, rfl, _⟩ := h; rfl
def spTold (C CN : Addr) : Sp := fun vs H Q E => ∃ a p fp S v y w, vs = [.ref a, v, w] ∧ ShAt H C a p fp S ∧ KyAt H v y ∧ y.fit = true ∧ (within 3 y = true → KeyOk y) ∧
  (within 3 y = false → E (.ref CN) none H) ∧ (KeyOk y → match S.heldAt y with
  | none => ∀ H', Same H H' → Q w H'
  | some z => ∀ H' u, Same H H' → KyAt H' u z → Q u H')
theorem len_told {C CN : Addr} {vs H Q E} (h : spTold C CN vs H Q E) : vs.length = 3 := by obtain ⟨_, _, _, _, _, _, _, rfl, _⟩ := h; rfl
def spHas (C CN : Addr) : Sp := fun vs H Q E => ∃ a p fp S v y, vs = [.ref a, v] ∧ ShAt H C a p fp S ∧ KyAt H v y ∧ y.fit = true ∧ (within 3 y = true → KeyOk y) ∧
  (within 3 y = false → E (.ref CN) none H) ∧ (KeyOk y → ∀ H', Same H H' → Q (.bl (S.find y).isSome) H')
theorem len_has {C CN : Addr} {vs H Q E} (h : spHas C CN vs H Q E) : vs.length = 2 := by obtain ⟨_, _, _, _, _, _, rfl, _⟩ := h; rfl
def spMany (C : Addr) : Sp := fun vs H Q _ => ∃ a p fp S, vs = [.ref a] ∧ ShAt H C a p fp S ∧ Q (.int (S.com - S.goi)) H
theorem len_many {C : Addr} {vs H Q E} (h : spMany C vs H Q E) : vs.length = 1 := by obtain ⟨_, _, _, _, rfl, _⟩ := h; rfl
/-- the pairs that are there, the first n places looked at -/
def pairsN (row held : List Ky) : Nat → List Ky
  | 0 => []
  | n + 1 => match row[n]? with
    | some k => if k = .non then pairsN row held n else pairsN row held n ++ [.tup [k, held.getD n .non]]
    | none => pairsN row held n
theorem pairsN_len (row held : List Ky) : ∀ i : Nat, (pairsN row held i).length ≤ i
  | 0 => Nat.le_refl _
  | i + 1 => by
    have ih := pairsN_len row held i
    rw [pairsN]
    split
    · split
      · omega
      · rw [List.length_append, List.length_singleton]
        omega
    · omega
theorem RowOk.val {ks : List Ky} (h : RowOk ks) {i : Nat} {k : Ky} (e : ks[i]? = some k) : k.val = true := by
  rcases h.get e with rfl | q
  · rfl
  · exact q.val
theorem tup_vals {ks : List Ky} (h : Ky.vals ks = true) (l : ks.length ≤ 1000) : (Ky.tup ks).val = true := by rw [Ky.val, h, decide_eq_true l]; rfl
theorem vals_two {x y : Ky} (h : x.val = true) (g : y.val = true) : Ky.vals [x, y] = true := by rw [Ky.vals, h, vals_one g]; rfl
theorem Sh.Ok.hval {S : Sh} (o : S.Ok) (n : Nat) : HVal (S.held.getD n .non) := by
  rw [List.getD_eq_getElem?_getD]
  cases e : S.held[n]? with
  | none => exact ⟨rfl, by simp [Ky.dep]⟩
  | some z => exact o.hv z (List.mem_of_getElem? e)
theorem pairsN_vals {S : Sh} (o : S.Ok) : ∀ i : Nat, Ky.vals (pairsN S.row S.held i) = true
  | 0 => rfl
  | i + 1 => by
    have ih := pairsN_vals o i
    rw [pairsN]
    split
    · rename_i k e
      split
      · exact ih
      · exact vals_append ih (vals_one (tup_vals (vals_two (o.cw.rok.val e) (o.hval i).1) (by simp)))
    · exact ih
def Sh.pairs (S : Sh) : List Ky := pairsN S.row S.held S.row.length
def spPairs (C : Addr) : Sp := fun vs H Q _ => ∃ a p fp S, vs = [.ref a] ∧ ShAt H C a p fp S ∧ ∀ H' L xs, Same H H' → Fresh H L → H' L = some (.lst xs) → KysAt H' xs S.pairs → Q (.ref L) H'
theorem len_pairs {C : Addr} {vs H Q E} (h : spPairs C vs H Q E) : vs.length = 1 := by obtain ⟨_, _, _, _, rfl, _⟩ := h; rfl
def Sh.counts (S : Sh) : List Int := [S.com - S.goi, S.com, S.goi, S.tid, S.mov]
def spCounts (C : Addr) : Sp := fun vs H Q _ => ∃ a p fp S, vs = [.ref a] ∧ ShAt H C a p fp S ∧ ∀ H' T, Same H H' → Fresh H T → H' T = some (.tup (S.counts.map V.int)) → Q (.ref T) H'
theorem len_counts {C : Addr} {vs H Q E} (h : spCounts C vs H Q E) : vs.length = 1 := by obtain ⟨_, _, _, _, rfl, _⟩ := h; rfl
/-- __init__ of a bare shelf -/
def spInit (C : Addr) : Sp := fun vs H Q _ => ∃ a dx j, vs = [.ref a, .int (2 ^ j)] ∧ H a = some (.ins C dx []) ∧ (3 ≤ j ∧ j ≤ 12) ∧ ∀ H' fp, Gr [a] H H' → Sub fp [a] H → ShAt H' C a .no fp (Sh.new j) → Q .non H'
theorem len_init {C : Addr} {vs H Q E} (h : spInit C vs H Q E) : vs.length = 2 := by obtain ⟨_, _, _, rfl, _⟩ := h; rfl
/-! taking out -/
theorem tup3_of {H : Hp} {v : V} {a b c : Ky} (h : KyAt H v (.tup [a, b, c])) : ∃ T x y z, v = .ref T ∧ H T = some (.tup [x, y, z]) ∧ KyAt H x a ∧ KyAt H y b ∧ KyAt H z c := by
  cases h with
  | tup h p =>
    cases p with
    | cons h1 p =>
      cases p with
      | cons h2 p =>
        cases p with
        | cons h3 p =>
          cases p
          exact ⟨_, _, _, _, rfl, h, h1, h2, h3⟩
theorem tup2_of {H : Hp} {v : V} {a b : Ky} (h : KyAt H v (.tup [a, b])) : ∃ T x y, v = .ref T ∧ H T = some (.tup [x, y]) ∧ KyAt H x a ∧ KyAt H y b := by
  cases h with
  | tup h p =>
    cases p with
    | cons h1 p =>
      cases p with
      | cons h2 p =>
        cases p
        exact ⟨_, _, _, rfl, h, h1, h2⟩
def spTake (C CN CL : Addr) : Sp := fun vs H Q E => ∃ a p fp S v y, vs = [.ref a, v] ∧ ShAt H C a p fp S ∧ KyAt H v y ∧ y.fit = true ∧ (within 3 y = true → KeyOk y) ∧
  (within 3 y = false → E (.ref CN) none H) ∧ (KeyOk y → match S.find y with
  | none => ∀ H', Same H H' → E (.ref CL) none H'
  | some q => ∀ H' fp' u z, Gr fp H H' → Sub fp' fp H → ShAt H' C a p fp' (S.went q y) → S.held[q]? = some z → KyAt H' u z → Q u H')
theorem len_take {C CN CL : Addr} {vs H Q E} (h : spTake C CN CL vs H Q E) : vs.length = 2 := by obtain ⟨_, _, _, _, _, _, rfl, _⟩ := h; rfl
/-- a place with a key whose number of coming is such -/
def Sh.liv (S : Sh) (f : Int → Bool) (p : Nat) : Bool := decide (S.row.getD p .non ≠ .non) && f (getI S.born p)
def Sh.after (S : Sh) (n : Int) : Option Nat := (List.range S.row.length).find? (S.liv fun b => decide (n < b))
/-- the greatest p < m with f -/
def lastP (f : Nat → Bool) : Nat → Option Nat
  | 0 => none
  | m + 1 => if f m = true then some m else lastP f m
theorem lastP_some {f : Nat → Bool} : ∀ {m p : Nat}, lastP f m = some p ↔ p < m ∧ f p = true ∧ ∀ q, p < q → q < m → f q = false
  | 0, p => by simp [lastP]
  | m + 1, p => by
    rw [lastP]
    by_cases c : f m = true
    · rw [if_pos c]
      constructor
      · intro e
        cases e
        exact ⟨Nat.lt_succ_self _, c, fun q h1 h2 => by omega⟩
      · rintro ⟨h1, h2, h3⟩
        rcases Nat.lt_or_ge p m with g | g
        · rw [h3 m g (Nat.lt_succ_self _)] at c
          cases c
        · rw [show p = m by omega]
    · rw [if_neg c, lastP_some (m := m)]
      constructor
      · rintro ⟨h1, h2, h3⟩
        refine ⟨by omega, h2, fun q g1 g2 => ?_⟩
        rcases Nat.lt_or_ge q m with g | g
        · exact h3 q g1 g
        · rw [show q = m by omega]
          simpa using c
      · rintro ⟨h1, h2, h3⟩
        refine ⟨?_, h2, fun q g1 g2 => h3 q g1 (by omega)⟩
        rcases Nat.lt_or_ge p m with g | g
        · exact g
        · rw [show p = m by omega] at h2
          exact absurd h2 c
theorem lastP_none {f : Nat → Bool} : ∀ {m : Nat}, lastP f m = none ↔ ∀ q, q < m → f q = false
  | 0 => by simp [lastP]
  | m + 1 => by
    rw [lastP]
    by_cases c : f m = true
    · rw [if_pos c]
      simp only [reduceCtorEq, false_iff]
      intro h
      rw [h m (Nat.lt_succ_self _)] at c
      cases c
    · rw [if_neg c, lastP_none (m := m)]
      constructor
      · intro h q g
        rcases Nat.lt_or_ge q m with g2 | g2
        · exact h q g2
        · rw [show q = m by omega]
          simpa using c
      · intro h q g
        exact h q (by omega)
theorem lastP_stop {f : Nat → Bool} {m p : Nat} (h : p < m) (e : f p = true) (b : ∀ q, p < q → q < m → f q = false) : lastP f m = some p := lastP_some.mpr ⟨h, e, b⟩
def Sh.ahead (S : Sh) (n : Int) : Option Nat := lastP (S.liv fun b => decide (b < n)) S.row.length
def Sh.trip (S : Sh) (p : Nat) : Ky := .tup [.num (getI S.born p), S.row.getD p .non, S.held.getD p .non]
def spAfter (C : Addr) : Sp := fun vs H Q _ => ∃ a p fp S n, vs = [.ref a, .int n] ∧ ShAt H C a p fp S ∧ (match S.after n with
  | none => ∀ H', Same H H' → Q .non H'
  | some q => ∀ H' v, Same H H' → KyAt H' v (S.trip q) → Q v H')
theorem len_after {C : Addr} {vs H Q E} (h : spAfter C vs H Q E) : vs.length = 2 := by obtain ⟨_, _, _, _, _, rfl, _⟩ := h; rfl
def spAheadS (C : Addr) : Sp := fun vs H Q _ => ∃ a p fp S n, vs = [.ref a, .int n] ∧ ShAt H C a p fp S ∧ (match S.ahead n with
  | none => ∀ H', Same H H' → Q .non H'
  | some q => ∀ H' v, Same H H' → KyAt H' v (S.trip q) → Q v H')
theorem len_aheadS {C : Addr} {vs H Q E} (h : spAheadS C vs H Q E) : vs.length = 2 := by obtain ⟨_, _, _, _, _, rfl, _⟩ := h; rfl
def Sh.last (S : Sh) : Option Nat := S.ahead (S.com + 1)
def spTakeLast (C CL : Addr) : Sp := fun vs H Q E => ∃ a p fp S, vs = [.ref a] ∧ ShAt H C a p fp S ∧ (match S.last with
  | none => ∀ H', Same H H' → E (.ref CL) none H'
  | some q => ∀ H' fp' v, Gr fp H H' → Sub fp' fp H → ShAt H' C a p fp' (S.went q (S.row.getD q .non)) → KyAt H' v (.tup [S.row.getD q .non, S.held.getD q .non]) → Q v H')
theorem len_takeLast {C CL : Addr} {vs H Q E} (h : spTakeLast C CL vs H Q E) : vs.length = 1 := by obtain ⟨_, _, _, _, rfl, _⟩ := h; rfl
theorem liv_key {S : Sh} (o : S.Ok) {f : Int → Bool} {p : Nat} (h : S.liv f p = true) : ∃ y, S.row[p]? = some y ∧ KeyOk y ∧ S.row.getD p .non = y := by
  unfold Sh.liv at h
  rw [Bool.and_eq_true, decide_eq_true_eq, List.getD_eq_getElem?_getD] at h
  cases e : S.row[p]? with
  | none => rw [e] at h; exact absurd rfl h.1
  | some y =>
    rw [e] at h
    refine ⟨y, rfl, (o.cw.rok.get e).resolve_left h.1, ?_⟩
    rw [List.getD_eq_getElem?_getD, e]
    rfl
theorem ahead_liv {S : Sh} {n : Int} {q : Nat} (h : S.ahead n = some q) : q < S.row.length ∧ S.liv (fun b => decide (b < n)) q = true := by
  have := lastP_some.mp h
  exact ⟨this.1, this.2.1⟩
theorem after_liv {S : Sh} {n : Int} {q : Nat} (h : S.after n = some q) : q < S.row.length ∧ S.liv (fun b => decide (n < b)) q = true := by
  unfold Sh.after at h
  rw [List.find?_range_eq_some] at h
  exact ⟨List.mem_range.mp h.2.1, h.1⟩
def Sh.emptied (S : Sh) : Sh := { row := [], held := [], born := [], cells := layN S.jl [] 0, j := S.jl, jl := S.jl, com := S.com, goi := S.com, tid := S.tid, mov := S.mov }
theorem Sh.Ok.emptied {S : Sh} (o : S.Ok) : S.emptied.Ok := ⟨cwf_nil o.l3 o.l12, rfl, rfl, (fun _ h => by cases h), o.l3, o.l12, .nil, (fun _ h => by cases h), o.c0, by simp [Sh.emptied]⟩
def spRelay (C : Addr) : Sp := fun vs H Q _ => ∃ a dx p c r h b S ws us, vs = [.ref a] ∧ ShRaw H C a dx p c r h b S ws us ∧ RowOk S.row ∧ (3 ≤ S.j ∧ S.j ≤ 12) ∧ (S.row.length : Int) ≤ 2 * 2 ^ S.j / 3 ∧
  ∀ H' c', Gr [a] H H' → Fresh H c' → ShRaw H' C a dx p c' r h b { S with cells := layN S.j S.row S.row.length } ws us → Q .non H'
theorem len_relay {C : Addr} {vs H Q E} (h : spRelay C vs H Q E) : vs.length = 1 := by obtain ⟨_, _, _, _, _, _, _, _, _, _, rfl, _⟩ := h; rfl
def spEmptied (C : Addr) : Sp := fun vs H Q _ => ∃ a p fp S, vs = [.ref a] ∧ ShAt H C a p fp S ∧ ∀ H' fp', Gr fp H H' → Sub fp' fp H → ShAt H' C a p fp' S.emptied → Q .non H'
theorem len_emptied {C : Addr} {vs H Q E} (h : spEmptied C vs H Q E) : vs.length = 1 := by obtain ⟨_, _, _, _, rfl, _⟩ := h; rfl
def spShPaper (C CN : Addr) : Sp := fun vs H Q E => ∃ a p fp S v y, vs = [.ref a, v] ∧ ShAt H C a p fp S ∧ KyAt H v y ∧ y.fit = true ∧ (within 3 y = true → KeyOk y) ∧
  (within 3 y = false → E (.ref CN) none H) ∧ (KeyOk y → ∀ H' L xs, Same H H' → Fresh H L → H' L = some (.lst xs) → KysAt H' xs (paperK S.cells S.row S.j y) → Q (.ref L) H')
theorem len_shPaper {C CN : Addr} {vs H Q E} (h : spShPaper C CN vs H Q E) : vs.length = 2 := by obtain ⟨_, _, _, _, _, _, rfl, _⟩ := h; rfl
def spForm (C : Addr) : Sp := fun vs H Q _ => ∃ a p fp S, vs = [.ref a] ∧ ShAt H C a p fp S ∧ ∀ H' t l1 l2 ws, Same H H' → Fresh H t → Fresh H l1 → Fresh H l2 → l1 ≠ l2 → H' t = some (.tup [.ref l1, .ref l2]) → H' l1 = some (.lst (S.cells.map V.int)) → H' l2 = some (.lst ws) → KysAt H' ws S.row → Q (.ref t) H'
theorem len_form {C : Addr} {vs H Q E} (h : spForm C vs H Q E) : vs.length = 1 := by obtain ⟨_, _, _, _, rfl, _⟩ := h; rfl
end My
namespace My
open PySem PySem.Spec PyProof.Rows L2
/-- a shelf, and beside it a law's own cells and row; Hb: what stood before these were made -/
structure LS (Hb H : Hp) (C sh lc lr : Addr) (S : Sh) (cs : List Int) (ks : List Ky) : Prop where
  sm : Same Hb H
  ex : ∃ fp us, ShAt H C sh .no fp S ∧ (∀ x ∈ fp, Fresh Hb x) ∧ H lc = some (.lst (cs.map V.int)) ∧ H lr = some (.lst us) ∧ KysAt H us ks ∧ lc ∉ fp ∧ lr ∉ fp
  ne : lc ≠ lr
  fc : Fresh Hb lc
  fr : Fresh Hb lr
  rk : RowOk ks
theorem rep_empty {j : Nat} : (List.replicate (2 ^ j : Int).toNat [V.int (-1)]).flatten = (List.replicate (2 ^ j) (-1 : Int)).map V.int := by
  rw [← pow_cast, Int.toNat_natCast, List.map_replicate]
  generalize 2 ^ j = n
  induction n with
  | zero => rfl
  | succ n ih => rw [List.replicate_succ, List.flatten_cons, ih]; rfl
theorem RowOk.vals {ks : List Ky} (h : RowOk ks) : Ky.vals ks = true := vals_iff.mpr fun k hk => by
  rcases h k hk with rfl | q
  · rfl
  · exact q.val
section
variable {Hb H H' : Hp} {C sh lc lr : Addr} {S : Sh} {cs : List Int} {ks : List Ky}
theorem LS.ext (g : LS Hb H C sh lc lr S cs ks) (s : Same H H') : LS Hb H' C sh lc lr S cs ks := by
  obtain ⟨fp, us, h1, h2, h3, h4, h5, h6, h7⟩ := g.ex
  exact ⟨g.sm.trans s, ⟨fp, us, h1.ext s, h2, s _ _ h3, s _ _ h4, h5.same s _ _, h6, h7⟩, g.ne, g.fc, g.fr, g.rk⟩
theorem LS.at (g : LS Hb H C sh lc lr S cs ks) : ∃ us, H lc = some (.lst (cs.map V.int)) ∧ H lr = some (.lst us) ∧ KysAt H us ks := by
  obtain ⟨fp, us, h1, h2, h3, h4, h5, h6, h7⟩ := g.ex
  exact ⟨us, h3, h4, h5⟩
theorem LS.step (g : LS Hb H C sh lc lr S cs ks) : ∃ fp, ShAt H C sh .no fp S ∧ ∀ H' fp' S', Gr fp H H' → Sub fp' fp H → ShAt H' C sh .no fp' S' → LS Hb H' C sh lc lr S' cs ks := by
  obtain ⟨fp, us, h1, h2, h3, h4, h5, h6, h7⟩ := g.ex
  exact ⟨fp, h1, fun H' fp' S' gr sb hS => ⟨gr.same g.sm h2, ⟨fp', us, hS, sb.fresh g.sm h2, gr.keep _ _ h3 h6, gr.keep _ _ h4 h7, h1.kys gr g.rk.vals h5, sb.not h3 h6, sb.not h4 h7⟩, g.ne, g.fc, g.fr, g.rk⟩⟩
theorem LS.cellsU (g : LS Hb H C sh lc lr S cs ks) (cs' : List Int) : LS Hb (upd H lc (.lst (cs'.map V.int))) C sh lc lr S cs' ks := by
  obtain ⟨fp, us, h1, h2, h3, h4, h5, h6, h7⟩ := g.ex
  have nt : NoTup H [lc] := noTup_one h3 fun _ z => by cases z
  have gr : Gr [lc] H (upd H lc (.lst (cs'.map V.int))) := Gr.refl.put (by simp)
  exact ⟨Same_upd0 g.sm g.fc, ⟨fp, us, h1.apart gr nt fun x hx m => h6 (by rw [List.mem_singleton] at m; rw [← m]; exact hx), h2, upd_same, by rw [upd_ne g.ne.symm]; exact h4, KysAt.keep gr.keep nt _ _ g.rk.vals h5, h6, h7⟩, g.ne, g.fc, g.fr, g.rk⟩
theorem LS.rowU (g : LS Hb H C sh lc lr S cs ks) {ws : List V} {ls : List Ky} (hw : KysAt H ws ls) (hr : RowOk ls) : LS Hb (upd H lr (.lst ws)) C sh lc lr S cs ls := by
  obtain ⟨fp, us, h1, h2, h3, h4, h5, h6, h7⟩ := g.ex
  have nt : NoTup H [lr] := noTup_one h4 fun _ z => by cases z
  have gr : Gr [lr] H (upd H lr (.lst ws)) := Gr.refl.put (by simp)
  exact ⟨Same_upd0 g.sm g.fr, ⟨fp, ws, h1.apart gr nt fun x hx m => h7 (by rw [List.mem_singleton] at m; rw [← m]; exact hx), h2, by rw [upd_ne g.ne]; exact h3, upd_same, KysAt.keep gr.keep nt _ _ hr.vals hw, h6, h7⟩, g.ne, g.fc, g.fr, hr⟩
end
theorem ShAt.alloc {H : Hp} {C a : Addr} {p : Pre} {fp : List Addr} {S : Sh} (g : ShAt H C a p fp S) {x : Addr} (f : Fresh H x) : x ∉ fp := fun m => by
  unfold Fresh at f
  obtain ⟨dx, c, r, h, b, ws, us, rfl, q, o⟩ := g
  simp only [List.mem_cons, List.not_mem_nil, or_false] at m
  rcases m with rfl | rfl | rfl | rfl | rfl
  · rw [q.ha] at f; cases f
  · rw [q.hc] at f; cases f
  · rw [q.hr] at f; cases f
  · rw [q.hh] at f; cases f
  · rw [q.hb] at f; cases f
section
variable {Hb H H' : Hp} {C sh lc lr : Addr} {S : Sh} {cs : List Int} {ks : List Ky}
theorem LS.base (g : LS Hb H C sh lc lr S cs ks) {l : Addr} {o : HO} (f : Fresh H l) : LS (upd Hb l o) (upd H l o) C sh lc lr S cs ks := by
  have e := g.ext (Same_upd (o := o) (Same.refl _) f)
  obtain ⟨fp, us, h1, h2, h3, h4, h5, h6, h7⟩ := g.ex
  have nl := h1.alloc f
  have n1 : lc ≠ l := f.ne h3
  have n2 : lr ≠ l := f.ne h4
  have fr : ∀ {x : Addr}, x ≠ l → Fresh Hb x → Fresh (upd Hb l o) x := fun {x} n q => by
    unfold Fresh
    rw [upd_ne n]
    exact q
  refine ⟨fun b u q => ?_, ⟨fp, us, h1.ext (Same_upd (Same.refl _) f), fun x hx => fr (fun q => nl (by rw [← q]; exact hx)) (h2 x hx), by rw [upd_ne n1]; exact h3, by rw [upd_ne n2]; exact h4, h5.same (Same_upd (Same.refl _) f) _ _, h6, h7⟩, g.ne, fr n1 g.fc, fr n2 g.fr, g.rk⟩
  by_cases c : b = l
  · rw [c, upd_same] at q
    rw [c, upd_same]
    exact q
  · rw [upd_ne c] at q
    rw [upd_ne c]
    exact g.sm _ _ q
theorem LS.newCells (g : LS Hb H C sh lc lr S cs ks) {l : Addr} (f : Fresh H l) (cs' : List Int) : LS Hb (upd H l (.lst (cs'.map V.int))) C sh l lr S cs' ks := by
  obtain ⟨fp, us, h1, h2, h3, h4, h5, h6, h7⟩ := g.ex
  have s := Same_upd (o := .lst (cs'.map V.int)) (Same.refl H) f
  exact ⟨g.sm.trans s, ⟨fp, us, h1.ext s, h2, upd_same, s _ _ h4, h5.same s _ _, h1.alloc f, h7⟩, (f.ne h4).symm, Same_fresh g.sm f, g.fr, g.rk⟩
theorem LS.newRow (g : LS Hb H C sh lc lr S cs ks) {l : Addr} (f : Fresh H l) : LS Hb (upd H l (.lst [])) C sh lc l S cs [] := by
  obtain ⟨fp, us, h1, h2, h3, h4, h5, h6, h7⟩ := g.ex
  have s := Same_upd (o := .lst []) (Same.refl H) f
  exact ⟨g.sm.trans s, ⟨fp, [], h1.ext s, h2, s _ _ h3, upd_same, .nil, h6, h1.alloc f⟩, f.ne h3, g.fc, Same_fresh g.sm f, fun _ h => by cases h⟩
theorem LS.start {fp : List Addr} (sm : Same Hb H) (h : ShAt H C sh .no fp S) (ff : ∀ x ∈ fp, Fresh Hb x) {l r : Addr} (f : Fresh H l) (f2 : Fresh (upd H l (.lst (cs.map V.int))) r) : LS Hb (upd (upd H l (.lst (cs.map V.int))) r (.lst [])) C sh l r S cs [] := by
  have s := Same_upd (o := .lst (cs.map V.int)) (Same.refl H) f
  have s2 := Same_upd (o := .lst []) s f2
  have n : l ≠ r := f2.ne upd_same
  exact ⟨sm.trans s2, ⟨fp, [], h.ext s2, ff, by rw [upd_ne n]; exact upd_same, upd_same, .nil, h.alloc f, h.alloc (Same_fresh s f2)⟩, n, Same_fresh sm f, Same_fresh sm (Same_fresh s f2), fun _ h => by cases h⟩
end
theorem index_int {K : PySem.W.Frag} {H : Hp} {a : Addr} {cs : List Int} {z : Int} {j : Nat} {Q : VK} (ha : SqL K H a (cs.map V.int)) (e : cs[j]? = some z) (b : ∀ m : Nat, m < j → cs[m]? ≠ some z) (q : Q (.int (j : Nat)) H) : rIndex K (.ref a) [.int z] H Q := by
  refine ⟨a, _, _, j, .int z, rfl, rfl, ha, rfl, List.all_eq_true.mpr fun x hx => ?_, by rw [List.getElem?_map, e]; rfl, by simp [eqV], fun m z' hm h => ?_, q⟩
  · obtain ⟨n, _, rfl⟩ := List.mem_map.mp hx
    rfl
  · obtain ⟨n, h1, rfl⟩ := ints_at h
    have : n ≠ z := fun c => b m hm (by rw [h1, c])
    simp [eqV, this]
/-- a wish of a try: the clause takes it -/
theorem wOnly_yes {K : PySem.W.Frag} {c cls : Value} {ts : Addr → Value → Option Addr → TS} {Wout : WX} {D : Ends} {σ : L2.St} {d : Option Addr} {H : Hp} (e : PySem.W.exmOne K cls c = some true) (k : ∀ a, Fresh H a → ts a cls d D σ H) : WE (wOnly K c ts Wout D) σ cls d H := ⟨true, e, fun _ a f => k a f, fun q => nomatch q⟩
theorem wMany_yes {K : PySem.W.Frag} {c cls : Value} {ts : Addr → Value → Option Addr → TS} {l : List (Value × (Addr → Value → Option Addr → TS))} {Wout : WX} {D : Ends} {σ : L2.St} {d : Option Addr} {H : Hp} (e : PySem.W.exmOne K cls c = some true) (k : ∀ a, Fresh H a → ts a cls d D σ H) : wMany K Wout D ((c, ts) :: l) cls d σ H := ⟨true, e, fun _ a f => k a f, fun q => nomatch q⟩
theorem wMany_no {K : PySem.W.Frag} {c cls : Value} {ts : Addr → Value → Option Addr → TS} {l : List (Value × (Addr → Value → Option Addr → TS))} {Wout : WX} {D : Ends} {σ : L2.St} {d : Option Addr} {H : Hp} (e : PySem.W.exmOne K cls c = some false) (k : wMany K Wout D l cls d σ H) : wMany K Wout D ((c, ts) :: l) cls d σ H := ⟨false, e, (fun q => nomatch q), fun _ => k⟩
/-- the last living place -/
theorem last_liv {S : Sh} (o : S.Ok) : S.last = lastP (fun p => decide (S.row.getD p .non ≠ .non)) S.row.length := by
  have e : ∀ p, p < S.row.length → S.liv (fun b => decide (b < S.com + 1)) p = decide (S.row.getD p .non ≠ .non) := fun p hp => by
    unfold Sh.liv
    have hb := o.bl
    have := (o.bc _ (getI_in (ps := S.born) (c := (p : Nat)) (by omega) (by omega))).2
    dsimp only
    rw [decide_eq_true (show getI S.born (p : Nat) < S.com + 1 by omega), Bool.and_true]
  unfold Sh.last Sh.ahead
  cases h : lastP (fun p => decide (S.row.getD p .non ≠ .non)) S.row.length with
  | none =>
    rw [lastP_none] at h ⊢
    exact fun q hq => by rw [e q hq]; exact h q hq
  | some p =>
    rw [lastP_some] at h ⊢
    exact ⟨h.1, by rw [e p h.1]; exact h.2.1, fun q h1 h2 => by rw [e q h2]; exact h.2.2 q h1 h2⟩
theorem lastP_filter (f : Nat → Bool) : ∀ n : Nat, lastP f n = ((List.range n).filter f).getLast?
  | 0 => rfl
  | n + 1 => by
    rw [lastP, List.range_succ, List.filter_append]
    by_cases c : f n = true
    · simp [c]
    · have c' : f n = false := by simpa using c
      simp [c', lastP_filter f n]
end My
namespace My
open PySem PySem.Spec PyProof.Rows L2
/-! a shelf, and beside it lists of the law's own -/
structure LW (Hb H : Hp) (C sh : Addr) (S : Sh) (own : List (Addr × List Ky)) : Prop where
  sm : Same Hb H
  ex : ∃ fp, ShAt H C sh .no fp S ∧ (∀ x ∈ fp, Fresh Hb x) ∧ ∀ q ∈ own, q.1 ∉ fp
  ats : ∀ q ∈ own, Fresh Hb q.1 ∧ Ky.vals q.2 = true ∧ ∃ ws, H q.1 = some (.lst ws) ∧ KysAt H ws q.2
  nd : (own.map Prod.fst).Nodup
section
variable {Hb H H' : Hp} {C sh a b : Addr} {S : Sh} {ks ls : List Ky} {own r : List (Addr × List Ky)}
theorem LW.ext (g : LW Hb H C sh S own) (s : Same H H') : LW Hb H' C sh S own := by
  obtain ⟨fp, h1, h2, h3⟩ := g.ex
  exact ⟨g.sm.trans s, ⟨fp, h1.ext s, h2, h3⟩, fun q m => by
    obtain ⟨x1, x2, ws, x3, x4⟩ := g.ats q m
    exact ⟨x1, x2, ws, s _ _ x3, x4.same s _ _⟩, g.nd⟩
theorem LW.step (g : LW Hb H C sh S own) : ∃ fp, ShAt H C sh .no fp S ∧ ∀ H' fp' S', Gr fp H H' → Sub fp' fp H → ShAt H' C sh .no fp' S' → LW Hb H' C sh S' own := by
  obtain ⟨fp, h1, h2, h3⟩ := g.ex
  refine ⟨fp, h1, fun H' fp' S' gr sb hS => ⟨gr.same g.sm h2, ⟨fp', hS, sb.fresh g.sm h2, fun q m => ?_⟩, fun q m => ?_, g.nd⟩⟩
  · obtain ⟨x1, x2, ws, x3, x4⟩ := g.ats q m
    exact sb.not x3 (h3 q m)
  · obtain ⟨x1, x2, ws, x3, x4⟩ := g.ats q m
    exact ⟨x1, x2, ws, gr.keep _ _ x3 (h3 q m), h1.kys gr x2 x4⟩
theorem LW.get (g : LW Hb H C sh S own) {q : Addr × List Ky} (m : q ∈ own) : ∃ ws, H q.1 = some (.lst ws) ∧ KysAt H ws q.2 := (g.ats q m).2.2
/-- a list of the law's changes -/
theorem LW.put {o1 o2 : List (Addr × List Ky)} (g : LW Hb H C sh S (o1 ++ (a, ks) :: o2)) {ws : List V} (v : Ky.vals ls = true) (h : KysAt H ws ls) : LW Hb (upd H a (.lst ws)) C sh S (o1 ++ (a, ls) :: o2) := by
  obtain ⟨fp, h1, h2, h3⟩ := g.ex
  obtain ⟨y1, y2, us, y3, y4⟩ := g.ats (a, ks) (by simp)
  have na := h3 (a, ks) (by simp)
  have nt : NoTup H [a] := noTup_one y3 fun _ z => by cases z
  have gr : Gr [a] H (upd H a (.lst ws)) := Gr.refl.put (by simp)
  have nd := g.nd
  rw [List.map_append, List.map_cons, List.nodup_append] at nd
  obtain ⟨n1, n2, n3⟩ := nd
  obtain ⟨n4, n5⟩ := List.nodup_cons.mp n2
  have old : ∀ q ∈ o1 ++ o2, q.1 ≠ a ∧ q ∈ o1 ++ (a, ks) :: o2 := fun q m => by
    rcases List.mem_append.mp m with m | m
    · exact ⟨n3 _ (List.mem_map_of_mem m) _ List.mem_cons_self, List.mem_append_left _ m⟩
    · exact ⟨fun e => n4 (show a ∈ o2.map Prod.fst from e ▸ List.mem_map_of_mem m), List.mem_append_right _ (List.mem_cons_of_mem _ m)⟩
  have cases_ : ∀ q ∈ o1 ++ (a, ls) :: o2, q = (a, ls) ∨ q ∈ o1 ++ o2 := fun q m => by
    rcases List.mem_append.mp m with m | m
    · exact .inr (List.mem_append_left _ m)
    · rcases List.mem_cons.mp m with m | m
      · exact .inl m
      · exact .inr (List.mem_append_right _ m)
  refine ⟨Same_upd0 g.sm y1, ⟨fp, h1.apart gr nt fun x hx m => na (by rw [List.mem_singleton] at m; rw [← m]; exact hx), h2, fun q m => ?_⟩, fun q m => ?_, ?_⟩
  · rcases cases_ q m with rfl | m
    · exact na
    · exact h3 q (old q m).2
  · rcases cases_ q m with rfl | m
    · exact ⟨y1, v, ws, upd_same, KysAt.keep gr.keep nt _ _ v h⟩
    · obtain ⟨x1, x2, us, x3, x4⟩ := g.ats q (old q m).2
      exact ⟨x1, x2, us, by rw [upd_ne (old q m).1]; exact x3, KysAt.keep gr.keep nt _ _ x2 x4⟩
  · rw [List.map_append, List.map_cons, List.nodup_append]
    exact ⟨n1, n2, n3⟩
/-- a list of the law's is new -/
theorem LW.new (g : LW Hb H C sh S own) (f : Fresh H a) {ws : List V} (v : Ky.vals ls = true) (h : KysAt H ws ls) : LW Hb (upd H a (.lst ws)) C sh S (own ++ [(a, ls)]) := by
  obtain ⟨fp, h1, h2, h3⟩ := g.ex
  have s := Same_upd (o := .lst ws) (Same.refl H) f
  have e := g.ext s
  obtain ⟨fq, k1, k2, k3⟩ := e.ex
  refine ⟨e.sm, ⟨fp, h1.ext s, h2, fun q m => ?_⟩, fun q m => ?_, ?_⟩
  · rcases List.mem_append.mp m with m | m
    · exact h3 q m
    · rw [List.mem_singleton] at m
      rw [m]
      exact h1.alloc f
  · rcases List.mem_append.mp m with m | m
    · exact e.ats q m
    · rw [List.mem_singleton] at m
      subst m
      exact ⟨Same_fresh g.sm f, v, ws, upd_same, h.same s _ _⟩
  · rw [List.map_append, List.nodup_append]
    refine ⟨g.nd, by simp, fun x hx y hy => ?_⟩
    obtain ⟨q, m, rfl⟩ := List.mem_map.mp hx
    obtain ⟨x1, x2, us, x3, x4⟩ := g.ats q m
    simp at hy
    rw [hy]
    exact f.ne x3
theorem LW.base (g : LW Hb H C sh S own) {l : Addr} {o : HO} (f : Fresh H l) : LW (upd Hb l o) (upd H l o) C sh S own := by
  obtain ⟨fp, h1, h2, h3⟩ := g.ex
  have s := Same_upd (o := o) (Same.refl H) f
  have e := g.ext s
  have nl := h1.alloc f
  have fr : ∀ {x : Addr}, x ≠ l → Fresh Hb x → Fresh (upd Hb l o) x := fun {x} n q => by
    unfold Fresh
    rw [upd_ne n]
    exact q
  refine ⟨fun b u q => ?_, ⟨fp, h1.ext s, fun x hx => fr (fun q => nl (by rw [← q]; exact hx)) (h2 x hx), h3⟩, fun q m => ?_, g.nd⟩
  · by_cases c : b = l
    · rw [c, upd_same] at q
      rw [c, upd_same]
      exact q
    · rw [upd_ne c] at q
      rw [upd_ne c]
      exact g.sm _ _ q
  · obtain ⟨x1, x2, us, x3, x4⟩ := e.ats q m
    obtain ⟨y1, y2, ws, y3, y4⟩ := g.ats q m
    exact ⟨fr (f.ne y3) y1, x2, us, x3, x4⟩
theorem LW.start {fp : List Addr} (sm : Same Hb H) (h : ShAt H C sh .no fp S) (ff : ∀ x ∈ fp, Fresh Hb x) : LW Hb H C sh S [] := ⟨sm, ⟨fp, h, ff, fun _ m => by cases m⟩, (fun _ m => by cases m), .nil⟩
end
theorem kys_ints {H : Hp} : ∀ {ns : List Int} {ws : List V}, KysAt H ws (ns.map Ky.num) → ws = ns.map V.int
  | [], _, h => by cases h; rfl
  | n :: ns, _, h => by
    cases h with
    | cons h t =>
      cases h
      rw [kys_ints t]
      rfl
theorem vals_nums : ∀ ns : List Int, Ky.vals (ns.map Ky.num) = true := fun ns => vals_iff.mpr fun k hk => by
  obtain ⟨n, _, rfl⟩ := List.mem_map.mp hk
  rfl
/-! the living pairs -/
def lvP (row held : List Ky) : List (Ky × Ky) := (row.zip held).filter fun p => decide (p.1 ≠ .non)
def Sh.lv (S : Sh) : List (Ky × Ky) := lvP S.row S.held
def pairT (p : Ky × Ky) : Ky := .tup [p.1, p.2]
theorem pairsN_lv : ∀ (row held : List Ky) (n : Nat), held.length = row.length → n ≤ row.length → pairsN row held n = (lvP (row.take n) (held.take n)).map pairT
  | row, held, 0, _, _ => rfl
  | row, held, n + 1, h, l => by
    have ih := pairsN_lv row held n h (by omega)
    have e1 : row[n]? = some row[n] := List.getElem?_eq_getElem (by omega)
    rw [pairsN, e1, List.take_succ_eq_append_getElem (by omega : n < row.length), List.take_succ_eq_append_getElem (by omega : n < held.length)]
    unfold lvP
    rw [List.zip_append (by rw [List.length_take, List.length_take]; omega), List.filter_append, List.map_append]
    dsimp only
    by_cases c : row[n] = .non
    · rw [if_pos c, ih]
      simp [c, lvP]
    · rw [if_neg c, ih]
      have e2 : held.getD n .non = held[n] := by rw [List.getD_eq_getElem?_getD, List.getElem?_eq_getElem (by omega : n < held.length)]; rfl
      rw [e2]
      simp [c, lvP, pairT]
theorem pairs_lv {S : Sh} (o : S.Ok) : S.pairs = S.lv.map pairT := by
  unfold Sh.pairs Sh.lv
  rw [pairsN_lv _ _ _ o.hl (Nat.le_refl _), List.take_length, ← o.hl, List.take_length]
theorem lvP_append (r1 r2 h1 h2 : List Ky) (e : r1.length = h1.length) : lvP (r1 ++ r2) (h1 ++ h2) = lvP r1 h1 ++ lvP r2 h2 := by
  unfold lvP
  rw [List.zip_append e, List.filter_append]
theorem lvP_key {r h : List Ky} {p : Ky × Ky} (m : p ∈ lvP r h) : p.1 ∈ r ∧ p.2 ∈ h ∧ p.1 ≠ .non := by
  unfold lvP at m
  rw [List.mem_filter] at m
  obtain ⟨m1, m2⟩ := m
  obtain ⟨a, b⟩ := p
  exact ⟨(List.of_mem_zip m1).1, (List.of_mem_zip m1).2, of_decide_eq_true m2⟩
theorem split_at {α : Type} {l : List α} {q : Nat} {x : α} (e : l[q]? = some x) : ∃ a b, l = a ++ x :: b ∧ a.length = q := by
  obtain ⟨h, e⟩ := List.getElem?_eq_some_iff.mp e
  refine ⟨l.take q, l.drop (q + 1), ?_, by rw [List.length_take]; omega⟩
  rw [← e, List.getElem_cons_drop, List.take_append_drop]
theorem set_mid {α : Type} (a b : List α) (x y : α) : (a ++ x :: b).set a.length y = a ++ y :: b := by simp
theorem Sh.Ok.split {S : Sh} (o : S.Ok) {q : Nat} {y : Ky} (e : S.row[q]? = some y) (n : y ≠ .non) : ∃ (A B : List (Ky × Ky)) (z : Ky), S.lv = A ++ (y, z) :: B ∧ S.held[q]? = some z ∧ (∀ u, (S.hold q u).lv = A ++ (y, u) :: B) ∧ (S.went q y).lv = A ++ B ∧
    (∀ p ∈ A, p.1 ≠ y) ∧ (∀ p ∈ B, p.1 ≠ y) ∧ ((∀ t, q < t → S.row.getD t .non = .non) → B = []) := by
  obtain ⟨r1, r2, er, el⟩ := split_at e
  have hq := (List.getElem?_eq_some_iff.mp e).1
  have hl := o.hl
  obtain ⟨z0, ez⟩ : ∃ z, S.held[q]? = some z := ⟨_, List.getElem?_eq_getElem (by omega)⟩
  obtain ⟨h1, h2, eh, eg⟩ := split_at ez
  have ee : r1.length = h1.length := by omega
  have one : ∀ u, lvP (r1 ++ y :: r2) (h1 ++ u :: h2) = lvP r1 h1 ++ (y, u) :: lvP r2 h2 := fun u => by
    rw [lvP_append _ _ _ _ ee]
    congr 1
    show List.filter _ ((y, u) :: r2.zip h2) = _
    rw [List.filter_cons, if_pos (decide_eq_true n)]
    rfl
  have uq : ∀ t, S.row[t]? = some y → t = q := fun t h => o.cw.nd t q y h e n
  refine ⟨lvP r1 h1, lvP r2 h2, z0, ?_, ez, fun u => ?_, ?_, fun p m => ?_, fun p m => ?_, fun h => ?_⟩
  · have := one z0
    rw [← er, ← eh] at this
    exact this
  · show lvP S.row (S.held.set q u) = _
    rw [← one u, er]
    congr 1
    rw [eh]
    rw [← eg]
    exact set_mid _ _ _ _
  · show lvP (S.row.set q .non) (S.held.set q .non) = _
    have e1 : S.row.set q .non = r1 ++ .non :: r2 := by rw [er, ← el]; exact set_mid _ _ _ _
    have e2 : S.held.set q .non = h1 ++ .non :: h2 := by rw [eh, ← eg]; exact set_mid _ _ _ _
    rw [e1, e2, lvP_append _ _ _ _ ee]
    congr 1
  · intro c
    obtain ⟨t, ht, et⟩ := List.mem_iff_getElem.mp (lvP_key m).1
    have := uq t (by rw [er, List.getElem?_append_left ht, List.getElem?_eq_getElem ht, et, c])
    omega
  · intro c
    obtain ⟨t, ht, et⟩ := List.mem_iff_getElem.mp (lvP_key m).1
    have := uq (r1.length + 1 + t) (by
      rw [er, List.getElem?_append_right (by omega), show r1.length + 1 + t - r1.length = t + 1 by omega, List.getElem?_cons_succ, List.getElem?_eq_getElem ht, et, c])
    omega
  · rw [List.eq_nil_iff_forall_not_mem]
    intro p m
    obtain ⟨k1, -, k3⟩ := lvP_key m
    obtain ⟨t, ht, et⟩ := List.mem_iff_getElem.mp k1
    have := h (r1.length + 1 + t) (by omega)
    rw [List.getD_eq_getElem?_getD, er, List.getElem?_append_right (by omega), show r1.length + 1 + t - r1.length = t + 1 by omega, List.getElem?_cons_succ, List.getElem?_eq_getElem ht, et] at this
    exact k3 this
theorem come_lv {S : Sh} (o : S.Ok) {y z : Ky} (n : y ≠ .non) : (S.come y z).lv = S.lv ++ [(y, z)] := by
  show lvP (S.row ++ [y]) (S.held ++ [z]) = _
  rw [lvP_append _ _ _ _ o.hl.symm]
  congr 1
  show List.filter _ [(y, z)] = _
  rw [List.filter_cons, if_pos (decide_eq_true n)]
  rfl
theorem lv_not {S : Sh} {y : Ky} (e : y ∉ S.row) : ∀ p ∈ S.lv, p.1 ≠ y := fun p m c => e (by rw [← c]; exact (lvP_key m).1)
theorem last_none {S : Sh} (o : S.Ok) (e : S.last = none) : S.lv = [] := by
  rw [last_liv o, lastP_none] at e
  rw [List.eq_nil_iff_forall_not_mem]
  intro p m
  obtain ⟨k1, -, k3⟩ := lvP_key m
  obtain ⟨t, ht, et⟩ := List.mem_iff_getElem.mp k1
  have := of_decide_eq_false (e t ht)
  rw [List.getD_eq_getElem?_getD, List.getElem?_eq_getElem ht, et] at this
  exact this k3
theorem last_some {S : Sh} (o : S.Ok) {q : Nat} (e : S.last = some q) : ∀ t, q < t → S.row.getD t .non = .non := fun t h => by
  rw [last_liv o, lastP_some] at e
  rcases Nat.lt_or_ge t S.row.length with g | g
  · have := of_decide_eq_false (e.2.2 t h g)
    exact Classical.byContradiction this
  · rw [List.getD_eq_getElem?_getD, List.getElem?_eq_none_iff.mpr g]
    rfl
theorem lv_len {S : Sh} (o : S.Ok) : (S.lv.length : Int) = S.com - S.goi := by
  rw [o.many]
  unfold Sh.lv lvP
  have h : ∀ (r h : List Ky), h.length = r.length → ((r.zip h).filter fun p => decide (p.1 ≠ .non)).length = (r.filter fun k => decide (k ≠ .non)).length := by
    intro r
    induction r with
    | nil => intro h e; rfl
    | cons x r ih =>
      intro h e
      cases h with
      | nil => simp at e
      | cons z h =>
        rw [List.zip_cons_cons, List.filter_cons, List.filter_cons]
        dsimp only
        split
        · rw [List.length_cons, List.length_cons, ih h (by simpa using e)]
        · exact ih h (by simpa using e)
  rw [h _ _ o.hl]
/-! a deed, and what comes of it: a number (0; 1: Full; 2: Lacking), an answer, the shelf -/
def Sh.deed (mr : Sh → Option Sh) (S : Sh) (way : Nat) (y z : Ky) : Int × Ky × Sh := match way with
  | 0 => match S.put mr y z with
    | none => (1, .non, S)
    | some (b, S') => (0, .bl b, S')
  | 1 => match S.find y with
    | none => (2, .non, S)
    | some q => (0, S.held.getD q .non, S.went q y)
  | 2 => match S.last with
    | none => (2, .non, S)
    | some q => (0, .tup [S.row.getD q .non, S.held.getD q .non], S.went q (S.row.getD q .non))
  | 3 => match S.heldAt y with
    | none => (2, .non, S)
    | some u => (0, u, S)
  | 4 => match S.heldAt y with
    | none => (0, z, S)
    | some u => (0, u, S)
  | 5 => (0, .bl (S.find y).isSome, S)
  | 6 => (0, .tup (S.counts.map Ky.num), S)
  | _ => (0, .non, S.emptied)
def spDeed (C CF CL : Addr) (mr : Sh → Option Sh) : Sp := fun vs H Q E => ∃ sh w v u p fp S y z, vs = [.ref sh, .int (w : Nat), v, u] ∧ ShAt H C sh p fp S ∧ KyAt H v y ∧ KeyOk y ∧ KyAt H u z ∧ HVal z ∧ w ≤ 7 ∧
  ((S.deed mr w y z).1 = 0 → ∀ H' fp' x, Gr fp H H' → Sub fp' fp H → ShAt H' C sh p fp' (S.deed mr w y z).2.2 → KyAt H' x (S.deed mr w y z).2.1 → Q x H') ∧
  ((S.deed mr w y z).1 = 1 → ∀ H', Same H H' → E (.ref CF) none H') ∧ ((S.deed mr w y z).1 = 2 → ∀ H', Same H H' → E (.ref CL) none H')
theorem len_deed {C CF CL : Addr} {mr : Sh → Option Sh} {vs H Q E} (h : spDeed C CF CL mr vs H Q E) : vs.length = 4 := by obtain ⟨_, _, _, _, _, _, _, _, _, rfl, _⟩ := h; rfl
def spAsked (C : Addr) (mr : Sh → Option Sh) : Sp := fun vs H Q _ => ∃ sh w v u p fp S y z, vs = [.ref sh, .int (w : Nat), v, u] ∧ ShAt H C sh p fp S ∧ KyAt H v y ∧ KeyOk y ∧ KyAt H u z ∧ HVal z ∧ w ≤ 7 ∧
  ∀ H' fp' x, Gr fp H H' → Sub fp' fp H → ShAt H' C sh p fp' (S.deed mr w y z).2.2 → KyAt H' x (.tup [.num (S.deed mr w y z).1, (S.deed mr w y z).2.1]) → Q x H'
theorem len_asked {C : Addr} {mr : Sh → Option Sh} {vs H Q E} (h : spAsked C mr vs H Q E) : vs.length = 4 := by obtain ⟨_, _, _, _, _, _, _, _, _, rfl, _⟩ := h; rfl
theorem deed_ref {mr : Sh → Option Sh} {S : Sh} {w : Nat} {y z : Ky} (h : (S.deed mr w y z).1 ≠ 0) : ((S.deed mr w y z).1 = 1 ∨ (S.deed mr w y z).1 = 2) ∧ (S.deed mr w y z).2.1 = .non ∧ (S.deed mr w y z).2.2 = S := by
  match w with
  | 0 =>
    unfold Sh.deed at h ⊢
    cases e : S.put mr y z with
    | none => exact ⟨.inl rfl, rfl, rfl⟩
    | some p => rw [e] at h; exact absurd rfl h
  | 1 =>
    unfold Sh.deed at h ⊢
    cases e : S.find y with
    | none => exact ⟨.inr rfl, rfl, rfl⟩
    | some p => rw [e] at h; exact absurd rfl h
  | 2 =>
    unfold Sh.deed at h ⊢
    cases e : S.last with
    | none => exact ⟨.inr rfl, rfl, rfl⟩
    | some p => rw [e] at h; exact absurd rfl h
  | 3 =>
    unfold Sh.deed at h ⊢
    cases e : S.heldAt y with
    | none => exact ⟨.inr rfl, rfl, rfl⟩
    | some p => rw [e] at h; exact absurd rfl h
  | 4 =>
    unfold Sh.deed at h ⊢
    cases e : S.heldAt y with
    | none => rw [e] at h; exact absurd rfl h
    | some p => rw [e] at h; exact absurd rfl h
  | 5 => exact absurd rfl h
  | 6 => exact absurd rfl h
  | n + 7 => exact absurd rfl h
theorem bl_at {H : Hp} (b : Bool) : KyAt H (.bl b) (.bl b) := .bl b
/-- the place of a key among pairs -/
def spSpot (K : PySem.W.Frag) : Sp := fun vs H Q _ => ∃ l v ws lv y, vs = [.ref l, v] ∧ SqL K H l ws ∧ KysAt H ws ((lv : List (Ky × Ky)).map pairT) ∧ KyAt H v y ∧ KeyOk y ∧ (∀ p ∈ lv, KeyOk p.1) ∧ lv.length ≤ 5000 ∧
  ((∀ p ∈ lv, p.1 ≠ y) → Q .non H) ∧ ∀ A B z, lv = A ++ (y, z) :: B → (∀ p ∈ A, p.1 ≠ y) → Q (.int (A.length : Nat)) H
theorem len_spot {K : PySem.W.Frag} {vs H Q E} (h : spSpot K vs H Q E) : vs.length = 2 := by obtain ⟨_, _, _, _, _, rfl, _⟩ := h; rfl
theorem spot_use {K : PySem.W.Frag} {H : Hp} {Q : VK} {E : XK} {l : Addr} {v : V} {ws : List V} {S : Sh} {y : Ky} (hl : H l = some (.lst ws)) (hw : KysAt H ws (S.lv.map pairT)) (o : S.Ok) (hy : KyAt H v y) (yk : KeyOk y)
    (k1 : S.find y = none → Q .non H) (k2 : ∀ q A B z, S.find y = some q → S.lv = A ++ (y, z) :: B → S.held[q]? = some z → (∀ u, (S.hold q u).lv = A ++ (y, u) :: B) → (S.went q y).lv = A ++ B → Q (.int (A.length : Nat)) H) : spSpot K [.ref l, v] H Q E := by
  have kk : ∀ p ∈ S.lv, KeyOk p.1 := fun p m => ((o.cw.rok _ (lvP_key m).1).resolve_left (lvP_key m).2.2)
  have ln : S.lv.length ≤ 5000 := by
    have h1 : S.lv.length ≤ (S.row.zip S.held).length := List.length_filter_le _ _
    rw [List.length_zip] at h1
    have := o.cw.lt
    omega
  refine ⟨l, v, ws, S.lv, y, rfl, SqL.of hl, hw, hy, yk, kk, ln, fun h => ?_, fun A B z e h => ?_⟩
  · refine k1 ((o.find_none yk.ne_non).mpr fun m => ?_)
    obtain ⟨q, hq⟩ := List.mem_iff_getElem?.mp m
    obtain ⟨A, B, z, e, -⟩ := o.split hq yk.ne_non
    exact h (y, z) (by rw [e]; simp) rfl
  · cases ef : S.find y with
    | none => exact absurd rfl (lv_not ((o.find_none yk.ne_non).mp ef) (y, z) (by rw [e]; simp))
    | some q =>
      obtain ⟨A', B', z', e', h1, h2, h3, h4, h5, -⟩ := o.split ((o.find_some yk.ne_non).mp ef) yk.ne_non
      have key : ∀ (A A' B B' : List (Ky × Ky)) (z z' : Ky), A ++ (y, z) :: B = A' ++ (y, z') :: B' → (∀ p ∈ A, p.1 ≠ y) → (∀ p ∈ A', p.1 ≠ y) → A = A' ∧ z = z' ∧ B = B' := by
        intro A
        induction A with
        | nil =>
          intro A' B B' z z' e h h'
          cases A' with
          | nil => simp at e; exact ⟨rfl, e.1, e.2⟩
          | cons a A' =>
            simp at e
            exact absurd (by rw [← e.1]) (h' a List.mem_cons_self)
        | cons a A ih =>
          intro A' B B' z z' e h h'
          cases A' with
          | nil =>
            simp at e
            exact absurd (by rw [e.1]) (h a List.mem_cons_self)
          | cons a' A' =>
            simp at e
            obtain ⟨i1, i2, i3⟩ := ih A' B B' z z' e.2 (fun p m => h p (List.mem_cons_of_mem _ m)) (fun p m => h' p (List.mem_cons_of_mem _ m))
            exact ⟨by rw [e.1, i1], i2, i3⟩
      obtain ⟨rfl, rfl, rfl⟩ := key A A' B B' z z' (by rw [← e, e']) h h4
      exact k2 q A B z ef e' h1 h2 h3
theorem pairT_vals {S : Sh} (o : S.Ok) : Ky.vals (S.lv.map pairT) = true := by
  rw [← pairs_lv o]
  exact pairsN_vals o _
theorem deed_ok {S : Sh} (o : S.Ok) {w : Nat} {y z : Ky} (yk : KeyOk y) (hz : HVal z) : (S.deed (fun _ => none) w y z).2.2.Ok := by
  match w with
  | 0 =>
    unfold Sh.deed Sh.put
    cases e : S.find y with
    | some q => exact o.hold hz
    | none =>
      dsimp only
      by_cases c : S.full = true
      · rw [if_pos c]; exact o
      · rw [if_neg c]
        exact o.come yk ((o.find_none yk.ne_non).mp e) (by simpa using c) hz
  | 1 =>
    unfold Sh.deed
    cases e : S.find y with
    | none => exact o
    | some q => exact o.went ((o.find_some yk.ne_non).mp e) yk.ne_non
  | 2 =>
    unfold Sh.deed
    cases e : S.last with
    | none => exact o
    | some q =>
      obtain ⟨y2, e1, e2, e3⟩ := liv_key o (ahead_liv e).2
      dsimp only
      rw [e3]
      exact o.went e1 e2.ne_non
  | 3 => unfold Sh.deed; cases S.heldAt y <;> exact o
  | 4 => unfold Sh.deed; cases S.heldAt y <;> exact o
  | 5 => exact o
  | 6 => exact o
  | n + 7 => exact o.emptied
end My
namespace My
open PySem PySem.Spec PyProof.Rows L2
/-! values (none within tuples, too) held against each other -/
theorem vals_cons {k : Ky} {ks : List Ky} (h : Ky.vals (k :: ks) = true) : k.val = true ∧ Ky.vals ks = true := by simpa [Ky.vals] using h
mutual
theorem Ky.eqvV : ∀ x y : Ky, x.val = true → y.val = true → PyData.eqv x.toD y.toD = Ky.beq x y
  | .num i, y, _, h => by
    cases y <;> first | (simp [Ky.val] at h; done) | (simp [Ky.toD, PyData.eqv, Ky.beq]; done) | (simp only [Ky.toD, PyData.eqv, Ky.beq]; exact Bool.beq_eq_decide_eq _ _)
  | .txt i, y, _, h => by
    cases y <;> first | (simp [Ky.val] at h; done) | (simp [Ky.toD, PyData.eqv, Ky.beq]; done) | (simp only [Ky.toD, PyData.eqv, Ky.beq]; exact Bool.beq_eq_decide_eq _ _)
  | .non, y, _, h => by
    cases y <;> first | (simp [Ky.val] at h; done) | (simp [Ky.toD, PyData.eqv, Ky.beq]; done)
  | .tup xs, .tup ys, h, g => by
    simp only [Ky.toD, PyData.eqv, Ky.beq]
    exact Ky.eqvsV xs ys (tup_val h).2 (tup_val g).2
  | .tup xs, .num _, _, _ => by simp [Ky.toD, PyData.eqv, Ky.beq]
  | .tup xs, .txt _, _, _ => by simp [Ky.toD, PyData.eqv, Ky.beq]
  | .tup xs, .non, _, _ => by simp [Ky.toD, PyData.eqv, Ky.beq]
  | .tup xs, .bl _, _, h => by simp [Ky.val] at h
  | .tup xs, .lst _, _, h => by simp [Ky.val] at h
  | .tup xs, .dct, _, h => by simp [Ky.val] at h
  | .bl _, _, h, _ => by simp [Ky.val] at h
  | .lst _, _, h, _ => by simp [Ky.val] at h
  | .dct, _, h, _ => by simp [Ky.val] at h
theorem Ky.eqvsV : ∀ xs ys : List Ky, Ky.vals xs = true → Ky.vals ys = true → PyData.eqvAll (Ky.toDs xs) (Ky.toDs ys) = Ky.beqs xs ys
  | [], [], _, _ => by simp [Ky.toDs, PyData.eqvAll, Ky.beqs]
  | x :: xs, y :: ys, h, g => by
    simp only [Ky.toDs, PyData.eqvAll, Ky.beqs]
    rw [Ky.eqvV x y (vals_cons h).1 (vals_cons g).1, Ky.eqvsV xs ys (vals_cons h).2 (vals_cons g).2]
  | [], _ :: _, _, _ => by simp [Ky.toDs, PyData.eqvAll, Ky.beqs]
  | _ :: _, [], _, _ => by simp [Ky.toDs, PyData.eqvAll, Ky.beqs]
end
mutual
theorem Ky.canLayV : ∀ k : Ky, k.val = true → k.toD.canLay0 = true
  | .num _, _ => by simp [Ky.toD, PyData.canLay0]
  | .txt x, h => by
    have h' : PyData.strOk x = true := by simpa [Ky.val] using h
    simpa [Ky.toD, PyData.canLay0] using h'
  | .non, _ => by simp [Ky.toD, PyData.canLay0]
  | .tup ks, h => by
    simp only [Ky.toD, PyData.canLay0]
    exact Ky.canLaysV ks (tup_val h).2
  | .bl _, h => by simp [Ky.val] at h
  | .lst _, h => by simp [Ky.val] at h
  | .dct, h => by simp [Ky.val] at h
theorem Ky.canLaysV : ∀ ks : List Ky, Ky.vals ks = true → PyData.canLayAll0 (Ky.toDs ks) = true
  | [], _ => by simp [Ky.toDs, PyData.canLayAll0]
  | k :: ks, h => by
    simp only [Ky.toDs, PyData.canLayAll0, Ky.canLayV k (vals_cons h).1, Ky.canLaysV ks (vals_cons h).2, Bool.and_self]
end
theorem Ky.shapedV {k : Ky} (h : k.val = true) (d : k.dep ≤ 60) : SeqAt.shaped k.toD = true := by
  unfold SeqAt.shaped
  rw [Ky.canLayV k h, Ky.depth_toD, decide_eq_true (by omega)]
  rfl
def Ky.vrow (ks : List Ky) : Prop := ∀ k ∈ ks, k.val = true ∧ k.dep ≤ 60
theorem vrow_vals {ks : List Ky} (h : Ky.vrow ks) : Ky.vals ks = true := vals_iff.mpr fun k hk => (h k hk).1
theorem vrow_deps {ks : List Ky} (h : Ky.vrow ks) : Ky.deps ks ≤ 60 := deps_of fun k hk => (h k hk).2
theorem vrow_nil : Ky.vrow [] := fun _ h => by cases h
theorem Ky.shapedVL {ks : List Ky} (h : Ky.vrow ks) : SeqAt.shaped (.list (Ky.toDs ks)) = true := by
  unfold SeqAt.shaped
  have := vrow_deps h
  rw [PyData.canLay0, Ky.canLaysV ks (vrow_vals h), PyData.depth, Ky.depths_toD, decide_eq_true (by omega)]
  rfl
section
variable {H : Hp} {K : PySem.W.Frag}
mutual
theorem KyAt.dpV : ∀ (k : Ky) (v : V), k.val = true → KyAt H v k → Dp K H v k.toD
  | .num i, _, _, h => by cases h; rw [Ky.toD]; exact .int i
  | .txt x, _, _, h => by cases h; rw [Ky.toD]; exact .str x
  | .non, _, _, h => by
    cases h
    have e : Ky.toD .non = .none := by simp [Ky.toD]
    rw [e]
    exact .non
  | .tup ks, _, g, h => by
    cases h with
    | tup h p => rw [Ky.toD]; exact .tup (SqT.of h) (KysAt.dpV ks _ (tup_val g).2 p)
  | .bl _, _, g, _ => by simp [Ky.val] at g
  | .lst _, _, g, _ => by simp [Ky.val] at g
  | .dct, _, g, _ => by simp [Ky.val] at g
theorem KysAt.dpV : ∀ (ks : List Ky) (vs : List V), Ky.vals ks = true → KysAt H vs ks → DpAll K H vs (Ky.toDs ks)
  | [], _, _, h => by cases h; rw [Ky.toDs]; exact .nil
  | k :: ks, _, g, h => by
    cases h with
    | cons h t => rw [Ky.toDs]; exact .cons (KyAt.dpV k _ (vals_cons g).1 h) (KysAt.dpV ks _ (vals_cons g).2 t)
end
theorem eq_val {v w : V} {k l : Ky} {Q : VK} (hv : KyAt H v k) (hw : KyAt H w l) (gk : k.val = true) (gl : l.val = true) (dk : k.dep ≤ 60) (dl : l.dep ≤ 60) (q : Q (.bl (decide (k = l))) H) : rEqD K v w H Q := by
  refine ⟨k.toD, l.toD, KyAt.dpV k v gk hv, KyAt.dpV l w gl hw, Ky.shapedV gk dk, Ky.shapedV gl dl, ?_⟩
  rw [Ky.eqvV _ _ gk gl, Ky.beq_dec]
  exact q
theorem ne_val {v w : V} {k l : Ky} {Q : VK} (hv : KyAt H v k) (hw : KyAt H w l) (gk : k.val = true) (gl : l.val = true) (dk : k.dep ≤ 60) (dl : l.dep ≤ 60) (q : Q (.bl (!decide (k = l))) H) : rNeD K v w H Q := by
  refine ⟨k.toD, l.toD, KyAt.dpV k v gk hv, KyAt.dpV l w gl hw, Ky.shapedV gk dk, Ky.shapedV gl dl, ?_⟩
  rw [Ky.eqvV _ _ gk gl, Ky.beq_dec]
  exact q
theorem eq_vrows {a b : Addr} {vs ws : List V} {ks ls : List Ky} {Q : VK} (ha : SqL K H a vs) (hk : KysAt H vs ks) (hb : SqL K H b ws) (hl : KysAt H ws ls) (dk : Ky.vrow ks) (dl : Ky.vrow ls) (q : Q (.bl (decide (ks = ls))) H) : rEqD K (.ref a) (.ref b) H Q := by
  refine ⟨.list (Ky.toDs ks), .list (Ky.toDs ls), .lst ha (KysAt.dpV ks _ (vrow_vals dk) hk), .lst hb (KysAt.dpV ls _ (vrow_vals dl) hl), Ky.shapedVL dk, Ky.shapedVL dl, ?_⟩
  rw [PyData.eqv, Ky.eqvsV _ _ (vrow_vals dk) (vrow_vals dl), Ky.beqs_dec]
  exact q
theorem ne_vrows {a b : Addr} {vs ws : List V} {ks ls : List Ky} {Q : VK} (ha : SqL K H a vs) (hk : KysAt H vs ks) (hb : SqL K H b ws) (hl : KysAt H ws ls) (dk : Ky.vrow ks) (dl : Ky.vrow ls) (q : Q (.bl (!decide (ks = ls))) H) : rNeD K (.ref a) (.ref b) H Q := by
  refine ⟨.list (Ky.toDs ks), .list (Ky.toDs ls), .lst ha (KysAt.dpV ks _ (vrow_vals dk) hk), .lst hb (KysAt.dpV ls _ (vrow_vals dl) hl), Ky.shapedVL dk, Ky.shapedVL dl, ?_⟩
  rw [PyData.eqv, Ky.eqvsV _ _ (vrow_vals dk) (vrow_vals dl), Ky.beqs_dec]
  exact q
end
theorem pairT_dep {S : Sh} (o : S.Ok) : ∀ k ∈ S.lv.map pairT, k.val = true ∧ k.dep ≤ 9 := fun k hk => by
  refine ⟨vals_iff.mp (pairT_vals o) k hk, ?_⟩
  obtain ⟨p, hp, rfl⟩ := List.mem_map.mp hk
  obtain ⟨k1, k2, k3⟩ := lvP_key hp
  have a1 := ((o.cw.rok _ k1).resolve_left k3).d
  have a2 := (o.hv _ k2).2
  simp only [pairT, Ky.dep, Ky.deps]
  omega
theorem lv_vrow {S : Sh} (o : S.Ok) : Ky.vrow (S.lv.map pairT) := fun k hk => ⟨(pairT_dep o k hk).1, Nat.le_trans (pairT_dep o k hk).2 (by decide)⟩
theorem lv_le {S : Sh} (o : S.Ok) : S.lv.length ≤ 2730 := by
  have h1 : S.lv.length ≤ (S.row.zip S.held).length := List.length_filter_le _ _
  rw [List.length_zip] at h1
  have := o.cw.lt
  omega
end My
namespace My
open PySem PySem.Spec PyProof.Rows L2
/-! packing, sizes; a table's tidying -/
def keptK : List Ky → List Ky → List Ky × List Ky
  | k :: ks, u :: us => if k = .non then keptK ks us else (k :: (keptK ks us).1, u :: (keptK ks us).2)
  | _, _ => ([], [])
def spPacked (K : PySem.W.Frag) : Sp := fun vs H Q _ => ∃ (a b : Addr) (xs ys : List V) (ks us : List Ky), vs = [.ref a, .ref b] ∧ SqL K H a xs ∧ SqL K H b ys ∧ KysAt H xs ks ∧ KysAt H ys us ∧ (Ky.vals ks = true ∧ Ky.vals us = true) ∧ ks.length ≤ 5000 ∧ ks.length = us.length ∧
  ∀ (t c d : Addr) (ws zs : List V) (H' : Hp), Same H H' → c ≠ d → Fresh H c → Fresh H d → H' t = some (.tup [.ref c, .ref d]) → H' c = some (.lst ws) → H' d = some (.lst zs) → KysAt H' ws (keptK ks us).1 → KysAt H' zs (keptK ks us).2 → Q (.ref t) H'
theorem len_packed {K : PySem.W.Frag} {vs H Q E} (h : spPacked K vs H Q E) : vs.length = 2 := by obtain ⟨_, _, _, _, _, _, rfl, _⟩ := h; rfl
theorem keptK_mem : ∀ (ks us : List Ky) (z : Ky), (z ∈ (keptK ks us).1 → z ∈ ks) ∧ (z ∈ (keptK ks us).2 → z ∈ us)
  | [], _, z => by simp [keptK]
  | _ :: _, [], z => by simp [keptK]
  | k :: ks, u :: us, z => by
    have := keptK_mem ks us z
    rw [keptK]
    split
    · exact ⟨fun h => List.mem_cons_of_mem _ (this.1 h), fun h => List.mem_cons_of_mem _ (this.2 h)⟩
    · refine ⟨fun h => ?_, fun h => ?_⟩
      · rcases List.mem_cons.mp h with rfl | h
        · exact List.mem_cons_self
        · exact List.mem_cons_of_mem _ (this.1 h)
      · rcases List.mem_cons.mp h with rfl | h
        · exact List.mem_cons_self
        · exact List.mem_cons_of_mem _ (this.2 h)
theorem keptK_take {ks us : List Ky} : ∀ {i : Nat} {k u : Ky}, ks[i]? = some k → us[i]? = some u → keptK (ks.take (i + 1)) (us.take (i + 1)) = if k = .non then keptK (ks.take i) (us.take i) else ((keptK (ks.take i) (us.take i)).1 ++ [k], (keptK (ks.take i) (us.take i)).2 ++ [u]) := by
  induction ks generalizing us with
  | nil => intro i k u h; simp at h
  | cons x xs ih =>
    intro i k u h g
    cases us with
    | nil => simp at g
    | cons y ys =>
      cases i with
      | zero =>
        simp at h g
        subst h
        subst g
        simp [keptK]
      | succ i =>
        have := ih (us := ys) (i := i) (by simpa using h) (by simpa using g)
        simp only [List.take_succ_cons, keptK] at this ⊢
        rw [this]
        by_cases c : x = .non
        · simp [c]
        · by_cases c2 : k = .non
          · simp [c, c2]
          · simp [c, c2]
def spSizeFor : Sp := fun vs H Q _ => ∃ n : Int, vs = [.int n] ∧ (0 ≤ n ∧ n ≤ 1365) ∧ ∀ j : Nat, (3 ≤ j ∧ j ≤ 12) → 3 * n ≤ 2 ^ j → (j = 3 ∨ 2 ^ (j - 1) < 3 * n) → Q (.int (2 ^ j)) H
theorem len_sizefor {vs H Q E} (h : spSizeFor vs H Q E) : vs.length = 1 := by obtain ⟨_, rfl, _⟩ := h; rfl
end My
namespace My
open PySem PySem.Spec PyProof.Rows L2
theorem keptK_lv : ∀ (ks us : List Ky), keptK ks us = ((lvP ks us).map Prod.fst, (lvP ks us).map Prod.snd)
  | [], us => by simp [keptK, lvP]
  | _ :: _, [] => by simp [keptK, lvP]
  | k :: ks, u :: us => by
    rw [keptK, keptK_lv ks us]
    unfold lvP
    rw [List.zip_cons_cons, List.filter_cons]
    by_cases c : k = .non <;> simp [c]
def keptI (row : List Ky) (born : List Int) : List Int := ((row.zip born).filter fun p => decide (p.1 ≠ .non)).map Prod.snd
theorem keptI_nums (row : List Ky) (born : List Int) : (keptK row (born.map Ky.num)).2 = (keptI row born).map Ky.num := by
  rw [keptK_lv]
  unfold keptI lvP
  show ((row.zip (born.map Ky.num)).filter fun p => decide (p.1 ≠ .non)).map Prod.snd = (((row.zip born).filter fun p => decide (p.1 ≠ .non)).map Prod.snd).map Ky.num
  rw [List.zip_map_right, List.filter_map, List.map_map, List.map_map]
  rfl
theorem keptI_sub (row : List Ky) (born : List Int) (e : born.length = row.length) : (keptI row born).Sublist born := by
  unfold keptI
  have h := (List.filter_sublist (p := fun p : Ky × Int => decide (p.1 ≠ .non)) (l := row.zip born)).map Prod.snd
  have e2 : (row.zip born).map Prod.snd = born := List.map_snd_zip (by omega)
  rw [e2] at h
  exact h
theorem keptI_len : ∀ (row held : List Ky) (born : List Int), held.length = row.length → born.length = row.length → (keptI row born).length = (lvP row held).length
  | [], held, born, h1, h2 => by
    have : born = [] := List.length_eq_zero_iff.mp (by simpa using h2)
    subst this
    simp [keptI, lvP]
  | k :: row, z :: held, n :: born, h1, h2 => by
    have ih := keptI_len row held born (by simpa using h1) (by simpa using h2)
    unfold keptI lvP at ih ⊢
    rw [List.zip_cons_cons, List.zip_cons_cons, List.filter_cons, List.filter_cons]
    dsimp only
    split
    · rw [List.map_cons, List.length_cons, List.length_cons, ih]
    · exact ih
  | _ :: _, [], _, h1, _ => by simp at h1
  | _ :: _, _ :: _, [], _, h2 => by simp at h2
theorem kept1_eq (row : List Ky) (held : List Ky) (born : List Int) (e1 : held.length = row.length) (e2 : born.length = row.length) : (keptK row (born.map Ky.num)).1 = (keptK row held).1 := by
  rw [keptK_lv, keptK_lv]
  dsimp only
  revert held born
  induction row with
  | nil => intro held born _ _; simp [lvP]
  | cons k row ih =>
    intro held born e1 e2
    cases held with
    | nil => simp at e1
    | cons z held =>
      cases born with
      | nil => simp at e2
      | cons n born =>
        have := ih held born (by simpa using e1) (by simpa using e2)
        unfold lvP at this ⊢
        rw [List.map_cons, List.zip_cons_cons, List.zip_cons_cons, List.filter_cons, List.filter_cons]
        dsimp only
        split
        · rw [List.map_cons, List.map_cons, this]
        · exact this
def szJ (n : Nat) : Nat := if n ≤ 2 then 3 else if n ≤ 5 then 4 else if n ≤ 10 then 5 else if n ≤ 21 then 6 else if n ≤ 42 then 7 else if n ≤ 85 then 8 else if n ≤ 170 then 9 else if n ≤ 341 then 10 else if n ≤ 682 then 11 else 12
theorem szJ_at {n j : Nat} (h : 3 ≤ j ∧ j ≤ 12) (e : 3 * (n : Int) ≤ 2 ^ j) (l : j = 3 ∨ (2 : Int) ^ (j - 1) < 3 * n) : j = szJ n := by
  have c : j = 3 ∨ j = 4 ∨ j = 5 ∨ j = 6 ∨ j = 7 ∨ j = 8 ∨ j = 9 ∨ j = 10 ∨ j = 11 ∨ j = 12 := by omega
  unfold szJ
  rcases c with rfl | rfl | rfl | rfl | rfl | rfl | rfl | rfl | rfl | rfl <;> simp only [Int.reducePow, Nat.reduceSub] at e l
  · rw [if_pos (by omega)]
  · rw [if_neg (by omega), if_pos (by omega)]
  · rw [if_neg (by omega), if_neg (by omega), if_pos (by omega)]
  · rw [if_neg (by omega), if_neg (by omega), if_neg (by omega), if_pos (by omega)]
  · rw [if_neg (by omega), if_neg (by omega), if_neg (by omega), if_neg (by omega), if_pos (by omega)]
  · rw [if_neg (by omega), if_neg (by omega), if_neg (by omega), if_neg (by omega), if_neg (by omega), if_pos (by omega)]
  · rw [if_neg (by omega), if_neg (by omega), if_neg (by omega), if_neg (by omega), if_neg (by omega), if_neg (by omega), if_pos (by omega)]
  · rw [if_neg (by omega), if_neg (by omega), if_neg (by omega), if_neg (by omega), if_neg (by omega), if_neg (by omega), if_neg (by omega), if_pos (by omega)]
  · rw [if_neg (by omega), if_neg (by omega), if_neg (by omega), if_neg (by omega), if_neg (by omega), if_neg (by omega), if_neg (by omega), if_neg (by omega), if_pos (by omega)]
  · rw [if_neg (by omega), if_neg (by omega), if_neg (by omega), if_neg (by omega), if_neg (by omega), if_neg (by omega), if_neg (by omega), if_neg (by omega), if_neg (by omega)]
theorem szJ_range (n : Nat) : 3 ≤ szJ n ∧ szJ n ≤ 12 := by
  unfold szJ
  (repeat' split) <;> omega
theorem szJ_le {n : Nat} (h : n ≤ 1365) : 3 * (n : Int) ≤ 2 ^ szJ n := by
  unfold szJ
  (repeat' split) <;> simp only [Int.reducePow] <;> omega
theorem szJ_room {n : Nat} (h : n ≤ 1365) : (n : Int) < 2 * 2 ^ szJ n / 3 := by
  have h1 := szJ_le h
  have h2 := (pow_le (szJ_range n).1).2
  simp only [Int.reducePow] at h2
  omega
def Sh.tidy (S : Sh) : Sh := { row := S.lv.map Prod.fst, held := S.lv.map Prod.snd, born := keptI S.row S.born, cells := layN (szJ S.lv.length) (S.lv.map Prod.fst) S.lv.length, j := szJ S.lv.length, jl := S.jl, com := S.com, goi := S.goi, tid := S.tid + 1, mov := S.mov + (S.lv.length : Nat) }
theorem lvP_nodup : ∀ (row held : List Ky), (∀ (p q : Nat) k, row[p]? = some k → row[q]? = some k → k ≠ .non → p = q) → ((lvP row held).map Prod.fst).Nodup
  | [], _, _ => by simp [lvP]
  | _ :: _, [], _ => by simp [lvP]
  | k :: row, z :: held, nd => by
    have ih := lvP_nodup row held fun p q k h1 h2 n => by
      have := nd (p + 1) (q + 1) k (by simpa using h1) (by simpa using h2) n
      omega
    unfold lvP at ih ⊢
    rw [List.zip_cons_cons, List.filter_cons]
    dsimp only
    split
    · rename_i c
      rw [List.map_cons, List.nodup_cons]
      refine ⟨fun m => ?_, ih⟩
      obtain ⟨p, hp, e⟩ := List.mem_map.mp m
      have m2 : p.1 ∈ row := (lvP_key (r := row) (h := held) hp).1
      dsimp only at e
      rw [e] at m2
      obtain ⟨i, hi⟩ := List.mem_iff_getElem?.mp m2
      have := nd 0 (i + 1) k rfl (by simpa using hi) (of_decide_eq_true c)
      omega
    · exact ih
theorem nodup_at : ∀ {l : List Ky}, l.Nodup → ∀ (p q : Nat) k, l[p]? = some k → l[q]? = some k → p = q
  | [], _, p, q, k, h1, _ => by simp at h1
  | x :: l, h, 0, 0, k, _, _ => rfl
  | x :: l, h, 0, q + 1, k, h1, h2 => by
    simp at h1 h2
    exact absurd (List.mem_of_getElem? h2) (h1 ▸ (List.nodup_cons.mp h).1)
  | x :: l, h, p + 1, 0, k, h1, h2 => by
    simp at h1 h2
    exact absurd (List.mem_of_getElem? h1) (h2 ▸ (List.nodup_cons.mp h).1)
  | x :: l, h, p + 1, q + 1, k, h1, h2 => by
    rw [nodup_at (List.nodup_cons.mp h).2 p q k (by simpa using h1) (by simpa using h2)]
theorem Sh.Ok.tidy {S : Sh} (o : S.Ok) (h : S.lv.length ≤ 1365) : S.tidy.Ok := by
  have hl := o.hl
  have hb := o.bl
  have nn : ∀ k ∈ S.lv.map Prod.fst, k ≠ .non := fun k m => by
    obtain ⟨p, hp, rfl⟩ := List.mem_map.mp m
    exact (lvP_key hp).2.2
  have sub := keptI_sub S.row S.born hb
  refine ⟨?_, ?_, ?_, fun z m => ?_, o.l3, o.l12, ?_, fun n m => ?_, o.c0, ?_⟩
  · show CWf (S.lv.map Prod.fst) (szJ S.lv.length) (layN (szJ S.lv.length) (S.lv.map Prod.fst) S.lv.length)
    have e : S.lv.length = (S.lv.map Prod.fst).length := by rw [List.length_map]
    have c := cwf_laid (ks := S.lv.map Prod.fst) (j := szJ S.lv.length) (szJ_range _).1 (szJ_range _).2 (by rw [List.length_map]; have := szJ_room h; omega) (fun k m => by
      obtain ⟨p, hp, rfl⟩ := List.mem_map.mp m
      exact o.cw.rok _ (lvP_key hp).1) fun p q k h1 h2 _ => nodup_at (lvP_nodup _ _ o.cw.nd) p q k h1 h2
    rw [List.length_map] at c
    exact c
  · show (S.lv.map Prod.snd).length = (S.lv.map Prod.fst).length
    rw [List.length_map, List.length_map]
  · show (keptI S.row S.born).length = (S.lv.map Prod.fst).length
    rw [List.length_map, keptI_len _ _ _ hl hb]
    rfl
  · obtain ⟨p, hp, rfl⟩ := List.mem_map.mp m
    exact o.hv _ (lvP_key hp).2.1
  · exact o.bi.sublist sub
  · exact o.bc n (sub.subset m)
  · show S.com - S.goi = (((S.lv.map Prod.fst).filter fun k => decide (k ≠ .non)).length : Nat)
    rw [List.filter_eq_self.mpr fun k m => decide_eq_true (nn k m), List.length_map, lv_len o]
theorem tidy_lv {S : Sh} : S.tidy.lv = S.lv := by
  show lvP (S.lv.map Prod.fst) (S.lv.map Prod.snd) = S.lv
  unfold lvP
  rw [List.zip_map', List.filter_map]
  have : (S.lv.filter ((fun p : Ky × Ky => decide (p.1 ≠ .non)) ∘ fun x => (x.1, x.2))) = S.lv := List.filter_eq_self.mpr fun p m => decide_eq_true (lvP_key m).2.2
  rw [this]
  simp
theorem tidy_room {S : Sh} (h : S.lv.length ≤ 1365) : S.tidy.full = false := decide_eq_false (by
  show ¬ 2 * 2 ^ szJ S.lv.length / 3 ≤ (((S.lv.map Prod.fst).length : Nat) : Int)
  rw [List.length_map]
  have := szJ_room h
  omega)
theorem tidy_not {S : Sh} {y : Ky} (e : y ∉ S.row) : y ∉ S.tidy.row := fun m => by
  obtain ⟨p, hp, q⟩ := List.mem_map.mp m
  exact lv_not e p hp q
/-- a table's put -/
def Sh.putT (S : Sh) (y z : Ky) : Bool × Sh := match S.find y with
  | some q => (false, S.hold q z)
  | none => if S.full = true then (true, S.tidy.come y z) else (true, S.come y z)
def spRoomT (C : Addr) : Sp := fun vs H Q _ => ∃ a p fp S, vs = [.ref a] ∧ ShAt H C a p fp S ∧ S.lv.length ≤ 1365 ∧ ∀ H' fp', Gr fp H H' → Sub fp' fp H → ShAt H' C a p fp' S.tidy → Q .non H'
theorem len_roomT {C : Addr} {vs H Q E} (h : spRoomT C vs H Q E) : vs.length = 1 := by obtain ⟨_, _, _, _, rfl, _⟩ := h; rfl
def spPutT (C CN : Addr) : Sp := fun vs H Q E => ∃ a p fp S v y u z, vs = [.ref a, v, u] ∧ ShAt H C a p fp S ∧ KyAt H v y ∧ y.fit = true ∧ (within 3 y = true → KeyOk y) ∧ KyAt H u z ∧ HVal z ∧ S.lv.length ≤ 1365 ∧
  (within 3 y = false → E (.ref CN) none H) ∧ (KeyOk y → ∀ H' fp', Gr fp H H' → Sub fp' fp H → ShAt H' C a p fp' (S.putT y z).2 → Q (.bl (S.putT y z).1) H')
theorem len_putT {C CN : Addr} {vs H Q E} (h : spPutT C CN vs H Q E) : vs.length = 3 := by obtain ⟨_, _, _, _, _, _, _, _, rfl, _⟩ := h; rfl
theorem Sh.Ok.putT {S : Sh} (o : S.Ok) {y z : Ky} (yk : KeyOk y) (hz : HVal z) (h : S.lv.length ≤ 1365) : (S.putT y z).2.Ok := by
  unfold Sh.putT
  cases e : S.find y with
  | some q => exact o.hold hz
  | none =>
    have nin := (o.find_none yk.ne_non).mp e
    dsimp only
    by_cases c : S.full = true
    · rw [if_pos c]
      exact (o.tidy h).come yk (tidy_not nin) (tidy_room h) hz
    · rw [if_neg c]
      exact o.come yk nin (by simpa using c) hz
/-- __init__ of a shelf's own part, whatever its class -/
def spInitG (K : PySem.W.Frag) : Sp := fun vs H Q _ => ∃ C a dx j, ShC K C ∧ vs = [.ref a, .int (2 ^ j)] ∧ H a = some (.ins C dx []) ∧ (3 ≤ j ∧ j ≤ 12) ∧ ∀ H' fp, Gr [a] H H' → Sub fp [a] H → ShAt H' C a .no fp (Sh.new j) → Q .non H'
theorem len_initG {K : PySem.W.Frag} {vs H Q E} (h : spInitG K vs H Q E) : vs.length = 2 := by obtain ⟨_, _, _, _, _, rfl, _⟩ := h; rfl
def spInitT (C : Addr) : Sp := fun vs H Q _ => ∃ a dx, vs = [.ref a] ∧ H a = some (.ins C dx []) ∧ ∀ H' fp, Gr [a] H H' → Sub fp [a] H → ShAt H' C a .no fp (Sh.new 3) → Q .non H'
theorem len_initT {C : Addr} {vs H Q E} (h : spInitT C vs H Q E) : vs.length = 1 := by obtain ⟨_, _, rfl, _⟩ := h; rfl
end My
namespace My
open PySem PySem.Spec PyProof.Rows L2
/-! what stands in a law's own list -/
inductive Pay where
  | ks (l : List Ky)
  | vs (l : List V)
  | any
def Pay.at (H : Hp) (ws : List V) : Pay → Prop
  | .ks l => Ky.vals l = true ∧ KysAt H ws l
  | .vs l => ws = l
  | .any => True
theorem Pay.same {H H' : Hp} {ws : List V} (s : Same H H') : ∀ {p : Pay}, p.at H ws → p.at H' ws
  | .ks l, h => ⟨h.1, h.2.same s _ _⟩
  | .vs l, h => h
  | .any, h => h
theorem Pay.keep {H H' : Hp} {ws : List V} {fp : List Addr} (b : But fp H H') (n : NoTup H fp) : ∀ {p : Pay}, p.at H ws → p.at H' ws
  | .ks l, h => ⟨h.1, KysAt.keep b n _ _ h.1 h.2⟩
  | .vs l, h => h
  | .any, h => h
end My
namespace My
open PySem PySem.Spec PyProof.Rows L2
/-! what a law owns: things that stand apart, made since a base that stays -/
abbrev Thing := Hp → List Addr → Prop
structure Good (t : Thing) : Prop where
  ext : ∀ {H H' : Hp} {fp : List Addr}, t H fp → Same H H' → t H' fp
  apart : ∀ {H H' : Hp} {fp fq : List Addr}, t H fp → Gr fq H H' → NoTup H fq → (∀ x ∈ fp, x ∉ fq) → t H' fp
  noTup : ∀ {H : Hp} {fp : List Addr}, t H fp → NoTup H fp
  alloc : ∀ {H : Hp} {fp : List Addr} {x : Addr}, t H fp → Fresh H x → x ∉ fp
structure GW (Hb H : Hp) (ts : List Thing) : Prop where
  sm : Same Hb H
  ex : ∃ fps : List (List Addr), fps.length = ts.length ∧ (∀ (i : Nat) (t : Thing) (fp : List Addr), ts[i]? = some t → fps[i]? = some fp → t H fp ∧ Good t ∧ ∀ x ∈ fp, Fresh Hb x) ∧ ∀ (i j : Nat) (fp fq : List Addr), i ≠ j → fps[i]? = some fp → fps[j]? = some fq → ∀ x ∈ fp, x ∉ fq
/-- data stays -/
def Keeps (H H' : Hp) : Prop := ∀ (v : V) (y : Ky), y.val = true → KyAt H v y → KyAt H' v y
section
variable {Hb H H' : Hp} {ts ts' : List Thing} {t : Thing} {a : Addr}
theorem Keeps.refl : Keeps H H := fun _ _ _ h => h
theorem Keeps.of (s : Same H H') : Keeps H H' := fun v y _ h => h.same s _ _
theorem Keeps.trans {H1 : Hp} (a : Keeps H H1) (b : Keeps H1 H') : Keeps H H' := fun v y d h => b v y d (a v y d h)
theorem Keeps.kys (k : Keeps H H') : ∀ {ks : List Ky} {vs : List V}, Ky.vals ks = true → KysAt H vs ks → KysAt H' vs ks
  | [], _, _, h => by cases h; exact .nil
  | y :: ks, _, g, h => by
    have g' : y.val = true ∧ Ky.vals ks = true := by simpa [Ky.vals] using g
    cases h with
    | cons h t => exact .cons (k _ _ g'.1 h) (Keeps.kys k g'.2 t)
theorem Keeps.gr {fp : List Addr} (gr : Gr fp H H') (n : NoTup H fp) : Keeps H H' := fun v y d h => KyAt.keep gr.keep n y v d h
theorem GW.start (s : Same Hb H) : GW Hb H [] := ⟨s, [], rfl, (fun i t fp e _ => by simp at e), fun i j fp fq _ e _ => by simp at e⟩
theorem GW.ext (g : GW Hb H ts) (s : Same H H') : GW Hb H' ts := by
  obtain ⟨fps, l, h1, h2⟩ := g.ex
  exact ⟨g.sm.trans s, fps, l, fun i t fp e f => let ⟨x, y, z⟩ := h1 i t fp e f; ⟨y.ext x s, y, z⟩, h2⟩
theorem GW.low {H0 : Hp} (g : GW Hb H ts) (s : Same H0 Hb) : GW H0 H ts := by
  obtain ⟨fps, l, h1, h2⟩ := g.ex
  exact ⟨s.trans g.sm, fps, l, fun i t fp e f => let ⟨x, y, z⟩ := h1 i t fp e f; ⟨x, y, fun q m => Same_fresh s (z q m)⟩, h2⟩
theorem GW.fp (g : GW Hb H ts) {i : Nat} (e : ts[i]? = some t) : ∃ (fps : List (List Addr)) (fp : List Addr), fps.length = ts.length ∧ fps[i]? = some fp ∧ t H fp ∧ Good t ∧ (∀ x ∈ fp, Fresh Hb x) ∧ (∀ (i : Nat) (t : Thing) (fp : List Addr), ts[i]? = some t → fps[i]? = some fp → t H fp ∧ Good t ∧ ∀ x ∈ fp, Fresh Hb x) ∧ ∀ (i j : Nat) (fp fq : List Addr), i ≠ j → fps[i]? = some fp → fps[j]? = some fq → ∀ x ∈ fp, x ∉ fq := by
  obtain ⟨fps, l, h1, h2⟩ := g.ex
  have hi := (List.getElem?_eq_some_iff.mp e).1
  have f : fps[i]? = some (fps[i]'(by omega)) := List.getElem?_eq_getElem (by omega)
  obtain ⟨x, y, z⟩ := h1 i t _ e f
  exact ⟨fps, _, l, f, x, y, z, h1, h2⟩
/-- a thing is changed -/
theorem GW.at (g : GW Hb H ts) {i : Nat} (e : ts[i]? = some t) : ∃ fp, t H fp ∧ ∀ H' fp' t', Gr fp H H' → Sub fp' fp H → t' H' fp' → Good t' → GW Hb H' (ts.set i t') ∧ Keeps H H' := by
  obtain ⟨fps, fp, l, f, x, y, z, h1, h2⟩ := g.fp e
  have hi := (List.getElem?_eq_some_iff.mp e).1
  refine ⟨fp, x, fun H' fp' t' gr sb x' y' => ⟨⟨gr.same g.sm z, fps.set i fp', by rw [List.length_set, List.length_set, l], fun j u fq ej fj => ?_, fun j k fq fr n fj fk q mq => ?_⟩, Keeps.gr gr (y.noTup x)⟩⟩
  · rw [List.getElem?_set] at ej fj
    by_cases c : i = j
    · rw [if_pos c, if_pos hi] at ej
      rw [if_pos c, if_pos (by omega)] at fj
      cases ej
      cases fj
      exact ⟨x', y', sb.fresh g.sm z⟩
    · rw [if_neg c] at fj ej
      obtain ⟨a1, a2, a3⟩ := h1 j u fq ej fj
      exact ⟨a2.apart a1 gr (y.noTup x) fun q m => h2 j i fq fp (Ne.symm c) fj f q m, a2, a3⟩
  · rw [List.getElem?_set] at fj fk
    split at fj <;> rename_i c1 <;> split at fk <;> rename_i c2
    · exact absurd (c1.symm.trans c2) n
    · rw [if_pos (by omega)] at fj
      cases fj
      intro m
      rcases sb q mq with m2 | m2
      · exact h2 i k fp fr c2 f fk q m2 m
      · have hk : k < ts.length := by rw [← l]; exact (List.getElem?_eq_some_iff.mp fk).1
        obtain ⟨a1, a2, -⟩ := h1 k _ fr (List.getElem?_eq_getElem hk) fk
        exact a2.alloc a1 m2 m
    · rw [if_pos (by omega)] at fk
      cases fk
      intro m
      rcases sb q m with m2 | m2
      · exact h2 i j fp fq c1 f fj q m2 mq
      · have hj : j < ts.length := by rw [← l]; exact (List.getElem?_eq_some_iff.mp fj).1
        obtain ⟨a1, a2, -⟩ := h1 j _ fq (List.getElem?_eq_getElem hj) fj
        exact a2.alloc a1 m2 mq
    · exact h2 j k fq fr n fj fk q mq
theorem GW.is (g : GW Hb H ts) {i : Nat} (e : ts[i]? = some t) : ∃ fp, t H fp := by
  obtain ⟨fp, h, -⟩ := g.at e
  exact ⟨fp, h⟩
/-- a thing more -/
theorem GW.new (g : GW Hb H ts) {fp : List Addr} (s : Same H H') (h : t H' fp) (f : ∀ x ∈ fp, Fresh H x) (gd : Good t) : GW Hb H' (ts ++ [t]) := by
  obtain ⟨fps, l, h1, h2⟩ := g.ex
  have far : ∀ (j : Nat) (fq : List Addr), fps[j]? = some fq → ∀ x ∈ fq, ¬ Fresh H x := fun j fq e x m fx => by
    have hj : j < ts.length := by rw [← l]; exact (List.getElem?_eq_some_iff.mp e).1
    obtain ⟨a1, a2, -⟩ := h1 j _ fq (List.getElem?_eq_getElem hj) e
    exact a2.alloc a1 fx m
  refine ⟨g.sm.trans s, fps ++ [fp], by rw [List.length_append, List.length_append, l]; rfl, fun j u fq ej fj => ?_, fun j k fq fr n fj fk q mq mr => ?_⟩
  · rcases snoc_at ej with e1 | ⟨e1, rfl⟩
    · obtain ⟨a1, a2, a3⟩ := h1 j u fq e1 (snoc_old fj (by rw [l]; exact (List.getElem?_eq_some_iff.mp e1).1))
      exact ⟨a2.ext a1 s, a2, a3⟩
    · rw [snoc_new fj (by omega)]
      exact ⟨h, gd, fun x m => Same_fresh g.sm (f x m)⟩
  · rcases snoc_at fj with e1 | ⟨e1, rfl⟩ <;> rcases snoc_at fk with e2 | ⟨e2, rfl⟩
    · exact h2 j k fq fr n e1 e2 q mq mr
    · exact far j fq e1 q mq (f q mr)
    · exact far k fr e2 q mr (f q mq)
    · omega
theorem GW.base (g : GW Hb H ts) {l : Addr} {o : HO} (fl : Fresh H l) : GW (upd Hb l o) (upd H l o) ts := by
  have s := Same_upd (o := o) (Same.refl H) fl
  obtain ⟨fps, ln, h1, h2⟩ := g.ex
  refine ⟨fun b u q => ?_, fps, ln, fun i t fp e f => ?_, h2⟩
  · by_cases c : b = l
    · rw [c, upd_same] at q
      rw [c, upd_same]
      exact q
    · rw [upd_ne c] at q
      rw [upd_ne c]
      exact g.sm _ _ q
  · obtain ⟨x, y, z⟩ := h1 i t fp e f
    refine ⟨y.ext x s, y, fun q m => ?_⟩
    have n : q ≠ l := fun e => y.alloc x fl (by rw [← e]; exact m)
    unfold Fresh
    rw [upd_ne n]
    exact z q m
/-- the last thing forgotten -/
theorem GW.pop (g : GW Hb H (ts ++ [t])) : GW Hb H ts := by
  obtain ⟨fps, l, h1, h2⟩ := g.ex
  rw [List.length_append, List.length_singleton] at l
  have tk : ∀ (i : Nat) (fp : List Addr), (fps.take ts.length)[i]? = some fp → i < ts.length ∧ fps[i]? = some fp := fun i fp e => by
    have hi := (List.getElem?_eq_some_iff.mp e).1
    rw [List.length_take] at hi
    rw [List.getElem?_take_of_lt (by omega)] at e
    exact ⟨by omega, e⟩
  refine ⟨g.sm, fps.take ts.length, by rw [List.length_take]; omega, fun i u fp e f => ?_, fun i j fp fq n e f => h2 i j fp fq n (tk i fp e).2 (tk j fq f).2⟩
  exact h1 i u fp (by rw [List.getElem?_append_left (tk i fp f).1]; exact e) (tk i fp f).2
end
/-! things -/
def shT (C a : Addr) (S : Sh) : Thing := fun H fp => ShAt H C a .no fp S
theorem shT_good {C a : Addr} {S : Sh} : Good (shT C a S) := ⟨fun h s => ShAt.ext h s, fun h f n d => ShAt.apart h f n d, fun h => ShAt.noTup h, fun h f => ShAt.alloc h f⟩
def lstT (a : Addr) (p : Pay) : Thing := fun H fp => fp = [a] ∧ ∃ ws, H a = some (.lst ws) ∧ p.at H ws
theorem lstT_good {a : Addr} {p : Pay} : Good (lstT a p) where
  ext := by
    rintro H H' fp ⟨rfl, ws, e, h⟩ s
    exact ⟨rfl, ws, s _ _ e, Pay.same s h⟩
  apart := by
    rintro H H' fp fq ⟨rfl, ws, e, h⟩ f n d
    exact ⟨rfl, ws, f.keep _ _ e (d a (by simp)), Pay.keep f.keep n h⟩
  noTup := by
    rintro H fp ⟨rfl, ws, e, h⟩
    exact noTup_one e fun _ z => by cases z
  alloc := by
    rintro H fp x ⟨rfl, ws, e, h⟩ f m
    rw [List.mem_singleton] at m
    rw [m] at f
    exact f.ne e rfl
theorem mixO_nt {w : World} {a : Addr} {ks : List Ky} {us vs : List V} : ∀ xs, mixO w a ks us vs ≠ .tup xs := fun _ z => by cases z
theorem MixAt.same {w : World} {H H' : Hp} {a : Addr} {ks : List Ky} {vs : List V} (m : MixAt w H a ks vs) (s : Same H H') : MixAt w H' a ks vs := by
  obtain ⟨us, e, h⟩ := m.ex
  exact ⟨⟨us, s _ _ e, h.same s _ _⟩, m.nd, m.key, m.len⟩
theorem MixAt.vals {w : World} {H : Hp} {a : Addr} {ks : List Ky} {vs : List V} (m : MixAt w H a ks vs) : Ky.vals ks = true := vals_iff.mpr fun k q => (m.key k q).1
def mixT (w : World) (a : Addr) (ks : List Ky) (p : Pay) : Thing := fun H fp => fp = [a] ∧ ∃ vs, MixAt w H a ks vs ∧ p.at H vs
theorem mixT_good {w : World} {a : Addr} {ks : List Ky} {p : Pay} : Good (mixT w a ks p) where
  ext := by
    rintro H H' fp ⟨rfl, vs, m, h⟩ s
    exact ⟨rfl, vs, m.same s, Pay.same s h⟩
  apart := by
    rintro H H' fp fq ⟨rfl, vs, m, h⟩ f n d
    obtain ⟨us, e, hu⟩ := m.ex
    exact ⟨rfl, vs, ⟨⟨us, f.keep _ _ e (d a (by simp)), KysAt.keep f.keep n _ _ m.vals hu⟩, m.nd, m.key, m.len⟩, Pay.keep f.keep n h⟩
  noTup := by
    rintro H fp ⟨rfl, vs, m, h⟩
    obtain ⟨us, e, hu⟩ := m.ex
    exact noTup_one e mixO_nt
  alloc := by
    rintro H fp x ⟨rfl, vs, m, h⟩ f q
    obtain ⟨us, e, hu⟩ := m.ex
    rw [List.mem_singleton] at q
    rw [q] at f
    exact f.ne e rfl
section
variable {Hb H H' : Hp} {ts ts' : List Thing} {t : Thing} {a C : Addr} {i : Nat} {p p' : Pay} {w : World} {ks ks' : List Ky} {S : Sh}
theorem gr_one {o : HO} : Gr [a] H (upd H a o) := Gr.refl.put (by simp)
theorem GW.lst (g : GW Hb H ts) (e : ts[i]? = some (lstT a p)) : ∃ ws, H a = some (.lst ws) ∧ p.at H ws := by
  obtain ⟨fp, -, h⟩ := g.is e
  exact h
theorem GW.lput (g : GW Hb H ts) (e : ts[i]? = some (lstT a p)) {ws : List V} (h : p'.at H ws) : GW Hb (upd H a (.lst ws)) (ts.set i (lstT a p')) ∧ Keeps H (upd H a (.lst ws)) := by
  obtain ⟨fp, ⟨rfl, us, e1, -⟩, st⟩ := g.at e
  exact st _ [a] _ gr_one Sub.refl ⟨rfl, ws, upd_same, Pay.keep gr_one.keep (noTup_one e1 fun _ z => by cases z) h⟩ lstT_good
theorem GW.mix (g : GW Hb H ts) (e : ts[i]? = some (mixT w a ks p)) : ∃ vs, MixAt w H a ks vs ∧ p.at H vs := by
  obtain ⟨fp, -, h⟩ := g.is e
  exact h
theorem GW.mput (g : GW Hb H ts) (e : ts[i]? = some (mixT w a ks p)) {o : HO} {vs : List V} (m : MixAt w (upd H a o) a ks' vs) (h : p'.at H vs) : GW Hb (upd H a o) (ts.set i (mixT w a ks' p')) ∧ Keeps H (upd H a o) := by
  obtain ⟨fp, ⟨rfl, us, m0, -⟩, st⟩ := g.at e
  obtain ⟨u0, e0, -⟩ := m0.ex
  exact st _ [a] _ gr_one Sub.refl ⟨rfl, vs, m, Pay.keep gr_one.keep (noTup_one e0 mixO_nt) h⟩ mixT_good
theorem GW.sh (g : GW Hb H ts) (e : ts[i]? = some (shT C a S)) : ∃ fp, ShAt H C a .no fp S ∧ ∀ H' fp' S', Gr fp H H' → Sub fp' fp H → ShAt H' C a .no fp' S' → GW Hb H' (ts.set i (shT C a S')) ∧ Keeps H H' := by
  obtain ⟨fp, h, st⟩ := g.at e
  exact ⟨fp, h, fun H' fp' S' gr sb h' => st H' fp' _ gr sb h' shT_good⟩
theorem GW.newL (g : GW Hb H ts) (f : Fresh H a) {ws : List V} (h : p.at H ws) : GW Hb (upd H a (.lst ws)) (ts ++ [lstT a p]) :=
  g.new (Same_upd (Same.refl H) f) ⟨rfl, ws, upd_same, Pay.same (Same_upd (Same.refl H) f) h⟩ (fun x m => by rw [List.mem_singleton] at m; rw [m]; exact f) lstT_good
theorem GW.newM (g : GW Hb H ts) (f : Fresh H a) {o : HO} (m : MixAt w (upd H a o) a [] []) (h : p.at H []) : GW Hb (upd H a o) (ts ++ [mixT w a [] p]) :=
  g.new (Same_upd (Same.refl H) f) ⟨rfl, [], m, Pay.same (Same_upd (Same.refl H) f) h⟩ (fun x q => by rw [List.mem_singleton] at q; rw [q]; exact f) mixT_good
theorem GW.newS (g : GW Hb H ts) {fp : List Addr} (s : Same H H') (h : ShAt H' C a .no fp S) (f : ∀ x ∈ fp, Fresh H x) : GW Hb H' (ts ++ [shT C a S]) := g.new s h f shT_good
end
section
variable {w : World} {H : Hp} {Q : VK} {v : V} {k : Ky} {d : Addr} {ks : List Ky} {vs : List V}
theorem in_mix (m : MixAt w H d ks vs) (h : KyAt H v k) (mk : MKey k) (q : Q (.bl (decide (k ∈ ks))) H) : rInM w v (.ref d) H Q := ⟨k, d, ks, vs, rfl, h, mk, m, q⟩
theorem notin_mix (m : MixAt w H d ks vs) (h : KyAt H v k) (mk : MKey k) (q : Q (.bl (!decide (k ∈ ks))) H) : rNotInM w v (.ref d) H Q := ⟨k, d, ks, vs, rfl, h, mk, m, q⟩
theorem rd_mm {r : V → List V → Hp → VK → Prop} {to : TE} {t : TA} {σ : L2.St} : tMM w r to t σ H Q = to σ H fun x H1 => IsMix w H1 x ∧ t σ H1 fun xs H2 => r x xs H2 Q := rfl
theorem rd_mm0 {r : V → List V → Hp → VK → Prop} {to : TE} {σ : L2.St} : tMM0 w r to σ H Q = to σ H fun x H1 => IsMix w H1 x ∧ r x [] H1 Q := rfl
theorem rd_dnewM {σ : L2.St} : tDNewM w σ H Q = ∀ p o, Fresh H p → MixAt w (upd H p o) p [] [] → Q (.ref p) (upd H p o) := rfl
end
section
variable {X : Cx}
theorem op_inMK (w : World) (e : X.w = w) (hu : X.A.units + 65 < cLine) : OpR X (compareOp .In) (rInM w) := e ▸ op_inM hu
theorem op_notInMK (w : World) (e : X.w = w) (hu : X.A.units + 65 < cLine) : OpR X (compareOp .NotIn) (rNotInM w) := e ▸ op_notInM hu
theorem ix_mixK (w : World) (e : X.w = w) (hu : X.A.units + 65 < cLine) : IxR X (rIxM w) := e ▸ ix_mix hu
theorem set_mixK (w : World) (e : X.w = w) (hu : X.A.units + 65 < cLine) : PSet X (rSetM w) := e ▸ set_mix hu
theorem call_lenMK (w : World) (e : X.w = w) : CallR X (.builtin "len") (rLenM w) := e ▸ call_lenM
theorem call_listMK (w : World) (e : X.w = w) (hc : X.calm = true) : CallR X (.type "list") (rListM w) := e ▸ call_listM hc
theorem pe_dnewMK (w : World) (e : X.w = w) {pos : Pos} : PE X (.Dict [] [] pos) (tDNewM w) := e ▸ pe_dnewM
variable {o e : Expr} {to : TE} {t : TA} {apos cpos : Pos}
theorem pe_popM (w : World) (ew : X.w = w) (hu : X.A.units + 65 < cLine) (ho : PE X o to) (ha : PA X [e] t)
    (hbase : attributeBase o "pop" X.env (eval o X.env) = eval o X.env := by rfl) (hline : (apos.endLine == cpos.line) = true := by rfl) (hs : starEach [e] X.env = [(false, eval e X.env)] := by rfl) :
    PE X (.Call (.Attribute o "pop" apos) [e] [] cpos) (tMM w (rPopM w) to t) := by
  subst ew
  exact pe_mm PySem.F.slot_dict_pop PySem.F.type_dict_pop (mt_popM hu) ho ha hbase hline hs
theorem pe_getM (w : World) (ew : X.w = w) (hu : X.A.units + 65 < cLine) (ho : PE X o to) (ha : PA X [e] t)
    (hbase : attributeBase o "get" X.env (eval o X.env) = eval o X.env := by rfl) (hline : (apos.endLine == cpos.line) = true := by rfl) (hs : starEach [e] X.env = [(false, eval e X.env)] := by rfl) :
    PE X (.Call (.Attribute o "get" apos) [e] [] cpos) (tMM w (rGetM w) to t) := by
  subst ew
  exact pe_mm PySem.F.slot_dict_get PySem.F.type_dict_get (mt_getM hu) ho ha hbase hline hs
theorem pe_clearM (w : World) (ew : X.w = w) (ho : PE X o to)
    (hbase : attributeBase o "clear" X.env (eval o X.env) = eval o X.env := by rfl) (hline : (apos.endLine == cpos.line) = true := by rfl) : PE X (.Call (.Attribute o "clear" apos) [] [] cpos) (tMM0 w (rClearM w) to) := by
  subst ew
  exact pe_mm0 PySem.F.slot_dict_clear PySem.F.type_dict_clear mt_clearM ho hbase hline
end
/-! an object of one of two classes -/
def tOr2 (t1 t2 : TE) : TE := fun σ H Q => t1 σ H Q ∨ t2 σ H Q
theorem pe_or {X : Cx} {e : Expr} {t1 t2 : TE} (h1 : PE X e t1) (h2 : PE X e t2) : PE X e (tOr2 t1 t2) := ⟨fun pins s σ H Q I h => h.elim (h1.run pins s σ H Q I) (h2.run pins s σ H Q I)⟩
theorem rd_or2 {t1 t2 : TE} {σ : L2.St} {H : Hp} {Q : VK} : tOr2 t1 t2 σ H Q = (t1 σ H Q ∨ t2 σ H Q) := rfl
theorem GW.lstv {Hb H : Hp} {ts : List Thing} {i : Nat} {a : Addr} {vs : List V} (g : GW Hb H ts) (e : ts[i]? = some (lstT a (.vs vs))) : H a = some (.lst vs) := by
  obtain ⟨us, h, eu⟩ := g.lst e
  cases (show us = _ from eu)
  exact h
theorem GW.lputv {Hb H : Hp} {ts : List Thing} {i : Nat} {a : Addr} {vs us : List V} (g : GW Hb H ts) (e : ts[i]? = some (lstT a (.vs vs))) : GW Hb (upd H a (.lst us)) (ts.set i (lstT a (.vs us))) ∧ Keeps H (upd H a (.lst us)) := g.lput (p' := .vs us) (ws := us) e rfl
end My
namespace My
open PySem PySem.Spec PyProof.Rows L2
/-! numbers of so many bits: what the script may hold, and what is made of it -/
def Bd (e : Nat) (n : Int) : Prop := ∃ b, b ≤ 1048576 + e ∧ n.natAbs < 2 ^ b
theorem Bd.mono {e f : Nat} {n : Int} (h : Bd e n) (l : e ≤ f) : Bd f n := let ⟨b, h1, h2⟩ := h; ⟨b, by omega, h2⟩
theorem Bd.of_bits {n : Int} (h : Builtin.Int.intBits n ≤ 1048576) : Bd 0 n := by
  refine ⟨Builtin.Int.intBits n, h, ?_⟩
  unfold Builtin.Int.intBits
  by_cases c : n = 0
  · rw [c]
    simp
  · rw [if_neg (by simpa using c)]
    exact Nat.lt_log2_self
theorem Bd.zero {e : Nat} : Bd e 0 := ⟨0, Nat.zero_le _, by simp⟩
theorem abs_div (n : Int) {k : Int} (h : 0 < k) : (n / k).natAbs ≤ n.natAbs := by
  by_cases c : 0 ≤ n
  · have h1 := Int.ediv_nonneg c (Int.le_of_lt h)
    have h2 := Int.ediv_le_self k c
    omega
  · have h1 : n / k < 0 := Int.ediv_neg_of_neg_of_pos (by omega) h
    have h2 : n ≤ n / k := by
      rw [Int.le_ediv_iff_mul_le h]
      have := Int.mul_le_mul_of_nonpos_left (a := n) (b := k) (c := 1) (by omega) (by omega)
      omega
    omega
theorem Bd.div {e : Nat} {n k : Int} (h : Bd e n) (p : 0 < k) : Bd e (n / k) := by
  obtain ⟨b, h1, h2⟩ := h
  exact ⟨b, h1, Nat.lt_of_le_of_lt (abs_div n p) h2⟩
theorem Bd.add {e : Nat} {n c : Int} (h : Bd e n) (p : c.natAbs ≤ 1000) : Bd (e + 1) (n + c) := by
  obtain ⟨b, h1, h2⟩ := h
  refine ⟨max b 10 + 1, by omega, ?_⟩
  have p1 : 2 ^ b ≤ 2 ^ (max b 10) := Nat.pow_le_pow_right (by decide) (by omega)
  have p2 : 2 ^ 10 ≤ 2 ^ (max b 10) := Nat.pow_le_pow_right (by decide) (by omega)
  have p3 : (2 : Nat) ^ 10 = 1024 := by decide
  rw [Nat.pow_succ]
  generalize 2 ^ (max b 10) = z at p1 p2 ⊢
  omega
theorem Bd.bits {e b : Nat} {n : Int} (h : n.natAbs < 2 ^ b) : Builtin.Int.intBits n ≤ b := by
  unfold Builtin.Int.intBits
  by_cases c : n = 0
  · rw [c]
    simp
  · rw [if_neg (by simpa using c)]
    have : n.natAbs ≠ 0 := by omega
    exact (Nat.log2_lt this).mpr h
theorem Bd.mul {e : Nat} {n c : Int} (h : Bd e n) (l : e ≤ 1000) (p : c.natAbs < 2 ^ 1000) : IntMulOk n c := by
  obtain ⟨b, h1, h2⟩ := h
  have b1 := Bd.bits (e := e) h2
  have b2 := Bd.bits (e := e) p
  unfold IntMulOk Builtin.Int.intTooBig bitsLine
  have e27 : (2 : Nat) ^ 27 = 134217728 := by decide
  rw [e27]
  simp
  intro _ _
  omega
def spLawB (K : PySem.W.Frag) : Sp := fun vs H Q _ => ∃ (a : Addr) (ns : List Int), vs = [.ref a] ∧ SqL K H a (ns.map V.int) ∧ ns.length ≤ 63 ∧ (∀ n ∈ ns, Bd 0 n) ∧ ∀ H', Q (.bl true) H'
theorem len_lawB {K : PySem.W.Frag} {vs H Q E} (h : spLawB K vs H Q E) : vs.length = 1 := by obtain ⟨_, _, rfl, _⟩ := h; rfl
theorem getI_bd {ns : List Int} (h : ∀ n ∈ ns, Bd 0 n) (i : Int) : Bd 0 (getI ns i) := by
  unfold getI
  rw [List.getD_eq_getElem?_getD]
  cases e : ns[i.toNat]? with
  | none => exact Bd.zero
  | some x => exact h x (List.mem_of_getElem? e)
end My
namespace My
open PySem PySem.Spec PyProof.Rows L2
/-! o.m(k = v, ..): a method called with keywords alone -/
section
variable {X : Cx} {CXq : CXT} {lv : Nat} {fa Cl : Addr} {fdat : FuncData} {pars ks : List Str} {prom : Sp} {Ex : XK} {nm : Str} {g : List Value → List Value → List Value} {gV : List V → List V → List V}
def tMethK (Cl : Addr) (nm : Str) (m : Nat) (prom : Sp) (gV : List V → List V → List V) (Ex : XK) (to : TE) (tk : TA) : TE := fun σ H Q => to σ H fun x H1 => isRef x fun a => MetAt H1 a Cl nm ∧ tk σ H1 fun zs H2 => zs.length = m ∧ prom (gV [.ref a] zs) H2 Q Ex
theorem pe_methK {ob : Expr} {to : TE} {tk : TA} {kws : List Keyword} {apos pos : Pos} {pl : Sem Bool} (ho : PE X ob to) (kc : Cls X.K Cl) (km : Meth X.K Cl nm fa) (ok : FnOk X.prog X.w X.K X.mg X.base CXq lv fa fdat pars prom) (room : Room lv X.A)
    (kb : KBn X.K fdat pars 1 ks g gV) (ps : Passes CXq X Ex) (hk : PK X kws tk)
    (hall : (backToKw pos (keywordEach kws X.env)).all (·.1.isSome) = true := by rfl) (hks : (backToKw pos (keywordEach kws X.env)).filterMap (·.1) = ks := by rfl)
    (hpl : ((backTo pos (starEach [] X.env)).any (·.1) || (backToKw pos (keywordEach kws X.env)).any (·.1.isNone)) = false := by rfl)
    (h3 : eval (.Call (.Attribute ob nm apos) [] kws pos) X.env = (do
      let ov ← eval ob X.env
      standAt apos.atName
      let (g, bound) ← holding [ov] (getMethod ov nm pl)
      callWith pos g bound (backTo pos (starEach [] X.env)) (backToKw pos (keywordEach kws X.env))) := by rfl) :
    PE X (.Call (.Attribute ob nm apos) [] kws pos) (tMethK Cl nm ks.length prom gV Ex to tk) := by
  refine ⟨fun pins s σ H Q I h => PySem.W.methodCall_KW (pl := pl) (thn (ho.run pins s σ H _ I h) fun u1 s1 hq => ?_) h3⟩
  obtain ⟨xv, H1, I1, rel, hx⟩ := hq
  unfold isRef at hx
  split at hx
  case h_2 => exact hx.elim
  rename_i a
  obtain ⟨⟨dx, fs, e, l⟩, hz⟩ := hx
  have : u1 = Value.ref a := rel
  subst this
  refine getmeth_ok I1 e kc km l (PySem.W.callWith_KW0 (h₀ := X.base) (first := [.ref a]) I.ok.mod.kin km.kp hall ?_ hpl)
  refine thn (hk.run pos pins s1 σ H1 _ I1 hz) fun ws s2 hw => ?_
  obtain ⟨zs, H2, I2, rz, l2, q2⟩ := hw
  refine ⟨I2.kIn, ?_⟩
  rw [hks]
  exact run_fnN (us := [.ref a]) (vs := [.ref a]) ok room kb ps I2 (.cons rfl .nil) rz rfl l2 q2
theorem rd_methK {Cl : Addr} {nm : Str} {m : Nat} {prom : Sp} {gV : List V → List V → List V} {Ex : XK} {to : TE} {tk : TA} {σ : L2.St} {H : Hp} {Q : VK} : tMethK Cl nm m prom gV Ex to tk σ H Q = to σ H fun x H1 => isRef x fun a => MetAt H1 a Cl nm ∧ tk σ H1 fun zs H2 => zs.length = m ∧ prom (gV [.ref a] zs) H2 Q Ex := rfl
end
end My
namespace My
open PySem PySem.Spec PyProof.Rows L2
/-! exceptions as values of the layer: tracked from the except clause on that catches them -/
def ExcO (C a : Addr) : HO := .ext fun h => ∃ (oe : Obj) (vs : Array Value), h.get? a = some oe ∧ L2N.Zn (.ref C) none oe ∧ oe.data = .fields vs
section
variable {X : Cx} {pins : List (Addr × Obj)} {σ : L2.St} {H : Hp} {s sI : Shared} {a C : Addr} {o : HO} {oe : Obj} {vs : Array Value} {B : Heap} {cls : Value} {d : Option Addr}
theorem excO_ok {h : Heap} (e : h.get? a = some oe) (z : L2N.Zn (.ref C) none oe) (f : oe.data = .fields vs) : ObjOk X.prog X.w H h a (ExcO C a) :=
  ⟨⟨oe, vs, e, z, f⟩, ⟨oe, e⟩, fun _ _ ⟨o1, v1, e1, r⟩ k => ⟨o1, v1, k _ e1, r⟩⟩
/-- an object newer than the def's start is tracked from here on -/
theorem track_new (I : Inv X pins σ H s) (na : H a = none) (s0 : X.s_0.heap.get? a = none) (nL : a ≠ X.env.locals) (nC : ∀ x c, X.env.cells.lookup x = some c → c ≠ a) (np : ∀ p ∈ X.pn ++ pins, p.1 ≠ a) (ok : ObjOk X.prog X.w (upd H a o) s.heap a o) : Inv X pins σ (upd H a o) s := by
  have oth : ∀ b, b ≠ a → upd H a o b = H b := fun b n => upd_ne n
  have old : ∀ b u, H b = some u → upd H a o b = some u := fun b u e => (oth b (ne_of_none e na)).trans e
  exact {
    ok := I.ok, os := I.os, bare := I.bare, loc := I.loc, cell := I.cell, len := I.len
    base := { keep := I.base.keep, slot := I.base.slot, there := I.base.there
              free := fun b ob e n hx => (oth b fun q => by rw [q, s0] at e; cases e).trans (I.base.free b ob e n hx)
              tups := fun b xs e => old _ _ (I.base.tups b xs e)
              frzs := fun b ob u e => old _ _ (I.base.frzs b ob u e)
              tbls := fun b ps e => (I.base.tbls b ps e).imp fun _ q => old _ _ q }
    free := (oth _ (Ne.symm nL)).trans I.free
    freeC := fun x c e => (oth _ (nC x c e)).trans (I.freeC x c e)
    pin := fun p m => ⟨(I.pin p m).1, (oth _ (np p m)).trans (I.pin p m).2.1, (I.pin p m).2.2⟩
    hok := fun b u e => by
      by_cases q : b = a
      · rw [q, upd_same] at e
        rw [q, ← Option.some.inj e]
        exact ok
      · rw [oth b q] at e
        exact (I.hok b u e).stay (fun _ _ _ z => z) (fun c z => old _ _ z) fun c xs z => old _ _ z }
/-- the exception at a has come down to the frame of X; sI: the state without it -/
structure Air (X : Cx) (pins : List (Addr × Obj)) (a : Addr) (B : Heap) (sI : Shared) (cls : Value) (d : Option Addr) (σ : L2.St) (H : Hp) (s : Shared) : Prop where
  inv : Inv X pins σ H sI
  gr : ∀ b o, sI.heap.get? b = some o → b ∉ frs X.stack → B.get? b = some o
  up : sI.heap.UpToSlots s.heap
  fl : HandSPX.FlyingZ B (X.env :: X.outer) a (L2N.Zn cls d) s.heap
  na : H a = none
  os : s.os = sI.os
  ag : AllBare s.gens
theorem Air.to (w : Air X pins a B sI cls d σ H s) {h : Heap} (f : HandSPX.FlyingZ B (X.env :: X.outer) a (L2N.Zn cls d) h) (u : s.heap.UpToSlots h) : Air X pins a B sI cls d σ H { s with heap := h } :=
  ⟨w.inv, w.gr, w.up.trans u, f, w.na, w.os, w.ag⟩
theorem Air.here (w : Air X pins a B sI cls d σ H s) : Inv X pins σ H s := w.inv.landed w.gr w.fl.1 w.up w.os w.ag
theorem Air.frame (w : Air X pins a B sI cls d σ H s) : a ∉ frs (X.env :: X.outer) := fun m => by
  obtain ⟨o1, v1, e1, -, f1⟩ := w.fl.there
  obtain ⟨-, o2, e2, n2⟩ := w.fl.2.2.1.mem m
  rw [e1] at e2
  exact n2 v1 (Option.some.inj e2 ▸ f1)
theorem Air.new (w : Air X pins a B sI cls d σ H s) (hs : X.stack = X.env :: X.outer) : sI.heap.get? a = none := by
  cases q : sI.heap.get? a with
  | none => rfl
  | some o =>
    have := w.gr a o q (by rw [hs]; exact w.frame)
    rw [w.fl.2.1] at this
    cases this
/-- tracked -/
theorem Air.track (w : Air X pins a B sI (.ref C) none σ H s) (hs : X.stack = X.env :: X.outer) (hf : X.env.frame = some X.env.locals) (hx : X.ex = []) : Inv X pins σ (upd H a (ExcO C a)) s := by
  have new := w.new hs
  have not : ∀ b o, sI.heap.get? b = some o → b ≠ a := fun b o e q => by rw [q, new] at e; cases e
  obtain ⟨oe, vs, e, z, f⟩ := w.fl.there
  refine track_new w.here w.na ?_ (fun q => w.frame (List.mem_filterMap.mpr ⟨X.env, List.mem_cons_self, by rw [hf, q]⟩)) (fun x c l => ?_) (fun p m => not _ _ (w.inv.pin p m).1) (excO_ok e z f)
  · cases q : X.s_0.heap.get? a with
    | none => rfl
    | some o =>
      obtain ⟨o2, e2⟩ := w.inv.base.there a o q (by rw [hx]; exact List.not_mem_nil)
      exact absurd rfl (not a o2 e2)
  · obtain ⟨v, o, e2, -⟩ := w.inv.cell x c l
    exact not c o e2
/-- into the suite's context, and back -/
theorem into_suite (I : Inv X pins σ H s) : Inv (X.suite a (X.pn ++ pins)) [] σ H s :=
  { ok := I.ok.suite _ _, os := I.os, bare := I.bare, base := I.base, loc := I.loc, cell := I.cell, free := I.free, freeC := I.freeC, hok := I.hok, len := I.len, pin := fun p m => I.pin p (by simpa using m) }
theorem out_suite (I : Inv (X.suite a (X.pn ++ pins)) [] σ H s) (ok : X.Ok) : Inv X pins σ H s :=
  { ok := ok, os := I.os, bare := I.bare, base := I.base, loc := I.loc, cell := I.cell, free := I.free, freeC := I.freeC, hok := I.hok, len := I.len, pin := fun p m => I.pin p (List.mem_append_left _ m) }
end
/-! the clauses -/
abbrev Clause := Value × Option Nat × (Addr → TS)
def setSl (sl : Option Nat) (a : Addr) (σ : L2.St) : L2.St := match sl with
  | none => σ
  | some i => σ.set i (some (.ref a))
def clrSl (sl : Option Nat) (σ : L2.St) : L2.St := match sl with
  | none => σ
  | some i => σ.set i none
def endSl (sl : Option Nat) (D : Ends) : Ends := { nx := fun σ H => D.nx (clrSl sl σ) H, rt := D.rt, bk := fun σ H => D.bk (clrSl sl σ) H, ct := fun σ H => D.ct (clrSl sl σ) H }
def wT (K : PySem.W.Frag) (Wo : WX) (D : Ends) : List Clause → WX
  | [] => Wo
  | (c, sl, ts) :: r => fun cls d σ H => ∃ b, PySem.W.exmOne K cls c = some b ∧ (b = true → ∃ C, cls = .ref C ∧ d = none ∧ ∀ a, H a = none → ts a (endSl sl D) (setSl sl a σ) (upd H a (ExcO C a))) ∧ (b = false → wT K Wo D r cls d σ H)
def NameAt (X : Cx) (nm : Option Str) (sl : Option Nat) : Prop := match nm, sl with
  | none, none => True
  | some n, some i => X.N[i]? = some n ∧ X.env.kindOf n = some .local
  | _, _ => False
inductive HdsT (X : Cx) : List ExceptHandler → List Clause → Prop
  | nil : HdsT X [] []
  | cons {x : Str} {c : Value} {nm : Option Str} {sl : Option Nat} {ts : Addr → TS} {b0 : Stmt} {su : List Stmt} {np p2 : Pos} {hds : List ExceptHandler} {l : List Clause} (hc : Names X x c) (hn : NameAt X nm sl)
      (hsu : ∀ (a : Addr) (pn : List (Addr × Obj)), PSs (X.suite a pn) (b0 :: su) (ts a)) (r : HdsT X hds l) : HdsT X (.ExceptHandler (some (.Name x np)) nm (b0 :: su) p2 :: hds) ((c, sl, ts) :: l)
section
variable {X : Cx} {pins : List (Addr × Obj)} {σ : L2.St} {H : Hp} {s sI : Shared} {a : Addr} {B : Heap} {cls : Value} {d : Option Addr} {D : Ends}
/-- a flow's end, seen from behind the suite -/
theorem sp_out {X1 : Cx} {f : Flow} {E1 : Ends} {q : Shared → Prop} (sp : SP X1 [] E1 f s) (nx : ∀ σ H, Inv X1 [] σ H s → (E1.nx σ H → q s) ∧ (E1.bk σ H → q s) ∧ (E1.ct σ H → q s) ∧ ∀ u v, RelV v u → E1.rt v H → q s) : q s := by
  cases f with
  | next => obtain ⟨σ1, H1, I1, z⟩ := sp; exact (nx σ1 H1 I1).1 z
  | brk => obtain ⟨σ1, H1, I1, z⟩ := sp; exact (nx σ1 H1 I1).2.1 z
  | cont => obtain ⟨σ1, H1, I1, z⟩ := sp; exact (nx σ1 H1 I1).2.2.1 z
  | ret u => obtain ⟨v, σ1, H1, I1, rv, z⟩ := sp; exact (nx σ1 H1 I1).2.2.2 u v rv z
theorem suite_none {f : Flow} (ok : X.Ok) (sp : SP (X.suite a (X.pn ++ pins)) [] (endSl none D) f s) : SP X pins D f s := by
  cases f with
  | next => obtain ⟨σ1, H1, I1, z⟩ := sp; exact ⟨σ1, H1, out_suite I1 ok, z⟩
  | brk => obtain ⟨σ1, H1, I1, z⟩ := sp; exact ⟨σ1, H1, out_suite I1 ok, z⟩
  | cont => obtain ⟨σ1, H1, I1, z⟩ := sp; exact ⟨σ1, H1, out_suite I1 ok, z⟩
  | ret u => obtain ⟨v, σ1, H1, I1, rv, z⟩ := sp; exact ⟨v, σ1, H1, out_suite I1 ok, rv, z⟩
theorem suite_some {i : Nat} {n : Str} {f : Flow} {p2 : Pos} (ok : X.Ok) (hN : X.N.Nodup) (hi : X.N[i]? = some n) (hl : X.env.kindOf n = some .local) (sp : SP (X.suite a (X.pn ++ pins)) [] (endSl (some i) D) f s) :
    wpAny (model X.prog X.w) X.A (do bindName X.env n .none; unbindBehindTheSuite X.env n p2) (fun _ s3 => SP X pins D f s3) X.xe s := by
  cases f with
  | next => obtain ⟨σ1, H1, I1, z⟩ := sp; exact gone_ok (out_suite I1 ok) hN hi hl fun s3 I3 => ⟨_, H1, I3, z⟩
  | brk => obtain ⟨σ1, H1, I1, z⟩ := sp; exact gone_ok (out_suite I1 ok) hN hi hl fun s3 I3 => ⟨_, H1, I3, z⟩
  | cont => obtain ⟨σ1, H1, I1, z⟩ := sp; exact gone_ok (out_suite I1 ok) hN hi hl fun s3 I3 => ⟨_, H1, I3, z⟩
  | ret u => obtain ⟨v, σ1, H1, I1, rv, z⟩ := sp; exact gone_ok (out_suite I1 ok) hN hi hl fun s3 I3 => ⟨v, _, H1, I3, rv, z⟩
/-- the clauses one after the other -/
theorem clauses {hds : List ExceptHandler} {l : List Clause} {Wo : WX} (hs : X.stack = X.env :: X.outer) (hf : X.env.frame = some X.env.locals) (hx : X.ex = []) (hN : X.N.Nodup) (tk : L2N.Takes X Wo) (hh : HdsT X hds l) (w : Air X pins a B sI cls d σ H s) (ok : X.Ok) (wish : wT X.K Wo D l cls d σ H) :
    wpAny (model X.prog X.w) X.A (handleBy (.ref a) X.env hds) (SP X pins D) X.xe s := by
  induction hh with
  | nil =>
    -- no clause: it flies on from here
    obtain ⟨-, -, -, oe, vs, T, oT, us, e, z, f, h1, -⟩ := id w.fl
    have on : wpAny (model X.prog X.w) X.A (setFlight (.ref a) X.env.frame) (fun _ s4 => wpAny (model X.prog X.w) X.A (throw (.ref a) : Sem Flow) (SP X pins D) X.xe s4) X.xe s := by
      rw [hf]
      exact HandSPX.setFlight_upZ w.fl fun h4 held up4 => wpAny_throw (tk _ _ ⟨a, B, sI, pins, σ, H, cls, d, rfl, w.inv, w.gr, w.up.trans up4, .inr (.inr (by rw [hs]; exact held)), w.na, w.os, w.ag, wish⟩)
    refine wpAny_handleBy_nil ?_
    unfold PySem.passOn
    refine wpAny_bind (wpAny_field e f h1 ?_)
    rw [if_neg (by simp)]
    first
      | exact wpAny_bind on
      | exact wpAny_bind (wpAny_pure (wpAny_bind on))
  | @cons x c nm sl ts b0 su np p2 hds l hc hn hsu r ih =>
    obtain ⟨b, eb, yes, no⟩ := wish
    obtain ⟨oe, vs, e, z, f⟩ := w.fl.there
    have cl : PySem.W.Looks (model X.prog X.w) s.heap (typeOf (.ref a)) cls := fun A' Q' E' s2 k q => wpAny_typeOf_ref (k _ _ e) (z.1 ▸ q)
    have mt := PySem.W.exm_one (M := model X.prog X.w) w.here.kIn cl eb
    have inn := into_suite (a := a) w.here
    refine wpAny_handleBy_cons (codeAny_handlers_test ?_) fun q => by cases q
    have name : ∀ {Q' : Value → Shared → Prop} {E' : Value → Shared → Prop}, Q' c s → wpAny (model X.prog X.w) (X.A.mark (some (.ref a))) (eval (.Name x np) X.env) Q' E' s := fun {Q' E'} q => by
      rcases hc with ⟨g, db, m | ⟨m, v, nn⟩⟩
      · exact ld_glob (X := X.suite a (X.pn ++ pins)) inn g m q db
      · exact ld_blt (X := X.suite a (X.pn ++ pins)) inn g m v q nn db
    refine name (mt.here ?_)
    cases b with
    | false => exact ih (no rfl)
    | true =>
      obtain ⟨C, rfl, rfl, go⟩ := yes rfl
      cases nm with
      | none =>
        cases sl with
        | some i => exact hn.elim
        | none =>
          refine codeAny_handlers_suite (HandSPX.lands_againZ w.fl fun h4 f4 up4 => ?_)
          have w4 := w.to f4 up4
          exact wpAny_mono ((hsu a _).run [] _ σ _ _ (into_suite (w4.track hs hf hx)) (go a w.na)) (fun fl s6 sp => suite_none ok sp) fun _ _ z => z.elim
      | some n =>
        cases sl with
        | none => exact hn.elim
        | some i =>
          refine codeAny_handlers_suite_as (HandSPX.lands_againZ w.fl fun h4 f4 up4 => ?_)
          have w4 := w.to f4 up4
          refine store_ok (X := X.suite a (X.pn ++ pins)) (v := .ref a) (into_suite (w4.track hs hf hx)) hN hn.1 (.inl hn.2) rfl (fun s5 I5 => ?_) (.inr hn.2)
          exact wpAny_mono ((hsu a _).run [] s5 _ _ _ I5 (go a w.na)) (fun fl s6 sp => suite_some ok hN hn.1 hn.2 sp) fun _ _ z => z.elim
theorem ps_tryT {body : List Stmt} {h0 : ExceptHandler} {hds : List ExceptHandler} {l : List Clause} {pos : Pos} {tb : WX → TS} {Wo : WX} (hs : X.stack = X.env :: X.outer) (hf : X.env.frame = some X.env.locals) (hx : X.ex = []) (hN : X.N.Nodup) (tk : L2N.Takes X Wo)
    (hb : ∀ (W : WX) (pn : List (Addr × Obj)) (xe : Value → Shared → Prop), L2N.Takes (X.tr pn xe) W → PassesOwn (model X.prog X.w) X.A X.env xe → PSs (X.tr pn xe) body (tb W))
    (hh : HdsT X (h0 :: hds) l) : PS X (.Try body (h0 :: hds) [] [] pos) (fun D σ H => tb (wT X.K Wo D l) D σ H) := by
  constructor
  intro pins s σ H D I h
  have fr : X.A.frames = some (X.env :: X.outer) := by rw [I.ok.frames, hs]
  apply wpAny_Try_except
  refine wpAny_mono ((hb (wT X.K Wo D l) (X.pn ++ pins) _ ?_ PassesOwn.looking).run [] s σ H D (I.toTry _) h) ?_ fun _ _ z => z
  · rintro u s1 ⟨a, B, sI, pins1, σ1, H1, cls, d, rfl, I1, gr, up, sky, na, os, ag, wish⟩
    have J := I1.ofTry I.ok
    refine L2N.Sky.land L2N.Zn.steady fr hf (hs ▸ sky) fun h3 f3 up3 => ?_
    exact clauses hs hf hx hN tk hh ⟨J, gr, up.trans up3, f3, na, os, ag⟩ I.ok wish
  · intro f s1 sp
    cases f with
    | next => obtain ⟨σ1, H1, I1, z⟩ := sp; exact wpAny_execs_nil ⟨σ1, H1, I1.ofTry I.ok, z⟩
    | brk => obtain ⟨σ1, H1, I1, z⟩ := sp; exact ⟨σ1, H1, I1.ofTry I.ok, z⟩
    | cont => obtain ⟨σ1, H1, I1, z⟩ := sp; exact ⟨σ1, H1, I1.ofTry I.ok, z⟩
    | ret u => obtain ⟨v, σ1, H1, I1, rv, z⟩ := sp; exact ⟨v, σ1, H1, I1.ofTry I.ok, rv, z⟩
end
end My
namespace My
open PySem PySem.Spec PyProof.Rows L2
section
variable {X : Cx} {H : Hp} {K : PySem.W.Frag} {Q : VK} {a C D : Addr} {b : Bool} {σ : L2.St}
/-- isinstance of a tracked exception -/
def rIsX (K : PySem.W.Frag) : List V → Hp → VK → Prop := fun xs H Q => ∃ (a C : Addr) (c : V) (cv : Value) (b : Bool), xs = [.ref a, c] ∧ H a = some (ExcO C a) ∧ ExcC K C ∧ (∀ u, RelV c u → u = cv) ∧ PySem.W.kitOne K (.ref C) cv = some b ∧ Q (.bl b) H
theorem call_isX : CallR X (.builtin "isinstance") (rIsX X.K) := by
  intro pins s σ H xs us Q I r h
  obtain ⟨a, C, c, cv, b, rfl, e, ec, one, kit, q⟩ := h
  obtain ⟨⟨oe, vs, g, ⟨z1, z2, -⟩, f⟩, -⟩ := I.hok a _ e
  have at_ : PySem.W.InstAt s.heap a oe C none := by
    rcases oe with ⟨c1, d1, t1, s1⟩
    cases z1
    cases z2
    cases f
    exact ⟨g, rfl, rfl, trivial⟩
  match us, r with
  | _, .cons r1 (.cons r2 .nil) =>
    cases r1
    cases one _ r2
    exact PySem.W.kia_one (PySem.W.handS_kitx_exc ec.hg ec.hk ec.hs ec.hd ec.ha ec.hn ec.ht ec.hm) I.kIn at_ kit (fun z => by cases z) fun tk => ⟨.bl b, H, I.kept (t' := tk) fun _ _ k => k, rfl, q⟩
theorem is_exc (e : H a = some (ExcO C a)) (ec : ExcC K C) (k : PySem.W.kitOne K (.ref C) (.ref D) = some b) (q : Q (.bl b) H) : rIsX K [.ref a, .ref D] H Q := ⟨a, C, .ref D, .ref D, b, rfl, e, ec, fun _ r => r, k, q⟩
theorem is_excT {n : String} (e : H a = some (ExcO C a)) (ec : ExcC K C) (k : PySem.W.kitOne K (.ref C) (.type n) = some b) (q : Q (.bl b) H) : rIsX K [.ref a, .ty n] H Q := ⟨a, C, .ty n, .type n, b, rfl, e, ec, fun _ r => r, k, q⟩
theorem wT_yes {Wo : WX} {D : Ends} {c : Value} {sl : Option Nat} {ts : Addr → TS} {r : List Clause} (e : PySem.W.exmOne K (.ref C) c = some true) (q : ∀ a, Fresh H a → ts a (endSl sl D) (setSl sl a σ) (upd H a (ExcO C a))) : wT K Wo D ((c, sl, ts) :: r) (.ref C) none σ H :=
  ⟨true, e, fun _ => ⟨C, rfl, rfl, q⟩, fun z => by cases z⟩
theorem wT_no {Wo : WX} {D : Ends} {c : Value} {sl : Option Nat} {ts : Addr → TS} {r : List Clause} (e : PySem.W.exmOne K (.ref C) c = some false) (q : wT K Wo D r (.ref C) none σ H) : wT K Wo D ((c, sl, ts) :: r) (.ref C) none σ H :=
  ⟨false, e, (fun z => by cases z), fun _ => q⟩
end
/-- around a body that lets nothing out -/
theorem takes0N {X : Cx} : L2N.Takes X (fun _ _ _ _ => False) := by
  rintro u s' ⟨_, _, _, _, _, _, _, _, _, _, _, _, _, _, _, _, z⟩
  exact z.elim
theorem passLN {X : Cx} : Passes (L2N.CX X.prog X.w) X E0 := by
  rintro _ _ _ _ _ _ _ ⟨_, _, _, _, _, _, _, _, _, _, _, _, z⟩
  exact z.elim
theorem okN {P : Program} {w : World} {K : PySem.W.Frag} {mg : Str → Option Value} {base : Heap} {x qual : Str} {st : Stmt} {f : Addr} {fd : FuncData} {N ps : List Str} {k : Nat} {sp : Sp} (F : Fun K x qual st f fd) (S : FnScope N ps (defScope st)) (len : ∀ vs H Q E, sp vs H Q E → vs.length = ps.length)
    (body : ∀ (cdv : Value) (A : Around) (outer : List Env) (s : Shared) (H : Hp) (vs : List V) (Q : VK) (E : XK), Room k (A.deeper (envOfC qual (defScope st) s.heap.objs.size f cdv)) → sp vs H Q E →
      ∃ t, PSs (cxOf (L2N.CX P w) P w K mg base N qual (defScope st) f cdv A outer s H E) (defBody st) t ∧ t { nx := fun _ H' => Q .non H', rt := Q } (L2.start N vs) H) : FnOk P w K mg base (L2N.CX P w) (k + 1) f fd ps sp := by
  rcases F.ex with ⟨c1, d1, v1, v2, v3, a1, v4, v5, sl, rfl, look, code⟩
  refine fn_of look code S len ?_
  intro A outer s H vs Q E room h
  exact body v4 A outer s H vs Q E room h
theorem rd_setS {i : Nat} {a : Addr} {σ : L2.St} : setSl (some i) a σ = σ.set i (some (.ref a)) := rfl
theorem rd_setN {a : Addr} {σ : L2.St} : setSl none a σ = σ := rfl
theorem rd_clrS {i : Nat} {σ : L2.St} : clrSl (some i) σ = σ.set i none := rfl
theorem rd_clrN {σ : L2.St} : clrSl none σ = σ := rfl
theorem rd_endS {sl : Option Nat} {D : Ends} : endSl sl D = { nx := fun σ H => D.nx (clrSl sl σ) H, rt := D.rt, bk := fun σ H => D.bk (clrSl sl σ) H, ct := fun σ H => D.ct (clrSl sl σ) H } := rfl
theorem call_isXK (K : PySem.W.Frag) {X : Cx} (e : X.K = K) : CallR X (.builtin "isinstance") (rIsX K) := e ▸ call_isX
end My
namespace My
open PySem PySem.Spec PyProof.Rows L2
/-! while an exception is handled: it is tracked, its context is None -/
section
variable {X : Cx} {pins : List (Addr × Obj)} {σ : L2.St} {H : Hp} {s : Shared} {a C : Addr}
theorem hot_at (I : Inv X pins σ H s) (hh : X.A.handled = some (.ref a)) (e : H a = some (ExcO C a)) : HotX.HotAt X.A a s.heap := by
  obtain ⟨⟨oe, vs, g, ⟨-, -, z⟩, f⟩, -⟩ := I.hok a _ e
  exact ⟨hh, oe, vs, g, f, z vs f⟩
end
/-- a walk at whose end the exception stands as before -/
def hotIt (a : Addr) (J : It) : It := { J with stop := fun i H => J.stop i H ∧ ∃ C, H a = some (ExcO C a) }
def iHot (a : Addr) (wi : TI) : TI := fun σ H R => wi σ H fun J H1 => R (hotIt a J) H1
theorem rd_iHot {a : Addr} {wi : TI} {σ : L2.St} {H : Hp} {R : It → Hp → Prop} : iHot a wi σ H R = wi σ H fun J H1 => R (hotIt a J) H1 := rfl
/-- range(e) entered -/
structure InRange (X : Cx) (pins : List (Addr × Obj)) (σ : L2.St) (R : It → Hp → Prop) (v : Value) (s : Shared) : Prop where
  ex : ∃ (it : Addr) (n : Nat) (H : Hp), v = .ref it ∧ Inv X pins σ H s ∧ IsRangeIter s.heap it 0 n 1 ∧ FpOk X pins H it ∧ R (Itr 0 n) H
theorem enter_range {X : Cx} {pins : List (Addr × Obj)} {σ : L2.St} {H : Hp} {s : Shared} {R : It → Hp → Prop} {e : Expr} {ta : TA} {p pos : Pos} (I : Inv X pins σ H s) (hg : Gl X "range") (hm : X.mg "range" = none) (ha : PA X [e] ta) (one : starEach [e] X.env = [(false, eval e X.env)]) (h : iRng1 ta σ H R) :
    wpAny (model X.prog X.w) X.A (eval (.Call (.Name "range" p) [e] [] pos) X.env) (fun v s1 => wpAny (model X.prog X.w) X.A (pyIter v) (InRange X pins σ R) X.xe s1) X.xe s := by
  refine Call_ (ld_blt I hg hm boot_range ?_)
  refine PyProof.Rows.callWith_type1 ?_ one rfl
  refine thn (ha.run pos pins s σ H _ I h) ?_
  rintro us s1 ⟨vs, H1, I1, rel, j, rfl, lo, hi, go⟩
  match us, rel with
  | _, .cons ⟨t, rfl⟩ .nil =>
    refine call_range_1 ?_
    have fits : Builtin.Range.small 0 j 1 = true := small_one (by decide) (by decide) lo hi
    refine wpAny_pyIter_range (IsRange.new ..) fits ⟨_, j.toNat, H1, rfl, ?_, ?_, ?_, go⟩
    · refine I1.kept (t' := s1.toks + 1 + 1) fun b o k => ?_
      exact Heap.get?_push_of_some _ (Heap.get?_push_of_some _ k)
    · have len : Builtin.Range.rangeSize 0 j 1 = (j.toNat : Int) := by
        rw [rangeSize_one]
        split <;> omega
      rw [← len]
      exact Heap.get?_push_size _ rfl
    · refine I1.fpOk ?_ (I1.hok.fresh ?_) <;> (show s1.heap.objs.size ≤ (s1.heap.push _).objs.size; rw [Heap.size_push]; exact Nat.le_succ _)
section
variable {X : Cx} {a : Addr}
/-- a comprehension over a range, run while the exception at a is handled -/
theorem pe_lcHot {elt tg e : Expr} {ifs : List Expr} {scope : Scope} {own : List (Str × Nat)} {rp rpos pos : Pos} {ta : TA} {g : TG} {tt : TT} {te : TE} (hot : X.A.handled = some (.ref a)) (hN : X.N.Nodup) (rg : Gl X "range") (rm : X.mg "range" = none) (ha : PA X [e] ta) (ok : BlkOk X.N X.env.scope scope own)
    (hg : ∀ (s : Shared) (H : Hp) (C : Addr) (cl : List (Str × Addr)) (fp : List Addr), PG (X.blk s H scope (compEnvC scope cl C X.env) fp) tg g) (ht : ∀ (s : Shared) (H : Hp) (C : Addr) (cl : List (Str × Addr)) (fp : List Addr), PTs (X.blk s H scope (compEnvC scope cl C X.env) fp) ifs tt)
    (he : ∀ (s : Shared) (H : Hp) (C : Addr) (cl : List (Str × Addr)) (fp : List Addr), PE (X.blk s H scope (compEnvC scope cl C X.env) fp) elt te) (one : starEach [e] X.env = [(false, eval e X.env)] := by rfl) (hs : ∀ x, foldedSetIterable (.Call (.Name "range" rp) [e] [] rpos) X.env x = pure x := by intro _; rfl) :
    PE X (.ListComp elt [⟨tg, .Call (.Name "range" rp) [e] [] rpos, ifs, 0⟩] scope pos) (tLc (iHot a (iRng1 ta)) g tt te (own.map (·.2))) := by
  constructor
  intro pins s σ H Q I h
  rw [eval_ListComp]
  have caught : ∀ y ∈ scope.names, y.2 = .free → ∃ c, X.env.cells.lookup y.1 = some c := fun y my e => (ok.free y my e).elim (fun k => I.ok.has _ (.inl k)) fun k => I.ok.has _ (.inr k)
  refine wpAny_comprehension_free (use := none) rfl hs (closure_ok caught) ok.kind (fun y my e => by rw [ok.uniq y my, e]) ?_
  unfold tLc iHot at h
  refine thn (enter_range I rg rm ha one h) fun v s1 w1 => thn w1 ?_
  rintro itv s2 ⟨it, n, H2, rfl, I2, ri, far, body⟩
  refine wpAny_newObj_type (newEnv_comp ?_) (by show 0 ≤ sizeLine; decide)
  -- the list that is made, at D
  obtain ⟨D, hD⟩ : ∃ D, s2.heap.objs.size = D := ⟨_, rfl⟩
  rw [hD]
  obtain ⟨W, ⟨m0, w0⟩, turn⟩ := body D (I2.hok.fresh (Nat.le_of_eq hD))
  let s3 : Shared := { s2 with heap := s2.heap.push { cls := .type "list", data := .seq ([] : List Value).toArray } }
  have I3 : Inv X pins σ (upd H2 D (.lst [])) s3 := by
    refine I2.laid (t' := s2.toks) (fun b o k => Heap.get?_push_of_some _ k) (Nat.le_of_eq hD) ⟨Nat.zero_le _, [], 0, .nil, ?_⟩
    rw [← hD]
    exact Heap.get?_push_size _ rfl
  have below : it < s2.heap.objs.size := Heap.lt_size ri
  have nD : it ≠ D := Nat.ne_of_lt (hD ▸ below)
  have far3 : FpOk X pins (upd H2 D (.lst [])) it := ⟨by rw [upd_ne nD]; exact far.1, far.2⟩
  have ri3 : IsRangeIter s3.heap it 0 n 1 := Heap.get?_push_of_some _ ri
  have lt3 : it < s3.heap.objs.size := Heap.lt_size ri3
  have I4 := block_start (fp := [it]) I3 ok hN fun b mb => by rw [List.mem_singleton.mp mb]; exact ⟨far3, lt3⟩
  have pg := hg s3 (upd H2 D (.lst [])) s3.heap.objs.size (cellsFrom (s3.heap.objs.size + 1) scope.names (cloFrom X.env.cells scope.names [])) [it]
  have pt := ht s3 (upd H2 D (.lst [])) s3.heap.objs.size (cellsFrom (s3.heap.objs.size + 1) scope.names (cloFrom X.env.cells scope.names [])) [it]
  have pe := he s3 (upd H2 D (.lst [])) s3.heap.objs.size (cellsFrom (s3.heap.objs.size + 1) scope.names (cloFrom X.env.cells scope.names [])) [it]
  change codeAny (model X.prog X.w) X.A (.compStart (.ListComp elt [⟨tg, .Call (.Name "range" rp) [e] [] rpos, ifs, 0⟩] scope pos) 0 (.ref it) (.ref D) (compEnvC scope (cellsFrom (s3.heap.objs.size + 1) scope.names (cloFrom X.env.cells scope.names [])) s3.heap.objs.size X.env)) (compPost (model X.prog X.w) X.A X.xe none (EP X pins σ Q) (.ref D) s3.heap.objs.size) { s3 with heap := pushCells (s3.heap.push { cls := .type "dict", data := .dict #[] }) scope.names }
  have ri4 : IsRangeIter ({ s3 with heap := pushCells (s3.heap.push { cls := .type "dict", data := .dict #[] }) scope.names } : Shared).heap it 0 n 1 := pushCells_keeps _ _ _ _ (Heap.get?_push_of_some _ ri3)
  have free3 := far3.1
  generalize hce : compEnvC scope (cellsFrom (s3.heap.objs.size + 1) scope.names (cloFrom X.env.cells scope.names [])) s3.heap.objs.size X.env = ce at I4 pg pt pe ⊢
  have cl : ce.locals = s3.heap.objs.size := by rw [← hce]; rfl
  generalize upd H2 D (.lst []) = H3 at *
  generalize ({ s3 with heap := pushCells (s3.heap.push { cls := .type "dict", data := .dict #[] }) scope.names } : Shared) = s4 at I4 ri4 ⊢
  have wide : ∀ {σ1 : L2.St} {H1 : Hp} {u : Shared}, Inv (X.blk s3 H3 scope ce [it]) [] σ1 H1 u → H1 it = none → FpOk (X.blk s3 H3 scope ce [it]) [] H1 it := fun {σ1 H1 u} J z =>
    ⟨z, (J.ok.exf it (by simp)).1, J.ok.exfs it (by simp), .inl (by simp), fun x c q => (J.ok.exf it (by simp)).2 x c q, fun p mp => by
      have mp : p ∈ ([] : List (Addr × Obj)) ++ [] := mp
      simp at mp⟩
  have loop : codeAny (model X.prog X.w) X.A (.compLoop (.ListComp elt [⟨tg, .Call (.Name "range" rp) [e] [] rpos, ifs, 0⟩] scope pos) 0 (.ref it) (.ref D) ce) (compPost (model X.prog X.w) X.A X.xe none (EP X pins σ Q) (.ref D) s3.heap.objs.size) s4 := by
    refine compLoop_any (fun m u => ∃ (i : Nat) (H5 : Hp), Inv (X.blk s3 H3 scope ce [it]) [] (wipe σ (own.map (·.2))) H5 u ∧ IsRangeIter u.heap it (i : Nat) ((n : Int) - (i : Nat)) 1 ∧ H5 it = none ∧ W i m H5) ?_ m0 ⟨0, H3, I4, by simpa using ri4, free3, w0⟩
    rintro m u ⟨i, H5, I5, r5, z5, w5⟩
    rcases turn i m H5 w5 with ⟨⟨over, C, eC⟩, done⟩ | ⟨more, Nx, down, step⟩
    · -- the end: the inner exception that ends the walk goes
      have over : n ≤ i := over
      refine HotX.pyNext_range_end_hot (hot_at (X := X.blk s3 H3 scope ce [it]) I5 hot eC) r5 (by omega) fun h6 k6 => ?_
      have I6 : Inv (X.blk s3 H3 scope ce [it]) [] (wipe σ (own.map (·.2))) H5 { u with heap := h6 } := I5.kept (t' := u.toks) k6
      have I7 : Inv X pins σ H5 { u with heap := h6 } := I3.call' (ch := [it]) I6.os I6.base I6.hok I6.bare fun b mb => by
        rw [List.mem_singleton.mp mb]
        exact ⟨far3.2.2.2.1, far3.2.1, far3.2.2.2.2.1, far3.2.2.2.2.2⟩
      have lone : H5 s3.heap.objs.size = none := cl ▸ I6.free
      obtain ⟨mm, ns, -⟩ := I6.loc
      refine ⟨mm, cl ▸ ns, fun h7 sb => ?_⟩
      obtain ⟨f0, f1, f2, f3, f4, f5⟩ := I3.fpOk (H' := H5) (Nat.le_refl _) lone
      exact ⟨.ref D, H5, I7.turned (t' := u.toks) (fun b o nb q => (sb.2 b nb).trans q) f0 f1 f3 f4 f5, rfl, done⟩
    · have more : i < n := more
      have fp5 := wide I5 z5
      refine wpAny_pyNext_range_item r5 (by omega) fun h6 r6 sb => ?_
      have I6 : Inv (X.blk s3 H3 scope ce [it]) [] (wipe σ (own.map (·.2))) H5 { u with heap := h6, toks := u.toks + 1 } := I5.turned (fun b o nb q => (sb.2 b nb).trans q) fp5.1 fp5.2.1 fp5.2.2.2.1 fp5.2.2.2.2.1 fp5.2.2.2.2.2
      refine go_of (n := "range_iterator") r6 rfl rfl (by decide) ?_
      have kept : ∀ b ∈ [it], ∃ o, h6.get? b = some o ∧ ∀ v, o.data ≠ .cell v := fun b mb => by
        rw [List.mem_singleton.mp mb]
        exact ⟨_, r6, fun v q => by cases q⟩
      have P6 := I6.pinned (fp := [it]) (fun b mb => by rw [List.mem_singleton.mp mb]; exact wide I6 z5) kept
      refine thnF (pg.run _ _ _ H5 (.int i) _ _ P6 ⟨u.toks, rfl⟩ (step _ H5 ⟨rfl, by rw [Int.zero_add]⟩)) ?_
      rintro - s8 ⟨σ8, H8, I8, same8, q8⟩
      refine thnF (pt.run _ s8 σ8 H8 _ I8 q8) ?_
      rintro b s9 ⟨H9, I9, q9⟩
      -- a turn's end
      have again : ∀ {u2 : Shared} {HE : Hp}, Inv (X.blk s3 H3 scope ce [it]) ([] ++ pinsAt [it] h6) σ8 HE u2 → Nx HE → ∃ m2, m2 < m ∧ ∃ (i2 : Nat) (H7 : Hp), Inv (X.blk s3 H3 scope ce [it]) [] (wipe σ (own.map (·.2))) H7 u2 ∧ IsRangeIter u2.heap it (i2 : Nat) ((n : Int) - (i2 : Nat)) 1 ∧ H7 it = none ∧ W i2 m2 H7 := fun {u2 HE} J nx => by
        obtain ⟨m2, lt2, w2⟩ := down HE nx
        have pinned := J.pin (it, _) (List.mem_append_right _ (List.mem_append_right _ (mem_pinsAt (List.mem_singleton.mpr rfl) r6)))
        have at2 : IsRangeIter u2.heap it ((i + 1 : Nat) : Int) ((n : Int) - ((i + 1 : Nat) : Int)) 1 := by
          have e1 : ((i + 1 : Nat) : Int) = (i : Int) + 1 := by omega
          have e2 : (n : Int) - ((i + 1 : Nat) : Int) = (n : Int) - (i : Int) - 1 := by omega
          rw [e2, e1]
          exact pinned.1
        refine ⟨m2, lt2, i + 1, HE, J.unpinned.weak (by rw [← same8, wipe_length]) (fun j v q => ?_), at2, pinned.2.1, w2⟩
        rw [← same8] at q
        exact (wipe_some q).1
      cases b with
      | false => exact again I9 q9
      | true =>
        refine thnF (pe.run _ s9 σ8 H9 _ I9 q9) ?_
        rintro z s10 ⟨y, H10, I10, rel, acc, eD, lacc, nx⟩
        exact app_ok (X := X.blk s3 H3 scope ce [it]) I10 eD lacc rel fun s11 I11 => again I11 nx
  exact codeAny_compStart_list loop (wpAny_pyIter_rangeiter ri4 loop)
end
/-! defs called there -/
structure FnT (P : Program) (w : World) (K : PySem.W.Frag) (mg : Str → Option Value) (base : Heap) (k : Nat) (f : Addr) (fd : FuncData) (ps : List Str) (sp : Sp) : Prop where
  len : ∀ vs H Q E, sp vs H Q E → vs.length = ps.length
  run : ∀ (A : Around) (outer : List Env) (s : Shared) (H : Hp) (args : Args) (us : List Value) (vs : List V) (Q : VK) (a C : Addr), L2H.RoomH k A → A.handled = some (.ref a) → H a = some (ExcO C a) → Env0 P w K mg base A outer s H → BindsTo s fd args (ps.zip us) → Vals vs us → sp vs H Q E0 →
    codeAny (model P w) A (.call (.ref f) args) (CR CX0 outer P w H s Q E0) s
theorem fnT {P : Program} {w : World} {K : PySem.W.Frag} {mg : Str → Option Value} {base : Heap} {x qual : Str} {st : Stmt} {f : Addr} {fd : FuncData} {N ps : List Str} {k : Nat} {sp : Sp} (F : Fun K x qual st f fd) (S : FnScope N ps (defScope st)) (len : ∀ vs H Q E, sp vs H Q E → vs.length = ps.length)
    (body : ∀ (cdv : Value) (A : Around) (outer : List Env) (s : Shared) (H : Hp) (vs : List V) (Q : VK) (a C : Addr) (p : Addr × Obj), L2H.RoomH k (A.deeper (envOfC qual (defScope st) s.heap.objs.size f cdv)) → A.handled = some (.ref a) → H a = some (ExcO C a) → sp vs H Q E0 →
      ∃ t, PSs (L2H.cxH CX0 P w K mg base N qual (defScope st) f cdv A outer s H E0 p) (defBody st) t ∧ t { nx := fun _ H' => Q .non H', rt := Q } (L2.start N vs) H) : FnT P w K mg base (k + 1) f fd ps sp := by
  rcases F.ex with ⟨c1, d1, v1, v2, v3, a1, v4, v5, sl, rfl, look, code⟩
  refine ⟨len, fun A outer s H args us vs Q a C room hh eh e0 bd rel want => ?_⟩
  have ln := len _ _ _ _ want
  have kin : K.In s.heap := e0.mod.kin.keeps fun b o e => (e0.bs b o e).1
  have calm : s.heap.NoLimit := e0.mod.nolimit.keeps fun b o e => (e0.bs b o e).1
  -- an object of the law's start serves as the pin
  obtain ⟨p, hp⟩ : ∃ p : Addr × Obj, L2H.PinOk outer H s p := by
    obtain ⟨o, es, ep, eo, hd, -⟩ := e0.mod.glob
    refine ⟨(mainGlobals, o), (e0.bs _ _ eo).1, (e0.bs _ _ eo).2, fun m => ?_, fun v q => ?_⟩
    · have := (e0.funs.mem m).1
      rw [eo] at this
      cases this
    · have q : o.data = .cell v := q
      rw [hd] at q
      cases q
  have kinds : ∀ y ∈ ps.zip us, (defScope st).names.lookup y.1 = some .local ∨ ((defScope st).names.lookup y.1 = some .cell ∧ ((cellsFrom (s.heap.objs.size + 1) (defScope st).names []).lookup y.1).isSome = true) := fun ⟨n, v⟩ m =>
    (S.par n (List.of_mem_zip m).1).imp id fun q => ⟨q, PySem.W.cellsFrom_some _ _ _ (.inl q)⟩
  refine codeAny_call_function room.depth (kin _ _ look) rfl S.co S.gen rfl (PySem.W.codeRec_of kin code) (bd _ _ _ _ ?_)
  refine wpAny_newFunctionEnv_cells S.kind kinds fun env ee s1 inn => ?_
  subst ee
  refine ⟨calm.keeps inn.toInCall.keep, codeAny_func ?_⟩
  obtain ⟨t, run, q⟩ := body v4 A outer s H vs Q a C p (room.deeper _) hh eh want
  refine wpAny_mono (run.run [] s1 (L2.start N vs) H _ (L2H.inv_startH S hp e0 ln rel inn) q) (fun fl s2 hs => ?_) fun _ _ z => z
  have fin : ∀ {σ1 : L2.St} {H1 : Hp} {v : V} {u : Value}, Inv (L2H.cxH CX0 P w K mg base N qual (defScope st) f v4 A outer s H E0 p) [] σ1 H1 s2 → RelV v u → Q v H1 → CE outer P w H s Q u s2 :=
    fun {σ1 H1 v u} J rv z => ⟨v, H1, J.os, J.bare, J.base, J.hok, rv, z⟩
  cases fl with
  | next => obtain ⟨σ1, H1, J, z⟩ := hs; exact fin (v := V.non) (u := Value.none) J rfl z
  | brk => obtain ⟨_, _, _, z⟩ := hs; exact z.elim
  | cont => obtain ⟨_, _, _, z⟩ := hs; exact z.elim
  | ret u => obtain ⟨v, σ1, H1, J, rv, z⟩ := hs; exact fin J rv z
theorem roomT {k : Nat} {A : Around} {v : Option Value} (r : Room k A) : L2H.RoomH k (A.mark v) := ⟨r.dp, r.un⟩
def tCallT (a : Addr) (sp : Sp) (t : TA) : TE := fun σ H Q => t σ H fun vs H1 => (∃ C, H1 a = some (ExcO C a)) ∧ sp vs H1 Q E0
theorem rd_callT {a : Addr} {sp : Sp} {t : TA} {σ : L2.St} {H : Hp} {Q : VK} : tCallT a sp t σ H Q = t σ H fun vs H1 => (∃ C, H1 a = some (ExcO C a)) ∧ sp vs H1 Q E0 := rfl
theorem pe_callT {X : Cx} {k : Nat} {f a : Addr} {fd : FuncData} {ps : List Str} {sp : Sp} {x : Str} {q pos : Pos} {e : Expr} {es : List Expr} {t : TA} (F : FnT X.prog X.w X.K X.mg X.base k f fd ps sp) (room : L2H.RoomH k X.A) (hot : X.A.handled = some (.ref a)) (gl : Gl X x) (gm : X.mg x = some (.ref f)) (kp : PySem.W.keepIn X.K (.ref f) = true) (bd : Binds X.K fd ps [])
    (part : PA X (e :: es) t) (db : (x == ("__debug__" : Str)) = false := by decide) (one : starEach (e :: es) X.env = (false, eval e X.env) :: starEach es X.env := by rfl) (plain : (backTo pos (starEach es X.env)).any (·.1) = false := by rfl) : PE X (.Call (.Name x q) (e :: es) [] pos) (tCallT a sp t) := by
  constructor
  intro pins s σ H Q I want
  refine wpAny_Call_Name_kw (ld_glob I gl gm ?_ db)
  refine PySem.W.callWith_K (h₀ := X.base) I.ok.mod.kin kp (thn (part.run pos pins s σ H _ I want) ?_) one plain
  rintro us s1 ⟨vs, H1, I1, rel, ⟨C, ec⟩, sp1⟩
  refine ⟨I1.kIn, ?_⟩
  have ln : us.length = ps.length := by rw [← rel.length]; exact F.len _ _ _ _ sp1
  have b := bd s1 us I1.kIn (by rw [List.append_nil]; exact ln)
  rw [List.append_nil] at b
  refine wpAny_call (codeAny_mono (F.run X.A X.stack s1 H1 ⟨us, []⟩ us vs Q a C room hot ec I1.env0 b rel sp1) ?_)
  rintro (er | fl) s2 res
  · exact res.elim
  · cases fl with
    | ret u => exact I1.after res
    | next => exact res.elim
    | brk => exact res.elim
    | cont => exact res.elim
/-- a walk while an exception is handled -/
theorem walk_hot {J : It} {n : Nat} {G : Hp → Prop} {Y : Nat → Hp → V → Hp → Prop} {a : Addr} (w : L2.Walk J n G Y) : L2.Walk (hotIt a J) n (fun H => G H ∧ ∃ C, H a = some (ExcO C a)) Y :=
  ⟨fun i H l g => w.goes i H l g.1, fun H g => ⟨w.stops H g.1, g.2⟩, fun i H x H' l g y => w.yields i H x H' l g.1 y⟩
end My
local macro_rules | `(tactic| walk_at "rd") => `(tactic| try simp only [↓My.rd_var, ↓My.rd_c, ↓My.rd_op, ↓My.rd_un, ↓My.rd_test, ↓My.rd_B, ↓My.rd_and, ↓My.rd_or, ↓My.rd_not, ↓My.rd_andV, ↓My.rd_orV, ↓My.rd_notV, ↓My.rd_ifE, ↓My.rd_chain, ↓My.rd_ifS, ↓My.rd_ret, ↓My.rd_retN, ↓My.rd_seq, ↓My.rd_dnewK, ↓My.rd_dsetd, ↓My.rd_mm, ↓My.rd_mm0, ↓My.rd_dnewM, ↓My.rd_or2, ↓My.rd_methK, ↓My.rd_endS, My.rd_setS, My.rd_setN, My.rd_clrS, My.rd_clrN, ↓My.rd_iHot, ↓My.rd_callT, ↓My.rd_lcg, ↓My.rd_M1, ↓My.rd_BM, ↓My.rd_BM0, ↓My.rd_gSub, ↓My.rd_next, ↓My.rd_break, ↓My.rd_cont, ↓My.rd_drop, ↓My.rd_asg, ↓My.rd_gName, ↓My.rd_nil, ↓My.rd_cons, ↓My.rd_call, ↓My.rd_CB, ↓My.rd_for, ↓My.rd_rng1, ↓My.rd_rng2, ↓My.rd_rng3, My.rd_isR3, ↓My.rd_iList, ↓My.rd_iTup, ↓My.rd_iStr, ↓My.rd_lst, ↓My.rd_tup, ↓My.rd_sl, ↓My.rd_noPart, ↓My.rd_part, ↓My.rd_never, ↓My.rd_dget, ↓My.rd_din, ↓My.rd_dnotin, ↓My.rd_dput, ↓My.rd_enum, My.rd_isR0, ↓My.rd_fld, ↓My.rd_sfld, ↓My.rd_aug_fld, ↓My.rd_meth, ↓My.rd_methX, ↓My.rd_cfun, ↓My.rd_callSD, ↓My.rd_make, ↓My.rd_lenSet, ↓My.rd_lstRev, My.rd_unl, ↓My.rd_revA, My.rd_min, ↓My.rd_yes, ↓My.rd_zipA, My.rd_isR2a, My.rd_mulS, ↓My.rd_aug, My.rd_ipI, My.sizeB_pow, My.rd_spBare,
  My.rd_rI, My.rd_rI0, My.rd_rU, My.rd_eq, My.rd_ne, My.rd_isBl, My.rd_isR1, My.rd_isR2, My.rd_isRef, My.rd_isStr, My.rd_isInt, My.rd_isiF, My.rd_cat, My.rd_append, My.own_nil, My.own_cons, My.rd_wipe0, My.rd_wipe1, My.rd_addT, My.rd_ixS, My.rd_ixT, My.rd_slS, My.rd_join, My.rd_tupOf, My.rd_listOf, My.rd_gTup, My.rd_gCons, My.rd_gNil, My.rd_isB, My.rd_notB, My.rd_rep, My.rd_setL, My.rd_ixL, ↓My.rd_cut, My.rd_ixQ, My.rd_slL, My.rd_len, My.rd_lenU_str, My.rd_lenU_ref, My.rd_spI1, My.rd_spI2, My.rd_spI3, My.rd_spI4, My.rd_whole, My.rd_spCell, My.rd_max2, My.rd_min2, My.rd_spAny1, My.rd_spStamp, My.rd_ord, My.rd_spNew2,
  My.V_int_inj, My.V_bl_inj, My.V_str_inj, My.scal_ii, My.scal_bb, My.scal_ss, My.isi_non_int, My.isi_non_bool, My.isi_non_str, My.isi_non_tuple, My.isi_non_list, My.isi_bl_int, My.isi_bl_bool, My.isi_bl_str, My.isi_bl_tuple, My.isi_bl_list, My.isi_int_int, My.isi_int_bool, My.isi_int_str, My.isi_int_tuple, My.isi_int_list, My.isi_str_int, My.isi_str_bool, My.isi_str_str, My.isi_str_tuple, My.isi_str_list,
  My.st_nil, My.st_arg, My.st_none, My.cxK, Int.zero_add, Int.reduceToNat, Int.reducePow, Int.reduceMul, Int.reduceSub, Int.reduceAdd, Int.reduceNeg, Int.reduceLE, Int.reduceLT, List.getElem?_cons_zero, List.getElem?_cons_succ, List.set_cons_zero, List.set_cons_succ, List.append_nil, List.cons_append, List.nil_append, decide_eq_true_eq, Bool.not_eq_true', decide_eq_false_iff_not, Bool.not_true, Bool.not_false, Bool.false_eq_true, Bool.true_eq_false, if_true, if_false, true_and, and_true, ite_true, ite_false, if_pos, if_neg, ne_eq, not_true_eq_false, not_false_eq_true, reduceIte, Bool.not_not])
local macro_rules | `(tactic| walk_at "spl") => `(tactic| first | exact My.len_spI1 (by assumption) | exact My.len_spI2 (by assumption) | exact My.len_spI3 (by assumption) | exact My.len_spI4 (by assumption) | exact My.len_whole (by assumption) | exact My.len_law (by assumption) | exact My.len_cell (by assumption) | exact My.len_new2 (by assumption) | exact My.len_when (by assumption) | exact My.len_text (by assumption) | exact My.len_anyLeaf (by assumption) | exact My.len_anyKey (by assumption) | exact My.len_key3 (by assumption) | exact My.len_same (by assumption) | exact My.len_rowsSame (by assumption) | exact My.len_placeB (by assumption) | exact My.len_row (by assumption) | exact My.len_paperB (by assumption) | exact My.len_paper (by assumption) | exact My.len_placeOf (by assumption) | exact My.len_bare (by assumption) | exact My.len_stream (by assumption) | exact My.len_cellsOf (by assumption) | exact My.len_ahead (by assumption) | exact My.len_laid (by assumption) | exact My.len_any1 (by assumption) | exact My.len_stamp (by assumption))
local macro_rules | `(tactic| walk_at "ne") => `(tactic| first | assumption | exact Ne.symm (by assumption) | exact My.Fresh.ne (by assumption) (by walk_at "hp") | exact Ne.symm (My.Fresh.ne (by assumption) (by walk_at "hp")))
local macro_rules | `(tactic| walk_at "hp") => `(tactic| first | assumption | exact L2.upd_same | exact (by assumption : L2.Same _ _) _ _ (by walk_at "hp") | (refine Eq.trans (L2.upd_ne ?_) ?_; (walk_at "ne"); (walk_at "hp")))
local macro_rules | `(tactic| walk_at "sq") => `(tactic| first | assumption | exact L2.SqL.of (by walk_at "hp") | exact L2.SqT.of (by walk_at "hp") | (refine L2.Same.seq ?_ (by assumption); walk_at "same"))
local macro_rules | `(tactic| walk_at "same") => `(tactic| first | assumption | exact L2.Same.refl _ | exact My.Same_upd (by walk_at "same") (by assumption) | exact L2.Same.trans (by walk_at "same") (by assumption))
local macro_rules | `(tactic| walk_at "sz") => `(tactic| first | assumption | (with_unfolding_all decide) | (rw [PySem.sizeLine_eq]; simp only [List.length_append, List.length_cons, List.length_nil, List.length_map, List.length_replicate, List.length_take, List.length_drop]; omega))
local macro_rules | `(tactic| walk_at "side") => `(tactic| first | assumption | exact trivial | decide +kernel | omega | exact ⟨by decide +kernel, by decide +kernel⟩ | exact ⟨by decide +kernel, by decide +kernel, by decide +kernel⟩ | exact ⟨by omega, by omega⟩ | exact My.mulL (by omega) (by omega) | exact My.mulR (by omega) (by omega) | exact PySem.IntMulOk.of_bits (by omega) (by omega) | exact My.divB (by omega) (by omega))
local macro_rules | `(tactic| walk_at "dt") => `(tactic| repeat' first | (refine My.both ?_ ?_; (walk_at "side")) | (refine My.iteB (fun _ => ?_) (fun _ => ?_)))
local macro_rules | `(tactic| walk_at "go") => `(tactic| repeat' first | (refine My.exSq (by walk_at "sq") ?_) | (refine My.exSqV (by walk_at "sq") ?_) | (refine My.both ?_ ?_; (walk_at "side")))
namespace Law
open PySem PySem.Spec PyProof.Rows L2 My
def top (i : Nat) : Stmt := PySem.Challenge.pw_slotbook_k92_texts_refused.main.body.getD i (.Pass ⟨0, 0, 0, 0⟩)
abbrev s_number_at : Stmt := top 17
abbrev s_quoted_at : Stmt := top 18
abbrev s_tuple_at : Stmt := top 19
abbrev s_key_at : Stmt := top 20
abbrev s_read_key : Stmt := top 21
abbrev s_read_keys : Stmt := top 22
abbrev s_law_cell_at : Stmt := top 24
abbrev s_law_sign : Stmt := top 25
abbrev s_law_leaf : Stmt := top 26
abbrev s_law_key : Stmt := top 27
abbrev s_law_written : Stmt := top 28
abbrev s_law_odd : Stmt := top 29
abbrev s_law_spoiled : Stmt := top 30
abbrev s_law_given : Stmt := top 31
abbrev s_law_is_key : Stmt := top 32
abbrev s_law_just : Stmt := top 33
abbrev s_law_read : Stmt := top 34
abbrev s_law_holds : Stmt := top 35
abbrev s_law : Stmt := top 36
structure Ad where
  a_number_at : Addr
  d_number_at : FuncData
  a_quoted_at : Addr
  d_quoted_at : FuncData
  a_tuple_at : Addr
  d_tuple_at : FuncData
  a_key_at : Addr
  d_key_at : FuncData
  a_read_key : Addr
  d_read_key : FuncData
  a_read_keys : Addr
  d_read_keys : FuncData
  a_law_cell_at : Addr
  d_law_cell_at : FuncData
  a_law_sign : Addr
  d_law_sign : FuncData
  a_law_leaf : Addr
  d_law_leaf : FuncData
  a_law_key : Addr
  d_law_key : FuncData
  a_law_written : Addr
  d_law_written : FuncData
  a_law_odd : Addr
  d_law_odd : FuncData
  a_law_spoiled : Addr
  d_law_spoiled : FuncData
  a_law_given : Addr
  d_law_given : FuncData
  a_law_is_key : Addr
  d_law_is_key : FuncData
  a_law_just : Addr
  d_law_just : FuncData
  a_law_read : Addr
  d_law_read : FuncData
  a_law_holds : Addr
  d_law_holds : FuncData
  a_law : Addr
  d_law : FuncData
  c_BookError : Addr
  c_NoText : Addr
  c_Broken : Addr
  c_Full : Addr
  c_Lacking : Addr
  c_NoDeed : Addr
  c_NoKey : Addr
  c_NoName : Addr
  c_NoSize : Addr
  c_Twice : Addr
  t_MOST_SIGNS : Tok
  t_MOST_PARTS : Tok
  t_DEEPEST : Tok
  t_FIGURES : Tok
  t_MOST_FIGURES : Tok
structure Txt (K : PySem.W.Frag) (mg : Str → Option Value) (A : Ad) : Prop where
  F_number_at : Fun K "number_at" "number_at" s_number_at A.a_number_at A.d_number_at
  b_number_at : Binds K A.d_number_at ["text", "at"] []
  m_number_at : mg "number_at" = some (.ref A.a_number_at)
  F_quoted_at : Fun K "quoted_at" "quoted_at" s_quoted_at A.a_quoted_at A.d_quoted_at
  b_quoted_at : Binds K A.d_quoted_at ["text", "at"] []
  m_quoted_at : mg "quoted_at" = some (.ref A.a_quoted_at)
  F_tuple_at : Fun K "tuple_at" "tuple_at" s_tuple_at A.a_tuple_at A.d_tuple_at
  b_tuple_at : Binds K A.d_tuple_at ["text", "at", "deep"] []
  m_tuple_at : mg "tuple_at" = some (.ref A.a_tuple_at)
  F_key_at : Fun K "key_at" "key_at" s_key_at A.a_key_at A.d_key_at
  b_key_at : Binds K A.d_key_at ["text", "at", "deep"] []
  m_key_at : mg "key_at" = some (.ref A.a_key_at)
  F_read_key : Fun K "read_key" "read_key" s_read_key A.a_read_key A.d_read_key
  b_read_key : Binds K A.d_read_key ["text"] []
  m_read_key : mg "read_key" = some (.ref A.a_read_key)
  F_read_keys : Fun K "read_keys" "read_keys" s_read_keys A.a_read_keys A.d_read_keys
  b_read_keys : Binds K A.d_read_keys ["text"] []
  m_read_keys : mg "read_keys" = some (.ref A.a_read_keys)
  F_law_cell_at : Fun K "_law_cell_at" "_law_cell_at" s_law_cell_at A.a_law_cell_at A.d_law_cell_at
  b_law_cell_at : Binds K A.d_law_cell_at ["_law_script", "_law_k"] []
  m_law_cell_at : mg "_law_cell_at" = some (.ref A.a_law_cell_at)
  F_law_sign : Fun K "_law_sign" "_law_sign" s_law_sign A.a_law_sign A.d_law_sign
  b_law_sign : Binds K A.d_law_sign ["_law_number"] []
  m_law_sign : mg "_law_sign" = some (.ref A.a_law_sign)
  F_law_leaf : Fun K "_law_leaf" "_law_leaf" s_law_leaf A.a_law_leaf A.d_law_leaf
  b_law_leaf : Binds K A.d_law_leaf ["_law_cell", "_law_other"] []
  m_law_leaf : mg "_law_leaf" = some (.ref A.a_law_leaf)
  F_law_key : Fun K "_law_key" "_law_key" s_law_key A.a_law_key A.d_law_key
  b_law_key : Binds K A.d_law_key ["_law_script", "_law_at"] []
  m_law_key : mg "_law_key" = some (.ref A.a_law_key)
  F_law_written : Fun K "_law_written" "_law_written" s_law_written A.a_law_written A.d_law_written
  b_law_written : Binds K A.d_law_written ["_law_key_here"] []
  m_law_written : mg "_law_written" = some (.ref A.a_law_written)
  F_law_odd : Fun K "_law_odd" "_law_odd" s_law_odd A.a_law_odd A.d_law_odd
  b_law_odd : Binds K A.d_law_odd ["_law_cell"] []
  m_law_odd : mg "_law_odd" = some (.ref A.a_law_odd)
  F_law_spoiled : Fun K "_law_spoiled" "_law_spoiled" s_law_spoiled A.a_law_spoiled A.d_law_spoiled
  b_law_spoiled : Binds K A.d_law_spoiled ["_law_text", "_law_cell", "_law_other"] []
  m_law_spoiled : mg "_law_spoiled" = some (.ref A.a_law_spoiled)
  F_law_given : Fun K "_law_given" "_law_given" s_law_given A.a_law_given A.d_law_given
  b_law_given : Binds K A.d_law_given ["_law_script"] []
  m_law_given : mg "_law_given" = some (.ref A.a_law_given)
  F_law_is_key : Fun K "_law_is_key" "_law_is_key" s_law_is_key A.a_law_is_key A.d_law_is_key
  b_law_is_key : Binds K A.d_law_is_key ["_law_found", "_law_deep"] []
  m_law_is_key : mg "_law_is_key" = some (.ref A.a_law_is_key)
  F_law_just : Fun K "_law_just" "_law_just" s_law_just A.a_law_just A.d_law_just
  b_law_just : Binds K A.d_law_just ["_law_error"] []
  m_law_just : mg "_law_just" = some (.ref A.a_law_just)
  F_law_read : Fun K "_law_read" "_law_read" s_law_read A.a_law_read A.d_law_read
  b_law_read : Binds K A.d_law_read ["_law_thing", "_law_one"] []
  m_law_read : mg "_law_read" = some (.ref A.a_law_read)
  F_law_holds : Fun K "_law_holds" "_law_holds" s_law_holds A.a_law_holds A.d_law_holds
  b_law_holds : Binds K A.d_law_holds ["_law_thing", "_law_one"] []
  m_law_holds : mg "_law_holds" = some (.ref A.a_law_holds)
  F_law : Fun K "law" "law" s_law A.a_law A.d_law
  b_law : Binds K A.d_law ["_law_script"] []
  m_law : mg "law" = some (.ref A.a_law)
  m_BookError : mg "BookError" = some (.ref A.c_BookError)
  x_BookError : PySem.W.excIn K A.c_BookError [.type "ValueError", .type "Exception", .type "BaseException", .type "object"] "ValueError.__new__" = true
  k_BookError : PySem.W.keepIn K (.ref A.c_BookError) = true
  eb_BookError : PySem.W.subIn K (.ref A.c_BookError) (.type "BaseException") = some true
  et_BookError : PySem.W.typeIn K (.ref A.c_BookError) = some (.type "type")
  m_NoText : mg "NoText" = some (.ref A.c_NoText)
  x_NoText : PySem.W.excIn K A.c_NoText [.type "ValueError", .type "Exception", .type "BaseException", .type "object"] "ValueError.__new__" = true
  k_NoText : PySem.W.keepIn K (.ref A.c_NoText) = true
  eb_NoText : PySem.W.subIn K (.ref A.c_NoText) (.type "BaseException") = some true
  et_NoText : PySem.W.typeIn K (.ref A.c_NoText) = some (.type "type")
  m_Broken : mg "Broken" = some (.ref A.c_Broken)
  x_Broken : PySem.W.excIn K A.c_Broken [.type "ValueError", .type "Exception", .type "BaseException", .type "object"] "ValueError.__new__" = true
  k_Broken : PySem.W.keepIn K (.ref A.c_Broken) = true
  eb_Broken : PySem.W.subIn K (.ref A.c_Broken) (.type "BaseException") = some true
  et_Broken : PySem.W.typeIn K (.ref A.c_Broken) = some (.type "type")
  m_Full : mg "Full" = some (.ref A.c_Full)
  x_Full : PySem.W.excIn K A.c_Full [.type "ValueError", .type "Exception", .type "BaseException", .type "object"] "ValueError.__new__" = true
  k_Full : PySem.W.keepIn K (.ref A.c_Full) = true
  eb_Full : PySem.W.subIn K (.ref A.c_Full) (.type "BaseException") = some true
  et_Full : PySem.W.typeIn K (.ref A.c_Full) = some (.type "type")
  m_Lacking : mg "Lacking" = some (.ref A.c_Lacking)
  x_Lacking : PySem.W.excIn K A.c_Lacking [.type "ValueError", .type "Exception", .type "BaseException", .type "object"] "ValueError.__new__" = true
  k_Lacking : PySem.W.keepIn K (.ref A.c_Lacking) = true
  eb_Lacking : PySem.W.subIn K (.ref A.c_Lacking) (.type "BaseException") = some true
  et_Lacking : PySem.W.typeIn K (.ref A.c_Lacking) = some (.type "type")
  m_NoDeed : mg "NoDeed" = some (.ref A.c_NoDeed)
  x_NoDeed : PySem.W.excIn K A.c_NoDeed [.type "ValueError", .type "Exception", .type "BaseException", .type "object"] "ValueError.__new__" = true
  k_NoDeed : PySem.W.keepIn K (.ref A.c_NoDeed) = true
  eb_NoDeed : PySem.W.subIn K (.ref A.c_NoDeed) (.type "BaseException") = some true
  et_NoDeed : PySem.W.typeIn K (.ref A.c_NoDeed) = some (.type "type")
  m_NoKey : mg "NoKey" = some (.ref A.c_NoKey)
  x_NoKey : PySem.W.excIn K A.c_NoKey [.type "ValueError", .type "Exception", .type "BaseException", .type "object"] "ValueError.__new__" = true
  k_NoKey : PySem.W.keepIn K (.ref A.c_NoKey) = true
  eb_NoKey : PySem.W.subIn K (.ref A.c_NoKey) (.type "BaseException") = some true
  et_NoKey : PySem.W.typeIn K (.ref A.c_NoKey) = some (.type "type")
  m_NoName : mg "NoName" = some (.ref A.c_NoName)
  x_NoName : PySem.W.excIn K A.c_NoName [.type "ValueError", .type "Exception", .type "BaseException", .type "object"] "ValueError.__new__" = true
  k_NoName : PySem.W.keepIn K (.ref A.c_NoName) = true
  eb_NoName : PySem.W.subIn K (.ref A.c_NoName) (.type "BaseException") = some true
  et_NoName : PySem.W.typeIn K (.ref A.c_NoName) = some (.type "type")
  m_NoSize : mg "NoSize" = some (.ref A.c_NoSize)
  x_NoSize : PySem.W.excIn K A.c_NoSize [.type "ValueError", .type "Exception", .type "BaseException", .type "object"] "ValueError.__new__" = true
  k_NoSize : PySem.W.keepIn K (.ref A.c_NoSize) = true
  eb_NoSize : PySem.W.subIn K (.ref A.c_NoSize) (.type "BaseException") = some true
  et_NoSize : PySem.W.typeIn K (.ref A.c_NoSize) = some (.type "type")
  m_Twice : mg "Twice" = some (.ref A.c_Twice)
  x_Twice : PySem.W.excIn K A.c_Twice [.type "ValueError", .type "Exception", .type "BaseException", .type "object"] "ValueError.__new__" = true
  k_Twice : PySem.W.keepIn K (.ref A.c_Twice) = true
  eb_Twice : PySem.W.subIn K (.ref A.c_Twice) (.type "BaseException") = some true
  et_Twice : PySem.W.typeIn K (.ref A.c_Twice) = some (.type "type")
  ec_NoText : ExcC K A.c_NoText
  kx_NoText_ValueError : PySem.W.kitOne K (.ref A.c_NoText) (.type "ValueError") = some true
  kx_NoText_NoText : PySem.W.kitOne K (.ref A.c_NoText) (.ref A.c_NoText) = some true
  kx_NoText_Broken : PySem.W.kitOne K (.ref A.c_NoText) (.ref A.c_Broken) = some false
  kx_NoText_Full : PySem.W.kitOne K (.ref A.c_NoText) (.ref A.c_Full) = some false
  kx_NoText_Lacking : PySem.W.kitOne K (.ref A.c_NoText) (.ref A.c_Lacking) = some false
  kx_NoText_NoDeed : PySem.W.kitOne K (.ref A.c_NoText) (.ref A.c_NoDeed) = some false
  kx_NoText_NoKey : PySem.W.kitOne K (.ref A.c_NoText) (.ref A.c_NoKey) = some false
  kx_NoText_NoName : PySem.W.kitOne K (.ref A.c_NoText) (.ref A.c_NoName) = some false
  kx_NoText_NoSize : PySem.W.kitOne K (.ref A.c_NoText) (.ref A.c_NoSize) = some false
  kx_NoText_Twice : PySem.W.kitOne K (.ref A.c_NoText) (.ref A.c_Twice) = some false
  ex_NoText_BookError : PySem.W.exmOne K (.ref A.c_NoText) (.ref A.c_BookError) = some true
  g_MOST_SIGNS : mg "MOST_SIGNS" = some (.int 60 A.t_MOST_SIGNS)
  g_MOST_PARTS : mg "MOST_PARTS" = some (.int 6 A.t_MOST_PARTS)
  g_DEEPEST : mg "DEEPEST" = some (.int 3 A.t_DEEPEST)
  g_FIGURES : mg "FIGURES" = some (.str (Str.ofString "0123456789") A.t_FIGURES)
  g_MOST_FIGURES : mg "MOST_FIGURES" = some (.int 60 A.t_MOST_FIGURES)
  n_ValueError : mg "ValueError" = none
  n_all : mg "all" = none
  n_any : mg "any" = none
  n_bool : mg "bool" = none
  n_int : mg "int" = none
  n_isinstance : mg "isinstance" = none
  n_len : mg "len" = none
  n_list : mg "list" = none
  n_range : mg "range" = none
  n_str : mg "str" = none
  n_tuple : mg "tuple" = none

end Law
namespace My
open PySem PySem.Spec PyProof.Rows L2
/-! keys written and read, on lists of signs -/
def isFig (c : Nat) : Bool := decide (48 ≤ c ∧ c ≤ 57)
/-- the number ahead: its worth and its length -/
def numP (s : List Nat) : Option (Int × Nat) :=
  let neg := s.head? = some 45
  let f := (if neg then s.drop 1 else s).takeWhile isFig
  if f = [] ∨ 60 < f.length ∨ (f.head? = some 48 ∧ (1 < f.length ∨ neg)) then none
  else some (if neg then -(NumText.digitsVal f : Int) else (NumText.digitsVal f : Int), if neg then f.length + 1 else f.length)
/-- the text behind a quote, and its length with the quote that ends it -/
def quoteP : List Nat → Option (List Nat × Nat)
  | [] => none
  | c :: r => if c = 34 then some ([], 1) else if c = 92 then
      match r with
      | [] => none
      | d :: r => if d = 92 ∨ d = 34 then (quoteP r).map fun p => (d :: p.1, p.2 + 2) else none
    else (quoteP r).map fun p => (c :: p.1, p.2 + 1)
def partsP (f : List Nat → Option (Ky × Nat)) : Nat → Bool → List Nat → Option (List Ky × Nat)
  | 0, _, _ => none
  | n + 1, b, s => if s.head? = some 41 then some ([], 1) else
      if b = false ∧ s.head? ≠ some 32 then none else
      let o := if b = true then 0 else 1
      match f (s.drop o) with
      | none => none
      | some (y, k) => (partsP f n false (s.drop (o + k))).map fun p => (y :: p.1, p.2 + (o + k))
/-- the key ahead, tuples up to d deep: what it is and its length -/
def keyP : Nat → List Nat → Option (Ky × Nat)
  | d, s => match s with
    | [] => none
    | c :: r => if c = 34 then match quoteP r with
        | none => none
        | some (l, k) => if l.length ≤ 60 then some (.txt (SX.S l), k + 1) else none
      else if c = 40 then match d with
        | 0 => none
        | d + 1 => match partsP (keyP d) (r.length + 1) true r with
          | none => none
          | some (ks, k) => if ks.length ≤ 6 then some (.tup ks, k + 1) else none
      else (numP (c :: r)).map fun p => (.num p.1, p.2)
def codesIn (l : List Nat) : Prop := ∀ c ∈ l, c < 0x110000
def spNumAt (CN : Addr) : Sp := fun vs H Q E => ∃ (T : List Nat) (n : Nat), vs = [.str (SX.S T), .int n] ∧ n < T.length ∧ T.length ≤ 2 ^ 20 ∧ (numP (T.drop n) = none → E (.ref CN) none H) ∧ (∀ i k, numP (T.drop n) = some (i, k) → ∀ H' p, Same H H' → Fresh H p → H' p = some (.tup [.int i, .int ((n + k : Nat) : Int)]) → Q (.ref p) H')
theorem len_numAt {CN : Addr} {vs H Q E} (h : spNumAt CN vs H Q E) : vs.length = 2 := by obtain ⟨_, _, rfl, _⟩ := h; rfl
def spQuoteAt (CN : Addr) : Sp := fun vs H Q E => ∃ (T : List Nat) (n : Nat), vs = [.str (SX.S T), .int n] ∧ n < T.length ∧ T.length ≤ 2 ^ 20 ∧ ((∀ l k, quoteP (T.drop (n + 1)) = some (l, k) → 60 < l.length) → ∀ H', Same H H' → E (.ref CN) none H') ∧ (∀ l k, quoteP (T.drop (n + 1)) = some (l, k) → l.length ≤ 60 → ∀ H' p, Same H H' → Fresh H p → H' p = some (.tup [.str (SX.S l), .int ((n + 1 + k : Nat) : Int)]) → Q (.ref p) H')
theorem len_quoteAt {CN : Addr} {vs H Q E} (h : spQuoteAt CN vs H Q E) : vs.length = 2 := by obtain ⟨_, _, rfl, _⟩ := h; rfl
theorem S_inj {a b : List Nat} : SX.S a = SX.S b ↔ a = b := by
  constructor
  · intro h
    have := congrArg (fun z : Str => z.cps.toList) h
    simpa [S_list] using this
  · rintro rfl
    rfl
theorem Vs_eq {a b : List Nat} : V.str (SX.S a) = V.str (SX.S b) ↔ a = b := by
  rw [← S_inj]
  exact ⟨fun h => by injection h, fun h => by rw [h]⟩
theorem cut_SS {l : List Nat} {a b : Nat} (ha : a ≤ l.length) (hb : b ≤ l.length) : cutS (SX.S l) (some (a : Int)) (some (b : Int)) = SX.S ((l.drop a).take (b - a)) := by
  rw [cut_S, HT.sIx_nat, HT.sIx_nat, Nat.min_eq_left ha, Nat.min_eq_left hb]
theorem figs_mem {c : Nat} : c ∈ (Str.ofString "0123456789").cps.toList ↔ isFig c = true := by
  rw [show (Str.ofString "0123456789").cps.toList = [48, 49, 50, 51, 52, 53, 54, 55, 56, 57] by decide +kernel]
  unfold isFig
  rw [decide_eq_true_iff]
  simp only [List.mem_cons, List.not_mem_nil, or_false]
  omega
theorem tw_at {p : Nat → Bool} : ∀ {l : List Nat} {i : Nat}, i ≤ (l.takeWhile p).length → (i < (l.takeWhile p).length ↔ ∃ c, l[i]? = some c ∧ p c = true)
  | [], i, h => by simp at h ⊢
  | x :: l, 0, h => by
    rw [List.takeWhile_cons]
    by_cases c : p x = true
    · rw [if_pos c]; simp [c]
    · rw [if_neg c]; simp [c]
  | x :: l, i + 1, h => by
    rw [List.takeWhile_cons] at h ⊢
    by_cases c : p x = true
    · rw [if_pos c] at h ⊢
      have := tw_at (p := p) (l := l) (i := i) (by simpa using h)
      simpa using this
    · rw [if_neg c] at h
      simp at h
theorem tw_take {p : Nat → Bool} : ∀ {l : List Nat}, l.take (l.takeWhile p).length = l.takeWhile p
  | [] => rfl
  | x :: l => by
    rw [List.takeWhile_cons]
    by_cases c : p x = true
    · rw [if_pos c, List.length_cons, List.take_succ_cons, tw_take]
    · rw [if_neg c]
      rfl
theorem tw_fig {l : List Nat} : NumText.AllDigits (l.takeWhile isFig) := fun c m => by
  have h : isFig c = true := by
    revert m
    induction l with
    | nil => intro m; simp at m
    | cons x l ih =>
      intro m
      rw [List.takeWhile_cons] at m
      by_cases cx : isFig x = true
      · rw [if_pos cx, List.mem_cons] at m
        rcases m with rfl | m
        · exact cx
        · exact ih m
      · rw [if_neg cx] at m
        simp at m
  unfold isFig at h
  exact of_decide_eq_true h
theorem tw_le {p : Nat → Bool} {l : List Nat} : (l.takeWhile p).length ≤ l.length := by
  rw [← tw_take (p := p), List.length_take]
  omega
/-- where the figures begin -/
def bN (c : Nat) : Nat := if c = 45 then 1 else 0
theorem bN_eq {c : Nat} {n : Nat} : ((n : Int) + if decide ((⟨#[c]⟩ : Str) = Str.ofString "-") = true then 1 else 0) = ((n + bN c : Nat) : Int) := by
  have e : ((⟨#[c]⟩ : Str) = Str.ofString "-") ↔ c = 45 := by
    rw [show Str.ofString "-" = SX.S [45] by decide +kernel, S_item, S_inj]
    simp
  unfold bN
  by_cases h : c = 45
  · rw [decide_eq_true (e.mpr h), if_pos rfl, if_pos h]
    rfl
  · rw [decide_eq_false (fun z => h (e.mp z)), if_neg (by decide), if_neg h]
    rfl
theorem numP_at {T : List Nat} {n : Nat} (hn : n < T.length) : numP (T.drop n) = (if (T.drop (n + bN T[n])).takeWhile isFig = [] ∨ 60 < ((T.drop (n + bN T[n])).takeWhile isFig).length ∨ (((T.drop (n + bN T[n])).takeWhile isFig).head? = some 48 ∧ (1 < ((T.drop (n + bN T[n])).takeWhile isFig).length ∨ T[n] = 45)) then none
    else some (if T[n] = 45 then -(NumText.digitsVal ((T.drop (n + bN T[n])).takeWhile isFig) : Int) else (NumText.digitsVal ((T.drop (n + bN T[n])).takeWhile isFig) : Int), bN T[n] + ((T.drop (n + bN T[n])).takeWhile isFig).length)) := by
  have e : T.drop n = T[n] :: T.drop (n + 1) := List.drop_eq_getElem_cons hn
  unfold numP bN
  rw [e]
  by_cases c : T[n] = 45
  · simp only [c, List.head?_cons, if_true, List.drop_succ_cons, List.drop_zero]
    rw [show 1 + ((T.drop (n + 1)).takeWhile isFig).length = ((T.drop (n + 1)).takeWhile isFig).length + 1 by omega]
  · have c2 : ¬ (T[n] :: T.drop (n + 1)).head? = some 45 := fun h => c (by injection h)
    simp only [c, c2, if_false, Nat.add_zero, Nat.zero_add, e]
def cellN (σ : L2.St) (i : Nat) : Nat := match σ[i]? with
  | some (some (.int z)) => z.toNat
  | _ => 0
theorem cut_one {l : List Nat} {a : Nat} (ha : a ≤ l.length) : cutS (SX.S l) (some (a : Int)) (some ((a : Int) + 1)) = SX.S ((l.drop a).take 1) := by
  rw [show (a : Int) + 1 = ((a + 1 : Nat) : Int) by omega, cut_S, HT.sIx_nat, HT.sIx_nat, Nat.min_eq_left ha]
  by_cases h : a + 1 ≤ l.length
  · rw [Nat.min_eq_left h, show a + 1 - a = 1 by omega]
  · rw [Nat.min_eq_right (by omega), List.take_of_length_le (by rw [List.length_drop]; omega), List.take_of_length_le (by rw [List.length_drop]; omega)]
theorem quoteP_end {r : List Nat} : quoteP (34 :: r) = some ([], 1) := by unfold quoteP; rfl
theorem quoteP_plain {c : Nat} {r : List Nat} (h1 : c ≠ 34) (h2 : c ≠ 92) : quoteP (c :: r) = (quoteP r).map fun p => (c :: p.1, p.2 + 1) := by
  rw [quoteP.eq_def]
  dsimp only
  rw [if_neg h1, if_neg h2]
theorem quoteP_esc {d : Nat} {r : List Nat} (h : d = 92 ∨ d = 34) : quoteP (92 :: d :: r) = (quoteP r).map fun p => (d :: p.1, p.2 + 2) := by
  rw [quoteP.eq_def]
  dsimp only
  rw [if_neg (by decide), if_pos rfl, if_pos h]
theorem quoteP_lone {r : List Nat} (h : ∀ d q, r = d :: q → ¬ (d = 92 ∨ d = 34)) : quoteP (92 :: r) = none := by
  rw [quoteP.eq_def]
  dsimp only
  rw [if_neg (by decide), if_pos rfl]
  cases r with
  | nil => rfl
  | cons d q => dsimp only; rw [if_neg (h d q rfl)]
/-- how far the signs behind a quote have been read -/
def QuSt (T : List Nat) (n m : Nat) (l : List Nat) : Prop := n + m ≤ T.length ∧ l.length ≤ m ∧ quoteP (T.drop n) = (quoteP (T.drop (n + m))).map fun q => (l ++ q.1, m + q.2)
theorem QuSt.start {T : List Nat} {n : Nat} (h : n ≤ T.length) : QuSt T n 0 [] := ⟨by omega, Nat.le_refl _, by rw [Nat.add_zero]; cases quoteP (T.drop n) <;> simp⟩
theorem QuSt.plain {T : List Nat} {n m : Nat} {l : List Nat} {c : Nat} (q : QuSt T n m l) (e : T[n + m]? = some c) (h1 : c ≠ 34) (h2 : c ≠ 92) : QuSt T n (m + 1) (l ++ [c]) := by
  obtain ⟨q1, q2, q3⟩ := q
  obtain ⟨hl, ec⟩ := List.getElem?_eq_some_iff.mp e
  refine ⟨by omega, by rw [List.length_append]; simp; omega, ?_⟩
  rw [q3, List.drop_eq_getElem_cons hl, ec, quoteP_plain h1 h2, show n + (m + 1) = n + m + 1 by omega]
  cases quoteP (T.drop (n + m + 1)) with
  | none => rfl
  | some p => simp; omega
theorem QuSt.esc {T : List Nat} {n m : Nat} {l : List Nat} {d : Nat} (q : QuSt T n m l) (e : T[n + m]? = some 92) (e2 : T[n + m + 1]? = some d) (h : d = 92 ∨ d = 34) : QuSt T n (m + 2) (l ++ [d]) := by
  obtain ⟨q1, q2, q3⟩ := q
  obtain ⟨hl, ec⟩ := List.getElem?_eq_some_iff.mp e
  obtain ⟨hl2, ec2⟩ := List.getElem?_eq_some_iff.mp e2
  refine ⟨by omega, by rw [List.length_append]; simp; omega, ?_⟩
  rw [q3, List.drop_eq_getElem_cons hl, ec, List.drop_eq_getElem_cons hl2, ec2, quoteP_esc h, show n + (m + 2) = n + m + 1 + 1 by omega]
  cases quoteP (T.drop (n + m + 1 + 1)) with
  | none => rfl
  | some p => simp; omega
theorem QuSt.lone {T : List Nat} {n m : Nat} {l : List Nat} (q : QuSt T n m l) (e : T[n + m]? = some 92) (h : ∀ d, T[n + m + 1]? = some d → ¬ (d = 92 ∨ d = 34)) : quoteP (T.drop n) = none := by
  obtain ⟨q1, q2, q3⟩ := q
  obtain ⟨hl, ec⟩ := List.getElem?_eq_some_iff.mp e
  rw [q3, List.drop_eq_getElem_cons hl, ec, quoteP_lone fun d r er => h d (by
    have := congrArg List.head? er
    rw [List.head?_drop] at this
    exact this)]
  rfl
theorem QuSt.none {T : List Nat} {n m : Nat} {l : List Nat} (q : QuSt T n m l) (e : n + m = T.length) : quoteP (T.drop n) = none := by
  obtain ⟨q1, q2, q3⟩ := q
  rw [q3, e, List.drop_length]
  rfl
theorem QuSt.done {T : List Nat} {n m : Nat} {l : List Nat} (q : QuSt T n m l) (e : T[n + m]? = some 34) : quoteP (T.drop n) = some (l, m + 1) := by
  obtain ⟨q1, q2, q3⟩ := q
  obtain ⟨hl, ec⟩ := List.getElem?_eq_some_iff.mp e
  rw [q3, List.drop_eq_getElem_cons hl, ec, quoteP_end]
  simp
theorem V1_eq {c d : Nat} : (⟨#[c]⟩ : Str) = SX.S [d] ↔ c = d := by
  rw [S_item, S_inj]
  simp
theorem cut1_ne {T : List Nat} {a d : Nat} (ha : a ≤ T.length) : cutS (SX.S T) (some (a : Int)) (some ((a : Int) + 1)) = SX.S [d] ↔ T[a]? = some d := by
  rw [cut_one ha, S_inj]
  cases e : T[a]? with
  | none =>
    have : T.length ≤ a := by rwa [List.getElem?_eq_none_iff] at e
    rw [List.drop_eq_nil_of_le this]
    simp
  | some c =>
    obtain ⟨hl, ec⟩ := List.getElem?_eq_some_iff.mp e
    rw [List.drop_eq_getElem_cons hl, ec]
    simp
theorem q_S : Str.ofString "\"" = SX.S [34] := by decide +kernel
theorem b_S : Str.ofString "\\" = SX.S [92] := by decide +kernel
theorem bb_S : Str.ofString "\\\\" = SX.S [92, 92] := by decide +kernel
theorem bq_S : Str.ofString "\\\"" = SX.S [92, 34] := by decide +kernel
theorem o_S : Str.ofString "(" = SX.S [40] := by decide +kernel
theorem c_S : Str.ofString ")" = SX.S [41] := by decide +kernel
theorem sp_S : Str.ofString " " = SX.S [32] := by decide +kernel
end My
namespace Law
open PySem PySem.Spec PyProof.Rows L2 My
theorem sc_number_at : FnScope ["text", "at", "begin", "end", "figures"] ["text", "at"] (defScope s_number_at) := ⟨rfl, rfl, rfl, by decide +kernel, rfl, by decide +kernel, by decide +kernel⟩
theorem ok_number_at {P : Program} {w : World} {K : PySem.W.Frag} {mg : Str → Option Value} {base : Heap} {A : Ad} (T : Txt K mg A) : FnOk P w K mg base (L2N.CX P w) 1 A.a_number_at A.d_number_at ["text", "at"] (spNumAt A.c_NoText) := by
  refine My.okN T.F_number_at sc_number_at (fun vs H Q E h => ?_) (fun cdv A' outer s H vs Q E hr h => ?_)
  · exact len_numAt h
  · have nd := sc_number_at.nd
    have hu := hu_of hr
    refine ⟨_, (pss_cons (ps_set (i := 2) nd rfl (Or.inl rfl) (pe_op op_add (pv 1) (pe_callTy call_int1 rfl T.n_int (by decide +kernel) (pa_cons (pe_cmpR op_eq (pe_ix ix_str (pv 0) (pv 1) (fun _ _ => rfl)) pe_str (nomark _)) pa_nil)))) (pss_cons (ps_set (i := 3) nd rfl (Or.inl rfl) (pv 2)) (C8.pss_cut (ps_while (passes_of rfl) (PW.pt (pw_and (pt_cmpR op_lt (pv 3) (pe_callB call_lenU rfl T.n_len PySem.boot_len (pa_cons (pv 0) pa_nil)) (nomark _)) (pw_and1 (pt_cmpR op_in_sign (pe_ix ix_str (pv 0) (pv 3) (fun _ _ => rfl)) (pe_glob (v := .str (Str.ofString "0123456789")) rfl T.g_FIGURES ⟨_, rfl⟩) (by with_unfolding_all rfl))))) (pss_one (ps_aug (i := 3) nd rfl (Or.inl rfl) pe_int ip_add))) (pss_cons (ps_set (i := 4) nd rfl (Or.inl rfl) (pe_slice sl_str (pv 0) (po_some (pv 2)) (po_some (pv 3)))) (pss_cons (ps_if (PW.pt (pw_or (pt_cmpR op_eq (pv 4) pe_str (nomark _)) (pw_or1 (pt_cmpR op_gt (pe_callB call_lenU rfl T.n_len PySem.boot_len (pa_cons (pv 4) pa_nil)) (pe_glob (v := .int 60) rfl T.g_MOST_FIGURES ⟨_, rfl⟩) (nomark _))))) (pss_one (L2N.ps_raise rfl (L2N.takes_of rfl rfl rfl rfl) (L2N.pmk_own PySem.F.excBase_ValueError T.x_NoText T.m_NoText T.k_NoText (raises_own T.eb_NoText T.et_NoText) rfl))) pss_nil) (pss_cons (ps_if (PW.pt (pw_and (pt_cmpR op_eq (pe_ix ix_str (pv 4) pe_int (fun _ _ => rfl)) pe_str (nomark _)) (pw_and1 (PW.pt (pw_or (pt_cmpR op_gt (pe_callB call_lenU rfl T.n_len PySem.boot_len (pa_cons (pv 4) pa_nil)) pe_int (nomark _)) (pw_or1 (pt_cmpR op_gt (pv 2) (pv 1) (nomark _)))))))) (pss_one (L2N.ps_raise rfl (L2N.takes_of rfl rfl rfl rfl) (L2N.pmk_own PySem.F.excBase_ValueError T.x_NoText T.m_NoText T.k_NoText (raises_own T.eb_NoText T.et_NoText) rfl))) pss_nil) (pss_one (ps_ret (pe_tup (pa_cons (pe_callTy call_int_str rfl T.n_int (by decide +kernel) (pa_cons (pe_slice sl_str (pv 0) (po_some (pv 1)) (po_some (pv 3))) pa_nil)) (pa_cons (pv 3) pa_nil))))))))))), ?_⟩
    clear nd
    obtain ⟨T, n, rfl, hn, hc, k0, k1⟩ := h
    walk_at "rd"
    have sz : (SX.S T).length ≤ sizeLine := by rw [SX.S_len, sizeLine_eq]; omega
    refine ⟨T[n], sz, atI_nat (List.getElem?_eq_getElem hn), .inr ⟨_, rfl, ?_⟩⟩
    rw [bN_eq]
    rw [numP_at hn] at k0 k1
    have hb : bN T[n] ≤ 1 := by unfold bN; split <;> omega
    have hbn : n + bN T[n] ≤ T.length := by omega
    generalize eB : n + bN T[n] = B at *
    have hF : ((T.drop B).takeWhile isFig).length ≤ T.length - B := by rw [← List.length_drop]; exact tw_le
    generalize eF : (T.drop B).takeWhile isFig = F at *
    refine ⟨fun σ H' => H' = H ∧ σ = [some (.str (SX.S T)), some (.int n), some (.int (B : Nat)), some (.int ((B + F.length : Nat) : Int)), none], ?_, ?_⟩
    · refine go_while (fun σ H' => H' = H ∧ ∃ i : Nat, σ = [some (.str (SX.S T)), some (.int n), some (.int (B : Nat)), some (.int ((B + i : Nat) : Int)), none] ∧ i ≤ F.length) (fun σ _ => T.length - cellN σ 3) ⟨rfl, 0, rfl, Nat.zero_le _⟩ ?_
      rintro R σ H' ⟨rfl, i, rfl, li⟩ hR
      walk_at "rd"
      have ta := tw_at (p := isFig) (l := T.drop B) (i := i) (by rw [eF]; exact li)
      rw [eF, List.getElem?_drop] at ta
      refine ⟨sz, iteB (fun c1 => ?_) fun c1 => ?_⟩
      · have c1 : B + i < T.length := by rw [SX.S_len] at c1; omega
        have e1 := List.getElem?_eq_getElem c1
        refine ⟨T[B + i], sz, atI_nat e1, T[B + i], _, rfl, rfl, iteB (fun c2 => hR _ fun N hN => ?_) fun c2 => ?_⟩
        · have li2 := ta.mpr ⟨_, e1, figs_mem.mp c2⟩
          walk_at "rd"
          rw [show ((B + i : Nat) : Int) + 1 = ((B + (i + 1) : Nat) : Int) by omega]
          refine hN _ _ ⟨rfl, i + 1, rfl, li2⟩ ?_
          show T.length - ((B + (i + 1) : Nat) : Int).toNat < T.length - ((B + i : Nat) : Int).toNat
          omega
        · have : ¬ i < F.length := fun h => by
            obtain ⟨c, h1, h2⟩ := ta.mp h
            rw [e1] at h1
            cases h1
            exact c2 (figs_mem.mpr h2)
          rw [show i = F.length by omega]
      · have : ¬ i < F.length := fun h => by
          obtain ⟨c, h1, h2⟩ := ta.mp h
          have := (List.getElem?_eq_some_iff.mp h1).1
          rw [SX.S_len] at c1
          omega
        rw [show i = F.length by omega]
    · rintro σ H' ⟨rfl, rfl⟩
      walk_at "rd"
      have eFc : cutS (SX.S T) (some (B : Int)) (some ((B + F.length : Nat) : Int)) = SX.S F := by
        rw [cut_SS hbn (by omega), show B + F.length - B = F.length by omega, ← eF, tw_take]
      have hB : (n < B ↔ T[n] = 45) ∧ (T[n] ≠ 45 → B = n) ∧ (T[n] = 45 → B = n + 1) := by
        unfold bN at eB
        split at eB <;> omega
      have fin : ¬ (F = [] ∨ 60 < F.length ∨ (F.head? = some 48 ∧ (1 < F.length ∨ T[n] = 45))) → ∃ (a : Str) (n_1 : Int), [V.str (cutS (SX.S T) (some (n : Int)) (some ((B + F.length : Nat) : Int)))] = [V.str a] ∧ intText? a = some n_1 ∧ a.length ≤ 640 ∧ [V.int n_1, V.int ((B + F.length : Nat) : Int)].length ≤ sizeLine ∧ ∀ p : Addr, Fresh H' p → Q (V.ref p) (upd H' p (HO.tup [V.int n_1, V.int ((B + F.length : Nat) : Int)])) := fun nc => by
        have ad : NumText.AllDigits F := by rw [← eF]; exact tw_fig
        have l60 : F.length ≤ 60 := by omega
        have ne : F ≠ [] := fun h => nc (.inl h)
        refine ⟨_, if T[n] = 45 then -(NumText.digitsVal F : Int) else (NumText.digitsVal F : Int), rfl, ?_, ?_, by walk_at "sz", fun p hp => k1 _ _ (if_neg nc) _ p (Same_upd (Same.refl _) hp) hp (by rw [upd_same, show n + (bN T[n] + F.length) = B + F.length by omega])⟩
        · rw [cut_SS (by omega) (by omega)]
          by_cases c : T[n] = 45
          · rw [if_pos c]
            have e : (T.drop n).take (B + F.length - n) = 45 :: F := by
              rw [List.drop_eq_getElem_cons hn, hB.2.2 c, show n + 1 + F.length - n = F.length + 1 by omega, List.take_succ_cons, c, ← hB.2.2 c, ← eF, tw_take]
            rw [e]
            refine intText_neg (cs := F) (by rw [S_list]) ad ne (by rw [SX.S_len, List.length_cons]; omega)
          · rw [if_neg c]
            have e : (T.drop n).take (B + F.length - n) = F := by
              rw [hB.2.1 c, show n + F.length - n = F.length by omega, ← hB.2.1 c, ← eF, tw_take]
            rw [e]
            have := intText_digits (x := SX.S F) (by rw [S_list]; exact ad) (by rw [S_list]; exact ne) (by rw [SX.S_len]; omega)
            rw [S_list] at this
            exact this
        · rw [cut_SS (by omega) (by omega), SX.S_len, List.length_take]
          omega
      have szF : (SX.S F).length ≤ sizeLine := by rw [SX.S_len, sizeLine_eq]; omega
      rw [eFc, empty_S]
      refine ⟨sz, iteB (fun c => k0 (if_pos (.inl (S_inj.mp c)))) fun c => ⟨szF, iteB (fun c2 => k0 (if_pos (.inr (.inl (by rw [SX.S_len] at c2; omega))))) fun c2 => ?_⟩⟩
      have c2 : ¬ 60 < F.length := by rw [SX.S_len] at c2; omega
      have c : F ≠ [] := fun h => c (S_inj.mpr h)
      have e0 : F[0]? = some (F.headD 0) := by
        cases F with
        | nil => exact absurd rfl c
        | cons x F => rfl
      have eh : F.head? = some (F.headD 0) := by
        cases F with
        | nil => exact absurd rfl c
        | cons x F => rfl
      refine ⟨F.headD 0, szF, by rw [S_list]; exact atI_nat (j := 0) e0, ?_⟩
      rw [S_item, show Str.ofString "0" = SX.S [48] by decide +kernel]
      have q3 : SX.S [F.headD 0] = SX.S [48] → F.head? = some 48 := fun h => by
        have h := S_inj.mp h
        injection h with h
        rw [eh, h]
      have q4 : ¬ SX.S [F.headD 0] = SX.S [48] → F.head? ≠ some 48 := fun h z => h (by
        rw [eh] at z
        injection z with z
        rw [z])
      refine iteB (fun c3 => ⟨szF, iteB (fun c4 => k0 (if_pos (.inr (.inr ⟨q3 c3, .inl (by rw [SX.S_len] at c4; omega)⟩)))) fun c4 => iteB (fun c5 => k0 (if_pos (.inr (.inr ⟨q3 c3, .inr (hB.1.mp (by omega))⟩)))) fun c5 => ⟨sz, fin fun h => ?_⟩⟩) fun c3 => ⟨sz, fin fun h => ?_⟩
      · rcases h with h | h | ⟨-, h | h⟩
        · exact c h
        · exact c2 h
        · rw [SX.S_len] at c4
          omega
        · have := hB.1.mpr h
          omega
      · rcases h with h | h | ⟨h, -⟩
        · exact c h
        · exact c2 h
        · exact q4 c3 h

end Law
namespace Law
open PySem PySem.Spec PyProof.Rows L2 My
theorem sc_quoted_at : FnScope ["text", "at", "signs"] ["text", "at"] (defScope s_quoted_at) := ⟨rfl, rfl, rfl, by decide +kernel, rfl, by decide +kernel, by decide +kernel⟩
theorem ok_quoted_at {P : Program} {w : World} {K : PySem.W.Frag} {mg : Str → Option Value} {base : Heap} {A : Ad} (T : Txt K mg A) : FnOk P w K mg base (L2N.CX P w) 1 A.a_quoted_at A.d_quoted_at ["text", "at"] (spQuoteAt A.c_NoText) := by
  refine My.okN T.F_quoted_at sc_quoted_at (fun vs H Q E h => ?_) (fun cdv A' outer s H vs Q E hr h => ?_)
  · exact len_quoteAt h
  · have nd := sc_quoted_at.nd
    have hu := hu_of hr
    refine ⟨_, (pss_cons (ps_set (i := 2) nd rfl (Or.inl rfl) (pe_lst pa_nil)) (pss_cons (ps_aug (i := 1) nd rfl (Or.inl rfl) pe_int ip_add) (C8.pss_cut (ps_while (passes_of rfl) (PW.pt (pw_and (pt_cmpR op_lt (pv 1) (pe_callB call_lenU rfl T.n_len PySem.boot_len (pa_cons (pv 0) pa_nil)) (nomark _)) (pw_and1 (pt_cmpR op_ne (pe_ix ix_str (pv 0) (pv 1) (fun _ _ => rfl)) pe_str (nomark _))))) (pss_cons (ps_if (pt_cmpR op_eq (pe_ix ix_str (pv 0) (pv 1) (fun _ _ => rfl)) pe_str (nomark _)) (pss_cons (ps_aug (i := 1) nd rfl (Or.inl rfl) pe_int ip_add) (pss_one (ps_if (PW.pt (pw_and (pt_cmpR op_ne (pe_slice sl_str (pv 0) (po_some (pv 1)) (po_some (pe_op op_add (pv 1) pe_int))) pe_str (nomark _)) (pw_and1 (pt_cmpR op_ne (pe_slice sl_str (pv 0) (po_some (pv 1)) (po_some (pe_op op_add (pv 1) pe_int))) pe_str (nomark _))))) (pss_one (L2N.ps_raise rfl (L2N.takes_of rfl rfl rfl rfl) (L2N.pmk_own PySem.F.excBase_ValueError T.x_NoText T.m_NoText T.k_NoText (raises_own T.eb_NoText T.et_NoText) rfl))) pss_nil))) pss_nil) (pss_cons (ps_expr (pe_bm PySem.F.plainAttrs_list PySem.F.slot_list_append PySem.F.type_list_append mt_append (pv 2) (pa_cons (pe_ix ix_str (pv 0) (pv 1) (fun _ _ => rfl)) pa_nil))) (pss_one (ps_aug (i := 1) nd rfl (Or.inl rfl) pe_int ip_add))))) (pss_cons (ps_if (PW.pt (pw_or (pt_cmpR op_eq (pv 1) (pe_callB call_lenU rfl T.n_len PySem.boot_len (pa_cons (pv 0) pa_nil)) (nomark _)) (pw_or1 (pt_cmpR op_gt (pe_callB call_lenU rfl T.n_len PySem.boot_len (pa_cons (pv 2) pa_nil)) (pe_glob (v := .int 60) rfl T.g_MOST_SIGNS ⟨_, rfl⟩) (nomark _))))) (pss_one (L2N.ps_raise rfl (L2N.takes_of rfl rfl rfl rfl) (L2N.pmk_own PySem.F.excBase_ValueError T.x_NoText T.m_NoText T.k_NoText (raises_own T.eb_NoText T.et_NoText) rfl))) pss_nil) (pss_one (ps_ret (pe_tup (pa_cons (pe_m1 PySem.F.slot_str_join PySem.F.type_str_join mt_joinq pe_str (pv 2)) (pa_cons (pe_op op_add (pv 1) pe_int) pa_nil))))))))), ?_⟩
    clear nd
    obtain ⟨T, n, rfl, hn, hc, k0, k1⟩ := h
    have sz : (SX.S T).length ≤ sizeLine := by rw [SX.S_len, sizeLine_eq]; omega
    walk_at "rd"
    refine ⟨by walk_at "sz", fun p hp => ?_⟩
    have s0 := Same_upd (o := .lst []) (Same.refl H) hp
    have e0 := upd_same (H := H) (a := p) (o := .lst [])
    generalize upd H p (.lst []) = H0 at s0 e0 ⊢
    have P0 : ∃ m l, [some (V.str (SX.S T)), some (V.int ((n : Int) + 1)), some (V.ref p)] = [some (V.str (SX.S T)), some (V.int ((n + 1 + m : Nat) : Int)), some (V.ref p)] ∧ Same H H0 ∧ H0 p = some (.lst (l.map fun c => V.str ⟨#[c]⟩)) ∧ QuSt T (n + 1) m l := ⟨0, [], by rw [show ((n : Int) + 1) = ((n + 1 + 0 : Nat) : Int) by omega], s0, e0, .start (by omega)⟩
    refine ⟨fun σ H' => ∃ m l, σ = [some (V.str (SX.S T)), some (V.int ((n + 1 + m : Nat) : Int)), some (V.ref p)] ∧ Same H H' ∧ H' p = some (.lst (l.map fun c => V.str ⟨#[c]⟩)) ∧ QuSt T (n + 1) m l ∧ (n + 1 + m = T.length ∨ T[n + 1 + m]? = some 34), ?_, ?_⟩
    · refine go_while (fun σ H' => ∃ m l, σ = [some (V.str (SX.S T)), some (V.int ((n + 1 + m : Nat) : Int)), some (V.ref p)] ∧ Same H H' ∧ H' p = some (.lst (l.map fun c => V.str ⟨#[c]⟩)) ∧ QuSt T (n + 1) m l) (fun σ _ => T.length - cellN σ 1) P0 ?_
      rintro R σ H' ⟨m, l, rfl, s1, e1, q⟩ hR
      walk_at "rd"
      have q1 := q.1
      refine ⟨sz, iteB (fun c1 => ?_) fun c1 => ⟨m, l, rfl, s1, e1, q, .inl (by rw [SX.S_len] at c1; omega)⟩⟩
      have c1 : n + 1 + m < T.length := by rw [SX.S_len] at c1; omega
      have et := List.getElem?_eq_getElem c1
      refine ⟨T[n + 1 + m], sz, atI_nat et, ?_⟩
      rw [q_S]
      by_cases c34 : T[n + 1 + m] = 34
      · rw [if_neg (fun h => h (V1_eq.mpr c34))]
        exact ⟨m, l, rfl, s1, e1, q, .inr (by rw [et, c34])⟩
      rw [if_pos (fun h => c34 (V1_eq.mp h))]
      refine hR _ fun N hN => ?_
      walk_at "rd"
      refine ⟨T[n + 1 + m], sz, atI_nat et, ?_⟩
      rw [b_S, q_S]
      refine iteB (fun c92 => ?_) fun c92 => ?_
      · have c92 := V1_eq.mp c92
        have et92 : T[n + 1 + m]? = some 92 := by rw [et, c92]
        rw [show ((n + 1 + m : Nat) : Int) + 1 = ((n + 1 + m + 1 : Nat) : Int) by omega]
        have fin : ∀ d, T[n + 1 + m + 1]? = some d → (d = 92 ∨ d = 34) → tyV K "list" (V.ref p) H' ∧ ∃ c, (SX.S T).length ≤ sizeLine ∧ atI T ((n + 1 + m + 1 : Nat) : Int) = some c ∧ ∃ xs, H' p = some (HO.lst xs) ∧ xs.length < sizeLine ∧ N [some (V.str (SX.S T)), some (V.int (((n + 1 + m + 1 : Nat) : Int) + 1)), some (V.ref p)] (upd H' p (HO.lst (xs ++ [V.str ⟨#[c]⟩]))) := fun d ed hd => by
          refine ⟨tyL e1, d, sz, atI_nat ed, _, e1, by have := q.2.1; rw [List.length_map, sizeLine_eq]; omega, hN _ _ ⟨m + 2, l ++ [d], by rw [show ((n + 1 + m + 1 : Nat) : Int) + 1 = ((n + 1 + (m + 2) : Nat) : Int) by omega], Same_upd0 s1 hp, by rw [upd_same, List.map_append]; rfl, q.esc et92 ed hd⟩ ?_⟩
          show T.length - (((n + 1 + m + 1 : Nat) : Int) + 1).toNat < T.length - ((n + 1 + m : Nat) : Int).toNat
          omega
        refine ⟨sz, iteB (fun h1 => ⟨sz, iteB (fun h2 => k0 (fun l' k' e => ?_) H' s1) fun h2 => fin 34 ((cut1_ne (by omega)).mp (Decidable.of_not_not h2)) (.inr rfl)⟩) fun h1 => fin 92 ((cut1_ne (by omega)).mp (Decidable.of_not_not h1)) (.inl rfl)⟩
        rw [q.lone et92 fun d ed hd => by
          rcases hd with rfl | rfl
          · exact h1 ((cut1_ne (by omega)).mpr ed)
          · exact h2 ((cut1_ne (by omega)).mpr ed)] at e
        cases e
      · have c92 : T[n + 1 + m] ≠ 92 := fun h => c92 (V1_eq.mpr h)
        refine ⟨tyL e1, T[n + 1 + m], sz, atI_nat et, _, e1, by have := q.2.1; rw [List.length_map, sizeLine_eq]; omega, hN _ _ ⟨m + 1, l ++ [T[n + 1 + m]], by rw [show ((n + 1 + m : Nat) : Int) + 1 = ((n + 1 + (m + 1) : Nat) : Int) by omega], Same_upd0 s1 hp, by rw [upd_same, List.map_append]; rfl, q.plain et c34 c92⟩ ?_⟩
        show T.length - (((n + 1 + m : Nat) : Int) + 1).toNat < T.length - ((n + 1 + m : Nat) : Int).toNat
        omega
    · rintro σ H' ⟨m, l, rfl, s1, e1, q, hq⟩
      walk_at "rd"
      have q1 := q.1
      refine ⟨sz, iteB (fun c => k0 (fun l' k' e => ?_) H' s1) fun c => ?_⟩
      · rw [q.none (by rw [SX.S_len] at c; omega)] at e
        cases e
      have c : ¬ n + 1 + m = T.length := fun h => c (by rw [SX.S_len, h])
      have qd := q.done (hq.resolve_left c)
      refine ⟨_, .inl (SqL.of e1), iteB (fun c2 => k0 (fun l' k' e => ?_) H' s1) fun c2 => ?_⟩
      · rw [qd] at e
        cases e
        rw [List.length_map] at c2
        omega
      · rw [List.length_map] at c2
        refine join_ones (SqL.of e1) (by omega) fun ys ey => ?_
        rw [ey]
        refine ⟨by walk_at "sz", fun p2 hp2 => k1 l (m + 1) qd (by omega) _ p2 (s1.trans (Same_upd (Same.refl _) hp2)) (Same_fresh s1 hp2) ?_⟩
        rw [upd_same, show ((n + 1 + m : Nat) : Int) + 1 = ((n + 1 + (m + 1) : Nat) : Int) by omega]

end Law
namespace My
open PySem PySem.Spec PyProof.Rows L2
/-- the key that begins at a place, m = deepest + 1 (for none at all: never) -/
def spKeyAt (CN : Addr) (m : Nat) : Sp := fun vs H Q E => match m with
  | 0 => False
  | d + 1 => ∃ (T : List Nat) (n : Nat), vs = [.str (SX.S T), .int n, .int d] ∧ n ≤ T.length ∧ T.length ≤ 2 ^ 20 ∧ codesIn T ∧ (keyP d (T.drop n) = none → ∀ H', Same H H' → E (.ref CN) none H') ∧ (∀ y k, keyP d (T.drop n) = some (y, k) → ∀ H' p v, Same H H' → Fresh H p → H' p = some (.tup [v, .int ((n + k : Nat) : Int)]) → KyAt H' v y → Q (.ref p) H')
theorem len_keyAt {CN : Addr} {m : Nat} {vs H Q E} (h : spKeyAt CN m vs H Q E) : vs.length = 3 := by
  cases m with
  | zero => exact h.elim
  | succ d => obtain ⟨_, _, rfl, _⟩ := h; rfl
def tupP (d : Nat) (r : List Nat) : Option (Ky × Nat) := match d with
  | 0 => none
  | d + 1 => match partsP (keyP d) (r.length + 1) true r with
    | none => none
    | some (ks, k) => if ks.length ≤ 6 then some (.tup ks, k + 1) else none
def spTupAt (CN : Addr) (m : Nat) : Sp := fun vs H Q E => ∃ (T : List Nat) (n : Nat), vs = [.str (SX.S T), .int n, .int m] ∧ n < T.length ∧ T.length ≤ 2 ^ 20 ∧ codesIn T ∧ (tupP m (T.drop (n + 1)) = none → ∀ H', Same H H' → E (.ref CN) none H') ∧ (∀ y k, tupP m (T.drop (n + 1)) = some (y, k) → ∀ H' p v, Same H H' → Fresh H p → H' p = some (.tup [v, .int ((n + k : Nat) : Int)]) → KyAt H' v y → Q (.ref p) H')
theorem len_tupAt {CN : Addr} {m : Nat} {vs H Q E} (h : spTupAt CN m vs H Q E) : vs.length = 3 := by obtain ⟨_, _, rfl, _⟩ := h; rfl
theorem codesIn_drop {l : List Nat} (h : codesIn l) (n : Nat) : codesIn (l.drop n) := fun c m => h c (List.mem_of_mem_drop m)
theorem strOk_in {l : List Nat} (h : codesIn l) : PyData.strOk (SX.S l) = true := by
  show (SX.S l).cps.all (· < 0x110000) = true
  rw [← Array.all_toList, List.all_eq_true]
  intro c hc
  exact decide_eq_true (h c (by simpa using hc))
/-- what a part's reader tells -/
def PrOk (f : List Nat → Option (Ky × Nat)) (P : Ky → Prop) : Prop := ∀ s y k, codesIn s → f s = some (y, k) → P y ∧ 1 ≤ k ∧ k ≤ s.length
theorem partsP_ok {f : List Nat → Option (Ky × Nat)} {P : Ky → Prop} (hf : PrOk f P) : ∀ (n : Nat) (b : Bool) (s : List Nat) (ks : List Ky) (k : Nat), codesIn s → partsP f n b s = some (ks, k) → (∀ y ∈ ks, P y) ∧ 1 ≤ k ∧ k ≤ s.length
  | 0, _, _, _, _, _, h => by rw [partsP] at h; cases h
  | n + 1, b, s, ks, k, hs, h => by
    rw [partsP] at h
    by_cases c1 : s.head? = some 41
    · rw [if_pos c1] at h
      cases h
      refine ⟨(fun _ m => by cases m), Nat.le_refl _, ?_⟩
      cases s with
      | nil => simp at c1
      | cons x s => simp
    · rw [if_neg c1] at h
      by_cases c2 : b = false ∧ s.head? ≠ some 32
      · rw [if_pos c2] at h
        cases h
      · rw [if_neg c2] at h
        dsimp only at h
        generalize eo : (if b = true then 0 else 1) = o at h
        cases e : f (s.drop o) with
        | none => rw [e] at h; cases h
        | some p =>
          obtain ⟨y, j⟩ := p
          rw [e] at h
          dsimp only at h
          obtain ⟨h1, h2, h3⟩ := hf _ _ _ (codesIn_drop hs _) e
          rw [List.length_drop] at h3
          cases e2 : partsP f n false (s.drop (o + j)) with
          | none => rw [e2] at h; cases h
          | some q =>
            rw [e2] at h
            injection h with h
            injection h with ha hb
            obtain ⟨g1, g2, g3⟩ := partsP_ok hf n false _ _ _ (codesIn_drop hs _) e2
            rw [List.length_drop] at g3
            refine ⟨fun z m => ?_, by omega, by omega⟩
            rw [← ha, List.mem_cons] at m
            rcases m with rfl | m
            · exact h1
            · exact g1 z m
theorem quoteP_ok : ∀ (n : Nat) (s l : List Nat) (k : Nat), s.length ≤ n → codesIn s → quoteP s = some (l, k) → codesIn l ∧ 1 ≤ k ∧ k ≤ s.length := by
  intro n
  induction n with
  | zero =>
    intro s l k hl hs h
    cases s with
    | nil => unfold quoteP at h; cases h
    | cons c r => simp at hl
  | succ n ih =>
    intro s l k hl hs h
    cases s with
    | nil => unfold quoteP at h; cases h
    | cons c r =>
      have hr : codesIn r := fun x m => hs x (List.mem_cons_of_mem _ m)
      rw [List.length_cons] at hl
      by_cases c34 : c = 34
      · subst c34
        rw [quoteP_end] at h
        cases h
        exact ⟨(fun _ m => by cases m), Nat.le_refl _, by simp⟩
      · by_cases c92 : c = 92
        · subst c92
          by_cases hd : ∃ d q, r = d :: q ∧ (d = 92 ∨ d = 34)
          · obtain ⟨d, q, rfl, hd⟩ := hd
            rw [quoteP_esc hd] at h
            cases e : quoteP q with
            | none => rw [e] at h; cases h
            | some p =>
              rw [e] at h
              injection h with h
              injection h with ha hb
              rw [List.length_cons] at hl
              obtain ⟨g1, g2, g3⟩ := ih q p.1 p.2 (by omega) (fun x m => hr x (List.mem_cons_of_mem _ m)) (by rw [e])
              refine ⟨fun x m => ?_, by omega, by simp only [List.length_cons]; omega⟩
              rw [← ha, List.mem_cons] at m
              rcases m with rfl | m
              · exact hr _ (List.mem_cons_self ..)
              · exact g1 x m
          · rw [quoteP_lone fun d q er hh => hd ⟨d, q, er, hh⟩] at h
            cases h
        · rw [quoteP_plain c34 c92] at h
          cases e : quoteP r with
          | none => rw [e] at h; cases h
          | some p =>
            rw [e] at h
            injection h with h
            injection h with ha hb
            obtain ⟨g1, g2, g3⟩ := ih r p.1 p.2 (by omega) hr (by rw [e])
            refine ⟨fun x m => ?_, by omega, by simp only [List.length_cons]; omega⟩
            rw [← ha, List.mem_cons] at m
            rcases m with rfl | m
            · exact hs _ (List.mem_cons_self ..)
            · exact g1 x m
theorem numP_ok {s : List Nat} {i : Int} {k : Nat} (h : numP s = some (i, k)) : 1 ≤ k ∧ k ≤ s.length := by
  unfold numP at h
  dsimp only at h
  by_cases c45 : s.head? = some 45
  · simp only [if_pos c45] at h
    by_cases c : (s.drop 1).takeWhile isFig = [] ∨ 60 < ((s.drop 1).takeWhile isFig).length ∨ (((s.drop 1).takeWhile isFig).head? = some 48 ∧ (1 < ((s.drop 1).takeWhile isFig).length ∨ s.head? = some 45))
    · rw [if_pos c] at h
      cases h
    · rw [if_neg c] at h
      injection h with h
      injection h with ha hb
      have l1 := List.length_pos_iff.mpr fun e => c (.inl e)
      have l2 := tw_le (p := isFig) (l := s.drop 1)
      rw [List.length_drop] at l2
      omega
  · simp only [if_neg c45] at h
    by_cases c : s.takeWhile isFig = [] ∨ 60 < (s.takeWhile isFig).length ∨ ((s.takeWhile isFig).head? = some 48 ∧ (1 < (s.takeWhile isFig).length ∨ s.head? = some 45))
    · rw [if_pos c] at h
      cases h
    · rw [if_neg c] at h
      injection h with h
      injection h with ha hb
      have l1 := List.length_pos_iff.mpr fun e => c (.inl e)
      have l2 := tw_le (p := isFig) (l := s)
      omega
theorem keyP_nil {d : Nat} : keyP d [] = none := by unfold keyP; rfl
theorem keyP_quote {d : Nat} {r : List Nat} : keyP d (34 :: r) = match quoteP r with
    | none => none
    | some (l, k) => if l.length ≤ 60 then some (.txt (SX.S l), k + 1) else none := by
  rw [keyP.eq_def]
  dsimp only
  rw [if_pos rfl]
  all_goals (cases quoteP r <;> rfl)
theorem keyP_open {d : Nat} {r : List Nat} : keyP d (40 :: r) = tupP d r := by
  rw [keyP.eq_def]
  dsimp only
  rw [if_neg (by decide), if_pos rfl]
  cases d <;> rfl
theorem keyP_num {d c : Nat} {r : List Nat} (h1 : c ≠ 34) (h2 : c ≠ 40) : keyP d (c :: r) = (numP (c :: r)).map fun p => (.num p.1, p.2) := by
  rw [keyP.eq_def]
  dsimp only
  rw [if_neg h1, if_neg h2]
theorem keyP_val : ∀ d : Nat, PrOk (keyP d) fun y => y.val = true := by
  intro d
  induction d with
  | zero =>
    intro s y k hs h
    cases s with
    | nil => rw [keyP_nil] at h; cases h
    | cons c r =>
      by_cases c1 : c = 34
      · subst c1
        rw [keyP_quote] at h
        cases e : quoteP r with
        | none => rw [e] at h; cases h
        | some p =>
          rw [e] at h
          dsimp only at h
          split at h
          · cases h
            obtain ⟨g1, g2, g3⟩ := quoteP_ok r.length r p.1 p.2 (Nat.le_refl _) (fun x m => hs x (List.mem_cons_of_mem _ m)) (by rw [e])
            exact ⟨strOk_in g1, by omega, by rw [List.length_cons]; omega⟩
          · cases h
      · by_cases c2 : c = 40
        · subst c2
          rw [keyP_open] at h
          cases h
        · rw [keyP_num c1 c2] at h
          cases e : numP (c :: r) with
          | none => rw [e] at h; cases h
          | some p =>
            rw [e] at h
            cases h
            exact ⟨rfl, numP_ok (i := p.1) (by rw [e])⟩
  | succ d ih =>
    intro s y k hs h
    cases s with
    | nil => rw [keyP_nil] at h; cases h
    | cons c r =>
      have hr : codesIn r := fun x m => hs x (List.mem_cons_of_mem _ m)
      by_cases c1 : c = 34
      · subst c1
        rw [keyP_quote] at h
        cases e : quoteP r with
        | none => rw [e] at h; cases h
        | some p =>
          rw [e] at h
          dsimp only at h
          split at h
          · cases h
            obtain ⟨g1, g2, g3⟩ := quoteP_ok r.length r p.1 p.2 (Nat.le_refl _) hr (by rw [e])
            exact ⟨strOk_in g1, by omega, by rw [List.length_cons]; omega⟩
          · cases h
      · by_cases c2 : c = 40
        · subst c2
          rw [keyP_open] at h
          unfold tupP at h
          dsimp only at h
          cases e : partsP (keyP d) (r.length + 1) true r with
          | none => rw [e] at h; cases h
          | some p =>
            rw [e] at h
            dsimp only at h
            split at h
            · rename_i l6
              cases h
              obtain ⟨g1, g2, g3⟩ := partsP_ok ih (r.length + 1) true r p.1 p.2 hr (by rw [e])
              exact ⟨tup_vals (vals_iff.mpr g1) (by omega), by omega, by rw [List.length_cons]; omega⟩
            · cases h
        · rw [keyP_num c1 c2] at h
          cases e : numP (c :: r) with
          | none => rw [e] at h; cases h
          | some p =>
            rw [e] at h
            cases h
            exact ⟨rfl, numP_ok (i := p.1) (by rw [e])⟩
/-- how far the parts of a tuple have been read -/
structure TpSt (f : List Nat → Option (Ky × Nat)) (T : List Nat) (b c : Nat) (ks : List Ky) (F : Nat) : Prop where
  le : b + c ≤ T.length
  fu : T.length - (b + c) < F
  eq : partsP f (T.length - b + 1) true (T.drop b) = (partsP f F ks.isEmpty (T.drop (b + c))).map fun q => (ks ++ q.1, c + q.2)
  vals : Ky.vals ks = true
  lk : ks.length ≤ c
section
variable {f : List Nat → Option (Ky × Nat)} {T : List Nat} {b c F o k : Nat} {ks : List Ky} {y : Ky}
theorem TpSt.start (h : b ≤ T.length) : TpSt f T b 0 [] (T.length - b + 1) := ⟨by omega, by omega, by
  rw [Nat.add_zero]
  show _ = (partsP f _ true _).map _
  cases partsP f (T.length - b + 1) true (T.drop b) <;> simp, rfl, Nat.le_refl _⟩
theorem TpSt.fin (q : TpSt f T b c ks F) (h : T[b + c]? = some 41) : partsP f (T.length - b + 1) true (T.drop b) = some (ks, c + 1) := by
  have fu := q.fu
  obtain ⟨F', rfl⟩ : ∃ F', F = F' + 1 := ⟨F - 1, by omega⟩
  rw [q.eq, partsP, if_pos (by rw [List.head?_drop]; exact h)]
  simp
theorem TpSt.step (q : TpSt f T b c ks F) (h : T[b + c]? ≠ some 41) (ho : o = if ks.isEmpty = true then 0 else 1) : partsP f (T.length - b + 1) true (T.drop b) = if ks.isEmpty = false ∧ T[b + c]? ≠ some 32 then none else
    match f (T.drop (b + c + o)) with
    | none => none
    | some (y, k) => (partsP f (F - 1) false (T.drop (b + (c + o + k)))).map fun q => (ks ++ [y] ++ q.1, c + o + k + q.2) := by
  have fu := q.fu
  obtain ⟨F', rfl⟩ : ∃ F', F = F' + 1 := ⟨F - 1, by omega⟩
  rw [q.eq, partsP, if_neg (by rw [List.head?_drop]; exact h), List.head?_drop]
  by_cases cb : ks.isEmpty = false ∧ T[b + c]? ≠ some 32
  · rw [if_pos cb, if_pos cb]
    rfl
  · rw [if_neg cb, if_neg cb]
    dsimp only
    rw [← ho, List.drop_drop]
    cases e : f (T.drop (b + c + o)) with
    | none => rfl
    | some p =>
      dsimp only
      rw [List.drop_drop, show b + c + (o + p.2) = b + (c + o + p.2) by omega, Nat.add_sub_cancel]
      cases partsP f F' false (T.drop (b + (c + o + p.2))) with
      | none => rfl
      | some q => simp; omega
theorem TpSt.more (q : TpSt f T b c ks F) (h : T[b + c]? ≠ some 41) (ho : o = if ks.isEmpty = true then 0 else 1) (hb : ks.isEmpty = true ∨ T[b + c]? = some 32) (hf : f (T.drop (b + c + o)) = some (y, k)) (hk : 1 ≤ k) (hl : b + c + o + k ≤ T.length) (yv : y.val = true) : TpSt f T b (c + o + k) (ks ++ [y]) (F - 1) := by
  have e := q.step h ho
  have fu := q.fu
  have lk := q.lk
  rw [if_neg (by rintro ⟨h1, h2⟩; rcases hb with h3 | h3; rw [h1] at h3; cases h3; exact h2 h3), hf] at e
  refine ⟨by omega, by omega, ?_, vals_append q.vals (vals_one yv), by rw [List.length_append, List.length_singleton]; omega⟩
  rw [e]
  have : (ks ++ [y]).isEmpty = false := by cases ks <;> rfl
  rw [this]
end
/-- a whole text that writes one key -/
def readP (T : List Nat) : Option Ky := match keyP 3 T with
  | none => none
  | some (y, k) => if k < T.length then none else some y
def spReadKey (CN : Addr) : Sp := fun vs H Q E => ∃ T : List Nat, vs = [.str (SX.S T)] ∧ T.length ≤ 2 ^ 20 ∧ codesIn T ∧ (readP T = none → ∀ H', Same H H' → E (.ref CN) none H') ∧ (∀ y, readP T = some y → ∀ H' v, Same H H' → KyAt H' v y → Q v H')
theorem len_readKey {CN : Addr} {vs H Q E} (h : spReadKey CN vs H Q E) : vs.length = 1 := by obtain ⟨_, rfl, _⟩ := h; rfl
/-- the keys a text writes in a row, a blank between two -/
def rowP : Nat → Bool → List Nat → Option (List Ky)
  | 0, _, _ => none
  | n + 1, b, s => if s = [] then some [] else
      if b = false ∧ s.head? ≠ some 32 then none else
      let o := if b = true then 0 else 1
      match keyP 3 (s.drop o) with
      | none => none
      | some (y, k) => (rowP n false (s.drop (o + k))).map fun ks => y :: ks
def spReadKeys (CN : Addr) : Sp := fun vs H Q E => ∃ T : List Nat, vs = [.str (SX.S T)] ∧ T.length ≤ 2 ^ 20 ∧ codesIn T ∧ (rowP (T.length + 1) true T = none → ∀ H', Same H H' → E (.ref CN) none H') ∧ (∀ ks, rowP (T.length + 1) true T = some ks → ∀ H' p ws, Same H H' → Fresh H p → H' p = some (.lst ws) → KysAt H' ws ks → Q (.ref p) H')
theorem len_readKeys {CN : Addr} {vs H Q E} (h : spReadKeys CN vs H Q E) : vs.length = 1 := by obtain ⟨_, rfl, _⟩ := h; rfl
/-- how far a row of keys has been read -/
structure RwSt (T : List Nat) (c : Nat) (ks : List Ky) (F : Nat) : Prop where
  le : c ≤ T.length
  fu : T.length - c < F
  eq : rowP (T.length + 1) true T = (rowP F ks.isEmpty (T.drop c)).map fun q => ks ++ q
  vals : Ky.vals ks = true
  lk : ks.length ≤ c
section
variable {T : List Nat} {c F o k : Nat} {ks : List Ky} {y : Ky}
theorem RwSt.start : RwSt T 0 [] (T.length + 1) := ⟨Nat.zero_le _, by omega, by
  rw [List.drop_zero]
  show _ = (rowP _ true _).map _
  cases rowP (T.length + 1) true T <;> simp, rfl, Nat.le_refl _⟩
theorem RwSt.fin (q : RwSt T c ks F) (h : c = T.length) : rowP (T.length + 1) true T = some ks := by
  have fu := q.fu
  obtain ⟨F', rfl⟩ : ∃ F', F = F' + 1 := ⟨F - 1, by omega⟩
  rw [q.eq, h, List.drop_length, rowP, if_pos rfl]
  simp
theorem RwSt.step (q : RwSt T c ks F) (h : c < T.length) (ho : o = if ks.isEmpty = true then 0 else 1) : rowP (T.length + 1) true T = if ks.isEmpty = false ∧ T[c]? ≠ some 32 then none else
    match keyP 3 (T.drop (c + o)) with
    | none => none
    | some (y, k) => (rowP (F - 1) false (T.drop (c + o + k))).map fun q => ks ++ [y] ++ q := by
  have fu := q.fu
  obtain ⟨F', rfl⟩ : ∃ F', F = F' + 1 := ⟨F - 1, by omega⟩
  rw [q.eq, rowP, if_neg (by rw [List.drop_eq_nil_iff]; omega), List.head?_drop]
  by_cases cb : ks.isEmpty = false ∧ T[c]? ≠ some 32
  · rw [if_pos cb, if_pos cb]
    rfl
  · rw [if_neg cb, if_neg cb]
    dsimp only
    rw [← ho, List.drop_drop]
    cases e : keyP 3 (T.drop (c + o)) with
    | none => rfl
    | some p =>
      dsimp only
      rw [List.drop_drop, show c + (o + p.2) = c + o + p.2 by omega, Nat.add_sub_cancel]
      cases rowP F' false (T.drop (c + o + p.2)) with
      | none => rfl
      | some q => simp
theorem RwSt.more (q : RwSt T c ks F) (h : c < T.length) (ho : o = if ks.isEmpty = true then 0 else 1) (hb : ks.isEmpty = true ∨ T[c]? = some 32) (hf : keyP 3 (T.drop (c + o)) = some (y, k)) (hk : 1 ≤ k) (hl : c + o + k ≤ T.length) (yv : y.val = true) : RwSt T (c + o + k) (ks ++ [y]) (F - 1) := by
  have e := q.step h ho
  have fu := q.fu
  have lk := q.lk
  rw [if_neg (by rintro ⟨h1, h2⟩; rcases hb with h3 | h3; rw [h1] at h3; cases h3; exact h2 h3), hf] at e
  refine ⟨by omega, by omega, ?_, vals_append q.vals (vals_one yv), by rw [List.length_append, List.length_singleton]; omega⟩
  rw [e]
  have : (ks ++ [y]).isEmpty = false := by cases ks <;> rfl
  rw [this]
end
end My
namespace Law
open PySem PySem.Spec PyProof.Rows L2 My
theorem sc_tuple_at : FnScope ["text", "at", "deep", "parts", "part"] ["text", "at", "deep"] (defScope s_tuple_at) := ⟨rfl, rfl, rfl, by decide +kernel, rfl, by decide +kernel, by decide +kernel⟩
theorem ok_tuple_at {P : Program} {w : World} {K : PySem.W.Frag} {mg : Str → Option Value} {base : Heap} {A : Ad} (T : Txt K mg A) {m : Nat} (G : FnOk P w K mg base (L2N.CX P w) (2 * m + 1) A.a_key_at A.d_key_at ["text", "at", "deep"] (spKeyAt A.c_NoText m)) : FnOk P w K mg base (L2N.CX P w) (2 * m + 1 + 1) A.a_tuple_at A.d_tuple_at ["text", "at", "deep"] (spTupAt A.c_NoText m) := by
  refine My.okN T.F_tuple_at sc_tuple_at (fun vs H Q E h => ?_) (fun cdv A' outer s H vs Q E hr h => ?_)
  · exact len_tupAt h
  · have nd := sc_tuple_at.nd
    have hu := hu_of hr
    refine ⟨_, (pss_cons (ps_if (pt_cmpR op_eq (pv 2) pe_int (nomark _)) (pss_one (L2N.ps_raise rfl (L2N.takes_of rfl rfl rfl rfl) (L2N.pmk_own PySem.F.excBase_ValueError T.x_NoText T.m_NoText T.k_NoText (raises_own T.eb_NoText T.et_NoText) rfl))) pss_nil) (pss_cons (ps_set (i := 3) nd rfl (Or.inl rfl) (pe_lst pa_nil)) (pss_cons (ps_aug (i := 1) nd rfl (Or.inl rfl) pe_int ip_add) (C8.pss_cut (ps_while (passes_of rfl) (pt_cmpR op_ne (pe_slice sl_str (pv 0) (po_some (pv 1)) (po_some (pe_op op_add (pv 1) pe_int))) pe_str (nomark _)) (pss_cons (ps_if (pt_cmpR op_gt (pe_callB call_lenU rfl T.n_len PySem.boot_len (pa_cons (pv 3) pa_nil)) pe_int (nomark _)) (pss_cons (ps_if (pt_cmpR op_ne (pe_slice sl_str (pv 0) (po_some (pv 1)) (po_some (pe_op op_add (pv 1) pe_int))) pe_str (nomark _)) (pss_one (L2N.ps_raise rfl (L2N.takes_of rfl rfl rfl rfl) (L2N.pmk_own PySem.F.excBase_ValueError T.x_NoText T.m_NoText T.k_NoText (raises_own T.eb_NoText T.et_NoText) rfl))) pss_nil) (pss_one (ps_aug (i := 1) nd rfl (Or.inl rfl) pe_int ip_add))) pss_nil) (pss_cons (ps_asg (pe_call G (hr.mono (Nat.le_refl _)) rfl T.m_key_at T.F_key_at.kp T.b_key_at .nil (L2N.passes_call (L2N.takes_of rfl rfl rfl rfl) fun _ _ _ _ h => h) (pa_cons (pv 0) (pa_cons (pv 1) (pa_cons (pe_op op_sub (pv 2) pe_int) pa_nil)))) (pg_tup (n := 2) rfl (pgs_cons (pg_name (i := 4) nd rfl (Or.inl rfl)) (pgs_cons (pg_name (i := 1) nd rfl (Or.inl rfl)) pgs_nil)))) (pss_one (ps_expr (pe_bm PySem.F.plainAttrs_list PySem.F.slot_list_append PySem.F.type_list_append mt_append (pv 3) (pa_cons (pv 4) pa_nil))))))) (pss_cons (ps_if (pt_cmpR op_gt (pe_callB call_lenU rfl T.n_len PySem.boot_len (pa_cons (pv 3) pa_nil)) (pe_glob (v := .int 6) rfl T.g_MOST_PARTS ⟨_, rfl⟩) (nomark _)) (pss_one (L2N.ps_raise rfl (L2N.takes_of rfl rfl rfl rfl) (L2N.pmk_own PySem.F.excBase_ValueError T.x_NoText T.m_NoText T.k_NoText (raises_own T.eb_NoText T.et_NoText) rfl))) pss_nil) (pss_one (ps_ret (pe_tup (pa_cons (pe_callTy call_tupleq rfl T.n_tuple (by decide +kernel) (pa_cons (pv 3) pa_nil)) (pa_cons (pe_op op_add (pv 1) pe_int) pa_nil)))))))))), ?_⟩
    clear nd
    obtain ⟨T, n, rfl, hn, hc, hcd, k0, k1⟩ := h
    have sz : (SX.S T).length ≤ sizeLine := by rw [SX.S_len, sizeLine_eq]; omega
    walk_at "rd"
    cases m with
    | zero => exact iteP rfl (k0 rfl _ (Same.refl _))
    | succ d =>
    refine iteN (by omega) ⟨by walk_at "sz", fun p hp => ?_⟩
    have s0 := Same_upd (o := .lst []) (Same.refl H) hp
    have e0 := upd_same (H := H) (a := p) (o := .lst [])
    generalize upd H p (.lst []) = H0 at s0 e0 ⊢
    have lT : (T.drop (n + 1)).length + 1 = T.length - (n + 1) + 1 := by rw [List.length_drop]
    have P0 : ∃ c ks F ws v4, [some (V.str (SX.S T)), some (V.int ((n : Int) + 1)), some (V.int ((d + 1 : Nat) : Int)), some (V.ref p), none] = [some (V.str (SX.S T)), some (V.int ((n + 1 + c : Nat) : Int)), some (V.int ((d + 1 : Nat) : Int)), some (V.ref p), v4] ∧ Same H H0 ∧ H0 p = some (.lst ws) ∧ KysAt H0 ws ks ∧ TpSt (keyP d) T (n + 1) c ks F := ⟨0, [], _, [], none, by rw [show ((n : Int) + 1) = ((n + 1 + 0 : Nat) : Int) by omega], s0, e0, .nil, .start (by omega)⟩
    refine ⟨fun σ H' => ∃ c ks F ws v4, σ = [some (V.str (SX.S T)), some (V.int ((n + 1 + c : Nat) : Int)), some (V.int ((d + 1 : Nat) : Int)), some (V.ref p), v4] ∧ Same H H' ∧ H' p = some (.lst ws) ∧ KysAt H' ws ks ∧ TpSt (keyP d) T (n + 1) c ks F ∧ T[n + 1 + c]? = some 41, ?_, ?_⟩
    · refine go_while (fun σ H' => ∃ c ks F ws v4, σ = [some (V.str (SX.S T)), some (V.int ((n + 1 + c : Nat) : Int)), some (V.int ((d + 1 : Nat) : Int)), some (V.ref p), v4] ∧ Same H H' ∧ H' p = some (.lst ws) ∧ KysAt H' ws ks ∧ TpSt (keyP d) T (n + 1) c ks F) (fun σ _ => T.length - cellN σ 1) P0 ?_
      rintro R σ H' ⟨c, ks, F, ws, v4, rfl, s1, e1, hk, q⟩ hR
      have q1 := q.le
      have lk := q.lk
      have lw := hk.len
      walk_at "rd"
      rw [c_S]
      refine ⟨sz, iteB (fun h => hR _ fun N hN => ?_) fun h => ⟨c, ks, F, ws, v4, rfl, s1, e1, hk, q, (cut1_ne q1).mp (Decidable.of_not_not h)⟩⟩
      have h41 : T[n + 1 + c]? ≠ some 41 := fun z => h ((cut1_ne q1).mpr z)
      clear hR
      walk_at "rd"
      rw [show ((d + 1 : Nat) : Int) - 1 = (d : Int) by omega]
      refine ⟨_, .inl (SqL.of e1), iteB (fun c1 => ⟨sz, ?_⟩) fun c1 => ?_⟩
      · rw [sp_S]
        have ho : 1 = if ks.isEmpty = true then 0 else 1 := by
          cases ks with
          | nil => simp only [List.length_nil] at lw; omega
          | cons x ks => rfl
        have ke : ks.isEmpty = false := by
          cases ks with
          | nil => simp only [List.length_nil] at lw; omega
          | cons x ks => rfl
        refine iteB (fun h32 => k0 ?_ H' s1) fun h32 => ?_
        · unfold tupP
          dsimp only
          rw [lT, q.step h41 ho, if_pos ⟨ke, fun z => h32 ((cut1_ne q1).mpr z)⟩]
        have h32 : T[n + 1 + c]? = some 32 := (cut1_ne q1).mp (Decidable.of_not_not h32)
        have hl32 := (List.getElem?_eq_some_iff.mp h32).1
        have hb : ks.isEmpty = true ∨ T[n + 1 + c]? = some 32 := .inr h32
        have hbn : ¬ (ks.isEmpty = false ∧ T[n + 1 + c]? ≠ some 32) := fun z => z.2 h32
        rw [show ((n + 1 + c : Nat) : Int) + 1 = ((n + 1 + c + 1 : Nat) : Int) by omega]
        refine ⟨T, n + 1 + c + 1, rfl, by omega, hc, hcd, fun e H2 s2 => k0 ?_ H2 (s1.trans s2), fun y k e H2 p2 v s2 f2 e2 hv => ?_⟩
        · unfold tupP
          dsimp only
          rw [lT, q.step h41 ho, if_neg hbn, e]
        · obtain ⟨yv, kk1, kk2⟩ := keyP_val d _ _ _ (codesIn_drop hcd _) e
          rw [List.length_drop] at kk2
          have q2 := q.more h41 ho hb e kk1 (by omega) yv
          refine ⟨p2, _, rfl, SqT.of e2, rfl, ?_⟩
          walk_at "rd"
          have e3 := s2 _ _ e1
          refine ⟨tyL e3, ws, e3, by rw [sizeLine_eq]; omega, hN _ _ ⟨c + 1 + k, ks ++ [y], F - 1, ws ++ [v], _, by rw [show n + 1 + (c + 1 + k) = n + 1 + c + 1 + k by omega], Same_upd0 (s1.trans s2) hp, upd_same, (kys_upd e3 (fun _ z => by cases z) q.vals (hk.same s2 _ _)).append (.cons (KyAt.keep but_one (noTup_one e3 fun _ z => by cases z) _ _ yv hv) .nil), q2⟩ ?_⟩
          show T.length - ((n + 1 + c + 1 + k : Nat) : Int).toNat < T.length - ((n + 1 + c : Nat) : Int).toNat
          omega
      · have ke : ks = [] := List.length_eq_zero_iff.mp (by omega)
        have ho : 0 = if ks.isEmpty = true then 0 else 1 := by rw [ke]; rfl
        have hb : ks.isEmpty = true ∨ T[n + 1 + c]? = some 32 := .inl (by rw [ke]; rfl)
        have hbn : ¬ (ks.isEmpty = false ∧ T[n + 1 + c]? ≠ some 32) := fun z => by rw [ke] at z; cases z.1
        refine ⟨T, n + 1 + c + 0, rfl, by omega, hc, hcd, fun e H2 s2 => k0 ?_ H2 (s1.trans s2), fun y k e H2 p2 v s2 f2 e2 hv => ?_⟩
        · unfold tupP
          dsimp only
          rw [lT, q.step h41 ho, if_neg hbn, e]
        · obtain ⟨yv, kk1, kk2⟩ := keyP_val d _ _ _ (codesIn_drop hcd _) e
          rw [List.length_drop] at kk2
          have q2 := q.more h41 ho hb e kk1 (by omega) yv
          refine ⟨p2, _, rfl, SqT.of e2, rfl, ?_⟩
          walk_at "rd"
          have e3 := s2 _ _ e1
          refine ⟨tyL e3, ws, e3, by rw [sizeLine_eq]; omega, hN _ _ ⟨c + 0 + k, ks ++ [y], F - 1, ws ++ [v], _, by rw [show n + 1 + (c + 0 + k) = n + 1 + c + 0 + k by omega], Same_upd0 (s1.trans s2) hp, upd_same, (kys_upd e3 (fun _ z => by cases z) q.vals (hk.same s2 _ _)).append (.cons (KyAt.keep but_one (noTup_one e3 fun _ z => by cases z) _ _ yv hv) .nil), q2⟩ ?_⟩
          show T.length - ((n + 1 + c + 0 + k : Nat) : Int).toNat < T.length - ((n + 1 + c : Nat) : Int).toNat
          omega
    · rintro σ H' ⟨c, ks, F, ws, v4, rfl, s1, e1, hk, q, h41⟩
      have qf := q.fin h41
      have lw := hk.len
      have q1 := q.le
      walk_at "rd"
      refine ⟨ws, .inl (SqL.of e1), iteB (fun c6 => k0 ?_ H' s1) fun c6 => ⟨ws, .inl ⟨SqL.of e1, fun l hl => ⟨by walk_at "sz", fun p2 hp2 => ?_⟩⟩⟩⟩
      · unfold tupP
        dsimp only
        rw [lT, qf]
        dsimp only
        rw [if_neg (by omega)]
      · have s2 := Same_upd (o := .tup ws) (Same.refl H') hl
        have s3 := Same_upd (o := .tup [V.ref l, .int (((n + 1 + c : Nat) : Int) + 1)]) (Same.refl (upd H' l (.tup ws))) hp2
        refine k1 (.tup ks) (c + 2) ?_ _ p2 (.ref l) ((s1.trans s2).trans s3) (Same_fresh (s1.trans s2) hp2) ?_ (.tup (s3 _ _ upd_same) (hk.same (s2.trans s3) _ _))
        · unfold tupP
          dsimp only
          rw [lT, qf]
          dsimp only
          rw [if_pos (by omega)]
        · rw [upd_same, show ((n + 1 + c : Nat) : Int) + 1 = ((n + (c + 2) : Nat) : Int) by omega]

end Law
namespace Law
open PySem PySem.Spec PyProof.Rows L2 My
theorem sc_key_at : FnScope ["text", "at", "deep"] ["text", "at", "deep"] (defScope s_key_at) := ⟨rfl, rfl, rfl, by decide +kernel, rfl, by decide +kernel, by decide +kernel⟩
theorem ok_key_atS {P : Program} {w : World} {K : PySem.W.Frag} {mg : Str → Option Value} {base : Heap} {A : Ad} (T : Txt K mg A) {m : Nat} (G : FnOk P w K mg base (L2N.CX P w) (2 * m + 1 + 1) A.a_tuple_at A.d_tuple_at ["text", "at", "deep"] (spTupAt A.c_NoText m)) : FnOk P w K mg base (L2N.CX P w) (2 * m + 1 + 1 + 1) A.a_key_at A.d_key_at ["text", "at", "deep"] (spKeyAt A.c_NoText (m + 1)) := by
  refine My.okN T.F_key_at sc_key_at (fun vs H Q E h => ?_) (fun cdv A' outer s H vs Q E hr h => ?_)
  · exact len_keyAt h
  · have nd := sc_key_at.nd
    have hu := hu_of hr
    refine ⟨_, (pss_cons (ps_if (pt_cmpR op_eq (pv 1) (pe_callB call_lenU rfl T.n_len PySem.boot_len (pa_cons (pv 0) pa_nil)) (nomark _)) (pss_one (L2N.ps_raise rfl (L2N.takes_of rfl rfl rfl rfl) (L2N.pmk_own PySem.F.excBase_ValueError T.x_NoText T.m_NoText T.k_NoText (raises_own T.eb_NoText T.et_NoText) rfl))) pss_nil) (pss_cons (ps_if (pt_cmpR op_eq (pe_ix ix_str (pv 0) (pv 1) (fun _ _ => rfl)) pe_str (nomark _)) (pss_one (ps_ret (pe_call (ok_quoted_at (P := P) (w := w) T) (hr.mono (by omega)) rfl T.m_quoted_at T.F_quoted_at.kp T.b_quoted_at .nil (L2N.passes_call (L2N.takes_of rfl rfl rfl rfl) fun _ _ _ _ h => h) (pa_cons (pv 0) (pa_cons (pv 1) pa_nil))))) pss_nil) (pss_cons (ps_if (pt_cmpR op_eq (pe_ix ix_str (pv 0) (pv 1) (fun _ _ => rfl)) pe_str (nomark _)) (pss_one (ps_ret (pe_call G (hr.mono (Nat.le_refl _)) rfl T.m_tuple_at T.F_tuple_at.kp T.b_tuple_at .nil (L2N.passes_call (L2N.takes_of rfl rfl rfl rfl) fun _ _ _ _ h => h) (pa_cons (pv 0) (pa_cons (pv 1) (pa_cons (pv 2) pa_nil)))))) pss_nil) (pss_one (ps_ret (pe_call (ok_number_at (P := P) (w := w) T) (hr.mono (by omega)) rfl T.m_number_at T.F_number_at.kp T.b_number_at .nil (L2N.passes_call (L2N.takes_of rfl rfl rfl rfl) fun _ _ _ _ h => h) (pa_cons (pv 0) (pa_cons (pv 1) pa_nil)))))))), ?_⟩
    clear nd
    obtain ⟨T, n, rfl, hn, hc, hcd, k0, k1⟩ := h
    have sz : (SX.S T).length ≤ sizeLine := by rw [SX.S_len, sizeLine_eq]; omega
    walk_at "rd"
    refine ⟨sz, iteB (fun c => k0 ?_ _ (Same.refl _)) fun c => ?_⟩
    · have : n = T.length := by rw [SX.S_len] at c; omega
      rw [this, List.drop_length, keyP_nil]
    have c : n < T.length := by rw [SX.S_len] at c; omega
    have ed : T.drop n = T[n] :: T.drop (n + 1) := List.drop_eq_getElem_cons c
    refine ⟨T[n], sz, atI_nat (List.getElem?_eq_getElem c), ?_⟩
    rw [q_S]
    refine iteB (fun c34 => ?_) fun c34 => ⟨T[n], sz, atI_nat (List.getElem?_eq_getElem c), ?_⟩
    · have c34 := V1_eq.mp c34
      refine ⟨T, n, rfl, c, hc, fun h H2 s2 => k0 ?_ H2 s2, fun l k e hl H2 p s2 f2 e2 => k1 (.txt (SX.S l)) (k + 1) ?_ H2 p _ s2 f2 (by rw [e2, show n + 1 + k = n + (k + 1) by omega]) (.txt _)⟩
      · rw [ed, c34, keyP_quote]
        cases e : quoteP (T.drop (n + 1)) with
        | none => rfl
        | some p =>
          have := h p.1 p.2 e
          dsimp only
          rw [if_neg (by omega)]
      · rw [ed, c34, keyP_quote, e]
        dsimp only
        rw [if_pos hl]
    have c34 : T[n] ≠ 34 := fun h => c34 (V1_eq.mpr h)
    rw [o_S]
    refine iteB (fun c40 => ?_) fun c40 => ?_
    · have c40 := V1_eq.mp c40
      rw [ed, c40, keyP_open] at k0 k1
      exact ⟨T, n, rfl, c, hc, hcd, k0, k1⟩
    · have c40 : T[n] ≠ 40 := fun h => c40 (V1_eq.mpr h)
      refine ⟨T, n, rfl, c, hc, fun h => k0 ?_ _ (Same.refl _), fun i k e H2 p s2 f2 e2 => k1 (.num i) k ?_ H2 p _ s2 f2 e2 (.num _)⟩
      · rw [ed, keyP_num c34 c40, ← ed, h]
        rfl
      · rw [ed, keyP_num c34 c40, ← ed, e]
        rfl
theorem ok_key_at {P : Program} {w : World} {K : PySem.W.Frag} {mg : Str → Option Value} {base : Heap} {A : Ad} (T : Txt K mg A) : ∀ m : Nat, FnOk P w K mg base (L2N.CX P w) (2 * m + 1) A.a_key_at A.d_key_at ["text", "at", "deep"] (spKeyAt A.c_NoText m)
  | 0 => ⟨fun vs H Q E h => h.elim, fun A outer s H args us vs Q E hr e0 b r h => h.elim⟩
  | m + 1 => ok_key_atS T (ok_tuple_at T (ok_key_at T m))

end Law
namespace Law
open PySem PySem.Spec PyProof.Rows L2 My
theorem sc_read_key : FnScope ["text", "key", "at"] ["text"] (defScope s_read_key) := ⟨rfl, rfl, rfl, by decide +kernel, rfl, by decide +kernel, by decide +kernel⟩
theorem ok_read_key {P : Program} {w : World} {K : PySem.W.Frag} {mg : Str → Option Value} {base : Heap} {A : Ad} (T : Txt K mg A) : FnOk P w K mg base (L2N.CX P w) 10 A.a_read_key A.d_read_key ["text"] (spReadKey A.c_NoText) := by
  refine My.okN T.F_read_key sc_read_key (fun vs H Q E h => ?_) (fun cdv A' outer s H vs Q E hr h => ?_)
  · exact len_readKey h
  · have nd := sc_read_key.nd
    have hu := hu_of hr
    refine ⟨_, (pss_cons (ps_if (pt_not (pt_val (pe_callB call_isiF rfl T.n_isinstance (by decide +kernel) (pa_cons (pv 0) (pa_cons (pe_bltn (v := .ty "str") rfl T.n_str (by decide +kernel) rfl) pa_nil))))) (pss_one (L2N.ps_raise rfl (L2N.takes_of rfl rfl rfl rfl) (L2N.pmk_own PySem.F.excBase_ValueError T.x_NoText T.m_NoText T.k_NoText (raises_own T.eb_NoText T.et_NoText) rfl))) pss_nil) (pss_cons (ps_asg (pe_call (ok_key_at (P := P) (w := w) T 4) (hr.mono (by decide)) rfl T.m_key_at T.F_key_at.kp T.b_key_at .nil (L2N.passes_call (L2N.takes_of rfl rfl rfl rfl) fun _ _ _ _ h => h) (pa_cons (pv 0) (pa_cons pe_int (pa_cons (pe_glob (v := .int 3) rfl T.g_DEEPEST ⟨_, rfl⟩) pa_nil)))) (pg_tup (n := 2) rfl (pgs_cons (pg_name (i := 1) nd rfl (Or.inl rfl)) (pgs_cons (pg_name (i := 2) nd rfl (Or.inl rfl)) pgs_nil)))) (pss_cons (ps_if (pt_cmpR op_lt (pv 2) (pe_callB call_lenU rfl T.n_len PySem.boot_len (pa_cons (pv 0) pa_nil)) (nomark _)) (pss_one (L2N.ps_raise rfl (L2N.takes_of rfl rfl rfl rfl) (L2N.pmk_own PySem.F.excBase_ValueError T.x_NoText T.m_NoText T.k_NoText (raises_own T.eb_NoText T.et_NoText) rfl))) pss_nil) (pss_one (ps_ret (pv 1)))))), ?_⟩
    clear nd
    obtain ⟨T, rfl, hc, hcd, k0, k1⟩ := h
    have sz : (SX.S T).length ≤ sizeLine := by rw [SX.S_len, sizeLine_eq]; omega
    walk_at "rd"
    refine ⟨T, 0, rfl, Nat.zero_le _, hc, hcd, fun e H2 s2 => k0 ?_ H2 s2, fun y k e H2 p v s2 f2 e2 hv => ?_⟩
    · rw [List.drop_zero] at e
      unfold readP
      rw [e]
    · rw [List.drop_zero] at e
      refine ⟨p, _, rfl, SqT.of e2, rfl, ?_⟩
      walk_at "rd"
      refine ⟨sz, iteB (fun c => k0 ?_ _ s2) fun c => k1 y ?_ _ _ s2 hv⟩
      · unfold readP
        rw [e]
        dsimp only
        rw [if_pos (by rw [SX.S_len] at c; omega)]
      · unfold readP
        rw [e]
        dsimp only
        rw [if_neg (by rw [SX.S_len] at c; omega)]

end Law
namespace Law
open PySem PySem.Spec PyProof.Rows L2 My
theorem sc_read_keys : FnScope ["text", "keys", "at", "key"] ["text"] (defScope s_read_keys) := ⟨rfl, rfl, rfl, by decide +kernel, rfl, by decide +kernel, by decide +kernel⟩
theorem ok_read_keys {P : Program} {w : World} {K : PySem.W.Frag} {mg : Str → Option Value} {base : Heap} {A : Ad} (T : Txt K mg A) : FnOk P w K mg base (L2N.CX P w) 10 A.a_read_keys A.d_read_keys ["text"] (spReadKeys A.c_NoText) := by
  refine My.okN T.F_read_keys sc_read_keys (fun vs H Q E h => ?_) (fun cdv A' outer s H vs Q E hr h => ?_)
  · exact len_readKeys h
  · have nd := sc_read_keys.nd
    have hu := hu_of hr
    refine ⟨_, (pss_cons (ps_if (pt_not (pt_val (pe_callB call_isiF rfl T.n_isinstance (by decide +kernel) (pa_cons (pv 0) (pa_cons (pe_bltn (v := .ty "str") rfl T.n_str (by decide +kernel) rfl) pa_nil))))) (pss_one (L2N.ps_raise rfl (L2N.takes_of rfl rfl rfl rfl) (L2N.pmk_own PySem.F.excBase_ValueError T.x_NoText T.m_NoText T.k_NoText (raises_own T.eb_NoText T.et_NoText) rfl))) pss_nil) (pss_cons (ps_set (i := 1) nd rfl (Or.inl rfl) (pe_lst pa_nil)) (pss_cons (ps_set (i := 2) nd rfl (Or.inl rfl) pe_int) (C8.pss_cut (ps_while (passes_of rfl) (pt_cmpR op_lt (pv 2) (pe_callB call_lenU rfl T.n_len PySem.boot_len (pa_cons (pv 0) pa_nil)) (nomark _)) (pss_cons (ps_if (pt_cmpR op_gt (pe_callB call_lenU rfl T.n_len PySem.boot_len (pa_cons (pv 1) pa_nil)) pe_int (nomark _)) (pss_cons (ps_if (pt_cmpR op_ne (pe_ix ix_str (pv 0) (pv 2) (fun _ _ => rfl)) pe_str (nomark _)) (pss_one (L2N.ps_raise rfl (L2N.takes_of rfl rfl rfl rfl) (L2N.pmk_own PySem.F.excBase_ValueError T.x_NoText T.m_NoText T.k_NoText (raises_own T.eb_NoText T.et_NoText) rfl))) pss_nil) (pss_one (ps_aug (i := 2) nd rfl (Or.inl rfl) pe_int ip_add))) pss_nil) (pss_cons (ps_asg (pe_call (ok_key_at (P := P) (w := w) T 4) (hr.mono (by decide)) rfl T.m_key_at T.F_key_at.kp T.b_key_at .nil (L2N.passes_call (L2N.takes_of rfl rfl rfl rfl) fun _ _ _ _ h => h) (pa_cons (pv 0) (pa_cons (pv 2) (pa_cons (pe_glob (v := .int 3) rfl T.g_DEEPEST ⟨_, rfl⟩) pa_nil)))) (pg_tup (n := 2) rfl (pgs_cons (pg_name (i := 3) nd rfl (Or.inl rfl)) (pgs_cons (pg_name (i := 2) nd rfl (Or.inl rfl)) pgs_nil)))) (pss_one (ps_expr (pe_bm PySem.F.plainAttrs_list PySem.F.slot_list_append PySem.F.type_list_append mt_append (pv 1) (pa_cons (pv 3) pa_nil))))))) (pss_one (ps_ret (pv 1))))))), ?_⟩
    clear nd
    obtain ⟨T, rfl, hc, hcd, k0, k1⟩ := h
    have sz : (SX.S T).length ≤ sizeLine := by rw [SX.S_len, sizeLine_eq]; omega
    walk_at "rd"
    refine ⟨by walk_at "sz", fun p hp => ?_⟩
    have s0 := Same_upd (o := .lst []) (Same.refl H) hp
    have e0 := upd_same (H := H) (a := p) (o := .lst [])
    generalize upd H p (.lst []) = H0 at s0 e0 ⊢
    refine ⟨fun σ H' => ∃ ks ws v4, σ = [some (V.str (SX.S T)), some (V.ref p), some (V.int ((T.length : Nat) : Int)), v4] ∧ Same H H' ∧ H' p = some (.lst ws) ∧ KysAt H' ws ks ∧ rowP (T.length + 1) true T = some ks, ?_, ?_⟩
    · refine go_while (fun σ H' => ∃ c ks F ws v4, σ = [some (V.str (SX.S T)), some (V.ref p), some (V.int ((c : Nat) : Int)), v4] ∧ Same H H' ∧ H' p = some (.lst ws) ∧ KysAt H' ws ks ∧ RwSt T c ks F) (fun σ _ => T.length - cellN σ 2) ⟨0, [], _, [], none, rfl, s0, e0, .nil, .start⟩ ?_
      rintro R σ H' ⟨c, ks, F, ws, v4, rfl, s1, e1, hk, q⟩ hR
      have q1 := q.le
      have lk := q.lk
      have lw := hk.len
      walk_at "rd"
      refine ⟨sz, iteB (fun h => hR _ fun N hN => ?_) fun h => ?_⟩
      · have c0 : c < T.length := by rw [SX.S_len] at h; omega
        clear hR
        walk_at "rd"
        refine ⟨_, .inl (SqL.of e1), iteB (fun c1 => ⟨T[c], sz, atI_nat (List.getElem?_eq_getElem c0), ?_⟩) fun c1 => ?_⟩
        · rw [sp_S]
          have ho : 1 = if ks.isEmpty = true then 0 else 1 := by
            cases ks with
            | nil => simp only [List.length_nil] at lw; omega
            | cons x ks => rfl
          have ke : ks.isEmpty = false := by
            cases ks with
            | nil => simp only [List.length_nil] at lw; omega
            | cons x ks => rfl
          refine iteB (fun h32 => k0 ?_ H' s1) fun h32 => ?_
          · rw [q.step c0 ho, if_pos ⟨ke, fun z => h32 (V1_eq.mpr (by rw [List.getElem?_eq_getElem c0] at z; injection z))⟩]
          have h32 : T[c]? = some 32 := by rw [List.getElem?_eq_getElem c0, V1_eq.mp (Decidable.of_not_not h32)]
          have hb : ks.isEmpty = true ∨ T[c]? = some 32 := .inr h32
          have hbn : ¬ (ks.isEmpty = false ∧ T[c]? ≠ some 32) := fun z => z.2 h32
          rw [show ((c : Nat) : Int) + 1 = ((c + 1 : Nat) : Int) by omega]
          refine ⟨T, c + 1, rfl, by omega, hc, hcd, fun e H2 s2 => k0 ?_ H2 (s1.trans s2), fun y k e H2 p2 v s2 f2 e2 hv => ?_⟩
          · rw [q.step c0 ho, if_neg hbn, e]
          · obtain ⟨yv, kk1, kk2⟩ := keyP_val 3 _ _ _ (codesIn_drop hcd _) e
            rw [List.length_drop] at kk2
            have q2 := q.more c0 ho hb e kk1 (by omega) yv
            refine ⟨p2, _, rfl, SqT.of e2, rfl, ?_⟩
            walk_at "rd"
            have e3 := s2 _ _ e1
            refine ⟨tyL e3, ws, e3, by rw [sizeLine_eq]; omega, hN _ _ ⟨c + 1 + k, ks ++ [y], F - 1, ws ++ [v], _, rfl, Same_upd0 (s1.trans s2) hp, upd_same, (kys_upd e3 (fun _ z => by cases z) q.vals (hk.same s2 _ _)).append (.cons (KyAt.keep but_one (noTup_one e3 fun _ z => by cases z) _ _ yv hv) .nil), q2⟩ ?_⟩
            show T.length - ((c + 1 + k : Nat) : Int).toNat < T.length - ((c : Nat) : Int).toNat
            omega
        · have ke : ks = [] := List.length_eq_zero_iff.mp (by omega)
          have ho : 0 = if ks.isEmpty = true then 0 else 1 := by rw [ke]; rfl
          have hb : ks.isEmpty = true ∨ T[c]? = some 32 := .inl (by rw [ke]; rfl)
          have hbn : ¬ (ks.isEmpty = false ∧ T[c]? ≠ some 32) := fun z => by rw [ke] at z; cases z.1
          refine ⟨T, c + 0, rfl, by omega, hc, hcd, fun e H2 s2 => k0 ?_ H2 (s1.trans s2), fun y k e H2 p2 v s2 f2 e2 hv => ?_⟩
          · rw [q.step c0 ho, if_neg hbn, e]
          · obtain ⟨yv, kk1, kk2⟩ := keyP_val 3 _ _ _ (codesIn_drop hcd _) e
            rw [List.length_drop] at kk2
            have q2 := q.more c0 ho hb e kk1 (by omega) yv
            refine ⟨p2, _, rfl, SqT.of e2, rfl, ?_⟩
            walk_at "rd"
            have e3 := s2 _ _ e1
            refine ⟨tyL e3, ws, e3, by rw [sizeLine_eq]; omega, hN _ _ ⟨c + 0 + k, ks ++ [y], F - 1, ws ++ [v], _, rfl, Same_upd0 (s1.trans s2) hp, upd_same, (kys_upd e3 (fun _ z => by cases z) q.vals (hk.same s2 _ _)).append (.cons (KyAt.keep but_one (noTup_one e3 fun _ z => by cases z) _ _ yv hv) .nil), q2⟩ ?_⟩
            show T.length - ((c + 0 + k : Nat) : Int).toNat < T.length - ((c : Nat) : Int).toNat
            omega
      · have ct : c = T.length := by rw [SX.S_len] at h; omega
        exact ⟨ks, ws, v4, by rw [ct], s1, e1, hk, q.fin ct⟩
    · rintro σ H' ⟨ks, ws, v4, rfl, s1, e1, hk, qf⟩
      walk_at "rd"
      exact k1 ks qf _ p ws s1 hp e1 hk

end Law
namespace My
open PySem PySem.Spec PyProof.Rows L2
/-! keys as texts -/
def figsN (m : Nat) : List Nat := (Nat.toDigits 10 m).map Char.toNat
def numL (i : Int) : List Nat := if i < 0 then 45 :: figsN i.natAbs else figsN i.natAbs
def escL (l : List Nat) : List Nat := l.flatMap fun c => if c = 92 ∨ c = 34 then [92, c] else [c]
mutual
def shownL : Ky → List Nat
  | .num i => numL i
  | .txt x => 34 :: (escL x.cps.toList ++ [34])
  | .tup ks => 40 :: (TL.joinL [32] (shownLs ks) ++ [41])
  | _ => []
def shownLs : List Ky → List (List Nat)
  | [] => []
  | k :: ks => shownL k :: shownLs ks
end
theorem shownLs_map : ∀ ks : List Ky, shownLs ks = ks.map shownL
  | [] => rfl
  | k :: ks => by rw [shownLs, shownLs_map ks]; rfl
theorem figsN_all (m : Nat) : NumText.AllDigits (figsN m) := fun c hc => by
  obtain ⟨ch, hch, e⟩ := List.mem_map.mp hc
  have r := digit_range (Nat.isDigit_of_mem_toDigits (by decide) (by decide) hch)
  rw [← e]
  exact r
theorem figsN_pos (m : Nat) : 1 ≤ (figsN m).length := by
  unfold figsN
  rw [List.length_map]
  exact toDigits_len_ge 10 m
theorem figsN_len {m k : Nat} (hk : 1 ≤ k) (h : m < 10 ^ k) : (figsN m).length ≤ k := by
  unfold figsN
  rw [List.length_map]
  exact digits10_le hk h
theorem figsN_ge {m k : Nat} (h : 10 ^ k ≤ m) : k + 1 ≤ (figsN m).length := by
  unfold figsN
  rw [List.length_map]
  exact digits10_ge h
theorem digitsVal_lt : ∀ (n : Nat) (cs : List Nat), cs.length ≤ n → NumText.AllDigits cs → NumText.digitsVal cs < 10 ^ cs.length := by
  intro n
  induction n with
  | zero =>
    intro cs h _
    have : cs = [] := List.length_eq_zero_iff.mp (by omega)
    subst this
    decide
  | succ n ih =>
    intro cs h hd
    by_cases ne : cs = []
    · subst ne
      decide
    · obtain ⟨ds, c, rfl⟩ : ∃ ds c, cs = ds ++ [c] := ⟨cs.dropLast, cs.getLast ne, (List.dropLast_concat_getLast ne).symm⟩
      rw [List.length_append, List.length_singleton] at h ⊢
      have h1 := ih ds (by omega) fun x m => hd x (List.mem_append_left _ m)
      have h2 := hd c (by simp)
      rw [NumText.digitsVal_snoc, Nat.pow_succ]
      omega
theorem figsN_val (m : Nat) : NumText.digitsVal (figsN m) = m := PySem.W.KIN.val_back m
/-- no nought ahead -/
theorem figsN_head {m : Nat} (h : (figsN m).head? = some 48) : (figsN m).length = 1 ∧ m = 0 := by
  have hv := figsN_val m
  have ha := figsN_all m
  have hg := @figsN_ge m
  cases e : figsN m with
  | nil => rw [e] at h; cases h
  | cons c r =>
    rw [e] at h hv ha
    injection h with h
    subst h
    rw [NumText.digitsVal_zero] at hv
    by_cases hr : r = []
    · subst hr
      exact ⟨rfl, by rw [← hv]; rfl⟩
    · exfalso
      have h1 := digitsVal_lt r.length r (Nat.le_refl _) fun x m => ha x (List.mem_cons_of_mem _ m)
      rw [hv] at h1
      have hl := figsN_len (m := m) (k := r.length) (List.length_pos_iff.mpr hr) h1
      rw [e, List.length_cons] at hl
      omega
theorem S_of {x : Str} {l : List Nat} (h : x.cps.toList = l) : x = SX.S l := by
  subst h
  show x = ⟨x.cps.toList.toArray⟩
  rw [Array.toArray_toList]
theorem numL_S (i : Int) : Str.ofString (toString i) = SX.S (numL i) := by
  unfold numL
  cases i with
  | ofNat m =>
    rw [if_neg (by simp), text_ofNat]
    rfl
  | negSucc m =>
    rw [if_pos (Int.negSucc_lt_zero m)]
    refine S_of ?_
    rw [signs_ofString]
    show ("-" ++ Nat.repr (m + 1)).toList.map Char.toNat = 45 :: (Nat.toDigits 10 (m + 1)).map Char.toNat
    rw [String.toList_append, List.map_append, Nat.toList_repr]
    rfl
theorem numL_len {i : Int} (h1 : -(10 ^ 60) < i) (h2 : i < 10 ^ 60) : 1 ≤ (numL i).length ∧ (numL i).length ≤ 61 := by
  have hp := figsN_pos i.natAbs
  have hl := figsN_len (m := i.natAbs) (k := 60) (by decide) (by omega)
  unfold numL
  split
  · rw [List.length_cons]; omega
  · omega
def StopOk (r : List Nat) : Prop := ∀ c, r.head? = some c → isFig c = false
theorem tw_figs {m : Nat} {r : List Nat} (h : StopOk r) : (figsN m ++ r).takeWhile isFig = figsN m := by
  have ha : ∀ c ∈ figsN m, isFig c = true := fun c hc => decide_eq_true (figsN_all m c hc)
  generalize figsN m = f at ha
  induction f with
  | nil =>
    cases r with
    | nil => rfl
    | cons c r => rw [List.nil_append, List.takeWhile_cons, if_neg (by rw [h c rfl]; decide)]
  | cons c f ih => rw [List.cons_append, List.takeWhile_cons, if_pos (ha c (List.mem_cons_self ..)), ih fun x m => ha x (List.mem_cons_of_mem _ m)]
/-- a number is read as it is written -/
theorem numP_num {i : Int} {r : List Nat} (h1 : -(10 ^ 60) < i) (h2 : i < 10 ^ 60) (h : StopOk r) : numP (numL i ++ r) = some (i, (numL i).length) := by
  have hl := figsN_len (m := i.natAbs) (k := 60) (by decide) (by omega)
  have hp := figsN_pos i.natAbs
  have hne : figsN i.natAbs ≠ [] := fun e => by rw [e] at hp; simp at hp
  have hv := figsN_val i.natAbs
  have hd := @figsN_head i.natAbs
  have ha := figsN_all i.natAbs
  unfold numP numL
  by_cases c : i < 0
  · simp only [if_pos c, List.cons_append, List.head?_cons, if_true, List.drop_succ_cons, List.drop_zero, tw_figs h, hv, List.length_cons]
    rw [if_neg]
    · congr 2
      omega
    · rintro (e | e | ⟨e, -⟩)
      · exact hne e
      · omega
      · have := (hd e).2
        omega
  · have e45 : ¬ (figsN i.natAbs ++ r).head? = some 45 := by
      cases e : figsN i.natAbs with
      | nil => exact absurd e hne
      | cons x f =>
        rw [List.cons_append, List.head?_cons]
        intro z
        injection z with z
        have := ha x (by rw [e]; exact List.mem_cons_self ..)
        omega
    simp only [if_neg c, if_neg e45, tw_figs h, hv]
    rw [if_neg]
    · congr 2
      omega
    · rintro (e | e | ⟨e, e2 | e2⟩)
      · exact hne e
      · omega
      · have := (hd e).1
        omega
      · exact e45 e2
theorem escL_cons (c : Nat) (l : List Nat) : escL (c :: l) = (if c = 92 ∨ c = 34 then [92, c] else [c]) ++ escL l := List.flatMap_cons
theorem quoteP_esc_all : ∀ (l r : List Nat), quoteP (escL l ++ 34 :: r) = some (l, (escL l).length + 1)
  | [], r => quoteP_end
  | c :: l, r => by
    rw [escL_cons]
    by_cases h : c = 92 ∨ c = 34
    · rw [if_pos h]
      show quoteP (92 :: c :: (escL l ++ 34 :: r)) = _
      rw [quoteP_esc h, quoteP_esc_all l r]
      simp
    · rw [if_neg h]
      show quoteP (c :: (escL l ++ 34 :: r)) = _
      rw [quoteP_plain (fun e => h (.inr e)) (fun e => h (.inl e)), quoteP_esc_all l r]
      simp
def glueB (ls : List (List Nat)) : List Nat := ls.flatMap fun l => 32 :: l
theorem joinL_glue : ∀ (l : List Nat) (ls : List (List Nat)), TL.joinL [32] (l :: ls) = l ++ glueB ls
  | l, [] => by simp [TL.joinL, glueB]
  | l, m :: ls => by
    rw [TL.joinL, joinL_glue m ls]
    simp [glueB]
theorem stop_glue {ls : List (List Nat)} {r : List Nat} : StopOk (glueB ls ++ 41 :: r) := fun c h => by
  cases ls with
  | nil =>
    cases h
    decide
  | cons l ls =>
    cases h
    decide
theorem stop_glue2 {ls : List (List Nat)} : StopOk (glueB ls) := fun c h => by
  cases ls with
  | nil => cases h
  | cons l ls =>
    cases h
    decide
/-- what is written is read -/
def Reads (d : Nat) (y : Ky) : Prop := ∀ r : List Nat, StopOk r → keyP d (shownL y ++ r) = some (y, (shownL y).length)
theorem parts_more {d : Nat} : ∀ (ks : List Ky) (n : Nat) (r : List Nat), (∀ y ∈ ks, Reads d y) → ks.length < n → partsP (keyP d) n false (glueB (shownLs ks) ++ 41 :: r) = some (ks, (glueB (shownLs ks)).length + 1)
  | [], n, r, _, h => by
    obtain ⟨n', rfl⟩ : ∃ n', n = n' + 1 := ⟨n - 1, by simp only [List.length_nil] at h; omega⟩
    rw [partsP]
    rfl
  | y :: ks, n, r, hk, h => by
    rw [List.length_cons] at h
    obtain ⟨n', rfl⟩ : ∃ n', n = n' + 1 := ⟨n - 1, by omega⟩
    have e : glueB (shownLs (y :: ks)) ++ 41 :: r = 32 :: (shownL y ++ (glueB (shownLs ks) ++ 41 :: r)) := by
      rw [shownLs]
      simp [glueB]
    have hy := hk y (List.mem_cons_self ..) _ (stop_glue (ls := shownLs ks) (r := r))
    rw [e, partsP, if_neg (by simp), if_neg (by simp)]
    dsimp only
    rw [if_neg (by decide), List.drop_succ_cons, List.drop_zero, hy]
    dsimp only
    rw [show 1 + (shownL y).length = (shownL y).length + 1 by omega, List.drop_succ_cons, List.drop_left, parts_more ks n' r (fun z m => hk z (List.mem_cons_of_mem _ m)) (by omega), shownLs]
    simp [glueB]
    omega
theorem parts_all {d : Nat} {ks : List Ky} {n : Nat} {r : List Nat} (hk : ∀ y ∈ ks, Reads d y) (h : ks.length < n) (hs : ∀ y ∈ ks, ∃ c f, shownL y = c :: f ∧ c ≠ 41) : partsP (keyP d) n true (TL.joinL [32] (shownLs ks) ++ 41 :: r) = some (ks, (TL.joinL [32] (shownLs ks)).length + 1) := by
  obtain ⟨n', rfl⟩ : ∃ n', n = n' + 1 := ⟨n - 1, by omega⟩
  cases ks with
  | nil =>
    rw [partsP]
    rfl
  | cons y ks =>
    rw [List.length_cons] at h
    rw [shownLs, joinL_glue, List.append_assoc]
    have hy := hk y (List.mem_cons_self ..) _ (stop_glue (ls := shownLs ks) (r := r))
    have h41 : ¬ (shownL y ++ (glueB (shownLs ks) ++ 41 :: r)).head? = some 41 := by
      obtain ⟨c, f, e, hc⟩ := hs y (List.mem_cons_self ..)
      rw [e, List.cons_append, List.head?_cons]
      exact fun z => hc (by injection z)
    rw [partsP, if_neg h41, if_neg (by simp)]
    dsimp only
    rw [if_pos rfl, List.drop_zero, hy]
    dsimp only
    rw [Nat.zero_add, List.drop_left, parts_more ks n' r (fun z m => hk z (List.mem_cons_of_mem _ m)) (by omega)]
    simp
    omega
theorem numL_head {i : Int} : ∃ c f, numL i = c :: f ∧ (c = 45 ∨ (48 ≤ c ∧ c ≤ 57)) := by
  unfold numL
  split
  · exact ⟨45, _, rfl, .inl rfl⟩
  · have ha := figsN_all i.natAbs
    have hp := figsN_pos i.natAbs
    cases e : figsN i.natAbs with
    | nil => rw [e] at hp; simp at hp
    | cons c f =>
      rw [e] at ha
      exact ⟨c, f, rfl, .inr (ha c (List.mem_cons_self ..))⟩
theorem shown_head {d : Nat} {y : Ky} (h : within d y = true) : ∃ c f, shownL y = c :: f ∧ c ≠ 41 ∧ c ≠ 32 := by
  cases y with
  | num i =>
    obtain ⟨c, f, e, hc⟩ := numL_head (i := i)
    exact ⟨c, f, by rw [shownL, e], by omega, by omega⟩
  | txt x => exact ⟨34, _, by rw [shownL], by decide, by decide⟩
  | tup ks => exact ⟨40, _, by rw [shownL], by decide, by decide⟩
  | non => cases d <;> simp [within] at h
  | bl b => cases d <;> simp [within] at h
  | lst n => cases d <;> simp [within] at h
  | dct => cases d <;> simp [within] at h
theorem joinL_len {ls : List (List Nat)} (h : ∀ l ∈ ls, 1 ≤ l.length) : ls.length ≤ (TL.joinL [32] ls).length + 1 ∧ ls.length ≤ (TL.joinL [32] ls).length := by
  cases ls with
  | nil => exact ⟨Nat.zero_le _, Nat.zero_le _⟩
  | cons l ls =>
    rw [joinL_glue, List.length_append, List.length_cons]
    have h1 := h l (List.mem_cons_self ..)
    have h2 : ls.length ≤ (glueB ls).length := by
      clear h h1
      induction ls with
      | nil => exact Nat.le_refl _
      | cons m ls ih =>
        show ls.length + 1 ≤ ((32 :: m) ++ glueB ls).length
        rw [List.length_append, List.length_cons]
        omega
    omega
theorem reads_all : ∀ (d : Nat) (y : Ky), within d y = true → Reads d y := by
  intro d
  induction d with
  | zero =>
    intro y h r hr
    cases y with
    | num i =>
      have hw : -(10 ^ 60) < i ∧ i < 10 ^ 60 := by simpa [within] using h
      obtain ⟨c, f, e, hc⟩ := numL_head (i := i)
      have hn := numP_num hw.1 hw.2 hr
      rw [shownL, e, List.cons_append, keyP_num (by omega) (by omega)]
      rw [e, List.cons_append] at hn
      rw [hn]
      rfl
    | txt x =>
      have hw : x.length ≤ 60 := by simpa [within] using h
      rw [shownL, List.cons_append, List.append_assoc, List.singleton_append, keyP_quote, quoteP_esc_all]
      dsimp only
      rw [if_pos (by rw [Array.length_toList]; exact hw), ← S_of rfl]
      simp
    | tup ks => simp [within] at h
    | non => simp [within] at h
    | bl b => simp [within] at h
    | lst n => simp [within] at h
    | dct => simp [within] at h
  | succ d ih =>
    intro y h r hr
    cases y with
    | num i =>
      have hw : -(10 ^ 60) < i ∧ i < 10 ^ 60 := by simpa [within] using h
      obtain ⟨c, f, e, hc⟩ := numL_head (i := i)
      have hn := numP_num hw.1 hw.2 hr
      rw [shownL, e, List.cons_append, keyP_num (by omega) (by omega)]
      rw [e, List.cons_append] at hn
      rw [hn]
      rfl
    | txt x =>
      have hw : x.length ≤ 60 := by simpa [within] using h
      rw [shownL, List.cons_append, List.append_assoc, List.singleton_append, keyP_quote, quoteP_esc_all]
      dsimp only
      rw [if_pos (by rw [Array.length_toList]; exact hw), ← S_of rfl]
      simp
    | tup ks =>
      have hw : ks.length ≤ 6 ∧ ∀ y ∈ ks, within d y = true := by simpa [within] using h
      rw [shownL, List.cons_append, List.append_assoc, List.singleton_append, keyP_open]
      unfold tupP
      dsimp only
      have hl : ∀ l ∈ shownLs ks, 1 ≤ l.length := fun l m => by
        rw [shownLs_map] at m
        obtain ⟨y, my, rfl⟩ := List.mem_map.mp m
        obtain ⟨c, f, e, -⟩ := shown_head (hw.2 y my)
        rw [e, List.length_cons]
        omega
      have jl := (joinL_len hl).2
      rw [shownLs_map, List.length_map, ← shownLs_map] at jl
      rw [parts_all (fun y m => ih y (hw.2 y m)) (by rw [List.length_append, List.length_cons]; omega) fun y m => by
        obtain ⟨c, f, e, h1, -⟩ := shown_head (hw.2 y m)
        exact ⟨c, f, e, h1⟩]
      dsimp only
      rw [if_pos hw.1]
      simp
    | non => simp [within] at h
    | bl b => simp [within] at h
    | lst n => simp [within] at h
    | dct => simp [within] at h
theorem readP_shown {y : Ky} (h : within 3 y = true) : readP (shownL y) = some y := by
  have e := reads_all 3 y h [] fun c z => by cases z
  rw [List.append_nil] at e
  unfold readP
  rw [e]
  dsimp only
  rw [if_neg (by omega)]
theorem row_more : ∀ (ks : List Ky) (n : Nat), (∀ y ∈ ks, within 3 y = true) → ks.length < n → rowP n false (glueB (shownLs ks)) = some ks
  | [], n, _, h => by
    obtain ⟨n', rfl⟩ : ∃ n', n = n' + 1 := ⟨n - 1, by simp only [List.length_nil] at h; omega⟩
    rw [rowP]
    rfl
  | y :: ks, n, hk, h => by
    rw [List.length_cons] at h
    obtain ⟨n', rfl⟩ : ∃ n', n = n' + 1 := ⟨n - 1, by omega⟩
    have e : glueB (shownLs (y :: ks)) = 32 :: (shownL y ++ glueB (shownLs ks)) := by
      rw [shownLs]
      simp [glueB]
    have hy := reads_all 3 y (hk y (List.mem_cons_self ..)) _ (stop_glue2 (ls := shownLs ks))
    rw [e, rowP, if_neg (by simp), if_neg (by simp)]
    dsimp only
    rw [if_neg (by decide), List.drop_succ_cons, List.drop_zero, hy]
    dsimp only
    rw [show 1 + (shownL y).length = (shownL y).length + 1 by omega, List.drop_succ_cons, List.drop_left, row_more ks n' (fun z m => hk z (List.mem_cons_of_mem _ m)) (by omega)]
    rfl
theorem row_all {ks : List Ky} {n : Nat} (hk : ∀ y ∈ ks, within 3 y = true) (h : ks.length < n) : rowP n true (TL.joinL [32] (shownLs ks)) = some ks := by
  obtain ⟨n', rfl⟩ : ∃ n', n = n' + 1 := ⟨n - 1, by omega⟩
  cases ks with
  | nil =>
    rw [rowP]
    rfl
  | cons y ks =>
    rw [List.length_cons] at h
    rw [shownLs, joinL_glue]
    have hy := reads_all 3 y (hk y (List.mem_cons_self ..)) _ (stop_glue2 (ls := shownLs ks))
    obtain ⟨c, f, e, h1, -⟩ := shown_head (hk y (List.mem_cons_self ..))
    rw [rowP, if_neg (by rw [e]; simp), if_neg (by simp)]
    dsimp only
    rw [if_pos rfl, List.drop_zero, hy]
    dsimp only
    rw [Nat.zero_add, List.drop_left, row_more ks n' (fun z m => hk z (List.mem_cons_of_mem _ m)) (by omega)]
    rfl
theorem escL_len : ∀ l : List Nat, (escL l).length ≤ 2 * l.length
  | [] => Nat.le_refl _
  | c :: l => by
    have := escL_len l
    rw [escL_cons, List.length_append, List.length_cons]
    split <;> simp only [List.length_cons, List.length_nil] <;> omega
theorem glueB_len {ls : List (List Nat)} {B : Nat} (h : ∀ l ∈ ls, l.length ≤ B) : (glueB ls).length ≤ ls.length * (B + 1) := by
  induction ls with
  | nil => exact Nat.zero_le _
  | cons m ls ih =>
    have h1 := h m (List.mem_cons_self ..)
    have h2 := ih fun l hl => h l (List.mem_cons_of_mem _ hl)
    show ((32 :: m) ++ glueB ls).length ≤ _
    rw [List.length_append, List.length_cons, List.length_cons, Nat.add_mul]
    omega
theorem joinL_le {ls : List (List Nat)} {B : Nat} (h : ∀ l ∈ ls, l.length ≤ B) : (TL.joinL [32] ls).length ≤ ls.length * (B + 1) := by
  cases ls with
  | nil => exact Nat.zero_le _
  | cons l ls =>
    have h1 := h l (List.mem_cons_self ..)
    have h2 := glueB_len fun l hl => h l (List.mem_cons_of_mem _ hl)
    rw [joinL_glue, List.length_append, List.length_cons, Nat.add_mul]
    omega
theorem shown_len : ∀ (d : Nat) (y : Ky), within d y = true → (shownL y).length ≤ 200 * 8 ^ d := by
  have leaf : ∀ (d : Nat) (n : Nat), n ≤ 200 → n ≤ 200 * 8 ^ d := fun d n h => Nat.le_trans h (Nat.le_mul_of_pos_right _ (Nat.pow_pos (by decide)))
  intro d
  induction d with
  | zero =>
    intro y h
    cases y with
    | num i =>
      have hw : -(10 ^ 60) < i ∧ i < 10 ^ 60 := by simpa [within] using h
      have := (numL_len hw.1 hw.2).2
      exact leaf _ _ (by rw [shownL]; omega)
    | txt x =>
      have hw : x.length ≤ 60 := by simpa [within] using h
      have := escL_len x.cps.toList
      have e : x.cps.toList.length = x.length := Array.length_toList
      exact leaf _ _ (by rw [shownL, List.length_cons, List.length_append, List.length_singleton]; omega)
    | tup ks => simp [within] at h
    | non => simp [within] at h
    | bl b => simp [within] at h
    | lst n => simp [within] at h
    | dct => simp [within] at h
  | succ d ih =>
    intro y h
    cases y with
    | num i =>
      have hw : -(10 ^ 60) < i ∧ i < 10 ^ 60 := by simpa [within] using h
      have := (numL_len hw.1 hw.2).2
      exact leaf _ _ (by rw [shownL]; omega)
    | txt x =>
      have hw : x.length ≤ 60 := by simpa [within] using h
      have := escL_len x.cps.toList
      have e : x.cps.toList.length = x.length := Array.length_toList
      exact leaf _ _ (by rw [shownL, List.length_cons, List.length_append, List.length_singleton]; omega)
    | tup ks =>
      have hw : ks.length ≤ 6 ∧ ∀ y ∈ ks, within d y = true := by simpa [within] using h
      have hl := joinL_le (ls := shownLs ks) (B := 200 * 8 ^ d) fun l m => by
        rw [shownLs_map] at m
        obtain ⟨y, my, rfl⟩ := List.mem_map.mp m
        exact ih y (hw.2 y my)
      have e : (shownLs ks).length = ks.length := by rw [shownLs_map, List.length_map]
      have hp : 1 ≤ 8 ^ d := Nat.pow_pos (by decide)
      have hm : (shownLs ks).length * (200 * 8 ^ d + 1) ≤ 6 * (200 * 8 ^ d + 1) := Nat.mul_le_mul_right _ (by omega)
      rw [shownL, List.length_cons, List.length_append, List.length_singleton, Nat.pow_succ]
      omega
    | non => simp [within] at h
    | bl b => simp [within] at h
    | lst n => simp [within] at h
    | dct => simp [within] at h
theorem shown_le {d : Nat} {y : Ky} (h : within d y = true) (hd : d ≤ 3) : (shownL y).length ≤ 102400 := by
  have h1 := shown_len d y h
  have h2 : 8 ^ d ≤ 8 ^ 3 := Nat.pow_le_pow_right (by decide) hd
  omega
theorem rep_one {y : Nat} {z : List Nat} : ∀ l : List Nat, StrLaws.replL [y] z l = l.flatMap fun c => if c = y then z else [c]
  | [] => StrLaws.replL_nil
  | c :: l => by
    by_cases h : c = y
    · rw [StrLaws.replL_hit (by simp) (by simp [h])]
      simp [h, rep_one l]
    · rw [StrLaws.replL_miss (by simp [h])]
      simp [h, rep_one l]
theorem replace_S {l z : List Nat} {y : Nat} : Txt.replace (SX.S l) (SX.S [y]) (SX.S z) = SX.S (l.flatMap fun c => if c = y then z else [c]) := by
  refine S_of ?_
  rw [StrLaws.replace_list (by rw [SX.S_len]; exact Nat.le_refl _), S_list, S_list, S_list, rep_one]
theorem esc_two (l : List Nat) : (l.flatMap fun c => if c = 92 then [92, 92] else [c]).flatMap (fun c => if c = 34 then [92, 34] else [c]) = escL l := by
  rw [List.flatMap_assoc]
  unfold escL
  congr 1
  funext c
  by_cases h1 : c = 92
  · subst h1
    rfl
  · by_cases h2 : c = 34
    · subst h2
      rfl
    · simp [h1, h2]
def spShownM (m : Nat) : Sp := fun vs H Q _ => match m with
  | 0 => False
  | n + 1 => ∃ (v : V) (y : Ky), vs = [v] ∧ KyAt H v y ∧ within n y = true ∧ n ≤ 3 ∧ ∀ H', Same H H' → Q (.str (SX.S (shownL y))) H'
theorem len_shownM {m : Nat} {vs H Q E} (h : spShownM m vs H Q E) : vs.length = 1 := by
  cases m with
  | zero => exact h.elim
  | succ n => obtain ⟨_, _, rfl, _⟩ := h; rfl
/-- a def whose body wants a token out: its parameters are there -/
theorem fun_okT {P : Program} {w : World} {K : PySem.W.Frag} {mg : Str → Option Value} {base : Heap} {x qual : Str} {st : Stmt} {f : Addr} {fd : FuncData} {N ps : List Str} {k : Nat} {sp : Sp} (F : Fun K x qual st f fd) (S : FnScope N ps (defScope st)) (hnc : ∀ y ∈ (defScope st).names, y.2 ≠ .cell) (hps : 1 ≤ ps.length) (len : ∀ vs H Q E, sp vs H Q E → vs.length = ps.length)
    (hbody : ∀ (cdv : Value) (A : Around) (outer : List Env) (s : Shared) (H : Hp) (vs : List V) (Q : VK) (E : XK), Room k (A.deeper (envOfC qual (defScope st) s.heap.objs.size f cdv)) → sp vs H Q E →
      ∃ t, PSsT (cxOf CX0 P w K mg base N qual (defScope st) f cdv A outer s H E) (defBody st) t ∧ t { nx := fun _ H' => Q .non H', rt := Q } (start N vs) H) : FnOk P w K mg base CX0 (k + 1) f fd ps sp := by
  obtain ⟨oc, od, kV, doc, pm, an, cdv, ct, osl, rfl, lk, hcd⟩ := F.ex
  exact L2.fn_ofT lk hcd S hnc hps len fun A outer s H vs Q E hr hsp => hbody cdv A outer s H vs Q E hr hsp
theorem flat_le (ls : List (List Nat)) : ls.flatten.length ≤ (TL.joinL [32] ls).length := by
  cases ls with
  | nil => exact Nat.zero_le _
  | cons l ls =>
    have h : ls.flatten.length ≤ (glueB ls).length := by
      induction ls with
      | nil => exact Nat.le_refl _
      | cons m ls ih =>
        show (m ++ ls.flatten).length ≤ ((32 :: m) ++ glueB ls).length
        rw [List.length_append, List.length_append, List.length_cons]
        omega
    rw [joinL_glue, List.flatten_cons, List.length_append, List.length_append]
    omega
theorem fm_len {y a b : Nat} : ∀ l : List Nat, (l.flatMap fun c => if c = y then [a, b] else [c]).length ≤ 2 * l.length
  | [] => Nat.le_refl _
  | c :: l => by
    have := fm_len (y := y) (a := a) (b := b) l
    rw [List.flatMap_cons, List.length_append, List.length_cons]
    split <;> simp only [List.length_cons, List.length_nil] <;> omega
end My
namespace My
open PySem PySem.Spec PyProof.Rows L2
/-- what a key of this law may be -/
def Wy (d : Nat) (y : Ky) : Prop := within d y = true ∧ y.good = true ∧ y.val = true
theorem Wy.num {i : Int} {d : Nat} (h1 : -(10 ^ 60) < i) (h2 : i < 10 ^ 60) : Wy d (.num i) := ⟨by cases d <;> exact decide_eq_true ⟨h1, h2⟩, rfl, rfl⟩
theorem Wy.txt {l : List Nat} {d : Nat} (h : codesOk l) (l6 : l.length ≤ 60) : Wy d (.txt (SX.S l)) := ⟨by cases d <;> exact decide_eq_true (by rw [SX.S_len]; exact l6), strOk_of h, strOk_of h⟩
theorem Wy.up {d : Nat} {y : Ky} (h : Wy 0 y) : Wy d y := by
  obtain ⟨h1, h2, h3⟩ := h
  refine ⟨?_, h2, h3⟩
  cases y with
  | num i => cases d <;> exact h1
  | txt x => cases d <;> exact h1
  | tup ks => simp [within] at h1
  | non => simp [within] at h1
  | bl b => simp [within] at h1
  | lst n => simp [within] at h1
  | dct => simp [within] at h1
theorem goods_iff : ∀ {ks : List Ky}, Ky.goods ks = true ↔ ∀ y ∈ ks, y.good = true
  | [] => ⟨(fun _ _ m => by cases m), fun _ => rfl⟩
  | k :: ks => by
    rw [Ky.goods, Bool.and_eq_true, goods_iff]
    simp
theorem Wy.tup {ks : List Ky} {d : Nat} (h : ∀ y ∈ ks, Wy d y) (l6 : ks.length ≤ 6) : Wy (d + 1) (.tup ks) := by
  refine ⟨?_, ?_, tup_vals (vals_iff.mpr fun y m => (h y m).2.2) (by omega)⟩
  · simp only [within, Bool.and_eq_true, decide_eq_true_eq, List.all_eq_true]
    exact ⟨l6, fun y m => (h y m).1⟩
  · rw [Ky.good, goods_iff]
    exact fun y m => (h y m).2.1
theorem within_up : ∀ (d : Nat) (y : Ky), within d y = true → within (d + 1) y = true := by
  intro d
  induction d with
  | zero =>
    intro y h
    cases y with
    | num i => exact h
    | txt x => exact h
    | tup ks => simp [within] at h
    | non => simp [within] at h
    | bl b => simp [within] at h
    | lst n => simp [within] at h
    | dct => simp [within] at h
  | succ d ih =>
    intro y h
    cases y with
    | num i => exact h
    | txt x => exact h
    | tup ks =>
      simp only [within, Bool.and_eq_true, decide_eq_true_eq, List.all_eq_true] at h ⊢
      exact ⟨h.1, fun y m => by have := ih y (h.2 y m); simpa only [within, Bool.and_eq_true, decide_eq_true_eq, List.all_eq_true] using this⟩
    | non => simp [within] at h
    | bl b => simp [within] at h
    | lst n => simp [within] at h
    | dct => simp [within] at h
theorem Wy.le {d e : Nat} {y : Ky} (h : Wy d y) (l : d ≤ e) : Wy e y := by
  obtain ⟨q, rfl⟩ : ∃ q, e = d + q := ⟨e - d, by omega⟩
  clear l
  induction q with
  | zero => exact h
  | succ q ih => exact ⟨within_up _ _ ih.1, h.2⟩
theorem odd_S : (Str.ofString "\"\\ ()-0a") = SX.S [34, 92, 32, 40, 41, 45, 48, 97] := by decide +kernel
def spTx91 : Sp := fun vs H Q _ => ∃ c o : Int, vs = [.int c, .int o] ∧ Bd 2 o ∧ ∀ l H', codesOk l → l.length ≤ 60 → Same H H' → Q (.str (SX.S l)) H'
theorem len_tx91 {vs H Q E} (h : spTx91 vs H Q E) : vs.length = 2 := by obtain ⟨_, _, rfl, _⟩ := h; rfl
def spNm91 : Sp := fun vs H Q _ => ∃ c o : Int, vs = [.int c, .int o] ∧ Bd 2 o ∧ ∀ i : Int, -(10 ^ 60) < i → i < 10 ^ 60 → Q (.int i) H
theorem len_nm91 {vs H Q E} (h : spNm91 vs H Q E) : vs.length = 2 := by obtain ⟨_, _, rfl, _⟩ := h; rfl
def spLeaf91 : Sp := fun vs H Q _ => ∃ c o : Int, vs = [.int c, .int o] ∧ Bd 0 c ∧ Bd 2 o ∧ ∀ v y H', Same H H' → KyAt H' v y → Wy 0 y → Q v H'
theorem len_leaf91 {vs H Q E} (h : spLeaf91 vs H Q E) : vs.length = 2 := by obtain ⟨_, _, rfl, _⟩ := h; rfl
def spKey91 (K : PySem.W.Frag) : Sp := fun vs H Q _ => ∃ (a : Addr) (ns : List Int) (n : Int), vs = [.ref a, .int n] ∧ SqL K H a (ns.map V.int) ∧ ns.length ≤ 63 ∧ (∀ x ∈ ns, Bd 0 x) ∧ 0 ≤ n ∧ n ≤ 100 ∧ ∀ v y H', Same H H' → KyAt H' v y → Wy 3 y → Q v H'
theorem len_key91 {K : PySem.W.Frag} {vs H Q E} (h : spKey91 K vs H Q E) : vs.length = 2 := by obtain ⟨_, _, _, rfl, _⟩ := h; rfl
def spSm91 (m : Nat) : Sp := fun vs H Q _ => match m with
  | 0 => False
  | n + 1 => ∃ (v u : V) (y : Ky), vs = [v, u] ∧ KyAt H v y ∧ KyAt H u y ∧ y.good = true ∧ y.val = true ∧ y.dep ≤ n ∧ n ≤ 10 ∧ ∀ H', Same H H' → Q (.bl true) H'
theorem len_sm91 {m : Nat} {vs H Q E} (h : spSm91 m vs H Q E) : vs.length = 2 := by
  cases m with
  | zero => exact h.elim
  | succ n => obtain ⟨_, _, _, rfl, _⟩ := h; rfl
theorem deps_le {d : Nat} : ∀ {ks : List Ky}, (∀ y ∈ ks, y.dep ≤ d) → Ky.deps ks ≤ d
  | [], _ => by simp [Ky.deps]
  | k :: ks, h => by
    have h1 := h k (List.mem_cons_self ..)
    have h2 := deps_le fun y m => h y (List.mem_cons_of_mem k m)
    rw [Ky.deps]
    omega
theorem within_dep : ∀ (d : Nat) (y : Ky), within d y = true → y.dep ≤ d := by
  intro d
  induction d with
  | zero =>
    intro y h
    cases y with
    | num i => simp [Ky.dep]
    | txt x => simp [Ky.dep]
    | tup ks => simp [within] at h
    | non => simp [within] at h
    | bl b => simp [within] at h
    | lst n => simp [within] at h
    | dct => simp [within] at h
  | succ d ih =>
    intro y h
    cases y with
    | num i => simp [Ky.dep]
    | txt x => simp [Ky.dep]
    | tup ks =>
      simp only [within, Bool.and_eq_true, decide_eq_true_eq, List.all_eq_true] at h
      rw [Ky.dep]
      have : Ky.deps ks ≤ d := deps_le fun y m => ih y (h.2 y m)
      omega
    | non => simp [within] at h
    | bl b => simp [within] at h
    | lst n => simp [within] at h
    | dct => simp [within] at h
theorem joinL_codes {ls : List (List Nat)} (h : ∀ l ∈ ls, codesIn l) : codesIn (TL.joinL [32] ls) := by
  have hg : ∀ ls : List (List Nat), (∀ l ∈ ls, codesIn l) → codesIn (glueB ls) := fun ls h c m => by
    obtain ⟨l, ml, m⟩ := List.mem_flatMap.mp m
    rcases List.mem_cons.mp m with rfl | m
    · decide
    · exact h l ml c m
  cases ls with
  | nil => intro c m; cases m
  | cons l ls =>
    rw [joinL_glue]
    intro c m
    rcases List.mem_append.mp m with m | m
    · exact h l (List.mem_cons_self ..) c m
    · exact hg ls (fun l ml => h l (List.mem_cons_of_mem _ ml)) c m
theorem shown_codes : ∀ (d : Nat) (y : Ky), Wy d y → codesIn (shownL y) := by
  have leaf : ∀ y : Ky, y.good = true → (∀ ks, y ≠ .tup ks) → codesIn (shownL y) := fun y hg nt => by
    cases y with
    | num i =>
      have hf : codesIn (figsN i.natAbs) := fun c m => by have := figsN_all i.natAbs c m; omega
      rw [shownL]
      unfold numL
      split
      · intro c m
        rcases List.mem_cons.mp m with rfl | m
        · decide
        · exact hf c m
      · exact hf
    | txt x =>
      have hx : ∀ c ∈ x.cps.toList, c < 0x110000 := fun c m => by
        have h : x.cps.all (· < 0x110000) = true := hg
        rw [← Array.all_toList, List.all_eq_true] at h
        exact of_decide_eq_true (h c m)
      rw [shownL]
      intro c m
      rcases List.mem_cons.mp m with rfl | m
      · decide
      · rcases List.mem_append.mp m with m | m
        · unfold escL at m
          obtain ⟨z, mz, m⟩ := List.mem_flatMap.mp m
          have hz := hx z mz
          split at m <;> simp only [List.mem_cons, List.not_mem_nil, or_false] at m
          · rcases m with rfl | rfl
            · decide
            · exact hz
          · rw [m]
            exact hz
        · rw [List.mem_singleton] at m
          rw [m]
          decide
    | tup ks => exact absurd rfl (nt ks)
    | non => intro c m; cases m
    | bl b => intro c m; cases m
    | lst n => intro c m; cases m
    | dct => intro c m; cases m
  intro d
  induction d with
  | zero =>
    intro y h
    refine leaf y h.2.1 fun ks e => ?_
    rw [e] at h
    have := h.1
    simp [within] at this
  | succ d ih =>
    intro y h
    by_cases nt : ∀ ks, y ≠ .tup ks
    · exact leaf y h.2.1 nt
    · obtain ⟨ks, rfl⟩ : ∃ ks, y = .tup ks := Classical.not_forall.mp nt |>.imp fun ks e => Decidable.of_not_not e
      obtain ⟨h1, h2, h3⟩ := h
      simp only [within, Bool.and_eq_true, decide_eq_true_eq, List.all_eq_true] at h1
      rw [Ky.good, goods_iff] at h2
      have vk := vals_iff.mp (tup_val h3).2
      rw [shownL]
      intro c m
      rcases List.mem_cons.mp m with rfl | m
      · decide
      · rcases List.mem_append.mp m with m | m
        · exact joinL_codes (fun l ml => by
            rw [shownLs_map] at ml
            obtain ⟨y, my, rfl⟩ := List.mem_map.mp ml
            exact ih y ⟨h1.2 y my, h2 y my, vk y my⟩) c m
        · rw [List.mem_singleton] at m
          rw [m]
          decide
end My
namespace My
open PySem PySem.Spec PyProof.Rows L2
/-! the way back: what is read is written so -/
theorem figs_back {f : List Nat} (ha : NumText.AllDigits f) (hn : f ≠ []) (h0 : f.head? = some 48 → f.length = 1) : figsN (NumText.digitsVal f) = f := by
  have hl := List.length_pos_iff.mpr hn
  have e := NumText.toDigits_digitsVal (f.length - 1) f (by omega) ha (by
    cases f with
    | nil => exact absurd rfl hn
    | cons c r =>
      have hc := ha c (List.mem_cons_self ..)
      by_cases c0 : c = 48
      · left
        have := h0 (by rw [c0]; rfl)
        omega
      · exact .inr ⟨c, r, rfl, by omega⟩)
  unfold figsN
  rw [e, List.map_map]
  clear e hl h0 hn
  induction f with
  | nil => rfl
  | cons c r ih =>
    have hc := ha c (List.mem_cons_self ..)
    rw [List.map_cons, ih fun x m => ha x (List.mem_cons_of_mem _ m)]
    have : (Char.toNat ∘ Char.ofNat) c = c := by
      have : c = 48 ∨ c = 49 ∨ c = 50 ∨ c = 51 ∨ c = 52 ∨ c = 53 ∨ c = 54 ∨ c = 55 ∨ c = 56 ∨ c = 57 := by omega
      rcases this with rfl | rfl | rfl | rfl | rfl | rfl | rfl | rfl | rfl | rfl <;> rfl
    rw [this]
theorem numP_back {s : List Nat} {i : Int} {k : Nat} (h : numP s = some (i, k)) : numL i = s.take k ∧ -(10 ^ 60) < i ∧ i < 10 ^ 60 := by
  unfold numP at h
  dsimp only at h
  by_cases c45 : s.head? = some 45
  · obtain ⟨r, rfl⟩ : ∃ r, s = 45 :: r := by
      cases s with
      | nil => cases c45
      | cons c r => injection c45 with e; exact ⟨r, by rw [e]⟩
    simp only [if_pos c45, List.drop_succ_cons, List.drop_zero] at h
    have ad := tw_fig (l := r)
    have tt := tw_take (p := isFig) (l := r)
    generalize r.takeWhile isFig = f at h ad tt
    by_cases c : f = [] ∨ 60 < f.length ∨ (f.head? = some 48 ∧ (1 < f.length ∨ (45 :: r).head? = some 45))
    · rw [if_pos c] at h
      cases h
    · rw [if_neg c] at h
      injection h with h
      injection h with hi hk
      have n1 : f ≠ [] := fun e => c (.inl e)
      have n2 : f.length ≤ 60 := Nat.le_of_not_lt fun e => c (.inr (.inl e))
      have n3 : f.head? ≠ some 48 := fun e => c (.inr (.inr ⟨e, .inr c45⟩))
      have lt := digitsVal_lt f.length f (Nat.le_refl _) ad
      have lp : 10 ^ f.length ≤ 10 ^ 60 := Nat.pow_le_pow_right (by decide) n2
      have pos : 0 < NumText.digitsVal f := by
        cases f with
        | nil => exact absurd rfl n1
        | cons c0 r0 =>
          have hc := ad c0 (List.mem_cons_self ..)
          exact NumText.digitsVal_pos (by
            have : c0 ≠ 48 := fun e => n3 (by rw [e]; rfl)
            omega)
      have fb := figs_back ad n1 fun e => absurd e n3
      refine ⟨?_, by omega, by omega⟩
      unfold numL
      rw [if_pos (by omega), show i.natAbs = NumText.digitsVal f by omega, fb, ← hk, List.take_succ_cons, tt]
  · simp only [if_neg c45] at h
    have ad := tw_fig (l := s)
    have tt := tw_take (p := isFig) (l := s)
    generalize s.takeWhile isFig = f at h ad tt
    by_cases c : f = [] ∨ 60 < f.length ∨ (f.head? = some 48 ∧ (1 < f.length ∨ s.head? = some 45))
    · rw [if_pos c] at h
      cases h
    · rw [if_neg c] at h
      injection h with h
      injection h with hi hk
      have n1 : f ≠ [] := fun e => c (.inl e)
      have n2 : f.length ≤ 60 := Nat.le_of_not_lt fun e => c (.inr (.inl e))
      have n3 : f.head? = some 48 → f.length = 1 := fun e => by
        have := List.length_pos_iff.mpr n1
        have : ¬ 1 < f.length := fun z => c (.inr (.inr ⟨e, .inl z⟩))
        omega
      have lt := digitsVal_lt f.length f (Nat.le_refl _) ad
      have lp : 10 ^ f.length ≤ 10 ^ 60 := Nat.pow_le_pow_right (by decide) n2
      have fb := figs_back ad n1 n3
      refine ⟨?_, by omega, by omega⟩
      unfold numL
      rw [if_neg (by omega), show i.natAbs = NumText.digitsVal f by omega, fb, ← hk, tt]
theorem quoteP_back : ∀ (n : Nat) (s l : List Nat) (k : Nat), s.length ≤ n → quoteP s = some (l, k) → escL l ++ [34] = s.take k := by
  intro n
  induction n with
  | zero =>
    intro s l k hl h
    cases s with
    | nil => unfold quoteP at h; cases h
    | cons c r => simp at hl
  | succ n ih =>
    intro s l k hl h
    cases s with
    | nil => unfold quoteP at h; cases h
    | cons c r =>
      rw [List.length_cons] at hl
      by_cases c34 : c = 34
      · subst c34
        rw [quoteP_end] at h
        cases h
        rfl
      · by_cases c92 : c = 92
        · subst c92
          by_cases hd : ∃ d q, r = d :: q ∧ (d = 92 ∨ d = 34)
          · obtain ⟨d, q, rfl, hd⟩ := hd
            rw [quoteP_esc hd] at h
            cases e : quoteP q with
            | none => rw [e] at h; cases h
            | some p =>
              rw [e] at h
              injection h with h
              injection h with ha hb
              rw [List.length_cons] at hl
              have g := ih q p.1 p.2 (by omega) (by rw [e])
              rw [← ha, ← hb, escL_cons, if_pos hd, List.take_succ_cons, List.take_succ_cons, ← g]
              rfl
          · rw [quoteP_lone fun d q er hh => hd ⟨d, q, er, hh⟩] at h
            cases h
        · rw [quoteP_plain c34 c92] at h
          cases e : quoteP r with
          | none => rw [e] at h; cases h
          | some p =>
            rw [e] at h
            injection h with h
            injection h with ha hb
            have g := ih r p.1 p.2 (by omega) (by rw [e])
            rw [← ha, ← hb, escL_cons, if_neg (by rintro (z | z); exact c92 z; exact c34 z), List.take_succ_cons, ← g]
            rfl
/-- what is told of a part: it is written so -/
def Back (d : Nat) (f : List Nat → Option (Ky × Nat)) : Prop := ∀ s y k, f s = some (y, k) → shownL y = s.take k ∧ within d y = true
theorem partsP_back {d : Nat} {f : List Nat → Option (Ky × Nat)} (hf : Back d f) : ∀ (n : Nat) (b : Bool) (s : List Nat) (ks : List Ky) (k : Nat), partsP f n b s = some (ks, k) → (∀ y ∈ ks, within d y = true) ∧ (if b = true then TL.joinL [32] (shownLs ks) else glueB (shownLs ks)) ++ [41] = s.take k
  | 0, _, _, _, _, h => by rw [partsP] at h; cases h
  | n + 1, b, s, ks, k, h => by
    rw [partsP] at h
    by_cases c1 : s.head? = some 41
    · rw [if_pos c1] at h
      cases h
      obtain ⟨r, rfl⟩ : ∃ r, s = 41 :: r := by
        cases s with
        | nil => cases c1
        | cons c r => injection c1 with e; exact ⟨r, by rw [e]⟩
      refine ⟨(fun _ m => by cases m), ?_⟩
      cases b <;> rfl
    · rw [if_neg c1] at h
      by_cases c2 : b = false ∧ s.head? ≠ some 32
      · rw [if_pos c2] at h
        cases h
      · rw [if_neg c2] at h
        dsimp only at h
        generalize eo : (if b = true then 0 else 1) = o at h
        cases e : f (s.drop o) with
        | none => rw [e] at h; cases h
        | some p =>
          obtain ⟨y, j⟩ := p
          rw [e] at h
          dsimp only at h
          obtain ⟨h1, h2⟩ := hf _ _ _ e
          cases e2 : partsP f n false (s.drop (o + j)) with
          | none => rw [e2] at h; cases h
          | some q =>
            rw [e2] at h
            injection h with h
            injection h with ha hb
            obtain ⟨g1, g2⟩ := partsP_back hf n false _ _ _ e2
            rw [if_neg (by decide)] at g2
            rw [← ha, ← hb]
            refine ⟨fun z m => ?_, ?_⟩
            · rcases List.mem_cons.mp m with rfl | m
              · exact h2
              · exact g1 z m
            · have tk : s.take (q.2 + (o + j)) = s.take o ++ ((s.drop o).take j ++ (s.drop (o + j)).take q.2) := by
                rw [show q.2 + (o + j) = o + (j + q.2) by omega, List.take_add, List.take_add, List.drop_drop]
              rw [tk, ← h1, ← g2, shownLs]
              cases b with
              | true =>
                rw [if_pos rfl] at eo
                subst eo
                rw [if_pos rfl, joinL_glue]
                simp
              | false =>
                rw [if_neg (by decide)] at eo
                subst eo
                have h32 : s.head? = some 32 := Decidable.of_not_not fun z => c2 ⟨rfl, z⟩
                obtain ⟨r, rfl⟩ : ∃ r, s = 32 :: r := by
                  cases s with
                  | nil => cases h32
                  | cons c r => injection h32 with e; exact ⟨r, by rw [e]⟩
                rw [if_neg (by decide)]
                simp [glueB]
theorem keyP_back : ∀ d : Nat, Back d (keyP d) := by
  intro d
  have qu : ∀ (d : Nat) (r : List Nat) (y : Ky) (k : Nat), keyP d (34 :: r) = some (y, k) → shownL y = (34 :: r).take k ∧ within d y = true := fun d r y k h => by
    rw [keyP_quote] at h
    cases e : quoteP r with
    | none => rw [e] at h; cases h
    | some p =>
      rw [e] at h
      dsimp only at h
      split at h
      · rename_i l6
        cases h
        have g := quoteP_back r.length r p.1 p.2 (Nat.le_refl _) (by rw [e])
        refine ⟨?_, ?_⟩
        · rw [shownL, List.take_succ_cons, ← g, S_list]
        · cases d <;> exact decide_eq_true (by rw [SX.S_len]; exact l6)
      · cases h
  have nu : ∀ (d c : Nat) (r : List Nat) (y : Ky) (k : Nat), c ≠ 34 → c ≠ 40 → keyP d (c :: r) = some (y, k) → shownL y = (c :: r).take k ∧ within d y = true := fun d c r y k c1 c2 h => by
    rw [keyP_num c1 c2] at h
    cases e : numP (c :: r) with
    | none => rw [e] at h; cases h
    | some p =>
      rw [e] at h
      cases h
      obtain ⟨g1, g2, g3⟩ := numP_back (i := p.1) (k := p.2) (by rw [e])
      exact ⟨by rw [shownL, g1], by cases d <;> exact decide_eq_true ⟨g2, g3⟩⟩
  induction d with
  | zero =>
    intro s y k h
    cases s with
    | nil => rw [keyP_nil] at h; cases h
    | cons c r =>
      by_cases c1 : c = 34
      · subst c1
        exact qu _ _ _ _ h
      · by_cases c2 : c = 40
        · subst c2
          rw [keyP_open] at h
          cases h
        · exact nu _ _ _ _ _ c1 c2 h
  | succ d ih =>
    intro s y k h
    cases s with
    | nil => rw [keyP_nil] at h; cases h
    | cons c r =>
      by_cases c1 : c = 34
      · subst c1
        exact qu _ _ _ _ h
      · by_cases c2 : c = 40
        · subst c2
          rw [keyP_open] at h
          unfold tupP at h
          dsimp only at h
          cases e : partsP (keyP d) (r.length + 1) true r with
          | none => rw [e] at h; cases h
          | some p =>
            rw [e] at h
            dsimp only at h
            split at h
            · rename_i l6
              cases h
              obtain ⟨g1, g2⟩ := partsP_back ih (r.length + 1) true r p.1 p.2 (by rw [e])
              rw [if_pos rfl] at g2
              refine ⟨by rw [shownL, List.take_succ_cons, ← g2], ?_⟩
              simp only [within, Bool.and_eq_true, decide_eq_true_eq, List.all_eq_true]
              exact ⟨l6, g1⟩
            · cases h
        · exact nu _ _ _ _ _ c1 c2 h
theorem keyP_good : ∀ d : Nat, PrOk (keyP d) fun y => y.good = true := by
  intro d
  have lk : ∀ d s y k, codesIn s → keyP d s = some (y, k) → 1 ≤ k ∧ k ≤ s.length := fun d s y k hs h => (keyP_val d s y k hs h).2
  suffices H : ∀ s y k, codesIn s → keyP d s = some (y, k) → y.good = true from fun s y k hs h => ⟨H s y k hs h, lk d s y k hs h⟩
  have qu : ∀ (d : Nat) (r : List Nat) (y : Ky) (k : Nat), codesIn r → keyP d (34 :: r) = some (y, k) → y.good = true := fun d r y k hr h => by
    rw [keyP_quote] at h
    cases e : quoteP r with
    | none => rw [e] at h; cases h
    | some p =>
      rw [e] at h
      dsimp only at h
      split at h
      · cases h
        obtain ⟨g1, -⟩ := quoteP_ok r.length r p.1 p.2 (Nat.le_refl _) hr (by rw [e])
        exact strOk_in g1
      · cases h
  have nu : ∀ (d c : Nat) (r : List Nat) (y : Ky) (k : Nat), c ≠ 34 → c ≠ 40 → keyP d (c :: r) = some (y, k) → y.good = true := fun d c r y k c1 c2 h => by
    rw [keyP_num c1 c2] at h
    cases e : numP (c :: r) with
    | none => rw [e] at h; cases h
    | some p =>
      rw [e] at h
      cases h
      rfl
  induction d with
  | zero =>
    intro s y k hs h
    cases s with
    | nil => rw [keyP_nil] at h; cases h
    | cons c r =>
      by_cases c1 : c = 34
      · subst c1
        exact qu _ _ _ _ (fun x m => hs x (List.mem_cons_of_mem _ m)) h
      · by_cases c2 : c = 40
        · subst c2
          rw [keyP_open] at h
          cases h
        · exact nu _ _ _ _ _ c1 c2 h
  | succ d ih =>
    intro s y k hs h
    cases s with
    | nil => rw [keyP_nil] at h; cases h
    | cons c r =>
      have hr : codesIn r := fun x m => hs x (List.mem_cons_of_mem _ m)
      by_cases c1 : c = 34
      · subst c1
        exact qu _ _ _ _ hr h
      · by_cases c2 : c = 40
        · subst c2
          rw [keyP_open] at h
          unfold tupP at h
          dsimp only at h
          cases e : partsP (keyP d) (r.length + 1) true r with
          | none => rw [e] at h; cases h
          | some p =>
            rw [e] at h
            dsimp only at h
            split at h
            · cases h
              obtain ⟨g1, -, -⟩ := partsP_ok (P := fun y => y.good = true) (fun s y k hs h => ⟨ih s y k hs h, lk d s y k hs h⟩) (r.length + 1) true r p.1 p.2 hr (by rw [e])
              rw [Ky.good, goods_iff]
              exact g1
            · cases h
        · exact nu _ _ _ _ _ c1 c2 h
theorem readP_back {T : List Nat} {y : Ky} (hT : codesIn T) (h : readP T = some y) : shownL y = T ∧ Wy 3 y ∧ rowP (T.length + 1) true T = some [y] := by
  unfold readP at h
  cases e : keyP 3 T with
  | none => rw [e] at h; cases h
  | some p =>
    obtain ⟨z, k⟩ := p
    rw [e] at h
    dsimp only at h
    split at h
    · cases h
    · rename_i hk
      cases h
      obtain ⟨g1, g2⟩ := keyP_back 3 _ _ _ e
      obtain ⟨v1, v2, v3⟩ := keyP_val 3 _ _ _ hT e
      obtain ⟨w1, -⟩ := keyP_good 3 _ _ _ hT e
      have hk : k = T.length := by omega
      subst hk
      rw [List.take_length] at g1
      refine ⟨g1, ⟨g2, w1, v1⟩, ?_⟩
      obtain ⟨c, r, rfl⟩ : ∃ c r, T = c :: r := by
        cases T with
        | nil => simp at v2
        | cons c r => exact ⟨c, r, rfl⟩
      rw [rowP, if_neg (by simp), if_neg (by simp)]
      dsimp only
      rw [if_pos rfl, List.drop_zero, e]
      dsimp only
      rw [Nat.zero_add, List.drop_length, List.length_cons, rowP, if_pos rfl]
      rfl
theorem rowP_back : ∀ (n : Nat) (b : Bool) (s : List Nat) (ks : List Ky), codesIn s → rowP n b s = some ks → (∀ y ∈ ks, Wy 3 y) ∧ ks.length ≤ s.length ∧ (if b = true then TL.joinL [32] (shownLs ks) else glueB (shownLs ks)) = s
  | 0, _, _, _, _, h => by rw [rowP] at h; cases h
  | n + 1, b, s, ks, hs, h => by
    rw [rowP] at h
    by_cases c1 : s = []
    · rw [if_pos c1] at h
      cases h
      subst c1
      refine ⟨(fun _ m => by cases m), Nat.le_refl _, ?_⟩
      cases b <;> rfl
    · rw [if_neg c1] at h
      by_cases c2 : b = false ∧ s.head? ≠ some 32
      · rw [if_pos c2] at h
        cases h
      · rw [if_neg c2] at h
        dsimp only at h
        generalize eo : (if b = true then 0 else 1) = o at h
        cases e : keyP 3 (s.drop o) with
        | none => rw [e] at h; cases h
        | some p =>
          obtain ⟨y, j⟩ := p
          rw [e] at h
          dsimp only at h
          obtain ⟨h1, h2⟩ := keyP_back 3 _ _ _ e
          obtain ⟨v1, v2, v3⟩ := keyP_val 3 _ _ _ (codesIn_drop hs _) e
          obtain ⟨w1, -⟩ := keyP_good 3 _ _ _ (codesIn_drop hs _) e
          rw [List.length_drop] at v3
          cases e2 : rowP n false (s.drop (o + j)) with
          | none => rw [e2] at h; cases h
          | some q =>
            rw [e2] at h
            injection h with ha
            obtain ⟨g1, gl, g2⟩ := rowP_back n false _ _ (codesIn_drop hs _) e2
            rw [if_neg (by decide)] at g2
            rw [List.length_drop] at gl
            rw [← ha]
            refine ⟨fun z m => ?_, by rw [List.length_cons]; omega, ?_⟩
            · rcases List.mem_cons.mp m with rfl | m
              · exact ⟨h2, w1, v1⟩
              · exact g1 z m
            · have tk : s = s.take o ++ ((s.drop o).take j ++ s.drop (o + j)) := by
                rw [← List.drop_drop, List.take_append_drop, List.take_append_drop]
              rw [shownLs]
              cases b with
              | true =>
                rw [if_pos rfl] at eo
                subst eo
                rw [if_pos rfl, joinL_glue, g2, h1]
                simp
              | false =>
                rw [if_neg (by decide)] at eo
                subst eo
                have h32 : s.head? = some 32 := Decidable.of_not_not fun z => c2 ⟨rfl, z⟩
                obtain ⟨r, rfl⟩ : ∃ r, s = 32 :: r := by
                  cases s with
                  | nil => cases h32
                  | cons c r => injection h32 with e; exact ⟨r, by rw [e]⟩
                rw [if_neg (by decide)]
                show (32 :: shownL y) ++ glueB (shownLs q) = _
                rw [g2, h1, show 1 + j = j + 1 by omega, List.drop_succ_cons, List.drop_succ_cons, List.drop_zero, List.cons_append, List.take_append_drop]
def al92 : List Nat := [34, 92, 32, 40, 41, 45, 43, 95, 48, 49, 50, 51, 52, 53, 54, 55, 56, 57, 97, 65, 44, 46, 126]
theorem signs92 : Str.ofString "\"\\ ()-+_0123456789aA,.~" = SX.S al92 := by decide +kernel
def sg92 (n : Int) : Nat := al92.getD n.toNat 32
theorem sg92_some {n : Int} (h0 : 0 ≤ n) (h1 : n < 23) : atI al92 n = some (sg92 n) := by
  obtain ⟨j, rfl⟩ : ∃ j : Nat, n = (j : Int) := ⟨n.toNat, by omega⟩
  have hj : j < al92.length := by show j < 23; omega
  refine atI_nat ?_
  unfold sg92
  rw [Int.toNat_natCast, List.getD_eq_getElem?_getD, List.getElem?_eq_getElem hj]
  rfl
theorem sg92_ok (n : Int) : 32 ≤ sg92 n ∧ sg92 n ≤ 126 := by
  unfold sg92
  rw [List.getD_eq_getElem?_getD]
  cases e : al92[n.toNat]? with
  | none => exact ⟨by decide, by decide⟩
  | some c => exact (by decide : ∀ c ∈ al92, 32 ≤ c ∧ c ≤ 126) c (List.mem_of_getElem? e)
/-- a comprehension of keys that are told by what they satisfy -/
theorem go_lcw {J : It} {n : Nat} {G : Hp → Prop} {Y : Nat → Hp → V → Hp → Prop} (w : L2.Walk J n G Y) {g : TG} {te : TE} {vs : List Nat} {σ : L2.St} {H1 : Hp} {D : Addr} {Qd : Hp → Prop} (W : Ky → Prop) (hW : ∀ k, W k → k.val = true) (hz : n ≤ sizeLine) (hD : Fresh H1 D)
    (hG : ∀ H, Same H1 H → G H)
    (hs : ∀ (N : VK) (Z : Hp → Prop) i x H H', i < n → Same H1 H → Y i H x H' → (∀ y k H4, W k → Same H H4 → KyAt H4 y k → N y H4) →
      g x (wipe σ vs) H' fun σ2 H2 => wipe σ2 vs = wipe σ vs ∧ tYes σ2 H2 fun b H3 => if b = true then te σ2 H3 N else Z H3)
    (hd : ∀ H ys ks, Same H1 H → H D = some (.lst ys) → KysAt H ys ks → ks.length = n → (∀ z ∈ ks, W z) → Qd H) : lcGo J g tYes te vs σ H1 D Qd := by
  refine lc_it w (fun i H => Same H1 H ∧ i ≤ n ∧ ∃ ys ks, H D = some (.lst ys) ∧ KysAt H ys ks ∧ ks.length = i ∧ ∀ z ∈ ks, W z) ⟨Same_upd (Same.refl _) hD, Nat.zero_le _, [], [], upd_same, .nil, rfl, fun _ m => by cases m⟩ (fun i H _ h => hG H h.1) ?_ ?_
  · rintro i x H H' hi ⟨sm, hin, ys, ks, hL, hr, hk, hw⟩ hY
    refine hs (fun y H4 => ∃ acc, H4 D = some (.lst acc) ∧ acc.length < sizeLine ∧ (Same H1 (upd H4 D (.lst (acc ++ [y]))) ∧ i + 1 ≤ n ∧ ∃ zs ks, (upd H4 D (.lst (acc ++ [y]))) D = some (.lst zs) ∧ KysAt (upd H4 D (.lst (acc ++ [y]))) zs ks ∧ ks.length = i + 1 ∧ ∀ z ∈ ks, W z)) _ i x H H' hi sm hY ?_
    intro y k H4 wk s4 hy
    have := KysAt.len hr
    have v1 : ∀ z ∈ ks ++ [k], W z := fun z m => by
      rcases List.mem_append.mp m with m | m
      · exact hw z m
      · rw [List.mem_singleton] at m
        rw [m]
        exact wk
    exact ⟨ys, s4 _ _ hL, by omega, Same_upd0 (sm.trans s4) hD, hi, _, ks ++ [k], upd_same, KysAt.keep but_one (noTup_one (s4 _ _ hL) fun _ z => by cases z) _ _ (vals_iff.mpr fun z m => hW z (v1 z m)) ((hr.same s4 _ _).append (.cons hy .nil)), by rw [List.length_append, hk]; rfl, v1⟩
  · rintro H ⟨sm, -, ys, ks, hL, hr, hk, hw⟩
    exact hd H ys ks sm hL hr hk hw
def spOdd92 : Sp := fun vs H Q _ => ∃ c : Int, vs = [.int c] ∧ ∀ l H', l.length ≤ 64 → codesIn l → Same H H' → Q (.str (SX.S l)) H'
theorem len_odd92 {vs H Q E} (h : spOdd92 vs H Q E) : vs.length = 1 := by obtain ⟨_, rfl, _⟩ := h; rfl
def spSpoil92 : Sp := fun vs H Q _ => ∃ (T : List Nat) (c o : Int), vs = [.str (SX.S T), .int c, .int o] ∧ T.length ≤ 102400 ∧ codesIn T ∧ ∀ l H', l.length ≤ 102402 → codesIn l → Same H H' → Q (.str (SX.S l)) H'
theorem len_spoil92 {vs H Q E} (h : spSpoil92 vs H Q E) : vs.length = 3 := by obtain ⟨_, _, _, rfl, _⟩ := h; rfl
def spGiven92 (K : PySem.W.Frag) : Sp := fun vs H Q _ => ∃ (a : Addr) (ns : List Int), vs = [.ref a] ∧ SqL K H a (ns.map V.int) ∧ ns.length ≤ 63 ∧ (∀ x ∈ ns, Bd 0 x) ∧ ∀ l H', l.length ≤ 102402 → codesIn l → Same H H' → Q (.str (SX.S l)) H'
theorem len_given92 {K : PySem.W.Frag} {vs H Q E} (h : spGiven92 K vs H Q E) : vs.length = 1 := by obtain ⟨_, _, rfl, _⟩ := h; rfl
def okB (v : V) : Bool := match v with
  | .str x => decide (x.cps.size ≤ 64) && x.cps.all (· < 0x110000)
  | _ => false
theorem okB_at {v : V} (h : okB v = true) : ∃ l, v = .str (SX.S l) ∧ l.length ≤ 64 ∧ codesIn l := by
  cases v with
  | str x =>
    simp only [okB, Bool.and_eq_true, decide_eq_true_eq] at h
    refine ⟨x.cps.toList, by rw [← S_of rfl], by rw [Array.length_toList]; exact h.1, fun c m => ?_⟩
    have h2 := h.2
    rw [← Array.all_toList, List.all_eq_true] at h2
    exact of_decide_eq_true (h2 c m)
  | _ => cases h
def okC (v : V) : Bool := match v with
  | .str x => decide (x.cps.size ≤ 2) && x.cps.all (· < 0x110000)
  | _ => false
theorem okC_at {v : V} (h : okC v = true) : ∃ l, v = .str (SX.S l) ∧ l.length ≤ 2 ∧ codesIn l := by
  cases v with
  | str x =>
    simp only [okC, Bool.and_eq_true, decide_eq_true_eq] at h
    refine ⟨x.cps.toList, by rw [← S_of rfl], by rw [Array.length_toList]; exact h.1, fun c m => ?_⟩
    have h2 := h.2
    rw [← Array.all_toList, List.all_eq_true] at h2
    exact of_decide_eq_true (h2 c m)
  | _ => cases h
theorem cut_hi92 {l : List Nat} {m : Nat} (h : m ≤ l.length) : cutS (SX.S l) none (some (m : Int)) = SX.S (l.take m) := by
  rw [cut_S, HT.sIx_none, HT.sIx_nat, Nat.min_eq_left h, List.drop_zero, Nat.sub_zero]
theorem cut_lo92 {l : List Nat} {m : Nat} : cutS (SX.S l) (some (m : Int)) none = SX.S (l.drop m) := by
  rw [cut_S, HT.sIx_none, HT.sIx_nat]
  by_cases h : m ≤ l.length
  · rw [Nat.min_eq_left h, List.take_of_length_le (by rw [List.length_drop]; omega)]
  · rw [Nat.min_eq_right (by omega), Nat.sub_self, List.take_zero, List.drop_eq_nil_of_le (by omega)]
theorem codesIn_take {l : List Nat} (h : codesIn l) (n : Nat) : codesIn (l.take n) := fun c m => h c (List.mem_of_mem_take m)
theorem codesIn_app {l r : List Nat} (h : codesIn l) (h' : codesIn r) : codesIn (l ++ r) := fun c m => (List.mem_append.mp m).elim (h c) (h' c)
theorem codesIn_ok {l : List Nat} (h : codesOk l) : codesIn l := fun c m => by have := h c m; omega
theorem codesIn_sg {n : Int} : codesIn [sg92 n] := fun c m => by
  rw [List.mem_singleton] at m
  have := sg92_ok n
  omega
def spIsKey92 (m : Nat) : Sp := fun vs H Q _ => match m with
  | 0 => False
  | n + 1 => ∃ (v : V) (y : Ky), vs = [v, .int n] ∧ KyAt H v y ∧ within n y = true ∧ n ≤ 3 ∧ ∀ H', Same H H' → Q (.bl true) H'
theorem len_isKey92 {m : Nat} {vs H Q E} (h : spIsKey92 m vs H Q E) : vs.length = 2 := by
  cases m with
  | zero => exact h.elim
  | succ n => obtain ⟨_, _, rfl, _⟩ := h; rfl
theorem one92 : ∀ l : List Nat, l.flatMap (fun c => if c = 40 then [97] else [c]) = l.map fun c => if c = 40 then 97 else c
  | [] => rfl
  | c :: l => by
    rw [List.flatMap_cons, List.map_cons, one92 l]
    split <;> rfl
def spJust92 (C : Addr) : Sp := fun vs H Q _ => ∃ a, vs = [.ref a] ∧ H a = some (ExcO C a) ∧ ∀ H', Same H H' → Q (.bl true) H'
theorem len_just92 {C : Addr} {vs H Q E} (h : spJust92 C vs H Q E) : vs.length = 1 := by obtain ⟨_, rfl, _⟩ := h; rfl
def NT (H : Hp) (v : V) : Prop := ∀ f : Bool → Prop, isiF v "str" H f = f false
def spNoTxt92 (CN : Addr) : Sp := fun vs H Q E => ∃ v, vs = [v] ∧ NT H v ∧ ∀ H', Same H H' → E (.ref CN) none H'
theorem len_noTxt92 {CN : Addr} {vs H Q E} (h : spNoTxt92 CN vs H Q E) : vs.length = 1 := by obtain ⟨_, rfl, _⟩ := h; rfl
/-- what a reading of a text tells: one key, or a row -/
def out92 (b : Bool) (T : List Nat) : Option (List Ky) := if b = true then (readP T).map fun y => [y] else rowP (T.length + 1) true T
def spRead92 : Sp := fun vs H Q _ => ∃ (v : V) (b : Bool), vs = [v, .bl b] ∧
  ((∃ T, v = .str (SX.S T) ∧ T.length ≤ 102402 ∧ codesIn T ∧ (out92 b T = none → ∀ p H', Same H H' → H' p = some (.tup [.bl true, .non]) → Q (.ref p) H') ∧ (∀ ks, out92 b T = some ks → ∀ p q ws H', Same H H' → H' p = some (.tup [.bl true, .ref q]) → H' q = some (.lst ws) → KysAt H' ws ks → Q (.ref p) H')) ∨
   (NT H v ∧ ∀ p H', Same H H' → H' p = some (.tup [.bl true, .non]) → Q (.ref p) H'))
theorem len_read92 {vs H Q E} (h : spRead92 vs H Q E) : vs.length = 2 := by obtain ⟨_, _, rfl, _⟩ := h; rfl
theorem fn_or {P : Program} {w : World} {K : PySem.W.Frag} {mg : Str → Option Value} {base : Heap} {CX : CXT} {k : Nat} {f : Addr} {fd : FuncData} {ps : List Str} {sp1 sp2 : Sp} (F1 : FnOk P w K mg base CX k f fd ps sp1) (F2 : FnOk P w K mg base CX k f fd ps sp2) : FnOk P w K mg base CX k f fd ps (fun vs H Q E => sp1 vs H Q E ∨ sp2 vs H Q E) :=
  ⟨fun vs H Q E h => h.elim (F1.len vs H Q E) (F2.len vs H Q E), fun A outer s H args us vs Q E hr e0 b r h => h.elim (F1.run A outer s H args us vs Q E hr e0 b r) (F2.run A outer s H args us vs Q E hr e0 b r)⟩
def spHolds92 : Sp := fun vs H Q _ => ∃ (v : V) (b : Bool), vs = [v, .bl b] ∧ ((∃ T, v = .str (SX.S T) ∧ T.length ≤ 102402 ∧ codesIn T ∧ ∀ H', Same H H' → Q (.bl true) H') ∨ (NT H v ∧ ∀ H', Same H H' → Q (.bl true) H'))
theorem len_holds92 {vs H Q E} (h : spHolds92 vs H Q E) : vs.length = 2 := by obtain ⟨_, _, rfl, _⟩ := h; rfl
theorem out_back {b : Bool} {T : List Nat} {ks : List Ky} (hT : codesIn T) (h : out92 b T = some ks) : (∀ y ∈ ks, Wy 3 y) ∧ ks.length ≤ T.length + 1 ∧ TL.joinL [32] (shownLs ks) = T := by
  unfold out92 at h
  cases b with
  | true =>
    rw [if_pos rfl] at h
    cases e : readP T with
    | none => rw [e] at h; cases h
    | some y =>
      rw [e] at h
      cases h
      obtain ⟨g1, g2, -⟩ := readP_back hT e
      refine ⟨fun z m => by rw [List.mem_singleton] at m; rw [m]; exact g2, by simp, ?_⟩
      rw [shownLs, shownLs, joinL_glue, g1]
      simp [glueB]
  | false =>
    rw [if_neg (by decide)] at h
    obtain ⟨g1, g2, g3⟩ := rowP_back _ true T ks hT h
    rw [if_pos rfl] at g3
    exact ⟨g1, by omega, g3⟩
theorem out_row {T : List Nat} {ks : List Ky} (hT : codesIn T) (h : out92 true T = some ks) : out92 false T = some ks := by
  unfold out92 at h ⊢
  rw [if_pos rfl] at h
  cases e : readP T with
  | none => rw [e] at h; cases h
  | some y =>
    rw [e] at h
    cases h
    rw [if_neg (by decide)]
    exact (readP_back hT e).2.2
theorem ne_tn92 {K : PySem.W.Frag} {H : Hp} {p r : Addr} {Q : VK} (hp : H p = some (.tup [.bl true, .non])) (hr : H r = some (.tup [.bl true, .non])) (q : Q (.bl false) H) : rNeD K (.ref p) (.ref r) H Q := by
  have at_ : ∀ a, H a = some (.tup [.bl true, .non]) → Dp K H (.ref a) (.tuple [.bool true, .none]) := fun a h => .tup (SqT.of h) (.cons (.bl true) (.cons .non .nil))
  have sh : SeqAt.shaped (.tuple [.bool true, .none]) = true := by decide
  exact ⟨_, _, at_ p hp, at_ r hr, sh, sh, by rw [SeqAt.eqv_refl _ (SeqAt.canLay_of_shaped sh)]; exact q⟩
end My
namespace My
open PySem PySem.Spec PyProof.Rows L2
/-! a token that a written text gives out: behind `x.count("..") > n` one is there, for a replace in the branch -/
/-- a token stays out -/
theorem thn1 {α : Type} {t : Sem α} {Q Q' : α → Shared → Prop} {M : Model} {A : Around} {E : Value → Shared → Prop} {s : Shared} (k : 1 ≤ s.toks) (h : wpAny M A t Q E s) (f : ∀ a s, 1 ≤ s.toks → Q a s → Q' a s) : wpAny M A t Q' E s :=
  wpAny_mono (wpAny_toks_of k h) (fun a s x => f a s x.1 x.2) fun _ _ x => x.2
section
variable {X : Cx} {o b : Expr} {tr tb : TE} {w : Str} {op : CmpOp} {rr : R2}
def rCnt (x : V) (xs : List V) (H : Hp) (Q : VK) : Prop := ∃ a b, x = .str a ∧ xs = [.str b] ∧ Q (.int (Txt.count a b)) H
/-- o.count(w), w written: what it is, and that a token is out behind it -/
theorem cnt_out {j : Nat} {p ap q : Pos} (hr : PE X o tr) (one : starEach [.Constant (.str w) j p] X.env = [(false, eval (.Constant (.str w) j p) X.env)]) (at_ : attributeBase o "count" X.env (eval o X.env) = eval o X.env) (ln : (ap.endLine == q.line) = true)
    {pins : List (Addr × Obj)} {s : Shared} {σ : L2.St} {H : Hp} {Q : VK} (I : Inv X pins σ H s) (h : tM1 rCnt tr (tC (.str w)) σ H Q) :
    wpAny (model X.prog X.w) X.A (eval (.Call (.Attribute o "count" ap) [.Constant (.str w) j p] [] q) X.env) (fun u t => 1 ≤ t.toks ∧ EP X pins σ Q u t) X.xe s :=
  PySem.Call_method1 at_ one ln (thn (hr.run pins s σ H _ I h) fun u t ⟨v, H1, J, rv, ⟨a, ea⟩, q1⟩ => by
    subst ea
    obtain ⟨k, rfl⟩ := id rv
    exact ⟨"str", _, F.plainAttrs_str, F.slot_str_count, F.type_str_count, typeIs_str _ _ _, (fun _ e => by cases e), Calls.callWith_builtin rfl (Calls.evalArgs_plain (Calls.spliced_cons (Calls.Constant_str (Calls.spliced_nil (wpAny_mono (wpAny_toks_of (n := 1) (s := { t with toks := t.toks + 1 }) (Nat.le_add_left 1 _) (mt_count pins _ σ H1 _ [.str w] _ [.str w t.toks] Q (J.tok _) rv (.cons ⟨_, rfl⟩ .nil) q1)) (fun _ _ x => x) fun _ _ x => x.2)))))⟩)
/-- if o.count(w) < b: a branch that wants a token -/
theorem ps_ifCnt {j : Nat} {p ap q r ip : Pos} {yes no : List Stmt} {t u : TS} (hr : PE X o tr) (ho : OpR X (compareOp op) rr) (hb : PE X b tb) (hy : PSsT X yes t) (hn : PSs X no u) (hm : behindInMarks op b = false) (one : starEach [.Constant (.str w) j p] X.env = [(false, eval (.Constant (.str w) j p) X.env)] := by rfl) (at_ : attributeBase o "count" X.env (eval o X.env) = eval o X.env := by rfl) (ln : (ap.endLine == q.line) = true := by rfl) :
    PS X (.If (.Compare (.Call (.Attribute o "count" ap) [.Constant (.str w) j p] [] q) [op] [b] r) yes no ip) (tIfS (tTest (tOp rr (tM1 rCnt tr (tC (.str w))) tb)) t u) := by
  refine ⟨fun pins s σ H D I h => wpAny_If (wpAny_isTrue_Compare1 (thn (cnt_out hr one at_ ln I h) fun v s1 ⟨k1, x, H1, I1, r1, q1⟩ => thn1 k1 (hb.run pins s1 σ H1 _ I1 q1) fun v2 s2 k2 ⟨y, H2, I2, r2, q2⟩ => thn1 k2 (ho pins s2 σ H2 x y v v2 _ I2 r1 r2 q2) fun c s3 k3 ⟨z, H3, I3, r3, k, e, q3⟩ => ?_) hm)⟩
  subst e
  cases r3
  refine wpAny_truthy_bool ?_
  cases k with
  | true => exact hy pins s3 σ H3 D k3 I3 q3
  | false => exact hn.run pins s3 σ H3 D I3 q3
end
end My
namespace My
open PySem PySem.Spec PyProof.Rows L2
/-! any(a list of bools) while an exception is handled -/
section
variable {prog : Program} {w : World} {A : Around} {E : Value → Shared → Prop} {s : Shared}
/-- a list's walk at its end, an exception handled -/
theorem list_over_hot {x it l : Addr} {i : Nat} {items : Array Value} {Q : Option Value → Shared → Prop} (hot : HotX.HotAt A x s.heap) (nx : x ≠ it) (st : s.heap.IsListIter it l i) (sl : s.heap.IsList l items) (no : items[i]? = none)
    (q : ∀ h', Heap.ExtBut it s.heap h' → Q none { s with heap := h' }) : wpAny (model prog w) A (pyNext (.ref it)) Q E s := by
  have ty := st.typeIs
  have out := hot.1
  obtain ⟨-, ox, vx, gx, dx, cx⟩ := hot
  obtain ⟨oi, gi, -, di⟩ := st
  obtain ⟨ol, gl, _, nl, sd⟩ := sl
  unfold pyNext
  refine wpAny_bind (wpAny_attempt (wpAny_callSpecial?_slot (name := Str.ofString "__next__") ty slot_listiter_next (wpAny_call_entry slot_listiter_next ty entry_listiter_next ?_ (args_listiter_next _))))
  refine wpAny_bind (m := field (.ref it) 0) (wpAny_field gi di (x := .ref l) rfl ?_)
  rw [if_neg (show ¬ (Value.ref l == Value.none) = true from fun z => by cases z)]
  refine wpAny_bind (m := field (.ref it) 1) (wpAny_field gi di (x := .int i 0) rfl (wpAny_bind (m := seqItems? (.ref l)) (wpAny_seqItems gl sd ?_)))
  simp only [Int.toNat_natCast, no]
  refine wpAny_bind (wpAny_rule (wpAny_bind (wpAny_setField gi di (by simp) (wpAny_bind ?_))))
  have sb := Heap.SameBut.update s.heap it (Obj.mapFields (·.setIfInBounds 0 Value.none))
  generalize s.heap.update it (Obj.mapFields (·.setIfInBounds 0 Value.none)) = h1 at sb ⊢
  have gx1 : h1.get? x = some ox := (sb.2 x nx).trans gx
  have xb := sb.extBut
  clear sb
  simp only [newExc, newTuple]
  refine wpAny_bind (wpAny_newObj_type (wpAny_bind (m := firstArgMember _ _) (wpAny_of_eq (a := Value.none) (by first | rfl | (simp only [firstArgMember]; rfl)) (wpAny_newObj_type ?_ (by size_fits)))) (by size_fits))
  have gx2 := Heap.get?_push_of_some { cls := Value.type "tuple", data := Data.seq #[] } gx1
  have lt := Heap.lt_size gx2
  refine HotX.raiseNew_hot (x1 := x) ⟨out, ox, vx, Heap.get?_push_of_some _ gx2, dx, cx⟩ (Nat.ne_of_lt lt) (Heap.get?_push_size _ rfl) rfl (by simp; omega) ?_
  refine wpAny_bind (wpAny_isInstance (T := "StopIteration") (b := true) ⟨_, Heap.get?_update_self _ (Heap.get?_push_size _ rfl) rfl, rfl⟩ isSubtype_stop (wpAny_pure (q _ ?_)))
  intro b o nb e
  have e2 : (h1.push { cls := Value.type "tuple", data := Data.seq #[] }).get? b = some o := Heap.get?_push_of_some _ (xb b o nb e)
  rw [Heap.get?_update_other _ _ (Nat.ne_of_gt (Heap.lt_size e2))]
  exact Heap.get?_push_of_some _ e2
/-- a list walked while the exception at x is handled -/
theorem walks_list_hot {x it l : Addr} {o : Obj} {vs : Array Value} (out : A.handled = some (.ref x)) (d : o.data = .fields vs) (c : vs[2]? = some .none) (nx : x ≠ it) (nl : l ≠ it) (items : Array Value) :
    Walks prog w A it [it, l, x] [it] items.size (fun i v => items[i]? = some v) (fun i h => (h.IsListIter it l i ∧ h.IsList l items) ∧ h.get? x = some o) where
  sub := fun b m => by rw [List.mem_singleton] at m; rw [m]; exact List.mem_cons_self ..
  frame := fun i h h' st k => ⟨⟨st.1.1.at fun o e => k it (by simp) o e, st.1.2.at fun o e => k l (by simp) o e⟩, k x (by simp) _ st.2⟩
  item := fun i s Q E hi st q => wpAny_pyNext_list_item st.1.1 st.1.2 (x := items[i]) (by simp [hi]) fun h' a sb => q _ h' s.toks (by simp [hi]) ⟨⟨a, st.1.2.extBut sb.extBut nl⟩, sb.extBut x _ nx st.2⟩ fun b o hb e => sb.extBut b o (fun z => hb (by simp [z])) e
  done := fun s Q E st q => list_over_hot ⟨out, o, vs, st.2, d, c⟩ nx st.1.1 st.1.2 (by simp) fun h' k => q h' s.toks fun b o hb e => k b o (fun z => hb (by simp [z])) e
  self := fun _ _ _ _ st q => wpAny_pyIter_listiter st.1.1 q
end
section
variable {X : Cx}
def rAnyH (K : PySem.W.Frag) (x : Addr) : List V → Hp → VK → Prop := fun vs H Q => (∃ C, H x = some (ExcO C x)) ∧ rAny K vs H Q
theorem cr_anyH {x : Addr} (out : X.A.handled = some (.ref x)) : CallR X (.builtin "any") (rAnyH X.K x) := by
  intro pins s σ H vs us Q I r h
  obtain ⟨⟨C, ec⟩, a, bs, rfl, hs, q⟩ := h
  obtain ⟨-, o, fs, g, d, c⟩ := hot_at I out ec
  obtain ⟨its, rv, hl, -⟩ := I.list hs
  rw [Vals.ref1 r]
  have vb := rv.bls
  refine call_any_walk (iter_any hl.isList fun s2 e2 st ne => ?_)
  subst e2
  have lx := Heap.lt_size g
  refine ⟨_, _, _, _, _, _, _, rfl, walks_list_hot (A := X.A.in1) out d c (Nat.ne_of_lt lx) ne its.toArray, ⟨st, Heap.get?_push_of_some _ g⟩, truth_bools vb, fun h' tk k => ⟨.bl _, H, I.kept fun b ob e => k b ob (fun m => ?_) (Heap.get?_push_of_some _ e), ?_, q⟩⟩
  · rw [List.mem_singleton] at m
    rw [m] at e
    exact absurd (Heap.lt_size e) (Nat.lt_irrefl _)
  · show Value.bool _ = Value.bool _
    rw [← L2.any_range, vb, List.size_toArray, List.length_map]
end
end My
namespace Law
open PySem PySem.Spec PyProof.Rows L2 My
theorem sc_law_cell_at : FnScope ["_law_script", "_law_k"] ["_law_script", "_law_k"] (defScope s_law_cell_at) := ⟨rfl, rfl, rfl, by decide +kernel, rfl, by decide +kernel, by decide +kernel⟩
theorem ok_law_cell_at {P : Program} {w : World} {K : PySem.W.Frag} {mg : Str → Option Value} {base : Heap} {A : Ad} (T : Txt K mg A) : FnOk P w K mg base CX0 1 A.a_law_cell_at A.d_law_cell_at ["_law_script", "_law_k"] (My.spCell K) := by
  refine T.F_law_cell_at.ok sc_law_cell_at (fun vs H Q E h => ?_) (fun cdv A' outer s H vs Q E hr h => ?_)
  · walk_at "spl"
  · have nd := sc_law_cell_at.nd
    have hu := hu_of hr
    refine ⟨_, (pss_cons (ps_if (pt_cmpR op_lt (pv 1) (pe_callB call_lenU rfl T.n_len PySem.boot_len (pa_cons (pv 0) pa_nil)) (nomark _)) (pss_one (ps_ret (pe_ix ix_list (pv 0) (pv 1) (fun _ _ => rfl)))) pss_nil) (pss_one (ps_ret pe_int))), ?_⟩
    clear nd
    obtain ⟨a, ns, i, rfl, hS, hi, k⟩ := h
    walk_at "rd"
    refine ⟨_, .inl hS, ?_⟩
    rw [List.length_map]
    split
    · rename_i c
      exact ⟨_, _, hS, at_int hi c, k⟩
    · rename_i c
      have e : getI ns i = 0 := by
        unfold getI
        rw [List.getD_eq_getElem?_getD, List.getElem?_eq_none_iff.mpr (by omega)]
        rfl
      rw [e] at k
      exact k
theorem sc_law_sign : FnScope ["_law_number", "_law_some"] ["_law_number"] (defScope s_law_sign) := ⟨rfl, rfl, rfl, by decide +kernel, rfl, by decide +kernel, by decide +kernel⟩
theorem ok_law_sign {P : Program} {w : World} {K : PySem.W.Frag} {mg : Str → Option Value} {base : Heap} {A : Ad} (T : Txt K mg A) : FnOk P w K mg base CX0 1 A.a_law_sign A.d_law_sign ["_law_number"] (spI1 (fun _ => True) fun n => .str ⟨#[sg92 (n % 23)]⟩) := by
  refine T.F_law_sign.ok sc_law_sign (fun vs H Q E h => ?_) (fun cdv A' outer s H vs Q E hr h => ?_)
  · (obtain ⟨_, rfl, _⟩ := h; rfl)
  · have nd := sc_law_sign.nd
    have hu := hu_of hr
    refine ⟨_, (pss_cons (ps_set (i := 1) nd rfl (Or.inl rfl) pe_str) (pss_one (ps_ret (pe_ix ix_str (pv 1) (pe_op op_mod (pv 0) (pe_callB call_lenU rfl T.n_len PySem.boot_len (pa_cons (pv 1) pa_nil))) (fun _ _ => rfl))))), ?_⟩
    clear nd
    obtain ⟨n, rfl, -, k⟩ := h
    walk_at "rd"
    rw [signs92]
    have n0 : 0 ≤ n % 23 := Int.emod_nonneg _ (by decide)
    have n1 : n % 23 < 23 := Int.emod_lt_of_pos _ (by decide)
    have hl : (SX.S al92).length = 23 := by rw [SX.S_len]; rfl
    rw [hl, S_list]
    exact ⟨by decide, by decide, sg92 (n % 23), by decide, sg92_some n0 n1, k⟩

end Law
namespace Law
open PySem PySem.Spec PyProof.Rows L2 My
theorem sc_law_leaf : FnScope ["_law_cell", "_law_other", "_law_k"] ["_law_cell", "_law_other"] (defScope s_law_leaf) := ⟨rfl, rfl, rfl, by decide +kernel, rfl, by decide +kernel, by decide +kernel⟩
theorem ok_law_leaf {P : Program} {w : World} {K : PySem.W.Frag} {mg : Str → Option Value} {base : Heap} {A : Ad} (T : Txt K mg A) : FnOk P w K mg base CX0 2 A.a_law_leaf A.d_law_leaf ["_law_cell", "_law_other"] spLeaf91 := by
  refine T.F_law_leaf.ok sc_law_leaf (fun vs H Q E h => ?_) (fun cdv A' outer s H vs Q E hr h => ?_)
  · exact len_leaf91 h
  · have nd := sc_law_leaf.nd
    have hu := hu_of hr
    refine ⟨_, (pss_cons (ps_if (pt_cmpR op_eq (pe_op op_mod (pv 0) pe_int) pe_int (nomark _)) (pss_one (ps_ret (pe_op op_mod (pv 1) (pe_op op_pow pe_int pe_int)))) pss_nil) (pss_cons (ps_if (pt_cmpR op_eq (pe_op op_mod (pv 0) pe_int) pe_int (nomark _)) (pss_one (ps_ret (pe_un un_neg (pe_op op_mod (pe_op op_mulX (pv 1) (pe_op op_pow pe_int pe_int)) (pe_op op_pow pe_int pe_int))))) pss_nil) (pss_one (ps_ret (pe_m1 PySem.F.slot_str_join PySem.F.type_str_join mt_joinq pe_str (pe_lc (own := [("_law_k", 2)]) rfl nd (pi_range1 rfl T.n_range (pa_cons (pe_ix ix_list (pe_lst (pa_cons (pe_op op_mod (pv 1) pe_int) (pa_cons pe_int pa_nil))) (pe_op op_mod (pe_op op_fdivW (pv 0) pe_int) pe_int) (fun _ _ => rfl)) pa_nil)) (blkOk_by (own := [("_law_k", 2)]) (N := ["_law_cell", "_law_other", "_law_k"]) (sc := defScope s_law_leaf) (by decide +kernel)) (fun _ _ _ _ _ => (pg_name (i := 2) nd rfl (Or.inl rfl))) (fun _ _ _ _ _ => pts_nil) (fun _ _ _ _ _ => (pe_call (ok_law_sign (P := P) (w := w) T) (hr.mono (by decide)) rfl T.m_law_sign T.F_law_sign.kp T.b_law_sign .nil pass0 (pa_cons (pe_op op_add (pe_op op_fdivW (pv 1) (pe_op op_add (pv 2) pe_int)) (pe_op op_mulX (pe_op op_mulX pe_int (pv 2)) (pv 2))) pa_nil))))))))), ?_⟩
    clear nd
    obtain ⟨c, o, rfl, hbc, hb, k⟩ := h
    walk_at "rd"
    refine iteB (fun _ => ⟨by walk_at "side", k _ (.num _) H (Same.refl _) (.num _) (.num (by omega) (by omega))⟩) fun _ => iteB (fun _ => ⟨by walk_at "side", hb.mul (by decide) (by decide), by walk_at "side", k _ (.num _) H (Same.refl _) (.num _) (.num (by omega) (by omega))⟩) fun _ => ⟨by walk_at "sz", fun p hp => ⟨by walk_at "side", ?_⟩⟩
    obtain ⟨j, ej, j0, j1⟩ : ∃ j : Int, atI [V.int (o % 5), V.int 60] (c / 3 % 2) = some (.int j) ∧ 0 ≤ j ∧ j ≤ 60 := by
      have : c / 3 % 2 = 0 ∨ c / 3 % 2 = 1 := by omega
      rcases this with e | e <;> rw [e]
      · exact ⟨_, rfl, by omega, by omega⟩
      · exact ⟨_, rfl, by omega, by omega⟩
    have s1 := Same_upd (o := .lst [V.int (o % 5), V.int 60]) (Same.refl H) hp
    have e1 := upd_same (H := H) (a := p) (o := .lst [V.int (o % 5), V.int 60])
    generalize upd H p (.lst [V.int (o % 5), V.int 60]) = H1 at s1 e1 ⊢
    refine ⟨_, _, SqL.of e1, ej, ⟨by omega, by omega⟩, fun D hD => ?_⟩
    generalize eL : (List.range j.toNat).map (fun (i : Nat) => sg92 ((o / ((i : Int) + 1) + 7 * (i : Int) * (i : Int)) % 23)) = l
    have ll : l.length = j.toNat := by rw [← eL]; simp
    have ok : codesOk l := fun c m => by
      rw [← eL] at m
      obtain ⟨i, -, rfl⟩ := List.mem_map.mp m
      exact sg92_ok _
    refine go_lcm walk_range (l.map fun c => V.str ⟨#[c]⟩) (by rw [List.length_map, ll]) (by rw [sizeLine_eq]; omega) hD (fun H s => trivial) ?_ (fun H2 s2 hD2 => ?_) gName_mono
    · rintro N i x H4 H5 hi s4 ⟨rfl, rfl⟩ hN
      walk_at "rd"
      refine ⟨by walk_at "side", mulL (by decide) (by omega), mulL (by omega) (by omega), hN _ _ ?_ (Same.refl _)⟩
      rw [List.getElem?_map, ← eL, List.getElem?_map, List.getElem?_range hi]
      rfl
    · refine join_ones (SqL.of hD2) (by omega) fun ys ey => ?_
      rw [ey]
      exact k _ (.txt (SX.S l)) _ (s1.trans s2) (.txt _) (.txt ok (by omega))

end Law
namespace Law
open PySem PySem.Spec PyProof.Rows L2 My
theorem sc_law_key : FnScope ["_law_script", "_law_at", "_law_key_here", "_law_level", "_law_cell", "_law_parts", "_law_k"] ["_law_script", "_law_at"] (defScope s_law_key) := ⟨rfl, rfl, rfl, by decide +kernel, rfl, by decide +kernel, by decide +kernel⟩
theorem ok_law_key {P : Program} {w : World} {K : PySem.W.Frag} {mg : Str → Option Value} {base : Heap} {A : Ad} (T : Txt K mg A) : FnOk P w K mg base CX0 3 A.a_law_key A.d_law_key ["_law_script", "_law_at"] (spKey91 K) := by
  refine T.F_law_key.ok sc_law_key (fun vs H Q E h => ?_) (fun cdv A' outer s H vs Q E hr h => ?_)
  · exact len_key91 h
  · have nd := sc_law_key.nd
    have hu := hu_of hr
    refine ⟨_, (pss_cons (ps_set (i := 2) nd rfl (Or.inl rfl) (pe_call (ok_law_leaf (P := P) (w := w) T) (hr.mono (by decide)) rfl T.m_law_leaf T.F_law_leaf.kp T.b_law_leaf .nil pass0 (pa_cons (pe_call (ok_law_cell_at (P := P) (w := w) T) (hr.mono (by decide)) rfl T.m_law_cell_at T.F_law_cell_at.kp T.b_law_cell_at .nil pass0 (pa_cons (pv 0) (pa_cons (pe_op op_add (pv 1) pe_int) pa_nil))) (pa_cons (pe_call (ok_law_cell_at (P := P) (w := w) T) (hr.mono (by decide)) rfl T.m_law_cell_at T.F_law_cell_at.kp T.b_law_cell_at .nil pass0 (pa_cons (pv 0) (pa_cons (pe_op op_add (pv 1) pe_int) pa_nil))) pa_nil)))) (pss_cons (ps_for PassesOwn.never rfl (pi_range1 rfl T.n_range (pa_cons (pe_op op_mod (pe_call (ok_law_cell_at (P := P) (w := w) T) (hr.mono (by decide)) rfl T.m_law_cell_at T.F_law_cell_at.kp T.b_law_cell_at .nil pass0 (pa_cons (pv 0) (pa_cons (pv 1) pa_nil))) pe_int) pa_nil)) (pg_name (i := 3) nd rfl (Or.inl rfl)) (pss_cons (ps_set (i := 4) nd rfl (Or.inr rfl) (pe_call (ok_law_cell_at (P := P) (w := w) T) (hr.mono (by decide)) rfl T.m_law_cell_at T.F_law_cell_at.kp T.b_law_cell_at .nil pass0 (pa_cons (pv 0) (pa_cons (pe_op op_add (pe_op op_add (pv 1) pe_int) (pv 3)) pa_nil)))) (pss_cons (ps_setLc (i := 5) (own := [("_law_k", 6)]) rfl nd rfl rfl (sw_true rfl rfl rfl (by decide +kernel)) (pi_range1 rfl T.n_range (pa_cons (pe_op op_mod (pv 4) pe_int) pa_nil)) (blkOk_by (own := [("_law_k", 6)]) (N := ["_law_script", "_law_at", "_law_key_here", "_law_level", "_law_cell", "_law_parts", "_law_k"]) (sc := defScope s_law_key) (by decide +kernel)) (fun _ _ _ _ _ => (pg_name (i := 6) nd rfl (Or.inl rfl))) (fun _ _ _ _ _ => pts_nil) (fun _ _ _ _ _ => (pe_call (ok_law_leaf (P := P) (w := w) T) (hr.mono (by decide)) rfl T.m_law_leaf T.F_law_leaf.kp T.b_law_leaf .nil pass0 (pa_cons (pe_call (ok_law_cell_at (P := P) (w := w) T) (hr.mono (by decide)) rfl T.m_law_cell_at T.F_law_cell_at.kp T.b_law_cell_at .nil pass0 (pa_cons (pv 0) (pa_cons (pe_op op_add (pe_op op_add (pv 1) pe_int) (pv 6)) pa_nil))) (pa_cons (pe_op op_add (pe_op op_fdivW (pv 4) pe_int) (pe_op op_mulX (pv 6) (pv 6))) pa_nil))))) (C8.pss_cut (ps_if (pt_cmpR op_gt (pe_callB call_lenU rfl T.n_len PySem.boot_len (pa_cons (pv 5) pa_nil)) pe_int (nomark _)) (pss_one (ps_asg (pv 2) (pg_sub (pv 5) (pe_op op_mod (pe_op op_fdivW (pv 4) pe_int) (pe_callB call_lenU rfl T.n_len PySem.boot_len (pa_cons (pv 5) pa_nil))) set_list))) pss_nil) (pss_one (ps_set (i := 2) nd rfl (Or.inl rfl) (pe_callTy call_tupleq rfl T.n_tuple (by decide +kernel) (pa_cons (pv 5) pa_nil)))))))) (pss_one (ps_ret (pv 2))))), ?_⟩
    clear nd
    obtain ⟨a, ns, n, rfl, hS, hl, hbn, n0, n1, k⟩ := h
    walk_at "rd"
    refine ⟨ns, hS, by omega, ns, hS, by omega, _, _, rfl, getI_bd hbn _, (getI_bd hbn _).mono (by decide), fun v y H1 s1 hv hw => ⟨ns, s1.seq hS, n0, ⟨by omega, by omega⟩, ?_⟩⟩
    refine go_range (fun i σ H' => ∃ v2 v3 v4 v5 v6 y, σ = [some (.ref a), some (.int n), some v2, v3, v4, v5, v6] ∧ Same H H' ∧ KyAt H' v2 y ∧ Wy i y) ⟨_, _, _, _, _, y, rfl, s1, hv, hw⟩ ?_ ?_
    · rintro N i σ H2 hi ⟨v2, v3, v4, v5, v6, y, rfl, s2, hv, hw⟩ hN
      walk_at "rd"
      generalize eC : getI ns (n + 3 + (i : Int)) = cc
      have c0 : 0 ≤ cc % 7 := Int.emod_nonneg _ (by decide)
      have c1 : cc % 7 < 7 := Int.emod_lt_of_pos _ (by decide)
      refine ⟨ns, s2.seq hS, by omega, ?_⟩
      rw [eC]
      refine ⟨⟨by omega, by omega⟩, fun D hD => go_lcw walk_range (Wy 0) (fun _ h => h.2.2) (by rw [sizeLine_eq]; omega) hD (fun H s => trivial) ?_ fun H4 ws ks s4 e4 hk lk wk => ?_⟩
      · rintro N2 Z q x H4 H5 hq s4 ⟨rfl, rfl⟩ hN2
        walk_at "rd"
        refine ⟨ns, (s2.trans s4).seq hS, by omega, by walk_at "side", mulL (by omega) (by omega), _, _, rfl, getI_bd hbn _, ?_, fun v z H6 s6 hz wz => hN2 v z H6 wz s6 hz⟩
        rw [← eC]
        refine (Bd.add (e := 0) ((getI_bd hbn _).div (by decide)) (c := (q : Int) * (q : Int)) ?_).mono (by decide)
        have h6 : q ≤ 6 := by omega
        have h36 : q * q ≤ 6 * 6 := Nat.mul_le_mul h6 h6
        rw [← Int.natCast_mul, Int.natAbs_natCast]
        omega
      · have lw := hk.len
        have hv4 := hv.same s4 _ _
        walk_at "rd"
        refine ⟨fun σ H' => ∃ ws ks, σ = [some (.ref a), some (.int n), some v2, some (.int (i : Nat)), some (.int cc), some (.ref D), v6] ∧ Same H2 H' ∧ H' D = some (.lst ws) ∧ KysAt H' ws ks ∧ ks.length ≤ 6 ∧ ∀ z ∈ ks, Wy i z, ⟨ws, .inl (SqL.of e4), iteB (fun cn => ?_) fun _ => ⟨ws, ks, rfl, s4, e4, hk, by omega, fun z m => (wk z m).up⟩⟩, ?_⟩
        · refine ⟨by walk_at "side", ws, .inl (SqL.of e4), cn, ws, _, e4, ixN_nat (Int.emod_nonneg _ (by omega)) (Int.emod_lt_of_pos _ cn), _, ks.set (cc / 7 % (ws.length : Int)).toNat y, rfl, Same_upd0 s4 hD, upd_same, (kys_upd e4 (fun _ z => by cases z) (vals_iff.mpr fun y m => (wk y m).2.2) hk).set (ky_upd e4 (fun _ z => by cases z) hw.2.2 hv4), by rw [List.length_set]; omega, fun z m => ?_⟩
          rcases List.mem_or_eq_of_mem_set m with m | rfl
          · exact (wk z m).up
          · exact hw
        · rintro σ H5 ⟨ws, ks, rfl, s5, e5, hk, l6, wk⟩
          walk_at "rd"
          refine ⟨ws, .inl ⟨SqL.of e5, fun l hl => ?_⟩⟩
          have s6 := Same_upd (o := .tup ws) (Same.refl H5) hl
          exact hN _ _ ⟨.ref l, _, _, _, _, .tup ks, rfl, (s2.trans s5).trans s6, .tup upd_same (hk.same s6 _ _), Wy.tup wk l6⟩
    · rintro σ H2 ⟨v2, v3, v4, v5, v6, y, rfl, s2, hv, hw⟩
      walk_at "rd"
      exact k v2 y H2 s2 hv (hw.le (by omega))

end Law
namespace Law
open PySem PySem.Spec PyProof.Rows L2 My
theorem sc_law_written : FnScope ["_law_key_here", "_law_part", "_law_signs", "_law_sign_here"] ["_law_key_here"] (defScope s_law_written) := ⟨rfl, rfl, rfl, by decide +kernel, rfl, by decide +kernel, by decide +kernel⟩
theorem ok_law_writtenS {P : Program} {w : World} {K : PySem.W.Frag} {mg : Str → Option Value} {base : Heap} {A : Ad} (T : Txt K mg A) {m : Nat} (G : FnOk P w K mg base CX0 (m + 1) A.a_law_written A.d_law_written ["_law_key_here"] (spShownM m)) : FnOk P w K mg base CX0 (m + 1 + 1) A.a_law_written A.d_law_written ["_law_key_here"] (spShownM (m + 1)) := by
  refine T.F_law_written.ok sc_law_written (fun vs H Q E h => ?_) (fun cdv A' outer s H vs Q E hr h => ?_)
  · exact len_shownM h
  · have nd := sc_law_written.nd
    have hu := hu_of hr
    refine ⟨_, (pss_cons (ps_if (pt_val (pe_callB call_isiF rfl T.n_isinstance (by decide +kernel) (pa_cons (pv 0) (pa_cons (pe_bltn (v := .ty "int") rfl T.n_int (by decide +kernel) rfl) pa_nil)))) (pss_one (ps_ret (pe_callTy call_str_int rfl T.n_str (by decide +kernel) (pa_cons (pv 0) pa_nil)))) pss_nil) (pss_cons (ps_if (pt_val (pe_callB call_isiF rfl T.n_isinstance (by decide +kernel) (pa_cons (pv 0) (pa_cons (pe_bltn (v := .ty "tuple") rfl T.n_tuple (by decide +kernel) rfl) pa_nil)))) (pss_one (ps_ret (pe_op op_addT (pe_op op_addT pe_str (pe_m1 PySem.F.slot_str_join PySem.F.type_str_join mt_joinq pe_str (pe_lc (own := [("_law_part", 1)]) rfl nd (pi_tup (pv 0)) (blkOk_by (own := [("_law_part", 1)]) (N := ["_law_key_here", "_law_part", "_law_signs", "_law_sign_here"]) (sc := defScope s_law_written) (by decide +kernel)) (fun _ _ _ _ _ => (pg_name (i := 1) nd rfl (Or.inl rfl))) (fun _ _ _ _ _ => pts_nil) (fun _ _ _ _ _ => (pe_call G (hr.mono (Nat.le_refl _)) rfl T.m_law_written T.F_law_written.kp T.b_law_written .nil pass0 (pa_cons (pv 1) pa_nil)))))) pe_str))) pss_nil) (pss_cons (ps_set (i := 2) nd rfl (Or.inl rfl) (pe_lst pa_nil)) (pss_cons (ps_for PassesOwn.never rfl (pi_str (pv 0)) (pg_name (i := 3) nd rfl (Or.inl rfl)) (pss_cons (ps_if (PW.pt (pw_or (pt_cmpR op_eq (pv 3) pe_str (nomark _)) (pw_or1 (pt_cmpR op_eq (pv 3) pe_str (nomark _))))) (pss_one (ps_expr (pe_bm PySem.F.plainAttrs_list PySem.F.slot_list_append PySem.F.type_list_append mt_append (pv 2) (pa_cons pe_str pa_nil)))) pss_nil) (pss_one (ps_expr (pe_bm PySem.F.plainAttrs_list PySem.F.slot_list_append PySem.F.type_list_append mt_append (pv 2) (pa_cons (pv 3) pa_nil)))))) (pss_one (ps_ret (pe_op op_addT (pe_op op_addT pe_str (pe_m1 PySem.F.slot_str_join PySem.F.type_str_join mt_joinq pe_str (pv 2))) pe_str))))))), ?_⟩
    clear nd
    obtain ⟨v, y, rfl, hv, hw, hm, k⟩ := h
    have hsh := shown_le hw hm
    walk_at "rd"
    have NO : ∀ {P : Prop} {u : Ky}, within m u = true → (∀ i, u ≠ .num i) → (∀ x, u ≠ .txt x) → (∀ ks, u ≠ .tup ks) → P := fun {P u} h h1 h2 h3 => by
      cases u with
      | num i => exact absurd rfl (h1 i)
      | txt x => exact absurd rfl (h2 x)
      | tup ks => exact absurd rfl (h3 ks)
      | non => cases m <;> simp [within] at h
      | bl b => cases m <;> simp [within] at h
      | lst n => cases m <;> simp [within] at h
      | dct => cases m <;> simp [within] at h
    cases y with
    | num i =>
      cases hv
      have hwi : -(10 ^ 60) < i ∧ i < 10 ^ 60 := by cases m <;> simpa [within] using hw
      walk_at "rd"
      refine ⟨i, rfl, ?_, ?_⟩
      · have : i.natAbs < 2 ^ 200 := Nat.lt_of_lt_of_le (show i.natAbs < 10 ^ 60 by omega) (by decide)
        by_cases z : i.natAbs = 0
        · rw [z]
          decide
        · exact Nat.lt_of_lt_of_le ((Nat.log2_lt z).mpr this) (by decide)
      · rw [numL_S]
        exact k _ (Same.refl _)
    | txt x =>
      cases hv
      have hwx : x.length ≤ 60 := by cases m <;> simpa [within] using hw
      walk_at "rd"
      have ex : x = SX.S x.cps.toList := S_of rfl
      have ln : x.cps.toList.length ≤ 60 := by rw [Array.length_toList]; exact hwx
      rw [shownL] at hsh k
      generalize x.cps.toList = l at ex ln hsh k
      subst ex
      refine ⟨by walk_at "sz", fun p hp => ?_⟩
      have s0 := Same_upd (o := .lst []) (Same.refl H) hp
      have e0 := upd_same (H := H) (a := p) (o := .lst [])
      generalize upd H p (.lst []) = H0 at s0 e0 ⊢
      refine go_it walk_str (fun i σ H' => ∃ v3, σ = [some (.str (SX.S l)), none, some (.ref p), v3] ∧ Same H H' ∧ H' p = some (.lst ((escL (l.take i)).map fun c => V.str ⟨#[c]⟩))) ⟨_, rfl, s0, e0⟩ (fun _ _ _ _ _ => trivial) ?_ ?_
      · rintro N i v σ H2 H1 hi ⟨v3, rfl, s1, e1⟩ ⟨rfl, c, hc, rfl⟩ hN
        have hc : l[i]? = some c := by simpa using hc
        have lt := escL_len (l.take i)
        rw [List.length_take] at lt
        have te : escL (l.take (i + 1)) = escL (l.take i) ++ (if c = 92 ∨ c = 34 then [92, c] else [c]) := by
          rw [List.take_add_one, hc]
          unfold escL
          rw [List.flatMap_append]
          simp
        have two : (c = 92 ∨ c = 34) → N [some (.str (SX.S l)), none, some (.ref p), some (.str ⟨#[c]⟩)] (upd (upd H1 p (.lst ((escL (l.take i)).map (fun c => V.str ⟨#[c]⟩) ++ [V.str (SX.S [92])]))) p (.lst ((escL (l.take i)).map (fun c => V.str ⟨#[c]⟩) ++ [V.str (SX.S [92])] ++ [V.str ⟨#[c]⟩]))) := fun h => hN _ _ ⟨_, rfl, Same_upd0 (Same_upd0 s1 hp) hp, by rw [upd_same, te, if_pos h, List.map_append, List.append_assoc]; rfl⟩
        walk_at "rd"
        rw [q_S, b_S]
        refine iteB (fun c1 => ⟨tyL e1, _, e1, by rw [List.length_map, sizeLine_eq]; omega, tyL upd_same, _, upd_same, by rw [List.length_append, List.length_map, List.length_singleton, sizeLine_eq]; omega, two (.inr (V1_eq.mp c1))⟩) fun c1 => iteB (fun c2 => ⟨tyL e1, _, e1, by rw [List.length_map, sizeLine_eq]; omega, tyL upd_same, _, upd_same, by rw [List.length_append, List.length_map, List.length_singleton, sizeLine_eq]; omega, two (.inl (V1_eq.mp c2))⟩) fun c2 => ⟨tyL e1, _, e1, by rw [List.length_map, sizeLine_eq]; omega, hN _ _ ⟨_, rfl, Same_upd0 s1 hp, ?_⟩⟩
        rw [upd_same, te, if_neg (by rintro (h | h); exact c2 (V1_eq.mpr h); exact c1 (V1_eq.mpr h)), List.map_append]
        rfl
      · rintro σ H1 ⟨v3, rfl, s1, e1⟩
        walk_at "rd"
        have lt := escL_len l
        rw [show (SX.S l).cps.size = l.length by simp, List.take_length] at e1
        refine join_ones (SqL.of e1) (by omega) fun ys ey => ?_
        rw [ey, q_S, SX.S_cat, SX.S_cat, SX.S_len, SX.S_len, SX.S_len, sizeLine_eq]
        simp only [List.length_cons, List.length_nil, List.length_append]
        refine ⟨by omega, by omega, ?_⟩
        have e : [34] ++ escL l ++ [34] = 34 :: (escL l ++ [34]) := rfl
        rw [e]
        exact k _ s1
    | tup ks =>
      cases hv with
      | @tup a xs _ h p =>
        simp only [isi_tup_int h, isi_tup_tuple h]
        walk_at "rd"
        obtain ⟨m', rfl⟩ : ∃ m', m = m' + 1 := by
          cases m with
          | zero => simp [within] at hw
          | succ m' => exact ⟨m', rfl⟩
        have hw' : ks.length ≤ 6 ∧ ∀ y ∈ ks, within m' y = true := by simpa [within] using hw
        have lx := p.len
        rw [shownL, List.length_cons, List.length_append, List.length_singleton] at hsh
        refine ⟨⟨_, SqT.of h⟩, fun D hD => go_lcm (walk_tup (xs := xs)) ((shownLs ks).map fun l => V.str (SX.S l)) (by rw [List.length_map, shownLs_map, List.length_map]; omega) (by rw [sizeLine_eq]; omega) hD (fun H s => SqT.of (s _ _ h)) ?_ (fun H2 s2 hD2 => ?_) gName_mono⟩
        · rintro N i x H4 H5 hi s4 ⟨rfl, hx⟩ hN
          obtain ⟨k1, hk1, hx1⟩ := p.get hx
          walk_at "rd"
          refine ⟨x, k1, rfl, hx1.same s4 _ _, hw'.2 k1 (List.mem_of_getElem? hk1), by omega, fun H7 s7 => hN _ _ ?_ s7⟩
          rw [shownLs_map, List.map_map, List.getElem?_map, hk1]
          rfl
        · have fl := flat_le (shownLs ks)
          have e6 : (shownLs ks).length = ks.length := by rw [shownLs_map, List.length_map]
          refine ⟨(shownLs ks).map SX.S, .inl (SqL.of (by rw [List.map_map]; exact hD2)), ?_, ?_⟩
          · rw [lens_sum, List.length_map, sp_S, SX.S_len]
            simp only [List.length_cons, List.length_nil]
            omega
          · rw [sp_S, SX.join_S, o_S, c_S, SX.S_cat, SX.S_cat, SX.S_len, SX.S_len, SX.S_len, SX.S_len, sizeLine_eq]
            simp only [List.length_cons, List.length_nil, List.length_append]
            refine ⟨by omega, by omega, ?_⟩
            have e : [40] ++ TL.joinL [32] (shownLs ks) ++ [41] = shownL (.tup ks) := by rw [shownL]; rfl
            rw [e]
            exact k _ s2
    | non => exact NO hw (fun _ z => by cases z) (fun _ z => by cases z) (fun _ z => by cases z)
    | bl b => exact NO hw (fun _ z => by cases z) (fun _ z => by cases z) (fun _ z => by cases z)
    | lst n => exact NO hw (fun _ z => by cases z) (fun _ z => by cases z) (fun _ z => by cases z)
    | dct => exact NO hw (fun _ z => by cases z) (fun _ z => by cases z) (fun _ z => by cases z)

end Law
namespace Law
open PySem PySem.Spec PyProof.Rows L2 My
theorem sc_law_odd : FnScope ["_law_cell", "_law_some"] ["_law_cell"] (defScope s_law_odd) := ⟨rfl, rfl, rfl, by decide +kernel, rfl, by decide +kernel, by decide +kernel⟩
theorem ok_law_odd {P : Program} {w : World} {K : PySem.W.Frag} {mg : Str → Option Value} {base : Heap} {A : Ad} (T : Txt K mg A) : FnOk P w K mg base CX0 1 A.a_law_odd A.d_law_odd ["_law_cell"] spOdd92 := by
  refine T.F_law_odd.ok sc_law_odd (fun vs H Q E h => ?_) (fun cdv A' outer s H vs Q E hr h => ?_)
  · exact len_odd92 h
  · have nd := sc_law_odd.nd
    have hu := hu_of hr
    refine ⟨_, (pss_cons (ps_set (i := 1) nd rfl (Or.inl rfl) (pe_lst (pa_cons pe_str (pa_cons pe_str (pa_cons pe_str (pa_cons pe_str (pa_cons pe_str (pa_cons pe_str (pa_cons pe_str (pa_cons pe_str (pa_cons pe_str (pa_cons pe_str (pa_cons pe_str (pa_cons pe_str (pa_cons pe_str (pa_cons pe_str (pa_cons pe_str pa_nil))))))))))))))))) (pss_cons (ps_set (i := 1) nd rfl (Or.inl rfl) (pe_op op_cat (pv 1) (pe_lst (pa_cons pe_str (pa_cons pe_str (pa_cons pe_str (pa_cons pe_str (pa_cons pe_str (pa_cons pe_str (pa_cons pe_str (pa_cons pe_str (pa_cons pe_str (pa_cons pe_str pa_nil))))))))))))) (pss_cons (ps_set (i := 1) nd rfl (Or.inl rfl) (pe_op op_cat (pv 1) (pe_lst (pa_cons (pe_op op_mulS pe_str pe_int) (pa_cons (pe_op op_addT pe_str (pe_op op_mulS pe_str pe_int)) (pa_cons (pe_op op_addT pe_str (pe_op op_mulS pe_str pe_int)) (pa_cons (pe_op op_addT (pe_op op_addT pe_str (pe_op op_mulS pe_str pe_int)) pe_str) (pa_cons pe_str (pa_cons pe_str (pa_cons pe_str (pa_cons pe_str pa_nil))))))))))) (pss_cons (ps_set (i := 1) nd rfl (Or.inl rfl) (pe_op op_cat (pv 1) (pe_lst (pa_cons pe_str (pa_cons pe_str (pa_cons pe_str (pa_cons pe_str (pa_cons pe_str pa_nil)))))))) (pss_one (ps_ret (pe_ix ix_list (pv 1) (pe_op op_mod (pv 0) (pe_callB call_lenU rfl T.n_len PySem.boot_len (pa_cons (pv 1) pa_nil))) (fun _ _ => rfl)))))))), ?_⟩
    clear nd
    obtain ⟨c, rfl, k⟩ := h
    walk_at "rd"
    have A0 : ([V.str (Str.ofString ""), V.str (Str.ofString "-"), V.str (Str.ofString "+1"), V.str (Str.ofString "01"), V.str (Str.ofString "-0"), V.str (Str.ofString "-01"), V.str (Str.ofString "00"), V.str (Str.ofString "1 "), V.str (Str.ofString " 1"), V.str (Str.ofString "1  2"), V.str (Str.ofString "(1,)"), V.str (Str.ofString "( )"), V.str (Str.ofString "(1 )"), V.str (Str.ofString "( 1)"), V.str (Str.ofString "()()")] : List V).all okB = true ∧ ([V.str (Str.ofString ""), V.str (Str.ofString "-"), V.str (Str.ofString "+1"), V.str (Str.ofString "01"), V.str (Str.ofString "-0"), V.str (Str.ofString "-01"), V.str (Str.ofString "00"), V.str (Str.ofString "1 "), V.str (Str.ofString " 1"), V.str (Str.ofString "1  2"), V.str (Str.ofString "(1,)"), V.str (Str.ofString "( )"), V.str (Str.ofString "(1 )"), V.str (Str.ofString "( 1)"), V.str (Str.ofString "()()")] : List V).length = 15 := ⟨by decide +kernel, rfl⟩
    generalize [V.str (Str.ofString ""), V.str (Str.ofString "-"), V.str (Str.ofString "+1"), V.str (Str.ofString "01"), V.str (Str.ofString "-0"), V.str (Str.ofString "-01"), V.str (Str.ofString "00"), V.str (Str.ofString "1 "), V.str (Str.ofString " 1"), V.str (Str.ofString "1  2"), V.str (Str.ofString "(1,)"), V.str (Str.ofString "( )"), V.str (Str.ofString "(1 )"), V.str (Str.ofString "( 1)"), V.str (Str.ofString "()()")] = l0 at A0 ⊢
    have A1 : ([V.str (Str.ofString "\"a"), V.str (Str.ofString "a\""), V.str (Str.ofString "\"\\a\""), V.str (Str.ofString "\"a\\\""), V.str (Str.ofString "\"\"\""), V.str (Str.ofString "(((())))"), V.str (Str.ofString "(1 2 3 4 5 6 7)"), V.str (Str.ofString "()"), V.str (Str.ofString "(()"), V.str (Str.ofString "())")] : List V).all okB = true ∧ ([V.str (Str.ofString "\"a"), V.str (Str.ofString "a\""), V.str (Str.ofString "\"\\a\""), V.str (Str.ofString "\"a\\\""), V.str (Str.ofString "\"\"\""), V.str (Str.ofString "(((())))"), V.str (Str.ofString "(1 2 3 4 5 6 7)"), V.str (Str.ofString "()"), V.str (Str.ofString "(()"), V.str (Str.ofString "())")] : List V).length = 10 := ⟨by decide +kernel, rfl⟩
    generalize [V.str (Str.ofString "\"a"), V.str (Str.ofString "a\""), V.str (Str.ofString "\"\\a\""), V.str (Str.ofString "\"a\\\""), V.str (Str.ofString "\"\"\""), V.str (Str.ofString "(((())))"), V.str (Str.ofString "(1 2 3 4 5 6 7)"), V.str (Str.ofString "()"), V.str (Str.ofString "(()"), V.str (Str.ofString "())")] = l1 at A1 ⊢
    have A4 : ([V.str (Str.ofString "1_0"), V.str (Str.ofString "-1_0_0"), V.str (Str.ofString "0_1"), V.str (Str.ofString "1_"), V.str (Str.ofString "--1")] : List V).all okB = true ∧ ([V.str (Str.ofString "1_0"), V.str (Str.ofString "-1_0_0"), V.str (Str.ofString "0_1"), V.str (Str.ofString "1_"), V.str (Str.ofString "--1")] : List V).length = 5 := ⟨by decide +kernel, rfl⟩
    generalize [V.str (Str.ofString "1_0"), V.str (Str.ofString "-1_0_0"), V.str (Str.ofString "0_1"), V.str (Str.ofString "1_"), V.str (Str.ofString "--1")] = l4 at A4 ⊢
    refine ⟨by rw [A0.2]; walk_at "sz", fun p0 h0 => ⟨by rw [A1.2]; walk_at "sz", fun p1 h1 => ?_⟩⟩
    have s0 := Same_upd (o := .lst l0) (Same.refl H) h0
    have e0 := upd_same (H := H) (a := p0) (o := .lst l0)
    generalize upd H p0 (.lst l0) = H0 at s0 e0 h1 ⊢
    have s1 := Same_upd (o := .lst l1) (Same.refl H0) h1
    have e1 := upd_same (H := H0) (a := p1) (o := .lst l1)
    generalize upd H0 p1 (.lst l1) = H1 at s1 e1 ⊢
    refine ⟨l0, l1, s1 _ _ e0, e1, by rw [A0.2, A1.2, sizeLine_eq]; decide, fun p2 h2 => ⟨57, by decide +kernel, 57, by decide +kernel, by decide +kernel, 48, by decide +kernel, by decide +kernel, 97, by decide +kernel, by decide +kernel, by decide +kernel, ?_⟩⟩
    have A3 : ([V.str (SX.S (List.replicate 61 57)), V.str (Str.ofString "-" ++ SX.S (List.replicate 61 57)), V.str (Str.ofString "1" ++ SX.S (List.replicate 60 48)), V.str (Str.ofString "\"" ++ SX.S (List.replicate 61 97) ++ Str.ofString "\""), V.str (Str.ofString "1.0"), V.str (Str.ofString "1e3"), V.str (Str.ofString "None"), V.str (Str.ofString "none")] : List V).all okB = true ∧ ([V.str (SX.S (List.replicate 61 57)), V.str (Str.ofString "-" ++ SX.S (List.replicate 61 57)), V.str (Str.ofString "1" ++ SX.S (List.replicate 60 48)), V.str (Str.ofString "\"" ++ SX.S (List.replicate 61 97) ++ Str.ofString "\""), V.str (Str.ofString "1.0"), V.str (Str.ofString "1e3"), V.str (Str.ofString "None"), V.str (Str.ofString "none")] : List V).length = 8 := ⟨by decide +kernel, rfl⟩
    generalize [V.str (SX.S (List.replicate 61 57)), V.str (Str.ofString "-" ++ SX.S (List.replicate 61 57)), V.str (Str.ofString "1" ++ SX.S (List.replicate 60 48)), V.str (Str.ofString "\"" ++ SX.S (List.replicate 61 97) ++ Str.ofString "\""), V.str (Str.ofString "1.0"), V.str (Str.ofString "1e3"), V.str (Str.ofString "None"), V.str (Str.ofString "none")] = l3 at A3 ⊢
    have s2 := Same_upd (o := .lst (l0 ++ l1)) (Same.refl H1) h2
    have e2 := upd_same (H := H1) (a := p2) (o := .lst (l0 ++ l1))
    generalize upd H1 p2 (.lst (l0 ++ l1)) = H2 at s2 e2 ⊢
    refine ⟨by rw [A3.2]; walk_at "sz", fun p3 h3 => ?_⟩
    have s3 := Same_upd (o := .lst l3) (Same.refl H2) h3
    have e3 := upd_same (H := H2) (a := p3) (o := .lst l3)
    generalize upd H2 p3 (.lst l3) = H3 at s3 e3 ⊢
    refine ⟨l0 ++ l1, l3, s3 _ _ e2, e3, by rw [List.length_append, A0.2, A1.2, A3.2, sizeLine_eq]; decide, fun p4 h4 => ⟨by rw [A4.2]; walk_at "sz", fun p5 h5 => ?_⟩⟩
    have s4 := Same_upd (o := .lst (l0 ++ l1 ++ l3)) (Same.refl H3) h4
    have e4 := upd_same (H := H3) (a := p4) (o := .lst (l0 ++ l1 ++ l3))
    generalize upd H3 p4 (.lst (l0 ++ l1 ++ l3)) = H4 at s4 e4 h5 ⊢
    have s5 := Same_upd (o := .lst l4) (Same.refl H4) h5
    have e5 := upd_same (H := H4) (a := p5) (o := .lst l4)
    generalize upd H4 p5 (.lst l4) = H5 at s5 e5 ⊢
    refine ⟨l0 ++ l1 ++ l3, l4, s5 _ _ e4, e5, by rw [List.length_append, List.length_append, A0.2, A1.2, A3.2, A4.2, sizeLine_eq]; decide, fun p6 h6 => ?_⟩
    have ll : (l0 ++ l1 ++ l3 ++ l4).length = 38 := by rw [List.length_append, List.length_append, List.length_append, A0.2, A1.2, A3.2, A4.2]
    have aa : (l0 ++ l1 ++ l3 ++ l4).all okB = true := by rw [List.all_append, List.all_append, List.all_append, A0.1, A1.1, A3.1, A4.1]; rfl
    generalize l0 ++ l1 ++ l3 ++ l4 = l at ll aa ⊢
    have s6 := Same_upd (o := .lst l) (Same.refl H5) h6
    have e6 := upd_same (H := H5) (a := p6) (o := .lst l)
    generalize upd H5 p6 (.lst l) = H6 at s6 e6 ⊢
    have n0 : 0 ≤ c % 38 := Int.emod_nonneg _ (by decide)
    have n1 : c % 38 < 38 := Int.emod_lt_of_pos _ (by decide)
    obtain ⟨j, ej⟩ : ∃ j : Nat, c % 38 = j := ⟨(c % 38).toNat, by omega⟩
    have hj : j < l.length := by omega
    refine ⟨l, .inl (SqL.of e6), by omega, l, l[j], SqL.of e6, by rw [ll]; show atI l (c % 38) = _; rw [ej]; exact atI_nat (List.getElem?_eq_getElem hj), ?_⟩
    obtain ⟨t, e, lt, ct⟩ := okB_at (List.all_eq_true.mp aa _ (List.getElem_mem hj))
    rw [e]
    exact k t _ lt ct (s0.trans (s1.trans (s2.trans (s3.trans (s4.trans (s5.trans s6))))))

end Law
namespace Law
open PySem PySem.Spec PyProof.Rows L2 My
theorem sc_law_spoiled : FnScope ["_law_text", "_law_cell", "_law_other", "_law_at", "_law_way", "_law_sign_here"] ["_law_text", "_law_cell", "_law_other"] (defScope s_law_spoiled) := ⟨rfl, rfl, rfl, by decide +kernel, rfl, by decide +kernel, by decide +kernel⟩
theorem ok_law_spoiled {P : Program} {w : World} {K : PySem.W.Frag} {mg : Str → Option Value} {base : Heap} {A : Ad} (T : Txt K mg A) : FnOk P w K mg base CX0 2 A.a_law_spoiled A.d_law_spoiled ["_law_text", "_law_cell", "_law_other"] spSpoil92 := by
  refine T.F_law_spoiled.ok sc_law_spoiled (fun vs H Q E h => ?_) (fun cdv A' outer s H vs Q E hr h => ?_)
  · exact len_spoil92 h
  · have nd := sc_law_spoiled.nd
    have hu := hu_of hr
    refine ⟨_, (pss_cons (ps_set (i := 3) nd rfl (Or.inl rfl) (pe_op op_mod (pv 2) (pe_op op_add (pe_callB call_lenU rfl T.n_len PySem.boot_len (pa_cons (pv 0) pa_nil)) pe_int))) (pss_cons (ps_set (i := 4) nd rfl (Or.inl rfl) (pe_op op_mod (pv 1) pe_int)) (pss_cons (ps_set (i := 5) nd rfl (Or.inl rfl) (pe_call (ok_law_sign (P := P) (w := w) T) (hr.mono (by decide)) rfl T.m_law_sign T.F_law_sign.kp T.b_law_sign .nil pass0 (pa_cons (pe_op op_fdivW (pv 1) pe_int) pa_nil))) (pss_cons (ps_if (pt_cmpR op_eq (pv 4) pe_int (nomark _)) (pss_one (ps_ret (pe_op op_addT (pe_slice sl_str (pv 0) po_none (po_some (pv 3))) (pe_slice sl_str (pv 0) (po_some (pe_op op_add (pv 3) pe_int)) po_none)))) pss_nil) (pss_cons (ps_if (pt_cmpR op_eq (pv 4) pe_int (nomark _)) (pss_one (ps_ret (pe_op op_addT (pe_op op_addT (pe_slice sl_str (pv 0) po_none (po_some (pv 3))) (pv 5)) (pe_slice sl_str (pv 0) (po_some (pv 3)) po_none)))) pss_nil) (pss_cons (ps_if (pt_cmpR op_eq (pv 4) pe_int (nomark _)) (pss_one (ps_ret (pe_op op_addT (pe_op op_addT (pe_slice sl_str (pv 0) po_none (po_some (pv 3))) (pv 5)) (pe_slice sl_str (pv 0) (po_some (pe_op op_add (pv 3) pe_int)) po_none)))) pss_nil) (pss_cons (ps_if (pt_cmpR op_eq (pv 4) pe_int (nomark _)) (pss_one (ps_ret (pe_op op_addT (pv 5) (pv 0)))) pss_nil) (pss_one (ps_ret (pe_op op_addT (pv 0) (pe_ix ix_list (pe_lst (pa_cons pe_str (pa_cons pe_str (pa_cons pe_str (pa_cons pe_str (pa_cons pe_str pa_nil)))))) (pe_op op_mod (pe_op op_fdivW (pv 1) pe_int) pe_int) (fun _ _ => rfl)))))))))))), ?_⟩
    clear nd
    obtain ⟨T, c, o, rfl, lT, cT, k⟩ := h
    walk_at "rd"
    obtain ⟨q, eq, hq⟩ : ∃ q : Nat, o % (((SX.S T).length : Int) + 1) = q ∧ q ≤ T.length := by
      have h0 : 0 ≤ o % (((SX.S T).length : Int) + 1) := Int.emod_nonneg _ (by omega)
      have h1 : o % (((SX.S T).length : Int) + 1) < ((SX.S T).length : Int) + 1 := Int.emod_lt_of_pos _ (by omega)
      rw [SX.S_len] at h0 h1 ⊢
      exact ⟨(o % ((T.length : Int) + 1)).toNat, by omega, by omega⟩
    rw [eq, show ((q : Int) + 1) = ((q + 1 : Nat) : Int) by omega, cut_hi92 hq, cut_lo92, cut_lo92, S_item]
    simp only [SX.S_cat, SX.S_len, List.length_append, List.length_take, List.length_drop, List.length_singleton]
    rw [sizeLine_eq]
    refine ⟨by omega, by omega, by walk_at "side", iteB (fun _ => ⟨by omega, by omega, by omega, k _ _ ?_ (codesIn_app (codesIn_take cT _) (codesIn_drop cT _)) (Same.refl _)⟩) fun _ => iteB (fun _ => ⟨by omega, by omega, by omega, by omega, k _ _ ?_ (codesIn_app (codesIn_app (codesIn_take cT _) codesIn_sg) (codesIn_drop cT _)) (Same.refl _)⟩) fun _ => iteB (fun _ => ⟨by omega, by omega, by omega, by omega, k _ _ ?_ (codesIn_app (codesIn_app (codesIn_take cT _) codesIn_sg) (codesIn_drop cT _)) (Same.refl _)⟩) fun _ => iteB (fun _ => ⟨by omega, k _ _ ?_ (codesIn_app codesIn_sg cT) (Same.refl _)⟩) fun _ => ?_⟩
    iterate 4
      · simp only [List.length_append, List.length_take, List.length_drop, List.length_singleton]
        omega
    rw [← sizeLine_eq]
    have A0 : ([V.str (Str.ofString ""), V.str (Str.ofString " "), V.str (Str.ofString " 1"), V.str (Str.ofString ")"), V.str (Str.ofString "\"")] : List V).all okC = true ∧ ([V.str (Str.ofString ""), V.str (Str.ofString " "), V.str (Str.ofString " 1"), V.str (Str.ofString ")"), V.str (Str.ofString "\"")] : List V).length = 5 := ⟨by decide +kernel, rfl⟩
    generalize [V.str (Str.ofString ""), V.str (Str.ofString " "), V.str (Str.ofString " 1"), V.str (Str.ofString ")"), V.str (Str.ofString "\"")] = l0 at A0 ⊢
    refine ⟨by rw [A0.2]; walk_at "sz", fun p0 h0 => ?_⟩
    have s0 := Same_upd (o := .lst l0) (Same.refl H) h0
    have e0 := upd_same (H := H) (a := p0) (o := .lst l0)
    generalize upd H p0 (.lst l0) = H0 at s0 e0 ⊢
    have n0 : 0 ≤ c / 5 % 5 := Int.emod_nonneg _ (by decide)
    have n1 : c / 5 % 5 < 5 := Int.emod_lt_of_pos _ (by decide)
    obtain ⟨j, ej⟩ : ∃ j : Nat, c / 5 % 5 = j := ⟨(c / 5 % 5).toNat, by omega⟩
    have hj : j < l0.length := by omega
    obtain ⟨t, e, lt, ct⟩ := okC_at (List.all_eq_true.mp A0.1 _ (List.getElem_mem hj))
    refine ⟨by walk_at "side", l0, l0[j], SqL.of e0, by rw [ej]; exact atI_nat (List.getElem?_eq_getElem hj), ?_⟩
    rw [e]
    walk_at "rd"
    rw [SX.S_cat, SX.S_len, SX.S_len, sizeLine_eq]
    exact ⟨by omega, k _ _ (by rw [List.length_append]; omega) (codesIn_app cT ct) s0⟩

end Law
namespace Law
open PySem PySem.Spec PyProof.Rows L2 My
theorem ok_law_written {P : Program} {w : World} {K : PySem.W.Frag} {mg : Str → Option Value} {base : Heap} {A : Ad} (T : Txt K mg A) : ∀ m : Nat, FnOk P w K mg base CX0 (m + 1) A.a_law_written A.d_law_written ["_law_key_here"] (spShownM m)
  | 0 => ⟨fun vs H Q E h => h.elim, fun A outer s H args us vs Q E hr e0 b r h => h.elim⟩
  | m + 1 => ok_law_writtenS T (ok_law_written T m)
theorem sc_law_given : FnScope ["_law_script", "_law_cell", "_law_many", "_law_k", "_law_text"] ["_law_script"] (defScope s_law_given) := ⟨rfl, rfl, rfl, by decide +kernel, rfl, by decide +kernel, by decide +kernel⟩
theorem ok_law_given {P : Program} {w : World} {K : PySem.W.Frag} {mg : Str → Option Value} {base : Heap} {A : Ad} (T : Txt K mg A) : FnOk P w K mg base CX0 6 A.a_law_given A.d_law_given ["_law_script"] (spGiven92 K) := by
  refine T.F_law_given.ok sc_law_given (fun vs H Q E h => ?_) (fun cdv A' outer s H vs Q E hr h => ?_)
  · exact len_given92 h
  · have nd := sc_law_given.nd
    have hu := hu_of hr
    refine ⟨_, (pss_cons (ps_set (i := 1) nd rfl (Or.inl rfl) (pe_call (ok_law_cell_at (P := P) (w := w) T) (hr.mono (by decide)) rfl T.m_law_cell_at T.F_law_cell_at.kp T.b_law_cell_at .nil pass0 (pa_cons (pv 0) (pa_cons pe_int pa_nil)))) (pss_cons (ps_if (pt_cmpR op_eq (pe_op op_mod (pv 1) pe_int) pe_int (nomark _)) (pss_one (ps_ret (pe_call (ok_law_odd (P := P) (w := w) T) (hr.mono (by decide)) rfl T.m_law_odd T.F_law_odd.kp T.b_law_odd .nil pass0 (pa_cons (pe_op op_fdivW (pv 1) pe_int) pa_nil)))) pss_nil) (pss_cons (ps_if (pt_cmpR op_eq (pe_op op_mod (pv 1) pe_int) pe_int (nomark _)) (pss_cons (ps_set (i := 2) nd rfl (Or.inl rfl) (pe_op op_mod (pe_call (ok_law_cell_at (P := P) (w := w) T) (hr.mono (by decide)) rfl T.m_law_cell_at T.F_law_cell_at.kp T.b_law_cell_at .nil pass0 (pa_cons (pv 0) (pa_cons pe_int pa_nil))) pe_int)) (pss_one (ps_ret (pe_m1 PySem.F.slot_str_join PySem.F.type_str_join mt_joinq pe_str (pe_lc (own := [("_law_k", 3)]) rfl nd (pi_range1 rfl T.n_range (pa_cons (pv 2) pa_nil)) (blkOk_by (own := [("_law_k", 3)]) (N := ["_law_script", "_law_cell", "_law_many", "_law_k", "_law_text"]) (sc := defScope s_law_given) (by decide +kernel)) (fun _ _ _ _ _ => (pg_name (i := 3) nd rfl (Or.inl rfl))) (fun _ _ _ _ _ => pts_nil) (fun _ _ _ _ _ => (pe_call (ok_law_sign (P := P) (w := w) T) (hr.mono (by decide)) rfl T.m_law_sign T.F_law_sign.kp T.b_law_sign .nil pass0 (pa_cons (pe_op op_add (pe_call (ok_law_cell_at (P := P) (w := w) T) (hr.mono (by decide)) rfl T.m_law_cell_at T.F_law_cell_at.kp T.b_law_cell_at .nil pass0 (pa_cons (pv 0) (pa_cons (pe_op op_add pe_int (pv 3)) pa_nil))) (pe_op op_mulX pe_int (pe_op op_fdivW (pv 3) pe_int))) pa_nil)))))))) pss_nil) (pss_cons (ps_set (i := 4) nd rfl (Or.inl rfl) (pe_call (ok_law_spoiled (P := P) (w := w) T) (hr.mono (by decide)) rfl T.m_law_spoiled T.F_law_spoiled.kp T.b_law_spoiled .nil pass0 (pa_cons (pe_call (ok_law_written (P := P) (w := w) T 4) (hr.mono (by decide)) rfl T.m_law_written T.F_law_written.kp T.b_law_written .nil pass0 (pa_cons (pe_call (ok_law_key (P := P) (w := w) T) (hr.mono (by decide)) rfl T.m_law_key T.F_law_key.kp T.b_law_key .nil pass0 (pa_cons (pv 0) (pa_cons pe_int pa_nil))) pa_nil)) (pa_cons (pe_call (ok_law_cell_at (P := P) (w := w) T) (hr.mono (by decide)) rfl T.m_law_cell_at T.F_law_cell_at.kp T.b_law_cell_at .nil pass0 (pa_cons (pv 0) (pa_cons pe_int pa_nil))) (pa_cons (pe_call (ok_law_cell_at (P := P) (w := w) T) (hr.mono (by decide)) rfl T.m_law_cell_at T.F_law_cell_at.kp T.b_law_cell_at .nil pass0 (pa_cons (pv 0) (pa_cons pe_int pa_nil))) pa_nil))))) (pss_cons (My.ps_ifCnt (pv 4) op_gt pe_int (CwR.psst_one (CwR.pst_ret (CwR.pet_replC (pv 4)))) pss_nil (nomark _)) (pss_one (ps_ret (pv 4)))))))), ?_⟩
    clear nd
    obtain ⟨a, ns, rfl, hS, hl, hbn, k⟩ := h
    walk_at "rd"
    refine ⟨ns, hS, iteB (fun _ => ⟨by walk_at "side", _, rfl, fun l H' l6 cl s => k l H' (by omega) cl s⟩) fun _ => iteB (fun _ => ⟨ns, hS, ?_⟩) fun _ => ?_⟩
    · generalize getI ns 1 = z
      have z0 : 0 ≤ z % 41 := Int.emod_nonneg _ (by decide)
      have z1 : z % 41 < 41 := Int.emod_lt_of_pos _ (by decide)
      refine ⟨⟨by omega, by omega⟩, fun D hD => ?_⟩
      generalize eL : (List.range (z % 41).toNat).map (fun (i : Nat) => sg92 ((getI ns (2 + (i : Int)) + 5 * ((i : Int) / 50)) % 23)) = l
      have ll : l.length = (z % 41).toNat := by rw [← eL]; simp
      have ok : codesOk l := fun c m => by
        rw [← eL] at m
        obtain ⟨i, -, rfl⟩ := List.mem_map.mp m
        exact sg92_ok _
      refine go_lcm walk_range (l.map fun c => V.str ⟨#[c]⟩) (by rw [List.length_map, ll]) (by rw [sizeLine_eq]; omega) hD (fun H s => trivial) ?_ (fun H2 s2 hD2 => ?_) gName_mono
      · rintro N i x H4 H5 hi s4 ⟨rfl, rfl⟩ hN
        walk_at "rd"
        refine ⟨ns, s4.seq hS, by omega, by walk_at "side", mulL (by decide) (by omega), hN _ _ ?_ (Same.refl _)⟩
        rw [List.getElem?_map, ← eL, List.getElem?_map, List.getElem?_range hi]
        rfl
      · refine join_ones (SqL.of hD2) (by omega) fun ys ey => ?_
        rw [ey]
        exact k l _ (by omega) (codesIn_ok ok) s2
    · refine ⟨a, ns, 3, rfl, hS, hl, hbn, by decide, by decide, fun v y H1 s1 hv hw => ?_⟩
      refine ⟨v, y, rfl, hv, hw.1, by decide, fun H2 s2 => ?_⟩
      walk_at "rd"
      have sq := (s1.trans s2).seq hS
      refine ⟨ns, sq, ns, sq, shownL y, _, _, rfl, shown_le hw.1 (by decide), shown_codes 3 y hw, fun l H3 lt ct s3 => ?_⟩
      have s03 := (s1.trans s2).trans s3
      walk_at "rd"
      unfold rCnt
      refine ⟨_, _, rfl, rfl, ?_⟩
      walk_at "rd"
      refine iteB (fun _ => ?_) fun _ => k l H3 lt ct s03
      unfold CwR.tReplC
      walk_at "rd"
      refine ⟨_, rfl, ?_, ?_⟩
      · rw [show Str.ofString "a" = SX.S [97] by decide +kernel, SX.S_len, SX.S_len]
        simp only [List.length_cons, List.length_nil]
        omega
      · rw [o_S, show Str.ofString "a" = SX.S [97] by decide +kernel, replace_S, one92]
        refine k _ H3 (by rw [List.length_map]; exact lt) (fun c m => ?_) s03
        obtain ⟨d, md, rfl⟩ := List.mem_map.mp m
        have := ct d md
        split <;> omega


end Law
namespace Law
open PySem PySem.Spec PyProof.Rows L2 My
theorem sc_law_is_key : FnScope ["_law_found", "_law_deep", "_law_part"] ["_law_found", "_law_deep"] (defScope s_law_is_key) := ⟨rfl, rfl, rfl, by decide +kernel, rfl, by decide +kernel, by decide +kernel⟩
theorem ok_law_is_keyS {P : Program} {w : World} {K : PySem.W.Frag} {mg : Str → Option Value} {base : Heap} {A : Ad} (T : Txt K mg A) {m : Nat} (G : FnOk P w K mg base CX0 (m + 1) A.a_law_is_key A.d_law_is_key ["_law_found", "_law_deep"] (spIsKey92 m)) : FnOk P w K mg base CX0 (m + 1 + 1) A.a_law_is_key A.d_law_is_key ["_law_found", "_law_deep"] (spIsKey92 (m + 1)) := by
  refine T.F_law_is_key.ok sc_law_is_key (fun vs H Q E h => ?_) (fun cdv A' outer s H vs Q E hr h => ?_)
  · exact len_isKey92 h
  · have nd := sc_law_is_key.nd
    have hu := hu_of hr
    refine ⟨_, (pss_cons (ps_if (pt_val (pe_callB call_isiF rfl T.n_isinstance (by decide +kernel) (pa_cons (pv 0) (pa_cons (pe_bltn (v := .ty "bool") rfl T.n_bool (by decide +kernel) rfl) pa_nil)))) (pss_one (ps_ret pe_bl)) pss_nil) (pss_cons (ps_if (pt_val (pe_callB call_isiF rfl T.n_isinstance (by decide +kernel) (pa_cons (pv 0) (pa_cons (pe_bltn (v := .ty "int") rfl T.n_int (by decide +kernel) rfl) pa_nil)))) (pss_one (ps_ret (pe_and (pe_cmpR op_lt (pe_un un_neg (pe_op op_pow pe_int pe_int)) (pv 0) (nomark _)) (pe_one (pe_cmpR op_lt (pv 0) (pe_op op_pow pe_int pe_int) (nomark _)))))) pss_nil) (pss_cons (ps_if (pt_val (pe_callB call_isiF rfl T.n_isinstance (by decide +kernel) (pa_cons (pv 0) (pa_cons (pe_bltn (v := .ty "str") rfl T.n_str (by decide +kernel) rfl) pa_nil)))) (pss_one (ps_ret (pe_cmpR op_le (pe_callB call_lenU rfl T.n_len PySem.boot_len (pa_cons (pv 0) pa_nil)) pe_int (nomark _)))) pss_nil) (pss_cons (ps_if (PW.pt (pw_or (pt_not (pt_val (pe_callB call_isiF rfl T.n_isinstance (by decide +kernel) (pa_cons (pv 0) (pa_cons (pe_bltn (v := .ty "tuple") rfl T.n_tuple (by decide +kernel) rfl) pa_nil))))) (pw_or (pt_cmpR op_eq (pv 1) pe_int (nomark _)) (pw_or1 (pt_cmpR op_gt (pe_callB call_lenU rfl T.n_len PySem.boot_len (pa_cons (pv 0) pa_nil)) pe_int (nomark _)))))) (pss_one (ps_ret pe_bl)) pss_nil) (pss_one (ps_ret (pe_callB (cr_all rfl) rfl T.n_all (by decide +kernel) (pa_cons (pe_lc (own := [("_law_part", 2)]) rfl nd (pi_tup (pv 0)) (blkOk_by (own := [("_law_part", 2)]) (N := ["_law_found", "_law_deep", "_law_part"]) (sc := defScope s_law_is_key) (by decide +kernel)) (fun _ _ _ _ _ => (pg_name (i := 2) nd rfl (Or.inl rfl))) (fun _ _ _ _ _ => pts_nil) (fun _ _ _ _ _ => (pe_call G (hr.mono (Nat.le_refl _)) rfl T.m_law_is_key T.F_law_is_key.kp T.b_law_is_key .nil pass0 (pa_cons (pv 2) (pa_cons (pe_op op_sub (pv 1) pe_int) pa_nil))))) pa_nil)))))))), ?_⟩
    clear nd
    obtain ⟨v, y, rfl, hv, hw, hm, k⟩ := h
    walk_at "rd"
    cases y with
    | num i =>
      cases hv
      have hwi : -(10 ^ 60) < i ∧ i < 10 ^ 60 := by cases m <;> simpa [within] using hw
      walk_at "rd"
      refine ⟨by walk_at "side", iteP (by omega) ⟨by walk_at "side", ?_⟩⟩
      rw [decide_eq_true (by omega)]
      exact k _ (Same.refl _)
    | txt x =>
      cases hv
      have hwx : x.length ≤ 60 := by cases m <;> simpa [within] using hw
      walk_at "rd"
      rw [decide_eq_true (by omega)]
      exact ⟨by rw [sizeLine_eq]; omega, k _ (Same.refl _)⟩
    | tup ks =>
      cases hv with
      | @tup a xs _ h p =>
        simp only [isi_tup_bool h, isi_tup_int h, isi_tup_str h, isi_tup_tuple h]
        walk_at "rd"
        obtain ⟨m', rfl⟩ : ∃ m', m = m' + 1 := by
          cases m with
          | zero => simp [within] at hw
          | succ m' => exact ⟨m', rfl⟩
        have hw' : ks.length ≤ 6 ∧ ∀ y ∈ ks, within m' y = true := by simpa [within] using hw
        have lx := p.len
        refine iteN (by omega) ⟨xs, .inr (SqT.of h), iteN (by omega) ⟨⟨_, SqT.of h⟩, fun D hD => go_lct (walk_tup (xs := xs)) (by rw [sizeLine_eq]; omega) hD (fun H s => SqT.of (s _ _ h)) ?_ (fun H2 s2 h2 => all_true h2 (k _ s2)) gName_mono⟩⟩
        rintro N i x H4 H5 hi s4 ⟨rfl, hx⟩ hN
        obtain ⟨k1, hk1, hx1⟩ := p.get hx
        walk_at "rd"
        rw [show ((m' + 1 : Nat) : Int) - 1 = (m' : Int) by omega]
        exact ⟨x, k1, rfl, hx1.same s4 _ _, hw'.2 k1 (List.mem_of_getElem? hk1), by omega, fun H7 s7 => hN _ s7⟩
    | non => cases m <;> simp [within] at hw
    | bl b => cases m <;> simp [within] at hw
    | lst n => cases m <;> simp [within] at hw
    | dct => cases m <;> simp [within] at hw

end Law
namespace Law
open PySem PySem.Spec PyProof.Rows L2 My
theorem ok_law_is_key {P : Program} {w : World} {K : PySem.W.Frag} {mg : Str → Option Value} {base : Heap} {A : Ad} (T : Txt K mg A) : ∀ m : Nat, FnOk P w K mg base CX0 (m + 1) A.a_law_is_key A.d_law_is_key ["_law_found", "_law_deep"] (spIsKey92 m)
  | 0 => ⟨fun vs H Q E h => h.elim, fun A outer s H args us vs Q E hr e0 b r h => h.elim⟩
  | m + 1 => ok_law_is_keyS T (ok_law_is_key T m)
theorem sc_law_just : FnScope ["_law_error", "_law_others"] ["_law_error"] (defScope s_law_just) := ⟨rfl, rfl, rfl, by decide +kernel, rfl, by decide +kernel, by decide +kernel⟩
theorem ok_law_just {P : Program} {w : World} {K : PySem.W.Frag} {mg : Str → Option Value} {base : Heap} {A : Ad} (T : Txt K mg A) : My.FnT P w K mg base 1 A.a_law_just A.d_law_just ["_law_error"] (spJust92 A.c_NoText) := by
  refine My.fnT T.F_law_just sc_law_just (fun vs H Q E h => ?_) (fun cdv A' outer s H vs Q ah Ch pn hr hh eh h => ?_)
  · exact len_just92 h
  · have nd := sc_law_just.nd
    refine ⟨_, (pss_cons (ps_if (PW.pt (pw_or (pt_not (pt_val (pe_callB My.call_isX rfl T.n_isinstance (by decide +kernel) (pa_cons (pv 0) (pa_cons (pe_bltn (v := .ty "ValueError") rfl T.n_ValueError (by decide +kernel) rfl) pa_nil))))) (pw_or1 (pt_not (pt_val (pe_callB My.call_isX rfl T.n_isinstance (by decide +kernel) (pa_cons (pv 0) (pa_cons (pe_glob (v := .ref A.c_NoText) rfl T.m_NoText rfl) pa_nil)))))))) (pss_one (ps_ret pe_bl)) pss_nil) (pss_cons (ps_set (i := 1) nd rfl (Or.inl rfl) (pe_lst (pa_cons (pe_callB My.call_isX rfl T.n_isinstance (by decide +kernel) (pa_cons (pv 0) (pa_cons (pe_glob (v := .ref A.c_Broken) rfl T.m_Broken rfl) pa_nil))) (pa_cons (pe_callB My.call_isX rfl T.n_isinstance (by decide +kernel) (pa_cons (pv 0) (pa_cons (pe_glob (v := .ref A.c_Full) rfl T.m_Full rfl) pa_nil))) (pa_cons (pe_callB My.call_isX rfl T.n_isinstance (by decide +kernel) (pa_cons (pv 0) (pa_cons (pe_glob (v := .ref A.c_Lacking) rfl T.m_Lacking rfl) pa_nil))) (pa_cons (pe_callB My.call_isX rfl T.n_isinstance (by decide +kernel) (pa_cons (pv 0) (pa_cons (pe_glob (v := .ref A.c_NoDeed) rfl T.m_NoDeed rfl) pa_nil))) pa_nil)))))) (pss_cons (ps_set (i := 1) nd rfl (Or.inl rfl) (pe_op op_cat (pv 1) (pe_lst (pa_cons (pe_callB My.call_isX rfl T.n_isinstance (by decide +kernel) (pa_cons (pv 0) (pa_cons (pe_glob (v := .ref A.c_NoKey) rfl T.m_NoKey rfl) pa_nil))) (pa_cons (pe_callB My.call_isX rfl T.n_isinstance (by decide +kernel) (pa_cons (pv 0) (pa_cons (pe_glob (v := .ref A.c_NoName) rfl T.m_NoName rfl) pa_nil))) (pa_cons (pe_callB My.call_isX rfl T.n_isinstance (by decide +kernel) (pa_cons (pv 0) (pa_cons (pe_glob (v := .ref A.c_NoSize) rfl T.m_NoSize rfl) pa_nil))) pa_nil)))))) (pss_one (ps_ret (pe_and (pe_not (pe_callB (My.cr_anyH hh) rfl T.n_any (by decide +kernel) (pa_cons (pv 1) pa_nil))) (pe_one (pe_not (pe_callB My.call_isX rfl T.n_isinstance (by decide +kernel) (pa_cons (pv 0) (pa_cons (pe_glob (v := .ref A.c_Twice) rfl T.m_Twice rfl) pa_nil))))))))))), ?_⟩
    clear nd
    obtain ⟨a, rfl, e, k⟩ := h
    walk_at "rd"
    refine is_excT e T.ec_NoText T.kx_NoText_ValueError ?_
    walk_at "rd"
    refine is_exc e T.ec_NoText T.kx_NoText_NoText ?_
    walk_at "rd"
    refine is_exc e T.ec_NoText T.kx_NoText_Broken ?_
    refine is_exc e T.ec_NoText T.kx_NoText_Full ?_
    refine is_exc e T.ec_NoText T.kx_NoText_Lacking ?_
    refine is_exc e T.ec_NoText T.kx_NoText_NoDeed ?_
    refine ⟨by walk_at "sz", fun p hp => ?_⟩
    have s1 := Same_upd (o := .lst [V.bl false, V.bl false, V.bl false, V.bl false]) (Same.refl H) hp
    have e1 := upd_same (H := H) (a := p) (o := .lst [V.bl false, V.bl false, V.bl false, V.bl false])
    generalize upd H p (.lst [V.bl false, V.bl false, V.bl false, V.bl false]) = H1 at s1 e1 ⊢
    refine is_exc (s1 _ _ e) T.ec_NoText T.kx_NoText_NoKey ?_
    refine is_exc (s1 _ _ e) T.ec_NoText T.kx_NoText_NoName ?_
    refine is_exc (s1 _ _ e) T.ec_NoText T.kx_NoText_NoSize ?_
    refine ⟨by walk_at "sz", fun q hq => ?_⟩
    have s2 := Same_upd (o := .lst [V.bl false, V.bl false, V.bl false]) (Same.refl H1) hq
    have e2 := upd_same (H := H1) (a := q) (o := .lst [V.bl false, V.bl false, V.bl false])
    generalize upd H1 q (.lst [V.bl false, V.bl false, V.bl false]) = H2 at s2 e2 ⊢
    refine ⟨_, _, s2 _ _ e1, e2, by walk_at "sz", fun r hr => ?_⟩
    have s3 := Same_upd (o := .lst ([V.bl false, V.bl false, V.bl false, V.bl false] ++ [V.bl false, V.bl false, V.bl false])) (Same.refl H2) hr
    have e3 := upd_same (H := H2) (a := r) (o := .lst ([V.bl false, V.bl false, V.bl false, V.bl false] ++ [V.bl false, V.bl false, V.bl false]))
    generalize upd H2 r (.lst ([V.bl false, V.bl false, V.bl false, V.bl false] ++ [V.bl false, V.bl false, V.bl false])) = H3 at s3 e3 ⊢
    have s13 := s1.trans (s2.trans s3)
    unfold rAnyH
    refine ⟨⟨_, s13 _ _ eh⟩, r, List.replicate 7 false, rfl, SqL.of e3, ?_⟩
    walk_at "rd"
    refine iteP (by decide) (is_exc (s13 _ _ e) T.ec_NoText T.kx_NoText_Twice ?_)
    walk_at "rd"
    exact k H3 s13


end Law
namespace Law
open PySem PySem.Spec PyProof.Rows L2 My
theorem ok_read_keyN {P : Program} {w : World} {K : PySem.W.Frag} {mg : Str → Option Value} {base : Heap} {A : Ad} (T : Txt K mg A) : FnOk P w K mg base (L2N.CX P w) 10 A.a_read_key A.d_read_key ["text"] (spNoTxt92 A.c_NoText) := by
  refine My.okN T.F_read_key sc_read_key (fun vs H Q E h => ?_) (fun cdv A' outer s H vs Q E hr h => ?_)
  · exact len_noTxt92 h
  · have nd := sc_read_key.nd
    have hu := hu_of hr
    refine ⟨_, (pss_cons (ps_if (pt_not (pt_val (pe_callB call_isiF rfl T.n_isinstance (by decide +kernel) (pa_cons (pv 0) (pa_cons (pe_bltn (v := .ty "str") rfl T.n_str (by decide +kernel) rfl) pa_nil))))) (pss_one (L2N.ps_raise rfl (L2N.takes_of rfl rfl rfl rfl) (L2N.pmk_own PySem.F.excBase_ValueError T.x_NoText T.m_NoText T.k_NoText (raises_own T.eb_NoText T.et_NoText) rfl))) pss_nil) (pss_cons (ps_asg (pe_call (ok_key_at (P := P) (w := w) T 4) (hr.mono (by decide)) rfl T.m_key_at T.F_key_at.kp T.b_key_at .nil (L2N.passes_call (L2N.takes_of rfl rfl rfl rfl) fun _ _ _ _ h => h) (pa_cons (pv 0) (pa_cons pe_int (pa_cons (pe_glob (v := .int 3) rfl T.g_DEEPEST ⟨_, rfl⟩) pa_nil)))) (pg_tup (n := 2) rfl (pgs_cons (pg_name (i := 1) nd rfl (Or.inl rfl)) (pgs_cons (pg_name (i := 2) nd rfl (Or.inl rfl)) pgs_nil)))) (pss_cons (ps_if (pt_cmpR op_lt (pv 2) (pe_callB call_lenU rfl T.n_len PySem.boot_len (pa_cons (pv 0) pa_nil)) (nomark _)) (pss_one (L2N.ps_raise rfl (L2N.takes_of rfl rfl rfl rfl) (L2N.pmk_own PySem.F.excBase_ValueError T.x_NoText T.m_NoText T.k_NoText (raises_own T.eb_NoText T.et_NoText) rfl))) pss_nil) (pss_one (ps_ret (pv 1)))))), ?_⟩
    clear nd
    obtain ⟨v, rfl, nt, k⟩ := h
    walk_at "rd"
    rw [nt]
    walk_at "rd"
    exact k _ (Same.refl _)


end Law
namespace Law
open PySem PySem.Spec PyProof.Rows L2 My
theorem ok_read_keysN {P : Program} {w : World} {K : PySem.W.Frag} {mg : Str → Option Value} {base : Heap} {A : Ad} (T : Txt K mg A) : FnOk P w K mg base (L2N.CX P w) 10 A.a_read_keys A.d_read_keys ["text"] (spNoTxt92 A.c_NoText) := by
  refine My.okN T.F_read_keys sc_read_keys (fun vs H Q E h => ?_) (fun cdv A' outer s H vs Q E hr h => ?_)
  · exact len_noTxt92 h
  · have nd := sc_read_keys.nd
    have hu := hu_of hr
    refine ⟨_, (pss_cons (ps_if (pt_not (pt_val (pe_callB call_isiF rfl T.n_isinstance (by decide +kernel) (pa_cons (pv 0) (pa_cons (pe_bltn (v := .ty "str") rfl T.n_str (by decide +kernel) rfl) pa_nil))))) (pss_one (L2N.ps_raise rfl (L2N.takes_of rfl rfl rfl rfl) (L2N.pmk_own PySem.F.excBase_ValueError T.x_NoText T.m_NoText T.k_NoText (raises_own T.eb_NoText T.et_NoText) rfl))) pss_nil) (pss_cons (ps_set (i := 1) nd rfl (Or.inl rfl) (pe_lst pa_nil)) (pss_cons (ps_set (i := 2) nd rfl (Or.inl rfl) pe_int) (pss_cons (ps_while (passes_of rfl) (pt_cmpR op_lt (pv 2) (pe_callB call_lenU rfl T.n_len PySem.boot_len (pa_cons (pv 0) pa_nil)) (nomark _)) (pss_cons (ps_if (pt_cmpR op_gt (pe_callB call_lenU rfl T.n_len PySem.boot_len (pa_cons (pv 1) pa_nil)) pe_int (nomark _)) (pss_cons (ps_if (pt_cmpR op_ne (pe_ix ix_str (pv 0) (pv 2) (fun _ _ => rfl)) pe_str (nomark _)) (pss_one (L2N.ps_raise rfl (L2N.takes_of rfl rfl rfl rfl) (L2N.pmk_own PySem.F.excBase_ValueError T.x_NoText T.m_NoText T.k_NoText (raises_own T.eb_NoText T.et_NoText) rfl))) pss_nil) (pss_one (ps_aug (i := 2) nd rfl (Or.inl rfl) pe_int ip_add))) pss_nil) (pss_cons (ps_asg (pe_call (ok_key_at (P := P) (w := w) T 4) (hr.mono (by decide)) rfl T.m_key_at T.F_key_at.kp T.b_key_at .nil (L2N.passes_call (L2N.takes_of rfl rfl rfl rfl) fun _ _ _ _ h => h) (pa_cons (pv 0) (pa_cons (pv 2) (pa_cons (pe_glob (v := .int 3) rfl T.g_DEEPEST ⟨_, rfl⟩) pa_nil)))) (pg_tup (n := 2) rfl (pgs_cons (pg_name (i := 3) nd rfl (Or.inl rfl)) (pgs_cons (pg_name (i := 2) nd rfl (Or.inl rfl)) pgs_nil)))) (pss_one (ps_expr (pe_bm PySem.F.plainAttrs_list PySem.F.slot_list_append PySem.F.type_list_append mt_append (pv 1) (pa_cons (pv 3) pa_nil))))))) (pss_one (ps_ret (pv 1))))))), ?_⟩
    clear nd
    obtain ⟨v, rfl, nt, k⟩ := h
    walk_at "rd"
    rw [nt]
    walk_at "rd"
    exact k _ (Same.refl _)


end Law
namespace Law
open PySem PySem.Spec PyProof.Rows L2 My
theorem sc_law_read : FnScope ["_law_thing", "_law_one", "_law_found", "e"] ["_law_thing", "_law_one"] (defScope s_law_read) := ⟨rfl, rfl, rfl, by decide +kernel, rfl, by decide +kernel, by decide +kernel⟩
theorem ok_law_read {P : Program} {w : World} {K : PySem.W.Frag} {mg : Str → Option Value} {base : Heap} {A : Ad} (T : Txt K mg A) : FnOk P w K mg base CX0 11 A.a_law_read A.d_law_read ["_law_thing", "_law_one"] (spRead92) := by
  refine T.F_law_read.ok sc_law_read (fun vs H Q E h => ?_) (fun cdv A' outer s H vs Q E hr h => ?_)
  · exact len_read92 h
  · have nd := sc_law_read.nd
    have hu := hu_of hr
    refine ⟨_, (pss_cons (My.ps_tryT rfl rfl rfl nd My.takes0N (fun W pn xe tk po => (pss_one (ps_if (pt_val (pv 1)) (pss_one (ps_set (i := 2) nd rfl (Or.inl rfl) (pe_lst (pa_cons (pe_callSD (My.fn_or (ok_read_key (P := P) (w := w) T) (ok_read_keyN (P := P) (w := w) T)) (hr.mono (by decide)) rfl T.m_read_key T.F_read_key.kp T.b_read_key .nil (fun σ => L2N.passAt tk σ) (pa_cons (pv 0) pa_nil)) pa_nil)))) (pss_one (ps_set (i := 2) nd rfl (Or.inl rfl) (pe_callSD (My.fn_or (ok_read_keys (P := P) (w := w) T) (ok_read_keysN (P := P) (w := w) T)) (hr.mono (by decide)) rfl T.m_read_keys T.F_read_keys.kp T.b_read_keys .nil (fun σ => L2N.passAt tk σ) (pa_cons (pv 0) pa_nil))))))) (.cons (sl := some 3) ⟨rfl, by decide, .inl T.m_BookError⟩ ⟨rfl, rfl⟩ (fun a pn => (pss_one (ps_ret (pe_tup (pa_cons (My.pe_callT (ok_law_just (P := P) (w := w) T) (My.roomT (hr.mono (by decide))) rfl rfl T.m_law_just T.F_law_just.kp T.b_law_just (pa_cons (pv 3) pa_nil)) (pa_cons pe_non pa_nil)))))) .nil)) (pss_one (ps_ret (pe_tup (pa_cons (pe_callB call_isiF rfl T.n_isinstance (by decide +kernel) (pa_cons (pv 2) (pa_cons (pe_bltn (v := .ty "list") rfl T.n_list (by decide +kernel) rfl) pa_nil))) (pa_cons (pv 2) pa_nil)))))), ?_⟩
    clear nd
    obtain ⟨v, b, rfl, h⟩ := h
    walk_at "rd"
    cases b with
    | true =>
      walk_at "rd"
      rcases h with ⟨X, rfl, lT, cT, k0, k1⟩ | ⟨nt, k0⟩
      · refine .inl ⟨X, rfl, by omega, cT, fun e H1 s1 => wT_yes T.ex_NoText_BookError fun a fa => ?_, fun y e H1 u s1 hu => ⟨by walk_at "sz", fun p hp => ?_⟩⟩
        · walk_at "rd"
          have t1 := Same_upd (o := ExcO A.c_NoText a) (Same.refl H1) fa
          refine ⟨⟨_, upd_same⟩, a, rfl, upd_same, fun H2 s2 => ⟨by walk_at "sz", fun p hp => ?_⟩⟩
          have t2 := Same_upd (o := .tup [.bl true, .non]) (Same.refl H2) hp
          exact k0 (by unfold out92; rw [if_pos rfl, e]; rfl) p _ ((s1.trans t1).trans (s2.trans t2)) upd_same
        · have t1 := Same_upd (o := .lst [u]) (Same.refl H1) hp
          have f1 := upd_same (H := H1) (a := p) (o := .lst [u])
          generalize upd H1 p (.lst [u]) = H2 at t1 f1 ⊢
          rw [isi_lst_list f1]
          refine ⟨by walk_at "sz", fun r hr => ?_⟩
          have t2 := Same_upd (o := .tup [.bl true, .ref p]) (Same.refl H2) hr
          exact k1 [y] (by unfold out92; rw [if_pos rfl, e]; rfl) r p [u] _ ((s1.trans t1).trans t2) upd_same (t2 _ _ f1) (.cons (hu.same (t1.trans t2) _ _) .nil)
      · refine .inr ⟨v, rfl, nt, fun H1 s1 => wT_yes T.ex_NoText_BookError fun a fa => ?_⟩
        · walk_at "rd"
          have t1 := Same_upd (o := ExcO A.c_NoText a) (Same.refl H1) fa
          refine ⟨⟨_, upd_same⟩, a, rfl, upd_same, fun H2 s2 => ⟨by walk_at "sz", fun p hp => ?_⟩⟩
          have t2 := Same_upd (o := .tup [.bl true, .non]) (Same.refl H2) hp
          exact k0 p _ ((s1.trans t1).trans (s2.trans t2)) upd_same
    | false =>
      walk_at "rd"
      rcases h with ⟨X, rfl, lT, cT, k0, k1⟩ | ⟨nt, k0⟩
      · refine .inl ⟨X, rfl, by omega, cT, fun e H1 s1 => wT_yes T.ex_NoText_BookError fun a fa => ?_, fun ks e H1 q ws s1 fq eq hk => ?_⟩
        · walk_at "rd"
          have t1 := Same_upd (o := ExcO A.c_NoText a) (Same.refl H1) fa
          refine ⟨⟨_, upd_same⟩, a, rfl, upd_same, fun H2 s2 => ⟨by walk_at "sz", fun p hp => ?_⟩⟩
          have t2 := Same_upd (o := .tup [.bl true, .non]) (Same.refl H2) hp
          exact k0 (by unfold out92; rw [if_neg (by decide), e]) p _ ((s1.trans t1).trans (s2.trans t2)) upd_same
        · walk_at "rd"
          rw [isi_lst_list eq]
          refine ⟨by walk_at "sz", fun r hr => ?_⟩
          have t2 := Same_upd (o := .tup [.bl true, .ref q]) (Same.refl H1) hr
          exact k1 ks (by unfold out92; rw [if_neg (by decide), e]) r q ws _ (s1.trans t2) upd_same (t2 _ _ eq) (hk.same t2 _ _)
      · refine .inr ⟨v, rfl, nt, fun H1 s1 => wT_yes T.ex_NoText_BookError fun a fa => ?_⟩
        · walk_at "rd"
          have t1 := Same_upd (o := ExcO A.c_NoText a) (Same.refl H1) fa
          refine ⟨⟨_, upd_same⟩, a, rfl, upd_same, fun H2 s2 => ⟨by walk_at "sz", fun p hp => ?_⟩⟩
          have t2 := Same_upd (o := .tup [.bl true, .non]) (Same.refl H2) hp
          exact k0 p _ ((s1.trans t1).trans (s2.trans t2)) upd_same


end Law
namespace Law
open PySem PySem.Spec PyProof.Rows L2 My
theorem sc_law_holds : FnScope ["_law_thing", "_law_one", "_law_right", "_law_found", "_law_key_here"] ["_law_thing", "_law_one"] (defScope s_law_holds) := ⟨rfl, rfl, rfl, by decide +kernel, rfl, by decide +kernel, by decide +kernel⟩
theorem ok_law_holds {P : Program} {w : World} {K : PySem.W.Frag} {mg : Str → Option Value} {base : Heap} {A : Ad} (T : Txt K mg A) : FnOk P w K mg base CX0 12 A.a_law_holds A.d_law_holds ["_law_thing", "_law_one"] (spHolds92) := by
  refine T.F_law_holds.ok sc_law_holds (fun vs H Q E h => ?_) (fun cdv A' outer s H vs Q E hr h => ?_)
  · exact len_holds92 h
  · have nd := sc_law_holds.nd
    have hu := hu_of hr
    refine ⟨_, (pss_cons (ps_asg (pe_call (ok_law_read (P := P) (w := w) T) (hr.mono (by decide)) rfl T.m_law_read T.F_law_read.kp T.b_law_read .nil pass0 (pa_cons (pv 0) (pa_cons (pv 1) pa_nil))) (pg_tup (n := 2) rfl (pgs_cons (pg_name (i := 2) nd rfl (Or.inl rfl)) (pgs_cons (pg_name (i := 3) nd rfl (Or.inl rfl)) pgs_nil)))) (pss_cons (ps_if (PW.pt (pw_or (pt_not (pt_val (pv 2))) (pw_or1 (pt_cmpR op_isN (pv 3) pe_non (nomark _))))) (pss_one (ps_ret (pv 2))) pss_nil) (pss_cons (ps_if (PW.pt (pw_or (pt_not (pt_val (pe_callB call_isiF rfl T.n_isinstance (by decide +kernel) (pa_cons (pv 0) (pa_cons (pe_bltn (v := .ty "str") rfl T.n_str (by decide +kernel) rfl) pa_nil))))) (pw_or1 (pt_not (pt_val (pe_callB (cr_all rfl) rfl T.n_all (by decide +kernel) (pa_cons (pe_lc (own := [("_law_key_here", 4)]) rfl nd (pi_list (pv 3)) (blkOk_by (own := [("_law_key_here", 4)]) (N := ["_law_thing", "_law_one", "_law_right", "_law_found", "_law_key_here"]) (sc := defScope s_law_holds) (by decide +kernel)) (fun _ _ _ _ _ => (pg_name (i := 4) nd rfl (Or.inl rfl))) (fun _ _ _ _ _ => pts_nil) (fun _ _ _ _ _ => (pe_call (ok_law_is_key (P := P) (w := w) T 4) (hr.mono (by decide)) rfl T.m_law_is_key T.F_law_is_key.kp T.b_law_is_key .nil pass0 (pa_cons (pv 4) (pa_cons pe_int pa_nil))))) pa_nil))))))) (pss_one (ps_ret pe_bl)) pss_nil) (pss_one (ps_ret (pe_cmpR (op_eqD hr.units) (pe_m1 PySem.F.slot_str_join PySem.F.type_str_join mt_joinq pe_str (pe_lc (own := [("_law_key_here", 4)]) rfl nd (pi_list (pv 3)) (blkOk_by (own := [("_law_key_here", 4)]) (N := ["_law_thing", "_law_one", "_law_right", "_law_found", "_law_key_here"]) (sc := defScope s_law_holds) (by decide +kernel)) (fun _ _ _ _ _ => (pg_name (i := 4) nd rfl (Or.inl rfl))) (fun _ _ _ _ _ => pts_nil) (fun _ _ _ _ _ => (pe_call (ok_law_written (P := P) (w := w) T 4) (hr.mono (by decide)) rfl T.m_law_written T.F_law_written.kp T.b_law_written .nil pass0 (pa_cons (pv 4) pa_nil))))) (pv 0) (nomark _))))))), ?_⟩
    clear nd
    obtain ⟨v, b, rfl, h⟩ := h
    walk_at "rd"
    rcases h with ⟨X, rfl, lT, cT, k⟩ | ⟨nt, k⟩
    · refine ⟨_, b, rfl, .inl ⟨X, rfl, lT, cT, fun e p H1 s1 ep => ⟨p, _, rfl, SqT.of ep, rfl, ?_⟩, fun ks e p q ws H1 s1 ep eq hk => ⟨p, _, rfl, SqT.of ep, rfl, ?_⟩⟩⟩
      · walk_at "rd"
        exact k H1 s1
      · walk_at "rd"
        obtain ⟨wk, lk, jk⟩ := out_back cT e
        have lw := hk.len
        refine iteN (fun z => by cases z) ⟨⟨_, SqL.of eq⟩, fun D hD => go_lct (walk_list (xs := ws)) (by rw [sizeLine_eq]; omega) hD (fun H s => SqL.of (s _ _ eq)) ?_ (fun H2 s2 h2 => all_true h2 ?_) gName_mono⟩
        · rintro N i x H4 H5 hi s4 ⟨rfl, hx⟩ hN
          obtain ⟨y1, hy1, hx1⟩ := hk.get hx
          walk_at "rd"
          exact ⟨x, y1, rfl, hx1.same s4 _ _, (wk y1 (List.mem_of_getElem? hy1)).1, by decide, fun H7 s7 => hN _ s7⟩
        · walk_at "rd"
          have e2 := s2 _ _ eq
          have hk2 := hk.same s2 _ _
          refine ⟨⟨_, SqL.of e2⟩, fun D2 hD2 => go_lcm (walk_list (xs := ws)) ((shownLs ks).map fun l => V.str (SX.S l)) (by rw [List.length_map, shownLs_map, List.length_map]; omega) (by rw [sizeLine_eq]; omega) hD2 (fun H s => SqL.of (s _ _ e2)) ?_ (fun H9 s9 hD9 => ?_) gName_mono⟩
          · rintro N i x H9 H10 hi s9 ⟨rfl, hx⟩ hN
            obtain ⟨y1, hy1, hx1⟩ := hk2.get hx
            walk_at "rd"
            refine ⟨x, y1, rfl, hx1.same s9 _ _, (wk y1 (List.mem_of_getElem? hy1)).1, by decide, fun H7 s7 => hN _ _ ?_ s7⟩
            rw [shownLs_map, List.map_map, List.getElem?_map, hy1]
            rfl
          · have fl := flat_le (shownLs ks)
            have e6 : (shownLs ks).length = ks.length := by rw [shownLs_map, List.length_map]
            rw [jk] at fl
            refine ⟨(shownLs ks).map SX.S, .inl (SqL.of (by rw [List.map_map]; exact hD9)), ?_, ?_⟩
            · rw [lens_sum, List.length_map, sp_S, SX.S_len]
              simp only [List.length_cons, List.length_nil]
              omega
            · rw [sp_S, SX.join_S, jk]
              refine eq_val (k := .txt (SX.S X)) (l := .txt (SX.S X)) (.txt _) (.txt _) (strOk_in cT) (strOk_in cT) (by simp [Ky.dep]) (by simp [Ky.dep]) ?_
              rw [decide_eq_true rfl]
              exact k _ ((s1.trans s2).trans s9)
    · refine ⟨_, b, rfl, .inr ⟨nt, fun p H1 s1 ep => ⟨p, _, rfl, SqT.of ep, rfl, ?_⟩⟩⟩
      walk_at "rd"
      exact k H1 s1


end Law
namespace Law
open PySem PySem.Spec PyProof.Rows L2 My
theorem sc_law : FnScope ["_law_script", "_law_thing"] ["_law_script"] (defScope s_law) := ⟨rfl, rfl, rfl, by decide +kernel, rfl, by decide +kernel, by decide +kernel⟩
theorem ok_law {P : Program} {w : World} {K : PySem.W.Frag} {mg : Str → Option Value} {base : Heap} {A : Ad} (T : Txt K mg A) : FnOk P w K mg base CX0 13 A.a_law A.d_law ["_law_script"] (spLawB K) := by
  refine T.F_law.ok sc_law (fun vs H Q E h => ?_) (fun cdv A' outer s H vs Q E hr h => ?_)
  · exact len_lawB h
  · have nd := sc_law.nd
    have hu := hu_of hr
    refine ⟨_, (pss_cons (ps_set (i := 1) nd rfl (Or.inl rfl) (pe_call (ok_law_given (P := P) (w := w) T) (hr.mono (by decide)) rfl T.m_law_given T.F_law_given.kp T.b_law_given .nil pass0 (pa_cons (pv 0) pa_nil))) (pss_cons (ps_if (PW.pt (pw_or (pt_not (pt_val (pe_call (ok_law_holds (P := P) (w := w) T) (hr.mono (by decide)) rfl T.m_law_holds T.F_law_holds.kp T.b_law_holds .nil pass0 (pa_cons (pv 1) (pa_cons pe_bl pa_nil))))) (pw_or1 (pt_not (pt_val (pe_call (ok_law_holds (P := P) (w := w) T) (hr.mono (by decide)) rfl T.m_law_holds T.F_law_holds.kp T.b_law_holds .nil pass0 (pa_cons (pv 1) (pa_cons pe_bl pa_nil)))))))) (pss_one (ps_ret pe_bl)) pss_nil) (C8.pss_cut (ps_if (PW.pt (pw_and (pt_cmpR op_notN (pe_ix ix_tup (pe_call (ok_law_read (P := P) (w := w) T) (hr.mono (by decide)) rfl T.m_law_read T.F_law_read.kp T.b_law_read .nil pass0 (pa_cons (pv 1) (pa_cons pe_bl pa_nil))) pe_int (fun _ _ => rfl)) pe_non (nomark _)) (pw_and1 (pt_cmpR (op_neD hr.units) (pe_ix ix_tup (pe_call (ok_law_read (P := P) (w := w) T) (hr.mono (by decide)) rfl T.m_law_read T.F_law_read.kp T.b_law_read .nil pass0 (pa_cons (pv 1) (pa_cons pe_bl pa_nil))) pe_int (fun _ _ => rfl)) (pe_ix ix_tup (pe_call (ok_law_read (P := P) (w := w) T) (hr.mono (by decide)) rfl T.m_law_read T.F_law_read.kp T.b_law_read .nil pass0 (pa_cons (pv 1) (pa_cons pe_bl pa_nil))) pe_int (fun _ _ => rfl)) (nomark _))))) (pss_one (ps_ret pe_bl)) pss_nil) (pss_cons (ps_for PassesOwn.never rfl (pi_list (pe_lst (pa_cons pe_non (pa_cons pe_int (pa_cons (pe_tup (pa_cons pe_str pa_nil)) (pa_cons (pe_lst (pa_cons pe_str pa_nil)) (pa_cons pe_bl pa_nil))))))) (pg_name (i := 1) nd rfl (Or.inl rfl)) (pss_one (ps_if (PW.pt (pw_or (pt_cmpR (op_neD hr.units) (pe_call (ok_law_read (P := P) (w := w) T) (hr.mono (by decide)) rfl T.m_law_read T.F_law_read.kp T.b_law_read .nil pass0 (pa_cons (pv 1) (pa_cons pe_bl pa_nil))) (pe_tup (pa_cons pe_bl (pa_cons pe_non pa_nil))) (nomark _)) (pw_or1 (pt_cmpR (op_neD hr.units) (pe_call (ok_law_read (P := P) (w := w) T) (hr.mono (by decide)) rfl T.m_law_read T.F_law_read.kp T.b_law_read .nil pass0 (pa_cons (pv 1) (pa_cons pe_bl pa_nil))) (pe_tup (pa_cons pe_bl (pa_cons pe_non pa_nil))) (nomark _))))) (pss_one (ps_ret pe_bl)) pss_nil))) (pss_one (ps_ret pe_bl)))))), ?_⟩
    clear nd
    obtain ⟨a, ns, rfl, hS, hl, hbn, k⟩ := h
    walk_at "rd"
    refine ⟨a, ns, rfl, hS, hl, hbn, fun X H1 lX cX s1 => ?_⟩
    walk_at "rd"
    refine ⟨_, true, rfl, .inl ⟨X, rfl, lX, cX, fun H2 s2 => ?_⟩⟩
    walk_at "rd"
    refine ⟨_, false, rfl, .inl ⟨X, rfl, lX, cX, fun H3 s3 => ?_⟩⟩
    walk_at "rd"
    refine ⟨fun σ H' => σ = [some (.ref a), some (.str (SX.S X))] ∧ Same H3 H', ?_, ?_⟩
    · refine ⟨_, true, rfl, .inl ⟨X, rfl, lX, cX, fun e p H4 s4 ep => ⟨p, _, _, _, rfl, rfl, SqT.of ep, rfl, ?_⟩, fun ks e p q ws H4 s4 ep eq hk => ⟨p, _, _, _, rfl, rfl, SqT.of ep, rfl, ?_⟩⟩⟩
      · walk_at "rd"
        exact s4
      · walk_at "rd"
        have e2 := out_row cX e
        obtain ⟨wk, lk, -⟩ := out_back cX e
        have vr : Ky.vrow ks := fun y m => ⟨(wk y m).2.2, by have := within_dep 3 y (wk y m).1; omega⟩
        refine ⟨_, true, rfl, .inl ⟨X, rfl, lX, cX, fun e5 => (by rw [e5] at e; cases e), fun ks5 e5 p5 q5 ws5 H5 s5 ep5 eq5 hk5 => ⟨p5, _, _, _, rfl, rfl, SqT.of ep5, rfl, ?_⟩⟩⟩
        obtain rfl : ks5 = ks := Option.some.inj (e5.symm.trans e)
        refine ⟨_, false, rfl, .inl ⟨X, rfl, lX, cX, fun e6 => (by rw [e6] at e2; cases e2), fun ks6 e6 p6 q6 ws6 H6 s6 ep6 eq6 hk6 => ⟨p6, _, _, _, rfl, rfl, SqT.of ep6, rfl, ?_⟩⟩⟩
        obtain rfl : ks6 = ks5 := Option.some.inj (e6.symm.trans e2)
        refine ne_vrows (SqL.of (s6 _ _ eq5)) (hk5.same s6 _ _) (SqL.of eq6) hk6 vr vr ?_
        walk_at "rd"
        exact (s4.trans s5).trans s6
    · rintro σ H4 ⟨rfl, s4⟩
      walk_at "rd"
      refine ⟨by walk_at "sz", fun p1 h1 => ⟨by walk_at "sz", fun p2 h2 => ⟨by walk_at "sz", fun p3 h3 => ?_⟩⟩⟩
      have g1 : upd (upd (upd H4 p1 (HO.tup [V.str (Str.ofString "1")])) p2 (HO.lst [V.str (Str.ofString "1")])) p3 (HO.lst [V.non, V.int 7, V.ref p1, V.ref p2, V.bl true]) p1 = some (HO.tup [V.str (Str.ofString "1")]) := by walk_at "hp"
      have g2 : upd (upd (upd H4 p1 (HO.tup [V.str (Str.ofString "1")])) p2 (HO.lst [V.str (Str.ofString "1")])) p3 (HO.lst [V.non, V.int 7, V.ref p1, V.ref p2, V.bl true]) p2 = some (HO.lst [V.str (Str.ofString "1")]) := by walk_at "hp"
      have g3 : upd (upd (upd H4 p1 (HO.tup [V.str (Str.ofString "1")])) p2 (HO.lst [V.str (Str.ofString "1")])) p3 (HO.lst [V.non, V.int 7, V.ref p1, V.ref p2, V.bl true]) p3 = some (HO.lst [V.non, V.int 7, V.ref p1, V.ref p2, V.bl true]) := upd_same
      generalize upd (upd (upd H4 p1 (HO.tup [V.str (Str.ofString "1")])) p2 (HO.lst [V.str (Str.ofString "1")])) p3 (HO.lst [V.non, V.int 7, V.ref p1, V.ref p2, V.bl true]) = H5 at g1 g2 g3 ⊢
      refine ⟨⟨_, SqL.of g3⟩, ?_⟩
      refine go_list (fun i σ H' => ∃ v, σ = [some (.ref a), some v] ∧ Same H5 H') ⟨_, rfl, Same.refl _⟩ (fun i σ H' _ ⟨_, _, s⟩ => SqL.of (s _ _ g3)) ?_ ?_
      · rintro N i x σ H6 hx ⟨v, rfl, s6⟩ hN
        have nt : ∀ H', Same H5 H' → NT H' x := fun H' s => by
          match i, hx with
          | 0, hx => cases hx; exact fun f => by rw [isi_non_str]
          | 1, hx => cases hx; exact fun f => by rw [isi_int_str]
          | 2, hx => cases hx; exact fun f => by rw [isi_tup_str (s _ _ g1)]
          | 3, hx => cases hx; exact fun f => by rw [isi_lst_str (s _ _ g2)]
          | 4, hx => cases hx; exact fun f => by rw [isi_bl_str]
          | n + 5, hx => simp at hx
        walk_at "rd"
        refine ⟨x, true, rfl, .inr ⟨nt _ s6, fun p7 H7 s7 ep7 => ?_⟩⟩
        refine ⟨by walk_at "sz", fun p8 hp8 => ?_⟩
        have s8 := Same_upd (o := .tup [V.bl true, V.non]) (Same.refl H7) hp8
        refine ne_tn92 (s8 _ _ ep7) upd_same ?_
        walk_at "rd"
        refine ⟨x, false, rfl, .inr ⟨nt _ ((s6.trans s7).trans s8), fun p9 H9 s9 ep9 => ?_⟩⟩
        refine ⟨by walk_at "sz", fun q8 hq8 => ?_⟩
        have s10 := Same_upd (o := .tup [V.bl true, V.non]) (Same.refl H9) hq8
        refine ne_tn92 (s10 _ _ ep9) upd_same ?_
        walk_at "rd"
        exact hN _ _ ⟨_, rfl, ((((s6.trans s7).trans s8).trans s9).trans s10)⟩
      · rintro σ H6 ⟨v, rfl, s6⟩
        walk_at "rd"
        exact k _

end Law
namespace Law
open PySem PySem.Spec PyProof.Rows L2 My
theorem all_mk {l : PySem.W.OpenLaw} {w : World} {K : PySem.W.Frag} {h : Heap} {mg : Str → Option Value} {fa : Addr} (X : K.In h) (G : h.Ns mainGlobals mg) (hfa : mg "law" = some (.ref fa))
    {od0 an0 : Option Addr} {sl0 : Array (Option Value)} {oc0 kV0 dc0 pm0 cd0 ct0 : Value} {f0 : Addr}
    {od1 an1 : Option Addr} {sl1 : Array (Option Value)} {oc1 kV1 dc1 pm1 cd1 ct1 : Value} {f1 : Addr}
    {od2 an2 : Option Addr} {sl2 : Array (Option Value)} {oc2 kV2 dc2 pm2 cd2 ct2 : Value} {f2 : Addr}
    {od3 an3 : Option Addr} {sl3 : Array (Option Value)} {oc3 kV3 dc3 pm3 cd3 ct3 : Value} {f3 : Addr}
    {od4 an4 : Option Addr} {sl4 : Array (Option Value)} {oc4 kV4 dc4 pm4 cd4 ct4 : Value} {f4 : Addr}
    {od5 an5 : Option Addr} {sl5 : Array (Option Value)} {oc5 kV5 dc5 pm5 cd5 ct5 : Value} {f5 : Addr}
    {od6 an6 : Option Addr} {sl6 : Array (Option Value)} {oc6 kV6 dc6 pm6 cd6 ct6 : Value} {f6 : Addr}
    {od7 an7 : Option Addr} {sl7 : Array (Option Value)} {oc7 kV7 dc7 pm7 cd7 ct7 : Value} {f7 : Addr}
    {od8 an8 : Option Addr} {sl8 : Array (Option Value)} {oc8 kV8 dc8 pm8 cd8 ct8 : Value} {f8 : Addr}
    {od9 an9 : Option Addr} {sl9 : Array (Option Value)} {oc9 kV9 dc9 pm9 cd9 ct9 : Value} {f9 : Addr}
    {od10 an10 : Option Addr} {sl10 : Array (Option Value)} {oc10 kV10 dc10 pm10 cd10 ct10 : Value} {f10 : Addr}
    {od11 an11 : Option Addr} {sl11 : Array (Option Value)} {oc11 kV11 dc11 pm11 cd11 ct11 : Value} {f11 : Addr}
    {od12 an12 : Option Addr} {sl12 : Array (Option Value)} {oc12 kV12 dc12 pm12 cd12 ct12 : Value} {f12 : Addr}
    {od13 an13 : Option Addr} {sl13 : Array (Option Value)} {oc13 kV13 dc13 pm13 cd13 ct13 : Value} {f13 : Addr}
    {od14 an14 : Option Addr} {sl14 : Array (Option Value)} {oc14 kV14 dc14 pm14 cd14 ct14 : Value} {f14 : Addr}
    {od15 an15 : Option Addr} {sl15 : Array (Option Value)} {oc15 kV15 dc15 pm15 cd15 ct15 : Value} {f15 : Addr}
    {od16 an16 : Option Addr} {sl16 : Array (Option Value)} {oc16 kV16 dc16 pm16 cd16 ct16 : Value} {f16 : Addr}
    {od17 an17 : Option Addr} {sl17 : Array (Option Value)} {oc17 kV17 dc17 pm17 cd17 ct17 : Value} {f17 : Addr}
    {od18 an18 : Option Addr} {sl18 : Array (Option Value)} {oc18 kV18 dc18 pm18 cd18 ct18 : Value} {f18 : Addr}
    {X0 : Addr}
    {X1 : Addr}
    {X2 : Addr}
    {X3 : Addr}
    {X4 : Addr}
    {X5 : Addr}
    {X6 : Addr}
    {X7 : Addr}
    {X8 : Addr}
    {X9 : Addr}
    {tk0 : Tok}
    {tk1 : Tok}
    {tk2 : Tok}
    {tk3 : Tok}
    {tk4 : Tok}
    (a0 : PySem.W.nsIn K mainGlobals "number_at" = some (some (.ref f0)))
    (a1 : PySem.W.nsIn K mainGlobals "quoted_at" = some (some (.ref f1)))
    (a2 : PySem.W.nsIn K mainGlobals "tuple_at" = some (some (.ref f2)))
    (a3 : PySem.W.nsIn K mainGlobals "key_at" = some (some (.ref f3)))
    (a4 : PySem.W.nsIn K mainGlobals "read_key" = some (some (.ref f4)))
    (a5 : PySem.W.nsIn K mainGlobals "read_keys" = some (some (.ref f5)))
    (a6 : PySem.W.nsIn K mainGlobals "_law_cell_at" = some (some (.ref f6)))
    (a7 : PySem.W.nsIn K mainGlobals "_law_sign" = some (some (.ref f7)))
    (a8 : PySem.W.nsIn K mainGlobals "_law_leaf" = some (some (.ref f8)))
    (a9 : PySem.W.nsIn K mainGlobals "_law_key" = some (some (.ref f9)))
    (a10 : PySem.W.nsIn K mainGlobals "_law_written" = some (some (.ref f10)))
    (a11 : PySem.W.nsIn K mainGlobals "_law_odd" = some (some (.ref f11)))
    (a12 : PySem.W.nsIn K mainGlobals "_law_spoiled" = some (some (.ref f12)))
    (a13 : PySem.W.nsIn K mainGlobals "_law_given" = some (some (.ref f13)))
    (a14 : PySem.W.nsIn K mainGlobals "_law_is_key" = some (some (.ref f14)))
    (a15 : PySem.W.nsIn K mainGlobals "_law_just" = some (some (.ref f15)))
    (a16 : PySem.W.nsIn K mainGlobals "_law_read" = some (some (.ref f16)))
    (a17 : PySem.W.nsIn K mainGlobals "_law_holds" = some (some (.ref f17)))
    (a18 : PySem.W.nsIn K mainGlobals "law" = some (some (.ref f18)))
    (xa0 : PySem.W.nsIn K mainGlobals "BookError" = some (some (.ref X0)))
    (xa1 : PySem.W.nsIn K mainGlobals "NoText" = some (some (.ref X1)))
    (xa2 : PySem.W.nsIn K mainGlobals "Broken" = some (some (.ref X2)))
    (xa3 : PySem.W.nsIn K mainGlobals "Full" = some (some (.ref X3)))
    (xa4 : PySem.W.nsIn K mainGlobals "Lacking" = some (some (.ref X4)))
    (xa5 : PySem.W.nsIn K mainGlobals "NoDeed" = some (some (.ref X5)))
    (xa6 : PySem.W.nsIn K mainGlobals "NoKey" = some (some (.ref X6)))
    (xa7 : PySem.W.nsIn K mainGlobals "NoName" = some (some (.ref X7)))
    (xa8 : PySem.W.nsIn K mainGlobals "NoSize" = some (some (.ref X8)))
    (xa9 : PySem.W.nsIn K mainGlobals "Twice" = some (some (.ref X9)))
    (l0 : K.lookup f0 = some ⟨oc0, od0, .func (PySem.W.fnOf "number_at" "number_at" (defArgs s_number_at) (defBody s_number_at) (defScope s_number_at) .none kV0 dc0 pm0 an0 cd0 ct0), sl0⟩)
    (d0 : PySem.W.codeIn K cd0 "number_at" = true)
    (k0 : PySem.W.keepIn K (.ref f0) = true)
    (l1 : K.lookup f1 = some ⟨oc1, od1, .func (PySem.W.fnOf "quoted_at" "quoted_at" (defArgs s_quoted_at) (defBody s_quoted_at) (defScope s_quoted_at) .none kV1 dc1 pm1 an1 cd1 ct1), sl1⟩)
    (d1 : PySem.W.codeIn K cd1 "quoted_at" = true)
    (k1 : PySem.W.keepIn K (.ref f1) = true)
    (l2 : K.lookup f2 = some ⟨oc2, od2, .func (PySem.W.fnOf "tuple_at" "tuple_at" (defArgs s_tuple_at) (defBody s_tuple_at) (defScope s_tuple_at) .none kV2 dc2 pm2 an2 cd2 ct2), sl2⟩)
    (d2 : PySem.W.codeIn K cd2 "tuple_at" = true)
    (k2 : PySem.W.keepIn K (.ref f2) = true)
    (l3 : K.lookup f3 = some ⟨oc3, od3, .func (PySem.W.fnOf "key_at" "key_at" (defArgs s_key_at) (defBody s_key_at) (defScope s_key_at) .none kV3 dc3 pm3 an3 cd3 ct3), sl3⟩)
    (d3 : PySem.W.codeIn K cd3 "key_at" = true)
    (k3 : PySem.W.keepIn K (.ref f3) = true)
    (l4 : K.lookup f4 = some ⟨oc4, od4, .func (PySem.W.fnOf "read_key" "read_key" (defArgs s_read_key) (defBody s_read_key) (defScope s_read_key) .none kV4 dc4 pm4 an4 cd4 ct4), sl4⟩)
    (d4 : PySem.W.codeIn K cd4 "read_key" = true)
    (k4 : PySem.W.keepIn K (.ref f4) = true)
    (l5 : K.lookup f5 = some ⟨oc5, od5, .func (PySem.W.fnOf "read_keys" "read_keys" (defArgs s_read_keys) (defBody s_read_keys) (defScope s_read_keys) .none kV5 dc5 pm5 an5 cd5 ct5), sl5⟩)
    (d5 : PySem.W.codeIn K cd5 "read_keys" = true)
    (k5 : PySem.W.keepIn K (.ref f5) = true)
    (l6 : K.lookup f6 = some ⟨oc6, od6, .func (PySem.W.fnOf "_law_cell_at" "_law_cell_at" (defArgs s_law_cell_at) (defBody s_law_cell_at) (defScope s_law_cell_at) .none kV6 dc6 pm6 an6 cd6 ct6), sl6⟩)
    (d6 : PySem.W.codeIn K cd6 "_law_cell_at" = true)
    (k6 : PySem.W.keepIn K (.ref f6) = true)
    (l7 : K.lookup f7 = some ⟨oc7, od7, .func (PySem.W.fnOf "_law_sign" "_law_sign" (defArgs s_law_sign) (defBody s_law_sign) (defScope s_law_sign) .none kV7 dc7 pm7 an7 cd7 ct7), sl7⟩)
    (d7 : PySem.W.codeIn K cd7 "_law_sign" = true)
    (k7 : PySem.W.keepIn K (.ref f7) = true)
    (l8 : K.lookup f8 = some ⟨oc8, od8, .func (PySem.W.fnOf "_law_leaf" "_law_leaf" (defArgs s_law_leaf) (defBody s_law_leaf) (defScope s_law_leaf) .none kV8 dc8 pm8 an8 cd8 ct8), sl8⟩)
    (d8 : PySem.W.codeIn K cd8 "_law_leaf" = true)
    (k8 : PySem.W.keepIn K (.ref f8) = true)
    (l9 : K.lookup f9 = some ⟨oc9, od9, .func (PySem.W.fnOf "_law_key" "_law_key" (defArgs s_law_key) (defBody s_law_key) (defScope s_law_key) .none kV9 dc9 pm9 an9 cd9 ct9), sl9⟩)
    (d9 : PySem.W.codeIn K cd9 "_law_key" = true)
    (k9 : PySem.W.keepIn K (.ref f9) = true)
    (l10 : K.lookup f10 = some ⟨oc10, od10, .func (PySem.W.fnOf "_law_written" "_law_written" (defArgs s_law_written) (defBody s_law_written) (defScope s_law_written) .none kV10 dc10 pm10 an10 cd10 ct10), sl10⟩)
    (d10 : PySem.W.codeIn K cd10 "_law_written" = true)
    (k10 : PySem.W.keepIn K (.ref f10) = true)
    (l11 : K.lookup f11 = some ⟨oc11, od11, .func (PySem.W.fnOf "_law_odd" "_law_odd" (defArgs s_law_odd) (defBody s_law_odd) (defScope s_law_odd) .none kV11 dc11 pm11 an11 cd11 ct11), sl11⟩)
    (d11 : PySem.W.codeIn K cd11 "_law_odd" = true)
    (k11 : PySem.W.keepIn K (.ref f11) = true)
    (l12 : K.lookup f12 = some ⟨oc12, od12, .func (PySem.W.fnOf "_law_spoiled" "_law_spoiled" (defArgs s_law_spoiled) (defBody s_law_spoiled) (defScope s_law_spoiled) .none kV12 dc12 pm12 an12 cd12 ct12), sl12⟩)
    (d12 : PySem.W.codeIn K cd12 "_law_spoiled" = true)
    (k12 : PySem.W.keepIn K (.ref f12) = true)
    (l13 : K.lookup f13 = some ⟨oc13, od13, .func (PySem.W.fnOf "_law_given" "_law_given" (defArgs s_law_given) (defBody s_law_given) (defScope s_law_given) .none kV13 dc13 pm13 an13 cd13 ct13), sl13⟩)
    (d13 : PySem.W.codeIn K cd13 "_law_given" = true)
    (k13 : PySem.W.keepIn K (.ref f13) = true)
    (l14 : K.lookup f14 = some ⟨oc14, od14, .func (PySem.W.fnOf "_law_is_key" "_law_is_key" (defArgs s_law_is_key) (defBody s_law_is_key) (defScope s_law_is_key) .none kV14 dc14 pm14 an14 cd14 ct14), sl14⟩)
    (d14 : PySem.W.codeIn K cd14 "_law_is_key" = true)
    (k14 : PySem.W.keepIn K (.ref f14) = true)
    (l15 : K.lookup f15 = some ⟨oc15, od15, .func (PySem.W.fnOf "_law_just" "_law_just" (defArgs s_law_just) (defBody s_law_just) (defScope s_law_just) .none kV15 dc15 pm15 an15 cd15 ct15), sl15⟩)
    (d15 : PySem.W.codeIn K cd15 "_law_just" = true)
    (k15 : PySem.W.keepIn K (.ref f15) = true)
    (l16 : K.lookup f16 = some ⟨oc16, od16, .func (PySem.W.fnOf "_law_read" "_law_read" (defArgs s_law_read) (defBody s_law_read) (defScope s_law_read) .none kV16 dc16 pm16 an16 cd16 ct16), sl16⟩)
    (d16 : PySem.W.codeIn K cd16 "_law_read" = true)
    (k16 : PySem.W.keepIn K (.ref f16) = true)
    (l17 : K.lookup f17 = some ⟨oc17, od17, .func (PySem.W.fnOf "_law_holds" "_law_holds" (defArgs s_law_holds) (defBody s_law_holds) (defScope s_law_holds) .none kV17 dc17 pm17 an17 cd17 ct17), sl17⟩)
    (d17 : PySem.W.codeIn K cd17 "_law_holds" = true)
    (k17 : PySem.W.keepIn K (.ref f17) = true)
    (l18 : K.lookup f18 = some ⟨oc18, od18, .func (PySem.W.fnOf "law" "law" (defArgs s_law) (defBody s_law) (defScope s_law) .none kV18 dc18 pm18 an18 cd18 ct18), sl18⟩)
    (d18 : PySem.W.codeIn K cd18 "law" = true)
    (k18 : PySem.W.keepIn K (.ref f18) = true)
    (xx0 : PySem.W.excIn K X0 [.type "ValueError", .type "Exception", .type "BaseException", .type "object"] "ValueError.__new__" = true)
    (xk0 : PySem.W.keepIn K (.ref X0) = true)
    (xb0 : PySem.W.subIn K (.ref X0) (.type "BaseException") = some true)
    (xt0 : PySem.W.typeIn K (.ref X0) = some (.type "type"))
    (xx1 : PySem.W.excIn K X1 [.type "ValueError", .type "Exception", .type "BaseException", .type "object"] "ValueError.__new__" = true)
    (xk1 : PySem.W.keepIn K (.ref X1) = true)
    (xb1 : PySem.W.subIn K (.ref X1) (.type "BaseException") = some true)
    (xt1 : PySem.W.typeIn K (.ref X1) = some (.type "type"))
    (xx2 : PySem.W.excIn K X2 [.type "ValueError", .type "Exception", .type "BaseException", .type "object"] "ValueError.__new__" = true)
    (xk2 : PySem.W.keepIn K (.ref X2) = true)
    (xb2 : PySem.W.subIn K (.ref X2) (.type "BaseException") = some true)
    (xt2 : PySem.W.typeIn K (.ref X2) = some (.type "type"))
    (xx3 : PySem.W.excIn K X3 [.type "ValueError", .type "Exception", .type "BaseException", .type "object"] "ValueError.__new__" = true)
    (xk3 : PySem.W.keepIn K (.ref X3) = true)
    (xb3 : PySem.W.subIn K (.ref X3) (.type "BaseException") = some true)
    (xt3 : PySem.W.typeIn K (.ref X3) = some (.type "type"))
    (xx4 : PySem.W.excIn K X4 [.type "ValueError", .type "Exception", .type "BaseException", .type "object"] "ValueError.__new__" = true)
    (xk4 : PySem.W.keepIn K (.ref X4) = true)
    (xb4 : PySem.W.subIn K (.ref X4) (.type "BaseException") = some true)
    (xt4 : PySem.W.typeIn K (.ref X4) = some (.type "type"))
    (xx5 : PySem.W.excIn K X5 [.type "ValueError", .type "Exception", .type "BaseException", .type "object"] "ValueError.__new__" = true)
    (xk5 : PySem.W.keepIn K (.ref X5) = true)
    (xb5 : PySem.W.subIn K (.ref X5) (.type "BaseException") = some true)
    (xt5 : PySem.W.typeIn K (.ref X5) = some (.type "type"))
    (xx6 : PySem.W.excIn K X6 [.type "ValueError", .type "Exception", .type "BaseException", .type "object"] "ValueError.__new__" = true)
    (xk6 : PySem.W.keepIn K (.ref X6) = true)
    (xb6 : PySem.W.subIn K (.ref X6) (.type "BaseException") = some true)
    (xt6 : PySem.W.typeIn K (.ref X6) = some (.type "type"))
    (xx7 : PySem.W.excIn K X7 [.type "ValueError", .type "Exception", .type "BaseException", .type "object"] "ValueError.__new__" = true)
    (xk7 : PySem.W.keepIn K (.ref X7) = true)
    (xb7 : PySem.W.subIn K (.ref X7) (.type "BaseException") = some true)
    (xt7 : PySem.W.typeIn K (.ref X7) = some (.type "type"))
    (xx8 : PySem.W.excIn K X8 [.type "ValueError", .type "Exception", .type "BaseException", .type "object"] "ValueError.__new__" = true)
    (xk8 : PySem.W.keepIn K (.ref X8) = true)
    (xb8 : PySem.W.subIn K (.ref X8) (.type "BaseException") = some true)
    (xt8 : PySem.W.typeIn K (.ref X8) = some (.type "type"))
    (xx9 : PySem.W.excIn K X9 [.type "ValueError", .type "Exception", .type "BaseException", .type "object"] "ValueError.__new__" = true)
    (xk9 : PySem.W.keepIn K (.ref X9) = true)
    (xb9 : PySem.W.subIn K (.ref X9) (.type "BaseException") = some true)
    (xt9 : PySem.W.typeIn K (.ref X9) = some (.type "type"))
    (xi0 : PySem.W.isClsIn K X0 = true)
    (xs0 : PySem.W.subIn K (.ref X1) (.ref X0) = some true)
    (eg0 : PySem.W.findIn K (.ref X1) "__getattribute__" = some (some (.builtin "BaseException.__getattribute__")))
    (ek0 : PySem.W.findIn K (.ref X1) "__getattr__" = some none)
    (ed0 : PySem.W.hasDictIn K X1 = true)
    (ea0 : PySem.W.findIn K (.ref X1) "__class__" = some (some (.builtin "object.__class__")))
    (em0 : PySem.W.mroIn K X1 (.type "object") = some true)
    (in0 : PySem.W.specialIn K (.builtin "object.__class__") "__get__" = some (some (.builtin "getset_descriptor.__get__")))
    (it0 : PySem.W.takesIn K (.builtin "object.__class__") = some true)
    (iox0 : PySem.W.kitOne K (.ref X1) (.type "ValueError") = some true)
    (iox1 : PySem.W.kitOne K (.ref X1) (.ref X1) = some true)
    (iox2 : PySem.W.kitOne K (.ref X1) (.ref X2) = some false)
    (iox3 : PySem.W.kitOne K (.ref X1) (.ref X3) = some false)
    (iox4 : PySem.W.kitOne K (.ref X1) (.ref X4) = some false)
    (iox5 : PySem.W.kitOne K (.ref X1) (.ref X5) = some false)
    (iox6 : PySem.W.kitOne K (.ref X1) (.ref X6) = some false)
    (iox7 : PySem.W.kitOne K (.ref X1) (.ref X7) = some false)
    (iox8 : PySem.W.kitOne K (.ref X1) (.ref X8) = some false)
    (iox9 : PySem.W.kitOne K (.ref X1) (.ref X9) = some false)
    (gl0 : PySem.W.nsIn K mainGlobals "MOST_SIGNS" = some (some (.int 60 tk0)))
    (gl1 : PySem.W.nsIn K mainGlobals "MOST_PARTS" = some (some (.int 6 tk1)))
    (gl2 : PySem.W.nsIn K mainGlobals "DEEPEST" = some (some (.int 3 tk2)))
    (gl3 : PySem.W.nsIn K mainGlobals "FIGURES" = some (some (.str (Str.ofString "0123456789") tk3)))
    (gl4 : PySem.W.nsIn K mainGlobals "MOST_FIGURES" = some (some (.int 60 tk4)))
    (n_ValueError : PySem.W.nsIn K mainGlobals "ValueError" = some none)
    (n_all : PySem.W.nsIn K mainGlobals "all" = some none)
    (n_any : PySem.W.nsIn K mainGlobals "any" = some none)
    (n_bool : PySem.W.nsIn K mainGlobals "bool" = some none)
    (n_int : PySem.W.nsIn K mainGlobals "int" = some none)
    (n_isinstance : PySem.W.nsIn K mainGlobals "isinstance" = some none)
    (n_len : PySem.W.nsIn K mainGlobals "len" = some none)
    (n_list : PySem.W.nsIn K mainGlobals "list" = some none)
    (n_range : PySem.W.nsIn K mainGlobals "range" = some none)
    (n_str : PySem.W.nsIn K mainGlobals "str" = some none)
    (n_tuple : PySem.W.nsIn K mainGlobals "tuple" = some none) :
    ∃ fd : FuncData, (∀ (s : Shared) (v : Value), BindsTo s fd ⟨[v], []⟩ [("_law_script", v)]) ∧ ∀ base : Heap, K.In base → base.Ns mainGlobals mg → FnOk l.prog w K mg base CX0 13 fa fd ["_law_script"] (spLawB K) := by
  have e := hfa.symm.trans (PySem.W.mg_of X G a18)
  cases e
  have T : Txt K mg ⟨f0, PySem.W.fnOf "number_at" "number_at" (defArgs s_number_at) (defBody s_number_at) (defScope s_number_at) .none kV0 dc0 pm0 an0 cd0 ct0, f1, PySem.W.fnOf "quoted_at" "quoted_at" (defArgs s_quoted_at) (defBody s_quoted_at) (defScope s_quoted_at) .none kV1 dc1 pm1 an1 cd1 ct1, f2, PySem.W.fnOf "tuple_at" "tuple_at" (defArgs s_tuple_at) (defBody s_tuple_at) (defScope s_tuple_at) .none kV2 dc2 pm2 an2 cd2 ct2, f3, PySem.W.fnOf "key_at" "key_at" (defArgs s_key_at) (defBody s_key_at) (defScope s_key_at) .none kV3 dc3 pm3 an3 cd3 ct3, f4, PySem.W.fnOf "read_key" "read_key" (defArgs s_read_key) (defBody s_read_key) (defScope s_read_key) .none kV4 dc4 pm4 an4 cd4 ct4, f5, PySem.W.fnOf "read_keys" "read_keys" (defArgs s_read_keys) (defBody s_read_keys) (defScope s_read_keys) .none kV5 dc5 pm5 an5 cd5 ct5, f6, PySem.W.fnOf "_law_cell_at" "_law_cell_at" (defArgs s_law_cell_at) (defBody s_law_cell_at) (defScope s_law_cell_at) .none kV6 dc6 pm6 an6 cd6 ct6, f7, PySem.W.fnOf "_law_sign" "_law_sign" (defArgs s_law_sign) (defBody s_law_sign) (defScope s_law_sign) .none kV7 dc7 pm7 an7 cd7 ct7, f8, PySem.W.fnOf "_law_leaf" "_law_leaf" (defArgs s_law_leaf) (defBody s_law_leaf) (defScope s_law_leaf) .none kV8 dc8 pm8 an8 cd8 ct8, f9, PySem.W.fnOf "_law_key" "_law_key" (defArgs s_law_key) (defBody s_law_key) (defScope s_law_key) .none kV9 dc9 pm9 an9 cd9 ct9, f10, PySem.W.fnOf "_law_written" "_law_written" (defArgs s_law_written) (defBody s_law_written) (defScope s_law_written) .none kV10 dc10 pm10 an10 cd10 ct10, f11, PySem.W.fnOf "_law_odd" "_law_odd" (defArgs s_law_odd) (defBody s_law_odd) (defScope s_law_odd) .none kV11 dc11 pm11 an11 cd11 ct11, f12, PySem.W.fnOf "_law_spoiled" "_law_spoiled" (defArgs s_law_spoiled) (defBody s_law_spoiled) (defScope s_law_spoiled) .none kV12 dc12 pm12 an12 cd12 ct12, f13, PySem.W.fnOf "_law_given" "_law_given" (defArgs s_law_given) (defBody s_law_given) (defScope s_law_given) .none kV13 dc13 pm13 an13 cd13 ct13, f14, PySem.W.fnOf "_law_is_key" "_law_is_key" (defArgs s_law_is_key) (defBody s_law_is_key) (defScope s_law_is_key) .none kV14 dc14 pm14 an14 cd14 ct14, f15, PySem.W.fnOf "_law_just" "_law_just" (defArgs s_law_just) (defBody s_law_just) (defScope s_law_just) .none kV15 dc15 pm15 an15 cd15 ct15, f16, PySem.W.fnOf "_law_read" "_law_read" (defArgs s_law_read) (defBody s_law_read) (defScope s_law_read) .none kV16 dc16 pm16 an16 cd16 ct16, f17, PySem.W.fnOf "_law_holds" "_law_holds" (defArgs s_law_holds) (defBody s_law_holds) (defScope s_law_holds) .none kV17 dc17 pm17 an17 cd17 ct17, fa, PySem.W.fnOf "law" "law" (defArgs s_law) (defBody s_law) (defScope s_law) .none kV18 dc18 pm18 an18 cd18 ct18, X0, X1, X2, X3, X4, X5, X6, X7, X8, X9, tk0, tk1, tk2, tk3, tk4⟩ := ⟨fun_mk (st := s_number_at) l0 d0 k0,
    (fun_mk (st := s_number_at) l0 d0 k0).binds (ps := ["text", "at"]) fun _ _ _ _ _ _ us hl => match us, hl with | [_, _], _ => rfl,
    PySem.W.mg_of X G a0,
    fun_mk (st := s_quoted_at) l1 d1 k1,
    (fun_mk (st := s_quoted_at) l1 d1 k1).binds (ps := ["text", "at"]) fun _ _ _ _ _ _ us hl => match us, hl with | [_, _], _ => rfl,
    PySem.W.mg_of X G a1,
    fun_mk (st := s_tuple_at) l2 d2 k2,
    (fun_mk (st := s_tuple_at) l2 d2 k2).binds (ps := ["text", "at", "deep"]) fun _ _ _ _ _ _ us hl => match us, hl with | [_, _, _], _ => rfl,
    PySem.W.mg_of X G a2,
    fun_mk (st := s_key_at) l3 d3 k3,
    (fun_mk (st := s_key_at) l3 d3 k3).binds (ps := ["text", "at", "deep"]) fun _ _ _ _ _ _ us hl => match us, hl with | [_, _, _], _ => rfl,
    PySem.W.mg_of X G a3,
    fun_mk (st := s_read_key) l4 d4 k4,
    (fun_mk (st := s_read_key) l4 d4 k4).binds (ps := ["text"]) fun _ _ _ _ _ _ us hl => match us, hl with | [_], _ => rfl,
    PySem.W.mg_of X G a4,
    fun_mk (st := s_read_keys) l5 d5 k5,
    (fun_mk (st := s_read_keys) l5 d5 k5).binds (ps := ["text"]) fun _ _ _ _ _ _ us hl => match us, hl with | [_], _ => rfl,
    PySem.W.mg_of X G a5,
    fun_mk (st := s_law_cell_at) l6 d6 k6,
    (fun_mk (st := s_law_cell_at) l6 d6 k6).binds (ps := ["_law_script", "_law_k"]) fun _ _ _ _ _ _ us hl => match us, hl with | [_, _], _ => rfl,
    PySem.W.mg_of X G a6,
    fun_mk (st := s_law_sign) l7 d7 k7,
    (fun_mk (st := s_law_sign) l7 d7 k7).binds (ps := ["_law_number"]) fun _ _ _ _ _ _ us hl => match us, hl with | [_], _ => rfl,
    PySem.W.mg_of X G a7,
    fun_mk (st := s_law_leaf) l8 d8 k8,
    (fun_mk (st := s_law_leaf) l8 d8 k8).binds (ps := ["_law_cell", "_law_other"]) fun _ _ _ _ _ _ us hl => match us, hl with | [_, _], _ => rfl,
    PySem.W.mg_of X G a8,
    fun_mk (st := s_law_key) l9 d9 k9,
    (fun_mk (st := s_law_key) l9 d9 k9).binds (ps := ["_law_script", "_law_at"]) fun _ _ _ _ _ _ us hl => match us, hl with | [_, _], _ => rfl,
    PySem.W.mg_of X G a9,
    fun_mk (st := s_law_written) l10 d10 k10,
    (fun_mk (st := s_law_written) l10 d10 k10).binds (ps := ["_law_key_here"]) fun _ _ _ _ _ _ us hl => match us, hl with | [_], _ => rfl,
    PySem.W.mg_of X G a10,
    fun_mk (st := s_law_odd) l11 d11 k11,
    (fun_mk (st := s_law_odd) l11 d11 k11).binds (ps := ["_law_cell"]) fun _ _ _ _ _ _ us hl => match us, hl with | [_], _ => rfl,
    PySem.W.mg_of X G a11,
    fun_mk (st := s_law_spoiled) l12 d12 k12,
    (fun_mk (st := s_law_spoiled) l12 d12 k12).binds (ps := ["_law_text", "_law_cell", "_law_other"]) fun _ _ _ _ _ _ us hl => match us, hl with | [_, _, _], _ => rfl,
    PySem.W.mg_of X G a12,
    fun_mk (st := s_law_given) l13 d13 k13,
    (fun_mk (st := s_law_given) l13 d13 k13).binds (ps := ["_law_script"]) fun _ _ _ _ _ _ us hl => match us, hl with | [_], _ => rfl,
    PySem.W.mg_of X G a13,
    fun_mk (st := s_law_is_key) l14 d14 k14,
    (fun_mk (st := s_law_is_key) l14 d14 k14).binds (ps := ["_law_found", "_law_deep"]) fun _ _ _ _ _ _ us hl => match us, hl with | [_, _], _ => rfl,
    PySem.W.mg_of X G a14,
    fun_mk (st := s_law_just) l15 d15 k15,
    (fun_mk (st := s_law_just) l15 d15 k15).binds (ps := ["_law_error"]) fun _ _ _ _ _ _ us hl => match us, hl with | [_], _ => rfl,
    PySem.W.mg_of X G a15,
    fun_mk (st := s_law_read) l16 d16 k16,
    (fun_mk (st := s_law_read) l16 d16 k16).binds (ps := ["_law_thing", "_law_one"]) fun _ _ _ _ _ _ us hl => match us, hl with | [_, _], _ => rfl,
    PySem.W.mg_of X G a16,
    fun_mk (st := s_law_holds) l17 d17 k17,
    (fun_mk (st := s_law_holds) l17 d17 k17).binds (ps := ["_law_thing", "_law_one"]) fun _ _ _ _ _ _ us hl => match us, hl with | [_, _], _ => rfl,
    PySem.W.mg_of X G a17,
    fun_mk (st := s_law) l18 d18 k18,
    (fun_mk (st := s_law) l18 d18 k18).binds (ps := ["_law_script"]) fun _ _ _ _ _ _ us hl => match us, hl with | [_], _ => rfl,
    PySem.W.mg_of X G a18,
    PySem.W.mg_of X G xa0,
    xx0,
    xk0,
    xb0,
    xt0,
    PySem.W.mg_of X G xa1,
    xx1,
    xk1,
    xb1,
    xt1,
    PySem.W.mg_of X G xa2,
    xx2,
    xk2,
    xb2,
    xt2,
    PySem.W.mg_of X G xa3,
    xx3,
    xk3,
    xb3,
    xt3,
    PySem.W.mg_of X G xa4,
    xx4,
    xk4,
    xb4,
    xt4,
    PySem.W.mg_of X G xa5,
    xx5,
    xk5,
    xb5,
    xt5,
    PySem.W.mg_of X G xa6,
    xx6,
    xk6,
    xb6,
    xt6,
    PySem.W.mg_of X G xa7,
    xx7,
    xk7,
    xb7,
    xt7,
    PySem.W.mg_of X G xa8,
    xx8,
    xk8,
    xb8,
    xt8,
    PySem.W.mg_of X G xa9,
    xx9,
    xk9,
    xb9,
    xt9,
    ⟨eg0, ek0, xb1, ed0, ea0, in0, it0, em0⟩,
    iox0,
    iox1,
    iox2,
    iox3,
    iox4,
    iox5,
    iox6,
    iox7,
    iox8,
    iox9,
    exm_of2 xb0 xi0 xt0 xs0,
    PySem.W.mg_of X G gl0,
    PySem.W.mg_of X G gl1,
    PySem.W.mg_of X G gl2,
    PySem.W.mg_of X G gl3,
    PySem.W.mg_of X G gl4,
    PySem.W.mg_none_of X G n_ValueError,
    PySem.W.mg_none_of X G n_all,
    PySem.W.mg_none_of X G n_any,
    PySem.W.mg_none_of X G n_bool,
    PySem.W.mg_none_of X G n_int,
    PySem.W.mg_none_of X G n_isinstance,
    PySem.W.mg_none_of X G n_len,
    PySem.W.mg_none_of X G n_list,
    PySem.W.mg_none_of X G n_range,
    PySem.W.mg_none_of X G n_str,
    PySem.W.mg_none_of X G n_tuple⟩
  exact ⟨_, fun s v => .of_eq rfl, fun base _ _ => ok_law T⟩
theorem walk {l : PySem.W.OpenLaw} {q : Program} {loose : List Str} {XP : (Str → Option Value) → Heap → Prop} {YP : World → Heap → Prop} {d : DefRec} {K : Params → PySem.W.Frag} (hn : l.most = some 63) (hdf : d.params.defaults = [])
    (hY : ∀ (w : World) (h : Heap), YP w h → (K w.params).In h)
    (F : ∀ (w : World) (mg : Str → Option Value) (fa : Addr) (h : Heap), (K w.params).In h → h.Ns mainGlobals mg → mg d.name = some (.ref fa) →
      ∃ fd : FuncData, (∀ (s : Shared) (u : Value), BindsTo s fd ⟨[u], []⟩ [("_law_script", u)]) ∧ ∀ base : Heap, (K w.params).In base → base.Ns mainGlobals mg → FnOk l.prog w (K w.params) mg base CX0 13 fa fd ["_law_script"] (spLawB (K w.params))) :
    PySem.W.WalkO q loose XP YP l.row.toRowW d [] (fun f vs => PySem.call f vs) :=
  L2.walk_ofB (n := 63) (k := 13) (x := "_law_script") (CX := fun _ => CX0) (sp := fun w => spLawB (K w.params)) hn (by decide) hdf ⟨rfl, by decide, by decide⟩ hY F (fun _ _ a ns hl hb _ hS => ⟨a, ns, rfl, hS, hl, fun n m => Bd.of_bits (hb n m), fun _ => rfl⟩) fun _ _ _ _ _ z => z

end Law

open PySem PySem.W PyProof.Rows
set_option maxRecDepth 100000 in
set_option maxHeartbeats 0 in
theorem PySem.Challenge.cw_slotbook_k92_texts_refused_holds : PySem.Challenge.rw_slotbook_k92_texts_refused.Holds := by
  w_on; o_law; k_head; (case hw => w_witness2)
  k_fill
  refine Law.walk (l := PySem.Challenge.rw_slotbook_k92_texts_refused) rfl rfl (fun w h Y => PySem.W.kIn_of Y) ?F
  case F =>
    intro w mg fa h KX G hmg
    refine' Law.all_mk KX G hmg ?a0 ?a1 ?a2 ?a3 ?a4 ?a5 ?a6 ?a7 ?a8 ?a9 ?a10 ?a11 ?a12 ?a13 ?a14 ?a15 ?a16 ?a17 ?a18 ?xa0 ?xa1 ?xa2 ?xa3 ?xa4 ?xa5 ?xa6 ?xa7 ?xa8 ?xa9 ?l0 ?d0 ?k0 ?l1 ?d1 ?k1 ?l2 ?d2 ?k2 ?l3 ?d3 ?k3 ?l4 ?d4 ?k4 ?l5 ?d5 ?k5 ?l6 ?d6 ?k6 ?l7 ?d7 ?k7 ?l8 ?d8 ?k8 ?l9 ?d9 ?k9 ?l10 ?d10 ?k10 ?l11 ?d11 ?k11 ?l12 ?d12 ?k12 ?l13 ?d13 ?k13 ?l14 ?d14 ?k14 ?l15 ?d15 ?k15 ?l16 ?d16 ?k16 ?l17 ?d17 ?k17 ?l18 ?d18 ?k18 ?xx0 ?xk0 ?xb0 ?xt0 ?xx1 ?xk1 ?xb1 ?xt1 ?xx2 ?xk2 ?xb2 ?xt2 ?xx3 ?xk3 ?xb3 ?xt3 ?xx4 ?xk4 ?xb4 ?xt4 ?xx5 ?xk5 ?xb5 ?xt5 ?xx6 ?xk6 ?xb6 ?xt6 ?xx7 ?xk7 ?xb7 ?xt7 ?xx8 ?xk8 ?xb8 ?xt8 ?xx9 ?xk9 ?xb9 ?xt9 ?xi0 ?xs0 ?eg0 ?ek0 ?ed0 ?ea0 ?em0 ?in0 ?it0 ?iox0 ?iox1 ?iox2 ?iox3 ?iox4 ?iox5 ?iox6 ?iox7 ?iox8 ?iox9 ?gl0 ?gl1 ?gl2 ?gl3 ?gl4 ?n_ValueError ?n_all ?n_any ?n_bool ?n_int ?n_isinstance ?n_len ?n_list ?n_range ?n_str ?n_tuple
    (case a0 => k_is)
    (case a1 => k_is)
    (case a2 => k_is)
    (case a3 => k_is)
    (case a4 => k_is)
    (case a5 => k_is)
    (case a6 => k_is)
    (case a7 => k_is)
    (case a8 => k_is)
    (case a9 => k_is)
    (case a10 => k_is)
    (case a11 => k_is)
    (case a12 => k_is)
    (case a13 => k_is)
    (case a14 => k_is)
    (case a15 => k_is)
    (case a16 => k_is)
    (case a17 => k_is)
    (case a18 => k_is)
    (case xa0 => k_is)
    (case xa1 => k_is)
    (case xa2 => k_is)
    (case xa3 => k_is)
    (case xa4 => k_is)
    (case xa5 => k_is)
    (case xa6 => k_is)
    (case xa7 => k_is)
    (case xa8 => k_is)
    (case xa9 => k_is)
    (case l0 => k_is)
    (case d0 => k_is)
    (case k0 => k_is)
    (case l1 => k_is)
    (case d1 => k_is)
    (case k1 => k_is)
    (case l2 => k_is)
    (case d2 => k_is)
    (case k2 => k_is)
    (case l3 => k_is)
    (case d3 => k_is)
    (case k3 => k_is)
    (case l4 => k_is)
    (case d4 => k_is)
    (case k4 => k_is)
    (case l5 => k_is)
    (case d5 => k_is)
    (case k5 => k_is)
    (case l6 => k_is)
    (case d6 => k_is)
    (case k6 => k_is)
    (case l7 => k_is)
    (case d7 => k_is)
    (case k7 => k_is)
    (case l8 => k_is)
    (case d8 => k_is)
    (case k8 => k_is)
    (case l9 => k_is)
    (case d9 => k_is)
    (case k9 => k_is)
    (case l10 => k_is)
    (case d10 => k_is)
    (case k10 => k_is)
    (case l11 => k_is)
    (case d11 => k_is)
    (case k11 => k_is)
    (case l12 => k_is)
    (case d12 => k_is)
    (case k12 => k_is)
    (case l13 => k_is)
    (case d13 => k_is)
    (case k13 => k_is)
    (case l14 => k_is)
    (case d14 => k_is)
    (case k14 => k_is)
    (case l15 => k_is)
    (case d15 => k_is)
    (case k15 => k_is)
    (case l16 => k_is)
    (case d16 => k_is)
    (case k16 => k_is)
    (case l17 => k_is)
    (case d17 => k_is)
    (case k17 => k_is)
    (case l18 => k_is)
    (case d18 => k_is)
    (case k18 => k_is)
    (case xx0 => k_exc)
    (case xk0 => k_is)
    (case xb0 => k_is)
    (case xt0 => k_is)
    (case xx1 => k_exc)
    (case xk1 => k_is)
    (case xb1 => k_is)
    (case xt1 => k_is)
    (case xx2 => k_exc)
    (case xk2 => k_is)
    (case xb2 => k_is)
    (case xt2 => k_is)
    (case xx3 => k_exc)
    (case xk3 => k_is)
    (case xb3 => k_is)
    (case xt3 => k_is)
    (case xx4 => k_exc)
    (case xk4 => k_is)
    (case xb4 => k_is)
    (case xt4 => k_is)
    (case xx5 => k_exc)
    (case xk5 => k_is)
    (case xb5 => k_is)
    (case xt5 => k_is)
    (case xx6 => k_exc)
    (case xk6 => k_is)
    (case xb6 => k_is)
    (case xt6 => k_is)
    (case xx7 => k_exc)
    (case xk7 => k_is)
    (case xb7 => k_is)
    (case xt7 => k_is)
    (case xx8 => k_exc)
    (case xk8 => k_is)
    (case xb8 => k_is)
    (case xt8 => k_is)
    (case xx9 => k_exc)
    (case xk9 => k_is)
    (case xb9 => k_is)
    (case xt9 => k_is)
    (case xi0 => k_is)
    (case xs0 => k_is)
    (case eg0 => k_is)
    (case ek0 => k_is)
    (case ed0 => k_is)
    (case ea0 => k_is)
    (case em0 => k_is)
    (case in0 => k_is)
    (case it0 => k_is)
    (case iox0 => kit_is)
    (case iox1 => kit_is)
    (case iox2 => kit_is)
    (case iox3 => kit_is)
    (case iox4 => kit_is)
    (case iox5 => kit_is)
    (case iox6 => kit_is)
    (case iox7 => kit_is)
    (case iox8 => kit_is)
    (case iox9 => kit_is)
    (case gl0 => k_is)
    (case gl1 => k_is)
    (case gl2 => k_is)
    (case gl3 => k_is)
    (case gl4 => k_is)
    (case n_ValueError => k_is)
    (case n_all => k_is)
    (case n_any => k_is)
    (case n_bool => k_is)
    (case n_int => k_is)
    (case n_isinstance => k_is)
    (case n_len => k_is)
    (case n_list => k_is)
    (case n_range => k_is)
    (case n_str => k_is)
    (case n_tuple => k_is)
